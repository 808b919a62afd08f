import PyProof.Rows.All
import Wide.All
import OpenK.AllK
import Wide.FinOn
import PySem.Challenge.RW_pq0764_01
set_option Elab.async false
set_option linter.all false
set_option maxRecDepth 100000
set_option backward.eqns.nonrecursive false
set_option genSizeOf false
open List (find?_cons any_cons length_take all_cons mem_singleton nodup_nil drop_length getElem?_zip_eq_some of_mem_zip getElem?_take_of_lt mem_append_left getElem?_cons_zero map_nil take_succ_cons take_zero replicate_zero filter_cons tail_cons getLast?_concat dropLast_concat foldl_cons set_cons_succ set_cons_zero getD_cons_succ)
open Nat (add_le_add lt_irrefl sub_le sub_lt not_lt sub_eq_zero_of_le min_eq_left le_succ lt_succ_of_lt lt_trichotomy lt_asymm add_right_comm sub_self add_sub_cancel_left lt_or_ge succ_add add_le_add_right)
noncomputable section
section
open PySem PySem.W PySem.Calls PyProof.Rows PyProof.Rows.LCg
namespace Mine
def X6:=@List.length_map
def abi:=@List.mem_range'_1
def aae:=@Nat.le_of_eq
def Yy:=@Nat.ne_of_lt
def aax:=@Int.emod_lt_of_pos
def abn:=@List.flatten_cons
def Yz:=@Nat.lt_of_le_of_lt
def aay:=@wpAny_execs_cons
def Zt:=@List.getElem?_map
def aaz:=@List.eq_nil_of_length_eq_zero
def ZZ:=@Nat.le_of_not_lt
def Yv:=@decide_eq_true
def Ym:=@decide_eq_true_eq
def ZL:=@Heap.get?_push_of_some
def X7:=@Nat.add_assoc
def Xv:=@absurd
def Y4:=@List.mem_map_of_mem
def Yh:=@List.all_eq_true
def YM:=@List.getElem?_set_ne
def Zy:=@Nat.le_of_lt_succ
def Y5:=@List.map_map
def XC:=@wpAny_bind
def aal:=@Int.add_le_add_right
def XH:=@Nat.le_refl
def Yb:=@Nat.le_of_ble_eq_true
def Y6:=@Int.toNat_natCast
def Z7:=@List.mem_of_mem_take
def Z0:=@Nat.add_le_add_left
def Yi:=@Int.le_trans
def YF:=@beq_iff_eq
def Zn:=@of_decide_eq_true
def YG:=@Int.natCast_nonneg
def Zd:=@Option.some.inj
def Yw:=@Bool.false_ne_true
def Z8:=@List.getElem?_eq_none
def YY:=@List.getElem?_append_right
def YN:=@Int.le_of_lt
def XO:=@Nat.lt_of_lt_of_le
def Yc:=@List.nodup_cons
def ZM:=@wpAny_field
def XD:=@List.mem_cons
def Yn:=@beq_eq_false_iff_ne
def aa8:=@Heap.get?_none_of_le
def Yx:=@Nat.zero_add
def ZN:=@List.length_set
def aa9:=@List.getElem?_of_mem
def Z9:=@List.mem_append_right
def aam:=@Int.add_sub_cancel
def aaa:=@Nat.not_lt_zero
def Zo:=@Option.some.injEq
def YC:=@Heap.lt_size
def YH:=@List.mem_append
def Yo:=@List.getElem?_eq_some_iff
def Z1:=@List.cons.inj
def Xy:=@congrArg
def YQ:=@List.mem_of_getElem?
def Y7:=@Nat.lt_of_succ_lt
def Yu:=@List.append_nil
def aan:=@wpAny_mono
def Yj:=@wpAny_pure
def Yr:=@List.getD_eq_getElem?_getD
def XG:=@Nat.ne_of_gt
def Xr:=@if_pos
def Y8:=@List.size_toArray
def Zp:=@Nat.lt_succ_self
def Y9:=@Int.not_lt
def XE:=@And.elim
def aao:=@Nat.ble_eq_true_of_le
def Z2:=@List.take_sublist
def aba:=@Nat.succ_le_succ
def ZO:=@List.length_reverse
def X1:=@Ne.symm
def aab:=@List.take_of_length_le
def YR:=@Option.map_eq_some_iff
def YZ:=@Nat.add_zero
def Za:=@Int.lt_of_lt_of_le
def ab7:=@decide_eq_false_iff_not
def aap:=@Int.lt_of_le_of_lt
def XB:=@List.length_append
def Xs:=@Exists.elim
def Xz:=@Nat.le_trans
def X0:=@Nat.le_add_left
def Zz:=@List.forall_mem_cons
def YS:=@Bool.or_eq_true
def Zq:=@List.map_append
def X5:=@Nat.zero_le
def ZP:=@Bool.and_self
def XQ:=@List.getElem?_eq_getElem
def aaq:=@List.range'_succ
def aac:=@List.contains_iff_mem
def aad:=@wpAny_Constant_int
def Ze:=@Bool.false_eq_true
def YI:=@Nat.sub_add_cancel
def Y0:=@Nat.le_antisymm
def Ye:=@decide_eq_false
def ZE:=@Nat.lt_succ_of_le
def Zf:=@beq_self_eq_true
def aa0:=@Option.isSome_iff_exists
def YD:=@args_cons
def aaf:=@List.getElem?_set_self
def X2:=@Int.ofNat_lt
def XN:=@List.mem_map
def ZF:=@Int.emod_nonneg
def Y1:=@Int.ne_of_gt
def Z3:=@wpAny_loadName_local
def XR:=@Eq.trans
def XY:=@Nat.lt_trans
def Zu:=@Int.natCast_pos
def YT:=@List.nodup_append
def Xx:=@Nat.le_add_right
def aa1:=@List.exists_cons_of_length_eq_add_one
def aag:=@Heap.get?_update_other
def Xu:=@Bool.and_eq_true
def Yg:=@List.getElem?_append_left
def YU:=@Nat.le_of_lt
def YL:=@List.lookup_cons
def YA:=@List.map_congr_left
def XZ:=@List.not_mem_nil
def Zg:=@Int.add_assoc
def Y2:=@Nat.lt_of_le_of_ne
def Zv:=@Nat.le_succ_of_le
def Xq:=@if_neg
def Ys:=@Int.ofNat_le
def Zh:=@Int.toNat_of_nonneg
def Y3:=@Nat.add_comm
def Zi:=@Option.bind_some
def Zj:=@List.getElem_mem
def YE:=@Bool.not_eq_true'
def Zw:=@List.filterMap_cons
def XM:=@List.append_assoc
def aa2:=@List.dropLast_concat_getLast
theorem aM{a:b}{l:List b}:(a::l).length=l.length+1:=rfl
theorem bA:([]:List a).length=0:=rfl
theorem af{f:b->c}{a l}:(a::l).map f=f a::l.map f:=rfl
theorem bE{a:b}{s t:List b}:a::s++t=a::(s++t):=rfl
theorem dE{s:List a}:[]++s=s:=rfl
end Mine
end
section
namespace Mine.Lq
noncomputable def dg(f:Nat):Nat->List Nat:=Nat.rec (λ_=>[]) (λ_ r n=>n % 32::r (n/32)) f
def uF (a:List Nat):List Nat->List Nat:=List.rec (λb=>b) (λx l r b=>List.rec (x::l) (λy b _=>(x+y)::r b) b) a
def QH (k:Nat)(a:List Nat):List Nat:=List.rec [] (λx _ r=>(k*x)::r) a
def Q9 (a:List Nat):List Nat->Bool:=List.rec (λ_=>true) (λx _ r b=>List.rec (Nat.beq x 0&&r []) (λy b _=>Nat.ble x y&&r b) b) a
def jb (a:List Nat):(Nat->Nat)->Nat:=List.rec (λ_=>0) (λc _ r y=>c*y 0+r λi=>y<|i+1) a
noncomputable def vr(k:Nat):List Nat:=Nat.rec [1] (λ_ r=>0::r) k
noncomputable def cs(a:Nat)(f:Nat->Nat)(i:Nat):Nat:=Nat.rec a (λn _=>f n) i
def ds (k:Nat):List Nat->Nat×List Nat:=Nat.rec (λt=>(0,t)) (λ_ r t=>List.rec (0,[]) (λy t _=>(y+32*(r t).1,(r t).2)) t) k
def pN (t:List Nat):Nat×List Nat:=List.rec (0,[]) (λk t _=>ds (bif Nat.beq k 13 then 1 else bif Nat.beq k 14 then 2 else 5) t) t
abbrev Lx:=((Nat->Nat)->Nat)×List Nat×List Nat
abbrev LC:=((Nat->Nat)->Prop)×Bool×List Nat×List Nat×List Nat
abbrev eS (a b:Lx):Lx:=(λx=>a.1 x+b.1 x,uF a.2.1 b.2.1,b.2.2)
abbrev eM (n:Nat)(b:Lx):Lx:=(λx=>n*b.1 x,QH n b.2.1,b.2.2)
abbrev eW (n:Nat)(b:Lx):Lx:=(λx=>b.1 x*n,QH n b.2.1,b.2.2)
noncomputable abbrev eK(n:Nat×List Nat):Lx:=(λ_=>n.1,[n.1],n.2)
abbrev eV (k:Nat)(t:List Nat):Lx:=(λx=>x k,vr<|k+1,t)
abbrev W8 (r:List Nat->Lx)(k:Nat)(t:List Nat):Lx:=
 bif Nat.blt k 12 then eV k t else bif Nat.beq k 12 then eS (r t) (r (r t).2.2)else bif Nat.beq k 15 then eM (pN t).1 (r (pN t).2)else bif Nat.beq k 16 then eW (pN t).1 (r (pN t).2)else eK<|pN<|k::t
def pE (f:Nat):List Nat->Lx:=Nat.rec (λ_=>(λ_=>0,[],[])) (λ_ r t=>List.rec (λ_=>0,[],[]) (λk t _=>W8 r k t) t) f
def fh (a b)(y):jb (uF a b) y=jb a y+jb b y:=by
 induction a generalizing b y with
 |nil=>exact(Yx _).symm
 |cons c a i=>cases b with
  |nil=>rfl
  |cons d b=>exact(congr (Xy HAdd.hAdd<|Nat.add_mul c d<|y 0) (i b _)).trans<|Nat.add_add_add_comm ..
def rF (k)(a)(y):jb (QH k a) y=k*jb a y:=by
 induction a generalizing y with
 |nil=>rfl
 |cons c a i=>exact(congr (Xy HAdd.hAdd<|Nat.mul_assoc k c<|y 0) (i _)).trans (Nat.mul_add ..).symm
def IE (a)(y)(h:Q9 a b=true):jb a y<=jb b y:=by
 induction a generalizing b y with
 |nil=>exact X5 _
 |cons c a i=>cases b with
  |nil=>have h:=(Xu _ _).mp h;exact add_le_add (a:=c*y 0) (b:=0) (c:=jb a _) (d:=0) (aae<|(Xy (·*y 0)<|Nat.eq_of_beq_eq_true h.1).trans<|Nat.zero_mul _)<|i (b:=[]) _ h.2
  |cons d b=>have h:=(Xu _ _).mp h;exact add_le_add (Nat.mul_le_mul_right _<|Yb h.1)<|i _ h.2
def Oz (k)(y):jb (vr k) y=y k:=by
 induction k generalizing y with
 |zero=>exact Nat.one_mul _
 |succ k i=>exact(congr (Xy HAdd.hAdd<|Nat.zero_mul<|y 0) (i _)).trans<|Yx _
def EO (x:Nat->Nat)(e:Lx):Prop:=jb e.2.1 (cs 1 x)=e.1 x
def xC {a:Sort u}{p:a->Prop}{b:Bool}{s t:a}(h1:p s)(h:p t):p<|bif b then s else t:=match b with |true=>h1|false=>h
def Bh (x:Nat->Nat)(f:Nat)(t:List Nat):EO x<|pE f t:=by
 induction f generalizing t with
 |zero=>exact rfl
 |succ f i=>cases t with
  |nil=>exact rfl
  |cons k t=>exact xC (p:=EO x) (Oz (k+1)<|cs 1 x)<|xC (p:=EO x) ((fh ..).trans<|congr (Xy HAdd.hAdd<|i _) (i _))<|xC (p:=EO x) ((rF ..).trans<|Xy _<|i _)<|xC (p:=EO x) ((rF ..).trans<|(Xy _<|i _).trans<|Nat.mul_comm ..)<|Nat.mul_one _
def EC (h1:x 0=1)(C):jb (uF [1] C) x=jb C x+1:=(fh ..).trans<|(Y3 ..).trans<|Xy _<|(YZ _).trans<|(Nat.one_mul _).trans h1
def Le (a b:Nat)(e:Bool):Prop:=a<=b/\(e=true->a=b)
def Le.n {a b:Nat}(h:a<=b):Le a b false:=⟨h,Bool.noConfusion⟩
def Le.e {a b:Nat}(h:a=b):Le a b true:=⟨aae h,λ_=>h⟩
def Le.add {a b c d:Nat}{e f:Bool}(h:Le a b e)(k:Le c d f):Le (a+c) (b+d)<|e&&f:=⟨add_le_add h.1 k.1,λz=>congr (Xy HAdd.hAdd<|h.2 ((Xu _ _).mp z).1) (k.2 ((Xu _ _).mp z).2)⟩
def Le.mul {a b:Nat}{e:Bool}(m:Nat)(h:Le a b e):Le (m*a) (m*b) e:=⟨Nat.mul_le_mul_left _ h.1,λz=>Xy _<|h.2 z⟩
abbrev Op:=(Nat->Nat->Prop)×(List Nat->List Nat->List Nat×List Nat×Bool)×(List Nat->List Nat->Bool->List Nat->List Nat->Bool)
abbrev kL (A B:List Nat)(_:Bool)(L R:List Nat):Bool:=Q9 (uF A R)<|uF B L
abbrev kS (A B:List Nat)(_:Bool)(L R:List Nat):Bool:=Q9 (uF (uF [1] A) R)<|uF B L
structure OK(o:Op):Prop where
 h:∀{x:Nat->Nat}{A B:List Nat},x 0=1->o.1 (jb A x) (jb B x)->Le (jb (o.2.1 A B).1 x) (jb (o.2.1 A B).2.1 x) (o.2.1 A B).2.2
 g:∀{x:Nat->Nat}{A B L R:List Nat}{e:Bool},x 0=1->Le (jb L x) (jb R x) e->o.2.2 A B e L R=true->o.1 (jb A x) (jb B x)
def mv {a b l r:Nat}(h:l<=r)(k:a+r<=b+l):a<=b:=Nat.le_of_add_le_add_right<|Xz k<|Z0 h b
def Ct {x:Nat->Nat}{A B L R:List Nat}{e:Bool}(_:x 0=1)(h:Le (jb L x) (jb R x) e)(k:kL A B e L R=true):jb A x<=jb B x:=mv h.1<|(fh A R _)▸(fh B L _)▸IE _ _ k
def yO {x:Nat->Nat}{A B L R:List Nat}{e:Bool}(h1:x 0=1)(h:Le (jb L x) (jb R x) e)(k:kS A B e L R=true):jb A x<jb B x:=Xz (aae (EC h1 A).symm)<|Ct h1 h k
def RT {x:Nat->Nat}{A B L R:List Nat}{e:Bool}(_:x 0=1)(h:Le (jb L x) (jb R x) e)(k:(e&&(kL A B e L R&&Q9 (uF B L) (uF A R)))=true):jb A x=jb B x:=by have h1:=(Xu _ _).mp k;have a:=(Xu _ _).mp h1.2;refine Y0 (Ct ‹_› h a.1)<|Nat.le_of_add_le_add_right (b:=jb L x) ?_;have:=IE _ x a.2;rw[fh,fh,<- h.2 h1.1]at this;exact this
def F0 {x:Nat->Nat}{A B L R:List Nat}{e:Bool}{p:Prop}(h1:x 0=1)(h:Le (jb L x) (jb R x) e)(k:kS [] [] e L R=true):p:=Xv (yO (A:=[]) (B:=[]) h1 h k)<|lt_irrefl _
abbrev W5:Op:=(λa b=>a<=b,λA B=>(A,B,false),kL)
abbrev Wl:Op:=(λa b=>a<b,λA B=>(uF [1] A,B,false),kS)
abbrev WP:Op:=(λa b=>a=b,λA B=>(A,B,true),λA B e L R=>e&&(kL A B e L R&&Q9 (uF B L) (uF A R)))
abbrev W0:Op:=(λa b=>¬a<=b,λA B=>(uF [1] B,A,false),λA B=>kS B A)
abbrev W7:Op:=(λa b=>¬a<b,λA B=>(B,A,false),λA B=>kL B A)
abbrev VG:Op:=(λa b=>a≠b,λ_ _=>([],[],true),kS)
abbrev Xe:Op:=(λa b=>a≠b,λ_ _=>([],[],true),λA B=>kS B A)
abbrev WF:Op:=(λa b=>a=b,λA B=>(B,A,true),λ_ _=>kS [] [])
abbrev VN:Op:=(λ_ _=>False,λ_ _=>([],[],true),λ_ _=>kS [] [])
def qY {b:Bool}{s t:Op}(h1:OK s)(h:OK t):OK<|bif b then s else t:=match b with |true=>h1|false=>h
def op (k:Nat):Op:=bif Nat.beq k 18 then W5 else bif Nat.beq k 19 then Wl else bif Nat.beq k 20 then WP else bif Nat.beq k 21 then W0 else bif Nat.beq k 22 then W7 else bif Nat.beq k 23 then VG else bif Nat.beq k 25 then Xe else bif Nat.beq k 28 then WF else VN
def KA (k:Nat):OK<|op k:=qY ⟨λ_ h=>.n h,Ct⟩<|qY ⟨λh1 h=>.n<|Xz (aae<|EC h1 _) h,yO⟩<|qY ⟨λ_ h=>.e h,RT⟩<|
 qY ⟨λh1 h=>.n<|Xz (aae<|EC h1 _)<|Nat.lt_of_not_le h,λh1 h k=>Nat.not_le_of_gt<|yO h1 h k⟩<|qY ⟨λ_ h=>.n<|ZZ h,λh1 h k=>Nat.not_lt_of_ge<|Ct h1 h k⟩<|
 qY ⟨λ_ _=>.e rfl,λh1 h k=>Yy<|yO h1 h k⟩<|qY ⟨λ_ _=>.e rfl,λh1 h k=>XG<|yO h1 h k⟩<|qY ⟨λ_ h=>.e h.symm,λ{_ A B _ _ _} h1 h k=>F0 (A:=A) (B:=B) h1 h k⟩ ⟨λ_ h=>h.elim,λ{_ A B _ _ _} h1 h k=>F0 (A:=A) (B:=B) h1 h k⟩
noncomputable abbrev cA(a b:LC):LC:=(λx=>a.1 x/\b.1 x,a.2.1&&b.2.1,uF a.2.2.1 b.2.2.1,uF a.2.2.2.1 b.2.2.2.1,b.2.2.2.2)
abbrev cR (o:Op)(m:Nat)(a b:Lx):LC:=(λx=>o.1 (a.1 x)<|b.1 x,(o.2.1 a.2.1 b.2.1).2.2,QH m (o.2.1 a.2.1 b.2.1).1,QH m (o.2.1 a.2.1 b.2.1).2.1,b.2.2)
abbrev WN (g:Nat)(r:List Nat->LC)(k:Nat)(t:List Nat):LC:=
 bif Nat.beq k 24 then cA (r t) (r (r t).2.2.2.2)else List.rec (λ_=>False,true,[],[],[]) (λm t _=>cR (op k) m (pE g t)<|pE g (pE g t).2.2) t
def pC (g f:Nat):List Nat->LC:=Nat.rec (λ_=>(λ_=>False,true,[],[],[])) (λ_ r t=>List.rec (λ_=>False,true,[],[],[]) (λk t _=>WN g r k t) t) f
def CO (x:Nat->Nat)(c:LC):Prop:=c.1 x->Le (jb c.2.2.1<|cs 1 x) (jb c.2.2.2.1<|cs 1 x) c.2.1
def RD (c:CO x a)(d:CO x b):CO x<|cA a b:=λh=>by unfold cA;rw[fh,fh];exact(c h.1).add<|d h.2
def Qn {x:Nat->Nat}{k m:Nat}{a b:Lx}(c:EO x a)(d:EO x b):CO x<|cR (op k) m a b:=λh=>by unfold cR;rw[rF,rF];exact((KA k).h rfl (by rw[c,d];exact h)).mul m
def QC (x)(g f)(t):CO x<|pC g f t:=by
 induction f generalizing t with
 |zero=>exact False.elim
 |succ f i=>cases t with
  |nil=>exact False.elim
  |cons k t=>exact xC (p:=CO x) (RD (i _)<|i _) (by cases t with |nil=>exact False.elim|cons m t=>exact Qn (Bh ..)<|Bh ..)
noncomputable abbrev gG(o:Op)(a b:Lx)(e:Bool)(L R:List Nat):((Nat->Nat)->Prop)×Bool:=(λx=>o.1 (a.1 x)<|b.1 x,o.2.2 a.2.1 b.2.1 e L R)
def pA (g f:Nat):List Nat->Bool->List Nat->List Nat->((Nat->Nat)->Prop)×Bool:=
 Nat.rec (λ_ _ _ _=>(λ_=>True,true)) (λ_ r t e L R=>List.rec (λ_=>True,true) (λk t _=>
  bif Nat.beq k 27 then(λx=>(pC g g t).1 x->(r (pC g g t).2.2.2.2 (e&&(pC g g t).2.1) (uF L (pC g g t).2.2.1)<|uF R (pC g g t).2.2.2.1).1 x,(r (pC g g t).2.2.2.2 (e&&(pC g g t).2.1) (uF L (pC g g t).2.2.1)<|uF R (pC g g t).2.2.2.1).2)
  else gG (op k) (pE g t) (pE g (pE g t).2.2) e L R) t) f
def Pn {x:Nat->Nat}{k:Nat}{a b:Lx}{e:Bool}{L R:List Nat}(c:EO x a)(d:EO x b)(hL:Le (jb L<|cs 1 x) (jb R<|cs 1 x) e)(h:(gG (op k) a b e L R).2=true):(gG (op k) a b e L R).1 x:=by have:=(KA k).g rfl hL h;rw[c,d]at this;exact this
def acs (x:Nat->Nat)(g f:Nat)(t:List Nat)(e:Bool)(L R:List Nat)(hL:Le (jb L<|cs 1 x) (jb R<|cs 1 x) e)(h:(pA g f t e L R).2=true):(pA g f t e L R).1 x:=by
 induction f generalizing t e L R with
 |zero=>exact trivial
 |succ f i=>cases t with
  |nil=>exact trivial
  |cons k t=>
   revert h;show(cond (Nat.beq k 27) _ _:((Nat->Nat)->Prop)×Bool).2=true->(cond (Nat.beq k 27) _ _:((Nat->Nat)->Prop)×Bool).1 x;cases Nat.beq k 27 with
   |true=>exactλh a=>i (pC g g t).2.2.2.2 (e&&(pC g g t).2.1) _ _ (by rw[fh,fh];exact hL.add<|QC x g g t a) h
   |false=>exact Pn (Bh ..) (Bh ..) hL
def lA (n:Nat):((Nat->Nat)->Prop)×Bool:=pA 30 12 (dg 90 n) true [] []
end Mine.Lq
namespace Mine
def OQ (n)(h:(Lq.lA n).2=true)(x):(Lq.lA n).1 x:=Lq.acs x 30 12 _ _ _ _ (.e rfl) h
theorem tq:true=true:=rfl
def bB (n)(h:(Lq.lA n).2=true):(Lq.lA n).1 (λ_=>a):=OQ n h _
def aI (n)(h:(Lq.lA n).2=true):(Lq.lA n).1 (Lq.cs a λ_=>b):=OQ n h _
def ba (n)(h:(Lq.lA n).2=true):(Lq.lA n).1<|Lq.cs a<|Lq.cs b λ_=>c:=OQ n h _
def ow (n)(h:(Lq.lA n).2=true):(Lq.lA n).1<|Lq.cs a<|Lq.cs b<|Lq.cs c λ_=>d:=OQ n h _
def Ho (n)(h:(Lq.lA n).2=true):(Lq.lA n).1<|Lq.cs a<|Lq.cs b<|Lq.cs c<|Lq.cs d λ_=>e:=OQ n h _
def Sr (n)(h:(Lq.lA n).2=true):(Lq.lA n).1<|Lq.cs a<|Lq.cs b<|Lq.cs c<|Lq.cs d<|Lq.cs e λ_=>f:=OQ n h _
def MD{a b}:=@aI a b 0x4120b42c0067b tq
def wx{a b}:=@aI a b 0x641006db tq
def RV{a b}:=@aI a b 0x200000110819200c350442190061a82200cb1b tq
def Ji{a b}:=@aI a b 0x8261321c06067b tq
def Lc{a}:=@bB a 0x3d09022097d0e0065b tq
def yp{a b c}:=@ba a b c 0x104c410f3620067b tq
def Hh{a b c d}:=@ow a b c d 0x2098461a6c620d3620067b tq
def Ll{a}:=@bB a 0x3662038009804d0cb1b tq
def kA{a b}:=@aI a b 0x82410065b tq
def Gb{a b c}:=@ba a b c 0x1050410f3620069b tq
def Lv{a b}:=@aI a b 0x7a1204412fa1c10cb610069b tq
def Lp{a b c d}:=@ow a b c d 0x104f84705a3609af13033dfd0e0879b0b44c0065b tq
def La{a b c}:=@ba a b c 0xe11c1135e16818c9f08e0b42c135e26067b0b44c0065b tq
def Ls{a b c d}:=@ow a b c d 0x1320e0a1af1b40c63262641c1685886bc6c6067b2346c0065b tq
def KZ{a b c}:=@ba a b c 0x1321c064c2c838486bc0c6067b tq
def Gd{a b}:=@aI a b 0x10b40c605a160194 tq
def LE{a b}:=@aI a b 0x3d09022090061a82210cb610069b tq
def HV{a}:=@bB a 0x26818468199 tq
def E9{a}:=@bB a 0x36818468199 tq
def u6{a b c}:=@ba a b c 0x41602610067b tq
def jr{a b}:=@aI a b 0x168581681ac032410065b tq
def aC{a b}:=@aI a b 0x5a1602410065b tq
def vb{a b}:=@aI a b 0x2685a1630121342c0065b tq
def oS{a b}:=@aI a b 0x1e685a163012f342c0065b tq
def Bo{a b}:=@aI a b 0x41209da06065b tq
def BO{a}:=@bB a 0x26818368199 tq
def Ij{a}:=@bB a 0x46818368197 tq
def qw{a b}:=@aI a b 0x7a1204412de9c10cf610065b tq
def Fu{a}:=@bB a 0x384705a16818c9ef4e0067b tq
def zx{a b}:=@aI a b 0x1c23813e11c1685806067b tq
def zD{a b}:=@aI a b 0x413085a06067b tq
def Ht{a b c}:=@ba a b c 0x708e08193e11c1685826067b0b44c0065b tq
def vO{a}:=@bB a 0x36818268197 tq
def wb{a}:=@bB a 0x46818268197 tq
def Au{a b}:=@aI a b 0x226819709da06065b tq
def sj{a b c}:=@ba a b c 0x83203b44c0cb620867b tq
def s9{a b}:=@aI a b 0x7a1204412e11c10cb610065b tq
def tJ{a b}:=@aI a b 0x1685806042d03194 tq
def wG{a}:=@bB a 0x3400067b tq
def wy{a b c}:=@ba a b c 0x708e04f7070833d88206065b tq
def w7{a b c}:=@ba a b c 0x2d130216818c908206065b tq
def Ew{a b c d e}:=@Ho a b c d e 0xe11c10327b838836067b20434d8c406065b tq
def Im{a b}:=@aI a b 0x10d0b0036bd0d6492d0b0036bd2d6065b tq
def EQ{a b c}:=@ba a b c 0x6d905a06086d7846d7c1ac6065b tq
def ny{a b c}:=@ba a b c 0x41602410065b tq
def zB{a}:=@bB a 0x5a0601a00b58c03594 tq
def zr{a b c}:=@ba a b c 0x104c21689806065b tq
def zl{a b c}:=@ba a b c 0x416858c04c2d1302c0067b tq
def Ep{a b}:=@aI a b 0xb42d0b181681920b42c0065b tq
def vT{a b}:=@aI a b 0x1c23812e11c10cb610065b tq
def GI{a b}:=@aI a b 0x7a1204412101c10cf610069b tq
def vZ{a b}:=@aI a b 0xd98401e6c226865b tq
def AV{a b}:=@aI a b 0x4d90401e6c226865b tq
def AI{a b}:=@aI a b 0x203813101c10cf610069b tq
def A1{a}:=@bB a 0x3d0902209080e0067b tq
def nM{a}:=@bB a 0x3d0902209708e0065b tq
def pQ{a}:=@bB a 0x640e0b40c9640e0067b tq
def Fz{a b}:=@aI a b 0x1f43812c81c10cf610065b tq
def zV{a b}:=@aI a b 0x2368197095a06065b tq
def qm{a b}:=@aI a b 0x7a1204412c81c10cf610065b tq
def Ay{a b}:=@aI a b 0x412095a06067b tq
def nz{a b}:=@aI a b 0x1903813c81c1685806065b tq
def Iq{a b}:=@aI a b 0x3d09022090061a82210cb610065b tq
def wc{a b c}:=@ba a b c 0x410b40c64841685806065b tq
def zQ{a b c}:=@ba a b c 0x104c220d3620067b tq
def zb{a b}:=@aI a b 0x16859e6bc120f9af0065b tq
def zM{a}:=@bB a 0x384705a064b8470012def4e0067b tq
def zh{a b c}:=@ba a b c 0x1048220cb620065b tq
def En{a b}:=@aI a b 0x6a4e08193d49c2685806067b tq
def Iw{a}:=@bB a 0x3d0902209320e0065b tq
def FZ{a b}:=@aI a b 0xcd034016b1806b24268452d85a1135ec0065b tq
def vG{a b c d}:=@ow a b c d 0x2098c41a6c610f3620067b tq
def Gi{a}:=@bB a 0x3d090220907ee0065b tq
def Iy{a b}:=@aI a b 0x7a12044120fdc10cb610067b tq
def tM {P:Prop}{a:Prop}{b:Prop}{c:Prop}{Z:Prop}(h:P/\a/\b/\c)(k:P->a->b->c->Z):Z:=by obtain⟨h1,d,e,f⟩:=h;exact k h1 d e f
def ag {a:Type}{P:a->Prop}{b:a->Prop}{Z:Prop}(h:∃x,P x/\b x)(k:∀x,P x->b x->Z):Z:=by obtain⟨x,h1,c⟩:=h;exact k x h1 c
def nF {a:Type}{P:Prop}{b:a->Prop}{c:a->Prop}{d:a->Prop}{Z:Prop}(h:P/\∃x,b x/\c x/\d x)(k:P->∀x,b x->c x->d x->Z):Z:=by obtain⟨h1,x,e,f,g⟩:=h;exact k h1 x e f g
def am {b c:Type}{P:b->c->Prop}{d:b->c->Prop}{e:b->c->Prop}{Z:Prop}(h:∃x,∃a,P x a/\d x a/\e x a)(k:∀x,∀a,P x a->d x a->e x a->Z):Z:=by obtain⟨x,a,h1,f,g⟩:=h;exact k x a h1 f g
def dH {b c:Type}{P:b->c->Prop}{d:b->c->Prop}{Z:Prop}(h:∃x,∃a,P x a/\d x a)(k:∀x,∀a,P x a->d x a->Z):Z:=by obtain⟨x,a,h1,e⟩:=h;exact k x a h1 e
def iv {a:Type}{P:Prop}{b:a->Prop}{c:a->Prop}{Z:Prop}(h:P/\∃x,b x/\c x)(k:P->∀x,b x->c x->Z):Z:=by obtain⟨h1,x,d,e⟩:=h;exact k h1 x d e
def bN {b c:Type}{P:Prop}{d:b->c->Prop}{e:b->c->Prop}{Z:Prop}(h:P/\∃x,∃a,d x a/\e x a)(k:P->∀x,∀a,d x a->e x a->Z):Z:=by obtain⟨h1,x,a,f,g⟩:=h;exact k h1 x a f g
def aj {a:Type}{P:a->Prop}{b:a->Prop}{c:a->Prop}{Z:Prop}(h:∃x,P x/\b x/\c x)(k:∀x,P x->b x->c x->Z):Z:=by obtain⟨x,h1,d,e⟩:=h;exact k x h1 d e
def cV {b c:Type}{P:b->c->Prop}{Z:Prop}(h:∃x,∃a,P x a)(k:∀x,∀a,P x a->Z):Z:=by obtain⟨x,a,h1⟩:=h;exact k x a h1
def cG {c d e:Type}{P:c->d->e->Prop}{f:c->d->e->Prop}{g:c->d->e->Prop}{i:c->d->e->Prop}{Z:Prop}(h:∃x,∃a,∃b,P x a b/\f x a b/\g x a b/\i x a b)(k:∀x,∀a,∀b,P x a b->f x a b->g x a b->i x a b->Z):Z:=by obtain⟨x,a,b,h1,j,l,m⟩:=h;exact k x a b h1 j l m
def iz {b c:Type}{P:b->c->Prop}{d:b->c->Prop}{e:b->c->Prop}{f:b->c->Prop}{Z:Prop}(h:∃x,∃a,P x a/\d x a/\e x a/\f x a)(k:∀x,∀a,P x a->d x a->e x a->f x a->Z):Z:=by obtain⟨x,a,h1,g,i,j⟩:=h;exact k x a h1 g i j
def ng {c d e:Type}{P:c->d->e->Prop}{f:c->d->e->Prop}{Z:Prop}(h:∃x,∃a,∃b,P x a b/\f x a b)(k:∀x,∀a,∀b,P x a b->f x a b->Z):Z:=by obtain⟨x,a,b,h1,g⟩:=h;exact k x a b h1 g
def bX {P:Prop}{a:Prop}{b:Prop}{Z:Prop}(h:P/\a/\b)(k:P->a->b->Z):Z:=by obtain⟨h1,c,d⟩:=h;exact k h1 c d
def bU {P:Prop}{a:Prop}{b:Prop}{c:Prop}{d:Prop}{Z:Prop}(h:P/\a/\b/\c/\d)(k:P->a->b->c->d->Z):Z:=by obtain⟨h1,e,f,g,i⟩:=h;exact k h1 e f g i
def xG {b c:Type}{P:b->c->Prop}{d:b->c->Prop}{e:b->c->Prop}{f:b->c->Prop}{g:b->c->Prop}{Z:Prop}(h:∃x,∃a,P x a/\d x a/\e x a/\f x a/\g x a)(k:∀x,∀a,P x a->d x a->e x a->f x a->g x a->Z):Z:=by obtain⟨x,a,h1,i,j,l,m⟩:=h;exact k x a h1 i j l m
def Hz {a:Type}{P:a->Prop}{b:a->Prop}{c:a->Prop}{d:a->Prop}{Z:Prop}(h:∃x,P x/\b x/\c x/\d x)(k:∀x,P x->b x->c x->d x->Z):Z:=by obtain⟨x,h1,e,f,g⟩:=h;exact k x h1 e f g
def iw {b c:Type}{P:Prop}{d:b->c->Prop}{e:b->c->Prop}{f:b->c->Prop}{Z:Prop}(h:P/\∃x,∃a,d x a/\e x a/\f x a)(k:P->∀x,∀a,d x a->e x a->f x a->Z):Z:=by obtain⟨h1,x,a,g,i,j⟩:=h;exact k h1 x a g i j
def rt {P:Prop}{a:Prop}{b:Prop}{c:Prop}{d:Prop}{e:Prop}{Z:Prop}(h:P/\a/\b/\c/\d/\e)(k:P->a->b->c->d->e->Z):Z:=by obtain⟨h1,f,g,i,j,l⟩:=h;exact k h1 f g i j l
def lV {c d e:Type}{P:c->d->Prop}{f:c->d->e->Prop}{g:c->d->e->Prop}{Z:Prop}(h:∃x,∃a,P x a/\∃b,f x a b/\g x a b)(k:∀x,∀a,P x a->∀b,f x a b->g x a b->Z):Z:=by obtain⟨x,a,h1,b,i,j⟩:=h;exact k x a h1 b i j
def DK {b c:Type}{P:b->c->Prop}{d:b->c->Prop}{e:b->c->Prop}{f:b->c->Prop}{g:b->c->Prop}{i:b->c->Prop}{Z:Prop}(h:∃x,∃a,P x a/\d x a/\e x a/\f x a/\g x a/\i x a)(k:∀x,∀a,P x a->d x a->e x a->f x a->g x a->i x a->Z):Z:=by obtain⟨x,a,h1,j,l,m,n,o⟩:=h;exact k x a h1 j l m n o
def pU {c d e i j:Type}{P:c->d->e->Prop}{l:c->d->e->Prop}{m:c->d->e->i->j->Prop}{Z:Prop}(h:∃x,∃a,∃b,P x a b/\l x a b/\∃f,∃g,m x a b f g)(k:∀x,∀a,∀b,P x a b->l x a b->∀f,∀g,m x a b f g->Z):Z:=by obtain⟨x,a,b,h1,n,f,g,o⟩:=h;exact k x a b h1 n f g o
def Bv {a:Type}{P:Prop}{b:a->Prop}{c:a->Prop}{d:a->Prop}{e:a->Prop}{Z:Prop}(h:P/\∃x,b x/\c x/\d x/\e x)(k:P->∀x,b x->c x->d x->e x->Z):Z:=by obtain⟨h1,x,f,g,i,j⟩:=h;exact k h1 x f g i j
def xQ {c d e:Type}{P:c->d->Prop}{f:c->d->e->Prop}{g:c->d->e->Prop}{i:c->d->e->Prop}{Z:Prop}(h:∃x,∃a,P x a/\∃b,f x a b/\g x a b/\i x a b)(k:∀x,∀a,P x a->∀b,f x a b->g x a b->i x a b->Z):Z:=by obtain⟨x,a,h1,b,j,l,m⟩:=h;exact k x a h1 b j l m
def Cc {b c e:Type}{P:b->c->Prop}{f:b->c->Prop}{g:b->c->e->Prop}{Z:Prop}(h:∃x,∃a,P x a/\f x a/\∃d,g x a d)(k:∀x,∀a,P x a->f x a->∀d,g x a d->Z):Z:=by obtain⟨x,a,h1,i,d,j⟩:=h;exact k x a h1 i d j
def Bd {c d e:Type}{P:c->d->e->Prop}{f:c->d->e->Prop}{g:c->d->e->Prop}{Z:Prop}(h:∃x,∃a,∃b,P x a b/\f x a b/\g x a b)(k:∀x,∀a,∀b,P x a b->f x a b->g x a b->Z):Z:=by obtain⟨x,a,b,h1,i,j⟩:=h;exact k x a b h1 i j
def KM {g i j l m n o:Type}{P:g->i->j->l->m->n->o->Prop}{p:g->i->j->l->m->n->o->Prop}{q:g->i->j->l->m->n->o->Prop}{Z:Prop}(h:∃x,∃a,∃b,∃c,∃d,∃e,∃f,P x a b c d e f/\p x a b c d e f/\q x a b c d e f)(k:∀x,∀a,∀b,∀c,∀d,∀e,∀f,P x a b c d e f->p x a b c d e f->q x a b c d e f->Z):Z:=by obtain⟨x,a,b,c,d,e,f,h1,r,s⟩:=h;exact k x a b c d e f h1 r s
def xc {g i j l m n o:Type}{P:g->i->j->l->m->n->o->Prop}{p:g->i->j->l->m->n->o->Prop}{q:g->i->j->l->m->n->o->Prop}{r:g->i->j->l->m->n->o->Prop}{Z:Prop}(h:∃x,∃a,∃b,∃c,∃d,∃e,∃f,P x a b c d e f/\p x a b c d e f/\q x a b c d e f/\r x a b c d e f)(k:∀x,∀a,∀b,∀c,∀d,∀e,∀f,P x a b c d e f->p x a b c d e f->q x a b c d e f->r x a b c d e f->Z):Z:=by obtain⟨x,a,b,c,d,e,f,h1,s,t,u⟩:=h;exact k x a b c d e f h1 s t u
def n8 {c d e:Type}{P:c->d->e->Prop}{f:c->d->e->Prop}{g:c->d->e->Prop}{i:c->d->e->Prop}{j:c->d->e->Prop}{l:c->d->e->Prop}{m:c->d->e->Prop}{n:c->d->e->Prop}{Z:Prop}(h:∃x,∃a,∃b,P x a b/\f x a b/\g x a b/\i x a b/\j x a b/\l x a b/\m x a b/\n x a b)(k:∀x,∀a,∀b,P x a b->f x a b->g x a b->i x a b->j x a b->l x a b->m x a b->n x a b->Z):Z:=by obtain⟨x,a,b,h1,o,p,q,r,s,t,u⟩:=h;exact k x a b h1 o p q r s t u
def US (h:a<2):a=0\/a=1:=by revert a;decide
def Vo (h:a<4):a=0\/a=1\/a=2\/a=3:=by revert a;decide
theorem nt:false=false:=rfl
def SA {c:Type}(f:c->Nat){a b:c}{P:Prop}(h:a=b)(e:Nat.beq (f a) (f b)=false):P:=Xv (Xy f h)<|Nat.ne_of_beq_eq_false e
def cE {c:Type}{a b:Option c}{P:Prop}(h:a=b)(e:Nat.beq a.ctorIdx b.ctorIdx=false):P:=SA _ h e
def Uz {c:Type}{a b:List c}{P:Prop}(h:a=b)(e:Nat.beq a.ctorIdx b.ctorIdx=false):P:=SA _ h e
def eH {a b:Bool}{P:Prop}(h:a=b)(e:Nat.beq a.ctorIdx b.ctorIdx=false):P:=SA _ h e
@[elab_as_elim]def aa {c:Type u}{a b:c}{motive:c->Prop}(h:a=b)(k:motive b):motive a:=h▸k
@[elab_as_elim]def dG {c:Type u}{a b:c}{motive:c->Prop}(h:a=b)(k:motive a):motive b:=h▸k
@[elab_as_elim]def UE {a:Type}{p:a->Prop}(e:a)(h:∀x,p x):p e:=h e
@[elab_as_elim]def UY {a:Type}{p:a->Prop}(e:a)(h:∀x,e=x->p x):p e:=h e rfl
def WV {a:Int}(h:0<=a):a-0-1+1=↑a.toNat:=by rw[Int.sub_zero,Int.sub_add_cancel];exact(Zh h).symm
def W4 {a:Int}(h:¬0<a):(0:Int)=↑a.toNat:=(Xy Int.ofNat<|Int.toNat_of_nonpos<|Y9.mp h).symm
def Vw:a- -1-1+1=a+1:=by rw[Int.sub_add_cancel];rfl
def Wk {a:Int}(h:-1<=a):a- -1-1+1=↑(a+1).toNat:=Vw.trans (Zh<|aal h 1).symm
def W9 (h:¬-1<a):(0:Int)=↑(a+1).toNat:=(Xy Int.ofNat<|Int.toNat_of_nonpos<|aal (Y9.mp h) 1).symm
def UZ (h:i<n):n-1-i<n:=Yz (sub_le _ _)<|sub_lt (Yz (X5 i) h)<|Nat.succ_pos 0
def VO (a:-K<=-1)(b:-1<K)(h:-1<=n)(h1:n+1<K):((((-K<=n/\n<K)/\-K<=-1/\-1<K)/\-K<=-1/\-1<K)/\-K<=n- -1-1+1/\n- -1-1+1<K)/\(n- -1-1+1=0\/-K<=-1+(-1+1)/\-1+(-1+1)<K):=by rw[Vw];have e:n<=n+1:=YN<|Int.lt_succ n;exact⟨⟨⟨⟨⟨Yi a h,aap e h1⟩,a,b⟩,a,b⟩,Yi a<|Yi h e,h1⟩,.inr ⟨a,b⟩⟩
def Xl (a:-K<=-1)(b:-1<K)(c:0<K)(h:-1<=n)(h1:n+1<K):((((-K<=n/\n<K)/\-K<=-1/\-1<K)/\-K<=-1/\-1<K)/\-K<=0/\0<K)/\((0:Int)=0\/-K<=-1+(-1+1)/\-1+(-1+1)<K):=
 ⟨⟨⟨⟨⟨Yi a h,aap (YN<|Int.lt_succ n) h1⟩,a,b⟩,a,b⟩,Yi a<|by decide,c⟩,.inl rfl⟩
def eF {p C:Prop}[Decidable p]{f:p->Bool}(h:dite p f (λ_=>false)=true)(k:p->C):C:=(Decidable.em p).elim k λx=>(Yw<|(dif_neg x).symm.trans h).elim
def nl (e:Nat.ble a b=true):a<=b:=Yb e
def dn (h:a<=d+1)(e:Nat.ble (b+1) a=true):b<=d:=Nat.le_of_succ_le_succ<|Xz (nl e) h
def MP (h:a<=d)(e:Nat.ble b a=true):b<=d:=Xz (nl e) h
def pr (h:a<=d)(e:Nat.ble 1 a=true):d=d-1+1:=(YI<|MP h e).symm
def R1 (k)(h:a<=d)(e:Nat.ble k a=true):d=d-k+k:=(YI<|MP h e).symm
def Se (k)(h:a+b<=d)(e:Nat.ble k a=true):d=d-k+k:=(YI<|Xz (nl e)<|Xz (Xx a b) h).symm
def up (h:a<b)(e:Nat.ble (b+k) c=true):a+k<c:=XO (Nat.add_lt_add_right h k)<|nl e
def yw (h:a<b)(e:Nat.ble b c=true):a<c:=XO h<|nl e
@[elab_as_elim]def lR {P:Nat->Prop}{K d:Nat}(k:Nat)(h:K<=d)(e:Nat.ble k K=true)(f:∀d,K<=d+k->P (d+k)):P d:=by rw[(R1 k h e)];exact f _ (by rw[<-(R1 k h e)];exact h)
@[elab_as_elim]def LB {P:Nat->Prop}{a b d:Nat}(k:Nat)(h:a+b<=d)(e:Nat.ble k a=true)(f:∀d,a+b<=d+k->P (d+k)):P d:=by rw[(Se k h e)];exact f _ (by rw[<-(Se k h e)];exact h)
set_option genCtorIdx false
inductive V where
 |n
 |b (b:Bool)
 |i (i:Int)
 |s (s:List Nat)
 |t (l:List V)
 |r (a:Nat)
set_option genCtorIdx true in
set_option genInjectivity false in
inductive AO where
 |l (l:List V)
 |dS (l:List<|List Nat×V)
 |dI (l:List<|Int×V)
 |i (c:Nat) (fs:List<|Nat×V)
 |ro (ns:List Int)
abbrev Hp:=List AO
abbrev Lo:=List<|Option V
set_option genInjectivity false in
inductive Op where|a|s|mul|m|fdiv (u:Unit)
set_option genInjectivity false in
inductive Cp where|e|n|l|le|g|ge|i|Zk (u:Unit)
set_option genInjectivity false in
inductive ME where
 |i (i:Int)
 |s (s:List Nat)
 |b (b:Bool)
 |v (i:Nat)
 |f (e:ME) (f:Nat)
 |c (k:Nat) (as:List ME)
 |w (c:Nat) (as:List ME)
 |m (k:Nat) (o:ME) (as:List ME)
 |o (op:Op) (a b:ME)
 |N (a:ME)
 |a (as:List ME)
 |or (as:List ME)
 |q (op:Cp) (a b:ME)
 |e (c a b:ME)
 |t (a i:ME)
 |S (a lo hi:ME)
 |Y (a hi:ME)
 |X (a lo:ME)
 |l (es:List ME)
 |p (es:List ME)
 |dS (ks:List<|List Nat) (es:List ME)
 |dI
 |n (a:ME)
 |ord (a:ME)
 |x (a b:ME)
 |u (a:ME)
 |k (a:ME)
 |pop (a:ME)
 |j (a:ME)
 |C (elt src:ME) (caps:List Nat)
 |E (elt src cond:ME) (caps:List Nat)
 |D (elt n:ME) (caps:List Nat)
 |F (elt n cond:ME) (caps:List Nat)
set_option genInjectivity false in
inductive MS where
 |x (e:ME)
 |s (i:Nat) (e:ME)
 |f (o:ME) (f:Nat) (e:ME)
 |t (o i e:ME)
 |unp (is:List Nat) (e:ME)
 |v (i:Nat) (op:Op) (e:ME)
 |u (o i:ME) (op:Op) (e:ME)
 |a (o e:ME)
 |rvs (o:ME)
 |c (o:ME)
 |i (c:ME) (t f:List MS)
 |w (c:ME) (b:List MS)
 |g (i:Nat) (src:ME) (b:List MS)
 |ZG (i j:Nat) (src:ME) (b:List MS)
 |h (i:Nat) (n:ME) (b:List MS)
 |ZA (i:Nat) (x:ME) (b:List MS)
 |aah (i:Nat) (src:ME) (b:List MS)
 |r (e:ME)
 |aar
 |e (a b:ME)
 |told (k:Nat) (as:List ME)
 |k
set_option genCtorIdx true in
inductive Fl where
 |n (l:Lo)
 |r (v:V)
 |e (a b:V)
set_option genCtorIdx true in
inductive Rs where
 |v (v:V)
 |e (a b:V)
abbrev ZD:=(Lo×Hp->Option ((Lo×Hp)⊕(Fl×Hp)))->Lo×Hp->Option (Fl×Hp)
abbrev Cl:=Nat->List V->Hp->Option (Rs×Hp)
section
variable{α β:Type}
noncomputable def bV(r:Option<|α×Hp)(f:α->Hp->Option β):Option β:=match r with |some p=>f p.1 p.2|none=>none
noncomputable def oB(r:Option α)(f:α->Option β):Option β:=match r with |some a=>f a|none=>none
noncomputable def gd(b:Bool)(x:Option β):Option β:=match b with |true=>x|false=>none
noncomputable def nV(v:V)(f:Nat->Option β):Option β:=match v with | .r a=>f a|_=>none
noncomputable def eR(v:V)(f:Int->Option β):Option β:=match v with | .i a=>f a|_=>none
noncomputable def Dn(v:V)(f:List Nat->Option β):Option β:=match v with | .s a=>f a|_=>none
noncomputable def Ec(v:V)(f:List V->Option β):Option β:=match v with | .t a=>f a|_=>none
noncomputable def rM(v:V)(f:Bool->Option β):Option β:=match v with | .b a=>f a|_=>none
noncomputable def UI(v:V)(x:Option β):Option β:=match v with | .n=>x|_=>none
noncomputable def hL(o:Option AO)(f:List V->Option β):Option β:=match o with |some x=>(match x with | .l k=>f k|_=>none)|none=>none
noncomputable def hI(o:Option AO)(f:Nat->List (Nat×V)->Option β):Option β:=match o with |some x=>(match x with | .i c k=>f c k|_=>none)|none=>none
noncomputable def hO(o:Option AO)(f:List Int->Option β):Option β:=match o with |some x=>(match x with | .ro k=>f k|_=>none)|none=>none
noncomputable def hS(o:Option AO)(f:List (List Nat×V)->Option β):Option β:=match o with |some x=>(match x with | .dS k=>f k|_=>none)|none=>none
noncomputable def hD(o:Option AO)(f:List (Int×V)->Option β):Option β:=match o with |some x=>(match x with | .dI k=>f k|_=>none)|none=>none
variable{C:Prop}
def cQ (h:(none:Option β)=some y):C:=by cases h
def aE (h:bV r f=some y)(k:∀a H,r=some (a,H)->f a H=some y->C):C:=by cases r with |none=>exact cQ h|some p=>exact k p.1 p.2 rfl h
def iM (h:oB r f=some y)(k:∀a,r=some a->f a=some y->C):C:=by cases r with |none=>exact cQ h|some a=>exact k a rfl h
def ut (h:gd b x=some y)(k:b=true->x=some y->C):C:=by cases b with |false=>exact cQ h|true=>exact k rfl h
def cv [Decidable c](h:(if c then x else none)=some y)(k:c->x=some y->C):C:=by
 by_cases q:c
 ·rw[Xr q]at h;exact k q h
 ·rw[Xq q]at h;cases h
def fO {v:V}{f:Nat->Option β}(h:nV v f=some y)(k:∀a,v=.r a->f a=some y->C):C:=by cases v with |r a=>exact k a rfl h|_=>exact cQ h
def bH {v:V}{f:Int->Option β}(h:eR v f=some y)(k:∀a,v=.i a->f a=some y->C):C:=by cases v with |i a=>exact k a rfl h|_=>exact cQ h
def pg {v:V}{f:List Nat->Option β}(h:Dn v f=some y)(k:∀a,v=.s a->f a=some y->C):C:=by cases v with |s a=>exact k a rfl h|_=>exact cQ h
def ym {v:V}{f:List V->Option β}(h:Ec v f=some y)(k:∀a,v=.t a->f a=some y->C):C:=by cases v with |t a=>exact k a rfl h|_=>exact cQ h
def qN {v:V}{f:Bool->Option β}(h:rM v f=some y)(k:∀a,v=.b a->f a=some y->C):C:=by cases v with |b a=>exact k a rfl h|_=>exact cQ h
def Pp {v:V}{x:Option β}(h:UI v x=some y)(k:v=.n->x=some y->C):C:=by cases v with |n=>exact k rfl h|_=>exact cQ h
def se {o:Option AO}{f:List V->Option β}(h:hL o f=some y)(k:∀a,o=some (.l a)->f a=some y->C):C:=by cases o with |none=>exact cQ h|some o=>cases o with |l a=>exact k a rfl h|_=>exact cQ h
def PO (h:hI o f=some y)(k:∀c a,o=some (.i c a)->f c a=some y->C):C:=by cases o with |none=>exact cQ h|some o=>cases o with |i c a=>exact k c a rfl h|_=>exact cQ h
def TM {o:Option AO}{f:List Int->Option β}(h:hO o f=some y)(k:∀a,o=some (.ro a)->f a=some y->C):C:=by cases o with |none=>exact cQ h|some o=>cases o with |ro a=>exact k a rfl h|_=>exact cQ h
def RY (h:hS o f=some y)(k:∀a,o=some (.dS a)->f a=some y->C):C:=by cases o with |none=>exact cQ h|some o=>cases o with |dS a=>exact k a rfl h|_=>exact cQ h
def Pk (h:hD o f=some y)(k:∀a,o=some (.dI a)->f a=some y->C):C:=by cases o with |none=>exact cQ h|some o=>cases o with |dI a=>exact k a rfl h|_=>exact cQ h
def aA (h:some x=some z):x=z:=Zd h
def aQ (h:some (x,a)=some (z,b))(k:x=z->a=b->C):C:=k (Xy (·.1)<|Zd h)<|Xy (·.2)<|Zd h
def cps {P:Prop}(h:∀C:Prop,(P->C)->C):P:=h P id
end
mutual
noncomputable def Vi:V->V->Option Bool
 | .i i,w=>(match w with | .i j=>some (decide (i=j))| .s _=>some false|_=>none)
 | .s s,w=>(match w with | .s t=>some (decide (s=t))| .i _=>some false|_=>none)
 | .t l,w=>Ec w λk=>Z4 l k
 |_,_=>none
noncomputable def Z4:List V->List V->Option Bool
 | [],w=>(match w with | []=>some true|_::_=>some false)
 |a::l,w=>(match w with | []=>some false|b::k=>oB (Vi a b) λx=>oB (Z4 l k) λy=>some<|x&&y)
end
def aZ {C:Prop}(h:false=true):C:=(Yw h).elim
def Pl (x:a=true)(y:b=true):(a&&b)=true:=(Xu a b).mpr ⟨x,y⟩
mutual
noncomputable def Tu:V->V->Bool
 | .n,w=>(match w with | .n=>true|_=>false)
 | .b a,w=>(match w with | .b b=>a==b|_=>false)
 | .i i,w=>(match w with | .i j=>decide (i=j)|_=>false)
 | .s s,w=>(match w with | .s t=>decide (s=t)|_=>false)
 | .t l,w=>(match w with | .t k=>abo l k|_=>false)
 | .r a,w=>(match w with | .r b=>a==b|_=>false)
noncomputable def abo:List V->List V->Bool
 | [],w=>(match w with | []=>true|_::_=>false)
 |a::l,w=>(match w with | []=>false|b::k=>Tu a b&&abo l k)
end
mutual
theorem FH:∀v,Tu v v=true
 | .n=>rfl
 | .b a=>Zf a
 | .i i=>Yv rfl
 | .s s=>Yv rfl
 | .t l=>ZH l
 | .r a=>Zf a
theorem ZH:∀l,abo l l=true
 | []=>rfl
 |v::l=>Pl (FH v)<|ZH l
end
mutual
theorem NM:∀{v u},Tu v u=true->v=u
 | .n,u,h=>by cases u with |n=>rfl|_=>exact aZ h
 | .b a,u,h=>by cases u with |b b=>exact Xy V.b (eq_of_beq h)|_=>exact aZ h
 | .i i,u,h=>by cases u with |i b=>exact Xy V.i (Zn h)|_=>exact aZ h
 | .s s,u,h=>by cases u with |s b=>exact Xy V.s (Zn h)|_=>exact aZ h
 | .t l,u,h=>by cases u with |t b=>exact Xy V.t (aai h)|_=>exact aZ h
 | .r a,u,h=>by cases u with |r b=>exact Xy V.r (eq_of_beq h)|_=>exact aZ h
theorem aai:∀{v u},abo v u=true->v=u
 | [],u,h=>by cases u with |nil=>rfl|_=>exact aZ h
 |a::l,u,h=>by cases u with
  |nil=>exact aZ h
  |cons b k=>have h:=(Xu _ _).mp h;exact aa (NM h.1)<|aa (aai h.2) rfl
end
noncomputable def qD(k:List Nat):List (List Nat×V)->Option V
 | []=>none
 |(a,v)::r=>if a=k then some v else qD k r
theorem wO{k}:qD k []=none:=rfl
theorem rX{k a v r}:qD k ((a,v)::r)=if a=k then some v else qD k r:=rfl
noncomputable def wQ(k:List Nat)(v:V):List (List Nat×V)->List (List Nat×V)
 | []=>[(k,v)]
 |(a,u)::r=>if a=k then(a,v)::r else(a,u)::wQ k v r
theorem SL{k v}:wQ k v []=[(k,v)]:=rfl
theorem A7{k v a z r}:wQ k v ((a,z)::r)=if a=k then(a,v)::r else(a,z)::wQ k v r:=rfl
noncomputable def eJ(k:Int):List (Int×V)->Option V
 | []=>none
 |(a,v)::r=>if a=k then some v else eJ k r
theorem hU{k}:eJ k []=none:=rfl
theorem iu{k a v r}:eJ k ((a,v)::r)=if a=k then some v else eJ k r:=rfl
noncomputable def kM(k:Int)(v:V):List (Int×V)->List (Int×V)
 | []=>[(k,v)]
 |(a,u)::r=>if a=k then(a,v)::r else(a,u)::kM k v r
theorem jz{k v}:kM k v []=[(k,v)]:=rfl
theorem h0{k v a z r}:kM k v ((a,z)::r)=if a=k then(a,v)::r else(a,z)::kM k v r:=rfl
noncomputable def tf(k:Nat):List (Nat×V)->Option V
 | []=>none
 |(a,v)::r=>if a=k then some v else tf k r
theorem jY{k}:tf k []=none:=rfl
theorem iB{k a v r}:tf k ((a,v)::r)=if a=k then some v else tf k r:=rfl
noncomputable def o0(k:Nat)(v:V):List (Nat×V)->List (Nat×V)
 | []=>[(k,v)]
 |(a,u)::r=>if a=k then(a,v)::r else(a,u)::o0 k v r
theorem vR{k v}:o0 k v []=[(k,v)]:=rfl
theorem rS{k v a z r}:o0 k v ((a,z)::r)=if a=k then(a,v)::r else(a,z)::o0 k v r:=rfl
noncomputable def Dm:Nat->Nat->Bool
 |0,f=>f<=2
 |1,f=>2<=f&&f<=4
 |2,f=>5<=f&&f<=11
 |_,_=>false
noncomputable def sm(i:Int):Bool:=Nat.ble i.natAbs 4611686018427387903
noncomputable def sh(s:List Nat):Bool:=Nat.ble s.length 100000
noncomputable def O6(n:Int):Bool:=decide (0<=n)&&Nat.ble n.toNat 1000000
noncomputable def Sj(n:Int):Bool:=decide (-1<=n)&&Nat.ble n.toNat 1000000
def V8:Nat.ble i.natAbs K=true↔-((K+1:Nat):Int)<i/\i<((K+1:Nat):Int):=by
 cases i with
 |ofNat n=>exact⟨λh=>⟨Za (Int.negSucc_lt_zero K)<|YG n,X2.mpr<|ZE<|Yb h⟩,λh=>aao<|Zy<|X2.mp h.2⟩
 |negSucc n=>exact⟨λh=>⟨Int.neg_lt_neg<|X2.mpr<|ZE<|Yb h,Int.lt_trans (Int.negSucc_lt_zero n)<|Zu.mpr<|Nat.succ_pos K⟩,λh=>aao<|Zy<|X2.mp<|Int.lt_of_neg_lt_neg h.1⟩
def gY:sm i=true↔-4611686018427387904<i/\i<4611686018427387904:=V8 (K:=4611686018427387903)
def BX (h:-4611686018427387904<i)(h1:i<4611686018427387904):sm i=true:=gY.mpr ⟨h,h1⟩
def e5:sh s=true↔s.length<=100000:=by rw[sh,Nat.ble_eq]
def K9 {n:Int}:Nat.ble n.toNat 1000000=true↔n<=1000000:=by refine aa Nat.ble_eq ?_;exact Int.toNat_le
def lQ:O6 n=true↔0<=n/\n<=1000000:=by rw[O6,Xu,decide_eq_true_iff,K9]
def BV:Sj n=true↔-1<=n/\n<=1000000:=by rw[Sj,Xu,decide_eq_true_iff,K9]
def fQ (op:Op)(x y:V):Option V:=match op with
 | .a=>(match x with
  | .i a=>eR y λb=>some<|.i<|a+b
  | .s a=>Dn y λb=>if sh a&&sh b then some (.s<|a++b)else none
  | .t a=>Ec y λb=>if a.length+b.length<=1000 then some (.t<|a++b)else none
  |_=>none)
 | .s=>eR x λa=>eR y λb=>some<|.i<|a-b
 | .mul=>eR x λa=>eR y λb=>if sm a&&sm b then some (.i<|a*b)else none
 | .m=>eR x λa=>eR y λb=>if 0<b&&sm b then some (.i<|a % b)else none
 | .fdiv _=>eR x λa=>eR y λb=>if 0<b&&sm b then some (.i<|a/b)else none
def d5 (op:Op)(x y:V):Option V:=match op with
 | .a=>(match x with
  | .i a=>eR y λb=>some<|.i<|a+b
  | .s a=>Dn y λb=>if sh a&&sh b then some (.s<|a++b)else none
  |_=>none)
 | .s=>eR x λa=>eR y λb=>some<|.i<|a-b
 |_=>none
def nW (n:Nat)(i:Int):Option Nat:=
 if sm i then(if 0<=i then(if i.toNat<n then some i.toNat else none)else if 0<=i+n then some (i+n).toNat else none)else none
noncomputable def DT(n:Nat)(i:Int):Nat:=if 0<=i then min i.toNat n else(i+n).toNat
noncomputable def Gg(s:List α)(l h:Nat):List α:=(s.take h).drop l
noncomputable def mJ:List Nat->List Nat->Bool
 | [],_=>true
 |_::_,[]=>false
 |a::s,b::t=>if a<b then true else if b<a then false else mJ s t
theorem oh{z}:mJ [] z=true:=rfl
theorem ue{h t}:mJ (h::t) []=false:=rfl
theorem n6{a s b t}:mJ (a::s) (b::t)=if a<b then true else if b<a then false else mJ s t:=rfl
noncomputable def j6:List V->Option (List Int)
 | []=>some []
 |v::r=>eR v λi=>(j6 r).map (i::·)
theorem NI:j6 []=some []:=rfl
theorem zU{h t}:j6 (h::t)=eR h λi=>Option.map (λx=>i::x)<|j6 t:=rfl
noncomputable def jV:List V->Option (List<|List Nat)
 | []=>some []
 |v::r=>Dn v λs=>(jV r).map (s::·)
theorem Nd:jV []=some []:=rfl
theorem Ai{h t}:jV (h::t)=Dn h λs=>Option.map (λx=>s::x)<|jV t:=rfl
noncomputable def sZ(s:List Nat):List V->Option Bool
 | []=>some false
 |v::r=>Dn v λt=>(sZ s r).map (decide (s=t)||·)
theorem Kk{s}:sZ s []=some false:=rfl
theorem Cd{s h a}:sZ s (h::a)=Dn h λt=>Option.map (λx=>decide (s=t)||x)<|sZ s a:=rfl
mutual
noncomputable def bw(n:Nat):V->Bool
 | .i _=>true
 | .s s=>sh s&&s.all (·<128)
 | .t l=>(match n with |0=>false|n+1=>X9 n l)
 |_=>false
noncomputable def X9(n:Nat):List V->Bool
 | []=>true
 |v::l=>bw n v&&X9 n l
end
theorem gf{n a}:bw n (V.i a)=true:=rfl
theorem i7{n a}:bw n (V.s a)=(sh a&&a.all λx=>decide (x<128)):=rfl
theorem jq{a}:bw 0 (V.t a)=false:=rfl
theorem iW{a z}:bw z.succ (V.t a)=X9 z a:=rfl
theorem i5{n}:X9 n []=true:=rfl
theorem jp{n h t}:X9 n (h::t)=(bw n h&&X9 n t):=rfl
noncomputable def vD(l k:List<|Int×V):Option Bool:=match l with
 | []=>some true
 |p::r=>eR p.2 λx=>(match eJ p.1 k with
  |some w=>eR w λy=>(vD r k).map (decide (x=y)&&·)
  |none=>some false)
theorem Cz{k}:vD [] k=some true:=rfl
theorem JL{k p r}:vD (p::r) k=
 eR p.2 λx=>
  match eJ p.1 k with
  |some w=>eR w λy=>Option.map (λa=>decide (x=y)&&a)<|vD r k
  |none=>some false:=rfl
def Ed (H:Hp)(x y:V):Option Bool:=match x with
 | .r a=>nV y λb=>oB H[a]? λo=>(match o with
  | .l l=>hL H[b]? λk=>if X9 3 l&&X9 3 k then Z4 l k else none
  | .dI l=>hD H[b]? λk=>if l.length=k.length then vD l k else some false
  |_=>none)
 | .t l=>Ec y λk=>if X9 3 l&&X9 3 k then Z4 l k else none
 | .i i=>eR y λj=>some<|decide (i=j)
 | .s s=>Dn y λt=>some<|decide (s=t)
 |_=>none
def fW (H:Hp)(x y:V):Option Bool:=match x with
 | .s s=>(match y with
  | .t l=>sZ s l
  | .s t=>(match s with | [c]=>some (t.contains c)|_=>none)
  | .r a=>oB H[a]? λo=>(match o with
   | .l l=>if X9 3 l&&bw 3 (.s s)then sZ s l else none
   | .dS l=>some (qD s l).isSome
   |_=>none)
  |_=>none)
 | .i i=>nV y λa=>hD H[a]? λl=>some (eJ i l).isSome
 |_=>none
def aY (H:Hp)(op:Cp)(x y:V):Option Bool:=match op with
 | .e=>Ed H x y
 | .n=>(Ed H x y).map (!·)
 | .l=>eR x λa=>eR y λb=>some<|decide (a<b)
 | .le=>(match x with
  | .i a=>eR y λb=>some<|decide (a<=b)
  | .s s=>Dn y λt=>some<|mJ s t
  |_=>none)
 | .g=>eR x λa=>eR y λb=>some<|decide (b<a)
 | .ge=>eR x λa=>eR y λb=>some<|decide (b<=a)
 | .i=>fW H x y
 | .Zk _=>(match y with
  | .s _=>none
  |_=>(fW H x y).map (!·))
def getItem (H:Hp)(x y:V):Option V:=match x with
 | .t l=>eR y λi=>(nW l.length i).bind (l[·]?)
 | .s s=>eR y λi=>((nW s.length i).bind (s[·]?)).map λc=>.s [c]
 | .r a=>(match y with
  | .i i=>oB H[a]? λo=>(match o with
   | .l l=>(nW l.length i).bind (l[·]?)
   | .dI l=>eJ i l
   |_=>none)
  | .s s=>hS H[a]? λl=>qD s l
  |_=>none)
 |_=>none
def setItem (H:Hp)(x y v:V):Option Hp:=nV x λa=>(match y with
 | .i i=>oB H[a]? λo=>(match o with
  | .l l=>(nW l.length i).map λk=>H.set a<|.l<|l.set k v
  | .dI l=>if l.length<=1000 then some (H.set a<|.dI<|kM i v l)else none
  |_=>none)
 | .s s=>hS H[a]? λl=>if l.length<=1000 then some (H.set a<|.dS<|wQ s v l)else none
 |_=>none)
noncomputable def ed:Int×Int->Int×Int->Bool
 |(a,b),(c,d)=>decide (a<c)||(decide (a=c)&&decide (b<d))
noncomputable def iT(c:Nat->Nat->Bool):PySem.W.KasT b->b
 | .ret a=>a
 | .ask i j k=>iT c<|k<|c i j
theorem OS{c}:iT c (PySem.W.KasT.ret a)=a:=rfl
theorem DR{c i j}:iT c (PySem.W.KasT.ask i j k)=iT c (k<|c i j):=rfl
def iY (p:List<|Int×Int):List Nat:=(iT (λi j=>ed (p.getD i (0,0))<|p.getD j (0,0))<|PySem.W.kas_sort p.length).toList
noncomputable def dO:List V->Option (List<|Int×Int)
 | []=>some []
 |v::r=>Ec v λl=>(match l with
  | [a,b]=>eR a λa=>eR b λb=>(dO r).map ((a,b)::·)
  |_=>none)
theorem KD:dO []=some []:=rfl
theorem Lr{h t}:dO (h::t)=
 Ec h λl=>
  match l with
  | [a,b]=>eR a λa=>eR b λb=>Option.map (λx=>(a,b)::x)<|dO t
  |x=>none:=rfl
def rc (H:Hp)(u:V):Option<|List V×Option Nat:=match u with
 | .t l=>some (l,none)
 | .s s=>some (s.map λc=>.s [c],none)
 | .r a=>hL H[a]? λl=>if l.length<=1000000 then some (l,some a)else none
 |_=>none
def a3 (a:Nat)(l:List V)(H:Hp):Bool:=match hL H[a]? λk=>some (abo k l)with
 |some b=>b
 |none=>false
def ju (g:Option Nat)(l:List V)(H:Hp):Bool:=match g with
 |none=>true
 |some a=>a3 a l H
noncomputable def bS(a:Int):Nat->Int->List V
 |0,_=>[]
 |n+1,s=>.i a::bS (a+s) n s
theorem Rh{a z}:bS a 0 z=[]:=rfl
theorem oK{a z2 n}:bS a n.succ z2=V.i a::bS (a+z2) n z2:=rfl
noncomputable def cW(l:Lo)(c:List Nat):Lo:=c.map λi=>(l[i]?).join
noncomputable def cL(f:V->Hp->Option (Option V×Hp))(o:Hp->Bool):List V->Hp->Option (List V×Hp)
 | [],H=>gd (o H)<|some ([],H)
 |v::b,H=>gd (o H) (bV (f v H) λx a=>match x with
  |some x=>bV (cL f o b a) λd c=>some (x::d,c)
  |none=>cL f o b a)
theorem De{f o z}:cL f o [] z=gd (o z) (some ([],z)):=rfl
theorem Dv{f o z v a}:cL f o (v::a) z=
 gd (o z)
  (bV (f v z) λx H=>
   match x with
   |some x=>bV (cL f o a H) λc b=>some (x::c,b)
   |none=>cL f o a H):=rfl
noncomputable def fx(x:Option<|Fl×Hp)(g:Lo->Hp->Option (Fl×Hp)):Option<|Fl×Hp:=match x with
 |some p=>(match p.1 with | .n l=>g l p.2| .r v=>some (.r v,p.2)| .e _ _=>none)
 |none=>none
noncomputable def aK(f:V->Lo->Hp->Option (Fl×Hp))(o:Hp->Bool):List V->Lo->Hp->Option (Fl×Hp)
 | [],l,H=>gd (o H)<|some (.n l,H)
 |v::c,l,H=>gd (o H)<|fx (f v l H) λb a=>aK f o c b a
theorem Hl{f o a z}:aK f o [] a z=gd (o z) (some (Fl.n a,z)):=rfl
theorem yo{f o b z v a}:aK f o (v::a) b z=gd (o z) (fx (f v b z) λl H=>aK f o a l H):=rfl
noncomputable def nx(x:Option<|Fl×Hp)(f:Lo->Hp->Option (Fl×Hp)):Option<|Fl×Hp:=match x with
 |some p=>(match p.1 with | .n l=>f l p.2|_=>x)
 |none=>none
noncomputable def ry(r:Option V)(H:Hp):Option<|V×Hp:=match r with |some v=>some (v,H)|none=>none
noncomputable def qc(r:Option<|Rs×Hp):Option<|V×Hp:=match r with
 |some p=>(match p.1 with | .v v=>some (v,p.2)|_=>none)
 |none=>none
noncomputable def bR(r:Option Bool)(H:Hp):Option<|V×Hp:=match r with |some b=>some (.b b,H)|none=>none
noncomputable def iR(r:Option Int)(H:Hp):Option<|V×Hp:=match r with |some n=>some (.i n,H)|none=>none
noncomputable def rz(l:Lo)(r:Option Hp):Option<|Fl×Hp:=match r with |some H=>some (.n l,H)|none=>none
noncomputable def Js(r:Option Lo)(H:Hp):Option<|Fl×Hp:=match r with |some l=>some (.n l,H)|none=>none
noncomputable def MF(l:Lo)(i:Nat)(r:Option V)(H:Hp):Option<|Fl×Hp:=match r with |some z=>some (.n<|l.set i<|some z,H)|none=>none
noncomputable def gv(l:Lo)(i:Nat):Option V:=match l[i]? with |some x=>x|none=>none
def bb (H:Hp)(a f:Nat):Option V:=hI H[a]? λ_ b=>tf f b
noncomputable def Yd(H:Hp)(a:Nat):Bool:=match H[a]? with
 |some o=>(match o with | .i c _=>c==2|_=>false)
 |none=>false
noncomputable def mB(H:Hp)(a:Nat):Bool:=match H[a]? with
 |some o=>(match o with | .l _=>true|_=>false)
 |none=>false
def bF (H:Hp)(a:Nat)(v:V):Option Hp:=hL H[a]? λk=>if k.length<=1000000 then some (H.set a<|.l<|k++[v])else none
def EN (H:Hp)(a:Nat):Option Hp:=hL H[a]? λk=>if k.length<=1000000 then some (H.set a<|.l [])else none
def y9 (H:Hp)(a:Nat):Option Hp:=hL H[a]? λk=>if k.length<=1000000 then some (H.set a<|.l k.reverse)else none
def vH (H:Hp)(a:Nat):Option<|V×Hp:=hL H[a]? λk=>oB k.getLast? λv=>if k.length<=1000000 then some (v,H.set a<|.l k.dropLast)else none
def Bz (H:Hp)(a f:Nat)(v:V):Option Hp:=hI H[a]? λc b=>if Dm c f then some (H.set a<|.i c<|o0 f v b)else none
def slc (s i j:V):Option V:=Dn s λs=>eR i λi=>eR j λj=>if sm i&&sm j&&sh s then some (.s<|Gg s (DT s.length i)<|DT s.length j)else none
def O2 (s i:V):Option V:=Dn s λs=>eR i λi=>if sm i&&sh s then some (.s<|Gg s (DT s.length i) s.length)else none
def U2 (H:Hp)(x y:V):Option<|V×Hp:=nV x λr=>eR y λj=>hO H[r]? λk=>if 0<=j&&sm j&&decide (k.length<=1048576)then some (.r H.length,H++[.l<|(k.take j.toNat).map V.i])else none
def ej (H:Hp)(x:V):Option Int:=match x with
 | .s s=>if sh s then some (s.length:Int)else none
 | .r r=>oB H[r]? λo=>(match o with
  | .l k=>if k.length<=1000000 then some (k.length:Int)else none
  | .ro k=>if k.length<=1048576 then some (k.length:Int)else none
  |_=>none)
 |_=>none
def QS (x:V):Option Int:=Dn x λs=>(match s with | [c]=>some (c:Int)|_=>none)
def Mh (H:Hp)(x:V):Option Int:=nV x λr=>hL H[r]? λk=>oB (j6 k) λn=>if k.length<=1000000&&n.all sm then some n.sum else none
def Px (H:Hp)(x:V):Option<|V×Hp:=nV x λr=>hL H[r]? λk=>oB (dO k) λp=>if 2<=p.length&&p.length<64 then some (.r H.length,H++[.l<|(iY p).map λi=>k.getD i .n])else none
def Mo (H:Hp)(x:V):Option V:=nV x λr=>hL H[r]? λk=>oB (jV k) λs=>if k.length<=1000000&&sh s.flatten then some (.s s.flatten)else none
noncomputable def TJ(k:List<|List Nat)(v:List V)(H:Hp):Option<|V×Hp:=if v.length=k.length then some (.r H.length,H++[.dS<|k.zip v])else none
noncomputable def QJ(x:List V)(H:Hp):Option<|V×Hp:=if x.length<=1000000 then some (.r H.length,H++[.l x])else none
noncomputable def Qv(l:Lo)(r:Option<|Rs×Hp):Option<|Fl×Hp:=match r with
 |some p=>(match p.1 with | .v v=>some (.r<|.t [.s [],v],p.2)| .e a b=>some (.r<|.t [a,b],p.2))
 |none=>none
noncomputable def QX(x:Option<|Fl×Hp):Option<|(Lo×Hp)⊕(Fl×Hp):=match x with
 |some p=>(match p.1 with | .n l=>some (.inl (l,p.2))| .r v=>some (.inr (.r v,p.2))| .e _ _=>none)
 |none=>none
noncomputable def ZI(l:Lo):List Nat->List V->Option Lo
 | [],a=>(match a with | []=>some l|_::_=>none)
 |i::b,a=>(match a with | []=>none|v::a=>ZI (l.set i<|some v) b a)
def KS (v:V)(f:V->V->Option (Fl×Hp)):Option<|Fl×Hp:=Ec v λl=>(match l with | [x,y]=>f x y|_=>none)
section
variable(cl:Cl)
mutual
noncomputable def ai(l:Lo):ME->Hp->Option (V×Hp)
 | .i i,H=>some (.i i,H)
 | .s s,H=>some (.s s,H)
 | .b b,H=>some (.b b,H)
 | .v i,H=>ry (gv l i) H
 | .f e f,H=>bV (ai l e H) λv H=>nV v λa=>ry (bb H a f) H
 | .c k A,H=>bV (Zc l A H) λp H=>qc<|cl k p H
 | .w c A,H=>bV (Zc l A H) λp H=>bV (qc<|cl (1000+c) (.r H.length::p)<|H++[.i c []]) λv h=>UI v<|some (.r H.length,h)
 | .m k o A,H=>bV (ai l o H) λv H=>nV v λa=>gd (Yd H a)<|bV (Zc l A H) λp H=>qc<|cl k (.r a::p) H
 | .o op a b,H=>bV (ai l a H) λx H=>bV (ai l b H) λy H=>ry (fQ op x y) H
 | .N a,H=>bV (ai l a H) λv H=>rM v λb=>some (.b<|!b,H)
 | .a A,H=>Zb l A H
 | .or A,H=>ZS l A H
 | .q op a b,H=>bV (ai l a H) λx H=>bV (ai l b H) λy H=>bR (aY H op x y) H
 | .e c a b,H=>bV (ai l c H) λv H=>rM v λt=>if t then ai l a H else ai l b H
 | .t a i,H=>bV (ai l a H) λx H=>bV (ai l i H) λy H=>ry (getItem H x y) H
 | .S a I G,H=>bV (ai l a H) λs H=>bV (ai l I H) λi H=>bV (ai l G H) λj H=>ry (slc s i j) H
 | .Y a G,H=>bV (ai l a H) λx H=>bV (ai l G H) λj H=>U2 H x j
 | .X a I,H=>bV (ai l a H) λs H=>bV (ai l I H) λi H=>ry (O2 s i) H
 | .l F,H=>bV (Zc l F H) λp H=>some (.r H.length,H++[.l p])
 | .p F,H=>bV (Zc l F H) λp H=>some (.t p,H)
 | .dS J F,H=>bV (Zc l F H) λp H=>TJ J p H
 | .dI,H=>some (.r H.length,H++[.dI []])
 | .n a,H=>bV (ai l a H) λx H=>iR (ej H x) H
 | .ord a,H=>bV (ai l a H) λx H=>iR (QS x) H
 | .x a b,H=>bV (ai l a H) λx H=>bV (ai l b H) λy H=>eR x λx=>eR y λy=>some (.i<|if x<y then y else x,H)
 | .u a,H=>bV (ai l a H) λx H=>iR (Mh H x) H
 | .k a,H=>bV (ai l a H) λx H=>Px H x
 | .pop a,H=>bV (ai l a H) λx H=>nV x λr=>vH H r
 | .j a,H=>bV (ai l a H) λx H=>ry (Mo H x) H
 | .C g D d,H=>bV (ai l D H) λu z=>oB (rc z u) λq=>bV (cL (λv H=>bV (ai (some v::cW l d) g H) λx h=>some (some x,h)) (ju q.2 q.1) q.1 z) λE C=>QJ E C
 | .E g D m d,H=>bV (ai l D H) λu z=>oB (rc z u) λq=>bV (cL (λv H=>bV (ai (some v::cW l d) m H) λw h=>rM w λb=>
   if b then bV (ai (some v::cW l d) g h) λx B=>some (some x,B)else some (none,h)) (ju q.2 q.1) q.1 z) λE C=>QJ E C
 | .D g n d,H=>bV (ai l n H) λw z=>eR w λn=>if O6 n then
   bV (cL (λv H=>bV (ai (some v::cW l d) g H) λx h=>some (some x,h)) (λ_=>true) (bS 0 n.toNat 1) z) λE C=>QJ E C else none
 | .F g n m d,H=>bV (ai l n H) λw z=>eR w λn=>if O6 n then
   bV (cL (λv H=>bV (ai (some v::cW l d) m H) λw h=>rM w λb=>
   if b then bV (ai (some v::cW l d) g h) λx B=>some (some x,B)else some (none,h)) (λ_=>true) (bS 0 n.toNat 1) z) λE C=>QJ E C else none
noncomputable def Zc(l:Lo):List ME->Hp->Option (List V×Hp)
 | [],H=>some ([],H)
 |e::a,H=>bV (ai l e H) λv H=>bV (Zc l a H) λb H=>some (v::b,H)
noncomputable def Zb(l:Lo):List ME->Hp->Option (V×Hp)
 | [],_=>none
 |e::a,H=>bV (ai l e H) λv H=>rM v λb=>(match a with
  | []=>some (.b b,H)
  |_::_=>if b then Zb l a H else some (.b false,H))
noncomputable def ZS(l:Lo):List ME->Hp->Option (V×Hp)
 | [],_=>none
 |e::a,H=>bV (ai l e H) λv H=>rM v λb=>(match a with
  | []=>some (.b b,H)
  |_::_=>if b then some (.b true,H)else ZS l a H)
end
variable(lp:ZD)
mutual
noncomputable def bx(l:Lo)(H:Hp):MS->Option (Fl×Hp)
 | .x e=>bV (ai cl l e H) λ_ H=>some (.n l,H)
 | .s i e=>bV (ai cl l e H) λv H=>some (.n<|l.set i<|some v,H)
 | .f o f e=>bV (ai cl l e H) λv H=>bV (ai cl l o H) λx H=>nV x λa=>rz l<|Bz H a f v
 | .t o i e=>bV (ai cl l e H) λv H=>bV (ai cl l o H) λx H=>bV (ai cl l i H) λy H=>rz l<|setItem H x y v
 | .unp is e=>bV (ai cl l e H) λv H=>Js (Ec v λvs=>ZI l is vs) H
 | .v i op e=>oB (gv l i) λx=>bV (ai cl l e H) λy H=>MF l i (d5 op x y) H
 | .u o i op e=>bV (ai cl l o H) λx H=>bV (ai cl l i H) λy H=>oB (getItem H x y) λold=>bV (ai cl l e H) λv H=>oB (d5 op old v) λnew=>rz l<|setItem H x y new
 | .a o e=>bV (ai cl l o H) λx H=>nV x λa=>gd (mB H a)<|bV (ai cl l e H) λv H=>rz l<|bF H a v
 | .rvs o=>bV (ai cl l o H) λx H=>nV x λa=>rz l<|y9 H a
 | .c o=>bV (ai cl l o H) λx H=>nV x λa=>rz l<|EN H a
 | .i c t f=>bV (ai cl l c H) λv H=>rM v λb=>if b then XU l H t else XU l H f
 | .w c b=>lp (λs=>bV (ai cl s.1 c s.2) λv H=>rM v λt=>if t then QX (XU s.1 H b)else some<|.inr (.n s.1,H)) (l,H)
 | .g i src b=>bV (ai cl l src H) λu H1=>oB (rc H1 u) λq=>aK (λv l' H'=>XU (l'.set i<|some v) H' b) (ju q.2 q.1) q.1 l H1
 | .ZG i j src b=>bV (ai cl l src H) λu H1=>nV u λr=>hL H1[r]? λk=>if k.length<=1000000 then aK (λv l' H'=>KS v λx y=>XU ((l'.set i<|some x).set j<|some y) H' b) (a3 r k) k l H1 else none
 | .h i n b=>bV (ai cl l n H) λw H1=>eR w λn=>if O6 n then aK (λv l' H'=>XU (l'.set i<|some v) H' b) (λ_=>true) (bS 0 n.toNat 1) l H1 else none
 | .ZA i x b=>bV (ai cl l x H) λw H1=>eR w λx=>if Sj x then aK (λv l' H'=>XU (l'.set i<|some v) H' b) (λ_=>true) (bS x (x+1).toNat<|-1) l H1 else none
 | .aah i src b=>bV (ai cl l src H) λu H1=>nV u λr=>hL H1[r]? λk=>if k.length<=1000000 then aK (λv l' H'=>XU (l'.set i<|some v) H' b) (a3 r k) k.reverse l H1 else none
 | .r e=>bV (ai cl l e H) λv H=>some (.r v,H)
 | .aar=>some (.r .n,H)
 | .e a b=>bV (ai cl l a H) λx H=>bV (ai cl l b H) λy H=>some (.e x y,H)
 | .told k as=>bV (Zc cl l as H) λvs H=>Qv l<|cl k vs H
 | .k=>none
termination_by structural x=>x
noncomputable def XU(l:Lo)(H:Hp):List MS->Option (Fl×Hp)
 | []=>some (.n l,H)
 |s::r=>nx (bx l H s) λl' H'=>XU l' H' r
termination_by structural x=>x
end
end
set_option genInjectivity false in
structure Fn where
 p:Nat
 vars:Nat
 body:List MS
noncomputable def dw(r:Option<|Fl×Hp):Option<|Rs×Hp:=match r with
 |some p=>(match p.1 with | .n _=>some (.v .n,p.2)| .r v=>some (.v v,p.2)| .e a b=>some (.e a b,p.2))
 |none=>none
noncomputable def Iu(l:ZD)(F:Nat->Option Fn):Nat->Cl
 |0,_,_,_=>none
 |d+1,k,v,H=>oB (F k) λf=>if v.length=f.p then dw (XU (Iu l F d) l (v.map some++List.replicate (f.vars-f.p) none) H f.body)else none
noncomputable def fP(a:S->Option (S⊕R)):Nat->S->Option R
 |0,_=>none
 |n+1,s=>oB (a s) λx=>match x with
  | .inl b=>fP a n b
  | .inr r=>some r
theorem xx{z}:fP step 0 z=none:=rfl
theorem oW{s:S->Option (S⊕R)}{z n}:fP s n.succ z=
 oB (s z) λx=>
  match x with
  |Sum.inl a=>fP s n a
  |Sum.inr r=>some r:=rfl
section
variable{C:Prop}
def s7 (h:ry r H=some (v,b))(k:r=some v->H=b->C):C:=by cases r with |none=>exact cQ h|some a=>exact aQ h λe=>k<|Xy some e
def Py (h:bR r H=some (v,c))(k:∀b,r=some b->.b b=v->H=c->C):C:=by cases r with |none=>exact cQ h|some a=>exact aQ h<|k a rfl
def L0 (h:iR r H=some (v,c))(k:∀b,r=some b->.i b=v->H=c->C):C:=by cases r with |none=>exact cQ h|some a=>exact aQ h<|k a rfl
def zA (h:qc r=some (v,c))(k:r=some (.v v,c)->C):C:=by cases r with |none=>exact cQ h|some p=>obtain⟨a,b⟩:=p;cases a with |v a=>exact aQ h λe d=>k (by clear k;subst e;exact Xy (λH=>some (Rs.v a,H)) d)|_=>exact cQ h
def u0 (h:rz l r=some (f,H))(k:r=some H->.n l=f->C):C:=by cases r with |none=>exact cQ h|some a=>exact aQ h λe b=>k (Xy some b) e
def A8 (h:QJ x H=some (v,a))(k:x.length<=1000000->.r H.length=v->H++[.l x]=a->C):C:=cv h λq h=>aQ h<|k q
def Uq (h:nx x f=some (y,c))(k:∀l H,x=some (.n l,H)->f l H=some (y,c)->C)(d:(∀l,y≠.n l)->x=some (y,c)->C):C:=by cases x with |none=>exact cQ h|some p=>obtain⟨a,b⟩:=p;cases a with |n l=>exact k l b rfl h|_=>exact aQ h λe g=>d (λl q=>by rw[q]at e;cases e) (by clear h k d;subst e;exact Xy (λH=>some (_,H)) g)
def SY (h:fx x g=some (y,c))(k:∀l H,x=some (.n l,H)->g l H=some (y,c)->C)(f:∀v,y=.r v->x=some (.r v,c)->C):C:=by cases x with |none=>exact cQ h|some p=>obtain⟨a,b⟩:=p;cases a with |n l=>exact k l b rfl h|r v=>exact aQ h λe d=>f v e.symm (Xy (λH=>some (Fl.r v,H)) d)|_=>exact cQ h
end
section
variable{cl:Cl}{lp:ZD}{l:Lo}{H:Hp}
theorem Ce:bx cl lp l H (.x e)=bV (ai cl l e H) λ_ H=>some (.n l,H):=rfl
theorem we:bx cl lp l H (.s i e)=bV (ai cl l e H) λv H=>some (.n<|l.set i<|some v,H):=rfl
theorem Cn:bx cl lp l H (.f o f e)=bV (ai cl l e H) λv H=>bV (ai cl l o H) λx H=>nV x λa=>rz l<|Bz H a f v:=rfl
theorem BD:bx cl lp l H (.t o i e)=bV (ai cl l e H) λv H=>bV (ai cl l o H) λx H=>bV (ai cl l i H) λy H=>rz l<|setItem H x y v:=rfl
theorem zK:bx cl lp l H (.unp i e)=bV (ai cl l e H) λv H=>Js (Ec v λa=>ZI l i a) H:=rfl
theorem JX:bx cl lp l H (.v i op e)=oB (gv l i) λx=>bV (ai cl l e H) λy H=>MF l i (d5 op x y) H:=rfl
theorem CC:bx cl lp l H (.u o i op e)=bV (ai cl l o H) λx H=>bV (ai cl l i H) λy H=>oB (getItem H x y) λa=>bV (ai cl l e H) λv H=>oB (d5 op a v) λn=>rz l<|setItem H x y n:=rfl
theorem AL:bx cl lp l H (.a o e)=bV (ai cl l o H) λx H=>nV x λa=>gd (mB H a) (bV (ai cl l e H) λv H=>rz l<|bF H a v):=rfl
theorem Gw:bx cl lp l H (.rvs o)=bV (ai cl l o H) λx H=>nV x λa=>rz l<|y9 H a:=rfl
theorem yv:bx cl lp l H (.c o)=bV (ai cl l o H) λx H=>nV x λa=>rz l<|EN H a:=rfl
theorem Eu:bx cl lp l H (.i c t f)=bV (ai cl l c H) λv H=>rM v λb=>if b then XU cl lp l H t else XU cl lp l H f:=rfl
theorem xN:bx cl lp l H (.w c b)=lp (λs=>bV (ai cl s.1 c s.2) λv H=>rM v λt=>if t then QX (XU cl lp s.1 H b)else some<|.inr (.n s.1,H)) (l,H):=rfl
theorem rG:bx cl lp l H (.g i src b)=bV (ai cl l src H) λu H1=>oB (rc H1 u) λq=>aK (λv c a=>XU cl lp (c.set i<|some v) a b) (ju q.2 q.1) q.1 l H1:=rfl
theorem Bc:bx cl lp l H (.ZG i j src b)=bV (ai cl l src H) λu a=>nV u λr=>hL a[r]? λk=>if k.length<=1000000 then aK (λv d c=>KS v λx y=>XU cl lp ((d.set i<|some x).set j<|some y) c b) (a3 r k) k l a else none:=rfl
theorem Ba:bx cl lp l H (.h i n b)=bV (ai cl l n H) λw c=>eR w λn=>if O6 n then aK (λv d a=>XU cl lp (d.set i<|some v) a b) (λ_=>true) (bS 0 n.toNat 1) l c else none:=rfl
theorem yJ:bx cl lp l H (.ZA i x b)=bV (ai cl l x H) λw c=>eR w λx=>if Sj x then aK (λv d a=>XU cl lp (d.set i<|some v) a b) (λ_=>true) (bS x (x+1).toNat<|-1) l c else none:=rfl
theorem B6:bx cl lp l H (.aah i src b)=bV (ai cl l src H) λu a=>nV u λr=>hL a[r]? λk=>if k.length<=1000000 then aK (λv d c=>XU cl lp (d.set i<|some v) c b) (a3 r k) k.reverse l a else none:=rfl
theorem Fo:bx cl lp l H (.r e)=bV (ai cl l e H) λv H=>some (.r v,H):=rfl
theorem xi:bx cl lp l H (.e a b)=bV (ai cl l a H) λx H=>bV (ai cl l b H) λy H=>some (.e x y,H):=rfl
end
def Eb {a b:AO}{P:Prop}(h:a=b)(e:Nat.beq a.ctorIdx b.ctorIdx=false):P:=SA _ h e
noncomputable abbrev xR(a:Nat):Option V:=some<|.r a
noncomputable abbrev xI(a:Int):Option V:=some<|.i a
noncomputable abbrev xS(a:List Nat):Option V:=some<|.s a
abbrev kV_:=V->Hp->Prop
def g8 (r:Option<|a×Hp)(k:a->Hp->Prop):Prop:=∀v H,r=some (v,H)->k v H
def SI (r:Option<|Rs×Hp)(k:kV_):Prop:=∀v H,r=some (.v v,H)->k v H
def rA (r:Option a)(k:a->Prop):Prop:=∀v,r=some v->k v
def UD (b:Bool)(k:Prop):Prop:=b=true->k
def Kx (v:V)(k:Nat->Prop):Prop:=match v with | .r a=>k a|_=>True
def I3 (v:V)(k x:Prop):Prop:=match v with | .b b=>(match b with |true=>k|false=>x)|_=>True
noncomputable def IG(k:V->Prop):Lo->Nat->Prop
 | [],_=>True
 |x::l,i=>(match i with |0=>(match x with |some v=>k v|none=>True)|i+1=>IG k l i)
noncomputable def KV(v:V):Lo->Nat->(Lo->Prop)->Prop
 | [],_,k=>k []
 |x::l,i,k=>(match i with |0=>k (some v::l)|i+1=>KV v l i λl=>k<|x::l)
section
variable(ks:V->Lo->Nat->(Lo->Prop)->Prop)
noncomputable def T0:List Nat->List V->Lo->(Lo->Prop)->Prop
 | [],a,l,k=>(match a with | []=>k l|_::_=>True)
 |i::b,a,l,k=>(match a with | []=>True|v::a=>ks v l i λl=>T0 b a l k)
end
def KE (f:Fl)(k:Lo->Prop)(x:Prop):Prop:=match f with | .n l=>k l|_=>x
def Xc (v:V)(k:Prop):Prop:=match v with | .n=>k|_=>True
def WE (v:V)(k:List V->Prop):Prop:=match v with | .t a=>k a|_=>True
def TD (v:V)(k:Int->Prop):Prop:=match v with | .i a=>k a|_=>True
section
variable(kv:(V->Prop)->Lo->Nat->Prop)(ks:V->Lo->Nat->(Lo->Prop)->Prop)(cl)
mutual
noncomputable def ft(l:Lo):ME->Hp->kV_->Prop
 | .i i,H=>λk=>k (.i i) H
 | .s s,H=>λk=>k (.s s) H
 | .b b,H=>λk=>k (.b b) H
 | .v i,H=>λk=>kv (λv=>k v H) l i
 | .f e f,H=>λk=>ft l e H λv H=>Kx v λa=>rA (bb H a f) λv=>k v H
 | .c c h,H=>λk=>kwM l h H λg H=>SI (cl c g H) k
 | .w c h,H=>λk=>kwM l h H λg H=>SI (cl (1000+c) (.r H.length::g)<|H++[.i c []]) λv u=>Xc v<|k (.r H.length) u
 | .m c o h,H=>λk=>ft l o H λv H=>Kx v λa=>UD (Yd H a)<|kwM l h H λg H=>SI (cl c (.r a::g) H) k
 | .o op a b,H=>λk=>ft l a H λx H=>ft l b H λy H=>rA (fQ op x y) λv=>k v H
 | .N a,H=>λk=>ft l a H λv H=>I3 v (k (.b false) H)<|k (.b true) H
 | .q op a b,H=>λk=>ft l a H λx H=>ft l b H λy H=>rA (aY H op x y) λt=>k (.b t) H
 | .e c a b,H=>λk=>ft l c H λv H=>I3 v (ft l a H k)<|ft l b H k
 | .t a i,H=>λk=>ft l a H λx H=>ft l i H λy H=>rA (getItem H x y) λv=>k v H
 | .l m,H=>λk=>kwM l m H λg H=>k (.r H.length)<|H++[.l g]
 | .p m,H=>λk=>kwM l m H λg H=>k (.t g) H
 | .dS ks m,H=>λk=>kwM l m H λg H=>g8 (TJ ks g H) k
 | .dI,H=>λk=>k (.r H.length)<|H++[.dI []]
 | .n a,H=>λk=>ft l a H λx H=>rA (ej H x) λn=>k (.i n) H
 | .ord a,H=>λk=>ft l a H λx H=>rA (QS x) λn=>k (.i n) H
 | .j a,H=>λk=>ft l a H λx H=>rA (Mo H x) λv=>k v H
 | .pop a,H=>λk=>ft l a H λx H=>Kx x λr=>g8 (vH H r) k
 | .u a,H=>λk=>ft l a H λx H=>rA (Mh H x) λn=>k (.i n) H
 | .k a,H=>λk=>ft l a H λx H=>g8 (Px H x) k
 | .x a b,H=>λk=>ft l a H λx H=>ft l b H λy H=>TD x λa=>TD y λb=>k (.i<|max a b) H
 | .Y a p,H=>λk=>ft l a H λx H=>ft l p H λj H=>g8 (U2 H x j) k
 | .X a q,H=>λk=>ft l a H λs H=>ft l q H λi H=>rA (O2 s i) λv=>k v H
 | .S a q p,H=>λk=>ft l a H λs H=>ft l q H λi H=>ft l p H λj H=>rA (slc s i j) λv=>k v H
 | .a h,H=>λk=>kwA l h H k
 | .or h,H=>λk=>kwO l h H k
 | .C a b c,H=>λk=>g8 (ai cl l (.C a b c) H) k
 | .E a b c d,H=>λk=>g8 (ai cl l (.E a b c d) H) k
 | .D a b c,H=>λk=>g8 (ai cl l (.D a b c) H) k
 | .F a b c d,H=>λk=>g8 (ai cl l (.F a b c d) H) k
noncomputable def kwM(l:Lo):List ME->Hp->(List V->Hp->Prop)->Prop
 | [],H=>λk=>k [] H
 |e::a,H=>λk=>ft l e H λv H=>kwM l a H λb H=>k (v::b) H
noncomputable def kwA(l:Lo):List ME->Hp->kV_->Prop
 | [],_=>λ_=>True
 |e::a,H=>λk=>ft l e H λv H=>match a with | []=>I3 v (k (.b true) H) (k (.b false) H)|_::_=>I3 v (kwA l a H k)<|k (.b false) H
noncomputable def kwO(l:Lo):List ME->Hp->kV_->Prop
 | [],_=>λ_=>True
 |e::a,H=>λk=>ft l e H λv H=>match a with | []=>I3 v (k (.b true) H) (k (.b false) H)|_::_=>I3 v (k (.b true) H)<|kwO l a H k
end
variable(lp:ZD)
mutual
noncomputable def Uh(l:Lo)(H:Hp)(Q:Fl->Hp->Prop):MS->(Lo->Hp->Prop)->Prop
 | .x e=>λk=>ft kv cl l e H λ_ H=>k l H
 | .s i e=>λk=>ft kv cl l e H λv H=>ks v l i λl=>k l H
 | .f o f e=>λk=>ft kv cl l e H λv H=>ft kv cl l o H λx H=>Kx x λa=>rA (Bz H a f v) λH=>k l H
 | .t o i e=>λk=>ft kv cl l e H λv H=>ft kv cl l o H λx H=>ft kv cl l i H λy H=>rA (setItem H x y v) λH=>k l H
 | .unp h e=>λk=>ft kv cl l e H λv H=>WE v λj=>T0 ks h j l λl=>k l H
 | .v i op e=>λk=>kv (λx=>ft kv cl l e H λy H=>rA (d5 op x y) λz=>ks z l i λl=>k l H) l i
 | .u o i op e=>λk=>ft kv cl l o H λx H=>ft kv cl l i H λy H=>rA (getItem H x y) λg=>ft kv cl l e H λv H=>rA (d5 op g v) λn=>rA (setItem H x y n) λH=>k l H
 | .a o e=>λk=>ft kv cl l o H λx H=>Kx x λa=>UD (mB H a)<|ft kv cl l e H λv H=>rA (bF H a v) λH=>k l H
 | .rvs o=>λk=>ft kv cl l o H λx H=>Kx x λa=>rA (y9 H a) λH=>k l H
 | .c o=>λk=>ft kv cl l o H λx H=>Kx x λa=>rA (EN H a) λH=>k l H
 | .i c t f=>λk=>ft kv cl l c H λv H=>I3 v (kwB l H Q t k)<|kwB l H Q f k
 | .r e=>λ_=>ft kv cl l e H λv H=>Q (.r v) H
 | .aar=>λ_=>Q (.r .n) H
 | .e a b=>λ_=>ft kv cl l a H λx H=>ft kv cl l b H λy H=>Q (.e x y) H
 | .w c b=>λk=>g8 (bx cl lp l H<|.w c b) λf H=>KE f (λl=>k l H)<|Q f H
 | .g a b c=>λk=>g8 (bx cl lp l H<|.g a b c) λf H=>KE f (λl=>k l H)<|Q f H
 | .ZG a b c d=>λk=>g8 (bx cl lp l H<|.ZG a b c d) λf H=>KE f (λl=>k l H)<|Q f H
 | .h a b c=>λk=>g8 (bx cl lp l H<|.h a b c) λf H=>KE f (λl=>k l H)<|Q f H
 | .ZA a b c=>λk=>g8 (bx cl lp l H<|.ZA a b c) λf H=>KE f (λl=>k l H)<|Q f H
 | .aah a b c=>λk=>g8 (bx cl lp l H<|.aah a b c) λf H=>KE f (λl=>k l H)<|Q f H
 | .told a b=>λk=>g8 (bx cl lp l H<|.told a b) λf H=>KE f (λl=>k l H)<|Q f H
 | .k=>λ_=>True
noncomputable def kwB(l:Lo)(H:Hp)(Q:Fl->Hp->Prop):List MS->(Lo->Hp->Prop)->Prop
 | []=>λk=>k l H
 |s::r=>λk=>Uh l H Q s λl H=>kwB l H Q r k
end
end
section
variable{cl:Cl}{l:Lo}
def p1 (h:g8 (bV r F) k)(g:∀v H,g8 (F v H) k->K v H):g8 r K:=λv H q=>g v H λy a p=>h y a (by rw[q];exact p)
def p2 (h:g8 x k)(e:x=bV r F)(g:∀v H,g8 (F v H) k->K v H):g8 r K:=p1 (by rw[e]at h;exact h) g
def ud {F:Nat->Option (b×Hp)}(h:g8 (nV v F) k)(g:∀a,g8 (F a) k->K a):Kx v K:=by cases v<;>first| exact g _ h|trivial
def Lj (h:g8 (eR v F) k)(g:∀a,g8 (F a) k->K a):TD v K:=by cases v<;>first| exact g _ h|trivial
def Ra {x y:Int}:(if x<y then y else x)=max x y:=by rw[Int.max_def];split<;>split<;>first|rfl| exact Xv (YN ‹_›) ‹_› | exact Int.le_antisymm ‹_›<|Y9.mp ‹_›
def t7 (h:g8 (rM v F) k)(g:g8 (F true) k->A)(a:g8 (F false) k->B):I3 v A B:=by cases v with |b b=>cases b;exact a h;exact g h|_=>trivial
def Lf (h:g8 (gd b x) k)(g:g8 x k->K):UD b K:=λq=>g (by rw[q]at h;exact h)
def EZ (h:g8 (qc r) k):SI r k:=λv H q=>h v H (by rw[q];rfl)
def KU (h:g8 (oB r F) k)(g:∀v,g8 (F v) k->K v):rA r K:=λv q=>g v (by rw[q]at h;exact h)
def u7 (h:g8 (some (x,H)) k):k x H:=h x H rfl
def uD (h:g8 (ry r H) k):rA r λv=>k v H:=λv q=>h v H (by rw[q];rfl)
def RG (h:g8 (bR r H) k):rA r λv=>k (.b v) H:=λv q=>h _ H (by rw[q];rfl)
def FE (h:g8 (iR r H) k):rA r λv=>k (.i v) H:=λv q=>h _ H (by rw[q];rfl)
def qJ:∀{l:Lo}{i:Nat},(∀v,gv l i=some v->k v)->IG k l i:=by
 intro l;induction l with
 |nil=>intros;trivial
 |cons x l a=>intro i h;cases i with
  |zero=>cases x with |none=>trivial|some v=>exact h v rfl
  |succ i=>exact a h
def uI:∀{l:Lo}{i:Nat}{k:Lo->Prop},k (l.set i<|some v)->KV v l i k:=by
 intro l;induction l with
 |nil=>intro i k h;exact h
 |cons x l a=>intro i k h;cases i with
  |zero=>exact h
  |succ i=>exact a (k:=λl=>k<|x::l) h
def Qq (d:∀{v:V}{l:Lo}{i:Nat}{k:Lo->Prop},k (l.set i<|some v)->f v l i k):∀{b:List Nat}{a:List V}{l:Lo}{k:Lo->Prop},(∀c,ZI l b a=some c->k c)->T0 f b a l k:=by
 intro b;induction b with
 |nil=>intro a l k h;cases a;exact h l rfl;trivial
 |cons i b e=>intro a l k h;cases a with |nil=>trivial|cons v a=>exact d<|e h
abbrev kR (Q:Fl->Hp->Prop)(K:Lo->Hp->Prop):Fl->Hp->Prop:=λf H=>KE f (λl=>K l H)<|Q f H
def HB (h:g8 (some (Fl.n a,H1))<|kR Q K):K a H1:=h _ _ rfl
def uU (h:g8 (rz l r)<|kR Q K):rA r λH=>K l H:=λv q=>h (.n l) v (by rw[q];rfl)
def V7 (a:(V->Prop)->Lo->Nat->Prop)(cl:Cl)(l:Lo)(e:ME):Prop:=∀(H:Hp) (k:kV_),g8 (ai cl l e H) k->ft a cl l e H k
def Wq (a:(V->Prop)->Lo->Nat->Prop)(cl:Cl)(l:Lo)(e:List ME):Prop:=∀(H:Hp) (k:List V->Hp->Prop),g8 (Zc cl l e H) k->kwM a cl l e H k
def VZ (a:(V->Prop)->Lo->Nat->Prop)(cl:Cl)(l:Lo)(e:List ME):Prop:=∀(H:Hp) (k:kV_),g8 (Zb cl l e H) k->kwA a cl l e H k
def VP (a:(V->Prop)->Lo->Nat->Prop)(cl:Cl)(l:Lo)(e:List ME):Prop:=∀(H:Hp) (k:kV_),g8 (ZS cl l e H) k->kwO a cl l e H k
def Ww (b:(V->Prop)->Lo->Nat->Prop)(k:V->Lo->Nat->(Lo->Prop)->Prop)(cl:Cl)(a:ZD)(Q:Fl->Hp->Prop)(s:MS):Prop:=∀(l:Lo) (H:Hp) (K:Lo->Hp->Prop),g8 (bx cl a l H s) (kR Q K)->Uh b k cl a l H Q s K
def Xn (b:(V->Prop)->Lo->Nat->Prop)(k:V->Lo->Nat->(Lo->Prop)->Prop)(cl:Cl)(a:ZD)(Q:Fl->Hp->Prop)(s:List MS):Prop:=∀(l:Lo) (H:Hp) (K:Lo->Hp->Prop),g8 (XU cl a l H s) (kR Q K)->kwB b k cl a l H Q s K
variable{kv:(V->Prop)->Lo->Nat->Prop}{ks:V->Lo->Nat->(Lo->Prop)->Prop}(hv:∀{k:V->Prop}{l:Lo}{i:Nat},(∀v,gv l i=some v->k v)->kv k l i)(hs:∀{v:V}{l:Lo}{i:Nat}{k:Lo->Prop},k (l.set i<|some v)->ks v l i k)
include hv
mutual
theorem aH(e):V7 kv cl l e:=match e with
 | .i i=>λH k h=>u7 h
 | .s s=>λH k h=>u7 h
 | .b b=>λH k h=>u7 h
 | .v i=>λH k h=>hv λv q=>h v H (by show ry (gv l i) H=_;rw[q];rfl)
 | .f e f=>λH k h=>aH e H _<|p1 h λv H h=>ud h λa h=>uD h
 | .c c g=>λH k h=>ZQ g H _<|p1 h λv H h=>EZ h
 | .w c g=>λH k h=>ZQ g H _ (p1 h λn H h=>EZ<|p1 h λv H h=>by cases v<;>first| exact h _ _ rfl|trivial)
 | .m c o g=>λH k h=>aH o H _<|p1 h λv H h=>ud h λa h=>Lf h λh=>ZQ g H _<|p1 h λn H h=>EZ h
 | .o op a b=>λH k h=>aH a H _<|p1 h λx H h=>aH b H _<|p1 h λy H h=>uD h
 | .N a=>λH k h=>aH a H _<|p1 h λv H h=>t7 h u7 u7
 | .q op a b=>λH k h=>aH a H _<|p1 h λx H h=>aH b H _<|p1 h λy H h=>RG h
 | .e c a b=>λH k h=>aH c H _<|p1 h λx H h=>t7 h (aH a H _)<|aH b H _
 | .t a i=>λH k h=>aH a H _<|p1 h λx H h=>aH i H _<|p1 h λy H h=>uD h
 | .l m=>λH k h=>ZQ m H _<|p1 h λn H h=>u7 h
 | .p m=>λH k h=>ZQ m H _<|p1 h λn H h=>u7 h
 | .dS ks m=>λH k h=>ZQ m H _<|p1 h λn H h=>h
 | .dI=>λH k h=>u7 h
 | .n a=>λH k h=>aH a H _<|p1 h λx H h=>FE h
 | .ord a=>λH k h=>aH a H _<|p1 h λx H h=>FE h
 | .j a=>λH k h=>aH a H _<|p1 h λx H h=>uD h
 | .pop a=>λH k h=>aH a H _<|p1 h λx H h=>ud h λa h=>h
 | .u a=>λH k h=>aH a H _<|p1 h λx H h=>FE h
 | .k a=>λH k h=>aH a H _<|p1 h λx H h=>h
 | .x a b=>λH k h=>aH a H _<|p1 h λx H h=>aH b H _<|p1 h λy H h=>Lj h λa h=>Lj h λb h=>Ra▸u7 h
 | .Y a i=>λH k h=>aH a H _<|p1 h λx H h=>aH i H _<|p1 h λy H h=>h
 | .X a i=>λH k h=>aH a H _<|p1 h λx H h=>aH i H _<|p1 h λy H h=>uD h
 | .S a i j=>λH k h=>aH a H _<|p1 h λx H h=>aH i H _<|p1 h λy H h=>aH j H _<|p1 h λy H h=>uD h
 | .a g=>λH k h=>ab8 g H _ h
 | .or g=>λH k h=>ab9 g H _ h
 | .C a b c=>λH k h=>h
 | .E a b c d=>λH k h=>h
 | .D a b c=>λH k h=>h
 | .F a b c d=>λH k h=>h
theorem ZQ(es):Wq kv cl l es:=match es with
 | []=>λH k h=>u7 h
 |e::es=>λH k h=>aH e H _<|p1 h λx H h=>ZQ es H _<|p1 h λy H h=>u7 h
theorem ab8(es):VZ kv cl l es:=match es with
 | []=>λH k h=>trivial
 |e::es=>λH k h=>aH e H _ (p1 h λx H h=>by cases es with |nil=>exact t7 h u7 u7|cons=>exact t7 h (ab8 _ H _) u7)
theorem ab9(es):VP kv cl l es:=match es with
 | []=>λH k h=>trivial
 |e::es=>λH k h=>aH e H _ (p1 h λx H h=>by cases es with |nil=>exact t7 h u7 u7|cons=>exact t7 h u7<|ab9 _ H _)
end
include hs
mutual
theorem Fs(s):Ww kv ks cl p Q s:=match s with
 | .x e=>λl H K h=>aH hv e H _<|p2 h Ce λv H h=>HB h
 | .s i e=>λl H K h=>aH hv e H _<|p2 h we λv H h=>hs<|HB h
 | .f o f e=>λl H K h=>aH hv e H _<|p2 h Cn λv H h=>aH hv o H _<|p1 h λx H h=>ud h λa h=>uU h
 | .t o i e=>λl H K h=>aH hv e H _<|p2 h BD λv H h=>aH hv o H _<|p1 h λx H h=>aH hv i H _<|p1 h λx H h=>uU h
 | .unp m e=>λl H K h=>aH hv e H _ (p2 h zK λv H h=>by cases v with |t r=>exact Qq hs λg q=>h (.n g) H (by show Js (ZI _ _ _) _=_;rw[q];rfl)|_=>trivial)
 | .v i op e=>λl H K h=>hv λx q=>aH hv e H _ (p1 (r:=ai cl l e H) (F:=λy H=>MF l i (d5 op x y) H) (by have h:g8 (oB (gv l i) _) _:=h;rw[q]at h;exact h) λy H h=>λz q=>hs<|h (.n<|l.set i<|some z) H<|by rw[q];rfl)
 | .u o i op e=>λl H K h=>aH hv o H _<|p2 h CC λx H h=>aH hv i H _<|p1 h λy H h=>KU h λj h=>aH hv e H _<|p1 h λv H h=>KU h λn h=>uU h
 | .a o e=>λl H K h=>aH hv o H _<|p2 h AL λx H h=>ud h λa h=>Lf h λh=>aH hv e H _<|p1 h λx H h=>uU h
 | .rvs o=>λl H K h=>aH hv o H _<|p2 h Gw λx H h=>ud h λa h=>uU h
 | .c o=>λl H K h=>aH hv o H _<|p2 h yv λx H h=>ud h λa h=>uU h
 | .i c t f=>λl H K h=>aH hv c H _<|p2 h Eu λv H h=>t7 h (ZR t l H _)<|ZR f l H _
 | .r e=>λl H K h=>aH hv e H _<|p2 h Fo λv H h=>u7 (k:=kR Q K) h
 | .aar=>λl H K h=>u7 (k:=kR Q K) h
 | .e a b=>λl H K h=>aH hv a H _<|p2 h xi λx H h=>aH hv b H _<|p1 h λy H h=>u7 (k:=kR Q K) h
 | .w c b=>λl H K h=>h
 | .g a b c=>λl H K h=>h
 | .ZG a b c d=>λl H K h=>h
 | .h a b c=>λl H K h=>h
 | .ZA a b c=>λl H K h=>h
 | .aah a b c=>λl H K h=>h
 | .told a b=>λl H K h=>h
 | .k=>λl H K h=>trivial
theorem ZR(b):Xn kv ks cl c Q b:=match b with
 | []=>λl H K h=>HB h
 |s::r=>λl H K h=>Fs s l H _ λf a q=>by
   cases f with
   |n d=>exact ZR r d a _ λf H p=>h f H (by show nx (bx cl c l _ s) _=_;rw[q];exact p)
   |_=>exact h _ a (by show nx (bx cl c l _ s) _=_;rw[q];rfl)
end
end
noncomputable def Pq(f:Fl)(H:Hp):Option<|Rs×Hp:=match f with | .n _=>some (.v .n,H)| .r v=>some (.v v,H)| .e a b=>some (.e a b,H)
section
variable(cl)(lp:ZD)(l)(H)
def WG (b:List MS):Prop:=kwB IG KV cl lp l H (λf a=>dw (XU cl lp l H b)=Pq f a) b λ_ a=>dw (XU cl lp l H b)=some (.v .n,a)
def Xm (n:Nat)(b:List MS):Prop:=kwB IG KV cl lp l H (λf a=>XU cl lp l H b=some (f,a)) (b.take n) λc a=>XU cl lp l H b=XU cl lp c a (b.drop n)
def ka:(V->Prop)->Lo->Nat->Prop:=λk l i=>∀v,gv l i=some v->k v
def kb:V->Lo->Nat->(Lo->Prop)->Prop:=λv l i k=>k<|l.set i<|some v
variable(kv:(V->Prop)->Lo->Nat->Prop)(ks:V->Lo->Nat->(Lo->Prop)->Prop)
def UU (b:List MS):Prop:=kwB kv ks cl lp l H (λf a=>XU cl lp l H b=some (f,a)) b λc a=>XU cl lp l H b=some (.n c,a)
def RQ (s:MS):Prop:=Uh kv ks cl lp l H (λf a=>bx cl lp l H s=some (f,a)) s λb a=>bx cl lp l H s=some (.n b,a)
def QN (e:ME):Prop:=ft kv cl l e H λv a=>ai cl l e H=some (v,a)
def Um (e:List ME):Prop:=kwM kv cl l e H λv a=>Zc cl l e H=some (v,a)
def Wu (b:List MS):Prop:=UU cl lp l H IG KV b
def WR (s:MS):Prop:=RQ cl lp l H IG KV s
def W6 (e:ME):Prop:=QN cl l H IG e
def WA (s:MS):Prop:=RQ cl lp l H ka kb s
def V0 (e:ME):Prop:=QN cl l H ka e
def VW (e:List ME):Prop:=Um cl l H ka e
end
section
def jJ (h:WG c a l H b->dw (XU c a l H b)=r):dw (XU c a l H b)=r:=h (ZR qJ uI _ _ _ _ λf d q=>by rw[q];cases f with |n e=>exact rfl|_=>exact rfl)
def Oa (n)(h:Xm c a l H n b->XU c a l H b=r):XU c a l H b=r:=h (ZR qJ uI _ _ _ _ λf d q=>by
 have e:∀n (b) l H,XU c a l H b=nx (XU c a l H<|b.take n) λl H=>XU c a l H<|b.drop n:=by
  intro n;induction n with
  |zero=>intro b l H;rfl
  |succ n i=>intro b l H;cases b with
   |nil=>rfl
   |cons s b=>
    show nx (bx c a l H s) _=nx (nx (bx c a l H s) _) _;cases bx c a l H s with
    |none=>rfl
    |some p=>obtain⟨f,d⟩:=p;cases f with |n g=>exact i b g d|_=>rfl
 rw[e n];rw[q];cases f with |n g=>exact rfl|_=>exact rfl)
def uf (h:Wu c a l H b->XU c a l H b=r):XU c a l H b=r:=h (ZR qJ uI _ _ _ _ λf d q=>by cases f with |n e=>exact q|_=>exact q)
def yP (h:WR c a l H s->bx c a l H s=r):bx c a l H s=r:=h (Fs qJ uI _ _ _ _ λf b q=>by cases f with |n d=>exact q|_=>exact q)
def hE (h:W6 c l H e->ai c l e H=r):ai c l e H=r:=h<|aH qJ _ _ _ λ_ _ q=>q
def qt (h:WA c a l H s->bx c a l H s=r):bx c a l H s=r:=h (Fs (λh=>h) (λh=>h) _ _ _ _ λf b q=>by cases f with |n d=>exact q|_=>exact q)
def IH (h:V0 c l H e->ai c l e H=r):ai c l e H=r:=h<|aH (λh=>h) _ _ _ λ_ _ q=>q
def SZ (h:VW c l H e->Zc c l e H=r):Zc c l e H=r:=h<|ZQ (λh=>h) _ _ _ λ_ _ q=>q
end
section
variable{_:Decidable P}
def kr (e:r=some (decide P))(h:P):r=some true:=e.trans<|Xy some<|Yv h
def fv (e:r=some (decide P))(h:¬P):r=some false:=e.trans<|Xy some<|Ye h
def Jc (e:r=some (!decide P))(h:¬P):r=some true:=by rw[e,Ye h];rfl
def Sq (e:r=some (!decide P))(h:P):r=some false:=by rw[e,Yv h];rfl
end
end Mine
end
section
open PySem PySem.W PySem.Calls PyProof.Rows
namespace Mine
abbrev Led:=List<|Addr×Obj
abbrev Yp:=List<|Addr×Addr
noncomputable def S2(s:List Nat):Str:=⟨s.toArray⟩
def p0 (h:S2 s=S2 t):s=t:=by have:s.toArray=t.toArray:=Xy Str.cps h;simpa using this
noncomputable abbrev i6(v:List Value)(n:Nat):Obj:={cls:=.type "tuple",data:=.seq v.toArray n}
def own (b:Yp)(a:Addr):Prop:=∃c∈b,a=c.1\/a=c.2
mutual
noncomputable def b0(d:Yp)(N:Led):V->Value->Prop
 | .n,v=>v=.none
 | .b b,v=>v=.bool b
 | .i i,v=>∃t,v=.int i t
 | .s s,v=>∃t,v=.str (S2 s) t
 | .t l,v=>∃a e n,v=.ref a/\(a,i6 e n)∈N/\¬own d a/\XI d N l e
 | .r i,v=>∃c,d[i]?=some c/\v=.ref c.1
noncomputable def XI(b:Yp)(N:Led):List V->List Value->Prop
 | [],a=>a=[]
 |x::l,a=>∃v r,a=v::r/\b0 b N x v/\XI b N l r
end
theorem sY{a N z}:b0 a N V.n z=(z=Value.none):=rfl
theorem sG{a N z b}:b0 a N (V.b b) z=(z=Value.bool b):=rfl
theorem sS{a N z i}:b0 a N (V.i i) z=∃t,z=Value.int i t:=rfl
theorem qp{a N z s}:b0 a N (V.s s) z=∃t,z=Value.str (S2 s) t:=rfl
theorem sz{b N z l}:b0 b N (V.t l) z=∃a vs n,z=Value.ref a/\(a,i6 vs n)∈N/\¬own b a/\XI b N l vs:=rfl
theorem sx{a N z i}:b0 a N (V.r i) z=∃c,a[i]?=some c/\z=Value.ref c.1:=rfl
theorem ot{a N z}:XI a N [] z=(z=[]):=rfl
theorem Sv{a N z b l}:XI a N (b::l) z=∃v r,z=v::r/\b0 a N b v/\XI a N l r:=rfl
structure a5(cs:Addr->Prop)(ρ:Yp)(N:Led)(Zr:Yp)(N':Led):Prop where
 pre:∃t,Zr=ρ++t
 keep:∀p∈N,¬own ρ p.1->¬cs p.1->p∈N'
 apart:∀p∈N,¬own ρ p.1->¬own Zr p.1
abbrev aO:Addr->Prop:=λ_=>False
def a5.refl (cs)(a)(N):a5 cs a N a N:=⟨⟨[],by simp⟩,λ_ h _ _=>h,λ_ _ h=>h⟩
def a5.trans (x:a5 aO j N a c)(y:a5 cs a c b abp):a5 cs j N b abp:=by
 refine Xs x.pre λt e=>Xs y.pre λi f=>⟨⟨t++i,by rw[f,e,XM]⟩,λp d h g=>?_,λp d h=>?_⟩
 ·exact y.keep p (x.keep p d h id) (x.apart p d h) g
 ·exact y.apart p (x.keep p d h id)<|x.apart p d h
def a5.weak (x:a5 aO c N a N'):a5 cs c N a N':=⟨x.pre,λp b h _=>x.keep p b h id,x.apart⟩
def a5.get (x:a5 cs b N a d){i:Nat}(h:b[i]?=some c):a[i]?=some c:=by
 refine Xs x.pre λt e=>?_;clear x;subst e;rw[Yg]
 ·exact h
 ·exact(Yo.mp h).1
mutual
theorem b0.ext(x:a5 cs p N f j)(i:∀a d n,(a,i6 d n)∈N->¬cs a):∀{v:V}{u:Value},b0 p N v u->b0 f j v u
 | .n,_,h=>h
 | .b _,_,h=>h
 | .i _,_,h=>h
 | .s _,_,h=>h
 | .t l,_,h=>by exact cps λC o=>cG h λa d n e b g m=>o<|⟨a,d,n,e,x.keep _ b g<|i _ _ _ b,x.apart _ b g,XI.ext x i m⟩
 | .r _,_,h=>by exact ag h λc k e=>⟨c,x.get k,e⟩
theorem XI.ext(x:a5 cs j N b d)(c:∀a i n,(a,i6 i n)∈N->¬cs a):∀{v:List V}{u:List Value},XI j N v u->XI b d v u
 | [],_,h=>h
 |v::l,_,h=>by exact am h λg r e h1 f=>⟨g,r,e,b0.ext x c h1,XI.ext x c f⟩
end
def b0.XW (x:a5 aO c N a b)(h:b0 c N v u):b0 a b v u:=b0.ext x (λ_ _ _ _ h=>h) h
def XI.XW (x:a5 aO c N a b)(h:XI c N v u):XI a b v u:=XI.ext x (λ_ _ _ _ h=>h) h
theorem XI.length:∀{l:List V}{a:List Value},XI d N l a->a.length=l.length
 | [],_,h=>by subst h;rfl
 |v::l,_,h=>by refine am h λc r e _ b=>?_;clear h;subst e;simp[XI.length b]
def XI.get:∀{a:List Value},XI g N l a->∀{i:Nat}{v:V},l[i]?=some v->∃u,a[i]?=some u/\b0 g N v u:=by
 induction l with
 |nil=>intro _ _ i v e;simp at e
 |cons x l d=>
  intro _ h i v e;refine am h λf r b h1 c=>?_;clear h;subst b;cases i with
  |zero=>simp at e;subst e;exact⟨f,rfl,h1⟩
  |succ i=>simpa using d c<|e
def XI.append:∀{k:List V}{v u:List Value},XI b N l v->XI b N k u->XI b N (l++k) (v++u):=by
 induction l with
 |nil=>intro _ _ _ h a;subst h;exact a
 |cons x l i=>intro _ _ _ h a;refine am h λd r e h1 c=>?_;clear h;subst e;exact⟨d,_,rfl,h1,i c a⟩
def XI.one (h:b0 a N v u):XI a N [v] [u]:=⟨u,[],rfl,h,rfl⟩
theorem XI.set:∀{c:List Value},XI d N l c->∀{i:Nat}{v:V}{u:Value},b0 d N v u->XI d N (l.set i v) (c.set i u):=by
 induction l with
 |nil=>intro _ h i v u _;subst h;simp[ot]
 |cons x l f=>
  intro _ h i v u b;refine am h λg r e h1 a=>?_;clear h;subst e;cases i with
  |zero=>exact⟨u,r,rfl,b,a⟩
  |succ i=>exact⟨g,_,rfl,h1,f a b⟩
theorem XI.take:∀(n) {l:List V}{v:List Value},XI c N l v->XI c N (l.take n) (v.take n)
 |0,_,_,_=>by simp[ot]
 |n+1,[],_,h=>by subst h;simp[ot]
 |n+1,x::l,_,h=>by refine am h λb r e h1 a=>?_;clear h;subst e;exact⟨b,_,rfl,h1,XI.take n a⟩
theorem XI.drop:∀(n) {l:List V}{v:List Value},XI b N l v->XI b N (l.drop n) (v.drop n)
 |0,_,_,h=>h
 |n+1,[],_,h=>by subst h;simp[ot]
 |n+1,x::l,_,h=>by refine am h λc r e h1 a=>?_;clear h;subst e;simpa using XI.drop n a
theorem XI.reverse:∀{l:List V}{v:List Value},XI b N l v->XI b N l.reverse v.reverse
 | [],_,h=>by subst h;simp[ot]
 |x::l,_,h=>by refine am h λc r e h1 a=>?_;clear h;subst e;simp;exact XI.append (XI.reverse a)<|XI.one h1
def XI.dropLast (h:XI a N l v):XI a N l.dropLast v.dropLast:=by refine aa List.dropLast_eq_take<|aa List.dropLast_eq_take<|aa (XI.length h) ?_;exact XI.take _ h
noncomputable def FN(n:Nat->Str)(b:Yp)(N:Led):List (Nat×V)->List DictEntry->Prop
 | [],a=>a=[]
 |(f,v)::l,a=>∃e r,a=e::r/\(∃t,e.key=.str (n f) t)/\b0 b N v e.val/\FN n b N l r
theorem Vh{n a N z}:FN n a N [] z=(z=[]):=rfl
theorem Vx{n a N z f v l}:FN n a N ((f,v)::l) z=∃e r,z=e::r/\(∃t,e.key=Value.str (n f) t)/\b0 a N v e.val/\FN n a N l r:=rfl
noncomputable def xg(a:Yp)(N:Led):List (List Nat×V)->List (Str×Value)->Prop
 | [],k=>k=[]
 |(s,v)::l,k=>∃u r,k=(S2 s,u)::r/\b0 a N v u/\xg a N l r
theorem Fh{a N z}:xg a N [] z=(z=[]):=rfl
theorem Ff{a N z s v l}:xg a N ((s,v)::l) z=∃u r,z=(S2 s,u)::r/\b0 a N v u/\xg a N l r:=rfl
noncomputable def uz(a:Yp)(N:Led):List (Int×V)->List (Int×Value)->Prop
 | [],k=>k=[]
 |(s,v)::l,k=>∃u r,k=(s,u)::r/\b0 a N v u/\uz a N l r
theorem Fb{a N z}:uz a N [] z=(z=[]):=rfl
theorem Hn{a N z s v l}:uz a N ((s,v)::l) z=∃u r,z=(s,u)::r/\b0 a N v u/\uz a N l r:=rfl
set_option genInjectivity false in
structure S9 where
 c:Nat->Addr
 f:Nat->Str
 h:Heap
 o:OsState
 g:Array GenState
set_option genInjectivity false in
structure bi where
 p:Program
 w:World
 K:Frag
 b:Str->Option Value
 d:Str->Option Value
 Z:S9
 f:Nat->Addr
 a:Nat->Option Str
 c:Nat->Option Str
 m:Nat->Option Str
section
variable(P:bi)
def yZ (b:Yp)(N:Led)(c:Addr×Addr):AO->Prop
 | .l l=>c.2=c.1/\∃v n,(c.1,listOf v.toArray n)∈N/\XI b N l v
 | .dS l=>c.2=c.1/\∃o a,(c.1,o)∈N/\o.IsDictOf (strKind P.p P.w) a/\xg b N l a
 | .dI l=>c.2=c.1/\∃o a,(c.1,o)∈N/\o.IsDictOf (intKind P.p P.w) a/\uz b N l a
 | .i k f=>(c.1,instObj (P.Z.c k) c.2)∈N/\∃e n,(c.2,dictOf e n)∈N/\FN P.Z.f b N f e/\(∀p∈f,Dm k p.1=true)/\(f.map (·.1)).Nodup
 | .ro d=>c.2=c.1/\∃v,P.Z.h.IsList c.1 v/\IntsAre v.toList d
def LQ (a:Yp)(N:Led)(H:Hp):Prop:=a.length=H.length/\∀(i:Nat) (c:Addr×Addr) (o:AO),a[i]?=some c->H[i]?=some o->yZ P a N c o
def PU (a:Yp):Prop:=∀(i j:Nat) (c d:Addr×Addr),a[i]?=some c->a[j]?=some d->i≠j->c.1≠d.1/\c.1≠d.2/\c.2≠d.1/\c.2≠d.2
structure St(Xp:Heap)(L:Addr)(m:Str->Option Value)(ρ:Yp)(N:Led)(H:Hp)(s:Shared):Prop where
 F:Fr Xp L s.heap m
 g:News Xp L s.heap N
 j:(N.map (·.1)).Nodup
 rep:LQ P ρ N H
 sep:PU ρ
 old:∀b o,P.Z.h.get? b=some o->Xp.get? b=some o
 env:s.os=P.Z.o/\s.gens=P.Z.g
end
section
theorem FN.XW(x:a5 aO k N a b):∀{es:List DictEntry},FN names k N l es->FN names a b l es:=by
 induction l with
 |nil=>intro _ h;exact h
 |cons p l j=>intro _ h;obtain⟨f,v⟩:=p;refine iz h λe r c d i g=>?_;clear h;subst c;exact⟨e,r,rfl,d,i.XW x,j g⟩
theorem xg.XW(x:a5 aO j N a b):∀{es:List<|Str×Value},xg j N l es->xg a b l es:=by
 induction l with
 |nil=>intro _ h;exact h
 |cons p l i=>intro _ h;obtain⟨f,v⟩:=p;refine am h λe r c g d=>?_;clear h;subst c;exact⟨e,r,rfl,g.XW x,i d⟩
theorem uz.XW(x:a5 aO j N a b):∀{es:List<|Int×Value},uz j N l es->uz a b l es:=by
 induction l with
 |nil=>intro _ h;exact h
 |cons p l i=>intro _ h;obtain⟨f,v⟩:=p;refine am h λe r c g d=>?_;clear h;subst c;exact⟨e,r,rfl,g.XW x,i d⟩
theorem yZ.XW(x:a5 aO d N a b)(k:∀p∈N,p.1=c.1\/p.1=c.2->p∈b){o:AO}(h:yZ P d N c o):yZ P a b c o:=by
 cases o with
 |l l=>exact⟨h.1,h.2.imp λ_ h=>h.imp λ_ h=>⟨k _ h.1<|.inl rfl,h.2.XW x⟩⟩
 |dS l=>exact⟨h.1,h.2.imp λ_ h=>h.imp λ_ h=>⟨k _ h.1<|.inl rfl,h.2.1,h.2.2.XW x⟩⟩
 |dI l=>exact⟨h.1,h.2.imp λ_ h=>h.imp λ_ h=>⟨k _ h.1<|.inl rfl,h.2.1,h.2.2.XW x⟩⟩
 |i c f=>exact⟨k _ h.1<|.inl rfl,h.2.imp λ_ h=>h.imp λ_ h=>⟨k _ h.1<|.inr rfl,h.2.1.XW x,h.2.2⟩⟩
 |ro n=>exact h
noncomputable def rep1(d:Addr)(o:Obj)(N:Led):Led:=N.map λp=>if p.1=d then(d,o)else p
def uN (d)(o)(N):(rep1 d o N).map (·.1)=N.map (·.1):=by
 refine aa Y5<|YA λp _=>?_;simp only[Function.comp];split
 ·rename_i h;exact h.symm
 ·rfl
def xw {N:Led}:(∀p∈N,p.1≠d)->rep1 d o N=N:=by
 induction N with
 |nil=>exactλ_=>rfl
 |cons p r i=>intro h;show(if p.1=d then(d,o)else p)::rep1 d o r=_;exact aa (Xq<|h p<|.head _)<|aa (i λq a=>h q<|.tail _ a) rfl
def bu (h:(d,o)∈N):(d,o')∈rep1 d o' N:=XN.mpr ⟨_,h,by simp⟩
def aX (h:p∈N)(a:p.1≠d):p∈rep1 d o N:=XN.mpr ⟨_,h,by simp[a]⟩
def lg {N:Led}:(N.map (·.1)).Nodup->(d,o)∈N->Upd d o c N (rep1 d c N):=by
 induction N with
 |nil=>exactλ_ h=>Xv h XZ
 |cons p r j=>
  intro b h;rw[af,Yc]at b;have f:rep1 d c (p::r)=(if p.1=d then(d,c)else p)::rep1 d c r:=rfl;rcases XD.mp h with rfl|h
  ·have a:∀q∈r,q.1≠d:=λq i e=>b.1<|XN.mpr ⟨q,i,e⟩
   refine aa f<|aa (Xr rfl)<|aa (xw a) ?_;exact .head a
  ·have g:p.1≠d:=λe=>b.1<|XN.mpr ⟨_,h,e.symm⟩
   exact aa f<|aa (Xq g)<|.tail g<|j b.2 h
def uZ {N:Led}:(N.map (·.1)).Nodup->(d,o)∈N->UpdF d o N (λo'=>rep1 d o' N):=by
 induction N with
 |nil=>exactλ_ h=>Xv h XZ
 |cons p r i=>
  intro a h;rw[af,Yc]at a;have a:=a;rcases XD.mp h with rfl|h
  ·have b:∀q∈r,q.1≠d:=λq f e=>a.1<|XN.mpr ⟨q,f,e⟩
   have:(λo'=>rep1 d o'<|(d,o)::r)=λo'=>(d,o')::r:=by funext o';show(if d=d then(d,o')else(d,o))::rep1 d o' r=_;exact aa (Xr rfl)<|aa (xw b) rfl
   refine aa this ?_;exact .head b
  ·have c:p.1≠d:=λe=>a.1<|XN.mpr ⟨_,h,e.symm⟩
   have:(λo'=>rep1 d o'<|p::r)=λo'=>p::(λo'=>rep1 d o' r) o':=by funext o';show(if p.1=d then(d,o')else p)::rep1 d o' r=_;exact aa (Xq c) rfl
   refine aa this ?_;exact .tail c<|i a.2 h
def eY {N:Led}(c:(N.map (·.1)).Nodup){a:Addr}{o o':Obj}(h:(a,o)∈N)(b:(a,o')∈N):o=o':=by
 induction N with
 |nil=>nomatch h
 |cons p r i=>
  rw[af,Yc]at c;rcases XD.mp h with e|h
  ·rcases XD.mp b with d|b
   ·exact(Prod.mk.inj<|e.trans d.symm).2
   ·exact Xv (XN.mpr ⟨_,b,by exact dG e rfl⟩) c.1
  ·rcases XD.mp b with d|b
   ·exact Xv (XN.mpr ⟨_,h,by exact dG d rfl⟩) c.1
   ·exact i c.2 h b
def dj {i:Nat}(h:a[i]?=some c):own a c.1/\own a c.2:=⟨⟨c,YQ h,.inl rfl⟩,⟨c,YQ h,.inr rfl⟩⟩
def fY (b:own a d):a5 aO a N a<|rep1 d o' N:=
 ⟨⟨[],by simp⟩,λp f c _=>aX f λe=>c<|e▸b,λ_ _ h=>h⟩
def LQ.upd (R:LQ P k N H)(S:PU k)(f:k[i]?=some c)(l:H[i]?=some t)(n:d=c.1\/d=c.2)
  (hO:yZ P k (rep1 d r N) c ao'):LQ P k (rep1 d r N)<|H.set i ao':=by
 refine⟨by refine aa ZN ?_;exact R.1,λj m o g b=>?_⟩;by_cases e:i=j
 ·subst e
  rw[f]at g;cases g;rw[aaf (Yo.mp l).1]at b;have b:=b;cases b;exact hO
 ·rw[YM e]at b
  have s:=S i j c m f g e;have a:own k d:=by clear S hO l;rcases n with rfl|rfl;exact(dj f).1;exact(dj f).2
  refine(R.2 j m o g b).XW (fY a) λp q h=>aX q λe=>?_;clear R S hO f l g b q a;rcases n with rfl|rfl<;> rcases h with h|h<;> rw[h]at e
  ·exact s.1 e.symm
  ·exact s.2.1 e.symm
  ·exact s.2.2.1 e.symm
  ·exact s.2.2.2 e.symm
def St.abb (X:St P p L m w N H s){a:Addr}(h:own w a):(∃o,(a,o)∈N)\/∃o,P.Z.h.get? a=some o:=by
 refine cps λC u=>ag h λc t e=>Xs (aa9 t) λi h1=>?_;have d:c.2=c.1->(∃o,(c.1,o)∈N)\/(∃o,P.Z.h.get? c.1=some o)->(∃o,(a,o)∈N)\/∃o,P.Z.h.get? a=some o:=λq k=>(show a=c.1 from e.elim id λe=>e.trans q)▸k;have O:=X.rep.2 i c _ h1<|XQ<|X.rep.1▸(Yo.mp h1).1;revert O;refine UE (H[i]'(X.rep.1▸(Yo.mp h1).1)) λr O=>?_;refine u ?_;cases r with
 |l l=>refine bN O λq v n b _=>?_;exact d q<|.inl ⟨_,b⟩
 |dS l=>refine bN O λq v n b _=>?_;exact d q<|.inl ⟨_,b⟩
 |dI l=>refine bN O λq v n b _=>?_;exact d q<|.inl ⟨_,b⟩
 |i k l=>refine bN O λb x n f _=>?_;exact .inl<|e.elim (λe=>⟨_,e▸b⟩) λe=>⟨_,e▸f⟩
 |ro l=>refine iv O λq v z _=>?_;refine ag z λo b _=>?_;exact d q<|.inr ⟨o,b⟩
def St.ownAt (X:St P b L m c N H s){a:Addr}(h:own c a):∃o,s.heap.get? a=some o:=
 (X.abb h).elim (λz=>Xs z λo h=>⟨o,(X.g _ h).1⟩) λz=>Xs z λo h=>⟨o,X.F.keep _ _<|X.old _ _ h⟩
def rI (h:own (d++[(x,y)]) a):own d a\/a=x\/a=y:=by exact ag h λc b e=>(YH.mp b).elim (λb=>.inl ⟨c,b,e⟩) λb=>.inr (by rw[List.mem_singleton.mp b]at e;exact e)
def Mw (h:(l++[x])[k]?=some e):l[k]?=some e\/(k=l.length/\e=x):=by
 by_cases b:k<l.length
 ·rw[Yg b]at h;exact .inl h
 ·have a:=(Yo.mp h).1
  rw[XB,List.length_singleton]at a;obtain rfl:k=l.length:=Y0 (MD a)<|wx b;rw[List.getElem?_concat_length]at h;exact .inr ⟨rfl,(Zd h).symm⟩
def PU.app (S:PU g)(n:¬own g x)(p:¬own g y):PU<|g++[(x,y)]:=λi j c d a f h=>by
 have q:∀{b},own g b->b≠x/\b≠y:=λk=>⟨λe=>n<|e▸k,λe=>p<|e▸k⟩;rcases Mw a with a|⟨l,rfl⟩<;> rcases Mw f with f|⟨m,rfl⟩
 ·exact S i j c d a f h
 ·have o:=dj a
  exact⟨(q o.1).1,(q o.1).2,(q o.2).1,(q o.2).2⟩
 ·have o:=dj f
  exact⟨(q o.1).1.symm,(q o.2).1.symm,(q o.1).2.symm,(q o.2).2.symm⟩
 ·exact Xv (l.trans m.symm) h
def LQ.app (R:LQ P b N H)(h:∀(i:Nat) (d) (o),b[i]?=some d->yZ P b N d o->yZ P (b++[c]) f d o)(hO:yZ P (b++[c]) f c g):LQ P (b++[c]) f<|H++[g]:=
 ⟨by refine aa XB<|aa XB<|aa R.1 ?_;rfl,λi d o a e=>by
  rcases Mw a with a|⟨j,rfl⟩
  ·rw[Yg<|R.1▸(Yo.mp a).1]at e
   exact h i d o a<|R.2 i d o a e
  ·rw[j,R.1,List.getElem?_concat_length]at e
   exact Zd e▸hO⟩
def a5.app (c:∀p∈N,p∈N')(h:∀p∈N,p.1≠x/\p.1≠y):a5 aO f N (f++[(x,y)]) N':=
 ⟨⟨_,rfl⟩,λp a _ _=>c p a,λp a d b=>(rI b).elim d λe=>e.elim (h p a).1 (h p a).2⟩
def sH {N:Led}(h:a∉N.map (·.1)):∀p∈N,p.1≠a:=λp b e=>h<|e▸Y4 b
def St.YW (X:St P c L m b N H s)(d:s.heap.objs.size<=a):a5 aO b N b ((a,o)::N)/\¬own b a:=
 ⟨⟨⟨[],by simp⟩,λ_ f _ _=>.tail _ f,λ_ _ h=>h⟩,λh=>by obtain⟨o,e⟩:=X.ownAt h;exact Xv (YC e)<|not_lt.mpr d⟩
def St.aa3 (X:St P b L m f N H s)(c:s.heap.objs.size<=a):a∉N.map (·.1):=λh=>by refine ag (XN.mp h) λp d e=>?_;clear h;subst e;exact Xv (YC (X.g p d).1)<|not_lt.mpr c
def St.push (X:St P h L m p N H s)(b:s.heap.objs.size<=a)(e:Fr h L s'.heap m)(f:News h L s'.heap<|(a,o)::N)(d:s'.os=s.os/\s'.gens=s.gens:=by trivial):
  St P h L m p ((a,o)::N) H s':=
 ⟨e,f,by rw[af,Yc];exact⟨X.aa3 b,X.j⟩,⟨X.rep.1,λi c o k l=>(X.rep.2 i c o k l).XW (X.YW b).1 λ_ n _=>.tail _ n⟩,X.sep,X.old,⟨d.1.trans X.env.1,d.2.trans X.env.2⟩⟩
def St.same (X:St P h L m d N H s)(b:Fr h L s'.heap m)(c:News h L s'.heap N)(a:s'.os=s.os/\s'.gens=s.gens:=by trivial):St P h L m d N H s':=⟨b,c,X.j,X.rep,X.sep,X.old,⟨a.1.trans X.env.1,a.2.trans X.env.2⟩⟩
def St.toks (X:St P h L m a N H s)(t):St P h L m a N H {s with toks:=t}:=⟨X.F,X.g,X.j,X.rep,X.sep,X.old,X.env⟩
def St.abc (X:St P b L m d N H s)(f:¬own d a)(h:a∉N.map (·.1))(l:Fr b L s'.heap m)(n:News b L s'.heap<|(a,o)::N)
  (hO:yZ P (d++[(a,a)]) ((a,o)::N) (a,a) ao) (k:s'.os=s.os/\s'.gens=s.gens:=by trivial):St P b L m (d++[(a,a)]) ((a,o)::N) (H++[ao]) s'/\a5 aO d N (d++[(a,a)]) ((a,o)::N):=by
 have E:a5 aO d N (d++[(a,a)])<|(a,o)::N:=a5.app (λ_ e=>.tail _ e) λp e=>⟨sH h p e,sH h p e⟩;exact⟨⟨l,n,by rw[af,Yc];exact⟨h,X.j⟩,X.rep.app (λi c r _ q=>q.XW E λ_ e _=>.tail _ e) hO,X.sep.app f f,X.old,⟨k.1.trans X.env.1,k.2.trans X.env.2⟩⟩,E⟩
def St.alloc (X:St P h L m b N H s)(c:s.heap.objs.size<=a)(d:Fr h L s'.heap m)(e:News h L s'.heap<|(a,o)::N)
  (hO:yZ P (b++[(a,a)]) ((a,o)::N) (a,a) ao) (f:s'.os=s.os/\s'.gens=s.gens:=by trivial):St P h L m (b++[(a,a)]) ((a,o)::N) (H++[ao]) s'/\a5 aO b N (b++[(a,a)]) ((a,o)::N):=
 X.abc (X.YW (o:=o) c).2 (X.aa3 c) d e hO f
def St.at (X:St P d L m a N H s){i:Nat}(h:H[i]?=some ao):∃c,a[i]?=some c/\yZ P a N c ao:=by have b:i<a.length:=X.rep.1▸(Yo.mp h).1;exact⟨_,XQ b,X.rep.2 i _ _ (XQ b) h⟩
def St.upd (X:St P h L m a N H s)(b:a[i]?=some c)(n:H[i]?=some q)(l:d=c.1\/d=c.2)
  (f:Fr h L s'.heap p) (k:News h L s'.heap<|rep1 d o N) (hO:yZ P a (rep1 d o N) c ao') (e:s'.os=s.os/\s'.gens=s.gens:=by trivial):
  St P h L p a (rep1 d o N) (H.set i ao') s'/\a5 aO a N a (rep1 d o N):=
 ⟨⟨f,k,by rw[uN];exact X.j,X.rep.upd X.sep b n l hO,X.sep,X.old,⟨e.1.trans X.env.1,e.2.trans X.env.2⟩⟩,fY<|by clear f k X hO e n;rcases l with rfl|rfl;exact(dj b).1;exact(dj b).2⟩
end
end Mine
end
section
open PySem PySem.W PySem.Calls PyProof.Rows PyProof.Rows.LCg
namespace Mine
set_option genInjectivity false in
structure NC where
 vars:List Str
 names:List<|Str×NameKind
structure m5(P:bi)(h:Heap):Prop where
 g:h.Ns mainGlobals P.b
 b:h.Ns builtinsNs P.d
 nolimit:h.NoLimit
 blt:∀x:Str,x≠"__name__"->P.d x=bootBuiltins x
 K:P.K.In h
 sys:∃o,h.get? sysModules=some o
def m5.keeps (B:m5 P h)(k:∀b o,h.get? b=some o->h'.get? b=some o):m5 P h':=
 ⟨B.g.keeps k,B.b.keeps k,B.nolimit.keeps k,B.blt,B.K.keeps k,Xs B.sys λo e=>⟨o,k _ _ e⟩⟩
def xD (e:Env)(L:Addr)(m:Str->Option Value)(b:Yp)(N:Led)(x:Str)(u:Value):Prop:=
 (e.kindOf x=some .local/\e.locals=L/\m x=some u)\/
 (e.kindOf x=some .local/\∃o a,(e.locals,o)∈N/\¬own b e.locals/\NsObj o a/\a x=some u)\/
 ((e.kindOf x=some .cell\/e.kindOf x=some .free)/\∃c o,e.cells.lookup x=some c/\(c,o)∈N/\¬own b c/\o.data=.cell (some u))
noncomputable def a7(x:Str):Bool:=!(x=="__debug__")&&!(x=="__classdict__")
def rm (e:Env)(L:Addr)(m:Str->Option Value)(a:List Str)(b:Yp)(N:Led)(l:Lo):Prop:=
 ∀(i:Nat) (v:V),l[i]?=some (some v)->∃x u,a[i]?=some x/\b0 b N v u/\xD e L m b N x u
def xD.ext {a:Env}{L:Addr}{m:Str->Option Value}{g b:Yp}{N d:Led}(e:a5 aO g N b d){x:Str}{u:Value}(h:xD a L m g N x u):xD a L m b d x u:=
 h.imp_right (Or.imp (λh=>⟨h.1,h.2.imp λo h=>h.imp λf h=>⟨e.keep _ h.1 h.2.1 id,e.apart _ h.1 h.2.1,h.2.2⟩⟩) λh=>⟨h.1,h.2.imp λc h=>h.imp λo h=>⟨h.1,e.keep _ h.2.1 h.2.2.1 id,e.apart _ h.2.1 h.2.2.1,h.2.2.2⟩⟩)
def rm.ext {b:Env}{L:Addr}{m:Str->Option Value}{a:List Str}{f c:Yp}{N d:Led}{l:Lo}(e:a5 aO f N c d)(h:rm b L m a f N l):rm b L m a c d l:=λi v k=>by exact am (h i v k) λx u h1 g j=>⟨x,u,h1,g.XW e,j.ext e⟩
def jP (P:bi)(i:Cl)(A:Around)(h:Heap)(L:Addr)(m:Str->Option Value):Prop:=
 ∀⦃k:Nat⦄ ⦃g:List V⦄ ⦃H e:Hp⦄ ⦃v:V⦄ ⦃d:Yp⦄ ⦃N:Led⦄ ⦃s:Shared⦄ ⦃us:List Value⦄,i k g H=some (.v v,e)->St P h L m d N H s->XI d N g us->
  ∀(b:Around) (R:Result->Shared->Prop),(b=A\/∃C r,b=A.under (.builtin "type.__call__" ⟨.ref C::r,[]⟩))->
   (∀u f a c,St P h L m a c e f->a5 aO d N a c->b0 a c v u->R (.ok<|.ret u) f)->
   codeAny (model P.p P.w) b (.call (.ref<|P.f k) ⟨us,[]⟩) R s
structure mK(P:bi):Prop where
 dict:∀c,c<3->hasDictIn P.K (P.Z.c c)=true/\plainOver P.K (P.Z.c c)=true/\findIn P.K (.ref<|P.Z.c c) "__setattr__"=some (some<|.builtin "object.__setattr__")
 fld:∀c f,Dm c f=true->plainGet P.K (P.Z.c c) (P.Z.f f)=true/\(∃attr,findIn P.K (.ref<|P.Z.c c) (P.Z.f f)=some attr/\noGet P.K attr=true)/\takerIn P.K (P.Z.c c) (P.Z.f f)=some none
 a:∀f g,f<13->g<13->P.Z.f f=P.Z.f g->f=g
 cls:∀c x,P.c c=some x->c<3/\makesIn P.K (P.Z.c c)=true/\keepIn P.K (.ref<|P.Z.c c)=true/\findIn P.K (.ref<|P.Z.c c) "__init__"=some (some<|.ref<|P.f<|1000+c)/\isFn P.K (.ref<|P.f<|1000+c)=true/\P.b x=some (.ref<|P.Z.c c)
 b:∀x:Str,x∈(["len","ord","max","sum","sorted","range","reversed"]:List Str)->P.b x=none
 fn:∀k x,P.a k=some x->keepIn P.K (.ref<|P.f k)=true/\P.b x=some (.ref<|P.f k)
 m:∀k x,P.m k=some x->keepIn P.K (.ref<|P.f k)=true/\plainGet P.K (P.Z.c 2) x=true/\findIn P.K (.ref<|P.Z.c 2) x=some (some<|.ref<|P.f k)/\isFn P.K (.ref<|P.f k)=true/\∀f,Dm 2 f=true->P.Z.f f≠x
structure EX(P:bi)(cl:Cl)(A:Around)(env:Env)(Xp:Heap)(L:Addr)(m:Str->Option Value)(Γ:NC):Prop where
 g:env.scope.kind=.function
 b:env.scope.names=Γ.names
 c:env.globals=mainGlobals
 e:env.builtins=builtinsNs
 base:m5 P Xp
 h:A.handled=none
 d:A.units+200<cLine
 calls:jP P cl A Xp L m
 a:mK P
section
variable(P:bi)(cl:Cl)(A:Around)(env:Env)(Xp:Heap)(L:Addr)(m:Str->Option Value)(Γ:NC)
def aq (e:Expr)(g:ME):Prop:=∀⦃c:Yp⦄ ⦃N:Led⦄ ⦃H:Hp⦄ ⦃s:Shared⦄ ⦃l:Lo⦄ ⦃v:V⦄ ⦃d:Hp⦄,St P Xp L m c N H s->rm env L m Γ.vars c N l->ai cl l g H=some (v,d)->
 ∀⦃Q:Value->Shared->Prop⦄ ⦃E:Value->Shared->Prop⦄,(∀u f a b,St P Xp L m a b d f->a5 aO c N a b->b0 a b v u->Q u f)->wpAny (model P.p P.w) A (eval e env) Q E s
def iQ (e:Expr)(h:ME):Prop:=∀⦃c:Yp⦄ ⦃N:Led⦄ ⦃H:Hp⦄ ⦃s:Shared⦄ ⦃l:Lo⦄ ⦃b:Bool⦄ ⦃d:Hp⦄,St P Xp L m c N H s->rm env L m Γ.vars c N l->ai cl l h H=some (.b b,d)->
 ∀⦃Q:Bool->Shared->Prop⦄ ⦃E:Value->Shared->Prop⦄,(∀g a f,St P Xp L m a f d g->a5 aO c N a f->Q b g)->wpAny (model P.p P.w) A (isTrue e env<|eval e env) Q E s
noncomputable def au(e:Expr):Bool:=Nat.ble e.ctorIdx 21||Nat.ble 23 e.ctorIdx
def ap (h:au e=true)(r:List Expr)(env:Env):starEach (e::r) env=(false,eval e env)::starEach r env:=by cases e<;>first|rfl| exact aZ h
def td (g:List Expr)(c:List ME):Prop:=∀⦃d:Yp⦄ ⦃N:Led⦄ ⦃H:Hp⦄ ⦃s:Shared⦄ ⦃l:Lo⦄ ⦃v:List V⦄ ⦃e:Hp⦄,St P Xp L m d N H s->rm env L m Γ.vars d N l->Zc cl l c H=some (v,e)->
 ∀⦃p:Pos⦄ ⦃Q:List Value->Shared->Prop⦄ ⦃E:Value->Shared->Prop⦄,(∀u f a b,St P Xp L m a b e f->a5 aO d N a b->XI a b v u->Q u f)->wpAny (model P.p P.w) A (spliced<|backTo p<|starEach g env) Q E s
end
section
variable{P:bi}{cl:Cl}{A:Around}{env:Env}{Xp:Heap}{L:Addr}{m:Str->Option Value}{Γ:NC}(X:EX P cl A env Xp L m Γ)
include X
theorem t9:td P cl A env Xp L m Γ [] []:=λa N H s l v b S Lo h p Q E k=>by cases h;exact args_nil<|k [] s a N S (.refl _ _ _) rfl
theorem gh{e:Expr}{b:List Expr}{g:ME}{a:List ME}(q:au e=true)(p:aq P cl A env Xp L m Γ e g)(c:td P cl A env Xp L m Γ b a):td P cl A env Xp L m Γ (e::b)<|g::a:=
 λR N H s l O B S Lo h t Q E k=>cps λC r=>aE h λv D h1 h=>aE h λx F o h=>by
 cases h;exact r<|YD (p S Lo h1 λu J y G i d j=>c i (Lo.ext d) o λw M z I S2 f n=>k _ _ _ _ S2 (d.trans f) ⟨u,w,rfl,j.XW f,n⟩)<|ap q b env
theorem F9(i:Int)(k:Nat)(p:Pos):aq P cl A env Xp L m Γ (.Constant (.int i) k p)<|.i i:=λa N H s l v b S Lo h Q E c=>by cases h;exact aad<|c _ _ a N (S.toks _) (.refl _ _ _) ⟨_,rfl⟩
theorem yr(x:Str)(t:List Nat)(a:x=S2 t)(k:Nat)(p:Pos):aq P cl A env Xp L m Γ (.Constant (.str x) k p)<|.s t:=λb N H s l v d S Lo h Q E c=>by cases h;exact Constant_str<|c _ _ b N (S.toks _) (.refl _ _ _) ⟨_,aa a rfl⟩
theorem Df(b:Bool)(k:Nat)(p:Pos):aq P cl A env Xp L m Γ (.Constant (.bool b) k p)<|.b b:=λa N H s l v d S Lo h Q E c=>by cases h;exact Yj (a:=Value.bool b)<|c _ _ a N S (.refl _ _ _) rfl
theorem Hk(i:Int)(k:Nat)(a p:Pos):aq P cl A env Xp L m Γ (.UnaryOp .USub (.Constant (.int i) k a) p)<|.i<|-i:=λb N H s l v d S Lo h Q E c=>by cases h;exact UnaryOp_<|aad<|neg_int<|c _ _ b N ((S.toks _).toks _) (.refl _ _ _) ⟨_,rfl⟩
omit X in
theorem LD(h:gv l i=some v):l[i]?=some (some v):=by
 unfold gv at h;cases e:l[i]? with
 |none=>rw[e]at h;exact cE h nt
 |some x=>rw[e]at h;exact Xy some h
theorem Ft{x:Str}{p:Pos}{u:Value}{i:Yp}{N:Led}{H:Hp}{s:Shared}(S:St P Xp L m i N H s)(b:a7 x=true)(h:xD env L m i N x u){Q:Value->Shared->Prop}{E:Value->Shared->Prop}(z:Q u s):wpAny (model P.p P.w) A (eval (.Name x p) env) Q E s:=by
 simp only[a7,Xu,YE]at b;have b:=b;refine wpAny_Name (cps λC d=>?_) b.1;rcases h with⟨k,rfl,a⟩|⟨k,o,g,a,e,f,c⟩|⟨k|k,j,o,a,e,f,c⟩
 ·exact d<|Z3 X.g k S.F.ns a z
 ·exact d<|Z3 X.g k (f.ns (S.g _ a).1) c z
 ·exact d<|wpAny_loadName_cell X.g k a ⟨o,(S.g _ e).1,c⟩ z
 ·exact d<|wpAny_loadName_free X.g k a ⟨o,(S.g _ e).1,c⟩ z b.2
theorem yA(x:Str)(p:Pos)(i:Nat)(d:Γ.vars[i]?=some x)(f:a7 x=true):aq P cl A env Xp L m Γ (.Name x p)<|.v i:=λj N H s l v n S Lo h Q E c=>s7 h λg e=>by clear h;subst e;refine cps λC k=>am (Lo i _<|LD g) λo u h1 a b=>k ?_;cases d.symm.trans h1;exact Ft X S f b<|c u s j N S (.refl _ _ _) a
theorem wz{x:Str}{p:Pos}{v:Value}{d:Yp}{N:Led}{H:Hp}{s:Shared}{Q E}(S:St P Xp L m d N H s)(c:Γ.names.lookup x=some .globalImplicit)(a:a7 x=true)(b:P.b x=some v)(h:Q v s):
  wpAny (model P.p P.w) A (eval (.Name x p) env) Q E s:=by
 simp only[a7,Xu,YE]at a;exact Name_function_global X.g (by show env.scope.names.lookup x=_;refine aa X.b ?_;exact c) (loadGlobal_global (X.c▸X.base.g.keeps S.F.keep) b h) a.1
theorem sP{x:Str}{p:Pos}{v:Value}{f:Yp}{N:Led}{H:Hp}{s:Shared}{Q E}(S:St P Xp L m f N H s)(e:Γ.names.lookup x=some .globalImplicit)(a:a7 x=true)(b:P.b x=none)(d:bootBuiltins x=some v)(c:x≠"__name__")
  (h:Q v s):wpAny (model P.p P.w) A (eval (.Name x p) env) Q E s:=by
 simp only[a7,Xu,YE]at a;exact Name_function_global X.g (by show env.scope.names.lookup x=_;refine aa X.b ?_;exact e) (loadGlobal_builtin (X.c▸X.base.g.keeps S.F.keep) b (X.e▸X.base.b.keeps S.F.keep) ((X.base.blt x c).trans d) h) a.1
end
def AJ (s t):(S2 s==S2 t)=decide (s=t):=by
 by_cases h:s=t
 ·subst h;simp
 ·exact aa (Ye h)<|Yn.mpr λe=>h<|p0 e
def mu (s t):S2 s++S2 t=S2 (s++t):=by show Str.append (S2 s) (S2 t)=_;simp[Str.append,S2]
theorem cF(s):(S2 s).length=s.length:=rfl
def gc (h:n<=1000000):n<=sizeLine:=bB 0x200000110481e848110065b tq h
noncomputable def wV:Op->Operator
 | .a=>.Add| .s=>.Sub| .mul=>.Mult| .m=>.Mod| .fdiv _=>.FloorDiv
noncomputable def As:Cp->CmpOp
 | .e=>.Eq| .n=>.NotEq| .l=>.Lt| .le=>.LtE| .g=>.Gt| .ge=>.GtE| .i=>.In| .Zk _=>.NotIn
def jT (c:News b L h N)(d:(a,i6 v n)∈N):IsTup h a v.toArray:=⟨_,(c _ d).1,rfl,n,rfl⟩
def fC (c:News b L h N){v:List Value}(d:(a,W.listOf v.toArray n)∈N):h.IsList a v.toArray:=⟨_,(c _ d).1,rfl,n,rfl⟩
def to (h:nW n i=some k):sm i=true/\seqIndex? i n=some k/\k<n:=by
 refine cv h λc h=>⟨c,?_⟩;unfold seqIndex?;by_cases a:0<=i
 ·rw[Xr a]at h
  refine cv h λb h=>?_;cases h;have h1:¬i<0:=Y9.mpr ‹_›;simp only[h1];exact aa (Xr<|by simp only[Xu,Ym];exact⟨a,(Int.toNat_lt a).mp b⟩)<|⟨rfl,b⟩
 ·rw[Xq a]at h
  refine cv h λb h=>?_;cases h;have h1:i<0:=Int.not_le.mp a;simp only[h1,if_true];have z:=Int.add_lt_add_right h1 n;rw[Int.zero_add]at z;exact aa (Xr<|by simp only[Xu,Ym];exact⟨b,z⟩)<|⟨rfl,(Int.toNat_lt b).mpr z⟩
section
variable{ρ:Yp}{N:Led}
def ua (h1:-4611686018427387904<i)(a:i<4611686018427387904):i.natAbs.log2<62:=by
 by_cases h:i.natAbs=0
 ·rw[h];decide
 ·rw[Nat.log2_lt h];clear h;cases i with |ofNat n=>exact X2.mp a|negSucc n=>exact X2.mp<|Int.lt_of_neg_lt_neg h1
def EF (h:sm b=true):Builtin.divisionGoesByPylong a b=false:=by
 have:=gY.mp h;unfold Builtin.divisionGoesByPylong;have c:(if b==0 then 0 else b.natAbs.log2/30+1)<=300:=by
  split
  ·exact Yb rfl
  ·have:=ua (i:=b) (this.1)<|this.2
   exact aba<|Xz (Nat.div_le_self _ _)<|YU<|XY this<|Yb rfl
 have:¬((if b==0 then 0 else b.natAbs.log2/30+1)>300):=not_lt.mpr ‹_›;simp only[Ye this,Bool.false_and]
def G2 (S:St P I L m ρ N H s)(h:fQ op x y=some z)(p:b0 ρ N x u)(q:b0 ρ N y v)
  (k:∀u U B,St P I L m ρ B H U->a5 aO ρ N ρ B->b0 ρ B z u->Q u U):wpAny (model P.p P.w) A (binaryOp (wV op) u v) Q E s:=by
 have r:∀{i:Int},z=.i i->∀t T,Q (.int i t) {s with toks:=T}:=λe t T=>k _ _ N (S.toks _) (.refl _ _ _) (by rw[e];exact⟨_,rfl⟩);cases op with
 |a=>
  cases x with
  |i a=>exact bH h λb e f=>by clear h;subst e;refine Xs p λt c=>?_;subst c;refine Xs q λw c=>?_;subst c;exact add_int<|r (aA f).symm _ _
  |s a=>exact pg h λb e h=>cv h λd f=>by subst e;refine Xs p λt c=>?_;subst c;refine Xs q λw c=>?_;subst c;cases f;simp only[Xu,e5]at d;refine add_str (λw T=>?_) (by rw[cF,cF,sizeLine_eq];exact RV d);rw[mu];exact k _ _ N (S.toks _) (.refl _ _ _) ⟨_,rfl⟩
  |t a=>
   exact ym h λb e h=>cv h λd f=>by
    subst e;refine cps λC R=>cG p λX J n1 c o F l=>?_;subst c;refine cG q λY M n2 c D G n=>?_;subst c;refine R ?_;cases f;have g:=l.length;have j:=n.length;refine add_tuples S.F S.g (jT S.g o) (jT S.g D) (λe=>?_) (λ_ e=>?_) (λ_ _ h' W B=>?_)<|gc<|ow 0xf42408840c97d0e1898196c610d3620069b tq g j d
    ·subst e
     clear j h l o F d R r;clear h;obtain rfl:=aaz g.symm;exact k _ _ N S (.refl _ _ _) ⟨Y,M,n2,rfl,D,G,n⟩
    ·subst e
     clear g h n G d R r;clear h;obtain rfl:=aaz j.symm;exact k _ _ N S (.refl _ _ _) (by rw[Yu];exact⟨X,J,n1,rfl,o,F,l⟩)
    ·have O:=S.YW (a:=s.heap.objs.size) (o:=i6 (J++M) 0)<|XH _
     exact k _ _ _ (S.push (XH _) W B) O.1 ⟨_,_,_,rfl,.head _,O.2,(l.XW O.1).append<|n.XW O.1⟩
  |_=>exact cE h nt
 |s=>exact bH h λa g h=>bH h λb j f=>by clear h;clear h;subst g j;refine Xs p λt c=>?_;subst c;refine Xs q λw c=>?_;subst c;exact sub_int<|r (aA f).symm _ _
 |mul=>
  exact bH h λa g h=>bH h λb j h=>cv h λd f=>by
   subst g j;refine Xs p λt c=>?_;subst c;refine Xs q λw c=>?_;subst c;simp only[Xu,gY]at d;refine PyProof.Rows.mul_int (r (aA f).symm _ _)<|IntMulOk.of_left ?_;unfold Builtin.Int.intBits;have:=ua d.1.1 d.1.2;split
   ·decide
   ·exact aba<|YU<|XY this<|Yb rfl
 |m=>exact bH h λa g h=>bH h λb j h=>cv h λd f=>by subst g j;refine Xs p λt c=>?_;subst c;refine Xs q λw c=>?_;subst c;simp only[Xu,Ym]at d;refine PyProof.Rows.mod_int' (Y1 d.1) ?_;rw[Int.fmod_eq_emod_of_nonneg _<|YN d.1];exact r (aA f).symm _ _
 |fdiv=>exact bH h λa g h=>bH h λb j h=>cv h λd f=>by subst g j;refine Xs p λt c=>?_;subst c;refine Xs q λw c=>?_;subst c;simp only[Xu,Ym]at d;refine floordiv_int (Y1 d.1) ?_<|.inl<|EF d.2;rw[Int.fdiv_eq_ediv_of_nonneg _<|YN d.1];exact r (aA f).symm _ _
mutual
noncomputable def MZ:V->Dat
 | .i i=>.int i
 | .s s=>.str<|S2 s
 | .t l=>.tuple<|aas l
 | .b b=>.bool b
 |_=>.none
noncomputable def aas:List V->List Dat
 | []=>[]
 |v::l=>MZ v::aas l
end
mutual
theorem zo:∀{v:V}{n:Nat}{u:Value},bw n v=true->b0 ρ N v u->DatIn N u (MZ v)
 | .i i,_,_,_,h=>Xs h λt e=>e▸.int i t
 | .s x,_,_,_,h=>Xs h λt e=>e▸.str _ t
 | .t l,n,_,p,h=>by
  cases n with
  |zero=>exact(Yw p).elim
  |succ n=>exact cG h λa d k e c _ b=>e▸.tuple c (ZW (l:=l) (n:=n) p b)
 | .n,_,_,p,_=>(Yw p).elim
 | .b _,_,_,p,_=>(Yw p).elim
 | .r _,_,_,p,_=>(Yw p).elim
theorem ZW:∀{l:List V}{n:Nat}{a:List Value},X9 n l=true->XI ρ N l a->DatAll N a (aas l)
 | [],_,_,_,e=>(show _=[]from e)▸.nil
 |v::l,n,_,p,h=>am h λu r e h1 b=>e▸.cons (zo (v:=v) (n:=n) ((Xu _ _).mp p).1 h1) (ZW (l:=l) (n:=n) ((Xu _ _).mp p).2 b)
end
def Hj (h:x.all (·<128)=true):PyData.strOk (S2 x)=true:=by rw[Yh]at h;show x.toArray.all (λc=>decide (c<0x110000))=true;rw[<- Array.all_toList,Yh];intro a b;have:=h a<|b;simp only[Ym]at this⊢;exact bB 0x440002209900e0067b tq this
mutual
theorem AQ:∀{v:V}{n:Nat},bw n v=true->kqdOk n (MZ v)=true
 | .i i,n,_=>by cases n<;>rfl
 | .s x,n,p=>by have:=Hj ((Xu _ _).mp p).2;cases n<;> exact this
 | .t l,n+1,p=>Yh.mpr<|ZX (l:=l) (n:=n) p
 | .t l,0,p=>(Yw p).elim
 | .n,_,p=>(Yw p).elim
 | .b _,_,p=>(Yw p).elim
 | .r _,_,p=>(Yw p).elim
theorem ZX:∀{l:List V}{n:Nat},X9 n l=true->∀d∈aas l,kqdOk n d=true
 | [],_,_,_,h=>nomatch h
 |v::l,n,p,d,h=>(XD.mp h).elim (λe=>e▸AQ (v:=v) ((Xu _ _).mp p).1) λh=>ZX (l:=l) ((Xu _ _).mp p).2 d h
end
def wP (h:¬p):(false=true↔p):=⟨λx=>(Yw x).elim,λx=>(h x).elim⟩
mutual
theorem B5:∀{v u:V}{b:Bool},Vi v u=some b->(b=true↔MZ v=MZ u)
 | .i i,u,b,h=>by cases u<;>first|(obtain rfl:=aA h;exact decide_eq_true_iff.trans ⟨λe=>e▸rfl,Dat.int.inj⟩)|(obtain rfl:=aA h;exact wP Dat.noConfusion)| exact cE h nt
 | .s x,u,b,h=>by cases u<;>first|(obtain rfl:=aA h;exact decide_eq_true_iff.trans ⟨λe=>e▸rfl,λe=>p0<|Dat.str.inj e⟩)|(obtain rfl:=aA h;exact wP Dat.noConfusion)| exact cE h nt
 | .t l,u,b,h=>ym h λk e h=>by subst e;exact(Z5 (v:=l) h).trans ⟨λe=>Xy Dat.tuple e,Dat.tuple.inj⟩
 | .n,u,b,h=>cE h nt
 | .b _,u,b,h=>cE h nt
 | .r _,u,b,h=>cE h nt
theorem Z5:∀{v u:List V}{b:Bool},Z4 v u=some b->(b=true↔aas v=aas u)
 | [],[],b,h=>by obtain rfl:=aA h;exact⟨λ_=>rfl,λ_=>rfl⟩
 | [],_::_,b,h=>by obtain rfl:=aA h;exact wP λe=>by cases e
 |_::_,[],b,h=>by obtain rfl:=aA h;exact wP λe=>by cases e
 |v::l,u::k,b,h=>iM h λx h1 h=>iM h λy a h=>by obtain rfl:=aA h;rw[Xu,B5 (v:=v) h1,Z5 (v:=l) a];exact⟨λe=>by show MZ v::_=MZ u::_;rw[e.1,e.2],Z1⟩
end
def l8 (a:n<=60)(h:kqdOk n d=true):SeqAt.shaped (kqdP d)=true:=by unfold SeqAt.shaped;rw[(kqd_lay n d h).1,Bool.true_and];exact Yv<|Xz (kqd_lay n d h).2<|bB 0x101c09078e0065b tq a
def Od (h1:kqdOk n d=true)(a:kqdOk n e=true)(h:b=true↔d=e):PyData.eqv (kqdP d) (kqdP e)=b:=by
 have q:=kqd_eqv n d e n h1 a;cases b with
 |true=>exact q.mpr<|h.mp rfl
 |false=>exact Bool.eq_false_iff.mpr λx=>eH (h.mpr<|q.mp x) nt
def Cr (c:n<=60)(S:St P g L m ρ N H s)(f:A.units+64<cLine)(h1:kqdOk n d=true)(a:kqdOk n e=true)(j:DatIn N u d)(k:DatIn N v e)(h:b=true↔d=e):
  (Q (.bool b) s->wpAny (model P.p P.w) A (compareOp .Eq u v) Q E s)/\(Q (.bool<|!b) s->wpAny (model P.p P.w) A (compareOp .NotEq u v) Q E s):=by
 refine Xs (kqd_in S.g n j h1) λl r=>Xs (kqd_in S.g n k a) λo i=>?_;have e:=Od h1 a h;exact⟨λq=>eq_dataH r i (l8 c h1) (l8 c a) f<|by refine aa e ?_;exact q,λq=>ne_dataH r i (l8 c h1) (l8 c a) f<|by refine aa e ?_;exact q⟩
def qG (c:m5 P h)(S:St P h L m ρ N H s)(d:(a,o)∈N):(a==sysModules)=false:=by refine Xs c.sys λf b=>Yn.mpr λe=>?_;have:=(S.g _ d).2.2;rw[show((a,o):Addr×Obj).1=sysModules from e,b]at this;exact cE this nt
def uz.get:∀{b:List<|Int×Value},uz ρ N l b->∀{k:Int},(∀v,eJ k l=some v->∃u,valueAt b k=some u/\b0 ρ N v u)/\(eJ k l=none->valueAt b k=none):=by
 induction l with
 |nil=>intro b h k;simp only[Fb,Hn]at h;subst h;exact⟨λv c=>by simp[hU,iu]at c,λ_=>rfl⟩
 |cons p l i=>
  intro b h k;obtain⟨a,v⟩:=p;refine am h λu r f c g=>?_;subst f;have:=i g (k:=k);unfold valueAt at this⊢;by_cases e:a=k
  ·subst e
   simp only[hU,iu,if_true,find?_cons,decide_true,Option.map_some];exact⟨λj d=>by cases d;exact⟨u,rfl,c⟩,λh=>cE h nt⟩
  ·simp only[hU,iu,Xq e,find?_cons,Ye e]
   exact this
def xg.get:∀{b:List<|Str×Value},xg ρ N l b->∀{k:List Nat},(∀v,qD k l=some v->∃u,valueAt b (S2 k)=some u/\b0 ρ N v u)/\(qD k l=none->valueAt b (S2 k)=none):=by
 induction l with
 |nil=>intro b h k;simp only[Fh,Ff]at h;subst h;exact⟨λv c=>by simp[wO,rX]at c,λ_=>rfl⟩
 |cons p l j=>
  intro b h k;obtain⟨a,v⟩:=p;refine am h λu r g c i=>?_;subst g;have:=j i (k:=k);unfold valueAt at this⊢;by_cases e:a=k
  ·subst e
   simp only[wO,rX,if_true,find?_cons,decide_true,Option.map_some];exact⟨λm d=>by cases d;exact⟨u,rfl,c⟩,λh=>cE h nt⟩
  ·have f:¬(S2 a=S2 k):=λq=>e<|p0 q
   simp only[wO,rX,Xq e,find?_cons,Ye f];exact this
def vj (i:uz ρ N k g):∀{d:List<|Int×Value}{b:Bool},uz ρ N l d->vD l k=some b->KeqHits A s g d b:=by
 induction l with
 |nil=>intro d b h e;cases h;cases e;exact .nil
 |cons p r B=>
  intro d b h e;obtain⟨a,v⟩:=p;refine am h λu q f z o=>?_;subst f;refine bH e λx j e=>?_;obtain rfl:v=_:=j;refine Xs z λt f=>?_;subst f;change (match eJ a k with |some w=>eR w λy=>(vD r k).map (decide (x=y)&&·)|none=>some false)=some b at e;cases ho:eJ a k with
  |none=>rw[ho]at e;cases e;exact .miss<|(i.get (k:=a)).2 ho
  |some w=>rw[ho]at e;refine bH e λy m e=>?_;subst m;obtain⟨D,h1,C,rfl⟩:=(i.get (k:=a)).1 _ ho;refine ag (YR.mp e) λc n f=>?_;clear e;clear e;clear e;subst f;exact .hit h1 (SeqAt.EqAt.int_int (A:=A) (s:=s) x t y C)<|B o n
theorem uz.length{l:List<|Int×V}:∀{k:List<|Int×Value},uz ρ N l k->k.length=l.length:=by
 induction l with
 |nil=>exactλh=>Xy List.length h
 |cons p l i=>exactλh=>am h λu r e _ a=>aa e<|Xy (·+1)<|i a
theorem xg.length{l:List<|List Nat×V}:∀{k:List<|Str×Value},xg ρ N l k->k.length=l.length:=by
 induction l with
 |nil=>exactλh=>Xy List.length h
 |cons p l i=>exactλh=>am h λu r e _ a=>aa e<|Xy (·+1)<|i a
def E8 (hB:m5 P J)(S:St P J L m ρ N H s)(F:A.units+200<cLine)(h:Ed H x y=some b)(W:b0 ρ N x u)(X:b0 ρ N y v):
  (Q (.bool b) s->wpAny (model P.p P.w) A (compareOp .Eq u v) Q E s)/\(Q (.bool<|!b) s->wpAny (model P.p P.w) A (compareOp .NotEq u v) Q E s):=by
 refine cps λC G=>?_;cases x with
 |i i=>exact bH h λj e f=>by subst e;obtain rfl:=aA f;refine Xs W λt p=>?_;subst p;refine Xs X λt' p=>?_;subst p;exact G ⟨eq_int,PyProof.Rows.ne_int⟩
 |s i=>exact pg h λj e f=>by subst e;obtain rfl:=aA f;refine Xs W λt p=>?_;subst p;refine Xs X λt' p=>?_;subst p;exact G ⟨λq=>eq_str<|by rw[AJ];exact q,λq=>PyProof.Rows.ne_str<|by show Q (.bool<|!(S2 i==S2 j)) s;rw[AJ];exact q⟩
 |t l=>exact ym h λk e h=>cv h λg f=>by subst e;have g:=(Xu _ _).mp g;exact G<|Cr (n:=4) (by decide) S (aI 0x880e03261321c06067b tq F) (AQ (v:=.t l) g.1) (AQ (v:=.t k) g.2) (zo (v:=.t l) (n:=4) g.1 W) (zo (v:=.t k) (n:=4) g.2 X)<|B5 (v:=.t l) (u:=.t k) f
 |r a=>
  exact fO h λc e h=>iM h λo hl f=>by
   subst e;refine ag W λca ha p=>?_;subst p;refine ag X λcc hc p=>?_;subst p;cases o with
   |l l=>exact se f λk hk h=>cv h λg f=>by refine bN (S.rep.2 _ _ _ ha hl) λ_ vs n U I=>bN (S.rep.2 _ _ _ hc hk) λ_ vs' n' z w=>?_;have g:=(Xu _ _).mp g;exact G<|Cr (n:=4) (by decide) S (aI 0x880e03261321c06067b tq F) (d:=.list<|aas l) (e:=.list<|aas k) (Yh.mpr<|ZX g.1) (Yh.mpr<|ZX g.2) (.list U<|ZW g.1 I) (.list z<|ZW g.2 w)<|(Z5 f).trans ⟨λe=>Xy Dat.list e,λe=>Dat.list.inj e⟩
   |dI l=>
    exact Pk f λk hk f=>by
     refine iw (S.rep.2 _ _ _ ha hl) λ_ o M U hd I=>iw (S.rep.2 _ _ _ hc hk) λ_ o' B z hd' w=>?_;have O:=Heap.dictOf_iff.mpr ⟨o,(S.g _ U).1,hd⟩;have D:=Heap.dictOf_iff.mpr ⟨o',(S.g _ z).1,hd'⟩;have R:=I.length;have T:=w.length;have Y:=qG hB S U;have z2:=qG hB S z;by_cases d:l.length=k.length
     ·rw[Xr d]at f
      have f:=f;have hq:(M.length==B.length&&b)=b:=by rw[R,T,d,Zf,Bool.true_and]
      exact G ⟨λq=>keq_eq Y z2 O D (Ji F) (λ_=>vj w I f)<|by refine aa hq ?_;exact q,λq=>keq_ne Y z2 O D (Ji F) (λ_=>vj w I f)<|by refine aa hq ?_;exact q⟩
     ·rw[Xq d]at f
      obtain rfl:=aA f;have hf:(M.length==B.length&&true)=false:=by refine aa R<|aa T<|aa (Yn.mpr d) ?_;rfl
      exact G ⟨λq=>keq_eq (r:=true) Y z2 O D (Ji F) (λe=>Xv e<|by refine aa R<|aa T ?_;exact d)<|by refine aa hf ?_;exact q,
       λq=>keq_ne (r:=true) Y z2 O D (Ji F) (λe=>Xv e<|by refine aa R<|aa T ?_;exact d)<|by refine aa hf ?_;exact q⟩
   |_=>exact cE f nt
 |_=>exact cE h nt
def Be:∀{d:List Value}{b:Bool},sZ x l=some b->XI ρ N l d->∃y:List Str,StrsAre d y/\y.any (·==S2 x)=b:=by
 induction l with
 |nil=>intro d b h f;cases f;cases h;exact⟨[],.nil,rfl⟩
 |cons v l k=>intro d b h f;refine am f λu r a h1 g=>?_;subst a;refine pg h λt e h=>?_;subst e;refine ag (YR.mp h) λc i a=>?_;clear h;clear h;subst a;refine ag (k i g) λy j e=>Xs h1 λm a=>?_;clear h1;subst a;refine⟨S2 t::y,.cons _ _ j,?_⟩;rw[any_cons,e,AJ];congr 1;exact decide_eq_decide.mpr ⟨λe=>e.symm,λe=>e.symm⟩
def Jh:(!(Builtin.Str.occurrences (S2 t) (S2 [c]) 0 (S2 t).length 1).isEmpty)=t.contains c:=by rw[show S2 [c]=⟨#[c]⟩from rfl,StrLaws.found_one];simp only[S2,List.contains_eq_mem];exact decide_eq_decide.mpr Iff.rfl
def B7 (p:m5 P D)(S:St P D L m ρ N H s){x y:V}{b:Bool}{u v:Value}(h:fW H x y=some b)(T:b0 ρ N x u)(J:b0 ρ N y v){Q:Value->Shared->Prop}:
  ((∀R,Q (.bool b) {s with toks:=R})->wpAny (model P.p P.w) A (compareOp .In u v) Q E s)/\((∀t,y≠.s t)->(∀R,Q (.bool<|!b) {s with toks:=R})->wpAny (model P.p P.w) A (compareOp .NotIn u v) Q E s):=by
 refine cps λC F=>?_;cases x with
 |s x=>
  refine Xs T λG f=>?_;subst f;cases y with
  |t l=>refine cG J λa W n f d _ B=>?_;subst f;exact ag (Be (l:=l) h B) λX h1 j=>F ⟨λq=>in_tuple_strs (jT S.g d) (h1)<|by refine aa j ?_;exact q s.toks,λ_ q=>notin_tuple_strs (jT S.g d) (h1)<|by refine aa j ?_;exact q s.toks⟩
  |s t=>cases x with |nil=>exact cQ h|cons c x=>cases x with |cons=>exact cQ h|nil=>clear S p;obtain rfl:=aA h;refine Xs J λY f=>?_;subst f;exact F ⟨λq=>PyProof.Rows.in_str<|by refine aa Jh ?_;exact q s.toks,λq=>Xv rfl (q t)⟩
  |r a=>
   refine ag J λU I f=>?_;subst f;refine iM h λo B h=>?_;have O:=S.rep.2 _ _ _ I B;cases o with
   |l l=>exact cv h λ_ M=>by exact bN O λ_ W n d g=>ag (Be M g) λX h1 j=>F ⟨λq=>in_list_strs (fC S.g d) h1<|by refine aa j ?_;exact q s.toks,λ_ q=>notin_list_strs (fC S.g d) h1<|by refine aa j ?_;exact q s.toks⟩
   |dS l=>
    clear I;obtain rfl:=aA h;refine iw O λ_ o k d z g=>?_;have w:(valueAt k<|S2 x).isSome=(qD x l).isSome:=by
     cases e:qD x l with
     |none=>refine aa ((g.get (k:=x)).2 e) ?_;rfl
     |some v=>refine ag ((g.get (k:=x)).1 _ e) λu h1 _=>?_;refine aa h1 ?_;rfl
    exact F ⟨λq=>kda_in S.g d z (qG p S d) (strKind_is P.p P.w (S2 x) G) _ w<|q _,λ_ q=>kdg_notin S.g d z (qG p S d) (strKind_is P.p P.w (S2 x) G) _ w<|q _⟩
   |_=>exact cE h nt
  |_=>exact cE h nt
 |i i=>
  exact fO h λa e h=>Pk h λl B M=>by
   subst e;refine Xs T λG f=>?_;subst f;refine ag J λU I f=>?_;subst f;clear h;clear h;obtain rfl:=aA M;refine iw (S.rep.2 _ _ _ I B) λ_ o k d z g=>?_;have w:(valueAt k i).isSome=(eJ i l).isSome:=by
    cases e:eJ i l with
    |none=>refine aa ((g.get (k:=i)).2 e) ?_;rfl
    |some v=>refine ag ((g.get (k:=i)).1 _ e) λu h1 _=>?_;refine aa h1 ?_;rfl
   exact F ⟨λq=>kda_in S.g d z (qG p S d) (intKind_is P.p P.w i G) _ w<|q _,λ_ q=>kdg_notin S.g d z (qG p S d) (intKind_is P.p P.w i G) _ w<|q _⟩
 |_=>exact cE h nt
theorem xk:∀(x y:List Nat),mJ x y=!(decide (y<x))
 | [],y=>by cases y<;> simp[oh,ue,n6]
 |a::x,[]=>by simp[oh,ue,n6]
 |a::x,b::y=>by
  simp only[oh,ue,n6,List.cons_lt_cons_iff];by_cases h1:a<b
  ·have:¬b<a:=aI 0x82c00867b tq h1
   simp[h1,this,(XG ‹_›:¬b=a)]
  ·by_cases h:b<a
   ·simp[h1,h]
   ·have:b=a:=Y0 (wx h1)<|wx h
    simp[h1,h,this,xk x y]
def BQ {x y:V}{u v:Value}{f:Int->Int->Bool}{b:Bool}(h:(eR x λa=>eR y λb=>some<|f a b)=some b)(g:b0 ρ N x u)(k:b0 ρ N y v){Cx:Prop}(l:∀i j t c,u=.int i t->v=.int j c->b=f i j->Cx):Cx:=
 bH h λi e h=>bH h λj d h=>by
 subst e d;obtain⟨t,rfl⟩:=g;obtain⟨c,rfl⟩:=k;exact l i j t c rfl rfl ((aA h).symm)
def te (r:m5 P w)(S:St P w L m ρ N H s)(C:A.units+200<cLine){op:Cp}{x y:V}{b:Bool}{u v:Value}(h:aY H op x y=some b)(k:b0 ρ N x u)(f:b0 ρ N y v){Q:Value->Shared->Prop}
  (q:∀G,Q (.bool b) {s with toks:=G}):wpAny (model P.p P.w) A (compareOp (As op) u v) Q E s:=by
 cases op with
 |e=>exact(E8 r S C h k f).1<|q s.toks
 |n=>refine ag (YR.mp h) λc B d=>?_;subst d;exact(E8 r S C B k f).2<|q s.toks
 |i=>exact(B7 r S h k f).1 q
 |Zk=>
  have D:(∀t,y≠.s t)/\(fW H x y).map (!·)=some b:=by
   clear f;cases y with
   |s t=>exact cE h nt
   |_=>exact⟨λt e=>V.noConfusion e,h⟩
  refine ag (YR.mp D.2) λc B d=>?_;subst d;exact(B7 r S B k f).2 D.1 q
 |l=>refine BQ (f:=λa b=>decide (a<b)) h k f λi j t z d o p=>?_;subst d;subst o;subst p;exact lt_int<|q s.toks
 |g=>refine BQ (f:=λa b=>decide (b<a)) h k f λi j t z d o p=>?_;subst d;subst o;subst p;exact gt_int<|q s.toks
 |ge=>refine BQ (f:=λa b=>decide (b<=a)) h k f λi j t z d o p=>?_;subst d;subst o;subst p;exact ge_int<|q s.toks
 |le=>
  cases x with
  |i a=>refine BQ (x:=.i a) (f:=λa b=>decide (a<=b)) h k f λi j t z d o p=>?_;subst d;subst o;subst p;exact le_int<|q s.toks
  |s i=>
   exact pg h λj e F=>by
    subst e;clear S r C;obtain rfl:=aA F;refine Xs k λt d=>?_;clear k;subst d;refine Xs f λz d=>?_;clear f;subst d;refine PySem.P.le_str ?_;have:(!(decide ((S2 j).cps.toList<(S2 i).cps.toList)))=mJ i j:=by rw[xk];exact Xy (!·)<|decide_eq_decide.mpr Iff.rfl
    exact aa this<|q s.toks
  |_=>exact cE h nt
end
noncomputable def sN(e:Expr):Bool:=Nat.ble e.ctorIdx 25
def tE (h:sN slice=true)(o i:Value):subscripted slice false o i=operate [o,i] (PySem.getItem o i):=by cases slice<;>first|rfl| exact aZ h
def A6 {l:List V}{i:Int}{v:V}(h:(nW l.length i).bind (l[·]?)=some v){Cx:Prop}(f:∀k,sm i=true->seqIndex? i l.length=some k->k<l.length->l[k]?=some v->Cx):Cx:=by exact ag (Option.bind_eq_some_iff.mp h) λk d e=>bX (to d) λa b c=>f k a b c e
def uM (h:seqIndex? i n=some k):(0<=i/\i.toNat=k)\/(i<0/\-(n:Int)<=i/\(i+n).toNat=k):=by
 unfold seqIndex? at h;by_cases a:i<0
 ·simp only[a]at h
  refine cv h λb h=>?_;simp only[Xu,Ym]at b;exact .inr ⟨a,Int.le_of_sub_nonneg<|by rw[Int.sub_neg];exact b.1,aA h⟩
 ·simp only[a]at h
  exact .inl ⟨Y9.mp a,cv h λb h=>aA h⟩
section
variable{P:bi}{A:Around}{Xp:Heap}{L:Addr}{m:Str->Option Value}{ρ:Yp}{N:Led}{H:Hp}{s:Shared}{E:Value->Shared->Prop}
def tz (S:St P Xp L m ρ N H s){x y z:V}{u v:Value}(h:Mine.getItem H x y=some z)(G:b0 ρ N x u)(F:b0 ρ N y v):
  (∃T id,s.TypeIs u T/\typeLookup (.type T) "__getitem__"=pure (some<|.builtin id))/\
  ∀{Q:Value->Shared->Prop},(∀r tk,b0 ρ N z r->Q r {s with toks:=tk})->wpAny (model P.p P.w) A (PySem.getItem u v) Q E s:=by
 refine cps λC U=>?_;cases x with
 |t l=>exact bH h λi e f=>by subst e;refine A6 f λk h1 M h3 Y=>cG G λa vs n b g _ D=>?_;clear G;subst b;refine Xs F λt b=>?_;subst b;have q:=gY.mp h1;exact ag (D.get Y) λr B j=>U ⟨⟨"tuple",_,⟨_,(S.g _ g).1,rfl⟩,PySem.F.slot_tuple_getitem.lookup⟩,λw=>(PyProof.Rows.getItem_tuple (jT S.g g) (Yi (by decide)<|YN q.1) (Za q.2<|by decide) (by refine aa Y8<|aa D.length ?_;exact M) (by simpa using B)<|w r s.toks j)⟩
 |s x=>
  exact bH h λi e f=>by
   subst e;refine ag (YR.mp f) λc W b=>?_;clear f;subst b;refine ag (Option.bind_eq_some_iff.mp W) λk hk j=>bX (to hk) λh1 M h3=>?_;refine Xs G λt b=>?_;clear G;subst b;refine Xs F λX b=>?_;clear F;subst b;refine U ⟨⟨"str",_,typeIs_str s _ t,PySem.F.slot_str_getitem.lookup⟩,λw=>PyProof.Rows.getItem_str (c:=c) ?_ ?_<|w _ _ ⟨_,rfl⟩⟩
   ·simp only[Bool.or_eq_false_iff,ab7];exact⟨Y9.mpr<|Yi (by decide)<|YN (gY.mp h1).1,Int.not_le.mpr<|Za (gY.mp h1).2<|by decide⟩
   ·rw[cF,M];simpa [S2]using j
 |r a=>
  refine ag G λc W b=>?_;clear G;subst b;cases y with
  |i i=>
   refine Xs F λX b=>?_;clear F;subst b;refine iM h λo D f=>?_;have O:=S.rep.2 _ _ _ W D;clear D;cases o with
   |l l=>
    refine A6 f λk h1 M h3 Y=>?_;refine bN O λ_ vs n g j=>ag (j.get Y) λr B J=>?_;have I:=fC S.g g;refine U ⟨⟨"list",_,I.typeIs,slot_list_getitem.lookup⟩,λw=>?_⟩;rcases uM M with⟨p,d⟩|⟨p,d,p3⟩
    ·exact wpAny_getItem_list I p (Za (gY.mp h1).2<|by decide) (by refine aa d ?_;simpa using B)<|w r s.toks J
    ·have e:=j.length
     exact wpAny_getItem_list_neg I p (by simp[e];exact d) (Yi (by decide)<|YN (gY.mp h1).1) (by simp[e,p3];simpa using B)<|w r s.toks J
   |dI l=>exact iw O λ_ o kvs g R j=>ag ((j.get (k:=i)).1 _ f) λr B J=>U ⟨⟨"dict",_,(Heap.dictOf_iff.mpr ⟨o,(S.g _ g).1,R⟩).typeIs,slot_dict_getitem.lookup⟩,λw=>kdt_getItem S.g g R (intKind_is P.p P.w i X) B<|w r _ J⟩
   |_=>exact cE f nt
  |s x=>refine Xs F λX b=>?_;clear F;subst b;refine RY h λl D f=>iw (S.rep.2 _ _ _ W D) λ_ o kvs g R j=>?_;obtain⟨r,B,J⟩:=(j.get (k:=x)).1 _ f;exact U ⟨⟨"dict",_,(Heap.dictOf_iff.mpr ⟨o,(S.g _ g).1,R⟩).typeIs,slot_dict_getitem.lookup⟩,λw=>kdt_getItem S.g g R (strKind_is P.p P.w (S2 x) X) B<|w r _ J⟩
  |_=>exact cE h nt
 |_=>exact cE h nt
end
section
variable{P:bi}{cl:Cl}{A:Around}{env:Env}{Xp:Heap}{L:Addr}{m:Str->Option Value}{Γ:NC}(X:EX P cl A env Xp L m Γ)
include X
theorem FD(q:aq P cl A env Xp L m Γ a u)(r:aq P cl A env Xp L m Γ b w):aq P cl A env Xp L m Γ (.BinOp a (wV op) b pos)<|.o op u w:=
 λY N H s l v C S Lo h Q E c=>aE h λx D h1 h=>aE h λy F p h=>s7 h λt e=>by
 clear h;clear h;clear h;subst e;exact wpAny_BinOp<|q S Lo h1 λT M z G i d k=>r i (Lo.ext d) p λU O B I S2 f n=>G2 S2 t (k.XW f) n λW R J j g o=>c _ _ _ _ j ((d.trans f).trans g) o
theorem IC(o:aq P cl A env Xp L m Γ a t)(p:aq P cl A env Xp L m Γ b u)(q:behindInMarks (As op) b=false):aq P cl A env Xp L m Γ (.Compare a [As op] [b] pos)<|.q op t u:=
 λU N H s l v D S Lo h Q E c=>aE h λx F h1 h=>aE h λy G n h=>Py h λz r k e=>by
 clear h;clear h;clear h;subst e k;exact wpAny_Compare1 (o S Lo h1 λR M B I g d i=>p g (Lo.ext d) n λT O C J S2 f j=>te X.base S2 X.d r (i.XW f) j λw=>c _ _ _ _ (S2.toks w) (d.trans f) rfl) q
theorem IB(o:aq P cl A env Xp L m Γ a t)(p:aq P cl A env Xp L m Γ b u)(q:behindInMarks (As op) b=false):iQ P cl A env Xp L m Γ (.Compare a [As op] [b] pos)<|.q op t u:=
 λU N H s l v D S Lo h Q E c=>aE h λx F h1 h=>aE h λy G n h=>Py h λz r k e=>by
 clear h;clear h;clear h;subst e;cases k;exact wpAny_isTrue_Compare1 (o S Lo h1 λR M B I g d i=>p g (Lo.ext d) n λT O C J S2 f j=>te X.base S2 X.d r (i.XW f) j λw=>wpAny_truthy_bool<|c _ _ _ (S2.toks w)<|d.trans f) q
omit X in
theorem JB(f:aq P cl A env Xp L m Γ e me)(g:∀w,isTrue e env w=(do let v<-w;standAt e.pos;holding [v] (truthy v))):iQ P cl A env Xp L m Γ e me:=
 λo N H s l v j S Lo h Q E c=>isTrue_plain (f S Lo h λu n i k b a d=>by obtain rfl:u=_:=d;exact wpAny_truthy_bool<|c _ _ _ b a)<|g _
theorem HI(i:aq P cl A env Xp L m Γ a j):aq P cl A env Xp L m Γ (.UnaryOp .Not a pos)<|.N j:=
 λr N H s l v n S Lo h Q E c=>aE h λx o h1 h=>qN h λb e h=>by
 subst e;cases h;refine UnaryOp_<|i S Lo h1 λu q k p f d g=>?_;obtain rfl:u=_:=g;exact not_of<|wpAny_truthy_bool<|c _ _ _ _ f d rfl
theorem EE(g:iQ P cl A env Xp L m Γ a i):iQ P cl A env Xp L m Γ (.UnaryOp .Not a pos)<|.N i:=
 λq N H s l v k S Lo h Q E c=>aE h λx n h1 h=>qN h λb e h=>by
 subst e;cases h;exact isTrue_not<|g S Lo h1 λp j o f d=>c _ _ _ f d
theorem Gx{t a b:Expr}{q n o:ME}{p:Pos}(z:iQ P cl A env Xp L m Γ t q)(w:aq P cl A env Xp L m Γ a n)(y:aq P cl A env Xp L m Γ b o):aq P cl A env Xp L m Γ (.IfExp t a b p)<|.e q n o:=
 λJ N H s l v D S Lo h Q E c=>aE h λx F h1 h=>qN h λt e k=>by
 subst e;refine IfExp_<|z S Lo h1 λI C G j d=>?_;clear h1;cases t with
 |true=>exact w j (Lo.ext d) k λu B i r S2 f g=>c _ _ _ _ S2 (d.trans f) g
 |false=>exact y j (Lo.ext d) k λu B i r S2 f g=>c _ _ _ _ S2 (d.trans f) g
theorem DQ{a i:Expr}{f g:ME}{p:Pos}(u:aq P cl A env Xp L m Γ a f)(w:aq P cl A env Xp L m Γ i g)(B:sN i=true):aq P cl A env Xp L m Γ (.Subscript a i p)<|.t f g:=
 λρ N H s l v O S Lo h Q E c=>aE h λx R h1 h=>aE h λy U q h=>s7 h λF e=>by
 clear h;clear h;clear h;subst e;refine Subscript_<|u S Lo h1 λu1 s1 J W j b n=>w j (Lo.ext b) q λu2 s2 M Y S2 d o=>cps λC G=>?_;obtain⟨⟨T,id,t,z⟩,k⟩:=tz (E:=E) S2 F (n.XW d) o;exact G<|tail_any t z (k λr I D=>c _ _ _ _ (S2.toks I) (b.trans d) D)<|tE B _ _
inductive rf (R:Expr->ME->Prop):List Expr->List ME->Prop
 |nil:rf R [] []
 |cons {e:Expr}{me:ME}{es:List Expr}{mes:List ME}:R e me->rf R es mes->rf R (e::es) (me::mes)
omit X in
theorem Bw{l:Lo}{j:ME}{c:List ME}{H f:Hp}{v:V}{C:Prop}(h:Zb cl l (j::c) H=some (v,f))(k:∀b d,ai cl l j H=some (.b b,d)->
  (c=[]/\v=.b b/\d=f)\/(c≠[]/\((b=true/\Zb cl l c d=some (v,f))\/(b=false/\v=.b false/\d=f)))->C):C:=
 aE h λx d h1 h=>qN h λb e h=>by
 subst e;refine k b d h1 ?_;clear k;cases c with
 |nil=>exact aQ h λg i=>.inl ⟨rfl,g.symm,i⟩
 |cons a r=>clear h1;cases b with
  |true=>exact .inr ⟨(λe=>nomatch e),.inl ⟨rfl,h⟩⟩
  |false=>exact aQ h λg i=>.inr ⟨(λe=>nomatch e),.inr ⟨rfl,g.symm,i⟩⟩
omit X in
theorem F6{l:Lo}{j:ME}{c:List ME}{H f:Hp}{v:V}{C:Prop}(h:ZS cl l (j::c) H=some (v,f))(k:∀b d,ai cl l j H=some (.b b,d)->
  (c=[]/\v=.b b/\d=f)\/(c≠[]/\((b=false/\ZS cl l c d=some (v,f))\/(b=true/\v=.b true/\d=f)))->C):C:=
 aE h λx d h1 h=>qN h λb e h=>by
 subst e;refine k b d h1 ?_;clear k;cases c with
 |nil=>exact aQ h λg i=>.inl ⟨rfl,g.symm,i⟩
 |cons a r=>clear h1;cases b with
  |false=>exact .inr ⟨(λe=>nomatch e),.inl ⟨rfl,h⟩⟩
  |true=>exact aQ h λg i=>.inr ⟨(λe=>nomatch e),.inr ⟨rfl,g.symm,i⟩⟩
omit X in
theorem rf.nil_of(h:rf R e []):e=[]:=by cases h;rfl
theorem HW{n:List Expr}{a:List ME}(v:rf (iQ P cl A env Xp L m Γ) n a):∀⦃f:Yp⦄ ⦃N:Led⦄ ⦃H:Hp⦄ ⦃s:Shared⦄ ⦃l:Lo⦄ ⦃b:Bool⦄ ⦃i:Hp⦄,St P Xp L m f N H s->rm env L m Γ.vars f N l->Zb cl l a H=some (.b b,i)->
  ∀⦃Q:Bool->Shared->Prop⦄ ⦃E:Value->Shared->Prop⦄,(∀r d j,St P Xp L m d j i r->a5 aO f N d j->Q b r)->wpAny (model P.p P.w) A (allTrue .And n env) Q E s:=by
 induction v with
 |nil=>exactλf N H s l b i S Lo h=>cE h nt
 | @cons e C n a w p t=>
  refineλf N H s l b i S Lo h Q E c=>Bw h λB y h1 o=>XC<|w S Lo h1 λr d j k g=>?_
  rcases o with⟨rfl,q,rfl⟩|⟨_,⟨rfl,o⟩|⟨rfl,q,rfl⟩⟩
  ·cases q
   clear Lo t;obtain rfl:=p.nil_of;cases b<;> exact Yj<|c _ _ _ k g
  ·exact t k (Lo.ext g) o λD x z S2 u=>c _ _ _ S2<|g.trans u
  ·cases q
   exact Yj<|c _ _ _ k g
theorem Jy{n:List Expr}{a:List ME}(v:rf (iQ P cl A env Xp L m Γ) n a):∀⦃f:Yp⦄ ⦃N:Led⦄ ⦃H:Hp⦄ ⦃s:Shared⦄ ⦃l:Lo⦄ ⦃b:Bool⦄ ⦃i:Hp⦄,St P Xp L m f N H s->rm env L m Γ.vars f N l->ZS cl l a H=some (.b b,i)->
  ∀⦃Q:Bool->Shared->Prop⦄ ⦃E:Value->Shared->Prop⦄,(∀r d j,St P Xp L m d j i r->a5 aO f N d j->Q b r)->wpAny (model P.p P.w) A (allTrue .Or n env) Q E s:=by
 induction v with
 |nil=>exactλf N H s l b i S Lo h=>cE h nt
 | @cons e C n a w p t=>
  refineλf N H s l b i S Lo h Q E c=>F6 h λB y h1 o=>XC<|w S Lo h1 λr d j k g=>?_
  rcases o with⟨rfl,q,rfl⟩|⟨_,⟨rfl,o⟩|⟨rfl,q,rfl⟩⟩
  ·cases q
   clear Lo t;obtain rfl:=p.nil_of;cases b<;> exact Yj<|c _ _ _ k g
  ·exact t k (Lo.ext g) o λD x z S2 u=>c _ _ _ S2<|g.trans u
  ·cases q
   exact Yj<|c _ _ _ k g
end
section
variable{P:bi}{cl:Cl}{A:Around}{env:Env}{Xp:Heap}{L:Addr}{m:Str->Option Value}{Γ:NC}(X:EX P cl A env Xp L m Γ)
include X
theorem Dq(t:rf (aq P cl A env Xp L m Γ) i a):aq P cl A env Xp L m Γ (.BoolOp .And i pos)<|.a a:=by
 intro x N H s l v p S Lo h;replace h:Zb cl l a H=some (v,p):=h;induction t generalizing x N H s with
 |nil=>exact cE h nt
 | @cons e G i a j f n=>
  refineλQ E c=>Bw h λF B h1 b=>?_
  cases f with
  |nil=>
   clear n;rcases b with⟨_,rfl,rfl⟩|⟨q,_⟩
   ·exact BoolOp_one<|j S Lo h1 c
   ·exact Xv rfl q
  |cons w k=>
   refine BoolOp_and<|j S Lo h1 λu I y C g d r=>?_;obtain rfl:u=_:=r;refine wpAny_truthy_bool ?_;rcases b with⟨q,_⟩|⟨_,⟨rfl,b⟩|⟨rfl,rfl,rfl⟩⟩
   ·exact Uz q nt
   ·exact n g (Lo.ext d) b λu J z D S2 o=>c _ _ _ _ S2<|d.trans o
   ·exact c _ _ _ _ g d rfl
theorem Hm(t:rf (aq P cl A env Xp L m Γ) i a):aq P cl A env Xp L m Γ (.BoolOp .Or i pos)<|.or a:=by
 intro x N H s l v p S Lo h;replace h:ZS cl l a H=some (v,p):=h;induction t generalizing x N H s with
 |nil=>exact cE h nt
 | @cons e G i a j f n=>
  refineλQ E c=>F6 h λF B h1 b=>?_
  cases f with
  |nil=>
   clear n;rcases b with⟨_,rfl,rfl⟩|⟨q,_⟩
   ·exact BoolOp_one<|j S Lo h1 c
   ·exact Xv rfl q
  |cons w k=>
   refine BoolOp_or<|j S Lo h1 λu I y C g d r=>?_;obtain rfl:u=_:=r;refine wpAny_truthy_bool ?_;rcases b with⟨q,_⟩|⟨_,⟨rfl,b⟩|⟨rfl,rfl,rfl⟩⟩
   ·exact Uz q nt
   ·exact n g (Lo.ext d) b λu J z D S2 o=>c _ _ _ _ S2<|d.trans o
   ·exact c _ _ _ _ g d rfl
theorem DJ(d:rf (iQ P cl A env Xp L m Γ) e a):iQ P cl A env Xp L m Γ (.BoolOp .And e pos)<|.a a:=
 λg N H s l b f S Lo h Q E c=>wpAny_isTrue_BoolOp<|HW X d S Lo h c
theorem GO(d:rf (iQ P cl A env Xp L m Γ) e a):iQ P cl A env Xp L m Γ (.BoolOp .Or e pos)<|.or a:=
 λg N H s l b f S Lo h Q E c=>wpAny_isTrue_BoolOp<|Jy X d S Lo h c
omit X in
theorem b0.handed(h:b0 c N v u):handedIn u=true:=by
 cases v with
 |n=>simp[sY]at h;subst h;rfl
 |b b=>simp[sG]at h;subst h;rfl
 |i i=>simp[sS]at h;refine Xs h λ_ e=>?_;subst e;rfl
 |s i=>simp[qp]at h;refine Xs h λ_ e=>?_;subst e;rfl
 |t l=>simp only[qp,sz,sx]at h;refine ng h λ_ _ _ e _=>?_;subst e;rfl
 |r a=>simp only[sY,sG,sS,qp,sz,sx]at h;refine ag h λ_ _ e=>?_;clear h;subst e;rfl
omit X in
theorem IA:tf f a=some v->∃p∈a,p.1=f:=by
 induction a with
 |nil=>intro h;simp[jY,iB]at h
 |cons b a i=>
  intro h;obtain⟨g,y⟩:=b;by_cases e:g=f
  ·exact⟨_,.head _,e⟩
  ·simp only[jY,iB,Xq e]at h
   exact ag (i h) λp c e=>⟨p,.tail _ c,e⟩
omit X in
theorem FN.get:∀{d:List DictEntry},FN names F N c d->∀{f:Nat}{v:V},tf f c=some v->(∀p∈c,names p.1=names f->p.1=f)->∃u,getL (names f) d=some (some u)/\b0 F N v u:=by
 induction c with
 |nil=>intro _ _ f v e _;simp[jY,iB]at e
 |cons D l C=>
  intro _ h f v e i;obtain⟨g,x⟩:=D;refine iz h λn r k E B z=>?_;clear h;subst k;obtain⟨t,w⟩:=E;have q:n.key.isStr (names f)=decide (g=f):=by
   refine aa w ?_;show(names g==names f)=_;by_cases e:g=f
   ·subst e;simp
   ·exact aa (Ye e)<|Yn.mpr λq=>e<|i _ (.head _) q
  delta getL;simp only[find?_cons,q];by_cases b:g=f
  ·clear q;subst b
   simp only[jY,iB,if_true,Zo]at e;subst e;simp only[decide_true];exact⟨_,rfl,B⟩
  ·simp only[jY,iB,Xq b]at e
   refine ag (C z e λp y=>i p<|.tail _ y) λu a j=>⟨u,?_,j⟩;simp only[Ye b];revert a;delta getL;intro a;split at a
   ·rename_i o s
    simp only[Zo]at a;clear j;subst a;exact aa s rfl
   ·split at a<;> cases a
omit X in
theorem FN.miss:∀{a:List DictEntry},FN names s N f a->(∀p∈f,names p.1≠x)->getL x a=some none:=by
 induction f with
 |nil=>intro _ h _;subst h;rfl
 |cons n l k=>
  intro _ h b;obtain⟨g,v⟩:=n;refine iz h λe r d z o j=>?_;clear h;subst d;obtain⟨t,c⟩:=z;have q:e.key.isStr x=false:=by exact aa c<|Yn.mpr<|b _<|.head _
  have:=k j λp i=>b p<|.tail _ i;revert this;delta getL;intro this;simp only[find?_cons,q,any_cons,(by unfold DictEntry.refKey;rw[c]:e.refKey=false),Bool.false_or];exact this
omit X in
theorem kY(h:Dm c f=true):c<3/\f<13:=by
 have q {a b f:Nat} (h:f<=b) (e:Nat.ble (b+1) 13=true):f<13:=Yz h<|Yb e;cases c with
 |zero=>exact⟨by decide,q (a:=0) (Zn h) rfl⟩
 |succ c=>cases c with
  |zero=>exact⟨by decide,q (a:=0) (Zn ((Xu _ _).mp h).2) rfl⟩
  |succ c=>cases c with
   |zero=>exact⟨by decide,q (a:=0) (Zn ((Xu _ _).mp h).2) rfl⟩
   |succ c=>exact eH h nt
noncomputable def tB(e:Expr):Bool:=Nat.beq e.ctorIdx 20||Nat.beq e.ctorIdx 21||Nat.beq e.ctorIdx 23
omit X in
theorem qZ(h:tB o=true)(a:Str)(env:Env)(w:Sem Value):attributeBase o a env w=w:=by cases o<;>first|rfl| exact aZ h
theorem St.aa4{b:Yp}{N:Led}{H:Hp}{s:Shared}(S:St P Xp L m b N H s){i c:Nat}{f:List<|Nat×V}{d:Addr×Addr}(q:H[i]?=some (.i c f))(l:b[i]?=some d):
  ∀C:Prop,(∀e n,(d.1,instObj (P.Z.c c) d.2)∈N->(d.2,dictOf e n)∈N->FN P.Z.f b N f e->(∀p∈f,Dm c p.1=true)->(f.map (·.1)).Nodup->InstAt s.heap d.1 (instObj (P.Z.c c) d.2) (P.Z.c c) (some<|dictOf e n)->C)->C:=λC t=>by
 obtain⟨k,e,n,h,o,r,a⟩:=S.rep.2 _ _ _ l q;exact t e n k h o r a<|InstAt.of_news S.g k h
theorem Fj{o:Expr}{O:ME}{f:Nat}{x:Str}{g:Pos}(ho:aq P cl A env Xp L m Γ o O)(U:tB o=true)(hx:P.Z.f f=x):aq P cl A env Xp L m Γ (.Attribute o x g)<|.f O f:=
 λρ N H s l v H' S Lo h Q E c=>cps λC z=>aE h λw H1 h1 h=>fO h λa T h=>s7 h λi e=>PO i λk fs hi i=>by
 subst e T;refine z<|Attribute_any_ (ho S Lo h1 λu s1 ρ1 N1 j R D=>?_) ?_
 ·refine ag D λd W t=>?_;clear D;subst t
  refine cps λC z=>St.aa4 X j hi W _ λes n hm hm' Y G _ I=>ag (IA i) λp hp t=>?_;subst t;have b:=G p hp;have M:=kY b;refine bX (X.a.fld k _ b) λk1 z7 _=>?_;refine ag z7 λF k2 k3=>ag (Y.get i λq y e=>X.a.a _ _ (kY<|G q y).2 M.2 e) λu hu J=>z ?_;rw[<- hx];exact get_own j.F X.base.K I k1 (X.a.dict k M.1).1 k2 k3 hu J.handed<|c _ _ _ _ (j.toks _) R J
 ·show(do
   let B<-attributeBase o x env (eval o env)
   standAt g.atName
   let r<-holding [B] (getAttr B x true)
   letTemporaryGo o B r
   pure r)=_
  rw[qZ U]
end
theorem vn(s:List Nat)(l:Nat):∀c,l+c<=s.length->((List.range c).map (l+·)).filterMap (s[·]?)=(s.drop l).take c
 |0,_=>by simp
 |c+1,h=>by refine aa List.range_succ<|aa Zq<|aa List.filterMap_append<|aa (vn s l c<|Nat.le_of_succ_le ‹_›)<|aa List.take_add_one ?_;simp[(XQ ‹_›:s[l+c]?=some (s[l+c]'‹_›))]
def zv (s:List Nat){l h:Nat}:Gg s l h=(s.drop l).take (h-l):=by unfold Gg;exact aa List.drop_take rfl
def vk (s:List Nat)(lo a:Nat)(h:a<=s.length):sliceRange (lo:Int) (a:Int) 1=(List.range<|a-lo).map (lo+·):=by
 unfold sliceRange;simp only[Int.ediv_one,Int.one_mul];have e:(if(lo:Int)<(a:Int)then(a:Int)-lo+1-1 else 0).toNat=a-lo:=by
  by_cases h:(lo:Int)<a
  ·rw[Xr h,aam];exact Int.toNat_sub a lo
  ·rw[Xq h];exact(sub_eq_zero_of_le<|Ys.mp<|Y9.mp h).symm
 exact aa e<|YA λk _=>rfl
def FK (n)(i):DT n i<=n:=by
 unfold DT;split
 ·exact Nat.min_le_right _ _
 ·exact Int.toNat_le.mpr<|Yi (aal (YN<|Int.not_le.mp ‹_›) n)<|Int.le_of_eq<|Int.zero_add _
def Ca (n:Nat)(i:Int):max 0 (min (if i<0 then i+(n:Int)else i) (n:Int))=((DT n i:Nat):Int):=by
 by_cases h:0<=i
 ·refine Xs (Int.eq_ofNat_of_zero_le h) λk e=>?_;subst e
  rw[Xq<|Y9.mpr h,DT,Xr h];by_cases a:k<=n
  ·exact aa (min_eq_left a)<|aa (Int.min_eq_left<|Ys.mpr a)<|aa (Int.max_eq_right h) rfl
  ·have a:=YU<|Nat.lt_of_not_le a
   exact aa (Nat.min_eq_right a)<|aa (Int.min_eq_right<|Ys.mpr a)<|aa (Int.max_eq_right<|YG n) rfl
 ·have h:=Int.not_le.mp h
  have q:=aal (YN h) n;rw[Int.zero_add]at q;rw[Xr h,DT,Xq<|Int.not_le.mpr h,Int.min_eq_left q,Int.ofNat_toNat,Int.max_comm]
def A5 {x:List Nat}{t:Tok}{l u:Option<|Int×Tok}{lo hi:Nat}(a:hi<=x.length)(e:slicePicked (S2 x) l u none=(List.range<|hi-lo).map (lo+·)){Q:Value->Shared->Prop}{s:Shared}
  (g:x.length<=16777216) (h:∀j m,Q (.str (S2<|Gg x lo hi) j) {s with toks:=m}):(sliceMade (S2 x) t l u none).post Q s:=by
 unfold sliceMade;split;have b:(slicePicked (S2 x) l u none).length=hi-lo:=by rw[e];simp
 ·rename_i q
  rw[b,cF]at q;simp at q;have:Gg x lo hi=x:=by
   rw[zv];by_cases c:x.length=0
   ·have:x=[]:=aaz c
    clear e b h c a g q;subst this;simp
   ·have:lo=0:=Nat.le_zero.mp<|not_lt.mp λi=>lt_irrefl _<|Yz (aae q.symm)<|XO (sub_lt (Nat.pos_of_ne_zero λz=>c<|by rw[<- q,z,Nat.zero_sub]) i) a
    clear e b h;subst this;rw[List.drop_zero,q,List.take_length]
  have:=this▸h t s.toks;exact this
 ·have d:(slicePicked (S2 x) l u none).filterMap ((S2 x).cps[·]?)=Gg x lo hi:=by
   rw[e,zv];by_cases f:lo<=hi
   ·have:=vn x lo (hi-lo)<|Xz (aae<|Nat.add_sub_of_le f) a
    rw[<- this];exact aa (by funext k;simp[S2]:(λk:Nat=>(S2 x).cps[k]?)=λk:Nat=>x[k]?) rfl
   ·rw[show hi-lo=0 by exact sub_eq_zero_of_le<|Nat.le_of_not_le f];simp
  refine⟨?_,?_⟩
  ·refine aa d ?_
   show(Gg x lo hi).toArray.size<=sizeLine;rw[Y8,zv,length_take,List.length_drop,sizeLine_eq];exact Xz (Nat.min_le_left _ _)<|Xz (sub_le _ _)<|Xz a g
  ·exact aa d<|h _ _
section
variable{P:bi}{cl:Cl}{A:Around}{env:Env}{Xp:Heap}{L:Addr}{m:Str->Option Value}{Γ:NC}
def St.grow (S:St P Xp L m b N H s)(o)(h:o.isFreed=false:=by trivial):St P Xp L m b N H {s with heap:=s.heap.push o}:=
 S.same (S.F.push o) λp a=>(S.g.push S.F o h) p<|.tail _ a
def St.kept (S:St P Xp L m a N H s)(k:∀b o,s.heap.get? b=some o->h.get? b=some o):St P Xp L m a N H {s with heap:=h,toks:=tk}:=
 S.same (S.F.keeps k) (S.g.grown k)
variable(X:EX P cl A env Xp L m Γ)
include X
omit X in
theorem lW(h:aq P cl A env Xp L m Γ e i)(S:St P Xp L m d N H s)(Lo:rm env L m Γ.vars d N l)(g:ai cl l i H=some (v,f))
  (k:∀u c a b,St P Xp L m a b f c->a5 aO d N a b->b0 a b v u->Q u c):wpAny (model P.p P.w) A (evalPart (some e) env) Q E s:=evalPart_some_step<|h S Lo g k
theorem Ad{x:Str}{p U n:Pos}{lo hi:Expr}{r b a:ME}(O:aq P cl A env Xp L m Γ (.Name x p) r)(k:aq P cl A env Xp L m Γ lo b)(g:aq P cl A env Xp L m Γ hi a):
  aq P cl A env Xp L m Γ (.Subscript (.Name x p) (.Slice (some lo) (some hi) none U) n) (.S r b a):=
 λρ N H s l v H' S Lo h Q E c=>cps λC T=>aE h λx1 H1 h1 h=>aE h λx2 H2 J h=>aE h λx3 H3 M h=>s7 h λh e=>pg h λt F h=>bH h λi G h=>bH h λj I h=>cv h λq R=>by
 subst e F G I;obtain rfl:=aA R;refine T ?_;simp[e5]at q;refine wpAny_Subscript_str_slice<|O S Lo h1 λu1 s1 ρ1 N1 w d z=>lW k w (Lo.ext d) J λu2 s2 ρ2 N2 f o B=>lW g f (Lo.ext<|d.trans o) M λu3 s3 ρ3 N3 y u D=>?_;obtain⟨W,rfl⟩:=z;obtain⟨Y,rfl⟩:=B;obtain⟨t3,rfl⟩:=D;refine⟨S2 t,W,some (i,Y),some (j,t3),rfl,rfl,rfl,A5 (lo:=DT t.length i) (hi:=DT t.length j) (FK _ _) ?_ (Xz q.2<|by decide) λt' tk=>c _ _ _ _ ((y.grow _).toks tk) ((d.trans o).trans u) ⟨_,rfl⟩⟩;refine dG (vk t _ _<|FK _ _) ?_;unfold slicePicked Builtin.Str.strSliceIndices;simp[cF,Ca]
theorem tb{x:Str}{p F f:Pos}{lo:Expr}{k a:ME}(z:aq P cl A env Xp L m Γ (.Name x p) k)(d:aq P cl A env Xp L m Γ lo a):
  aq P cl A env Xp L m Γ (.Subscript (.Name x p) (.Slice (some lo) none none F) f) (.X k a):=
 λρ N H s l v R S Lo h Q E c=>cps λC D=>aE h λx1 T h1 h=>aE h λx2 U y h=>s7 h λh e=>pg h λt u h=>bH h λi w h=>cv h λj B=>by
 subst e u w;obtain rfl:=aA B;refine D ?_;simp only[Xu,gY,e5]at j;refine wpAny_Subscript_str_slice<|z S Lo h1 λu1 s1 M W o g q=>lW d o (Lo.ext g) y λu2 s2 O Y b n r=>evalPart_none_step ?_;obtain⟨G,rfl⟩:=q;obtain⟨I,rfl⟩:=r;refine⟨S2 t,G,some (i,I),none,rfl,rfl,rfl,A5 (lo:=DT t.length i) (hi:=t.length) (XH _) ?_ (Xz j.2<|by decide) λt' J=>c _ _ _ _ ((b.grow _).toks J) (g.trans n) ⟨_,rfl⟩⟩;refine dG (vk t _ _<|XH _) ?_;unfold slicePicked Builtin.Str.strSliceIndices;simp only[Option.map_some,Option.map_none,Option.getD_none,gt_iff_lt,show(0:Int)<1 by decide,if_true,cF,Ca]
omit X in
theorem sf:∀{H a:Hp}{v:List V},Zc cl l b H=some (v,a)->v.length=b.length:=by
 induction b with
 |nil=>intro H a v h;exact aQ h λe _=>e▸rfl
 |cons e b i=>intro H a v h;exact aE h λx d h1 h=>aE h λg f c h=>aQ h λe _=>e▸Xy (·+1) (i c)
omit X in
theorem a5.alloc(S:St P Xp L m a N H s)(o):a5 aO a N (a++[(s.heap.objs.size,s.heap.objs.size)])<|(s.heap.objs.size,o)::N:=
 a5.app (λ_ h=>.tail _ h) λp h=>have q:=sH (S.aa3<|XH _) p h;⟨q,q⟩
omit X in
theorem St.last(S:St P Xp L m b N H s)(a):(b++[(a,a)])[H.length]?=some (a,a):=by refine dG S.rep.1 ?_;simp
omit X in
theorem St.newList(S:St P Xp L m d N H s)(h:XI d N v c)(i:v.length<=1000000)
  (k:∀u s' a b,St P Xp L m a b (H++[.l v]) s'->a5 aO d N a b->b0 a b (.r H.length) u->Q u s'):wpAny (model P.p P.w) A (PySem.newList c) Q E s:=by
 refine newList_N S.F S.g (λf e b=>?_) (gc<|by refine aa h.length ?_;exact i);have z:=S.alloc (s':={s with heap:=f}) (XH _) e b (ao:=.l v) ⟨rfl,c,0,.head _,h.XW<|a5.alloc S<|W.listOf c.toArray 0⟩;exact k _ _ _ _ z.1 z.2 ⟨_,S.last _,rfl⟩
theorem CS(o:td P cl A env Xp L m Γ n a)(p:a.length<=1000):aq P cl A env Xp L m Γ (.List n pos)<|.l a:=
 λF N H s l v t S Lo h Q E c=>aE h λD w h1 h=>aQ h λj k=>by
 clear h;clear h;subst j k;exact List_<|o S Lo h1 λC z q x f d g=>f.newList g (by rw[sf h1];exact Lc p) λu B r y b e i=>c _ _ _ _ b (d.trans e) i
theorem HJ(o:td P cl A env Xp L m Γ n a)(p:a.length<=1000):aq P cl A env Xp L m Γ (.Tuple n k pos)<|.p a:=
 λB N H s l v t S Lo h Q E c=>aE h λz w h1 h=>aQ h λi j=>by
 clear h;clear h;subst i j;refine Tuple_ (o S Lo h1 λu q r x b f d=>newTuple_N b.F b.g (λy F g=>?_)<|gc<|by refine aa d.length<|aa (sf h1) ?_;exact Lc p);have e:=b.YW (a:=q.heap.objs.size) (o:=i6 u 0)<|XH _;exact c _ _ _ _ (b.push (XH _) F g) (f.trans e.1) ⟨_,_,_,rfl,.head _,e.2,d.XW e.1⟩
theorem J0:aq P cl A env Xp L m Γ (.Dict [] [] pos) .dI:=
 λi N H s l v g S Lo h Q E c=>aQ h λe b=>by
 clear h;subst e b;refine Dict_empty_made2 S.F S.g (modules_low X.base.nolimit) λd o F a _ _ _ f _ _=>?_;have z:=S.alloc (s':={s with heap:=d}) (XH _) F a (ao:=.dI []) ⟨rfl,o,[],.head _,f,rfl⟩;exact c _ _ _ _ z.1 z.2 ⟨_,S.last _,rfl⟩
theorem Fm:aq P cl A env Xp L m Γ (.Dict [] [] pos)<|.dS [] []:=
 λi N H s l v a S Lo h Q E c=>aQ (show some (V.r H.length,H++[AO.dS []])=some (v,a)from h) λe d=>by
 clear h;subst e d;refine Dict_empty_made2 S.F S.g (modules_low X.base.nolimit) λf o F b _ g _ _ _ _=>?_;have z:=S.alloc (s':={s with heap:=f}) (XH _) F b (ao:=.dS []) ⟨rfl,o,[],.head _,g,rfl⟩;exact c _ _ _ _ z.1 z.2 ⟨_,S.last _,rfl⟩
end
noncomputable def hF(x:Str)(a:NC):Bool:=([("len":Str),"ord","max","sum","sorted","range","reversed"].contains x)&&(a.names.lookup x==some NameKind.globalImplicit)
def kJ {x:Str}{a:NC}(h:hF x a=true):x∈([("len":Str),"ord","max","sum","sorted","range","reversed"])/\a.names.lookup x=some NameKind.globalImplicit:=by simp only[hF,Xu,YF]at h;exact⟨aac.mp h.1,h.2⟩
def oR:es.all au=true->(backTo pos<|starEach es env).any (·.1)=false/\(backTo pos<|starEach es env).all (!·.1)=true:=by
 induction es with
 |nil=>intro _;exact⟨rfl,rfl⟩
 |cons e es i=>intro h;simp only[all_cons,Xu]at h;refine XE (λa b=>?_)<|i h.2;rw[ap h.1];exact⟨by show(false||(backTo pos<|starEach es env).any (·.1))=false;rw[a];rfl,by show(true&&(backTo pos<|starEach es env).all (!·.1))=true;rw[b];rfl⟩
noncomputable def dM(e:Expr):Bool:=Nat.beq e.ctorIdx 19||Nat.beq e.ctorIdx 20||Nat.beq e.ctorIdx 21||Nat.beq e.ctorIdx 23
def ww (h:dM o=true)(a:Str)(e:Env)(w:Sem Value):attributeBase o a e w=w:=by cases o<;>first|rfl| exact aZ h
def oq {o:Expr}{n:Str}{c p:Pos}{a:List Expr}{b:Env}(h:dM o=true)(j:a.all au=true)(i:a.length<30)(g:(c.endLine==p.line)=true):
  eval (.Call (.Attribute o n c) a [] p) b=(do
   let d<-eval o b
   standAt c.atName
   let(f,first)<-holding [d] (getMethod d n<|do return (<- importBound o b).getD true)
   callWith p f first (backTo p<|starEach a b) []):=by
 show(do
  let d<-attributeBase o n b (eval o b)
  standAt c.atName
  methodCall o n c p b d (a.length+0) (backTo p<|starEach a b) [])=_
 rw[ww h];unfold methodCall;have e:methodCallForm (a.length+0) (backTo p<|starEach a b) []=true:=by unfold methodCallForm;rw[(oR j).2];exact Yv i
 rw[e];unfold methodCallPos calleeOf;rw[g];rfl
def GF (s:List<|List Nat):(s.map<|(·.length)∘S2).sum=s.flatten.length:=by
 induction s with
 |nil=>rfl
 |cons a r i=>simp only[af,List.sum_cons,abn,XB,i,Function.comp,cF]
def DX (s:List<|List Nat):Txt.join (S2 []) (s.map S2)=S2 s.flatten:=by
 show Builtin.Str.glued (S2 []) (s.map S2)=_;rw[StrLaws.glued_eq_join];induction s with
 |nil=>rfl
 |cons a r i=>
  cases r with
  |nil=>show S2 a=_;simp
  |cons b r=>show S2 a++S2 []++Str.join (S2 []) (S2 b::r.map S2)=_;have:Str.join (S2 []) (S2 b::r.map S2)=S2 (b::r).flatten:=i;rw[this,mu,mu];simp
section
variable{P:bi}{cl:Cl}{A:Around}{env:Env}{Xp:Heap}{L:Addr}{m:Str->Option Value}{Γ:NC}(X:EX P cl A env Xp L m Γ)
include X
theorem SV{x:Str}{id:String}{e:Expr}{n:ME}{p g:Pos}(B:hF x Γ=true)(y:a7 x=true)(z:bootBuiltins x=some (.builtin id))(w:x≠"__name__")(j:au e=true)(t:aq P cl A env Xp L m Γ e n)
  {h:Yp}{N:Led}{H i:Hp}{s:Shared}{l:Lo}{v:V} (S:St P Xp L m h N H s) (Lo:rm env L m Γ.vars h N l) (h1:ai cl l n H=some (v,i)) {Q:Value->Shared->Prop}{E:Value->Shared->Prop}
  (k:∀u f c d,St P Xp L m c d i f->a5 aO h N c d->b0 c d v u->wpAny (model P.p P.w) A (call (.builtin id) [u]) Q E f):wpAny (model P.p P.w) A (eval (.Call (.Name x p) [e] [] g) env) Q E s:=by
 refine XE (λa b=>Call_ (sP X S b y (X.a.b x a) z w ?_)<|by rfl)<|kJ B;exact PyProof.Rows.callWith_builtin1 (YD (t S Lo h1 λu f c d q o r=>args_nil<|k u f c d q o r)<|ap j [] env) (ap j [] env) rfl
theorem FW{e:Expr}{D:ME}{p w:Pos}(Y:hF "len" Γ=true)(W:au e=true)(M:aq P cl A env Xp L m Γ e D):aq P cl A env Xp L m Γ (.Call (.Name "len" p) [e] [] w)<|.n D:=
 λρ N H s l v H' S Lo h Q E c=>cps λC f=>aE h λx H1 h1 h=>L0 h λn a G I=>by
 clear h;clear h;subst G I;refine f<|SV X (id:="len") Y (by decide+kernel) (by decide+kernel) (by decide+kernel) W M S Lo h1 λu s' Zr N' b i g=>cps λC f=>?_;clear h1;cases x with
 |s t=>refine cv a λq a=>Xs g λt' j=>?_;clear g;subst j;have:=e5.mp q;exact f<|PySem.P.len_str (by rw[cF];lia)<|c _ _ _ _ (b.toks _) i ⟨_,by rw[cF,aA a]⟩
 |r r=>
  refine ag g λd J j=>?_;clear g;subst j;refine iM a λo z a=>?_;have O:=b.rep.2 _ _ _ J z;clear z;cases o with
  |l k=>exact cv a λq a=>bN O λ_ F n U B=>f<|call_len_list (fC b.g U) (by refine aa Y8<|aa B.length ?_;lia)<|c _ _ _ _ (b.toks _) i ⟨_,aa Y8<|aa B.length<|aa (aA a) rfl⟩
  |ro k=>
   refine cv a λq a=>iv O λ_ F T R=>?_;have y:F.size=k.length:=by refine dG R.length ?_;simp
   exact f<|call_len_list (T.at λo e=>b.F.keep _ _<|b.old _ _ e) (by refine aa y ?_;lia)<|c _ _ _ _ (b.toks _) i ⟨_,aa y<|aa (aA a) rfl⟩
  |_=>exact cE a nt
 |_=>exact cE a nt
theorem ER{e:Expr}{f:ME}{p b:Pos}(B:hF "ord" Γ=true)(y:au e=true)(r:aq P cl A env Xp L m Γ e f):aq P cl A env Xp L m Γ (.Call (.Name "ord" p) [e] [] b)<|.ord f:=
 λR N H s l v G S Lo h Q E c=>cps λC D=>aE h λx I h1 h=>L0 h λn w k o=>pg w λt j a=>by
 clear h;clear h;subst j k o;cases t with |nil=>exact cQ a|cons z t=>cases t with |cons=>exact cQ a|nil=>cases a;refine D<|SV X (id:="ord") B (by decide+kernel) (by decide+kernel) (by decide+kernel) y r S Lo h1 λu M F J i g d=>Xs d λO q=>?_;clear d;subst q;exact PySem.P.ord_of_char<|c _ _ _ _ (i.toks _) g ⟨_,rfl⟩
theorem Em{a b:Expr}{q r:ME}{p g:Pos}(U:hF "max" Γ=true)(o:au a=true)(e:au b=true)(R:aq P cl A env Xp L m Γ a q)(T:aq P cl A env Xp L m Γ b r):
  aq P cl A env Xp L m Γ (.Call (.Name "max" p) [a,b] [] g) (.x q r):=
 λρ N H s l v H' S Lo h Q E c=>cps λC W=>aE h λx H1 h1 h=>aE h λy H2 O h=>bH h λi G h=>bH h λj I h=>aQ h λJ M=>by
 subst G I J M;obtain⟨D,F⟩:=kJ U;refine W (Call_ (sP X S F (by decide+kernel) (X.a.b _ D) (v:=.builtin "max") (by decide+kernel) (by decide+kernel) ?_)<|by rfl);refine PyProof.Rows.callWith_builtin1 ?_ (ap o _ env) (oR (es:=[b])<|by simp[e]).1;refine YD (R S Lo h1 λu s' Zr N' w n z=>YD (T w (Lo.ext n) O λu2 s2 ρ2 N2 f t B=>args_nil ?_)<|ap e _ env)<|ap o _ env;obtain⟨Y,rfl⟩:=z;obtain⟨t2,rfl⟩:=B;refine PySem.max_two_ints X.h λh' tk k=>c _ _ _ _ (f.kept k) (n.trans t) ?_;by_cases d:i<j
 ·exact⟨t2,by simp only[gt_iff_lt,d,if_true]⟩
 ·exact⟨Y,by simp only[gt_iff_lt,d,if_false]⟩
omit X in
theorem XI.ints:∀{b:List Value}{ns:List Int},XI n N l b->j6 l=some ns->IntsAre b ns:=by
 induction l with
 |nil=>intro b ns h e;cases h;cases e;exact .nil
 |cons x l j=>intro b ns h e;refine am h λu r a h1 f=>?_;subst a;refine bH e λi d c=>?_;subst d;refine ag (YR.mp c) λk g a=>?_;clear c;subst a;refine Xs h1 λt a=>?_;clear h1;subst a;exact .cons _ _<|j f g
omit X in
theorem XI.strs:∀{l:List V}{a:List Value}{n:List<|List Nat},XI o N l a->jV l=some n->StrsAre a (n.map S2)
 | [],a,n,h,e=>by obtain rfl:a=[]:=h;obtain rfl:=aA e;exact .nil
 |x::l,a,n,h,e=>pg e λi f c=>am h λu r d h1 g=>by subst d f;refine ag (YR.mp c) λk j b=>?_;clear c;subst b;refine Xs h1 λt b=>?_;clear h1;subst b;exact .cons _ _<|XI.strs (l:=l) g j
theorem Gu{e:Expr}{q:ME}{p j:Pos}(W:hF "sum" Γ=true)(T:au e=true)(I:aq P cl A env Xp L m Γ e q):aq P cl A env Xp L m Γ (.Call (.Name "sum" p) [e] [] j)<|.u q:=
 λρ N H s l v H' S Lo h Q E c=>cps λC i=>aE h λx H1 h1 h=>L0 h λn a y z=>fO a λr w a=>se a λk M a=>iM a λns g a=>cv a λR J=>by
 subst w y z;clear a R;clear a;clear a;clear a;obtain rfl:=aA J;refine i<|SV X (id:="sum") W (by decide+kernel) (by decide+kernel) (by decide+kernel) T I S Lo h1 λu Y Zr N' b t o=>cps λC i=>ag o λd G B=>?_;clear o;subst B;exact bN (b.rep.2 _ _ _ G M) λ_ vs n O U=>i<|PyProof.Rows.LSm.sum_ints b.F b.g X.h (fC b.g O) (U.ints g) λD tk t' F f=>c _ _ _ _ (b.same (s':={Y with heap:=D,toks:=tk}) F f) t ⟨_,rfl⟩
omit X in
theorem lJ{p:Pos}{id:String}{v:Value}{s:Shared}{Q:Value->Shared->Prop}{E:Value->Shared->Prop}(h:wpAny (model P.p P.w) A (call (.builtin id) [v]) Q E s):
  wpAny (model P.p P.w) A (callWith p (.builtin id) [v] (backTo p<|starEach [] env) []) Q E s:=
 callWith_builtin rfl (PyProof.Rows.evalArgs_nil3 h)
omit X in
theorem lr{p:Pos}{id:String}{v:Value}{e:Expr}{s:Shared}{Q:Value->Shared->Prop}{E:Value->Shared->Prop}(c:au e=true)(h:wpAny (model P.p P.w) A (eval e env) (λu a=>wpAny (model P.p P.w) A (call (.builtin id) [v,u]) Q E a) E s):
  wpAny (model P.p P.w) A (callWith p (.builtin id) [v] (backTo p<|starEach [e] env) []) Q E s:=by
 rw[ap c];exact callWith_builtin rfl (evalArgs_plain<|spliced_cons<|aan h (λu a b=>args_nil b) λ_ _ x=>x)
theorem Er{o:Expr}{M:ME}{b p:Pos}(ho:aq P cl A env Xp L m Γ o M)(hb:dM o=true)(hl:(b.endLine==p.line)=true):aq P cl A env Xp L m Γ (.Call (.Attribute o "pop" b) [] [] p)<|.pop M:=
 λρ N H s l v H' S Lo h Q E c=>cps λC F=>aE h λx H1 h1 h=>fO h λr Y h=>se h λk J h=>iM h λz j h=>cv h λhq h=>aQ h λe1 e2=>by
 clear h;clear h;clear h;clear h;clear h;clear h;subst Y e1 e2;refine F<|MethodCall_ (ho S Lo h1 λu s' Zr T f O I=>?_)<|oq hb rfl (by decide) hl;refine cps λC F=>ag I λd y e7=>?_;clear I;subst e7;refine bN (f.rep.2 _ _ _ y J) λU a n g i=>F<|kl_method f.g g PySem.F.slot_list_pop PySem.F.type_list_pop<|lJ ?_;have t:=i.length;have hne:a≠[]:=λe=>by clear g i;subst e;rw[aaz t.symm]at j;exact cE j nt
 have ek:kl_last a.toArray.toList=some (a.dropLast,a.getLast hne):=by have:=kpa_last (a.getLast hne) a.dropLast;rw[aa2]at this;exact this
 refine kl_pop f.F f.g ek (lg f.j g) (by refine aa sizeLine_eq ?_;show a.length<=_;exact aI 0x400000220903d0902210cb610069b tq t hq) λh' R q=>?_;have G:=f.upd (s':={s' with heap:=h'}) y J (.inl rfl) R q (ao':=.l k.dropLast) ⟨U,a.dropLast,n+1,bu g,(i.XW<|fY (N:=T) (o':=W.listOf a.dropLast.toArray<|n+1) (dj y).1).dropLast⟩;refine c _ _ _ _ G.1 (O.trans G.2)<|ag (i.get (i:=k.length-1) (v:=z)<|by rw[List.getLast?_eq_getElem?]at j;exact j) λw B D=>?_;have:w=a.getLast hne:=by rw[List.getLast_eq_getElem];rw[<- t]at B;rw[XQ<|by have:=List.length_pos_iff.mpr hne;exact sub_lt this Nat.one_pos]at B;exact(Zd B).symm
 exact this▸D.XW G.2
theorem DP{e:Expr}{t:ME}{k:Nat}{p a b:Pos}(o:au e=true)(D:aq P cl A env Xp L m Γ e t)(I:(a.endLine==b.line)=true):
  aq P cl A env Xp L m Γ (.Call (.Attribute (.Constant (.str<|S2 []) k p) "join" a) [e] [] b) (.j t):=
 λρ N H s l v T S Lo h Q E c=>cps λC O=>aE h λx U h1 h=>s7 h λh e=>fO h λr y h=>se h λq G h=>iM h λss g h=>cv h λj F=>by
 subst y e;clear X h;clear h;clear h;clear h;clear h;clear h;obtain rfl:=aA F;refine O<|MethodCall_ (Constant_str ?_)<|oq rfl (by simp[o]) (by simp) I;with_reducible refine PySem.GM.of (.str _ _) (typeIs_str _ _ _) PySem.F.slot_str_join PySem.F.type_str_join PySem.GM.noRef ?_
 refine lr o<|D (S.toks _) Lo h1 λu s' R W f w i=>ag i λd B z=>?_;clear i;subst z;refine bN (f.rep.2 _ _ _ B G) λY vs n J M=>join_list (fC f.g J) (M.strs g) ?_ λt' tk=>?_
 ·simp only[Xu,e5]at j
  rw[Y5,show(S2 []).length=0 from rfl,Nat.mul_zero,YZ,GF];exact Xz j.2<|Yb rfl
 ·rw[DX]
  exact c _ _ _ _ (f.toks _) w ⟨_,rfl⟩
end
section
variable{P:bi}{cl:Cl}{A:Around}{env:Env}{Xp:Heap}{L:Addr}{m:Str->Option Value}{Γ:NC}
def St.Z6 (S:St P Xp L m c N H s)(h1:∀p∈N,p.1≠a)(b:Xp.get? a=none):¬own c a:=λh=>
 (S.abb h).elim (λz=>Xs z λ_ h=>h1 _ h rfl) λz=>Xs z λ_ h=>by rw[S.old _ _ h]at b;exact cE b nt
def St.inst (S:St P Xp L m f N H s)(r:Fr Xp L s'.heap m)(l:News Xp L s'.heap<|(x,instObj (P.Z.c c) b)::(b,dictOf [] 0)::N)(h1:∀p∈N,p.1<b)(k:b<x)(n:s'.os=s.os/\s'.gens=s.gens:=by trivial):
  St P Xp L m (f++[(x,b)]) ((x,instObj (P.Z.c c) b)::(b,dictOf [] 0)::N) (H++[.i c []]) s'/\a5 aO f N (f++[(x,b)]) ((x,instObj (P.Z.c c) b)::(b,dictOf [] 0)::N):=by
 have E:a5 aO f N (f++[(x,b)])<|(x,instObj (P.Z.c c) b)::(b,dictOf [] 0)::N:=a5.app (λ_ a=>.tail _<|.tail _ a) λp a=>⟨Yy<|XY (h1 p a) k,Yy<|h1 p a⟩;refine⟨⟨r,l,?_,S.rep.app (λi d o _ q=>q.XW E λ_ a _=>.tail _<|.tail _ a) ⟨.head _,[],0,.tail _<|.head _,rfl,(λ_ h=>Xv h XZ),List.Pairwise.nil⟩,S.sep.app (S.Z6 (λp a=>Yy<|XY (h1 p a) k) (l _<|.head _).2.2:¬own f x) (S.Z6 (λp a=>Yy<|h1 p a) (l _<|.tail _<|.head _).2.2:¬own f b),S.old,⟨n.1.trans S.env.1,n.2.trans S.env.2⟩⟩,E⟩;simp only[af,Yc,XD,XN,not_or,not_exists,not_and];exact⟨⟨XG k,λp a e=>Yy (XY (h1 p a) k) e⟩,λp a e=>Yy (h1 p a) e,S.j⟩
variable(X:EX P cl A env Xp L m Γ)
include X
theorem g6(r:keepIn P.K f=true)(n:g.all au=true)(q:td P cl A env Xp L m Γ g d)(i:g.length=d.length)
  (S:St P Xp L m o N H s) (Lo:rm env L m Γ.vars o N l) (h1:Zc cl l d H=some (vs,H'))
  (k:∀u j c h,St P Xp L m c h H' j->a5 aO o N c h->XI c h vs u->wpAny (model P.p P.w) A (call f<|first++u) Q E j):
  wpAny (model P.p P.w) A (callWith pos f first (backTo pos<|starEach g env) []) Q E s:=by
 cases g with
 |nil=>
  refine callWith_K0 (X.base.K.keeps S.F.keep) r ?_;clear q;cases d with
  |nil=>cases h1;exact k [] s o N S (.refl _ _ _) rfl
  |cons a b=>cases i
 |cons e g=>simp only[all_cons,Xu]at n;refine callWith_K X.base.K r (q S Lo h1 λu j c h p t v=>⟨X.base.K.keeps p.F.keep,k u j c h p t v⟩) (ap n.1 g env) (oR n.2).1
omit X in
theorem Q5{H:Hp}{a:Nat}{C:Prop}(h:Yd H a=true)(k:∀f,H[a]?=some (.i 2 f)->C):C:=by
 unfold Yd at h;cases e:H[a]? with
 |none=>rw[e]at h;exact eH h nt
 |some o=>
  rw[e]at h;cases o with
  |i c f=>obtain rfl:=eq_of_beq (a:=c) h;exact k f e
  |_=>exact eH h nt
theorem C0(r:P.a k=some x)(y:Γ.names.lookup x=some .globalImplicit)(t:a7 x=true)(w:e.all au=true)(a:e.length=b.length)
  (q:td P cl A env Xp L m Γ e b):aq P cl A env Xp L m Γ (.Call (.Name x p) e [] pos)<|.c k b:=
 λU N H s l v F S Lo h Q E c=>aE h λT G h1 h=>zA h λo=>by
 exact XE (λz B=>(Call_ (wz X S y t B<|g6 X (first:=[]) z w q a S Lo h1 λR O D J i f n=>wpAny_call<|X.calls o i n A _ (.inl rfl) λu M C I g d j=>c _ _ _ _ g (f.trans d) j)<|by rfl))<|X.a.fn k x r
theorem Ds{o:Expr}{D:ME}{x:Str}{b j:Pos}{k:Nat}{f:List Expr}{e:List ME}(hf:P.m k=some x)(hb:dM o=true)(B:f.all au=true)(hn:f.length<30)(hl:(b.endLine==j.line)=true)(g:f.length=e.length)
  (hO:aq P cl A env Xp L m Γ o D) (he:td P cl A env Xp L m Γ f e):aq P cl A env Xp L m Γ (.Call (.Attribute o x b) f [] j)<|.m k D e:=
 λρ N H s l v H' S Lo h Q E c=>cps λC i=>aE h λx1 H1 h1 h=>fO h λa R h=>ut h λhw h=>aE h λvs H2 W h=>zA h λY=>Q5 hw λfs hi=>by
 subst R;refine i<|cps λC i=>bU (X.a.m k x hf) λk1 k2 k3 k4 k5=>i<|MethodCall_ (hO S Lo h1 λu s1 ρ1 N1 q y t=>?_)<|oq hb B hn hl;have M:=t;refine cps λC i=>ag t λd hd T=>?_;clear t;subst T;exact St.aa4 X q hi hd _ λU n hm hm' w hq _ I=>i<|method_inst q.F X.base.K I k2 k3 k4 (w.miss λp hp=>k5 _<|hq p hp)<|g6 X (first:=[.ref d.1]) k1 B he g q (Lo.ext y) W λus s2 ρ2 N2 r z O=>wpAny_call<|X.calls Y r (us:=.ref d.1::us) ⟨_,_,rfl,M.XW z,O⟩ A _ (.inl rfl) λu s' Zr N' G F J=>c _ _ _ _ G ((y.trans z).trans F) J
theorem Hi(W:P.c k=some x)(hx:Γ.names.lookup x=some .globalImplicit)(Y:a7 x=true)(hs:e.all au=true)(a:e.length=b.length)
  (U:td P cl A env Xp L m Γ e b):aq P cl A env Xp L m Γ (.Call (.Name x p) e [] pos)<|.w k b:=
 λρ N H s l v H' S Lo h Q E c=>cps λC g=>aE h λvs B h1 h=>aE h λw H2 f h=>zA f λf=>Pp h λM h=>aQ h λO R=>by
 subst M O R;refine g (cps λC g=>rt (X.a.cls k x W) λk1 k2 k3 k4 k5 k6=>g<|Call_ (wz X S hx Y k6 ?_)<|by rfl);refine g6 X (first:=[]) k3 hs U a S Lo h1 λt s1 i N1 d z J=>call_cls d.F X.base.K d.g k2 k4 k5 λy q T F o l1 l2=>XE (λG n=>?_)<|St.inst (s':={s1 with heap:=T}) d (c:=k) F o l1 l2;have r:(i++[(y,q)])[B.length]?=some (y,q):=by refine dG d.rep.1 ?_;simp
 refine X.calls f G (us:=.ref y::t) ⟨_,_,rfl,⟨_,r,rfl⟩,J.XW n⟩ _ _ (.inr ⟨_,t,rfl⟩) λu s' Zr o D j I=>?_;obtain rfl:u=_:=I;exact⟨rfl,c _ _ _ _ D ((z.trans n).trans j) ⟨_,j.get r,rfl⟩⟩
end
def XI.ofInts (h:IntsAre us a):XI b N (a.map V.i) us:=by induction h with |nil=>exact rfl|cons n t h i=>exact⟨_,_,rfl,⟨t,rfl⟩,i⟩
def XI.pick (h:XI l N k v)(a:List Nat):(∀i∈a,i<k.length)->XI l N (a.map λi=>k.getD i .n) (a.map λi=>v.getD i Value.none):=by
 induction a with
 |nil=>intro _;exact rfl
 |cons i a g=>intro b;have h1:i<k.length:=b i<|.head _;have e:k[i]?=some k[i]:=XQ h1;refine ag (h.get e) λu d f=>⟨_,_,rfl,?_,g λj c=>b j<|.tail _ c⟩;simp[e,d];exact f
noncomputable def mw(n:Nat)(P:c->Prop):KasT c->Prop
 | .ret a=>P a
 | .ask i j k=>i<n/\j<n/\∀b,mw n P<|k b
theorem mw.mono{d:Type}{n:Nat}{P Q:d->Prop}(c:∀a,P a->Q a):∀{t:KasT d},mw n P t->mw n Q t
 | .ret a,h=>c a h
 | .ask i j k,h=>⟨h.1,h.2.1,λb=>mw.mono c<|h.2.2 b⟩
theorem mw.bind{c e:Type}{n:Nat}{P:c->Prop}{Q:e->Prop}{f:c->KasT e}(d:∀a,P a->mw n Q (f a)):∀{t:KasT c},mw n P t->mw n Q (t.bind f)
 | .ret a,h=>d a h
 | .ask i j k,h=>⟨h.1,h.2.1,λb=>mw.bind d<|h.2.2 b⟩
theorem mw.run{a:Type}{n:Nat}{P:a->Prop}{c:Nat->Nat->Bool}:∀{t:KasT a},mw n P t->P (iT c t)
 | .ret _,h=>h
 | .ask i j k,h=>mw.run (t:=k<|c i j)<|h.2.2<|c i j
theorem mw.wp{g:Type}{n:Nat}{P:g->Prop}{c:Nat->Nat->Bool}{b:Nat->Nat->(Bool->Shared->Prop)->Shared->Prop}{J:Shared->Prop}(l:∀i j C s,i<n->j<n->J s->(∀a,J a->C (c i j) a)->b i j C s){Q:g->Shared->Prop}:
  ∀{t:KasT g},mw n P t->∀{s:Shared},J s->(∀a,J a->Q (iT c t) a)->t.kasWp b Q s
 | .ret _,_,s,e,d=>d s e
 | .ask i j k,h,s,e,d=>l i j _ s h.1 h.2.1 e λa f=>mw.wp l (h.2.2<|c i j) f d
def tT (n:Nat)(p:Array Nat):Prop:=p.Perm<|List.toArray<|List.range n
def tT.getD (h:tT n p)(b:0<n)(i:Nat):p.getD i 0<n:=by
 by_cases a:i<p.size
 ·have:p.getD i 0=p[i]:=by simp[Array.getD,a]
  refine aa this ?_;have:=(Array.perm_iff_toList_perm.mp h).mem_iff.mp (by simp:p[i]∈p.toList);simpa using this
 ·have:p.getD i 0=0:=by simp[Array.getD,a]
  exact aI 0x41303401a6c206867b tq b this
def tT.rev (h:tT n p)(i j:Nat):tT n<|kas_rev p i j:=(mirror_perm p i j _).trans h
def tT.bub (h:tT n p)(i j:Nat):tT n<|bubble p i j:=(bubble_perm p i j).trans h
section
variable{n:Nat}(hn:0<n)
include hn
theorem wt{p:Array Nat}(h:tT n p):∀(f a:Nat),mw n (λ_=>True)<|kas_asc p f a
 |0,a=>trivial
 |f+1,a=>⟨h.getD hn _,h.getD hn _,λb=>by cases b;exact wt h f _;exact trivial⟩
theorem oJ:∀(f:Nat) {p:Array Nat} (h:tT n p) (a q:Nat),mw n (λr=>tT n r.1)<|kas_desc f p a q
 |0,p,h,a,q=>h
 |f+1,p,h,a,q=>⟨h.getD hn _,h.getD hn _,λb=>by
   cases b
   ·exact⟨h.getD hn _,h.getD hn _,λb=>by cases b;exact oJ f h _ _;exact h⟩
   ·show mw n _<|if true=true then(if q>0 then kas_desc f (kas_rev p (a-(q+1)) a) (a+1) 0 else kas_desc f p (a+1) 0)else _
    refine aa (Xr rfl) ?_;split
    ·exact oJ f (h.rev _ _) _ _
    ·exact oJ f h _ _⟩
theorem ve(h:tT n p)(a b:Nat):mw n (λr:Nat×Array Nat=>tT n r.2)<|kas_tail3 a b p:=by refine mw.bind (P:=λ_=>True) (λm _=>?_)<|wt hn (h.rev 0 a) _ _;exact h.rev 0 a
theorem ov(h:tT n p)(a b:Nat):mw n (λr=>tT n r.2)<|kas_descPart a b p:=by
 refine mw.bind (λr c=>?_)<|oJ hn _ h _ _;split
 ·exact ve hn (tT.rev c _ _) _ _
 ·exact ve hn c _ _
theorem DY(h:tT n p)(b:Nat):mw n (λr=>tT n r.2)<|kas_count b p:=by
 refine mw.bind (λr _=>?_)<|wt hn h _ _;split
 ·exact h
 ·split
  ·refine⟨h.getD hn _,h.getD hn _,λb=>?_⟩
   cases b
   ·exact ov hn (h.rev _ _) _ _
   ·exact h
  ·exact ov hn h _ _
theorem uW(h:tT n p)(k:Nat):∀(f l r:Nat),mw n (λ_=>True)<|kas_place p k f l r
 |0,l,r=>trivial
 |f+1,l,r=>by
  show mw n _<|if l≥r then KasT.ret l else _;split
  ·exact trivial
  ·refine⟨h.getD hn _,h.getD hn _,λb=>?_⟩
   cases b<;> exact uW h k f _ _
theorem B3:∀(f:Nat) {p:Array Nat} (h:tT n p) (k:Nat),mw n (tT n)<|kas_bin f p k
 |0,p,h,k=>h
 |f+1,p,h,k=>mw.bind (λl _=>B3 f (h.bub _ _) _)<|uW hn h k _ _ _
theorem oU:mw n (tT n)<|kas_sort n:=by
 refine mw.bind (λr h=>?_)<|DY hn (Array.Perm.refl _) n;split
 ·exact B3 hn _ h _
 ·exact h
end
def i8 (p:List<|Int×Int)(h:0<p.length):(iY p).Perm<|List.range p.length:=by have:=(oU h).run (c:=λi j=>ed (p.getD i (0,0))<|p.getD j (0,0));exact Array.perm_iff_toList_perm.mp this
def tU {C:Prop}{v:V}{r:List V}{p:List<|Int×Int}(h:dO (v::r)=some p)(k:∀a b q,v=.t [.i a,.i b]->dO r=some q->p=(a,b)::q->C):C:=
 ym h λl e c=>by
 subst e;cases l with |nil=>exact cQ c|cons x l=>cases l with |nil=>exact cQ c|cons y l=>cases l with |cons=>exact cQ c|nil=>exact bH c λa d h=>bH h λb f h=>(YR.mp h).elim λq h=>k a b q (aa d<|aa f rfl) h.1 h.2.symm
def rh {k:List V}:∀{p:List<|Int×Int},dO k=some p->k.length=p.length:=by
 induction k with
 |nil=>intro p h;obtain rfl:=aA h;rfl
 |cons v r i=>intro p h;exact tU h λa b q _ c e=>e▸Xy (·+1) (i c)
theorem oV:∀{k:List V}{p:List<|Int×Int},dO k=some p->∀{i:Nat},i<k.length->k[i]?=some (.t [.i (p.getD i (0,0)).1,.i (p.getD i (0,0)).2])
 | [],p,h,i,c=>Xv c<|aaa i
 |v::r,p,h,i,c=>tU h λa b q d f e=>by
  clear h;subst e d;cases i with
  |zero=>rfl
  |succ i=>exact oV f (i:=i)<|Nat.lt_of_succ_lt_succ c
section
variable{prog:Program}{w:World}{A:Around}
def I1 (l:s.heap.get? x=some o)(i:o.data=.seq #[.int a q,.int b r] n)
  (m:s.heap.get? y=some p) (j:p.data=.seq #[.int c u,.int d v] k) (h:∀t,Q (ed (a,b) (c,d)) {s with toks:=t}):wpAny (model prog w) A (keyLt' (tuples' true) (.ref x)<|.ref y) Q E s:=by
 refine kat_lt l i m j<|kat_cons<|wpAny_eqBool_int ?_;by_cases e:a=c
 ·subst e
  rw[Zf];refine kat_yes<|kat_cons<|wpAny_eqBool_int ?_;by_cases f:b=d
  ·subst f
   rw[Zf];refine kat_yes<|kat_nil ?_;have:ed (a,b) (a,b)=false:=by simp[ed]
   have g:=h s.toks;rw[this]at g;exact g
  ·refine aa (show(b==d)=false from Yn.mpr f)<|kat_no<|kat_one _ _<|lt_int ?_
   have:ed (a,b) (a,d)=decide (b<d):=by simp[ed]
   show Q (decide (b<d)) _;exact dG this<|h s.toks
 ·refine aa (show(a==c)=false from Yn.mpr e)<|kat_no<|oneLt_int ?_
  have:ed (a,b) (c,d)=decide (a<c):=by simp[ed,e]
  exact dG this<|h s.toks
end
section
variable{P:bi}{cl:Cl}{A:Around}{env:Env}{Xp:Heap}{L:Addr}{m:Str->Option Value}{Γ:NC}(X:EX P cl A env Xp L m Γ)
include X
theorem vA(ha:aq P cl A env Xp L m Γ (.Name x p) ma)(n:aq P cl A env Xp L m Γ hi t):
  aq P cl A env Xp L m Γ (.Subscript (.Name x p) (.Slice none (some hi) none sp) pos) (.Y ma t):=
 λρ N H s l v H' S Lo h Q E c=>cps λC kC=>aE h λx1 H1 h1 h=>aE h λx2 H2 Y h=>fO h λr M h=>bH h λj O h=>TM h λk hk h=>cv h λb h=>aQ h λR T=>by
 clear h;clear h;clear h;clear h;clear h;clear h;clear h;subst M O R T;refine kC ?_;simp only[Xu,gY,Ym]at b;have b:=b;refine Subscript_<|ha S Lo h1 λu1 s1 ρ1 N1 J u y=>wpAny_Slice<|evalPart_none_step<|lW n J (Lo.ext u) Y λu2 D ρ2 N2 a w B=>evalPart_none_step ?_;have f:=y.XW w;refine ag f λd hd i=>?_;clear y f;subst i;refine Xs B λt2 i=>?_;clear B;subst i;refine iv (a.rep.2 _ _ _ hd hk) λ_ F hl g=>?_;have q:D.heap.IsList d.1 F.toList.toArray:=by exact aa Array.toArray_toList<|hl.at λo e=>a.F.keep _ _<|a.old _ _ e
 have U:=g.length;refine slice_list a.F a.g q .none (.int j t2) (λW G I=>?_) (by with_unfolding_all rfl) (by intro _;with_unfolding_all rfl) (by refine aa Y8<|aa U<|aa sizeLine_eq ?_;have:=b.2;exact Xz b.2<|Yb rfl)
 have hw:=slice_ints_uptoW g b.1.1;have z:=a.alloc (s':={D with heap:=W}) (le_succ _) G I (ao:=.l<|(k.take j.toNat).map V.i) ⟨rfl,(slicePick F.toList.toArray none (some j) none).toList,0,by refine aa Array.toArray_toList ?_;exact .head _,XI.ofInts hw⟩;exact c _ _ _ _ z.1 ((u.trans w).trans z.2) ⟨_,a.last _,rfl⟩
theorem Iz(q:x=S2 t)(r:y=S2 a)(b:t≠a):
  aq P cl A env Xp L m Γ (.Dict [some<|.Constant (.str x) B p,some<|.Constant (.str y) C f] [.UnaryOp .USub (.Constant (.int i) D I) J,.UnaryOp .USub (.Constant (.int j) G M) O] pos) (.dS [t,a] [.i<|-i,.i<|-j]):=
 λR N H s l v u S Lo h Q E c=>by
 subst q r;cases h;refine Dict_made_str rfl S.F rfl rfl (List.cons_ne_nil _ _) (by simp) λF0=>pairTrees_cons_walk<|Constant_str<|UnaryOp_<|aad<|neg_int<|pairTrees_cons_walk<|Constant_str<|UnaryOp_<|aad<|neg_int<|pairTrees_nil_walk ?_;have d:=s.toks;have w:((strPairs [(Value.str (S2 t) d,Value.int (-i)<|d+1),(Value.str (S2 a) d,Value.int (-j) d)]).map (·.1)).Nodup:=by
  show [S2 t,S2 a].Nodup;simp only[Yc,mem_singleton,XZ,not_false_eq_true,nodup_nil,and_true]
  exactλe=>b<|p0 e
 refine made_str S.F S.g rfl (by
  show [S2 t,S2 a].Nodup;simp only[Yc,mem_singleton,XZ,not_false_eq_true,nodup_nil,and_true]
  exactλe=>b<|p0 e) λk o F g n=>?_
 have z:=S.alloc (s':={s with heap:=k}) (XH _) F g (ao:=.dS [(t,.i<|-i),(a,.i<|-j)]) ⟨rfl,o,_,.head _,n,_,_,rfl,⟨_,rfl⟩,_,_,rfl,⟨_,rfl⟩,rfl⟩;exact c _ _ _ _ (z.1.toks _) z.2 ⟨_,S.last _,rfl⟩
theorem yb{e:Expr}{me:ME}{p pos:Pos}(hx:hF "sorted" Γ=true)(hs:au e=true)(he:aq P cl A env Xp L m Γ e me):aq P cl A env Xp L m Γ (.Call (.Name "sorted" p) [e] [] pos)<|.k me:=
 λρ N H s l v H' S Lo h Q E c=>cps λC B=>aE h λx H1 h1 h=>fO h λr e0 h=>se h λk hk h=>iM h λg hps h=>cv h λO h=>aQ h λe1 e2=>by
 subst e0 e1 e2;refine B ?_;simp only[Xu,Ym]at O;have O:=O;refine SV X (id:="sorted") hx (by decide+kernel) (by decide+kernel) (by decide+kernel) hs he S Lo h1 λu s1 I N1 J E1 V1=>cps λC B=>ag V1 λd hd b=>?_;subst b;refine bN (J.rep.2 _ _ _ hd hk) λ_ vs n hm hv=>?_;have R:=rh hps;have w:=hv.length;have len:vs.length=g.length:=w.trans R;refine B<|kat_sorted J.F J.g (fC J.g hm) (ba 0x4d90441e6c400f362038209844d0cb1b tq O w R) (ba 0x101c098441a6c400d362038219844d04b1b tq O w R) λD e1 h' F' N' hlt=>?_;have y:∀i,i<g.length->∃a G q,vs.getD i Value.none=.ref a/\(a,i6 G q)∈N1/\∃t1 t2,G=[.int (g.getD i (0,0)).1 t1,.int (g.getD i (0,0)).2 t2]:=λi F=>by have e1:=oV hps (i:=i)<|yp F R;refine cps λC B=>ag (hv.get e1) λu hu hz=>?_;obtain⟨a,G,q,rfl,T,_,w1,r1,rfl,⟨t1,rfl⟩,w2,r2,rfl,⟨t2,rfl⟩,rfl⟩:=hz;refine B<|⟨a,_,q,?_,T,t1,t2,rfl⟩;simp only[Yr,hu,Option.getD_some]
 have kt:∀(G:List Value),(∀u∈G,∃i,i<g.length/\u=vs.getD i Value.none)->∃fs,KatTups h' G fs/\fs.length=G.length/\∀f∈fs,∃(i:Int) (t:Tok),f=Value.int i t:=by
  intro G;induction G with
  |nil=>exactλ_=>⟨[],.nil,rfl,λ_ h=>Xv h XZ⟩
  |cons u G ih=>
   intro hu;refine cps λC B=>aj (ih λv hv=>hu v<|.tail _ hv) λfs h1 h2 h3=>ag (hu u<|.head _) λi F b=>?_;subst b;refine pU (y i F) λa ws q e2 T t1 t2 b=>?_;subst b;refine B<|aa e2<|⟨_::fs,.cons (N' _<|.tail _ T).1 rfl rfl rfl h1,by simp[h2],λf hf=>?_⟩;rcases XD.mp hf with rfl|hf
   ·exact⟨_,_,rfl⟩
   ·exact h3 f hf
 refine cps λC B=>?_;obtain⟨fs,hk1,hk2,hk3⟩:=kt vs λu hu=>by obtain⟨i,F,e⟩:=List.getElem_of_mem hu;exact⟨i,Hh F w R,by simp[Yr,XQ F,e]⟩
 refine B<|kat_kind (T:=.type "int") hk1 (ow 0x1b308c3cd8c41e6c400f362038209844d0cb1b tq O hk2 w R) (λf hf=>?_) (rfl) ?_
 ·refine cV (hk3 f hf) λi t b=>?_;subst b
  exact Looks.of_pure rfl
 have ne:(Value.type "int" !=Value.type "tuple")=true:=rfl;refine aa ne<|aa len ?_;have S':St P Xp L m I N1 H1 {s1 with heap:=h'}:=J.same F' λp o=>N' p<|.tail _ o;refine mw.wp (n:=g.length) (P:=tT g.length) (c:=λi j=>ed (g.getD i (0,0))<|g.getD j (0,0)) (J:=λs'=>∃tk,s'={s1 with heap:=h',toks:=tk}) (λi j C s' F hj Y hC=>?_) (oU<|Ll O) ⟨_,rfl⟩ λs' Y=>?_
 ·refine Xs Y λtk b=>?_;subst b
  refine cps λC B=>pU (y i F) λa1 us1 q1 e1 m1 t1 t1' b=>?_;subst b;refine pU (y j hj) λa2 us2 q2 e2 m2 t2 t2' b=>?_;subst b;refine B ?_;unfold kas_ask;exact aa e1<|aa e2<|I1 (s:={s1 with heap:=h',toks:=tk}) (N' _<|.tail _ m1).1 rfl (N' _<|.tail _ m2).1 rfl λtk'=>hC _ ⟨tk',rfl⟩
 ·refine Xs Y λtk b=>?_;subst b
  have hD:D∉N1.map (·.1):=λhm=>by exact ag (XN.mp hm) λp o e=>lt_irrefl _<|e▸hlt p o
  refine KasFin.intro (s:={s1 with heap:=h',toks:=tk}) F' N' (.head λp o e=>hD<|XN.mpr ⟨p,o,e⟩) λh2 M F2 N2=>?_;have hno:¬own I D:=J.Z6 (λp o e=>hD<|XN.mpr ⟨p,o,e⟩) (N2 _<|.head _).2.2;have U:=i8 g<|Ll O;have hin:∀i∈iY g,i<k.length:=λi F=>by have:=U.mem_iff.mp F;refine aa R ?_;simpa using this
  have E0:a5 aO I N1 (I++[(D,D)])<|(D,W.listOf (List.toArray<|(iY g).map λi=>vs.getD i Value.none) M)::N1:=a5.app (λ_ o=>.tail _ o) λp o=>⟨sH hD p o,sH hD p o⟩;have z:=J.abc (s':={s1 with heap:=h2,toks:=tk}) hno hD F2 N2 (ao:=.l<|(iY g).map λi=>k.getD i .n) ⟨rfl,_,M,.head _,(hv.pick _ hin).XW E0⟩;exact c _ _ _ _ z.1 (E1.trans z.2) ⟨_,J.last _,rfl⟩
end
structure j8(ρ:Yp)(N:Led)(Zr:Yp)(N':Led):Prop where
 pre:∃t,Zr=ρ++t
 keep:∀a vs n,(a,i6 vs n)∈N->¬own ρ a->(a,i6 vs n)∈N'/\¬own Zr a
def j8.get {b a:Yp}{N d:Led}(x:j8 b N a d){i:Nat}{c:Addr×Addr}(h:b[i]?=some c):a[i]?=some c:=by
 refine Xs x.pre λt e=>?_;clear x;subst e;rw[Yg]
 ·exact h
 ·exact(Yo.mp h).1
def a5.toT (x:a5 aO d N b N'):j8 d N b N':=⟨x.pre,λa v n h c=>⟨x.keep _ h c id,x.apart _ h c⟩⟩
section
variable{ρ Zr:Yp}{N N':Led}(x:j8 ρ N Zr N')
include x
mutual
theorem b0.Yk:∀{v:V}{u:Value},b0 ρ N v u->b0 Zr N' v u
 | .n,_,h=>h
 | .b _,_,h=>h
 | .i _,_,h=>h
 | .s _,_,h=>h
 | .t l,_,h=>by exact cps λC k=>cG h λa j n e g i f=>XE (λh1 b=>(k<|⟨a,j,n,e,h1,b,XI.Yk f⟩))<|x.keep _ _ _ g i
 | .r _,_,h=>by exact ag h λc d e=>⟨c,x.get d,e⟩
theorem XI.Yk:∀{v:List V}{u:List Value},XI ρ N v u->XI Zr N' v u
 | [],_,h=>h
 |v::l,_,h=>by exact cps λC k=>am h λb r e h1 a=>k<|⟨b,r,e,b0.Yk h1,XI.Yk a⟩
end
theorem FN.Yk{l:List<|Nat×V}:∀{es:List DictEntry},FN names ρ N l es->FN names Zr N' l es:=by
 induction l with
 |nil=>exact id
 |cons p l i=>exactλh=>iz h λe r a b d c=>⟨e,r,a,b,d.Yk x,i c⟩
theorem xg.Yk{l:List<|List Nat×V}:∀{es:List<|Str×Value},xg ρ N l es->xg Zr N' l es:=by
 induction l with
 |nil=>exact id
 |cons p l i=>exactλh=>am h λe r a c b=>⟨e,r,a,c.Yk x,i b⟩
theorem uz.Yk{l:List<|Int×V}:∀{es:List<|Int×Value},uz ρ N l es->uz Zr N' l es:=by
 induction l with
 |nil=>exact id
 |cons p l i=>exactλh=>am h λe r a c b=>⟨e,r,a,c.Yk x,i b⟩
theorem yZ.Yk(k:∀p∈N,p.1=c.1\/p.1=c.2->p∈N')(h:yZ P ρ N c o):yZ P Zr N' c o:=by
 cases o with
 |l l=>exact⟨h.1,h.2.imp λ_ h=>h.imp λ_ h=>⟨k _ h.1<|.inl rfl,h.2.Yk x⟩⟩
 |dS l=>exact⟨h.1,h.2.imp λ_ h=>h.imp λ_ h=>⟨k _ h.1<|.inl rfl,h.2.1,h.2.2.Yk x⟩⟩
 |dI l=>exact⟨h.1,h.2.imp λ_ h=>h.imp λ_ h=>⟨k _ h.1<|.inl rfl,h.2.1,h.2.2.Yk x⟩⟩
 |i c f=>exact⟨k _ h.1<|.inl rfl,h.2.imp λ_ h=>h.imp λ_ h=>⟨k _ h.1<|.inr rfl,h.2.1.Yk x,h.2.2⟩⟩
 |ro n=>exact h
end
def bC (o:Obj):Prop:=∀v n,o≠i6 v n
def bC.fields (h:o.data=.fields f):bC o:=λv n e=>by rw[e]at h;cases h
def bC.cls (h:o.cls≠.type "tuple"):bC o:=λv n e=>h<|aa e rfl
def bC.ns (h:NsObj o m):bC o:=λv n e=>by refine dH h λc b a _=>?_;rw[e]at a;cases a
def bC.cell (h:o.data=.cell v):bC o:=λa n e=>by rw[e]at h;cases h
noncomputable def but(I:Addr)(N:Led):Led:=N.filter λp=>decide (p.1≠I)
def fU {I:Addr}{N:Led}{p:Addr×Obj}:p∈but I N↔p∈N/\p.1≠I:=by simp[but]
def OE {I:Addr}{N:Led}(h:(N.map (·.1)).Nodup):((but I N).map (·.1)).Nodup:=List.Nodup.sublist (List.Sublist.map _ List.filter_sublist) h
def eT (f:(N.map (·.1)).Nodup)(b:(I,obj)∈N)(d:bC obj):j8 ρ N ρ<|rep1 I obj' N:=
 ⟨⟨[],by simp⟩,λa v n h c=>⟨aX h λe=>d v n<|eY f b (show(I,i6 v n)∈N by refine dG (show a=I from e) ?_;exact h),c⟩⟩
def jo {b:Yp}{N:Led}{I:Addr}{o:Obj}(g:(N.map (·.1)).Nodup)(c:(I,o)∈N)(f:bC o):j8 b N b<|but I N:=
 ⟨⟨[],by simp⟩,λa v n h d=>⟨fU.mpr ⟨h,λe=>f v n<|eY g c (show(I,i6 v n)∈N by refine dG (show a=I from e) ?_;exact h)⟩,d⟩⟩
section
variable{P:bi}{Xp:Heap}{L:Addr}{m m':Str->Option Value}{ρ:Yp}{N:Led}{H:Hp}{s s':Shared}
def St.acj (X:St P Xp L m ρ N H s)(l:(I,obj)∈N)(n:¬own ρ I)(t:bC obj)(f:Fr Xp L s'.heap m')(k:News Xp L s'.heap<|rep1 I a N)(d:s'.os=s.os/\s'.gens=s.gens:=by trivial):St P Xp L m' ρ (rep1 I a N) H s':=
 ⟨f,k,by rw[uN];exact X.j,⟨X.rep.1,λi c o b h=>(X.rep.2 i c o b h).Yk (eT X.j l t) λp r e=>aX r λq=>n (by
  rcases e with e|e
  ·refine dG q<|aa e ?_;exact(dj b).1
  ·refine dG q<|aa e ?_;exact(dj b).2)⟩,X.sep,X.old,⟨d.1.trans X.env.1,d.2.trans X.env.2⟩⟩
def St.abz (X:St P Xp L m ρ N H s){I:Addr}{a:Obj}(l:(I,a)∈N)(n:¬own ρ I)(t:bC a)(f:Fr Xp L s'.heap m')(k:News Xp L s'.heap<|but I N)(d:s'.os=s.os/\s'.gens=s.gens:=by trivial):St P Xp L m' ρ (but I N) H s':=
 ⟨f,k,OE X.j,⟨X.rep.1,λi c o b h=>(X.rep.2 i c o b h).Yk (jo X.j l t) λp r e=>fU.mpr ⟨r,λq=>n (by
  rcases e with e|e
  ·refine dG q<|aa e ?_;exact(dj b).1
  ·refine dG q<|aa e ?_;exact(dj b).2)⟩⟩,X.sep,X.old,⟨d.1.trans X.env.1,d.2.trans X.env.2⟩⟩
def wN (F:Fr Xp L h m)(d:∀b o,b≠I->h.get? b=some o->a.get? b=some o)(hL:I≠L)(hI:Xp.get? I=none):Fr Xp L a m:=
 fr_but F (λb o c e=>d b o (by simpa using c) e) (X1 hL) hI
def qg (c:News Xp L h N)(k:(I,obj)∈N)(j:∀b o,b≠I->h.get? b=some o->f.get? b=some o)(i:f.get? I=some a):News Xp L f<|rep1 I a N:=λp d=>by
 refine ag (XN.mp d) λq g e=>?_;by_cases hI:q.1=I
 ·simp only[hI,if_true]at e
  clear d;subst e;exact⟨i,(c _ k).2⟩
 ·simp only[hI,if_false]at e
  clear d;subst e;exact⟨j _ _ hI (c _ g).1,(c _ g).2⟩
def Hb {h c:Heap}{I:Addr}(a:News Xp L h N)(e:∀b o,b≠I->h.get? b=some o->c.get? b=some o):News Xp L c<|but I N:=λp f=>by exact XE (λh1 d=>(⟨e _ _ d (a _ h1).1,(a _ h1).2⟩))<|fU.mp f
def St.turned (X:St P Xp L m ρ N H s)(h:(I,obj)∈N)(f:¬own ρ I)(i:bC obj)(d:∀b o,b≠I->s.heap.get? b=some o->c.get? b=some o)(e:c.get? I=some a):
  St P Xp L m ρ (rep1 I a N) H {s with heap:=c,toks:=tk}:=
 X.acj (s':={s with heap:=c,toks:=tk}) h f i (wN X.F d (X.g _ h).2.1 (X.g _ h).2.2) (qg X.g h d e)
def St.gone (X:St P Xp L m ρ N H s){I:Addr}{a:Obj}{h:Heap}{tk:Nat}(c:(I,a)∈N)(e:¬own ρ I)(f:bC a)(d:∀b o,b≠I->s.heap.get? b=some o->h.get? b=some o):
  St P Xp L m ρ (but I N) H {s with heap:=h,toks:=tk}:=
 X.abz (s':={s with heap:=h,toks:=tk}) c e f (wN X.F d (X.g _ c).2.1 (X.g _ c).2.2) (Hb X.g d)
def St.adopt (X:St P Xp L m ρ N H s)(k:(D,o)∈N)(b:¬own ρ D)(p:bC o)(hO:j8 ρ N (ρ++[(D,D)]) N->yZ P (ρ++[(D,D)]) N (D,D) ao):
  St P Xp L m (ρ++[(D,D)]) N (H++[ao]) s/\j8 ρ N (ρ++[(D,D)]) N:=by
 have E:j8 ρ N (ρ++[(D,D)]) N:=⟨⟨_,rfl⟩,λa v n h f=>⟨h,λd=>(rI d).elim f λe=>by clear d hO f b;obtain rfl:a=D:=e.elim id id;exact p v n<|eY X.j k h⟩⟩
 exact⟨⟨X.F,X.g,X.j,X.rep.app (λi c r _ q=>q.Yk E λ_ l _=>l)<|hO E,X.sep.app b b,X.old,X.env⟩,E⟩
end
def a5.rep1 (E:a5 aO e N a b)(h:∀p∈N,p.1≠I):a5 aO e N a<|rep1 I o b:=⟨E.pre,λp c d _=>aX (E.keep p c d id)<|h p c,E.apart⟩
def a5.but {d a:Yp}{N b:Led}(E:a5 aO d N a b){I:Addr}(h:∀p∈N,p.1≠I):a5 aO d N a<|but I b:=⟨E.pre,λp c e _=>fU.mpr ⟨E.keep p c e id,h p c⟩,E.apart⟩
def a5.aea (E:a5 aO f N a aeb)(h:∀p∈N,p.1≠D):a5 aO f N (a++[(D,D)]) aeb:=by exact Xs E.pre λt e=>⟨⟨t++[(D,D)],by rw[e,XM]⟩,E.keep,λp b d c=>(rI c).elim (E.apart p b d) λe=>h p b<|e.elim id id⟩
def mW (P:bi)(A:Around)(e:Heap)(L:Addr)(c:Yp)(d:Led)(I:Addr)(k:Nat->Obj->Prop)(l:Hp->Bool)(g:List V):Prop:=
 ∀⦃m:Str->Option Value⦄ ⦃j:Yp⦄ ⦃N:Led⦄ ⦃H:Hp⦄ ⦃s:Shared⦄ ⦃i:Nat⦄ ⦃f:Obj⦄,St P e L m j N H s->j8 c d j N->(I,f)∈N->k i f->l H=true->i<=g.length->∀⦃Q:Option Value->Shared->Prop⦄ ⦃E:Value->Shared->Prop⦄,
  (∀v u a h t,g[i]?=some v->b0 j N v u->k (i+1) a->(∀b o,b≠I->s.heap.get? b=some o->h.get? b=some o)->h.get? I=some a->Q (some u) {s with heap:=h,toks:=t})->
  (∀h t,i=g.length->(∀b o,b≠I->s.heap.get? b=some o->h.get? b=some o)->Q none {s with heap:=h,toks:=t})->wpAny (model P.p P.w) A (pyNext<|.ref I) Q E s
section
variable{P:bi}{A:Around}{Xp:Heap}{L:Addr}{ρ₀:Yp}{N₀:Led}
def xF (h:a3 a v H=true):H[a]?=some (.l v):=by
 unfold a3 at h;cases e:H[a]? with
 |none=>rw[e]at h;exact eH h nt
 |some o=>
  rw[e]at h;clear e;cases o with
  |l k=>exact aa (aai (v:=k) h) rfl
  |_=>exact eH h nt
def uY (D:A.handled=none){I:Addr}{a:Nat}{c:Addr×Addr}{vs:List V}(z:ρ₀[a]?=some c)(hI:c.1≠I):mW P A Xp L ρ₀ N₀ I (λi o=>o.cls=.type "list_iterator"/\o.data=.fields #[.ref c.1,.int i 0]) (a3 a vs) vs:=
 λm X N H s i r S E G J F v Q U R T=>by
 refine bN (S.rep.2 _ _ _ (E.get z)<|xF F) λ_ W n l x=>?_;have w:=fC S.g l;have d:s.heap.IsListIter I c.1 i:=⟨r,(S.g _ G).1,J⟩;have y:=x.length;by_cases h:i<vs.length
 ·have t:vs[i]?=some vs[i]:=XQ h
  exact ag (x.get t) λu M O=>wpAny_pyNext_list_item d w (x:=u) (by simpa using M) λj f q=>ag f λg C p=>R _ u g j s.toks t O p (λb o k e=>q.extBut b o k e) C
 ·exact wpAny_pyNext_list_end D d w (by simp[y];exact aI 0x1048010db600825b tq v h) λj B=>T j s.toks (Y0 (kA v)<|wx h) λb o k e=>B b o k e
def EY (J:A.handled=none){I t:Addr}{vs:List V}{g:List Value}{n:Nat}(T:(t,i6 g n)∈N₀)(R:¬own ρ₀ t)(U:XI ρ₀ N₀ vs g)(hI:t≠I):mW P A Xp L ρ₀ N₀ I (λi o=>o.cls=.type "tuple_iterator"/\o.data=.fields #[.ref t,.int i 0]) (λ_=>true) vs:=
 λm ρ N H s i q S E M l hk B Q E' Y k2=>by
 have C:=jT S.g (E.keep _ _ _ T R).1;have d:=U.Yk E;have y:=d.length;have W:=Walks.tuple (prog:=P.p) (w:=P.w) J I t hI g.toArray;have c:s.heap.IsTupleIter I t i:=⟨q,(S.g _ M).1,l⟩;by_cases h:i<vs.length
 ·have z:vs[i]?=some vs[i]:=XQ h
  refine ag (d.get z) λu D X=>W.item i s _ _ (by simp[y];exact h) ⟨c,C⟩ λv j w F r a=>ag r.1 λf G p=>?_;have:v=u:=by
   have x:g[i]?=some v:=by simpa using F
   rw[D]at x;exact(Zd x).symm
  clear D;subst this;exact Y _ v f j w z X p (λb o k e=>a b o (by simpa using k) e) G
 ·have O:i=g.toArray.size:=by simp[y];exact Y0 (kA B)<|wx h
  refine W.done s _ _ (O▸⟨c,C⟩) λj w a=>k2 j w (Y0 (kA B)<|wx h) λb o k e=>a b o (by simpa using k) e
end
theorem xY:∀(n:Nat) (a s:Int) (i:Nat),i<n->(bS a n s)[i]?=some (.i<|a+i*s)
 |0,_,_,i,h=>Xv h<|aaa _
 |n+1,a,s,0,_=>by simp[oK]
 |n+1,a,s,i+1,h=>by
  have:=xY n (a+s) s i<|Zy ‹_›;simp[oK,this];rw[Zg];congr 1
  push_cast
  rw[Int.add_mul,Int.one_mul];exact Int.add_comm _ _
theorem lh:∀(n:Nat) (a s:Int),(bS a n s).length=n
 |0,_,_=>rfl
 |n+1,a,s=>by simp[oK,lh n]
section
variable{P:bi}{A:Around}{Xp:Heap}{L:Addr}{ρ₀:Yp}{N₀:Led}
def qy {I:Addr}{n:Nat}{x:Nat->Value->Prop}{St:Nat->Heap->Prop}{vs:List V}(W:Walks P.p P.w A I [I] [I] n x St)(g:vs.length=n)(J:∀i v u B N,vs[i]?=some v->x i u->b0 B N v u)
  (q:Nat->Obj->Prop) (h1:∀i (h:Heap) o,h.get? I=some o->q i o->St i h) (C:∀i h,St i h->∃o,h.get? I=some o/\q i o):mW P A Xp L ρ₀ N₀ I q (λ_=>true) vs:=
 λm B N H s i r S E G l T z Q R M O=>by
 have d:=h1 i s.heap r (S.g _ G).1 l;by_cases c:i<vs.length
 ·have y:vs[i]?=some vs[i]:=XQ c
  exact W.item i s _ _ (ba 0x2098441a6c4004b620067b tq c z g) d λv j w D t a=>ag (C _ _ t) λf F p=>M _ v f j w y (J _ _ _ _ _ y D) p (λb o k e=>a b o (by simpa using k) e) F
 ·have g:i=n:=(Y0 z<|ZZ c).trans g
  refine W.done s _ _ (g▸d) λj w a=>O j w (Gb ‹_› ‹_›) λb o k e=>a b o (by simpa using k) e
def Gs (P:bi)(A:Around)(I:Addr)(a:Nat->Obj->Prop):Prop:=∀(i:Nat) (o:Obj) (s:Shared) (Q E:Value->Shared->Prop),s.heap.get? I=some o->a i o->Q (.ref I) s->wpAny (model P.p P.w) A (pyIter<|.ref I) Q E s
def jX (P:bi)(A:Around)(Xp:Heap)(L:Addr)(m:Str->Option Value)(c:Yp)(N:Led)(H:Hp)(d:Hp->Bool)(v:List V)(Q:Value->Shared->Prop):Prop:=
 ∀I a s b,St P Xp L m c ((I,a)::N) H s->(∀p∈N,p.1≠I)->¬own c I->b 0 a->mW P A Xp L c N I b d v->(∀i o,b i o->∃f,o.data=.fields f)->Gs P A I b->Q (.ref I) s
variable{m:Str->Option Value}{ρ:Yp}{N:Led}{H:Hp}{s:Shared}{E:Value->Shared->Prop}
def St.Zl (S:St P Xp L m ρ N H s)(o)(h:o.isFreed=false:=by trivial):
  St P Xp L m ρ ((s.heap.objs.size,o)::N) H {s with heap:=s.heap.push o}/\(∀p∈N,p.1≠s.heap.objs.size)/\¬own ρ s.heap.objs.size:=
 ⟨S.push (s':={s with heap:=s.heap.push o}) (XH _) (S.F.push o)<|S.g.push S.F o h,λp a=>Yy<|YC (S.g p a).1,(S.YW (o:=o)<|XH _).2⟩
def G4 (I:A.handled=none)(S:St P Xp L m ρ N H s){v:V}{u:Value}(w:b0 ρ N v u){T:List V}{g:Option Nat}(h:rc H v=some (T,g)){Q:Value->Shared->Prop}(k:jX P A Xp L m ρ N H (ju g T) T Q):
  wpAny (model P.p P.w) A (pyIter u) Q E s:=by
 refine cps λC M=>?_;cases v with
 |t l=>cases h;refine cG w λa Y n f p y J=>?_;clear w;subst f;exact bX (S.Zl {cls:=.type "tuple_iterator",data:=.fields #[.ref a,.int 0 0]}) λz d x=>M<|wpAny_pyIter_tuple (jT S.g p)<|k _ _ _ (λi o=>o.cls=.type "tuple_iterator"/\o.data=.fields #[.ref a,.int i 0]) z d x ⟨rfl,rfl⟩ (EY I p y J<|d _ p) (λi o h=>⟨_,h.2⟩) λi o O Q E j b q=>wpAny_pyIter_tupleiter (i:=i) ⟨o,j,b⟩ q
 |s t=>
  cases h;refine Xs w λF f=>?_;clear w;subst f;refine bX (S.Zl {cls:=.type<|strIterType<|S2 t,data:=.fields #[.str (S2 t) F,.int 0 0]}) λz d x=>?_;have B:(t.map λc=>V.s [c]).length=(S2 t).cps.size:=by simp[S2]
  have D:∀(i:Nat) (v:V) (u:Value) (ρ:Yp) (N:Led),(t.map λc=>V.s [c])[i]?=some v->SignAt (S2 t) i u->b0 ρ N v u:=λi v u ρ N e W=>by
   refine dH W λc q G f=>?_;clear W;subst f;rw[Zt]at e;have e:=e;have:t[i]?=some c:=by simpa [S2]using G
   rw[this]at e;have e:=e;cases e;exact⟨q,rfl⟩
  refine M<|wpAny_pyIter_strU ?_;by_cases U:(S2 t).cps.all (·<128)=true
  ·have e:strIterType (S2 t)="str_ascii_iterator":=by unfold strIterType;exact aa (Xr U) rfl
   rw[e]at z⊢;exact k _ _ _ (λi o=>o.cls=.type "str_ascii_iterator"/\o.data=.fields #[.str (S2 t) F,.int i 0]) z d x ⟨rfl,rfl⟩ (qy (Walks.strAscii I _ (S2 t) F) B D _ (λi h o y b=>⟨o,y,b⟩) λi h R=>R) (λi o h=>⟨_,h.2⟩) λi o O Q E j b q=>wpAny_pyIter_striter_ascii (i:=i) ⟨o,j,b⟩ q
  ·have e:strIterType (S2 t)="str_iterator":=by unfold strIterType;exact aa (Xq U) rfl
   rw[e]at z⊢;exact k _ _ _ (λi o=>o.cls=.type "str_iterator"/\o.data=.fields #[.str (S2 t) F,.int i 0]) z d x ⟨rfl,rfl⟩ (qy (Walks.strWide I _ (S2 t) F) B D _ (λi h o y b=>⟨o,y,b⟩) λi h R=>R) (λi o h=>⟨_,h.2⟩) λi o O Q E j b q=>wpAny_pyIter_striter_wide (i:=i) ⟨o,j,b⟩ q
 |r a=>refine se h λl J h=>cv h λ_ h=>?_;cases h;refine ag w λc G f=>?_;clear w;subst f;exact bN (S.rep.2 _ _ _ G J) λ_ Y n p X=>bX (S.Zl {cls:=.type "list_iterator",data:=.fields #[.ref c.1,.int 0 0]}) λz d x=>M<|wpAny_pyIter_list (fC S.g p)<|k _ _ _ (λi o=>o.cls=.type "list_iterator"/\o.data=.fields #[.ref c.1,.int i 0]) z d x ⟨rfl,rfl⟩ (uY I G<|d _ p) (λi o h=>⟨_,h.2⟩) λi o O Q E j b q=>wpAny_pyIter_listiter (i:=i) ⟨o,j,b⟩ q
 |_=>exact cE h nt
end
section
variable{P:bi}{A:Around}{Xp:Heap}{L:Addr}{m:Str->Option Value}{ρ:Yp}{N:Led}{H:Hp}{s:Shared}{E:Value->Shared->Prop}
def Jo (b:IsRangeIter h I (a+(i:Nat)*c) ((n:Int)-(i:Nat)) c):∃o,h.get? I=some o/\o={cls:=.type "range_iterator",data:=.fields #[rawInt<|a+(i:Int)*c,rawInt<|(n:Int)-(i:Nat),rawInt c]}:=⟨_,b,rfl⟩
def tS (w:A.handled=none)(S:St P Xp L m ρ N H s){r:Addr}{a b c:Int}{t u v:Tok}{n:Nat}(y:IsRange s.heap r a b c t u v)(z:Builtin.Range.small a b c=true)(x:Builtin.Range.rangeSize a b c=(n:Int)){Q:Value->Shared->Prop}
  (k:jX P A Xp L m ρ N H (λ_=>true) (bS a n c) Q):wpAny (model P.p P.w) A (pyIter<|.ref r) Q E s:=by
 refine wpAny_pyIter_range y z<|aa x<|bX (S.Zl {cls:=.type "range_iterator",data:=.fields #[rawInt a,rawInt (n:Int),rawInt c]}) λC D F=>k _ _ _ (λi o=>o={cls:=.type "range_iterator",data:=.fields #[rawInt<|a+(i:Int)*c,rawInt<|(n:Int)-(i:Nat),rawInt c]}) C D F ?_ ?_ (λi o h=>⟨_,Xy Obj.data h⟩) λi o G Q E g d q=>wpAny_pyIter_rangeiter (by rw[d]at g;exact g) q
 ·show _=_
  simp
 refine qy (Walks.range w _ a c n) (lh _ _ _) (λi v u ρ N e f=>?_) _ (λi h o l d=>?_) λi h B=>Jo B
 ·refine Xs f λt p=>?_;clear f;subst p
  by_cases j:i<n
  ·rw[xY n a c i j]at e
   have e:=e;cases e;exact⟨t,rfl⟩
  ·rw[Z8<|by rw[lh];exact aI 0x8240086db tq j]at e
   exact cE e nt
 ·rw[d]at l
  exact l
def FV (U:A.handled=none)(R:g[a]?=some c)(hI:c.1≠I):
  mW P A Xp L g C I (λi o=>o.cls=.type "list_reverseiterator"/\o.data=.fields #[.ref c.1,rawInt<|(v.length:Int)-1-(i:Int)]) (a3 a v) v.reverse:=
 λm ρ N H s i y S E Y x X q Q E' M k2=>by
 rw[ZO]at q;refine bN (S.rep.2 _ _ _ (E.get R)<|xF X) λ_ j n w J=>?_;have F:=fC S.g w;have el:=J.length;have W:=Walks.listRev (prog:=P.p) (w:=P.w) U I c.1 hI j.toArray;have d:j.toArray.size=v.length:=by trivial
 have k:s.heap.IsRevIter I c.1<|(j.toArray.size:Int)-1-(i:Int):=⟨y,(S.g _ Y).1,x.1,by refine aa d ?_;exact x.2⟩;by_cases h:i<v.length
 ·refine W.item i s _ _ (ba 0x2098821e6c4004b620067b tq h q d) ⟨ba 0x1048410f3620067b tq h d,k,F⟩ λu r B O z f=>ag z.2.1 λp T l=>ag (J.get<|XQ (l:=v) (i:=v.length-1-i)<|UZ h) λu' G hz=>?_
  have:u=u':=by
   have D:j[j.toArray.size-1-i]?=some u:=by simpa using O
   rw[d,G]at D;exact(Zd D).symm
  clear G;subst this;rw[d]at l;exact M _ u p r B (by refine aa (List.getElem?_reverse h) ?_;exact XQ _:v.reverse[i]?=some (v[v.length-1-i]'(UZ h))) hz l (λb o t e=>f b o (by simpa using t) e) T
 ·have hn:i=j.toArray.size:=(Y0 q<|ZZ h).trans d.symm
  clear q h x M;subst hn;exact W.done s _ _ ⟨bB 0x12 tq,k,F⟩ λr B f=>k2 r B (by refine aa ZO ?_;exact aI 0x82810069b tq d) λb o t e=>f b o (by simpa using t) e
section
variable{cl:Cl}{env:Env}{Γ:NC}(X:EX P cl A env Xp L m Γ)
include X
theorem m7{e:Expr}{r:ME}{p g:Pos}(I:hF "range" Γ=true)(q:au e=true)(D:aq P cl A env Xp L m Γ e r){l:Lo}{n:Int}{i:Hp}(S:St P Xp L m ρ N H s)(Lo:rm env L m Γ.vars ρ N l)(h:ai cl l r H=some (.i n,i))(o:0<=n)(h1:n<=1000000)
  {Q:Value->Shared->Prop} (k:∀a c,a5 aO ρ N a c->jX P A Xp L m a c i (λ_=>true) (bS 0 n.toNat 1) Q):
  wpAny (model P.p P.w) A (eval (.Call (.Name "range" p) [e] [] g) env) (λO b=>wpAny (model P.p P.w) A (pyIter O) Q E b) E s:=by
 obtain⟨z,B⟩:=kJ I;refine Call_ (sP X S B (by decide+kernel) (X.a.b _ z) (v:=.type "range") (by decide+kernel) (by decide+kernel) ?_) (by rfl);refine callWith_type1 (YD (D S Lo h λu J a c f y j=>args_nil ?_)<|ap q [] env) (ap q [] env) rfl;simp only[sY,sG,sS,qp,sz,sx]at j;obtain⟨t,rfl⟩:=j;refine range1_rows f.F f.g λC M v w x G F d R=>tS X.h (f.same (s':={J with heap:=C,toks:=M}) F d) G (small_one (by decide) (by decide) (Yi (by decide) o)<|aap h1<|by decide) ?_<|k _ _ y;unfold Builtin.Range.rangeSize;simp only[gt_iff_lt,show(0:Int)<1 by decide,if_true,Int.ediv_one];split
 ·exact WV o
 ·exact W4 ‹_›
theorem zN{e:Expr}{x:ME}{p o b c U W:Pos}{R T:Nat}(O:hF "range" Γ=true)(w:au e=true)(J:aq P cl A env Xp L m Γ e x){l:Lo}{n:Int}{r:Hp}(S:St P Xp L m ρ N H s)(Lo:rm env L m Γ.vars ρ N l)(h:ai cl l x H=some (.i n,r))(j:-1<=n)(h1:n<=1000000)
  {Q:Value->Shared->Prop} (k:∀a f,a5 aO ρ N a f->jX P A Xp L m a f r (λ_=>true) (bS n (n+1).toNat<|-1) Q):
  wpAny (model P.p P.w) A (eval (.Call (.Name "range" p) [e,.UnaryOp .USub (.Constant (.int 1) R b) c,.UnaryOp .USub (.Constant (.int 1) T U) W] [] o) env) (λxv d=>wpAny (model P.p P.w) A (pyIter xv) Q E d) E s:=by
 obtain⟨D,G⟩:=kJ O;refine Call_ (sP X S G (by decide+kernel) (X.a.b _ D) (v:=.type "range") (by decide+kernel) (by decide+kernel) ?_) (by rfl);refine callWith_type1 (YD (J S Lo h λu Y a f i C v=>YD (UnaryOp_<|aad<|neg_int<|YD (UnaryOp_<|aad<|neg_int<|args_nil ?_)<|ap rfl _ env)<|ap rfl _ env)<|ap w _ env) (ap w _ env) (oR rfl).1;simp only[sY,sG,sS,qp,sz,sx]at v;obtain⟨t,rfl⟩:=v;refine range3_rows (s:=_) (F:=i.F) (N:=i.g) (by decide) (λI tk y z B M F g hk=>?_) (Or.inl<|PyProof.noPylong_small<|by decide);have S2:=i.same (s':={Y with heap:=I,toks:=tk}) F g;refine tS (n:=(n+1).toNat) X.h S2 M ?_ ?_<|k _ _ C
 ·unfold Builtin.Range.small Builtin.Range.rangeSize
  simp only[Builtin.Range.rangeFitsLong,gt_iff_lt,Xu,YS,Ym,YF,show¬(0:Int)< -1 by decide,if_false,Int.neg_neg,Int.ediv_one];have q:=aap (aal h1 1) (by decide:(1000000+1:Int)<2 ^ 63);split
  ·exact VO (by decide) (by decide) j q
  ·exact Xl (by decide) (by decide) (by decide) j q
 ·unfold Builtin.Range.rangeSize
  simp only[gt_iff_lt,show¬(0:Int)< -1 by decide,if_false,Int.neg_neg,Int.ediv_one];split
  ·exact Wk j
  ·exact W9 ‹_›
theorem IU{e:Expr}{C:ME}{p w:Pos}(U:hF "reversed" Γ=true)(B:au e=true)(M:aq P cl A env Xp L m Γ e C){l:Lo}{r:Nat}{k:List V}{f:Hp}(S:St P Xp L m ρ N H s)(Lo:rm env L m Γ.vars ρ N l)(h:ai cl l C H=some (.r r,f))(R:f[r]?=some (.l k))
  {Q:Value->Shared->Prop} (W:∀a g,a5 aO ρ N a g->jX P A Xp L m a g f (a3 r k) k.reverse Q):
  wpAny (model P.p P.w) A (eval (.Call (.Name "reversed" p) [e] [] w) env) (λxv d=>wpAny (model P.p P.w) A (pyIter xv) Q E d) E s:=by
 refine XE (λG I=>Call_ (sP X S I (by decide+kernel) (X.a.b _ G) (v:=.type "reversed") (by decide+kernel) (by decide+kernel) ?_)<|by rfl)<|kJ U;refine callWith_type1 (YD (M S Lo h λu Y a g j F t=>args_nil ?_)<|ap B [] env) (ap B [] env) rfl;simp only[sY,sG,sS,qp,sz,sx]at t;refine ag t λc y J=>?_;clear t;subst J;refine bN (j.rep.2 _ _ _ y R) λ_ x n z T=>call_reversed_list (fC j.g z)<|bX (j.Zl<|revObj c.1<|(x.toArray.size:Int)-1) λz1 D z3=>?_;have b:(revObj c.1<|(x.toArray.size:Int)-1).cls=.type "list_reverseiterator"/\(revObj c.1<|(x.toArray.size:Int)-1).data=.fields #[.ref c.1,rawInt<|(k.length:Int)-1-((0:Nat):Int)]:=⟨rfl,by delta revObj;simp[T.length]⟩;refine wpAny_pyIter_revIter (i:=(k.length:Int)-1-((0:Nat):Int)) ⟨_,Heap.get?_push_size _ rfl,b⟩ ?_;exact W _ _ F _ _ _ _ z1 D z3 b (FV X.h y<|D _ z) (λi o h=>⟨_,h.2⟩) λi o Y Q E O v q=>wpAny_pyIter_revIter (i:=(k.length:Int)-1-(i:Int)) ⟨o,O,v⟩ q
theorem vJ{e:Expr}{i:ME}(o:aq P cl A env Xp L m Γ e i){l:Lo}{v:V}{f:List V}{g:Option Nat}{c:Hp}(S:St P Xp L m ρ N H s)(Lo:rm env L m Γ.vars ρ N l)(h:ai cl l i H=some (v,c))(p:rc c v=some (f,g))
  {Q:Value->Shared->Prop} (q:∀a d,a5 aO ρ N a d->jX P A Xp L m a d c (ju g f) f Q):
  wpAny (model P.p P.w) A (eval e env) (λx b=>wpAny (model P.p P.w) A (pyIter x) Q E b) E s:=
 o S Lo h λu r a d k j n=>G4 X.h k n p<|q _ _ j
end
end
section
variable{P:bi}{cl:Cl}{A:Around}{env:Env}{Xp:Heap}{L:Addr}{m:Str->Option Value}{Γ:NC}{ρ:Yp}{N:Led}{H H':Hp}{s:Shared}{E:Value->Shared->Prop}
def sO (P:bi)(A:Around)(Xp:Heap)(L:Addr)(m:Str->Option Value)(a:Env)(x:Str)(l:List Expr)(k:Expr)(g:Yp)(i:Led)(f:V->Hp->Option (Option V×Hp)):Prop:=
 ∀⦃ρ:Yp⦄ ⦃N:Led⦄ ⦃H:Hp⦄ ⦃s:Shared⦄ ⦃v:V⦄ ⦃u:Value⦄ ⦃t:Obj⦄ ⦃d:Str->Option Value⦄ ⦃r:Option V⦄ ⦃H':Hp⦄,St P Xp L m ρ N H s->a5 aO g i ρ N->(a.locals,t)∈N->¬own ρ a.locals->NsObj t d->d x=some u->b0 ρ N v u->f v H=some (r,H')->
  ∀(n:Value->Shared->Prop) (p:Shared->Prop) (q:Value->Shared->Prop),(∀j b h,St P Xp L m b h H' j->a5 aO ρ N b h->r=none->p j)->
   (∀y w j b h,St P Xp L m b h H' j->a5 aO ρ N b h->r=some y->b0 b h y w->q w j)->
   wpAny (model P.p P.w) A (forIn l true λc r=>if r=true then do let o<-isTrue c a (eval c a);pure (ForInStep.yield o)else pure<|ForInStep.yield r) (λo e=>
    if o=true then wpAny (model P.p P.w) A (eval k a) q n e else p e) n s
def uV (n:(N.map (·.1)).Nodup)(h:(a,o)∈N)(d:(b,f)∈N)(c:o≠f):a≠b:=λe=>by subst e;exact c<|eY n h d
def CQ {v:List V}{H:Hp}{r:List V×Hp}(h:cL f o v H=some r):o H=true:=by cases v<;> exact ut h λq _=>q
def CJ (P:bi)(Xp:Heap)(L:Addr)(m:Str->Option Value)(I D C:Addr)(h:Nat->Obj->Prop)(ρ:Yp)(N:Led)(f:V->Hp->Option (Option V×Hp))(j:Hp->Bool)(v p:List V)(H':Hp)(k:Nat)(l:Shared):Prop:=
 ∀G:Prop,(∀a b c i y x e o g d n,k=v.length+1-i->i<=v.length->St P Xp L m a b c l->a5 aO ρ N a b->(I,o)∈b->h i o->¬own a I->(C,g)∈b->NsObj g d->¬own a C->(D,W.listOf (List.toArray y) n)∈b->¬own a D->XI a b x y->
   cL f j (v.drop i) c=some (e,H')->p=x++e->G)->G
def CJ.mk {P:bi}{Xp:Heap}{L:Addr}{m:Str->Option Value}{I D C:Addr}{j:Nat->Obj->Prop}{ρ:Yp}{N:Led}{f:V->Hp->Option (Option V×Hp)}{n:Hp->Bool}{v xs:List V}{H':Hp}{s':Shared}{a:Yp}{b:Led}{c:Hp}{i:Nat}{ys:List Value}{xs0 x:List V}{o l:Obj}{d:Str->Option Value}{y:Nat}
 (r:i<=v.length) (S:St P Xp L m a b c s') (E:a5 aO ρ N a b) (w:(I,o)∈b) (h:j i o) (F:¬own a I) (t:(C,l)∈b) (z:NsObj l d) (g:¬own a C) (u:(D,W.listOf (List.toArray ys) y)∈b) (B:¬own a D) (q:XI a b xs0 ys)
 (p:cL f n (v.drop i) c=some (x,H')) (e:xs=xs0++x):CJ P Xp L m I D C j ρ N f n v xs H' (v.length+1-i) s':=λ_ k=>k _ _ _ _ _ _ _ _ _ _ _ rfl r S E w h F t z g u B q p e
def wY (e:k=n+1-i)(h:i+1<=n):n+1-(i+1)<k:=e▸Nat.sub_lt_sub_left (lt_succ_of_lt h) (Zp i)
def vy {a:List V}{i:Nat}{v:V}(h:a[i]?=some v):a.drop i=v::a.drop (i+1):=by exact aa (List.drop_eq_getElem_cons<|(Yo.mp h).1)<|aa ((Yo.mp h).2) rfl
def Ua (h:∀b:e->Shared->Prop,(∀a t,Q a t->b a t)->∀d,wpAny M A c b d s):wpAny M A c Q E s:=h Q (λ_ _ x=>x) E
def r9 {elt iter:Expr}{x:Str}{px:Pos}{ifs:List Expr}{scope:Scope}{cls:List<|Str×Addr}{pos:Pos}{I:Addr}{w:Obj}{io:Nat->Obj->Prop}{ok:Hp->Bool}{vs xs:List V}{f:V->Hp->Option (Option V×Hp)}{R:Value->Addr->Result->Shared->Prop}
  (S:St P Xp L m ρ ((I,w)::N) H s) (hIN:∀p∈N,p.1≠I) (hIo:¬own ρ I) (hio:io 0 w) (nx:mW P A Xp L ρ N I io ok vs) (hif:∀i o,io i o->∃fs,o.data=.fields fs) (aca:Gs P A I io)
  (acv:∀y∈scope.names,y.2≠.cell) (X:scope.kind=.function) (hx:scope.names.lookup x=some .local)
  (hcg:cL f ok vs H=some (xs,H')) (hxs:xs.length<=1000000)
  (body:∀C,sO P A Xp L m (compEnvC scope cls C env) x ifs elt ρ N f)
  (hRR:∀D C oC m' s' z N',St P Xp L m z N' (H'++[.l xs]) s'->a5 aO ρ N z N'->b0 z N' (.r H'.length) (.ref D)->(C,oC)∈N'->¬own z C->NsObj oC m'->(∀p∈N,p.1≠C)->R (.ref D) C (.ok .next) s'):
  wpAny (model P.p P.w) A (newList []) (λacc acw=>wpAny (model P.p P.w) A (newFunctionEnv scope env.globals cls [] env.qual none .none<|some env) (λacx aee=>
   codeAny (model P.p P.w) A (.compStart (.ListComp elt [⟨.Name x px,iter,ifs,0⟩] scope pos) 0 (.ref I) acc {acx with scope:=relabel scope env}) (R acc acx.locals) aee) E acw) E s:=by
 refine wpAny_newObj_type<|wpAny_newFunctionEnv acv (by intro y hy;simp at hy) (λj J q=>?_) X;have hC:(s.heap.push {cls:=.type "list",dict:=none,data:=.seq ([]:List Value).toArray}).objs.size=s.heap.objs.size+1:=by rw[Heap.size_push]
 generalize hH2:s.heap.push {cls:=.type "list",dict:=none,data:=.seq ([]:List Value).toArray}=H2 at J q hC⊢;have l:∀b,b<s.heap.objs.size->b≠H2.objs.size/\b≠s.heap.objs.size:=λb hb=>⟨by refine aa hC ?_;exact Yy<|lt_succ_of_lt hb,Yy hb⟩;have old:∀b o,s.heap.get? b=some o->j.get? b=some o:=λb o e=>q.extBut b o (l b<|YC e).1<|ZL _<|hH2▸ZL _ e;have T:s.heap.objs.size≠H2.objs.size:=by refine aa hC ?_;exact Yy<|Zp _
 have aef:j.get? s.heap.objs.size=some (W.listOf ([]:List Value).toArray 0):=q.extBut _ _ T<|ZL _<|hH2▸Heap.get?_push_size _ rfl;refine ag (ns_obj J) λacb hgC ack=>?_
 -- the adt state
 have acy:Xp.get? s.heap.objs.size=none:=aa8<|Xz S.F.above<|YU S.F.ns.lt;have acz:Xp.get? H2.objs.size=none:=aa8 (by refine aa hC ?_;exact Zv<|Xz S.F.above<|YU S.F.ns.lt);have hDL:s.heap.objs.size≠L:=(XG S.F.ns.lt);have hCL:H2.objs.size≠L:=by refine aa hC ?_;exact XG<|lt_succ_of_lt S.F.ns.lt
 have hDo:¬own ρ s.heap.objs.size:=(S.YW (o:=w)<|XH _).2;have hCo:¬own ρ H2.objs.size:=(S.YW (o:=w)<|by refine aa hC ?_;exact le_succ _).2;have hDN:∀p∈N,p.1≠s.heap.objs.size:=λp t=>Yy<|YC (S.g p<|.tail _ t).1;have hCN:∀p∈N,p.1≠H2.objs.size:=λp t=>(l _<|YC (S.g p<|.tail _ t).1).1;have U:I<s.heap.objs.size:=YC (S.g _<|.head _).1;have S1:St P Xp L m ρ ((s.heap.objs.size,W.listOf ([]:List Value).toArray 0)::(I,w)::N) H {s with heap:=j,toks:=s.toks+([]:List<|Str×Value).length}:=
  S.push (s':={s with heap:=j,toks:=s.toks+([]:List<|Str×Value).length}) (XH _) (S.F.keeps old) λp t=>by
   rcases XD.mp t with rfl|t
   ·exact⟨aef,hDL,acy⟩
   ·exact⟨old _ _ (S.g p t).1,(S.g p t).2⟩
 have S2:St P Xp L m ρ ((H2.objs.size,acb)::(s.heap.objs.size,W.listOf ([]:List Value).toArray 0)::(I,w)::N) H {s with heap:=j,toks:=s.toks+([]:List<|Str×Value).length}:=by
  have key:H2.objs.size∉((s.heap.objs.size,W.listOf ([]:List Value).toArray 0)::(I,w)::N).map (·.1):=λhm=>by
   rcases XD.mp hm with e|hm
   ·exact T e.symm
   ·rcases XD.mp hm with e|hm
    ·exact(l I U).1 e.symm
    ·refine ag (XN.mp hm) λp t e=>?_;exact hCN p t e
  refine⟨S1.F,λp t=>?_,by rw[af,Yc];exact⟨key,S1.j⟩,⟨S1.rep.1,λi c o hi ho=>(S1.rep.2 i c o hi ho).Yk ⟨⟨[],by simp⟩,λa vs n h ho=>⟨.tail _ h,ho⟩⟩ λ_ t _=>.tail _ t⟩,S1.sep,S1.old,S1.env⟩;rcases XD.mp t with rfl|t
  ·exact⟨hgC,hCL,acz⟩
  ·exact S1.g p t
 have loop:codeAny (model P.p P.w) A (.compLoop (.ListComp elt [⟨.Name x px,iter,ifs,0⟩] scope pos) 0 (.ref I) (.ref s.heap.objs.size)<|compEnvC scope cls H2.objs.size env)
    (R (.ref s.heap.objs.size) H2.objs.size) {s with heap:=j,toks:=s.toks+([]:List<|Str×Value).length}:=by
  refine codeAny_compLoop_tests
   (CJ P Xp L m I s.heap.objs.size H2.objs.size io ρ N f ok vs xs H') ?_ (vs.length+1)
   (CJ.mk (i:=0) (xs0:=[]) (X5 _) S2 (⟨⟨[],by simp⟩,λp t _ _=>.tail _<|.tail _<|.tail _ t,λ_ _ h=>h⟩:a5 aO ρ N ρ<|(H2.objs.size,acb)::(s.heap.objs.size,W.listOf ([]:List Value).toArray 0)::(I,w)::N) (.tail _<|.tail _<|.head _) hio hIo (.head _) ack hCo (.tail _<|.head _) hDo rfl hcg rfl)
  refineλk s' q0=>Ua λQ hQ Eh=>q0 _ λz N' H'' i ys xs0 xs1 obj' oC aei n' e hi S' E' mI ac0 oI mC ns F mD oD V B qe=>?_
  have tI:bC obj':=(hif _ _ ac0).elim λ_ h=>.fields h;have tD:bC<|W.listOf (List.toArray ys) n':=.cls (by show Value.type "list"≠Value.type "tuple";decide);have tC:bC oC:=.ns ns;have acm:s.heap.objs.size≠I:=XG U;have acn:H2.objs.size≠I:=X1 (l I U).1;refine nx S' E'.toT mI ac0 (CQ B) hi (λv u g h2 tk ev hvu ac2 hk2 hg2=>?_) λh2 tk hin hk2=>?_
  ·have T1:=S'.turned (tk:=tk) mI oI tI hk2 hg2
   have x1:=eT (ρ:=z) (obj':=g) S'.j mI tI;have mC1:(H2.objs.size,oC)∈rep1 I g N':=aX mC acn;refine hQ _ _<|wpAny_assign_Name (wpAny_storeName_local (lookup_relabel_local hx) (ns.ns (T1.g _ mC1).1) (λh3 hn3 hs3=>cps λG kG=>?_)<|by simp[compEnvC,relabel,X]);refine ag (ns_obj hn3) λO hg3 Y=>?_;have T2:=T1.turned (tk:=tk+1) mC1 F tC (λb o hb e=>hs3.extBut b o hb e) hg3;have x2:=eT (ρ:=z) (obj':=O) T1.j mC1 tC;have M:=bu (o':=O) mC1;have mI2:(I,g)∈rep1 H2.objs.size O (rep1 I g N'):=aX (bu mI)<|X1 acn;have mD2:(s.heap.objs.size,W.listOf (List.toArray ys) n')∈rep1 H2.objs.size O (rep1 I g N'):=aX (aX mD acm) T;have hV2:=(V.Yk x1).Yk x2;have ac6:=(hvu.Yk x1).Yk x2;have Ex2:a5 aO ρ N z<|rep1 H2.objs.size O<|rep1 I g N':=(E'.rep1 hIN).rep1 hCN;clear x1 x2;generalize rep1 H2.objs.size O (rep1 I g N')=N2 at T2 M mI2 mD2 hV2 ac6 Ex2;rw[vy ev]at B;have hi1:i+1<=vs.length:=(Yo.mp ev).1;have hlen:ys.length<=1000000:=by refine aa V.length ?_;rw[qe,XB]at hxs;exact Xz (Xx _ _) hxs
   refine ut B λ_ B=>aE B λr H3 hf B=>kG<|body _ T2 Ex2 M F Y (by simp) ac6 hf _ _ _ (λs4 ρ4 N4 S4 d hr=>?_) λy u4 s4 ρ4 N4 S4 d hr hy=>?_
   ·clear hf;subst hr
    have z9:=d.apart;exact⟨_,wY e hi1,CJ.mk (i:=i+1) hi1 S4 (Ex2.trans d) (d.keep _ mI2 oI id) ac2 (z9 _ mI2 oI) (d.keep _ M F id) Y (z9 _ M F) (d.keep _ mD2 oD id) (z9 _ mD2 oD) (hV2.XW d) B qe⟩
   ·clear hf;subst hr
    refine aE B λxs2 H4 go2 B=>aQ B λe1 e2=>?_;have mD4:=d.keep _ mD2 oD id;have oD4:=d.apart _ mD2 oD;refine append_at (hsz:=by exact gc hlen) (S4.g _ mD4).1 λh5 hs5 hD5=>?_;rw[List.push_toArray]at hD5;have T5:=S4.turned (tk:=s4.toks) mD4 oD4 tD (λb o hb e=>hs5.extBut b o hb e) hD5;have x:=eT (ρ:=ρ4) (obj':=W.listOf (List.toArray<|ys++[u4])<|n'+1) S4.j mD4 tD;exact⟨_,wY e hi1,CJ.mk (xs:=xs) (i:=i+1) (ys:=ys++[u4]) (xs0:=xs0++[y]) hi1 T5 ((Ex2.trans d).rep1 hDN) (aX (d.keep _ mI2 oI id)<|X1 acm) ac2 (d.apart _ mI2 oI) (aX (d.keep _ M F id)<|X1 T) Y (d.apart _ M F) (bu mD4) oD4 (((hV2.XW d).Yk x).append<|XI.one<|hy.Yk x) (e2▸go2)<|by rw[qe,<- e1,XM];rfl⟩
  ·refine cps λG kG=>?_
   rw[hin,drop_length]at B;refine ut B λ_ B=>aQ B λe1 e2=>?_;clear B hcg q0;clear B;subst e2;have T1:=S'.gone (tk:=tk) mI oI tI hk2;have mD1:(s.heap.objs.size,W.listOf (List.toArray ys) n')∈but I N':=fU.mpr ⟨mD,acm⟩;have hV1:=V.Yk<|jo S'.j mI tI;have T2:=T1.adopt mD1 oD tD (ao:=.l xs) λx=>⟨rfl,ys,n',mD1,by rw[qe,<- e1,Yu];exact hV1.Yk x⟩;exact kG<|hQ _ _<|hRR _ _ oC _ _ _ _ T2.1 ((E'.but hIN).aea hDN) ⟨_,S'.last _,rfl⟩ (fU.mpr ⟨mC,acn⟩) (λh=>(rI h).elim F λe=>T (e.elim id id).symm) ns hCN
 exact codeAny_compStart_list loop<|aca 0 _ _ _ _ (S2.g _<|.tail _<|.tail _<|.head _).1 hio loop
end
structure fG(env:Env)(Γ:NC)(x:Str)(scope:Scope)(cls:List<|Str×Addr)(caps:List Nat)(Γ':NC):Prop where
 c:closureFor scope env=pure cls
 cell:∀y∈scope.names,y.2≠.cell
 kind:scope.kind=.function
 names:∀y∈scope.names,y.2=.local->scope.names.lookup y.1=some .local
 h:scope.names.lookup x=some .local
 nm:(relabel scope env).names=Γ'.names
 v0:Γ'.vars[0]?=some x
 a:∀j i,caps[j]?=some i->∃y,Γ.vars[i]?=some y/\Γ'.vars[j+1]?=some y/\env.kindOf y=some .cell/\(Γ'.names.lookup y=some .cell\/Γ'.names.lookup y=some .free)/\cls.lookup y=env.cells.lookup y
section
variable{P:bi}{cl:Cl}{A:Around}{env:Env}{Xp:Heap}{L:Addr}{m:Str->Option Value}{Γ:NC}{ρ:Yp}{N:Led}{H H':Hp}{s:Shared}{E:Value->Shared->Prop}(X:EX P cl A env Xp L m Γ)
include X
theorem EX.comp(K:fG env Γ x scope cls f Γ')(C):EX P cl A (compEnvC scope cls C env) Xp L m Γ':=
 ⟨K.kind,K.nm,X.c,X.e,X.base,X.h,X.d,X.calls,X.a⟩
omit X in
theorem rm.comp(K:fG env Γ x scope cls a d)(Lo:rm env L m Γ.vars ρ N l)(F:(C,p)∈N)(I:¬own ρ C)(G:NsObj p b)(J:b x=some u)(M:b0 ρ N v u):
  rm (compEnvC scope cls C env) L m d.vars ρ N (some v::cW l a):=λi w h=>by
 cases i with
 |zero=>cases h;exact⟨x,u,K.v0,M,.inr<|.inl ⟨lookup_relabel_local K.h,p,b,F,I,G,J⟩⟩
 |succ j=>
  have h:(a.map λi=>(l[i]?).join)[j]?=some (some w):=h;rw[Zt]at h;refine cps λC k=>ag (YR.mp h) λi D e=>?_;obtain⟨y,h1,z,f,n,B⟩:=K.a j i D;refine am (Lo i w<|Option.join_eq_some_iff.mp e) λU T g r t=>?_;cases h1.symm.trans g;refine k<|⟨y,T,z,r,.inr<|.inr ⟨by rw[<- K.nm]at n;exact n,(cps λC k=>?_)⟩⟩;rcases t with⟨q,_⟩|⟨q,_⟩|⟨_,c,o,O,Q,R,S⟩
  ·cases f.symm.trans q
  ·cases f.symm.trans q
  ·exact k<|⟨c,o,B.trans O,Q,R,S⟩
theorem uS(K:fG env Γ x scope cls c d)(Lo:rm env L m Γ.vars ρ N l)(C)(p:aq P cl A (compEnvC scope cls C env) Xp L m d elt I):
  sO P A Xp L m (compEnvC scope cls C env) x [] elt ρ N (λv H=>bV (ai cl (some v::cW l c) I H) λx H'=>some (some x,H')):=
 λO W H s v u Y f r H' S i q w t z B h Q T U F G=>cps λC D=>aE h λy R b h=>aQ h λn o=>by
 clear h F;clear h;subst n o;exact D<|wpAny_tests_nil<|p S ((Lo.ext i).comp K q w t z B) b λM J e j a g k=>G y M J e j a g rfl k
theorem qK(K:fG env Γ x scope cls a f)(Lo:rm env L m Γ.vars ρ N l)(C)(Q:aq P cl A (compEnvC scope cls C env) Xp L m f elt me)
  (O:iQ P cl A (compEnvC scope cls C env) Xp L m f c mc):
  sO P A Xp L m (compEnvC scope cls C env) x [c] elt ρ N (λv H=>bV (ai cl (some v::cW l a) mc H) λw H'=>rM w λb=>
   if b then bV (ai cl (some v::cW l a) me H') λx i=>some (some x,i)else some (none,H')):=
 λZr N' H s v u oC z r H' S D R U T W Y d E' Kn Ks t ks=>cps λC kC=>aE d λw H1 h1 d=>qN d λb e h=>by
 subst e;have p:=(Lo.ext D).comp K R U T W Y;refine kC<|wpAny_tests_one<|O S p h1 λs1 n F q g=>?_;clear h1;cases b with
 |false=>cases h;exact t s1 n F q g rfl
 |true=>rw[Xr rfl]at h;refine aE h λy H2 k h=>aQ h λJ M=>?_;clear h d t;clear h d;subst J M;exact Q q (rm.ext g p) k λu' s' o G j B I=>ks y u' s' o G j (g.trans B) rfl I
theorem m8(K:fG env Γ x scope cls J Γ')
  (j:∀(Q:Value->Shared->Prop),(∀a c,a5 aO ρ N a c->jX P A Xp L m a c R ok vs Q)->wpAny (model P.p P.w) A (eval iter env) (λxv l=>wpAny (model P.p P.w) A (pyIter xv) Q E l) E s)
  (t:cL f ok vs R=some (M,G)) (B:M.length<=1000000) (i:∀a c,a5 aO ρ N a c->∀C,sO P A Xp L m (compEnvC scope cls C env) x ifs elt a c f) (Y:∀x,foldedSetIterable iter env x=pure x)
  (k:∀u n a c,St P Xp L m a c (G++[.l M]) n->a5 aO ρ N a c->b0 a c (.r G.length) u->Q u n):
  wpAny (model P.p P.w) A (eval (.ListComp elt [⟨.Name x px,iter,ifs,0⟩] scope pos) env) Q E s:=by
 exact wpAny_comprehension_free (use:=none) rfl Y K.c K.kind K.names (j _ λρ1 N1 F I obj s1 io T q r w nx v g=>r9 T q r w nx v g K.cell K.kind K.h t B (i _ _ F) λD C oC m' n a c S O U h y d p=>⟨m',d.ns (S.g _ h).1,λh' z=>k _ _ _ _ (S.gone (tk:=n.toks) h y (bC.ns d) λb o W e=>z.extBut b o W e) (F.trans<|O.but p)<|U.Yk<|jo S.j h<|bC.ns d⟩)
theorem xP(K:fG env Γ x scope cls caps Γ')
  (W:swapsWith (.ListComp elt [⟨.Name x px,iter,ifs,0⟩] scope pos) (some<|.Name y py) v.line env=pure true) (hL:env.locals=L) (hy:env.kindOf y=some .local)
  (t:(env.scope.kind==.class||(env.scope.kind==.module&&env.locals !=env.globals))=false)
  (i:∀(Q:Value->Shared->Prop),(∀a c,a5 aO ρ N a c->jX P A Xp L m a c H1 ok vs Q)->wpAny (model P.p P.w) A (eval iter env) (λxv w=>wpAny (model P.p P.w) A (pyIter xv) Q E w) E s)
  (M:cL f ok vs H1=some (xs,B)) (Y:xs.length<=1000000) (g:∀a c,a5 aO ρ N a c->∀C,sO P A Xp L m (compEnvC scope cls C env) x ifs elt a c f) (hs:∀x,foldedSetIterable iter env x=pure x)
  (k:∀u d a c,St P Xp L (λz=>if z=y then some u else m z) a c (B++[.l xs]) d->a5 aO ρ N a c->b0 a c (.r B.length) u->Q .next d):
  wpAny (model P.p P.w) A (exec (.Assign [.Name y py] (.ListComp elt [⟨.Name x px,iter,ifs,0⟩] scope pos) v) env) Q E s:=by
 refine aa (exec_Assign_Name_used _ _ _ _ W)<|XC<|wpAny_standAt<|XC<|XC<|aan (wpAny_comprehension_free (use:=some<|assign (.Name y py) env) (Q:=λ_ d=>Q .next d) rfl hs K.c K.kind K.names (i _ λρ1 N1 E1 I obj s1 io S1 G J R nx O r=>r9 S1 G J R nx O r K.cell K.kind K.h M Y (g _ _ E1) λD C oC m' d a c S E' V' l T n F=>?_)) (λ_ d hq=>Yj<|Yj hq) λ_ _ e=>e;clear S1 X g i nx;subst hL;refine wpAny_assign_Name<|wpAny_storeName_local hy S.F.ns (λj q h=>?_) t;have S2:St P Xp env.locals (λz=>if z=y then some (.ref D)else m z) a c (B++[.l xs]) {d with heap:=j,toks:=d.toks+1}:=⟨(S.F.set q h),(λp t=>⟨h.extBut _ _ (S.g p t).2.1 (S.g p t).1,(S.g p t).2⟩:News Xp env.locals j c),S.j,S.rep,S.sep,S.old,S.env⟩;exact⟨m',n.ns (S2.g _ l).1,λh' U=>k _ _ _ _ (S2.gone (tk:=d.toks+1) l T (bC.ns n) λb o hb e=>U.extBut b o hb e) (E1.trans<|E'.but F)<|V'.Yk<|jo S.j l<|bC.ns n⟩
variable{x:Str}{px pos:Pos}{scope:Scope}{cls:List<|Str×Addr}{caps:List Nat}{Γ':NC}{elt iter:Expr}{me mi:ME}
theorem D6(K:fG env Γ x scope cls caps Γ')(g:aq P cl A env Xp L m Γ iter mi)(d:∀C,aq P cl A (compEnvC scope cls C env) Xp L m Γ' elt me)(j:∀x,foldedSetIterable iter env x=pure x):
  aq P cl A env Xp L m Γ (.ListComp elt [⟨.Name x px,iter,[],0⟩] scope pos) (.C me mi caps):=λρ N H s l v H' S Lo h Q E k=>cps λC n=>aE h λu r h1 h=>iM h λq f h=>aE h λy t c h=>A8 h λi e b=>by
 clear h;clear h;clear h;clear h;subst e b;exact n<|m8 X K (λQ o=>vJ X g S Lo h1 f o) c i (λp w a C=>uS X K (Lo.ext a) C<|d C) j k
theorem yh(K:fG env Γ x scope cls caps Γ')(j:aq P cl A env Xp L m Γ iter mi)(g:∀C,aq P cl A (compEnvC scope cls C env) Xp L m Γ' elt me)(f:∀C,iQ P cl A (compEnvC scope cls C env) Xp L m Γ' c t)(o:∀x,foldedSetIterable iter env x=pure x):
  aq P cl A env Xp L m Γ (.ListComp elt [⟨.Name x px,iter,[c],0⟩] scope pos) (.E me mi t caps):=λρ N H s l v H' S Lo h Q E k=>cps λC p=>aE h λu y h1 h=>iM h λq i h=>aE h λD z a h=>A8 h λn e d=>by
 clear h;clear h;clear h;clear h;subst e d;exact p<|m8 X K (λQ r=>vJ X j S Lo h1 i r) a n (λw B b C=>qK X K (Lo.ext b) C (g C)<|f C) o k
theorem Av(r:hF "range" Γ=true)(b:au e=true)(K:fG env Γ x scope cls caps Γ')(q:aq P cl A env Xp L m Γ e y)(j:∀C,aq P cl A (compEnvC scope cls C env) Xp L m Γ' elt me):
  aq P cl A env Xp L m Γ (.ListComp elt [⟨.Name x px,.Call (.Name "range" p) [e] [] G,[],0⟩] scope pos) (.D me y caps):=λρ N H s l v H' S Lo h Q E k=>cps λC t=>aE h λw B h1 h=>bH h λn d h=>cv h λa h=>aE h λI D i h=>A8 h λo f g=>by
 clear h;clear h;clear h;clear h;clear h;subst d f g;refine t ?_;rw[lQ]at a;exact m8 X K (λQ u=>m7 X r b q S Lo h1 a.1 a.2 u) i o (λz F c C=>uS X K (Lo.ext c) C<|j C) (by intro _;rfl) k
end
def pL (e:Env):Addr->Prop:=λa=>∃x,e.cells.lookup x=some a
structure dk(env:Env)(L:Addr)(m:Str->Option Value)(vars:List Str)(ρ:Yp)(N:Led)(l:Lo):Prop where
 loc:rm env L m vars ρ N l
 cells:∀a,pL env a->∃o v,(a,o)∈N/\¬own ρ a/\o.data=.cell v
structure gn(env:Env)(L:Addr)(Γ:NC):Prop where
 h:env.locals=L
 g:env.scope.kind=.function
 j:Γ.vars.Nodup
 b:∀x∈Γ.vars,env.kindOf x=some .local\/(env.kindOf x=some .cell/\∃c,env.cells.lookup x=some c)
 inj:∀x y c,env.cells.lookup x=some c->env.cells.lookup y=some c->x=y
def gn.f (K:gn env L a):(env.scope.kind==.class||(env.scope.kind==.module&&env.locals !=env.globals))=false:=by refine aa K.g ?_;rfl
def a5.Yl (x:a5 cs m N c b)(y:a5 cs c b d abp)(i:∀a,cs a->∃o,(a,o)∈b):a5 cs m N d abp:=by
 refine Xs x.pre λt e=>Xs y.pre λl j=>⟨⟨t++l,by rw[j,e,XM]⟩,λp g f i=>y.keep p (x.keep p g f i) (x.apart p g f) i,λp g f=>?_⟩;by_cases h:cs p.1
 ·exact Xs (i _ h) λo k=>y.apart (p.1,o) k<|x.apart p g f
 ·exact y.apart p (x.keep p g f h)<|x.apart p g f
section
variable{P:bi}{env:Env}{Xp:Heap}{L:Addr}{m:Str->Option Value}{Γ:NC}{ρ Zr:Yp}{N N':Led}{H H':Hp}{s s':Shared}{l:Lo}
def dk.mem (K:dk env L m Γ.vars ρ N l):∀a,pL env a->∃o,(a,o)∈N:=λa h=>am (K.cells a h) λo _ b _ _=>⟨o,b⟩
def dk.ext (K:dk env L m Γ.vars ρ N l)(E:a5 aO ρ N Zr N'):dk env L m Γ.vars Zr N' l:=⟨K.loc.ext E,λa h=>am (K.cells a h) λo v h1 b c=>⟨o,v,E.keep _ h1 b id,E.apart _ h1 b,c⟩⟩
def dk.ac7 (K:dk env L m Γ.vars ρ N l)(S:St P Xp L m ρ N H s):∀a c n,(a,i6 c n)∈N->¬pL env a:=λa c n h d=>by refine am (K.cells a d) λo v h1 _ b=>?_;have:=eY S.j h h1;rw[<- this]at b;have b:=b;cases b
def dk.toT (K:dk env L m Γ.vars ρ N l)(S:St P Xp L m ρ N H s)(E:a5 (pL env) ρ N Zr N'):j8 ρ N Zr N':=⟨E.pre,λa v n h b=>⟨E.keep _ h b<|K.ac7 S _ _ _ h,E.apart _ h b⟩⟩
def dk.weak (K:dk env L m Γ.vars ρ N l)(E:a5 aO ρ N Zr N'):a5 (pL env) ρ N Zr N':=E.weak
def St.frame (S:St P Xp L m ρ N H s)(c:a.Ns L d)(b:Heap.SameBut L s.heap a):St P Xp L d ρ N H {s with heap:=a,toks:=t}:=
 ⟨S.F.set c b,λp h=>⟨b.extBut _ _ (S.g p h).2.1 (S.g p h).1,(S.g p h).2⟩,S.j,S.rep,S.sep,S.old,S.env⟩
def qi {v:List Str}(h:v.Nodup){i j:Nat}{x:Str}(c:v[i]?=some x)(d:v[j]?=some x):i=j:=by
 obtain⟨h1,e⟩:=Yo.mp c;obtain⟨b,a⟩:=Yo.mp d;rcases lt_trichotomy i j with q|q|q
 ·exact Xv (e.trans a.symm)<|List.pairwise_iff_getElem.mp h i j h1 b q
 ·exact q
 ·exact Xv (a.trans e.symm)<|List.pairwise_iff_getElem.mp h j i b h1 q
def zf (h:(l.set i<|some v)[j]?=some (some w)):(i=j/\w=v)\/(i≠j/\l[j]?=some (some w)):=by
 by_cases e:i=j
 ·subst e
  have a:=(Yo.mp h).1;rw[ZN]at a;rw[aaf a]at h;have h:=h;cases h;exact .inl ⟨rfl,rfl⟩
 ·rw[YM e]at h;exact .inr ⟨e,h⟩
def on (K:gn env L Γ)(S:St P Xp L m ρ N H s)(Lo:dk env L m Γ.vars ρ N l){i:Nat}{x:Str}(G:Γ.vars[i]?=some x){v:V}{u:Value}(hv:b0 ρ N v u){M:Model}{A:Around}{Q:Unit->Shared->Prop}{E:Value->Shared->Prop}
  (k:∀s' m' N',St P Xp L m' ρ N' H s'->a5 (pL env) ρ N ρ N'->dk env L m' Γ.vars ρ N' (l.set i<|some v)->Q () s'):wpAny M A (storeName env x u) Q E s:=by
 rcases K.b x (YQ G)with B|⟨B,c,g⟩
 ·obtain rfl:=K.h
  refine wpAny_storeName_local B S.F.ns (λh' hn F=>k _ _ N (S.frame hn F) (.refl _ _ _) ⟨λj w f=>?_,Lo.cells⟩) K.f;clear hn F k;rcases zf f with⟨rfl,rfl⟩|⟨e,f⟩
  ·exact⟨x,u,G,hv,.inl ⟨B,rfl,Xr rfl⟩⟩
  ·refine am (Lo.loc j w f) λy u' h1 U W=>⟨y,u',h1,U,(cps λC I=>?_)⟩
   rcases W with⟨a,b,c⟩|⟨a,o,J,b,_⟩|r
   ·exact I<|.inl ⟨a,b,(Xq (λq=>e (qi K.j G<|q▸h1):y≠x)).trans c⟩
   ·exact Xv rfl (S.g _ b).2.1
   ·exact I<|.inr<|.inr r
 ·refine am (Lo.cells c ⟨x,g⟩) λo v0 D Y hd=>wpAny_storeName_cell K.g B g ⟨o,(S.g _ D).1,hd⟩ λh' ⟨O,hg,z⟩ F=>?_
  have ht:=bC.cell hd;have T:=S.turned (tk:=s.toks) D Y ht (λb q hb e=>F.extBut b q hb e) hg;have x1:=eT (ρ:=ρ) (obj':=O) S.j D ht;have d:=bu (o':=O) D;refine k _ _ _ T ⟨⟨[],by simp⟩,λp hp _ X=>aX hp λe=>X ⟨x,by refine aa e ?_;exact g⟩,λ_ _ h=>h⟩ ⟨λj w f=>?_,λa ha=>?_⟩
  ·clear k T
   rcases zf f with⟨rfl,rfl⟩|⟨e,f⟩
   ·exact⟨x,u,G,hv.Yk x1,.inr<|.inr ⟨.inl B,c,O,g,d,Y,z⟩⟩
   ·refine am (Lo.loc j w f) λy u' h1 U W=>⟨y,u',h1,U.Yk x1,(cps λC I=>?_)⟩
    rcases W with r|⟨a,R,J,b,b2,b3⟩|⟨a,n,R,b1,b2,b3,b4⟩
    ·exact I<|.inl r
    ·exact Xv K.h (S.g _ b).2.1
    ·exact I<|.inr<|.inr ⟨a,n,R,b1,aX b2 λq=>(λq=>e (qi K.j G<|q▸h1):y≠x)<|K.inj y x c (by refine aa b1 ?_;exact Xy some q) g,b3,b4⟩
  ·clear k T
   refine am (Lo.cells a ha) λR v2 t g2 g3=>?_;by_cases e:a=c
   ·clear g hg D F x1;subst e;exact⟨O,_,d,Y,z⟩
   ·exact⟨R,v2,aX t e,g2,g3⟩
end
abbrev ZJ:=Heap->Addr->Yp->Led->Hp->(Str->Option Value)->V->V->Value->Shared->Prop
def DN (P:bi)(f:Env)(h:Heap)(L:Addr)(i:NC)(X:ZJ)(g:Yp)(N:Led)(H:Hp)(Q:Flow->Shared->Prop)(E:Value->Shared->Prop):Fl->Prop
 | .n l=>∀s m c d,St P h L m c d H s->a5 (pL f) g N c d->dk f L m i.vars c d l->Q .next s
 | .r v=>∀u s m c d,St P h L m c d H s->a5 (pL f) g N c d->b0 c d v u->Q (.ret u) s
 | .e a b=>∀e s m c d,a5 (pL f) g N c d->X h L c d H m a b e s->E e s
section
variable(P:bi)(cl:Cl)(lp:ZD)(A:Around)(env:Env)(Xp:Heap)(L:Addr)(Γ:NC)(XA:ZJ)
def fE (d:Stmt)(c:MS):Prop:=∀⦃m:Str->Option Value⦄ ⦃a:Yp⦄ ⦃N:Led⦄ ⦃H:Hp⦄ ⦃s:Shared⦄ ⦃l:Lo⦄ ⦃f:Fl⦄ ⦃b:Hp⦄,St P Xp L m a N H s->dk env L m Γ.vars a N l->bx cl lp l H c=some (f,b)->
 ∀⦃Q:Flow->Shared->Prop⦄ ⦃E:Value->Shared->Prop⦄,DN P env Xp L Γ XA a N b Q E f->wpAny (model P.p P.w) A (exec d env) Q E s
def kF (b:List Stmt)(d:List MS):Prop:=∀⦃m:Str->Option Value⦄ ⦃a:Yp⦄ ⦃N:Led⦄ ⦃H:Hp⦄ ⦃s:Shared⦄ ⦃l:Lo⦄ ⦃f:Fl⦄ ⦃c:Hp⦄,St P Xp L m a N H s->dk env L m Γ.vars a N l->XU cl lp l H d=some (f,c)->
 ∀⦃Q:Flow->Shared->Prop⦄ ⦃E:Value->Shared->Prop⦄,DN P env Xp L Γ XA a N c Q E f->wpAny (model P.p P.w) A (execs b env) Q E s
end
section
variable{P:bi}{cl:Cl}{lp:ZD}{A:Around}{env:Env}{Xp:Heap}{L:Addr}{Γ:NC}{XA:ZJ}
def DN.trans {l f:Yp}{N c:Led}{H:Hp}{Q:Flow->Shared->Prop}{E:Value->Shared->Prop}{fl:Fl}(k:DN P env Xp L Γ XA l N H Q E fl)(x:a5 (pL env) l N f c)(j:∀a,pL env a->∃o,(a,o)∈c):DN P env Xp L Γ XA f c H Q E fl:=by
 cases fl with
 |n t=>exactλs m d i S g p=>k s m d i S (x.Yl g j) p
 |r v=>exactλu s m d i S g q=>k u s m d i S (x.Yl g j) q
 |e a b=>exactλe s m d i g h=>k e s m d i (x.Yl g j) h
def HL:kF P cl lp A env Xp L Γ XA [] []:=λm b N H s l f c S Lo h Q E k=>aQ h λe a=>by clear h;subst e a;exact wpAny_execs_nil<|k s m b N S (.refl _ _ _) Lo
def CG {e:Stmt}{d:MS}{b:List Stmt}{c:List MS}(h1:fE P cl lp A env Xp L Γ XA e d)(o:kF P cl lp A env Xp L Γ XA b c):kF P cl lp A env Xp L Γ XA (e::b)<|d::c:=λm z N H s l j t S Lo h Q E k=>
 Uq h (λw u i h=>aay<|h1 S Lo i λy x r v g f a=>o g a h<|k.trans f a.mem) λp h=>aay (h1 S Lo h<|by clear h;clear h;cases j with |n q=>exact Xv rfl (p q)|_=>exact k)
variable(X:∀m,EX P cl A env Xp L m Γ)(K:gn env L Γ)
include X K
omit K in
theorem DA{e:Expr}{c:ME}{p:Pos}(j:∀m,aq P cl A env Xp L m Γ e c)(n:interactive env=false)(o:swapsWith e none p.line env=pure false):fE P cl lp A env Xp L Γ XA (.Expr e p)<|.x c:=
 λm y N H s l x r S Lo h Q E k=>aE (Ce.symm.trans h) λv t h1 h=>aQ h λg i=>by
 clear h;clear h;subst g i;exact wpAny_Expr_any (j m S Lo.loc h1 λu q a d f b w=>k q m a d f b.weak<|Lo.ext b) n o
theorem FA{e:Expr}{f:ME}{x:Str}{p a:Pos}{i:Nat}(w:∀m,aq P cl A env Xp L m Γ e f)(z:Γ.vars[i]?=some x)(y:swapsWith e (some<|.Name x p) a.line env=pure false):fE P cl lp A env Xp L Γ XA (.Assign [.Name x p] e a)<|.s i f:=
 λm M N H s l I D S Lo h Q E k=>aE (we.symm.trans h) λv F h1 h=>aQ h λr t=>by
 clear h;clear h;subst r t;exact wpAny_Assign_Name (w m S Lo.loc h1 λu J d G o b q=>on K o (Lo.ext b) z q λC B n c g j=>k C B d n c (b.weak.Yl g (Lo.ext b).mem) j) y
theorem Hf{e:Expr}{b:ME}{p:Pos}(n:∀m,aq P cl A env Xp L m Γ e b):fE P cl lp A env Xp L Γ XA (.Return (some e) p)<|.r b:=
 λm w N H s l t q S Lo h Q E k=>aE (Fo.symm.trans h) λv r h1 h=>aQ h λi j=>by
 clear h;clear h;subst i j;exact wpAny_Return_some<|n m S Lo.loc h1 λu o a d f c g=>k u o m a d f c.weak g
omit X K in
theorem DF{p:Pos}:fE P cl lp A env Xp L Γ XA (.Return none p) .aar:=
 λm b N H s l f c S Lo h Q E k=>aQ h λe a=>by
 clear h;subst e a;exact wpAny_Return_none<|k .none s m b N S (.refl _ _ _) rfl
omit X K in
theorem Hu{c:Expr}{o:ME}{a b:List Stmt}{j n:List MS}{p:Pos}(u:∀m,iQ P cl A env Xp L m Γ c o)(q:kF P cl lp A env Xp L Γ XA a j)(r:kF P cl lp A env Xp L Γ XA b n):fE P cl lp A env Xp L Γ XA (.If c a b p)<|.i o j n:=
 λm D N H s l B x S Lo h Q E k=>aE (Eu.symm.trans h) λw y h1 h=>qN h λt e g=>by
 subst e;refine wpAny_If<|u m S Lo.loc h1 λC v z f d=>?_;have i:=k.trans d.weak (Lo.ext d).mem;clear h1;cases t with
 |true=>exact q f (Lo.ext d) g i
 |false=>exact r f (Lo.ext d) g i
end
def Dl (n)(l:List Nat):l.length<=(l.erase n).length+1:=by
 by_cases h:n∈l
 ·refine aa (List.length_erase_of_mem h) ?_;exact Nat.sub_le_iff_le_add.mp<|XH _
 ·refine aa (List.erase_of_not_mem h) ?_;exact bB 0x2d03012 tq
theorem qL:∀(n) (l:List Nat),l.Nodup->(∀x∈l,x<n)->l.length<=n
 |0,l,_,h=>by cases l with |nil=>exact XH _|cons a r=>exact Xv (h a<|.head _)<|aaa _
 |n+1,l,b,h=>by
  have:=qL n (l.erase n) (b.erase _) λx c=>by exact Y2 (MD<|h x<|List.mem_of_mem_erase c) (λe=>by clear h;subst e;exact(List.Nodup.not_mem_erase b) c:x≠n)
  have:=Dl n l;exact ba 0x5a1602411065b0b44c0065b tq ‹_› ‹_›
def tK:∀{p:Nat×V},p∈o0 f v fs->p.1=f\/p∈fs:=by
 induction fs with
 |nil=>intro p h;simp only[vR,mem_singleton]at h;subst h;exact .inl rfl
 |cons b r i=>
  intro p h;obtain⟨a,u⟩:=b;rw[rS]at h;split at h
  ·rcases XD.mp h with rfl|h
   ·rename_i e;exact .inl e
   ·exact .inr<|.tail _ h
  ·rcases XD.mp h with rfl|h
   ·exact .inr<|.head _
   ·rcases i h with e|e
    ·exact .inl e
    ·exact .inr<|.tail _ e
def sq:(d.map (·.1)).Nodup->((o0 f v d).map (·.1)).Nodup:=by
 induction d with
 |nil=>intro _;simp[vR]
 |cons b r j=>
  intro h;obtain⟨a,u⟩:=b;rw[af,Yc]at h;have h:=h;rw[rS];split
  ·rw[af,Yc];exact h
  ·rename_i c
   rw[af,Yc];refine⟨λg=>ag (XN.mp g) λp i e=>?_,j h.2⟩;rcases tK i with q|q
   ·exact c<|e.symm.trans q
   ·exact h.1<|XN.mpr ⟨p,q,e⟩
theorem FN.length:∀{a:List DictEntry},FN names d N f a->a.length=f.length:=by
 induction f with
 |nil=>intro _ h;subst h;rfl
 |cons p l i=>intro _ h;obtain⟨g,v⟩:=p;refine iz h λe r b _ _ c=>?_;clear h;subst b;simp[i c]
def FN.put (k:b0 o N v u):∀{d:List DictEntry},FN names o N a d->(∀p∈a,names p.1=names f->p.1=f)->FN names o N (o0 f v a) (putL (names f) hsh (.str (names f) t) u d):=by
 induction a with
 |nil=>intro _ h _;subst h;exact⟨_,[],rfl,⟨t,rfl⟩,k,rfl⟩
 |cons z l m=>
  intro _ h i;obtain⟨g,x⟩:=z;refine iz h λc r s A y j=>?_;clear h;subst s;obtain⟨n,b⟩:=A;have q:c.key.isStr (names f)=decide (g=f):=by
   refine aa b ?_;show(names g==names f)=_;by_cases e:g=f
   ·clear m;subst e;simp
   ·exact aa (Ye e)<|Yn.mpr λq=>e<|i _ (.head _) q
  refine aa rS ?_;unfold putL;by_cases e:g=f
  ·rw[Xr e,q,Yv e,Xr rfl]
   exact⟨_,r,rfl,⟨n,b⟩,k,j⟩
  ·rw[Xq e,q,Ye e,Xq<|by trivial]
   exact⟨c,_,rfl,⟨n,b⟩,y,m j λp w=>i p<|.tail _ w⟩
def kT {K:Type}[DecidableEq K]{a:K}{x u:Value}{r:List<|K×Value}(h:∀p∈r,p.1≠a):stored ((a,x)::r) a u=(a,u)::r:=by
 unfold stored;simp only[any_cons,decide_true,Bool.true_or,if_true,af];congr 1
 conv=>rhs;rw[<- List.map_id r]
 refine YA λp b=>aa (Xq<|h p b) ?_;rfl
def lB {K:Type}[DecidableEq K]{a k:K}{r:List<|K×Value}(h:a≠k):stored ((a,x)::r) k u=(a,x)::stored r k u:=by
 unfold stored;simp only[any_cons,Ye h,Bool.false_or];split
 ·simp[h]
 ·rfl
def uz.put (f:b0 g N v u):∀{b:List<|Int×Value},uz g N l b->(b.map (·.1)).Nodup->uz g N (kM k v l) (stored b k u):=by
 induction l with
 |nil=>intro _ h _;simp only[Fb,Hn]at h;subst h;exact⟨_,_,rfl,f,rfl⟩
 |cons o l n=>
  intro _ h c;obtain⟨a,x⟩:=o;refine am h λs r i m d=>?_;clear h;subst i;rw[af,Yc]at c;refine aa h0 ?_;by_cases e:a=k
  ·subst e
   exact aa (Xr rfl)<|aa (kT λp j q=>c.1<|XN.mpr ⟨p,j,q⟩)<|⟨_,_,rfl,f,d⟩
  ·exact aa (Xq e)<|aa (lB e)<|⟨_,_,rfl,m,n d c.2⟩
def xg.put (f:b0 g N v u):∀{b:List<|Str×Value},xg g N l b->(b.map (·.1)).Nodup->xg g N (wQ k v l) (stored b (S2 k) u):=by
 induction l with
 |nil=>intro _ h _;simp only[Fh,Ff]at h;subst h;exact⟨_,_,rfl,f,rfl⟩
 |cons o l n=>
  intro _ h c;obtain⟨a,x⟩:=o;refine am h λs r i m d=>?_;clear h;subst i;rw[af,Yc]at c;refine aa A7 ?_;by_cases e:a=k
  ·subst e
   exact aa (Xr rfl)<|aa (kT λp j q=>c.1<|XN.mpr ⟨p,j,q⟩)<|⟨_,_,rfl,f,d⟩
  ·exact aa (Xq e)<|aa (lB λq=>e<|p0 q)<|⟨_,_,rfl,m,n d c.2⟩
def ly {K:Type}[DecidableEq K]{a:KeyKind prog w K}{o:Obj}{k:List<|K×Value}(h:o.IsDictOf a k):(k.map (·.1)).Nodup:=by exact xG h λ_ _ _ _ _ _ h=>h
theorem r7:∀{l:List Value}{k:Nat}{v:Value},k<l.length->ki_setL l k v=some (l.set k v)
 | [],_,_,h=>Xv h<|aaa _
 |_::r,0,v,_=>rfl
 |x::r,k+1,v,h=>by unfold ki_setL;refine aa (r7<|by simpa using h) ?_;rfl
section
def sQ (hB:m5 P e)(S:St P e L m I N H s)(h:Mine.setItem H x y v=some H')(hx:b0 I N x u1)(hy:b0 I N y u2)(hv:b0 I N v U)
  (k:∀s' g,St P e L m I g H' s'->a5 aO I N I g->Q () s'):wpAny (model P.p P.w) A (PySem.setItem u1 u2 U) Q E s:=fO h λa e0 d=>by
 subst e0;refine ag hx λc r B=>?_;subst B;refine cps λC Y=>?_;cases y with
 |i i=>
  refine Xs hy λt' B=>?_;subst B;refine iM d λo G d=>?_;cases o with
  |l l=>
   refine ag (YR.mp d) λj hj B=>?_;clear d;clear d;subst B;refine bX (to hj) λh1 h2 h3=>?_;have q:=gY.mp h1;refine bN (S.rep.2 _ _ _ r G) λJ vs n t b=>?_;have X:=b.length;have R:ki_setL vs.toArray.toList j U=some (vs.set j U):=r7 (by simp;exact yp h3 X);have M:∀f,Fr e L f m->News e L f (rep1 c.1 (W.listOf (vs.set j U).toArray n) N)->Q () {s with heap:=f}:=λf F g=>by have u:=fY (N:=N) (o':=W.listOf (vs.set j U).toArray n) (dj r).1;have z:=S.upd (s':={s with heap:=f}) r G (.inl rfl) F g (ao':=.l<|l.set j v) ⟨J,_,n,bu t,(b.XW u).set<|hv.XW u⟩;exact k _ _ z.1 z.2
   rcases uM h2 with⟨p,w⟩|⟨p,w,p3⟩
   ·exact Y<|ki_set S.F S.g p (by lia) (w.symm▸R) (lg S.j t) λf F g=>M f F g
   ·exact Y<|ki_setNeg (j:=j) S.F S.g p (by lia) (by refine aa Y8<|aa X ?_;exact h2) R (lg S.j t) λf F g=>M f F g
  |dI l=>refine cv d λhz d=>?_;clear hB;obtain rfl:=aA d;refine iw (S.rep.2 _ _ _ r G) λJ o kvs t O b=>?_;have X:=b.length;refine Y<|kda_set S.F S.g (uZ S.j t) O (intKind_is P.p P.w i t') (gc<|Lv X hz) λf T F g D=>?_;have u:=fY (N:=N) (o':=T) (dj r).1;have z:=S.upd (s':={s with heap:=f,toks:=s.toks+1}) r G (.inl rfl) F g (ao':=.dI<|kM i v l) ⟨J,T,_,bu t,D,(b.Yk u.toT).put (hv.XW u)<|ly O⟩;exact k _ _ z.1 z.2
  |_=>exact cE d nt
 |s i=>refine Xs hy λt' B=>?_;subst B;refine RY d λl G d=>cv d λhz d=>?_;clear hB;obtain rfl:=aA d;refine iw (S.rep.2 _ _ _ r G) λJ o kvs t O b=>Y<|kda_set S.F S.g (uZ S.j t) O (strKind_is P.p P.w (S2 i) t') (gc<|Lv b.length hz) λf T F g D=>?_;have u:=fY (N:=N) (o':=T) (dj r).1;have z:=S.upd (s':={s with heap:=f,toks:=s.toks+1}) r G (.inl rfl) F g (ao':=.dS<|wQ i v l) ⟨J,T,_,bu t,D,(b.Yk u.toT).put (hv.XW u)<|ly O⟩;exact k _ _ z.1 z.2
 |_=>exact cE d nt
def u8 (S:St P d L m j N H s)(h:d5 op x y=some z)(l:b0 j N x u)(n:b0 j N y v)
  (k:∀u p,St P d L m j N H p->b0 j N z u->Q u p):wpAny (model P.p P.w) A (inplaceOp (wV op) u v) Q E s:=by
 cases op with
 |a=>
  cases x with
  |i a=>refine bH h λb e c=>?_;subst e;obtain rfl:=aA c;obtain⟨t,rfl⟩:=l;obtain⟨o,rfl⟩:=n;exact iadd_int<|k _ _ (S.toks _) ⟨_,rfl⟩
  |s a=>
   refine pg h λb e c=>cv c λg c=>?_;subst e;obtain rfl:=aA c;simp only[Xu,e5]at g;obtain⟨t,rfl⟩:=l;obtain⟨o,rfl⟩:=n;refine PySem.P.iadd_str ?_;have f:∀t q,Q (.str (S2<|a++b) t) {s with toks:=q}:=λt q=>k _ _ (S.toks _) ⟨_,rfl⟩;clear k;rw[mu,cF,cF];split
   ·rename_i e
    clear S g;obtain rfl:=aaz<|eq_of_beq e;exact f o s.toks
   ·split
    ·rename_i e
     clear S g;obtain rfl:=aaz<|eq_of_beq e;rw[Yu]at f;exact f t s.toks
    ·refine⟨?_,f _ _⟩
     show(S2<|a++b).cps.size<=sizeLine;simp only[S2,Y8,XB,sizeLine_eq];exact RV g
  |_=>exact cE h nt
 |s=>refine bH h λa r h=>bH h λb w c=>?_;subst r w;obtain rfl:=aA c;obtain⟨t,rfl⟩:=l;obtain⟨o,rfl⟩:=n;exact PyProof.Rows.isub_int<|k _ _ (S.toks _) ⟨_,rfl⟩
 |_=>exact cE h nt
end
section
variable{XA:ZJ}
variable(X:∀m,EX P cl A env Xp L m Γ)(K:gn env L Γ)
include X
theorem CV(J:∀m,aq P cl A env Xp L m Γ o U)(I:∀m,aq P cl A env Xp L m Γ i T)(G:∀m,aq P cl A env Xp L m Γ e R)(M:swapsWith e (some<|.Subscript o i p) pos.line env=pure false):
  fE P cl lp A env Xp L Γ XA (.Assign [.Subscript o i p] e pos) (.t U T R):=
 λm ρ N H s l fl H' S Lo h Q E k=>cps λC O=>aE (BD.symm.trans h) λv H1 h1 h=>aE h λx H2 B h=>aE h λy H3 D h=>u0 h λF e=>by
 clear h;clear h;clear h;clear h;subst e;refine O<|wpAny_Assign_Subscript (G m S Lo.loc h1 λu1 s1 Y N1 q a u=>J m q (Lo.ext a).loc B λu2 s2 ρ2 N2 d b w=>I m d (Lo.ext<|a.trans b).loc D λu3 s3 f N3 r c z=>sQ (X m).base r F (w.XW c) z ((u.XW b).XW c) λW n t j=>?_) M;have g:=((a.trans b).trans c).trans j;exact k W m f n t g.weak<|Lo.ext g
omit X in
theorem DH:∀{f:Nat},tf f d=none->∀p∈d,p.1≠f:=by
 induction d with
 |nil=>intro _ _ _ h;exact Xv h XZ
 |cons a r i=>
  intro f e p c;obtain⟨g,z⟩:=a;rw[iB]at e;by_cases b:g=f
  ·rw[Xr b]at e;exact cE e nt
  ·rw[Xq b]at e
   have e:=e;exact(XD.mp c).elim (λq=>q▸b) λc=>i e p c
omit X in
theorem St.field(S:St P Xp L m r N H s)(K:mK P)(Y:H[a]?=some (.i c l))(I:r[a]?=some d)(J:Dm c f=true)
  (M:(d.1,instObj (P.Z.c c) d.2)∈N) (h:(d.2,dictOf b n)∈N) (i:FN P.Z.f r N l b) (C:∀p∈l,Dm c p.1=true) (y:(l.map (·.1)).Nodup) (O:b0 r N v u) (t):
  (getL (P.Z.f f) b).isSome=true/\(putL (P.Z.f f) (PyData.keyHash P.w.params<|P.Z.f f) (.str (P.Z.f f) t) u b).length<=1000/\
  ∀(w) (D),Fr Xp L w m->News Xp L w (rep1 d.2 (dictOf (putL (P.Z.f f) (PyData.keyHash P.w.params<|P.Z.f f) (.str (P.Z.f f) t) u b)<|putN (P.Z.f f) b n) N)->
   St P Xp L m r (rep1 d.2 (dictOf (putL (P.Z.f f) (PyData.keyHash P.w.params<|P.Z.f f) (.str (P.Z.f f) t) u b)<|putN (P.Z.f f) b n) N) (H.set a<|.i c<|o0 f v l) {s with heap:=w,toks:=D}/\
   a5 aO r N r (rep1 d.2 (dictOf (putL (P.Z.f f) (PyData.keyHash P.w.params<|P.Z.f f) (.str (P.Z.f f) t) u b)<|putN (P.Z.f f) b n) N):=by
 have R:=kY J;have k:∀p∈l,P.Z.f p.1=P.Z.f f->p.1=f:=λp o e=>K.a _ _ (kY<|C p o).2 R.2 e;have B:d.2≠d.1:=λe=>by rw[e]at h;have h:=h;cases Xy Obj.data (eY S.j M h)
 refine⟨?_,?_,λw D T U=>?_⟩
 ·cases e:tf f l with
  |some z=>refine ag (i.get e k) λu hu _=>?_;refine aa hu ?_;rfl
  |none=>refine aa (i.miss λp o q=>DH e p o<|k p o q) ?_;rfl
 ·refine aa ((FN.put (names:=P.Z.f) (hsh:=PyData.keyHash P.w.params<|P.Z.f f) (t:=t) O i k).length) ?_
  have G:=qL 13 ((o0 f v l).map (·.1)) (sq y) λx Q=>by refine ag (XN.mp Q) λp o W=>?_;clear Q;subst W;exact(tK o).elim (λq=>q▸R.2) λq=>(kY<|C p q).2
  rw[X6]at G;exact Xz G (by decide)
 ·have E:=fY (N:=N) (o':=dictOf (putL (P.Z.f f) (PyData.keyHash P.w.params<|P.Z.f f) (.str (P.Z.f f) t) u b)<|putN (P.Z.f f) b n) (dj I).2
  exact S.upd (s':={s with heap:=w,toks:=D}) I Y (.inr rfl) T U (ao':=.i c<|o0 f v l)
   ⟨aX M<|X1 B,_,_,bu h,FN.put (O.XW E) (i.Yk E.toT) k,λp o=>(tK o).elim (λq=>q▸J) λq=>C p q,sq y⟩
theorem C8(ho:∀m,aq P cl A env Xp L m Γ o mo)(he:∀m,aq P cl A env Xp L m Γ e me)(hx:P.Z.f f=x)(hs:swapsWith e (some<|.Attribute o x p) pos.line env=pure false):
  fE P cl lp A env Xp L Γ XA (.Assign [.Attribute o x p] e pos) (.f mo f me):=
 λm ρ N H s l fl H' S Lo h Q E k=>cps λC u=>aE (Cn.symm.trans h) λv H1 h1 h=>aE h λx0 H2 h2 h=>fO h λa U h=>u0 h λh e=>PO h λc fs J h=>cv h λq hh=>by
 subst U e;clear h;clear h;clear h;clear h;clear h;clear h;obtain rfl:=aA hh;refine u<|plainObj_wpAny_Assign_Attribute (he m S Lo.loc h1 λu1 s1 ρ1 N1 R i T=>ho m R (Lo.ext i).loc h2 λu2 s2 D N2 b j F=>cps λC u=>ag F λd G W=>?_) hs;clear F;subst W;exact St.aa4 (X m) b J G _ λes n hm g r hq t I=>bX ((X m).a.dict c (kY q).1) λw y B=>bX (b.field (X m).a J G q hm g r hq t (T.XW j)<|s2.toks+1) λq1 q2 q3=>u<|dG hx (set_dict b.F (X m).base.K b.g I rfl B y ((X m).a.fld c f q).2.2 w q1 rfl (lg b.j g) q2 λY M O=>
  have z:=q3 Y _ M O
  k _ m D _ z.1 ((i.trans j).trans z.2).weak (Lo.ext<|(i.trans j).trans z.2))
omit X in
theorem P8{C:Prop}(h:mB H a=true)(k:∀l,H[a]?=some (.l l)->C):C:=by
 unfold mB at h;cases e:H[a]? with
 |none=>rw[e]at h;exact eH h nt
 |some o=>
  rw[e]at h;cases o with
  |l l=>exact k l e
  |_=>exact eH h nt
theorem EU(ho:∀m,aq P cl A env Xp L m Γ o mo)(he:∀m,aq P cl A env Xp L m Γ e me)(j:dM o=true)(O:au e=true)(hl:(apos.endLine==f.line)=true)(hi:interactive env=false)
  (hs:swapsWith (.Call (.Attribute o "append" apos) [e] [] f) none pos.line env=pure false):fE P cl lp A env Xp L Γ XA (.Expr (.Call (.Attribute o "append" apos) [e] [] f) pos)<|.a mo me:=
 λm ρ N H s l fl H' S Lo h Q E k=>cps λC D=>aE (AL.symm.trans h) λx0 H1 h1 h=>fO h λa e0 h=>ut h λp h=>aE h λv H2 h2 h=>u0 h λh e=>se h λkk M h=>cv h λhz hh=>P8 p λk0 y=>by
 subst e0 e;clear X h p;clear h;clear h;clear h;clear h;clear h;clear h;obtain rfl:=aA hh;refine D<|wpAny_Expr_any (MethodCall_ (ho m S Lo.loc h1 λu s1 ρ1 N1 x t G=>?_)<|oq j (by simp[O]) (by simp) hl) hi hs;refine ag G λd J e7=>?_;clear G;subst e7;refine bN (x.rep.2 _ _ _ J y) λ_ vs0 n0 B _=>kl_method x.g B PySem.F.slot_list_append PySem.F.type_list_append<|lr O<|he m x (Lo.ext t).loc h2 λu2 s2 F T c w U=>cps λC D=>?_;have g:=w.get J;refine bN (c.rep.2 _ _ _ g M) λY vs n q R=>D<|append_at (hsz:=by refine aa Y8<|aa R.length ?_;exact gc hz) (c.g _ q).1 λh5 r i=>?_;rw[List.push_toArray]at i;have I:=fY (N:=T) (o':=W.listOf (List.toArray<|vs++[u2])<|n+1) (dj g).1;have z:=c.upd (s':={s2 with heap:=h5}) g M (.inl rfl) (wN c.F (λb o j e=>r.extBut b o j e) (c.g _ q).2.1 (c.g _ q).2.2) (qg c.g q (λb o j e=>r.extBut b o j e) i) (ao':=.l<|kk++[v]) ⟨Y,_,n+1,bu q,(R.XW I).append<|XI.one<|U.XW I⟩;exact k _ m F _ z.1 ((t.trans w).trans z.2).weak<|Lo.ext<|(t.trans w).trans z.2
theorem E4(R:∀m,aq P cl A env Xp L m Γ o mo)(I:dM o=true)(O:(apos.endLine==c.line)=true)(M:interactive env=false)
  (T:swapsWith (.Call (.Attribute o "reverse" apos) [] [] c) none pos.line env=pure false):fE P cl lp A env Xp L Γ XA (.Expr (.Call (.Attribute o "reverse" apos) [] [] c) pos)<|.rvs mo:=
 λm ρ N H s l fl H' S Lo h Q E k=>cps λC Y=>aE (Gw.symm.trans h) λx0 H1 h1 h=>fO h λa y h=>u0 h λh e=>se h λkk q h=>cv h λU J=>by
 subst y e;clear X h;clear h;clear h;clear h;clear h;obtain rfl:=aA J;refine Y<|wpAny_Expr_any (MethodCall_ (R m S Lo.loc h1 λu s1 i w b j p=>?_)<|oq I rfl (by decide) O) M T;refine ag p λd f B=>?_;clear p;subst B;refine bN (b.rep.2 _ _ _ f q) λx v n g r=>kl_method b.g g PySem.F.slot_list_reverse PySem.F.type_list_reverse<|lJ<|kl_reverse b.F b.g rfl (lg b.j g) (by show v.length<=_;refine aa r.length ?_;exact gc U) λG F t=>?_;have D:=fY (N:=w) (o':=W.listOf (List.toArray<|v.toArray.toList.reverse) n) (dj f).1;have z:=b.upd (s':={s1 with heap:=G}) f q (.inl rfl) F t (ao':=.l kk.reverse) ⟨x,_,n,bu g,(r.XW D).reverse⟩;exact k _ m i _ z.1 (j.trans z.2).weak<|Lo.ext<|j.trans z.2
include K
theorem CD(hv:∀m,aq P cl A env Xp L m Γ (.Name x p)<|.v i)(I:∀m,aq P cl A env Xp L m Γ e me)(w:Γ.vars[i]?=some x)(G:a7 x=true):
  fE P cl lp A env Xp L Γ XA (.AugAssign (.Name x p) (wV op) e pos) (.v i op me):=
 λm ρ N H s l fl H' S Lo h Q E k=>cps λC c=>iM (JX.symm.trans h) λx0 J h=>aE h λy H1 h1 h=>by
 refine c ?_;unfold MF at h;cases hz:d5 op x0 y with
 |none=>rw[hz]at h;exact cE h nt
 |some z=>
  rw[hz]at h;cases h;refine wpAny_AugAssign_Name ?_;simp only[a7,Xu,YE]at G;refine am (Lo.loc i _<|LD J) λx' u g F g3=>?_;cases w.symm.trans g;have n:wpAny (model P.p P.w) A (eval e env) (λv d=>wpAny (model P.p P.w) A (inplaceOp (wV op) u v) (λr f=>wpAny (model P.p P.w) A (storeName env x r) (λ_=>Q .next) E f) E d) E s:=
   I m S Lo.loc h1 λu1 s1 D N1 W j V1=>u8 W hz (F.XW j) V1 λu2 s2 t V2=>on K t (Lo.ext j) w V2 λs3 m3 U Y R T=>k s3 m3 D U Y (j.weak.Yl R (Lo.ext j).mem) T
  refine cps λC c=>?_;clear K Lo g F h h1 I J hv w hz k;clear h;rcases g3 with⟨a,rfl,b⟩|⟨a,o,O,b,B,M,q⟩|⟨a|a,cc,o,b,B,M,q⟩
  ·exact c<|Z3 (X m).g a S.F.ns b n
  ·exact c<|Z3 (X m).g a (M.ns (S.g _ b).1) q n
  ·exact c<|wpAny_loadName_cell (X m).g a b ⟨o,(S.g _ B).1,q⟩ n
  ·exact c<|wpAny_loadName_free (X m).g a b ⟨o,(S.g _ B).1,q⟩ n G.2
omit K in
theorem DW(ho:∀m,aq P cl A env Xp L m Γ o mo)(hi:∀m,aq P cl A env Xp L m Γ i mi)(Y:∀m,aq P cl A env Xp L m Γ e me)
  (W:∀j g n,augStore i j g n=(do holding [n,j,g] (PySem.setItem j g n);release [n,j,g] [];pure .next)):
  fE P cl lp A env Xp L Γ XA (.AugAssign (.Subscript o i p) (wV op) e pos) (.u mo mi op me):=
 λm ρ N H s l fl H' S Lo h Q E k=>cps λC kC=>aE (CC.symm.trans h) λx H1 h1 h=>aE h λy H2 R h=>iM h λold c h=>aE h λv H3 T h=>iM h λn b h=>u0 h λU e=>by
 clear h;clear h;clear h;clear h;clear h;clear h;subst e;refine kC<|wpAny_AugAssign_Subscript_any (ho m S Lo.loc h1 λu1 s1 ρ1 N1 F q w=>hi m F (Lo.ext q).loc R λu2 s2 ρ2 N2 a d z=>(tz (E:=E) a c (w.XW d) z).2 λr tk hr=>Y m (a.toks tk) (Lo.ext<|q.trans d).loc T λu3 s3 t N3 G f M=>u8 G b (hr.XW f) M λu4 s4 I O=>sQ (X m).base I U ((w.XW d).XW f) (z.XW f) O λs5 D J B=>?_) W;have u:=((q.trans d).trans f).trans B;exact k s5 m t D J u.weak<|Lo.ext u
end
section
variable{P:bi}{cl:Cl}{lp:ZD}{A:Around}{env:Env}{Xp:Heap}{L:Addr}{Γ:NC}{XA:ZJ}
inductive Jd (Γ:NC):List Expr->List Nat->Prop
 |nil:Jd Γ [] []
 |cons {x:Str}{p:Pos}{i:Nat}{es:List Expr}{is:List Nat}:Γ.vars[i]?=some x->Jd Γ es is->Jd Γ (.Name x p::es) (i::is)
def Jd.len (h:Jd Γ e a)(env):(assignEach e env).length=a.length/\(assignEach e env).findIdx? (·.1)=none:=by
 induction h with
 |nil=>exact⟨rfl,rfl⟩
 | @cons x p i e a c _ b=>refine⟨by show(assignEach e env).length+1=a.length+1;exact aa b.1 rfl,?_⟩;refine aa (List.findIdx?_cons) ?_;simp[b.2]
theorem yI:∀{is:List Nat}{a:List V}{l b:Lo},ZI l is a=some b->is.length=a.length
 | [],a,_,_,h=>by cases a with |nil=>rfl|cons=>exact cE h nt
 |i::is,a,l,b,h=>by cases a with |nil=>exact cE h nt|cons v a=>exact Xy (·+1)<|yI (is:=is) h
def tX (K:gn env L Γ)(F:Jd Γ n is):∀{m:Str->Option Value}{a:Yp}{N:Led}{H:Hp}{s:Shared}{l l':Lo}{b:List V}{c:List Value},St P Xp L m a N H s->dk env L m Γ.vars a N l->XI a N b c->ZI l is b=some l'->
  ∀{Q:Unit->Shared->Prop}{E:Value->Shared->Prop},(∀q o d,St P Xp L o a d H q->a5 (pL env) a N a d->dk env L o Γ.vars a d l'->Q () q)->
  wpAny (model P.p P.w) A (assignInOrder ((assignEach n env).map (·.2)) c) Q E s:=by
 induction F with
 |nil=>
  intro m a N H s l l' b c S Lo f h Q E k;cases b with
  |nil=>cases h;exact Yj<|k s m N S (.refl _ _ _) Lo
  |cons=>exact cE h nt
 | @cons x p i n is G _ I=>
  intro m a N H s l l' b c S Lo f h Q E k;cases b with
  |nil=>exact cE h nt
  |cons v b=>refine cps λC J=>am f λu r B h1 D=>?_;clear f;subst B;refine J ?_;exact XC<|wpAny_holding<|wpAny_assign_Name<|on K S Lo G h1 λU T R z g j=>I z j (D.Yk<|Lo.toT S g) h λO M y e t w=>k O M y e (g.Yl t j.mem) w
def St.abd (S:St P Xp L m a N H s)(k:Heap.ExtBut s.heap.objs.size s.heap h):St P Xp L m a N H {s with heap:=h}:=
 S.kept (tk:=s.toks) λb o e=>k b o (Yy<|YC e) e
variable(X:∀m,EX P cl A env Xp L m Γ)(K:gn env L Γ)
include X K
theorem G5(D:∀m,aq P cl A env Xp L m Γ e R)(g:Jd Γ f q)(G:swapsWithSole [.Tuple f r t] e pos.line env=pure false)(I:swappedStores [.Tuple f r t] e env=pure none):
  fE P cl lp A env Xp L Γ XA (.Assign [.Tuple f r t] e pos) (.unp q R):=λm ρ N H s l fl U S Lo h Q E k=>aE (zK.symm.trans h) λx W h1 h=>by
 refine cps λC M=>?_;cases b:Ec x λv=>ZI l q v with
 |none=>rw[b]at h;exact cE h nt
 |some l'=>rw[b]at h;cases h;refine ym b λv e b=>?_;subst e;refine M<|Assign_Tuple (D m S Lo.loc h1 λu s1 i Y j c o=>cG o λa us n B F ho p=>?_) G I;clear o;subst B;exact wpAny_assign_Tuple (X m).h (jT j.g F) (aa (g.len env).1<|aa (yI b)<|aa Y8<|aa p.length rfl) (g.len env).2 λh' J=>tX K g (j.abd J) (Lo.ext c) p b λT O z d w y=>k T O i z d (c.weak.Yl w (Lo.ext c).mem) y
omit X K in
theorem Qk{x:Option<|Fl×Hp}{y:(Lo×Hp)⊕(Fl×Hp)}{C:Prop}(h:QX x=some y)(k:∀l H,x=some (.n l,H)->y=.inl (l,H)->C)(b:∀v H,x=some (.r v,H)->y=.inr (.r v,H)->C):C:=by cases x with |none=>exact cQ h|some p=>obtain⟨a,H⟩:=p;cases a with |n l=>exact k l H rfl (aA h).symm|r v=>exact b v H rfl (aA h).symm|_=>exact cQ h
def VD (cl:Cl)(lp:ZD)(b:ME)(a:List MS):Lo×Hp->Option ((Lo×Hp)⊕(Fl×Hp)):=λs=>bV (ai cl s.1 b s.2) λv H=>rM v λt=>if t then QX (XU cl lp s.1 H a)else some<|.inr (.n s.1,H)
def WJ (P:bi)(env:Env)(Xp:Heap)(L:Addr)(Γ:NC)(d:Yp)(N:Led)(f:Lo×Hp->Option ((Lo×Hp)⊕(Fl×Hp)))(r:Fl×Hp)(q:Nat)(s:Shared):Prop:=
 ∀G:Prop,(∀c a b l H,fP f q (l,H)=some r->St P Xp L c a b H s->dk env L c Γ.vars a b l->a5 (pL env) d N a b->G)->G
theorem zT{c:Expr}{D:ME}{b:List Stmt}{B:List MS}{pos:Pos}(U:∀i s r,lp i s=some r->∃n,fP i n s=some r)(T:∀m,iQ P cl A env Xp L m Γ c D)(hb:kF P cl lp A env Xp L Γ XA b B):
  fE P cl lp A env Xp L Γ XA (.While c b [] pos) (.w D B):=λm ρ N H s l fl H' S Lo h Q E k=>by
 obtain⟨n,hn⟩:=U _ _ _<|xN.symm.trans h;refine wpAny_While<|codeAny_whileLoop (WJ P env Xp L Γ ρ N (VD cl lp D B) (fl,H')) (λq s' q0=>Ua λQ1 R Ea=>q0 _ λz ρ1 N1 l1 H1 a M d F=>cps λC W=>?_) n λ_ k=>k m ρ N l H hn S Lo<|.refl _ _ _;cases q with
 |zero=>exact cE a nt
 |succ q=>
  refine iM (show oB (VD cl lp D B (l1,H1)) _=_ from a) λst o a=>aE (show bV _ _=_ from o) λw H2 h1 y=>qN y λt e y=>?_;subst e;cases t with
  |false=>cases y;cases a;exact W<|T z M d.loc h1 λs2 p I f g=>R _ _<|wpAny_execs_nil<|k s2 z p I f (F.Yl g.weak d.mem)<|d.ext g
  |true=>
   refine Qk y (λl3 H3 j e=>?_) λv H3 j e=>?_
   ·clear y o;subst e
    exact W<|T z M d.loc h1 λs2 p I f g=>R _ _<|hb f (d.ext g) j λs3 Y x J O G L3=>⟨q,Zp _,λ_ k=>k Y x J l3 H3 a O L3<|(F.Yl g.weak d.mem).Yl G (d.ext g).mem⟩
   ·clear y o;subst e
    cases a;exact W<|T z M d.loc h1 λs2 p I f g=>R _ _<|hb f (d.ext g) j λu s3 Y x J O G V3=>k u s3 Y x J O ((F.Yl g.weak d.mem).Yl G (d.ext g).mem) V3
omit X K in
theorem a5.abe:a5 cs b N b<|(I,obj)::N:=⟨⟨[],by simp⟩,λ_ a _ _=>.tail _ a,λ_ _ h=>h⟩
omit X K in
theorem a5.acd(E:a5 cs f N a b)(h:∀p∈N,p.1≠I):a5 cs f N a<|Mine.rep1 I o b:=⟨E.pre,λp c e d=>aX (E.keep p c e d)<|h p c,E.apart⟩
omit X K in
theorem a5.ac8(E:a5 cs f N a b)(h:∀p∈N,p.1≠I):a5 cs f N a<|Mine.but I b:=⟨E.pre,λp c e d=>fU.mpr ⟨E.keep p c e d,h p c⟩,E.apart⟩
omit X in
theorem dk.ZY(S:St P Xp L m f N H s)(Lo:dk env L m Γ.vars f N l)(w:(I,obj)∈N)(d:∃q,obj.data=.fields q)(t:∀p∈N,p.1≠I->p∈N')(G:j8 f N f N'):dk env L m Γ.vars f N' l:=by
 refine Xs d λq d=>⟨λi v F=>?_,λa E=>?_⟩
 ·refine am (Lo.loc i v F) λx u h1 k h=>⟨x,u,h1,k.Yk G,(cps λC y=>?_)⟩
  rcases h with r|⟨a,B,z,b,g,n⟩|⟨a,c,B,D,g,n,j⟩
  ·exact y<|.inl r
  ·exact Xv K.h (S.g _ b).2.1
  ·exact y<|.inr<|.inr ⟨a,c,B,D,t _ g (uV S.j g w λe=>by rw[e,d]at j;cases j),n,j⟩
 ·exact am (Lo.cells a E) λo v h1 k h=>⟨o,v,t _ h1 (uV S.j h1 w λe=>by rw[e,d]at h;cases h),k,h⟩
omit X K in
theorem j8.trans(x:j8 j N b d)(y:j8 b d c abp):j8 j N c abp:=by exact Xs x.pre λt e=>Xs y.pre λi f=>⟨⟨t++i,by rw[f,e,XM]⟩,λa v n h g=>have p:=x.keep _ _ _ h g;y.keep _ _ _ p.1 p.2⟩
omit X K in
theorem xu{v:List V}{l:Lo}{H:Hp}{r:Fl×Hp}(h:aK f o v l H=some r):o H=true:=by cases v<;> exact ut h λq _=>q
def FJ (P:bi)(env:Env)(Xp:Heap)(L:Addr)(Γ:NC)(I:Addr)(i:Nat->Obj->Prop)(d:Yp)(N:Led)(f:V->Lo->Hp->Option (Fl×Hp))(e:Hp->Bool)(v:List V)(r:Fl×Hp)(q:Nat)(s:Shared):Prop:=
 ∀G:Prop,(∀c a b l H j o,q=v.length+1-j->j<=v.length->St P Xp L c a b H s->dk env L c Γ.vars a b l->a5 (pL env) d N a b->j8 d N a b->(I,o)∈b->i j o->¬own a I->¬pL env I->aK f e (v.drop j) l H=some r->G)->G
section
variable{I:Addr}{io:Nat->Obj->Prop}{ρ:Yp}{N:Led}{f:V->Lo->Hp->Option (Fl×Hp)}{ok:Hp->Bool}{vs:List V}{r:Fl×Hp}
omit X K in
theorem FJ.mk{s':Shared}{c:Str->Option Value}{a:Yp}{b:Led}{l:Lo}{H:Hp}{j:Nat}{o:Obj}(e:j<=vs.length)(S:St P Xp L c a b H s')(Lo:dk env L c Γ.vars a b l)(E:a5 (pL env) ρ N a b)(T:j8 ρ N a b)(i:(I,o)∈b)(h:io j o)(n:¬own a I)(d:¬pL env I)
  (g:aK f ok (vs.drop j) l H=some r):FJ P env Xp L Γ I io ρ N f ok vs r (vs.length+1-j) s':=λ_ k=>k _ _ _ _ _ _ _ rfl e S Lo E T i h n d g
omit X in
theorem yS{b:List Stmt}{W:List MS}(F:kF P cl lp A env Xp L Γ XA b W){p:Yp}{B:Led}{Q:Flow->Shared->Prop}{E':Value->Shared->Prop}(Ex:a5 (pL env) p B ρ N)(hc:∀a,pL env a->∃o,(a,o)∈N)(k:∀v,r.1=.r v->∀u s' m' g w,St P Xp L m' g w r.2 s'->a5 (pL env) p B g w->b0 g w v u->Q (.ret u) s')
  {J j:Nat} (e:J=vs.length+1-j) {s2:Shared}{O:Str->Option Value}{c:Yp}{n:Led}{M:Lo}{z:Hp}{d:Obj} (G:j+1<=vs.length) (S2:St P Xp L O c n z s2) (i:dk env L O Γ.vars c n M) (y:a5 (pL env) ρ N c n) (T2:j8 ρ N c n)
  (U:(I,d)∈n) (x:io (j+1) d) (Y:¬own c I) (D:¬pL env I) (t:fx (XU cl lp M z W) (λl H=>aK f ok (vs.drop<|j+1) l H)=some r) {R:Flow->Shared->Prop}
  (h1:∀s,(∃q',q'<J/\FJ P env Xp L Γ I io ρ N f ok vs r q' s)->R .next s) (h2:∀v s,Q (.ret v) s->R (.ret v) s):wpAny (model P.p P.w) A (execs b env) R E' s2:=by
 obtain⟨fl,H'⟩:=r;refine SY t (λl3 H3 h t=>?_) λv e h=>?_
 ·exact F S2 i h λs T q C S E L3=>h1 s ⟨_,wY e G,FJ.mk (j:=j+1) G S L3 (y.Yl E i.mem) (T2.trans<|i.toT S2 E) (E.keep _ U Y D) x (E.apart _ U Y) D t⟩
 ·clear t h1;subst e
  exact F S2 i h λu3 s T q C S E V3=>h2 u3 s<|k v rfl u3 s T q C S (Ex.Yl (y.Yl E i.mem) hc) V3
end
theorem o7{x:Str}{px pos:Pos}{c:Expr}{b:List Stmt}{mb:List MS}{i:Nat}(hx:Γ.vars[i]?=some x)(hb:kF P cl lp A env Xp L Γ XA b mb)(hfs:∀x,foldedSetIterable c env x=pure x)
  {m:Str->Option Value}{ρ:Yp}{N:Led}{H1:Hp}{s:Shared}{l:Lo}{ok:Hp->Bool}{G:List V}{fl:Fl}{H:Hp}{E:Value->Shared->Prop} (Lo:dk env L m Γ.vars ρ N l)
  (D:∀(E:Value->Shared->Prop) (Q:Value->Shared->Prop),(∀f N',a5 aO ρ N f N'->jX P A Xp L m f N' H1 ok G Q)->wpAny (model P.p P.w) A (eval c env) (λxv F=>wpAny (model P.p P.w) A (pyIter xv) Q E F) E s)
  (B:aK (λv R H=>XU cl lp (R.set i<|some v) H mb) ok G l H1=some (fl,H)) {Q:Flow->Shared->Prop} (k:DN P env Xp L Γ XA ρ N H Q E fl):
  wpAny (model P.p P.w) A (exec (.For (.Name x px) c b [] pos) env) Q E s:=by
 refine wpAny_For (D E _ λJ N1 M I obj s1 io S1 t hIo hio nx hif aca=>?_) hfs;have d:=(Lo.ext M).mem;refine codeAny_forLoop (FJ P env Xp L Γ I io J N1 (λv R H=>XU cl lp (R.set i<|some v) H mb) ok G (fl,H)) (λk0 s' q0=>q0 _ λm' f N' R H'' j obj' e hj S z E' T' o q T cI g=>?_) (G.length+1)
  (FJ.mk (j:=0) (X5 _) S1 ((Lo.ext M).ext .abe:dk env L m Γ.vars J ((I,obj)::N1) l) .abe ⟨⟨[],by simp⟩,λa G n h ho=>⟨.tail _ h,ho⟩⟩ (.head _) hio hIo (λhc=>(d I hc).elim λ_ hm=>t _ hm rfl) B)
 have w:=hif _ _ q;have U:bC obj':=w.elim λ_ h=>.fields h;refine nx S T' o q (xu g) hj (λv u r h2 tk ev hvu C y hg2=>?_) λh2 tk hin y=>?_
 ·have T1:=S.turned (tk:=tk) o T U y hg2
  have x1:=eT (ρ:=f) (obj':=r) S.j o U;have W:=dk.ZY K S z o w (N':=rep1 I r N') (λp hp he=>aX hp he) x1;rw[vy ev]at g;exact wpAny_assign_Name<|on K T1 W hx (hvu.Yk x1) λs2 m2 N2 Y O L2=>ut g λ_ g=>yS K hb M.weak d (λv e=>by subst e;exact k) e (Yo.mp ev).1 Y L2 ((E'.acd t).Yl O W.mem) ((T'.trans x1).trans<|W.toT T1 O)
   (O.keep _ (bu o) T cI) C (O.apart _ (bu o) T) cI g (λ_ h=>h) (λ_ _ h=>h)
 ·have g:=g
  rw[hin,drop_length]at g;refine ut g λ_ g=>aQ g λe1 e2=>?_;clear g B q0;clear g;subst e1 e2;exact wpAny_execs_nil<|k _ m' f _ (S.gone (tk:=tk) o T U y) (M.weak.Yl (E'.ac8 t) d)<|dk.ZY K S z o w (N':=but I N') (λp hp he=>fU.mpr ⟨hp,he⟩)<|jo S.j o U
end
section
variable{P:bi}{cl:Cl}{lp:ZD}{A:Around}{env:Env}{Xp:Heap}{L:Addr}{Γ:NC}{XA:ZJ}
variable(X:∀m,EX P cl A env Xp L m Γ)(K:gn env L Γ)
include X K
theorem C4(g:Γ.vars[i]?=some x)(f:∀m,aq P cl A env Xp L m Γ iter o)(c:kF P cl lp A env Xp L Γ XA b n)(a:∀x,foldedSetIterable iter env x=pure x):
  fE P cl lp A env Xp L Γ XA (.For (.Name x v) iter b [] pos) (.g i o n):=λm w N H s l t p S Lo h Q E k=>
 aE (rG.symm.trans h) λu r h1 h=>iM h λq d e=>o7 X K g c a Lo (λE Q j=>vJ (X m) (f m) S Lo.loc h1 d j) e k
theorem CL(q:Γ.vars[i]?=some x)(o:hF "range" Γ=true)(c:au d=true)(j:∀m,aq P cl A env Xp L m Γ d v)(f:kF P cl lp A env Xp L Γ XA b u):
  fE P cl lp A env Xp L Γ XA (.For (.Name x F) (.Call (.Name "range" p) [d] [] D) b [] pos) (.h i v u):=λm G N H s l B y S Lo h Q E k=>cps λC r=>aE (Ba.symm.trans h) λw z h1 h=>bH h λn e h=>cv h λa g=>by
 subst e;refine r ?_;rw[lQ]at a;exact o7 X K q f (by intro _;rfl) Lo (λE Q t=>m7 (X m) o c (j m) S Lo.loc h1 a.1 a.2 t) g k
theorem Ax(q:Γ.vars[i]?=some x)(o:hF "range" Γ=true)(c:au d=true)(j:∀m,aq P cl A env Xp L m Γ d v)(f:kF P cl lp A env Xp L Γ XA b u):
  fE P cl lp A env Xp L Γ XA (.For (.Name x I) (.Call (.Name "range" p) [d,.UnaryOp .USub (.Constant (.int 1) D J) M,.UnaryOp .USub (.Constant (.int 1) F O) R] [] G) b [] pos) (.ZA i v u):=λm T N H s l B y S Lo h Q E k=>cps λC r=>aE (yJ.symm.trans h) λw z h1 h=>bH h λn e h=>cv h λa g=>by
 subst e;refine r ?_;rw[BV]at a;exact o7 X K q f (by intro _;rfl) Lo (λE Q t=>zN (X m) o c (j m) S Lo.loc h1 a.1 a.2 t) g k
theorem D7(o:Γ.vars[i]?=some x)(n:hF "reversed" Γ=true)(a:au c=true)(g:∀m,aq P cl A env Xp L m Γ c v)(d:kF P cl lp A env Xp L Γ XA b u):
  fE P cl lp A env Xp L Γ XA (.For (.Name x G) (.Call (.Name "reversed" p) [c] [] F) b [] pos) (.aah i v u):=λm I N H s l B y S Lo h Q E k=>cps λC t=>aE (B6.symm.trans h) λw z h1 h=>fO h λr e h=>se h λD j h=>cv h λ_ f=>by
 subst e;exact t<|o7 X K o d (by intro _;rfl) Lo (λE Q q=>IU (X m) n a (g m) S Lo.loc h1 j q) f k
theorem v9(hr:hF "range" Γ=true)(R:au J=true)(W:fG env Γ x scope cls t F)(hn:∀m,aq P cl A env Xp L m Γ J mn)
  (he:∀m C,aq P cl A (compEnvC scope cls C env) Xp L m F elt me) (hc:∀m C,iQ P cl A (compEnvC scope cls C env) Xp L m F c mc) (hy:Γ.vars[i]?=some y) (hk:env.kindOf y=some .local)
  (T:swapsWith (.ListComp elt [⟨.Name x px,.Call (.Name "range" B) [J] [] p3,[c],0⟩] scope pos) (some<|.Name y py) D.line env=pure true):
  fE P cl lp A env Xp L Γ XA (.Assign [.Name y py] (.ListComp elt [⟨.Name x px,.Call (.Name "range" B) [J] [] p3,[c],0⟩] scope pos) D) (.s i<|.F me mn mc t):=λm ρ N H s l fl H' S Lo h Q E k=>cps λC I=>aE (we.symm.trans h) λv H3 d h=>aE d λw H1 h1 d=>bH d λn e0 d=>cv d λf d=>aE d λxs H2 M d=>A8 d λhl e1 e2=>by
 subst e0 e1 e2;cases h;refine I ?_;rw[lQ]at f;refine xP (X m) W T K.h hk K.f (λQ kk=>m7 (X m) hr R (hn m) S Lo.loc h1 f.1 f.2 kk) M hl (λG Y E1 C=>qK (X m) W (Lo.ext E1).loc C (he m C)<|hc m C) (by intro _;rfl) λu s' G Y S' U V'=>?_;have p:=Lo.ext U;refine k s' _ G Y S' U.weak ⟨λj w O=>?_,p.cells⟩;rcases zf O with⟨rfl,rfl⟩|⟨e,O⟩
 ·exact⟨y,u,hy,V',.inl ⟨hk,K.h,Xr rfl⟩⟩
 ·refine am (p.loc j w O) λz u' g g2 g3=>⟨z,u',g,g2,(cps λC I=>?_)⟩
  rcases g3 with⟨a,b,c⟩|⟨a,o,aei,b,_⟩|r
  ·exact I<|.inl ⟨a,b,(Xq (λq=>e (qi K.j hy<|q▸g):z≠y)).trans c⟩
  ·exact Xv K.h (S'.g _ b).2.1
  ·exact I<|.inr<|.inr r
end
abbrev LI (a:Addr)(i:Nat)(o:Obj):Prop:=o.cls=.type "list_iterator"/\o.data=.fields #[.ref a,.int i 0]
noncomputable abbrev VA(a:Addr):Obj:={cls:=.type "list_iterator",data:=.fields #[.ref a,.int 0 0]}
abbrev Ta (c:Cl)(a:ZD)(i j:Nat)(m:List MS)(v:V)(l:Lo)(H:Hp):Option<|Fl×Hp:=KS v λx y=>XU c a ((l.set i<|some x).set j<|some y) H m
def NS {v:V}{f:V->V->Option (Fl×Hp)}{g:Lo->Hp->Option (Fl×Hp)}{r:Fl×Hp}(h:fx (KS v f) g=some r){Cx:Prop}(k:∀a b,v=.t [a,b]->fx (f a b) g=some r->Cx):Cx:=by
 cases v with
 |t l=>
  cases l with
  |nil=>exact cE h nt
  |cons a l=>cases l with
   |nil=>exact cE h nt
   |cons b l=>cases l with
    |nil=>exact k a b rfl h
    |cons _ _=>exact cE h nt
 |_=>exact cE h nt
section
variable{prog:Program}{w:World}{A:Around}{E:Value->Shared->Prop}{s:Shared}
def Iv (i:s.heap.get? a=some (W.listOf x n))(g:f x=#[])(d:x.size<=sizeLine)
  (h:∀b c,Heap.SameBut a s.heap b->b.get? a=some (W.listOf #[] c)->Q () {s with heap:=b}):wpAny M A (Builtin.List.listUpdate (.ref a) f) Q E s:=by
 refine listUpdate_at i rfl ?_ d (by refine aa g ?_;exact X5 _);obtain⟨c,e⟩:∃c,(s.heap.update a<|Obj.mapSeq f).get? a=some (seqObj "list" (f x) c):=⟨_,get?_update_seq i f⟩;rw[g]at e;exact h _ c (Heap.SameBut.update ..) e
def JG (j:s.heap.get? l=some (W.listOf e n))(y:s.heap.IsSliceOf q .none .none .none)(o:e.size<=sizeLine)
  (h:∀g c,Heap.SameBut l s.heap g->g.get? l=some (W.listOf #[] c)->Q () {s with heap:=g}):wpAny (model prog w) A (delItem (.ref l)<|.ref q) Q E s:=by
 refine cps λC z=>aj (id y) λp b i d=>?_;refine z<|wpAny_delItem_slot (⟨_,j,rfl⟩) (rfl) PySem.F.slot_list_delitem<|wpAny_call_entry PySem.F.slot_list_delitem (⟨_,j,rfl⟩) PySem.F.entry_list_delitem ?_<|PySem.F.args_list_delitem_2 _ _;show wpAny _ _ (Builtin.List.listSubscript? (.ref q)>>=_) _ _ s;refine XC<|XC<|wpAny_specialOf (⟨p,b,i⟩) slice_no_index<|Yj<|XC<|wpAny_typeOf (⟨p,b,i⟩)<|XC<|XC<|ZM b d (x:=.none) rfl (XC<|wpAny_listPart .none<|XC<|ZM b d (x:=.none) rfl (XC<|wpAny_listPart .none<|XC<|ZM b d (x:=.none) rfl (XC<|wpAny_listPart .none<|Yj<|XC<|listItems_at j rfl (XC<|wpAny_of_eq (sliceIndices_raw none none none e.size<|by trivial)<|XC<|wpAny_rule<|XC<|Iv j ?_ o λg c m u=>?_))))
 ·have:∀(f:Value×Nat->Option Value),(∀a∈e.toList.zipIdx,f a=none)->(e.toList.zipIdx.filterMap f).toArray=#[]:=λf t=>by exact aa (List.filterMap_eq_nil_iff.mpr t) rfl
  refine this _ λa r=>?_;obtain⟨x,k⟩:=a;show(if(if(1:Int)>0 then decide ((0:Int)<=(k:Int))&&decide ((k:Int)<(e.size:Int))&&(((k:Int)-0) % 1==0)else _)=true then none else some x)=none;have v:k<e.size:=by have:=List.mem_zipIdx r;simpa using this.2.1
  simp[v]
 ·exact XC<|wpAny_letGo<|Yj ⟨_,rfl,h g c m u⟩
end
section
variable{P:bi}{cl:Cl}{lp:ZD}{A:Around}{env:Env}{Xp:Heap}{L:Addr}{Γ:NC}{XA:ZJ}
variable(X:∀m,EX P cl A env Xp L m Γ)(K:gn env L Γ)
include X
theorem Ah(J:∀m,aq P cl A env Xp L m Γ o R):fE P cl lp A env Xp L Γ XA (.Delete [.Subscript o (.Slice none none none sp) p] pos)<|.c R:=
 λm ρ N H s l fl W S Lo h Q E k=>cps λC i=>aE (yv.symm.trans h) λx0 Y h1 h=>fO h λa B h=>u0 h λh e=>se h λkk t h=>cv h λO I=>by
 subst B e;clear h;clear h;clear h;clear h;obtain rfl:=aA I;refine i<|wpAny_Delete<|wpAny_deleteEach_cons<|wpAny_delete_Subscript<|J m S Lo.loc h1 λu U j N1 w q x=>wpAny_Slice<|evalPart_none_step<|evalPart_none_step<|evalPart_none_step<|cps λC i=>ag x λd r D=>?_;subst D;have T:=w.grow (o:={cls:=.type "slice",data:=.fields #[.none,.none,.none]});refine bN (T.rep.2 _ _ _ r t) λy vs n f M=>i<|JG (T.g _ f).1 (Heap.IsSliceOf.new ..) (by refine aa Y8<|aa M.length ?_;exact gc O) λF c v G=>wpAny_deleteEach_nil ?_;have z:=T.upd (s':={U with heap:=F}) r t (.inl rfl) (wN T.F (λb o g e=>v.extBut b o g e) (T.g _ f).2.1 (T.g _ f).2.2) (qg T.g f (λb o g e=>v.extBut b o g e) G) (ao':=.l []) ⟨y,[],c,bu f,rfl⟩;exact k _ m j _ z.1 (q.trans z.2).weak<|Lo.ext<|q.trans z.2
include K
theorem C9{x y:Str}{px py tp pos:Pos}{kk:Nat}{f:Expr}{mi:ME}{b:List Stmt}{mb:List MS}{i j:Nat}(hx:Γ.vars[i]?=some x)(hy:Γ.vars[j]?=some y)(hi:∀m,aq P cl A env Xp L m Γ f mi)(hb:kF P cl lp A env Xp L Γ XA b mb)
  (hfs:∀x,foldedSetIterable f env x=pure x):fE P cl lp A env Xp L Γ XA (.For (.Tuple [.Name x px,.Name y py] kk tp) f b [] pos)<|.ZG i j mi mb:=λm ρ N H s l fl H' S Lo h Q E k=>cps λC kC=>aE (Bc.symm.trans h) λx0 H1 h1 h=>fO h λr e0 h=>se h λvs hk h=>cv h λhz hh=>by
 subst e0;refine kC<|wpAny_For (hi m S Lo.loc h1 λu s0 z N1 S0 E1 V1=>ag V1 λc hc T=>?_) hfs;clear V1;subst T;refine bN (S0.rep.2 _ _ _ hc hk) λ_ us n W hvl=>wpAny_pyIter_list (fC S0.g W)<|bX (S0.Zl<|VA c.1) λS1 d M=>?_;have nx:mW P A Xp L z N1 s0.heap.objs.size (LI c.1) (a3 r vs) vs:=uY (P:=P) (Xp:=Xp) (L:=L) (ρ₀:=z) (N₀:=N1) (vs:=vs) (X m).h hc<|d _ W;revert S1 d M nx;refine UE s0.heap.objs.size λI S1 d M nx=>?_;have o:=(Lo.ext E1).mem;refine codeAny_forLoop_any (FJ P env Xp L Γ I (LI c.1) z N1 (Ta cl lp i j mb) (a3 r vs) vs (fl,H')) (λk0 s' q0=>Ua λQ1 U Ea=>q0 _ λm' Y N' l' H'' t obj' e hj J R E' T' w B oI cI g=>?_) (vs.length+1)
  (FJ.mk (j:=0) (X5 _) S1 ((Lo.ext E1).ext .abe:dk env L m Γ.vars z ((I,(VA c.1))::N1) l) .abe ⟨⟨[],by simp⟩,λa vs n h ho=>⟨.tail _ h,ho⟩⟩ (.head _) ⟨rfl,rfl⟩ M (λhc=>(o I hc).elim λ_ hm=>d _ hm rfl) hh)
 have z9:=B.2;have tI:bC obj':=.fields z9;refine nx J T' w B (xu g) hj (λv u q h2 tk ev hvu D O hg2=>?_) λh2 tk hin O=>?_
 ·have T1:=J.turned (tk:=tk) w oI tI O hg2
  have x1:=eT (ρ:=Y) (obj':=q) J.j w tI;have L1:=dk.ZY K J R w ⟨_,z9⟩ (N':=rep1 I q N') (λp hp he=>aX hp he) x1;rw[vy ev]at g;refine ut g λ_ g=>NS (f:=λx y=>XU cl lp ((l'.set i<|some x).set j<|some y) H'' mb) g λv1 v2 T g=>?_;subst T;have G:=hvu.Yk x1;refine cG G λa ws na T hma hoa F=>?_;clear G;subst T;refine U _ _<|wpAny_letOwnedTupleGo_listiter (i:=t+1) ⟨q,(T1.g _<|bu w).1,D⟩<|wpAny_assign_Tuple (X m).h (jT T1.g hma) (by refine aa Y8<|aa F.length ?_;rfl) rfl λh3 hx3=>?_;exact tX (is:=[i,j]) K (.cons hx<|.cons hy .nil) (T1.abd hx3) L1 F (l':=(l'.set i<|some v1).set j<|some v2) rfl λs2 m2 N2 S2' E2 L2=>yS K hb E1.weak o (λv e=>by subst e;exact k) e (Yo.mp ev).1 S2' L2 ((E'.acd d).Yl E2 L1.mem) ((T'.trans x1).trans<|L1.toT T1 E2)
   (E2.keep _ (bu w) oI cI) D (E2.apart _ (bu w) oI) cI g (λ_ h=>h) (λ_ _ h=>h)
 ·have g:=g
  rw[hin,drop_length]at g;refine ut g λ_ g=>aQ g λe1 e2=>?_;clear g h hh q0;clear g h;clear h;clear h;subst e1 e2;exact U _ _<|wpAny_execs_nil<|k _ m' Y _ (J.gone (tk:=tk) w oI tI O) (E1.weak.Yl (E'.ac8 d) o)<|dk.ZY K J R w ⟨_,z9⟩ (N':=but I N') (λp hp he=>fU.mpr ⟨hp,he⟩)<|jo J.j w tI
end
structure uj(P:bi)(A:Around)(Xp:Heap)(L:Addr)(d:Nat):Prop where
 base:m5 P Xp
 h:A.handled=none
 room:A.depth+2*d<900
 units:A.units+8*d+400<cLine
 below:∀C:Prop,(∀A₀ base outer env,Below A₀ base outer Xp->A.frames=some (env::outer)->env.frame=some L->env.scope.kind=.function->C)->C
def CI (A a:Around):Prop:=a=A\/∃C r,a=A.under (.builtin "type.__call__" ⟨.ref C::r,[]⟩)
def CI.facts {A a:Around}(h:CI A a):a.handled=A.handled/\a.frames=A.frames/\a.depth<=A.depth+1/\a.units<=A.units+4:=by
 rcases h with rfl|⟨C,r,rfl⟩
 ·exact⟨rfl,rfl,le_succ _,Xx _ _⟩
 ·refine⟨rfl,rfl,?_,?_⟩
  ·have:Code.weight (.builtin "type.__call__" ⟨.ref C::r,[]⟩)<=1:=by exact XH _
   exact aI 0x2d030206482d0865b tq this
  ·have:Code.cUnits (.builtin "type.__call__" ⟨.ref C::r,[]⟩)=1:=rfl
   exact aI 0x8d030206482d0869b tq this
def KC (P:bi)(k:Nat)(f:Fn)(l:Cl)(n:ZD)(A:Around)(h:Heap)(L:Addr)(m:Str->Option Value):Prop:=
 ∀⦃c:List V⦄ ⦃H g:Hp⦄ ⦃v:V⦄ ⦃d:Yp⦄ ⦃N:Led⦄ ⦃s:Shared⦄ ⦃j:List Value⦄,c.length=f.p->dw (XU l n (c.map some++List.replicate (f.vars-f.p) none) H f.body)=some (.v v,g)->St P h L m d N H s->XI d N c j->
  ∀(e:Around) (R:Result->Shared->Prop),CI A e->
   (∀u i a b,St P h L m a b g i->a5 aO d N a b->b0 a b v u->R (.ok<|.ret u) i)->
   codeAny (model P.p P.w) e (.call (.ref<|P.f k) ⟨j,[]⟩) R s
structure nY(P:bi)(k:Nat)(vars:List Str)(np:Nat)(scope:Scope)(body:List Stmt)(qual:Str)(Zs:Value):Prop where
 ex:∀C:Prop,(∀name params aau kV doc pm an ct oc aa5 osl,P.K.lookup (P.f k)=some ⟨oc,aa5,.func<|fnX name qual params body scope [] aau kV doc pm an Zs ct,osl⟩->
  (∀s us,us.length=np->BindsTo s (fnX name qual params body scope [] aau kV doc pm an Zs ct) ⟨us,[]⟩ ((vars.take np).zip us))->C)->C
 code:codeIn P.K Zs qual=true
 n:∀x∈scope.names,x.2≠.cell
 loc:∀x∈vars,scope.names.lookup x=some .local
 j:vars.Nodup
 np:np<=vars.length
 c:scope.isCoroutine=false
 gen:scope.isGenerator=false
 kind:scope.kind=.function
def dm {c:List Str}{us:List Value}(n:c.Nodup){i:Nat}{x:Str}{u:Value}(m:c[i]?=some x)(j:us[i]?=some u):(c.zip us).reverse.lookup x=some u:=by
 have k:∀(l:List<|Str×Value),(l.map (·.1)).Nodup->(x,u)∈l->l.lookup x=some u:=by
  intro l;induction l with
  |nil=>exactλ_ h=>Xv h XZ
  |cons p r g=>
   intro f d;obtain⟨a,b⟩:=p;rw[af,Yc]at f;rcases XD.mp d with e|d
   ·cases e;simp
   ·have:x≠a:=λe=>f.1<|XN.mpr ⟨_,d,e⟩
    simp[YL,Yn.mpr this];exact g f.2 d
 have d:(x,u)∈c.zip us:=by
  have:(c.zip us)[i]?=some (x,u):=by rw[getElem?_zip_eq_some];exact⟨m,j⟩
  exact YQ this
 refine k _ (aa List.map_reverse<|List.pairwise_reverse.mpr<|List.Pairwise.imp (X1) (?_:((c.zip us).map (·.1)).Nodup))<|List.mem_reverse.mpr d;have z:∀(c:List Str) (us:List Value),(c.zip us).map (·.1)=c.take us.length:=by
  intro c;induction c with
  |nil=>intro us;simp
  |cons a r g=>intro us;cases us with
   |nil=>simp
   |cons b t=>simp[g]
 rw[z];exact n.sublist<|Z2 _ _
section
variable{P:bi}{cl:Cl}{lp:ZD}{XA:ZJ}
def la {vs:List V}{n i:Nat}{v:V}(h:(vs.map some++List.replicate n none)[i]?=some (some v)):vs[i]?=some v:=by
 by_cases a:i<vs.length
 ·rw[Yg<|by simpa using a,Zt]at h
  have h:=h;cases e:vs[i]? with
  |none=>rw[e]at h;exact cE h nt
  |some w=>rw[e]at h;simpa using h
 ·rw[YY<|by simpa using a]at h
  have:=YQ h;have:=List.eq_of_mem_replicate this;exact cE this nt
def wT {k:Nat}{f:Fn}{j:List Str}{h:Scope}{M:List Stmt}{q:Str}{l:Value}(J:nY P k j f.p h M q l)(hkn:mK P){d:Nat}
  (hcl:∀A D L m,uj P A D L d->jP P cl A D L m)
  (hb:∀A g t,(∀m,EX P cl A (envX q h t (P.f k) l []) g t m ⟨j,h.names⟩)->gn (envX q h t (P.f k) l []) t ⟨j,h.names⟩->kF P cl lp A (envX q h t (P.f k) l []) g t ⟨j,h.names⟩ XA M f.body):
  ∀A D L m,uj P A D L (d+1)->KC P k f cl lp A D L m:=λA D L m C vs H H' v ρ N s us Q O S hv A' R hA' hR=>by
 obtain⟨n1,n2,n3,n4⟩:=hA'.facts;refine C.below _ λA₀ base X env B hfr hef hek=>J.ex _ λname params aau kV doc pm an ct oc aa5 osl hK W=>?_;have z9:=J.kind;refine callX_plain (fo:=⟨oc,aa5,_,osl⟩) B S.F S.g C.base.nolimit (n2.trans hfr) hef hek ((C.base.K.keeps S.F.keep) _ _ hK) rfl (codeRec_of (C.base.K.keeps S.F.keep) J.code) (by have:=C.room;have:recursionLimit=1000:=rfl;exact Lp ‹_› ‹_› ‹_›) (W s us<|hv.length.trans Q) (λy hy=>?_) (λg t Zx FG F' N' BG st hlt=>?_) J.n J.c J.gen z9
 ·have hm:y.1∈j.take f.p:=(of_mem_zip hy).1
  exact J.loc _<|Z7 hm
 ·have Cb:uj P (A'.deeper<|envX q h t (P.f k) l []) g t d:=⟨C.base.keeps st,by refine aa n1 ?_;exact C.h,by have:=C.room;exact La n3 this,by have:=C.units;exact Ls n4 this,
   λ_ z=>z A' base (env::X) _ BG (by show A'.frames.map _=_;refine aa n2<|aa hfr ?_;rfl) rfl z9⟩
  have Y:∀m',EX P cl (A'.deeper<|envX q h t (P.f k) l []) (envX q h t (P.f k) l []) g t m' ⟨j,h.names⟩:=λm'=>
   ⟨z9,rfl,rfl,rfl,Cb.base,Cb.h,by have:=Cb.units;exact KZ this,hcl _ _ _ _ Cb,hkn⟩
  have EO:gn (envX q h t (P.f k) l []) t ⟨j,h.names⟩:=⟨rfl,z9,J.j,λx F=>.inl<|J.loc x F,λx y c F=>by simp at F⟩;have Sg:St P g t (λy=>((j.take f.p).zip us).reverse.lookup y) ρ N H {s with heap:=Zx,toks:=s.toks+((j.take f.p).zip us).length}:=⟨F',N',S.j,S.rep,S.sep,λb o e=>st b o<|S.old b o e,S.env⟩;have T:∀a,¬pL (envX q h t (P.f k) l []) a:=λa ⟨x,F⟩=>by simp at F
  have Lg:dk (envX q h t (P.f k) l []) t (λy=>((j.take f.p).zip us).reverse.lookup y) j ρ N<|vs.map some++List.replicate (f.vars-f.p) none:=⟨λi w hi=>by have hw:=la hi;have hil:i<f.p:=Q▸(Yo.mp hw).1;obtain⟨u,hu,hz⟩:=hv.get hw;have F:j[i]?=some (j[i]'(XO hil J.np)):=XQ _;refine⟨_,u,F,hz,.inl ⟨J.loc _<|YQ F,rfl,?_⟩⟩;exact dm (J.j.sublist<|Z2 _ _) (by refine aa (getElem?_take_of_lt hil) ?_;exact F) hu,λa ha=>Xv ha<|T a⟩
  have wk:∀{I N'},a5 (pL<|envX q h t (P.f k) l []) ρ N I N'->a5 aO ρ N I N':=λE=>⟨E.pre,λp hp ho _=>E.keep p hp ho<|T _,E.apart⟩;refine cps λZ kZ=>?_;cases F:XU cl lp (vs.map some++List.replicate (f.vars-f.p) none) H f.body with
  |none=>rw[F]at O;exact cE O nt
  |some r=>
   obtain⟨fl,H2⟩:=r;rw[F]at O;cases fl with
   |n l'=>simp[dw]at O;obtain⟨rfl,rfl⟩:=O;refine kZ<|hb _ g t Y EO Sg Lg F ?_;intro s' m' I U G E' _;exact leaveK_ G.F G.g λF2 N2=>hR .none s' I U ⟨F2,N2,G.j,G.rep,G.sep,S.old,G.env⟩ (wk E') rfl
   |r w=>simp[dw]at O;obtain⟨rfl,rfl⟩:=O;refine kZ<|hb _ g t Y EO Sg Lg F ?_;intro u s' m' I U G E' V';exact leaveK_ G.F G.g λF2 N2=>hR u s' I U ⟨F2,N2,G.j,G.rep,G.sep,S.old,G.env⟩ (wk E') V'
   |e a b=>simp[dw]at O
end
def lz (c:List<|Str×NameKind):∀(n:Nat) (b:List<|Str×Addr),(∀p∈b,p.2<n)->b.Pairwise (λx y=>x.2≠y.2)->
  (∀p∈cellsFrom n c b,p∈b\/n<=p.2)/\(cellsFrom n c b).Pairwise (λx y=>x.2≠y.2):=by
 induction c with
 |nil=>intro n b _ e;exact⟨λp h=>.inl h,e⟩
 |cons d r i=>
  intro n b f e;obtain⟨a,k⟩:=d;unfold cellsFrom;split
  ·have:=i (n+1) ((a,n)::b) (λp h=>by
    rcases XD.mp h with rfl|h
    ·exact Zp _
    ·exact lt_succ_of_lt<|f p h)<|List.pairwise_cons.mpr ⟨λp h=>XG<|f p h,e⟩
   refine⟨λp h=>?_,this.2⟩;rcases this.1 p h with h|h
   ·rcases XD.mp h with rfl|h
    ·exact .inr<|XH _
    ·exact .inl h
   ·exact .inr<|Nat.le_of_succ_le h
  ·exact i n b f e
def CH {k:Str->Option NameKind}{x:Str}{b:List<|Str×Value}:∀{m:Str->Option Value},x∉b.map (·.1)->bindL k b m x=m x:=by
 induction b with
 |nil=>intro _ _;exact rfl
 |cons p r i=>
  intro m h;obtain⟨n,v⟩:=p;rw[af,XD,not_or]at h;have h:=h;refine aa (i h.2) ?_;split
  ·simp[Xq h.1]
  ·rfl
def vf {k:Str->Option NameKind}{x:Str}{u:Value}(c:k x=some .local){b:List<|Str×Value}:∀{m:Str->Option Value},(b.map (·.1)).Nodup->(x,u)∈b->bindL k b m x=some u:=by
 induction b with
 |nil=>intro _ _ h;exact nomatch h
 |cons p r i=>
  intro m a h;obtain⟨n,v⟩:=p;rw[af,Yc]at a;rcases XD.mp h with e|h
  ·cases e
   refine aa (CH a.1)<|aa (Xr c) ?_;simp
  ·exact i a.2 h
theorem uA{k:Str->Option NameKind}{x:Str}:∀{b:List<|Str×Value}{m:Str->Option Value},x∉b.map (·.1)->bindC k b m x=m x
 | [],_,_=>rfl
 |(n,v)::r,m,h=>by
  rw[af,XD,not_or]at h;have h:=h;refine aa (uA h.2) ?_;split
  ·rfl
  ·simp[Xq h.1]
theorem qk{k:Str->Option NameKind}{x:Str}{u:Value}(c:k x≠some .local):∀{b:List<|Str×Value}{m:Str->Option Value},(b.map (·.1)).Nodup->(x,u)∈b->bindC k b m x=some u
 | [],_,_,h=>nomatch h
 |(n,v)::r,m,a,h=>by
  rw[af,Yc]at a;unfold bindC;rcases XD.mp h with e|h
  ·cases e
   refine aa (uA a.1)<|aa (Xq c) ?_;simp
  ·exact qk c a.2 h
def iE (h:CellsAre c cs cells):cells.map (·.1)=cs.map (·.2):=by
 induction h with
 |nil=>rfl
 |cons _ _ i=>simp[i]
def gb (h:CellsAre d cs a):∀{x:Str}{c:Addr},cs.lookup x=some c->∃o,(c,o)∈a/\o.data=.cell (d x):=by
 induction h with
 |nil=>intro x c h;simp at h
 | @cons n c o cs a g _ i=>
  intro x k b;by_cases e:x=n
  ·subst e
   simp at b;subst b;exact⟨o,.head _,g⟩
  ·simp[YL,Yn.mpr e]at b
   exact ag (i b) λj h1 f=>⟨j,.tail _ h1,f⟩
def cB {cs:List<|Str×Addr}{x:Str}{c:Addr}(h:cs.lookup x=some c):(x,c)∈cs:=by
 induction cs with
 |nil=>simp at h
 |cons p r i=>
  obtain⟨a,b⟩:=p;by_cases e:x=a
  ·subst e
   simp at h;subst h;exact .head _
  ·simp[YL,Yn.mpr e]at h
   exact .tail _<|i h
def BK {cs:List<|Str×Addr}(a:cs.Pairwise λx y=>x.2≠y.2){x y:Str}{c:Addr}(h1:(x,c)∈cs)(h:(y,c)∈cs):x=y:=by
 induction cs with
 |nil=>exact Xv h1 XZ
 |cons p r i=>
  rw[List.pairwise_cons]at a;rcases XD.mp h1 with b|h1
  ·rcases XD.mp h with e|h
   ·exact(Prod.mk.inj<|b.trans e.symm).1
   ·exact Xv (dG b rfl)<|a.1 _ h
  ·rcases XD.mp h with e|h
   ·exact Xv (dG e rfl)<|a.1 _ h1
   ·exact i a.2 h1 h
structure nP(P:bi)(k:Nat)(vars:List Str)(np:Nat)(scope:Scope)(body:List Stmt)(qual:Str)(Zs:Value):Prop where
 ex:∀C:Prop,(∀name params aau kV doc pm an ct oc aa5 osl,P.K.lookup (P.f k)=some ⟨oc,aa5,.func<|fnX name qual params body scope [] aau kV doc pm an Zs ct,osl⟩->
  (∀s us,us.length=np->BindsTo s (fnX name qual params body scope [] aau kV doc pm an Zs ct) ⟨us,[]⟩ ((vars.take np).zip us))->C)->C
 code:codeIn P.K Zs qual=true
 b:∀x∈vars,scope.names.lookup x=some .local\/(scope.names.lookup x=some .cell/\∀n,((cellsFrom n scope.names []).lookup x).isSome=true)
 h:((cellsFrom 0 scope.names []).map (·.1)).Nodup
 j:vars.Nodup
 np:np<=vars.length
 c:scope.isCoroutine=false
 gen:scope.isGenerator=false
 kind:scope.kind=.function
theorem wo:∀(x:List Str) (u:List Value),(x.zip u).map (·.1)=x.take u.length
 | [],u=>by simp
 |a::r,[]=>by simp
 |a::r,b::t=>by simp[wo r t]
section
variable{P:bi}{cl:Cl}{lp:ZD}{XA:ZJ}
def no (P:bi)(d:Nat)(cl:Cl)(lp:ZD)(XA:ZJ)(k:Nat)(f:Fn)(v:List Str)(s:Scope)(b:List Stmt)(q:Str)(c:Value):Prop:=
 ∀A g L,uj P A g L d->(∀m,EX P cl A (envOfC q s L (P.f k) c) g L m ⟨v,s.names⟩)->gn (envOfC q s L (P.f k) c) L ⟨v,s.names⟩->kF P cl lp A (envOfC q s L (P.f k) c) g L ⟨v,s.names⟩ XA b f.body
def tF {k:Nat}{f:Fn}{t:List Str}{j:Scope}{body:List Stmt}{l:Str}{D:Value}(PF:nP P k t f.p j body l D)(hkn:mK P){d:Nat}
  (hcl:∀A F L m,uj P A F L d->jP P cl A F L m) (hb:no P d cl lp XA k f t j body l D):
  ∀A F L m,uj P A F L (d+1)->∀A₀ Q M U,Below A₀ Q M F->A.frames=some (U::M)->U.frame=some L->U.scope.kind=.function->∀⦃vs:List V⦄ ⦃H H':Hp⦄ ⦃rs:Rs⦄ ⦃X:Yp⦄ ⦃N:Led⦄ ⦃s:Shared⦄ ⦃us:List Value⦄,vs.length=f.p->dw (XU cl lp (vs.map some++List.replicate (f.vars-f.p) none) H f.body)=some (rs,H')->St P F L m X N H s->XI X N vs us->
  ∀(A':Around) (R:Result->Shared->Prop),CI A A'->
   (∀v u s' G N',rs=.v v->St P F L m G N' H' s'->a5 aO X N G N'->b0 G N' v u->R (.ok<|.ret u) s')->
   (∀x y e s' g I m' G N',rs=.e x y->Below A' Q (U::M) g->Fr F L g m->F.StaysIn g->a5 aO X N G N'->XA g I G N' H' m' x y e s'->
    wpAny (model P.p P.w) (A'.deeper<|envOfC l j I (P.f k) D) (leaving (envOfC l j I (P.f k) D) e) (λ_ s''=>R (.error e) s'') (λe' s''=>R (.error e') s'') s')->
   codeAny (model P.p P.w) A' (.call (.ref<|P.f k) ⟨us,[]⟩) R s:=λA F L m C A₀ Q M U B hfr hef hek vs H H' rs X N s us hlen he S hv A' R hA' hR hX=>by
 obtain⟨n1,n2,n3,n4⟩:=hA'.facts;refine PF.ex _ λname params aau kV doc pm an ct oc aa5 osl hK ade=>?_;have hnz:(((t.take f.p).zip us).map (·.1)).Nodup:=by rw[wo];exact(PF.j.sublist<|Z2 _ _).sublist<|Z2 _ _
 have z9:=PF.kind;refine callX_cells (fo:=⟨oc,aa5,_,osl⟩) B S.F S.g C.base.nolimit (n2.trans hfr) hef hek ((C.base.K.keeps S.F.keep) _ _ hK) rfl (codeRec_of (C.base.K.keeps S.F.keep) PF.code) (by have:=C.room;have:recursionLimit=1000:=rfl;exact Lp ‹_› ‹_› ‹_›) (ade s us<|hv.length.trans hlen) (λn y hy=>?_) PF.h (λg I Zx tk J FG F' N' CA BG st hlt=>?_) PF.c PF.gen z9
 ·have hm:y.1∈t.take f.p:=(of_mem_zip hy).1
  rcases PF.b _ (Z7 hm)with h|⟨h1,h2⟩
  ·exact .inl h
  ·exact .inr ⟨h1,h2 n⟩
 ·obtain⟨sp1,sp2⟩:=lz j.names (I+1) [] (λ_ h=>Xv h XZ) .nil
  have Cb:uj P (A'.deeper<|envOfC l j I (P.f k) D) g I d:=⟨C.base.keeps st,by refine aa n1 ?_;exact C.h,by have:=C.room;exact La n3 this,by have:=C.units;exact Ls n4 this,
   λ_ z=>z A' Q (U::M) _ BG (by show A'.frames.map _=_;refine aa n2<|aa hfr ?_;rfl) rfl z9⟩
  have EXs:∀m',EX P cl (A'.deeper<|envOfC l j I (P.f k) D) (envOfC l j I (P.f k) D) g I m' ⟨t,j.names⟩:=λm'=>
   ⟨z9,rfl,rfl,rfl,Cb.base,Cb.h,by have:=Cb.units;exact KZ this,hcl _ _ _ _ Cb,hkn⟩
  have hk':∀x∈t,(envOfC l j I (P.f k) D).kindOf x=some .local\/((envOfC l j I (P.f k) D).kindOf x=some .cell/\∃c,(envOfC l j I (P.f k) D).cells.lookup x=some c):=λx O=>by
   rcases PF.b x O with h|⟨h1,h2⟩
   ·exact .inl h
   ·exact .inr ⟨h1,aa0.mp<|h2<|I+1⟩
  have EO:gn (envOfC l j I (P.f k) D) I ⟨t,j.names⟩:=⟨rfl,z9,PF.j,hk',λx y c O hy=>BK sp2 (cB O)<|cB hy⟩;have ndc:((J++N).map (·.1)).Nodup:=by
   refine aa Zq<|YT.mpr ⟨?_,S.j,λa ha b hb e=>?_⟩
   ·exact aa (iE CA)<|List.pairwise_map.mpr sp2
   ·rw[(iE CA)]at ha
    obtain⟨p,W,rfl⟩:=XN.mp ha;obtain⟨q,hq,rfl⟩:=XN.mp hb;rcases sp1 p W with h|h
    ·exact Xv h XZ
    ·rw[e]at h
     exact lt_irrefl _<|XO (XY (hlt q hq)<|Zp _) h
  have above:∀a,pL (envOfC l j I (P.f k) D) a->I<a:=λa ⟨x,O⟩=>by
   rcases sp1 _ (cB O)with h|h
   ·exact Xv h XZ
   ·exact h
  have adg:∀a,pL (envOfC l j I (P.f k) D) a->¬own X a:=λa ha ho=>by
   obtain⟨c,hc,e⟩:=ho;have:=above a ha;obtain⟨i,hi⟩:=aa9 hc;exact S.Z6 (λp W q=>lt_irrefl _ (XY (q▸hlt p W) this):∀p∈N,p.1≠a) (by
    cases q:F.get? a with
    |none=>rfl
    |some o=>exact Xv (XO (YC<|st _ _ q) F'.above)<|lt_asymm this) ⟨c,hc,e⟩
  have x0:a5 aO X N X<|J++N:=⟨⟨[],by simp⟩,λp W _ _=>Z9 _ W,λ_ _ h=>h⟩;have Sg:St P g I (bindL (envOfC l j I (P.f k) D).kindOf ((t.take f.p).zip us) λ_=>none) X (J++N) H {s with heap:=Zx,toks:=tk}:=
   ⟨F',N',ndc,⟨S.rep.1,λi c o hi ho=>(S.rep.2 i c o hi ho).Yk x0.toT λp W _=>Z9 _ W⟩,S.sep,λb o e=>st b o<|S.old b o e,S.env⟩
  have Lg:dk (envOfC l j I (P.f k) D) I (bindL (envOfC l j I (P.f k) D).kindOf ((t.take f.p).zip us) λ_=>none) t X (J++N)<|vs.map some++List.replicate (f.vars-f.p) none:=⟨λi w hi=>by
   have hw:=la hi;have hil:i<f.p:=hlen▸(Yo.mp hw).1;obtain⟨u,hu,hz⟩:=hv.get hw;have z8:=PF.np;have O:t[i]?=some (t[i]'(XO hil z8)):=XQ _;have hm:(t[i]'(XO hil z8),u)∈(t.take f.p).zip us:=by
    have:((t.take f.p).zip us)[i]?=some (t[i]'(XO hil z8),u):=by rw[getElem?_zip_eq_some];exact⟨by rw[getElem?_take_of_lt hil];exact O,hu⟩
    exact YQ this
   refine⟨_,u,O,hz.Yk x0.toT,?_⟩;rcases hk' _ (YQ O)with h|⟨h1,c,hc⟩
   ·exact .inl ⟨h,rfl,vf h hnz hm⟩
   ·obtain⟨o,abr,g2⟩:=gb CA hc
    refine .inr<|.inr ⟨.inl h1,c,o,hc,mem_append_left _ abr,adg c ⟨_,hc⟩,?_⟩;exact aa g2<|aa (qk (by rw[h1];simp) hnz hm) rfl,λa ⟨x,O⟩=>by
   obtain⟨o,abr,g2⟩:=gb CA O;exact⟨o,_,mem_append_left _ abr,adg a ⟨x,O⟩,g2⟩⟩
  have wk:∀{G N'},a5 (pL<|envOfC l j I (P.f k) D) X (J++N) G N'->a5 aO X N G N':=λE=>⟨E.pre,λp W ho _=>E.keep p (Z9 _ W) ho λhc=>lt_asymm (above _ hc)<|hlt p W,λp W ho=>E.apart p (Z9 _ W) ho⟩;refine cps λZ kC=>?_;cases O:XU cl lp (vs.map some++List.replicate (f.vars-f.p) none) H f.body with
  |none=>rw[O]at he;exact cE he nt
  |some r=>
   obtain⟨fl,H2⟩:=r;rw[O]at he;cases fl with
   |n l'=>simp only[dw,Zo,Prod.mk.injEq]at he;obtain⟨rfl,rfl⟩:=he;refine kC<|hb _ g I Cb EXs EO Sg Lg O ?_;intro s' m' G Y T E' _;exact leaveK_ T.F T.g λF2 N2=>hR _ .none s' G Y rfl ⟨F2,N2,T.j,T.rep,T.sep,S.old,T.env⟩ (wk E') rfl
   |r w=>simp only[dw,Zo,Prod.mk.injEq]at he;obtain⟨rfl,rfl⟩:=he;refine kC<|hb _ g I Cb EXs EO Sg Lg O ?_;intro u s' m' G Y T E' V';exact leaveK_ T.F T.g λF2 N2=>hR _ u s' G Y rfl ⟨F2,N2,T.j,T.rep,T.sep,S.old,T.env⟩ (wk E') V'
   |e a b=>simp only[dw,Zo,Prod.mk.injEq]at he;obtain⟨rfl,rfl⟩:=he;refine kC<|hb _ g I Cb EXs EO Sg Lg O ?_;intro e s' m' G Y E' XX;exact hX a b e s' g I m' G Y rfl BG FG st (wk E') XX
def qO {k:Nat}{f:Fn}{i:List Str}{a:Scope}{b:List Stmt}{c:Str}{n:Value}(Q:nP P k i f.p a b c n)(G:mK P){d:Nat}
  (z:∀A h L m,uj P A h L d->jP P cl A h L m) (X:no P d cl lp XA k f i a b c n):
  ∀A h L m,uj P A h L (d+1)->KC P k f cl lp A h L m:=λA h L m C vs H H' v ρ N s us p Y S hv M R w W=>by
 refine C.below _ λj l o t B F D E=>tF Q G z X A h L m C j l o t B F D E p Y S hv M R w (λv' u J r I e T O U=>?_) λx y e J g L' m' r I q=>by cases q
 cases e;exact W u J r I T O U
end
section
variable{prog:Program}{w:World}{A:Around}{E:Value->Shared->Prop}{h:Heap}{g:Array GenState}{d:Drawn}{t:Nat}{os:OsState}
variable{nm q:Str}{C N:Addr}{bs bm bmB:List Value}{ab2:Bool}{sn:List Str}{sub:List Value}{ab:Bool}{col:Option Bool}{dd:Option Addr}{k0 k1 k2 k3 k5:Option Value}{B newId abt:String}
def DS (F:ExcBaseFacts B newId abt bmB)(T:OwnTail h bmB bm)
  (i:h.get? C=some (excClassObj nm q C N bs bm ab2 sn sub ab col dd k0 k1 k2 k3 k5 newId)) (y:h.Ns N mN) (v:mN "__init__"=some (.ref l)) (j:h.get? l=some G) (k:G.cls=.type "function")
  (z:∀m e,Heap.MadeExcOf h m e (.ref C) rest->wpAny (model prog w) A (call (.ref l)<|.ref e::rest) (λr s=>r=.none/\Q (.done<|.ret<|.ref e) s) E ⟨m,g,d,t,os⟩) (hrest:rest.length<=sizeLine):
  wpAny (model prog w) A (Builtin.«type.__call__» ⟨.ref C::rest,[]⟩) Q E ⟨h,g,d,t,os⟩:=by
 repeat (first|with_reducible refine wpAny_loadPart_at i ?_|with_reducible refine wpAny_madeBy_exc i ?_|wp_step)
 refine codeAny_call_builtin_code (Code.quiet_builtin _ F.quiet)<|wpAny_check_new_subU F F.hasB T i<|codeAny_exc_new_subU F F.hasB F T i ?_ hrest;have up:∀b o,h.get? b=some o->((h.push {cls:=.type "tuple",data:=.seq rest.toArray}).push {cls:=.ref C,data:=.fields #[.ref h.objs.size,.none,.none,.none,.bool false,.none]}).get? b=some o:=
  λb o e=>ZL _<|ZL _ e
 have f:((h.push {cls:=.type "tuple",data:=.seq rest.toArray}).push {cls:=.ref C,data:=.fields #[.ref h.objs.size,.none,.none,.none,.bool false,.none]}).Ns N mN:=
  ng y λo p n e r=>⟨o,p,n,up _ _ e,r⟩
 have a:=up _ _ i;have c:((h.push {cls:=.type "tuple",data:=.seq rest.toArray}).push {cls:=.ref C,data:=.fields #[.ref h.objs.size,.none,.none,.none,.bool false,.none]}).get? (h.objs.size+1)=some
   {cls:=.ref C,data:=.fields #[.ref h.objs.size,.none,.none,.none,.bool false,.none]}:=by heap_get
 repeat (first|with_reducible refine wpAny_loadPart_at c ?_|(with_reducible refine wpAny_isSubtype_exc a ?_;rw[(by simp:(Value.ref C::bm).contains (.ref C)=true)])|wp_step)
 refine wpAny_typeLookup_tail a f (T.keeps up) F.mroIs F.init.lookup<|aa v<|wpAny_holding<|XC<|XC<|wpAny_typeOf (T:="function") ⟨_,up _ _ j,k⟩<|Yj<|XC<|aan (z _ (h.objs.size+1) ⟨up,aa8<|le_succ _,h.objs.size,c,aa8<|XH _,ZL _<|Heap.get?_push_at rfl rfl⟩) (λr s D=>?_) λ_ _ x=>x;obtain⟨rfl,u⟩:=D
 wp_walk
 exact u
def CN (F:ExcBaseFacts B newId abt bmB)(T:OwnTail h bmB bm)
  (b:h.get? C=some (excClassObj nm q C N bs bm ab2 sn sub ab col dd k0 k1 k2 k3 k5 newId)) (n:h.Ns N p) (l:p "__init__"=some (.ref k)) (c:h.get? k=some s) (f:s.cls=.type "function")
  (o:∀a e,Heap.MadeExcOf h a e (.ref C) rest->wpAny (model prog w) (A.under<|.builtin "type.__call__" ⟨.ref C::rest,[]⟩) (call (.ref k)<|.ref e::rest) (λr u=>r=.none/\Q (.ref e) u) E ⟨a,g,d,t,os⟩) (hrest:rest.length<=sizeLine):
  wpAny (model prog w) A (call (.ref C) rest) Q E ⟨h,g,d,t,os⟩:=by
 have i:=tc_lookup;have j:=tc_bind<|.ref C;have v:(⟨h,g,d,t,os⟩:Shared).TypeIs (.ref C) "type":=⟨_,b,rfl⟩;refine wpAny_call<|codeAny_of_tree ?_;repeat (any_goals (first|assumption|with_reducible refine wpAny_loadPart_at b ?_|wp_step))
 exact⟨rfl,(codeAny_call_builtin_at (Code.quiet_builtin _<|by decide+kernel) entry_typeCall<|wpAny_check_type_call_sub b<|DS (hrest:=hrest) F T b n l c f λa e m=>(o a e m))⟩
end
end Mine
end
section
open PySem PySem.W PySem.Calls PyProof.Rows PyProof.Rows.LCg PySem.Builtin PySem.Builtin.ObjectAttr
namespace Mine
structure Fp(K:Frag)(C C1:Addr):Prop where
 cd:∃cd,clsIn K C=some cd/\cd.mro=[.ref C,.ref C1,.type "Exception",.type "BaseException",.type "object"]/\cd.hasDict=true
 s:findIn K (.ref C) "__setattr__"=some (some<|.builtin "object.__setattr__")
 ga:findIn K (.ref C) "__getattribute__"=some (some<|.builtin "BaseException.__getattribute__")
 gt:findIn K (.ref C) "__getattr__"=some none
section
variable{prog:Program}{w:World}{A:Around}{E:Value->Shared->Prop}{s:Shared}{K:Frag}{x C C1 L dx:Addr}{Xp:Heap}{m:Str->Option Value}{R:Result->Shared->Prop}
def Li (X:K.In s.heap)(I:InstAt s.heap x y C o)(M:Fp K C C1)(u:takerIn K C name=some none)
  (h:∀b,wpAny (model prog w) A.in1 (storeInOwnDict (.ref x) (.ref C) (.str name t) name v b)
   (λi g=>match i with | .done f=>R (.ok f) g| .again j=>j.quiet=true/\codeAny (model prog w) A j R g) (λe g=>R (.error e) g) s):
  codeAny (model prog w) A (.call (.builtin "object.__setattr__") ⟨[.ref x,.str name t,v],[]⟩) R s:=by
 refine aj M.cd λq n d _=>?_;have S:=PySem.F.store_object;refine codeAny_call_builtin S.slot.plain S.entry<|@check_slot (model prog w) _ _ s "object.__setattr__" "object" "__setattr__" (.ref x) [.str name t,v] [] _ S.kind S.split (I.type.andThen (looks_mroIn X<|by unfold mroIn;rw[n,Zi,d];simp):Looks (model prog w) s.heap (isInstance (.ref x)<|.type "object") true) (S.args (.ref x) (.str name t) v)<|ag (Option.bind_eq_some_iff.mp u) λc k r=>?_;rw[osa_eq,refuse_eq];refine XC<|XC<|I.type.here<|XC<|((looks_clsIn X n).andThen .now:Looks (model prog w) s.heap (mroOf<|.ref C) q.mro).here ?_;rw[d,refuseLoop_ref,refuseLoop_ref,PySem.F.store_Exception.passes];have p:Looks (model prog w) s.heap (storeTaker? c) none:=by
  clear k;cases c with
  |none=>exact .now
  |some a=>
   refine ag (YR.mp r) λb l e=>(looks_takesIn X l).andThen ?_;clear l;cases b
   ·exact .now
   ·exact cE e nt
 exact Yj<|XC<|I.type.here<|XC<|(looks_findIn X k).here<|XC<|p.here<|h _
def xj (F:Fr Xp L s.heap m)(N:News Xp L s.heap<|pre++(dx,dictOf es n)::post)(i:(getL name es).isSome=true)(h1:∀p∈pre,p.1≠dx)(g:∀p∈post,p.1≠dx)
  (j:(putL name (PyData.keyHash w.params name) (.str name s.toks) v es).length<=1000)
  (h:∀b,Fr Xp L b m->News Xp L b (pre++(dx,dictOf (putL name (PyData.keyHash w.params name) (.str name s.toks) v es)<|putN name es n)::post)->Q (.done<|.ret .none) {s with heap:=b,toks:=s.toks+1}):
  wpAny (model prog w) A (storeInDict dx (.str name t) name v) Q E s:=by
 refine XE (λe U=>?_)<|news_upd (f:=Obj.putName name (PyData.keyHash w.params name) (.str name s.toks) v) F N h1 g (putName_dict name _ _ v es n) rfl;have D:=(N (dx,dictOf es n)<|by simp).1;refine XC<|Yj<|XC ?_;refine XC<|XC<|wpAny_askSetting<|Yj<|XC<|wpAny_mkText<|XC<|wpAny_loadPart D ?_;dsimp only;have a:(lookIn name<|dictOf es n).isSome=true:=i;unfold lookIn at a;dsimp only at a;have c:(!es.toArray.any (·.key.isStr name)&&es.toArray.any (·.refKey))=false:=by
  refine dG Array.any_toList<|dG Array.any_toList ?_;split at a
  ·rename_i f d
   refine aa (List.any_eq_true.mpr ⟨f,List.mem_of_find?_eq_some d,List.find?_some d⟩) ?_;rfl
  ·split at a
   ·exact eH a nt
   ·rename_i z;rw[Bool.not_eq_true]at z;rw[z,Bool.and_false]
 rw[aRefKeyMayBeTheName_at,c];refine wpAny_updatePart D<|XC<|wpAny_lookBehind ((U (dx,dictOf (putL name (PyData.keyHash w.params name) (.str name s.toks) v es)<|putN name es n)<|by simp).1) (pastItsLine_dict<|by refine aa Y8<|aa sizeLine_eq ?_;exact bB 0x2d800000458097d0e0065b tq j) ?_;exact Yj<|h _ e U
def Da (F:Fr Xp L s.heap m)(e:K.In Xp)(N:News Xp L s.heap<|(x,⟨.ref C,none,.fields d,a⟩)::post)(M:Fp K C C1)(u:takerIn K C name=some none)
  (t:∀p∈post,p.1≠x)
  (h:∀g dx,Fr Xp L g m->News Xp L g ((dx,dictOf [⟨PyData.keyHash w.params name,.str name<|s.toks+1,v⟩]<|putN name [] 0)::(x,⟨.ref C,some dx,.fields d,a⟩)::post)->(∀p∈(x,(⟨.ref C,none,.fields d,a⟩:Obj))::post,p.1≠dx)->Q () {s with heap:=g,toks:=s.toks+2}):
  wpAny (model prog w) A (setAttr (.ref x) name v) Q E s:=by
 have X:=e.keeps F.keep;have l:s.heap.get? x=some ⟨.ref C,none,.fields d,a⟩:=(N _<|.head _).1;have I:InstAt s.heap x ⟨.ref C,none,.fields d,a⟩ C none:=⟨l,rfl,rfl,trivial⟩;refine set_plain X I M.s<|Li (s:={s with toks:=s.toks+1}) X I M u λb=>aj M.cd λy i _ j=>XC<|Yj<|XC<|XC<|wpAny_loadPart l<|XC<|Looks.here (s:={s with toks:=s.toks+1}) (looks_clsIn X i)<|aa j<|XC<|wpAny_alloc ?_;have k:=N.push F {cls:=.type "dict",data:=.dict #[]};have f:∀p∈(x,(⟨.ref C,none,.fields d,a⟩:Obj))::post,p.1≠s.heap.objs.size:=λp c=>Yy<|YC (N p c).1;refine XC<|wpAny_update ((k (x,_)<|.tail _<|.head _).1) ?_;obtain⟨U,r⟩:=news_upd (pre:=[(s.heap.objs.size,(⟨.type "dict",none,.dict #[],#[]⟩:Obj))]) (d:=x) (post:=post) (f:=λo=>{o with dict:=some s.heap.objs.size}) (o':=⟨.ref C,some s.heap.objs.size,.fields d,a⟩) (F.push {cls:=.type "dict",data:=.dict #[]}) k
  (λp c=>by rcases List.mem_singleton.mp c with rfl;exact X1<|f _<|.head _) t rfl rfl
 refine Yj (a:=some s.heap.objs.size)<|xj (pre:=[]) (es:=[]) (n:=0) (s:={s with heap:=_,toks:=s.toks+1}) U r rfl (λ_ h=>Xv h XZ) (λp c=>?_) (Yb rfl) λg n q=>?_
 ·rcases XD.mp c with rfl|c
  ·have:=f _<|List.Mem.head _;exact this
  ·exact f _<|.tail _ c
 ·exact h g _ n q f
def Ic (F:Fr Xp L s.heap m)(a:K.In Xp)(N:News Xp L s.heap<|pre++(dx,dictOf e n)::post)(M:Fp K C C1)(r:takerIn K C name=some none)
  (d:(x,⟨.ref C,some dx,.fields i,o⟩)∈pre++(dx,dictOf e n)::post) (q:(getL name e).isSome=true) (h1:∀p∈pre,p.1≠dx) (l:∀p∈post,p.1≠dx)
  (t:(putL name (PyData.keyHash w.params name) (.str name<|s.toks+1) v e).length<=1000)
  (h:∀c,Fr Xp L c m->News Xp L c (pre++(dx,dictOf (putL name (PyData.keyHash w.params name) (.str name<|s.toks+1) v e)<|putN name e n)::post)->Q () {s with heap:=c,toks:=s.toks+2}):
  wpAny (model prog w) A (setAttr (.ref x) name v) Q E s:=by
 have d:s.heap.get? x=some ⟨.ref C,some dx,.fields i,o⟩:=(N _ d).1;have X:=a.keeps F.keep;have I:InstAt s.heap x ⟨.ref C,some dx,.fields i,o⟩ C<|some<|dictOf e n:=⟨d,rfl,rfl,((N (dx,dictOf e n)<|by simp).1)⟩;exact set_plain X I M.s<|Li (s:={s with toks:=s.toks+1}) X I M r λb=>aj M.cd λu f _ g=>XC<|Yj<|XC<|XC<|wpAny_loadPart d<|XC<|Looks.here (s:={s with toks:=s.toks+1}) (looks_clsIn X f)<|aa g<|Yj (a:=some dx)<|xj (s:={s with toks:=s.toks+1}) F N q h1 l t λc j k=>h c j k
set_option maxHeartbeats 2000000 in
def Tp (X:K.In s.heap)(M:Fp K C C1)(q:s.heap.get? x=some o)(hD:s.heap.get? dx=some (dictOf e n))(g:o.dict=some dx)(f:o.cls=.ref C)(i:o.data=.fields t)
  (j:hasDictIn K C=true) (d:findIn K (.ref C) name=some attr) (l:noGet K attr=true) (k:getL name e=some (some v)) (p:handedIn v=true) (h:Q v {s with toks:=s.toks+1}):
  wpAny (model prog w) A (getAttr (.ref x) name expr) Q E s:=by
 have I:InstAt s.heap x o C<|some<|dictOf e n:=⟨q,f,by unfold notCls;exact aa i rfl,by refine aa g ?_;exact hD⟩;refine aj M.cd λr b a _=>?_;have c:=I.type (M:=model prog w);refine XC<|wpAny_mkText<|wpAny_holding<|XC<|c.at<|XC<|(looks_findIn (M:=model prog w) X M.ga).at ?_;show wpAny _ _ (if(onTheHeap (.ref C)&&(Value.builtin "BaseException.__getattribute__"==Value.builtin "object.__getattribute__"))=true then _ else getAttrByItsOwn _ _ _ _ _ _) _ _ _;refine XC<|(looks_findIn (M:=model prog w) X M.gt).at<|XC<|wpAny_attempt<|wpAny_holding ?_;unfold callGetattribute;refine aa (Xq<|by cases expr<;>decide) ?_;unfold boundAndCalled;refine XC<|Yj<|wpAny_call<|codeAny_call_builtin PySem.F.attr_Exception.ga.plain PySem.F.entry_bexc_ga<|@check_slot (model prog w) _ _ {s with toks:=s.toks+1} "BaseException.__getattribute__" "BaseException" "__getattribute__" (.ref x) [.str name s.toks] [] _ (by decide+kernel:builtinKind "BaseException.__getattribute__"=some .slot) (by decide+kernel:splitId "BaseException.__getattribute__"=some ("BaseException","__getattribute__")) (I.type.andThen (looks_mroIn X<|by unfold mroIn;rw[b,Zi,a];simp):Looks (model prog w) s.heap (isInstance (.ref x)<|.type "BaseException") true) (PySem.F.args_bexc_ga (.ref x)<|.str name s.toks) ?_;refine XC<|Yj<|XC<|Yj<|XC<|c.at<|XC<|(looks_find (M:=model prog w) X I<|findObj_own j d l (k:lookIn name (dictOf e n)=some (some v))).at<|Yj ?_;show wpAny _ _ (handedOut v) _ _ _;refine aa (handedOut_of p) ?_;exact Yj h
end
end Mine
end
section
open PySem PySem.W PySem.Calls PyProof.Rows PyProof.Rows.LCg
namespace Mine
def Xh (B h:Heap)(e:Addr)(f:Value)(v:Array Value):Prop:=
 v[1]?=some .none\/∃T o t,v[1]?=some (.ref T)/\B.get? T=none/\T≠e/\h.get? T=some o/\o.data=.fields t/\t[3]?=some f
structure Cs(B:Heap)(l:List Env)(e C d:Addr)(fl:Value)(h:Heap):Prop where
 stays:B.StaysIn h
 frames:h.FunFrames B l
 new:B.get? e=none
 obj:∃vs sl,h.get? e=some ⟨.ref C,some d,.fields vs,sl⟩/\1<vs.size/\Xh B h e fl vs
def Cs.outer {B h:Heap}{a:Env}{l:List Env}{e C d:Addr}{f:Value}(x:Cs B (a::l) e C d f h):Cs B l e C d f h:=
 ⟨x.stays,x.frames.2.2,x.new,x.obj⟩
section
variable{M:Model}{A:Around}{E:Value->Shared->Prop}{s:Shared}{B:Heap}{env:Env}{outer l:List Env}{L e C d:Addr}{fl:Value}{Q:Unit->Shared->Prop}
def Cm {v:Array Value}{y:Array<|Option Value}{m:Value}{c:Bool}(G:A.frames=some (env::outer))(T:env.frame=some L)(I:B.StaysIn s.heap)(u:s.heap.FunFrames B<|env::outer)(P:B.get? e=none)
  (F:s.heap.get? e=some ⟨.ref C,some d,.fields v,y⟩) (n:1<v.size)
  (k:∀D,Cs B (env::outer) e C d (rawInt L) D->s.heap.UpToSlots D->Q () {s with heap:=D}):
  wpAny M A (do let a<-frameOf env;let x<-entryPlaceOf L c;let b<-EntryCells.newEntry m a .none (rawInt L) .none x;setField (.ref e) 1 b) Q E s:=by
 refine XC<|wpAny_frameOf_fun G u T λZx w=>XC<|wpAny_entryPlaceOf λx p=>XC<|wpAny_newObj_type ?_<|p.sizeOk5 _ _ _ _ _;refine UY (({cls:=.type "traceback",dict:=none,data:=.fields ([m,.ref L,.none,rawInt L,.none]++(if x.isEmpty then List.replicate 6 Value.none else x)).toArray}:Obj)) λr O=>?_;have J:e∉(env::outer).filterMap (·.frame):=λH=>by refine iv (u.mem H) λ_ o R h=>?_;rw[F]at R;cases R;exact h v rfl
 have f:=(w.2.1 e J).trans F;have g:=ZL (h:=Zx) r f;refine wpAny_setField g rfl n ?_;have U:∀b o,s.heap.get? b=some o->(∀v,o.data≠.fields v)->b≠e:=λb o q h z=>by rw[z,F]at q;cases q;exact h v rfl
 have up:∀b o,b≠e->Zx.get? b=some o->((Zx.push r).update e<|Obj.mapFields (·.setIfInBounds 1 (Value.ref Zx.objs.size))).get? b=some o:=λb o j q=>by refine aa (aag _ _<|X1 j) ?_;exact ZL _ q
 have sm:∀b o,s.heap.get? b=some o->(∀v,o.data≠.fields v)->∃y,((Zx.push r).update e<|Obj.mapFields (·.setIfInBounds 1 (Value.ref Zx.objs.size))).get? b=some {o with slots:=y}:=λb o q h=>by exact Xs (w.2.2 b o q) λt N=>⟨t,up b _ (U b o q h) N⟩
 have i:B.StaysIn Zx:=λb o j=>(w.2.1 b λH=>by rw[(u.mem H).1]at j;exact cE j nt).trans<|I b o j;have S:Zx.objs.size≠e:=XG<|YC f;refine k _ ⟨λb o j=>up b o (λz=>by rw[z,P]at j;exact cE j nt)<|i b o j,u.of_keeps λb o q h=>?_,P,_,y,Heap.get?_update_self _ g rfl,by simpa using n,.inr ⟨Zx.objs.size,r,_,by simp[n],i.fresh,S,?_,by subst O;rfl,?_⟩⟩ sm
 ·exact Xs (sm b o q h) λt N=>⟨_,N,rfl⟩
 ·refine aa (aag _ _<|X1 S) ?_
  exact Heap.get?_push_size Zx (by subst O;rfl:r.isFreed=false)
 ·first|(simp;done)|(rcases p with rfl|⟨_,_,_,_,_,_,_,rfl⟩<;> simp)
def Hq (g:A.frames=some (env::outer))(u:env.frame=some L)(x:Cs B (env::outer) e C d fl s.heap)(w:(fl==rawInt L)=false)
  (k:∀c,Cs B (env::outer) e C d (rawInt L) c->s.heap.UpToSlots c->Q () {s with heap:=c}):wpAny M A (noteFrame (.ref e) env) Q E s:=by
 refine cps λC n=>?_;obtain⟨i,D,F,H,R,m,j,I⟩:=x;refine n ?_;unfold noteFrame;simp only[u];refine cps λC n=>?_;rcases I with h1|⟨T,P,J,h1,v,r,p,t,y⟩
 ·exact n<|XC<|ZM m rfl h1 (aa (Xq<|by decide)<|Cm g u i D F m j k)
 ·refine n<|XC<|ZM m rfl h1 (XC<|ZM p t y<|aa (Xq<|by rw[w];decide)<|XC<|wpAny_setField p t (Array.getElem?_eq_some_iff.mp y).1 ?_)
  have a:∀b,b≠T->(s.heap.update T<|Obj.mapFields (·.setIfInBounds 3 Value.none)).get? b=s.heap.get? b:=λb f=>aag _ _<|X1 f;have G:∀b o,s.heap.get? b=some o->(∀H,o.data≠.fields H)->b≠T:=λb o q h z=>by rw[z,p]at q;cases q;exact h J t
  exact Cm g u (λb o f=>(a b λz=>by rw[z,v]at f;exact cE f nt).trans<|i b o f) (D.of_keeps λb o q h=>⟨o,(a b<|G b o q h).trans q,rfl⟩) F ((a e<|X1 r).trans m) j λc N O=>k c N λb o q h=>O b o ((a b<|G b o q h).trans q) h
def tj (x:Cs B l e C d fl s.heap)(k:∀t,Cs B l e C d .none t->s.heap.UpToSlots t->Q () {s with heap:=t}):wpAny M A (setFlight (.ref e) none) Q E s:=by
 refine cps λC r=>?_;obtain⟨j,w,y,v,F,p,m,J⟩:=x;refine r<|cps λC r=>?_;rcases J with h1|⟨T,N,H,h1,i,c,u,n,I⟩
 ·exact r<|XC<|ZM p rfl h1 (aa (Xq<|by decide)<|Yj<|k _ ⟨j,w,y,v,F,p,m,.inl h1⟩<|.refl _)
 ·have a:∀b,b≠T->(s.heap.update T<|Obj.mapFields (·.setIfInBounds 3 ((none:Option Addr).elim Value.none λf=>rawInt f))).get? b=s.heap.get? b:=λb g=>aag _ _<|X1 g
  have D:∀b o,s.heap.get? b=some o->(∀v,o.data≠.fields v)->b≠T:=λb o q h z=>by rw[z,u]at q;cases q;exact h H n
  have G:3<H.size:=(Array.getElem?_eq_some_iff.mp I).1;refine r<|XC<|ZM p rfl h1 (wpAny_setField u n G<|k _ ⟨λb o g=>(a b λz=>by rw[z,i]at g;exact cE g nt).trans<|j b o g,w.of_keeps λb o q h=>⟨o,(a b<|D b o q h).trans q,rfl⟩,y,v,F,(a e<|X1 c).trans p,m,
   .inr ⟨T,_,_,h1,i,c,Heap.get?_update_self _ u<|Obj.isFreed_of_fields<|Obj.data_mapFields n _,Obj.data_mapFields n _,by simp[G]⟩⟩ λb o q h=>⟨o.slots,(a b<|D b o q h).trans q⟩)
def IY (a:A.frames=some (env::outer))(c:env.frame=some L)(x:Cs B (env::outer) e C d .none s.heap)
  (k:∀h,Cs B outer e C d .none h->s.heap.UpToSlots h->Q () {s with heap:=h}):wpAny M A (leaving env<|.ref e) Q E s:=by
 exact XC<|Hq a c x (rfl) λh1 y z=>(tj y λb f g=>k b f.outer<|z.trans g)
end
noncomputable abbrev rW:List Value:=[.type "Exception",.type "BaseException",.type "object"]
structure XK(P:bi)(C C1 fI:Addr)(x nw na:Str):Prop where
 mro:Fp P.K C C1
 cls:∀Z:Prop,(∀nm q N bs sn sub ab col dd k0 k1 k2 k3 k5 mN,P.K.lookup C=some (excClassObj nm q C N bs (.ref C1::rW) true sn sub ab col dd k0 k1 k2 k3 k5 "Exception.__new__")->(∀h,P.K.In h->h.Ns N mN)->mN "__init__"=some (.ref fI)->Z)->Z
 tail:∀h,P.K.In h->OwnTail h rW (.ref C1::rW)
 keep:keepIn P.K (.ref C)=true
 glob:P.b x=some (.ref C)
 fn:isFn P.K (.ref fI)=true
 init:∀Z:Prop,(∀scope qual Zs abf abj aav p3 p4 p5 p6 p7 p8,nY P 1003 [abf,nw,na] 3 scope [.Assign [.Attribute (.Name abf abj) nw aav] (.Name nw p3) p4,.Assign [.Attribute (.Name abf p5) na p6] (.Name na p7) p8] qual Zs->P.f 1003=fI->a7 abf=true->a7 nw=true->a7 na=true->Z)->Z
 l:takerIn P.K C nw=some none/\∃attr,findIn P.K (.ref C) nw=some attr/\noGet P.K attr=true
 f:takerIn P.K C na=some none/\∃attr,findIn P.K (.ref C) na=some attr/\noGet P.K attr=true
 ne:nw≠na
def rZ (x)(t):(Value.str x t).isStr x=true:=by simp[Value.isStr]
def sR (t)(h:x≠y):(Value.str x t).isStr y=false:=by simp[Value.isStr,h]
theorem Aq(x)(t)(v)(k):(DictEntry.mk k (.str x t) v).refKey=false:=rfl
noncomputable def Di(k a:Int)(b n:Str)(t c:Tok)(u d:Value):List DictEntry:=[⟨k,.str b t,u⟩,⟨a,.str n c,d⟩]
def B0 (h:a≠n):putL n b (.str n c) u2 [⟨k,.str a t,u⟩]=Di k b a n t c u u2:=by simp[putL,sR _ h,Di]
def JI (h:a≠n):getL n [⟨k,.str a t,u⟩]=some none:=by delta getL;simp[sR _ h,Aq]
def DM:getL n (Di k a n b t c u d)=some (some u):=by delta getL;simp[Di,rZ]
def AA (h:a≠n):getL n (Di k b a n t c d u)=some (some u):=by delta getL;simp[Di,rZ,sR _ h]
section
variable{P:bi}{A:Around}{Xp:Heap}{L C C1 fI:Addr}{x nw na:Str}{m:Str->Option Value}{s:Shared}
def yd (a:env.scope.kind=.function)(d:env.kindOf y=some .local)(e:env.locals=c)(F:Fr g c s.heap m)(f:m y=some u)(b:a7 y=true)(h:Q u s):
  wpAny (model P.p P.w) A (eval (.Name y p) env) Q E s:=by
 simp only[a7,Xu,YE]at b;subst e;exact wpAny_Name (Z3 a d F.ns f h) b.1
def MK (X:XK P C C1 fI x nw na)(j:uj P A Xp L d)(J:CI A A')(F:Fr Xp L s.heap m)(Nw:News Xp L s.heap<|(e,⟨.ref C,none,.fields vs,#[]⟩)::news)(Q:∀p∈news,p.1≠e)
  (k:∀I tk l n H,Fr Xp L I m->News Xp L I ((l,dictOf H n)::(e,⟨.ref C,some l,.fields vs,#[]⟩)::news)->(∀p∈news,p.1≠l)->e≠l->getL nw H=some (some u)->getL na H=some (some o)->R (.ok<|.ret .none) {s with heap:=I,toks:=tk}):
  codeAny (model P.p P.w) A' (.call (.ref fI) ⟨[.ref e,u,o],[]⟩) R s:=by
 refine cps λC kC=>tM J.facts λn1 n2 n3 n4=>j.below _ λU base T env B O M N=>X.init _ λb q f v abj aav p3 p4 p5 p6 p7 p8 a e o1 o2 o3=>?_;subst e;refine a.ex _ λname w aau kV doc pm an ct oc t S hK i=>?_;have z:=a.j;have nd:=z;refine kC<|callX_plain (fo:=⟨oc,t,_,S⟩) B F Nw j.base.nolimit (n2.trans O) M N ((j.base.K.keeps F.keep) _ _ hK) rfl (codeRec_of (j.base.K.keeps F.keep) a.code) (by have:=j.room;have:recursionLimit=1000:=rfl;exact ow 0x209f08e189af13033dfd0e0879b0b44c0065b tq ‹_› ‹_› ‹_›) (i s [.ref e,u,o] rfl) (λy hy=>?_) (λg G Zx FG D N' BG st hlt=>?_) a.n a.c a.gen a.kind
 ·have hm:y.1∈[v,nw,na].take 3:=(of_mem_zip hy).1
  exact a.loc _<|Z7 hm
 ·have l1:(envX q b G (P.f 1003) f []).kindOf v=some .local:=a.loc _<|.head _
  have W:=j.base.K.keeps st;have v1:(([v,nw,na].take 3).zip [.ref e,u,o]).reverse.lookup v=some (Value.ref e):=dm z (i:=0) rfl rfl;refine aay<|plainObj_wpAny_Assign_Attribute<|yd a.kind (a.loc _ (.tail _<|.head _):(envX q b G (P.f 1003) f []).kindOf nw=some .local) rfl D (dm z (i:=1) rfl rfl:(([v,nw,na].take 3).zip [.ref e,u,o]).reverse.lookup nw=some u) o2 (yd a.kind l1 rfl D v1 o1 (Da D W N' X.mro X.l.1 Q λh2 l E N2 c=>aay<|plainObj_wpAny_Assign_Attribute<|yd a.kind (a.loc _ (.tail _<|.tail _<|.head _):(envX q b G (P.f 1003) f []).kindOf na=some .local) rfl E (dm z (i:=2) rfl rfl:(([v,nw,na].take 3).zip [.ref e,u,o]).reverse.lookup na=some o) o3 (yd a.kind l1 rfl E v1 o1 (Ic (pre:=[]) E W N2 X.mro X.f.1 (.tail _<|.head _) (by refine aa (JI X.ne) ?_;rfl) (λ_ h=>Xv h XZ) (λp r=>?_) ?_ λh3 F3 Y=>?_))))
  ·rcases XD.mp r with rfl|r
   ·have:=c _<|List.Mem.head _;exact this
   ·exact c _<|.tail _ r
  ·refine aa (B0 X.ne) ?_;exact Yb rfl
  rw[dE,B0 X.ne]at Y;exact wpAny_execs_nil<|leaveK_ F3 Y λF4 N4=>k h3 _ l _ _ F4 N4 (λp r=>c _<|.tail _ r) (by have:=c _<|List.Mem.head _;exact this) DM<|AA X.ne
end
set_option genInjectivity false in
structure ui where
 fn:Nat->Option Str
 c:Nat->Option Str
 m:Nat->Option Str
 fld:Nat->Str
structure vX(T:ui)(P:bi):Prop where
 fn:P.a=T.fn
 c:P.c=T.c
 m:P.m=T.m
 fld:P.Z.f=T.fld
noncomputable def sI(f:c->d->Bool):List c->List d->Bool
 | [],k=>k.isEmpty
 |a::l,k=>(match k with | []=>false|b::k=>f a b&&sI f l k)
def j9 {f:Expr->ME->Bool}{R:Expr->ME->Prop}(c:∀a b,f a b=true->R a b){l:List Expr}:∀{k:List ME},sI f l k=true->rf R l k:=by
 induction l with
 |nil=>intro k h;cases k with |nil=>exact .nil|cons=>exact aZ h
 |cons a l i=>intro k h;cases k with |nil=>exact aZ h|cons b k=>exact .cons (c _ _ ((Xu _ _).mp h).1)<|i ((Xu _ _).mp h).2
noncomputable def pf(b:NC)(a:List<|Str×NameKind):List<|Str×NameKind:=a.map λ(n,k)=>if(k==.free&&b.names.lookup n==some .cell)then(n,.cell)else(n,k)
def eA (a:NC)(x:Str)(s:Scope)(c:List Nat):NC:=⟨x::c.map (λi=>a.vars.getD i Str.empty),pf a s.names⟩
def K5 (a:NC)(s:Scope)(i:Nat):Bool:=match a.vars[i]? with
 |some y=>(a.names.lookup y==some .cell)&&(((pf a s.names).lookup y==some .cell)||((pf a s.names).lookup y==some .free))&&s.names.contains (y,.free)
 |none=>false
def nc (a:NC)(x:Str)(s:Scope)(c:List Nat):Bool:=
 (s.kind==.function)&&(s.names.lookup x==some .local)&&
 (s.names.all λy=>!(y.2==.cell)&&(!(y.2==.local)||(s.names.lookup y.1==some .local))&&(!(y.2==.free)||(a.vars.contains y.1&&(a.names.lookup y.1==some .cell))))&&
 c.all (K5 a s)
def xp (e:Env)(a:NC):Prop:=∀x∈a.vars,e.kindOf x=some .local\/(e.kindOf x=some .cell/\∃c,e.cells.lookup x=some c)
noncomputable def mO(e:Env):List (Str×NameKind)->List (Str×Addr)->List (Str×Addr)
 | [],a=>a
 |(n,k)::r,a=>if k==.free then mO e r ((n,(e.cells.lookup n).getD 0)::a)else mO e r a
theorem EH{e z2}:mO e [] z2=z2:=rfl
theorem ti{e z2 n k r}:mO e ((n,k)::r) z2=if(k==NameKind.free)=true then mO e r ((n,(List.lookup n e.cells).getD 0)::z2)else mO e r z2:=rfl
def Jm {b:Env}{a:List<|Str×NameKind}:∀{acc:List<|Str×Addr},(∀y∈a,y.2=.free->∃c,b.cells.lookup y.1=some c)->
  (forIn a acc λ(y:Str×NameKind) (cs:List<|Str×Addr)=>(if y.2==.free then do pure (ForInStep.yield<|(y.1,<- cellOf b y.1)::cs)else pure (ForInStep.yield cs):Sem<|ForInStep<|List<|Str×Addr))=pure (mO b a acc):=by
 induction a with
 |nil=>intro acc _;exact rfl
 |cons p r i=>
  intro acc h;obtain⟨n,k⟩:=p;rw[List.forIn_cons];by_cases e:k=.free
  ·subst e
   refine Xs (h _ (.head _) rfl) λc f=>?_;have:cellOf b n=pure c:=by unfold cellOf;rw[f]
   simp only[this,ti,f];exact i λy d=>h y<|.tail _ d
  ·have g:(k==NameKind.free)=false:=by simpa using e
   simp only[g,ti];exact i λy d=>h y<|.tail _ d
def yU {e:Env}{s:Scope}(h:∀y∈s.names,y.2=.free->∃c,e.cells.lookup y.1=some c):closureFor s e=pure (mO e s.names []):=by have:=Jm (acc:=[]) h;unfold closureFor;refine XR ?_<|this;simp only[bind_pure]
def AX {i:Env}{x:Str}{f:List<|Str×NameKind}:∀{g:List<|Str×Addr},(∀y∈f,y.2=.free->∃c,i.cells.lookup y.1=some c)->(∀y∈g,i.cells.lookup y.1=some y.2)->((x,NameKind.free)∈f\/x∈g.map (·.1))->(mO i f g).lookup x=i.cells.lookup x:=by
 induction f with
 |nil=>
  intro g _ l d;rcases d with d|d
  ·exact Xv d XZ
  ·refine aa EH ?_
   induction g with
   |nil=>exact Xv d XZ
   |cons p t o=>
    obtain⟨a,b⟩:=p;by_cases e:x=a
    ·subst e
     simp;exact(l _<|.head _).symm
    ·simp[YL,Yn.mpr e]
     refine o (λy j=>l y<|.tail _ j) ?_;rw[af,XD]at d;exact d.resolve_left e
 |cons m r o=>
  intro g h l d;obtain⟨n,k⟩:=m;refine aa ti ?_;by_cases e:k=.free
  ·subst e
   refine Xs (h _ (.head _) rfl) λc q=>?_;simp only[(q:i.cells.lookup n=some c),Option.getD_some];refine o (λy j=>h y<|.tail _ j) (λy j=>?_) ?_
   ·rcases XD.mp j with rfl|j
    ·exact q
    ·exact l y j
   ·rcases d with d|d
    ·rcases XD.mp d with d|d
     ·cases d;exact .inr (by simp)
     ·exact .inl d
    ·exact .inr<|.tail _ d
  ·have s:(k==NameKind.free)=false:=by simpa using e
   refine aa s<|o (λy j=>h y<|.tail _ j) l ?_;rcases d with d|d
   ·rcases XD.mp d with d|d
    ·cases d;exact Xv rfl e
    ·exact .inl d
   ·exact .inr d
def Cw {P:bi}{B:Cl}{A:Around}{a:Env}{l:Heap}{L:Addr}{m:Str->Option Value}{f:NC}(X:EX P B A a l L m f)(K:xp a f){x:Str}{s:Scope}{b:List Nat}(h:nc f x s b=true):
  ∃o,fG a f x s o b<|eA f x s b:=by
 simp only[nc,Xu,Yh,YF,YS,YE,Yn,ne_eq]at h;refine XE (λz D=>?_) h;obtain⟨⟨h1,C⟩,p⟩:=z;have r:∀y,a.kindOf y=f.names.lookup y:=λy=>by refine dG X.b ?_;rfl
 have v:∀y∈s.names,y.2=.free->∃c,a.cells.lookup y.1=some c:=λy d e=>by
  rcases(p y d).2 with q|⟨t,u⟩
  ·exact Xv e q
  ·rcases K y.1 (aac.mp t)with k|⟨_,k⟩
   ·rw[r,u]at k;cases k
   ·exact k
 refine⟨mO a s.names [],⟨yU v,λy d=>(p y d).1.1,h1,λy d e=>?_,C,?_,rfl,λj i w=>?_⟩⟩
 ·rcases(p y d).1.2 with q|q
  ·exact Xv e q
  ·exact q
 ·unfold relabel eA pf
  refine YA λy _=>?_;obtain⟨n,k⟩:=y;dsimp only;rw[r,X.g];simp
 ·have g:=D i<|YQ w
  unfold K5 at g;split at g
  ·rename_i y d
   simp only[Xu,YF,YS]at g;refine XE (λz E=>?_) g;obtain⟨t,u⟩:=z;refine⟨y,d,?_,by rw[r];exact t,u,AX v (λ_ h=>Xv h XZ)<|.inl<|aac.mp E⟩;simp only[eA,List.getElem?_cons_succ,Zt,w,Option.map_some];refine aa (Yr)<|aa d ?_;rfl
  ·exact eH g nt
noncomputable def dr(e:Expr)(b:Const->Nat->Pos->Bool):Bool:=if h:e.ctorIdx=19 then Expr.Constant.elim (motive_1:=λ_=>Bool) e h b else false
def bM {Q:Expr->Prop}(k:∀a c d,b a c d=true->Q (.Constant a c d))(h:dr e b=true):Q e:=eF h λx=>Expr.Constant.elim (motive_1:=λe=>dr e b=true->Q e) e x k h
noncomputable def w0(e:Expr)(b:UnaryOp->Expr->Pos->Bool):Bool:=if h:e.ctorIdx=3 then Expr.UnaryOp.elim (motive_1:=λ_=>Bool) e h b else false
def j2 {Q:Expr->Prop}(k:∀a c d,b a c d=true->Q (.UnaryOp a c d))(h:w0 e b=true):Q e:=eF h λx=>Expr.UnaryOp.elim (motive_1:=λe=>w0 e b=true->Q e) e x k h
noncomputable def bl(e:Expr)(b:Str->Pos->Bool):Bool:=if h:e.ctorIdx=23 then Expr.Name.elim (motive_1:=λ_=>Bool) e h b else false
def az {Q:Expr->Prop}(k:∀a c,b a c=true->Q (.Name a c))(h:bl e b=true):Q e:=eF h λx=>Expr.Name.elim (motive_1:=λe=>bl e b=true->Q e) e x k h
noncomputable def jN(e:Expr)(b:Expr->Str->Pos->Bool):Bool:=if h:e.ctorIdx=20 then Expr.Attribute.elim (motive_1:=λ_=>Bool) e h b else false
def fb {Q:Expr->Prop}(k:∀a c d,b a c d=true->Q (.Attribute a c d))(h:jN e b=true):Q e:=eF h λx=>Expr.Attribute.elim (motive_1:=λe=>jN e b=true->Q e) e x k h
noncomputable def ea(e:Expr)(b:Expr->List Expr->List Keyword->Pos->Bool):Bool:=if h:e.ctorIdx=16 then Expr.Call.elim (motive_1:=λ_=>Bool) e h b else false
def bJ {Q:Expr->Prop}(k:∀a c d f,b a c d f=true->Q (.Call a c d f))(h:ea e b=true):Q e:=eF h λx=>Expr.Call.elim (motive_1:=λe=>ea e b=true->Q e) e x k h
noncomputable def Ia(e:Expr)(b:Expr->Operator->Expr->Pos->Bool):Bool:=if h:e.ctorIdx=2 then Expr.BinOp.elim (motive_1:=λ_=>Bool) e h b else false
def Hw {Q:Expr->Prop}(k:∀a c d f,b a c d f=true->Q (.BinOp a c d f))(h:Ia e b=true):Q e:=eF h λx=>Expr.BinOp.elim (motive_1:=λe=>Ia e b=true->Q e) e x k h
noncomputable def uQ(e:Expr)(b:BoolOp->List Expr->Pos->Bool):Bool:=if h:e.ctorIdx=0 then Expr.BoolOp.elim (motive_1:=λ_=>Bool) e h b else false
def oF {Q:Expr->Prop}(k:∀a c d,b a c d=true->Q (.BoolOp a c d))(h:uQ e b=true):Q e:=eF h λx=>Expr.BoolOp.elim (motive_1:=λe=>uQ e b=true->Q e) e x k h
noncomputable def Co(e:Expr)(b:Expr->List CmpOp->List Expr->Pos->Bool):Bool:=if h:e.ctorIdx=15 then Expr.Compare.elim (motive_1:=λ_=>Bool) e h b else false
def xq {Q:Expr->Prop}(k:∀a c d f,b a c d f=true->Q (.Compare a c d f))(h:Co e b=true):Q e:=eF h λx=>Expr.Compare.elim (motive_1:=λe=>Co e b=true->Q e) e x k h
noncomputable def NA(e:Expr)(b:Expr->Expr->Expr->Pos->Bool):Bool:=if h:e.ctorIdx=5 then Expr.IfExp.elim (motive_1:=λ_=>Bool) e h b else false
def IR {Q:Expr->Prop}(k:∀a c d f,b a c d f=true->Q (.IfExp a c d f))(h:NA e b=true):Q e:=eF h λx=>Expr.IfExp.elim (motive_1:=λe=>NA e b=true->Q e) e x k h
noncomputable def ol(e:Expr)(b:Expr->Expr->Pos->Bool):Bool:=if h:e.ctorIdx=21 then Expr.Subscript.elim (motive_1:=λ_=>Bool) e h b else false
def gN {Q:Expr->Prop}(k:∀a c d,b a c d=true->Q (.Subscript a c d))(h:ol e b=true):Q e:=eF h λx=>Expr.Subscript.elim (motive_1:=λe=>ol e b=true->Q e) e x k h
noncomputable def lX(e:Expr)(b:Option Expr->Option Expr->Option Expr->Pos->Bool):Bool:=if h:e.ctorIdx=26 then Expr.Slice.elim (motive_1:=λ_=>Bool) e h b else false
def kg {Q:Expr->Prop}(k:∀a c d f,b a c d f=true->Q (.Slice a c d f))(h:lX e b=true):Q e:=eF h λx=>Expr.Slice.elim (motive_1:=λe=>lX e b=true->Q e) e x k h
noncomputable def zW(e:Expr)(b:List Expr->Pos->Bool):Bool:=if h:e.ctorIdx=24 then Expr.List.elim (motive_1:=λ_=>Bool) e h b else false
def D1 {Q:Expr->Prop}(k:∀a c,b a c=true->Q (.List a c))(h:zW e b=true):Q e:=eF h λx=>Expr.List.elim (motive_1:=λe=>zW e b=true->Q e) e x k h
noncomputable def xn(e:Expr)(b:List Expr->Nat->Pos->Bool):Bool:=if h:e.ctorIdx=25 then Expr.Tuple.elim (motive_1:=λ_=>Bool) e h b else false
def sF {Q:Expr->Prop}(k:∀a c d,b a c d=true->Q (.Tuple a c d))(h:xn e b=true):Q e:=eF h λx=>Expr.Tuple.elim (motive_1:=λe=>xn e b=true->Q e) e x k h
noncomputable def wi(e:Expr)(b:List (Option Expr)->List Expr->Pos->Bool):Bool:=if h:e.ctorIdx=6 then Expr.Dict.elim (motive_1:=λ_=>Bool) e h b else false
def uy {Q:Expr->Prop}(k:∀a c d,b a c d=true->Q (.Dict a c d))(h:wi e b=true):Q e:=eF h λx=>Expr.Dict.elim (motive_1:=λe=>wi e b=true->Q e) e x k h
noncomputable def qr(e:Expr)(b:Expr->List Comprehension->Scope->Pos->Bool):Bool:=if h:e.ctorIdx=8 then Expr.ListComp.elim (motive_1:=λ_=>Bool) e h b else false
def mh {Q:Expr->Prop}(k:∀a c d f,b a c d f=true->Q (.ListComp a c d f))(h:qr e b=true):Q e:=eF h λx=>Expr.ListComp.elim (motive_1:=λe=>qr e b=true->Q e) e x k h
noncomputable def qX(e:Const)(b:Int->Bool):Bool:=if h:e.ctorIdx=2 then Const.int.elim (motive:=λ_=>Bool) e h b else false
def jl {b:Int->Bool}{Q:Const->Prop}(k:∀a,b a=true->Q (.int a))(h:qX e b=true):Q e:=eF h λx=>Const.int.elim (motive:=λe=>qX e b=true->Q e) e x k h
noncomputable def ux(e:Const)(b:Str->Bool):Bool:=if h:e.ctorIdx=5 then Const.str.elim (motive:=λ_=>Bool) e h b else false
def pt {b:Str->Bool}{Q:Const->Prop}(k:∀a,b a=true->Q (.str a))(h:ux e b=true):Q e:=eF h λx=>Const.str.elim (motive:=λe=>ux e b=true->Q e) e x k h
noncomputable def AW(e:Const)(b:Bool->Bool):Bool:=if h:e.ctorIdx=1 then Const.bool.elim (motive:=λ_=>Bool) e h b else false
def DD {Q:Const->Prop}(k:∀a,b a=true->Q (.bool a))(h:AW e b=true):Q e:=eF h λx=>Const.bool.elim (motive:=λe=>AW e b=true->Q e) e x k h
noncomputable def ob(e:Stmt)(b:Expr->Pos->Bool):Bool:=if h:e.ctorIdx=24 then Stmt.Expr.elim (motive_2:=λ_=>Bool) e h b else false
def nG {Q:Stmt->Prop}(k:∀a c,b a c=true->Q (.Expr a c))(h:ob e b=true):Q e:=eF h λx=>Stmt.Expr.elim (motive_2:=λe=>ob e b=true->Q e) e x k h
noncomputable def qn(e:Stmt)(b:List Expr->Expr->Pos->Bool):Bool:=if h:e.ctorIdx=5 then Stmt.Assign.elim (motive_2:=λ_=>Bool) e h b else false
def mj {Q:Stmt->Prop}(k:∀a c d,b a c d=true->Q (.Assign a c d))(h:qn e b=true):Q e:=eF h λx=>Stmt.Assign.elim (motive_2:=λe=>qn e b=true->Q e) e x k h
noncomputable def wE(e:Stmt)(b:Expr->Operator->Expr->Pos->Bool):Bool:=if h:e.ctorIdx=7 then Stmt.AugAssign.elim (motive_2:=λ_=>Bool) e h b else false
def uw {Q:Stmt->Prop}(k:∀a c d f,b a c d f=true->Q (.AugAssign a c d f))(h:wE e b=true):Q e:=eF h λx=>Stmt.AugAssign.elim (motive_2:=λe=>wE e b=true->Q e) e x k h
noncomputable def An(e:Stmt)(b:List Expr->Pos->Bool):Bool:=if h:e.ctorIdx=4 then Stmt.Delete.elim (motive_2:=λ_=>Bool) e h b else false
def Dt {Q:Stmt->Prop}(k:∀a c,b a c=true->Q (.Delete a c))(h:An e b=true):Q e:=eF h λx=>Stmt.Delete.elim (motive_2:=λe=>An e b=true->Q e) e x k h
noncomputable def E6(e:Stmt)(b:Expr->List Stmt->List Stmt->Pos->Bool):Bool:=if h:e.ctorIdx=12 then Stmt.If.elim (motive_2:=λ_=>Bool) e h b else false
def EW {Q:Stmt->Prop}(k:∀a c d f,b a c d f=true->Q (.If a c d f))(h:E6 e b=true):Q e:=eF h λx=>Stmt.If.elim (motive_2:=λe=>E6 e b=true->Q e) e x k h
noncomputable def sC(e:Stmt)(b:Expr->List Stmt->List Stmt->Pos->Bool):Bool:=if h:e.ctorIdx=11 then Stmt.While.elim (motive_2:=λ_=>Bool) e h b else false
def xK {Q:Stmt->Prop}(k:∀a c d f,b a c d f=true->Q (.While a c d f))(h:sC e b=true):Q e:=eF h λx=>Stmt.While.elim (motive_2:=λe=>sC e b=true->Q e) e x k h
noncomputable def nb(e:Stmt)(b:Expr->Expr->List Stmt->List Stmt->Pos->Bool):Bool:=if h:e.ctorIdx=9 then Stmt.For.elim (motive_2:=λ_=>Bool) e h b else false
def je {Q:Stmt->Prop}(k:∀a c d f g,b a c d f g=true->Q (.For a c d f g))(h:nb e b=true):Q e:=eF h λx=>Stmt.For.elim (motive_2:=λe=>nb e b=true->Q e) e x k h
noncomputable def vB(e:Stmt)(b:Option Expr->Pos->Bool):Bool:=if h:e.ctorIdx=3 then Stmt.Return.elim (motive_2:=λ_=>Bool) e h b else false
def vl {Q:Stmt->Prop}(k:∀a c,b a c=true->Q (.Return a c))(h:vB e b=true):Q e:=eF h λx=>Stmt.Return.elim (motive_2:=λe=>vB e b=true->Q e) e x k h
noncomputable def sM(e:Stmt)(b:Option Expr->Option Expr->Pos->Bool):Bool:=if h:e.ctorIdx=16 then Stmt.Raise.elim (motive_2:=λ_=>Bool) e h b else false
def yM {Q:Stmt->Prop}(k:∀a c d,b a c d=true->Q (.Raise a c d))(h:sM e b=true):Q e:=eF h λx=>Stmt.Raise.elim (motive_2:=λe=>sM e b=true->Q e) e x k h
noncomputable def J8(e:ME)(b:Int->Bool):Bool:=ME.casesOn (motive_1:=λ_=>Bool) e b (λ_=>false) (λ_=>false) (λ_=>false) (λ_ _=>false) (λ_ _=>false) (λ_ _=>false) (λ_ _ _=>false) (λ_ _ _=>false) (λ_=>false) (λ_=>false) (λ_=>false) (λ_ _ _=>false) (λ_ _ _=>false) (λ_ _=>false) (λ_ _ _=>false) (λ_ _=>false) (λ_ _=>false) (λ_=>false) (λ_=>false) (λ_ _=>false) false (λ_=>false) (λ_=>false) (λ_ _=>false) (λ_=>false) (λ_=>false) (λ_=>false) (λ_=>false) (λ_ _ _=>false) (λ_ _ _ _=>false) (λ_ _ _=>false) λ_ _ _ _=>false
def BJ {Q:ME->Prop}(k:∀x,b x=true->Q (.i x))(h:J8 e b=true):Q e:=ME.casesOn (motive_1:=λe=>J8 e b=true->Q e) e k (λ_=>aZ) (λ_=>aZ) (λ_=>aZ) (λ_ _=>aZ) (λ_ _=>aZ) (λ_ _=>aZ) (λ_ _ _=>aZ) (λ_ _ _=>aZ) (λ_=>aZ) (λ_=>aZ) (λ_=>aZ) (λ_ _ _=>aZ) (λ_ _ _=>aZ) (λ_ _=>aZ) (λ_ _ _=>aZ) (λ_ _=>aZ) (λ_ _=>aZ) (λ_=>aZ) (λ_=>aZ) (λ_ _=>aZ) aZ (λ_=>aZ) (λ_=>aZ) (λ_ _=>aZ) (λ_=>aZ) (λ_=>aZ) (λ_=>aZ) (λ_=>aZ) (λ_ _ _=>aZ) (λ_ _ _ _=>aZ) (λ_ _ _=>aZ) (λ_ _ _ _=>aZ) h
noncomputable def ul(l:List c)(b:c->Bool):Bool:=match l with | [a]=>b a|_=>false
def cD {b:c->Bool}{Q:List c->Prop}(k:∀a,b a=true->Q [a])(h:ul l b=true):Q l:=by cases l with |nil=>exact aZ h|cons a l=>cases l with |nil=>exact k a h|cons=>exact aZ h
noncomputable def KY(l:List a)(b:a->a->Bool):Bool:=match l with | [x,y]=>b x y|_=>false
def nH {b:a->a->Bool}{Q:List a->Prop}(k:∀x y,b x y=true->Q [x,y])(h:KY l b=true):Q l:=by cases l with |nil=>exact aZ h|cons x l=>cases l with |nil=>exact aZ h|cons y l=>cases l with |nil=>exact k x y h|cons=>exact aZ h
noncomputable def mS(l:List a):Bool:=match l with | []=>true|_=>false
@[elab_as_elim]def a0 {Q:List a->Prop}(h:mS l=true)(k:Q []):Q l:=by cases l with |nil=>exact k|cons=>exact aZ h
noncomputable def Ka(o:Option c)(b:c->Bool):Bool:=match o with |some a=>b a|none=>false
def k7 {Q:Option c->Prop}(k:∀a,b a=true->Q (some a))(h:Ka o b=true):Q o:=by cases o with |none=>exact aZ h|some a=>exact k a h
noncomputable def EM(o:Option a):Bool:=match o with |none=>true|some _=>false
@[elab_as_elim]def iP {Q:Option a->Prop}(h:EM o=true)(k:Q none):Q o:=by cases o with |none=>exact k|some=>exact aZ h
noncomputable def Qz(g:Comprehension)(b:Expr->Expr->List Expr->Int->Bool):Bool:=b g.target g.iter g.ifs g.is_async
def xb {Q:Comprehension->Prop}(k:∀t i f z,b t i f z=true->Q ⟨t,i,f,z⟩)(h:Qz g b=true):Q g:=match g,h with
 |⟨t,i,f,z⟩,h=>k t i f z h
section
variable{C:Prop}
def qB (k:a=true->b=true->C)(h:(a&&b)=true):C:=by cases a<;> cases b<;>first| exact k rfl rfl| exact eH h nt
def BY (k:a=true->b=true->c=true->C):(a&&b&&c)=true->C:=qB λh x=>qB (λh y=>k h y x) h
def Dh (k:a=true->b=true->c=true->d=true->C):(a&&b&&c&&d)=true->C:=qB λh x=>BY (λh y z=>k h y z x) h
def OG (k:a=true->b=true->c=true->d=true->e=true->C):(a&&b&&c&&d&&e)=true->C:=qB λh x=>Dh (λh y z u=>k h y z u x) h
def Pa (k:a=true->b=true->c=true->d=true->e=true->f=true->C):(a&&b&&c&&d&&e&&f)=true->C:=qB λh x=>OG (λh y z u v=>k h y z u v x) h
def NW (k:a=true->b=true->c=true->d=true->e=true->f=true->g=true->C):(a&&b&&c&&d&&e&&f&&g)=true->C:=qB λh x=>Pa (λh y z u v w=>k h y z u v w x) h
def VE (k:a=true->b=true->c=true->d=true->e=true->f=true->g=true->i=true->C):(a&&b&&c&&d&&e&&f&&g&&i)=true->C:=qB λh x=>NW (λh y z u v w t=>k h y z u v w t x) h
def UA (k:a=true->C)(c:b=true->C)(h:(a||b)=true):C:=by cases a<;> cases b<;>first| exact k rfl| exact c rfl| exact eH h nt
end
@[elab_as_elim]def dq {x a:b}{i:Decidable<|x=a}{Q:b->Prop}(h:@decide (x=a) i=true)(k:Q a):Q x:=Zn h▸k
def od [Decidable p](h:decide p=true):p:=Zn h
def bq [BEq c][LawfulBEq c]{a b:c}(h:(a==b)=true):a=b:=eq_of_beq h
abbrev Rec:=Bool->Bool->NC->Expr->ME->Bool
def u9 (r:Rec)(t:Bool)(a:NC):List Expr->List ME->Bool:=sI λe m=>au e&&r false t a e m
noncomputable def so(e:Expr):Bool:=Nat.ble (e.ctorIdx+1) 7||Nat.ble 8 e.ctorIdx
noncomputable def zG(e:Expr):Bool:=Nat.ble 16 e.ctorIdx&&!(Nat.beq e.ctorIdx 17||Nat.beq e.ctorIdx 18||Nat.beq e.ctorIdx 22||Nat.ble 24 e.ctorIdx)
def glob (a:NC)(x:Str):Bool:=(a.names.lookup x==some .globalImplicit)&&a7 x
def L4 (r:Rec)(t:Bool)(b:NC)(n:Str)(e:Expr)(a:ME):Bool:=ea e λd c k _=>bl d λf _=>ul c λx=>mS k&&decide (f=n)&&hF n b&&au x&&r false t b x a
def K2 (T:ui)(r:Rec)(m:Bool)(q:NC)(e:Expr)(me:ME):Bool:=match me with
 | .i i=>dr e (λc _ _=>qX c λj=>decide (i=j))||w0 e λo x _=>decide (o=.USub)&&dr x λc _ _=>qX c λj=>decide (i=-j)
 | .s t=>dr e λc _ _=>ux c λx=>decide (x=S2 t)
 | .b b=>dr e λc _ _=>AW c λd=>decide (b=d)
 | .v i=>bl e λx _=>decide (q.vars[i]?=some x)&&a7 x
 | .f o f=>jN e λO x _=>tB O&&decide (T.fld f=x)&&r false m q O o
 | .c k G=>ea e λC w B _=>bl C λx _=>mS B&&decide (T.fn k=some x)&&glob q x&&u9 r m q w G
 | .w k G=>ea e λC w B _=>bl C λx _=>mS B&&decide (T.c k=some x)&&glob q x&&u9 r m q w G
 | .m k o G=>ea e λC w B F=>jN C λO x A=>mS B&&decide (T.m k=some x)&&dM O&&decide (w.length<30)&&(A.endLine==F.line)&&r false m q O o&&u9 r m q w G
 | .o op a b=>Ia e λx o y _=>decide (o=wV op)&&r false m q x a&&r false m q y b
 | .N a=>w0 e λo x _=>decide (o=.Not)&&r false m q x a
 | .a G=>uQ e λo w _=>decide (o=.And)&&sI (r false m q) w G
 | .or G=>uQ e λo w _=>decide (o=.Or)&&sI (r false m q) w G
 | .q op a b=>Co e λx os ys _=>ul os λo=>ul ys λy=>decide (o=As op)&&(behindInMarks o y==false)&&r false m q x a&&r false m q y b
 | .e c a b=>NA e λt x y _=>r true m q t c&&r false m q x a&&r false m q y b
 | .t a i=>ol e λx y _=>sN y&&r false m q x a&&r false m q y i
 | .S a Y U=>ol e λQ s _=>bl Q λx p=>lX s λl h P _=>Ka l λl=>Ka h λh=>EM P&&r false m q (.Name x p) a&&r false m q l Y&&r false m q h U
 | .Y a U=>ol e λQ s _=>bl Q λx p=>lX s λl h P _=>Ka h λh=>EM l&&EM P&&r false m q (.Name x p) a&&r false m q h U
 | .X a Y=>ol e λQ s _=>bl Q λx p=>lX s λl h P _=>Ka l λl=>EM h&&EM P&&r false m q (.Name x p) a&&r false m q l Y
 | .l w=>zW e λxs _=>decide (w.length<=1000)&&u9 r m q xs w
 | .p w=>xn e λxs _ _=>decide (w.length<=1000)&&u9 r m q xs w
 | .dS B w=>wi e λR S _=>(mS R&&mS S&&mS B&&mS w)||KY R λW X=>KY S λv1 v2=>KY B λtx ty=>KY w λa b=>
   Ka W λW=>dr W λJ _ _=>ux J λx=>Ka X λX=>dr X λL _ _=>ux L λy=>w0 v1 λo1 w1 _=>dr w1 λd1 _ _=>qX d1 λi=>w0 v2 λo2 w2 _=>dr w2 λd2 _ _=>qX d2 λj=>
   J8 a λa=>J8 b λb=>decide (o1=.USub/\o2=.USub)&&decide (x=S2 tx)&&decide (y=S2 ty)&&decide (tx≠ty)&&decide (a=-i)&&decide (b=-j)
 | .dI=>wi e λR S _=>mS R&&mS S
 | .n a=>L4 r m q "len" e a
 | .ord a=>L4 r m q "ord" e a
 | .u a=>L4 r m q "sum" e a
 | .k a=>L4 r m q "sorted" e a
 | .x a b=>ea e λC w B _=>bl C λf _=>KY w λx y=>mS B&&decide (f="max")&&hF "max" q&&au x&&au y&&r false m q x a&&r false m q y b
 | .pop a=>ea e λC w B F=>jN C λo f A=>mS w&&mS B&&decide (f="pop")&&dM o&&(A.endLine==F.line)&&r false m q o a
 | .j a=>ea e λC w B F=>jN C λo f A=>dr o λc _ _=>ux c λz=>ul w λx=>mS B&&decide (f="join")&&decide (z=S2 [])&&au x&&(A.endLine==F.line)&&r false m q x a
 | .C D I v=>qr e λM N u _=>ul N λg=>Qz g λt H E z=>bl t λx _=>mS E&&m&&decide (z=0)&&nc q x u v&&so H&&r false m q H I&&r false false (eA q x u v) M D
 | .E D I c v=>qr e λM N u _=>ul N λg=>Qz g λt H E z=>bl t λx _=>ul E λce=>m&&decide (z=0)&&nc q x u v&&so H&&r false m q H I&&r false false (eA q x u v) M D&&r true false (eA q x u v) ce c
 | .D D n v=>qr e λM N u _=>ul N λg=>Qz g λt H E z=>bl t λx _=>ea H λC w B _=>bl C λf _=>ul w λen=>mS E&&mS B&&(m&&decide (z=0)&&decide (f="range")&&hF "range" q&&au en&&nc q x u v&&r false m q en n&&r false false (eA q x u v) M D)
 | .F _ _ _ _=>false
def stepT (T:ui)(r:Rec)(t:Bool)(c:NC)(e:Expr)(m:ME):Bool:=match m with
 | .a d=>uQ e λo f _=>decide (o=.And)&&sI (r true t c) f d
 | .or d=>uQ e λo f _=>decide (o=.Or)&&sI (r true t c) f d
 | .N a=>w0 e λo x _=>decide (o=.Not)&&r true t c x a
 | .q op a b=>Co e λx g h _=>ul g λo=>ul h λy=>decide (o=As op)&&(behindInMarks o y==false)&&r false t c x a&&r false t c y b
 |_=>zG e&&r false t c e m
noncomputable def chk(T:ui):Nat->Rec
 |0=>λ_ _ _ _ _=>false
 |n+1=>λt a b e m=>cond t (stepT T (chk T n) a b e m)<|K2 T (chk T n) a b e m
section
variable(P)(cl)(A)(Xp)(L)(m)
def Lu (r:Rec):Prop:=∀(t:Bool) (b:NC) (e:Expr) (c:ME) (a:Env),EX P cl A a Xp L m b->(t=true->xp a b)->
 (r true t b e c=true->iQ P cl A a Xp L m b e c)/\(r false t b e c=true->aq P cl A a Xp L m b e c)
end
section
variable(Zm:vX T P)(G:Lu P cl A Xp L m r)
include G
theorem iX{a:Env}(X:EX P cl A a Xp L m b)(K:top=true->xp a b):∀{es:List Expr}{mes:List ME},u9 r top b es mes=true->es.all au=true/\es.length=mes.length/\td P cl A a Xp L m b es mes
 | [],[],_=>⟨rfl,rfl,t9 X⟩
 | [],_::_,h=>(Yw h).elim
 |_::_,[],h=>(Yw h).elim
 |e::es,d::mes,h=>h|>qB (a:=(au e&&r false top b e d)) λc h=>c|>qB λc f=>
  bX (iX X K (es:=es) (mes:=mes) h) λq g i=>
  ⟨by refine aa all_cons<|aa c<|aa q ?_;rfl,Xy (·+1) g,gh X c ((G top b e d a X K).2 f) i⟩
omit G in
theorem l6(h:so e=true)(env):∀x,foldedSetIterable e env x=pure x:=λx=>by cases e<;>first|rfl| exact aZ h
omit G in
theorem CU(h:zG e=true)(env)(w:Sem Value):isTrue e env w=(do let v<-w;standAt e.pos;holding [v] (truthy v)):=by cases e<;>first|rfl| exact aZ h
theorem tv{t:Bool}{d:NC}{b:Env}(X:EX P cl A b Xp L m d)(K:t=true->xp b d){x:Str}{s:Scope}{c:List Nat}(i:nc d x s c=true)(j:t=true):
  ∃a,fG b d x s a c (eA d x s c)/\∀C e f,(r false false (eA d x s c) e f=true->aq P cl A (compEnvC s a C b) Xp L m (eA d x s c) e f)/\
   (r true false (eA d x s c) e f=true->iQ P cl A (compEnvC s a C b) Xp L m (eA d x s c) e f):=
 Xs (Cw X (K j) i) λa g=>
 ⟨a,g,λC e f=>(G false _ e f _ (X.comp g C) λh=>eH h nt).symm⟩
omit G in
theorem qq{t:Bool}{c:NC}{n:Str}{e:Expr}{a:ME}{Q:Expr->Prop}(k:∀x p b,hF n c=true->au x=true->r false t c x a=true->Q (.Call (.Name n p) [x] [] b)):L4 r t c n e a=true->Q e:=by apply bJ;intro l j o b;apply az;intro f p;apply cD;intro x;refine OG λh h1 d g i=>?_;exact dq h1<|a0 h<|k x p b d g i
include Zm
theorem Ip{W:Bool}{Γ:NC}{e:Expr}{me:ME}{O:Env}(X:EX P cl A O Xp L m Γ)(K:W=true->xp O Γ):K2 T r W Γ e me=true->aq P cl A O Xp L m Γ e me:=by
 have g:=λ{e me}=>(G W Γ e me O X K).2;have gt:=λ{e me}=>(G W Γ e me O X K).1;cases me with
 |i i=>
  refine UA ?_ ?_
  ·apply bM;intro c k p;apply jl;intro j h;exact dq h<|F9 X _ _ _
  ·apply j2;intro o x p;refine qB λh1=>?_;apply bM;intro c k q;apply jl;intro j B;exact dq h1<|dq B<|Hk X _ _ _ _
 |s t=>apply bM;intro c k p;apply pt;intro x h;exact yr X _ _ (od h) _ _
 |b b=>apply bM;intro c k p;apply DD;intro d h;exact dq h<|Df X _ _ _
 |v i=>apply az;intro x p;refine qB λh1 B=>?_;exact yA X _ _ _ (od h1) B
 |f o f=>apply fb;intro oe x p;refine BY λh1 B H=>?_;exact Fj X (g H) h1 (by refine aa Zm.fld ?_;exact od B)
 |c k as=>apply bJ;intro fe Q ks p;apply az;intro x q;refine Dh λJ h1 B H=>?_;exact qB (λI M=>a0 J (let⟨a,b,c⟩:=iX G X K H;C0 X (by refine aa Zm.fn ?_;exact od h1) (bq I) M a b c)) B
 |w k as=>apply bJ;intro fe Q ks p;apply az;intro x q;refine Dh λJ h1 B H=>?_;exact qB (λI M=>a0 J (let⟨a,b,c⟩:=iX G X K H;Hi X (by refine aa Zm.c ?_;exact od h1) (bq I) M a b c)) B
 |m k o as=>apply bJ;intro fe Q ks p;apply fb;intro oe x q;refine NW λJ h1 B H I M R=>?_;exact a0 J<|bX (iX G X K R) λa b c=>Ds X (by refine aa Zm.m ?_;exact od h1) B a (od H) I b (g M) c
 |o op a b=>apply Hw;intro x o y p;refine BY λh1 B H=>?_;exact dq h1<|FD X (g B)<|g H
 |N a=>apply j2;intro o x p;refine qB λh1 h=>?_;exact dq h1<|HI X<|g h
 |a as=>apply oF;intro o Q p;refine qB λh1 h=>?_;exact dq h1<|Dq X<|j9 (λa b h=>g h) h
 |or as=>apply oF;intro o Q p;refine qB λh1 h=>?_;exact dq h1<|Hm X<|j9 (λa b h=>g h) h
 |q op a b=>apply xq;intro x os ys p;apply cD;intro o;apply cD;intro y;refine Dh λh1 B H I=>?_;revert B;exact dq h1 λB=>IC X (g H) (g I)<|bq B
 |e c a b=>apply IR;intro t x y p;refine BY λh1 B H=>?_;exact Gx X (gt h1) (g B)<|g H
 |t a i=>apply gN;intro x y p;refine BY λh1 B H=>?_;exact DQ X (g B) (g H) h1
 |S a lo hi=>apply gN;intro xe s p;apply az;intro x q;apply kg;intro l u st w;apply k7;intro l;apply k7;intro u;refine Dh λJ h1 B H=>?_;exact iP J<|Ad X (g h1) (g B)<|g H
 |Y a hi=>apply gN;intro xe s p;apply az;intro x q;apply kg;intro l u st w;apply k7;intro u;refine Dh λJ h1 B H=>?_;exact iP J<|iP h1<|vA X (g B)<|g H
 |X a lo=>apply gN;intro xe s p;apply az;intro x q;apply kg;intro l u st w;apply k7;intro l;refine Dh λJ h1 B H=>?_;exact iP J<|iP h1<|tb X (g B)<|g H
 |l Q=>apply D1;intro xs p;refine qB λh1 B=>?_;exact CS X (iX G X K B).2.2<|od h1
 |p Q=>apply sF;intro xs k p;refine qB λh1 B=>?_;exact HJ X (iX G X K B).2.2<|od h1
 |dS ks Q=>
  apply uy;intro kk vv p;refine UA ?_ ?_
  ·refine Dh λh1 B H I=>?_;exact a0 h1<|a0 B<|a0 H<|a0 I<|Fm X
  ·apply nH;intro k1 k2;apply nH;intro v1 v2;apply nH;intro tx ty;apply nH;intro a b;apply k7;intro k1;apply bM;intro c1ZZ _ _;apply pt;intro x;apply k7;intro k2;apply bM;intro c2ZZ _ _;apply pt;intro y;apply j2;intro o1 w1 _;apply bM;intro d1 _ _;apply jl;intro i;apply j2;intro o2 w2 _;apply bM;intro d2 _ _;apply jl;intro j;apply BJ;intro a;apply BJ;intro b;refine Pa λh1 B H I M R=>XE (λe7 e8=>?_)<|od h1;subst e7;subst e8
   exact dq M<|dq R<|Iz X (od B) (od H)<|od I
 |dI=>apply uy;intro kk vv p;refine qB λh1 B=>?_;exact a0 h1<|a0 B<|J0 X
 |n a=>apply qq;intro x p q h1 B H;exact FW X h1 B<|g H
 |ord a=>apply qq;intro x p q h1 B H;exact ER X h1 B<|g H
 |u a=>apply qq;intro x p q h1 B H;exact Gu X h1 B<|g H
 |k a=>apply qq;intro x p q h1 B H;exact yb X h1 B<|g H
 |x a b=>apply bJ;intro fe Q ks p;apply az;intro f q;apply nH;intro x y;refine NW λJ h1 B H I M R=>?_;exact dq h1<|a0 J<|Em X B H I (g M)<|g R
 |pop a=>apply bJ;intro fe Q ks p;apply fb;intro o f q;refine Pa λJ h1 B H I M=>?_;exact dq B<|a0 J<|a0 h1<|Er X (g M) H I
 |j a=>apply bJ;intro fe Q ks p;apply fb;intro o f q;apply bM;intro c _ _;apply pt;intro z;apply cD;intro x;refine Pa λJ h1 B H I M=>?_;exact dq h1<|dq B<|a0 J<|DP X H (g M) I
 |C elt src caps=>apply mh;intro el gs U p;apply cD;intro c;apply xb;intro t it ifs z;apply az;intro x q;refine NW λJ h1 B H I M R=>?_;exact dq B<|ag (tv G X K H h1) λcls CK q=>a0 J<|D6 X CK (g M) (λC=>(q C _ _).1 R)<|l6 I O
 |E elt src c caps=>apply mh;intro el gs U p;apply cD;intro c;apply xb;intro t it ifs z;apply az;intro x q;apply cD;intro ce;refine NW λh1 B H I M R h7=>?_;exact dq B<|ag (tv G X K H h1) λcls CK q=>yh X CK (g M) (λC=>(q C _ _).1 R) (λC=>(q C _ _).2 h7)<|l6 I O
 |D elt n caps=>apply mh;intro el gs U p;apply cD;intro c;apply xb;intro t it ifs z;apply az;intro x q;apply bJ;intro fe Q ks _;apply az;intro f _;apply cD;intro en;refine BY λha hb=>?_;refine VE λh1 B H I M R h7 h8=>?_;exact dq B<|dq H<|ag (tv G X K R h1) λcls CK q=>a0 ha<|a0 hb<|Av X I M CK (g h7) λC=>(q C _ _).1 h8
 |F=>exactλh=>eH h nt
theorem Hr{t:Bool}{d:NC}{e:Expr}{me:ME}{c:Env}(X:EX P cl A c Xp L m d)(K:t=true->xp c d):stepT T r t d e me=true->iQ P cl A c Xp L m d e me:=by
 have g:=λ{e me}=>(G t d e me c X K).2;have i:=λ{e me}=>(G t d e me c X K).1;have s:∀{me},(zG e&&r false t d e me)=true->iQ P cl A c Xp L m d e me:=qB λh1 f=>JB (g f)<|CU h1 c;cases me with
 |a j=>apply oF;intro o k p;refine qB λh1 h=>?_;exact dq h1<|DJ X<|j9 (λa b h=>i h) h
 |or j=>apply oF;intro o k p;refine qB λh1 h=>?_;exact dq h1<|GO X<|j9 (λa b h=>i h) h
 |N a=>apply j2;intro o x p;refine qB λh1 h=>?_;exact dq h1<|EE X<|i h
 |q op a b=>apply xq;intro x u v p;apply cD;intro o;apply cD;intro y;refine Dh λh1 f l n=>?_;revert f;exact dq h1 λf=>IB X (g l) (g n)<|bq f
 |_=>exact s
end
theorem mZ{P:bi}{d:Cl}{A:Around}{b:Heap}{L:Addr}{m:Str->Option Value}{T:ui}(a:vX T P):∀n,Lu P d A b L m<|chk T n
 |0=>λt g e f c X K=>⟨λh=>(Yw h).elim,λh=>(Yw h).elim⟩
 |n+1=>λt g e f c X K=>⟨Hr a (mZ a n) X K,Ip a (mZ a n) X K⟩
noncomputable def wg(e:Expr):Bool:=Nat.ble e.ctorIdx 7||Nat.ble 11 e.ctorIdx
noncomputable def yt(e:Expr):Bool:=Nat.ble e.ctorIdx 24||Nat.ble 26 e.ctorIdx
def wC (h:wg e=true)(t:Option Expr)(l:Nat)(a:Env):swapsWith e t l a=pure false:=by cases e<;>first|rfl| exact aZ h
def Ap (line)(env):swapsWith e (some<|.Subscript o i p) line env=pure false:=by cases e<;>rfl
def A0 (line)(env):swapsWith e (some<|.Attribute o x p) line env=pure false:=by cases e<;>rfl
def AH (line)(env):swapsWithSole [.Tuple a k p] e line env=pure false:=by cases e<;>rfl
def CY (h:yt e=true)(a:Env):swappedStores [.Tuple b k p] e a=pure none:=by cases e<;>first|rfl| exact aZ h
def xU (line)(h:env.kindOf x≠some .local):swapsWith e (some<|.Name x p) line env=pure false:=by cases e<;>first|rfl| exact(λa b c=>by rw[(by simpa using h:(env.kindOf x==some NameKind.local)=false),Bool.and_false];rfl:∀a b c:Bool,(pure (a&&(env.kindOf x==some NameKind.local)&&b&&c):Sem Bool)=pure false) _ _ _
def C7 (d:env.scope.kind=.function)(h:env.kindOf x=some .local)(a:p.line=v.line)
  (b:(!(scope.names.any λ(n,k)=>n==x&&(k==.local||k==.cell)))=true):swapsWith (.ListComp e g scope v) (some<|.Name x p) line env=pure true:=by
 show(pure (env.blockKind==ScopeKind.function&&env.kindOf x==some NameKind.local&&p.line==v.line&&!(scope.names.any λ(n,k)=>n==x&&(k==.local||k==.cell))):Sem Bool)=pure true;have c:(env.blockKind==ScopeKind.function)=true:=by unfold Env.blockKind;first|(refine aa d ?_;rfl)|(simp)|(split<;> simp_all)
 refine aa c<|aa (by refine aa h ?_;rfl:(env.kindOf x==some NameKind.local)=true)<|aa (a▸Zf _:(p.line==v.line)=true)<|aa b ?_;rfl
noncomputable def U1(l:List a)(b:a->a->a->Bool):Bool:=match l with | [x,y,z]=>b x y z|_=>false
def MM {a:Type}{l:List a}{b:a->a->a->Bool}{Q:List a->Prop}(k:∀x y z,b x y z=true->Q [x,y,z])(h:U1 l b=true):Q l:=by cases l with |nil=>exact aZ h|cons x l=>cases l with |nil=>exact aZ h|cons y l=>cases l with |nil=>exact aZ h|cons z l=>cases l with |nil=>exact k x y z h|cons=>exact aZ h
noncomputable def Af(c:NC):List Expr->List Nat->Bool:=λb a=>match b with
 | []=>mS a
 |e::b=>match a with
  | []=>false
  |i::a=>bl e (λx _=>decide (c.vars[i]?=some x))&&Af c b a
theorem vd{c:NC}:∀{a:List Expr}{b:List Nat},Af c a b=true->Jd c a b
 | [],b,h=>a0 h .nil
 |e::a,[],h=>(Yw h).elim
 |e::a,i::b,h=>qB (a:=bl e λx _=>decide (c.vars[i]?=some x)) (λh1 d=>az (Q:=λe=>Jd c (e::a)<|i::b) (λx _ h=>.cons (od h)<|vd d) h1) h
noncomputable def xL(e:Expr):Bool:=Nat.ble e.ctorIdx 25
def Dy (h:xL i=true)(o a n:Value):augStore i o a n=(do holding [n,o,a] (PySem.setItem o a n);release [n,o,a] [];pure .next):=by cases i<;>first|rfl| exact aZ h
noncomputable def Ir(e:ME)(b:ME->ME->ME->List Nat->Bool)(d:Bool):Bool:=ME.casesOn (motive_1:=λ_=>Bool) e (λ_=>d) (λ_=>d) (λ_=>d) (λ_=>d) (λ_ _=>d) (λ_ _=>d) (λ_ _=>d) (λ_ _ _=>d) (λ_ _ _=>d) (λ_=>d) (λ_=>d) (λ_=>d) (λ_ _ _=>d) (λ_ _ _=>d) (λ_ _=>d) (λ_ _ _=>d) (λ_ _=>d) (λ_ _=>d) (λ_=>d) (λ_=>d) (λ_ _=>d) d (λ_=>d) (λ_=>d) (λ_ _=>d) (λ_=>d) (λ_=>d) (λ_=>d) (λ_=>d) (λ_ _ _=>d) (λ_ _ _ _=>d) (λ_ _ _=>d) b
def Hv {e:ME}{b:ME->ME->ME->List Nat->Bool}{d:Bool}{Q:ME->Prop}(k:∀x n c a,b x n c a=true->Q (.F x n c a))(f:d=true->Q e)(h:Ir e b d=true):Q e:=
 ME.casesOn (motive_1:=λe=>(d=true->Q e)->Ir e b d=true->Q e) e (λ_=>id) (λ_=>id) (λ_=>id) (λ_=>id) (λ_ _=>id) (λ_ _=>id) (λ_ _=>id) (λ_ _ _=>id) (λ_ _ _=>id) (λ_=>id) (λ_=>id) (λ_=>id) (λ_ _ _=>id) (λ_ _ _=>id) (λ_ _=>id) (λ_ _ _=>id) (λ_ _=>id) (λ_ _=>id) (λ_=>id) (λ_=>id) (λ_ _=>id) id (λ_=>id) (λ_=>id) (λ_ _=>id) (λ_=>id) (λ_=>id) (λ_=>id) (λ_=>id) (λ_ _ _=>id) (λ_ _ _ _=>id) (λ_ _ _=>id) (λx n c l _=>k x n c l) f h
def KR (T:ui)(r:Rec)(b:NC)(i:Nat)(x:Str)(y:Expr)(B:Pos)(m:ME):Bool:=Ir m (λe n c a=>qr y λo u s d=>ul u λg=>Qz g λt w h z=>bl t λv _=>ea w λq p A _=>bl q λf _=>ul p λj=>ul h λl=>
  mS A&&decide (z=0/\f="range"/\b.vars[i]?=some x)&&hF "range" b&&au j&&nc b v s a&&r false true b j n&&(r false false (eA b v s a) o e&&r true false (eA b v s a) l c)
   &&((b.names.lookup x==some .local)&&(B.line==d.line)&&!(s.names.any λ(n,k)=>n==x&&(k==.local||k==.cell))))
 (decide (b.vars[i]?=some x)&&(wg y||!(b.names.lookup x==some .local))&&r false true b y m)
abbrev acp:=NC->List Stmt->List MS->Bool
def K6 (T:ui)(P:Bool)(r:Rec)(C:acp)(d:NC)(g:Stmt)(J:MS):Bool:=match J with
 | .x e=>ob g λx _=>wg x&&r false true d x e
 | .s i e=>qn g λA y _=>ul A λt=>bl t λx O=>KR T r d i x y O e
 | .f o f e=>qn g λA y _=>ul A λt=>jN t λh x _=>decide (T.fld f=x)&&r false true d h o&&r false true d y e
 | .t o i e=>qn g λA y _=>ul A λt=>ol t λh F _=>r false true d h o&&r false true d F i&&r false true d y e
 | .unp I e=>qn g λA y _=>ul A λt=>xn t λB _ _=>Af d B I&&yt y&&r false true d y e
 | .v i op e=>wE g λt o y _=>bl t λx p=>decide (o=wV op)&&decide (d.vars[i]?=some x)&&a7 x&&r false true d (.Name x p) (.v i)&&r false true d y e
 | .u o i op e=>wE g λt N y _=>ol t λh F _=>decide (N=wV op)&&xL F&&r false true d h o&&r false true d F i&&r false true d y e
 | .a o e=>ob g λx _=>ea x λD B E m=>jN D λh f k=>ul B λy=>mS E&&decide (f="append")&&dM h&&au y&&(k.endLine==m.line)&&r false true d h o&&r false true d y e
 | .rvs o=>ob g λx _=>ea x λD B E m=>jN D λh f k=>mS B&&mS E&&decide (f="reverse")&&dM h&&(k.endLine==m.line)&&r false true d h o
 | .c o=>An g λA _=>ul A λt=>ol t λh s _=>lX s λl u w _=>EM l&&EM u&&EM w&&r false true d h o
 | .i c t f=>E6 g λx a b _=>r true true d x c&&C d a t&&C d b f
 | .w c b=>sC g λx a e _=>mS e&&r true true d x c&&C d a b
 | .g i q b=>nb g λt y a e _=>bl t λx _=>mS e&&decide (d.vars[i]?=some x)&&so y&&r false true d y q&&C d a b
 | .ZG i j q b=>nb g λt y a e _=>xn t λA _ _=>KY A λQ R=>bl Q λx _=>bl R λz _=>mS e&&decide (d.vars[i]?=some x)&&decide (d.vars[j]?=some z)&&so y&&r false true d y q&&C d a b
 | .h i n b=>nb g λt y a e _=>bl t λx _=>mS e&&decide (d.vars[i]?=some x)&&L4 (r:=λ_ _ _ y n=>r false true d y n) true d "range" y n&&C d a b
 | .ZA i n b=>nb g λt y a e _=>bl t λx _=>mS e&&decide (d.vars[i]?=some x)&&C d a b&&ea y λD B E _=>bl D λf _=>U1 B λy u v=>w0 u λL S _=>dr S λG _ _=>qX G λu=>w0 v λM U _=>dr U λH _ _=>qX H λv=>
   mS E&&decide (L=.USub/\M=.USub/\u=1/\v=1/\f="range")&&hF "range" d&&au y&&r false true d y n
 | .aah i q b=>nb g λt y a e _=>bl t λx _=>mS e&&decide (d.vars[i]?=some x)&&L4 (r:=λ_ _ _ y n=>r false true d y n) true d "reversed" y q&&C d a b
 | .r e=>vB g λx _=>Ka x λx=>r false true d x e
 | .aar=>vB g λx _=>EM x
 | .e a b=>sM g λx c _=>Ka x λx=>ea x λD B E _=>bl D λf _=>KY B λx y=>EM c&&mS E&&(P&&decide (f="FormatError")&&glob d f&&au x&&au y&&r false true d x a&&r false true d y b)
 | .told _ _=>false
 | .k=>true
noncomputable def zH(f:Stmt->MS->Bool):List Stmt->List MS->Bool:=λb k=>match b with
 | []=>mS k
 |s::b=>match k with
  | []=>false
  |m::k=>f s m&&zH f b k
noncomputable def IX(T:ui)(r:Bool):Nat->acp
 |0=>λ_ _ _=>false
 |n+1=>λa b m=>zH (K6 T r (chk T 40) (IX T r n) a) b m
section
variable(P:bi)(cl:Cl)(lp:ZD)(A:Around)(env:Env)(Xp:Heap)(L:Addr)(Γ:NC)(XA:ZJ)
def Bq:Prop:=∀(x y:Expr) (b c:ME) (f:Str) (p a d:Pos),f="FormatError"->glob Γ f=true->au x=true->au y=true->(∀m,aq P cl A env Xp L m Γ x b)->(∀m,aq P cl A env Xp L m Γ y c)->
 fE P cl lp A env Xp L Γ XA (.Raise (some<|.Call (.Name f p) [x,y] [] a) none d) (.e b c)
end
section
variable{P:bi}{cl:Cl}{lp:ZD}{A:Around}{env:Env}{Xp:Heap}{L:Addr}{Γ:NC}{XA:ZJ}{T:ui}(Zm:vX T P)
 (X:∀m,EX P cl A env Xp L m Γ) (K:gn env L Γ) (hlp:∀step s r,lp step s=some r->∃n,fP step n s=some r) {ra:Bool} (hra:ra=true->Bq P cl lp A env Xp L Γ XA)
include Zm X K hlp hra
omit hlp hra in
theorem Ez{n:Nat}{i:Nat}{x:Str}{y:Expr}{w p:Pos}{e:ME}:KR T (chk T n) Γ i x y w e=true->fE P cl lp A env Xp L Γ XA (.Assign [.Name x w] y p) (.s i e):=by
 have E:xp env Γ:=K.b;have g:∀{e me},chk T n false true Γ e me=true->∀m,aq P cl A env Xp L m Γ e me:=λ{e me} h m=>(mZ Zm n true Γ e me env (X m) λ_=>E).2 h;have u:∀y,env.kindOf y=Γ.names.lookup y:=λy=>by refine dG ((X λ_=>none).b) ?_;rfl
 apply Hv
 ·intro H nn c l;apply mh;intro el gs k B;apply cD;intro gg;apply xb;intro t it W z;apply az;intro v _;apply bJ;intro fe es ks _;apply az;intro f _;apply cD;intro en;apply cD;intro Y;refine VE λI h1 a d J M j N=>qB (λj O=>BY (λQ R S=>bX (od h1) λF G U=>?_) N) j;subst F;subst G
  refine Xs (Cw (X λ_=>none) E J) λD b=>?_;have o:env.kindOf x=some .local:=by rw[u];exact bq Q
  exact a0 I<|v9 X K a d b (g M) (λm C=>(mZ Zm n false _ _ _ _ ((X m).comp b C) λh=>eH h nt).2 j) (λm C=>(mZ Zm n false _ _ _ _ ((X m).comp b C) λh=>eH h nt).1 O) U o<|C7 (X λ_=>none).g o (bq R) S
 ·refine BY λh1 a d=>FA X K (g d) (od h1)<|UA (λa=>wC a _ _ _) (λa=>xU _ ?_) a
  rw[u];intro q;rw[q]at a;exact eH a nt
theorem Gl{n:Nat}{rb:acp}(F:∀b mb,rb Γ b mb=true->kF P cl lp A env Xp L Γ XA b mb){st:Stmt}{ms:MS}:K6 T ra (chk T n) rb Γ st ms=true->fE P cl lp A env Xp L Γ XA st ms:=by
 have EK:xp env Γ:=K.b;have g:∀{e me},chk T n false true Γ e me=true->∀m,aq P cl A env Xp L m Γ e me:=λ{e me} h m=>(mZ Zm n true Γ e me env (X m) λ_=>EK).2 h;have gt:∀{e me},chk T n true true Γ e me=true->∀m,iQ P cl A env Xp L m Γ e me:=λ{e me} h m=>(mZ Zm n true Γ e me env (X m) λ_=>EK).1 h;have G:interactive env=false:=by have:=(X λ_=>none).g;unfold interactive;refine aa this ?_;rfl
 cases ms with
 |x e=>apply nG;intro x p;refine qB λh1 d=>?_;exact DA X (g d) G<|wC h1 _ _ _
 |s i e=>apply mj;intro Q y pos;apply cD;intro t;apply az;intro x px h;exact Ez Zm X K h
 |f o f e=>apply mj;intro Q y p;apply cD;intro t;apply fb;intro M x q;refine BY λh1 d B=>?_;exact C8 X (g d) (g B) (by refine aa Zm.fld ?_;exact od h1)<|A0 _ _
 |t o i e=>apply mj;intro Q y p;apply cD;intro t;apply gN;intro M ie q;refine BY λh1 d B=>?_;exact CV X (g h1) (g d) (g B)<|Ap _ _
 |unp is e=>apply mj;intro Q y p;apply cD;intro t;apply sF;intro R k q;refine BY λh1 d B=>?_;exact G5 X K (g B) (vd h1) (AH _ _)<|CY d _
 |v i op e=>apply uw;intro t o y p;apply az;intro x q;refine OG λh1 d B C E=>?_;exact dq h1<|CD X K (g C) (g E) (od d) B
 |u o i op e=>apply uw;intro t oo y p;apply gN;intro M ie q;refine OG λh1 d B C E=>?_;exact dq h1<|DW X (g B) (g C) (g E)<|Dy d
 |a o e=>apply nG;intro x p;apply bJ;intro Y R ks c;apply fb;intro M f q;apply cD;intro y;refine NW λD h1 d B C E I=>?_;exact dq h1<|a0 D<|EU X (g E) (g I) d B C G<|wC rfl _ _ _
 |rvs o=>apply nG;intro x p;apply bJ;intro Y R ks c;apply fb;intro M f q;refine Pa λJ F h1 d B C=>?_;exact dq h1<|a0 J<|a0 F<|E4 X (g C) d B G<|wC rfl _ _ _
 |c o=>apply Dt;intro Q p;apply cD;intro t;apply gN;intro M s q;apply kg;intro l u w z;refine Dh λh1 d B C=>?_;exact iP h1<|iP d<|iP B<|Ah X<|g C
 |i c t f=>apply EW;intro x a b p;refine BY λh1 d B=>?_;exact Hu (gt h1) (F _ _ d)<|F _ _ B
 |w c b=>apply xK;intro x a e p;refine BY λD h1 d=>?_;exact a0 D<|zT X K hlp (gt h1)<|F _ _ d
 |g i O b=>apply je;intro t y a e p;apply az;intro x q;refine OG λD h1 d B C=>?_;exact a0 D<|C4 X K (od h1) (g B) (F _ _ C)<|l6 d env
 |ZG i j O b=>apply je;intro t y a e p;apply sF;intro Q k w;apply nH;intro t1 t2;apply az;intro x q;apply az;intro z r;refine Pa λD h1 d B C E=>?_;exact a0 D<|C9 X K (od h1) (od d) (g C) (F _ _ E)<|l6 B env
 |h i n b=>apply je;intro t y a e p;apply az;intro x q;refine Dh λD h1 d B=>?_;refine a0 D ?_;revert d;apply qq;intro y _ _ C E I;exact CL X K (od h1) C E (g I)<|F _ _ B
 |ZA i n b=>apply je;intro t y a e p;apply az;intro x q;refine Dh λD h1 B=>a0 D ?_;apply bJ;intro Y R ks c;apply az;intro f q;apply MM;intro y u v;apply j2;intro o1 w1 _;apply bM;intro d1 _ _;apply jl;intro u;apply j2;intro o2 w2 _;apply bM;intro d2 _ _;apply jl;intro v;refine OG λJ hb' hc hd he=>bU (od hb') λe7 e8 e9 U W=>?_;subst e7;subst e8;subst e9;subst U;subst W;exact a0 J<|Ax X K (od h1) hc hd (g he)<|F _ _ B
 |aah i O b=>apply je;intro t y a e p;apply az;intro x q;refine Dh λD h1 d B=>?_;refine a0 D ?_;revert d;apply qq;intro y _ _ C E I;exact D7 X K (od h1) C E (g I)<|F _ _ B
 |r e=>apply vl;intro x p;apply k7;intro x h;exact Hf X K<|g h
 |aar=>apply vl;intro x p h;exact iP h DF
 |e a b=>apply yM;intro x c p;apply k7;intro x;apply bJ;intro Y R ks _;apply az;intro f _;apply nH;intro x y;refine BY λJ F=>?_;refine NW λD h1 d B C E I=>?_;exact iP J<|a0 F<|hra D _ _ _ _ _ _ _ _ (od h1) d B C (g E)<|g I
 |told=>exactλh=>eH h nt
 |k=>exactλ_ m ρ N H s l fl H' S Lo h=>cE h nt
omit Zm X K hlp hra in
theorem uC{f:Stmt->MS->Bool}(c:∀e d,f e d=true->fE P cl lp A env Xp L Γ XA e d):∀{b:List Stmt}{a:List MS},zH f b a=true->kF P cl lp A env Xp L Γ XA b a
 | [],a,h=>a0 h HL
 |s::b,[],h=>(Yw h).elim
 |s::b,k::a,h=>qB (a:=f s k) (λh1 g=>CG (c _ _ h1)<|uC c g) h
theorem rO:∀(n:Nat) (b:List Stmt) (a:List MS),IX T ra n Γ b a=true->kF P cl lp A env Xp L Γ XA b a
 |n,b,a,h=>by
  induction n generalizing b a with
  |zero=>exact(Yw h).elim
  |succ n i=>exact uC (λ_ _=>Gl Zm X K hlp hra λb a=>i b a) h
end
section
variable{M:Model}{A:Around}{E:Value->Shared->Prop}{env:Env}{nm q:Str}{C N:Addr}{bs bm:List Value}{ab2:Bool}{sn:List Str}{sub:List Value}{ab:Bool}{col:Option Bool}{dd:Option Addr}{k0 k1 k2 k3 k5:Option Value}{newId:String}
abbrev K4 (C:Addr)(o:Obj)(E:Value->Shared->Prop)(v:Value)(s:Shared):Prop:=∃e t d,v=.ref e/\s.heap.get? C=some o/\
   s.heap.get? e=some {cls:=.ref C,dict:=some d,data:=.fields #[.ref t,.none,.none,.none,.bool false,.none]}/\E (.ref e) s
def Jq {o:Obj}(l:excClassObj nm q C N bs bm ab2 sn sub ab col dd k0 k1 k2 k3 k5 newId=o){s:Shared}{x:Sem Value}{Q:Flow->Shared->Prop}(b:bm.contains (.type "BaseException")=true)(k:A.handled=none)
  (h:wpAny M A x (K4 C o E) E s):
  wpAny M A (raiseStmt env (some x) none) Q E s:=by
 subst l;refine XC<|aan h (λv f a=>cG a λe t d g c j i=>?_) λ_ _ x=>x;clear a;subst g;repeat (first|with_reducible refine wpAny_loadPart_at j ?_|with_reducible refine wpAny_loadPart_at c ?_|(with_reducible refine wpAny_isSubtype_exc c ?_;rw[(by rw[List.contains_cons,b,Bool.or_true]:(Value.ref C::bm).contains (.type "BaseException")=true)])|wp_step)
 exact wpAny_raiseNew_none k i
end
def Kz (P:bi)(C:Addr)(i h:Str):ZJ:=λg L f N H m x y e s=>∀Z:Prop,(St P g L m f N H s->∀a d b n c u v,e=.ref a->s.heap.get? a=some ⟨.ref C,some d,.fields c,#[]⟩->1<c.size->c[1]?=some .none->s.heap.get? d=some (dictOf b n)->getL i b=some (some u)->getL h b=some (some v)->b0 f N x u->b0 f N y v->g.get? a=none->g.get? d=none->a≠L->d≠L->(∀p∈N,p.1≠a/\p.1≠d)->a≠d->Z)->Z
section
variable{P:bi}{cl:Cl}{lp:ZD}{A:Around}{env:Env}{g:Heap}{L C C1 fI:Addr}{Γ:NC}{nw na:Str}
def bI (h:r=some (a,H)):bV r f=f a H:=by refine aa h ?_;rfl
def Tv (h1:ai cl l a H=some (x,d))(h:ai cl l b d=some (y,e)):Zc cl l [a,b] H=some ([x,y],e):=
 (bI h1).trans (show bV (bV (ai cl l b d) λv H=>bV (some ([],H)) λc H=>some (v::c,H)) (λc H=>some (x::c,H))=_ by refine aa h ?_;rfl)
def Ib (r:XK P C C1 fI "FormatError" nw na){d:Nat}(M:uj P A g L d)(X:∀m,EX P cl A env g L m Γ):Bq P cl lp A env g L Γ<|Kz P C nw na:=by
 intro x y mx my f abj aav p3 hf a F G hx hy m ρ N H s l fl H' S Lo h Q E k;refine aE (xi.symm.trans h) λv1 H1 h1 h=>aE h λv2 H2 h2 h=>aQ h λe1 e2=>?_;subst e1 e2;simp only[glob,Xu,YF]at a;subst hf;refine r.cls _ λnm q N0 bs sn sub ab T dd k0 k1 k2 k3 k5 mN hK W hi=>XC<|wpAny_standAt ?_;obtain⟨co,u⟩:∃co,excClassObj nm q C N0 bs (.ref C1::rW) true sn sub ab T dd k0 k1 k2 k3 k5 "Exception.__new__"=co:=⟨_,rfl⟩;refine Jq u rfl (X m).h (XC<|aan (wpAny_Call_ofName (Q:=K4 C co E)<|wz (X m) S a.1 a.2 r.glob<|g6 (X m) (first:=[]) r.keep (by simp[F,G]) (gh (X m) F (hx m) (gh (X m) G (hy m)<|t9<|X m):td P cl A env g L m Γ [x,y] [mx,my]) rfl S Lo.loc (vs:=[v1,v2]) (H':=H2) (aa (Tv h1 h2) rfl) λus s1 ρ1 O c E1 R=>?_) (λv acw w=>XC<|wpAny_standAt<|Yj w) λ_ _ x=>x);obtain⟨u1,_,rfl,R,u2,_,rfl,V2,rfl⟩:=R;obtain⟨oI,hoI,Y⟩:∃oI,P.K.lookup fI=some oI/\oI.cls=.type "function":=by have:=r.fn;unfold isFn typeIn at this;simp only[YF]at this;exact YR.mp this
 have I:=M.base.K.keeps c.F.keep;refine CN PySem.F.excBase_Exception (r.tail _ I) (I _ _ hK) (W _ I) hi (I _ _ hoI) Y (λU e j=>?_)<|Yb rfl;refine aj j.there λt he htn ht=>?_;have eL:e≠L:=λz=>by refine ng c.F.ns λo _ _ ho _=>?_;have:=j.new;rw[z,ho]at this;exact cE this nt
 have ge:g.get? e=none:=by
  cases z:g.get? e with
  |none=>rfl
  |some o=>have:=c.F.keep _ _ z;rw[j.new]at this;exact cE this nt
 have B:∀p∈O,p.1≠e:=λp i z=>by have:=(c.g p i).1;rw[z,j.new]at this;exact cE this nt
 have N':News g L U<|(e,⟨.ref C,none,.fields #[.ref t,.none,.none,.none,.bool false,.none],#[]⟩)::O:=λp i=>by
  rcases XD.mp i with rfl|i
  ·exact⟨he,eL,ge⟩
  ·exact⟨j.keeps _ _ (c.g p i).1,(c.g p i).2⟩
 refine wpAny_call<|MK (s:={s1 with heap:=U}) r M (.inr ⟨C,_,rfl⟩) (⟨c.F.ns.keeps j.keeps,λb o z=>j.keeps _ _<|c.F.keep b o z,c.F.above⟩:Fr g L U m) N' B λh2 tk2 dx n es F2 J q1 q2 q3 q4=>⟨rfl,e,t,dx,rfl,(M.base.K.keeps F2.keep) _ _<|u▸hK,(J _<|.tail _<|.head _).1,?_⟩;have D:=J _<|List.Mem.head _;refine k (.ref e) _ m ρ1 O E1.weak λ_ z=>z ⟨F2,λp i=>J p<|.tail _<|.tail _ i,c.j,c.rep,c.sep,c.old,c.env⟩ e dx es n _ u1 u2 rfl (J _<|.tail _<|.head _).1 (by simp) rfl D.1 q3 q4 R V2 ge D.2.2 eL D.2.1 (λp i=>⟨B p i,q1 p i⟩) q2
end
structure XS(B:Heap)(l:List Env)(a C d:Addr)(fl:Value)(Lt L:Addr)(mt m:Str->Option Value)(h:Heap):Prop where
 at_:Cs B l a C d fl h
 n:h.Ns Lt mt
 nl:h.Ns L m
def XS.step {B h h':Heap}{l c:List Env}{a C d b L:Addr}{g f:Value}{e m:Str->Option Value}(x:XS B l a C d g b L e m h)(y:Cs B c a C d f h')(z:h.UpToSlots h'):XS B c a C d f b L e m h':=
 ⟨y,z.ns x.n,z.ns x.nl⟩
section
variable{P:bi}{A:Around}{env:Env}{Xp B:Heap}{l:List Env}{Lt L C C1 fI a d:Addr}{x nw na nf:Str}{mt m:Str->Option Value}{s:Shared}{N:Led}{es:List DictEntry}{n:Nat}
def Mf (X:XK P C C1 fI x nw na)(f:P.K.In Xp)(F:Fr Xp env.locals h M)(hm:M nf=some (.ref a))(R:News Xp env.locals h N)(ho:h.get? a=some ⟨.ref C,some d,.fields vs,sl⟩)(Y:h.get? d=some (dictOf es n))
  (i:getL nw es=some (some I)) (W:getL na es=some (some J)) (z:handedIn I=true) (D:handedIn J=true) (hk:env.scope.kind=.function) (w:env.kindOf nf=some .local) (of:a7 nf=true)
  (k:∀j t,Fr Xp env.locals j M->News Xp env.locals j ((h.objs.size,i6 [I,J] 0)::N)->Q (.ret<|.ref h.objs.size) {s with heap:=j,toks:=t}):
  wpAny (model P.p P.w) A (execs [.Return (some<|.Tuple [.Attribute (.Name nf q1) nw q2,.Attribute (.Name nf q3) na q4] kk q5) q6] env) Q E {s with heap:=h}:=by
 refine iv X.l λw1 c w2 w3=>iv X.f λw4 e w5 w6=>?_;have v:hasDictIn P.K C=true:=by refine aj X.mro.cd λcd o _ p=>?_;unfold hasDictIn;refine aa o ?_;exact p
 have g:∀(y:Str) (u:Value) (t:Tok) (b:Option Value) (q H:Pos) (Q:Value->Shared->Prop) (E:Value->Shared->Prop),findIn P.K (.ref C) y=some b->noGet P.K b=true->getL y es=some (some u)->handedIn u=true->Q u {s with heap:=h,toks:=t+1}->
   wpAny (model P.p P.w) A (eval (.Attribute (.Name nf q) y H) env) Q E {s with heap:=h,toks:=t}:=λy u t b q H Q E o p T U hq=>
  Attribute_any_ (yd (P:=P) (s:={s with heap:=h,toks:=t}) hk w rfl F hm of (Tp (s:={s with heap:=h,toks:=t}) (f.keeps F.keep) X.mro ho Y rfl rfl rfl v o p T U hq)) (by
   show(do
    let G<-attributeBase (.Name nf q) y env (eval (.Name nf q) env)
    standAt H.atName
    let r<-holding [G] (getAttr G y true)
    letTemporaryGo (.Name nf q) G r
    pure r)=_
   rw[qZ rfl])
 exact aay<|wpAny_Return_some<|Tuple_<|YD (g nw I _ c q1 q2 _ _ w2 w3 i z<|YD (g na J _ e q3 q4 _ _ w5 w6 W D<|args_nil<|newTuple_N (s:={s with heap:=h,toks:=_}) F R (λj O S=>k j _ O S)<|Yb rfl)<|ap rfl _ _)<|ap rfl _ _
def HX (S:XK P C C1 fI x nw na)(j:P.K.In Xp)(hg:Xp.Ns mainGlobals P.b)(G:Xp.StaysIn B)(W:∀p∈N,B.get? p.1=some p.2)(u:B.get? d=some (dictOf es n))(hN:∀p∈N,p.1≠env.locals/\Xp.get? p.1=none)(I:Xp.objs.size<=env.locals)
  (H:B.get? env.locals=none) (hat:a≠env.locals) (v:L≠env.locals) (Y:Xp.get? L=none) {u1 u2:Value} (D:getL nw es=some (some u1)) (g2:getL na es=some (some u2)) (hu1:handedIn u1=true) (hu2:handedIn u2=true)
  (hf:env.frame=some env.locals) (heg:env.globals=mainGlobals) (O:env.scope.kind=.function) (hkx:env.kindOf x=some .globalImplicit) (w:env.kindOf nf=some .local) (ox:a7 x=true) (of:a7 nf=true)
  (X:XS B l a C d .none env.locals L mt m s.heap) {np pos q1 q2 q3 q4 q5 q6:Pos}{kk:Nat}{Q:Flow->Shared->Prop}{E:Value->Shared->Prop}
  (k:∀t M tk m',Fr Xp env.locals M m'->News Xp env.locals M ((t,i6 [u1,u2] 0)::N)->(∀p∈N,p.1≠t)->M.Ns L m->L≠t->Q (.ret<|.ref t) {s with heap:=M,toks:=tk}):
  wpAny (model P.p P.w) A (handleBy (.ref a) env [.ExceptHandler (some<|.Name x np) (some nf) [.Return (some<|.Tuple [.Attribute (.Name nf q1) nw q2,.Attribute (.Name nf q3) na q4] kk q5) q6] pos]) Q E s:=by
 refine S.cls _ λnm q N0 bs sn sub ab col dd k0 k1 k2 k3 k5 mN hK hNs hi=>?_;have f:∀{fl l h},XS B l a C d fl env.locals L mt m h->Xp.StaysIn h:=λx b o e=>x.at_.stays b o<|G b o e;simp only[a7,Xu,YE]at ox;refine wpAny_handleBy_cons (codeAny_handlers_test ?_) (by intro q;cases q);refine Name_function_global O hkx (loadGlobal_global (heg▸hg.keeps (f X)) S.glob<|am X.at_.obj λvs sl ho hsz ht=>wpAny_excMatches_sub_self (j.keeps (f X) _ _ hK) ho rfl (rfl) (codeAny_handlers_suite_as<|tj (s:=s) X.at_ λh1 y1 z1=>?_)) ox.1;have y:=X.step y1 z1;refine wpAny_storeName_local w y.n (λF hn2 i=>?_) (by refine aa O ?_;rfl);have nl2:F.Ns L m:=by exact ng y.nl λo es ep e1 r=>⟨o,es,ep,i.extBut _ _ v e1,r⟩
 have F2:Fr Xp env.locals F (λz=>if z=nf then some (Value.ref a)else mt z):=⟨hn2,λb o e=>i.extBut _ _ (λz=>by rw[z]at e;have:=G _ _ e;rw[H]at this;exact cE this nt)<|f y b o e,I⟩;have N2:News Xp env.locals F N:=λp g=>⟨i.extBut _ _ (hN p g).1<|y.at_.stays _ _<|W p g,hN p g⟩;refine am y.at_.obj λvs1 sl1 ho1 _ _=>?_;have hd2:=i.extBut _ _ (λz=>by rw[z,H]at u;exact cE u nt)<|y.at_.stays _ _ u;refine ng nl2 λoL U T hL rL=>?_;have NL:News Xp env.locals F<|(L,oL)::N:=λp g=>by
  rcases XD.mp g with rfl|g
  ·exact⟨hL,v,Y⟩
  ·exact N2 p g
 refine Mf (s:={s with toks:=_}) S j F2 (by simp) NL (i.extBut _ _ hat ho1) hd2 D g2 hu1 hu2 O w of λh3 tk3 F3 R=>wpAny_nameGoes w F3.ns (by refine aa O ?_;rfl) λh4 m4 hn4 J=>?_;have c:∀b o,b≠env.locals->h3.get? b=some o->h4.get? b=some o:=λb o hb e=>J.extBut _ _ hb e;refine k F.objs.size h4 _ m4 (F3.set hn4 J) (λp g=>?_) (λp g=>Yy<|YC (N2 p g).1) ⟨oL,U,T,c _ _ v (R _<|.tail _<|.head _).1,rL⟩<|Yy<|YC hL;rcases XD.mp g with rfl|g
 ·have z:=R _<|List.Mem.head _
  exact⟨c _ _ z.2.1 z.1,z.2⟩
 ·have z:=R p<|.tail _<|.tail _ g
  exact⟨c _ _ z.2.1 z.1,z.2⟩
end
noncomputable def gZ:Rs->V
 | .v r=>.t [.s [],r]
 | .e a b=>.t [a,b]
structure sD(P:bi)(nw na nf fr fx:Str)(vars:List Str)(scope:Scope)(body:List Stmt)(qual:Str)(Zs:Value):Prop where
 fn:nY P 62 vars 3 scope body qual Zs
 len:vars.length=3
 d:∀x∈vars,a7 x=true
 n:scope.names.lookup nf=some .local
 a:a7 nf=true
 f:P.a 48=some fr
 c:scope.names.lookup fr=some .globalImplicit
 b:a7 fr=true
 e:scope.names.lookup fx=some .globalImplicit
 o:a7 fx=true
 body:∀Z:Prop,(∀kc abj aav p3 p4 p5 p6 kk p7 p8 np q1 q2 q3 q4 kk' q5 q6 pos p9,body=[.Try [.Return (some<|.Tuple [.Constant (.str<|S2 []) kc abj,.Call (.Name fr aav) [.Name (vars.getD 0 Str.empty) p3,.Name (vars.getD 1 Str.empty) p4,.Name (vars.getD 2 Str.empty) p5] [] p6] kk p7) p8]
  [.ExceptHandler (some<|.Name fx np) (some nf) [.Return (some<|.Tuple [.Attribute (.Name nf q1) nw q2,.Attribute (.Name nf q3) na q4] kk' q5) q6] pos] [] [] p9]->Z)->Z
def wr {h:Heap}(x:h.objs.size<=b):h.get? b=none:=by
 cases q:h.get? b with
 |none=>rfl
 |some o=>exact Xv (XO (YC q) x)<|lt_irrefl _
def g4 {h:Heap}{o:Obj}(x:h.get? b=none)(y:h.get? c=some o):c≠b:=λe=>by rw[e,x]at y;exact cE y nt
def FQ (e:h.get? b=some o)(n1:b≠c)(n:b≠d)(i:b≠f)(j:b≠g):(hideAll h [c,d,f,g]).get? b=some o:=
 hideAll_get _ e λa=>by simp at a;exact a.elim n1 λh=>h.elim n λh=>h.elim i j
section
variable{nw na nf fx:Str}{m mt m2:Str->Option Value}{np pos q1 q2 q3 q4 q5 q6:Pos}
def AB (XF:XK P C C1 fI fx nw na)(W:m5 P d)(S:St P r B m2 j N H s)(z:∀b o,P.Z.h.get? b=some o->d.get? b=some o)(up:∀b o,d.get? b=some o->r.get? b=some o)(uT:d.objs.size<=env.locals)(u:d.objs.size<=L)(nT:env.locals≠L)
  (g:∃o,r.get? env.locals=some o) (w:∃o,r.get? L=some o) (hd:s.heap.get? v=some (dictOf es n)) (e1:getL nw es=some (some T)) (e2:getL na es=some (some U)) (V1:b0 j N x T) (V2:b0 j N y U) (ga:r.get? a=none) (gd:r.get? v=none) (dL:v≠B) (nN:∀p∈N,p.1≠a/\p.1≠v) (ad:a≠v)
  (hf:env.frame=some env.locals) (J:env.globals=mainGlobals) (hk:env.scope.kind=.function) (O:env.kindOf fx=some .globalImplicit) (M:env.kindOf nf=some .local) (ox:a7 fx=true) (of:a7 nf=true)
  (X:XS (hideAll s.heap [a,B,env.locals,L]) l a C v .none env.locals L mt m h6)
  (k:∀t s' F,St P d L m j F H s'->a5 aO j N j F->b0 j F (.t [x,y]) t->Q (.ret t) s'):
  wpAny (model P.p P.w) Ab (handleBy (.ref a) env [.ExceptHandler (some<|.Name fx np) (some nf) [.Return (some<|.Tuple [.Attribute (.Name nf q1) nw q2,.Attribute (.Name nf q3) na q4] kk q5) q6] pos]) Q E {s with heap:=h6}:=by
 refine Xs g λoT g=>Xs w λoL w=>?_;have lL:=wr u;refine HX (N:=N) (m:=m) (mt:=mt) XF W.K W.g (λb o q=>?_) (λp f=>?_) (FQ hd (X1 ad) dL (g4 gd g).symm (g4 gd w).symm) (λp f=>⟨(g4 (S.g _ f).2.2 g).symm,?_⟩) uT (hideAll_none _<|by simp) (g4 ga g).symm (X1 nT) lL e1 e2 V1.handed V2.handed hf J hk O M ox of X λt I tk m' F7 N7 tN R D=>?_
 ·exact FQ (S.F.keep _ _<|up _ _ q) (g4 ga<|up _ _ q) (g4 (wr S.F.above:r.get? B=none)<|up _ _ q) (g4 (wr uT) q)<|g4 lL q
 ·have q2:=(S.g p f).2.2
  exact FQ (S.g p f).1 (nN p f).1 (S.g p f).2.1 (g4 q2 g).symm (g4 q2 w).symm
 ·have q2:=(S.g p f).2.2
  cases q:d.get? p.1 with
  |none=>rfl
  |some o=>have:=up _ _ q;rw[q2]at this;exact cE this nt
 ·have Y:Fr d L I m:=⟨R,F7.keep,u⟩
  have A:a5 aO j N j<|(t,i6 [T,U] 0)::N:=⟨⟨[],(Yu _).symm⟩,λp f _ _=>.tail _ f,λ_ _ h=>h⟩;have G:News d L I<|(t,i6 [T,U] 0)::N:=λp f=>⟨(N7 p f).1,(XD.mp f).elim (λe=>e▸X1 D) λf=>(g4 (S.g p f).2.2 w).symm,(N7 p f).2.2⟩;have Sn:St P d L m j N H {s with heap:=I,toks:=tk}:=⟨Y,λp f=>G p<|.tail _ f,S.j,S.rep,S.sep,z,S.env⟩;exact k (.ref t) _ _ ⟨Y,G,Yc.mpr ⟨λhm=>(XN.mp hm).elim λp h=>tN p h.1 h.2,S.j⟩,⟨S.rep.1,λi c o hi ho=>(S.rep.2 i c o hi ho).XW A λp f _=>.tail _ f⟩,S.sep,z,S.env⟩ A ⟨_,_,_,rfl,.head _,Sn.Z6 tN (G _<|.head _).2.2,⟨_,_,rfl,V1.XW A,XI.one<|V2.XW A⟩⟩
end
section
variable{P:bi}{cl:Cl}{lp:ZD}{C C1 fI:Addr}{nw na nf fr fx:Str}{vars:List Str}{scope:Scope}{body:List Stmt}{qual:Str}{Zs:Value}
def Gn {d:Type}{l:List d}(h:l.length=3):∃a b c,l=[a,b,c]:=by refine cV (aa1 h) λa t e=>?_;subst e;refine cV (aa1<|Nat.succ.inj h) λb u e=>?_;subst e;refine cV (aa1<|Nat.succ.inj<|Nat.succ.inj h) λc v e=>?_;subst e;exact⟨a,b,c,aa (aaz<|Nat.succ.inj<|Nat.succ.inj<|Nat.succ.inj h) rfl⟩
def C6 (XF:XK P C C1 fI fx nw na)(TF:sD P nw na nf fr fx vars scope body qual Zs)(hkn:mK P){d:Nat}{f:Fn}{B:List Str}{c:Scope}{w:List Stmt}{k:Str}{r:Value}(hf3:f.p=3)(CF:nP P 48 B f.p c w k r)
  (hcl:∀A h L m,uj P A h L d->jP P cl A h L m) (W:no P d cl lp (Kz P C nw na) 48 f B c w k r)
  {env j:Env}{A' Ab:Around}{h g:Heap}{L:Addr}{m mt:Str->Option Value} (X:EX P (λ_ _ _=>none) Ab env g env.locals mt ⟨vars,scope.names⟩) (Cb:uj P Ab g env.locals<|d+1) (BG:Below A' h [j] g) (Y:Ab.frames=some [env,j]) (hf:env.frame=some env.locals) (hef:j.frame=some L)
  (Bs:m5 P h) (FG:Fr h L g m) (st:h.StaysIn g) (nT:env.locals≠L) (uT:h.objs.size<=env.locals) {ρ:Yp}{N:Led}{H H':Hp}{s:Shared}{v0 v1 v2:V} (S:St P g env.locals mt ρ N H s) (old:∀b o,P.Z.h.get? b=some o->h.get? b=some o) (Lg:rm env env.locals mt vars ρ N [some v0,some v1,some v2])
  {rs:Rs} (F:dw (XU cl lp ([v0,v1,v2].map some++List.replicate (f.vars-f.p) none) H f.body)=some (rs,H')) {Q:Flow->Shared->Prop}{E:Value->Shared->Prop}{R:Result->Shared->Prop}
  (lv:∀v s',LeaveK h L m g R v s'->R (.ok<|.ret v) s') (kQ:∀v s',R (.ok<|.ret v) s'->Q (.ret v) s') (hR:∀u s' Zr N',St P h L m Zr N' H' s'->a5 aO ρ N Zr N'->b0 Zr N' (gZ rs) u->R (.ok<|.ret u) s')
  (kE:∀x y a D es n w1 w2 t U T G m2 l I,rs=.e x y->St P T G m2 l I H' t->Fr g env.locals T mt->g.StaysIn T->a5 aO ρ N l I->t.heap.get? D=some (dictOf es n)->getL nw es=some (some w1)->getL na es=some (some w2)->b0 l I x w1->b0 l I y w2->
   T.get? a=none->T.get? D=none->D≠G->(∀p∈I,p.1≠a/\p.1≠D)->a≠D->Cs (hideAll t.heap [a,G,env.locals,L]) [env,j] a C D .none U->t.heap.UpToSlots U->E (.ref a) {t with heap:=U})
  {kc:Nat}{M aav p3 p4 p5 p6:Pos}{kk:Nat}{p7 p8:Pos}:
  wpAny (model P.p P.w) Ab (execs [.Return (some<|.Tuple [.Constant (.str<|S2 []) kc M,.Call (.Name fr aav) [.Name (vars.getD 0 Str.empty) p3,.Name (vars.getD 1 Str.empty) p4,.Name (vars.getD 2 Str.empty) p5] [] p6] kk p7) p8] env) Q E s:=by
 have J:∀i,i<3->vars[i]?=some (vars.getD i Str.empty):=λi hi=>by refine aa (Yr)<|aa (XQ<|by rw[TF.len];exact hi) ?_;rfl
 have hn:∀i,i<3->∀p,aq P (λ_ _ _=>none) Ab env g env.locals mt ⟨vars,scope.names⟩ (.Name (vars.getD i Str.empty) p)<|.v i:=λi hi p=>yA X _ _ i (J i hi)<|TF.d _<|YQ<|J i hi;have kf:=hkn.fn 48 fr TF.f;refine aay<|wpAny_Return_some<|Tuple_<|YD (yr X _ [] rfl kc M S Lg rfl λuc s1 ρ1 N1 S1 E1 V1=>YD (Call_ (wz X S1 TF.c TF.b kf.2 ?_)<|by rfl)<|ap rfl _ _)<|ap rfl _ _;refine g6 X (first:=[]) kf.1 (by rfl) (gh X rfl (hn 0 (by decide) p3) (gh X rfl (hn 1 (by decide) p4) (gh X rfl (hn 2 (by decide) p5) (t9 X)))) rfl S1 (Lg.ext E1) (vs:=[v0,v1,v2]) (H':=H) rfl λus' s2 ρ2 N2 S2 E2 V2=>wpAny_call<|tF CF hkn hcl W Ab g env.locals mt Cb A' h [j] env BG Y hf X.g (by refine aa hf3 ?_;rfl) F S2 V2 _ _ (.inl rfl) (λv u t l I er O E3 V3=>?_) λx y e t T G m2 l I er B2 FG2 st2 E3 XX=>?_
 ·subst er
  refine args_nil (newTuple_N O.F O.g (λU F4 N4=>?_)<|by refine aa sizeLine_eq ?_;show 2<=_;exact Yb rfl);have ex:=O.YW (a:=t.heap.objs.size) (o:=i6 [uc,u] 0)<|XH _;have z:=O.push (s':={t with heap:=U}) (XH _) F4 N4;exact kQ _ _<|lv _ _<|leaveK_ F4 N4 λF5 N5=>hR _ _ l _ ⟨F5,N5,z.j,z.rep,z.sep,old,z.env⟩ (((E1.trans E2).trans E3).trans ex.1) ⟨_,_,_,rfl,.head _,ex.2,⟨_,_,rfl,V1.XW<|(E2.trans E3).trans ex.1,XI.one<|V3.XW ex.1⟩⟩
 ·clear hR;subst er
  refine XX _ λO a D es n vs' w1 w2 e0 ho hsz h1 hd abr g2' V1' V2' ga gd aL dL nN ad=>?_;clear XX;subst e0;have K3:=pushX B2 O.F (env:=envOfC k c G (P.f 48) r) rfl CF.kind;have X3:Cs (hideAll t.heap [a,G,env.locals,L]) [envOfC k c G (P.f 48) r,env,j] a C D .none t.heap:=by
   refine⟨λb o q=>of_hideAll _ q,funFrames_hide K3.frames λenv F b W=>?_,hideAll_none _<|.head _,vs',#[],ho,hsz,.inl h1⟩;rcases XD.mp F with e|F
   ·subst e;cases W;simp
   ·rcases XD.mp F with e|F
    ·clear B2 Cb FG2 K3 Lg S S1 S2 X hn Y kE nT uT;subst e;rw[hf]at W;cases W;simp
    ·rcases XD.mp F with e|F
     ·clear B2 BG K3 Y kE;subst e;rw[hef]at W;cases W;simp
     ·exact Xv F XZ
  exact IY K3.stack rfl X3 λU y4 z4=>kE x y a D es n w1 w2 t U T G m2 l I rfl O FG2 st2 ((E1.trans E2).trans E3) hd abr g2' V1' V2' ga gd dL nN ad y4 z4
def Dw (XF:XK P C C1 fI fx nw na)(T:sD P nw na nf fr fx vars scope body qual Zs)(hkn:mK P){d:Nat}{f:Fn}{r:List Str}{i:Scope}{j:List Stmt}{l:Str}{w:Value}(hf3:f.p=3)(CF:nP P 48 r f.p i j l w)
  (hcl:∀A c L m,uj P A c L d->jP P cl A c L m) (hb:no P d cl lp (Kz P C nw na) 48 f r i j l w)
  {e k:Env}{A' U:Around}{c g:Heap}{L:Addr}{m mt:Str->Option Value} (X:EX P (λ_ _ _=>none) U e g e.locals mt ⟨vars,scope.names⟩) (Cb:uj P U g e.locals<|d+1) (BG:Below A' c [k] g) (I:U.frames=some [e,k]) (hf:e.frame=some e.locals) (hef:k.frame=some L)
  (Bs:m5 P c) (W:Fr c L g m) (st:c.StaysIn g) (nT:e.locals≠L) (uT:c.objs.size<=e.locals) {ρ:Yp}{N:Led}{H H':Hp}{s:Shared}{v0 v1 v2:V} (S:St P g e.locals mt ρ N H s) (J:∀b o,P.Z.h.get? b=some o->c.get? b=some o) (Lg:rm e e.locals mt vars ρ N [some v0,some v1,some v2])
  {rs:Rs} (he:dw (XU cl lp ([v0,v1,v2].map some++List.replicate (f.vars-f.p) none) H f.body)=some (rs,H')) {Q:Flow->Shared->Prop}{E:Value->Shared->Prop}{R:Result->Shared->Prop}
  (lv:∀v p,LeaveK c L m g R v p->R (.ok<|.ret v) p) (kQ:∀v p,R (.ok<|.ret v) p->Q (.ret v) p) (hR:∀u p B D,St P c L m B D H' p->a5 aO ρ N B D->b0 B D (gZ rs) u->R (.ok<|.ret u) p)
  {kc:Nat}{M O p3 p4 p5 p6:Pos}{kk:Nat}{p7 p8 np q1 q2 q3 q4:Pos}{kk':Nat}{q5 q6 pos p9:Pos}:
  wpAny (model P.p P.w) U (execs [.Try [.Return (some<|.Tuple [.Constant (.str<|S2 []) kc M,.Call (.Name fr O) [.Name (vars.getD 0 Str.empty) p3,.Name (vars.getD 1 Str.empty) p4,.Name (vars.getD 2 Str.empty) p5] [] p6] kk p7) p8]
  [.ExceptHandler (some<|.Name fx np) (some nf) [.Return (some<|.Tuple [.Attribute (.Name nf q1) nw q2,.Attribute (.Name nf q3) na q4] kk' q5) q6] pos] [] [] p9] e) Q E s:=by
 refine aay<|wpAny_Try_except<|C6 XF T hkn hf3 CF hcl hb X Cb BG I hf hef Bs W st nT uT S J Lg he lv ?_ hR λx y a dd es n w1 w2 s3 h4 g2 L2 m2 ρ3 N3 er Y F z E3 hd G g2' V1' V2' ga gd dL nN ad y4 z4=>?_
 ·exactλv p h=>kQ v p h
 clear he;subst er;refine Hq (B:=hideAll s3.heap [a,L2,e.locals,L]) (s:={s3 with heap:=h4}) I hf y4 (rfl) λh5 y5 z5=>tj y5 λh6 y6 z6=>?_;have sm:=(z4.trans z5).trans z6;exact AB (s:=s3) XF Bs Y J (λb o q=>z _ _<|st _ _ q) uT W.above nT (F.ns.elim λo h=>⟨o,h.elim λ_ h=>h.elim λ_ h=>h.1⟩) (W.ns.elim λo h=>⟨o,h.elim λ_ h=>h.elim λ_ h=>z _ _ h.1⟩) hd G g2' V1' V2' ga gd dL nN ad hf X.c X.g (by show e.scope.names.lookup fx=_;refine aa X.b ?_;exact T.e) (by show e.scope.names.lookup nf=_;refine aa X.b ?_;exact T.n) T.o T.a ⟨y6,sm.ns<|F.ns.keeps Y.F.keep,sm.ns<|(W.ns.keeps z).keeps Y.F.keep⟩ λt p D S' E' V'=>kQ _ _<|hR _ _ ρ3 D S' (E3.trans E') V'
def CR (XF:XK P C C1 fI fx nw na)(TF:sD P nw na nf fr fx vars scope body qual Zs)(hkn:mK P){d:Nat}{f:Fn}{D:List Str}{j:Scope}{n:List Stmt}{x:Str}{J:Value}(hf3:f.p=3)(CF:nP P 48 D f.p j n x J)
  (hcl:∀A c L m,uj P A c L d->jP P cl A c L m) (hb:no P d cl lp (Kz P C nw na) 48 f D j n x J)
  {A U:Around}{c:Heap}{L:Addr}{m:Str->Option Value}{g:Env} (I:uj P A c L<|d+2) (B:Below U c [] c) (O:A.frames=some [g]) (hef:g.frame=some L) (hek:g.scope.kind=.function)
  {vs:List V}{H H':Hp}{rs:Rs}{ρ:Yp}{N:Led}{s:Shared}{G:List Value} (r:vs.length=3) (he:dw (XU cl lp (vs.map some++List.replicate (f.vars-f.p) none) H f.body)=some (rs,H')) (S:St P c L m ρ N H s) (hv:XI ρ N vs G)
  {l:Around}{R:Result->Shared->Prop} (hA':CI A l) (hR:∀u s' T N',St P c L m T N' H' s'->a5 aO ρ N T N'->b0 T N' (gZ rs) u->R (.ok<|.ret u) s'):
  codeAny (model P.p P.w) l (.call (.ref<|P.f 62) ⟨G,[]⟩) R s:=by
 refine cps λC Q=>?_;obtain⟨v0,v1,v2,e3⟩:=Gn r;subst e3;refine tM hA'.facts λn1 n2 n3 n4=>?_;have E:=TF.fn;refine E.ex _ λname F Y kV doc pm an ct oc od osl hK M=>?_;have KI:=I.base.K.keeps S.F.keep;have el:=hv.length;refine tM (groundX (R:=R) B S.F S.g (n2.trans O) hef hek) λFG BG st lv=>?_;have z9:=E.kind;refine Q<|codeAny_call_def (fd:=fnX name qual F body scope [] Y kV doc pm an Zs ct) (body:=body) (binds:=(vars.take 3).zip G) (by have:=I.room;have:recursionLimit=1000:=rfl;exact ow 0x104f84709a3609af13033dfd0e0879b0b44c0065b tq ‹_› ‹_› ‹_›) (KI _ _ hK) rfl (I.base.nolimit.keeps S.F.keep) (codeRec_of KI E.code) rfl (M s G<|el.trans r) E.n (λy hy=>?_) (λt hns q=>?_) E.c E.gen z9
 ·have hm:y.1∈vars.take 3:=(of_mem_zip hy).1
  exact E.loc _<|Z7 hm
 have W:Fr (hideAll s.heap<|N.map (·.1)) s.heap.objs.size t (λy=>((vars.take 3).zip G).reverse.lookup y):=⟨hns,λb o e=>q b o<|of_hideAll _ e,aae<|hideAll_size _ _⟩;have NT:News (hideAll s.heap<|N.map (·.1)) s.heap.objs.size t N:=λp hp=>⟨q _ _ (S.g p hp).1,Yy<|YC (S.g p hp).1,hideAll_none _<|Y4 hp⟩;show wpAny (model P.p P.w) (l.deeper<|envX qual scope s.heap.objs.size (P.f 62) Zs []) (execs body<|envX qual scope s.heap.objs.size (P.f 62) Zs []) _ _ _;have nL:s.heap.objs.size≠L:=by exact cps λC Q=>ng S.F.ns λo _ _ ho _=>Q<|XG<|YC ho
 have aep:c.objs.size<=s.heap.objs.size:=by exact cps λC Q=>ng S.F.ns λo _ _ ho _=>Q<|YU<|Yz S.F.above<|YC ho
 have Cb:uj P (l.deeper<|envX qual scope s.heap.objs.size (P.f 62) Zs []) (hideAll s.heap<|N.map (·.1)) s.heap.objs.size<|d+1:=⟨I.base.keeps st,by show l.handled=_;refine aa n1 ?_;exact I.h,by show l.depth+1+_<_;have:=I.room;exact ba 0x708e0b42c135e16818c9f08e1342c135e26067b0b44c0065b tq n3 this,by show l.units+3+_+_<_;have:=I.units;exact ow 0x990705a1621af1b40c63262641c2685886bc6c6067b2346c0065b tq n4 this,
   λ_ z=>z l c ([g]) _ BG (by show l.frames.map _=_;refine aa n2<|aa O ?_;rfl) rfl z9⟩
 have X:EX P (λ_ _ _=>none) (l.deeper<|envX qual scope s.heap.objs.size (P.f 62) Zs []) (envX qual scope s.heap.objs.size (P.f 62) Zs []) (hideAll s.heap<|N.map (·.1)) s.heap.objs.size (λy=>((vars.take 3).zip G).reverse.lookup y) ⟨vars,scope.names⟩:=
  ⟨z9,rfl,rfl,rfl,Cb.base,Cb.h,by have:=Cb.units;exact ba 0x990e03261641c1689886bc0c6067b tq this,(by intro k vs H H' v ρ N s G h;exact cE h nt),hkn⟩
 have Lg:rm (envX qual scope s.heap.objs.size (P.f 62) Zs []) s.heap.objs.size (λy=>((vars.take 3).zip G).reverse.lookup y) vars ρ N<|[v0,v1,v2].map some:=λi w hi=>by
  have hw:[v0,v1,v2][i]?=some w:=by rw[Zt]at hi;refine ag (YR.mp hi) λa h1 h2=>?_;cases h2;exact h1
  have hi3:i<3:=r▸(Yo.mp hw).1;refine ag (hv.get hw) λu hu hz=>?_;have hx:vars[i]?=some (vars[i]'(by refine aa TF.len ?_;exact hi3)):=XQ _;exact⟨_,u,hx,hz,.inl ⟨E.loc _<|YQ hx,rfl,dm (E.j.sublist<|Z2 _ _) (by refine aa (getElem?_take_of_lt hi3) ?_;exact hx) hu⟩⟩
 exact cps λC Q=>TF.body _ λkc abj aav p3 p4 p5 p6 kk p7 p8 np q1 q2 q3 q4 kk' q5 q6 pos p9 eb=>Q<|aa eb<|Dw XF TF hkn hf3 CF hcl hb X Cb BG (by show l.frames.map _=_;refine aa n2<|aa O ?_;rfl) rfl hef I.base FG st nL aep (s:={s with heap:=t,toks:=s.toks+((vars.take 3).zip G).length}) ⟨W,NT,S.j,S.rep,S.sep,λb o e=>st b o<|S.old b o e,S.env⟩ S.old Lg he lv (λ_ _ h=>h) hR
end
end Mine
end
section
namespace Mine
noncomputable def gj:Fn:=⟨3,3,[
 .f (.v 0) 12 (.v 1),
 .f (.v 0) 6 (.v 2)]⟩
noncomputable def sU:Fn:=⟨0,0,[
 .r (.p [.s [65,82,82,65,89],.s [66,69,71,73,78],.s [66,89],.s [67,65,83,69],.s [67,79,78,83,84],.s [68,73,86],.s [68,79],.s [69,76,83,69],.s [69,76,83,73,70],.s [69,78,68],.s [70,79,82],.s [73,70],.s [73,77,80,79,82,84],.s [73,78],.s [73,83],.s [77,79,68],.s [77,79,68,85,76,69],.s [78,73,76],.s [79,70],.s [79,82],.s [80,79,73,78,84,69,82],.s [80,82,79,67,69,68,85,82,69],.s [82,69,67,79,82,68],.s [82,69,80,69,65,84],.s [82,69,84,85,82,78],.s [84,72,69,78],.s [84,79],.s [84,89,80,69],.s [85,78,84,73,76],.s [86,65,82],.s [87,72,73,76,69]])]⟩
noncomputable def lI:Fn:=⟨1,1,[
 .r (.or [.a [.q .le (.s [97])<|.v 0,.q .le (.v 0)<|.s [122]],.a [.q .le (.s [65])<|.v 0,.q .le (.v 0)<|.s [90]]])]⟩
noncomputable def nS:Fn:=⟨1,1,[
 .r (.a [.q .le (.s [48])<|.v 0,.q .le (.v 0)<|.s [57]])]⟩
noncomputable def gF:Fn:=⟨1,1,[
 .r (.or [.c 2 [.v 0],.a [.q .le (.s [65])<|.v 0,.q .le (.v 0)<|.s [70]]])]⟩
noncomputable def hH:Fn:=⟨4,4,[
 .f (.v 0) 0 (.v 1),
 .f (.v 0) 1 (.v 2),
 .f (.v 0) 2 (.v 3)]⟩
noncomputable def pc:MS:=.w (.a [.q .l (.v 1)<|.n<|.v 0,.q .le (.ord<|.t (.v 0)<|.v 1)<|.i 32]) [.s 1<|.o .a (.v 1)<|.i 1]
noncomputable def vo:Fn:=⟨2,2,[
 pc,
 .r (.v 1)]⟩
noncomputable def ko:MS:=.w (.q .l (.v 1)<|.n<|.v 0) [.s 3<|.S (.v 0) (.v 1)<|.o .a (.v 1)<|.i 2,.i (.q .e (.v 3)<|.s [40,42]) [.s 2<|.o .a (.v 2)<|.i 1,.s 1<|.o .a (.v 1)<|.i 2] [.i (.q .e (.v 3)<|.s [42,41]) [.s 2<|.o .s (.v 2)<|.i 1,.s 1<|.o .a (.v 1)<|.i 2,.i (.q .e (.v 2)<|.i 0) [.r<|.v 1] []] [.s 1<|.o .a (.v 1)<|.i 1]]]
noncomputable def wH:Fn:=⟨2,4,[
 .s 2 (.i 0),
 ko,
 .r (.i<|-1)]⟩
noncomputable def rl:MS:=.w (.a [.q .l (.v 2)<|.n<|.v 0,.q .n (.t (.v 0)<|.v 2)<|.s [10]]) [.i (.q .e (.t (.v 0)<|.v 2)<|.s [34]) [.r<|.o .a (.v 2)<|.i 1] [],.s 2<|.o .a (.v 2)<|.i 1]
noncomputable def wM:Fn:=⟨2,3,[
 .s 2 (.o .a (.v 1)<|.i 1),
 rl,
 .r (.i<|-1)]⟩
noncomputable def mG:MS:=.w (.or [.c 1 [.S (.v 0) (.v 1)<|.o .a (.v 1)<|.i 1],.c 2 [.S (.v 0) (.v 1)<|.o .a (.v 1)<|.i 1]]) [.s 1<|.o .a (.v 1)<|.i 1]
noncomputable def sE:Fn:=⟨2,2,[
 mG,
 .r (.v 1)]⟩
noncomputable def kw:MS:=.w (.c 2 [.S (.v 0) (.v 1)<|.o .a (.v 1)<|.i 1]) [.s 1<|.o .a (.v 1)<|.i 1]
noncomputable def wB:Fn:=⟨2,2,[
 kw,
 .r (.v 1)]⟩
noncomputable def kl:MS:=.w (.c 3 [.S (.v 0) (.v 2)<|.o .a (.v 2)<|.i 1]) [.s 2<|.o .a (.v 2)<|.i 1]
noncomputable def wj:Fn:=⟨2,5,[
 .s 2 (.v 1),
 kl,
 .i (.q .i (.S (.v 0) (.v 2)<|.o .a (.v 2)<|.i 1)<|.p [.s [72],.s [88]]) [.r<|.o .a (.v 2)<|.i 1] [],
 .s 2 (.c 8 [.v 0,.v 1]),
 .i (.or [.q .n (.S (.v 0) (.v 2)<|.o .a (.v 2)<|.i 1)<|.s [46],.q .e (.S (.v 0) (.o .a (.v 2)<|.i 1)<|.o .a (.v 2)<|.i 2)<|.s [46]]) [.r<|.v 2] [],
 .s 2 (.c 8 [.v 0,.o .a (.v 2)<|.i 1]),
 .i (.q .n (.S (.v 0) (.v 2)<|.o .a (.v 2)<|.i 1)<|.s [69]) [.r<|.v 2] [],
 .s 3 (.o .a (.v 2)<|.i 1),
 .i (.q .i (.S (.v 0) (.v 3)<|.o .a (.v 3)<|.i 1)<|.p [.s [43],.s [45]]) [.s 3<|.o .a (.v 3)<|.i 1] [],
 .s 4 (.c 8 [.v 0,.v 3]),
 .r (.e (.q .e (.v 4)<|.v 3) (.v 2)<|.v 4)]⟩
noncomputable def AC:Fn:=⟨2,2,[
 .i (.q .i (.S (.v 0) (.v 1)<|.o .a (.v 1)<|.i 2)<|.p [.s [58,61],.s [60,61],.s [62,61],.s [46,46]]) [.r<|.o .a (.v 1)<|.i 2] [],
 .i (.q .i (.t (.v 0)<|.v 1)<|.s [43,45,42,47,126,38,46,44,59,124,40,91,123,94,61,35,60,62,58,41,93,125]) [.r<|.o .a (.v 1)<|.i 1] [],
 .r (.v 1)]⟩
noncomputable def un:MS:=.w (.a [.q .l (.v 1)<|.n<|.v 0,.q .n (.t (.v 0)<|.v 1)<|.s [10]]) [.s 1<|.o .a (.v 1)<|.i 1]
noncomputable def zS:Fn:=⟨2,2,[
 un,
 .r (.v 1)]⟩
noncomputable def DI:Fn:=⟨3,6,[
 .s 3 (.t (.v 0)<|.v 1),
 .i (.q .le (.ord<|.v 3)<|.i 32) [.r<|.w 0 [.s [103,97,112],.S (.v 0) (.v 1)<|.c 4 [.v 0,.v 1],.v 1]] [],
 .i (.q .e (.S (.v 0) (.v 1)<|.o .a (.v 1)<|.i 2)<|.s [40,42]) [.s 4<|.c 5 [.v 0,.v 1],.i (.q .l (.v 4)<|.i 0) [.r<|.w 0 [.s [115,116,114,97,121],.X (.v 0)<|.v 1,.v 1]] [],.r<|.w 0 [.s [114,101,109,97,114,107],.S (.v 0) (.v 1)<|.v 4,.v 1]] [],
 .i (.c 1 [.v 3]) [.s 5<|.S (.v 0) (.v 1)<|.c 7 [.v 0,.v 1],.r<|.w 0 [.e (.q .i (.v 5)<|.v 2) (.s [119,111,114,100])<|.s [110,97,109,101],.v 5,.v 1]] [],
 .i (.c 2 [.v 3]) [.r<|.w 0 [.s [110,117,109,98,101,114],.S (.v 0) (.v 1)<|.c 9 [.v 0,.v 1],.v 1]] [],
 .i (.q .e (.v 3)<|.s [34]) [.s 4<|.c 6 [.v 0,.v 1],.i (.q .l (.v 4)<|.i 0) [.r<|.w 0 [.s [115,116,114,97,121],.S (.v 0) (.v 1)<|.c 11 [.v 0,.v 1],.v 1]] [],.r<|.w 0 [.s [116,101,120,116],.S (.v 0) (.v 1)<|.v 4,.v 1]] [],
 .s 4 (.c 10 [.v 0,.v 1]),
 .i (.q .g (.v 4)<|.v 1) [.r<|.w 0 [.s [115,105,103,110],.S (.v 0) (.v 1)<|.v 4,.v 1]] [],
 .r (.w 0 [.s [115,116,114,97,121],.v 3,.v 1])]⟩
noncomputable def ik:MS:=.w (.q .l (.v 3)<|.n<|.v 0) [.s 4<|.c 12 [.v 0,.v 3,.v 1],.a (.v 2)<|.v 4,.s 3<|.o .a (.v 3)<|.n<|.f (.v 4) 1]
noncomputable def lc:Fn:=⟨1,5,[
 .s 1 (.c 0 []),
 .s 2 (.l []),
 .s 3 (.i 0),
 ik,
 .r (.v 2)]⟩
noncomputable def J1:Fn:=⟨1,1,[
 .r (.E (.v 0) (.v 0) (.q (.Zk ()) (.f (.v 0) 0)<|.p [.s [103,97,112],.s [114,101,109,97,114,107]]) [])]⟩
noncomputable def ky:Fn:=⟨0,0,[
 .r (.p [.s [65,66,83],.s [79,68,68],.s [76,69,78],.s [76,83,76],.s [65,83,82],.s [82,79,82],.s [79,82,68],.s [67,72,82]])]⟩
noncomputable def iZ:Fn:=⟨0,0,[
 .r (.p [.s [73,78,67],.s [68,69,67],.s [73,78,67,76],.s [69,88,67,76],.s [78,69,87],.s [65,83,83,69,82,84]])]⟩
noncomputable def ir:Fn:=⟨4,4,[
 .f (.v 0) 2 (.v 1),
 .f (.v 0) 3 (.v 2),
 .f (.v 0) 4 (.v 3)]⟩
noncomputable def jm:MS:=.g 1 (.p [.s [66,79,79,76,69,65,78],.s [67,72,65,82],.s [66,89,84,69],.s [73,78,84,69,71,69,82],.s [83,69,84],.s [84,82,85,69],.s [70,65,76,83,69]]) [.t (.v 0) (.v 1)<|.i<|-1]
noncomputable def eZ:MS:=.g 1 (.o .a (.c 15 [])<|.c 16 []) [.t (.v 0) (.v 1)<|.i<|-1]
def iS:Fn:=⟨0,2,[
 .s 0 (.dS [] []),
 jm,
 eZ,
 .r (.v 0)]⟩
noncomputable def fF:Fn:=⟨2,2,[
 .f (.v 0) 5 (.v 1),
 .f (.v 0) 6 (.i 0),
 .f (.v 0) 7 (.l [.c 17 []]),
 .f (.v 0) 8 (.l []),
 .f (.v 0) 9 (.l []),
 .f (.v 0) 10 (.l []),
 .f (.v 0) 11 (.l [])]⟩
noncomputable def kn:Fn:=⟨1,1,[
 .i (.q .l (.f (.v 0) 6)<|.n<|.f (.v 0) 5) [.r<|.f (.t (.f (.v 0) 5)<|.f (.v 0) 6) 1] [],
 .r (.s [])]⟩
noncomputable def gm:Fn:=⟨1,1,[
 .r (.a [.q .l (.f (.v 0) 6)<|.n<|.f (.v 0) 5,.q .e (.f (.t (.f (.v 0) 5)<|.f (.v 0) 6) 0)<|.s [110,97,109,101]])]⟩
noncomputable def rj:Fn:=⟨1,2,[
 .s 1 (.i<|-1),
 .i (.q .l (.f (.v 0) 6)<|.n<|.f (.v 0) 5) [.s 1<|.f (.t (.f (.v 0) 5)<|.f (.v 0) 6) 2] [],
 .k]⟩
noncomputable def fK:Fn:=⟨2,2,[
 .i (.q .n (.m 18 (.v 0) [])<|.v 1) [.r<|.b false] [],
 .f (.v 0) 6 (.o .a (.f (.v 0) 6)<|.i 1),
 .r (.b true)]⟩
noncomputable def hZ:Fn:=⟨2,2,[
 .i (.N<|.m 21 (.v 0) [.v 1]) [.x<|.m 20 (.v 0) []] []]⟩
noncomputable def kp:Fn:=⟨1,1,[
 .i (.N<|.m 19 (.v 0) []) [.x<|.m 20 (.v 0) []] [],
 .f (.v 0) 6 (.o .a (.f (.v 0) 6)<|.i 1),
 .r (.t (.f (.v 0) 5)<|.o .s (.f (.v 0) 6)<|.i 1)]⟩
noncomputable def di:MS:=.aah 2 (.f (.v 0) 7) [.i (.q .i (.v 1)<|.v 2) [.r<|.t (.v 2)<|.v 1] []]
def ib:Fn:=⟨2,3,[
 di,
 .r (.i<|-2)]⟩
noncomputable def d9:Fn:=⟨3,4,[
 .s 3 (.n<|.f (.v 0) 8),
 .a (.f (.v 0) 8) (.v 2),
 .i (.q .i (.f (.v 1) 1)<|.t (.f (.v 0) 7)<|.i<|-1) [.a (.f (.v 0) 10)<|.f (.v 1) 2] [.t (.t (.f (.v 0) 7)<|.i<|-1) (.f (.v 1) 1)<|.v 3],
 .a (.f (.v 0) 9) (.w 1 [.f (.v 1) 2,.f (.v 1) 1,.v 3]),
 .r (.v 3)]⟩
noncomputable def lj:Fn:=⟨2,2,[
 .a (.f (.v 0) 9) (.w 1 [.f (.v 1) 2,.f (.v 1) 1,.x (.m 24 (.v 0) [.f (.v 1) 1])<|.i<|-1])]⟩
noncomputable def fy:Fn:=⟨1,1,[
 .x (.m 26 (.v 0) [.m 23 (.v 0) []]),
 .i (.m 21 (.v 0) [.s [46]]) [.x<|.m 23 (.v 0) []] []]⟩
noncomputable def dJ:MS:=.w (.or [.q .g (.v 2)<|.i 0,.q (.Zk ()) (.m 18 (.v 0) [])<|.v 1]) [.i (.q .ge (.f (.v 0) 6)<|.n<|.f (.v 0) 5) [.x<|.m 20 (.v 0) []] [],.s 3<|.t (.f (.v 0) 5)<|.f (.v 0) 6,.i (.a [.q .e (.f (.v 3) 0)<|.s [110,97,109,101],.q .n (.f (.t (.f (.v 0) 5)<|.o .s (.f (.v 0) 6)<|.i 1) 1)<|.s [46]]) [.x<|.m 26 (.v 0) [.v 3]] [],.i (.a [.q .i (.f (.v 3) 1)<|.p [.s [40],.s [91],.s [123]],.q .e (.f (.v 3) 0)<|.s [115,105,103,110]]) [.s 2<|.o .a (.v 2)<|.i 1] [.i (.a [.q .i (.f (.v 3) 1)<|.p [.s [41],.s [93],.s [125]],.q .e (.f (.v 3) 0)<|.s [115,105,103,110]]) [.s 2<|.o .s (.v 2)<|.i 1] []],.f (.v 0) 6<|.o .a (.f (.v 0) 6)<|.i 1]
noncomputable def eP:Fn:=⟨2,4,[
 .s 2 (.i 0),
 dJ]⟩
noncomputable def dQ:MS:=.w (.or [.q .g (.v 1)<|.i 0,.q .n (.m 18 (.v 0) [])<|.s [69,78,68]]) [.s 2<|.m 18 (.v 0) [],.i (.q .i (.v 2)<|.p [.s [73,70],.s [67,65,83,69],.s [87,72,73,76,69],.s [70,79,82]]) [.s 1<|.o .a (.v 1)<|.i 1] [.i (.q .e (.v 2)<|.s [69,78,68]) [.s 1<|.o .s (.v 1)<|.i 1] []],.x<|.m 30 (.v 0) []]
noncomputable def eN:Fn:=⟨1,3,[
 .s 1 (.i 0),
 dQ]⟩
noncomputable def cz:Fn:=⟨1,2,[
 .i (.q .ge (.f (.v 0) 6)<|.n<|.f (.v 0) 5) [.x<|.m 20 (.v 0) []] [],
 .s 1 (.t (.f (.v 0) 5)<|.f (.v 0) 6),
 .i (.a [.q .e (.f (.v 1) 0)<|.s [110,97,109,101],.q .n (.f (.t (.f (.v 0) 5)<|.o .s (.f (.v 0) 6)<|.i 1) 1)<|.s [46]]) [.x<|.m 26 (.v 0) [.v 1]] [],
 .f (.v 0) 6 (.o .a (.f (.v 0) 6)<|.i 1)]⟩
noncomputable def fm:MS:=.w (.m 21 (.v 0) [.s [44]]) [.x<|.m 32 (.v 0) []]
def ii:Fn:=⟨1,1,[
 .x (.m 22 (.v 0) [.s [77,79,68,85,76,69]]),
 .x (.m 23 (.v 0) []),
 .x (.m 22 (.v 0) [.s [59]]),
 .a (.f (.v 0) 7) (.dS [] []),
 .i (.m 21 (.v 0) [.s [73,77,80,79,82,84]]) [.x<|.m 32 (.v 0) [],fm,.x<|.m 22 (.v 0) [.s [59]]] [],
 .x (.m 34 (.v 0) []),
 .x (.m 33 (.v 0) []),
 .x (.m 23 (.v 0) []),
 .x (.m 22 (.v 0) [.s [46]])]⟩
noncomputable def kI:Fn:=⟨1,2,[
 .s 1 (.m 23 (.v 0) []),
 .i (.m 21 (.v 0) [.s [58,61]]) [.x<|.m 23 (.v 0) [],.x<|.m 25 (.v 0) [.v 1,.s [97,108,105,97,115]]] [.x<|.m 25 (.v 0) [.v 1,.s [105,109,112,111,114,116]]]]⟩
noncomputable def ri:Fn:=⟨1,1,[
 .i (.m 21 (.v 0) [.s [66,69,71,73,78]]) [.x<|.m 29 (.v 0) []] [.i (.m 21 (.v 0) [.s [82,69,84,85,82,78]]) [.x<|.m 28 (.v 0) [.p [.s [69,78,68]]]] []],
 .x (.m 22 (.v 0) [.s [69,78,68]])]⟩
noncomputable def gr:MS:=.w (.m 19 (.v 0) []) [.x<|.m 36 (.v 0) []]
noncomputable def gV:MS:=.w (.m 19 (.v 0) []) [.x<|.m 37 (.v 0) []]
noncomputable def gu:MS:=.w (.m 19 (.v 0) []) [.x<|.m 38 (.v 0) []]
def al:MS:=.w (.b true) [.i (.m 21 (.v 0) [.s [67,79,78,83,84]]) [gr] [.i (.m 21 (.v 0) [.s [84,89,80,69]]) [gV,.x<|.m 42 (.v 0) []] [.i (.m 21 (.v 0) [.s [86,65,82]]) [gu,.x<|.m 42 (.v 0) []] [.i (.q .e (.m 18 (.v 0) [])<|.s [80,82,79,67,69,68,85,82,69]) [.x<|.m 44 (.v 0) [],.x<|.m 22 (.v 0) [.s [59]]] [.aar]]]]]
def jn:Fn:=⟨1,1,[
 al]⟩
noncomputable def eE:Fn:=⟨1,2,[
 .s 1 (.m 23 (.v 0) []),
 .x (.m 21 (.v 0) [.s [42]]),
 .r (.v 1)]⟩
noncomputable def mz:Fn:=⟨1,2,[
 .s 1 (.m 35 (.v 0) []),
 .x (.m 22 (.v 0) [.s [61]]),
 .x (.m 28 (.v 0) [.p [.s [59]]]),
 .x (.m 22 (.v 0) [.s [59]]),
 .x (.m 25 (.v 0) [.v 1,.s [99,111,110,115,116]])]⟩
noncomputable def fV:Fn:=⟨1,2,[
 .s 1 (.m 35 (.v 0) []),
 .x (.m 25 (.v 0) [.v 1,.s [116,121,112,101]]),
 .x (.m 22 (.v 0) [.s [61]]),
 .x (.m 39 (.v 0) []),
 .x (.m 22 (.v 0) [.s [59]])]⟩
noncomputable def ja:MS:=.w (.m 21 (.v 0) [.s [44]]) [.a (.v 1)<|.m 35 (.v 0) []]
noncomputable def jk:MS:=.g 2 (.v 1) [.x<|.m 25 (.v 0) [.v 2,.s [118,97,114]]]
def lu:Fn:=⟨1,3,[
 .s 1 (.l [.m 35 (.v 0) []]),
 ja,
 .x (.m 22 (.v 0) [.s [58]]),
 .x (.m 39 (.v 0) []),
 .x (.m 22 (.v 0) [.s [59]]),
 jk]⟩
noncomputable def ef:Fn:=⟨1,1,[
 .i (.m 21 (.v 0) [.s [65,82,82,65,89]]) [.x<|.m 28 (.v 0) [.p [.s [79,70]]],.x<|.m 22 (.v 0) [.s [79,70]],.x<|.m 39 (.v 0) []] [.i (.m 21 (.v 0) [.s [82,69,67,79,82,68]]) [.x<|.m 40 (.v 0) []] [.i (.m 21 (.v 0) [.s [80,79,73,78,84,69,82]]) [.x<|.m 22 (.v 0) [.s [84,79]],.x<|.m 41 (.v 0) []] [.i (.m 21 (.v 0) [.s [80,82,79,67,69,68,85,82,69]]) [.x<|.m 43 (.v 0) []] [.x<|.m 27 (.v 0) []]]]]]⟩
noncomputable def lC:MS:=.w (.m 21 (.v 0) [.s [44]]) [.x<|.m 35 (.v 0) []]
def kN:MS:=.w (.m 19 (.v 0) []) [.x<|.m 35 (.v 0) [],lC,.x<|.m 22 (.v 0) [.s [58]],.x<|.m 39 (.v 0) [],.x<|.m 21 (.v 0) [.s [59]]]
def ou:Fn:=⟨1,1,[
 .i (.m 21 (.v 0) [.s [40]]) [.x<|.m 27 (.v 0) [],.x<|.m 22 (.v 0) [.s [41]]] [],
 kN,
 .x (.m 22 (.v 0) [.s [69,78,68]])]⟩
noncomputable def gk:Fn:=⟨1,3,[
 .i (.a [.m 19 (.v 0) [],.q .e (.m 24 (.v 0) [.m 18 (.v 0) []])<|.i<|-2]) [.s 1<|.m 23 (.v 0) [],.s 2<|.w 1 [.f (.v 1) 2,.f (.v 1) 1,.i<|-1],.a (.f (.v 0) 9)<|.v 2,.a (.f (.v 0) 11)<|.v 2] [.x<|.m 39 (.v 0) []]]⟩
noncomputable def eO:MS:=.g 1 (.f (.v 0) 11) [.f (.v 1) 4<|.x (.m 24 (.v 0) [.f (.v 1) 3])<|.i<|-1]
def go:Fn:=⟨1,2,[
 eO,
 .c (.f (.v 0) 11)]⟩
noncomputable def iH:MS:=.w (.m 21 (.v 0) [.s [44]]) [.a (.v 1)<|.m 23 (.v 0) []]
noncomputable def iU:MS:=.w (.m 21 (.v 0) [.s [65,82,82,65,89]]) [.x<|.m 22 (.v 0) [.s [79,70]]]
def iD:MS:=.w (.N<|.m 21 (.v 0) [.s [41]]) [.x<|.m 21 (.v 0) [.s [86,65,82]],.a (.v 1)<|.m 23 (.v 0) [],iH,.x<|.m 22 (.v 0) [.s [58]],iU,.x<|.m 27 (.v 0) [],.x<|.m 21 (.v 0) [.s [59]]]
def kD:Fn:=⟨1,2,[
 .s 1 (.l []),
 .i (.N<|.m 21 (.v 0) [.s [40]]) [.r<|.v 1] [],
 iD,
 .i (.m 21 (.v 0) [.s [58]]) [.x<|.m 27 (.v 0) []] [],
 .r (.v 1)]⟩
noncomputable def ee:MS:=.g 2 (.m 43 (.v 0) []) [.x<|.m 25 (.v 0) [.v 2,.s [112,97,114]]]
def kU:Fn:=⟨1,3,[
 .x (.m 22 (.v 0) [.s [80,82,79,67,69,68,85,82,69]]),
 .s 1 (.m 25 (.v 0) [.m 35 (.v 0) [],.s [112,114,111,99]]),
 .a (.f (.v 0) 7) (.dS [] []),
 ee,
 .x (.m 22 (.v 0) [.s [59]]),
 .x (.m 34 (.v 0) []),
 .x (.m 33 (.v 0) []),
 .s 2 (.m 23 (.v 0) []),
 .a (.f (.v 0) 9) (.w 1 [.f (.v 2) 2,.f (.v 2) 1,.v 1]),
 .x (.pop<|.f (.v 0) 7)]⟩
noncomputable def ub:Fn:=⟨1,2,[
 .s 1 (.w 2 [.c 14 [.v 0]]),
 .x (.m 31 (.v 1) []),
 .r (.v 1)]⟩
noncomputable def fa:MS:=.g 1 (.v 0) [.i (.a [.N<|.c 1 [.v 1],.N<|.c 2 [.v 1]]) [.r<|.b false] []]
def mQ:Fn:=⟨1,2,[
 .i (.or [.q .e (.v 0)<|.s [],.N<|.c 1 [.t (.v 0)<|.i 0],.q .i (.v 0)<|.c 0 []]) [.r<|.b false] [],
 fa,
 .r (.b true)]⟩
noncomputable def jy:Fn:=⟨1,2,[
 .s 1 (.k<|.C (.p [.f (.v 0) 2,.f (.v 0) 4]) (.f (.v 0) 9) []),
 .r (.C (.t (.v 0)<|.i 1) (.v 1) [])]⟩
noncomputable def ll:MS:=.g 6 (.f (.v 4) 9) [.i (.q .e (.f (.v 6) 2)<|.v 1) [.s 5<|.f (.v 6) 4] []]
noncomputable def lK:MS:=.g 6 (.f (.v 4) 9) [.i (.q .e (.f (.v 6) 4)<|.v 5) [.t (.v 7) (.f (.v 6) 2)<|.b true] []]
def bo:Fn:=⟨3,10,[
 .s 3 (.c 13 [.v 0]),
 .s 4 (.c 45 [.v 3]),
 .s 5 (.i<|-2),
 ll,
 .i (.q .e (.v 5)<|.i<|-2) [.e (.s [110,111,116,95,97,95,110,97,109,101])<|.v 1] [],
 .i (.q .e (.v 5)<|.i<|-1) [.e (.s [112,114,101,100,101,99,108,97,114,101,100])<|.v 1] [],
 .i (.q .e (.t (.f (.v 4) 8)<|.v 5)<|.s [105,109,112,111,114,116]) [.e (.s [105,109,112,111,114,116])<|.v 1] [],
 .i (.N<|.c 46 [.v 2]) [.e (.s [98,97,100,95,110,97,109,101])<|.v 1] [],
 .s 7 .dI,
 lK,
 .s 8 (.j<|.C (.e (.q .i (.f (.v 0) 2)<|.v 1) (.v 2)<|.f (.v 0) 1) (.v 3) [7,2]),
 .s 9 (.c 45 [.c 13 [.v 8]]),
 .i (.or [.q .n (.c 47 [.v 4])<|.c 47 [.v 9],.q .g (.n<|.f (.v 9) 10)<|.n<|.f (.v 4) 10]) [.e (.s [119,111,117,108,100,95,99,108,97,115,104])<|.v 1] [],
 .r (.v 8)]⟩
noncomputable def X4:MS:=.w (.a [.q .g (.v 3)<|.i 0,.q .l (.n<|.v 1)<|.i 300]) [.a (.v 1)<|.o .m (.v 3)<|.i 1000,.s 3<|.o (.fdiv ()) (.v 3)<|.i 1000]
def gJ:MS:=.g 2 (.Y (.v 0)<|.i 50) [.s 3<|.e (.q .ge (.v 2)<|.i 0) (.v 2)<|.o .s (.i 1)<|.v 2,.a (.v 1)<|.o .m (.v 3)<|.i 1000,.s 3<|.o (.fdiv ()) (.v 3)<|.i 1000,X4]
def fp:Fn:=⟨1,5,[
 .s 1 (.l []),
 gJ,
 .s 4 (.i 0),
 .i (.q .g (.n<|.v 0)<|.i 2) [.s 4<|.o .a (.i 1)<|.o .m (.u<|.v 1)<|.i 990] [],
 .rvs (.v 1),
 .r (.l [.v 1,.v 4])]⟩
noncomputable def jQ:Fn:=⟨2,2,[
 .i (.q .n (.t (.v 0)<|.i 0)<|.l []) [.r<|.o .m (.pop<|.t (.v 0)<|.i 0)<|.v 1] [],
 .i (.q .g (.t (.v 0)<|.i 1)<|.i 0) [.t (.v 0) (.i 1)<|.x (.o .m (.o .a (.o .mul (.t (.v 0)<|.i 1)<|.i 29)<|.i 7)<|.i 997)<|.i 1] [],
 .r (.o .m (.t (.v 0)<|.i 1)<|.v 1)]⟩
noncomputable def sv:Fn:=⟨2,2,[
 .a (.t (.v 0)<|.i 0) (.v 1),
 .u (.v 0) (.i 1) .a (.n<|.v 1)]⟩
noncomputable def tO:Fn:=⟨2,2,[
 .a (.t (.v 0)<|.i 2) (.p [.t (.v 0)<|.i 1,.v 1]),
 .x (.c 51 [.v 0,.v 1]),
 .r (.o .s (.n<|.t (.v 0)<|.i 2)<|.i 1)]⟩
noncomputable def vu:Fn:=⟨2,3,[
 .s 2 (.t (.l [.s [97],.s [98],.s [99],.s [100],.s [65,66,83],.s [97],.s [98]])<|.c 50 [.v 0,.i 7]),
 .a (.t (.v 1)<|.i 3) (.p [.s [117,115,101],.c 52 [.v 1,.v 2]])]⟩
noncomputable def gq:MS:=.h 3 (.i 4) [.s 4<|.t (.s [97,98,99,100])<|.o .m (.o .a (.v 2)<|.v 3)<|.i 4,.i (.q (.Zk ()) (.v 4)<|.v 1) [.a (.v 1)<|.v 4,.r<|.v 4] []]
noncomputable def xJ:Fn:=⟨2,5,[
 .s 2 (.c 50 [.v 0,.i 4]),
 gq,
 .r (.s [])]⟩
noncomputable def yC:Fn:=⟨2,3,[
 .x (.c 53 [.v 0,.v 1]),
 .s 2 (.c 50 [.v 0,.i 4]),
 .i (.q .e (.v 2)<|.i 1) [.x<|.c 51 [.v 1,.s [32,43,32]],.x<|.c 53 [.v 0,.v 1]] [.i (.q .e (.v 2)<|.i 2) [.x<|.c 51 [.v 1,.s [46,97]]] [.i (.q .e (.v 2)<|.i 3) [.x<|.c 51 [.v 1,.s [40,98,46,99,44,32,49,32,40,42,32,100,32,42,41,41]],.a (.t (.v 1)<|.i 2)<|.p [.o .s (.t (.v 1)<|.i 1)<|.i 15,.s [98]],.a (.t (.v 1)<|.i 3)<|.p [.s [117,115,101],.o .s (.n<|.t (.v 1)<|.i 2)<|.i 1]] []]]]⟩
noncomputable def AD:Fn:=⟨3,4,[
 .s 3 (.c 50 [.v 0,.e (.q .l (.v 2)<|.i 2) (.i 6)<|.i 2]),
 .i (.q .l (.v 3)<|.i 2) [.x<|.c 53 [.v 0,.v 1]] [.i (.q .e (.v 3)<|.i 2) [.x<|.c 51 [.v 1,.s [82,69,67,79,82,68,32,97,44,32,100,58,32]],.x<|.c 56 [.v 0,.v 1,.o .a (.v 2)<|.i 1],.x<|.c 51 [.v 1,.s [59,32,101,42,58,32,73,78,84,69,71,69,82,32,69,78,68]],.a (.t (.v 1)<|.i 2)<|.p [.o .s (.t (.v 1)<|.i 1)<|.i 11,.s [73,78,84,69,71,69,82]],.a (.t (.v 1)<|.i 3)<|.p [.s [117,115,101],.o .s (.n<|.t (.v 1)<|.i 2)<|.i 1]] [.i (.q .e (.v 3)<|.i 3) [.x<|.c 51 [.v 1,.s [80,79,73,78,84,69,82,32,84,79,32]],.a (.t (.v 1)<|.i 3)<|.p [.s [102,111,114,119,97,114,100],.c 52 [.v 1,.t (.s [97,98,99,100])<|.c 50 [.v 0,.i 4]]]] [.i (.q .e (.v 3)<|.i 4) [.x<|.c 51 [.v 1,.s [65,82,82,65,89,32]],.x<|.c 55 [.v 0,.v 1],.x<|.c 51 [.v 1,.s [32,79,70,32]],.x<|.c 56 [.v 0,.v 1,.o .a (.v 2)<|.i 1]] [.x<|.c 51 [.v 1,.s [80,82,79,67,69,68,85,82,69,32,40,99,58,32]],.x<|.c 53 [.v 0,.v 1],.x<|.c 51 [.v 1,.s [41]]]]]]]⟩
noncomputable def iy:MS:=.h 6 (.v 5) [.s 7<|.c 54 [.v 0,.v 3],.i (.q .n (.v 7)<|.s []) [.s 8<|.c 52 [.v 1,.v 7],.i (.q .e (.v 4)<|.i 1) [.a (.t (.v 1)<|.i 3)<|.p [.s [116,121,112,101],.v 8]] [],.x<|.c 51 [.v 1,.t (.l [.s [32,61,32],.s [42,32,61,32],.s [58,32]])<|.v 4],.i (.q .e (.v 4)<|.i 0) [.x<|.c 55 [.v 0,.v 1],.a (.t (.v 1)<|.i 3)<|.p [.s [99,111,110,115,116],.v 8]] [.x<|.c 56 [.v 0,.v 1,.i 0]],.i (.q .e (.v 4)<|.i 2) [.a (.t (.v 1)<|.i 3)<|.p [.s [118,97,114],.v 8]] [],.x<|.c 51 [.v 1,.s [59,32]]] []]
def cX:MS:=.h 4 (.i 3) [.s 5<|.c 50 [.v 0,.i 2],.i (.q .g (.v 5)<|.i 0) [.x<|.c 51 [.v 1,.t (.l [.s [32,67,79,78,83,84,32],.s [32,84,89,80,69,32],.s [32,86,65,82,32]])<|.v 4]] [],iy,.i (.a [.q .g (.v 5)<|.i 0,.q .g (.v 4)<|.i 0]) [.a (.t (.v 1)<|.i 3)<|.p [.s [114,101,115,111,108,118,101],.i 0]] []]
noncomputable def cm:MS:=.h 6 (.e (.q .g (.t (.v 1)<|.i 4)<|.i 0) (.c 50 [.v 0,.i 3])<|.i 0) [.u (.v 1) (.i 4) .s<|.i 1,.s 7<|.c 54 [.v 0,.v 3],.i (.a [.q .n (.v 7)<|.s [],.q .ge (.t (.v 1)<|.i 4)<|.i 0]) [.x<|.c 58 [.v 0,.v 1,.v 2,.v 7]] []]
def gA:Fn:=⟨4,9,[
 cX,
 cm]⟩
noncomputable def br:MS:=.g 8 (.v 6) [.a (.t (.v 1)<|.i 3)<|.p [.s [112,97,114],.v 8]]
def kq:Fn:=⟨4,9,[
 .x (.c 51 [.v 1,.s [32,80,82,79,67,69,68,85,82,69,32]]),
 .a (.t (.v 1)<|.i 3) (.p [.s [112,114,111,99],.c 52 [.v 1,.v 3]]),
 .a (.t (.v 1)<|.i 3) (.p [.s [111,112,101,110],.i 0]),
 .s 4 (.o .s (.n<|.t (.v 1)<|.i 3)<|.i 2),
 .s 5 (.l []),
 .s 6 (.l []),
 .i (.q .e (.c 50 [.v 0,.i 2])<|.i 1) [.x<|.c 51 [.v 1,.s [40,86,65,82,32]],.s 7<|.c 54 [.v 0,.v 5],.a (.v 6)<|.c 52 [.v 1,.v 7],.x<|.c 51 [.v 1,.s [44,32]],.a (.v 6)<|.c 52 [.v 1,.c 54 [.v 0,.v 5]],.x<|.c 51 [.v 1,.s [58,32,65,82,82,65,89,32,79,70,32]],.x<|.c 53 [.v 0,.v 1],.x<|.c 51 [.v 1,.s [41]]] [],
 br,
 .x (.c 51 [.v 1,.s [59]]),
 .x (.c 57 [.v 0,.v 1,.o .a (.v 2)<|.i 1,.v 5]),
 .x (.c 51 [.v 1,.s [32,66,69,71,73,78,32,73,70,32]]),
 .x (.c 55 [.v 0,.v 1]),
 .x (.c 51 [.v 1,.s [32,84,72,69,78,32]]),
 .x (.c 53 [.v 0,.v 1]),
 .x (.c 51 [.v 1,.s [32,58,61,32,49,32,69,78,68,32,82,69,84,85,82,78,32]]),
 .x (.c 55 [.v 0,.v 1]),
 .x (.c 51 [.v 1,.s [32,69,78,68,32]]),
 .s 8 (.c 52 [.v 1,.v 3]),
 .a (.t (.v 1)<|.i 3) (.p [.s [101,110,100],.p [.v 8,.t (.t (.t (.v 1)<|.i 3)<|.v 4)<|.i 1]]),
 .a (.t (.v 1)<|.i 3) (.p [.s [99,108,111,115,101],.i 0]),
 .x (.c 51 [.v 1,.s [59]])]⟩
noncomputable def nX:Fn:=⟨1,4,[
 .s 1 (.l [.l [],.i 0,.l [],.l [],.i 1]),
 .x (.c 51 [.v 1,.s [77,79,68,85,76,69,32,97,59,32]]),
 .s 2 (.l []),
 .s 3 (.c 50 [.v 0,.i 3]),
 .i (.q .g (.v 3)<|.i 0) [.x<|.c 51 [.v 1,.s [73,77,80,79,82,84,32]],.a (.t (.v 1)<|.i 3)<|.p [.t (.l [.s [97,108,105,97,115],.s [105,109,112,111,114,116]])<|.o .s (.v 3)<|.i 1,.c 52 [.v 1,.c 54 [.v 0,.v 2]]],.x<|.c 51 [.v 1,.t (.l [.s [32,58,61,32,98,59,32],.s [59,32]])<|.o .s (.v 3)<|.i 1]] [],
 .x (.c 57 [.v 0,.v 1,.i 0,.v 2]),
 .x (.c 51 [.v 1,.s [32,66,69,71,73,78,32]]),
 .x (.c 53 [.v 0,.v 1]),
 .x (.c 51 [.v 1,.s [59,32,67,65,83,69,32]]),
 .x (.c 55 [.v 0,.v 1]),
 .x (.c 51 [.v 1,.s [32,79,70,32,49,58,32,69,78,68,32,69,78,68,32,97,46]]),
 .r (.p [.j<|.t (.v 1)<|.i 0,.t (.v 1)<|.i 2,.t (.v 1)<|.i 3])]⟩
noncomputable def iF:MS:=.ZA 2 (.o .s (.n<|.v 0)<|.i 1) [.i (.q .i (.v 1)<|.t (.v 0)<|.v 2) [.r<|.t (.t (.v 0)<|.v 2)<|.v 1] []]
def nK:Fn:=⟨2,3,[
 iF,
 .r (.i<|-2)]⟩
noncomputable def dX:MS:=.g 9 (.v 5) [.t (.v 3) (.v 9)<|.x (.c 60 [.v 2,.t (.v 1)<|.v 9])<|.i<|-1]
def fM:MS:=.ZG 7 8 (.v 0) [.i (.q .e (.v 7)<|.s [111,112,101,110]) [.a (.v 2)<|.dS [] []] [.i (.q .e (.v 7)<|.s [99,108,111,115,101]) [.x<|.pop<|.v 2] [.i (.q .e (.v 7)<|.s [101,110,100]) [.t (.v 3) (.t (.v 8)<|.i 0)<|.t (.v 3)<|.t (.v 8)<|.i 1] [.i (.q .e (.v 7)<|.s [114,101,115,111,108,118,101]) [dX,.s 5<|.l []] [.i (.q .i (.v 7)<|.p [.s [117,115,101],.s [102,111,114,119,97,114,100]]) [.s 10<|.c 60 [.v 2,.t (.v 1)<|.v 8],.t (.v 3) (.v 8)<|.x (.v 10)<|.i<|-1,.i (.a [.q .e (.v 7)<|.s [102,111,114,119,97,114,100],.q .e (.v 10)<|.i<|-2]) [.a (.v 5)<|.v 8] []] [.t (.v 3) (.v 8)<|.n<|.v 4,.i (.q .i (.t (.v 1)<|.v 8)<|.t (.v 2)<|.i<|-1) [.v 6 .a<|.i 1] [.t (.t (.v 2)<|.i<|-1) (.t (.v 1)<|.v 8)<|.n<|.v 4],.a (.v 4)<|.v 7]]]]]]
def jK:Fn:=⟨2,11,[
 .s 2 (.l [.dS [[65,66,83],[73,78,84,69,71,69,82]] [.i<|-1,.i<|-1],.dS [] []]),
 .s 3 .dI,
 .s 4 (.l []),
 .s 5 (.l []),
 .s 6 (.i 0),
 fM,
 .r (.p [.v 3,.v 4,.v 6])]⟩
noncomputable def t6:Fn:=⟨3,3,[
 .told 48 [.v 0,.v 1,.v 2]]⟩
noncomputable def eX:MS:=.ZG 6 7 (.v 3) [.v 4 .a<|.o .a (.S (.v 0) (.v 5)<|.v 6)<|.t (.v 2)<|.v 7,.s 5<|.o .a (.v 6)<|.n<|.t (.t (.v 1)<|.v 7)<|.i 1]
noncomputable def dP:Fn:=⟨3,8,[
 .s 3 (.k<|.D (.p [.t (.t (.v 1)<|.v 0)<|.i 0,.v 0]) (.n<|.v 1) [1]),
 .s 4 (.s []),
 .s 5 (.i 0),
 eX,
 .r (.o .a (.v 4)<|.X (.v 0)<|.v 5)]⟩
noncomputable def YJ:Fn:=⟨1,20,[
 .s 1 (.c 49 [.v 0]),
 .s 2 (.t (.l [.s [97],.s [98],.s [99],.s [100],.s [102,114,101,115,104],.s [65,66,83],.s [73,70],.s [49,97],.s [],.s [120,95]])<|.c 50 [.v 1,.i 10]),
 .s 3 (.c 50 [.v 1,.i 840]),
 .unp [4,5,6] (.c 59 [.v 1]),
 .s 7 (.C (.t (.v 0)<|.i 1) (.v 5) []),
 .unp [8,9,10] (.c 61 [.v 6,.v 7]),
 .i (.a [.q .e (.o .m (.v 3)<|.i 4)<|.i 0,.q .n (.c 62 [.v 4,.i 0,.s [102,114,101,115,104]])<|.p [.s [110,111,116,95,97,95,110,97,109,101],.i 0]]) [.r<|.b false] [],
 .s 11 (.o .m (.v 3)<|.n<|.v 5),
 .s 12 (.t (.t (.v 5)<|.v 11)<|.i 0),
 .s 13 (.c 62 [.v 4,.v 12,.v 2]),
 .s 14 (.t (.v 8)<|.v 11),
 .i (.q .e (.v 14)<|.i<|-1) [.r<|.q .e (.v 13)<|.p [.s [112,114,101,100,101,99,108,97,114,101,100],.v 12]] [],
 .i (.q .e (.t (.v 9)<|.v 14)<|.s [105,109,112,111,114,116]) [.r<|.q .e (.v 13)<|.p [.s [105,109,112,111,114,116],.v 12]] [],
 .i (.q .i (.v 2)<|.p [.s [73,70],.s [49,97],.s [],.s [120,95]]) [.r<|.q .e (.v 13)<|.p [.s [98,97,100,95,110,97,109,101],.v 12]] [],
 .s 15 (.D (.e (.q .e (.t (.v 1)<|.v 0)<|.v 3) (.v 2)<|.t (.v 4)<|.v 0) (.n<|.v 7) [8,2,14,7]),
 .unp [16,9,10] (.c 61 [.v 6,.v 15]),
 .i (.or [.q .n (.v 16)<|.v 8,.q .g (.v 10)<|.i 0]) [.r<|.q .e (.v 13)<|.p [.s [119,111,117,108,100,95,99,108,97,115,104],.v 12]] [],
 .s 17 (.c 63 [.v 4,.v 5,.v 15]),
 .i (.q .n (.v 13)<|.p [.s [],.v 17]) [.r<|.b false] [],
 .i (.q .e (.o .m (.v 3)<|.i 2)<|.i 1) [.r<|.b true] [],
 .s 18 (.F (.v 0) (.n<|.v 5) (.q .l (.t (.t (.v 1)<|.v 0)<|.i 0)<|.v 2) [5,12]),
 .s 19 (.o .a (.v 12)<|.u<|.C (.o .s (.n<|.t (.v 1)<|.v 0)<|.n<|.t (.v 2)<|.v 0) (.v 18) [15,7]),
 .r (.q .e (.c 62 [.v 17,.v 19,.t (.v 7)<|.v 11])<|.p [.s [],.v 4])]⟩
def SC:List<|Nat×Fn:=[
 (1003,gj),
 (0,sU),
 (1,lI),
 (2,nS),
 (3,gF),
 (1000,hH),
 (4,vo),
 (5,wH),
 (6,wM),
 (7,sE),
 (8,wB),
 (9,wj),
 (10,AC),
 (11,zS),
 (12,DI),
 (13,lc),
 (14,J1),
 (15,ky),
 (16,iZ),
 (1001,ir),
 (17,iS),
 (1002,fF),
 (18,kn),
 (19,gm),
 (20,rj),
 (21,fK),
 (22,hZ),
 (23,kp),
 (24,ib),
 (25,d9),
 (26,lj),
 (27,fy),
 (28,eP),
 (29,eN),
 (30,cz),
 (31,ii),
 (32,kI),
 (33,ri),
 (34,jn),
 (35,eE),
 (36,mz),
 (37,fV),
 (38,lu),
 (39,ef),
 (40,ou),
 (41,gk),
 (42,go),
 (43,kD),
 (44,kU),
 (45,ub),
 (46,mQ),
 (47,jy),
 (48,bo),
 (49,fp),
 (50,jQ),
 (51,sv),
 (52,tO),
 (53,vu),
 (54,xJ),
 (55,yC),
 (56,AD),
 (57,gA),
 (58,kq),
 (59,nX),
 (60,nK),
 (61,jK),
 (62,t6),
 (63,dP),
 (64,YJ)]
def FT (k:Nat):Option Fn:=SC.lookup k
end Mine
end
section
open PySem PySem.W
namespace Mine
noncomputable def CB:List<|Nat×Str:=(0,"keywords")::(1,"is_letter")::(2,"is_digit")::(3,"is_hex_digit")::(4,"gap_end")::(5,"remark_end")::(6,"string_end")::[(7,"word_end"),(8,"digits_end"),(9,"number_end"),(10,"sign_end"),(11,"row_stop"),(12,"item_at"),(13,"source_items"),(14,"solid"),(15,"std_functions"),(16,"std_procedures"),(17,"predeclared"),(45,"walked"),(46,"is_new_name"),(47,"targets_of"),(48,"rename"),(49,"_law_stock"),(50,"_law_pick"),(51,"_law_emit"),(52,"_law_mark"),(53,"_law_any"),(54,"_law_fresh"),(55,"_law_value"),(56,"_law_kind"),(57,"_law_declared"),(58,"_law_procedure"),(59,"_law_source"),(60,"_law_seek"),(61,"_law_replay"),(62,"_law_told"),(63,"_law_written"),(64,"law")]
def PN (k:Nat):=(CB.lookup k)
noncomputable def FM:List<|Nat×Str:=[(18,"text"),(19,"is_name"),(20,"fail"),(21,"skip"),(22,"expect"),(23,"name"),(24,"target"),(25,"declare"),(26,"use"),(27,"qualident"),(28,"uses_until"),(29,"statements"),(30,"uses_one"),(31,"module"),(32,"import_one"),(33,"body"),(34,"declarations"),(35,"marked"),(36,"constant"),(37,"type_declaration"),(38,"variables"),(39,"kind_of_type"),(40,"record"),(41,"pointed"),(42,"resolve"),(43,"parameters"),(44,"procedure")]
noncomputable def Qi(k:Nat):=(FM.lookup k)
noncomputable def Fe:List<|Nat×Str:=[(0,"SourceItem"),(1,"Occurrence"),(2,"NameWalk")]
def Qy (k:Nat):=(Fe.lookup k)
noncomputable def Rg:List<|Nat×Str:=[(0,"kind"),(1,"text"),(2,"place"),(3,"name"),(4,"target"),(5,"items"),(6,"at"),(7,"scopes"),(8,"kinds"),(9,"found"),(10,"doubled"),(11,"forwards"),(12,"what")]
noncomputable def yG(k:Nat):=(Rg.lookup k).getD Str.empty
noncomputable def NF:List<|Nat×(Nat×Option Nat):=(0,(4,none))::(1,(5,none))::(2,(6,none))::(3,(7,none))::(4,(10,none))::(5,(11,none))::(6,(12,none))::(7,(13,none))::(8,(14,none))::(9,(15,none))::(10,(16,none))::(11,(17,none))::(12,(18,none))::(13,(19,none))::(14,(20,none))::(15,(22,none))::(16,(23,none))::(17,(26,none))::(18,(27,some 1))::(19,(27,some 2))::(20,(27,some 3))::(21,(27,some 4))::(22,(27,some 5))::(23,(27,some 6))::(24,(27,some 7))::(25,(27,some 8))::(26,(27,some 9))::(27,(27,some 10))::(28,(27,some 11))::(29,(27,some 12))::(30,(27,some 13))::(31,(27,some 14))::(32,(27,some 15))::(33,(27,some 16))::(34,(27,some 17))::(35,(27,some 18))::(36,(27,some 19))::(37,(27,some 20))::[(38,(27,some 21)),(39,(27,some 22)),(40,(27,some 23)),(41,(27,some 24)),(42,(27,some 25)),(43,(27,some 26)),(44,(27,some 27)),(45,(28,none)),(46,(29,none)),(47,(30,none)),(48,(31,none)),(49,(33,none)),(50,(34,none)),(51,(35,none)),(52,(36,none)),(53,(37,none)),(54,(38,none)),(55,(39,none)),(56,(40,none)),(57,(41,none)),(58,(42,none)),(59,(43,none)),(60,(44,none)),(61,(45,none)),(62,(46,none)),(63,(47,none)),(64,(48,none)),(1000,(9,some 0)),(1001,(25,some 0)),(1002,(27,some 0)),(1003,(2,some 0))]
def Rq (k:Nat):=(NF.lookup k).getD (0,none)
noncomputable def Kl:List<|Nat×List Str:=(0,[])::(1,["char"])::(2,["char"])::(3,["char"])::(4,["source","at"])::(5,["source","at","depth","pair"])::(6,["source","at","end"])::(7,["source","at"])::(8,["source","at"])::(9,["source","at","end","begin","behind"])::(10,["source","at"])::(11,["source","at"])::(12,["source","at","words","char","end","text"])::(13,["source","words","found","at","item"])::(14,["items"])::(15,[])::(16,[])::(17,["found","name"])::(18,["self"])::(19,["self"])::(20,["self","place"])::(21,["self","text"])::(22,["self","text"])::(23,["self"])::(24,["self","name","scope"])::(25,["self","item","kind","number"])::(26,["self","item"])::(27,["self"])::(28,["self","stops","depth","item"])::(29,["self","depth","text"])::(30,["self","item"])::(31,["self"])::(32,["self","item"])::(33,["self"])::(34,["self"])::(35,["self","item"])::(36,["self","item"])::(37,["self","item"])::[(38,["self","row","item"]),(39,["self"]),(40,["self"]),(41,["self","item","known"]),(42,["self","known"]),(43,["self","row"]),(44,["self","number","item"]),(45,["items","walk"]),(46,["name","char"]),(47,["walk","pairs"]),(48,["source","place","name","items","walk","target","one","meant","changed","other"]),(49,["script","waiting","cell","rest","turn"]),(50,["pool","ways"]),(51,["state","text"]),(52,["state","name"]),(53,["pool","state","name"]),(54,["pool","taken","first","step","name"]),(55,["pool","state","way"]),(56,["pool","state","deep","way"]),(57,["pool","state","deep","taken","part_of","count","step","name","spot"]),(58,["pool","state","deep","name","start","inner","pars","first","spot"]),(59,["pool","state","taken","way"]),(60,["scopes","name","level"]),(61,["events","words","scopes","meant","kinds","late","twice","event","spot","one","found"]),(62,["source","place","name"]),(63,["source","marks","words","rows","made","at","place","spot"]),(64,["script","pool","name","choice","source","marks","events","words","meant","kinds","twice","spot","place","told","target","changed","other","made","early","later_place"]),(1000,["self","kind","text","place"]),(1001,["self","place","name","target"]),(1002,["self","items"]),(1003,["self","what","at"])]
noncomputable def aT(k:Nat):=(Kl.lookup k).getD []
def TB:ui:=⟨PN,Qy,Qi,yG⟩
noncomputable def FY(i:Nat):Stmt:=PySem.Challenge.pw_pq0764_01.main.body.getD i<|.Pass ⟨0,0,0,0⟩
noncomputable def Kh(s:Stmt)(j:Nat):Stmt:=if h:s.ctorIdx=2 then Stmt.ClassDef.elim (motive_2:=λ_=>Stmt) s h (λ_ _ _ b _ _ _ _ _ _ _=>b.getD j<|.Pass ⟨0,0,0,0⟩)else .Pass ⟨0,0,0,0⟩
def bP (k:Nat):Stmt:=match Rq k with
 |(i,none)=>FY i
 |(i,some j)=>Kh (FY i) j
noncomputable def et(s:Stmt):List Stmt:=if h:s.ctorIdx=0 then Stmt.FunctionDef.elim (motive_2:=λ_=>List Stmt) s h (λ_ _ b _ _ _ _ _ _ _=>b)else []
noncomputable def bf(s:Stmt):Scope:=match s with
 | .FunctionDef _ _ _ _ _ _ a _ _ _=>a
 |_=>default
noncomputable def sy(s:Stmt):Arguments:=match s with
 | .FunctionDef _ a _ _ _ _ _ _ _ _=>a
 |_=>default
noncomputable def wZ(s:Stmt):Str:=match s with
 | .FunctionDef n _ _ _ _ _ _ _ _ _=>n
 |_=>default
def RF (k:Nat):Bool:=match FT k with
 |some f=>IX TB (k==48) 30 ⟨aT k,(bf<|bP k).names⟩ (et<|bP k) f.body
 |none=>false
def e4 {c:Type}{l:List<|Nat×c}:∀{k:Nat}{f:c},l.lookup k=some f->(k,f)∈l:=by
 induction l with
 |nil=>intro _ _ h;exact cE h nt
 |cons p r i=>
  intro k f h;obtain⟨a,b⟩:=p;by_cases e:k=a
  ·subst e;simp only[YL,Zf,Zo]at h;subst h;exact .head _
  ·simp only[YL,Yn.mpr e]at h;exact .tail _<|i h
def Mn:(SC.all λp=>p.1==62||RF p.1)=true:=by decide+kernel
def A9 {k:Nat}{f:Fn}(h:FT k=some f)(a:k≠62):IX TB (k==48) 30 ⟨aT k,(bf<|bP k).names⟩ (et<|bP k) f.body=true:=by have z:=Yh.mp Mn _<|e4 h;simp only[YS,YF]at z;have z:=z.resolve_left a;unfold RF at z;rw[h]at z;exact z
end Mine
end
section
open PySem PySem.W PySem.Calls PyProof.Rows PyProof.Rows.LCg
namespace Mine
theorem mX{S R:Type}{a:S->Option (S⊕R)}:∀{n:Nat}{s:S}{r:R},fP a n s=some r->∀k,fP a (n+k) s=some r
 |0,_,_,h,_=>cE h nt
 |n+1,s,r,h,k=>by
  rw[add_right_comm];refine iM (show oB (a s) _=_ from h) λx b h=>?_;show oB (a s) _=_;refine aa b ?_;clear b;cases x with
  |inl c=>exact mX (n:=n) h k
  |inr r=>exact h
def DV {S R:Type}{a:S->Option (S⊕R)}{n k:Nat}{s:S}{r r':R}(h:fP a n s=some r)(c:fP a k s=some r'):r=r':=by have b:=mX c n;rw[Y3]at b;rw[(mX h k)]at b;exact Zd b
def a4 (a:Lo×Hp->Option ((Lo×Hp)⊕(Fl×Hp)))(s:Lo×Hp):Option<|Fl×Hp:=
 open Classical in if h:∃r n,fP a n s=some r then some h.choose else none
def n7 {a:Lo×Hp->Option ((Lo×Hp)⊕(Fl×Hp))}{s:Lo×Hp}{r:Fl×Hp}(h:a4 a s=some r):∃n,fP a n s=some r:=by
 unfold a4 at h;split at h
 ·rename_i q
  cases h;exact q.choose_spec
 ·exact cE h nt
def y7 {a:Lo×Hp->Option ((Lo×Hp)⊕(Fl×Hp))}{s:Lo×Hp}{r:Fl×Hp}{n:Nat}(h:fP a n s=some r):a4 a s=some r:=by unfold a4;have q:∃r n,fP a n s=some r:=⟨r,n,h⟩;exact aa (dif_pos q)<|Xs q.choose_spec λk b=>Xy some<|DV b h
def EI (k:Nat):Option Fn:=if k=62\/k=64 then none else FT k
def ae (d:Nat):Cl:=Iu a4 EI d
def vi (d:Nat):Cl:=λk v H=>if k=62 then(if v.length=3 then(bV (ae d 48 v H) λr a=>some (.v<|gZ r,a))else none)else ae d k v H
structure Fg(P:bi)(C C1 fI:Addr):Prop where
 tabs:vX TB P
 a:mK P
 x:XK P C C1 fI "FormatError" "what" "at"
 plain:∀k f,FT k=some f->k≠48->k≠63->k≠64->k≠62->∃qual Zs,nY P k (aT k) f.p (bf<|bP k) (et<|bP k) qual Zs
 cell:∀k f,FT k=some f->k=48\/k=63\/k=64->∃qual Zs,nP P k (aT k) f.p (bf<|bP k) (et<|bP k) qual Zs
 told:∃scope body qual Zs vars,sD P "what" "at" "fault" "rename" "FormatError" vars scope body qual Zs
def rN:∀a s r,a4 a s=some r->∃n,fP a n s=some r:=λ_ _ _ h=>n7 h
section
variable{P:bi}{C C1 fI:Addr}(Z:Fg P C C1 fI)
include Z
theorem PD(h:FT 48=some f)(qual)(Zs):no P d (ae d) a4 (Kz P C "what" "at") 48 f (aT 48) (bf<|bP 48) (et<|bP 48) qual Zs:=λA g L a X K=>
 rO Z.tabs X K rN (ra:=true) (λ_=>Ib Z.x a X) 30 _ _ (A9 h<|by decide)
theorem Uw(a:FT 63=some f)(qual)(Zs):no P d (ae d) a4 (Kz P C "what" "at") 63 f (aT 63) (bf<|bP 63) (et<|bP 63) qual Zs:=λA g L b X K=>
 rO Z.tabs X K rN (ra:=false) (λh=>eH h nt) 30 _ _ (A9 a<|by decide)
theorem yn:∀(d:Nat) A a L m,uj P A a L d->jP P (ae d) A a L m:=by
 intro d;induction d with
 |zero=>intro A a L m n k F H B v I N s E h;exact cE h nt
 |succ d y=>
  intro A a L m n k F H B v I N s E h S x p R j t;refine iM (show oB (EI k) _=_ from h) λf c h=>cv h λw u=>cps λG z=>?_;have o:¬(k=62\/k=64):=λq=>by rw[EI,Xr q]at c;exact cE c nt
  rw[EI,Xq o]at c;have c:=c;by_cases i:k=48
  ·subst i
   exact cV (Z.cell 48 f c<|.inl rfl) λb e r=>z<|qO r Z.a y (PD Z c b e) A a L m n w u S x p R j t
  ·by_cases l:k=63
   ·subst l
    exact cV (Z.cell 63 f c<|.inr<|.inl rfl) λb e r=>z<|qO r Z.a y (Uw Z c b e) A a L m n w u S x p R j t
   ·refine cV (Z.plain k f c i l (λq=>o<|.inr q) λq=>o<|.inl q) λb e D=>?_
    have chk:=A9 c λq=>o<|.inl q;rw[show(k==48)=false from Yn.mpr i]at chk;exact z<|wT (XA:=Kz P C "what" "at") D Z.a y (λA g J X K=>rO Z.tabs X K rN (ra:=false) (λh=>eH h nt) 30 _ _ chk) A a L m n w u S x p R j t
theorem Go(c:uj P A a L<|d+2)(B:Below A₀ a [] a)(n:A.frames=some [envL])(j:envL.frame=some L)(l:envL.scope.kind=.function):jP P (vi<|d+1) A a L m:=by
 intro k y H O v U N s Q h S w z R g r;unfold vi at h;by_cases e:k=62
 ·subst e
  rw[Xr rfl]at h;refine cv h λu h=>aE h λM E b h=>iM (show(oB (EI 48) λf=>if y.length=f.p then dw (XU (Iu a4 EI d) a4 (y.map some++List.replicate (f.vars-f.p) none) H f.body)else none)=some (M,E)from b) λf t b=>cv b λG b=>?_;cases h;refine cps λC I=>cV (Z.cell 48 f (t:FT 48=some f)<|.inl rfl) λq i D=>?_;obtain⟨o,p,J,F,x,T⟩:=Z.told;exact I<|CR Z.x T Z.a (G.symm.trans u) D (yn Z d) (PD Z (t:FT 48=some f) q i) c B n j l u b S w g r
 ·rw[Xq e]at h
  refine yn Z (d+1) A a L m ⟨c.base,c.h,?_,?_,c.below⟩ h S w z R g r
  ·have:=c.room;exact aI 0xe11c1685826bc0c9f08e1342c135e06067b tq this
  ·have:=c.units;exact ba 0x1320e0b42c435e063262641c2685886bc0c6067b tq this
end
def vF (d:Nat)(n:List Int):Option<|Fl×Hp:=XU (vi<|d+1) a4 (some (.r 0)::List.replicate 19 none) [.ro n] YJ.body
section
variable{P:bi}{C C1 fI:Addr}(Z:Fg P C C1 fI)
include Z
theorem EA(hd:d<=100)(B:m5 P s.heap)(hR:P.Z.h=s.heap)(t:P.Z.o=s.os)(hg:P.Z.g=s.gens)(hl:s.heap.IsList sc vs)(r:IntsAre vs.toList ns)
  (Q:vF d ns=some (.r<|.b true,H')) (k:∀G,(∀b o,s.heap.get? b=some o->G.heap.get? b=some o)->G.os=s.os->G.gens=s.gens->R (.ok<|.ret<|.bool true) G):
  codeAny (model P.p P.w) callerA (.call (.ref<|P.f 64) ⟨[.ref sc],[]⟩) R s:=by
 have hf:FT 64=some YJ:=rfl;refine cV (Z.cell 64 _ hf<|.inr<|.inr rfl) λq f l=>?_;generalize S:bf (bP 64)=scope at l;refine l.ex _ λU v M kV doc pm an ct oc od osl hK D=>?_;have KI:=B.K;have z:((((aT 64).take YJ.p).zip [Value.ref sc]).map (·.1)).Nodup:=by refine aa (by rw[wo];rfl:(((aT 64).take YJ.p).zip [Value.ref sc]).map (·.1)=(aT 64).take 1) ?_;exact l.j.sublist<|Z2 _ _
 refine codeAny_call_function (fd:=fnX U q v (et<|bP 64) scope [] M kV doc pm an f ct) (by decide) (KI _ _ hK) rfl l.c l.gen rfl (codeRec_of KI l.code) (D s [.ref sc] rfl _ _ _ _ ?_);have X:=l.kind;refine wpAny_newFunctionEnv_cells X (λx g=>?_) λenv' he G x=>?_
 ·have F:x.1∈(aT 64).take YJ.p:=(of_mem_zip g).1
  rcases l.b _ (Z7 F)with h|⟨h1,I⟩
  ·exact .inl h
  ·exact .inr ⟨h1,I _⟩
 ·subst he
  refine⟨B.nolimit.keeps x.toInCall.keep,codeAny_func<|dH x.done λT tk e7 _=>?_⟩;subst e7;refine ag (Cl.news (h₀:=s.heap) (XH _) λn c F=>⟨x.cell n c<|lookup_of_mem_nodup (cellsFrom_names scope.names 0 (s.heap.objs.size+1) [] [] rfl▸l.h) F,x.above n c F⟩) λcells NC J=>?_;generalize hL:s.heap.objs.size=L at *;have H:uj P (callerA.deeper<|envOfC q scope L (P.f 64) f) s.heap L<|d+3:=⟨B,rfl,bB 0x1c2386d0304d785a96b98c98c8e00a5b tq hd,by
    have:2000<cLine:=by decide
    exact aI 0xb20e1b40c435e3691ac632632380896c20007d08867b tq this hd,λ_ k=>k callerA s.heap [] _ (below_caller _) rfl rfl X⟩
  refine XE (λsp1 W=>?_)<|lz scope.names (L+1) [] (λ_ h=>Xv h XZ) .nil;have J:CellsAre (bindC (envOfC q scope L (P.f 64) f).kindOf (((aT 64).take YJ.p).zip [Value.ref sc]) λ_=>none) (cellsFrom (L+1) scope.names []) cells:=J;have A:∀a,L<a->¬own [(sc,sc)] a:=λa ha t=>by
   refine ag t λc N e=>?_;rw[List.mem_singleton.mp N]at e;have:a=sc:=by rcases e with e|e<;> exact e
   rw[this]at ha;exact lt_asymm ha (by refine ag hl λo t _=>?_;exact hL▸YC t:sc<L)
  have m:∀a,pL (envOfC q scope L (P.f 64) f) a->L<a:=λa ⟨x,g⟩=>by
   rcases sp1 _ (cB g)with h|h
   ·exact Xv h XZ
   ·exact h
  have O:∀x∈aT 64,(envOfC q scope L (P.f 64) f).kindOf x=some .local\/((envOfC q scope L (P.f 64) f).kindOf x=some .cell/\∃c,(envOfC q scope L (P.f 64) f).cells.lookup x=some c):=λx g=>by
   rcases l.b x g with h|⟨h1,I⟩
   ·exact .inl h
   ·exact .inr ⟨h1,aa0.mp<|I<|L+1⟩
  have Lg:dk (envOfC q scope L (P.f 64) f) L (bindL (envOfC q scope L (P.f 64) f).kindOf (((aT 64).take YJ.p).zip [Value.ref sc]) λ_=>none) (aT 64) [(sc,sc)] cells<|some (.r 0)::List.replicate 19 none:=⟨λi w r=>by
   have hw:=la (vs:=[V.r 0]) r;have E:i=0:=by have:=(Yo.mp hw).1;simpa using this
   subst E;simp only[getElem?_cons_zero,Zo]at hw;subst hw;have z8:=l.np;have g:(aT 64)[0]?=some ((aT 64)[0]'(XO (by decide) z8)):=XQ _;have F:((aT 64)[0]'(XO (by decide) z8),Value.ref sc)∈((aT 64).take YJ.p).zip [Value.ref sc]:=by
    have:(((aT 64).take YJ.p).zip [Value.ref sc])[0]?=some ((aT 64)[0]'(XO (by decide) z8),Value.ref sc):=by rw[getElem?_zip_eq_some];exact⟨g,rfl⟩
    exact YQ this
   refine⟨_,.ref sc,g,⟨(sc,sc),rfl,rfl⟩,?_⟩;rcases O _ (YQ g)with h|⟨h1,c,N⟩
   ·exact .inl ⟨h,rfl,vf h z F⟩
   ·refine ag (gb J N) λo p g2=>.inr<|.inr ⟨.inl h1,c,o,N,p,A c<|m c ⟨_,N⟩,?_⟩
    exact aa g2<|aa (qk (by rw[h1];simp) z F) rfl,λa ⟨x,g⟩=>by
   exact ag (gb J g) λo p g2=>⟨o,_,p,A a<|m a ⟨x,g⟩,g2⟩⟩
  have chk:=A9 hf (by decide);rw[S]at chk;have Sg:St P s.heap L (bindL (envOfC q scope L (P.f 64) f).kindOf (((aT 64).take YJ.p).zip [Value.ref sc]) λ_=>none) [(sc,sc)] cells [.ro ns] {s with heap:=T,toks:=tk}:=by
   refine⟨(⟨x.toInCall.ns,x.toInCall.keep,aae hL⟩),NC,by refine aa (iE J) ?_;exact List.pairwise_map.mpr W,⟨rfl,λi c o r t=>?_⟩,λi j c d r hj hij=>?_,λb o e=>hR▸e,t.symm,hg.symm⟩
   ·have E:i=0:=by have:=(Yo.mp r).1;simpa using this
    subst E;simp only[getElem?_cons_zero,Zo]at r t;subst r t;exact⟨rfl,vs,hR▸hl,r⟩
   ·have h1:=(Yo.mp r).1
    have I:=(Yo.mp hj).1;simp at h1 I;exact Xv (h1.trans I.symm) hij
  have EXs:∀Y,EX P (vi<|d+1) (callerA.deeper<|envOfC q scope L (P.f 64) f) (envOfC q scope L (P.f 64) f) s.heap L Y ⟨aT 64,scope.names⟩:=λY=>
   ⟨X,rfl,rfl,rfl,B,rfl,by have:=H.units;exact ba 0x990e03261641c3689886bc0c6067b tq this,Go Z (A₀:=callerA) (m:=Y) (envL:=envOfC q scope L (P.f 64) f) ⟨H.base,H.h,by have:=H.room;exact aI 0xe11c2685826bc0c9f08e1b42c135e06067b tq this,by have:=H.units;exact ba 0x1320e1342c435e063262641c3685886bc0c6067b tq this,H.below⟩ (below_caller _) rfl rfl X,Z.a⟩
  refine rO (XA:=Kz P C "what" "at") Z.tabs EXs (⟨rfl,X,l.j,O,λx y c g hy=>BK W (cB g)<|cB hy⟩:gn (envOfC q scope L (P.f 64) f) L ⟨aT 64,scope.names⟩) rN (ra:=false) (λh=>eH h nt) 30 _ _ chk Sg Lg Q ?_;intro u G Y Zr N' S' E' V';subst V';exact k G (λb o e=>S'.F.keep b o e) (S'.env.1.trans t)<|S'.env.2.trans hg
end
end Mine
end
section
open PySem PySem.W
namespace Mine
def Xd (k:Nat)(q:Str)(p code:Value):FuncData:={name:=wZ<|bP k,qualname:=q,params:=sy<|bP k,body:=.stmts<|et<|bP k,scope:=bf<|bP k,globals:=3,closure:=[],defaults:=.none,kwdefaults:=.none,doc:=.none,pyModule:=p,annotations:=none,code:=code,closureTuple:=.none,builtins:=0}
noncomputable def Jz:List<|Nat×Nat:=[(0,53),(1,60),(2,67),(3,74),(4,102),(5,109),(6,116),(7,123),(8,130),(9,137),(10,144),(11,151),(12,158),(13,165),(14,170),(15,177),(16,184),(17,212),(18,233),(19,240),(20,247),(21,254),(22,261),(23,268),(24,275),(25,282),(26,289),(27,296),(28,303),(29,310),(30,317),(31,324),(32,331),(33,338),(34,345),(35,352),(36,359),(37,366),(38,373),(39,380),(40,387),(41,394),(42,401),(43,408),(44,415),(45,429),(46,436),(47,441),(48,446),(49,453),(50,460),(51,467),(52,474),(53,481),(54,488),(55,495),(56,502),(57,509),(58,516),(59,523),(60,530),(61,537),(62,544),(63,549),(64,554),(1000,88),(1001,198),(1002,226),(1003,41)]
def U6:List<|Nat×Nat:=Jz.map λp=>(p.1,p.2-1)
noncomputable def VQ:List<|Nat×Str:=([(0,"keywords"),(1,"is_letter"),(2,"is_digit"),(3,"is_hex_digit"),(4,"gap_end"),(5,"remark_end"),(6,"string_end"),(7,"word_end"),(8,"digits_end"),(9,"number_end"),(10,"sign_end"),(11,"row_stop"),(12,"item_at"),(13,"source_items"),(14,"solid"),(15,"std_functions"),(16,"std_procedures"),(17,"predeclared"),(18,"NameWalk.text"),(19,"NameWalk.is_name"),(20,"NameWalk.fail"),(21,"NameWalk.skip"),(22,"NameWalk.expect"),(23,"NameWalk.name"),(24,"NameWalk.target"),(25,"NameWalk.declare"),(26,"NameWalk.use"),(27,"NameWalk.qualident"),(28,"NameWalk.uses_until"),(29,"NameWalk.statements"),(30,"NameWalk.uses_one"),(31,"NameWalk.module"),(32,"NameWalk.import_one"),(33,"NameWalk.body"),(34,"NameWalk.declarations"),(35,"NameWalk.marked"),(36,"NameWalk.constant"),(37,"NameWalk.type_declaration"),(38,"NameWalk.variables"),(39,"NameWalk.kind_of_type"),(40,"NameWalk.record"),(41,"NameWalk.pointed"),(42,"NameWalk.resolve"),(43,"NameWalk.parameters"),(44,"NameWalk.procedure"),(45,"walked"),(46,"is_new_name"),(47,"targets_of"),(48,"rename"),(49,"_law_stock"),(50,"_law_pick"),(51,"_law_emit"),(52,"_law_mark"),(53,"_law_any"),(54,"_law_fresh"),(55,"_law_value"),(56,"_law_kind"),(57,"_law_declared"),(58,"_law_procedure"),(59,"_law_source"),(60,"_law_seek"),(61,"_law_replay"),(62,"_law_told"),(63,"_law_written"),(64,"law"),(1000,"SourceItem.__init__"),(1001,"Occurrence.__init__"),(1002,"NameWalk.__init__"),(1003,"FormatError.__init__")]:List<|Nat×String).map λp=>(p.1,Str.ofString p.2)
noncomputable abbrev ke(P:Params)(x:Str)(n:Nat)(v:Value):DictEntry:=⟨PyData.keyHash P x,.str x n,v⟩
def Kb (P:Params):Frag:=[
 (1,⟨(.type "dict"),none,(.dict #[ke P "builtins" 162<|.ref 4,ke P "__main__" 163<|.ref 5] 2),#[]⟩),
 (3,⟨(.type "dict"),none,(.dict #[ke P "__name__" 165<|.str "law_pq0764_01" 735,ke P "__doc__" 166 .none,ke P "__package__" 167 .none,ke P "__loader__" 168<|.builtin "__main__.__loader__#opaque",ke P "__spec__" 169 .none,ke P "__annotations__" 170<|.ref 6,ke P "__builtins__" 171<|.ref 4,ke P "__file__" 173<|.str "/claim/cut.py" 172,ke P "__cached__" 174 .none,ke P "YardError" 208<|.ref 24,ke P "FormatError" 235<|.ref 44,ke P "keywords" 243<|.ref 53,ke P "is_letter" 250<|.ref 60,ke P "is_digit" 257<|.ref 67,ke P "is_hex_digit" 264<|.ref 74,ke P "SourceItem" 299<|.ref 91,ke P "gap_end" 307<|.ref 102,ke P "remark_end" 317<|.ref 109,ke P "string_end" 326<|.ref 116,ke P "word_end" 334<|.ref 123,ke P "digits_end" 342<|.ref 130,ke P "number_end" 353<|.ref 137,ke P "sign_end" 361<|.ref 144,ke P "row_stop" 369<|.ref 151,ke P "item_at" 381<|.ref 158,ke P "source_items" 392<|.ref 165,ke P "solid" 398<|.ref 170,ke P "std_functions" 406<|.ref 177,ke P "std_procedures" 412<|.ref 184,ke P "Occurrence" 447<|.ref 201,ke P "predeclared" 455<|.ref 212,ke P "NameWalk" 706<|.ref 418,ke P "walked" 714<|.ref 429,ke P "is_new_name" 722<|.ref 436,ke P "targets_of" 728<|.ref 441,ke P "rename" 734<|.ref 446,ke P "_law_stock" 747<|.ref 453,ke P "_law_pick" 755<|.ref 460,ke P "_law_emit" 763<|.ref 467,ke P "_law_mark" 771<|.ref 474,ke P "_law_any" 780<|.ref 481,ke P "_law_fresh" 791<|.ref 488,ke P "_law_value" 800<|.ref 495,ke P "_law_kind" 810<|.ref 502,ke P "_law_declared" 825<|.ref 509,ke P "_law_procedure" 840<|.ref 516,ke P "_law_source" 850<|.ref 523,ke P "_law_seek" 859<|.ref 530,ke P "_law_replay" 876<|.ref 537,ke P "_law_told" 886<|.ref 544,ke P "_law_written" 892<|.ref 549,ke P "law" 898<|.ref 554] 52),#[]⟩),
 (23,⟨(.type "dict"),none,(.dict #[ke P "__module__" 196<|.str "moduleyard.errors" 187,ke P "__firstlineno__" 200<|.int 2 199,ke P "__static_attributes__" 201<|.ref 22,ke P "__weakref__" 203<|.ref 25,ke P "__doc__" 204 .none] 3),#[]⟩),
 (24,⟨(.type "type"),none,(.cls {name:="YardError",bases:=[(.type "Exception")],mro:=[(.ref 24),(.type "Exception"),(.type "BaseException"),(.type "object")],ns:=23,qualname:="YardError",hasDict:=true,slotNames:=[],subclasses:=[(.ref 44)],abstract:=false,collection:=none,hasDel:=false}),#[(some<|.ref 15),none,(some<|.str "YardError" 189),(some<|.str "YardError" 197),(some<|.builtin "Exception.__new__"),(some<|.bool true)]⟩),
 (43,⟨(.type "dict"),none,(.dict #[ke P "__module__" 216<|.str "moduleyard.errors" 187,ke P "__firstlineno__" 220<|.int 4 219,ke P "__init__" 229<|.ref 41,ke P "__static_attributes__" 232<|.ref 42,ke P "__doc__" 233 .none] 2),#[]⟩),
 (44,⟨(.type "type"),none,(.cls {name:="FormatError",bases:=[(.ref 24)],mro:=[(.ref 44),(.ref 24),(.type "Exception"),(.type "BaseException"),(.type "object")],ns:=43,qualname:="FormatError",hasDict:=true,slotNames:=[],subclasses:=[],abstract:=false,collection:=none,hasDel:=false}),#[(some<|.ref 28),none,(some<|.str "FormatError" 209),(some<|.str "FormatError" 217),(some<|.builtin "Exception.__new__"),(some<|.bool true)]⟩),
 (90,⟨(.type "dict"),none,(.dict #[ke P "__module__" 274<|.str "moduleyard.srcitems" 265,ke P "__firstlineno__" 278<|.int 19 277,ke P "__init__" 288<|.ref 88,ke P "__static_attributes__" 292<|.ref 89,ke P "__dict__" 294<|.ref 92,ke P "__weakref__" 296<|.ref 93,ke P "__doc__" 297 .none] 4),#[]⟩),
 (91,⟨(.type "type"),none,(.cls {name:="SourceItem",bases:=[(.type "object")],mro:=[(.ref 91),(.type "object")],ns:=90,qualname:="SourceItem",hasDict:=true,slotNames:=[],subclasses:=[],abstract:=false,collection:=none,hasDel:=false}),#[none,none,(some<|.str "SourceItem" 267),(some<|.str "SourceItem" 275),(some<|.builtin "object.__new__"),(some<|.bool true)]⟩),
 (200,⟨(.type "dict"),none,(.dict #[ke P "__module__" 422<|.str "moduleyard.rename" 413,ke P "__firstlineno__" 426<|.int 126 425,ke P "__init__" 436<|.ref 198,ke P "__static_attributes__" 440<|.ref 199,ke P "__dict__" 442<|.ref 202,ke P "__weakref__" 444<|.ref 203,ke P "__doc__" 445 .none] 4),#[]⟩),
 (201,⟨(.type "type"),none,(.cls {name:="Occurrence",bases:=[(.type "object")],mro:=[(.ref 201),(.type "object")],ns:=200,qualname:="Occurrence",hasDict:=true,slotNames:=[],subclasses:=[],abstract:=false,collection:=none,hasDel:=false}),#[none,none,(some<|.str "Occurrence" 415),(some<|.str "Occurrence" 423),(some<|.builtin "object.__new__"),(some<|.bool true)]⟩),
 (417,⟨(.type "dict"),none,(.dict #[ke P "__module__" 463<|.str "moduleyard.rename" 413,ke P "__firstlineno__" 467<|.int 139 466,ke P "__init__" 475<|.ref 226,ke P "text" 482<|.ref 233,ke P "is_name" 489<|.ref 240,ke P "fail" 497<|.ref 247,ke P "skip" 505<|.ref 254,ke P "expect" 513<|.ref 261,ke P "name" 520<|.ref 268,ke P "target" 529<|.ref 275,ke P "declare" 539<|.ref 282,ke P "use" 547<|.ref 289,ke P "qualident" 554<|.ref 296,ke P "uses_until" 564<|.ref 303,ke P "statements" 573<|.ref 310,ke P "uses_one" 581<|.ref 317,ke P "module" 588<|.ref 324,ke P "import_one" 596<|.ref 331,ke P "body" 603<|.ref 338,ke P "declarations" 610<|.ref 345,ke P "marked" 618<|.ref 352,ke P "constant" 626<|.ref 359,ke P "type_declaration" 634<|.ref 366,ke P "variables" 643<|.ref 373,ke P "kind_of_type" 650<|.ref 380,ke P "record" 657<|.ref 387,ke P "pointed" 666<|.ref 394,ke P "resolve" 674<|.ref 401,ke P "parameters" 682<|.ref 408,ke P "procedure" 691<|.ref 415,ke P "__static_attributes__" 699<|.ref 416,ke P "__dict__" 701<|.ref 419,ke P "__weakref__" 703<|.ref 420,ke P "__doc__" 704 .none] 4),#[]⟩),
 (418,⟨(.type "type"),none,(.cls {name:="NameWalk",bases:=[(.type "object")],mro:=[(.ref 418),(.type "object")],ns:=417,qualname:="NameWalk",hasDict:=true,slotNames:=[],subclasses:=[],abstract:=false,collection:=none,hasDel:=false}),#[none,none,(some<|.str "NameWalk" 456),(some<|.str "NameWalk" 464),(some<|.builtin "object.__new__"),(some<|.bool true)]⟩)]
def fA (k:Nat):Nat:=(Jz.lookup k).getD 0
noncomputable def cA(k:Nat):Nat:=(U6.lookup k).getD 0
noncomputable def qA(k:Nat):Str:=(VQ.lookup k).getD Str.empty
noncomputable def mA(k:Nat):Value:=bif Nat.ble k 3 then .str "moduleyard.scanner" 236 else bif Nat.ble k 14 then .str "moduleyard.srcitems" 265 else bif Nat.ble k 16 then .str "moduleyard.universe" 399 else bif Nat.ble k 48 then .str "moduleyard.rename" 413 else bif Nat.ble k 64 then .str "law_pq0764_01" 735 else bif Nat.ble k 1000 then .str "moduleyard.srcitems" 265 else bif Nat.ble k 1002 then .str "moduleyard.rename" 413 else .str "moduleyard.errors" 187
def cw (r:Nat×Nat×Nat×Nat×Nat×Bool):Nat×Obj:=match r with
 |(k,t,l,a,z,b)=>(cA k,⟨.type "code",none,.fields #[.str (wZ<|bP k) t,.str (qA k)<|t+1,.str "/claim/cut.py"<|t+2,.int l 0,.int a 0,.int 0 0,.int 0 0,.int 3 0,.ref<|cA k-cond b 5 3,.bool true,.int 181 0,.ref<|cA k-cond b 4 2,.none,cond b (.ref<|cA k-3) .none,cond b (.ref<|cA k-2) .none,.ref<|cA k-1,.int z 0,.int l 0,.str "/claim/cut.py"<|z+1],#[]⟩)
def Kc:Frag:=[(0,238,10,0,241,true),(1,244,12,1,248,true),(2,251,14,1,255,true),(3,258,16,1,262,true),(4,300,25,2,305,true),(5,308,29,2,315,true),(6,318,44,2,324,true),(7,327,51,2,332,true),(8,335,55,2,340,true),(9,343,59,2,351,true),(10,354,76,2,359,true),(11,362,82,2,367,true),(12,370,86,3,379,true),(13,382,109,1,390,true),(14,393,118,1,396,false),(15,401,121,0,404,true),(16,407,123,0,410,true),(17,448,132,0,453,true),(18,476,150,1,480,true),(19,483,155,1,487,true),(20,490,158,1,495,true),(21,498,164,2,503,true),(22,506,170,2,511,true),(23,514,174,1,518,true),(24,521,180,2,527,true),(25,530,186,3,537,true),(26,540,196,2,545,true),(27,548,199,1,552,true),(28,555,204,2,562,true),(29,565,218,1,571,true),(30,574,228,1,579,true),(31,582,236,1,586,true),(32,589,251,1,594,true),(33,597,259,1,601,true),(34,604,266,1,608,true),(35,611,285,1,616,true),(36,619,290,1,624,true),(37,627,297,1,632,true),(38,635,304,1,641,true),(39,644,314,1,648,true),(40,651,329,1,655,true),(41,658,342,1,664,true),(42,667,351,1,672,true),(43,675,356,1,680,true),(44,683,374,1,689,true),(45,707,386,1,712,true),(46,715,390,1,720,true),(47,723,397,1,726,false),(48,729,400,3,732,false),(49,737,425,1,745,true),(50,748,439,2,753,true),(51,756,445,2,761,true),(52,764,448,2,769,true),(53,772,452,2,778,true),(54,781,455,2,789,true),(55,792,463,2,798,true),(56,801,475,3,808,true),(57,811,497,4,823,true),(58,826,524,4,838,true),(59,841,555,1,848,true),(60,851,571,2,857,true),(61,860,576,2,874,true),(62,877,606,3,884,true),(63,887,611,3,890,false),(64,893,619,1,896,false),(1000,279,21,4,286,true),(1001,427,128,4,434,true),(1002,468,141,2,473,true),(1003,221,6,3,227,true)].map cw
def Bn (k:Nat):Obj:=⟨.type "function",none,.func<|Xd k (qA k) (mA k)<|.ref<|cA k,#[]⟩
def K0 (P:Params):Frag:=Kb P++(Kc++Jz.map λp=>(p.2,Bn p.1))
def Vd:List Nat:=[1,3,23,24,43,44,90,91,200,201,417,418]++(U6.map (·.2)++Jz.map (·.2))
end Mine
end
section
open PySem PySem.W PySem.Calls PyProof.Rows
namespace Mine
def GC {b d:Type}{f g:b->Option d}{l:List b}:(∀n∈l,f n=g n)->l.filterMap f=l.filterMap g:=by
 induction l with
 |nil=>intro _;exact rfl
 |cons a r i=>intro h;exact aa Zw<|aa Zw<|aa (h a<|.head _)<|aa (i λn c=>h n<|.tail _ c) rfl
def AG {b:List Str}:∀{a:List Value},a.length=b.length->∀n∈b,((b.zip a).lookup n).isSome=true:=by
 induction b with
 |nil=>intro a h n c;exact Xv c XZ
 |cons x r i=>
  intro a h n c;cases a with
  |nil=>cases h
  |cons u t=>
   simp[YL];by_cases e:n=x
   ·subst e;simp
   ·simp only[Yn.mpr e]
    exact i (by simpa using h) n<|(XD.mp c).resolve_left e
theorem uK:∀{b:List Str}{us:List Value},b.Nodup->us.length=b.length->b.filterMap (λn=>((b.zip us).lookup n).map (n,·))=b.zip us
 | [],us,_,h=>by simp
 |x::r,us,a,h=>by
  cases us with |nil=>cases h|cons u t=>
  rw[Yc]at a;have a:=a;simp only[List.zip_cons_cons,Zw,YL,Zf,Option.map_some];refine Xy _ (XR (GC λn c=>?_)<|uK (us:=t) a.2<|by simpa using h);have:n≠x:=λe=>a.1<|e▸c;simp[Yn.mpr this]
theorem pb(a)(f:b->Sem c):(pure a>>=f)=f a:=rfl
theorem sn:seqItems? Value.none=pure none:=rfl
def fz {c a d:Type}{z:List c}{b:a}{f:c->a->Sem (ForInStep a)}{K:a->Sem d}{r:Sem d}(e:z=[])(h:K b=r):(forIn z b f>>=K)=r:=by subst e;exact h
def xH {f:FuncData}{ps:List Arg}{u:List Value}(d:f.params=⟨[],ps,none,[],[],none,[]⟩)(a:f.defaults=.none)(e:(ps.map (·.arg)).Nodup)(b:u.length=ps.length):
  bindArgs f ⟨u,[]⟩=pure ((ps.map (·.arg)).zip u):=by
 have h1:u.length=(ps.map (·.arg)).length:=b.trans (X6 _).symm;cases f;cases d;cases a;dsimp[bindArgs,pb,sn];refine(Xq λh=>XG (Zn ((Xu _ _).mp h).1) h1).trans<|(Xq λh=>?_).trans<|fz (by rw[List.drop_nil,List.zip_nil_right])<|XR (b:=pure<|List.filterMap (λn=>(((ps.map (·.arg)).zip u).lookup n).map (n,·))<|ps.map (·.arg)++[]) (by kernel_rfl)<|Xy pure<|(Xy _<|Yu _).trans<|uK e h1;refine eH ((Xy (λl=>!List.isEmpty l)<|List.filter_eq_nil_iff.mpr λn c q=>?_).symm.trans h) nt;exact eH ((AG h1 n<|Z7 c).symm.trans<|Xy Option.isSome<|Option.isNone_iff_eq_none.mp q) nt
end Mine
end
section
namespace Mine
@[simp]theorem oM(a)(f:Nat->Option b):nV (.r a) f=f a:=rfl
@[simp]theorem cy(a)(f:Int->Option b):eR (.i a) f=f a:=rfl
@[simp]theorem pF(a)(f:List Nat->Option b):Dn (.s a) f=f a:=rfl
@[simp]theorem Jt(a)(f:List V->Option b):Ec (.t a) f=f a:=rfl
@[simp]theorem RE(a)(f:Bool->Option b):rM (.b a) f=f a:=rfl
@[simp]theorem bc(a)(f:List V->Option b):hL (some<|.l a) f=f a:=rfl
@[simp]theorem rE(c)(a)(f:Nat->List (Nat×V)->Option b):hI (some<|.i c a) f=f c a:=rfl
@[simp]theorem Vg(a)(f:List Int->Option b):hO (some<|.ro a) f=f a:=rfl
@[simp]theorem mH(a)(f:List (List Nat×V)->Option b):hS (some<|.dS a) f=f a:=rfl
@[simp]theorem VC(a)(f:List (Int×V)->Option b):hD (some<|.dI a) f=f a:=rfl
@[simp]theorem IZ(a:b)(H)(f:b->Hp->Option c):bV (some (a,H)) f=f a H:=rfl
@[simp]theorem ci(a:b)(f:b->Option c):oB (some a) f=f a:=rfl
@[simp]theorem R4(f:a->Option b):oB none f=none:=rfl
def NE:a4 step s=match step s with |some (.inl b)=>a4 step b|some (.inr r)=>some r|none=>none:=by
 cases h:step s with
 |none=>
  cases q:a4 step s with
  |none=>rfl
  |some r=>
   refine Xs (n7 q) λn a=>?_;cases n with
   |zero=>simp[xx]at a
   |succ n=>simp[oW,h]at a
 |some x=>cases x with
  |inr r=>exact y7 (n:=1) (by simp[oW,h])
  |inl b=>
   show a4 step s=a4 step b;cases q:a4 step b with
   |some r=>exact Xs (n7 q) λn a=>y7 (n:=n+1) (by simp[oW,h,a])
   |none=>
    cases q':a4 step s with
    |none=>rfl
    |some r=>
     refine Xs (n7 q') λn a=>?_;cases n with
     |zero=>simp[xx]at a
     |succ n=>simp[oW,h]at a;rw[y7 a]at q;exact cE q nt
def aU (h:EI k=some f)(a:v.length=f.p):ae (d+1) k v H=dw (XU (ae d) a4 (v.map some++List.replicate (f.vars-f.p) none) H f.body):=by show oB (EI k) _=_;exact aa h<|Xr a
section
@[simp]theorem lb(v)(H):ry (some v) H=some (v,H):=rfl
@[simp]theorem Ha(v)(H):qc (some (.v v,H))=some (v,H):=rfl
@[simp]theorem oi(v)(l):gv (some v::l) 0=some v:=rfl
@[simp]theorem Bf(x)(l)(i):gv (x::l) (i+1)=gv l i:=rfl
@[simp]theorem Kj(x:Option a):gd true x=x:=rfl
@[simp]theorem Es(i):ai c l (.i i) H=some (.i i,H):=rfl
@[simp]theorem AK(s):ai c l (.s s) H=some (.s s,H):=rfl
@[simp]theorem Sx(b):ai c l (.b b) H=some (.b b,H):=rfl
@[simp]theorem tZ(i):ai c l (.v i) H=ry (gv l i) H:=rfl
def QI (f:Nat)(r:Option<|V×Hp):Option<|V×Hp:=bV r λv H=>nV v λa=>ry (bb H a f) H
@[simp]theorem OF(f a)(H):QI f (some (.r a,H))=ry (bb H a f) H:=rfl
@[simp]theorem Uc(e)(f):ai c l (.f e f) H=QI f (ai c l e H):=rfl
def P1 (c:Cl)(k:Nat)(r:Option<|List V×Hp):Option<|V×Hp:=bV r λv H=>qc<|c k v H
@[simp]theorem CM(k)(v)(H):P1 c k (some (v,H))=qc (c k v H):=rfl
@[simp]theorem JT(k)(a):ai c l (.c k a) H=P1 c k (Zc c l a H):=rfl
def GJ (n:Nat)(r:Option<|V×Hp):Option<|V×Hp:=bV r λv H=>UI v<|some (.r n,H)
@[simp]theorem Np(n)(H):GJ n (some (.n,H))=some (.r n,H):=rfl
def QD (a:Cl)(c:Nat)(r:Option<|List V×Hp):Option<|V×Hp:=bV r λv H=>GJ H.length<|qc<|a (1000+c) (.r H.length::v)<|H++[.i c []]
@[simp]theorem OY(c)(v)(H):QD a c (some (v,H))=GJ H.length (qc<|a (1000+c) (.r H.length::v)<|H++[.i c []]):=rfl
@[simp]theorem Tc(c)(a):ai b l (.w c a) H=QD b c (Zc b l a H):=rfl
def Hx (c:Cl)(k:Nat)(v:V)(r:Option<|List V×Hp):Option<|V×Hp:=bV r λa H=>qc<|c k (v::a) H
@[simp]theorem M0(k)(v)(a)(H):Hx c k v (some (a,H))=qc (c k (v::a) H):=rfl
def PA (c:Cl)(l:Lo)(k:Nat)(b:List ME)(r:Option<|V×Hp):Option<|V×Hp:=bV r λv H=>nV v λa=>gd (Yd H a)<|Hx c k (.r a)<|Zc c l b H
@[simp]theorem OX(k a)(b)(H):PA c l k b (some (.r a,H))=gd (Yd H a) (Hx c k (.r a)<|Zc c l b H):=rfl
@[simp]theorem Sm(k)(o)(a):ai c l (.m k o a) H=PA c l k a (ai c l o H):=rfl
def Hg (op:Op)(x:V)(r:Option<|V×Hp):Option<|V×Hp:=bV r λy H=>ry (fQ op x y) H
@[simp]theorem zY(op)(x y)(H):Hg op x (some (y,H))=ry (fQ op x y) H:=rfl
def PG (c:Cl)(l:Lo)(op:Op)(b:ME)(r:Option<|V×Hp):Option<|V×Hp:=bV r λx H=>Hg op x<|ai c l b H
@[simp]theorem Du(op)(b)(x)(H):PG c l op b (some (x,H))=Hg op x (ai c l b H):=rfl
@[simp]theorem Mq(op)(a b):ai c l (.o op a b) H=PG c l op b (ai c l a H):=rfl
def QZ (r:Option<|V×Hp):Option<|V×Hp:=bV r λv H=>rM v λb=>some (.b<|!b,H)
@[simp]theorem Pc(b)(H):QZ (some (.b b,H))=some (.b<|!b,H):=rfl
@[simp]theorem UJ(a):ai c l (.N a) H=QZ (ai c l a H):=rfl
@[simp]theorem zZ(a):ai c l (.a a) H=Zb c l a H:=rfl
@[simp]theorem Et(a):ai c l (.or a) H=ZS c l a H:=rfl
def Ui (r:Option<|V×Hp):Option<|V×Hp:=bV r λv H=>rM v λb=>some (.b b,H)
@[simp]theorem sw(b)(H):Ui (some (.b b,H))=some (.b b,H):=rfl
@[simp]theorem wv(a):Zb c l [a] H=Ui (ai c l a H):=rfl
def Ro (c:Cl)(l:Lo)(r:List ME)(q:Option<|V×Hp):Option<|V×Hp:=bV q λv H=>rM v λx=>if x then Zb c l r H else some (.b false,H)
@[simp]theorem qu(r)(x)(H):Ro c l r (some (.b x,H))=if x then Zb c l r H else some (.b false,H):=rfl
@[simp]theorem wS(a b)(r):Zb c l (a::b::r) H=Ro c l (b::r) (ai c l a H):=rfl
@[simp]theorem zc(a):ZS c l [a] H=Ui (ai c l a H):=rfl
def Vq (c:Cl)(l:Lo)(r:List ME)(q:Option<|V×Hp):Option<|V×Hp:=bV q λv H=>rM v λx=>if x then some (.b true,H)else ZS c l r H
@[simp]theorem tP(r)(x)(H):Vq c l r (some (.b x,H))=if x then some (.b true,H)else ZS c l r H:=rfl
@[simp]theorem Ac(a b)(r):ZS c l (a::b::r) H=Vq c l (b::r) (ai c l a H):=rfl
@[simp]theorem wU(b)(H):bR (some b) H=some (.b b,H):=rfl
def Gz (op:Cp)(x:V)(r:Option<|V×Hp):Option<|V×Hp:=bV r λy H=>bR (aY H op x y) H
@[simp]theorem mY(op)(x y)(H):Gz op x (some (y,H))=bR (aY H op x y) H:=rfl
def PC (c:Cl)(l:Lo)(op:Cp)(b:ME)(r:Option<|V×Hp):Option<|V×Hp:=bV r λx H=>Gz op x<|ai c l b H
@[simp]theorem pX(op)(b)(x)(H):PC c l op b (some (x,H))=Gz op x (ai c l b H):=rfl
@[simp]theorem AR(op)(a b):ai c l (.q op a b) H=PC c l op b (ai c l a H):=rfl
def QT (c:Cl)(l:Lo)(a b:ME)(r:Option<|V×Hp):Option<|V×Hp:=bV r λv H=>rM v λt=>if t then ai c l a H else ai c l b H
@[simp]theorem OP(a b)(t)(H):QT c l a b (some (.b t,H))=if t then ai c l a H else ai c l b H:=rfl
@[simp]theorem Tx(c a b):ai d l (.e c a b) H=QT d l a b (ai d l c H):=rfl
def G6 (x:V)(r:Option<|V×Hp):Option<|V×Hp:=bV r λy H=>ry (getItem H x y) H
@[simp]theorem Mp(x y)(H):G6 x (some (y,H))=ry (getItem H x y) H:=rfl
def RJ (c:Cl)(l:Lo)(i:ME)(r:Option<|V×Hp):Option<|V×Hp:=bV r λx H=>G6 x<|ai c l i H
@[simp]theorem Pg(i)(x)(H):RJ c l i (some (x,H))=G6 x (ai c l i H):=rfl
@[simp]theorem SJ(a i):ai c l (.t a i) H=RJ c l i (ai c l a H):=rfl
def HC (s i:V)(r:Option<|V×Hp):Option<|V×Hp:=bV r λj H=>ry (slc s i j) H
@[simp]theorem OB(s i j)(H):HC s i (some (j,H))=ry (slc s i j) H:=rfl
def EG (c:Cl)(l:Lo)(h:ME)(s:V)(r:Option<|V×Hp):Option<|V×Hp:=bV r λi H=>HC s i<|ai c l h H
@[simp]theorem Ni(h)(s i)(H):EG c l h s (some (i,H))=HC s i (ai c l h H):=rfl
def Ru (c:Cl)(l:Lo)(a h:ME)(r:Option<|V×Hp):Option<|V×Hp:=bV r λs H=>EG c l h s<|ai c l a H
@[simp]theorem OZ(lo h)(s)(H):Ru c l lo h (some (s,H))=EG c l h s (ai c l lo H):=rfl
@[simp]theorem Q2(a lo h):ai c l (.S a lo h) H=Ru c l lo h (ai c l a H):=rfl
def Fa (s:V)(r:Option<|V×Hp):Option<|V×Hp:=bV r λi H=>ry (O2 s i) H
@[simp]theorem MJ(s i)(H):Fa s (some (i,H))=ry (O2 s i) H:=rfl
def Rn (c:Cl)(l:Lo)(a:ME)(r:Option<|V×Hp):Option<|V×Hp:=bV r λs H=>Fa s<|ai c l a H
@[simp]theorem O3(lo)(s)(H):Rn c l lo (some (s,H))=Fa s (ai c l lo H):=rfl
@[simp]theorem I2(a lo):ai c l (.X a lo) H=Rn c l lo (ai c l a H):=rfl
def Qg (r:Option<|List V×Hp):Option<|V×Hp:=bV r λv H=>some (.t v,H)
@[simp]theorem OU(v)(H):Qg (some (v,H))=some (.t v,H):=rfl
@[simp]theorem S5(e):ai c l (.p e) H=Qg (Zc c l e H):=rfl
def RM (r:Option<|List V×Hp):Option<|V×Hp:=bV r λv H=>some (.r H.length,H++[.l v])
@[simp]theorem CW(v)(H):RM (some (v,H))=some (.r H.length,H++[.l v]):=rfl
@[simp]theorem Jg(e):ai c l (.l e) H=RM (Zc c l e H):=rfl
@[simp]theorem Vr:ai c l .dI H=some (.r H.length,H++[.dI []]):=rfl
def Vf (k:List<|List Nat)(r:Option<|List V×Hp):Option<|V×Hp:=bV r λv H=>TJ k v H
@[simp]theorem RX(k)(v)(H):Vf k (some (v,H))=if v.length=k.length then some (.r H.length,H++[.dS<|k.zip v])else none:=rfl
@[simp]theorem Vm(k)(e):ai c l (.dS k e) H=Vf k (Zc c l e H):=rfl
@[simp]theorem Bx:Zc c l [] H=some ([],H):=rfl
def GV (v:V)(r:Option<|List V×Hp):Option<|List V×Hp:=bV r λa H=>some (v::a,H)
@[simp]theorem tu(v)(a)(H):GV v (some (a,H))=some (v::a,H):=rfl
def PV (c:Cl)(l:Lo)(e:List ME)(r:Option<|V×Hp):Option<|List V×Hp:=bV r λv H=>GV v<|Zc c l e H
@[simp]theorem vt(e)(v)(H):PV c l e (some (v,H))=GV v (Zc c l e H):=rfl
@[simp]theorem yf(e)(a):Zc c l (e::a) H=PV c l a (ai c l e H):=rfl
@[simp]theorem Sz(n)(H):iR (some n) H=some (.i n,H):=rfl
def RK (r:Option<|V×Hp):Option<|V×Hp:=bV r λx H=>iR (ej H x) H
@[simp]theorem ON(x)(H):RK (some (x,H))=iR (ej H x) H:=rfl
@[simp]theorem T7(a):ai c l (.n a) H=RK (ai c l a H):=rfl
def GN (x:V)(r:Option<|V×Hp):Option<|V×Hp:=bV r λy H=>eR x λx=>eR y λy=>some (.i<|if x<y then y else x,H)
@[simp]theorem MI(x y)(H):GN (.i x) (some (.i y,H))=some (.i<|if x<y then y else x,H):=rfl
def Pw (c:Cl)(l:Lo)(b:ME)(r:Option<|V×Hp):Option<|V×Hp:=bV r λx H=>GN x<|ai c l b H
@[simp]theorem OI(b)(x)(H):Pw c l b (some (x,H))=GN x (ai c l b H):=rfl
@[simp]theorem Ug(a b):ai c l (.x a b) H=Pw c l b (ai c l a H):=rfl
def M8 (c:Cl)(a:ZD)(r:List MS)(x:Option<|Fl×Hp):Option<|Fl×Hp:=nx x λl H=>XU c a l H r
@[simp]theorem sB(l)(H)(r):M8 c a r (some (.n l,H))=XU c a l H r:=rfl
@[simp]theorem oO(v)(H)(r):M8 c l r (some (.r v,H))=some (.r v,H):=rfl
@[simp]theorem Az:XU c a l H []=some (.n l,H):=rfl
@[simp]theorem aV(s)(r):XU c a l H (s::r)=M8 c a r (bx c a l H s):=rfl
def RL (l:Lo)(i:Nat)(r:Option<|V×Hp):Option<|Fl×Hp:=bV r λv H=>some (.n<|l.set i<|some v,H)
@[simp]theorem pZ(i)(v)(H):RL l i (some (v,H))=some (.n<|l.set i<|some v,H):=rfl
@[simp]theorem r4(i)(e):bx c a l H (.s i e)=RL l i (ai c l e H):=rfl
def PI (l:Lo)(r:Option<|V×Hp):Option<|Fl×Hp:=bV r λ_ H=>some (.n l,H)
@[simp]theorem OV(v)(H):PI l (some (v,H))=some (.n l,H):=rfl
@[simp]theorem SW(e):bx c a l H (.x e)=PI l (ai c l e H):=rfl
def Re (c:Cl)(a:ZD)(l:Lo)(t f:List MS)(r:Option<|V×Hp):Option<|Fl×Hp:=bV r λv H=>rM v λb=>if b then XU c a l H t else XU c a l H f
@[simp]theorem OW(t f)(b)(H):Re c a l t f (some (.b b,H))=if b then XU c a l H t else XU c a l H f:=rfl
@[simp]theorem li(c)(t f):bx a b l H (.i c t f)=Re a b l t f (ai a l c H):=rfl
def P4 (r:Option<|V×Hp):Option<|Fl×Hp:=bV r λv H=>some (.r v,H)
@[simp]theorem js(v)(H):P4 (some (v,H))=some (.r v,H):=rfl
@[simp]theorem m9(e):bx c a l H (.r e)=P4 (ai c l e H):=rfl
@[simp]theorem yE(H):rz l (some H)=some (.n l,H):=rfl
def HQ (l:Lo)(f:Nat)(v:V)(r:Option<|V×Hp):Option<|Fl×Hp:=bV r λx H=>nV x λa=>rz l<|Bz H a f v
@[simp]theorem Ob(f)(v)(a)(H):HQ l f v (some (.r a,H))=rz l (Bz H a f v):=rfl
def Qt (c:Cl)(l:Lo)(o:ME)(f:Nat)(r:Option<|V×Hp):Option<|Fl×Hp:=bV r λv H=>HQ l f v<|ai c l o H
@[simp]theorem OH(o)(f)(v)(H):Qt c l o f (some (v,H))=HQ l f v (ai c l o H):=rfl
@[simp]theorem Sb(o)(f)(e):bx c a l H (.f o f e)=Qt c l o f (ai c l e H):=rfl
def Ow (l:Lo)(v x:V)(r:Option<|V×Hp):Option<|Fl×Hp:=bV r λy H=>rz l<|setItem H x y v
@[simp]theorem OO(v x y)(H):Ow l v x (some (y,H))=rz l (setItem H x y v):=rfl
def LK (c:Cl)(l:Lo)(i:ME)(v:V)(r:Option<|V×Hp):Option<|Fl×Hp:=bV r λx H=>Ow l v x<|ai c l i H
@[simp]theorem O7(i)(v x)(H):LK c l i v (some (x,H))=Ow l v x (ai c l i H):=rfl
def Vu (c:Cl)(l:Lo)(o i:ME)(r:Option<|V×Hp):Option<|Fl×Hp:=bV r λv H=>LK c l i v<|ai c l o H
@[simp]theorem QK(o i)(v)(H):Vu c l o i (some (v,H))=LK c l i v (ai c l o H):=rfl
@[simp]theorem SR(o i e):bx c a l H (.t o i e)=Vu c l o i (ai c l e H):=rfl
def GW (l:Lo)(a:Nat)(r:Option<|V×Hp):Option<|Fl×Hp:=bV r λv H=>rz l<|bF H a v
@[simp]theorem zX(a)(v)(H):GW l a (some (v,H))=rz l (bF H a v):=rfl
def QB (c:Cl)(l:Lo)(e:ME)(r:Option<|V×Hp):Option<|Fl×Hp:=bV r λx H=>nV x λa=>gd (mB H a)<|GW l a<|ai c l e H
@[simp]theorem C5(e)(a)(H):QB c l e (some (.r a,H))=gd (mB H a) (GW l a<|ai c l e H):=rfl
@[simp]theorem Ou(o e):bx c a l H (.a o e)=QB c l e (ai c l o H):=rfl
def Rk (l:Lo)(r:Option<|V×Hp):Option<|Fl×Hp:=bV r λx H=>nV x λa=>rz l<|y9 H a
@[simp]theorem C3(a)(H):Rk l (some (.r a,H))=rz l (y9 H a):=rfl
@[simp]theorem Mb(o):bx c a l H (.rvs o)=Rk l (ai c l o H):=rfl
@[simp]theorem Pm(i)(z)(H):MF l i (some z) H=some (.n<|l.set i<|some z,H):=rfl
def MQ (l:Lo)(i:Nat)(op:Op)(x:V)(r:Option<|V×Hp):Option<|Fl×Hp:=bV r λy H=>MF l i (d5 op x y) H
@[simp]theorem O4(i)(op)(x y)(H):MQ l i op x (some (y,H))=MF l i (d5 op x y) H:=rfl
def U5 (c:Cl)(l:Lo)(i:Nat)(op:Op)(e:ME)(H:Hp)(r:Option V):Option<|Fl×Hp:=oB r λx=>MQ l i op x<|ai c l e H
@[simp]theorem RU(i)(op)(e)(H)(x):U5 c l i op e H (some x)=MQ l i op x (ai c l e H):=rfl
@[simp]theorem SS(i)(op)(e):bx c a l H (.v i op e)=U5 c l i op e H (gv l i):=rfl
def Ws (l:Lo)(i:List Nat)(v:V):Option Lo:=Ec v λa=>ZI l i a
end
def vm (a:Cl)(c:ME)(b:List MS)(r:Option<|Fl×Hp):Option<|Fl×Hp:=fx r λl H=>bx a a4 l H<|.w c b
@[simp]theorem AN(c)(b)(l)(H):vm a c b (some (.n l,H))=bx a a4 l H (.w c b):=rfl
def JY (a:Cl)(l:Lo)(c:ME)(b:List MS)(r:Option<|V×Hp):Option<|Fl×Hp:=bV r λv H=>rM v λt=>if t then vm a c b (XU a a4 l H b)else some (.n l,H)
@[simp]theorem qb(c)(b)(t)(H):JY a l c b (some (.b t,H))=if t then vm a c b (XU a a4 l H b)else some (.n l,H):=rfl
def aG:bx a a4 l H (.w c b)=JY a l c b (ai a l c H):=by
 refine(xN.trans NE).trans ?_;cases h:ai a l c H with
 |none=>rfl
 |some r=>
  obtain⟨v,d⟩:=r;cases v with
  |b e=>
   cases e with
   |false=>rfl
   |true=>show(match QX (XU a a4 l d b)with |some (.inl s)=>a4 _ s|some (.inr r)=>some r|none=>none)=vm a c b (XU a a4 l d b);rcases XU a a4 l d b with _|⟨_|_|_,_⟩<;>rfl
  |_=>rfl
@[simp]theorem MG(l)(H):dw (some (.n l,H))=some (.v .n,H):=rfl
@[simp]theorem jc(v)(H):dw (some (.r v,H))=some (.v v,H):=rfl
@[simp]theorem TI(H)(a b):aY H .l (.i a) (.i b)=some (decide (a<b)):=rfl
@[simp]theorem UW(H)(a b):aY H .le (.i a) (.i b)=some (decide (a<=b)):=rfl
@[simp]theorem Tj(H)(a b):aY H .g (.i a) (.i b)=some (decide (b<a)):=rfl
@[simp]theorem Un(H)(a b):aY H .ge (.i a) (.i b)=some (decide (b<=a)):=rfl
@[simp]theorem vQ(H)(a b):aY H .le (.s a) (.s b)=some (mJ a b):=rfl
@[simp]theorem SN(H)(a b):aY H .e (.s a) (.s b)=some (decide (a=b)):=rfl
@[simp]theorem Sf(H)(a b):aY H .n (.s a) (.s b)=some (!decide (a=b)):=rfl
@[simp]theorem Sp(H)(a b):aY H .e (.i a) (.i b)=some (decide (a=b)):=rfl
@[simp]theorem Su(H)(a b):aY H .n (.i a) (.i b)=some (!decide (a=b)):=rfl
@[simp]theorem UM(H)(a b):aY H .i a b=fW H a b:=rfl
@[simp]theorem UV(a b):fQ .a (.i a) (.i b)=xI (a+b):=rfl
@[simp]theorem S3(a b):fQ .s (.i a) (.i b)=xI (a-b):=rfl
def wF (b c)(H:Hp):(if b=true then some (V.b c,H)else some (V.b false,H))=some (V.b<|b&&c,H):=by cases b<;>rfl
def AU (b c)(H:Hp):(if b=true then some (V.b true,H)else some (V.b c,H))=some (V.b<|b||c,H):=by cases b<;>rfl
def zn (a b):mJ [a] [b]=decide (a<=b):=by
 simp only[oh,n6];by_cases h:a<b
 ·simp[h,YU h]
 ·by_cases c:b<a
  ·simp[h,c,Nat.not_le_of_lt c]
  ·have:a=b:=Y0 (wx c)<|wx h
   clear h c;subst this;simp
noncomputable def dy(c:Nat):Bool:=(decide (97<=c)&&decide (c<=122))||(decide (65<=c)&&decide (c<=90))
noncomputable def eB(c:Nat):Bool:=decide (48<=c)&&decide (c<=57)
def Gp (c:Nat):Bool:=eB c||(decide (65<=c)&&decide (c<=70))
noncomputable def h1(p:Nat->Bool):List Nat->Bool
 | []=>false
 |c::_=>p c
def f1 (d)(H)(r):ae (d+1) 1 [.s<|r.take 1] H=some (.v<|.b<|h1 dy r,H):=by
 refine aa (aU (f:=lI) rfl rfl) ?_;cases r with
 |nil=>rfl
 |cons c r=>simp only[lI,dy,aV,m9,Et,zc,Ac,zZ,wv,wS,AR,AK,tZ,oi,lb,pX,mY,vQ,zn,wU,sw,qu,tP,wF,AU,js,oO,jc,h1,af,map_nil,take_succ_cons,take_zero,sub_self,replicate_zero,Yu]
def f2 (d)(H)(r):ae (d+1) 2 [.s<|r.take 1] H=some (.v<|.b<|h1 eB r,H):=by
 refine aa (aU (f:=nS) rfl rfl) ?_;cases r with
 |nil=>rfl
 |cons c r=>simp only[nS,eB,aV,m9,Et,zc,Ac,zZ,wv,wS,AR,AK,tZ,oi,lb,pX,mY,vQ,zn,wU,sw,qu,tP,wF,AU,js,oO,jc,h1,af,map_nil,take_succ_cons,take_zero,sub_self,replicate_zero,Yu]
def f3 (d)(H)(r):ae (d+2) 3 [.s<|r.take 1] H=some (.v<|.b<|h1 Gp r,H):=by
 rw[aU (f:=gF) rfl rfl];have q:=f2 d H r;cases r with
 |nil=>simp only[List.take_nil,h1]at q;exact jJ λj=>j _ _ q _ rfl
 |cons c r=>simp only[take_succ_cons,take_zero,h1]at q;simp only[gF,Gp,JT,yf,Bx,vt,tu,CM,q,Ha,aV,m9,Et,zc,Ac,zZ,wv,wS,AR,AK,tZ,oi,lb,pX,mY,vQ,zn,wU,sw,qu,tP,wF,AU,js,oO,jc,h1,af,map_nil,take_succ_cons,take_zero,sub_self,replicate_zero,Yu]
def Wy (d:Cl)(l:Lo)(H:Hp)(c:ME)(b:List MS):Prop:=ft IG d l c H λv a=>I3 v (kwB IG KV d a4 l a (λf a=>match f with | .r v=>bx d a4 l H (.w c b)=some (.r v,a)|_=>True) b λe a=>bx d a4 l H (.w c b)=bx d a4 e a (.w c b))<|bx d a4 l H (.w c b)=some (.n l,a)
def xf (h:Wy a l H c b->bx a a4 l H (.w c b)=r):JY a l c b (ai a l c H)=r:=by
 rw[<- aG];refine h<|aH qJ _ _ _ λv d q=>?_;have e:bx a a4 l H (.w c b)=JY a l c b (some (v,d)):=by rw[aG,q]
 cases v with
 |b t=>cases t with
  |false=>exact e
  |true=>refine ZR qJ uI _ _ _ _ λf d q=>?_;have e:bx a a4 l H (.w c b)=vm a c b (XU a a4 l _ b):=e;rw[q]at e;cases f with |n g=>exact e|r v=>exact e|e=>trivial
 |_=>trivial
def PM (h:bx c a l H s=some (.n l',H'))(k:XU c a l' H' r=R):XU c a l H (s::r)=R:=by show nx _ _=_;rw[h];exact k
def V6 (e:ai a l c H=some (.b true,H1))(h:XU a a4 l H1 b=some (.n f,d))(k:bx a a4 f d (.w c b)=R):bx a a4 l H (.w c b)=R:=by rw[aG,e];show vm _ _ _ _=_;rw[h];exact k
def WW (d k:Nat)(v:List V)(H:Hp)(f:Fn):Prop:=kwB IG KV (ae d) a4 (v.map some++List.replicate (f.vars-f.p) none) H (λr a=>ae (d+1) k v H=Pq r a) f.body λ_ a=>ae (d+1) k v H=some (.v .n,a)
def tm (b:EI k=some f)(c:v.length=f.p)(h:WW d k v H f->ae (d+1) k v H=r):ae (d+1) k v H=r:=h (ZR qJ uI _ _ _ _ λa e q=>by rw[aU b c,q];cases a with |n l=>exact rfl|_=>exact rfl)
def kB (h:H[a]?=some (.l l)):mB H a=true:=by unfold mB;rw[h]
section
variable{H:Hp}{a:Nat}{i:Int}{s:List Nat}{v:V}
def zL (h:H[a]?=some (.l l)):getItem H (.r a) (.i i)=(nW l.length i).bind (l[·]?):=by show oB H[a]? _=_;rw[h];rfl
def LG (h:H[a]?=some (.dI l)):getItem H (.r a) (.i i)=eJ i l:=by show oB H[a]? _=_;rw[h];rfl
def P6 (h:H[a]?=some (.dS l)):getItem H (.r a) (.s s)=qD s l:=by show hS H[a]? _=_;rw[h];rfl
def Mj (h:H[a]?=some (.l l)):setItem H (.r a) (.i i) v=(nW l.length i).map λk=>H.set a<|.l<|l.set k v:=by show oB H[a]? _=_;rw[h];rfl
def Ry (h:H[a]?=some (.dI l)):setItem H (.r a) (.i i) v=if l.length<=1000 then some (H.set a<|.dI<|kM i v l)else none:=by show oB H[a]? _=_;rw[h];rfl
def RC (h:H[a]?=some (.dS l)):setItem H (.r a) (.s s) v=if l.length<=1000 then some (H.set a<|.dS<|wQ s v l)else none:=by show hS H[a]? _=_;rw[h];rfl
end
def nJ {n:Nat}(h:n<=1000000):sm (n:Int)=true:=BX (Za (by decide)<|YG _)<|X2.mpr<|Yz h<|nl rfl
def w8 (n i:Nat):DT n (i:Int)=min i n:=by unfold DT;simp
def j4 (h:sh s=true):s.length<=100000:=e5.mp h
def At (s r:List Nat)(p:Int):Prop:=sh s=true/\∃a,s=a++r/\p=a.length
section
variable{src rest:List Nat}{p:Int}
def At.sh (h:At src rest p):Mine.sh src=true:=h.1
def At.len (h:At src rest p)(H:Hp):ej H (.s src)=some (src.length:Int):=by simp[ej,h.1]
def At.lt {c:Nat}{r:List Nat}(h:At src (c::r) p):p<src.length:=by refine iv h λ_ b e a=>?_;subst e;subst a;refine aa XB<|aa aM ?_;exact(X2).mpr<|aI 0xb42c03013 tq
def At.ge (h:At src [] p):¬p<src.length:=by refine iv h λ_ b e a=>?_;subst e;subst a;simp
def At.move {g r:List Nat}(h:At src (g++r) p):At src r<|p+g.length:=by refine iv h λc a e b=>?_;subst e;subst b;exact⟨c,a++g,by simp,by simp⟩
def At.next {c:Nat}{r:List Nat}(h:At src (c::r) p):At src r<|p+1:=At.move (g:=[c]) h
def At.slc (h:At src rest p)(m:Nat)(f:m<=200000):slc (.s src) (.i p) (.i<|p+(m:Int))=xS (rest.take m):=by
 refine iv h λc a e d=>?_;subst e;subst d;have b:=j4 c;rw[XB]at b;simp only[Mine.slc,pF,cy];refine aa (by rfl:((a.length:Int)+(m:Int))=((a.length+m:Nat):Int))<|aa (nJ<|by exact aI 0x7a120441200c35044206065b tq b)<|aa (nJ<|by exact ba 0x7a1204420648061a8110865b00c35044406065b tq b f)<|aa c ?_;simp only[ZP,if_true,w8];unfold Gg;refine aa XB<|aa (min_eq_left<|Xx _ _) ?_;by_cases h:m<=rest.length
 ·refine aa (min_eq_left<|Z0 ‹_› _)<|aa List.take_append<|aa List.drop_append ?_
  simp[aab]
 ·refine aa (Nat.min_eq_right<|by exact ba 0x1018103241106bb tq h)<|aa (aab<|by rw[XB];exact XH _)<|aa List.drop_append<|aa (aab<|by exact aI 0x8240086bb tq h) ?_
  simp
def At.aa7 (h:At src rest p):Mine.slc (.s src) (.i p) (.i<|p+1)=xS (rest.take 1):=h.slc 1<|nl rfl
def At.ZT (h:At src rest p):Mine.slc (.s src) (.i p) (.i<|p+2)=xS (rest.take 2):=h.slc 2<|nl rfl
def At.abk {g r:List Nat}(h:At src (g++r) p):Mine.slc (.s src) (.i p) (.i<|p+(g.length:Int))=xS g:=by
 have b:g.length<=200000:=by refine iv h λc d e a=>?_;subst e;subst a;have:=j4 c;simp at this;exact ba 0x61a811048030d411101816065b tq this
 refine aa (h.slc g.length b) ?_;simp
def At.item (h:At src (c::r) p)(H:Hp):getItem H (.s src) (.i p)=xS [c]:=by
 refine iv h λf a e d=>?_;subst e;subst d;have b:=j4 f;rw[XB,aM]at b;have h1:nW (a++c::r).length (a.length:Int)=some a.length:=by unfold nW;refine aa (Xr<|nJ<|by exact aI 0x3d09022090061a8221685806065b tq b)<|aa (Xr<|YG _)<|aa (Xr<|by simp) ?_;simp
 simp only[getItem,h1,Zi,YY<|XH _,sub_self,getElem?_cons_zero,Option.map_some,cy,ci,mH]
end
def FX (g:List Nat):∀(b:List Nat) (p:Int),At src (g++b) p->(∀c∈g,c<=32)->h1 (λc=>decide (c<=32)) b=false->
  bx (ae d) a4 [xS src,xI p] H pc=some (.n [xS src,xI<|p+g.length],H):=by
 induction g with
 |nil=>
  intro b p a f h;refine aa aG ?_;cases b with
  |nil=>exact XR (xf λj=>j _ (a.len _) _<|fv rfl a.ge) (by simp)
  |cons c r=>
   have e:¬((c:Int)<=32):=by simp only[h1,ab7]at h;exact mt (Ys (n:=32)).mp h
   exact XR (xf λj=>j _ (a.len _) _ (kr rfl a.lt) _ (a.item _) _ rfl _ (fv rfl e)) (by simp)
 |cons c g i=>
  intro b p a f h;have i:=i b (p+1) a.next (λx k=>f x<|.tail _ k) h;have e:(c:Int)<=32:=by have:=f c<|.head _;exact(Ys (n:=32)).mpr this
  have a:At src (c::(g++b)) p:=a;exact XR (aG.trans<|xf λj=>(j _ (a.len _) _ (kr rfl a.lt) _ (a.item _) _ rfl _ (kr rfl e) _ rfl).trans i) (by simp;exact(Zg ..).trans<|Xy _<|Int.add_comm ..)
def f4 {d:Nat}{H:Hp}{s g b:List Nat}{p:Int}(a:At s (g++b) p)(h:∀c∈g,c<=32)(e:h1 (λc=>decide (c<=32)) b=false):
  ae (d+1) 4 [.s s,.i p] H=some (.v<|.i<|p+g.length,H):=by
 exact tm (f:=vo) rfl rfl λj=>j _ _<|FX g b p a h e
def CZ (g):∀(b:List Nat) (p:Int),At src (g++b) p->(∀c∈g,(dy c||eB c)=true)->h1 (λc=>dy c||eB c) b=false->
  bx (ae<|d+1) a4 [xS src,xI p] H mG=some (.n [xS src,xI<|p+g.length],H):=by
 induction g with
 |nil=>
  intro b p a f h;have o:h1 dy b=false:=by cases b with |nil=>rfl|cons c r=>simp[h1]at h;exact h.1
  have s:h1 eB b=false:=by cases b with |nil=>rfl|cons c r=>simp[h1]at h;exact h.2
  have l:At src b p:=a;exact XR (aG.trans<|xf λj=>j _ rfl _ l.aa7 (.b false) _ ((f1 _ _ b).trans<|by rw[o]) _ rfl _ l.aa7 (.b false) _ ((f2 _ _ b).trans<|by rw[s])) (by simp)
 |cons c g i=>
  intro b p a f h;have i:=i b (p+1) a.next (λx n=>f x<|.tail _ n) h;have q:=f1 d H<|c::(g++b);have m:=f2 d H<|c::(g++b);simp[h1]at q m;have k:=a.aa7;have e:some (Fl.n [xS src,xI<|p+1+g.length],H)=some (.n [xS src,xI<|p+(c::g).length],H):=by simp;exact(Zg ..).trans<|Xy _<|Int.add_comm ..
  cases hl:dy c with
  |true=>exact XR (aG.trans<|xf λj=>(j _ rfl _ k (.b true) _ (q.trans<|by rw[hl]) _ rfl).trans i) e
  |false=>exact XR (aG.trans<|xf λj=>(j _ rfl _ k (.b false) _ (q.trans<|by rw[hl]) _ rfl _ k (.b true) _ (m.trans<|by rw[(by simpa [hl]using(f c<|.head _):eB c=true)]) _ rfl).trans i) e
def f7 (a:At src (g++post) p)(h:∀c∈g,(dy c||eB c)=true)(b:h1 (λc=>dy c||eB c) post=false):
  ae (d+2) 7 [.s src,.i p] H=some (.v<|.i<|p+g.length,H):=by
 exact tm (f:=sE) rfl rfl λj=>j _ _<|CZ g post p a h b
def f8 (a:At src (49::r) p)(h:h1 eB r=false):ae (d+2) 8 [.s src,.i p] H=some (.v<|.i<|p+1,H):=by have b:=a.aa7;exact jJ λj=>j _ _ (aG.trans (xf λj=>(j _ rfl _ b _ _ (f2 d H<|49::r) _ rfl).trans<|aG.trans<|xf λj=>j _ rfl _ a.next.aa7 (.b false) _ ((f2 d H r).trans<|by rw[h])):bx (ae<|d+1) a4 [xS src,xI p] H kw=some (.n [xS src,xI<|p+1],H))
def f9 (a:At src (49::c::r) p)(b:c=32\/c=58):ae (d+3) 9 [.s src,.i p] H=some (.v<|.i<|p+1,H):=by
 have q:=f3 d H<|49::c::r;have g:=f3 d H<|c::r;have f:=a.aa7;have h:=a.next.aa7;simp[h1]at f h q g;have i:Gp c=false:=by rcases b with rfl|rfl<;>decide
 have k:h1 eB (c::r)=false:=by rcases b with rfl|rfl<;>(simp only[h1];decide)
 have l:=f8 (d:=d) (H:=H) a k;have n1:c≠72/\c≠88/\c≠46:=by rcases b with rfl|rfl<;>decide
 have w:bx (ae<|d+2) a4 [xS src,xI p,xI p,none,none] H kl=some (.n [xS src,xI p,xI<|p+1,none,none],H):=aG.trans<|xf λj=>(j _ rfl _ f _ _ q _ rfl).trans<|aG.trans<|xf λj=>j _ rfl _ h (.b false) _ (g.trans<|by rw[i]);exact jJ λj=>j _ _ w _ rfl _ h false (by simp[fW,Kk,Cd,n1]) _ _ l _ rfl _ h _ (Jc rfl λe=>n1.2.2 (Z1 e).1)
def da (s:List Nat)(l:List<|List Nat):sZ s (l.map V.s)=some (l.contains s):=by
 induction l with
 |nil=>exact rfl
 |cons t r i=>simp only[af,Cd,i,Option.map_some,pF];congr 1;by_cases h:s=t<;> simp
noncomputable def Ek:List<|List Nat:=[[65,82,82,65,89],[66,69,71,73,78],[66,89],[67,65,83,69],[67,79,78,83,84],[68,73,86],[68,79],[69,76,83,69],[69,76,83,73,70],[69,78,68],[70,79,82],[73,70],[73,77,80,79,82,84],[73,78],[73,83],[77,79,68],[77,79,68,85,76,69],[78,73,76],[79,70],[79,82],[80,79,73,78,84,69,82],[80,82,79,67,69,68,85,82,69],[82,69,67,79,82,68],[82,69,80,69,65,84],[82,69,84,85,82,78],[84,72,69,78],[84,79],[84,89,80,69],[85,78,84,73,76],[86,65,82],[87,72,73,76,69]]
def OJ:V:=.t<|Ek.map V.s
def f0:ae (d+1) 0 [] H=some (.v OJ,H):=by exact tm (f:=sU) rfl rfl λj=>j
def be (H:Hp)(o:AO):(H++[o])[H.length]?=some o:=by simp
def yQ (H:Hp)(o a:AO):(H++[o]).set H.length a=H++[a]:=by simp
def G7 (h:H[a]?=some (.i c b))(o:Dm c f=true):Bz H a f v=some (H.set a<|.i c<|o0 f v b):=by unfold Bz;rw[h];exact Xr o
def jd (h:Dm c f=true):Bz (H++[.i c a]) H.length f v=some (H++[.i c<|o0 f v a]):=by simp[Bz,h]
noncomputable def vN(k t:List Nat)(p:Int):AO:=.i 0 [(0,.s k),(1,.s t),(2,.i p)]
def s8:ae (d+1) 1000 [.r H.length,.s k,.s t,.i p] (H++[.i 0 []])=some (.v .n,H++[vN k t p]):=by exact tm (f:=hH) rfl rfl λj=>j _ (jd (H:=H) (c:=0) (f:=0) rfl) _ (jd (H:=H) (c:=0) (f:=1) rfl) _<|jd (H:=H) (c:=0) (f:=2) rfl
noncomputable def zw:List<|List Nat:=[[58,61],[60,61],[62,61],[46,46]]
noncomputable def O5:List Nat:=[43,45,42,47,126,38,46,44,59,124,40,91,123,94,61,35,60,62,58,41,93,125]
def S7 (a:At src (58::61::r) p):ae (d+1) 10 [.s src,.i p] H=some (.v<|.i<|p+2,H):=by exact jJ λj=>j _ rfl _ a.ZT _ rfl _ rfl
def Tq {d:Nat}{H:Hp}{s r:List Nat}{p:Int}{c:Nat}(a:At s (c::r) p)(h:zw.contains (c::r.take 1)=false)(b:O5.contains c=true):ae (d+1) 10 [.s s,.i p] H=some (.v<|.i<|p+1,H):=by
 have e:fW H (.s<|c::r.take 1) (.t [.s [58,61],.s [60,61],.s [62,61],.s [46,46]])=some false:=by have:=da (c::r.take 1) zw;rw[h]at this;exact this
 exact jJ λj=>j _ rfl _ a.ZT _ e _ ((At.item a) _) _ (Xy some b:fW H (.s [c]) (.s [43,45,42,47,126,38,46,44,59,124,40,91,123,94,61,35,60,62,58,41,93,125])=some true) _ rfl
def f5 (a:At src (40::42::32::100::32::42::41::r) p):ae (d+1) 5 [.s src,.i p] H=some (.v<|.i<|p+7,H):=by have b:=a.next.next;rw[(Zg ..)]at b;have c:=b.next;have h:=a.len (H:=H);have e:=c.next;have f:=e.next;exact jJ λj=>j _ _ (aG.trans (xf λj=>(j _ h _ (kr rfl a.lt) _ rfl _ a.ZT _ rfl _ rfl _ rfl).trans<|aG.trans<|xf λj=>(j _ h _ (kr rfl b.lt) _ rfl _ b.ZT _ rfl _ rfl _ rfl).trans<|aG.trans<|xf λj=>(j _ h _ (kr rfl c.lt) _ rfl _ c.ZT _ rfl _ rfl _ rfl).trans<|aG.trans<|xf λj=>(j _ h _ (kr rfl e.lt) _ rfl _ e.ZT _ rfl _ rfl _ rfl).trans<|aG.trans<|xf λj=>(j _ h _ (kr rfl f.lt) _ rfl _ f.ZT _ rfl _ rfl _ rfl _ rfl _ rfl).trans<|by rw[(by simp only[Zg];rfl:p+2+1+1+1+2=p+7)]):bx (ae d) a4 [xS src,xI p,xI 0,none] H ko=some (.r<|.i<|p+7,H))
noncomputable def eI:List Nat:=[103,97,112]
noncomputable def nQ:List Nat:=[114,101,109,97,114,107]
noncomputable def ac:List Nat:=[119,111,114,100]
noncomputable def Xw:List Nat:=[110,97,109,101]
noncomputable def pj:List Nat:=[110,117,109,98,101,114]
noncomputable def ak:List Nat:=[115,105,103,110]
noncomputable def uv:List Nat:=[40,42,32,100,32,42,41]
def xT (c:Nat):Bool:=dy c||eB c
inductive i9:List Nat->List Nat->List Nat->Prop
 |gap {c:Nat}{t post:List Nat}:(∀x∈c::t,x<=32)->h1 (λc=>decide (c<=32)) post=false->i9 (c::t) post eI
 |rem {post:List Nat}:i9 uv post nQ
 |word {c:Nat}{t post:List Nat}:dy c=true->(∀x∈c::t,xT x=true)->h1 xT post=false->i9 (c::t) post (if Ek.contains (c::t)then ac else Xw)
 |num {c:Nat}{post:List Nat}:c=32\/c=58->i9 [49] (c::post) pj
 |abu {post:List Nat}:i9 [58,61] post ak
 |aaw {c:Nat}{post:List Nat}:O5.contains c=true->zw.contains (c::post.take 1)=false->(c::post.take 1)≠[40,42]->i9 [c] post ak
def E5:∀c∈O5,dy c=false/\eB c=false/\¬(c<=32)/\c≠34:=by decide
def Aa (h:xT c=true):c<128:=by have q:∀{a b:Nat},(decide (a<=c)&&decide (c<=b))=true->Nat.ble b 127=true->c<128:=λh e=>ZE<|Xz (Zn ((Xu _ _).mp h).2)<|nl e;exact((YS _ _).mp h).elim (λh=>((YS _ _).mp h).elim (λh=>q h rfl) λh=>q h rfl) λh=>q h rfl
def Dz (h:dy c=true):¬(c<=32)/\c≠40/\eB c=false/\c≠34:=
 (by decide+kernel:∀c,c<128->dy c=true->¬(c<=32)/\c≠40/\eB c=false/\c≠34) c (Aa<|(YS _ _).mpr<|.inl h) h
def Dg (d)(H)(c):ae (d+1) 1 [.s [c]] H=some (.v<|.b<|dy c,H):=f1 d H [c]
def Po (d)(H)(c):ae (d+1) 2 [.s [c]] H=some (.v<|.b<|eB c,H):=f2 d H [c]
def We (a:At src (t++b) p)(O:i9 t b k):ae (d+4) 12 [.s src,.i p,OJ] H=some (.v<|.r H.length,H++[vN k t p]):=by
 cases O with
 | @gap c t b D B=>
  have C:=f4 (d:=d+2) (H:=H) a D B;have m:(c:Int)<=32:=by have:=D c<|.head _;exact(Ys (n:=32)).mpr this
  have f:=At.abk a;generalize(((c::t).length:Nat):Int)=n at C f;have o:=At.item (c:=c) (r:=t++b) a;exact jJ λj=>j _ (o _) _ rfl _ (kr rfl m) _ _ C _ f _ _ s8
 | @rem b=>
  have v:¬(p+7<0):=by refine iv a λ_ R _ L=>?_;subst L;exact Y9.mpr (Int.add_nonneg (YG _)<|by decide)
  exact jJ λj=>j _ ((At.item (c:=40) (r:=[42,32,100,32,42,41]++b) a) _) _ rfl _ rfl _ rfl _ a.ZT _ rfl _ _ (f5 (d:=d+2) (H:=H) a) _ (fv rfl v) _ ((At.abk a):slc (.s src) (.i p) (.i<|p+7)=xS uv) _ _ s8
 | @word c t b z Q B=>
  refine tM (Dz z) λn1 w F G=>?_;have o:=At.item (c:=c) (r:=t++b) a;have m:¬((c:Int)<=32):=mt (Ys (n:=32)).mp n1;have y:=f7 (d:=d+1) (H:=H) a Q B;have i:=a.ZT;have f:=At.abk a;generalize(((c::t).length:Nat):Int)=n at y f;have g:fW H (.s<|c::t) OJ=some (Ek.contains<|c::t):=da _ _;by_cases l:Ek.contains (c::t)=true
  ·rw[l]at g
   have g:=g;exact aa (Xr l)<|jJ λj=>j _ (o _) _ rfl _ (fv rfl m) _ rfl _ i _ (fv rfl λe=>w (Z1 e).1) (.b true) _ ((Dg _ _ c).trans<|by rw[z]) _ _ y _ f _ g _ _ s8
  ·have u:Ek.contains (c::t)=false:=by simpa using l
   rw[u]at g;exact aa (Xq l)<|jJ λj=>j _ (o _) _ rfl _ (fv rfl m) _ rfl _ i _ (fv rfl λe=>w (Z1 e).1) (.b true) _ ((Dg _ _ c).trans<|by rw[z]) _ _ y _ f _ g _ _ s8
 | @num c b m=>have M:=f9 (d:=d) (H:=H) a m;have f:=At.abk a;have r:slc (.s src) (.i p) (.i<|p+1)=xS [49]:=f;have I:dy 49=false:=rfl;have J:eB 49=true:=rfl;exact jJ λj=>j _ ((At.item (c:=49) (r:=c::b) a) _) _ rfl _ rfl _ rfl _ a.ZT _ rfl _ _ (Dg _ _ _) _ _ (Po _ _ _) _ _ M _ r _ _ s8
 | @abu b=>have q:=S7 (d:=d+2) (H:=H) a;have f:=At.abk a;have i:=a.ZT;have i:=i;have N:slc (.s src) (.i p) (.i<|p+2)=xS [58,61]:=f;have I:dy 58=false:=rfl;have J:eB 58=false:=rfl;have s:p<p+2:=Int.lt_add_of_pos_right _ (by decide);have o:=At.item (c:=58) (r:=61::b) a;exact jJ λj=>j _ (o _) _ rfl _ rfl _ rfl _ i _ rfl _ _ (Dg _ _ _) _ _ (Dg _ _ _) _ rfl _ _ q _ (kr rfl s) _ i _ _ s8
 | @aaw c b E x A=>refine tM (E5 c<|aac.mp E) λn1 w F G=>?_;have o:=At.item (c:=c) (r:=b) a;have i:=a.ZT;have q:=Tq (d:=d+2) (H:=H) a x E;have f:=At.abk a;have r:slc (.s src) (.i p) (.i<|p+1)=xS [c]:=f;have m:¬((c:Int)<=32):=mt (Ys (n:=32)).mp F;have s:p<p+1:=Int.le_refl _;have P:¬(c=40/\List.take 1 b=[42]):=λh=>A<|aa h.1<|aa h.2 rfl;exact jJ λj=>j _ (o _) _ rfl _ (fv rfl m) _ rfl _ i _ (fv rfl λe=>P ⟨(Z1 e).1,(Z1 e).2⟩) (.b false) _ ((Dg _ _ c).trans<|by rw[n1]) (.b false) _ ((Po _ _ c).trans<|by rw[w]) _ (fv rfl λe=>G (Z1 e).1) _ _ q _ (kr rfl s) _ r _ _ s8
def BS (base)(k)(r):mB (base++.l k::r) base.length=true:=by simp[mB]
def yF (h:k.length<=1000000):bF (base++.l k::r) base.length v=some (base++.l (k++[v])::r):=by simp[bF,h]
noncomputable def AF(x:List<|List Nat×List Nat):List Nat:=(x.map (·.2)).flatten
@[simp]theorem SF:AF []=[]:=rfl
@[simp]theorem xy(x:List Nat×List Nat)(xs:List<|List Nat×List Nat):AF (x::xs)=x.2++AF xs:=rfl
inductive kK:List (List Nat×List Nat)->Prop
 |nil:kK []
 |cons {k t:List Nat}{xs:List<|List Nat×List Nat}:i9 t (AF xs) k->kK xs->kK ((k,t)::xs)
noncomputable def kh:List (List Nat×List Nat)->Int->List AO
 | [],_=>[]
 |(k,t)::x,p=>vN k t p::kh x (p+t.length)
theorem tQ{z}:kh [] z=[]:=rfl
theorem su{z k t x}:kh ((k,t)::x) z=vN k t z::kh x (z+↑t.length):=rfl
noncomputable def cO(a:Nat):Nat->List V
 |0=>[]
 |m+1=>cO a m++[.r<|a+m]
theorem ET{a}:cO a 0=[]:=rfl
theorem sa{a m}:cO a m.succ=cO a m++[V.r<|a+m]:=rfl
@[simp]theorem DL(a m):(cO a m).length=m:=by induction m<;> simp_all[ET,sa]
def i9.ne (h:i9 t post k):t≠[]:=by cases h<;> simp[uv]
def zu (b:List<|List Nat×List Nat):∀(i:List AO) (p:Int) (o:Option V),At src (AF b) p->kK b->i.length+b.length<=900000->
  ∀{Cx:Prop},(∀x y,bx (ae<|d+4) a4 [xS src,some OJ,xR base.length,xI p,o] (base++.l (cO (base.length+1) i.length)::i) ik=
   some (.n [xS src,some OJ,xR base.length,x,y],base++.l (cO (base.length+1)<|i.length+b.length)::(i++kh b p))->Cx)->Cx:=by
 induction b with
 |nil=>intro i p o a _ _ Cx n;refine n (xI p) o<|aa aG ?_;have l:=At.ge a;exact XR (xf λB=>B _ ((At.len a) _) _<|fv rfl l) (by simp[tQ])
 |cons s b e=>
  intro i p o a z f Cx n;obtain⟨k,t⟩:=s;cases z with
  |cons h1 w=>
   rw[xy]at a;have a:=a;obtain⟨c,r,g⟩:∃c r,t++AF b=c::r:=by
    cases q:t++AF b with
    |nil=>exact Xv q (by simp[i9.ne h1]:t++AF b≠[])
    |cons c r=>exact⟨c,r,rfl⟩
   have u:Mine.sh t=true:=by refine iv a λA C v _=>?_;subst v;have:=j4 A;simp at this;exact e5.mpr<|ba 0x30d411048030d411101816065b tq this
   refine e (i++[vN k t p]) (p+t.length) (xR<|base.length+1+i.length) (At.move a) w (by simp at f⊢;exact aI 0x36ee82210b40d6018c9036ee8221685806065b tq f:(i++[vN k t p]).length+b.length<=900000) λx y e=>n x y<|aa aG ?_;have q:=We (d:=d) (H:=base++.l (cO (base.length+1) i.length)::i) a h1;rw[(by simp;exact Gd:(base++.l (cO (base.length+1) i.length)::i).length=base.length+1+i.length)]at q;have h:=yF (base:=base) (k:=cO (base.length+1) i.length) (r:=i++[vN k t p]) (v:=.r<|base.length+1+i.length) (by simp;exact aI 0x3d0902209036ee8221685806065b tq f);have m:cO (base.length+1) i.length++[V.r<|base.length+1+i.length]=cO (base.length+1) (i.length+1):=rfl;rw[m]at h;simp at e;have j:bb (base++.l (cO (base.length+1)<|i.length+1)::(i++[vN k t p])) (base.length+1+i.length) 1=xS t:=by
    unfold bb;have:(base++.l (cO (base.length+1)<|i.length+1)::(i++[vN k t p]))[base.length+1+i.length]?=some (vN k t p):=by refine aa (YY<|by exact aI 0x85a063012 tq) ?_;refine aa (by rw[X7,add_sub_cancel_left,Y3]:base.length+1+i.length-base.length=i.length+1) ?_;simp
    refine aa this ?_;rfl
   simp[At.len a,(At.lt (c:=c) (r:=r) (g▸a):p<src.length),q,BS,h,j,(λH=>by simp only[ej,u,if_true,ci]:∀H,ej H (.s t)=some (t.length:Int))];refine aa e ?_;simp[tQ,su,X7,Y3 1]
def hY (b:o H=true):(∀v∈a,f v H=some (q v,H))->cL f o a H=some (a.filterMap q,H):=by
 induction a with
 |nil=>intro _;refine aa De<|aa b ?_;rfl
 |cons v a i=>intro h;simp only[Dv,b,h v<|.head _,Zw];show(match q v with |some x=>bV (cL f o a H) λe c=>some (x::e,c)|none=>cL f o a H)=_;refine aa (i λw d=>h w<|.tail _ d) ?_;cases q v<;>rfl
def fw (h:H[a]?=some (.l v)):ju (some a) v H=true:=by simp[ju,a3,h,ZH]
def nv (h:H[a]?=some (.l v))(b:v.length<=1000000):rc H (.r a)=some (v,some a):=by simp[rc,h,b]
section
variable{cl:Cl}{l:Lo}{H:Hp}
def kW (h:r=some a):oB r f=f a:=by refine aa h ?_;rfl
def Qj (h:o=some (.l k)):hL o f=f k:=by rw[h];rfl
def Ly (h:o=some (.dI k)):hD o f=f k:=by rw[h];rfl
section
variable{H:Hp}{a b:Nat}{s:List Nat}
def mm {l:List<|List Nat×V}(h:H[a]?=some (.dS l)):fW H (.s s) (.r a)=some (qD s l).isSome:=kW h
def J6 {i:Int}{l:List<|Int×V}(h:H[a]?=some (.dI l)):fW H (.i i) (.r a)=some (eJ i l).isSome:=Ly h
def L6 {l:List V}(h:H[a]?=some (.l l))(p:(X9 3 l&&bw 3 (.s s))=true):fW H (.s s) (.r a)=sZ s l:=(kW h).trans<|Xr p
def PH {l k:List V}(h:H[a]?=some (.l l))(g:H[b]?=some (.l k))(p:(X9 3 l&&X9 3 k)=true):Ed H (.r a) (.r b)=Z4 l k:=(kW h).trans<|(Qj g).trans<|Xr p
def Qx {l k:List<|Int×V}(h:H[a]?=some (.dI l))(g:H[b]?=some (.dI k))(p:l.length=k.length):Ed H (.r a) (.r b)=vD l k:=(kW h).trans<|(Ly g).trans<|Xr p
def KB {l k:List V}(p:(X9 3 l&&X9 3 k)=true):Ed H (.t l) (.t k)=Z4 l k:=Xr p
end
def D3 (q)(i:ai cl l src H=some (.r a,H))(h:H[a]?=some (.l vs))(f:vs.length<=1000000)
  (g:∀v∈vs,(bV (ai cl (some v::cW l caps) c H) λw e=>rM w λb=>if b then bV (ai cl (some v::cW l caps) elt e) λx d=>some (some x,d)else some (none,e))=some (q v,H)):
  ai cl l (.E elt src c caps) H=some (.r H.length,H++[.l<|vs.filterMap q]):=
 (bI i).trans ((kW<|nv h f).trans<|(bI<|hY (fw h) g).trans<|Xr<|Xz (List.length_filterMap_le _ _) f)
def Bp (a:List V):a.filterMap (λv=>some<|q v)=a.map q:=by simp
def ph (q:V->V)(d:ai cl l src H=some (.r a,H))(h:H[a]?=some (.l vs))(b:vs.length<=1000000)
  (c:∀v∈vs,ai cl (some v::cW l caps) elt H=some (q v,H)):
  ai cl l (.C elt src caps) H=some (.r H.length,H++[.l<|vs.map q]):=
 (bI d).trans ((kW<|nv h b).trans<|(bI<|hY (q:=λv=>some<|q v) (fw h) λv e=>bI<|c v e).trans<|by rw[Bp];exact Xr<|by rw[X6];exact b)
def xz (q:V->V)(d:ai cl l n H=some (.i k,H))(a:0<=k)(c:k<=1000000)(b:∀v∈bS 0 k.toNat 1,ai cl (some v::cW l caps) elt H=some (q v,H))(h:(bS 0 k.toNat 1).length<=1000000):
  ai cl l (.D elt n caps) H=some (.r H.length,H++[.l<|(bS 0 k.toNat 1).map q]):=
 (bI d).trans ((Xr<|lQ.mpr ⟨a,c⟩).trans<|(bI<|hY (q:=λv=>some<|q v) rfl λv e=>bI<|b v e).trans<|by rw[Bp];exact Xr<|by rw[X6];exact h)
def A3 (q)(j:ai cl l n H=some (.i k,H))(f:0<=k)(i:k<=1000000)
  (g:∀v∈bS 0 k.toNat 1,(bV (ai cl (some v::cW l a) c H) λw e=>rM w λb=>if b then bV (ai cl (some v::cW l a) elt e) λx d=>some (some x,d)else some (none,e))=some (q v,H)) (h:(bS 0 k.toNat 1).length<=1000000):
  ai cl l (.F elt n c a) H=some (.r H.length,H++[.l<|(bS 0 k.toNat 1).filterMap q]):=
 (bI j).trans ((Xr<|lQ.mpr ⟨f,i⟩).trans<|(bI<|hY rfl g).trans<|Xr<|Xz (List.length_filterMap_le _ _) h)
end
theorem lT:∀(n:Nat) (a s:Int),(bS a n s).length=n
 |0,_,_=>rfl
 |n+1,a,s=>by simp[oK,lT n]
def Wp (b:sh (AF xs)=true)(a:kK xs)(h:xs.length<=900000):
  ae (d+5) 13 [.s<|AF xs] H=some (.v<|.r H.length,H++.l (cO (H.length+1) xs.length)::kh xs 0):=by
 refine aa (aU (f:=lc) rfl rfl)<|zu (d:=d) (base:=H) (src:=AF xs) xs [] 0 none ⟨b,[],rfl,rfl⟩ a (by simpa using h) λx y q=>?_;simp at q;exact jJ λj=>j _ _ f0 _ _ q
theorem KH:∀(a:List V),a.filterMap (λv=>if p v then some v else none)=a.filter p
 | []=>rfl
 |v::r=>by simp[Zw,filter_cons];cases p v<;> simp[KH r]
def kX (H:Hp):V->List Nat
 | .r r=>(match bb H r 0 with |some (.s k)=>k|_=>[])
 |_=>[]
def cq (k:List Nat):Bool:=!([eI,nQ].contains k)
def WL (h:H[a]?=some (.l vs))(f:vs.length<=1000000)(c:∀v∈vs,∃r k,v=.r r/\bb H r 0=xS k):
  ae (d+1) 14 [.r a] H=some (.v<|.r H.length,H++[.l<|vs.filter λv=>cq<|kX H v]):=by
 have e:=KH (p:=λv=>cq<|kX H v) vs;have q:=D3 (cl:=ae d) (l:=[xR a]) (H:=H) (elt:=.v 0) (src:=.v 0) (c:=.q (.Zk ()) (.f (.v 0) 0)<|.p [(.s [103,97,112]),(.s [114,101,109,97,114,107])]) (caps:=[]) (vs:=vs)
  (λv=>if cq (kX H v)then some v else none) (rfl) h f λv i=>by
   refine dH (c v i) λr k b g=>?_;subst b;have e:aY H (.Zk ()) (.s k) (.t [.s [103,97,112],.s [114,101,109,97,114,107]])=some (cq k):=by have:=da k [eI,nQ];show((sZ k [.s eI,.s nQ]).map (!·))=_;refine aa (show [V.s eI,V.s nQ]=[eI,nQ].map V.s from rfl)<|aa this ?_;rfl
   simp[cW,g,e,kX];cases cq k<;> simp
 rw[e]at q;exact jJ λj=>j _ _ q
section
variable{cl:Cl}{l l':Lo}{H H1 H2 H3 H4:Hp}{a b c e o i:ME}{v u x y z:V}{vs:List V}{es:List ME}{t:Bool}{r:Option<|V×Hp}
def BU (h:gv l k=some v):ai cl l (.v k) H=some (v,H):=Xy (λr=>ry r H) h
def EJ (h1:ai cl l a H=some (x,H1))(h:ai cl l i H1=some (y,H2))(d:getItem H2 x y=some z):ai cl l (.t a i) H=some (z,H2):=(bI h1).trans<|(bI h).trans<|Xy (λr=>ry r H2) d
def HU (h1:Zc cl l es H=some (vs,H1))(h:cl k vs H1=some (.v v,H2)):ai cl l (.c k es) H=some (v,H2):=(bI h1).trans<|Xy qc h
def Ri (h:g=true):gd g q=q:=by refine aa h ?_;rfl
def Nq (h1:Zc cl l es H=some (vs,H1)):ai cl l (.l es) H=some (.r H1.length,H1++[.l vs]):=bI h1
def RB (h1:Zc cl l es H=some (vs,H1)):ai cl l (.p es) H=some (.t vs,H1):=bI h1
def lk (h1:ai cl l e H=some (v,H1))(h:Zc cl l es H1=some (vs,H2)):Zc cl l (e::es) H=some (v::vs,H2):=(bI h1).trans<|bI h
variable{lp:ZD}{ss tt ff:List MS}{s:MS}{R:Option<|Fl×Hp}
def MR (h1:ai cl l o H=some (.r n,H1))(h:mB H1 n=true)(d:ai cl l e H1=some (v,H2))(f:bF H2 n v=some H3):bx cl lp l H (.a o e)=some (.n l,H3):=AL.trans<|(bI h1).trans<|(Ri h).trans<|(bI d).trans<|Xy (rz l) f
end
set_option genInjectivity false in
structure Tok where
 k:List Nat
 t:List Nat
 p:Int
abbrev Sc:=List<|List Nat×Int
abbrev ZU:=Int×List Nat×Int
set_option genInjectivity false in
structure RS where
 rem:List Tok
 p:List Nat
 a:List Sc
 b:List (List Nat)
 f:List ZU
 e:List Int
 d:List Nat
 c:Nat
noncomputable def cx(s:Sc):List<|List Nat×V:=s.map λp=>(p.1,V.i p.2)
noncomputable def eU(o:ZU):AO:=.i 1 [(2,.i o.1),(3,.s o.2.1),(4,.i o.2.2)]
noncomputable def y3(n I a:Nat):AO:=.i 2 [(5,.r I),(6,.i a),(7,.r<|n+2),(8,.r<|n+3),(9,.r<|n+4),(10,.r<|n+5),(11,.r<|n+6)]
structure bD(n I:Nat)(ts:List Tok)(H:Hp)(W:RS)(sr fr:List Nat):Prop where
 y:I<n
 P:∃vs:List V,H[I]?=some (.l vs)/\vs.length=ts.length/\∀(j:Nat) (t:Tok),ts[j]?=some t->∃r:Nat,r<n/\vs[j]?=xR r/\H[r]?=some (vN t.k t.t t.p)
 Q:ts.length<=100000
 L:∃pre:List Tok,ts=pre++W.rem/\H[n]?=some (y3 n I pre.length)/\∀aeq t,pre=aeq++[t]->W.p=t.t
 d:H[n+2]?=some (.l<|sr.reverse.map V.r)
 g:H[n+3]?=some (.l<|W.b.map V.s)
 hf:H[n+4]?=some (.l<|fr.map V.r)
 hd:H[n+5]?=some (.l<|W.e.map V.i)
 hw:H[n+6]?=some (.l<|W.d.map λj=>V.r<|fr.getD j 0)
 J:sr.length=W.a.length
 u:∀(j r:Nat) (s:Sc),sr[j]?=some r->W.a[j]?=some s->H[r]?=some (.dS<|cx s)
 sn:sr.Nodup
 O:∀r∈sr,r=n+1\/n+7<=r
 D:fr.length=W.f.length
 fd:∀(j r:Nat) (o:ZU),fr[j]?=some r->W.f[j]?=some o->H[r]?=some (eU o)
 fn:fr.Nodup
 w:∀r∈fr,n+7<=r
 N:∀j∈W.d,j<W.f.length
 F:W.f.length<=W.c
 G:W.b.length<=W.c
 E:W.e.length<=W.c
 B:W.d.length<=W.c
 A:W.a.length<=W.c+2
 M:∀s∈W.a,s.length<=W.c+30
 R:W.c<=900
 l:n+7<=H.length
def Rp (n I:Nat)(t:List Tok)(H:Hp)(W:RS):Prop:=∃s f,bD n I t H W s f
structure ar(n:Nat)(H H':Hp):Prop where
 ln:H.length<=H'.length
 lo:∀i,i<n->H'[i]?=H[i]?
 ls:∀i k,n+7<=i->H[i]?=some (.l k)->H'[i]?=some (.l k)
def ar.refl (n)(H):ar n H H:=⟨XH _,λ_ _=>rfl,λ_ _ _ h=>h⟩
def ar.trans (a:ar n H c)(b:ar n c H3):ar n H H3:=
 ⟨Xz a.ln b.ln,λi h=>(b.lo i h).trans<|a.lo i h,λi k h e=>b.ls i k h<|a.ls i k h e⟩
def aB {H:Hp}{i k:Nat}{o b:AO}(h:H[i]?=some o)(a:k≠i):(H.set k b)[i]?=some o:=by refine aa (YM a) ?_;exact h
def fk {H r:Hp}{i:Nat}{o:AO}(h:H[i]?=some o):(H++r)[i]?=some o:=by
 have:i<H.length:=by
  rcases lt_or_ge i H.length with q|q
  ·exact q
  ·rw[Z8 q]at h;exact cE h nt
 refine aa (Yg this) ?_;exact h
def xd {H:Hp}{i:Nat}{o:AO}(h:H[i]?=some o):i<H.length:=by
 rcases lt_or_ge i H.length with q|q
 ·exact q
 ·rw[Z8 q]at h;exact cE h nt
def dU {H:Hp}{i:Nat}{o o':AO}(h:H[i]?=some o):(H.set i o')[i]?=some o':=aaf<|xd h
def ar.app (n:Nat)(H r:Hp)(a:n<=H.length):ar n H<|H++r:=
 ⟨by simp,λi h=>aa (Yg<|XO ‹_› ‹_›) rfl,λi k _ e=>fk e⟩
def bz (h:H[a]?=some (.l l))(b:l.length<=1000000):ej H (.r a)=some (l.length:Int):=(kW h).trans<|Xr b
def nk {a k:Nat}{P:Prop}(e:Nat.ble 7 k=false)(h:a+7<=a+k):P:=Xv (aao<|Nat.le_of_add_le_add_left h)<|e▸Yw
def ar.set {n:Nat}{H:Hp}{i:Nat}{o:AO}(a:n<=i)(h1:n+7<=i->∀k,H[i]?≠some (.l k)):ar n H<|H.set i o:=
 ⟨by simp,λj h=>YM<|XG<|XO ‹_› ‹_›,λj k h e=>by
  by_cases q:i=j
  ·subst q;exact Xv e<|h1 h k
  ·exact aB e q⟩
def bD.app (r:bD n I m H W k f)(x:Hp):bD n I m (H++x) W k f where
 y:=r.y
 P:=by refine aj r.P λv h1 e i=>?_;exact⟨v,fk h1,e,λj t h=>by refine aj (i j t h) λq a b c=>?_;exact⟨q,a,b,fk c⟩⟩
 Q:=r.Q
 L:=by refine aj r.L λp a b c=>?_;exact⟨p,a,fk b,c⟩
 d:=fk r.d
 g:=fk r.g
 hf:=fk r.hf
 hd:=fk r.hd
 hw:=fk r.hw
 J:=r.J
 u:=λj q s a b=>fk<|r.u j q s a b
 sn:=r.sn
 O:=r.O
 D:=r.D
 fd:=λj q s a b=>fk<|r.fd j q s a b
 fn:=r.fn
 w:=r.w
 N:=r.N
 F:=r.F
 G:=r.G
 E:=r.E
 B:=r.B
 A:=r.A
 M:=r.M
 R:=r.R
 l:=by have:=r.l;simp;exact ba 0x105876819209da06065b tq this
def bD.sn0 {n I:Nat}{t:List Tok}{H:Hp}{W:RS}{s b:List Nat}(r:bD n I t H W s b){q:Nat}(h:q∈s):n<q/\q≠n+2/\q≠n+3/\q≠n+4/\q≠n+5/\q≠n+6:=by have f:∀k,(!Nat.beq k 1&&Nat.ble k 6)=true->q≠n+k:=λk a z=>(r.O q h).elim (λe=>by rw[Nat.add_left_cancel<|z.symm.trans e]at a;exact Yw a) λe=>Nat.not_le.mpr (Nat.le_of_add_le_add_left<|z▸e)<|Yb ((Xu _ _).mp a).2;exact⟨(r.O q h).elim (λe=>e▸Zp _) λe=>Xz (Z0 (nl rfl:1<=7) n) e,f 2 rfl,f 3 rfl,f 4 rfl,f 5 rfl,f 6 rfl⟩
def av {b:Type}{l:List b}{j:Nat}{a:b}(h:l[j]?=some a):a∈l:=YQ h
def bD.XT {n I:Nat}{m:List Tok}{H:Hp}{W:RS}{v o:List Nat}(r:bD n I m H W v o){t:Tok}{f:List Tok}(e:W.rem=t::f){a:Nat}(i:a+W.rem.length=m.length):bD n I m (H.set n<|y3 n I<|a+1) {W with rem:=f,p:=t.t} v o where
 y:=r.y
 P:=by have:=r.y;exact cps λC k=>aj r.P λT h1 x z=>k<|⟨T,aB h1<|XG ‹_›,x,λj t h=>by refine aj (z j t h) λq a b c=>?_;exact⟨q,a,b,aB c<|XG ‹_›⟩⟩
 Q:=r.Q
 L:=by
  refine cps λC k=>aj r.L λp h1 b c=>?_;have S:p.length=a:=by rw[h1]at i;simp only[XB]at i;exact ba 0x8282030416079b tq i
  refine k<|⟨p++[t],by refine aa h1<|aa e ?_;simp,?_,?_⟩
  ·refine aa (dU b) ?_;simp[S]
  ·intro U X h
   have:=List.append_inj_right' h rfl;simp at this;exact aa this rfl
 d:=aB r.d<|bB 0x4d03017 tq
 g:=aB r.g<|bB 0x6d03017 tq
 hf:=aB r.hf<|bB 0x8d03017 tq
 hd:=aB r.hd<|bB 0xad03017 tq
 hw:=aB r.hw<|bB 0xcd03017 tq
 J:=r.J
 u:=λj q s a b=>aB (r.u j q s a b) (by have:=r.sn0<|av a;exact aI 0x82e66818105cad03020be08d03020be06d03020be04d03020be0200cf1b tq this)
 sn:=r.sn
 O:=r.O
 D:=r.D
 fd:=λj q s a b=>aB (r.fd j q s a b) (by have:=r.w q<|av a;exact aI 0x41709da06065b tq this)
 fn:=r.fn
 w:=r.w
 N:=r.N
 F:=r.F
 G:=r.G
 E:=r.E
 B:=r.B
 A:=r.A
 M:=r.M
 R:=r.R
 l:=by have:=r.l;simpa using this
def bD.Yd {n I:Nat}{t:List Tok}{H:Hp}{W:RS}{s f:List Nat}(r:bD n I t H W s f):Yd H n=true:=by refine cps λC k=>aj r.L λp _ b _=>k ?_;simp[Mine.Yd,b,y3]
structure Rd(n I:Nat)(ts:List Tok)(H:Hp)(W:RS)(a:Nat):Prop where
 b:a+W.rem.length=ts.length
 a1:H[n]?=some (y3 n I a)
 a2:∀(j:Nat) (t:Tok),ts[j]?=some t->∃r,r<n/\getItem H (.r I) (.i j)=xR r/\H[r]?=some (vN t.k t.t t.p)
 c:ej H (.r I)=some (ts.length:Int)
 d:∀t rest,W.rem=t::rest->ts[a]?=some t
 e:0<a->∃t,ts[a-1]?=some t/\W.p=t.t
def bD.rd {n I:Nat}{T:List Tok}{H:Hp}{W:RS}{sr X:List Nat}(r:bD n I T H W sr X):∃a,Rd n I T H W a:=by
 refine aj r.L λp h1 b c=>aj r.P λo m v U=>?_;have f:=r.Q;refine⟨p.length,⟨by refine aa h1 ?_;simp,b,?_,?_,?_,?_⟩⟩
 ·intro j t h
  refine aj (U j t h) λq q1 k q3=>⟨q,q1,?_,q3⟩;simp[zL m];have x:j<o.length:=by
   rcases lt_or_ge j o.length with z|z
   ·exact z
   ·rw[Z8 z]at k;exact cE k nt
  have Y:nW o.length (j:Int)=some j:=by unfold nW;refine aa (BX (Za (by decide)<|YG _) (X2.mpr<|XO x<|v▸Xz f (nl rfl)):sm (j:Int)=true) ?_;simp[x]
  exact aa Y k
 ·exact(bz m<|LE v f).trans<|aa v rfl
 ·intro t S e
  refine aa h1<|aa e ?_;simp
 ·intro s
  have C:p≠[]:=by intro h;clear b;subst h;simp at s
  clear b s f r m v U;obtain⟨i,t,rfl⟩:∃i t,p=i++[t]:=⟨p.dropLast,p.getLast C,(aa2 C).symm⟩;refine⟨t,(aa h1 ?_),c i t rfl⟩;simp
def du (h:H[n]?=some (y3 n I a))(f):bb H n f=tf f [(5,.r I),(6,.i a),(7,.r<|n+2),(8,.r<|n+3),(9,.r<|n+4),(10,.r<|n+5),(11,.r<|n+6)]:=by simp[bb,h,y3,rE]
def eh (h:H[r]?=some (vN k t p))(f):bb H r f=tf f [(0,.s k),(1,.s t),(2,.i p)]:=by simp only[bb,h,vN,rE]
noncomputable def RS.text(W:RS):List Nat:=match W.rem with
 |t::_=>t.t
 | []=>[]
def RS.isNm (W:RS):Bool:=match W.rem with
 |t::_=>decide (t.k=Xw)
 | []=>false
def Ke {n I:Nat}{f:List Tok}{H:Hp}{W:RS}{d:Nat}(r:Rp n I f H W)(h:1<=d):ae d 18 [.r n] H=some (.v<|.s W.text,H):=by
 refine lR 1 h rfl λd h=>cps λC k=>cV r λs l r=>Xs r.rd λa q=>k<|aa (aU (f:=kn) rfl rfl) ?_;have b:=q.b;cases e:W.rem with
 |nil=>
  have:¬((a:Int)<f.length):=by rw[e]at b;simp at b;exact mt (X2).mp<|aI 0x82c10079b tq b
  rw[show W.text=[]by simp only[RS.text,e]];exact jJ λj=>j _ (du q.a1 6) _ (du q.a1 5) _ q.c _<|fv rfl this
 |cons t c=>
  have:((a:Int)<f.length):=by rw[e]at b;simp at b;exact(X2).mpr<|ba 0x204c41685806069b tq b
  refine cps λC k=>aj (q.a2 a t<|q.d t c e) λx m g i=>k ?_;rw[show W.text=t.t by simp only[RS.text,e]];have z:=q.a1;exact jJ λj=>j _ (du z 6) _ (du z 5) _ q.c _ (kr rfl this) _ (du z 5) _ (du z 6) _ g _<|eh i 1
def Sa {n I:Nat}{f:List Tok}{H:Hp}{W:RS}{d:Nat}(r:Rp n I f H W)(g:1<=d):ae d 19 [.r n] H=some (.v<|.b W.isNm,H):=by
 refine lR 1 g rfl λd g=>cps λC k=>cV r λs m r=>Xs r.rd λa q=>k<|aa (aU (f:=gm) rfl rfl) ?_;have b:=q.b;cases e:W.rem with
 |nil=>
  have:¬((a:Int)<f.length):=by rw[e]at b;simp at b;exact mt (X2).mp<|aI 0x82c10079b tq b
  rw[show W.isNm=false by simp only[RS.isNm,e]];exact jJ λj=>j _ (du q.a1 6) _ (du q.a1 5) _ q.c _<|fv rfl this
 |cons t c=>
  have:((a:Int)<f.length):=by rw[e]at b;simp at b;exact(X2).mpr<|ba 0x204c41685806069b tq b
  refine cps λC k=>aj (q.a2 a t<|q.d t c e) λx o i l=>k ?_;by_cases h:t.k=Xw
  ·rw[show W.isNm=true by simp only[RS.isNm,e,h];simp]
   exact jJ λj=>j _ (du q.a1 6) _ (du q.a1 5) _ q.c _ (kr rfl this) _ (du q.a1 5) _ (du q.a1 6) _ i _ (eh l 0) _<|kr rfl h
  ·rw[show W.isNm=false by simp only[RS.isNm,e];simp[h]]
   exact jJ λj=>j _ (du q.a1 6) _ (du q.a1 5) _ q.c _ (kr rfl this) _ (du q.a1 5) _ (du q.a1 6) _ i _ (eh l 0) _<|fv rfl h
noncomputable def RS.XT(W:RS):RS:=match W.rem with
 |t::r=>{W with rem:=r,p:=t.t}
 | []=>W
def mR (n I:Nat)(t:List Tok)(d k:Nat)(c:List V)(W:RS)(v:V)(b:RS):Prop:=∀H,Rp n I t H W->∃a,ae d k c H=some (.v v,a)/\Rp n I t a b/\ar n H a
def gU {n I:Nat}{c:List Tok}{H:Hp}{W:RS}(r:Rp n I c H W){t:Tok}{rest:List Tok}(e:W.rem=t::rest){Cx:Prop}(k:∀a:Int,bb H n 6=xI a->∀b,Bz H n 6 (.i<|a+1)=some b->Rp n I c b W.XT->ar n H b->Cx):Cx:=by
 refine cV r λs f r=>Xs r.rd λa q=>k a (by rw[du q.a1];rfl) (H.set n<|y3 n I<|a+1) ?_ ⟨s,f,?_⟩<|ar.set (XH _)<|nk (k:=0) rfl
 ·exact G7 q.a1 rfl
 ·have:=r.XT e q.b
  simpa only[RS.XT,e]using this
def zz (r:Rp n I t H W)(a:2<=d)(h:W.text≠s):ae d 21 [.r n,.s s] H=some (.v<|.b false,H):=by refine lR 1 a rfl λd a=>?_;exact tm (f:=fK) rfl rfl λj=>j (by refine cV r λ_ _ r=>?_;exact r.Yd:Yd H n=true) _ _ (Ke (d:=d) r<|dn a rfl) _<|Jc rfl h
def Og {n I:Nat}{o:List Tok}{W:RS}{d:Nat}{s:List Nat}{t:Tok}{b:List Tok}(e:W.rem=t::b)(c:2<=d)(h:t.t=s):mR n I o d 21 [.r n,.s s] W (.b true) W.XT:=by intro H r;refine lR 1 c rfl λd c=>?_;refine cps λC m=>gU r e λa g f i j k=>m<|⟨f,?_,j,k⟩;have q:=Ke (d:=d) r<|dn c rfl;rw[(by simp[RS.text,e,h]:W.text=s)]at q;exact tm (f:=fK) rfl rfl λl=>l (by refine cV r λ_ _ r=>?_;exact r.Yd:Yd H n=true) _ _ q _ (Sq rfl rfl) _ g _ rfl _ i
def Si (e:W.rem=t::rest)(a:3<=d)(h:t.t=s):mR n I g d 22 [.r n,.s s] W .n W.XT:=by intro H r;refine lR 1 a rfl λd a=>?_;exact aj (Og (d:=d) e (dn a rfl) h H r) λb q c f=>⟨b,(tm (f:=hZ) rfl rfl λj=>j (by refine cV r λ_ _ r=>?_;exact r.Yd:Yd H n=true) _ _ q),c,f⟩
def dA (n:Nat)(H:Hp)(x:Nat)(t:Tok):Prop:=x<n/\H[x]?=some (vN t.k t.t t.p)
def dA.keep {n:Nat}{H H':Hp}{x:Nat}{t:Tok}(h:dA n H x t)(k:ar n H H'):dA n H' x t:=⟨h.1,(k.lo x h.1).trans h.2⟩
def NB {n I:Nat}{B:List Tok}{H:Hp}{W:RS}{d:Nat}{t:Tok}{f:List Tok}(r:Rp n I B H W)(e:W.rem=t::f)(m:2<=d)(h:t.k=Xw){Cx:Prop}(o:∀x c,ae d 23 [.r n] H=some (.v<|.r x,c)->Rp n I B c W.XT->ar n H c->dA n H x t->Cx):Cx:=by
 revert o;refine lR 1 m rfl λd m o=>?_;have q:=Sa (d:=d) r<|dn m rfl;rw[(by simp only[RS.isNm,e,h];simp:W.isNm=true)]at q;have w:Yd H n=true:=by refine cV r λ_ _ r=>?_;exact r.Yd
 refine gU r e λa j c s u v=>?_;obtain⟨x,p,i,l,M⟩:∃x,dA n H x t/\bb c n 6=xI (a+1)/\bb c n 5=xR I/\getItem c (.r I) (.i a)=xR x:=by
  refine cV r λO N A=>Xs A.rd λb k=>?_;have E:a=(b:Int):=by rw[du k.a1]at j;simpa [jY,iB]using j.symm
  subst E;refine aj (k.a2 b t<|k.d t f e) λx p i l=>?_;refine cV u λL D J=>Xs J.rd λC g=>?_;have y:=g.b;have z:=k.b;simp[RS.XT,e]at y z;have:C=b+1:=ow 0x5a1602830b44c0b03cd8c406069b tq y z;subst this;refine⟨x,⟨p,l⟩,by rw[du g.a1];rfl,by rw[du g.a1];rfl,?_⟩;simp only[getItem,cy,ci,mH]at i⊢;refine aa (v.lo I A.y) ?_;exact i
 refine o x c (aa (aU (f:=kp) rfl rfl) ?_) u v p;have F:a+1-1=a:=aam ..;exact jJ λG=>G w _ _ q _ j _ rfl _ s _ l _ i _ rfl (V.r x) (by simp[w,q,j,s,i,l,F,M])
noncomputable def gQ(n:List Nat):Sc->Option Int
 | []=>none
 |(a,v)::r=>if a=n then some v else gQ n r
theorem Bg{n}:gQ n []=none:=rfl
theorem rH{n a v r}:gQ n ((a,v)::r)=if a=n then some v else gQ n r:=rfl
noncomputable def cu(n:List Nat):List Sc->Int
 | []=>-2
 |s::r=>match gQ n s with
  |some v=>v
  |none=>cu n r
theorem pn{n}:cu n []=-2:=rfl
theorem fq{n s r}:cu n (s::r)=
 match gQ n s with
 |some v=>v
 |none=>cu n r:=rfl
theorem ld(n):∀s:Sc,qD n (cx s)=(gQ n s).map V.i
 | []=>rfl
 |(a,v)::r=>by
  have i:=ld n r;simp[cx,rX,rH]at i⊢;by_cases h:a=n
  ·simp[h]
  ·simp only[h,if_false];exact i
def bp (h:o H=true):aK f o [] l H=some (.n l,H):=by refine aa Hl<|aa h ?_;rfl
def aS (h:o H=true)(e:f v l H=some (.n l',H')):aK f o (v::a) l H=aK f o a l' H':=by refine aa yo<|aa h<|aa e ?_;rfl
def lO (h:o H=true)(e:f v l H=some (.r x,H')):aK f o (v::a) l H=some (.r x,H'):=by refine aa yo<|aa h<|aa e ?_;rfl
def O9 (c:Cl):V->Lo->Hp->Option (Fl×Hp):=λv l H=>XU c a4 (l.set 2<|some v) H [.i (.q .i (.v 1)<|.v 2) [.r<|.t (.v 2)<|.v 1] []]
theorem qW(c:k H=true):∀(f:List Nat) (d:List Sc) (o:Option V),f.length=d.length->(∀(j r:Nat) (s:Sc),f[j]?=some r->d[j]?=some s->H[r]?=some (.dS<|cx s))->
  (∃l,aK (O9 cl) k (f.map V.r) [xR n,xS nm,o] H=some (.n [xR n,xS nm,l],H)/\cu nm d=-2)\/
  aK (O9 cl) k (f.map V.r) [xR n,xS nm,o] H=some (.r<|.i<|cu nm d,H)
 | [],d,o,i,_=>by
  have:d=[]:=by cases d with |nil=>rfl|cons=>cases i
  subst this;exact .inl ⟨o,bp c,rfl⟩
 |r::f,[],o,i,_=>by cases i
 |r::f,s::d,o,i,h=>by
  have g:=ld nm s;cases e:gQ nm s with
  |some v=>rw[e]at g;refine .inr<|lO c ?_;simp[O9,mm<|h 0 r s rfl rfl,(h 0 r s rfl rfl),g,P6<|(h 0 r s rfl rfl),pn,fq,e]
  |none=>
   rw[e]at g;have m:O9 cl (V.r r) [xR n,xS nm,o] H=some (.n [xR n,xS nm,xR r],H):=by simp[O9,mm<|h 0 r s rfl rfl,g]
   refine aa af<|aa (aS c m) ?_;simp only[pn,fq,e];exact qW (cl:=cl) (n:=n) (nm:=nm) c f d (xR r) (by simpa using i) λj q t a b=>h (j+1) q t (a)<|b
def R7 (r:Rp n I t H W)(e:1<=d):ae d 24 [.r n,.s nm] H=some (.v<|.i<|cu nm W.a,H):=by
 refine lR 1 e rfl λd e=>cV r λs g r=>Xs r.rd λa q=>aa (aU (f:=ib) rfl rfl) ?_;have c:a3 (n+2) (s.reverse.map V.r) H=true:=fw r.d;have b:(s.reverse.map V.r).length<=1000000:=by have:=r.J;have:=r.A;have:=r.R;simp only[X6,ZO];exact ba 0x7a1204412e11c20cb62689810cb610069b tq ‹_› ‹_› ‹_›
 have l:bx (ae d) a4 [xR n,xS nm,none] H di=aK (O9<|ae d) (a3 (n+2)<|s.reverse.map V.r) (s.map V.r) [xR n,xS nm,none] H:=by unfold di;refine B6.trans<|(bI (hE λj=>j _ ((du q.a1) _):ai (ae d) [xR n,xS nm,none] (.f (.v 0) 7) H=some (.r<|n+2,H))).trans ?_;show hL H[n+2]? _=_;exact aa r.d ((Xr b).trans<|by refine aa (by rw[<- List.map_reverse,List.reverse_reverse]:(s.reverse.map V.r).reverse=s.map V.r) ?_;rfl)
 rcases qW (cl:=ae d) (n:=n) (nm:=nm) c s W.a none r.J r.u with⟨o,h,f⟩|h
 ·rw[h]at l
  rw[f];exact jJ λj=>j _ _ l
 ·rw[h]at l
  exact jJ λj=>j _ _ l
def xM (h:1<=d):ae d 1001 [.r H.length,.i p,.s nm,.i t] (H++[.i 1 []])=some (.v .n,H++[eU (p,nm,t)]):=by exact lR 1 h rfl λd h=>tm (f:=ir) rfl rfl λj=>j _ (jd (H:=H) (c:=1) (f:=2) rfl) _ (jd (H:=H) (c:=1) (f:=3) rfl) _<|jd (H:=H) (c:=1) (f:=4) rfl
noncomputable def RS.put(W:RS)(o:ZU):RS:={W with f:=W.f++[o],c:=W.c+1}
def re {a:Type}{l:List a}{j:Nat}{q:a}(h:l[j]?=some q):j<l.length:=by
 rcases lt_or_ge j l.length with z|z
 ·exact z
 ·rw[Z8 z]at h;exact cE h nt
def bD.aer {n I:Nat}{t:List Tok}{H:Hp}{W:RS}{s f:List Nat}(r:bD n I t H W s f){q:Nat}(h:q∈f):q<H.length:=by
 refine Xs (aa9 h) λj a=>?_;have:j<W.f.length:=by refine dG r.D ?_;exact re a
 exact xd<|r.fd j q _ a<|XQ this
def bD.put (r:bD n I ts H W sr m)(o:ZU)(hc:W.c<900):bD n I ts ((H++[eU o]).set (n+4)<|.l<|(m++[H.length]).map V.r) (W.put o) sr<|m++[H.length]:=by
 have f:=r.app [eU o];have e:=r.l;exact{
  y:=r.y
  P:=by have:=r.y;exact aj f.P λvs h1 T U=>⟨vs,aB h1<|XG<|XO ‹_›<|Xx _ _,T,λj t h=>by refine aj (U j t h) λq a b c=>?_;exact⟨q,a,b,aB c<|XG<|XO ‹_›<|Xx _ _⟩⟩
  Q:=r.Q
  L:=by refine aj f.L λp a b c=>?_;exact⟨p,a,aB b<|bB 0x468199 tq,c⟩
  d:=aB f.d<|HV
  g:=aB f.g<|E9
  hf:=dU f.hf
  hd:=aB f.hd<|bB 0x56818468197 tq
  hw:=by refine aa (aB f.hw<|by exact bB 0x66818468197 tq) ?_;congr 2;refine YA λj k=>?_;have:=r.N j k;rw[<- r.D]at this;simp[Yg this]
  J:=r.J
  u:=λj q s a b=>aB (f.u j q s a b) (by have:=r.sn0<|av a;exact X1 this.2.2.2.1)
  sn:=r.sn
  O:=r.O
  D:=by simp[RS.put,r.D]
  fd:=λj q x a b=>by
   have v:∀i:Nat,n+7<=i->n+4≠i:=by intro i Y;exact aI 0x246819709da06065b tq Y
   by_cases k:j<m.length
   ·rw[Yg k]at a
    have a:=a;simp[RS.put]at b;rw[Yg<|by refine dG r.D ?_;exact k]at b;exact aB (f.fd j q x a b)<|v q<|r.w q<|av a
   ·rw[YY<|ZZ ‹_›]at a
    simp[RS.put]at b;rw[YY<|by rw[<- r.D];exact aI 0x8240086db tq k,<- r.D]at b;have hz:j-m.length=0:=by
     rcases Nat.eq_zero_or_pos (j-m.length)with z|z
     ·exact z
     ·rw[Z8 ‹_›]at a;exact cE a nt
    rw[hz]at a b;simp at a b;subst a;subst b;exact aB (be _ _)<|v _ e
  fn:=by rw[YT];refine⟨r.fn,by simp,?_⟩;intro a X b S C;simp at S;have:=r.aer X;exact ba 0xd0441e6c400f3610067b tq this C S
  w:=by
   intro q v;rcases YH.1 v with h|h
   ·exact r.w q h
   ·simp at h;exact ba 0x4ed032420879b11da06065b tq e h
  N:=λj k=>by have:=r.N j k;simp only[RS.put,XB];exact u6 this
  F:=by have:=r.F;simp only[RS.put,XB];exact jr this
  G:=by have:=r.G;exact aC this
  E:=by have:=r.E;exact aC this
  B:=by have:=r.B;exact aC this
  A:=by have:=r.A;exact vb this
  M:=λs hs=>by have:=r.M s hs;exact oS this
  R:=by assumption
  l:=by simp only[ZN,XB];exact ba 0x105876819209da06065b tq e}
def po {n I:Nat}{t:List Tok}{H:Hp}{W:RS}(r:Rp n I t H W)(o:ZU)(h:W.c<900){Cx:Prop}(k:bb H n 9=xR (n+4)->mB H (n+4)=true->∀b,bF (H++[eU o]) (n+4) (.r H.length)=some b->Rp n I t b (W.put o)->ar n H b->Cx):Cx:=by
 refine cV r λs f r=>Xs r.rd λa q=>k (by rw[du q.a1];rfl) (kB r.hf) _ ?_ ⟨s,_,r.put o h⟩ ?_
 ·have h1:=(r.app [eU o]).hf
  have:(f.map V.r).length<=1000000:=by have:=r.D;have:=r.F;have:=r.R;simp only[X6];exact ba 0xf42408825c238419ec410cb610069b tq ‹_› ‹_› ‹_›
  simp only[bF,h1,this,if_true,Zq,af,map_nil,bc]
 ·have:=r.l
  exact(ar.app n H _<|Bo this).trans<|ar.set (Xx _ _)<|nk rfl
def RS.use (W:RS)(t:Tok):RS:=W.put (t.p,t.t,max (cu t.t W.a)<|-1)
def AS (a b:Int):(if a<b then b else a)=max a b:=by
 by_cases h:a<b
 ·exact(Xr h).trans (Int.max_eq_right<|YN h).symm
 ·exact(Xq h).trans (Int.max_eq_left<|Y9.mp h).symm
def TW {n I:Nat}{b:List Tok}{H:Hp}{W:RS}{d x:Nat}{t:Tok}(r:Rp n I b H W)(i:dA n H x t)(h:2<=d)(c:W.c<900){Cx:Prop}(k:∀a,ae d 26 [.r n,.r x] H=some (.v .n,a)->Rp n I b a (W.use t)->ar n H a->Cx):Cx:=by
 revert k;refine lR 1 h rfl λd h k=>?_;have w:Yd H n=true:=by refine cV r λ_ _ r=>?_;exact r.Yd
 have q:=R7 (d:=d) (nm:=t.t) r<|dn h rfl;refine po r (t.p,t.t,max (cu t.t W.a)<|-1) c λp1 p2 a p e f=>k a ?_ e f;have n1:=xM (d:=d) (H:=H) (nm:=t.t) (p:=t.p) (t:=max (cu t.t W.a)<|-1)<|dn h rfl;exact tm (f:=lj) rfl rfl λj=>j _ p1 p2 _ (eh i.2 2) _ (eh i.2 1) w _ (eh i.2 1) _ _ q _ _ n1 _ p
noncomputable def putN(n:List Nat)(v:Int):Sc->Sc
 | []=>[(n,v)]
 |(a,u)::r=>if a=n then(a,v)::r else(a,u)::putN n v r
theorem wR{n v}:putN n v []=[(n,v)]:=rfl
theorem rJ{n v a u r}:putN n v ((a,u)::r)=if a=n then(a,v)::r else(a,u)::putN n v r:=rfl
theorem pi(n)(v):∀s:Sc,wQ n (.i v) (cx s)=cx (putN n v s)
 | []=>rfl
 |(a,u)::r=>by
  have i:=pi n v r;simp[cx,A7,rJ]at i⊢;by_cases h:a=n
  ·simp[h]
  ·simp[h,i]
theorem oA(n)(v):∀s:Sc,(putN n v s).length<=s.length+1
 | []=>by simp[wR]
 |(a,u)::r=>by simp[rJ];split<;> simp <;> exact aI 0x2d0b0120b42c0065b tq<|oA n v r
def bD.kind (r:bD n I x H W v f)(k)(S:W.c<900):bD n I x (H.set (n+3)<|.l<|(W.b++[k]).map V.s) {W with b:=W.b++[k],c:=W.c+1} v f where
 y:=r.y
 P:=by have:=r.y;exact cps λC o=>aj r.P λz h1 e i=>o<|⟨z,aB h1<|XG<|XO ‹_›<|Xx _ _,e,λj t h=>by refine aj (i j t h) λq a b c=>?_;exact⟨q,a,b,aB c<|XG<|XO ‹_›<|Xx _ _⟩⟩
 Q:=r.Q
 L:=by refine aj r.L λp a b c=>?_;exact⟨p,a,aB b<|bB 0x368199 tq,c⟩
 d:=aB r.d<|BO
 g:=dU r.g
 hf:=aB r.hf<|Ij
 hd:=aB r.hd<|bB 0x56818368197 tq
 hw:=aB r.hw<|bB 0x66818368197 tq
 J:=r.J
 u:=λj q s a b=>aB (r.u j q s a b) (by have:=r.sn0<|av a;exact X1 this.2.2.1)
 sn:=r.sn
 O:=r.O
 D:=r.D
 fd:=λj q s a b=>aB (r.fd j q s a b) (by have:=r.w q<|av a;exact aI 0x236819709da06065b tq this)
 fn:=r.fn
 w:=r.w
 N:=r.N
 F:=by have:=r.F;exact aC this
 G:=by have:=r.G;simp only[XB];exact jr this
 E:=by have:=r.E;exact aC this
 B:=by have:=r.B;exact aC this
 A:=by have:=r.A;exact vb this
 M:=λs m=>by have:=r.M s m;exact oS this
 R:=by assumption
 l:=by have:=r.l;simpa using this
def bD.adk (r:bD n I x H W v f)(p)(S:W.c<900):bD n I x (H.set (n+5)<|.l<|(W.e++[p]).map V.i) {W with e:=W.e++[p],c:=W.c+1} v f where
 y:=r.y
 P:=by have:=r.y;exact cps λC o=>aj r.P λz h1 i k=>o<|⟨z,aB h1<|XG<|XO ‹_›<|Xx _ _,i,λj t h=>by refine aj (k j t h) λq a b c=>?_;exact⟨q,a,b,aB c<|XG<|XO ‹_›<|Xx _ _⟩⟩
 Q:=r.Q
 L:=by refine aj r.L λp a b c=>?_;exact⟨p,a,aB b<|bB 0x568199 tq,c⟩
 d:=aB r.d<|bB 0x26818568199 tq
 g:=aB r.g<|bB 0x36818568199 tq
 hf:=aB r.hf<|bB 0x46818568199 tq
 hd:=dU r.hd
 hw:=aB r.hw<|bB 0x66818568197 tq
 J:=r.J
 u:=λj q s a b=>aB (r.u j q s a b) (by have:=r.sn0<|av a;exact X1 this.2.2.2.2.1)
 sn:=r.sn
 O:=r.O
 D:=r.D
 fd:=λj q s a b=>aB (r.fd j q s a b) (by have:=r.w q<|av a;exact aI 0x256819709da06065b tq this)
 fn:=r.fn
 w:=r.w
 N:=r.N
 F:=by have:=r.F;exact aC this
 G:=by have:=r.G;exact aC this
 E:=by have:=r.E;simp only[XB];exact jr this
 B:=by have:=r.B;exact aC this
 A:=by have:=r.A;exact vb this
 M:=λs m=>by have:=r.M s m;exact oS this
 R:=by assumption
 l:=by have:=r.l;simpa using this
def bD.dict (r:bD n I X H W (f::sr) C)(m)(v)(e:W.a=s0::ss)(hc:W.c<900)(o:H[f]?=some (.dS<|cx s0))(i:n<f/\f≠n+2/\f≠n+3/\f≠n+4/\f≠n+5/\f≠n+6):bD n I X (H.set f<|.dS<|cx<|putN m v s0) {W with a:=putN m v s0::ss,c:=W.c+1} (f::sr) C where
 y:=r.y
 P:=by have:=r.y;exact aj r.P λY h1 S T=>⟨Y,aB h1<|by lia,S,λj t h=>by refine aj (T j t h) λq a b c=>?_;exact⟨q,a,b,aB c<|ba 0x1064cd13000b95a260017c11a260017c0da260017c09a260017c00419e3620867b tq a i⟩⟩
 Q:=r.Q
 L:=by refine aj r.L λp a b c=>?_;exact⟨p,a,aB b<|aI 0x83266858005cad0b000be08d0b000be06d0b000be04d0b000be0010cf1b tq i,c⟩
 d:=aB r.d<|i.2.1
 g:=aB r.g<|i.2.2.1
 hf:=aB r.hf<|i.2.2.2.1
 hd:=aB r.hd<|i.2.2.2.2.1
 hw:=aB r.hw<|i.2.2.2.2.2
 J:=by have:=r.J;rw[e]at this;simpa using this
 u:=by
  intro j q s a b;cases j with
  |zero=>simp at a b;subst a;subst b;exact dU o
  |succ j=>
   have U:q∈sr:=av a;have k:f≠q:=by intro z;clear a;subst z;exact(Yc.1 r.sn).1 U
   exact aB (r.u (j+1) q s (a)<|by refine aa e ?_;simpa using b) k
 sn:=r.sn
 O:=r.O
 D:=r.D
 fd:=λj q s a b=>aB (r.fd j q s a b) (by intro z;subst z;have:=r.fd j _ s a b;rw[o]at this;have this:=this;cases this)
 fn:=r.fn
 w:=r.w
 N:=r.N
 F:=by have:=r.F;exact aC this
 G:=by have:=r.G;exact aC this
 E:=by have:=r.E;exact aC this
 B:=by have:=r.B;exact aC this
 A:=by have:=r.A;rw[e]at this;exact aI 0x9a16858c0b40c909a1605a06065b tq this
 M:=λs x=>by
  rcases XD.1 x with z|z
  ·clear x;subst z
   have:=r.M s0 (by refine aa e ?_;exact .head _);have:=oA m v s0;exact ba 0x1e685a163012f342c1065b0b44c0065b tq ‹_› ‹_›
  ·have:=r.M s (by refine aa e ?_;exact .tail _ z)
   exact oS this
 R:=by assumption
 l:=by have:=r.l;simpa using this
def RS.decl (W:RS)(t:Tok)(k:List Nat):RS:=match W.a with
 |s::g=>if(gQ t.t s).isSome then{W with b:=W.b++[k],e:=W.e++[t.p],f:=W.f++[(t.p,t.t,(W.b.length:Int))],c:=W.c+3}
  else{W with b:=W.b++[k],a:=putN t.t W.b.length s::g,f:=W.f++[(t.p,t.t,(W.b.length:Int))],c:=W.c+3}
 | []=>W
def oH (h:H[a]?=some (.l<|l++[v])):getItem H (.r a) (.i<|-1)=some v:=by
 simp only[zL h];have e:nW (l++[v]).length (-1)=some l.length:=by unfold nW;refine aa (Xr<|by decide)<|aa (Xq<|by decide)<|aa (Xr<|by simp;lia) ?_;simp;lia
 refine aa e ?_;simp
def Xf {n I:Nat}{S:List Tok}{H:Hp}{W:RS}{d x:Nat}{t:Tok}{k:List Nat}(r:Rp n I S H W)(i:dA n H x t)(m:W.a≠[])(B:2<=d)(g:W.c<890){Cx:Prop}(C:∀l,ae d 25 [.r n,.r x,.s k] H=some (.v<|.i W.b.length,l)->Rp n I S l (W.decl t k)->ar n H l->Cx):Cx:=by
 revert C;refine lR 1 B rfl λd B C=>?_;obtain⟨s,ss,m⟩:∃s ss,W.a=s::ss:=by
  cases e:W.a with
  |nil=>exact Xv e m
  |cons s ss=>exact⟨s,ss,rfl⟩
 refine cV r λD X r=>?_;obtain⟨r0,D,rfl⟩:∃r0 sr',D=r0::sr':=by
  have:=r.J;rw[m]at this;cases D with
  |nil=>cases this
  |cons r0 sr'=>exact⟨r0,sr',rfl⟩
 refine Xs r.rd λa q=>?_;have y:ej H (.r<|n+3)=some (W.b.length:Int):=by have:=r.G;exact(bz r.g<|by rw[X6];exact qw this g).trans (by rw[X6])
 have f8:bb H n 8=xR (n+3):=by rw[du q.a1];rfl
 have P:mB H (n+3)=true:=kB r.g;have c:=r.kind k<|yw g rfl;have f:bF H (n+3) (.s k)=some (H.set (n+3)<|.l<|(W.b++[k]).map V.s):=by have:=r.G;simp only[bF,r.g,X6,bc];refine aa (Xr<|by exact qw this g) ?_;simp
 have A:ar n H<|H.set (n+3)<|.l<|(W.b++[k]).map V.s:=ar.set (Xx _ _)<|nk rfl;revert c f A;refine UY (H.set (n+3)<|.l<|(W.b++[k]).map V.s) λb T c f A=>?_;have u:=i.keep A;refine Xs c.rd λU Q=>?_;have E:bb b n 7=xR (n+2):=by rw[du Q.a1];rfl
 have F:getItem b (.r<|n+2) (.i<|-1)=xR r0:=oH (l:=(D.reverse.map V.r)) (by refine aa c.d ?_;simp);have O:=c.sn0 (q:=r0)<|.head _;have w:b[r0]?=some (.dS<|cx s):=c.u 0 r0 s rfl (by simp[m]);have j:fW b (.s t.t) (.r r0)=some (gQ t.t s).isSome:=by rw[mm w,ld t.t s];cases gQ t.t s<;>rfl
 cases e:(gQ t.t s).isSome with
 |true=>
  rw[e]at j;have v:bF b (n+5) (.i t.p)=some (b.set (n+5)<|.l<|(W.e++[t.p]).map V.i):=by have:=r.E;simp only[bF,c.hd,X6,bc];refine aa (Xr<|by exact qw this g) ?_;simp
  have p:=c.adk t.p<|up g rfl;have o:ar n b<|b.set (n+5)<|.l<|(W.e++[t.p]).map V.i:=ar.set (Xx _ _)<|nk rfl;simp only at p;generalize G:b.set (n+5) (.l<|(W.e++[t.p]).map V.i)=H2 at p v o;refine po ⟨_,_,p⟩ (t.p,t.t,(W.b.length:Int)) (by simp only[];exact Fu g) λp1 p2 l L M N=>?_;have z:=u.keep o;have n1:=xM (d:=d) (H:=H2) (nm:=t.t) (p:=t.p) (t:=(W.b.length:Int))<|dn B rfl;refine C l ?_ ?_<|(A.trans o).trans N
  ·rw[aU (f:=d9) rfl rfl]
   exact jJ λJ=>J _ f8 _ y _ f8 P _ f _ ((eh u.2) _) _ E _ F _ j _ (by rw[du Q.a1];rfl:bb b n 10=xR (n+5)) (kB c.hd:mB b (n+5)=true) _ ((eh u.2) _) _ v _ p1 p2 _ ((eh z.2) _) _ ((eh z.2) _) _ _ n1 _ L
  ·simpa only[RS.decl,m,e,if_true,RS.put]using M
 |false=>
  rw[e]at j;have R:setItem b (.r r0) (.s t.t) (.i W.b.length)=some (b.set r0<|.dS<|cx<|putN t.t W.b.length s):=by have:=r.M s (by refine aa m ?_;exact .head _);simp only[RC w,w,oM,ci,mH];rw[Xr<|by simp only[cx,X6];exact aI 0xfa1c096f4e0867bf342c0065b tq this g,pi]
  have p:=c.dict t.t W.b.length (s0:=s) (ss:=ss) (by trivial) (up g rfl) w O;have o:ar n b<|b.set r0<|.dS<|cx<|putN t.t W.b.length s:=ar.set (aI 0x82466818105cad03020be08d03020be06d03020be04d03020be0200cf1b tq O) (by intro _ k h;rw[w]at h;cases h);simp only at p;generalize G:b.set r0 (.dS<|cx<|putN t.t W.b.length s)=H2 at p R o;refine po ⟨_,_,p⟩ (t.p,t.t,(W.b.length:Int)) (by simp only[];exact Fu g) λp1 p2 l L M N=>?_;have z:=u.keep o;have n1:=xM (d:=d) (H:=H2) (nm:=t.t) (p:=t.p) (t:=(W.b.length:Int))<|dn B rfl;refine C l ?_ ?_<|(A.trans o).trans N
  ·exact aa (aU (f:=d9) rfl rfl)<|jJ λJ=>J _ f8 _ y _ f8 P _ f _ ((eh u.2) _) _ E _ F _ j _ E _ F _ ((eh u.2) _) _ R _ p1 p2 _ ((eh z.2) _) _ ((eh z.2) _) _ _ n1 _ L
  ·simpa only[RS.decl,m,e,Ze,if_false,RS.put]using M
def Rp.Yd (r:Rp n I t H W):Yd H n=true:=by refine cV r λ_ _ r=>?_;exact r.Yd
@[simp]theorem nr(W:RS):W.XT.a=W.a:=by unfold RS.XT;split<;>rfl
@[simp]theorem ia(W:RS):W.XT.c=W.c:=by unfold RS.XT;split<;>rfl
@[simp]theorem Dj(W:RS):W.XT.b=W.b:=by unfold RS.XT;split<;>rfl
def fT {W:RS}{t:Tok}{r:List Tok}(e:W.rem=t::r):W.XT.rem=r:=by unfold RS.XT;exact aa e rfl
@[simp]theorem BM(W:RS)(t:Tok):(W.use t).rem=W.rem:=rfl
@[simp]theorem RZ(W:RS)(t:Tok):(W.use t).p=W.p:=rfl
@[simp]theorem Q0(W:RS)(t:Tok):(W.use t).text=W.text:=rfl
@[simp]theorem QF(W:RS)(t:Tok):(W.use t).isNm=W.isNm:=rfl
@[simp]theorem IN(W:RS)(t:Tok):(W.use t).c=W.c+1:=rfl
@[simp]theorem NN(W:RS)(t:Tok):(W.use t).a=W.a:=rfl
def Vc {n I:Nat}{u:List Tok}{W:RS}{d:Nat}{t:Tok}{a:List Tok}(e:W.rem=t::a)(o:t.k=Xw)(p:W.XT.text≠[46])(h:3<=d)(m:W.c<900):
  mR n I u d 27 [.r n] W .n (W.XT.use t):=by
 intro H r;exact lR 1 h rfl λd h=>cps λC s=>NB (d:=d) r e (dn h rfl) o λx v g i c j=>TW (d:=d) i (j.keep c) (dn h rfl) (by rw[ia];exact m) λf k b l=>s<|⟨f,(tm (f:=fy) rfl rfl λq=>q r.Yd r.Yd _ _ g _ _ k b.Yd _ _<|zz (d:=d) (s:=[46]) b (dn h rfl)<|p),b,c.trans l⟩
def QE {n I:Nat}{g:List Tok}{H:Hp}{W:RS}{d:Nat}{t:Tok}{a:List Tok}(r:Rp n I g H W)(e:W.rem=t::a)(m:t.k=Xw)(o:W.XT.text≠[42])(h:3<=d){Cx:Prop}(k:∀x b,ae d 35 [.r n] H=some (.v<|.r x,b)->Rp n I g b W.XT->ar n H b->dA n b x t->Cx):Cx:=by revert k;exact lR 1 h rfl λd h k=>NB (d:=d) r e (dn h rfl) m λx i j c f l=>k x i (tm (f:=eE) rfl rfl λp=>p r.Yd _ _ j c.Yd _ _<|zz (d:=d) (s:=[42]) c (dn h rfl) o) c f<|l.keep f
def Pv {n I:Nat}{l:List Tok}{H:Hp}{W:RS}{d:Nat}{t u:Tok}{f:List Tok}(r:Rp n I l H W)(e:W.rem=t::u::f)(s:t.k=Xw)(v:u.t=[42])(h:3<=d){Cx:Prop}(k:∀x g,ae d 35 [.r n] H=some (.v<|.r x,g)->Rp n I l g W.XT.XT->ar n H g->dA n g x t->Cx):Cx:=by revert k;exact lR 1 h rfl λd h k=>NB (d:=d) r e (dn h rfl) s λx m p i j q=>aj (Og (d:=d) (s:=[42]) (fT e) (dn h rfl) v m i) λo a b c=>k x o (tm (f:=eE) rfl rfl λw=>w r.Yd _ _ p i.Yd _ _ a) b (j.trans c)<|(q.keep j).keep c
def Rp.here (r:Rp n I c H W)(e:W.rem=t::rest)(h:W.rem.length<c.length):
  ∃(a:Int) (x y:Nat),bb H n 6=xI a/\bb H n 5=xR I/\ej H (.r I)=some (c.length:Int)/\¬((c.length:Int)<=a)/\getItem H (.r I) (.i a)=xR x/\dA n H x t/\getItem H (.r I) (.i<|a-1)=xR y/\bb H y 1=xS W.p:=by
 refine cps λC k=>cV r λs o r=>Xs r.rd λa q=>?_;have b:=q.b;refine aj (q.a2 a t<|q.d t rest e) λx g i j=>ag (q.e (ba 0x1b310433d88206079b tq b h:0<a)) λu d f=>aj (q.a2 (a-1) u d) λy p l m=>k<|⟨a,x,y,by rw[du q.a1];rfl,by rw[du q.a1];rfl,q.c,by rw[e]at b;exact mt (Ys).mp<|ba 0x15441685806069b tq b,i,⟨g,j⟩,?_,by rw[eh m,f];rfl⟩;have:((a:Int)-1)=((a-1:Nat):Int):=(Int.ofNat_sub (ba 0x1b310433d88206079b tq b h:0<a)).symm;refine aa this ?_;exact l
def RS.one (W:RS)(t:Tok):RS:=if t.k=Xw/\W.p≠[46]then(W.use t).XT else W.XT
def pw {W:RS}{t:Tok}{rest:List Tok}(e:W.rem=t::rest):(W.one t).rem=rest:=by
 unfold RS.one;split
 ·exact fT e
 ·exact fT e
def BB (W:RS)(t:Tok):(W.one t).c<=W.c+1:=by unfold RS.one;split<;> simp
def Wg {n I:Nat}{B:List Tok}{W:RS}{d:Nat}{t:Tok}{rest:List Tok}(e:W.rem=t::rest)(J:W.rem.length<B.length)(s:3<=d)(G:W.c<900):
  mR n I B d 30 [.r n] W .n (W.one t):=by
 intro H r;refine lR 1 s rfl λd s=>n8 (r.here e J) λa x y h1 h o p q l z A=>cps λC v=>?_;by_cases j:t.k=Xw
 ·by_cases m:W.p=[46]
  ·refine gU r e λw g b c f i=>?_
   rw[h1]at g;cases g;exact v ⟨b,(tm (f:=cz) rfl rfl λk=>k _ h1 _ h _ o _ (fv rfl p) _ h _ h1 _ q _ ((eh l.2) _) _ (kr rfl j) _ h _ h1 _ rfl _ z _ A _ (Sq rfl m) _ h1 _ rfl _ c),by simpa [RS.one,m]using f,i⟩
  ·exact TW (d:=d) r l (dn s rfl) G λL D E F=>gU (W:=W.use t) (t:=t) (rest:=rest) E e λw g b c f i=>v ⟨b,(tm (f:=cz) rfl rfl λk=>k _ h1 _ h _ o _ (fv rfl p) _ h _ h1 _ q _ ((eh l.2) _) _ (kr rfl j) _ h _ h1 _ rfl _ z _ A _ (Jc rfl m) r.Yd _ _ D _ g _ rfl _ c),by simpa [RS.one,m,j]using f,F.trans i⟩
 ·refine gU r e λw g b c f i=>?_
  rw[h1]at g;cases g;refine v ⟨b,?_,by simpa [RS.one,j]using f,i⟩;have u:¬(t.k=[110,97,109,101]):=j;exact tm (f:=cz) rfl rfl λk=>k _ h1 _ h _ o _ (fv rfl p) _ h _ h1 _ q _ ((eh l.2) _) _ (fv rfl u) _ h1 _ rfl _ c
noncomputable def bW:List Nat:=[69,78,68]
noncomputable def R3:List<|List Nat:=[[73,70],[67,65,83,69],[87,72,73,76,69],[70,79,82]]
def D0 (t:List Nat):Int:=if t∈R3 then 1 else if t=bW then -1 else 0
noncomputable def zE:Int->List Tok->Prop
 |dep,[]=>dep=0
 |dep,t::r=>(0<dep\/t.t≠bW)/\zE (dep+D0 t.t) r
theorem IK{z}:zE z []=(z=0):=rfl
theorem JP{z t r}:zE z (t::r)=((0<z\/t.t≠bW)/\zE (z+D0 t.t) r):=rfl
noncomputable def RS.ones(W:RS):List Tok->RS
 | []=>W
 |t::r=>(W.one t).ones r
theorem RS.abg{W:RS}:W.ones []=W:=rfl
theorem RS.aak{W:RS}{t r}:W.ones (t::r)=(W.one t).ones r:=rfl
def BZ (t):fW H (.s t) (.t [.s [73,70],.s [67,65,83,69],.s [87,72,73,76,69],.s [70,79,82]])=some (decide (t∈R3)):=(da t R3).trans (by simp)
def Dp (G:u.t=bW)(v:3<=d)(b):∀(a:Int) (W:RS) (H:Hp) (o:Option V),W.rem=b++u::rest->zE a b->W.rem.length<D.length->W.c+b.length<900->Rp n I D H W->
  ∃H' A,bx (ae d) a4 [xR n,xI a,o] H dQ=some (.n [xR n,xI 0,A],H')/\Rp n I D H' (W.ones b)/\ar n H H':=by
 induction b with
 |nil=>
  intro a W H o e i k p r;subst i;have q:=Ke (d:=d) r<|MP v rfl;have:W.text=[69,78,68]:=by simp[RS.text,e];exact G
  rw[this]at q;exact⟨H,o,(aa aG<|XR (xf λj=>j _ rfl r.Yd _ _ q _ rfl)<|by simp),r,ar.refl n H⟩
 |cons t b J=>
  intro a W H o e i k p r;have q:=Ke (d:=d) r<|MP v rfl;rw[(by simp[RS.text,e]:W.text=t.t)]at q;have q:=q;have e:=e;refine cps λC L=>aj (Wg (d:=d) e k v (zx p) H r) λB f E F=>am (J (a+D0 t.t) (W.one t) B (xS t.t) (pw e) i.2 (by refine aa (pw e) ?_;rw[e]at k;exact zD k) (by have:=BB W t;exact Ht this p) E) λH' A w x y=>?_;refine L<|⟨H',A,(aa aG ?_),x,F.trans y⟩;have s:ai (ae d) [xR n,xI a,o] (.or [(.q .g (.v 1)<|.i 0),(.q .n (.m 18 (.v 0) [])<|.s [69,78,68])]) H=some (.b true,H):=by
   by_cases m:0<a
   ·exact hE λj=>j _<|kr rfl m
   ·have:¬t.t=[69,78,68]:=by rcases(i.1:0<a\/¬t.t=[69,78,68])with z|z;exact Xv z m;exact z
    exact hE λj=>j _ (fv rfl m) r.Yd _ _ q _<|Jc rfl this
  refine aa s ?_;have c:XU (ae d) a4 [xR n,xI a,o] H [.s 2<|.m 18 (.v 0) [],.i (.q .i (.v 2)<|.p [(.s [73,70]),(.s [67,65,83,69]),(.s [87,72,73,76,69]),(.s [70,79,82])]) [.s 1<|.o .a (.v 1)<|.i 1] [.i (.q .e (.v 2)<|.s [69,78,68]) [.s 1<|.o .s (.v 1)<|.i 1] []],.x<|.m 30 (.v 0) []]=some (.n [xR n,xI<|a+D0 t.t,xS t.t],B):=by
   by_cases h1:t.t∈R3
   ·have h:D0 t.t=1:=by simp only[D0,h1,if_true]
    have l:=r.Yd;exact XR (uf λj=>j l _ _ q true (by simp[l,q,BZ,h1,f,h]) _ rfl l _ _ f) (by simp[l,q,BZ,h1,f,h])
   ·by_cases g:t.t=[69,78,68]
    ·have h:D0 t.t=-1:=by simp only[D0,h1];simp[g,bW]
     simp only[h,<- Int.sub_eq_add_neg];rw[g]at h1 q;exact XR (uf λj=>j r.Yd _ _ q _ rfl _ rfl _ rfl r.Yd _ _ f) (by simp[r.Yd,BZ,h1,f,g])
    ·have h:D0 t.t=0:=by simp only[D0,h1];simp[g,bW]
     refine aa h ?_;simp[r.Yd,q,BZ,h1,f,g]
  simp only[qb,Xr rfl,c,AN];exact w
def Wa (e:W.rem=body++u::rest)(j:u.t=bW)(f:zE 0 body)(i:W.rem.length<ts.length)(g:W.c+body.length<900)(h:4<=d):
  mR n I ts d 29 [.r n] W .n (W.ones body):=by
 intro H r;exact lR 1 h rfl λd h=>am (Dp (d:=d) j (dn h rfl) body 0 W H none e f i g r) λa o h1 b c=>⟨a,(tm (f:=eN) rfl rfl λk=>k _ _ h1),b,c⟩
noncomputable def Qm:List<|List Nat:=[[40],[91],[123]]
noncomputable def OR:List<|List Nat:=[[41],[93],[125]]
def JO (t:Tok):Int:=if t.t∈Qm/\t.k=ak then 1 else if t.t∈OR/\t.k=ak then -1 else 0
noncomputable def zO(s:List Nat):Int->List Tok->Prop
 |dep,[]=>dep=0
 |dep,t::r=>(0<dep\/t.t≠s)/\zO s (dep+JO t) r
theorem Kv{s z}:zO s z []=(z=0):=rfl
theorem SH{s z t r}:zO s z (t::r)=((0<z\/t.t≠s)/\zO s (z+JO t) r):=rfl
def uG (t):fW H (.s t) (.t [.s [40],.s [91],.s [123]])=some (decide (t∈Qm)):=(da t Qm).trans (by simp)
def yW (t):fW H (.s t) (.t [.s [41],.s [93],.s [125]])=some (decide (t∈OR)):=(da t OR).trans (by simp)
def Qb (t s):aY H (.Zk ()) (.s t) (.t [.s s])=some (!decide (t=s)):=by show((sZ t [.s s]).map (!·))=_;simp only[show [V.s s]=[s].map V.s from rfl,da t [s]];by_cases h:t=s<;> simp
def zs (hu:u.t=s)(hd:2<=d)(h:List Tok):∀(i:Int) (W:RS) (H:Hp) (o:Option V),W.rem=h++u::rest->zO s i h->W.rem.length<T.length->W.c+h.length<900->Rp n I T H W->
  ∀{Cx:Prop},(∀H' S,bx (ae d) a4 [xR n,some<|.t [.s s],xI i,o] H dJ=some (.n [xR n,some<|.t [.s s],xI 0,S],H')->Rp n I T H' (W.ones h)->ar n H H'->Cx)->Cx:=by
 induction h with
 |nil=>
  intro i W H o e F G N r Cx R;subst F;have q:=Ke (d:=d) r<|MP hd rfl;have:W.text=s:=by simp[RS.text,e];exact hu
  rw[this]at q;exact R H o (aa aG<|XR (xf λj=>j _ rfl r.Yd _ _ q false (by simp[Qb]))<|by simp) r<|ar.refl n H
 |cons t h ih=>
  intro i W H o e F G N r Cx R;have q:=Ke (d:=d) r<|MP hd rfl;rw[(by simp[RS.text,e]:W.text=t.t)]at q;have e:=e;refine n8 (r.here e G) λa x y h1 E h3 h4 h5 M X Y=>?_;obtain⟨f,H2,b,v,D,k1,g,w,A,B⟩:∃(f H2:Hp) (b:Bool),(if t.k=Xw/\W.p≠[46]then(b=true/\ae d 26 [.r n,.r x] H=some (.v .n,f))else(b=false/\f=H))/\Yd f n=true/\ar n H f/\bb f n 6=xI a/\Bz f n 6 (.i<|a+1)=some H2/\Rp n I T H2 (W.one t)/\ar n f H2:=by
   by_cases l:t.k=Xw/\W.p≠[46]
   ·refine TW (d:=d) r M ‹_› (zx N) λf b1 D b3=>gU (W:=W.use t) D e λU g H' w A B=>?_
    have:U=a:=by refine cV r λsr fr r0=>Xs r0.rd λc rd=>cV D λsr' fr' r1=>Xs r1.rd λc' C=>?_;have:c=c':=ow 0x1050620b03cd8c406069b tq rd.b C.b;subst this;rw[du rd.a1]at h1;rw[du C.a1]at g;rw[h1]at g;have g:=g;cases g;rfl
    subst this;exact⟨f,H',true,by refine aa (Xr l) ?_;exact⟨rfl,b1⟩,D.Yd,b3,g,w,by simpa only[RS.one,Xr l]using A,B⟩
   ·refine gU r e λU g H' w A B=>?_
    rw[h1]at g;cases g;exact⟨H,H',false,by refine aa (Xq l) ?_;exact⟨rfl,rfl⟩,r.Yd,ar.refl n H,h1,w,by simpa only[RS.one,Xq l]using A,B⟩
  refine ih (i+JO t) (W.one t) H2 (xR x) (pw e) F.2 (by refine aa (pw e) ?_;rw[e]at G;exact zD G) (by have:=BB W t;exact Ht this N) A λH' S O P Q=>?_;refine R H' S (V6 (H1:=H) ?_ (PM (yP λj=>j _ h1 _ E _ h3 _<|fv rfl h4)<|PM (yP λj=>j _ E _ h1 _ h5)<|PM (l':=[xR n,some<|.t [.s s],xI i,xR x]) (H':=f) ?_<|PM (l':=[xR n,some<|.t [.s s],xI<|i+JO t,xR x]) (H':=f) ?_<|uf λj=>j _ g _ rfl _ w) O) P<|(k1.trans B).trans Q
  ·by_cases L:0<i
   ·exact hE λj=>j _<|kr rfl L
   ·have:¬t.t=s:=by rcases F.1 with z|z;exact Xv z L;exact z
    exact hE λj=>j _ (fv rfl L) r.Yd _ _ q _<|Jc (Qb (H:=H) _ _) this
  have p:bb H x 0=xS t.k:=eh M.2 0
  ·by_cases l:t.k=Xw
   ·by_cases J:W.p=[46]
    ·rw[Xq<|by intro z;exact z.2 J]at v
     rw[v.2];exact yP λj=>j _ p _ (kr rfl l) _ E _ h1 _ rfl _ X _ Y _ (Sq rfl J)
    ·rw[Xr ⟨l,J⟩]at v
     exact yP λj=>j _ p _ (kr rfl l) _ E _ h1 _ rfl _ X _ Y _ (Jc rfl J) r.Yd _ _ v.2
   ·rw[Xq<|by intro z;exact l z.1]at v
    rw[v.2];exact yP λj=>j _ p _<|fv rfl l
  ·have i1:=(M.keep k1).2
   have p:bb f x 0=xS t.k:=eh i1 0;have m:bb f x 1=xS t.t:=eh i1 1;unfold JO;by_cases o:t.t∈Qm
   ·by_cases k:t.k=ak
    ·rw[Xr ⟨o,k⟩];exact yP λj=>j _ m _ (kr (uG (H:=f) _) o) _ p _ (kr rfl k) _ rfl
    ·rw[Xq λz=>k z.2,Xq λz=>k z.2,Int.add_zero]
     by_cases c:t.t∈OR
     ·exact yP λj=>j _ m _ (kr (uG (H:=f) _) o) _ p _ (fv rfl k) _ m _ (kr (yW (H:=f) _) c) _ p _<|fv rfl k
     ·exact yP λj=>j _ m _ (kr (uG (H:=f) _) o) _ p _ (fv rfl k) _ m _<|fv (yW (H:=f) _) c
   ·rw[Xq λz=>o z.1]
    by_cases c:t.t∈OR
    ·by_cases k:t.k=ak
     ·rw[Xr ⟨c,k⟩];exact yP λj=>j _ m _ (fv (uG (H:=f) _) o) _ m _ (kr (yW (H:=f) _) c) _ p _ (kr rfl k) _ rfl
     ·rw[Xq λz=>k z.2,Int.add_zero];exact yP λj=>j _ m _ (fv (uG (H:=f) _) o) _ m _ (kr (yW (H:=f) _) c) _ p _<|fv rfl k
    ·rw[Xq λz=>c z.1,Int.add_zero];exact yP λj=>j _ m _ (fv (uG (H:=f) _) o) _ m _<|fv (yW (H:=f) _) c
def VV (e:W.rem=body++u::rest)(j:u.t=s)(f:zO s 0 body)(i:W.rem.length<ts.length)(g:W.c+body.length<900)(h:3<=d):
  mR n I ts d 28 [.r n,.t [.s s]] W .n (W.ones body):=by
 intro H r;exact lR 1 h rfl λd h=>zs (d:=d) j (dn h rfl) body 0 W H none e f i g r λa o h1 b c=>⟨a,(tm (f:=eP) rfl rfl λk=>k _ _ h1),b,c⟩
def bD.aes (r:bD n I x H W v f)(e)(m:e<W.f.length)(S:W.c<900):bD n I x (H.set (n+6)<|.l<|(W.d++[e]).map λj=>V.r<|f.getD j 0) {W with d:=W.d++[e],c:=W.c+1} v f where
 y:=r.y
 P:=by have:=r.y;exact aj r.P λC h1 i k=>⟨C,aB h1<|XG<|XO ‹_›<|Xx _ _,i,λj t h=>by refine aj (k j t h) λq a b c=>?_;exact⟨q,a,b,aB c<|XG<|XO ‹_›<|Xx _ _⟩⟩
 Q:=r.Q
 L:=by refine aj r.L λp a b c=>?_;exact⟨p,a,aB b<|bB 0x668199 tq,c⟩
 d:=aB r.d<|bB 0x26818668199 tq
 g:=aB r.g<|bB 0x36818668199 tq
 hf:=aB r.hf<|bB 0x46818668199 tq
 hd:=aB r.hd<|bB 0x56818668199 tq
 hw:=dU r.hw
 J:=r.J
 u:=λj q s a b=>aB (r.u j q s a b) (by have:=r.sn0<|av a;exact X1 this.2.2.2.2.2)
 sn:=r.sn
 O:=r.O
 D:=r.D
 fd:=λj q s a b=>aB (r.fd j q s a b) (by have:=r.w q<|av a;exact aI 0x266819709da06065b tq this)
 fn:=r.fn
 w:=r.w
 N:=λj h=>by
  rcases YH.1 h with z|z
  ·exact r.N j z
  ·simp at z;clear h;subst z;exact m
 F:=by have:=r.F;exact aC this
 G:=by have:=r.G;exact aC this
 E:=by have:=r.E;exact aC this
 B:=by have:=r.B;simp only[XB];exact jr this
 A:=by have:=r.A;exact vb this
 M:=λs o=>by have:=r.M s o;exact oS this
 R:=by assumption
 l:=by have:=r.l;simpa using this
def bD.clr (r:bD n I v H W o f)(z:W.c<900):bD n I v (H.set (n+6)<|.l []) {W with d:=[],c:=W.c+1} o f where
 y:=r.y
 P:=by have:=r.y;exact cps λC m=>aj r.P λx h1 e i=>m<|⟨x,aB h1<|XG<|XO ‹_›<|Xx _ _,e,λj t h=>by refine aj (i j t h) λq a b c=>?_;exact⟨q,a,b,aB c<|XG<|XO ‹_›<|Xx _ _⟩⟩
 Q:=r.Q
 L:=by refine aj r.L λp a b c=>?_;exact⟨p,a,aB b<|bB 0x668199 tq,c⟩
 d:=aB r.d<|bB 0x26818668199 tq
 g:=aB r.g<|bB 0x36818668199 tq
 hf:=aB r.hf<|bB 0x46818668199 tq
 hd:=aB r.hd<|bB 0x56818668199 tq
 hw:=dU r.hw
 J:=r.J
 u:=λj q s a b=>aB (r.u j q s a b) (by have:=r.sn0<|av a;exact X1 this.2.2.2.2.2)
 sn:=r.sn
 O:=r.O
 D:=r.D
 fd:=λj q s a b=>aB (r.fd j q s a b) (by have:=r.w q<|av a;exact aI 0x266819709da06065b tq this)
 fn:=r.fn
 w:=r.w
 N:=λj h=>by cases h
 F:=by have:=r.F;exact aC this
 G:=by have:=r.G;exact aC this
 E:=by have:=r.E;exact aC this
 B:=by have:=r.B;exact bB 0x5a0601b2 tq
 A:=by have:=r.A;exact vb this
 M:=λs k=>by have:=r.M s k;exact oS this
 R:=by assumption
 l:=by have:=r.l;simpa using this
def bD.cls (r:bD n I x H W (S::f) i)(e:W.a=T::v)(C:W.c<900):bD n I x (H.set (n+2)<|.l<|f.reverse.map V.r) {W with a:=v,c:=W.c+1} f i where
 y:=r.y
 P:=by have:=r.y;exact aj r.P λz h1 k m=>⟨z,aB h1<|XG<|XO ‹_›<|Xx _ _,k,λj t h=>by refine aj (m j t h) λq a b c=>?_;exact⟨q,a,b,aB c<|XG<|XO ‹_›<|Xx _ _⟩⟩
 Q:=r.Q
 L:=by refine aj r.L λp a b c=>?_;exact⟨p,a,aB b<|bB 0x268199 tq,c⟩
 d:=dU r.d
 g:=aB r.g<|vO
 hf:=aB r.hf<|wb
 hd:=aB r.hd<|bB 0x56818268197 tq
 hw:=aB r.hw<|bB 0x66818268197 tq
 J:=by have:=r.J;rw[e]at this;simpa using this
 u:=λj q s a b=>aB (r.u (j+1) q s (a)<|by refine aa e ?_;simpa using b) (by have:=r.sn0 (q:=q)<|.tail _<|av a;exact X1 this.2.1)
 sn:=(Yc.1 r.sn).2
 O:=λq h=>r.O q<|.tail _ h
 D:=r.D
 fd:=λj q s a b=>aB (r.fd j q s a b) (by have:=r.w q<|av a;exact Au this)
 fn:=r.fn
 w:=r.w
 N:=r.N
 F:=by have:=r.F;exact aC this
 G:=by have:=r.G;exact aC this
 E:=by have:=r.E;exact aC this
 B:=by have:=r.B;exact aC this
 A:=by have:=r.A;rw[e]at this;exact aI 0x1342d0b180909a1605a06065b tq this
 M:=λs o=>by have:=r.M s (by refine aa e ?_;exact .tail _ o);exact oS this
 R:=by assumption
 l:=by have:=r.l;simpa using this
def bD.aet (r:bD n I t H W s f)(h:q∈s):q<H.length:=by
 refine Xs (aa9 h) λj a=>?_;have:j<W.a.length:=by refine dG r.J ?_;exact re a
 exact xd<|r.u j q _ a<|XQ this
def bD.aeu (r:bD n I U H W i k)(m)(x:H[m]?=some (.dS []))(e:n+7<=m)(f:m∉i)(Y:W.c<900):bD n I U (H.set (n+2)<|.l<|((m::i).reverse).map V.r) {W with a:=[]::W.a,c:=W.c+1} (m::i) k where
 y:=r.y
 P:=by have:=r.y;exact cps λC T=>aj r.P λX h1 o v=>T<|⟨X,aB h1<|XG<|XO ‹_›<|Xx _ _,o,λj t h=>by refine aj (v j t h) λq a b c=>?_;exact⟨q,a,b,aB c<|XG<|XO ‹_›<|Xx _ _⟩⟩
 Q:=r.Q
 L:=by refine aj r.L λp a b c=>?_;exact⟨p,a,aB b<|bB 0x268199 tq,c⟩
 d:=dU r.d
 g:=aB r.g<|vO
 hf:=aB r.hf<|wb
 hd:=aB r.hd<|bB 0x56818268197 tq
 hw:=aB r.hw<|bB 0x66818268197 tq
 J:=by have:=r.J;simpa using this
 u:=λj q s a b=>by
  cases j with
  |zero=>simp at a b;subst a;subst b;exact aB x<|Au e
  |succ j=>exact aB (r.u j q s a b) (by have:=r.sn0<|av a;exact X1 this.2.1)
 sn:=Yc.2 ⟨f,r.sn⟩
 O:=λq h=>by rcases XD.1 h with z|z;exact .inr<|ba 0x4ed032420879b11da06065b tq e z;exact r.O q z
 D:=r.D
 fd:=λj q s a b=>aB (r.fd j q s a b) (by have:=r.w q<|av a;exact Au this)
 fn:=r.fn
 w:=r.w
 N:=r.N
 F:=by have:=r.F;exact aC this
 G:=by have:=r.G;exact aC this
 E:=by have:=r.E;exact aC this
 B:=by have:=r.B;exact aC this
 A:=by have:=r.A;exact aI 0x1342d0b181681921342c0065b tq this
 M:=λs S=>by rcases XD.1 S with z|z;(subst z;simp);(have:=r.M s z;exact oS this)
 R:=by assumption
 l:=by have:=r.l;simpa using this
def bD.tgt (r:bD n I X H W U C)(i x)(o)(e:C[i]?=some x)(k:i<W.f.length)(hc:W.c<900):bD n I X (H.set x<|.i 1 [(2,.i o.1),(3,.s o.2.1),(4,.i o.2.2)]) {W with f:=W.f.set i o,c:=W.c+1} U C where
 y:=r.y
 P:=by have:=r.y;have:=r.w x<|av e;exact aj r.P λY h1 m S=>⟨Y,aB h1<|sj ‹_› ‹_›,m,λj t h=>by refine aj (S j t h) λq a b c=>?_;exact⟨q,a,b,aB c<|sj ‹_› ‹_›⟩⟩
 Q:=r.Q
 L:=by have:=r.w x<|av e;refine aj r.L λp a b c=>?_;exact⟨p,a,aB b<|aI 0x41901da16065b tq this,c⟩
 d:=aB r.d (by have:=r.w x<|av e;exact aI 0x4d0b01901da16065b tq this)
 g:=aB r.g (by have:=r.w x<|av e;exact aI 0x6d0b01901da16065b tq this)
 hf:=aB r.hf (by have:=r.w x<|av e;exact aI 0x8d0b01901da16065b tq this)
 hd:=aB r.hd (by have:=r.w x<|av e;exact aI 0xad0b01901da16065b tq this)
 hw:=aB r.hw (by have:=r.w x<|av e;exact aI 0xcd0b01901da16065b tq this)
 J:=r.J
 u:=λj q s a b=>aB (r.u j q s a b) (by intro z;subst z;have m:=r.fd i _ (W.f[i]) e<|XQ k;have h1:=r.u j _ s a b;rw[h1]at m;cases m)
 sn:=r.sn
 O:=r.O
 D:=by simp[r.D]
 fd:=λj q s a b=>by
  by_cases v:i=j
  ·subst v
   rw[e]at a;cases a;simp[aaf k]at b;have b:=b;cases b;exact dU<|r.fd i x (W.f[i]) e<|XQ k
  ·simp[YM v]at b
   refine aB (r.fd j q s a b) ?_;intro z;subst z;exact v<|(List.getElem?_inj (re e) r.fn).1<|e.trans a.symm
 fn:=r.fn
 w:=r.w
 N:=λj h=>by have:=r.N j h;simpa using this
 F:=by have:=r.F;simp only[ZN];exact aC this
 G:=by have:=r.G;simp only[XB,aM,bA];exact aC this
 E:=by have:=r.E;simp only[XB,aM,bA];exact aC this
 B:=by have:=r.B;simp only[XB,aM,bA];exact aC this
 A:=by have:=r.A;simp only[XB,aM,bA];exact vb this
 M:=λs T=>by have:=r.M s T;simp only[];exact oS this
 R:=by assumption
 l:=by have:=r.l;simpa using this
def RS.YX (W:RS)(t:Tok):RS:=if cu t.t W.a=-2 then{W with f:=W.f++[(t.p,t.t,-1)],d:=W.d++[W.f.length],c:=W.c+2}else W.use t
def Rp.fld (r:Rp n I t H W):bb H n 7=xR (n+2)/\bb H n 8=xR (n+3)/\bb H n 9=xR (n+4)/\bb H n 10=xR (n+5)/\bb H n 11=xR (n+6):=by exact cps λC k=>cV r λs f r=>Xs r.rd λa q=>k<|⟨by rw[du q.a1];rfl,by rw[du q.a1];rfl,by rw[du q.a1];rfl,by rw[du q.a1];rfl,by rw[du q.a1];rfl⟩
def Rp.app (r:Rp n I t H W)(x):Rp n I t (H++x) W:=by refine cV r λs f r=>?_;exact⟨s,f,r.app x⟩
def Rp.len (r:Rp n I t H W):n+7<=H.length:=by refine cV r λs f r=>?_;exact r.l
def Fy {n I:Nat}{t:List Tok}{H:Hp}{W:RS}(r:Rp n I t H W)(o:ZU)(j:W.c<890){Cx:Prop}(m:∀b g,bF (H++[eU o]) (n+4) (.r H.length)=some b->bb b n 11=xR (n+6)->mB b (n+6)=true->bF b (n+6) (.r H.length)=some g->Rp n I t g {W with f:=W.f++[o],d:=W.d++[W.f.length],c:=W.c+2}->ar n H g->Cx):Cx:=by
 refine cV r λs e r=>?_;have h:=r.l;have a:=r.put o<|yw j rfl;have l:=a.aes W.f.length (by simp[RS.put]) (by simp only[RS.put];exact bB 0x708e0b40c9ef4e0067b tq j);have i:bF (H++[eU o]) (n+4) (.r H.length)=some ((H++[eU o]).set (n+4)<|.l<|(e++[H.length]).map V.r):=by have h1:=(r.app [eU o]).hf;have:=r.D;have:=r.F;have:=r.R;simp only[bF,h1,X6,bc];refine aa (Xr<|by exact ba 0xf42408825bd38419ec410cb610069b tq ‹_› ‹_› ‹_›) ?_;simp
 have k:ar n H<|(H++[eU o]).set (n+4)<|.l<|(e++[H.length]).map V.r:=(ar.app n H _<|Bo h).trans<|ar.set (Xx _ _)<|nk rfl;generalize(H++[eU o]).set (n+4) (.l<|(e++[H.length]).map V.r)=b at a l i k;refine m b _ i ((Rp.fld ⟨_,_,a⟩).2.2.2.2) (kB a.hw) ?_ ⟨_,_,l⟩<|k.trans<|ar.set (Xx _ _)<|nk rfl;have:=a.B;have:=a.R;simp only[bF,a.hw,X6,bc];refine aa (Xr<|by exact s9 ‹_› ‹_›) ?_;have:(e++[H.length]).getD W.f.length 0=H.length:=by refine dG r.D ?_;simp[Yr]
 simp only[Zq,af,map_nil,this]
def UX {n I:Nat}{L:List Tok}{W:RS}{d:Nat}{t:Tok}{a:List Tok}(e:W.rem=t::a)(i:t.k=Xw)(j:cu t.t W.a=-2)(h:4<=d)(D:W.c<890):
  mR n I L d 41 [.r n] W .n (W.XT.YX t):=by
 intro H r;refine lR 1 h rfl λd h=>?_;have q:=Sa (d:=d) r<|dn h rfl;have E:W.isNm=true:=by simp only[RS.isNm,e,i];simp
 rw[E]at q;have l:=Ke (d:=d) r<|dn h rfl;rw[(by simp only[RS.text,e]:W.text=t.t)]at l;have m:=R7 (d:=d) (nm:=t.t) r<|dn h rfl;rw[j]at m;refine cps λC G=>NB (d:=d) r e (dn h rfl) i λx c p b f s=>?_;have k:=s.keep f;refine Fy b (t.p,t.t,-1) (by rw[ia];exact D) λM o u v w y z A=>?_;have n1:=xM (d:=d) (H:=c) (nm:=t.t) (p:=t.p) (t:=-1)<|dn h rfl;have g:=(b.app [eU (t.p,t.t,-1)]).fld.2.2.1;have B:mB (c++[eU (t.p,t.t,-1)]) (n+4)=true:=by exact cV b λO N J=>kB (J.app [eU (t.p,t.t,-1)]).hf
 refine G<|⟨o,?_,?_,f.trans A⟩
 ·exact jJ λF=>F r.Yd _ _ q r.Yd r.Yd _ _ l _ _ m _ rfl r.Yd _ _ p _ ((eh k.2) _) _ ((eh k.2) _) _ _ n1 _ g B _ u _ v w _ y
 ·simpa only[RS.YX,nr,j,if_true,ia]using z
def yc (s:List Sc)(o:ZU):ZU:=(o.1,o.2.1,max (cu o.2.1 s)<|-1)
def RS.Yq (W:RS)(j:Nat):RS:={W with f:=W.f.set j<|yc W.a<|W.f.getD j (0,[],0),c:=W.c+1}
noncomputable def RS.ZC(W:RS):List Nat->RS
 | []=>W
 |j::r=>(W.Yq j).ZC r
theorem RS.ab4{W:RS}:W.ZC []=W:=rfl
theorem RS.ab5{W:RS}{j r}:W.ZC (j::r)=(W.Yq j).ZC r:=rfl
def Ut (c:Cl):V->Lo->Hp->Option (Fl×Hp):=λv l H=>XU c a4 (l.set 1<|some v) H [.f (.v 1) 4<|.x (.m 24 (.v 0) [(.f (.v 1) 3)])<|.i<|-1]
def HK (C:1<=d)(c:List Nat):∀(W:RS) (H:Hp) (o:Option V),W.d=L->(∀j∈c,j<W.f.length)->W.c+c.length<900->bD n I B H W v f->
  ∃H' u,aK (Ut<|ae d) (a3 (n+6)<|L.map λj=>V.r<|f.getD j 0) (c.map λj=>V.r<|f.getD j 0) [xR n,o] H=some (.n [xR n,u],H')/\bD n I B H' (W.ZC c) v f/\ar n H H':=by
 induction c with
 |nil=>intro W H o hL g e r;exact⟨H,o,aa map_nil<|aa (bp (fw (by refine dG hL ?_;exact r.hw):a3 (n+6) (L.map λj=>V.r<|f.getD j 0) H=true)) rfl,r,ar.refl n H⟩
 |cons j c w=>
  intro W H o hL g e r;have b:=g j<|.head _;have i:f[j]?=some (f.getD j 0):=by simp[XQ (by refine aa r.D ?_;exact b:j<f.length)]
  have a:=r.fd j _ _ i (by simp[XQ b]:W.f[j]?=some (W.f.getD j (0,[],0)));have q:=R7 (d:=d) (nm:=(W.f.getD j (0,[],0)).2.1) ⟨v,f,r⟩ ‹_›;have l:=r.w _ (av i:f.getD j 0∈f);have y:ar n H<|H.set (f.getD j 0)<|eU<|yc W.a<|W.f.getD j (0,[],0):=ar.set (Bo l) (by intro _ k h;rw[a]at h;cases h);have A:Ut (ae d) (.r<|f.getD j 0) [xR n,o] H=some (.n [xR n,xR<|f.getD j 0],H.set (f.getD j 0)<|eU<|yc W.a<|W.f.getD j (0,[],0)):=by
   generalize f.getD j 0=x at a;generalize W.f.getD j (0,[],0)=oc at a q;have f3:bb H x 3=xS oc.2.1:=by simp only[bb,a,eU,rE];rfl
   have z:Bz H x 4 (.i<|max (cu oc.2.1 W.a)<|-1)=some (H.set x<|eU<|yc W.a oc):=by exact G7 a rfl
   simp[Ut,(r.Yd:Yd H n=true),f3,q,AS,z]
  exact am (w (W.Yq j) (H.set (f.getD j 0)<|eU<|yc W.a<|W.f.getD j (0,[],0)) (xR<|f.getD j 0) hL (λt h=>by have:=g t<|.tail _ h;simpa [RS.Yq]using this:∀t∈c,t<(W.Yq j).f.length) (by exact aI 0x3847042d03193e11c1685806067b tq e)<|r.tgt j (f.getD j 0) (yc W.a<|W.f.getD j (0,[],0)) i b<|zx e) λH' u m p s=>⟨H',u,(aa af<|aa (aS (fw (by refine dG hL ?_;exact r.hw):a3 (n+6) (L.map λj=>V.r<|f.getD j 0) H=true) A) m),p,y.trans s⟩
def RS.resolve (W:RS):RS:={W.ZC W.d with d:=[],c:=(W.ZC W.d).c+1}
def yy (a:List Nat):∀(W:RS),(W.ZC a).c=W.c+a.length:=by
 induction a with
 |nil=>intro W;exact rfl
 |cons j a i=>intro W;simp only[RS.ab4,RS.ab5,i,aM];exact tJ
section
variable{cl:Cl}{lp:ZD}{l:Lo}{H H1:Hp}
def fc (e:ai cl l src H=some (.r a,H1))(h:H1[a]?=some (.l vs))(d:vs.length<=1000000):
  bx cl lp l H (.g i src b)=aK (λv f c=>XU cl lp (f.set i<|some v) c b) (a3 a vs) vs l H1:=
 rG.trans ((bI e).trans<|kW<|nv h d)
end
def Xj {n I:Nat}{ts:List Tok}{W:RS}{d:Nat}(e:2<=d)(f:W.c+W.d.length<890):mR n I ts d 42 [.r n] W .n W.resolve:=by
 intro H r;refine lR 1 e rfl λd e=>?_;have g:=r.fld.2.2.2.2;refine cps λC k=>cV r λs m r=>am (HK (d:=d) (L:=W.d) (dn e rfl) W.d W H none rfl r.N (yw f rfl) r) λb o h1 h i=>?_;have l:bx (ae d) a4 [xR n,none] H eO=some (.n [xR n,o],b):=by exact aa (fc (a:=n+6) (by exact hE λj=>j _ g) r.hw<|by have:=r.B;have:=r.R;simp only[X6];exact s9 ‹_› ‹_›) h1
 have a:=(Rp.fld ⟨_,_,h⟩).2.2.2.2;have c:EN b (n+6)=some (b.set (n+6)<|.l []):=by have:=h.B;have:=h.R;simp only[EN,h.hw,X6,bc];exact aa (Xr<|by exact s9 ‹_› ‹_›) rfl
 refine k<|⟨_,?_,⟨_,_,h.clr<|by rw[yy];exact aI 0xe11c10327bd38206067b tq f⟩,i.trans<|ar.set (Xx _ _)<|nk rfl⟩;exact tm (f:=go) rfl rfl λj=>j _ _ l _ a _ c
noncomputable def RS.opn(W:RS):RS:={W with a:=[]::W.a,c:=W.c+1}
noncomputable def RS.cls(W:RS):RS:={W with a:=W.a.tail,c:=W.c+1}
def yk {n I:Nat}{t:List Tok}{H:Hp}{W:RS}(r:Rp n I t H W)(d:W.c<900){Cx:Prop}(k:mB H (n+2)=true->∀b,bF (H++[.dS []]) (n+2) (.r H.length)=some b->Rp n I t b W.opn->ar n H b->Cx):Cx:=by refine cV r λs f r=>?_;have a:=r.l;have c:=r.app [.dS []];have e:=c.aeu H.length (be _ _) a (by intro h;have:=r.aet h;exact wG this) d;refine k (kB r.d) _ ?_ ⟨_,_,e⟩<|(ar.app n H _<|Bo a).trans<|ar.set (Xx _ _)<|nk rfl;have:=r.J;have:=r.A;have:=r.R;simp only[bF,c.d,X6,ZO,bc];rw[Xr<|by exact ba 0x7a1204412e11c20cf62689810cb610069b tq ‹_› ‹_› ‹_›];simp
def Gq {n I:Nat}{t:List Tok}{H:Hp}{W:RS}(r:Rp n I t H W)(h:W.a≠[])(d:W.c<900){Cx:Prop}(k:∀v c,vH H (n+2)=some (v,c)->Rp n I t c W.cls->ar n H c->Cx):Cx:=by
 obtain⟨s,ss,h⟩:∃s ss,W.a=s::ss:=by
  cases e:W.a with
  |nil=>exact Xv e h
  |cons s ss=>exact⟨s,ss,rfl⟩
 refine cV r λb i r=>?_;obtain⟨a,b,rfl⟩:∃a sr',b=a::sr':=by
  have:=r.J;rw[h]at this;cases b with
  |nil=>cases this
  |cons a sr'=>exact⟨a,sr',rfl⟩
 have g:=r.cls h d;refine k (.r a) _ ?_ ⟨_,_,by simpa only[RS.cls,h,tail_cons]using g⟩<|ar.set (Xx _ _)<|nk rfl;have:=r.J;have:=r.A;have:=r.R;have e:((a::b).reverse.map V.r)=b.reverse.map V.r++[V.r a]:=by simp
 simp only[vH,r.d,e,bc,ci];have f:(b.reverse.map V.r++[V.r a]).length<=1000000:=by simp only[XB,X6,ZO]at *;exact ba 0xf4240885a06b00c9708e1067b1344c0865b085a06069b tq ‹_› ‹_› ‹_›
 simp only[getLast?_concat,dropLast_concat];rw[ci,Xr f]
noncomputable def wA:List Nat:=[97,108,105,97,115]
noncomputable def b9:List Nat:=[105,109,112,111,114,116]
noncomputable def sK:List Nat:=[99,111,110,115,116]
@[simp]theorem LJ(W:RS)(t:Tok):(W.one t).a=W.a:=by unfold RS.one;split<;> simp
@[simp]theorem yz:∀(b:List Tok) (W:RS),(W.ones b).a=W.a
 | [],W=>rfl
 |t::b,W=>by simp[RS.aak,yz b]
noncomputable def c0:List Nat:=[65,82,82,65,89]
noncomputable def lU:List Nat:=[82,69,67,79,82,68]
noncomputable def gE:List Nat:=[80,79,73,78,84,69,82]
noncomputable def eg:List Nat:=[80,82,79,67,69,68,85,82,69]
noncomputable def xh:List Nat:=[79,70]
noncomputable def SQ:List Nat:=[84,79]
def Ld (t:Tok):Prop:=t.k=Xw/\t.t≠c0/\t.t≠lU/\t.t≠gE/\t.t≠eg
def TY {n I:Nat}{o:List Tok}{W:RS}{d:Nat}{t:Tok}{b:List Tok}(e:W.rem=t::b)(a:Ld t)(l:W.XT.text≠[46])(h:4<=d)(k:W.c<900):
  mR n I o d 39 [.r n] W .n (W.XT.use t):=by
 intro H r;refine lR 1 h rfl λd h=>?_;have c:W.text=t.t:=by simp[RS.text,e]
 exact aj (Vc (d:=d) e a.1 l (dn h rfl) k H r) λf g i j=>⟨f,(tm (f:=ef) rfl rfl λm=>m r.Yd _ _ (zz (d:=d) (s:=c0) r (dn h rfl)<|by refine aa c ?_;exact a.2.1) r.Yd _ _ (zz (d:=d) (s:=lU) r (dn h rfl)<|by refine aa c ?_;exact a.2.2.1) r.Yd _ _ (zz (d:=d) (s:=gE) r (dn h rfl)<|by refine aa c ?_;exact a.2.2.2.1) r.Yd _ _ (zz (d:=d) (s:=eg) r (dn h rfl)<|by refine aa c ?_;exact a.2.2.2.2) r.Yd _ _ g),i,j⟩
def VU (e:W.rem=t::rest)(a:Ld t)(l:W.XT.text≠[46])(h:5<=d)(c:W.c<890):
  mR n I o d 41 [.r n] W .n (W.XT.YX t):=by
 by_cases b:cu t.t W.a=-2
 ·exact UX e a.1 b (MP h rfl) c
 ·intro H r
  refine lR 1 h rfl λd h=>?_;have q:=Sa (d:=d) r<|dn h rfl;rw[(by simp only[RS.isNm,e,a.1];simp:W.isNm=true)]at q;have f:=Ke (d:=d) r<|dn h rfl;rw[(by simp[RS.text,e]:W.text=t.t)]at f;exact aj (TY (d:=d) e a l (dn h rfl) (yw c rfl) H r) λg i j k=>⟨g,(tm (f:=gk) rfl rfl λm=>m r.Yd _ _ q r.Yd r.Yd _ _ f _ _ (R7 (d:=d) (nm:=t.t) r<|dn h rfl) _ (fv rfl b) r.Yd _ _ i),by simpa only[RS.YX,nr,b,if_false]using j,k⟩
section
variable{cl:Cl}{lp:ZD}{l:Lo}{H:Hp}
def rv (c:ai cl l n H=some (.i k,H1))(h:0<=k)(h1:k<=1000000):
  bx cl lp l H (.h i n b)=aK (λv d a=>XU cl lp (d.set i<|some v) a b) (λ_=>true) (bS 0 k.toNat 1) l H1:=by
 exact Ba.trans<|(bI c).trans<|Xr<|lQ.mpr ⟨h,h1⟩
end
def Z (r:Option<|b×Hp)(Q:b->Hp->Prop):Prop:=∃a H,r=some (a,H)/\Q a H
def Pz {a:Type}{Q:a->Hp->Prop}{C:Prop}(h:Z none Q):C:=h.elim λ_ h=>h.elim λ_ h=>cE h.1 nt
def Gc {c:Type}{a:c}{H:Hp}{Q:c->Hp->Prop}(h:Z (some (a,H)) Q):Q a H:=h.elim λb h=>h.elim λK h=>aQ h.1 λe d=>(by rw[e,d];exact h.2)
def Tr (c:Cl)(l:Lo)(P:Hp->Prop)(s:List MS)(Q:Fl->Hp->Prop):Prop:=∀H,P H->Z (XU c a4 l H s) Q
def Tn (c:Cl)(l:Lo)(P:Hp->Prop)(s:MS)(R:Lo->Hp->Prop):Prop:=∀H,P H->∃b a,bx c a4 l H s=some (.n b,a)/\R b a
def CT (c:Cl)(k:Nat)(b:List V)(P:Hp->Prop)(R:V->Hp->Prop):Prop:=∀H,P H->∃v a,c k b H=some (.v v,a)/\R v a
def Rt (R:V->Hp->Prop)(f:Fl)(H:Hp):Prop:=match f with | .n _=>R .n H| .r v=>R v H| .e _ _=>False
def Nx (S:Lo->Hp->Prop)(f:Fl)(H:Hp):Prop:=∃l,f=.n l/\S l H
section
variable{cl:Cl}{l:Lo}{P P':Hp->Prop}{ss:List MS}{Q:Fl->Hp->Prop}
def ay (h:∀H,P H->Q (.n l) H):Tr cl l P [] Q:=λH p=>⟨_,_,rfl,h H p⟩
def d7 (h:∀H,P H->P' H)(k:Tr cl l P' ss Q):Tr cl l P ss Q:=λH p=>k H<|h H p
def qM {s:MS}{R:Lo->Hp->Prop}(h:Tn cl l P s R)(k:∀b,Tr cl b (R b) ss Q):Tr cl l P (s::ss) Q:=λH p=>by exact dH (h H p) λb c e q=>dH (k b c q) λa d f z=>⟨a,d,by rw[aV,e];exact f,z⟩
def aW {s:MS}{l':Lo}(h:∀H,P H->∃b,bx cl a4 l H s=some (.n l',b)/\P' b)(k:Tr cl l' P' ss Q):Tr cl l P (s::ss) Q:=λH p=>by exact ag (h H p) λc e q=>dH (k c q) λa d f z=>⟨a,d,by rw[aV,e];exact f,z⟩
def NJ {c:ME}{t f:List MS}{R:Bool->Hp->Prop}{S:Lo->Hp->Prop}(n:∀H,P H->∃b j,ai cl l c H=some (.b b,j)/\R b j)(r:Tr cl l (R true) t<|Nx S)(o:Tr cl l (R false) f<|Nx S):Tn cl l P (.i c t f) S:=λH p=>by
 refine cps λC k=>dH (n H p) λb m e q=>k ?_;cases b with
 |true=>refine cps λC k=>lV (r m q) λa d g i h z=>?_;subst h;exact k<|⟨i,d,by rw[li,e];exact g,z⟩
 |false=>refine cps λC k=>lV (o m q) λa d g i h z=>?_;subst h;exact k<|⟨i,d,by rw[li,e];exact g,z⟩
def dZ {d k:Nat}{f:Fn}{g:List V}{R:V->Hp->Prop}(j:EI k=some f)(m:g.length=f.p)(c:g.map some++List.replicate (f.vars-f.p) none=l)(i:f.body=ss)(h:Tr (ae d) l P ss<|Rt R):CT (ae<|d+1) k g P R:=λH p=>by
 refine dH (h H p) λa o e q=>?_;have s:=aU (d:=d) (H:=H) j m;rw[c,i,e]at s;clear e;cases a with
 |n t=>exact⟨_,_,s,q⟩
 |r v=>exact⟨_,_,s,q⟩
 |e a b=>exact q.elim
end
section
variable{cl:Cl}{l:Lo}{P P':Hp->Prop}{ss:List MS}{Q:Fl->Hp->Prop}
def hJ (ss):∀(t:List MS) (l:Lo) (H:Hp),XU cl b l H (t++ss)=M8 cl b ss (XU cl b l H t):=λt=>by
 induction t with
 |nil=>intro l H;rfl
 |cons s t i=>
  intro l H;show nx (bx cl b l H s) (λl H=>XU cl b l H<|t++ss)=M8 cl b ss (nx (bx cl b l H s) λl H=>XU cl b l H t);cases bx cl b l H s with
  |none=>rfl
  |some x=>obtain⟨a,c⟩:=x;cases a with |n d=>exact i d c|_=>rfl
def Tg (f:V->Lo->Hp->Option (Fl×Hp))(v:List V)(l:Lo)(P:Hp->Prop)(S:Lo->Hp->Prop):Prop:=∀H,P H->∃b a,aK f (λ_=>true) v l H=some (.n b,a)/\S b a
def vY {f:V->Lo->Hp->Option (Fl×Hp)}{S:Lo->Hp->Prop}(h:∀H,P H->S l H):Tg f [] l P S:=λH p=>⟨_,_,bp rfl,h H p⟩
def lZ {i:Nat}{v:V}{d:List V}{b:List MS}{R S:Lo->Hp->Prop}(h:Tr cl (l.set i<|some v) P b<|Nx R)(k:∀c,Tg (λv l H=>XU cl a4 (l.set i<|some v) H b) d c (R c) S):Tg (λv l H=>XU cl a4 (l.set i<|some v) H b) (v::d) l P S:=λH p=>by refine cps λC n=>lV (h H p) λa f e c m q=>?_;subst m;exact dH (k c f q) λo g j s=>n<|⟨o,g,(aS rfl e).trans j,s⟩
def L8 {i:Nat}{n:ME}{m:Nat}{b:List MS}{S:Lo->Hp->Prop}(d:∀H,P H->ai cl l n H=some (.i m,H))(c:Nat.ble m 1000000=true)(h:Tg (λv l H=>XU cl a4 (l.set i<|some v) H b) (bS 0 m 1) l P S):Tn cl l P (.h i n b) S:=λH p=>by exact dH (h H p) λf a e s=>⟨f,a,(rv (d H p) (YG m)<|by have:=Yb c;exact(Ys (n:=1000000)).mpr this).trans e,s⟩
def bG {c:ME}{t f:List MS}(h:∀H,P H->ai cl l c H=some (.b true,H))(k:Tr cl l P (t++ss) Q):Tr cl l P (.i c t f::ss) Q:=λH p=>by have e:=k H p;rw[hJ]at e;rw[aV,li,h H p];exact e
def aN {c:ME}{t f:List MS}(h:∀H,P H->ai cl l c H=some (.b false,H))(k:Tr cl l P (f++ss) Q):Tr cl l P (.i c t f::ss) Q:=λH p=>by have e:=k H p;rw[hJ]at e;rw[aV,li,h H p];exact e
def rU {i:Nat}{n:ME}{b:List MS}(h:∀H,P H->ai cl l n H=some (.i 0,H))(k:Tr cl l P ss Q):Tr cl l P (.h i n b::ss) Q:=λH p=>by have e:=k H p;rw[aV,rv (h H p) (by decide)<|by decide];exact e
def vE {i:Nat}{n:ME}{b:List MS}(h:∀H,P H->ai cl l n H=some (.i 1,H))(d:∀x y H,¬Q (.e x y) H)(k:Tr cl (l.set i<|xI 0) P (b++ss) Q):Tr cl l P (.h i n b::ss) Q:=λH p=>by have e:=k H p;rw[hJ]at e;have e:=e;rw[aV,rv (h H p) (by decide)<|by decide];show Z (M8 cl a4 ss<|gd true<|fx (XU cl a4 (l.set i<|xI 0) H b) λf c=>aK _ _ [] f c) Q;generalize XU cl a4 (l.set i<|xI 0) H b=r at e;cases r with |none=>exact Pz e|some p=>obtain⟨a,c⟩:=p;cases a with |e x y=>exact(d _ _ _<|Gc e).elim|_=>exact e
def rq {k:Nat}{a:List ME}{vs:List V}{g:Type}{T:g->Hp->Prop}(h:∀H,Zc cl l a H=some (vs,H))(d:CT cl k vs P (λv H=>v=.n/\∃K,T K H))(f:∀K,Tr cl l (T K) ss Q):Tr cl l P (.x (.c k a)::ss) Q:=λH p=>by refine Cc (d H p) λ_ b e c K t=>?_;subst c;exact aW (P:=λX=>X=H) (λX z=>⟨b,by rw[z];simp[h,e],t⟩) (f K) H rfl
end
section
variable{cl:Cl}{l:Lo}{P P':Hp->Prop}{ss:List MS}{Q:Fl->Hp->Prop}
def vh {s:MS}{S:Lo->Hp->Prop}(h:Tr cl l P [s]<|Nx S):Tn cl l P s S:=λH p=>by refine lV (h H p) λa d e f b q=>?_;subst b;rw[aV]at e;generalize bx cl a4 l H s=r at e;cases r with |none=>exact cQ e|some p=>obtain⟨a,c⟩:=p;cases a with |n g=>cases e;exact⟨_,_,rfl,q⟩|_=>cases e
def Ar (x y:V)(H:Hp):¬Nx S (.e x y) H:=λ⟨_,h,_⟩=>nomatch h
def fD (x y:V)(H:Hp):¬Rt R (.e x y) H:=λh=>h
def dB {c:ME}{t f:List MS}(h:∀H,P H->∃a,ai cl l c H=some (.b true,a)/\P' a)(k:Tr cl l P' (t++ss) Q):Tr cl l P (.i c t f::ss) Q:=λH p=>by refine ag (h H p) λa b d=>?_;have e:=k a d;rw[hJ]at e;rw[aV,li,b];exact e
def a8 (h:∀H,P H->∃a,ai cl l c H=some (.b false,a)/\P' a)(k:Tr cl l P' (f++ss) Q):Tr cl l P (.i c t f::ss) Q:=λH p=>by refine ag (h H p) λa b d=>?_;have e:=k a d;rw[hJ]at e;rw[aV,li,b];exact e
def cT (h:∀H,P H->∃a,ai cl l c H=some (.b false,a)/\P' a)(k:Tr cl l P' ss Q):Tr cl l P (.w c b::ss) Q:=λH p=>by refine ag (h H p) λa e d=>?_;rw[aV,aG,e];exact(k a d)
def cU (g:∀x y H,¬Q (.e x y) H)(h:∀H,P H->∃d,ai cl l c H=some (.b true,d)/\P' d)(k:Tr cl l P' (b++.w c b::ss) Q):Tr cl l P (.w c b::ss) Q:=λH p=>by refine ag (h H p) λd f i=>?_;have e:=k d i;rw[hJ]at e;rw[aV,aG,f,qb,Xr rfl];generalize XU cl a4 l d b=r at e;cases r with |none=>exact Pz e|some p=>obtain⟨a,d⟩:=p;cases a with |e x y=>exact(g _ _ _<|Gc e).elim|_=>exact e
end
set_option genInjectivity false in
set_option genCtorIdx false
inductive IL where
 |f (k t:List Nat)
 |n (s:List Nat)
set_option genInjectivity false in
inductive PT where
 |f (k t:List Nat)
 |m (i:Nat)
noncomputable def hG:List IL->Nat->List PT
 | [],_=>[]
 | .f k t::r,i=>.f k t::hG r i
 | .n _::r,i=>.m i::hG r (i+1)
theorem jI{z}:hG [] z=[]:=rfl
theorem j5{z1 k t r}:hG (IL.f k t::r) z1=PT.f k t::hG r z1:=rfl
theorem jS{z s r}:hG (IL.n s::r) z=PT.m z::hG r (z+1):=rfl
noncomputable def nI:List IL->Nat
 | []=>0
 | .f _ _::r=>nI r
 | .n _::r=>nI r+1
theorem bO:nI []=0:=rfl
theorem b8{k t r}:nI (IL.f k t::r)=nI r:=rfl
theorem cj{s r}:nI (IL.n s::r)=nI r+1:=rfl
noncomputable def lS:List IL->List (List Nat)
 | []=>[]
 | .f _ _::r=>lS r
 | .n s::r=>s::lS r
theorem Id:lS []=[]:=rfl
theorem HS{k t r}:lS (IL.f k t::r)=lS r:=rfl
theorem Ey{s r}:lS (IL.n s::r)=s::lS r:=rfl
noncomputable def jg:List IL->List Nat
 | []=>[]
 | .f _ t::r=>t++jg r
 | .n s::r=>s++jg r
theorem fL:jg []=[]:=rfl
theorem iI{k t r}:jg (IL.f k t::r)=t++jg r:=rfl
theorem gX{s r}:jg (IL.n s::r)=s++jg r:=rfl
noncomputable def j0:List IL->Nat->List (Nat×List Nat)
 | [],_=>[]
 | .f _ t::r,p=>j0 r<|p+t.length
 | .n s::r,p=>(p,s)::j0 r (p+s.length)
theorem df{z}:j0 [] z=[]:=rfl
theorem d6{z k t r}:j0 (IL.f k t::r) z=j0 r (z+t.length):=rfl
theorem dh{z s r}:j0 (IL.n s::r) z=(z,s)::j0 r (z+s.length):=rfl
noncomputable def mE:List PT->List PT
 | []=>[]
 | .f k t::r=>if cq k then .f k t::mE r else mE r
 | .m i::r=>.m i::mE r
theorem o5:mE []=[]:=rfl
theorem pz{k t r}:mE (PT.f k t::r)=if cq k=true then PT.f k t::mE r else mE r:=rfl
theorem o6{i r}:mE (PT.m i::r)=PT.m i::mE r:=rfl
def bY (L:List IL)(i:Nat):List PT:=mE<|hG L i
@[simp]theorem bh:∀(A B:List IL) (i:Nat),hG (A++B) i=hG A i++hG B (i+nI A)
 | [],B,i=>by simp[jI,bO]
 | .f k t::r,B,i=>by simp[j5,b8,bh r]
 | .n s::r,B,i=>by simp[jS,cj,bh r,X7,Y3 1]
@[simp]theorem ah(A B:List IL):nI (A++B)=nI A+nI B:=by
 induction A with
 |nil=>exact(Yx _).symm
 |cons e r i=>cases e with
  |f=>exact i
  |n=>exact(Xy (·+1) i).trans (succ_add ..).symm
@[simp]theorem wn(A B:List IL):lS (A++B)=lS A++lS B:=by
 induction A with
 |nil=>exact rfl
 |cons e r i=>cases e with
  |f=>exact i
  |n=>exact Xy (_::·) i
@[simp]theorem rr(A:List IL):(lS A).length=nI A:=by
 induction A with
 |nil=>exact rfl
 |cons e r i=>cases e with
  |f=>exact i
  |n=>exact Xy (·+1) i
@[simp]theorem I8(A B:List IL):jg (A++B)=jg A++jg B:=by
 induction A with
 |nil=>exact rfl
 |cons e r i=>cases e with
  |f=>exact(Xy (_++·) i).trans (XM ..).symm
  |n=>exact(Xy (_++·) i).trans (XM ..).symm
@[simp]theorem wu:∀(A B:List IL) (p:Nat),j0 (A++B) p=j0 A p++j0 B (p+(jg A).length)
 | [],B,p=>by simp[df,d6,dh,fL,iI,gX]
 | .f k t::r,B,p=>by simp[df,d6,dh,fL,iI,gX,wu r,X7]
 | .n s::r,B,p=>by simp[df,d6,dh,fL,iI,gX,wu r,X7]
@[simp]theorem md(A:List IL)(p:Nat):(j0 A p).length=nI A:=by
 induction A generalizing p with
 |nil=>rfl
 |cons e r i=>cases e with
  |f=>exact i _
  |n=>exact Xy (·+1)<|i _
def Fc (A:List IL)(p:Nat):(j0 A p).map (·.2)=lS A:=by
 induction A generalizing p with
 |nil=>rfl
 |cons e r i=>cases e with
  |f=>exact i _
  |n=>exact Xy (_::·)<|i _
@[simp]theorem ya:∀(A B:List PT),mE (A++B)=mE A++mE B
 | [],B=>by simp[o5,pz,o6]
 | .f k t::r,B=>by simp only[bE,o5,pz,o6,ya r];split<;> simp
 | .m s::r,B=>by simp[o5,pz,o6,ya r]
@[simp]theorem bn(A B)(i):bY (A++B) i=bY A i++bY B (i+nI A):=by simp[bY]
abbrev g1:IL:=.f eI [32]
abbrev wW (t:List Nat):IL:=.f ac t
abbrev sg (c:Nat):IL:=.f ak [c]
abbrev fn (t:List Nat):IL:=.f Xw t
abbrev n1:IL:=.f pj [49]
noncomputable abbrev Yt:List Nat:=[67,79,78,83,84]
noncomputable abbrev YK:List Nat:=[84,89,80,69]
noncomputable abbrev YV:List Nat:=[86,65,82]
noncomputable abbrev bL:List Nat:=[66,69,71,73,78]
noncomputable abbrev PP:List Nat:=[73,70]
noncomputable abbrev lF:List Nat:=[84,72,69,78]
noncomputable abbrev fg:List Nat:=[82,69,84,85,82,78]
noncomputable abbrev oP:List Nat:=[77,79,68,85,76,69]
noncomputable abbrev eu:List Nat:=[73,77,80,79,82,84]
noncomputable abbrev yl:List Nat:=[67,65,83,69]
noncomputable abbrev MO:List Nat:=[73,78,84,69,71,69,82]
noncomputable abbrev I7:List Nat:=[65,66,83]
noncomputable abbrev wf:List Nat:=[102,114,101,115,104]
noncomputable def uR:List Nat:=[116,121,112,101]
noncomputable def AE:List Nat:=[118,97,114]
noncomputable def a9:List Nat:=[112,114,111,99]
noncomputable def vM:List Nat:=[112,97,114]
abbrev Nm:=List Nat
inductive Ev where
 |u (i:Nat)
 |w (i:Nat)
 |d (i:Nat) (k:List Nat)
 |r
 |o
 |c
 |f (i j:Nat)
set_option genInjectivity false in
inductive Vl where
 |v0 (x:Nm)
 |v1 (x y:Nm)
 |v2 (x:Nm)
 |v3 (x:Nm)
def dv:Vl->List IL
 | .v0 x=>[.n x]
 | .v1 x y=>[.n x,g1,sg 43,g1,.n y]
 | .v2 x=>[.n x,sg 46,fn [97]]
 | .v3 x=>[.n x,sg 40,.n [98],sg 46,fn [99],sg 44,g1,n1,g1,.f nQ uv,sg 41]
theorem Oh{z}:dv (Vl.v0 z)=[IL.n z]:=rfl
theorem ML{z y}:dv (Vl.v1 z y)=[IL.n z,g1,sg 43,g1,IL.n y]:=rfl
theorem NO{z}:dv (Vl.v2 z)=[IL.n z,sg 46,fn [97]]:=rfl
theorem OC{z}:dv (Vl.v3 z)=[IL.n z,sg 40,IL.n [98],sg 46,fn [99],sg 44,g1,n1,g1,IL.f nQ uv,sg 41]:=rfl
noncomputable def kH:Vl->Nat->List Ev
 | .v0 _,i=>[.u i]
 | .v1 _ _,i=>[.u i,.u<|i+1]
 | .v2 _,i=>[.u i]
 | .v3 _,i=>[.u i,.u<|i+1]
theorem Nt{z a}:kH (Vl.v0 a) z=[Ev.u z]:=rfl
theorem Nv{z a y}:kH (Vl.v1 a y) z=[Ev.u z,Ev.u<|z+1]:=rfl
theorem Ma{z a}:kH (Vl.v2 a) z=[Ev.u z]:=rfl
theorem Nz{z a}:kH (Vl.v3 a) z=[Ev.u z,Ev.u<|z+1]:=rfl
set_option genInjectivity false in
inductive Kd where
 |n (x:Nm)
 |r (K:Kd)
 |p (x:Nm)
 |a (v:Vl) (K:Kd)
 |c (x:Nm)
def xl:List IL:=[wW lU,g1,fn [97],sg 44,g1,fn [100],sg 58,g1]
def CE:List IL:=[sg 59,g1,fn [101],sg 42,sg 58,g1,.n MO,g1,wW bW]
noncomputable def iO:Kd->List IL
 | .n x=>[.n x]
 | .r K=>xl++iO K++CE
 | .p x=>[wW gE,g1,wW SQ,g1,.n x]
 | .a v K=>[wW c0,g1]++dv v++[g1,wW xh,g1]++iO K
 | .c x=>[wW eg,g1,sg 40,fn [99],sg 58,g1,.n x,sg 41]
theorem qa{z}:iO (Kd.n z)=[IL.n z]:=rfl
theorem jD{K}:iO K.r=xl++iO K++CE:=rfl
theorem qj{z}:iO (Kd.p z)=[wW gE,g1,wW SQ,g1,IL.n z]:=rfl
theorem gy{v K}:iO (Kd.a v K)=[wW c0,g1]++dv v++[g1,wW xh,g1]++iO K:=rfl
theorem mV{z}:iO (Kd.c z)=[wW eg,g1,sg 40,fn [99],sg 58,g1,IL.n z,sg 41]:=rfl
noncomputable def nh:Kd->Nat->List Ev
 | .n _,i=>[.u i]
 | .r K,i=>nh K i++[.u<|i+nI (iO K)]
 | .p _,i=>[.w i]
 | .a v K,i=>kH v i++nh K (i+nI (dv v))
 | .c _,i=>[.u i]
theorem fJ{z a}:nh (Kd.n a) z=[Ev.u z]:=rfl
theorem fB{z K}:nh K.r z=nh K z++[Ev.u<|z+nI (iO K)]:=rfl
theorem fH{z a}:nh (Kd.p a) z=[Ev.w z]:=rfl
theorem d8{z v K}:nh (Kd.a v K) z=kH v z++nh K (z+nI (dv v)):=rfl
theorem e6{z a}:nh (Kd.c a) z=[Ev.u z]:=rfl
noncomputable def Aw:Kd->Nat
 | .r K=>Aw K+1
 | .a _ K=>Aw K+1
 |_=>0
theorem LT{K}:Aw K.r=Aw K+1:=rfl
theorem Os{v K}:Aw (Kd.a v K)=Aw K+1:=rfl
set_option genInjectivity false in
structure Dc where
 c:Option (Option<|Nm×Vl)
 t:Option (Option<|Nm×Kd)
 v:Option<|Option<|Nm×Kd
def bT (w:List Nat):List IL:=[g1,wW w,g1]
def sX:Option (Option<|Nm×Vl)->List IL
 |none=>[]
 |some none=>bT Yt
 |some (some (x,v))=>bT Yt++([.n x,g1,sg 61,g1]++dv v++[sg 59,g1])
theorem FI:sX none=[]:=rfl
theorem G9:sX (some none)=bT Yt:=rfl
theorem m0{z v}:sX (some<|some (z,v))=bT Yt++([IL.n z,g1,sg 61,g1]++dv v++[sg 59,g1]):=rfl
def vW:Option (Option<|Nm×Kd)->List IL
 |none=>[]
 |some none=>bT YK
 |some (some (x,K))=>bT YK++([.n x,sg 42,g1,sg 61,g1]++iO K++[sg 59,g1])
theorem Aj:vW none=[]:=rfl
theorem zm:vW (some none)=bT YK:=rfl
theorem nC{z K}:vW (some<|some (z,K))=bT YK++([IL.n z,sg 42,g1,sg 61,g1]++iO K++[sg 59,g1]):=rfl
def AM:Option (Option<|Nm×Kd)->List IL
 |none=>[]
 |some none=>bT YV
 |some (some (x,K))=>bT YV++([.n x,sg 58,g1]++iO K++[sg 59,g1])
theorem Ak:AM none=[]:=rfl
theorem AY:AM (some none)=bT YV:=rfl
theorem mU{z K}:AM (some<|some (z,K))=bT YV++([IL.n z,sg 58,g1]++iO K++[sg 59,g1]):=rfl
def uu:Option (Option<|Nm×Vl)->Nat->List Ev
 |some (some (_,v)),i=>kH v (i+1)++[.d i sK]
 |_,_=>[]
def zy:Option (Option<|Nm×Kd)->Nat->List Ev
 |none,_=>[]
 |some none,_=>[.r]
 |some (some (_,K)),i=>.d i uR::nh K (i+1)++[.r]
theorem nj{z}:zy none z=[]:=rfl
theorem ni{z}:zy (some none) z=[Ev.r]:=rfl
theorem jB{z f K}:zy (some<|some (f,K)) z=Ev.d z uR::nh K (z+1)++[Ev.r]:=rfl
def Bi:Option (Option<|Nm×Kd)->Nat->List Ev
 |none,_=>[]
 |some none,_=>[.r]
 |some (some (_,K)),i=>nh K (i+1)++[.d i AE,.r]
theorem nq{z}:Bi none z=[]:=rfl
theorem nU{z}:Bi (some none) z=[Ev.r]:=rfl
theorem lx{z f K}:Bi (some<|some (f,K)) z=nh K (z+1)++[Ev.d z AE,Ev.r]:=rfl
def aR (d:Dc):List IL:=sX d.c++vW d.t++AM d.v
def cM (d:Dc)(i:Nat):List Ev:=uu d.c i++zy d.t (i+nI (sX d.c))++Bi d.v (i+nI (sX d.c)+nI (vW d.t))
set_option genInjectivity false in
structure Pr where
 nm:Nm
 p:Option (Nm×Nm×Nm)
 d:Dc
 v1:Vl
 x:Nm
 v2:Vl
def cr:Option (Nm×Nm×Nm)->List IL
 |none=>[]
 |some (a,b,x)=>[sg 40,wW YV,g1,.n a,sg 44,g1,.n b,sg 58,g1,wW c0,g1,wW xh,g1,.n x,sg 41]
def rk:Option (Nm×Nm×Nm)->Nat->List Ev
 |none,_=>[]
 |some _,i=>[.u<|i+2,.d i vM,.d (i+1) vM]
def t8:List IL:=[g1,wW bL,g1,wW PP,g1]
def I0 (x:Nm):List IL:=[g1,wW lF,g1,.n x,g1,.f ak [58,61],g1,n1,g1,wW bW,g1,wW fg,g1]
def JN (v:Vl)(x:Nm)(a:Vl):List IL:=t8++dv v++I0 x++dv a++[g1,wW bW,g1]
def qd (v a:Vl)(i:Nat):List Ev:=kH v i++.u (i+nI (dv v))::kH a (i+nI (dv v)+1)
def uE (p:Pr):List IL:=[g1,wW eg,g1,.n p.nm]++cr p.p++[sg 59]++aR p.d++JN p.v1 p.x p.v2++[.n p.nm,sg 59]
def nB (v a:Vl):Nat:=nI (dv v)+1+nI (dv a)
def jw (p:Pr)(i:Nat):List Ev:=.d i a9::.o::rk p.p (i+1)++cM p.d (i+1+nI (cr p.p))++qd p.v1 p.v2 (i+1+nI (cr p.p)+nI (aR p.d))
 ++[.f (i+1+nI (cr p.p)+nI (aR p.d)+nB p.v1 p.v2) i,.c]
set_option genInjectivity false in
structure Md where
 i:Option (Bool×Nm)
 d:Dc
 p:Option Pr
 x:Nm
 v:Vl
def bj:Option (Bool×Nm)->List IL
 |none=>[]
 |some (false,a)=>[wW eu,g1,.n a,g1,.f ak [58,61],g1,fn [98],sg 59,g1]
 |some (true,a)=>[wW eu,g1,.n a,sg 59,g1]
theorem zC:bj none=[]:=rfl
theorem za{a}:bj (some (false,a))=[wW eu,g1,IL.n a,g1,IL.f ak [58,61],g1,fn [98],sg 59,g1]:=rfl
theorem zg{a}:bj (some (true,a))=[wW eu,g1,IL.n a,sg 59,g1]:=rfl
def g9:Option (Bool×Nm)->Nat->List Ev
 |none,_=>[]
 |some (false,_),i=>[.d i wA]
 |some (true,_),i=>[.d i b9]
theorem qI{z}:g9 none z=[]:=rfl
theorem qx{z s}:g9 (some (false,s)) z=[Ev.d z wA]:=rfl
theorem pY{z s}:g9 (some (true,s)) z=[Ev.d z b9]:=rfl
def fR:Option Pr->List IL
 |none=>[]
 |some p=>uE p
def qV:Option Pr->Nat->List Ev
 |none,_=>[]
 |some p,i=>jw p i
def oy:List IL:=[wW oP,g1,fn [97],sg 59,g1]
def Dr (x:Nm):List IL:=[g1,wW bL,g1,.n x,sg 59,g1,wW yl,g1]
def HN:List IL:=[g1,wW xh,g1,n1,sg 58,g1,wW bW,g1,wW bW,g1,fn [97],sg 46]
def aP (m:Md):List IL:=oy++bj m.i++aR m.d++fR m.p++Dr m.x++dv m.v++HN
def ku (m:Md):List Ev:=g9 m.i 0++cM m.d (nI<|bj m.i)++qV m.p (nI (bj m.i)+nI (aR m.d))++.u (nI (bj m.i)+nI (aR m.d)+nI (fR m.p))::kH m.v (nI (bj m.i)+nI (aR m.d)+nI (fR m.p)+1)
set_option genInjectivity false in
structure PS where
 a:List Sc
 b:List (List Nat)
 f:List (Nat×Int)
 l:List Nat
 t:Nat
def YO:Sc:=[(I7,-1),(MO,-1)]
def PS.seek (S:PS)(n:Nm):Int:=cu n<|S.a++[YO]
noncomputable def cH(j:Nat):List (Nat×Int)->Int
 | []=>0
 |(a,v)::r=>if a=j then v else cH j r
theorem jA{j}:cH j []=0:=rfl
theorem jG{j}{r}:cH j (x::r)=if x.1=j then x.2 else cH j r:=rfl
noncomputable def PS.add(S:PS)(i:Nat)(v:Int):PS:={S with f:=S.f++[(i,v)]}
section
variable(wd:Nat->Nm)
def PS.Yq (S:PS)(F:List<|Nat×Int)(j:Nat):List<|Nat×Int:=F.set j ((F.getD j (0,0)).1,max (S.seek<|wd (F.getD j (0,0)).1)<|-1)
def PS.step (S:PS):Ev->PS
 | .u i=>S.add i<|max (S.seek<|wd i)<|-1
 | .w i=>if S.seek (wd i)=-2 then{S with f:=S.f++[(i,-1)],l:=S.l++[S.f.length]}else S.add i<|max (S.seek<|wd i)<|-1
 | .d i k=>match S.a with
  |s::c=>if(gQ (wd i) s).isSome then{S with b:=S.b++[k],t:=S.t+1,f:=S.f++[(i,(S.b.length:Int))]}
   else{S with b:=S.b++[k],a:=putN (wd i) S.b.length s::c,f:=S.f++[(i,(S.b.length:Int))]}
  | []=>S
 | .r=>{S with f:=S.l.foldl (S.Yq wd) S.f,l:=[]}
 | .o=>{S with a:=[]::S.a}
 | .c=>{S with a:=S.a.tail}
 | .f i j=>S.add i<|cH j S.f
def PS.run (S:PS)(es:List Ev):PS:=es.foldl (PS.step wd) S
@[simp]theorem SU(S:PS):S.run wd []=S:=rfl
@[simp]theorem eG(S:PS)(e:Ev)(es:List Ev):S.run wd (e::es)=(S.step wd e).run wd es:=rfl
@[simp]theorem ax(S:PS)(a b:List Ev):S.run wd (a++b)=(S.run wd a).run wd b:=by simp[PS.run]
end
noncomputable def YB:PS:=⟨[[]],[],[],[],0⟩
def cK:List Nm:=[[97],[98],[99],[100],I7,MO,wf]
section
variable{α β:Type}{R R':α->β->Prop}{l:List α}{k:List β}
noncomputable def A2(R:α->β->Prop):List α->List β->Prop
 | [],[]=>True
 |a::l,b::k=>R a b/\A2 R l k
 |_,_=>False
def A2.ind {M:List α->List β->Prop}(c:M [] [])(h1:∀{a b l k},R a b->M l k->M (a::l) (b::k)):∀{l:List α}{k:List β},A2 R l k->M l k:=by
 intro l;induction l with
 |nil=>intro k h;cases k with
  |nil=>exact c
  |cons b k=>exact h.elim
 |cons a l i=>intro k h;cases k with
  |nil=>exact h.elim
  |cons b k=>exact h1 h.1<|i h.2
def A2.len (h:A2 R l k):l.length=k.length:=A2.ind (M:=λ(a:List α) (b:List β)=>a.length=b.length) rfl (λ_=>Xy (·+1)) h
def A2.mono (f:∀{a b},R a b->R' a b)(h:A2 R l k):A2 R' l k:=A2.ind (M:=A2 R') trivial (λa i=>⟨f a,i⟩) h
def A2.mem {P:α->Prop}(f:∀{a b},R a b->P a)(h:A2 R l k):∀a∈l,P a:=
 A2.ind (M:=λl _=>∀a∈l,P a) (λ_ h=>Xv h XZ) (λa i u c=>(XD.1 c).elim (λz=>z▸f a)<|i u) h
end
noncomputable def Ue:List Nm:=[[66,79,79,76,69,65,78],[67,72,65,82],[66,89,84,69],[73,78,84,69,71,69,82],[83,69,84],[84,82,85,69],[70,65,76,83,69],[65,66,83],[79,68,68],[76,69,78],[76,83,76],[65,83,82],[82,79,82],[79,82,68],[67,72,82],[73,78,67],[68,69,67],[73,78,67,76],[69,88,67,76],[78,69,87],[65,83,83,69,82,84]]
def iL:Sc:=Ue.map λx=>(x,-1)
def Is:∀n∈cK,gQ n iL=gQ n YO:=by decide
theorem tA(h:n∈cK):∀a:List Sc,cu n (a++[iL])=cu n (a++[YO])
 | []=>by simp[fq,Is n h]
 |s::a=>by simp[fq,tA h a]
section
variable(wd:Nat->Nm)(pl:Nat->Int)
structure jv(W:RS)(S:PS):Prop where
 sc:W.a=S.a++[iL]
 g:W.b=S.b
 fd:W.f=S.f.map λx=>(pl x.1,wd x.1,x.2)
 db:W.e.length=S.t
 l:W.d=S.l
def Sl (t:Tok):PT->Prop
 | .f k s=>t.k=k/\t.t=s
 | .m i=>t=⟨Xw,wd i,pl i⟩
def yY:List PT->List Tok->Prop:=A2 λp t=>Sl wd pl t p
noncomputable def nA:PT->Nm
 | .f _ t=>t
 | .m i=>wd i
end
def f6 (p:PT)(s:Nm):Bool:=match p with
 | .f _ t=>decide (t≠s)
 | .m _=>decide (s∉cK)
def GT:PT->Bool
 | .f k _=>decide (k=Xw)
 | .m _=>true
section
variable{wd:Nat->Nm}{pl:Nat->Int}
theorem wm:∀{A B:List PT}{T:List Tok},yY wd pl (A++B) T->∃c d,T=c++d/\yY wd pl A c/\yY wd pl B d
 | [],B,T,h=>⟨[],T,rfl,trivial,h⟩
 |p::A,B,[],h=>h.elim
 |p::A,B,t::T,h=>by exact am (wm (A:=A) h.2) λc d e a b=>⟨t::c,d,by refine aa e ?_;rfl,⟨h.1,a⟩,b⟩
def wl {A:List PT}{T:List Tok}(h:yY wd pl A T):T.length=A.length:=(A2.len h).symm
def aF {p:PT}{R:List PT}{T:List Tok}(h:yY wd pl (p::R) T){Cx:Prop}(k:∀t r,T=t::r->Sl wd pl t p->yY wd pl R r->Cx):Cx:=by
 cases T with
 |nil=>exact h.elim
 |cons t r=>exact k t r rfl h.1 h.2
def oN {t:Tok}{p:PT}(h:Sl wd pl t p):t.t=nA wd p:=by
 cases p with
 |f k s=>exact h.2
 |m i=>refine aa (show t=_ from h) ?_;rfl
def nu (a:∀i,wd i∈cK){p:PT}{s:Nm}(h:f6 p s=true):nA wd p≠s:=by
 cases p with
 |f k t=>simpa [f6,nA]using h
 |m i=>intro e;simp only[f6,Ym]at h;exact h<|e▸a i
def Nj {t:Tok}{p:PT}(h:Sl wd pl t p):decide (t.k=Xw)=GT p:=by
 cases p with
 |f k s=>refine aa h.1 ?_;rfl
 |m i=>refine aa (show t=_ from h) ?_;rfl
theorem jv.XT(h:jv wd pl W S):jv wd pl W.XT S:=by
 unfold RS.XT;cases W.rem with
 |nil=>exact h
 |cons t r=>exact⟨h.sc,h.g,h.fd,h.db,h.l⟩
def jv.put (h:jv wd pl W S)(i)(v):jv wd pl (W.put (pl i,wd i,v))<|S.add i v:=
 ⟨h.sc,h.g,by simp[RS.put,PS.add,h.fd],h.db,h.l⟩
def jv.seek (h:jv wd pl W S)(a:nm∈cK):cu nm W.a=S.seek nm:=by rw[h.sc,tA a];rfl
def jv.use (h:jv wd pl W S)(a:∀i,wd i∈cK)(i):jv wd pl (W.use ⟨Xw,wd i,pl i⟩)<|S.step wd<|.u i:=by have:=h.put i<|max (S.seek<|wd i)<|-1;simpa only[RS.use,PS.step,h.seek<|a i]using this
def jv.YX (h:jv wd pl W S)(a:∀i,wd i∈cK)(i):jv wd pl (W.YX ⟨Xw,wd i,pl i⟩)<|S.step wd<|.w i:=by
 by_cases q:S.seek (wd i)=-2
 ·simp[RS.YX,PS.step,(h.seek<|a i),q]
  exact⟨h.sc,h.g,by simp[h.fd],h.db,by simp[h.l,h.fd,X6]⟩
 ·simp only[RS.YX,PS.step,(h.seek<|a i),q,if_false]
  exact h.use a i
theorem jv.decl(h:jv wd pl W S)(b:S.a≠[])(i)(k):jv wd pl (W.decl ⟨Xw,wd i,pl i⟩ k)<|S.step wd<|.d i k:=by
 cases e:S.a with
 |nil=>exact Xv e b
 |cons s c=>
  have a:W.a=s::(c++[iL]):=by refine aa h.sc<|aa e ?_;rfl
  simp only[RS.decl,PS.step,a,e];cases(gQ (wd i) s).isSome with
  |true=>simp only[if_true];exact⟨by simp only[e,bE],by simp only[h.g],by simp only[h.fd,h.g,Zq,af,map_nil],by simp only[XB,h.db,aM,bA],h.l⟩
  |false=>simp only[Ze,if_false];exact⟨by simp only[h.g,bE],by simp only[h.g],by simp only[h.fd,h.g,Zq,af,map_nil],h.db,h.l⟩
def jv.opn (h:jv wd pl W S):jv wd pl W.opn<|S.step wd .o:=
 ⟨by simp only[RS.opn,PS.step,h.sc,bE],h.g,h.fd,h.db,h.l⟩
theorem jv.cls(h:jv wd pl W S)(a:S.a≠[]):jv wd pl W.cls<|S.step wd .c:=by
 refine cps λC k=>?_;cases e:S.a with
 |nil=>exact Xv e a
 |cons s b=>refine k ?_;exact⟨by simp only[RS.cls,PS.step,h.sc,e,bE,tail_cons],h.g,h.fd,h.db,h.l⟩
def J7 {S:PS}(a:∀i,wd i∈cK)(F:List<|Nat×Int)(j:Nat)(b:j<F.length)(s:List Sc)(h:s=S.a++[iL]):
  (F.map λx=>(pl x.1,wd x.1,x.2)).set j (yc s<|(F.map λx=>(pl x.1,wd x.1,x.2)).getD j (0,[],0))=(S.Yq wd F j).map λx=>(pl x.1,wd x.1,x.2):=by
 have e:(F.map λx=>(pl x.1,wd x.1,x.2)).getD j (0,[],0)=(pl (F[j]).1,wd (F[j]).1,(F[j]).2):=by simp[Yr,Zt,XQ b]
 refine aa e ?_;simp only[PS.Yq,(by simp[Yr,XQ b]:F.getD j (0,0)=F[j]),yc,List.map_set,h,tA<|a _];rfl
def GL (S:PS)(F:List<|Nat×Int)(j:Nat):(S.Yq wd F j).length=F.length:=ZN
def JM (m:∀i,wd i∈cK){S:PS}(g:List Nat):∀(W:RS) (F:List<|Nat×Int),W.a=S.a++[iL]->(∀j∈g,j<F.length)->W.f=F.map (λx=>(pl x.1,wd x.1,x.2))->
  (W.ZC g).a=W.a/\(W.ZC g).b=W.b/\(W.ZC g).e=W.e/\(W.ZC g).rem=W.rem/\(W.ZC g).p=W.p/\(W.ZC g).f=(g.foldl (S.Yq wd) F).map (λx=>(pl x.1,wd x.1,x.2)):=by
 induction g with
 |nil=>intro W F l k h;exact⟨rfl,rfl,rfl,rfl,rfl,h⟩
 |cons j g o=>
  intro W F l k h;have h1:(W.Yq j).f=(S.Yq wd F j).map (λx=>(pl x.1,wd x.1,x.2)):=by simp only[RS.Yq,h];exact J7 m F j (k j<|.head _) _ l
  exact cps λC p=>rt (o (W.Yq j) (S.Yq wd F j) l (λq n=>by rw[GL];exact k q<|.tail _ n) h1) λa b c d e f=>p<|⟨a,b,c,d,e,f⟩
def jv.resolve {W:RS}{S:PS}(h:jv wd pl W S)(k:∀i,wd i∈cK)(m:∀j∈W.d,j<W.f.length):jv wd pl W.resolve (S.step wd .r)/\W.resolve.rem=W.rem/\W.resolve.p=W.p:=by exact cps λC n=>rt (JM k (S:=S) (pl:=pl) W.d W S.f h.sc (λj q=>by have:=m j q;rw[h.fd,X6]at this;exact this) h.fd) λa b c d e f=>n<|⟨⟨a.trans h.sc,b.trans h.g,by rw[h.l]at f;simp only[RS.resolve,PS.step,h.l];exact f,by simp only[RS.resolve,PS.step,c,h.db],rfl⟩,d,e⟩
end
section
variable(n I:Nat)(ts:List Tok)(wd:Nat->Nm)(pl:Nat->Int)
structure Qw(R:List PT)(S:PS)(m:Nat)(W:RS):Prop where
 mt:yY wd pl R W.rem
 ad:W.rem.length<ts.length
 d:W.p≠[46]
 st:jv wd pl W S
 ne:S.a≠[]
 c:W.c+W.d.length<=m
def Qh (R:List PT)(S:PS)(m:Nat)(H:Hp):Prop:=∃W,Rp n I ts H W/\Qw ts wd pl R S m W
def fZ (d k:Nat)(e:List V)(v:V)(R:List PT)(S:PS)(m:Nat)(H:Hp)(b:List PT)(c:PS)(f:Nat):Prop:=
 ∃a,ae d k e H=some (.v v,a)/\Qh n I ts wd pl b c f a/\ar n H a
end
section
variable{n I:Nat}{ts:List Tok}{wd:Nat->Nm}{pl:Nat->Int}(XJ:∀i,wd i∈cK)
variable{R:List PT}{S:PS}{m d:Nat}{H:Hp}{p:PT}
def Qh.Yd (q:Qh n I ts wd pl R S m H):Yd H n=true:=by refine ag q λW r _=>?_;exact r.Yd
def Qh.mono (q:Qh n I ts wd pl R S m H)(h:m<=a):Qh n I ts wd pl R S a H:=by refine ag q λW r q=>?_;exact⟨W,r,{q with c:=Xz q.c h}⟩
def Of (q:Qh n I ts wd pl (p::R) S m H)(h:1<=d):ae d 18 [.r n] H=some (.v<|.s<|nA wd p,H):=by refine cps λC k=>ag q λW r q=>aF q.mt λt c e a b=>?_;have:=Ke (d:=d) r h;refine k ?_;simp[this,RS.text,e,<- oN a]
def Pj (q:Qh n I ts wd pl (p::R) S m H)(h:1<=d):ae d 19 [.r n] H=some (.v<|.b<|GT p,H):=by refine cps λC k=>ag q λW r q=>aF q.mt λt c e a b=>?_;have:=Sa (d:=d) r h;refine k ?_;simp[this,RS.isNm,e,<- Nj a]
include XJ in
theorem Cu(q:Qh n I ts wd pl (p::R) S m H)(h:f6 p s=true)(c:2<=d):ae d 21 [.r n,.s s] H=some (.v<|.b false,H):=by exact cps λC k=>ag q λW r q=>aF q.mt λt f e a b=>k<|zz (d:=d) r c<|aa (by simp[RS.text,e]:W.text=t.t)<|aa (oN a)<|nu XJ h
theorem Qw.XT(q:Qw ts wd pl (p::R) S m W)(h:nA wd p≠[46]):Qw ts wd pl R S m W.XT:=by
 refine aF q.mt λt r e a b=>?_;have f:=q.ad;refine⟨by refine aa (fT e) ?_;exact b,by refine aa (fT e) ?_;rw[e]at f;exact zD f,?_,q.st.XT,q.ne,?_⟩
 ·have:W.XT.p=t.t:=by unfold RS.XT;exact aa e rfl
  refine aa this<|aa (oN a) ?_;exact h
 ·have:W.XT.d=W.d:=by unfold RS.XT;exact aa e rfl
  rw[this,ia];exact q.c
theorem Cv(q:Qh n I ts wd pl (.f k s::R) S m H)(j:s≠[46])(g:2<=d):fZ n I ts wd pl d 21 [.r n,.s s] (.b true) R S m H R S m:=by exact cps λC l=>ag q λW r q=>aF q.mt λt o e a b=>aj (Og (d:=d) e g a.2 H r) λc h1 h f=>l<|⟨c,h1,⟨_,h,q.XT j⟩,f⟩
theorem Pi(q:Qh n I ts wd pl (.f k s::R) S m H)(j:s≠[46])(g:3<=d):fZ n I ts wd pl d 22 [.r n,.s s] .n R S m H R S m:=by exact cps λC l=>ag q λW r q=>aF q.mt λt o e a b=>aj (Si (d:=d) e g a.2 H r) λc h1 h f=>l<|⟨c,h1,⟨_,h,q.XT j⟩,f⟩
theorem qo:∀x∈cK,x≠[46]:=by decide
include XJ in
theorem Gm{i:Nat}(q:Qh n I ts wd pl (.m i::R) S m H)(j:2<=d){Cx:Prop}(k:∀x c,ae d 23 [.r n] H=some (.v<|.r x,c)->Qh n I ts wd pl R S m c->ar n H c->dA n c x ⟨Xw,wd i,pl i⟩->Cx):Cx:=by exact ag q λW r q=>aF q.mt λt l e a b=>NB (d:=d) r e j (aa (a:t=⟨Xw,wd i,pl i⟩) rfl) λx c h1 f h g=>k x c h1 ⟨_,f,q.XT<|qo _<|XJ i⟩ h<|(a:t=⟨Xw,wd i,pl i⟩)▸g.keep h
theorem Bb(q:Qh n I ts wd pl (.f Xw s::R) S m H)(g:s≠[46])(f:2<=d):∃x H',ae d 23 [.r n] H=some (.v<|.r x,H')/\Qh n I ts wd pl R S m H'/\ar n H H':=by exact cps λC k=>ag q λW r q=>aF q.mt λt l e a b=>NB (d:=d) r e f a.1 λx H' h1 h c j=>k<|⟨x,H',h1,⟨_,h,q.XT g⟩,c⟩
theorem oE{W:RS}{t u:Tok}{r:List Tok}(e:W.rem=t::u::r):W.XT.text=u.t:=by simp[RS.text,fT e]
include XJ in
theorem zF{i:Nat}(q:Qh n I ts wd pl (.m i::p::R) S m H)(w:f6 p [46]=true)(s:3<=d)(v:m<880):fZ n I ts wd pl d 27 [.r n] .n (.m i::p::R) S m H (p::R) (S.step wd<|.u i)<|m+1:=by refine cps λC x=>ag q λW r q=>aF q.mt λt y e a b=>aF b λu y k j z=>?_;clear b;subst k;have h:t=⟨Xw,wd i,pl i⟩:=a;have f:=q.c;refine aj (Vc (d:=d) e (aa h rfl) (by refine aa (oE e)<|aa (oN j) ?_;exact nu XJ w) s (wy f v) H r) λg h1 l o=>?_;refine x<|⟨g,h1,⟨_,l,?_⟩,o⟩;have c:=q.XT<|qo _<|XJ i;exact aa h<|⟨c.mt,c.ad,c.d,c.st.use XJ i,q.ne,by show W.XT.c+1+W.XT.d.length<=m+1;rw[ia,(by unfold RS.XT;exact aa e rfl:W.XT.d=W.d)];exact w7 f⟩
include XJ in
theorem wJ{i:Nat}(q:Qh n I ts wd pl (.m i::p::R) S m H)(s:f6 p [42]=true)(o:3<=d){Cx:Prop}(v:∀x c,ae d 35 [.r n] H=some (.v<|.r x,c)->Qh n I ts wd pl (p::R) S m c->ar n H c->dA n c x ⟨Xw,wd i,pl i⟩->Cx):Cx:=by refine ag q λW r q=>aF q.mt λt w e a b=>aF b λu w g f y=>?_;clear b;subst g;have h:t=⟨Xw,wd i,pl i⟩:=a;refine QE (d:=d) r e (aa h rfl) (by refine aa (oE e)<|aa (oN f) ?_;exact nu XJ s) o λx c h1 j k l=>?_;exact v x c h1 ⟨_,j,q.XT<|qo _<|XJ i⟩ k<|h▸l
include XJ in
theorem J4{i:Nat}(q:Qh n I ts wd pl (.m i::.f ak [42]::R) S m H)(l:3<=d){Cx:Prop}(o:∀x c,ae d 35 [.r n] H=some (.v<|.r x,c)->Qh n I ts wd pl R S m c->ar n H c->dA n c x ⟨Xw,wd i,pl i⟩->Cx):Cx:=by refine ag q λW r q=>aF q.mt λt s e a b=>aF b λu s g f v=>?_;clear b;subst g;exact Pv (d:=d) r e (aa (a:t=⟨Xw,wd i,pl i⟩) rfl) f.2 l λx c h1 h j k=>o x c h1 ⟨_,h,(q.XT<|qo _<|XJ i).XT<|show [42]≠[46]by decide⟩ j<|(a:t=⟨Xw,wd i,pl i⟩)▸k
include XJ in
theorem EB{s:Nm}(q:Qh n I ts wd pl (.f Xw s::p::R) S m H)(o:s≠[46])(l:f6 p [42]=true)(k:3<=d){Cx:Prop}(v:∀x c,ae d 35 [.r n] H=some (.v<|.r x,c)->Qh n I ts wd pl (p::R) S m c->ar n H c->Cx):Cx:=by refine ag q λW r q=>aF q.mt λt w e a b=>aF b λu w g f y=>?_;clear b;subst g;refine QE (d:=d) r e a.1 (by refine aa (oE e)<|aa (oN f) ?_;exact nu XJ l) k λx c h1 h j z=>?_;exact v x c h1 ⟨_,h,q.XT o⟩ j
theorem Il{s:Nm}(q:Qh n I ts wd pl (.f Xw s::.f ak [42]::R) S m H)(l:s≠[46])(k:3<=d){Cx:Prop}(o:∀x c,ae d 35 [.r n] H=some (.v<|.r x,c)->Qh n I ts wd pl R S m c->ar n H c->Cx):Cx:=by refine ag q λW r q=>aF q.mt λt v e a b=>aF b λu v g f w=>?_;clear b;subst g;exact Pv (d:=d) r e a.1 f.2 k λx c h1 h j y=>o x c h1 ⟨_,h,(q.XT l).XT<|show [42]≠[46]by decide⟩ j
@[simp]theorem xA(W:RS)(t:Tok)(k:Nm):(W.decl t k).rem=W.rem:=by unfold RS.decl;split;split<;>rfl;rfl
@[simp]theorem Dk(W:RS)(t:Tok)(k:Nm):(W.decl t k).p=W.p:=by unfold RS.decl;split;split<;>rfl;rfl
@[simp]theorem H9(W:RS)(t:Tok)(k:Nm):(W.decl t k).d=W.d:=by unfold RS.decl;split;split<;>rfl;rfl
theorem Gy(W:RS)(t:Tok)(k:Nm):(W.decl t k).c<=W.c+3:=by unfold RS.decl;split;split<;> exact XH _;exact bB 0x6d03012 tq
theorem oY(h:e≠.c)(a:S.a≠[]):(S.step wd e).a≠[]:=by
 cases e with
 |u i=>exact a
 |w i=>simp only[PS.step];split<;> exact a
 |d i k=>
  simp only[PS.step];split
  ·split
   ·exact a
   ·simp
  ·exact a
 |r=>exact a
 |o=>simp[PS.step]
 |c=>exact Xv rfl h
 |f i j=>exact a
theorem Hs{i x:Nat}{k:Nm}(q:Qh n I ts wd pl R S m H)(f:dA n H x ⟨Xw,wd i,pl i⟩)(e:2<=d)(g:m<880):fZ n I ts wd pl d 25 [.r n,.r x,.s k] (.i S.b.length) R S m H R (S.step wd<|.d i k)<|m+3:=by
 refine cps λC j=>ag q λW r q=>?_;have h:W.a≠[]:=by refine aa q.st.sc ?_;simp
 refine Xf (d:=d) (k:=k) r f h e (ba 0x6f4e04f7070833d88206065b tq q.c g) λa h1 b c=>?_;rw[q.st.g]at h1;refine j<|⟨a,h1,⟨_,b,(⟨by rw[xA];exact q.mt,by rw[xA];exact q.ad,by rw[Dk];exact q.d,q.st.decl q.ne i k,oY (by simp) q.ne,?_⟩)⟩,c⟩;have:=Gy W ⟨Xw,wd i,pl i⟩ k;rw[H9];exact ow 0xda26040c908236065b1b46c0065b tq this q.c
theorem PB:∀x∈cK,x≠c0/\x≠lU/\x≠gE/\x≠eg:=by decide
include XJ in
theorem Q3{i:Nat}(q:Qh n I ts wd pl (.m i::p::R) S m H)(x:f6 p [46]=true)(v:5<=d)(w:m<880):fZ n I ts wd pl d 41 [.r n] .n (.m i::p::R) S m H (p::R) (S.step wd<|.w i)<|m+3:=by
 refine cps λC y=>ag q λW r q=>aF q.mt λt z e a b=>aF b λu z l j A=>?_;clear b;subst l;have h:t=⟨Xw,wd i,pl i⟩:=a;have k:=q.c;refine aj (VU (d:=d) e (by refine aa h ?_;exact⟨rfl,PB _<|XJ i⟩) (by refine aa (oE e)<|aa (oN j) ?_;exact nu XJ x) v (ba 0x6f4e04f7070833d88206065b tq k w) H r) λg h1 o s=>?_;refine y<|⟨g,h1,⟨_,o,?_⟩,s⟩;have c:=q.XT<|qo _<|XJ i;refine aa h ?_;have f:(W.XT.YX ⟨Xw,wd i,pl i⟩).rem=W.XT.rem/\(W.XT.YX ⟨Xw,wd i,pl i⟩).p=W.XT.p/\(W.XT.YX ⟨Xw,wd i,pl i⟩).c+(W.XT.YX ⟨Xw,wd i,pl i⟩).d.length<=W.XT.c+W.XT.d.length+3:=by
  unfold RS.YX;split
  ·refine⟨rfl,rfl,?_⟩
   simp only[XB,aM,bA];exact aI 0xda103181681ac0b04d03192 tq
  ·refine⟨rfl,rfl,?_⟩
   show W.XT.c+1+W.XT.d.length<=_;exact aI 0x36840c6042d03192 tq
 exact⟨by refine aa f.1 ?_;exact c.mt,by refine aa f.1 ?_;exact c.ad,by refine aa f.2.1 ?_;exact c.d,c.st.YX XJ i,oY (by simp) q.ne,by have:=c.c;exact Ho 0xda46040c910626065b1b462630206065b tq f.2.2 this⟩
include XJ in
theorem Ch(q:Qh n I ts wd pl R S m H)(j:2<=d)(k:m<880):fZ n I ts wd pl d 42 [.r n] .n R S m H R (S.step wd .r)<|m+1:=by refine cps λC l=>ag q λW r q=>?_;have e:=q.c;refine aj (Xj (d:=d) (W:=W) (n:=n) (I:=I) (ts:=ts) j (ba 0x1bd382064f7070833d88206065b tq e k) H r) λf h1 h g=>bX (q.st.resolve XJ<|by refine cV r λs o r=>?_;exact r.N) λa b c=>?_;exact l<|⟨f,h1,⟨_,h,(⟨by refine aa b ?_;exact q.mt,by refine aa b ?_;exact q.ad,by refine aa c ?_;exact q.d,a,oY (by simp) q.ne,by simp only[RS.resolve,yy,bA];exact ba 0x168980685a10318c908206065b tq e⟩)⟩,g⟩
end
structure QG(n I:Nat)(ts:List Tok)(wd:Nat->Nm)(pl:Nat->Int)(R:List PT)(S:PS)(m:Nat)(F:Hp->Prop)(H:Hp):Prop where
 q:Qh n I ts wd pl R S m H
 f:F H
def Fw (n:Nat)(F:Hp->Prop):Prop:=∀H a,ar n H a->F H->F a
section
variable{n I:Nat}{ts:List Tok}{wd:Nat->Nm}{pl:Nat->Int}{R R':List PT}{S S':PS}{m m' d:Nat}{p:PT}{F:Hp->Prop}{l:Lo}{ss t f:List MS}{Q:Fl->Hp->Prop}
def bk {a:Hp}:Fw n<|ar n a:=λH b g p=>p.trans g
def nZ {i:List PT}{j:PS}{w k:Nat}{e:List ME}{g:List V}{v:V}(q:Fw n F)(o:gv l 0=xR n)(r:∀H,Zc (ae d) l e H=some (g,H))(s:∀H,Qh n I ts wd pl R S m H->fZ n I ts wd pl d k (.r n::g) v i j w H R' S' m')
  (u:Tr (ae d) l (QG n I ts wd pl R' S' m' F) ss Q):Tr (ae d) l (QG n I ts wd pl R S m F) (.x (.m k (.v 0) e)::ss) Q:=
 aW (λH p=>by exact aj (s H p.q) λh a b c=>⟨h,by simp[o,r,p.q.Yd,a],b,q _ _ c p.f⟩) u
def ur (g:s≠[46])(e:Fw n F)(h:gv l 0=xR n)(H:Hp)(p:QG n I ts wd pl (.f k s::R) S m F H):∃H',ai (ae<|d+2) l (.m 21 (.v 0) [.s s]) H=some (.b true,H')/\QG n I ts wd pl R S m F H':=by exact aj (Cv (d:=d+2) p.q g<|nl rfl) λH' a b c=>⟨H',IH λj=>j _ h p.q.Yd _ _ a,b,e _ _ c p.f⟩
def jC (h:∀i,wd i∈cK)(b:f6 p s=true)(a:gv l 0=xR n)(H)(g:QG n I ts wd pl (p::R) S m F H):∃H',ai (ae<|d+2) l (.m 21 (.v 0) [.s s]) H=some (.b false,H')/\QG n I ts wd pl (p::R) S m F H':=
 ⟨H,IH λj=>j _ a g.q.Yd _ _<|Cu h (d:=d+2) g.q b<|nl rfl,g⟩
def uH {k s:Nm}(b:s≠[46])(a:Fw n F)(h:gv l 0=xR n)(c:Tr (ae<|d+3) l (QG n I ts wd pl R S m F) ss Q):Tr (ae<|d+3) l (QG n I ts wd pl (.f k s::R) S m F) (.x (.m 22 (.v 0) [.s s])::ss) Q:=
 nZ a h (λ_=>rfl) (λH q=>Pi (d:=d+3) q b<|nl rfl) c
def Vk {k s:Nm}(b:s≠[46])(a:Fw n F)(h:gv l 0=xR n)(c:Tr (ae<|d+2) l (QG n I ts wd pl R S m F) ss Q):Tr (ae<|d+2) l (QG n I ts wd pl (.f k s::R) S m F) (.x (.m 21 (.v 0) [.s s])::ss) Q:=
 nZ a h (λ_=>rfl) (λH q=>Cv (d:=d+2) q b<|nl rfl) c
structure IF(n x:Nat)(t:Tok)(F:Hp->Prop)(H:Hp):Prop where
 i:dA n H x t
 f:F H
def tG {x:Nat}{t:Tok}(h:Fw n F):Fw n<|IF n x t F:=λH a g p=>⟨p.i.keep g,h _ _ g p.f⟩
def M4 (h:∀i,wd i∈cK){i j:Nat}(o:Fw n F)(k:gv l 0=xR n)(s:∀x,Tr (ae<|d+2) (l.set i<|xR x) (QG n I ts wd pl R S m<|IF n x ⟨Xw,wd j,pl j⟩ F) ss Q):
  Tr (ae<|d+2) l (QG n I ts wd pl (.m j::R) S m F) (.s i (.m 23 (.v 0) [])::ss) Q:=λH p=>by
 exact cps λC r=>Gm h (d:=d+2) p.q (nl rfl) λx g a b c e=>r<|aW (P:=λX=>X=H) (λX z=>⟨g,by refine aa z ?_;exact qt λq=>q _ k p.q.Yd _ _ a,b,e,o _ _ c p.f⟩) (s x) H rfl
def Rz {s:Nm}(i:s≠[46])(g:Fw n F)(h:gv l 0=xR n)(o:Tr (ae<|d+2) l (QG n I ts wd pl R S m F) ss Q):Tr (ae<|d+2) l (QG n I ts wd pl (.f Xw s::R) S m F) (.x (.m 23 (.v 0) [])::ss) Q:=
 aW (λH p=>by refine cps λC k=>?_;obtain⟨x,e,a,b,c⟩:=Bb (d:=d+2) p.q i<|nl rfl;exact k<|⟨e,qt λj=>j _ h p.q.Yd _ _ a,b,g _ _ c p.f⟩) o
def Ko {i j x:Nat}{k:Nm}(q:m<880)(g:Fw n F)(r:∀H,F H->dA n H x ⟨Xw,wd j,pl j⟩)(h:gv l 0=xR n)(o:gv l i=xR x)(u:Tr (ae<|d+2) l (QG n I ts wd pl R (S.step wd<|.d j k) (m+3) F) ss Q):
  Tr (ae<|d+2) l (QG n I ts wd pl R S m F) (.x (.m 25 (.v 0) [.v i,.s k])::ss) Q:=
 aW (λH p=>by obtain⟨e,a,b,c⟩:=Hs (d:=d+2) p.q (r _ p.f) (X0 _ _) q;exact⟨e,qt λs=>s _ h p.q.Yd _ o _ _ a,b,g _ _ c p.f⟩) u
def Jv (e:∀i,wd i∈cK){i j x:Nat}{k:Nm}(c:m<880)(a:Fw n F)(h:gv l 0=xR n)(b:gv l i=xR x)(g:Tr (ae<|d+2) l (QG n I ts wd pl R (S.step wd<|.d j k) (m+3)<|IF n x ⟨Xw,wd j,pl j⟩ F) ss Q):
  Tr (ae<|d+2) l (QG n I ts wd pl R S m<|IF n x ⟨Xw,wd j,pl j⟩ F) (.x (.m 25 (.v 0) [.v i,.s k])::ss) Q:=Ko c (tG a) (λ_ p=>p.i) h b g
def QG.mono (h:m<=m')(p:QG n I ts wd pl R S m F H):QG n I ts wd pl R S m' F H:=⟨p.q.mono h,p.f⟩
def QG.cast (e:S=S')(p:QG n I ts wd pl R S m F H):QG n I ts wd pl R S' m F H:=e▸p
def rg (a:GT p=b)(h:gv l 0=xR n)(H)(g:QG n I ts wd pl (p::R) S m F H):∃H',ai (ae<|d+1) l (.m 19 (.v 0) []) H=some (.b b,H')/\QG n I ts wd pl (p::R) S m F H':=
 ⟨H,XR (IH λj=>j _ h g.q.Yd _ _<|Pj (d:=d+1) g.q<|X0 _ _)<|by simp[a],g⟩
def SK (h:∀i,wd i∈cK)(b:f6 p s=true)(a:gv l 0=xR n)(k:Tr (ae<|d+2) l (QG n I ts wd pl (p::R) S m F) ss Q):Tr (ae<|d+2) l (QG n I ts wd pl (p::R) S m F) (.x (.m 21 (.v 0) [.s s])::ss) Q:=
 aW (λH g=>⟨H,qt λj=>j _ a g.q.Yd _ _<|Cu h (d:=d+2) g.q b<|X0 _ _,g⟩) k
def QA {s:Nm}(h:∀i,wd i∈cK)(q:s≠[46])(o:f6 p [42]=true)(k:Fw n F)(j:gv l 0=xR n)(u:Tr (ae<|d+3) l (QG n I ts wd pl (p::R) S m F) ss Q):Tr (ae<|d+3) l (QG n I ts wd pl (.f Xw s::p::R) S m F) (.x (.m 35 (.v 0) [])::ss) Q:=
 aW (λH g=>by exact EB h (d:=d+3) g.q q o (X0 _ _) λx e a b c=>⟨e,qt λr=>r _ j g.q.Yd _ _ a,b,k _ _ c g.f⟩) u
def TV {s:Nm}(j:s≠[46])(i:Fw n F)(h:gv l 0=xR n)(q:Tr (ae<|d+3) l (QG n I ts wd pl R S m F) ss Q):Tr (ae<|d+3) l (QG n I ts wd pl (.f Xw s::.f ak [42]::R) S m F) (.x (.m 35 (.v 0) [])::ss) Q:=
 aW (λH g=>by exact cps λC o=>Il (d:=d+3) g.q j (X0 _ _) λx e a b c=>o<|⟨e,qt λk=>k _ h g.q.Yd _ _ a,b,i _ _ c g.f⟩) q
def Ub (h:∀i,wd i∈cK){i j:Nat}(r:f6 p [42]=true)(q:Fw n F)(o:gv l 0=xR n)(v:∀x,Tr (ae<|d+3) (l.set i<|xR x) (QG n I ts wd pl (p::R) S m<|IF n x ⟨Xw,wd j,pl j⟩ F) ss Q):
  Tr (ae<|d+3) l (QG n I ts wd pl (.m j::p::R) S m F) (.s i (.m 35 (.v 0) [])::ss) Q:=λH g=>by
 exact cps λC u=>wJ h (d:=d+3) g.q r (X0 _ _) λx k a b c e=>u<|aW (P:=λX=>X=H) (λX z=>⟨k,by refine aa z ?_;exact qt λs=>s _ o g.q.Yd _ _ a,b,e,q _ _ c g.f⟩) (v x) H rfl
def TR (h:∀i,wd i∈cK){i j:Nat}(q:Fw n F)(o:gv l 0=xR n)(s:∀x,Tr (ae<|d+3) (l.set i<|xR x) (QG n I ts wd pl R S m<|IF n x ⟨Xw,wd j,pl j⟩ F) ss Q):
  Tr (ae<|d+3) l (QG n I ts wd pl (.m j::.f ak [42]::R) S m F) (.s i (.m 35 (.v 0) [])::ss) Q:=λH g=>by
 exact J4 h (d:=d+3) g.q (X0 _ _) λx k a b c e=>aW (P:=λX=>X=H) (λX z=>⟨k,by refine aa z ?_;exact qt λr=>r _ o g.q.Yd _ _ a,b,e,q _ _ c g.f⟩) (s x) H rfl
def Tl (h:∀i,wd i∈cK){i j:Nat}{k:Nm}(u:f6 p [42]=true)(s:m<880)(r:Fw n F)(o:gv l 0=xR n)(y:Tr (ae<|d+3) (l.set i<|xI S.b.length) (QG n I ts wd pl (p::R) (S.step wd<|.d j k) (m+3) F) ss Q):
  Tr (ae<|d+3) l (QG n I ts wd pl (.m j::p::R) S m F) (.s i (.m 25 (.v 0) [.m 35 (.v 0) [],.s k])::ss) Q:=
 aW (λH g=>by exact cps λC w=>wJ h (d:=d+3) g.q u (X0 _ _) λx z a b c e=>aj (Hs (d:=d+3) (k:=k) b e (X0 _ _) s) λq f1 f2 f3=>w<|⟨q,qt λv=>v _ o g.q.Yd _ o g.q.Yd _ _ a _ _ f1,f2,r _ _ (c.trans f3) g.f⟩) y
def GE (h:∀H,P H->ai (ae d) l e H=some (v,H))(k:∀H,P H->Q (.r v) H):Tr (ae d) l P (.r e::ss) Q:=λH p=>⟨.r v,H,by simp[h H p],k H p⟩
def RW (a:decide (s=c)=b)(h:gv l 0=xR n)(H)(g:QG n I ts wd pl (.f k s::R) S m F H):∃H',ai (ae<|d+1) l (.q .e (.m 18 (.v 0) [])<|.s c) H=some (.b b,H')/\QG n I ts wd pl (.f k s::R) S m F H':=
 ⟨H,by simp[h,g.q.Yd,Of (d:=d+1) g.q<|X0 _ _,nA,a],g⟩
def Pt (k:∀H,P H->Q (.r .n) H):Tr (ae d) l P (.aar::ss) Q:=λH p=>⟨.r .n,H,rfl,k H p⟩
def tn {a:Cl}{c:ME}{b:Bool}{H:Hp}{P:Hp->Prop}(h:∃H',ai a l c H=some (.b b,H')/\P H'):∃H',ai a l (.N c) H=some (.b<|!b,H')/\P H':=by exact ag h λH' e p=>⟨H',by simp[e],p⟩
def Ud {i:List PT}{j:PS}{x k:Nat}{e:List ME}{g:List V}(q:Fw n F)(o:gv l 0=xR n)(r:∀H,Zc (ae d) l e H=some (g,H))(s:∀H,Qh n I ts wd pl R S m H->∃v,fZ n I ts wd pl d k (.r n::g) v i j x H R' S' m')
  (w:Tr (ae d) l (QG n I ts wd pl R' S' m' F) ss Q):Tr (ae d) l (QG n I ts wd pl R S m F) (.x (.m k (.v 0) e)::ss) Q:=
 aW (λH p=>by exact cps λC u=>am (s H p.q) λv h a b c=>u<|⟨h,by simp[o,r,p.q.Yd,a],b,q _ _ c p.f⟩) w
def TL (g:Cl)(i:Nat)(b:List MS)(a:Nat)(k h:List V)(l:Lo)(P:Hp->Prop)(S:Lo->Hp->Prop):Prop:=∀H,P H->∃e c,aK (λv e c=>XU g a4 (e.set i<|some v) c b) (a3 a k) h l H=some (.n e,c)/\S e c
def zI {c:Cl}{i a:Nat}{b:List MS}{k:List V}{P:Hp->Prop}(h:∀H,P H->H[a]?=some (.l k)):TL c i b a k [] l P (λe H=>e=l/\P H):=λH p=>⟨l,H,bp<|show a3 a k H=true from fw<|h H p,rfl,p⟩
def xa {c:Cl}{i a:Nat}{b:List MS}{k q:List V}{v:V}{o:Lo}{P j:Hp->Prop}{T:Lo->Hp->Prop}(y:∀H,P H->H[a]?=some (.l k))(h:Tr c (l.set i<|some v) P b<|Nx λl' H=>l'=o/\j H)(r:TL c i b a k q o j T):TL c i b a k (v::q) l P T:=λH p=>by refine cps λC z=>xQ (h H p) λf g e A w x p2=>?_;subst w;clear h;subst x;exact dH (r g p2) λl' s u t=>z<|⟨l',s,(aS (show a3 a k H=true from fw<|y H p) (l':=A) (H':=g) e).trans u,t⟩
def NH {j:Cl}{i a:Nat}{s:ME}{b:List MS}{k:List V}{P g:Hp->Prop}{T:Lo->Hp->Prop}(v:∀H,P H->∃c,ai j l s H=some (.r a,c)/\g c)(r:∀H,g H->H[a]?=some (.l k))(u:k.length<=1000000)(h:TL j i b a k k l g T):Tn j l P (.g i s b) T:=λH p=>by exact cps λC w=>ag (v H p) λc e p1=>dH (h c p1) λx o q t=>w<|⟨x,o,(fc e (r c p1) u).trans q,t⟩
def bt {k:Nat}{f:Fn}{c:List V}{v:V}{H:Hp}(h:Qh n I ts wd pl R S m H)(o:EI k=some f)(q:c.length=f.p)(b:c.map some++List.replicate (f.vars-f.p) none=l)(j:f.body=ss)
  (g:Tr (ae d) l (QG n I ts wd pl R S m<|ar n H) ss<|Rt λs a=>s=v/\QG n I ts wd pl R' S' m' (ar n H) a):fZ n I ts wd pl (d+1) k c v R S m H R' S' m':=by
 refine cps λC r=>am (dZ o q b j g H ⟨h,ar.refl n H⟩) λ_ a e i p=>?_;clear g;subst i;exact r<|⟨a,e,p.q,p.f⟩
end
noncomputable def eQ:Bool->List PT->List Ev
 |_,[]=>[]
 |_,.f k t::r=>eQ (decide (t=[46])) r
 |d,.m i::r=>if d then eQ false r else .u i::eQ false r
theorem yD{z}:eQ z []=[]:=rfl
theorem xr{z k t r}:eQ z (PT.f k t::r)=eQ (decide (t=[46])) r:=rfl
theorem yT{z i r}:eQ z (PT.m i::r)=if z=true then eQ false r else Ev.u i::eQ false r:=rfl
noncomputable def ig:Bool->List PT->Bool
 |d,[]=>!d
 |d,.f k t::r=>(decide (k≠Xw)||d)&&ig (decide (t=[46])) r
 |d,.m i::r=>!d&&ig false r
theorem HD{z1}:ig z1 []=!z1:=rfl
theorem xV{z k t r}:ig z (PT.f k t::r)=((decide (k≠Xw)||z)&&ig (decide (t=[46])) r):=rfl
theorem E7{z i r}:ig z (PT.m i::r)=(!z&&ig false r):=rfl
def R6:PT->Int
 | .f k t=>if t∈Qm/\k=ak then 1 else if t∈OR/\k=ak then -1 else 0
 | .m _=>0
noncomputable def qQ(s:Nm):Int->List PT->Bool
 |dep,[]=>decide (dep=0)
 |dep,p::r=>(decide (0<dep)||f6 p s)&&qQ s (dep+R6 p) r
theorem HR{s z}:qQ s z []=decide (z=0):=rfl
theorem Ge{s z p r}:qQ s z (p::r)=((decide (0<z)||f6 p s)&&qQ s (z+R6 p) r):=rfl
def R8:PT->Int
 | .f k t=>D0 t
 | .m _=>0
noncomputable def pv:Int->List PT->Bool
 |dep,[]=>decide (dep=0)
 |dep,p::r=>(decide (0<dep)||f6 p bW)&&pv (dep+R8 p) r
theorem HH{z}:pv z []=decide (z=0):=rfl
theorem xO{z p r}:pv z (p::r)=((decide (0<z)||f6 p bW)&&pv (z+R8 p) r):=rfl
def Mc:∀x∈cK,D0 x=0:=by decide
section
variable{n I:Nat}{ts:List Tok}{wd:Nat->Nm}{pl:Nat->Int}(XJ:∀i,wd i∈cK)
variable{R:List PT}{S:PS}{m d:Nat}{H:Hp}{p:PT}
def Ol:JO ⟨Xw,wd i,pl i⟩=0:=by simp[JO];exact aa (Xq (λh=>by have:=h.2;revert this;decide))<|aa (Xq (λh=>by have:=h.2;revert this;decide)) rfl
include XJ in
theorem Jl:∀{T:List Tok}{a:Int},yY wd pl A T->qQ s a A=true->zO s a T:=by
 induction A with
 |nil=>intro T a h b;cases T with |nil=>simpa [HR,Kv]using b|cons=>exact h.elim
 |cons p A c=>
  intro T a h b;cases T with |nil=>exact h.elim|cons t T=>?_
  simp[Ge]at b;have e:JO t=R6 p:=by
   clear b;cases p with
   |f k s=>simp[JO,R6,h.1.1,h.1.2]
   |m i=>refine aa (show t=_ from h.1) ?_;exact Ol
  refine⟨?_,?_⟩
  ·rcases b.1 with z|z
   ·exact .inl z
   ·exact .inr (by refine aa (oN h.1) ?_;exact nu XJ z)
  ·refine aa e ?_;exact c h.2 b.2
include XJ in
theorem BI:∀{A:List PT}{T:List Tok}{a:Int},yY wd pl A T->pv a A=true->zE a T
 | [],[],a,_,h=>by simpa [HH,xO,IK,JP]using h
 | [],t::T,a,h,_=>h.elim
 |p::A,[],a,h,_=>h.elim
 |p::A,t::T,a,h,b=>by
  simp[xO]at b;have e:D0 t.t=R8 p:=by
   clear b;cases p with
   |f k s=>simp[R8,h.1.2]
   |m i=>refine aa (show t=_ from h.1) ?_;exact Mc _<|XJ i
  refine⟨?_,?_⟩
  ·rcases b.1 with z|z
   ·exact .inl z
   ·exact .inr (by refine aa (oN h.1) ?_;exact nu XJ z)
  ·refine aa e ?_;exact BI h.2 b.2
include XJ in
theorem BL:∀{T rest:List Tok}{W:RS}{S:PS}{dt:Bool},yY wd pl A T->W.rem=T++rest->(W.p=[46]↔dt=true)->ig dt A=true->jv wd pl W S->S.a≠[]->
  jv wd pl (W.ones T) (S.run wd<|eQ dt A)/\(W.ones T).p≠[46]/\(W.ones T).rem=rest/\(W.ones T).c+(W.ones T).d.length<=W.c+W.d.length+A.length/\(S.run wd<|eQ dt A).a≠[]:=by
 induction A with
 |nil=>intro T rest W S dt h e q j u r;cases T with |cons=>exact h.elim|nil=>exact⟨u,(λz=>by rw[q.1 z]at j;exact eH j nt),e,XH _,r⟩
 |cons p A E=>
  intro T rest W S dt h e q j u r;cases T with |nil=>exact h.elim|cons t T=>?_
  rw[bE]at e;have e:=e;have D:=pw e;cases p with
  |f k s=>
   simp only[xV,Xu,YS,Ym]at j;have j:=j;have F:¬(t.k=Xw/\W.p≠[46]):=by
    intro z;rcases j.1 with y|y
    ·exact y<|h.1.1▸z.1
    ·exact z.2<|q.2 y
   have l:W.XT.d=W.d:=by unfold RS.XT;exact aa e rfl
   refine cps λC B=>?_;have o:W.one t=W.XT:=by simp only[RS.one,Xq F]
   refine bU (E (T:=T) (rest:=rest) (W:=W.XT) (S:=S) (dt:=decide (s=[46])) h.2 (by refine dG o ?_;exact D) (by refine aa (by unfold RS.XT;exact aa e rfl:W.XT.p=t.t)<|aa h.1.2 ?_;simp) j.2 u.XT r) λa b c f g=>?_;refine B ?_;simp only[RS.abg,RS.aak,o,yD,xr,yT];refine⟨a,b,c,?_,g⟩;rw[ia,l]at f;exact Ho 0x5a460c4c6040c91062630206065b tq f
  |m i=>
   simp only[HD,xV,E7,Xu]at j;have v:dt=false:=by cases dt;rfl;exact eH j.1 nt
   subst v;have x:t=⟨Xw,wd i,pl i⟩:=h.1;have o:W.one t=(W.use t).XT:=by simp only[RS.one];exact aa (Xr ⟨by rw[x],(by intro z;have:=q.1 z;exact eH this nt)⟩) rfl
   have w:(W.use t).XT.p=t.t:=by unfold RS.XT;rw[BM,e]
   have l:(W.use t).XT.d=W.d:=by unfold RS.XT;rw[BM,e];rfl
   refine cps λC B=>?_;obtain⟨a,b,c,f,g⟩:=E (T:=T) (rest:=rest) (W:=(W.use t).XT) (S:=S.step wd<|.u i) (dt:=false) h.2 (by refine dG o ?_;exact D) (by
    refine aa w<|aa x ?_;constructor
    ·intro z;exact Xv z<|qo _<|XJ i
    ·intro z;exact eH z nt) j.2 (by refine aa x ?_;exact(u.use XJ i).XT)<|oY (by simp) r
   refine B ?_;simp only[RS.abg,RS.aak,o,yD,xr,yT,Ze,if_false,eG];refine⟨a,b,c,?_,g⟩;rw[ia,IN,l]at f;exact Ho 0x2d2306263020648830b44c630206065b tq f
include XJ in
theorem Cq(q:Qh n I ts wd pl (A++.f k s::R) S m H)(t:qQ s 0 A=true)(v:ig false A=true)(w:3<=d)(y:m+A.length<880):
  fZ n I ts wd pl d 28 [.r n,.t [.s s]] .n (A++.f k s::R) S m H (.f k s::R) (S.run wd<|eQ false A) (m+A.length):=by
 refine cps λC B=>ag q λW r q=>am (wm q.mt) λT J e a b=>aF b λu M j h L=>?_;subst j;have f:=q.c;have c:=q.ad;refine aj (VV (d:=d) (n:=n) (I:=I) (ts:=ts) e h.2 (Jl XJ a t) c (Ew f (wl a) y) w H r) λg h1 l o=>?_;obtain⟨D,E,x,F,G⟩:=BL XJ (S:=S) (dt:=false) a e (by
  constructor
  ·intro z;exact Xv z q.d
  ·intro z;exact eH z nt) v q.st q.ne
 exact B<|⟨g,h1,⟨_,l,(⟨by refine aa x ?_;exact b,by refine aa x ?_;rw[e,XB]at c;exact ow 0x41318814d84026067b tq c<|wl a,E,D,G,Sr 0x3130206484523032d8ca4630206065b tq F f⟩)⟩,o⟩
include XJ in
theorem Mz(q:Qh n I ts wd pl (A++.f k bW::R) S m H)(s:pv 0 A=true)(t:ig false A=true)(v:4<=d)(w:m+A.length<880):
  fZ n I ts wd pl d 29 [.r n] .n (A++.f k bW::R) S m H (.f k bW::R) (S.run wd<|eQ false A) (m+A.length):=by
 refine cps λC y=>ag q λW r q=>am (wm q.mt) λT G e a b=>aF b λu L j g J=>?_;subst j;have h:=wl a;have c:=q.ad;refine aj (Wa (d:=d) (n:=n) (I:=I) (ts:=ts) e g.2 (BI XJ a s) c (Ew q.c h w) v H r) λf h1 l o=>?_;obtain⟨B,D,x,E,F⟩:=BL XJ (S:=S) (dt:=false) a e (by
  constructor
  ·intro z;exact Xv z q.d
  ·intro z;exact eH z nt) t q.st q.ne
 exact y<|⟨f,h1,⟨_,l,(⟨by refine aa x ?_;exact b,by refine aa x ?_;rw[e,XB]at c;exact ow 0x41318814d84026067b tq c h,D,B,F,Sr 0x3130206484523032d8ca4630206065b tq E q.c⟩)⟩,o⟩
theorem KK(q:Qh n I ts wd pl R S m H):bb H n 7=xR (n+2)/\bb H n 8=xR (n+3)/\bb H n 9=xR (n+4)/\bb H n 10=xR (n+5)/\bb H n 11=xR (n+6):=by refine ag q λW r q=>?_;exact r.fld
theorem Eo(q:Qh n I ts wd pl R S m H):n+7<=H.length:=by refine ag q λW r q=>?_;exact r.len
theorem Ps(q:Qh n I ts wd pl R S m H)(x):Qh n I ts wd pl R S m<|H++x:=by refine ag q λW r q=>?_;exact⟨W,r.app x,q⟩
theorem RI(q:Qh n I ts wd pl R S m H)(h:m<880){Cx:Prop}(k:mB H (n+2)=true->∀f,bF (H++[.dS []]) (n+2) (.r H.length)=some f->Qh n I ts wd pl R (S.step wd .o) (m+1) f->ar n H f->Cx):Cx:=by refine ag q λW r q=>?_;have g:=q.c;exact yk r (wy g h) λa f b c e=>k a f b ⟨_,c,q.mt,q.ad,q.d,q.st.opn,oY (by simp) q.ne,by show W.c+1+W.d.length<=m+1;exact w7 g⟩ e
theorem PQ(q:Qh n I ts wd pl R S m H)(f:(S.step wd .c).a≠[])(h:m<880){Cx:Prop}(k:∀v a,vH H (n+2)=some (v,a)->Qh n I ts wd pl R (S.step wd .c) (m+1) a->ar n H a->Cx):Cx:=by refine ag q λW r q=>Gq r (by refine aa q.st.sc ?_;simp) (wy q.c h) λv a b c e=>?_;exact k v a b ⟨_,c,q.mt,q.ad,q.d,q.st.cls q.ne,f,by exact w7 q.c⟩ e
theorem P3(q:Qh n I ts wd pl R S m H)(i:Nat)(v:Int)(h:m<880){Cx:Prop}(k:bb H n 9=xR (n+4)->mB H (n+4)=true->∀g,bF (H++[eU (pl i,wd i,v)]) (n+4) (.r H.length)=some g->Qh n I ts wd pl R (S.add i v) (m+1) g->ar n H g->Cx):Cx:=by exact ag q λW r q=>po r (pl i,wd i,v) (wy q.c h) λa b g c e f=>k a b g c ⟨_,e,q.mt,q.ad,q.d,q.st.put i v,q.ne,by exact w7 q.c⟩ f
end
def vU (v)(i):eQ false (bY (dv v) i)=kH v i:=by cases v<;>rfl
def VF (v)(i):qQ [59] 0 (bY (dv v) i)=true:=by cases v<;>rfl
def VR (v)(i):qQ xh 0 (bY (dv v) i)=true:=by cases v<;>rfl
def vC (v)(i):ig false (bY (dv v) i)=true:=by cases v<;>rfl
def vL (v)(i):(bY (dv v) i).length<=8:=by cases v<;> exact nl rfl
abbrev bQ:PT:=.f ak [59]
section
variable{n I:Nat}{ts:List Tok}{wd:Nat->Nm}{pl:Nat->Int}(XJ:∀i,wd i∈cK)
variable{R:List PT}{S:PS}{m d:Nat}{H:Hp}{p:PT}
include XJ in
theorem Ky(q:Qh n I ts wd pl (.m i::p::R) S m H)(b:f6 p [46]=true)(h:4<=d)(a:m<880):fZ n I ts wd pl d 39 [.r n] .n (.m i::p::R) S m H (p::R) (S.step wd<|.u i)<|m+1:=by exact lR 4 h rfl λd h=>bt q rfl rfl (l:=[xR n]) rfl rfl (a8 (jC XJ rfl rfl)<|a8 (jC XJ rfl rfl)<|a8 (jC XJ rfl rfl)<|a8 (jC XJ rfl rfl)<|nZ bk rfl (λ_=>rfl) (λH q=>zF XJ q b (X0 _ _) a) (ay λH p=>⟨rfl,p⟩))
variable(n I ts wd pl)in
def Lk (d:Nat)(A:List PT)(e:List Ev)(c:Nat):Prop:=∀(R:List PT) (S:PS) (m:Nat) (H:Hp),Qh n I ts wd pl (A++bQ::R) S m H->m+c<880->fZ n I ts wd pl d 39 [.r n] .n (A++bQ::R) S m H (bQ::R) (S.run wd e) (m+c)
theorem It(XJ:∀i,wd i∈cK)(f:5<=d)(b:Lk n I ts wd pl d A e c)
  (q:Qh n I ts wd pl (.f Xw [97]::.f ak [44]::.f Xw [100]::.f ak [58]::(A++bQ::.f Xw [101]::.f ak [42]::.f ak [58]::.m j::.f ac bW::R)) S m H) (h:m+c+1<880):
  fZ n I ts wd pl (d+1) 40 [.r n] .n (.f Xw [97]::.f ak [44]::.f Xw [100]::.f ak [58]::(A++bQ::.f Xw [101]::.f ak [42]::.f ak [58]::.m j::.f ac bW::R)) S m H R (S.run wd<|e++[.u j]) (m+c+1):=by
 obtain⟨d,rfl⟩:∃a,d=a+5:=⟨d-5,R1 5 f rfl⟩;exact bt q rfl rfl (l:=[xR n]) rfl rfl (a8 (jC XJ rfl rfl)<|cU fD (rg rfl rfl)<|QA XJ (by decide) rfl bk rfl (cU fD (ur (by decide) bk rfl)<|QA XJ (by decide) rfl bk rfl (cT (jC XJ rfl rfl)<|uH (by decide) bk rfl (nZ bk rfl (λ_=>rfl) (λH q=>b _ _ _ _ q<|Y7 h) (Vk (by decide) bk rfl (cU fD (rg rfl rfl)<|TV (by decide) bk rfl (cT (jC XJ rfl rfl)<|uH (by decide) bk rfl (nZ bk rfl (λ_=>rfl) (λH q=>Ky XJ q rfl (X0 _ _) (Y7 h)) (SK XJ rfl rfl (cT (rg rfl rfl)<|uH (by decide) bk rfl (ay λH p=>⟨rfl,p.cast<|by rw[ax];rfl⟩)))))))))))
end
def bD.ZI (r:bD n I C H W x i)(e:n+7<=a)(f:H[a]?=some (.l k))(v):bD n I C (H.set a<|.l v) W x i where
 y:=r.y
 P:=by have:=r.y;exact aj r.P λS h1 m o=>⟨S,aB h1<|sj this e,m,λj t h=>by refine aj (o j t h) λq a b c=>?_;exact⟨q,a,b,aB c<|sj a e⟩⟩
 Q:=r.Q
 L:=by refine aj r.L λp a b c=>?_;exact⟨p,a,aB b<|aI 0x41901da16065b tq e,c⟩
 d:=aB r.d<|aI 0x4d0b01901da16065b tq e
 g:=aB r.g<|aI 0x6d0b01901da16065b tq e
 hf:=aB r.hf<|aI 0x8d0b01901da16065b tq e
 hd:=aB r.hd<|aI 0xad0b01901da16065b tq e
 hw:=aB r.hw<|XG ‹_›
 J:=r.J
 u:=λj q s a b=>aB (r.u j q s a b) (by intro z;subst z;have:=r.u j _ s a b;rw[f]at this;cases this)
 sn:=r.sn
 O:=r.O
 D:=r.D
 fd:=λj q s a b=>aB (r.fd j q s a b) (by intro z;subst z;have:=r.fd j _ s a b;rw[f]at this;cases this)
 fn:=r.fn
 w:=r.w
 N:=r.N
 F:=r.F
 G:=r.G
 E:=r.E
 B:=r.B
 A:=r.A
 M:=r.M
 R:=r.R
 l:=by have:=r.l;simpa using this
structure KX(n a:Nat)(H H':Hp):Prop where
 ln:H.length<=H'.length
 lo:∀i,i<n->H'[i]?=H[i]?
 ls:∀i k,i≠a->n+7<=i->H[i]?=some (.l k)->H'[i]?=some (.l k)
def ar.kx (k:ar n H H')(a):KX n a H H':=⟨k.ln,k.lo,λi l _=>k.ls i l⟩
def KX.trans (x:KX n a H b)(y:KX n a b H3):KX n a H H3:=
 ⟨Xz x.ln y.ln,λi h=>(y.lo i h).trans<|x.lo i h,λi k q h e=>y.ls i k q h<|x.ls i k q h e⟩
def KX.set (o)(b:n+7<=a):KX n a H<|H.set a o:=
 ⟨by simp,λi h=>YM<|by exact sj h b,λi k q _ e=>aB e<|X1 q⟩
def KX.fin (a:n<=H.length)(x:KX n H.length (H++[o]) H'):ar n H H':=
 ⟨by have:=x.ln;simp at this;exact aI 0x209042d035806065b tq this,λi h=>aa (x.lo i h)<|aa (Yg<|XO ‹_› ‹_›) rfl,λi k h e=>x.ls i k (by have:=xd e;exact aI 0x82e10067b tq this) h<|fk e⟩
section
variable{n I:Nat}{ts:List Tok}{wd:Nat->Nm}{pl:Nat->Int}(XJ:∀i,wd i∈cK)
variable{R:List PT}{S:PS}{m d:Nat}{H:Hp}{p:PT}
def Mm (q:Qh n I ts wd pl R S m H)(h:n+7<=a)(c:H[a]?=some (.l k))(b):Qh n I ts wd pl R S m<|H.set a<|.l b:=by refine cps λC e=>ag q λW z q=>?_;exact cV z λs f r=>e<|⟨W,⟨s,f,r.ZI h c b⟩,q⟩
def KL (q:Qh n I ts wd pl R S m H)(k):Qh n I ts wd pl R S m (H++[.l k])/\(H++[AO.l k])[H.length]?=some (.l k)/\KX n H.length (H++[AO.l k]) (H++[AO.l k]):=
 ⟨Ps q _,by simp,⟨XH _,λ_ _=>rfl,λ_ _ _ _ h=>h⟩⟩
def vS (q:Qh n I ts wd pl R S m H)(b:n+7<=a)(h:H[a]?=some (.l k))(c:k.length<=1000)(v):
  mB H a=true/\∃H',bF H a v=some H'/\Qh n I ts wd pl R S m H'/\H'[a]?=some (.l<|k++[v])/\KX n a H H':=
 ⟨kB h,H.set a<|.l<|k++[v],by simp only[bF,h,bc];exact aa (Xr<|Xz ‹_›<|nl rfl) rfl,Mm q b h _,dU h,KX.set _ b⟩
end
structure OL(n a:Nat)(k:List V)(F:Hp->Prop)(H:Hp):Prop where
 l:H[a]?=some (.l k)
 f:F H
def Fk (n a:Nat)(F:Hp->Prop):Prop:=∀H b,KX n a H b->F H->F b
section
variable{n I:Nat}{ts:List Tok}{wd:Nat->Nm}{pl:Nat->Int}{R:List PT}{S:PS}{m d a:Nat}{F:Hp->Prop}{l:Lo}{ss:List MS}{Q:Fl->Hp->Prop}{k:List V}
def yx {H:Hp}:Fk n a<|KX n a H:=λ_ _ g p=>p.trans g
def FB {x:Nat}{t:Tok}(h:Fk n a F):Fk n a<|IF n x t F:=λH b g p=>⟨⟨p.i.1,(g.lo _ p.i.1).trans p.i.2⟩,h _ _ g p.f⟩
def GH (h:n+7<=a)(b:Fk n a F):Fw n<|OL n a k F:=λH c g p=>⟨g.ls _ _ h p.l,b _ _ (g.kx a) p.f⟩
def Uj (h:n+7<=a)(b:Fw n F):Fw n<|OL n a k F:=λH c g p=>⟨g.ls _ _ h p.l,b _ _ g p.f⟩
def On (e:∀H,F H->n+7<=H.length->Tr (ae d) (l.set i<|xR H.length) (QG n I ts wd pl R S m<|OL n H.length []<|KX n H.length<|H++[.l []]) ss Q):Tr (ae d) l (QG n I ts wd pl R S m F) (.s i (.l [])::ss) Q:=λH g=>by exact bX (KL g.q []) λa b c=>aW (P:=λX=>X=H) (λX z=>⟨H++[.l []],by refine aa z ?_;simp,a,b,c⟩) (e H g.f<|Eo g.q) H rfl
def Lw (q:∀i,wd i∈cK){i j:Nat}(p:n+7<=a)(s:k.length<=1000)(w:Fk n a F)(v:gv l 0=xR n)(y:gv l j=xR a)(D:∀x,Tr (ae<|d+2) l (QG n I ts wd pl R S m<|OL n a (k++[.r x])<|IF n x ⟨Xw,wd i,pl i⟩ F) ss Q):
  Tr (ae<|d+2) l (QG n I ts wd pl (.m i::R) S m<|OL n a k F) (.a (.v j) (.m 23 (.v 0) [])::ss) Q:=λH g=>by
 exact cps λC B=>Gm q (d:=d+2) g.q (X0 _ _) λx E u b c r=>Bv (vS b p (c.ls _ _ p g.f.l) s<|.r x) λ_ t f h o e=>B<|aW (P:=λX=>X=H) (λX z=>⟨t,by refine aa z ?_;exact qt λA=>A _ y ((vS g.q p g.f.l s<|.r 0).1) _ v g.q.Yd _ _ u _ f,h,o,⟨r.1,(e.lo _ r.1).trans r.2⟩,w _ _ ((c.kx a).trans e) g.f.f⟩) (D x) H rfl
def Qd {s:Nm}{j:Nat}(y:s≠[46])(p:n+7<=a)(q:k.length<=1000)(v:Fk n a F)(u:gv l 0=xR n)(w:gv l j=xR a)(D:∀x,Tr (ae<|d+2) l (QG n I ts wd pl R S m<|OL n a (k++[.r x]) F) ss Q):
  Tr (ae<|d+2) l (QG n I ts wd pl (.f Xw s::R) S m<|OL n a k F) (.a (.v j) (.m 23 (.v 0) [])::ss) Q:=λH g=>by
 refine cps λC B=>am (Bb (d:=d+2) g.q y<|X0 _ _) λx E t b c=>Bv (vS b p (c.ls _ _ p g.f.l) q<|.r x) λ_ r f h i o=>?_;have e:=(vS g.q p g.f.l q<|.r 0).1;exact B<|aW (P:=λX=>X=H) (λX z=>⟨r,by refine aa z ?_;exact qt λA=>A _ w e _ u g.q.Yd _ _ t _ f,h,i,v _ _ ((c.kx a).trans o) g.f.f⟩) (D x) H rfl
def S8 (h:∀i,wd i∈cK)(r:f6 p [42]=true)(q:Fw n F)(o:gv l 0=xR n)(y:∀H x,F H->n+7<=H.length->Tr (ae<|d+3) (l.set i<|xR H.length) (QG n I ts wd pl (p::R) S m<|OL n H.length [.r x]<|IF n x ⟨Xw,wd j,pl j⟩<|KX n H.length<|H++[.l [.r x]]) ss Q):
  Tr (ae<|d+3) l (QG n I ts wd pl (.m j::p::R) S m F) (.s i (.l [.m 35 (.v 0) []])::ss) Q:=λH g=>by
 exact cps λC t=>wJ h (d:=d+3) g.q r (X0 _ _) λx f a b c e=>bX (KL b [.r x]) λu v w=>t<|aW (P:=λX=>X=H) (λX z=>⟨f++[.l [.r x]],by refine aa z ?_;exact qt λs=>s _ o g.q.Yd _ _ a,u,v,e.keep<|ar.app n f _<|Xz (Xx _ _)<|Eo b,w⟩) (y f x (q _ _ c g.f)<|Eo b) H rfl
def OL.fin (h:n+7<=H.length)(g:KX n H.length (H++[o]) H'):ar n H H':=KX.fin (Xz (Xx _ _) h) g
def Qa {i:Nat}{H:Hp}(h:∀i,wd i∈cK)(j:5<=d)(q:Qh n I ts wd pl (.f ak [40]::.f Xw [99]::.f ak [58]::.m i::.f ak [41]::bQ::R) S m H)(r:m+1<880):
  ∃a,fZ n I ts wd pl (d+1) 43 [.r n] (.r a) (.f ak [40]::.f Xw [99]::.f ak [58]::.m i::.f ak [41]::bQ::R) S m H (bQ::R) (S.step wd<|.u i)<|m+1:=by
 refine lR 5 j rfl λd j=>?_
 suffices t:CT (ae<|d+6) 43 [.r n] (QG n I ts wd pl (.f ak [40]::.f Xw [99]::.f ak [58]::.m i::.f ak [41]::bQ::R) S m<|ar n H) (λv b=>∃a,v=.r a/\QG n I ts wd pl (bQ::R) (S.step wd<|.u i) (m+1) (ar n H) b)by refine cps λC s=>lV (t H ⟨q,ar.refl n H⟩) λv b e a o p=>?_;subst o;exact s<|⟨a,b,e,p.q,p.f⟩
 refine dZ (l:=[xR n,none]) rfl rfl rfl rfl (On λc f0 g=>?_);have f:∀{k},Fw n<|OL n c.length k<|KX n c.length<|c++[.l []]:=GH g yx;exact a8 (λH p=>tn<|ur (by decide) f rfl H p)<|cU fD (λH p=>tn<|jC h rfl rfl H p)<|SK h rfl rfl (Qd (by decide) g (X5 _) yx rfl rfl λx=>cT (jC h rfl rfl)<|uH (by decide) f rfl (cT (jC h rfl rfl)<|nZ f rfl (λ_=>rfl) (λH q=>zF h q rfl (X0 _ _) (Y7 r)) (SK h rfl rfl (cT (λH p=>tn<|ur (by decide) f rfl H p)<|a8 (jC h rfl rfl)<|GE (λ_ _=>rfl) λH p=>⟨_,rfl,p.q,f0.trans<|OL.fin g p.f.f⟩))))
end
noncomputable def uh:Kd->Nat
 | .n _=>1
 | .r K=>uh K+1
 | .p _=>3
 | .a _ K=>8+uh K
 | .c _=>1
theorem Fi{z}:uh (Kd.n z)=1:=rfl
theorem LU{K}:uh K.r=uh K+1:=rfl
theorem HE{z}:uh (Kd.p z)=3:=rfl
theorem MW{v K}:uh (Kd.a v K)=8+uh K:=rfl
theorem LY{z}:uh (Kd.c z)=1:=rfl
theorem T8(x)(i)(R):bY (iO<|.p x) i++R=.f ac gE::.f ac SQ::.m i::R:=rfl
theorem Th(x)(i)(R):bY (iO<|.c x) i++R=.f ac eg::.f ak [40]::.f Xw [99]::.f ak [58]::.m i::.f ak [41]::R:=rfl
def MC (K)(i)(R):bY (iO<|.r K) i++R=.f ac lU::.f Xw [97]::.f ak [44]::.f Xw [100]::.f ak [58]::(bY (iO K) i++bQ::.f Xw [101]::.f ak [42]::.f ak [58]::.m (i+nI (iO K))::.f ac bW::R):=by have a:∀j,bY CE j=[bQ,.f Xw [101],.f ak [42],.f ak [58],.m j,.f ac bW]:=λj=>rfl;have n1:nI xl=0:=rfl;have e:bY xl i=[.f ac lU,.f Xw [97],.f ak [44],.f Xw [100],.f ak [58]]:=rfl;simp[qa,jD,qj,gy,mV,bn,e,a,ah,n1,YZ,XM,bE,dE,Yx]
def Oy (v)(K)(i)(R):bY (iO<|.a v K) i++R=.f ac c0::(bY (dv v) i++.f ac xh::(bY (iO K) (i+nI (dv v))++R)):=by have e:bY [wW c0,g1] i=[.f ac c0]:=rfl;have a:∀j,bY [g1,wW xh,g1] j=[.f ac xh]:=λj=>rfl;have n1:nI [wW c0,g1]=0:=rfl;have n:nI [g1,wW xh,g1]=0:=rfl;simp only[gy,bn,e,a,ah,n1,n];simp only[YZ,XM,bE,dE,Yx]
def Wc (h:8+3*(a+1)<=d+8):8+3*a<=d+6:=aI 0x6685801b5e86b24868581681836bd0d6065b tq h
def W3 (h:8+3*(a+1)<=d+8):8+3*a<=d+7:=aI 0x7685801b5e86b24868581681836bd0d6065b tq h
section
variable{n I:Nat}{ts:List Tok}{wd:Nat->Nm}{pl:Nat->Int}(XJ:∀i,wd i∈cK)
variable{R:List PT}{S:PS}{m d:Nat}{H:Hp}{p:PT}
include XJ in
theorem wX:∀(K:Kd) (i d:Nat),8+3*Aw K<=d->Lk n I ts wd pl d (bY (iO K) i) (nh K i) (uh K)
 | .n x,i,d,b=>λR S m H q c=>Ky XJ (d:=d) q rfl (Xz (X0 4 _) b) (Y7 c)
 | .p x,i,d,b=>λR S m H q c=>by exact LB 8 b rfl λd b=>bt q rfl rfl (l:=[xR n]) rfl rfl (a8 (jC XJ rfl rfl)<|a8 (jC XJ rfl rfl)<|dB (ur (by decide) bk rfl)<|uH (by decide) bk rfl (nZ bk rfl (λ_=>rfl) (λH q=>Q3 XJ q rfl (X0 _ _) (Yz (Xx _ _) c)) (ay λH p=>⟨rfl,p⟩)))
 | .c x,i,d,b=>λR S m H q c=>by exact LB 8 b rfl λd b=>bt q rfl rfl (l:=[xR n]) rfl rfl (a8 (jC XJ rfl rfl)<|a8 (jC XJ rfl rfl)<|a8 (jC XJ rfl rfl)<|dB (ur (by decide) bk rfl)<|Ud bk rfl (λ_=>rfl) (λH q=>(Qa (d:=d+6) XJ (X0 _ _) q c).elim λa h=>⟨.r a,h⟩) (ay λH p=>⟨rfl,p⟩))
 | .r K,i,d,b=>λR S m H q c=>by refine LB 8 b rfl λd b=>?_;rw[MC]at q⊢;exact bt q rfl rfl (l:=[xR n]) rfl rfl (a8 (jC XJ rfl rfl)<|dB (ur (by decide) bk rfl)<|nZ bk rfl (λ_=>rfl) (λH q=>It XJ (X0 _ _) (wX K i (d+6)<|Wc b) q c) (ay λH p=>⟨rfl,p⟩))
 | .a v K,i,d,b=>λR S m H q c=>by
  refine LB 8 b rfl λd b=>?_;rw[Oy]at q⊢;have h1:m+(bY (dv v) i).length+uh K<=m+uh (.a v K):=by have:=vL v i;exact ba 0x486b00c1040c6490d0865b tq this
  have e:=Yz h1 c;exact bt q rfl rfl (l:=[xR n]) rfl rfl (dB (ur (by decide) bk rfl)<|nZ bk rfl (λ_=>rfl) (λH q=>Cq XJ q (VR v i) (vC v i) (X0 _ _)<|Yz (Xx _ _) e) (uH (by decide) bk rfl (nZ bk rfl (λ_=>rfl) (λH q=>wX K (i+nI (dv v)) (d+7) (W3 b) _ _ _ _ q e) (ay λH p=>⟨rfl,(p.mono h1).cast<|by rw[vU,d8,ax]⟩))))
theorem Ng(XJ:∀i,wd i∈cK)(q:Qh n I ts wd pl (.m i::.f ak [42]::.f ak [61]::(bY (iO K) (i+1)++bQ::R)) S m H)(h:9+3*Aw K<=d)(a:m+3+uh K<880):
  fZ n I ts wd pl d 37 [.r n] .n (.m i::.f ak [42]::.f ak [61]::(bY (iO K) (i+1)++bQ::R)) S m H R (S.run wd<|.d i uR::nh K (i+1)) (m+3+uh K):=by
 exact LB 9 h rfl λd h=>bt q rfl rfl (l:=[xR n,none]) rfl rfl (TR XJ bk rfl λx=>Jv XJ (Yz (Xx m<|3+uh K)<|X7 m 3 _▸a) bk rfl rfl (uH (by decide) (tG bk) rfl (nZ (tG bk) rfl (λ_=>rfl) (λH q=>wX XJ K (i+1) (d+8) (Im h) _ _ _ _ q a) (uH (by decide) (tG bk) rfl (ay λH p=>⟨rfl,p.q,p.f.f⟩)))))
theorem IO(XJ:∀i,wd i∈cK)(q:Qh n I ts wd pl (.m i::.f ak [61]::(bY (dv v) (i+1)++bQ::R)) S m H)(a:6<=d)(b:m+11<880):
  fZ n I ts wd pl d 36 [.r n] .n (.m i::.f ak [61]::(bY (dv v) (i+1)++bQ::R)) S m H R (S.run wd<|kH v (i+1)++[.d i sK]) (m+11):=by
 refine lR 6 a rfl λd a=>?_;have h1:m+(bY (dv v)<|i+1).length+3<=m+11:=by have:=vL v<|i+1;exact aI 0xb681836840c6490d0865b tq this
 have h:=Yz (Xz (Xx _ 3) h1) b;exact bt q rfl rfl (l:=[xR n,none]) rfl rfl (Ub XJ rfl bk rfl λx=>uH (by decide) (tG bk) rfl (nZ (tG bk) rfl (λ_=>rfl) (λH q=>Cq XJ q (VF v _) (vC v _) (X0 _ _) h) (uH (by decide) (tG bk) rfl (Jv XJ h bk rfl rfl (ay λH p=>⟨rfl,((p.mono h1).cast<|by rw[vU,ax];rfl).q,p.f.f⟩)))))
theorem Rb(XJ:∀i,wd i∈cK)(q:Qh n I ts wd pl (.m i::.f ak [58]::(bY (iO K) (i+1)++bQ::R)) S m H)(h:9+3*Aw K<=d)(e:m+3+uh K<880):
  fZ n I ts wd pl d 38 [.r n] .n (.m i::.f ak [58]::(bY (iO K) (i+1)++bQ::R)) S m H R (S.run wd<|nh K (i+1)++[.d i AE]) (m+3+uh K):=by
 refine LB 9 h rfl λd h=>bt q rfl rfl (l:=[xR n,none,none]) rfl rfl (S8 XJ rfl bk rfl λa x f0 c=>?_);have f:Fw n<|OL n a.length [.r x]<|IF n x ⟨Xw,wd i,pl i⟩<|KX n a.length<|a++[.l [.r x]]:=GH c<|FB yx;have h1:m+uh K+3<=m+3+uh K:=aI 0x11b40c60da103192 tq;have b:=Yz (Xz (Xx _ 3) h1) e;exact cT (jC XJ rfl rfl)<|uH (by decide) f rfl (nZ f rfl (λ_=>rfl) (λH q=>wX XJ K (i+1) (d+8) (Im h) _ _ _ _ q b) (uH (by decide) f rfl (qM (NH (λH p=>⟨H,rfl,p⟩) (λH p=>p.f.l) (nl rfl)<|xa (λH p=>p.f.l) (Ko b f (λ_ p=>p.f.i) rfl rfl (ay λH p=>⟨_,rfl,rfl,p⟩))<|zI λH p=>p.f.l) λl=>ay λH p=>⟨rfl,((p.2.mono h1).cast<|by rw[ax];rfl).q,f0.trans<|OL.fin c p.2.f.f.f⟩)))
end
def Ei:Option (Option<|Nm×Kd)->Nat
 |none=>0
 |some none=>1
 |some (some (_,K))=>4+uh K
theorem z0:Ei none=0:=rfl
theorem zi:Ei (some none)=1:=rfl
theorem AZ{f K}:Ei (some<|some (f,K))=4+uh K:=rfl
def xW:Option (Option<|Nm×Kd)->Nat
 |some (some (_,K))=>Aw K
 |_=>0
def El (d:Dc):Nat:=11+Ei d.t+Ei d.v
def Dd (d:Dc):Nat:=xW d.t+xW d.v
def LF (x)(v)(i)(R):bY (sX<|some<|some (x,v)) i++R=.f ac Yt::.m i::.f ak [61]::(bY (dv v) (i+1)++bQ::R):=by have e:∀i,bY (bT Yt) i=[.f ac Yt]:=λi=>rfl;have a:∀i,bY [.n x,g1,sg 61,g1] i=[.m i,.f ak [61]]:=λi=>rfl;have b:∀i,bY [sg 59,g1] i=[bQ]:=λi=>rfl;have n1:nI (bT Yt)=0:=rfl;have n:nI [.n x,g1,sg 61,g1]=1:=rfl;simp only[m0,bn,e,a,b,n1,n];simp
def F8 (x)(K)(i)(R):bY (vW<|some<|some (x,K)) i++R=.f ac YK::.m i::.f ak [42]::.f ak [61]::(bY (iO K) (i+1)++bQ::R):=by have e:∀i,bY (bT YK) i=[.f ac YK]:=λi=>rfl;have a:∀i,bY [.n x,sg 42,g1,sg 61,g1] i=[.m i,.f ak [42],.f ak [61]]:=λi=>rfl;have b:∀i,bY [sg 59,g1] i=[bQ]:=λi=>rfl;have n1:nI (bT YK)=0:=rfl;have n:nI [.n x,sg 42,g1,sg 61,g1]=1:=rfl;simp only[nC,bn,e,a,b,n1,n];simp
def Ii (x)(K)(i)(R):bY (AM<|some<|some (x,K)) i++R=.f ac YV::.m i::.f ak [58]::(bY (iO K) (i+1)++bQ::R):=by have e:∀i,bY (bT YV) i=[.f ac YV]:=λi=>rfl;have a:∀i,bY [.n x,sg 58,g1] i=[.m i,.f ak [58]]:=λi=>rfl;have b:∀i,bY [sg 59,g1] i=[bQ]:=λi=>rfl;have n1:nI (bT YV)=0:=rfl;have n:nI [.n x,sg 58,g1]=1:=rfl;simp only[mU,bn,bn,bn,e,a,b,n1,n];simp only[YZ,XM,bE,dE,Yx]
def To (t:Option<|Option<|Nm×Kd)(i:Nat)(w:Nm)(R:List PT){Cx:Prop}(k:∀b a,bY (vW t) i++.f ac w::R=.f ac b::a->Cx):Cx:=by
 cases t with
 |none=>exact k _ _ rfl
 |some c=>cases c with
  |none=>exact k _ _ rfl
  |some p=>exact k _ _<|F8 p.1 p.2 i _
def UG (t:Option<|Option<|Nm×Kd)(i:Nat)(w:Nm)(R:List PT){Cx:Prop}(k:∀b a,bY (AM t) i++.f ac w::R=.f ac b::a->Cx):Cx:=by
 cases t with
 |none=>exact k _ _ rfl
 |some c=>cases c with
  |none=>exact k _ _ rfl
  |some p=>exact k _ _<|Ii p.1 p.2 i _
section
variable{n I:Nat}{ts:List Tok}{wd:Nat->Nm}{pl:Nat->Int}(XJ:∀i,wd i∈cK)
variable{R:List PT}{S:PS}{m d:Nat}{H:Hp}{p:PT}{w:Nm}{F:Hp->Prop}{ss:List MS}{Q:Fl->Hp->Prop}
def Ss (h:m+(4+k)<880):m+3+k<880:=aI 0x3707046d03193dc1c1235806067b tq h
def U4:m+3+k+1<=m+(4+k):=aI 0x91ac0302d08da063192 tq
include XJ in
theorem JQ(e:7<=d)(f:m+11<880)(h:Fw n F)(a:∀x y H,¬Q (.e x y) H)(k:Tr (ae d) [xR n] (QG n I ts wd pl (.f ac w::R) (S.run wd<|uu c i) (m+11) F) (al::ss) Q):
  Tr (ae d) [xR n] (QG n I ts wd pl (bY (sX c) i++.f ac w::R) S m F) (al::ss) Q:=by
 obtain⟨d,rfl⟩:∃b,d=b+7:=⟨d-7,R1 7 e rfl⟩;cases c with
 |none=>exact d7 (λH p=>p.mono<|Xx _ _) k
 |some c=>
  cases c with
  |none=>exact cU a (λH p=>⟨H,rfl,p⟩)<|dB (ur (k:=ac) (by decide) h rfl)<|cT (rg rfl rfl)<|d7 (λH p=>p.mono<|Xx _ _) k
  |some c=>obtain⟨x,v⟩:=c;rw[LF];exact cU a (λH p=>⟨H,rfl,p⟩)<|dB (ur (by decide) h rfl)<|cU a (rg rfl rfl)<|nZ h rfl (λ_=>rfl) (λH q=>IO XJ q (X0 _ _) f) (cT (rg rfl rfl) k)
include XJ in
theorem NG(e:9+3*xW c<=d)(a:m+Ei c<880)(h:Fw n F)(b:∀x y H,¬Q (.e x y) H)(k:Tr (ae d) [xR n] (QG n I ts wd pl (.f ac w::R) (S.run wd<|zy c i) (m+Ei c) F) (al::ss) Q):
  Tr (ae d) [xR n] (QG n I ts wd pl (bY (vW c) i++.f ac w::R) S m F) (al::ss) Q:=by
 obtain⟨d,rfl⟩:∃f,d=f+9:=⟨d-9,Se 9 e rfl⟩;cases c with
 |none=>exact k
 |some c=>
  cases c with
  |none=>exact cU b (λH p=>⟨H,rfl,p⟩)<|a8 (jC (p:=.f ac YK) XJ rfl rfl)<|dB (ur (k:=ac) (by decide) h rfl)<|cT (rg rfl rfl)<|nZ h rfl (λ_=>rfl) (λH q=>Ch XJ q (X0 _ _)<|Y7 a) k
  |some c=>obtain⟨x,K⟩:=c;rw[F8];exact cU b (λH p=>⟨H,rfl,p⟩)<|a8 (jC XJ rfl rfl)<|dB (ur (by decide) h rfl)<|cU b (rg rfl rfl)<|nZ h rfl (λ_=>rfl) (λH q=>Ng XJ q e<|Ss a) (cT (rg rfl rfl)<|nZ h rfl (λ_=>rfl) (λH q=>Ch XJ q (X0 _ _)<|Ss a) (d7 (λH p=>(p.mono U4).cast<|by rw[jB,ax];rfl) k))
include XJ in
theorem Qe(e:9+3*xW c<=d)(a:m+Ei c<880)(h:Fw n F)(b:∀x y H,¬Q (.e x y) H)(k:Tr (ae d) [xR n] (QG n I ts wd pl (.f ac w::R) (S.run wd<|Bi c i) (m+Ei c) F) (al::ss) Q):
  Tr (ae d) [xR n] (QG n I ts wd pl (bY (AM c) i++.f ac w::R) S m F) (al::ss) Q:=by
 obtain⟨d,rfl⟩:∃f,d=f+9:=⟨d-9,Se 9 e rfl⟩;cases c with
 |none=>exact k
 |some c=>
  cases c with
  |none=>exact cU b (λH p=>⟨H,rfl,p⟩)<|a8 (jC (p:=.f ac YV) XJ rfl rfl)<|a8 (jC XJ rfl rfl)<|dB (ur (k:=ac) (by decide) h rfl)<|cT (rg rfl rfl)<|nZ h rfl (λ_=>rfl) (λH q=>Ch XJ q (X0 _ _)<|Y7 a) k
  |some c=>obtain⟨x,K⟩:=c;rw[Ii];exact cU b (λH p=>⟨H,rfl,p⟩)<|a8 (jC XJ rfl rfl)<|a8 (jC XJ rfl rfl)<|dB (ur (by decide) h rfl)<|cU b (rg rfl rfl)<|nZ h rfl (λ_=>rfl) (λH q=>Rb XJ q e<|Ss a) (cT (rg rfl rfl)<|nZ h rfl (λ_=>rfl) (λH q=>Ch XJ q (X0 _ _)<|Ss a) (d7 (λH p=>(p.mono U4).cast<|(ax _ S (nh K (i+1)++[.d i AE]) [.r]).symm.trans<|Xy (S.run wd)<|XM _ _ _) k))
include XJ in
theorem KN{D:Dc}{i:Nat}(g:9+3*Dd D<=d)(l:m+El D<880)(h:Fw n F)(a:∀x y H,¬Q (.e x y) H)(q:Tr (ae d) [xR n] (QG n I ts wd pl (.f ac w::R) (S.run wd<|cM D i) (m+El D) F) (al::ss) Q):
  Tr (ae d) [xR n] (QG n I ts wd pl (bY (aR D) i++.f ac w::R) S m F) (al::ss) Q:=by
 refine cps λC o=>UG D.v (i+nI (sX D.c)+nI (vW D.t)) w R λr j e=>To D.t (i+nI (sX D.c)) r j λt s b=>?_;have f:m+11+Ei D.t+Ei D.v<880:=by rw[X7,X7];exact(X7 11 _ _)▸l
 have c:=Yz (Xx _ _) f;have k:9+3*(xW D.t+xW D.v)<=d:=g;rw[Nat.mul_add,<- X7]at k;refine o ?_;simp only[aR,bn,bn,ah,XM,XM,<- X7,e,b];exact JQ XJ (Xz (nl rfl:7<=9)<|Xz (Xx 9 _) g) (Yz (Xx _ _) c) h a<|dG b<|NG XJ (Xz (Xx _ _) k) c h a<|dG e<|Qe XJ (Xz (by rw[X7,Y3<|3*xW D.t,<- X7];exact Xx _ _) k) f h a<|d7 (λH p=>(p.mono<|by rw[X7,X7,<- X7 11];exact XH _).cast<|by rw[cM,ax,ax]) q
include XJ in
theorem LA(h:2<=d)(k:∀H,QG n I ts wd pl (.f ac bL::R) S m F H->Q (.r .n) H)(a:∀x y H,¬Q (.e x y) H):Tr (ae d) [xR n] (QG n I ts wd pl (.f ac bL::R) S m F) (al::ss) Q:=by exact lR 2 h rfl λd h=>cU a (λH p=>⟨H,rfl,p⟩)<|a8 (jC XJ rfl rfl)<|a8 (jC XJ rfl rfl)<|a8 (jC XJ rfl rfl)<|a8 (RW rfl rfl)<|Pt k
include XJ in
theorem B8{D:Dc}{i:Nat}(q:Qh n I ts wd pl (bY (aR D) i++.f ac bL::R) S m H)(h:10+3*Dd D<=d)(a:m+El D<880):fZ n I ts wd pl d 34 [.r n] .n (bY (aR D) i++.f ac bL::R) S m H (.f ac bL::R) (S.run wd<|cM D i)<|m+El D:=by exact LB 10 h rfl λd h=>bt q rfl rfl (l:=[xR n]) rfl rfl (KN XJ (aI 0x12d0b0036bd2d6494d0b0036bd4d6065b tq h) a bk fD<|LA XJ (X0 _ _) (λH p=>⟨rfl,p⟩) fD)
include XJ in
theorem F1(q:Qh n I ts wd pl (.f ac bL::(A++.f ac bW::R)) S m H)(a:pv 0 A=true)(b:ig false A=true)(h:5<=d)(c:m+A.length<880):
  fZ n I ts wd pl d 33 [.r n] .n (.f ac bL::(A++.f ac bW::R)) S m H R (S.run wd<|eQ false A) (m+A.length):=by
 exact lR 5 h rfl λd h=>bt q rfl rfl (l:=[xR n]) rfl rfl (dB (ur (by decide) bk rfl)<|nZ bk rfl (λ_=>rfl) (λH q=>Mz XJ q a b (X0 _ _) c) (uH (by decide) bk rfl (ay λH p=>⟨rfl,p⟩)))
end
def cS (h:H[a]?=some (.l v)):a3 a v H=true:=fw h
section
variable{n I:Nat}{ts:List Tok}{wd:Nat->Nm}{pl:Nat->Int}(XJ:∀i,wd i∈cK)
variable{R:List PT}{S:PS}{m d:Nat}{H:Hp}{p:PT}{w:Nm}{F:Hp->Prop}{l:Lo}{ss:List MS}{Q:Fl->Hp->Prop}
def Uo (i:Nat):List PT:=[.f ak [40],.f ac YV,.m i,.f ak [44],.m<|i+1,.f ak [58],.f ac c0,.f ac xh,.m<|i+2,.f ak [41]]
include XJ in
theorem M1(b:Fw n F):CT (ae<|d+3) 43 [.r n] (QG n I ts wd pl (bQ::R) S m F) (λv H=>∃a,v=.r a/\n+7<=a/\QG n I ts wd pl (bQ::R) S m (OL n a [] F) H):=by exact dZ (l:=[xR n,none]) rfl rfl rfl rfl (On λc f0 h=>dB (λH p=>tn<|jC XJ rfl rfl H p)<|GE (λ_ _=>rfl) λH p=>⟨_,rfl,h,p.q,p.f.l,b _ _ (OL.fin h p.f.f) f0⟩)
include XJ in
theorem Mk(g:m+1<880)(e:Fw n F):CT (ae<|d+5) 43 [.r n] (QG n I ts wd pl (Uo i++bQ::R) S m F) (λv H=>∃a x y,v=.r a/\n+7<=a/\QG n I ts wd pl (bQ::R) (S.step wd<|.u<|i+2) (m+1) (OL n a [.r x,.r y]<|IF n y ⟨Xw,wd<|i+1,pl<|i+1⟩<|IF n x ⟨Xw,wd i,pl i⟩ F) H):=by refine dZ (l:=[xR n,none]) rfl rfl rfl rfl (On λb f0 h=>?_);have c:∀{k},Fw n<|OL n b.length k<|KX n b.length<|b++[.l []]:=GH h yx;refine a8 (λH p=>tn<|ur (by decide) c rfl H p)<|cU fD (λH p=>tn<|jC XJ rfl rfl H p)<|Vk (by decide) c rfl (Lw XJ h (X5 _) yx rfl rfl λx=>cU fD (ur (by decide) (GH h<|FB yx) rfl)<|Lw XJ h (nl rfl) (FB yx) rfl rfl λy=>?_);have f:Fw n<|OL n b.length [.r x,.r y]<|IF n y ⟨Xw,wd<|i+1,pl<|i+1⟩<|IF n x ⟨Xw,wd i,pl i⟩<|KX n b.length<|b++[.l []]:=GH h<|FB<|FB yx;exact cT (jC XJ rfl rfl)<|uH (by decide) f rfl (cU fD (ur (by decide) f rfl)<|uH (by decide) f rfl (cT (jC XJ rfl rfl)<|nZ f rfl (λ_=>rfl) (λH q=>zF XJ q rfl (X0 _ _) (Y7 g)) (SK XJ rfl rfl (cT (λH p=>tn<|ur (by decide) f rfl H p)<|a8 (jC XJ rfl rfl)<|GE (λ_ _=>rfl) λH p=>⟨_,x,y,rfl,h,p.q,p.f.l,p.f.f.i,p.f.f.f.i,e _ _ (OL.fin h p.f.f.f.f) f0⟩))))
include XJ in
theorem M2(r:m+7<880)(h:Fw n F)(t:∀o,Tr (ae<|d+5) [xR n,some v,o] (QG n I ts wd pl (bQ::R) (S.run wd<|rk u i) (m+7) F) ss Q):
  Tr (ae<|d+5) [xR n,some v,none] (QG n I ts wd pl (bY (cr u) i++bQ::R) S m F) (ee::ss) Q:=λH p=>by
 cases u with
 |none=>refine cps λC k=>xQ (M1 XJ (d:=d+2) h H p) λ_ b e a A q g=>?_;subst A;exact k<|qM (P:=λX=>X=H) (NH (λX z=>⟨b,by refine aa z ?_;exact hE λj=>j p.q.Yd _ _ e,g⟩) (λ_ p=>p.f.l) (X5 _)<|zI λ_ p=>p.f.l) (λB H p=>by obtain⟨rfl,p⟩:=p;exact t _ H ⟨p.q.mono<|Xx _ _,p.f.f⟩) H rfl
 |some s=>refine cps λC k=>?_;obtain⟨_,b,e,a,x,y,rfl,q,g⟩:=Mk XJ (d:=d) (Yz (Z0 (nl rfl) m) r) h H p;have c:m+1+3<880:=Yz (Z0 (nl rfl:4<=7) m) r;have f:=Uj (k:=[V.r x,.r y]) q<|tG (x:=y) (t:=⟨Xw,wd<|i+1,pl<|i+1⟩)<|tG (x:=x) (t:=⟨Xw,wd i,pl i⟩) h;refine k<|qM (P:=λX=>X=H) (NH (λX z=>⟨b,by refine aa z ?_;exact hE λj=>j p.q.Yd _ _ e,g⟩) (λ_ p=>p.f.l) (nl rfl)<|xa (λ_ p=>p.f.l) (Ko (Yz (Xx _ _) c) f (λ_ p=>p.f.f.i) rfl rfl (ay λH p=>⟨_,rfl,rfl,p⟩))<|xa (λ_ p=>p.f.l) (Ko c f (λ_ p=>p.f.i) rfl rfl (ay λH p=>⟨_,rfl,rfl,p⟩))<|zI λ_ p=>p.f.l) (λB H p=>?_) H rfl;obtain⟨rfl,p⟩:=p;exact t _ H ⟨p.q,p.f.f.f.f⟩
theorem TC(j:m<880)(f:Fw n F)(h:gv l 0=xR n)(q:Tr (ae d) l (QG n I ts wd pl R (S.step wd .o) (m+1) F) ss Q):Tr (ae d) l (QG n I ts wd pl R S m F) (.a (.f (.v 0) 7) (.dS [] [])::ss) Q:=
 aW (λH g=>by exact RI g.q j λk e a b c=>⟨e,qt λo=>o _ h _ (KK g.q).1 k _ _ rfl _ a,b,f _ _ c g.f⟩) q
theorem Uk(k:(S.step wd .c).a≠[])(j:m<880)(f:Fw n F)(h:gv l 0=xR n)(r:Tr (ae d) l (QG n I ts wd pl R (S.step wd .c) (m+1) F) ss Q):Tr (ae d) l (QG n I ts wd pl R S m F) (.x (.pop<|.f (.v 0) 7)::ss) Q:=
 aW (λH g=>by exact cps λC q=>PQ g.q k j λv e a b c=>q<|⟨e,qt λo=>o _ h _ (KK g.q).1 _ _ a,b,f _ _ c g.f⟩) r
theorem TU(q:m<880)(k:Fw n F)(f:gv l 0=xR n)(h:gv l j=xR x)(o:gv l i=xI v)(u:Tr (ae<|d+1) l (QG n I ts wd pl R (S.add r v) (m+1) F) ss Q):
  Tr (ae<|d+1) l (QG n I ts wd pl R S m<|IF n x ⟨Xw,wd r,pl r⟩ F) (.a (.f (.v 0) 9) (.w 1 [.f (.v j) 2,.f (.v j) 1,.v i])::ss) Q:=
 aW (λH g=>by refine cps λC t=>P3 g.q r v q λy z e a b c=>?_;exact t<|⟨e,qt λs=>s _ f _ y z _ h _ ((eh g.f.i.2) _) _ h _ ((eh g.f.i.2) _) _ o _ _ (xM (d:=d+1) (H:=H) (nm:=wd r) (p:=pl r) (t:=v)<|X0 _ _) _ a,b,k _ _ c g.f.f⟩) u
theorem Tb(a:Option<|Nm×Nm×Nm)(i:Nat)(X:List PT){Cx:Prop}(k:∀p R,bY (cr a) i++bQ::X=p::R->f6 p [42]=true->Cx):Cx:=by
 cases a with
 |none=>exact k _ _ rfl rfl
 |some s=>exact k _ _ rfl rfl
include XJ in
theorem TG{i j r:Nat}{k:Nm}{a:Option<|Nm×Nm×Nm}{X:List PT}(g:m<880)(f:Fw n F)(c:gv l 0=xR n)(b:Tr (ae<|d+3) (l.set i<|xI S.b.length) (QG n I ts wd pl (bY (cr a) r++bQ::X) (S.step wd<|.d j k) (m+3) F) ss Q):
  Tr (ae<|d+3) l (QG n I ts wd pl (.m j::(bY (cr a) r++bQ::X)) S m F) (.s i (.m 25 (.v 0) [.m 35 (.v 0) [],.s k])::ss) Q:=by
 refine cps λC o=>Tb a r X λp Y e h=>o ?_;rw[e]at b⊢;exact Tl XJ h g f c b
def HY (p:Pr)(i:Nat)(R:List PT):List PT:=
 .f ac eg::.m i::(bY (cr p.p) (i+1)++bQ::(bY (aR p.d) (i+1+nI (cr p.p))++.f ac bL::((.f ac PP::(bY (dv p.v1) (i+1+nI (cr p.p)+nI (aR p.d))++.f ac lF::.m (i+1+nI (cr p.p)+nI (aR p.d)+nI (dv p.v1))::.f ak [58,61]::.f pj [49]::.f ac bW::.f ac fg::bY (dv p.v2) (i+1+nI (cr p.p)+nI (aR p.d)+nI (dv p.v1)+1)))++.f ac bW::.m (i+1+nI (cr p.p)+nI (aR p.d)+nB p.v1 p.v2)::bQ::R)))
theorem LX(v)(x)(v2):nI (JN v x v2)=nB v v2:=by rw[JN,ah,ah,ah,ah,(rfl:nI t8=0),(rfl:nI (I0 x)=1),(rfl:nI [g1,wW bW,g1]=0),nB];exact aI 0x42d031806842d001ac63194 tq
theorem Tz(v)(x)(a)(i)(R):bY (JN v x a) i++R=.f ac bL::((.f ac PP::(bY (dv v) i++.f ac lF::.m (i+nI (dv v))::.f ak [58,61]::.f pj [49]::.f ac bW::.f ac fg::bY (dv a) (i+nI (dv v)+1)))++.f ac bW::R):=by have e:∀i,bY t8 i=[.f ac bL,.f ac PP]:=λi=>rfl;have b:∀i,bY (I0 x) i=[.f ac lF,.m i,.f ak [58,61],.f pj [49],.f ac bW,.f ac fg]:=λi=>rfl;have c:∀i,bY [g1,wW bW,g1] i=[.f ac bW]:=λi=>rfl;have n1:nI t8=0:=rfl;have f:nI (I0 x)=1:=rfl;simp only[JN,bn,e,b,c,ah,ah,n1,f];simp only[YZ,XM,bE,dE,Yx,X7]
theorem QU(p:Pr)(i:Nat)(R:List PT):bY (uE p) i++R=HY p i R:=by have e:∀i,bY [g1,wW eg,g1,.n p.nm] i=[.f ac eg,.m i]:=λi=>rfl;have a:∀i,bY [sg 59] i=[bQ]:=λi=>rfl;have b:∀i,bY [.n p.nm,sg 59] i=[.m i,bQ]:=λi=>rfl;have n1:nI [g1,wW eg,g1,.n p.nm]=1:=rfl;have c:nI [sg 59]=0:=rfl;simp only[uE,bn,bn,bn,bn,bn,e,a,b];simp only[ah,n1,c,LX,YZ];simp only[XM,Tz,bE,dE];simp only[HY,X7,XM,bE]
def KO (v a:Vl)(i:Nat):List PT:=.f ac PP::(bY (dv v) i++.f ac lF::.m (i+nI (dv v))::.f ak [58,61]::.f pj [49]::.f ac bW::.f ac fg::bY (dv a) (i+nI (dv v)+1))
theorem Nl(v a)(i):pv 0 (KO v a i)=true:=by cases v<;> cases a<;>rfl
theorem Ga(v a)(i):ig false (KO v a i)=true:=by cases v<;> cases a<;>rfl
theorem IQ(v a)(i):eQ false (KO v a i)=qd v a i:=by cases v<;> cases a<;>rfl
theorem Oq(v a)(i):(KO v a i).length<=23:=by have:=vL v i;have:=vL a<|i+nI (dv v)+1;simp only[KO,aM,XB];exact aI 0x5da1685a1685a1685a16858c6318c031924342196d0d0065b tq ‹_› ‹_›
def Pd (p:Pr):Nat:=36+El p.d
def rx (p:Pr)(i:Nat):List Ev:=.d i a9::.o::rk p.p (i+1)++cM p.d (i+1+nI (cr p.p))++qd p.v1 p.v2 (i+1+nI (cr p.p)+nI (aR p.d))
theorem MX{pr:Pr}{i:Nat}(XJ:∀i,wd i∈cK)(q:Qh n I ts wd pl (HY pr i R) S m H)(c:12+3*Dd pr.d<=d)(r:m+Pd pr<880)
  (s:cH i (S.run wd<|rx pr i).f=(S.b.length:Int)) (t:((S.run wd<|jw pr i).a≠[])):
  fZ n I ts wd pl d 44 [.r n] .n (HY pr i R) S m H (bQ::R) (S.run wd<|jw pr i) (m+Pd pr):=by
 refine LB 12 c rfl λd c=>?_;have b:=Oq pr.v1 pr.v2<|i+1+nI (cr pr.p)+nI (aR pr.d);have h:m+3+1+7+El pr.d+(KO pr.v1 pr.v2<|i+1+nI (cr pr.p)+nI (aR pr.d)).length+1+1<=m+Pd pr:=by rw[Pd];exact ba 0x2123980605a168827685a36818c6318c64aed1065b tq b
 have k:=Y7<|Yz h r;have a:=Y7 k;have j:=Yz (Xx _ _) a;have g:=Yz (Xx _ _) j;have f:=Yz (Xx _ 8) g;refine bt q rfl rfl (l:=[xR n,none,none]) rfl rfl (uH (by decide) bk rfl (TG XJ (Yz (Xx _ _) f) bk rfl (TC f bk rfl (M2 XJ g bk λo=>uH (by decide) bk rfl (nZ bk rfl (λ_=>rfl) (λH q=>B8 XJ q (aI 0x36a1a1630036bd4d6498d0b0036bd8d6065b tq c) j) (nZ bk rfl (λ_=>rfl) (λH q=>F1 XJ (A:=KO pr.v1 pr.v2<|i+1+nI (cr pr.p)+nI (aR pr.d)) q (Nl _ _ _) (Ga _ _ _) (X0 _ _) a) ?_))))));have eS:PS.run wd (PS.run wd (PS.run wd (PS.step wd (PS.step wd S<|Ev.d i a9) Ev.o)<|rk pr.p<|i+1)<|cM pr.d<|i+1+nI (cr pr.p)) (eQ false<|KO pr.v1 pr.v2<|i+1+nI (cr pr.p)+nI (aR pr.d))=S.run wd (rx pr i):=by rw[IQ,rx,ax,ax];rfl
 have e:((S.run wd<|rx pr i).add (i+1+nI (cr pr.p)+nI (aR pr.d)+nB pr.v1 pr.v2) (S.b.length:Int)).step wd .c=S.run wd (jw pr i):=by rw[show jw pr i=rx pr i++[.f (i+1+nI (cr pr.p)+nI (aR pr.d)+nB pr.v1 pr.v2) i,.c]from rfl,ax,<- s];rfl
 refine d7 (λH p=>p.cast eS)<|M4 XJ bk rfl λx=>TU a bk rfl rfl rfl (Uk (e▸t) k bk rfl (ay λH p=>⟨rfl,(p.mono h).cast e⟩))
end
section
variable{n I:Nat}{ts:List Tok}{wd:Nat->Nm}{pl:Nat->Int}(XJ:∀i,wd i∈cK)
variable{R:List PT}{S:PS}{m d:Nat}{H:Hp}{p:PT}{w:Nm}
def mf {W:RS}:W.XT.d=W.d:=by unfold RS.XT;split<;>rfl
include XJ in
theorem Nr(q:Qh n I ts wd pl (.m i::.f ak [58,61]::.f Xw [98]::R) S m H)(h:4<=d)(b:m<880):fZ n I ts wd pl d 32 [.r n] .n (.m i::.f ak [58,61]::.f Xw [98]::R) S m H R (S.step wd<|.d i wA)<|m+3:=by obtain⟨d,rfl⟩:∃a,d=a+2+1:=⟨d-3,(YI<|bB 0x36c8046865b tq h).symm⟩;exact bt q rfl rfl (l:=[xR n,none]) rfl rfl (M4 XJ bk rfl λx=>dB (ur (by decide) (tG bk) rfl)<|Rz (by decide) (tG bk) rfl (Jv XJ b bk rfl rfl (ay λH p=>⟨rfl,p.q,p.f.f⟩)))
include XJ in
theorem N9(q:Qh n I ts wd pl (.m i::p::R) S m H)(c:f6 p [58,61]=true)(h:4<=d)(b:m<880):fZ n I ts wd pl d 32 [.r n] .n (.m i::p::R) S m H (p::R) (S.step wd<|.d i b9)<|m+3:=by obtain⟨d,rfl⟩:∃a,d=a+2+1:=⟨d-3,(YI<|bB 0x36c8046865b tq h).symm⟩;exact bt q rfl rfl (l:=[xR n,none]) rfl rfl (M4 XJ bk rfl λx=>a8 (jC XJ c rfl)<|Jv XJ b bk rfl rfl (ay λH p=>⟨rfl,p.q,p.f.f⟩))
def O8:Option Pr->Nat
 |none=>0
 |some p=>Pd p
def L7:Option Pr->Nat
 |none=>0
 |some p=>Dd p.d
theorem TX(o:Option Pr)(i:Nat)(R:List PT){Cx:Prop}(k:∀w a,bY (fR o) i++.f ac bL::R=.f ac w::a->w≠eu->Cx):Cx:=by
 cases o with
 |none=>exact k _ _ rfl (by decide)
 |some p=>exact k _ _ (QU p i _) (by decide)
theorem Tw(D:Dc)(i:Nat){w:Nm}(h:w≠eu)(R:List PT){Cx:Prop}(k:∀a b,bY (aR D) i++.f ac w::R=.f ac a::b->a≠eu->Cx):Cx:=by
 obtain⟨c,t,v⟩:=D;simp only[aR,bn,XM]at k;cases c with
 |some c=>cases c with
  |none=>exact k _ _ rfl (by decide)
  |some p=>exact k _ _ (LF p.1 p.2 i _) (by decide)
 |none=>cases t with
  |some c=>cases c with
   |none=>exact k _ _ rfl (by decide)
   |some p=>exact k _ _ (F8 p.1 p.2 _ _) (by decide)
  |none=>cases v with
   |some c=>cases c with
    |none=>exact k _ _ rfl (by decide)
    |some p=>exact k _ _ (Ii p.1 p.2 _ _) (by decide)
   |none=>exact k _ _ rfl h
include XJ in
theorem Ie(q:Qh n I ts wd pl (bY (aR D) i++(bY (fR o) j++.f ac bL::R)) S m H)(h:14+3*Dd D+3*L7 o<=d)(a:m+El D+O8 o<880)
  (b:∀p,o=some p->cH j ((S.run wd<|cM D i).run wd<|rx p j).f=((S.run wd<|cM D i).b.length:Int)/\((S.run wd<|cM D i).run wd<|jw p j).a≠[]):
  fZ n I ts wd pl d 34 [.r n] .n (bY (aR D) i++(bY (fR o) j++.f ac bL::R)) S m H (.f ac bL::R) ((S.run wd<|cM D i).run wd<|qV o j) (m+El D+O8 o):=by
 cases o with
 |none=>exact B8 XJ q (Xz (add_le_add_right (nl rfl) _) h) a
 |some p=>obtain⟨d,rfl⟩:∃c,d=c+14:=⟨d-14,(YI<|by exact ba 0x139b21046d7806d7b9ac6065b tq h).symm⟩;have e:bY (fR<|some p) j++.f ac bL::R=HY p j (.f ac bL::R):=QU p j _;rw[e]at q⊢;exact bt q rfl rfl (l:=[xR n]) rfl rfl (KN XJ (ba 0x35a16006d7a5ac939a16086d7806d7b9ac6065b tq h:9+3*Dd D<=d+13) (Yz (Xx _ _) a) bk fD<|cU fD (λH p=>⟨H,rfl,p⟩)<|a8 (jC XJ rfl rfl)<|a8 (jC XJ rfl rfl)<|a8 (jC XJ rfl rfl)<|dB (RW rfl rfl)<|nZ bk rfl (λ_=>rfl) (λH q=>MX (pr:=p) (i:=j) XJ q (ba 0x35a16006d7b1ac939a16006d7886d7b9ac6065b tq h:12+3*Dd p.d<=d+13) a (b p rfl).1 (b p rfl).2) (uH (by decide) bk rfl (LA XJ (X0 _ _) (λH p=>⟨rfl,p⟩) fD)))
def KF (v:Vl)(i:Nat):List PT:=.m i::bQ::.f ac yl::(bY (dv v) (i+1)++[.f ac xh,.f pj [49],.f ak [58],.f ac bW])
theorem Mg(v)(i):pv 0 (KF v i)=true:=by cases v<;>rfl
theorem ES(v)(i):ig false (KF v i)=true:=by cases v<;>rfl
theorem Km(v)(i):eQ false (KF v i)=.u i::kH v (i+1):=by cases v<;>rfl
theorem NP(v)(i):(KF v i).length<=15:=by have:=vL v<|i+1;simp only[KF,aM,XB];exact bB 0x1ed0b42d0b42d0b42d0b40d6318c0318c6490d0065b tq this
def Ki (M:Md):List PT:=bY (bj M.i) 0++(bY (aR M.d) (nI<|bj M.i)++(bY (fR M.p) (nI (bj M.i)+nI (aR M.d))++.f ac bL::(KF M.v (nI (bj M.i)+nI (aR M.d)+nI (fR M.p))++.f ac bW::.f Xw [97]::.f ak [46]::[])))
def ze (M:Md):List PT:=.f ac oP::.f Xw [97]::bQ::Ki M
theorem Uy(M:Md):bY (aP M) 0=ze M:=by have e:bY oy 0=[.f ac oP,.f Xw [97],bQ]:=rfl;have a:∀i,bY (Dr M.x) i=[.f ac bL,.m i,bQ,.f ac yl]:=λi=>rfl;have b:∀i,bY HN i=[.f ac xh,.f pj [49],.f ak [58],.f ac bW,.f ac bW,.f Xw [97],.f ak [46]]:=λi=>rfl;have n1:nI oy=0:=rfl;have c:nI (Dr M.x)=1:=rfl;simp only[aP,bn,bn,bn,bn,bn,bn,e,a,b];simp only[ah,n1,c,Yx,YZ];simp only[ze,Ki,KF,XM,bE,dE,X7]
theorem Mx(D:Dc)(p:Option Pr)(i:Nat)(Z:List PT):∃w R,(bY (aR D) i++(bY (fR p) (i+nI (aR D))++.f ac bL::Z))=.f ac w::R/\f6 (.f ac w) eu=true:=by exact cps λC k=>TX p (i+nI (aR D)) Z λg a x e=>Tw D i e a λc b y f=>k<|⟨c,b,aa x<|aa y rfl,by simpa [f6]using f⟩
theorem LL(XJ:∀i,wd i∈cK)(b)(c:∃w R,X=.f ac w::R/\f6 (.f ac w) eu=true)(h:Fw n F):
  Tn (ae<|d+4) [xR n] (QG n I ts wd pl (bY (bj b) 0++X) YB 1 F) (.i (.m 21 (.v 0) [(.s [73,77,80,79,82,84])]) [.x<|.m 32 (.v 0) [],fm,.x<|.m 22 (.v 0) [(.s [59])]] [])
   (λl H=>l=[xR n]/\QG n I ts wd pl X (YB.run wd<|g9 b 0) 4 F H):=by
 match b with
 |none=>obtain⟨w,R,rfl,e⟩:=c;exact vh<|a8 (jC XJ e rfl)<|ay λH p=>⟨_,rfl,rfl,p.q.mono<|nl rfl,p.f⟩
 |some (false,a)=>exact vh<|dB (ur (k:=ac) (R:=.m 0::.f ak [58,61]::.f Xw [98]::bQ::X) (by decide) h rfl)<|nZ h rfl (λ_=>rfl) (λH q=>Nr XJ (d:=d+4) q (nl rfl)<|nl rfl) (cT (jC XJ rfl rfl)<|uH (by decide) h rfl (ay λH p=>⟨_,rfl,rfl,p.q.mono<|nl rfl,p.f⟩))
 |some (true,a)=>exact vh<|dB (ur (k:=ac) (R:=.m 0::bQ::X) (by decide) h rfl)<|nZ h rfl (λ_=>rfl) (λH q=>N9 XJ (d:=d+4) q rfl (nl rfl) (nl rfl)) (cT (jC XJ rfl rfl)<|uH (by decide) h rfl (ay λH p=>⟨_,rfl,rfl,p.q.mono<|nl rfl,p.f⟩))
def LN (M:Md):Nat:=30+El M.d+O8 M.p
include XJ in
theorem N8{M:Md}{F:Hp->Prop}(h:Fw n F)(b:16+3*Dd M.d+3*L7 M.p<=d+1)(f:LN M<880)(s:∀p,M.p=some p->cH (nI (bj M.i)+nI (aR M.d)) (((YB.run wd<|g9 M.i 0).run wd<|cM M.d<|nI<|bj M.i).run wd<|rx p<|nI (bj M.i)+nI (aR M.d)).f=(((YB.run wd<|g9 M.i 0).run wd<|cM M.d<|nI<|bj M.i).b.length:Int)/\
   (((YB.run wd<|g9 M.i 0).run wd<|cM M.d<|nI<|bj M.i).run wd<|jw p<|nI (bj M.i)+nI (aR M.d)).a≠[]):
  Tr (ae d) [xR n] (QG n I ts wd pl (Ki M) YB 1 F) (ii.body.drop 4) (Rt λv c=>v=.n/\∃W,Rp n I ts c W/\jv wd pl W (YB.run wd<|ku M)/\F c):=by
 obtain⟨d,rfl⟩:∃l,d=l+4:=⟨d-4,(YI<|by exact ba 0x88d905a26046d7806d7c1ac6065b tq b).symm⟩;have a:=NP M.v<|nI (bj M.i)+nI (aR M.d)+nI (fR M.p);have e:4+El M.d+O8 M.p+(KF M.v<|nI (bj M.i)+nI (aR M.d)+nI (fR M.p)).length<880:=by simp only[LN]at f;exact ba 0x370708202358c64ded1065bdc1c1079ac6067b tq f a
 refine qM (LL XJ M.i (Mx M.d M.p (nI<|bj M.i) _) h) λD=>λH p=>?_;obtain⟨rfl,p⟩:=p;refine nZ h rfl (λ_=>rfl) (λH q=>Ie XJ q (by exact ba 0x11a26046d7806d7b9ac6482d2344c6046d7806d7c1ac6065b tq b) (Yz (Xx _ _) e) s) ?_ H p;exact nZ h rfl (λ_=>rfl) (λH q=>F1 XJ q (Mg _ _) (ES _ _) (ba 0x4681856c82d2340c6086d7846d7c1ac6065b tq b) e) (Rz (by decide) h rfl (aW (l':=[xR n]) (P':=λH=>∃W,Rp n I ts H W/\jv wd pl W (YB.run wd<|ku M)/\F H) (λH p=>cps λC u=>ag p.q λA r g=>aF g.mt λG E o k B=>aj (Si (d:=d+4) (s:=[46]) o (nl rfl) k.2 H r) λj x y z=>u<|⟨j,yP λt=>t r.Yd _ _ x,_,y,by rw[ku,ax,ax,ax,<- Km];exact g.st.XT,h _ _ z p.f⟩)<|ay λH p=>⟨rfl,p⟩))
include XJ in
theorem Hc{M:Md}{a:RS}(r:Rp n I ts H a)(h:a=⟨ts,[],[iL],[],[],[],[],0⟩)(L:yY wd pl (ze M) ts)(o:16+3*Dd M.d+3*L7 M.p<=d)(hm:LN M<880)(hP:∀p,M.p=some p->cH (nI (bj M.i)+nI (aR M.d)) (((YB.run wd<|g9 M.i 0).run wd<|cM M.d<|nI<|bj M.i).run wd<|rx p<|nI (bj M.i)+nI (aR M.d)).f=(((YB.run wd<|g9 M.i 0).run wd<|cM M.d<|nI<|bj M.i).b.length:Int)/\
   (((YB.run wd<|g9 M.i 0).run wd<|cM M.d<|nI<|bj M.i).run wd<|jw p<|nI (bj M.i)+nI (aR M.d)).a≠[]):
  ∃H' b,ae d 31 [.r n] H=some (.v .n,H')/\Rp n I ts H' b/\jv wd pl b (YB.run wd<|ku M)/\ar n H H':=by
 obtain⟨d,rfl⟩:∃d',d=d'+1:=⟨d-1,(YI<|by exact ba 0x105b21046d7806d7c1ac6065b tq o).symm⟩;have q:a.rem=ts:=aa h rfl;unfold ze at L;refine cps λC y=>aF L λt1 r1 F P T=>aF T λt2 r2 G Q U=>aF U λt3 r3 J D Y=>?_;have N:=q.trans F;refine aj (Si (d:=d) (s:=oP) N (EQ o) P.2 H r) λA g c k=>?_;have s:=fT N;rw[G]at s;have s:=s;refine NB (d:=d) c s (ba 0x4d905a06086d7846d7c1ac6065b tq o) Q.1 λx u d1 E d3 d4=>?_;have f:=fT s;rw[J]at f;have f:=f;refine aj (Si (d:=d) (s:=[59]) f (EQ o) D.2 u E) λB f1 f2 f3=>?_;have O:=fT f;have l:a.XT.XT.XT.c=0:=by simp only[ia,h]
 have fl:=f2.fld;refine yk f2 (bB 0x708e04c0d0069b tq l) λil H4 g1 g2 g3=>?_;have q4:Qh n I ts wd pl (Ki M) YB 1 H4:=by
  refine⟨_,g2,?_,?_,?_,?_,by decide,?_⟩
  ·show yY wd pl _ a.XT.XT.XT.rem
   refine aa O ?_;exact Y
  ·show a.XT.XT.XT.rem.length<ts.length
   refine aa O<|aa F<|aa G<|aa J ?_;simp only[aM];exact bB 0xb42d0b40c63013 tq
  ·show a.XT.XT.XT.p≠[46]
   have:a.XT.XT.XT.p=t3.t:=by generalize a.XT.XT=W2 at f;unfold RS.XT;exact aa f rfl
   refine aa this<|aa D.2 ?_;decide
  ·refine⟨?_,?_,?_,?_,?_⟩
   ·show []::a.XT.XT.XT.a=_
    simp only[nr,h];rfl
   ·show a.XT.XT.XT.b=_
    simp only[Dj,h];rfl
   ·have:∀W:RS,W.XT.f=W.f:=λW=>by unfold RS.XT;split<;>rfl
    show a.XT.XT.XT.f=_;rw[this,this,this,h];rfl
   ·have:∀W:RS,W.XT.e=W.e:=λW=>by unfold RS.XT;split<;>rfl
    show a.XT.XT.XT.e.length=_;rw[this,this,this,h];rfl
   ·show a.XT.XT.XT.d=_
    refine aa mf<|aa mf<|aa mf<|aa h ?_;rfl
  ·show a.XT.XT.XT.c+1+a.XT.XT.XT.d.length<=1
   refine aa l<|aa mf<|aa mf<|aa mf<|aa h ?_;simp
 refine y ?_
 suffices t:CT (ae<|d+1) 31 [.r n] (λX=>X=H) (λv H'=>v=.n/\∃b,Rp n I ts H' b/\jv wd pl b (YB.run wd<|ku M)/\ar n H H')by refine cps λC y=>Cc (t H rfl) λ_ H' e e7 b p=>?_;subst e7;exact y<|⟨H',b,e,p⟩
 refine dZ (l:=[xR n]) rfl rfl rfl rfl (aW (l':=[xR n]) (P':=λX=>X=A) (λX z=>⟨A,by refine aa z ?_;exact yP λj=>j r.Yd _ _ g,rfl⟩)<|aW (l':=[xR n]) (P':=λX=>X=u) (λX z=>⟨u,by refine aa z ?_;exact yP λj=>j c.Yd _ _ d1,rfl⟩)<|aW (l':=[xR n]) (P':=λX=>X=B) (λX z=>⟨B,by refine aa z ?_;exact yP λj=>j E.Yd _ _ f1,rfl⟩) ?_);exact aW (l':=[xR n]) (λX z=>⟨H4,by refine aa z ?_;exact yP λj=>j _ fl.1 il _ _ rfl _ g1,q4,((k.trans d3).trans f3).trans g3⟩)<|N8 XJ bk o hm hP
end
noncomputable def aw:List Ev->List Nat
 | []=>[]
 | .u i::r=>i::aw r
 | .w i::r=>i::aw r
 | .d i _::r=>i::aw r
 | .f i _::r=>i::aw r
 | .r::r=>aw r
 | .o::r=>aw r
 | .c::r=>aw r
theorem cg:aw []=[]:=rfl
theorem b7{i r}:aw (Ev.u i::r)=i::aw r:=rfl
theorem cp{i r}:aw (Ev.w i::r)=i::aw r:=rfl
theorem b5{i k r}:aw (Ev.d i k::r)=i::aw r:=rfl
theorem b6{i j r}:aw (Ev.f i j::r)=i::aw r:=rfl
theorem cn{r}:aw (Ev.r::r)=aw r:=rfl
theorem cb{r}:aw (Ev.o::r)=aw r:=rfl
theorem ck{r}:aw (Ev.c::r)=aw r:=rfl
noncomputable def cP:List Ev->Bool
 | []=>true
 | .o::_=>false
 | .c::_=>false
 |_::r=>cP r
theorem eC:cP []=true:=rfl
theorem ew{t}:cP (Ev.o::t)=false:=rfl
theorem eq{t}:cP (Ev.c::t)=false:=rfl
theorem dW{i r}:cP (.u i::r)=cP r:=rfl
theorem eD{i r}:cP (.w i::r)=cP r:=rfl
theorem ei{i k r}:cP (.d i k::r)=cP r:=rfl
theorem ey{r}:cP (.r::r)=cP r:=rfl
theorem ez{i j r}:cP (.f i j::r)=cP r:=rfl
@[simp]theorem cN(a b):aw (a++b)=aw a++aw b:=by
 induction a with
 |nil=>exact rfl
 |cons e r i=>cases e<;>first| exact i| exact Xy (_::·) i
@[simp]theorem cC(a b):cP (a++b)=(cP a&&cP b):=by
 induction a with
 |nil=>exact rfl
 |cons e r i=>cases e<;>first| exact i| exact rfl
def Nf (v)(i):cP (kH v i)=true:=by cases v<;>rfl
theorem SE:∀(K) (i),cP (nh K i)=true
 | .n x,i=>rfl
 | .r K,i=>by simp only[fJ,fB,fH,d8,e6,cC,SE K,eC,ew,eq,dW,eD,ei,ey,ez];rfl
 | .p x,i=>rfl
 | .a v K,i=>by simp only[d8,e6,cC,SE K,Nf];rfl
 | .c x,i=>rfl
def Wr (c:Option<|Option<|Nm×Vl)(i):cP (uu c i)=true:=by
 match c with
 |none=>rfl
 |some none=>rfl
 |some (some (x,v))=>simp only[uu,cC,Nf];rfl
def Wi (c:Option<|Option<|Nm×Kd)(i):cP (zy c i)=true:=by
 match c with
 |none=>rfl
 |some none=>rfl
 |some (some (x,v))=>simp only[nj,ni,jB,cC,SE,eC,ew,eq,dW,eD,ei,ey,ez];rfl
def VH (c:Option<|Option<|Nm×Kd)(i):cP (Bi c i)=true:=by
 match c with
 |none=>rfl
 |some none=>rfl
 |some (some (x,v))=>simp only[nq,nU,lx,cC,SE,eC,ew,eq,dW,eD,ei,ey,ez];rfl
def Mv (D)(i):cP (cM D i)=true:=by simp only[cM,cC,Wr,Wi,VH];rfl
def SB (s)(i):cP (rk s i)=true:=by cases s<;>rfl
def Sd (v a)(i):cP (qd v a i)=true:=by simp only[qd,cC,Nf,eC,ew,eq,dW,eD,ei,ey,ez];rfl
def Tf (s)(i):cP (g9 s i)=true:=by
 match s with
 |none=>rfl
 |some (true,_)=>rfl
 |some (false,_)=>rfl
section
variable{wd:Nat->Nm}
def sk {S:PS}(h1:e≠.o)(h:e≠.c):(S.step wd e).a.length=S.a.length:=by
 cases e with
 |u i=>rfl
 |w i=>simp only[PS.step];split<;>rfl
 |d i k=>
  simp only[PS.step];split
  ·rename_i s a e
   split
   ·rfl
   ·simp[e]
  ·rfl
 |r=>rfl
 |o=>exact Xv rfl h1
 |c=>exact Xv rfl h
 |f i j=>rfl
theorem Cy:∀{a:List Ev}{S:PS},cP a=true->(S.run wd a).a.length=S.a.length
 | [],S,_=>rfl
 |e::r,S,h=>by simp only[eG,Cy (by cases e<;> simp_all[eC,ew,eq,dW,eD,ei,ey,ez]:cP r=true),sk (by intro z;subst z;exact eH h nt:e≠.o) (by intro z;subst z;exact eH h nt:e≠.c)]
def wI {S:PS}:S.a≠[]↔1<=S.a.length:=by
 cases S.a with
 |nil=>simp
 |cons a b=>simp
def pW {S:PS}(a:List Nat):∀(F),(∀j∈a,j<F.length)->(a.foldl (S.Yq wd) F).map (·.1)=F.map (·.1):=by
 induction a with
 |nil=>intro F _;exact rfl
 |cons j a i=>
  intro F h;refine aa foldl_cons<|aa (i _ (λq c=>by simp only[PS.Yq,ZN];exact h q<|.tail _ c)) ?_;have b:=h j<|.head _;have e:F.getD j (0,0)=F[j]:=by simp[Yr,XQ b]
  simp only[PS.Yq,List.map_set,e];have:F[j].fst=(F.map (·.1))[j]'(by simpa using b):=by simp
  rw[this,List.set_getElem_self]
structure PW(S:PS):Prop where
 ne:S.a≠[]
 lt:∀j∈S.l,j<S.f.length
def jF (h:PW S)(h1:e≠.o)(b:e≠.c):PW (S.step wd e)/\(S.step wd e).f.map (·.1)=S.f.map (·.1)++aw [e]:=by
 refine⟨⟨(by rw[wI,sk h1 b,<- wI];exact h.ne:(S.step wd e).a≠[]),?_⟩,?_⟩
 ·cases e with
  |u i=>exactλj a=>by have:=h.lt j a;simp only[PS.step,PS.add,XB];exact u6 this
  |w i=>
   simp only[PS.step];split
   ·intro j a
    simp only[XB,aM,bA]at a⊢;rcases YH.1 a with z|z
    ·have:=h.lt j z;exact aI 0x2d03581602610067b tq this
    ·simp at z;exact aI 0x2d03581602610069b tq z
   ·exactλj a=>by have:=h.lt j a;simp only[PS.add,XB];exact u6 this
  |d i k=>
   simp only[PS.step];split
   ·split
    ·exactλj a=>by have:=h.lt j a;simp only[XB];exact u6 this
    ·exactλj a=>by have:=h.lt j a;simp only[XB];exact u6 this
   ·exact h.lt
  |r=>exactλj a=>by cases a
  |o=>exact Xv rfl h1
  |c=>exact Xv rfl b
  |f i k=>exactλj a=>by have:=h.lt j a;simp only[PS.step,PS.add,XB];exact u6 this
 ·cases e with
  |u i=>simp[PS.step,PS.add,cg,b7,cp,b5,b6,cn,cb,ck]
  |w i=>simp only[PS.step];split<;> simp[PS.add,cg,b7,cp,b5,b6,cn,cb,ck]
  |d i k=>
   obtain⟨s,ss,g⟩:∃s ss,S.a=s::ss:=by
    cases q:S.a with
    |nil=>exact Xv q h.ne
    |cons s ss=>exact⟨s,ss,rfl⟩
   simp only[PS.step,g];split<;> simp[cg,b7,cp,b5,b6,cn,cb,ck]
  |r=>simp only[PS.step,cg,b7,cp,b5,b6,cn,cb,ck,Yu];exact pW _ _ h.lt
  |o=>exact Xv rfl h1
  |c=>exact Xv rfl b
  |f i j=>simp[PS.step,PS.add,cg,b7,cp,b5,b6,cn,cb,ck]
theorem lG:∀{es:List Ev}{S:PS},PW S->cP es=true->PW (S.run wd es)/\(S.run wd es).f.map (·.1)=S.f.map (·.1)++aw es
 | [],S,h,_=>⟨h,by simp[cg,b7,cp,b5,b6,cn,cb,ck]⟩
 |e::r,S,h,d=>by
  have g:cP r=true:=by cases e<;> simp_all[eC,ew,eq,dW,eD,ei,ey,ez]
  refine XE (λa b=>?_)<|jF (wd:=wd) h (by intro z;subst z;exact eH d nt:e≠.o) (by intro z;subst z;exact eH d nt:e≠.c);refine XE (λc f=>?_)<|lG a g;refine⟨c,?_⟩;simp only[eG,f,b,XM];congr 1;rw[<- cN];rfl
def DE {S:PS}{P:Nat}(c:List Nat):∀(F),(∀j∈c,P<=j)->(c.foldl (S.Yq wd) F).take P=F.take P/\(c.foldl (S.Yq wd) F).length=F.length:=by
 induction c with
 |nil=>intro F _;exact⟨rfl,rfl⟩
 |cons j c i=>intro F h;refine XE (λa b=>aa foldl_cons<|⟨a.trans ?_,b.trans<|by simp[PS.Yq]⟩)<|i (S.Yq wd F j) λq d=>h q<|.tail _ d;simp only[PS.Yq];exact aa (List.take_set_of_le<|h j<|.head _) rfl
def DZ {S:PS}(e)(g:∀j∈S.l,P<=j)(h:P<=S.f.length):
  (S.step wd e).f.take P=S.f.take P/\(∀j∈(S.step wd e).l,P<=j)/\P<=(S.step wd e).f.length:=by
 have l:∀x:Nat×Int,(S.f++[x]).take P=S.f.take P:=λx=>aa (List.take_append_of_le_length h) rfl;cases e with
 |u i=>exact⟨l _,g,by simp only[PS.step,PS.add,XB];exact ny h⟩
 |w i=>
  simp only[PS.step];split
  ·refine⟨l _,?_,by simp only[XB];exact ny h⟩
   intro j m;rcases YH.1 m with z|z
   ·exact g j z
   ·simp at z;exact ba 0x1048410f3620065b tq h z
  ·exact⟨l _,g,by simp only[PS.add,XB];exact ny h⟩
 |d i k=>
  simp only[PS.step];split
  ·split
   ·exact⟨l _,g,by simp only[XB];exact ny h⟩
   ·exact⟨l _,g,by simp only[XB];exact ny h⟩
  ·exact⟨rfl,g,h⟩
 |r=>exact XE (λa b=>(⟨a,λj m=>by(cases m),by simp only[PS.step,b];exact h⟩))<|DE (wd:=wd) (S:=S) S.l S.f g
 |o=>exact⟨rfl,g,h⟩
 |c=>exact⟨rfl,g,h⟩
 |f i j=>exact⟨l _,g,by simp only[PS.step,PS.add,XB];exact ny h⟩
def EL (d):∀{S:PS},(∀j∈S.l,P<=j)->P<=S.f.length->
  (S.run wd d).f.take P=S.f.take P/\(∀j∈(S.run wd d).l,P<=j)/\P<=(S.run wd d).f.length:=by
 induction d with
 |nil=>intro S h f;exact⟨rfl,h,f⟩
 |cons e r i=>intro S h f;exact cps λC k=>bX (DZ (wd:=wd) e h f) λa b c=>bX (i b c) λx y z=>k<|⟨by rw[eG,x,a],y,z⟩
def FL:∀(G),i∈F.map (·.1)->cH i (F++G)=cH i F:=by
 induction F with
 |nil=>intro G h;cases h
 |cons p F b=>
  intro G h;obtain⟨a,v⟩:=p;simp only[bE,jA,jG];by_cases e:a=i
  ·simp[e]
  ·simp only[e,if_false]
   refine b G ?_;simp only[af,XD]at h;rcases h with h|h
   ·exact Xv h.symm e
   ·exact h
def Ik:i∉F.map (·.1)->cH i (F++[(i,v)])=v:=by
 induction F with
 |nil=>intro _;simp[jA,jG]
 |cons p F b=>intro h;obtain⟨a,u⟩:=p;simp only[af,XD,not_or]at h;have h:=h;simp only[bE,jA,jG];exact aa (Xq λe=>h.1 e.symm)<|b h.2
def CX (e:F.take P=G)(h:i∈G.map (·.1)):cH i F=cH i G:=by
 have:F=G++F.drop P:=by rw[<- e,List.take_append_drop]
 exact aa this<|aa (FL _ h) rfl
end
def pV (v)(i):(aw<|kH v i).Perm<|List.range' i<|nI<|dv v:=by cases v<;> exact .refl _
def fN (i m n):List.range' i m++List.range' (i+m) n=List.range' i (m+n):=aa List.range'_append_1 rfl
def BR (i n):List.range' i n++[i+n]=List.range' i (n+1):=by rw[<- fN];rfl
def l9 (i n):i::List.range' (i+1) n=List.range' i (n+1):=by rw[Y3 n 1,<- fN];rfl
theorem pK:∀(K) (i),(aw<|nh K i).Perm<|List.range' i<|nI<|iO K
 | .n x,i=>.refl _
 | .r K,i=>by have n1:nI xl=0:=rfl;have n:nI CE=1:=rfl;simp only[fJ,fB,fH,d8,e6,cN,qa,jD,qj,gy,mV,ah,n1,n,Yx];rw[<- BR];exact(pK K i).append_right _
 | .p x,i=>.refl _
 | .a v K,i=>by have n1:nI [wW c0,g1]=0:=rfl;have n:nI [g1,wW xh,g1]=0:=rfl;simp only[d8,cN,gy,ah,ah,ah,n1,n,Yx,YZ,<- fN];exact(pV v i).append<|pK K _
 | .c x,i=>.refl _
def pC (c:Option<|Option<|Nm×Vl)(i):(aw<|uu c i).Perm<|List.range' i<|nI<|sX c:=by
 match c with
 |none=>exact .refl _
 |some none=>exact .refl _
 |some (some (x,v))=>simp only[(by rw[m0,ah,ah,ah,(rfl:nI (bT Yt)=0),(rfl:nI [.n x,g1,sg 61,g1]=1),(rfl:nI [sg 59,g1]=0)];exact zB:nI (sX<|some<|some (x,v))=nI (dv v)+1),uu,cN,<- l9];exact List.perm_append_comm.trans<|List.Perm.cons _<|pV v _
def pT (c:Option<|Option<|Nm×Kd)(i):(aw<|zy c i).Perm<|List.range' i<|nI<|vW c:=by
 match c with
 |none=>exact .refl _
 |some none=>exact .refl _
 |some (some (x,K))=>
  have n1:nI (bT YK)=0:=rfl;have n:nI [.n x,sg 42,g1,sg 61,g1]=1:=rfl;have a:nI [sg 59,g1]=0:=rfl;have e:aw (zy (some<|some (x,K)) i)=i::aw (nh K<|i+1):=by simp[nj,ni,jB,cg,b7,cp,b5,b6,cn,cb,ck]
  have h:nI (vW<|some<|some (x,K))=nI (iO K)+1:=by rw[nC,ah,ah,ah,n1,n,a];exact zB
  simp only[h,e,<- l9];exact List.Perm.cons _<|pK K _
def pR (c:Option<|Option<|Nm×Kd)(i):(aw<|Bi c i).Perm<|List.range' i<|nI<|AM c:=by
 match c with
 |none=>exact .refl _
 |some none=>exact .refl _
 |some (some (x,K))=>
  have n1:nI (bT YV)=0:=rfl;have n:nI [.n x,sg 58,g1]=1:=rfl;have a:nI [sg 59,g1]=0:=rfl;have e:aw (Bi (some<|some (x,K)) i)=aw (nh K<|i+1)++[i]:=by simp[nq,nU,lx,cg,b7,cp,b5,b6,cn,cb,ck]
  have h:nI (AM<|some<|some (x,K))=nI (iO K)+1:=by rw[mU,ah,ah,ah,n1,n,a];exact zB
  simp only[h,e,<- l9];exact List.perm_append_comm.trans<|List.Perm.cons _<|pK K _
def pD (D)(i):(aw<|cM D i).Perm<|List.range' i<|nI<|aR D:=by simp only[cM,cN,cN,aR,ah,ah,<- fN,<- fN,<- X7];exact((pC _ _).append<|pT _ _).append<|pR _ _
def pS (s)(i):(aw<|rk s i).Perm<|List.range' i<|nI<|cr s:=by
 match s with
 |none=>exact .refl _
 |some (a,b,x)=>show [i+2,i,i+1].Perm [i,i+1,i+1+1];exact(List.Perm.swap _ _ _).trans<|List.Perm.cons _<|List.Perm.swap _ _ _
def pB (v a)(i):(aw<|qd v a i).Perm<|List.range' i<|nB v a:=by
 have e:aw (qd v a i)=aw (kH v i)++(i+nI (dv v))::aw (kH a<|i+nI (dv v)+1):=by simp[qd,cg,b7,cp,b5,b6,cn,cb,ck]
 have h:nB v a=nI (dv v)+(nI (dv a)+1):=by rw[nB];exact tJ
 simp only[h,e,<- fN,<- l9];exact(pV _ _).append<|List.Perm.cons _<|pV _ _
def QM (p):nI (uE p)=1+nI (cr p.p)+nI (aR p.d)+nB p.v1 p.v2+1:=by have n1:nI [g1,wW eg,g1,.n p.nm]=1:=rfl;have n:nI [sg 59]=0:=rfl;have a:nI [.n p.nm,sg 59]=1:=rfl;rw[uE,ah,ah,ah,ah,ah,n1,n,a,LX];exact ba 0x2d104016b18c605a2081a00b58c63194 tq
def pP (p)(i):(aw<|jw p i).Perm<|List.range' i<|nI<|uE p:=by
 have e:aw (jw p i)=i::((aw (rk p.p<|i+1)++aw (cM p.d<|i+1+nI (cr p.p)))++aw (qd p.v1 p.v2<|i+1+nI (cr p.p)+nI (aR p.d))++[i+1+nI (cr p.p)+nI (aR p.d)+nB p.v1 p.v2]):=by simp[jw,cg,b7,cp,b5,b6,cn,cb,ck]
 have h:nI (uE p)=(nI (cr p.p)+nI (aR p.d)+nB p.v1 p.v2+1)+1:=by rw[QM];exact ba 0x5a1688206318c0b441005ac63194 tq
 have a:i+1+nI (cr p.p)+nI (aR p.d)=i+1+(nI (cr p.p)+nI (aR p.d)):=ba 0x20b02d03182085a063194 tq;have b:i+1+nI (cr p.p)+nI (aR p.d)+nB p.v1 p.v2=i+1+(nI (cr p.p)+nI (aR p.d)+nB p.v1 p.v2):=ow 0x31058c0b40c60c410b40c63194 tq;rw[e,h,<- l9,<- BR,b,a,<- fN,<- fN];exact List.Perm.cons _<|(((pS _ _).append<|pD _ _).append<|pB _ _ _).append_right _
def pI (s)(i):(aw<|g9 s i).Perm<|List.range' i<|nI<|bj s:=by
 match s with
 |none=>exact .refl _
 |some (true,_)=>exact .refl _
 |some (false,_)=>exact .refl _
def pO (o)(i):(aw<|qV o i).Perm<|List.range' i<|nI<|fR o:=by
 match o with
 |none=>exact .refl _
 |some p=>exact pP p i
def LH (M):nI (aP M)=nI (bj M.i)+nI (aR M.d)+nI (fR M.p)+1+nI (dv M.v):=by have n1:nI oy=0:=rfl;have n:nI (Dr M.x)=1:=rfl;have a:nI HN=0:=rfl;rw[aP,ah,ah,ah,ah,ah,ah,n1,n,a];exact ow 0xc2d1040c6318068c2d104006b18c63194 tq
def pM (M):(aw<|ku M).Perm<|List.range' 0<|nI<|aP M:=by
 have e:aw (ku M)=aw (g9 M.i 0)++aw (cM M.d<|nI<|bj M.i)++aw (qV M.p<|nI (bj M.i)+nI (aR M.d))++(nI (bj M.i)+nI (aR M.d)+nI (fR M.p))::aw (kH M.v<|nI (bj M.i)+nI (aR M.d)+nI (fR M.p)+1):=by simp[ku,cg,b7,cp,b5,b6,cn,cb,ck]
 have h:nI (aP M)=nI (bj M.i)+nI (aR M.d)+nI (fR M.p)+(nI (dv M.v)+1):=by rw[LH];exact ow 0x168d820818c60c2d1040c63194 tq
 simp only[e,h,<- fN,<- fN,<- fN,<- l9,Yx,Yx,Yx];exact(((pI _ _).append<|pD _ _).append<|pO _ _).append<|List.Perm.cons _<|pV _ _
section
def Bm:∀{S:PS},(∀e∈a,∀i,e≠.w i)->S.l=[]->(S.run m a).l=[]:=by
 induction a with
 |nil=>intro S _ h;exact h
 |cons e r l=>
  intro S b h;rw[eG];refine l (λq g=>b q<|.tail _ g) ?_;cases e with
  |w i=>exact Xv rfl (b _ (.head _) i)
  |u i=>exact h
  |d i k=>
   simp only[PS.step];split
   ·split<;> exact h
   ·exact h
  |r=>rfl
  |o=>exact h
  |c=>exact h
  |f i j=>exact h
def LW {S:PS}(h:S.l=[]):(S.run w<|cM D i).l=[]:=by
 have b:(S.run w<|uu D.c i).l=[]:=by
  refine Bm ?_ h
  match D.c with
  |none=>intro e a;cases a
  |some none=>intro e a;cases a
  |some (some (x,v))=>intro e a j z;subst z;cases v<;> simp[uu,Nt,Nv,Ma,Nz]at a
 have c:((S.run w<|uu D.c i).run w<|zy D.t<|i+nI (sX D.c)).l=[]:=by
  match D.t with
  |none=>exact b
  |some none=>rfl
  |some (some (x,K))=>rw[jB,ax];rfl
 simp only[cM,ax,ax]
 match D.v with
 |none=>exact c
 |some none=>rfl
 |some (some (x,K))=>rw[lx,ax];rfl
def Vt:PW YB:=⟨by decide,λj h=>by cases h⟩
def lm (M:Md):PW ((YB.run wd<|g9 M.i 0).run wd<|cM M.d<|nI<|bj M.i)/\((YB.run wd<|g9 M.i 0).run wd<|cM M.d<|nI<|bj M.i).f.map (·.1)=aw (g9 M.i 0)++aw (cM M.d<|nI<|bj M.i)/\((YB.run wd<|g9 M.i 0).run wd<|cM M.d<|nI<|bj M.i).l=[]:=by
 refine XE (λa b=>XE (λc f=>⟨c,by refine aa f<|aa b ?_;rfl,LW<|Bm ?_ rfl⟩)<|lG (wd:=wd) a<|Mv M.d<|nI<|bj M.i) (lG (wd:=wd) Vt<|Tf M.i 0)
 match M.i with
 |none=>intro e h;cases h
 |some (true,_)=>intro e h;simp[qI,qx,pY]at h;subst h;intro i z;cases z
 |some (false,_)=>intro e h;simp[qI,qx,pY]at h;subst h;intro i z;cases z
def mr {l:List Nat}(h:l.Perm<|List.range' i n):∀x∈l,i<=x/\x<i+n:=λx a=>by have:=h.mem_iff.1 a;rw[abi]at this;exact this
def m6 {S:PS}{p:Pr}{i:Nat}(h:PW S)(w:∀x∈S.f.map (·.1),x<i)(y:S.l=[]):
  cH i (S.run wd<|rx p i).f=(S.b.length:Int)/\PW (S.run wd<|jw p i)/\(S.run wd<|jw p i).f.map (·.1)=S.f.map (·.1)++aw (jw p i):=by
 refine cps λC A=>?_;obtain⟨s,ss,l⟩:∃s ss,S.a=s::ss:=by
  cases q:S.a with
  |nil=>exact Xv q h.ne
  |cons s ss=>exact⟨s,ss,rfl⟩
 have m:(S.step wd<|.d i a9).f=S.f++[(i,(S.b.length:Int))]:=by simp only[PS.step,l];split<;>rfl
 have f:(S.step wd<|.d i a9).l=S.l:=by simp only[PS.step,l];split<;>rfl
 refine XE (λn o=>?_) (jF (wd:=wd) (e:=.d i a9) h (by simp)<|by simp);have r:PW<|(S.step wd<|.d i a9).step wd .o:=⟨by simp[PS.step],n.lt⟩;have d:cP (rk p.p (i+1)++cM p.d (i+1+nI (cr p.p))++qd p.v1 p.v2 (i+1+nI (cr p.p)+nI (aR p.d)))=true:=by simp only[cC,SB,Mv,Sd];rfl
 refine XE (λc a=>?_)<|lG (wd:=wd) r d;have b:=Cy (wd:=wd) (S:=(S.step wd<|.d i a9).step wd .o) d;have k:S.run wd (rx p i)=((S.step wd<|.d i a9).step wd .o).run wd (rk p.p (i+1)++cM p.d (i+1+nI (cr p.p))++qd p.v1 p.v2 (i+1+nI (cr p.p)+nI (aR p.d))):=rfl;rw[<- k]at c a b;refine XE (λf1 f2=>?_) (jF (wd:=wd) (e:=.f (i+1+nI (cr p.p)+nI (aR p.d)+nB p.v1 p.v2) i) c (by simp)<|by simp);have e:S.run wd (jw p i)=((S.run wd<|rx p i).step wd<|.f (i+1+nI (cr p.p)+nI (aR p.d)+nB p.v1 p.v2) i).step wd .c:=by have:jw p i=rx p i++[.f (i+1+nI (cr p.p)+nI (aR p.d)+nB p.v1 p.v2) i,.c]:=rfl;rw[this,ax];rfl
 have g:(S.run wd<|jw p i).a.length=S.a.length:=by
  refine aa e ?_;have h1:(S.run wd<|rx p i).a.length=S.a.length+1:=by refine aa b ?_;show(([]:Sc)::(S.step wd<|.d i a9).a).length=_;exact aa aM<|aa (sk (by simp)<|by simp) rfl
  show(S.run wd<|rx p i).a.tail.length=_;refine aa List.length_tail<|aa h1 ?_;rfl
 refine A<|⟨?_,⟨?_,?_⟩,?_⟩
 ·obtain⟨t,B,D⟩:=EL (wd:=wd) (P:=S.f.length+1) (rk p.p (i+1)++cM p.d (i+1+nI (cr p.p))++qd p.v1 p.v2 (i+1+nI (cr p.p)+nI (aR p.d))) (S:=(S.step wd<|.d i a9).step wd .o)
   (by intro j v;have:j∈(S.step wd<|.d i a9).l:=v;rw[f,y]at this;cases this)
   (by show _<=(S.step wd<|.d i a9).f.length;refine aa m ?_;simp)
  rw[<- k]at t;have u:((S.step wd<|.d i a9).step wd .o).f.take (S.f.length+1)=S.f++[(i,(S.b.length:Int))]:=by show(S.step wd<|.d i a9).f.take _=_;exact aa m<|aa (aab<|by simp) rfl
  rw[u]at t;refine aa (CX t<|by simp)<|Ik ?_;intro z;have:=w i z;exact wG this
 ·rw[wI,g,<- wI];exact h.ne
 ·refine aa e ?_;exact f1.lt
 ·refine aa e ?_
  show((S.run wd<|rx p i).step wd<|.f (i+1+nI (cr p.p)+nI (aR p.d)+nB p.v1 p.v2) i).f.map (·.1)=_;refine aa f2<|aa a ?_;show(S.step wd<|.d i a9).f.map (·.1)++_++_=_;refine aa o ?_;simp only[jw,cg,b7,cp,b5,b6,cn,cb,ck,cN,XM,bE,dE,Yu]
def Bt (M:Md):∀x∈((YB.run wd<|g9 M.i 0).run wd<|cM M.d<|nI<|bj M.i).f.map (·.1),x<nI (bj M.i)+nI (aR M.d):=by
 intro x h;rw[(lm (wd:=wd) M).2.1]at h;rcases YH.1 h with z|z
 ·have:=(mr<|pI _ _) x z;exact ba 0x82c04c206b0019800d04b1b tq this
 ·have:=(mr<|pD _ _) x z;exact ba 0x20b013105800cc0104b1b tq this
def K7 (M):PW (YB.run wd<|ku M)/\(YB.run wd<|ku M).f.map (·.1)=aw (ku M):=by
 refine cps λC k=>bX (lm (wd:=wd) M) λa b c=>?_;have l:=Bt (wd:=wd) M;have h:PW (((YB.run wd<|g9 M.i 0).run wd<|cM M.d<|nI<|bj M.i).run wd<|qV M.p<|nI (bj M.i)+nI (aR M.d))/\
   (((YB.run wd<|g9 M.i 0).run wd<|cM M.d<|nI<|bj M.i).run wd<|qV M.p<|nI (bj M.i)+nI (aR M.d)).f.map (·.1)=(aw (g9 M.i 0)++aw (cM M.d<|nI<|bj M.i))++aw (qV M.p<|nI (bj M.i)+nI (aR M.d)):=by
  match M.p with
  |none=>exact⟨a,by simp[qV,cg,b7,cp,b5,b6,cn,cb,ck,b]⟩
  |some p=>exact bX (m6 (wd:=wd) (p:=p) a l c) λx y z=>⟨y,by rw[qV,z,b]⟩
 refine XE (λx y=>?_) (lG (wd:=wd) (es:=.u (nI (bj M.i)+nI (aR M.d)+nI (fR M.p))::kH M.v (nI (bj M.i)+nI (aR M.d)+nI (fR M.p)+1)) h.1<|by simp only[eC,ew,eq,dW,eD,ei,ey,ez,Nf]);have e:YB.run wd (ku M)=(((YB.run wd<|g9 M.i 0).run wd<|cM M.d<|nI<|bj M.i).run wd<|qV M.p<|nI (bj M.i)+nI (aR M.d)).run wd (.u (nI (bj M.i)+nI (aR M.d)+nI (fR M.p))::kH M.v (nI (bj M.i)+nI (aR M.d)+nI (fR M.p)+1)):=by simp only[ku,ax,ax,ax]
 exact k<|aa e<|⟨x,by rw[y,h.2,ku,cN,cN,cN]⟩
def Xi (M:Md):∀p,M.p=some p->cH (nI (bj M.i)+nI (aR M.d)) (((YB.run wd<|g9 M.i 0).run wd<|cM M.d<|nI<|bj M.i).run wd<|rx p<|nI (bj M.i)+nI (aR M.d)).f=(((YB.run wd<|g9 M.i 0).run wd<|cM M.d<|nI<|bj M.i).b.length:Int)/\
   (((YB.run wd<|g9 M.i 0).run wd<|cM M.d<|nI<|bj M.i).run wd<|jw p<|nI (bj M.i)+nI (aR M.d)).a≠[]:=λp _=>by
 exact bX (lm (wd:=wd) M) λa b c=>bX (m6 (wd:=wd) (p:=p) a (Bt (wd:=wd) M) c) λx y z=>⟨x,y.ne⟩
end
noncomputable def zp:List Nm:=[[66,79,79,76,69,65,78],[67,72,65,82],[66,89,84,69],[73,78,84,69,71,69,82],[83,69,84],[84,82,85,69],[70,65,76,83,69]]
noncomputable def JJ:List Nm:=[[65,66,83],[79,68,68],[76,69,78],[76,83,76],[65,83,82],[82,79,82],[79,82,68],[67,72,82],[73,78,67],[68,69,67],[73,78,67,76],[69,88,67,76],[78,69,87],[65,83,83,69,82,84]]
def mT (L:List Nm)(s:Sc):Sc:=L.foldl (λs x=>putN x (-1) s) s
def Vz (c:Cl):V->Lo->Hp->Option (Fl×Hp):=λv l H=>XU c a4 (l.set 1<|some v) H [.t (.v 0) (.v 1)<|.i<|-1]
def BE (a:∀H,ok H=true)(L:List Nm):∀(s:Sc) (o:Option V),s.length+L.length<=900->
  ∃b,aK (Vz cl) ok (L.map V.s) [xR base.length,o] (base++[.dS<|cx s])=some (.n [xR base.length,b],base++[.dS<|cx<|mT L s]):=by
 induction L with
 |nil=>intro s o h;exact⟨o,bp<|a _⟩
 |cons x L i=>
  intro s o h;have c:setItem (base++[.dS<|cx s]) (.r base.length) (.s x) (.i<|-1)=some (base++[.dS<|cx<|putN x (-1) s]):=by simp only[setItem,be,oM,mH];rw[Xr<|by simp[cx];exact aI 0x1f43812e11c1685806065b tq h,pi,yQ]
  have:=oA x (-1) s;obtain⟨b,i⟩:=i (putN x (-1) s) (xS x)<|ba 0x708e08192e11c1685826065b0b44c0065b tq this h;exact⟨b,(aa af<|aa (aS (a _) (l':=[xR base.length,xS x]) (H':=base++[.dS<|cx<|putN x (-1) s])<|by simp[Vz,c]) i)⟩
def Fv (h:ai c l src H=some (.t vs,H1)):
  bx c e l H (.g i src b)=aK (λv d a=>XU c e (d.set i<|some v) a b) (ju none vs) vs l H1:=by
 exact rG.trans<|bI h
def Xo:ae (d+1) 15 [] H=some (.v<|.t<|[[65,66,83],[79,68,68],[76,69,78],[76,83,76],[65,83,82],[82,79,82],[79,82,68],[67,72,82]].map V.s,H):=by exact tm (f:=ky) rfl rfl λj=>j
def VI:ae (d+1) 16 [] H=some (.v<|.t<|[[73,78,67],[68,69,67],[73,78,67,76],[69,88,67,76],[78,69,87],[65,83,83,69,82,84]].map V.s,H):=by exact tm (f:=iZ) rfl rfl λj=>j
theorem ST:mT JJ (mT zp [])=iL:=rfl
def Wj {d:Nat}{H:Hp}:ae (d+2) 17 [] H=some (.v<|.r H.length,H++[.dS<|cx iL]):=by
 refine Xs (BE (cl:=ae<|d+1) (base:=H) (ok:=ju none<|zp.map V.s) (λ_=>rfl) zp [] none<|nl rfl) λo h1=>Xs (BE (cl:=ae<|d+1) (base:=H) (ok:=ju none<|JJ.map V.s) (λ_=>rfl) JJ (mT zp []) o<|nl rfl) λb h=>?_;have l:bx (ae<|d+1) a4 [xR H.length,none] (H++[.dS []]) jm=some (.n [xR H.length,o],H++[.dS<|cx<|mT zp []]):=by exact h1
 refine aa (aU (f:=iS) rfl rfl) ?_;have a:bx (ae<|d+1) a4 [xR H.length,o] (H++[.dS<|cx<|mT zp []]) eZ=some (.n [xR H.length,b],H++[.dS<|cx iL]):=by unfold eZ;refine aa (Fv (vs:=JJ.map V.s) (H1:=H++[.dS<|cx<|mT zp []])<|by exact hE λj=>j _ _ Xo _ _ VI _ rfl) ?_;exact h
 simp[iS,l,a]
def nE (h:Dm c f=true):Bz (H++.i c fs::X) H.length f v=some (H++.i c (o0 f v fs)::X):=by simp[Bz,h]
def Rf:ae (d+3) 1002 [.r H.length,.r I] (H++[.i 2 []])=some (.v .n,H++[y3 H.length I 0,.dS<|cx iL,.l [.r<|H.length+1],.l [],.l [],.l [],.l []]):=by refine aa (aU (f:=fF) rfl rfl) ?_;simp[fF,(λX=>Wj:∀X:Hp,ae (d+2) 17 [] (H++X)=some (.v<|.r (H++X).length,(H++X)++[.dS<|cx iL])),(λX f v=>nE (H:=H) (X:=X) (c:=2) (f:=5) (fs:=f) (v:=v) rfl),(λX f v=>nE (H:=H) (X:=X) (c:=2) (f:=6) (fs:=f) (v:=v) rfl),(λX f v=>nE (H:=H) (X:=X) (c:=2) (f:=7) (fs:=f) (v:=v) rfl),(λX f v=>nE (H:=H) (X:=X) (c:=2) (f:=8) (fs:=f) (v:=v) rfl),(λX f v=>nE (H:=H) (X:=X) (c:=2) (f:=9) (fs:=f) (v:=v) rfl),(λX f v=>nE (H:=H) (X:=X) (c:=2) (f:=10) (fs:=f) (v:=v) rfl),(λX f v=>nE (H:=H) (X:=X) (c:=2) (f:=11) (fs:=f) (v:=v) rfl),vR,rS,y3]
def Al (n:Nat)(H:Hp):List V->List Tok->Prop:=A2 λv t=>∃r,v=.r r/\r<n/\H[r]?=some (vN t.k t.t t.p)
def Al.len {n:Nat}{H:Hp}{v:List V}{t:List Tok}:Al n H v t->v.length=t.length:=A2.len
def Al.get {n:Nat}{H:Hp}{b:List V}:∀{a:List Tok},Al n H b a->∀(j:Nat) (t:Tok),a[j]?=some t->∃r:Nat,r<n/\b[j]?=xR r/\H[r]?=some (vN t.k t.t t.p):=by
 induction b with
 |nil=>intro a h j t e;cases a with |nil=>exact cE e nt|cons=>exact h.elim
 |cons v b i=>
  intro a h j t e;cases a with |nil=>exact h.elim|cons u a=>cases j with
   |zero=>refine aj h.1 λr c h1 d=>?_;subst c;cases e;exact⟨r,h1,rfl,d⟩
   |succ j=>exact i h.2 j t e
def Al.mono {n b:Nat}{H a:Hp}(f:n<=b)(d:∀i,i<n->a[i]?=H[i]?){v:List V}{ts:List Tok}:Al n H v ts->Al b a v ts:=
 A2.mono λh=>aj h λr e h1 c=>⟨r,e,ba 0x104c220cb620067b tq h1 f,(d r h1).trans c⟩
def Al.b {n:Nat}{H:Hp}{a:List V}{t:List Tok}:Al n H a t->∀v∈a,∃r k,v=.r r/\bb H r 0=xS k:=
 A2.mem λh=>aj h λr e _ b=>⟨r,_,e,eh b 0⟩
def Al.solid {n:Nat}{H:Hp}{b:List V}{a:List Tok}(h:Al n H b a):Al n H (b.filter λv=>cq<|kX H v) (a.filter λt=>cq t.k):=
 A2.ind (M:=λb a=>Al n H (b.filter λv=>cq<|kX H v)<|a.filter λt=>cq t.k) trivial (λ{_ t _ _} h i=>aj h λr e h1 c=>by
  subst e;simp only[filter_cons,(show kX H (.r r)=t.k from Xy (λo:Option V=>match o with |some (.s k)=>k|_=>[]) (eh c 0:_=xS t.k))];cases cq t.k with
  |true=>exact⟨⟨r,rfl,h1,c⟩,i⟩
  |false=>exact i) h
def D5 {x:Nat->Nm}{pl:Nat->Int}(I:∀i,x i∈cK){M:Md}{d A:Nat}{H:Hp}{U:List V}{T:List Tok}(hA:H[A]?=some (.l U))(z:Al H.length H U T)(hT:T.length<=100000)
  (hM:yY x pl (ze M)<|T.filter λt=>cq t.k) (hd:18+3*Dd M.d+3*L7 M.p<=d) (hm:LN M<880) {Cx:Prop} (kC:∀n k W,ae d 45 [.r A] H=some (.v<|.r n,k)->(Rp n (H.length) (T.filter λt=>cq t.k) k W)->jv x pl W (YB.run x<|ku M)->H.length<n->(∀i,i<H.length->k[i]?=H[i]?)->Cx):Cx:=by
 obtain⟨d,rfl⟩:∃d',d=d'+1:=⟨d-1,(YI<|by exact ba 0x105b21046d7806d7c9ac6065b tq hd).symm⟩;have hl:=z.len;have S:=WL (d:=d-1) hA (LE hl hT) z.b;rw[(YI (ba 0x82d905a26046d7806d7c9ac6065b tq hd):d-1+1=d)]at S;have c:=z.solid;have f:=c.len;generalize hvs:U.filter (λv=>cq<|kX H v)=ws at S c f;generalize C:T.filter (λt=>cq t.k)=ts at c f hM kC;have p:=Rf (d:=d-3) (I:=H.length) (H:=H++[.l ws]);rw[(YI (ba 0x86d905a26046d7806d7c9ac6065b tq hd):d-3+3=d)]at p;have e:Al (H.length+1) ((H++[AO.l ws])++[y3 (H++[AO.l ws]).length H.length 0,.dS<|cx iL,.l [.r<|(H++[AO.l ws]).length+1],.l [],.l [],.l [],.l []]) ws ts:=
  c.mono (Xx _ _) (λi m=>by rw[XM,Yg m])
 have q:(H++[AO.l ws]).length=H.length+1:=XB;rw[q]at p e;have g:∀j,(H++[AO.l ws]++[y3 (H.length+1) H.length 0,.dS<|cx iL,.l [.r<|H.length+1+1],.l [],.l [],.l [],.l []])[H.length+1+j]?=[y3 (H.length+1) H.length 0,.dS<|cx iL,.l [.r<|H.length+1+1],.l [],.l [],.l [],.l []][j]?:=λj=>by refine aa (YY<|by rw[q];exact aI 0x42d0318168192 tq)<|aa q ?_;congr 1;exact add_sub_cancel_left ..
 have adm:(H++[AO.l ws]++[y3 (H.length+1) H.length 0,.dS<|cx iL,.l [.r<|H.length+1+1],.l [],.l [],.l [],.l []])[H.length]?=some (.l ws):=by rw[Yg<|by refine aa q ?_;exact bB 0x2d03013 tq];simp
 have Y:H.length+1+7<=(H++[AO.l ws]++[y3 (H.length+1) H.length 0,.dS<|cx iL,.l [.r<|H.length+1+1],.l [],.l [],.l [],.l []]).length:=by simp
 have gl:∀i,i<H.length->(H++[AO.l ws]++[y3 (H.length+1) H.length 0,.dS<|cx iL,.l [.r<|H.length+1+1],.l [],.l [],.l [],.l []])[i]?=H[i]?:=λi m=>by rw[XM,Yg m]
 generalize(H++[AO.l ws]++[y3 (H.length+1) H.length 0,.dS<|cx iL,.l [.r<|H.length+1+1],.l [],.l [],.l [],.l []])=H2 at p e g adm gl Y;have X:bD (H.length+1) H.length ts H2 ⟨ts,[],[iL],[],[],[],[],0⟩ [H.length+1+1] []:={
  y:=XH _
  P:=⟨ws,adm,f,e.get⟩
  Q:=(C▸Xz (List.length_filter_le _ _) hT:ts.length<=100000)
  L:=⟨[],rfl,g 0,λp' t h=>by cases p'<;> exact Uz h nt⟩
  d:=g 2
  g:=g 3
  hf:=g 4
  hd:=g 5
  hw:=g 6
  J:=rfl
  u:=λj r s a b=>by
   cases j with
   |zero=>simp at a b;subst a;subst b;exact g 1
   |succ j=>simp at a
  sn:=by simp
  O:=λr h=>by simp at h;exact .inl h
  D:=rfl
  fd:=λj r o a b=>by simp at a
  fn:=by trivial
  w:=λr h=>by cases h
  N:=λr h=>by cases h
  F:=X5 _
  G:=X5 _
  E:=X5 _
  B:=X5 _
  A:=nl rfl
  M:=λs h=>by simp at h;subst h;show iL.length<=30;decide
  R:=nl rfl
  l:=Y}
 refine iz (Hc I (d:=d) (M:=M) ⟨_,_,X⟩ rfl hM (ba 0x208daf00daf8358c905a26046d7806d7c9ac6065b tq hd) hm (Xi M)) λk W m1 m2 m3 m4=>kC (H.length+1) k W (aa (aU (f:=ub) rfl rfl) ?_) m2 m3 (bB 0x2d03013 tq) λi m=>(m4.lo i<|lt_succ_of_lt ‹_›).trans<|gl i m;simp at p;simp[ub,S,p,(X.Yd:Yd H2 (H.length+1)=true),m1]
def Dx:PT->Bool
 | .m _=>true
 | .f k t=>if k=eI then decide (t≠[])&&t.all (λc=>decide (c<=32))
  else if k=nQ then decide (t=uv)
  else if k=pj then decide (t=[49])
  else if k=ak then decide (t=[58,61])||(match t with | [c]=>O5.contains c|_=>false)
  else match t with
   |c::r=>dy c&&(c::r).all xT&&(if Ek.contains (c::r)then decide (k=ac)else decide (k=Xw))
   | []=>false
def PE:Option PT->Bool
 |none=>true
 |some (.m _)=>false
 |some (.f _ t)=>!h1 xT t
theorem Gv:PE none=true:=rfl
theorem GA{i}:PE (some<|PT.m i)=false:=rfl
theorem HP{k t}:PE (some<|PT.f k t)=!h1 xT t:=rfl
def Sk:Option PT->Bool
 |none=>false
 |some (.m _)=>false
 |some (.f _ t)=>h1 (λc=>decide (c=32\/c=58)) t
theorem L9:Sk none=false:=rfl
theorem Mi{i}:Sk (some<|PT.m i)=false:=rfl
theorem MY{k t}:Sk (some<|PT.f k t)=h1 (λc=>decide (c=32\/c=58)) t:=rfl
def Wv (t:List Nat):Option PT->Bool
 |none=>true
 |some (.m _)=>true
 |some (.f _ u)=>!zw.contains (t++u.take 1)&&decide (t++u.take 1≠[40,42])
def O0:PT->Option PT->Bool
 | .m _,nx=>PE nx
 | .f k t,nx=>if k=eI\/k=nQ then true else if k=pj then Sk nx else if k=ak then(decide (t=[58,61])||Wv t nx)else PE nx
noncomputable def rn:List PT->Option PT->Bool
 | [],_=>true
 |x::r,nx=>Dx x&&O0 x (r.head?<|>nx)&&rn r nx
theorem iK{z}:rn [] z=true:=rfl
theorem iG{z a r}:rn (a::r) z=(Dx a&&O0 a (r.head?<|>z)&&rn r z):=rfl
def JH (A:List PT):∀(B:List PT) (nx:Option PT),rn (A++B) nx=(rn A (B.head?<|>nx)&&rn B nx):=by
 induction A with
 |nil=>intro B nx;simp[iK]
 |cons x A i=>intro B nx;simp only[bE,iG,i];simp only[(by clear i;cases A<;>rfl:((A++B).head?<|>nx)=(A.head?<|>(B.head?<|>nx))),Bool.and_assoc]
section
variable(wd:Nat->Nm)
def pk:PT->List Nat×List Nat
 | .f k t=>(k,t)
 | .m i=>(Xw,wd i)
noncomputable def uo:List PT->List Nat
 | []=>[]
 |x::r=>nA wd x++uo r
theorem eo{wd}:uo wd []=[]:=rfl
theorem ec{wd z r}:uo wd (z::r)=nA wd z++uo wd r:=rfl
end
def II:PT->Bool
 | .f k _=>decide (k=eI)
 | .m _=>false
noncomputable def yX:List PT->List PT
 | []=>[]
 | .m i::r=>.m i::yX r
 | .f k t::r=>if k=eI then(match yX r with
   | .f b c::a=>if b=eI then .f eI (t++c)::a else .f k t::.f b c::a
   |a=>.f k t::a)else .f k t::yX r
theorem lM:yX []=[]:=rfl
theorem j3{i r}:yX (PT.m i::r)=PT.m i::yX r:=rfl
theorem kO{k t r}:yX (PT.f k t::r)=
 if k=eI then
  match yX r with
  |PT.f b c::a=>if b=eI then PT.f eI (t++c)::a else PT.f k t::PT.f b c::a
  |a=>PT.f k t::a
 else PT.f k t::yX r:=rfl
section
variable{wd:Nat->Nm}
@[simp]theorem WY(x:PT):(pk wd x).2=nA wd x:=by cases x<;>rfl
theorem ml:∀L:List PT,AF ((yX L).map<|pk wd)=uo wd L
 | []=>rfl
 | .m i::r=>by simp[j3,ec,ml r]
 | .f k t::r=>by
  have a:=ml r;simp only[lM,j3,kO,eo,ec,<- a];split
  ·split
   ·rename_i h
    split
    ·rename_i b;rw[h];simp[pk,nA]
    ·rw[h];simp[pk,nA]
   ·simp[pk,nA]
  ·simp[pk,nA]
def Io (x:PT)(r:List PT):∃y a,yX (x::r)=y::a/\II y=II x:=by
 cases x with
 |m i=>exact⟨_,_,rfl,rfl⟩
 |f k t=>
  simp only[lM,j3,kO];split
  ·rename_i h
   split
   ·split
    ·exact⟨_,_,rfl,by simp[II,h]⟩
    ·exact⟨_,_,rfl,rfl⟩
   ·exact⟨_,_,rfl,rfl⟩
  ·exact⟨_,_,rfl,rfl⟩
def JS {t p k:List Nat}(h:i9 t p k):k=eI->∃c d,t=c::d/\(∀x∈c::d,x<=32)/\h1 (λc=>decide (c<=32)) p=false:=by
 cases h with
 |gap a b=>exactλ_=>⟨_,_,rfl,a,b⟩
 |rem=>intro e;exact Xv e (by decide)
 |word a b c=>intro e;exfalso;revert e;split<;>decide
 |num _=>intro e;exact Xv e (by decide)
 |abu=>intro e;exact Xv e (by decide)
 |aaw _ _ _=>intro e;exact Xv e (by decide)
def u5:∀x∈cK,∃c t,x=c::t/\dy c=true/\(∀y∈c::t,xT y=true)/\Ek.contains (c::t)=false:=by intro x h;simp only[cK,XD,XZ,or_false]at h;rcases h with rfl|rfl|rfl|rfl|rfl|rfl|rfl<;> exact⟨_,_,rfl,by decide,by decide,by decide⟩
def zj {c:Nat}(h:xT c=true):¬c<=32/\c≠61/\c≠46/\c≠42:=
 (by decide+kernel:∀c,c<128->xT c=true->¬c<=32/\c≠61/\c≠46/\c≠42) c (Aa h) h
def v8 {c:Nat}(h:dy c=true):xT c=true:=by simp[xT,h]
def QR:∀c∈O5,¬c<=32:=by decide
def xE (b:∀i,wd i∈cK){x:PT}(h:Dx x=true)(a:II x=false):h1 (λc=>decide (c<=32)) (nA wd x)=false/\nA wd x≠[]:=by
 cases x with
 |m i=>refine cps λC g=>iz (u5 _<|b i) λc t e h1 j l=>g ?_;simp only[nA,e,Mine.h1];refine⟨?_,by simp⟩;have:=(zj<|v8 h1).1;simpa using this
 |f k t=>
  have d:k≠eI:=by simpa [II]using a
  simp only[Dx,Xq d]at h;simp only[nA];split at h
  ·have:t=uv:=by simpa using h
   clear h a;subst this;exact⟨by decide,by decide⟩
  ·split at h
   ·have:t=[49]:=by simpa using h
    clear h a;subst this;exact⟨by decide,by decide⟩
   ·split at h
    ·rw[YS]at h
     rcases h with h|h
     ·have:t=[58,61]:=by simpa using h
      clear h a;subst this;exact⟨by decide,by decide⟩
     ·split at h
      ·rename_i c
       have:=QR c<|aac.mp h;exact⟨by simpa [Mine.h1]using this,by simp⟩
      ·exact eH h nt
    ·split at h
     ·rename_i c r
      simp only[Xu]at h;have:=(zj<|v8 h.1.1).1;exact⟨by simpa [Mine.h1]using this,by simp⟩
     ·exact eH h nt
def vK (a:∀i,wd i∈cK){x:PT}(h:Dx x=true):nA wd x≠[]:=by
 refine cps λC b=>?_;cases hg:II x with
 |false=>refine b ?_;exact(xE a h hg).2
 |true=>
  cases x with
  |m i=>exact eH hg nt
  |f k t=>
   have c:k=eI:=by simpa [II]using hg
   simp only[Dx,Xr c,Xu,Ym]at h;exact b h.1
def Am {q:Nat->Bool}{a b:List Nat}(h:a≠[]):h1 q (a++b)=h1 q a:=by
 cases a with
 |nil=>exact Xv rfl h
 |cons c r=>rfl
def mq {a b:List Nat}(h:a≠[]):(a++b).take 1=a.take 1:=by
 cases a with
 |nil=>exact Xv rfl h
 |cons c r=>rfl
def UQ (a:∀i,wd i∈cK){L:List PT}:rn L none=true->kK ((yX L).map<|pk wd):=by
 induction L with
 |nil=>intro _;exact .nil
 |cons pr r b=>cases pr with
  |m i=>
   intro h;simp only[iK,iG,Xu]at h;have b:=b h.2;obtain⟨c,t,e,J,S,T⟩:=u5 _<|a i;refine .cons ?_ b;rw[ml];refine aa e ?_;have:Xw=if Ek.contains (c::t)then ac else Xw:=by rw[T];rfl
   rw[this];refine .word J S ?_;cases r with
   |nil=>rfl
   |cons y r=>
    have v:Dx y=true:=by have:=h.2;simp only[iK,iG,Xu]at this;exact this.1.1
    simp only[eo,ec];refine aa (Am<|vK a v) ?_;have Q:=h.1.2;clear h;cases y with
    |m j=>exact eH Q nt
    |f k s=>simpa [O0,Gv,GA,HP,nA]using Q
  |f k t=>
   intro h;simp only[iK,iG,Xu]at h;have b:=b h.2;obtain⟨⟨o,l⟩,G⟩:=h;by_cases A:k=eI
   ·subst A
    simp only[Dx,if_true,Xu,Ym,Yh]at o;obtain⟨c,t,rfl⟩:∃c t',t=c::t':=by
     cases t with
     |nil=>exact Xv rfl o.1
     |cons c t'=>exact⟨c,t',rfl⟩
    simp only[lM,j3,kO,if_true];cases r with
    |nil=>exact .cons (.gap (o.2) rfl) .nil
    |cons y r=>
     have v:Dx y=true:=by have:=G;simp only[iK,iG,Xu]at this;exact this.1.1
     have P:=ml (wd:=wd)<|y::r;obtain⟨z,O,e,d⟩:=Io y r;rw[e]at b P⊢;cases hgy:II y with
     |true=>
      rw[hgy]at d;have d:=d;cases z with
      |m j=>exact eH d nt
      |f g t'=>
       have E:g=eI:=by simpa [II]using d
       subst E;simp only[if_true,af,pk]at b⊢;have b:=b;refine cps λC M=>?_;cases b with
       |cons h1 u=>
        clear hgy a;obtain⟨n,t2,rfl,U,W⟩:=JS h1 rfl;refine M<|.cons (.gap ?_ W) u;intro x Y;have I:x∈(c::t)++(n::t2):=Y;rcases YH.1 I with q|q
        ·exact o.2 x q
        ·exact U x q
     |false=>
      rw[hgy]at d;have R:h1 (λc=>decide (c<=32)) (AF<|(z::O).map<|pk wd)=false:=by rw[P];obtain⟨u1,u2⟩:=xE a v hgy;simp only[eo,ec];rw[Am u2];exact u1
      cases z with
      |m j=>exact .cons (.gap o.2 R) b
      |f g t'=>
       have E:g≠eI:=by simpa [II]using d
       simp only[Xq E];exact .cons (.gap o.2 R) b
   ·simp only[lM,j3,kO,Xq A]
    refine .cons ?_ b;rw[ml];show i9 t _ k;simp only[Dx,Xq A]at o;by_cases u:k=nQ
    ·subst u
     have:t=uv:=by simpa using o
     clear o;subst this;exact .rem
    simp only[Xq u]at o;by_cases B:k=pj
    ·subst B
     have:t=[49]:=by simpa using o
     clear o;subst this;have p:¬(pj=eI\/pj=nQ):=by decide
     simp[O0,Xq p,if_true]at l;refine cps λC M=>?_;cases r with
     |nil=>exact eH l nt
     |cons y r=>
      cases y with
      |m j=>exact eH l nt
      |f g t'=>
       cases t' with
       |nil=>exact eH l nt
       |cons c O=>refine M ?_;exact .num (by simpa [L9,Mi,MY,h1]using l)
    simp only[Xq B]at o;by_cases D:k=ak
    ·subst D
     simp only[if_true,YS]at o;by_cases H:t=[58,61]
     ·subst H;exact .abu
     rcases o with o|o
     ·exact Xv (by simpa using o) H
     ·split at o
      ·rename_i c
       have p:¬(ak=eI\/ak=nQ):=by decide
       have X:¬(ak=pj):=by decide
       simp only[O0,Xq p,Xq X,if_true,Ye H,Bool.false_or]at l;cases r with
       |nil=>exact .aaw o (by simp[eo,ec,zw]) (by simp[eo,ec])
       |cons y r=>
        have w:=vK a (by have:=G;simp only[iK,iG,Xu]at this;exact this.1.1);simp only[eo,ec];cases y with
        |m j=>
         obtain⟨n,t',e,J,S,T⟩:=u5 _<|a j;have:=zj<|v8 J;refine .aaw o ?_ ?_
         ·refine aa (mq w) ?_
          simp only[nA,e,take_succ_cons,take_zero];simp[zw,this]
         ·refine aa (mq w) ?_
          simp only[nA,e,take_succ_cons,take_zero];simp[this]
        |f g t'=>
         cases t' with
         |nil=>exact Xv rfl w
         |cons n O=>
          have N:(!zw.contains [c,n]&&decide ([c,n]≠[40,42]))=true:=l;simp only[Xu,YE,Ym]at N;refine .aaw o ?_ ?_
          ·refine aa (mq w) ?_;simpa [nA]using N.1
          ·refine aa (mq w) ?_;simpa [nA]using N.2
      ·exact eH o nt
    simp only[Xq D]at o;split at o
    ·rename_i c t'
     simp only[Xu,Yh]at o;have o:=o;have F:k=if Ek.contains (c::t')then ac else Xw:=by
      have:=o.2;split at this
      ·rename_i q;refine aa (Xr q) ?_;simpa using this
      ·rename_i q;rw[Xq q];simpa using this
     rw[F];refine .word o.1.1 o.1.2 ?_;have p:¬(k=eI\/k=nQ):=by intro z;rcases z with z|z;exact A z;exact u z
     simp only[O0,Xq p,Xq B,Xq D]at l;cases r with
     |nil=>rfl
     |cons y r=>
      have v:Dx y=true:=by have:=G;simp only[iK,iG,Xu]at this;exact this.1.1
      simp only[eo,ec];refine aa (Am<|vK a v) ?_;cases y with
      |m j=>exact eH l nt
      |f g s=>simpa [Gv,GA,HP,nA]using l
    ·exact eH o nt
end
abbrev pG:PT:=.f eI [32]
def nO {A B:List PT}{nx:Option PT}(h1:rn A (B.head?<|>nx)=true)(h:rn B nx=true):rn (A++B) nx=true:=by rw[JH,h1,h];rfl
def Wh (v)(i):rn (hG (dv v) i) (some bQ)=true:=by cases v<;>rfl
def R0 (v)(i):rn (hG (dv v) i) (some pG)=true:=by cases v<;>rfl
theorem gK:∀(K:Kd) (i:Nat),rn (hG (iO K) i) (some bQ)=true
 | .n x,i=>rfl
 | .p x,i=>rfl
 | .c x,i=>rfl
 | .r K,i=>by simp only[jD,bh];exact nO (nO rfl (gK K _)) rfl
 | .a v K,i=>by simp only[gy,bh];exact nO (nO (nO rfl (R0 v _)) rfl)<|gK K _
def gC (c:Option<|Option<|Nm×Vl)(i:Nat)(nx:Option PT):rn (hG (sX c) i) nx=true:=by
 match c with
 |none=>rfl
 |some none=>rfl
 |some (some (x,v))=>simp only[m0,bh];exact nO rfl (nO (nO rfl (Wh v _)) rfl)
def gT (c:Option<|Option<|Nm×Kd)(i:Nat)(nx:Option PT):rn (hG (vW c) i) nx=true:=by
 match c with
 |none=>rfl
 |some none=>rfl
 |some (some (x,K))=>simp only[nC,bh];exact nO rfl (nO (nO rfl (gK K _)) rfl)
def gR (c:Option<|Option<|Nm×Kd)(i:Nat)(nx:Option PT):rn (hG (AM c) i) nx=true:=by
 match c with
 |none=>rfl
 |some none=>rfl
 |some (some (x,K))=>simp only[mU,bh];exact nO rfl (nO (nO rfl (gK K _)) rfl)
def gD (D:Dc)(i:Nat)(nx:Option PT):rn (hG (aR D) i) nx=true:=by simp only[aR,bh];exact nO (nO (gC _ _ _)<|gT _ _ _)<|gR _ _ _
def Uu (D)(i)(X)(h:X.head?=some pG):(hG (aR D) i++X).head?=some pG:=by
 obtain⟨c,t,v⟩:=D
 match c with
 |some none=>rfl
 |some (some (x,K))=>rfl
 |none=>
  match t with
  |some none=>rfl
  |some (some (x,K))=>rfl
  |none=>
   match v with
   |some none=>rfl
   |some (some (x,K))=>rfl
   |none=>exact h
def gB (v:Vl)(x:Nm)(a:Vl)(i:Nat)(nx:Option PT):rn (hG (JN v x a) i) nx=true:=by simp only[JN,bh,bh,bh,bh];exact nO (nO (nO (nO rfl (R0 _ _)) rfl)<|R0 _ _) rfl
def gP (p:Pr)(i:Nat):rn (hG (uE p) i) (some pG)=true:=by
 have e:uE p=[g1,wW eg,g1,.n p.nm]++(cr p.p++([sg 59]++(aR p.d++(JN p.v1 p.x p.v2++[.n p.nm,sg 59])))):=by simp[uE]
 simp only[e,bh,bh,bh,bh,bh];refine nO ?_<|nO ?_<|nO ?_<|nO (gD _ _ _)<|nO (gB _ _ _ _ _) rfl
 ·match p.p with
  |none=>rfl
  |some (a,b,x)=>rfl
 ·match p.p with
  |none=>rfl
  |some (a,b,x)=>rfl
 ·refine aa (Uu _ _ _<|rfl) ?_
  rfl
def gO (o)(i):rn (hG (fR o) i) (some pG)=true:=by
 match o with
 |none=>rfl
 |some p=>exact gP p i
def gI (s)(i)(nx):rn (hG (bj s) i) nx=true:=by
 match s with
 |none=>rfl
 |some (true,_)=>rfl
 |some (false,_)=>rfl
def gM (M:Md):rn (hG (aP M) 0) none=true:=by simp only[(by simp[aP]:aP M=oy++(bj M.i++(aR M.d++(fR M.p++(Dr M.x++(dv M.v++HN)))))),bh,bh,bh,bh,bh,bh];exact nO rfl (nO (gI _ _ _)<|nO (gD _ _ _)<|nO (gO _ _)<|nO rfl (nO (R0 _ _) rfl))
noncomputable def gS:List (List Nat×List Nat)->Int->List Tok
 | [],_=>[]
 |(k,t)::x,p=>⟨k,t,p⟩::gS x (p+t.length)
theorem jt{z}:gS [] z=[]:=rfl
theorem fu{z k t x}:gS ((k,t)::x) z={k:=k,t:=t,p:=z}::gS x (z+↑t.length):=rfl
theorem sW(a):∀m,cO a (m+1)=.r a::cO (a+1) m
 |0=>rfl
 |m+1=>by simp only[sa (m:=m+1),sW a m,sa (m:=m)];simp only[bE];congr 4;exact Gd
def NX (x):∀(a:Hp) (p:Int),a.length+x.length<=n->Al n (a++kh x p) (cO a.length x.length) (gS x p):=by
 induction x with
 |nil=>intro a p _;exact trivial
 |cons b x i=>intro a p h;obtain⟨k,t⟩:=b;simp only[aM,sW,fu,su];refine⟨⟨a.length,rfl,zr h,by simp⟩,?_⟩;have:=i (a++[vN k t p]) (p+t.length) (by simp only[XB,aM,bA];exact ba 0x2085a06b00c64841685806065b tq h);refine(?_:Al _ _ _ _);simpa using this
theorem vg:∀(x:List<|List Nat×List Nat) (p:Int),(kh x p).length=x.length
 | [],p=>rfl
 |(k,t)::x,p=>by simp[tQ,su,vg x]
section
variable{wd:Nat->Nm}{pl:Nat->Int}
noncomputable def pq(wd:Nat->Nm)(pl:Nat->Int):List PT->Int->Prop
 | [],_=>True
 | .f _ t::r,p=>pq wd pl r<|p+t.length
 | .m i::r,p=>pl i=p/\pq wd pl r (p+(wd i).length)
theorem JF{wd pl z}:pq wd pl [] z=True:=rfl
theorem JE{wd pl z k t r}:pq wd pl (PT.f k t::r) z=pq wd pl r (z+↑t.length):=rfl
theorem IM{wd pl z i r}:pq wd pl (PT.m i::r) z=(pl i=z/\pq wd pl r (z+↑(List.length<|wd i))):=rfl
def Qs (T:List Tok):List Tok:=T.filter λt=>cq t.k
def M7 {L:List PT}:∀{p:Int},pq wd pl L p->yY wd pl (mE L) (Qs<|gS ((yX L).map<|pk wd) p):=by
 induction L with
 |nil=>intro p _;exact trivial
 |cons pr r a=>cases pr with
  |m i=>intro p h;show yY wd pl (.m i::mE r)<|Qs<|⟨Xw,wd i,p⟩::gS ((yX r).map<|pk wd) (p+(wd i).length);have e:cq Xw=true:=rfl;simp only[Qs,filter_cons];exact⟨by refine dG h.1 ?_;rfl,(a h.2)⟩
  |f k t=>
   intro p h;have a:=a (p:=p+t.length) h;by_cases b:k=eI
   ·clear h;subst b
    have e:cq eI=false:=rfl;simp only[o5,pz,o6,e,Ze,if_false,lM,j3,kO,if_true];split
    ·rename_i g l j c
     rw[c]at a;split
     ·rename_i d
      clear c;subst d;simp only[af,pk,jt,fu,Qs,filter_cons,e,Ze,if_false]at a⊢;simp only[XB,Int.natCast_add,<- Zg];exact a
     ·exact a
    ·exact a
   ·simp only[o5,pz,o6,lM,j3,kO,Xq b,af,pk,jt,fu,Qs,filter_cons]at a⊢
    cases cq k with
    |true=>exact⟨⟨rfl,rfl⟩,a⟩
    |false=>exact a
noncomputable def Ef(wd:Nat->Nm):List IL->Nat->Nat->List Nat
 | [],_,_=>[]
 | .f _ t::r,i,p=>Ef wd r i<|p+t.length
 | .n _::r,i,p=>p::Ef wd r (i+1) (p+(wd i).length)
theorem Fq{wd z a}:Ef wd [] z a=[]:=rfl
theorem wK{wd z a k t r}:Ef wd (IL.f k t::r) z a=Ef wd r z (a+t.length):=rfl
theorem ql{wd z a s r}:Ef wd (IL.n s::r) z a=a::Ef wd r (z+1) (a+List.length (wd z)):=rfl
def Kg (A:List IL):∀(i p:Nat),(∀j,j<nI A->pl (i+j)=((Ef wd A i p).getD j 0:Nat))->pq wd pl (hG A i) p:=by
 induction A with
 |nil=>intro i p _;exact trivial
 |cons pr r a=>cases pr with
  |f _ t=>intro i p h;have:=a i (p+t.length) h;simpa [JF,JE,IM,jI,j5,jS]using this
  |n _=>
   intro i p h;refine⟨by simpa [Fq,wK,ql]using h 0<|nl rfl,?_⟩;have:=a (i+1) (p+(wd i).length) (λj b=>by have:=h (j+1)<|ZE ‹_›;simpa [Fq,wK,ql,X7,Y3 1]using this)
   simpa using this
def rB (A:List IL):∀(i:Nat) (p:Int),pq wd pl (hG A i) p->∀j,i<=j->j<i+nI A->p<=pl j:=by
 induction A with
 |nil=>intro i p _ j h1 a;exact False.elim<|aI 0x3400865b0342c0067b tq a h1
 |cons pr r b=>cases pr with
  |f _ t=>intro i p h j h1 a;have:=b i (p+t.length) h j h1 a;exact Yi (Int.le_add_of_nonneg_right<|YG _) this
  |n _=>
   intro i p h j h1 a;by_cases e:j=i
   ·subst e;refine aa h.1 ?_;exact Int.le_refl _
   ·have:=b (i+1) (p+(wd i).length) h.2 j (Y2 (kA h1)<|X1 e)<|zl a
    exact Yi (Int.le_add_of_nonneg_right<|YG _) this
def JR (d:∀i,wd i∈cK)(A:List IL):∀(i:Nat) (p:Int),pq wd pl (hG A i) p->∀j k,i<=j->j<k->k<i+nI A->pl j<pl k:=by
 induction A with
 |nil=>intro i p _ j k h1 b a;exact False.elim<|ba 0x68020cf620865b0342c0067b tq a h1 b
 |cons pr r g=>cases pr with
  |f _ t=>intro i p h j k h1 b a;exact g i (p+t.length) h j k h1 b a
  |n _=>
   intro i p h j k h1 b a;by_cases e:j=i
   ·subst e
    have l:=rB r (j+1) (p+(wd j).length) h.2 k ‹_›<|zl a;refine dH (u5 _<|d j) λc t e _=>?_;have:0<(wd j).length:=by refine aa e ?_;simp
    refine aa h.1 ?_;exact Za (Int.lt_add_of_pos_right _<|Zu.mpr this) l
   ·exact g (i+1) _ h.2 j k (Y2 (kA h1)<|X1 e) b<|zl a
end
section
variable{wd:Nat->Nm}{pl:Nat->Int}{inM:Int->Bool}{Z:Nat->Bool}{name:Nm}
noncomputable def D9(inM:Int->Bool)(name:Nm)(t:Tok):Nm:=if inM t.p then name else t.t
noncomputable def Kt(wd:Nat->Nm)(Z:Nat->Bool)(name:Nm)(i:Nat):Nm:=if Z i then name else wd i
noncomputable def Jk(wd:Nat->Nm)(inM:Int->Bool)(Z:Nat->Bool):List PT->Int->Prop
 | [],_=>True
 | .f _ t::r,p=>inM p=false/\Jk wd inM Z r (p+t.length)
 | .m i::r,p=>inM p=Z i/\Jk wd inM Z r (p+(wd i).length)
def Kq {L:List PT}:∀{p:Int},Jk wd inM Z L p->((gS ((yX L).map<|pk wd) p).map<|D9 inM name).flatten=uo (Kt wd Z name) L:=by
 induction L with
 |nil=>intro p _;exact rfl
 |cons pr r a=>cases pr with
  |m i=>intro p h;simp[lM,j3,kO,af,pk,jt,fu,abn,eo,ec,D9,h.1,nA,Kt,(a h.2)]
  |f k t=>
   intro p h;have a:=a h.2;simp[kO];split
   ·rename_i d
    split
    ·rename_i g o n b
     rw[b]at a;split
     ·rename_i e
      have c:inM (p+t.length)=false:=by
       cases r with
       |nil=>simp[lM]at b
       |cons y r=>
        cases y with
        |m j=>simp[j3]at b
        |f l q=>exact h.2.1
      simp[pk,fu,D9,c,h.1]at a⊢;simp[XB,Int.natCast_add,<- Zg,XM];exact aa a rfl
     ·simp only[af,pk,jt,fu,abn,D9,h.1,Ze,if_false]at a⊢
      exact aa a rfl
    ·simp only[af,pk,jt,fu,abn,D9,h.1,Ze,if_false]at a⊢
     exact aa a rfl
   ·simp only[af,pk,jt,fu,abn,D9,h.1,Ze,if_false]at a⊢
    exact aa a rfl
def JC (o:∀i,wd i∈cK)(u:∀q,inM q=true↔∃i,i<m/\Z i=true/\pl i=q)(A:List IL):∀(i:Nat) (p:Int) (nx:Option PT),m=i+nI A->rn (hG A i) nx=true->pq wd pl (hG A i) p->(∀j,j<i->pl j<p)->Jk wd inM Z (hG A i) p:=by
 induction A with
 |nil=>intro i p nx _ _ _ _;exact trivial
 |cons pr r y=>cases pr with
  |f k t=>
   intro i p nx b h d g;simp only[jI,j5,jS,iK,iG,Xu]at h;have l:0<t.length:=by cases t with |nil=>exact Xv rfl (vK (wd:=wd) o h.1.1)|cons c t=>simp
   refine⟨?_,y i (p+t.length) nx b h.2 d (λj a=>by have:=g j a;exact Int.lt_trans this<|Int.lt_add_of_pos_right _<|Zu.mpr l)⟩;cases e:inM p with
   |false=>rfl
   |true=>
    refine aj ((u p).1 e) λj v w x=>?_;by_cases a:j<i
    ·have:=g j a;exact Xv x<|Int.ne_of_lt this
    ·have:=rB r i (p+t.length) d j (ZZ ‹_›) (by exact ow 0x20b013105830d3630067b tq v b)
     lia
  |n s=>
   intro i p nx b h d g;simp only[jI,j5,jS,iK,iG,Xu]at h;refine dH (u5 _<|o i) λc t e _=>?_;have l:0<(wd i).length:=by refine aa e ?_;simp
   refine⟨?_,y (i+1) (p+(wd i).length) nx (ba 0x416858c0502d1302c0069b tq b) h.2 d.2 (λj a=>by
    by_cases q:j=i
    ·clear e h b;subst q;refine aa d.1 ?_;exact Int.lt_add_of_pos_right _<|Zu.mpr l
    ·have:=g j<|Y2 (MD a) q;exact Int.lt_trans this<|Int.lt_add_of_pos_right _<|Zu.mpr l)⟩
   cases hz:Z i with
   |true=>exact(u p).2 ⟨i,ba 0x104c2d1300c0879b tq b,hz,d.1⟩
   |false=>
    cases e:inM p with
    |false=>rfl
    |true=>
     refine aj ((u p).1 e) λj v w x=>?_;by_cases a:j<i
     ·have:=g j a;exact Xv x<|Int.ne_of_lt this
     ·by_cases q:j=i
      ·clear h g l;subst q;rw[hz]at w;exact eH w nt
      ·have:=rB r (i+1) (p+(wd i).length) d.2 j (Y2 (wx a)<|X1 q)<|ow 0x82d0b180985a2605830d3630067b tq v b
       lia
end
noncomputable def lE(F:List ZU)(p:Int):Int:=F.foldl (λt o=>if o.1=p then o.2.2 else t)<|-2
def Ee (t:Int)(F:List ZU)(D:List<|Int×V):List<|Int×V:=F.foldl (λD o=>if o.2.2=t then kM o.1 (.b true) D else D) D
def Gh (D):(eJ q<|kM a v D).isSome=(decide (a=q)||(eJ q D).isSome):=by
 induction D with
 |nil=>by_cases h:a=q<;> simp[jz,h0,hU,iu,h]
 |cons pD D i=>
  obtain⟨b,u⟩:=pD;simp only[jz,h0];by_cases h:b=a
  ·subst h
   simp only[if_true,hU,iu];by_cases c:b=q<;> simp[c]
  ·simp only[Xq h,hU,iu]
   by_cases c:b=q
   ·simp[c]
   ·simp only[Xq c,i]
theorem yg:∀(D:List<|Int×V),(kM a v D).length<=D.length+1
 | []=>by simp[jz,h0]
 |(b,u)::D=>by
  simp only[jz,h0];split
  ·simp
  ·have:=yg (a:=a) (v:=v) D
   exact Ep this
theorem w9{tg q:Int}:∀(F:List ZU) (D:List<|Int×V),(eJ q<|Ee tg F D).isSome=true↔(eJ q D).isSome=true\/∃o∈F,o.2.2=tg/\o.1=q
 | [],D=>by simp[Ee]
 |o::F,D=>by
  simp only[Ee,foldl_cons];split
  ·rename_i h
   have:=w9 (tg:=tg) (q:=q) F<|kM o.1 (.b true) D;simp only[Ee]at this;rw[this,Gh];simp only[YS,Ym,XD,exists_eq_or_imp];constructor
   ·rintro((a|a)|a)
    ·exact .inr<|.inl ⟨h,a⟩
    ·exact .inl a
    ·exact .inr<|.inr a
   ·rintro(a|(a|a))
    ·exact .inl<|.inr a
    ·exact .inl<|.inl a.2
    ·exact .inr a
  ·rename_i h
   have:=w9 (tg:=tg) (q:=q) F D;simp only[Ee]at this;rw[this];simp only[XD,exists_eq_or_imp];constructor
   ·rintro(a|a)
    ·exact .inl a
    ·exact .inr<|.inr a
   ·rintro(a|(a|a))
    ·exact .inl a
    ·exact Xv a.1 h
    ·exact .inr a
theorem rQ:∀{F:List<|Nat×Int},(F.map (·.1)).Nodup->(i,v)∈F->cH i F=v
 |(a,u)::F,b,h=>by
  simp only[af,Yc]at b;simp only[jA,jG];rcases XD.1 h with e|h
  ·cases e;simp
  ·rw[Xq ?_]
   ·exact rQ b.2 h
   ·intro z;subst z
    exact b.1<|Y4 (f:=(·.1)) h
theorem iV:∀{F:List<|Nat×Int},i∈F.map (·.1)->(i,cH i F)∈F
 |(a,u)::F,h=>by
  simp only[jA,jG];by_cases e:a=i
  ·simp[e]
  ·refine aa (Xq e) ?_
   simp only[af,XD]at h;rcases h with h|h
   ·exact Xv h.symm e
   ·exact .tail _<|iV h
section
variable{wd:Nat->Nm}{pl:Nat->Int}
noncomputable abbrev dl(wd:Nat->Nm)(pl:Nat->Int)(F:List<|Nat×Int):List ZU:=F.map λx=>(pl x.1,wd x.1,x.2)
def G1 (F:List<|Nat×Int):∀(t:Int),(∀x∈F,pl x.1≠place)->(dl wd pl F).foldl (λt o=>if o.1=place then o.2.2 else t) t=t:=by
 induction F with
 |nil=>intro t _;exact rfl
 |cons x F i=>intro t h;simp only[af,foldl_cons];exact aa (Xq<|h x<|.head _)<|i t λy a=>h y<|.tail _ a
def Gk {p:Int}{F:List<|Nat×Int}(h:∀x∈F,pl x.1≠p):lE (dl wd pl F) p=-2:=G1 F (-2) h
def HM (d:pl s=place)(F:List<|Nat×Int):∀(t:Int),(F.map (·.1)).Nodup->s∈F.map (·.1)->(∀x∈F,pl x.1=place->x.1=s)->(dl wd pl F).foldl (λt o=>if o.1=place then o.2.2 else t) t=cH s F:=by
 induction F with
 |nil=>intro t _ h _;cases h
 |cons x F i=>
  intro t b h c;simp only[af,Yc]at b;simp only[af,foldl_cons,jA,jG];by_cases e:x.1=s
  ·refine aa (Xr<|by rw[e];exact d)<|aa (Xr e)<|G1 F x.2 λy a f=>?_
   have:=c y (.tail _ a) f;rw[<- e]at this;exact b.1<|this▸Y4 (f:=(·.1)) a
  ·refine aa (Xq λq=>e<|c x (.head _) q)<|aa (Xq e)<|i t b.2 ?_ λy a=>c y<|.tail _ a
   simp only[af,XD]at h;rcases h with h|h
   ·exact Xv h.symm e
   ·exact h
end
theorem qF(h:∀i j,i<n->j<n->c i j=b i j):∀{t:PySem.W.KasT d},mw n P t->iT c t=iT b t
 | .ret a,_=>rfl
 | .ask i j k,q=>by simp[DR,h i j q.1 q.2.1];exact qF h<|q.2.2 _
def Ao (b:p.length=qs.length)(a:0<p.length)(h:∀i j,i<p.length->j<p.length->ed (p.getD i (0,0)) (p.getD j (0,0))=ed (qs.getD i (0,0)) (qs.getD j (0,0))):iY p=iY qs:=by unfold iY;exact dG b<|aa (qF h<|oU a) rfl
def Jj:∀n∈List.range 64,2<=n->(iT (λi j=>decide (i<j))<|PySem.W.kas_sort n).toList=List.range n:=by decide+kernel
def JW (b:2<=p.length)(a:p.length<64)(h:∀i j,i<p.length->j<p.length->ed (p.getD i (0,0)) (p.getD j (0,0))=decide (i<j)):iY p=List.range p.length:=by unfold iY;exact aa (qF h<|oU<|Y7 ‹_›)<|Jj p.length (by simpa using a) b
def D8 (H:Hp):List V->List ZU->Prop:=A2 λv o=>∃r,v=.r r/\H[r]?=some (eU o)
def L5 {H:Hp}{f:List Nat}:∀{F:List ZU},f.length=F.length->(∀(j r:Nat) (o:ZU),f[j]?=some r->F[j]?=some o->H[r]?=some (eU o))->D8 H (f.map V.r) F:=by
 induction f with
 |nil=>intro F h _;cases F with |nil=>trivial|cons=>cases h
 |cons r f i=>intro F h g;cases F with |nil=>cases h|cons o F=>exact⟨⟨r,rfl,g 0 r o rfl rfl⟩,i (Nat.succ.inj h) λj q p a b=>g (j+1) q p a b⟩
def D8.app (x:Hp){v:List V}{F:List ZU}:D8 H v F->D8 (H++x) v F:=A2.mono λa=>ag a λr e g=>⟨r,e,fk g⟩
def D8.len {H:Hp}{v:List V}{F:List ZU}:D8 H v F->v.length=F.length:=A2.len
structure Wd(n:Nat)(H:Hp)(W:RS):Prop where
 f:bb H n 8=xR (n+3)
 c:bb H n 9=xR (n+4)
 k:bb H n 10=xR (n+5)
 g:H[n+3]?=some (.l<|W.b.map V.s)
 hf:∃vs,H[n+4]?=some (.l vs)/\D8 H vs W.f
 hd:H[n+5]?=some (.l<|W.e.map V.i)
 e:W.b.length<=900
 d:W.f.length<=900
 bd:W.e.length<=900
def Rp.w {n I:Nat}{t:List Tok}{H:Hp}{W:RS}(r:Rp n I t H W):Wd n H W:=by have f:=r.fld;refine cV r λs a r=>?_;have:=r.F;have:=r.G;have:=r.E;have:=r.R;exact⟨f.2.1,f.2.2.1,f.2.2.2.1,r.g,⟨_,r.hf,L5 r.D r.fd⟩,r.hd,vT ‹_› ‹_›,vT ‹_› ‹_›,vT ‹_› ‹_›⟩
def wq (x)(h:bb H a f=some v):bb (H++x) a f=some v:=by
 unfold bb at h⊢;cases e:H[a]? with
 |none=>rw[e]at h;exact cE h nt
 |some o=>refine aa (fk e) ?_;rw[e]at h;exact h
def Wd.app (w:Wd n H W)(x:Hp):Wd n (H++x) W:=by exact ag w.hf λv a b=>⟨wq x w.f,wq x w.c,wq x w.k,fk w.g,⟨v,fk a,b.app x⟩,fk w.hd,w.e,w.d,w.bd⟩
def B9 {H a:Hp}(h:∀i,i<H.length->a[i]?=H[i]?):∃x,a=H++x:=by
 refine⟨a.drop H.length,(List.ext_getElem? λi=>?_)⟩;by_cases b:i<H.length
 ·exact aa (h i b)<|aa (Yg b) rfl
 ·rw[YY<|ZZ ‹_›,List.getElem?_drop]
  congr 1;exact(Nat.add_sub_of_le<|ZZ b).symm
def rp (h:H[r]?=some (eU o)):bb H r 2=xI o.1/\bb H r 4=xI o.2.2:=by simp only[bb,h,eU,rE];exact⟨rfl,rfl⟩
def T6 (c:Cl):V->Lo->Hp->Option (Fl×Hp):=λv l H=>XU c a4 (l.set 6<|some v) H [.i (.q .e (.f (.v 6) 2)<|.v 1) [.s 5<|.f (.v 6) 4] []]
def Oi {cl:Cl}{H:Hp}{ok:Hp->Bool}(a:ok H=true){s nm it wk:V}{pl:Int}{x7 x8 x9:Option V}:∀(b:List V) (F:List ZU) (t:Int) (o:Option V),D8 H b F->
  ∃c,aK (T6 cl) ok b [some s,xI pl,some nm,some it,some wk,xI t,o,x7,x8,x9] H=some (.n [some s,xI pl,some nm,some it,some wk,xI<|F.foldl (λt o=>if o.1=pl then o.2.2 else t) t,c,x7,x8,x9],H):=by
 intro b;induction b with
 |nil=>intro F t o h;cases F with
  |nil=>exact⟨o,bp a⟩
  |cons q F=>exact h.elim
 |cons v b i=>intro F t o h;cases F with
  |nil=>exact h.elim
  |cons q F=>
   refine XE (λh1 f=>ag h1 λr d g=>XE (λf2 f4=>Xs (i F (if q.1=pl then q.2.2 else t) (xR r) f) λc i=>⟨c,?_⟩)<|rp g) h;subst d;refine(aS a ?_).trans i;by_cases e:q.1=pl
   ·simp[T6,f2,f4,e]
   ·simp[T6,f2,f4,e]
def TZ (c:Cl):V->Lo->Hp->Option (Fl×Hp):=λv l H=>XU c a4 (l.set 6<|some v) H [.i (.q .e (.f (.v 6) 4)<|.v 5) [.t (.v 7) (.f (.v 6) 2)<|.b true] []]
def NV {cl:Cl}{H:Hp}{ok:Hp->Bool}(a:∀x,ok (H++x)=true){s p nm it wk:V}{tg:Int}{x8 x9:Option V}:∀(b:List V) (F:List ZU) (D:List<|Int×V) (o:Option V),D8 H b F->D.length+F.length<=1000->
  ∃d,aK (TZ cl) ok b [some s,some p,some nm,some it,some wk,xI tg,o,xR H.length,x8,x9] (H++[.dI D])=some (.n [some s,some p,some nm,some it,some wk,xI tg,d,xR H.length,x8,x9],H++[.dI<|Ee tg F D]):=by
 intro b;induction b with
 |nil=>intro F D o h _;cases F with
  |nil=>exact⟨o,bp<|a _⟩
  |cons q F=>exact h.elim
 |cons v b i=>intro F D o h c;cases F with
 |nil=>exact h.elim
 |cons q F=>
  refine XE (λh1 j=>ag h1 λr f g=>XE (λf2 f4=>?_)<|rp (fk g:(H++[AO.dI D])[r]?=some (eU q))) h;subst f;simp only[aM]at c;have k:=yg (a:=q.1) (v:=.b true) D;obtain⟨d,i⟩:=i F (if q.2.2=tg then kM q.1 (.b true) D else D) (xR r) j (by split;exact ba 0x7d0e08192fa1c1685826065b0b44c0065b tq k c;exact aI 0x7d0e08192fa1c1685806065b tq c);refine⟨d,?_⟩;rw[aS (a _) (l':=[some s,some p,some nm,some it,some wk,xI tg,xR r,xR H.length,x8,x9]) (H':=H++[.dI<|if q.2.2=tg then kM q.1 (.b true) D else D]) ?_]
  ·exact i
  ·by_cases e:q.2.2=tg
   ·have l:setItem (H++[AO.dI D]) (.r H.length) (.i q.1) (.b true)=some (H++[.dI<|kM q.1 (.b true) D]):=by simp only[setItem,be,oM,ci,mH];rw[Xr<|by exact aI 0x1f43812fa1c1685806065b tq c,yQ]
    simp[TZ,f2,f4,e,l]
   ·simp[TZ,f2,f4,e]
noncomputable def mP(F:List ZU):List<|Int×Int:=F.map λo=>(o.1,o.2.2)
def uk (F:List ZU):List Int:=(iY<|mP F).map λi=>((mP F).getD i (0,0)).2
def SP (H:Hp):V->V
 | .r r=>.t [(bb H r 2).getD .n,(bb H r 4).getD .n]
 |_=>.n
theorem Ci{H:Hp}:∀{a:List V}{F:List ZU},D8 H a F->a.map (SP H)=(mP F).map λp=>V.t [.i p.1,.i p.2]
 | [],[],_=>rfl
 | [],o::F,h=>h.elim
 |v::a,[],h=>h.elim
 |v::a,o::F,h=>by obtain⟨⟨r,rfl,g⟩,b⟩:=h;obtain⟨f2,f4⟩:=rp g;have i:=Ci b;simp only[mP,af]at i⊢;refine aa i ?_;simp only[SP,f2,f4,Option.getD_some]
def D8.mem {H:Hp}{b:List V}{F:List ZU}:D8 H b F->∀v∈b,∃r o,v=.r r/\H[r]?=some (eU o):=A2.mem λa=>ag a λr e g=>⟨r,_,e,g⟩
theorem oz:∀a:List<|Int×Int,dO (a.map λp=>V.t [.i p.1,.i p.2])=some a
 | []=>rfl
 |p::a=>(Xy (Option.map _) (oz a):Option.map (λl=>(p.1,p.2)::l) _=_)
def uO (e:ai c l a H=some (.r r,b))(g:b[r]?=some (.l<|ps.map λp=>V.t [.i p.1,.i p.2]))(d:2<=ps.length)(h:ps.length<64):
  ai c l (.k a) H=some (.r b.length,b++[.l<|(iY ps).map λi=>V.t [.i (ps.getD i (0,0)).1,.i (ps.getD i (0,0)).2]]):=by
 refine(bI e).trans ?_;show hL b[r]? _=_;refine aa g<|(kW<|oz _).trans<|(Xr<|by simp[d,h]).trans ?_;congr 4;refine Xy AO.l<|YA λi f=>?_;have:i<ps.length:=by have:=(i8 ps<|Y7 ‹_›).mem_iff.1 f;simpa using this
 simp[Yr,Zt,XQ this]
noncomputable def SD(v:V):V:=match v with | .t l=>l.getD 1 .n|_=>.n
@[simp]theorem Va{a b:V}:SD (.t [a,b])=b:=rfl
def U7 {n d:Nat}{H:Hp}{W:RS}(w:Wd n H W)(t:2<=W.f.length)(b:W.f.length<64){Cx:Prop}(B:∀a x,ae (d+1) 47 [.r n] H=some (.v<|.r a,H++x)->(H++x)[a]?=some (.l<|(uk W.f).map V.i)->Cx):Cx:=by
 refine ag w.hf λu z k=>?_;have s:u.length=W.f.length:=k.len;have C:=w.d;have c:=ph (cl:=ae d) (l:=[xR n,none]) (H:=H) (elt:=.p [(.f (.v 0) 2),(.f (.v 0) 4)]) (src:=.f (.v 0) 9) (caps:=[]) (vs:=u) (SP H) (hE λj=>j _ w.c) z (GI s b) (λv q=>by refine dH (k.mem v q) λr o l g=>?_;subst l;exact XE (λf2 f4=>XR (hE λj=>j _ f2 _ f4)<|by simp[cW,f2,f4,SP])<|rp g)
 rw[Ci k]at c;have h:(mP W.f).length=W.f.length:=by simp[mP]
 have A:=i8 (mP W.f)<|vZ t h;have e:=uO (ps:=mP W.f) c (be _ _) (AV t h)<|AI h b;refine B (H.length+2) ([AO.l<|(mP W.f).map λp=>V.t [.i p.1,.i p.2],.l<|(iY<|mP W.f).map λi=>V.t [.i ((mP W.f).getD i (0,0)).1,.i ((mP W.f).getD i (0,0)).2],.l<|(uk W.f).map V.i]) ?_ ?_
 ·have m:(iY<|mP W.f).length=W.f.length:=aa A.length_eq<|aa List.length_range<|aa h rfl
  have f:=ph (cl:=ae d) (l:=[xR n,xR (H++[AO.l<|(mP W.f).map λp=>V.t [.i p.1,.i p.2]]).length]) (H:=H++[AO.l<|(mP W.f).map λp=>V.t [.i p.1,.i p.2]]++[.l<|(iY<|mP W.f).map λi=>V.t [.i ((mP W.f).getD i (0,0)).1,.i ((mP W.f).getD i (0,0)).2]])
   (elt:=.t (.v 0)<|.i 1) (src:=.v 1) (caps:=[]) (a:=H.length+1) (vs:=(iY<|mP W.f).map λi=>V.t [.i ((mP W.f).getD i (0,0)).1,.i ((mP W.f).getD i (0,0)).2])
   SD (XR (hE λj=>j)<|by simp[]) (by rw[YY<|by simp];simp) (by rw[X6,m];exact A1 b) (λv q=>by refine ag (XN.1 q) λi D l=>?_;subst l;have:nW 2 1=some 1:=rfl;exact hE λj=>j _ rfl)
  refine aa (aU (f:=jy) rfl rfl) ?_;simp only[jy,aV,Az,r4,m9];have y:List.map some [V.r n]++List.replicate (2-1) none=[xR n,none]:=rfl;refine aa y<|aa e ?_;simp only[pZ,sB,aV,Az,m9,set_cons_succ,set_cons_zero];refine aa f ?_;simp only[js,oO,jc,Y5,uk];simp only[XM,bE,dE,XB,aM,bA];rfl
 ·simp
def fS:Nm->Bool
 | []=>false
 |c::r=>dy c&&!Ek.contains (c::r)&&(c::r).all xT
def Na (c:Cl):V->Lo->Hp->Option (Fl×Hp):=λv l H=>XU c a4 (l.set 1<|some v) H [.i (.a [(.N<|.c 1 [(.v 1)]),(.N<|.c 2 [(.v 1)])]) [.r<|.b false] []]
def Nn (e:ok H=true)(cs:List Nat):∀(o:Option V),
  (cs.all xT=true/\∃f,aK (Na<|ae<|d+1) ok (cs.map λc=>V.s [c]) [some s,o] H=some (.n [some s,f],H))\/(cs.all xT=false/\aK (Na<|ae<|d+1) ok (cs.map λc=>V.s [c]) [some s,o] H=some (.r<|.b false,H)):=by
 induction cs with
 |nil=>intro o;exact .inl ⟨rfl,o,bp e⟩
 |cons c cs j=>
  intro o;cases h:xT c with
  |false=>refine .inr ⟨by simp[h],lO e ?_⟩;simp only[xT,Bool.or_eq_false_iff]at h;simp[Na,Dg,Po,h.1,h.2]
  |true=>
   have g:Na (ae<|d+1) (.s [c]) [some s,o] H=some (.n [some s,xS [c]],H):=by
    simp only[xT,YS]at h;have h:=h;cases h1:dy c with
    |true=>simp[Na,Dg,Po,h1]
    |false=>
     have i:eB c=true:=by rcases h with z|z;rw[h1]at z;exact eH z nt;exact z
     simp[Na,Dg,Po,h1,i]
   rcases j (xS [c])with⟨a,f,b⟩|⟨a,b⟩
   ·exact .inl ⟨by simp[h,a],f,by refine aa af<|aa (aS e g) ?_;exact b⟩
   ·exact .inr ⟨by simp[h,a],by refine aa af<|aa (aS e g) ?_;exact b⟩
def WI {d:Nat}{H:Hp}{s:Nm}:ae (d+2) 46 [.s s] H=some (.v<|.b<|fS s,H):=by
 refine aa (aU (f:=mQ) rfl rfl) ?_;cases s with
 |nil=>exact jJ λj=>j _ rfl
 |cons c r=>
  have g:nW (r.length+1) 0=some 0:=by rfl
  have f:getItem H (.s<|c::r) (.i 0)=xS [c]:=rfl;have h:fW H (.s<|c::r) OJ=some (Ek.contains<|c::r):=da _ _;have l:bx (ae<|d+1) a4 [xS<|c::r,none] H fa=aK (Na<|ae<|d+1) (ju none<|(c::r).map λc=>V.s [c]) ((c::r).map λc=>V.s [c]) [xS<|c::r,none] H:=by unfold fa;exact rG.trans rfl
  cases h1:dy c with
  |false=>rw[show fS (c::r)=false by simp only[fS,h1];rfl];exact jJ λj=>j _ rfl _ f (.b false) _ ((Dg _ _ c).trans<|by rw[h1])
  |true=>
   cases h2:Ek.contains (c::r)with
   |true=>
    rw[h2]at h;have e:fS (c::r)=false:=by simp only[fS,h1,h2];rfl
    exact aa e<|jJ λj=>j _ rfl _ f (.b true) _ ((Dg _ _ c).trans<|by rw[h1]) _ _ f0 _ h
   |false=>
    rw[h2]at h;rcases Nn (d:=d) (H:=H) (ok:=ju none<|(c::r).map λc=>V.s [c]) rfl (s:=.s<|c::r) (c::r) none with⟨a,o,b⟩|⟨a,b⟩
    ·rw[b]at l
     simp only[fS,h1,h2,a];exact jJ λj=>j _ rfl _ f (.b true) _ ((Dg _ _ c).trans<|by rw[h1]) _ _ f0 _ h _ _ l
    ·rw[b]at l
     simp only[fS,h1,h2,a];exact jJ λj=>j _ rfl _ f (.b true) _ ((Dg _ _ c).trans<|by rw[h1]) _ _ f0 _ h _ _ l
theorem lN:∀(n:Nat) (X:List Int),X9 n (X.map V.i)=true
 |n,[]=>by simp[i5]
 |n,x::X=>by simp[jp,gf,lN n X]
theorem vw:∀(X Y:List Int),Z4 (X.map V.i) (Y.map V.i)=some (decide (X=Y))
 | [],[]=>rfl
 | [],y::Y=>rfl
 |x::X,[]=>rfl
 |x::X,y::Y=>by show(oB (Z4 (X.map V.i)<|Y.map V.i) λz=>some<|decide (x=y)&&z)=_;rw[vw X Y];refine Xy some ?_;by_cases h:x=y<;> simp
def Cf {H:Hp}{a b:Nat}{X Y:List Int}(h:H[a]?=some (.l<|X.map V.i))(c:H[b]?=some (.l<|Y.map V.i)):aY H .n (.r a) (.r b)=some (!decide (X=Y)):=by show(Ed H (.r a)<|.r b).map (!·)=_;rw[PH h c<|by rw[lN,lN];rfl,vw];rfl
theorem qU:∀a:List Nm,jV (a.map V.s)=some a
 | []=>rfl
 |s::a=>by simp[Ai,qU a]
def Cg {cl:Cl}{l:Lo}{H H1:Hp}{a:ME}{r:Nat}{ss:List Nm}(h:ai cl l a H=some (.r r,H1))(c:H1[r]?=some (.l<|ss.map V.s))(b:ss.length<=1000000)(d:sh ss.flatten=true):ai cl l (.j a) H=some (.s ss.flatten,H1):=by
 refine(bI h).trans ?_;have e:Mo H1 (.r r)=xS ss.flatten:=by show hL H1[r]? _=_;exact aa c ((kW<|qU _).trans<|Xr<|by simp[b,d])
 refine aa e ?_;rfl
section
variable(M:Md)(wd:Nat->Nm)
def LM:List PT:=hG (aP M) 0
def cf:Nm:=uo wd<|LM M
def bK (i:Nat):Int:=((Ef wd (aP M) 0 0).getD i 0:Nat)
def SM:PS:=YB.run wd<|ku M
def HA:List<|List Nat×List Nat:=(yX<|LM M).map<|pk wd
end
structure sb(M:Md)(wd:Nat->Nm):Prop where
 nm:∀i,wd i∈cK
 short:sh (cf M wd)=true
structure KJ(M:Md)(d:Nat):Prop where
 s:LN M<880
 b:26+3*Dd M.d+3*L7 M.p<=d
 a:2<=nI (aP M)
 m:nI (aP M)<64
def zk:kK x->x.length<=(AF x).length:=by
 induction x with
 |nil=>intro _;exact X5 _
 |cons p x i=>
  intro h;obtain⟨k,t⟩:=p;cases h with
  |cons h1 a=>
   have:=i a;have:0<t.length:=by cases t with |nil=>exact Xv rfl h1.ne|cons c t=>simp
   simp only[xy,aM,XB];exact ba 0x44c0b40c9080d0cf610065b tq (i a) this
section
variable{M:Md}{wd:Nat->Nm}{d:Nat}
def H7:AF (HA M wd)=cf M wd:=ml _
def FF (f:sb M wd):kK<|HA M wd:=UQ f.nm<|gM M
def NZ (f:sb M wd):(HA M wd).length<=100000:=by have:=zk<|FF f;rw[H7]at this;have:=j4 f.short;exact aI 0x61a822090061a82210cb610065b tq ‹_› ‹_›
def B1 (M)(wd):pq wd (bK M wd) (LM M) 0:=Kg (aP M) 0 0 (λj _=>by simp[bK])
def qR (f:sb M wd)(h1:j<k)(h:k<nI (aP M)):bK M wd j<bK M wd k:=JR f.nm (aP M) 0 0 (B1 M wd) j k (X5 _) h1<|aI 0x40d602610067b tq h
def Ny (f:sb M wd)(h1:j<nI (aP M))(h:k<nI (aP M))(e:bK M wd j=bK M wd k):j=k:=by
 rcases lt_trichotomy j k with q|q|q
 ·have:=qR f q h;exact Xv e<|Int.ne_of_lt this
 ·exact q
 ·have:=qR f q h1;exact Xv e.symm<|Int.ne_of_lt this
def d0 (M)(wd):(SM M wd).f.map (·.1)=aw (ku M):=(K7 M).2
def og (M)(wd):((SM M wd).f.map (·.1)).Nodup:=by rw[d0];exact(pM M).nodup_iff.2<|List.nodup_range' (step:=1)<|nl rfl
def cJ (M)(wd)(i):i∈(SM M wd).f.map (·.1)↔i<nI (aP M):=by rw[d0,(pM M).mem_iff,abi];lia
def qh (M)(wd):(SM M wd).f.length=nI (aP M):=by simpa using(by rw[d0,(pM M).length_eq,List.length_range']:((SM M wd).f.map (·.1)).length=nI (aP M))
def DO (f:sb M wd)(i:5<=d)(H:Hp){Cx:Prop}(k:∀(a y:Hp) (v:List V),ae d 13 [.s<|cf M wd] H=some (.v<|.r H.length,a)->a=H++y->a[H.length]?=some (.l v)->Al a.length a v (gS (HA M wd) 0)->v.length<=100000->Cx):Cx:=by have c:=H7 (M:=M) (wd:=wd);have e:=FF f;have g:=f.short;have h:=NZ f;generalize HA M wd=xs at h c e k;rw[<- c]at g k;have q:=Wp (d:=d-5) (H:=H) (xs:=xs) g e<|bB 0x1b77411048030d4110065b tq h;rw[(YI (bB 0x56c8056865b tq i):d-5+5=d)]at q;refine k _ (AO.l (cO (H.length+1) xs.length)::kh xs 0) (cO (H.length+1) xs.length) q rfl (by simp) ?_ (by rw[DL];exact bB 0x30d411048030d4110065b tq h);have b:=NX (n:=(H++.l (cO (H.length+1) xs.length)::kh xs 0).length) xs (H++[.l<|cO (H.length+1) xs.length]) 0 (by simp[vg];exact aI 0x1685806042d03192 tq);rw[(by simp:H++[AO.l<|cO (H.length+1) xs.length]++kh xs 0=H++.l (cO (H.length+1) xs.length)::kh xs 0),(by simp:(H++[AO.l<|cO (H.length+1) xs.length]).length=H.length+1)]at b;exact b
def JV (M)(wd):yY wd (bK M wd) (ze M) ((gS (HA M wd) 0).filter λt=>cq t.k):=by have m:=M7 (L:=LM M)<|B1 M wd;rw[(by exact Uy M:mE (LM M)=ze M)]at m;exact m
def xX (f:sb M wd)(z:KJ M d)(H:Hp){C:Prop}(k:∀(y x:Hp) (n:Nat) (W:RS) (v:List V),
  ae d 13 [.s<|cf M wd] H=some (.v<|.r H.length,H++y)->(H++y)[H.length]?=some (.l v)->Al (H++y).length (H++y) v (gS (HA M wd) 0)->v.length<=100000->
  ae d 45 [.r H.length] (H++y)=some (.v<|.r n,H++y++x)->Wd n (H++y++x) W->jv wd (bK M wd) W (SM M wd)->C):C:=by
 refine DO (d:=d) f (ba 0x15b20086d7846d7e9ac6065b tq z.b) H λm y v q e g a b=>D5 f.nm (M:=M) (d:=d) g a (a.len▸b:(gS (HA M wd) 0).length<=100000) (JV M wd) (ba 0x411b5e01b5f26b1921046d7806d7e9ac6065b tq z.b) z.s λn o W c i j l w=>Xs (B9 w) λx h=>?_;clear l w;subst h e;exact k y x n W v q g a b c i.w j
end
noncomputable def Pf:Nm:=[110,111,116,95,97,95,110,97,109,101]
noncomputable def Hd:Nm:=[112,114,101,100,101,99,108,97,114,101,100]
noncomputable def Gf:Nm:=[98,97,100,95,110,97,109,101]
noncomputable def k8:Nm:=[119,111,117,108,100,95,99,108,97,115,104]
def g7 (M:Md)(w:Nat->Nm)(t:Int)(n:Nm):Nat->Nm:=Kt w (λi=>decide (i<nI (aP M))&&decide (cH i (SM M w).f=t)) n
def tc (M:Md)(w:Nat->Nm)(p:Int)(n:Nm):Rs:=
 let t:=lE (dl w (bK M w) (SM M w).f) p
 if t=-2 then .e (.s Pf) (.i p)else
 if t=-1 then .e (.s Hd) (.i p)else
 if(SM M w).b.getD t.toNat []=b9 then .e (.s b9) (.i p)else
 if fS n=false then .e (.s Gf) (.i p)else
 let a:=g7 M w t n
 if uk (dl w (bK M w) (SM M w).f)≠uk (dl a (bK M a) (SM M a).f)\/(SM M a).t>(SM M w).t then .e (.s k8) (.i p)else
 .v (.s<|cf M a)
def Rx (H:Hp)(D:List<|Int×V)(n:Nm):V->V
 | .r r=>.s (match bb H r 2 with |some (.i q)=>if(eJ q D).isSome then n else(match bb H r 1 with |some (.s s)=>s|_=>[])|_=>[])
 |_=>.n
theorem Br:∀{a:List V}{T:List Tok},Al n H a T->a.map (Rx H D name)=(T.map<|D9 (λq=>(eJ q D).isSome) name).map V.s
 | [],[],_=>rfl
 | [],t::T,h=>h.elim
 |v::a,[],h=>h.elim
 |v::a,t::T,h=>by obtain⟨⟨r,rfl,h1,b⟩,c⟩:=h;simp only[af,(Br (D:=D) (name:=name) c)];congr 1;simp[Rx,eh b,jY,iB,D9]
def Al.mem {a:List V}{T:List Tok}:Al n H a T->∀v∈a,∃(r:Nat) (t:Tok),v=.r r/\H[r]?=some (vN t.k t.t t.p):=A2.mem λh=>aj h λr e _ g=>⟨r,_,e,g⟩
def Al.app (x){v:List V}{T:List Tok}:Al n H v T->Al n (H++x) v T:=A2.mono λh=>aj h λr e a b=>⟨r,e,a,fk b⟩
def Ms (f:sb M w)(t)(name):
  ((gS (HA M w) 0).map<|D9 (λq=>(eJ q<|Ee t (dl w (bK M w) (SM M w).f) []).isSome) name).flatten=cf M (g7 M w t name):=by
 refine Kq<|JC (pl:=bK M w) f.nm (m:=nI<|aP M) ?_ (aP M) 0 0 none (bB 0x6b014 tq) (gM M) (B1 M w) λj g=>Xv g<|aaa _;intro q;simp only[w9,hU,iu,Option.isSome_none,Ze,false_or,Xu,Ym];constructor
 ·rintro⟨o,b,e,a⟩
  refine ag (XN.1 b) λx c d=>?_;clear b;subst d;have h:=(cJ M w x.1).1 (Y4 (f:=(·.1)) c:x.1∈(SM M w).f.map (·.1));refine⟨x.1,h,⟨h,(aa (rQ (og M w) (v:=x.2) c) ?_)⟩,a⟩;exact e
 ·rintro⟨i,h,⟨_,e⟩,a⟩
  have:=iV<|(cJ M w i).2 h;exact⟨_,Y4 (f:=λx:Nat×Int=>(bK M w x.1,w x.1,x.2)) this,e,a⟩
def yi (F:List ZU)(p:Int):∀t0:Int,F.foldl (λt o=>if o.1=p then o.2.2 else t) t0=t0\/∃o∈F,o.2.2=F.foldl (λt o=>if o.1=p then o.2.2 else t) t0:=by
 induction F with
 |nil=>exactλt0=>.inl rfl
 |cons o F i=>
  intro t0;rw[foldl_cons];rcases i (if o.1=p then o.2.2 else t0)with e|⟨q,a,e⟩
  ·rw[e]
   by_cases h:o.1=p
   ·rw[Xr h];exact .inr ⟨o,.head _,rfl⟩
   ·rw[Xq h];exact .inl rfl
  ·exact .inr ⟨q,.tail _ a,e⟩
def uP {H:Hp}{a:Nat}{k:List Nm}{t:Int}(h:H[a]?=some (.l<|k.map V.s))(b:0<=t)(h1:t<k.length)(d:k.length<=900):getItem H (.r a) (.i t)=xS (k.getD t.toNat []):=by
 have c:t.toNat<k.length:=(Int.toNat_lt b).mpr h1;have e:nW (k.map V.s).length t=some t.toNat:=by unfold nW;rw[Xr (BX (Za (by decide) b) (Int.lt_trans h1<|X2.mpr<|Yz d<|nl rfl):sm t=true),Xr b,Xr<|by simpa using c]
 simp only[zL h,e,Zi];simp[XQ c]
def J5 (T:List Tok):(T.map<|D9 i name).length=T.length:=by simp
section
variable{cl:Cl}{v0 v1 v2 it n v5 v:V}{v6:Option V}{H:Hp}
noncomputable abbrev y0(v0 v1 v2 it n v5:V)(v6:Option V):Lo:=[some v0,some v1,some v2,some it,some n,some v5,v6,none,none,none]
def W1 (c:cl 13 [v0] H=some (.v it,b))(d:cl 45 [it] b=some (.v n,a))(q:bx cl a4 (y0 v0 v1 v2 it n (.i<|-2) none) a ll=some (.n<|y0 v0 v1 v2 it n t o,a)):
  XU cl a4 [some v0,some v1,some v2,none,none,none,none,none,none,none] H bo.body=XU cl a4 (y0 v0 v1 v2 it n t o) a (bo.body.drop 4):=Oa 4 λj=>j _ _ c _ _ d _ _ q
def WM:XU cl a4 (y0 v0 v1 v2 it n (.i t) v6) H (bo.body.drop 4)=if t=-2 then some (.e (.s Pf) v1,H)else XU cl a4 (y0 v0 v1 v2 it n (.i t) v6) H<|bo.body.drop 5:=by
 by_cases h:t=-2
 ·rw[Xr h];exact uf λj=>j _<|kr rfl h
 ·rw[Xq h];exact Oa 1 λj=>j _<|fv rfl h
def Ul:XU cl a4 (y0 v0 v1 v2 it n (.i t) v6) H (bo.body.drop 5)=if t=-1 then some (.e (.s Hd) v1,H)else XU cl a4 (y0 v0 v1 v2 it n (.i t) v6) H<|bo.body.drop 6:=by
 by_cases h:t=-1
 ·rw[Xr h];exact uf λj=>j _<|kr rfl h
 ·rw[Xq h];exact Oa 1 λj=>j _<|fv rfl h
def Tm (a:bb H r 8=some c)(b:getItem H c v5=xS k):XU cl a4 (y0 v0 v1 v2 it (.r r) v5 v6) H (bo.body.drop 6)=if k=b9 then some (.e (.s b9) v1,H)else XU cl a4 (y0 v0 v1 v2 it (.r r) v5 v6) H<|bo.body.drop 7:=by
 by_cases h:k=b9
 ·rw[Xr h];exact uf λj=>j _ a _ b _<|kr rfl h
 ·rw[Xq h];exact Oa 1 λj=>j _ a _ b _<|fv rfl h
def TA (a:cl 46 [v2] H=some (.v<|.b b,H)):XU cl a4 (y0 v0 v1 v2 it n v5 v6) H (bo.body.drop 7)=if b=false then some (.e (.s Gf) v1,H)else XU cl a4 (y0 v0 v1 v2 it n v5 v6) H<|bo.body.drop 8:=by
 cases b
 ·exact uf λj=>j _ _ a
 ·exact Oa 1 λj=>j _ _ a
noncomputable abbrev Hy(v0 v1 v2 it n v5:V)(v6:Option V)(m:V)(a b:Option V):Lo:=[some v0,some v1,some v2,some it,some n,some v5,v6,some m,a,b]
noncomputable abbrev Te:ME:=.j<|.C (.e (.q .i (.f (.v 0) 2)<|.v 1) (.v 2)<|.f (.v 0) 1) (.v 3) [7,2]
def VL (q:bx cl a4 (Hy v0 v1 v2 it n v5 v6 (.r H.length) none none) (H++[.dI []]) lK=some (.n<|Hy v0 v1 v2 it n v5 o (.r H.length) none none,d))
  (j:ai cl (Hy v0 v1 v2 it n v5 o (.r H.length) none none) Te d=some (c,b)) (h:cl 13 [c] b=some (.v i,e)) (k:cl 45 [i] e=some (.v g,f)):
  XU cl a4 (y0 v0 v1 v2 it n v5 v6) H (bo.body.drop 8)=XU cl a4 (Hy v0 v1 v2 it n v5 o (.r H.length) (some c)<|some g) f (bo.body.drop 12):=
 XR (Oa 2 λa=>a _ _ q) (PM (l':=Hy v0 v1 v2 it n v5 o (.r H.length) (some c) none) (H':=b) (show bx cl a4 _ _ (.s 8 Te)=_ by rw[we,j];rfl)<|Oa 1 λa=>a _ _ h _ _ k)
def VM (t:cl 47 [.r r] H=some (.v p,o))(d:cl 47 [.r m] o=some (.v q,a))(e:aY a .n p q=some b)(g1:bb a r 10=some s)(g:bb a m 10=some u)
  (l:ej a s=some k) (i:ej a u=some f):XU cl a4 (Hy v0 v1 v2 it (.r r) v5 v6 w (some c)<|xR m) H (bo.body.drop 12)=if b=true\/k<f then some (.e (.s k8) v1,a)else some (.r c,a):=by
 cases b
 ·by_cases h:k<f
  ·rw[Xr<|.inr h];exact uf λj=>j _ _ t _ _ d _ e _ g _ i _ g1 _ l _<|kr rfl h
  ·rw[Xq<|by simp[h]];exact uf λj=>j _ _ t _ _ d _ e _ g _ i _ g1 _ l _<|fv rfl h
 ·rw[Xr<|.inl rfl];exact uf λj=>j _ _ t _ _ d _ e
def UH {n:Nat}{W:RS}{pl:Int}(w:Wd n H W):∃o,bx cl a4 (y0 v0 (.i pl) v2 it (.r n) (.i<|-2) none) H ll=some (.n<|y0 v0 (.i pl) v2 it (.r n) (.i<|lE W.f pl) o,H):=by refine ag w.hf λf h a=>Xs (Oi (cl:=cl) (H:=H) (ok:=a3 (n+4) f) (cS h) (s:=v0) (nm:=v2) (it:=it) (wk:=.r n) (pl:=pl) (x7:=none) (x8:=none) (x9:=none) f W.f (-2) none a) λo l=>⟨o,?_⟩;have:=w.d;have:=a.len;exact(fc (a:=n+4) (vs:=f) (by exact hE λj=>j _ w.c) h<|by lia).trans l
def Tt {n:Nat}{W:RS}{t:Int}(w:Wd n H W):∃o,bx cl a4 (Hy v0 v1 v2 it (.r n) (.i t) v6 (.r H.length) none none) (H++[.dI []]) lK=some (.n<|Hy v0 v1 v2 it (.r n) (.i t) o (.r H.length) none none,H++[.dI<|Ee t W.f []]):=by refine ag w.hf λf h a=>?_;have b:=w.d;refine Xs (NV (cl:=cl) (H:=H) (ok:=a3 (n+4) f) (λx=>cS<|fk h) (s:=v0) (p:=v1) (nm:=v2) (it:=it) (wk:=.r n) (tg:=t) (x8:=none) (x9:=none) f W.f [] v6 a<|bB 0x7d0e001ac9708e0065b tq b) λo l=>⟨o,?_⟩;have:=a.len;exact(fc (H1:=H++[AO.dI []]) (a:=n+4) (vs:=f) (by exact hE λj=>j _ (w.app [AO.dI []]).c) (fk h)<|aI 0x7a1204412e11c10cb610069b tq this b).trans l
def UB {a i p:Nat}{name:Nm}{D:List<|Int×V}{T:List Tok}{vs:List V}(f:Al p H vs T)(m:H[a]?=some (.l vs))(gD:H[i]?=some (.dI D))(d:vs.length<=100000)(o:sh (T.map<|D9 (λq=>(eJ q D).isSome) name).flatten=true):
  ∃x,ai cl (Hy v0 v1 (.s name) (.r a) n v5 v6 (.r i) none none) Te H=some (.s (T.map<|D9 (λq=>(eJ q D).isSome) name).flatten,H++x):=by
 have c:=ph (cl:=cl) (l:=Hy v0 v1 (.s name) (.r a) n v5 v6 (.r i) none none) (H:=H)
  (elt:=.e (.q .i (.f (.v 0) 2)<|.v 1) (.v 2)<|.f (.v 0) 1) (src:=.v 3) (caps:=[7,2]) (a:=a) (vs:=vs) (Rx H D name) (rfl) m (Xz d<|nl rfl) (λv d=>by
   refine dH (f.mem v d) λr t l g=>?_;subst l;have b:bb H r 2=xI t.p:=by rw[eh g];rfl
   have j:bb H r 1=xS t.t:=by rw[eh g];rfl
   have e:fW H (.i t.p) (.r i)=some (eJ t.p D).isSome:=J6 gD;cases h:(eJ t.p D).isSome<;> rw[h]at e<;>(first| exact XR (hE λk=>k _ b _ e _ j) (by simp[cW,b,j,e,Rx,h])| exact XR (hE λk=>k _ b _ e)<|by simp[cW,b,j,e,Rx,h]))
 rw[Br f]at c;exact⟨_,Cg c (be _ _) (by have:=f.len;rw[J5];exact aI 0x3d09022190061a82200cb610079b tq this d) o⟩
end
def WO (w:Wd n H W)(o:Wd q H b)(m:2<=W.f.length/\W.f.length<64)(j:2<=b.f.length/\b.f.length<64):
  ∃x,XU (ae<|d+1) a4 (Hy v0 v1 v2 it (.r n) v5 v6 v7 (some c)<|xR q) H (bo.body.drop 12)=some (if uk W.f≠uk b.f\/b.e.length>W.e.length then .e (.s k8) v1 else .r c,H++x):=by
 refine cps λC p=>U7 (d:=d) w m.1 m.2 λv e t r=>U7 (d:=d) (o.app e) j.1 j.2 λy g s u=>?_;have f:=(w.app e).app g;have a:=(o.app e).app g;have l:=bz f.hd (by have:=f.bd;rw[X6];exact nM this);have i:=bz a.hd (by have:=a.bd;rw[X6];exact nM this);rw[X6]at l i;refine p ⟨e++g,(VM t s (Cf (fk r) u) f.k a.k l i).trans ?_⟩;rw[<- XM];by_cases h:uk W.f≠uk b.f\/b.e.length>W.e.length
 ·rw[Xr h,Xr<|h.imp (λh=>by simpa using h) X2.mpr]
 ·rw[Xq h,Xq λk=>h<|k.imp (λh=>by simpa using h) X2.mp]
def jv.o (s:jv w (bK M w) W<|SM M w):W.f=dl w (bK M w) (SM M w).f:=s.fd
abbrev Nb (M:Md)(a w:Nat->Nm):Prop:=uk (dl a (bK M a) (SM M a).f)≠uk (dl w (bK M w) (SM M w).f)\/(SM M w).t>(SM M a).t
section
variable{M:Md}{wd:Nat->Nm}{d n a n0:Nat}{place t:Int}{name:Nm}{o:Option V}{H:Hp}{W:RS}{vs:List V}
def Wx (f:sb M wd)(z:KJ M<|d+2)(w:Wd n H W)(g:jv wd (bK M wd) W<|SM M wd)(q:Al n0 H vs<|gS (HA M wd) 0)(v:H[a]?=some (.l vs))(y:vs.length<=100000)
  (j:name∈cK) (h:∀t,sh (cf M<|g7 M wd t name)=true):
  ∃x,XU (ae<|d+2) a4 (y0 (.s<|cf M wd) (.i place) (.s name) (.r a) (.r n) (.i t) o) H (bo.body.drop 8)=
   some (if Nb M wd (g7 M wd t name)then .e (.s k8) (.i place)else .r<|.s<|cf M<|g7 M wd t name,H++x):=by
 refine cps λC A=>?_;have cs:=Ms f t name;rw[<- g.o]at cs;have cs:=cs;refine Xs (Tt (cl:=ae<|d+2) (v0:=.s<|cf M wd) (v1:=.i place) (v2:=.s name) (it:=.r a) (t:=t) (v6:=o) w) λm l=>Xs (UB (cl:=ae<|d+2) (H:=H++[AO.dI<|Ee t W.f []]) (v0:=.s<|cf M wd) (v1:=.i place) (n:=.r n) (v5:=.i t) (v6:=m) (i:=H.length) (name:=name) (D:=Ee t W.f []) (q.app _) (fk v) (be _ _) y<|by rw[cs];exact h t) λp k=>?_;rw[cs]at k;refine xX (d:=d+2) (wd:=g7 M wd t name) ⟨λi=>by unfold g7 Kt;split;exact j;exact f.nm i,h t⟩ z (H++[AO.dI<|Ee t W.f []]++p) λI G N J E B O P Q D F b=>?_;have L:∀{c:Nat->Nm}{W:RS},jv c (bK M c) W (SM M c)->2<=W.f.length/\W.f.length<64:=λs=>by rw[s.o,X6,qh];exact⟨z.a,z.m⟩
 refine Xs (WO (d:=d+1) (v0:=.s<|cf M wd) (v1:=.i place) (v2:=.s name) (it:=.r a) (v5:=.i t) (c:=.s<|cf M<|g7 M wd t name) (v6:=m) (v7:=.r H.length) ((((w.app _).app _).app _).app _) F (L g)<|L b) λu e=>?_;have r:=(VL l k B D).trans e;rw[g.o,b.o,g.db,b.db]at r;exact A ⟨[AO.dI<|Ee t (dl wd (bK M wd) (SM M wd).f) []]++p++I++G++u,r.trans<|by simp only[XM];try rfl⟩
abbrev J2 (M:Md)(wd:Nat->Nm)(place:Int)(name:Nm)(t:Int):Rs:=if Nb M wd (g7 M wd t name)then .e (.s k8) (.i place)else .v<|.s<|cf M<|g7 M wd t name
def Jr (M:Md)(wd:Nat->Nm)(place:Int)(name:Nm)(t:Int):Rs:=
 if t=-2 then .e (.s Pf) (.i place)else
 if t=-1 then .e (.s Hd) (.i place)else
 if(SM M wd).b.getD t.toNat []=b9 then .e (.s b9) (.i place)else
 if fS name=false then .e (.s Gf) (.i place)else J2 M wd place name t
def Wm (f:sb M wd)(z:KJ M<|d+2)(w:Wd n H W)(s:jv wd (bK M wd) W<|SM M wd)(j:Al n0 H vs<|gS (HA M wd) 0)(k:H[a]?=some (.l vs))(q:vs.length<=100000)
  (m:fS name=true->name∈cK/\∀t,sh (cf M<|g7 M wd t name)=true) (y:-2<=t) (h1:t<(SM M wd).b.length):
  ∃x,dw (XU (ae<|d+2) a4 (y0 (.s<|cf M wd) (.i place) (.s name) (.r a) (.r n) (.i t) o) H<|bo.body.drop 4)=some (Jr M wd place name t,H++x):=by
 refine cps λC u=>?_;have E:∀{v:Rs},Jr M wd place name t=v->some (v,H)=some (Jr M wd place name t,H++[]):=λe=>by rw[e,Yu]
 refine u ?_;rw[WM];by_cases c:t=-2
 ·exact⟨[],by rw[Xr c];exact E<|Xr c⟩
 rw[Xq c,Ul];by_cases b:t=-1
 ·exact⟨[],by rw[Xr b];exact E<|(Xq c).trans<|Xr b⟩
 rw[Xq b,Tm w.f<|uP (by rw[w.g,s.g]) (by lia) h1<|s.g▸w.e];by_cases g:(SM M wd).b.getD t.toNat []=b9
 ·exact⟨[],by rw[Xr g];exact E<|(Xq c).trans<|(Xq b).trans<|Xr g⟩
 rw[Xq g,TA WI];by_cases h:fS name=false
 ·exact⟨[],by rw[Xr h];exact E<|(Xq c).trans<|(Xq b).trans<|(Xq g).trans<|Xr h⟩
 rw[Xq h];refine XE (λl p=>Xs (Wx (place:=place) (t:=t) (o:=o) f z w s j k q l p) λx e=>⟨x,?_⟩)<|m<|Bool.of_not_eq_false h;rw[e];refine XR ?_<|Xy (λr=>some (r,H++x)) ((Xq c).trans ((Xq b).trans<|(Xq g).trans<|Xq h):Jr M wd place name t=J2 M wd place name t).symm;by_cases i:Nb M wd<|g7 M wd t name
 ·rw[Xr i,J2,Xr i];rfl
 ·rw[Xq i,J2,Xq i];rfl
def VK (f:sb M wd)(z:KJ M d)(i:∀x∈(SM M wd).f,-1<=x.2/\x.2<(SM M wd).b.length)
  (c:fS name=true->name∈cK/\∀t,sh (cf M<|g7 M wd t name)=true) (H:Hp):
  ∃x,ae (d+1) 48 [.s<|cf M wd,.i place,.s name] H=some (tc M wd place name,H++x):=by
 refine cps λC k=>xX f z H λy x n W vs q j m r v w s=>?_;obtain⟨d,rfl⟩:∃e,d=e+2:=⟨d-2,by have:=z.b;exact(YI<|by exact ba 0x109b21046d7806d7e9ac6065b tq this).symm⟩;refine Xs (UH (cl:=ae<|d+2) (v0:=.s<|cf M wd) (pl:=place) (v2:=.s name) (it:=.r H.length) w) λo l=>?_;rw[s.o]at l;have R:-2<=lE (dl wd (bK M wd) (SM M wd).f) place/\lE (dl wd (bK M wd) (SM M wd).f) place<(SM M wd).b.length:=by
  rcases yi (dl wd (bK M wd) (SM M wd).f) place (-2)with e|⟨o,h,e⟩
  ·unfold lE;rw[e];exact⟨Int.le_refl _,Za (by decide)<|YG _⟩
  ·refine ag (XN.1 h) λp g b=>?_;clear h;subst b
   have:=i p g;unfold lE;rw[<- e];exact⟨Yi (by decide) this.1,this.2⟩
 refine Xs (Wm (place:=place) (o:=o) f z w s (m.app x) (fk j) r c R.1 R.2) λu e=>k ⟨y++x++u,?_⟩;rw[aU (f:=bo) rfl rfl];refine(Xy dw<|W1 q v l).trans<|e.trans ?_;simp only[XM];try rfl
end
structure IV(wd:Nat->Nm)(S:PS)(N:List Nm):Prop where
 len:N.length=S.b.length
 sc:∀s∈S.a,∀p∈s,0<=p.2/\N[p.2.toNat]?=some p.1
 fd:∀x∈S.f,x.2=-1\/(0<=x.2/\N[x.2.toNat]?=some (wd x.1))
theorem xt:∀{s:Sc},gQ n s=some v->(n,v)∈s
 |(a,u)::s,h=>by
  simp[rH]at h;by_cases e:a=n
  ·rw[Xr e]at h;cases h;subst e;exact .head _
  ·rw[Xq e]at h;exact .tail _<|xt h
theorem yj:∀{s:Sc},p∈putN n v s->p=(n,v)\/p∈s
 | [],h=>by simp[wR]at h;exact .inl h
 |(a,u)::s,h=>by
  simp[rJ]at h;by_cases e:a=n
  ·rw[Xr e]at h
   rcases XD.1 h with z|z
   ·subst e;exact .inl z
   ·exact .inr<|.tail _ z
  ·rw[Xq e]at h
   rcases XD.1 h with z|z
   ·exact .inr<|z▸.head _
   ·rcases yj z with y|y
    ·exact .inl y
    ·exact .inr<|.tail _ y
theorem sA:∀(a),(cu nm (a++[YO])=-2\/cu nm (a++[YO])=-1)\/∃s∈a,(nm,cu nm<|a++[YO])∈s
 | []=>by
  refine .inl ?_;simp[pn,fq,YO,Bg,rH];split
  ·rename_i v h
   split at h
   ·cases h;exact .inr rfl
   ·split at h
    ·cases h;exact .inr rfl
    ·exact cE h nt
  ·exact .inl rfl
 |s::a=>by
  simp only[bE,fq];cases e:gQ nm s with
  |some v=>exact .inr ⟨s,.head _,xt e⟩
  |none=>
   rcases sA a with z|⟨q,b,z⟩
   ·exact .inl z
   ·exact .inr ⟨q,.tail _ b,z⟩
section
def IV.seek (h:IV w S N)(i):max (S.seek<|w i) (-1)=-1\/(0<=max (S.seek<|w i) (-1)/\N[(max (S.seek<|w i)<|-1).toNat]?=some (w i)):=by
 rcases sA (nm:=w i) S.a with(e|e)|⟨s,f,e⟩
 ·have c:S.seek (w i)=-2:=e
  refine aa c ?_;exact .inl rfl
 ·have c:S.seek (w i)=-1:=e
  refine aa c ?_;exact .inl rfl
 ·refine XE (λa b=>?_)<|h.sc s f _ e
  have d:0<=S.seek (w i):=a;refine aa (Int.max_eq_left (Yi (by decide) d):max (S.seek<|w i) (-1)=S.seek (w i)) ?_;exact .inr ⟨a,b⟩
def IV.add (h:IV w S N)(b:v=-1\/(0<=v/\N[v.toNat]?=some (w i))):IV w (S.add i v) N:=
 ⟨h.len,h.sc,λx a=>by
  rcases YH.1 a with z|z
  ·exact h.fd x z
  ·simp at z;clear a;subst z;exact b⟩
def IV.res (h:IV w S N)(b:List Nat):∀(F),(∀x∈F,x.2=-1\/(0<=x.2/\N[x.2.toNat]?=some (w x.1)))->∀x∈b.foldl (S.Yq w) F,x.2=-1\/(0<=x.2/\N[x.2.toNat]?=some (w x.1)):=by
 induction b with
 |nil=>intro F a;exact a
 |cons j b i=>
  intro F a;refine aa foldl_cons<|i _ λx c=>?_;rcases List.mem_or_eq_of_mem_set c with z|z
  ·exact a x z
  ·clear c;subst z;exact h.seek _
def IV.snoc (h:IV w S N)(x):(∀s∈S.a,∀p∈s,0<=p.2/\(N++[x])[p.2.toNat]?=some p.1)/\(∀y∈S.f,y.2=-1\/(0<=y.2/\(N++[x])[y.2.toNat]?=some (w y.1))):=by
 have a:∀(k) (z),N[k]?=some z->(N++[x])[k]?=some z:=λk z e=>by have:k<N.length:=re e;refine aa (Yg this) ?_;exact e
 refine⟨λs c p b=>?_,λy d=>?_⟩
 ·have:=h.sc s c p b;exact⟨this.1,a _ _ this.2⟩
 ·rcases h.fd y d with z|z
  ·exact .inl z
  ·exact .inr ⟨z.1,a _ _ z.2⟩
theorem IV.step(h:IV g S N)(C:∀i j,e≠.f i j):∃N',IV g (S.step g e) N':=by
 cases e with
 |u i=>exact⟨N,h.add<|h.seek i⟩
 |w i=>
  simp only[PS.step];split
  ·refine⟨N,h.len,h.sc,λx n=>?_⟩
   rcases YH.1 n with z|z
   ·exact h.fd x z
   ·simp at z;clear n;subst z;exact .inl rfl
  ·exact⟨N,h.add<|h.seek i⟩
 |d i k=>
  simp only[PS.step];split
  ·rename_i s D v
   refine XE (λa b=>?_)<|h.snoc<|g i;have A:(N++[g i])[((S.b.length:Int)).toNat]?=some (g i):=by rw[Y6,<- h.len];simp
   have m:∀x∈S.f++[(i,(S.b.length:Int))],x.2=-1\/(0<=x.2/\(N++[g i])[x.2.toNat]?=some (g x.1)):=λx n=>by
    rcases YH.1 n with z|z
    ·exact b x z
    ·simp at z;clear n;subst z;exact .inr ⟨by simp,A⟩
   split
   ·exact⟨N++[g i],by simp[h.len],a,m⟩
   ·refine⟨N++[g i],by simp[h.len],λt B p l=>?_,m⟩
    rcases XD.1 B with z|z
    ·clear B;subst z
     rcases yj l with y|y
     ·clear l;subst y;exact⟨by simp,A⟩
     ·exact a s (by refine aa v ?_;exact .head _) p y
    ·exact a t (v▸.tail _ z) p l
  ·exact⟨N,h⟩
 |r=>exact⟨N,h.len,h.sc,h.res S.l S.f h.fd⟩
 |o=>exact⟨N,h.len,λs q p l=>by
   rcases XD.1 q with z|z
   ·clear q;subst z;cases l
   ·exact h.sc s z p l,h.fd⟩
 |c=>exact⟨N,h.len,λs q p l=>h.sc s (List.mem_of_mem_tail q) p l,h.fd⟩
 |f i j=>exact Xv rfl (C i j)
end
noncomputable def mF:List Ev->Bool
 | []=>true
 | .f _ _::_=>false
 |_::r=>mF r
theorem jW:mF []=true:=rfl
theorem j7{i j t}:mF (Ev.f i j::t)=false:=rfl
theorem jO{i r}:mF (.u i::r)=mF r:=rfl
theorem jR{i r}:mF (.w i::r)=mF r:=rfl
theorem jU{i k r}:mF (.d i k::r)=mF r:=rfl
theorem jH{r}:mF (.r::r)=mF r:=rfl
theorem jE{r}:mF (.o::r)=mF r:=rfl
theorem jM{r}:mF (.c::r)=mF r:=rfl
@[simp]theorem fi(a b):mF (a++b)=(mF a&&mF b):=by
 induction a with
 |nil=>exact rfl
 |cons e r i=>cases e<;>first| exact i| exact rfl| exact(Xy (_&&·) i).trans (Bool.and_assoc ..).symm
def Qr (v)(i):mF (kH v i)=true:=by cases v<;>rfl
theorem Sy:∀(K) (i),mF (nh K i)=true
 | .n x,i=>rfl
 | .r K,i=>by simp only[fJ,fB,fH,d8,e6,fi,Sy K,jW,j7,jO,jR,jU,jH,jE,jM];rfl
 | .p x,i=>rfl
 | .a v K,i=>by simp only[fJ,fB,fH,d8,e6,fi,Sy K,Qr];rfl
 | .c x,i=>rfl
def Wf (c:Option<|Option<|Nm×Vl)(i):mF (uu c i)=true:=by
 match c with
 |none=>rfl
 |some none=>rfl
 |some (some (x,v))=>simp only[uu,fi,Qr];rfl
def V9 (c:Option<|Option<|Nm×Kd)(i):mF (zy c i)=true:=by
 match c with
 |none=>rfl
 |some none=>rfl
 |some (some (x,v))=>simp only[nj,ni,jB,fi,Sy,jW,j7,jO,jR,jU,jH,jE,jM];rfl
def VJ (c:Option<|Option<|Nm×Kd)(i):mF (Bi c i)=true:=by
 match c with
 |none=>rfl
 |some none=>rfl
 |some (some (x,v))=>simp only[nq,nU,lx,fi,Sy,jW,j7,jO,jR,jU,jH,jE,jM];rfl
def Sh (D)(i):mF (cM D i)=true:=by simp only[cM,fi,Wf,V9,VJ];rfl
def Vv (s)(i):mF (rk s i)=true:=by cases s<;>rfl
def Vy (v a)(i):mF (qd v a i)=true:=by simp only[qd,fi,Qr,jW,j7,jO,jR,jU,jH,jE,jM];rfl
def U8 (s)(i):mF (g9 s i)=true:=by
 match s with
 |none=>rfl
 |some (true,_)=>rfl
 |some (false,_)=>rfl
def Xb (p)(i):mF (rx p i)=true:=by simp only[rx,fi,bE,jW,j7,jO,jR,jU,jH,jE,jM,Vv,Sh,Vy];rfl
section
theorem IV.run:∀{S:PS}{N:List Nm},IV wd S N->mF es=true->∃N',IV wd (S.run wd es) N':=by
 induction es with
 |nil=>intro S N h _;exact⟨N,h⟩
 |cons e r d=>
  intro S N h c;have b:mF r=true:=by cases e<;> simp_all[jW,j7,jO,jR,jU,jH,jE,jM]
  obtain⟨f,a⟩:=h.step (by intro i j z;subst z;exact eH c nt:∀i j,e≠.f i j);rw[eG];exact d a b
def Ag (w:Nat->Nm)(A:List IL)(i:Nat):Prop:=∀(j:Nat) (s:Nm),(lS A)[j]?=some s->w (i+j)=s
def Ag.l (h:Ag w (A++B) i):Ag w A i:=λj s e=>h j s (by rw[wn,Yg<|re e];exact e)
def Ag.r (h:Ag w (A++B) i):Ag w B<|i+nI A:=λj s e=>by have:=h (nI A+j) s (by rw[wn,YY<|by rw[rr];exact aI 0x103012 tq,rr];simpa using e);refine dG this ?_;congr 1;exact ba 0x82c0304103194 tq
def Ja (h:IV wd S N)(k:PW S)(l:∀x∈S.f.map (·.1),x<i)(m:S.l=[])(j:wd (i+1+nI (cr p.p)+nI (aR p.d)+nB p.v1 p.v2)=wd i):∃N',IV wd (S.run wd<|jw p i) N':=by
 refine Xs (h.run<|Xb p i) λb h1=>?_;have g:i∈(S.run wd<|rx p i).f.map (·.1):=by refine XE (λd e=>?_) (jF (wd:=wd) (e:=.d i a9) k (by simp)<|by simp);refine XE (λa c=>?_)<|lG (wd:=wd) (⟨by simp[PS.step],d.lt⟩:PW<|(S.step wd<|.d i a9).step wd .o) (by simp only[cC,SB,Mv,Sd];rfl:cP (rk p.p (i+1)++cM p.d (i+1+nI (cr p.p))++qd p.v1 p.v2 (i+1+nI (cr p.p)+nI (aR p.d)))=true);refine aa (rfl:S.run wd (rx p i)=((S.step wd<|.d i a9).step wd .o).run wd (rk p.p (i+1)++cM p.d (i+1+nI (cr p.p))++qd p.v1 p.v2 (i+1+nI (cr p.p)+nI (aR p.d))))<|aa c ?_;have:((S.step wd<|.d i a9).step wd .o).f.map (·.1)=S.f.map (·.1)++aw [.d i a9]:=e;refine aa this ?_;simp[cg,b7,cp,b5,b6,cn,cb,ck]
 have f:S.run wd (jw p i)=((S.run wd<|rx p i).step wd<|.f (i+1+nI (cr p.p)+nI (aR p.d)+nB p.v1 p.v2) i).step wd .c:=by have:jw p i=rx p i++[.f (i+1+nI (cr p.p)+nI (aR p.d)+nB p.v1 p.v2) i,.c]:=rfl;rw[this,ax];rfl
 exact aa f ((h1.add (by refine aa j ?_;exact(h1.fd _<|iV g)):IV wd ((S.run wd<|rx p i).step wd<|.f (i+1+nI (cr p.p)+nI (aR p.d)+nB p.v1 p.v2) i) b).step<|by simp)
def FR (h:Ag w (uE p) i):w i=p.nm/\w (i+1+nI (cr p.p)+nI (aR p.d)+nB p.v1 p.v2)=p.nm:=by
 refine⟨?_,?_⟩
 ·have:=h.l.l.l.l.l 0 p.nm rfl
  simpa using this
 ·have:=h.r 0 p.nm rfl
  rw[ah,ah,ah,ah,(rfl:nI [g1,wW eg,g1,.n p.nm]=1),(rfl:nI [sg 59]=0),LX]at this;refine dG this ?_;congr 1;exact ow 0x1a3101a10b58c6300c60c410b40c63194 tq
def WC:IV w YB []:=⟨rfl,λs h p a=>by(simp[YB]at h;subst h;cases a),λx b=>by cases b⟩
def yB (h:Ag w (aP M) 0):Ag w (bj M.i) 0/\Ag w (aR M.d) (nI<|bj M.i)/\Ag w (fR M.p) (nI (bj M.i)+nI (aR M.d)):=by
 have n1:nI oy=0:=rfl;refine⟨?_,?_,?_⟩
 ·simpa [n1]using h.l.l.l.l.l.r
 ·simpa [n1]using h.l.l.l.l.r
 ·simpa [n1]using h.l.l.l.r
def HG (h:Ag wd (aP M) 0):∃N,IV wd (SM M wd) N:=by
 refine bX (yB h) λr gd g=>bX (lm (wd:=wd) M) λa b c=>Xs (WC.run (wd:=wd)<|U8 M.i 0) λo m=>Xs (m.run<|Sh M.d<|nI<|bj M.i) λf d=>?_;have i:∃N,IV wd (((YB.run wd<|g9 M.i 0).run wd<|cM M.d<|nI<|bj M.i).run wd<|qV M.p<|nI (bj M.i)+nI (aR M.d)) N:=by
  match hp:M.p with
  |none=>exact⟨f,d⟩
  |some p=>rw[hp]at g;exact XE (λk l=>(Ja d a (Bt (wd:=wd) M) c<|l.trans k.symm))<|FR g
 refine Xs i λq i=>Xs (i.run (es:=.u (nI (bj M.i)+nI (aR M.d)+nI (fR M.p))::kH M.v (nI (bj M.i)+nI (aR M.d)+nI (fR M.p)+1))<|by simp only[jW,j7,jO,jR,jU,jH,jE,jM,Qr]) λj n=>⟨j,?_⟩;have e:SM M wd=(((YB.run wd<|g9 M.i 0).run wd<|cM M.d<|nI<|bj M.i).run wd<|qV M.p<|nI (bj M.i)+nI (aR M.d)).run wd (.u (nI (bj M.i)+nI (aR M.d)+nI (fR M.p))::kH M.v (nI (bj M.i)+nI (aR M.d)+nI (fR M.p)+1)):=by simp only[SM,ku,ax,ax,ax]
 refine aa e ?_;exact n
def oQ (h:IV w S N):∀x∈S.f,-1<=x.2/\x.2<S.b.length:=λx b=>by
 rcases h.fd x b with z|⟨a,c⟩
 ·refine aa z ?_;exact⟨Int.le_refl _,Za (by decide)<|YG _⟩
 ·have:=re c
  rw[h.len]at this;exact⟨Yi (by decide) a,(Int.toNat_lt a).mp this⟩
def Je (h:IV w S N)(d:x∈S.f)(f:y∈S.f)(e:x.2=y.2)(a:0<=x.2):w x.1=w y.1:=by
 rcases h.fd x d with z|⟨i,c⟩
 ·exact Xv (z▸a:(0)<=-1) (by decide)
 ·rcases h.fd y f with u|⟨g,b⟩
  ·exact Xv (u▸e▸a:(0)<=-1) (by decide)
  ·rw[e]at c
   rw[c]at b;exact Zd b
noncomputable def dN(w:Nat->Nm):List Ev->List Nm
 | []=>[]
 | .d i _::r=>w i::dN w r
 |_::r=>dN w r
theorem oX{w}:dN w []=[]:=rfl
theorem pe{w i k r}:dN w (Ev.d i k::r)=w i::dN w r:=rfl
theorem om{w i r}:dN w (.u i::r)=dN w r:=rfl
theorem oj{w i r}:dN w (.w i::r)=dN w r:=rfl
theorem oZ{w r}:dN w (.r::r)=dN w r:=rfl
theorem n5{w r}:dN w (.o::r)=dN w r:=rfl
theorem n9{w r}:dN w (.c::r)=dN w r:=rfl
theorem o8{w i j r}:dN w (.f i j::r)=dN w r:=rfl
@[simp]theorem iN(a b):dN w (a++b)=dN w a++dN w b:=by
 induction a with
 |nil=>exact rfl
 |cons e r i=>cases e<;>first| exact i| exact Xy (_::·) i
theorem qE:∀{s:Sc},n∉s.map (·.1)->gQ n s=none
 | [],_=>rfl
 |(a,u)::s,h=>by simp only[af,XD,not_or]at h;have h:=h;simp only[Bg,rH];rw[Xq λe=>h.1 e.symm];exact qE h.2
theorem t4:∀{s:Sc},nm∉s.map (·.1)->(putN nm v s).map (·.1)=s.map (·.1)++[nm]
 | [],_=>rfl
 |(a,u)::s,h=>by simp only[af,XD,not_or]at h;have h:=h;simp only[wR,rJ];rw[Xq λe=>h.1 e.symm];simp[t4 h.2]
def y8 {es:List Ev}:∀{S:PS}{s:Sc}{ss:List Sc},cP es=true->S.a=s::ss->(s.map (·.1)++dN wd es).Nodup->∃g,(S.run wd es).a=g::ss/\g.map (·.1)=s.map (·.1)++dN wd es/\(S.run wd es).t=S.t:=by
 induction es with
 |nil=>intro S s ss _ e _;exact⟨s,e,by simp[oX,pe,om,oj,oZ,n5,n9,o8],rfl⟩
 |cons q r m=>
  intro S s ss t e n;have h:cP r=true:=by cases q<;> simp_all[eC,ew,eq,dW,eD,ei,ey,ez]
  rw[eG];cases q with
  |u i=>exact m (S:=S.step wd<|.u i) h e n
  |w i=>
   have p:(S.step wd<|.w i).a=s::ss/\(S.step wd<|.w i).t=S.t:=by
    simp only[PS.step];split
    ·exact⟨e,rfl⟩
    ·exact⟨e,rfl⟩
   exact aj (m h p.1 n) λg a b c=>⟨g,a,b,c.trans p.2⟩
  |d i k=>
   have x:dN wd (.d i k::r)=wd i::dN wd r:=rfl;rw[x]at n⊢;have l:wd i∉s.map (·.1):=by intro z;rw[YT]at n;exact n.2.2 _ z _ (.head _) rfl
   have p:S.step wd (.d i k)={S with b:=S.b++[k],a:=putN (wd i) S.b.length s::ss,f:=S.f++[(i,(S.b.length:Int))]}:=by simp only[PS.step,e,qE l];rfl
   refine aa p ?_;have v:=t4 (nm:=wd i) (v:=(S.b.length:Int)) l;exact aj (m (S:={S with b:=S.b++[k],a:=putN (wd i) S.b.length s::ss,f:=S.f++[(i,(S.b.length:Int))]}) (s:=putN (wd i) S.b.length s) (ss:=ss) h rfl (by rw[v];simpa using n)) λg a b c=>⟨g,a,by rw[b,v];simp,c⟩
  |r=>exact m (S:=S.step wd .r) h e n
  |o=>exact eH t nt
  |c=>exact eH t nt
  |f i j=>exact m (S:=S.step wd<|.f i j) h e n
noncomputable def Lm:Option (Option<|Nm×Vl)->List Nm
 |some (some (x,_))=>[x]
 |_=>[]
noncomputable def Bl:Option (Option<|Nm×Kd)->List Nm
 |some (some (x,_))=>[x]
 |_=>[]
def zd (D:Dc):List Nm:=Lm D.c++Bl D.t++Bl D.v
noncomputable def Ml:Option (Nm×Nm×Nm)->List Nm
 |none=>[]
 |some (a,b,_)=>[a,b]
noncomputable def NK:Option (Bool×Nm)->List Nm
 |none=>[]
 |some (_,a)=>[a]
noncomputable def NR:Option Pr->List Nm
 |none=>[]
 |some p=>[p.nm]
structure ND(M:Md):Prop where
 out:(NK M.i++zd M.d++NR M.p).Nodup
 i:∀p,M.p=some p->(Ml p.p++zd p.d).Nodup
def dV (v)(i):dN w (kH v i)=[]:=by cases v<;>rfl
theorem dK:∀(K) (i),dN w (nh K i)=[]
 | .n x,i=>rfl
 | .r K,i=>by simp only[fJ,fB,fH,d8,e6,iN,dK K,oX,pe,om,oj,oZ,n5,n9,o8];rfl
 | .p x,i=>rfl
 | .a v K,i=>by simp only[fJ,fB,fH,d8,e6,iN,dK K,dV];rfl
 | .c x,i=>rfl
def dC (h:Ag w (sX c) i):dN w (uu c i)=Lm c:=by
 match c with
 |none=>rfl
 |some none=>rfl
 |some (some (x,v))=>have:=h.r.l.l 0 x rfl;simp only[uu,iN,dV,Lm,dE];refine dG this ?_;rfl
def dT (h:Ag w (vW c) i):dN w (zy c i)=Bl c:=by
 match c with
 |none=>rfl
 |some none=>rfl
 |some (some (x,v))=>have:=h.r.l.l 0 x rfl;simp only[nj,ni,jB,iN,oX,pe,om,oj,oZ,n5,n9,o8,dK,Bl,Yu];refine dG this ?_;rfl
def dR (h:Ag w (AM c) i):dN w (Bi c i)=Bl c:=by
 match c with
 |none=>rfl
 |some none=>rfl
 |some (some (x,v))=>have:=h.r.l.l 0 x rfl;simp only[nq,nU,lx,iN,oX,pe,om,oj,oZ,n5,n9,o8,dK,Bl,dE];refine dG this ?_;rfl
def dD (h:Ag w (aR D) i):dN w (cM D i)=zd D:=by have a:=h.r;rw[ah,<- X7]at a;simp only[cM,iN,zd,dC h.l.l,dT h.l.r,dR a]
def WU (h:Ag w (cr s) i):dN w (rk s i)=Ml s:=by
 match s with
 |none=>rfl
 |some (a,b,x)=>simp only[rk,oX,pe,om,oj,oZ,n5,n9,o8,Ml];refine dG (h 0 a rfl)<|dG (h 1 b rfl) ?_;rfl
def Vn (h:Ag w (bj s) 0):dN w (g9 s 0)=NK s:=by
 match s with
 |none=>rfl
 |some (true,a)=>simp only[qI,qx,pY,oX,pe,om,oj,oZ,n5,n9,o8,NK];exact dG (h 0 a rfl) rfl
 |some (false,a)=>simp only[qI,qx,pY,oX,pe,om,oj,oZ,n5,n9,o8,NK];exact dG (h 0 a rfl) rfl
def IJ {S:PS}{p:Pr}{i:Nat}{s:Sc}{ss:List Sc}(h:Ag wd (uE p) i)(e:S.a=s::ss)(d:p.nm∉s.map (·.1))(n:(Ml p.p++zd p.d).Nodup):
  ∃g,(S.run wd<|jw p i).a=g::ss/\g.map (·.1)=s.map (·.1)++[p.nm]/\(S.run wd<|jw p i).t=S.t:=by
 have n1:nI [g1,wW eg,g1,.n p.nm]=1:=rfl;refine XE (λk o=>?_)<|FR h;have m:cP (rk p.p (i+1)++cM p.d (i+1+nI (cr p.p))++qd p.v1 p.v2 (i+1+nI (cr p.p)+nI (aR p.d)))=true:=by simp only[cC,SB,Mv,Sd];rfl
 rw[<- k]at d⊢;have j:S.step wd (.d i a9)={S with b:=S.b++[a9],a:=putN (wd i) S.b.length s::ss,f:=S.f++[(i,(S.b.length:Int))]}:=by simp only[PS.step,e,qE d];rfl
 have gd:Ag wd (aR p.d)<|i+1+nI (cr p.p):=by have:=h.l.l.r;rw[ah,ah,n1,(rfl:nI [sg 59]=0)]at this;refine aa (show i+1+nI (cr p.p)=i+(1+nI (cr p.p)+0)by exact aI 0x34216b1806042d03194 tq) ?_;exact this
 refine aj (y8 (wd:=wd) (S:=(S.step wd<|.d i a9).step wd .o) (s:=[]) (ss:=putN (wd i) S.b.length s::ss) m (by refine aa j ?_;rfl)<|by simpa only[iN,WU (by simpa [n1]using h.l.l.l.l.r:Ag wd (cr p.p)<|i+1),dD gd,(by simp only[qd,iN,oX,pe,om,oj,oZ,n5,n9,o8,dV,Yu]:dN wd (qd p.v1 p.v2<|i+1+nI (cr p.p)+nI (aR p.d))=[]),map_nil,dE,Yu]using n) λq a b c=>?_;have l:S.run wd (jw p i)=((((S.step wd<|.d i a9).step wd .o).run wd<|rk p.p (i+1)++cM p.d (i+1+nI (cr p.p))++qd p.v1 p.v2 (i+1+nI (cr p.p)+nI (aR p.d))).step wd<|.f (i+1+nI (cr p.p)+nI (aR p.d)+nB p.v1 p.v2) i).step wd .c:=by have:jw p i=rx p i++[.f (i+1+nI (cr p.p)+nI (aR p.d)+nB p.v1 p.v2) i,.c]:=rfl;rw[this,ax];rfl
 refine aa l ?_;generalize((S.step wd<|.d i a9).step wd .o).run wd (rk p.p (i+1)++cM p.d (i+1+nI (cr p.p))++qd p.v1 p.v2 (i+1+nI (cr p.p)+nI (aR p.d)))=T at a c;refine⟨putN (wd i) S.b.length s,?_,(t4 (nm:=wd i) (v:=(S.b.length:Int)) d),?_⟩
 ·show T.a.tail=_
  refine aa a ?_;rfl
 ·show T.t=_
  refine aa c<|aa j ?_;rfl
def PR (h:Ag wd (aP M) 0)(n:ND M):(SM M wd).t=0:=by
 refine bX (yB h) λj gd k=>?_;have o:=n.out;rw[YT]at o;refine aj (y8 (wd:=wd) (S:=YB) (s:=[]) (ss:=[]) (es:=g9 M.i 0++cM M.d (nI<|bj M.i)) (by simp only[cC,Tf,Mv];rfl) rfl (by simpa only[iN,Vn j,dD gd,map_nil,dE]using o.1)) λm f b c=>?_;simp only[iN,Vn j,dD gd,map_nil,dE]at b;have b:=b;have e:SM M wd=(((YB.run wd<|g9 M.i 0++cM M.d (nI<|bj M.i))).run wd<|qV M.p<|nI (bj M.i)+nI (aR M.d)).run wd (.u (nI (bj M.i)+nI (aR M.d)+nI (fR M.p))::kH M.v (nI (bj M.i)+nI (aR M.d)+nI (fR M.p)+1)):=by simp only[SM,ku,ax,ax,ax]
 refine aa e ?_;generalize t:YB.run wd (g9 M.i 0++cM M.d (nI<|bj M.i))=T at f c;have l:∃s,(T.run wd<|qV M.p<|nI (bj M.i)+nI (aR M.d)).a=s::[]/\(T.run wd<|qV M.p<|nI (bj M.i)+nI (aR M.d)).t=0/\s.map (·.1)=NK M.i++zd M.d++NR M.p:=by
  match hp:M.p with
  |none=>exact⟨m,f,c,by refine aa b ?_;simp[NR]⟩
  |some p=>
   rw[hp]at k;obtain⟨s,g,i,a⟩:=IJ (S:=T) k f (by refine aa b ?_;intro z;exact o.2.2 _ z p.nm (hp▸.head _) rfl)<|n.i p hp
   exact⟨s,g,a.trans c,by refine aa i<|aa b ?_;rfl⟩
 refine aj l λs g a i=>aj (y8 (wd:=wd) (es:=.u (nI (bj M.i)+nI (aR M.d)+nI (fR M.p))::kH M.v (nI (bj M.i)+nI (aR M.d)+nI (fR M.p)+1)) (by simp only[eC,ew,eq,dW,eD,ei,ey,ez,Nf]) g<|by refine aa i ?_;simpa only[oX,pe,om,oj,oZ,n5,n9,o8,dV,Yu]using n.out) λu q r d=>?_;simp only[d,a]
end
noncomputable def cZ(F:List<|Nat×Int):List<|Int×V:=F.map λx=>((x.1:Int),V.i x.2)
noncomputable def A4:Nm:=[117,115,101]
noncomputable def DG:Nm:=[102,111,114,119,97,114,100]
noncomputable def D4:Nm:=[114,101,115,111,108,118,101]
noncomputable def KW:Nm:=[111,112,101,110]
noncomputable def ID:Nm:=[99,108,111,115,101]
noncomputable def Qu:Nm:=[101,110,100]
def QO:List Nm:=[wA,b9,sK,uR,AE,a9,vM]
def lw:Ev->V
 | .u i=>.t [.s A4,.i i]
 | .w i=>.t [.s DG,.i i]
 | .d i k=>.t [.s k,.i i]
 | .r=>.t [.s D4,.i 0]
 | .o=>.t [.s KW,.i 0]
 | .c=>.t [.s ID,.i 0]
 | .f i j=>.t [.s Qu,.t [.i i,.i j]]
noncomputable def de(S:PS):List V:=S.l.map λj=>V.i ((S.f.getD j (0,0)).1:Nat)
def qH (n:Nat)(H:Hp):List Nat->List Sc->Prop:=A2 λr s=>n<=r/\H[r]?=some (.dS<|cx s)/\s.length<=900
def qH.len {n:Nat}{H:Hp}{s:List Nat}{a:List Sc}:qH n H s a->s.length=a.length:=A2.len
def qH.app (x:Hp){n:Nat}{H:Hp}{s:List Nat}{ss:List Sc}:qH n H s ss->qH n (H++x) s ss:=A2.mono λa=>⟨a.1,fk a.2.1,a.2.2⟩
def qH.set {n a:Nat}{H:Hp}{o e:AO}(d:H[a]?=some o)(h:∀s,o≠.dS s){c:List Nat}{ss:List Sc}:qH n H c ss->qH n (H.set a e) c ss:=
 A2.mono λb=>⟨b.1,aB b.2.1<|by intro z;subst z;have:=b.2.1;rw[d]at this;cases this;exact h _ rfl,b.2.2⟩
def qH.aev {n a:Nat}{H:Hp}{o:AO}{s:List Nat}{ss:List Sc}(c:a∉s)(h:qH n H s ss):qH n (H.set a o) s ss:=
 A2.ind (M:=λs ss=>a∉s->qH n (H.set a o) s ss) (λ_=>trivial) (λb i c=>XE (λh1 d=>⟨⟨b.1,aB b.2.1 h1,b.2.2⟩,i d⟩)<|not_or.mp<|mt XD.mpr c) h c
def qH.lt {n:Nat}{H:Hp}{s:List Nat}{a:List Sc}:qH n H s a->∀r∈s,r<H.length:=A2.mem λb=>xd b.2.1
noncomputable def Q8:List MS:=[.i (.q .i (.v 1)<|.t (.v 0)<|.v 2) [.r<|.t (.t (.v 0)<|.v 2)<|.v 1] []]
def vz (h:i<n)(a:n<=1000000):nW n (i:Int)=some i:=by unfold nW;refine aa (Xr<|nJ<|by exact aI 0x3d090220903d0902210cb610067b tq h a)<|aa (Xr<|YG _)<|aa (Xr<|h) ?_;simp
theorem BF{cl:Cl}{n b:Nat}{H:Hp}{nm:Nm}{L:List V}(hL:H[b]?=some (.l L))(p:L.length<=900):∀(a:List Nat) (c:List Sc) (o:Option V) (T:List V),qH n H a c->L=a.reverse.map V.r++T->
  (∃u,aK (λv l d=>XU cl a4 (l.set 2<|some v) d Q8) (λ_=>true) (bS ((a.length:Int)-1) a.length<|-1) [xR b,xS nm,o] H=some (.n [xR b,xS nm,u],H)/\cu nm c=-2)\/
  aK (λv l d=>XU cl a4 (l.set 2<|some v) d Q8) (λ_=>true) (bS ((a.length:Int)-1) a.length<|-1) [xR b,xS nm,o] H=some (.r<|.i<|cu nm c,H)
 | [],[],o,T,_,_=>.inl ⟨o,bp rfl,rfl⟩
 | [],s::c,o,T,h,_=>h.elim
 |r::a,[],o,T,h,_=>h.elim
 |r::a,s::c,o,T,h,e=>by
  have f:L=a.reverse.map V.r++(V.r r::T):=by refine aa e ?_;simp
  have j:getItem H (.r b) (.i (a.length:Int))=xR r:=by simp[zL hL];refine aa (vz (by refine aa f ?_;simp:a.length<L.length)<|Xz ‹_›<|nl rfl) ?_;simp;refine aa f<|aa (YY<|by simp) ?_;simp
  have g:=ld nm s;have i:=h.1.2.1;refine aa (by simp:((r::a).length:Int)-1=(a.length:Int)) ?_;cases q:gQ nm s with
  |some v=>
   rw[q]at g;refine .inr<|lO rfl ?_;have m:fW H (.s nm) (.r r)=some true:=by simp[mm i,g]
   have k:getItem H (.r r) (.s nm)=xI v:=by simp[P6 i,g]
   exact XR (uf λt=>t _ j _ m _ j _ k) (by simp[fq,q])
  |none=>
   rw[q]at g;have w:(λ(v:V) (l:Lo) (d:Hp)=>XU cl a4 (l.set 2<|some v) d Q8) (.i (a.length:Int)) [xR b,xS nm,o] H=some (.n [xR b,xS nm,xI (a.length:Int)],H):=by simp[Q8,j,(by simp[mm i,g]:fW H (.s nm) (.r r)=some false)]
   refine aa (aS rfl w) ?_;simp only[pn,fq,q];exact dG Int.sub_eq_add_neg<|BF hL p a c _ _ h.2 f
def TO {n a d:Nat}{H:Hp}{nm:Nm}{s:List Nat}{f:List Sc}(hL:H[a]?=some (.l<|s.reverse.map V.r))(c:s.length<=900)(h:qH n H s f):ae (d+1) 60 [.r a,.s nm] H=some (.v<|.i<|cu nm f,H):=by
 have b:ej H (.r a)=some (s.length:Int):=by have:=bz hL (by simp only[X6,ZO];exact nM c);simpa using this
 have l:bx (ae d) a4 [xR a,xS nm,none] H iF=aK (λv k i=>XU (ae d) a4 (k.set 2<|some v) i Q8) (λ_=>true) (bS ((s.length:Int)-1) s.length<|-1) [xR a,xS nm,none] H:=by
  unfold iF;refine yJ.trans<|(bI (hE λj=>j _ b _ rfl:ai (ae d) [xR a,xS nm,none] (.o .s (.n<|.v 0)<|.i 1) H=some (.i<|(s.length:Int)-1,H))).trans<|(Xr<|BV.mpr ⟨Int.sub_le_sub_right (YG _) 1,Yi (Int.sub_le_self _<|by decide)<|Ys.mpr<|Xz c<|nl rfl⟩).trans ?_;have:((s.length:Int)-1+1).toNat=s.length:=by rw[Int.sub_add_cancel];rfl
  refine aa this ?_;rfl
 refine aa (aU (f:=nK) rfl rfl) ?_;rcases BF (cl:=ae d) (nm:=nm) hL (by simpa using c) s f none [] h ((Yu _).symm)with⟨o,g,e⟩|g
 ·rw[g]at l
  simp[nK,l,e]
 ·rw[g]at l
  exact jJ λj=>j _ _ l
structure RR(n:Nat)(H:Hp)(S:PS)(lL c:Nat)(sr:List Nat):Prop where
 d:H[n+2]?=some (.l<|sr.reverse.map V.r)
 u:qH n H sr (S.a++[YO])
 hm:H[n+3]?=some (.dI<|cZ S.f)
 g:H[n+4]?=some (.l<|S.b.map V.s)
 l:H[lL]?=some (.l<|de S)
 a:n+5<=lL
 sn:sr.Nodup
 F:S.f.length<=c
 G:S.b.length<=c
 E:S.l.length<=c
 B:S.a.length<=c+1
 A:∀s∈S.a,s.length<=c
 m:c<=800
def RR.len {n:Nat}{H:Hp}{S:PS}{b c:Nat}{s:List Nat}(r:RR n H S b c s):n+5<H.length:=by have:=xd r.l;have:=r.a;exact ba 0x4ad032611067b115a06065b tq ‹_› ‹_›
def RR.srl {n:Nat}{H:Hp}{S:PS}{b c:Nat}{s:List Nat}(r:RR n H S b c s):s.length<=900:=by have:=r.u.len;have:=r.B;have:=r.m;simp only[XB,aM,bA]at *;exact ba 0x708e04b2070832d85a260432d85a06b02c0069b tq ‹_› ‹_› ‹_›
structure Kp(n:Nat)(H H':Hp):Prop where
 lo:∀i,i<n->H'[i]?=H[i]?
def Kp.refl (n)(H):Kp n H H:=⟨λ_ _=>rfl⟩
def Kp.trans (a:Kp n H c)(b:Kp n c H3):Kp n H H3:=⟨λi h=>(b.lo i h).trans<|a.lo i h⟩
def Kp.set (o)(h:n<=a):Kp n H<|H.set a o:=⟨λi b=>YM<|XG<|XO ‹_› ‹_›⟩
def Kp.app (x)(h:n<=H.length):Kp n H<|H++x:=⟨λi a=>aa (Yg<|XO ‹_› ‹_›) rfl⟩
def ji (x:Nat×Int)(h:∀j∈S.l,j<S.f.length):(S.l.map λj=>V.i (((S.f++[x]).getD j (0,0)).1:Nat))=de S:=by unfold de;refine YA λj a=>?_;simp[Yr,Yg<|h j a]
theorem yL{i:Nat}{v:Int}:∀{F:List<|Nat×Int},i∉F.map (·.1)->kM (i:Int) (.i v) (cZ F)=cZ (F++[(i,v)])
 | [],_=>rfl
 |(a,u)::F,h=>by simp only[af,XD,not_or]at h;have h:=h;simp only[cZ,af,bE,jz,h0];refine aa (Xq<|by have:=h.1;exact mt (Int.ofNat_inj).mp<|X1 h.1) ?_;have:=yL (v:=v) h.2;simp only[cZ]at this;exact aa this rfl
theorem k9{j:Nat}:∀{F:List<|Nat×Int},j∈F.map (·.1)->eJ (j:Int) (cZ F)=xI (cH j F)
 |(a,u)::F,h=>by
  simp only[af,XD]at h;simp only[cZ,af,hU,iu,jA,jG];by_cases e:a=j
  ·subst e;simp
  ·refine aa (Xq<|mt (Int.ofNat_inj).mp e)<|aa (Xq e) ?_
   rcases h with h|h
   ·exact Xv h.symm e
   ·exact k9 h
theorem yH{v:Int}:∀{F:List<|Nat×Int} (j:Nat),(F.map (·.1)).Nodup->j<F.length->kM ((F.getD j (0,0)).1:Nat) (.i v) (cZ F)=cZ (F.set j ((F.getD j (0,0)).1,v))
 | [],j,_,h=>by simp at h
 |(a,u)::F,0,b,h=>by simp[cZ,jz,h0]
 |(a,u)::F,j+1,b,h=>by
  simp only[af,Yc]at b;have c:j<F.length:=by simpa using h
  have n:a≠(F.getD j (0,0)).1:=by intro z;refine b.1<|aa z<|aa (Yr)<|aa (XQ c) ?_;exact Y4 (f:=(·.1))<|Zj c
  have i:=yH (v:=v) (F:=F) j b.2 c;have e:((a,u)::F).getD (j+1) (0,0)=F.getD j (0,0):=rfl;refine aa e ?_;simp only[cZ,af,jz,h0,set_cons_succ]at i⊢;exact aa (Xq<|by lia)<|aa i rfl
def rpB:List MS:=[.i (.q .e (.v 7)<|.s [111,112,101,110]) [.a (.v 2)<|.dS [] []] [.i (.q .e (.v 7)<|.s [99,108,111,115,101]) [.x<|.pop<|.v 2] [.i (.q .e (.v 7)<|.s [101,110,100]) [.t (.v 3) (.t (.v 8)<|.i 0)<|.t (.v 3)<|.t (.v 8)<|.i 1] [.i (.q .e (.v 7)<|.s [114,101,115,111,108,118,101]) [dX,.s 5<|.l []] [.i (.q .i (.v 7)<|.p [(.s [117,115,101]),(.s [102,111,114,119,97,114,100])]) [.s 10<|.c 60 [(.v 2),(.t (.v 1)<|.v 8)],.t (.v 3) (.v 8)<|.x (.v 10)<|.i<|-1,.i (.a [(.q .e (.v 7)<|.s [102,111,114,119,97,114,100]),(.q .e (.v 10)<|.i<|-2)]) [.a (.v 5)<|.v 8] []] [.t (.v 3) (.v 8)<|.n<|.v 4,.i (.q .i (.t (.v 1)<|.v 8)<|.t (.v 2)<|.i<|-1) [.v 6 .a<|.i 1] [.t (.t (.v 2)<|.i<|-1) (.t (.v 1)<|.v 8)<|.n<|.v 4],.a (.v 4)<|.v 7]]]]]]
theorem zP:fM=.ZG 7 8 (.v 0) rpB:=rfl
section
variable{wd:Nat->Nm}{n lL c d eL wL:Nat}{H:Hp}{S:PS}{sr:List Nat}
structure qC(n m:Nat)(wd:Nat->Nm)(wL:Nat)(H:Hp):Prop where
 lt:wL<n
 g:∃ws:List Nm,H[wL]?=some (.l<|ws.map V.s)/\ws.length=m/\m<=900/\∀i,i<m->ws.getD i []=wd i
def qC.keep (w:qC n m wd wL H)(k:Kp n H H'):qC n m wd wL H':=by exact ag w.g λe a b=>⟨w.lt,e,(k.lo _ w.lt).trans a,b⟩
def qC.item (w:qC n m wd wL H)(h:i<m):getItem H (.r wL) (.i (i:Int))=xS (wd i):=by refine cps λC k=>Hz w.g λj a b c e=>k ?_;simp only[zL a,a,(vz (n:=(j.map V.s).length) (i:=i) (by simpa [b]using h)<|by simp[b];exact nM c),Zi,cy,ci,mH];have:i<j.length:=yp h b;have f:=e i h;simp[XQ this]at f;simp[XQ this,f]
def pd (F):(cZ F).length=F.length:=by simp[cZ]
def RR.ab6 (r:RR n H S lL c sr)(w:∀j∈S.l,j<S.f.length)(i:Nat)(v:Int)(q:i∉S.f.map (·.1))(e:c<800):
  setItem H (.r<|n+3) (.i (i:Int)) (.i v)=some (H.set (n+3)<|.dI<|cZ<|S.f++[(i,v)])/\RR n (H.set (n+3)<|.dI<|cZ<|S.f++[(i,v)]) (S.add i v) lL (c+1) sr:=by
 have b:=r.F;have k:=r.G;have o:=r.E;have p:=r.B;have f:=r.a;have z:=r.hm;refine⟨?_,aB r.d<|BO,r.u.set z λs h=>Eb h nt,dU z,aB r.g<|Ij,?_,f,r.sn,?_,?_,?_,?_,λs t=>by have:=r.A s t;exact aC this,pQ e⟩
 ·simp only[Ry z]
  exact aa (Xr<|by rw[pd];exact Fz b e)<|aa (yL q) rfl
 ·have:de (S.add i v)=de S:=ji _ w
  refine aa this ?_;exact aB r.l<|zV f
 ·simp only[PS.add,XB,bA];exact jr b
 ·show S.b.length<=_;exact aC k
 ·show S.l.length<=_;exact aC o
 ·show S.a.length<=_;exact aI 0x1685a1630120b42c0065b tq p
variable(wd n eL wL lL c sr)in
def xo (d:Nat)(H:Hp)(S:PS)(e:Ev)(b o:Option V):Prop:=∃a l s f p x y,lw e=.t [x,y]/\
 XU (ae d) a4 [xR eL,xR wL,xR<|n+2,xR<|n+3,xR<|n+4,xR lL,xI S.t,some x,some y,b,o] H rpB=
  some (.n [xR eL,xR wL,xR<|n+2,xR<|n+3,xR<|n+4,xR l,xI (S.step wd e).t,some x,some y,f,p],a)/\
 RR n a (S.step wd e) l (c+1) s/\Kp n H a
def Cj (t):fW H (.s t) (.t [.s [117,115,101],.s [102,111,114,119,97,114,100]])=some (decide (t=A4\/t=DG)):=(da t [A4,DG]).trans (by simp)
def Kf {m i:Nat}{o ZK:Option V}(r:RR n H S lL c sr)(w:qC n m wd wL H)(f:PW S)(a:1<=d)(e:i∉S.f.map (·.1))(h:i<m)(b:c<800):xo wd n lL c eL wL d H S (.u i) o ZK:=by refine lR 1 a rfl λd a=>?_;have g:=w.item h;have q:=TO (d:=d) (nm:=wd i) r.d r.srl r.u;have k:cu (wd i) (S.a++[YO])=S.seek (wd i):=rfl;rw[k]at q;refine XE (λs l=>?_)<|r.ab6 f.lt i (max (S.seek<|wd i)<|-1) e b;exact⟨_,lL,sr,o,xI<|S.seek<|wd i,_,_,rfl,(uf λj=>j _ rfl _ rfl _ rfl _ rfl _ rfl _ g _ _ q _ s _ rfl),l,Kp.set _<|Xx _ _⟩
def J9 {m i:Nat}{x ZK:Option V}(r:RR n H S lL c sr)(w:qC n m wd wL H)(u:PW S)(z:1<=d)(F:i∉S.f.map (·.1))(t:i<m)(y:c<800):xo wd n lL c eL wL d H S (.w i) x ZK:=by
 refine lR 1 z rfl λd z=>?_;have g:=w.item t;have q:=TO (d:=d) (nm:=wd i) r.d r.srl r.u;have G:cu (wd i) (S.a++[YO])=S.seek (wd i):=rfl;rw[G]at q;refine XE (λb a=>?_)<|r.ab6 u.lt i (max (S.seek<|wd i)<|-1) F y;by_cases f:S.seek (wd i)=-2
 ·rw[f]at b a q
  have a:=a;have D:max (-2:Int) (-1)=-1:=rfl;rw[D]at b a;have b:=b;have a:=a;obtain⟨e,j⟩:∃e,e=H.set (n+3) (.dI<|cZ<|S.f++[(i,-1)]):=⟨_,rfl⟩;rw[<- j]at b a;have b:=b;have a:=a;have k:bF e lL (.i (i:Int))=some (e.set lL<|.l<|de S++[.i i]):=by have E:de (S.add i<|-1)=de S:=ji _ u.lt;have:=a.l;rw[E]at this;have p:=r.E;have I:=r.m;simp only[bF,this,bc];exact aa (Xr<|by simp only[de,X6];exact qm p y) rfl
  have l:mB e lL=true:=kB a.l;have o:=r.a;refine⟨e.set lL<|.l<|de S++[.i i],lL,sr,x,xI<|-2,_,_,rfl,?_,?_,(by refine aa j ?_;exact Kp.set _ (Xx _ _):Kp n H e).trans<|Kp.set _<|aI 0x412095a06065b tq o⟩
  ·exact XR (uf λv=>v _ rfl _ rfl _ rfl _ rfl _ rfl _ g _ _ q _ b _ rfl _ rfl l _ k) (by simp[rpB,Cj,A4,DG,g,q,b,PS.step,PS.add,f,l,k])
  have A:=a.F;have B:=a.G;have p:=r.E;have C:=a.B
  ·simp only[PS.step,f,if_true]
   refine⟨aB a.d<|aI 0x4d0b019015a16065b tq o,a.u.set a.l λs h=>Eb h nt,aB a.hm<|aI 0x6d0b019015a16065b tq o,aB a.g<|XG ‹_›,?_,o,a.sn,A,B,?_,C,a.A,a.m⟩
   ·refine aa (dU a.l) ?_
    congr 2;unfold de;simp only[Zq,af,map_nil];congr 1
    ·exact(ji (S:=S) (i,-1) u.lt).symm
    ·simp[Yr]
   ·simp only[XB,aM,bA];exact jr p
 ·refine⟨H.set (n+3)<|.dI<|cZ<|S.f++[(i,max (S.seek<|wd i)<|-1)],lL,sr,x,xI<|S.seek<|wd i,_,_,rfl,?_,?_,Kp.set _<|Xx _ _⟩
  ·exact XR (uf λv=>v _ rfl _ rfl _ rfl _ rfl _ rfl _ g _ _ q _ b _ rfl _ (fv rfl f)) (by simp[rpB,Cj,A4,DG,g,q,AS,b,PS.step,PS.add,f])
  ·simp only[PS.step,f,if_false];exact a
def Jp {i j:Nat}{o ZK:Option V}(r:RR n H S lL c sr)(e:PW S)(a:i∉S.f.map (·.1))(b:j∈S.f.map (·.1))(h:c<800):xo wd n lL c eL wL d H S (.f i j) o ZK:=by obtain⟨s,g⟩:=r.ab6 e.lt i (cH j S.f) a h;have k:nW 2 0=some 0:=rfl;have l:nW 2 1=some 1:=rfl;exact⟨_,lL,sr,o,ZK,_,_,rfl,(uf λf=>f _ rfl _ rfl _ rfl _ (rfl:getItem H (.t [.i (i:Int),.i (j:Int)]) (.i 1)=xI (j:Int)) _ (by simp only[LG r.hm,r.hm,cy,ci,mH];exact k9 b) _ (rfl:getItem H (.t [.i (i:Int),.i (j:Int)]) (.i 0)=xI (i:Int)) _ s),g,Kp.set _<|Xx _ _⟩
def Kr {o ZK:Option V}(r:RR n H S lL c sr)(p:c<800):xo wd n lL c eL wL d H S .o o ZK:=by
 have l:=r.a;have f:=r.len;have i:=r.F;have j:=r.G;have k:=r.E;have m:=r.B;have g:=r.srl;have a:=r.d;have e:mB H (n+2)=true:=kB a;refine⟨(H++[AO.dS []]).set (n+2)<|.l<|(H.length::sr).reverse.map V.r,lL,H.length::sr,o,ZK,_,_,rfl,?_,?_,(Kp.app _<|by exact Ay f).trans<|Kp.set _<|Xx _ _⟩;have b:bF (H++[.dS []]) (n+2) (.r H.length)=some ((H++[AO.dS []]).set (n+2)<|.l<|(H.length::sr).reverse.map V.r):=by have:(H++[AO.dS []])[n+2]?=some (.l<|sr.reverse.map V.r):=fk a;simp only[bF,this,bc];refine aa (Xr<|by simp only[X6,ZO];exact nM g) ?_;simp
 ·have u:([]:List<|List Nat).zip ([]:List V)=[]:=rfl
  exact uf λt=>t _ rfl e _ _ rfl _ b
 ·refine⟨dU<|fk a,?_,aB (fk r.hm)<|vO,aB (fk r.g)<|wb,aB (fk r.l)<|aI 0x2268197095a06065b tq l,l,?_,by show S.f.length<=_;exact aC i,by show S.b.length<=_;exact aC j,by show S.l.length<=_;exact aC k,?_,?_,pQ p⟩
  ·exact⟨⟨Ay f,aB (be _ _)<|aI 0x2268197095a06067b tq f,by simp⟩,(r.u.app _).set (fk a) λs h=>Eb h nt⟩
  ·refine Yc.2 ⟨λh=>?_,r.sn⟩
   have:=r.u.lt _ h;exact wG this
  ·simp only[PS.step,aM];exact Ep m
  ·intro s q
   rcases XD.1 q with z|z
   ·subst z;simp
   ·have:=r.A s z;exact aC this
def IP {o ZK:Option V}(r:RR n H S lL c sr)(u:S.a≠[])(p:c<800):xo wd n lL c eL wL d H S .c o ZK:=by
 have l:=r.a;have g:=r.F;have i:=r.G;have j:=r.E;have k:=r.B;obtain⟨s,ss,f⟩:∃s ss,S.a=s::ss:=by
  cases q:S.a with
  |nil=>exact Xv q u
  |cons s ss=>exact⟨s,ss,rfl⟩
 have e:=r.u;rw[f]at e;cases sr with
 |nil=>exact e.elim
 |cons b sr=>
  refine⟨H.set (n+2)<|.l<|sr.reverse.map V.r,lL,sr,o,ZK,_,_,rfl,?_,?_,Kp.set _<|Xx _ _⟩;have a:vH H (n+2)=some (.r b,H.set (n+2)<|.l<|sr.reverse.map V.r):=by simp only[vH,r.d,(by simp:((b::sr).reverse.map V.r)=sr.reverse.map V.r++[V.r b]),getLast?_concat,dropLast_concat,bc,ci];exact aa (Xr<|by simp only[XB,X6,ZO,aM,bA]at *;exact bB 0x7a120442d0358064b84705a06065b tq r.srl) rfl
  ·exact uf λw=>w _ rfl _ rfl _ _ a
  ·refine⟨dU r.d,?_,aB r.hm<|vO,aB r.g<|wb,aB r.l<|aI 0x2268197095a06065b tq l,l,(Yc.1 r.sn).2,by show S.f.length<=_;exact aC g,by show S.b.length<=_;exact aC i,by show S.l.length<=_;exact aC j,?_,?_,pQ p⟩
   ·have m:(S.step wd .c).a=ss:=by simp only[PS.step,f,tail_cons]
    exact aa m<|qH.set r.d (λs h=>Eb h nt) e.2
   ·simp only[PS.step,List.length_tail];exact Xz (sub_le _ _)<|Zv k
   ·intro t v
    have:=r.A t<|List.mem_of_mem_tail v;exact aC this
end
section
variable{wd:Nat->Nm}{n lL c d eL wL:Nat}{H:Hp}{S:PS}{sr:List Nat}
def HF:∀k∈QO,k≠KW/\k≠ID/\k≠Qu/\k≠D4/\k≠A4/\k≠DG:=by decide
def qH.upd (h:qH n H (r::sr)<|s::e)(b:r∉sr)(a:s'.length<=900):qH n (H.set r<|.dS<|cx s') (r::sr)<|s'::e:=
 ⟨⟨h.1.1,dU h.1.2.1,a⟩,qH.aev b h.2⟩
def EP (r:RR n H S lL c sr)(w:qC n m wd wL H)(Q:PW S)(hi:i∉S.f.map (·.1))(N:i<m)(hk:k∈QO)(x:c<800):xo wd n lL c eL wL d H S (.d i k) o9 ZK:=by
 refine cps λC kC=>rt (HF k hk) λk1 k2 k3 k4 k5 k6=>?_;have l5:=r.a;have b1:=r.F;have I:=r.G;have b3:=r.E;have b4:=r.B;obtain⟨s,ss,v⟩:∃s ss,S.a=s::ss:=by
  cases q:S.a with
  |nil=>exact Xv q Q.ne
  |cons s ss=>exact⟨s,ss,rfl⟩
 have sd:=r.u;rw[v]at sd;refine kC ?_;cases sr with
 |nil=>exact sd.elim
 |cons r0 sr=>
 have sn:=r.sn;have A:ej H (.r<|n+4)=some (S.b.length:Int):=by have:=bz r.g (by simp;exact qm I x);simpa using this
 refine XE (λR b=>?_)<|r.ab6 Q.lt i (S.b.length:Int) hi x;obtain⟨H1,B⟩:∃H1,H1=H.set (n+3) (.dI<|cZ<|S.f++[(i,(S.b.length:Int))]):=⟨_,rfl⟩;rw[<- B]at R b;have R:=R;have G:Kp n H H1:=by refine aa B ?_;exact Kp.set _<|Xx _ _
 have g1:=(w.keep G).item N;have b:=b;have l:=b.u;have L:(S.add i (S.b.length:Int)).a=s::ss:=v;rw[L]at l;have l:=l;have T:=l.1.2.1;have F:=r.A s (by refine aa v ?_;exact .head _);have g:getItem H1 (.r<|n+2) (.i<|-1)=xR r0:=by refine oH (l:=sr.reverse.map V.r)<|aa b.d ?_;simp
 have gs:=ld (wd i) s;have p:fW H1 (.s<|wd i) (.r r0)=some (gQ (wd i) s).isSome:=by rw[mm T,gs];cases gQ (wd i) s<;>rfl
 have E:ej H1 (.r<|n+4)=some (S.b.length:Int):=by have:=bz b.g (by simp;exact qm I x);simpa [PS.add]using this
 have J:=b.g;have M:mB H1 (n+4)=true:=kB J;cases e:(gQ (wd i) s).isSome with
 |true=>
  rw[e]at p;have p:=p;have D:bF H1 (n+4) (.s k)=some (H1.set (n+4)<|.l<|(S.b++[k]).map V.s):=by have:H1[n+4]?=some (.l<|S.b.map V.s):=J;simp only[bF,this,bc];refine aa (Xr<|by simp;exact qm I x) ?_;simp
  refine⟨H1.set (n+4)<|.l<|(S.b++[k]).map V.s,lL,r0::sr,o9,ZK,_,_,rfl,?_,?_,G.trans<|Kp.set _<|Xx _ _⟩
  ·exact XR (uf λjj=>jj _ (fv rfl k1) _ (fv rfl k2) _ (fv rfl k3) _ (fv rfl k4) _ (fv (Cj (H:=H) _) λz=>z.elim k5 k6) _ A _ R _ g1 _ g _ p _ rfl M _ D) (by simp[PS.step,v,e])
  ·simp only[PS.step,v,e,if_true]
   refine⟨aB b.d<|HV,?_,aB b.hm<|E9,dU J,?_,l5,sn,?_,?_,by show S.l.length<=_;exact aC b3,by have X:(s::ss).length<=c+1:=(v▸r.B);show(s::ss).length<=_;exact Zv X,λt U=>by have:=r.A t<|v▸U;exact aC this,pQ x⟩
   ·exact l.set J λs h=>Eb h nt
   ·have e2:de (S.add i (S.b.length:Int))=de S:=ji _ Q.lt
    have:=b.l;rw[e2]at this;unfold de;rw[(ji _ Q.lt:(S.l.map λj=>V.i (((S.f++[(i,(S.b.length:Int))]).getD j (0,0)).1:Nat))=de S)];exact aB this<|Yy ‹_›
   ·simp only[XB,aM,bA];exact jr b1
   ·simp only[XB,aM,bA];exact jr I
 |false=>
  rw[e]at p;clear L gs B M N Q w;obtain⟨u,f⟩:∃u,u=H1.set r0 (.dS<|cx<|putN (wd i) S.b.length s):=⟨_,rfl⟩;have W:∀a o,H1[a]?=some o->(∀s,o≠.dS s)->r0≠a:=λa o ha Y z=>by subst z;rw[T]at ha;cases ha;exact Y _ rfl
  have y:u[n+4]?=some (.l<|S.b.map V.s):=by refine aa f ?_;exact aB J<|W _ _ J λs h=>Eb h nt
  have D:bF u (n+4) (.s k)=some (u.set (n+4)<|.l<|(S.b++[k]).map V.s):=by simp only[bF,y,bc];refine aa (Xr<|by simp only[X6];exact qm I x) ?_;simp
  have O:=oA (wd i) (S.b.length:Int) s;have P:setItem H1 (.r r0) (.s<|wd i) (.i (S.b.length:Int))=some (H1.set r0<|.dS<|cx<|putN (wd i) S.b.length s):=by simp only[RC T,T,oM,ci,mH];rw[Xr<|by simp only[cx,X6];exact Fz F x,pi]
  rw[<- f]at P;refine⟨u.set (n+4)<|.l<|(S.b++[k]).map V.s,lL,r0::sr,o9,ZK,_,_,rfl,?_,?_,(G.trans (by refine aa f ?_;exact Kp.set _ (l.1.1:n<=r0):Kp n H1 u)).trans<|Kp.set _<|Xx _ _⟩
  ·exact XR (uf λjj=>jj _ (fv rfl k1) _ (fv rfl k2) _ (fv rfl k3) _ (fv rfl k4) _ (fv (Cj (H:=H) _) λz=>z.elim k5 k6) _ A _ R _ g1 _ g _ p _ E _ g _ g1 _ P (kB y:mB u (n+4)=true) _ D) (by simp[PS.step,v,e])
  ·simp only[PS.step,v,e,Ze,if_false]
   refine⟨aB (by refine aa f ?_;exact aB b.d (W _ _ b.d λs h=>Eb h nt):u[n+2]?=some (.l<|(r0::sr).reverse.map V.r))<|HV,?_,aB (by refine aa f ?_;exact aB b.hm (W _ _ b.hm λs h=>Eb h nt):u[n+3]?=some (.dI<|cZ<|S.f++[(i,(S.b.length:Int))]))<|E9,dU y,?_,l5,sn,?_,?_,by show S.l.length<=_;exact aC b3,?_,λt U=>?_,pQ x⟩
   ·exact qH.set y (λs h=>Eb h nt) (by refine aa f ?_;exact qH.upd l ((Yc.1 sn).1:r0∉sr) (ba 0x1c23812c81c20cf620865b0b42c0065b tq O F x):qH n u (r0::sr)<|putN (wd i) S.b.length s::(ss++[YO]))
   ·have e3:(S.l.map λj=>V.i (((S.f++[(i,(S.b.length:Int))]).getD j (0,0)).1:Nat))=de (S.add i (S.b.length:Int)):=rfl
    unfold de;exact aa e3<|aB (by refine aa f ?_;exact aB b.l (W _ _ b.l λs h=>Eb h nt):u[lL]?=some (.l<|de<|S.add i (S.b.length:Int)))<|Yy ‹_›
   ·simp only[XB,aM,bA];exact jr b1
   ·simp only[XB,aM,bA];exact jr I
   ·rw[v,aM]at b4;simp only[aM];exact aI 0x5a16858c0b40c905a1605a06065b tq b4
   ·rcases XD.1 U with z|z
    ·clear U;subst z;exact ba 0x5a1602411065b0b44c0065b tq O F
    ·have:=r.A t (by refine aa v ?_;exact .tail _ z);exact aC this
def Ve (b:Cl):V->Lo->Hp->Option (Fl×Hp):=λv l a=>XU b a4 (l.set 9<|some v) a [.t (.v 3) (.v 9)<|.x (.c 60 [(.v 2),(.t (.v 1)<|.v 9)])<|.i<|-1]
def I5 (O:1<=d)(l:RR n H S lL c sr)(hL:L=de S)(u:List Nat):∀(F:List<|Nat×Int) (b:Hp) (o:Option V),qC n m wd wL b->(F.map (·.1)).Nodup->(∀j∈u,j<F.length)->(∀x∈F.map (·.1),x<m)->F.length<=800->(b=H.set (n+3) (.dI<|cZ F))->
  ∃E,aK (Ve<|ae d) (a3 lL L) (u.map λj=>V.i ((F.getD j (0,0)).1:Nat)) [x0,xR wL,xR<|n+2,xR<|n+3,xR<|n+4,x5,x6,x7,x8,o,x10] b=
   some (.n [x0,xR wL,xR<|n+2,xR<|n+3,xR<|n+4,x5,x6,x7,x8,E,x10],H.set (n+3)<|.dI<|cZ<|u.foldl (S.Yq wd) F):=by
 induction u with
 |nil=>intro F b o w D y C B e;refine⟨o,?_⟩;have P:=l.a;refine aa map_nil<|aa (bp<|cS<|by rw[e,hL];exact aB l.l<|zV P)<|aa e ?_;rfl
 |cons j u A=>
  intro F b o w D y C B e;have f:=y j<|.head _;have k:(F.getD j (0,0)).1∈F.map (·.1):=by refine aa (Yr)<|aa (XQ f) ?_;exact Y4 (f:=(·.1))<|Zj f
  have g:=w.item<|C _ k;have t:b[n+2]?=some (.l<|sr.reverse.map V.r):=by refine aa e ?_;exact aB l.d<|BO
  have v:qH n b sr<|S.a++[YO]:=by refine aa e ?_;exact l.u.set l.hm λs h=>Eb h nt
  have q:=TO (d:=d-1) (nm:=wd (F.getD j (0,0)).1) t l.srl v;have M:d-1+1=d:=YI ‹_›;have I:cu (wd (F.getD j (0,0)).1) (S.a++[YO])=S.seek (wd (F.getD j (0,0)).1):=rfl;rw[M,I]at q;have N:Kp n b<|H.set (n+3)<|.dI<|cZ<|S.Yq wd F j:=by exact aa e<|⟨λi Q=>by rw[YM<|XG<|XO ‹_›<|Xx _ _,YM<|XG<|XO ‹_›<|Xx _ _]⟩
  have J:setItem b (.r<|n+3) (.i ((F.getD j (0,0)).1:Nat)) (.i<|max (S.seek<|wd (F.getD j (0,0)).1)<|-1)=some (H.set (n+3)<|.dI<|cZ<|S.Yq wd F j):=by simp only[Ry<|(by refine aa e ?_;exact dU l.hm:b[n+3]?=some (.dI<|cZ F)),(by refine aa e ?_;exact dU l.hm:b[n+3]?=some (.dI<|cZ F)),oM,ci,mH];rw[Xr<|by rw[pd];exact bB 0xfa1c09640e0065b tq B,yH j D f,e,List.set_set];rfl
  have a:(S.Yq wd F j).map (·.1)=F.map (·.1):=by have:=pW (wd:=wd) (S:=S) [j] F (λq z=>by simp at z;clear g y k N I J;subst z;exact f);simpa using this
  have p:(S.Yq wd F j).length=F.length:=ZN;have r:∀q,((S.Yq wd F j).getD q (0,0)).1=(F.getD q (0,0)).1:=λq=>by
   have h1:∀G:List<|Nat×Int,(G.getD q (0,0)).1=(G.map (·.1)).getD q 0:=λG=>by simp only[Yr,Zt];cases G[q]?<;>rfl
   rw[h1,h1,a]
  clear M O f k t I v;obtain⟨E,A⟩:=A (S.Yq wd F j) _ (xI ((F.getD j (0,0)).1:Nat)) (w.keep N) (by refine aa a ?_;exact D) (λq z=>by refine aa p ?_;exact y q<|.tail _ z) (by refine aa a ?_;exact C) (by refine aa p ?_;exact B) rfl;refine⟨E,?_⟩;simp only[r]at A;rw[af,aS (cS<|by refine aa e<|aa hL ?_;exact aB l.l<|zV l.a) (l':=[x0,xR wL,xR<|n+2,xR<|n+3,xR<|n+4,x5,x6,x7,x8,xI ((F.getD j (0,0)).1:Nat),x10]) (H':=H.set (n+3)<|.dI<|cZ<|S.Yq wd F j) ?_]
  ·rw[A];rfl
  ·generalize(F.getD j (0,0)).1=q0 at g q J⊢
   simp only[Ve,set_cons_succ,set_cons_zero];simp[g,q,AS,J]
def JD {m:Nat}{o ZK:Option V}(r:RR n H S lL c sr)(w:qC n m wd wL H)(k:PW S)(f:(S.f.map (·.1)).Nodup)(A:∀x∈S.f.map (·.1),x<m)(z:1<=d)(e:c<800):xo wd n lL c eL wL d H S .r o ZK:=by
 have j:=r.F;have q:=r.G;have u:=r.E;have v:=r.B;have y:H=H.set (n+3) (.dI<|cZ S.f):=by
  refine List.ext_getElem? λi=>?_;by_cases h:n+3=i
  ·subst h;refine aa (dU r.hm) ?_;exact r.hm
  ·exact aa (YM h) rfl
 refine Xs (I5 (L:=de S) (x0:=xR eL) (x5:=xR lL) (x6:=xI S.t) (x7:=xS D4) (x8:=xI 0) (x10:=ZK) z r rfl S.l S.f H o w f k.lt A (aI 0x1903812c81c10cf610065b tq j e) y) λp g=>?_;obtain⟨b,a⟩:∃b,b=H.set (n+3) (.dI<|cZ<|S.l.foldl (S.Yq wd) S.f):=⟨_,rfl⟩;rw[<- a]at g;have l:bx (ae d) a4 [xR eL,xR wL,xR<|n+2,xR<|n+3,xR<|n+4,xR lL,xI S.t,xS D4,xI 0,o,ZK] H dX=
   some (.n [xR eL,xR wL,xR<|n+2,xR<|n+3,xR<|n+4,xR lL,xI S.t,xS D4,xI 0,p,ZK],b):=by
  unfold dX;exact aa (fc (a:=lL) (vs:=de S) (rfl) r.l<|by simp only[de,X6];exact qm u e) g
 refine⟨b++[.l []],b.length,sr,p,ZK,_,_,rfl,?_,?_,?_⟩
 ·unfold D4 at l
  exact uf λC=>C _ rfl _ rfl _ rfl _ rfl _ _ l
 ·have D:(S.l.foldl (S.Yq wd) S.f).length=S.f.length:=by have:=pW (wd:=wd) (S:=S) S.l S.f k.lt;have:=Xy List.length this;simpa using this
  refine⟨?_,?_,?_,?_,?_,ba 0x4ad032420879b115a06067b tq r.len (by refine aa a ?_;simp:b.length=H.length),r.sn,?_,by show S.b.length<=_;exact aC q,by simp[PS.step],by show S.a.length<=_;exact aI 0x1685a1630120b42c0065b tq v,λt B=>by have:=r.A t B;exact aC this,pQ e⟩
  ·refine aa a ?_;exact fk<|aB r.d<|BO
  ·refine aa a ?_;exact qH.app _<|r.u.set r.hm λs h=>Eb h nt
  ·refine aa a ?_;exact fk<|dU r.hm
  ·refine aa a ?_;exact fk<|aB r.g<|Ij
  ·simp[de,PS.step]
  ·simp only[PS.step,D];exact aC j
 ·exact aa a ((Kp.set _<|Xx _ _).trans<|Kp.app _<|by simp;exact Ay r.len)
end
def V5 (m:Nat)(S:PS):Ev->Prop
 | .u i=>i∉S.f.map (·.1)/\i<m
 | .w i=>i∉S.f.map (·.1)/\i<m
 | .d i k=>i∉S.f.map (·.1)/\i<m/\k∈QO
 | .f i j=>i∉S.f.map (·.1)/\i<m/\j∈S.f.map (·.1)
 |_=>True
structure GS(m:Nat)(S:PS):Prop where
 p:PW S
 j:(S.f.map (·.1)).Nodup
 lt:∀x∈S.f.map (·.1),x<m
noncomputable def lD(w:Nat->Nm)(m:Nat):PS->List Ev->Prop
 |_,[]=>True
 |S,e::r=>GS m S/\V5 m S e/\lD w m (S.step w e) r
section
def qz:∀{b:List Ev}{S:PS},lD w m S a->lD w m (S.run w a) b->lD w m S (a++b):=by
 induction a with
 |nil=>intro b S _ h;exact h
 |cons e a i=>intro b S h c;exact⟨h.1,h.2.1,i h.2.2 c⟩
def Q6 {n s C d c:Nat}(J:1<=d)(W:s<n)(a):∀(S) (H) (z c) (I) (E F B ZK),RR n H S z c I->qC n m A C H->H[s]?=some (.l L)->lD A m S a->c+a.length<=800->
  ∀{Cx:Prop},(∀H' l t p7 p8 G p,aK (λv l' H'=>KS v λx y=>XU (ae d) a4 ((l'.set 7<|some x).set 8<|some y) H' rpB) (a3 s L) (a.map lw) [xR s,xR C,xR<|n+2,xR<|n+3,xR<|n+4,xR z,xI S.t,E,F,B,ZK] H=
   some (.n [xR s,xR C,xR<|n+2,xR<|n+3,xR<|n+4,xR l,xI (S.run A a).t,p7,p8,G,p],H')->RR n H' (S.run A a) l (c+a.length) t->Kp n H H'->Cx)->Cx:=by
 induction a with
 |nil=>intro S H z c I E F B ZK r w hL g h Cx D;exact D H z I E F B ZK (bp<|cS hL) r<|Kp.refl n H
 |cons e a M=>
  intro S H z c I E F B ZK r w hL g h Cx D;simp at h;refine bX g λq b R=>?_;have st:xo A n z c s C d H S e B ZK:=by
   clear g R D;cases e with
   |u i=>exact Kf r w q.p J b.1 b.2<|nz h
   |w i=>exact J9 r w q.p J b.1 b.2<|nz h
   |d i k=>exact EP r w q.p b.1 b.2.1 b.2.2<|nz h
   |r=>exact JD r w q.p q.j q.lt J<|nz h
   |o=>exact Kr r<|nz h
   |c=>exact IP r q.p.ne<|nz h
   |f i j=>exact Jp r q.p b.1 b.2.2<|nz h
  exact xc st λQ T P G p x y U X r1 N=>M (S.step A e) Q T (c+1) P (some x) (some y) G p r1 (w.keep N) ((N.lo _ W).trans hL) R (aI 0x3207042d03192c81c1685806065b tq h) λH' l t q7 q8 q9 O M r' Y=>D H' l t q7 q8 q9 O (aa af<|aa U<|aa (aS (cS hL) (l':=[xR s,xR C,xR<|n+2,xR<|n+3,xR<|n+4,xR T,xI (S.step A e).t,some x,some y,G,p]) (H':=Q) X) M) (by rw[eG,aM];rw[show c+(a.length+1)=c+1+a.length by exact Gd];exact r')<|N.trans Y
@[simp]theorem Sw:KS (.t [x,y]) f=f x y:=rfl
def uB (f:ai c l src H=some (.r a,H))(h:H[a]?=some (.l vs))(e:vs.length<=1000000):
  bx c k l H (.ZG i j src b)=aK (λv g d=>KS v λx y=>XU c k ((g.set i<|some x).set j<|some y) d b) (a3 a vs) vs l H:=by
 refine Bc.trans<|(bI f).trans ?_;show hL H[a]? _=_;exact aa h<|Xr e
def Vj {d c f:Nat}{H:Hp}{e:List Ev}(v:1<=d)(i:H[c]?=some (.l<|e.map lw))(w:qC H.length m wd f H)(g:lD wd m YB e)(o:e.length<=800){Cx:Prop}(z:∀x,ae (d+1) 61 [.r c,.r f] H=some (.v<|.t [.r<|H.length+3,.r<|H.length+4,.i (YB.run wd e).t],H++x)->(H++x)[H.length+3]?=some (.dI<|cZ (YB.run wd e).f)->(H++x)[H.length+4]?=some (.l<|(YB.run wd e).b.map V.s)->Cx):Cx:=by
 have h:=xd i;obtain⟨H1,a⟩:∃H1,H1=H++[.dS<|cx YO,.dS [],.l [.r H.length,.r<|H.length+1],.dI [],.l [],.l []]:=⟨_,rfl⟩;have b:∀j,H1[H.length+j]?=[AO.dS<|cx YO,.dS [],.l [.r H.length,.r<|H.length+1],.dI [],.l [],.l []][j]?:=λj=>by refine aa a<|aa (YY<|by exact aI 0x103012 tq) ?_;congr 1;exact add_sub_cancel_left ..
 have r0:RR H.length H1 YB (H.length+5) 0 [H.length+1,H.length]:=by refine⟨b 2,⟨⟨bB 0x2d03012 tq,b 1,by simp⟩,⟨XH _,?_,by decide⟩,trivial⟩,b 3,b 4,b 5,XH _,by simp,XH _,XH _,XH _,by simp[YB],λs r=>by simp[YB]at r;subst r;simp,nl rfl⟩;have:=b 0;simpa using this
 have k:Kp H.length H H1:=by refine aa a ?_;exact Kp.app _<|XH _
 refine Q6 (L:=e.map lw) (c:=0) v h e YB H1 (H.length+5) 0 [H.length+1,H.length] none none none none r0 (w.keep k) ((k.lo _ h).trans i) g (bB 0x640e001ac9640e0065b tq o) λu n E B C D p q t y=>Xs (B9 (k.trans y).lo) λx l=>z x ?_ (by refine dG l ?_;exact t.hm) (by refine dG l ?_;exact t.g);refine dG l ?_;have A:bx (ae d) a4 [xR c,xR f,xR<|H.length+2,xR<|H.length+3,xR<|H.length+4,xR<|H.length+5,xI 0,none,none,none,none] H1 fM=
   some (.n [xR c,xR f,xR<|H.length+2,xR<|H.length+3,xR<|H.length+4,xR n,xI (YB.run wd e).t,B,C,D,p],u):=by
  exact aa zP<|aa (uB (a:=c) (vs:=e.map lw) (by simp) ((k.lo _ h).trans i)<|by rw[X6];exact bB 0x3d0902209640e0065b tq o) q
 refine aa (aU (f:=jK) rfl rfl) ?_;rw[(rfl:cx YO=[([65,66,83],V.i<|-1),([73,78,84,69,71,69,82],V.i<|-1)])]at a;simp[jK,XM,X7];refine dG a<|aa A ?_;simp
end
noncomputable def mM:List Ev->Bool
 | []=>true
 | .d _ k::r=>decide (k∈QO)&&mM r
 |_::r=>mM r
theorem gz:mM []=true:=rfl
theorem gi{i k r}:mM (Ev.d i k::r)=(decide (k∈QO)&&mM r):=rfl
theorem gp{i r}:mM (.u i::r)=mM r:=rfl
theorem gL{i r}:mM (.w i::r)=mM r:=rfl
theorem gw{r}:mM (.r::r)=mM r:=rfl
theorem gH{r}:mM (.o::r)=mM r:=rfl
theorem g5{r}:mM (.c::r)=mM r:=rfl
theorem gW{i j r}:mM (.f i j::r)=mM r:=rfl
@[simp]theorem fX(a b:List Ev):mM (a++b)=(mM a&&mM b):=by
 induction a with
 |nil=>exact rfl
 |cons e r i=>cases e<;>first| exact i| exact(Xy (_&&·) i).trans (Bool.and_assoc ..).symm
def SO (v)(i):mM (kH v i)=true:=by cases v<;>rfl
theorem R2:∀(K:Kd) (i:Nat),mM (nh K i)=true
 | .n x,i=>rfl
 | .r K,i=>by simp only[fJ,fB,fH,d8,e6,fX,R2 K,gz,gi,gp,gL,gw,gH,g5,gW];rfl
 | .p x,i=>rfl
 | .a v K,i=>by simp only[fJ,fB,fH,d8,e6,fX,R2 K,SO];rfl
 | .c x,i=>rfl
def VS (c:Option<|Option<|Nm×Vl)(i):mM (uu c i)=true:=by
 match c with
 |none=>rfl
 |some none=>rfl
 |some (some (x,v))=>simp only[uu,fX,SO,gz,gi,gp,gL,gw,gH,g5,gW];decide
def WX (c:Option<|Option<|Nm×Kd)(i):mM (zy c i)=true:=by
 match c with
 |none=>rfl
 |some none=>rfl
 |some (some (x,v))=>simp only[nj,ni,jB,fX,R2,gz,gi,gp,gL,gw,gH,g5,gW];decide
def WT (c:Option<|Option<|Nm×Kd)(i):mM (Bi c i)=true:=by
 match c with
 |none=>rfl
 |some none=>rfl
 |some (some (x,v))=>simp only[nq,nU,lx,fX,R2,gz,gi,gp,gL,gw,gH,g5,gW];decide
def U9 (D)(i):mM (cM D i)=true:=by simp only[cM,fX,VS,WX,WT];rfl
def WQ (s)(i):mM (rk s i)=true:=by
 match s with
 |none=>rfl
 |some _=>simp only[rk,gz,gi,gp,gL,gw,gH,g5,gW];decide
def WZ (v a)(i):mM (qd v a i)=true:=by simp only[qd,fX,SO,gz,gi,gp,gL,gw,gH,g5,gW];rfl
def V4 (s)(i):mM (g9 s i)=true:=by
 match s with
 |none=>rfl
 |some (true,_)=>simp only[qI,qx,pY,gz,gi,gp,gL,gw,gH,g5,gW];decide
 |some (false,_)=>simp only[qI,qx,pY,gz,gi,gp,gL,gw,gH,g5,gW];decide
section
variable{wd:Nat->Nm}{m:Nat}
def wD (h:GS m S)(h1:e≠.o)(d:e≠.c)(g:(S.f.map (·.1)++aw [e]).Nodup)(f:∀x∈aw [e],x<m):GS m<|S.step wd e:=by
 refine XE (λa b=>⟨a,by rw[b];exact g,λx c=>?_⟩)<|jF (wd:=wd) h.p h1 d;rw[b]at c;rcases YH.1 c with z|z
 ·exact h.lt x z
 ·exact f x z
def vP {es:List Ev}:∀{S:PS},GS m S->(S.f.map (·.1)++aw es).Nodup->(∀x∈aw es,x<m)->cP es=true->mF es=true->mM es=true->lD wd m S es/\GS m (S.run wd es):=by
 induction es with
 |nil=>intro S h _ _ _ _ _;exact⟨trivial,h⟩
 |cons e r C=>
  intro S h p n h1 A y;have D:cP r=true:=by cases e<;> simp_all[eC,ew,eq,dW,eD,ei,ey,ez]
  have E:mF r=true:=by cases e<;> simp_all[jW,j7,jO,jR,jU,jH,jE,jM]
  have F:mM r=true:=by cases e<;> simp_all[gz,gi,gp,gL,gw,gH,g5,gW]
  have t:aw (e::r)=aw [e]++aw r:=by rw[<- cN];rfl
  rw[t]at p n;have q:e≠.o:=by intro z;subst z;exact eH h1 nt
  have s:e≠.c:=by intro z;subst z;exact eH h1 nt
  have g:(S.f.map (·.1)++aw [e]).Nodup:=by rw[<- XM]at p;exact(YT.1 p).1
  refine XE (λa b=>?_)<|C (wD (wd:=wd) h q s g λx v=>n x<|mem_append_left _ v) (by rw[((jF (wd:=wd) h.p q s).2:(S.step wd e).f.map (·.1)=S.f.map (·.1)++aw [e]),XM];exact p) (λx v=>n x<|Z9 _ v) D E F;refine⟨⟨h,?_,a⟩,b⟩;have l:∀i,aw [e]=[i]->i∉S.f.map (·.1)/\i<m:=λi B=>by rw[B]at g n;exact⟨λz=>((YT.1 g).2.2 i z i (.head _) rfl),n i<|by simp⟩
  cases e with
  |u i=>exact l i rfl
  |w i=>exact l i rfl
  |d i k=>have:=l i rfl;exact⟨this.1,this.2,by simp only[gz,gi,gp,gL,gw,gH,g5,gW,Xu,Ym]at y;exact y.1⟩
  |r=>trivial
  |o=>exact Xv rfl q
  |c=>exact Xv rfl s
  |f i j=>exact eH A nt
def M3 {S:PS}{p:Pr}{i:Nat}(h:GS m S)(u:∀x∈S.f.map (·.1),x<i)(E:S.l=[])(F:i+nI (uE p)<=m):lD wd m S (jw p i)/\GS m (S.run wd<|jw p i):=by
 have A:=pP p i;have c:(S.f.map (·.1)++aw (jw p i)).Nodup:=by rw[YT];refine⟨h.j,A.nodup_iff.2<|List.nodup_range' (step:=1)<|nl rfl,λx f y G z=>?_⟩;have:=u x f;have:=(mr A y G).1;exact ba 0xd082196c400f3610067b tq ‹_› ‹_› ‹_›
 have d:∀x∈aw (jw p i),x<m:=λx f=>by have:=(mr A x f).2;exact ow 0x104c2313032d8c4c0067b tq this F
 refine bX (m6 (wd:=wd) (p:=p) h.p u E) λL w q=>?_;have t:GS m<|S.run wd<|jw p i:=⟨w,by refine aa q ?_;exact c,λx f=>by
  rw[q]at f;rcases YH.1 f with z|z
  ·exact h.lt x z
  ·exact d x z⟩
 refine⟨?_,t⟩;obtain⟨B,l⟩:∃B,B=rk p.p (i+1)++cM p.d (i+1+nI (cr p.p))++qd p.v1 p.v2 (i+1+nI (cr p.p)+nI (aR p.d)):=⟨_,rfl⟩;obtain⟨k,j⟩:∃k,k=i+1+nI (cr p.p)+nI (aR p.d)+nB p.v1 p.v2:=⟨_,rfl⟩;have r:jw p i=.d i a9::.o::(B++[.f k i,.c]):=by refine aa l<|aa j ?_;simp[jw]
 have n1:cP B=true:=by refine aa l ?_;simp only[cC,SB,Mv,Sd];rfl
 have I:mF B=true:=by refine aa l ?_;simp only[fi,Vv,Sh,Vy];rfl
 have J:mM B=true:=by refine aa l ?_;simp only[fX,WQ,U9,WZ];rfl
 rw[r]at c d⊢;have s:aw (Ev.d i a9::.o::(B++[.f k i,.c]))=i::(aw B++[k]):=by simp[cg,b7,cp,b5,b6,cn,cb,ck]
 rw[s]at c d;have c:=c;have d:=d;have g:(S.f.map (·.1)++[i]).Nodup:=by
  have e:S.f.map (·.1)++i::(aw B++[k])=(S.f.map (·.1)++[i])++(aw B++[k]):=by simp
  rw[e]at c;exact(YT.1 c).1
 have o:((S.f.map (·.1)++[i])++aw B).Nodup:=by
  have e:S.f.map (·.1)++i::(aw B++[k])=((S.f.map (·.1)++[i])++aw B)++[k]:=by simp
  rw[e]at c;exact(YT.1 c).1
 have n:k∉(S.f.map (·.1)++[i])++aw B:=by
  have e:S.f.map (·.1)++i::(aw B++[k])=((S.f.map (·.1)++[i])++aw B)++[k]:=by simp
  rw[e]at c;intro z;exact(YT.1 c).2.2 k z k (.head _) rfl
 have g1:=wD (wd:=wd) (e:=.d i a9) h (by simp) (by simp) g (λx f=>d x<|by simp[cg,b7,cp,b5,b6,cn,cb,ck]at f;clear r s l j g;subst f;simp);have H:(S.step wd<|.d i a9).f.map (·.1)=S.f.map (·.1)++[i]:=(jF (wd:=wd) h.p (by simp)<|by simp).2;have C:GS m<|(S.step wd<|.d i a9).step wd .o:=⟨⟨by simp[PS.step],g1.p.lt⟩,g1.j,g1.lt⟩;have D:((S.step wd<|.d i a9).step wd .o).f.map (·.1)=S.f.map (·.1)++[i]:=H;refine XE (λa b=>?_)<|vP (wd:=wd) (es:=B) C (by refine aa D ?_;exact o) (λx f=>d x<|by simp[f]) n1 I J;have v:(((S.step wd<|.d i a9).step wd .o).run wd B).f.map (·.1)=(S.f.map (·.1)++[i])++aw B:=aa ((lG (wd:=wd) C.p n1).2)<|aa D rfl;refine⟨h,⟨?_,d i<|by simp,by decide⟩,g1,trivial,qz a ⟨b,⟨by rw[v];exact n,d k<|by simp,by rw[v];simp⟩,?_,trivial,trivial⟩⟩
 ·intro z;have:=u i z;exact wG this
 ·exact wD b (by simp) (by simp) (by
   rw[v];have e:S.f.map (·.1)++i::(aw B++[k])=((S.f.map (·.1)++[i])++aw B)++[k]:=by simp
   rw[e]at c;exact c) (λx f=>d x<|by simp[cg,b7,cp,b5,b6,cn,cb,ck]at f;clear r s j n d c;subst f;simp)
def sV (M):lD wd (nI<|aP M) YB<|ku M:=by
 refine cps λC n=>bX (lm (wd:=wd) M) λa b c=>?_;have o:=Bt (wd:=wd) M;have d:=LH M;have l:GS (nI<|aP M) YB:=⟨Vt,by simp[YB],λx i=>by simp[YB]at i⟩;have f:(aw<|g9 M.i 0++cM M.d (nI<|bj M.i)).Perm<|List.range' 0<|nI (bj M.i)+nI (aR M.d):=by rw[cN,<- fN,Yx];exact(pI _ _).append<|pD _ _
 obtain⟨q,y⟩:=vP (wd:=wd) (es:=g9 M.i 0++cM M.d (nI<|bj M.i)) l (by show(aw _).Nodup;exact f.nodup_iff.2<|List.nodup_range' (step:=1)<|nl rfl) (λx i=>by have:=(mr f x i).2;exact Sr 0x413285a41898c63021e6c62601ac0067b tq this d) (by simp only[cC,Tf,Mv];rfl) (by simp only[fi,U8,Sh];rfl) (by simp only[fX,V4,U9];rfl)
 rw[ax]at y;have j:lD wd (nI<|aP M) ((YB.run wd<|g9 M.i 0).run wd<|cM M.d<|nI<|bj M.i) (qV M.p<|nI (bj M.i)+nI (aR M.d))/\GS (nI<|aP M) (((YB.run wd<|g9 M.i 0).run wd<|cM M.d<|nI<|bj M.i).run wd<|qV M.p<|nI (bj M.i)+nI (aR M.d)):=by
  match hp:M.p with
  |none=>exact⟨trivial,y⟩
  |some p=>rw[hp]at d;exact M3 y o c (by simp only[fR]at d;exact Ho 0x31040c64881688206318c1879b tq d)
 have h:(((YB.run wd<|g9 M.i 0).run wd<|cM M.d<|nI<|bj M.i).run wd<|qV M.p<|nI (bj M.i)+nI (aR M.d)).f.map (·.1)++aw (.u (nI (bj M.i)+nI (aR M.d)+nI (fR M.p))::kH M.v (nI (bj M.i)+nI (aR M.d)+nI (fR M.p)+1))=aw (ku M):=by
  have k:=(K7 (wd:=wd) M).2;have e:YB.run wd (ku M)=(((YB.run wd<|g9 M.i 0).run wd<|cM M.d<|nI<|bj M.i).run wd<|qV M.p<|nI (bj M.i)+nI (aR M.d)).run wd (.u (nI (bj M.i)+nI (aR M.d)+nI (fR M.p))::kH M.v (nI (bj M.i)+nI (aR M.d)+nI (fR M.p)+1)):=by rw[ku,ax,ax,ax]
  rw[e]at k;exact dG k<|aa ((lG (wd:=wd) j.2.p<|by simp only[dW,Nf]).2) rfl
 have g:=(pM M).nodup_iff.2<|List.nodup_range' (step:=1)<|nl rfl;obtain⟨r,s⟩:=vP (wd:=wd) (es:=.u (nI (bj M.i)+nI (aR M.d)+nI (fR M.p))::kH M.v (nI (bj M.i)+nI (aR M.d)+nI (fR M.p)+1)) j.2 (by refine aa h ?_;exact g) (λx i=>by
  have:x∈aw (ku M):=by refine dG h ?_;exact Z9 _ i
  have:=(mr (pM M) x this).2;exact Sr 0x104ca1690626318c0829b081ac0067b tq this d) (by simp only[eC,ew,eq,dW,eD,ei,ey,ez,Nf]) (by simp only[jW,j7,jO,jR,jU,jH,jE,jM,Qr]) (by simp only[gz,gi,gp,gL,gw,gH,g5,gW,SO])
 have e:ku M=(g9 M.i 0++cM M.d (nI<|bj M.i))++(qV M.p (nI (bj M.i)+nI (aR M.d))++.u (nI (bj M.i)+nI (aR M.d)+nI (fR M.p))::kH M.v (nI (bj M.i)+nI (aR M.d)+nI (fR M.p)+1)):=by simp[ku]
 refine n<|aa e<|qz q<|qz ?_ ?_
 ·rw[ax];exact j.1
 ·rw[ax];exact r
noncomputable def nR:List Ev->Nat
 | []=>0
 | .r::r=>nR r+1
 | .o::r=>nR r+1
 | .c::r=>nR r+1
 |_::r=>nR r
theorem t5:nR []=0:=rfl
theorem tY{r}:nR (Ev.r::r)=nR r+1:=rfl
theorem th{r}:nR (Ev.o::r)=nR r+1:=rfl
theorem si{r}:nR (Ev.c::r)=nR r+1:=rfl
theorem tH{i r}:nR (.u i::r)=nR r:=rfl
theorem s6{i r}:nR (.w i::r)=nR r:=rfl
theorem sL{i k r}:nR (.d i k::r)=nR r:=rfl
theorem r6{i j r}:nR (.f i j::r)=nR r:=rfl
@[simp]theorem jx(a b:List Ev):nR (a++b)=nR a+nR b:=by
 induction a with
 |nil=>exact(Yx _).symm
 |cons e r i=>cases e<;>first| exact i| exact(Xy (·+1) i).trans (succ_add ..).symm
def Td (a:List Ev):a.length=(aw a).length+nR a:=by
 induction a with
 |nil=>exact rfl
 |cons e r i=>cases e<;>first| exact Xy (·+1) i| exact(Xy (·+1) i).trans (succ_add ..).symm
def rV (v)(i):nR (kH v i)=0:=by cases v<;>rfl
theorem rK:∀(K:Kd) (i:Nat),nR (nh K i)=0
 | .n x,i=>rfl
 | .r K,i=>by simp only[fJ,fB,fH,d8,e6,jx,rK K,t5,tY,th,si,tH,s6,sL,r6]
 | .p x,i=>rfl
 | .a v K,i=>by simp only[fJ,fB,fH,d8,e6,jx,rK K,rV]
 | .c x,i=>rfl
def rC (c:Option<|Option<|Nm×Vl)(i):nR (uu c i)=0:=by
 match c with
 |none=>rfl
 |some none=>rfl
 |some (some (x,v))=>simp only[uu,jx,rV,t5,tY,th,si,tH,s6,sL,r6]
def rT (c:Option<|Option<|Nm×Kd)(i):nR (zy c i)<=1:=by
 match c with
 |none=>exact X5 _
 |some none=>exact XH _
 |some (some (x,v))=>simp[nj,ni,jB,jx,rK,t5,tY,th,si,tH,s6,sL,r6]
def rR (c:Option<|Option<|Nm×Kd)(i):nR (Bi c i)<=1:=by
 match c with
 |none=>exact X5 _
 |some none=>exact XH _
 |some (some (x,v))=>simp[nq,nU,lx,jx,rK,t5,tY,th,si,tH,s6,sL,r6]
def rD (D)(i):nR (cM D i)<=2:=by have:=rT D.t<|i+nI (sX D.c);have:=rR D.v<|i+nI (sX D.c)+nI (vW D.t);simp only[cM,jx,rC];exact aI 0x2684006b1920b42196c2d0065b tq ‹_› ‹_›
def rP (p)(i):nR (jw p i)<=4:=by
 have h1:∀j,nR (rk p.p j)=0:=λj=>by
  match p.p with
  |none=>rfl
  |some _=>rfl
 have h:∀j,nR (qd p.v1 p.v2 j)=0:=λj=>by simp only[qd,jx,rV,t5,tY,th,si,tH,s6,sL,r6]
 have:=rD p.d<|i+1+nI (cr p.p);simp only[jw,bE,jx,t5,tY,th,si,tH,s6,sL,r6,h1,h];exact bB 0x4685a1681ac034006b18c6484d0065b tq this
def ED (M):(ku M).length<=nI (aP M)+6:=by
 simp only[Td,(pM M).length_eq,List.length_range'];have h1:nR (g9 M.i 0)=0:=by
  match M.i with
  |none=>rfl
  |some (true,_)=>rfl
  |some (false,_)=>rfl
 have h:=rD M.d<|nI<|bj M.i;have a:nR (qV M.p<|nI (bj M.i)+nI (aR M.d))<=4:=by
  match M.p with
  |none=>exact X5 _
  |some p=>exact rP p _
 simp only[ku,jx,t5,tY,th,si,tH,s6,sL,r6,rV,h1];exact ba 0x3340c034410358c601922344196c4d0865b tq h a
end
theorem dc:∀(n:Nat) (a:Nat),bS (a:Int) n 1=(List.range' a n).map λ(i:Nat)=>V.i i
 |0,a=>rfl
 |n+1,a=>by simp[aaq];have:=dc n<|a+1;refine dG this ?_;rfl
def BN (h:sh a=true)(c:sh b=true):fQ .a (.s a) (.s b)=xS (a++b):=by simp[fQ,h,c]
def Gr (h:sh a=true)(c:sh b=true):d5 .a (.s a) (.s b)=xS (a++b):=by simp[d5,h,c]
def tV (h:sh b=true)(c:a.length<=b.length):sh a=true:=by have:=j4 h;exact e5.mpr<|Xz ‹_› ‹_›
structure B4(n:Nat)(ZV:List<|Nat×Nm)(mL:Nat)(H:Hp):Prop where
 lt:mL<n
 g:H[mL]?=some (.l<|ZV.map λp=>V.t [.i p.1,.s p.2])
 b:ZV.length<=900
def B4.item {n a i:Nat}{m:List<|Nat×Nm}{H:Hp}(k:B4 n m a H){p:Nat×Nm}(h:m[i]?=some p):getItem H (.r a) (.i (i:Int))=some (.t [.i p.1,.s p.2]):=by simp only[zL k.g,k.g,(vz (n:=(m.map λp=>V.t [.i p.1,.s p.2]).length) (i:=i) (by simpa using(re h:i<m.length))<|by have:=k.b;simp;exact nM this),Zi,Zt,h,Option.map_some,cy,ci,mH]
def B4.len (k:B4 n m a H):ej H (.r a)=some (m.length:Int):=by have:=bz k.g (by have:=k.b;simp;exact nM this);simpa using this
def B4.app (k:B4 n m a H)(x):B4 n m a<|H++x:=⟨k.lt,fk k.g,k.b⟩
noncomputable def wrB:List MS:=[.v 4 .a<|.o .a (.S (.v 0) (.v 5)<|.v 6)<|.t (.v 2)<|.v 7,.s 5<|.o .a (.v 6)<|.n<|.t (.t (.v 1)<|.v 7)<|.i 1]
theorem zq:eX=.ZG 6 7 (.v 3) wrB:=rfl
noncomputable def dz:List IL->Nat->Nat->List V
 | [],_,_=>[]
 | .f _ t::r,i,p=>dz r i<|p+t.length
 | .n s::r,i,p=>.t [.i (p:Int),.i (i:Int)]::dz r (i+1) (p+s.length)
theorem vp{z a}:dz [] z a=[]:=rfl
theorem vc{z a k t r}:dz (IL.f k t::r) z a=dz r z (a+t.length):=rfl
theorem qf{z a s r}:dz (IL.n s::r) z a=V.t [V.i ↑a,V.i ↑z]::dz r (z+1) (a+s.length):=rfl
def Jx (c:sh src=true)(e:src=pre++rest)(b:pre.length=p)(d:a<=p):slc (.s src) (.i (a:Int)) (.i (p:Int))=xS (pre.drop a):=by
 have h:p<=src.length:=by refine aa e<|aa XB ?_;exact ba 0x41602400879b tq b
 simp only[slc,nJ (n:=a)<|ba 0x7a120441200c350444196c410cb610065b tq d h<|j4 c,nJ (n:=p)<|Iq h<|j4 c,c,w8,pF,cy];unfold Gg;exact aa (min_eq_left h)<|aa (min_eq_left<|Xz ‹_› ‹_›)<|aa e<|aa (List.take_append_of_le_length<|by exact aI 0x82400879b tq b)<|aa (aab<|by exact aI 0x82410069b tq b) rfl
section
variable{wd wd':Nat->Nm}{n m mL wL:Nat}{H:Hp}{ZV:List<|Nat×Nm}{src fin:Nm}
def PX {cl:Cl}{ok:Hp->Bool}{x3:Option V}(E:ok H=true)(km:B4 n ZV mL H)(w:qC n m wd' wL H)(W:sh src=true)(J:sh fin=true):∀(A:List IL) (i p:Nat) (c:Nat) (a b:Nm) (G I:Option V),
  src=b++uo wd (hG A i)->b.length=p->c<=p->fin=a++b.drop c++uo wd' (hG A i)->(∀j,(j0 A p)[j]?=ZV[i+j]?\/nI A<=j)->i+nI A<=m->(∀(j:Nat) (s:Nm),(lS A)[j]?=some s->wd (i+j)=s)->
  ∀{Cx:Prop},(∀d l q u,aK (λv l' H'=>KS v λx y=>XU cl a4 ((l'.set 6<|some x).set 7<|some y) H' wrB) ok (dz A i p) [xS src,xR mL,xR wL,x3,xS a,xI (c:Int),G,I] H=
   some (.n [xS src,xR mL,xR wL,x3,xS d,xI (l:Nat),q,u],H)->fin=d++src.drop l->l<=src.length->Cx)->Cx:=by
 intro A;induction A with
 |nil=>
  intro i p c a b G I e o B h M D L Cx N;refine N a c G I (bp E) ?_ ?_
  ·have:uo wd (hG [] i)=[]:=rfl
   rw[this,Yu]at e;have:uo wd' (hG [] i)=[]:=rfl;rw[this,Yu]at h;refine aa e ?_;exact h
  ·refine aa e ?_;simp;exact ow 0x82c048610f3630065b tq B o
 |cons x r U=>
 intro i p c a b G I e o B h M D L Cx N;cases x with
 |f k t=>have O:∀w:Nat->Nm,uo w (hG (.f k t::r) i)=t++uo w (hG r i):=λw=>rfl;rw[O]at e h;have hd:(b++t).drop c=b.drop c++t:=aa (List.drop_append_of_le_length<|by exact ba 0x1048410f3620065b tq B o) rfl;exact U i (p+t.length) c a (b++t) G I (by refine aa e ?_;simp) (by simp[o]) (ny B) (by refine aa h<|aa hd ?_;simp) M D L N
 |n s=>
  have O:∀w:Nat->Nm,uo w (hG (.n s::r) i)=w i++uo w (hG r<|i+1):=λw=>rfl;rw[O]at e h;have e:=e;have h:=h;simp only[bO,b8,cj]at D;have F:wd i=s:=by have:=L 0 s rfl;simpa using this
  have R:ZV[i]?=some (p,s):=by
   rcases M 0 with z|z
   ·simpa [df,d6,dh]using z.symm
   ·simp[bO,b8,cj]at z
  have s1:=Jx W e o B;have g1:=w.item (i:=i)<|zr D;have g2:=km.item R;have i1:nW 2 1=some 1:=rfl;have g3:getItem H (.t [.i (p:Int),.s s]) (.i 1)=xS s:=rfl;have g:=Xy List.length h;simp only[XB]at g;have g:=g;have h1:sh (b.drop c)=true:=tV J<|Ho 0x209106c0098c0879b tq g;have h2:sh (wd' i)=true:=tV J<|Ho 0x209100c1898c0879b tq g;have h3:sh a=true:=tV J<|Ho 0x209106c1018c0879b tq g;have h4:sh (b.drop c++wd' i)=true:=tV J (by simp only[XB];exact Ho 0x1040c9102c00d8c1079b tq g);have h5:sh s=true:=by have C:=Xy List.length e;simp only[XB,F]at C;exact tV W<|Ho 0x104882053630304c0879b tq C o
  have X:=BN h1 h2;have Y:=Gr h3 h4;have Q:ej H (.s s)=some (s.length:Int):=by simp only[ej,h5,if_true,ci]
  have P:(b++s).drop (p+s.length)=[]:=List.drop_eq_nil_of_le (by refine aa XB<|aa o ?_;exact XH _);refine U (i+1) (p+s.length) (p+s.length) (a++(b.drop c++wd' i)) (b++s) (xI (p:Int)) (xI (i:Int)) (by refine aa e<|aa F ?_;simp) (by simp[o]) (XH _) (by
   refine aa h<|aa P ?_;simp) (λj=>by
    rcases M (j+1)with z|z
    ·refine .inl<|aa (show i+1+j=i+(j+1)by exact tJ)<|dG z ?_;simp[df,d6,dh]
    ·refine .inr ?_
     simp only[bO,b8,cj]at z;exact aI 0x20905a1605a06065b tq z) (wc D) (λj s' hj=>by
    have e3:i+1+j=i+(j+1):=add_right_comm _ _ _;exact aa e3<|L (j+1) s'<|hj) λd l q u ih S T=>N d l q u ?_ S T
  rw[qf,aS E (l':=[xS src,xR mL,xR wL,x3,xS<|a++(b.drop c++wd' i),xI ((p+s.length:Nat):Int),xI (p:Int),xI (i:Int)]) (H':=H) ?_]
  ·exact ih
  ·simp[wrB,s1,g1,g2,g3,X,Y,Q]
theorem lP:∀(A:List IL) (i p:Nat),dz A i p=(List.range<|nI A).map λj=>V.t [.i (((j0 A p).getD j (0,[])).1:Nat),.i ((i+j:Nat):Int)]
 | [],i,p=>rfl
 | .f k t::r,i,p=>by simp only[vp,vc,qf,lP r,bO,b8,cj,df,d6,dh]
 | .n s::r,i,p=>by simp only[vp,vc,qf,lP r,bO,b8,cj,List.range_succ_eq_map,af,Y5,df,d6,dh];refine List.cons_eq_cons.2 ⟨by simp,YA λj _=>?_⟩;simp only[Function.comp_apply];congr 3;congr 1;lia
def HO (A):∀(p:Nat),(∀s∈lS A,s≠[])->∀i j,i<j->j<nI A->((j0 A p).getD i (0,[])).1<((j0 A p).getD j (0,[])).1/\p<=((j0 A p).getD i (0,[])).1:=by
 induction A with
 |nil=>intro p _ i j _ h;simp[bO,b8,cj]at h
 |cons pr r d=>cases pr with
  |f k t=>intro p e i j a h;have:=d (p+t.length) e i j a h;simp only[df,d6,dh];exact⟨this.1,ow 0x41208c0c0c84104f1b tq this⟩
  |n s=>
   intro p e i j a h;have b:0<s.length:=by have:=e s (by simp[Id,HS,Ey]);cases s with |nil=>exact Xv rfl this|cons c t=>simp
   have g:∀x∈lS r,x≠[]:=λx o=>e x (by simp[Id,HS,Ey,o]);simp only[bO,b8,cj]at h;obtain⟨j,rfl⟩:∃q,j=q+1:=⟨j-1,(YI<|Yz (X5 _) a).symm⟩;simp only[df,d6,dh,getD_cons_succ];cases i with
   |zero=>
    refine⟨?_,by simp⟩;simp only[List.getD_cons_zero];have l:∀(A:List IL) (p j:Nat),j<nI A->p<=((j0 A p).getD j (0,[])).1:=by
     intro A;induction A with
     |nil=>intro p j h;simp[bO,b8,cj]at h
     |cons x A d=>
      intro p j h;cases x with
      |f k t=>have:=d (p+t.length) j h;simp only[df,d6,dh];exact ba 0x20904406065b tq this
      |n s=>
       cases j with
       |zero=>simp[df,d6,dh]
       |succ j=>simp only[bO,b8,cj]at h;have:=d (p+s.length) j<|Zy ‹_›;simp only[df,d6,dh,getD_cons_succ];exact ba 0x20904406065b tq this
    have:=l r (p+s.length) j<|Zy ‹_›;exact ba 0x82611018196c406867b tq b this
   |succ i=>have:=d (p+s.length) g i j (Zy ‹_›)<|Zy ‹_›;simp only[getD_cons_succ];exact⟨this.1,ow 0x1048220303218413c6c406827b tq b this⟩
def Xk {A:List IL}{d:Nat}(Q:B4 H.length ZV mL H)(w:qC H.length m wd' wL H)(k:ZV=j0 A 0)(D:m=nI A)(O:2<=m)(f:m<64)(L:src=uo wd (hG A 0))(U:sh src=true)(R:sh (uo wd'<|hG A 0)=true)
  (hg:∀(j:Nat) (s:Nm),(lS A)[j]?=some s->wd j=s) (F:∀s∈lS A,s≠[]):
  ∃x,ae (d+1) 63 [.s src,.r mL,.r wL] H=some (.v<|.s<|uo wd'<|hG A 0,H++x):=by
 have E:ZV.length=m:=by rw[k,md,D]
 have i0:nW 2 0=some 0:=rfl;have r:=xz (cl:=ae d) (l:=[xS src,xR mL,xR wL,none,none,none,none,none]) (H:=H) (elt:=.p [(.t (.t (.v 1)<|.v 0)<|.i 0),(.v 0)]) (n:=.n<|.v 1) (caps:=[1]) (k:=(m:Int))
  (λv=>match v with | .i i=>.t [.i ((ZV.getD i.toNat (0,[])).1:Nat),.i i]|_=>.n) (XR (hE λY=>Y _ Q.len)<|by simp[Q.len,E]) (YG _) ((Ys (n:=1000000)).mpr<|A1 f) (λv hv=>by
   rw[Y6,show(0:Int)=((0:Nat):Int)from rfl,dc]at hv;refine ag (XN.1 hv) λi o e7=>?_;subst e7;rw[abi]at o;have S:ZV[i]?=some (ZV.getD i (0,[])):=by refine aa (Yr)<|aa (XQ<|by exact ba 0x2098821e6c406b0019800d04b1b tq o E) ?_;rfl
   have g:=Q.item S;have g0:getItem H (.t [.i ((ZV.getD i (0,[])).1:Nat),.s (ZV.getD i (0,[])).2]) (.i 0)=xI ((ZV.getD i (0,[])).1:Nat):=rfl;exact hE λY=>Y _ g _ getElem?_cons_zero) (by rw[lT];exact Xz (YU f)<|nl rfl)
 refine cps λC kC=>?_;obtain⟨b,B⟩:∃b:List<|Int×Int,b=(List.range m).map λi=>((((ZV.getD i (0,[])).1:Nat):Int),(i:Int)):=⟨_,rfl⟩;have a:b.length=m:=by refine aa B ?_;simp
 have e1:(bS 0 ((m:Int)).toNat 1).map (λv=>match v with | .i i=>V.t [.i ((ZV.getD i.toNat (0,[])).1:Nat),.i i]|_=>.n)=b.map λp=>V.t [.i p.1,.i p.2]:=by rw[Y6,show(0:Int)=((0:Nat):Int)from rfl,dc,B,Y5,Y5,List.range_eq_range'];exact YA λi _=>rfl
 rw[e1]at r;have c:=uO (ps:=b) r (be _ _) (AV O a)<|AI a f;have z:∀i,i<m->b.getD i (0,0)=((((ZV.getD i (0,[])).1:Nat):Int),(i:Int)):=λi o=>by refine aa B<|aa (Yr)<|aa (Zt)<|aa (List.getElem?_range o) ?_;rfl
 have T:iY b=List.range m:=by
  refine dG a<|JW (AV O a) (AI a f) λi j o P=>aa (z i<|zQ o a)<|aa (z j<|zQ P a) ?_;simp only[ed];rcases lt_trichotomy i j with q|q|q
  ·have:=(HO A 0 F i j q<|Hh P a D).1
   rw[<- k]at this;have h1:(((ZV.getD i (0,[])).1:Nat):Int)<((ZV.getD j (0,[])).1:Nat):=X2.mpr ‹_›;simp only[Yv h1,Yv q,Bool.true_or]
  ·subst q
   simp
  ·have:=(HO A 0 F j i q<|Hh o a D).1
   rw[<- k]at this;have h1:¬(((ZV.getD i (0,[])).1:Nat):Int)<((ZV.getD j (0,[])).1:Nat):=λh=>lt_asymm this<|X2.mp h;have O:¬(((ZV.getD i (0,[])).1:Nat):Int)=((ZV.getD j (0,[])).1:Nat):=λh=>XG this<|Int.ofNat_inj.mp h;have h3:¬i<j:=aI 0x82c00867b tq q;simp only[Ye h1,Ye O,Ye h3];rfl
 rw[T]at c;have e2:((List.range m).map λi=>V.t [.i (b.getD i (0,0)).1,.i (b.getD i (0,0)).2])=dz A 0 0:=by rw[lP,<- D,<- k];refine YA λi o=>aa (z i<|by simpa using o) ?_;simp
 rw[e2]at c;obtain⟨H2,u⟩:∃H2,H2=H++[AO.l<|b.map λp=>V.t [.i p.1,.i p.2]]++[.l<|dz A 0 0]:=⟨_,rfl⟩;obtain⟨t,I⟩:∃t,t=(H++[AO.l<|b.map λp=>V.t [.i p.1,.i p.2]]).length:=⟨_,rfl⟩;rw[<- u,<- I]at c;have G:H2[t]?=some (.l<|dz A 0 0):=by refine aa u<|aa I ?_;simp
 have X:H2=H++[AO.l<|b.map λp=>V.t [.i p.1,.i p.2],.l<|dz A 0 0]:=by refine aa u ?_;simp
 have km2:B4 H.length ZV mL H2:=by refine aa X ?_;exact Q.app _
 have w2:qC H.length m wd' wL H2:=w.keep (by rw[X];exact Kp.app _<|XH _);refine PX (cl:=ae d) (ok:=a3 t<|dz A 0 0) (x3:=xR t) (wd:=wd) (cS G) km2 w2 U R A 0 0 0 [] [] none none (L) rfl (XH _) (rfl) (λj=>by rw[k,Yx];exact .inl rfl) (aI 0x4006b2400879b tq D) (λj s P=>by rw[Yx];exact hg j s P) λl e x6' x7' lp M N=>?_
 have lpe:bx (ae d) a4 [xS src,xR mL,xR wL,xR t,xS [],xI 0,none,none] H2 eX=some (.n [xS src,xR mL,xR wL,xR t,xS l,xI (e:Nat),x6',x7'],H2):=by exact aa zq<|aa (uB (a:=t) (vs:=dz A 0 0) (rfl) G<|by rw[lP,X6,List.length_range];exact aI 0x7a12044120043cd880e0867b tq f D) lp
 have W:=j4 U;have J:O2 (.s src) (.i (e:Nat))=xS (src.drop e):=by simp only[O2,nJ (n:=e)<|Iq N W,U,ZP,if_true,w8,pF,cy];unfold Gg;exact aa (min_eq_left N)<|aa (aab<|XH _) rfl
 have y:=Xy List.length M;simp only[XB]at y;have a1:=BN (a:=l) (b:=src.drop e) (tV R<|ba 0x209080c0879b tq y)<|tV R<|ba 0x209004c0879b tq y;rw[<- M]at a1;refine kC<|⟨[AO.l<|b.map λp=>V.t [.i p.1,.i p.2],.l<|dz A 0 0],?_⟩
 ·refine dG X<|aa (aU (f:=dP) rfl rfl) ?_
  have e0:List.map some [V.s src,V.r mL,V.r wL]++List.replicate (dP.vars-dP.p) none=[xS src,xR mL,xR wL,none,none,none,none,none]:=rfl;refine aa e0 ?_;simp[dP,c,lpe,J,a1]
end
set_option genInjectivity false in
structure pu where
 w:Nat
 p:Nat
 e:Nat
 m:Nat
 v:Nat
 s:Nat
set_option genInjectivity false in
structure bZ where
 d:Nm
 m:List (Nat×Nm)
 a:List Ev
 b:Int
 c:Nat
structure GR(A:pu)(H:Hp)(G:bZ):Prop where
 v:A.w<A.p
 s:A.p<A.e
 u:A.e<A.m
 n:A.m<A.v
 j:A.v<A.s
 f:∃(t:Int) (l:List Int),H[A.p]?=some (.l [.r A.w,.i t])/\H[A.w]?=some (.l<|l.map V.i)/\(∀x∈l,0<=x/\x<1000)/\l.length<=900/\0<=t/\t<1000
 he:∃ss:List Nm,H[A.e]?=some (.l<|ss.map V.s)/\ss.flatten=G.d/\ss.length<=G.c
 hm:H[A.m]?=some (.l<|G.m.map λp=>V.t [.i p.1,.s p.2])
 g:H[A.v]?=some (.l<|G.a.map lw)
 d:H[A.s]?=some (.l [.r A.e,.i G.d.length,.r A.m,.r A.v,.i G.b])
 bm:G.m.length<=G.c
 bv:G.a.length<=G.c
 w:G.d.length<=30*G.c
 m:G.c<=900
structure GK(A:pu)(H H':Hp):Prop where
 ln:H.length<=H'.length
 lo:∀i,i≠A.w->i≠A.p->i≠A.e->i≠A.m->i≠A.v->i≠A.s->i<H.length->H'[i]?=H[i]?
section
variable{d:Nat}
def GK.refl (A)(H):GK A H H:=⟨XH _,λ_ _ _ _ _ _ _ _=>rfl⟩
def GK.trans (a:GK A H k)(b:GK A k H3):GK A H H3:=
 ⟨Xz a.ln b.ln,λi h1 h c e f g j=>(b.lo i h1 h c e f g<|XO j a.ln).trans<|a.lo i h1 h c e f g j⟩
def GK.app (A)(H x):GK A H<|H++x:=⟨by simp,λi _ _ _ _ _ _ h=>aa (Yg h) rfl⟩
def GK.set (o)(h:a=A.w\/a=A.p\/a=A.e\/a=A.m\/a=A.v\/a=A.s):GK A H<|H.set a o:=
 ⟨by simp,λi h1 b c f g j _=>YM (λe=>by subst e;exact h.elim h1 (·.elim b (·.elim c (·.elim f (·.elim g j)))))⟩
def GR.lwp (r:GR A H G):A.w<A.p:=r.v
def GR.lwe (r:GR A H G):A.w<A.e:=XY r.lwp r.s
def GR.lwm (r:GR A H G):A.w<A.m:=XY r.lwe r.u
def GR.lwv (r:GR A H G):A.w<A.v:=XY r.lwm r.n
def GR.lws (r:GR A H G):A.w<A.s:=XY r.lwv r.j
def GR.lpe (r:GR A H G):A.p<A.e:=r.s
def GR.lpm (r:GR A H G):A.p<A.m:=XY r.lpe r.u
def GR.lpv (r:GR A H G):A.p<A.v:=XY r.lpm r.n
def GR.lps (r:GR A H G):A.p<A.s:=XY r.lpv r.j
def GR.lem (r:GR A H G):A.e<A.m:=r.u
def GR.lev (r:GR A H G):A.e<A.v:=XY r.lem r.n
def GR.les (r:GR A H G):A.e<A.s:=XY r.lev r.j
def GR.lmv (r:GR A H G):A.m<A.v:=r.n
def GR.lms (r:GR A H G):A.m<A.s:=XY r.lmv r.j
def GR.lvs (r:GR A H G):A.v<A.s:=r.j
def GR.new (r:GR A H G):A.e≠A.w:=XG r.lwe
def GR.nep (r:GR A H G):A.e≠A.p:=XG r.lpe
def GR.nev (r:GR A H G):A.e≠A.v:=Yy r.lev
def GR.nes (r:GR A H G):A.e≠A.s:=Yy r.les
def GR.nmw (r:GR A H G):A.m≠A.w:=XG r.lwm
def GR.nmp (r:GR A H G):A.m≠A.p:=XG r.lpm
def GR.nms (r:GR A H G):A.m≠A.s:=Yy r.lms
def GR.nvw (r:GR A H G):A.v≠A.w:=XG r.lwv
def GR.nvp (r:GR A H G):A.v≠A.p:=XG r.lpv
def GR.nve (r:GR A H G):A.v≠A.e:=XG r.lev
def GR.nsw (r:GR A H G):A.s≠A.w:=XG r.lws
def GR.nsp (r:GR A H G):A.s≠A.p:=XG r.lps
def GR.nse (r:GR A H G):A.s≠A.e:=XG r.les
def GR.nsm (r:GR A H G):A.s≠A.m:=XG r.lms
def GR.nsv (r:GR A H G):A.s≠A.v:=XG r.lvs
def GR.app (r:GR A H G)(x):GR A (H++x) G:=by exact cps λC k=>am r.f λt l a b c=>ag r.he λi e h=>k<|{r with f:=⟨t,l,fk a,fk b,c⟩,he:=⟨i,fk e,h⟩,hm:=fk r.hm,g:=fk r.g,d:=fk r.d}
def GR.adp (r:GR A H G)(o)(h:a≠A.w/\a≠A.p/\a≠A.e/\a≠A.m/\a≠A.v/\a≠A.s):GR A (H.set a o) G:=by exact cps λC k=>am r.f λt l x b c=>ag r.he λp e i=>k<|{r with f:=⟨t,l,aB x<|h.2.1,aB b<|h.1,c⟩,he:=⟨p,aB e<|h.2.2.1,i⟩,hm:=aB r.hm<|h.2.2.2.1,g:=aB r.g<|h.2.2.2.2.1,d:=aB r.d<|h.2.2.2.2.2}
def getL {a i:Nat}(h:H[a]?=some (.l l))(c:l.length<=900)(b:l[i]?=some v):getItem H (.r a) (.i<|i)=some v:=by have:=vz (re b)<|Xz ‹_›<|nl rfl;simp[zL h,this,b]
def GR.items (r:GR A H G):getItem H (.r A.s) (.i 0)=xR A.e/\getItem H (.r A.s) (.i 1)=xI G.d.length/\getItem H (.r A.s) (.i 2)=xR A.m/\getItem H (.r A.s) (.i 3)=xR A.v/\getItem H (.r A.s) (.i 4)=xI G.b:=
 ⟨getL (i:=0) r.d (nl rfl) rfl,getL (i:=1) r.d (nl rfl) rfl,getL (i:=2) r.d (nl rfl) rfl,getL (i:=3) r.d (nl rfl) rfl,getL (i:=4) r.d (nl rfl) rfl⟩
def jh (h:-1000000<=x)(h1:x<=1000000):sm x=true:=BX (Za (by decide) h) (aap h1<|by decide)
def kd (h:0<b)(h1:b<=1000000):fQ .m (.i a) (.i b)=xI (a % b):=by simp only[fQ,Yv h,jh (x:=b) (Yi (by decide)<|YN h) h1,ZP,if_true,cy]
def Nc (h:0<=a)(h1:a<=1000000)(c:0<=b)(e:b<=1000000):fQ .mul (.i a) (.i b)=xI (a*b):=by simp only[fQ,jh (x:=a) (Yi (by decide) h) h1,jh (x:=b) (Yi (by decide) c) e,ZP,if_true,cy,pF,Jt]
structure PL(wa pa:Nat)(H:Hp):Prop where
 o:wa<pa
 f:∃(t:Int) (l:List Int),H[pa]?=some (.l [.r wa,.i t])/\H[wa]?=some (.l<|l.map V.i)/\(∀x∈l,0<=x/\x<1000)/\l.length<=900/\0<=t/\t<1000
def PL.app (p:PL w e H)(x):PL w e<|H++x:=by exact am p.f λt l a b c=>⟨p.o,t,l,fk a,fk b,c⟩
structure PK(wa pa:Nat)(H H':Hp):Prop where
 ln:H.length<=H'.length
 lo:∀i,i≠wa->i≠pa->i<H.length->H'[i]?=H[i]?
def Ov (r:PL wa pa H)(f:0<w)(h1:w<=1000)(J:1<=d){Cx:Prop}(p:∀x B,ae d 50 [.r pa,.i w] H=some (.v<|.i x,B)->0<=x->x<w->PL wa pa B->PK wa pa H B->Cx):Cx:=by
 revert p;refine lR 1 J rfl λd J p=>DK r.f λt l p1 p2 F v G I=>?_;have o:=r.o;have C:getItem H (.r pa) (.i 0)=xR wa:=getL (i:=0) p1 (nl rfl) rfl;have k:PK wa pa H<|H++[.l []]:=⟨by simp,λi _ _ h=>aa (Yg h) rfl⟩;have q:(H++[AO.l []])[pa]?=some (.l [.r wa,.i t]):=fk p1;have j:(H++[AO.l []])[wa]?=some (.l<|l.map V.i):=fk p2;have M:(H++[AO.l []])[H.length]?=some (.l<|([]:List Int).map V.i):=be _ _;have c:=Cf j M;obtain⟨a,b⟩:∃a,a=H++[AO.l []]:=⟨_,rfl⟩;rw[<- b]at k q j M c;have q:=q;have D:getItem a (.r pa) (.i 0)=xR wa:=getL (i:=0) q (nl rfl) rfl;have g:getItem a (.r pa) (.i 1)=xI t:=getL (i:=1) q (nl rfl) rfl;by_cases A:l=[]
 ·rw[Yv A]at c
  by_cases L:0<t
  ·have S:=Nc (a:=t) (b:=29) G (Yi (YN I)<|by decide) (by decide) (by decide)
   have T:=kd (a:=t*29+7) (b:=997) (by decide) (by decide);obtain⟨t2,e⟩:∃t2,t2=max ((t*29+7) % 997) 1:=⟨_,rfl⟩;have O:0<=t2/\t2<1000:=⟨Yi (by decide)<|e▸Int.le_max_right _ _,e▸Int.max_lt.mpr ⟨Int.lt_trans (aax _<|by decide)<|by decide,by decide⟩⟩;have R:nW 2 1=some 1:=rfl;have U:setItem a (.r pa) (.i 1) (.i t2)=some (a.set pa<|.l [.r wa,.i t2]):=by simp[Mj q,q,R]
   have N:(a.set pa<|.l [.r wa,.i t2])[pa]?=some (.l [.r wa,.i t2]):=dU q;have P:getItem (a.set pa<|.l [.r wa,.i t2]) (.r pa) (.i 1)=xI t2:=getL (i:=1) N (nl rfl) rfl;have u:=kd (a:=t2) (b:=w) f (Yi h1<|by decide);refine p (t2 % w) (a.set pa<|.l [.r wa,.i t2]) ?_ (ZF _<|Y1 ‹_›) (aax _ f) ⟨o,t2,l,N,aB j<|XG ‹_›,F,v,O⟩ ⟨by have:=k.ln;simp;exact kA this,λi h1 z E=>by refine aa (YM<|X1 z) ?_;exact k.lo i h1 z E⟩;refine aa (aU (f:=jQ) rfl rfl) ?_;subst b e;exact jJ λn=>n _ C _ c _ g _ (kr rfl L) _ g _ S _ rfl _ T _ U _ P _ u
  ·have u:=kd (a:=t) (b:=w) f (Yi h1<|by decide)
   refine p (t % w) a (aa (aU (f:=jQ) rfl rfl) ?_) (ZF _<|Y1 ‹_›) (aax _ f) ⟨o,t,l,q,j,F,v,G,I⟩ k;subst b;exact jJ λn=>n _ C _ c _ g _ (fv rfl L) _ g _ u
 ·rw[Ye A]at c
  obtain⟨s,x,rfl⟩:∃s x,l=s++[x]:=⟨l.dropLast,l.getLast A,(aa2 A).symm⟩;have m:vH a wa=some (.i x,a.set wa<|.l<|s.map V.i):=by simp only[vH,j,Zq,af,map_nil,getLast?_concat,dropLast_concat,bc,ci];exact aa (Xr<|by simp only[XB,X6,aM,bA]at *;exact bB 0x3d090221681ac0325c2382d035806065b tq v) rfl
  have u:=kd (a:=x) (b:=w) f (Yi h1<|by decide);refine p (x % w) (a.set wa<|.l<|s.map V.i) ?_ (ZF _<|Y1 ‹_›) (aax _ f) ⟨o,t,s,aB q<|Yy ‹_›,dU j,λy Q=>F y<|mem_append_left _ Q,by simp only[XB,aM,bA]at v;exact bB 0x3847025c2382d035806065b tq v,G,I⟩ ⟨by have:=k.ln;simp;exact kA this,λi h1 z E=>by refine aa (YM<|X1 h1) ?_;exact k.lo i h1 z E⟩;refine aa (aU (f:=jQ) rfl rfl) ?_;subst b;exact jJ λn=>n _ C _ c _ D _ _ m _ u
def OM (r:GR A H G)(m:0<w)(h1:w<=1000)(q:1<=d){Cx:Prop}(s:∀x b,ae d 50 [.r A.p,.i w] H=some (.v<|.i x,b)->0<=x->x<w->GR A b G->GK A H b->Cx):Cx:=by refine Ov (wa:=A.w) (pa:=A.p) ⟨r.v,r.f⟩ m h1 q λx b e v y p k=>?_;have c:∀{a o},a≠A.w->a≠A.p->H[a]?=some o->b[a]?=some o:=λn1 t h=>(k.lo _ n1 t<|xd h).trans h;exact ag r.he λu j l=>s x b e v y ({r with f:=p.f,he:=⟨u,c r.new r.nep j,l⟩,hm:=c r.nmw r.nmp r.hm,g:=c r.nvw r.nvp r.g,d:=c r.nsw r.nsp r.d}) ⟨k.ln,λi h1 n _ _ _ _ h=>k.lo i h1 n h⟩
noncomputable def bZ.emit(G:bZ)(t:Nm):bZ:={G with d:=G.d++t,c:=G.c+1}
def UC {t:Nm}(r:GR A H G)(v:t.length<=30)(j:G.c<900)(m:1<=d){Cx:Prop}(k:∀b,ae d 51 [.r A.s,.s t] H=some (.v .n,b)->GR A b (G.emit t)->GK A H b->Cx):Cx:=by
 revert k;refine lR 1 m rfl λd m k=>?_;have B:=r.v;have C:=r.s;have D:=r.u;have E:=r.n;have F:=r.j;refine aj r.he λg e q i=>XE (λw _=>?_) r.items;have c:mB H A.e=true:=kB e;have a:bF H A.e (.s t)=some (H.set A.e<|.l<|(g++[t]).map V.s):=by simp only[bF,e,X6,bc];refine aa (Xr<|Xz i<|YU<|XY j<|nl rfl) ?_;simp
 obtain⟨H1,h⟩:∃H1,H1=H.set A.e (.l<|(g++[t]).map V.s):=⟨_,rfl⟩;have s:H1[A.s]?=some (.l [.r A.e,.i G.d.length,.r A.m,.r A.v,.i G.b]):=by refine aa h ?_;exact aB r.d<|r.nes
 have z:GK A H H1:=by refine aa h ?_;exact GK.set _<|.inr<|.inr<|.inl rfl
 have g1:getItem H1 (.r A.s) (.i 1)=xI G.d.length:=getL (i:=1) s (nl rfl) rfl;have f:ej H1 (.s t)=some (t.length:Int):=by have:sh t=true:=e5.mpr<|Xz ‹_›<|nl rfl;simp only[ej,this,if_true,ci]
 have x:nW 5 1=some 1:=rfl;have J:setItem H1 (.r A.s) (.i 1) (.i (G.d.length+t.length:Int))=some (H1.set A.s<|.l [.r A.e,.i (G.d.length+t.length:Int),.r A.m,.r A.v,.i G.b]):=by simp[Mj s,s,x]
 have u:d5 .a (.i (G.d.length:Int)) (.i (t.length:Int))=xI (G.d.length+t.length:Int):=rfl;refine k (H1.set A.s<|.l [.r A.e,.i (G.d.length+t.length:Int),.r A.m,.r A.v,.i G.b]) ?_ ?_<|z.trans<|GK.set _<|.inr<|.inr<|.inr<|.inr<|.inr rfl
 ·refine aa (aU (f:=sv) rfl rfl) ?_
  rw[<- h]at a;exact jJ λy=>y _ w c _ a _ g1 _ f _ u _ J
 ·refine am r.f λL l p1 p2 I=>?_
  have n:=r.bm;have p:=r.bv;have o:=r.w;refine aa h ?_;rw[h]at s;refine⟨B,C,D,E,F,⟨L,l,aB (aB p1<|XG ‹_›)<|r.nsp,aB (aB p2<|r.new)<|r.nsw,I⟩,⟨g++[t],aB (dU e)<|r.nse,by simp[bZ.emit,q],by simp[bZ.emit];exact kA i⟩,aB (aB r.hm<|Yy ‹_›)<|r.nsm,aB (aB r.g<|r.nev)<|XG ‹_›,?_,by simp only[bZ.emit];exact aC n,by simp only[bZ.emit];exact aC p,by simp only[bZ.emit,XB];exact ba 0x16899e6bc2064bcd0865b179af0065b tq o v,by simp only[bZ.emit];exact bB 0x708e0b40c9708e0067b tq j⟩;refine aa (dU s) ?_;simp[bZ.emit]
noncomputable def bZ.mark(G:bZ)(s:Nm):bZ:={G with d:=G.d++s,m:=G.m++[(G.d.length,s)],c:=G.c+2}
def Vs {s:Nm}(r:GR A H G)(z:s.length<=30)(e:G.c<890)(i:2<=d){Cx:Prop}(k:∀f,ae d 52 [.r A.s,.s s] H=some (.v<|.i G.m.length,f)->GR A f (G.mark s)->GK A H f->Cx):Cx:=by
 revert k;refine lR 1 i rfl λd i k=>?_;have I:=r.v;have J:=r.s;have L:=r.u;have M:=r.n;have N:=r.j;have g:=r.bm;have t:=r.bv;have o:=r.w;have u:=r.m;refine bU r.items λU B C W X=>?_;have j:mB H A.m=true:=kB r.hm;have a:bF H A.m (.t [.i G.d.length,.s s])=some (H.set A.m<|.l<|(G.m++[(G.d.length,s)]).map λp=>V.t [.i p.1,.s p.2]):=by simp only[bF,r.hm,X6,bc];refine aa (Xr<|by exact qw g e) ?_;simp
 obtain⟨H1,h⟩:∃H1,H1=H.set A.m (.l<|(G.m++[(G.d.length,s)]).map λp=>V.t [.i p.1,.s p.2]):=⟨_,rfl⟩;have F:GK A H H1:=by refine aa h ?_;exact GK.set _<|.inr<|.inr<|.inr<|.inl rfl
 refine aj r.he λS v w x=>am r.f λT l p1 p2 O=>?_;rw[<- h]at a;have R:GR A H1 {G with m:=G.m++[(G.d.length,s)],c:=G.c+1}:=by refine aa h<|⟨I,J,L,M,N,⟨T,l,aB p1<|r.nmp,aB p2<|r.nmw,O⟩,⟨S,aB v<|XG ‹_›,w,by simp only[];exact aC x⟩,dU r.hm,aB r.g<|Yy ‹_›,aB r.d<|r.nms,by simp only[XB,aM,bA];exact jr g,by simp only[];exact aC t,by simp only[];exact zb o,by simp only[];exact zM e u⟩
 refine UC (d:=d) R z (up e rfl) (dn i rfl) λn P q Q=>?_;have b:ej n (.r A.m)=some ((G.m.length:Int)+1):=by have:=bz q.hm (by simp[bZ.emit];exact aI 0x7a11fc412de9c10cf610065b tq g e);simpa [bZ.emit]using this
 refine tM q.items λY j1 D _=>k n (aa (aU (f:=tO) rfl rfl) ?_) q<|F.trans Q;have y:(G.m.length:Int)+1-1=G.m.length:=aam ..;exact jJ λE=>E _ C j _ B _ a _ _ P _ D _ b (.i G.m.length) (by show xI _=_;rw[y])
noncomputable def bZ.ev(G:bZ)(e:Ev):bZ:={G with a:=G.a++[e],c:=G.c+1}
def wh {e:Ev}(r:GR A H G)(h:G.c<890):mB H A.v=true/\∃H',bF H A.v (lw e)=some H'/\GR A H' (G.ev e)/\GK A H H':=by
 have o:=r.v;have m:=r.s;have n:=r.u;have p:=r.n;have q:=r.j;have a:=r.bm;have b:=r.bv;have c:=r.w;have f:=r.m;refine cps λC k=>aj r.he λt g i j=>am r.f λu l p1 p2 s=>?_;have z:=r.g;refine k<|⟨by exact kB z,H.set A.v<|.l<|(G.a++[e]).map lw,?_,?_,GK.set _<|.inr<|.inr<|.inr<|.inr<|.inl rfl⟩
 ·simp only[bF,z,X6,bc]
  refine aa (Xr<|by exact qw b h) ?_;simp
 ·refine⟨o,m,n,p,q,⟨u,l,aB p1<|r.nvp,aB p2<|r.nvw,s⟩,⟨t,aB g<|r.nve,i,by simp only[bZ.ev];exact aC j⟩,aB r.hm<|XG ‹_›,dU z,aB r.d<|Yy ‹_›,by simp only[bZ.ev];exact aC a,by simp only[bZ.ev,XB,aM,bA];exact jr b,by simp only[bZ.ev];exact zb c,by simp only[bZ.ev];exact zM h f⟩
noncomputable def bZ.mkA(G:bZ)(p:Nat)(s:Nm):bZ:={G with m:=G.m++[(p,s)],c:=G.c+1}
def Jb {p:Nat}{s:Nm}(r:GR A H G)(h:G.c<890){Cx:Prop}(k:mB H A.m=true->∀a,bF H A.m (.t [.i p,.s s])=some a->GR A a (G.mkA p s)->GK A H a->Cx):Cx:=by
 have o:=r.v;have m:=r.s;have n:=r.u;have q:=r.n;have t:=r.j;have b:=r.bm;have e:=r.bv;have c:=r.w;have f:=r.m;refine aj r.he λv g i j=>am r.f λw l p1 p2 u=>k (kB r.hm) (H.set A.m<|.l<|(G.m++[(p,s)]).map λp=>V.t [.i p.1,.s p.2]) ?_ ?_<|GK.set _<|.inr<|.inr<|.inr<|.inl rfl
 ·simp only[bF,r.hm,X6,bc]
  refine aa (Xr<|by exact qw b h) ?_;simp
 ·refine⟨o,m,n,q,t,⟨w,l,aB p1<|r.nmp,aB p2<|r.nmw,u⟩,⟨v,aB g<|XG ‹_›,i,by simp only[bZ.mkA];exact aC j⟩,dU r.hm,aB r.g<|Yy ‹_›,aB r.d<|r.nms,by simp only[bZ.mkA,XB,aM,bA];exact jr b,by simp only[bZ.mkA];exact aC e,by simp only[bZ.mkA];exact zb c,by simp only[bZ.mkA];exact zM h f⟩
noncomputable def bZ.out(G:bZ)(L:List IL)(e:List Ev)(k:Nat):bZ:={G with d:=G.d++jg L,m:=G.m++j0 L G.d.length,a:=G.a++e,c:=G.c+k}
def dY (G:bZ)(L a:List IL)(b e:List Ev)(k c:Nat):(G.out L b k).out a e c=G.out (L++a) (b++e) (k+c):=by simp[bZ.out,X7]
def GR.cast (r:GR A H G)(e:G=G'):GR A H G':=e▸r
def uL:List Nm:=[[97],[98],[99],[100],I7,[97],[98]]
def Lb:∀x∈uL,x∈cK/\x.length<=30:=by decide
def WK (r:GR A H G)(i:G.c<880)(e:3<=d){Cx:Prop}(l:∀x f,ae d 53 [.r A.p,.r A.s] H=some (.v .n,f)->x∈uL->GR A f (G.out [.n x] [.u G.m.length] 3)->GK A H f->Cx):Cx:=by
 revert l;refine lR 1 e rfl λd e l=>?_;obtain⟨L,c⟩:∃L,L=uL.map V.s:=⟨_,rfl⟩;have Q:=r.app [.l L];have E:=GK.app A H [.l L];have z:(H++[AO.l L])[H.length]?=some (.l L):=be _ _;have F:H.length<(H++[AO.l L]).length:=by simp
 refine OM (d:=d) (w:=7) Q (by decide) (by decide) (dn e rfl) λx m p1 p2 Y p t=>?_;obtain⟨n,B⟩:∃n:Nat,x=(n:Int):=⟨x.toNat,(Zh p2).symm⟩;subst B;have k:n<7:=X2.mp ‹_›;have v:=xd r.d;have g:∀{a},a<A.s->H.length≠a:=λh=>XG<|XY h v;have j:m[H.length]?=some (.l L):=by refine aa (t.lo _ (g r.lws) (g r.lps) (g r.les) (g r.lms) (g r.lvs) (XG v) F) ?_;exact z
 have b:n<uL.length:=k;have o:getItem m (.r H.length) (.i (n:Int))=xS (uL[n]'b):=getL j (by refine aa c ?_;decide) (by refine aa c ?_;simp);refine XE (λI s=>?_)<|Lb _<|Zj b;have q:=Zj b;generalize uL[n]'b=nm at o I s q;refine bU p.items λT U W C X=>XE (λR _=>Vs (d:=d) p s (yw i rfl) (dn e rfl) λS J M N=>nF (wh (e:=.u G.m.length) M<|up i rfl) λv2 w u O P=>l nm w ?_ q (O.cast<|by simp[bZ.mark,bZ.ev,bZ.out,fL,iI,gX,df,d6,dh])<|((E.trans t).trans N).trans P)<|wh (e:=.o) p<|yw i rfl;have y:L=[.s [97],.s [98],.s [99],.s [100],.s [65,66,83],.s [97],.s [98]]:=by refine aa c ?_;rfl
 rw[y]at p1;unfold lw A4 at u;exact tm (f:=vu) rfl rfl λD=>D _ _ p1 _ o _ C R _ _ J _ u
end
noncomputable def pJ:List Nm:=[[97],[98],[99],[100]]
structure TK(A:pu)(H:Hp)(ta:Nat)(tk:List Nm):Prop where
 g:H[ta]?=some (.l<|tk.map V.s)
 ne:ta≠A.w/\ta≠A.p/\ta≠A.e/\ta≠A.m/\ta≠A.v/\ta≠A.s
 a:∀x∈tk,x∈pJ
 j:tk.Nodup
structure GX(A:pu)(ta:Nat)(H H':Hp):Prop where
 ln:H.length<=H'.length
 lo:∀i,i≠ta->i≠A.w->i≠A.p->i≠A.e->i≠A.m->i≠A.v->i≠A.s->i<H.length->H'[i]?=H[i]?
section
variable{A:pu}{H H' H1 H2 H3:Hp}{G:bZ}{d ta:Nat}{tk:List Nm}
def GK.gx (k:GK A H H')(ta):GX A ta H H':=⟨k.ln,λi _=>k.lo i⟩
def GX.trans (a:GX A ta H1 H2)(b:GX A ta H2 H3):GX A ta H1 H3:=
 ⟨Xz a.ln b.ln,λi h h1 c e f g j k=>(b.lo i h h1 c e f g j<|XO k a.ln).trans<|a.lo i h h1 c e f g j k⟩
def TK.keep (t:TK A H ta tk)(k:GK A H H'):TK A H' ta tk:=
 ⟨(k.lo _ t.ne.1 t.ne.2.1 t.ne.2.2.1 t.ne.2.2.2.1 t.ne.2.2.2.2.1 t.ne.2.2.2.2.2<|xd t.g).trans t.g,t.ne,t.a,t.j⟩
def DB {l m:List Nm}(h:l.Nodup)(a:∀x∈l,x∈m):l.length<=m.length:=h.length_le_of_subset a
def TK.len (t:TK A H ta tk):tk.length<=4:=DB t.j t.a
def ye:(∀x∈tk,x∈pJ)->X9 3 (tk.map V.s)=true:=by
 induction tk with
 |nil=>intro _;simp[i5]
 |cons x tk i=>
  intro h;have b:bw 3 (.s x)=true:=by
   have:∀y∈pJ,bw 3 (.s y)=true:=by intro y a;simp only[pJ,XD,XZ,or_false]at a;rcases a with rfl|rfl|rfl|rfl<;>rfl
   exact this x<|h x<|.head _
  simp[jp,b,i λy a=>h y<|.tail _ a]
def TK.isin (t:TK A H ta tk)(c:x∈pJ):aY H (.Zk ()) (.s x) (.r ta)=some (!tk.contains x):=by
 show(fW H (.s x)<|.r ta).map (!·)=_;have b:bw 3 (.s x)=true:=by have:=ye (tk:=[x]) (λy h=>by simp at h;subst h;exact c);simpa [i5,jp]using this
 rw[L6 t.g<|by rw[ye t.a,b];rfl,da];rfl
def BH {k:Nat}(h:k<4):getItem H (.s [97,98,99,100]) (.i (k:Int))=xS (pJ.getD k [])/\pJ.getD k []∈pJ:=by have:k=0\/k=1\/k=2\/k=3:=Vo h;clear h;rcases this with rfl|rfl|rfl|rfl<;> exact⟨rfl,by decide⟩
def Pe (c:Cl):V->Lo->Hp->Option (Fl×Hp):=λv l H'=>XU c a4 (l.set 3<|some v) H' [.s 4<|.t (.s [97,98,99,100])<|.o .m (.o .a (.v 2)<|.v 3)<|.i 4,.i (.q (.Zk ()) (.v 4)<|.v 1) [.a (.v 1)<|.v 4,.r<|.v 4] []]
abbrev VY (c:Cl)(p:V)(ta:Nat)(tk:List Nm)(f:Nat)(H:Hp)(b:List Nat)(e g:Option V):Prop:=
  (∃o a,aK (Pe c) (λ_=>true) (b.map λ(i:Nat)=>V.i i) [some p,xR ta,xI (f:Int),e,g] H=some (.n [some p,xR ta,xI (f:Int),o,a],H)/\∀s∈b,pJ.getD ((f+s) % 4) []∈tk)\/
  ∃x,x∈pJ/\x∉tk/\aK (Pe c) (λ_=>true) (b.map λ(i:Nat)=>V.i i) [some p,xR ta,xI (f:Int),e,g] H=some (.r<|.s x,H.set ta<|.l<|(tk++[x]).map V.s)
def Rw (t:TK A H ta tk)(w:List Nat):∀(o o4:Option V),VY cl p ta tk f H w o o4:=by
 induction w with
 |nil=>intro o o4;exact .inl ⟨o,o4,bp rfl,λs D=>by cases D⟩
 |cons s w E=>
  intro o o4;refine XE (λg m=>?_)<|BH (H:=H) (Nat.mod_lt _ (nl rfl):(f+s) % 4<4);obtain⟨k,j⟩:∃k,k=(f+s) % 4:=⟨_,rfl⟩;have r:fQ .m (.i<|(f:Int)+(s:Int)) (.i 4)=xI (((f+s) % 4:Nat):Int):=by congr 2
  have i:=t.isin m;rw[<- j]at r g m i;obtain⟨x,l⟩:∃x,x=pJ.getD k []:=⟨_,rfl⟩;rw[<- l]at g m i;have L:=t.len;by_cases n:x∈tk
  ·have v:tk.contains x=true:=by simpa using n
   rw[v]at i;have i:=i;have B:Pe cl (.i (s:Int)) [some p,xR ta,xI (f:Int),o,o4] H=some (.n [some p,xR ta,xI (f:Int),xI (s:Int),xS x],H):=by simp[Pe,r,g,i]
   rcases E (xI (s:Int)) (xS x)with⟨a,b,c,e⟩|⟨y,F,I,J⟩
   ·refine .inl ⟨a,b,by rw[af,aS rfl B];exact c,λq C=>?_⟩
    rcases XD.1 C with z|z
    ·clear c C r B;subst z
     exact(λy e h=>by rw[<- j,<- e];exact h) x l n
    ·exact e q z
   ·exact .inr ⟨y,F,I,by rw[af,aS rfl B];exact J⟩
  ·have v:tk.contains x=false:=by simpa using n
   rw[v]at i;have u:bF H ta (.s x)=some (H.set ta<|.l<|(tk++[x]).map V.s):=by simp only[bF,t.g,X6,bc];rw[Xr<|Xz ‹_›<|nl rfl];simp
   refine .inr ⟨x,m,n,?_⟩;rw[af,lO rfl (x:=.s x) (H':=H.set ta<|.l<|(tk++[x]).map V.s) ?_];simp[Pe,r,g,i,(kB t.g:mB H ta=true),u]
def TQ (r:GR A H G)(t:TK A H ta tk)(j:2<=d){Cx:Prop}(k:∀x H',ae d 54 [.r A.p,.r ta] H=some (.v<|.s x,H')->GR A H' G->GX A ta H H'->(((x∈pJ/\x∉tk/\TK A H' ta (tk++[x]))\/(x=[]/\TK A H' ta tk/\∀c∈pJ,c∈tk)))->Cx):Cx:=by
 revert k;refine lR 1 j rfl λd j k=>OM (d:=d) (w:=4) r (by decide) (by decide) (dn j rfl) λv H1 p1 p2 L D p=>?_;obtain⟨f,rfl⟩:∃f:Nat,v=(f:Int):=⟨v.toNat,(Zh p2).symm⟩;have n:=t.keep p;have l:bx (ae d) a4 [xR A.p,xR ta,xI (f:Int),none,none] H1 gq=aK (Pe<|ae d) (λ_=>true) ((List.range' 0 4).map λ(i:Nat)=>V.i i) [xR A.p,xR ta,xI (f:Int),none,none] H1:=by unfold gq;rfl
 rcases Rw (cl:=ae d) (p:=.r A.p) (f:=f) n (List.range' 0 4) none none with⟨a,b,c,e⟩|⟨y,E,F,M⟩
 ·rw[c]at l
  refine k ([]) H1 ?_ D (p.gx ta)<|.inr ⟨rfl,n,?_⟩
  ·exact jJ λm=>m _ _ p1 _ _ l
  ·have o:=e 0 (by decide)
   have s:=e 1 (by decide);have u:=e 2 (by decide);have w:=e 3 (by decide);have:f=0\/f=1\/f=2\/f=3:=(by decide:∀f,f<4->f=0\/f=1\/f=2\/f=3) f<|X2.mp L;intro q h;simp only[pJ,XD,XZ,or_false]at h;rcases this with rfl|rfl|rfl|rfl<;>(simp only[pJ]at o s u w;rcases h with rfl|rfl|rfl|rfl<;>first| exact o| exact s| exact u| exact w)
 ·rw[M]at l
  refine k y (H1.set ta<|.l<|(tk++[y]).map V.s) ?_ (D.adp _ t.ne) ((p.gx ta).trans ⟨by simp,λi I _ _ _ _ _ _ _=>YM<|X1 I⟩)<|.inl ⟨E,F,dU n.g,t.ne,?_,?_⟩
  ·exact jJ λm=>m _ _ p1 _ _ l
  ·intro q h
   refine cps λC k=>?_;rcases YH.1 h with z|z
   ·exact k<|t.a q z
   ·refine k ?_
    simp at z;subst z;exact E
  ·rw[YT]
   refine⟨t.j,by simp,λa J b B g=>?_⟩;simp at B;subst B;subst g;exact F J
def ug (L:List IL):Prop:=∀s∈lS L,s∈cK
def Uv (h:x∈uL):x∈cK:=(Lb x h).1
end
section
variable{G:bZ}{L M:List IL}{es:List Ev}{k:Nat}
def GR.up (q:GR A H G)(h1:G.c<=k)(h:k<=900):GR A H {G with c:=k}:=by refine cps λC b=>aj q.he λi e a l=>?_;have:=q.bm;have:=q.bv;have:=q.w;exact b<|{q with he:=⟨i,e,a,zh ‹_› ‹_›⟩,bm:=zh ‹_› ‹_›,bv:=zh ‹_› ‹_›,w:=ba 0x7cd7824117a5b179af0065b tq ‹_› ‹_›,m:=h}
def aJ (h:ug L)(c:ug b):ug<|L++b:=λs a=>by
 rw[wn]at a;rcases YH.1 a with z|z
 ·exact h s z
 ·exact c s z
def a6 (h:lS L=[]):ug L:=λs a=>by rw[h]at a;cases a
def cY (h:lS L=[x])(b:x∈cK):ug L:=λs a=>by rw[h]at a;simp at a;clear h;subst a;exact b
def Pu (r:GR A H G)(h:G.c<860)(j:3<=d){Cx:Prop}(i:∀x a,ae d 53 [.r A.p,.r A.s] H=some (.v .n,a)->x∈cK->GR A a (G.out [.n x] [.u G.m.length] 3)->GK A H a->Cx):Cx:=by exact WK (d:=d) r (yw h rfl) ‹_› λx b c e f g=>i x b c (Uv e) f g
def IS (h:nI L=0):j0 L p=[]:=List.length_eq_zero_iff.1 (by rw[md,h])
def FO (h:jg M=t)(a:nI M=0):G.emit t=G.out M [] 1:=by simp[bZ.emit,bZ.out,h,IS a]
def EV:G.mark s=G.out [.n s] [] 2:=by simp[bZ.mark,bZ.out,fL,gX,df,dh]
def M5:G.ev e=G.out [] [e] 1:=by simp[bZ.ev,bZ.out,fL,iI,gX,df,d6,dh]
def fj:(G.out L es k).m.length=G.m.length+nI L:=by simp[bZ.out]
def AP:G.out [] [] 0=G:=by simp[bZ.out,fL,iI,gX,df,d6,dh]
def Vb (r:GR A H<|G.out L es k)(M)(h:jg M=t)(i:nI M=0)(j:t.length<=30)(f:G.c+k<850)(g:1<=d){Cx:Prop}(l:∀e,ae d 51 [.r A.s,.s t] H=some (.v .n,e)->GR A e (G.out (L++M) es<|k+1)->GK A H e->Cx):Cx:=by exact UC (d:=d) r j (yw f rfl) g λe a b c=>l e a (b.cast<|by rw[FO h i,dY,Yu]) c
def Ph (r:GR A H<|G.out L es k)(g:s.length<=30)(h:G.c+k<850)(f:2<=d){Cx:Prop}(i:∀e,ae d 52 [.r A.s,.s s] H=some (.v<|.i (G.m.length+nI L:Nat),e)->GR A e (G.out (L++[.n s]) es<|k+2)->GK A H e->Cx):Cx:=by refine Vs (d:=d) r g (yw h rfl) f λe a b c=>?_;rw[fj]at a;exact i e a (b.cast<|by rw[EV,dY,Yu]) c
def K1 (e)(r:GR A H<|G.out L es k)(h:G.c+k<850):mB H A.v=true/\∃H',bF H A.v (lw e)=some H'/\GR A H' (G.out L (es++[e])<|k+1)/\GK A H H':=by exact cps λC d=>nF (wh (e:=e) r<|yw h rfl) λx H' a b c=>d<|⟨x,H',a,b.cast<|by rw[M5,dY,Yu],c⟩
def Wb (r:GR A H<|G.out L es k)(h:G.c+k<850)(g:3<=d){Cx:Prop}(i:∀x f,ae d 53 [.r A.p,.r A.s] H=some (.v .n,f)->x∈cK->GR A f (G.out (L++[.n x]) (es++[.u<|G.m.length+nI L])<|k+3)->GK A H f->Cx):Cx:=by refine Pu (d:=d) r (yw h rfl) g λx f a b c e=>?_;rw[fj]at c;exact i x f a b (c.cast<|by rw[dY]) e
end
structure SG(A:pu)(G:bZ)(F:Hp->Prop)(H:Hp):Prop where
 g:GR A H G
 f:F H
def Fr (A:pu)(F:Hp->Prop):Prop:=∀H a,GK A H a->F H->F a
def Fx (A:pu)(t:Nat)(F:Hp->Prop):Prop:=∀H a,GX A t H a->F H->F a
structure TP(A:pu)(ta:Nat)(tk:List Nm)(F:Hp->Prop)(H:Hp):Prop where
 t:TK A H ta tk
 f:F H
def R5 (A:pu)(a:Nat):Prop:=a≠A.w/\a≠A.p/\a≠A.e/\a≠A.m/\a≠A.v/\a≠A.s
structure LP(a:Nat)(W:List V)(F:Hp->Prop)(H:Hp):Prop where
 g:H[a]?=some (.l W)
 f:F H
section
variable{G:bZ}{L M:List IL}{es:List Ev}{k:Nat}
def Fx.fr (h:Fx A t F):Fr A F:=λH a g=>h H a<|g.gx t
def bg (h:Fx A t F):Fr A<|TP A t b F:=λH a g p=>⟨p.t.keep g,h _ _ (g.gx t) p.f⟩
def Rj (n:R5 A a)(e:a≠t)(h:Fx A t F):Fx A t<|LP a W F:=λH b g p=>
 ⟨(g.lo a e n.1 n.2.1 n.2.2.1 n.2.2.2.1 n.2.2.2.2.1 n.2.2.2.2.2<|xd p.g).trans p.g,h _ _ g p.f⟩
def Rr (h:j.length<=t):Fx A t<|GK A j:=λH l g p=>
 ⟨Xz p.ln g.ln,λi h1 b c d e f a=>(g.lo i (Yy<|XO a h) h1 b c d e f<|XO a p.ln).trans<|p.lo i h1 b c d e f a⟩
def Gj:Fr A<|GK A b:=λH a g p=>p.trans g
def Ej (h:G.c<B)(a:Nat.ble (k+B) 850=true):G.c+k<850:=by have:=Yb a;exact ba 0x1a9382064f527082c0cb620067b tq h this
def pH (M)(g:Fr A F)(f:G.c<B)(j:Nat.ble (k+B) 850=true)(i:jg M=t)(h:nI M=0)(m:Nat.ble t.length 30=true)(h1:gv l 1=xR A.s)
  (o:Tr (ae<|d+1) l (SG A (G.out (L++M) es<|k+1) F) s Q):Tr (ae<|d+1) l (SG A (G.out L es k) F) (.x (.c 51 [.v 1,.s t])::s) Q:=
 aW (λH p=>by exact Vb (d:=d+1) p.g M i h (Yb m) (Ej f j) (nl rfl) λe a b c=>⟨e,qt λn=>n _ h1 _ _ a,b,g _ _ c p.f⟩) o
def So {i j:Nat}(f:Fr A F)(h:G.c<B)(m:Nat.ble (k+B) 850=true)(n:s.length<=30)(h1:gv l 1=xR A.s)(g:gv l j=xS s)
  (q:Tr (ae<|d+2) (l.set i<|xI (G.m.length+nI L:Nat)) (SG A (G.out (L++[.n s]) es<|k+2) F) r Q):Tr (ae<|d+2) l (SG A (G.out L es k) F) (.s i (.c 52 [.v 1,.v j])::r) Q:=
 aW (λH p=>by exact Ph (d:=d+2) p.g n (Ej h m) (nl rfl) λe a b c=>⟨e,qt λo=>o _ h1 _ g _ _ a,b,f _ _ c p.f⟩) q
def Eg (e){x:ME}{s:Nm}{v:V}(g:Fr A F)(h:G.c<B)(j:Nat.ble (k+B) 850=true)(i:lw e=.t [.s s,v])(h1:gv l 1=xR A.s)(m:∀H,GR A H (G.out L es k)->ai (ae d) l x H=some (v,H))
  (q:Tr (ae d) l (SG A (G.out L (es++[e])<|k+1) F) r Q):Tr (ae d) l (SG A (G.out L es k) F) (.a (.t (.v 1)<|.i 3) (.p [.s s,x])::r) Q:=
 aW (λH p=>by refine cps λC o=>bU p.g.items λu w y n z=>nF (K1 e p.g<|Ej h j) λt f a b c=>?_;rw[i]at a;exact o<|⟨f,by simp[h1,m H p.g,n,t,a],b,g _ _ c p.f⟩) q
def Uf (e)(h:Fr A F)(r:G.c<B)(v:Nat.ble (k+2+B) 850=true)(t:lw e=.t [.s s,.i (G.m.length+nI L:Nat)])(h1:gv l 1=xR A.s)(u:gv l j=xS i)(w:i.length<=30)
  (D:Tr (ae<|d+2) l (SG A (G.out (L++[.n i]) (es++[e])<|k+3) F) E Q):Tr (ae<|d+2) l (SG A (G.out L es k) F) (.a (.t (.v 1)<|.i 3) (.p [.s s,.c 52 [.v 1,.v j]])::E) Q:=
 aW (λH p=>by have g:=Ej r v;refine cps λC z=>bU p.g.items λN O P x R=>XE (λI _=>Ph (d:=d+2) p.g w (En g) (nl rfl) λJ a b c=>nF (K1 e b ‹_›) λS m f o q=>?_)<|K1 .o p.g<|En g;rw[t]at f;generalize G.m.length+nI L=n at a f;exact z<|⟨m,qt λy=>y _ h1 _ x I _ h1 _ u _ _ a _ f,o,h _ _ q<|h _ _ c p.f⟩) D
def Lz (i:Fr A F)(g:G.c<B)(j:Nat.ble (k+B) 850=true)(h:gv l 0=xR A.p)(h1:gv l 1=xR A.s)
  (n:∀x,x∈cK->Tr (ae<|d+3) l (SG A (G.out (L++[.n x]) (es++[.u<|G.m.length+nI L])<|k+3) F) s Q):Tr (ae<|d+3) l (SG A (G.out L es k) F) (.x (.c 53 [.v 0,.v 1])::s) Q:=λH p=>by
 exact cps λC m=>Wb (d:=d+3) p.g (Ej g j) (nl rfl) λx f a o b c=>m<|aW (P:=λX=>X=H) (λX e=>⟨f,by rw[e];simp[h,h1,a],b,i _ _ c p.f⟩) (n x o) H rfl
def O1 {i j:Nat}(n:Fx A t F)(o:gv l 0=xR A.p)(q:gv l j=xR t)
  (v:∀x,x∈pJ->x∉f->Tr (ae<|d+2) (l.set i<|xS x) (SG A G<|TP A t (f++[x]) F) s Q)
  (w:(∀c∈pJ,c∈f)->Tr (ae<|d+2) (l.set i<|xS []) (SG A G<|TP A t f F) s Q):Tr (ae<|d+2) l (SG A G<|TP A t f F) (.s i (.c 54 [.v 0,.v j])::s) Q:=λH p=>by
 refine TQ (d:=d+2) p.g p.f.t (nl rfl) λx g a b c u=>?_;have e:bx (ae<|d+2) a4 l H (.s i<|.c 54 [.v 0,.v j])=some (.n<|l.set i<|xS x,g):=qt λr=>r _ o _ q _ _ a;rcases u with⟨y,h,m⟩|⟨rfl,h,m⟩
 ·exact aW (P:=λX=>X=H) (λX z=>⟨g,z▸e,b,m,n _ _ c p.f.f⟩) (v x y h) H rfl
 ·exact aW (P:=λX=>X=H) (λX z=>⟨g,z▸e,b,h,n _ _ c p.f.f⟩) (w m) H rfl
def M6 {i n:Nat}(c:Fr A F)(g:Nat.ble 1 n=true)(h:Nat.ble n 1000=true)(b:gv l 0=xR A.p)(f:∀H,ai (ae<|d+1) l e H=some (.i n,H))(o:∀w:Nat,w<n->Tr (ae<|d+1) (l.set i<|xI<|w) (SG A G F) u Q):Tr (ae<|d+1) l (SG A G F) (.s i (.c 50 [.v 0,e])::u) Q:=λH p=>by refine cps λC j=>OM (d:=d+1) (w:=n) p.g (by have:=Yb g;exact Zu.mpr this) (by have:=Yb h;exact(Ys (n:=1000)).mpr this) (nl rfl) λw a q r v s t=>?_;obtain⟨m,rfl⟩:∃m:Nat,w=(m:Int):=⟨w.toNat,(Zh r).symm⟩;exact j<|aW (P:=λX=>X=H) (λX z=>⟨a,by refine aa z ?_;simp[b,f,q],s,c _ _ t p.f⟩) (o m<|X2.mp ‹_›) H rfl
def PY (M)(i:Fr A F)(m:G.c+k<840)(w:jg M=t)(x:∀p,j0 M p=[(p+o,g)])(C:(o)+c=t.length)(y:Nat.ble t.length 30=true)(h1:gv l 1=xR A.s)
  (z:Tr (ae<|d+1) l (SG A (G.out (L++M) es<|k+2) F) B Q):Tr (ae<|d+1) l (SG A (G.out L es k) F) (.x (.c 51 [.v 1,.s t])::.a (.t (.v 1)<|.i 2) (.p [.o .s (.t (.v 1)<|.i 1)<|.i c,.s g])::B) Q:=by
 refine aW (l':=l) (P':=λH=>GR A H ((G.out L es k).emit t)/\F H) (λH p=>?_)<|aW (λH p=>?_) z
 ·exact UC (d:=d+1) p.g (Yb y) (yw m rfl) (nl rfl) λf a b c=>⟨f,qt λj=>j _ h1 _ _ a,b,i _ _ c p.f⟩
 ·refine bU p.1.items λD q r E I=>Jb (p:=G.d.length+(jg L).length+o) (s:=g) p.1 (up m rfl) λv f g1 h u=>?_
  have e:((((G.out L es k).emit t).d.length:Int)-c)=((G.d.length+(jg L).length+o:Nat):Int):=by simp[bZ.emit,bZ.out];lia
  have s:((G.out L es k).emit t).mkA (G.d.length+(jg L).length+o) g=G.out (L++M) es (k+2):=by simp[bZ.out,bZ.emit,bZ.mkA,I8,wu,w,x,X7]
  rw[s]at h;generalize G.d.length+(jg L).length+o=n at e g1;refine⟨f,qt λj=>j _ h1 _ r v _ h1 _ q _ rfl (f) (by simp[h1,r,v,q,e,g1]),h,i _ _ u p.2⟩
def FP (a:nI M=1)(h1:gv l 1=xR A.s)(H)(r:GR A H<|G.out (L++M) es k):ai d l (.o .s (.n<|.t (.v 1)<|.i 2)<|.i 1) H=some (.i (G.m.length+nI L:Nat),H):=by
 refine cps λC c=>bU r.items λf g j i m=>?_;have h:ej H (.r A.m)=some ((G.m.length+nI L:Nat)+1:Int):=by have:=bz r.hm (by have:=r.bm;have:=r.m;simp only[X6];exact s9 ‹_› ‹_›);simpa [bZ.out,a,Zg,ah]using this
 refine c ?_;generalize G.m.length+nI L=n at h⊢;have e:(n:Int)+1-1=n:=aam ..;exact XR (IH λb=>b _ h1 _ j _ h _ rfl) (by simp[h1,j,h,e])
def Nk {q:Nat}(M)(c:Fr A F)(b:G.c<B)(f:Nat.ble (k+B) 850=true)(e:jg M=t)(h:nI M=0)(n:Nat.ble t.length 30=true)(m:vs[q]?=xS t)(j:Nat.ble vs.length 900=true)(h1:gv l 1=xR A.s)(i:∀H,Zc (ae<|d+1) l s H=some (vs,H))(o:∀H,ai (ae<|d+1) l x H=some (.i q,H))
  (r:Tr (ae<|d+1) l (SG A (G.out (L++M) es<|k+1) F) y Q):Tr (ae<|d+1) l (SG A (G.out L es k) F) (.x (.c 51 [.v 1,.t (.l s) x])::y) Q:=
 aW (λH p=>by refine Vb (d:=d+1) (p.g.app [.l vs]) M e h (Yb n) (Ej b f) (nl rfl) λa u v w=>?_;have g:getItem (H++[AO.l vs]) (.r H.length) (.i<|q)=xS t:=getL (l:=vs) (be _ _) (Yb j) m;exact⟨a,by simp[h1,i,o,g,u],v,c _ _ ((GK.app A H _).trans w) p.f⟩) r
def Do {q:Nat}(M)(g:Fr A F)(f:G.c<B)(j:Nat.ble (k+B) 850=true)(i:jg M=t)(h:nI M=0)(n:Nat.ble t.length 30=true)(m:[V.s a,.s b,.s c][q]?=xS t)(h1:gv l 1=xR A.s)(e:gv l 4=xI q)
  (p:Tr (ae<|d+1) l (SG A (G.out (L++M) es<|k+1) F) s Q):Tr (ae<|d+1) l (SG A (G.out L es k) F) (.x (.c 51 [.v 1,.t (.l [.s a,.s b,.s c])<|.v 4])::s) Q:=
 Nk M g f j i h n m rfl h1 (λ_=>rfl) (λH=>IH λo=>o _ e) p
def y2 (a:G.c<B)(h:k<=k')(b:Nat.ble (k'+B) 850=true)(c:Tr (ae d) l (SG A (G.out L es k') F) s Q):Tr (ae d) l (SG A (G.out L es k) F) s Q:=
 d7 (λH p=>⟨(p.g.up (k:=G.c+k') (Z0 ‹_› _)<|by have:=Ej a b;exact aI 0xe11c10325a938206067b tq this),p.f⟩) c
def yV (h:lS L=l)(a:∀s∈l,s∈cK):ug L:=λs b=>a s<|h▸b
def Ux (h:G.c+n<850):G.c<G.c+1/\∀j,Nat.ble j n=true->Nat.ble (j+(G.c+1)) 850=true:=⟨Zp _,λj e=>aao<|by exact ba 0xd49c168182648220cb7a938206067b tq h<|Yb e⟩
def VT (A:pu)(G:bZ)(F:Hp->Prop)(L:List IL)(es:List Ev)(j:Nat)(v:Vl)(H:Hp):Prop:=ug (dv v)/\SG A (G.out (L++dv v) (es++kH v (G.m.length+nI L))<|j+7) F H
def Xg (g:G.c+15<850)(c:Fr A F):CT (ae<|d+3+1) 55 [.r A.p,.r A.s] (SG A (G.out [] [] 0) F) (λv H=>v=.n/\∃x,VT A G F [] [] 0 x H):=by
 refine XE (λa b=>dZ rfl rfl (l:=[xR A.p,xR A.s,none]) rfl rfl (Lz c a (b _ rfl) rfl rfl λx e=>M6 (n:=4) c rfl rfl rfl (λ_=>rfl) λw f=>?_))<|Ux g;have f:w=0\/w=1\/w=2\/w=3:=Vo f;rcases f with rfl|rfl|rfl|rfl
 ·exact aN (λ_ _=>rfl)<|aN (λ_ _=>rfl)<|aN (λ_ _=>rfl)<|y2 (k':=7) a (nl rfl) (b _ rfl)<|ay λH p=>⟨rfl,.v0 x,yV (l:=[x]) rfl (Zz.2 ⟨e,λ_ h=>nomatch h⟩),p⟩
 ·exact bG (λ_ _=>rfl)<|pH [g1,sg 43,g1] c a (b _ rfl) rfl rfl rfl rfl (Lz c a (b _ rfl) rfl rfl λy i=>y2 (k':=7) a (nl rfl) (b _ rfl)<|ay λH p=>⟨rfl,.v1 x y,yV (l:=[x,y]) rfl (Zz.2 ⟨e,Zz.2 ⟨i,λ_ h=>nomatch h⟩⟩),p⟩)
 ·exact aN (λ_ _=>rfl)<|bG (λ_ _=>rfl)<|pH [sg 46,fn [97]] c a (b _ rfl) rfl rfl rfl rfl (y2 (k':=7) a (nl rfl) (b _ rfl)<|ay λH p=>⟨rfl,.v2 x,yV (l:=[x]) rfl (Zz.2 ⟨e,λ_ h=>nomatch h⟩),p⟩)
 ·exact aN (λ_ _=>rfl)<|aN (λ_ _=>rfl)<|bG (λ_ _=>rfl)<|PY (o:=1) [sg 40,.n [98],sg 46,fn [99],sg 44,g1,Mine.n1,g1,.f nQ uv,sg 41] c (bB 0x1a4386d0358064f5273da06067b tq g) rfl (λ_=>rfl) rfl rfl rfl (Eg (.u _) c a (b _ rfl) rfl rfl (FP rfl rfl) (y2 (k':=7) a (nl rfl) (b _ rfl)<|ay λH p=>⟨rfl,.v3 x,yV (l:=[x,[98]]) rfl (Zz.2 ⟨e,Zz.2 ⟨by decide,λ_ h=>nomatch h⟩⟩),p⟩))
def Rv (b:Fr A F)(a:G.c<B)(c:Nat.ble (k+16+B) 850=true)(h:gv l 0=xR A.p)(h1:gv l 1=xR A.s)
  (e:∀v,ug (dv v)->Tr (ae<|d+4) l (SG A (G.out (L++dv v) (es++kH v (G.m.length+nI L))<|k+7) F) s Q):Tr (ae<|d+4) l (SG A (G.out L es k) F) (.x (.c 55 [.v 0,.v 1])::s) Q:=by
 refine d7 (λH p=>⟨p.g.cast AP.symm,p.f⟩)<|rq (vs:=[.r A.p,.r A.s]) (λH=>SZ λj=>j _ h _ h1) (Xg (G:=G.out L es k) (by have:=Ej a c;simp only[bZ.out];exact aI 0x35273da103193d49d0685806067b tq this) b) λv H p=>XE (λo p=>?_) p;rw[dY,fj]at p;exact e v o H ⟨p.g.cast<|rfl,p.f⟩
end
section
variable{A:pu}{H H':Hp}{G:bZ}{d:Nat}{L:List IL}{es:List Ev}{k:Nat}{l:Lo}{ss:List MS}{Q:Fl->Hp->Prop}{F:Hp->Prop}
def Tk (h:Fr A F)(c:G.c+k<840)(w:gv l 0=xR A.p)(h1:gv l 1=xR A.s)
  (I:∀x,x∈cK->Tr (ae<|d+2) l (SG A (G.out (L++[.n x]) (es++[.w<|G.m.length+nI L])<|k+3) F) ss Q):
  Tr (ae<|d+2) l (SG A (G.out L es k) F) (.a (.t (.v 1)<|.i 3) (.p [.s [102,111,114,119,97,114,100],.c 52 [.v 1,.t (.s [97,98,99,100])<|.c 50 [.v 0,.i 4]]])::ss) Q:=λH p=>by
 refine cps λC E=>?_;refine bU p.g.items λR S T B U=>?_;refine XE (λJ _=>?_)<|K1 .o p.g<|yw c rfl;refine OM (d:=d+2) (w:=4) p.g (by decide) (by decide) (nl rfl) λq f i j P o r=>?_;obtain⟨n,rfl⟩:∃n:Nat,q=(n:Int):=⟨q.toNat,(Zh j).symm⟩;refine XE (λa b=>?_)<|BH (H:=f) (k:=n)<|X2.mp ‹_›;generalize pJ.getD n []=x at a b;obtain⟨M,N⟩:x∈cK/\x.length<=30:=(show∀y∈pJ,y∈cK/\y.length<=30 by decide) x b;refine Ph (d:=d+2) o N (yw c rfl) (nl rfl) λO e s t=>?_;refine nF (K1 (.w<|G.m.length+nI L) s<|aI 0x6a4e1342c0327a438206067b tq c) λW g g1 u v=>?_;refine E<|aW (P:=λX=>X=H) (λX z=>⟨g,?_,u,h _ _ v<|h _ _ t<|h _ _ r p.f⟩) (I x M) H rfl;generalize G.m.length+nI L=m at e g1;refine aa z ?_;exact qt λD=>D _ h1 _ B J _ h1 _ w _ _ i _ a _ _ e _ g1
def KT (A:pu)(G:bZ)(F:Hp->Prop)(L:List IL)(es:List Ev)(j k:Nat)(K:Kd)(H:Hp):Prop:=ug (iO K)/\Aw K<=k/\SG A (G.out (L++iO K) (es++nh K (G.m.length+nI L))<|j+20*(k+1)) F H
def DC {f:Lo}{K:Kd}{j:Nat}(e:G.out L es j=G.out (iO K) (nh K G.m.length) j)(o:ug<|iO K)(h:Aw K<=k)(a:G.c+20*(k+1)<850)(b:j<=20*(k+1)){c:Cl}:Tr c f (SG A (G.out L es j) F) [] (Rt λv H=>v=.n/\∃K,KT A G F [] [] 0 k K H):=
 ay λH p=>⟨rfl,K,o,h,(((e▸p.g:GR A H<|G.out (iO K) (nh K G.m.length) j)).up (k:=G.c+20*(k+1)) (ba 0xb44ca35e06040c905a2651af0865b tq b)<|aI 0xe11c1685946bc0c96a4e0b42ca35e06067b tq a).cast<|by simp[bZ.out,bO],p.f⟩
def Wt:∀(k:Nat) {dp d:Nat}{G:bZ},k+dp=2->G.c+20*(k+1)<850->Fr A F->6+2*k<=d->
  CT (ae d) 56 [.r A.p,.r A.s,.i (dp:Int)] (SG A (G.out [] [] 0) F) (λv H=>v=.n/\∃K,KT A G F [] [] 0 k K H):=by
 intro k;induction k with
 |zero=>intro dp d G n a h f;obtain⟨d,rfl⟩:∃i,d=i+6:=⟨d-6,(YI<|by exact bB 0x19b2001a26bccd6065b tq f).symm⟩;have m:dp=2:=bB 0x2682826800d6069b tq n;subst m;refine XE (λb c=>?_)<|Ux (n:=20) a;refine dZ (d:=d+5) rfl rfl (l:=[xR A.p,xR A.s,xI (2:Nat),none]) rfl rfl ?_;refine M6 (n:=2) h rfl rfl rfl (λ_=>rfl) λw g=>?_;exact bG (λH _=>by simp;lia)<|Lz h b (c _ rfl) rfl rfl λx e=>DC (K:=.n x) rfl (cY rfl e) (XH _) a (nl rfl)
 |succ k B=>
  intro dp d G n a h f;obtain⟨d,rfl⟩:∃i,d=i+6:=⟨d-6,(YI<|by exact aI 0x266c821681826bccd6065b tq f).symm⟩;refine XE (λb c=>?_)<|Ux (n:=20) (G:=G)<|aI 0x352751a064f52705a16858ca35e06067b tq a;have r:∀{L es j}{l:Lo},gv l 0=xR A.p->gv l 1=xR A.s->gv l 2=xI (dp:Int)->j<=9->∀{ss Q},(∀K,Tr (ae<|d+5) l (KT A G F L es j k K) ss Q)->Tr (ae<|d+5) l (SG A (G.out L es j) F) (.x (.c 56 [.v 0,.v 1,.o .a (.v 2)<|.i 1])::ss) Q:=λ{L es j l} s h1 t u {ss Q} D=>by refine d7 (λH p=>⟨p.g.cast AP.symm,p.f⟩)<|rq (vs:=[.r A.p,.r A.s,.i ((dp+1:Nat):Int)]) (λH=>SZ λC=>C _ s _ h1 _ t _ rfl) (B (dp:=dp+1) (d:=d+5) (G:=G.out L es j) (aI 0x1342d0b00ca09a10b40c6069b tq n) (ba 0x6a4e0b44ca35e1031934b42196f52705a16898ca35e06067b tq a u) h<|aI 0x568580135e66b24668581681826bccd6065b tq f) λK=>d7 (λH p=>?_)<|D K;refine bX p λo q p=>?_;rw[dY,fj]at p;exact⟨o,q,p.g.cast<|by simp[bO],p.f⟩
  refine dZ (d:=d+5) rfl rfl (l:=[xR A.p,xR A.s,xI (dp:Nat),none]) rfl rfl ?_;refine M6 (n:=6) h rfl rfl rfl (λH=>by simp;lia) λw g=>?_;have g:w<2\/w=2\/w=3\/w=4\/w=5:=by revert w;decide
  rcases g with g|rfl|rfl|rfl|rfl
  ·exact bG (λH _=>by simp;lia)<|Lz h b (c _ rfl) rfl rfl λx e=>DC (K:=.n x) rfl (cY rfl e) (X5 _) a (nl rfl)
  ·-- ae4
   refine aN (λ_ _=>rfl)<|bG (λ_ _=>rfl) ?_;refine pH xl h b (c _ rfl) rfl rfl rfl rfl ?_;refine r rfl rfl rfl (nl rfl) λK=>?_
   refineλH p=>?_
   refine bX p λo q p=>?_;refine PY (o:=6) CE h (by exact aI 0x1a4382d0b28d785a06b18064f52705a16858ca35e06067b tq a) rfl (λ_=>rfl) rfl rfl rfl ?_ H p;refine Eg (.u _) h b (aao<|aI 0x6a4e0b42c1342d0328d785a06b18c64b52705a16818ca35e16067b tq a) rfl rfl (FP rfl rfl) ?_;refine DC (K:=.r K) ?_ (aJ (aJ (a6 rfl) o)<|cY rfl (by decide)) (ZE ‹_›) a (by lia);have z:nI xl=0:=rfl;simp[jD,gy,mV,fJ,fB,fH,d8,e6,ah,z]
  ·-- ad4
   exact aN (λ_ _=>rfl)<|aN (λ_ _=>rfl)<|bG (λ_ _=>rfl)<|pH [wW gE,g1,wW SQ,g1] h b (c _ rfl) rfl rfl rfl rfl (Tk h (aI 0x1a4382d0358064f52705a16858ca35e06067b tq a) rfl rfl λx e=>DC (K:=.p x) rfl (cY rfl e) (X5 _) a (nl rfl))
  ·-- ARRAY
   refine aN (λ_ _=>rfl)<|aN (λ_ _=>rfl)<|aN (λ_ _=>rfl)<|bG (λ_ _=>rfl)<|pH [wW c0,g1] h b (c _ rfl) rfl rfl rfl rfl (Rv h b (c _ rfl) rfl rfl λv y=>pH [g1,wW xh,g1] h b (c _ rfl) rfl rfl rfl rfl (r rfl rfl rfl (nl rfl) λK=>λH p=>bX p λo q p=>DC (K:=.a v K) ?_ (aJ (aJ (aJ (a6 rfl) y)<|a6 rfl) o) (ZE ‹_›) a (by lia) H p));have z:nI [wW c0,g1]=0:=rfl;have E:nI [g1,wW xh,g1]=0:=rfl;simp only[dE,ah,z,E,Yx,YZ];simp[qa,jD,qj,gy,mV,fJ,fB,fH,d8,e6,X7]
  ·-- acr
   exact aN (λ_ _=>rfl)<|aN (λ_ _=>rfl)<|aN (λ_ _=>rfl)<|aN (λ_ _=>rfl)<|pH [wW eg,g1,sg 40,fn [99],sg 58,g1] h b (c _ rfl) rfl rfl rfl rfl (Lz h b (c _ rfl) rfl rfl λx e=>pH [sg 41] h b (c _ rfl) rfl rfl rfl rfl (DC (K:=.c x) rfl (cY rfl e) (X5 _) a (nl rfl)))
end
def UK:List MS:=[.s 5<|.c 50 [(.v 0),(.i 2)],.i (.q .g (.v 5)<|.i 0) [.x<|.c 51 [(.v 1),(.t (.l [(.s [32,67,79,78,83,84,32]),(.s [32,84,89,80,69,32]),(.s [32,86,65,82,32])])<|.v 4)]] [],iy,.i (.a [(.q .g (.v 5)<|.i 0),(.q .g (.v 4)<|.i 0)]) [.a (.t (.v 1)<|.i 3)<|.p [(.s [114,101,115,111,108,118,101]),(.i 0)]] []]
section
variable{A:pu}{H H' H1 H2 H3:Hp}{G:bZ}{d ta B:Nat}{tk:List Nm}{L:List IL}{es:List Ev}{k:Nat}{l:Lo}{ss:List MS}{Q:Fl->Hp->Prop}{F:Hp->Prop}
def GX.refl (A)(ta)(H):GX A ta H H:=(GK.refl A H).gx ta
def TK.kx (t:TK A H ta tk)(k:GK A H H'):TK A H' ta tk:=t.keep k
def kP (h:x∈pJ):x∈cK/\x.length<=30/\x≠[]:=by
 have:∀y∈pJ,y∈cK/\y.length<=30/\y≠[]:=by decide
 exact this x h
def U0 (b:Fr A F)(a:G.c<B)(c:Nat.ble (k+B) 780=true)(h:gv l 0=xR A.p)(h1:gv l 1=xR A.s)
  (e:∀K,ug (iO K)->Aw K<=2->Tr (ae<|d+10) l (SG A (G.out (L++iO K) (es++nh K (G.m.length+nI L))<|k+60) F) ss Q):Tr (ae<|d+10) l (SG A (G.out L es k) F) (.x (.c 56 [.v 0,.v 1,.i 0])::ss) Q:=by
 refine d7 (λH p=>⟨p.g.cast AP.symm,p.f⟩)<|rq (vs:=[.r A.p,.r A.s,.i ((0:Nat):Int)]) (λH=>SZ λj=>j _ h _ h1) (Wt 2 (dp:=0) (G:=G.out L es k) rfl (by have:=Yb c;exact ba 0x352705a26b28d7840c64f0c7082c0cb620067b tq a this) b (nl rfl)) λK H p=>bX p λo f p=>?_;rw[dY,fj]at p;exact e K o f H ⟨p.g.cast<|rfl,p.f⟩
def Nh (A:pu)(ta:Nat)(f:V)(q:Nat)(S:Option V->Option V->Option V->Option V->Hp->Prop)(e:Lo)(H:Hp):Prop:=∃p a b c,e=[xR A.p,xR A.s,some f,xR ta,xI q,p,a,b,c]/\S p a b c H
def Oe (h:k=k'):G.out (bT Yt++[.n x]++[g1,sg 61,g1]++dv v++[sg 59,g1]) (kH v (G.m.length+nI (bT Yt++[.n x]++[g1,sg 61,g1]))++[.d (G.m.length+nI (bT Yt)) sK]) k=G.out (sX<|some<|some (x,v)) (uu (some<|some (x,v)) G.m.length) k':=by subst h;have z:nI (bT Yt++[.n x]++[g1,sg 61,g1])=1:=rfl;have a:nI (bT Yt)=0:=rfl;simp only[z,a];simp[m0,uu]
def MN {e:V}{o m q r:Option V}(h:G.c<700)(a:Fx A ta F):Tr (ae<|d+10) [xR A.p,xR A.s,some e,xR ta,xI (0:Nat),o,m,q,r] (SG A (G.out [] [] 0)<|TP A ta tk F) UK
  (Nx (Nh A ta e 0 λ_ _ _ _ H=>∃c,ug (sX c)/\SG A (G.out (sX c) (uu c G.m.length) 80) (TP A ta (tk++Lm c) F) H)):=by
 refine M6 (n:=2) (bg a) rfl rfl rfl (λ_=>rfl) λw b=>?_;have b:w=0\/w=1:=US b;rcases b with rfl|rfl
 ·exact aN (λ_ _=>rfl)<|rU (λ_ _=>rfl)<|aN (λ_ _=>rfl)<|y2 (k':=80) h (nl rfl) rfl (ay λH p=>⟨_,rfl,_,_,_,_,rfl,none,a6 rfl,p.g,by simpa [Lm]using p.f.t,p.f.f⟩)
 ·refine bG (λ_ _=>rfl)<|Do (q:=0) (bT Yt) (bg a) h rfl rfl rfl rfl rfl rfl rfl (vE (λ_ _=>rfl) Ar<|O1 a rfl rfl (λx g _=>?_) λ_=>?_)
  ·exact bX (kP g) λn1 n i=>bG (λH _=>hE λj=>j _<|Jc rfl i)<|So (bg a) h rfl n rfl rfl (aN (λ_ _=>rfl)<|Do (q:=0) [g1,sg 61,g1] (bg a) h rfl rfl rfl rfl rfl rfl rfl (bG (λ_ _=>rfl)<|Rv (bg a) h rfl rfl rfl λv f=>Eg (.d _ sK) (bg a) h rfl rfl rfl (λ_ _=>rfl) (aN (λ_ _=>rfl)<|pH [sg 59,g1] (bg a) h rfl rfl rfl rfl rfl (aN (λ_ _=>rfl)<|y2 (k':=80) h (nl rfl) rfl (ay λH p=>⟨_,rfl,_,_,_,_,rfl,some<|some (x,v),aJ (a6 rfl)<|aJ (aJ (cY rfl n1) f)<|a6 rfl,p.g.cast<|Oe rfl,p.f.t,p.f.f⟩)))))
  ·exact aN (λ_ _=>rfl)<|aN (λ_ _=>rfl)<|y2 (k':=80) h (nl rfl) rfl (ay λH p=>⟨_,rfl,_,_,_,_,rfl,some none,a6 rfl,p.g,by simpa [Lm]using p.f.t,p.f.f⟩)
def Oc (h:k=k'):G.out (bT YK++[.n x]++[sg 42,g1,sg 61,g1]++iO K++[sg 59,g1]) ([.d (G.m.length+nI (bT YK)) uR]++nh K (G.m.length+nI (bT YK++[.n x]++[sg 42,g1,sg 61,g1]))++[.r]) k=G.out (vW<|some<|some (x,K)) (zy (some<|some (x,K)) G.m.length) k':=by subst h;have z:nI (bT YK++[.n x]++[sg 42,g1,sg 61,g1])=1:=rfl;have a:nI (bT YK)=0:=rfl;refine aa z<|aa a ?_;simp[Aj,zm,nC,nj,ni,jB]
def Om {e:V}{m q r s:Option V}(h:G.c<700)(a:Fx A ta F):Tr (ae<|d+10) [xR A.p,xR A.s,some e,xR ta,xI (1:Nat),m,q,r,s] (SG A (G.out [] [] 0)<|TP A ta tk F) UK
  (Nx (Nh A ta e 1 λ_ _ _ _ H=>∃c,ug (vW c)/\xW c<=2/\SG A (G.out (vW c) (zy c G.m.length) 80) (TP A ta (tk++Bl c) F) H)):=by
 refine M6 (n:=2) (bg a) rfl rfl rfl (λ_=>rfl) λw b=>?_;have b:w=0\/w=1:=US b;rcases b with rfl|rfl
 ·exact aN (λ_ _=>rfl)<|rU (λ_ _=>rfl)<|aN (λ_ _=>rfl)<|y2 (k':=80) h (nl rfl) rfl (ay λH p=>⟨_,rfl,_,_,_,_,rfl,none,a6 rfl,X5 _,p.g,by simpa [Bl]using p.f.t,p.f.f⟩)
 ·refine bG (λ_ _=>rfl)<|Do (q:=1) (bT YK) (bg a) h rfl rfl rfl rfl rfl rfl rfl (vE (λ_ _=>rfl) Ar<|O1 a rfl rfl (λx f _=>?_) λ_=>?_)
  ·exact bX (kP f) λn1 n g=>bG (λH _=>hE λj=>j _<|Jc rfl g)<|So (bg a) h rfl n rfl rfl (bG (λ_ _=>rfl)<|Eg (.d _ uR) (bg a) h rfl rfl rfl (λ_ _=>rfl) (Do (q:=1) [sg 42,g1,sg 61,g1] (bg a) h rfl rfl rfl rfl rfl rfl rfl (aN (λ_ _=>rfl)<|U0 (bg a) h rfl rfl rfl λK o i=>aN (λ_ _=>rfl)<|pH [sg 59,g1] (bg a) h rfl rfl rfl rfl rfl (bG (λ_ _=>rfl)<|Eg .r (bg a) h rfl rfl rfl (λ_ _=>rfl) (y2 (k':=80) h (nl rfl) rfl (ay λH p=>⟨_,rfl,_,_,_,_,rfl,some<|some (x,K),aJ (a6 rfl)<|aJ (aJ (cY rfl n1) o)<|a6 rfl,i,p.g.cast<|Oc rfl,p.f.t,p.f.f⟩))))))
  ·exact aN (λ_ _=>rfl)<|bG (λ_ _=>rfl)<|Eg .r (bg a) h rfl rfl rfl (λ_ _=>rfl) (y2 (k':=80) h (nl rfl) rfl (ay λH p=>⟨_,rfl,_,_,_,_,rfl,some none,a6 rfl,X5 _,p.g,by simpa [Bl]using p.f.t,p.f.f⟩))
def Mt (h:k=k'):G.out (bT YV++[.n x]++[sg 58,g1]++iO K++[sg 59,g1]) (nh K (G.m.length+nI (bT YV++[.n x]++[sg 58,g1]))++[.d (G.m.length+nI (bT YV)) AE]++[.r]) k=G.out (AM<|some<|some (x,K)) (Bi (some<|some (x,K)) G.m.length) k':=by subst h;have z:nI (bT YV++[.n x]++[sg 58,g1])=1:=rfl;have a:nI (bT YV)=0:=rfl;refine aa z<|aa a ?_;simp[Ak,AY,mU,nq,nU,lx]
def Mu {e:V}{m q r s:Option V}(h:G.c<700)(a:Fx A ta F):Tr (ae<|d+10) [xR A.p,xR A.s,some e,xR ta,xI (2:Nat),m,q,r,s] (SG A (G.out [] [] 0)<|TP A ta tk F) UK
  (Nx (Nh A ta e 2 λ_ _ _ _ H=>∃c,ug (AM c)/\xW c<=2/\SG A (G.out (AM c) (Bi c G.m.length) 80) (TP A ta (tk++Bl c) F) H)):=by
 refine M6 (n:=2) (bg a) rfl rfl rfl (λ_=>rfl) λw b=>?_;have b:w=0\/w=1:=US b;rcases b with rfl|rfl
 ·exact aN (λ_ _=>rfl)<|rU (λ_ _=>rfl)<|aN (λ_ _=>rfl)<|y2 (k':=80) h (nl rfl) rfl (ay λH p=>⟨_,rfl,_,_,_,_,rfl,none,a6 rfl,X5 _,p.g,by simpa [Bl]using p.f.t,p.f.f⟩)
 ·refine bG (λ_ _=>rfl)<|Do (q:=2) (bT YV) (bg a) h rfl rfl rfl rfl rfl rfl rfl (vE (λ_ _=>rfl) Ar<|O1 a rfl rfl (λx f _=>?_) λ_=>?_)
  ·exact bX (kP f) λn1 n g=>bG (λH _=>hE λj=>j _<|Jc rfl g)<|So (bg a) h rfl n rfl rfl (aN (λ_ _=>rfl)<|Do (q:=2) [sg 58,g1] (bg a) h rfl rfl rfl rfl rfl rfl rfl (aN (λ_ _=>rfl)<|U0 (bg a) h rfl rfl rfl λK o i=>bG (λ_ _=>rfl)<|Eg (.d _ AE) (bg a) h rfl rfl rfl (λ_ _=>rfl) (pH [sg 59,g1] (bg a) h rfl rfl rfl rfl rfl (bG (λ_ _=>rfl)<|Eg .r (bg a) h rfl rfl rfl (λ_ _=>rfl) (y2 (k':=80) h (nl rfl) rfl (ay λH p=>⟨_,rfl,_,_,_,_,rfl,some<|some (x,K),aJ (a6 rfl)<|aJ (aJ (cY rfl n1) o)<|a6 rfl,i,p.g.cast<|Mt rfl,p.f.t,p.f.f⟩))))))
  ·exact aN (λ_ _=>rfl)<|bG (λ_ _=>rfl)<|Eg .r (bg a) h rfl rfl rfl (λ_ _=>rfl) (y2 (k':=80) h (nl rfl) rfl (ay λH p=>⟨_,rfl,_,_,_,_,rfl,some none,a6 rfl,X5 _,p.g,by simpa [Bl]using p.f.t,p.f.f⟩))
end
section
variable{A:pu}{H H' H1 H2 H3:Hp}{G:bZ}{d ta:Nat}{tk:List Nm}{L M:List IL}{es:List Ev}{k B:Nat}{l:Lo}{ss:List MS}{Q:Fl->Hp->Prop}{F:Hp->Prop}
structure MU(D:Dc):Prop where
 nm:ug (aR D)
 t:xW D.t<=2
 v:xW D.v<=2
abbrev S6 (A:pu)(ta:Nat)(F:Hp->Prop)(G:bZ)(tk:List Nm)(a:V)(b:Lo)(H:Hp):Prop:=
 ∃D p c e f g,b=[xR A.p,xR A.s,some a,xR ta,p,c,e,f,g]/\MU D/\SG A (G.out (aR D) (cM D G.m.length) 240) (TP A ta (tk++zd D) F) H
def Qp {j:V}(b:G.c<500)(h:Fx A ta F):
  Tn (ae<|d+10) [xR A.p,xR A.s,some j,xR ta,none,none,none,none,none] (SG A G<|TP A ta tk F) cX (S6 A ta F G tk j):=by
 refine L8 (m:=3) (λ_ _=>rfl) rfl (lZ (d7 (λH p=>⟨p.g.cast AP.symm,p.f⟩)<|MN (yw b rfl) h) λI=>λH p=>cps λC a=>?_);obtain⟨s,u,w,x,rfl,c,o,p⟩:=p;refine a<|lZ (P:=SG A (G.out (sX c) (uu c G.m.length) 80)<|TP A ta (tk++Lm c) F) (d7 (λH p=>⟨p.g.cast AP.symm,p.f⟩)<|Om (up b rfl) h) (λJ=>λH p=>cps λC a=>?_) H p;obtain⟨y,z,D,E,rfl,t,m,n,p⟩:=p;rw[dY]at p;refine a<|lZ (P:=SG A (G.out (sX c++vW t) _ 160)<|TP A ta _ F) (d7 (λH p=>⟨p.g.cast AP.symm,p.f⟩)<|Mu (up b rfl) h) (λN=>vY λH p=>cps λC a=>?_) H p;obtain⟨e,f,g,i,rfl,v,q,r,p⟩:=p;refine a<|⟨⟨c,t,v⟩,_,_,_,_,_,rfl,⟨aJ (aJ o m) q,n,r⟩,p.g.cast ?_,by rw[show zd ⟨c,t,v⟩=Lm c++Bl t++Bl v from rfl,<- XM,<- XM];exact p.f⟩;rw[dY];simp[aR,cM,fj,X7]
def VX {e:ME}{v:V}{j:Nat}(f:Fx A ta F)(t:G.b<=0)(b:G.c<B)(m:Nat.ble (k+B) 500=true)(h:gv l 0=xR A.p)(h1:gv l 1=xR A.s)(i:gv l j=xR ta)(g:∀H,ai (ae<|d+11) l e H=some (v,H))
  (r:∀D,MU D->Tr (ae<|d+11) l (SG A (G.out (L++aR D) (es++cM D (G.m.length+nI L))<|k+240)<|TP A ta (tk++zd D) F) ss Q):Tr (ae<|d+11) l (SG A (G.out L es k)<|TP A ta tk F) (.x (.c 57 [.v 0,.v 1,e,.v j])::ss) Q:=λH p=>by
 refine cps λC a=>?_;have c:CT (ae<|d+10+1) 57 [.r A.p,.r A.s,v,.r ta] (SG A (G.out L es k)<|TP A ta tk F) (λv H=>v=.n/\∃D,MU D/\SG A (G.out (L++aR D) (es++cM D (G.m.length+nI L))<|k+240) (TP A ta (tk++zd D) F) H):=by refine dZ rfl rfl (l:=[xR A.p,xR A.s,some v,xR ta,none,none,none,none,none]) rfl (show gA.body=[cX,cm]from rfl) (qM (Qp (by have:=Yb m;exact ba 0xfa382064df47082c0cb620067b tq b this) f) λE X p=>cps λC a=>?_);obtain⟨D,I,J,N,O,P,rfl,o,p⟩:=p;rw[dY,fj]at p;have p:=p;refine a<|rU (P:=λY=>Y=X) (λY e=>cps λC a=>bU p.g.items λu w x y n=>a<|aa e ?_) (ay λY e=>⟨rfl,D,o,e▸p⟩) X rfl;exact hE λq=>q _ n _<|fv rfl (Y9.mpr ‹_›:¬(0:Int)<(G.out (L++aR D) (es++cM D (G.m.length+nI L))<|k+240).b)
 obtain⟨_,H',e,rfl,D,o,s⟩:=c H p;exact a<|aW (P:=λX=>X=H) (λX z=>⟨H',by refine aa z ?_;simp[h,h1,i,g,e],s⟩) (r D o) H rfl
structure Pb(p:Pr):Prop where
 nm:ug (uE p)
 d:MU p.d
 j:(Ml p.p++zd p.d).Nodup
def Kw (e:List Nat):∀(es:List Ev) (k:Nat) (H:Hp) (g:Option V) (W:List V),GR A H (G.out L es k)->G.c+k+e.length<850->(jL≠A.w/\jL≠A.p/\jL≠A.e/\jL≠A.m/\jL≠A.v/\jL≠A.s)->H[jL]?=some (.l W)->
  ∃H' o,aK (λv l' H'=>XU cl a4 (l'.set 8<|some v) H' [.a (.t (.v 1)<|.i 3)<|.p [(.s [112,97,114]),(.v 8)]]) (a3 jL W) (e.map λ(i:Nat)=>V.i i) [l0,xR A.s,l2,l3,l4,l5,xR jL,l7,g] H=
   some (.n [l0,xR A.s,l2,l3,l4,l5,xR jL,l7,o],H')/\GR A H' (G.out L (es++e.map λi=>Ev.d i vM)<|k+e.length)/\GK A H H':=by
 induction e with
 |nil=>intro es k H g W r m h f;exact⟨H,g,bp<|cS f,by simpa using r,GK.refl A H⟩
 |cons j e n=>intro es k H g W r m h f;exact cps λC u=>bU r.items λw x y s z=>nF (K1 (.d j vM) r<|ba 0x1a9382064f52705a26040c6067b tq m) λv H1 a b c=>am (n (es++[.d j vM]) (k+1) H1 (xI (j:Int)) W b (ba 0x3527082d0b00c64f52705a26040c6067b tq m) h ((c.lo _ h.1 h.2.1 h.2.2.1 h.2.2.2.1 h.2.2.2.2.1 h.2.2.2.2.2<|xd f).trans f:H1[jL]?=some (.l W))) λH' o n p q=>u<|⟨H',o,(aa af<|aa (aS (cS f) (l':=[l0,xR A.s,l2,l3,l4,l5,xR jL,l7,xI (j:Int)]) (H':=H1)<|by exact uf λt=>t _ s v _ a) n),p.cast<|by simp[X7,Y3 1],c.trans q⟩
end
section
variable{A:pu}{H H' H0 H1:Hp}{G:bZ}{L M:List IL}{es:List Ev}
noncomputable def P9:MS:=.i (.q .e (.c 50 [(.v 0),(.i 2)])<|.i 1) [.x<|.c 51 [(.v 1),(.s [40,86,65,82,32])],.s 7<|.c 54 [(.v 0),(.v 5)],.a (.v 6)<|.c 52 [(.v 1),(.v 7)],.x<|.c 51 [(.v 1),(.s [44,32])],.a (.v 6)<|.c 52 [(.v 1),(.c 54 [(.v 0),(.v 5)])],.x<|.c 51 [(.v 1),(.s [58,32,65,82,82,65,89,32,79,70,32])],.x<|.c 53 [(.v 0),(.v 1)],.x<|.c 51 [(.v 1),(.s [41])]] []
theorem Ku:kq.body=[.x<|.c 51 [(.v 1),(.s [32,80,82,79,67,69,68,85,82,69,32])],
 .a (.t (.v 1)<|.i 3) (.p [(.s [112,114,111,99]),(.c 52 [(.v 1),(.v 3)])]),
 .a (.t (.v 1)<|.i 3) (.p [(.s [111,112,101,110]),(.i 0)]),
 .s 4 (.o .s (.n<|.t (.v 1)<|.i 3)<|.i 2),
 .s 5 (.l []),
 .s 6 (.l []),
 P9,
 br,
 .x (.c 51 [(.v 1),(.s [59])]),
 .x (.c 57 [(.v 0),(.v 1),(.o .a (.v 2)<|.i 1),(.v 5)]),
 .x (.c 51 [(.v 1),(.s [32,66,69,71,73,78,32,73,70,32])]),
 .x (.c 55 [(.v 0),(.v 1)]),
 .x (.c 51 [(.v 1),(.s [32,84,72,69,78,32])]),
 .x (.c 53 [(.v 0),(.v 1)]),
 .x (.c 51 [(.v 1),(.s [32,58,61,32,49,32,69,78,68,32,82,69,84,85,82,78,32])]),
 .x (.c 55 [(.v 0),(.v 1)]),
 .x (.c 51 [(.v 1),(.s [32,69,78,68,32])]),
 .s 8 (.c 52 [(.v 1),(.v 3)]),
 .a (.t (.v 1)<|.i 3) (.p [(.s [101,110,100]),(.p [(.v 8),(.t (.t (.t (.v 1)<|.i 3)<|.v 4)<|.i 1)])]),
 .a (.t (.v 1)<|.i 3) (.p [(.s [99,108,111,115,101]),(.i 0)]),
 .x (.c 51 [(.v 1),(.s [59])])]:=rfl
structure BA(A:pu)(H0:Hp)(ta a:Nat):Prop where
 n:R5 A a
 e:a≠ta
 h:H0.length<=ta
 b:H0.length<=a
def BP (A:pu)(H0:Hp)(t:Nat)(b:List Nm)(a:Nat)(W:List V):Hp->Prop:=TP A t b<|LP a W<|GK A H0
def Bk (b:BA A H0 t a):Fx A t<|LP a W<|GK A H0:=Rj b.n b.e<|Rr b.h
def dF (b:BA A H0 t a):Fr A<|BP A H0 t c a W:=bg<|Bk b
def GZ (b:BA A H0 t a)(c)(p:SG A d (BP A H0 t l a W) H):SG A d (BP A H0 t l a c)<|H.set a<|.l c:=
 ⟨p.g.adp _ b.n,⟨(YM b.e).trans p.f.t.g,p.f.t.ne,p.f.t.a,p.f.t.j⟩,dU p.f.f.g,
  by refine aa ZN ?_;exact p.f.f.f.ln,λi h1 e f g j k h=>(YM<|X1<|Yy<|XO h b.b).trans<|p.f.f.f.lo i h1 e f g j k h⟩
def rY (r:GR A H G)(x):R5 A<|H.length+x:=by have g:∀{a},a<A.s->H.length+x≠a:=λh=>XG<|XO (XY h<|xd r.d)<|Xx _ _;have d:=r.j;have c:=XY r.n d;have b:=XY r.u c;exact⟨g<|XY r.v<|XY r.s b,g<|XY r.s b,g b,g c,g d,XG<|XO (xd r.d)<|Xx _ _⟩
def UO (k:∀t a,BA A H0 t a->Tr (ae d) ((l.set i<|xR t).set j<|xR a) (SG A G<|BP A H0 t [] a []) s Q):
  Tr (ae d) l (SG A G<|GK A H0) (.s i (.l [])::.s j (.l [])::s) Q:=λH p=>by
 have e:(H++[AO.l []]).length=H.length+1:=XB;have q:=k H.length (H++[AO.l []]).length ⟨by refine aa e ?_;exact(rY p.g 1),aI 0x4190b42c0079b tq e,p.f.ln,by have:=p.f.ln;exact ba 0x8241689810f3620065b tq this e⟩ (H++[AO.l []]++[AO.l []])
  ⟨(p.g.app _).app _,⟨fk<|be _ _,(rY p.g 0),λx h=>by(cases h),nodup_nil⟩,by simp,(p.f.trans<|GK.app A H _).trans<|GK.app A _ _⟩
 exact q
def UF (b:BA A H0 t a)(e:Nat.ble W.length 9=true)(h:G.c<B)(m:Nat.ble (k+B) 850=true)(o:s.length<=30)(h1:gv l 1=xR A.s)(f:gv l i=xR a)(g:gv l j=xS s)
  (r:Tr (ae<|d+2) l (SG A (G.out (L++[.n s]) es<|k+2)<|BP A H0 t c a<|W++[.i (G.m.length+nI L:Nat)]) x Q):Tr (ae<|d+2) l (SG A (G.out L es k)<|BP A H0 t c a W) (.a (.v i) (.c 52 [.v 1,.v j])::x) Q:=
 aW (λH p=>by refine Ph (d:=d+2) p.g o (Ej h m) (nl rfl) λH1 u v w=>?_;have p1:SG A _ (BP A H0 t c a W) H1:=⟨v,dF b _ _ w p.f⟩;generalize G.m.length+nI L=n at u;exact⟨_,qt λq=>q _ f (kB p.f.f.g:mB H a=true) _ h1 _ g _ _ u _<|(λv=>by simp only[bF,p1.f.f.g,bc];exact Xr (by have:=Yb e;exact bB 0x1e848110492d0065b tq this):∀v,bF H1 a v=some (H1.set a<|.l<|W++[v])) _,GZ b _ p1⟩) r
def UR (b:BA A H0 t a)(y:Nat.ble W.length 9=true)(s:G.c<B)(F:Nat.ble (k+B) 850=true)(r:gv l 0=xR A.p)(h1:gv l 1=xR A.s)(D:gv l i=xR a)(E:gv l j=xR t)(h:¬∀c∈pJ,c∈f)
  (N:∀x,x∈pJ->x∉f->Tr (ae<|d+2) l (SG A (G.out (L++[.n x]) es<|k+2)<|BP A H0 t (f++[x]) a<|W++[.i (G.m.length+nI L:Nat)]) R Q):Tr (ae<|d+2) l (SG A (G.out L es k)<|BP A H0 t f a W) (.a (.v i) (.c 52 [.v 1,.c 54 [.v 0,.v j]])::R) Q:=λH p=>by
 refine cps λC m=>TQ (d:=d+2) p.g p.f.t (nl rfl) λx H2 S T U z=>m ?_;rcases z with⟨o,Y,z3⟩|⟨_,_,g⟩
 ·have p2:SG A _ (BP A H0 t (f++[x]) a W) H2:=⟨T,z3,Bk b _ _ U p.f.f⟩
  refine cps λC m=>bX (kP o) λm1 P m3=>Ph (d:=d+2) p2.g P (Ej s F) (nl rfl) λH1 u v w=>?_;have p1:SG A _ (BP A H0 t (f++[x]) a W) H1:=⟨v,dF b _ _ w p2.f⟩;have I:mB H a=true:=kB p.f.f.g;have q:∀v,bF H1 a v=some (H1.set a<|.l<|W++[v]):=λv=>by simp only[bF,p1.f.f.g,bc];exact Xr (by have:=Yb y;exact bB 0x1e848110492d0065b tq this)
  have O:=N x o Y;refine m<|aW (P:=λX=>X=H) (λX e=>⟨_,?_,GZ b _ p1⟩) O H rfl;generalize G.m.length+nI L=n at u;rw[e];exact qt λJ=>J _ D I _ h1 _ r _ E _ _ S _ _ u _<|q _
 ·exact Xv g h
def Qc (b:Fr A F)(h:gv l 0=xR A.p)(i:Tr (ae<|d+1) l (SG A G F) t<|Nx S)(k:Tr (ae<|d+1) l (SG A G F) f<|Nx S):Tn (ae<|d+1) l (SG A G F) (.i (.q .e (.c 50 [.v 0,.i 2])<|.i 1) t f) S:=
 NJ (R:=λ_=>SG A G F) (λH p=>by
  refine cps λC m=>OM (d:=d+1) (w:=2) p.g (by decide) (by decide) (nl rfl) λw a q n o c e=>?_;have g:w=0\/w=1:=by lia
  refine m ?_;rcases g with rfl|rfl
  ·exact⟨false,a,IH λj=>j _ h _ _ q _ rfl,c,b _ _ e p.f⟩
  ·exact⟨true,a,IH λj=>j _ h _ _ q _ rfl,c,b _ _ e p.f⟩) i k
def T9 (h1:gv l 1=xR A.s)(b:es.length=2)(f:Tr (ae d) (l.set i<|xI (G.a.length:Int)) (SG A (G.out L es k) F) s Q):Tr (ae d) l (SG A (G.out L es k) F) (.s i (.o .s (.n<|.t (.v 1)<|.i 3)<|.i 2)::s) Q:=
 aW (λH p=>by
  refine cps λC c=>bU p.g.items λg m n a o=>?_;have h:ej H (.r A.v)=some ((G.a.length:Int)+2):=by have:=bz p.g.g (by have:=p.g.bv;have:=p.g.m;simp only[X6];exact s9 ‹_› ‹_›);simpa [bZ.out,b]using this
  have e:(G.a.length:Int)+2-2=(G.a.length:Int):=aam ..;exact c<|⟨H,XR (qt λj=>j _ h1 _ a _ h _ rfl)<|by simp[h1,a,h,e],p⟩) f
def SX {j:List Nat}(b:BA A H0 t a)(q:G.c<B)(r:Nat.ble (k+2+B) 850=true)(h:j.length<=2)
  (s:∀o,Tr (ae d) [l0,xR A.s,l2,l3,l4,l5,xR a,l7,o] (SG A (G.out L (es++j.map λi=>Ev.d i vM)<|k+2)<|BP A H0 t v a<|j.map λ(i:Nat)=>V.i i) u Q):
  Tr (ae d) [l0,xR A.s,l2,l3,l4,l5,xR a,l7,f] (SG A (G.out L es k)<|BP A H0 t v a<|j.map λ(i:Nat)=>V.i i) (br::u) Q:=λH p=>by
 have n:=Ej q r;refine am (Kw (cl:=ae d) (A:=A) (G:=G) (jL:=a) (l0:=l0) (l2:=l2) (l3:=l3) (l4:=l4) (l5:=l5) (l7:=l7) j _ _ H f _ p.g (ba 0x6a4e1040c64c4d1065bd49c2685806067b tq n h) b.n p.f.f.g) λc o R g m=>?_;have l:bx (ae d) a4 [l0,xR A.s,l2,l3,l4,l5,xR a,l7,f] H br=some (.n [l0,xR A.s,l2,l3,l4,l5,xR a,l7,o],c):=by unfold br;exact aa (fc (a:=a) (vs:=j.map λ(i:Nat)=>V.i i) (rfl) p.f.f.g<|by rw[X6];exact bB 0x1e848110484d0065b tq h) R
 exact aW (P:=λX=>X=H) (λX e=>⟨c,by refine aa e ?_;exact l,g.up (k:=G.c+(k+2)) (by simp only[bZ.out];exact ba 0x4d0b00c105806484d1065b tq h)<|Xz (YU ‹_›)<|nl rfl,dF b _ _ m p.f⟩) (s o) H rfl
noncomputable def C2(p:Option<|Nm×Nm×Nm)(i:Nat):List Ev:=match p with |none=>[]|some _=>[.u i]
def Us (A:pu)(H0:Hp)(G:bZ)(t a:Nat)(L:List IL)(es:List Ev)(n k:Nat)(l:Option V->Lo)(b:Lo)(H:Hp):Prop:=
 ∃(p:Option<|Nm×Nm×Nm) (j:List Nat) (o:Option V),b=l o/\(rk p n=C2 p (n+2)++j.map (λi=>Ev.d i vM)/\j.length<=2)/\ug (cr p)/\
  SG A (G.out (L++cr p) (es++C2 p (n+2)) k) (BP A H0 t (Ml p) a<|j.map λ(i:Nat)=>V.i i) H
def Ok {l g i:Option V}(b:BA A H0 t a)(c:G.c<450){n:Nat}(f:G.m.length+nI L=n)(q:k=5):
  Tn (ae<|d+4) [xR A.p,xR A.s,l,g,i,xR t,xR a,none,none] (SG A (G.out L es k)<|BP A H0 t [] a []) P9
   (Us A H0 G t a L es n 25 λC=>[xR A.p,xR A.s,l,g,i,xR t,xR a,C,none]):=by
 subst q;refine Qc (dF b) rfl ?_ ?_
 ·refine pH [sg 40,wW YV,g1] (dF b) c rfl rfl rfl rfl rfl (O1 (Bk b) rfl rfl (λx s _=>bX (kP s) λw z D=>UF b rfl c rfl z rfl rfl rfl (pH [sg 44,g1] (dF b) c rfl rfl rfl rfl rfl (UR b rfl c rfl rfl rfl rfl rfl (λh=>?_) λy v _=>?_))) λh=>nomatch h [97]<|.head _)
  ·have h1:=h [97]<|.head _
   have e:=h [98]<|.tail _<|.head _;simp at h1 e;have h1:=h1;have e:=e;rw[<- h1]at e;cases e
  refine bX (kP v) λB E F=>pH [sg 58,g1,wW c0,g1,wW xh,g1] (dF b) c rfl rfl rfl rfl rfl (Lz (dF b) c rfl rfl rfl λu r=>pH [sg 41] (dF b) c rfl rfl rfl rfl rfl (y2 (k':=25) c (nl rfl) rfl (ay λH p=>⟨_,rfl,some (x,y,u),[n,n+1],_,rfl,⟨rfl,XH _⟩,?_,?_⟩)))
  ·exact yV (l:=[x,y,u]) rfl (Zz.2 ⟨w,Zz.2 ⟨B,Zz.2 ⟨r,λ_ h=>Xv h XZ⟩⟩⟩)
  ·have j:G.m.length+nI (L++[sg 40,wW YV,g1])=n:=by rw[ah];exact f
   have m:G.m.length+nI (L++[sg 40,wW YV,g1]++[.n x]++[sg 44,g1])=n+1:=by simp only[ah];exact Xy (·+1) f
   have o:G.m.length+nI (L++[sg 40,wW YV,g1]++[.n x]++[sg 44,g1]++[.n y]++[sg 58,g1,wW c0,g1,wW xh,g1])=n+2:=by simp only[ah];exact Xy (·+2) f
   rw[j,m,o]at p;exact⟨p.g.cast<|by simp[cr,C2],p.f⟩
 ·exact y2 (k':=25) c (by decide) rfl (ay λH p=>⟨_,rfl,none,[],_,rfl,⟨rfl,X5 _⟩,a6 rfl,p.g.cast<|by simp[cr,C2],p.f⟩)
def OD (f:∃e,es=.d i a9::e)(h1:gv l 1=xR A.s)(b:gv l 4=xI (G.a.length:Int))(c:gv l 8=xI P)(H)(r:GR A H<|G.out L es k):
  ai m l (.p [.v 8,.t (.t (.t (.v 1)<|.i 3)<|.v 4)<|.i 1]) H=some (.t [.i P,.i i],H):=by
 refine Xs f λe a=>?_;subst a;refine cps λC g=>bU r.items λn o p y q=>?_;have h:getItem H (.r A.v) (.i (G.a.length:Int))=some (.t [.s a9,.i i]):=by refine getL r.g (by have:=r.bv;have:=r.m;simp only[X6];exact vT ‹_› ‹_›) ?_;simp only[bZ.out,Zq,YY<|show(List.map lw G.a).length<=G.a.length by simp,X6,sub_self];rfl
 have d:getItem H (.t [.s a9,.i i]) (.i 1)=xI i:=rfl;exact g<|IH λj=>j _ c _ h1 _ y _ b _ h _ d
def U3 (A:pu)(H0:Hp)(G:bZ)(n:Nm)(v:V)(H':Hp):Prop:=v=.n/\∃p:Pr,p.nm=n/\Pb p/\GR A H' (G.out (uE p) (jw p G.m.length) 300)/\GK A H0 H'
def P2 (hL:a=[g1,wW eg,g1,.n n])(h:E=[.d G.m.length a9,.o]):
  G.out (a++cr p++[sg 59]++aR D++t8++dv v++[g1,wW lF,g1]++[.n x]++[g1,.f ak [58,61],g1,Mine.n1,g1,wW bW,g1,wW fg,g1]++dv b++[g1,wW bW,g1]++[.n n]++[sg 59])
   (E++rk p (G.m.length+1)++cM D (G.m.length+nI (a++cr p++[sg 59]))++kH v (G.m.length+nI (a++cr p++[sg 59]++aR D++t8))
    ++[.u<|G.m.length+nI (a++cr p++[sg 59]++aR D++t8++dv v++[g1,wW lF,g1])]++kH b (G.m.length+nI (a++cr p++[sg 59]++aR D++t8++dv v++[g1,wW lF,g1]++[.n x]++[g1,.f ak [58,61],g1,Mine.n1,g1,wW bW,g1,wW fg,g1]))
    ++[.f (G.m.length+nI (a++cr p++[sg 59]++aR D++t8++dv v++[g1,wW lF,g1]++[.n x]++[g1,.f ak [58,61],g1,Mine.n1,g1,wW bW,g1,wW fg,g1]++dv b++[g1,wW bW,g1])) G.m.length]++[.c]) 300
   =G.out (uE ⟨n,p,D,v,x,b⟩) (jw ⟨n,p,D,v,x,b⟩ G.m.length) 300:=by
 subst hL;subst h;generalize G.m.length=m;have z:nI [g1,wW eg,g1,.n n]=1:=rfl;have c:nI [sg 59]=0:=rfl;have d:nI t8=0:=rfl;have e:nI [g1,wW lF,g1]=0:=rfl;have f:nI [IL.n x]=1:=rfl;have g:nI [g1,.f ak [58,61],g1,Mine.n1,g1,wW bW,g1,wW fg,g1]=0:=rfl;have i:nI [g1,wW bW,g1]=0:=rfl;congr 1
 ·simp only[uE,JN,XM];rfl
 ·simp only[ah,z,c,d,e,f,g,i,jw,qd,nB,YZ,<- X7,XM];rfl
def JU {k:Int}{n:Nm}{c:Option<|Nm×Nm×Nm}{j:List Nat}{u:Option V}(b:BA A H0 t a)(h:G.c<450)(m:G.b<=0)(n1:n∈cK)(r:n.length<=30)
  (h1:rk c (G.m.length+1)=C2 c (G.m.length+1+2)++j.map (λi=>Ev.d i vM)) (o:j.length<=2) (s:ug<|cr c) {E:List Ev} (l:E=[.d G.m.length a9,.o]) {g:List IL} (hL:g=[g1,wW eg,g1,.n n]):
  Tr (ae<|d+13) [xR A.p,xR A.s,xI k,xS n,xI (G.a.length:Int),xR t,xR a,u,none] (SG A (G.out (g++cr c) (E++C2 c (G.m.length+1+2)) 25)<|BP A H0 t (Ml c) a<|j.map λ(i:Nat)=>V.i i)
   [br,
 .x (.c 51 [(.v 1),(.s [59])]),
 .x (.c 57 [(.v 0),(.v 1),(.o .a (.v 2)<|.i 1),(.v 5)]),
 .x (.c 51 [(.v 1),(.s [32,66,69,71,73,78,32,73,70,32])]),
 .x (.c 55 [(.v 0),(.v 1)]),
 .x (.c 51 [(.v 1),(.s [32,84,72,69,78,32])]),
 .x (.c 53 [(.v 0),(.v 1)]),
 .x (.c 51 [(.v 1),(.s [32,58,61,32,49,32,69,78,68,32,82,69,84,85,82,78,32])]),
 .x (.c 55 [(.v 0),(.v 1)]),
 .x (.c 51 [(.v 1),(.s [32,69,78,68,32])]),
 .s 8 (.c 52 [(.v 1),(.v 3)]),
 .a (.t (.v 1)<|.i 3) (.p [(.s [101,110,100]),(.p [(.v 8),(.t (.t (.t (.v 1)<|.i 3)<|.v 4)<|.i 1)])]),
 .a (.t (.v 1)<|.i 3) (.p [(.s [99,108,111,115,101]),(.i 0)]),
 .x (.c 51 [(.v 1),(.s [59])])] (Rt<|U3 A H0 G n):=by
 refine SX b h rfl o λy=>?_;simp only[XM,<- h1];refine pH [sg 59] (dF b) h rfl rfl rfl rfl rfl (VX (v:=.i<|k+1) (Bk b) m h rfl rfl rfl rfl (λH=>by simp) λD hD=>pH t8 (dF b) h rfl rfl rfl rfl rfl (Rv (dF b) h rfl rfl rfl λv e=>pH [g1,wW lF,g1] (dF b) h rfl rfl rfl rfl rfl (Lz (dF b) h rfl rfl rfl λx q=>pH [g1,.f ak [58,61],g1,Mine.n1,g1,wW bW,g1,wW fg,g1] (dF b) h rfl rfl rfl rfl rfl (Rv (dF b) h rfl rfl rfl λw f=>pH [g1,wW bW,g1] (dF b) h rfl rfl rfl rfl rfl (So (dF b) h rfl r rfl rfl (Eg (.f _ G.m.length) (dF b) h rfl rfl rfl (OD (by refine aa l ?_;exact⟨_,rfl⟩) rfl rfl rfl) ?_))))));refine Eg .c (dF b) h rfl rfl rfl (λ_ _=>rfl) (pH [sg 59] (dF b) h rfl rfl rfl rfl rfl (y2 (k':=300) h (nl rfl) rfl (ay λH p=>⟨rfl,⟨n,c,D,v,x,w⟩,rfl,⟨?_,hD,p.f.t.j⟩,p.g.cast ?_,p.f.f.f⟩)))
 ·exact aJ (aJ (aJ (aJ (aJ (cY rfl n1) s)<|a6 rfl) hD.nm)<|aJ (aJ (aJ (aJ (a6 rfl) e)<|cY rfl q) f)<|a6 rfl)<|cY rfl n1
 ·exact aa (P2 hL l) rfl
def WH {dp:Int}{n:Nm}(r:GR A H G)(s:G.b<=0)(j:n∈pJ)(i:G.c<450)(l:16<=d){Cx:Prop}(k:∀p H',ae d 58 [.r A.p,.r A.s,.i dp,.s n] H=some (.v .n,H')->p.nm=n->Pb p->GR A H' (G.out (uE p) (jw p G.m.length) 300)->GK A H H'->Cx):Cx:=by
 revert k;refine lR 14 l rfl λd l k=>bX (kP j) λn1 m x=>?_;have o:CT (ae<|d+13+1) 58 [.r A.p,.r A.s,.i dp,.s n] (SG A (G.out [] [] 0)<|GK A H)<|U3 A H G n:=by refine dZ rfl rfl (l:=[xR A.p,xR A.s,xI dp,xS n,none,none,none,none,none]) rfl Ku (pH [g1,wW eg,g1] Gj i rfl rfl rfl rfl rfl (Uf (.d G.m.length a9) Gj i rfl rfl rfl rfl m (Eg .o Gj i rfl rfl rfl (λ_ _=>rfl) (T9 rfl rfl (UO λB a b=>qM (Ok (n:=G.m.length+1) b i rfl rfl) λw X p=>?_)))));obtain⟨z,u,y,rfl,⟨h1,q⟩,t,p⟩:=p;exact JU b i s n1 m h1 q t rfl rfl X p
 obtain⟨v,H',e,rfl,p,c,f,g,h⟩:=o H ⟨r.cast AP.symm,GK.refl A H⟩;exact k p H' e c f g h
end
section
variable{A:pu}{H H' H1 H2 H3:Hp}{G:bZ}{d ta:Nat}{tk:List Nm}{L M:List IL}{es:List Ev}{k B:Nat}{l:Lo}{ss:List MS}{Q:Fl->Hp->Prop}{F:Hp->Prop}
def Ig (r:GR A H G)(b:Int){Cx:Prop}(a:∀H',setItem H (.r A.s) (.i 4) (.i b)=some H'->GR A H' {G with b:=b}->GK A H H'->Cx):Cx:=by have i:nW 5 4=some 4:=rfl;refine a (H.set A.s<|.l [.r A.e,.i G.d.length,.r A.m,.r A.v,.i b]) (by simp[Mj r.d,i]) ?_<|GK.set _<|.inr<|.inr<|.inr<|.inr<|.inr rfl;exact cps λC a=>aj r.he λss e c h=>am r.f λt l p1 p2 p=>a<|{r with f:=⟨t,l,aB p1<|r.nsp,aB p2<|r.nsw,p⟩,he:=⟨ss,aB e<|r.nse,c,h⟩,hm:=aB r.hm<|r.nsm,g:=aB r.g<|r.nsv,d:=dU r.d}
theorem By:{G.out L es k with b:=b}=({G with b:=b}:bZ).out L es k:=rfl
noncomputable def d2B:List MS:=[.u (.v 1) (.i 4) .s<|.i 1,.s 7<|.c 54 [(.v 0),(.v 3)],.i (.a [(.q .n (.v 7)<|.s []),(.q .ge (.t (.v 1)<|.i 4)<|.i 0)]) [.x<|.c 58 [(.v 0),(.v 1),(.v 2),(.v 7)]] []]
theorem Rc:cm=.h 6 (.e (.q .g (.t (.v 1)<|.i 4)<|.i 0) (.c 50 [(.v 0),(.i 3)])<|.i 0) d2B:=rfl
def RO {b b':Int}(f:Fr A F)(g:G.b=b)(h:d5 .s (.i b) (.i 1)=xI b')(h1:gv l 1=xR A.s)(n:Tr (ae d) l (SG A {G with b:=b'} F) ss Q):Tr (ae d) l (SG A G F) (.u (.v 1) (.i 4) .s (.i 1)::ss) Q:=
 aW (λH p=>by refine cps λC m=>bU p.g.items λo q r s i=>Ig p.g b' λH1 a c e=>?_;rw[g]at i;exact m<|⟨H1,qt λj=>j _ h1 _ i _ h _ a,c,f _ _ e p.f⟩) n
def WS (m:Fr A F)(r:G.b<=0)(h:f∈pJ)(s:G.c<450)(g:gv l 0=xR A.p)(h1:gv l 1=xR A.s)(i:gv l 2=xI dp)(j:gv l 7=xS f)
  (v:∀p:Pr,p.nm=f->Pb p->Tr (ae<|d+16) l (SG A (G.out (uE p) (jw p G.m.length) 300) F) ss Q):Tr (ae<|d+16) l (SG A G F) (.x (.c 58 [.v 0,.v 1,.v 2,.v 7])::ss) Q:=λH p=>by
 exact cps λC u=>WH (d:=d+16) (dp:=dp) p.g r h s (nl rfl) λq H' a n o b c=>u<|aW (P:=λX=>X=H) (λX e=>⟨H',by refine aa e ?_;exact qt λt=>t _ g _ h1 _ i _ j _ _ a,b,m _ _ c p.f⟩) (v q n o) H rfl
def Ck (c:G.b=b)(h1:gv l 1=xR A.s)(a:gv l 7=xS x)(t)(e:(!decide (x=[])&&decide (0<=b))=t)(H)(p:SG A G F H):ai (ae d) l (.a [(.q .n (.v 7)<|.s []),(.q .ge (.t (.v 1)<|.i 4)<|.i 0)]) H=some (.b t,H):=by
 refine bU p.g.items λf g m n i=>?_;rw[c]at i;subst e;by_cases h:x=[]
 ·exact XR (IH λj=>j _ a _<|Sq rfl h) (by simp[h])
 ·simp[h1,a,i,h]
def D2 (A:pu)(ta:Nat)(a:V)(p c e:Option V)(S:Hp->Prop)(b:Lo)(H:Hp):Prop:=∃i x:V,b=[xR A.p,xR A.s,some a,xR ta,p,c,some i,some x,e]/\S H
def Ln {c:Int}{g j v m:Option V}{i:V}(h:Fx A ta F)(n:G.b=1)(e:G.c<430):
  Tr (ae<|d+16) [xR A.p,xR A.s,xI c,xR ta,g,j,some i,v,m] (SG A G<|TP A ta tk F) d2B
   (Nx (D2 A ta (.i c) g j m λH=>∃(o:Option Pr) (t:List Nm),(∀p,o=some p->Pb p)/\ug (fR o)/\(tk++NR o).Nodup/\SG A (({G with b:=0}:bZ).out (fR o) (qV o G.m.length) 300) (TP A ta t F) H)):=by
 refine RO (b':=0) (bg h) n rfl rfl (O1 h rfl rfl (λx f _=>?_) λ_=>?_)
 ·exact bX (kP f) λn1 w u=>bG (Ck (b:=0) rfl rfl rfl _ (by simp[u]))<|WS (bg h) (Int.le_refl _) f (yw e rfl) rfl rfl rfl rfl λp r o=>ay λH s=>⟨_,rfl,_,_,rfl,some p,_,λq a=>by cases a;exact o,o.nm,by show(tk++[p.nm]).Nodup;refine aa r ?_;exact s.f.t.j,s⟩
 ·exact aN (Ck (b:=0) rfl rfl rfl _ (rfl))<|ay λH s=>⟨_,rfl,_,_,rfl,none,_,λq a=>(cE a nt),a6 rfl,by simpa [NR]using s.f.t.j,(s.g.up (k:=G.c+300) (bB 0x258e03012 tq)<|bB 0xe11c96380c935ce0067b tq e).cast<|by simp[bZ.out,fR,qV,fL,df],s.f⟩
def Q7 {a:Int}{p c g e:Option V}{i:V}(h:Fx A ta F)(f:G.b=0):
  Tr (ae<|d+16) [xR A.p,xR A.s,xI a,xR ta,p,c,some i,g,e] (SG A G<|TP A ta tk F) d2B
   (Nx (D2 A ta (.i a) p c e λH=>∃t,SG A {G with b:=-1} (TP A ta t F) H)):=by
 refine RO (b':=-1) (bg h) f rfl rfl (O1 h rfl rfl (λx j _=>?_) λ_=>?_)
 ·exact aN (Ck (b:=-1) rfl rfl rfl _ (by simp))<|ay λH s=>⟨_,rfl,_,_,rfl,_,s⟩
 ·exact aN (Ck (b:=-1) rfl rfl rfl _ (rfl))<|ay λH s=>⟨_,rfl,_,_,rfl,_,s⟩
def OT (A:pu)(G:bZ)(F:Hp->Prop)(ta:Nat)(tk:List Nm)(x:Dc×Option Pr×Int×List Nm)(H:Hp):Prop:=
 MU x.1/\(∀p,x.2.1=some p->Pb p)/\ug (fR x.2.1)/\(tk++zd x.1++NR x.2.1).Nodup/\
  SG A (({G with b:=x.2.2.1}:bZ).out (aR x.1++fR x.2.1) (cM x.1 G.m.length++qV x.2.1 (G.m.length+nI (aR x.1))) 540) (TP A ta x.2.2.2 F) H
def Xa {c:Int}(f:Fx A ta F)(P:G.b=1)(i:G.c<180):CT (ae<|d+17) 57 [.r A.p,.r A.s,.i c,.r ta] (SG A G<|TP A ta tk F) (λv H=>v=.n/\∃x,OT A G F ta tk x H):=by
 refine dZ (d:=d+16) rfl rfl (l:=[xR A.p,xR A.s,xI c,xR ta,none,none,none,none,none]) rfl (show gA.body=[cX,cm]from rfl) (qM (Qp (d:=d+6) (yw i rfl) f) λg X p=>cps λC b=>?_);obtain⟨D,z,E,I,J,N,rfl,y,p⟩:=p;refine OM (d:=d+16) (w:=3) p.g (by decide) (by decide) (nl rfl) λw H2 R b2 b3 T U=>bU p.g.items λi0 i1 i2 i3 i4=>?_;have Y:∀{m:Nat},w=m->ai (ae<|d+16) [xR A.p,xR A.s,xI c,xR ta,z,E,I,J,N] (.e (.q .g (.t (.v 1)<|.i 4)<|.i 0) (.c 50 [(.v 0),(.i 3)])<|.i 0) X=some (.i m,H2):=λe=>by subst e;exact hE λjj=>jj _ i4 _ (kr rfl (by simp only[bZ.out];lia:(0:Int)<(G.out (aR D) (cM D G.m.length) 240).b)) _ _ R
 have q:SG A (G.out (aR D) (cM D G.m.length) 240) (TP A ta (tk++zd D) F) H2:=⟨T,bg f _ _ U p.f⟩;have j:∀{m:Nat}{S:Lo->Hp->Prop},w=m->m<=2->Tg (λv l H=>XU (ae<|d+16) a4 (l.set 6<|some v) H d2B) (bS 0 m 1) [xR A.p,xR A.s,xI c,xR ta,z,E,I,J,N] (SG A (G.out (aR D) (cM D G.m.length) 240)<|TP A ta (tk++zd D) F) S->(∀l H,S l H->∃x,OT A G F ta tk x H)->Z (XU (ae<|d+16) a4 [xR A.p,xR A.s,xI c,xR ta,z,E,I,J,N] X [cm]) (Rt λv H=>v=.n/\∃x,OT A G F ta tk x H):=λ{m S} e hm h k=>by refine dH (h H2 q) λg H' W s=>⟨.n g,H',?_,rfl,k _ _ s⟩;simp only[Rc,aV,rv (Y e) (YG m)<|by lia];exact Xy (M8 _ _ _) W
 have a:w=0\/w=1\/w=2:=by lia
 refine b ?_;rcases a with a|a|a
 ·exact j (m:=0) a (nl rfl) (vY (S:=λ_ H=>∃x,OT A G F ta tk x H) λH s=>⟨⟨D,none,G.b,tk++zd D⟩,y,λq hq=>(cE hq nt),a6 rfl,by simpa [NR]using p.f.t.j,((s.g.up (k:=G.c+540) (by simp only[bZ.out];exact bB 0x438e030f070192 tq)<|bB 0xe11d0e380c9168e0067b tq i).cast<|by simp[bZ.out,fR,qV]),s.f⟩) λ_ _ s=>s
 ·refine j (m:=1) a (nl rfl) (lZ (Ln f P<|up i rfl) λg=>vY (S:=λ_ H=>∃x,OT A G F ta tk x H) λH s=>cps λC b=>?_) λ_ _ s=>s
  obtain⟨_,_,_,o,t,n,r,u,s⟩:=s;refine b<|⟨⟨D,o,0,t⟩,y,n,r,u,s.g.cast ?_,s.f⟩;simp only[fj,By,dY]
 ·refine j (m:=2) a (nl rfl) (lZ (Ln f P<|up i rfl) λg H s=>cps λC b=>?_) λ_ _ s=>s
  obtain⟨_,_,rfl,o,t,n,r,u,s⟩:=s;refine b<|lZ (P:=SG A _ _) (Q7 f rfl) (λg=>vY (S:=λ_ H=>∃x,OT A G F ta tk x H) λH s=>cps λC b=>?_) H s;obtain⟨_,_,_,O,s⟩:=s;refine b<|⟨⟨D,o,-1,O⟩,y,n,r,u,s.g.cast<|aa fj ?_,s.f⟩;simp[bZ.out,X7]
end
section
variable{cl:Cl}{lp:ZD}{l:Lo}{H:Hp}
theorem qT:∀X:List Int,j6 (X.map V.i)=some X
 | []=>rfl
 |x::X=>by simp[zU,qT X]
def He {a:ME}{r:Nat}{X:List Int}{H1:Hp}(h:ai cl l a H=some (.r r,H1))(c:H1[r]?=some (.l<|X.map V.i))(b:X.length<=1000000)(d:∀x∈X,sm x=true):ai cl l (.u a) H=some (.i X.sum,H1):=by
 refine(bI h).trans ?_;have e:Mh H1 (.r r)=some X.sum:=by show hL H1[r]? _=_;exact aa c ((kW<|qT _).trans<|Xr<|by simp[b];exact d)
 refine aa e ?_;rfl
def zR {a hi:ME}{r:Nat}{ns:List Int}{j:Int}{H1 H2:Hp}(b:ai cl l a H=some (.r r,H1))(c:ai cl l hi H1=some (.i j,H2))(f:H2[r]?=some (.ro ns))(h:0<=j)(d:sm j=true)(e:ns.length<=1048576):
  ai cl l (.Y a hi) H=some (.r H2.length,H2++[.l<|(ns.take j.toNat).map V.i]):=by
 refine(bI b).trans<|(bI c).trans ?_;show hO H2[r]? _=_;exact aa f (Xr<|by simp[h,d,e])
end
def Ot {a b:Int}(h:0<b)(h1:b<=1000000):fQ (.fdiv ()) (.i a) (.i b)=xI (a/b):=by simp only[fQ,Yv h,jh (x:=b) (Yi (by decide)<|YN h) h1,ZP,if_true,cy]
def GY {c:Cl}{v x:Option V}{l:List Int}{b r:Hp}{s:V}{q:Int}(d:l.length<=400)(h:0<q->¬(l.length:Int)<300):
  bx c a4 [some s,xR b.length,v,xI q,x] (b++.l (l.map V.i)::r) X4=some (.n [some s,xR b.length,v,xI q,x],b++.l (l.map V.i)::r):=by
 unfold X4;rw[aG];by_cases h1:0<q
 ·have a:=bz (H:=b++.l (l.map V.i)::r) (a:=b.length) (l:=l.map V.i) (by simp) (by simp;exact Iw d)
  rw[X6]at a;simp[h1,a,h h1]
 ·simp[h1]
def GU {c:Cl}{v x:Option V}{l:List Int}{base r:Hp}{s:V}{q:Int}{ss:List MS}(h:l.length<=400):
  XU c a4 [some s,xR base.length,v,xI q,x] (base++.l (l.map V.i)::r) (.a (.v 1) (.o .m (.v 3)<|.i 1000)::.s 3 (.o (.fdiv ()) (.v 3)<|.i 1000)::ss)=XU c a4 [some s,xR base.length,v,xI<|q/1000,x] (base++.l ((l++[q % 1000]).map V.i)::r) ss:=by
 simp only[Zq,af,map_nil];simp only[aV,Ou,r4,tZ,Mq,Es,Bf,oi,lb,Du,zY,C5,zX,yE,pZ,(BS base (l.map V.i) r),Kj,if_true,(kd (a:=q) (b:=1000) (by decide)<|by decide),(yF (base:=base) (k:=l.map V.i) (r:=r) (v:=.i<|q % 1000)<|by simp;exact Iw h),(Ot (a:=q) (b:=1000) (by decide)<|by decide),sB,set_cons_succ,set_cons_zero]
def Ql {a:Cl}{v x:Option V}{l:List Int}{b r:Hp}{s:V}{q:Int}(h1:0<q)(d:(l.length:Int)<300)(e:l.length<=400):
  bx a a4 [some s,xR b.length,v,xI q,x] (b++.l (l.map V.i)::r) X4=bx a a4 [some s,xR b.length,v,xI<|q/1000,x] (b++.l ((l++[q % 1000]).map V.i)::r) X4:=by
 have h:=bz (H:=b++.l (l.map V.i)::r) (a:=b.length) (l:=l.map V.i) (by simp) (by simp;lia);rw[X6]at h;have c:ai a [some s,xR b.length,v,xI q,x] (.a [(.q .g (.v 3)<|.i 0),(.q .l (.n<|.v 1)<|.i 300)]) (b++.l (l.map V.i)::r)=some (.b true,b++.l (l.map V.i)::r):=by simp[h1,h,d]
 conv=>lhs;unfold X4
 rw[aG,c,qb,Xr rfl,GU e];rfl
def M9 {cl:Cl}{v2:Option V}{x4:Option V}{base rest:Hp}{s:V}{m:Nat}(r:300<=m)(a:m<=400)(k:Nat):∀(l:List Int) (q:Int),300-l.length<=k->(∀x∈l,0<=x/\x<1000)->l.length<=m->
  ∃(d:List Int) (o:Int),bx cl a4 [some s,xR base.length,v2,xI q,x4] (base++.l (l.map V.i)::rest) X4=some (.n [some s,xR base.length,v2,xI o,x4],base++.l (d.map V.i)::rest)/\(∀x∈d,0<=x/\x<1000)/\d.length<=m:=by
 induction k with
 |zero=>intro l q g c b;exact⟨l,q,GY (Xz b a) λ_ h=>not_lt.mpr (Nat.le_of_sub_eq_zero<|Nat.le_zero.mp g)<|X2.mp h,c,b⟩
 |succ k i=>
  intro l q g c b;by_cases h1:0<q
  ·by_cases f:(l.length:Int)<300
   ·have e:(l++[q % 1000]).length=l.length+1:=XB
    refine cps λC t=>?_;obtain⟨d,o,i,j,n⟩:=i (l++[q % 1000]) (q/1000) (by refine aa e ?_;exact Nat.pred_le_pred g) (λx p=>by
     rcases YH.1 p with z|z
     ·exact c x z
     ·simp at z;clear p;subst z;exact⟨ZF _<|by decide,aax _<|by decide⟩) (by refine aa e ?_;exact Xz (X2.mp f) r)
    exact t<|⟨d,o,(Ql h1 f<|Xz b a).trans i,j,n⟩
   ·exact⟨l,q,GY (Xz b a) λ_=>f,c,b⟩
  ·exact⟨l,q,GY (Xz b a) λh=>Xv h h1,c,b⟩
def stB:List MS:=[.s 3<|.e (.q .ge (.v 2)<|.i 0) (.v 2)<|.o .s (.i 1)<|.v 2,.a (.v 1)<|.o .m (.v 3)<|.i 1000,.s 3<|.o (.fdiv ()) (.v 3)<|.i 1000,X4]
theorem Rm:gJ=.g 2 (.Y (.v 0)<|.i 50) stB:=rfl
def MA {cl:Cl}{ok:Hp->Bool}{s:V}{x4:Option V}{base rest:Hp}(d:∀l:List V,ok (base++.l l::rest)=true)(cs:List Int):∀(m:Nat) (l:List Int) (v2 b:Option V),(∀x∈l,0<=x/\x<1000)->l.length<=m->300<=m->m+cs.length<=380->
  ∃(l':List Int) (p2 p:Option V),aK (λv l' H'=>XU cl a4 (l'.set 2<|some v) H' stB) ok (cs.map V.i) [some s,xR base.length,v2,b,x4] (base++.l (l.map V.i)::rest)=some (.n [some s,xR base.length,p2,p,x4],base++.l (l'.map V.i)::rest)/\(∀x∈l',0<=x/\x<1000)/\l'.length<=380:=by
 induction cs with
 |nil=>intro m l v2 b g e f a;exact⟨l,v2,b,bp<|d _,g,Xz e a⟩
 |cons c cs k=>
  intro m l v2 b g e f a;rw[aM,<- X7,add_right_comm]at a;have a:=a;refine cps λC B=>?_;obtain⟨q,t⟩:∃q:Int,q=if 0<=c then c else 1-c:=⟨_,rfl⟩;have r:m+1<=380:=Xz (Xx _ _) a;have i:∀x∈l++[q % 1000],0<=x/\x<1000:=λx A=>by
   rcases YH.1 A with z|z
   ·exact g x z
   ·simp at z;subst z;exact⟨ZF _<|by decide,aax _<|by decide⟩
  refine am (M9 (cl:=cl) (v2:=xI c) (x4:=x4) (base:=base) (rest:=rest) (s:=s) (Zv f) (Xz r<|nl rfl) 300 (l++[q % 1000]) (q/1000) (sub_le _ _) i (by refine aa XB ?_;exact aba e:(l++[q % 1000]).length<=m+1)) λu w D E F=>?_;refine Bd (k (m+1) u (xI c) (xI w) E F (Zv f) a) λl' p2 p k n o=>B<|⟨l',p2,p,(aS (d _) (l':=[some s,xR base.length,xI c,xI w,x4]) (H':=base++.l (u.map V.i)::rest) ?_).trans k,n,o⟩;have y:ai cl [some s,xR base.length,xI c,b,x4] (.e (.q .ge (.v 2)<|.i 0) (.v 2)<|.o .s (.i 1)<|.v 2) (base++.l (l.map V.i)::rest)=some (.i q,base++.l (l.map V.i)::rest):=by
   by_cases h:0<=c
   ·exact XR (hE λj=>j _<|kr rfl h) (by simp[t,Xr h])
   ·exact XR (hE λj=>j _ (fv rfl h) _ rfl) (by simp[t,Xq h])
  show XU cl a4 [some s,xR base.length,xI c,b,x4] _ stB=_;simp only[stB,aV,r4,y];exact(GU<|Xz e<|Xz (le_succ m)<|Xz r<|nl rfl).trans<|uf λj=>j _ _ D
def Wz {d:Nat}{ns:List Int}(z:ns.length<=63){Cx:Prop}(v:∀(H:Hp) (y m:Nat),ae (d+1) 49 [.r 0] [.ro ns]=some (.v<|.r m,H)->PL y m H->Cx):Cx:=by
 obtain⟨cs,c⟩:∃cs,cs=ns.take 50:=⟨_,rfl⟩;have n:=zR (cl:=ae d) (l:=[xR 0,xR 1,none,none,none]) (H:=[AO.ro ns,.l []]) (a:=.v 0) (hi:=.i 50) (r:=0) (ns:=ns) (j:=50) (H1:=[AO.ro ns,.l []]) (H2:=[AO.ro ns,.l []]) (rfl) (rfl) (rfl:([AO.ro ns,.l []]:Hp)[0]?=some (.ro ns)) (by decide) (rfl)<|Xz ‹_›<|nl rfl;have f:(50:Int).toNat=50:=rfl;rw[f,<- c]at n;have b:cs.length<=50:=by refine aa c<|aa length_take ?_;exact Nat.min_le_left ..
 refine Bd (MA (cl:=ae d) (ok:=a3 2<|cs.map V.i) (s:=.r 0) (x4:=none) (base:=[AO.ro ns]) (rest:=[.l<|cs.map V.i]) (λl=>cS rfl) cs 300 [] none none (λx e=>by cases e) (X5 _) (XH _)<|bB 0x5f1c04b1cc9064e0065b tq b) λl p2 p g1 k q=>?_;have w:bx (ae d) a4 [xR 0,xR 1,none,none,none] [AO.ro ns,.l []] gJ=some (.n [xR 0,xR 1,p2,p,none],[AO.ro ns,.l<|l.map V.i,.l<|cs.map V.i]):=by simp only[Rm,fc (H1:=[AO.ro ns,.l []]++[.l<|cs.map V.i]) (a:=2) (vs:=cs.map V.i) n rfl (by rw[X6];exact bB 0x3d0902209064e0065b tq b)];exact g1
 have a:∀X:Hp,ej (AO.ro ns::X) (.r 0)=some (ns.length:Int):=λX=>by exact Xr (c:=ns.length<=1048576)<|Xz ‹_›<|nl rfl
 obtain⟨t,r,i,j⟩:∃t:Int,bx (ae d) a4 [xR 0,xR 1,p2,p,xI 0] [AO.ro ns,.l<|l.map V.i,.l<|cs.map V.i] (.i (.q .g (.n<|.v 0)<|.i 2) [.s 4<|.o .a (.i 1)<|.o .m (.u<|.v 1)<|.i 990] [])=some (.n [xR 0,xR 1,p2,p,xI t],[AO.ro ns,.l<|l.map V.i,.l<|cs.map V.i])/\0<=t/\t<1000:=by
  by_cases h:(2:Int)<ns.length
  ·have s:=He (cl:=ae d) (l:=[xR 0,xR 1,p2,p,xI 0]) (H:=[AO.ro ns,.l<|l.map V.i,.l<|cs.map V.i]) (a:=.v 1) (r:=1) (X:=l) (H1:=[AO.ro ns,.l<|l.map V.i,.l<|cs.map V.i]) (rfl) rfl (Xz ‹_›<|nl rfl) (λx e=>by have:=k x e;exact jh (Yi (by decide) this.1)<|Yi (YN this.2)<|by decide)
   refine⟨1+l.sum % 990,?_,by lia,by lia⟩;simp[a,h,s,(kd (a:=l.sum) (b:=990) (by decide)<|by decide)]
  ·exact⟨0,(yP λu=>u _ (a _) _<|fv rfl h),by decide,by decide⟩
 refine v ([AO.ro ns,.l<|(l.reverse).map V.i,.l<|cs.map V.i,.l [.r 1,.i t]]) 1 3 ?_ ⟨by decide,t,l.reverse,rfl,rfl,λx e=>k x<|List.mem_reverse.1 e,by simp;exact bB 0xe11c092f8e0065b tq q,i,j⟩;refine aa (aU (f:=fp) rfl rfl) ?_;have o:List.map some [V.r 0]++List.replicate (fp.vars-fp.p) none=[xR 0,none,none,none,none]:=rfl;refine aa o ?_;have g:y9 [AO.ro ns,.l<|l.map V.i,.l<|cs.map V.i] 1=some [AO.ro ns,.l<|(l.reverse).map V.i,.l<|cs.map V.i]:=by simp only[y9,List.getElem?_cons_succ,getElem?_cons_zero,X6,bc];refine aa (Xr<|Xz ‹_›<|nl rfl) ?_;simp
 simp only[fp,aV,Az,r4,Jg,Bx,CW,pZ,C3,yE,js,vt,tu,lb,sB,set_cons_succ,set_cons_zero,bE,dE,aM,bA,w,Es,r,Mb,tZ,Bf,oi,g,m9,yf,oO,jc]
structure BC(M:Md):Prop where
 nm:ug (aP M)
 j:ND M
 d:MU M.d
 pp:∀p,M.p=some p->Pb p
noncomputable def UL:MS:=.i (.q .g (.v 3)<|.i 0) [.x<|.c 51 [(.v 1),(.s [73,77,80,79,82,84,32])],.a (.t (.v 1)<|.i 3)<|.p [(.t (.l [(.s [97,108,105,97,115]),(.s [105,109,112,111,114,116])])<|.o .s (.v 3)<|.i 1),(.c 52 [(.v 1),(.c 54 [(.v 0),(.v 2)])])],.x<|.c 51 [(.v 1),(.t (.l [(.s [32,58,61,32,98,59,32]),(.s [59,32])])<|.o .s (.v 3)<|.i 1)]] []
theorem Ix:nX.body=[
 .s 1 (.l [(.l []),(.i 0),(.l []),(.l []),(.i 1)]),
 .x (.c 51 [(.v 1),(.s [77,79,68,85,76,69,32,97,59,32])]),
 .s 2 (.l []),
 .s 3 (.c 50 [(.v 0),(.i 3)]),
 UL,
 .x (.c 57 [(.v 0),(.v 1),(.i 0),(.v 2)]),
 .x (.c 51 [(.v 1),(.s [32,66,69,71,73,78,32])]),
 .x (.c 53 [(.v 0),(.v 1)]),
 .x (.c 51 [(.v 1),(.s [59,32,67,65,83,69,32])]),
 .x (.c 55 [(.v 0),(.v 1)]),
 .x (.c 51 [(.v 1),(.s [32,79,70,32,49,58,32,69,78,68,32,69,78,68,32,97,46])]),
 .r (.p [(.j<|.t (.v 1)<|.i 0),(.t (.v 1)<|.i 2),(.t (.v 1)<|.i 3)])]:=rfl
noncomputable def G0:bZ:=⟨[],[],[],1,0⟩
section
variable{A:pu}{H:Hp}{d ta:Nat}
def TT (H:Hp):Prop:=True
def ix:Fx A ta TT:=λ_ _ _ _=>trivial
def Vp {a b i:Nm}{q B k:Nat}{G:bZ}{L:List IL}{w:List Ev}{t:List Nm}{F:Hp->Prop}{l:Lo}{y:List MS}{Q:Fl->Hp->Prop}(j:Fx A ta F)(S:G.c<B)(T:Nat.ble (k+3+B) 850=true)(W:[V.s a,.s b][q]?=xS i)(O:gv l 0=xR A.p)(h1:gv l 1=xR A.s)(P:gv l 2=xR ta)
  (R:∀H,ai (ae<|d+2) l (.o .s (.v 3)<|.i 1) H=some (.i q,H)) (U:∃c∈pJ,c∉t) (kk:∀x,x∈pJ->Tr (ae<|d+2) l (SG A (G.out (L++[.n x]) (w++[.d (G.m.length+nI L) i])<|k+3)<|TP A ta (t++[x]) F) y Q):
  Tr (ae<|d+2) l (SG A (G.out L w k)<|TP A ta t F) (.a (.t (.v 1)<|.i 3) (.p [.t (.l [.s a,.s b])<|.o .s (.v 3)<|.i 1,.c 52 [.v 1,.c 54 [.v 0,.v 2]]])::y) Q:=λH p=>by
 refine cps λC kC=>bU p.g.items λi0 i1 i2 Y i4=>?_;have o:=Ej S T;refine XE (λv1 _=>TQ (d:=d+2) (p.g.app [.l [.s a,.s b]]) (p.f.t.keep<|GK.app A H _) (X0 _ _) λx H2 I J M u=>?_)<|K1 .o p.g<|Yz (Xx _ 3) o;rcases u with⟨D,u2,u3⟩|⟨_,_,m⟩
 ·refine bX (kP D) λn1 n2 n3=>Ph (d:=d+2) J n2 (Yz (Xx _ 3) o) (X0 _ _) λE e g f=>nF (K1 (.d (G.m.length+nI L) i) g<|Y7 o) λv2 s r N v=>?_
  change bF E A.v (.t [.s i,.i ((G.m.length+nI L:Nat):Int)])=some s at r;generalize G.m.length+nI L=n at e r;exact kC<|aW (P:=λX=>X=H) (λX z=>⟨s,by refine aa z ?_;exact MR (EJ (BU h1) rfl Y) v1 (RB<|lk (EJ (Nq<|lk rfl (lk rfl rfl)) (R _) (getL (be _ _) (nl rfl) W:getItem (H++[AO.l [.s a,.s b]]) (.r H.length) (.i (q:Int))=xS i))<|lk (HU (lk (BU h1)<|lk (HU (lk (BU O)<|lk (BU P) rfl) I) rfl) e) rfl) r,N,(u3.keep f).keep v,j _ _ (v.gx ta)<|j _ _ (f.gx ta)<|j _ _ M<|j _ _ ((GK.app A H _).gx ta) p.f.f⟩) (kk x D) H rfl
 ·exact U.elim λc h=>Xv (m c h.1) h.2
def JZ {w:Nat}(f:w<3):Tn (ae<|d+21) [xR A.p,xR A.s,xR ta,xI (w:Int)] (SG A (G0.out oy [] 1)<|TP A ta [] TT) UL
  (λl H=>l=[xR A.p,xR A.s,xR ta,xI (w:Int)]/\∃i,ug (bj i)/\SG A (G0.out (oy++bj i) (g9 i 0) 8) (TP A ta (NK i) TT) H):=by
 have h:G0.c<250:=nl rfl;have e:∃c∈pJ,c∉([]:List Nm):=⟨[97],by decide,by decide⟩;have b:Fr A<|TP A ta [] TT:=bg ix;rcases(by revert w;decide:w=0\/w=1\/w=2)with rfl|rfl|rfl
 ·exact vh<|aN (λ_ _=>rfl)<|ay λH p=>⟨_,rfl,rfl,none,a6 rfl,(p.g.up (k:=G0.c+8) (nl rfl)<|nl rfl).cast rfl,p.f⟩
 ·exact vh<|bG (λ_ _=>rfl)<|pH [wW eu,g1] b h rfl rfl rfl rfl rfl (Vp (q:=0) ix h rfl rfl rfl rfl rfl (λ_=>rfl) e λx a=>Nk (q:=0) (vs:=[.s [32,58,61,32,98,59,32],.s [59,32]]) [g1,.f ak [58,61],g1,fn [98],sg 59,g1] (bg ix) h rfl rfl rfl rfl rfl rfl rfl (λ_=>rfl) (λ_=>rfl) (ay λH p=>(⟨_,rfl,rfl,some (false,x),cY rfl (kP a).1,(p.g.up (k:=G0.c+8) (nl rfl)<|nl rfl).cast rfl,p.f⟩)))
 ·exact vh<|bG (λ_ _=>rfl)<|pH [wW eu,g1] b h rfl rfl rfl rfl rfl (Vp (q:=1) ix h rfl rfl rfl rfl rfl (λ_=>rfl) e λx a=>Nk (q:=1) (vs:=[.s [32,58,61,32,98,59,32],.s [59,32]]) [sg 59,g1] (bg ix) h rfl rfl rfl rfl rfl rfl rfl (λ_=>rfl) (λ_=>rfl) (ay λH p=>(⟨_,rfl,rfl,some (true,x),cY rfl (kP a).1,(p.g.up (k:=G0.c+8) (nl rfl)<|nl rfl).cast rfl,p.f⟩)))
end
section
variable{A:pu}{G:bZ}{d ta:Nat}{L:List IL}{es:List Ev}{k:Nat}{l:Lo}{ss:List MS}{Q:Fl->Hp->Prop}{F:Hp->Prop}
def Q4 (h:Fr A F)(b:∀ta,R5 A ta->Tr (ae d) (l.set i<|xR ta) (SG A G<|TP A ta [] F) ss Q):Tr (ae d) l (SG A G F) (.s i (.l [])::ss) Q:=λH p=>by exact b H.length (rY p.g 0) (H++[AO.l []]) ⟨p.g.app _,⟨by simp,(rY p.g 0),λx a=>by(cases a),nodup_nil⟩,h _ _ (GK.app A H _) p.f⟩
def Oo (A:pu)(v:V)(H:Hp):Prop:=∃M:Md,v=.t [.s<|jg<|aP M,.r A.m,.r A.v]/\H[A.m]?=some (.l<|(j0 (aP M) 0).map λp=>V.t [.i p.1,.s p.2])/\H[A.v]?=some (.l<|(ku M).map lw)/\BC M/\(jg<|aP M).length<=30000
def I4 {a:bZ}(r:a.d=[]/\a.m=[]/\a.a=[]/\a.c=0){M:Md}{F:Hp->Prop}(h1:gv l 1=xR A.s)(o:BC M):Tr (ae d) l (SG A (a.out (aP M) (ku M) 561) F) [.r<|.p [(.j<|.t (.v 1)<|.i 0),(.t (.v 1)<|.i 2),(.t (.v 1)<|.i 3)]]<|Rt<|Oo A:=λH p=>by obtain⟨D,w,q,f,c⟩:=a;refine tM r λi m n e=>?_;subst i;subst m;subst n;subst e;refine bU p.g.items λs B t u C=>aj p.g.he λss x y z=>?_;have h:(jg<|aP M).length<=30*561:=p.g.w;have b:ss.flatten=jg (aP M):=y;have g:ss.length<=561:=z;have j:=Cg (cl:=ae d) (l:=l) (H:=H) (H1:=H) (a:=.t (.v 1)<|.i 0) (ss:=ss) (IH λv=>v _ h1 _ s) x (bB 0x3d0902209462e0065b tq g) (by refine aa b ?_;exact e5.mpr<|bB 0x30d41104a31779af0065b tq h);rw[b]at j;exact⟨.r<|.t [.s<|jg<|aP M,.r A.m,.r A.v],H,by simp[h1,j,t,u],M,rfl,p.g.hm,p.g.g,o,bB 0xea61104a31779af0065b tq h⟩
def HT:Tr (ae<|d+21) [xR A.p,xR A.s,none,none] (SG A (G0.out [] [] 0) TT) [
 .x (.c 51 [(.v 1),(.s [77,79,68,85,76,69,32,97,59,32])]),
 .s 2 (.l []),
 .s 3 (.c 50 [(.v 0),(.i 3)]),
 UL,
 .x (.c 57 [(.v 0),(.v 1),(.i 0),(.v 2)]),
 .x (.c 51 [(.v 1),(.s [32,66,69,71,73,78,32])]),
 .x (.c 53 [(.v 0),(.v 1)]),
 .x (.c 51 [(.v 1),(.s [59,32,67,65,83,69,32])]),
 .x (.c 55 [(.v 0),(.v 1)]),
 .x (.c 51 [(.v 1),(.s [32,79,70,32,49,58,32,69,78,68,32,69,78,68,32,97,46])]),
 .r (.p [(.j<|.t (.v 1)<|.i 0),(.t (.v 1)<|.i 2),(.t (.v 1)<|.i 3)])]<|Rt<|Oo A:=by
 have f:G0.c<250:=nl rfl;refine pH oy (ix (ta:=0)).fr f rfl rfl rfl rfl rfl (Q4 (ix (ta:=0)).fr λta n=>M6 (n:=3) (bg ix) rfl rfl rfl (λ_=>rfl) λw s=>qM (JZ s) λM H p=>?_);obtain⟨rfl,i,B,p⟩:=p;refine rq (P:=SG A (G0.out (oy++bj i) (g9 i 0) 8)<|TP A ta (NK i) TT) (vs:=[.r A.p,.r A.s,.i 0,.r ta]) (λ_=>rfl) (Xa (d:=d+4) ix rfl (show 8<180 by decide)) (λx H p=>?_) H p;obtain⟨D,o,b,t⟩:=x;refine bU p λg j z y p=>?_;have q:=p.g;rw[(by rw[fj,ah];simp[G0,bO,b8,cj,oy]:(G0.out (oy++bj i) (g9 i 0) 8).m.length=nI (bj i)),By,dY]at q;have h:({G0 with b:=b}:bZ).c<250:=f;obtain⟨a,c⟩:∃a:bZ,a={G0 with b:=b}:=⟨_,rfl⟩;rw[<- c]at h;have h:=h;change GR A H (({G0 with b:=b}:bZ).out _ _ 548)at q;rw[<- c]at q;refine(?_:Tr (ae<|d+21) _ (SG A (a.out (oy++bj i++(aR D++fR o)) (g9 i 0++(cM D (nI<|bj i)++qV o (nI (bj i)+nI (aR D)))) 548)<|TP A ta t TT) _ _) H ⟨q,p.f⟩;refine pH [g1,wW bL,g1] (bg ix) h rfl rfl rfl rfl rfl (Lz (bg ix) h rfl rfl rfl λx u=>pH [sg 59,g1,wW yl,g1] (bg ix) h rfl rfl rfl rfl rfl (Rv (bg ix) h rfl rfl rfl λv r=>pH HN (bg ix) h rfl rfl rfl rfl rfl ?_));have e:a.d=[]/\a.m=[]/\a.a=[]/\a.c=0:=by refine aa c ?_;exact⟨rfl,rfl,rfl,rfl⟩
 refine d7 (λH p=>⟨p.g.cast ?_,p.f⟩)<|I4 e (M:=⟨i,D,o,x,v⟩) rfl ⟨aJ (aJ (aJ (aJ (aJ (aJ (a6 rfl) B) g.nm) z)<|cY rfl u) r)<|a6 rfl,⟨y,λp m=>(j p m).j⟩,g,j⟩;have C:nI oy=0:=rfl;have E:nI [g1,wW bL,g1]=0:=rfl;have I:nI [IL.n x]=1:=rfl;have J:nI [sg 59,g1,wW yl,g1]=0:=rfl;simp only[ah,C,E,I,J,(by refine aa e.2.1 ?_;rfl:a.m.length=0)];simp[aP,Dr,ku,X7]
end
def WD {w a d:Nat}{H:Hp}(p:PL w a H)(f:24<=d):∃(M:Md) (b:Hp) (m i:Nat),ae d 59 [.r a] H=some (.v<|.t [.s<|jg<|aP M,.r m,.r i],b)/\
  b[m]?=some (.l<|(j0 (aP M) 0).map λp=>V.t [.i p.1,.s p.2])/\b[i]?=some (.l<|(ku M).map lw)/\BC M/\(jg<|aP M).length<=30000:=by
 refine lR 22 f rfl λd f=>xG p.f λt l p1 p2 o q r=>?_;obtain⟨A,c⟩:∃A:pu,A=⟨w,a,H.length,H.length+1,H.length+2,H.length+3⟩:=⟨_,rfl⟩;have g:∀j,(H++[AO.l [],.l [],.l [],.l [.r H.length,.i 0,.r<|H.length+1,.r<|H.length+2,.i 1]])[H.length+j]?=[AO.l [],.l [],.l [],.l [.r H.length,.i 0,.r<|H.length+1,.r<|H.length+2,.i 1]][j]?:=λj=>by refine aa (YY<|Xx _ _) ?_;congr 1;exact add_sub_cancel_left ..
 have r0:GR A (H++[AO.l [],.l [],.l [],.l [.r H.length,.i 0,.r<|H.length+1,.r<|H.length+2,.i 1]])<|G0.out [] [] 0:=by subst c;exact⟨p.o,(xd p1),Zp _,Zp _,Zp _,⟨t,l,fk p1,fk p2,o,q,r⟩,⟨[],g 0,rfl,X5 _⟩,g 1,g 2,g 3,X5 _,X5 _,X5 _,X5 _⟩
 have k:CT (ae<|d+21+1) 59 [.r a] (λX=>X=H)<|Oo A:=by
  refine dZ rfl rfl (l:=[xR a,none,none,none]) rfl Ix (λX e=>?_);have s:bx (ae<|d+21) a4 [xR a,none,none,none] H (.s 1<|.l [(.l []),(.i 0),(.l []),(.l []),(.i 1)])=some (.n [xR A.p,xR A.s,none,none],H++[AO.l [],.l [],.l [],.l [.r H.length,.i 0,.r<|H.length+1,.r<|H.length+2,.i 1]]):=by refine aa c ?_;simp
  simp only[e,aV,s];exact HT _ ⟨r0,trivial⟩
 refine lV (k H rfl) λv b e M n h=>?_;subst n;exact⟨M,b,A.m,A.v,e,h⟩
theorem Ae:∀K:Kd,uh K<=8*Aw K+3
 | .n _=>by simp[Fi]
 | .r K=>by have:=Ae K;exact aI 0x6d0b42c435ec0b40c90da1435ec0065b tq this
 | .p _=>by simp[HE]
 | .a _ K=>by have:=Ae K;exact aI 0x6d0b42c435ec021ac90da1435ec0065b tq this
 | .c _=>by simp[Fi,LU,HE,MW,LY]
def xm (v):1<=nI (dv v)/\nI (dv v)<=2:=by cases v<;> simp[Oh,ML,NO,OC,bO,b8,cj]
theorem Bj:∀K:Kd,nI (iO K)<=2*Aw K+1
 | .n _=>by simp[qa,jD,qj,gy,mV,bO,b8,cj]
 | .r K=>by have:=Bj K;have n1:nI xl=0:=rfl;have n:nI CE=1:=rfl;rw[jD,ah,ah,n1,n,LT];exact aI 0x1685a1609af605a00358c905a1135ec0065b tq this
 | .p _=>by simp[qa,jD,qj,gy,mV,bO,b8,cj]
 | .a v K=>by have:=Bj K;have:=xm v;have n1:nI [wW c0,g1]=0:=rfl;have n:nI [g1,wW xh,g1]=0:=rfl;rw[gy,ah,ah,ah,n1,n,Os];exact ba 0x5a1689826bd81034006b18c905a2135ec0865b134019002d04b1b tq ‹_› ‹_›
 | .c _=>by simp[qa,jD,qj,gy,mV,bO,b8,cj]
def vx (c:Option<|Option<|Nm×Kd)(h:xW c<=2):Ei c<=23:=by
 match c with
 |none=>simp[z0,zi,AZ]
 |some none=>simp[z0,zi,AZ]
 |some (some (x,K))=>have:=Ae K;simp only[xW]at h;simp only[z0,zi,AZ];exact aI 0xbb4046b24268512d8da1435ec0065b tq this h
def Qo (c:Option<|Option<|Nm×Vl):nI (sX c)<=3:=by
 match c with
 |none=>simp[FI,G9,m0,bO,b8,cj]
 |some none=>simp[FI,G9,m0,bT,bO,b8,cj]
 |some (some (x,v))=>have:=xm v;have n1:nI (bT Yt)=0:=rfl;have n:nI [.n x,g1,sg 61,g1]=1:=rfl;have a:nI [sg 59,g1]=0:=rfl;rw[m0,ah,ah,ah,n1,n,a];exact bB 0x3681a00b58c03592134019002d04b1b tq this
def RP (c:Option<|Option<|Nm×Kd)(h:xW c<=2):nI (vW c)<=6:=by
 match c with
 |none=>simp[Aj,zm,nC,bO,b8,cj]
 |some none=>simp[Aj,zm,nC,bT,bO,b8,cj]
 |some (some (x,K))=>have:=Bj K;simp only[xW]at h;have n1:nI (bT YK)=0:=rfl;have n:nI [.n x,sg 42,g1,sg 61,g1]=1:=rfl;have a:nI [sg 59,g1]=0:=rfl;rw[nC,ah,ah,ah,n1,n,a];exact FZ this h
def P0 (c:Option<|Option<|Nm×Kd)(h:xW c<=2):nI (AM c)<=6:=by
 match c with
 |none=>simp[Ak,AY,mU,bO,b8,cj]
 |some none=>simp[Ak,AY,mU,bT,bO,b8,cj]
 |some (some (x,K))=>have:=Bj K;simp only[xW]at h;have n1:nI (bT YV)=0:=rfl;have n:nI [.n x,sg 58,g1]=1:=rfl;have a:nI [sg 59,g1]=0:=rfl;rw[mU,ah,ah,ah,n1,n,a];exact FZ this h
def KG (D)(h:MU D):nI (aR D)<=15:=by have:=Qo D.c;have:=RP D.t h.t;have:=P0 D.v h.v;rw[aR,ah,ah];exact ba 0x1ed1040c648cd1065b3342196c6d0065b tq ‹_› ‹_› ‹_›
def lH (h:BC M):KJ M 60:=by
 have d:=vx M.d.t h.d.t;have c:=vx M.d.v h.d.v;have t:=h.d.t;have g:=h.d.v;have n1:=KG M.d h.d;have n:=xm M.v;have a:=LH M;have f:nI (bj M.i)<=1:=by
  match M.i with
  |none=>simp[zC,za,zg,bO,b8,cj]
  |some (true,_)=>simp[zC,za,zg,bO,b8,cj]
  |some (false,_)=>simp[zC,za,zg,bO,b8,cj]
 match hp:M.p with
 |none=>have e:nI (fR none)=0:=rfl;rw[hp,e]at a;exact⟨by simp only[LN,El,O8,hp];exact aI 0xdc1c06840b6b19e6b193bb42196eed0065b tq d c,by simp only[Dd,L7,hp];exact aI 0x78e0346d7840c1b5fa6b1921342396c4d00e5b tq t g,ow 0x4d9042d034626318c0079b134209042d0cb1b tq n a,ow 0x101c09bda30cb6168832d842d034626318c0069b134219042d04b1b tq n a f n1⟩
 |some p=>
  have o:=h.pp p hp;have i:=vx p.d.t o.d.t;have j:=vx p.d.v o.d.v;have s:=o.d.t;have m:=o.d.v;have k:=KG p.d o.d;have v:=xm p.v1;have q:=xm p.v2;have l:nI (cr p.p)<=3:=by
   match p.p with
   |none=>simp[cr,bO,b8,cj]
   |some _=>simp[cr,bO,b8,cj]
  have b:=QM p;have e:nI (fR<|some p)=nI (uE p):=rfl;rw[hp,e,b]at a;simp only[nB]at a;exact⟨by simp only[LN,El,O8,Pd,hp];exact ow 0xdc1c312dac6048e6040b6b19e6b193bb46196eed1065bbb42196eed0065b tq d c i j,by simp only[Dd,L7,hp];exact ow 0xf1c31306d7840c1b5fa6b1921346396c4d10e5b1342396c4d00e5b tq t g s m,a▸add_le_add (X0 1 _) n.1,a▸Yz (add_le_add (add_le_add_right (add_le_add (add_le_add f n1)<|add_le_add_right (add_le_add (add_le_add (Z0 l 1) k)<|add_le_add (add_le_add_right v.2 1) q.2) 1) 1) n.2) (nl rfl)⟩
def aD (M:Md)(i:Nat):Nm:=(lS<|aP M).getD i [97]
def iC (h:BC M)(i):aD M i∈cK:=by
 unfold aD;refine aa (Yr) ?_;cases e:(lS<|aP M)[i]? with
 |none=>decide
 |some s=>exact h.nm s<|YQ e
def iJ (M):Ag (aD M) (aP M) 0:=λj s e=>by unfold aD;rw[Yx,Yr,e];rfl
def P7 (A):∀(i:Nat),Ag w A i->uo w (hG A i)=jg A:=by
 induction A with
 |nil=>intro i _;exact rfl
 |cons pr r b=>cases pr with
  |f k t=>intro i h;have:=b i h;simp only[jI,j5,jS,eo,ec,fL,iI,gX,nA,this]
  |n s=>
   intro i h;have a:=h 0 s rfl;have:=b (i+1) (λj s e=>by have:=h (j+1) s<|e;refine dG this ?_;congr 1;exact tJ)
   rw[YZ]at a;simp only[jI,j5,jS,eo,ec,fL,iI,gX,nA,this,a]
def UT (M):cf M (aD M)=jg (aP M):=P7 _ _<|iJ M
def R9:∀x∈cK,x.length<=8:=by decide
theorem zJ(h:∀i,w i∈cK):∀(A:List IL) (i:Nat),(uo w<|hG A i).length<=(jg A).length+8*nI A
 | [],i=>by simp[jI,j5,jS,eo,ec]
 | .f k t::r,i=>by have:=zJ h r i;simp only[jI,j5,jS,eo,ec,fL,iI,gX,nA,bO,b8,cj,XB];exact ow 0x686bc4063020648686bc4c0865b tq this
 | .n s::r,i=>by have:=zJ h r<|i+1;have:=R9 _<|h i;simp only[jI,j5,jS,eo,ec,fL,iI,gX,nA,bO,b8,cj,XB];exact Ho 0x5a4621af1898c08192221af1b02196d0d0065b tq ‹_› ‹_›
def jZ (h:BC M)(c:(jg<|aP M).length<=30000)(a:∀i,wd i∈cK):sb M wd:=by
 refine⟨a,?_⟩;have:=zJ a (aP M) 0;have:=(lH h).m;have b:(cf M wd).length<=100000:=by unfold cf LM;exact ba 0x61a82209080e1227b003a98442196c486bc2c0065b tq ‹_› ‹_› ‹_›
 exact e5.mpr b
def FC (h:∀i,w i∈cK)(a:name∈cK)(t):∀i,g7 M w t name i∈cK:=λi=>by unfold g7 Kt;split;exact a;exact h i
def QP:∀c∈O5,c<128:=by decide
def Qf:∀x∈cK,∀c∈x,c<128:=by decide
def Me (b:∀i,w i∈cK)(h:Dx x=true):∀c∈nA w x,c<128:=by
 cases x with
 |m i=>exact Qf _<|b i
 |f k t=>
  simp only[Dx]at h;simp only[nA];split at h
  ·simp only[Xu,Yh,Ym]at h
   intro c a;have:=h.2 c a;exact bB 0x201c09840e0065b tq this
  ·split at h
   ·have:t=uv:=by simpa using h
    clear h;subst this;decide
   ·split at h
    ·have:t=[49]:=by simpa using h
     clear h;subst this;decide
    ·split at h
     ·rw[YS]at h
      rcases h with h|h
      ·have:t=[58,61]:=by simpa using h
       clear h;subst this;decide
      ·split at h
       ·rename_i c
        intro q d;simp at d;subst d;exact QP _<|aac.mp h
       ·exact eH h nt
     ·split at h
      ·simp only[Xu,Yh]at h
       intro c a;exact Aa<|h.1.2 c a
      ·exact eH h nt
def QL (a:∀i,w i∈cK):∀{nx:Option PT},rn L nx=true->∀c∈uo w L,c<128:=by
 induction L with
 |nil=>intro nx _ c h;cases h
 |cons x r d=>
  intro nx h c b;simp only[iK,iG,Xu]at h;simp only[eo,ec]at b;rcases YH.1 b with z|z
  ·exact Me a h.1.1 c z
  ·exact d h.2 c z
def vq (f:sb M w)(n):bw n (.s<|cf M w)=true:=by
 have h:=QL f.nm<|gM M;have:(cf M w).all (λc=>decide (c<128))=true:=by rw[Yh];intro c a;simpa using h c a
 cases n<;> simp only[gf,i7,jq,iW,f.short,this,ZP]
section
variable{M:Md}{wd wd':Nat->Nm}
def ij (F)(wd)(p)(i)(h:i<F.length):(mP<|dl wd p F).getD i (0,0)=(p (F[i]).1,(F[i]).2):=by simp[mP,dl,Yr,Zt,XQ h]
def G8 (f:sb M wd)(A:sb M wd')(x:2<=nI (aP M)):uk (dl wd (bK M wd) (SM M wd).f)=uk (dl wd' (bK M wd') (SM M wd').f)↔(SM M wd').f=(SM M wd).f:=by
 have w:=d0 M wd;have r:=d0 M wd';have k:=qh M wd;have l:=qh M wd';revert w k;refine UY ((SM M wd).f) λF C w k=>?_;generalize G:(SM M wd').f=F' at r l;have u:∀(i:Nat) (h:i<F.length) (B:i<F'.length),(F[i]).1=(F'[i]).1:=λi h B=>by have e:(F.map (·.1))[i]?=(F'.map (·.1))[i]?:=aa w<|aa r rfl;simp only[Zt,XQ h,XQ B,Option.map_some,Zo]at e;exact e
 have p:∀(i:Nat) (h:i<F.length),(F[i]).1<nI (aP M):=λi h=>by have:=(cJ M wd (F[i]).1).1 (by refine aa C ?_;exact Y4 (f:=(·.1))<|Zj h);exact this
 have v:(F.map (·.1)).Nodup:=by refine dG C ?_;exact og M wd
 have m:(mP<|dl wd (bK M wd) F).length=nI (aP M):=by simp[mP,k]
 have b:(mP<|dl wd' (bK M wd') F').length=nI (aP M):=by simp[mP,l]
 have E:iY (mP<|dl wd (bK M wd) F)=iY (mP<|dl wd' (bK M wd') F'):=by
  refine Ao (aa m<|aa b rfl) (vZ x m) λi j g D=>?_;have a:i<F.length:=vG g k m;have c:j<F.length:=vG D k m;have n:i<F'.length:=vG g l m;have o:j<F'.length:=vG D l m;simp only[ij F wd _ i a,ij F wd _ j c,ij F' wd' _ i n,ij F' wd' _ j o,<- u i a n,<- u j c o];simp only[ed];have y:=p i a;have z:=p j c;rcases lt_trichotomy (F[i]).1 (F[j]).1 with q|q|q
  ·have h1:=qR f q z
   have s:=qR A q z;simp only[Yv h1,Yv s,Bool.true_or]
  ·have t:i=j:=by have:=(List.getElem?_inj (l:=F.map (·.1)) (i:=i) (j:=j) (by simpa using a) v).1 (by simp[XQ a,XQ c,q]);exact this
   subst t;simp
  ·have h1:=qR f q y
   have s:=qR A q y;have n1:¬bK M wd (F[i]).1<bK M wd (F[j]).1:=by lia
   have H:¬bK M wd (F[i]).1=bK M wd (F[j]).1:=by lia
   have I:¬bK M wd' (F[i]).1<bK M wd' (F[j]).1:=by lia
   have J:¬bK M wd' (F[i]).1=bK M wd' (F[j]).1:=by lia
   simp only[Ye n1,Ye H,Ye I,Ye J,Bool.false_and]
 constructor
 ·intro h
  simp only[uk,E]at h;have d:=i8 (mP<|dl wd' (bK M wd') F')<|vZ x b;rw[b]at d;have d:=d;refine(List.ext_getElem (Gb l k) λi h1 s=>?_);have g:i∈iY (mP<|dl wd' (bK M wd') F'):=d.mem_iff.2 (by simp;exact zQ h1 l);have:=List.map_inj_left.1 h i g;rw[ij F wd _ i ‹_›,ij F' wd' _ i ‹_›]at this;exact Prod.ext (u i ‹_› ‹_›).symm this.symm
 ·intro h
  subst h;simp only[uk,E];refine YA λi g=>?_;have d:=i8 (mP<|dl wd' (bK M wd') F')<|vZ x b;rw[b]at d;have:i<nI (aP M):=by simpa using d.mem_iff.1 g
  simp only[ij F' wd _ i<|yp this l,ij F' wd' _ i<|yp this l]
noncomputable def jf:List Ev->List Nm
 | []=>[]
 | .d _ k::r=>k::jf r
 |_::r=>jf r
theorem hV:jf []=[]:=rfl
theorem ic{i k r}:jf (Ev.d i k::r)=k::jf r:=rfl
theorem iq{i r}:jf (.u i::r)=jf r:=rfl
theorem hW{i r}:jf (.w i::r)=jf r:=rfl
theorem h9{r}:jf (.r::r)=jf r:=rfl
theorem ip{r}:jf (.o::r)=jf r:=rfl
theorem iA{r}:jf (.c::r)=jf r:=rfl
theorem im{i j r}:jf (.f i j::r)=jf r:=rfl
def lq:∀{S:PS},lD wd m S es->(S.run wd es).b=S.b++jf es:=by
 induction es with
 |nil=>intro S _;simp[hV,ic,iq,hW,h9,ip,iA,im]
 |cons e r a=>
  intro S h;simp only[eG,a h.2.2];cases e with
  |d i k=>
   obtain⟨s,ss,es⟩:∃s ss,S.a=s::ss:=by
    cases q:S.a with
    |nil=>exact Xv q h.1.p.ne
    |cons s ss=>exact⟨s,ss,rfl⟩
   simp only[PS.step,es];split<;> simp[hV,ic,iq,hW,h9,ip,iA,im]
  |w i=>simp only[PS.step];split<;> simp[hV,ic,iq,hW,h9,ip,iA,im,PS.add]
  |u i=>simp[PS.step,PS.add,hV,ic,iq,hW,h9,ip,iA,im]
  |r=>simp[PS.step,hV,ic,iq,hW,h9,ip,iA,im]
  |o=>simp[PS.step,hV,ic,iq,hW,h9,ip,iA,im]
  |c=>simp[PS.step,hV,ic,iq,hW,h9,ip,iA,im]
  |f i j=>simp[PS.step,PS.add,hV,ic,iq,hW,h9,ip,iA,im]
def xZ (M)(wd wd'):(SM M wd).b=(SM M wd').b:=by simp only[SM,SM,lq<|sV (wd:=wd) M,lq<|sV (wd:=wd') M]
end
def KJ.mono (z:KJ M d)(h:d<=d'):KJ M d':=⟨z.s,Xz z.b h,z.a,z.m⟩
def PJ (A):∀(i p:Nat),Ag w A i->Ef w A i p=(j0 A p).map (·.1):=by
 induction A with
 |nil=>intro i p _;exact rfl
 |cons pr r b=>cases pr with
  |f k t=>intro i p h;exact b i (p+t.length) h
  |n s=>
   intro i p h;have a:=h 0 s rfl;rw[YZ]at a;have:=b (i+1) (p+s.length) (λj x e=>by have:=h (j+1) x<|e;refine dG this ?_;congr 1;exact tJ)
   simp[ql,dh,a,this]
noncomputable def AT(w a:Nat->Nm)(i j:Nat):Int:=((List.range' i j).map λk=>((w k).length:Int)-(a k).length).sum
def GP (A:List IL):∀(i p a j:Nat),j<nI A->(((Ef w' A i a).getD j 0:Nat):Int)=((Ef wd A i p).getD j 0:Nat)+((a:Int)-p)+AT w' wd i j:=by
 induction A with
 |nil=>intro i p a j h;exact Xv h<|aaa _
 |cons x r b=>cases x with
  |f k t=>intro i p a j h;refine aa (wK (wd:=w'))<|aa (wK (wd:=wd))<|aa (b i (p+t.length) (a+t.length) j h) ?_;lia
  |n s=>intro i p a j h;cases j with
   |zero=>simp[ql,AT];lia
   |succ j=>simp only[ql (wd:=w'),ql (wd:=wd),getD_cons_succ,b (i+1) (p+(wd i).length) (a+(w' i).length) j<|Nat.lt_of_succ_lt_succ h];simp only[AT,aaq,af,List.sum_cons];lia
def xB (M:Md)(w' wd:Nat->Nm)(h:j<nI (aP M)):bK M w' j=bK M wd j+AT w' wd 0 j:=by have:=GP (w':=w') (wd:=wd) (aP M) 0 0 0 j h;simp only[bK];lia
def No (M)(w)(h:j<nI (aP M)):0<bK M w j:=by obtain⟨r,a⟩:∃r,aP M=wW oP::r:=⟨_,rfl⟩;have o:=B1 M w;unfold LM at o;rw[a]at o h;have:=rB r 0 6 (o:pq w (bK M w) (hG r 0) 6) j (X5 _) (by simpa [bO,b8,cj]using h);exact Za (by decide) this
section
variable{M:Md}{wd:Nat->Nm}
def BW (f:sb M wd)(h:s<nI (aP M)):lE (dl wd (bK M wd) (SM M wd).f) (bK M wd s)=cH s (SM M wd).f:=
 HM rfl _ _ (og M wd) ((cJ M wd s).2 h) λx a e=>Ny f ((cJ M wd x.1).1<|Y4 (f:=(·.1)) a) h e
def MB (f:sb M wd):lE (dl wd (bK M wd) (SM M wd).f) 0=-2:=
 Gk λx h=>by have:=No M wd<|(cJ M wd x.1).1<|Y4 (f:=(·.1)) h;exact Y1 this
end
def OA:(∀x∈G,x.1∈F'.map (·.1))->vD (cZ G) (cZ F')=some (decide (∀x∈G,cH x.1 F'=x.2)):=by
 induction G with
 |nil=>intro _;simp[cZ,Cz]
 |cons x G i=>
  intro h;have i:=i λy b=>h y<|.tail _ b;have g:=k9<|h x<|.head _;simp[cZ,af]at i g⊢;simp only[Cz,JL,g,i,Option.map_some,cy];congr 1;by_cases e:x.2=cH x.1 F'
  ·simp[e]
  ·have a:¬cH x.1 F'=x.2:=λz=>e z.symm
   simp[e,a]
def Jw (c:F.map (·.1)=F'.map (·.1))(f:(F.map (·.1)).Nodup):(∀x∈F,cH x.1 F'=x.2)↔F'=F:=by
 constructor
 ·intro h
  refine List.ext_getElem (by have:=Xy List.length c;simpa using this.symm:F'.length=F.length) λi h1 d=>?_;have a:=h _<|Zj d;have b:(F[i]).1=(F'[i]).1:=by have e:(F.map (·.1))[i]?=(F'.map (·.1))[i]?:=aa c rfl;simp only[Zt,XQ d,XQ h1,Option.map_some,Zo]at e;exact e
  rw[b,(rQ (i:=(F'[i]).1) (v:=(F'[i]).2) (by rw[<- c];exact f)<|Zj h1)]at a;exact Prod.ext b.symm a
 ·rintro rfl x g
  exact rQ f g
def J3 (c:H[a]?=some (.dI<|cZ F'))(d:H[b]?=some (.dI<|cZ F))(h:F.map (·.1)=F'.map (·.1))(e:(F.map (·.1)).Nodup):aY H .n (.r a) (.r b)=some (!decide (F'=F)):=by show(Ed H (.r a)<|.r b).map (!·)=_;rw[Qx c d<|by rw[pd,pd];have:=Xy List.length h;simpa using this.symm];simp only[(OA (F':=F) (G:=F') (λx f=>by refine aa h ?_;exact Y4 (f:=(·.1)) f)),Option.map_some];congr 2;refine decide_eq_decide.2 ?_;rw[Jw (F:=F') (F':=F) h.symm<|by refine dG h ?_;exact e];exact⟨Eq.symm,Eq.symm⟩
@[simp]theorem T4(h:k≠62):vi d k v H=ae d k v H:=by simp only[vi,Xq h]
def NU (h:ae d 48 [a,b,c] H=some (r,e)):vi d 62 [a,b,c] H=some (.v<|gZ r,e):=by simp only[vi,if_true,aM,bA,h,IZ]
def r8 (d:bw 2 (.s a)=true)(f:bw 2 (.s b)=true):aY H .e (.t [.s a,.i p]) (.t [.s b,.i p])=some (decide (a=b))/\aY H .n (.t [.s a,.i p]) (.t [.s b,.i p])=some (!decide (a=b)):=by
 have h:∀x:Nm,bw 2 (.s x)=true->X9 3 [V.s x,.i p]=true:=λx c=>by simp only[gf,i7,jq,iW]at c;simp only[i5,jp,gf,i7,jq,iW,c,ZP]
 have e:Ed H (.t [.s a,.i p]) (.t [.s b,.i p])=some (decide (a=b)):=by refine(KB<|by rw[h a d,h b f];rfl).trans ?_;simp[show Z4 [V.s a,.i p] [V.s b,.i p]=some (decide (a=b)&&(decide (p=p)&&true))from rfl]
 exact⟨e,by show(Ed H _ _).map _=_;refine aa e ?_;rfl⟩
def FU (f:bw 2 (.s a)=true)(g:bw 2 (.s b)=true):aY H .e (.t [.s [],.s a]) (.t [.s [],.s b])=some (decide (a=b))/\aY H .n (.t [.s [],.s a]) (.t [.s [],.s b])=some (!decide (a=b)):=by
 have h:∀x:Nm,bw 2 (.s x)=true->X9 3 [V.s [],.s x]=true:=λx c=>by simp only[gf,i7,jq,iW]at c;have d:bw 3 (.s [])=true:=rfl;simp only[i5,jp,d,gf,i7,jq,iW,c,ZP]
 have e:Ed H (.t [.s [],.s a]) (.t [.s [],.s b])=some (decide (a=b)):=by refine(KB<|by rw[h a f,h b g];rfl).trans ?_;simp[show Z4 [V.s [],.s a] [V.s [],.s b]=some (true&&(decide (a=b)&&true))from rfl]
 exact⟨e,by show(Ed H _ _).map _=_;refine aa e ?_;rfl⟩
def kj:List Nm:=[[97],[98],[99],[100],wf,I7,[73,70],[49,97],[],[120,95]]
noncomputable def Db:List Nm:=[[73,70],[49,97],[],[120,95]]
def uX:∀x∈kj,(x∈Db/\fS x=false)\/(x∉Db/\fS x=true/\x∈cK):=by decide
def LV:∀x∈cK,fS x=true:=by decide
def ru:bw 2 (.s Pf)=true/\bw 2 (.s Hd)=true/\bw 2 (.s b9)=true/\bw 2 (.s Gf)=true/\bw 2 (.s k8)=true:=by decide
def r5 (w:qC n m b a H)(x)(h:n<=H.length):qC n m b a<|H++x:=w.keep<|Kp.app x h
def G3 (w:qC n m c b H)(h:n<=a):qC a m c b H:=⟨XO w.lt h,w.g⟩
def Rl (w:B4 n m a H)(h:n<=b):B4 b m a H:=⟨XO w.lt h,w.g,w.b⟩
structure LS(M:Md)(H:Hp)(ma va wL a k:Nat):Prop where
 m:B4 H.length (j0 (aP M) 0) ma H
 ev:H[va]?=some (.l<|(ku M).map lw)
 w:qC H.length (nI<|aP M) (aD M) wL H
 a:H[a]?=some (.dI<|cZ (SM M<|aD M).f)
 k:H[k]?=some (.l<|(SM M<|aD M).b.map V.s)
def LS.app {M:Md}{H:Hp}{b v d c ki:Nat}(s:LS M H b v d c ki)(x:Hp):LS M (H++x) b v d c ki:=
 ⟨Rl (s.m.app x)<|by simp,fk s.ev,G3 (r5 s.w x<|XH _)<|by simp,fk s.a,fk s.k⟩
section
variable{M:Md}{d:Nat}
def v4 (h:BC M)(g:(jg<|aP M).length<=30000)(c:60<=d)(f:sb M w)(i:∀x∈(SM M w).f,-1<=x.2/\x.2<(SM M w).b.length)(b:fS name=true->name∈cK)(H):
  ∃x,vi (d+1) 62 [.s<|cf M w,.i place,.s name] H=some (.v<|gZ<|tc M w place name,H++x):=by
 exact Xs (VK (d:=d) f ((lH h).mono c) i (place:=place) (name:=name) (λa=>⟨b a,λt=>(jZ h g<|FC f.nm (b a) t).short⟩) H) λx e=>⟨x,NU e⟩
def yR (M:Md){i:Nat}(a:i<nI (aP M)){Cx:Prop}(k:∀s,(j0 (aP M) 0)[i]?=some ((j0 (aP M) 0).getD i (0,[])|>.1,s)->(((j0 (aP M) 0).getD i (0,[])).1:Int)=bK M (aD M) i->s=aD M i->Cx):Cx:=by
 have h:i<(j0 (aP M) 0).length:=by rw[md];exact a
 refine k (((j0 (aP M) 0)[i]).2) (by simp[XQ h]) ?_ ?_
 ·unfold bK
  refine aa (PJ (aP M) 0 0<|iJ M) ?_;simp[XQ h]
 ·have e:=Fc (aP M) 0
  have:(lS<|aP M)[i]?=some ((j0 (aP M) 0)[i]).2:=by refine dG e<|aa (Zt)<|aa (XQ h) ?_;rfl
  unfold aD;refine aa (Yr)<|aa this ?_;rfl
noncomputable def vI(f:Int->V)(v:V):V:=match v with | .i i=>f i|_=>.n
@[simp]theorem N6(i)(f:Int->V):vI f (.i i)=f i:=rfl
def Ih (M)(o:s<nI (aP M))(f:sb M<|aD M):((List.range' 0<|nI<|aP M).map λ(i:Nat)=>V.i i).filterMap (λv=>eR v λi=>if bK M (aD M) i.toNat<bK M (aD M) s then xI i else none)=(List.range' 0 s).map λ(i:Nat)=>V.i i:=by
 have p:∀(n a:Nat),a+n<=nI (aP M)->a<=s->s<=a+n->((List.range' a n).map λ(i:Nat)=>V.i i).filterMap (λv=>eR v λi=>if bK M (aD M) i.toNat<bK M (aD M) s then xI i else none)=(List.range' a<|s-a).map λ(i:Nat)=>V.i i:=by
  intro n;induction n with
  |zero=>intro a h1 h j;have:s-a=0:=sub_eq_zero_of_le j;refine aa this ?_;rfl
  |succ n t=>
   intro a h1 h j;simp only[aaq,af,Zw];by_cases e:a=s
   ·subst e
    have r:a-a=0:=sub_self _;have m:∀(k b:Nat),a<=b->b+k<=nI (aP M)->((List.range' b k).map λ(i:Nat)=>V.i i).filterMap (λv=>eR v λi=>if bK M (aD M) i.toNat<bK M (aD M) a then xI i else none)=[]:=by
     intro k;induction k with
     |zero=>intro b _ _;rfl
     |succ k g=>
      intro b u c;simp only[aaq,af,Zw];have w:¬bK M (aD M) b<bK M (aD M) a:=by
       by_cases q:b=a
       ·clear h1 h j o r t g;subst q;exact Int.lt_irrefl _
       ·have:=qR f (j:=a) (k:=b) (Y2 (kA u)<|X1 q)<|zr c;exact Y9.mpr<|YN this
      simp only[cy,Y6,w,if_false];exact g (b+1) (Zv ‹_›)<|wc c
    simp only[cy,Y6,(Int.lt_irrefl _:¬bK M (aD M) a<bK M (aD M) a),if_false,r];exact m n (a+1) (Xx _ _)<|wc h1
   ·have l:=qR f (j:=a) (k:=s) (Y2 (kA h) e) o
    simp only[cy,Y6,l,if_true];simp only[t (a+1) (wc h1) (Y2 (kA h) e)<|ba 0x416858c0482d1302c0065b tq j,show s-a=(s-(a+1))+1 from(Nat.succ_pred_eq_of_pos<|Nat.sub_pos_of_lt<|Y2 (kA h) e).symm,aaq,af]
 have:=p (nI<|aP M) 0 (bB 0x3592 tq) (bB 0x1b2 tq)<|aI 0x40d602410067b tq o;simpa using this
def Jn (h:BC M)(k:(jg<|aP M).length<=30000)(l:s<nI (aP M))(m:t=cH s (SM M<|aD M).f)(n:0<=t)(p:(SM M<|aD M).b.getD t.toNat []≠b9)(q:name∈cK)
  (c:(SM M<|g7 M (aD M) t name).f=(SM M<|aD M).f) (g:(SM M<|g7 M (aD M) t name).t=0):
  tc M (g7 M (aD M) t name) (bK M (g7 M (aD M) t name) s) (aD M s)=.v (.s<|cf M<|aD M):=by
 refine Xs (HG<|iJ M) λN r=>?_;have a:g7 M (g7 M (aD M) t name) t (aD M s)=aD M:=by
  funext i;unfold g7 Kt;simp only[Xu,Ym];by_cases b:i<nI (aP M)/\cH i (SM M<|aD M).f=t
  ·have o:i<nI (aP M)/\cH i (SM M<|g7 M (aD M) t name).f=t:=by refine aa c ?_;exact b
   have e:(SM M λi=>if i<nI (aP M)/\cH i (SM M<|aD M).f=t then name else aD M i).f=(SM M<|aD M).f:=by
    have:(λi=>if i<nI (aP M)/\cH i (SM M<|aD M).f=t then name else aD M i)=g7 M (aD M) t name:=by funext j;unfold g7 Kt;simp only[Xu,Ym]
    refine aa this ?_;exact c
   exact aa e<|aa (Xr b)<|(Je r (iV<|(cJ M (aD M) i).2 b.1) (iV<|(cJ M (aD M) s).2 l) (aa b.2<|dG m rfl)<|by refine aa b.2 ?_;exact n).symm
  ·have e:(SM M λi=>if i<nI (aP M)/\cH i (SM M<|aD M).f=t then name else aD M i).f=(SM M<|aD M).f:=by
    have:(λi=>if i<nI (aP M)/\cH i (SM M<|aD M).f=t then name else aD M i)=g7 M (aD M) t name:=by funext j;unfold g7 Kt;simp only[Xu,Ym]
    refine aa this ?_;exact c
   exact aa e<|aa (Xq b)<|aa (Xq b) rfl
 have f1:=jZ h k<|FC (M:=M) (iC h) q t;have f:lE (dl (g7 M (aD M) t name) (bK M<|g7 M (aD M) t name) (SM M<|g7 M (aD M) t name).f) (bK M (g7 M (aD M) t name) s)=t:=by refine aa (BW f1 l)<|aa c ?_;exact m.symm
 unfold tc;simp only[f];rw[Xq<|by lia,Xq<|Y1 ‹_›,xZ M (g7 M (aD M) t name)<|aD M,Xq p,LV _<|iC h s,a];exact aa (Xq<|by trivial)<|aa (Xq<|by rw[((G8 f1 (jZ h k<|iC h) (lH h).a).2 c.symm:uk (dl (g7 M (aD M) t name) (bK M<|g7 M (aD M) t name) (SM M<|g7 M (aD M) t name).f)=uk (dl (aD M) (bK M<|aD M) (SM M<|aD M).f)),g,(PR (iJ M) h.j)];simp) rfl
end
def Wn (c:Cl)(l:Lo)(H:Hp)(s:List MS):Prop:=∃a,XU c a4 l H s=some (.r<|.b true,a)
section
variable{cl:Cl}{l:Lo}{ss t f:List MS}
def kz (h:ai cl l e H=some (v,H1))(k:Wn cl (l.set i<|some v) H1 ss):Wn cl l H<|.s i e::ss:=by exact Xs k λa k=>⟨a,by rw[aV,r4,h];exact k⟩
def GG (h:ai cl l e H=some (.t vs,H1))(c:ZI l i vs=some a)(k:Wn cl a H1 ss):Wn cl l H<|.unp i e::ss:=by exact Xs k λb k=>⟨b,by rw[aV,show bx cl a4 l H (.unp i e)=some (.n a,H1)from zK.trans<|(bI h).trans<|by show Js (ZI l i vs) H1=_;refine aa c ?_;rfl];exact k⟩
def yK (h:ai cl l c H=some (.b true,H1))(k:Wn cl l H1<|t++ss):Wn cl l H<|.i c t f::ss:=by refine Xs k λa k=>?_;rw[hJ]at k;exact⟨a,by rw[aV,li,h];exact k⟩
def qP (h:ai cl l c H=some (.b false,H1))(k:Wn cl l H1<|f++ss):Wn cl l H<|.i c t f::ss:=by refine Xs k λa k=>?_;rw[hJ]at k;exact⟨a,by rw[aV,li,h];exact k⟩
def uJ (h:ai cl l e H=some (.b true,H1)):Wn cl l H<|.r e::ss:=⟨H1,by rw[aV,m9,h];rfl⟩
end
section
variable{X8:Nat}
def TE (s:LS M H r u w m p)(a:nI (aP M)<=63)(k:cW l [8,2,14,7]=[xR m,xS name,xI t,xR w])(j:gv l 7=xR w):
  ai (vi 61) l (.D (.e (.q .e (.t (.v 1)<|.v 0)<|.v 3) (.v 2)<|.t (.v 4)<|.v 0) (.n<|.v 7) [8,2,14,7]) H=some (.r H.length,H++[.l<|((List.range<|nI<|aP M).map<|g7 M (aD M) t name).map V.s]):=by
 have b:ej H (.r w)=some ((nI (aP M):Nat):Int):=by refine Hz s.w.g λy g1 g n o=>?_;have:=bz g1 (by simp;lia);simpa [g]using this
 refine(xz (k:=((nI (aP M):Nat):Int)) (vI λi=>.s<|g7 M (aD M) t name i.toNat) (by simp[j,b]) (YG _) ((Ys (n:=1000000)).mpr<|Gi a) (λv c=>?_)<|by rw[lT];exact Xz a<|nl rfl).trans ?_
 ·rw[Y6,show(0:Int)=((0:Nat):Int)from rfl,dc]at c
  refine ag (XN.1 c) λi d f=>?_;clear c;subst f;rw[abi]at d;have h:i<nI (aP M):=aI 0x104c206b0019800d04b1b tq d;have g1:getItem H (.r m) (.i<|i)=xI (cH i (SM M<|aD M).f):=by simp[LG s.a];exact k9<|(cJ M (aD M) i).2 h
  have g:=s.w.item h;have e:g7 M (aD M) t name i=if cH i (SM M<|aD M).f=t then name else aD M i:=by unfold g7 Kt;simp only[Yv h,Bool.true_and,Ym]
  refine aa k ?_;simp only[N6,Y6,e];by_cases q:cH i (SM M<|aD M).f=t
  ·refine aa (Xr q) ?_
   rw[q]at g1;simp[g1]
  ·refine aa (Xq q) ?_
   simp[g1,q,g]
 ·simp only[Y6,show(0:Int)=((0:Nat):Int)from rfl,dc,Y5,Y5,List.range_eq_range']
  refine Xy (λx=>some (V.r H.length,H++[AO.l x]))<|YA λi _=>?_;simp
def Ti (s:LS M H m y z u t)(f:sb M<|aD M)(k:X8<nI (aP M))(h:nI (aP M)<=63)(j:cW l [5,12]=[xR m,xI<|bK M (aD M) X8])(d:gv l 5=xR m):
  ai (vi 61) l (.F (.v 0) (.n<|.v 5) (.q .l (.t (.t (.v 1)<|.v 0)<|.i 0)<|.v 2) [5,12]) H=some (.r H.length,H++[.l<|(List.range' 0 X8).map λ(i:Nat)=>V.i i]):=by
 have r:nW 2 0=some 0:=rfl;refine(A3 (k:=((nI (aP M):Nat):Int)) (λv=>eR v λi=>if bK M (aD M) i.toNat<bK M (aD M) X8 then xI i else none) (by have:=s.m.len;rw[md]at this;simp[d,this]) (YG _) ((Ys (n:=1000000)).mpr<|Gi h) (λv a=>?_)<|by rw[lT];exact Xz h<|nl rfl).trans ?_
 ·rw[Y6,show(0:Int)=((0:Nat):Int)from rfl,dc]at a
  refine cps λC n=>ag (XN.1 a) λi c e=>?_;clear a;subst e;rw[abi]at c;refine yR M (by exact aI 0x104c206b0019800d04b1b tq c:i<nI (aP M)) λp o b w=>?_;have g1:=s.m.item o;generalize((j0 (aP M) 0).getD i (0,[])).1=pp at g1 b;have g:getItem H (.t [.i (pp:Int),.s p]) (.i 0)=xI (pp:Int):=rfl;refine n<|aa j ?_;simp only[cy,Y6];by_cases q:bK M (aD M) i<bK M (aD M) X8
  ·refine aa (Xr q) ?_
   rw[<- b]at q;simp[g1,g,q]
  ·refine aa (Xq q) ?_
   rw[<- b]at q;simp[g1,g,q]
 ·simp only[Y6,show(0:Int)=((0:Nat):Int)from rfl,dc]
  exact Xy (λx=>some (V.r H.length,H++[AO.l x]))<|Ih M k f
def Up (s:LS M H E G B F D)(w:qC H.length (nI<|aP M) c C H)(g:H[n]?=some (.l<|(List.range' 0 X8).map λ(i:Nat)=>V.i i))(f0:sb M<|aD M)(f1:sb M c)(j:X8<nI (aP M))(a:nI (aP M)<=63)(u:cW l [15,7]=[xR C,xR B])(t:gv l 18=xR n):
  ∃x,ai (vi 61) l (.u<|.C (.o .s (.n<|.t (.v 1)<|.v 0)<|.n<|.t (.v 2)<|.v 0) (.v 18) [15,7]) H=some (.i<|AT c (aD M) 0 X8,H++x):=by
 have b:∀{x:Nm},x∈cK->ej H (.s x)=some (x.length:Int):=λ{x} y=>by
  have:sh x=true:=by have:=R9 x y;exact e5.mpr<|Xz ‹_›<|nl rfl
  simp only[ej,this,if_true,ci]
 have m:=ph (cl:=vi 61) (l:=l) (H:=H) (elt:=.o .s (.n<|.t (.v 1)<|.v 0)<|.n<|.t (.v 2)<|.v 0) (src:=.v 18) (caps:=[15,7]) (a:=n) (vs:=(List.range' 0 X8).map λ(i:Nat)=>V.i i)
  (vI λi=>.i<|((c i.toNat).length:Int)-(aD M i.toNat).length) (by simp[t]) g (by simp;exact Iy j a) (λv p=>by refine ag (XN.1 p) λi f e=>?_;clear p;subst e;rw[abi]at f;have h:i<nI (aP M):=ba 0x20984419ec406b0019800d04b1b tq f j;have g1:=w.item h;have r:=s.w.item h;have z:=b<|f1.nm i;have A:=b<|f0.nm i;refine aa u ?_;simp[g1,r,z,A])
 have d:((List.range' 0 X8).map λ(i:Nat)=>V.i i).map (vI λi=>V.i<|((c i.toNat).length:Int)-(aD M i.toNat).length)=((List.range' 0 X8).map λk=>((c k).length:Int)-(aD M k).length).map V.i:=by simp only[Y5,Y5];refine YA λi _=>?_;simp
 rw[d]at m;exact⟨_,He m (be _ _) (by simp;exact Iy j a) (λq o=>by refine ag (XN.1 o) λi f e=>?_;clear o;subst e;have:=R9 _<|f1.nm i;have:=R9 _<|f0.nm i;exact jh (by lia)<|by lia)⟩
def T3 (h:BC M)(E:(jg<|aP M).length<=30000)(s:LS M H v I N G Y)(f1:sb M wd)(w:qC H.length (nI<|aP M) wd m H)(d:X8<nI (aP M))(R:∀x∈(SM M wd).f,-1<=x.2/\x.2<(SM M wd).b.length)
  (P:tc M wd (bK M wd X8) (aD M X8)=.v (.s<|cf M<|aD M)):
  Wn (vi 61) [W,X,xS name,xI r,xS<|cf M<|aD M,xR v,xR I,xR N,xR G,xR T,xI 0,xI (X8:Int),xI<|bK M (aD M) X8,some<|.t [.s [],.s<|cf M wd],xI t,xR m,xR S,none,none,none] H (YJ.body.drop 17):=by
 have f0:=jZ h E<|iC h;have z:=lH h;have k:nI (aP M)<=63:=Zy z.m;obtain⟨g,C⟩:=Xk (A:=aP M) (d:=60) (wd:=aD M) (src:=cf M<|aD M) s.m w rfl rfl z.a z.m rfl f0.short f1.short (λj s Q=>by have:=iJ M j s Q;rw[Yx]at this;exact this) (λs d=>by refine dH (u5 s<|h.nm s d) λc t e _=>aa e ?_;exact List.cons_ne_nil _ _)
 have C:ae (60+1) 63 [V.s<|cf M<|aD M,V.r v,V.r m] H=some (.v<|.s<|cf M wd,H++g):=C;refine kz (v:=.s<|cf M wd) (H1:=H++g) (hE λf=>f _ _ C) ?_;have y:=s.app g;have J:qC (H++g).length (nI<|aP M) wd m<|H++g:=G3 (r5 w g<|XH _) (by simp);generalize H++g=a at y J;have l:=vq f1 2;have cs:=(FU (H:=a) l l).2;rw[Yv rfl]at cs;have F:=kd (a:=r) (b:=2) (by decide) (by decide);refine qP (H1:=a) (hE λf=>f _ cs) ?_;by_cases b:r % 2=1
 ·exact yK (H1:=a) (hE λf=>f _ F _<|kr rfl b)<|uJ rfl
 refine qP (H1:=a) (hE λf=>f _ F _<|fv rfl b)<|kz (Ti y f0 d k rfl rfl) ?_;have A:=y.app [AO.l<|(List.range' 0 X8).map λ(i:Nat)=>V.i i];have L:qC (a++[AO.l<|(List.range' 0 X8).map λ(i:Nat)=>V.i i]).length (nI<|aP M) wd m<|a++[AO.l<|(List.range' 0 X8).map λ(i:Nat)=>V.i i]:=G3 (r5 J _<|XH _) (by simp);have D:(a++[AO.l<|(List.range' 0 X8).map λ(i:Nat)=>V.i i])[a.length]?=some (.l<|(List.range' 0 X8).map λ(i:Nat)=>V.i i):=be _ _;generalize a++[AO.l<|(List.range' 0 X8).map λ(i:Nat)=>V.i i]=o at A L D;refine Xs (Up (l:=[W,X,xS name,xI r,xS<|cf M<|aD M,xR v,xR I,xR N,xR G,xR T,xI 0,xI (X8:Int),xI<|bK M (aD M) X8,some<|.t [.s [],.s<|cf M wd],xI t,xR m,xR S,xS<|cf M wd,xR a.length,none]) A L D f0 f1 d k rfl rfl) λn U=>kz (v:=.i<|bK M (aD M) X8+AT wd (aD M) 0 X8) (H1:=o++n) (by simp[U])<|Xs (v4 (d:=60) h E (nl rfl) f1 R (place:=bK M (aD M) X8+AT wd (aD M) 0 X8) (name:=aD M X8) (λ_=>iC h X8)<|o++n) λO B=>?_;rw[<- xB M wd (aD M) d,P]at B;have u:=(A.app n).w.item d;have p:=vq f0 2;have q:=(FU (H:=o++n++O) p p).1;rw[Yv rfl]at q;refine dG (xB M wd (aD M) d) ?_;generalize o++n++O=H6 at B q;exact uJ (H1:=H6) (by simp[u,B,gZ,q])
def Ty (h:BC M)(p:(jg<|aP M).length<=30000)(s:LS M H S X Y T R)(B:name∈cK)(E:X8<nI (aP M))(O:t=cH X8 (SM M<|aD M).f)(u:0<=t)(n:(SM M<|aD M).b.getD t.toNat []≠b9)
  (a:W=(if uk (dl (aD M) (bK M<|aD M) (SM M<|aD M).f)≠uk (dl (g7 M (aD M) t name) (bK M<|g7 M (aD M) t name) (SM M<|g7 M (aD M) t name).f)\/(SM M<|g7 M (aD M) t name).t>(SM M<|aD M).t then .e (.s k8) (.i<|bK M (aD M) X8)else .v<|.s<|cf M<|g7 M (aD M) t name)):
  Wn (vi 61) [v0,v1,xS name,xI ch,xS<|cf M<|aD M,xR S,xR X,xR Y,xR T,xR R,xI tw,xI (X8:Int),xI<|bK M (aD M) X8,some<|gZ W,xI t,none,none,none,none,none] H (YJ.body.drop 14):=by
 have f0:=jZ h p<|iC h;have z:=lH h;have l:nI (aP M)<=63:=Zy z.m;have f1:sb M<|g7 M (aD M) t name:=jZ h p<|FC (M:=M) (iC h) B t;have D:=Jn h p E O u n B;refine kz (TE s l rfl rfl) ?_;generalize g7 M (aD M) t name=w' at a f1 D;have r:=s.app [AO.l<|((List.range<|nI<|aP M).map w').map V.s];have w:qC (H++[AO.l<|((List.range<|nI<|aP M).map w').map V.s]).length (nI<|aP M) w' H.length<|H++[AO.l<|((List.range<|nI<|aP M).map w').map V.s]:=by refine⟨by simp,(List.range<|nI<|aP M).map w',be _ _,by simp,bB 0xe11c0907ee0065b tq l,λi L=>?_⟩;simp[Yr,Zt,List.getElem?_range L]
 revert r w;refine UE (H++[AO.l<|((List.range<|nI<|aP M).map w').map V.s]) λj r w=>cps λC y=>Vj (d:=60) (wd:=w') (m:=nI<|aP M) (nl rfl) r.ev w (sV M) (by have:=ED M;exact aI 0xc81c0907ee0865b3342c0065b tq this l) λm I G U=>?_;rw[show YB.run w' (ku M)=SM M w' from rfl]at I G U;have A:=r.app m;have J:qC (j++m).length (nI<|aP M) w' H.length<|j++m:=G3 (r5 w m<|XH _) (by simp);have g:=G8 (M:=M) f0 f1 z.a;rw[PR (iJ M) h.j]at a;have a:=a;have f:=J3 G A.a ((d0 M<|aD M).trans (d0 M w').symm)<|og M<|aD M;refine y<|GG (vs:=[.r<|j.length+3,.r<|j.length+4,.i (SM M w').t]) (H1:=j++m) (hE λQ=>Q _ _ I) rfl ?_;generalize j++m=H2 at A J f;generalize j.length+3=oa at f;by_cases c:(SM M w').f=(SM M<|aD M).f/\(SM M w').t=0
 ·refine XE (λb k=>?_) c
  rw[Xq<|by refine aa (g.2 b)<|aa k ?_;simp]at a;rw[Yv b]at f;exact aa a<|aa k<|qP (H1:=H2) (by simp[f])<|Xs (HG<|iJ M) λN P=>T3 h p A f1 J E (λx F=>by refine aa (xZ M w'<|aD M) ?_;rw[b]at F;exact oQ P x F)<|D b k
 ·have d:uk (dl (aD M) (bK M<|aD M) (SM M<|aD M).f)≠uk (dl w' (bK M w') (SM M w').f)\/(SM M w').t>0:=by
   by_cases q:(SM M w').f=(SM M<|aD M).f
   ·exact .inr<|Nat.pos_of_ne_zero λz=>c ⟨q,z⟩
   ·exact .inl λz=>q<|g.1 z
  rw[Xr d]at a;have a:=a;refine cps λC y=>bU ru λxp1 xp2 xp3 xp4 o=>?_;have e:=(r8 (H:=H2) (p:=bK M (aD M) X8) o o).1;rw[Yv rfl]at e;unfold k8 at e a;refine y (aa a<|yK (H1:=H2) ?_<|uJ (H1:=H2)<|by simp[gZ,e]);by_cases q:(SM M w').f=(SM M<|aD M).f
  ·rw[Yv q]at f
   have v:0<(SM M w').t:=Nat.pos_of_ne_zero λz=>c ⟨q,z⟩;simp[f,v]
  ·rw[Ye q]at f
   simp[f]
def RH:∀a:List Ev,(jf a).length<=a.length:=by
 intro a;induction a with
 |nil=>exact XH _
 |cons e r b=>cases e with |d i k=>exact aba b|_=>exact Zv b
def UP (h:BC M)(w:(jg<|aP M).length<=30000)(s:LS M H E G I F D)(g:name∈kj)(r:X8<nI (aP M))(u:t=cH X8 (SM M<|aD M).f):
  Wn (vi 61) [Q,R,xS name,xI O,xS<|cf M<|aD M,xR E,xR G,xR I,xR F,xR D,xI P,xI (X8:Int),xI<|bK M (aD M) X8,some<|gZ<|tc M (aD M) (bK M (aD M) X8) name,xI t,none,none,none,none,none] H (YJ.body.drop 11):=by
 have f0:=jZ h w<|iC h;have z:=lH h;refine Xs (HG<|iJ M) λN C=>bU ru λJ x m n L=>?_;have f:=oQ C _<|iV<|(cJ M (aD M) X8).2 r;rw[<- u]at f;obtain⟨q,f⟩:-1<=t/\t<(SM M<|aD M).b.length:=f;have v:lE (dl (aD M) (bK M<|aD M) (SM M<|aD M).f) (bK M (aD M) X8)=t:=by refine aa (BW f0 r) ?_;exact u.symm
 obtain⟨y,a⟩:∃y,y=tc M (aD M) (bK M (aD M) X8) name:=⟨_,rfl⟩;refine dG a ?_;unfold tc at a;simp only[v]at a;have a:=a;rw[Xq<|Y1 ‹_›]at a;have a:=a;by_cases c:t=-1
 ·rw[Xr c]at a
  have a:=a;have e:=(r8 (H:=H) (p:=bK M (aD M) X8) x x).1;unfold Hd at e a;have e:=e;have a:=a;exact yK (H1:=H) (hE λj=>j _<|kr rfl c) (uJ (H1:=H)<|by simp[a,gZ,e])
 refine qP (H1:=H) (hE λj=>j _<|fv rfl c) ?_;rw[Xq c]at a;have a:=a;have l:0<=t:=Int.lt_iff_le_and_ne.mpr ⟨q,X1 c⟩;have k:=uP s.k l f (by
  have B:(SM M<|aD M).b=jf (ku M):=by rw[SM,lq (wd:=aD M)<|sV (wd:=aD M) M];rfl
  have:=RH<|ku M;have:=ED M;have:=z.m;refine aa B ?_;exact Xz ‹_›<|Xz ‹_›<|bB 0x708e3340c9080e0067b tq this)
 by_cases b:(SM M<|aD M).b.getD t.toNat []=b9
 ·rw[Xr b]at a
  rw[b]at k;have e:=(r8 (H:=H) (p:=bK M (aD M) X8) m m).1;unfold b9 at e a k;exact yK (H1:=H) (by simp[k]) (uJ (H1:=H)<|by simp[a,gZ,e])
 rw[Xq b]at a;have i:¬(SM M<|aD M).b.getD t.toNat []=[105,109,112,111,114,116]:=b;refine qP (H1:=H) (by generalize(SM M<|aD M).b.getD t.toNat []=kk at k i;simp[k,i]) ?_;have d:fW H (.s name) (.t [.s [73,70],.s [49,97],.s [],.s [120,95]])=some (Db.contains name):=da name Db;rcases uX name g with⟨o,p⟩|⟨o,p,A⟩
 ·rw[Xr p]at a
  have a:=a;rw[show Db.contains name=true by simpa using o]at d;have e:=(r8 (H:=H) (p:=bK M (aD M) X8) n n).1;unfold Gf at e a;exact yK (H1:=H) (hE λj=>j _ d) (uJ (H1:=H)<|by simp[a,gZ,e])
 ·rw[show Db.contains name=false by simpa using o]at d
  rw[Xq<|by refine aa p ?_;simp]at a;exact qP (H1:=H) (hE λj=>j _ d)<|Ty h w s A r u l b a
end
section
variable{M:Md}{name:Nm}{pa ma va wL me ki:Nat}{ch tw:Int}{H:Hp}
def RA (h:BC M)(f:(jg<|aP M).length<=30000)(e:name∈kj)(s:LS M H ma va wL me ki):
  Wn (vi 61) [xR 0,xR pa,xS name,xI ch,xS<|cf M<|aD M,xR ma,xR va,xR wL,xR me,xR ki,xI tw,none,none,none,none,none,none,none,none,none] H (YJ.body.drop 7):=by
 have z:=lH h;have p:=z.a;have d:(0:Int)<((nI (aP M):Nat):Int):=Zu.mpr<|XO (nl rfl) p;have m:=kd (a:=ch) (b:=((nI (aP M):Nat):Int)) d<|(Ys (n:=1000000)).mpr<|A1 z.m;obtain⟨a,b⟩:∃a:Nat,(a:Int)=ch %((nI (aP M):Nat):Int):=⟨(ch %((nI (aP M):Nat):Int)).toNat,Zh<|ZF ch<|Y1 d⟩;rw[<- b]at m;refine kz (v:=.i (a:Int)) (H1:=H) (hE λj=>j _ (by have:=s.m.len;rw[md]at this;exact this) _ m)<|cps λC o=>?_;have g:a<nI (aP M):=X2.mp<|b▸aax ch d;refine yR M g λt r q v=>?_;have g1:=s.m.item r;generalize((j0 (aP M) 0).getD a (0,[])).1=pp at g1 q;refine o<|kz (v:=.i<|bK M (aD M) a) (H1:=H) (hE λj=>j _ g1 _ (by refine dG q ?_;simp[getItem,(by decide:nW 2 0=some 0)]:getItem H (.t [.i (pp:Int),.s t]) (.i 0)=xI (bK M (aD M) a))) ?_;refine Xs (HG<|iJ M) λN n=>?_;obtain⟨x,k⟩:=v4 (d:=60) h f (by decide) (jZ h f<|iC h) (oQ n) (place:=bK M (aD M) a) (name:=name) (λc=>by
  rcases uX name e with⟨_,u⟩|⟨_,_,u⟩
  ·rw[u]at c;exact eH c nt
  ·exact u) H
 refine kz (v:=gZ<|tc M (aD M) (bK M (aD M) a) name) (H1:=H++x) (hE λj=>j _ _ k) ?_;have i:=s.app x;generalize H++x=H8 at i;have l:getItem H8 (.r me) (.i (a:Int))=xI (cH a (SM M<|aD M).f):=by simp[LG i.a];exact k9<|(cJ M (aD M) a).2 g
 exact kz (v:=.i<|cH a (SM M<|aD M).f) (H1:=H8) (hE λj=>j _ l)<|UP h f i e g rfl
def Ur (h:BC M)(b:(jg<|aP M).length<=30000)(a:name∈kj)(s:LS M H ma va wL me ki):
  Wn (vi 61) [xR 0,xR pa,xS name,xI ch,xS<|cf M<|aD M,xR ma,xR va,xR wL,xR me,xR ki,xI tw,none,none,none,none,none,none,none,none,none] H (YJ.body.drop 6):=by
 have m:=kd (a:=ch) (b:=4) (by decide) (by decide);by_cases c:ch % 4=0
 ·have f0:=jZ h b<|iC h
  refine Xs (HG<|iJ M) λN i=>Xs (v4 (d:=60) h b (by decide) f0 (oQ i) (place:=0) (name:=wf) (λ_=>by decide) H) λx e=>?_;have f:tc M (aD M) 0 wf=.e (.s Pf) (.i 0):=by unfold tc;simp[MB f0]
  rw[f]at e;have d:=(r8 (H:=H++x) (p:=0) ru.1 ru.1).2;unfold Pf at d e;exact qP (H1:=H++x) (by simp[m,c,e,gZ,d])<|RA h b a<|s.app x
 ·exact qP (H1:=H) (by simp[m,c])<|RA h b a s
def TN (h:BC M)(q:(jg<|aP M).length<=30000)(c:name∈kj)(d:H[ma]?=some (.l<|(j0 (aP M) 0).map λp=>V.t [.i p.1,.s p.2]))(l:H[va]?=some (.l<|(ku M).map lw)):
  Wn (vi 61) [xR 0,xR pa,xS name,xI ch,xS<|cf M<|aD M,xR ma,xR va,none,none,none,none,none,none,none,none,none,none,none,none,none] H (YJ.body.drop 4):=by
 have m:=(lH h).m;have b:(j0 (aP M) 0).length=nI (aP M):=md _ _;have f:=ph (cl:=vi 61) (l:=[xR 0,xR pa,xS name,xI ch,xS<|cf M<|aD M,xR ma,xR va,none,none,none,none,none,none,none,none,none,none,none,none,none]) (H:=H)
  (elt:=.t (.v 0)<|.i 1) (src:=.v 5) (caps:=[]) (a:=ma) (vs:=(j0 (aP M) 0).map λp=>V.t [.i p.1,.s p.2]) SD (by simp) d (by rw[X6];exact GI b m) (λv g=>by refine ag (XN.1 g) λp t n=>?_;clear g;subst n;simp[cW,getItem,(by decide:nW 2 1=some 1)])
 have eW:((j0 (aP M) 0).map λp=>V.t [.i p.1,.s p.2]).map SD=(lS<|aP M).map V.s:=by simp only[<- Fc (aP M) 0,Y5,Y5];refine YA λi _=>?_;simp
 rw[eW]at f;refine kz f ?_;have a:B4 (H++[AO.l<|(lS<|aP M).map V.s]).length (j0 (aP M) 0) ma<|H++[AO.l<|(lS<|aP M).map V.s]:=⟨by simp;have:=xd d;exact aI 0x5a1602610067b tq this,fk d,b▸YU (XY m<|nl rfl)⟩;have e:=fk (r:=[AO.l<|(lS<|aP M).map V.s]) l;have w:qC (H++[AO.l<|(lS<|aP M).map V.s]).length (nI<|aP M) (aD M) H.length<|H++[AO.l<|(lS<|aP M).map V.s]:=⟨by simp,lS<|aP M,be _ _,rr _,bB 0xe11c09080e0067b tq m,λi o=>by
  unfold aD;have:i<(lS<|aP M).length:=by rw[rr];exact o
  simp[Yr,XQ this]⟩
 generalize H++[AO.l<|(lS<|aP M).map V.s]=H5 at a e w;refine Vj (d:=60) (wd:=aD M) (m:=nI<|aP M) (by decide) e w (sV M) (by have:=ED M;exact aI 0xc81c09080e0867b3342c0065b tq this m) λx r j k=>?_;rw[show YB.run (aD M) (ku M)=SM M (aD M)from rfl]at r j k;exact GG (vs:=[.r<|H5.length+3,.r<|H5.length+4,.i (SM M<|aD M).t]) (H1:=H5++x) (hE λs=>s _ _ r) rfl (Ur h q c ⟨Rl (a.app _)<|by simp,fk e,G3 (r5 w _<|XH _)<|by simp,j,k⟩)
end
def IT (v)(k:v.length<=63):∃w,vF 60 v=some (.r<|.b true,w):=by
 refine cps λC O=>Wz (d:=60) k λH R p A i=>?_;have u:(H++[AO.l<|kj.map V.s])[H.length]?=some (.l<|kj.map V.s):=be _ _;have b:p<H.length:=by refine dH i.f λt l q _=>?_;exact xd q
 refine Ov (d:=61) (w:=10) (i.app [.l<|kj.map V.s]) (by decide) (by decide) (by decide) λx f B D E F G=>?_;obtain⟨n,rfl⟩:∃n:Nat,x=(n:Int):=⟨x.toNat,(Zh D).symm⟩;have a:n<kj.length:=X2.mp E;have g:getItem f (.r H.length) (.i (n:Int))=xS (kj[n]'a):=getL ((G.lo _ (XG<|XY i.o b) (XG b)<|xd u).trans u:f[H.length]?=some (.l<|kj.map V.s)) (by decide) (by simp);have e:=Zj a;generalize kj[n]'a=name at g e;refine Ov (d:=61) (w:=840) F (by decide) (by decide) (by decide) λI y c m o d r=>?_;obtain⟨M,z,P,Q,s,J,L,h,N⟩:=WD (d:=61) d (by decide);rw[<- UT M]at s;exact O<|kz (v:=.r p) (H1:=H) (hE λj=>j _ _ A)<|kz (v:=.s name) (H1:=f) (hE λj=>j _ _ (B:ae 61 50 [.r p,.i 10] (H++[AO.l [.s [97],.s [98],.s [99],.s [100],.s [102,114,101,115,104],.s [65,66,83],.s [73,70],.s [49,97],.s [],.s [120,95]]])=some (.v<|.i (n:Int),f)) _ g)<|kz (v:=.i I) (H1:=y) (hE λj=>j _ _ c)<|GG (vs:=[.s<|cf M<|aD M,.r P,.r Q]) (H1:=z) (hE λj=>j _ _ s) rfl (TN h N e J L)
def law_ok:∀n:List Int,n.length<=63->∃d H,d<=100/\vF d n=some (.r<|.b true,H):=λn h=>by exact Xs (IT n h) λH e=>⟨60,H,by decide,e⟩
end Mine
end
section
open PySem PySem.W PySem.Calls PyProof.Rows
namespace Mine
noncomputable def lY(o:Thread->Bool)(a:SharedT->Thread->Option (SharedT×Thread)):Nat->SharedT->Thread->Option SharedT
 |0,_,_=>none
 |n+1,s,t=>match through t with
  |true=>some s
  |false=>match o t with
   |false=>none
   |true=>match a s t with
    |some (b,c)=>lY o a n b c
    |none=>none
theorem zt{o s z a}:lY o s 0 z a=none:=rfl
theorem sJ{o s a z n}:lY o s n.succ a z=
 match PySem.W.through z with
 |true=>some a
 |false=>
  match o z with
  |false=>none
  |true=>
   match s a z with
   |some (b,t)=>lY o s n b t
   |none=>none:=rfl
def QQ (P:Params):BT:=[boot_o_0 P,boot_o_1 P,boot_o_2 P,boot_o_3 P,boot_o_4 P,boot_o_5 P,boot_o_6 P,boot_o_7 P,boot_o_8 P,boot_o_9 P,boot_o_10 P].zipIdx.foldl (λt x=>t.ins x.2 x.1) BT.nil
def sT (w:World)(o:OsState):SharedT:=⟨QQ w.params,11,(boot_heap w.params).life,#[],boot_drawn,boot_toks,o⟩
def NQ (N:Nat)(w:World)(o:OsState):Option SharedT:=lY (PySem.W.Fast.tw6613529449190102663 11<|some<|.ref 6) (PySem.W.Fast.tw10156331382660048174 (PySem.W.Fast.tw11892475500146522536 PySem.W.Fast.tw14364793385576792824) PySem.Challenge.pw_pq0764_01 w) N (sT w o)<|topStub PySem.Challenge.pw_pq0764_01
def tr:List Str:=[Str.ofString "YardError","FormatError","SourceItem",Str.ofString "Occurrence",Str.ofString "NameWalk"]++(CB.filter λp=>p.1 !=64).map (·.2)
noncomputable def qv:Program:=view PySem.Challenge.pw_pq0764_01 [48]
noncomputable def Fd:List Str:=importedModules PySem.Challenge.pw_pq0764_01.main.body
def K8 (P:Params)(s:Shared):Bool:=staticsOk Fd (boot_heap P) s.heap&&namesBound PySem.Challenge.pw_pq0764_01 s.heap&&gensDone s&&laidKept (boot_heap P) s.heap
def PZ (s):=openSeen qv tr Fd (λs=>recOk [] s) true s
def yu (s:Shared):List<|Option Obj:=Vd.map s.heap.get?
def GD (w:World)(o:OsState):(NQ 3400 w o).map (λt=>(K8 w.params t.abs,PZ t.abs,yu t.abs))=some (true,openGood qv tr,(K0 w.params).map λp=>some p.2):=by kernel_rfl
theorem oG:∀(n:Nat) (s d:SharedT) (t:Thread),lY (stepOk a ann) (PySem.W.stepT (denote e) p w) n s t=some d->topRun e p w a ann n s.abs t=some d.abs
 |0,_,_,_,h=>by simp[zt,sJ]at h
 |n+1,s,d,t,h=>by
  rw[sJ]at h;unfold topRun;cases ht:through t with
  |true=>rw[ht]at h;cases h;rfl
  |false=>
   rw[ht]at h;have h:=h;cases hk:stepOk a ann t with
   |false=>rw[hk]at h;exact cE h nt
   |true=>
    rw[hk]at h;have h:=h;cases hs:PySem.W.stepT (denote e) p w s t with
    |none=>rw[hs]at h;exact cE h nt
    |some r=>obtain⟨b,c⟩:=r;rw[hs]at h;rw[stepT_spec hs];exact oG n b d c h
def GB {N:Nat}{w:World}{o:OsState}{t:SharedT}(h:NQ N w o=some t):topRun treeTable PySem.Challenge.pw_pq0764_01 w 11 (some<|.ref 6) N (sT w o).abs (topStub PySem.Challenge.pw_pq0764_01)=some t.abs:=by unfold NQ at h;rw[<- PySem.W.Fast.te6613529449190102663,<- PySem.W.Fast.te10156331382660048174,<- PySem.W.Fast.te11892475500146522536,<- PySem.W.Fast.te14364793385576792824]at h;exact oG _ _ _ _ h
def Oj (w)(o:OsState):(sT w o).abs=⟨boot_heap w.params,#[],boot_drawn,boot_toks,o⟩:=by kernel_rfl
def CP (w:World):((boot_heap w.params).isNs mainGlobals&&(#[]:Array GenState).size==0,(boot_heap w.params).objs.size,(boot_heap w.params).nsMap mainGlobals "__annotations__")=(true,11,some<|.ref 6):=by kernel_rfl
def QW:opening PySem.Challenge.pw_pq0764_01=plainProg PySem.Challenge.pw_pq0764_01.main.scope.names:=by kernel_rfl
def Ox (s):fenceModules? PySem.Challenge.pw_pq0764_01 s=some s:=by kernel_rfl
def TS:LeftO PySem.Challenge.pw_pq0764_01 qv tr (λs=>recOk [] s) yu (λw=>(K0 w.params).map λp=>some p.2) 3400:=λw=>by
 refine cps λC c=>ag (YR.mp<|boot_open (N:=3400) QW rfl Ox w) λn e b=>?_;obtain⟨h,g,d,k,o⟩:=n;obtain⟨rfl,rfl,rfl,rfl⟩:h=boot_heap w.params/\g=#[]/\d=boot_drawn/\k=boot_toks:=by simpa using b
 obtain⟨z,j,m⟩:_/\_/\_:=by simpa only[Prod.mk.injEq]using CP w
 refine ag (YR.mp<|GD w o) λt r l=>?_;obtain⟨a,f,i⟩:_/\_/\_:=by simpa only[Prod.mk.injEq]using l
 have R:=GB r;rw[Oj]at R;have T:topFrom treeTable PySem.Challenge.pw_pq0764_01 w 3400 ⟨boot_heap w.params,#[],boot_drawn,boot_toks,o⟩=some t.abs:=by unfold topFrom;rw[z];dsimp only;rw[j,m,R,Zi];unfold K8 at a;unfold Fd at a;rw[a]
 refine c ?_;unfold openEnds;rw[e,Zi,T,Option.map_some];exact Xy some<|Prod.ext f i
noncomputable def DU(c:Nat):Nat:=match c with
 |0=>91
 |1=>201
 |_=>418
noncomputable def FS(d:Data)(f:Array DictEntry->Nat->β)(z:β):β:=if h:d.ctorIdx=3 then Data.dict.elim (motive:=λ_=>β) d h f else z
def I6 {d:Data}{f:Array DictEntry->Nat->Bool}{Q:Data->Prop}(h:FS d f false=true)(k:∀e n,f e n=true->Q (.dict e n)):Q d:=eF h λx=>Data.dict.elim (motive:=λd=>FS d f false=true->Q d) d x k h
noncomputable def HZ(v:Value)(f:Str->PySem.Tok->Bool):Bool:=if h:v.ctorIdx=6 then Value.str.elim (motive:=λ_=>Bool) v h f else false
def I9 {v:Value}{f:Str->PySem.Tok->Bool}{Q:Value->Prop}(h:HZ v f=true)(k:∀s t,Q<|.str s t):Q v:=eF h λx=>Value.str.elim (motive:=λv=>HZ v f=true->Q v) v x (λs t _=>k s t) h
def tL (K:Frag)(a:Addr):Bool:=match K.lookup a with
 |some o=>FS o.data (λb _=>b.toList.all λe=>HZ e.key λ_ _=>true) false
 |none=>false
def um (K:Frag)(a:Addr)(x:Str):Option Value:=match K.lookup a with
 |some o=>FS o.data (λe _=>nsFind e x) none
 |none=>none
def GQ {K:Frag}{a:Addr}(h:tL K a=true){g:Heap}(X:K.In g):g.Ns a<|um K a:=by
 unfold tL at h;cases ho:K.lookup a with
 |none=>rw[ho]at h;exact eH h nt
 |some o=>rw[ho]at h;obtain⟨b,n,c,i⟩:∃b n,o.data=.dict b n/\(b.toList.all λe=>HZ e.key λ_ _=>true)=true:=I6 (Q:=λd=>∃b n,d=.dict b n/\(b.toList.all λe=>HZ e.key λ_ _=>true)=true) h λb n q=>⟨b,n,rfl,q⟩;exact⟨o,b,n,X _ _ ho,c,λe f=>(I9 (Q:=λv=>∃x t,v=.str x t) (Yh.mp i e<|Array.mem_toList_iff.mpr f) λs t=>⟨s,t,rfl⟩),λx=>by unfold um;rw[ho];show _=FS o.data _ _;rw[c];rfl⟩
def LR {g:Heap}{a:Addr}{m d:Str->Option Value}(h:g.Ns a m)(l:g.Ns a d)(x:Str):m x=d x:=by refine cps λC p=>cG h λo q n f i _ j=>cG l λs k r e b _ c=>p ?_;rw[f]at e;cases e;rw[i]at b;cases b;rw[<- j,<- c]
def MT (K:Frag):Bool:=[0,1,2].all λc=>hasDictIn K (DU c)&&plainOver K (DU c)&&(findIn K (.ref<|DU c) "__setattr__"==some (some<|.builtin "object.__setattr__"))
noncomputable def yN(K:Frag)(C:Addr)(x:Str):Bool:=match findIn K (.ref C) x with |some a=>noGet K a|none=>false
def Mr (K:Frag):Bool:=[0,1,2].all λc=>(List.range 13).all λf=>!(Dm c f)||(plainGet K (DU c) (yG f)&&yN K (DU c) (yG f)&&(takerIn K (DU c) (yG f)==some none))
noncomputable def LO:Bool:=(List.range 13).all λf=>(List.range 13).all λg=>f==g||!(yG f==yG g)
def MV (K:Frag):Bool:=Fe.all λp=>decide (p.1<3)&&makesIn K (DU p.1)&&keepIn K (.ref<|DU p.1)&&(findIn K (.ref<|DU p.1) "__init__"==some (some<|.ref<|fA<|1000+p.1))&&isFn K (.ref<|fA<|1000+p.1)&&(um K 3 p.2==some (.ref<|DU p.1))
def QY (K:Frag):Bool:=(["len","ord","max","sum","sorted","range","reversed"]:List Str).all λx=>um K 3 x==none
def P5 (K:Frag):Bool:=CB.all λp=>keepIn K (.ref<|fA p.1)&&(um K 3 p.2==some (.ref<|fA p.1))
def Jf (K:Frag):Bool:=FM.all λp=>keepIn K (.ref<|fA p.1)&&plainGet K (DU 2) p.2&&(findIn K (.ref<|DU 2) p.2==some (some<|.ref<|fA p.1))&&isFn K (.ref<|fA p.1)&&(List.range 13).all λf=>!(Dm 2 f)||!(yG f==p.2)
noncomputable def nD(a:Arguments):Option<|List Str:=if a.posonlyargs.isEmpty&&a.vararg.isNone&&a.kwonlyargs.isEmpty&&a.kw_defaults.isEmpty&&a.kwarg.isNone&&a.defaults.isEmpty then some (a.args.map (·.arg))else none
def vV (K:Frag)(k:Nat)(f:Fn):Bool:=
 (Jz.lookup k).isSome&&codeIn K (.ref<|cA k) (qA k)&&(nD (sy<|bP k)==some ((aT k).take f.p))&&decide ((aT k).Nodup)&&decide (f.p<=(aT k).length)&&
 !(bf<|bP k).isCoroutine&&!(bf<|bP k).isGenerator&&((bf<|bP k).kind==.function)&&
 (if k==48||k==63||k==64 then(aT k).all (λx=>(bf<|bP k).names.lookup x==some .local||(bf<|bP k).names.lookup x==some .cell)&&decide (((cellsFrom 0 (bf<|bP k).names []).map (·.1)).Nodup)
 else(bf<|bP k).names.all (λx=>!(x.2==.cell))&&(aT k).all (λx=>(bf<|bP k).names.lookup x==some .local))
def Nu (K:Frag):Bool:=SC.all λp=>vV K p.1 p.2
def LZ (K:Frag):Bool:=(findIn K (.ref 44) "__setattr__"==some (some<|.builtin "object.__setattr__"))&&(findIn K (.ref 44) "__getattribute__"==some (some<|.builtin "BaseException.__getattribute__"))&&(findIn K (.ref 44) "__getattr__"==some none)&&
 tL K 43&&tL K 23&&tL K 3&&(um K 43 "__init__"==some (.ref<|fA 1003))&&(um K 23 "__init__"==none)&&keepIn K (.ref 44)&&(um K 3 "FormatError"==some (.ref 44))&&isFn K (.ref<|fA 1003)&&
 (takerIn K 44 "what"==some none)&&yN K 44 "what"&&(takerIn K 44 "at"==some none)&&yN K 44 "at"
def IW:Bool:=decide ((Jz.map (·.2)).Nodup)
def c1 (P):MT (K0 P)=true:=by kernel_rfl
def c2 (P):Mr (K0 P)=true:=by kernel_rfl
def c3:LO=true:=by kernel_rfl
def c4 (P:Params):MV (K0 P)=true:=by kernel_rfl
def c5 (P:Params):QY (K0 P)=true:=by kernel_rfl
def c6 (P:Params):P5 (K0 P)=true:=by kernel_rfl
def c7 (P):Jf (K0 P)=true:=by kernel_rfl
def c8 (P:Params):Nu (K0 P)=true:=by kernel_rfl
def c9 (P:Params):LZ (K0 P)=true:=by kernel_rfl
def WB:IW=true:=by kernel_rfl
def uq (w:World)(a m:Str->Option Value)(s:Shared):bi:=⟨PySem.Challenge.pw_pq0764_01,w,K0 w.params,a,m,⟨DU,yG,s.heap,s.os,s.gens⟩,fA,PN,Qy,Qi⟩
def KQ (h:c<3):c∈[0,1,2]:=by exact(List.mem_range.mpr h:c∈List.range 3)
def tl {K:Frag}{C:Addr}{x:Str}(h:yN K C x=true):∃a,findIn K (.ref C) x=some a/\noGet K a=true:=by
 unfold yN at h;split at h
 ·rename_i a e;exact⟨a,e,h⟩
 ·exact eH h nt
def tW:∀{k:List<|Nat×c},l.lookup a=none->(l++k).lookup a=k.lookup a:=by
 induction l with
 |nil=>intro k _;exact rfl
 |cons p r i=>
  intro k h;obtain⟨b,x⟩:=p;by_cases e:a=b
  ·subst e;simp at h
  ·simp only[YL,Yn.mpr e]at h
   simp[YL,Yn.mpr e];exact i h
def yq {l:List<|Nat×Nat}:∀{k a:Nat},(l.map (·.2)).Nodup->(k,a)∈l->(l.map λp=>(p.2,Bn p.1)).lookup a=some (Bn k):=by
 induction l with
 |nil=>intro _ _ _ h;exact Xv h XZ
 |cons c r i=>
  intro k a n h;obtain⟨j,b⟩:=c;rw[af,Yc]at n;rcases XD.mp h with e|h
  ·cases e;simp
  ·have:a≠b:=λe=>n.1 (by refine dG e ?_;exact XN.mpr ⟨(k,a),h,rfl⟩)
   simp[YL,Yn.mpr this];exact i n.2 h
def NY (P:Params):Bool:=Jz.all λp=>(Kb P).all (λq=>!(p.2==q.1))&&Kc.all (λq=>!(p.2==q.1))
def Wo (P):NY P=true:=by kernel_rfl
def qS {c:Type}{a:Nat}{l:List<|Nat×c}:l.all (λq=>!(a==q.1))=true->l.lookup a=none:=by
 induction l with
 |nil=>intro _;exact rfl
 |cons p r i=>intro h;obtain⟨b,x⟩:=p;simp only[all_cons,Xu,YE]at h;simp only[YL,h.1];exact i h.2
def MH (P:Params)(h:(Jz.lookup k).isSome=true):(K0 P).lookup (fA k)=some (Bn k):=by refine Xs (aa0.mp h) λa b=>?_;refine aa (by unfold fA;refine aa b ?_;rfl:fA k=a) ?_;have z:=Wo P;have c:=e4 b;have z:=Yh.mp z (k,a) c;simp only[Xu]at z;exact aa (tW<|qS z.1)<|aa (tW<|qS z.2)<|yq (Zn WB) c
def Ju {a:Arguments}{x:List Str}(h:nD a=some x){Cx:Prop}(k:∀p:List Arg,a=⟨[],p,none,[],[],none,[]⟩->p.map (·.arg)=x->Cx):Cx:=by refine cv h λq h=>?_;obtain⟨j,b,l,m,n,o,r⟩:=a;simp at q;refine XE (λz i=>?_) q;obtain⟨⟨⟨⟨c,d⟩,e⟩,f⟩,g⟩:=z;exact k b (by rw[c,d,e,f,g,i])<|aA h
section
variable{w:World}{mg mb:Str->Option Value}{s:Shared}
def KP (h:FT k=some f):vV (K0 w.params) k f=true:=by exact Yh.mp (c8 w.params) (k,f)<|e4 (l:=SC) h
def Lh {k:Nat}{f:Fn}(h1:(Jz.lookup k).isSome=true)(m:nD (sy<|bP k)=some ((aT k).take f.p))(q:(aT k).Nodup)(r:f.p<=(aT k).length):
  ∀C:Prop,(∀n p d g a h b c v od o,(uq w mg mb s).K.lookup ((uq w mg mb s).f k)=some ⟨v,od,.func<|fnX n (qA k) p (et<|bP k) (bf<|bP k) [] d g a h b (.ref<|cA k) c,o⟩->
  (∀j u,u.length=f.p->BindsTo j (fnX n (qA k) p (et<|bP k) (bf<|bP k) [] d g a h b (.ref<|cA k) c) ⟨u,[]⟩ (((aT k).take f.p).zip u))->C)->C:=λC k=>by
 refine Ju m λi l e=>k (wZ<|bP _) (sy<|bP _) .none .none .none (mA _) none .none (.type "function") none #[] (MH w.params h1) λj u t=>BindsTo.of_eq<|dG e<|xH (ps:=i) l rfl ?_ ?_
 ·refine aa e ?_;exact q.sublist<|Z2 _ _
 ·have:(i.map (·.arg)).length=f.p:=by refine aa e<|aa length_take ?_;exact min_eq_left r
  rw[X6]at this;exact Gb t this
def tR {k:Nat}{f:Fn}(n:FT k=some f)(n1:k≠48)(p:k≠63)(q:k≠64):nY (uq w mg mb s) k (aT k) f.p (bf<|bP k) (et<|bP k) (qA k)<|.ref<|cA k:=by
 have h:=KP (w:=w) n;have e:(k==48||k==63||k==64)=false:=by simp[n1,p,q]
 simp only[vV,e,Xu,Ze,if_false,Yh,YF,Ym,YE,Yn]at h;have h:=h;refine cps λC o=>bX h λz m a=>?_;refine XE (λz l=>?_) z;obtain⟨⟨⟨⟨⟨⟨h1,d⟩,g⟩,b⟩,c⟩,i⟩,j⟩:=z;exact o<|⟨Lh h1 g b c,d,m,a,b,c,i,j,l⟩
def JA {k:Nat}{f:Fn}(o:FT k=some f)(n:k=48\/k=63\/k=64):nP (uq w mg mb s) k (aT k) f.p (bf<|bP k) (et<|bP k) (qA k)<|.ref<|cA k:=by
 have h:=KP (w:=w) o;have e:(k==48||k==63||k==64)=true:=by simpa [or_assoc]using n
 simp only[vV,e,Xu,if_true,Yh,YF,Ym,YE,YS]at h;refine cps λC r=>bX h λz m a=>?_;obtain⟨⟨⟨⟨⟨⟨⟨h1,d⟩,g⟩,b⟩,c⟩,i⟩,j⟩,l⟩:=z;refine r<|⟨Lh h1 g b c,d,λx p=>?_,a,b,c,i,j,l⟩;rcases m x p with q|q
 ·exact .inl q
 ·exact .inr ⟨q,λn=>cellsFrom_some _ n []<|.inl q⟩
def Bu (a:s.heap.Ns mainGlobals mg)(X:(K0 w.params).In s.heap)(x):mg x=um (K0 w.params) 3 x:=by have h:=c9 w.params;simp only[LZ,Xu]at h;exact LR a (GQ h.1.1.1.1.1.1.1.1.1.2 X) x
def RN (d:s.heap.Ns mainGlobals mg)(X:(K0 w.params).In s.heap):mK (uq w mg mb s) where
 dict c hc:=by have h:=c1 w.params;have h:=Yh.mp h c<|KQ hc;simp only[Xu,YF]at h;exact⟨h.1.1,h.1.2,h.2⟩
 fld c f hf:=by have l:=kY hf;have h:=c2 w.params;have h:=Yh.mp (Yh.mp h c<|KQ l.1) f<|List.mem_range.mpr l.2;simp only[hf,Bool.not_true,Bool.false_or,Xu,YF]at h;exact⟨h.1.1,tl h.1.2,h.2⟩
 a f g hf d e:=by have h:=c3;have h:=Yh.mp (Yh.mp h f<|List.mem_range.mpr hf) g<|List.mem_range.mpr d;simp only[YS,YF,YE,Yn]at h;exact h.resolve_right λq=>q e
 cls c x hx:=by have h:=c4 w.params;have h:=Yh.mp h (c,x)<|e4 (l:=Fe) hx;simp only[Xu,YF,Ym]at h;refine cps λC p=>XE (λz r=>?_) h;refine XE (λz o=>?_) z;obtain⟨⟨⟨h1,i⟩,j⟩,n⟩:=z;exact p<|⟨h1,i,j,n,o,(Bu d X x).trans r⟩
 b x hx:=by have h:=c5 w.params;have h:=Yh.mp h x hx;simp only[YF]at h;exact(Bu d X x).trans h
 fn k x hx:=by have h:=c6 w.params;have h:=Yh.mp h (k,x)<|e4 (l:=CB) hx;simp only[Xu,YF]at h;exact⟨h.1,(Bu d X x).trans h.2⟩
 m k x hx:=by have h:=c7 w.params;have h:=Yh.mp h (k,x)<|e4 (l:=FM) hx;simp only[Xu,YF]at h;refine cps λC p=>XE (λz o=>?_) h;refine XE (λz n=>?_) z;obtain⟨⟨h1,i⟩,j⟩:=z;refine p<|⟨h1,i,j,n,λf hf e=>?_⟩;have:=Yh.mp o f<|List.mem_range.mpr (kY hf).2;simp only[hf,Bool.not_true,Bool.false_or,YE,Yn]at this;exact this e
end
section
variable{w:World}{mg mb:Str->Option Value}{s:Shared}
def QV (q:s.heap.Ns mainGlobals mg)(X:(K0 w.params).In s.heap):XK (uq w mg mb s) 44 24 (fA 1003) "FormatError" "what" "at":=by have h:=c9 w.params;simp only[LZ,Xu,YF]at h;refine cps λC r=>?_;obtain⟨⟨⟨⟨⟨⟨⟨⟨⟨⟨⟨⟨⟨⟨h1,i⟩,j⟩,l⟩,m⟩,t⟩,n⟩,o⟩,p⟩,a⟩,b⟩,c⟩,d⟩,e⟩,f⟩:=h;exact r<|⟨⟨⟨_,rfl,rfl,rfl⟩,h1,i,j⟩,λ_ k=>k _ _ _ _ _ _ _ _ _ _ _ _ _ _ (um (K0 w.params) 43) rfl (λg X=>GQ l X) n,λg X=>.own (X 24 _ rfl) (GQ m X) o .base,p,(Bu q X _).trans a,b,(λ_ k=>k (bf<|bP 1003) (qA 1003) (.ref<|cA 1003) "self" _ _ _ _ _ _ _ _ (tR (f:=gj) rfl (by decide) (by decide) (by decide)) rfl (by decide) (by decide) (by decide)),⟨c,tl d⟩,⟨e,tl f⟩,by decide⟩
def JK:sD (uq w mg mb s) "what" "at" "fault" "rename" "FormatError" (aT 62) (bf<|bP 62) (et<|bP 62) (qA 62) (.ref<|cA 62) where
 fn:=tR (f:=t6) rfl (by decide) (by decide) (by decide)
 len:=rfl
 d:=by decide
 n:=rfl
 a:=rfl
 f:=rfl
 c:=rfl
 b:=rfl
 e:=rfl
 o:=rfl
 body:=λ_ k=>k _ _ _ _ _ _ _ _ _ _ _ _ _ _ _ _ _ _ _ _ rfl
def TH (b:s.heap.Ns mainGlobals mg)(X:(K0 w.params).In s.heap):Fg (uq w mg mb s) 44 24 (fA 1003) where
 tabs:=⟨rfl,rfl,rfl,rfl⟩
 a:=RN b X
 x:=QV b X
 plain k f hf h1 h2 h3 _:=⟨_,_,tR hf h1 h2 h3⟩
 cell k f hf h:=⟨_,_,JA hf h⟩
 told:=⟨_,_,_,_,_,JK⟩
end
def Ts:PySem.Challenge.rw_pq0764_01.wellSaid=true:=by refine aa PySem.W.Fast.te9446332074065402090 ?_;kernel_rfl
def My:DefRec:=⟨wZ<|bP 64,sy<|bP 64,et<|bP 64,bf<|bP 64,match bP 64 with | .FunctionDef _ _ _ _ _ _ _ _ _ p=>p|_=>⟨0,0,0,0⟩⟩
def claim (H:∀n:List Int,n.length<=63->∃d D,d<=100/\vF d n=some (.r<|.b true,D)):PySem.Challenge.rw_pq0764_01.Holds:=by
 refine holds_law Ts λsd=>?_;have lf:LeftO PySem.Challenge.rw_pq0764_01.row.prog qv tr (λs=>recOk [] s) yu (λw=>(K0 w.params).map λp=>some p.2) 3400:=TS;have R:∀(w:World) (s:Shared),yu s=(K0 w.params).map (λp=>some p.2)->(K0 w.params).In s.heap:=λw s e=>Frag.in_of (K:=K0 w.params) (as:=Vd) rfl e;refine PySem.W.holds_open (r:=PySem.Challenge.rw_pq0764_01.row) (q:=qv) (loose:=tr) (Xt:=λs=>recOk [] s) (XP:=λ_ _=>True) (Yf:=yu) (Ya:=λw=>(K0 w.params).map λp=>some p.2) (YP:=λw h=>(K0 w.params).In h) (d:=My) (kwd:=[]) (N:=3400)
  lf R (λw h h' x k=>Frag.In.keeps x k) (λ_ _=>trivial) (λ_ _ _ _ _=>trivial) ?_ ?_ ?_ (λs e=>recFacts_of e) rfl sd ?_ ⟨rfl,rfl,rfl,rfl,rfl,by decide+kernel⟩ ?_ ?_
 ·kernel_rfl
 ·kernel_rfl
 ·kernel_rfl
 ·kernel_rfl
 ·exact⟨[.list []],by decide+kernel,by decide+kernel⟩
 ·intro w I b m C G Y a o pm cd P F kV ho hd W hD g X E J as i c z A v
  wrow_args i c z A v
  rename_i n hs u Q hr1 hl2 L M sc us N hL ra w1 r0 hI hr T U;have f:n.length<=63:=by lia
  refine dH (H n f) λdd D r j=>?_;have Z:=TH (w:=w) (mb:=C) (s:=b) G.T.g Y;have S:a=fA 64:=by have q:=(Z.a.fn 64 "law" rfl).2;have q':m "law"=some (.ref a):=g;have l:m "law"=some (.ref<|fA 64):=q;rw[q']at l;exact Value.ref.inj<|Zd l
  clear g ho;subst S;have B:m5 (uq w m C b) b.heap:=⟨G.T.g,G.T.b,G.T.nolimit,G.T.builtins,Y,⟨_,Y 1 _ rfl⟩⟩;refine enter_call ?_;refine EA (P:=uq w m C b) Z r B rfl rfl rfl hL hI j λs' hk y t=>?_;refine GoodW.toG ⟨.inl ⟨.bool true,.bool true,[],rfl,λO=>?_,?_,?_,?_⟩,hk,y,t.trans X⟩
  ·rfl
  ·exact .bool _
  ·refine postW_of (by wrow_shape) (by wtm_val) ?_
   rfl
  ·exactλ_=>⟨.nil,λ_ h=>nomatch h⟩
end Mine
end
end
theorem PySem.Challenge.cw_pq0764_01_holds : PySem.Challenge.rw_pq0764_01.Holds :=
  Mine.claim Mine.law_ok
