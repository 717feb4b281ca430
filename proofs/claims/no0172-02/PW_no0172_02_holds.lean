import PyProof.Rows.All
import Wide.All
import OpenK.AllK
import Wide.FinOn
import Lean
import PySem.Challenge.RW_no0172_02
set_option Elab.async false
set_option maxRecDepth 100000
set_option maxHeartbeats 8000000
set_option linter.unusedVariables false
set_option linter.unusedSimpArgs false
set_option genSizeOf false
set_option genInjectivity false
namespace Mine
local macro_rules |`(tactic|apply $e)=>`(tactic|with_unfolding_all exact $e)
local macro_rules |`(tactic|ac_rfl)=>`(tactic|with_unfolding_all rfl)
local macro_rules |`(tactic|rfl')=>`(tactic|kernel_rfl)
open PySem PySem.W PySem.Calls PyProof.Rows PySem.SeqAt
abbrev aa:=@Nat.le_trans
abbrev ae:=@List.length_map
abbrev af:=@List.length_append
abbrev ah:=@Option.bind_eq_some_iff
abbrev ai:=@Option.map_eq_some_iff
abbrev aj:=@Nat.le_refl
abbrev ak:=@Nat.lt_of_le_of_lt
abbrev am:=@List.mem_cons
abbrev an:=@List.getElem?_eq_some_iff
abbrev ao:=@Option.some.inj
abbrev aq:=@List.mem_singleton
abbrev au:=@Bool.and_eq_true_iff
abbrev av:=@Nat.lt_of_lt_of_le
abbrev ax:=@Nat.le_add_right
abbrev ay:=@List.length_cons
abbrev aA:=@List.getElem?_eq_getElem
abbrev aB:=@List.all_eq_true
abbrev aC:=@List.append_assoc
abbrev aE:=@Int.natCast_nonneg
abbrev aH:=@Heap.get?_push_of_some
abbrev aI:=@List.map_append
abbrev aJ:=@List.mem_cons_self
abbrev aL:=@Nat.succ_le_succ
abbrev aM:=@List.mem_cons_of_mem
abbrev aP:=@List.map_cons
abbrev aQ:=@Heap.get?_push_size
abbrev aR:=@Nat.le_of_eq
abbrev aS:=@List.length_singleton
abbrev aT:=@List.mem_of_getElem?
abbrev aU:=@List.not_mem_nil
abbrev aW:=@Option.some_ne_none
abbrev a5:=@Nat.le_of_ble_eq_true
abbrev a6:=@Nat.add_le_add_left
abbrev a7:=@List.length_set
abbrev bb:=@Nat.add_le_add
abbrev bg:=@Option.bind_some
abbrev bn:=@List.mem_map
abbrev bo:=@List.getElem?_map
abbrev bp:=@List.append_nil
abbrev bv:=@Heap.get?_none_of_le
abbrev bF:=@Nat.le_succ
abbrev bH:=@Nat.add_comm
abbrev bI:=@Int.ofNat_lt
abbrev bJ:=@Int.toNat_natCast
abbrev bP:=@Nat.add_assoc
abbrev bR:=@List.drop_eq_getElem_cons
abbrev bU:=@List.map_map
abbrev bW:=@Nat.zero_le
abbrev b7:=@Nat.add_le_add_right
abbrev ca:=@Nat.ne_of_lt
abbrev ce:=@List.mem_append_right
abbrev cp:=@List.getElem?_append_left
abbrev cq:=@Nat.le_of_not_lt
abbrev cF:=@Int.ofNat_le
abbrev cG:=@Nat.le_of_lt
abbrev cH:=@List.getElem?_append_right
abbrev cI:=@Nat.lt_add_of_pos_right
abbrev cP:=@Nat.succ_pos
abbrev cS:=@List.mem_append
abbrev cU:=@Nat.lt_succ_self
abbrev cV:=@List.getElem_mem
abbrev cY:=@Heap.lt_size
abbrev dc:=@Nat.add_right_comm
abbrev de:=@List.getD_eq_getElem?_getD
abbrev dj:=@Nat.lt_trans
abbrev dx:=@Nat.le_antisymm
abbrev dy:=@List.nodup_cons
abbrev dF:=@List.mem_append_left
abbrev dN:=@List.all_cons
abbrev dP:=@List.nodup_nil
abbrev dQ:=@Nat.le_succ_of_le
abbrev dR:=@Nat.zero_add
abbrev dU:=@List.map_congr_left
abbrev dY:=@List.nil_append
abbrev ej:=@Heap.get?_update_self
abbrev eH:=@Int.not_lt
abbrev eI:=@Bool.false_ne_true
abbrev eJ:=@List.take_length
abbrev eK:=@Nat.lt_of_lt_of_eq
abbrev eL:=@Nat.lt_of_le_of_ne
abbrev eX:=@List.drop_zero
abbrev eY:=@Nat.mul_le_mul_right
abbrev fn:=@F.slot_dict_keyiterator_next
abbrev fD:=@Int.ofNat.inj
abbrev fE:=@List.cons_append
abbrev fF:=@List.length_drop
abbrev fG:=@List.length_take
abbrev fP:=@Array.getElem?_eq_some_iff
abbrev fQ:=@Nat.blt_eq
abbrev fT:=@List.take_append_drop
abbrev gg:=@Nat.min_eq_left
abbrev gh:=@Bool.or_eq_true
abbrev gq:=@List.nodup_append
abbrev gr:=@List.map_nil
abbrev gt:=@Nat.lt_succ_of_le
abbrev gu:=@Nat.le_of_lt_succ
abbrev gv:=@List.getElem?_of_mem
abbrev hM:=@List.getElem?_cons_succ
abbrev hS:=@Nat.add_sub_cancel_left
abbrev iw:=@Int.zero_add
abbrev iy:=@Obj.data_mapFields
abbrev iG:=@Nat.le_add_left
abbrev iH:=@List.foldl_cons
abbrev iZ:=@Nat.eq_of_beq_eq_true
abbrev i3:=@Bool.eq_false_iff
abbrev i4:=@Fast.te14364793385576792824
abbrev jr:=@Int.mul_add
abbrev js:=@List.mem_of_mem_take
abbrev jA:=@Nat.succ_mul
abbrev jB:=@Option.getD_some
abbrev jG:=@List.cons_ne_nil
abbrev jH:=@List.getElem?_zip_eq_some
abbrev jI:=@Array.getElem?_eq_getElem
abbrev jS:=@Heap.SameBut.update
abbrev jU:=@List.mem_map_of_mem
abbrev j4:=@List.getElem?_take_of_lt
abbrev j9:=@Nat.not_lt_zero
abbrev ka:=@Bool.eq_iff_iff
abbrev kO:=@Nat.sub_add_cancel
abbrev kP:=@Bool.false_eq_true
abbrev kQ:=@Nat.mod_lt
abbrev kS:=@List.map_singleton
abbrev lF:=@Heap.size_push
abbrev lG:=@List.drop_eq_nil_of_le
abbrev lH:=@List.length_take_of_le
abbrev lJ:=@List.Sublist.refl
abbrev lK:=@Option.map_map
abbrev mu:=@Array.getElem?_toList
abbrev mX:=@F.plainAttrs_str
abbrev mY:=@Nat.mod_eq_of_lt
abbrev mZ:=@List.suffix_cons
abbrev m6:=@List.nil_sublist
abbrev nU:=@Bool.true_and
abbrev nV:=@List.length_take_le'
abbrev nW:=@Nat.pow_le_pow_right
abbrev nX:=@List.getElem?_set_ne
abbrev pD:=@List.length_nil
abbrev pE:=@List.forIn_cons
abbrev pP:=@Nat.add_sub_cancel'
abbrev pV:=@Nat.pow_succ
abbrev qR:=@Nat.pos_of_ne_zero
abbrev qS:=@Nat.sub_lt_right_of_lt_add
inductive LX where
 |v (i:Nat)
 |n (k:Nat)
 |a (x y:LX)
 |m (k:Nat) (x:LX)
inductive IX where
 |c (x:LX)
 |w (i:Nat)
 |n (k:Int)
 |a (x y:IX)
 |s (x y:IX)
 |g (x:IX)
 |m (k:Int) (x:IX)
inductive LC where
 |le (x y:LX)
 |lt (x y:LX)
 |eq (x y:LX)
 |Ie (x y:IX)
 |A2 (x y:IX)
 |T4 (x y:IX)
 |ff
 |no (x:LC)
noncomputable section
noncomputable def Mh(c:List Nat):Nat->Nat:=List.rec (λ_=>0) (λx _ ih i=>Nat.rec x (λj _=>ih j) i) c
noncomputable def Is(c:List Int):Nat->Int:=List.rec (λ_=>0) (λx _ ih i=>Nat.rec x (λj _=>ih j) i) c
noncomputable def em(c:List Nat):(Nat->Int)->Int:=List.rec (λ_=>0) (λx _ ih f=>f 0*x+ih λi=>f (i+1)) c
noncomputable def eS(c:List Int):(Nat->Int)->Int:=List.rec (λ_=>0) (λx _ ih f=>f 0*x+ih λi=>f (i+1)) c
noncomputable def LX.den(c:List Nat)(e:LX):Nat:=LX.rec (λi=>Mh c i) (λk=>k) (λ_ _ p q=>p+q) (λk _ p=>k*p) e
noncomputable def LX.co(e:LX):Nat->Int:=LX.rec (λj i=>if j=i then 1 else 0) (λ_ _=>0) (λ_ _ p q i=>p i+q i) (λk _ p i=>k*p i) e
noncomputable def LX.k(e:LX):Int:=LX.rec (λ_=>0) (λk=>k) (λ_ _ p q=>p+q) (λk _ p=>k*p) e
noncomputable def IX.den(c:List Nat)(d:List Int)(e:IX):Int:=IX.rec (λx=>(x.den c:Int)) (λi=>Is d i) (λk=>k) (λ_ _ p q=>p+q) (λ_ _ p q=>p-q) (λ_ p=> -p) (λk _ p=>k*p) e
noncomputable def IX.co(e:IX):Nat->Int:=IX.rec (λx i=>x.co i) (λ_ _=>0) (λ_ _=>0) (λ_ _ p q i=>p i+q i) (λ_ _ p q i=>p i-q i) (λ_ p i=> -p i) (λk _ p i=>k*p i) e
noncomputable def IX.ci(e:IX):Nat->Int:=IX.rec (λ_ _=>0) (λj i=>if j=i then 1 else 0) (λ_ _=>0) (λ_ _ p q i=>p i+q i) (λ_ _ p q i=>p i-q i) (λ_ p i=> -p i) (λk _ p i=>k*p i) e
noncomputable def IX.k(e:IX):Int:=IX.rec (λx=>x.k) (λ_=>0) (λk=>k) (λ_ _ p q=>p+q) (λ_ _ p q=>p-q) (λ_ p=> -p) (λk _ p=>k*p) e
structure Df where
 f:Nat->Int
 g:Nat->Int
 k:Int
noncomputable def Df.val(c:List Nat)(d:List Int)(p:Df):Int:=em c p.f+eS d p.g+p.k
noncomputable def LX.df(x y:LX)(j:Int):Df:=⟨λi=>y.co i-x.co i,λ_=>0,y.k-x.k-j⟩
noncomputable def IX.df(x y:IX)(j:Int):Df:=⟨λi=>y.co i-x.co i,λi=>y.ci i-x.ci i,y.k-x.k-j⟩
noncomputable def Df.neg(p:Df):Df:=⟨λi=> -p.f i,λi=> -p.g i,-p.k-1⟩
noncomputable def LC.den(c:List Nat)(d:List Int)(e:LC):Prop:=LC.rec (λx y=>x.den c<=y.den c) (λx y=>x.den c<y.den c) (λx y=>x.den c=y.den c)
 (λx y=>x.den c d<=y.den c d) (λx y=>x.den c d<y.den c d) (λx y=>x.den c d=y.den c d) False (λ_ p=>¬p) e
noncomputable def LC.df(e:LC):Df:=LC.rec (λx y=>x.df y 0) (λx y=>x.df y 1) (λx y=>x.df y 0) (λx y=>x.df y 0) (λx y=>x.df y 1) (λx y=>x.df y 0) ⟨λ_=>0,λ_=>0,-1⟩ (λ_ p=>p.neg) e
noncomputable def LC.kd(e:LC):Nat:=LC.rec (λ_ _=>1) (λ_ _=>1) (λ_ _=>2) (λ_ _=>1) (λ_ _=>1) (λ_ _=>2) 1 (λ_ k=>if k=1 then 1 else 0) e
end
theorem Mi(a b c d:Int):a+b+(c+d)=a+c+(b+d):=by omega
theorem qT(c:List Nat):∀(f g:Nat->Int),em c (λi=>f i+g i)=em c f+em c g:=by
 induction c with
 |nil=>intro f g;rfl
 |cons x r ih=>intro f g;show(f 0+g 0)*x+em r (λi=>f (i+1)+g (i+1))=(f 0*x+em r _)+(g 0*x+em r _);rw[ih,Int.add_mul,Mi]
theorem uA(c:List Int):∀(f g:Nat->Int),eS c (λi=>f i+g i)=eS c f+eS c g:=by
 induction c with
 |nil=>intro f g;rfl
 |cons x r ih=>intro f g;show(f 0+g 0)*x+eS r (λi=>f (i+1)+g (i+1))=(f 0*x+eS r _)+(g 0*x+eS r _);rw[ih,Int.add_mul,Mi]
theorem om(k:Int)(c:List Nat):∀(f:Nat->Int),em c (λi=>k*f i)=k*em c f:=by
 induction c with
 |nil=>intro f;exact(Int.mul_zero k).symm
 |cons x r ih=>intro f;show(k*f 0)*x+em r (λi=>k*f (i+1))=k*(f 0*x+em r _);rw[ih,jr,Int.mul_assoc]
theorem qU(k:Int)(c:List Int):∀(f:Nat->Int),eS c (λi=>k*f i)=k*eS c f:=by
 induction c with
 |nil=>intro f;exact(Int.mul_zero k).symm
 |cons x r ih=>intro f;show(k*f 0)*x+eS r (λi=>k*f (i+1))=k*(f 0*x+eS r _);rw[ih,jr,Int.mul_assoc]
theorem uB(c:List Nat)(f:Nat->Int):em c (λi=> -f i)= -em c f:=by
 have:=om (-1) c f
 rw[Int.neg_one_mul]at this
 rw[<-this];congr;funext i;rw[Int.neg_one_mul]
theorem uC(c:List Int)(f:Nat->Int):eS c (λi=> -f i)= -eS c f:=by
 have:=qU (-1) c f
 rw[Int.neg_one_mul]at this
 rw[<-this];congr;funext i;rw[Int.neg_one_mul]
theorem uD(c:List Nat)(f g:Nat->Int):em c (λi=>f i-g i)=em c f-em c g:=by
 rw[Int.sub_eq_add_neg,<-uB,<-qT];rfl
theorem yT(c:List Int)(f g:Nat->Int):eS c (λi=>f i-g i)=eS c f-eS c g:=by
 rw[Int.sub_eq_add_neg,<-uC,<-uA];rfl
theorem j5(c:List Nat):em c (λ_=>0)=0:=by
 induction c with
 |nil=>rfl
 |cons x r ih=>show(0:Int)*x+em r (λ_=>0)=0;rw[ih,Int.zero_mul];rfl
theorem j6(c:List Int):eS c (λ_=>0)=0:=by
 induction c with
 |nil=>rfl
 |cons x r ih=>show(0:Int)*x+eS r (λ_=>0)=0;rw[ih,Int.zero_mul];rfl
theorem Fb(c:List Nat):∀j:Nat,em c (λi=>if j=i then 1 else 0)=(Mh c j:Int):=by
 induction c with
 |nil=>intro j;rfl
 |cons x r ih=>
  intro j
  cases j with
  |zero=>show(1:Int)*x+em r (λi=>if 0=i+1 then 1 else 0)=(x:Int);simp only[Nat.zero_ne_add_one,if_false];rw[j5,Int.one_mul,Int.add_zero]
  |succ j=>show(0:Int)*x+em r (λi=>if j+1=i+1 then 1 else 0)=(Mh r j:Int);simp only[Nat.add_right_cancel_iff];rw[ih,Int.zero_mul,iw]
theorem Fd(c:List Int):∀j:Nat,eS c (λi=>if j=i then 1 else 0)=Is c j:=by
 induction c with
 |nil=>intro j;rfl
 |cons x r ih=>
  intro j
  cases j with
  |zero=>show(1:Int)*x+eS r (λi=>if 0=i+1 then 1 else 0)=x;simp only[Nat.zero_ne_add_one,if_false];rw[j6,Int.one_mul,Int.add_zero]
  |succ j=>show(0:Int)*x+eS r (λi=>if j+1=i+1 then 1 else 0)=Is r j;simp only[Nat.add_right_cancel_iff];rw[ih,Int.zero_mul,iw]
theorem It(c:List Nat):∀{f g:Nat->Int},(∀i,i<c.length->f i<=g i)->em c f<=em c g:=by
 induction c with
 |nil=>intro f g h;exact Int.le_refl _
 |cons x r ih=>intro f g h;exact Int.add_le_add (Int.mul_le_mul_of_nonneg_right (h 0 (cP _)) (aE x)) (ih λi hi=>h (i+1) (Nat.succ_lt_succ hi))
theorem Iu(c:List Int):∀{f g:Nat->Int},(∀i,i<c.length->f i=g i)->eS c f=eS c g:=by
 induction c with
 |nil=>intro f g h;rfl
 |cons x r ih=>intro f g h;show f 0*x+eS r _=g 0*x+eS r _;rw[h 0 (cP _),ih λi hi=>h (i+1) (Nat.succ_lt_succ hi)]
theorem LX.val(c:List Nat)(e:LX):(e.den c:Int)=em c e.co+e.k:=by
 induction e with
 |v i=>exact((Fb c i).symm).trans (Int.add_zero _).symm
 |n k=>exact((congrArg (·+(k:Int)) (j5 c)).trans (iw _)).symm
 |a x y h1 h2=>show((x.den c+y.den c:Nat):Int)=em c (λi=>x.co i+y.co i)+(x.k+y.k);rw[qT,Int.natCast_add,h1,h2];exact Mi ..
 |m k x h=>show((k*x.den c:Nat):Int)=em c (λi=>k*x.co i)+k*x.k;rw[om,Int.natCast_mul,h,jr]
theorem IX.val(c:List Nat)(d:List Int)(e:IX):e.den c d=em c e.co+eS d e.ci+e.k:=by
 induction e with
 |c x=>show(x.den c:Int)=em c x.co+eS d (λ_=>0)+x.k;rw[j6,Int.add_zero];exact x.val c
 |w i=>show Is d i=em c (λ_=>0)+eS d (λj=>if i=j then 1 else 0)+0;rw[j5,Fd,iw,Int.add_zero]
 |n k=>show k=em c (λ_=>0)+eS d (λ_=>0)+k;rw[j5,j6,iw,iw]
 |a x y h1 h2=>show x.den c d+y.den c d=em c (λi=>x.co i+y.co i)+eS d (λi=>x.ci i+y.ci i)+(x.k+y.k);rw[qT,uA,h1,h2];omega
 |s x y h1 h2=>show x.den c d-y.den c d=em c (λi=>x.co i-y.co i)+eS d (λi=>x.ci i-y.ci i)+(x.k-y.k);rw[uD,yT,h1,h2];omega
 |g x h=>show-x.den c d=em c (λi=> -x.co i)+eS d (λi=> -x.ci i)+ -x.k;rw[uB,uC,h];omega
 |m k x h=>show k*x.den c d=em c (λi=>k*x.co i)+eS d (λi=>k*x.ci i)+k*x.k;rw[om,qU,h,jr,jr]
theorem LX.qP(c:List Nat)(d:List Int)(x y:LX)(j:Int):(x.df y j).val c d=(y.den c:Int)-x.den c-j:=by
 show em c (λi=>y.co i-x.co i)+eS d (λ_=>0)+(y.k-x.k-j)=_;rw[uD,j6,x.val,y.val];omega
theorem IX.qP(c:List Nat)(d:List Int)(x y:IX)(j:Int):(x.df y j).val c d=y.den c d-x.den c d-j:=by
 show em c (λi=>y.co i-x.co i)+eS d (λi=>y.ci i-x.ci i)+(y.k-x.k-j)=_;rw[uD,yT,x.val,y.val];omega
theorem Df.neg_val(c:List Nat)(d:List Int)(p:Df):p.neg.val c d= -p.val c d-1:=by
 show em c (λi=> -p.f i)+eS d (λi=> -p.g i)+(-p.k-1)= -(em c p.f+eS d p.g+p.k)-1;rw[uB,uC];omega
theorem LC.iff(c:List Nat)(d:List Int)(e:LC):(e.kd=1->(e.den c d↔0<=e.df.val c d))/\(e.kd=2->(e.den c d↔e.df.val c d=0)):=by
 induction e with
 |le x y=>refine⟨λ_=> ?_,(nomatch·)⟩;show x.den c<=y.den c↔0<=(x.df y 0).val c d;rw[LX.qP];omega
 |lt x y=>refine⟨λ_=> ?_,(nomatch·)⟩;show x.den c<y.den c↔0<=(x.df y 1).val c d;rw[LX.qP];omega
 |eq x y=>refine⟨(nomatch·),λ_=> ?_⟩;show x.den c=y.den c↔(x.df y 0).val c d=0;rw[LX.qP];omega
 |Ie x y=>refine⟨λ_=> ?_,(nomatch·)⟩;show x.den c d<=y.den c d↔0<=(x.df y 0).val c d;rw[IX.qP];omega
 |A2 x y=>refine⟨λ_=> ?_,(nomatch·)⟩;show x.den c d<y.den c d↔0<=(x.df y 1).val c d;rw[IX.qP];omega
 |T4 x y=>refine⟨(nomatch·),λ_=> ?_⟩;show x.den c d=y.den c d↔(x.df y 0).val c d=0;rw[IX.qP];omega
 |ff=>
  refine⟨λ_=>⟨λh=>h.elim,λh=> ?_⟩,(nomatch·)⟩
  have:Df.val c d ⟨λ_=>0,λ_=>0,-1⟩= -1:=by
   show em c (λ_=>0)+eS d (λ_=>0)+ -1= -1
   rw[j5,j6];rfl
  change 0<=Df.val c d ⟨λ_=>0,λ_=>0,-1⟩at h
  omega
 |no x ih=>
  constructor
  ·intro h
   have hk:x.kd=1:=by
    change (if x.kd=1 then 1 else 0)=1 at h
    by_cases q:x.kd=1
    ·exact q
    ·rw[if_neg q]at h;cases h
   show¬x.den c d↔0<=x.df.neg.val c d
   rw[ih.1 hk,Df.neg_val];omega
  ·intro h
   change (if x.kd=1 then 1 else 0)=2 at h
   split at h<;>cases h
noncomputable section
noncomputable def Fe(x:Int):Bool:=Int.rec (λ_=>true) (λ_=>false) x
noncomputable def chain(c:List Nat)(d:List Int)(g:Prop)(hs:List LC):Prop:=List.rec g (λe _ p=>e.den c d->p) hs
noncomputable def t8(hs:List LC):List Int->Df:=List.rec (λ_=>⟨λ_=>0,λ_=>0,0⟩) (λe _ ih ls=>List.rec ⟨λ_=>0,λ_=>0,0⟩ (λl r _=>⟨λi=>l*e.df.f i+(ih r).f i,λi=>l*e.df.g i+(ih r).g i,l*e.df.k+(ih r).k⟩) ls) hs
noncomputable def Fg(hs:List LC):List Int->Bool:=List.rec (λ_=>true) (λe _ ih ls=>List.rec true (λl r _=>Nat.rec false (λk _=>Nat.rec (Fe l) (λ_ _=>true) k) e.kd&&ih r) ls) hs
noncomputable def upTo(n:Nat)(p:Nat->Bool):Bool:=Nat.rec true (λi b=>p i&&b) n
noncomputable def T5(c:List Nat)(d:List Int)(p:Df)(m:Nat)(q:Df):Bool:=
 upTo c.length (λi=>Fe ((m+1)*q.f i-p.f i))&&(upTo d.length (λi=>decide (p.g i=(m+1)*q.g i))&&Fe ((m+1)*q.k+m-p.k))
end
theorem xO{x:Int}(h:Fe x=true):0<=x:=by
 cases x with
 |ofNat n=>exact aE n
 |negSucc n=>cases h
theorem CC{n:Nat}{p:Nat->Bool}(h:upTo n p=true):∀i,i<n->p i=true:=by
 induction n with
 |zero=>intro i hi;exact absurd hi (j9 i)
 |succ n ih=>
  intro i hi
  have h2:=(au.mp (show(p n&&upTo n p)=true from h))
  rcases Nat.lt_succ_iff_lt_or_eq.mp hi with q|q
  ·exact ih h2.2 i q
  ·rw[q];exact h2.1
theorem Mj{c:List Nat}{d:List Int}{p q:Df}{m:Nat}(h:T5 c d p m q=true)(hp:0<=p.val c d):0<=q.val c d:=by
 have h1:=au.mp h
 have h2:=au.mp h1.2
 have e1:em c p.f<=(m+1)*em c q.f:=by
  rw[<-om];refine It c λi hi=> ?_
  have:=xO (CC h1.1 i hi);omega
 have e2:eS d p.g=(m+1)*eS d q.g:=by
  rw[<-qU];exact Iu d λi hi=>of_decide_eq_true (CC h2.1 i hi)
 have e3:=xO h2.2
 have e4:(0:Int)<=(m+1)*q.val c d+m:=by
  show(0:Int)<=(m+1)*(em c q.f+eS d q.g+q.k)+m
  rw[jr,jr]
  change (0:Int)<=em c p.f+eS d p.g+p.k at hp
  omega
 refine eH.mp λhn=> ?_
 have:((m:Int)+1)*q.val c d<=(m+1)*(-1):=Int.mul_le_mul_of_nonneg_left (by omega) (by omega)
 omega
theorem Iv{c:List Nat}{d:List Int}{g:Prop}:∀(hs:List LC) (ls:List Int),Fg hs ls=true->(0<=(t8 hs ls).val c d->g)->chain c d g hs:=by
 have z:Df.val c d ⟨λ_=>0,λ_=>0,0⟩=0:=by
  show em c (λ_=>0)+eS d (λ_=>0)+0=0
  rw[j5,j6];rfl
 have w:∀(hs:List LC),g->chain c d g hs:=λhs h=>by
  induction hs with
  |nil=>exact h
  |cons e r ih=>exactλ_=>ih
 have key:∀(hs:List LC) (ls:List Int) (a:Int),Fg hs ls=true->(0<=a->0<=a)->(0<=a+(t8 hs ls).val c d->g)->0<=a->chain c d g hs:=by
  intro hs
  induction hs with
  |nil=>intro ls a _ _ h ha;refine h ?_;show 0<=a+Df.val c d ⟨λ_=>0,λ_=>0,0⟩;rw[z];omega
  |cons e r ih=>
   intro ls a ho _ h ha he
   cases ls with
   |nil=>refine w r (h ?_);show 0<=a+Df.val c d ⟨λ_=>0,λ_=>0,0⟩;rw[z];omega
   |cons l t=>
    have h2:=au.mp (show(Nat.rec false (λk _=>Nat.rec (Fe l) (λ_ _=>true) k) e.kd&&Fg r t)=true from ho)
    have hv:(t8 (e::r) (l::t)).val c d=l*e.df.val c d+(t8 r t).val c d:=by
     show em c (λi=>l*e.df.f i+(t8 r t).f i)+eS d (λi=>l*e.df.g i+(t8 r t).g i)+(l*e.df.k+(t8 r t).k)=l*(em c e.df.f+eS d e.df.g+e.df.k)+(em c (t8 r t).f+eS d (t8 r t).g+(t8 r t).k)
     rw[qT,uA,om,qU,jr,jr];omega
    have hx:0<=l*e.df.val c d:=by
     have i:=LC.iff c d e
     match hk:e.kd,h2.1 with
     |1,hl=>exact Int.mul_nonneg (xO hl) ((i.1 hk).mp he)
     |k+2,_=>
      have:e.kd=2:=by
       clear h2 hv ih h ho i he
       induction e with
       |no x=>change (if x.kd=1 then 1 else 0)=k+2 at hk;split at hk<;>cases hk
       |eq=>rfl
       |T4=>rfl
       |_=>cases hk
      rw[(i.2 this).mp he,Int.mul_zero];exact Int.le_refl 0
    refine ih t (a+l*e.df.val c d) h2.2 id (λq=>h ?_) (Int.add_nonneg ha hx)
    rw[hv,<-Int.add_assoc];exact q
 intro hs ls ho h
 exact key hs ls 0 ho id (λq=>h (by rwa[iw]at q)) (Int.le_refl 0)
theorem KZ{c:List Nat}{d:List Int}(m:Nat)(hs:List LC)(g:LC)(ls:List Int)(h:(Fg hs ls&&(Nat.rec false (λk _=>Nat.rec true (λ_ _=>false) k) g.kd&&T5 c d (t8 hs ls) m g.df))=true):chain c d (g.den c d) hs:=by
 have h1:=au.mp h
 have h2:=au.mp h1.2
 refine Iv hs ls h1.1 λq=>((LC.iff c d g).1 ?_).mpr (Mj h2.2 q)
 match hk:g.kd,h2.1 with
 |1,_=>rfl
theorem ZW(a b:Nat):a<=a-b+b:=by omega
theorem subB(a b:Nat):a-b<=a:=Nat.sub_le a b
theorem wu{a b:Nat}(h:b<=a):a-b+b=a:=kO h
section
variable{a b c d e f:Nat}(hs:List LC)(g:LC)(ls:List Int)
noncomputable abbrev Op(k:Nat)(hs:List LC)(g:LC)(ls:List Int):Prop:=(Fg hs ls&&(Nat.rec false (λk _=>Nat.rec true (λ_ _=>false) k) g.kd&&T5 (List.replicate k 0) [] (t8 hs ls) 0 g.df))=true
theorem sH(h:Op 1 hs g ls):chain [a] [] (g.den [a] []) hs:=KZ 0 hs g ls h
theorem n8(h:Op 2 hs g ls):chain [a,b] [] (g.den [a,b] []) hs:=KZ 0 hs g ls h
theorem qV(h:Op 3 hs g ls):chain [a,b,c] [] (g.den [a,b,c] []) hs:=KZ 0 hs g ls h
theorem Ig(h:Op 4 hs g ls):chain [a,b,c,d] [] (g.den [a,b,c,d] []) hs:=KZ 0 hs g ls h
theorem Oq(h:Op 5 hs g ls):chain [a,b,c,d,e] [] (g.den [a,b,c,d,e] []) hs:=KZ 0 hs g ls h
theorem ZX(h:Op 6 hs g ls):chain [a,b,c,d,e,f] [] (g.den [a,b,c,d,e,f] []) hs:=KZ 0 hs g ls h
end
theorem dm{a b:Bool}(h:(a&&b)=true):a=true:=(au.mp h).1
theorem e6{a b:Bool}(h:(a&&b)=true):b=true:=(au.mp h).2
theorem Ot{b:Bool}:(!b)=true->b=false:=Bool.casesOn b (λ_=>rfl) λh=>h.symm
inductive PV where
 |none
 |bool (b:Bool)
 |int (i:Int)
 |str (s:Str)
 |tup (xs:List PV)
 |tabI (kvs:List (Int×Int))
 |eg (kvs:List (List Int×Int))
 |xP (a b c:Int)
 |loc (a:Addr)
 |val (v:Value)
noncomputable abbrev Zf:=Addr->Option Obj
noncomputable def fR(Z Z':Zf):Prop:=∀b o,Z b=some o->Z' b=some o
theorem fR.refl(Z:Zf):fR Z Z:=λ_ _ e=>e
theorem fR.trans{a b c:Zf}(x:fR a b)(y:fR b c):fR a c:=λ_ _ e=>y _ _ (x _ _ e)
noncomputable def K0(Z:Zf)(h:Heap):Prop:=∀b o,Z b=some o->h.get? b=some o
noncomputable def Zf.put(Z:Zf)(a:Addr)(o:Obj):Zf:=λb=>if b=a then some o else Z b
theorem Zf.il(Z:Zf)(a:Addr)(o:Obj):Z.put a o a=some o:=by simp[Zf.put]
theorem Zf.yN{Z:Zf}{a:Addr}(o:Obj)(h:Z a=none):fR Z (Z.put a o):=λb x e=>by
 unfold Zf.put
 by_cases q:b=a
 ·subst q;rw[h]at e;cases e
 ·rw[if_neg q];exact e
noncomputable def uE(Z:Zf)(a:Addr)(vs:List Value):Prop:=∃n,Z a=some {cls:= .type "tuple",dict:=none,data:= .seq vs.toArray n,slots:=#[]}
theorem uE.mono{Z Z':Zf}(k:fR Z Z'){a:Addr}{vs:List Value}(x:uE Z a vs):uE Z' a vs:=let⟨n,e⟩:=x;⟨n,k _ _ e⟩
theorem uE.sD{Z:Zf}{h:Heap}(k:K0 Z h){a:Addr}{vs:List Value}(x:uE Z a vs):h.IsTuple a vs.toArray:=let⟨n,e⟩:=x;⟨_,k _ _ e,rfl,n,rfl⟩
noncomputable def uF(ns:List Int)(vs:List Value):Prop:=vs.length=ns.length/\∀(j:Nat) (i:Int),ns[j]?=some i->∃t,vs[j]?=some (Value.int i t)
inductive gU(kvs:List (Int×Int))(o:Obj):Prop
 |mk (es:Array DictEntry) (ep:Nat) (x:o.ExactDict) (d:o.data=.dict es ep) (n:(kvs.map (·.1)).Nodup) (s:es.size=kvs.length)
  (e:∀(j:Nat) (k v:Int),kvs[j]?=some (k,v)->∃t u,es[j]?=some ⟨hashInt k,.int k t,.int v u⟩)
noncomputable def ue(ks:List Int):Int:=reduceHash (Builtin.Tuple.tupleHashOf (ks.map hashInt))
inductive eM(Z:Zf)(kvs:List (List Int×Int))(o:Obj):Prop
 |mk (es:Array DictEntry) (ep:Nat) (x:o.ExactDict) (d:o.data=.dict es ep) (n:(kvs.map (·.1)).Nodup) (s:es.size=kvs.length)
  (e:∀(j:Nat) (k:List Int) (v:Int),kvs[j]?=some (k,v)->∃a vs u,uE Z a vs/\uF k vs/\es[j]?=some ⟨ue k,.ref a,.int v u⟩)
theorem eM.mono{Z Z':Zf}(l:fR Z Z'){kvs:List (List Int×Int)}{o:Obj}(x:eM Z kvs o):eM Z' kvs o:=
 x.casesOn λes ep a b c d e=>⟨es,ep,a,b,c,d,λj k v q=>(e j k v q).elim λa e=>e.elim λvs e=>e.elim λu e=>⟨a,vs,u,e.1.mono l,e.2⟩⟩
mutual
noncomputable def gj(Z:Zf):PV->Value->Prop
 |.none,v=>v=.none
 |.bool b,v=>v=.bool b
 |.int i,v=>∃t,v=.int i t
 |.str s,v=>∃t,v=.str s t
 |.loc a,v=>v=.ref a
 |.val x,v=>v=x
 |.tabI kvs,v=>∃a o,v=.ref a/\Z a=some o/\gU kvs o
 |.eg kvs,v=>∃a o,v=.ref a/\Z a=some o/\eM Z kvs o
 |.xP x y z,v=>∃a t u q,v=.ref a/\Z a=some {cls:= .type "range",dict:=none,data:= .fields #[.int x t,.int y u,.int z q],slots:=#[]}
 |.tup xs,v=>∃a vs,v=.ref a/\uE Z a vs/\cJ Z xs vs
noncomputable def cJ(Z:Zf):List PV->List Value->Prop
 |[],vs=>vs=[]
 |x::xs,vs=>∃v E0,vs=v::E0/\gj Z x v/\cJ Z xs E0
end
theorem gj.mono{Z Z':Zf}(k:fR Z Z'){x:PV}:∀{v:Value},gj Z x v->gj Z' x v:=
 PV.rec (motive_1:=λx=>∀{v:Value},gj Z x v->gj Z' x v) (motive_2:=λxs=>∀{vs:List Value},cJ Z xs vs->cJ Z' xs vs) (λr=>r) (λ_ {_} r=>r) (λ_ {_} r=>r) (λ_ {_} r=>r)
  (λxs ih {_} r=>r.elim λa r=>r.elim λvs r=>⟨a,vs,r.1,r.2.1.mono k,ih r.2.2⟩)
  (λkvs {_} r=>r.elim λa r=>r.elim λo r=>⟨a,o,r.1,k _ _ r.2.1,r.2.2⟩) (λkvs {_} r=>r.elim λa r=>r.elim λo r=>⟨a,o,r.1,k _ _ r.2.1,r.2.2.mono k⟩)
  (λ_ _ _ {_} r=>r.elim λa r=>r.elim λt r=>r.elim λu r=>r.elim λq r=>⟨a,t,u,q,r.1,k _ _ r.2⟩) (λ_ {_} r=>r) (λ_ {_} r=>r)
  (λr=>r) (λx xs h1 h2 {_} r=>r.elim λv r=>r.elim λvs r=>⟨v,vs,r.1,h1 r.2.1,h2 r.2.2⟩) x
section
variable{h:Zf}{x:PV}{v:Value}{xs:List PV}
theorem cJ.nil:cJ h [] []:=show([]:List Value)=[]from rfl
theorem cJ.cons{vs:List Value}(r:gj h x v)(q:cJ h xs vs):cJ h (x::xs) (v::vs):=⟨v,vs,rfl,r,q⟩
theorem cJ.one(r:gj h x v):cJ h [x] [v]:= .cons r .nil
theorem cJ.inv{vs:List Value}{P:List Value->Prop}(r:cJ h (x::xs) vs)(k:∀v vs,gj h x v->cJ h xs vs->P (v::vs)):P vs:=Exists.elim r λv r=>Exists.elim r λE0 r=>r.1▸k v E0 r.2.1 r.2.2
theorem cJ.H4{vs:List Value}{P:List Value->Prop}(r:cJ h [] vs)(k:P []):P vs:=(show vs=[]from r)▸k
theorem cJ.mono{Z Z':Zf}(k:fR Z Z'):∀{vs:List Value},cJ Z xs vs->cJ Z' xs vs:=by
 induction xs with
 |nil=>exactλ{_} r=>r
 |cons x xs ih=>
  exactλ{vs} r=>r.inv λv vs a b=> .cons (a.mono k) (ih b)
theorem cJ.length:∀{vs:List Value},cJ h xs vs->vs.length=xs.length:=by
 induction xs with
 |nil=>exactλ{_} r=>r.H4 (P:=λvs=>vs.length=0) rfl
 |cons x xs ih=>
  exactλ{vs} r=>r.inv (P:=λvs=>vs.length=xs.length+1) λv vs _ b=>congrArg (·+1) (ih b)
theorem cJ.get:∀{vs:List Value},cJ h xs vs->∀{i:Nat} {x:PV},xs[i]?=some x->∃v,vs[i]?=some v/\gj h x v:=by
 induction xs with
 |nil=>exactλ{vs} _ {i x} e=>nomatch e
 |cons y ys ih=>
  exactλ{vs} r {i x}=>r.inv (P:=λvs=>(y::ys)[i]?=some x->∃v,vs[i]?=some v/\gj h x v) λv vs a b e=>by
   cases i with
   |zero=>exact⟨v,rfl,ao e▸a⟩
   |succ n=>exact ih b e
theorem cJ.append{ys:List PV}{us:List Value}:∀{vs:List Value},cJ h xs vs->cJ h ys us->cJ h (xs++ys) (vs++us):=by
 induction xs with
 |nil=>exactλ{_} r b=>r.H4 (P:=λvs=>cJ h ys (vs++us)) b
 |cons x xs ih=>exactλ{_} r b=>r.inv (P:=λvs=>cJ h (x::xs++ys) (vs++us)) λv vs a q=> .cons a (ih q b)
theorem cJ.set(q:gj h x v):∀{vs:List Value},cJ h xs vs->∀{i:Nat},cJ h (xs.set i x) (vs.set i v):=by
 induction xs with
 |nil=>exactλ{_} r {i}=>r.H4 (P:=λvs=>cJ h ([].set i x) (vs.set i v)) .nil
 |cons y ys ih=>
  exactλ{vs} r {i}=>r.inv (P:=λvs=>cJ h ((y::ys).set i x) (vs.set i v)) λu vs a b=>by
   cases i with
   |zero=>exact .cons q b
   |succ n=>exact .cons a (ih b)
theorem cJ.take:∀{vs:List Value},cJ h xs vs->∀n,cJ h (xs.take n) (vs.take n):=by
 induction xs with
 |nil=>exactλ{_} r n=>r.H4 (P:=λvs=>cJ h ([].take n) (vs.take n)) (by rw[List.take_nil,List.take_nil];exact .nil)
 |cons y ys ih=>
  exactλ{vs} r n=>r.inv (P:=λvs=>cJ h ((y::ys).take n) (vs.take n)) λu vs a b=>by
   cases n with
   |zero=>exact .nil
   |succ n=>exact .cons a (ih b n)
theorem cJ.drop:∀{vs:List Value},cJ h xs vs->∀n,cJ h (xs.drop n) (vs.drop n):=by
 induction xs with
 |nil=>exactλ{_} r n=>r.H4 (P:=λvs=>cJ h ([].drop n) (vs.drop n)) (by rw[List.drop_nil,List.drop_nil];exact .nil)
 |cons y ys ih=>
  exactλ{vs} r n=>r.inv (P:=λvs=>cJ h ((y::ys).drop n) (vs.drop n)) λu vs a b=>by
   cases n with
   |zero=>exact .cons a b
   |succ n=>exact ih b n
end
inductive dn where
 |list (xs:List PV)
 |cg (kvs:List (Str×PV))
 |m7 (kvs:List (Int×Int))
 |hV (kvs:List (List Int×Int))
 |inst (c d:Addr)
 |exc (c t:Addr) (new:Bool)
 |var (v:Option PV)
 |rev (l:Addr) (n:Nat)
 |ns (x:Str) (v:PV)
noncomputable abbrev St:=Addr->Option dn
noncomputable def St.upd(σ:St)(a:Addr)(c:dn):St:=λb=>if b=a then some c else σ b
noncomputable def St.del(σ:St)(a:Addr):St:=λb=>if b=a then none else σ b
theorem St.bE(σ:St)(a:Addr)(c:dn):σ.upd a c a=some c:=by simp[St.upd]
theorem St.bA(σ:St){a b:Addr}(c:dn)(h:b≠a):σ.upd a c b=σ b:=by simp[St.upd,h]
theorem St.mq{σ:St}{a b:Addr}{c:dn}(h:σ.del a b=some c):b≠a/\σ b=some c:=by
 unfold St.del at h
 split at h
 ·cases h
 ·rename_i q;exact⟨q,h⟩
structure Ctx where
 prog:Program
 w:World
 B:Heap
 mg:Str->Option Value
 mb:Str->Option Value
 lf:Addr
 gens:Array GenState
 os:OsState
noncomputable abbrev Ctx.M(C:Ctx):Model:=model C.prog C.w
noncomputable abbrev iK(C:Ctx):KeyKind C.prog C.w Int:=intKind C.prog C.w
noncomputable abbrev sK(C:Ctx):KeyKind C.prog C.w Str:=strKind C.prog C.w
noncomputable abbrev tK(C:Ctx):HeapKind C.prog C.w (List Int):=tupleKind (intKind C.prog C.w)
noncomputable def eo{K V:Type}(P:V->Value->Prop):List (K×V)->List (K×Value)->Prop
 |[],ws=>ws=[]
 |(k,v)::r,ws=>∃u qW,ws=(k,u)::qW/\P v u/\eo P r qW
theorem eo.mono{K V:Type}{P P':V->Value->Prop}(h:∀v u,P v u->P' v u){kvs:List (K×V)}:∀{ws:List (K×Value)},eo P kvs ws->eo P' kvs ws:=by
 induction kvs with
 |nil=>exactλ{_} r=>r
 |cons p kvs ih=>
  exactλ{vs} r=>Exists.elim r λu r=>r.elim λqW r=>⟨u,qW,r.1,h _ _ r.2.1,ih r.2.2⟩
noncomputable def KD{prog:Program}{w:World}{K:Type}[DecidableEq K](knd:KeyKind prog w K)(o:Obj)(ws:List (K×Value)):Prop:=
 ∃es ep,o.ExactDict/\o.data=.dict es ep/\KeysOf knd es/\Pairs knd es.toList ws/\(ws.map (·.1)).Nodup
theorem KD.dictOf{prog:Program}{w:World}{K:Type}[DecidableEq K]{knd:KeyKind prog w K}{o:Obj}{ws:List (K×Value)}{h:Heap}{d:Addr}(x:KD knd o ws)(ho:h.get? d=some o):h.DictOf knd d ws:=
 Exists.elim x λes x=>x.elim λep r=>⟨o,es,ep,ho,r⟩
theorem KD.of{prog:Program}{w:World}{K:Type}[DecidableEq K]{knd:KeyKind prog w K}{ws:List (K×Value)}{h:Heap}{d:Addr}(x:h.DictOf knd d ws):∃o,h.get? d=some o/\KD knd o ws:=
 Exists.elim x λo x=>x.elim λes x=>x.elim λep r=>⟨o,r.1,es,ep,r.2⟩
noncomputable def on(C:Ctx)(Z:Zf)(kvs:List (Str×PV))(o:Obj):Prop:=∃ws,eo (gj Z) kvs ws/\KD (sK C) o ws
theorem on.mono{C:Ctx}{Z Z':Zf}(l:fR Z Z'){kvs:List (Str×PV)}{o:Obj}(x:on C Z kvs o):on C Z' kvs o:=
 Exists.elim x λws r=>⟨ws,r.1.mono λ_ _ q=>q.mono l,r.2⟩
noncomputable def OZ(Z:Zf)(x:Str)(pv:PV)(o:Obj):Prop:=∃(m:Str->Option Value) (es:Array DictEntry) (ep:Nat),o.data=.dict es ep/\StrKeys es/\(∀name,nsFind es name=m name)/\∃v,m x=some v/\gj Z pv v
noncomputable def mv(C:Ctx)(Z:Zf)(c:dn)(o:Obj):Prop:=match c with
 |.list xs=>∃vs n,o={cls:= .type "list",data:= .seq vs.toArray n}/\cJ Z xs vs
 |.cg kvs=>on C Z kvs o
 |.m7 kvs=>gU kvs o
 |.hV kvs=>eM Z kvs o
 |.inst c d=>o={cls:= .ref c,dict:=some d,data:= .plain}
 |.var none=>o.data=.cell none
 |.var (some pv)=>∃v,o.data=.cell (some v)/\gj Z pv v
 |.rev l n=>o={cls:= .type "list_reverseiterator",data:= .fields #[.ref l,rawInt ((n:Int)-1)]}
 |.ns x pv=>OZ Z x pv o
 |.exc c t new=>∃d,(new=true->d=none)/\o={cls:= .ref c,dict:=d,data:= .fields #[.ref t,.none,.none,.none,.bool false,.none]}
theorem mv.mono{C:Ctx}{Z Z':Zf}(l:fR Z Z'){c:dn}{o:Obj}(x:mv C Z c o):mv C Z' c o:=by
 cases c with
 |list xs=>obtain⟨vs,n,e,r⟩:=x;exact⟨vs,n,e,r.mono l⟩
 |cg kvs=>exact on.mono l x
 |m7 kvs=>exact x
 |hV kvs=>exact eM.mono l x
 |inst c d=>exact x
 |exc c t new=>exact x
 |var pv=>cases pv with
  |none=>exact x
  |some pv=>obtain⟨v,e,r⟩:=x;exact⟨v,e,r.mono l⟩
 |rev l n=>exact x
 |ns x' pv=>obtain⟨m,es,ep,a,b,d,v,e,r⟩:=x;exact⟨m,es,ep,a,b,d,v,e,r.mono l⟩
noncomputable def Fh(o:Obj):Prop:=∀vs,o.data≠ .fields vs
structure Fm where
 qual:Str
 scope:Scope
 f:Option Addr
 cd:Value
 names:List Str
 L:Addr
 outer:List Env
 A:Around
 lvl:Nat
 cl:List (Str×Addr)
 fL:Option Addr
 wY:List Env
 loc:Addr
 vn:List Str
 cv:List (Addr×Addr×Nat):=[]
noncomputable abbrev Fm.env(fr:Fm):Env:={scope:=fr.scope,locals:=fr.loc,globals:=mainGlobals,cells:=fr.cl,qual:=fr.qual,func:=fr.f,code:=fr.cd,frame:=fr.fL,builtins:=builtinsNs}
structure hY(fr:Fm):Prop where
 wY:fr.wY=fr.env::fr.outer
 fL:fr.fL=some fr.L
noncomputable def mw(A:Around)(n:Nat):Prop:=A.depth+n<900/\A.units+16*n<9000
noncomputable abbrev b4:=List (Option PV)
noncomputable def mx(Z:Zf)(names:List Str)(ρ:b4)(m:Str->Option Value):Prop:=
 ∀(i:Nat) (x:Str) (pv:PV),names[i]?=some x->ρ[i]?=some (some pv)->∃v,m x=some v/\gj Z pv v
theorem mx.mono{Z Z':Zf}(k:fR Z Z'){names:List Str}{ρ:b4}{m:Str->Option Value}(r:mx Z names ρ m):mx Z' names ρ m:=
 λi x pv a b=>let⟨v,e,q⟩:=r i x pv a b;⟨v,e,q.mono k⟩
structure aG(C:Ctx)(fr:Fm):Prop where
 kind:fr.scope.kind=.function
 frames:fr.A.frames=some fr.wY
 top:∃e,fr.wY=e::fr.outer/\e.scope.kind≠ .module/\e.frame=some fr.L
 handled:fr.A.handled=none
 room:mw fr.A fr.lvl
 nodup:fr.names.Nodup
 vn:fr.vn=[]\/fr.vn=fr.names/\fr.loc=fr.L
 locs:∀x∈fr.vn,fr.env.kindOf x=some .local
 Tn:∀x∈fr.names,(x==("__debug__":Str))=false
theorem aG.A1{C:Ctx}{fr:Fm}(F:aG C fr){i:Nat}{x:Str}(h:fr.vn[i]?=some x):fr.names[i]?=some x/\fr.loc=fr.L/\fr.env.kindOf x=some .local/\(x==("__debug__":Str))=false:=by
 rcases F.vn with e|⟨e,q⟩
 ·rw[e]at h;cases h
 ·exact⟨e▸h,q,F.locs x (aT h),F.Tn x (e▸aT h)⟩
noncomputable def te(C:Ctx)(Y:Zf)(outer:List Env):Prop:=∀e∈outer,e.scope.kind≠ .module/\∃L o,e.frame=some L/\C.B.get? L=none/\Y L=some o/\Fh o
theorem te.mono{C:Ctx}{Y Y':Zf}{outer:List Env}(k:fR Y Y')(x:te C Y outer):te C Y' outer:=
 λe he=>let⟨a,L,o,b,c,d,n⟩:=x e he;⟨a,L,o,b,c,k _ _ d,n⟩
theorem te.frames{C:Ctx}{Y:Zf}{h:Heap}(k:K0 Y h):∀{outer:List Env},te C Y outer->h.FunFrames C.B outer
 |[],_=>trivial
 |e::r,x=>let⟨a,L,o,b,c,d,n⟩:=x e (.head _);⟨a,⟨L,o,b,c,k _ _ d,n⟩,te.frames k λe' he=>x e' (.tail _ he)⟩
noncomputable def lM(o:Obj):Prop:=o.cls=.type "tuple"\/o.cls=.type "dict"\/o.cls=.type "range"
structure Ok(C:Ctx)(fr:Fm)(Y Z:Zf)(ρ:b4)(σ:St)(s:Shared):Prop where
 base:C.B.StaysIn s.heap
 keep:K0 Y s.heap
 vals:K0 Z s.heap
 yl:Y fr.L=none
 zl:Z fr.L=none
 bl:C.B.get? fr.L=none
 loc:∃m,s.heap.Ns fr.L m/\mx Z fr.names ρ m
 ju:∀a c,σ a=some c->∃o,s.heap.get? a=some o/\mv C Z c o
 own:∀a c,σ a=some c->C.B.get? a=none/\Y a=none/\Z a=none/\a≠fr.L
 bq:te C Y fr.outer
 rest:s.gens=C.gens/\s.os=C.os
 zn:∀b o,Z b=some o->lM o/\C.B.get? b=none
 fz:∀e∈fr.outer,∀L,e.frame=some L->Z L=none
section
variable{C:Ctx}{fr:Fm}{Y Z:Zf}{ρ:b4}{σ:St}{s:Shared}{h':Heap}{t':Nat}
theorem Ok.keeps(ok:Ok C fr Y Z ρ σ s)(k:∀b o,s.heap.get? b=some o->h'.get? b=some o):Ok C fr Y Z ρ σ {s with heap:=h',toks:=t'}:=by
 obtain⟨m,hn,hl⟩:=ok.loc
 exact⟨λb o e=>k b o (ok.base b o e),λb o e=>k b o (ok.keep b o e),λb o e=>k b o (ok.vals b o e),ok.yl,ok.zl,ok.bl,⟨m,hn.keeps k,hl⟩,
  λa c e=>let⟨o,ho,r⟩:=ok.ju a c e;⟨o,k _ _ ho,r⟩,ok.own,ok.bq,ok.rest,ok.zn,ok.fz⟩
theorem Ok.toks(ok:Ok C fr Y Z ρ σ s):Ok C fr Y Z ρ σ {s with toks:=t'}:=ok.keeps (h':=s.heap) λ_ _ e=>e
theorem Ok.push(ok:Ok C fr Y Z ρ σ s)(o:Obj):Ok C fr Y Z ρ σ {s with heap:=s.heap.push o,toks:=t'}:=ok.keeps λ_ _ e=>aH _ e
theorem Ok.none_of(ok:Ok C fr Y Z ρ σ s){a:Addr}(ha:s.heap.get? a=none):C.B.get? a=none/\Y a=none/\Z a=none/\a≠fr.L/\σ a=none:=by
 refine⟨?_,?_,?_,?_,?_⟩
 ·cases q:C.B.get? a with
  |none=>rfl
  |some o=>rw[ok.base a o q]at ha;cases ha
 ·cases q:Y a with
  |none=>rfl
  |some o=>rw[ok.keep a o q]at ha;cases ha
 ·cases q:Z a with
  |none=>rfl
  |some o=>rw[ok.vals a o q]at ha;cases ha
 ·rintro rfl
  obtain⟨m,⟨o,_,_,ho,_⟩,_⟩:=ok.loc
  rw[ho]at ha;cases ha
 ·cases q:σ a with
  |none=>rfl
  |some c=>obtain⟨o,ho,_⟩:=ok.ju a c q;rw[ho]at ha;cases ha
theorem Ok.Tj(ok:Ok C fr Y Z ρ σ s){a:Addr}{o:Obj}(ho:s.heap.get? a=some o)(hL:a≠fr.L)(CD:σ a=none)(hz:Z a=none)(hc:lM o)(hb:C.B.get? a=none)(hf:∀e∈fr.outer,e.frame≠some a):Ok C fr Y (Z.put a o) ρ σ s:=by
 have le:=Zf.yN o hz
 obtain⟨m,hn,hl⟩:=ok.loc
 refine⟨ok.base,ok.keep,λb x e=> ?_,ok.yl,?_,ok.bl,⟨m,hn,hl.mono le⟩,λb c e=> ?_,λb c e=> ?_,ok.bq,ok.rest,λb x e=> ?_,λe he L' hq=> ?_⟩
 ·unfold Zf.put at e;split at e
  ·rename_i q;subst q;cases e;exact ho
  ·exact ok.vals b x e
 ·unfold Zf.put;rw[if_neg (Ne.symm hL)];exact ok.zl
 ·obtain⟨x,hx,r⟩:=ok.ju b c e;exact⟨x,hx,r.mono le⟩
 ·obtain⟨n1,n2,n3,n4⟩:=ok.own b c e
  refine⟨n1,n2,?_,n4⟩
  unfold Zf.put;rw[if_neg (λq=>by subst q;rw[CD]at e;cases e)];exact n3
 ·unfold Zf.put at e;split at e
  ·rename_i q;subst q;cases e;exact⟨hc,hb⟩
  ·exact ok.zn b x e
 ·have ne:L'≠a:=by intro q;rw[q]at hq;exact hf e he hq
  unfold Zf.put;rw[if_neg ne];exact ok.fz e he L' hq
theorem Ok.KP(ok:Ok C fr Y Z ρ σ s){a:Addr}{o:Obj}(ha:s.heap.get? a=none)(k:∀b x,s.heap.get? b=some x->h'.get? b=some x)(ho:h'.get? a=some o)(hc:lM o):
 Ok C fr Y (Z.put a o) ρ σ {s with heap:=h',toks:=t'}/\fR Z (Z.put a o):=by
 obtain⟨n1,_,n3,n4,n5⟩:=ok.none_of ha
 exact⟨(ok.keeps k).Tj ho n4 n5 n3 hc n1 (λe he hL=>by
  obtain⟨_,L,o',Iw,_,hy,_⟩:=ok.bq e he
  rw[hL]at Iw;cases Iw
  rw[ok.keep _ _ hy]at ha;cases ha),Zf.yN o n3⟩
theorem Ok.alloc(ok:Ok C fr Y Z ρ σ s){a:Addr}{c:dn}{o:Obj}(ha:s.heap.get? a=none)(k:∀b x,s.heap.get? b=some x->h'.get? b=some x)(ho:h'.get? a=some o)(hc:mv C Z c o):
 Ok C fr Y Z ρ (σ.upd a c) {s with heap:=h',toks:=t'}:=by
 obtain⟨n1,n2,n3,n4,n5⟩:=ok.none_of ha
 have o2:=ok.keeps (t':=t') k
 refine⟨o2.base,o2.keep,o2.vals,o2.yl,o2.zl,o2.bl,o2.loc,λb d e=> ?_,λb d e=> ?_,o2.bq,o2.rest,o2.zn,o2.fz⟩
 ·by_cases q:b=a
  ·subst q;rw[St.bE]at e;cases e;exact⟨o,ho,hc⟩
  ·rw[St.bA _ _ q]at e;exact o2.ju b d e
 ·by_cases q:b=a
  ·subst q;exact⟨n1,n2,n3,n4⟩
  ·rw[St.bA _ _ q]at e;exact ok.own b d e
theorem Ok.turn(ok:Ok C fr Y Z ρ σ s){a:Addr}{c c':dn}{o':Obj}(ha:σ a=some c)(hs:Heap.SameBut a s.heap h')(pQ:h'.get? a=some o')(hc:mv C Z c' o'):
 Ok C fr Y Z ρ (σ.upd a c') {s with heap:=h',toks:=t'}:=by
 obtain⟨n1,n2,n3,n4⟩:=ok.own a c ha
 obtain⟨m,hn,hl⟩:=ok.loc
 refine⟨λb x e=> ?_,λb x e=> ?_,λb x e=> ?_,ok.yl,ok.zl,ok.bl,⟨m,hn.sameBut hs (Ne.symm n4),hl⟩,λb d e=> ?_,λb d e=> ?_,ok.bq,ok.rest,ok.zn,ok.fz⟩
 ·show h'.get? b=some x
  rw[hs.2 b (λq=>by subst q;rw[n1]at e;cases e)];exact ok.base b x e
 ·show h'.get? b=some x
  rw[hs.2 b (λq=>by subst q;rw[n2]at e;cases e)];exact ok.keep b x e
 ·show h'.get? b=some x
  rw[hs.2 b (λq=>by subst q;rw[n3]at e;cases e)];exact ok.vals b x e
 ·by_cases q:b=a
  ·subst q;rw[St.bE]at e;cases e;exact⟨o',pQ,hc⟩
  ·rw[St.bA _ _ q]at e;obtain⟨x,hx,r⟩:=ok.ju b d e;exact⟨x,(hs.2 b q).trans hx,r⟩
 ·by_cases q:b=a
  ·subst q;exact⟨n1,n2,n3,n4⟩
  ·rw[St.bA _ _ q]at e;exact ok.own b d e
theorem Ok.freeze(ok:Ok C fr Y Z ρ σ s){a:Addr}{c:dn}{o:Obj}(ha:σ a=some c)(ho:s.heap.get? a=some o)(hc:lM o):
 Ok C fr Y (Z.put a o) ρ (σ.del a) s/\fR Z (Z.put a o):=by
 obtain⟨n1,n2,n3,n4⟩:=ok.own a c ha
 have o2:Ok C fr Y Z ρ (σ.del a) s:=⟨ok.base,ok.keep,ok.vals,ok.yl,ok.zl,ok.bl,ok.loc,λb d e=>ok.ju b d (St.mq e).2,λb d e=>ok.own b d (St.mq e).2,ok.bq,ok.rest,ok.zn,ok.fz⟩
 exact⟨o2.Tj ho n4 (by simp[St.del]) n3 hc n1 (λe he hL=>by
  obtain⟨_,L,o',Iw,_,hy,_⟩:=ok.bq e he
  rw[hL]at Iw;cases Iw
  rw[n2]at hy;cases hy),Zf.yN o n3⟩
theorem cw{α:Type}{l:List α}{i j:Nat}{a b:α}(h:(l.set i a)[j]?=some b):(i=j/\b=a)\/(i≠j/\l[j]?=some b):=by
 rw[List.getElem?_set]at h
 split at h
 ·rename_i e;split at h
  ·cases h;exact .inl ⟨e,rfl⟩
  ·cases h
 ·rename_i e;exact .inr ⟨e,h⟩
theorem yU{h:Heap}{L:Addr}{m:Str->Option Value}(hn:h.Ns L m):∃o,h.get? L=some o/\Fh o:=by
 obtain⟨o,es,ep,ho,hd,_⟩:=hn
 exact⟨o,ho,λvs e=>by rw[hd]at e;cases e⟩
theorem Ok.bind(F:aG C fr)(ok:Ok C fr Y Z ρ σ s){i:Nat}{x:Str}{pv:PV}{v:Value}{m:Str->Option Value}(hl:mx Z fr.names ρ m)(hx:fr.names[i]?=some x)(r:gj Z pv v)
 (Ix:h'.Ns fr.L (λy=>if y=x then some v else m y)) (hs:Heap.SameBut fr.L s.heap h'):
 Ok C fr Y Z (ρ.set i (some pv)) σ {s with heap:=h',toks:=t'}:=by
 refine⟨λb o e=> ?_,λb o e=> ?_,λb o e=> ?_,ok.yl,ok.zl,ok.bl,⟨_,Ix,λj y pw a b=> ?_⟩,λb d e=> ?_,ok.own,ok.bq,ok.rest,ok.zn,ok.fz⟩
 ·show h'.get? b=some o
  rw[hs.2 b (λq=>by subst q;rw[ok.bl]at e;cases e)];exact ok.base b o e
 ·show h'.get? b=some o
  rw[hs.2 b (λq=>by subst q;rw[ok.yl]at e;cases e)];exact ok.keep b o e
 ·show h'.get? b=some o
  rw[hs.2 b (λq=>by subst q;rw[ok.zl]at e;cases e)];exact ok.vals b o e
 ·rcases cw b with⟨rfl,e⟩|⟨ne,e⟩
  ·rw[hx]at a;cases a;cases e
   exact⟨v,by rw[if_pos rfl],r⟩
  ·obtain⟨w,hw,q⟩:=hl j y pw a e
   have:y≠x:=by
    rintro rfl
    exact ne ((List.getElem?_inj (an.mp hx).1 F.nodup).mp (hx.trans a.symm))
   exact⟨w,by rw[if_neg this];exact hw,q⟩
 ·obtain⟨o,ho,q⟩:=ok.ju b d e
  exact⟨o,(hs.2 b (ok.own b d e).2.2.2).trans ho,q⟩
theorem Ok.frames(F:aG C fr)(ok:Ok C fr Y Z ρ σ s):s.heap.FunFrames C.B fr.wY:=by
 obtain⟨m,hn,_⟩:=ok.loc
 obtain⟨o,ho,hf⟩:=yU hn
 obtain⟨e,q,k,hL⟩:=F.top
 rw[q]
 exact⟨k,⟨fr.L,o,hL,ok.bl,ho,hf⟩,ok.bq.frames ok.keep⟩
theorem Ok.H5{Y':Zf}(ok:Ok C fr Y' Z ρ σ s)(k:fR Y Y')(f:te C Y fr.outer):Ok C fr Y Z ρ σ s:=by
 refine⟨ok.base,λb o e=>ok.keep b o (k _ _ e),ok.vals,?_,ok.zl,ok.bl,ok.loc,ok.ju,λa c e=> ?_,f,ok.rest,ok.zn,ok.fz⟩
 ·cases q:Y fr.L with
  |none=>rfl
  |some o=>have:=k _ _ q;rw[ok.yl]at this;cases this
 ·obtain⟨n1,n2,n3,n4⟩:=ok.own a c e
  refine⟨n1,?_,n3,n4⟩
  cases q:Y a with
  |none=>rfl
  |some o=>have:=k _ _ q;rw[n2]at this;cases this
theorem Ok.but(ok:Ok C fr Y Z ρ σ s){wr:List Addr}(k:∀b o,b∉wr->s.heap.get? b=some o->h'.get? b=some o)(hw:∀b∈wr,C.B.get? b=none/\Y b=none/\Z b=none/\b≠fr.L/\σ b=none):
 Ok C fr Y Z ρ σ {s with heap:=h',toks:=t'}:=by
 obtain⟨m,hn,hl⟩:=ok.loc
 have nB:∀b o,C.B.get? b=some o->b∉wr:=λb o e hb=>by rw[(hw b hb).1]at e;cases e
 have nY:∀b o,Y b=some o->b∉wr:=λb o e hb=>by rw[(hw b hb).2.1]at e;cases e
 have nZ:∀b o,Z b=some o->b∉wr:=λb o e hb=>by rw[(hw b hb).2.2.1]at e;cases e
 have nL:fr.L∉wr:=λhb=>(hw _ hb).2.2.2.1 rfl
 refine⟨λb o e=>k b o (nB b o e) (ok.base b o e),λb o e=>k b o (nY b o e) (ok.keep b o e),λb o e=>k b o (nZ b o e) (ok.vals b o e),ok.yl,ok.zl,ok.bl,
  ⟨m,hn.at' λo e=>k _ o nL e,hl⟩,λa c e=> ?_,ok.own,ok.bq,ok.rest,ok.zn,ok.fz⟩
 obtain⟨o,ho,r⟩:=ok.ju a c e
 exact⟨o,k a o (λhb=>by rw[(hw a hb).2.2.2.2]at e;cases e) ho,r⟩
end
noncomputable def Fj(C:Ctx)(fr:Fm)(x:Addr)(h:Heap):Prop:=
 (∃oe vs a0,h.get? x=some oe/\oe.cls=.ref C.lf/\oe.data=.fields vs/\vs[1]?=some .none/\vs[0]?=some a0)\/
 (∃a0,h.TracedAtW C.B x (.ref C.lf) a0 .none)\/∃a0,h.TracedAtW C.B x (.ref C.lf) a0 (rawInt fr.L)
structure t9(C:Ctx)(fr:Fm)(Y:Zf)(ρ:b4)(e:Value)(s:Shared)(x:Addr):Prop where
 is:e=.ref x
 base:C.B.StaysIn s.heap
 new:C.B.get? x=none
 bq:s.heap.FunFrames C.B fr.wY
 st:Fj C fr x s.heap
 DU:∀b o,Y b=some o->Fh o->∃sl,s.heap.get? b=some {o with slots:=sl}
 loc:∃m Z',s.heap.Ns fr.L m/\mx Z' fr.names ρ m
 rest:s.gens=C.gens/\s.os=C.os
inductive iJ(C:Ctx)(fr:Fm)(Y Z:Zf)(ρ:b4)(Q:PV->St->Prop)(v:Value)(s':Shared):Prop
 |mk (pv:PV) (σ':St) (Z':Zf) (k:fR Z Z') (ok:Ok C fr Y Z' ρ σ' s') (r:gj Z' pv v) (q:Q pv σ'):iJ C fr Y Z ρ Q v s'
noncomputable def gb(C:Ctx)(fr:Fm)(Y:Zf)(ρ:b4)(X:Prop):Value->Shared->Prop:=λe s'=>X/\∃x,t9 C fr Y ρ e s' x
inductive qX(C:Ctx)(fr:Fm)(Y Z:Zf)(ρ:b4)(Q:Bool->St->Prop)(b:Bool)(s':Shared):Prop
 |mk (σ':St) (Z':Zf) (k:fR Z Z') (ok:Ok C fr Y Z' ρ σ' s') (q:Q b σ'):qX C fr Y Z ρ Q b s'
inductive yV(C:Ctx)(fr:Fm)(Y Z:Zf)(ρ:b4)(Q:List PV->St->Prop)(vs:List Value)(s':Shared):Prop
 |mk (Yz:List PV) (σ':St) (Z':Zf) (k:fR Z Z') (ok:Ok C fr Y Z' ρ σ' s') (r:cJ Z' Yz vs) (q:Q Yz σ'):yV C fr Y Z ρ Q vs s'
inductive m8(C:Ctx)(fr:Fm)(Y Z:Zf)(N:b4->St->Prop)(s':Shared):Prop
 |mk (cj:b4) (σ':St) (Z':Zf) (k:fR Z Z') (ok:Ok C fr Y Z' cj σ' s') (q:N cj σ'):m8 C fr Y Z N s'
inductive wZ(C:Ctx)(fr:Fm)(Y Z:Zf)(R:PV->St->Prop)(v:Value)(s':Shared):Prop
 |mk (pv:PV) (cj:b4) (σ':St) (Z':Zf) (k:fR Z Z') (ok:Ok C fr Y Z' cj σ' s') (r:gj Z' pv v) (q:R pv σ'):wZ C fr Y Z R v s'
noncomputable def w4(C:Ctx)(fr:Fm)(Y Z:Zf)(N:b4->St->Prop)(R:PV->St->Prop)(J:Bool->b4->St->Prop):Flow->Shared->Prop:=λfl s'=>match fl with
 |.next=>m8 C fr Y Z N s'
 |.brk=>m8 C fr Y Z (J true) s'
 |.cont=>m8 C fr Y Z (J false) s'
 |.ret v=>wZ C fr Y Z R v s'
noncomputable def kc(C:Ctx)(fr:Fm)(Y:Zf)(X:b4->Prop):Value->Shared->Prop:=λe s'=>∃cj,X cj/\∃x,t9 C fr Y cj e s' x
noncomputable def yW(C:Ctx)(fr:Fm)(Y Z:Zf)(N:b4->St->Prop):Unit->Shared->Prop:=λ_ s'=>m8 C fr Y Z N s'
noncomputable def TV(C:Ctx)(fr:Fm)(t:Sem Value)(ρ:b4)(σ:St)(Q:PV->St->Prop)(X:Prop):Prop:=
 ∀Y Z s,Ok C fr Y Z ρ σ s->wpAny C.M fr.A t (iJ C fr Y Z ρ Q) (gb C fr Y ρ X) s
noncomputable def WE(C:Ctx)(fr:Fm)(e:Expr)(ρ:b4)(σ:St)(Q:PV->St->Prop)(X:Prop):Prop:=TV C fr (eval e fr.env) ρ σ Q X
noncomputable def TB(C:Ctx)(fr:Fm)(t:Sem Bool)(ρ:b4)(σ:St)(Q:Bool->St->Prop)(X:Prop):Prop:=
 ∀Y Z s,Ok C fr Y Z ρ σ s->wpAny C.M fr.A t (qX C fr Y Z ρ Q) (gb C fr Y ρ X) s
noncomputable def WT(C:Ctx)(fr:Fm)(e:Expr)(ρ:b4)(σ:St)(Q:Bool->St->Prop)(X:Prop):Prop:=TB C fr (isTrue e fr.env (eval e fr.env)) ρ σ Q X
noncomputable def WL(C:Ctx)(fr:Fm)(pos:Pos)(es:List Expr)(ρ:b4)(σ:St)(Q:List PV->St->Prop)(X:Prop):Prop:=
 ∀Y Z s,Ok C fr Y Z ρ σ s->wpAny C.M fr.A (spliced (backTo pos (starEach es fr.env))) (yV C fr Y Z ρ Q) (gb C fr Y ρ X) s
noncomputable def TF(C:Ctx)(fr:Fm)(t:Sem Flow)(ρ:b4)(σ:St)(N:b4->St->Prop)(R:PV->St->Prop)(J:Bool->b4->St->Prop)(X:b4->Prop):Prop:=
 ∀Y Z s,Ok C fr Y Z ρ σ s->wpAny C.M fr.A t (w4 C fr Y Z N R J) (kc C fr Y X) s
noncomputable def WS(C:Ctx)(fr:Fm)(st:Stmt)(ρ:b4)(σ:St)(N:b4->St->Prop)(R:PV->St->Prop)(J:Bool->b4->St->Prop)(X:b4->Prop):Prop:=
 TF C fr (exec st fr.env) ρ σ N R J X
noncomputable def hZ(C:Ctx)(fr:Fm)(m9:List Stmt)(ρ:b4)(σ:St)(N:b4->St->Prop)(R:PV->St->Prop)(J:Bool->b4->St->Prop)(X:b4->Prop):Prop:=
 TF C fr (execs m9 fr.env) ρ σ N R J X
noncomputable def W1(C:Ctx)(fr:Fm)(t:Value->Sem Value)(a:PV)(ρ:b4)(σ:St)(Q:PV->St->Prop)(X:Prop):Prop:=
 ∀Y Z s va,Ok C fr Y Z ρ σ s->gj Z a va->wpAny C.M fr.A (t va) (iJ C fr Y Z ρ Q) (gb C fr Y ρ X) s
noncomputable def W2(C:Ctx)(fr:Fm)(t:Value->Value->Sem Value)(a b:PV)(ρ:b4)(σ:St)(Q:PV->St->Prop)(X:Prop):Prop:=
 ∀Y Z s va vb,Ok C fr Y Z ρ σ s->gj Z a va->gj Z b vb->wpAny C.M fr.A (t va vb) (iJ C fr Y Z ρ Q) (gb C fr Y ρ X) s
noncomputable def WN(C:Ctx)(fr:Fm)(t:List Value->Sem Value)(as:List PV)(ρ:b4)(σ:St)(Q:PV->St->Prop)(X:Prop):Prop:=
 ∀Y Z s vs,Ok C fr Y Z ρ σ s->cJ Z as vs->wpAny C.M fr.A (t vs) (iJ C fr Y Z ρ Q) (gb C fr Y ρ X) s
noncomputable def T6(C:Ctx)(fr:Fm)(t:Value->Sem Unit)(a:PV)(ρ:b4)(σ:St)(N:b4->St->Prop)(X:b4->Prop):Prop:=
 ∀Y Z s va,Ok C fr Y Z ρ σ s->gj Z a va->wpAny C.M fr.A (t va) (yW C fr Y Z N) (kc C fr Y X) s
noncomputable def Mk(C:Ctx)(fr:Fm)(t:Value->Value->Value->Sem Unit)(a b c:PV)(ρ:b4)(σ:St)(N:b4->St->Prop)(X:b4->Prop):Prop:=
 ∀Y Z s va vb vc,Ok C fr Y Z ρ σ s->gj Z a va->gj Z b vb->gj Z c vc->wpAny C.M fr.A (t va vb vc) (yW C fr Y Z N) (kc C fr Y X) s
noncomputable def E1(C:Ctx)(fr:Fm)(t:Value->Sem Bool)(a:PV)(ρ:b4)(σ:St)(Q:Bool->St->Prop)(X:Prop):Prop:=
 ∀Y Z s va,Ok C fr Y Z ρ σ s->gj Z a va->wpAny C.M fr.A (t va) (qX C fr Y Z ρ Q) (gb C fr Y ρ X) s
section
variable{C:Ctx}{fr:Fm}{Y Z Z':Zf}{ρ:b4}{X:Prop}
theorem iJ.le{Q:PV->St->Prop}(k:fR Z Z'){v:Value}{s':Shared}(x:iJ C fr Y Z' ρ Q v s'):iJ C fr Y Z ρ Q v s':=by obtain⟨a,b,c,d,e,f,g⟩:=x;exact⟨a,b,c,k.trans d,e,f,g⟩
theorem qX.le{Q:Bool->St->Prop}(k:fR Z Z'){v:Bool}{s':Shared}(x:qX C fr Y Z' ρ Q v s'):qX C fr Y Z ρ Q v s':=by obtain⟨b,c,d,e,f⟩:=x;exact⟨b,c,k.trans d,e,f⟩
theorem m8.le{N:b4->St->Prop}(k:fR Z Z'){s':Shared}(x:m8 C fr Y Z' N s'):m8 C fr Y Z N s':=by obtain⟨a,b,c,d,e,f⟩:=x;exact⟨a,b,c,k.trans d,e,f⟩
theorem wZ.le{R:PV->St->Prop}(k:fR Z Z'){v:Value}{s':Shared}(x:wZ C fr Y Z' R v s'):wZ C fr Y Z R v s':=by obtain⟨p,a,b,c,d,e,f,g⟩:=x;exact⟨p,a,b,c,k.trans d,e,f,g⟩
theorem w4.le{N:b4->St->Prop}{R:PV->St->Prop}{J:Bool->b4->St->Prop}(k:fR Z Z'){v:Flow}{s':Shared}(x:w4 C fr Y Z' N R J v s'):w4 C fr Y Z N R J v s':=by
 cases v with
 |next=>exact m8.le k x
 |brk=>exact m8.le k x
 |cont=>exact m8.le k x
 |ret v=>exact wZ.le k x
theorem gb.H6{X:b4->Prop}{e:Value}{s':Shared}(x:gb C fr Y ρ (X ρ) e s'):kc C fr Y X e s':=⟨ρ,x.1,x.2⟩
theorem gb.weaken{X X':Prop}(h:X->X'){e:Value}{s:Shared}(x:gb C fr Y ρ X e s):gb C fr Y ρ X' e s:=⟨h x.1,x.2⟩
section
variable{α:Type}{A:Around}{s:Shared}{E:Value->Shared->Prop}{σ:St}
theorem wP{t:Sem α}{P P':α->Shared->Prop}(h:wpAny C.M A t P E s)(f:∀v s,P v s->P' v s):wpAny C.M A t P' E s:=wpAny_mono h f λ_ _ x=>x
theorem wV{t:Sem Value}{Q:PV->St->Prop}{P:Value->Shared->Prop}(h:wpAny C.M A t (iJ C fr Y Z ρ Q) E s)(f:∀v s' pv σ' Z',fR Z Z'->Ok C fr Y Z' ρ σ' s'->gj Z' pv v->Q pv σ'->P v s'):wpAny C.M A t P E s:=
 wP h λv s' x=>x.casesOn (f v s')
theorem wB{t:Sem Bool}{Q:Bool->St->Prop}{P:Bool->Shared->Prop}(h:wpAny C.M A t (qX C fr Y Z ρ Q) E s)(f:∀v s' σ' Z',fR Z Z'->Ok C fr Y Z' ρ σ' s'->Q v σ'->P v s'):wpAny C.M A t P E s:=
 wP h λv s' x=>x.casesOn (f v s')
theorem wL{t:Sem (List Value)}{Q:List PV->St->Prop}{P:List Value->Shared->Prop}(h:wpAny C.M A t (yV C fr Y Z ρ Q) E s)(f:∀v s' pv σ' Z',fR Z Z'->Ok C fr Y Z' ρ σ' s'->cJ Z' pv v->Q pv σ'->P v s'):wpAny C.M A t P E s:=
 wP h λv s' x=>x.casesOn (f v s')
theorem wU{t:Sem Unit}{N:b4->St->Prop}{P:Unit->Shared->Prop}(h:wpAny C.M A t (yW C fr Y Z N) E s)(f:∀v s' cj σ' Z',fR Z Z'->Ok C fr Y Z' cj σ' s'->N cj σ'->P v s'):wpAny C.M A t P E s:=
 wP h λv s' x=>m8.casesOn x (f v s')
variable{X:b4->Prop}
theorem wX{t:Sem α}{P:α->Shared->Prop}(h:wpAny C.M A t P (gb C fr Y ρ (X ρ)) s):wpAny C.M A t P (kc C fr Y X) s:=wpAny_mono h (λ_ _ x=>x) λ_ _ x=>x.H6
theorem yX{t:Sem Value}{Q:PV->St->Prop}{P:Value->Shared->Prop}(h:wpAny C.M A t (iJ C fr Y Z ρ Q) (gb C fr Y ρ (X ρ)) s)(f:∀v s' pv σ' Z',fR Z Z'->Ok C fr Y Z' ρ σ' s'->gj Z' pv v->Q pv σ'->P v s'):wpAny C.M A t P (kc C fr Y X) s:=wV (wX h) f
theorem ZY{t:Sem Bool}{Q:Bool->St->Prop}{P:Bool->Shared->Prop}(h:wpAny C.M A t (qX C fr Y Z ρ Q) (gb C fr Y ρ (X ρ)) s)(f:∀v s' σ' Z',fR Z Z'->Ok C fr Y Z' ρ σ' s'->Q v σ'->P v s'):wpAny C.M A t P (kc C fr Y X) s:=wB (wX h) f
end
theorem CF{α:Type}{t:Sem Value}{k:Value->Sem α}{σ:St}{Q:PV->St->Prop}{P:α->Shared->Prop}{E:Value->Shared->Prop}{s:Shared}(h:TV C fr t ρ σ Q X)(ok:Ok C fr Y Z ρ σ s)
 (hk:∀v s' pv σ' Z',fR Z Z'->Ok C fr Y Z' ρ σ' s'->gj Z' pv v->Q pv σ'->wpAny C.M fr.A (k v) P E s') (hX:∀e s',gb C fr Y ρ X e s'->E e s'):
 wpAny C.M fr.A t (λv s'=>wpAny C.M fr.A (k v) P E s') E s:=
 wpAny_mono (h Y Z s ok) (λv s' x=>x.casesOn (hk v s')) hX
end
theorem gU.Oi{kvs:List (Int×Int)}{o:Obj}(x:gU kvs o):lM o:=x.casesOn λ_ _ a _ _ _ _=> .inr (.inl a.1)
theorem eM.Oi{Z:Zf}{kvs:List (List Int×Int)}{o:Obj}(x:eM Z kvs o):lM o:=x.casesOn λ_ _ a _ _ _ _=> .inr (.inl a.1)
structure dh(C:Ctx):Prop where
 hU:C.B.Ns mainGlobals C.mg
 T7:C.B.Ns builtinsNs C.mb
 O0:C.B.NoLimit
 Iy:∃o,C.B.get? sysModules=some o
theorem ct{Z:Zf}(i:Int)(t:Tok):gj Z (.int i) (.int i t):=⟨t,rfl⟩
theorem ft{Z:Zf}(x:Str)(t:Tok):gj Z (.str x) (.str x t):=⟨t,rfl⟩
theorem cA{Z:Zf}(b:Bool):gj Z (.bool b) (.bool b):=rfl
theorem uG{Z:Zf}:gj Z .none .none:=rfl
theorem im{Z:Zf}(a:Addr):gj Z (.loc a) (.ref a):=rfl
theorem CG{Z:Zf}(v:Value):gj Z (.val v) v:=rfl
theorem aK{Z:Zf}{i:Int}{v:Value}(r:gj Z (.int i) v):∃t,v=.int i t:=r
theorem bh{Z:Zf}{x:Str}{v:Value}(r:gj Z (.str x) v):∃t,v=.str x t:=r
theorem kZ{Z:Zf}{b:Bool}{v:Value}(r:gj Z (.bool b) v):v=.bool b:=r
theorem tf{Z:Zf}{v:Value}(r:gj Z .none v):v=.none:=r
theorem bu{Z:Zf}{a:Addr}{v:Value}(r:gj Z (.loc a) v):v=.ref a:=r
theorem jc{Z:Zf}{x v:Value}(r:gj Z (.val x) v):v=x:=r
theorem fh{Z:Zf}{xs:List PV}{v:Value}(r:gj Z (.tup xs) v):∃a vs,v=.ref a/\uE Z a vs/\cJ Z xs vs:=r
theorem A3{Z:Zf}{x y z:Int}{v:Value}(r:gj Z (.xP x y z) v):∃a t u q,v=.ref a/\Z a=some {cls:= .type "range",dict:=none,data:= .fields #[.int x t,.int y u,.int z q],slots:=#[]}:=r
theorem iz{Z:Zf}{kvs:List (Int×Int)}{v:Value}(r:gj Z (.tabI kvs) v):∃a o,v=.ref a/\Z a=some o/\gU kvs o:=r
theorem iA{Z:Zf}{kvs:List (List Int×Int)}{v:Value}(r:gj Z (.eg kvs) v):∃a o,v=.ref a/\Z a=some o/\eM Z kvs o:=r
section
variable{C:Ctx}{fr:Fm}{ρ:b4}{σ:St}{Q:PV->St->Prop}{X:Prop}{Y Z:Zf}{s:Shared}
theorem TV.mono{t:Sem Value}{Q':PV->St->Prop}{X':Prop}(h:TV C fr t ρ σ Q X)(hQ:∀v σ',Q v σ'->Q' v σ')(hX:X->X'):TV C fr t ρ σ Q' X':=
 λY Z s ok=>wpAny_mono (h Y Z s ok) (λ_ _ ⟨pv,σ',Z',a,b,c,d⟩=>⟨pv,σ',Z',a,b,c,hQ _ _ d⟩) λ_ _ x=>x.weaken hX
theorem bM(ok:Ok C fr Y Z ρ σ s){pv:PV}{v:Value}(r:gj Z pv v)(h:Q pv σ):iJ C fr Y Z ρ Q v s:=⟨pv,σ,Z,fR.refl _,ok,r,h⟩
theorem Fl{Q:Bool->St->Prop}(ok:Ok C fr Y Z ρ σ s){b:Bool}(h:Q b σ):qX C fr Y Z ρ Q b s:=⟨σ,Z,fR.refl _,ok,h⟩
theorem c9{i:Int}{k:Nat}{p:Pos}(h:Q (.int i) σ):WE C fr (.Constant (.int i) k p) ρ σ Q X:=λY Z s ok=>wpAny_Constant_int (bM ok.toks (ct _ _) h)
theorem xQ{x:Str}{k:Nat}{p:Pos}(h:Q (.str x) σ):WE C fr (.Constant (.str x) k p) ρ σ Q X:=λY Z s ok=>Calls.Constant_str (bM ok.toks (ft _ _) h)
theorem Iz{b:Bool}{k:Nat}{p:Pos}(h:Q (.bool b) σ):WE C fr (.Constant (.bool b) k p) ρ σ Q X:=λY Z s ok _ _ _=>bM ok (cA _) h
theorem IA{k:Nat}{p:Pos}(h:Q .none σ):WE C fr (.Constant .none k p) ρ σ Q X:=λY Z s ok _ _ _=>bM ok uG h
theorem aG.load{A:Around}{E:Value->Shared->Prop}(F:aG C fr){x:Str}{i:Nat}{s:Shared}{m:Str->Option Value}{w:Value}{P:Value->Shared->Prop}(hx:fr.vn[i]?=some x)(hn:s.heap.Ns fr.L m)(hw:m x=some w)(h:P w s):
 wpAny C.M A (loadName fr.env x) P E s:=wpAny_loadName_local F.kind (F.A1 hx).2.2.1 (by rw[show fr.env.locals=fr.L from(F.A1 hx).2.1];exact hn) hw h
theorem aG.store{A:Around}{E:Value->Shared->Prop}(F:aG C fr){x:Str}{i:Nat}{s:Shared}{m:Str->Option Value}{w:Value}{P:Unit->Shared->Prop}(hx:fr.vn[i]?=some x)(hn:s.heap.Ns fr.L m)
 (h:∀h',h'.Ns fr.L (λy=>if y=x then some w else m y)->Heap.SameBut fr.L s.heap h'->P () {s with heap:=h',toks:=s.toks+1}):wpAny C.M A (storeName fr.env x w) P E s:=by
 have e:fr.env.locals=fr.L:=(F.A1 hx).2.1
 exact wpAny_storeName_local (F.A1 hx).2.2.1 (by rw[e];exact hn) (λh' k1 k2=>h h' (e▸k1) (e▸k2)) (by show(fr.scope.kind== .class||(fr.scope.kind== .module&&_))=false;rw[F.kind];rfl)
theorem aZ(F:aG C fr){x:Str}{p:Pos}{v:PV}(i:Nat)(hx:fr.vn[i]?=some x)(hv:ρ[i]?=some (some v))(h:Q v σ):WE C fr (.Name x p) ρ σ Q X:=by
 intro Y Z s ok
 obtain⟨m,hn,hl⟩:=ok.loc
 obtain⟨w,hw,r⟩:=hl i x v (F.A1 hx).1 hv
 exact wpAny_Name (F.load hx hn hw (bM ok r h)) (F.A1 hx).2.2.2
theorem DV(F:aG C fr){x:Str}{p:Pos}{a:Addr}{kvs:List (Int×Int)}(i:Nat)(hx:fr.vn[i]?=some x)(hv:ρ[i]?=some (some (.loc a)))(hc:σ a=some (.m7 kvs))(h:Q (.tabI kvs) (σ.del a)):WE C fr (.Name x p) ρ σ Q X:=by
 intro Y Z s ok
 obtain⟨m,hn,hl⟩:=ok.loc
 obtain⟨w,hw,r⟩:=hl i x _ (F.A1 hx).1 hv
 obtain⟨o,ho,O1⟩:=ok.ju a _ hc
 obtain⟨fS,le⟩:=ok.freeze hc ho (O1.Oi)
 refine wpAny_Name (F.load hx hn hw ⟨.tabI kvs,_,_,le,fS,?_,h⟩) (F.A1 hx).2.2.2
 exact⟨a,o,bu r,Zf.il _ _ _,O1⟩
theorem DW(F:aG C fr){x:Str}{p:Pos}{a:Addr}{kvs:List (List Int×Int)}(i:Nat)(hx:fr.vn[i]?=some x)(hv:ρ[i]?=some (some (.loc a)))(hc:σ a=some (.hV kvs))(h:Q (.eg kvs) (σ.del a)):WE C fr (.Name x p) ρ σ Q X:=by
 intro Y Z s ok
 obtain⟨m,hn,hl⟩:=ok.loc
 obtain⟨w,hw,r⟩:=hl i x _ (F.A1 hx).1 hv
 obtain⟨o,ho,O1⟩:=ok.ju a _ hc
 obtain⟨fS,le⟩:=ok.freeze hc ho (O1.Oi)
 refine wpAny_Name (F.load hx hn hw ⟨.eg kvs,_,_,le,fS,?_,h⟩) (F.A1 hx).2.2.2
 exact⟨a,o,bu r,Zf.il _ _ _,eM.mono le O1⟩
theorem CH(G:dh C)(F:aG C fr){x:Str}{p:Pos}{v:Value}{pv:PV}(hk:fr.env.kindOf x=some .globalImplicit)(hm:C.mg x=some v)(hr:∀Z,gj Z pv v)(h:Q pv σ)
 (hd:(x==("__debug__":Str))=false:=by decide):WE C fr (.Name x p) ρ σ Q X:=
 λY Z s ok=>Name_function_global F.kind hk (loadGlobal_global (G.hU.keeps ok.base) hm (bM ok (hr _) h)) hd
theorem A4(G:dh C)(F:aG C fr){x:Str}{p:Pos}{v:Value}(hk:fr.env.kindOf x=some .globalImplicit)(hm:C.mg x=none)(hb:C.mb x=some v)(h:Q (.val v) σ)
 (hd:(x==("__debug__":Str))=false:=by decide):WE C fr (.Name x p) ρ σ Q X:=
 λY Z s ok=>Name_function_global F.kind hk (loadGlobal_builtin (G.hU.keeps ok.base) hm (G.T7.keeps ok.base) hb (bM ok (CG _) h)) hd
theorem ke{l r:Expr}{op:Operator}{p:Pos}(h:WE C fr l ρ σ (λa aO=>WE C fr r ρ aO (λb bX=>W2 C fr (binaryOp op) a b ρ bX Q X) X) X):WE C fr (.BinOp l op r p) ρ σ Q X:=
 λY Z s ok=>wpAny_BinOp (wV (h Y Z s ok) λva bG a aO cf b8 bC cE oo=>(wV (oo Y cf bG bC) λvb cW b bX fq cT b3 ia jd=>
  (wP (jd Y fq cW va vb b3 (cE.mono cT) ia) λ_ _ x=>(x.le cT).le b8)))
theorem qu{e:Expr}{op:UnaryOp}{p:Pos}(h:WE C fr e ρ σ (λa aO=>W1 C fr (unaryOp op) a ρ aO Q X) X):WE C fr (.UnaryOp op e p) ρ σ Q X:=
 λY Z s ok=>wpAny_UnaryOp (CF h ok (λva bG a aO cf b8 bC cE oo=>(wP (oo Y cf bG va bC cE) λ_ _ x=>x.le b8)) λ_ _ x=>x)
theorem A5{l r:Expr}{op:CmpOp}{p:Pos}(h:WE C fr l ρ σ (λa aO=>WE C fr r ρ aO (λb bX=>W2 C fr (compareOp op) a b ρ bX Q X) X) X)
 (hm:behindInMarks op r=false:=by ac_rfl):WE C fr (.Compare l [op] [r] p) ρ σ Q X:=
 λY Z s ok=>wpAny_Compare1 (hm:=hm) (wV (h Y Z s ok) λva bG a aO cf b8 bC cE oo=>(wV (oo Y cf bG bC) λvb cW b bX fq cT b3 ia jd=>
  (wP (jd Y fq cW va vb b3 (cE.mono cT) ia) λ_ _ x=>(x.le cT).le b8)))
theorem gw{l r:Expr}{op:CmpOp}{p:Pos}{Q:Bool->St->Prop}(h:WE C fr l ρ σ (λa aO=>WE C fr r ρ aO (λb bX=>W2 C fr (compareOp op) a b ρ bX (λc dJ=>E1 C fr truthy c ρ dJ Q X) X) X) X)
 (hm:behindInMarks op r=false:=by ac_rfl):WT C fr (.Compare l [op] [r] p) ρ σ Q X:=
 λY Z s ok=>wpAny_isTrue_Compare1 (hm:=hm) (wV (h Y Z s ok) λva bG a aO cf b8 bC cE oo=>(wV (oo Y cf bG bC) λvb cW b bX fq cT b3 ia jd=>
  (wV (jd Y fq cW va vb b3 (cE.mono cT) ia) λvc iL c dJ my je du xR qv=>(wP (qv Y my iL vc du xR) λ_ _ x=>((x.le je).le cT).le b8))))
theorem et{b:Bool}{Q:Bool->St->Prop}(h:Q b σ):E1 C fr truthy (.bool b) ρ σ Q X:=λY Z s va ok r=>by
 rw[kZ r];exact wpAny_truthy_bool (Fl ok h)
theorem Ml{e:Expr}{p:Pos}{Q:Bool->St->Prop}(h:WT C fr e ρ σ (λb=>Q (!b)) X):WT C fr (.UnaryOp .Not e p) ρ σ Q X:=
 λY Z s ok=>wpAny_isTrue_Not (wP (h Y Z s ok) λb bG x=>by obtain⟨σ',Z',k,fS,q⟩:=x;exact⟨σ',Z',k,fS,q⟩)
noncomputable def IB(C:Ctx)(fr:Fm)(op:BoolOp)(es:List Expr)(ρ:b4)(σ:St)(Q:Bool->St->Prop)(X:Prop):Prop:=TB C fr (allTrue op es fr.env) ρ σ Q X
theorem DX{op:BoolOp}{es:List Expr}{p:Pos}{Q:Bool->St->Prop}(h:IB C fr op es ρ σ Q X):WT C fr (.BoolOp op es p) ρ σ Q X:=
 λY Z s ok=>wpAny_isTrue_BoolOp (h Y Z s ok)
theorem yY{Q:Bool->St->Prop}(h:Q true σ):IB C fr .And [] ρ σ Q X:=λ_ _ _ ok=>wpAny_allTrue_And_nil (Fl ok h)
theorem A6{Q:Bool->St->Prop}(h:Q false σ):IB C fr .Or [] ρ σ Q X:=λ_ _ _ ok=>wpAny_allTrue_Or_nil (Fl ok h)
theorem CI{e:Expr}{es:List Expr}{Q:Bool->St->Prop}(h:WT C fr e ρ σ (λb aO=>(b=true->IB C fr .And es ρ aO Q X)/\(b=false->Q false aO)) X):IB C fr .And (e::es) ρ σ Q X:=
 λY Z s ok=>wpAny_allTrue_And_cons (wB (h Y Z s ok) λb bG aO cf b8 bC q=>by
  cases b
  ·exact⟨aO,cf,b8,bC,q.2 rfl⟩
  ·exact(wP (q.1 rfl Y cf bG bC) λ_ _ x=>x.le b8))
theorem Fo{e:Expr}{es:List Expr}{Q:Bool->St->Prop}(h:WT C fr e ρ σ (λb aO=>(b=true->Q true aO)/\(b=false->IB C fr .Or es ρ aO Q X)) X):IB C fr .Or (e::es) ρ σ Q X:=
 λY Z s ok=>wpAny_allTrue_Or_cons (wB (h Y Z s ok) λb bG aO cf b8 bC q=>by
  cases b
  ·exact(wP (q.2 rfl Y cf bG bC) λ_ _ x=>x.le b8)
  ·exact⟨aO,cf,b8,bC,q.1 rfl⟩)
theorem Fp{e:Expr}{Q:Bool->St->Prop}(h:WE C fr e ρ σ (λv aO=>E1 C fr truthy v ρ aO Q X) X)
 (he:∀env yZ,isTrue e env yZ=(do let v<-yZ;standAt e.pos;holding [v] (truthy v)):=by with_unfolding_all(intros;rfl)):WT C fr e ρ σ Q X:=
 λY Z s ok=>wpAny_isTrue_value (he:=he _ _) (CF h ok (λv bG a aO cf b8 bC cE q=>(wP (q Y cf bG v bC cE) λ_ _ x=>x.le b8)) λ_ _ x=>x)
theorem Fq{t a b:Expr}{p:Pos}(h:WT C fr t ρ σ (λc aO=>(c=true->WE C fr a ρ aO Q X)/\(c=false->WE C fr b ρ aO Q X)) X):WE C fr (.IfExp t a b p) ρ σ Q X:=
 λY Z s ok=>wpAny_IfExp (wB (h Y Z s ok) λc bG aO cf b8 bC q=>by
  cases c
  ·exact(wP (q.2 rfl Y cf bG bC) λ_ _ x=>x.le b8)
  ·exact(wP (q.1 rfl Y cf bG bC) λ_ _ x=>x.le b8))
noncomputable def Mm(C:Ctx)(fr:Fm)(pos:Pos)(op:BoolOp)(es:List Expr)(ρ:b4)(σ:St)(Q:PV->St->Prop)(X:Prop):Prop:=TV C fr (boolOp pos op (evalEach es fr.env)) ρ σ Q X
theorem DY{op:BoolOp}{es:List Expr}{p:Pos}(h:Mm C fr p op es ρ σ Q X):WE C fr (.BoolOp op es p) ρ σ Q X:=λY Z s ok=>by
 rw[arm_eval_BoolOp];exact h Y Z s ok
theorem IC{op:BoolOp}{e:Expr}{p:Pos}(h:WE C fr e ρ σ Q X):Mm C fr p op [e] ρ σ Q X:=h
theorem CJ{e e':Expr}{es:List Expr}{p:Pos}(h:WE C fr e ρ σ (λv aO=>E1 C fr truthy v ρ aO (λb bX=>(b=true->Mm C fr p .And (e'::es) ρ bX Q X)/\(b=false->Q v bX)) X) X):
 Mm C fr p .And (e::e'::es) ρ σ Q X:=λY Z s ok=>by
 show wpAny _ _ (do
  let v<-eval e fr.env
  standAt p
  let t<-holding [v] (truthy v)
  match BoolOp.And,t with
  |.And,false|.Or,true=>pure v
  |_,_=>boolOp p .And (evalEach (e'::es) fr.env)) _ _ s
 refine wpAny_bind (CF h ok (λv bG a aO cf b8 bC cE q=>wpAny_bind (wpAny_standAt (wpAny_bind (wpAny_holding (wB (q Y cf bG v bC cE) λb cW bX fq cT b3 jd=> ?_))))) λ_ _ x=>x)
 cases b
 ·exact wpAny_pure ⟨a,bX,fq,b8.trans cT,b3,cE.mono cT,jd.2 rfl⟩
 ·exact(wP (jd.1 rfl Y fq cW b3) λ_ _ x=>x.le (b8.trans cT))
theorem Fs{e e':Expr}{es:List Expr}{p:Pos}(h:WE C fr e ρ σ (λv aO=>E1 C fr truthy v ρ aO (λb bX=>(b=true->Q v bX)/\(b=false->Mm C fr p .Or (e'::es) ρ bX Q X)) X) X):
 Mm C fr p .Or (e::e'::es) ρ σ Q X:=λY Z s ok=>by
 show wpAny _ _ (do
  let v<-eval e fr.env
  standAt p
  let t<-holding [v] (truthy v)
  match BoolOp.Or,t with
  |.And,false|.Or,true=>pure v
  |_,_=>boolOp p .Or (evalEach (e'::es) fr.env)) _ _ s
 refine wpAny_bind (CF h ok (λv bG a aO cf b8 bC cE q=>wpAny_bind (wpAny_standAt (wpAny_bind (wpAny_holding (wB (q Y cf bG v bC cE) λb cW bX fq cT b3 jd=> ?_))))) λ_ _ x=>x)
 cases b
 ·exact(wP (jd.2 rfl Y fq cW b3) λ_ _ x=>x.le (b8.trans cT))
 ·exact wpAny_pure ⟨a,bX,fq,b8.trans cT,b3,cE.mono cT,jd.1 rfl⟩
theorem eA{p:Pos}{Q:List PV->St->Prop}(h:Q [] σ):WL C fr p [] ρ σ Q X:=λY Z _ ok=>Calls.spliced_nil ⟨[],σ,Z,fR.refl _,ok,cJ.nil,h⟩
theorem cK{p:Pos}{e:Expr}{es:List Expr}{Q:List PV->St->Prop}(h:WE C fr e ρ σ (λv aO=>WL C fr p es ρ aO (λvs=>Q (v::vs)) X) X)
 (he:∀env,starEach (e::es) env=(false,eval e env)::starEach es env:=by with_unfolding_all(intro _;rfl)):WL C fr p (e::es) ρ σ Q X:=λY Z s ok=>by
 rw[he]
 show wpAny _ _ (spliced ((false,eval e fr.env)::backTo p (starEach es fr.env))) _ _ s
 refine Calls.spliced_cons (wV (h Y Z s ok) λv bG a aO cf b8 bC cE q=>(wL (q Y cf bG bC) λvs cW as bX fq cT b3 ia jd=> ?_))
 exact⟨a::as,bX,fq,b8.trans cT,b3,.cons (cE.mono cT) ia,jd⟩
theorem qY{es:List Expr}{k:Nat}{p:Pos}(h:WL C fr p es ρ σ (λvs aO=>vs.length<=sizeLine/\Q (.tup vs) aO) X):WE C fr (.Tuple es k p) ρ σ Q X:=λY Z s ok=>
 wpAny_Tuple_spliced (wpAny_mono (h Y Z s ok) (λvs bG ⟨as,aO,cf,b8,bC,cE,hl,q⟩=>by
  refine⟨by rw[cE.length];exact hl,?_⟩
  obtain⟨b3,cT⟩:=bC.KP (t':=bG.toks) (bv (aj _)) (λb o e=>aH {cls:= .type "tuple",data:= .seq vs.toArray} e) (aQ _ rfl) (.inl rfl)
  refine⟨.tup as,aO,_,b8.trans cT,b3,?_,q⟩
  exact⟨_,vs,rfl,⟨0,Zf.il _ _ _⟩,cE.mono cT⟩) λ_ _ x=>x)
theorem qZ{es:List Expr}{p:Pos}(h:WL C fr p es ρ σ (λvs aO=>vs.length<=sizeLine/\∀a,aO a=none->Q (.loc a) (aO.upd a (.list vs))) X):WE C fr (.List es p) ρ σ Q X:=λY Z s ok=>
 wpAny_List_spliced (wpAny_mono (h Y Z s ok) (λvs bG ⟨as,aO,cf,b8,bC,cE,hl,q⟩=>by
  refine⟨by rw[cE.length];exact hl,?_⟩
  have hn:bG.heap.get? bG.heap.objs.size=none:=bv (aj _)
  exact⟨.loc bG.heap.objs.size,_,cf,b8,bC.alloc (c:= .list as) hn (λb o e=>aH _ e) (aQ _ rfl) ⟨vs,0,rfl,cE⟩,im _,q _ (bC.none_of hn).2.2.2.2⟩) λ_ _ x=>x)
end
section
variable{C:Ctx}{fr:Fm}{ρ:b4}{σ:St}{N:b4->St->Prop}{R:PV->St->Prop}{J:Bool->b4->St->Prop}{X:b4->Prop}{Y Z:Zf}{s:Shared}
theorem K1(ok:Ok C fr Y Z ρ σ s)(h:N ρ σ):w4 C fr Y Z N R J .next s:=⟨ρ,σ,Z,fR.refl _,ok,h⟩
theorem gW(h:N ρ σ):hZ C fr [] ρ σ N R J X:=λ_ _ _ ok=>wpAny_execs_nil (K1 ok h)
theorem bw{st:Stmt}{m9:List Stmt}(h:WS C fr st ρ σ (λcj σ'=>hZ C fr m9 cj σ' N R J X) R J X):hZ C fr (st::m9) ρ σ N R J X:=λY Z s ok=>
 wpAny_execs_cons (wP (h Y Z s ok) λf bG x=>by
  cases f with
  |next=>obtain⟨cj,σ',Z',k,fS,q⟩:=x;exact(wP (q Y Z' bG fS) λ_ _ y=>y.le k)
  |brk=>exact x
  |cont=>exact x
  |ret v=>exact x)
theorem ID{p:Pos}(h:N ρ σ):WS C fr (.Pass p) ρ σ N R J X:=λ_ _ _ ok=>wpAny_Pass (K1 ok h)
theorem Ft{p:Pos}(h:J true ρ σ):WS C fr (.Break p) ρ σ N R J X:=λ_ Z _ ok=>wpAny_Break ⟨ρ,σ,Z,fR.refl _,ok,h⟩
theorem y0{p:Pos}(h:J false ρ σ):WS C fr (.Continue p) ρ σ N R J X:=λ_ Z _ ok=>wpAny_Continue ⟨ρ,σ,Z,fR.refl _,ok,h⟩
theorem th{t:Expr}{a b:List Stmt}{p:Pos}(h:WT C fr t ρ σ (λc aO=>(c=true->hZ C fr a ρ aO N R J X)/\(c=false->hZ C fr b ρ aO N R J X)) (X ρ)):WS C fr (.If t a b p) ρ σ N R J X:=λY Z s ok=>
 wpAny_If (ZY (h Y Z s ok) λc bG aO cf b8 bC q=>by
  cases c
  ·exact(wP (q.2 rfl Y cf bG bC) λ_ _ x=>x.le b8)
  ·exact(wP (q.1 rfl Y cf bG bC) λ_ _ x=>x.le b8))
theorem dp{e:Expr}{p:Pos}(h:WE C fr e ρ σ R (X ρ)):WS C fr (.Return (some e) p) ρ σ N R J X:=λY Z s ok=>
 wpAny_Return_some (yX (h Y Z s ok) λv s' pv σ' Z' a b c d=>⟨pv,ρ,σ',Z',a,b,c,d⟩)
theorem q0(F:aG C fr):interactive fr.env=false:=by
 unfold interactive
 show(fr.scope.kind== .module&&_)=false
 rw[F.kind];rfl
theorem pF(F:aG C fr){e:Expr}{p:Pos}(h:WE C fr e ρ σ (λ_ aO=>N ρ aO) (X ρ))(hs:∀env,swapsWith e none p.line env=pure false:=by with_unfolding_all(intro _;rfl)):WS C fr (.Expr e p) ρ σ N R J X:=λY Z s ok=>
 wpAny_Expr_any (yX (h Y Z s ok) λv s' pv σ' Z' a b c d=>⟨ρ,σ',Z',a,b,d⟩) (q0 F) (hs _)
theorem y3(F:aG C fr){x:Str}{pv:PV}{P:b4->St->Prop}(i:Nat)(hx:fr.vn[i]?=some x)(h:P (ρ.set i (some pv)) σ):T6 C fr (storeName fr.env x) pv ρ σ P X:=by
 intro Y Z s va ok r
 obtain⟨m,hn,hl⟩:=ok.loc
 exact F.store hx hn (λh' Ix hs=>⟨_,σ,Z,fR.refl _,ok.bind F hl (F.A1 hx).1 r Ix hs,h⟩)
theorem fv(F:aG C fr){x:Str}{e:Expr}{p p':Pos}(i:Nat)(hx:fr.vn[i]?=some x)(h:WE C fr e ρ σ (λv aO=>N (ρ.set i (some v)) aO) (X ρ))
 (hs:∀env,swapsWith e (some (.Name x p')) p.line env=pure false:=by with_unfolding_all(intro _;rfl)):WS C fr (.Assign [.Name x p'] e p) ρ σ N R J X:=λY Z s ok=>
 wpAny_Assign_Name (yX (h Y Z s ok) λv bG pv aO cf b8 bC cE q=>
  (wU (y3 F (P:=N) i hx q Y cf bG v bC cE) λ_ cW O2 bX fq cT b3 jd=>⟨O2,bX,fq,b8.trans cT,b3,jd⟩)) (hs _)
theorem xS(F:aG C fr){x:Str}{e:Expr}{op:Operator}{p p':Pos}{O3:PV}(i:Nat)(hx:fr.vn[i]?=some x)(hv:ρ[i]?=some (some O3))
 (h:WE C fr e ρ σ (λv aO=>W2 C fr (inplaceOp op) O3 v ρ aO (λr bX=>N (ρ.set i (some r)) bX) (X ρ)) (X ρ)):WS C fr (.AugAssign (.Name x p') op e p) ρ σ N R J X:=λY Z s ok=>by
 obtain⟨m,hn,hl⟩:=ok.loc
 obtain⟨w,hw,r⟩:=hl i x _ (F.A1 hx).1 hv
 refine wpAny_AugAssign_Name (F.load hx hn hw (yX (h Y Z s ok) λv bG pv aO cf b8 bC cE q=>
  (yX (q Y cf bG w v bC (r.mono b8) cE) λu cW pw bX fq cT b3 ia jd=>(wU (y3 F (P:=N) i hx jd Y fq cW u b3 ia) λ_ iL y4 dJ my je du qv=>
   ⟨y4,dJ,my,(b8.trans cT).trans je,du,qv⟩))))
theorem dW{o i e:Expr}{p p':Pos}(h:WE C fr e ρ σ (λv aO=>WE C fr o ρ aO (λov bX=>WE C fr i ρ bX (λiv dJ=>Mk C fr setItem ov iv v ρ dJ N X) (X ρ)) (X ρ)) (X ρ))
 (hs:∀env,swapsWith e (some (.Subscript o i p')) p.line env=pure false:=by with_unfolding_all(intro _;rfl)):WS C fr (.Assign [.Subscript o i p'] e p) ρ σ N R J X:=λY Z s ok=>
 wpAny_Assign_Subscript (yX (h Y Z s ok) λv bG a aO cf b8 bC cE oo=>(yX (oo Y cf bG bC) λov cW b bX fq cT b3 ia jd=>(yX (jd Y fq cW b3) λiv iL c dJ my je du xR qv=>
  (wU (qv Y my iL ov iv v du (ia.mono je) xR (cE.mono (cT.trans je))) λ_ A7 O4 na DZ wv kg D0=>⟨O4,na,DZ,((b8.trans cT).trans je).trans wv,kg,D0⟩)))) (hs _)
theorem mz{o i e:Expr}{op:Operator}{p p':Pos}
 (h:WE C fr o ρ σ (λov aO=>WE C fr i ρ aO (λiv bX=>W2 C fr getItem ov iv ρ bX (λua dJ=>WE C fr e ρ dJ (λv na=>W2 C fr (inplaceOp op) ua v ρ na (λnew iM=>Mk C fr setItem ov iv new ρ iM N X) (X ρ)) (X ρ)) (X ρ)) (X ρ)) (X ρ))
 (hi:∀ov iv new,augStore i ov iv new=(do holding [new,ov,iv] (setItem ov iv new);release [new,ov,iv] [];pure .next):=by with_unfolding_all(intros;rfl)):
 WS C fr (.AugAssign (.Subscript o i p') op e p) ρ σ N R J X:=λY Z s ok=>
 wpAny_AugAssign_SubscriptAny (hi:=hi) (yX (h Y Z s ok) λov bG a aO cf b8 bC cE oo=>(yX (oo Y cf bG bC) λiv cW b bX fq cT b3 ia jd=>
  (yX (jd Y fq cW ov iv b3 (cE.mono cT) ia) λua iL c dJ my je du xR qv=>(yX (qv Y my iL du) λv A7 d na DZ wv kg T8 D0=>
   (yX (D0 Y DZ A7 ua v kg (xR.mono wv) T8) λnew q6 f iM qw q7 iB T9 Mn=>
    (wU (Mn Y qw q6 ov iv new iB (cE.mono (cT.trans (je.trans (wv.trans q7)))) (ia.mono (je.trans (wv.trans q7))) T9) λ_ D6 O5 q8 IE D7 oq Mo=>⟨O5,q8,IE,b8.trans (cT.trans (je.trans (wv.trans (q7.trans D7)))),oq,Mo⟩))))))
theorem ti(F:aG C fr){E:Value->Shared->Prop}:∀{es:List Expr} {xs:List PV} {vs:List Value} {is:List Nat} {ρ:b4} {s:Shared} {Q:Unit->Shared->Prop},
 (∀(j:Nat) (e:Expr),es[j]?=some e->∃(x:Str) (p:Pos) (i:Nat),e=Expr.Name x p/\is[j]?=some i/\fr.vn[i]?=some x)->es.length=is.length->es.length=xs.length->cJ Z xs vs->Ok C fr Y Z ρ σ s->
 (∀s',Ok C fr Y Z ((is.zip xs).foldl (λρ q=>ρ.set q.1 (some q.2)) ρ) σ s'->Q () s')->
 wpAny C.M fr.A (assignInOrder (es.map λe=>assign e fr.env) vs) Q E s
 |[],xs,vs,is,ρ,s,Q,_,h1,h2,r,ok,k=>by
  cases is with
  |nil=>cases xs with
   |nil=>subst r;exact wpAny_pure (k s ok)
   |cons=>simp at h2
  |cons=>simp at h1
 |e::es,xs,vs,is,ρ,s,Q,he,h1,h2,r,ok,k=>by
  cases is with
  |nil=>simp at h1
  |cons i is=>cases xs with
   |nil=>simp at h2
   |cons x xs=>
    obtain⟨v,E0,rfl,r1,r2⟩:=r
    obtain⟨nm,p,i',rfl,hi,Mp⟩:=he 0 e rfl
    simp only[List.getElem?_cons_zero,Option.some.injEq]at hi
    subst hi
    obtain⟨m,hn,hl⟩:=ok.loc
    refine wpAny_assignInOrder_more (wpAny_assign_Name (F.store Mp hn (λh' Ix hs=> ?_)))
    have fS:=ok.bind (t':=s.toks+1) F hl (F.A1 Mp).1 r1 Ix hs
    exact ti F (λj e hj=>he (j+1) e (by simpa using hj)) (by simpa using h1) (by simpa using h2) r2 fS k
theorem lN(F:aG C fr){es:List Expr}{e:Expr}{k:Nat}{p p':Pos}(is:List Nat)
 (h:WE C fr e ρ σ (λv aO=>∃xs,v=.tup xs/\es.length=xs.length/\N ((is.zip xs).foldl (λρ q=>ρ.set q.1 (some q.2)) ρ) aO) (X ρ))
 (E2:∀(j:Nat) (e:Expr),es[j]?=some e->∃(x:Str) (p:Pos) (i:Nat),e=Expr.Name x p/\is[j]?=some i/\fr.vn[i]?=some x) (eC:es.length=is.length)
 (hz:∀env,assignEach es env=es.map λe=>(false,assign e env):=by with_unfolding_all(intro _;rfl))
 (hs:∀env,swapsWithSole [.Tuple es k p'] e p.line env=pure false:=by with_unfolding_all(intro _;rfl)) (hw:∀env,swappedStores [.Tuple es k p'] e env=pure none:=by with_unfolding_all(intro _;rfl))
 (ha:∀env v,assignAll v ((assignEach [.Tuple es k p'] env).map (·.2))=assign (.Tuple es k p') env v:=by with_unfolding_all(intros;rfl)):
 WS C fr (.Assign [.Tuple es k p'] e p) ρ σ N R J X:=λY Z s ok=>
 wpAny_Assign_stores (wpAny_mono (h Y Z s ok) (λv bG ⟨pv,aO,cf,b8,bC,cE,xs,hx,hl,q⟩=>by
  subst hx
  obtain⟨a,vs,rfl,zt,rl⟩:=fh cE
  rw[ha]
  have Tq:=rl.length
  refine wpAny_assign_Tuple F.handled (zt.sD bC.vals) (by rw[hz];simp;exact hl.trans Tq.symm) (by
   rw[hz,List.findIdx?_eq_none_iff];intro x hx;obtain⟨_,_,rfl⟩:=bn.mp hx;rfl) λh' hb=> ?_
  rw[hz,bU]
  have IF:Ok C fr Y cf ρ aO {bG with heap:=h'}:=bC.but (wr:=[bG.heap.objs.size]) (t':=bG.toks) (λb o hm e=>hb b o (by simpa using hm) e) (λb hm=>by
   have Ou:b=bG.heap.objs.size:=by simpa using hm
   subst Ou;exact bC.none_of (bv (aj _)))
  exact ti F E2 eC hl rl IF λs' fS=>⟨_,aO,cf,b8,fS,q⟩) λ_ _ x=>x.H6) (hs _) (hw _)
end
section
variable{C:Ctx}{fr:Fm}{ρ:b4}{σ:St}{N:b4->St->Prop}{R:PV->St->Prop}{J:Bool->b4->St->Prop}{X:b4->Prop}{Y Y' Z:Zf}{s:Shared}
theorem q9{fr:Fm}(Tp:hY fr):fr.env.frame=some fr.L:=Tp.fL
theorem A8{Y:Zf}{h h':Heap}(u:∀b o,Y b=some o->Fh o->∃sl,h.get? b=some {o with slots:=sl})(k:h.UpToSlots h'):∀b o,Y b=some o->Fh o->∃sl,h'.get? b=some {o with slots:=sl}:=
 λb o e n=>let⟨sl,q⟩:=u b o e n;let⟨ZZ,q'⟩:=k b _ q n;⟨ZZ,q'⟩
theorem t9.H5{e:Value}{x:Addr}(k:fR Y Y')(h:t9 C fr Y' ρ e s x):t9 C fr Y ρ e s x:={h with DU:=λb o e n=>h.DU b o (k _ _ e) n}
noncomputable def Fu(C:Ctx)(fr:Fm)(x:Addr)(h:Heap):Prop:=∃a0,h.TracedAtW C.B x (.ref C.lf) a0 (rawInt fr.L)
theorem t9.turn{e:Value}{x:Addr}{h':Heap}(h:t9 C fr Y ρ e s x)(kb:C.B.StaysIn h')(kf:h'.FunFrames C.B fr.wY)(kt:Fj C fr x h')(ku:s.heap.UpToSlots h'):
 t9 C fr Y ρ e {s with heap:=h'} x:=
 ⟨h.is,kb,h.new,kf,kt,A8 h.DU ku,let⟨m,Z',a,b⟩:=h.loc;⟨m,Z',ku.ns a,b⟩,h.rest⟩
theorem t9.note(F:aG C fr)(Tp:hY fr){e:Value}{x:Addr}{Q:Unit->Shared->Prop}{E:Value->Shared->Prop}(h:t9 C fr Y ρ e s x)(hQ:∀s',t9 C fr Y ρ e s' x->Fu C fr x s'.heap->Q () s'):
 wpAny C.M fr.A (noteFrame e fr.env) Q E s:=by
 obtain rfl:=h.is
 have Ff:fr.A.frames=some (fr.env::fr.outer):=F.frames.trans (congrArg some Tp.wY)
 have hf:=h.bq
 rw[Tp.wY]at hf
 rcases h.st with⟨oe,vs,a0,he,hc,hd,h1,h0⟩|⟨a0,ht⟩|⟨a0,ht⟩
 ·unfold noteFrame
  simp only[Tp.fL]
  refine wpAny_bind (wpAny_field he hd h1 ?_)
  rw[if_neg (by decide)]
  refine wpAny_entryW Ff hf (q9 Tp) he h.base h.new hd (fP.mp h1).1 h0 λh' ⟨k1,k2,k3,k4⟩=> ?_
  rw[hc]at k3
  exact hQ _ (h.turn k1 (by rw[Tp.wY];exact k2) (.inr (.inr ⟨a0,k3⟩)) k4) ⟨a0,k3⟩
 ·refine wpAny_noteFrame_onW Ff hf (q9 Tp) ht h.base h.new λh' ⟨k1,k2,k3,k4⟩=> ?_
  exact hQ _ (h.turn k1 (by rw[Tp.wY];exact k2) (.inr (.inr ⟨a0,k3⟩)) k4) ⟨a0,k3⟩
 ·exact wpAny_noteFrame_againW (q9 Tp) ht (hQ _ h ⟨a0,ht⟩)
theorem tj{h h':Heap}{T:Addr}{oT:Obj}{ts:Array Value}(hT:h.get? T=some oT)(hd:oT.data=.fields ts)(k:∀b,b≠T->h'.get? b=h.get? b):
 ∀b o,h.get? b=some o->(∀vs,o.data≠ .fields vs)->h'.get? b=some o:=λb o e n=>by
 rw[k b (λq=>by subst q;rw[hT]at e;cases e;exact n ts hd)];exact e
theorem t9.H7{e:Value}{x:Addr}{fl:Option Addr}{Q:Unit->Shared->Prop}{E:Value->Shared->Prop}(h:t9 C fr Y ρ e s x)(hn:Fu C fr x s.heap)
 (hQ:∀s' a0,t9 C fr Y ρ e s' x\/fl≠none/\fl≠some fr.L->s'.heap.TracedAtW C.B x (.ref C.lf) a0 (fl.elim .none λf=>rawInt f)->Q () s'):wpAny C.M fr.A (setFlight e fl) Q E s:=by
 obtain rfl:=h.is
 obtain⟨a0,oe,vs,T,oT,ts,he,D8,hd,h1,O6,O7,hT,IG,h3⟩:=hn
 have hsz:3<ts.size:=(fP.mp h3).1
 unfold setFlight
 refine wpAny_bind (wpAny_field he hd h1 ?_)
 rw[if_pos (show(Value.ref T !=Value.none)=true from by simp)]
 refine wpAny_setField hT IG hsz ?_
 have i8:∀b,b≠T->(s.heap.update T (Obj.mapFields (·.setIfInBounds 3 (fl.elim Value.none λf=>rawInt f)))).get? b=s.heap.get? b:=λb hb=>Heap.get?_update_other _ _ (Ne.symm hb)
 have keep:=tj hT IG i8
 have tr:(s.heap.update T (Obj.mapFields (·.setIfInBounds 3 (fl.elim Value.none λf=>rawInt f)))).TracedAtW C.B x (.ref C.lf) a0 (fl.elim .none λf=>rawInt f):=
  ⟨oe,vs,T,_,_,(i8 x (Ne.symm O7)).trans he,D8,hd,h1,O6,O7,ej _ hT (Obj.isFreed_of_fields (iy IG _)),iy IG _,by simp[hsz]⟩
 refine hQ _ a0 ?_ tr
 have pR:Fj C fr x (s.heap.update T (Obj.mapFields (·.setIfInBounds 3 (fl.elim Value.none λf=>rawInt f))))->
  t9 C fr Y ρ (.ref x) {s with heap:=s.heap.update T (Obj.mapFields (·.setIfInBounds 3 (fl.elim Value.none λf=>rawInt f)))} x:=λk=>h.turn
  (λb o e=>(i8 b λq=>by rw[q,O6]at e;cases e).trans (h.base b o e)) (h.bq.of_keeps λb o hb Mq=>⟨o,keep b o hb Mq,rfl⟩) k λb o hb Mq=>⟨o.slots,keep b o hb Mq⟩
 cases fl with
 |none=>exact .inl (pR (.inr (.inl ⟨a0,tr⟩)))
 |some f=>
  by_cases q:f=fr.L
  ·subst q;exact .inl (pR (.inr (.inr ⟨a0,tr⟩)))
  ·exact .inr ⟨by simp,by simpa using q⟩
theorem t9.back(Tp:hY fr){e:Value}{x:Addr}{E:Value->Shared->Prop}(h:t9 C fr Y ρ e s x)(hn:Fu C fr x s.heap)(hE:∀s',t9 C fr Y ρ e s' x->E e s'):cameBackBy C.M fr.A fr.env E e s:=by
 obtain⟨a0,oe,vs,T,oT,ts,he,D8,hd,h1,r⟩:=id hn
 have hx:=h.is
 unfold cameBackBy
 rw[hx]
 refine wpAny_bind (wpAny_field he hd h1 ?_)
 rw[if_neg (by simp)]
 rw[q9 Tp,<-hx]
 refine h.H7 hn λs' a0 k _=> ?_
 rcases k with k|⟨_,k⟩
 ·exact hE s' k
 ·exact absurd rfl k
theorem uf(F:aG C fr)(Tp:hY fr){e:Value}(k:fR Y Y')(h:kc C fr Y' X e s):notedBy C.M fr.A fr.env (λe s'=>cameBackBy C.M fr.A fr.env (kc C fr Y X) e s') e s:=by
 obtain⟨cj,hX,x,hx⟩:=h
 unfold notedBy
 refine(hx.H5 k).note F Tp λs' h' hn=>h'.back Tp hn λCK Z0=>⟨cj,hX,x,Z0⟩
theorem Fv(F:aG C fr)(Tp:hY fr){t:Expr}{body K2:List Stmt}{p:Pos}(I:Nat->b4->St->Prop)(n:Nat)(h0:I n ρ σ)
 (turn:∀n ρ σ,I n ρ σ->WT C fr t ρ σ (λb aO=>(b=true->hZ C fr body ρ aO (λcj σ'=>∃m,m<n/\I m cj σ') R (λb cj σ'=>if b then N cj σ' else∃m,m<n/\I m cj σ') X)/\(b=false->hZ C fr K2 ρ aO N R J X)) (X ρ)):
 WS C fr (.While t body K2 p) ρ σ N R J X:=λY Z s ok=>by
 refine wpAny_While (codeAny_whileLoop (λn s'=>∃cj σ' Z',fR Z Z'/\Ok C fr Y Z' cj σ' s'/\I n cj σ') ?_ n ⟨ρ,σ,Z,fR.refl _,ok,h0⟩)
 rintro n bG ⟨CL,aO,cf,b8,bC,hI⟩
 refine wpAny_mono (turn n CL aO hI Y cf bG bC) (λb cW ⟨bX,fq,cT,b3,q⟩=> ?_) λe s' x=>uf F Tp (fR.refl _) x.H6
 cases b
 ·simp only[kP,if_false]
  exact wpAny_mono (q.2 rfl Y fq cW b3) (λf iL x=>x.le (b8.trans cT)) λe s' x=>uf F Tp (fR.refl _) x
 ·simp only[if_true]
  refine wpAny_mono (q.1 rfl Y fq cW b3) (λf iL x=> ?_) λe s' x=>uf F Tp (fR.refl _) x
  cases f with
  |next=>obtain⟨cj,σ',Z',k,fS,m,hm,hi⟩:=x;exact⟨m,hm,cj,σ',Z',(b8.trans cT).trans k,fS,hi⟩
  |cont=>obtain⟨cj,σ',Z',k,fS,hj⟩:=x;simp only[kP,if_false]at hj;obtain⟨m,hm,hi⟩:=hj;exact⟨m,hm,cj,σ',Z',(b8.trans cT).trans k,fS,hi⟩
  |brk=>obtain⟨cj,σ',Z',k,fS,hj⟩:=x;simp only[if_true]at hj;exact⟨cj,σ',Z',(b8.trans cT).trans k,fS,hj⟩
  |ret v=>exact x.le (b8.trans cT)
noncomputable def Yb(Y:Zf)(fp:List Addr)(h:Heap):Zf:=λb=>if b∈fp then h.get? b else Y b
theorem Yb.le{fp:List Addr}{h:Heap}(k:K0 Y h):fR Y (Yb Y fp h):=λb o e=>by
 unfold Yb;split
 ·exact k b o e
 ·exact e
theorem Ok.H8(ok:Ok C fr Y Z ρ σ s){fp:List Addr}(hL:fr.L∉fp)(CD:∀b∈fp,σ b=none):Ok C fr (Yb Y fp s.heap) Z ρ σ s:=
 ⟨ok.base,λb o e=>by unfold Yb at e;split at e;exact e;exact ok.keep b o e,ok.vals,by unfold Yb;rw[if_neg hL];exact ok.yl,ok.zl,ok.bl,ok.loc,ok.ju,
  λa c e=>let⟨n1,n2,n3,n4⟩:=ok.own a c e;⟨n1,by unfold Yb;rw[if_neg (λq=>by rw[CD a q]at e;cases e)];exact n2,n3,n4⟩,ok.bq.mono (Yb.le ok.keep),ok.rest,ok.zn,ok.fz⟩
structure LI(C:Ctx)(fr:Fm)(Y Z:Zf)(I:Addr)(fp:List Addr)(lw:Nat->Heap->Prop)(s:Shared)(j:Nat)(cj:b4)(σ':St)(Z':Zf)(s':Shared):Prop where
 z:fR Z Z'
 ok:Ok C fr Y Z' cj σ' s'
 st:lw j s'.heap
 wk:∀b∈fp,∃o,s'.heap.get? b=some o/\(b≠I->s.heap.get? b=some o)
 no:∀b∈fp,σ' b=none
inductive FI(C:Ctx)(fr:Fm)(Y Z:Zf)(I:Addr)(fp:List Addr)(lw:Nat->Heap->Prop)(s:Shared)(n:Nat)(Inv:Nat->b4->St->Prop):Nat->Shared->Prop
 |mk {cj:b4} {σ':St} {Z':Zf} {j:Nat} {s':Shared} (h:LI C fr Y Z I fp lw s j cj σ' Z' s') (i:Inv j cj σ') (l:j<=n):FI C fr Y Z I fp lw s n Inv (n+1-j) s'
theorem LI.zI{I:Addr}{fp:List Addr}{lw:Nat->Heap->Prop}{s':Shared}{j:Nat}{cj:b4}{σ':St}{Z':Zf}(h:LI C fr Y Z I fp lw s j cj σ' Z' s')(hF:∀k h,lw k h->∃o,h.get? I=some o/\¬lM o):Z' I=none:=by
 obtain⟨oI,Z1,Z2⟩:=hF _ _ h.st
 cases q:Z' I with
 |none=>rfl
 |some o=>have:=h.ok.vals I o q;rw[Z1]at this;cases this;exact absurd (h.ok.zn I _ q).1 Z2
theorem LI.next{I:Addr}{fp wr:List Addr}{lw:Nat->Heap->Prop}{s':Shared}{j n:Nat}{P:Nat->Value->Prop}{cj:b4}{σ':St}{Z':Zf}(h:LI C fr Y Z I fp lw s j cj σ' Z' s')(hF:∀k h,lw k h->∃o,h.get? I=some o/\¬lM o)
 (W:Walks C.prog C.w fr.A I fp wr n P lw) (w5:∀b∈wr,b=I) (hL:fr.L∉fp) (hI:C.B.get? I=none/\Y I=none) {fU:Heap} {tk:Nat} (hk:∀b o,b∉wr->s'.heap.get? b=some o->fU.get? b=some o):Ok C fr Y Z' cj σ' {s' with heap:=fU,toks:=tk}:=
 h.ok.but hk λb hb=>by
  obtain rfl:=w5 b hb
  exact⟨hI.1,hI.2,h.zI hF,λq=>hL (q▸W.sub _ hb),h.no _ (W.sub _ hb)⟩
theorem LI.back{I:Addr}{fp gp:List Addr}{n:Nat}{P:Nat->Value->Prop}{lw:Nat->Heap->Prop}{wr:List Addr}(W:Walks C.prog C.w fr.A I fp wr n P lw){i5:Heap}{j:Nat}(rf:lw j i5)(there:∀b∈fp,∃o,i5.get? b=some o/\(b≠I->s.heap.get? b=some o))(hg:∀b∈fp,b∈gp)
 {q6:Shared} {pW:b4} {iM:St} {qw:Zf} (iB:Ok C fr (Yb Y gp i5) qw pW iM q6) {Ua:Zf} {O8:b4} {O9:St} {Pb:Shared} (Pc:Ok C fr Y Ua O8 O9 Pb) (kY:fR Y (Yb Y gp i5)) (k:fR Z qw):LI C fr Y Z I fp lw s j pW iM qw q6:=
 ⟨k,iB.H5 kY Pc.bq,W.frame _ _ _ rf λb hb o e=>iB.keep b o (by unfold Yb;rw[if_pos (hg b hb)];exact e),λb hb=>by
  obtain⟨o,ho,hq⟩:=there b hb
  exact⟨o,iB.keep b o (by unfold Yb;rw[if_pos (hg b hb)];exact ho),hq⟩,λb hb=>by
  cases q:iM b with
  |none=>rfl
  |some c=>
   obtain⟨o,ho,_⟩:=there b hb
   have:=(iB.own b c q).2.1
   unfold Yb at this;rw[if_pos (hg b hb),ho]at this;cases this⟩
theorem LI.there{I:Addr}{fp wr:List Addr}{lw:Nat->Heap->Prop}{s':Shared}{j:Nat}{cj:b4}{σ':St}{Z':Zf}(h:LI C fr Y Z I fp lw s j cj σ' Z' s')(hF:∀k h,lw k h->∃o,h.get? I=some o/\¬lM o)(w5:∀b∈wr,b=I)
 {gm i5:Heap} {i:Nat} (rf:lw i i5) (rg:∀b o,b∉wr->s'.heap.get? b=some o->gm.get? b=some o) (e3:∀b∈fp,i5.get? b=gm.get? b):∀b∈fp,∃o,i5.get? b=some o/\(b≠I->s.heap.get? b=some o):=λb hb=>by
 by_cases iI:b=I
 ·subst iI
  obtain⟨o,ho,_⟩:=hF _ _ rf
  exact⟨o,ho,λh=>absurd rfl h⟩
 ·obtain⟨o,ho,hq⟩:=h.wk b hb
  exact⟨o,(e3 b hb).trans (rg b o (λh=>iI (w5 b h)) ho),hq⟩
theorem Fw(F:aG C fr)(Tp:hY fr){x:Str}{px:Pos}{body:List Stmt}{I:Addr}{fp wr:List Addr}{n:Nat}{P:Nat->Value->Prop}{lw:Nat->Heap->Prop}{xs:List PV}{NB:b4->St->Prop}
 (i:Nat) (hx:fr.vn[i]?=some x) (W:Walks C.prog C.w fr.A I fp wr n P lw) (w5:∀b∈wr,b=I) (hn:n=xs.length)
 (pX:∀k v Z',fR Z Z'->k<n->P k v->∃pv,xs[k]?=some pv/\gj Z' pv v) (hF:∀k h,lw k h->∃o,h.get? I=some o/\¬lM o)
 (ok:Ok C fr Y Z ρ σ s) (j7:lw 0 s.heap) (hL:fr.L∉fp) (CD:∀b∈fp,σ b=none) (E3:∀b∈fp,∃o,s.heap.get? b=some o) (hI:C.B.get? I=none/\Y I=none)
 (Inv:Nat->b4->St->Prop) (h0:Inv 0 ρ σ)
 (step:∀k pv cj σ',xs[k]?=some pv->Inv k cj σ'->hZ C fr body (cj.set i (some pv)) σ' (Inv (k+1)) R (λb y5 ou=>if b then NB y5 ou else Inv (k+1) y5 ou) X)
 {RR:Result->Shared->Prop}
 (hE:∀s' cj σ' Z',fR Z Z'->Ok C fr Y Z' cj σ' s'->(∀b∈fp,b≠I->s'.heap.get? b=s.heap.get? b)->(∀b∈fp,σ' b=none)->(Inv n cj σ'\/NB cj σ')->RR (.ok .next) s')
 (hR:∀s' v,w4 C fr Y Z (λ_ _=>False) R (λ_ _ _=>False) (.ret v) s'->RR (.ok (.ret v)) s')
 (hX:∀e s',cameBackBy C.M fr.A fr.env (kc C fr Y X) e s'->RR (.error e) s'):
 codeAny C.M fr.A (.forLoop (.Name x px) (.ref I) body [] fr.env) RR s:=by
 refine codeAny_forLoop (FI C fr Y Z I fp lw s n Inv) ?_ (n+1) (FI.mk ⟨fR.refl _,ok,j7,λb hb=>let⟨o,ho⟩:=E3 b hb;⟨o,ho,λ_=>ho⟩,CD⟩ h0 (bW _))
 intro k bG h
 cases h with
 |@mk CL aO cf j _ h y6 hj=>
 by_cases fg:j<n
 ·refine W.item j _ _ _ fg h.st λv gm y7 hP A9 rg=> ?_
  obtain⟨pv,IH,rv⟩:=pX j v cf h.z fg hP
  have b3:=h.next (tk:=y7) hF W w5 hL hI rg
  obtain⟨m,hm,hl⟩:=b3.loc
  refine wpAny_assign_Name (F.store hx hm (λi5 Fx w6=> ?_))
  have du:=b3.bind (t':=y7+1) F hl (F.A1 hx).1 rv Fx w6
  have e3:∀b∈fp,i5.get? b=gm.get? b:=λb hb=>w6.2 b λq=>hL (by rw[<-show b=fr.L from q];exact hb)
  have rf:lw (j+1) i5:=W.frame _ _ _ A9 λb hb o e=>(e3 b hb).trans e
  have kY:=Yb.le (fp:=fp) du.keep
  have bk:=λ{q6 pW iM qw} (iB:Ok C fr (Yb Y fp i5) qw pW iM q6) k=>LI.back W rf (h.there hF w5 rf rg e3) (λ_ h=>h) iB ok kY (h.z.trans k)
  have nx:n+1-j=n+1-(j+1)+1:=(Nat.sub_eq_iff_eq_add (aL hj|>Nat.le_of_succ_le)).mpr (by rw[bP,bH 1 j,kO (aL hj)])
  refine wpAny_mono (step j pv CL aO IH y6 _ cf _ (du.H8 hL h.no)) (λf q6 x=> ?_) λe s' x=> ?_
  ·cases f with
   |next=>obtain⟨pW,iM,qw,q7,iB,hi⟩:=x;exact⟨_,nx▸cU _,.mk (bk iB q7) hi fg⟩
   |cont=>obtain⟨pW,iM,qw,q7,iB,hi⟩:=x;exact⟨_,nx▸cU _,.mk (bk iB q7) hi fg⟩
   |brk=>obtain⟨pW,iM,qw,q7,iB,hi⟩:=x;have b:=bk iB q7;exact hE q6 pW iM qw b.z b.ok (λc hb iI=>let⟨o,h1,h2⟩:=b.wk c hb;h1.trans (h2 iI).symm) b.no (.inr hi)
   |ret v=>obtain⟨pw,pW,iM,qw,q7,iB,rv,hi⟩:=x;have b:=bk iB q7;exact hR q6 v ⟨pw,pW,iM,qw,b.z,b.ok,rv,hi⟩
  ·have:=uf F Tp kY x
   exact wpAny_mono this (λ_ CK y=>hX _ _ y) λ_ CK y=>hX _ _ y
 ·have Ub:j=n:=dx hj (cq fg)
  subst Ub
  refine W.done _ _ _ h.st λfU Fy uH=>wpAny_execs_nil ?_
  refine hE _ CL aO cf h.z (h.next (tk:=Fy) hF W w5 hL hI uH) (λb hb iI=> ?_) h.no (.inl y6)
  obtain⟨o,ho,hq⟩:=h.wk b hb
  exact(uH b o (λh=>iI (w5 b h)) ho).trans (hq iI).symm
end
noncomputable def uI(h:Heap)(d:Addr)(es:Array DictEntry)(ep:Nat):Prop:=∃o,h.get? d=some o/\o.ExactDict/\o.data=.dict es ep
theorem uI.at{h h':Heap}{d:Addr}{es:Array DictEntry}{ep:Nat}(x:uI h d es ep)(e:∀o,h.get? d=some o->h'.get? d=some o):uI h' d es ep:=let⟨o,ho,r⟩:=x;⟨o,e _ ho,r⟩
section
variable{prog:Program}{w:World}{A:Around}{E:Value->Shared->Prop}{s:Shared}
theorem rh{d:Addr}{es:Array DictEntry}{ep:Nat}{Q:Value->Shared->Prop}(hd:d≠sysModules)(hm:uI s.heap d es ep)
 (hQ:Q (.ref s.heap.objs.size) {s with heap:=s.heap.push {cls:= .type "dict_keyiterator",data:= .fields #[.ref d,.int 0 0,.int es.size 0,.int ep 0]}}):
 wpAny (model prog w) A (pyIter (.ref d)) Q E s:=by
 obtain⟨o,ho,hc,Pd⟩:=hm
 have hT:s.TypeIs (.ref d) "dict":=⟨o,ho,hc.1⟩
 refine wpAny_pyIter_slot hT F.slot_dict_iter (wpAny_call_entry F.slot_dict_iter hT F.entry_dict_iter ?_ (F.args_dict_iter_1 _))
 unfold Builtin.«dict.__iter__» Builtin.Dict.dictSlotNone
 refine wpAny_bind (wpAny_bind (wpAny_notOrdered_dict hT (wpAny_pure ?_)))
 show wpAny _ _ (Builtin.Dict.showsAll d>>=_) _ _ s
 unfold Builtin.Dict.showsAll
 rw[if_neg (by simpa using hd)]
 refine wpAny_bind (wpAny_pure (wpAny_bind (wpAny_dictEntries ho Pd (wpAny_bind (wpAny_dictEpoch ho Pd ?_)))))
 exact wpAny_bind (wpAny_newObj_type (wpAny_pure ⟨_,rfl,"dict_keyiterator",_,⟨_,aQ _ rfl,rfl⟩,fn.lookup,hQ⟩))
theorem rj{it d:Addr}{i ep:Nat}{es:Array DictEntry}{en:DictEntry}{Q:Option Value->Shared->Prop}(hit:s.heap.IsKeyIter it d i es.size ep)(hm:uI s.heap d es ep)(hx:es[i]?=some en)
 (hQ:∀h',h'.IsKeyIter it d (i+1) es.size ep->Heap.SameBut it s.heap h'->Q (some en.key) {s with heap:=h'}):
 wpAny (model prog w) A (pyNext (.ref it)) Q E s:=by
 obtain⟨o,ho,hc,hd⟩:=id hit
 obtain⟨od,Ba,Uc,Ih⟩:=hm
 obtain⟨fg,Ov⟩:=fP.mp hx
 unfold pyNext
 refine wpAny_bind (wpAny_attempt (wpAny_callSpecial?_slot (name:=Str.ofString "__next__") hit.typeIs fn
  (wpAny_call_entry fn hit.typeIs F.entry_dict_keyiterator_next ?_ (F.args_dict_keyiterator_next_1 _))))
 refine wpAny_bind (wpAny_pure (wpAny_bind (wpAny_bind ?_)))
 first|refine wpAny_bind (wpAny_typeNameOfWhole_keyiter hit.typeIs (wpAny_pure ?_))|refine wpAny_bind (wpAny_typeNameOf_keyiter hit.typeIs (wpAny_pure ?_))
 refine wpAny_bind (wpAny_fieldsOf ho hd ?_)
 rw[if_neg (show¬(Builtin.Dict_items.ownsTuple "dict_keyiterator"=true) by decide)]
 show wpAny _ _ (if(Value.ref d==Value.none)=true then _ else _) _ _ s
 rw[if_neg (show¬((Value.ref d==Value.none)=true)from eI)]
 refine wpAny_bind (wpAny_pure (wpAny_bind (wpAny_dictEntries Ba Ih ?_)))
 rw[if_neg (by simp)]
 refine wpAny_bind (wpAny_pure (wpAny_bind (wpAny_dictEpoch Ba Ih ?_)))
 rw[if_neg (by simp)]
 refine wpAny_pure ?_
 dsimp only
 rw[(if_neg (eH.mpr (aE i))).trans (show es[(i:Int).toNat]?=some en from hx)]
 refine wpAny_bind ?_
 first|refine wpAny_bind (wpAny_typeNameOfWhole_keyiter hit.typeIs (wpAny_pure ?_))|refine wpAny_bind (wpAny_typeNameOf_keyiter hit.typeIs (wpAny_pure ?_))
 refine wpAny_bind (wpAny_isOneOf_keyiter hit.typeIs ?_)
 show wpAny _ _ (setField (.ref it) 1 (rawInt ((i:Int)+1))>>=_) _ _ s
 refine wpAny_bind (wpAny_setField ho hd (by simp) ?_)
 have II:(s.heap.update it (Obj.mapFields (·.setIfInBounds 1 (rawInt ((i:Int)+1))))).IsKeyIter it d (i+1) es.size ep:=
  ⟨_,ej _ ho (Obj.isFreed_of_fields (iy hd _)),(Obj.cls_mapFields ..).trans hc,by rw[iy hd];simp[rawInt]⟩
 refine wpAny_bind (wpAny_holding ?_)
 refine wpAny_bind (wpAny_isOneOf_keyiter (s:={s with heap:=s.heap.update it (Obj.mapFields (·.setIfInBounds 1 (rawInt ((i:Int)+1))))}) II.typeIs ?_)
 show wpAny _ _ (pure en.key) _ _ _
 exact wpAny_pure (wpAny_pure ⟨_,rfl,wpAny_pure (hQ _ II (jS ..))⟩)
theorem sI{it d:Addr}{ep:Nat}{es:Array DictEntry}{Q:Option Value->Shared->Prop}(hh:A.handled=none)(hit:s.heap.IsKeyIter it d es.size es.size ep)(hm:uI s.heap d es ep)
 (hQ:∀h',Heap.ExtBut it s.heap h'->Q none {s with heap:=h'}):wpAny (model prog w) A (pyNext (.ref it)) Q E s:=by
 obtain⟨o,ho,hc,hd⟩:=id hit
 obtain⟨od,Ba,Uc,Ih⟩:=hm
 unfold pyNext
 refine wpAny_bind (wpAny_attempt (wpAny_callSpecial?_slot (name:=Str.ofString "__next__") hit.typeIs fn
  (wpAny_call_entry fn hit.typeIs F.entry_dict_keyiterator_next ?_ (F.args_dict_keyiterator_next_1 _))))
 refine wpAny_bind (wpAny_pure (wpAny_bind (wpAny_bind ?_)))
 first|refine wpAny_bind (wpAny_typeNameOfWhole_keyiter hit.typeIs (wpAny_pure ?_))|refine wpAny_bind (wpAny_typeNameOf_keyiter hit.typeIs (wpAny_pure ?_))
 refine wpAny_bind (wpAny_fieldsOf ho hd ?_)
 rw[if_neg (show¬(Builtin.Dict_items.ownsTuple "dict_keyiterator"=true) by decide)]
 show wpAny _ _ (if(Value.ref d==Value.none)=true then _ else _) _ _ s
 rw[if_neg (show¬((Value.ref d==Value.none)=true)from eI)]
 refine wpAny_bind (wpAny_pure (wpAny_bind (wpAny_dictEntries Ba Ih ?_)))
 rw[if_neg (by simp)]
 refine wpAny_bind (wpAny_pure (wpAny_bind (wpAny_dictEpoch Ba Ih ?_)))
 rw[if_neg (by simp)]
 refine wpAny_pure ?_
 dsimp only
 rw[(if_neg (eH.mpr (aE es.size))).trans (show es[(es.size:Int).toNat]?=none from Array.getElem?_eq_none (aj es.size))]
 refine wpAny_bind ?_
 first|refine wpAny_bind (wpAny_typeNameOfWhole_keyiter hit.typeIs (wpAny_pure ?_))|refine wpAny_bind (wpAny_typeNameOf_keyiter hit.typeIs (wpAny_pure ?_))
 show wpAny _ _ (setField (.ref it) 0 .none>>=_) _ _ s
 refine wpAny_bind (wpAny_setField ho hd (by simp) ?_)
 show wpAny _ _ (newExc (.type "StopIteration") []>>=_) _ _ _
 refine wpAny_bind ?_
 unfold newExc newTuple
 refine wpAny_bind (wpAny_newObj_type ?_ (by size_fits))
 refine wpAny_bind (m:=firstArgMember _ _) (wpAny_of_eq (a:=Value.none) rfl ?_)
 refine wpAny_newObj_type ?_ (by size_fits)
 unfold raiseNew
 refine wpAny_bind (wpAny_handled ?_)
 rw[show A.in1.handled=none from hh]
 refine wpAny_bind (wpAny_pure (wpAny_throw ?_))
 refine wpAny_bind (wpAny_isInstance (T:="StopIteration") (b:=true) ⟨_,aQ _ rfl,rfl⟩ isSubtype_stop ?_)
 exact wpAny_pure (hQ _ (((jS ..).extBut.push _).push _))
theorem Walks.Me(hh:A.handled=none)(I d:Addr)(iI:d≠I)(es:Array DictEntry)(ep:Nat):
 Walks prog w A I [I,d] [I] es.size (λi v=>∃en,es[i]?=some en/\v=en.key) (λi h=>h.IsKeyIter I d i es.size ep/\uI h d es ep)where
 sub:=λb hb=>by simp at hb;simp[hb]
 frame:=λ_ _ _ st hk=>⟨st.1.at λo e=>hk I (by simp) o e,st.2.at λo e=>hk d (by simp) o e⟩
 item:=λi s Q E hi st hQ=>by
  have hx:es[i]?=some es[i]:=by simp[hi]
  refine rj st.1 st.2 hx λh' II D9=> ?_
  exact hQ _ h' s.toks ⟨_,hx,rfl⟩ ⟨II,st.2.at λo e=>D9.extBut d o iI e⟩ λb o hb e=>D9.extBut b o (λh=>hb (by simp[h])) e
 done:=λs Q E st hQ=>sI hh st.1 st.2 λh' Tt=>hQ h' s.toks λb o hb e=>Tt b o (λh=>hb (by simp[h])) e
 self:=λ_ _ _ _ st hQ=>wpAny_pyIter_keyiter st.1 hQ
end
section
variable{C:Ctx}{fr:Fm}{ρ:b4}{σ:St}{N:b4->St->Prop}{R:PV->St->Prop}{J:Bool->b4->St->Prop}{X:b4->Prop}{Y Z:Zf}{s:Shared}
inductive y8(C:Ctx)(fr:Fm)(xs:List PV)(yQ:St)(rest:St->St)(Y Z:Zf)(ρ:b4)(it:Value)(s':Shared):Prop
 |mk (I:Addr) (fp wr:List Addr) (n:Nat) (P:Nat->Value->Prop) (lw:Nat->Heap->Prop) (is:it=.ref I) (W:Walks C.prog C.w fr.A I fp wr n P lw) (w5:∀b∈wr,b=I) (hn:n=xs.length)
  (pX:∀k v Z',fR Z Z'->k<n->P k v->∃pv,xs[k]?=some pv/\gj Z' pv v) (hF:∀k h,lw k h->∃o,h.get? I=some o/\¬lM o)
  (ok:Ok C fr Y Z ρ yQ s') (j7:lw 0 s'.heap) (hL:fr.L∉fp) (CD:∀b∈fp,yQ b=none) (E3:∀b∈fp,∃o,s'.heap.get? b=some o) (hI:C.B.get? I=none/\Y I=none)
  (hr:∀CK cj σ' Z',fR Z Z'->Ok C fr Y Z' cj σ' CK->(∀b∈fp,b≠I->CK.heap.get? b=s'.heap.get? b)->(∀b∈fp,σ' b=none)->Ok C fr Y Z' cj (rest σ') CK):y8 C fr xs yQ rest Y Z ρ it s'
noncomputable def kh(C:Ctx)(fr:Fm)(a:PV)(xs:List PV)(σ yQ:St)(rest:St->St):Prop:=
 ∀Y Z ρ s va (E:Value->Shared->Prop),Ok C fr Y Z ρ σ s->gj Z a va->wpAny C.M fr.A (pyIter va) (y8 C fr xs yQ rest Y Z ρ) E s
inductive Fz(C:Ctx)(fr:Fm)(a:PV)(i:Nat)(body:List Stmt)(ρ:b4)(σ:St)(N:b4->St->Prop)(R:PV->St->Prop)(X:b4->Prop):Prop
 |mk (xs:List PV) (yQ:St) (rest:St->St) (hit:kh C fr a xs σ yQ rest) (Inv:Nat->b4->St->Prop) (h0:Inv 0 ρ yQ)
  (step:∀k pv cj σ',xs[k]?=some pv->Inv k cj σ'->hZ C fr body (cj.set i (some pv)) σ' (Inv (k+1)) R (λb y5 ou=>if b then N y5 (rest ou)else Inv (k+1) y5 ou) X)
  (pR:∀cj σ',Inv xs.length cj σ'->N cj (rest σ'))
theorem rm(F:aG C fr)(Tp:hY fr){x:Str}{px p:Pos}{iter:Expr}{body:List Stmt}(i:Nat)(hx:fr.vn[i]?=some x)
 (h:WE C fr iter ρ σ (λa aO=>Fz C fr a i body ρ aO N R X) (X ρ))
 (hs:∀env v,foldedSetIterable iter env v=pure v:=by with_unfolding_all(intro _ _;rfl)):WS C fr (.For (.Name x px) iter body [] p) ρ σ N R J X:=λY Z s ok=>by
 refine wpAny_For (yX (h Y Z s ok) λva bG a aO cf b8 bC cE p=> ?_) (hs _)
 obtain⟨xs,yQ,rest,hit,Inv,h0,step,pR⟩:=p
 refine wP (hit Y cf ρ bG va _ bC cE) λit cW p=> ?_
 obtain⟨I,fp,wr,n,P,lw,rfl,W,w5,rfl,pX,hF,b3,j7,hL,CD,E3,Ud,w7⟩:=p
 refine Fw F Tp (R:=R) (X:=X) (NB:=λcj σ'=>N cj (rest σ')) i hx W w5 rfl pX hF b3 j7 hL CD E3 Ud Inv h0 step (λs' cj σ' Z' k' fS hb Mr hN=>⟨cj,rest σ',Z',b8.trans k',w7 s' cj σ' Z' k' fS hb Mr,hN.elim (pR cj σ') id⟩) (λs' v hv=> ?_) λe s' he=>he
 obtain⟨pv,cj,σ',Z',k',fS,rv,hr⟩:=hv
 exact⟨pv,cj,σ',Z',b8.trans k',fS,rv,hr⟩
theorem Ok.mV(ok:Ok C fr Y Z ρ σ s)(o:Obj):Ok C fr Y Z ρ σ {s with heap:=s.heap.push o}/\C.B.get? s.heap.objs.size=none/\Y s.heap.objs.size=none/\s.heap.objs.size≠fr.L/\σ s.heap.objs.size=none:=by
 obtain⟨n1,n2,_,n4,n5⟩:=ok.none_of (bv (aj _))
 exact⟨ok.push (t':=s.toks) o,n1,n2,n4,n5⟩
theorem xT(ok:Ok C fr Y Z ρ σ s){a:Addr}{o:Obj}(hz:Z a=some o):a≠fr.L:=λq=>by subst q;rw[ok.zl]at hz;cases hz
theorem sJ(ok:Ok C fr Y Z ρ σ s){a:Addr}{o:Obj}(hz:Z a=some o):σ a=none:=by
 cases q:σ a with
 |none=>rfl
 |some c=>have:=(ok.own a c q).2.2.1;rw[hz]at this;cases this
noncomputable def pG(x:Str):List PV:=x.cps.toList.map λc=> .str ⟨#[c]⟩
theorem uJ{Z:Zf}{x:Str}{k:Nat}{v:Value}(h:SignAt x k v):∃pv,(pG x)[k]?=some pv/\gj Z pv v:=by
 obtain⟨c,u,hc,rfl⟩:=h
 exact⟨.str ⟨#[c]⟩,by simp[pG,hc],ft _ _⟩
theorem FA(F:aG C fr)(x:Str):kh C fr (.str x) (pG x) σ σ id:=by
 intro Y Z ρ s va E ok r
 obtain⟨t,rfl⟩:=bh r
 cases ha:x.cps.all (·<128)
 ·refine wpAny_pyIter_wide ha ?_
  obtain⟨fS,n1,n2,n4,n5⟩:=ok.mV {cls:= .type "str_iterator",data:= .fields #[.str x t,.int 0 0]}
  refine⟨_,_,_,_,_,_,rfl,Walks.strWide F.handled _ x t,by simp,by simp[pG],λk v Z' _ _ h=>uJ h,λk h ⟨o,ho,hc,_⟩=>⟨o,ho,?_⟩,fS,⟨_,aQ _ rfl,rfl,rfl⟩,by simpa using Ne.symm n4,by simpa using n5,?_,⟨n1,n2⟩,λCK cj σ' Z' _ jf _ _=>jf⟩
  ·unfold lM;rw[hc];decide
  ·intro b hb;simp only[am,aU,or_false]at hb;subst hb;exact⟨_,aQ _ rfl⟩
 ·refine wpAny_pyIter_ascii ha ?_
  obtain⟨fS,n1,n2,n4,n5⟩:=ok.mV {cls:= .type "str_ascii_iterator",data:= .fields #[.str x t,.int 0 0]}
  refine⟨_,_,_,_,_,_,rfl,Walks.strAscii F.handled _ x t,by simp,by simp[pG],λk v Z' _ _ h=>uJ h,λk h ⟨o,ho,hc,_⟩=>⟨o,ho,?_⟩,fS,⟨_,aQ _ rfl,rfl,rfl⟩,by simpa using Ne.symm n4,by simpa using n5,?_,⟨n1,n2⟩,λCK cj σ' Z' _ jf _ _=>jf⟩
  ·unfold lM;rw[hc];decide
  ·intro b hb;simp only[am,aU,or_false]at hb;subst hb;exact⟨_,aQ _ rfl⟩
theorem FC(F:aG C fr)(xs:List PV):kh C fr (.tup xs) xs σ σ id:=by
 intro Y Z ρ s va E ok r
 obtain⟨a,vs,rfl,zt,rl⟩:=fh r
 have ht:=zt.sD ok.vals
 obtain⟨n,hz⟩:=zt
 refine wpAny_pyIter_tuple ht ?_
 obtain⟨fS,n1,n2,n4,n5⟩:=ok.mV {cls:= .type "tuple_iterator",data:= .fields #[.ref a,.int 0 0]}
 have ho:=ok.vals _ _ hz
 have fg:a≠s.heap.objs.size:=ca (cY ho)
 refine⟨_,_,_,_,_,_,rfl,Walks.tuple F.handled _ a fg vs.toArray,by simp,by simp[rl.length],λk v Z' kz hk h=> ?_,λk h ⟨⟨o,ho,hc,_⟩,_⟩=>⟨o,ho,?_⟩,fS,⟨⟨_,aQ _ rfl,rfl,rfl⟩,ht.push _⟩,?_,?_,?_,⟨n1,n2⟩,λCK cj σ' Z' _ jf _ _=>jf⟩
 ·have hv:vs[k]?=some v:=by simpa using h
  have AR:k<xs.length:=by simpa[rl.length]using hk
  have hx:xs[k]?=some xs[k]:=by simp[AR]
  obtain⟨v',Bb,r'⟩:=rl.get hx
  rw[hv]at Bb;cases Bb
  exact⟨_,hx,r'.mono kz⟩
 ·unfold lM;rw[hc];decide
 ·simp only[am,aU,or_false,not_or];exact⟨Ne.symm n4,Ne.symm (xT ok hz)⟩
 ·intro b hb;simp only[am,aU,or_false]at hb
  rcases hb with rfl|rfl
  ·exact n5
  ·exact sJ ok hz
 ·intro b hb;simp only[am,aU,or_false]at hb
  rcases hb with rfl|rfl
  ·exact⟨_,aQ _ rfl⟩
  ·exact⟨_,aH _ ho⟩
theorem sL(F:aG C fr){l:Addr}{xs:List PV}(hc:σ l=some (.list xs)):kh C fr (.loc l) xs σ (σ.del l) (λσ'=>σ'.upd l (.list xs)):=by
 intro Y Z ρ s va E ok r
 obtain rfl:=bu r
 obtain⟨o,ho,vs,n,rfl,rl⟩:=ok.ju l _ hc
 obtain⟨m1,m2,m3,m4⟩:=ok.own l _ hc
 have hl:s.heap.IsList l vs.toArray:=⟨_,ho,rfl,n,rfl⟩
 refine wpAny_pyIter_list hl ?_
 obtain⟨fS,n1,n2,n4,n5⟩:=ok.mV {cls:= .type "list_iterator",data:= .fields #[.ref l,.int 0 0]}
 have fg:l≠s.heap.objs.size:=ca (cY ho)
 refine⟨_,_,_,_,_,_,rfl,Walks.list F.handled _ l fg vs.toArray,by simp,by simp[rl.length],λk v Z' kz hk h=> ?_,λk h ⟨⟨o,ho,hc,_⟩,_⟩=>⟨o,ho,?_⟩,?_,⟨⟨_,aQ _ rfl,rfl,rfl⟩,⟨_,aH _ ho,rfl,n,rfl⟩⟩,?_,?_,?_,⟨n1,n2⟩,?_⟩
 ·have hv:vs[k]?=some v:=by simpa using h
  have AR:k<xs.length:=by simpa[rl.length]using hk
  have hx:xs[k]?=some xs[k]:=by simp[AR]
  obtain⟨v',Bb,r'⟩:=rl.get hx
  rw[hv]at Bb;cases Bb
  exact⟨_,hx,r'.mono kz⟩
 ·unfold lM;rw[hc];decide
 ·exact⟨fS.base,fS.keep,fS.vals,fS.yl,fS.zl,fS.bl,fS.loc,λb d e=>fS.ju b d (St.mq e).2,λb d e=>fS.own b d (St.mq e).2,fS.bq,fS.rest,fS.zn,fS.fz⟩
 ·simp only[am,aU,or_false,not_or];exact⟨Ne.symm n4,Ne.symm m4⟩
 ·intro b hb;simp only[am,aU,or_false]at hb
  rcases hb with rfl|rfl
  ·unfold St.del;split
   ·rfl
   ·exact n5
  ·simp[St.del]
 ·intro b hb;simp only[am,aU,or_false]at hb
  rcases hb with rfl|rfl
  ·exact⟨_,aQ _ rfl⟩
  ·exact⟨_,aH _ ho⟩
 ·intro CK cj σ' Z' kz jf Pe Mr
  have h1:CK.heap.get? l=some {cls:= .type "list",data:= .seq vs.toArray n}:=(Pe l (by simp) fg).trans (aH _ ho)
  have zn:Z' l=none:=by
   cases q:Z' l with
   |none=>rfl
   |some o'=>
    have h2:=jf.vals l o' q
    rw[h1]at h2;cases h2
    have:=(jf.zn l _ q).1
    unfold lM at this;simp at this
  refine⟨jf.base,jf.keep,jf.vals,jf.yl,jf.zl,jf.bl,jf.loc,λb d e=> ?_,λb d e=> ?_,jf.bq,jf.rest,jf.zn,jf.fz⟩
  all_goals replace e:σ'.upd l (.list xs) b=some d:=e
  ·by_cases q:b=l
   ·subst q;rw[St.bE]at e;cases e;exact⟨_,h1,vs,n,rfl,rl.mono kz⟩
   ·rw[St.bA _ _ q]at e;exact jf.ju b d e
  ·by_cases q:b=l
   ·subst q;exact⟨m1,m2,zn,m4⟩
   ·rw[St.bA _ _ q]at e;exact jf.own b d e
noncomputable def sM(a c:Int)(n:Nat):List PV:=(List.range n).map λi=> .int (a+(i:Nat)*c)
theorem ww{a c:Int}{n:Nat}:(sM a c n).length=n:=by simp[sM]
theorem y9(F:aG C fr){a b c:Int}(n:Nat)(hn:Builtin.Range.rangeSize a b c=n)(hs:Builtin.Range.small a b c=true):kh C fr (.xP a b c) (sM a c n) σ σ id:=by
 intro Y Z ρ s va E ok r
 obtain⟨r,t,u,q,rfl,hz⟩:=A3 r
 have ho:=ok.vals _ _ hz
 refine wpAny_pyIter_range (a:=a) (b:=b) (c:=c) ho hs ?_
 obtain⟨fS,n1,n2,n4,n5⟩:=ok.mV {cls:= .type "range_iterator",data:= .fields #[rawInt a,rawInt (Builtin.Range.rangeSize a b c),rawInt c]}
 refine⟨_,_,_,_,_,_,rfl,Walks.range F.handled _ a c n,by simp,by simp[ww],λk v Z' kz hk h=> ?_,λk h st=>⟨_,st,?_⟩,fS,?_,by simpa using Ne.symm n4,by simpa using n5,?_,⟨n1,n2⟩,λCK cj σ' Z' _ jf _ _=>jf⟩
 ·obtain⟨t,rfl⟩:=h
  exact⟨.int (a+k*c),by simp[sM,hk],ct _ _⟩
 ·unfold lM;simp
 ·show Heap.get? _ _=_
  rw[aQ _ rfl,hn];simp
 ·intro b hb;simp only[am,aU,or_false]at hb;subst hb;exact⟨_,aQ _ rfl⟩
theorem Ea(F:aG C fr)(G:dh C)(kvs:List (Int×Int)):kh C fr (.tabI kvs) (kvs.map λp=> .int p.1) σ σ id:=by
 intro Y Z ρ s va E ok r
 obtain⟨a,o,rfl,hz,es,ep,hx,hd,Ms,hsz,E2⟩:=iz r
 have ho:=ok.vals _ _ hz
 have ha:a≠sysModules:=λq=>by
  obtain⟨o',pQ⟩:=G.Iy
  have:=(ok.zn a o hz).2
  rw[q,pQ]at this;cases this
 refine rh ha ⟨o,ho,hx,hd⟩ ?_
 obtain⟨fS,n1,n2,n4,n5⟩:=ok.mV {cls:= .type "dict_keyiterator",data:= .fields #[.ref a,.int 0 0,.int es.size 0,.int ep 0]}
 have fg:a≠s.heap.objs.size:=ca (cY ho)
 refine⟨_,_,_,_,_,_,rfl,Walks.Me F.handled _ a fg es ep,by simp,by simp[hsz],λk v Z' kz hk h=> ?_,λk h ⟨⟨o,ho,hc,_⟩,_⟩=>⟨o,ho,?_⟩,fS,⟨⟨_,aQ _ rfl,rfl,rfl⟩,⟨o,aH _ ho,hx,hd⟩⟩,?_,?_,?_,⟨n1,n2⟩,λCK cj σ' Z' _ jf _ _=>jf⟩
 ·obtain⟨en,Ov,rfl⟩:=h
  rw[hsz]at hk
  obtain⟨t,u,he⟩:=E2 k kvs[k].1 kvs[k].2 (by simp[hk])
  rw[he]at Ov;cases Ov
  exact⟨.int kvs[k].1,by simp[hk],ct _ _⟩
 ·unfold lM;rw[hc];decide
 ·simp only[am,aU,or_false,not_or];exact⟨Ne.symm n4,Ne.symm (xT ok hz)⟩
 ·intro b hb;simp only[am,aU,or_false]at hb
  rcases hb with rfl|rfl
  ·exact n5
  ·exact sJ ok hz
 ·intro b hb;simp only[am,aU,or_false]at hb
  rcases hb with rfl|rfl
  ·exact⟨_,aQ _ rfl⟩
  ·exact⟨_,aH _ ho⟩
theorem za{Z:Zf}:∀{ks:List Int} {vs:List Value},uF ks vs->cJ Z (ks.map .int) vs
 |[],vs,h=>by obtain⟨h,_⟩:=h;simp at h;subst h;exact rfl
 |k::ks,vs,h=>by
  cases vs with
  |nil=>obtain⟨h,_⟩:=h;simp at h
  |cons v vs=>
   obtain⟨hl,hi⟩:=h
   obtain⟨t,ht⟩:=hi 0 k rfl
   simp at ht;subst ht
   exact .cons (ct _ _) (za ⟨by simpa using hl,λj i hj=>by simpa using hi (j+1) i (by simpa using hj)⟩)
noncomputable def lU(ks:List Int):PV:= .tup (ks.map .int)
theorem Eb(F:aG C fr)(G:dh C)(kvs:List (List Int×Int)):kh C fr (.eg kvs) (kvs.map λp=>lU p.1) σ σ id:=by
 intro Y Z ρ s va E ok r
 obtain⟨a,o,rfl,hz,es,ep,hx,hd,Ms,hsz,E2⟩:=iA r
 have ho:=ok.vals _ _ hz
 have ha:a≠sysModules:=λq=>by
  obtain⟨o',pQ⟩:=G.Iy
  have:=(ok.zn a o hz).2
  rw[q,pQ]at this;cases this
 refine rh ha ⟨o,ho,hx,hd⟩ ?_
 obtain⟨fS,n1,n2,n4,n5⟩:=ok.mV {cls:= .type "dict_keyiterator",data:= .fields #[.ref a,.int 0 0,.int es.size 0,.int ep 0]}
 have fg:a≠s.heap.objs.size:=ca (cY ho)
 refine⟨_,_,_,_,_,_,rfl,Walks.Me F.handled _ a fg es ep,by simp,by simp[hsz],λk v Z' kz hk h=> ?_,λk h ⟨⟨o,ho,hc,_⟩,_⟩=>⟨o,ho,?_⟩,fS,⟨⟨_,aQ _ rfl,rfl,rfl⟩,⟨o,aH _ ho,hx,hd⟩⟩,?_,?_,?_,⟨n1,n2⟩,λCK cj σ' Z' _ jf _ _=>jf⟩
 ·obtain⟨en,Ov,rfl⟩:=h
  rw[hsz]at hk
  obtain⟨b,vs,u,zt,iv,he⟩:=E2 k kvs[k].1 kvs[k].2 (by simp[hk])
  rw[he]at Ov;cases Ov
  refine⟨lU kvs[k].1,by simp[hk],?_⟩
  unfold lU
  exact⟨b,vs,rfl,zt.mono kz,za iv⟩
 ·unfold lM;rw[hc];decide
 ·simp only[am,aU,or_false,not_or];exact⟨Ne.symm n4,Ne.symm (xT ok hz)⟩
 ·intro b hb;simp only[am,aU,or_false]at hb
  rcases hb with rfl|rfl
  ·exact n5
  ·exact sJ ok hz
 ·intro b hb;simp only[am,aU,or_false]at hb
  rcases hb with rfl|rfl
  ·exact⟨_,aQ _ rfl⟩
  ·exact⟨_,aH _ ho⟩
end
structure Fn where
 f:Addr
 qual:Str
 scope:Scope
 cd:Value
 names:List Str
 np:Nat
 body:List Stmt
noncomputable abbrev Fn.frame(F:Fn)(L:Addr)(outer:List Env)(A:Around)(lv:Nat):Fm:=⟨F.qual++".<locals>.",F.scope,some F.f,F.cd,F.names,L,outer,A,lv,[],some L,envOf F.qual F.scope L F.f F.cd::outer,L,F.names,[]⟩
theorem Fn.top{F:Fn}{L:Addr}{outer:List Env}{A:Around}{lv:Nat}:hY (F.frame L outer A lv):=⟨rfl,rfl⟩
structure FnAt(C:Ctx)(F:Fn):Prop where
 obj:∃fd o,C.B.get? F.f=some o/\o.data=.func fd/\fd.body=.stmts F.body/\fd.scope=F.scope/\(∀L,callEnv fd L F.f=envOf F.qual F.scope L F.f F.cd)/\C.B.CodeRec fd.code fd.qualname/\
  ∀s vs,C.B.StaysIn s.heap->vs.length=F.np->BindsTo s fd ⟨vs,[]⟩ ((F.names.take F.np).zip vs)
 nodup:F.names.Nodup
 locs:∀x∈F.names,F.scope.names.lookup x=some .local
 cell:∀x∈F.scope.names,x.2≠ .cell
 kind:F.scope.kind=.function
 co:F.scope.isCoroutine=false
 gen:F.scope.isGenerator=false
 YA:F.np<=F.names.length
 Tn:∀x∈F.names,(x==("__debug__":Str))=false
noncomputable def Fn.OY(F:Fn)(args:List PV):b4:=args.map some++List.replicate (F.names.length-F.np) none
noncomputable def Spec(C:Ctx)(F:Fn)(lv:Nat)(args:List PV)(σ:St)(Q:PV->St->Prop)(X:Prop):Prop:=
 ∀L outer A,aG C (F.frame L outer A lv)->hZ C (F.frame L outer A lv) F.body (F.OY args) σ (λ_ σ'=>Q .none σ') Q (λ_ _ _=>False) (λ_=>X)
theorem mw.deeper{A:Around}{n:Nat}(env:Env)(h:mw A (n+1)):mw (A.deeper env) n:=by
 unfold mw at*;show A.depth+1+n<900/\A.units+3+16*n<9000;omega
theorem mw.le{A:Around}{n m:Nat}(k:m<=n)(h:mw A n):mw A m:=by unfold mw at*;omega
theorem nb{α β:Type}:∀(l:List α) (r:List β),((l.zip r).map (·.1)).Sublist l
 |[],_=>by simp
 |a::l,[]=>by simp
 |a::l,b::r=>by simpa using nb l r
theorem uK{ns:List Str}{vs:List Value}(hd:ns.Nodup){i:Nat}{x:Str}{v:Value}(hx:ns[i]?=some x)(hv:vs[i]?=some v):(ns.zip vs).reverse.lookup x=some v:=by
 have key:∀(l:List (Str×Value)),(l.map (·.1)).Nodup->(x,v)∈l->l.lookup x=some v:=by
  intro l
  induction l with
  |nil=>intro _ h;cases h
  |cons p l ih=>
   intro hn hm
   rw[aP,dy]at hn
   obtain⟨a,b⟩:=p
   rw[List.lookup_cons]
   rcases am.mp hm with h|h
   ·cases h;simp
   ·have:x≠a:=λe=>hn.1 (bn.mpr ⟨(x,v),h,e⟩)
    rw[show(x==a)=false by simpa using this]
    exact ih hn.2 h
 refine key _ ?_ ?_
 ·rw[List.map_reverse]
  refine(List.reverse_perm _).nodup_iff.mpr ?_
  exact(nb ns vs).nodup hd
 ·rw[List.mem_reverse]
  refine aT (i:=i) ?_
  rw[jH]
  exact⟨hx,hv⟩
section
variable{C:Ctx}{fr:Fm}{ρ:b4}{σ:St}{Q:PV->St->Prop}{X:Prop}{Y Z:Zf}{s:Shared}
theorem FnAt.Yh{F:Fn}(H:FnAt C F){L:Addr}{outer:List Env}{A:Around}{lv:Nat}(hh:A.handled=none)(YB:A.frames=some (envOf F.qual F.scope L F.f F.cd::outer))(hr:mw A lv):aG C (F.frame L outer A lv):=
 ⟨H.kind,YB,⟨_,rfl,by show F.scope.kind≠_;rw[H.kind];decide,rfl⟩,hh,hr,H.nodup,.inr ⟨rfl,rfl⟩,λx hx=>by show F.scope.names.lookup x=_;exact H.locs x hx,H.Tn⟩
theorem uL(G:dh C)(F:aG C fr){Fn:Fn}(H:FnAt C Fn){lv:Nat}{args:List PV}(hn:args.length=Fn.np)(h:Spec C Fn lv args σ Q X){A':Around}(hf:A'.frames=fr.A.frames)(hh:A'.handled=none)(hr:mw A' (lv+1)):
 ∀Y Z s vs,Ok C fr Y Z ρ σ s->cJ Z args vs->codeAny C.M A' (.call (.ref Fn.f) ⟨vs,[]⟩) (λr s'=>match r with|.ok (.ret v)=>iJ C fr Y Z ρ Q v s'|.ok _=>False|.error e=>gb C fr Y ρ X e s') s:=by
 intro Y Z s vs ok r
 obtain⟨fd,o,ho,hd,Pf,Mt,Ue,Z3,hb⟩:=H.obj
 have Z4:vs.length=Fn.np:=by rw[r.length,hn]
 have zb:A'.depth<recursionLimit:=av (show A'.depth<900 by have:=hr;unfold mw at this;exact ak (ax _ _) this.1) (by decide)
 refine(codeAny_call_def (fd:=fd) (body:=Fn.body) (binds:=(Fn.names.take Fn.np).zip vs) zb (ok.base _ _ ho) hd (G.O0.keeps ok.base) (Z3.keeps ok.base) Pf (hb s vs ok.base Z4)
  (by rw[Mt];exact H.cell) (λx hx=>by rw[Mt];exact H.locs _ (js (List.of_mem_zip hx).1)) (λUf Z5 hk=> ?_) (by rw[Mt];exact H.co) (by rw[Mt];exact H.gen) (by rw[Mt];exact H.kind))
 rw[Ue]
 obtain⟨n1,n2,n3,n4,n5⟩:=ok.none_of (bv (aj s.heap.objs.size))
 obtain⟨m,hm,Pg⟩:=ok.loc
 obtain⟨oL,Ug,YC⟩:=yU hm
 obtain⟨ee,IJ,Z6,Uh⟩:=F.top
 have hA:aG C (Fn.frame s.heap.objs.size fr.wY (A'.deeper (envOf Fn.qual Fn.scope s.heap.objs.size Fn.f Fn.cd)) lv):=
  H.Yh hh (by show Option.map _ A'.frames=_;rw[hf,F.frames];rfl) (mw.deeper _ hr)
 have kY:fR Y (Y.put fr.L oL):=Zf.yN oL ok.yl
 have Z7:Ok C (Fn.frame s.heap.objs.size fr.wY (A'.deeper (envOf Fn.qual Fn.scope s.heap.objs.size Fn.f Fn.cd)) lv) (Y.put fr.L oL) Z (Fn.OY args) σ {s with heap:=Uf,toks:=s.toks+((Fn.names.take Fn.np).zip vs).length}:=by
  refine⟨λb x e=>hk b x (ok.base b x e),λb x e=> ?_,λb x e=>hk b x (ok.vals b x e),?_,n3,n1,⟨_,Z5,λi x pv hx hp=> ?_⟩,λa c e=>let⟨x,hx,q⟩:=ok.ju a c e;⟨x,hk a x hx,q⟩,
   λa c e=> ?_,?_,ok.rest,ok.zn,?_⟩
  ·unfold Zf.put at e;split at e
   ·rename_i q;subst q;cases e;exact hk _ _ Ug
   ·exact hk b x (ok.keep b x e)
  ·show(Y.put fr.L oL) s.heap.objs.size=none
   unfold Zf.put;rw[if_neg n4];exact n2
  ·--the Mu
   have Ui:Fn.names[i]?=some x:=hx
   rcases Nat.lt_or_ge i args.length with hi|hi
   ·have yR:args[i]?=some pv:=by
     unfold Mine.Fn.OY at hp
     rw[cp (by simpa using hi),bo]at hp
     cases q:args[i]?with
     |none=>rw[q]at hp;simp at hp
     |some y=>rw[q]at hp;simp at hp;rw[hp]
    obtain⟨v,hv,rv⟩:=r.get yR
    refine⟨v,uK (List.Sublist.nodup (List.take_sublist _ _) H.nodup) ?_ hv,rv⟩
    rw[j4 (by exact hn▸hi)];exact Ui
   ·exfalso
    unfold Mine.Fn.OY at hp
    rw[cH (by simpa using hi),List.getElem?_replicate]at hp
    split at hp<;>simp at hp
  ·obtain⟨a1,a2,a3,a4⟩:=ok.own a c e
   refine⟨a1,?_,a3,?_⟩
   ·unfold Zf.put;rw[if_neg a4];exact a2
   ·rintro rfl
    rw[n5]at e;cases e
  ·intro e he
   rw[show(Fn.frame s.heap.objs.size fr.wY (A'.deeper (envOf Fn.qual Fn.scope s.heap.objs.size Fn.f Fn.cd)) lv).outer=fr.wY from rfl,IJ]at he
   rcases am.mp he with rfl|he
   ·exact⟨Z6,fr.L,oL,Uh,ok.bl,Zf.il _ _ _,YC⟩
   ·exact(ok.bq.mono kY) e he
  ·intro e he L' Iw
   rw[show(Fn.frame s.heap.objs.size fr.wY (A'.deeper (envOf Fn.qual Fn.scope s.heap.objs.size Fn.f Fn.cd)) lv).outer=fr.wY from rfl,IJ]at he
   rcases am.mp he with rfl|he
   ·rw[Uh]at Iw;cases Iw;exact ok.zl
   ·exact ok.fz e he L' Iw
 have back:∀s' cj σ' Z',fR Z Z'->Ok C (Fn.frame s.heap.objs.size fr.wY (A'.deeper (envOf Fn.qual Fn.scope s.heap.objs.size Fn.f Fn.cd)) lv) (Y.put fr.L oL) Z' cj σ' s'->Ok C fr Y Z' ρ σ' s':=λs' cj σ' Z' kz fS=>by
  refine⟨fS.base,λb x e=>fS.keep b x (kY b x e),fS.vals,ok.yl,fS.fz ee (by show ee∈fr.wY;rw[IJ];exact .head _) _ Uh,ok.bl,⟨m,hm.at' λx hx=> ?_,Pg.mono kz⟩,fS.ju,λa c e=> ?_,ok.bq,fS.rest,fS.zn,λe he=>fS.fz e (by show e∈fr.wY;rw[IJ];exact .tail _ he)⟩
  ·rw[Ug]at hx;cases hx;exact fS.keep _ _ (Zf.il _ _ _)
  ·obtain⟨a1,a2,a3,a4⟩:=fS.own a c e
   have:a≠fr.L:=by rintro rfl;rw[Zf.il]at a2;cases a2
   refine⟨a1,?_,a3,this⟩
   unfold Zf.put at a2;rw[if_neg this]at a2;exact a2
 refine wpAny_mono (h _ _ _ hA _ Z _ Z7) (λf s' x=> ?_) λe s' x=> ?_
 ·cases f with
  |next=>obtain⟨cj,σ',Z',k,fS,q⟩:=x;exact⟨.none,σ',Z',k,back _ _ _ _ k fS,uG,q⟩
  |brk=>obtain⟨_,_,_,_,_,q⟩:=x;exact q.elim
  |cont=>obtain⟨_,_,_,_,_,q⟩:=x;exact q.elim
  |ret v=>obtain⟨pv,cj,σ',Z',k,fS,rv,q⟩:=x;exact⟨pv,σ',Z',k,back _ _ _ _ k fS,rv,q⟩
 ·obtain⟨cj,hX,y,hy⟩:=x
  have hA':=hA
  unfold leaving
  refine wpAny_bind (hy.note hA Fn.top λbG fU FD=> ?_)
  refine fU.H7 FD (fl:=none) λcW a0 gm ht=> ?_
  rcases gm with gm|⟨gm,_⟩
  ·refine⟨hX,y,gm.is,gm.base,gm.new,gm.bq.2.2,.inr (.inl ⟨a0,ht⟩),λb x e n=>gm.DU b x (kY b x e) n,?_,gm.rest⟩
   obtain⟨sl,hs⟩:=gm.DU fr.L oL (Zf.il _ _ _) YC
   obtain⟨o',es,ep,pQ,Ph,r'⟩:=hm
   rw[Ug]at pQ;cases pQ
   exact⟨m,Z,⟨_,es,ep,hs,Ph,r'⟩,Pg⟩
  ·exact absurd rfl gm
theorem w8(G:dh C)(F:aG C fr){Fn:Fn}(H:FnAt C Fn){lv:Nat}{args:List PV}(hn:args.length=Fn.np)(h:Spec C Fn lv args σ Q X){A':Around}(hf:A'.frames=fr.A.frames)(hh:A'.handled=none)(hr:mw A' (lv+1)):
 ∀Y Z s vs,Ok C fr Y Z ρ σ s->cJ Z args vs->wpAny C.M A' (call (.ref Fn.f) vs) (iJ C fr Y Z ρ Q) (gb C fr Y ρ X) s:=
 λY Z s vs ok r=>wpAny_call (uL G F H hn h hf hh hr Y Z s vs ok r)
theorem zd(G:dh C)(F:aG C fr){Fn:Fn}(H:FnAt C Fn){lv:Nat}(hl:lv<fr.lvl){args:List PV}(hn:args.length=Fn.np)(h:Spec C Fn lv args σ Q X):
 WN C fr (λvs=>call (.ref Fn.f) vs) args ρ σ Q X:=w8 G F H hn h rfl F.handled (F.room.le hl)
theorem pH{pos:Pos}{es:List Expr}{QL:List PV->St->Prop}(h:WL C fr pos es ρ σ QL X)(f:Value)(j7:es=[]\/∃x l,backTo pos (starEach es fr.env)=(false,x)::l):
 ∀Y Z s,Ok C fr Y Z ρ σ s->wpAny C.M fr.A (evalArgs f true (backTo pos (starEach es fr.env)) []) (λa s'=>∃vs,a=⟨vs,[]⟩/\yV C fr Y Z ρ QL vs s') (gb C fr Y ρ X) s:=by
 intro Y Z s ok
 have h1:=h Y Z s ok
 rcases j7 with rfl|⟨x,l,e⟩
 ·have h2:wpAny C.M fr.A (spliced []) (yV C fr Y Z ρ QL) (gb C fr Y ρ X) s:=h1
  show wpAny C.M fr.A (evalArgs f true [] []) _ _ s
  unfold evalArgs
  show wpAny C.M fr.A (spliced []>>=_) _ _ s
  refine wpAny_bind (wpAny_mono h2 (λvs s' q=> ?_) λ_ _ x=>x)
  refine wpAny_holding ?_
  exact wpAny_bind (wpAny_pure (wpAny_bind (wpAny_pure (wpAny_pure ⟨vs,rfl,q⟩))))
 ·rw[e]at h1⊢
  exact Calls.evalArgs_plain (wpAny_mono h1 (λvs s' q=>⟨vs,rfl,q⟩) λ_ _ x=>x)
theorem qx(G:dh C)(F:aG C fr){Fn:Fn}(H:FnAt C Fn){x:Str}{p pos:Pos}{es:List Expr}{lv:Nat}(hk:fr.env.kindOf x=some .globalImplicit)(hm:C.mg x=some (.ref Fn.f))(hl:lv<fr.lvl)
 (h:WL C fr pos es ρ σ (λas aO=>as.length=Fn.np/\Spec C Fn lv as aO Q X) X)
 (j7:es=[]\/∃x l,backTo pos (starEach es fr.env)=(false,x)::l:=by with_unfolding_all(first|exact .inl rfl|exact .inr ⟨_,_,rfl⟩)) (hd:(x==("__debug__":Str))=false:=by decide):
 WE C fr (.Call (.Name x p) es [] pos) ρ σ Q X:=λY Z s ok=>by
 refine wpAny_Call_NameR (Name_function_global F.kind hk (loadGlobal_global (G.hU.keeps ok.base) hm ?_) hd)
 obtain⟨fd,o,ho,Uj,_⟩:=H.obj
 refine callWith_function (o:=o) (fd:=fd) (wpAny_mono (pH h (.ref Fn.f) j7 Y Z s ok) (λa bG ⟨vs,ea,as,aO,cf,b8,bC,cE,hn,hs⟩=> ?_) λ_ _ x=>x)
 subst ea
 exact⟨⟨bC.base _ _ ho,Uj⟩,(wP (zd G F H hl hn hs Y cf bG vs bC cE) λ_ _ x=>x.le b8)⟩
end
section
variable{C:Ctx}{fr:Fm}{ρ:b4}{σ:St}{Q:PV->St->Prop}{X:Prop}{Y Z:Zf}{s:Shared}{a b:Int}{x y:Str}
theorem FE(h:Q (.int (a+b)) σ):W2 C fr (binaryOp .Add) (.int a) (.int b) ρ σ Q X:=λY Z s va vb ok ra rb=>by
 obtain⟨t,rfl⟩:=aK ra;obtain⟨u,rfl⟩:=aK rb
 exact AutoIntOps.add_0 (bM ok.toks (ct _ _) h)
theorem CM(h:Q (.int (a+b)) σ):W2 C fr (inplaceOp .Add) (.int a) (.int b) ρ σ Q X:=λY Z s va vb ok ra rb=>by
 obtain⟨t,rfl⟩:=aK ra;obtain⟨u,rfl⟩:=aK rb
 exact AutoIntOps.iadd_0 (bM ok.toks (ct _ _) h)
theorem Mv(h:Q (.int (a-b)) σ):W2 C fr (binaryOp .Sub) (.int a) (.int b) ρ σ Q X:=λY Z s va vb ok ra rb=>by
 obtain⟨t,rfl⟩:=aK ra;obtain⟨u,rfl⟩:=aK rb
 exact AutoIntOps.sub_0 (bM ok.toks (ct _ _) h)
theorem Bc(hm:IntMulOk a b)(h:Q (.int (a*b)) σ):W2 C fr (binaryOp .Mult) (.int a) (.int b) ρ σ Q X:=λY Z s va vb ok ra rb=>by
 obtain⟨t,rfl⟩:=aK ra;obtain⟨u,rfl⟩:=aK rb
 exact AutoIntOps.mul_0 (bM ok.toks (ct _ _) h) hm
theorem xU(h1: -(2^64)<b)(h2:b<2^64):IntMulOk a b:= .of_right (intBits_le_64 h1 h2)
theorem sN(hb:0<=b):a.fdiv b=a/b:=by first|exact Int.fdiv_eq_ediv_of_nonneg a hb|(rw[Int.fdiv_eq_ediv];simp[hb])
theorem w9(hb:0<=b):a.fmod b=a%b:=by first|exact Int.fmod_eq_emod_of_nonneg a hb|(rw[Int.fmod_eq_emod];simp[hb])
theorem IK(hb:0<b)(Ou:b<1073741824)(h:Q (.int (a/b)) σ):W2 C fr (binaryOp .FloorDiv) (.int a) (.int b) ρ σ Q X:=λY Z s va vb ok ra rb=>by
 obtain⟨t,rfl⟩:=aK ra;obtain⟨u,rfl⟩:=aK rb
 refine AutoIntOps.floordiv_1 (by simp;exactλe=>absurd (e▸hb) (by decide)) (by rw[PyProof.noPylong_small (by omega)];simp) (bM ok.toks (ct _ _) ?_)
 rw[sN (by exact Int.le_of_lt hb)];exact h
theorem FG(hb:0<b)(Ou:b<1073741824)(h:Q (.int (a/b)) σ):W2 C fr (inplaceOp .FloorDiv) (.int a) (.int b) ρ σ Q X:=λY Z s va vb ok ra rb=>by
 obtain⟨t,rfl⟩:=aK ra;obtain⟨u,rfl⟩:=aK rb
 refine AutoIntOps.ifloordiv_1 (by simp;exactλe=>absurd (e▸hb) (by decide)) (by rw[PyProof.noPylong_small (by omega)];simp) (bM ok.toks (ct _ _) ?_)
 rw[sN (by exact Int.le_of_lt hb)];exact h
theorem sO(hb:0<b)(h:Q (.int (a%b)) σ):W2 C fr (binaryOp .Mod) (.int a) (.int b) ρ σ Q X:=λY Z s va vb ok ra rb=>by
 obtain⟨t,rfl⟩:=aK ra;obtain⟨u,rfl⟩:=aK rb
 refine AutoIntOps.mod_1 (by simp;exactλe=>absurd (e▸hb) (by decide)) (bM ok.toks (ct _ _) ?_)
 rw[w9 (by exact Int.le_of_lt hb)];exact h
theorem ze(hb:0<=b)(Ou:b<=100)(h:Q (.int (10^b.toNat)) σ):W2 C fr (binaryOp .Pow) (.int 10) (.int b) ρ σ Q X:=λY Z s va vb ok ra rb=>by
 obtain⟨t,rfl⟩:=aK ra;obtain⟨u,rfl⟩:=aK rb
 by_cases h0:b=0
 ·subst h0;exact AutoIntOps.pow_0 (by decide) (by decide) (bM ok.toks (ct _ _) h)
 ·refine AutoIntOps.pow_4 (by exact hb) (by simpa using h0) (by decide) (by decide) ?_ (bM ok.toks (ct _ _) h)
  show¬(decide (_>_)=true)
  rw[decide_eq_true_iff]
  have:((Builtin.Int.intBits 10:Nat):Int)=4:=by decide
  rw[this]
  have h2:(bitsLine:Int)>=400:=by decide
  exact KZ (c:=[_]) (d:=[_]) 0 [.Ie (.w 0) (.n 100),.Ie (.n 400) (.c (.v 0))] (.no (.A2 (.c (.v 0)) (.m 4 (.w 0)))) [4,1] (by exact Eq.refl true) Ou h2
theorem Bd(h:Q (.int (-a)) σ):W1 C fr (unaryOp .USub) (.int a) ρ σ Q X:=λY Z s va ok ra=>by
 obtain⟨t,rfl⟩:=aK ra
 exact P.neg_int (bM ok.toks (ct _ _) h)
theorem Mw{b:Bool}(h:Q (.bool (!b)) σ):W1 C fr (unaryOp .Not) (.bool b) ρ σ Q X:=λY Z s va ok ra=>by
 obtain rfl:=kZ ra
 exact not_value (wpAny_truthy_bool (bM ok (cA _) h))
theorem Pj(h:Q (.bool (decide (a=b))) σ):W2 C fr (compareOp .Eq) (.int a) (.int b) ρ σ Q X:=λY Z s va vb ok ra rb=>by
 obtain⟨t,rfl⟩:=aK ra;obtain⟨u,rfl⟩:=aK rb
 exact P.eq_int (bM ok (cA _) (by rwa[show(a==b)=decide (a=b)from rfl]))
theorem Pk(h:Q (.bool (!decide (a=b))) σ):W2 C fr (compareOp .NotEq) (.int a) (.int b) ρ σ Q X:=λY Z s va vb ok ra rb=>by
 obtain⟨t,rfl⟩:=aK ra;obtain⟨u,rfl⟩:=aK rb
 exact P.ne_int (bM ok (cA _) (by rwa[show(a !=b)= !decide (a=b)from rfl]))
theorem CN(h:Q (.bool (decide (a<b))) σ):W2 C fr (compareOp .Lt) (.int a) (.int b) ρ σ Q X:=λY Z s va vb ok ra rb=>by
 obtain⟨t,rfl⟩:=aK ra;obtain⟨u,rfl⟩:=aK rb
 exact P.lt_int (bM ok (cA _) h)
theorem Pm(h:Q (.bool (decide (a<=b))) σ):W2 C fr (compareOp .LtE) (.int a) (.int b) ρ σ Q X:=λY Z s va vb ok ra rb=>by
 obtain⟨t,rfl⟩:=aK ra;obtain⟨u,rfl⟩:=aK rb
 exact P.le_int (bM ok (cA _) h)
theorem Pn(h:Q (.bool (decide (b<a))) σ):W2 C fr (compareOp .Gt) (.int a) (.int b) ρ σ Q X:=λY Z s va vb ok ra rb=>by
 obtain⟨t,rfl⟩:=aK ra;obtain⟨u,rfl⟩:=aK rb
 exact P.gt_int (bM ok (cA _) h)
theorem zg(h:Q (.bool (decide (b<=a))) σ):W2 C fr (compareOp .GtE) (.int a) (.int b) ρ σ Q X:=λY Z s va vb ok ra rb=>by
 obtain⟨t,rfl⟩:=aK ra;obtain⟨u,rfl⟩:=aK rb
 exact P.ge_int (bM ok (cA _) h)
theorem str_beq:(x.cps.toList==y.cps.toList)=decide (x=y):=by
 obtain⟨x⟩:=x;obtain⟨y⟩:=y
 by_cases h:x=y
 ·subst h;simp
 ·have:x.toList≠y.toList:=λe=>h (Array.toList_inj.mp e)
  simp[h,this]
theorem Mx(h:Q (.bool (decide (x=y))) σ):W2 C fr (compareOp .Eq) (.str x) (.str y) ρ σ Q X:=λY Z s va vb ok ra rb=>by
 obtain⟨t,rfl⟩:=bh ra;obtain⟨u,rfl⟩:=bh rb
 exact P.eq_str (bM ok (cA _) (by rwa[str_beq]))
theorem My(h:Q (.bool (!decide (x=y))) σ):W2 C fr (compareOp .NotEq) (.str x) (.str y) ρ σ Q X:=λY Z s va vb ok ra rb=>by
 obtain⟨t,rfl⟩:=bh ra;obtain⟨u,rfl⟩:=bh rb
 exact P.ne_str (bM ok (cA _) (by rw[show(x.cps.toList !=y.cps.toList)= !(x.cps.toList==y.cps.toList)from rfl,str_beq];exact h))
theorem Mz(h:Q (.bool (!decide (y.cps.toList<x.cps.toList))) σ):W2 C fr (compareOp .LtE) (.str x) (.str y) ρ σ Q X:=λY Z s va vb ok ra rb=>by
 obtain⟨t,rfl⟩:=bh ra;obtain⟨u,rfl⟩:=bh rb
 exact P.le_str (bM ok (cA _) h)
theorem IL(hl:x.length+y.length<=sizeLine)(h:Q (.str (x++y)) σ):W2 C fr (binaryOp .Add) (.str x) (.str y) ρ σ Q X:=λY Z s va vb ok ra rb=>by
 obtain⟨t,rfl⟩:=bh ra;obtain⟨u,rfl⟩:=bh rb
 exact SB.add (λt' k=>bM ok.toks (ft _ _) h) hl
theorem IM(hl:MulOk x b)(h:Q (.str (Txt.mul x b)) σ):W2 C fr (binaryOp .Mult) (.str x) (.int b) ρ σ Q X:=λY Z s va vb ok ra rb=>by
 obtain⟨t,rfl⟩:=bh ra;obtain⟨u,rfl⟩:=aK rb
 exact SB.mul hl (λt' k=>bM ok.toks (ft _ _) h)
theorem FH{c:Nat}(hr:fitsSsize b=true)(hc:(seqIndex? b x.length).bind (x.cps[·]?)=some c)(h:Q (.str ⟨#[c]⟩) σ):W2 C fr getItem (.str x) (.int b) ρ σ Q X:=λY Z s va vb ok ra rb=>by
 obtain⟨t,rfl⟩:=bh ra;obtain⟨u,rfl⟩:=aK rb
 refine P.getItem_str ?_ hc (bM ok.toks (ft _ _) h)
 unfold fitsSsize at hr;simp at hr⊢;omega
theorem MA(h:Q (.int (if a<0 then-a else a)) σ):WN C fr (λvs=>call (.builtin "abs") vs) [.int a] ρ σ Q X:=λY Z s vs ok r=>by
 obtain⟨v,_,rfl,r,rfl⟩:=r;obtain⟨t,rfl⟩:=aK r
 exact call_abs_int λu tk=>bM ok.toks (ct _ _) h
theorem MB{c:Nat}(h:Q (.int c) σ):WN C fr (λvs=>call (.builtin "ord") vs) [.str ⟨#[c]⟩] ρ σ Q X:=λY Z s vs ok r=>by
 obtain⟨v,_,rfl,r,rfl⟩:=r;obtain⟨t,rfl⟩:=bh r
 exact P.ord_of_char (bM ok.toks (ct _ _) h)
theorem MC(h0:0<=a)(h1:a<=1114111)(h:Q (.str ⟨#[a.toNat]⟩) σ):WN C fr (λvs=>call (.builtin "chr") vs) [.int a] ρ σ Q X:=λY Z s vs ok r=>by
 obtain⟨v,_,rfl,r,rfl⟩:=r;obtain⟨t,rfl⟩:=aK r
 exact P.chr_of_int (by simp;omega) (bM ok.toks (ft _ _) h)
theorem Ec(hb:0<b)(Ou:b<2^60)(h:Q (.tup [.int (a/b),.int (a%b)]) σ):WN C fr (λvs=>call (.builtin "divmod") vs) [.int a,.int b] ρ σ Q X:=λY Z s vs ok r=>by
 obtain⟨v,_,rfl,r,w,_,rfl,r',rfl⟩:=r;obtain⟨t,rfl⟩:=aK r;obtain⟨u,rfl⟩:=aK r'
 have Uk:b.natAbs.log2<9000:=by
  have:b.natAbs.log2<60:=(Nat.log2_lt (by omega)).mpr (by omega)
  exact aa this (by decide)
 refine divmod_int (by exactλe=>absurd (e▸hb) (by decide)) ?_ (.inl (PyProof.noPylong_of_log2 Uk))
 obtain⟨fS,k⟩:=ok.KP (t':=s.toks+1+1) (bv (aj _)) (λ_ _ e=>aH {cls:= .type "tuple",data:= .seq #[.int (a.fdiv b) s.toks,.int (a.fmod b) (s.toks+1)]} e) (aQ _ rfl) (.inl rfl)
 refine⟨.tup [.int (a/b),.int (a%b)],σ,_,k,fS,?_,h⟩
 exact⟨_,_,rfl,⟨0,Zf.il _ _ _⟩,by exact⟨_,_,rfl,by rw[<-sN (by exact Int.le_of_lt hb)];exact ct _ _,_,_,rfl,by rw[<-w9 (by exact Int.le_of_lt hb)];exact ct _ _,rfl⟩⟩
noncomputable section
noncomputable def dn.ty(c:dn):Option String:=dn.rec (λ_=>some "list") (λ_=>some "dict") (λ_=>some "dict") (λ_=>some "dict") (λ_ _=>none) (λ_ _ _=>none) (λ_=>none) (λ_ _=>none) (λ_ _=>none) c
noncomputable def Ow(σ:St)(p:PV):Option String:=PV.casesOn (motive_1:=λ_=>Option String) p none (λ_=>none) (λ_=>none) (λ_=>some "str") (λ_=>some "tuple") (λ_=>some "dict") (λ_=>some "dict") (λ_ _ _=>none) (λa=>(σ a).bind dn.ty) λ_=>none
end
theorem gU.dict{kvs:List (Int×Int)}{o:Obj}(x:gU kvs o):o.dict=none:=x.casesOn λ_ _ a _ _ _ _=>a.2.1
theorem eM.dict{Z:Zf}{kvs:List (List Int×Int)}{o:Obj}(x:eM Z kvs o):o.dict=none:=x.casesOn λ_ _ a _ _ _ _=>a.2.1
theorem gU.cls{kvs:List (Int×Int)}{o:Obj}(x:gU kvs o):o.cls=.type "dict":=x.casesOn λ_ _ a _ _ _ _=>a.1
theorem eM.cls{Z:Zf}{kvs:List (List Int×Int)}{o:Obj}(x:eM Z kvs o):o.cls=.type "dict":=x.casesOn λ_ _ a _ _ _ _=>a.1
theorem qy{a:Addr}{o:Obj}{T:String}(h:s.heap.get? a=some o)(hc:o.cls=.type T)(hd:o.dict=none):s.TypeIs (.ref a) T/\(∀b,Value.ref a=.ref b->∃ob,s.heap.get? b=some ob/\ob.dict=none):=⟨⟨o,h,hc⟩,λb e=>Value.ref.inj e▸⟨o,h,hd⟩⟩
theorem Be{v:PV}{T:String}(h:Ow σ v=some T)(ok:Ok C fr Y Z ρ σ s){w:Value}(r:gj Z v w):s.TypeIs w T/\(∀b,w=.ref b->∃ob,s.heap.get? b=some ob/\ob.dict=none):=by
 cases v
 case str x=>exact(bh r).elim λt e=>e▸ao h▸⟨typeIs_str _ _ _,nofun⟩
 case tup xs=>exact(fh r).elim λa e=>e.elim λvs e=>e.1▸e.2.1.elim λn hz=>qy (ok.vals _ _ hz) (congrArg Value.type (ao h)) rfl
 case tabI kvs=>exact(iz r).elim λa e=>e.elim λo e=>e.1▸qy (ok.vals _ _ e.2.1) (ao h▸e.2.2.cls) e.2.2.dict
 case eg kvs=>exact(iA r).elim λa e=>e.elim λo e=>e.1▸qy (ok.vals _ _ e.2.1) (ao h▸e.2.2.cls) e.2.2.dict
 case loc l=>
  exact(ah.mp h).elim λc h=>(ok.ju l c h.1).elim λo ho=>bu r▸by
   have q:=h.2
   cases c
   case list xs=>exact ho.2.elim λvs e=>e.elim λn e=>qy ho.1 (e.1▸congrArg Value.type (ao q)) (e.1▸rfl)
   case cg kvs=>exact ho.2.elim λws e=>e.2.elim λes e=>e.elim λep e=>qy ho.1 (ao q▸e.1.1) e.1.2.1
   case m7 kvs=>exact qy ho.1 (ao q▸gU.cls ho.2) (gU.dict ho.2)
   case hV kvs=>exact qy ho.1 (ao q▸eM.cls ho.2) (eM.dict ho.2)
   all_goals cases q
 all_goals cases h
structure BM(T:String)(name:Str)(id:String):Prop where
 plain:PlainAttrs T
 slot:Slot T name id
 ty:typeOf (.builtin id)=pure (.type "method_descriptor")
theorem gx{T id:String}{o:Expr}{name:Str}{xV pos:Pos}{es:List Expr}(B:BM T name id)
 (h:WE C fr o ρ σ (λov aO=>Ow aO ov=some T/\WL C fr pos es ρ aO (λas bX=>WN C fr (λvs=>call (.builtin id) vs) (ov::as) ρ bX Q X) X) X)
 (j7:es=[]\/∃x l,backTo pos (starEach es fr.env)=(false,x)::l:=by with_unfolding_all(first|exact .inl rfl|exact .inr ⟨_,_,rfl⟩))
 (rq:∀env,attributeBase o name env (eval o env)=eval o env:=by with_unfolding_all(intro _;rfl))
 (IN:∀env,((backTo pos (starEach es env)).all (λx=> !x.1)&&(backToKw pos (keywordEach [] env)).all (λx=>x.1.isSome)
  &&decide (es.length+([]:List Keyword).length+(if([]:List Keyword).isEmpty then 0 else 1)<30))=true:=by with_unfolding_all(intro _;rfl))
 (FJ:(xV.endLine==pos.line)=true:=by ac_rfl):WE C fr (.Call (.Attribute o name xV) es [] pos) ρ σ Q X:=λY Z s ok=>by
 refine wpAny_Call_method (rq _) (IN _) FJ B.plain B.slot B.ty (wpAny_mono (h Y Z s ok) (λov bG ⟨a,aO,cf,b8,bC,cE,hp,hl⟩=> ?_) λ_ _ x=>x)
 obtain⟨hT,hd⟩:=Be hp bC cE
 refine⟨hT,hd,callWith_builtin ?_ (wpAny_mono (pH hl (.builtin id) j7 Y cf bG bC) (λu cW ⟨vs,eu,as,bX,fq,cT,b3,ia,hq⟩=> ?_) λ_ _ x=>x)⟩
 ·have:=IN fr.env
  simp only[Bool.and_eq_true]at this
  have h1:=this.1.1
  cases q:(backTo pos (starEach es fr.env)).any (·.1)with
  |false=>rfl
  |true=>
   obtain⟨z,hz,ow⟩:=List.any_eq_true.mp q
   have:=aB.mp h1 z hz
   rw[ow]at this;cases this
 ·subst eu
  exact(wP (hq Y fq cW (ov::vs) b3 (.cons (cE.mono cT) ia)) λ_ _ x=>x.le (b8.trans cT))
theorem iq(G:dh C)(F:aG C fr){id:String}{x:Str}{p pos:Pos}{es:List Expr}(hk:fr.env.kindOf x=some .globalImplicit)(hm:C.mg x=none)(hb:C.mb x=some (.builtin id))
 (h:WL C fr pos es ρ σ (λas aO=>WN C fr (λvs=>call (.builtin id) vs) as ρ aO Q X) X)
 (j7:es=[]\/∃x l,backTo pos (starEach es fr.env)=(false,x)::l:=by with_unfolding_all(first|exact .inl rfl|exact .inr ⟨_,_,rfl⟩)) (hs:(backTo pos (starEach es fr.env)).any (·.1)=false:=by ac_rfl) (hd:(x==("__debug__":Str))=false:=by decide):
 WE C fr (.Call (.Name x p) es [] pos) ρ σ Q X:=λY Z s ok=>by
 refine wpAny_Call_NameR (Name_function_global F.kind hk (loadGlobal_builtin (G.hU.keeps ok.base) hm (G.T7.keeps ok.base) hb ?_) hd)
 refine callWith_builtin hs (wpAny_mono (pH h (.builtin id) j7 Y Z s ok) (λu bG ⟨vs,eu,as,aO,cf,b8,bC,cE,hq⟩=> ?_) λ_ _ x=>x)
 subst eu
 exact(wP (hq Y cf bG vs bC cE) λ_ _ x=>x.le b8)
theorem tm(G:dh C)(F:aG C fr){T:String}{x:Str}{p pos:Pos}{es:List Expr}(hk:fr.env.kindOf x=some .globalImplicit)(hm:C.mg x=none)(hb:C.mb x=some (.type T))
 (h:WL C fr pos es ρ σ (λas aO=>WN C fr (λvs=>call (.type T) vs) as ρ aO Q X) X)
 (j7:es=[]\/∃x l,backTo pos (starEach es fr.env)=(false,x)::l:=by with_unfolding_all(first|exact .inl rfl|exact .inr ⟨_,_,rfl⟩)) (hs:(backTo pos (starEach es fr.env)).any (·.1)=false:=by ac_rfl) (hd:(x==("__debug__":Str))=false:=by decide):
 WE C fr (.Call (.Name x p) es [] pos) ρ σ Q X:=λY Z s ok=>by
 refine wpAny_Call_NameR (Name_function_global F.kind hk (loadGlobal_builtin (G.hU.keeps ok.base) hm (G.T7.keeps ok.base) hb ?_) hd)
 refine PySem.callWith_type hs (wpAny_mono (pH h (.type T) j7 Y Z s ok) (λu bG ⟨vs,eu,as,aO,cf,b8,bC,cE,hq⟩=> ?_) λ_ _ x=>x)
 subst eu
 exact(wP (hq Y cf bG vs bC cE) λ_ _ x=>x.le b8)
theorem sP{base:Expr}{o r:Value}{A:Around}{P:Unit->Shared->Prop}{E:Value->Shared->Prop}(h:P () s):wpAny C.M A (letTemporaryGo base o r) P E s:=by
 have k:wpAny C.M A (letTemporaryGo (.Constant .none 0 ⟨0,0,0,0⟩) o r) P E s:=by
  cases o
  case ref a=>exact wpAny_bind (wpAny_holding (wpAny_runValue (codeAny_builtin entry_let_go (show wpAny _ _ (ret .none) _ _ s from wpAny_pure (wpAny_pure h)))))
  all_goals exact wpAny_pure h
 cases base
 case Name=>exact wpAny_pure h
 all_goals exact(show letTemporaryGo _ o r=letTemporaryGo (.Constant .none 0 ⟨0,0,0,0⟩) o r by rfl')▸k
theorem oy{T:String}(h:T="list"\/T="dict"\/T="str"\/T="tuple"):∃id,typeLookup (.type T) "__getitem__"=pure (some (.builtin id)):=by
 rcases h with rfl|rfl|rfl|rfl
 ·exact⟨_,list_getitem_lookup⟩
 ·exact⟨_,F.slot_dict_getitem.lookup⟩
 ·exact⟨_,F.slot_str_getitem.lookup⟩
 ·exact⟨_,F.slot_tuple_getitem.lookup⟩
theorem xW{T:String}{o i:Expr}{pos:Pos}(hT:T="list"\/T="dict"\/T="str"\/T="tuple")
 (h:WE C fr o ρ σ (λov aO=>WE C fr i ρ aO (λiv bX=>Ow bX ov=some T/\W2 C fr getItem ov iv ρ bX Q X) X) X)
 (hs:∀ov iv,subscripted i false ov iv=operate [ov,iv] (getItem ov iv):=by with_unfolding_all(intros;rfl)):WE C fr (.Subscript o i pos) ρ σ Q X:=λY Z s ok=>by
 rw[arm_eval_Subscript]
 refine wpAny_bind (wV (h Y Z s ok) λov bG a aO cf b8 bC cE fU=>wpAny_bind (wpAny_holding (wpAny_mono (fU Y cf bG bC) (λiv cW ⟨b,bX,fq,cT,b3,ia,hp,gm⟩=>wpAny_bind (wpAny_standAt ?_)) λ_ _ x=>x)))
 obtain⟨Po,_⟩:=Be hp b3 (cE.mono cT)
 obtain⟨id,hl⟩:=oy hT
 refine wpAny_bind ?_
 rw[getitemInPython_of_ne Po.not_modules]
 refine wpAny_bind (wpAny_specialOf Po hl ?_)
 refine wpAny_pure ?_
 rw[hs]
 refine wpAny_bind (wpAny_operating (wP (gm Y fq cW ov iv b3 (cE.mono cT) ia) λr iL x=>wpAny_bind (sP (wpAny_pure (x.le (b8.trans cT))))))
theorem K3{xs:List PV}{vs:List Value}(r:cJ Z xs vs){k:Nat}{pv:PV}(h:xs[k]?=some pv):∃v,vs.toArray[k]?=some v/\gj Z pv v:=by
 obtain⟨v,hv,q⟩:=r.get h;exact⟨v,by simpa using hv,q⟩
theorem eD{l:Addr}{xs:List PV}{pv:PV}(hc:σ l=some (.list xs))(h0:0<=a)(h1:a<2^63)(hx:xs[a.toNat]?=some pv)(h:Q pv σ):W2 C fr getItem (.loc l) (.int a) ρ σ Q X:=λY Z s va vb ok ra rb=>by
 obtain rfl:=bu ra;obtain⟨u,rfl⟩:=aK rb
 obtain⟨o,ho,vs,n,rfl,rl⟩:=ok.ju l _ hc
 obtain⟨v,hv,rv⟩:=K3 rl hx
 exact wpAny_getItem_list ⟨_,ho,rfl,n,rfl⟩ h0 h1 hv (bM ok rv h)
theorem oz{xs:List PV}{pv:PV}(h0:0<=a)(h1:a<2^63)(hx:xs[a.toNat]?=some pv)(h:Q pv σ):W2 C fr getItem (.tup xs) (.int a) ρ σ Q X:=λY Z s va vb ok ra rb=>by
 obtain⟨t,vs,rfl,⟨n,hz⟩,rl⟩:=fh ra;obtain⟨u,rfl⟩:=aK rb
 obtain⟨v,hv,rv⟩:=K3 rl hx
 have fg:a.toNat<vs.toArray.size:=(fP.mp hv).1
 refine P.getItem_tuple (ok.vals _ _ hz) (by exact KZ (c:=[]) (d:=[_]) 0 [.Ie (.n 0) (.w 0)] (.Ie (.g (.n 9223372036854775808)) (.w 0)) [1] (by exact Eq.refl true) h0) h1 (k:=a.toNat) ?_ hv (bM ok rv h)
 unfold seqIndex?
 have:¬a<0:=by exact eH.mpr h0
 simp[this]at fg⊢;omega
theorem pI{l:Addr}{xs ys:List PV}{vs:List Value}{n:Nat}(ok:Ok C fr Y Z ρ σ s)(hc:σ l=some (.list xs))(ho:IsL s.heap l vs.toArray n){us:List Value}{t':Nat}(f:Array Value->Array Value)(hf:f vs.toArray=us.toArray)(hr:cJ Z ys us):
 Ok C fr Y Z ρ (σ.upd l (.list ys)) {s with heap:=s.heap.update l (Obj.mapSeq f),toks:=t'}:=
 ok.turn hc (jS ..) (IsL.update ho f) (by rw[hf];exact⟨us,_,rfl,hr⟩)
end
section
variable{C:Ctx}{fr:Fm}{ρ:b4}{σ:St}{Q:PV->St->Prop}{X:Prop}{Y Z:Zf}{s:Shared}{a b c:Int}{x y:Str}
theorem ki{v:PV}{vs:List Value}(r:cJ Z [v] vs):∃w,vs=[w]/\gj Z v w:=by obtain⟨w,_,rfl,r,rfl⟩:=r;exact⟨w,rfl,r⟩
theorem jJ{v v':PV}{vs:List Value}(r:cJ Z [v,v'] vs):∃w w',vs=[w,w']/\gj Z v w/\gj Z v' w':=by
 obtain⟨w,_,rfl,r,w',_,rfl,r',rfl⟩:=r;exact⟨w,w',rfl,r,r'⟩
theorem rx{v v' YD:PV}{vs:List Value}(r:cJ Z [v,v',YD] vs):∃w w' IP,vs=[w,w',IP]/\gj Z v w/\gj Z v' w'/\gj Z YD IP:=by
 obtain⟨w,_,rfl,r,w',_,rfl,r',IP,_,rfl,Z8,rfl⟩:=r;exact⟨w,w',IP,rfl,r,r',Z8⟩
theorem mB(ok:Ok C fr Y Z ρ σ s){xs:List PV}{vs:List Value}{t':Nat}(r:cJ Z xs vs)(h:∀l,σ l=none->Q (.loc l) (σ.upd l (.list xs))):
 iJ C fr Y Z ρ Q (.ref s.heap.objs.size) {s with heap:=s.heap.push {cls:= .type "list",data:= .seq vs.toArray},toks:=t'}:=by
 have hn:s.heap.get? s.heap.objs.size=none:=bv (aj _)
 exact⟨.loc s.heap.objs.size,_,Z,fR.refl _,ok.alloc (c:= .list xs) hn (λb o e=>aH _ e) (aQ _ rfl) ⟨vs,0,rfl,r⟩,im _,h _ (ok.none_of hn).2.2.2.2⟩
theorem sQ{l:Addr}{xs:List PV}{v:PV}(hc:σ l=some (.list xs))(hsz:xs.length<=sizeLine)(h:Q .none (σ.upd l (.list (xs++[v])))):
 WN C fr (λvs=>call (.builtin "list.append") vs) [.loc l,v] ρ σ Q X:=λY Z s vs ok r=>by
 obtain⟨w,w',rfl,r1,r2⟩:=jJ r
 obtain rfl:=bu r1
 obtain⟨o,ho,us,n,rfl,rl⟩:=ok.ju l _ hc
 refine call_meets F.slot_list_append ⟨_,ho,rfl⟩ F.entry_list_append (F.args_list_append_2 _ _) (list_append l us.toArray n w' (by rw[List.size_toArray,rl.length];exact hsz)) ⟨ho,?_⟩
 exact⟨.none,_,Z,fR.refl _,pI ok hc ho (us:=us++[w']) (λx=>x.push w') (by simp) (rl.append (.one r2)),uG,h⟩
theorem MD{l:Addr}{xs:List PV}{v:PV}(hc:σ l=some (.list (xs++[v])))(hsz:xs.length+1<=sizeLine)(h:Q v (σ.upd l (.list xs))):
 WN C fr (λvs=>call (.builtin "list.pop") vs) [.loc l] ρ σ Q X:=λY Z s vs ok r=>by
 obtain⟨w,rfl,r1⟩:=ki r
 obtain rfl:=bu r1
 obtain⟨o,ho,us,n,rfl,rl⟩:=ok.ju l _ hc
 have FK:=rl.length
 simp at FK
 have hy:us.toArray[us.toArray.size-1]?=some (us[us.length-1]'(by exact FK▸aj _)):=by simp[FK]
 refine call_meets F.slot_list_pop ⟨_,ho,rfl⟩ F.entry_list_pop (F.args_list_pop_1 _) (MeetsSeq.list_pop_last l us.toArray n _ hy (by simp[FK];exact hsz)) ⟨ho,?_⟩
 have hv:∃u,us[us.length-1]?=some u/\gj Z v u:=rl.get (by simp[FK])
 obtain⟨u,hu,ru⟩:=hv
 have e:us[us.length-1]'(by exact FK▸aj _)=u:=by
  rw[aA (by exact FK▸aj _)]at hu;simpa using hu
 refine⟨v,_,Z,fR.refl _,pI ok hc ho (us:=us.take xs.length) (λx=>x.eraseIdxIfInBounds (us.toArray.size-1)) ?_ (by simpa using rl.take xs.length),by rw[e];exact ru,h⟩
 have h1:us.toArray.size-1<us.toArray.size:=by simp[FK]
 rw[Array.eraseIdxIfInBounds,dif_pos h1]
 apply Array.ext'
 simp[List.eraseIdx_eq_take_drop_succ,FK]
theorem sR{l:Addr}{xs:List PV}{v:PV}{N:b4->St->Prop}{X:b4->Prop}(hc:σ l=some (.list xs))(h0:0<=a)(h1:a<2^63)(hn:a<xs.length)(h:N ρ (σ.upd l (.list (xs.set a.toNat v)))):
 Mk C fr setItem (.loc l) (.int a) v ρ σ N X:=λY Z s va vb vc ok ra rb rc=>by
 obtain rfl:=bu ra;obtain⟨u,rfl⟩:=aK rb
 obtain⟨o,ho,us,n,rfl,rl⟩:=ok.ju l _ hc
 have hl:s.heap.IsList l us.toArray:=⟨_,ho,rfl,n,rfl⟩
 have FK:=rl.length
 unfold setItem
 try with_reducible refine wpAny_holding ?_
 first|refine wpAny_bind (wpAny_pure ?_)|skip
 refine wpAny_bind (wpAny_sequenceKey hl.typeIs (by decide) ?_)
 refine wpAny_bind (wpAny_callSpecial?_slot (name:=Str.ofString "__setitem__") hl.typeIs slot_list_setitem (wpAny_call_entry slot_list_setitem hl.typeIs entry_list_setitem ?_ (args_list_setitem _ _ _)))
 show wpAny _ _ (Builtin.List.listSubscript? (.int a u)>>=_) _ _ s
 refine wpAny_bind (wpAny_listSubscript_int (fitsIndex_of h0 h1) ?_)
 clear h1
 obtain⟨j,rfl⟩:=Int.eq_ofNat_of_zero_le h0
 have hj:j<us.toArray.size:=by simp[FK];exact bI.mp hn
 show wpAny _ _ ((seqItemAt l j>>=λr=>pure (r.map (j,·)))>>=_) _ _ s
 refine wpAny_bind (wpAny_bind (wpAny_seqItemAt ho rfl (wpAny_pure ?_)))
 rw[jI hj]
 show wpAny _ _ (setSeqItemAt l j vc>>=_) _ _ s
 refine wpAny_bind (wpAny_setSeqItemAt ho rfl ?_)
 have pR:yW C fr Y Z N () {s with heap:=s.heap.update l (Obj.mapSeq (·.setIfInBounds j vc))}:=
  ⟨ρ,_,Z,fR.refl _,pI ok hc ho (us:=us.set j vc) (λx=>x.setIfInBounds j vc) (by simp) (rl.set rc),h⟩
 first
  |exact wpAny_bind (wpAny_pure (wpAny_pure ⟨.none,rfl,wpAny_pure pR⟩))
  |exact wpAny_pure ⟨.none,rfl,wpAny_pure pR⟩
theorem IQ{l m:Addr}{xs ys:List PV}(hl:σ l=some (.list xs))(hm:σ m=some (.list ys))(hsz:xs.length+ys.length<=sizeLine)(h:∀k,σ k=none->Q (.loc k) (σ.upd k (.list (xs++ys)))):
 W2 C fr (binaryOp .Add) (.loc l) (.loc m) ρ σ Q X:=λY Z s va vb ok ra rb=>by
 obtain rfl:=bu ra;obtain rfl:=bu rb
 obtain⟨o,ho,us,n,rfl,rl⟩:=ok.ju l _ hl
 obtain⟨o,pQ,Tu,n',rfl,E4⟩:=ok.ju m _ hm
 refine P.add_list ho pQ ?_ (by simp[rl.length,E4.length];exact hsz)
 have:=mB (t':=s.toks) (Q:=Q) ok (rl.append E4) h
 simpa using this
theorem FL{l m:Addr}{xs ys:List PV}(iI:l≠m)(hl:σ l=some (.list xs))(hm:σ m=some (.list ys))(hsz:xs.length+ys.length<=1000000)(h:Q (.loc l) (σ.upd l (.list (xs++ys)))):
 W2 C fr (inplaceOp .Add) (.loc l) (.loc m) ρ σ Q X:=λY Z s va vb ok ra rb=>by
 obtain rfl:=bu ra;obtain rfl:=bu rb
 obtain⟨o,ho,us,n,rfl,rl⟩:=ok.ju l _ hl
 obtain⟨o,pQ,Tu,n',rfl,E4⟩:=ok.ju m _ hm
 have hT:s.TypeIs (.ref l) "list":=⟨_,ho,rfl⟩
 have Z9:s.TypeIs (.ref m) "list":=⟨_,pQ,rfl⟩
 have hz:(16777216:Nat)=sizeLine:=by decide
 unfold inplaceOp
 refine wpAny_holding ?_
 have hi:typeLookup (.type "list") (dunderI "add")=pure (some (.builtin "list.__iadd__")):=F.slot_list_iadd.lookup
 have hq:isSeqSlot (some (.builtin "list.__iadd__"))=true:=by decide+kernel
 have hfi:fillsInplaceSlot (.type "list") "add" (Operator.Add== .Add)=pure false:=by
  unfold fillsInplaceSlot
  show(typeLookup (.type "list") (dunderI "add")>>=λfi=>pure (fi.isSome&& !isSeqSlot fi))=pure false
  rw[hi];show(pure (true&& !isSeqSlot _):Sem Bool)=_
  rw[hq];rfl
 have hsi:seqSlot? (.type "list") (dunderI "add")=pure (some (.builtin "list.__iadd__")):=PySem.seqSlot_of hi hq
 refine wpAny_bind (wpAny_typeOf hT (wpAny_bind (wpAny_of_eq hfi ?_)))
 show wpAny _ _ (if false=true then _ else _) _ _ _
 rw[if_neg eI]
 refine wpAny_bind (wpAny_binaryOp1_none (nm:="add") hT Z9 noFill_list_add ?_)
 refine wpAny_bind (wpAny_of_eq hsi (wpAny_bind (wpAny_rule ?_)))
 refine call_meets F.slot_list_iadd hT F.entry_list_iadd (F.args_list_iadd_2 _ _) (AutoSeq1.list___iadd___list_list_0 l us.toArray n m Tu.toArray n' ?_ (by simp[rl.length];exact qV [.le (.a (.v 0) (.v 1)) (.n 1000000),.eq (.n 16777216) (.v 2)] (.le (.v 0) (.v 2)) [1,1] (Eq.refl true) hsz hz) (by simp[rl.length,E4.length];exact aa hsz (by decide))) ⟨ho,pQ,?_⟩
 ·simp only[Bool.and_eq_true,not_and]
  intro _
  unfold Builtin.List.listTooLong
  simp[rl.length,E4.length];exact aa hsz (by decide)
 ·exact⟨.loc l,_,Z,fR.refl _,pI ok hl ho (us:=us++Tu) (λx=>x++Tu.toArray) (by simp) (rl.append E4),im _,h⟩
theorem iC{l:Addr}{xs:List PV}(hc:σ l=some (.list xs))(hsz:xs.length<2^63)(h:Q (.int xs.length) σ):WN C fr (λvs=>call (.builtin "len") vs) [.loc l] ρ σ Q X:=λY Z s vs ok r=>by
 obtain⟨w,rfl,r1⟩:=ki r
 obtain rfl:=bu r1
 obtain⟨o,ho,us,n,rfl,rl⟩:=ok.ju l _ hc
 refine call_len_list ⟨_,ho,rfl,n,rfl⟩ (by simp[rl.length];exact bI.mpr hsz) (bM ok.toks ?_ h)
 simp[rl.length];exact ct _ _
theorem Bf{xs:List PV}(hsz:xs.length<2^63)(h:Q (.int xs.length) σ):WN C fr (λvs=>call (.builtin "len") vs) [.tup xs] ρ σ Q X:=λY Z s vs ok r=>by
 obtain⟨w,rfl,r1⟩:=ki r
 obtain⟨t,us,rfl,⟨n,hz⟩,rl⟩:=fh r1
 refine P.len_tuple (ok.vals _ _ hz) (by simp[rl.length];exact bI.mpr hsz) (bM ok.toks ?_ h)
 simp[rl.length];exact ct _ _
theorem Bg(hsz:x.length<2^63)(h:Q (.int x.length) σ):WN C fr (λvs=>call (.builtin "len") vs) [.str x] ρ σ Q X:=λY Z s vs ok r=>by
 obtain⟨w,rfl,r1⟩:=ki r
 obtain⟨t,rfl⟩:=bh r1
 exact P.len_str (by exact sH [.lt (.v 0) (.n 9223372036854775808)] (.no (.Ie (.n 9223372036854775808) (.c (.v 0)))) [1] (Eq.refl true) hsz) (bM ok.toks (ct _ _) h)
theorem FM{l:Addr}{xs:List PV}(hc:σ l=some (.list xs))(hsz:xs.length<=sizeLine)(h:Q (.tup xs) σ):WN C fr (λvs=>call (.type "tuple") vs) [.loc l] ρ σ Q X:=λY Z s vs ok r=>by
 obtain⟨w,rfl,r1⟩:=ki r
 obtain rfl:=bu r1
 obtain⟨o,ho,us,n,rfl,rl⟩:=ok.ju l _ hc
 refine call_tuple_list ⟨_,ho,rfl,n,rfl⟩ (λh' hk=> ?_) (by simp[rl.length];exact hsz)
 have fS:=ok.keeps (t':=s.toks) hk
 obtain⟨Ul,k2⟩:=fS.KP (t':=s.toks) (bv (aj _)) (λ_ _ e=>aH {cls:= .type "tuple",data:= .seq us.toArray} e) (aQ _ rfl) (.inl rfl)
 refine⟨.tup xs,σ,_,k2,Ul,?_,h⟩
 exact⟨_,us,rfl,⟨0,Zf.il _ _ _⟩,rl.mono k2⟩
theorem zh(ok:Ok C fr Y Z ρ σ s){t u v:Tok}{t':Nat}(h:Q (.xP a b c) σ):iJ C fr Y Z ρ Q (.ref s.heap.objs.size) {s with heap:=s.heap.push {cls:= .type "range",data:= .fields #[.int a t,.int b u,.int c v]},toks:=t'}:=by
 obtain⟨Ul,k2⟩:=ok.KP (t':=t') (bv (aj _)) (λ_ _ e=>aH {cls:= .type "range",data:= .fields #[.int a t,.int b u,.int c v]} e) (aQ _ rfl) (.inr (.inr rfl))
 refine⟨.xP a b c,σ,_,k2,Ul,?_,h⟩
 exact⟨_,t,u,v,rfl,Zf.il _ _ _⟩
theorem Ed(h:Q (.xP 0 a 1) σ):WN C fr (λvs=>call (.type "range") vs) [.int a] ρ σ Q X:=λY Z s vs ok r=>by
 obtain⟨w,rfl,r1⟩:=ki r;obtain⟨t,rfl⟩:=aK r1
 exact call_range_1 (zh ok h)
theorem Ee(hc:0<c)(K4:c<1000000)(h:Q (.xP a b c) σ):WN C fr (λvs=>call (.type "range") vs) [.int a,.int b,.int c] ρ σ Q X:=λY Z s vs ok r=>by
 obtain⟨w,w',IP,rfl,r1,r2,r3⟩:=rx r;obtain⟨t,rfl⟩:=aK r1;obtain⟨u,rfl⟩:=aK r2;obtain⟨v,rfl⟩:=aK r3
 exact call_range_3 (by exactλe=>absurd (e▸hc) (by decide)) (zh ok h) (.inl (PyProof.noPylong_small (by omega)))
theorem uM{T:String}{q:Bool}(hT:(T="int"/\q=true)\/(T="bool"/\q=false))(h:Q (.bool q) σ):WN C fr (λvs=>call (.builtin "isinstance") vs) [.int a,.val (.type T)] ρ σ Q X:=λY Z s vs ok r=>by
 obtain⟨w,w',rfl,r1,r2⟩:=jJ r;obtain⟨t,rfl⟩:=aK r1;obtain rfl:=jc r2
 rcases hT with⟨rfl,rfl⟩|⟨rfl,rfl⟩
 ·exact IsiPair.int_int (bM ok (cA _) h)
 ·exact IsiPair.int_bool (bM ok.toks (cA _) h)
theorem uN(h:Q (.bool true) σ):WN C fr (λvs=>call (.builtin "isinstance") vs) [.str x,.val (.type "str")] ρ σ Q X:=λY Z s vs ok r=>by
 obtain⟨w,w',rfl,r1,r2⟩:=jJ r;obtain⟨t,rfl⟩:=bh r1;obtain rfl:=jc r2
 exact IsiPair.str_str (bM ok (cA _) h)
theorem qz{xs:List PV}(h:Q (.bool true) σ):WN C fr (λvs=>call (.builtin "isinstance") vs) [.tup xs,.val (.type "tuple")] ρ σ Q X:=λY Z s vs ok r=>by
 obtain⟨w,w',rfl,r1,r2⟩:=jJ r;obtain⟨t,us,rfl,⟨n,hz⟩,rl⟩:=fh r1;obtain rfl:=jc r2
 exact IsiPair.tuple_tuple (ok.vals _ _ hz) rfl (bM ok (cA _) h)
theorem tn{kvs:List (Int×Int)}(h:Q (.bool true) σ):WN C fr (λvs=>call (.builtin "isinstance") vs) [.tabI kvs,.val (.type "dict")] ρ σ Q X:=λY Z s vs ok r=>by
 obtain⟨w,w',rfl,r1,r2⟩:=jJ r;obtain⟨t,o,rfl,hz,ht⟩:=iz r1;obtain rfl:=jc r2
 exact IsiPair.dict_dict (ok.vals _ _ hz) ht.cls (bM ok (cA _) h)
theorem to{kvs:List (List Int×Int)}(h:Q (.bool true) σ):WN C fr (λvs=>call (.builtin "isinstance") vs) [.eg kvs,.val (.type "dict")] ρ σ Q X:=λY Z s vs ok r=>by
 obtain⟨w,w',rfl,r1,r2⟩:=jJ r;obtain⟨t,o,rfl,hz,ht⟩:=iA r1;obtain rfl:=jc r2
 exact IsiPair.dict_dict (ok.vals _ _ hz) ht.cls (bM ok (cA _) h)
theorem Bh(ha:a.natAbs.log2<1920)(h:Q (.str (toString a)) σ):WN C fr (λvs=>call (.type "str") vs) [.int a] ρ σ Q X:=λY Z s vs ok r=>by
 obtain⟨w,rfl,r1⟩:=ki r;obtain⟨t,rfl⟩:=aK r1
 exact P.str_of_int ha (bM ok.toks (ft _ _) h)
theorem Bi(h:Q (.int a) σ):WN C fr (λvs=>call (.type "int") vs) [.int a] ρ σ Q X:=λY Z s vs ok r=>by
 obtain⟨w,rfl,r1⟩:=ki r;obtain⟨t,rfl⟩:=aK r1
 exact call_int_int (bM ok (ct _ _) h)
theorem Bj(hn:PySem.intText? x=some a)(hl:x.length<=640)(h:Q (.int a) σ):WN C fr (λvs=>call (.type "int") vs) [.str x] ρ σ Q X:=λY Z s vs ok r=>by
 obtain⟨w,rfl,r1⟩:=ki r;obtain⟨t,rfl⟩:=bh r1
 exact KIN.call_text hn hl (bM ok.toks (ct _ _) h)
theorem FN(hp:PadOk a=true)(h:Q (.str (Txt.zfill x a)) σ):WN C fr (λvs=>call (.builtin "str.zfill") vs) [.str x,.int a] ρ σ Q X:=λY Z s vs ok r=>by
 obtain⟨w,w',rfl,r1,r2⟩:=jJ r;obtain⟨t,rfl⟩:=bh r1;obtain⟨u,rfl⟩:=aK r2
 exact SC.zfill hp λ_ _=>bM ok.toks (ft _ _) h
theorem IS(h:Q (.int (Txt.find x y)) σ):WN C fr (λvs=>call (.builtin "str.find") vs) [.str x,.str y] ρ σ Q X:=λY Z s vs ok r=>by
 obtain⟨w,w',rfl,r1,r2⟩:=jJ r;obtain⟨t,rfl⟩:=bh r1;obtain⟨u,rfl⟩:=bh r2
 exact SC.find (bM ok.toks (ct _ _) h)
theorem FO(h:Q (.int (Txt.find3 x y a)) σ):WN C fr (λvs=>call (.builtin "str.find") vs) [.str x,.str y,.int a] ρ σ Q X:=λY Z s vs ok r=>by
 obtain⟨w,w',IP,rfl,r1,r2,r3⟩:=rx r;obtain⟨t,rfl⟩:=bh r1;obtain⟨u,rfl⟩:=bh r2;obtain⟨v,rfl⟩:=aK r3
 exact SC.find3 (bM ok.toks (ct _ _) h)
theorem FP(h:Q (.int (Txt.rfind x y)) σ):WN C fr (λvs=>call (.builtin "str.rfind") vs) [.str x,.str y] ρ σ Q X:=λY Z s vs ok r=>by
 obtain⟨w,w',rfl,r1,r2⟩:=jJ r;obtain⟨t,rfl⟩:=bh r1;obtain⟨u,rfl⟩:=bh r2
 exact SC.rfind (bM ok.toks (ct _ _) h)
theorem xa:∀(l:List (Str×Tok)),cJ Z (l.map λp=> .str p.1) (strValues l)
 |[]=> .nil
 |p::l=> .cons (ft _ _) (xa l)
theorem gX:∀{xs:List Str} {vs:List Value},cJ Z (xs.map .str) vs->∃l:List (Str×Tok),vs=strValues l/\l.map (·.1)=xs
 |[],vs,r=>by exact⟨[],r,rfl⟩
 |x::xs,vs,r=>by
  obtain⟨v,E0,rfl,r1,r2⟩:=r
  obtain⟨t,rfl⟩:=bh r1
  obtain⟨l,rfl,rfl⟩:=gX r2
  exact⟨(x,t)::l,rfl,rfl⟩
theorem FQ(hy:(y.length==0)=false)(hsz:x.length<=sizeLine)(Um:(Builtin.Str.partsBetween x (Builtin.Str.occurrences x y 0 x.length (x.length+1)) y.length).length<=sizeLine)
 (h:∀l,σ l=none->Q (.loc l) (σ.upd l (.list ((Txt.split x y).map .str)))):WN C fr (λvs=>call (.builtin "str.split") vs) [.str x,.str y] ρ σ Q X:=λY Z s vs ok r=>by
 obtain⟨w,w',rfl,r1,r2⟩:=jJ r;obtain⟨t,rfl⟩:=bh r1;obtain⟨u,rfl⟩:=bh r2
 have pR:∀(l:List (Str×Tok)) (k:Nat),l.map (·.1)=Txt.split x y->iJ C fr Y Z ρ Q (.ref s.heap.objs.size) {s with heap:=s.heap.push {cls:= .type "list",data:= .seq (strValues l).toArray},toks:=k}:=λl k e=>
  mB (xs:=(Txt.split x y).map .str) ok (by rw[<-e,bU];exact xa l) h
 cases h1:(decide (x.length<y.length)||decide (Builtin.Str.strKind x<Builtin.Str.strKind y))
 ·cases hf:(Builtin.Str.occurrences x y 0 x.length (x.length+1)).isEmpty
  ·refine call_meets F.slot_str_split (typeIs_str _ _ _) F.entry_str_split (F.args_str_split_2 _ _) (meets_str_split_sep x y t u h1 hy hf hsz Um) ?_
   rw[strsFrom_eq]
   exact pR _ _ ((numbered_texts _ _).trans ((if_neg (ne_true_of_eq_false h1)).trans (if_neg (ne_true_of_eq_false hf))).symm)
  ·exact call_meets F.slot_str_split (typeIs_str _ _ _) F.entry_str_split (F.args_str_split_2 _ _) (meets_str_split_not_found x y t u h1 hy hf)
    (pR [(x,t)] s.toks ((if_neg (ne_true_of_eq_false h1)).trans (if_pos hf)).symm)
 ·exact call_meets F.slot_str_split (typeIs_str _ _ _) F.entry_str_split (F.args_str_split_2 _ _) (meets_str_split_cannot_occur x y t u h1) (pR [(x,t)] s.toks (if_pos h1).symm)
theorem IT{l:Addr}{xs:List Str}(hc:σ l=some (.list (xs.map .str)))(og:JoinOk x xs=true)(h:Q (.str (Txt.join x xs)) σ):WN C fr (λvs=>call (.builtin "str.join") vs) [.str x,.loc l] ρ σ Q X:=λY Z s vs ok r=>by
 obtain⟨w,w',rfl,r1,r2⟩:=jJ r;obtain⟨t,rfl⟩:=bh r1;obtain rfl:=bu r2
 obtain⟨o,ho,us,n,rfl,rl⟩:=ok.ju l _ hc
 obtain⟨ps,rfl,hx⟩:=gX rl
 exact SC.join ⟨_,ho,rfl,n,rfl⟩ hx og λ_ _=>bM ok.toks (ft _ _) h
end
section
variable{K V:Type}[DecidableEq K]
noncomputable def bT(kvs:List (K×V))(k:K):Option V:=(kvs.find? λp=>decide (p.1=k)).map (·.2)
noncomputable def qA(kvs:List (K×V))(k:K)(v:V):List (K×V):=
 if kvs.any (λp=>decide (p.1=k))then kvs.map (λp=>if p.1=k then(p.1,v)else p)else kvs++[(k,v)]
variable{P:V->Value->Prop}
theorem eo.keys:∀{kvs:List (K×V)} {ws:List (K×Value)},eo P kvs ws->ws.map (·.1)=kvs.map (·.1)
 |[],_,r=>by obtain rfl:=r;rfl
 |(k,v)::r,_,⟨u,qW,e,p,q⟩=>by subst e;simp[eo.keys q]
theorem eo.length{kvs:List (K×V)}{ws:List (K×Value)}(r:eo P kvs ws):ws.length=kvs.length:=by
 have:=congrArg List.length r.keys;simpa using this
theorem eo.look:∀{kvs:List (K×V)} {ws:List (K×Value)},eo P kvs ws->∀k,(bT kvs k=none/\valueAt ws k=none)\/∃v u,bT kvs k=some v/\valueAt ws k=some u/\P v u
 |[],_,r,k=>by obtain rfl:=r;exact .inl ⟨rfl,rfl⟩
 |(k',v)::r,_,⟨u,qW,e,p,q⟩,k=>by
  subst e
  by_cases h:k'=k
  ·exact .inr ⟨v,u,by simp[bT,h],by simp[valueAt,h],p⟩
  ·have:=eo.look q k
   simpa[bT,valueAt,h]using this
theorem eo.append{kvs FR:List (K×V)}{ws qW:List (K×Value)}(r:eo P kvs ws)(r':eo P FR qW):eo P (kvs++FR) (ws++qW):=by
 induction kvs generalizing ws with
 |nil=>obtain rfl:=r;exact r'
 |cons p kvs ih=>
  obtain⟨k,v⟩:=p
  obtain⟨u,Un,e,p,q⟩:=r
  subst e
  exact⟨u,Un++qW,rfl,p,ih q⟩
theorem eo.qQ:∀{kvs:List (K×V)} {ws:List (K×Value)},eo P kvs ws->∀{k:K} {v:V} {u:Value},P v u->
 eo P (kvs.map λp=>if p.1=k then(p.1,v)else p) (ws.map λp=>if p.1=k then(p.1,u)else p)
 |[],_,r,_,_,_,_=>by obtain rfl:=r;exact rfl
 |(k',v')::r,_,⟨u',qW,e,p,q⟩,k,v,u,h=>by
  subst e
  by_cases hk:k'=k
  ·simp only[aP,if_pos hk];exact⟨u,_,rfl,h,eo.qQ q h⟩
  ·simp only[aP,if_neg hk];exact⟨u',_,rfl,p,eo.qQ q h⟩
theorem CP{W:Type}{kvs:List (K×V)}{ws:List (K×W)}(h:ws.map (·.1)=kvs.map (·.1))(k:K):ws.any (λp=>decide (p.1=k))=kvs.any (λp=>decide (p.1=k)):=by
 have e:∀{U:Type} (l:List (K×U)),l.any (λp=>decide (p.1=k))=(l.map (·.1)).any (λx=>decide (x=k)):=λl=>by rw[List.any_map];rfl
 rw[e,e,h]
theorem eo.put{kvs:List (K×V)}{ws:List (K×Value)}(r:eo P kvs ws){k:K}{v:V}{u:Value}(h:P v u):eo P (qA kvs k v) (stored ws k u):=by
 unfold qA stored
 rw[CP r.keys k]
 split
 ·exact r.qQ h
 ·exact r.append ⟨u,[],rfl,h,rfl⟩
end
section
variable{C:Ctx}{fr:Fm}{ρ:b4}{σ:St}{Q:PV->St->Prop}{X:Prop}{Y Z:Zf}{s:Shared}{a b c:Int}{x y:Str}
noncomputable def Ox(i:Int)(v:Value):Prop:=∃u,v=.int i u
theorem pairs_at{prog:Program}{w:World}{K:Type}[DecidableEq K]{knd:KeyKind prog w K}:∀{es:List DictEntry} {ws:List (K×Value)},es.length=ws.length->
 (∀(j:Nat) (e:DictEntry) (p:K×Value),es[j]?=some e->ws[j]?=some p->knd.is p.1 e.key=true/\e.val=p.2)->Pairs knd es ws
 |[],[],_,_=> .nil
 |e::es,p::ws,hl,h=>by
  obtain⟨k,v⟩:=p
  have h0:=h 0 e (k,v) rfl rfl
  exact .cons h0.1 h0.2 (pairs_at (by simpa using hl) λj e p he hp=>h (j+1) e p (by simpa using he) (by simpa using hp))
 |[],_::_,hl,_=>by simp at hl
 |_::_,[],hl,_=>by simp at hl
theorem CQ{K V:Type}{P:V->Value->Prop}:∀{kvs:List (K×V)} {ws:List (K×Value)},ws.length=kvs.length->(∀(j:Nat) (k:K) (v:V),kvs[j]?=some (k,v)->∃u,ws[j]?=some (k,u)/\P v u)->eo P kvs ws
 |[],ws,hl,_=>by simp at hl;exact hl
 |(k,v)::r,[],hl,_=>by simp at hl
 |(k,v)::r,p::ws,hl,h=>by
  obtain⟨u,hu,hp⟩:=h 0 k v rfl
  simp at hu;subst hu
  exact⟨u,ws,rfl,hp,CQ (by simpa using hl) λj k v e=>by have:=h (j+1) k v (by simpa using e);simpa using this⟩
theorem eo.get{K V:Type}{P:V->Value->Prop}:∀{kvs:List (K×V)} {ws:List (K×Value)},eo P kvs ws->∀{j:Nat} {k:K} {v:V},kvs[j]?=some (k,v)->∃u,ws[j]?=some (k,u)/\P v u
 |[],_,_,j,k,v,e=>by simp at e
 |(k',v')::r,_,⟨u,qW,e',p,q⟩,j,k,v,e=>by
  subst e'
  cases j with
  |zero=>simp at e;obtain⟨rfl,rfl⟩:=e;exact⟨u,rfl,p⟩
  |succ j=>simpa using eo.get q (by simpa using e)
theorem ug{kvs:List (Int×Int)}{o:Obj}(x:gU kvs o):∃ws,eo Ox kvs ws/\KD (iK C) o ws:=by
 obtain⟨es,ep,hx,hd,hn,hsz,he⟩:=x
 have ME:eo Ox kvs (kvs.zip (es.toList.map (·.val))|>.map λq=>(q.1.1,q.2)):=by
  refine CQ (by simp[hsz]) λj k v e=> ?_
  obtain⟨t,u,hj⟩:=he j k v e
  exact⟨.int v u,by simp[jH,e,hj],u,rfl⟩
 refine⟨_,ME,es,ep,hx,hd,λe hm=> ?_,pairs_at (by simp[hsz]) λj e p h1 h2=> ?_,by rw[ME.keys];exact hn⟩
 ·obtain⟨j,hj,rfl⟩:=Array.mem_iff_getElem.mp hm
  have fg:j<kvs.length:=by rw[<-hsz];exact hj
  obtain⟨t,u,AS⟩:=he j kvs[j].1 kvs[j].2 (by simp[fg])
  rw[jI hj]at AS
  injection AS with AS
  rw[AS]
  exact⟨kvs[j].1,intKind_is _ _ _ _,rfl⟩
 ·have fg:j<kvs.length:=by rw[<-hsz];have:=(an.mp h1).1;simpa using this
  obtain⟨t,u,AS⟩:=he j kvs[j].1 kvs[j].2 (by simp[fg])
  rw[mu,AS]at h1
  cases h1
  obtain⟨u',Pp,_⟩:=ME.get (j:=j) (k:=kvs[j].1) (v:=kvs[j].2) (by simp[fg])
  rw[Pp]at h2;cases h2
  have:u'=.int kvs[j].2 u:=by
   rw[bo]at Pp
   obtain⟨q,hq,K5⟩:=ai.mp Pp
   obtain⟨h3,h4⟩:=jH.mp hq
   simp[AS]at h4
   simp at K5
   rw[<-K5.2,<-h4]
  exact⟨intKind_is _ _ _ _,this.symm⟩
theorem IU{kvs:List (Int×Int)}{o:Obj}{ws:List (Int×Value)}(r:eo Ox kvs ws)(x:KD (iK C) o ws):gU kvs o:=by
 obtain⟨es,ep,hx,hd,hk,hp,hn⟩:=x
 have hl:es.toList.length=kvs.length:=by rw[hp.length,r.length]
 refine⟨es,ep,hx,hd,by rw[<-r.keys];exact hn,by simpa using hl,λj k v e=> ?_⟩
 obtain⟨u,hu,t,rfl⟩:=r.get e
 have fg:j<es.toList.length:=by rw[hl];exact(an.mp e).1
 obtain⟨h1,h2⟩:=hp.get? (aA fg) hu
 have hm:es.toList[j]∈es:=by simp
 obtain⟨k',h3,h4⟩:=hk _ hm
 have:k'=k:=(iK C).inj _ _ _ h3 h1
 subst this
 obtain⟨t',Pq⟩:=Value.isInt_shape h1
 refine⟨t',t,?_⟩
 have e2:es[j]?=some es.toList[j]:=by rw[<-mu];exact aA fg
 rw[e2]
 congr 1
 cases hq:es.toList[j]with
 |mk a b c=>rw[hq]at h1 h2 h4 Pq;simp at h2 h4 Pq;subst h2 Pq;rw[h4];rfl
theorem tq{K:Type}:∀{ks:List Int} {vs:List Value},uF ks vs->ItemsAre (iK C) ks vs
 |[],vs,h=>by obtain⟨h,_⟩:=h;simp at h;subst h;exact .nil
 |k::ks,vs,h=>by
  cases vs with
  |nil=>obtain⟨h,_⟩:=h;simp at h
  |cons v vs=>
   obtain⟨hl,hi⟩:=h
   obtain⟨t,ht⟩:=hi 0 k rfl
   simp at ht;subst ht
   exact .cons (intKind_is _ _ _ _) (tq (K:=K) ⟨by simpa using hl,λj i hj=>by simpa using hi (j+1) i (by simpa using hj)⟩)
theorem zi:∀{ks:List Int} {vs:List Value},cJ Z (ks.map .int) vs->uF ks vs
 |[],vs,r=>by subst r;exact⟨rfl,λj i h=>by simp at h⟩
 |k::ks,vs,r=>by
  obtain⟨v,E0,rfl,r1,r2⟩:=r
  obtain⟨t,rfl⟩:=aK r1
  obtain⟨hl,hi⟩:=zi r2
  refine⟨by simp[hl],λj i hj=> ?_⟩
  cases j with
  |zero=>simp at hj;subst hj;exact⟨t,rfl⟩
  |succ j=>simpa using hi j i (by simpa using hj)
theorem uO(ks:List Int):(tK C).hash ks=ue ks:=rfl
noncomputable def qB(Z:Zf)(k:List Int)(a:Addr):Prop:=∃vs,uE Z a vs/\uF k vs
theorem qB.is{k:List Int}{a:Addr}{h:Heap}(x:qB Z k a)(hz:K0 Z h):(tK C).is h k a:=by
 obtain⟨vs,⟨n,e⟩,i⟩:=x
 exact⟨_,_,n,hz _ _ e,rfl,rfl,by simpa using tq (K:=Int) i⟩
noncomputable def i6(Z:Zf):List (List Int×Int)->List (List Int×Addr×Value)->Prop
 |[],xs=>xs=[]
 |(k,v)::r,xs=>∃a u Ii,xs=(k,a,.int v u)::Ii/\qB Z k a/\i6 Z r Ii
theorem i6.keys:∀{kvs:List (List Int×Int)} {xs:List (List Int×Addr×Value)},i6 Z kvs xs->xs.map (·.1)=kvs.map (·.1)
 |[],_,r=>by obtain rfl:=r;rfl
 |(k,v)::r,_,⟨a,u,Ii,e,p,q⟩=>by subst e;simp[i6.keys q]
theorem i6.look:∀{kvs:List (List Int×Int)} {xs:List (List Int×Addr×Value)},i6 Z kvs xs->∀k,(bT kvs k=none/\atKey xs k=none)\/∃v a u,bT kvs k=some v/\atKey xs k=some (a,.int v u)
 |[],_,r,k=>by obtain rfl:=r;exact .inl ⟨rfl,rfl⟩
 |(k',v)::r,_,⟨a,u,Ii,e,p,q⟩,k=>by
  subst e
  by_cases h:k'=k
  ·exact .inr ⟨v,a,u,by simp[bT,h],by simp[atKey,h]⟩
  ·have:=i6.look q k
   simpa[bT,atKey,h]using this
theorem i6.mem:∀{kvs:List (List Int×Int)} {xs:List (List Int×Addr×Value)},i6 Z kvs xs->∀x∈xs,qB Z x.1 x.2.1
 |[],_,r,x,hx=>by obtain rfl:=r;cases hx
 |(k,v)::r,_,⟨a,u,Ii,e,p,q⟩,x,hx=>by
  subst e
  rcases am.mp hx with rfl|hx
  ·exact p
  ·exact i6.mem q x hx
theorem i6.append{kvs:List (List Int×Int)}{xs:List (List Int×Addr×Value)}(r:i6 Z kvs xs){k:List Int}{v:Int}{a:Addr}{u:Tok}(hk:qB Z k a):i6 Z (kvs++[(k,v)]) (xs++[(k,a,.int v u)]):=by
 induction kvs generalizing xs with
 |nil=>obtain rfl:=r;exact⟨a,u,[],rfl,hk,rfl⟩
 |cons p kvs ih=>
  obtain⟨k',v'⟩:=p
  obtain⟨a',u',Ii,e,p,q⟩:=r
  subst e
  exact⟨a',u',_,rfl,p,ih q⟩
theorem i6.qQ:∀{kvs:List (List Int×Int)} {xs:List (List Int×Addr×Value)},i6 Z kvs xs->∀{k:List Int} {v:Int} {u:Tok},
 i6 Z (kvs.map λp=>if p.1=k then(p.1,v)else p) (xs.map (putAt k (.int v u)))
 |[],_,r,_,_,_=>by obtain rfl:=r;exact rfl
 |(k',v')::r,_,⟨a,u',Ii,e,p,q⟩,k,v,u=>by
  subst e
  by_cases hk:k'=k
  ·simp only[aP,if_pos hk,putAt];exact⟨a,u,_,rfl,p,i6.qQ q⟩
  ·simp only[aP,if_neg hk,putAt];exact⟨a,u',_,rfl,p,i6.qQ q⟩
theorem i6.put{kvs:List (List Int×Int)}{xs:List (List Int×Addr×Value)}(r:i6 Z kvs xs){k:List Int}{v:Int}{a:Addr}{u:Tok}(hk:qB Z k a):i6 Z (qA kvs k v) (storedH xs k a (.int v u)):=by
 unfold qA storedH
 have h1:(atKey xs k).isSome=kvs.any λp=>decide (p.1=k):=by
  rw[<-CP r.keys k]
  unfold atKey
  rw[Option.isSome_map,ka]
  simp
 rw[h1]
 split
 ·exact r.qQ
 ·exact r.append hk
theorem uh{kvs:List (List Int×Int)}{o:Obj}{h:Heap}{d:Addr}(x:eM Z kvs o)(hz:K0 Z h)(ho:h.get? d=some o):∃xs,i6 Z kvs xs/\h.DictOfH (tK C) d xs:=by
 obtain⟨es,ep,hx,hd,hn,hsz,he⟩:=x
 have key:∀(l:List (List Int×Int)) (es:List DictEntry),es.length=l.length->
  (∀(j:Nat) (k:List Int) (v:Int),l[j]?=some (k,v)->∃a vs u,uE Z a vs/\uF k vs/\es[j]?=some ⟨ue k,.ref a,.int v u⟩)->∃xs,i6 Z l xs/\es=xs.map (entryOfKey (tK C)):=by
  intro l
  induction l with
  |nil=>intro es hl _;simp at hl;subst hl;exact⟨[],rfl,rfl⟩
  |cons p l ih=>
   intro es hl h
   obtain⟨k,v⟩:=p
   cases es with
   |nil=>simp at hl
   |cons e es=>
    obtain⟨a,vs,u,hz,hi,h0⟩:=h 0 k v rfl
    simp at h0;subst h0
    obtain⟨xs,h1,rfl⟩:=ih es (by simpa using hl) λj k v hj=>by simpa using h (j+1) k v (by simpa using hj)
    exact⟨(k,a,.int v u)::xs,⟨a,u,xs,rfl,⟨vs,hz,hi⟩,h1⟩,by simp[entryOfKey,uO]⟩
 obtain⟨xs,h1,h2⟩:=key kvs es.toList (by simpa using hsz) λj k v hj=>by simpa using he j k v hj
 exact⟨xs,h1,o,es,ep,ho,hx,hd,h2,λx hx=>(h1.mem x hx).is hz,by rw[h1.keys];exact hn⟩
theorem IV{kvs:List (List Int×Int)}{h:Heap}{d:Addr}{xs:List (List Int×Addr×Value)}(r:i6 Z kvs xs)(x:h.DictOfH (tK C) d xs):∃o,h.get? d=some o/\eM Z kvs o:=by
 obtain⟨o,es,ep,ho,hx,hd,he,his,hn⟩:=x
 have key:∀(l:List (List Int×Int)) (xs:List (List Int×Addr×Value)),i6 Z l xs->∀(j:Nat) (k:List Int) (v:Int),l[j]?=some (k,v)->∃a vs u,uE Z a vs/\uF k vs/\(xs.map (entryOfKey (tK C)))[j]?=some ⟨ue k,.ref a,.int v u⟩:=by
  intro l
  induction l with
  |nil=>intro xs _ j k v e;simp at e
  |cons p l ih=>
   intro xs r j k v e
   obtain⟨k',v'⟩:=p
   obtain⟨a,u,Ii,e',⟨vs,hz,hi⟩,q⟩:=r
   subst e'
   cases j with
   |zero=>simp at e;obtain⟨rfl,rfl⟩:=e;exact⟨a,vs,u,hz,hi,by simp[entryOfKey,uO]⟩
   |succ j=>simpa using ih Ii q j k v (by simpa using e)
 refine⟨o,ho,es,ep,hx,hd,by rw[<-r.keys];exact hn,?_,λj k v e=> ?_⟩
 ·have h1:=congrArg List.length he
  have h2:=congrArg List.length r.keys
  simp at h1 h2;exact h1.trans h2
 ·obtain⟨a,vs,u,h1,h2,h3⟩:=key kvs xs r j k v e
  exact⟨a,vs,u,h1,h2,by rw[<-mu,he];exact h3⟩
theorem mC(G:dh C){d:Addr}(h:C.B.get? d=none):(d==sysModules)=false:=by
 have:d≠sysModules:=λq=>by
  obtain⟨o,ho⟩:=G.Iy
  rw[q,ho]at h;cases h
 simpa using this
theorem j1{p:Pos}(h:∀d,σ d=none->∃c,(c=.cg []\/c=.m7 []\/c=.hV [])/\Q (.loc d) (σ.upd d c)):WE C fr (.Dict [] [] p) ρ σ Q X:=λY Z s ok=>by
 have hn:s.heap.get? s.heap.objs.size=none:=bv (aj _)
 obtain⟨c,hc,q⟩:=h _ (ok.none_of hn).2.2.2.2
 refine wpAny_Dict_empty ?_
 have Ef:(s.heap.push {cls:= .type "dict",data:= .dict #[]}).get? s.heap.objs.size=some {cls:= .type "dict",data:= .dict #[]}:=aQ _ rfl
 have hx:({cls:= .type "dict",data:= .dict #[]}:Obj).ExactDict:=⟨rfl,rfl,rfl⟩
 refine⟨.loc s.heap.objs.size,_,Z,fR.refl _,ok.alloc (t':=s.toks) hn (λb o e=>aH _ e) Ef ?_,im _,q⟩
 rcases hc with rfl|rfl|rfl
 ·exact⟨[],rfl,#[],0,hx,rfl,λe he=>by simp at he,.nil,dP⟩
 ·exact⟨#[],0,hx,rfl,dP,rfl,λj k v e=>by simp at e⟩
 ·exact⟨#[],0,hx,rfl,dP,rfl,λj k v e=>by simp at e⟩
theorem rz{d:Addr}{kvs:List (Str×PV)}(ok:Ok C fr Y Z ρ σ s)(hc:σ d=some (.cg kvs)):∃ws,eo (gj Z) kvs ws/\s.heap.DictOf (sK C) d ws:=by
 obtain⟨o,ho,ws,r,k⟩:=ok.ju d _ hc
 exact⟨ws,r,k.dictOf ho⟩
theorem tu{K V:Type}[DecidableEq K]{P:V->Value->Prop}{kvs:List (K×V)}{ws:List (K×Value)}(r:eo P kvs ws)(k:K):(valueAt ws k).isSome=(bT kvs k).isSome:=by
 rcases r.look k with⟨h1,h2⟩|⟨v,u,h1,h2,_⟩<;>rw[h1,h2]<;>rfl
theorem Eg(G:dh C){d:Addr}{kvs:List (Str×PV)}(hc:σ d=some (.cg kvs))(h:Q (.bool (!(bT kvs x).isSome)) σ):W2 C fr (compareOp .NotIn) (.str x) (.loc d) ρ σ Q X:=λY Z s va vb ok ra rb=>by
 obtain⟨t,rfl⟩:=bh ra;obtain rfl:=bu rb
 obtain⟨ws,r,k⟩:=rz ok hc
 refine wpAny_notIn_of (strKind_is _ _ x t) (mC G (ok.own d _ hc).1) k.mapOf (bM ok.toks ?_ h)
 rw[tu r];exact cA _
theorem FS{d:Addr}{kvs:List (Str×PV)}{v:PV}(hc:σ d=some (.cg kvs))(hv:bT kvs x=some v)(h:Q v σ):W2 C fr getItem (.loc d) (.str x) ρ σ Q X:=λY Z s va vb ok ra rb=>by
 obtain⟨t,rfl⟩:=bh rb;obtain rfl:=bu ra
 obtain⟨ws,r,k⟩:=rz ok hc
 rcases r.look x with⟨h1,_⟩|⟨v',u,h1,h2,hr⟩
 ·rw[hv]at h1;cases h1
 ·rw[hv]at h1;cases h1
  exact wpAny_getItem_of (strKind_is _ _ x t) k.mapOf h2 (bM ok.toks hr h)
theorem Bk{d:Addr}{kvs FR:List (Str×PV)}{ws:List (Str×Value)}{h':Heap}{t':Nat}(ok:Ok C fr Y Z ρ σ s)(hc:σ d=some (.cg kvs))(hs:Heap.SameBut d s.heap h')(r:eo (gj Z) FR ws)(k:h'.DictOf (sK C) d ws):
 Ok C fr Y Z ρ (σ.upd d (.cg FR)) {s with heap:=h',toks:=t'}:=by
 obtain⟨o,ho,hk⟩:=KD.of k
 exact ok.turn hc hs ho ⟨ws,r,hk⟩
theorem FT{d:Addr}{kvs:List (Str×PV)}{v:PV}{N:b4->St->Prop}{X:b4->Prop}(hc:σ d=some (.cg kvs))(hsz:kvs.length<=sizeLine)(h:N ρ (σ.upd d (.cg (qA kvs x v)))):
 Mk C fr setItem (.loc d) (.str x) v ρ σ N X:=λY Z s va vb vc ok ra rb rc=>by
 obtain⟨t,rfl⟩:=bh rb;obtain rfl:=bu ra
 obtain⟨ws,r,k⟩:=rz ok hc
 exact wpAny_setItem_pairs (strKind_is _ _ x t) k (λh' hd hs=>⟨ρ,_,Z,fR.refl _,Bk ok hc hs (r.put rc) hd,h⟩) (by rw[r.length];exact hsz)
theorem IW(G:dh C){d:Addr}{kvs:List (Str×PV)}{v:PV}(hc:σ d=some (.cg kvs))(h:Q ((bT kvs x).getD v) σ):WN C fr (λvs=>call (.builtin "dict.get") vs) [.loc d,.str x,v] ρ σ Q X:=λY Z s vs ok rr=>by
 obtain⟨w,w',IP,rfl,ra,rb,rc⟩:=rx rr
 obtain⟨t,rfl⟩:=bh rb;obtain rfl:=bu ra
 obtain⟨ws,r,k⟩:=rz ok hc
 refine call_meetsIn F.slot_dict_get k.typeIs F.entry_dict_get (F.args_dict_get_3 _ _ _) (meets_dict_get_default (sK C) d (strKind_is _ _ x t) (mC G (ok.own d _ hc).1) IP) ⟨_,k.mapOf,?_⟩
 refine bM ok.toks ?_ h
 rcases r.look x with⟨h1,h2⟩|⟨v',u,h1,h2,hr⟩
 ·rw[h1,h2];exact rc
 ·rw[h1,h2];exact hr
theorem zj{d:Addr}{kvs:List (Int×Int)}(ok:Ok C fr Y Z ρ σ s)(hc:σ d=some (.m7 kvs)):∃ws,eo Ox kvs ws/\s.heap.DictOf (iK C) d ws:=by
 obtain⟨o,ho,x⟩:=ok.ju d _ hc
 obtain⟨ws,r,k⟩:=ug (C:=C) x
 exact⟨ws,r,k.dictOf ho⟩
theorem MF(G:dh C){d:Addr}{kvs:List (Int×Int)}(hc:σ d=some (.m7 kvs))(h:Q (.bool (bT kvs a).isSome) σ):W2 C fr (compareOp .In) (.int a) (.loc d) ρ σ Q X:=λY Z s va vb ok ra rb=>by
 obtain⟨t,rfl⟩:=aK ra;obtain rfl:=bu rb
 obtain⟨ws,r,k⟩:=zj ok hc
 refine wpAny_in_of (intKind_is _ _ a t) (mC G (ok.own d _ hc).1) k.mapOf (bM ok.toks ?_ h)
 rw[tu r];exact cA _
theorem FU{d:Addr}{kvs:List (Int×Int)}{v:Int}{N:b4->St->Prop}{X:b4->Prop}(hc:σ d=some (.m7 kvs))(hsz:kvs.length<=sizeLine)(h:N ρ (σ.upd d (.m7 (qA kvs a v)))):
 Mk C fr setItem (.loc d) (.int a) (.int v) ρ σ N X:=λY Z s va vb vc ok ra rb rc=>by
 obtain⟨t,rfl⟩:=aK rb;obtain rfl:=bu ra
 obtain⟨ws,r,k⟩:=zj ok hc
 refine wpAny_setItem_pairs (intKind_is _ _ a t) k (λh' hd hs=> ?_) (by rw[r.length];exact hsz)
 obtain⟨o,ho,hk⟩:=KD.of hd
 exact⟨ρ,_,Z,fR.refl _,ok.turn (c':= .m7 (qA kvs a v)) hc hs ho (IU (r.put (aK rc)) hk),h⟩
theorem zk{kvs:List (Int×Int)}{v:Int}(hv:bT kvs a=some v)(h:Q (.int v) σ):W2 C fr getItem (.tabI kvs) (.int a) ρ σ Q X:=λY Z s va vb ok ra rb=>by
 obtain⟨t,rfl⟩:=aK rb
 obtain⟨d,o,rfl,hz,ht⟩:=iz ra
 obtain⟨ws,r,k⟩:=ug (C:=C) ht
 rcases r.look a with⟨h1,_⟩|⟨v',u,h1,h2,hr⟩
 ·rw[hv]at h1;cases h1
 ·rw[hv]at h1;cases h1
  obtain⟨tk,rfl⟩:=hr
  exact wpAny_getItem_of (intKind_is _ _ a t) (k.dictOf (ok.vals _ _ hz)).mapOf h2 (bM ok.toks (ct _ _) h)
theorem rA(F:aG C fr):fr.A.units+1<cLine:=av (show fr.A.units+1<9001 by have:=F.room;unfold mw at this;exact n8 [.lt (.a (.v 0) (.m 16 (.v 1))) (.n 9000)] (.lt (.a (.v 0) (.n 1)) (.n 9001)) [1] (Eq.refl true) this.2) (by decide)
theorem mD{ks:List Int}{v:Value}(r:gj Z (lU ks) v):∃a,v=.ref a/\qB Z ks a:=by
 obtain⟨a,vs,e,z,rl⟩:=fh r
 exact⟨a,e,vs,z,zi rl⟩
theorem uP{d:Addr}{kvs:List (List Int×Int)}(ok:Ok C fr Y Z ρ σ s)(hc:σ d=some (.hV kvs)):∃xs,i6 Z kvs xs/\s.heap.DictOfH (tK C) d xs:=by
 obtain⟨o,ho,x⟩:=ok.ju d _ hc
 exact uh x ok.vals ho
theorem MG(G:dh C)(F:aG C fr){d:Addr}{kvs:List (List Int×Int)}{ks:List Int}(hc:σ d=some (.hV kvs))(h:Q (.bool (bT kvs ks).isSome) σ):W2 C fr (compareOp .In) (lU ks) (.loc d) ρ σ Q X:=λY Z s va vb ok ra rb=>by
 obtain⟨k,rfl,hk⟩:=mD ra;obtain rfl:=bu rb
 obtain⟨xs,r,hd⟩:=uP ok hc
 refine wpAny_in_heap (knd:=tK C) (rA F) (hk.is ok.vals) (mC G (ok.own d _ hc).1) hd (bM ok.toks ?_ h)
 rcases r.look ks with⟨h1,h2⟩|⟨v,a,u,h1,h2⟩<;>rw[h1,h2]<;>exact cA _
theorem zm(F:aG C fr){d:Addr}{kvs:List (List Int×Int)}{ks:List Int}{v:Int}{N:b4->St->Prop}{X:b4->Prop}(hc:σ d=some (.hV kvs))(hsz:kvs.length<=sizeLine)(h:N ρ (σ.upd d (.hV (qA kvs ks v)))):
 Mk C fr setItem (.loc d) (lU ks) (.int v) ρ σ N X:=λY Z s va vb vc ok ra rb rc=>by
 obtain⟨k,rfl,hk⟩:=mD rb;obtain rfl:=bu ra;obtain⟨u,rfl⟩:=aK rc
 obtain⟨xs,r,hd⟩:=uP ok hc
 have hl:xs.length<=sizeLine:=by have:=congrArg List.length r.keys;simp at this;exact this▸hsz
 refine wpAny_setItem_heap (knd:=tK C) (hsz:=hl) (rA F) (hk.is ok.vals) hd λh' Ph hs=> ?_
 obtain⟨o,ho,ht⟩:=IV (r.put (v:=v) (u:=u) hk) Ph
 exact⟨ρ,_,Z,fR.refl _,ok.turn (c':= .hV (qA kvs ks v)) hc hs ho ht,h⟩
theorem IY(G:dh C)(F:aG C fr){d:Addr}{kvs:List (List Int×Int)}{ks:List Int}{v:Int}(hc:σ d=some (.hV kvs))(h:Q (.int ((bT kvs ks).getD v)) σ):
 WN C fr (λvs=>call (.builtin "dict.get") vs) [.loc d,lU ks,.int v] ρ σ Q X:=λY Z s vs ok rr=>by
 obtain⟨w,w',IP,rfl,ra,rb,rc⟩:=rx rr
 obtain⟨k,rfl,hk⟩:=mD rb;obtain rfl:=bu ra;obtain⟨u,rfl⟩:=aK rc
 obtain⟨xs,r,hd⟩:=uP ok hc
 refine call_meetsIn PySem.F.slot_dict_get hd.typeIs PySem.F.entry_dict_get (PySem.F.args_dict_get_3 _ _ _) (meetsH_dict_get_default (tK C) d k (mC G (ok.own d _ hc).1) (.int v u)) ⟨rA F,ks,xs,hk.is ok.vals,hd,?_⟩
 refine bM ok.toks ?_ h
 rcases r.look ks with⟨h1,h2⟩|⟨v',a,u',h1,h2⟩<;>rw[h1,h2]<;>exact ct _ _
theorem zo(F:aG C fr){kvs:List (List Int×Int)}{ks:List Int}{v:Int}(hv:bT kvs ks=some v)(h:Q (.int v) σ):W2 C fr getItem (.eg kvs) (lU ks) ρ σ Q X:=λY Z s va vb ok ra rb=>by
 obtain⟨k,rfl,hk⟩:=mD rb
 obtain⟨d,o,rfl,hz,ht⟩:=iA ra
 obtain⟨xs,r,hd⟩:=uh (C:=C) ht ok.vals (ok.vals _ _ hz)
 rcases r.look ks with⟨h1,_⟩|⟨v',a,u,h1,h2⟩
 ·rw[hv]at h1;cases h1
 ·rw[hv]at h1;cases h1
  exact wpAny_getItem_heap (knd:=tK C) (rA F) (hk.is ok.vals) hd h2 (bM ok.toks (ct _ _) h)
theorem Bl{xs:List Str}(h:Q (.bool (decide (x∈xs))) σ):W2 C fr (compareOp .In) (.str x) (.tup (xs.map .str)) ρ σ Q X:=λY Z s va vb ok ra rb=>by
 obtain⟨t,rfl⟩:=bh ra
 obtain⟨l,vs,rfl,zt,rl⟩:=fh rb
 obtain⟨ps,rfl,rfl⟩:=gX rl
 refine in_tupleAt (λv=>match v with|.str z _=>z==x|_=>false) (zt.sD ok.vals) (λv hv=> ?_) (bM ok ?_ h)
 ·have Bb:v∈strValues ps:=by simpa using hv
  obtain⟨p,_,rfl⟩:=bn.mp Bb
  exact EqAt.str_str _ _ _ _
 ·have:(strValues ps).toArray.any (λv=>match v with|.str z _=>z==x|_=>false)=decide (x∈ps.map (·.1)):=by
   rw[ka];simp[strValues]
  rw[this];exact cA _
theorem Bm{l:Addr}{xs:List Str}(hc:σ l=some (.list (xs.map .str)))(h:Q (.bool (decide (x∈xs))) σ):W2 C fr (compareOp .In) (.str x) (.loc l) ρ σ Q X:=λY Z s va vb ok ra rb=>by
 obtain⟨t,rfl⟩:=bh ra
 obtain rfl:=bu rb
 obtain⟨o,ho,us,n,rfl,rl⟩:=ok.ju l _ hc
 obtain⟨ps,rfl,rfl⟩:=gX rl
 refine in_listAt (λv=>match v with|.str z _=>z==x|_=>false) ⟨_,ho,rfl,n,rfl⟩ (λv hv=> ?_) (bM ok ?_ h)
 ·have Bb:v∈strValues ps:=by simpa using hv
  obtain⟨p,_,rfl⟩:=bn.mp Bb
  exact EqAt.str_str _ _ _ _
 ·have:(strValues ps).toArray.any (λv=>match v with|.str z _=>z==x|_=>false)=decide (x∈ps.map (·.1)):=by
   rw[ka];simp[strValues]
  rw[this];exact cA _
theorem wx{l:Addr}{xs:List Str}(hc:σ l=some (.list (xs.map .str)))(h:Q (.bool (!decide (x∈xs))) σ):W2 C fr (compareOp .NotIn) (.str x) (.loc l) ρ σ Q X:=λY Z s va vb ok ra rb=>by
 obtain⟨t,rfl⟩:=bh ra
 obtain rfl:=bu rb
 obtain⟨o,ho,us,n,rfl,rl⟩:=ok.ju l _ hc
 obtain⟨ps,rfl,rfl⟩:=gX rl
 refine notIn_listAt (λv=>match v with|.str z _=>z==x|_=>false) ⟨_,ho,rfl,n,rfl⟩ (λv hv=> ?_) (bM ok ?_ h)
 ·have Bb:v∈strValues ps:=by simpa using hv
  obtain⟨p,_,rfl⟩:=bn.mp Bb
  exact EqAt.str_str _ _ _ _
 ·have:(strValues ps).toArray.any (λv=>match v with|.str z _=>z==x|_=>false)=decide (x∈ps.map (·.1)):=by
   rw[ka];simp[strValues]
  rw[this];exact cA _
theorem rB:∀{xs:List Int} {vs:List Value},cJ Z (xs.map .int) vs->∃l:List (Int×Tok),vs=l.map (λp=> .int p.1 p.2)/\l.map (·.1)=xs
 |[],vs,r=>by exact⟨[],r,rfl⟩
 |x::xs,vs,r=>by
  obtain⟨v,E0,rfl,r1,r2⟩:=r
  obtain⟨t,rfl⟩:=aK r1
  obtain⟨l,rfl,rfl⟩:=rB r2
  exact⟨(x,t)::l,rfl,rfl⟩
theorem Bn{l:Addr}{xs:List Int}(hc:σ l=some (.list (xs.map .int)))(h:Q (.bool (decide (a∈xs))) σ):W2 C fr (compareOp .In) (.int a) (.loc l) ρ σ Q X:=λY Z s va vb ok ra rb=>by
 obtain⟨t,rfl⟩:=aK ra
 obtain rfl:=bu rb
 obtain⟨o,ho,us,n,rfl,rl⟩:=ok.ju l _ hc
 obtain⟨ps,rfl,rfl⟩:=rB rl
 refine in_listAt (λv=>match v with|.int z _=>z==a|_=>false) ⟨_,ho,rfl,n,rfl⟩ (λv hv=> ?_) (bM ok ?_ h)
 ·have Bb:v∈ps.map (λp=>Value.int p.1 p.2):=by simpa using hv
  obtain⟨p,_,rfl⟩:=bn.mp Bb
  exact EqAt.int_int _ _ _ _
 ·have:(ps.map (λp=>Value.int p.1 p.2)).toArray.any (λv=>match v with|.int z _=>z==a|_=>false)=decide (a∈ps.map (·.1)):=by
   rw[ka];simp
  rw[this];exact cA _
end
section
variable{C:Ctx}{fr:Fm}{ρ:b4}{σ:St}{Q:PV->St->Prop}{X:Prop}{Y Z:Zf}{s:Shared}{K:Frag}{c:Addr}{name:Str}
structure xb(K:Frag)(c:Addr)(cd:ClassData):Prop where
 cls:clsIn K c=some cd
 has:cd.hasDict=true
 ga:findIn K (.ref c) "__getattribute__"=some (some (.builtin "object.__getattribute__"))
 gat:findIn K (.ref c) "__getattr__"=some none
 sa:findIn K (.ref c) "__setattr__"=some (some (.builtin "object.__setattr__"))
 over:plainOver K c=true
theorem Bo(ok:Ok C fr Y Z ρ σ s){x d:Addr}{kvs:List (Str×PV)}(hx:σ x=some (.inst c d))(hd:σ d=some (.cg kvs)):
 ∃od ws,InstAt s.heap x {cls:= .ref c,dict:=some d,data:= .plain} c (some od)/\s.heap.get? d=some od/\eo (gj Z) kvs ws/\KD (sK C) od ws:=by
 obtain⟨o,ho,rfl⟩:=ok.ju x _ hx
 obtain⟨od,Ba,ws,r,k⟩:=ok.ju d _ hd
 exact⟨od,ws,⟨ho,rfl,rfl,Ba⟩,Ba,r,k⟩
theorem pY(x:Str)(v:Value):Value.isStrOf x v=v.isStr x:=by
 cases v<;>simp[Value.isStrOf,Value.isStr,Bool.beq_eq_decide_eq,eq_comm]
theorem xc{e:DictEntry}{k:Str}(h:Value.isStrOf k e.key=true):e.refKey=false:=(Value.isStrOf_shape h).elim λt ht=>by unfold DictEntry.refKey;rw[ht]
theorem sS{ws:List (Str×Value)}{od:Obj}(k:KD (sK C) od ws)(x:Str):lookIn x od=some (valueAt ws x):=by
 obtain⟨es,ep,hx,hd,hk,hp,hn⟩:=k
 unfold lookIn
 rw[hd]
 have hf:(es.toList.find? λe=>e.key.isStr x)=es.toList.find? λe=>(sK C).is x e.key:=by
  congr 1;funext e;exact(pY x e.key).symm
 have hv:=hp.find x
 dsimp only
 rw[hf]
 cases q:es.toList.find? (λe=>(sK C).is x e.key)with
 |some e=>rw[q]at hv;simp at hv;simp[hv]
 |none=>
  rw[q]at hv;simp at hv
  have hr:es.toList.any (·.refKey)=false:=List.any_eq_false.mpr λe he=>i3.mp ((hk e (Array.mem_toList_iff.mp he)).elim λk h=>xc h.1)
  rw[hr,<-hv];rfl
theorem findObj_own{cd:ClassData}{od:Obj}{v:Value}(O:xb K c cd)(hn:findIn K (.ref c) name=some none)(hl:lookIn name od=some (some v)):findObj K c (some od) name=some (.value v):=
 ah.mpr ⟨cd,O.cls,ah.mpr ⟨none,hn,ah.mpr ⟨none,rfl,ah.mpr ⟨false,rfl,ah.mpr ⟨some v,(if_pos O.has).trans hl,rfl⟩⟩⟩⟩⟩
inductive IZ(σ:St)(c:Addr)(name:Str)(ov:PV)(P:Addr->Prop):Prop
 |mk (x d:Addr) (kvs:List (Str×PV)) (a:Addr) (e:ov=.loc x) (hx:σ x=some (.inst c d)) (hd:σ d=some (.cg kvs)) (hl:bT kvs name=some (.loc a)) (q:P a)
inductive I0(σ:St)(c:Addr)(name:Str)(ov:PV)(P:Addr->Prop):Prop
 |mk (x d:Addr) (kvs:List (Str×PV)) (e:ov=.loc x) (hx:σ x=some (.inst c d)) (hd:σ d=some (.cg kvs)) (hn:bT kvs name=none) (q:P x)
inductive I1(σ:St)(c:Addr)(name:Str)(ov v:PV)(P:St->Prop):Prop
 |mk (x d:Addr) (kvs:List (Str×PV)) (e:ov=.loc x) (hx:σ x=some (.inst c d)) (hd:σ d=some (.cg kvs)) (hn:bT kvs name=none) (hsz:kvs.length<=1000) (q:P (σ.upd d (.cg (kvs++[(name,v)]))))
theorem iN{cd:ClassData}{o:Expr}{pos:Pos}(hX:K.In C.B)(O:xb K c cd)(hn:findIn K (.ref c) name=some none)
 (h:WE C fr o ρ σ (λov aO=>IZ aO c name ov λa=>Q (.loc a) aO) X)
 (hb:∀env,attributeBase o name env (eval o env)=eval o env:=by with_unfolding_all(intro _;rfl)):WE C fr (.Attribute o name pos) ρ σ Q X:=λY Z s ok=>by
 rw[arm_eval_Attribute,hb]
 refine wpAny_bind (wV (h Y Z s ok) λov bG pv aO cf b8 bC cE g=>wpAny_bind (wpAny_standAt (wpAny_bind (wpAny_holding ?_))))
 obtain⟨x,d,kvs,a,rfl,hx,hd,hl,q⟩:=g
 obtain rfl:=bu cE
 obtain⟨od,ws,I,Ba,r,k⟩:=Bo bC hx hd
 have hv:valueAt ws name=some (.ref a):=by
  rcases r.look name with⟨h1,_⟩|⟨v,u,h1,h2,hr⟩
  ·rw[hl]at h1;cases h1
  ·rw[hl]at h1;cases h1;rw[h2,bu hr]
 refine get_value (hX.keeps bC.base) I O.ga (findObj_own O hn (by rw[sS k,hv])) rfl ?_
 refine wpAny_bind (sP (wpAny_pure ?_))
 exact⟨.loc a,aO,cf,b8,bC.toks,im _,q⟩
theorem jg(G:dh C)(F:aG C fr){cd:ClassData}{Fn:Fn}(H:FnAt C Fn){o:Expr}{xV pos:Pos}{es:List Expr}{lv:Nat}(hX:K.In C.B)(O:xb K c cd)
 (hf:findIn K (.ref c) name=some (some (.ref Fn.f))) (ht:typeIn K (.ref Fn.f)=some (.type "function")) (hl:lv<fr.lvl)
 (h:WE C fr o ρ σ (λov aO=>I0 aO c name ov λx=>WL C fr pos es ρ aO (λas bX=>as.length+1=Fn.np/\Spec C Fn lv (.loc x::as) bX Q X) X) X)
 (j7:es=[]\/∃x l,backTo pos (starEach es fr.env)=(false,x)::l:=by with_unfolding_all(first|exact .inl rfl|exact .inr ⟨_,_,rfl⟩))
 (he:∀env,∃pl,eval (.Call (.Attribute o name xV) es [] pos) env=(do
  let ov<-eval o env
  standAt xV.atName
  let(f,first)<-holding [ov] (getMethod ov name pl)
  callWith pos f first (backTo pos (starEach es env)) []):=by with_unfolding_all(intro _;exact⟨_,rfl⟩)):WE C fr (.Call (.Attribute o name xV) es [] pos) ρ σ Q X:=λY Z s ok=>by
 obtain⟨pl,e⟩:=he fr.env
 refine MethodCall_ (pl:=pl) (wV (h Y Z s ok) λov bG pv aO cf b8 bC cE g=> ?_) e
 obtain⟨x,d,kvs,rfl,hx,hd,hn,hw⟩:=g
 obtain rfl:=bu cE
 obtain⟨od,ws,I,Ba,r,k⟩:=Bo bC hx hd
 have hv:valueAt ws name=none:=by
  rcases r.look name with⟨_,h2⟩|⟨v,u,h1,h2,hr⟩
  ·exact h2
  ·rw[hn]at h1;cases h1
 refine method_fn (hX.keeps bC.base) I O.ga O.gat hf ht (by unfold shadowIn;simp only[sS k,hv];rfl) ?_
 obtain⟨fd,ob,Pr,Uj,_⟩:=H.obj
 refine callWith_function (o:=ob) (fd:=fd) (wpAny_mono (pH hw (.ref Fn.f) j7 Y cf bG bC) (λa cW h=> ?_) λ_ _ x=>x)
 obtain⟨vs,rfl,as,bX,fq,cT,b3,ia,eC,hs⟩:=h
 exact⟨⟨b3.base _ _ Pr,Uj⟩,(wP (zd G F H hl (args:= .loc x::as) eC hs Y fq cW (.ref x::vs) b3 (.cons (im _) ia)) λ_ _ x=>x.le (b8.trans cT))⟩
theorem zp{cd:ClassData}(hX:K.In C.B)(O:xb K c cd)(ht:takerIn K c name=some none){x d:Addr}{kvs:List (Str×PV)}{pv:PV}{N:b4->St->Prop}{X:b4->Prop}(hx:σ x=some (.inst c d))(hd:σ d=some (.cg kvs))
 (hn:bT kvs name=none) (hsz:kvs.length<=1000) (h:N ρ (σ.upd d (.cg (kvs++[(name,pv)])))):T6 C fr (λv=>setAttr (.ref x) name v) pv ρ σ N X:=λY Z s v ok rv=>by
 obtain⟨od,ws,I,Ba,r,k⟩:=Bo ok hx hd
 have hv:valueAt ws name=none:=by
  rcases r.look name with⟨_,h2⟩|⟨v,u,h1,h2,hr⟩
  ·exact h2
  ·rw[hn]at h1;cases h1
 have XH:=hX.keeps ok.base
 refine set_plain XH I O.sa (osa_open (hX.keeps ok.base) I O.over ht λb=> ?_)
 obtain⟨es,ep,MH,Ih,hk,hp,Ms⟩:=k
 have FV:=sS (C:=C) ⟨es,ep,MH,Ih,hk,hp,Ms⟩ name
 rw[hv]at FV
 have Ps:∀e∈es,e.key.isStr name=false:=λe he=>by
  cases q:e.key.isStr name with
  |false=>rfl
  |true=>
   have YE:=hp.find name
   rw[hv]at YE
   have:(es.toList.find? λe=>(sK C).is name e.key)=none:=by simpa using YE
   have:=List.find?_eq_none.mp this e (by simpa using he)
   exact absurd ((pY name e.key).trans q) this
 have Pt:es.any (·.refKey)=false:=Array.any_eq_false.mpr λi hi=>i3.mp ((hk es[i] (Array.getElem_mem _)).elim λk h=>xc h.1)
 have I2:∀tk,Obj.putName name (hashStr C.w name) (.str name tk) v od={od with data:= .dict (es.push ⟨hashStr C.w name,.str name tk,v⟩) (ep+1)}:=λtk=>by
  rw[Obj.putName_eq]
  obtain⟨oc,odi,oda,osl⟩:=od
  simp only at Ih;subst Ih
  unfold Obj.putNameByArray
  have:es.findIdx? (·.key.isStr name)=none:=by
   rw[Array.findIdx?_eq_none_iff];exact Ps
  simp only[this]
 have j7:∀tk t',yW C fr Y Z N () {s with heap:=s.heap.update d (Obj.putName name (hashStr C.w name) (.str name tk) v),toks:=t'}:=λtk t'=>by
  have YB:({od with data:= .dict (es.push ⟨hashStr C.w name,.str name tk,v⟩) (ep+1)}:Obj).isFreed=false:=rfl
  refine⟨ρ,_,Z,fR.refl _,ok.turn hd (jS ..) (ej _ Ba (by rw[I2];rfl)) (c':= .cg (kvs++[(name,pv)])) ?_,h⟩
  rw[I2]
  refine⟨ws++[(name,v)],r.append ⟨v,[],rfl,rv,rfl⟩,es.push ⟨hashStr C.w name,.str name tk,v⟩,ep+1,⟨MH.1,MH.2.1,MH.2.2⟩,rfl,λe he=> ?_,?_,?_⟩
  ·rcases Array.mem_push.mp he with he|rfl
   ·exact hk e he
   ·exact⟨name,strKind_is _ _ _ _,rfl⟩
  ·rw[Array.toList_push];exact hp.append (strKind_is _ _ _ _) _ _
  ·rw[aI]
   refine gq.mpr ⟨Ms,by simp,λa ha b hb=> ?_⟩
   simp at hb;subst hb
   rintro rfl
   rw[r.keys]at ha
   obtain⟨p,yR,e⟩:=bn.mp ha
   unfold bT at hn
   rw[Option.map_eq_none_iff,List.find?_eq_none]at hn
   exact hn p yR (by simpa using e)
 obtain⟨hxo,K6,MI,-⟩:=I
 refine wpAny_bind (wpAny_pure (wpAny_bind (wpAny_bind (wpAny_loadPart hxo (wpAny_bind ((looks_clsIn (M:=model C.prog C.w) XH O.cls) _ _ _ _ (λ_ _ e=>e) ?_))))))
 rw[O.has]
 refine wpAny_pure (a:=some d) (wpAny_bind (wpAny_pure (wpAny_bind ?_)))
 unfold nsSet
 refine wpAny_bind (wpAny_bind (wpAny_askSetting (wpAny_pure (wpAny_bind (wpAny_mkText (wpAny_bind (wpAny_loadPart Ba ?_)))))))
 rw[Ih]
 dsimp only
 rw[aRefKeyMayBeTheName_at,Pt,Bool.and_false]
 refine wpAny_updatePart Ba ?_
 have MJ:∀tk,(s.heap.update d (Obj.putName name (hashStr C.w name) (.str name tk) v)).get? d=some {od with data:= .dict (es.push ⟨hashStr C.w name,.str name tk,v⟩) (ep+1)}:=λtk=>by
  rw[ej _ Ba (by rw[I2];rfl),I2]
 have E2:es.size<=1000:=by
  have h1:=hp.length;have h2:=r.length;simp at h1;exact qV [.le (.v 0) (.n 1000),.eq (.v 1) (.v 2),.eq (.v 2) (.v 0)] (.le (.v 1) (.n 1000)) [1,1,1] (Eq.refl true) hsz h1 h2
 refine wpAny_bind (wpAny_lookBehind (MJ _) (pastItsLine_dict (by rw[Array.size_push,sizeLine_eq];exact ak E2 (by decide))) ?_)
 exact wpAny_pure (j7 _ _)
theorem iO{cd:ClassData}{o e:Expr}{p p':Pos}{N:b4->St->Prop}{R:PV->St->Prop}{J:Bool->b4->St->Prop}{X:b4->Prop}(hX:K.In C.B)(O:xb K c cd)(ht:takerIn K c name=some none)
 (h:WE C fr e ρ σ (λv aO=>WE C fr o ρ aO (λov bX=>I1 bX c name ov v (N ρ)) (X ρ)) (X ρ))
 (hs:∀env,swapsWith e (some (.Attribute o name p')) p.line env=pure false:=by with_unfolding_all(intro _;rfl)):WS C fr (.Assign [.Attribute o name p'] e p) ρ σ N R J X:=λY Z s ok=>
 plainObj_wpAny_Assign_Attribute (yX (h Y Z s ok) λv bG a aO cf b8 bC cE oo=>yX (oo Y cf bG bC) λov cW b bX fq cT b3 ia g=>by
  obtain⟨x,d,kvs,rfl,hx,hd,hn,hsz,jd⟩:=g
  obtain rfl:=bu ia
  exact(wU (zp hX O ht hx hd hn hsz (N:=N) (X:=X) jd Y fq cW v b3 (cE.mono cT)) λ_ iL y4 dJ my je du qv=>⟨y4,dJ,my,(b8.trans cT).trans je,du,qv⟩)) (hs _)
noncomputable def WP(C:Ctx)(fr:Fm)(e:Option Expr)(ρ:b4)(σ:St)(Q:Option Int->St->Prop)(X:Prop):Prop:=match e with
 |none=>Q none σ
 |some e=>WE C fr e ρ σ (λv aO=>∃i,v=.int i/\Q (some i) aO) X
theorem I3{Q:Option Int->St->Prop}(h:Q none σ):WP C fr none ρ σ Q X:=h
theorem I4{e:Expr}{Q:Option Int->St->Prop}(h:WE C fr e ρ σ (λv aO=>∃i,v=.int i/\Q (some i) aO) X):WP C fr (some e) ρ σ Q X:=h
theorem WP.run{e:Option Expr}{Q:Option Int->St->Prop}(h:WP C fr e ρ σ Q X)(ok:Ok C fr Y Z ρ σ s){P:Value->Shared->Prop}{E:Value->Shared->Prop}
 (hk:∀p:Option (Int×Tok),∀s' σ' Z',fR Z Z'->Ok C fr Y Z' ρ σ' s'->Q (p.map (·.1)) σ'->P (partValue p) s') (hE:∀x s',gb C fr Y ρ X x s'->E x s'):wpAny C.M fr.A (evalPart e fr.env) P E s:=by
 cases e with
 |none=>rw[evalPart_none];exact wpAny_pure (hk none s σ Z (fR.refl _) ok h)
 |some e=>
  rw[evalPart_some]
  refine wpAny_mono (h Y Z s ok) (λv bG ⟨pv,aO,cf,b8,bC,cE,i,e,q⟩=> ?_) hE
  subst e
  obtain⟨t,rfl⟩:=aK cE
  exact hk (some (i,t)) bG aO cf b8 bC q
noncomputable def xe(C:Ctx)(σ:St)(v:PV)(xs:List PV):Prop:=
 (∃l,v=.loc l/\σ l=some (.list xs))\/∃l n vs,v=.val (.ref l)/\C.B.get? l=some {cls:= .type "list",data:= .seq vs n}/\∀Z,cJ Z xs vs.toList
theorem xe.at(h:xe C σ v xs)(ok:Ok C fr Y Z ρ σ s){u:Value}(r:gj Z v u):∃l vs n,u=.ref l/\s.heap.get? l=some {cls:= .type "list",data:= .seq vs n}/\cJ Z xs vs.toList:=by
 rcases h with⟨l,rfl,hc⟩|⟨l,n,vs,rfl,hb,hr⟩
 ·obtain rfl:=bu r
  obtain⟨o,ho,us,n,rfl,rl⟩:=ok.ju l _ hc
  exact⟨l,us.toArray,n,rfl,ho,by simpa using rl⟩
 ·obtain rfl:=jc r
  exact⟨l,vs,n,rfl,ok.base _ _ hb,hr Z⟩
noncomputable def FW(n:Nat)(lo:Option Int):Nat:=lo.elim 0 (clipAt n)
noncomputable def I5(n:Nat)(hi:Option Int):Nat:=hi.elim n (clipAt n)
theorem zq(n k:Nat):clipAt n k=min k n:=by
 unfold clipAt
 rw[if_neg (eH.mpr (aE k))]
 rcases Nat.le_total k n with h|h
 ·rw[Int.min_eq_left (cF.mpr h),Int.max_eq_right (aE _),bJ,gg h]
 ·rw[Int.min_eq_right (cF.mpr h),Int.max_eq_right (aE _),bJ,Nat.min_eq_right h]
theorem I6{n k:Nat}(h:k<=n):clipAt n k=k:=(zq n k).trans (gg h)
noncomputable def eN{α:Type}(xs:List α)(lo hi:Option Int):List α:=(xs.drop (FW xs.length lo)).take (I5 xs.length hi-FW xs.length lo)
theorem xf(p:Option (Int×Tok)):IsPart (partValue p) (p.map (·.1)):=by
 cases p with
 |none=>exact .none
 |some p=>exact .int _ _
theorem xg{value:Expr}{zu zv:Option Expr}{p pos:Pos}
 (h:WE C fr value ρ σ (λv aO=>WP C fr zu ρ aO (λlo bX=>WP C fr zv ρ bX (λhi dJ=>∃xs,xe C dJ v xs/\xs.length<=sizeLine/\∀l,dJ l=none->Q (.loc l) (dJ.upd l (.list (eN xs lo hi)))) X) X) X)
 (ht:∀o r,letTemporaryGo value o r=pure ():=by with_unfolding_all(intro _ _;rfl)):WE C fr (.Subscript value (.Slice zu zv none p) pos) ρ σ Q X:=λY Z s ok=>by
 refine wpAny_Subscript_list_slice (wV (h Y Z s ok) λv bG pv aO cf b8 bC cE fU=> ?_) ht
 refine fU.run bC (λlo cW bX fq cT b3 gm=> ?_) λ_ _ x=>x
 refine gm.run b3 (λhi iL dJ my je du ⟨xs,hl,hsz,q⟩=> ?_) λ_ _ x=>x
 obtain⟨l,vs,n,rfl,ho,rl⟩:=hl.at du (cE.mono (cT.trans je))
 have eC:vs.size=xs.length:=by have:=rl.length;simpa using this
 refine⟨l,vs,_,_,rfl,⟨_,ho,rfl,n,rfl⟩,by rw[eC];exact hsz,xf lo,xf hi,?_⟩
 have kg:=du.push (t':=iL.toks) {cls:= .type "slice",data:= .fields #[partValue lo,partValue hi,.none]}
 have e:slicePick vs (lo.map (·.1)) (hi.map (·.1)) none=(eN vs.toList (lo.map (·.1)) (hi.map (·.1))).toArray:=by
  rw[slicePick_plain];simp[eN,FW,I5]
 have rs:cJ my (eN xs (lo.map (·.1)) (hi.map (·.1))) (eN vs.toList (lo.map (·.1)) (hi.map (·.1))):=by
  unfold eN
  rw[rl.length]
  exact(rl.drop _).take _
 have:=mB (t':=iL.toks) (Q:=Q) kg rs q
 rw[lF,<-e]at this
 exact this.le ((b8.trans cT).trans je)
theorem uQ{x:Str}{t:Tok}{l u:Option (Int×Tok)}{P:Value->Shared->Prop}(hsz:x.length<=sizeLine)(h:∀t' k,P (.str (Txt.slice x (l.map (·.1)) (u.map (·.1))) t') {s with toks:=k}):(sliceMade x t l u none).post P s:=by
 unfold sliceMade
 unfold Txt.slice at h
 have e:slicePicked x l u none=Builtin.Str.strSliceIndices (l.map (·.1)) (u.map (·.1)) 1 x.length:=rfl
 rw[e]
 show(if((1:Int)==1&&_)=true then _ else _:Made).post P s
 split
 ·rename_i hc;rw[if_pos hc]at h;exact h t s.toks
 ·rename_i hc
  rw[if_neg hc]at h
  refine⟨?_,h s.toks (s.toks+1)⟩
  refine aa ?_ hsz
  have h1:=sliceIndices_le (l.map (·.1)) (u.map (·.1)) x.length
  refine aa ?_ h1
  show(List.toArray _).size<=_
  rw[List.size_toArray]
  exact List.length_filterMap_le _ _
theorem Eh{value:Expr}{zu zv:Option Expr}{p pos:Pos}
 (h:WE C fr value ρ σ (λv aO=>WP C fr zu ρ aO (λlo bX=>WP C fr zv ρ bX (λhi dJ=>∃x,v=.str x/\x.length<=sizeLine/\Q (.str (Txt.slice x lo hi)) dJ) X) X) X)
 (ht:∀o r,letTemporaryGo value o r=pure ():=by with_unfolding_all(intro _ _;rfl)):WE C fr (.Subscript value (.Slice zu zv none p) pos) ρ σ Q X:=λY Z s ok=>by
 refine wpAny_Subscript_str_slice (wV (h Y Z s ok) λv bG pv aO cf b8 bC cE fU=> ?_) ht
 refine fU.run bC (λlo cW bX fq cT b3 gm=> ?_) λ_ _ x=>x
 refine gm.run b3 (λhi iL dJ my je du ⟨x,e,hsz,q⟩=> ?_) λ_ _ x=>x
 subst e
 obtain⟨t,rfl⟩:=bh cE
 refine⟨x,t,lo,hi,rfl,rfl,rfl,uQ hsz λt' k=> ?_⟩
 have kg:=du.push (t':=k) {cls:= .type "slice",data:= .fields #[partValue lo,partValue hi,.none]}
 exact(bM kg (ft _ _) q).le ((b8.trans cT).trans je)
end
theorem oA(A:Around)(c:Addr)(rest:List Value):(A.under (.builtin "type.__call__" ⟨.ref c::rest,[]⟩)).frames=A.frames/\(A.under (.builtin "type.__call__" ⟨.ref c::rest,[]⟩)).handled=A.handled/\
 (A.under (.builtin "type.__call__" ⟨.ref c::rest,[]⟩)).depth<=A.depth+1/\(A.under (.builtin "type.__call__" ⟨.ref c::rest,[]⟩)).units<=A.units+1:=by
 have hw:(Code.builtin "type.__call__" ⟨.ref c::rest,[]⟩).weight=1:=by rfl'
 have hu:(Code.builtin "type.__call__" ⟨.ref c::rest,[]⟩).cUnits=1:=by rfl'
 have he:(Code.builtin "type.__call__" ⟨.ref c::rest,[]⟩).envs=[]:=by rfl'
 refine⟨?_,rfl,?_,?_⟩
 ·unfold Around.under;rw[he];cases A.frames<;>rfl
 ·unfold Around.under;rw[hw];exact aj _
 ·unfold Around.under;rw[hu];exact aj _
theorem CR{A:Around}{n:Nat}(h:mw A (n+1))(c:Addr)(rest:List Value):mw (A.under (.builtin "type.__call__" ⟨.ref c::rest,[]⟩)) n:=by
 obtain⟨_,_,h1,h2⟩:=oA A c rest
 unfold mw at*;omega
section
variable{prog:Program}{w:World}{A:Around}{E:Value->Shared->Prop}{h:Heap}{g:Array GenState}{d:Drawn}{t:Nat}{os:OsState}
variable{nm q:Str}{C N:Addr}{bs bm:List Value}{hdct:Bool}{sn:List Str}{sub:List Value}{ab:Bool}{col:Option Bool}{dd:Option Addr}{k0 k1 k2 k3 k5:Option Value}
noncomputable abbrev FX:List Value:=[.type "Exception",.type "BaseException",.type "object"]
theorem xX(T:OwnTail h FX bm){mN:Str->Option Value}{rest:List Value}{fI:Addr}{oI:Obj}{Q:Fin->Shared->Prop}
 (hC:h.get? C=some (excClassObj nm q C N bs bm hdct sn sub ab col dd k0 k1 k2 k3 k5 "Exception.__new__")) (hn:h.Ns N mN) (hi:mN "__init__"=some (.ref fI))
 (Oy:h.get? fI=some oI) (K7:oI.cls=.type "function") (w7:rest.length<=sizeLine)
 (hq:wpAny (model prog w) A (call (.ref fI) (.ref (h.objs.size+1)::rest)) (λr s'=>r=.none/\Q (.done (.ret (.ref (h.objs.size+1)))) s') E
  ⟨(h.push {cls:= .type "tuple",data:= .seq rest.toArray}).push {cls:= .ref C,data:= .fields #[.ref h.objs.size,.none,.none,.none,.bool false,.none]},g,d,t,os⟩):
 wpAny (model prog w) A (Builtin.«type.__call__» ⟨.ref C::rest,[]⟩) Q E ⟨h,g,d,t,os⟩:=by
 have F:=F.excBase_Exception
 repeat (first|with_reducible refine wpAny_loadPart_at hC ?_|with_reducible refine wpAny_madeBy_exc hC ?_|wp_step)
 refine codeAny_call_builtin_code (Code.quiet_builtin _ F.quiet) (wpAny_check_new_subT F T hC ?_)
 refine codeAny_exc_new_subT F T hC ?_ w7
 show wpAny _ _ _ _ _ _
 have keep:∀b o,h.get? b=some o->((h.push {cls:= .type "tuple",data:= .seq rest.toArray}).push {cls:= .ref C,data:= .fields #[.ref h.objs.size,.none,.none,.none,.bool false,.none]}).get? b=some o:=
  λb o e=>aH _ (aH _ e)
 have K8:=keep _ _ hC
 have MK:=keep _ _ Oy
 have FD:=hn.keeps keep
 have Uo:=T.keeps keep
 have MJ:((h.push {cls:= .type "tuple",data:= .seq rest.toArray}).push
  {cls:= .ref C,data:= .fields #[.ref h.objs.size,.none,.none,.none,.bool false,.none]}).get? (h.objs.size+1)=some
  {cls:= .ref C,data:= .fields #[.ref h.objs.size,.none,.none,.none,.bool false,.none]}:=by heap_get
 have hcC:(Value.ref C::bm).contains (.ref C)=true:=by simp
 unfold isInstance
 repeat (first|with_reducible refine wpAny_loadPart_at MJ ?_|(with_reducible refine wpAny_isSubtype_exc K8 ?_;rw[hcC])|wp_step)
 show wpAny _ _ (typeLookup (.ref C) _) _ _ _
 refine wpAny_typeLookup_tail K8 FD Uo F.mroIs F.init.lookup ?_
 rw[hi]
 refine wpAny_holding (wpAny_bind ?_)
 unfold bindSpecial
 refine wpAny_bind (wpAny_typeOf (T:="function") ⟨_,MK,K7⟩ ?_)
 rw[if_pos (by decide)]
 refine wpAny_pure (wpAny_bind (wpAny_mono hq (λr s' hr=> ?_) λ_ _ x=>x))
 obtain⟨rfl,hQ⟩:=hr
 wp_walk
 exact hQ
theorem FY(T:OwnTail h FX bm){mN:Str->Option Value}{rest:List Value}{fI:Addr}{oI:Obj}{Q:Value->Shared->Prop}
 (hC:h.get? C=some (excClassObj nm q C N bs bm hdct sn sub ab col dd k0 k1 k2 k3 k5 "Exception.__new__")) (hn:h.Ns N mN) (hi:mN "__init__"=some (.ref fI))
 (Oy:h.get? fI=some oI) (K7:oI.cls=.type "function") (w7:rest.length<=sizeLine)
 (hq:wpAny (model prog w) (A.under (.builtin "type.__call__" ⟨.ref C::rest,[]⟩)) (call (.ref fI) (.ref (h.objs.size+1)::rest)) (λr s'=>r=.none/\Q (.ref (h.objs.size+1)) s') E
  ⟨(h.push {cls:= .type "tuple",data:= .seq rest.toArray}).push {cls:= .ref C,data:= .fields #[.ref h.objs.size,.none,.none,.none,.bool false,.none]},g,d,t,os⟩):
 wpAny (model prog w) A (call (.ref C) rest) Q E ⟨h,g,d,t,os⟩:=by
 have f1:=tc_lookup
 have f2:=tc_bind (.ref C)
 have hT:(⟨h,g,d,t,os⟩:Shared).TypeIs (.ref C) "type":=⟨_,hC,rfl⟩
 refine wpAny_call (codeAny_of_tree ?_)
 show wpAny _ _ (callAny (.ref C) _) _ _ _
 repeat (any_goals(first|assumption|with_reducible refine wpAny_loadPart_at hC ?_|wp_step))
 refine⟨rfl,?_⟩
 refine codeAny_call_builtin_at (Code.quiet_builtin _ (by decide+kernel)) entry_typeCall (wpAny_check_type_call_sub hC (xX T hC hn hi Oy K7 w7 hq))
end
section
variable{M:Model}{A:Around}{E:Value->Shared->Prop}{env:Env}
variable{nm q:Str}{C N:Addr}{bs bm:List Value}{hdct:Bool}{sn:List Str}{sub:List Value}{ab:Bool}{col:Option Bool}{dd:Option Addr}{k0 k1 k2 k3 k5:Option Value}{newId:String}
theorem Ei{s:Shared}{x:Sem Value}{Q:Flow->Shared->Prop}(rq:bm.contains (.type "BaseException")=true)(hh:A.handled=none)
 (h:wpAny M A x (λv bG=>∃e t Oz,v=.ref e/\bG.heap.get? C=some (excClassObj nm q C N bs bm hdct sn sub ab col dd k0 k1 k2 k3 k5 newId)/\
  bG.heap.get? e=some {cls:= .ref C,dict:=Oz,data:= .fields #[.ref t,.none,.none,.none,.bool false,.none]}/\E (.ref e) bG) E s):
 wpAny M A (raiseStmt env (some x) none) Q E s:=by
 have hcB:(Value.ref C::bm).contains (.type "BaseException")=true:=by rw[List.contains_cons,rq,Bool.or_true]
 unfold raiseStmt
 refine wpAny_bind (wpAny_mono h (λv bG fU=> ?_) λ_ _ x=>x)
 obtain⟨e,t,Oz,rfl,hC,he,hE⟩:=fU
 obtain⟨hp,g,d,tk,os⟩:=bG
 repeat (first|with_reducible refine wpAny_loadPart_at he ?_|with_reducible refine wpAny_loadPart_at hC ?_|(with_reducible refine wpAny_isSubtype_exc hC ?_;rw[hcB])|wp_step)
 exact wpAny_raiseNew_none hh hE
end
inductive xY(C:Ctx)(Fi:Fn):Prop
 |mk {nm q:Str} {N:Addr} {bs bm:List Value} {hdct:Bool} {sn:List Str} {sub:List Value} {ab:Bool} {col:Option Bool} {dd:Option Addr} {k0 k1 k2 k3 k5:Option Value} {mN:Str->Option Value} {oI:Obj} (hC:C.B.get? C.lf=some (excClassObj nm q C.lf N bs bm hdct sn sub ab col dd k0 k1 k2 k3 k5 "Exception.__new__")) (hn:C.B.Ns N mN) (hi:mN "__init__"=some (.ref Fi.f))
  (hT:OwnTail C.B FX bm) (hf:C.B.get? Fi.f=some oI) (hc:oI.cls=.type "function") (hb:bm.contains (.type "BaseException")=true)
section
variable{C:Ctx}{fr:Fm}{ρ:b4}{σ:St}{N:b4->St->Prop}{R:PV->St->Prop}{J:Bool->b4->St->Prop}{X:b4->Prop}{Y Z:Zf}{s:Shared}{K:Frag}
theorem FZ(G:dh C)(F:aG C fr){Fi:Fn}(H:FnAt C Fi)(hE:xY C Fi){nm:Str}{np sT pos:Pos}{es:List Expr}{lv:Nat}(hk:fr.env.kindOf nm=some .globalImplicit)(hm:C.mg nm=some (.ref C.lf))(hl:lv+1<fr.lvl)(Pu:Fi.np=2)
 (hs:∀x t v σ',σ' x=some (.exc C.lf t true)->Spec C Fi lv [.loc x,v] σ' (λr τ=>r=.none/\τ x=some (.exc C.lf t false)) False)
 (h:WL C fr sT es ρ σ (λas _=>(∃v,as=[v])/\X ρ) (X ρ))
 (ML:∀env,(backTo sT (starEach es env)).any (·.1)=false:=by with_unfolding_all(intro _;rfl)) (j7:es=[]\/∃x l,backTo sT (starEach es fr.env)=(false,x)::l:=by with_unfolding_all(first|exact .inl rfl|exact .inr ⟨_,_,rfl⟩)) (hd:(nm==("__debug__":Str))=false:=by decide):
 WS C fr (.Raise (some (.Call (.Name nm np) es [] sT)) none pos) ρ σ N R J X:=λY Z s ok=>by
 obtain@⟨n,q,NN,bs,bm,hdct,sn,sub,ab,col,dd,k0,k1,k2,k3,k5,mN,oI,hC,hn,hi,hT,Oy,K7,rq⟩:=hE
 rw[arm_exec_Raise]
 refine wpAny_bind (wpAny_standAt (Ei (C:=C.lf) (nm:=n) (q:=q) (N:=NN) (bs:=bs) (bm:=bm) (hdct:=hdct) (sn:=sn) (sub:=sub) (ab:=ab) (col:=col) (dd:=dd) (k0:=k0) (k1:=k1) (k2:=k2) (k3:=k3) (k5:=k5) (newId:="Exception.__new__") rq F.handled ?_))
 refine wpAny_bind (wpAny_mono (Q:=λv bG=>∃e t Oz,v=.ref e/\bG.heap.get? C.lf=some (excClassObj n q C.lf NN bs bm hdct sn sub ab col dd k0 k1 k2 k3 k5 "Exception.__new__")/\
  bG.heap.get? e=some {cls:= .ref C.lf,dict:=Oz,data:= .fields #[.ref t,.none,.none,.none,.bool false,.none]}/\kc C fr Y X (.ref e) bG) ?_ (λv iL i5=>wpAny_bind (wpAny_standAt (wpAny_pure i5))) λ_ _ x=>x)
 refine wpAny_Call_NameR (Name_function_global F.kind hk (loadGlobal_global (G.hU.keeps ok.base) hm ?_) hd)
 unfold callWith
 refine wpAny_bind (wpAny_holding (wpAny_mono (pH h (.ref C.lf) j7 Y Z s ok) (λa cW ⟨vs,ea,as,bX,fq,cT,b3,ia,⟨v,has⟩,hx⟩=>wpAny_bind (wpAny_standAt ?_)) λ_ _ x=>x.H6))
 subst ea;subst has
 obtain⟨u,rfl,ru⟩:=ki ia
 rw[ML]
 have K9:=b3.base _ _ hC
 obtain⟨hp,g,d,tk,os⟩:=cW
 refine wpAny_bind (wpAny_keeperOf_exc K9 ?_)
 have Pw:=hT.keeps b3.base
 have Px:=hn.keeps b3.base
 refine wpAny_bind (FY Pw K9 Px hi (b3.base _ _ Oy) K7 (by show 1<=sizeLine;decide) ?_)
 have ht:hp.get? hp.objs.size=none:=bv (aj _)
 have IF:=b3.push (t':=tk) {cls:= .type "tuple",data:= .seq #[u]}
 have oh:(hp.push {cls:= .type "tuple",data:= .seq #[u]}).get? (hp.objs.size+1)=none:=bv (by rw[lF];exact aj _)
 have oke:=IF.alloc (t':=tk) (c:= .exc C.lf hp.objs.size true) (o:={cls:= .ref C.lf,data:= .fields #[.ref hp.objs.size,.none,.none,.none,.bool false,.none]}) oh
  (λb o e=>aH {cls:= .ref C.lf,data:= .fields #[.ref hp.objs.size,.none,.none,.none,.bool false,.none]} e) (by
   have:=aQ (hp.push {cls:= .type "tuple",data:= .seq #[u]}) (o:={cls:= .ref C.lf,data:= .fields #[.ref hp.objs.size,.none,.none,.none,.bool false,.none]}) rfl
   rw[lF]at this;exact this) ⟨none,λ_=>rfl,rfl⟩
 have zb:=F.room.le (n:=fr.lvl) (m:=lv+2) (by exact hl)
 refine wpAny_mono (w8 G F H (args:=[.loc (hp.objs.size+1),v]) (lv:=lv) (by rw[Pu];rfl) (hs _ hp.objs.size v _ (St.bE _ _ _)) (oA fr.A C.lf [u]).1 ((oA fr.A C.lf [u]).2.1.trans F.handled) (CR zb C.lf [u])
  Y fq _ [.ref (hp.objs.size+1),u] oke (.cons (im _) (.one ru))) (λr iL ⟨pv,dJ,my,je,du,xR,MM,La⟩=> ?_) λe iL x=>x.1.elim
 subst MM
 refine⟨tf xR,wpAny_bind (wpAny_holding (wpAny_point (wpAny_pure ?_)))⟩
 obtain⟨oe,YF,Oz,_,rfl⟩:=du.ju _ _ La
 refine⟨_,_,_,rfl,du.base _ _ hC,YF,ρ,hx,_,⟨rfl,du.base,(du.own _ _ La).1,du.frames F,.inl ⟨_,_,_,YF,rfl,rfl,rfl,rfl⟩,λb o e _=>⟨o.slots,du.keep b o e⟩,?_,du.rest⟩⟩
 obtain⟨m,hm,hl⟩:=du.loc
 exact⟨m,_,hm,hl⟩
end
section
variable{prog:Program}{w:World}{A:Around}{s:Shared}{K:Frag}{x c:Addr}{R:Result->Shared->Prop}
theorem I7{ox:Obj}{od:Option Obj}{name:Str}{tk:Tok}{v:Value}{r:Option Value}{cd:ClassData}(X:K.In s.heap)(I:InstAt s.heap x ox c od)(hc:clsIn K c=some cd)(ne:cd.mro.isEmpty=false)(ho:cd.mro.contains (.type "object")=true)
 (Py:∀self,refuseLoop self "__setattr__" cd.mro=pure ()) (ht:takerIn K c name=some r)
 (h:∀b,wpAny (model prog w) A.in1 (match r with|some a=>Builtin.ObjectAttr.setByDescriptor a (.ref x) v|none=>Builtin.ObjectAttr.storeInOwnDict (.ref x) (.ref c) (.str name tk) name v b)
  (λpR s'=>match pR with|.done f=>R (.ok f) s'|.again c'=>c'.quiet=true/\codeAny (model prog w) A c' R s') (λe s'=>R (.error e) s') s):
 codeAny (model prog w) A (.call (.builtin "object.__setattr__") ⟨[.ref x,.str name tk,v],[]⟩) R s:=by
 have SF:=PySem.F.store_object
 have sub:Looks (model prog w) s.heap (isInstance (.ref x) (.type "object")) true:=I.type.andThen (looks_mroIn X (by unfold mroIn;rw[hc,bg,if_neg (by rw[ne];decide),ho]))
 refine codeAny_call_builtin SF.slot.plain SF.entry (@check_slot (model prog w) _ _ s "object.__setattr__" "object" "__setattr__" (.ref x) [.str name tk,v] [] _ SF.kind SF.split sub (SF.args (.ref x) (.str name tk) v) ?_)
 obtain⟨Pz,ha,hr⟩:=ah.mp ht
 have hm:Looks (model prog w) s.heap (mroOf (.ref c)) cd.mro:=(looks_clsIn X hc).andThen .now
 have L3:Looks (model prog w) s.heap (Builtin.ObjectAttr.storeTaker? Pz) r:=by
  cases Pz with
  |none=>cases hr;exact .now
  |some a=>
   obtain⟨b,hb,rfl⟩:=ai.mp hr
   refine(looks_takesIn X hb).andThen ?_
   cases b<;>exact .now
 rw[osa_eq,refuse_eq]
 refine wpAny_bind (wpAny_bind (I.type.here (wpAny_bind (hm.here ?_))))
 rw[Py]
 refine wpAny_pure (wpAny_bind (I.type.here (wpAny_bind ((looks_findIn X ha).here (wpAny_bind (L3.here ?_))))))
 exact h _
end
structure xZ(K:Frag)(c:Addr)(cd:ClassData):Prop where
 cls:clsIn K c=some cd
 has:cd.hasDict=true
 sa:findIn K (.ref c) "__setattr__"=some (some (.builtin "object.__setattr__"))
 ne:cd.mro.isEmpty=false
 obj:cd.mro.contains (.type "object")=true
 pass:∀self,refuseLoop self "__setattr__" cd.mro=pure ()
section
variable{C:Ctx}{fr:Fm}{ρ:b4}{σ:St}{Y Z:Zf}{s:Shared}{K:Frag}{name:Str}
theorem zx{c:Addr}{cd:ClassData}(hX:K.In C.B)(O:xZ K c cd)(ht:takerIn K c name=some none){x t:Addr}{pv:PV}{N:b4->St->Prop}{X:b4->Prop}(hx:σ x=some (.exc c t true))(h:N ρ (σ.upd x (.exc c t false))):
 T6 C fr (λv=>setAttr (.ref x) name v) pv ρ σ N X:=λY Z s v ok rv=>by
 obtain⟨o,ho,Oz,hd,rfl⟩:=ok.ju x _ hx
 obtain rfl:=hd rfl
 have XH:=hX.keeps ok.base
 have I:InstAt s.heap x {cls:= .ref c,dict:=none,data:= .fields #[.ref t,.none,.none,.none,.bool false,.none]} c none:=⟨ho,rfl,rfl,trivial⟩
 refine set_plain XH I O.sa (I7 (hX.keeps ok.base) I O.cls O.ne O.obj O.pass ht λb=> ?_)
 have YG:x≠s.heap.objs.size:=ca (cY ho)
 have hD:s.heap.get? s.heap.objs.size=none:=bv (aj _)
 obtain⟨m1,m2,m3,m4,m5⟩:=ok.none_of hD
 refine wpAny_bind (wpAny_pure (wpAny_bind (wpAny_bind (wpAny_loadPart ho (wpAny_bind ((looks_clsIn (M:=model C.prog C.w) XH O.cls) _ _ _ _ (λ_ _ e=>e) ?_))))))
 rw[O.has]
 have push:(s.heap.push {cls:= .type "dict",data:= .dict #[]}).get? x=some {cls:= .ref c,dict:=none,data:= .fields #[.ref t,.none,.none,.none,.bool false,.none]}:=aH _ ho
 have upd:((s.heap.push {cls:= .type "dict",data:= .dict #[]}).update x λo=>{cls:=o.cls,dict:=some s.heap.objs.size,data:=o.data,slots:=o.slots}).get? s.heap.objs.size=some {cls:= .type "dict",data:= .dict #[]}:=
  (Heap.get?_update_ne _ _ _ _ YG.symm).trans (Heap.get?_push_at rfl rfl)
 have Ms:((s.heap.push {cls:= .type "dict",data:= .dict #[]}).update x λo=>{cls:=o.cls,dict:=some s.heap.objs.size,data:=o.data,slots:=o.slots}).Ns s.heap.objs.size (λ_=>none):=
  ⟨_,#[],_,upd,rfl,λe he=>absurd he (by simp),λ_=>rfl⟩
 show wpAny _ _ ((do
  let d<-alloc {cls:= .type "dict",data:= .dict #[]}
  update x λo=>{o with dict:=some d}
  dictMade (.ref c) x d)>>=_) _ _ _
 refine wpAny_bind (wpAny_bind (wpAny_alloc (wpAny_bind (wpAny_update push ?_))))
 refine wpAny_pure (a:=some s.heap.objs.size) (wpAny_pure (a:=some s.heap.objs.size) ?_)
 show wpAny _ _ (Builtin.ObjectAttr.storeInDict s.heap.objs.size (.str name s.toks) name v) _ _ _
 unfold Builtin.ObjectAttr.storeInDict Builtin.ObjectAttr.newKeyGuard
 refine wpAny_bind (wpAny_pure (wpAny_bind (wpAny_nsSet1 (Heap.Ns1.of_empty Ms) λh' Ix hs=> ?_)))
 obtain⟨oD,esD,epD,hoD,hdD,hcD⟩:=Ix.count (Within.cons name v Within.nil)
 refine wpAny_bind (wpAny_lookBehind hoD (by rw[hdD];exact pastItsLine_dict (aa hcD (by rw[ay,pD,sizeLine_eq];exact iG _ _))) ?_)
 have Ui:h'.get? x=some {cls:= .ref c,dict:=some s.heap.objs.size,data:= .fields #[.ref t,.none,.none,.none,.bool false,.none]}:=
  (hs.2 x YG).trans (ej _ push rfl)
 have keep:∀b o,b≠x->s.heap.get? b=some o->h'.get? b=some o:=λb o hb e=>
  (hs.2 b (ca (cY e))).trans ((Heap.get?_update_ne _ _ _ _ hb).trans (aH _ e))
 obtain⟨n1,n2,n3,n4⟩:=ok.own x _ hx
 obtain⟨m,hm,hl⟩:=ok.loc
 refine wpAny_pure ⟨ρ,_,Z,fR.refl _,⟨λb o e=>keep b o (λq=>by subst q;rw[n1]at e;cases e) (ok.base b o e),λb o e=>keep b o (λq=>by subst q;rw[n2]at e;cases e) (ok.keep b o e),
  λb o e=>keep b o (λq=>by subst q;rw[n3]at e;cases e) (ok.vals b o e),ok.yl,ok.zl,ok.bl,⟨m,hm.at' λo e=>keep _ o (Ne.symm n4) e,hl⟩,λb d e=> ?_,λb d e=> ?_,ok.bq,ok.rest,ok.zn,ok.fz⟩,h⟩
 ·by_cases q:b=x
  ·subst q;rw[St.bE]at e;cases e;exact⟨_,Ui,_,(λq=>nomatch q),rfl⟩
  ·rw[St.bA _ _ q]at e
   obtain⟨o,pQ,r⟩:=ok.ju b d e
   exact⟨o,keep b o q pQ,r⟩
 ·by_cases q:b=x
  ·subst q;exact⟨n1,n2,n3,n4⟩
  ·rw[St.bA _ _ q]at e;exact ok.own b d e
theorem rC{c:Addr}{cd:ClassData}{o e:Expr}{p p':Pos}{N:b4->St->Prop}{R:PV->St->Prop}{J:Bool->b4->St->Prop}{X:b4->Prop}(hX:K.In C.B)(O:xZ K c cd)(ht:takerIn K c name=some none)
 (h:WE C fr e ρ σ (λv aO=>WE C fr o ρ aO (λov bX=>∃x t,ov=.loc x/\bX x=some (.exc c t true)/\N ρ (bX.upd x (.exc c t false))) (X ρ)) (X ρ))
 (hs:∀env,swapsWith e (some (.Attribute o name p')) p.line env=pure false:=by with_unfolding_all(intro _;rfl)):WS C fr (.Assign [.Attribute o name p'] e p) ρ σ N R J X:=λY Z s ok=>
 plainObj_wpAny_Assign_Attribute (yX (h Y Z s ok) λv bG a aO cf b8 bC cE oo=>wpAny_mono (oo Y cf bG bC) (λov cW ⟨b,bX,fq,cT,b3,ia,x,t,e,hx,jd⟩=>by
  subst e
  obtain rfl:=bu ia
  exact(wU (zx hX O ht hx (N:=N) (X:=X) jd Y fq cW v b3 (cE.mono cT)) λ_ iL y4 dJ my je du qv=>⟨y4,dJ,my,(b8.trans cT).trans je,du,qv⟩)) λ_ _ x=>x.H6) (hs _)
end
section
variable{C:Ctx}{fr:Fm}{ρ:b4}{σ:St}{Q:PV->St->Prop}{X:Prop}{Y Z:Zf}{s:Shared}{K:Frag}{c:Addr}
theorem MN(G:dh C)(F:aG C fr){Fi:Fn}(H:FnAt C Fi)(hX:K.In C.B)(hmk:makesIn K c=true)(hi:findIn K (.ref c) "__init__"=some (some (.ref Fi.f)))(hf:typeIn K (.ref Fi.f)=some (.type "function"))
 (Up:∃n q NN bs bm hdct sn sub ab col dd k0 k1 k2 k3 k5 Tv,C.B.get? c=some (excClassObj n q c NN bs bm hdct sn sub ab col dd k0 k1 k2 k3 k5 Tv)) {nm:Str} {np pos:Pos} {lv:Nat}
 (hk:fr.env.kindOf nm=some .globalImplicit) (hm:C.mg nm=some (.ref c)) (hl:lv+1<fr.lvl) (Pu:Fi.np=1)
 (h:∀x d,σ x=none->σ d=none->x≠d->Spec C Fi lv [.loc x] ((σ.upd d (.cg [])).upd x (.inst c d)) (λr τ=>r=.none/\Q (.loc x) τ) X)
 (hd:(nm==("__debug__":Str))=false:=by decide):WE C fr (.Call (.Name nm np) [] [] pos) ρ σ Q X:=λY Z s ok=>by
 refine wpAny_Call_NameR (Name_function_global F.kind hk (loadGlobal_global (G.hU.keeps ok.base) hm ?_) hd)
 show wpAny _ _ (callWith pos (.ref c) [] [] []) _ _ _
 unfold callWith
 refine wpAny_bind (wpAny_holding (PyProof.Rows.evalArgs_nil3 (wpAny_bind (wpAny_standAt ?_))))
 obtain⟨n,q,NN,bs,bm,hdct,sn,sub,ab,col,dd,k0,k1,k2,k3,k5,Tv,hC⟩:=Up
 have hC':=ok.base _ _ hC
 have XH:=hX.keeps ok.base
 obtain⟨hp,g,d,tk,os⟩:=s
 refine wpAny_bind (wpAny_keeperOf_exc hC' ?_)
 refine wpAny_bind (wpAny_call (make_core (makes_of XH hmk) (looks_findIn XH hi) (λself=>bind_fn XH self hf) (.inl rfl) ?_))
 have Uq:hp.get? hp.objs.size=none:=bv (aj _)
 obtain⟨_,_,_,_,m5⟩:=ok.none_of Uq
 have YH:=ok.alloc (t':=tk) (c:= .cg []) (o:=emptyDict) Uq (λb o e=>aH emptyDict e) (aQ _ rfl) ⟨[],rfl,#[],0,⟨rfl,rfl,rfl⟩,rfl,λe he=>by simp at he,.nil,dP⟩
 have Ur:(hp.push emptyDict).get? (hp.objs.size+1)=none:=bv (by rw[lF];exact aj _)
 obtain⟨_,_,_,_,YI⟩:=YH.none_of Ur
 have iI:hp.objs.size+1≠hp.objs.size:=by exactλe=>(sH [.eq (.a (.v 0) (.n 1)) (.v 0)] (.ff) [1] (Eq.refl true) e).elim
 rw[St.bA _ _ iI]at YI
 have oki:=YH.alloc (t':=tk) (c:= .inst c hp.objs.size) (o:=instObj c hp.objs.size) Ur (λb o e=>aH (instObj c hp.objs.size) e) (by
  have:=aQ (hp.push emptyDict) (o:=instObj c hp.objs.size) rfl
  rw[lF]at this;exact this) rfl
 have zb:=F.room.le (n:=fr.lvl) (m:=lv+2) (by exact hl)
 refine codeAny_mono (uL G F H (args:=[.loc (hp.objs.size+1)]) (lv:=lv) (by rw[Pu];rfl) (h _ _ YI m5 iI) (oA fr.A c []).1 ((oA fr.A c []).2.1.trans F.handled) (CR zb c [])
  Y Z _ [.ref (hp.objs.size+1)] oki (.one (im _))) λr iL hr=> ?_
 rcases r with e|(v|_|_|_)<;>first|exact hr.elim|skip
 ·exact hr
 ·obtain⟨pv,dJ,my,je,du,xR,MM,qv⟩:=hr
  subst MM
  refine⟨tf xR,wpAny_bind (wpAny_holding (wpAny_point (wpAny_pure ⟨_,dJ,my,je,du,im _,qv⟩)))⟩
end
inductive Flat:Nat->PV->Prop
 |int {n:Nat} (i:Int):Flat (n+1) (.int i)
 |str {n:Nat} (x:Str):Flat (n+1) (.str x)
 |tup {n:Nat} {xs:List PV} (h:∀x∈xs,Flat n x):Flat (n+1) (.tup xs)
 |tabI {n:Nat} (kvs:List (Int×Int)):Flat (n+1) (.tabI kvs)
 |eg {n:Nat} (kvs:List (List Int×Int)):Flat (n+1) (.eg kvs)
section
variable{prog:Program}{w:World}{K:Type}[DecidableEq K]{knd:HeapKind prog w K}{A:Around}{E:Value->Shared->Prop}{s:Shared}
theorem Bp{nm:String}{a b:Addr}{xs ys:List (K×Addr×Value)}{Q:Bool->Shared->Prop}(hu:knd.room A)(ha:(a==sysModules)=false)(hb:(b==sysModules)=false)
 (da:s.heap.DictOfH knd a xs) (db:s.heap.DictOfH knd b ys) (hl:xs.length=ys.length) (MO:∀k p,(k,p)∈xs->∃(j:Nat) (q:Addr×Value),ys[j]?=some (k,q)/\EqAt A s p.2 q.2 true) (h:Q true s):
 wpAny (model prog w) A (Builtin.Dict.samePairs nm a b) Q E s:=by
 obtain⟨oa,es,ep,Tw,_,F1,YJ,hia,hna⟩:=id da
 obtain⟨ob,I8,YK,Pr,_,Us,Ut,hib,Uu⟩:=id db
 have YL:=size_of_entries YJ
 have PB:=size_of_entries Ut
 unfold Builtin.Dict.samePairs Builtin.Dict.showsAll
 rw[if_neg (show¬(a==sysModules)=true by rw[ha];exact eI),if_neg (show¬(b==sysModules)=true by rw[hb];exact eI)]
 refine wpAny_bind (wpAny_pure (wpAny_bind (wpAny_pure ?_)))
 refine wpAny_bind (wpAny_dictEntries Tw F1 ?_)
 dsimp only
 refine wpAny_bind (wpAny_dictEntries Pr Us ?_)
 rw[if_neg (by rw[YL,PB,hl];simp)]
 refine wpAny_bind (wpAny_dictEpoch Tw F1 ?_)
 refine wpAny_bind ?_
 rw[Std.Legacy.Range.forIn_eq_forIn_range']
 refine wpAny_forIn_list _ (λrest q s'=>q=(none,())/\s'=s/\∀y∈rest,y<es.size) _ ?_ ?_ _ _ ⟨rfl,rfl,λy hy=>(List.mem_range'.mp hy).elim λi h=>by simpa[Std.Legacy.Range.size,h.2]using h.1⟩
 ·rintro x rest q s' ⟨rfl,rfl,hi⟩
  have fg:x<es.size:=hi x aJ
  refine wpAny_bind (wpAny_dictEntries Tw F1 ?_)
  have hx:x<xs.length:=by exact YL▸fg
  obtain⟨⟨k,p⟩,hp⟩:∃q,xs[x]?=some q:=⟨xs[x],by simp[hx]⟩
  have hex:es[x]?=some ⟨knd.hash k,.ref p.1,p.2⟩:=by rw[entry_at YJ,hp];rfl
  rw[hex]
  have I9:(k,p)∈xs:=aT hp
  obtain⟨j,q,hj,heq⟩:=MO k p I9
  have hej:I8[j]?=some ⟨knd.hash k,.ref q.1,q.2⟩:=by rw[entry_at Ut,hj];rfl
  show wpAny _ _ (holding [Value.ref p.1,p.2] _>>=_) _ _ _
  refine wpAny_bind (wpAny_holding (wpAny_bind (wpAny_dictFind_heap hu (hia _ I9) Pr Us Ut hib Uu (λMI=>absurd hj (MI j q)) λj' q' AS=> ?_)))
  obtain rfl:j'=j:=idxH_unique Uu AS hj
  rw[hj]at AS
  cases AS
  refine wpAny_bind (wpAny_dictEntries Pr Us ?_)
  rw[hej]
  refine wpAny_holding (heq prog w _ _ ?_)
  show wpAny _ _ (if(!true)=true then _ else _) _ _ _
  rw[if_neg (by decide)]
  refine wpAny_bind (wpAny_dictEpoch Tw F1 ?_)
  rw[if_neg (by simp)]
  exact wpAny_pure ⟨rfl,rfl,λy hy=>hi y (aM _ hy)⟩
 ·rintro q s' ⟨rfl,rfl,_⟩
  exact wpAny_pure h
theorem Ja{a b:Addr}{xs ys:List (K×Addr×Value)}{Q:Value->Shared->Prop}(hu:knd.room A.in1)(Pp:A.units<cLine)(ha:(a==sysModules)=false)(hb:(b==sysModules)=false)
 (da:s.heap.DictOfH knd a xs) (db:s.heap.DictOfH knd b ys) (hl:xs.length=ys.length) (MO:∀k p,(k,p)∈xs->∃(j:Nat) (q:Addr×Value),ys[j]?=some (k,q)/\EqAt A.in1 s p.2 q.2 true) (h:Q (.bool true) s):
 wpAny (model prog w) A (compareOp .Eq (.ref a) (.ref b)) Q E s:=by
 refine wpAny_richCompare_same_room (op:= .Eq) da.typeIs db.typeIs PySem.F.slot_dict_eq (wpAny_call_entry PySem.F.slot_dict_eq da.typeIs PySem.F.entry_dict_eq ?_ (PySem.F.args_dict_eq_2 _ _)) Pp
 show wpAny _ _ (Builtin.Dict.dictSlotArgs "__eq__" ⟨[.ref a,.ref b],[]⟩>>=_) _ _ s
 refine wpAny_bind ?_
 unfold Builtin.Dict.dictSlotArgs
 refine wpAny_bind (wpAny_notOrdered_dict da.typeIs ?_)
 show wpAny _ _ (pure (Value.ref a,Value.ref b)) _ _ s
 refine wpAny_pure ?_
 refine wpAny_bind (wpAny_isInstance (T:="dict") db.typeIs PySem.F.sub_dict_dict ?_)
 rw[if_neg (show¬(!true)=true by decide)]
 refine wpAny_bind (wpAny_pure (wpAny_bind (wpAny_pure ?_)))
 refine wpAny_bind (Bp hu ha hb da db hl MO ?_)
 exact wpAny_pure ⟨_,rfl,(λx=>nomatch x),h⟩
end
section
variable{Z:Zf}{s:Shared}
theorem Bq{kvs:List (List Int×Int)}:∀{xs ys:List (List Int×Addr×Value)},i6 Z kvs xs->i6 Z kvs ys->∀k p,(k,p)∈xs->∃(j:Nat) (q:Addr×Value) (v:Int) (t u:Tok),ys[j]?=some (k,q)/\p.2=.int v t/\q.2=.int v u:=by
 induction kvs with
 |nil=>exactλ{xs ys} r _ k p h=>nomatch(show(k,p)∈[]from(show xs=[]from r)▸h)
 |cons e kvs ih=>
  intro xs ys r r' k p h
  obtain⟨a,u,Ii,rfl,_,r⟩:=r
  obtain⟨a',u',PC,rfl,_,r'⟩:=r'
  rcases am.mp h with h|h
  ·cases h;exact⟨0,_,_,u,u',rfl,rfl,rfl⟩
  ·exact(ih r r' k p h).elim λj h=>⟨j+1,h⟩
theorem Uv(A:Around)(i:Int)(t u:Tok):EqAt A s (.int i t) (.int i u) true:=beq_self_eq_true i▸EqAt.int_int i t i u
theorem PD{kvs:List (Int×Int)}:∀{ws us:List (Int×Value)} {A:Around},eo Ox kvs ws->(∀k v,(k,v)∈kvs->∃u,valueAt us k=some u/\Ox v u)->KeqHits A s us ws true:=by
 induction kvs with
 |nil=>exactλ{ws us A} r _=>(show ws=[]from r)▸.nil
 |cons e kvs ih=>
  intro ws us A r h
  obtain⟨u,qW,rfl,⟨t,rfl⟩,r⟩:=r
  obtain⟨u',h1,t',rfl⟩:=h e.1 e.2 (.head _)
  exact KeqHits.hit h1 (Uv A _ t t') (ih r λk v hm=>h k v (.tail _ hm))
theorem rD{K V:Type}[DecidableEq K]{kvs:List (K×V)}{k:K}{v:V}:(kvs.map (·.1)).Nodup->(k,v)∈kvs->bT kvs k=some v:=by
 induction kvs with
 |nil=>exact nofun
 |cons e r ih=>
  intro hn h
  rw[aP,dy]at hn
  rcases am.mp h with h|h
  ·exact h▸congrArg (Option.map λp:K×V=>p.2) (List.find?_cons_of_pos (p:=λp:K×V=>decide (p.1=k)) (decide_eq_true rfl))
  ·exact(congrArg (Option.map λp:K×V=>p.2) (List.find?_cons_of_neg (p:=λp:K×V=>decide (p.1=k)) λq=>hn.1 ((of_decide_eq_true q:e.1=k)▸bn.mpr ⟨(k,v),h,rfl⟩))).trans (ih hn.2 h)
theorem Lb{A:Around}{xs:List PV}{vs us:List Value}(r:cJ Z xs vs)(r':cJ Z xs us)(ih:∀x∈xs,∀v u,gj Z x v->gj Z x u->EqAt A s v u true)(j:Nat)(hj:j<vs.toArray.size)(AS:j<us.toArray.size):EqAt A s vs.toArray[j] us.toArray[j] true:=by
 have hx:j<xs.length:=r.length▸hj
 obtain⟨w1,h1,q1⟩:=r.get (aA hx)
 obtain⟨w2,h2,q2⟩:=r'.get (aA hx)
 have e1:vs.toArray[j]=w1:=ao ((aA hj).symm.trans h1)
 have e2:us.toArray[j]=w2:=ao ((aA AS).symm.trans h2)
 rw[e1,e2];exact ih _ (cV hx) _ _ q1 q2
theorem Jb{C:Ctx}(G:dh C)(hz:K0 Z s.heap)(Tx:∀b o,Z b=some o->C.B.get? b=none){n:Nat}{pv:PV}(h:Flat n pv):∀(A:Around) (v u:Value),A.units+n+1<cLine->gj Z pv v->gj Z pv u->EqAt A s v u true:=by
 have Uw:∀{a n c:Nat},a+(n+1)+1<c->a<c:=λh=>ak (aa (ax _ _) (bF _)) h
 have ref:∀{A:Around} {a a':Addr},(a≠a'->EqAt A s (.ref a) (.ref a') true)->EqAt A s (.ref a) (.ref a') true:=λ{A a a'} h=>Decidable.byCases (λe:a=a'=>e▸EqAt.same _) h
 induction h with
 |int i=>exactλA v u _ r r'=>(aK r).elim λt e=>(aK r').elim λt' e'=>e▸e'▸Uv A i t t'
 |str x=>exactλA v u _ r r'=>(bh r).elim λt e=>(bh r').elim λt' e'=>e▸e'▸beq_self_eq_true x▸EqAt.str_str x t x t'
 |@tup n xs h ih=>
  intro A v u hA r r'
  obtain⟨a,vs,rfl,zt,rl⟩:=fh r
  obtain⟨a',E0,rfl,zt',E4⟩:=fh r'
  refine ref λe=>EqAt.of_refs e ?_
  have q:=RcAt.tuples (A:=A) (s:=s) (e:=λ_=>true) (zt.sD hz) (zt'.sD hz) (Uw hA) (Lb rl E4 λx hx v u=>ih x hx A.in1 v u (ak (aR (congrArg (·+1) ((bP A.units 1 n).trans (congrArg (A.units+·) (bH 1 n))))) hA))
  have e2:((List.range (min vs.toArray.size E0.toArray.size)).all (λ_=>true)&&vs.toArray.size==E0.toArray.size)=true:=au.mpr ⟨aB.mpr λ_ _=>rfl,beq_iff_eq.mpr (rl.length.trans E4.length.symm)⟩
  exact e2▸q
 |@tabI n kvs=>
  intro A v u hA r r'
  obtain⟨a,o,rfl,z,t⟩:=iz r
  obtain⟨a',o',rfl,z',t'⟩:=iz r'
  refine ref λe=>EqAt.of_refs e λprog w E Q hq=> ?_
  obtain⟨ws,h1,k1⟩:=ug (C:={C with prog:=prog,w:=w}) t
  obtain⟨us,h2,k2⟩:=ug (C:={C with prog:=prog,w:=w}) t'
  have hn:(kvs.map (·.1)).Nodup:=t.casesOn λ_ _ _ _ hn _ _=>hn
  refine keq_eq (r:=true) (mC G (Tx _ _ z)) (mC G (Tx _ _ z')) (k1.dictOf (hz _ _ z)) (k2.dictOf (hz _ _ z')) (Uw hA) (λ_=>PD h1 λk v hm=> ?_) ?_
  ·have l:=rD hn hm
   exact(h2.look k).elim (λe=>(aW v (l.symm.trans e.1)).elim) λe=>e.elim λv' e=>e.elim λu' e=>⟨u',e.2.1,ao (l.symm.trans e.1)▸e.2.2⟩
  ·rw[show(ws.length==us.length&&true)=true from au.mpr ⟨beq_iff_eq.mpr (h1.length.trans h2.length.symm),rfl⟩];exact hq
 |@eg n kvs=>
  intro A v u hA r r'
  obtain⟨a,o,rfl,z,t⟩:=iA r
  obtain⟨a',o',rfl,z',t'⟩:=iA r'
  refine ref λe=>EqAt.of_refs e λprog w E Q hq=> ?_
  obtain⟨xs,h1,k1⟩:=uh (C:={C with prog:=prog,w:=w}) t hz (hz _ _ z)
  obtain⟨ys,h2,k2⟩:=uh (C:={C with prog:=prog,w:=w}) t' hz (hz _ _ z')
  have e1:=congrArg List.length (h1.keys.trans h2.keys.symm)
  rw[ae,ae]at e1
  refine Ja (knd:=tupleKind (intKind prog w)) (show A.units+1<cLine from ak (dQ (a6 (iG 1 n) _)) hA) (Uw hA) (mC G (Tx _ _ z)) (mC G (Tx _ _ z')) k1 k2 e1 (λk p hm=> ?_) hq
  obtain⟨j,q,v,t1,t2,hj,hp,K5⟩:=Bq h1 h2 k p hm
  exact⟨j,q,hj,hp▸K5▸Uv _ v t1 t2⟩
end
section
variable{C:Ctx}{fr:Fm}{ρ:b4}{σ:St}{Q:PV->St->Prop}{X:Prop}
theorem MP(G:dh C)(F:aG C fr){l m:Addr}{xs:List PV}(hl:σ l=some (.list xs))(hm:σ m=some (.list xs))(hp:∀x∈xs,Flat 20 x)(h:Q (.bool true) σ):
 W2 C fr (compareOp .Eq) (.loc l) (.loc m) ρ σ Q X:=λY Z s va vb ok ra rb=>by
 obtain rfl:=bu ra;obtain rfl:=bu rb
 obtain⟨o,ho,vs,n,rfl,rl⟩:=ok.ju l _ hl
 obtain⟨o,pQ,E0,n',rfl,E4⟩:=ok.ju m _ hm
 have hu:fr.A.units+100<cLine:=av (show fr.A.units+100<9100 by have:=F.room;unfold mw at this;exact n8 [.lt (.a (.v 0) (.m 16 (.v 1))) (.n 9000)] (.lt (.a (.v 0) (.n 100)) (.n 9100)) [1] (Eq.refl true) this.2) (by decide)
 exact eq_listAt (e:=λ_=>true) ⟨_,ho,rfl,n,rfl⟩ ⟨_,pQ,rfl,n',rfl⟩ (rl.length.trans E4.length.symm) (ak (ax _ _) hu) (Lb rl E4 λx hx v u=>Jb G ok.vals (λb o e=>(ok.zn b o e).2) (hp x hx) fr.A.in1 v u (ak (a6 (by decide:1+20+1<=100) fr.A.units) hu))
  (bM ok (by rw[show((List.range vs.toArray.size).all λ_=>true)=true from aB.mpr λ_ _=>rfl];exact cA _) h)
end
theorem Ej:typeLookup (.type "list_reverseiterator") "__len__"=pure none:=by rw[typeLookup_type,builtinLookup_eq_fast];kernel_rfl
theorem F2:typeLookup (.type "list_reverseiterator") "__length_hint__"=pure (some (.builtin "list_reverseiterator.__length_hint__")):=by rw[typeLookup_type,builtinLookup_eq_fast];kernel_rfl
section
variable{prog:Program}{w:World}{A:Around}{E:Value->Shared->Prop}{s:Shared}
theorem uR{I:Addr}{Q:Bool->Shared->Prop}(hT:s.TypeIs (.ref I) "list_reverseiterator")(h:Q false s):wpAny (model prog w) A (Builtin.List.listLengthHint (.ref I)) Q E s:=by
 unfold Builtin.List.listLengthHint
 refine wpAny_bind (wpAny_specialOf hT Ej ?_)
 show wpAny _ A (specialOf (Value.ref I) (Str.ofString "__length_hint__")>>=_) _ _ _
 refine wpAny_bind (wpAny_specialOf hT F2 ?_)
 (generalize Ux:("list_reverseiterator.__length_hint__":String)=YM;(fail_if_success (clear Ux YM));wp_delta;rw[show splitId YM=some ("list_reverseiterator","__length_hint__")from by subst Ux;decide+kernel];subst Ux)
 refine wpAny_bind (wpAny_isInstance (b:=true) hT (by rw[isSubtype_type];kernel_rfl) ?_)
 exact wpAny_pure h
theorem zy{l:Addr}{gc:Array Value}{I:Addr}(hh:A.handled=none)(iI:l≠I){Q:List Value->Shared->Prop}(hit:s.heap.IsRevIter I l ((gc.size:Int)-1))(hl:s.heap.IsList l gc)
 (hQ:∀s' (acc:Array Value),Moved [I] (λa b=>b=a) s s'->acc.toList=gc.toList.reverse->Q acc.toList s') (hn:gc.size<=sizeLine):wpAny (model prog w) A (collect (.ref I)) Q E s:=by
 have W:WalksS prog w A.in1 I [I,l] [I] (λa b=>b=a) gc.size _ _:=(Walks.listRev (prog:=prog) (w:=w) (A:=A.in1) hh I l iI gc).toS
 have j7:0<=gc.size/\s.heap.IsRevIter I l ((gc.size:Int)-1-((0:Nat):Int))/\s.heap.IsList l gc:=⟨bW _,by simpa using hit,hl⟩
 have fg:∀b∈[I,l],b<s.heap.objs.size:=λb hb=>by
  simp only[am,aU,or_false]at hb
  rcases hb with rfl|rfl
  ·obtain⟨o,ho,_⟩:=hit;exact cY ho
  ·obtain⟨o,ho,_⟩:=hl;exact cY ho
 have YN:s.heap.objs.size∉[I,l]:=λhm=>Nat.lt_irrefl _ (fg _ hm)
 have hSI:s.heap.objs.size≠I:=λe=>YN (by rw[e];exact aJ)
 unfold collect
 refine wpAny_bind (wpAny_runValue (codeAny_builtin F.entry_proto_collect ?_))
 rw[Around.under_plainId F.plain_proto_collect _]
 show wpAny _ A.in1 (newList []>>=λl=>again (.builtin "list.__iadd__" ⟨[l,.ref I],[]⟩)) _ _ s
 refine wpAny_bind (wpAny_newObj_type ?_)
 refine wpAny_pure ⟨plainId_quiet F.plain_list_iadd _,codeAny_builtin F.entry_list_iadd ?_⟩
 rw[Around.under_plainId F.plain_list_iadd _]
 have sU:=W.frame 0 s (s.heap.push {cls:= .type "list",data:= .seq ([]:List Value).toArray}) s.toks j7 (aj _) λb _ o e=>aH _ e
 have Lc:Shared.TypeIs {s with heap:=s.heap.push {cls:= .type "list",data:= .seq ([]:List Value).toArray}} (.ref I) "list_reverseiterator":=Heap.IsRevIter.typeIs sU.2.1
 have PE:(s.heap.push {cls:= .type "list",data:= .seq ([]:List Value).toArray}).get? s.heap.objs.size=some {cls:= .type "list",data:= .seq ([]:List Value).toArray}:=aQ _ rfl
 have h1:Builtin.List.listSameRef (.ref s.heap.objs.size) (.ref I)=false:=by simp[Builtin.List.listSameRef,hSI]
 show wpAny _ A.in1 (Builtin.List.listExtendWith (.ref s.heap.objs.size) (.ref I) (.ref s.heap.objs.size)) _ _ _
 unfold Builtin.List.listExtendWith
 refine wpAny_bind (wpAny_typeOf Lc ?_)
 rw[if_neg (by rw[h1];decide)]
 refine wpAny_bind (W.self 0 _ _ _ sU ?_)
 refine wpAny_bind (wpAny_holding ?_)
 refine uR Lc ?_
 rw[if_neg (by decide)]
 refine wpAny_pure ⟨plainId_quiet F.plain_extend_loop _,codeAny_extend_loopS W hn _ YN _ gc.size 0 _ _ _ rfl (bW _) sU PE (ItemsOf.nil _) λs' zA c' hm hS' F3=> ?_⟩
 show wpAny _ A (load s.heap.objs.size>>=_) _ _ s'
 refine wpAny_bind (wpAny_load hS' ?_)
 refine wpAny_pure (hQ s' zA (Moved.drop_new (o:={cls:= .type "list",data:= .seq ([]:List Value).toArray}) (tk:=s.toks) hm (aj _)) ?_)
 apply List.ext_getElem?
 intro i
 obtain⟨hz,hi⟩:=F3
 by_cases fg:i<gc.size
 ·have F4:i<zA.size:=by exact hz▸fg
  have e1:=hi i _ (jI F4)
  rw[List.getElem?_reverse (by simpa using fg)]
  simp only[mu,Array.length_toList]
  rw[jI F4,<-e1]
 ·rw[List.getElem?_eq_none (by simp;exact qV [.eq (.v 0) (.v 1),.no (.lt (.v 2) (.v 1))] (.le (.v 0) (.v 2)) [1,1] (Eq.refl true) hz fg),List.getElem?_eq_none (by simp;exact cq fg)]
end
section
variable{C:Ctx}{fr:Fm}{ρ:b4}{σ:St}{Q:PV->St->Prop}{X:Prop}{Y Z:Zf}{s:Shared}{a b c:Int}{x y:Str}
theorem Ok.AN(ok:Ok C fr Y Z ρ σ s)(a:Addr):Ok C fr Y Z ρ (σ.del a) s:=
 ⟨ok.base,ok.keep,ok.vals,ok.yl,ok.zl,ok.bl,ok.loc,λb d e=>ok.ju b d (St.mq e).2,λb d e=>ok.own b d (St.mq e).2,ok.bq,ok.rest,ok.zn,ok.fz⟩
theorem zB{l:Addr}{xs:List PV}(hc:σ l=some (.list xs))(h:∀k,σ k=none->Q (.loc k) (σ.upd k (.rev l xs.length))):
 WN C fr (λvs=>call (.type "reversed") vs) [.loc l] ρ σ Q X:=λY Z s vs ok r=>by
 obtain⟨w,rfl,r1⟩:=ki r
 obtain rfl:=bu r1
 obtain⟨o,ho,us,n,rfl,rl⟩:=ok.ju l _ hc
 have hn:s.heap.get? s.heap.objs.size=none:=bv (aj _)
 refine call_reversed_list ⟨_,ho,rfl,n,rfl⟩ ⟨.loc s.heap.objs.size,_,Z,fR.refl _,ok.alloc (t':=s.toks) (c:= .rev l xs.length) hn (λb o e=>aH _ e) (aQ _ rfl) ?_,im _,h _ (ok.none_of hn).2.2.2.2⟩
 show _=_
 simp[revObj,rl.length]
theorem uS{sF:Str}:∀{l:List (Str×Tok)},Builtin.Str.tooLong ((l.map (·.1)).toArray.foldl (·+·.length+sF.length) 0)=false->Gives (joinTail sF (strValues l)) (joinMade sF l)
 |[],h=>gives_joinTail sF [] h
 |[p],h=>gives_joinTail sF [p] h
 |p::q::r,h=>gives_joinTail sF (p::q::r) h
theorem Br(Fk:aG C fr){l k:Addr}{xs:List Str}(iI:l≠k)(hc:σ l=some (.list (xs.map .str)))(hk:σ k=some (.rev l xs.length))(og:JoinOk x xs.reverse=true)(hsz:xs.length<=sizeLine)
 (h:Q (.str (Txt.join x xs.reverse)) (σ.del k)):WN C fr (λvs=>call (.builtin "str.join") vs) [.str x,.loc k] ρ σ Q X:=λY Z s vs ok r=>by
 obtain⟨w,w',rfl,r1,r2⟩:=jJ r;obtain⟨t,rfl⟩:=bh r1;obtain rfl:=bu r2
 obtain⟨o,ho,us,n,rfl,rl⟩:=ok.ju l _ hc
 obtain⟨oi,hoi,rfl⟩:=ok.ju k _ hk
 obtain⟨ps,rfl,hx⟩:=gX rl
 have eC:ps.length=xs.length:=by rw[<-hx,ae]
 have hl:s.heap.IsList l (strValues ps).toArray:=⟨_,ho,rfl,n,rfl⟩
 have YO:(strValues ps).toArray.size=xs.length:=by simp[strValues,eC]
 have hit:s.heap.IsRevIter k l (((strValues ps).toArray.size:Int)-1):=⟨_,hoi,rfl,by rw[YO]⟩
 refine wpAny_call (codeAny_call_builtin F.slot_str_join.plain F.entry_str_join (F.slot_str_join.check _ _ _ _ _ _ _ _ (typeIs_str _ _ _) (F.args_str_join_2 _ _) ?_))
 rw[join_tree_other]
 refine wpAny_bind (wpAny_typeOf hit.typeIs ?_)
 show wpAny _ fr.A.in1 ((pyIter (.ref k)).tryCatch _>>=λit=>collect it>>=λgc=>joinTail x gc) _ _ s
 refine wpAny_bind (wpAny_tryCatch (wpAny_pyIter_revIter hit ?_))
 refine wpAny_bind (zy (A:=fr.A.in1) Fk.handled iI hit hl (λs' acc hm ha=> ?_) (by rw[YO];exact hsz))
 have Uy:(strValues ps).reverse=strValues ps.reverse:=by simp[strValues]
 rw[ha,Uy]
 have YQ:ps.reverse.map (·.1)=xs.reverse:=by rw[List.map_reverse,hx]
 unfold JoinOk at og
 rw[Bool.not_eq_true',<-YQ]at og
 have g:=uS og
 have fS:Ok C fr Y Z ρ (σ.del k) s':=by
  obtain⟨n1,n2,n3,n4⟩:=ok.own k _ hk
  have:=(ok.AN k).but (wr:=[k]) (h':=s'.heap) (t':=s'.toks) (λb o hb e=>hm.heap b o hb e) (λb hb=>by
   rw[aq.mp hb];exact⟨n1,n2,n3,n4,by simp[St.del]⟩)
  have e:s'={s with heap:=s'.heap,toks:=s'.toks}:=by
   have h1:=hm.gens;have h2:=hm.drawn;have h3:=hm.os
   cases s;cases s';simp_all
  rw[e];exact this
 refine g C.prog C.w fr.A (wants (iJ C fr Y Z ρ Q) (gb C fr Y ρ X)) s' (post_join ps.reverse ⟨joinFit_length og,λt' tk=> ?_⟩)
 rw[YQ]
 exact bM (Ok.toks fS) (ft _ _) h
end
noncomputable def lW(M:Model)(A:Around)(t:Sem Value)(x:Str):Prop:=∀(s:Shared) (Q:Value->Shared->Prop) (E:Value->Shared->Prop),(∀u tk,Q (.str x u) {s with toks:=tk})->wpAny M A t Q E s
noncomputable def dq(M:Model)(A:Around):List (Sem Value×Sem Value)->List (Str×Str)->Prop
 |[],[]=>True
 |p::ps,kv::kvs=>lW M A p.1 kv.1/\lW M A p.2 kv.2/\dq M A ps kvs
 |_,_=>False
noncomputable abbrev oE(x:Str)(v:Value):Prop:=∃t,v=.str x t
theorem dq.length{M:Model}{A:Around}:∀{ps:List (Sem Value×Sem Value)} {kvs:List (Str×Str)},dq M A ps kvs->ps.length=kvs.length
 |[],[],_=>rfl
 |_::_,_::_,h=>by rw[ay,ay,h.2.2.length]
 |[],_::_,h=>h.elim
 |_::_,[],h=>h.elim
section
variable{prog:Program}{w:World}{A:Around}{E:Value->Shared->Prop}
theorem oF:∀{rE:List (Sem Value×Sem Value)} {kvs:List (Str×Str)} (g:dq (model prog w) A rE kvs) {s:Shared} {Q:List (Value×Value)->Shared->Prop}
 (h:∀vs ws tk,eo oE kvs ws->Carries (strKind prog w) vs ws->Q vs {s with toks:=tk}),wpAny (model prog w) A (evalPairs rE) Q E s
 |[],[],_,s,Q,h=>evalPairs_nil (h [] [] s.toks rfl trivial)
 |p::ps,kv::kvs,g,s,Q,h=>evalPairs_cons (g.1 _ _ _ λu tk=>g.2.1 _ _ _ λu' tk'=>oF g.2.2 λvs ws MQ r c=>
  h _ ((kv.1,.str kv.2 u')::ws) MQ ⟨_,ws,rfl,⟨u',rfl⟩,r⟩ ⟨by simp[PySem.strKind,Value.isStrOf],rfl,c⟩)
 |[],_::_,g,_,_,_=>g.elim
 |_::_,[],g,_,_,_=>g.elim
theorem tv{d:Addr}:∀{rE:List (Sem Value×Sem Value)} {kvs:List (Str×Str)} (g:dq (model prog w) A rE kvs) (acc:List (Str×Value)) {s:Shared} {Q:PUnit->Shared->Prop}
 (hm:s.heap.DictOf (strKind prog w) d acc) (hn:(acc.map (·.1)++kvs.map (·.1)).Nodup) (hsz:acc.length+kvs.length<=sizeLine)
 (h:∀h' ws tk,eo oE kvs ws->h'.DictOf (strKind prog w) d (acc++ws)->Heap.SameBut d s.heap h'->Q PUnit.unit {s with heap:=h',toks:=tk}),
 wpAny (model prog w) A (forIn rE PUnit.unit λ(x:Sem Value×Sem Value) (_:PUnit)=>(do let kv<-x.1;let vv<-holding [kv] x.2;holding [kv,vv] (dictSet d kv vv);pure (ForInStep.yield PUnit.unit):Sem (ForInStep PUnit))) Q E s
 |[],[],_,acc,s,Q,hm,_,_,h=>by
  rw[List.forIn_nil]
  exact wpAny_pure (by simpa using h s.heap [] s.toks rfl (by simpa using hm) (Heap.SameBut.refl _ _))
 |p::ps,kv::kvs,g,acc,s,Q,hm,hn,hsz,h=>by
  rw[pE]
  rw[ay]at hsz
  refine wpAny_bind (wpAny_bind (g.1 _ _ _ λu tk=>wpAny_bind (wpAny_holding (g.2.1 _ _ _ λu' tk'=>wpAny_bind (wpAny_holding ?_)))))
  refine wpAny_dictSet_pairs (knd:=strKind prog w) (k:=kv.1) (hsz:=by exact aa (ax _ _) hsz) (by simp[PySem.strKind,Value.isStrOf]) hm λfU uT xh=>wpAny_pure ?_
  have Ef:kv.1∉acc.map (·.1):=λhk=>by
   rw[aP,gq]at hn
   exact hn.2.2 _ hk _ (aJ ..) rfl
  have j7:stored acc kv.1 (.str kv.2 u')=acc++[(kv.1,.str kv.2 u')]:=by
   rw[stored,if_neg]
   rw[List.any_eq_true];rintro⟨q,hq,e⟩
   exact Ef (bn.mpr ⟨q,hq,of_decide_eq_true e⟩)
  rw[j7]at uT
  refine tv g.2.2 _ uT (by simpa using hn) (by simp;exact qV [.le (.a (.v 0) (.a (.v 1) (.n 1))) (.v 2)] (.le (.a (.a (.v 0) (.n 1)) (.v 1)) (.v 2)) [1] (Eq.refl true) hsz) λh' ws MQ r OA D9=> ?_
  exact h h' ((kv.1,.str kv.2 u')::ws) MQ ⟨_,ws,rfl,⟨u',rfl⟩,r⟩ (by simpa using OA) (xh.trans D9)
 |[],_::_,g,_,_,_,_,_,_,_=>g.elim
 |_::_,[],g,_,_,_,_,_,_,_=>g.elim
theorem mE{rE:List (Sem Value×Sem Value)}{kvs:List (Str×Str)}(g:dq (model prog w) A rE kvs)(hn:(kvs.map (·.1)).Nodup)(hsz:kvs.length<=17){s:Shared}{Q:Addr->Shared->Prop}
 (h:∀h' ws tk,eo oE kvs ws->h'.DictOf (strKind prog w) s.heap.objs.size ws->Heap.SameBut s.heap.objs.size (s.heap.push {cls:= .type "dict",data:= .dict #[]}) h'->Q s.heap.objs.size {s with heap:=h',toks:=tk}):
 wpAny (model prog w) A (subDict rE) Q E s:=by
 have eC:=g.length
 by_cases hs:rE.length<=15
 ·refine wpAny_subDict (knd:=strKind prog w) hs (oF g λvs ws tk r c=>⟨ws,c,Heap.DictOf.new _,λh' hm PB=> ?_⟩)
  refine h h' ws _ r ?_ PB
  rw[merged_nil_of_nodup _ (by rw[r.keys];exact hn)]at hm
  exact hm
 ·unfold subDict
  refine wpAny_bind (wpAny_alloc ?_)
  refine wpAny_bind (wpAny_holding ?_)
  rw[if_neg hs]
  refine wpAny_bind (wpAny_rule ?_)
  refine wpAny_bind (tv g [] (Heap.DictOf.new _) (by simpa using hn) (by rw[sizeLine_eq];simp;exact aa hsz (by decide)) λh' ws tk r hm PB=> ?_)
  exact wpAny_pure (wpAny_pure (h h' ws tk r (by simpa using hm) PB))
theorem zC{d:Addr}{acc:List (Str×Value)}{k:Str}{key v:Value}{s:Shared}{Q:Unit->Shared->Prop}(MR:(PySem.strKind prog w).is k key=true)(hm:s.heap.DictOf (PySem.strKind prog w) d acc)
 (Ef:k∉acc.map (·.1)) (hsz:acc.length<=sizeLine)
 (hQ:∀h',h'.DictOf (PySem.strKind prog w) d (acc++[(k,v)])->Heap.SameBut d s.heap h'->Q () {s with heap:=h'}):
 wpAny (model prog w) A (dictPut d ((PySem.strKind prog w).hash k) key v) Q E s:=by
 obtain⟨o,es,ep,ho,hc,hd,hk,hp,hn⟩:=hm
 have E2:es.size<=sizeLine:=by
  have e1:=hp.length;have e2:es.toList.length=es.size:=by simp
  exact Ig [.le (.v 0) (.v 1),.eq (.v 2) (.v 0),.eq (.v 2) (.v 3)] (.le (.v 3) (.v 1)) [1,1,.negSucc 0] (Eq.refl true) hsz e1 e2
 unfold dictPut
 refine wpAny_bind (wpAny_dictFind_of MR ho hd hk ?_)
 have Uz:(es.findIdx? λe=>(PySem.strKind prog w).is k e.key)=acc.findIdx? λkv=>decide (kv.1=k):=by
  rw[<-hp.findIdx k];obtain⟨l⟩:=es;simp
 have PF:(es.findIdx? λe=>(PySem.strKind prog w).is k e.key)=none:=by
  rw[Uz,List.findIdx?_eq_none_iff]
  intro x hx
  simp only[decide_eq_false_iff_not]
  exactλe=>Ef (bn.mpr ⟨x,hx,e⟩)
 rw[PF]
 refine wpAny_updateDictKeys (hz:=E2) ho hd (hQ _ ⟨_,_,ep+1,ej _ ho (Obj.isFreed_of_dict (Obj.data_mapDictKeys hd _)),
  hc.mapDictKeys _,Obj.data_mapDictKeys hd _,hk.push MR _,?_,?_⟩ (jS ..))
 ·have:=hp.append MR ((PySem.strKind prog w).hash k) v
  obtain⟨l⟩:=es
  simpa using this
 ·rw[aI,gq]
  refine⟨hn,by simp,?_⟩
  intro a ha b hb
  simp only[aP,gr,aq]at hb
  subst hb
  exactλe=>Ef (e▸ha)
theorem Pairs.at{K:Type}[DecidableEq K]{knd:PySem.KeyKind prog w K}{es:List DictEntry}{kvs:List (K×Value)}(h:Pairs knd es kvs):∀{i:Nat} {kv:K×Value},kvs[i]?=some kv->∃e,es[i]?=some e/\knd.is kv.1 e.key=true/\e.val=kv.2:=by
 induction h with
 |nil=>intro i kv e;simp at e
 |cons h1 h2 _ ih=>
  intro i kv e
  cases i with
  |zero=>simp only[List.getElem?_cons_zero,Option.some.injEq]at e⊢;subst e;exact⟨_,rfl,h1,h2⟩
  |succ j=>simp only[hM]at e⊢;exact ih e
theorem tw{d a:Addr}(iI:a≠d){o:Obj}{es:Array DictEntry}{ep:Nat}{ws:List (Str×Value)}(hd:o.data=.dict es ep)(xi:KeysOf (PySem.strKind prog w) es)(hp:Pairs (PySem.strKind prog w) es.toList ws)
 {f:Nat->PUnit->Sem (ForInStep PUnit)}
 (hf:∀(i:Nat) (e:DictEntry) (s:Shared) (Q:ForInStep PUnit->Shared->Prop),s.heap.get? a=some o->es[i]?=some e->
  wpAny (model prog w) A (dictPut d e.hash e.key e.val) (λ_ s'=>s'.heap.get? a=some o/\Q (.yield PUnit.unit) s') E s->wpAny (model prog w) A (f i PUnit.unit) Q E s):
 ∀(n i:Nat) (acc:List (Str×Value)) {s:Shared} {Q:PUnit->Shared->Prop},i+n=ws.length->s.heap.get? a=some o->s.heap.DictOf (PySem.strKind prog w) d acc->(acc.map (·.1)++(ws.drop i).map (·.1)).Nodup->acc.length+n<=sizeLine->
  (∀h',h'.DictOf (PySem.strKind prog w) d (acc++ws.drop i)->Heap.SameBut d s.heap h'->Q PUnit.unit {s with heap:=h'})->wpAny (model prog w) A (forIn (List.range' i n) PUnit.unit f) Q E s
 |0,i,acc,s,Q,hi,ho,hm,hn,hsz,hQ=>by
  rw[List.range'_zero,List.forIn_nil]
  have e:ws.drop i=[]:=lG (by exact aR hi.symm)
  rw[e]at hQ
  exact wpAny_pure (hQ s.heap (by simpa using hm) (Heap.SameBut.refl _ _))
 |n+1,i,acc,s,Q,hi,ho,hm,hn,hsz,hQ=>by
  rw[List.range'_succ,pE]
  have fg:i<ws.length:=by exact qV [.eq (.a (.v 0) (.a (.v 1) (.n 1))) (.v 2)] (.lt (.v 0) (.v 2)) [1] (Eq.refl true) hi
  have hdr:ws.drop i=ws[i]::ws.drop (i+1):=bR fg
  obtain⟨e,he,hk,hv⟩:=Pairs.at hp (i:=i) (kv:=ws[i]) (aA fg)
  have Tt:es[i]?=some e:=by simpa using he
  rw[hdr]at hn hQ
  have I9:e∈es:=Array.mem_of_getElem? Tt
  obtain⟨k',AR,hh'⟩:=xi e I9
  have ek:k'=ws[i].1:=by
   have:=KeyKind.is_eq_decide hk k'
   rw[AR]at this
   exact of_decide_eq_true this.symm
  subst ek
  refine wpAny_bind (hf i e s _ ho Tt ?_)
  rw[hh']
  refine zC hk hm (λCS=> ?_) (by exact aa (ax _ _) hsz) λfU uT xh=> ?_
  ·rw[aP,gq]at hn
   exact hn.2.2 _ CS _ (aJ ..) rfl
  ·have Ld:fU.get? a=some o:=(xh.2 a iI).trans ho
   refine⟨Ld,tw iI hd xi hp hf n (i+1) (acc++[(ws[i].1,e.val)]) (by exact dx (qV [.eq (.a (.v 0) (.a (.v 1) (.n 1))) (.v 2)] (.le (.a (.a (.v 0) (.n 1)) (.v 1)) (.v 2)) [1] (Eq.refl true) hi) (qV [.eq (.a (.v 0) (.a (.v 1) (.n 1))) (.v 2)] (.le (.v 2) (.a (.a (.v 0) (.n 1)) (.v 1))) [.negSucc 0] (Eq.refl true) hi)) Ld uT (by rw[aI,aC];exact hn) (by simp;exact qV [.le (.a (.v 0) (.a (.v 1) (.n 1))) (.v 2)] (.le (.a (.a (.v 0) (.n 1)) (.v 1)) (.v 2)) [1] (Eq.refl true) hsz) λh' OA D9=> ?_⟩
   refine hQ h' ?_ (xh.trans D9)
   rw[hv,aC]at OA
   exact OA
theorem xj{d a:Addr}{acc ws:List (Str×Value)}{s:Shared}{Q:Unit->Shared->Prop}(iI:a≠d)(hsm:(a==sysModules)=false)(F3:acc≠[])(hm:s.heap.DictOf (PySem.strKind prog w) d acc)(ha:s.heap.DictOf (PySem.strKind prog w) a ws)
 (hn:(acc.map (·.1)++ws.map (·.1)).Nodup) (hsz:acc.length+ws.length<=sizeLine)
 (hQ:∀h',h'.DictOf (PySem.strKind prog w) d (acc++ws)->Heap.SameBut d s.heap h'->Q () {s with heap:=h'}):wpAny (model prog w) A (mergeMapping d (.ref a) false) Q E s:=by
 obtain⟨o,es,ep,ho,hc,hd,hk,hp,Ms⟩:=id ha
 obtain⟨o',I8,YK,pQ,K4,Ph,AR,yR,aaa⟩:=id hm
 have hT:s.TypeIs (.ref a) "dict":=⟨o,ho,hc.1⟩
 unfold mergeMapping
 refine wpAny_bind (wpAny_isInstance (b:=true) hT (by rw[isSubtype_type];kernel_rfl) ?_)
 rw[if_pos rfl]
 refine wpAny_bind (wpAny_specialOf hT F.slot_dict_iter.lookup ?_)
 refine wpAny_bind (wpAny_pure ?_)
 rw[show(some (Value.builtin "dict.__iter__")==some (Value.builtin "dict.__iter__"))=true from by decide+kernel]
 dsimp only
 rw[if_neg (by rw[hsm];decide)]
 refine wpAny_bind (wpAny_dictEntries pQ Ph ?_)
 have UA:I8.isEmpty=false:=by
  have e1:=yR.length
  have e2:I8.toList.length=I8.size:=by simp
  have e3:acc.length≠0:=λe=>F3 (List.length_eq_zero_iff.mp e)
  cases hq:I8.isEmpty with
  |false=>rfl
  |true=>rw[Array.isEmpty_iff_size_eq_zero]at hq;omega
 rw[if_neg (by rw[UA];decide)]
 refine wpAny_bind (wpAny_dictEntries ho hd ?_)
 refine wpAny_bind (wpAny_dictEpoch ho hd ?_)
 rw[List.range_eq_range']
 have E5:es.size=ws.length:=by
  have e1:=hp.length
  have e2:es.toList.length=es.size:=by simp
  exact e1
 refine wpAny_bind (tw iI hd hk hp (λi e bG aab xh PG hx=> ?_) es.size 0 acc (by exact dx (n8 [.eq (.v 0) (.v 1)] (.le (.a (.n 0) (.v 0)) (.v 1)) [1] (Eq.refl true) E5) (n8 [.eq (.v 0) (.v 1)] (.le (.v 1) (.a (.n 0) (.v 0))) [.negSucc 0] (Eq.refl true) E5)) ho hm (by simpa using hn) (by exact E5▸hsz) λh' OA D9=>wpAny_pure (hQ h' (by simpa using OA) D9))
 refine wpAny_bind (wpAny_dictEntries xh hd ?_)
 rw[PG]
 dsimp only
 refine wpAny_bind (wpAny_holding ?_)
 rw[if_neg eI]
 refine wpAny_mono hx (λ_ cW gm=> ?_) λ_ _ e=>e
 refine wpAny_bind (wpAny_dictEpoch gm.1 hd ?_)
 rw[if_neg (by simp)]
 exact wpAny_pure gm.2
end
noncomputable abbrev Run:=List (Sem Value×Sem Value)
noncomputable abbrev PH:=(Option (Sem Value)×Sem Value)->(Option Addr×Run)->Sem (ForInStep (Option Addr×Run))
theorem mF{F:PH}(h1:∀(p:Sem Value×Sem Value) (m:Option Addr) (run:Run),run.length+1<17->F (some p.1,p.2) (m,run)=pure (.yield (m,run++[p]))):
 ∀(gc run:Run) (m:Option Addr) (rest:List (Option (Sem Value)×Sem Value)),run.length+gc.length<17->forIn ((gc.map λp=>(some p.1,p.2))++rest) (m,run) F=forIn rest (m,run++gc) F
 |[],run,m,rest,_=>by simp
 |p::gc,run,m,rest,h=>by
  rw[aP,fE,pE,h1 p m run (by simp at h;exact n8 [.lt (.a (.v 0) (.a (.v 1) (.n 1))) (.n 17)] (.lt (.a (.v 0) (.n 1)) (.n 17)) [1] (Eq.refl true) h),pure_bind]
  have:=mF h1 gc (run++[p]) m rest (by simp at h⊢;exact n8 [.lt (.a (.v 0) (.a (.v 1) (.n 1))) (.n 17)] (.lt (.a (.a (.v 0) (.n 1)) (.v 1)) (.n 17)) [1] (Eq.refl true) h)
  simpa using this
theorem Bs{F:PH}(h1:∀(p:Sem Value×Sem Value) (m:Option Addr) (run:Run),run.length+1<17->F (some p.1,p.2) (m,run)=pure (.yield (m,run++[p])))(gc run:Run)(m:Option Addr)(h:run.length+gc.length<17):
 forIn (gc.map λp=>(some p.1,p.2)) (m,run) F=pure (m,run++gc):=by
 have:=mF h1 gc run m [] h
 rw[bp]at this
 rw[this,List.forIn_nil]
section
variable{prog:Program}{w:World}{A:Around}{E:Value->Shared->Prop}
theorem F5{q1 q2 p3:Run}{x1 x2:Sem Value×Sem Value}(n1:q1.length=16)(n2:q2.length=16)(n3:p3.length<17)(e3:p3≠[]){s:Shared}{Q:Value->Shared->Prop}
 (h:wpAny (model prog w) A (subDict (q1++[x1])) (λd bG=>wpAny (model prog w) A (subDict (q2++[x2])) (λa cW=>wpAny (model prog w) A (mergeMapping d (.ref a) false) (λ_ iL=>wpAny (model prog w) A (subDict p3) (λb A7=>
  wpAny (model prog w) A (mergeMapping d (.ref b) false) (λ_ q6=>Q (.ref d) q6) (λ_ _=>False) A7) (λ_ _=>False) iL) (λ_ _=>False) cW) (λ_ _=>False) bG) (λ_ _=>False) s):
 wpAny (model prog w) A (dictDisplay ((q1++(x1::(q2++(x2::p3)))).map λp=>(some p.1,p.2))) Q E s:=by
 have no:∀{α:Type} {m:Sem α} {P:α->Shared->Prop} {s:Shared},wpAny (model prog w) A m P (λ_ _=>False) s->∀{P':α->Shared->Prop} {E':Value->Shared->Prop},(∀a s,P a s->P' a s)->wpAny (model prog w) A m P' E' s:=
  λh _ _ hp=>wpAny_mono h hp λ_ _ e=>e.elim
 unfold dictDisplay
 dsimp only
 have MS:∀(p:Sem Value×Sem Value) (run:Run),run.length+1<17->((run++[(p.1,p.2)]).length==17)=false:=λp run h=>by simp;exactλe=>absurd (e▸h) (by decide)
 simp only[aI,aP]
 rw[mF (λp m run h=>by simp only[MS p run h,kP,if_false]) q1 [] none _ (by simp;exact n1▸aj _)]
 rw[pE]
 have f1:(([]++q1++[(x1.1,x1.2)]).length==17)=true:=by simp;exact n1
 have f2:(([]++q2++[(x2.1,x2.2)]).length==17)=true:=by simp;exact n2
 simp only[f1,if_true,bind_assoc,pure_bind]
 refine wpAny_bind ?_
 rw[if_neg (by simp)]
 refine wpAny_bind ?_
 rw[dY]
 refine no h λd bG fU=>wpAny_pure ?_
 rw[mF (λp m run h=>by simp only[MS p run h,kP,if_false]) q2 [] (some d) _ (by simp;exact n2▸aj _)]
 rw[pE]
 simp only[f2,if_true,bind_assoc,pure_bind]
 refine wpAny_bind ?_
 rw[if_neg (by simp)]
 refine wpAny_bind (wpAny_holding ?_)
 rw[dY]
 refine no fU λa cW gm=> ?_
 refine wpAny_bind (wpAny_onRaise (wpAny_holding (no gm λ_ iL i5=>wpAny_pure ?_)))
 rw[Bs (λp m run h=>by simp only[MS p run h,kP,if_false]) p3 [] (some d) (by simpa using n3)]
 refine wpAny_bind (wpAny_pure ?_)
 rw[dY,if_neg (by simp[e3])]
 refine wpAny_bind (wpAny_bind (wpAny_holding (no i5 λb A7 PI=> ?_)))
 refine wpAny_bind (wpAny_onRaise (wpAny_holding (no PI λ_ q6 MT=>wpAny_pure ?_)))
 exact wpAny_pure MT
end
noncomputable def sel{α:Type}(d:α)(e:Expr)(nm:Str->Pos->α:=λ_ _=>d)(con:Const->Nat->Pos->α:=λ_ _ _=>d)(bin:Expr->Operator->Expr->Pos->α:=λ_ _ _ _=>d)(un:UnaryOp->Expr->Pos->α:=λ_ _ _=>d)
 (boo:BoolOp->List Expr->Pos->α:=λ_ _ _=>d) (cmp:Expr->List CmpOp->List Expr->Pos->α:=λ_ _ _ _=>d) (ifx:Expr->Expr->Expr->Pos->α:=λ_ _ _ _=>d) (call:Expr->List Expr->List Keyword->Pos->α:=λ_ _ _ _=>d)
 (att:Expr->Str->Pos->α:=λ_ _ _=>d) (sub:Expr->Expr->Pos->α:=λ_ _ _=>d) (tup:List Expr->Nat->Pos->α:=λ_ _ _=>d) (lst:List Expr->Pos->α:=λ_ _=>d) (slc:Option Expr->Option Expr->Option Expr->Pos->α:=λ_ _ _ _=>d) (PJ:List (Option Expr)->List Expr->Pos->α:=λ_ _ _=>d) (lc:Expr->List Comprehension->Scope->Pos->α:=λ_ _ _ _=>d):α:=
 Expr.casesOn (motive_1:=λ_=>α) e boo (λ_ _ _=>d) bin un (λ_ _ _ _=>d) ifx PJ (λ_ _ _=>d) lc (λ_ _ _ _=>d) (λ_ _ _ _ _=>d) (λ_ _ _ _=>d) (λ_ _=>d) (λ_ _=>d) (λ_ _=>d) cmp call (λ_ _ _ _=>d) (λ_ _=>d) con att sub (λ_ _=>d) nm lst tup slc
theorem fH{α:Type}{d:α}{nm con bin un boo cmp ifx call att sub tup lst slc PJ lc}(P:Expr->α->Prop)(e:Expr)(hd:∀e,P e d)(h1:∀x p,P (.Name x p) (nm x p))(h2:∀c k p,P (.Constant c k p) (con c k p))(h3:∀a o b p,P (.BinOp a o b p) (bin a o b p))(h4:∀o a p,P (.UnaryOp o a p) (un o a p))
 (h5:∀o es p,P (.BoolOp o es p) (boo o es p)) (h6:∀a os es p,P (.Compare a os es p) (cmp a os es p)) (h7:∀t a b p,P (.IfExp t a b p) (ifx t a b p)) (h8:∀f es k p,P (.Call f es k p) (call f es k p)) (h9:∀o x p,P (.Attribute o x p) (att o x p))
 (ha:∀a i p,P (.Subscript a i p) (sub a i p)) (hb:∀es k p,P (.Tuple es k p) (tup es k p)) (hc:∀es p,P (.List es p) (lst es p)) (hs:∀a b c p,P (.Slice a b c p) (slc a b c p)) (hi:∀a b p,P (.Dict a b p) (PJ a b p)) (hl:∀a b c p,P (.ListComp a b c p) (lc a b c p)):P e (sel d e nm con bin un boo cmp ifx call att sub tup lst slc PJ lc):=
 Expr.casesOn (motive_1:=λe=>P e (sel d e nm con bin un boo cmp ifx call att sub tup lst slc PJ lc)) e h5 (λ_ _ _=>hd _) h3 h4 (λ_ _ _ _=>hd _) h7 hi (λ_ _ _=>hd _) hl (λ_ _ _ _=>hd _) (λ_ _ _ _ _=>hd _) (λ_ _ _ _=>hd _) (λ_ _=>hd _) (λ_ _=>hd _) (λ_ _=>hd _) h6 h8 (λ_ _ _ _=>hd _) (λ_ _=>hd _) h2 h9 ha (λ_ _=>hd _) h1 hc hb hs
noncomputable section
noncomputable def PK(c:Const):Option Str:=Const.casesOn c none (λ_=>none) (λ_=>none) (λ_=>none) (λ_ _=>none) some (λ_=>none) none
noncomputable def strOf(e:Expr):Option Str:=sel none e (con:=λc _ _=>PK c)
noncomputable def uU(ks:List (Option Expr)):List Expr->Option (List (Str×Str)):=List.rec (λvs=>List.casesOn vs (some []) λ_ _=>none) (λk _ ih vs=>List.casesOn vs none λv vs=>(k.bind strOf).bind λx=>(strOf v).bind λy=>(ih vs).map ((x,y)::·)) ks
end
theorem tx{M:Model}{A:Around}{env:Env}{e:Expr}{x:Str}:strOf e=some x->lW M A (eval e env) x:=
 have n:∀{e:Expr},(none:Option Str)=some x->lW M A (eval e env) x:=λh=>(aW x h.symm).elim
 fH (λe q=>q=some x->lW M A (eval e env) x) e (λ_=>n) (λ_ _=>n) (λc _ _=>Const.casesOn (motive:=λc=>PK c=some x->lW M A (eval (.Constant c _ _) env) x) c n (λ_=>n) (λ_=>n) (λ_=>n) (λ_ _=>n) (λ_ h=>ao h▸λs Q E hq=>Calls.Constant_str (hq _ _)) (λ_=>n) n)
  (λ_ _ _ _=>n) (λ_ _ _=>n) (λ_ _ _=>n) (λ_ _ _ _=>n) (λ_ _ _ _=>n) (λ_ _ _ _=>n) (λ_ _ _=>n) (λ_ _ _=>n) (λ_ _ _=>n) (λ_ _=>n) (λ_ _ _ _=>n) (λ_ _ _=>n) (λ_ _ _ _=>n)
theorem sV{M:Model}{A:Around}{env:Env}{pos:Pos}{ks:List (Option Expr)}:∀{vs:List Expr} {kvs:List (Str×Str)},uU ks vs=some kvs->
 dq M A (pairTrees ks vs env pos) kvs/\ks.all (·.isSome)=true/\ks.length=vs.length:=by
 induction ks with
 |nil=>
  intro vs kvs h
  cases vs with
  |nil=>exact ao h▸⟨trivial,rfl,rfl⟩
  |cons v vs=>cases h
 |cons k ks ih=>
  intro vs kvs h
  cases vs with
  |nil=>cases h
  |cons v vs=>
   exact(ah.mp h).elim λx h=>(ah.mp h.1).elim λk0 h1=>(ah.mp h.2).elim λy h=>(ai.mp h.2).elim λr h'=>h1.1▸h'.2▸have i:=ih h'.1
    ⟨⟨tx h1.2,λs Q E hq=>wpAny_bind (tx h.1 _ _ _ λu tk=>wpAny_bind (wpAny_standAt (wpAny_pure (hq u tk)))),i.1⟩,i.2.1,congrArg (·+1) i.2.2⟩
theorem dq.split{M:Model}{A:Around}{a:Run}:∀{b:Run} {c d:List (Str×Str)},a.length=c.length->dq M A (a++b) (c++d)->dq M A a c/\dq M A b d:=by
 induction a with
 |nil=>
  intro b c d hl h
  cases c with
  |nil=>exact⟨trivial,h⟩
  |cons p c=>cases hl
 |cons p a ih=>
  intro b c d hl h
  cases c with
  |nil=>cases hl
  |cons q c=>exact have i:=ih (Nat.succ.inj hl) h.2.2;⟨⟨h.1,h.2.1,i.1⟩,i.2⟩
theorem PL{α:Type}{l:List α}(h:34<l.length):∃q1 x1 q2 x2 p3,l=q1++(x1::(q2++(x2::p3)))/\q1.length=16/\q2.length=16/\p3.length+34=l.length:=by
 refine⟨l.take 16,l[16],(l.drop 17).take 16,l[33],l.drop 34,?_,lH (aa (by decide) (cG h)),lH (by rw[fF];exact Nat.le_sub_of_add_le (aa (by decide) (cG h))),by rw[fF];exact kO (cG h)⟩
 rw[<-bR (by exact cG h:33<l.length),show 33=17+16 from rfl,<-List.drop_drop,fT,<-bR (by exact av (by decide) h:16<l.length),fT]
theorem xk{prog:Program}{w:World}{K:Type}[DecidableEq K]{knd:PySem.KeyKind prog w K}{ws:List (K×Value)}{h h':Heap}{d:Addr}(x:h.DictOf knd d ws)(e:∀o,h.get? d=some o->h'.get? d=some o):h'.DictOf knd d ws:=
 let⟨o,es,ep,ho,r⟩:=x;⟨o,es,ep,e _ ho,r⟩
theorem uV{h h':Heap}{UB:Obj}(hs:Heap.SameBut h.objs.size (h.push UB) h'):∀b o,h.get? b=some o->h'.get? b=some o:=λb o e=>
 (hs.2 b (ca (cY e))).trans (aH _ e)
theorem uW{h h':Heap}{d:Addr}(hs:Heap.SameBut d h h'):∀b o,b≠d->h.get? b=some o->h'.get? b=some o:=λb o n e=>(hs.2 b n).trans e
section
variable{C:Ctx}{fr:Fm}{ρ:b4}{σ:St}{Q:PV->St->Prop}{X:Prop}
theorem Ek{Z:Zf}{kvs:List (Str×Str)}:∀{ws:List (Str×Value)},eo oE kvs ws->eo (gj Z) (kvs.map λp=>(p.1,PV.str p.2)) ws:=by
 induction kvs with
 |nil=>exactλ{ws} r=>r
 |cons p kvs ih=>exactλ{ws} r=>r.elim λu r=>r.elim λqW r=>r.2.1.elim λt ht=>⟨u,qW,r.1,ht▸ft _ _,ih r.2.2⟩
theorem Jc(G:dh C){Y Z:Zf}{s:Shared}(ok:Ok C fr Y Z ρ σ s){q1 q2 p3:Run}{x1 x2:Sem Value×Sem Value}{u1 u2 t3:List (Str×Str)}(l1:q1.length=16)(l2:q2.length=16)(PM:u1.length=17)(UC:u2.length=17)(UD:t3.length<=16)(ht0:0<t3.length)
 (g1:dq C.M fr.A (q1++[x1]) u1) (g2:dq C.M fr.A (q2++[x2]) u2) (g3:dq C.M fr.A p3 t3) (hn:((u1++(u2++t3)).map (·.1)).Nodup)
 (hQ:∀d,σ d=none->Q (.loc d) (σ.upd d (.cg ((u1++(u2++t3)).map λp=>(p.1,.str p.2))))):
 wpAny C.M fr.A (dictDisplay ((q1++(x1::(q2++(x2::p3)))).map λp=>(some p.1,p.2))) (iJ C fr Y Z ρ Q) (gb C fr Y ρ X) s:=by
 have F6:∀{a b:List (Str×Str)},((a++b).map (·.1)).Nodup->(a.map (·.1)).Nodup/\(b.map (·.1)).Nodup:=λAT=>by
  rw[aI,gq]at AT;exact⟨AT.1,AT.2.1⟩
 obtain⟨n1,n23⟩:=F6 hn
 obtain⟨n2,n3⟩:=F6 n23
 have n12:((u1++u2).map (·.1)).Nodup:=by rw[<-aC]at hn;exact(F6 hn).1
 have lm:∀{x:List (Str×Str)} {ws:List (Str×Value)},eo oE x ws->ws.length=x.length:=λr=>by have:=congrArg List.length r.keys;simpa using this
 refine F5 l1 l2 (by have:=g3.length;exact n8 [.le (.v 0) (.n 16),.eq (.v 1) (.v 0)] (.lt (.v 1) (.n 17)) [1,1] (Eq.refl true) UD this) (by intro e;have:=g3.length;rw[e]at this;simp at this;exact(sH [.lt (.n 0) (.v 0),.eq (.n 0) (.v 0)] (.ff) [1,.negSucc 0] (Eq.refl true) ht0 this).elim) ?_
 refine mE g1 n1 (by exact aR PM) λfU w1 k1 MU D1 S1=> ?_
 refine mE g2 n2 (by exact aR UC) λgm w2 k2 PN D2 S2=> ?_
 have Le:=uV S1
 have F7:=uV S2
 have MV:∀{b:Addr} {o:Obj},s.heap.get? b=some o->b≠s.heap.objs.size:=λe=>ca (cY e)
 obtain⟨od1,UE⟩:∃o,fU.get? s.heap.objs.size=some o:=let⟨o,_,_,ho,_⟩:=D1;⟨o,ho⟩
 have a1:fU.objs.size≠s.heap.objs.size:=Ne.symm (ca (cY UE))
 obtain⟨os,Tz⟩:=G.Iy
 have PP:=Le _ _ (ok.base _ _ Tz)
 have sm1:(fU.objs.size==sysModules)=false:=by
  rw[beq_eq_false_iff_ne];exact Ne.symm (ca (cY PP))
 refine xj (acc:=w1) (ws:=w2) a1 sm1 (λe=>by have:=lm MU;rw[e]at this;simp at this;exact(sH [.eq (.v 0) (.n 17),.eq (.n 0) (.v 0)] (.ff) [.negSucc 0,.negSucc 0] (Eq.refl true) PM this).elim) (xk D1 λo e=>F7 _ _ e) D2 (by rw[MU.keys,PN.keys,<-aI];exact n12)
  (by rw[lm MU,lm PN,sizeLine_eq];exact n8 [.eq (.v 0) (.n 17),.eq (.v 1) (.n 17)] (.le (.a (.v 0) (.v 1)) (.n 16777216)) [1,1] (Eq.refl true) PM UC) λi5 D3 S3=> ?_
 refine mE g3 n3 (by exact aa UD (by decide)) λPI w3 k4 UF D4 S4=> ?_
 have Lf:=uV S4
 obtain⟨od3,UG⟩:∃o,i5.get? s.heap.objs.size=some o:=let⟨o,_,_,ho,_⟩:=D3;⟨o,ho⟩
 have a3:i5.objs.size≠s.heap.objs.size:=Ne.symm (ca (cY UG))
 have UH:i5.get? sysModules=some os:=uW S3 _ _ (MV (ok.base _ _ Tz)) (F7 _ _ PP)
 have sm3:(i5.objs.size==sysModules)=false:=by
  rw[beq_eq_false_iff_ne];exact Ne.symm (ca (cY UH))
 refine xj (acc:=w1++w2) (ws:=w3) a3 sm3 (λe=>by have h1:=lm MU;rw[(List.append_eq_nil_iff.mp e).1]at h1;simp at h1;exact(sH [.eq (.v 0) (.n 17),.eq (.n 0) (.v 0)] (.ff) [.negSucc 0,.negSucc 0] (Eq.refl true) PM h1).elim) (xk D3 λo e=>Lf _ _ e) D4
  (by rw[aI,MU.keys,PN.keys,UF.keys,<-aI,<-aI,aC];exact hn) (by rw[af,lm MU,lm PN,lm UF,sizeLine_eq];exact qV [.eq (.v 0) (.n 17),.eq (.v 1) (.n 17),.le (.v 2) (.n 16)] (.le (.a (.a (.v 0) (.v 1)) (.v 2)) (.n 16777216)) [1,1,1] (Eq.refl true) PM UC UD) λMT D5 S5=> ?_
 have hn:s.heap.get? s.heap.objs.size=none:=bv (aj _)
 have PQ:∀b o,s.heap.get? b=some o->MT.get? b=some o:=λb o e=>uW S5 _ _ (MV e) (Lf _ _ (uW S3 _ _ (MV e) (F7 _ _ (Le _ _ e))))
 obtain⟨o5,ho5,kd5⟩:=KD.of D5
 refine⟨.loc s.heap.objs.size,_,Z,fR.refl _,ok.alloc (c:= .cg _) hn PQ ho5 ⟨_,Ek (kvs:=u1++(u2++t3)) ?_,kd5⟩,im _,hQ _ (ok.none_of hn).2.2.2.2⟩
 rw[aC]
 have YR:∀{a b:List (Str×Str)} {x y:List (Str×Value)},eo oE a x->eo oE b y->eo oE (a++b) (x++y):=by
  intro a
  induction a with
  |nil=>intro b x y r q;cases r;exact q
  |cons p a ih=>intro b x y r q;obtain⟨u,qW,e,pp,r'⟩:=r;subst e;exact⟨u,_,rfl,pp,ih r' q⟩
 exact YR MU (YR PN UF)
theorem Bt(G:dh C){keys:List (Option Expr)}{x0:List Expr}{pos:Pos}{kvs:List (Str×Str)}(hk:uU keys x0=some kvs)(hn:(kvs.map (·.1)).Nodup)(UI:34<kvs.length)(h50:kvs.length<=50)
 (h:∀d,σ d=none->Q (.loc d) (σ.upd d (.cg (kvs.map λp=>(p.1,.str p.2))))):WE C fr (.Dict keys x0 pos) ρ σ Q X:=λY Z s ok=>by
 obtain⟨g,ga,gl⟩:=sV (M:=C.M) (A:=fr.A) (env:=fr.env) (pos:=pos) hk
 rw[arm_eval_Dict,zip_pairTrees keys x0 fr.env pos ga gl]
 refine wpAny_bind (wpAny_standAt ?_)
 have eC:=g.length
 obtain⟨q1,x1,q2,x2,p3,e,l1,l2,l3⟩:=PL (l:=pairTrees keys x0 fr.env pos) (by exact eC▸UI)
 obtain⟨r1,y1,r2,y2,t3,e',m1,m2,m3⟩:=PL (l:=kvs) (by exact UI)
 rw[e]at g⊢
 subst e'
 have c1:∀{α:Type} (q1:List α) x1 r,q1++x1::r=(q1++[x1])++r:=by simp
 rw[c1 q1 x1,c1 q2 x2,c1 r1 y1,c1 r2 y2]at g
 obtain⟨g1,g'⟩:=dq.split (by simp[l1,m1]) g
 obtain⟨g2,g3⟩:=dq.split (by simp[l2,m2]) g'
 rw[c1 r1 y1,c1 r2 y2]at hn
 refine Jc G ok l1 l2 (by simp[m1]) (by simp[m2]) (by exact n8 [.le (.v 0) (.n 50),.eq (.a (.v 1) (.n 34)) (.v 0)] (.le (.v 1) (.n 16)) [1,1] (Eq.refl true) h50 m3) (by exact n8 [.lt (.n 34) (.v 0),.eq (.a (.v 1) (.n 34)) (.v 0)] (.lt (.n 0) (.v 1)) [1,.negSucc 0] (Eq.refl true) UI m3) g1 g2 g3 hn λd hd=> ?_
 have:=h d hd
 rw[c1 r1 y1,c1 r2 y2]at this
 exact this
end
section
variable{C:Ctx}{fr:Fm}{ρ:b4}{σ:St}{Q:PV->St->Prop}{X:Prop}{Y Z:Zf}{s:Shared}
noncomputable def WJ(C:Ctx)(fr:Fm)(es:List Expr)(acc:Str)(ρ:b4)(σ:St)(Q:PV->St->Prop)(X:Prop):Prop:=TV C fr (joinParts acc (evalEach es fr.env)) ρ σ Q X
theorem MW{acc:Str}(hsz:acc.length<=sizeLine)(h:Q (.str acc) σ):WJ C fr [] acc ρ σ Q X:=λY Z s ok=>
 PyProof.Rows.joinParts_nil (bM ok.toks (ft _ _) h) hsz
theorem CT{x:Sem Value}{xs:List (Sem Value)}{acc:Str}(h:TV C fr x ρ σ (λv aO=>∃y,v=.str y/\(acc++y).length<=sizeLine/\TV C fr (joinParts (acc++y) xs) ρ aO Q X) X):TV C fr (joinParts acc (x::xs)) ρ σ Q X:=λY Z s ok=>
 PyProof.Rows.joinParts_cons (wpAny_mono (h Y Z s ok) (λv bG ⟨pv,aO,cf,b8,bC,cE,y,e,hsz,q⟩=>by
  subst e
  obtain⟨t,rfl⟩:=bh cE
  exact⟨hsz,(wP (q Y cf bG bC) λ_ _ x=>x.le b8)⟩) λ_ _ x=>x)
theorem zD{y acc:Str}{k:Nat}{p:Pos}{es:List Expr}(hsz:(acc++y).length<=sizeLine)(h:WJ C fr es (acc++y) ρ σ Q X):WJ C fr (.Constant (.str y) k p::es) acc ρ σ Q X:=
 CT (xQ ⟨y,rfl,hsz,h⟩)
theorem MX{e:Expr}{pos:Pos}(h:WE C fr e ρ σ (λv aO=>(∃y,v=.str y/\y.length<=sizeLine/\Q (.str y) aO)\/(∃a:Int,v=.int a/\a.natAbs.log2<1920/\Q (.str (toString a)) aO)) X):WE C fr (.FormattedValue e (-1) none pos) ρ σ Q X:=λY Z s ok=>
 PyProof.Rows.FormattedValue_plain (wV (h Y Z s ok) λv bG pv aO cf b8 bC cE q=>by
  rcases q with⟨y,rfl,hs,hq⟩|⟨a,rfl,hs,hq⟩
  ·obtain⟨t,rfl⟩:=bh cE
   exact PyProof.Rows.formatField_str (λt' tk=>(bM bC.toks (ft _ _) hq).le b8) hs
  ·obtain⟨t,rfl⟩:=aK cE
   exact PySem.wpAny_formatField_int hs ((bM bC.toks (ft _ _) hq).le b8))
theorem F8{e:Expr}{acc:Str}{pos:Pos}{es:List Expr}(h:WE C fr e ρ σ (λv aO=>(∃y,v=.str y/\(acc++y).length<=sizeLine/\WJ C fr es (acc++y) ρ aO Q X)\/(∃a:Int,v=.int a/\a.natAbs.log2<1920/\(acc++toString a).length<=sizeLine/\WJ C fr es (acc++toString a) ρ aO Q X)) X):
 WJ C fr (.FormattedValue e (-1) none pos::es) acc ρ σ Q X:=
 CT (MX (TV.mono h (λv σ' x=>by
  rcases x with⟨y,e,hs,hq⟩|⟨a,e,h1,hs,hq⟩
  ·exact .inl ⟨y,e,by rw[PySem.strLen_append]at hs;exact aa (iG _ _) hs,y,rfl,hs,hq⟩
  ·exact .inr ⟨a,e,h1,_,rfl,hs,hq⟩) id))
theorem x6{PR PS:Expr}{rest:List Expr}{pos:Pos}(h:WJ C fr (PR::PS::rest) Str.empty ρ σ Q X):WE C fr (.JoinedStr (PR::PS::rest) pos) ρ σ Q X:=λY Z s ok=>
 PyProof.Rows.JoinedStr_many (h Y Z s ok)
end
theorem j8:BM "list" "append" "list.append":=⟨F.plainAttrs_list,F.slot_list_append,F.type_list_append⟩
theorem MY:BM "list" "pop" "list.pop":=⟨F.plainAttrs_list,F.slot_list_pop,F.type_list_pop⟩
theorem CU:BM "str" "join" "str.join":=⟨mX,F.slot_str_join,F.type_str_join⟩
theorem CV:BM "str" "find" "str.find":=⟨mX,F.slot_str_find,F.type_str_find⟩
theorem F9:BM "str" "rfind" "str.rfind":=⟨mX,F.slot_str_rfind,F.type_str_rfind⟩
theorem bm_split:BM "str" "split" "str.split":=⟨mX,F.slot_str_split,F.type_str_split⟩
theorem Ga:BM "str" "zfill" "str.zfill":=⟨mX,F.slot_str_zfill,F.type_str_zfill⟩
theorem Gb:BM "dict" "get" "dict.get":=⟨F.plainAttrs_dict,F.slot_dict_get,F.type_dict_get⟩
theorem Spec.intro{C:Ctx}{F:Fn}{lv:Nat}{args:List PV}{σ:St}{Q:PV->St->Prop}{X:Prop}{b:List Stmt}{ρ:b4}(Lg:F.OY args=ρ)(hb:F.body=b)
 (h:∀L outer A,aG C (F.frame L outer A lv)->hZ C (F.frame L outer A lv) b ρ σ (λ_ σ'=>Q .none σ') Q (λ_ _ _=>False) (λ_=>X)):Spec C F lv args σ Q X:=λL outer A hf=>by
 rw[Lg,hb];exact h L outer A hf
theorem UJ{b:Bool}{P R:Prop}(h1:b=true->P)(h2:b=false->R):(b=true->P)/\(b=false->R):=⟨h1,h2⟩
theorem bx{d k lv:Nat}(h:k<=lv)(hk:d<k:=by decide):d<lv:=av hk h
section
variable{C:Ctx}{fr:Fm}{ρ:b4}{σ:St}{X:Prop}
theorem Gc{l cE ia:Expr}{MZ M0:CmpOp}{p:Pos}{Q:Bool->St->Prop}
 (h:WE C fr l ρ σ (λa aO=>WE C fr cE ρ aO (λb bX=>W2 C fr (compareOp MZ) a b ρ bX (λc dJ=>E1 C fr truthy c ρ dJ (λt na=>(t=true->WE C fr ia ρ na (λd iM=>W2 C fr (compareOp M0) b d ρ iM (λe q8=>E1 C fr truthy e ρ q8 Q X) X) X)/\(t=false->Q false na)) X) X) X) X)
 (hm:lastMarks [MZ,M0] [cE,ia]=false:=by ac_rfl):WT C fr (.Compare l [MZ,M0] [cE,ia] p) ρ σ Q X:=λY Z s ok=>
 isTrue_chain (hm:=hm) (wV (h Y Z s ok) λva bG a aO cf b8 bC PT oo=>test_link (wV (oo Y cf bG bC) λvb cW b bX fq cT b3 rb jd=>
  (wV (jd Y fq cW va vb b3 (PT.mono cT) rb) λvc iL c dJ my je du rc qv=>(wB (qv Y my iL vc du rc) λt A7 na DZ wv kg D0=>by
   cases t
   ·exact⟨na,DZ,((b8.trans cT).trans je).trans wv,kg,D0.2 rfl⟩
   ·exact test_last (wV (D0.1 rfl Y DZ A7 kg) λvd q6 d iM qw q7 iB rd Mn=>(wV (Mn Y qw q6 vb vd iB (rb.mono (je.trans (wv.trans q7))) rd) λve D6 e q8 IE D7 oq re Mo=>
     (wP (Mo Y IE D6 ve oq re) λ_ _ x=>x.le (b8.trans (cT.trans (je.trans (wv.trans (q7.trans D7))))))))))))
end
theorem St.KQ(σ:St)(a:Addr)(c:dn):(σ.upd a c).del a=σ.del a:=by
 funext b;by_cases h:b=a<;>simp[St.upd,St.del,h]
theorem St.H9{σ:St}{a:Addr}(h:σ a=none):σ.del a=σ:=by
 funext b;unfold St.del;split
 ·rename_i e;subst e;exact h.symm
 ·rfl
theorem St.Ia(σ:St)(a:Addr):σ.del a a=none:=by simp[St.del]
theorem St.Ct(σ:St){a b:Addr}(h:b≠a):σ.del a b=σ b:=by simp[St.del,h]
theorem St.j0{σ:St}{a b:Addr}{c:dn}(h:σ a=none)(h':σ b=some c):a≠b:=λe=>by subst e;rw[h]at h';cases h'
section
variable{C:Ctx}{fr:Fm}{ρ:b4}{σ:St}{N:b4->St->Prop}{R:PV->St->Prop}{J:Bool->b4->St->Prop}{X:b4->Prop}
theorem Bu(F:aG C fr){x y:Str}{e:Expr}{k:Nat}{p p' p1 p2:Pos}(i j:Nat)(hi:fr.vn[i]?=some x)(hj:fr.vn[j]?=some y)
 (h:WE C fr e ρ σ (λv aO=>∃a b,v=.tup [a,b]/\N ((ρ.set i (some a)).set j (some b)) aO) (X ρ))
 (hs:∀env,swapsWithSole [.Tuple [.Name x p1,.Name y p2] k p'] e p.line env=pure false:=by with_unfolding_all(intro _;rfl)) (hw:∀env,swappedStores [.Tuple [.Name x p1,.Name y p2] k p'] e env=pure none:=by with_unfolding_all(intro _;rfl)):
 WS C fr (.Assign [.Tuple [.Name x p1,.Name y p2] k p'] e p) ρ σ N R J X:=by
 refine lN F [i,j] (TV.mono h (λv σ' ⟨a,b,e,q⟩=>⟨[a,b],e,rfl,q⟩) id) (λn e he=> ?_) rfl (hs:=hs) (hw:=hw)
 match n,he with
 |0,he=>cases he;exact⟨_,_,_,rfl,rfl,hi⟩
 |1,he=>cases he;exact⟨_,_,_,rfl,rfl,hj⟩
 |n+2,he=>simp at he
theorem Bv(F:aG C fr){x y z:Str}{e:Expr}{k:Nat}{p p' p1 p2 p3:Pos}(i j l:Nat)(hi:fr.vn[i]?=some x)(hj:fr.vn[j]?=some y)(hl:fr.vn[l]?=some z)
 (h:WE C fr e ρ σ (λv aO=>∃a b c,v=.tup [a,b,c]/\N (((ρ.set i (some a)).set j (some b)).set l (some c)) aO) (X ρ))
 (hs:∀env,swapsWithSole [.Tuple [.Name x p1,.Name y p2,.Name z p3] k p'] e p.line env=pure false:=by with_unfolding_all(intro _;rfl)) (hw:∀env,swappedStores [.Tuple [.Name x p1,.Name y p2,.Name z p3] k p'] e env=pure none:=by with_unfolding_all(intro _;rfl)):
 WS C fr (.Assign [.Tuple [.Name x p1,.Name y p2,.Name z p3] k p'] e p) ρ σ N R J X:=by
 refine lN F [i,j,l] (TV.mono h (λv σ' ⟨a,b,c,e,q⟩=>⟨[a,b,c],e,rfl,q⟩) id) (λn e he=> ?_) rfl (hs:=hs) (hw:=hw)
 match n,he with
 |0,he=>cases he;exact⟨_,_,_,rfl,rfl,hi⟩
 |1,he=>cases he;exact⟨_,_,_,rfl,rfl,hj⟩
 |2,he=>cases he;exact⟨_,_,_,rfl,rfl,hl⟩
 |n+3,he=>simp at he
end
noncomputable section
noncomputable def fi(x:Str):List Str->Option Nat
 |[]=>none
 |y::r=>if y=x then some 0 else(fi x r).map (·+1)
theorem f6{x:Str}:∀{l:List Str} {i:Nat},fi x l=some i->l[i]?=some x
 |[],_,h=>nomatch h
 |y::r,i,h=>by
  unfold fi at h
  by_cases e:y=x
  ·rw[if_pos e]at h;cases h;rw[e];rfl
  ·rw[if_neg e]at h
   cases q:fi x r with
   |none=>rw[q]at h;cases h
   |some j=>rw[q]at h;cases h;exact(hM).trans (f6 q)
noncomputable def M1:Const->Option PV
 |.int i=>some (.int i)
 |.str x=>some (.str x)
 |.bool b=>some (.bool b)
 |.none=>some .none
 |_=>none
end
section
open PySem.NumText PySem.W.KIN
noncomputable def dg(n:Nat):List Nat:=(Nat.toDigits 10 n).map Char.toNat
noncomputable def cm(v:Int):Str:=Str.ofString (toString v)
theorem Gd(n:Nat):(cm (n:Int)).cps.toList=dg n:=signs_num n
theorem uX{n:Nat}(h:n<10):dg n=[48+n]:=by
 unfold dg;rw[Nat.toDigits_of_lt_base h]
 have:∀d:Nat,d<10->(Nat.digitChar d).toNat=48+d:=by decide
 simp[this n h]
theorem ui{n:Nat}(h:10<=n):dg n=dg (n/10)++[48+n%10]:=by
 have hm:n%10<10:=kQ n (by decide)
 have t:Nat.toDigits 10 (n/10)++Nat.toDigits 10 (n%10)=Nat.toDigits 10 (10*(n/10)+n%10):=Nat.toDigits_append_toDigits (by decide) (by omega) hm
 rw[Nat.div_add_mod]at t
 have:dg n=dg (n/10)++dg (n%10):=by unfold dg;rw[<-t,aI]
 rw[this,uX hm]
theorem Ge(n:Nat):dg n≠[]:=by
 by_cases h:n<10
 ·rw[uX h];simp
 ·rw[ui (by exact cq h)];simp
theorem M2(n:Nat):digitsVal (dg n)=n:=val_back n
theorem uY(n:Nat):AllDigits (dg n):=by
 intro c hc
 obtain⟨ch,hch,e⟩:=bn.mp hc
 have r:=digit_range (Nat.isDigit_of_mem_toDigits (by decide) (by decide) hch)
 rw[<-e];exact r
noncomputable def mG:Nat->Nat->List Nat
 |0,_=>[]
 |k+1,b=>mG k (b/10)++[48+b%10]
theorem zE:∀(k b:Nat),(mG k b).length=k
 |0,_=>rfl
 |k+1,b=>by simp[mG,zE k]
theorem xl:∀k,mG k 0=List.replicate k 48
 |0=>rfl
 |k+1=>by rw[mG,show 0/10=0 from rfl,xl k,List.replicate_succ']
theorem zF{k a b:Nat}(ha:0<a):b<10^k->dg (10^k*a+b)=dg a++mG k b:=by
 induction k generalizing b with
 |zero=>
  intro hb
  cases Nat.lt_one_iff.mp hb
  simp[mG]
 |succ k ih=>
  intro hb
  have UK:(10:Nat)^(k+1)=10^k*10:=pV 10 k
  have Jd:0<(10:Nat)^k:=Nat.pow_pos (by decide)
  have e1:10^(k+1)*a+b=10*(10^k*a+b/10)+b%10:=by rw[UK,Nat.mul_assoc,Nat.mul_comm 10 a,<-Nat.mul_assoc];omega
  have TA:1<=10^k*a:=Nat.mul_pos Jd ha
  rw[ui (by exact Oq [.eq (.a (.v 0) (.v 1)) (.a (.m 10 (.a (.v 2) (.v 3))) (.v 4)),.le (.n 1) (.v 2)] (.le (.n 10) (.a (.v 0) (.v 1))) [.negSucc 0,10] (Eq.refl true) e1 TA)]
  have e2:(10^(k+1)*a+b)/10=10^k*a+b/10:=by omega
  have e3:(10^(k+1)*a+b)%10=b%10:=by omega
  rw[e2,e3,ih (by omega),mG,aC]
theorem x7:∀(k b:Nat),b<10^(k+1)->mG (k+1) b=List.replicate (k+1-(dg b).length) 48++dg b/\(dg b).length<=k+1
 |0,b,h=>by
  have h':b<10:=by simpa using h
  rw[uX h']
  simp[mG,mY h']
 |k+1,b,h=>by
  by_cases hb:b<10
  ·rw[mG,show b/10=0 by omega,xl,uX hb,mY hb]
   simp
  ·obtain⟨e,l⟩:=x7 k (b/10) (by rw[pV]at h;omega)
   rw[mG,e,ui (n:=b) (by exact cq hb)]
   simp only[af,ay,pD,aC]
   exact⟨by rw[show k+1+1-((dg (b/10)).length+(0+1))=k+1-(dg (b/10)).length by exact dx (Ig [.eq (.a (.v 0) (.a (.v 1) (.a (.n 0) (.n 1)))) (.a (.a (.v 2) (.n 1)) (.n 1)),.eq (.a (.v 3) (.v 1)) (.a (.v 2) (.n 1))] (.le (.v 0) (.v 3)) [1,.negSucc 0] (Eq.refl true) (wu (n8 [.le (.v 0) (.a (.v 1) (.n 1))] (.le (.a (.v 0) (.a (.n 0) (.n 1))) (.a (.a (.v 1) (.n 1)) (.n 1))) [1] (Eq.refl true) l)) (wu (n8 [.le (.v 0) (.a (.v 1) (.n 1))] (.le (.v 0) (.a (.v 1) (.n 1))) [1] (Eq.refl true) l))) (Ig [.eq (.a (.v 0) (.a (.v 1) (.a (.n 0) (.n 1)))) (.a (.a (.v 2) (.n 1)) (.n 1)),.eq (.a (.v 3) (.v 1)) (.a (.v 2) (.n 1))] (.le (.v 3) (.v 0)) [.negSucc 0,1] (Eq.refl true) (wu (n8 [.le (.v 0) (.a (.v 1) (.n 1))] (.le (.a (.v 0) (.a (.n 0) (.n 1))) (.a (.a (.v 1) (.n 1)) (.n 1))) [1] (Eq.refl true) l)) (wu (n8 [.le (.v 0) (.a (.v 1) (.n 1))] (.le (.v 0) (.a (.v 1) (.n 1))) [1] (Eq.refl true) l)))],by exact gt l⟩
theorem uZ{k n:Nat}(h:n<10^(k+1)):(dg n).length<=k+1:=(x7 k n h).2
theorem Je{n:Nat}(h:0<n):∃c cs,dg n=c::cs/\c≠48:=by
 induction n using Nat.strongRecOn with
 |_ n ih=>
  by_cases hn:n<10
  ·exact⟨48+n,[],uX hn,by exactλe=>(sH [.lt (.n 0) (.v 0),.eq (.a (.n 48) (.v 0)) (.n 48)] (.ff) [1,1] (Eq.refl true) h e).elim⟩
  ·obtain⟨c,cs,e,hc⟩:=ih (n/10) (by omega) (by omega)
   exact⟨c,cs++[48+n%10],by rw[ui (by exact cq hn),e];rfl,hc⟩
noncomputable def iP:Nat->List (List Nat):=(measure id).wf.fix λn r=>if h:1000000000000000000<=n then mG 18 (n%1000000000000000000)::r (n/1000000000000000000) (Nat.div_lt_self (av (by decide) h) (by decide))else[dg n]
theorem mH(n:Nat):iP n=if 1000000000000000000<=n then mG 18 (n%1000000000000000000)::iP (n/1000000000000000000)else[dg n]:=WellFounded.fix_eq _ _ _
theorem zG(n:Nat):(iP n).reverse.flatten=dg n:=by
 induction n using Nat.strongRecOn with
 |_ n ih=>
  rw[mH]
  split
  ·rename_i h
   rw[List.reverse_cons,List.flatten_append,ih (n/1000000000000000000) (by omega)]
   have hb:n%1000000000000000000<10^18:=kQ _ (by decide)
   have:=zF (k:=18) (a:=n/1000000000000000000) (b:=n%1000000000000000000) (by omega) hb
   rw[show(10:Nat)^18=1000000000000000000 from rfl,Nat.div_add_mod]at this
   rw[this];simp
  ·simp
theorem Bw{k:Nat}:∀n,n<10^(18*(k+1))->(iP n).length<=k+1:=by
 induction k with
 |zero=>
  intro n h
  have e:(10:Nat)^(18*(0+1))=1000000000000000000:=rfl
  rw[mH,if_neg (Nat.not_le.mpr h)];simp
 |succ k ih=>
  intro n h
  rw[mH]
  split
  ·have:n/1000000000000000000<10^(18*(k+1)):=by
    rw[Nat.div_lt_iff_lt_mul (by decide)]
    have:(10:Nat)^(18*(k+1+1))=10^(18*(k+1))*1000000000000000000:=by
     rw[show 18*(k+1+1)=18*(k+1)+18 by exact rfl,Nat.pow_add]
    omega
   simpa using ih _ this
  ·simp
noncomputable abbrev L(x:Str):List Nat:=x.cps.toList
noncomputable def mk(l:List Nat):Str:=⟨l.toArray⟩
@[simp]theorem dr (l:List Nat):L (mk l)=l:=by simp[L,mk]
@[simp]theorem f7 (x:Str):mk (L x)=x:=by simp[L,mk]
theorem rF{x y:Str}(h:L x=L y):x=y:=by rw[<-f7 x,<-f7 y,h]
theorem u0{a b:List Nat}:mk a=mk b↔a=b:=⟨λh=>by rw[<-dr a,<-dr b,h],λh=>by rw[h]⟩
@[simp]theorem kj (x y:Str):L (x++y)=L x++L y:=by show(Str.append x y).cps.toList=_;simp[Str.append]
theorem El(a b:List Nat):mk a++mk b=mk (a++b):=rF (by simp)
@[simp]theorem fV (x:Str):(L x).length=x.length:=Array.length_toList
@[simp]theorem gy (l:List Nat):(mk l).length=l.length:=by rw[<-fV,dr]
theorem f8(n:Nat):L (cm (n:Int))=dg n:=Gd n
theorem Jf(n:Nat):cm (n:Int)=mk (dg n):=rF (by rw[f8,dr])
theorem zH(n:Nat)(h:0<n):cm (-(n:Int))=mk (45::dg n):=by
 obtain⟨m,rfl⟩:∃m,n=m+1:=⟨n-1,by exact dx (n8 [.eq (.a (.v 0) (.n 1)) (.v 1)] (.le (.v 1) (.a (.v 0) (.n 1))) [.negSucc 0] (Eq.refl true) (wu (sH [.lt (.n 0) (.v 0)] (.le (.n 1) (.v 0)) [1] (Eq.refl true) h))) (n8 [.eq (.a (.v 0) (.n 1)) (.v 1)] (.le (.a (.v 0) (.n 1)) (.v 1)) [1] (Eq.refl true) (wu (sH [.lt (.n 0) (.v 0)] (.le (.n 1) (.v 0)) [1] (Eq.refl true) h)))⟩
 refine rF ?_
 rw[dr]
 show(Str.ofString (toString (Int.negSucc m))).cps.toList=_
 rw[signs_ofString]
 show("-"++Nat.repr (m+1)).toList.map Char.toNat=_
 rw[String.toList_append,aI,Nat.toList_repr]
 rfl
noncomputable def e7(sF:List Nat):List (List Nat)->List Nat
 |[]=>[]
 |[x]=>x
 |x::y::r=>x++sF++e7 sF (y::r)
theorem Bx(sF:Str):∀l:List Str,L (Txt.join sF l)=e7 (L sF) (l.map L):=by
 intro l
 show L (Builtin.Str.glued sF l)=_
 rw[StrLaws.glued_eq_join]
 induction l with
 |nil=>rfl
 |cons x l ih=>cases l with
  |nil=>rfl
  |cons y r=>show L (x++sF++Str.join sF (y::r))=_;rw[kj,kj,ih];rfl
theorem uj(sF:List Nat)(l:List (List Nat)):Txt.join (mk sF) (l.map mk)=mk (e7 sF l):=rF (by
 rw[Bx,dr,dr,bU];congr 1;conv=>rhs;rw[<-List.map_id l]
 apply dU;intro a _;simp)
theorem lX:∀l,e7 [] l=l.flatten
 |[]=>rfl
 |[x]=>by simp[e7]
 |x::y::r=>by simp[e7,lX (y::r)]
theorem joinOk_of{sF:Str}{l:List Str}(h:(l.map (·.length)).sum+l.length*sF.length<=sizeLine):JoinOk sF l=true:=by
 unfold JoinOk Builtin.Str.tooLong
 rw[StrLaws.joinTotal]
 simpa using h
theorem x8{k:Nat}:∀{l:List Nat},(∀x∈l,x<=k)->l.sum<=l.length*k
 |[],_=>by simp
 |x::l,h=>by
  have:=x8 (l:=l) λy hy=>h y (aM _ hy)
  have h0:=h x aJ
  rw[List.sum_cons,ay,jA];exact Ig [.le (.v 0) (.v 1),.le (.v 2) (.v 3)] (.le (.a (.v 2) (.v 0)) (.a (.v 1) (.v 3))) [1,1] (Eq.refl true) this h0
theorem lY{sF:Str}{l:List Str}(k:Nat)(h:∀x∈l,x.length<=k)(hs:l.length*k+l.length*sF.length<=sizeLine):JoinOk sF l=true:=by
 refine joinOk_of ?_
 have:=x8 (k:=k) (l:=l.map (·.length)) (by intro x hx;obtain⟨y,hy,rfl⟩:=bn.mp hx;exact h y hy)
 rw[ae]at this
 exact Ig [.le (.a (.v 0) (.v 1)) (.v 2),.le (.v 3) (.v 0)] (.le (.a (.v 3) (.v 1)) (.v 2)) [1,1] (Eq.refl true) hs this
theorem Em{m:Nat}(h:m<1000000000000000000):Txt.zfill (cm (m:Int)) 18=mk (mG 18 m):=by
 obtain⟨e,l⟩:=x7 17 m h
 have hl:(cm (m:Int)).length=(dg m).length:=by rw[<-fV,f8]
 refine rF ?_
 rw[dr,e]
 unfold Txt.zfill
 split
 ·rename_i q
  rw[hl]at q
  rw[show 17+1-(dg m).length=0 by exact dx (n8 [.Ie (.n 18) (.c (.v 0)),.eq (.a (.v 1) (.v 0)) (.a (.n 17) (.n 1))] (.le (.v 1) (.n 0)) [1,1] (Eq.refl true) q (wu (sH [.le (.v 0) (.a (.n 17) (.n 1))] (.le (.v 0) (.a (.n 17) (.n 1))) [1] (Eq.refl true) l))) (sH [] (.le (.n 0) (.v 0)) [] (Eq.refl true)),f8];simp
 ·rename_i q
  have:zfilled (cm (m:Int)) ((18:Int).toNat-(cm (m:Int)).length)=Builtin.Str.padded (cm (m:Int)) ((18:Int).toNat-(cm (m:Int)).length) 0 48:=by
   unfold zfilled
   split
   ·rename_i q2
    have:(dg m)[0]?=some 43:=by rw[<-f8];simpa using q2
    have:=uY m 43 (aT this);exact absurd this.1 (by decide)
   ·rename_i q2
    have:(dg m)[0]?=some 45:=by rw[<-f8];simpa using q2
    have:=uY m 45 (aT this);exact absurd this.1 (by decide)
   ·rfl
  rw[this,hl]
  show(Builtin.Str.padded (cm (m:Int)) (18-(dg m).length) 0 48).cps.toList=_
  have e2:=f8 m
  simp[Builtin.Str.padded]at e2⊢
  exact e2
section
variable{C:Ctx}{fr:Fm}{ρ:b4}{σ:St}{Q:PV->St->Prop}{X:Prop}
theorem Gf(h:Q (.int 1000000000000000000) σ):W2 C fr (binaryOp .Pow) (.int 10) (.int 18) ρ σ Q X:=ze (by decide) (by decide) h
theorem zJ{n:Nat}(h:Q (.tup [.int ((n/1000000000000000000:Nat):Int),.int ((n%1000000000000000000:Nat):Int)]) σ):WN C fr (λvs=>call (.builtin "divmod") vs) [.int (n:Int),.int 1000000000000000000] ρ σ Q X:=
 Ec (by decide) (by decide) (by rw[Int.natCast_ediv,Int.natCast_emod]at h;exact h)
end
theorem jh{m:Nat}(h:m<1000000000000000000):m.log2<1920:=by
 by_cases h0:m=0
 ·subst h0;decide
 ·have:m.log2<60:=(Nat.log2_lt h0).mpr (by exact aa h (by decide))
  exact aa this (by decide)
noncomputable def eT(v:Int):Prop:=(iP v.natAbs).length<=8
theorem chunk_len:∀n,∀x∈iP n,x.length<=18:=by
 intro n
 induction n using Nat.strongRecOn with
 |_ n ih=>
  rw[mH]
  split
  ·intro x hx
   rcases am.mp hx with rfl|hx
   ·rw[zE];exact aj _
   ·exact ih _ (by omega) x hx
  ·rename_i h
   intro x hx
   rw[aq.mp hx]
   exact uZ (k:=17) (Nat.lt_of_not_le h)
noncomputable def eE(v:Int):List (List Nat):=iP v.natAbs++if v<0 then[[45]]else[]
theorem tz(v:Int):e7 [] (eE v).reverse=L (cm v):=by
 rw[lX,eE,List.reverse_append,List.flatten_append,zG]
 by_cases h:v<0
 ·obtain⟨n,rfl⟩:∃n:Nat,v= -(n:Int):=⟨v.natAbs,by omega⟩
  rw[if_pos h,zH n (by exact sH [.A2 (.g (.c (.v 0))) (.n 0)] (.lt (.n 0) (.v 0)) [1] (Eq.refl true) h),dr,Int.natAbs_neg,Int.natAbs_natCast];rfl
 ·obtain⟨n,rfl⟩:=Int.eq_ofNat_of_zero_le (eH.mp h)
  rw[if_neg h,f8];simp
theorem xm{v:Int}(h:eT v):JoinOk (Str.ofString "") ((eE v).map mk).reverse=true:=by
 refine lY 18 (λx hx=> ?_) ?_
 ·rw[List.mem_reverse]at hx
  obtain⟨y,hy,rfl⟩:=bn.mp hx
  rw[gy]
  unfold eE at hy
  rcases cS.mp hy with hy|hy
  ·exact chunk_len _ y hy
  ·split at hy
   ·rw[aq.mp hy];decide
   ·cases hy
 ·have e:(eE v).length<=101:=by
   unfold eE eT at*
   rw[af]
   have:(if v<0 then[[45]]else([]:List (List Nat))).length<=1:=by split<;>simp
   exact aa (bb h this) (by decide)
  have e2:(Str.ofString "").length=0:=by decide
  have e3:sizeLine=16777216:=by decide
  rw[List.length_reverse,ae,e2,e3];omega
end
noncomputable def iD(σ:St)(ov:PV):Prop:=∃T,(T="list"\/T="dict"\/T="str"\/T="tuple")/\Ow σ ov=some T
section
variable{C:Ctx}{fr:Fm}{ρ:b4}{σ:St}{Q:PV->St->Prop}{X:Prop}
theorem iD.tup{xs:List PV}:iD σ (.tup xs):=⟨_,.inr (.inr (.inr rfl)),rfl⟩
theorem iD.list{l:Addr}{xs:List PV}(h:σ l=some (.list xs)):iD σ (.loc l):=⟨_,.inl rfl,congrArg (Option.bind · dn.ty) h⟩
theorem gz{o i:Expr}{pos:Pos}(h:WE C fr o ρ σ (λov aO=>WE C fr i ρ aO (λiv bX=>iD bX ov/\W2 C fr getItem ov iv ρ bX Q X) X) X)
 (hs:∀ov iv,subscripted i false ov iv=operate [ov,iv] (getItem ov iv):=by with_unfolding_all(intros;rfl)):WE C fr (.Subscript o i pos) ρ σ Q X:=λY Z s ok=>by
 rw[arm_eval_Subscript]
 refine wpAny_bind (wV (h Y Z s ok) λov bG a aO cf b8 bC cE fU=>wpAny_bind (wpAny_holding (wpAny_mono (fU Y cf bG bC) (λiv cW ⟨b,bX,fq,cT,b3,ia,⟨T,hT,hp⟩,gm⟩=>wpAny_bind (wpAny_standAt ?_)) λ_ _ x=>x)))
 obtain⟨Po,_⟩:=Be hp b3 (cE.mono cT)
 obtain⟨id,hl⟩:=oy hT
 refine wpAny_bind ?_
 rw[getitemInPython_of_ne Po.not_modules]
 refine wpAny_bind (wpAny_specialOf Po hl ?_)
 refine wpAny_pure ?_
 rw[hs]
 refine wpAny_bind (wpAny_operating (wP (gm Y fq cW ov iv b3 (cE.mono cT) ia) λr iL x=>wpAny_bind (sP (wpAny_pure (x.le (b8.trans cT))))))
theorem Jg{x:Str}{b:Int}{c:Nat}(h0:0<=b)(h1:b<2^62)(hc:(L x)[b.toNat]?=some c)(h:Q (.str (mk [c])) σ):W2 C fr getItem (.str x) (.int b) ρ σ Q X:=by
 obtain⟨n,rfl⟩:=Int.eq_ofNat_of_zero_le h0
 have K4:(L x)[n]?=some c:=hc
 have fg:n<x.length:=by rw[<-fV];exact(an.mp K4).1
 refine FH (c:=c) ?_ ?_ h
 ·unfold fitsSsize
  have e1:decide ((n:Int)< -(2^63:Int))=false:=decide_eq_false (by exact sH [.Ie (.n 0) (.c (.v 0))] (.no (.A2 (.c (.v 0)) (.g (.n 9223372036854775808)))) [1] (Eq.refl true) h0)
  have e2:decide ((n:Int)>=2^63)=false:=decide_eq_false (by exact sH [.A2 (.c (.v 0)) (.n 4611686018427387904)] (.no (.Ie (.n 9223372036854775808) (.c (.v 0)))) [1] (Eq.refl true) h1)
  rw[e1,e2];rfl
 ·unfold seqIndex?
  have:¬((n:Int)<0):=by exact eH.mpr h0
  simp only[this,if_false]
  have h3:¬((n:Int)<0\/(n:Int)>=x.length):=by omega
  simp[fg]
  simpa using K4
theorem Jh{c:Nat}(h:Q (.int c) σ):WN C fr (λvs=>call (.builtin "ord") vs) [.str (mk [c])] ρ σ Q X:=MB h
theorem Ji{a:Int}(h0:0<=a)(h1:a<=1114111)(h:Q (.str (mk [a.toNat])) σ):WN C fr (λvs=>call (.builtin "chr") vs) [.int a] ρ σ Q X:=MC h0 h1 h
end
theorem Gg{b:Bool}{P R:Prop}(hb:b=true)(h:P):(b=true->P)/\(b=false->R):=And.intro (λ_=>h) (λe=>by rw[hb]at e;exact absurd e (by decide))
theorem Gh{b:Bool}{P R:Prop}(hb:b=false)(h:R):(b=true->P)/\(b=false->R):=And.intro (λe=>by rw[hb]at e;exact absurd e (by decide)) (λ_=>h)
section
variable{C:Ctx}{fr:Fm}{ρ:b4}{σ:St}{N:b4->St->Prop}{R:PV->St->Prop}{X:b4->Prop}
theorem Gi(F:aG C fr){i:Nat}{xs:List PV}{body:List Stmt}(Inv:Nat->b4->St->Prop)(h0:Inv 0 ρ σ)
 (step:∀k pv cj σ',xs[k]?=some pv->Inv k cj σ'->hZ C fr body (cj.set i (some pv)) σ' (Inv (k+1)) R (λb y5 ou=>if b then N y5 ou else Inv (k+1) y5 ou) X)
 (pR:∀cj σ',Inv xs.length cj σ'->N cj σ'):Fz C fr (.tup xs) i body ρ σ N R X:=
 ⟨_,σ,id,FC F xs,Inv,h0,step,pR⟩
end
theorem gY(x y:Str):(x++y).length=x.length+y.length:=by rw[<-fV,kj,af,fV,fV]
theorem pJ:Str.empty.length=0:=rfl
theorem x9{n k:Nat}(h:n<10^(k+1)):(Str.ofString (toString (n:Int))).length<=k+1:=by
 have:=uZ h;rw[<-f8,fV]at this;exact this
theorem gZ:sizeLine=16777216:=by ac_rfl
noncomputable abbrev dX:Program:=PySem.Challenge.pw_no0172_02
noncomputable section
noncomputable def bc(i:Nat):Stmt:=(dX.main.body[i]?).getD (.Pass ⟨0,0,0,0⟩)
noncomputable def M3{α:Type}(d:α)(fd:List Stmt->Scope->α)(cd:List Stmt->α)(st:Stmt):α:=
 Stmt.casesOn (motive_2:=λ_=>α) st (λ_ _ b _ _ _ sc _ _ _=>fd b sc) (λ_ _ _ _ _ _ _ _ _ _=>d) (λ_ _ _ b _ _ _ _ _ _ _=>cd b) (λ_ _=>d) (λ_ _=>d) (λ_ _ _=>d) (λ_ _ _ _ _ _ _=>d) (λ_ _ _ _=>d) (λ_ _ _ _ _=>d) (λ_ _ _ _ _=>d) (λ_ _ _ _ _=>d) (λ_ _ _ _=>d) (λ_ _ _ _=>d) (λ_ _ _=>d) (λ_ _ _=>d) (λ_ _ _=>d)
  (λ_ _ _=>d) (λ_ _ _ _ _=>d) (λ_ _ _ _ _=>d) (λ_ _ _=>d) (λ_ _=>d) (λ_ _ _ _=>d) (λ_ _=>d) (λ_ _=>d) (λ_ _=>d) (λ_=>d) (λ_=>d) (λ_=>d)
noncomputable def dk(i j:Nat):Stmt:=M3 (bc i) (λ_ _=>bc i) (λb=>(b[j]?).getD (.Pass ⟨0,0,0,0⟩)) (bc i)
noncomputable def bS:Stmt->List Stmt:=M3 [] (λb _=>b) λ_=>[]
noncomputable def bD:Stmt->Scope:=M3 {kind:= .function,names:=[],isGenerator:=false,isCoroutine:=false,more:=[]} (λ_ sc=>sc) λ_=>{kind:= .function,names:=[],isGenerator:=false,isCoroutine:=false,more:=[]}
noncomputable def fw:Fn:=⟨49,"LinkFault.__init__",bD (dk 3 0),.ref 48,["self","what"],2,bS (dk 3 0)⟩
noncomputable def lx:Fn:=⟨61,"fixed_atoms",bD (bc 4),.ref 60,[],0,bS (bc 4)⟩
noncomputable def ji:Fn:=⟨68,"fixed_functors",bD (bc 5),.ref 67,[],0,bS (bc 5)⟩
noncomputable def iQ:Fn:=⟨82,"Symbols.__init__",bD (dk 6 0),.ref 81,["self","text","row"],1,bS (dk 6 0)⟩
noncomputable def gA:Fn:=⟨89,"Symbols.atom",bD (dk 6 1),.ref 88,["self","text","found","number"],2,bS (dk 6 1)⟩
noncomputable def gB:Fn:=⟨96,"Symbols.text",bD (dk 6 2),.ref 95,["self","number"],2,bS (dk 6 2)⟩
noncomputable def e8:Fn:=⟨103,"Symbols.functor",bD (dk 6 3),.ref 102,["self","atom","arity","key","found","number"],3,bS (dk 6 3)⟩
noncomputable def iR:Fn:=⟨110,"Symbols.func",bD (dk 6 4),.ref 109,["self","text","arity"],3,bS (dk 6 4)⟩
noncomputable def gC:Fn:=⟨117,"Symbols.name",bD (dk 6 5),.ref 116,["self","functor"],2,bS (dk 6 5)⟩
noncomputable def fW:Fn:=⟨124,"Symbols.arity",bD (dk 6 6),.ref 123,["self","functor"],2,bS (dk 6 6)⟩
noncomputable def kl:Fn:=⟨166,"is_digit",bD (bc 10),.ref 165,["code"],1,bS (bc 10)⟩
noncomputable def jj:Fn:=⟨173,"is_small",bD (bc 11),.ref 172,["code"],1,bS (bc 11)⟩
noncomputable def iS:Fn:=⟨180,"is_capital",bD (bc 12),.ref 179,["code"],1,bS (bc 12)⟩
noncomputable def fJ:Fn:=⟨187,"is_alnum",bD (bc 13),.ref 186,["code"],1,bS (bc 13)⟩
noncomputable def cZ:Fn:=⟨194,"number_text",bD (bc 14),.ref 193,["value","rest","pieces","piece"],1,bS (bc 14)⟩
noncomputable def b5:Fn:=⟨201,"is_alnum_name",bD (bc 15),.ref 200,["text","char"],1,bS (bc 15)⟩
noncomputable def oG:Fn:=⟨208,"shapes",bD (bc 17),.ref 207,[],0,bS (bc 17)⟩
noncomputable def km:Fn:=⟨215,"is_whole",bD (bc 18),.ref 214,["value"],1,bS (bc 18)⟩
noncomputable def ma:Fn:=⟨222,"is_pair",bD (bc 19),.ref 221,["value"],1,bS (bc 19)⟩
noncomputable def d9:Fn:=⟨229,"is_register",bD (bc 20),.ref 228,["value","names"],2,bS (bc 20)⟩
noncomputable def ed:Fn:=⟨236,"is_constant",bD (bc 21),.ref 235,["value"],1,bS (bc 21)⟩
noncomputable def iT:Fn:=⟨243,"is_functor",bD (bc 22),.ref 242,["value"],1,bS (bc 22)⟩
noncomputable def jv:Fn:=⟨250,"is_target",bD (bc 23),.ref 249,["value","linked"],2,bS (bc 23)⟩
noncomputable def ko:Fn:=⟨257,"is_key",bD (bc 24),.ref 256,["value","kind"],2,bS (bc 24)⟩
noncomputable def cx:Fn:=⟨264,"is_table",bD (bc 25),.ref 263,["value","kind","linked","key","pair"],3,bS (bc 25)⟩
noncomputable def e9:Fn:=⟨271,"is_operand",bD (bc 26),.ref 270,["value","kind","linked"],3,bS (bc 26)⟩
noncomputable def dG:Fn:=⟨278,"check_row",bD (bc 27),.ref 277,["table","ins","linked","name","kinds","place"],3,bS (bc 27)⟩
noncomputable def c0:Fn:=⟨285,"code_digits",bD (bc 28),.ref 284,["code","figures","text"],1,bS (bc 28)⟩
noncomputable def bY:Fn:=⟨292,"quoted_name",bD (bc 29),.ref 291,["text","parts","sign"],1,bS (bc 29)⟩
noncomputable def dH:Fn:=⟨299,"read_code",bD (bc 30),.ref 298,["digits","figures","value","sign","figure"],1,bS (bc 30)⟩
noncomputable def aF:Fn:=⟨306,"unquoted_name",bD (bc 31),.ref 305,["word","inner","parts","place","end","text"],1,bS (bc 31)⟩
noncomputable def eZ:Fn:=⟨313,"constant_text",bD (bc 32),.ref 312,["symbols","cell"],2,bS (bc 32)⟩
noncomputable def gD:Fn:=⟨320,"functor_text",bD (bc 33),.ref 319,["symbols","functor"],2,bS (bc 33)⟩
noncomputable def bL:Fn:=⟨327,"table_words",bD (bc 34),.ref 326,["symbols","table","kind","words","key","text"],3,bS (bc 34)⟩
noncomputable def aY:Fn:=⟨334,"instruction_words",bD (bc 35),.ref 333,["symbols","ins","kinds","words","place","kind","value","word"],3,bS (bc 35)⟩
noncomputable def dz:Fn:=⟨342,"listing",bD (bc 36),.ref 341,["symbols","instrs","base","table","rows","place","ins"],3,bS (bc 36)⟩
noncomputable def ef:Fn:=⟨349,"split_row",bD (bc 37),.ref 348,["row","words","word"],1,bS (bc 37)⟩
noncomputable def bK:Fn:=⟨356,"read_count",bD (bc 38),.ref 355,["word","sign","value","place","piece"],1,bS (bc 38)⟩
noncomputable def cn:Fn:=⟨363,"read_constant",bD (bc 39),.ref 362,["symbols","word","value"],2,bS (bc 39)⟩
noncomputable def fx:Fn:=⟨370,"read_functor",bD (bc 40),.ref 369,["symbols","word","place","atom"],2,bS (bc 40)⟩
noncomputable def b6:Fn:=⟨377,"read_register",bD (bc 41),.ref 376,["word"],1,bS (bc 41)⟩
noncomputable def aD:Fn:=⟨384,"read_table",bD (bc 42),.ref 383,["symbols","words","place","kind","table","word","cut","key"],4,bS (bc 42)⟩
noncomputable def fy:Fn:=⟨391,"read_operand",bD (bc 43),.ref 390,["symbols","word","kind"],3,bS (bc 43)⟩
noncomputable def az:Fn:=⟨398,"read_instruction",bD (bc 44),.ref 397,["symbols","words","table","parts","place","kind","pair","ins"],3,bS (bc 44)⟩
noncomputable def bj:Fn:=⟨405,"read_listing",bD (bc 45),.ref 404,["symbols","rows","table","instrs","base","place","words","address"],2,bS (bc 45)⟩
noncomputable def cy:Fn:=⟨412,"_law_pool",bD (bc 47),.ref 411,["script","figures","mix","cell","whole","rest","step"],1,bS (bc 47)⟩
noncomputable def jk:Fn:=⟨419,"_law_pick",bD (bc 48),.ref 418,["pool","bound","figure"],2,bS (bc 48)⟩
noncomputable def bZ:Fn:=⟨424,"_law_words",bD (bc 49),.ref 423,["kind","constants","functors","names"],1,bS (bc 49)⟩
noncomputable def aV:Fn:=⟨431,"_law_operand",bD (bc 50),.ref 430,["pool","kind","good","bad","wrong","row","entries","first","stride","step","words","way"],2,bS (bc 50)⟩
end
structure PO(C:Ctx)(K:Frag)(bN bO:ClassData):Prop where
 G:dh C
 mc:FnAt C fw
 pZ:FnAt C lx
 p7:C.mg "fixed_atoms"=some (.ref lx.f)
 me:FnAt C ji
 mf:C.mg "fixed_functors"=some (.ref ji.f)
 oH:FnAt C iQ
 gF:FnAt C gA
 oJ:FnAt C gB
 gd:FnAt C e8
 oK:FnAt C iR
 oM:FnAt C gC
 nc:FnAt C fW
 u3:FnAt C kl
 u4:C.mg "is_digit"=some (.ref kl.f)
 qC:FnAt C jj
 qD:C.mg "is_small"=some (.ref jj.f)
 rG:FnAt C iS
 rH:C.mg "is_capital"=some (.ref iS.f)
 u5:FnAt C fJ
 u6:C.mg "is_alnum"=some (.ref fJ.f)
 p8:FnAt C cZ
 p9:C.mg "number_text"=some (.ref cZ.f)
 ng:FnAt C b5
 nh:C.mg "is_alnum_name"=some (.ref b5.f)
 zK:FnAt C oG
 zL:C.mg "shapes"=some (.ref oG.f)
 u7:FnAt C km
 u8:C.mg "is_whole"=some (.ref km.f)
 xn:FnAt C ma
 xo:C.mg "is_pair"=some (.ref ma.f)
 qa:FnAt C d9
 qb:C.mg "is_register"=some (.ref d9.f)
 qc:FnAt C ed
 qd:C.mg "is_constant"=some (.ref ed.f)
 rJ:FnAt C iT
 rK:C.mg "is_functor"=some (.ref iT.f)
 tA:FnAt C jv
 tB:C.mg "is_target"=some (.ref jv.f)
 zM:FnAt C ko
 zN:C.mg "is_key"=some (.ref ko.f)
 u9:FnAt C cx
 vf:C.mg "is_table"=some (.ref cx.f)
 rL:FnAt C e9
 rM:C.mg "is_operand"=some (.ref e9.f)
 tC:FnAt C dG
 tD:C.mg "check_row"=some (.ref dG.f)
 qe:FnAt C c0
 qf:C.mg "code_digits"=some (.ref c0.f)
 qg:FnAt C bY
 qh:C.mg "quoted_name"=some (.ref bY.f)
 tF:FnAt C dH
 tG:C.mg "read_code"=some (.ref dH.f)
 ni:FnAt C aF
 nn:C.mg "unquoted_name"=some (.ref aF.f)
 nq:FnAt C eZ
 nr:C.mg "constant_text"=some (.ref eZ.f)
 oN:FnAt C gD
 oP:C.mg "functor_text"=some (.ref gD.f)
 qi:FnAt C bL
 qj:C.mg "table_words"=some (.ref bL.f)
 jW:FnAt C aY
 jY:C.mg "instruction_words"=some (.ref aY.f)
 xp:FnAt C dz
 xq:C.mg "listing"=some (.ref dz.f)
 tH:FnAt C ef
 tI:C.mg "split_row"=some (.ref ef.f)
 rN:FnAt C bK
 rO:C.mg "read_count"=some (.ref bK.f)
 nu:FnAt C cn
 nv:C.mg "read_constant"=some (.ref cn.f)
 oQ:FnAt C fx
 oU:C.mg "read_functor"=some (.ref fx.f)
 ny:FnAt C b6
 nz:C.mg "read_register"=some (.ref b6.f)
 rP:FnAt C aD
 rQ:C.mg "read_table"=some (.ref aD.f)
 oV:FnAt C fy
 oW:C.mg "read_operand"=some (.ref fy.f)
 kp:FnAt C az
 kq:C.mg "read_instruction"=some (.ref az.f)
 oY:FnAt C bj
 oZ:C.mg "read_listing"=some (.ref bj.f)
 vg:FnAt C cy
 vh:C.mg "_law_pool"=some (.ref cy.f)
 vj:FnAt C jk
 vk:C.mg "_law_pick"=some (.ref jk.f)
 tJ:FnAt C bZ
 tL:C.mg "_law_words"=some (.ref bZ.f)
 qk:FnAt C aV
 ql:C.mg "_law_operand"=some (.ref aV.f)
 Lh:C.mg "CON"=some (.int 4 374)
 Li:C.mg "INT"=some (.int 5 376)
 xr:C.mg "Symbols"=some (.ref 155)
 k6:C.mg "LinkFault"=some (.ref C.lf)
 Lj:C.mg "abs"=none
 Lk:C.mb "abs"=some (.builtin "abs")
 Gj:C.mg "chr"=none
 Gk:C.mb "chr"=some (.builtin "chr")
 zO:C.mg "divmod"=none
 zP:C.mb "divmod"=some (.builtin "divmod")
 rR:C.mg "isinstance"=none
 rS:C.mb "isinstance"=some (.builtin "isinstance")
 rT:C.mg "len"=none
 rU:C.mb "len"=some (.builtin "len")
 m_ord:C.mg "ord"=none
 Ll:C.mb "ord"=some (.builtin "ord")
 Gl:C.mg "bool"=none
 Gm:C.mb "bool"=some (.type "bool")
 vl:C.mg "dict"=none
 vm:C.mb "dict"=some (.type "dict")
 CW:C.mg "int"=none
 CX:C.mb "int"=some (.type "int")
 ya:C.mg "range"=none
 yb:C.mb "range"=some (.type "range")
 vo:C.mg "reversed"=none
 vp:C.mb "reversed"=some (.type "reversed")
 CY:C.mg "str"=none
 CZ:C.mb "str"=some (.type "str")
 rV:C.mg "tuple"=none
 rW:C.mb "tuple"=some (.type "tuple")
 hX:K.In C.B
 oS:xb K 155 bN
 oL:xZ K C.lf bO
 C0:takerIn K C.lf "what"=some none
 exc:xY C fw
 rX:findIn K (.ref 155) "texts"=some none
 zQ:takerIn K 155 "texts"=some none
 jM:findIn K (.ref 155) "atom_numbers"=some none
 nA:takerIn K 155 "atom_numbers"=some none
 jw:findIn K (.ref 155) "functors"=some none
 tM:takerIn K 155 "functors"=some none
 ir:findIn K (.ref 155) "functor_numbers"=some none
 kr:takerIn K 155 "functor_numbers"=some none
 C1:findIn K (.ref 155) "__init__"=some (some (.ref iQ.f))
 C2:typeIn K (.ref iQ.f)=some (.type "function")
 rY:findIn K (.ref 155) "atom"=some (some (.ref gA.f))
 rZ:typeIn K (.ref gA.f)=some (.type "function")
 C3:findIn K (.ref 155) "text"=some (some (.ref gB.f))
 C4:typeIn K (.ref gB.f)=some (.type "function")
 mI:findIn K (.ref 155) "functor"=some (some (.ref e8.f))
 mJ:typeIn K (.ref e8.f)=some (.type "function")
 C5:findIn K (.ref 155) "func"=some (some (.ref iR.f))
 C6:typeIn K (.ref iR.f)=some (.type "function")
 C7:findIn K (.ref 155) "name"=some (some (.ref gC.f))
 C8:typeIn K (.ref gC.f)=some (.type "function")
 zR:findIn K (.ref 155) "arity"=some (some (.ref fW.f))
 zS:typeIn K (.ref fW.f)=some (.type "function")
 YS:makesIn K 155=true
 PU:∃n q NN bs bm hdct sn sub ab col dd k0 k1 k2 k3 k5 Tv,C.B.get? 155=some (excClassObj n q 155 NN bs bm hdct sn sub ab col dd k0 k1 k2 k3 k5 Tv)
noncomputable def Gn:Stmt->Arguments
 |.FunctionDef _ a _ _ _ _ _ _ _ _=>a
 |_=>⟨[],[],none,[],[],none,[]⟩
noncomputable section
noncomputable abbrev jV(x:Str)(n:Nat):Value:= .str x n
noncomputable abbrev jK(P:Params)(x:Str)(n:Nat)(v:Value):DictEntry:=⟨PyData.keyHash P x,.str x n,v⟩
noncomputable def jT(a:Array Value):Obj:=⟨.type "tuple",none,.seq a 0,#[]⟩
noncomputable def jF(a:Array Value):Obj:=⟨.none,none,.fields a,#[]⟩
noncomputable def jD(a:Array DictEntry)(n:Nat):Obj:=⟨.type "dict",none,.dict a n,#[]⟩
noncomputable def jN(a b:Str)(s:Stmt)(d m:Value)(r:Nat):Obj:=⟨.type "function",none,.func ⟨a,b,Gn s,.stmts (bS s),bD s,3,[],d,.none,.none,m,none,.ref r,.none,0⟩,#[]⟩
noncomputable def jP(a b:Str)(s:Stmt):Obj:=⟨.none,none,.func ⟨a,b,Gn s,.stmts (bS s),bD s,0,[],.none,.none,.none,.none,none,.none,.none,0⟩,#[]⟩
noncomputable def jC(a:Str)(k:Nat)(b:Str)(k1 k2:Nat)(l n f:Int)(r:Nat)(q:Bool)(r2:Nat)(x y z:Value)(t:Int)(t2:Nat):Obj:=⟨.type "code",none,.fields #[jV a k,jV b k1,jV "/claim/cut.py" k2,.int l 0,.int n 0,.int 0 0,.int 0 0,.int f 0,.ref r,.bool q,.int 181 0,.ref r2,.none,x,y,z,.int t 0,.int l 0,jV "/claim/cut.py" t2],#[]⟩
noncomputable abbrev jE:BT:= .nil
noncomputable abbrev jX(o:Obj)(l r:BT):BT:= .node o l r
noncomputable abbrev jL(o:Obj):BT:= .node o .nil .nil
noncomputable def b9:Obj:=jT #[]
noncomputable def fA:Obj:=jF #[]
noncomputable def TC:Obj:=jC "<module>" 182 "<module>" 183 184 1 0 0 11 false 12 .none .none .none 185 186
noncomputable def TD:Obj:=⟨(.type "frame"),none,.plain,#[(some (.ref 13)),(some (.ref 3)),(some (.ref 3)),none,(some (jV "__main__" 164)),none,(some (.ref 0))]⟩
noncomputable def Tb(P:Params):BT:=(jX (boot_o_0 P) (jX (boot_o_1 P) (jX (boot_o_3 P) (jL (boot_o_7 P)) (jL b9)) (jX (boot_o_5 P) (jL (boot_o_9 P)) (jL TC))) (jX (boot_o_2 P) (jX (boot_o_4 P) (jL (boot_o_8 P)) (jL fA)) (jX (boot_o_6 P) (jL (boot_o_10 P)) (jL TD))))
noncomputable def YT(P:Params):Obj:=⟨.none,none,(.dict #[jK P "type.__subclasses__.Exception.0" 212 (.int 31 0),jK P "type.__subclasses__.Exception.n" 213 (.int 1 0)] 2),#[]⟩
noncomputable def Hx5(P:Params):Obj:=jD #[jK P "__name__" 165 (jV "clausemill.assembler" 426),jK P "__doc__" 166 .none,jK P "__package__" 167 .none,jK P "__loader__" 168 (.builtin "__main__.__loader__#opaque"),jK P "__spec__" 169 .none,jK P "__annotations__" 170 (.ref 6),jK P "__builtins__" 171 (.ref 4),jK P "__file__" 173 (jV "/claim/cut.py" 172),jK P "__cached__" 174 .none,jK P "_wall" 193 (.ref 21),jK P "ClausemillError" 215 (.ref 31),jK P "LinkFault" 241 (.ref 52),jK P "fixed_atoms" 247 (.ref 61),jK P "fixed_functors" 253 (.ref 68),jK P "Symbols" 373 (.ref 155),jK P "CON" 375 (.int 4 374),jK P "INT" 377 (.int 5 376),jK P "is_digit" 386 (.ref 166),jK P "is_small" 393 (.ref 173),jK P "is_capital" 400 (.ref 180),jK P "is_alnum" 407 (.ref 187),jK P "number_text" 417 (.ref 194),jK P "is_alnum_name" 425 (.ref 201),jK P "shapes" 433 (.ref 208),jK P "is_whole" 440 (.ref 215),jK P "is_pair" 447 (.ref 222)] 26
noncomputable def Hx6:Obj:=jF #[.int 1 0,.int 0 0,.ref 20,.int 5 0,.int 0 0,.ref 27,.int 7 0,.int 0 0,.ref 40,.int 11 0,.int 0 0,.ref 60,.int 13 0,.int 0 0,.ref 67,.int 15 0,.int 0 0,.ref 74,.int 73 0,.int 0 0,.ref 165,.int 75 0,.int 0 0,.ref 172,.int 77 0,.int 0 0,.ref 179,.int 79 0,.int 0 0,.ref 186,.int 81 0,.int 0 0,.ref 193,.int 91 0,.int 0 0,.ref 200,.int 99 0,.int 0 0,.ref 207,.int 101 0,.int 0 0,.ref 214,.int 103 0,.int 0 0,.ref 221]
noncomputable def YU:Obj:=jT #[(jV "k" 190)]
noncomputable def YV:Obj:=jP "_wall" "_wall" (bc 0)
noncomputable def YW:Obj:=jC "_wall" 187 "_wall" 188 189 1 1 3 15 true 16 (.ref 17) (.ref 18) (.ref 19) 191 192
noncomputable def YX:Obj:=jN "_wall" "_wall" (bc 0) .none (jV "__main__" 164) 20
noncomputable def YY:Obj:=jT #[.type "Exception"]
noncomputable def OB:Obj:=⟨(.type "builtin_function_or_method"),none,(.fields #[.builtin "type.__prepare__",.type "type"]),#[]⟩
noncomputable def YZ(P:Params):Obj:=jD #[jK P "__module__" 203 (jV "clausemill.symbols" 194),jK P "__qualname__" 205 (jV "ClausemillError" 204),jK P "__firstlineno__" 207 (.int 5 206),jK P "__static_attributes__" 208 (.ref 29)] 4
noncomputable def Y0:Obj:=jC "ClausemillError" 198 "ClausemillError" 199 200 5 0 0 25 false 26 .none .none .none 201 202
noncomputable def Y1:Obj:=⟨(.type "frame"),none,.plain,#[(some (.ref 27)),(some (.ref 3)),(some (.ref 24)),none,(some (jV "clausemill.symbols" 194)),none,(some (.ref 0))]⟩
noncomputable def Y2(P:Params):Obj:=jD #[jK P "__module__" 203 (jV "clausemill.symbols" 194),jK P "__firstlineno__" 207 (.int 5 206),jK P "__static_attributes__" 208 (.ref 29),jK P "__weakref__" 210 (.ref 32),jK P "__doc__" 211 .none] 3
noncomputable def UL:Obj:=⟨(.type "type"),none,(.cls ⟨"ClausemillError",[.type "Exception"],[.ref 31,.type "Exception",.type "BaseException",.type "object"],30,"ClausemillError",true,[],[.ref 52],false,none,false⟩),#[(some (.ref 22)),none,(some (jV "ClausemillError" 196)),(some (jV "ClausemillError" 204)),(some (.builtin "Exception.__new__")),(some (.bool true))]⟩
noncomputable def Y3:Obj:=⟨(.type "getset_descriptor"),none,(.fields #[(jV "__weakref__" 209),.ref 31,.builtin "ExceptionGroup.__weakref__",.none]),#[]⟩
noncomputable def Y4:Obj:=⟨(.type "super"),none,(.fields #[.ref 31,.ref 31,.ref 31]),#[]⟩
noncomputable def Y5:Obj:=⟨(.type "builtin_function_or_method"),none,(.fields #[.builtin "object.__init_subclass__",.ref 31]),#[]⟩
noncomputable def Y6:Obj:=jT #[.ref 31]
noncomputable def Y7(P:Params):Obj:=jD #[jK P "__module__" 223 (jV "clausemill.symbols" 194),jK P "__qualname__" 225 (jV "LinkFault" 224),jK P "__firstlineno__" 227 (.int 7 226),jK P "__init__" 236 (.ref 49),jK P "__static_attributes__" 238 (.ref 50)] 5
noncomputable def Y8:Obj:=jF #[.int 9 0,.int 4 0,.ref 48]
noncomputable def Y9:Obj:=jC "LinkFault" 218 "LinkFault" 219 220 7 0 0 38 false 39 .none .none .none 221 222
noncomputable def Za:Obj:=⟨(.type "frame"),none,.plain,#[(some (.ref 40)),(some (.ref 3)),(some (.ref 37)),none,(some (jV "clausemill.symbols" 194)),none,(some (.ref 0))]⟩
noncomputable def Zb:Obj:=jT #[(jV "" 228)]
noncomputable def Zc:Obj:=jT #[(jV "self" 232),(jV "what" 233)]
noncomputable def Zd:Obj:=jP "__init__" "LinkFault.__init__" (dk 3 0)
noncomputable def Ze:Obj:=jC "__init__" 229 "LinkFault.__init__" 230 231 9 2 3 43 true 44 (.ref 45) (.ref 46) (.ref 47) 234 235
noncomputable def Zg:Obj:=jN "__init__" "LinkFault.__init__" (dk 3 0) (.ref 42) (jV "clausemill.symbols" 194) 48
noncomputable def Zh:Obj:=jT #[(jV "what" 237)]
noncomputable def Zi(P:Params):Obj:=jD #[jK P "__module__" 223 (jV "clausemill.symbols" 194),jK P "__firstlineno__" 227 (.int 7 226),jK P "__init__" 236 (.ref 49),jK P "__static_attributes__" 238 (.ref 50),jK P "__doc__" 239 .none] 2
noncomputable def UM:Obj:=⟨(.type "type"),none,(.cls ⟨"LinkFault",[.ref 31],[.ref 52,.ref 31,.type "Exception",.type "BaseException",.type "object"],51,"LinkFault",true,[],[],false,none,false⟩),#[(some (.ref 35)),none,(some (jV "LinkFault" 216)),(some (jV "LinkFault" 224)),(some (.builtin "Exception.__new__")),(some (.bool true))]⟩
noncomputable def Zj:Obj:=⟨(.type "super"),none,(.fields #[.ref 52,.ref 52,.ref 52]),#[]⟩
noncomputable def Zk:Obj:=⟨(.type "builtin_function_or_method"),none,(.fields #[.builtin "object.__init_subclass__",.ref 52]),#[]⟩
noncomputable def PW:Obj:=jP "fixed_atoms" "fixed_atoms" (bc 4)
noncomputable def PX:Obj:=jC "fixed_atoms" 242 "fixed_atoms" 243 244 11 0 3 55 true 56 (.ref 57) (.ref 58) (.ref 59) 245 246
noncomputable def PY:Obj:=jN "fixed_atoms" "fixed_atoms" (bc 4) .none (jV "clausemill.symbols" 194) 60
noncomputable def PZ:Obj:=jP "fixed_functors" "fixed_functors" (bc 5)
noncomputable def P0:Obj:=jC "fixed_functors" 248 "fixed_functors" 249 250 13 0 3 62 true 63 (.ref 64) (.ref 65) (.ref 66) 251 252
noncomputable def P1:Obj:=jN "fixed_functors" "fixed_functors" (bc 5) .none (jV "clausemill.symbols" 194) 67
noncomputable def P2(P:Params):Obj:=jD #[jK P "__module__" 261 (jV "clausemill.symbols" 194),jK P "__qualname__" 263 (jV "Symbols" 262),jK P "__firstlineno__" 265 (.int 15 264),jK P "__init__" 274 (.ref 82),jK P "atom" 284 (.ref 89),jK P "text" 292 (.ref 96),jK P "functor" 304 (.ref 103),jK P "func" 313 (.ref 110),jK P "name" 321 (.ref 117),jK P "arity" 329 (.ref 124),jK P "label" 338 (.ref 131),jK P "count" 345 (.ref 138),jK P "functor_count" 352 (.ref 145),jK P "known" 361 (.ref 152),jK P "__static_attributes__" 366 (.ref 153)] 15
noncomputable def P4:Obj:=jF #[.int 17 0,.int 4 0,.ref 81,.int 27 0,.int 4 0,.ref 88,.int 36 0,.int 4 0,.ref 95,.int 39 0,.int 4 0,.ref 102,.int 49 0,.int 4 0,.ref 109,.int 52 0,.int 4 0,.ref 116,.int 55 0,.int 4 0,.ref 123,.int 58 0,.int 4 0,.ref 130,.int 62 0,.int 4 0,.ref 137,.int 65 0,.int 4 0,.ref 144,.int 68 0,.int 4 0,.ref 151]
noncomputable def P5:Obj:=jC "Symbols" 256 "Symbols" 257 258 15 0 0 72 false 73 .none .none .none 259 260
noncomputable def P6:Obj:=⟨(.type "frame"),none,.plain,#[(some (.ref 74)),(some (.ref 3)),(some (.ref 71)),none,(some (jV "clausemill.symbols" 194)),none,(some (.ref 0))]⟩
noncomputable def P7:Obj:=jT #[(jV "self" 269),(jV "text" 270),(jV "row" 271)]
noncomputable def P8:Obj:=jP "__init__" "Symbols.__init__" (dk 6 0)
noncomputable def P9:Obj:=jC "__init__" 266 "Symbols.__init__" 267 268 17 1 3 76 true 77 (.ref 78) (.ref 79) (.ref 80) 272 273
noncomputable def Qa:Obj:=jN "__init__" "Symbols.__init__" (dk 6 0) .none (jV "clausemill.symbols" 194) 81
noncomputable def Qb:Obj:=jT #[(jV "self" 278),(jV "text" 279),(jV "found" 280),(jV "number" 281)]
noncomputable def Qc:Obj:=jP "atom" "Symbols.atom" (dk 6 1)
noncomputable def Qd:Obj:=jC "atom" 275 "Symbols.atom" 276 277 27 2 3 83 true 84 (.ref 85) (.ref 86) (.ref 87) 282 283
noncomputable def Qe:Obj:=jN "atom" "Symbols.atom" (dk 6 1) .none (jV "clausemill.symbols" 194) 88
noncomputable def Qf:Obj:=jT #[(jV "self" 288),(jV "number" 289)]
noncomputable def Qg:Obj:=jP "text" "Symbols.text" (dk 6 2)
noncomputable def Qh:Obj:=jC "text" 285 "Symbols.text" 286 287 36 2 3 90 true 91 (.ref 92) (.ref 93) (.ref 94) 290 291
noncomputable def Qi:Obj:=jN "text" "Symbols.text" (dk 6 2) .none (jV "clausemill.symbols" 194) 95
noncomputable def Qj:Obj:=jT #[(jV "self" 296),(jV "atom" 297),(jV "arity" 298),(jV "key" 299),(jV "found" 300),(jV "number" 301)]
noncomputable def Qk:Obj:=jP "functor" "Symbols.functor" (dk 6 3)
noncomputable def Ql:Obj:=jC "functor" 293 "Symbols.functor" 294 295 39 3 3 97 true 98 (.ref 99) (.ref 100) (.ref 101) 302 303
noncomputable def Qm:Obj:=jN "functor" "Symbols.functor" (dk 6 3) .none (jV "clausemill.symbols" 194) 102
noncomputable def Qn:Obj:=jT #[(jV "self" 308),(jV "text" 309),(jV "arity" 310)]
noncomputable def Qo:Obj:=jP "func" "Symbols.func" (dk 6 4)
noncomputable def Qp:Obj:=jC "func" 305 "Symbols.func" 306 307 49 3 3 104 true 105 (.ref 106) (.ref 107) (.ref 108) 311 312
noncomputable def Qq:Obj:=jN "func" "Symbols.func" (dk 6 4) .none (jV "clausemill.symbols" 194) 109
noncomputable def Qr:Obj:=jT #[(jV "self" 317),(jV "functor" 318)]
noncomputable def Qs:Obj:=jP "name" "Symbols.name" (dk 6 5)
noncomputable def Qt:Obj:=jC "name" 314 "Symbols.name" 315 316 52 2 3 111 true 112 (.ref 113) (.ref 114) (.ref 115) 319 320
noncomputable def Qu:Obj:=jN "name" "Symbols.name" (dk 6 5) .none (jV "clausemill.symbols" 194) 116
noncomputable def Qv:Obj:=jT #[(jV "self" 325),(jV "functor" 326)]
noncomputable def Qw:Obj:=jP "arity" "Symbols.arity" (dk 6 6)
noncomputable def Qx:Obj:=jC "arity" 322 "Symbols.arity" 323 324 55 2 3 118 true 119 (.ref 120) (.ref 121) (.ref 122) 327 328
noncomputable def Qy:Obj:=jN "arity" "Symbols.arity" (dk 6 6) .none (jV "clausemill.symbols" 194) 123
noncomputable def Qz:Obj:=jT #[(jV "self" 333),(jV "functor" 334),(jV "row" 335)]
noncomputable def QA:Obj:=jP "label" "Symbols.label" (dk 6 7)
noncomputable def QB:Obj:=jC "label" 330 "Symbols.label" 331 332 58 2 3 125 true 126 (.ref 127) (.ref 128) (.ref 129) 336 337
noncomputable def QC:Obj:=jN "label" "Symbols.label" (dk 6 7) .none (jV "clausemill.symbols" 194) 130
noncomputable def QD:Obj:=jT #[(jV "self" 342)]
noncomputable def QE:Obj:=jP "count" "Symbols.count" (dk 6 8)
noncomputable def QF:Obj:=jC "count" 339 "Symbols.count" 340 341 62 1 3 132 true 133 (.ref 134) (.ref 135) (.ref 136) 343 344
noncomputable def QG:Obj:=jN "count" "Symbols.count" (dk 6 8) .none (jV "clausemill.symbols" 194) 137
noncomputable def QH:Obj:=jT #[(jV "self" 349)]
noncomputable def QI:Obj:=jP "functor_count" "Symbols.functor_count" (dk 6 9)
noncomputable def QJ:Obj:=jC "functor_count" 346 "Symbols.functor_count" 347 348 65 1 3 139 true 140 (.ref 141) (.ref 142) (.ref 143) 350 351
noncomputable def QK:Obj:=jN "functor_count" "Symbols.functor_count" (dk 6 9) .none (jV "clausemill.symbols" 194) 144
noncomputable def QM:Obj:=jT #[(jV "self" 356),(jV "text" 357),(jV "arity" 358)]
noncomputable def QN:Obj:=jP "known" "Symbols.known" (dk 6 10)
noncomputable def QO:Obj:=jC "known" 353 "Symbols.known" 354 355 68 3 3 146 true 147 (.ref 148) (.ref 149) (.ref 150) 359 360
noncomputable def QP:Obj:=jN "known" "Symbols.known" (dk 6 10) .none (jV "clausemill.symbols" 194) 151
noncomputable def QQ:Obj:=jT #[(jV "atom_numbers" 362),(jV "functor_numbers" 363),(jV "functors" 364),(jV "texts" 365)]
noncomputable def QR(P:Params):Obj:=jD #[jK P "__module__" 261 (jV "clausemill.symbols" 194),jK P "__firstlineno__" 265 (.int 15 264),jK P "__init__" 274 (.ref 82),jK P "atom" 284 (.ref 89),jK P "text" 292 (.ref 96),jK P "functor" 304 (.ref 103),jK P "func" 313 (.ref 110),jK P "name" 321 (.ref 117),jK P "arity" 329 (.ref 124),jK P "label" 338 (.ref 131),jK P "count" 345 (.ref 138),jK P "functor_count" 352 (.ref 145),jK P "known" 361 (.ref 152),jK P "__static_attributes__" 366 (.ref 153),jK P "__dict__" 368 (.ref 156),jK P "__weakref__" 370 (.ref 157),jK P "__doc__" 371 .none] 4
noncomputable def QS:Obj:=⟨(.type "type"),none,(.cls ⟨"Symbols",[.type "object"],[.ref 155,.type "object"],154,"Symbols",true,[],[],false,none,false⟩),#[none,none,(some (jV "Symbols" 254)),(some (jV "Symbols" 262)),(some (.builtin "object.__new__")),(some (.bool true))]⟩
noncomputable def QT:Obj:=⟨(.type "getset_descriptor"),none,(.fields #[(jV "__dict__" 367),.ref 155,.builtin "function.__dict__",.builtin "function.__dict__#set"]),#[]⟩
noncomputable def QU:Obj:=⟨(.type "getset_descriptor"),none,(.fields #[(jV "__weakref__" 369),.ref 155,.builtin "ExceptionGroup.__weakref__",.none]),#[]⟩
noncomputable def QV:Obj:=⟨(.type "super"),none,(.fields #[.ref 155,.ref 155,.ref 155]),#[]⟩
noncomputable def QW:Obj:=⟨(.type "builtin_function_or_method"),none,(.fields #[.builtin "object.__init_subclass__",.ref 155]),#[]⟩
noncomputable def QX:Obj:=jT #[(jV "code" 383)]
noncomputable def QY:Obj:=jP "is_digit" "is_digit" (bc 10)
noncomputable def QZ:Obj:=jC "is_digit" 380 "is_digit" 381 382 73 1 3 160 true 161 (.ref 162) (.ref 163) (.ref 164) 384 385
noncomputable def Q0:Obj:=jN "is_digit" "is_digit" (bc 10) .none (jV "clausemill.chars" 378) 165
noncomputable def Q1:Obj:=jT #[(jV "code" 390)]
noncomputable def Q2:Obj:=jP "is_small" "is_small" (bc 11)
noncomputable def Q3:Obj:=jC "is_small" 387 "is_small" 388 389 75 1 3 167 true 168 (.ref 169) (.ref 170) (.ref 171) 391 392
noncomputable def Q4:Obj:=jN "is_small" "is_small" (bc 11) .none (jV "clausemill.chars" 378) 172
noncomputable def Q5:Obj:=jT #[(jV "code" 397)]
noncomputable def Q6:Obj:=jP "is_capital" "is_capital" (bc 12)
noncomputable def Q7:Obj:=jC "is_capital" 394 "is_capital" 395 396 77 1 3 174 true 175 (.ref 176) (.ref 177) (.ref 178) 398 399
noncomputable def Q8:Obj:=jN "is_capital" "is_capital" (bc 12) .none (jV "clausemill.chars" 378) 179
noncomputable def Q9:Obj:=jT #[(jV "code" 404)]
noncomputable def Ra:Obj:=jP "is_alnum" "is_alnum" (bc 13)
noncomputable def Rb:Obj:=jC "is_alnum" 401 "is_alnum" 402 403 79 1 3 181 true 182 (.ref 183) (.ref 184) (.ref 185) 405 406
noncomputable def Rc:Obj:=jN "is_alnum" "is_alnum" (bc 13) .none (jV "clausemill.chars" 378) 186
noncomputable def Rd:Obj:=jT #[(jV "value" 411),(jV "rest" 412),(jV "pieces" 413),(jV "piece" 414)]
noncomputable def Rf:Obj:=jP "number_text" "number_text" (bc 14)
noncomputable def Rg:Obj:=jC "number_text" 408 "number_text" 409 410 81 1 3 188 true 189 (.ref 190) (.ref 191) (.ref 192) 415 416
noncomputable def Rh:Obj:=jN "number_text" "number_text" (bc 14) .none (jV "clausemill.chars" 378) 193
noncomputable def Ri:Obj:=jT #[(jV "text" 421),(jV "char" 422)]
noncomputable def Rj:Obj:=jP "is_alnum_name" "is_alnum_name" (bc 15)
noncomputable def Rk:Obj:=jC "is_alnum_name" 418 "is_alnum_name" 419 420 91 1 3 195 true 196 (.ref 197) (.ref 198) (.ref 199) 423 424
noncomputable def Rl:Obj:=jN "is_alnum_name" "is_alnum_name" (bc 15) .none (jV "clausemill.chars" 378) 200
noncomputable def Rm:Obj:=jP "shapes" "shapes" (bc 17)
noncomputable def Rn:Obj:=jC "shapes" 428 "shapes" 429 430 99 0 3 202 true 203 (.ref 204) (.ref 205) (.ref 206) 431 432
noncomputable def Ro:Obj:=jN "shapes" "shapes" (bc 17) .none (jV "clausemill.assembler" 426) 207
noncomputable def Rp:Obj:=jT #[(jV "value" 437)]
noncomputable def Rq:Obj:=jP "is_whole" "is_whole" (bc 18)
noncomputable def Rr:Obj:=jC "is_whole" 434 "is_whole" 435 436 101 1 3 209 true 210 (.ref 211) (.ref 212) (.ref 213) 438 439
noncomputable def Rs:Obj:=jN "is_whole" "is_whole" (bc 18) .none (jV "clausemill.assembler" 426) 214
noncomputable def Rt:Obj:=jT #[(jV "value" 444)]
noncomputable def Ru:Obj:=jP "is_pair" "is_pair" (bc 19)
noncomputable def Rv:Obj:=jC "is_pair" 441 "is_pair" 442 443 103 1 3 216 true 217 (.ref 218) (.ref 219) (.ref 220) 445 446
noncomputable def Rw:Obj:=jN "is_pair" "is_pair" (bc 19) .none (jV "clausemill.assembler" 426) 221
noncomputable def T0(P:Params):BT:=(jX (boot_o_0 P) (jX (boot_o_1 P) (jX (Hx5 P) (jX (boot_o_7 P) (jX b9 (jX UL (jX fA (jL Qz) (jL b9)) (jX Qh (jL QW) jE)) (jX Zd (jX b9 (jL QI) (jL Rn)) (jX b9 (jL fA) jE))) (jX OB (jX Y8 (jX (P2 P) (jL b9) (jL Rj)) (jX Qm (jL b9) jE)) (jX b9 (jX Qc (jL QO) (jL Rs)) (jX fA (jL Q9) jE)))) (jX b9 (jX YV (jX Y6 (jX P0 (jL QC) (jL b9)) (jX Qj (jL b9) jE)) (jX (Zi P) (jX b9 (jL fA) (jL Rp)) (jX Qs (jL Q7) jE))) (jX Y0 (jX b9 (jX P6 (jL b9) (jL fA)) (jX b9 (jL Q2) jE)) (jX PW (jX fA (jL QS) (jL b9)) (jX Qx (jL Rc) jE))))) (jX (boot_o_5 P) (jX (boot_o_9 P) (jX YU (jX Y4 (jX b9 (jL QA) (jL Rg)) (jX b9 (jL fA) jE)) (jX Zg (jX P9 (jL QK) (jL b9)) (jX Qr (jL b9) jE))) (jX b9 (jX Za (jX P4 (jL QF) (jL Rl)) (jX fA (jL Q1) jE)) (jX b9 (jX Qe (jL QQ) (jL fA)) (jX b9 (jL Ra) jE)))) (jX TC (jX YX (jX (Y7 P) (jX b9 (jL fA) (jL Ri)) (jX Qk (jL QZ) jE)) (jX Zj (jX Qb (jL b9) (jL Rq)) (jX Qu (jL b9) jE))) (jX b9 (jX Zc (jX fA (jL QH) (jL b9)) (jX Qp (jL Q4) jE)) (jX PY (jX b9 (jL QU) (jL Rv)) (jX b9 (jL fA) jE)))))) (jX (YT P) (jX (boot_o_4 P) (jX (boot_o_8 P) (jX fA (jX Y3 (jX b9 (jL b9) (jL Rf)) (jX Qi (jL b9) jE)) (jX Ze (jX P8 (jL QJ) (jL Ro)) (jX fA (jL Q5) jE))) (jX (YZ P) (jX Y9 (jX b9 (jL QE) (jL Rk)) (jX b9 (jL fA) jE)) (jX fA (jX Qd (jL QP) (jL b9)) (jX Qv (jL b9) jE)))) (jX Hx6 (jX YW (jX OB (jX P1 (jL b9) (jL fA)) (jX b9 (jL QY) jE)) (jX UM (jX fA (jL QM) (jL b9)) (jX Qt (jL Q8) jE))) (jX Y1 (jX fA (jX b9 (jL fA) (jL b9)) (jX Qo (jL Q3) jE)) (jX PX (jX Qf (jL QT) (jL Ru)) (jX Qy (jL b9) jE))))) (jX (boot_o_6 P) (jX (boot_o_10 P) (jX b9 (jX Y5 (jX PZ (jL QB) (jL Rh)) (jX fA (jL QX) jE)) (jX Zh (jX Qa (jL b9) (jL fA)) (jX b9 (jL Q6) jE))) (jX fA (jX Zb (jX P5 (jL QG) (jL b9)) (jX Qn (jL b9) jE)) (jX b9 (jX b9 (jL (QR P)) (jL Rt)) (jX Qw (jL Rb) jE)))) (jX TD (jX YY (jX b9 (jX OB (jL QD) (jL b9)) (jX Ql (jL Q0) jE)) (jX Zk (jX b9 (jL QN) (jL Rr)) (jX b9 (jL fA) jE))) (jX (Y2 P) (jX b9 (jX P7 (jL b9) (jL Rm)) (jX Qq (jL b9) jE)) (jX b9 (jX Qg (jL QV) (jL Rw)) (jX fA (jL Rd) jE)))))))
noncomputable def UN(P:Params):Obj:=jD #[jK P "__name__" 165 (jV "law_no0172_02" 712),jK P "__doc__" 166 .none,jK P "__package__" 167 .none,jK P "__loader__" 168 (.builtin "__main__.__loader__#opaque"),jK P "__spec__" 169 .none,jK P "__annotations__" 170 (.ref 6),jK P "__builtins__" 171 (.ref 4),jK P "__file__" 173 (jV "/claim/cut.py" 172),jK P "__cached__" 174 .none,jK P "_wall" 193 (.ref 21),jK P "ClausemillError" 215 (.ref 31),jK P "LinkFault" 241 (.ref 52),jK P "fixed_atoms" 247 (.ref 61),jK P "fixed_functors" 253 (.ref 68),jK P "Symbols" 373 (.ref 155),jK P "CON" 375 (.int 4 374),jK P "INT" 377 (.int 5 376),jK P "is_digit" 386 (.ref 166),jK P "is_small" 393 (.ref 173),jK P "is_capital" 400 (.ref 180),jK P "is_alnum" 407 (.ref 187),jK P "number_text" 417 (.ref 194),jK P "is_alnum_name" 425 (.ref 201),jK P "shapes" 433 (.ref 208),jK P "is_whole" 440 (.ref 215),jK P "is_pair" 447 (.ref 222),jK P "is_register" 455 (.ref 229),jK P "is_constant" 462 (.ref 236),jK P "is_functor" 469 (.ref 243),jK P "is_target" 477 (.ref 250),jK P "is_key" 485 (.ref 257),jK P "is_table" 496 (.ref 264),jK P "is_operand" 505 (.ref 271),jK P "check_row" 517 (.ref 278),jK P "code_digits" 526 (.ref 285),jK P "quoted_name" 535 (.ref 292),jK P "read_code" 546 (.ref 299),jK P "unquoted_name" 558 (.ref 306),jK P "constant_text" 566 (.ref 313),jK P "functor_text" 574 (.ref 320),jK P "table_words" 586 (.ref 327),jK P "instruction_words" 600 (.ref 334),jK P "listing" 614 (.ref 342),jK P "split_row" 623 (.ref 349),jK P "read_count" 634 (.ref 356),jK P "read_constant" 643 (.ref 363),jK P "read_functor" 653 (.ref 370),jK P "read_register" 660 (.ref 377),jK P "read_table" 674 (.ref 384),jK P "read_operand" 683 (.ref 391),jK P "read_instruction" 697 (.ref 398),jK P "read_listing" 711 (.ref 405),jK P "_law_pool" 726 (.ref 412),jK P "_law_pick" 735 (.ref 419),jK P "_law_words" 741 (.ref 424),jK P "_law_operand" 759 (.ref 431),jK P "law" 780 (.ref 438)] 57
noncomputable def UO:Obj:=jF #[.int 1 0,.int 0 0,.ref 20,.int 5 0,.int 0 0,.ref 27,.int 7 0,.int 0 0,.ref 40,.int 11 0,.int 0 0,.ref 60,.int 13 0,.int 0 0,.ref 67,.int 15 0,.int 0 0,.ref 74,.int 73 0,.int 0 0,.ref 165,.int 75 0,.int 0 0,.ref 172,.int 77 0,.int 0 0,.ref 179,.int 79 0,.int 0 0,.ref 186,.int 81 0,.int 0 0,.ref 193,.int 91 0,.int 0 0,.ref 200,.int 99 0,.int 0 0,.ref 207,.int 101 0,.int 0 0,.ref 214,.int 103 0,.int 0 0,.ref 221,.int 105 0,.int 0 0,.ref 228,.int 107 0,.int 0 0,.ref 235,.int 109 0,.int 0 0,.ref 242,.int 111 0,.int 0 0,.ref 249,.int 117 0,.int 0 0,.ref 256,.int 121 0,.int 0 0,.ref 263,.int 135 0,.int 0 0,.ref 270,.int 149 0,.int 0 0,.ref 277,.int 161 0,.int 0 0,.ref 284,.int 169 0,.int 0 0,.ref 291,.int 180 0,.int 0 0,.ref 298,.int 191 0,.int 0 0,.ref 305,.int 213 0,.int 0 0,.ref 312,.int 217 0,.int 0 0,.ref 319,.int 219 0,.int 0 0,.ref 326,.int 229 0,.int 0 0,.ref 333,.int 246 0,.int 0 0,.ref 341,.int 254 0,.int 0 0,.ref 348,.int 260 0,.int 0 0,.ref 355,.int 271 0,.int 0 0,.ref 362,.int 280 0,.int 0 0,.ref 369,.int 286 0,.int 0 0,.ref 376,.int 290 0,.int 0 0,.ref 383,.int 311 0,.int 0 0,.ref 390,.int 319 0,.int 0 0,.ref 397,.int 339 0,.int 0 0,.ref 404,.int 355 0,.int 0 0,.ref 411,.int 370 0,.int 0 0,.ref 418,.int 380 0,.int 0 0,.ref 423,.int 395 0,.int 0 0,.ref 430,.int 419 0,.int 0 0,.ref 437]
noncomputable def UP:Obj:=jT #[(jV "value" 451),(jV "names" 452)]
noncomputable def UQ:Obj:=jP "is_register" "is_register" (bc 20)
noncomputable def UR:Obj:=jC "is_register" 448 "is_register" 449 450 105 2 3 223 true 224 (.ref 225) (.ref 226) (.ref 227) 453 454
noncomputable def US:Obj:=jN "is_register" "is_register" (bc 20) .none (jV "clausemill.assembler" 426) 228
noncomputable def UT:Obj:=jT #[(jV "value" 459)]
noncomputable def UU:Obj:=jP "is_constant" "is_constant" (bc 21)
noncomputable def UV:Obj:=jC "is_constant" 456 "is_constant" 457 458 107 1 3 230 true 231 (.ref 232) (.ref 233) (.ref 234) 460 461
noncomputable def UW:Obj:=jN "is_constant" "is_constant" (bc 21) .none (jV "clausemill.assembler" 426) 235
noncomputable def UX:Obj:=jT #[(jV "value" 466)]
noncomputable def UY:Obj:=jP "is_functor" "is_functor" (bc 22)
noncomputable def UZ:Obj:=jC "is_functor" 463 "is_functor" 464 465 109 1 3 237 true 238 (.ref 239) (.ref 240) (.ref 241) 467 468
noncomputable def U0:Obj:=jN "is_functor" "is_functor" (bc 22) .none (jV "clausemill.assembler" 426) 242
noncomputable def U1:Obj:=jT #[(jV "value" 473),(jV "linked" 474)]
noncomputable def U2:Obj:=jP "is_target" "is_target" (bc 23)
noncomputable def U3:Obj:=jC "is_target" 470 "is_target" 471 472 111 2 3 244 true 245 (.ref 246) (.ref 247) (.ref 248) 475 476
noncomputable def U4:Obj:=jN "is_target" "is_target" (bc 23) .none (jV "clausemill.assembler" 426) 249
noncomputable def U5:Obj:=jT #[(jV "value" 481),(jV "kind" 482)]
noncomputable def U6:Obj:=jP "is_key" "is_key" (bc 24)
noncomputable def U7:Obj:=jC "is_key" 478 "is_key" 479 480 117 2 3 251 true 252 (.ref 253) (.ref 254) (.ref 255) 483 484
noncomputable def U8:Obj:=jN "is_key" "is_key" (bc 24) .none (jV "clausemill.assembler" 426) 256
noncomputable def U9:Obj:=jT #[(jV "value" 489),(jV "kind" 490),(jV "linked" 491),(jV "key" 492),(jV "pair" 493)]
noncomputable def Va:Obj:=jP "is_table" "is_table" (bc 25)
noncomputable def Vb:Obj:=jC "is_table" 486 "is_table" 487 488 121 3 3 258 true 259 (.ref 260) (.ref 261) (.ref 262) 494 495
noncomputable def Vc:Obj:=jN "is_table" "is_table" (bc 25) .none (jV "clausemill.assembler" 426) 263
noncomputable def Vd:Obj:=jT #[(jV "value" 500),(jV "kind" 501),(jV "linked" 502)]
noncomputable def Ve:Obj:=jP "is_operand" "is_operand" (bc 26)
noncomputable def Vf:Obj:=jC "is_operand" 497 "is_operand" 498 499 135 3 3 265 true 266 (.ref 267) (.ref 268) (.ref 269) 503 504
noncomputable def Vg:Obj:=jN "is_operand" "is_operand" (bc 26) .none (jV "clausemill.assembler" 426) 270
noncomputable def Vh:Obj:=jT #[(jV "table" 509),(jV "ins" 510),(jV "linked" 511),(jV "name" 512),(jV "kinds" 513),(jV "place" 514)]
noncomputable def Vi:Obj:=jP "check_row" "check_row" (bc 27)
noncomputable def Vj:Obj:=jC "check_row" 506 "check_row" 507 508 149 3 3 272 true 273 (.ref 274) (.ref 275) (.ref 276) 515 516
noncomputable def Vk:Obj:=jN "check_row" "check_row" (bc 27) .none (jV "clausemill.assembler" 426) 277
noncomputable def Vl:Obj:=jT #[(jV "code" 521),(jV "figures" 522),(jV "text" 523)]
noncomputable def Vm:Obj:=jP "code_digits" "code_digits" (bc 28)
noncomputable def Vn:Obj:=jC "code_digits" 518 "code_digits" 519 520 161 1 3 279 true 280 (.ref 281) (.ref 282) (.ref 283) 524 525
noncomputable def Vo:Obj:=jN "code_digits" "code_digits" (bc 28) .none (jV "clausemill.assembler" 426) 284
noncomputable def Vp:Obj:=jT #[(jV "text" 530),(jV "parts" 531),(jV "sign" 532)]
noncomputable def Vq:Obj:=jP "quoted_name" "quoted_name" (bc 29)
noncomputable def Vr:Obj:=jC "quoted_name" 527 "quoted_name" 528 529 169 1 3 286 true 287 (.ref 288) (.ref 289) (.ref 290) 533 534
noncomputable def Vs:Obj:=jN "quoted_name" "quoted_name" (bc 29) .none (jV "clausemill.assembler" 426) 291
noncomputable def Vt:Obj:=jT #[(jV "digits" 539),(jV "figures" 540),(jV "value" 541),(jV "sign" 542),(jV "figure" 543)]
noncomputable def Vu:Obj:=jP "read_code" "read_code" (bc 30)
noncomputable def Vv:Obj:=jC "read_code" 536 "read_code" 537 538 180 1 3 293 true 294 (.ref 295) (.ref 296) (.ref 297) 544 545
noncomputable def Vw:Obj:=jN "read_code" "read_code" (bc 30) .none (jV "clausemill.assembler" 426) 298
noncomputable def Vy:Obj:=jT #[(jV "word" 550),(jV "inner" 551),(jV "parts" 552),(jV "place" 553),(jV "end" 554),(jV "text" 555)]
noncomputable def Vz:Obj:=jP "unquoted_name" "unquoted_name" (bc 31)
noncomputable def VA:Obj:=jC "unquoted_name" 547 "unquoted_name" 548 549 191 1 3 300 true 301 (.ref 302) (.ref 303) (.ref 304) 556 557
noncomputable def VB:Obj:=jN "unquoted_name" "unquoted_name" (bc 31) .none (jV "clausemill.assembler" 426) 305
noncomputable def VC:Obj:=jT #[(jV "symbols" 562),(jV "cell" 563)]
noncomputable def VD:Obj:=jP "constant_text" "constant_text" (bc 32)
noncomputable def VE:Obj:=jC "constant_text" 559 "constant_text" 560 561 213 2 3 307 true 308 (.ref 309) (.ref 310) (.ref 311) 564 565
noncomputable def VF:Obj:=jN "constant_text" "constant_text" (bc 32) .none (jV "clausemill.assembler" 426) 312
noncomputable def VG:Obj:=jT #[(jV "symbols" 570),(jV "functor" 571)]
noncomputable def VH:Obj:=jP "functor_text" "functor_text" (bc 33)
noncomputable def VI:Obj:=jC "functor_text" 567 "functor_text" 568 569 217 2 3 314 true 315 (.ref 316) (.ref 317) (.ref 318) 572 573
noncomputable def VJ:Obj:=jN "functor_text" "functor_text" (bc 33) .none (jV "clausemill.assembler" 426) 319
noncomputable def VK:Obj:=jT #[(jV "symbols" 578),(jV "table" 579),(jV "kind" 580),(jV "words" 581),(jV "key" 582),(jV "text" 583)]
noncomputable def VL:Obj:=jP "table_words" "table_words" (bc 34)
noncomputable def VM:Obj:=jC "table_words" 575 "table_words" 576 577 219 3 3 321 true 322 (.ref 323) (.ref 324) (.ref 325) 584 585
noncomputable def VN:Obj:=jN "table_words" "table_words" (bc 34) .none (jV "clausemill.assembler" 426) 326
noncomputable def VO:Obj:=jT #[(jV "symbols" 590),(jV "ins" 591),(jV "kinds" 592),(jV "words" 593),(jV "place" 594),(jV "kind" 595),(jV "value" 596),(jV "word" 597)]
noncomputable def VP:Obj:=jP "instruction_words" "instruction_words" (bc 35)
noncomputable def VQ:Obj:=jC "instruction_words" 587 "instruction_words" 588 589 229 3 3 328 true 329 (.ref 330) (.ref 331) (.ref 332) 598 599
noncomputable def VR:Obj:=jN "instruction_words" "instruction_words" (bc 35) .none (jV "clausemill.assembler" 426) 333
noncomputable def VS:Obj:=jT #[.int 0 601]
noncomputable def VT:Obj:=jT #[(jV "symbols" 605),(jV "instrs" 606),(jV "base" 607),(jV "table" 608),(jV "rows" 609),(jV "place" 610),(jV "ins" 611)]
noncomputable def VU:Obj:=jP "listing" "listing" (bc 36)
noncomputable def VV:Obj:=jC "listing" 602 "listing" 603 604 246 3 3 336 true 337 (.ref 338) (.ref 339) (.ref 340) 612 613
noncomputable def VW:Obj:=jN "listing" "listing" (bc 36) (.ref 335) (jV "clausemill.assembler" 426) 341
noncomputable def VX:Obj:=jT #[(jV "row" 618),(jV "words" 619),(jV "word" 620)]
noncomputable def VY:Obj:=jP "split_row" "split_row" (bc 37)
noncomputable def VZ:Obj:=jC "split_row" 615 "split_row" 616 617 254 1 3 343 true 344 (.ref 345) (.ref 346) (.ref 347) 621 622
noncomputable def V0:Obj:=jN "split_row" "split_row" (bc 37) .none (jV "clausemill.assembler" 426) 348
noncomputable def V1:Obj:=jT #[(jV "word" 627),(jV "sign" 628),(jV "value" 629),(jV "place" 630),(jV "piece" 631)]
noncomputable def V2:Obj:=jP "read_count" "read_count" (bc 38)
noncomputable def V3:Obj:=jC "read_count" 624 "read_count" 625 626 260 1 3 350 true 351 (.ref 352) (.ref 353) (.ref 354) 632 633
noncomputable def V4:Obj:=jN "read_count" "read_count" (bc 38) .none (jV "clausemill.assembler" 426) 355
noncomputable def V5:Obj:=jT #[(jV "symbols" 638),(jV "word" 639),(jV "value" 640)]
noncomputable def V6:Obj:=jP "read_constant" "read_constant" (bc 39)
noncomputable def V7:Obj:=jC "read_constant" 635 "read_constant" 636 637 271 2 3 357 true 358 (.ref 359) (.ref 360) (.ref 361) 641 642
noncomputable def V8:Obj:=jN "read_constant" "read_constant" (bc 39) .none (jV "clausemill.assembler" 426) 362
noncomputable def V9:Obj:=jT #[(jV "symbols" 647),(jV "word" 648),(jV "place" 649),(jV "atom" 650)]
noncomputable def Wa:Obj:=jP "read_functor" "read_functor" (bc 40)
noncomputable def Wb:Obj:=jC "read_functor" 644 "read_functor" 645 646 280 2 3 364 true 365 (.ref 366) (.ref 367) (.ref 368) 651 652
noncomputable def Wc:Obj:=jN "read_functor" "read_functor" (bc 40) .none (jV "clausemill.assembler" 426) 369
noncomputable def Wd:Obj:=jT #[(jV "word" 657)]
noncomputable def We:Obj:=jP "read_register" "read_register" (bc 41)
noncomputable def Wf:Obj:=jC "read_register" 654 "read_register" 655 656 286 1 3 371 true 372 (.ref 373) (.ref 374) (.ref 375) 658 659
noncomputable def Wg:Obj:=jN "read_register" "read_register" (bc 41) .none (jV "clausemill.assembler" 426) 376
noncomputable def Wh:Obj:=jT #[(jV "symbols" 664),(jV "words" 665),(jV "place" 666),(jV "kind" 667),(jV "table" 668),(jV "word" 669),(jV "cut" 670),(jV "key" 671)]
noncomputable def Wi:Obj:=jP "read_table" "read_table" (bc 42)
noncomputable def Wj:Obj:=jC "read_table" 661 "read_table" 662 663 290 4 3 378 true 379 (.ref 380) (.ref 381) (.ref 382) 672 673
noncomputable def Wk:Obj:=jN "read_table" "read_table" (bc 42) .none (jV "clausemill.assembler" 426) 383
noncomputable def Wl:Obj:=jT #[(jV "symbols" 678),(jV "word" 679),(jV "kind" 680)]
noncomputable def Wm:Obj:=jP "read_operand" "read_operand" (bc 43)
noncomputable def Wn:Obj:=jC "read_operand" 675 "read_operand" 676 677 311 3 3 385 true 386 (.ref 387) (.ref 388) (.ref 389) 681 682
noncomputable def Wo:Obj:=jN "read_operand" "read_operand" (bc 43) .none (jV "clausemill.assembler" 426) 390
noncomputable def Wp:Obj:=jT #[(jV "symbols" 687),(jV "words" 688),(jV "table" 689),(jV "parts" 690),(jV "place" 691),(jV "kind" 692),(jV "pair" 693),(jV "ins" 694)]
noncomputable def Wq:Obj:=jP "read_instruction" "read_instruction" (bc 44)
noncomputable def Wr:Obj:=jC "read_instruction" 684 "read_instruction" 685 686 319 3 3 392 true 393 (.ref 394) (.ref 395) (.ref 396) 695 696
noncomputable def Ws:Obj:=jN "read_instruction" "read_instruction" (bc 44) .none (jV "clausemill.assembler" 426) 397
noncomputable def Wt:Obj:=jT #[(jV "symbols" 701),(jV "rows" 702),(jV "table" 703),(jV "instrs" 704),(jV "base" 705),(jV "place" 706),(jV "words" 707),(jV "address" 708)]
noncomputable def Wu:Obj:=jP "read_listing" "read_listing" (bc 45)
noncomputable def Wv:Obj:=jC "read_listing" 698 "read_listing" 699 700 339 2 3 399 true 400 (.ref 401) (.ref 402) (.ref 403) 709 710
noncomputable def Ww:Obj:=jN "read_listing" "read_listing" (bc 45) .none (jV "clausemill.assembler" 426) 404
noncomputable def Wx:Obj:=jT #[(jV "script" 717),(jV "figures" 718),(jV "mix" 719),(jV "cell" 720),(jV "whole" 721),(jV "rest" 722),(jV "step" 723)]
noncomputable def Wy:Obj:=jP "_law_pool" "_law_pool" (bc 47)
noncomputable def Wz:Obj:=jC "_law_pool" 714 "_law_pool" 715 716 355 1 3 406 true 407 (.ref 408) (.ref 409) (.ref 410) 724 725
noncomputable def WA:Obj:=jN "_law_pool" "_law_pool" (bc 47) .none (jV "law_no0172_02" 712) 411
noncomputable def WB:Obj:=jT #[(jV "pool" 730),(jV "bound" 731),(jV "figure" 732)]
noncomputable def WC:Obj:=jP "_law_pick" "_law_pick" (bc 48)
noncomputable def WD:Obj:=jC "_law_pick" 727 "_law_pick" 728 729 370 2 3 413 true 414 (.ref 415) (.ref 416) (.ref 417) 733 734
noncomputable def WF:Obj:=jN "_law_pick" "_law_pick" (bc 48) .none (jV "law_no0172_02" 712) 418
noncomputable def WG:Obj:=jP "_law_words" "_law_words" (bc 49)
noncomputable def WH:Obj:=jC "_law_words" 736 "_law_words" 737 738 380 1 3 420 true 421 .none .none (.ref 422) 739 740
noncomputable def WI:Obj:=jN "_law_words" "_law_words" (bc 49) .none (jV "law_no0172_02" 712) 423
noncomputable def WK:Obj:=jT #[(jV "pool" 745),(jV "kind" 746),(jV "good" 747),(jV "bad" 748),(jV "wrong" 749),(jV "row" 750),(jV "entries" 751),(jV "first" 752),(jV "stride" 753),(jV "step" 754),(jV "words" 755),(jV "way" 756)]
noncomputable def WM:Obj:=jP "_law_operand" "_law_operand" (bc 50)
noncomputable def WO:Obj:=jC "_law_operand" 742 "_law_operand" 743 744 395 2 3 425 true 426 (.ref 427) (.ref 428) (.ref 429) 757 758
noncomputable def WQ:Obj:=jN "_law_operand" "_law_operand" (bc 50) .none (jV "law_no0172_02" 712) 430
noncomputable def WR:Obj:=jT #[(jV "script" 763),(jV "pool" 764),(jV "book" 765),(jV "forms" 766),(jV "rows" 767),(jV "sound" 768),(jV "base" 769),(jV "step" 770),(jV "parts" 771),(jV "words" 772),(jV "kind" 773),(jV "more" 774),(jV "wrong" 775),(jV "way" 776),(jV "instrs" 777)]
noncomputable def WU:Obj:=jP "law" "law" (bc 51)
noncomputable def WV:Obj:=jC "law" 760 "law" 761 762 419 1 3 432 true 433 (.ref 434) (.ref 435) (.ref 436) 778 779
noncomputable def Ry:Obj:=jN "law" "law" (bc 51) .none (jV "law_no0172_02" 712) 437
noncomputable def T1(P:Params):BT:=(jX (boot_o_0 P) (jX (boot_o_1 P) (jX (UN P) (jX (boot_o_7 P) (jX b9 (jX UL (jX fA (jX Qz (jL U6) (jL Wj)) (jX b9 (jL VI) jE)) (jX Qh (jX QW (jL fA) (jL WB)) (jX b9 (jL fA) jE))) (jX Zd (jX b9 (jX QI (jL Vg) (jL b9)) (jX Rn (jL VS) jE)) (jX b9 (jX fA (jL b9) (jL WQ)) (jX UX (jL b9) jE)))) (jX OB (jX Y8 (jX (P2 P) (jX b9 (jL Vb) (jL Wo)) (jX Rj (jL VN) jE)) (jX Qm (jX b9 (jL Vt) (jL WH)) (jX fA (jL V5) jE))) (jX b9 (jX Qc (jX QO (jL b9) (jL fA)) (jX Rs (jL b9) jE)) (jX fA (jX Q9 (jL VD) jE) (jX b9 (jL We) jE))))) (jX b9 (jX YV (jX Y6 (jX P0 (jX QC (jL fA) (jL Wl)) (jX b9 (jL VK) jE)) (jX Qj (jX b9 (jL Vr) (jL WF)) (jX UQ (jL V3) jE))) (jX (Zi P) (jX b9 (jX fA (jL b9) (jL Wu)) (jX Rp (jL b9) jE)) (jX Qs (jX Q7 (jL b9) (jL b9)) (jX U0 (jL b9) jE)))) (jX Y0 (jX b9 (jX P6 (jX b9 (jL Vd) (jL b9)) (jX fA (jL b9) jE)) (jX b9 (jX Q2 (jL Vw) (jL WK)) (jX UV (jL V8) jE))) (jX PW (jX fA (jX QS (jL Vm) (jL Wz)) (jX b9 (jL VY) jE)) (jX Qx (jX Rc (jL fA) jE) (jX b9 (jL fA) jE)))))) (jX (boot_o_5 P) (jX (boot_o_9 P) (jX YU (jX Y4 (jX b9 (jX QA (jL U8) (jL b9)) (jX Rg (jL b9) jE)) (jX b9 (jX fA (jL b9) (jL WC)) (jX UP (jL b9) jE))) (jX Zg (jX P9 (jX QK (jL fA) (jL Wt)) (jX b9 (jL fA) jE)) (jX Qr (jX b9 (jL VA) (jL fA)) (jX UY (jL Wb) jE)))) (jX b9 (jX Za (jX P4 (jX QF (jL b9) (jL fA)) (jX Rl (jL fA) jE)) (jX fA (jX Q1 (jL Vu) (jL b9)) (jX b9 (jL V6) jE))) (jX b9 (jX Qe (jX QQ (jL Vl) (jL b9)) (jX fA (jL VX) jE)) (jX b9 (jX Ra (jL VF) jE) (jX U3 (jL Wg) jE))))) (jX TC (jX YX (jX (Y7 P) (jX b9 (jX fA (jL b9) (jL Wm)) (jX Ri (jL VL) jE)) (jX Qk (jX QZ (jL b9) (jL fA)) (jX US (jL b9) jE))) (jX Zj (jX Qb (jX b9 (jL Vj) (jL Ww)) (jX Rq (jL VV) jE)) (jX Qu (jX b9 (jL VC) (jL WV)) (jX fA (jL Wd) jE)))) (jX b9 (jX Zc (jX fA (jX QH (jL Ve) (jL Wr)) (jX b9 (jL VQ) jE)) (jX Qp (jX Q4 (jL fA) (jL WM)) (jX b9 (jL fA) jE))) (jX PY (jX b9 (jX QU (jL Vo) (jL b9)) (jX Rv (jL V0) jE)) (jX b9 (jX fA (jL b9) jE) (jX U5 (jL b9) jE))))))) (jX (YT P) (jX (boot_o_4 P) (jX (boot_o_8 P) (jX fA (jX Y3 (jX b9 (jX b9 (jL U7) (jL Wk)) (jX Rf (jL VJ) jE)) (jX Qi (jX b9 (jL Vp) (jL b9)) (jX fA (jL V1) jE))) (jX Ze (jX P8 (jX QJ (jL b9) (jL fA)) (jX Ro (jL b9) jE)) (jX fA (jX Q5 (jL Vz) (jL b9)) (jX b9 (jL Wa) jE)))) (jX (YZ P) (jX Y9 (jX b9 (jX QE (jL Vc) (jL b9)) (jX Rk (jL b9) jE)) (jX b9 (jX fA (jL b9) (jL WI)) (jX UT (jL b9) jE))) (jX fA (jX Qd (jX QP (jL fA) (jL Wx)) (jX b9 (jL fA) jE)) (jX Qv (jX b9 (jL VE) jE) (jX U2 (jL Wf) jE))))) (jX UO (jX YW (jX OB (jX P1 (jX b9 (jL U9) (jL b9)) (jX fA (jL b9) jE)) (jX b9 (jX QY (jL Vs) (jL b9)) (jX UR (jL V4) jE))) (jX UM (jX fA (jX QM (jL Vi) (jL Wv)) (jX b9 (jL VU) jE)) (jX Qt (jX Q8 (jL fA) (jL WU)) (jX b9 (jL fA) jE)))) (jX Y1 (jX fA (jX b9 (jX fA (jL b9) (jL Wq)) (jX b9 (jL VP) jE)) (jX Qo (jX Q3 (jL b9) (jL b9)) (jX UW (jL b9) jE))) (jX PX (jX Qf (jX QT (jL Vn) (jL WA)) (jX Ru (jL VZ) jE)) (jX Qy (jX b9 (jL VG) jE) (jX fA (jL Wh) jE)))))) (jX (boot_o_6 P) (jX (boot_o_10 P) (jX b9 (jX Y5 (jX PZ (jX QB (jL b9) (jL fA)) (jX Rh (jL fA) jE)) (jX fA (jX QX (jL Vq) (jL WD)) (jX b9 (jL V2) jE))) (jX Zh (jX Qa (jX b9 (jL Vh) (jL b9)) (jX fA (jL VT) jE)) (jX b9 (jX Q6 (jL VB) (jL WR)) (jX UZ (jL Wc) jE)))) (jX fA (jX Zb (jX P5 (jX QG (jL fA) (jL Wp)) (jX b9 (jL VO) jE)) (jX Qn (jX b9 (jL Vv) (jL fA)) (jX UU (jL V7) jE))) (jX b9 (jX b9 (jX (QR P) (jL b9) (jL Wy)) (jX Rt (jL b9) jE)) (jX Qw (jX Rb (jL b9) jE) (jX U4 (jL b9) jE))))) (jX TD (jX YY (jX b9 (jX OB (jX QD (jL Va) (jL Wn)) (jX b9 (jL VM) jE)) (jX Ql (jX Q0 (jL fA) (jL WG)) (jX b9 (jL fA) jE))) (jX Zk (jX b9 (jX QN (jL Vk) (jL b9)) (jX Rr (jL VW) jE)) (jX b9 (jX fA (jL b9) (jL Ry)) (jX U1 (jL b9) jE)))) (jX (Y2 P) (jX b9 (jX P7 (jX b9 (jL Vf) (jL Ws)) (jX Rm (jL VR) jE)) (jX Qq (jX b9 (jL Vy) (jL WO)) (jX fA (jL V9) jE))) (jX b9 (jX Qg (jX QV (jL b9) (jL fA)) (jX Rw (jL b9) jE)) (jX fA (jX Rd (jL VH) jE) (jX b9 (jL Wi) jE))))))))
noncomputable def Ha(P:Params):Heap:=⟨#[boot_o_0 P,boot_o_1 P,boot_o_2 P,boot_o_3 P,boot_o_4 P,boot_o_5 P,boot_o_6 P,boot_o_7 P,boot_o_8 P,boot_o_9 P,boot_o_10 P,b9,fA,TC,TD],{}⟩
end
noncomputable def By:Env:={scope:=dX.main.scope,locals:=mainNs,globals:=mainNs,cells:=[],code:= .ref 13,frame:=some 14}
noncomputable def p0:Pos:=⟨0,0,0,0⟩
noncomputable def cM:Code:= .body (behindTheImports dX) By
noncomputable def OC(T:Params->BT)(n k:Nat)(w:World)(os:OsState):SharedT:=⟨T w.params,n,{},#[],{},k,os⟩
theorem zT(w:World)(n:Nat)(S:SharedT)(t:Thread):segRunT treeTable dX w 11 (some (.ref 6)) 1 n S t=Fast.tw10110043849684766642 Fast.tw14364793385576792824 dX w 11 (some (.ref 6)) 1 n S t:=by
 rw[Fast.te10110043849684766642,i4]
theorem g0(w:World):(λos=>segRunT treeTable dX w 11 (some (.ref 6)) 1 1391 (OC Tb 15 187 w os) (piecesOf (((behindTheImports dX).drop 0).take 20) By cM p0 [topFrame p0]))=λos=>some (.next,OC T0 223 448 w os,cM,⟨103,0,104,55⟩):=
 (funext λos=>zT w _ _ _).trans (by rfl')
theorem g1(w:World):(λos=>segRunT treeTable dX w 11 (some (.ref 6)) 1 1022 (OC T0 223 448 w os) (piecesOf (((behindTheImports dX).drop 20).take 32) By cM ⟨103,0,104,55⟩ [topFrame p0]))=λos=>some (.next,OC T1 439 781 w os,cM,⟨419,0,451,56⟩):=
 (funext λos=>zT w _ _ _).trans (by rfl')
noncomputable def H1(P:Params):Heap:=absHeap (T1 P) 439 {}
theorem WW(w:World):(λos=>topGo treeTable dX w 11 (some (.ref 6)) 12 ⟨boot_heap w.params,#[],boot_drawn,boot_toks,os⟩ (topStub dX))=λos=>some (⟨Ha w.params,#[],{},187,os⟩,⟨denote treeTable cM,cM,p0,[topFrame p0]⟩):=by
 rw[Fast.te15667345088766844465,i4,Fast.te11892475500146522536];kernel_rfl
theorem M4(w:World):(λos=>segRun treeTable dX w 11 (some (.ref 6)) 1 1 ⟨Ha w.params,#[],{},187,os⟩ (blockOf (behindTheImports dX) By cM p0 [topFrame p0]))=λos=>some (.next,(OC Tb 15 187 w os).abs,cM,p0):=by
 rw[Fast.te14374325043358763698,i4];kernel_rfl
theorem WX(w:World):(λos=>topRun treeTable dX w 11 (some (.ref 6)) 2 (OC T1 439 781 w os).abs ⟨doneF .next,cM,⟨419,0,451,56⟩,[topFrame p0]⟩)=λos=>some ⟨H1 w.params,#[],{},781,os⟩:=by
 rw[Fast.te14082659384304107361,i4];kernel_rfl
theorem xt{w:World}{S S':SharedT}{r:Shared}{i k n N:Nat}{p p':Pos}(g:segRunT treeTable dX w 11 (some (.ref 6)) 1 n S (piecesOf (((behindTheImports dX).drop i).take k) By cM p [topFrame p0])=some (.next,S',cM,p'))
 (h:topRun treeTable dX w 11 (some (.ref 6)) N S'.abs (restOf ((behindTheImports dX).drop (i+k)) By cM p' [topFrame p0])=some r):topRun treeTable dX w 11 (some (.ref 6)) (n+N) S.abs (restOf ((behindTheImports dX).drop i) By cM p [topFrame p0])=some r:=by
 have:=piece_app (rest:=(behindTheImports dX).drop (i+k)) (segRun_of g) h
 rwa[<-List.drop_drop,fT]at this
theorem WY(w:World)(os:OsState):topRun treeTable dX w 11 (some (.ref 6)) 2428 ⟨boot_heap w.params,#[],boot_drawn,boot_toks,os⟩ (topStub dX)=some ⟨H1 w.params,#[],{},781,os⟩:=
 go_top (N:=2416) (congrFun (WW w) os) (piece_block (N:=2415) (congrFun (M4 w) os) (xt (i:=0) (N:=1024) (congrFun (g0 w) os) (xt (N:=2) (congrFun (g1 w) os) (piece_nil (congrFun (WX w) os)))))
section
noncomputable def wy:Program:={dX with main:={dX.main with body:=[bc 51]}}
noncomputable def sX:List Str:=(dX.main.scope.names.map (·.1)).filter (λx=>x !=("law":Str))
theorem Rz:∀w:World,(fencedOpening treeTable dX w 4000).map (λs=>(s.heap,s.gens,s.drawn,s.toks))=some (boot_heap w.params,#[],boot_drawn,boot_toks):=
 boot_open (by rfl') (by decide) (λs=>by rfl)
theorem RA:∀w:World,((boot_heap w.params).isNs mainGlobals&&(#[]:Array GenState).size==0,(boot_heap w.params).objs.size,(boot_heap w.params).nsMap mainGlobals "__annotations__")=(true,11,some (.ref 6)):=λw=>by
 kernel_rfl
theorem RB(w:World):(λos:OsState=>(staticsOk (importedModules dX.main.body) (boot_heap w.params) (H1 w.params)&&namesBound dX (H1 w.params)&&gensDone ⟨H1 w.params,#[],{},781,os⟩&&laidKept (boot_heap w.params) (H1 w.params)))=λ_=>true:=by
 kernel_rfl
end
theorem RC(w:World):(λos:OsState=>openSeen wy sX (importedModules dX.main.body) (λ_=>true) true ⟨H1 w.params,#[],{},781,os⟩)=λ_=>openGood wy sX:=by
 rw[Fast.te4187177175401517315]
 kernel_rfl
theorem RD:LeftO dX wy sX (λ_=>true) Shared.heap (λw=>H1 w.params) 4000:=
 LeftO.of_pieces (M:=2428) Rz RA (λw os=>WY w os) (by rfl) λw=>funext λos=>congr (congrArg Prod.mk (congrFun (RB w) os)) (congr (congrArg Prod.mk (congrFun (RC w) os)) rfl)
theorem M5(call:WalkO wy sX (λ_ _=>True) (λw h=>∀b o,(H1 w.params).get? b=some o->h.get? b=some o) PySem.Challenge.rw_no0172_02.row.toRowW ((defOf wy "law").get (by rfl)).1 ((defOf wy "law").get (by rfl)).2 λf vs=>PySem.call f vs):PySem.Challenge.rw_no0172_02.Holds:=by
 refine holds_law (by rw[Fast.te9446332074065402090];kernel_rfl) λWZ=> ?_
 refine holds_open (q:=wy) (loose:=sX) (Xt:=λ_=>true) (XP:=λ_ _=>True) (Yf:=Shared.heap) (Ya:=λw=>H1 w.params) (YP:=λw h=>∀b o,(H1 w.params).get? b=some o->h.get? b=some o) (N:=4000) RD
  (λw s e b o h=>by rw[e];exact h) (λw h h' a k b o e=>k b o (a b o e)) (λ_ _=>trivial) (λ_ _ _ _ _=>trivial) (by rfl) (by rfl) (by rfl) (λs _=>recFacts_of (by rfl)) (by rfl) WZ (by decide+kernel) ⟨rfl,rfl,rfl,rfl,rfl,by decide+kernel⟩ ?_ call
 exact⟨[WData.list [.int 3]],by decide+kernel,by decide+kernel⟩
theorem kx{P:Params}{a:Nat}{o:Obj}(h:Nat.blt a 439=true)(g:(T1 P).get a=some o)(al:alive o=some o):(H1 P).get? a=some o:=(abs_get (fQ.mp h) g).trans al
theorem zU{o:Obj}(h:∀x:Unit,o.data≠ .freed):alive o=some o:=by
 obtain⟨c,d,dt,sl⟩:=o
 cases dt<;>first|rfl|exact absurd rfl (h ())
noncomputable def RE(F:Fn):Bool:=decide F.names.Nodup&&F.names.all (λx=>F.scope.names.lookup x==some .local&& !(x==("__debug__":Str)))&&F.scope.names.all (λx=>x.2 != .cell)&&F.scope.kind== .function&& !F.scope.isCoroutine&& !F.scope.isGenerator&&Nat.ble F.np F.names.length&&Nat.ble F.np 4
noncomputable def W0(o:Option Obj):Option FuncData:=match o with|some ⟨_,_,.func fd,_⟩=>some fd|_=>none
noncomputable def W3(o:Option Obj):Array Value:=match o with|some ⟨_,_,.fields vs,_⟩=>vs|_=>#[]
noncomputable def zV(P:Params)(F:Fn):FuncData:=(W0 ((T1 P).get F.f)).getD default
noncomputable def RF(v:Option Value):Tok:=match v with|some (.str _ t)=>t|_=>0
noncomputable def Jj(P:Params)(F:Fn):Array Value:=W3 ((T1 P).get (F.f-1))
noncomputable def look(P:Params)(F:Fn):=(((T1 P).get F.f).map Obj.data,Nat.blt F.f 439,(zV P F).body,(zV P F).scope,(λL=>callEnv (zV P F) L F.f),F.cd,((T1 P).get (F.f-1)).map Obj.data,(Jj P F)[1]?,(zV P F).code,(zV P F).qualname,RE F)
noncomputable def RG(P:Params)(F:Fn):Option Data×Bool×FuncBody×Scope×(Addr->Env)×Value×Option Data×Option Value×Value×Str×Bool:=(some (.func (zV P F)),true,.stmts F.body,F.scope,(λL=>envOf F.qual F.scope L F.f F.cd),.ref (F.f-1),some (.fields (Jj P F)),some (.str F.qual (RF (Jj P F)[1]?)),F.cd,F.qual,true)
noncomputable def Go(P:Params)(F:Fn)(a b c d:Value):=bindArgs (zV P F) ⟨[a,b,c,d].take F.np,[]⟩
noncomputable def Gp(F:Fn)(a b c d:Value):Sem (List (Str×Value)):=pure ((F.names.take F.np).zip ([a,b,c,d].take F.np))
theorem RH{α:Type}{M:List α->Prop}(h:M [])(vs:List α)(e:vs.length=0):M vs:=List.eq_nil_of_length_eq_zero e▸h
theorem Gq{α:Type}{M:List α->Prop}{n:Nat}(h:∀a w,w.length=n->M (a::w))(vs:List α):vs.length=n+1->M vs:=by
 cases vs with
 |nil=>exactλe=>(Nat.succ_ne_zero _ e.symm).elim
 |cons a w=>exactλe=>h a w (Nat.succ.inj e)
theorem W4:∀vs:List Value,vs.length<=4->∃a b c d,[a,b,c,d].take vs.length=vs
 |[],_=>⟨.none,.none,.none,.none,rfl⟩
 |[a],_=>⟨a,.none,.none,.none,rfl⟩
 |[a,b],_=>⟨a,b,.none,.none,rfl⟩
 |[a,b,c],_=>⟨a,b,c,.none,rfl⟩
 |[a,b,c,d],_=>⟨a,b,c,d,rfl⟩
 |_::_::_::_::_::_,h=>absurd h (by simp)
theorem Gr{C:Ctx}{P:Params}(hC:∀b o,(H1 P).get? b=some o->C.B.get? b=some o)(F:Fn)(l:look P F=RG P F)
 (bind:Nat.ble F.np 4=true->∀s,C.B.StaysIn s.heap->∀vs,vs.length=F.np->BindsTo s (zV P F) ⟨vs,[]⟩ ((F.names.take F.np).zip vs)):FnAt C F:=
 let l2:=congrArg (·.2) l;let l3:=congrArg (·.2) l2;let l4:=congrArg (·.2) l3;let l5:=congrArg (·.2) l4;let l6:=congrArg (·.2) l5;let l7:=congrArg (·.2) l6;let l8:=congrArg (·.2) l7;let l9:=congrArg (·.2) l8;let l0:=congrArg (·.2) l9
 have hF:Nat.blt F.f 439=true:=congrArg (·.1) l2
 have k:RE F=true:=congrArg (·.2) l0
 (ai.mp (congrArg (·.1) l)).elim λo h=>(ai.mp (congrArg (·.1) l7)).elim λoc h'=>
 have k2:=λx hx=>au.mp (aB.mp (e6 (dm (dm (dm (dm (dm (dm k))))))) x hx)
 ⟨⟨_,o,hC _ _ (kx hF h.1 (zU λ_=>by rw[h.2];nofun)),h.2,congrArg (·.1) l3,congrArg (·.1) l4,congrFun (congrArg (·.1) l5),⟨F.f-1,oc,Jj P F,_,(congrArg (·.1) l9).trans (congrArg (·.1) l6),
  hC _ _ (kx (fQ.mpr (ak (Nat.sub_le _ _) (fQ.mp hF))) h'.1 (zU λ_=>by rw[h'.2];nofun)),h'.2,(congrArg (·.1) l8).trans (congrArg (λq=>some (Value.str q _)) (congrArg (·.1) l0).symm)⟩,λs vs k' h=>bind (e6 k) s k' vs h⟩,
  of_decide_eq_true (dm (dm (dm (dm (dm (dm (dm k))))))),λx hx=>beq_iff_eq.mp (k2 x hx).1,λx hx=>bne_iff_ne.mp (aB.mp (e6 (dm (dm (dm (dm (dm k)))))) x hx),beq_iff_eq.mp (e6 (dm (dm (dm (dm k))))),
  Ot (e6 (dm (dm (dm k)))),Ot (e6 (dm (dm k))),a5 (e6 (dm k)),λx hx=>Ot (k2 x hx).2⟩
theorem eF{C:Ctx}{P:Params}(hC:∀b o,(H1 P).get? b=some o->C.B.get? b=some o)(F:Fn)(l:(look P F,Go P F)=(RG P F,Gp F)):FnAt C F:=
 Gr hC F (congrArg Prod.fst l) λk8 s _ vs h=>by
  obtain⟨a,b,c,d,e⟩:=W4 vs (h▸a5 k8)
  have l4:Go P F a b c d=Gp F a b c d:=congrFun (congrFun (congrFun (congrFun (congrArg Prod.snd l) a) b) c) d
  unfold Go Gp at l4
  rw[<-h,e]at l4
  exact .of_eq (h▸l4)
section
variable{C:Ctx}{P:Params}(hC:∀b o,(H1 P).get? b=some o->C.B.get? b=some o)
include hC
theorem En:FnAt C dz:=Gr hC _ (by rfl') λ_ s k=>Gq λa=>Gq λb=>Gq λc=>RH
 (BindsTo.of_defaults (T:=335) rfl (k _ _ (hC _ _ (kx rfl rfl rfl))) rfl rfl rfl)
theorem sY:FnAt C fw:=Gr hC _ (by rfl') λ_ s k=>Gq λa=>Gq λb=>RH
 (BindsTo.of_defaults (T:=42) rfl (k _ _ (hC _ _ (kx rfl rfl rfl))) rfl rfl rfl)
end
noncomputable def KF(P:Params):Frag:=[3,30,31,49,51,52,82,89,96,103,110,117,124,154,155].map λa=>(a,((T1 P).get a).getD default)
theorem RI{P:Params}{h:Heap}(hC:∀b o,(H1 P).get? b=some o->h.get? b=some o):(KF P).In h:=Frag.In.keeps (Frag.in_of (h:=H1 P) (as:=[3,30,31,49,51,52,82,89,96,103,110,117,124,154,155]) (by rfl') (by rfl')) hC
noncomputable def RJ(P:Params)(a:Nat):ClassData:=match(T1 P).get a with|some ⟨_,_,.cls c,_⟩=>c|_=>default
theorem Lm{h:Heap}{a:Nat}{m m':Str->Option Value}(x:h.Ns a m)(y:h.Ns a m')(n:Str):m n=m' n:=by
 obtain⟨o,es,ep,e1,e2,e3,e4⟩:=x
 obtain⟨o',I8,YK,f1,f2,f3,f4⟩:=y
 rw[e1]at f1;cases f1;rw[e2]at f2;cases f2
 rw[<-e4,<-f4]
noncomputable def Gs(P:Params)(a:Nat):Array DictEntry:=match(T1 P).get a with|some ⟨_,_,.dict es _,_⟩=>es|_=>#[]
noncomputable def C9(o:Option Obj):Bool:=match o with|some ⟨_,_,.dict es _,_⟩=>es.toList.all (λe=>match e.key with|.str .. =>true|_=>false)|_=>false
theorem Jk{P:Params}{h:Heap}(hC:∀b o,(H1 P).get? b=some o->h.get? b=some o){a:Nat}(ha:Nat.blt a 439=true)(k:C9 ((T1 P).get a)=true):h.Ns a (nsFind (Gs P a)):=by
 unfold C9 at k
 split at k
 ·rename_i es n _ g
  refine⟨_,es,n,hC _ _ (kx ha g rfl),rfl,λe he=> ?_,λ_=>by unfold Gs;rw[g]⟩
  have:=aB.mp k e (Array.mem_toList_iff.mpr he)
  obtain⟨hh,kk,vv⟩:=e
  cases kk<;>first|exact⟨_,_,rfl⟩|cases this
 ·cases k
theorem ds{P:Params}{C:Ctx}(hC:∀b o,(H1 P).get? b=some o->C.B.get? b=some o)(G:C.B.Ns mainGlobals C.mg){x:Str}{r:Option Value}(e:nsFind (Gs P 3) x=r):C.mg x=r:=
 (Lm G (Jk hC (a:=3) (by decide) (by rfl')) x).trans e
theorem po{C:Ctx}{P:Params}(hC:∀b o,(H1 P).get? b=some o->C.B.get? b=some o)(G:dh C)(hb:∀x:Str,x≠"__name__"->C.mb x=bootBuiltins x)(Gu:C.lf=52):PO C (KF P) (RJ P 155) (RJ P 52)where
 G:=G
 mc:=sY hC
 pZ:=eF hC _ (by rfl')
 p7:=ds hC G.hU (by rfl')
 me:=eF hC _ (by rfl')
 mf:=ds hC G.hU (by rfl')
 oH:=eF hC _ (by rfl')
 gF:=eF hC _ (by rfl')
 oJ:=eF hC _ (by rfl')
 gd:=eF hC _ (by rfl')
 oK:=eF hC _ (by rfl')
 oM:=eF hC _ (by rfl')
 nc:=eF hC _ (by rfl')
 u3:=eF hC _ (by rfl')
 u4:=ds hC G.hU (by rfl')
 qC:=eF hC _ (by rfl')
 qD:=ds hC G.hU (by rfl')
 rG:=eF hC _ (by rfl')
 rH:=ds hC G.hU (by rfl')
 u5:=eF hC _ (by rfl')
 u6:=ds hC G.hU (by rfl')
 p8:=eF hC _ (by rfl')
 p9:=ds hC G.hU (by rfl')
 ng:=eF hC _ (by rfl')
 nh:=ds hC G.hU (by rfl')
 zK:=eF hC _ (by rfl')
 zL:=ds hC G.hU (by rfl')
 u7:=eF hC _ (by rfl')
 u8:=ds hC G.hU (by rfl')
 xn:=eF hC _ (by rfl')
 xo:=ds hC G.hU (by rfl')
 qa:=eF hC _ (by rfl')
 qb:=ds hC G.hU (by rfl')
 qc:=eF hC _ (by rfl')
 qd:=ds hC G.hU (by rfl')
 rJ:=eF hC _ (by rfl')
 rK:=ds hC G.hU (by rfl')
 tA:=eF hC _ (by rfl')
 tB:=ds hC G.hU (by rfl')
 zM:=eF hC _ (by rfl')
 zN:=ds hC G.hU (by rfl')
 u9:=eF hC _ (by rfl')
 vf:=ds hC G.hU (by rfl')
 rL:=eF hC _ (by rfl')
 rM:=ds hC G.hU (by rfl')
 tC:=eF hC _ (by rfl')
 tD:=ds hC G.hU (by rfl')
 qe:=eF hC _ (by rfl')
 qf:=ds hC G.hU (by rfl')
 qg:=eF hC _ (by rfl')
 qh:=ds hC G.hU (by rfl')
 tF:=eF hC _ (by rfl')
 tG:=ds hC G.hU (by rfl')
 ni:=eF hC _ (by rfl')
 nn:=ds hC G.hU (by rfl')
 nq:=eF hC _ (by rfl')
 nr:=ds hC G.hU (by rfl')
 oN:=eF hC _ (by rfl')
 oP:=ds hC G.hU (by rfl')
 qi:=eF hC _ (by rfl')
 qj:=ds hC G.hU (by rfl')
 jW:=eF hC _ (by rfl')
 jY:=ds hC G.hU (by rfl')
 xp:=En hC
 xq:=ds hC G.hU (by rfl')
 tH:=eF hC _ (by rfl')
 tI:=ds hC G.hU (by rfl')
 rN:=eF hC _ (by rfl')
 rO:=ds hC G.hU (by rfl')
 nu:=eF hC _ (by rfl')
 nv:=ds hC G.hU (by rfl')
 oQ:=eF hC _ (by rfl')
 oU:=ds hC G.hU (by rfl')
 ny:=eF hC _ (by rfl')
 nz:=ds hC G.hU (by rfl')
 rP:=eF hC _ (by rfl')
 rQ:=ds hC G.hU (by rfl')
 oV:=eF hC _ (by rfl')
 oW:=ds hC G.hU (by rfl')
 kp:=eF hC _ (by rfl')
 kq:=ds hC G.hU (by rfl')
 oY:=eF hC _ (by rfl')
 oZ:=ds hC G.hU (by rfl')
 vg:=eF hC _ (by rfl')
 vh:=ds hC G.hU (by rfl')
 vj:=eF hC _ (by rfl')
 vk:=ds hC G.hU (by rfl')
 tJ:=eF hC _ (by rfl')
 tL:=ds hC G.hU (by rfl')
 qk:=eF hC _ (by rfl')
 ql:=ds hC G.hU (by rfl')
 Lh:=ds hC G.hU (by rfl')
 Li:=ds hC G.hU (by rfl')
 xr:=ds hC G.hU (by rfl')
 k6:=(ds hC G.hU (by rfl')).trans (by rw[Gu])
 Lj:=ds hC G.hU (by rfl')
 Lk:=(hb _ (by decide)).trans (by rfl')
 Gj:=ds hC G.hU (by rfl')
 Gk:=(hb _ (by decide)).trans (by rfl')
 zO:=ds hC G.hU (by rfl')
 zP:=(hb _ (by decide)).trans (by rfl')
 rR:=ds hC G.hU (by rfl')
 rS:=(hb _ (by decide)).trans (by rfl')
 rT:=ds hC G.hU (by rfl')
 rU:=(hb _ (by decide)).trans (by rfl')
 m_ord:=ds hC G.hU (by rfl')
 Ll:=(hb _ (by decide)).trans (by rfl')
 Gl:=ds hC G.hU (by rfl')
 Gm:=(hb _ (by decide)).trans (by rfl')
 vl:=ds hC G.hU (by rfl')
 vm:=(hb _ (by decide)).trans (by rfl')
 CW:=ds hC G.hU (by rfl')
 CX:=(hb _ (by decide)).trans (by rfl')
 ya:=ds hC G.hU (by rfl')
 yb:=(hb _ (by decide)).trans (by rfl')
 vo:=ds hC G.hU (by rfl')
 vp:=(hb _ (by decide)).trans (by rfl')
 CY:=ds hC G.hU (by rfl')
 CZ:=(hb _ (by decide)).trans (by rfl')
 rV:=ds hC G.hU (by rfl')
 rW:=(hb _ (by decide)).trans (by rfl')
 hX:=RI hC
 oS:=⟨by rfl',rfl,by rfl',by rfl',by rfl',by rfl'⟩
 oL:=by rw[Gu];exact⟨by rfl',rfl,by rfl',rfl,by rfl',λself=>by rfl'⟩
 C0:=by rw[Gu];kernel_rfl
 exc:= .mk (N:=51) (mN:=nsFind (Gs P 51)) (by rw[Gu];exact hC _ _ (kx (o:=UM) rfl rfl rfl)) (Jk hC (a:=51) (by decide) (by rfl')) (by rfl') (.own (A:=31) (mA:=nsFind (Gs P 30)) (hC _ _ (kx (o:=UL) rfl rfl rfl)) (Jk hC (a:=30) (by decide) (by rfl')) (by rfl') .base) (hC _ _ (kx rfl rfl rfl)) rfl (by decide)
 rX:=by rfl'
 zQ:=by rfl'
 jM:=by rfl'
 nA:=by rfl'
 jw:=by rfl'
 tM:=by rfl'
 ir:=by rfl'
 kr:=by rfl'
 C1:=by rfl'
 C2:=by rfl'
 rY:=by rfl'
 rZ:=by rfl'
 C3:=by rfl'
 C4:=by rfl'
 mI:=by rfl'
 mJ:=by rfl'
 C5:=by rfl'
 C6:=by rfl'
 C7:=by rfl'
 C8:=by rfl'
 zR:=by rfl'
 zS:=by rfl'
 YS:=by rfl'
 PU:=⟨_,_,_,_,_,_,_,_,_,_,_,_,_,_,_,_,_,hC _ _ (kx rfl rfl rfl)⟩
section
variable{C:Ctx}{K:Frag}{bN bO:ClassData}{lv:Nat}{σ:St}{Q:PV->St->Prop}{X:Prop}
noncomputable def pK(c:Int):Bool:=decide (48<=c)&&decide (c<=57)
noncomputable def ge(c:Int):Bool:=decide (97<=c)&&decide (c<=122)
noncomputable def jl(c:Int):Bool:=decide (65<=c)&&decide (c<=90)
noncomputable def j2(c:Int):Bool:=ge c||jl c||pK c||decide (c=95)
theorem yc(v:Int):(if v<0 then-v else v)=((v.natAbs:Nat):Int):=by split<;>omega
noncomputable def f0:List Nat->Bool
 |[]=>false
 |c::cs=>ge c&&(c::cs).all λd=>j2 (d:Nat)
noncomputable def qE(kvs:List ((Int×Int)×Int)):List (List Int×Int):=kvs.map λp=>([p.1.1,p.1.2],p.2)
theorem Eo{kvs:List ((Int×Int)×Int)}(h:(kvs.map (·.1)).Nodup):((qE kvs).map (·.1)).Nodup:=by
 unfold qE
 rw[bU,show((λx=>x.1)∘λ(p:(Int×Int)×Int)=>([p.1.1,p.1.2],p.2))=(λ(q:Int×Int)=>[q.1,q.2])∘(·.1)from rfl,<-bU]
 exact List.Pairwise.map _ (λa b iI e=>iI (by simp at e;exact Prod.ext e.1 e.2)) h
theorem zW{kvs:List ((Int×Int)×Int)}(h:(kvs.map (·.1)).Nodup){k:Nat}{p:(Int×Int)×Int}(hp:kvs[k]?=some p):bT (qE kvs) [p.1.1,p.1.2]=some p.2:=
 rD (Eo h) (bn.2 ⟨p,aT hp,rfl⟩)
noncomputable def Jl(p:(Int×Int)×Int):Bool:=decide (p.1.1=4\/p.1.1=5)&&decide (0<=p.2)
noncomputable def Jm(p:Int×Int):Bool:=decide (0<=p.1)&&decide (0<=p.2)
inductive dA where
 |E6 (x:Str) (n:Int)
 |con (k n:Int)
 |num (n:Int)
 |eg (kvs:List ((Int×Int)×Int))
 |tabI (kvs:List (Int×Int))
noncomputable def dA.pv:dA->PV
 |.E6 x n=> .tup [.str x,.int n]
 |.con k n=> .tup [.int k,.int n]
 |.num n=> .int n
 |.eg kvs=> .eg (qE kvs)
 |.tabI kvs=> .tabI kvs
noncomputable def dA.fits(k:Str):dA->Prop
 |.E6 _ _=>k="R"\/k="X"\/k="Y"
 |.con _ _=>k="C"
 |.num _=>k="F"\/k="N"\/k="L"
 |.eg kvs=>k="T"/\(kvs.map (·.1)).Nodup
 |.tabI kvs=>k="U"/\(kvs.map (·.1)).Nodup
noncomputable def Gv(k:Str):List Str:=if k="R" then["x","y"]else if k="X" then["x"]else["y"]
noncomputable def dA.ok(k:Str):dA->Bool
 |.E6 x n=>decide (x∈Gv k)&&decide (1<=n)
 |.con c _=>decide (c=4\/c=5)
 |.num n=>decide (0<=n)
 |.eg kvs=>kvs.all Jl
 |.tabI kvs=>kvs.all Jm
noncomputable def mK:List Nat->List dA->Prop
 |[],[]=>True
 |k::ks,o::os=>o.fits (mk [k])/\mK ks os
 |_,_=>False
noncomputable def fX:List Nat->List dA->Bool
 |k::ks,o::os=>o.ok (mk [k])&&fX ks os
 |_,_=>true
theorem sZ{α β:Type}[DecidableEq α]{γ:Type}(f:β->γ)(kvs:List (α×β))(k:α):bT (kvs.map λp=>(p.1,f p.2)) k=(bT kvs k).map f:=by
 induction kvs with
 |nil=>rfl
 |cons p r ih=>
  obtain⟨a,b⟩:=p
  simp only[aP,bT,List.find?_cons]at ih⊢
  by_cases e:a=k
  ·simp[e]
  ·simp only[e,decide_false];exact ih
theorem gG:∀{ks:List Nat} {os:List dA},mK ks os->os.length=ks.length
 |[],[],_=>rfl
 |k::ks,o::os,h=>by rw[ay,ay,gG h.2]
theorem tO:∀{ks:List Nat} {os:List dA},mK ks os->∀{i:Nat} {k:Nat} {o:dA},ks[i]?=some k->os[i]?=some o->o.fits (mk [k])
 |k::ks,o::os,h,i,k',o',hk,ho=>by
  cases i with
  |zero=>simp at hk ho;subst hk;subst ho;exact h.1
  |succ n=>exact tO h.2 (by simpa using hk) (by simpa using ho)
noncomputable def ky(n:Nat):Nat:=if n<10 then 48+n else 87+n
noncomputable def Ep(k:Nat):Nat->List Nat:=Nat.rec (λn=>[ky n]) (λ_ r n=>if n<16 then[ky n]else r (n/16)++[ky (n%16)]) k
theorem Ln:∀k m n,n<=k->n<=m->Ep k n=Ep m n
 |0,0,_,_,_=>rfl
 |0,m+1,n,h,_=>by rw[Nat.le_zero.mp h];rfl
 |k+1,0,n,_,h=>by rw[Nat.le_zero.mp h];rfl
 |k+1,m+1,n,h,h'=>by
  show(if n<16 then[ky n]else Ep k (n/16)++[ky (n%16)])=if n<16 then[ky n]else Ep m (n/16)++[ky (n%16)]
  split
  ·rfl
  ·rename_i q
   have:=Nat.div_lt_self (av (by decide) (cq q)) (by decide:1<16)
   rw[Ln k m (n/16) (gu (av this h)) (gu (av this h'))]
noncomputable def mL(n:Nat):List Nat:=Ep n n
theorem Db:∀n:Nat,mL n=if n<16 then[ky n]else mL (n/16)++[ky (n%16)]
 |0=>rfl
 |n+1=>by
  show(if n+1<16 then[ky (n+1)]else Ep n ((n+1)/16)++[ky ((n+1)%16)])=_
  split
  ·rfl
  ·rename_i q
   have:=Nat.div_lt_self (av (by decide) (cq q)) (by decide:1<16)
   rw[mL,Ln n _ _ (gu this) (aj _)]
theorem Gw:L (Str.ofString "0123456789abcdef")=[48,49,50,51,52,53,54,55,56,57,97,98,99,100,101,102]:=by ac_rfl
theorem zX{i:Nat}(h:i<16):(L (Str.ofString "0123456789abcdef"))[i]?=some (ky i):=by
 rw[Gw]
 have:∀j:Fin 16,([48,49,50,51,52,53,54,55,56,57,97,98,99,100,101,102]:List Nat)[j.val]?=some (ky j.val):=by decide
 exact this ⟨i,h⟩
theorem vq:∀{k n:Nat},n<16^(k+1)->(mL n).length<=k+1
 |0,n,h=>by rw[Db,if_pos (by simpa using h)];simp
 |k+1,n,h=>by
  rw[Db]
  split
  ·simp
  ·have:=vq (k:=k) (n:=n/16) (by rw[pV]at h;omega)
   simp;exact this
noncomputable def vr(c:Nat):Bool:=decide (33<=c)&&decide (c<=126)&&decide (c≠39)&&decide (c≠92)
noncomputable def yd(c:Nat):List Nat:=if vr c then[c]else 92::120::(mL c++[92])
noncomputable def di(t:List Nat):List Nat:=if f0 t then t else 39::(t.flatMap yd++[39])
noncomputable def eU(t:List Nat):Prop:=t.length<=1000/\∀c∈t,c<4294967296
theorem Dc{c:Nat}(h:c<4294967296):(yd c).length<=11:=by
 unfold yd
 split
 ·simp
 ·have:=vq (k:=7) (n:=c) h
  simp;exact this
theorem M6:L (Str.ofString "!")=[33]:=by ac_rfl
theorem Jn:L (Str.ofString "~")=[126]:=by ac_rfl
theorem vt:L (Str.ofString "'")=[39]:=by ac_rfl
theorem ye:L (Str.ofString "\\")=[92]:=by ac_rfl
theorem Jo:L (Str.ofString "\\x")=[92,120]:=by ac_rfl
end
section
open PySem.StrLaws PySem.Builtin.Str
noncomputable def Ij(c:Nat)(l:List Nat):Option Nat:=l.findIdx? (λd=>d==c)
theorem Gx{c i:Nat}{l:List Nat}(h:Ij c l=some i):i<l.length:=(List.findIdx?_eq_some_iff_getElem.mp h).elim λh _=>h
theorem xu{x:Str}{c:Nat}{p r:List Nat}(hx:L x=p++r):Txt.find3 x (mk [c]) (p.length:Nat)=(Ij c r).elim (-1) λj=>((p.length+j:Nat):Int):=by
 have hf:fromIndex x.length ((p.length:Nat):Int)=p.length:=by unfold fromIndex;rw[if_neg (eH.mpr (aE _))];rfl
 have at_:∀i,(L x)[p.length+i]?=r[i]?:=λi=>by rw[hx,cH (ax _ _),hS]
 rcases find3_spec x c (p.length:Nat)with⟨h1,h2⟩|⟨k,h1,h2,h3,h4,h5⟩
 ·have e:Ij c r=none:=List.findIdx?_eq_none_iff.mpr λd hd=>(gv hd).elim λi hi=>beq_eq_false_iff_ne.mpr λe=>
   h2 (p.length+i) (aa (aR hf) (ax _ _)) (fV x▸(an.mp ((at_ i).trans hi)).1) (getD_of_getElem? ((at_ i).trans (hi.trans (congrArg some e))))
  rw[e];exact h1
 ·rw[hf]at h2 h5
  obtain⟨i,rfl⟩:=Nat.exists_eq_add_of_le h2
  have hi:=an.mp ((at_ i).symm.trans (getElem?_of_getD h3 h4))
  have e:Ij c r=some i:=List.findIdx?_eq_some_iff_getElem.mpr ⟨hi.1,beq_iff_eq.mpr hi.2,λj hj q=>h5 (p.length+j) (ax _ _) (Nat.add_lt_add_left hj _) (getD_of_getElem? ((at_ j).trans ((aA (dj hj hi.1)).trans (congrArg some (beq_iff_eq.mp q)))))⟩
  rw[e];exact h1
theorem Jp(x:Str)(c:Nat):Txt.find x (mk [c])=(Ij c (L x)).elim (-1) λj=>(j:Int):=by
 have:=xu (x:=x) (c:=c) (p:=[]) rfl
 have e:Txt.find3 x (mk [c]) ((0:Nat):Int)=Txt.find x (mk [c]):=by unfold Txt.find3 Txt.find fromIndex;simp;rfl
 rw[pD,e]at this
 rw[this];simp only[dR]
noncomputable def dK(c:Nat):List Nat->Option (List Nat×List Nat)
 |[]=>none
 |d::r=>match dK c r with
  |some (a,b)=>some (d::a,b)
  |none=>if d=c then some ([],r)else none
theorem mM{c:Nat}:∀{l:List Nat},c∉l->dK c l=none
 |[],_=>rfl
 |d::r,h=>by
  have h1:d≠c:=λe=>h (by simp[e])
  rw[dK,mM (l:=r) λq=>h (by simp[q])];simp[h1]
theorem jx{c:Nat}:∀{a b:List Nat},c∉b->dK c (a++c::b)=some (a,b)
 |[],b,h=>by rw[dY,dK,mM h];simp
 |d::a,b,h=>by rw[fE,dK,jx h]
theorem tP{c:Nat}:∀{l:List Nat},dK c l=none->c∉l
 |[],_=>by simp
 |d::r,h=>by
  rw[dK]at h
  split at h
  ·cases h
  ·rename_i e
   split at h
   ·cases h
   ·rename_i e2
    intro hm
    rcases am.mp hm with q|q
    ·exact e2 q.symm
    ·exact tP e q
theorem g6{c:Nat}:∀{l a b:List Nat},dK c l=some (a,b)->l=a++c::b/\c∉b
 |[],a,b,h=>by cases h
 |d::r,a,b,h=>by
  rw[dK]at h
  split at h
  ·rename_i a' b' e
   obtain⟨h1,h2⟩:=g6 e
   cases h;rw[h1];exact⟨rfl,h2⟩
  ·rename_i e
   split at h
   ·rename_i e2;cases h;subst e2
    exact⟨rfl,tP e⟩
   ·cases h
theorem zY(x:Str)(c:Nat):Txt.rfind x (mk [c])=match dK c (L x)with|some (a,_)=>((a.length:Nat):Int)|none=> -1:=by
 have hL:(L x).length=x.length:=fV x
 have at_:∀i,At x (mk [c]) x.length i↔(L x)[i]?=some c:=λi=>by
  constructor
  ·intro h;exact(subAt_one x c i).mp h
  ·intro h;exact(subAt_one x c i).mpr h
 unfold Txt.rfind
 rcases last_spec x (mk [c])with⟨h1,h2⟩|⟨i,h1,h2,h3⟩
 ·rw[h1,mM]
  intro hm
  obtain⟨i,hi⟩:=gv hm
  exact h2 i ((at_ i).mpr hi)
 ·rw[h1]
  have hi:=(at_ i).mp h2
  have fg:=(an.mp hi).1
  have e:L x=(L x).take i++c::(L x).drop (i+1):=by
   conv=>lhs;rw[<-fT i (L x)]
   congr 1
   rw[bR fg,(an.mp hi).2]
  have hn:c∉(L x).drop (i+1):=by
   intro hm
   obtain⟨j,hj⟩:=gv hm
   rw[List.getElem?_drop]at hj
   exact h3 (i+1+j) (by exact ax _ _) ((at_ _).mpr hj)
  rw[e,jx hn]
  simp only[fG]
  rw[gg (by exact cG fg)]
theorem xv{x:Str}{a b:Int}(h:0<=a/\a<=b/\b<=(L x).length):Txt.slice x (some a) (some b)=mk (((L x).drop a.toNat).take (b-a).toNat):=sliceText_plain h
section
variable{x:Str}{p m q:List Nat}
theorem Bz(h:L x=p++(m++q)):Txt.slice x (some ((p.length:Nat):Int)) (some ((p.length+m.length:Nat):Int))=mk m:=by
 rw[xv ⟨aE _,cF.mpr (ax _ _),cF.mpr (by rw[h,<-aC,af,af];exact ax _ _)⟩,bJ,Int.toNat_sub,h,List.drop_left,hS,List.take_left]
theorem xw(h:L x=m++q):Txt.slice x none (some ((m.length:Nat):Int))=mk m:=by
 have e:=sliceText_to (x:=x) (j:=((m.length:Nat):Int)) ⟨aE _,cF.mpr (by rw[show x.cps.toList=m++q from h,af];exact ax _ _)⟩
 rw[Int.sub_zero,eX,bJ,show x.cps.toList=m++q from h,List.take_left]at e
 exact e
theorem jy(h:L x=p++m):Txt.slice x (some ((p.length:Nat):Int)) none=mk m:=by
 have e:=sliceText_from (x:=x) (i:=((p.length:Nat):Int)) ⟨aE _,cF.mpr (by rw[show x.cps.toList=p++m from h,af];exact ax _ _)⟩
 rw[bJ,Int.toNat_sub,show x.cps.toList=p++m from h,List.drop_left,af,hS,eJ]at e
 exact e
end
section
variable{C:Ctx}{K:Frag}{bN bO:ClassData}{lv:Nat}{σ:St}{Q:PV->St->Prop}{X:Prop}
noncomputable def Lp(c:Nat):Option Nat:=Ij c [48,49,50,51,52,53,54,55,56,57,97,98,99,100,101,102]
noncomputable def iu:Nat->List Nat->Option Nat
 |v,[]=>some v
 |v,c::r=>match Lp c with
  |none=>none
  |some f=>if v*16+f>1114111 then none else iu (v*16+f) r
noncomputable def mh(l:List Nat):Option Nat:=iu 0 l
end
end
theorem M7:L (Str.ofString "x")=[120]:=by ac_rfl
theorem W5:L (Str.ofString "y")=[121]:=by ac_rfl
theorem BB:L (Str.ofString "0")=[48]:=by ac_rfl
theorem RK:L (Str.ofString "9")=[57]:=by ac_rfl
theorem Jq:L (Str.ofString "-")=[45]:=by ac_rfl
section
variable{C:Ctx}{K:Frag}{bN bO:ClassData}{lv:Nat}{σ:St}{Q:PV->St->Prop}{X:Prop}
noncomputable def Er(r:List Nat):Option (Nat×List Nat):=(Ij 92 r).bind λj=>if j<2\/r[0]?≠some 120 then none else(mh ((r.take j).drop 1)).map λv=>(v,r.drop (j+1))
noncomputable def vu:Nat->List Nat->Option (List Nat)
 |0=>λ_=>none
 |n+1=>λl=>List.casesOn l (some []) λc r=>if c≠92 then(vu n r).map (c::·)else(Er r).bind λe=>(vu n e.2).map (e.1::·)
noncomputable def gH(w:List Nat):Option (List Nat):=
 if f0 w then some w else
 if w.length<2\/w[0]?≠some 39\/w[w.length-1]?≠some 39 then none else
 (vu (w.length+1) ((w.drop 1).take (w.length-2))).bind λt=>if di t=w then some t else none
theorem ly:∀{l:List Nat} {v u:Nat},v<=1114111->iu v l=some u->u<=1114111
 |[],v,u,h,e=>by cases e;exact h
 |c::r,v,u,h,e=>by
  rw[iu]at e
  split at e
  ·cases e
  ·split at e
   ·cases e
   ·exact ly (by exact cq (by assumption)) e
theorem Dd{r:List Nat}{e:Nat×List Nat}(h:Er r=some e):e.1<=1114111/\e.2.length<r.length/\e.2<:+r:=(ah.mp h).elim λj h=>
 Decidable.byCases (λq:j<2\/r[0]?≠some 120=>absurd ((if_pos q).symm.trans h.2) nofun) λq=>(ai.mp ((if_neg q).symm.trans h.2)).elim λv hv=>hv.2▸
  ⟨ly (by decide) hv.1,by rw[fF];exact Nat.sub_lt (ak (bW _) (Gx h.1)) (cP _),List.drop_suffix _ _⟩
theorem De{n:Nat}:∀{l t:List Nat},vu n l=some t->t.length<=l.length/\∀c∈t,c∈l\/c<=1114111:=by
 induction n with
 |zero=>exactλh=>(aW _ h.symm).elim
 |succ n ih=>
  intro l t h
  cases l with
  |nil=>exact ao h▸⟨aj _,λc hc=> .inl hc⟩
  |cons c r=>
   by_cases q:c≠92
   ·exact(ai.mp ((if_pos q).symm.trans h)).elim λu hu=>hu.2▸have i:=ih hu.1
     ⟨aL i.1,λd hd=>(am.mp hd).elim (λe=> .inl (e▸aJ)) λhd=>(i.2 d hd).imp (aM _) id⟩
   ·exact(ah.mp ((if_neg q).symm.trans h)).elim λe he=>(ai.mp he.2).elim λu hu=>hu.2▸have i:=ih hu.1;have k:=Dd he.1
     ⟨aL (aa i.1 (cG k.2.1)),λd hd=>(am.mp hd).elim (λe=> .inr (e▸k.1)) λhd=>(i.2 d hd).imp (λq=>aM _ (k.2.2.subset q)) id⟩
theorem tQ{w t:List Nat}(hw:eU w)(h:gH w=some t):eU t:=
 Decidable.byCases (λq:f0 w=true=>ao ((if_pos q).symm.trans h)▸hw) λq=>Decidable.byCases (λq':w.length<2\/w[0]?≠some 39\/w[w.length-1]?≠some 39=>absurd ((if_pos q').symm.trans ((if_neg q).symm.trans h)) nofun) λq'=>
  (ah.mp ((if_neg q').symm.trans ((if_neg q).symm.trans h))).elim λu hu=>Decidable.byCases (λe:di u=w=>ao ((if_pos e).symm.trans hu.2)▸have i:=De hu.1
   ⟨aa i.1 (aa (nV ..) (aa (by rw[fF];exact Nat.sub_le _ _) hw.1)),λc hc=>(i.2 c hc).elim (λq=>hw.2 c (List.mem_of_mem_drop (js q))) λq=>ak q (by decide)⟩) λe=>absurd ((if_neg e).symm.trans hu.2) nofun
theorem s5(P:PO C K bN bO){x t:Addr}{v:PV}(hx:σ x=some (.exc C.lf t true))(h:Q .none (σ.upd x (.exc C.lf t false))):Spec C fw lv [.loc x,v] σ Q X:=by
 refine Spec.intro (ρ:=[some (.loc x),some v]) rfl (by conv=>lhs;whnf) ?_
 intro L' outer A F
 with_reducible
  refine bw ?_
 refine rC P.hX P.oL P.C0 ?_
 with_reducible
  refine aZ (by assumption) 1 (by ac_rfl) (by ac_rfl) ?_
  refine aZ (by assumption) 0 (by ac_rfl) (by ac_rfl) ?_
 refine⟨x,t,rfl,hx,?_⟩
 with_reducible
  refine gW ?_
 exact h
theorem M8(P:PO C K bN bO):∀(x t:Addr) (v:PV) (σ':St),σ' x=some (.exc C.lf t true)->Spec C fw 0 [.loc x,v] σ' (λr τ=>r=.none/\τ x=some (.exc C.lf t false)) False:=
 λx t v σ' hx=>s5 P hx ⟨rfl,St.bE _ _ _⟩
end
structure BA where
 x:Addr
 d:Addr
 lt:Addr
 da:Addr
 lf:Addr
 df:Addr
structure ar where
 texts:List Str
 bq:List (Nat×Nat)
noncomputable def i9(a:BA):List (Str×PV):=[("texts",.loc a.lt),("atom_numbers",.loc a.da),("functors",.loc a.lf),("functor_numbers",.loc a.df)]
noncomputable def r4(l:List Str):List (Str×PV):=l.zipIdx.map λp=>(p.1,.int (p.2:Nat))
noncomputable def qF(l:List (Nat×Nat)):List (List Int×Int):=l.zipIdx.map λp=>([(p.1.1:Int),(p.1.2:Int)],((p.2:Nat):Int))
noncomputable def k7(f:Nat×Nat):PV:= .tup [.int f.1,.int f.2]
structure gI(σ:St)(a:BA)(B:ar):Prop where
 hx:σ a.x=some (.inst 155 a.d)
 hd:σ a.d=some (.cg (i9 a))
 ht:σ a.lt=some (.list (B.texts.map .str))
 ha:σ a.da=some (.cg (r4 B.texts))
 hf:σ a.lf=some (.list (B.bq.map k7))
 hn:σ a.df=some (.hV (qF B.bq))
 ne1:a.lt≠a.lf
 ne2:a.d≠a.da
theorem dZ{σ:St}{a b:Addr}{c d:dn}(h:σ a=some c)(h':σ b=some d)(n:c≠d):a≠b:=λe=>by subst e;rw[h]at h';cases h';exact n rfl
noncomputable def cL(σ:St)(a:BA)(B:ar):St:=(((σ.upd a.lt (.list (B.texts.map .str))).upd a.da (.cg (r4 B.texts))).upd a.lf (.list (B.bq.map k7))).upd a.df (.hV (qF B.bq))
structure BA.Ne(a:BA):Prop where
 n1:a.lt≠a.da
 n2:a.lt≠a.lf
 n3:a.lt≠a.df
 n4:a.da≠a.lf
 n5:a.da≠a.df
 n6:a.lf≠a.df
 d1:a.d≠a.lt
 d2:a.d≠a.da
 d3:a.d≠a.lf
 d4:a.d≠a.df
 x1:a.x≠a.lt
 x2:a.x≠a.da
 x3:a.x≠a.lf
 x4:a.x≠a.df
 x5:a.x≠a.d
theorem gI.ne{σ:St}{a:BA}{B:ar}(h:gI σ a B):a.Ne:=
 ⟨dZ h.ht h.ha (by simp),h.ne1,dZ h.ht h.hn (by simp),dZ h.ha h.hf (by simp),dZ h.ha h.hn (by simp),dZ h.hf h.hn (by simp),
  dZ h.hd h.ht (by simp),h.ne2,dZ h.hd h.hf (by simp),dZ h.hd h.hn (by simp),dZ h.hx h.ht (by simp),dZ h.hx h.ha (by simp),dZ h.hx h.hf (by simp),dZ h.hx h.hn (by simp),dZ h.hx h.hd (by simp)⟩
theorem gJ(σ:St){a:BA}(B:ar)(n:a.Ne):cL σ a B a.lt=some (.list (B.texts.map .str)):=by
 unfold cL;rw[St.bA _ _ n.n3,St.bA _ _ n.n2,St.bA _ _ n.n1,St.bE]
theorem gK(σ:St){a:BA}(B:ar)(n:a.Ne):cL σ a B a.da=some (.cg (r4 B.texts)):=by
 unfold cL;rw[St.bA _ _ n.n5,St.bA _ _ n.n4,St.bE]
theorem gM(σ:St){a:BA}(B:ar)(n:a.Ne):cL σ a B a.lf=some (.list (B.bq.map k7)):=by
 unfold cL;rw[St.bA _ _ n.n6,St.bE]
theorem gN(σ:St)(a:BA)(B:ar):cL σ a B a.df=some (.hV (qF B.bq)):=by
 unfold cL;rw[St.bE]
theorem dB(σ:St){a:BA}(B:ar){b:Addr}(h1:b≠a.lt)(h2:b≠a.da)(h3:b≠a.lf)(h4:b≠a.df):cL σ a B b=σ b:=by
 unfold cL;rw[St.bA _ _ h4,St.bA _ _ h3,St.bA _ _ h2,St.bA _ _ h1]
theorem vw{σ τ:St}(a:BA)(h1:σ a.lt=τ a.lt)(h2:σ a.da=τ a.da)(h3:σ a.lf=τ a.lf)(h4:σ a.df=τ a.df)(h:∀b,b≠a.lt->b≠a.da->b≠a.lf->b≠a.df->σ b=τ b):σ=τ:=by
 funext b
 by_cases e1:b=a.lt
 ·rw[e1];exact h1
 by_cases e2:b=a.da
 ·rw[e2];exact h2
 by_cases e3:b=a.lf
 ·rw[e3];exact h3
 by_cases e4:b=a.df
 ·rw[e4];exact h4
 exact h b e1 e2 e3 e4
theorem gI.same{σ:St}{a:BA}{B:ar}(h:gI σ a B):cL σ a B=σ:=
 vw a ((gJ _ _ h.ne).trans h.ht.symm) ((gK _ _ h.ne).trans h.ha.symm) ((gM _ _ h.ne).trans h.hf.symm) ((gN _ _ _).trans h.hn.symm) λb h1 h2 h3 h4=>dB _ _ h1 h2 h3 h4
theorem o0{σ:St}{a:BA}{B B':ar}(n:a.Ne):cL (cL σ a B) a B'=cL σ a B':=
 vw a ((gJ _ _ n).trans (gJ _ _ n).symm) ((gK _ _ n).trans (gK _ _ n).symm) ((gM _ _ n).trans (gM _ _ n).symm) ((gN _ _ _).trans (gN _ _ _).symm)
  λb h1 h2 h3 h4=>by rw[dB _ _ h1 h2 h3 h4,dB _ _ h1 h2 h3 h4,dB _ _ h1 h2 h3 h4]
theorem gI.put{σ:St}{a:BA}{B:ar}(h:gI σ a B)(B':ar):gI (cL σ a B') a B':=
 ⟨by rw[dB _ _ h.ne.x1 h.ne.x2 h.ne.x3 h.ne.x4];exact h.hx,by rw[dB _ _ h.ne.d1 h.ne.d2 h.ne.d3 h.ne.d4];exact h.hd,gJ _ _ h.ne,gK _ _ h.ne,gM _ _ h.ne,gN _ _ _,h.ne1,h.ne2⟩
noncomputable def ix{α:Type}[DecidableEq α](k:α):List α->Nat
 |[]=>0
 |x::l=>if x=k then 0 else ix k l+1
theorem BC{α:Type}[DecidableEq α]{t:α}:∀{l:List α},t∉l->ix t (l++[t])=l.length
 |[],_=>by simp[ix]
 |y::l,hm=>by
  have h1:¬y=t:=λq=>hm (by simp[q])
  rw[fE,ix,if_neg h1,BC (l:=l) λq=>hm (aM _ q)];rfl
theorem s6{K V:Type}[DecidableEq K](g:Nat->V)(k:K):∀(l:List K) (n:Nat),bT ((l.zipIdx n).map λp=>(p.1,g p.2)) k=if k∈l then some (g (n+ix k l))else none
 |[],n=>by simp[bT]
 |x::l,n=>by
  have ih:=s6 g k l (n+1)
  unfold bT at ih⊢
  rw[List.zipIdx_cons,aP,List.find?_cons]
  by_cases e:x=k
  ·subst e;simp[ix]
  ·have e':k≠x:=λq=>e q.symm
   simp only[e,decide_false,ih,am,e',false_or,ix,if_false]
   by_cases hm:k∈l
   ·rw[if_pos hm,if_pos hm];congr 2;exact dc _ _ _
   ·rw[if_neg hm,if_neg hm]
theorem xx(l:List Str)(t:Str):bT (r4 l) t=if t∈l then some (.int (ix t l:Nat))else none:=by
 have:=s6 (λi:Nat=>PV.int (i:Nat)) t l 0
 simpa[r4]using this
theorem Jr(l:List (Nat×Nat)):qF l=((l.map λf=>[(f.1:Int),(f.2:Int)]).zipIdx.map λp=>(p.1,((p.2:Nat):Int))):=by
 unfold qF;rw[List.zipIdx_map,bU];rfl
theorem Dg{f g:Nat×Nat}(h:[(f.1:Int),(f.2:Int)]=[(g.1:Int),(g.2:Int)]):f=g:=by
 simp at h;exact Prod.ext (by exact fD h.1) (by exact fD h.2)
theorem xy(l:List (Nat×Nat))(f:Nat×Nat):bT (qF l) [(f.1:Int),(f.2:Int)]=if f∈l then some ((ix f l:Nat):Int)else none:=by
 rw[Jr]
 have:=s6 (λi:Nat=>((i:Nat):Int)) [(f.1:Int),(f.2:Int)] (l.map λf=>[(f.1:Int),(f.2:Int)]) 0
 have hm:([(f.1:Int),(f.2:Int)]∈l.map λf=>[(f.1:Int),(f.2:Int)])↔f∈l:=by
  constructor
  ·intro h;obtain⟨g,hg,e⟩:=bn.mp h;exact Dg e▸hg
  ·intro h;exact bn.mpr ⟨f,h,rfl⟩
 have hi:ix [(f.1:Int),(f.2:Int)] (l.map λf=>[(f.1:Int),(f.2:Int)])=ix f l:=by
  clear this hm
  induction l with
  |nil=>rfl
  |cons g l ih=>
   rw[aP]
   by_cases e:g=f
   ·subst e;simp[ix]
   ·have:[(g.1:Int),(g.2:Int)]≠[(f.1:Int),(f.2:Int)]:=λq=>e (Dg q)
    rw[ix,ix,if_neg this,if_neg e,ih]
 rw[this];simp only[hm,hi,dR]
theorem Gy(l:List Str)(t:Str):r4 (l++[t])=r4 l++[(t,.int (l.length:Nat))]:=by simp[r4,List.zipIdx_append]
theorem Gz(l:List (Nat×Nat))(f:Nat×Nat):qF (l++[f])=qF l++[([(f.1:Int),(f.2:Int)],((l.length:Nat):Int))]:=by simp[qF,List.zipIdx_append]
theorem r5{K V:Type}[DecidableEq K]{kvs:List (K×V)}{k:K}{v:V}(h:bT kvs k=none):qA kvs k v=kvs++[(k,v)]:=by
 unfold qA
 have:kvs.any (λp=>decide (p.1=k))=false:=by
  unfold bT at h
  simp only[Option.map_eq_none_iff,List.find?_eq_none]at h
  rw[List.any_eq_false];exactλp hp=>by simpa using h p hp
 rw[this];rfl
noncomputable def ar.atom(B:ar)(t:Str):ar:=if t∈B.texts then B else⟨B.texts++[t],B.bq⟩
noncomputable def ar.eR(B:ar)(f:Nat×Nat):ar:=if f∈B.bq then B else⟨B.texts,B.bq++[f]⟩
theorem bd1(a:BA):bT (i9 a) (Str.ofString "texts")=some (.loc a.lt):=by ac_rfl
theorem bd2(a:BA):bT (i9 a) (Str.ofString "atom_numbers")=some (.loc a.da):=by ac_rfl
theorem bd3(a:BA):bT (i9 a) (Str.ofString "functors")=some (.loc a.lf):=by ac_rfl
theorem bd4(a:BA):bT (i9 a) (Str.ofString "functor_numbers")=some (.loc a.df):=by ac_rfl
section
variable{C:Ctx}{K:Frag}{bN bO:ClassData}{lv:Nat}{σ:St}{Q:PV->St->Prop}{X:Prop}{a:BA}{B:ar}
local macro_rules |`(tactic|left)=>`(tactic|first|exact iD.str|exact iD.tup|exact iD.list (by assumption)|exact iD.list (St.bE _ _ _)|exact iD.cg (St.bE _ _ _))
local macro_rules |`(tactic|right)=>`(tactic|with_reducible first|exact bd1 _|exact bd2 _|exact bd3 _|exact bd4 _)
theorem kA(P:PO C K bN bO){t:Str}(hB:gI σ a B)(hz:B.texts.length<=1000000)(h:Q (.int (ix t (B.atom t).texts:Nat)) (cL σ a (B.atom t))):Spec C gA lv [.loc a.x,.str t] σ Q X:=by
 refine Spec.intro (ρ:=[some (.loc a.x),some (.str t),none,none]) rfl (by conv=>lhs;whnf) ?_
 intro L' outer A F
 have hx:=hB.hx
 have hd:=hB.hd
 have n:=hB.ne
 have ha:=hB.ha
 have ht:=hB.ht
 with_reducible
  refine bw ?_
  refine fv (by assumption) 2 (by ac_rfl) ?_
  refine gx Gb ?_
  refine iN P.hX P.oS P.jM ?_
  refine aZ (by assumption) 0 (by ac_rfl) (by ac_rfl) ?_
 refine⟨_,_,_,_,rfl,by with_reducible assumption,by with_reducible assumption,by right,?_⟩
 refine⟨by first|exact congrArg (Option.bind · dn.ty) ha|exact congrArg (Option.bind · dn.ty) (St.bE _ _ _)|exact congrArg (Option.bind · dn.ty) hB.hf|exact congrArg (Option.bind · dn.ty) hB.ht,?_⟩
 with_reducible
  refine cK ?_
  refine aZ (by assumption) 1 (by ac_rfl) (by ac_rfl) ?_
  refine cK ?_
  refine qu ?_
  refine c9 ?_
  refine Bd ?_
  refine eA ?_
 refine IW P.G ha ?_
 rw[xx]
 by_cases hm:t∈B.texts
 ·have e:B.atom t=B:=by unfold ar.atom;rw[if_pos hm]
  rw[e,hB.same]at h
  rw[if_pos hm,jB]
  with_reducible
   refine bw ?_
   refine th ?_
   refine gw ?_
   refine aZ (by assumption) 2 (by ac_rfl) (by ac_rfl) ?_
   refine c9 ?_
   refine zg ?_
   refine et ?_
   refine Gg (decide_eq_true (by exact aE _)) ?_
   refine bw ?_
   refine dp ?_
   refine aZ (by assumption) 2 (by ac_rfl) (by ac_rfl) ?_
  exact h
 ·rw[if_neg hm,Option.getD_none]
  have e:B.atom t=⟨B.texts++[t],B.bq⟩:=by unfold ar.atom;rw[if_neg hm]
  have hx2:∀c,(σ.upd a.lt c) a.x=some (.inst 155 a.d):=λc=>by rw[St.bA _ _ n.x1];exact hx
  have hd2:∀c,(σ.upd a.lt c) a.d=some (.cg (i9 a)):=λc=>by rw[St.bA _ _ n.d1];exact hd
  have hx3:=hx2 (.list ((B.texts.map .str)++[.str t]))
  have hd3:=hd2 (.list ((B.texts.map .str)++[.str t]))
  have W6:(σ.upd a.lt (.list ((B.texts.map .str)++[.str t]))) a.da=some (.cg (r4 B.texts)):=by rw[St.bA _ _ n.n1.symm];exact ha
  with_reducible
   refine bw ?_
   refine th ?_
   refine gw ?_
   refine aZ (by assumption) 2 (by ac_rfl) (by ac_rfl) ?_
   refine c9 ?_
   refine zg ?_
   refine et ?_
   refine Gh (decide_eq_false (by exact by decide)) ?_
   refine gW ?_
   refine bw ?_
   refine fv (by assumption) 3 (by ac_rfl) ?_
   refine iq P.G (by assumption) (by ac_rfl) P.rT P.rU ?_
   refine cK ?_
   refine iN P.hX P.oS P.rX ?_
   refine aZ (by assumption) 0 (by ac_rfl) (by ac_rfl) ?_
  refine⟨_,_,_,_,rfl,by with_reducible assumption,by with_reducible assumption,by right,?_⟩
  with_reducible
   refine eA ?_
   refine iC (by assumption) ?_ ?_
  simp;exact ak hz (by decide)
  with_reducible
   refine bw ?_
   refine pF (by assumption) ?_
   refine gx j8 ?_
   refine iN P.hX P.oS P.rX ?_
   refine aZ (by assumption) 0 (by ac_rfl) (by ac_rfl) ?_
  refine⟨_,_,_,_,rfl,by with_reducible assumption,by with_reducible assumption,by right,?_⟩
  refine⟨by first|exact congrArg (Option.bind · dn.ty) ha|exact congrArg (Option.bind · dn.ty) (St.bE _ _ _)|exact congrArg (Option.bind · dn.ty) hB.hf|exact congrArg (Option.bind · dn.ty) hB.ht,?_⟩
  with_reducible
   refine cK ?_
   refine aZ (by assumption) 1 (by ac_rfl) (by ac_rfl) ?_
   refine eA ?_
   refine sQ (by assumption) ?_ ?_
  rotate_left
  with_reducible
   refine bw ?_
   refine dW ?_
   refine aZ (by assumption) 3 (by ac_rfl) (by ac_rfl) ?_
   refine iN P.hX P.oS P.jM ?_
   refine aZ (by assumption) 0 (by ac_rfl) (by ac_rfl) ?_
  refine⟨_,_,_,_,rfl,by with_reducible assumption,by with_reducible assumption,by right,?_⟩
  with_reducible
   refine aZ (by assumption) 1 (by ac_rfl) (by ac_rfl) ?_
  rotate_right 1
  ·rw[gZ];simp;exact aa hz (by decide)
  refine FT (by with_reducible assumption) (by rw[gZ];simp[r4];exact aa hz (by decide)) ?_
  with_reducible
   refine bw ?_
   refine dp ?_
   refine aZ (by assumption) 3 (by ac_rfl) (by ac_rfl) ?_
  rw[r5 (by rw[xx,if_neg hm])]
  have el:(B.texts.map PV.str).length=B.texts.length:=ae _
  have es:ix t (B.texts++[t])=B.texts.length:=BC hm
  have h':=h
  rw[e,es]at h'
  rw[el]
  have e2:cL σ a ⟨B.texts++[t],B.bq⟩=(σ.upd a.lt (.list (B.texts.map .str++[.str t]))).upd a.da (.cg (r4 B.texts++[(t,.int (B.texts.length:Nat))])):=by
   refine vw a ?_ ?_ ?_ ?_ λb h1 h2 h3 h4=> ?_
   ·rw[gJ _ _ n,St.bA _ _ n.n1,St.bE];simp
   ·rw[gK _ _ n,St.bE,Gy]
   ·rw[gM _ _ n,St.bA _ _ n.n4.symm,St.bA _ _ n.n2.symm];exact hB.hf.symm
   ·rw[gN,St.bA _ _ n.n5.symm,St.bA _ _ n.n3.symm];exact hB.hn.symm
   ·rw[dB _ _ h1 h2 h3 h4,St.bA _ _ h2,St.bA _ _ h1]
  rw[e2]at h'
  exact h'
theorem vx(P:PO C K bN bO){i:Nat}{t:Str}(hB:gI σ a B)(hi:B.texts[i]?=some t)(hz:i<2^62)(h:Q (.str t) σ):Spec C gB lv [.loc a.x,.int i] σ Q X:=by
 refine Spec.intro (ρ:=[some (.loc a.x),some (.int i)]) rfl (by conv=>lhs;whnf) ?_
 intro L' outer A F
 have hx:=hB.hx
 have hd:=hB.hd
 have ht:=hB.ht
 with_reducible
  refine bw ?_
  refine dp ?_
  refine gz ?_
  refine iN P.hX P.oS P.rX ?_
  refine aZ (by assumption) 0 (by ac_rfl) (by ac_rfl) ?_
 refine⟨_,_,_,_,rfl,by with_reducible assumption,by with_reducible assumption,by right,?_⟩
 with_reducible
  refine aZ (by assumption) 1 (by ac_rfl) (by ac_rfl) ?_
 refine⟨by left,?_⟩
 exact eD ht (by exact aE _) (by exact sH [.lt (.v 0) (.n 4611686018427387904)] (.A2 (.c (.v 0)) (.n 9223372036854775808)) [1] (Eq.refl true) hz) (by simp[hi]) h
theorem vy(P:PO C K bN bO){i:Nat}{f:Nat×Nat}(hB:gI σ a B)(hi:B.bq[i]?=some f)(hz:i<2^62)(h:Q (.int f.1) σ):Spec C gC lv [.loc a.x,.int i] σ Q X:=by
 refine Spec.intro (ρ:=[some (.loc a.x),some (.int i)]) rfl (by conv=>lhs;whnf) ?_
 intro L' outer A F
 have hx:=hB.hx
 have hd:=hB.hd
 have hf:=hB.hf
 with_reducible
  refine bw ?_
  refine dp ?_
  refine gz ?_
  refine gz ?_
  refine iN P.hX P.oS P.jw ?_
  refine aZ (by assumption) 0 (by ac_rfl) (by ac_rfl) ?_
 refine⟨_,_,_,_,rfl,by with_reducible assumption,by with_reducible assumption,by right,?_⟩
 with_reducible
  refine aZ (by assumption) 1 (by ac_rfl) (by ac_rfl) ?_
 refine⟨by left,?_⟩
 refine eD hf (pv:=k7 f) (by exact aE _) (by exact sH [.lt (.v 0) (.n 4611686018427387904)] (.A2 (.c (.v 0)) (.n 9223372036854775808)) [1] (Eq.refl true) hz) (by simp[hi]) ?_
 with_reducible
  refine c9 ?_
 refine⟨by left,?_⟩
 exact oz (by decide) (by decide) rfl h
theorem ub(P:PO C K bN bO){i:Nat}{f:Nat×Nat}(hB:gI σ a B)(hi:B.bq[i]?=some f)(hz:i<2^62)(h:Q (.int f.2) σ):Spec C fW lv [.loc a.x,.int i] σ Q X:=by
 refine Spec.intro (ρ:=[some (.loc a.x),some (.int i)]) rfl (by conv=>lhs;whnf) ?_
 intro L' outer A F
 have hx:=hB.hx
 have hd:=hB.hd
 have hf:=hB.hf
 with_reducible
  refine bw ?_
  refine dp ?_
  refine gz ?_
  refine gz ?_
  refine iN P.hX P.oS P.jw ?_
  refine aZ (by assumption) 0 (by ac_rfl) (by ac_rfl) ?_
 refine⟨_,_,_,_,rfl,by with_reducible assumption,by with_reducible assumption,by right,?_⟩
 with_reducible
  refine aZ (by assumption) 1 (by ac_rfl) (by ac_rfl) ?_
 refine⟨by left,?_⟩
 refine eD hf (pv:=k7 f) (by exact aE _) (by exact sH [.lt (.v 0) (.n 4611686018427387904)] (.A2 (.c (.v 0)) (.n 9223372036854775808)) [1] (Eq.refl true) hz) (by simp[hi]) ?_
 with_reducible
  refine c9 ?_
 refine⟨by left,?_⟩
 exact oz (by decide) (by decide) rfl h
theorem k9(P:PO C K bN bO){f:Nat×Nat}(hB:gI σ a B)(hz:B.bq.length<=1000000)(h:Q (.int (ix f (B.eR f).bq:Nat)) (cL σ a (B.eR f))):Spec C e8 lv [.loc a.x,.int f.1,.int f.2] σ Q X:=by
 refine Spec.intro (ρ:=[some (.loc a.x),some (.int f.1),some (.int f.2),none,none,none]) rfl (by conv=>lhs;whnf) ?_
 intro L' outer A F
 have hx:=hB.hx
 have hd:=hB.hd
 have n:=hB.ne
 have ha:=hB.hn
 have ht:=hB.hf
 with_reducible
  refine bw ?_
  refine fv (by assumption) 3 (by ac_rfl) ?_
  refine qY ?_
  refine cK ?_
  refine aZ (by assumption) 1 (by ac_rfl) (by ac_rfl) ?_
  refine cK ?_
  refine aZ (by assumption) 2 (by ac_rfl) (by ac_rfl) ?_
  refine eA ?_
 refine⟨by first|decide|(simp[sizeLine];done),?_⟩
 with_reducible
  refine bw ?_
  refine fv (by assumption) 4 (by ac_rfl) ?_
  refine gx Gb ?_
  refine iN P.hX P.oS P.ir ?_
  refine aZ (by assumption) 0 (by ac_rfl) (by ac_rfl) ?_
 refine⟨_,_,_,_,rfl,by with_reducible assumption,by with_reducible assumption,by right,?_⟩
 refine⟨by first|exact congrArg (Option.bind · dn.ty) ha|exact congrArg (Option.bind · dn.ty) (St.bE _ _ _)|exact congrArg (Option.bind · dn.ty) hB.hf|exact congrArg (Option.bind · dn.ty) hB.ht,?_⟩
 with_reducible
  refine cK ?_
  refine aZ (by assumption) 3 (by ac_rfl) (by ac_rfl) ?_
  refine cK ?_
  refine qu ?_
  refine c9 ?_
  refine Bd ?_
  refine eA ?_
 refine IY P.G F (ks:=[(f.1:Int),(f.2:Int)]) ha ?_
 rw[xy]
 by_cases hm:f∈B.bq
 ·have e:B.eR f=B:=by unfold ar.eR;rw[if_pos hm]
  rw[e,hB.same]at h
  rw[if_pos hm,jB]
  with_reducible
   refine bw ?_
   refine th ?_
   refine gw ?_
   refine aZ (by assumption) 4 (by ac_rfl) (by ac_rfl) ?_
   refine c9 ?_
   refine zg ?_
   refine et ?_
   refine Gg (decide_eq_true (by exact aE _)) ?_
   refine bw ?_
   refine dp ?_
   refine aZ (by assumption) 4 (by ac_rfl) (by ac_rfl) ?_
  exact h
 ·rw[if_neg hm,Option.getD_none]
  have e:B.eR f=⟨B.texts,B.bq++[f]⟩:=by unfold ar.eR;rw[if_neg hm]
  have hx3:(σ.upd a.lf (.list ((B.bq.map k7)++[.tup [.int f.1,.int f.2]]))) a.x=some (.inst 155 a.d):=by rw[St.bA _ _ n.x3];exact hx
  have hd3:(σ.upd a.lf (.list ((B.bq.map k7)++[.tup [.int f.1,.int f.2]]))) a.d=some (.cg (i9 a)):=by rw[St.bA _ _ n.d3];exact hd
  have W6:(σ.upd a.lf (.list ((B.bq.map k7)++[.tup [.int f.1,.int f.2]]))) a.df=some (.hV (qF B.bq)):=by rw[St.bA _ _ n.n6.symm];exact ha
  with_reducible
   refine bw ?_
   refine th ?_
   refine gw ?_
   refine aZ (by assumption) 4 (by ac_rfl) (by ac_rfl) ?_
   refine c9 ?_
   refine zg ?_
   refine et ?_
   refine Gh (decide_eq_false (by exact by decide)) ?_
   refine gW ?_
   refine bw ?_
   refine fv (by assumption) 5 (by ac_rfl) ?_
   refine iq P.G (by assumption) (by ac_rfl) P.rT P.rU ?_
   refine cK ?_
   refine iN P.hX P.oS P.jw ?_
   refine aZ (by assumption) 0 (by ac_rfl) (by ac_rfl) ?_
  refine⟨_,_,_,_,rfl,by with_reducible assumption,by with_reducible assumption,by right,?_⟩
  with_reducible
   refine eA ?_
   refine iC (by assumption) ?_ ?_
  simp;exact ak hz (by decide)
  with_reducible
   refine bw ?_
   refine pF (by assumption) ?_
   refine gx j8 ?_
   refine iN P.hX P.oS P.jw ?_
   refine aZ (by assumption) 0 (by ac_rfl) (by ac_rfl) ?_
  refine⟨_,_,_,_,rfl,by with_reducible assumption,by with_reducible assumption,by right,?_⟩
  refine⟨by first|exact congrArg (Option.bind · dn.ty) ha|exact congrArg (Option.bind · dn.ty) (St.bE _ _ _)|exact congrArg (Option.bind · dn.ty) hB.hf|exact congrArg (Option.bind · dn.ty) hB.ht,?_⟩
  with_reducible
   refine cK ?_
   refine aZ (by assumption) 3 (by ac_rfl) (by ac_rfl) ?_
   refine eA ?_
   refine sQ (by assumption) ?_ ?_
  rotate_left
  with_reducible
   refine bw ?_
   refine dW ?_
   refine aZ (by assumption) 5 (by ac_rfl) (by ac_rfl) ?_
   refine iN P.hX P.oS P.ir ?_
   refine aZ (by assumption) 0 (by ac_rfl) (by ac_rfl) ?_
  refine⟨_,_,_,_,rfl,by with_reducible assumption,by with_reducible assumption,by right,?_⟩
  with_reducible
   refine aZ (by assumption) 3 (by ac_rfl) (by ac_rfl) ?_
  rotate_right 1
  ·rw[gZ];simp;exact aa hz (by decide)
  refine zm F (ks:=[(f.1:Int),(f.2:Int)]) (by with_reducible assumption) (by rw[gZ];simp[qF];exact aa hz (by decide)) ?_
  with_reducible
   refine bw ?_
   refine dp ?_
   refine aZ (by assumption) 5 (by ac_rfl) (by ac_rfl) ?_
  rw[r5 (by rw[xy,if_neg hm])]
  have el:(B.bq.map k7).length=B.bq.length:=ae _
  have es:ix f (B.bq++[f])=B.bq.length:=BC hm
  have h':=h
  rw[e,es]at h'
  rw[el]
  have e2:cL σ a ⟨B.texts,B.bq++[f]⟩=(σ.upd a.lf (.list (B.bq.map k7++[.tup [.int f.1,.int f.2]]))).upd a.df (.hV (qF B.bq++[([(f.1:Int),(f.2:Int)],((B.bq.length:Nat):Int))])):=by
   refine vw a ?_ ?_ ?_ ?_ λb h1 h2 h3 h4=> ?_
   ·rw[gJ _ _ n,St.bA _ _ n.n3,St.bA _ _ n.n2];exact hB.ht.symm
   ·rw[gK _ _ n,St.bA _ _ n.n5,St.bA _ _ n.n4];exact hB.ha.symm
   ·rw[gM _ _ n,St.bA _ _ n.n6,St.bE];simp[k7]
   ·rw[gN,St.bE,Gz]
   ·rw[dB _ _ h1 h2 h3 h4,St.bA _ _ h4,St.bA _ _ h3]
  rw[e2]at h'
  exact h'
end
noncomputable section
noncomputable def RL(c:Const):Option PV:=Const.casesOn c none (λ_=>none) (λi=>some (.int i)) (λ_=>none) (λ_ _=>none) (λx=>some (.str x)) (λ_=>none) none
noncomputable def Js{α β:Type}(f:α->Option β)(xs:List α):Option (List β):=List.rec (some []) (λe _ ih=>(f e).bind λv=>ih.map (v::·)) xs
noncomputable def BD(n:Nat):Expr->Option PV:=Nat.rec (λ_=>none) (λ_ ih e=>sel none e (con:=λc _ _=>RL c) (tup:=λes _ _=>if es.length<=1000 then(Js ih es).map .tup else none)) n
noncomputable def yf(n:Nat):List Expr->Option (List PV):=Js (BD n)
end
theorem GA{α β:Type}{f:α->Option β}{es:List α}:∀{vs:List β},Js f es=some vs->vs.length=es.length:=by
 induction es with
 |nil=>exactλ{vs} h=>ao h▸rfl
 |cons e es ih=>exactλ{vs} h=>(ah.mp h).elim λv h=>(ai.mp h.2).elim λus h=>h.2▸congrArg (·+1) (ih h.1)
section
variable{C:Ctx}{fr:Fm}{ρ:b4}{X:Prop}
theorem GB{σ:St}{p:Pos}{e:Expr}{es:List Expr}{Q:List PV->St->Prop}(h:WE C fr e ρ σ (λv aO=>WL C fr p es ρ aO (λvs=>Q (v::vs)) X) X)
 (he:∀env,starEach (e::es) env=(false,eval e env)::starEach es env):WL C fr p (e::es) ρ σ Q X:=cK h he
structure zZ(C:Ctx)(fr:Fm)(e:Expr)(v:PV):Prop where
 star:∀es env,starEach (e::es) env=(false,eval e env)::starEach es env
 run:∀{ρ:b4} {X:Prop} {σ:St} {Q:PV->St->Prop},Q v σ->WE C fr e ρ σ Q X
theorem Dh{f:Expr->Option PV}{p:Pos}{es:List Expr}(hf:∀{e v},f e=some v->zZ C fr e v):∀{vs:List PV} {σ:St} {Q:List PV->St->Prop},Js f es=some vs->Q vs σ->WL C fr p es ρ σ Q X:=by
 induction es with
 |nil=>exactλ{vs σ Q} h hq=>eA (ao h▸hq)
 |cons e es ih=>exactλ{vs σ Q} h hq=>(ah.mp h).elim λv h=>(ai.mp h.2).elim λus h'=>GB ((hf h.1).run (ih h'.1 (h'.2▸hq))) ((hf h.1).star es)
theorem Lq(n:Nat):∀{e:Expr} {v:PV},BD n e=some v->zZ C fr e v:=by
 induction n with
 |zero=>exactλh=>(aW _ h.symm).elim
 |succ n ih=>
  intro e v
  have n0:∀{e:Expr},(none:Option PV)=some v->zZ C fr e v:=λh=>(aW v h.symm).elim
  exact fH (λe q=>q=some v->zZ C fr e v) e (λ_=>n0) (λ_ _=>n0) (λc _ _=>Const.casesOn (motive:=λc=>RL c=some v->zZ C fr (.Constant c _ _) v) c n0 (λ_=>n0) (λi h=>ao h▸⟨λ_ _=>rfl,c9⟩) (λ_=>n0) (λ_ _=>n0) (λx h=>ao h▸⟨λ_ _=>rfl,xQ⟩) (λ_=>n0) n0)
   (λ_ _ _ _=>n0) (λ_ _ _=>n0) (λ_ _ _=>n0) (λ_ _ _ _=>n0) (λ_ _ _ _=>n0) (λ_ _ _ _=>n0) (λ_ _ _=>n0) (λ_ _ _=>n0)
   (λes _ _ h=>Decidable.byCases (λhl:es.length<=1000=>(ai.mp ((if_pos hl).symm.trans h)).elim λvs hv=>hv.2▸⟨λ_ _=>rfl,λhq=>qY (Dh ih hv.1 ⟨by rw[GA hv.1,gZ];exact aa hl (by decide),hq⟩)⟩) λhl=>n0 ((if_neg hl).symm.trans h))
   (λ_ _=>n0) (λ_ _ _ _=>n0) (λ_ _ _=>n0) (λ_ _ _ _=>n0)
theorem z0(n:Nat){e:Expr}{v:PV}{σ:St}{Q:PV->St->Prop}(h:BD n e=some v)(hq:Q v σ):WE C fr e ρ σ Q X:=(Lq n h).run hq
theorem GC(n:Nat){p:Pos}{es:List Expr}{vs:List PV}{σ:St}{Q:List PV->St->Prop}(h:yf n es=some vs)(hq:Q vs σ):WL C fr p es ρ σ Q X:=Dh (Lq n) h hq
end
noncomputable def kB:List Str:=["[]",".","{}","-","+","*","/",",","|",";","->","\\+",":-","?-","-->","!","true","fail","false","call","=","^","error","","end_of_file","system","$VAR","catch","throw"]
noncomputable def jm:List (Str×Nat):=[(".",2),(",",2),(";",2),("->",2),("\\+",1),(":-",2),(":-",1),("?-",1),("-->",2),("{}",1),("=",2),("^",2),("-",1),("-",2),("+",2),("/",2),("error",2),("$VAR",1),("catch",3),("throw",1),("!",0),("true",0),("fail",0),("false",0),("call",1),("call",2),("call",3),("call",4),("call",5),("call",6),("call",7),("call",8)]
section
variable{C:Ctx}{K:Frag}{bN bO:ClassData}{lv:Nat}{σ:St}{Q:PV->St->Prop}{X:Prop}{a:BA}{B:ar}
theorem wz(h:Q (.tup (kB.map .str)) σ):Spec C lx lv [] σ Q X:=by
 with_reducible refine Spec.intro (ρ:=[]) (by decide) (by with_unfolding_all(conv=>lhs;whnf)) ?_
 intro L' outer A F
 with_reducible
  refine bw ?_
 with_reducible
  refine dp ?_
 with_reducible refine z0 60 ?_ h
 kernel_rfl
theorem s7(h:Q (.tup (jm.map λf=> .tup [.str f.1,.int (f.2:Nat)])) σ):Spec C ji lv [] σ Q X:=by
 with_reducible refine Spec.intro (ρ:=[]) (by decide) (by with_unfolding_all(conv=>lhs;whnf)) ?_
 intro L' outer A F
 with_reducible
  refine bw ?_
 with_reducible
  refine dp ?_
 with_reducible refine z0 60 ?_ h
 kernel_rfl
end
noncomputable def ar.func(B:ar)(t:Str)(r:Nat):ar:=(B.atom t).eR (ix t (B.atom t).texts,r)
theorem ar.jz(B:ar)(t:Str):(B.atom t).texts.length<=B.texts.length+1/\(B.atom t).bq=B.bq:=by
 unfold ar.atom;split<;>simp
theorem ar.t0(B:ar)(f:Nat×Nat):(B.eR f).bq.length<=B.bq.length+1/\(B.eR f).texts=B.texts:=by
 unfold ar.eR;split<;>simp
section
variable{C:Ctx}{K:Frag}{bN bO:ClassData}{lv:Nat}{σ:St}{Q:PV->St->Prop}{X:Prop}{a:BA}{B:ar}
theorem vz(P:PO C K bN bO){t:Str}{r:Nat}(hl:1<=lv)(hB:gI σ a B)(hz:B.texts.length<=1000000)(ow:B.bq.length<=1000000)(h:Q (.int (ix (ix t (B.atom t).texts,r) (B.func t r).bq:Nat)) (cL σ a (B.func t r))):Spec C iR lv [.loc a.x,.str t,.int r] σ Q X:=by
 refine Spec.intro (ρ:=[some (.loc a.x),some (.str t),some (.int r)]) rfl (by conv=>lhs;whnf) ?_
 intro L' outer A F
 have hx:=hB.hx
 have hd:=hB.hd
 have hB2:=hB.put (B.atom t)
 have hz2:(B.atom t).bq.length<=1000000:=by rw[(B.jz t).2];exact ow
 have h':=h
 rw[<-o0 (B:=B.atom t) hB.ne]at h'
 with_reducible
  refine bw ?_
  refine dp ?_
  refine jg P.G (by assumption) P.gd (lv:=0) P.hX P.oS P.mI P.mJ (bx (by with_unfolding_all assumption)) ?_
  refine aZ (by assumption) 0 (by ac_rfl) (by ac_rfl) ?_
 refine⟨_,_,_,rfl,by with_reducible assumption,by with_reducible assumption,by ac_rfl,?_⟩
 with_reducible
  refine cK ?_
  refine jg P.G (by assumption) P.gF (lv:=0) P.hX P.oS P.rY P.rZ (bx (by with_unfolding_all assumption)) ?_
  refine aZ (by assumption) 0 (by ac_rfl) (by ac_rfl) ?_
 refine⟨_,_,_,rfl,by with_reducible assumption,by with_reducible assumption,by ac_rfl,?_⟩
 with_reducible
  refine cK ?_
  refine aZ (by assumption) 1 (by ac_rfl) (by ac_rfl) ?_
  refine eA ?_
  refine And.intro (by ac_rfl) (kA (by assumption) (by with_reducible assumption) (by with_reducible assumption) ?_)
  refine cK ?_
  refine aZ (by assumption) 2 (by ac_rfl) (by ac_rfl) ?_
  refine eA ?_
  refine And.intro (by ac_rfl) (k9 (f:=(_,_)) (by assumption) (by with_reducible assumption) (by with_reducible assumption) ?_)
 exact h'
end
noncomputable def ar.fold(B:ar)(l:List (Str×Nat)):ar:=l.foldl (λB f=>B.func f.1 f.2) B
noncomputable def ar.empty:ar:=⟨[],[]⟩
noncomputable def o3:ar:=kB.foldl ar.atom ar.empty
noncomputable def iU:ar:=o3.fold jm
theorem s8:∀(l:List Str) (B:ar),(l.foldl ar.atom B).texts.length<=B.texts.length+l.length/\(l.foldl ar.atom B).bq=B.bq
 |[],B=>⟨aj _,rfl⟩
 |t::l,B=>by
  obtain⟨h1,h2⟩:=s8 l (B.atom t)
  obtain⟨h3,h4⟩:=B.jz t
  rw[iH]
  exact⟨by rw[ay];exact Ig [.le (.v 0) (.a (.v 1) (.v 2)),.le (.v 1) (.a (.v 3) (.n 1))] (.le (.v 0) (.a (.v 3) (.a (.v 2) (.n 1)))) [1,1] (Eq.refl true) h1 h3,h2.trans h4⟩
theorem ar.wi(B:ar)(t:Str)(r:Nat):(B.func t r).texts.length<=B.texts.length+1/\(B.func t r).bq.length<=B.bq.length+1:=by
 unfold ar.func
 obtain⟨h1,h2⟩:=(B.atom t).t0 (ix t (B.atom t).texts,r)
 obtain⟨h3,h4⟩:=B.jz t
 rw[h2];rw[h4]at h1
 exact⟨h3,h1⟩
theorem z3:∀(l:List (Str×Nat)) (B:ar),(B.fold l).texts.length<=B.texts.length+l.length/\(B.fold l).bq.length<=B.bq.length+l.length
 |[],B=>⟨aj _,aj _⟩
 |t::l,B=>by
  obtain⟨h1,h2⟩:=z3 l (B.func t.1 t.2)
  obtain⟨h3,h4⟩:=B.wi t.1 t.2
  unfold ar.fold at h1 h2⊢
  rw[iH,ay]
  exact⟨by exact Ig [.le (.v 0) (.a (.v 1) (.v 2)),.le (.v 1) (.a (.v 3) (.n 1))] (.le (.v 0) (.a (.v 3) (.a (.v 2) (.n 1)))) [1,1] (Eq.refl true) h1 h3,by exact Ig [.le (.v 0) (.a (.v 1) (.v 2)),.le (.v 1) (.a (.v 3) (.n 1))] (.le (.v 0) (.a (.v 3) (.a (.v 2) (.n 1)))) [1,1] (Eq.refl true) h2 h4⟩
section
variable{C:Ctx}{K:Frag}{bN bO:ClassData}{lv:Nat}{σ:St}{Q:PV->St->Prop}{X:Prop}{a:BA}{B:ar}
structure GD(σ hG:St)(d n:Addr)(c:dn)(k2:List (Str×PV)):Prop where
 nw:σ n=none
 nd:n≠d
 Lr:hG n=some c
 Ls:hG d=some (.cg k2)
 OD:∀b,b≠n->b≠d->hG b=σ b
section
variable{hG:St}{d n:Addr}{c:dn}{k1 k2:List (Str×PV)}
theorem uk{C:Ctx}{fr:Fm}{m9:List Stmt}{ρ:b4}{N:b4->St->Prop}{R:PV->St->Prop}{J:Bool->b4->St->Prop}{X:b4->Prop}(hd:σ d=some (.cg k1))(hn:σ n=none)(k:∀hG,GD σ hG d n c k2->hZ C fr m9 ρ hG N R J X):hZ C fr m9 ρ ((σ.upd n c).upd d (.cg k2)) N R J X:=
 have nd:=St.j0 hn hd
 k _ ⟨hn,nd,(St.bA _ _ nd).trans (St.bE _ _ _),St.bE _ _ _,λb h1 h2=>(St.bA _ _ h2).trans (St.bA _ _ h1)⟩
theorem GD.keep(h:GD σ hG d n c k2){b:Addr}{cb:dn}(hb:σ b=some cb)(hbd:b≠d):hG b=some cb:=(h.OD b (St.j0 h.nw hb).symm hbd).trans hb
theorem GD.back(h:GD σ hG d n c k2){b:Addr}(hb:hG b=none):σ b=none:=(h.OD b (St.j0 hb h.Lr) (St.j0 hb h.Ls)).symm.trans hb
end
local macro_rules |`(tactic|left)=>`(tactic|first|exact iD.str|exact iD.tup|exact iD.list (by assumption)|exact iD.list (St.bE _ _ _)|exact iD.cg (St.bE _ _ _))
set_option maxHeartbeats 150000 in
theorem vA(P:PO C K bN bO){x d:Addr}(hl:2<=lv)(hx:σ x=some (.inst 155 d))(hd:σ d=some (.cg []))(h:∀a:BA,a.x=x->a.d=d->σ a.lt=none->σ a.da=none->σ a.lf=none->σ a.df=none->gI (cL (σ.upd d (.cg (i9 a))) a iU) a iU->Q .none (cL (σ.upd d (.cg (i9 a))) a iU)):Spec C iQ lv [.loc x] σ Q X:=by
 refine Spec.intro (ρ:=[some (.loc x),none,none]) rfl (by conv=>lhs;whnf) ?_
 intro L' outer A F
 have xd:x≠d:=dZ hx hd nofun
 have ob:=λ{σ:St} {n:Addr} {c b:dn} {y:Addr} (hn:σ n=none) (hy:σ y=some b)=>show σ.upd n c y=some b from(St.bA _ _ (St.j0 hn hy).symm).trans hy
 with_reducible
  refine bw ?_
 with_reducible refine iO P.hX P.oS P.zQ ?_
 with_reducible
  refine qZ ?_
  refine eA ?_
 refine⟨bW _,λlt fg=> ?_⟩
 with_reducible
  refine aZ (by assumption) 0 (by ac_rfl) (by ac_rfl) ?_
 refine⟨x,d,_,rfl,ob fg hx,ob fg hd,by ac_rfl,bW _,uk hd fg λcQ S1=> ?_⟩
 have x1:=S1.keep hx xd
 with_reducible
  refine bw ?_
 with_reducible refine iO P.hX P.oS P.nA ?_
 with_reducible refine j1 λda F1=>⟨_,.inl rfl,?_⟩
 with_reducible
  refine aZ (by assumption) 0 (by ac_rfl) (by ac_rfl) ?_
 refine⟨x,d,_,rfl,ob F1 x1,ob F1 S1.Ls,by ac_rfl,a5 rfl,uk S1.Ls F1 λhG S2=> ?_⟩
 have x2:=S2.keep x1 xd
 with_reducible
  refine bw ?_
 with_reducible refine iO P.hX P.oS P.tM ?_
 with_reducible
  refine qZ ?_
  refine eA ?_
 refine⟨bW _,λlf Gu=> ?_⟩
 with_reducible
  refine aZ (by assumption) 0 (by ac_rfl) (by ac_rfl) ?_
 refine⟨x,d,_,rfl,ob Gu x2,ob Gu S2.Ls,by ac_rfl,a5 rfl,uk S2.Ls Gu λDi S3=> ?_⟩
 have x3:=S3.keep x2 xd
 with_reducible
  refine bw ?_
 with_reducible refine iO P.hX P.oS P.kr ?_
 with_reducible refine j1 λdf OE=>⟨_,.inr (.inr rfl),?_⟩
 with_reducible
  refine aZ (by assumption) 0 (by ac_rfl) (by ac_rfl) ?_
 refine⟨x,d,_,rfl,ob OE x3,ob OE S3.Ls,by ac_rfl,a5 rfl,uk S3.Ls OE λRM S4=> ?_⟩
 have l2:=S2.keep S1.Lr S1.nd
 have l3:=S3.keep l2 S1.nd
 have a3:=S3.keep S2.Lr S2.nd
 obtain⟨a,rfl,rfl,rfl,rfl,rfl,rfl⟩:∃a:BA,a.x=x/\a.d=d/\a.lt=lt/\a.da=da/\a.lf=lf/\a.df=df:=⟨⟨x,d,lt,da,lf,df⟩,rfl,rfl,rfl,rfl,rfl,rfl⟩
 have n:a.Ne:=⟨(St.j0 S2.nw S1.Lr).symm,(St.j0 S3.nw l2).symm,(St.j0 S4.nw l3).symm,(St.j0 S3.nw S2.Lr).symm,(St.j0 S4.nw a3).symm,(St.j0 S4.nw S3.Lr).symm,S1.nd.symm,S2.nd.symm,S3.nd.symm,S4.nd.symm,(St.j0 S1.nw hx).symm,(St.j0 S2.nw x1).symm,(St.j0 S3.nw x2).symm,(St.j0 S4.nw x3).symm,xd⟩
 have eτ:RM=cL (σ.upd a.d (.cg (i9 a))) a ar.empty:=vw a ((S4.keep l3 S1.nd).trans (gJ _ ar.empty n).symm) ((S4.keep a3 S2.nd).trans (gK _ ar.empty n).symm) ((S4.keep S3.Lr S3.nd).trans (gM _ ar.empty n).symm) (S4.Lr.trans (gN _ _ ar.empty).symm) λb h1 h2 h3 h4=>
  Eq.trans (Decidable.byCases (λe:b=a.d=>e▸S4.Ls.trans (St.bE _ _ _).symm) λe=>(S4.OD b h4 e).trans ((S3.OD b h3 e).trans ((S2.OD b h2 e).trans ((S1.OD b h1 e).trans (St.bA _ _ e).symm)))) (dB _ _ h1 h2 h3 h4).symm
 have h':=h a rfl rfl fg (S1.back F1) (S1.back (S2.back Gu)) (S1.back (S2.back (S3.back OE)))
 subst eτ
 clear h
 have at_:∀B,gI (cL (σ.upd a.d (.cg (i9 a))) a B) a B:=λB=>
  ⟨by rw[dB _ _ n.x1 n.x2 n.x3 n.x4];rw[St.bA _ _ xd];exact hx,by rw[dB _ _ n.d1 n.d2 n.d3 n.d4];exact St.bE _ _ _,gJ _ _ n,gK _ _ n,gM _ _ n,gN _ _ _,n.n2,n.d2⟩
 generalize(σ.upd a.d (.cg (i9 a)))=cQ at*
 have sz:∀k,((kB.take k).foldl ar.atom ar.empty).texts.length<=1000/\((kB.take k).foldl ar.atom ar.empty).bq=[]:=λk=>by
  have q:=s8 (kB.take k) ar.empty
  exact⟨aa q.1 (aa (aR (dR _)) (aa (nV ..) (by decide+kernel))),q.2⟩
 have Zl:∀k,(o3.fold (jm.take k)).texts.length<=2000/\(o3.fold (jm.take k)).bq.length<=2000:=λk=>by
  have q:=z3 (jm.take k) o3
  have w:=s8 kB ar.empty
  have f:=aa (nV k jm) (by decide+kernel:jm.length<=1000)
  exact⟨aa q.1 (bb (aa w.1 (by decide+kernel:_<=1000)) f),aa q.2 (bb (aa (aR (congrArg List.length w.2)) (bW 1000)) f)⟩
 with_reducible
  refine bw ?_
 with_reducible refine rm F Fn.top 1 rfl ?_
 with_reducible
  refine qx P.G (by assumption) P.pZ (lv:=0) (by ac_rfl) P.p7 (bx (by with_unfolding_all assumption)) ?_
  refine eA ?_
  refine And.intro (by ac_rfl) (wz ?_)
 refine Gi F (λk cj σ'=>(∃p,cj=[some (.loc a.x),p,none])/\σ'=cL cQ a ((kB.take k).foldl ar.atom ar.empty)) ⟨⟨_,rfl⟩,rfl⟩ ?_ ?_
 ·rintro k pv cj σ' IH ⟨⟨p,rfl⟩,rfl⟩
  obtain⟨t,ht,rfl⟩:=ai.mp (bo.symm.trans IH)
  have hB:=at_ ((kB.take k).foldl ar.atom ar.empty)
  have hx:=hB.hx
  have hd:=hB.hd
  have hz:((kB.take k).foldl ar.atom ar.empty).texts.length<=1000000:=aa (sz k).1 (by decide)
  with_reducible
   refine bw ?_
   refine pF (by assumption) ?_
   refine jg P.G (by assumption) P.gF (lv:=0) P.hX P.oS P.rY P.rZ (bx (by with_unfolding_all assumption)) ?_
   refine aZ (by assumption) 0 (by ac_rfl) (by ac_rfl) ?_
  refine⟨_,_,_,rfl,by with_reducible assumption,by with_reducible assumption,by ac_rfl,?_⟩
  with_reducible
   refine cK ?_
   refine aZ (by assumption) 1 (by ac_rfl) (by ac_rfl) ?_
   refine eA ?_
   refine And.intro (by ac_rfl) (kA (by assumption) (by with_reducible assumption) (by with_reducible assumption) ?_)
   refine gW ?_
  refine⟨⟨_,rfl⟩,?_⟩
  rw[o0 n,List.take_add_one,ht,List.foldl_append,Option.toList_some,iH,List.foldl_nil]
 ·rintro cj σ' ⟨⟨p,rfl⟩,rfl⟩
  have e1:(kB.take (kB.map PV.str).length).foldl ar.atom ar.empty=o3:=by rw[ae,eJ,o3]
  rw[e1]
  with_reducible
   refine bw ?_
  with_reducible refine rm F Fn.top 2 rfl ?_
  with_reducible
   refine qx P.G (by assumption) P.me (lv:=0) (by ac_rfl) P.mf (bx (by with_unfolding_all assumption)) ?_
   refine eA ?_
   refine And.intro (by ac_rfl) (s7 ?_)
  refine Gi F (λk cj σ'=>(∃p p2,cj=[some (.loc a.x),p,p2])/\σ'=cL cQ a (o3.fold (jm.take k))) ⟨⟨_,_,rfl⟩,rfl⟩ ?_ ?_
  ·rintro k pv cj σ' IH ⟨⟨p,p2,rfl⟩,rfl⟩
   obtain⟨f,hf,rfl⟩:=ai.mp (bo.symm.trans IH)
   have hB:=at_ (o3.fold (jm.take k))
   have hx:=hB.hx
   have hd:=hB.hd
   have hz:(o3.fold (jm.take k)).texts.length<=1000000:=aa (Zl k).1 (by decide)
   have ow:(o3.fold (jm.take k)).bq.length<=1000000:=aa (Zl k).2 (by decide)
   with_reducible
    refine bw ?_
    refine pF (by assumption) ?_
    refine jg P.G (by assumption) P.oK (lv:=1) P.hX P.oS P.C5 P.C6 (bx (by with_unfolding_all assumption)) ?_
    refine aZ (by assumption) 0 (by ac_rfl) (by ac_rfl) ?_
   refine⟨_,_,_,rfl,by with_reducible assumption,by with_reducible assumption,by ac_rfl,?_⟩
   with_reducible
    refine cK ?_
    refine gz ?_
    refine aZ (by assumption) 2 (by ac_rfl) (by ac_rfl) ?_
    refine c9 ?_
   refine⟨by left,?_⟩
   with_reducible
    refine oz (by decide) (by decide) (by ac_rfl) ?_
    refine cK ?_
    refine gz ?_
    refine aZ (by assumption) 2 (by ac_rfl) (by ac_rfl) ?_
    refine c9 ?_
   refine⟨by left,?_⟩
   with_reducible
    refine oz (by decide) (by decide) (by ac_rfl) ?_
    refine eA ?_
    refine And.intro (by ac_rfl) (vz (by assumption) (by decide) (by with_reducible assumption) (by with_reducible assumption) (by with_reducible assumption) ?_)
    refine gW ?_
   refine⟨⟨_,_,rfl⟩,?_⟩
   rw[o0 n,List.take_add_one,hf];unfold ar.fold;rw[List.foldl_append,Option.toList_some,iH,List.foldl_nil]
  ·rintro cj σ' ⟨⟨p,p2,rfl⟩,rfl⟩
   have e2:o3.fold (jm.take (jm.map λf=>PV.tup [.str f.1,.int (f.2:Nat)]).length)=iU:=by rw[ae,eJ,iU]
   rw[e2]
   with_reducible
    refine gW ?_
   exact h' (at_ iU)
noncomputable def jo(B:ar)(i:Nat):List Nat:=L ((B.texts[i]?).getD Str.empty)
noncomputable def jO(B:ar)(k n:Int):List Nat:=if k=5 then L (cm n)else di (jo B n.toNat)
noncomputable def la(B:ar)(k n:Int):Prop:=(k=5/\eT n)\/(k=4/\∃(i:Nat) (t:Str),n=i/\i<2^62/\B.texts[i]?=some t/\eU (L t))
noncomputable def i7(B:ar)(n:Int):List Nat:=match B.bq[n.toNat]?with
 |some f=>di (jo B f.1)++47::L (cm (f.2:Nat))
 |none=>[]
noncomputable def lb(B:ar)(n:Int):Prop:=∃(i:Nat) (f:Nat×Nat) (t:Str),n=i/\i<2^62/\B.bq[i]?=some f/\f.1<2^62/\B.texts[f.1]?=some t/\eU (L t)/\eT ((f.2:Nat):Int)
theorem gP{v:Int}(h:eT v):(L (cm v)).length<=1900:=by
 have e:=tz v
 rw[lX]at e
 rw[<-e,List.length_flatten]
 have:∀x∈(eE v).reverse,x.length<=18:=λx hx=>by
  rw[List.mem_reverse]at hx
  unfold eE at hx
  rcases cS.mp hx with hx|hx
  ·exact chunk_len _ x hx
  ·split at hx
   ·rw[aq.mp hx];decide
   ·cases hx
 have h2:=x8 (k:=18) (l:=(eE v).reverse.map List.length) (by intro y hy;obtain⟨x,hx,rfl⟩:=bn.mp hy;exact this x hx)
 have h3:(eE v).length<=101:=by
  unfold eE eT at*
  rw[af]
  have:(if v<0 then[[45]]else([]:List (List Nat))).length<=1:=by split<;>simp
  exact aa (bb h this) (by decide)
 rw[ae,List.length_reverse]at h2
 omega
theorem qG{t:List Nat}(h:eU t):(di t).length<=11002:=by
 unfold di
 split
 ·have:=h.1;exact aa this (by decide)
 ·have h2:=x8 (k:=11) (l:=(t.map yd).map List.length) (by intro y hy;obtain⟨x,hx,rfl⟩:=bn.mp hy;obtain⟨c,hc,rfl⟩:=bn.mp hx;exact Dc (h.2 c hc))
  rw[ae,ae]at h2
  have:=h.1
  rw[ay,af,List.flatMap,List.length_flatten];simp only[ay,pD];omega
theorem vB{k n:Int}(h:la B k n):(jO B k n).length<=11002:=by
 rcases h with⟨rfl,h⟩|⟨rfl,i,t,rfl,_,ht,h⟩
 ·have:=gP h;unfold jO;rw[if_pos rfl];exact aa this (by decide)
 ·unfold jO jo;rw[if_neg (by decide)];simp only[bJ,ht,jB];exact qG h
theorem vC{n:Int}(h:lb B n):(i7 B n).length<=13000:=by
 obtain⟨i,f,t,rfl,_,hf,_,ht,Jt,hn⟩:=h
 have l1:=qG Jt
 have l2:=gP hn
 unfold i7 jo;simp only[bJ,hf,ht,jB,af,ay];exact ak (bb l1 l2) (by decide)
end
noncomputable abbrev aN(l:List (List Nat)):List PV:=l.map λy=> .str (mk y)
section
variable{C:Ctx}{K:Frag}{bN bO:ClassData}{lv:Nat}{σ:St}{Q:PV->St->Prop}{X:Prop}{a:BA}{B:ar}
noncomputable def vD(B:ar)(p:(Int×Int)×Int):List Nat:=jO B p.1.1 p.1.2++58::L (cm p.2)
noncomputable def vE(B:ar)(p:Int×Int):List Nat:=i7 B p.1++58::L (cm p.2)
noncomputable def o4(B:ar)(kvs:List ((Int×Int)×Int)):List (List Nat):=[123]::(kvs.map (vD B)++[[125]])
noncomputable def o6(B:ar)(kvs:List (Int×Int)):List (List Nat):=[123]::(kvs.map (vE B)++[[125]])
theorem ul:L (Str.ofString ":")=[58]:=by ac_rfl
theorem qH:L (Str.ofString "{")=[123]:=by ac_rfl
theorem lh:L (Str.ofString "}")=[125]:=by ac_rfl
noncomputable def kW(B:ar)(k:Nat):dA->List (List Nat)
 |.E6 x n=>[L x++L (cm n)]
 |.con c n=>[jO B c n]
 |.num n=>if k=70 then[i7 B n]else[L (cm n)]
 |.eg kvs=>o4 B kvs
 |.tabI kvs=>o6 B kvs
noncomputable def kE(B:ar)(k:Nat):dA->Prop
 |.E6 x n=>(k=82\/k=88\/k=89)/\(L x).length<=10/\eT n
 |.con c n=>k=67/\la B c n
 |.num n=>(k=70/\lb B n)\/((k=78\/k=76)/\eT n)
 |.eg kvs=>k=84/\(kvs.map (·.1)).Nodup/\kvs.length<=100/\∀p∈kvs,la B p.1.1 p.1.2/\eT p.2
 |.tabI kvs=>k=85/\(kvs.map (·.1)).Nodup/\kvs.length<=100/\∀p∈kvs,lb B p.1/\eT p.2
noncomputable def hH(B:ar)(ks:List Nat)(os:List dA):List (List Nat):=(ks.zip os).flatMap λp=>kW B p.1 p.2
theorem z4{k:Nat}{o:dA}(h:kE B k o):(kW B k o).length<=102:=by
 cases o with
 |E6 x n=>simp[kW]
 |con c n=>simp[kW]
 |num n=>show(if k=70 then[i7 B n]else[L (cm n)]).length<=102;split<;>(show 1<=102;decide)
 |eg kvs=>have:=h.2.2.1;simp[kW,o4];exact this
 |tabI kvs=>have:=h.2.2.1;simp[kW,o6];exact this
theorem z5:∀(n:Nat) {ks:List Nat} {os:List dA},(∀(i k:Nat) (o:dA),ks[i]?=some k->os[i]?=some o->kE B k o)->ks.length<=n->(hH B ks os).length<=n*102
 |_,[],os,_,_=>by simp[hH]
 |n,k::ks,[],_,_=>by simp[hH]
 |0,k::ks,o::os,_,hn=>by simp at hn
 |n+1,k::ks,o::os,h,hn=>by
  have h1:=z4 (h 0 k o rfl rfl)
  have h2:=z5 n (ks:=ks) (os:=os) (λi k o hk ho=>h (i+1) k o (by simpa using hk) (by simpa using ho)) (by simpa using hn)
  unfold hH at h2⊢
  rw[List.zip_cons_cons,List.flatMap_cons,af]
  have Lu:(kW B (k,o).1 (k,o).2).length<=102:=h1
  rw[jA];exact qV [.le (.v 0) (.v 1),.le (.v 2) (.n 102)] (.le (.a (.v 2) (.v 0)) (.a (.v 1) (.n 102))) [1,1] (Eq.refl true) h2 Lu
theorem kR:mk [82]=Str.ofString "R":=by ac_rfl
theorem kX:mk [88]=Str.ofString "X":=by ac_rfl
theorem kY:mk [89]=Str.ofString "Y":=by ac_rfl
theorem kC:mk [67]=Str.ofString "C":=by ac_rfl
theorem kF:mk [70]=Str.ofString "F":=by ac_rfl
theorem kN:mk [78]=Str.ofString "N":=by ac_rfl
theorem kL:mk [76]=Str.ofString "L":=by ac_rfl
theorem kT:mk [84]=Str.ofString "T":=by ac_rfl
theorem kU:mk [85]=Str.ofString "U":=by ac_rfl
end
noncomputable def d0:List (Str×Str):=("get_variable","RX")::("get_value","RX")::("get_constant","CX")::("get_list","X")::("get_structure","FX")::("unify_variable","R")::("unify_value","R")::("unify_local_value","R")::("unify_constant","C")::("unify_void","N")::("put_variable","RX")::("put_void","X")::("put_value","RX")::("put_unsafe_value","YX")::("put_constant","CX")::("put_list","X")::("put_structure","FX")::("set_variable","R")::("set_value","R")::("set_local_value","R")::("set_constant","C")::("set_void","N")::("allocate","N")::("deallocate","")::("call","FN")::("execute","F")::("proceed","")::("builtin","F")::("neck_cut","")::("get_level","R")::("mark","R")::("cut_to","R")::("fail","")::("halt","")::("try","LN")::("retry","L")::("trust","L")::("switch_on_term","LLLL")::("switch_on_constant","TL")::("switch_on_structure","UL")::("meta_call","N")::("catch_push","")::("catch_exit","Y")::("catch_fail","")::("dyn_retry","")::[]
theorem yg:(d0.map (·.1)).Nodup:=by decide+kernel
noncomputable abbrev W7:dn:= .cg (d0.map λp=>(p.1,.str p.2))
section
variable{C:Ctx}{K:Frag}{bN bO:ClassData}{lv:Nat}{σ:St}{Q:PV->St->Prop}{X:Prop}{a:BA}{B:ar}
theorem GF(P:PO C K bN bO)(h:∀t,σ t=none->Q (.loc t) (σ.upd t W7)):Spec C oG lv [] σ Q X:=by
 with_reducible refine Spec.intro (ρ:=[]) (by decide) (by with_unfolding_all(conv=>lhs;whnf)) ?_
 intro L' outer A F
 with_reducible refine bw ?_
 with_reducible refine dp ?_
 with_reducible refine Bt P.G (kvs:=d0) ?_ yg ?_ ?_ h
 ·kernel_rfl
 ·decide+kernel
 ·decide+kernel
end
structure hJ where
 nm:Str
 ks:Str
 os:List dA
noncomputable def hJ.pv(i:hJ):PV:= .tup (.str i.nm::i.os.map dA.pv)
structure hJ.Ok(B:ar)(i:hJ):Prop where
 look:bT d0 i.nm=some i.ks
 len:i.os.length=(L i.ks).length
 le:(L i.ks).length<=4
 W8:i.nm.length<=100
 fits:mK (L i.ks) i.os
 ok:fX (L i.ks) i.os=true
 RN:∀(j k:Nat) (o:dA),(L i.ks)[j]?=some k->i.os[j]?=some o->kE B k o
noncomputable def z6(B:ar)(b:Int)(i:hJ):List Nat:=L (cm b)++32::e7 [32] (L i.nm::hH B (L i.ks) i.os)
noncomputable def gf(B:ar)(b:Int)(is:List hJ):List (List Nat):=(is.zipIdx).map λp=>z6 B (b+(p.2:Nat)) p.1
theorem BE{B:ar}{b:Int}{is:List hJ}{k:Nat}{i:hJ}(h:is[k]?=some i):gf B b (is.take (k+1))=gf B b (is.take k)++[z6 B (b+(k:Nat)) i]:=by
 have hk:=(an.mp h).1
 unfold gf
 rw[List.take_add_one,h,List.zipIdx_append,aI]
 simp[gg (cG hk)]
theorem yh:L (Str.ofString " ")=[32]:=by ac_rfl
theorem Es{B:ar}{k:Nat}{o:dA}(h:kE B k o):∀w∈kW B k o,w.length<=15000:=by
 cases o with
 |E6 x n=>intro w hw;have h1:=gP h.2.2;have h2:=h.2.1;rw[aq.mp hw,af];exact aa (bb h2 h1) (by decide)
 |con c n=>intro w hw;have h1:=vB h.2;rw[aq.mp hw];exact aa h1 (by decide)
 |num n=>
  intro w hw
  rcases h with⟨rfl,h⟩|⟨hk,h⟩
  ·have h1:=vC h;have:w=i7 B n:=by simpa[kW]using hw
   rw[this];exact aa h1 (by decide)
  ·have h1:=gP h
   have AR:k≠70:=by rcases hk with rfl|rfl<;>decide
   have:w=L (cm n):=by simpa[kW,AR]using hw
   rw[this];exact aa h1 (by decide)
 |eg kvs=>
  intro w hw
  rcases am.mp hw with rfl|hw
  ·decide
  ·rcases cS.mp hw with hw|hw
   ·obtain⟨p,hp,rfl⟩:=bn.mp hw
    obtain⟨h1,h2⟩:=h.2.2.2 p hp
    have:=vB h1;have:=gP h2
    rw[vD,af,ay];omega
   ·rw[aq.mp hw];decide
 |tabI kvs=>
  intro w hw
  rcases am.mp hw with rfl|hw
  ·decide
  ·rcases cS.mp hw with hw|hw
   ·obtain⟨p,hp,rfl⟩:=bn.mp hw
    obtain⟨h1,h2⟩:=h.2.2.2 p hp
    have:=vC h1;have:=gP h2
    rw[vE,af,ay];omega
   ·rw[aq.mp hw];decide
theorem Et{B:ar}{ks:List Nat}{os:List dA}(h:∀(j k:Nat) (o:dA),ks[j]?=some k->os[j]?=some o->kE B k o):∀w∈hH B ks os,w.length<=15000:=by
 intro w hw
 unfold hH at hw
 obtain⟨p,hp,hw⟩:=List.mem_flatMap.mp hw
 obtain⟨j,hj⟩:=gv hp
 rw[jH]at hj
 exact Es (h j p.1 p.2 hj.1 hj.2) w hw
theorem s9(sF:List Nat){n:Nat}:∀{l:List (List Nat)},(∀w∈l,w.length<=n)->(e7 sF l).length<=l.length*(n+sF.length)
 |[],_=>by simp[e7]
 |[x],h=>by have:=h x aJ;simp[e7];exact Nat.le_add_right_of_le this
 |x::y::r,h=>by
  have h1:=h x aJ
  have h2:=s9 sF (l:=y::r) λw hw=>h w (aM _ hw)
  rw[e7,af,af,ay,jA];exact Oq [.le (.v 0) (.v 1),.le (.v 2) (.v 3)] (.le (.a (.a (.v 0) (.v 4)) (.v 2)) (.a (.v 3) (.a (.v 1) (.v 4)))) [1,1] (Eq.refl true) h1 h2
section
open PySem.StrLaws PySem.Builtin.Str PySem.NumText PySem.W.KIN
theorem vF{x:Str}{a n:Nat}(h:a<=(L x).length):Txt.slice x (some (a:Int)) (some ((a+n:Nat):Int))=mk (((L x).drop a).take n):=by
 by_cases q:a+n<=(L x).length
 ·rw[xv ⟨aE _,cF.mpr (ax _ _),cF.mpr q⟩,bJ,Int.toNat_sub,hS]
 ·have q:=Nat.le_of_not_le q
  have e:strSliceIndices (some (a:Int)) (some ((a+n:Nat):Int)) 1 x.length=strSliceIndices (some (a:Int)) none 1 x.length:=by
   have h1:=eH.mpr (aE a)
   have h2:¬((a:Int)+(n:Int)<0):=eH.mpr (aE (a+n))
   have h3:min ((a:Int)+(n:Int)) (x.length:Int)=x.length:=Int.min_eq_right (cF.mpr (fV x▸q))
   simp[strSliceIndices,h1,h2,h3]
  have f:Txt.slice x (some (a:Int)) (some ((a+n:Nat):Int))=Txt.slice x (some (a:Int)) none:=by unfold Txt.slice;rw[e]
  have g:=jy (fT a (L x)).symm
  rw[lH h]at g
  rw[f,g,List.take_of_length_le (by rw[fF];exact Nat.sub_le_iff_le_add'.mpr q)]
theorem g7(p q:List Nat):digitsVal (p++q)=digitsVal p*10^q.length+digitsVal q:=by
 have key:∀(q:List Nat) (a:Nat),q.foldl (λacc c=>acc*10+(c-48)) a=a*10^q.length+q.foldl (λacc c=>acc*10+(c-48)) 0:=by
  intro q
  induction q with
  |nil=>intro a;simp
  |cons c q ih=>
   intro a
   rw[iH,ih,iH,ih (0*10+(c-48)),ay,pV]
   rw[Nat.add_mul,Nat.zero_mul,dR,Nat.mul_assoc,Nat.mul_comm 10,bP]
 unfold digitsVal
 rw[List.foldl_append,key]
noncomputable def kG(c:Nat):Bool:=decide (48<=c)&&decide (c<=57)
noncomputable def bz(w:List Nat):Option Nat:=if w.isEmpty||(decide (w[0]?=some 48)&& !decide (w=[48]))|| !(w.all kG)then none else some (digitsVal w)
end
section
variable{C:Ctx}{K:Frag}{bN bO:ClassData}{lv:Nat}{σ:St}{Q:PV->St->Prop}{X:Prop}{a:BA}{B:ar}
noncomputable def j3:List Nat->Option (Nat×Nat)
 |[]=>none
 |c::r=>if c=120\/c=121 then(bz r).map λv=>(c,v)else none
noncomputable def dL(B:ar):List Nat->Option ((Int×Int)×ar)
 |[]=>none
 |c::r=>if kG c then(bz (c::r)).map λv=>((5,(v:Int)),B)else
  if c=45 then(bz r).bind λv=>if v=0 then none else some ((5,-(v:Int)),B)
  else(gH (c::r)).map λt=>((4,((ix (mk t) (B.atom (mk t)).texts:Nat):Int)),B.atom (mk t))
noncomputable def dM(B:ar)(w:List Nat):Option (Int×ar):=(dK 47 w).bind λc=>if c.1=[]then none else(gH c.1).bind λt=>
 (bz c.2).map λr=>(((ix (ix (mk t) (B.atom (mk t)).texts,r) (B.func (mk t) r).bq:Nat):Int),B.func (mk t) r)
theorem eU.take{l:List Nat}(h:eU l)(n:Nat):eU (l.take n):=⟨by have:=h.1;rw[fG];omega,λc hc=>h.2 c (js hc)⟩
end
theorem Eu{C:Ctx}{fr:Fm}{ρ:b4}{σ:St}{Q:PV->St->Prop}{X:Prop}{l:Addr}{xs:List PV}{pv:PV}{n:Nat}(hc:σ l=some (.list xs))(hn:n<2^62)(hx:xs[n]?=some pv)(h:Q pv σ):W2 C fr getItem (.loc l) (.int (n:Nat)) ρ σ Q X:=
 eD hc (by exact aE _) (by exact sH [.lt (.v 0) (.n 4611686018427387904)] (.A2 (.c (.v 0)) (.n 9223372036854775808)) [1] (Eq.refl true) hn) (by simpa using hx) h
theorem z7{acc:List ((Int×Int)×Int)}{k n:Int}:(bT (qE acc) [k,n]).isSome=decide ((k,n)∈acc.map (·.1)):=by
 unfold qE bT
 induction acc with
 |nil=>rfl
 |cons p r ih=>
  rw[aP,List.find?_cons,aP]
  by_cases e:p.1=(k,n)
  ·obtain⟨⟨p1,p2⟩,p3⟩:=p;cases e;simp
  ·have e':([p.1.1,p.1.2]:List Int)≠[k,n]:=λq=>e (by simp at q;exact Prod.ext q.1 q.2)
   have e2:(k,n)≠p.1:=λq=>e q.symm
   simp only[e',decide_false,ih,am,e2,false_or]
theorem GG{acc:List (Int×Int)}{n:Int}:(bT acc n).isSome=decide (n∈acc.map (·.1)):=by
 unfold bT
 induction acc with
 |nil=>rfl
 |cons p r ih=>
  rw[List.find?_cons,aP]
  by_cases e:p.1=n
  ·simp[e]
  ·have e2:n≠p.1:=λq=>e q.symm
   simp only[e,decide_false,ih,am,e2,false_or]
noncomputable def xz{κ:Type}[DecidableEq κ](rd:ar->List Nat->Option (κ×ar))(B:ar)(acc:List (κ×Int))(a b:List Nat):Option ((κ×ar)×Nat):=(rd B a).bind λq=>if q.1∈acc.map (·.1)then none else(bz b).map λv=>(q,v)
noncomputable def eV{κ:Type}[DecidableEq κ](rd:ar->List Nat->Option (κ×ar))(B:ar)(acc:List (κ×Int)):List (List Nat)->Option (List (κ×Int)×ar×List (List Nat))
 |[]=>none
 |w::ws=>if w=[125]then some (acc,B,ws)else(dK 58 w).bind λc=>if c.1=[]then none else
  (xz rd B acc c.1 c.2).bind λe=>eV rd e.1.2 (acc++[(e.1.1,(e.2:Int))]) ws
theorem eO{α:Type}{c:Prop}[Decidable c]{o:Option α}{x:α}(h:(if c then none else o)=some x):¬c/\o=some x:=Decidable.byCases (λe:c=>nomatch(if_pos e).symm.trans h) λe=>⟨e,(if_neg e).symm.trans h⟩
theorem BF{κ:Type}[DecidableEq κ]{rd:ar->List Nat->Option (κ×ar)}{B:ar}{acc:List (κ×Int)}{w:List Nat}{ws:List (List Nat)}{x:List (κ×Int)×ar×List (List Nat)}{G:Prop}(h:eV rd B acc (w::ws)=some x)(k0:x=(acc,B,ws)->G)
 (k1:∀a q v,rd B a=some q->q.1∉acc.map (·.1)->eV rd q.2 (acc++[(q.1,v)]) ws=some x->G):G:=by
 rw[eV]at h
 by_cases e:w=[125]
 ·rw[if_pos e]at h;exact k0 (ao h).symm
 ·rw[if_neg e]at h
  exact(ah.mp h).elim λc h=>(ah.mp (eO h.2).2).elim λe h=>(ah.mp h.1).elim λq h'=>
   (ai.mp (eO h'.2).2).elim λv hv=>k1 c.1 e.1 e.2 (hv.2▸h'.1) (hv.2▸(eO h'.2).1) h.2
theorem li{B:ar}{w:List Nat}{q:(Int×Int)×ar}(h:dL B w=some q):q.2.texts.length<=B.texts.length+1/\q.2.bq.length<=B.bq.length+1:=by
 cases w with
 |nil=>cases h
 |cons c r=>
  rw[dL]at h
  by_cases h1:kG c=true
  ·rw[if_pos h1]at h;exact(ai.mp h).elim λv e=>e.2▸⟨bF _,bF _⟩
  rw[if_neg h1]at h
  by_cases h2:c=45
  ·rw[if_pos h2]at h;exact(ah.mp h).elim λv e=>ao (eO e.2).2▸⟨bF _,bF _⟩
  rw[if_neg h2]at h
  exact(ai.mp h).elim λv e=>e.2▸⟨(B.jz _).1,(B.jz _).2▸bF _⟩
theorem lj{B:ar}{w:List Nat}{q:Int×ar}(h:dM B w=some q):q.2.texts.length<=B.texts.length+1/\q.2.bq.length<=B.bq.length+1:=
 (ah.mp h).elim λc h=>(ah.mp (eO h.2).2).elim λt h=>(ai.mp h.2).elim λv e=>e.2▸B.wi _ _
section
variable{C:Ctx}{K:Frag}{bN bO:ClassData}{lv:Nat}{σ:St}{Q:PV->St->Prop}{X:Prop}{a:BA}{B:ar}
noncomputable def eP(B:ar)(k:Nat)(w:List Nat):Option (dA×ar):=
 if k=82\/k=88\/k=89 then(j3 w).map λp=>(.E6 (mk [p.1]) (p.2:Nat),B)
 else if k=67 then(dL B w).map λp=>(.con p.1.1 p.1.2,p.2)
 else if k=70 then(dM B w).map λp=>(.num p.1,p.2)
 else(bz w).map λv=>(.num (v:Nat),B)
noncomputable def iE:List Nat->List (List Nat)
 |[]=>[[]]
 |c::r=>if c=32 then[]::iE r else match iE r with
  |[]=>[[c]]
  |w::ws=>(c::w)::ws
theorem yi(l:List Nat):iE l≠[]:=by
 cases l with
 |nil=>simp[iE]
 |cons c r=>
  unfold iE;split
  ·simp
  ·split<;>simp
theorem GH{w:List Nat}(h:32∉w):iE w=[w]:=by
 induction w with
 |nil=>rfl
 |cons c r ih=>
  have h1:c≠32:=λe=>h (by simp[e])
  rw[iE,if_neg h1,ih λq=>h (aM _ q)]
theorem Ju{w:List Nat}(h:32∉w)(r:List Nat):iE (w++32::r)=w::iE r:=by
 induction w with
 |nil=>rw[dY,iE,if_pos rfl]
 |cons c w ih=>
  have h1:c≠32:=λe=>h (by simp[e])
  rw[fE,iE,if_neg h1,ih λq=>h (aM _ q)]
theorem vG:∀{ws:List (List Nat)},ws≠[]->(∀w∈ws,32∉w)->iE (e7 [32] ws)=ws
 |[],h,_=>absurd rfl h
 |[w],_,h=>GH (h w aJ)
 |w::y::r,_,h=>by
  rw[e7,aC,List.singleton_append,Ju (h w aJ),vG (jG _ _) λz hz=>h z (aM _ hz)]
open PySem.StrLaws PySem.Builtin.Str in
theorem GI(x:Str):(Txt.split x (mk [32])).map L=iE (L x):=by
 have h1:=congrArg L (join_split x (mk [32]))
 have h2:L (Str.join (mk [32]) (Txt.split x (mk [32])))=e7 [32] ((Txt.split x (mk [32])).map L):=by rw[<-glued_eq_join];have:=Bx (mk [32]) (Txt.split x (mk [32]));rw[dr]at this;exact this
 rw[<-h1,h2,vG]
 ·intro e
  have:Txt.split x (mk [32])=[]:=List.map_eq_nil_iff.mp e
  unfold Txt.split at this
  split at this
  ·cases this
  ·split at this
   ·cases this
   ·rw[partsBetween_eq]at this
    obtain⟨p,r,e⟩:=partsFrom_ne x (mk [32]).length 0 (occurrences x (mk [32]) 0 x.length (x.length+1))
    rw[e]at this;cases this
 ·intro w hw
  obtain⟨y,hy,rfl⟩:=bn.mp hw
  exact split_free x 32 y hy
end
noncomputable def cB:List Nat:=[82,88,89,67,70,78,76,84,85]
theorem mO:∀p∈d0,(L p.2).length<=4/\p.1.length<=100/\∀k∈L p.2,k∈cB:=by
 have:d0.all (λp=>decide ((L p.2).length<=4)&&decide (p.1.length<=100)&&(L p.2).all λk=>decide (k∈cB))=true:=by decide+kernel
 intro p hp
 have:=aB.mp this p hp
 simp only[Bool.and_eq_true,decide_eq_true_eq,aB]at this
 exact⟨this.1.1,this.1.2,this.2⟩
theorem ta{K V:Type}[DecidableEq K]{kvs:List (K×V)}{k:K}{v:V}(h:bT kvs k=some v):(k,v)∈kvs:=by
 unfold bT at h
 obtain⟨p,hp,rfl⟩:=ai.mp h
 have h1:=List.mem_of_find?_eq_some hp
 have h2:=List.find?_some hp
 have h3:p.1=k:=by simpa using h2
 rw[<-h3];exact h1
noncomputable def eQ{κ:Type}[DecidableEq κ](rd:ar->List Nat->Option (κ×ar))(f:List (κ×Int)->dA)(B:ar):List (List Nat)->Option (dA×ar×List (List Nat))
 |[]=>none
 |w::r=>if w=[123]then(eV rd B [] r).map λp=>(f p.1,p.2)else none
noncomputable def um(B:ar)(k:Nat)(ws:List (List Nat)):Option (dA×ar×List (List Nat)):=if k=84 then eQ dL .eg B ws else eQ dM .tabI B ws
noncomputable def kH(B:ar)(k:Nat):List (List Nat)->Option (dA×ar×List (List Nat))
 |[]=>none
 |w::r=>if k=84\/k=85 then um B k (w::r)else(eP B k w).map λp=>(p.1,p.2,r)
noncomputable def dv(B:ar):List Nat->List (List Nat)->Option (List dA×ar)
 |[],ws=>if ws=[]then some ([],B)else none
 |k::ks,ws=>(kH B k ws).bind λp=>(dv p.2.1 ks p.2.2).map λq=>(p.1::q.1,q.2)
noncomputable def io(B:ar):List (List Nat)->Option (hJ×ar)
 |[]=>none
 |w::r=>(bT d0 (mk w)).bind λks=>(dv B (L ks) r).bind λp=>if fX (L ks) p.1 then some (⟨mk w,ks,p.1⟩,p.2)else none
structure OF(B B':ar)(ws rs:List (List Nat)):Prop where
 RO:rs<:+ws
 lt:rs.length<ws.length
 bt:B'.texts.length+rs.length<=B.texts.length+ws.length
 bf:B'.bq.length+rs.length<=B.bq.length+ws.length
theorem OF.one{B B':ar}{w:List Nat}{rs:List (List Nat)}(h:B'.texts.length<=B.texts.length+1/\B'.bq.length<=B.bq.length+1):OF B B' (w::rs) rs:=⟨mZ ..,cU _,aa (b7 h.1 _) (aR (dc _ 1 _)),aa (b7 h.2 _) (aR (dc _ 1 _))⟩
theorem OF.trans{B B1 B2:ar}{a b c:List (List Nat)}(h:OF B B1 a b)(k:OF B1 B2 b c):OF B B2 a c:=⟨k.RO.trans h.RO,dj k.lt h.lt,aa k.bt h.bt,aa k.bf h.bf⟩
theorem yj{κ:Type}[DecidableEq κ]{rd:ar->List Nat->Option (κ×ar)}(RP:∀{B w q},rd B w=some q->q.2.texts.length<=B.texts.length+1/\q.2.bq.length<=B.bq.length+1){ws:List (List Nat)}:
 ∀{B:ar} {acc:List (κ×Int)} {x:List (κ×Int)×ar×List (List Nat)},eV rd B acc ws=some x->(acc.map (·.1)).Nodup->OF B x.2.1 ws x.2.2/\(x.1.map (·.1)).Nodup:=by
 induction ws with
 |nil=>exact nofun
 |cons w ws ih=>
  exactλ{B acc x} h hn=>BF h (λe=>e▸⟨.one ⟨bF _,bF _⟩,hn⟩) λa q v h1 hm h=>
   have i:=ih h (by rw[aI];exact gq.mpr ⟨hn,dy.mpr ⟨aU,dP⟩,λy hy z hz e=>hm ((show y=q.1 from e.trans (aq.mp hz))▸hy)⟩)
   ⟨(OF.one (RP h1)).trans i.1,i.2⟩
theorem qm{κ:Type}[DecidableEq κ]{rd:ar->List Nat->Option (κ×ar)}(RP:∀{B w q},rd B w=some q->q.2.texts.length<=B.texts.length+1/\q.2.bq.length<=B.bq.length+1){f:List (κ×Int)->dA}{x:Str}(hf:∀{kvs:List (κ×Int)},(kvs.map (·.1)).Nodup->(f kvs).fits x)
 {B:ar} {ws:List (List Nat)} {p:dA×ar×List (List Nat)} (h:eQ rd f B ws=some p):p.1.fits x/\OF B p.2.1 ws p.2.2:=by
 cases ws with
 |nil=>cases h
 |cons w r=>
  rw[eQ]at h
  by_cases e:w=[123]
  ·rw[if_pos e]at h
   exact(ai.mp h).elim λx h=>h.2▸have i:=yj RP h.1 dP
    ⟨hf i.2,(OF.one ⟨bF _,bF _⟩:OF B B (w::r) r).trans i.1⟩
  ·rw[if_neg e]at h;cases h
theorem vH{k c:Nat}{x:Str}(e:k=c)(h:mk [c]=x):mk [k]=x:=e▸h
theorem wA{B:ar}{k:Nat}{w:List Nat}{p:dA×ar}(hk:k∈[82,88,89,67,70,78,76])(h:eP B k w=some p):p.1.fits (mk [k])/\p.2.texts.length<=B.texts.length+1/\p.2.bq.length<=B.bq.length+1:=by
 rw[eP]at h
 by_cases h1:k=82\/k=88\/k=89
 ·rw[if_pos h1]at h
  exact(ai.mp h).elim λq h=>h.2▸⟨h1.imp (vH · kR) (Or.imp (vH · kX) (vH · kY)),bF _,bF _⟩
 rw[if_neg h1]at h
 by_cases h2:k=67
 ·rw[if_pos h2]at h
  exact(ai.mp h).elim λq h=>h.2▸⟨vH h2 kC,li h.1⟩
 rw[if_neg h2]at h
 by_cases h3:k=70
 ·rw[if_pos h3]at h
  exact(ai.mp h).elim λq h=>h.2▸⟨.inl (vH h3 kF),lj h.1⟩
 rw[if_neg h3]at h
 exact(ai.mp h).elim λq h=>h.2▸⟨.inr (((by decide:∀k∈[82,88,89,67,70,78,76],¬(k=82\/k=88\/k=89)->k≠67->k≠70->k=78\/k=76) k hk h1 h2 h3).imp (vH · kN) (vH · kL)),bF _,bF _⟩
theorem qI{k:Nat}(h:k∈cB):(k=84\/k=85)\/k∈[82,88,89,67,70,78,76]:=(by decide:∀k∈cB,(k=84\/k=85)\/k∈[82,88,89,67,70,78,76]) k h
theorem gQ{B:ar}{k:Nat}(hk:k∈cB){ws:List (List Nat)}{p:dA×ar×List (List Nat)}(h:kH B k ws=some p):p.1.fits (mk [k])/\OF B p.2.1 ws p.2.2:=by
 cases ws with
 |nil=>cases h
 |cons w r=>
  rw[kH]at h
  by_cases hT:k=84\/k=85
  ·rw[if_pos hT]at h
   rcases hT with rfl|rfl
   ·exact qm (rd:=dL) (f:= .eg) li (λh=>⟨kT,h⟩) h
   ·exact qm (rd:=dM) (f:= .tabI) lj (λh=>⟨kU,h⟩) h
  ·rw[if_neg hT]at h
   exact(ai.mp h).elim λq h=>h.2▸have i:=wA ((qI hk).resolve_left hT) h.1
    ⟨i.1,.one i.2⟩
theorem lz{ks:List Nat}:∀{ws:List (List Nat)} {B:ar} {p:List dA×ar},(∀k∈ks,k∈cB)->dv B ks ws=some p->mK ks p.1/\p.2.texts.length<=B.texts.length+ws.length/\p.2.bq.length<=B.bq.length+ws.length:=by
 induction ks with
 |nil=>
  intro ws B p _ h
  rw[dv]at h
  by_cases e:ws=[]
  ·rw[if_pos e]at h;cases ao h;exact⟨trivial,ax _ _,ax _ _⟩
  ·rw[if_neg e]at h;cases h
 |cons k ks ih=>
  exactλ{ws B p} hk h=>(ah.mp h).elim λx h=>(ai.mp h.2).elim λq h'=>h'.2▸
   have f:=gQ (hk k aJ) h.1
   have g:=ih (λk h=>hk k (aM _ h)) h'.1
   ⟨⟨f.1,g.1⟩,aa g.2.1 f.2.bt,aa g.2.2 f.2.bf⟩
section
open PySem.NumText PySem.W.KIN
theorem mP:∀{w:List Nat},AllDigits w->digitsVal w<10^w.length
 |[],_=>by decide
 |c::l,h=>by
  have h1:=mP (w:=l) λd hd=>h d (aM _ hd)
  have h2:=h c aJ
  have e0:digitsVal (c::l)=digitsVal [c]*10^l.length+digitsVal l:=by rw[<-g7];rfl
  have e:digitsVal [c]=c-48:=by unfold digitsVal;simp
  rw[e0,e,ay,pV]
  have h3:(c-48)*10^l.length<=9*10^l.length:=eY _ (by exact n8 [.le (.v 0) (.n 57),.eq (.a (.v 1) (.n 48)) (.v 0)] (.le (.v 1) (.n 9)) [1,1] (Eq.refl true) h2.2 (wu (sH [.le (.n 48) (.v 0)] (.le (.n 48) (.v 0)) [1] (Eq.refl true) h2.1)))
  omega
noncomputable def yk:Nat:=10^500
theorem r6{w:List Nat}{v:Nat}(h:bz w=some v):v<10^w.length:=by
 unfold bz at h
 split at h
 ·cases h
 ·rename_i hb
  cases h
  refine mP λc hc=> ?_
  have ha:w.all kG=true:=by
   cases q:w.all kG with
   |true=>rfl
   |false=>rw[q]at hb;simp at hb
  have:=aB.mp ha c hc
  unfold kG at this;simpa using this
theorem wC{w:List Nat}{v:Nat}(h:bz w=some v)(hw:w.length<=500):v<yk:=
 av (r6 h) (nW (by decide) hw)
theorem BG:yk<2^1920:=by decide+kernel
theorem Jv{v:Nat}(h:v<yk):v.log2<1920:=by
 by_cases h0:v=0
 ·subst h0;decide
 ·exact(Nat.log2_lt h0).mpr (dj h BG)
theorem Jw{v:Nat}(h:v<yk):(Str.ofString (toString (v:Int))).length<=500:=x9 (k:=499) h
noncomputable def tR(B:ar):List (List Nat)->Option (Nat×hJ×ar)
 |w0::w1::ws=>(bz w0).bind λad=>(io B (w1::ws)).map λp=>(ad,p.1,p.2)
 |_=>none
noncomputable def iV(B:ar)(w:List Nat):Option (Nat×hJ×ar):=if[]∈iE w then none else tR B (iE w)
noncomputable def mQ(base:Option Nat)(j ad:Nat):Option Nat:=base.elim (some ad) λb=>if ad=b+j then some b else none
noncomputable def dw(B:ar)(base:Option Nat)(k:Nat):List (List Nat)->Option (List hJ×ar)
 |[]=>some ([],B)
 |w::r=>(iV B w).bind λq=>(mQ base k q.1).bind λb=>(dw q.2.2 (some b) (k+1) r).map λp=>(q.2.1::p.1,p.2)
theorem tS{B:ar}{ws:List (List Nat)}{p:hJ×ar}(h:io B ws=some p):p.2.texts.length<=B.texts.length+ws.length/\p.2.bq.length<=B.bq.length+ws.length:=by
 cases ws with
 |nil=>cases h
 |cons w r=>
  refine(ah.mp h).elim λks h=>(ah.mp h.2).elim λx h'=> ?_
  have f:=lz (mO _ (ta h.1)).2.2 h'.1
  have h2:=h'.2
  by_cases e:fX (L ks) x.1=true
  ·rw[if_pos e]at h2;exact ao h2▸⟨dQ f.2.1,dQ f.2.2⟩
  ·rw[if_neg e]at h2;cases h2
noncomputable def BH(rows:List (List Nat)):Prop:=∀r∈rows,r.length<=1000000/\(iE r).length<=900/\∀w∈iE r,eU w/\w.length<=500
end
structure PA where
 p:Addr
 lf:Addr
 d6:List Nat
noncomputable def Lv(pa:PA)(pos mix:Nat):dn:= .list [.loc pa.lf,.int pos,.int mix]
structure vI(σ:St)(pa:PA)(pos mix:Nat):Prop where
 hp:σ pa.p=some (Lv pa pos mix)
 hf:σ pa.lf=some (.list (pa.d6.map λn=> .int (n:Nat)))
 ne:pa.p≠pa.lf
 le:pa.d6.length<=1000
noncomputable def pL(σ:St)(pa:PA)(pos mix:Nat):St:=σ.upd pa.p (Lv pa pos mix)
section
variable{C:Ctx}{K:Frag}{bN bO:ClassData}{lv:Nat}{σ:St}{Q:PV->St->Prop}{X:Prop}{pa:PA}{pos mix:Nat}
theorem vI.put(h:vI σ pa pos mix)(q m:Nat):vI (pL σ pa q m) pa q m:=⟨St.bE _ _ _,by unfold pL;rw[St.bA _ _ h.ne.symm];exact h.hf,h.ne,h.le⟩
noncomputable def nE(fs:List Nat)(pos mix:Nat):Nat×Nat×Nat:=if pos<fs.length then(fs.getD pos 0,pos+1,mix)else if fs.length<3 then(0,pos,mix)else((mix*37+11)%1009,pos,(mix*37+11)%1009)
local macro_rules |`(tactic|left)=>`(tactic|first|exact iD.str|exact iD.tup|exact iD.list (by assumption)|exact iD.list (St.bE _ _ _)|exact iD.cg (St.bE _ _ _))
theorem z8(P:PO C K bN bO){n:Nat}(hn:0<n)(hP:vI σ pa pos mix)(h:Q (.int ((nE pa.d6 pos mix).1%n:Nat)) (pL σ pa (nE pa.d6 pos mix).2.1 (nE pa.d6 pos mix).2.2)):Spec C jk lv [.loc pa.p,.int n] σ Q X:=by
 refine Spec.intro (ρ:=[some (.loc pa.p),some (.int n),none]) rfl (by conv=>lhs;whnf) ?_
 intro L' outer A F
 have hp:=hP.hp
 have hf:=hP.hf
 have Lw:=hP.le
 have pv0:([.loc pa.lf,.int pos,.int mix]:List PV)[((0:Int)).toNat]?=some (.loc pa.lf):=rfl
 have pv1:([.loc pa.lf,.int pos,.int mix]:List PV)[((1:Int)).toNat]?=some (.int pos):=rfl
 have pv2:([.loc pa.lf,.int pos,.int mix]:List PV)[((2:Int)).toNat]?=some (.int mix):=rfl
 have yR:σ pa.p=some (.list [.loc pa.lf,.int pos,.int mix]):=hp
 have pR:∀(f q m:Nat) (σ':St),nE pa.d6 pos mix=(f,q,m)->σ'=pL σ pa q m->Q (.int ((f:Int)%(n:Int))) σ':=λf q m σ' e0 e=>by
  rw[e];rw[e0,Int.natCast_emod]at h;exact h
 have same:σ=pL σ pa pos mix:=by
  funext b;unfold pL;by_cases e:b=pa.p
  ·subst e;rw[St.bE];exact hp
  ·rw[St.bA _ _ e]
 by_cases fg:pos<pa.d6.length
 ·obtain⟨f,Zm⟩:∃f,pa.d6[pos]?=some f:=⟨pa.d6[pos],aA fg⟩
  have hfv:(pa.d6.map λn=>PV.int (n:Nat))[pos]?=some (.int (f:Nat)):=by simp[Zm]
  have h62:pos<2^62:=by exact aa fg (aa Lw (by decide))
  have hc:decide ((pos:Int)<((pa.d6.map λn=>PV.int (n:Nat)).length:Nat))=true:=decide_eq_true (by simp;exact fg)
  with_reducible
   refine bw ?_
   refine th ?_
   refine gw ?_
   refine gz ?_
   refine aZ (by assumption) 0 (by ac_rfl) (by ac_rfl) ?_
   refine c9 ?_
  refine⟨by left,?_⟩
  with_reducible
   refine eD (by with_reducible assumption) (by decide) (by decide) (by with_reducible assumption) ?_
   refine iq P.G (by assumption) (by ac_rfl) P.rT P.rU ?_
   refine cK ?_
   refine gz ?_
   refine aZ (by assumption) 0 (by ac_rfl) (by ac_rfl) ?_
   refine c9 ?_
  refine⟨by left,?_⟩
  with_reducible
   refine eD (by with_reducible assumption) (by decide) (by decide) (by with_reducible assumption) ?_
   refine eA ?_
   refine iC (by assumption) ?_ ?_
  simp;exact ak Lw (by decide)
  with_reducible
   refine CN ?_
   refine et ?_
   refine Gg (by with_reducible assumption) ?_
   refine bw ?_
   refine fv (by assumption) 2 (by ac_rfl) ?_
   refine gz ?_
   refine gz ?_
   refine aZ (by assumption) 0 (by ac_rfl) (by ac_rfl) ?_
   refine c9 ?_
  refine⟨by left,?_⟩
  with_reducible
   refine eD (by with_reducible assumption) (by decide) (by decide) (by with_reducible assumption) ?_
   refine gz ?_
   refine aZ (by assumption) 0 (by ac_rfl) (by ac_rfl) ?_
   refine c9 ?_
  refine⟨by left,?_⟩
  with_reducible
   refine eD (by with_reducible assumption) (by decide) (by decide) (by with_reducible assumption) ?_
  refine⟨by left,?_⟩
  with_reducible
   refine Eu (by with_reducible assumption) (by with_reducible assumption) (by with_reducible assumption) ?_
   refine bw ?_
   refine mz ?_
   refine aZ (by assumption) 0 (by ac_rfl) (by ac_rfl) ?_
   refine c9 ?_
   refine eD (by with_reducible assumption) (by decide) (by decide) (by with_reducible assumption) ?_
   refine c9 ?_
   refine CM ?_
  with_reducible refine sR yR (by decide) (by decide) (by simp) ?_
  with_reducible
   refine gW ?_
   refine bw ?_
   refine dp ?_
   refine ke ?_
   refine aZ (by assumption) 2 (by ac_rfl) (by ac_rfl) ?_
   refine aZ (by assumption) 1 (by ac_rfl) (by ac_rfl) ?_
  with_reducible refine sO (by omega) ?_
  exact pR f (pos+1) mix _ (by unfold nE;rw[if_pos fg,de,Zm];rfl) rfl
 ·have hc:decide ((pos:Int)<((pa.d6.map λn=>PV.int (n:Nat)).length:Nat))=false:=decide_eq_false (by simp;exact cq fg)
  with_reducible
   refine bw ?_
   refine th ?_
   refine gw ?_
   refine gz ?_
   refine aZ (by assumption) 0 (by ac_rfl) (by ac_rfl) ?_
   refine c9 ?_
  refine⟨by left,?_⟩
  with_reducible
   refine eD (by with_reducible assumption) (by decide) (by decide) (by with_reducible assumption) ?_
   refine iq P.G (by assumption) (by ac_rfl) P.rT P.rU ?_
   refine cK ?_
   refine gz ?_
   refine aZ (by assumption) 0 (by ac_rfl) (by ac_rfl) ?_
   refine c9 ?_
  refine⟨by left,?_⟩
  with_reducible
   refine eD (by with_reducible assumption) (by decide) (by decide) (by with_reducible assumption) ?_
   refine eA ?_
   refine iC (by assumption) ?_ ?_
  simp;exact ak Lw (by decide)
  with_reducible
   refine CN ?_
   refine et ?_
   refine Gh (by with_reducible assumption) ?_
   refine bw ?_
   refine th ?_
   refine gw ?_
   refine iq P.G (by assumption) (by ac_rfl) P.rT P.rU ?_
   refine cK ?_
   refine gz ?_
   refine aZ (by assumption) 0 (by ac_rfl) (by ac_rfl) ?_
   refine c9 ?_
  refine⟨by left,?_⟩
  with_reducible
   refine eD (by with_reducible assumption) (by decide) (by decide) (by with_reducible assumption) ?_
   refine eA ?_
   refine iC (by assumption) ?_ ?_
  simp;exact ak Lw (by decide)
  with_reducible
   refine c9 ?_
   refine CN ?_
   refine et ?_
   refine UJ (λh=> ?_) (λh=> ?_)<;>first|exact W9 h|exact Xa h|exact Xc h|exact Xd h|skip
   refine bw ?_
   refine fv (by assumption) 2 (by ac_rfl) ?_
   refine c9 ?_
   refine gW ?_
   refine gW ?_
   refine bw ?_
   refine dp ?_
   refine ke ?_
   refine aZ (by assumption) 2 (by ac_rfl) (by ac_rfl) ?_
   refine aZ (by assumption) 1 (by ac_rfl) (by ac_rfl) ?_
  rotate_left
  with_reducible
   refine bw ?_
   refine dW ?_
   refine ke ?_
   refine ke ?_
   refine ke ?_
   refine gz ?_
   refine aZ (by assumption) 0 (by ac_rfl) (by ac_rfl) ?_
   refine c9 ?_
  refine⟨by left,?_⟩
  with_reducible
   refine eD (by with_reducible assumption) (by decide) (by decide) (by with_reducible assumption) ?_
   refine c9 ?_
  rotate_right 1
  ·with_reducible refine sO (by omega) ?_
   exact pR 0 pos mix _ (by unfold nE;rw[if_neg fg,if_pos (by have:=of_decide_eq_true ‹_›;simp at this;exact bI.mp this)]) same
  ·with_reducible refine Bc (xU (by decide) (by decide)) ?_
   with_reducible
    refine c9 ?_
    refine FE ?_
    refine c9 ?_
    refine sO (by decide) ?_
    refine aZ (by assumption) 0 (by ac_rfl) (by ac_rfl) ?_
    refine c9 ?_
   with_reducible refine sR yR (by decide) (by decide) (by simp) ?_
   have pv3:(([.loc pa.lf,.int pos,.int mix]:List PV).set ((2:Int)).toNat (.int (((mix:Int)*37+11)%1009)))[((2:Int)).toNat]?=some (.int (((mix:Int)*37+11)%1009)):=rfl
   have hp2:(σ.upd pa.p (.list (([.loc pa.lf,.int pos,.int mix]:List PV).set ((2:Int)).toNat (.int (((mix:Int)*37+11)%1009))))) pa.p=some (.list (([.loc pa.lf,.int pos,.int mix]:List PV).set ((2:Int)).toNat (.int (((mix:Int)*37+11)%1009)))):=St.bE _ _ _
   with_reducible
    refine bw ?_
    refine fv (by assumption) 2 (by ac_rfl) ?_
    refine gz ?_
    refine aZ (by assumption) 0 (by ac_rfl) (by ac_rfl) ?_
    refine c9 ?_
   refine⟨by left,?_⟩
   with_reducible
    refine eD (by with_reducible assumption) (by decide) (by decide) (by with_reducible assumption) ?_
    refine gW ?_
    refine gW ?_
    refine bw ?_
    refine dp ?_
    refine ke ?_
    refine aZ (by assumption) 2 (by ac_rfl) (by ac_rfl) ?_
    refine aZ (by assumption) 1 (by ac_rfl) (by ac_rfl) ?_
   with_reducible refine sO (by omega) ?_
   have e:(((mix:Int)*37+11)%1009)=(((mix*37+11)%1009:Nat):Int):=by exact rfl
   rw[e]
   exact pR ((mix*37+11)%1009) pos ((mix*37+11)%1009) _ (by unfold nE;rw[if_neg fg,if_neg (by have:=of_decide_eq_false ‹_›;simp at this;exact sH [.Ie (.n 3) (.c (.v 0))] (.no (.lt (.v 0) (.n 3))) [1] (Eq.refl true) this)]) rfl
end
structure ar.le(B B':ar):Prop where
 t:∃l,B'.texts=B.texts++l
 f:∃l,B'.bq=B.bq++l
theorem ar.le_refl(B:ar):B.le B:=⟨⟨[],by simp⟩,⟨[],by simp⟩⟩
theorem ar.le.trans{A B D:ar}(h:A.le B)(k:B.le D):A.le D:=by
 obtain⟨⟨a,ha⟩,⟨b,hb⟩⟩:=h;obtain⟨⟨c,hc⟩,⟨d,hd⟩⟩:=k
 exact⟨⟨a++c,by rw[hc,ha,aC]⟩,⟨b++d,by rw[hd,hb,aC]⟩⟩
theorem ar.DT(B:ar)(t:Str):B.le (B.atom t):=by
 unfold ar.atom;split
 ·exact B.le_refl
 ·exact⟨⟨[t],rfl⟩,⟨[],by simp⟩⟩
theorem ar.Cu(B:ar)(f:Nat×Nat):B.le (B.eR f):=by
 unfold ar.eR;split
 ·exact B.le_refl
 ·exact⟨⟨[],by simp⟩,⟨[f],rfl⟩⟩
theorem ar.KR(B:ar)(t:Str)(r:Nat):B.le (B.func t r):=(B.DT t).trans (ar.Cu _ _)
theorem ar.le.text{B B':ar}(h:B.le B'){i:Nat}{t:Str}(e:B.texts[i]?=some t):B'.texts[i]?=some t:=by
 obtain⟨⟨l,hl⟩,_⟩:=h
 rw[hl,cp (an.mp e).1];exact e
theorem ar.le.fun{B B':ar}(h:B.le B'){i:Nat}{t:Nat×Nat}(e:B.bq[i]?=some t):B'.bq[i]?=some t:=by
 obtain⟨_,⟨l,hl⟩⟩:=h
 rw[hl,cp (an.mp e).1];exact e
theorem qJ{α:Type}[DecidableEq α]{k:α}:∀{l:List α},k∈l->l[ix k l]?=some k
 |[],h=>by cases h
 |x::l,h=>by
  unfold ix
  by_cases e:x=k
  ·rw[if_pos e,e];rfl
  ·rw[if_neg e,hM];exact qJ ((am.mp h).resolve_left λq=>e q.symm)
theorem GJ{α:Type}[DecidableEq α]{k:α}{l:List α}(h:k∈l):ix k l<l.length:=(an.mp (qJ h)).1
theorem ar.mr(B:ar)(t:Str):t∈(B.atom t).texts:=by unfold ar.atom;split<;>simp_all
theorem ar.pi(B:ar)(f:Nat×Nat):f∈(B.eR f).bq:=by unfold ar.eR;split<;>simp_all
theorem ar.kK(B:ar)(t:Str)(r:Nat):(B.func t r).texts=(B.atom t).texts:=((B.atom t).t0 _).2
theorem la.mono{B B':ar}(h:B.le B'){k n:Int}(c:la B k n):la B' k n:=
 c.imp id λ⟨e,i,t,a,b,d,f⟩=>⟨e,i,t,a,b,h.text d,f⟩
theorem lb.mono{B B':ar}(h:B.le B'){n:Int}(c:lb B n):lb B' n:=
 let⟨i,f,t,a,b,d,e,g,k,m⟩:=c;⟨i,f,t,a,b,h.fun d,e,h.text g,k,m⟩
theorem xA{B B':ar}(h:B.le B'){k n:Int}(c:la B k n):jO B' k n=jO B k n:=by
 rcases c with⟨rfl,_⟩|⟨rfl,i,t,rfl,_,ht,_⟩
 ·rfl
 ·unfold jO jo;simp only[bJ,ht,h.text ht]
theorem xB{B B':ar}(h:B.le B'){n:Int}(c:lb B n):i7 B' n=i7 B n:=by
 obtain⟨i,f,t,rfl,_,hf,_,ht,_,_⟩:=c
 unfold i7 jo;simp only[bJ,hf,h.fun hf,ht,h.text ht]
theorem kE.mono{B B':ar}(h:B.le B'){k:Nat}{o:dA}(c:kE B k o):kE B' k o:=by
 cases o with
 |E6 x n=>exact c
 |con d n=>exact⟨c.1,c.2.mono h⟩
 |num n=>exact c.imp (λq=>⟨q.1,q.2.mono h⟩) id
 |eg kvs=>exact⟨c.1,c.2.1,c.2.2.1,λp hp=>⟨(c.2.2.2 p hp).1.mono h,(c.2.2.2 p hp).2⟩⟩
 |tabI kvs=>exact⟨c.1,c.2.1,c.2.2.1,λp hp=>⟨(c.2.2.2 p hp).1.mono h,(c.2.2.2 p hp).2⟩⟩
theorem z9{n:Nat}(h:n<1000000000000000000):eT ((n:Nat):Int):=by
 unfold eT;rw[Int.natAbs_natCast,mH,if_neg (Nat.not_le.mpr h)];simp
theorem BI{B:ar}{t:Str}(ht:eU (L t))(hz:B.texts.length<=1000000):la (B.atom t) 4 ((ix t (B.atom t).texts:Nat):Int):=by
 have h1:=GJ (B.mr t)
 have h2:=(B.jz t).1
 exact .inr ⟨rfl,_,t,rfl,by exact qV [.le (.v 0) (.n 1000000),.lt (.v 1) (.v 2),.le (.v 2) (.a (.v 0) (.n 1))] (.lt (.v 1) (.n 4611686018427387904)) [1,1,1] (Eq.refl true) hz h1 h2,qJ (B.mr t),ht⟩
theorem BJ{B:ar}{t:Str}{r:Nat}(ht:eU (L t))(hr:eT ((r:Nat):Int))(hz:B.texts.length<=1000000)(ow:B.bq.length<=1000000):lb (B.func t r) ((ix (ix t (B.atom t).texts,r) (B.func t r).bq:Nat):Int):=by
 have m1:(ix t (B.atom t).texts,r)∈(B.func t r).bq:=ar.pi _ _
 have h1:=GJ m1
 have h2:=(B.wi t r).2
 have h3:=GJ (B.mr t)
 have h4:=(B.jz t).1
 exact⟨_,_,t,rfl,by exact qV [.le (.v 0) (.n 1000000),.lt (.v 1) (.v 2),.le (.v 2) (.a (.v 0) (.n 1))] (.lt (.v 1) (.n 4611686018427387904)) [1,1,1] (Eq.refl true) ow h1 h2,qJ m1,by show ix t (B.atom t).texts<_;exact qV [.le (.v 0) (.n 1000000),.lt (.v 1) (.v 2),.le (.v 2) (.a (.v 0) (.n 1))] (.lt (.v 1) (.n 4611686018427387904)) [1,1,1] (Eq.refl true) hz h3 h4,by rw[B.kK];exact qJ (B.mr t),ht,hr⟩
inductive Ob where
 |list (xs:List PV)
 |dS (kvs:List (Str×PV))
 |dI (kvs:List (Int×Int))
 |dT (kvs:List (List Int×Int))
 |book (B:ar)
 |eW (fs:List Nat) (pos mix:Nat)
 |held
 |gone
structure Pl where
 a:Addr
 s:Nat->Addr
noncomputable section
noncomputable def Pl.ba(p:Pl):BA:=⟨p.a,p.s 0,p.s 1,p.s 2,p.s 3,p.s 4⟩
noncomputable def Ob.cells(p:Pl)(o:Ob):List (Addr×dn):=Ob.rec (λxs=>[(p.a,.list xs)]) (λkvs=>[(p.a,.cg kvs)]) (λkvs=>[(p.a,.m7 kvs)]) (λkvs=>[(p.a,.hV kvs)])
 (λB=>[(p.a,.inst 155 (p.s 0)),(p.s 0,.cg (i9 p.ba)),(p.s 1,.list (B.texts.map .str)),(p.s 2,.cg (r4 B.texts)),(p.s 3,.list (B.bq.map k7)),(p.s 4,.hV (qF B.bq))])
 (λfs pos mix=>[(p.a,.list [.loc (p.s 0),.int pos,.int mix]),(p.s 0,.list (fs.map λn=> .int (n:Nat)))]) [] [] o
noncomputable def Ob.keys(p:Pl)(o:Ob):List Addr:=Ob.rec (λ_=>[p.a]) (λ_=>[p.a]) (λ_=>[p.a]) (λ_=>[p.a]) (λ_=>[p.a,p.s 0,p.s 1,p.s 2,p.s 3,p.s 4]) (λ_ _ _=>[p.a,p.s 0]) [p.a] [] o
noncomputable def Ob.live(o:Ob):Bool:=Ob.rec (λ_=>true) (λ_=>true) (λ_=>true) (λ_=>true) (λ_=>true) (λ_ _ _=>true) false true o
end
theorem Ob.pj{o:Ob}{p:Pl}{c:Addr×dn}(h:c∈o.cells p):c.1∈o.keys p:=by
 have e:(o.cells p).map (·.1)=o.keys p\/o.cells p=[]:=by cases o<;>first|exact .inl rfl|exact .inr rfl
 rcases e with e|e
 ·rw[<-e];exact jU h
 ·rw[e]at h;cases h
theorem Ob.td{o:Ob}(h:o.live=true)(p:Pl):(o.cells p).map (·.1)=o.keys p:=by cases o<;>first|rfl|cases h
structure fY(os:List Ob)(ps:Nat->Pl)(σ F:St):Prop where
 at_:∀(k:Nat) (o:Ob),os[k]?=some o->∀c∈o.cells (ps k),σ c.1=some c.2
 fr:∀(k:Nat) (o:Ob),os[k]?=some o->∀a∈o.keys (ps k),F a=none
 nd:∀(k:Nat) (o:Ob),os[k]?=some o->(o.keys (ps k)).Nodup
 ap:∀(j k:Nat) (o q:Ob),j≠k->os[j]?=some o->os[k]?=some q->∀a∈o.keys (ps j),a∉q.keys (ps k)
 le:∀a c,F a=some c->σ a=some c
noncomputable def TE(os:List Ob)(as:Nat->Addr)(σ F:St):Prop:=∃ps,fY os ps σ F/\∀k,k<os.length->(ps k).a=as k
theorem fY.one{os os':List Ob}{ps Ik:Nat->Pl}{σ σ' F:St}(r:fY os ps σ F)(n:Nat)(o':Ob)(ua:∀j q,j≠n->os'[j]?=some q->os[j]?=some q/\Ik j=ps j)(new:∀q,os'[n]?=some q->q=o')
 (cl:∀c∈o'.cells (Ik n),σ' c.1=some c.2) (fr:∀a∈o'.keys (Ik n),F a=none) (nd:(o'.keys (Ik n)).Nodup) (ap:∀j q,j≠n->os[j]?=some q->∀a∈q.keys (ps j),a∉o'.keys (Ik n))
 (sl:∀j q,j≠n->os[j]?=some q->∀c∈q.cells (ps j),σ' c.1=some c.2) (le:∀a c,F a=some c->σ' a=some c):fY os' Ik σ' F:=
 have two:∀j q,os'[j]?=some q->∀P:List Addr->List (Addr×dn)->Prop,P (o'.keys (Ik n)) (o'.cells (Ik n))->(j≠n->os[j]?=some q->P (q.keys (ps j)) (q.cells (ps j)))->P (q.keys (Ik j)) (q.cells (Ik j)):=λj q e P h1 h2=>
  Decidable.byCases (λh:j=n=>by cases h;exact new q e▸h1) λh=>(ua j q h e).2▸h2 h (ua j q h e).1
 ⟨λj q e=>two j q e (λ_ l=>∀c∈l,σ' c.1=some c.2) cl λh k=>sl j q h k,λj q e=>two j q e (λl _=>∀a∈l,F a=none) fr λ_ k=>r.fr j q k,
  λj q e=>two j q e (λl _=>l.Nodup) nd λ_ k=>r.nd j q k,λi j q s ne e1 e2 a ha hb=>by
   by_cases hi:i=n<;>by_cases hj:j=n
   ·exact ne (hi.trans hj.symm)
   ·cases hi;rw[new q e1]at ha;rw[(ua j s hj e2).2]at hb;exact ap j s hj (ua j s hj e2).1 a hb ha
   ·cases hj;rw[new s e2]at hb;rw[(ua i q hi e1).2]at ha;exact ap i q hi (ua i q hi e1).1 a ha hb
   ·rw[(ua i q hi e1).2]at ha;rw[(ua j s hj e2).2]at hb;exact r.ap i j q s ne (ua i q hi e1).1 (ua j s hj e2).1 a ha hb,le⟩
theorem fY.turn{os:List Ob}{ps:Nat->Pl}{σ σ' F:St}(r:fY os ps σ F){k:Nat}{o o':Ob}(hk:os[k]?=some o)
 (AR:(o'.keys (ps k)).Sublist (o.keys (ps k))) (h1:∀c∈o'.cells (ps k),σ' c.1=some c.2) (h2:∀b,b∉o.keys (ps k)->σ' b=σ b):fY (os.set k o') ps σ' F:=
 r.one k o' (λj q ne e=>⟨nX (Ne.symm ne)▸e,rfl⟩) (λq e=>(cw e).elim (·.2) λh=>absurd rfl h.1) h1 (λa ha=>r.fr k o hk a (AR.subset ha)) (AR.nodup (r.nd k o hk))
  (λj q ne e a ha hb=>r.ap j k q o ne e hk a ha (AR.subset hb)) (λj q ne e c hc=>(h2 c.1 (r.ap j k q o ne e hk c.1 (Ob.pj hc))).trans (r.at_ j q e c hc))
  λa c e=>(h2 a λha=>(aW c (e.symm.trans (r.fr k o hk a ha))).elim).trans (r.le a c e)
theorem fY.Ib{os:List Ob}{ps:Nat->Pl}{σ σ' F:St}(r:fY os ps σ F){o:Ob}{p:Pl}(h1:∀c∈o.cells p,σ' c.1=some c.2)(h2:∀b,b∉o.keys p->σ' b=σ b)(h3:∀a∈o.keys p,σ a=none)(nd:(o.keys p).Nodup)(hl:∀q∈os,Ob.live q=true):
 fY (os++[o]) (λk=>if k=os.length then p else ps k) σ' F:=
 have pn:(if os.length=os.length then p else ps os.length)=p:=if_pos rfl
 have Zn:∀(j:Nat) (q:Ob),os[j]?=some q->∀a∈q.keys (ps j),a∉o.keys p:=λj q e a hm ha=>by
  rw[<-Ob.td (hl q (aT e))]at hm
  exact(bn.mp hm).elim λc hc=>aW c.2 ((r.at_ j q e c hc.1).symm.trans (hc.2▸h3 a ha))
 have nF:∀a c,F a=some c->a∉o.keys p:=λa c e ha=>aW c ((r.le a c e).symm.trans (h3 a ha))
 r.one os.length o (λj q ne e=>⟨(Nat.lt_or_gt_of_ne ne).elim (λh=>cp h▸e) λh=>(aW q (e.symm.trans (List.getElem?_eq_none (by rw[af];exact h)))).elim,if_neg ne⟩)
  (λq e=>(ao (List.getElem?_concat_length.symm.trans e)).symm) (pn.symm▸h1) (pn.symm▸λa ha=>match h:F a with|none=>rfl|some c=>(nF a c h ha).elim) (pn.symm▸nd) (λj q _ e=>pn.symm▸Zn j q e)
  (λj q _ e c hc=>(h2 _ (Zn j q e _ (Ob.pj hc))).trans (r.at_ j q e c hc)) λa c e=>(h2 a (nF a c e)).trans (r.le a c e)
theorem fY.alloc{os:List Ob}{ps:Nat->Pl}{σ F:St}(r:fY os ps σ F){a:Addr}{o:Ob}{c:dn}(ha:σ a=none)(hc:∀p:Pl,o.cells p=[(p.a,c)])(hy:∀p:Pl,o.keys p=[p.a])(hl:∀q∈os,Ob.live q=true):
 fY (os++[o]) (λk=>if k=os.length then⟨a,λ_=>a⟩else ps k) (σ.upd a c) F:=
 r.Ib (p:=⟨a,λ_=>a⟩) (by rw[hc];exactλd hd=>aq.mp hd▸St.bE _ _ _) (by rw[hy];exactλb hb=>St.bA _ _ λe=>hb (aq.mpr e)) (by rw[hy];exactλb hb=>aq.mp hb▸ha) (by rw[hy];exact dy.mpr ⟨aU,dP⟩) hl
theorem fY.less{os os':List Ob}{ps:Nat->Pl}{σ F:St}(r:fY os ps σ F)(h:∀(k:Nat) (o:Ob),os'[k]?=some o->os[k]?=some o):fY os' ps σ F:=
 ⟨λk o e=>r.at_ k o (h k o e),λk o e=>r.fr k o (h k o e),λk o e=>r.nd k o (h k o e),λj k o q ne e1 e2=>r.ap j k o q ne (h j o e1) (h k q e2),r.le⟩
inductive EV where
 |v (p:PV)
 |o (k:Nat)
 |t (ks:List Nat)
 |m (k:Nat) (p:PV)
 |n (a:Addr) (x:Str) (p:PV)
noncomputable def EV.at(as:Nat->Addr):EV->PV
 |.v p=>p
 |.o k=> .loc (as k)
 |.t ks=> .tup (ks.map λk=> .loc (as k))
 |.m k p=> .tup [.loc (as k),p]
 |.n _ _ p=>p
noncomputable def EV.Ok(n:Nat):EV->Prop
 |.v _=>True
 |.o k=>k<n
 |.t ks=>∀k∈ks,k<n
 |.m k _=>k<n
 |.n _ _ _=>False
theorem EV.pu{n:Nat}{as eh:Nat->Addr}(h:∀k,k<n->eh k=as k):∀{e:EV},e.Ok n->e.at eh=e.at as
 |.v _,_=>rfl
 |.o k,q=>congrArg PV.loc (h k q)
 |.t ks,q=>congrArg PV.tup (dU λk hk=>congrArg PV.loc (h k (q k hk)))
 |.m k p,q=>congrArg (λa=>PV.tup [.loc a,p]) (h k q)
 |.n _ _ _,_=>rfl
theorem EV.Ok.mono{n m:Nat}(h:n<=m):∀{e:EV},e.Ok n->e.Ok m
 |.v _,_=>trivial
 |.o k,q=>av q h
 |.t ks,q=>λk hk=>av (q k hk) h
 |.m k _,q=>av q h
noncomputable def EV.KU(n:Nat)(F:St)(as:Nat->Addr):EV->Prop
 |.n a x p=>F a=some (.ns x p)
 |e=>e.Ok n
theorem EV.Ok.l{n:Nat}{F:St}{as:Nat->Addr}:∀{e:EV},e.Ok n->e.KU n F as
 |.v _,q=>q
 |.o _,q=>q
 |.t _,q=>q
 |.m _ _,q=>q
theorem EV.KU.step{n m:Nat}{F:St}{as eh:Nat->Addr}(h:∀k,k<n->eh k=as k)(hn:n<=m):∀{e:EV},e.KU n F as->e.KU m F eh/\e.at eh=e.at as
 |.v _,_=>⟨trivial,rfl⟩
 |.o k,q=>⟨av q hn,congrArg PV.loc (h k q)⟩
 |.t ks,q=>⟨λk hk=>av (q k hk) hn,congrArg PV.tup (dU λk hk=>congrArg PV.loc (h k (q k hk)))⟩
 |.m k p,q=>⟨av q hn,congrArg (λa=>PV.tup [.loc a,p]) (h k q)⟩
 |.n _ _ _,q=>⟨q,rfl⟩
noncomputable def EV.Yi:EV->Bool
 |.n _ _ _=>true
 |_=>false
theorem EV.KU.val{n:Nat}{F:St}{as:Nat->Addr}:∀{e:EV},e.KU n F as->e.Yi=false->e.Ok n
 |.v _,q,_=>q
 |.o _,q,_=>q
 |.t _,q,_=>q
 |.m _ _,q,_=>q
noncomputable abbrev Lo:=List (Option EV)
structure Sx(l:Lo)(os:List Ob)(as:Nat->Addr)(ρ:b4)(σ F:St):Prop where
 r:TE os as σ F
 len:ρ.length=l.length
 l:∀(i:Nat) (e:EV),l[i]?=some (some e)->e.KU os.length F as/\ρ[i]?=some (some (e.at as))
noncomputable def Agree(n:Nat)(as eh:Nat->Addr):Prop:=∀k,k<n->eh k=as k
theorem Agree.trans{n m:Nat}{a b c:Nat->Addr}(h:n<=m)(x:Agree n a b)(y:Agree m b c):Agree n a c:=λk hk=>(y k (av hk h)).trans (x k hk)
structure Vx(l:Lo)(os os':List Ob)(c:EV)(as:Nat->Addr)(ρ:b4)(F:St)(eh:Nat->Addr)(σ':St):Prop where
 a:Agree os.length as eh
 s:Sx l os' eh ρ σ' F
 ok:c.Ok os'.length
 n:os.length<=os'.length
structure Zo(l:Lo)(os os':List Ob)(cs:List EV)(as:Nat->Addr)(ρ:b4)(F:St)(eh:Nat->Addr)(σ':St):Prop where
 a:Agree os.length as eh
 s:Sx l os' eh ρ σ' F
 ok:∀c∈cs,EV.Ok os'.length c
 n:os.length<=os'.length
noncomputable def Ends(l:Lo)(os:List Ob)(as:Nat->Addr)(ρ:b4)(F:St)(Q:PV->St->Prop)(X:Prop):Option EV->List Ob->Prop
 |some c,os'=>∀eh σ',Vx l os os' c as ρ F eh σ'->Q (c.at eh) σ'
 |none,_=>X
noncomputable abbrev Tr:=(Nat->Addr)->b4->St->(PV->St->Prop)->Prop->Prop
structure To(T:Tr)(l:Lo)(os:List Ob)(bB:Option EV)(os':List Ob):Prop where
 go:∀as ρ σ F,Sx l os as ρ σ F->∀Q X,Ends l os as ρ F Q X bB os'->T as ρ σ Q X
noncomputable def Aa(l:Lo)(os:List Ob)(as:Nat->Addr)(ρ:b4)(F:St)(Q:List PV->St->Prop)(X:Prop):Option (List EV)->List Ob->Prop
 |some cs,os'=>∀eh σ',Zo l os os' cs as ρ F eh σ'->Q (cs.map (·.at eh)) σ'
 |none,_=>X
section
variable(C:Ctx)(fr:Fm)
noncomputable def tE(e:Expr):Tr:=λ_ ρ σ Q X=>WE C fr e ρ σ Q X
noncomputable def tT(e:Expr):Tr:=λ_ ρ σ Q X=>WT C fr e ρ σ (λb=>Q (.bool b)) X
noncomputable def t2(t:Value->Value->Sem Value)(a b:EV):Tr:=λas ρ σ Q X=>W2 C fr t (a.at as) (b.at as) ρ σ Q X
noncomputable def tN(t:List Value->Sem Value)(cs:List EV):Tr:=λas ρ σ Q X=>WN C fr t (cs.map (·.at as)) ρ σ Q X
structure qo(pos:Pos)(es:List Expr)(l:Lo)(os:List Ob)(bB:Option (List EV))(os':List Ob):Prop where
 go:∀as ρ σ F,Sx l os as ρ σ F->∀Q X,Aa l os as ρ F Q X bB os'->WL C fr pos es ρ σ Q X
end
section
variable{C:Ctx}{fr:Fm}{l:Lo}{os os1 os2 nG:List Ob}{T:Tr}
theorem Sx.refl{as:Nat->Addr}{ρ:b4}{σ F:St}(s:Sx l os as ρ σ F){c:EV}(h:c.Ok os.length):Vx l os os c as ρ F as σ:=⟨λ_ _=>rfl,s,h,aj _⟩
theorem Vx.trans{as cD iW:Nat->Addr}{ρ:b4}{cQ hG F:St}{a b:EV}(x:Vx l os os1 a as ρ F cD cQ)(y:Vx l os1 os2 b cD ρ F iW hG):Vx l os os2 b as ρ F iW hG:=
 ⟨x.a.trans x.n y.a,y.s,y.ok,aa x.n y.n⟩
theorem To.pure{c:PV}(h:∀as ρ σ Q X,Q c σ->T as ρ σ Q X):To T l os (some (.v c)) os:= .mk λas ρ σ F s Q X e=>h as ρ σ Q X (e as σ (s.refl (c:= .v c) trivial))
theorem Ends.after{as cD:Nat->Addr}{ρ:b4}{cQ F:St}{a:EV}{Q:PV->St->Prop}{X:Prop}{bB:Option EV}(x:Vx l os os1 a as ρ F cD cQ)(e:Ends l os as ρ F Q X bB os2):Ends l os1 cD ρ F Q X bB os2:=by
 cases bB with
 |none=>exact e
 |some c=>exactλeh σ' v=>e eh σ' (x.trans v)
theorem To.bin{e1 e2:Expr}{op:Operator}{p:Pos}{a b:EV}{bB:Option EV}(h1:To (tE C fr e1) l os (some a) os1)(h2:To (tE C fr e2) l os1 (some b) os2)(h3:To (t2 C fr (binaryOp op) a b) l os2 bB nG):
 To (tE C fr (.BinOp e1 op e2 p)) l os bB nG:= .mk λas ρ σ F s Q X e=>ke (h1.go as ρ σ F s _ _ λcD cQ v1=>h2.go cD ρ cQ F v1.s _ _ λiW hG v2=>by
 have:=h3.go iW ρ hG F v2.s Q X ((e.after v1).after v2)
 unfold t2 at this;rwa[EV.pu v2.a v1.ok]at this)
theorem To.cmp{e1 e2:Expr}{op:CmpOp}{p:Pos}{a b:EV}{bB:Option EV}(h1:To (tE C fr e1) l os (some a) os1)(h2:To (tE C fr e2) l os1 (some b) os2)(h3:To (t2 C fr (compareOp op) a b) l os2 bB nG)
 (hm:behindInMarks op e2=false):To (tE C fr (.Compare e1 [op] [e2] p)) l os bB nG:= .mk λas ρ σ F s Q X e=>A5 (h1.go as ρ σ F s _ _ λcD cQ v1=>h2.go cD ρ cQ F v1.s _ _ λiW hG v2=>by
 have:=h3.go iW ρ hG F v2.s Q X ((e.after v1).after v2)
 unfold t2 at this;rwa[EV.pu v2.a v1.ok]at this) hm
theorem To.name(F0:aG C fr){x:Str}{p:Pos}{i:Nat}{e:EV}(hi:fi x fr.vn=some i)(hl:l[i]?=some (some e))(hg:e.Yi=false):To (tE C fr (.Name x p)) l os (some e) os:= .mk λas ρ σ F s Q X q=>
 have:=s.l i e hl
 aZ F0 i (f6 hi) this.2 (q as σ (s.refl (this.1.val hg)))
theorem To.Yj{e:Expr}{b:Bool}(h:To (tE C fr e) l os (some (.v (.bool b))) os1)(hv:∀{ρ σ} {Q:Bool->St->Prop} {X:Prop},WE C fr e ρ σ (λv aO=>E1 C fr truthy v ρ aO Q X) X->WT C fr e ρ σ Q X):To (tT C fr e) l os (some (.v (.bool b))) os1:=
 .mk λas ρ σ F s Q X q=>hv (h.go as ρ σ F s _ _ λcD cQ v1=>et (q cD cQ v1))
theorem qo.nil{pos:Pos}:qo C fr pos [] l os (some []) os:= .mk λas ρ σ F s Q X q=>eA (q as σ ⟨λ_ _=>rfl,s,λ_ h=>(aU h).elim,aj _⟩)
theorem Aa.after{as cD:Nat->Addr}{ρ:b4}{cQ F:St}{a:EV}{Q:List PV->St->Prop}{X:Prop}{cs:List EV}(x:Vx l os os1 a as ρ F cD cQ)(e:Aa l os as ρ F Q X (some (a::cs)) os2):
 Aa l os1 cD ρ F (λvs=>Q (a.at cD::vs)) X (some cs) os2:=λeh σ' v=>by
 have:=e eh σ' ⟨x.a.trans x.n v.a,v.s,λc hc=>(am.mp hc).elim (λq=>q▸x.ok.mono v.n) (v.ok c),aa x.n v.n⟩
 rwa[aP,EV.pu v.a x.ok]at this
theorem qo.cons{pos:Pos}{e:Expr}{es:List Expr}{a:EV}{cs:List EV}(h1:To (tE C fr e) l os (some a) os1)(h2:qo C fr pos es l os1 (some cs) os2)
 (hs:∀env,starEach (e::es) env=(false,eval e env)::starEach es env):qo C fr pos (e::es) l os (some (a::cs)) os2:= .mk λas ρ σ F s Q X q=>
 cK (h1.go as ρ σ F s _ _ λcD cQ v1=>h2.go cD ρ cQ F v1.s _ _ (Aa.after v1 q)) hs
theorem Ends.wj{as cD:Nat->Addr}{ρ:b4}{cQ F:St}{cs:List EV}{Q:PV->St->Prop}{X:Prop}{bB:Option EV}(x:Zo l os os1 cs as ρ F cD cQ)(e:Ends l os as ρ F Q X bB os2):Ends l os1 cD ρ F Q X bB os2:=by
 cases bB with
 |none=>exact e
 |some c=>exactλeh σ' v=>e eh σ' ⟨x.a.trans x.n v.a,v.s,v.ok,aa x.n v.n⟩
theorem To.Yk(G:dh C)(F0:aG C fr){id:String}{x:Str}{p pos:Pos}{es:List Expr}{cs:List EV}{bB:Option EV}(hk:fr.env.kindOf x=some .globalImplicit)(hm:C.mg x=none)(hb:C.mb x=some (.builtin id))
 (h1:qo C fr pos es l os (some cs) os1) (h2:To (tN C fr (λvs=>call (.builtin id) vs) cs) l os1 bB os2) (j7:es=[]\/∃x l,backTo pos (starEach es fr.env)=(false,x)::l)
 (hs:(backTo pos (starEach es fr.env)).any (·.1)=false) (hd:(x==("__debug__":Str))=false):To (tE C fr (.Call (.Name x p) es [] pos)) l os bB os2:= .mk λas ρ σ F s Q X e=>
 iq G F0 hk hm hb (h1.go as ρ σ F s _ _ λcD cQ v1=>h2.go cD ρ cQ F v1.s Q X (e.wj v1)) j7 hs hd
theorem To.typ(G:dh C)(F0:aG C fr){id:String}{x:Str}{p pos:Pos}{es:List Expr}{cs:List EV}{bB:Option EV}(hk:fr.env.kindOf x=some .globalImplicit)(hm:C.mg x=none)(hb:C.mb x=some (.type id))
 (h1:qo C fr pos es l os (some cs) os1) (h2:To (tN C fr (λvs=>call (.type id) vs) cs) l os1 bB os2) (j7:es=[]\/∃x l,backTo pos (starEach es fr.env)=(false,x)::l)
 (hs:(backTo pos (starEach es fr.env)).any (·.1)=false) (hd:(x==("__debug__":Str))=false):To (tE C fr (.Call (.Name x p) es [] pos)) l os bB os2:= .mk λas ρ σ F s Q X e=>
 tm G F0 hk hm hb (h1.go as ρ σ F s _ _ λcD cQ v1=>h2.go cD ρ cQ F v1.s Q X (e.wj v1)) j7 hs hd
theorem Sx.get{as:Nat->Addr}{ρ:b4}{σ F:St}(s:Sx l os as ρ σ F){k:Nat}{o:Ob}(hk:os[k]?=some o){c:dn}(ho:∀p:Pl,o.cells p=[(p.a,c)]):σ (as k)=some c:=by
 obtain⟨ps,r,ha⟩:=s.r
 have h1:=r.at_ k o hk
 rw[ho]at h1
 have h2:=h1 _ (aq.mpr rfl)
 rwa[ha k (an.mp hk).1]at h2
theorem Sx.turn{as:Nat->Addr}{ρ:b4}{σ σ' F:St}(s:Sx l os as ρ σ F){k:Nat}{o o':Ob}(hk:os[k]?=some o)(ho:∀p:Pl,o.keys p=[p.a])(pQ:∀p:Pl,(o'.keys p).Sublist [p.a])
 (h1:∀p:Pl,p.a=as k->∀c∈o'.cells p,σ' c.1=some c.2) (h2:∀b,b≠as k->σ' b=σ b):Sx l (os.set k o') as ρ σ' F:=by
 obtain⟨ps,r,ha⟩:=s.r
 have e:=ha k (an.mp hk).1
 refine⟨⟨ps,r.turn hk (by rw[ho];exact pQ _) (h1 _ e) (λb hb=>h2 b λq=>hb ?_),λj hj=>ha j (by rwa[a7]at hj)⟩,s.len,λi v hv=> ?_⟩
 ·rw[ho,q,e];exact aq.mpr rfl
 ·rw[a7];exact s.l i v hv
theorem Sx.upd{as:Nat->Addr}{ρ:b4}{σ F:St}(s:Sx l os as ρ σ F){k:Nat}{o o':Ob}(hk:os[k]?=some o){c':dn}(ho:∀p:Pl,o.keys p=[p.a])(AR:∀p:Pl,o'.keys p=[p.a])(pQ:∀p:Pl,o'.cells p=[(p.a,c')]):
 Sx l (os.set k o') as ρ (σ.upd (as k) c') F:=
 s.turn hk ho (λp=>by rw[AR];exact lJ _) (λp e c hc=>by rw[pQ]at hc;rw[aq.mp hc,e];exact St.bE _ _ _) λb hb=>St.bA _ _ hb
theorem Sx.alloc{as:Nat->Addr}{ρ:b4}{σ F:St}(s:Sx l os as ρ σ F){a:Addr}{o:Ob}{c:dn}(ha:σ a=none)(hc:∀p:Pl,o.cells p=[(p.a,c)])(hy:∀p:Pl,o.keys p=[p.a])(hl:∀q∈os,Ob.live q=true):
 Vx l os (os++[o]) (.o os.length) as ρ F (λk=>if k=os.length then a else as k) (σ.upd a c):=by
 obtain⟨ps,r,h⟩:=s.r
 have ag:Agree os.length as (λk=>if k=os.length then a else as k):=λk hk=>if_neg (ca hk)
 have OG:(os++[o]).length=os.length+1:=by rw[af];rfl
 refine⟨ag,⟨⟨_,r.alloc ha hc hy hl,λk hk=> ?_⟩,s.len,λi v hv=> ?_⟩,by show os.length<_;rw[OG];exact cU _,by rw[OG];exact bF _⟩
 ·by_cases q:k=os.length
  ·show(if k=os.length then(⟨a,λ_=>a⟩:Pl)else ps k).a=(if k=os.length then a else as k)
   rw[if_pos q,if_pos q]
  ·show(if k=os.length then(⟨a,λ_=>a⟩:Pl)else ps k).a=(if k=os.length then a else as k)
   rw[if_neg q,if_neg q];exact h k (by rw[OG]at hk;omega)
 ·have:=s.l i v hv
  have st:=this.1.step ag (OG▸bF _:os.length<=(os++[o]).length)
  exact⟨st.1,by rw[st.2];exact this.2⟩
end
inductive oj where
 |norm (l:Lo) (os:List Ob)
 |ret (c:EV) (os:List Ob)
 |exc
 |brk (l:Lo) (os:List Ob)
 |cont (l:Lo) (os:List Ob)
structure Nx(n:Nat)(l':Lo)(os':List Ob)(as:Nat->Addr)(F:St)(eh:Nat->Addr)(cj:b4)(σ':St):Prop where
 a:Agree n as eh
 s:Sx l' os' eh cj σ' F
 n:n<=os'.length
structure Rx(n:Nat)(c:EV)(os':List Ob)(as:Nat->Addr)(F:St)(eh:Nat->Addr)(σ':St):Prop where
 a:Agree n as eh
 s:TE os' eh σ' F
 ok:c.Ok os'.length
 n:n<=os'.length
noncomputable def Jx(n:Nat)(as:Nat->Addr)(F:St)(N:b4->St->Prop)(R:PV->St->Prop)(J:Bool->b4->St->Prop)(X:b4->Prop):oj->Prop
 |.norm l os=>∀eh cj σ',Nx n l os as F eh cj σ'->N cj σ'
 |.ret c os=>∀eh σ',Rx n c os as F eh σ'->R (c.at eh) σ'
 |.exc=>∀cj,X cj
 |.brk l os=>∀eh cj σ',Nx n l os as F eh cj σ'->J true cj σ'
 |.cont l os=>∀eh cj σ',Nx n l os as F eh cj σ'->J false cj σ'
noncomputable abbrev Ts:=b4->St->(b4->St->Prop)->(PV->St->Prop)->(Bool->b4->St->Prop)->(b4->Prop)->Prop
structure Runs(T:Ts)(n:Nat)(l:Lo)(os:List Ob)(bB:oj):Prop where
 go:∀as ρ σ F,n<=os.length->Sx l os as ρ σ F->∀N R J X,Jx n as F N R J X bB->T ρ σ N R J X
section
variable{C:Ctx}{fr:Fm}{n:Nat}{l l1 l2:Lo}{os os1 os2:List Ob}{bB:oj}
theorem Jx.after{as cD:Nat->Addr}{F:St}{N:b4->St->Prop}{R:PV->St->Prop}{J:Bool->b4->St->Prop}{X:b4->Prop}(a:Agree n as cD)(k:Jx n as F N R J X bB):Jx n cD F N R J X bB:=by
 cases bB with
 |exc=>exact k
 |ret c os=>exactλeh σ' x=>k eh σ' ⟨Agree.trans (aj _) a x.a,x.s,x.ok,x.n⟩
 |_=>exactλeh cj σ' x=>k eh cj σ' ⟨Agree.trans (aj _) a x.a,x.s,x.n⟩
theorem Agree.less{n m:Nat}{a b:Nat->Addr}(h:n<=m)(x:Agree m a b):Agree n a b:=λk hk=>x k (av hk h)
theorem Runs.nil:Runs (hZ C fr []) n l os (.norm l os):= .mk λas ρ σ F hn s N R J X k=>gW (k as ρ σ ⟨λ_ _=>rfl,s,hn⟩)
theorem Runs.cons{st:Stmt}{m9:List Stmt}(h1:Runs (WS C fr st) n l os (.norm l1 os1))(h2:Runs (hZ C fr m9) n l1 os1 bB):Runs (hZ C fr (st::m9)) n l os bB:= .mk λas ρ σ F hn s N R J X k=>
 bw (h1.go as ρ σ F hn s _ _ _ _ λcD RQ cQ x=>h2.go cD RQ cQ F x.n x.s N R J X (k.after x.a))
theorem Runs.stop{st:Stmt}{m9:List Stmt}(h1:Runs (WS C fr st) n l os bB)(h:∀l os,bB≠ .norm l os):Runs (hZ C fr (st::m9)) n l os bB:= .mk λas ρ σ F hn s N R J X k=>
 bw (h1.go as ρ σ F hn s _ _ _ _ (by cases bB<;>first|exact k|exact absurd rfl (h _ _)))
theorem Runs.assign(F0:aG C fr){x:Str}{e:Expr}{p p':Pos}{i:Nat}{c:EV}(hi:fi x fr.vn=some i)(h:To (tE C fr e) l os (some c) os1)
 (hs:∀env,swapsWithSole [.Name x p'] e p.line env=pure false:=by with_unfolding_all(intro _;rfl)):Runs (WS C fr (.Assign [.Name x p'] e p)) n l os (.norm (l.set i (some c)) os1):= .mk λas ρ σ F hn s N R J X k=>
 fv F0 i (f6 hi) (h.go as ρ σ F s _ _ λcD cQ v=>k cD _ cQ ⟨v.a.less hn,⟨v.s.r,by rw[a7,a7];exact v.s.len,λj d hj=>by
  rcases cw hj with⟨h3,h4⟩|⟨h3,h4⟩
  ·cases h4
   refine⟨v.ok.l,?_⟩
   have fg:i<l.length:=by
    have:=(an.mp hj).1
    rwa[a7,<-h3]at this
   rw[<-h3,List.getElem?_set_self (by rw[v.s.len];exact fg)]
  ·refine⟨(v.s.l j d h4).1,?_⟩
   rw[nX h3];exact(v.s.l j d h4).2⟩,aa hn v.n⟩) (hs:=hs)
theorem Runs.ret{e:Expr}{p:Pos}{c:EV}(h:To (tE C fr e) l os (some c) os1):Runs (WS C fr (.Return (some e) p)) n l os (.ret c os1):= .mk λas ρ σ F hn s N R J X k=>
 dp (h.go as ρ σ F s _ _ λcD cQ v=>k cD cQ ⟨v.a.less hn,v.s.r,v.ok,aa hn v.n⟩)
noncomputable def bQ(Q:Bool->St->Prop):PV->St->Prop:=λv σ=>match v with
 |.bool b=>Q b σ
 |_=>False
theorem Runs.ite{t:Expr}{a b:List Stmt}{p:Pos}{c:Bool}(h:To (tT C fr t) l os (some (.v (.bool c))) os1)(hb:Runs (hZ C fr (bif c then a else b)) n l os1 bB):Runs (WS C fr (.If t a b p)) n l os bB:= .mk λas ρ σ F hn s N R J X k=>
 th (h.go as ρ σ F s (bQ λc aO=>(c=true->hZ C fr a ρ aO N R J X)/\(c=false->hZ C fr b ρ aO N R J X)) (X ρ) λcD cQ v=>by
  have:=hb.go cD ρ cQ F (aa hn v.n) v.s N R J X (k.after (v.a.less hn))
  exact⟨λe=>by subst e;exact this,λe=>by subst e;exact this⟩)
theorem Runs.expr(F0:aG C fr){e:Expr}{p:Pos}{c:EV}(h:To (tE C fr e) l os (some c) os1)(hs:∀env,swapsWith e none p.line env=pure false):Runs (WS C fr (.Expr e p)) n l os (.norm l os1):= .mk λas ρ σ F hn s N R J X k=>
 pF F0 (h.go as ρ σ F s _ _ λcD cQ v=>k cD ρ cQ ⟨v.a.less hn,v.s,aa hn v.n⟩) hs
structure Cx(os os':List Ob)(c:EV)(as:Nat->Addr)(F:St)(eh:Nat->Addr)(σ':St):Prop where
 a:Agree os.length as eh
 s:TE os' eh σ' F
 ok:c.Ok os'.length
 n:os.length<=os'.length
structure Calls(C:Ctx)(Fn:Fn)(lv:Nat)(args:List EV)(os:List Ob)(bB:Option EV)(os':List Ob):Prop where
 go:∀as σ F,TE os as σ F->∀(Q:PV->St->Prop) (X:Prop),(match bB with|some c=>∀eh σ',Cx os os' c as F eh σ'->Q (c.at eh) σ'|none=>X)->Spec C Fn lv (args.map (·.at as)) σ Q X
noncomputable def oj.res(o:oj)(bB:Option EV)(os':List Ob):Prop:=oj.rec (λ_ os=>bB=some (.v .none)/\os'=os) (λc os=>bB=some c/\os'=os) (bB=none) (λ_ _=>False) (λ_ _=>False) o
theorem Calls.intro{Fn:Mine.Fn}{lv:Nat}{args:List EV}{b:List Stmt}{bB:Option EV}{o:oj}(ho:o.res bB os1)(hb:Fn.body=b)(ha:∀c∈args,EV.Ok os.length c)(eC:args.length<=Fn.names.length)(Pu:Fn.np=args.length)
 (h:∀L outer A,aG C (Fn.frame L outer A lv)->Runs (hZ C (Fn.frame L outer A lv) b) os.length (args.map some++List.replicate (Fn.names.length-args.length) none) os o):
 Calls C Fn lv args os bB os1:= .mk λas σ F r Q X k=>by
 refine Spec.intro (ρ:=(args.map (·.at as)).map some++List.replicate (Fn.names.length-args.length) none) (by unfold Mine.Fn.OY;rw[Pu]) hb λL outer A FF=> ?_
 refine(h L outer A FF).go as _ σ F (aj _) ⟨r,by simp,λi e he=> ?_⟩ _ _ _ _ ?_
 ·rw[List.getElem?_append]at he⊢
  simp only[ae]at he⊢
  split at he
  ·rename_i hi
   rw[if_pos hi]
   rw[bo]at he
   cases q:args[i]?with
   |none=>rw[q]at he;cases he
   |some d=>
    rw[q]at he;cases he
    refine⟨(ha _ (aT q)).l,?_⟩
    rw[bo,bo,q];rfl
  ·rename_i hi
   rw[List.getElem?_replicate]at he
   split at he<;>cases he
 ·cases o with
  |norm l os2=>obtain⟨rfl,rfl⟩:=ho;exactλeh cj σ' x=>k eh σ' ⟨x.a,x.s.r,trivial,x.n⟩
  |ret c os2=>obtain⟨rfl,rfl⟩:=ho;exactλeh σ' x=>k eh σ' ⟨x.a,x.s,x.ok,x.n⟩
  |exc=>cases(show bB=none from ho);exactλ_=>k
  |_=>exact ho.elim
end
noncomputable def fB(ks:List Nat)(l:Lo):Lo:=ks.foldr (λi l=>l.set i none) l
noncomputable def BK(m:Nat)(o:Option EV):Bool:=Option.rec true (λe=>EV.rec (λ_=>true) (λk=>Nat.blt k m) (λks=>ks.all λk=>Nat.blt k m) (λk _=>Nat.blt k m) (λ_ _ _=>false) e) o
noncomputable def ll(m:Nat)(o:Option EV):Bool:=Option.rec true (λe=>EV.rec (λ_=>true) (λk=>Nat.blt k m) (λks=>ks.all λk=>Nat.blt k m) (λk _=>Nat.blt k m) (λ_ _ _=>true) e) o
noncomputable def Ab(m:Nat)(l:Lo):Bool:=l.all (ll m)
theorem uo{m:Nat}{e:EV}(h:BK m (some e)=true):e.Ok m:=by
 cases e with
 |v p=>trivial
 |o k=>exact fQ.mp h
 |t ks=>exactλk hk=>fQ.mp (aB.mp h k hk)
 |m k p=>exact fQ.mp h
 |n _ _ _=>cases h
theorem Ac{m n:Nat}{F:St}{as:Nat->Addr}{e:EV}(h:ll m (some e)=true)(q:e.KU n F as):e.KU m F as:=by
 cases e with
 |v p=>trivial
 |o k=>exact fQ.mp h
 |t ks=>exactλk hk=>fQ.mp (aB.mp h k hk)
 |m k p=>exact fQ.mp h
 |n a x p=>exact q
theorem Ad:∀(ks:List Nat) (l:Lo),(fB ks l).length=l.length
 |[],l=>rfl
 |k::ks,l=>by
  show((fB ks l).set k none).length=_
  rw[a7];exact Ad ks l
theorem vJ:∀(ks:List Nat) (l:Lo) {i:Nat} {e:EV},(fB ks l)[i]?=some (some e)->l[i]?=some (some e)
 |[],l,i,e,h=>h
 |k::ks,l,i,e,h=>by
  change ((fB ks l).set k none)[i]?=_ at h
  rcases cw h with⟨h3,h4⟩|⟨h3,h4⟩
  ·cases h4
  ·exact vJ ks l h4
theorem Sx.less{l:Lo}{os:List Ob}{as:Nat->Addr}{ρ:b4}{σ F:St}(s:Sx l os as ρ σ F){ks:List Nat}{m:Nat}(h:Ab m (fB ks l)=true)(hm:m<=os.length):Sx (fB ks l) (os.take m) as ρ σ F:=by
 have hl:(os.take m).length=m:=by rw[fG];exact gg hm
 obtain⟨ps,r,e⟩:=s.r
 refine⟨⟨ps,r.less λk o q=> ?_,λj hj=>e j (by rw[hl]at hj;exact av hj hm)⟩,s.len.trans (Ad ks l).symm,λi c hc=>⟨?_,(s.l i c (vJ ks l hc)).2⟩⟩
 ·have:=(an.mp q).1
  rw[hl]at this
  rwa[j4 this]at q
 ·rw[hl];exact Ac (aB.mp h _ (aT hc)) (s.l i c (vJ ks l hc)).1
theorem Nx.less{n m:Nat}{l:Lo}{os:List Ob}{as eh:Nat->Addr}{ρ:b4}{σ F:St}(x:Nx n l os as F eh ρ σ)(hn:n<=m)(hm:m<=os.length){ks:List Nat}(h:Ab m (fB ks l)=true):Nx n (fB ks l) (os.take m) as F eh ρ σ:=
 ⟨x.a,x.s.less h hm,by rw[fG,gg hm];exact hn⟩
inductive Loop(C:Ctx)(fr:Fm)(body:List Stmt)(ks:List Nat)(m i:Nat):List PV->Lo->List Ob->oj->Prop
 |nil {l:Lo} {os:List Ob}:Loop C fr body ks m i [] l os (.norm l os)
 |next {x:PV} {xs:List PV} {l l1:Lo} {os os1:List Ob} {bB:oj} (b:Bool) (h:Runs (hZ C fr body) m (l.set i (some (.v x))) os (bif b then .norm l1 os1 else .cont l1 os1)) (hk:Ab m (fB ks l1)=true)
  (r:Loop C fr body ks m i xs (fB ks l1) (os1.take m) bB):Loop C fr body ks m i (x::xs) l os bB
 |brk {x:PV} {xs:List PV} {l l1:Lo} {os os1:List Ob} (h:Runs (hZ C fr body) m (l.set i (some (.v x))) os (.brk l1 os1)) (hk:Ab m (fB ks l1)=true):Loop C fr body ks m i (x::xs) l os (.norm (fB ks l1) (os1.take m))
 |ret {x:PV} {xs:List PV} {l:Lo} {os os1:List Ob} {c:EV} (h:Runs (hZ C fr body) m (l.set i (some (.v x))) os (.ret c os1)):Loop C fr body ks m i (x::xs) l os (.ret c os1)
 |exc {x:PV} {xs:List PV} {l:Lo} {os:List Ob} (h:Runs (hZ C fr body) m (l.set i (some (.v x))) os .exc):Loop C fr body ks m i (x::xs) l os .exc
section
variable{C:Ctx}{fr:Fm}{l:Lo}{os:List Ob}{o:oj}
theorem Sx.put{as:Nat->Addr}{ρ:b4}{σ F:St}(s:Sx l os as ρ σ F)(i:Nat){c:EV}(hc:c.Ok os.length):Sx (l.set i (some c)) os as (ρ.set i (some (c.at as))) σ F:=by
 refine⟨s.r,by rw[a7,a7];exact s.len,λj d hj=> ?_⟩
 rcases cw hj with⟨h3,h4⟩|⟨h3,h4⟩
 ·cases h4
  refine⟨hc.l,?_⟩
  have fg:i<l.length:=by
   have:=(an.mp hj).1
   rwa[a7,<-h3]at this
  rw[<-h3,List.getElem?_set_self (by rw[s.len];exact fg)]
 ·refine⟨(s.l j d h4).1,?_⟩
  rw[nX h3];exact(s.l j d h4).2
theorem ym{v:PV}{xs:List PV}{ks:List Nat}{m i:Nat}{body:List Stmt}{as:Nat->Addr}{ρ:b4}{σ yQ F:St}{rest:St->St}{N:b4->St->Prop}{R:PV->St->Prop}{X:b4->Prop}
 (hit:kh C fr v xs σ yQ rest) (s:Sx l os as ρ yQ F) (hm:m<=os.length) (hL:Loop C fr body ks m i xs l os o)
 (pR:∀l' os' eh cj σ',o=.norm l' os'->Nx m l' os' as F eh cj σ'->N cj (rest σ'))
 (hR:∀c os',o=.ret c os'->∀eh σ',Rx m c os' as F eh σ'->R (c.at eh) σ') (hX:o=.exc->∀ρ,X ρ):Fz C fr v i body ρ σ N R X:=by
 refine⟨xs,yQ,rest,hit,λj cj σ'=>∃l' os' eh,Nx m l' os' as F eh cj σ'/\Loop C fr body ks m i (xs.drop j) l' os' o,⟨l,os,as,⟨λ_ _=>rfl,s,hm⟩,hL⟩,?_,?_⟩
 ·rintro j x cj σ' hx ⟨l',os',eh,nx,L⟩
  obtain⟨hj,rfl⟩:=an.mp hx
  rw[bR hj]at L
  have s':=nx.s.put i (c:= .v xs[j]) trivial
  have le:=λ{iW GK hG l1 os1} (y:Nx m l1 os1 eh F iW GK hG) {ks} (hk:Ab m (fB ks l1)=true)=>(⟨Agree.trans (aj _) nx.a y.a,y.s,y.n⟩:Nx m l1 os1 as F iW GK hG).less (aj _) y.n hk
  cases L with
  |next b h hk r=>
   cases b with
   |true=>exact h.go eh _ σ' F nx.n s' _ _ _ _ λiW GK hG y=>⟨_,_,iW,le y hk,r⟩
   |false=>exact h.go eh _ σ' F nx.n s' _ _ _ _ λiW GK hG y=>(by rw[if_neg eI];exact⟨_,_,iW,le y hk,r⟩)
  |brk h hk=>exact h.go eh _ σ' F nx.n s' _ _ _ _ λiW GK hG y=>(by rw[if_pos rfl];exact pR _ _ iW GK hG rfl (le y hk))
  |ret h=>exact h.go eh _ σ' F nx.n s' _ _ _ _ λiW hG y=>hR _ _ rfl iW hG ⟨Agree.trans (aj _) nx.a y.a,y.s,y.ok,y.n⟩
  |exc h=>exact h.go eh _ σ' F nx.n s' _ _ _ _ (hX rfl)
 ·rintro cj σ' ⟨l',os',eh,nx,L⟩
  rw[List.drop_length]at L
  cases L with
  |nil=>exact pR _ _ eh cj σ' rfl nx
noncomputable def r7(C:Ctx)(fr:Fm)(x:Str)(body:List Stmt)(c:EV)(l:Lo)(os1:List Ob)(o:oj):Prop:=
 ∀iter px p n os,(∀env v,foldedSetIterable iter env v=pure v)->To (tE C fr iter) l os (some c) os1->Runs (WS C fr (.For (.Name x px) iter body [] p)) n l os o
theorem GL(F0:aG C fr)(Tp:hY fr){x:Str}{body:List Stmt}{ks:List Nat}{i:Nat}{v:PV}{xs:List PV}(hit:∀σ,kh C fr v xs σ σ id)(hi:fi x fr.vn=some i)(hk:Ab os.length (fB ks l)=true)
 (hL:Loop C fr body ks os.length i xs (fB ks l) os o):r7 C fr x body (.v v) l os o:=λiter px p n sG hs h=> .mk λas ρ σ F hn s N R J X k=>
 rm F0 Tp i (f6 hi) (h.go as ρ σ F s _ _ λcD cQ y=>
  have a0:Agree n as cD:=y.a.less hn
  have le:n<=os.length:=aa hn y.n
  have sm:Sx (fB ks l) os cD ρ cQ F:=(by have:=y.s.less hk (aj _);rwa[eJ]at this)
  ym (hit cQ) sm (aj _) hL (λl' os' eh cj σ' e z=>by subst e;exact k eh cj σ' ⟨Agree.trans (aj _) a0 (z.a.less le),z.s,aa le z.n⟩)
   (λc os' e eh σ' z=>by subst e;exact k eh σ' ⟨Agree.trans (aj _) a0 (z.a.less le),z.s,z.ok,aa le z.n⟩) (λe=>by subst e;exact k)) hs
theorem GN(F0:aG C fr)(Tp:hY fr){x:Str}{body:List Stmt}{ks:List Nat}{i k:Nat}{xs:List PV}(hi:fi x fr.vn=some i)(hk:os[k]?=some (.list xs))(hm:Ab os.length (fB ks l)=true)
 (hL:Loop C fr body ks os.length i xs (fB ks l) (os.set k .held) o) {o':oj}
 (ho:match o with|.norm l' os'=>os'[k]?=some .held/\o'=.norm l' (os'.set k (.list xs))|.brk _ _=>False|.cont _ _=>False|q=>o'=q):
 r7 C fr x body (.o k) l os o':=λiter px p n sG hs h=> .mk λas ρ σ F hn s N R J X kk=>
 rm F0 Tp i (f6 hi) (h.go as ρ σ F s _ _ λcD cQ y=>
  have a0:Agree n as cD:=y.a.less hn
  have le:n<=os.length:=aa hn y.n
  have hc:=y.s.get hk (λ_=>rfl)
  have fg:=(an.mp hk).1
  have sm:Sx (fB ks l) os cD ρ cQ F:=(by have:=y.s.less hm (aj _);rwa[eJ]at this)
  have sb:Sx (fB ks l) (os.set k .held) cD ρ (cQ.del (cD k)) F:=sm.turn hk (λ_=>rfl) (λ_=>lJ _) (λ_ _ c hc=>nomatch hc) λb hb=>if_neg hb
  ym (sL F0 hc) sb (by rw[a7];exact aj _) hL (λl' os' eh cj σ' e z=>by
   subst e
   obtain⟨h1,rfl⟩:=ho
   refine kk eh cj _ ⟨Agree.trans (aj _) a0 (z.a.less le),?_,by rw[a7];exact aa le z.n⟩
   rw[<-z.a k fg]
   exact z.s.turn h1 (λ_=>rfl) (λ_=>lJ _) (λp e c hc=>by rw[aq.mp hc,e];exact St.bE _ _ _) λb hb=>St.bA _ _ hb)
   (λc os' e eh σ' z=>by subst e;subst ho;exact kk eh σ' ⟨Agree.trans (aj _) a0 (z.a.less le),z.s,z.ok,aa le z.n⟩) (λe=>by subst e;subst ho;exact kk)) hs
end
noncomputable def r8(os:List Ob)(m:List Nat)(os2:List Ob):List Ob:=
 List.rec (motive:=λ_=>List Ob->List Ob->List Ob) (λos os2=>os++os2) (λk _ ih os os2=>List.rec os (λq r _=>ih (os.set k q) r) os2) m os os2
noncomputable def qK(os:List Ob)(m:List Nat):List Ob:=m.map λk=>os.getD k .gone
noncomputable def rn(m:List Nat)(j:Nat):Nat:=m.getD j 0
noncomputable def bk(m:List Nat)(n j:Nat):Nat:=if j<m.length then m.getD j 0 else n+(j-m.length)
noncomputable def EV.Cv(f:Nat->Nat):EV->EV
 |.v p=> .v p
 |.o k=> .o (f k)
 |.t ks=> .t (ks.map f)
 |.m k p=> .m (f k) p
 |.n a x p=> .n a x p
theorem EV.Cw(f:Nat->Nat)(as:Nat->Addr):∀c:EV,(c.Cv f).at as=c.at λk=>as (f k)
 |.v _=>rfl
 |.o _=>rfl
 |.t ks=>congrArg PV.tup (by rw[bU];rfl)
 |.m _ _=>rfl
 |.n _ _ _=>rfl
theorem vK:∀(m:List Nat) (os os2:List Ob),m.length<=os2.length->(r8 os m os2).length=os.length+(os2.length-m.length)
 |[],os,os2,_=>by show(os++os2).length=_;rw[af];rfl
 |k::m,os,[],h=>absurd h (Nat.not_succ_le_zero _)
 |k::m,os,q::os2,h=>by
  show(r8 (os.set k q) m os2).length=_
  rw[vK m _ os2 (Nat.le_of_succ_le_succ h),a7,ay,ay,Nat.add_sub_add_right]
theorem Ae:∀(m:List Nat) (os os2:List Ob),m.Nodup->(∀k∈m,k<os.length)->m.length<=os2.length->∀(k:Nat) (o:Ob),(r8 os m os2)[k]?=some o->
 (∃j,os2[j]?=some o/\k=bk m os.length j)\/(k∉m/\os[k]?=some o)
 |[],os,os2,_,_,_,k,o,e=>by
  rcases Nat.lt_or_ge k os.length with h|h
  ·exact .inr ⟨aU,by rwa[show r8 os [] os2=os++os2 from rfl,cp h]at e⟩
  ·refine .inl ⟨k-os.length,by rwa[show r8 os [] os2=os++os2 from rfl,cH h]at e,?_⟩
   show k=if k-os.length<0 then _ else os.length+(k-os.length-0)
   rw[if_neg (j9 _)];exact(pP h).symm
 |a::m,os,[],_,_,h,_,_,_=>absurd h (Nat.not_succ_le_zero _)
 |a::m,os,q::os2,nd,lt,h,k,o,e=>by
  have Xe:=dy.mp nd
  rcases Ae m (os.set a q) os2 Xe.2 (λx hx=>by rw[a7];exact lt x (aM _ hx)) (Nat.le_of_succ_le_succ h) k o e with⟨j,h1,h2⟩|⟨h1,h2⟩
  ·refine .inl ⟨j+1,h1,?_⟩
   rw[a7]at h2
   rw[h2];unfold bk
   by_cases hj:j<m.length
   ·rw[if_pos hj,if_pos (show j+1<(a::m).length from Nat.succ_lt_succ hj)];rfl
   ·rw[if_neg hj,if_neg (show¬j+1<(a::m).length fromλx=>hj (Nat.lt_of_succ_lt_succ x)),ay,Nat.add_sub_add_right]
  ·rcases cw h2 with⟨h3,h4⟩|⟨h3,h4⟩
   ·exact .inl ⟨0,by rw[h4];rfl,by unfold bk;rw[if_pos (show 0<(a::m).length from cP _)];exact h3.symm⟩
   ·exact .inr ⟨λhk=>(am.mp hk).elim (λe=>h3 e.symm) h1,h4⟩
theorem mi{os:List Ob}{m:List Nat}(lt:∀k∈m,k<os.length){j:Nat}{o:Ob}(h:(qK os m)[j]?=some o):∃k,m[j]?=some k/\rn m j=k/\os[k]?=some o:=by
 unfold qK at h
 rw[bo]at h
 cases e:m[j]?with
 |none=>rw[e]at h;cases h
 |some k=>
  rw[e]at h
  refine⟨k,rfl,by unfold rn;rw[de,e];rfl,?_⟩
  have hk:=lt k (aT e)
  have:os.getD k .gone=o:=ao h
  rw[de,aA hk]at this
  rw[aA hk];exact congrArg some this
open Classical in
theorem fY.sub{os:List Ob}{ps:Nat->Pl}{σ F:St}(r:fY os ps σ F){m:List Nat}(nd:m.Nodup)(lt:∀k∈m,k<os.length)(lv:∀q∈os,Ob.live q=true):
 ∃F',fY (qK os m) (λj=>ps (rn m j)) σ F'/\∀(os2:List Ob) (BL:Nat->Pl) (hG:St),m.length<=os2.length->fY os2 BL hG F'->∀AU:Nat->Pl,(∀j,j<os2.length->AU (bk m os.length j)=BL j)->(∀k,k∉m->k<os.length->AU k=ps k)->fY (r8 os m os2) AU hG F:=by
 let OH:Addr->Prop:=λb=>∃k,k∉m/\∃o,os[k]?=some o/\b∈o.keys (ps k)
 let F':St:=λb=>if OH b then σ b else F b
 have Zp:∀a c,F a=some c->F' a=some c:=λa c e=>by
  show(if OH a then σ a else F a)=some c
  by_cases q:OH a
  ·rw[if_pos q];exact r.le a c e
  ·rw[if_neg q];exact e
 have Xf:∀{i j k:Nat},m[i]?=some k->m[j]?=some k->i=j:=λhi hj=>by
  obtain⟨h1,e1⟩:=an.mp hi
  obtain⟨h2,e2⟩:=an.mp hj
  exact(List.getElem_inj nd).mp (e1.trans e2.symm)
 refine⟨F',⟨λj o e c hc=> ?_,λj o e a ha=> ?_,λj o e=> ?_,λi j o q ne e1 e2 a ha hb=> ?_,λa c e=> ?_⟩,λos2 BL hG Lw r2 AU p1 p2=> ?_⟩
 ·obtain⟨k,h1,h2,h3⟩:=mi lt e
  exact r.at_ k o h3 c (h2▸hc)
 ·obtain⟨k,h1,h2,h3⟩:=mi lt e
  rw[h2]at ha
  show(if OH a then σ a else F a)=none
  rw[if_neg]
  ·exact r.fr k o h3 a ha
  ·rintro⟨k',AR,o',pQ,ha'⟩
   exact r.ap k k' o o' (λe=>AR (e▸aT h1)) h3 pQ a ha ha'
 ·obtain⟨k,h1,h2,h3⟩:=mi lt e
  rw[h2];exact r.nd k o h3
 ·obtain⟨k,h1,h2,h3⟩:=mi lt e1
  obtain⟨k',Lu,OI,M9⟩:=mi lt e2
  rw[h2]at ha;rw[OI]at hb
  exact r.ap k k' o q (λe=>ne (Xf h1 (e▸Lu))) h3 M9 a ha hb
 ·change (if OH a then σ a else F a)=some c at e
  by_cases q:OH a
  ·rwa[if_pos q]at e
  ·rw[if_neg q]at e;exact r.le a c e
 ·have get:∀(k:Nat) (o:Ob),(r8 os m os2)[k]?=some o->(∃j,os2[j]?=some o/\k=bk m os.length j/\AU k=BL j)\/(k∉m/\os[k]?=some o/\AU k=ps k):=λk o e=>by
   rcases Ae m os os2 nd lt Lw k o e with⟨j,h1,h2⟩|⟨h1,h2⟩
   ·exact .inl ⟨j,h1,h2,by rw[h2];exact p1 j (an.mp h1).1⟩
   ·exact .inr ⟨h1,h2,p2 k h1 (an.mp h2).1⟩
  have Lx:∀(j k:Nat) (o q:Ob),os2[j]?=some o->k∉m->os[k]?=some q->∀a∈o.keys (BL j),a∉q.keys (ps k):=λj k o q e1 hk e2 a ha hb=>by
   have h1:=r2.fr j o e1 a ha
   have h2:F' a=σ a:=if_pos ⟨k,hk,q,e2,hb⟩
   rw[<-Ob.td (lv q (aT e2))]at hb
   obtain⟨c,hc,ec⟩:=bn.mp hb
   have h3:=r.at_ k q e2 c hc
   rw[ec,<-h2,h1]at h3;cases h3
  refine⟨λk o e c hc=> ?_,λk o e a ha=> ?_,λk o e=> ?_,λi k o q ne e1 e2 a ha hb=> ?_,λa c e=>r2.le a c (Zp a c e)⟩
  ·rcases get k o e with⟨j,h1,h2,h3⟩|⟨h1,h2,h3⟩
   ·rw[h3]at hc;exact r2.at_ j o h1 c hc
   ·rw[h3]at hc
    refine r2.le _ _ ?_
    have:F' c.1=σ c.1:=if_pos ⟨k,h1,o,h2,Ob.pj hc⟩
    rw[this];exact r.at_ k o h2 c hc
  ·rcases get k o e with⟨j,h1,h2,h3⟩|⟨h1,h2,h3⟩
   ·rw[h3]at ha
    have:=r2.fr j o h1 a ha
    cases q:F a with
    |none=>rfl
    |some c=>rw[Zp a c q]at this;cases this
   ·rw[h3]at ha;exact r.fr k o h2 a ha
  ·rcases get k o e with⟨j,h1,h2,h3⟩|⟨h1,h2,h3⟩
   ·rw[h3];exact r2.nd j o h1
   ·rw[h3];exact r.nd k o h2
  ·rcases get i o e1 with⟨j,h1,h2,h3⟩|⟨h1,h2,h3⟩<;>rcases get k q e2 with⟨j',Lu,OI,M9⟩|⟨Lu,OI,M9⟩
   ·rw[h3]at ha;rw[M9]at hb
    exact r2.ap j j' o q (λe=>ne (by rw[h2,OI,e])) h1 Lu a ha hb
   ·rw[h3]at ha;rw[M9]at hb;exact Lx j k o q h1 Lu OI a ha hb
   ·rw[h3]at ha;rw[M9]at hb;exact Lx j' i q o Lu h1 h2 a hb ha
   ·rw[h3]at ha;rw[M9]at hb;exact r.ap i k o q ne h2 OI a ha hb
theorem RS{m:List Nat}{n t j:Nat}(lt:∀k∈m,k<n)(hm:m.length<=t)(hj:j<t):bk m n j<n+(t-m.length):=by
 unfold bk
 by_cases h:j<m.length
 ·rw[if_pos h,de,aA h]
  exact av (lt _ (cV h)) (ax _ _)
 ·rw[if_neg h];exact ZX [.lt (.v 0) (.v 1),.eq (.a (.v 2) (.v 3)) (.v 0),.eq (.a (.v 4) (.v 3)) (.v 1)] (.lt (.a (.v 5) (.v 2)) (.a (.v 5) (.v 4))) [1,1,.negSucc 0] (Eq.refl true) hj (wu (n8 [.no (.lt (.v 0) (.v 1))] (.le (.v 1) (.v 0)) [1] (Eq.refl true) h)) (wu (n8 [.le (.v 0) (.v 1)] (.le (.v 0) (.v 1)) [1] (Eq.refl true) hm))
theorem EV.Oj{f:Nat->Nat}{n t:Nat}(h:∀j,j<t->f j<n):∀{c:EV},c.Ok t->(c.Cv f).Ok n
 |.v _,_=>trivial
 |.o k,q=>h k q
 |.m k _,q=>h k q
 |.t ks,q=>λk hk=>by
  obtain⟨j,hj,rfl⟩:=bn.mp hk
  exact h j (q j hj)
section
variable{C:Ctx}{fr:Fm}{l:Lo}{os os1 os2:List Ob}
open Classical in
theorem Calls.at_{Fn:Mine.Fn}{lv:Nat}{cs:List EV}{m:List Nat}{bB:Option EV}(hc:Calls C Fn lv cs (qK os1 m) bB os2)(nd:m.Nodup)(lt:∀k∈m,k<os1.length)(Xg:∀q∈os1,Ob.live q=true)(hm:m.length<=os2.length)
 {as:Nat->Addr} {ρ:b4} {σ F:St} (s:Sx l os1 as ρ σ F) {Q:PV->St->Prop} {X:Prop} (e:Ends l os1 as ρ F Q X (bB.map (EV.Cv (bk m os1.length))) (r8 os1 m os2)):Spec C Fn lv ((cs.map (EV.Cv (rn m))).map (·.at as)) σ Q X:=by
 obtain⟨ps,r,ha⟩:=s.r
 obtain⟨F',r1,back⟩:=r.sub nd lt Xg
 have eC:(qK os1 m).length=m.length:=ae ..
 have TG:∀{j},(h:j<m.length)->rn m j=m[j]:=λh=>by unfold rn;rw[de,aA h];rfl
 rw[bU,show((λc:EV=>c.at as)∘EV.Cv (rn m))=λc:EV=>c.at λj=>as (rn m j)from funext λc=>EV.Cw _ _ c]
 refine hc.go (λj=>as (rn m j)) σ F' ⟨_,r1,λj hj=>ha _ ?_⟩ Q X ?_
 ·rw[eC]at hj;rw[TG hj];exact lt _ (cV hj)
 cases bB with
 |none=>exact e
 |some c=>
  intro iW hG y
  obtain⟨BL,r2,Zq⟩:=y.s
  have OJ:∀{j},j<m.length->bk m os1.length j=rn m j:=λh=>if_pos h
  let AU:Nat->Pl:=λk=>if k<os1.length then(if k∈m then BL (m.idxOf k)else ps k)else BL (k-os1.length+m.length)
  have p1:∀j,j<os2.length->AU (bk m os1.length j)=BL j:=λj hj=>by
   show(if bk m os1.length j<os1.length then(if bk m os1.length j∈m then BL (m.idxOf (bk m os1.length j))else ps (bk m os1.length j))else BL (bk m os1.length j-os1.length+m.length))=BL j
   by_cases h:j<m.length
   ·rw[OJ h,TG h,if_pos (lt _ (cV h)),if_pos (cV h),nd.idxOf_getElem j h]
   ·have:bk m os1.length j=os1.length+(j-m.length):=if_neg h
    rw[this,if_neg (by exact n8 [] (.no (.lt (.a (.v 0) (.v 1)) (.v 0))) [] (Eq.refl true))];congr 1;omega
  have p2:∀k,k∉m->k<os1.length->AU k=ps k:=λk h1 h2=>by
   show(if k<os1.length then(if k∈m then BL (m.idxOf k)else ps k)else BL (k-os1.length+m.length))=ps k
   rw[if_pos h2,if_neg h1]
  have r3:=back os2 BL hG hm r2 AU p1 p2
  have ag:Agree os1.length as λk=>(AU k).a:=λk hk=>by
   show(AU k).a=as k
   by_cases h:k∈m
   ·have hi:=List.idxOf_lt_length_of_mem h
    have Na:m[m.idxOf k]=k:=List.getElem_idxOf hi
    have e1:bk m os1.length (m.idxOf k)=k:=by rw[OJ hi,TG hi];exact Na
    have e2:=p1 (m.idxOf k) (av hi hm)
    rw[e1]at e2
    rw[e2,Zq _ (av hi hm),y.a _ (by rw[eC];exact hi)]
    show as (rn m (m.idxOf k))=as k
    rw[TG hi,Na]
   ·rw[p2 k h hk];exact ha k hk
  have Xh:os1.length<=(r8 os1 m os2).length:=by rw[vK m os1 os2 hm];exact ax _ _
  have pR:=e (λk=>(AU k).a) hG ⟨ag,⟨⟨AU,r3,λ_ _=>rfl⟩,s.len,λi d hd=>⟨((s.l i d hd).1.step ag Xh).1,by rw[((s.l i d hd).1.step ag Xh).2];exact(s.l i d hd).2⟩⟩,
   EV.Oj (λj hj=>by rw[vK m os1 os2 hm];exact RS lt hm hj) y.ok,Xh⟩
  rw[EV.Cw]at pR
  rwa[EV.pu (as:=iW) (n:=os2.length) (λj hj=>by rw[p1 j hj];exact Zq j hj) y.ok]at pR
theorem To.call(G:dh C)(F0:aG C fr){Fn:Mine.Fn}(H:FnAt C Fn){x:Str}{p pos:Pos}{es:List Expr}{lv:Nat}(hk:fr.env.kindOf x=some .globalImplicit)(hg:C.mg x=some (.ref Fn.f))(hl:lv<fr.lvl)
 {cs:List EV} {m:List Nat} {bB:Option EV} (h1:qo C fr pos es l os (some (cs.map (EV.Cv (rn m)))) os1) (hn:cs.length=Fn.np) (hc:Calls C Fn lv cs (qK os1 m) bB os2) (nd:m.Nodup) (lt:∀k∈m,k<os1.length) (Xg:∀q∈os1,Ob.live q=true) (hm:m.length<=os2.length)
 (j7:es=[]\/∃x l,backTo pos (starEach es fr.env)=(false,x)::l) (hd:(x==("__debug__":Str))=false):
 To (tE C fr (.Call (.Name x p) es [] pos)) l os (bB.map (EV.Cv (bk m os1.length))) (r8 os1 m os2):= .mk λas ρ σ F s Q X e=>
 qx G F0 H hk hg hl (h1.go as ρ σ F s _ _ λcD cQ v=>⟨by rw[ae,ae];exact hn,hc.at_ nd lt Xg hm v.s (e.wj v)⟩) j7 hd
end
section
variable{C:Ctx}{fr:Fm}{l:Lo}{os:List Ob}{T:Tr}
theorem Sx.back{os':List Ob}{as:Nat->Addr}{ρ:b4}{σ F:St}(s:Sx l os' as ρ σ F)(h:os'.length=os.length){v:PV}:Vx l os os' (.v v) as ρ F as σ:=⟨λ_ _=>rfl,s,trivial,aR h.symm⟩
theorem To.read{k:Nat}{o:Ob}{c:dn}{v:PV}(hk:os[k]?=some o)(ho:∀p:Pl,o.cells p=[(p.a,c)])(h:∀as ρ σ Q X,σ (as k)=some c->Q v σ->T as ρ σ Q X):To T l os (some (.v v)) os:=
 .mk λas ρ σ F s Q X e=>h as ρ σ Q X (s.get hk ho) (e as σ (s.back rfl))
theorem To.Tk{j k:Nat}{o q:Ob}{c d:dn}{v:PV}(hj:os[j]?=some o)(ho:∀p:Pl,o.cells p=[(p.a,c)])(hk:os[k]?=some q)(hq:∀p:Pl,q.cells p=[(p.a,d)])(h:∀as ρ σ Q X,σ (as j)=some c->σ (as k)=some d->Q v σ->T as ρ σ Q X):To T l os (some (.v v)) os:=
 .mk λas ρ σ F s Q X e=>h as ρ σ Q X (s.get hj ho) (s.get hk hq) (e as σ (s.back rfl))
theorem To.upd{k:Nat}{o o':Ob}{c c':dn}{v:PV}(hk:os[k]?=some o)(ho:∀p:Pl,o.cells p=[(p.a,c)])(hy:∀p:Pl,o.keys p=[p.a])(pQ:∀p:Pl,o'.cells p=[(p.a,c')])(hy':∀p:Pl,o'.keys p=[p.a])
 (h:∀as ρ σ Q X,σ (as k)=some c->Q v (σ.upd (as k) c')->T as ρ σ Q X):To T l os (some (.v v)) (os.set k o'):=
 .mk λas ρ σ F s Q X e=>h as ρ σ Q X (s.get hk ho) (e as _ ((s.upd hk hy hy' pQ).back (a7 ..)))
theorem To.new{o:Ob}{c:dn}(hl:∀q∈os,Ob.live q=true)(ho:∀p:Pl,o.cells p=[(p.a,c)])(hy:∀p:Pl,o.keys p=[p.a])(h:∀as ρ σ Q X,(∀a,σ a=none->Q (.loc a) (σ.upd a c))->T as ρ σ Q X):To T l os (some (.o os.length)) (os++[o]):=
 .mk λas ρ σ F s Q X e=>h as ρ σ Q X λa ha=>by
  have:=e _ _ (s.alloc ha ho hy hl)
  rwa[show EV.at (λk=>if k=os.length then a else as k) (.o os.length)=.loc a from congrArg PV.loc (if_pos rfl)]at this
end
inductive ja(C:Ctx)(fr:Fm)(t:Expr)(body:List Stmt)(ks:List Nat)(m:Nat):Nat->Lo->List Ob->oj->Prop
 |stop {n:Nat} {l:Lo} {os os1:List Ob} (h:To (tT C fr t) l os (some (.v (.bool false))) os1):ja C fr t body ks m n l os (.norm l os1)
 |next {n:Nat} {l l2:Lo} {os os1 os2:List Ob} {bB:oj} (b:Bool) (h:To (tT C fr t) l os (some (.v (.bool true))) os1) (hb:Runs (hZ C fr body) m l os1 (bif b then .norm l2 os2 else .cont l2 os2)) (hk:Ab m (fB ks l2)=true)
  (r:ja C fr t body ks m n (fB ks l2) (os2.take m) bB):ja C fr t body ks m (n+1) l os bB
 |ret {n:Nat} {l:Lo} {os os1 os2:List Ob} {c:EV} (h:To (tT C fr t) l os (some (.v (.bool true))) os1) (hb:Runs (hZ C fr body) m l os1 (.ret c os2)):ja C fr t body ks m n l os (.ret c os2)
 |exc {n:Nat} {l:Lo} {os os1:List Ob} (h:To (tT C fr t) l os (some (.v (.bool true))) os1) (hb:Runs (hZ C fr body) m l os1 .exc):ja C fr t body ks m n l os .exc
noncomputable def Dj(C:Ctx)(fr:Fm)(t:Expr)(body:List Stmt)(l:Lo)(os:List Ob)(o:oj):Prop:=∀n p,n<=os.length->Runs (WS C fr (.While t body [] p)) n l os o
section
variable{C:Ctx}{fr:Fm}{l:Lo}{os:List Ob}{o:oj}
theorem yn(F0:aG C fr)(Tp:hY fr){ks:List Nat}{t:Expr}{body:List Stmt}(hk:Ab os.length (fB ks l)=true)(hL:∃k,ja C fr t body ks os.length k (fB ks l) os o):Dj C fr t body l os o:=λn p MI=> .mk λas ρ σ F hn s N R J X kk=>by
 obtain⟨k,hL⟩:=hL
 have sm:Sx (fB ks l) os as ρ σ F:=by have:=s.less hk (aj _);rwa[eJ]at this
 refine Fv F0 Tp (λk cj σ'=>∃l' os' eh,Nx os.length l' os' as F eh cj σ'/\ja C fr t body ks os.length k l' os' o) k ⟨_,os,as,⟨λ_ _=>rfl,sm,aj _⟩,hL⟩ ?_
 rintro k cj σ' ⟨l',os',eh,nx,L⟩
 have vL:∀{b:Bool} {os1:List Ob},To (tT C fr t) l' os' (some (.v (.bool b))) os1->∀(Q:Bool->St->Prop),(∀cD cQ,Nx os.length l' os1 as F cD cj cQ->Q b cQ)->WT C fr t cj σ' Q (X cj):=λh Q hq=>
  h.go eh cj σ' F nx.s (bQ Q) (X cj) λcD cQ v=>hq cD cQ ⟨Agree.trans (aj _) nx.a (v.a.less nx.n),v.s,aa nx.n v.n⟩
 have le:=λ{cD iW GK hG l1 os1} (a:Agree os.length as cD) (y:Nx os.length l1 os1 cD F iW GK hG) {ks} (hk:Ab os.length (fB ks l1)=true)=>(⟨Agree.trans (aj _) a y.a,y.s,y.n⟩:Nx os.length l1 os1 as F iW GK hG).less (aj _) y.n hk
 cases L with
 |stop h=>exact vL h _ λcD cQ y=>⟨(nomatch·),λ_=>gW (kk cD cj cQ ⟨y.a.less MI,y.s,aa MI y.n⟩)⟩
 |next b h hb hk r=>
  cases b with
  |true=>exact vL h _ λcD cQ y=>⟨λ_=>hb.go cD cj cQ F y.n y.s _ _ _ _ λiW GK hG z=>⟨_,cU _,_,_,iW,le y.a z hk,r⟩,(nomatch·)⟩
  |false=>exact vL h _ λcD cQ y=>⟨λ_=>hb.go cD cj cQ F y.n y.s _ _ _ _ λiW GK hG z=>(by rw[if_neg eI];exact⟨_,cU _,_,_,iW,le y.a z hk,r⟩),(nomatch·)⟩
 |ret h hb=>exact vL h _ λcD cQ y=>⟨λ_=>hb.go cD cj cQ F y.n y.s _ _ _ _ λiW hG z=>kk iW hG ⟨(Agree.trans (aj _) y.a z.a).less MI,z.s,z.ok,aa MI z.n⟩,(nomatch·)⟩
 |exc h hb=>exact vL h _ λcD cQ y=>⟨λ_=>hb.go cD cj cQ F y.n y.s _ _ _ _ kk,(nomatch·)⟩
end
noncomputable section
noncomputable def Ob.ty(o:Ob):Option String:=Ob.rec (λ_=>some "list") (λ_=>some "dict") (λ_=>some "dict") (λ_=>some "dict") (λ_=>none) (λ_ _ _=>some "list") none none o
noncomputable def EV.ty(os:List Ob)(a:EV):Option String:=EV.rec (λp=>Ow (λ_=>none) p) (λk=>(os[k]?).bind Ob.ty) (λ_=>some "tuple") (λ_ _=>some "tuple") (λ_ _ _=>none) a
end
section
variable{C:Ctx}{fr:Fm}{l:Lo}{os os1 os2 nG:List Ob}{bB:Option EV}
theorem Sx.first{as:Nat->Addr}{ρ:b4}{σ F:St}(s:Sx l os as ρ σ F){k:Nat}{o:Ob}(hk:os[k]?=some o){c:Pl->dn}{r:Pl->List (Addr×dn)}(ho:∀p:Pl,o.cells p=(p.a,c p)::r p):∃p,σ (as k)=some (c p):=by
 obtain⟨ps,rr,ha⟩:=s.r
 have h1:=rr.at_ k o hk
 rw[ho]at h1
 have h2:=h1 _ (aJ ..)
 exact⟨_,by rwa[ha k (an.mp hk).1]at h2⟩
theorem BN{a:EV}{T:String}(h:a.ty os=some T){as:Nat->Addr}{ρ:b4}{σ F:St}(s:Sx l os as ρ σ F):Ow σ (a.at as)=some T:=by
 cases a with
 |v p=>cases p<;>first|exact h|cases h
 |t ks=>exact h
 |m k p=>exact h
 |n a x p=>cases h
 |o k=>
  change (os[k]?).bind Ob.ty=some T at h
  cases hk:os[k]?with
  |none=>rw[hk]at h;cases h
  |some o=>
   rw[hk]at h
   show(σ (as k)).bind dn.ty=some T
   cases o<;>first|(cases h;done)|(obtain⟨p,e⟩:=s.first hk (λ_=>rfl);rw[e];exact h)
theorem To.sub{e1 e2:Expr}{p:Pos}{a b:EV}{T:String}(h1:To (tE C fr e1) l os (some a) os1)(h2:To (tE C fr e2) l os1 (some b) os2)(h3:To (t2 C fr getItem a b) l os2 bB nG)(hp:a.ty os2=some T)(hT:T="list"\/T="dict"\/T="str"\/T="tuple")
 (hs:∀ov iv,subscripted e2 false ov iv=operate [ov,iv] (getItem ov iv)):To (tE C fr (.Subscript e1 e2 p)) l os bB nG:= .mk λas ρ σ F s Q X e=>xW hT (h1.go as ρ σ F s _ _ λcD cQ v1=>h2.go cD ρ cQ F v1.s _ _ λiW hG v2=>by
 have:=h3.go iW ρ hG F v2.s Q X ((e.after v1).after v2)
 have yR:=BN hp v2.s
 unfold t2 at this;rw[EV.pu v2.a v1.ok]at this yR;exact⟨yR,this⟩) hs
theorem To.Yl{T id:String}{o:Expr}{name:Str}{xV pos:Pos}{es:List Expr}{a:EV}{cs:List EV}(B:BM T name id)(h1:To (tE C fr o) l os (some a) os1)(h2:qo C fr pos es l os1 (some cs) os2)(hp:a.ty os1=some T)
 (h3:To (tN C fr (λvs=>PySem.call (.builtin id) vs) (a::cs)) l os2 bB nG) (j7:es=[]\/∃x l,backTo pos (starEach es fr.env)=(false,x)::l) (rq:∀env,attributeBase o name env (eval o env)=eval o env)
 (IN:∀env,((backTo pos (starEach es env)).all (λx=> !x.1)&&(backToKw pos (keywordEach [] env)).all (λx=>x.1.isSome)
  &&decide (es.length+([]:List Keyword).length+(if([]:List Keyword).isEmpty then 0 else 1)<30))=true)
 (FJ:(xV.endLine==pos.line)=true):To (tE C fr (.Call (.Attribute o name xV) es [] pos)) l os bB nG:= .mk λas ρ σ F s Q X e=>
 gx B (h1.go as ρ σ F s _ _ λcD cQ v1=>⟨BN hp v1.s,h2.go cD ρ cQ F v1.s _ _ λiW hG v2=>by
  have:=h3.go iW ρ hG F v2.s Q X ((e.after v1).wj v2)
  unfold tN at this;rwa[aP,EV.pu v2.a v1.ok]at this⟩) j7 rq IN FJ
theorem To.tup{es:List Expr}{k:Nat}{p:Pos}{cs:List EV}{c:EV}(h:qo C fr p es l os (some cs) os1)(hc:∀as,PV.tup (cs.map (·.at as))=c.at as)(ho:(∀x∈cs,EV.Ok os1.length x)->c.Ok os1.length)(hsz:cs.length<=sizeLine):To (tE C fr (.Tuple es k p)) l os (some c) os1:= .mk λas ρ σ F s Q X e=>
 qY (h.go as ρ σ F s _ _ λcD cQ v=>⟨by rw[ae];exact hsz,by rw[hc];exact e cD cQ ⟨v.a,v.s,ho v.ok,v.n⟩⟩)
theorem To.list{es:List Expr}{p:Pos}{cs:List EV}{xs:List PV}(h:qo C fr p es l os (some cs) os1)(hc:∀as,cs.map (·.at as)=xs)(hl:∀q∈os1,Ob.live q=true)(hsz:xs.length<=sizeLine):To (tE C fr (.List es p)) l os (some (.o os1.length)) (os1++[.list xs]):= .mk λas ρ σ F s Q X e=>
 qZ (h.go as ρ σ F s _ _ λcD cQ v=>⟨by rw[hc];exact hsz,λa ha=>by
  rw[hc]
  have w:=v.s.alloc (o:= .list xs) (c:= .list xs) ha (λ_=>rfl) (λ_=>rfl) hl
  have:=e _ _ ⟨v.a.trans v.n w.a,w.s,w.ok,aa v.n w.n⟩
  rwa[show EV.at (λk=>if k=os1.length then a else cD k) (.o os1.length)=.loc a from congrArg PV.loc (if_pos rfl)]at this⟩)
theorem qo.x1{pos:Pos}{e:Expr}{es:List Expr}(h:To (tE C fr e) l os none os1)(hs:∀env,starEach (e::es) env=(false,eval e env)::starEach es env):qo C fr pos (e::es) l os none os2:= .mk λas ρ σ F s Q X x=>cK (h.go as ρ σ F s _ _ x) hs
theorem qo.x2{pos:Pos}{e:Expr}{es:List Expr}{a:EV}(h1:To (tE C fr e) l os (some a) os1)(h:qo C fr pos es l os1 none os2)(hs:∀env,starEach (e::es) env=(false,eval e env)::starEach es env):qo C fr pos (e::es) l os none os2:= .mk λas ρ σ F s Q X x=>
 cK (h1.go as ρ σ F s _ _ λcD cQ v1=>h.go cD ρ cQ F v1.s _ _ x) hs
theorem To.Ym(G:dh C)(F0:aG C fr){id:String}{x:Str}{p pos:Pos}{es:List Expr}(hk:fr.env.kindOf x=some .globalImplicit)(hm:C.mg x=none)(hb:C.mb x=some (.builtin id))
 (h1:qo C fr pos es l os none os1) (j7:es=[]\/∃x l,backTo pos (starEach es fr.env)=(false,x)::l)
 (hs:(backTo pos (starEach es fr.env)).any (·.1)=false) (hd:(x==("__debug__":Str))=false):To (tE C fr (.Call (.Name x p) es [] pos)) l os none os2:= .mk λas ρ σ F s Q X e=>
 iq G F0 hk hm hb (h1.go as ρ σ F s _ _ e) j7 hs hd
structure vM(C:Ctx)(fr:Fm)(e:Option Expr)(l:Lo)(os:List Ob)(a:Option Int)(os':List Ob):Prop where
 go:∀as ρ σ F,Sx l os as ρ σ F->∀(Q:Option Int->St->Prop) (X:Prop),(∀eh σ',Vx l os os' (.v .none) as ρ F eh σ'->Q a σ')->WP C fr e ρ σ Q X
theorem To.Ol{e:Expr}{lo hi:Option Expr}{p pos:Pos}{x:Str}{a b:Option Int}(h1:To (tE C fr e) l os (some (.v (.str x))) os1)
 (h2:vM C fr lo l os1 a os2) (h3:vM C fr hi l os2 b nG)
 (hsz:x.length<=sizeLine) (ht:∀o r,letTemporaryGo e o r=Pure.pure ()):To (tE C fr (.Subscript e (.Slice lo hi none p) pos)) l os (some (.v (.str (Txt.slice x a b)))) nG:= .mk λas ρ σ F s Q X q=>
 Eh (h1.go as ρ σ F s _ _ λcD cQ v1=>h2.go cD ρ cQ F v1.s _ _ λiW hG v2=>h3.go iW ρ hG F v2.s _ _ λwD Di v3=>
  ⟨x,rfl,hsz,q wD Di ⟨(v1.trans (v2.trans v3)).a,v3.s,trivial,(v1.trans (v2.trans v3)).n⟩⟩) ht
theorem vM.none:vM C fr none l os none os:= .mk λas ρ σ F s Q X q=>I3 (q as σ (s.back rfl))
theorem vM.some{e:Expr}{i:Int}(h:To (tE C fr e) l os (some (.v (.int i))) os1):vM C fr (some e) l os (some i) os1:= .mk λas ρ σ F s Q X q=>I4 (h.go as ρ σ F s _ _ λcD cQ v=>⟨i,rfl,q cD cQ ⟨v.a,v.s,trivial,v.n⟩⟩)
theorem Runs.KV(F0:aG C fr){n:Nat}{x:Str}{e:Expr}{p p':Pos}{i:Nat}(hi:fi x fr.vn=some i)(h:To (tE C fr e) l os none os1)
 (hs:∀env,swapsWithSole [.Name x p'] e p.line env=Pure.pure false):Runs (WS C fr (.Assign [.Name x p'] e p)) n l os .exc:= .mk λas ρ σ F hn s N R J X k=>fv F0 i (f6 hi) (h.go as ρ σ F s _ _ (k ρ)) (hs:=hs)
theorem Runs.Yn{n:Nat}{e:Expr}{p:Pos}(h:To (tE C fr e) l os none os1):Runs (WS C fr (.Return (some e) p)) n l os .exc:= .mk λas ρ σ F hn s N R J X k=>dp (h.go as ρ σ F s _ _ (k ρ))
theorem Runs.Tl(F0:aG C fr){n:Nat}{e:Expr}{p:Pos}(h:To (tE C fr e) l os none os1)(hs:∀env,swapsWith e none p.line env=Pure.pure false):Runs (WS C fr (.Expr e p)) n l os .exc:= .mk λas ρ σ F hn s N R J X k=>pF F0 (h.go as ρ σ F s _ _ (k ρ)) hs
end
section
variable{C:Ctx}{fr:Fm}{K:Frag}{bN bO:ClassData}{l:Lo}{os os1 os2 nG os4:List Ob}{n:Nat}
theorem To.Yo(F0:aG C fr){x:Str}{p:Pos}{i k:Nat}{kvs:List (Int×Int)}(hi:fi x fr.vn=some i)(hl:l[i]?=some (some (.o k)))(hk:os[k]?=some (.dI kvs)):To (tE C fr (.Name x p)) l os (some (.v (.tabI kvs))) (os.set k .gone):= .mk λas ρ σ F s Q X e=>
 DV F0 i (f6 hi) (s.l i _ hl).2 (s.get hk λ_=>rfl) (e as _ ((s.turn (o':= .gone) hk (λ_=>rfl) (λ_=>m6 _) (λ_ _ c hc=>(aU hc).elim) λb hb=>if_neg hb).back (a7 ..)))
theorem To.Yp(F0:aG C fr){x:Str}{p:Pos}{i k:Nat}{kvs:List (List Int×Int)}(hi:fi x fr.vn=some i)(hl:l[i]?=some (some (.o k)))(hk:os[k]?=some (.dT kvs)):To (tE C fr (.Name x p)) l os (some (.v (.eg kvs))) (os.set k .gone):= .mk λas ρ σ F s Q X e=>
 DW F0 i (f6 hi) (s.l i _ hl).2 (s.get hk λ_=>rfl) (e as _ ((s.turn (o':= .gone) hk (λ_=>rfl) (λ_=>m6 _) (λ_ _ c hc=>(aU hc).elim) λb hb=>if_neg hb).back (a7 ..)))
theorem Runs.raise(P:PO C K bN bO)(F0:aG C fr){np sT pos:Pos}{es:List Expr}{c:EV}(hk:fr.env.kindOf "LinkFault"=some .globalImplicit)(hl:1<fr.lvl)(h:qo C fr sT es l os (some [c]) os1)
 (hp:∀env,(backTo sT (starEach es env)).any (·.1)=false) (j7:es=[]\/∃x l,backTo sT (starEach es fr.env)=(false,x)::l):Runs (WS C fr (.Raise (some (.Call (.Name "LinkFault" np) es [] sT)) none pos)) n l os .exc:= .mk λas ρ σ F hn s N R J X k=>
 FZ (PO.G P) F0 (PO.mc P) (PO.exc P) (lv:=0) hk (PO.k6 P) hl rfl (M8 P) (h.go as ρ σ F s _ _ λcD cQ v=>⟨⟨_,rfl⟩,k ρ⟩) hp j7
theorem Runs.aug(F0:aG C fr){x:Str}{e:Expr}{op:Operator}{p p':Pos}{i:Nat}{c b r:EV}(hi:fi x fr.vn=some i)(hl:l[i]?=some (some c))(h:To (tE C fr e) l os (some b) os1)(h2:To (t2 C fr (inplaceOp op) c b) l os1 (some r) os2):
 Runs (WS C fr (.AugAssign (.Name x p') op e p)) n l os (.norm (l.set i (some r)) os2):= .mk λas ρ σ F hn s N R J X k=>
 xS F0 i (f6 hi) (s.l i _ hl).2 (h.go as ρ σ F s _ _ λcD cQ v=>by
  have:=h2.go cD ρ cQ F v.s (λr bX=>N (ρ.set i (some r)) bX) (X ρ) λiW hG w=>k iW _ hG ⟨(v.a.trans v.n w.a).less hn,w.s.put i w.ok,aa hn (aa v.n w.n)⟩
  unfold t2 at this;rwa[((s.l i _ hl).1.step v.a v.n).2]at this)
structure nH(C:Ctx)(fr:Fm)(o i v:EV)(l:Lo)(os os':List Ob):Prop where
 go:∀as ρ σ F,Sx l os as ρ σ F->∀(N:b4->St->Prop) (X:b4->Prop),(∀σ',Sx l os' as ρ σ' F->N ρ σ')->Mk C fr setItem (o.at as) (i.at as) (v.at as) ρ σ N X
theorem Runs.Yq{o i e:Expr}{p p':Pos}{a b c:EV}(h1:To (tE C fr e) l os (some c) os1)(h2:To (tE C fr o) l os1 (some a) os2)(h3:To (tE C fr i) l os2 (some b) nG)(h4:nH C fr a b c l nG os4)(Lw:nG.length<=os4.length)
 (hs:∀env,swapsWith e (some (.Subscript o i p')) p.line env=Pure.pure false):Runs (WS C fr (.Assign [.Subscript o i p'] e p)) n l os (.norm l os4):= .mk λas ρ σ F hn s N R J X k=>
 dW (h1.go as ρ σ F s _ _ λcD cQ v1=>h2.go cD ρ cQ F v1.s _ _ λiW hG v2=>h3.go iW ρ hG F v2.s _ _ λwD Di v3=>by
  have:=h4.go wD ρ Di F v3.s N X λRM s4=>k wD ρ RM ⟨(v1.trans (v2.trans v3)).a.less hn,s4,aa hn (aa (v1.trans (v2.trans v3)).n Lw)⟩
  rwa[EV.pu v3.a v2.ok,EV.pu (v2.trans v3).a v1.ok]at this) hs
theorem nH.list{k:Nat}{xs:List PV}{i:Int}{v:PV}(hk:os[k]?=some (.list xs))(h0:0<=i)(h1:i<2^63)(hn:i<xs.length):nH C fr (.o k) (.v (.int i)) (.v v) l os (os.set k (.list (xs.set i.toNat v))):= .mk λas ρ σ F s N X q=>
 sR (s.get hk λ_=>rfl) h0 h1 hn (q _ (s.upd hk (λ_=>rfl) (λ_=>rfl) λ_=>rfl))
theorem nH.dT(F0:aG C fr){k:Nat}{kvs:List (List Int×Int)}{ks:List Int}{v:Int}(hk:os[k]?=some (.dT kvs))(hsz:kvs.length<=sizeLine):nH C fr (.o k) (.v (lU ks)) (.v (.int v)) l os (os.set k (.dT (qA kvs ks v))):= .mk λas ρ σ F s N X q=>
 zm F0 (s.get hk λ_=>rfl) hsz (q _ (s.upd hk (λ_=>rfl) (λ_=>rfl) λ_=>rfl))
theorem nH.dI{k:Nat}{kvs:List (Int×Int)}{a:Int}{v:Int}(hk:os[k]?=some (.dI kvs))(hsz:kvs.length<=sizeLine):nH C fr (.o k) (.v (.int a)) (.v (.int v)) l os (os.set k (.dI (qA kvs a v))):= .mk λas ρ σ F s N X q=>
 FU (s.get hk λ_=>rfl) hsz (q _ (s.upd hk (λ_=>rfl) (λ_=>rfl) λ_=>rfl))
theorem Runs.KW(F0:aG C fr){x y:Str}{e:Expr}{k i j:Nat}{p p' p1 p2:Pos}{a b c:EV}(hc:∀as,c.at as=.tup [a.at as,b.at as])(hk:c.Ok os1.length->a.Ok os1.length/\b.Ok os1.length)(hi:fi x fr.vn=some i)(hj:fi y fr.vn=some j)(h:To (tE C fr e) l os (some c) os1)
 (hs:∀env,swapsWithSole [.Tuple [.Name x p1,.Name y p2] k p'] e p.line env=Pure.pure false) (hw:∀env,swappedStores [.Tuple [.Name x p1,.Name y p2] k p'] e env=Pure.pure none):
 Runs (WS C fr (.Assign [.Tuple [.Name x p1,.Name y p2] k p'] e p)) n l os (.norm ((l.set i (some a)).set j (some b)) os1):= .mk λas ρ σ F hn s N R J X kk=>
 Bu F0 i j (f6 hi) (f6 hj) (h.go as ρ σ F s _ _ λcD cQ v=>⟨_,_,hc cD,kk cD _ cQ ⟨v.a.less hn,(v.s.put i (hk v.ok).1).put j (hk v.ok).2,aa hn v.n⟩⟩) hs hw
end
noncomputable def BO(e:Expr):Bool:= !Nat.beq e.ctorIdx 22
noncomputable def fK(es:List Expr):Bool:=es.all BO
noncomputable def vN(e:Expr):Bool:=Nat.ble e.ctorIdx 7||Nat.ble 11 e.ctorIdx
noncomputable def tV(e:Expr):Bool:= !Nat.beq e.ctorIdx 7
noncomputable def vO(e:Expr):Bool:=Nat.beq e.ctorIdx 23
noncomputable def Dk(e:Expr):Bool:= !Nat.beq e.ctorIdx 26
noncomputable def GO(e:Expr):Bool:=Nat.ble 16 e.ctorIdx||Nat.beq e.ctorIdx 2
noncomputable def GP(e:Expr):Bool:=sel true e (call:=λf es _ _=>vO f&& !es.isEmpty)
noncomputable def idOf(e:Expr):Option Str:=sel none e (nm:=λx _=>some x)
noncomputable def RT(e:Expr):Option (Expr×Str×Pos):=sel none e (att:=λo x p=>some (o,x,p))
noncomputable def RU(e:Expr):Option (Option Expr×Option Expr×Option Expr×Pos):=sel none e (slc:=λa b c p=>some (a,b,c,p))
noncomputable def RV(e:Expr):Option (Expr×Expr):=sel none e (sub:=λa i p=>some (a,i))
noncomputable def RW(e:Expr):Option (List Expr):=sel none e (tup:=λes _ _=>some es)
noncomputable def RX(e:Expr):Option (Str×List Expr×List Keyword×Pos):=sel none e (call:=λf es kw p=>(idOf f).map λx=>(x,es,kw,p))
theorem Af{e:Expr}(h:vO e=true):∃x p,e=.Name x p:=Expr.Name.elim (motive_1:=λe=>∃x p,e=.Name x p) e (iZ h) λx p=>⟨x,p,rfl⟩
theorem jt{e:Expr}{y:Str}(h:idOf e=some y):∃p,e=.Name y p:=
 have n:∀e:Expr,none=some y->∃p,e=.Name y p:=λ_ h=>(aW _ h.symm).elim
 fH (λe q=>q=some y->∃p,e=.Name y p) e n (λ_ p h=>ao h▸⟨p,rfl⟩) (λ_ _ _=>n _) (λ_ _ _ _=>n _) (λ_ _ _=>n _) (λ_ _ _=>n _) (λ_ _ _ _=>n _) (λ_ _ _ _=>n _) (λ_ _ _ _=>n _) (λ_ _ _=>n _) (λ_ _ _=>n _) (λ_ _ _=>n _) (λ_ _=>n _) (λ_ _ _ _=>n _) (λ_ _ _=>n _) (λ_ _ _ _=>n _) h
theorem Dl{e:Expr}{y:Expr×Str×Pos}(h:RT e=some y):e=.Attribute y.1 y.2.1 y.2.2:=
 have n:∀e:Expr,none=some y->e=.Attribute y.1 y.2.1 y.2.2:=λ_ h=>(aW _ h.symm).elim
 fH (λe q=>q=some y->e=.Attribute y.1 y.2.1 y.2.2) e n (λ_ _=>n _) (λ_ _ _=>n _) (λ_ _ _ _=>n _) (λ_ _ _=>n _) (λ_ _ _=>n _) (λ_ _ _ _=>n _) (λ_ _ _ _=>n _) (λ_ _ _ _=>n _) (λ_ _ _ h=>ao h▸rfl) (λ_ _ _=>n _) (λ_ _ _=>n _) (λ_ _=>n _) (λ_ _ _ _=>n _) (λ_ _ _=>n _) (λ_ _ _ _=>n _) h
theorem Jy{e:Expr}{y:Option Expr×Option Expr×Option Expr×Pos}(h:RU e=some y):e=.Slice y.1 y.2.1 y.2.2.1 y.2.2.2:=
 have n:∀e:Expr,none=some y->e=.Slice y.1 y.2.1 y.2.2.1 y.2.2.2:=λ_ h=>(aW _ h.symm).elim
 fH (λe q=>q=some y->e=.Slice y.1 y.2.1 y.2.2.1 y.2.2.2) e n (λ_ _=>n _) (λ_ _ _=>n _) (λ_ _ _ _=>n _) (λ_ _ _=>n _) (λ_ _ _=>n _) (λ_ _ _ _=>n _) (λ_ _ _ _=>n _) (λ_ _ _ _=>n _) (λ_ _ _=>n _) (λ_ _ _=>n _) (λ_ _ _=>n _) (λ_ _=>n _) (λ_ _ _ _ h=>ao h▸rfl) (λ_ _ _=>n _) (λ_ _ _ _=>n _) h
theorem Jz{e:Expr}{y:Expr×Expr}(h:RV e=some y):∃p,e=.Subscript y.1 y.2 p:=
 have n:∀e:Expr,none=some y->∃p,e=.Subscript y.1 y.2 p:=λ_ h=>(aW _ h.symm).elim
 fH (λe q=>q=some y->∃p,e=.Subscript y.1 y.2 p) e n (λ_ _=>n _) (λ_ _ _=>n _) (λ_ _ _ _=>n _) (λ_ _ _=>n _) (λ_ _ _=>n _) (λ_ _ _ _=>n _) (λ_ _ _ _=>n _) (λ_ _ _ _=>n _) (λ_ _ _=>n _) (λ_ _ p h=>ao h▸⟨p,rfl⟩) (λ_ _ _=>n _) (λ_ _=>n _) (λ_ _ _ _=>n _) (λ_ _ _=>n _) (λ_ _ _ _=>n _) h
theorem JA{e:Expr}{y:List Expr}(h:RW e=some y):∃k p,e=.Tuple y k p:=
 have n:∀e:Expr,none=some y->∃k p,e=.Tuple y k p:=λ_ h=>(aW _ h.symm).elim
 fH (λe q=>q=some y->∃k p,e=.Tuple y k p) e n (λ_ _=>n _) (λ_ _ _=>n _) (λ_ _ _ _=>n _) (λ_ _ _=>n _) (λ_ _ _=>n _) (λ_ _ _ _=>n _) (λ_ _ _ _=>n _) (λ_ _ _ _=>n _) (λ_ _ _=>n _) (λ_ _ _=>n _) (λ_ k p h=>ao h▸⟨k,p,rfl⟩) (λ_ _=>n _) (λ_ _ _ _=>n _) (λ_ _ _=>n _) (λ_ _ _ _=>n _) h
theorem JB{e:Expr}{y:Str×List Expr×List Keyword×Pos}(h:RX e=some y):∃q,e=.Call (.Name y.1 q) y.2.1 y.2.2.1 y.2.2.2:=
 have n:∀e:Expr,none=some y->∃q,e=.Call (.Name y.1 q) y.2.1 y.2.2.1 y.2.2.2:=λ_ h=>(aW _ h.symm).elim
 fH (λe q=>q=some y->∃q,e=.Call (.Name y.1 q) y.2.1 y.2.2.1 y.2.2.2) e n (λ_ _=>n _) (λ_ _ _=>n _) (λ_ _ _ _=>n _) (λ_ _ _=>n _) (λ_ _ _=>n _) (λ_ _ _ _=>n _) (λ_ _ _ _=>n _) (λf es kw p h=>(ai.mp h).elim λx h=>(jt h.1).elim λq e=>h.2▸⟨q,e▸rfl⟩) (λ_ _ _=>n _) (λ_ _ _=>n _) (λ_ _ _=>n _) (λ_ _=>n _) (λ_ _ _ _=>n _) (λ_ _ _=>n _) (λ_ _ _ _=>n _) h
theorem xC{e:Expr}(h:BO e=true)(es:List Expr)(env:Env):starEach (e::es) env=(false,eval e env)::starEach es env:=by cases e<;>first|rfl|cases h
theorem fM{e:Expr}{es:List Expr}(h:fK (e::es)=true):BO e=true/\fK es=true:=au.mp h
theorem fN{es:List Expr}(h:fK es=true)(pos:Pos)(env:Env):es=[]\/∃x l,backTo pos (starEach es env)=(false,x)::l:=by
 cases es with
 |nil=>exact .inl rfl
 |cons e es=>exact .inr ⟨_,_,by rw[xC (fM h).1];rfl⟩
theorem r9{es:List Expr}(h:fK es=true)(pos:Pos)(env:Env):(backTo pos (starEach es env)).any (·.1)=false:=by
 induction es with
 |nil=>rfl
 |cons e es ih=>rw[xC (fM h).1];exact ih (fM h).2
theorem GQ{es:List Expr}(h:fK es=true)(pos:Pos)(env:Env):(backTo pos (starEach es env)).all (λx=> !x.1)=true:=by
 induction es with
 |nil=>rfl
 |cons e es ih=>rw[xC (fM h).1];exact ih (fM h).2
theorem vP{es:List Expr}(h:fK es=true)(hl:Nat.blt es.length 30=true)(pos:Pos)(env:Env):((backTo pos (starEach es env)).all (λx=> !x.1)&&(backToKw pos (keywordEach [] env)).all (λx=>x.1.isSome)
 &&decide (es.length+([]:List Keyword).length+(if([]:List Keyword).isEmpty then 0 else 1)<30))=true:=by
 rw[GQ h];exact decide_eq_true (fQ.mp hl)
theorem vQ{e:Expr}(h:vN e=true)(t:Option Expr)(n:Nat)(env:Env):swapsWith e t n env=Pure.pure false:=by cases e<;>first|rfl|cases h
theorem JC{e:Expr}(h:tV e=true)(env:Env)(v:Value):foldedSetIterable e env v=Pure.pure v:=by cases e<;>first|rfl|cases h
theorem RY{e:Expr}(h:GO e=true)(env:Env)(yZ:Sem Value):isTrue e env yZ=(do let v<-yZ;standAt e.pos;holding [v] (truthy v)):=by cases e<;>first|rfl|cases h
theorem GR{e:Expr}(h:GP e=true)(name:Str)(env:Env):attributeBase e name env (eval e env)=eval e env:=by
 cases e<;>first|rfl|skip
 rename_i f es kw p
 have h:=au.mp h
 obtain⟨x,q,rfl⟩:=Af h.1
 cases es with
 |nil=>cases h.2
 |cons _ _=>rfl
theorem F6{e:Expr}(h:Dk e=true)(o i:Value):subscripted e false o i=operate [o,i] (getItem o i):=by cases e<;>first|rfl|cases h
theorem Nb{e:Expr}(h:vO e=true)(o r:Value):letTemporaryGo e o r=Pure.pure ():=by obtain⟨_,_,rfl⟩:=Af h;rfl
inductive yo where
 |b (x:Bool)
 |c (bB:Option EV) (os:List Ob)
 |o (bB:oj)
 |x (bB:Option EV) (os:List Ob)
 |u (bB:Option EV)
noncomputable abbrev Pa:=List yo
noncomputable abbrev KE:=Option EV->List Ob->Pa->Prop
noncomputable section
noncomputable def oB(p:Pa)(k:Bool->Pa->Prop):Prop:=List.rec True (λh t _=>yo.rec (λb=>k b t) (λ_ _=>True) (λ_=>True) (λ_ _=>True) (λ_=>True) h) p
noncomputable def oC(p:Pa)(os:List Ob)(k:Option EV->List Ob->Pa->Prop):Prop:=List.rec True (λh t _=>yo.rec (λ_=>True) (λbB os=>k bB os t) (λ_=>True) (λ_ _=>True) (λbB=>k bB os t) h) p
noncomputable def oO(p:Pa)(k:oj->Pa->Prop):Prop:=List.rec True (λh t _=>yo.rec (λ_=>True) (λ_ _=>True) (λbB=>k bB t) (λ_ _=>True) (λ_=>True) h) p
noncomputable def oX(p:Pa)(k:Option EV->List Ob->Pa->Prop)(i8:Prop):Prop:=List.rec i8 (λh t _=>yo.rec (λ_=>i8) (λ_ _=>i8) (λ_=>i8) (λbB os=>k bB os t) (λ_=>i8) h) p
noncomputable def PV.sel{α:Type}(d:α)(p:PV)(bl:Bool->α:=λ_=>d)(it:Int->α:=λ_=>d)(st:Str->α:=λ_=>d)(tp:List PV->α:=λ_=>d):α:=PV.casesOn (motive_1:=λ_=>α) p d bl it st tp (λ_=>d) (λ_=>d) (λ_ _ _=>d) (λ_=>d) (λ_=>d)
noncomputable def Ly(p:PV):Option Int:=p.sel none (it:=some)
noncomputable def TH(p:PV):Option Str:=p.sel none (st:=some)
noncomputable def Zr(p:PV):Option Bool:=p.sel none (bl:=some)
noncomputable def Zs(p:PV):Option (List PV):=p.sel none (tp:=some)
noncomputable def EV.p?(a:EV):Option PV:=EV.rec some (λ_=>none) (λ_=>none) (λ_ _=>none) (λ_ _ _=>none) a
noncomputable def EV.k?(a:EV):Option Nat:=EV.rec (λ_=>none) some (λ_=>none) (λ_ _=>none) (λ_ _ _=>none) a
noncomputable def EV.t?(a:EV):Option (List Nat):=EV.rec (λ_=>none) (λ_=>none) some (λ_ _=>none) (λ_ _ _=>none) a
noncomputable def wO{α:Type}(o:Option α)(k:α->Prop):Prop:=Option.rec True k o
noncomputable def gO{α:Type}(o:Option α)(i8:Prop)(k:α->Prop):Prop:=Option.rec i8 k o
end
theorem GS{p:Pa}{k:Bool->Pa->Prop}(h:∀b t,k b t):oB p k:=
 List.casesOn p trivial λa t=>yo.casesOn a (λ_=>h _ _) (λ_ _=>trivial) (λ_=>trivial) (λ_ _=>trivial) (λ_=>trivial)
theorem se{p:Pa}{os:List Ob}{k:Option EV->List Ob->Pa->Prop}(h:∀bB os t,k bB os t):oC p os k:=
 List.casesOn p trivial λa t=>yo.casesOn a (λ_=>trivial) (λ_ _=>h _ _ _) (λ_=>trivial) (λ_ _=>trivial) (λ_=>h _ _ _)
theorem Lz{p:Pa}{k:oj->Pa->Prop}(h:∀bB t,k bB t):oO p k:=
 List.casesOn p trivial λa t=>yo.casesOn a (λ_=>trivial) (λ_ _=>trivial) (λ_=>h _ _) (λ_ _=>trivial) (λ_=>trivial)
theorem LA{p:Pa}{k:Option EV->List Ob->Pa->Prop}{i8:Prop}(h:∀bB os t,k bB os t)(h0:i8):oX p k i8:=
 List.casesOn p h0 λa t=>yo.casesOn a (λ_=>h0) (λ_ _=>h0) (λ_=>h0) (λ_ _=>h _ _ _) (λ_=>h0)
theorem dD{α:Type}{o:Option α}{k:α->Prop}(h:∀x,o=some x->k x):wO o k:=by
 cases o with
 |none=>trivial
 |some x=>exact h x rfl
theorem nI{α:Type}{o:Option α}{r:Prop}{k:α->Prop}(h0:r)(h:∀x,o=some x->k x):gO o r k:=by
 cases o with
 |none=>exact h0
 |some x=>exact h x rfl
theorem PV.fH{α:Type}{d:α}{bl it st tp}(P:PV->α->Prop)(p:PV)(hd:∀p,P p d)(h1:∀x,P (.bool x) (bl x))(h2:∀x,P (.int x) (it x))(h3:∀x,P (.str x) (st x))(h4:∀x,P (.tup x) (tp x)):P p (p.sel d bl it st tp):=
 PV.casesOn (motive_1:=λp=>P p (p.sel d bl it st tp)) p (hd _) h1 h2 h3 h4 (λ_=>hd _) (λ_=>hd _) (λ_ _ _=>hd _) (λ_=>hd _) (λ_=>hd _)
section
variable{β:Type}{i:β}{g:β->PV}
theorem jZ(p:PV)(h:none=some i):p=g i:=nomatch h
theorem Dm(x:β)(h:some x=some i):g x=g i:=congrArg g (ao h)
end
theorem Nc{p:PV}{i:Int}:Ly p=some i->p=.int i:=PV.fH (λp q=>q=some i->p=.int i) p jZ (λ_=>jZ _) Dm (λ_=>jZ _) (λ_=>jZ _)
theorem Nd{p:PV}{i:Str}:TH p=some i->p=.str i:=PV.fH (λp q=>q=some i->p=.str i) p jZ (λ_=>jZ _) (λ_=>jZ _) Dm (λ_=>jZ _)
theorem Nf{p:PV}{i:Bool}:Zr p=some i->p=.bool i:=PV.fH (λp q=>q=some i->p=.bool i) p jZ Dm (λ_=>jZ _) (λ_=>jZ _) (λ_=>jZ _)
theorem Ng{p:PV}{i:List PV}:Zs p=some i->p=.tup i:=PV.fH (λp q=>q=some i->p=.tup i) p jZ (λ_=>jZ _) (λ_=>jZ _) (λ_=>jZ _) Dm
section
variable{β:Type}{i:β}{g:β->EV}
theorem nJ{p:EV}(h:none=some i):p=g i:=nomatch h
theorem GU(x:β)(h:some x=some i):g x=g i:=congrArg g (ao h)
end
theorem EV.Ic{a:EV}{p:PV}:a.p?=some p->a=.v p:=EV.casesOn (motive:=λa=>a.p?=some p->a=.v p) a (GU (g:= .v)) (λ_=>nJ) (λ_=>nJ) (λ_ _=>nJ) (λ_ _ _=>nJ)
theorem EV.Om{a:EV}{k:Nat}:a.k?=some k->a=.o k:=EV.casesOn (motive:=λa=>a.k?=some k->a=.o k) a (λ_=>nJ) (GU (g:= .o)) (λ_=>nJ) (λ_ _=>nJ) (λ_ _ _=>nJ)
theorem EV.Yr{a:EV}{k:List Nat}:a.t?=some k->a=.t k:=EV.casesOn (motive:=λa=>a.t?=some k->a=.t k) a (λ_=>nJ) (λ_=>nJ) (GU (g:= .t)) (λ_ _=>nJ) (λ_ _ _=>nJ)
noncomputable def JD(a b:EV):Option (Int×Int):=(a.p?.bind Ly).bind λx=>(b.p?.bind Ly).map λy=>(x,y)
noncomputable def RZ(a b:EV):Option (Str×Str):=(a.p?.bind TH).bind λx=>(b.p?.bind TH).map λy=>(x,y)
noncomputable def AV(a:EV):Option Bool:=a.p?.bind Zr
theorem Dn{α:Type}{o o':Option α}{x:α×α}(h:(o.bind λx=>o'.map λy=>(x,y))=some x):o=some x.1/\o'=some x.2:=
 (ah.mp h).elim λu h=>(ai.mp h.2).elim λv e=>e.2▸⟨h.1,e.1⟩
theorem BP{a:EV}{x:Int}(h:a.p?.bind Ly=some x):a=.v (.int x):=by
 obtain⟨p,h1,h2⟩:=ah.mp h
 rw[EV.Ic h1,Nc h2]
theorem GV{a:EV}{x:Str}(h:a.p?.bind TH=some x):a=.v (.str x):=by
 obtain⟨p,h1,h2⟩:=ah.mp h
 rw[EV.Ic h1,Nd h2]
theorem Nh{a:EV}{x:Bool}(h:AV a=some x):a=.v (.bool x):=by
 obtain⟨p,h1,h2⟩:=ah.mp h
 rw[EV.Ic h1,Nf h2]
theorem pM{a b:EV}{x:Int×Int}(h:JD a b=some x):a=.v (.int x.1)/\b=.v (.int x.2):=⟨BP (Dn h).1,BP (Dn h).2⟩
theorem Do{a b:EV}{x:Str×Str}(h:RZ a b=some x):a=.v (.str x.1)/\b=.v (.str x.2):=⟨GV (Dn h).1,GV (Dn h).2⟩
theorem vR{r:Option EV}{x:Bool}(h:r.bind AV=some x):r=some (.v (.bool x)):=by
 obtain⟨a,rfl,h2⟩:=ah.mp h
 rw[Nh h2]
theorem GW{r:Option EV}{x:Int}(h:(r.bind λa=>a.p?.bind Ly)=some x):r=some (.v (.int x)):=by
 obtain⟨a,rfl,h2⟩:=ah.mp h
 rw[BP h2]
noncomputable section
noncomputable def intOp(op:Operator):Option (Int->Int->Int):=Operator.casesOn op (some (·+·)) (some (·-·)) none none none none none none none none none none none
noncomputable def BQ(op:CmpOp):Option (Int->Int->Bool):=CmpOp.casesOn op (some λa b=>decide (a=b)) (some λa b=> !decide (a=b)) (some λa b=>decide (a<b)) (some λa b=>decide (a<=b)) (some λa b=>decide (b<a)) (some λa b=>decide (b<=a)) none none none none
noncomputable def BR(op:CmpOp):Option (Str->Str->Bool):=CmpOp.casesOn op (some λa b=>decide (a=b)) (some λa b=> !decide (a=b)) none (some λa b=> !decide (b.cps.toList<a.cps.toList)) none none none none none none
end
section
variable{C:Ctx}{fr:Fm}{l:Lo}{os:List Ob}
theorem o7{α β:Type}{g0 g:α->α->β}(P:(α->α->β)->Prop)(h:P g)(e:some g=some g0):P g0:=ao e▸h
theorem Ag{op:Operator}{f:Int->Int->Int}:intOp op=some f->∀x y:Int,To (t2 C fr (binaryOp op) (.v (.int x)) (.v (.int y))) l os (some (.v (.int (f x y)))) os:=
 let P:=λop (f:Int->Int->Int)=>∀x y:Int,To (t2 C fr (binaryOp op) (.v (.int x)) (.v (.int y))) l os (some (.v (.int (f x y)))) os
 have n:∀op,none=some f->P op f:=λ_ h=>(aW _ h.symm).elim
 Operator.casesOn (motive:=λop=>intOp op=some f->P op f) op (o7 (P _) λ_ _=>To.pure λ_ _ _ _ _ q=>FE q) (o7 (P _) λ_ _=>To.pure λ_ _ _ _ _ q=>Mv q) (n _) (n _) (n _) (n _) (n _) (n _) (n _) (n _) (n _) (n _) (n _)
theorem Ev{op:CmpOp}{f:Int->Int->Bool}:BQ op=some f->∀x y:Int,To (t2 C fr (compareOp op) (.v (.int x)) (.v (.int y))) l os (some (.v (.bool (f x y)))) os:=
 let P:=λop (f:Int->Int->Bool)=>∀x y:Int,To (t2 C fr (compareOp op) (.v (.int x)) (.v (.int y))) l os (some (.v (.bool (f x y)))) os
 have n:∀op,none=some f->P op f:=λ_ h=>(aW _ h.symm).elim
 CmpOp.casesOn (motive:=λop=>BQ op=some f->P op f) op (o7 (P _) λ_ _=>To.pure λ_ _ _ _ _ q=>Pj q) (o7 (P _) λ_ _=>To.pure λ_ _ _ _ _ q=>Pk q) (o7 (P _) λ_ _=>To.pure λ_ _ _ _ _ q=>CN q) (o7 (P _) λ_ _=>To.pure λ_ _ _ _ _ q=>Pm q)
  (o7 (P _) λ_ _=>To.pure λ_ _ _ _ _ q=>Pn q) (o7 (P _) λ_ _=>To.pure λ_ _ _ _ _ q=>zg q) (n _) (n _) (n _) (n _)
theorem Ew{op:CmpOp}{f:Str->Str->Bool}:BR op=some f->∀x y:Str,To (t2 C fr (compareOp op) (.v (.str x)) (.v (.str y))) l os (some (.v (.bool (f x y)))) os:=
 let P:=λop (f:Str->Str->Bool)=>∀x y:Str,To (t2 C fr (compareOp op) (.v (.str x)) (.v (.str y))) l os (some (.v (.bool (f x y)))) os
 have n:∀op,none=some f->P op f:=λ_ h=>(aW _ h.symm).elim
 CmpOp.casesOn (motive:=λop=>BR op=some f->P op f) op (o7 (P _) λ_ _=>To.pure λ_ _ _ _ _ q=>Mx q) (o7 (P _) λ_ _=>To.pure λ_ _ _ _ _ q=>My q) (n _) (o7 (P _) λ_ _=>To.pure λ_ _ _ _ _ q=>Mz q) (n _) (n _) (n _) (n _) (n _) (n _)
end
section
variable(C:Ctx)(fr:Fm)
noncomputable def yp(x:Str)(c:EV)(l:Lo)(os:List Ob):Prop:=∀p,To (tE C fr (.Name x p)) l os (some c) os
noncomputable def dO(x:Str)(cs:List EV)(l:Lo)(os:List Ob)(bB:Option EV)(os':List Ob):Prop:=
 ∀pos p es sG,fK es=true->qo C fr pos es l sG (some cs) os->To (tE C fr (.Call (.Name x p) es [] pos)) l sG bB os'
noncomputable def LB(x:Str):Prop:=∀pos p es l sG os1 os',fK es=true->qo C fr pos es l sG none os1->To (tE C fr (.Call (.Name x p) es [] pos)) l sG none os'
noncomputable def ur(o:Expr)(ap pos:Pos)(es:List Expr):Bool:=fK es&&(Nat.blt es.length 30&&(GP o&&(ap.endLine==pos.line)))
noncomputable def gR(name:Str)(a:EV)(os1:List Ob)(cs:List EV)(l:Lo)(os:List Ob)(bB:Option EV)(os':List Ob):Prop:=
 ∀o ap pos es sG,ur o ap pos es=true->To (tE C fr o) l sG (some a) os1->qo C fr pos es l os1 (some cs) os->To (tE C fr (.Call (.Attribute o name ap) es [] pos)) l sG bB os'
noncomputable def Ah(name:Str)(a:EV)(os1:List Ob):Prop:=
 ∀o ap pos es l sG os2 os',ur o ap pos es=true->To (tE C fr o) l sG (some a) os1->qo C fr pos es l os1 none os2->To (tE C fr (.Call (.Attribute o name ap) es [] pos)) l sG none os'
noncomputable def mR(a b:EV)(l:Lo)(os:List Ob)(bB:Option EV)(os':List Ob):Prop:=(∃T,a.ty os'=some T/\(T="list"\/T="dict"\/T="str"\/T="tuple"))/\os'=os/\To (t2 C fr getItem a b) l os bB os
noncomputable def sf(a:EV)(lo hi:Option Int)(l:Lo)(os:List Ob)(bB:Option EV)(os':List Ob):Prop:=
 ∀e TJ Na p pos sG os1 os2,vO e=true->To (tE C fr e) l sG (some a) os1->vM C fr TJ l os1 lo os2->vM C fr Na l os2 hi os->To (tE C fr (.Subscript e (.Slice TJ Na none p) pos)) l sG bB os'
end
noncomputable section
noncomputable def yS(b:Bool)(k:Prop):Prop:=Bool.rec True k b
noncomputable abbrev uc:=Bool->Expr->List Ob->Pa->KE->Prop
noncomputable abbrev KL:=Option (List EV)->List Ob->Pa->Prop
noncomputable def gL(rec:uc)(es:List Expr):List Ob->Pa->KL->Prop:=
 List.rec (λos p K=>K (some []) os p) (λe _ ih os p K=>rec false e os p λr os p=>Option.rec (K none os p) (λa=>ih os p λrs os p=>K (rs.map (a::·)) os p) r) es
noncomputable def Xi(rec:uc)(e:Option Expr)(os:List Ob)(p:Pa)(K:Option Int->List Ob->Pa->Prop):Prop:=
 Option.rec (K none os p) (λe=>rec false e os p λr os p=>wO (r.bind λa=>a.p?.bind Ly) λi=>K (some i) os p) e
noncomputable def wE(op:BoolOp)(b:Bool):Bool:=match op with
 |.And=>b
 |.Or=> !b
noncomputable def GX(op:BoolOp):Bool:=match op with
 |.And=>true
 |.Or=>false
noncomputable def Xj(rec:uc)(op:BoolOp)(es:List Expr):List Ob->Pa->KE->Prop:=
 List.rec (λ_ _ _=>True) (λe es ih os p K=>rec false e os p λr os p=>List.rec (K r os p) (λ_ _ _=>wO (r.bind AV) λx=>oB p λb p=>x=b->Bool.rec (K (some (.v (.bool b))) os p) (ih os p K) (wE op b)) es) es
noncomputable def Xk(rec:uc)(op:BoolOp)(es:List Expr):List Ob->Pa->KE->Prop:=
 List.rec (λos p K=>K (some (.v (.bool (GX op)))) os p) (λe es ih os p K=>rec true e os p λr os p=>wO (r.bind AV) λx=>oB p λb p=>x=b->Bool.rec (K (some (.v (.bool b))) os p) (ih os p K) (wE op b)) es
noncomputable def Ai(cs:List EV):Option (List PV):=List.rec (some []) (λa _ ih=>a.p?.bind λv=>ih.map (v::·)) cs
noncomputable def yq(cs:List EV):Option (List Nat):=List.rec (some []) (λa _ ih=>a.k?.bind λv=>ih.map (v::·)) cs
noncomputable def Dp(cs:List EV):Option EV:=List.rec none (λa cs _=>List.rec none (λb cs _=>List.rec (a.k?.bind λk=>b.p?.map λv=> .m k v) (λ_ _ _=>none) cs) cs) cs
noncomputable def LD(cs:List EV):Option EV:=Option.rec (Option.rec (Dp cs) (λks=>some (.t ks)) (yq cs)) (λvs=>some (.v (.tup vs))) (Ai cs)
end
theorem f9{b:Bool}{k:Prop}:(b=true->k)->yS b k:=Bool.casesOn b (λ_=>trivial) λh=>h rfl
theorem Dq{α β γ:Type}{o:Option α}{o':Option β}{g:α->β->γ}{x:γ}(h:(o.bind λx=>o'.map (g x))=some x):∃u v,o=some u/\o'=some v/\g u v=x:=
 (ah.mp h).elim λu h=>(ai.mp h.2).elim λv e=>⟨u,v,h.1,e⟩
theorem Aj(as:Nat->Addr){cs:List EV}:∀{vs:List PV},Ai cs=some vs->cs.map (·.at as)=vs:=by
 induction cs with
 |nil=>exact ao
 |cons a cs ih=>exactλh=>(Dq h).elim λv h=>h.elim λws h=>h.2.2▸EV.Ic h.1▸congrArg (v::·) (ih h.2.1)
theorem JE(as:Nat->Addr){cs:List EV}:∀{ks:List Nat},yq cs=some ks->cs=ks.map .o:=by
 induction cs with
 |nil=>exactλh=>ao h▸rfl
 |cons a cs ih=>exactλh=>(Dq h).elim λv h=>h.elim λws h=>h.2.2▸EV.Om h.1▸congrArg (EV.o v::·) (ih h.2.1)
theorem Ni{cs:List EV}{c:EV}:Dp cs=some c->(∀as,PV.tup (cs.map (·.at as))=c.at as)/\∀n,(∀x∈cs,EV.Ok n x)->c.Ok n:=
 List.casesOn cs (nomatch·) λa cs=>List.casesOn cs (nomatch·) λb cs=>List.casesOn (motive:=λl=>Dp (a::b::l)=some c->(∀as,PV.tup ((a::b::l).map (·.at as))=c.at as)/\∀n,(∀x∈a::b::l,EV.Ok n x)->c.Ok n) cs
  (λh=>(Dq h).elim λk h=>h.elim λv h=>h.2.2▸EV.Om h.1▸EV.Ic h.2.1▸⟨λ_=>rfl,λn hx=>(show EV.Ok n (.o k)from hx _ (.head _))⟩) λ_ _=>(nomatch·)
theorem GY{cs:List EV}{c:EV}(h:LD cs=some c):(∀as,PV.tup (cs.map (·.at as))=c.at as)/\∀n,(∀x∈cs,EV.Ok n x)->c.Ok n:=by
 change Option.rec (Option.rec (Dp cs) (λks=>some (EV.t ks)) (yq cs)) (λvs=>some (EV.v (.tup vs))) (Ai cs)=some c at h
 cases q:Ai cs with
 |some vs=>rw[q]at h;cases h;exact⟨λas=>congrArg PV.tup (Aj as q),λ_ _=>trivial⟩
 |none=>
  rw[q]at h
  cases q':yq cs with
  |none=>rw[q']at h;exact Ni h
  |some ks=>
   rw[q']at h
   cases h
   have e:=JE (λ_=>0) q'
   subst e
   exact⟨λas=>by rw[bU];rfl,λn hx k hk=>hx _ (jU hk)⟩
section
variable{C:Ctx}{fr:Fm}{l:Lo}
noncomputable abbrev tX(C:Ctx)(fr:Fm)(t:Bool)(e:Expr):Tr:=bif t then tT C fr e else tE C fr e
noncomputable abbrev g9(C:Ctx)(fr:Fm)(l:Lo)(rec:uc):Prop:=∀t e os p (K:KE),(∀bB os' p',To (tX C fr t e) l os bB os'->K bB os' p')->rec t e os p K
section
variable{rec:uc}{os:List Ob}{p:Pa}{e:Expr}
theorem g9.v(R:g9 C fr l rec){K:EV->List Ob->Pa->Prop}(h:∀a os' p',To (tE C fr e) l os (some a) os'->K a os' p'):rec false e os p λr os p=>wO r λa=>K a os p:=
 R false e os p _ λr os1 p1=>Option.casesOn (motive:=λr=>To (tE C fr e) l os r os1->wO r λa=>K a os1 p1) r (λ_=>trivial) λa=>h a os1 p1
theorem g9.b(R:g9 C fr l rec){t:Bool}{K:Bool->List Ob->Pa->Prop}(h:∀x os' p',To (tX C fr t e) l os (some (.v (.bool x))) os'->K x os' p'):rec t e os p λr os p=>wO (r.bind AV) λx=>K x os p:=
 R t e os p _ λr os1 p1 h1=>dD λx hx=>h x os1 p1 (vR hx▸h1)
theorem g9.t(R:g9 C fr l rec){t:Bool}{K:Bool->List Ob->Pa->Prop}(h:∀x os' p',To (tX C fr t e) l os (some (.v (.bool x))) os'->K x os' p'):rec t e os p λr os p=>wO (r.bind AV) λx=>oB p λb p=>x=b->K b os p:=
 R.b λx os1 p1 h1=>GS λb p2 e=>e▸h x os1 p2 h1
theorem g9.i(R:g9 C fr l rec){K:Int->List Ob->Pa->Prop}(h:∀x os' p',To (tE C fr e) l os (some (.v (.int x))) os'->K x os' p'):rec false e os p λr os p=>wO (r.bind λa=>a.p?.bind Ly) λx=>K x os p:=
 R false e os p _ λr os1 p1 h1=>dD λx hx=>h x os1 p1 (GW hx▸h1)
theorem g9.o(R:g9 C fr l rec){K:KE}(h0:∀os' p',To (tE C fr e) l os none os'->K none os' p')(h:∀a os' p',To (tE C fr e) l os (some a) os'->K (some a) os' p'):rec false e os p K:=
 R false e os p _ λr os1 p1=>Option.casesOn (motive:=λr=>To (tE C fr e) l os r os1->K r os1 p1) r (h0 os1 p1) λa=>h a os1 p1
end
theorem Ak{rec:uc}(R:g9 C fr l rec)(pos:Pos){es:List Expr}:fK es=true->∀{os:List Ob} {p:Pa} {K:KL},(∀bB os' p',qo C fr pos es l os bB os'->K bB os' p')->gL rec es os p K:=by
 induction es with
 |nil=>exactλ_ _ _ _ h=>h _ _ _ qo.nil
 |cons e es ih=>
  exactλhs os p K h=>have s:=xC (fM hs).1 es
   R.o (λos1 p1 h1=>h none os1 p1 (qo.x1 h1 s)) λa os1 p1 h1=>ih (fM hs).2 λrs os2 p2=>
    Option.casesOn (motive:=λrs=>qo C fr pos es l os1 rs os2->K (rs.map (a::·)) os2 p2) rs (λh2=>h none os2 p2 (qo.x2 h1 h2 s)) λcs h2=>h _ os2 p2 (qo.cons h1 h2 s)
theorem GZ{rec:uc}(R:g9 C fr l rec){e:Option Expr}{os:List Ob}{p:Pa}{K:Option Int->List Ob->Pa->Prop}:(∀i os' p',vM C fr e l os i os'->K i os' p')->Xi rec e os p K:=
 Option.casesOn e (λh=>h none os p vM.none) λe h=>R.i λi os1 p1 h1=>h _ os1 p1 (vM.some h1)
noncomputable abbrev JF(C:Ctx)(fr:Fm)(pos:Pos)(op:BoolOp)(es:List Expr):=To λ_ ρ σ Q X=>Mm C fr pos op es ρ σ Q X
noncomputable abbrev JG(C:Ctx)(fr:Fm)(op:BoolOp)(es:List Expr):=To λ_ ρ σ Q X=>IB C fr op es ρ σ (λb=>Q (.bool b)) X
theorem R0{os os1 os2:List Ob}{bB:Option EV}{pos:Pos}{op:BoolOp}{e e':Expr}{es:List Expr}{b:Bool}(h1:To (tE C fr e) l os (some (.v (.bool b))) os1)(hb:wE op b=true)(h2:JF C fr pos op (e'::es) l os1 bB os2):JF C fr pos op (e::e'::es) l os bB os2:= .mk λas ρ σ F s Q X q=>by
 have h:∀Q':PV->St->Prop,(∀cD cQ,Vx l os os1 (.v (.bool b)) as ρ F cD cQ->Q' (.bool b) cQ)->WE C fr e ρ σ Q' X:=λQ' hq=>h1.go as ρ σ F s Q' X hq
 cases op with
 |And=>exact CJ (h _ λcD cQ v=>et ⟨λ_=>h2.go cD ρ cQ F v.s Q X (q.after v),λe=>(by rw[e]at hb;cases hb)⟩)
 |Or=>exact Fs (h _ λcD cQ v=>et ⟨λe=>(by rw[e]at hb;cases hb),λ_=>h2.go cD ρ cQ F v.s Q X (q.after v)⟩)
theorem Nj{os os1:List Ob}{pos:Pos}{op:BoolOp}{e e':Expr}{es:List Expr}{b:Bool}(h1:To (tE C fr e) l os (some (.v (.bool b))) os1)(hb:wE op b=false):JF C fr pos op (e::e'::es) l os (some (.v (.bool b))) os1:= .mk λas ρ σ F s Q X q=>by
 have h:∀Q':PV->St->Prop,(∀cD cQ,Vx l os os1 (.v (.bool b)) as ρ F cD cQ->Q' (.bool b) cQ)->WE C fr e ρ σ Q' X:=λQ' hq=>h1.go as ρ σ F s Q' X hq
 cases op with
 |And=>exact CJ (h _ λcD cQ v=>et ⟨λe=>(by rw[e]at hb;cases hb),λ_=>q cD cQ v⟩)
 |Or=>exact Fs (h _ λcD cQ v=>et ⟨λ_=>q cD cQ v,λe=>(by rw[e]at hb;cases hb)⟩)
theorem R1{os os1 os2:List Ob}{bB:Option EV}{op:BoolOp}{e:Expr}{es:List Expr}{b:Bool}(h1:To (tT C fr e) l os (some (.v (.bool b))) os1)(hb:wE op b=true)(h2:JG C fr op es l os1 bB os2):JG C fr op (e::es) l os bB os2:= .mk λas ρ σ F s Q X q=>by
 have h:∀Q':Bool->St->Prop,(∀cD cQ,Vx l os os1 (.v (.bool b)) as ρ F cD cQ->Q' b cQ)->WT C fr e ρ σ Q' X:=λQ' hq=>h1.go as ρ σ F s (bQ Q') X hq
 cases op with
 |And=>exact CI (h _ λcD cQ v=>⟨λ_=>h2.go cD ρ cQ F v.s Q X (q.after v),λe=>(by rw[e]at hb;cases hb)⟩)
 |Or=>exact Fo (h _ λcD cQ v=>⟨λe=>(by rw[e]at hb;cases hb),λ_=>h2.go cD ρ cQ F v.s Q X (q.after v)⟩)
theorem Nk{os os1:List Ob}{op:BoolOp}{e:Expr}{es:List Expr}{b:Bool}(h1:To (tT C fr e) l os (some (.v (.bool b))) os1)(hb:wE op b=false):JG C fr op (e::es) l os (some (.v (.bool b))) os1:= .mk λas ρ σ F s Q X q=>by
 have h:∀Q':Bool->St->Prop,(∀cD cQ,Vx l os os1 (.v (.bool b)) as ρ F cD cQ->Q' b cQ)->WT C fr e ρ σ Q' X:=λQ' hq=>h1.go as ρ σ F s (bQ Q') X hq
 cases op with
 |And=>exact CI (h _ λcD cQ v=>⟨λe=>(by rw[e]at hb;cases hb),λe=>by have:=q cD cQ v;rwa[show b=false from e]at this⟩)
 |Or=>exact Fo (h _ λcD cQ v=>⟨λe=>by have:=q cD cQ v;rwa[show b=true from e]at this,λe=>(by rw[e]at hb;cases hb)⟩)
theorem Nl{rec:uc}(R:g9 C fr l rec)(pos:Pos)(op:BoolOp){es:List Expr}:∀{os:List Ob} {p:Pa} {K:KE},(∀bB os' p',JF C fr pos op es l os bB os'->K bB os' p')->Xj rec op es os p K:=by
 induction es with
 |nil=>exactλ_=>trivial
 |cons e es ih=>
  cases es with
  |nil=>exactλh=>R false e _ _ _ λr os1 p1 h1=>h r os1 p1<| .mk λas ρ σ F s Q X q=>IC (h1.go as ρ σ F s Q X q)
  |cons e' es=>
   exactλ{os p K} h=>R.t (t:=false) λx os1 p1 h1=>
    Bool.casesOn (motive:=λg=>wE op x=g->Bool.rec (K (some (.v (.bool x))) os1 p1) (Xj rec op (e'::es) os1 p1 K) g) (wE op x) (λq=>h _ _ _ (Nj h1 q)) (λq=>ih λbB nG p3 h3=>h _ _ _ (R0 h1 q h3)) rfl
theorem Nm{rec:uc}(R:g9 C fr l rec)(op:BoolOp){es:List Expr}:∀{os:List Ob} {p:Pa} {K:KE},(∀bB os' p',JG C fr op es l os bB os'->K bB os' p')->Xk rec op es os p K:=by
 induction es with
 |nil=>
  exactλh=>h _ _ _<| .mk λas ρ σ F s Q X q=>
   BoolOp.casesOn (motive:=λop=>Q (.bool (GX op)) σ->IB C fr op [] ρ σ (λb=>Q (.bool b)) X) op (λh=>yY h) (λh=>A6 h) (q as σ (s.refl (c:= .v (.bool (GX op))) trivial))
 |cons e es ih=>
  exactλ{os p K} h=>R.t (t:=true) λx os1 p1 h1=>
   Bool.casesOn (motive:=λg=>wE op x=g->Bool.rec (K (some (.v (.bool x))) os1 p1) (Xk rec op es os1 p1 K) g) (wE op x) (λq=>h _ _ _ (Nk h1 q)) (λq=>ih λbB nG p3 h3=>h _ _ _ (R1 h1 q h3)) rfl
end
noncomputable section
noncomputable def Ob.Ys(o:Ob):Option PV:=Ob.rec (λ_=>none) (λ_=>none) (λkvs=>some (.tabI kvs)) (λkvs=>some (.eg kvs)) (λ_=>none) (λ_ _ _=>none) none none o
variable(C:Ctx)(fr:Fm)(l:Lo)
noncomputable def Xl(c:EV)(os:List Ob)(p:Pa)(K:KE):Prop:=
 gO c.k? (K (some c) os p) λk=>gO ((os[k]?).bind Ob.Ys) (K (some c) os p) λv=>oB p λb p=>Bool.rec (K (some c) os p) (K (some (.v v)) (os.set k .gone) p) b
noncomputable def LF(x:Str)(os:List Ob)(p:Pa)(K:KE):Prop:=
 gO (fi x fr.vn) (oC p os λbB _ p=>wO bB λc=>yp C fr x c l os->K (some c) os p) λi=>wO (l[i]?) λo=>wO o λc=>yS (!c.Yi) (Xl c os p K)
noncomputable def R2(op:Operator)(a b:EV)(os:List Ob)(p:Pa)(K:KE):Prop:=
 gO ((intOp op).bind λf=>(JD a b).map λq=>f q.1 q.2) (oC p os λbB os' p=>To (t2 C fr (binaryOp op) a b) l os bB os'->K bB os' p) λx=>K (some (.v (.int x))) os p
noncomputable def G0(op:CmpOp)(a b:EV)(os:List Ob)(p:Pa)(K:KE):Prop:=
 gO ((BQ op).bind λf=>(JD a b).map λq=>f q.1 q.2)
  (gO ((BR op).bind λf=>(RZ a b).map λq=>f q.1 q.2) (oC p os λbB os' p=>To (t2 C fr (compareOp op) a b) l os bB os'->K bB os' p) λx=>K (some (.v (.bool x))) os p) λx=>K (some (.v (.bool x))) os p
noncomputable def G1(rec:uc)(a:Expr)(op:CmpOp)(b:Expr)(os:List Ob)(p:Pa)(K:KE):Prop:=
 yS (tV b) (rec false a os p λr os p=>wO r λva=>rec false b os p λr os p=>wO r λvb=>G0 C fr l op va vb os p K)
noncomputable def LG(rec:uc)(f:Expr)(es:List Expr)(pos:Pos)(os:List Ob)(p:Pa)(K:KE):Prop:=
 gO (idOf f) (wO (RT f) λa=>yS (ur a.1 a.2.2 pos es) (rec false a.1 os p λr os1 p=>wO r λo=>gL rec es os1 p λr os p=>
  Option.rec (Ah C fr a.2.1 o os1->K none os p) (λcs=>oC p os λbB os' p=>gR C fr a.2.1 o os1 cs l os bB os'->K bB os' p) r))
  λx=>yS (fK es) (gL rec es os p λr os p=>Option.rec (LB C fr x->K none os p) (λcs=>oC p os λbB os' p=>dO C fr x cs l os bB os'->K bB os' p) r)
noncomputable def R3(rec:uc)(a i:Expr)(os:List Ob)(p:Pa)(K:KE):Prop:=
 gO (RU i) (yS (Dk i) (rec false a os p λr os p=>wO r λva=>rec false i os p λr os p=>wO r λvi=>oC p os λbB os' p=>mR C fr va vi l os bB os'->K bB os' p))
  λs=>yS (s.2.2.1.isNone&&vO a) (rec false a os p λr os p=>wO r λva=>Xi rec s.1 os p λx os p=>Xi rec s.2.1 os p λy os p=>oC p os λbB os' p=>sf C fr va x y l os bB os'->K bB os' p)
noncomputable def Ex{α:Type}(k:Prop)(k':α->List α->Prop)(xs:List α):Prop:=List.rec k (λx xs _=>k' x xs) xs
noncomputable def R4{α β:Type}(k:α->β->Prop)(xs:List α)(ys:List β):Prop:=Ex True (λx xs=>Ex (Ex True (λy ys=>Ex (k x y) (λ_ _=>True) ys) ys) (λ_ _=>True) xs) xs
noncomputable def R5{α β:Type}(k:α->β->Prop)(k':α->α->β->β->Prop)(xs:List α)(ys:List β):Prop:=
 Ex True (λx xs=>Ex True (λy ys=>Ex (Ex (k x y) (λ_ _=>True) ys) (λx' xs=>Ex True (λy' ys=>Ex (Ex (k' x x' y y') (λ_ _=>True) ys) (λ_ _=>True) xs) ys) xs) ys) xs
noncomputable def gV(rec:uc)(e:Expr)(os:List Ob)(p:Pa)(K:KE):Prop:=oX p (λbB os' p=>To (tE C fr e) l os bB os'->K bB os' p) (sel True e
 (nm:=λx _=>LF C fr l x os p K)
 (con:=λc _ _=>wO (M1 c) λv=>K (some (.v v)) os p)
 (bin:=λa op b _=>rec false a os p λr os p=>wO r λva=>rec false b os p λr os p=>wO r λvb=>R2 C fr l op va vb os p K)
 (un:=λop a _=>UnaryOp.casesOn op True (rec false a os p λr os p=>wO (r.bind AV) λx=>K (some (.v (.bool (!x)))) os p) True (rec false a os p λr os p=>wO (r.bind λa=>a.p?.bind Ly) λi=>K (some (.v (.int (-i)))) os p))
 (boo:=λop es _=>Xj rec op es os p K)
 (cmp:=λa ic rs _=>R4 (λop b=>G1 C fr l rec a op b os p K) ic rs)
 (ifx:=λt a b _=>rec true t os p λr os p=>wO (r.bind AV) λx=>oB p λc p=>x=c->rec false (bif c then a else b) os p K)
 (call:=λf es kw pos=>List.rec (LG C fr l rec f es pos os p K) (λ_ _ _=>True) kw)
 (sub:=λa i _=>R3 C fr l rec a i os p K)
 (tup:=λes _ _=>yS (fK es) (gL rec es os p λr os p=>Option.rec (K none os p) (λcs=>yS (Nat.ble cs.length 100) (wO (LD cs) λc=>K (some c) os p)) r))
 (lst:=λes _=>yS (fK es) (gL rec es os p λr os p=>wO r λcs=>wO (Ai cs) λxs=>yS (Nat.ble xs.length 100&&os.all Ob.live) (K (some (.o os.length)) (os++[.list xs]) p))))
noncomputable def gT(rec:uc)(e:Expr)(os:List Ob)(p:Pa)(K:KE):Prop:=oX p (λbB os' p=>To (tT C fr e) l os bB os'->K bB os' p) (Bool.rec (sel True e
 (un:=λop a _=>UnaryOp.casesOn op True (rec true a os p λr os p=>wO (r.bind AV) λx=>K (some (.v (.bool (!x)))) os p) True True)
 (boo:=λop es _=>Xk rec op es os p K)
 (cmp:=λa ic rs _=>R5 (λop b=>G1 C fr l rec a op b os p λr os p=>wO (r.bind AV) λx=>K (some (.v (.bool x))) os p)
  (λop LH b c=>yS (tV c) (rec false a os p λr os p=>wO r λva=>rec false b os p λr os p=>wO r λvb=>G0 C fr l op va vb os p λr os p=>wO (r.bind AV) λx=>oB p λt p=>x=t->
   Bool.rec (K (some (.v (.bool false))) os p) (rec false c os p λr os p=>wO r λvc=>G0 C fr l LH vb vc os p λr os p=>wO (r.bind AV) λy=>K (some (.v (.bool y))) os p) t)) ic rs))
 (rec false e os p λr os p=>wO (r.bind AV) λx=>K (some (.v (.bool x))) os p) (GO e))
noncomputable def gE(n:Nat):uc:=Nat.rec (λ_ _ _ _ _=>True) (λ_ ih t e os p K=>Bool.rec (gV C fr l ih e os p K) (gT C fr l ih e os p K) t) n
end
section
variable{C:Ctx}{fr:Fm}{l:Lo}
theorem Nn(F:aG C fr){x:Str}{pos:Pos}{os:List Ob}{i k:Nat}(hi:fi x fr.vn=some i)(ho:l[i]?=some (some (.o k))){o:Ob}{v:PV}:os[k]?=some o->o.Ys=some v->To (tE C fr (.Name x pos)) l os (some (.v v)) (os.set k .gone):=
 have n:∀o,os[k]?=some o->none=some v->To (tE C fr (.Name x pos)) l os (some (.v v)) (os.set k .gone):=λ_ _ h=>(aW _ h.symm).elim
 Ob.casesOn (motive:=λo=>os[k]?=some o->o.Ys=some v->To (tE C fr (.Name x pos)) l os (some (.v v)) (os.set k .gone)) o (λ_=>n _) (λ_=>n _) (λ_ h e=>ao e▸To.Yo F hi ho h) (λ_ h e=>ao e▸To.Yp F hi ho h) (λ_=>n _) (λ_ _ _=>n _) (n _) (n _)
theorem G2(F:aG C fr){x:Str}{pos:Pos}{os:List Ob}{p:Pa}{K:KE}(h:∀bB os' p',To (tE C fr (.Name x pos)) l os bB os'->K bB os' p'):LF C fr l x os p K:=
 nI (se λbB _ p1=>dD λc _ hc=>h _ _ _ (hc pos)) λi hi=>dD λo ho=>dD λc hc=>f9 λhg=>
  have ho:=ho.trans (congrArg some hc)
  have t:=To.name (p:=pos) F hi ho (Ot hg)
  nI (h _ _ _ t) λk hk=>nI (h _ _ _ t) λv hv=>GS λb p1=>Bool.casesOn b (h _ _ _ t) ((ah.mp hv).elim λo pQ=>h _ _ _ (Nn F hi (EV.Om hk▸ho) pQ.1 pQ.2))
theorem BS{α β:Type}{o:Option (α->α->β)}{o':Option (α×α)}{x:β}(h:(o.bind λf=>o'.map λq=>f q.1 q.2)=some x):∃f q,o=some f/\o'=some q/\f q.1 q.2=x:=Dq (g:=λ(f:α->α->β) (q:α×α)=>f q.1 q.2) h
theorem JH{op:Operator}{a b:EV}{os:List Ob}{p:Pa}{K:KE}(h:∀bB os' p',To (t2 C fr (binaryOp op) a b) l os bB os'->K bB os' p'):R2 C fr l op a b os p K:=
 nI (se h) λx hx=>(BS hx).elim λf e=>e.elim λq e=>h _ _ _ (e.2.2▸(pM e.2.1).1▸(pM e.2.1).2▸Ag e.1 _ _)
theorem Dr{op:CmpOp}{a b:EV}{os:List Ob}{p:Pa}{K:KE}(h:∀bB os' p',To (t2 C fr (compareOp op) a b) l os bB os'->K bB os' p'):G0 C fr l op a b os p K:=
 nI (nI (se h) λx hx=>(BS hx).elim λf e=>e.elim λq e=>h _ _ _ (e.2.2▸(Do e.2.1).1▸(Do e.2.1).2▸Ew e.1 _ _))
  λx hx=>(BS hx).elim λf e=>e.elim λq e=>h _ _ _ (e.2.2▸(pM e.2.1).1▸(pM e.2.1).2▸Ev e.1 _ _)
theorem BU{op:CmpOp}{a b:EV}{os:List Ob}{p:Pa}{K:Bool->List Ob->Pa->Prop}(h:∀x os' p',To (t2 C fr (compareOp op) a b) l os (some (.v (.bool x))) os'->K x os' p'):G0 C fr l op a b os p λr os p=>wO (r.bind AV) λx=>K x os p:=
 Dr λbB os1 p1 h1=>dD λx hx=>h x os1 p1 (vR hx▸h1)
theorem vS:100<=sizeLine:=by decide
theorem vT{b:Expr}(h:tV b=true)(op:CmpOp):behindInMarks op b=false:=by cases b<;>first|rfl|cases h
theorem To.un{e:Expr}{op:UnaryOp}{p:Pos}{os os1:List Ob}{a:EV}{v:PV}(h:To (tE C fr e) l os (some a) os1)(h1:∀as ρ σ Q X,Q v σ->W1 C fr (unaryOp op) (a.at as) ρ σ Q X):To (tE C fr (.UnaryOp op e p)) l os (some (.v v)) os1:= .mk λas ρ σ F s Q X q=>
 qu (h.go as ρ σ F s _ _ λcD cQ v1=>h1 cD ρ cQ Q X (q cD cQ ⟨v1.a,v1.s,trivial,v1.n⟩))
theorem To.ifE{t a b:Expr}{p:Pos}{c:Bool}{os os1 os2:List Ob}{bB:Option EV}(h:To (tT C fr t) l os (some (.v (.bool c))) os1)(h1:To (tE C fr (bif c then a else b)) l os1 bB os2):To (tE C fr (.IfExp t a b p)) l os bB os2:= .mk λas ρ σ F s Q X q=>
 Fq (h.go as ρ σ F s (bQ _) X λcD cQ v=>by
  have:=h1.go cD ρ cQ F v.s Q X (q.after v)
  exact⟨λe=>by subst e;exact this,λe=>by subst e;exact this⟩)
theorem To.not{e:Expr}{p:Pos}{os os1:List Ob}{x:Bool}(h:To (tT C fr e) l os (some (.v (.bool x))) os1):To (tT C fr (.UnaryOp .Not e p)) l os (some (.v (.bool (!x)))) os1:= .mk λas ρ σ F s Q X q=>
 Ml (h.go as ρ σ F s (bQ _) X λcD cQ v=>q cD cQ ⟨v.a,v.s,trivial,v.n⟩)
theorem To.Yt{e1 e2:Expr}{op:CmpOp}{p:Pos}{os os1 os2 nG:List Ob}{a b:EV}{x:Bool}(h1:To (tE C fr e1) l os (some a) os1)(h2:To (tE C fr e2) l os1 (some b) os2)(h3:To (t2 C fr (compareOp op) a b) l os2 (some (.v (.bool x))) nG)
 (hm:tV e2=true):To (tT C fr (.Compare e1 [op] [e2] p)) l os (some (.v (.bool x))) nG:= .mk λas ρ σ F s Q X e=>gw (h1.go as ρ σ F s _ _ λcD cQ v1=>h2.go cD ρ cQ F v1.s _ _ λiW hG v2=>by
 have:=h3.go iW ρ hG F v2.s (λc dJ=>E1 C fr truthy c ρ dJ (λb=>Q (.bool b)) X) X λwD Di v3=>et (e wD Di (v1.trans (v2.trans v3)))
 unfold t2 at this;rwa[EV.pu v2.a v1.ok]at this) (vT hm op)
theorem To.chain{e1 e2 e3:Expr}{op LH:CmpOp}{p:Pos}{os os1 os2 nG os4 TL:List Ob}{a b:EV}{x y:Bool}(h1:To (tE C fr e1) l os (some a) os1)(h2:To (tE C fr e2) l os1 (some b) os2)(h3:To (t2 C fr (compareOp op) a b) l os2 (some (.v (.bool x))) nG)
 (h4:(x=false/\y=false/\TL=nG)\/(x=true/\∃c,To (tE C fr e3) l nG (some c) os4/\To (t2 C fr (compareOp LH) b c) l os4 (some (.v (.bool y))) TL)) (hm:tV e3=true):To (tT C fr (.Compare e1 [op,LH] [e2,e3] p)) l os (some (.v (.bool y))) TL:= .mk λas ρ σ F s Q X e=>
 Gc (h1.go as ρ σ F s _ _ λcD cQ v1=>h2.go cD ρ cQ F v1.s _ _ λiW hG v2=>by
  have:=h3.go iW ρ hG F v2.s (λc dJ=>E1 C fr truthy c ρ dJ (λt na=>(t=true->WE C fr e3 ρ na (λd iM=>W2 C fr (compareOp LH) (b.at iW) d ρ iM (λe q8=>E1 C fr truthy e ρ q8 (λb=>Q (.bool b)) X) X) X)/\(t=false->Q (.bool false) na)) X) X λwD Di v3=>et (by
   rcases h4 with⟨rfl,rfl,rfl⟩|⟨rfl,c,h5,h6⟩
   ·exact⟨(nomatch·),λ_=>e wD Di (v1.trans (v2.trans v3))⟩
   ·refine⟨λ_=>h5.go wD ρ Di F v3.s _ _ λas4 RM v4=> ?_,(nomatch·)⟩
    have:=h6.go as4 ρ RM F v4.s (λc dJ=>E1 C fr truthy c ρ dJ (λb=>Q (.bool b)) X) X λas5 σ5 v5=>et (e as5 σ5 (v1.trans (v2.trans (v3.trans (v4.trans v5)))))
    unfold t2 at this;rwa[EV.pu (v3.trans v4).a v2.ok]at this)
  unfold t2 at this;rwa[EV.pu v2.a v1.ok]at this) (show behindInMarks LH e3=false from vT hm LH)
theorem G3{rec:uc}(R:g9 C fr l rec){a b:Expr}{op:CmpOp}{os:List Ob}{p:Pa}{K:KE}(h:tV b=true->∀va vb os1 os2 bB nG p',To (tE C fr a) l os (some va) os1->To (tE C fr b) l os1 (some vb) os2->To (t2 C fr (compareOp op) va vb) l os2 bB nG->K bB nG p'):G1 C fr l rec a op b os p K:=
 f9 λhs=>R.v λva os1 p1 h1=>R.v λvb os2 p2 h2=>Dr λbB nG p3 h3=>h hs _ _ _ _ _ _ _ h1 h2 h3
theorem G4{rec:uc}(R:g9 C fr l rec){f:Expr}{es:List Expr}{pos:Pos}{os:List Ob}{p:Pa}{K:KE}(h:∀bB os' p',To (tE C fr (.Call f es [] pos)) l os bB os'->K bB os' p'):LG C fr l rec f es pos os p K:=
 nI (dD λa ha=>f9 λhs=>R.v λo os1 p1 h1=>Ak R pos (dm hs) λr os2 p2=>
  Option.casesOn r (λh2 hx=>h _ _ _ (Dl ha▸hx a.1 a.2.2 pos es l os os2 os2 hs h1 h2)) λcs h2=>se λbB os' p3 hc=>h _ _ _ (Dl ha▸hc a.1 a.2.2 pos es os hs h1 h2))
  λx hx=>(jt hx).elim λq e=>f9 λhs=>Ak R pos hs λr os1 p1=>Option.casesOn r (λh1 hx=>h _ _ _ (e▸hx pos q es l os os1 os1 hs h1)) λcs h1=>se λbB os' p2 hc=>h _ _ _ (e▸hc pos q es os hs h1)
theorem JI{rec:uc}(R:g9 C fr l rec){a i:Expr}{pos:Pos}{os:List Ob}{p:Pa}{K:KE}(h:∀bB os' p',To (tE C fr (.Subscript a i pos)) l os bB os'->K bB os' p'):R3 C fr l rec a i os p K:=
 nI (f9 λhs=>R.v λva os1 p1 h1=>R.v λvi os2 p2 h2=>se λbB os' p3 hc=>hc.1.elim λT hT=>h _ _ _ (hc.2.1.symm▸To.sub h1 h2 hc.2.2 (hc.2.1▸hT.1) hT.2 (F6 hs)))
  λs hs=>f9 λhn=>R.v λva os1 p1 h1=>GZ R λx os2 p2 h2=>GZ R λy nG p3 h3=>se λbB os' p4 hc=>h _ _ _ ((Jy hs).symm▸Option.isNone_iff_eq_none.mp (dm hn)▸hc a _ _ _ pos os os1 os2 (e6 hn) h1 h2 h3)
theorem LJ{b:Bool}{x y:Prop}(h0:b=false->x)(h1:b=true->y):(Bool.rec x y b:Prop):=Bool.casesOn (motive:=λc=>b=c->(Bool.rec x y c:Prop)) b h0 h1 rfl
theorem kI{α:Type}{k:Prop}{k':α->List α->Prop}{xs:List α}(h:xs=[]->k)(h':∀x l,xs=x::l->k' x l):Ex k k' xs:=List.casesOn (motive:=λl=>xs=l->Ex k k' l) xs h h' rfl
theorem JJ{α β:Type}{k:α->β->Prop}{xs:List α}{ys:List β}(h:∀x y,xs=[x]->ys=[y]->k x y):R4 k xs ys:=
 kI (λ_=>trivial) λx l e=>kI (λe1=>kI (λ_=>trivial) λy m e'=>kI (λe2=>h x y (e1▸e) (e2▸e')) λ_ _ _=>trivial) λ_ _ _=>trivial
theorem JK{α β:Type}{k:α->β->Prop}{k':α->α->β->β->Prop}{xs:List α}{ys:List β}(h:∀x y,xs=[x]->ys=[y]->k x y)(h':∀x x' y y',xs=[x,x']->ys=[y,y']->k' x x' y y'):R5 k k' xs ys:=
 kI (λ_=>trivial) λx l e=>kI (λ_=>trivial) λy m e'=>kI (λe1=>kI (λe2=>h x y (e1▸e) (e2▸e')) λ_ _ _=>trivial)
  λx' l' e1=>kI (λ_=>trivial) λy' m' e2=>kI (λe3=>kI (λe4=>h' x x' y y' (e3▸e1▸e) (e4▸e2▸e')) λ_ _ _=>trivial) λ_ _ _=>trivial
theorem R6(F:aG C fr){rec:uc}(R:g9 C fr l rec){e:Expr}{os:List Ob}{p:Pa}{K:KE}(h:∀bB os' p',To (tE C fr e) l os bB os'->K bB os' p'):gV C fr l rec e os p K:=
 LA h (fH (λe q=>(∀bB os' p',To (tE C fr e) l os bB os'->K bB os' p')->q) e (λ_ _=>trivial)
  (λx q h=>G2 F h)
  (λc k q=>Const.casesOn c (λh=>h _ _ _ (To.pure λ_ _ _ _ _ q=>IA q)) (λ_ h=>h _ _ _ (To.pure λ_ _ _ _ _ q=>Iz q)) (λ_ h=>h _ _ _ (To.pure λ_ _ _ _ _ q=>c9 q)) (λ_ _=>trivial) (λ_ _ _=>trivial)
   (λ_ h=>h _ _ _ (To.pure λ_ _ _ _ _ q=>xQ q)) (λ_ _=>trivial) (λ_=>trivial))
  (λa op b q h=>R.v λva os1 p1 h1=>R.v λvb os2 p2 h2=>JH λbB nG p3 h3=>h _ _ _ (To.bin h1 h2 h3))
  (λop a q=>UnaryOp.casesOn op (λ_=>trivial) (λh=>R.b (t:=false) λx os1 p1 h1=>h _ _ _ (To.un h1 λ_ _ _ _ _ q=>Mw q)) (λ_=>trivial) (λh=>R.i λx os1 p1 h1=>h _ _ _ (To.un h1 λ_ _ _ _ _ q=>Bd q)))
  (λop es q h=>Nl R q op λbB os' p1 h1=>h _ _ _<| .mk λas ρ σ F s Q X e=>DY (h1.go as ρ σ F s Q X e))
  (λa ic rs q h=>JJ λop b e e'=>G3 R λhs va vb os1 os2 bB nG p1 h1 h2 h3=>h _ _ _ (e▸e'▸To.cmp h1 h2 h3 (vT hs op)))
  (λt a b q h=>R.t (t:=true) λx os1 p1 h1=>R false _ os1 p1 _ λbB os2 p2 h2=>h _ _ _ (To.ifE h1 h2))
  (λf es kw q=>List.casesOn kw (λh=>G4 R h) λ_ _ _=>trivial)
  (λ_ _ _ _=>trivial)
  (λa i q h=>JI R h)
  (λes k q h=>f9 λhs=>Ak R q hs λr os1 p1=>Option.casesOn r (λh1=>h none os1 p1<| .mk λas ρ σ F s Q X e=>qY (h1.go as ρ σ F s _ _ e))
   λcs h1=>f9 λhl=>dD λc hc=>h _ _ _ (To.tup h1 (GY hc).1 ((GY hc).2 _) (aa (a5 hl) vS)))
  (λes q h=>f9 λhs=>Ak R q hs λr os1 p1 h1=>dD λcs e=>dD λxs hx=>f9 λhl=>
   h _ _ _ (To.list (e▸h1) (λas=>Aj as hx) (λq hq=>aB.mp (e6 hl) q hq) (aa (a5 (dm hl)) vS)))
  (λ_ _ _ _ _=>trivial) (λ_ _ _ _=>trivial) (λ_ _ _ _ _=>trivial) h)
theorem R7{rec:uc}(R:g9 C fr l rec){e:Expr}{os:List Ob}{p:Pa}{K:KE}(h:∀bB os' p',To (tT C fr e) l os bB os'->K bB os' p'):gT C fr l rec e os p K:=
 LA h (LJ
  (λ_=>fH (λe q=>(∀bB os' p',To (tT C fr e) l os bB os'->K bB os' p')->q) e (λ_ _=>trivial)
   (λ_ _ _=>trivial) (λ_ _ _ _=>trivial) (λ_ _ _ _ _=>trivial)
   (λop a q=>UnaryOp.casesOn op (λ_=>trivial) (λh=>R.b (t:=true) λx os1 p1 h1=>h _ _ _ (To.not h1)) (λ_=>trivial) (λ_=>trivial))
   (λop es q h=>Nm R op λbB os' p1 h1=>h _ _ _<| .mk λas ρ σ F s Q X e=>DX (h1.go as ρ σ F s Q X e))
   (λa ic rs q h=>JK
    (λop b e e'=>f9 λhs=>R.v λva os1 p1 h1=>R.v λvb os2 p2 h2=>BU λx nG p3 h3=>h _ _ _ (e▸e'▸To.Yt h1 h2 h3 hs))
    (λop LH b c e e'=>f9 λhs=>R.v λva os1 p1 h1=>R.v λvb os2 p2 h2=>BU λx nG p3 h3=>GS λt p4 ht=>
     LJ (λe0=>h _ _ _ (e▸e'▸To.chain (os4:=nG) h1 h2 (ht.trans e0▸h3) (.inl ⟨rfl,rfl,rfl⟩) hs))
      (λe1=>R.v λvc os4 p5 h4=>BU λy TL p6 h5=>h _ _ _ (e▸e'▸To.chain h1 h2 h3 (.inr ⟨ht.trans e1,_,h4,h5⟩) hs))))
   (λ_ _ _ _ _=>trivial) (λ_ _ _ _ _=>trivial) (λ_ _ _ _=>trivial) (λ_ _ _ _=>trivial) (λ_ _ _ _=>trivial) (λ_ _ _=>trivial) (λ_ _ _ _ _=>trivial) (λ_ _ _ _=>trivial) (λ_ _ _ _ _=>trivial) h)
  (λhe=>R.b (t:=false) λx os1 p1 h1=>h _ _ _ (To.Yj h1 λz=>Fp z (RY he))))
theorem Ds(F:aG C fr)(n:Nat):g9 C fr l (gE C fr l n):=by
 induction n with
 |zero=>exactλ_ _ _ _ _ _=>trivial
 |succ n ih=>
  intro t e os p K h
  cases t with
  |false=>exact R6 F ih h
  |true=>exact R7 ih h
end
noncomputable abbrev KS:=oj->Pa->Prop
section
variable(C:Ctx)(fr:Fm)
noncomputable def Al(a b c:EV)(l:Lo)(os os':List Ob):Prop:=os.length<=os'.length/\nH C fr a b c l os os'
noncomputable def Dt(x:Str):Prop:=∀np sT pos es l os os' c n,fK es=true->qo C fr sT es l os (some [c]) os'->Runs (WS C fr (.Raise (some (.Call (.Name x np) es [] sT)) none pos)) n l os .exc
end
noncomputable section
noncomputable def wF{α:Type}(d:α)(st:Stmt)(rt:Option Expr->Pos->α:=λ_ _=>d)(asg:List Expr->Expr->Pos->α:=λ_ _ _=>d)(aug:Expr->Operator->Expr->Pos->α:=λ_ _ _ _=>d)(fo:Expr->Expr->List Stmt->List Stmt->Pos->α:=λ_ _ _ _ _=>d)(wh:Expr->List Stmt->List Stmt->Pos->α:=λ_ _ _ _=>d)
 (iff:Expr->List Stmt->List Stmt->Pos->α:=λ_ _ _ _=>d) (R8:Option Expr->Option Expr->Pos->α:=λ_ _ _=>d) (ex:Expr->Pos->α:=λ_ _=>d) (pa br co:Pos->α:=λ_=>d):α:=
 Stmt.casesOn (motive_2:=λ_=>α) st (λ_ _ _ _ _ _ _ _ _ _=>d) (λ_ _ _ _ _ _ _ _ _ _=>d) (λ_ _ _ _ _ _ _ _ _ _ _=>d) rt (λ_ _=>d) asg (λ_ _ _ _ _ _ _=>d) aug (λ_ _ _ _ _=>d) fo (λ_ _ _ _ _=>d) wh iff (λ_ _ _=>d) (λ_ _ _=>d) (λ_ _ _=>d) R8
  (λ_ _ _ _ _=>d) (λ_ _ _ _ _=>d) (λ_ _ _=>d) (λ_ _=>d) (λ_ _ _ _=>d) (λ_ _=>d) (λ_ _=>d) ex pa br co
theorem G5{α:Type}{d:α}{rt asg aug fo wh iff R8 ex pa br co}(P:Stmt->α->Prop)(st:Stmt)(hd:∀st,P st d)(h1:∀a p,P (.Return a p) (rt a p))(h2:∀a b p,P (.Assign a b p) (asg a b p))(h3:∀a o b p,P (.AugAssign a o b p) (aug a o b p))(h4:∀a b c d p,P (.For a b c d p) (fo a b c d p))
 (h5:∀a b c p,P (.While a b c p) (wh a b c p)) (h6:∀a b c p,P (.If a b c p) (iff a b c p)) (h7:∀a b p,P (.Raise a b p) (R8 a b p)) (h8:∀a p,P (.Expr a p) (ex a p)) (h9:∀p,P (.Pass p) (pa p)) (ha:∀p,P (.Break p) (br p)) (hb:∀p,P (.Continue p) (co p)):P st (wF d st rt asg aug fo wh iff R8 ex pa br co):=
 Stmt.casesOn (motive_2:=λst=>P st (wF d st rt asg aug fo wh iff R8 ex pa br co)) st (λ_ _ _ _ _ _ _ _ _ _=>hd _) (λ_ _ _ _ _ _ _ _ _ _=>hd _) (λ_ _ _ _ _ _ _ _ _ _ _=>hd _) h1 (λ_ _=>hd _) h2 (λ_ _ _ _ _ _ _=>hd _) h3 (λ_ _ _ _ _=>hd _) h4 (λ_ _ _ _ _=>hd _) h5 h6 (λ_ _ _=>hd _) (λ_ _ _=>hd _) (λ_ _ _=>hd _) h7
  (λ_ _ _ _ _=>hd _) (λ_ _ _ _ _=>hd _) (λ_ _ _=>hd _) (λ_ _=>hd _) (λ_ _ _ _=>hd _) (λ_ _=>hd _) (λ_ _=>hd _) h8 h9 ha hb
noncomputable def LK(e:Expr):Bool:= !Nat.beq e.ctorIdx 25
section
variable{α:Type}{xs:List α}
noncomputable def R9(xs:List α):Option α:=List.rec none (λa xs _=>List.rec (some a) (λ_ _ _=>none) xs) xs
noncomputable def Sa(xs:List α):Option (α×α):=List.rec none (λa xs _=>(R9 xs).map (a,·)) xs
noncomputable def Xm(xs:List α):Option (α×α×α):=List.rec none (λa xs _=>(Sa xs).map (a,·)) xs
theorem BV{q:α}:R9 xs=some q->xs=[q]:=
 List.casesOn xs (nomatch·) λa l=>List.casesOn (motive:=λl=>R9 (a::l)=some q->a::l=[q]) l (λh=>congrArg ([·]) (ao h)) λ_ _=>(nomatch·)
theorem yr{q:α×α}:Sa xs=some q->xs=[q.1,q.2]:=
 List.casesOn xs (nomatch·) λa l h=>(ai.mp h).elim λb h=>h.2▸congrArg (a::·) (BV h.1)
theorem G6{q:α×α×α}:Xm xs=some q->xs=[q.1,q.2.1,q.2.2]:=
 List.casesOn xs (nomatch·) λa l h=>(ai.mp h).elim λb h=>h.2▸congrArg (a::·) (yr h.1)
end
noncomputable def BW(a:EV):Option (EV×EV):=EV.rec (λp=>((Zs p).bind Sa).map λq=>(.v q.1,.v q.2)) (λ_=>none) (λks=>(Sa ks).map λq=>(.o q.1,.o q.2)) (λk p=>some (.o k,.v p)) (λ_ _ _=>none) a
noncomputable def G7(a:EV):Option (Nat×Nat×Nat):=a.t?.bind Xm
noncomputable def LL(op:Operator)(a b:EV):Option (Int×Int):=Operator.casesOn op (JD a b) none none none none none none none none none none none none
variable(C:Ctx)(fr:Fm)(m:Nat)
noncomputable abbrev G8:=List Stmt->Lo->List Ob->Pa->KS->Prop
noncomputable def Du(ev:Lo->uc)(t:Expr)(e:Expr)(l:Lo)(os:List Ob)(p:Pa)(K:KS):Prop:=
 gO (idOf t) (gO (RV t) (wO (RW t) λts=>yS (LK e) (gO (Sa ts)
  (wO (Xm ts) λt=>wO (idOf t.1) λx=>wO (idOf t.2.1) λy=>wO (idOf t.2.2) λz=>wO (fi x fr.vn) λi=>wO (fi y fr.vn) λj=>wO (fi z fr.vn) λk=>ev l false e os p λr os p=>wO (r.bind G7) λq=>
   K (.norm (((l.set i (some (.o q.1))).set j (some (.o q.2.1))).set k (some (.o q.2.2))) os) p)
  λt=>wO (idOf t.1) λx=>wO (idOf t.2) λy=>wO (fi x fr.vn) λi=>wO (fi y fr.vn) λj=>ev l false e os p λr os p=>wO (r.bind BW) λq=>K (.norm ((l.set i (some q.1)).set j (some q.2)) os) p))
  λs=>ev l false e os p λr os p=>Option.rec (K .exc p) (λc=>ev l false s.1 os p λr os p=>wO r λa=>ev l false s.2 os p λr os p=>wO r λb=>
   oC p os λ_ os' p=>Al C fr a b c l os os'->K (.norm l os') p) r)
  λx=>wO (fi x fr.vn) λi=>ev l false e os p λr os p=>Option.rec (K .exc p) (λc=>K (.norm (l.set i (some c)) os) p) r
noncomputable def Sb(op:Operator)(l:Lo)(a b:EV)(os:List Ob)(p:Pa)(K:KE):Prop:=
 gO (LL op a b) (oC p os λbB os' p=>To (t2 C fr (inplaceOp op) a b) l os bB os'->K bB os' p) λq=>K (some (.v (.int (q.1+q.2)))) os p
noncomputable def TM(ev:Lo->uc)(rec:G8)(st:Stmt)(l:Lo)(os:List Ob)(p:Pa)(K:KS):Prop:=wF True st
 (λe _=>wO e λe=>ev l false e os p λr os p=>Option.rec (K .exc p) (λc=>K (.ret c os) p) r)
 (λts e _=>wO (R9 ts) λt=>yS (vN e) (Du C fr ev t e l os p K))
 (λt op e _=>wO (idOf t) λx=>wO (fi x fr.vn) λi=>wO (l[i]?) λo=>wO o λc=>ev l false e os p λr os p=>wO r λb=>Sb C fr op l c b os p λr os p=>wO r λr=>K (.norm (l.set i (some r)) os) p)
 (λt it b K2 _=>wO (idOf t) λx=>yS (tV it&&K2.isEmpty) (ev l false it os p λr os p=>wO r λc=>oO p λbB p=>r7 C fr x b c l os bB->K bB p))
 (λt b K2 _=>yS K2.isEmpty (oO p λbB p=>Dj C fr t b l os bB->K bB p))
 (λt a b _=>ev l true t os p λr os p=>wO (r.bind AV) λx=>oB p λc p=>x=c->rec (bif c then a else b) l os p K)
 (λe c _=>wO (e.bind RX) λf=>yS (fK f.2.1&&(f.2.2.1.isEmpty&&c.isNone)) (gL (ev l) f.2.1 os p λr os p=>wO (r.bind R9) λ_=>Dt C fr f.1->K .exc p))
 (λe _=>yS (vN e) (ev l false e os p λr os p=>Option.rec (K .exc p) (λ_=>K (.norm l os) p) r))
 (λ_=>K (.norm l os) p) (λ_=>K (.brk l os) p) (λ_=>K (.cont l os) p)
noncomputable def No(rec:G8)(rest:List Stmt)(K:KS):KS:=λbB p=>oj.rec (λl os=>rec rest l os p K) (λc os=>K (.ret c os) p) (K .exc p) (λl os=>K (.brk l os) p) (λl os=>K (.cont l os) p) bB
noncomputable def gS(n:Nat):G8:=Nat.rec (λ_ _ _ _ _=>True) (λ_ ih m9 l os p K=>List.rec (K (.norm l os) p) (λst rest _=>TM C fr (λl=>gE C fr l 30) ih st l os p (No ih rest K)) m9) n
end
section
variable{C:Ctx}{fr:Fm}{l:Lo}{m:Nat}{os:List Ob}{p:Pa}{K:KS}
theorem Dv{a:EV}{q:EV×EV}:BW a=some q->(∀as,a.at as=.tup [q.1.at as,q.2.at as])/\∀n,a.Ok n->q.1.Ok n/\q.2.Ok n:=
 EV.casesOn (motive:=λa=>BW a=some q->(∀as,a.at as=.tup [q.1.at as,q.2.at as])/\∀n,a.Ok n->q.1.Ok n/\q.2.Ok n) a
  (λp h=>(ai.mp h).elim λx h=>(ah.mp h.1).elim λv h'=>h.2▸(Ng h'.1).symm▸yr h'.2▸⟨λ_=>rfl,λ_ _=>⟨trivial,trivial⟩⟩) (λ_=>(nomatch·))
  (λks h=>(ai.mp h).elim λx h=>h.2▸(yr h.1).symm▸⟨λ_=>rfl,λ_ o=>⟨o _ (.head _),o _ (.tail _ (.head _))⟩⟩)
  (λk p h=>ao h▸⟨λ_=>rfl,λ_ o=>⟨o,trivial⟩⟩) λ_ _ _=>(nomatch·)
theorem JL{a:EV}{q:Nat×Nat×Nat}(h:G7 a=some q):a=.t [q.1,q.2.1,q.2.2]:=
 (ah.mp h).elim λxs h=>(EV.Yr h.1).trans (congrArg EV.t (G6 h.2))
theorem Am{e:Expr}(h:LK e=true)(ts:List Expr)(k:Nat)(p:Pos)(env:Env):swappedStores [.Tuple ts k p] e env=Pure.pure none:=by cases e<;>first|rfl|cases h
theorem yt{e:Expr}(h:vN e=true)(t:Expr)(n:Nat)(env:Env):swapsWithSole [t] e n env=Pure.pure false:=vQ h (some t) n env
theorem Runs.KX(F0:aG C fr){x y z:Str}{e:Expr}{k i j n:Nat}{p p' p1 p2 p3:Pos}{a b c:Nat}{os1:List Ob}(hi:fi x fr.vn=some i)(hj:fi y fr.vn=some j)(hn:fi z fr.vn=some n)(h:To (tE C fr e) l os (some (.t [a,b,c])) os1)
 (hs:∀env,swapsWithSole [.Tuple [.Name x p1,.Name y p2,.Name z p3] k p'] e p.line env=Pure.pure false) (hw:∀env,swappedStores [.Tuple [.Name x p1,.Name y p2,.Name z p3] k p'] e env=Pure.pure none):
 Runs (WS C fr (.Assign [.Tuple [.Name x p1,.Name y p2,.Name z p3] k p'] e p)) m l os (.norm (((l.set i (some (.o a))).set j (some (.o b))).set n (some (.o c))) os1):= .mk λas ρ σ F hm s N R J X kk=>
 Bv F0 i j n (f6 hi) (f6 hj) (f6 hn) (h.go as ρ σ F s _ _ λcD cQ v=>⟨_,_,_,rfl,kk cD _ cQ ⟨v.a.less hm,((v.s.put i (c:= .o a) (v.ok a (by simp))).put j (c:= .o b) (v.ok b (by simp))).put n (c:= .o c) (v.ok c (by simp)),aa hm v.n⟩⟩) hs hw
theorem Runs.Yu{n:Nat}{o i e:Expr}{p p':Pos}{os1:List Ob}(h1:To (tE C fr e) l os none os1)(hs:∀env,swapsWith e (some (.Subscript o i p')) p.line env=Pure.pure false):Runs (WS C fr (.Assign [.Subscript o i p'] e p)) n l os .exc:= .mk λas ρ σ F hn s N R J X k=>
 dW (h1.go as ρ σ F s _ _ (k ρ)) hs
theorem LM{α β:Type}{r:Option α}{g:α->Option β}{x:β}{y:α}(e:∀{a},g a=some x->a=y)(h:r.bind g=some x):r=some y:=(ah.mp h).elim λa h=>h.1.trans (congrArg some (e h.2))
theorem BX(F:aG C fr){ev:Lo->uc}(E:∀l,g9 C fr l (ev l)){t e:Expr}{pos:Pos}(hc:vN e=true)(h:∀bB p',Runs (WS C fr (.Assign [t] e pos)) m l os bB->K bB p'):Du C fr ev t e l os p K:=
 nI (nI (dD λts ht=>(JA ht).elim λk e=>e.elim λp' e=>f9 λhn=>nI
  (dD λt ht=>dD λx hx=>dD λy hy=>dD λz hz=>dD λi hi=>dD λj hj=>dD λk hk=>E l false _ os p _ λr os1 p1 h1=>dD λq hq=>
   (jt hx).elim λp1 ex=>(jt hy).elim λp2 ey=>(jt hz).elim λp3 ez=>h _ _ (e▸G6 ht▸ex▸ey▸ez▸Runs.KX F hi hj hk (LM JL hq▸h1) (yt hc _ _) (Am hn _ _ _)))
  λt ht=>dD λx hx=>dD λy hy=>dD λi hi=>dD λj hj=>E l false _ os p _ λr os1 p1 h1=>dD λq hq=>
   (ah.mp hq).elim λc hr=>(jt hx).elim λp1 ex=>(jt hy).elim λp2 ey=>h _ _ (e▸yr ht▸ex▸ey▸Runs.KW F (Dv hr.2).1 ((Dv hr.2).2 _) hi hj (hr.1▸h1) (yt hc _ _) (Am hn _ _ _)))
  λs hs=>(Jz hs).elim λq e=>(E l).o (λos1 p1 h1=>h _ _ (e▸Runs.Yu h1 (vQ hc _ _))) λc os1 p1 h1=>(E l).v λa os2 p2 h2=>(E l).v λb nG p3 h3=>se λ_ os' p4 hp=>h _ _ (e▸Runs.Yq h1 h2 h3 hp.2 hp.1 (vQ hc _ _)))
  λx hx=>dD λi hi=>(jt hx).elim λq e=>(E l).o (λos1 p1 h1=>h _ _ (e▸Runs.KV F hi h1 (yt hc _ _))) λc os1 p1 h1=>h _ _ (e▸Runs.assign F hi h1 (yt hc _ _))
theorem JM{op:Operator}{a b:EV}{K:KE}(h:∀bB os' p',To (t2 C fr (inplaceOp op) a b) l os bB os'->K bB os' p'):Sb C fr op l a b os p K:=
 nI (se h) λq hq=>h _ _ _ ((
  have n:∀op,none=some q->To (t2 C fr (inplaceOp op) a b) l os (some (.v (.int (q.1+q.2)))) os:=λ_ h=>(aW _ h.symm).elim
  Operator.casesOn (motive:=λop=>LL op a b=some q->To (t2 C fr (inplaceOp op) a b) l os (some (.v (.int (q.1+q.2)))) os) op
   (λhq=>(pM hq).1▸(pM hq).2▸To.pure λ_ _ _ _ _ q=>CM q) (n _) (n _) (n _) (n _) (n _) (n _) (n _) (n _) (n _) (n _) (n _) (n _)) hq)
noncomputable abbrev G9(C:Ctx)(fr:Fm)(m:Nat)(rec:G8):Prop:=∀m9 l os p (K:KS),(∀bB p',Runs (hZ C fr m9) m l os bB->K bB p')->rec m9 l os p K
theorem Hb(F:aG C fr){ev:Lo->uc}(E:∀l,g9 C fr l (ev l)){rec:G8}(R:G9 C fr m rec){st:Stmt}(h:∀bB p',Runs (WS C fr st) m l os bB->K bB p'):TM C fr ev rec st l os p K:=
 G5 (λst q=>(∀bB p',Runs (WS C fr st) m l os bB->K bB p')->q) st (λ_ _=>trivial)
  (λe q h=>dD λe he=>(E l).o (λos1 p1 h1=>h _ _ (he▸Runs.Yn h1)) λc os1 p1 h1=>h _ _ (he▸Runs.ret h1))
  (λts e q h=>dD λt ht=>f9 λhc=>BX F E hc (BV ht▸h))
  (λt op e q h=>dD λx hx=>dD λi hi=>dD λo ho=>dD λc hc=>(E l).v λb os1 p1 h1=>JM λr os2 p2 h2=>dD λr hr=>(jt hx).elim λq e=>h _ _ (e▸Runs.aug F hi (ho.trans (congrArg some hc)) h1 (hr▸h2)))
  (λt it b K2 q h=>dD λx hx=>f9 λhs=>(E l).v λc os1 p1 h1=>Lz λbB p2 hf=>(jt hx).elim λq' e=>h _ _ (e▸List.isEmpty_iff.mp (e6 hs)▸hf it _ q m os (JC (dm hs)) h1))
  (λt b K2 q h=>f9 λhs=>Lz λbB p1 hw=>h _ _ (List.isEmpty_iff.mp hs▸.mk λas ρ σ F hn=>(hw m q hn).go as ρ σ F hn))
  (λt a b q h=>(E l).t (t:=true) λc os1 p1 h1=>R _ l os1 p1 _ λbB p3 h2=>h _ _ (Runs.ite h1 h2))
  (λe c q h=>dD λf hf=>f9 λhs=>Ak (E l) f.2.2.2 (dm hs) λr os1 p1 h1=>dD λv hv hr=>(ah.mp hf).elim λe0 he=>(JB he.2).elim λnp e1=>
   h _ _ (he.1▸e1▸List.isEmpty_iff.mp (dm (e6 hs))▸Option.isNone_iff_eq_none.mp (e6 (e6 hs))▸hr np f.2.2.2 q f.2.1 l os os1 v m (dm hs) (LM BV hv▸h1)))
  (λe q h=>f9 λhc=>(E l).o (λos1 p1 h1=>h _ _ (Runs.Tl F h1 (vQ hc _ _))) λc os1 p1 h1=>h _ _ (Runs.expr F h1 (vQ hc _ _)))
  (λq h=>h _ _<| .mk λas ρ σ F hn s N R J X k=>ID (k as ρ σ ⟨λ_ _=>rfl,s,hn⟩))
  (λq h=>h _ _<| .mk λas ρ σ F hn s N R J X k=>Ft (k as ρ σ ⟨λ_ _=>rfl,s,hn⟩))
  (λq h=>h _ _<| .mk λas ρ σ F hn s N R J X k=>y0 (k as ρ σ ⟨λ_ _=>rfl,s,hn⟩)) h
theorem LN(F:aG C fr)(n:Nat):G9 C fr m (gS C fr n):=by
 induction n with
 |zero=>exactλ_ _ _ _ _ _=>trivial
 |succ n ih=>
  intro m9 l os p K h
  cases m9 with
  |nil=>exact h _ _ Runs.nil
  |cons st rest=>
   exact show TM C fr (λl=>gE C fr l 30) (gS C fr n) st l os p (No (gS C fr n) rest K)from Hb F (λl=>Ds F 30) ih λbB p1 h1=>
    oj.casesOn (motive:=λbB=>Runs (WS C fr st) m l os bB->No (gS C fr n) rest K bB p1) bB (λl1 os1 h1=>ih rest l1 os1 p1 K λbB p2 h2=>h _ _ (Runs.cons h1 h2))
     (λ_ _ h1=>h _ _ (Runs.stop h1 nofun)) (λh1=>h _ _ (Runs.stop h1 nofun)) (λ_ _ h1=>h _ _ (Runs.stop h1 nofun)) (λ_ _ h1=>h _ _ (Runs.stop h1 nofun)) h1
theorem sg(F:aG C fr)(e:Expr)(l:Lo)(os:List Ob)(p:Pa):gE C fr l 30 false e os p λbB os' _=>To (tE C fr e) l os bB os':=Ds F 30 false e os p _ λ_ _ _ h=>h
theorem qp(F:aG C fr)(t:Expr)(l:Lo)(os:List Ob)(p:Pa):gE C fr l 30 true t os p λbB os' _=>wO (bB.bind AV) λx=>∀b,x=b->To (tT C fr t) l os (some (.v (.bool b))) os':=
 Ds F 30 true t os p _ λbB os' p' h=>dD λx hx b hb=>by subst hb;rwa[vR hx]at h
theorem cN(F:aG C fr)(st:Stmt)(l:Lo)(os:List Ob)(p:Pa):TM C fr (λl=>gE C fr l 30) (gS C fr 30) st l os p λbB _=>Runs (WS C fr st) m l os bB:=Hb F (λl=>Ds F 30) (LN F 30) λ_ _ h=>h
theorem cu(F:aG C fr)(m9:List Stmt)(l:Lo)(os:List Ob)(p:Pa):gS C fr 40 m9 l os p λbB _=>Runs (hZ C fr m9) m l os bB:=LN F 40 m9 l os p _ λ_ _ h=>h
end
noncomputable abbrev JN(Fn:Mine.Fn)(args:List EV):Lo:=args.map some++List.replicate (Fn.names.length-args.length) none
noncomputable def TN(Fn:Mine.Fn)(args:List EV)(os:List Ob):Bool:=args.all (λc=>BK os.length (some c))&&(Nat.ble args.length Fn.names.length&&Nat.beq Fn.np args.length)
theorem Calls.ends{C:Ctx}{Fn:Mine.Fn}{lv:Nat}{args:List EV}{c:EV}{os os2:List Ob}{o:oj}(t:Nat)(ho:o.res (some c) os2)(hk:(TN Fn args os&&(Nat.ble os.length t&&(Nat.ble t os2.length&&BK t (some c))))=true)
 (h:∀L outer A,aG C (Fn.frame L outer A lv)->Runs (hZ C (Fn.frame L outer A lv) Fn.body) os.length (JN Fn args) os o):Calls C Fn lv args os (some c) (os2.take t):=by
 obtain⟨h1,h4⟩:=au.mp hk
 obtain⟨h1,h2⟩:=au.mp h1
 obtain⟨h2,h3⟩:=au.mp h2
 obtain⟨h5,h6⟩:=au.mp h4
 obtain⟨h6,h7⟩:=au.mp h6
 have hl:(os2.take t).length=t:=by rw[fG];exact gg (a5 h6)
 refine .mk λas σ F r Q X k=>(Calls.intro ho rfl (λc hc=>uo (aB.mp h1 c hc)) (a5 h2) (iZ h3) h).go as σ F r Q X λeh σ' x=>k eh σ' ⟨x.a,?_,?_,?_⟩
 ·obtain⟨ps,r,e⟩:=x.s
  refine⟨ps,r.less λk o q=> ?_,λj hj=>e j (by rw[hl]at hj;exact av hj (a5 h6))⟩
  have:=(an.mp q).1
  rw[hl]at this
  rwa[j4 this]at q
 ·rw[hl];exact uo h7
 ·rw[hl];exact a5 h5
theorem Calls.ret{C:Ctx}{Fn:Mine.Fn}{lv:Nat}{args:List EV}{c:EV}{os os2:List Ob}(t:Nat)(hk:(TN Fn args os&&(Nat.ble os.length t&&(Nat.ble t os2.length&&BK t (some c))))=true)
 (h:∀L outer A,aG C (Fn.frame L outer A lv)->Runs (hZ C (Fn.frame L outer A lv) Fn.body) os.length (JN Fn args) os (.ret c os2)):Calls C Fn lv args os (some c) (os2.take t):=Calls.ends (o:= .ret c os2) t (And.intro rfl rfl) hk h
theorem Calls.Yv{C:Ctx}{Fn:Mine.Fn}{lv:Nat}{args:List EV}{l:Lo}{os os2:List Ob}(t:Nat)(hk:(TN Fn args os&&(Nat.ble os.length t&&(Nat.ble t os2.length&&BK t (some (.v .none)))))=true)
 (h:∀L outer A,aG C (Fn.frame L outer A lv)->Runs (hZ C (Fn.frame L outer A lv) Fn.body) os.length (JN Fn args) os (.norm l os2)):Calls C Fn lv args os (some (.v .none)) (os2.take t):=Calls.ends (o:= .norm l os2) t (And.intro rfl rfl) hk h
theorem Calls.exc{C:Ctx}{Fn:Mine.Fn}{lv:Nat}{args:List EV}{os os1:List Ob}(hk:TN Fn args os=true)
 (h:∀L outer A,aG C (Fn.frame L outer A lv)->Runs (hZ C (Fn.frame L outer A lv) Fn.body) os.length (JN Fn args) os .exc):Calls C Fn lv args os none os1:=by
 obtain⟨h1,h2⟩:=au.mp hk
 obtain⟨h2,h3⟩:=au.mp h2
 exact Calls.intro (o:= .exc) rfl rfl (λc hc=>uo (aB.mp h1 c hc)) (a5 h2) (iZ h3) h
structure ms(C:Ctx)(x:Str)(Fn:Mine.Fn):Prop where
 at_:FnAt C Fn
 g:C.mg x=some (.ref Fn.f)
 d:(x==("__debug__":Str))=false:=by decide
section
variable{C:Ctx}{fr:Fm}{l:Lo}{os os' os2:List Ob}{bB:Option EV}{cs:List EV}{K:Frag}{bN bO:ClassData}
theorem lq(G:dh C)(F:aG C fr){id:String}{x:Str}(hm:C.mg x=none)(hb:C.mb x=some (.builtin id))(hd:(x==("__debug__":Str))=false)(hk:fr.env.kindOf x=some .globalImplicit)
 (h2:To (tN C fr (λvs=>call (.builtin id) vs) cs) l os bB os'):dO C fr x cs l os bB os':=λpos p es sG hs h1=>To.Yk G F hk hm hb h1 h2 (fN hs _ _) (r9 hs _ _) hd
theorem pN(G:dh C)(F:aG C fr){id:String}{x:Str}(hm:C.mg x=none)(hb:C.mb x=some (.type id))(hd:(x==("__debug__":Str))=false)(hk:fr.env.kindOf x=some .globalImplicit)
 (h2:To (tN C fr (λvs=>call (.type id) vs) cs) l os bB os'):dO C fr x cs l os bB os':=λpos p es sG hs h1=>To.typ G F hk hm hb h1 h2 (fN hs _ _) (r9 hs _ _) hd
theorem Hc(G:dh C)(F:aG C fr){id:String}{x:Str}(hm:C.mg x=none)(hb:C.mb x=some (.builtin id))(hd:(x==("__debug__":Str))=false)(hk:fr.env.kindOf x=some .globalImplicit):LB C fr x:=
 λpos p es l sG os1 os' hs h1=>To.Ym G F hk hm hb h1 (fN hs _ _) (r9 hs _ _) hd
noncomputable def LO(m:List Nat)(n t:Nat):Bool:=m.all (λk=>Nat.blt k n)&&(decide m.Nodup&&Nat.ble m.length t)
theorem Dw(G:dh C)(F:aG C fr){Fn:Mine.Fn}{x:Str}(D:ms C x Fn)(hk:fr.env.kindOf x=some .globalImplicit){lv:Nat}(hl:lv<fr.lvl)(m:List Nat)
 (hc:Calls C Fn lv cs (qK os m) bB os2) (h:(Nat.beq cs.length Fn.np&&(LO m os.length os2.length&&os.all Ob.live))=true):dO C fr x (cs.map (EV.Cv (rn m))) l os (bB.map (EV.Cv (bk m os.length))) (r8 os m os2):=λpos p es sG hs h1=>by
 obtain⟨h2,h3⟩:=au.mp h
 obtain⟨h4,h5⟩:=au.mp h3
 obtain⟨h6,h7⟩:=au.mp h4
 obtain⟨h8,h9⟩:=au.mp h7
 exact To.call G F D.at_ hk D.g hl h1 (iZ h2) hc (of_decide_eq_true h8) (λk hk=>fQ.mp (aB.mp h6 k hk)) (λq hq=>aB.mp h5 q hq) (a5 h9) (fN hs _ _) D.d
theorem cR(G:dh C)(F:aG C fr){Fn:Mine.Fn}{x:Str}(D:ms C x Fn)(hk:fr.env.kindOf x=some .globalImplicit){lv:Nat}(hl:lv<fr.lvl)(m:List Nat){nG os4:List Ob}{Zt:List EV}{out':Option EV}
 (hc:Calls C Fn lv cs nG bB os2) (h0:qK os m=nG) (h:(Nat.beq cs.length Fn.np&&(LO m os.length os2.length&&os.all Ob.live))=true) (h1:cs.map (EV.Cv (rn m))=Zt) (h2:bB.map (EV.Cv (bk m os.length))=out') (h3:r8 os m os2=os4):dO C fr x Zt l os out' os4:=by
 subst h0;subst h1;subst h2;subst h3
 exact Dw G F D hk hl m hc h
noncomputable def EV.Yw(c:EV):Bool:=EV.rec (λ_=>true) (λ_=>false) (λ_=>false) (λ_ _=>false) (λ_ _ _=>false) c
theorem EV.Mf{f:Nat->Nat}{c:EV}(h:c.Yw=true):c.Cv f=c:=by cases c<;>first|rfl|cases h
theorem aX(G:dh C)(F:aG C fr){Fn:Mine.Fn}{x:Str}(D:ms C x Fn)(hk:fr.env.kindOf x=some .globalImplicit){lv:Nat}(hl:lv<fr.lvl)
 (hc:Calls C Fn lv cs [] bB []) (h:(Nat.beq cs.length Fn.np&&(os.all Ob.live&&(cs.all EV.Yw&&bB.all EV.Yw)))=true):dO C fr x cs l os bB os:=by
 obtain⟨h2,h3⟩:=au.mp h
 obtain⟨h4,h5⟩:=au.mp h3
 obtain⟨h6,h7⟩:=au.mp h5
 have:=Dw (os:=os) (l:=l) G F D hk hl [] hc (by rw[h2,h4];rfl)
 rw[show r8 os [] []=os from bp os,show cs.map (EV.Cv (rn []))=cs from(dU λc hc=>EV.Mf (aB.mp h6 c hc)).trans (List.map_id _)]at this
 cases bB with
 |none=>exact this
 |some c=>rwa[Option.map_some,EV.Mf (Option.all_some.symm.trans h7)]at this
theorem o8{T id:String}{name:Str}{a:EV}{os1:List Ob}(B:BM T name id)(hp:a.ty os1=some T)(h3:To (tN C fr (λvs=>PySem.call (.builtin id) vs) (a::cs)) l os bB os'):gR C fr name a os1 cs l os bB os':=λo ap pos es sG hs h1 h2=>by
 obtain⟨k1,k2⟩:=au.mp hs
 obtain⟨k2,k3⟩:=au.mp k2
 obtain⟨k3,k4⟩:=au.mp k3
 exact To.Yl B h1 h2 hp h3 (fN k1 _ _) (λenv=>GR k3 _ env) (λenv=>vP k1 k2 _ env) k4
theorem iX{k:Nat}{os1:List Ob}{xs:List PV}{v:PV}(hp:EV.ty os1 (.o k)=some "list")(hk:os[k]?=some (.list xs))(hsz:xs.length<=sizeLine):gR C fr "append" (.o k) os1 [.v v] l os (some (.v .none)) (os.set k (.list (xs++[v]))):=
 o8 j8 hp (To.upd hk (λ_=>rfl) (λ_=>rfl) (λ_=>rfl) (λ_=>rfl) λas ρ σ Q X hc q=>sQ hc hsz q)
theorem c8(P:PO C K bN bO)(F:aG C fr)(hk:fr.env.kindOf "LinkFault"=some .globalImplicit)(hl:1<fr.lvl):Dt C fr "LinkFault":=λnp sT pos es l os os' c n hs h=>
 Runs.raise P F hk hl h (λenv=>r9 hs _ env) (fN hs _ _)
theorem Il{x:Str}{i:Int}{c:Nat}(h0:0<=i)(h1:i<2^62)(hc:(L x)[i.toNat]?=some c):mR C fr (.v (.str x)) (.v (.int i)) l os (some (.v (.str (mk [c])))) os:=
 ⟨⟨_,rfl,.inr (.inr (.inl rfl))⟩,rfl,To.pure λ_ _ _ _ _ q=>Jg h0 h1 hc q⟩
theorem BY{xs:List PV}{i:Int}{v:PV}(h0:0<=i)(h1:i<2^63)(hx:xs[i.toNat]?=some v):mR C fr (.v (.tup xs)) (.v (.int i)) l os (some (.v v)) os:=
 ⟨⟨_,rfl,.inr (.inr (.inr rfl))⟩,rfl,To.pure λ_ _ _ _ _ q=>oz h0 h1 hx q⟩
theorem slS{x:Str}{a b:Option Int}(hsz:x.length<=sizeLine):sf C fr (.v (.str x)) a b l os (some (.v (.str (Txt.slice x a b)))) os:=
 λe lo hi p pos sG os1 os2 hn h1 h2 h3=>To.Ol h1 h2 h3 hsz (Nb hn)
theorem d7{x y:Str}(h:x.length+y.length<=sizeLine):To (t2 C fr (binaryOp .Add) (.v (.str x)) (.v (.str y))) l os (some (.v (.str (x++y)))) os:=To.pure λ_ _ _ _ _ q=>IL h q
theorem Hd(F:aG C fr)(Tp:hY fr){x:Str}{body:List Stmt}{ks:List Nat}{i:Nat}{s:Str}{o:oj}(hi:fi x fr.vn=some i)(hk:Ab os.length (fB ks l)=true)
 (hL:Loop C fr body ks os.length i (pG s) (fB ks l) os o):r7 C fr x body (.v (.str s)) l os o:=GL F Tp (λ_=>FA F s) hi hk hL
theorem g8(P:PO C K bN bO)(F:aG C fr)(hk:fr.env.kindOf "len"=some .globalImplicit){x:Str}(h:x.length<2^63):dO C fr "len" [.v (.str x)] l os (some (.v (.int x.length))) os:=
 lq P.G F P.rT P.rU (by decide) hk (To.pure λ_ _ _ _ _ q=>Bg h q)
theorem He(P:PO C K bN bO)(F:aG C fr)(hk:fr.env.kindOf "range"=some .globalImplicit){a b c:Int}(h:0<c)(h':c<1000000):dO C fr "range" [.v (.int a),.v (.int b),.v (.int c)] l os (some (.v (.xP a b c))) os:=
 pN P.G F P.ya P.yb (by decide) hk (To.pure λ_ _ _ _ _ q=>Ee h h' q)
theorem Ey(P:PO C K bN bO)(F:aG C fr)(hk:fr.env.kindOf "int"=some .globalImplicit){x:Str}{a:Int}(hn:PySem.intText? x=some a)(hl:x.length<=640):dO C fr "int" [.v (.str x)] l os (some (.v (.int a))) os:=
 pN P.G F P.CW P.CX (by decide) hk (To.pure λ_ _ _ _ _ q=>Bj hn hl q)
end
section
open PySem PySem.W PySem.Calls PyProof.Rows PySem.SeqAt PySem.NumText PySem.W.KIN
noncomputable abbrev tt:yo:= .b true
noncomputable abbrev ff:yo:= .b false
noncomputable abbrev rv(v:PV)(os:List Ob):yo:= .c (some (.v v)) os
noncomputable abbrev ru(v:PV):yo:= .u (some (.v v))
noncomputable abbrev sv(v:PV):Option EV:=some (.v v)
noncomputable section
noncomputable def BZ{α:Type}(d:α)(f:Stmt->α)(m9:List Stmt)(i:Nat):α:=Option.rec d f (m9[i]?)
noncomputable def jb:List Stmt->Nat->List Stmt:=BZ [] λst=>wF [] st (fo:=λ_ _ b _ _=>b) (wh:=λ_ b _ _=>b)
noncomputable def Sc:List Stmt->Nat->List Stmt:=BZ [] λst=>wF [] st (iff:=λ_ b _ _=>b)
noncomputable def LP:List Stmt->Nat->List Stmt:=BZ [] λst=>wF [] st (iff:=λ_ _ b _=>b)
noncomputable def An:List Stmt->Nat->Expr:=BZ (.Name ⟨#[]⟩ ⟨0,0,0,0⟩) λst=>wF (.Name ⟨#[]⟩ ⟨0,0,0,0⟩) st (wh:=λt _ _ _=>t)
end
theorem nt{b:Bool}(h:b=true):(!b)=false:=congrArg not h
theorem nf{b:Bool}(h:b=false):(!b)=true:=congrArg not h
theorem nK{r k:Nat}(h:r=k):decide ((r:Int)=(k:Nat))=true:=decide_eq_true (congrArg _ h)
theorem fa{r k:Nat}(h:¬r=k):decide ((r:Int)=(k:Nat))=false:=decide_eq_false λe=>h (fD e)
theorem Hf(a b:Nat):decide ([a]<[b])=decide (a<b):=by
 rw[decide_eq_decide];simp[List.cons_lt_cons_iff]
theorem B0{a c:Nat}{x:Str}(h:L x=[a]):(!decide (L (mk [c])<L x))=decide (a<=c):=by rw[dr,h,Hf];by_cases q:a<=c<;>simp[q];exact Nat.lt_of_not_le q
theorem B3{a c:Nat}{x:Str}(h:L x=[a]):(!decide (L x<L (mk [c])))=decide (c<=a):=by rw[dr,h,Hf];by_cases q:c<=a<;>simp[q];exact Nat.lt_of_not_le q
theorem Ez{a c:Nat}{x:Str}(h:L x=[a]):decide (mk [c]=x)=decide (c=a):=by rw[decide_eq_decide,<-f7 x,h,u0];simp
section
variable{C:Ctx}{fr:Fm}{l:Lo}{os os' os2:List Ob}{bB:Option EV}{cs:List EV}{K:Frag}{bN bO:ClassData}{lv:Nat}
theorem Hg(P:PO C K bN bO)(F:aG C fr)(hk:fr.env.kindOf "abs"=some .globalImplicit){a:Int}:dO C fr "abs" [.v (.int a)] l os (sv (.int (if a<0 then-a else a))) os:=lq P.G F P.Lj P.Lk (by decide) hk (To.pure λ_ _ _ _ _ q=>MA q)
theorem Ao(P:PO C K bN bO)(F:aG C fr)(hk:fr.env.kindOf "str"=some .globalImplicit){a:Int}(h:a.natAbs.log2<1920):dO C fr "str" [.v (.int a)] l os (sv (.str (toString a))) os:=
 pN P.G F P.CY P.CZ (by decide) hk (To.pure λ_ _ _ _ _ q=>Bh h q)
theorem xD(P:PO C K bN bO)(F:aG C fr)(hk:fr.env.kindOf "ord"=some .globalImplicit){c:Nat}:dO C fr "ord" [.v (.str (mk [c]))] l os (sv (.int c)) os:=
 lq P.G F P.m_ord P.Ll (by decide) hk (To.pure λ_ _ _ _ _ q=>Jh q)
theorem JO{os1:List Ob}{x:Str}{a:Int}(h:PadOk a=true):gR C fr "zfill" (.v (.str x)) os1 [.v (.int a)] l os (sv (.str (Txt.zfill x a))) os:=o8 Ga rfl (To.pure λ_ _ _ _ _ q=>FN h q)
theorem B4{c:Int}:Calls C kl lv [.v (.int c)] [] (sv (.bool (pK c))) []:=by
 unfold pK
 cases h:decide (48<=c)
 ·exact Calls.ret 0 rfl λL outer A F=>by apply cu F kl.body [sv (.int c)] [] [ff] h
 ·exact Calls.ret 0 rfl λL outer A F=>by apply cu F kl.body [sv (.int c)] [] [tt] h
theorem vU{c:Int}:Calls C jj lv [.v (.int c)] [] (sv (.bool (ge c))) []:=by
 unfold ge
 cases h:decide (97<=c)
 ·exact Calls.ret 0 rfl λL outer A F=>by apply cu F jj.body [sv (.int c)] [] [ff] h
 ·exact Calls.ret 0 rfl λL outer A F=>by apply cu F jj.body [sv (.int c)] [] [tt] h
theorem yu{c:Int}:Calls C iS lv [.v (.int c)] [] (sv (.bool (jl c))) []:=by
 unfold jl
 cases h:decide (65<=c)
 ·exact Calls.ret 0 rfl λL outer A F=>by apply cu F iS.body [sv (.int c)] [] [ff] h
 ·exact Calls.ret 0 rfl λL outer A F=>by apply cu F iS.body [sv (.int c)] [] [tt] h
theorem B5(P:PO C K bN bO){c:Int}(hl:0<lv):Calls C fJ lv [.v (.int c)] [] (sv (.bool (j2 c))) []:=by
 unfold j2
 have p:=λL outer A (F:aG C (fJ.frame L outer A lv)) (p:Pa)=>cu (m:=0) F fJ.body [sv (.int c)] [] p
 have s:=λL outer A (F:aG C (fJ.frame L outer A lv)) (l:Lo)=>aX (os:=[]) (l:=l) P.G F ⟨P.qC,P.qD,by decide⟩ (by ac_rfl) hl (vU (c:=c)) rfl
 have k:=λL outer A (F:aG C (fJ.frame L outer A lv)) (l:Lo)=>aX (os:=[]) (l:=l) P.G F ⟨P.rG,P.rH,by decide⟩ (by ac_rfl) hl (yu (c:=c)) rfl
 have d:=λL outer A (F:aG C (fJ.frame L outer A lv)) (l:Lo)=>aX (os:=[]) (l:=l) P.G F ⟨P.u3,P.u4,by decide⟩ (by ac_rfl) hl (B4 (c:=c)) rfl
 cases h1:ge c
 ·cases h2:jl c
  ·cases h3:pK c
   ·exact Calls.ret 0 rfl λL outer A F=>by apply p L outer A F [rv (.bool (ge c)) [],ff,ru (.bool (jl c)),ff,ru (.bool (pK c)),ff] (s L outer A F _) h1 (k L outer A F _) h2 (d L outer A F _) h3
   ·exact Calls.ret 0 rfl λL outer A F=>by apply p L outer A F [rv (.bool (ge c)) [],ff,ru (.bool (jl c)),ff,ru (.bool (pK c)),tt] (s L outer A F _) h1 (k L outer A F _) h2 (d L outer A F _) h3
  ·exact Calls.ret 0 rfl λL outer A F=>by apply p L outer A F [rv (.bool (ge c)) [],ff,ru (.bool (jl c)),tt] (s L outer A F _) h1 (k L outer A F _) h2
 ·exact Calls.ret 0 rfl λL outer A F=>by apply p L outer A F [rv (.bool (ge c)) [],tt] (s L outer A F _) h1
theorem Dx(P:PO C K bN bO)(F:aG C fr)(hk:fr.env.kindOf "reversed"=some .globalImplicit){s x:Str}{i k n:Nat}{xs:List Str}{p ap q r s' pos:Pos}(hi:fi x fr.vn=some i)(hl:l[i]?=some (some (.o k)))(ho:os[k]?=some (.list (xs.map .str)))
 (og:JoinOk s xs.reverse=true) (hsz:xs.length<=sizeLine) {y:Str} (hj:Txt.join s xs.reverse=y) (hp:(ap.endLine==pos.line)=true):To (tE C fr (.Call (.Attribute (.Constant (.str s) n p) "join" ap) [.Call (.Name "reversed" q) [.Name x r] [] s'] [] pos)) l os (sv (.str y)) os:= .mk λas ρ σ F0 S Q X e=>by
 subst hj
 have hc:=S.get ho λ_=>rfl
 have z:ρ[i]?=some (some (.loc (as k))):=(S.l i _ hl).2
 show WE C fr _ ρ σ Q X
 with_reducible refine gx CU (xQ ⟨?h1, ?h2⟩) ?h3 ?h4 ?h5 hp
 case h1=>rfl
 case h3=>exact .inr ⟨_,_,rfl⟩
 case h4=>exactλ_=>rfl
 case h5=>exactλ_=>rfl
 with_reducible refine cK (tm P.G F hk P.vo P.vp (cK (aZ F i (f6 hi) z (eA (zB hc λa ha=>eA ?g1))) ?g2) ?g3 ?g4 (by decide)) ?g5
 case g2=>exactλ_=>rfl
 case g3=>exact .inr ⟨_,_,rfl⟩
 case g4=>rfl
 case g5=>exactλ_=>rfl
 have iI:as k≠a:=St.j0 ha hc|>.symm
 with_reducible refine Br F iI ((St.bA _ _ iI).trans hc) (by rw[St.bE,ae]) og hsz ?_
 rw[St.KQ,St.H9 ha]
 exact e as σ (S.back rfl)
theorem Hh:To (t2 C fr (binaryOp .Pow) (.v (.int 10)) (.v (.int 18))) l os (sv (.int 1000000000000000000)) os:=To.pure λ_ _ _ _ _ q=>Gf q
theorem B6(P:PO C K bN bO)(F:aG C fr)(hk:fr.env.kindOf "divmod"=some .globalImplicit){n:Nat}:dO C fr "divmod" [.v (.int n),.v (.int 1000000000000000000)] l os (sv (.tup [.int (n/1000000000000000000:Nat),.int (n%1000000000000000000:Nat)])) os:=
 lq P.G F P.zO P.zP (by decide) hk (To.pure λ_ _ _ _ _ q=>zJ q)
theorem JP(P:PO C K bN bO){L':Addr}{outer:List Env}{A:Around}(F:aG C (cZ.frame L' outer A lv))(v:Int):∀(n:Nat) (done:List (List Nat)),done.length+(iP n).length<=100->∃(k r:Nat) (d:List (List Nat)),r<1000000000000000000/\d++[dg r]=done++iP n/\
 ja C (cZ.frame L' outer A lv) (An cZ.body 2) (jb cZ.body 2) [3] 1 k [sv (.int v),sv (.int n),some (.o 0),none] [.list (done.map λx=> .str (mk x))] (.norm [sv (.int v),sv (.int r),some (.o 0),none] [.list (d.map λx=> .str (mk x))]):=by
 intro n
 induction n using Nat.strongRecOn with
 |_ n ih=>
 intro done hd
 have t:=qp F (An cZ.body 2) [sv (.int v),sv (.int n),some (.o 0),none] [.list (done.map λx=> .str (mk x))] [ru (.int 1000000000000000000)]
 by_cases h:1000000000000000000<=n
 ·have hc:iP n=mG 18 (n%1000000000000000000)::iP (n/1000000000000000000):=by rw[mH,if_pos h]
  have hm:=kQ n (show 0<1000000000000000000 by decide)
  obtain⟨k,r,d,h1,h2,h3⟩:=ih (n/1000000000000000000) (Nat.div_lt_self (av (by decide) h) (by decide)) (done++[mG 18 (n%1000000000000000000)]) (by rw[hc,ay]at hd;rw[af,aS];exact n8 [.le (.a (.v 0) (.a (.v 1) (.n 1))) (.n 100)] (.le (.a (.a (.v 0) (.n 1)) (.v 1)) (.n 100)) [1] (Eq.refl true) hd)
  refine⟨k+1,r,d,h1,by rw[h2,hc,aC];rfl,?_⟩
  have z:=Em hm
  have hsz:(done.map λx=>PV.str (mk x)).length<=sizeLine:=by rw[ae];exact aa (by exact aa (ax _ _) hd) vS
  rw[aI,kS,<-z]at h3
  with_unfolding_all have b:=cu (m:=1) F (jb cZ.body 2) [sv (.int v),sv (.int n),some (.o 0),none] [.list (done.map λx=> .str (mk x))] [ru (.int 1000000000000000000),
   ru (.tup [.int (n/1000000000000000000:Nat),.int (n%1000000000000000000:Nat)]),ru (.str (cm (n%1000000000000000000:Nat))),
   ru (.str (Txt.zfill (cm (n%1000000000000000000:Nat)) 18)),rv .none [.list ((done.map λx=> .str (mk x))++[.str (Txt.zfill (cm (n%1000000000000000000:Nat)) 18)])]] Hh (B6 P F rfl) (Ao P F rfl (jh hm)) (JO (by decide)) (iX rfl rfl hsz)
  apply .next true (t Hh true (decide_eq_true (cF.mpr h))) b rfl h3
 ·refine⟨0,n,done,Nat.lt_of_not_le h,by rw[mH,if_neg h],?_⟩
  apply .stop (t Hh false (decide_eq_false λq=>h (cF.mp q)))
theorem dC{k:Nat}{os1:List Ob}{xs ys:List PV}{v:PV}(hp:EV.ty os1 (.o k)=some "list")(hk:os[k]?=some (.list xs))(hsz:xs.length<=sizeLine)(h:xs++[v]=ys):gR C fr "append" (.o k) os1 [.v v] l os (some (.v .none)) (os.set k (.list ys)):=h▸iX hp hk hsz
theorem fj(P:PO C K bN bO){v:Int}(hv:eT v):Calls C cZ lv [.v (.int v)] [] (sv (.str (cm v))) []:=Calls.ret (os2:=[.list (((eE v).map mk).map .str)]) 0 rfl λL' outer A F=>by
 obtain⟨k,r,d,h1,h2,h3⟩:=JP P F v v.natAbs [] (aa (by rw[pD,dR];exact hv) (by decide:8<=100))
 have w:=yn F Fn.top (os:=[.list []]) (l:=[sv (.int v),sv (.int v.natAbs),some (.o 0),none]) (ks:=[3]) rfl ⟨k,h3⟩
 have hd:d.length+1<=8:=by have:=congrArg List.length h2;rw[af,af]at this;unfold eT at hv;simp at this;exact this▸hv
 have hs:∀n,n<=9->n<=sizeLine:=λn h=>aa h (by decide)
 have e1:cm r=mk (dg r):=Jf r
 have EA:((eE v).map mk).length<=9:=by rw[ae,eE,af,<-dY (iP _),<-h2,af];split<;>simp<;>omega
 have hj:Txt.join (Str.ofString "") ((eE v).map mk).reverse=cm v:=by rw[<-List.map_reverse,show Str.ofString ""=mk []from rfl,uj,tz,f7]
 have p:=λ(p:Pa)=>cu (m:=0) F cZ.body [sv (.int v),none,none,none] [] p
 by_cases TO:v<0
 ·have e2:((d.map λx=>PV.str (mk x))++[.str (cm r)])++[.str (Str.ofString "-")]=((eE v).map mk).map .str:=by
   rw[eE,if_pos TO,<-dY (iP _),<-h2,e1];simp only[aI,bU,aP,gr];rfl
  apply p [rv (.int v.natAbs) [],.o (.norm [sv (.int v),sv (.int r),some (.o 0),none] [.list (d.map λx=> .str (mk x))]),ru (.str (cm r)),rv .none [.list ((d.map λx=> .str (mk x))++[.str (cm r)])],tt,
   rv .none [.list (((eE v).map mk).map .str)],.x (sv (.str (cm v))) [.list (((eE v).map mk).map .str)]] (yc v▸Hg P F rfl) w (Ao P F rfl (jh h1)) (iX rfl rfl (hs _ (by rw[ae];exact aa (cG hd) (by decide)))) (decide_eq_true TO)
   (dC rfl rfl (hs _ (by rw[af,ae];exact aa hd (by decide))) e2) (Dx P F rfl (i:=2) (k:=0) rfl rfl rfl (xm hv) (hs _ EA) hj rfl)
 ·have e2:(d.map λx=>PV.str (mk x))++[.str (cm r)]=((eE v).map mk).map .str:=by
   rw[eE,if_neg TO,bp,<-dY (iP _),<-h2,e1];simp only[aI,bU,aP,gr];rfl
  apply p [rv (.int v.natAbs) [],.o (.norm [sv (.int v),sv (.int r),some (.o 0),none] [.list (d.map λx=> .str (mk x))]),ru (.str (cm r)),rv .none [.list (((eE v).map mk).map .str)],ff,
   .x (sv (.str (cm v))) [.list (((eE v).map mk).map .str)]] (yc v▸Hg P F rfl) w (Ao P F rfl (jh h1)) (dC rfl rfl (hs _ (by rw[ae];exact aa (cG hd) (by decide))) e2) (decide_eq_false TO)
   (Dx P F rfl (i:=2) (k:=0) rfl rfl rfl (xm hv) (hs _ EA) hj rfl)
end
end
section
variable{C:Ctx}{K:Frag}{bN bO:ClassData}
theorem PO.Cy(P:PO C K bN bO):ms C "is_small" jj:=⟨P.qC,P.qD,by decide⟩
theorem PO.Cz(P:PO C K bN bO):ms C "is_alnum" fJ:=⟨P.u5,P.u6,by decide⟩
theorem PO.fm(P:PO C K bN bO):ms C "number_text" cZ:=⟨P.p8,P.p9,by decide⟩
theorem PO.nR(P:PO C K bN bO):ms C "is_alnum_name" b5:=⟨P.ng,P.nh,by decide⟩
theorem PO.AO(P:PO C K bN bO):ms C "shapes" oG:=⟨P.zK,P.zL,by decide⟩
theorem PO.mW(P:PO C K bN bO):ms C "is_whole" km:=⟨P.u7,P.u8,by decide⟩
theorem PO.xN(P:PO C K bN bO):ms C "is_pair" ma:=⟨P.xn,P.xo,by decide⟩
theorem PO.wS(P:PO C K bN bO):ms C "is_register" d9:=⟨P.qa,P.qb,by decide⟩
theorem PO.qs(P:PO C K bN bO):ms C "is_constant" ed:=⟨P.qc,P.qd,by decide⟩
theorem PO.sE(P:PO C K bN bO):ms C "is_functor" iT:=⟨P.rJ,P.rK,by decide⟩
theorem PO.py(P:PO C K bN bO):ms C "is_target" jv:=⟨P.tA,P.tB,by decide⟩
theorem PO.AP(P:PO C K bN bO):ms C "is_key" ko:=⟨P.zM,P.zN,by decide⟩
theorem PO.wm(P:PO C K bN bO):ms C "is_table" cx:=⟨P.u9,P.vf,by decide⟩
theorem PO.yO(P:PO C K bN bO):ms C "is_operand" e9:=⟨P.rL,P.rM,by decide⟩
theorem PO.pz(P:PO C K bN bO):ms C "check_row" dG:=⟨P.tC,P.tD,by decide⟩
theorem PO.wT(P:PO C K bN bO):ms C "code_digits" c0:=⟨P.qe,P.qf,by decide⟩
theorem PO.lD(P:PO C K bN bO):ms C "quoted_name" bY:=⟨P.qg,P.qh,by decide⟩
theorem PO.t6(P:PO C K bN bO):ms C "read_code" dH:=⟨P.tF,P.tG,by decide⟩
theorem PO.fZ(P:PO C K bN bO):ms C "unquoted_name" aF:=⟨P.ni,P.nn,by decide⟩
theorem PO.nS(P:PO C K bN bO):ms C "constant_text" eZ:=⟨P.nq,P.nr,by decide⟩
theorem PO.pA(P:PO C K bN bO):ms C "functor_text" gD:=⟨P.oN,P.oP,by decide⟩
theorem PO.qt(P:PO C K bN bO):ms C "table_words" bL:=⟨P.qi,P.qj,by decide⟩
theorem PO.pU(P:PO C K bN bO):ms C "instruction_words" aY:=⟨P.jW,P.jY,by decide⟩
theorem PO.EZ(P:PO C K bN bO):ms C "listing" dz:=⟨P.xp,P.xq,by decide⟩
theorem PO.t7(P:PO C K bN bO):ms C "split_row" ef:=⟨P.tH,P.tI,by decide⟩
theorem PO.bV(P:PO C K bN bO):ms C "read_count" bK:=⟨P.rN,P.rO,by decide⟩
theorem PO.ip(P:PO C K bN bO):ms C "read_constant" cn:=⟨P.nu,P.nv,by decide⟩
theorem PO.iY(P:PO C K bN bO):ms C "read_functor" fx:=⟨P.oQ,P.oU,by decide⟩
theorem PO.e5(P:PO C K bN bO):ms C "read_register" b6:=⟨P.ny,P.nz,by decide⟩
theorem PO.yP(P:PO C K bN bO):ms C "read_table" aD:=⟨P.rP,P.rQ,by decide⟩
theorem PO.pB(P:PO C K bN bO):ms C "read_operand" fy:=⟨P.oV,P.oW,by decide⟩
theorem PO.kM(P:PO C K bN bO):ms C "read_instruction" az:=⟨P.kp,P.kq,by decide⟩
theorem PO.pC(P:PO C K bN bO):ms C "read_listing" bj:=⟨P.oY,P.oZ,by decide⟩
theorem PO.CA(P:PO C K bN bO):ms C "_law_pool" cy:=⟨P.vg,P.vh,by decide⟩
theorem PO.CB(P:PO C K bN bO):ms C "_law_pick" jk:=⟨P.vj,P.vk,by decide⟩
theorem PO.AQ(P:PO C K bN bO):ms C "_law_words" bZ:=⟨P.tJ,P.tL,by decide⟩
theorem PO.wW(P:PO C K bN bO):ms C "_law_operand" aV:=⟨P.qk,P.ql,by decide⟩
end
section
open PySem PySem.W PySem.Calls PyProof.Rows PySem.SeqAt PySem.NumText PySem.W.KIN
section
variable{C:Ctx}{fr:Fm}{l:Lo}{os os' os2:List Ob}{bB:Option EV}{cs:List EV}{K:Frag}{bN bO:ClassData}{lv:Nat}
theorem o9(P:PO C K bN bO)(F:aG C fr){x:Str}{id:String}(hk:fr.env.kindOf x=some .globalImplicit)(hm:C.mg x=none)(hb:C.mb x=some (.type id))(hd:(x==("__debug__":Str))=false):yp C fr x (.v (.val (.type id))) l os:=λp=>To.pure λ_ _ _ _ _ q=>A4 P.G F hk hm hb q hd
theorem Ap(P:PO C K bN bO)(F:aG C fr)(hk:fr.env.kindOf "CON"=some .globalImplicit):yp C fr "CON" (.v (.int 4)) l os:=λp=>To.pure λ_ _ _ _ _ q=>CH P.G F hk P.Lh (λZ=>ct 4 _) q
theorem vV(P:PO C K bN bO)(F:aG C fr)(hk:fr.env.kindOf "INT"=some .globalImplicit):yp C fr "INT" (.v (.int 5)) l os:=λp=>To.pure λ_ _ _ _ _ q=>CH P.G F hk P.Li (λZ=>ct 5 _) q
theorem pb(P:PO C K bN bO)(F:aG C fr)(hk:fr.env.kindOf "isinstance"=some .globalImplicit){v:PV}{T:String}{b:Bool}(h:∀ρ σ (Q:PV->St->Prop) X,Q (.bool b) σ->WN C fr (λvs=>call (.builtin "isinstance") vs) [v,.val (.type T)] ρ σ Q X):
 dO C fr "isinstance" [.v v,.v (.val (.type T))] l os (sv (.bool b)) os:=lq P.G F P.rR P.rS (by decide) hk (To.pure λ_ ρ σ Q X q=>h ρ σ Q X q)
theorem xE(P:PO C K bN bO)(F:aG C fr)(hk:fr.env.kindOf "len"=some .globalImplicit){xs:List PV}(h:xs.length<2^63):dO C fr "len" [.v (.tup xs)] l os (sv (.int xs.length)) os:=
 lq P.G F P.rT P.rU (by decide) hk (To.pure λ_ _ _ _ _ q=>Bf h q)
theorem Hi{x:Str}{xs:List Str}:To (t2 C fr (compareOp .In) (.v (.str x)) (.v (.tup (xs.map .str)))) l os (sv (.bool (decide (x∈xs)))) os:=To.pure λ_ _ _ _ _ q=>Bl q
theorem Hj(F:aG C fr){kvs:List (List Int×Int)}{ks:List Int}{v:Int}(h:bT kvs ks=some v):mR C fr (.v (.eg kvs)) (.v (lU ks)) l os (sv (.int v)) os:=
 ⟨⟨_,rfl,.inr (.inl rfl)⟩,rfl,To.pure λ_ _ _ _ _ q=>zo F h q⟩
theorem Hk{kvs:List (Int×Int)}{a v:Int}(h:bT kvs a=some v):mR C fr (.v (.tabI kvs)) (.v (.int a)) l os (sv (.int v)) os:=
 ⟨⟨_,rfl,.inr (.inl rfl)⟩,rfl,To.pure λ_ _ _ _ _ q=>zk h q⟩
theorem Dy(P:PO C K bN bO)(hl:2<=lv){L':Addr}{outer:List Env}{A:Around}(F:aG C (b5.frame L' outer A lv)){x:Str}:∀cs:List Nat,
 Loop C (b5.frame L' outer A lv) (jb b5.body 1) [1] 0 1 (cs.map λc=> .str ⟨#[c]⟩) [sv (.str x),none] [] (bif cs.all λd=>j2 (d:Nat)then .norm [sv (.str x),none] []else .ret (.v (.bool false)) [])
 |[]=> .nil
 |c::cs=>by
  have p:=λ(p:Pa)=>cu (m:=0) F (jb b5.body 1) [sv (.str x),sv (.str (mk [c]))] [] p
  have k:=λl=>aX (l:=l) (os:=[]) P.G F P.Cz (by ac_rfl) (bx hl) (B5 P (c:=c) (lv:=1) (by decide)) rfl
  cases h:j2 (c:Nat)with
  |true=>
   rw[dN,h,nU]
   with_unfolding_all have b:=p [rv (.int c) [],ru (.bool (j2 c)),ff] (xD P F rfl) (k _) (nt h)
   exact .next true b rfl (Dy P hl F cs)
  |false=>
   rw[dN,h]
   apply .ret (p [rv (.int c) [],ru (.bool (j2 c)),tt] (xD P F rfl) (k _) (nf h))
theorem nM(P:PO C K bN bO){x:Str}(hl:2<=lv):Calls C b5 lv [.v (.str x)] [] (sv (.bool (f0 (L x)))) []:=by
 cases hx:L x with
 |nil=>
  obtain rfl:x=Str.ofString "":=rF (by rw[hx];rfl)
  exact Calls.ret 0 rfl λL outer A F=>by apply cu (m:=0) F b5.body [sv (.str (Str.ofString "")),none] [] [tt,tt] rfl rfl
 |cons c cs=>
  have iI:decide (x=Str.ofString "")=false:=decide_eq_false λe=>by rw[e]at hx;cases hx
  have hc:(L x)[((0:Int)).toNat]?=some c:=by rw[hx];rfl
  have p:=λL outer A (F:aG C (b5.frame L outer A lv)) (p:Pa)=>cu (m:=0) F b5.body [sv (.str x),none] [] p
  have k:=λ{L outer A} (F:aG C (b5.frame L outer A lv)) (l:Lo)=>aX (l:=l) (os:=[]) P.G F P.Cy (by ac_rfl) (bx hl) (vU (C:=C) (c:=c) (lv:=0)) rfl
  rw[show f0 (c::cs)=(ge c&&(c::cs).all λd=>j2 (d:Nat))from rfl]
  cases hs:ge (c:Nat)with
  |false=>
   exact Calls.ret 0 rfl λL outer A F=>by apply p L outer A F [ff,rv (.str (mk [c])) [],ru (.int c),ru (.bool (ge c)),tt,tt] iI (Il (by decide) (by decide) hc) (xD P F rfl) (k F _) (nf hs) rfl
  |true=>
   rw[nU]
   have q:=λ{L' outer A} (F:aG C (b5.frame L' outer A lv))=>Hd F Fn.top (os:=[]) (l:=[sv (.str x),none]) (ks:=[1]) (x:="char") (i:=1) (s:=x) (by ac_rfl) rfl (show Loop _ _ _ _ _ _ ((L x).map λc=> .str ⟨#[c]⟩) _ _ _ from Dy P hl F (L x))
   rw[hx]at q
   cases ha:(c::cs).all λd=>j2 (d:Nat)with
   |true=>
    rw[ha]at q
    exact Calls.ret 0 rfl λL outer A F=>by apply p L outer A F [ff,rv (.str (mk [c])) [],ru (.int c),ru (.bool (ge c)),ff,ff,.o (.norm [sv (.str x),none] [])] iI (Il (by decide) (by decide) hc) (xD P F rfl) (k F _) (nt hs) rfl (q F)
   |false=>
    rw[ha]at q
    exact Calls.ret 0 rfl λL outer A F=>by apply p L outer A F [ff,rv (.str (mk [c])) [],ru (.int c),ru (.bool (ge c)),ff,ff,.o (.ret (.v (.bool false)) [])] iI (Il (by decide) (by decide) hc) (xD P F rfl) (k F _) (nt hs) rfl (q F)
end
section
variable{C:Ctx}{K:Frag}{bN bO:ClassData}{lv:Nat}
noncomputable abbrev nT(x:String):yo:=rv (.val (.type x)) []
theorem mS(P:PO C K bN bO){n:Int}:Calls C km lv [.v (.int n)] [] (sv (.bool true)) []:=Calls.ret 0 rfl λL outer A F=>by
 apply cu F km.body [sv (.int n)] [] [nT "int",rv (.bool true) [],tt,nT "bool",rv (.bool false) []] (o9 P F rfl P.CW P.CX (by decide)) (pb P F rfl λ_ _ _ _ q=>uM (.inl ⟨rfl,rfl⟩) q) rfl (o9 P F rfl P.Gl P.Gm (by decide)) (pb P F rfl λ_ _ _ _ q=>uM (.inr ⟨rfl,rfl⟩) q)
theorem xF(P:PO C K bN bO){a b:PV}:Calls C ma lv [.v (.tup [a,b])] [] (sv (.bool true)) []:=Calls.ret 0 rfl λL outer A F=>by
 apply cu F ma.body [sv (.tup [a,b])] [] [nT "tuple",rv (.bool true) [],tt,rv (.int 2) []] (o9 P F rfl P.rV P.rW (by decide)) (pb P F rfl λ_ _ _ _ q=>qz q) rfl (xE P F rfl (show(2:Nat)<2^63 by decide))
theorem si(P:PO C K bN bO)(hl:1<=lv){n:Int}:Calls C iT lv [.v (.int n)] [] (sv (.bool (decide (0<=n)))) []:=Calls.ret 0 rfl λL outer A F=>by
 apply cu F iT.body [sv (.int n)] [] [ru (.bool true),tt] (aX P.G F P.mW rfl hl (mS P) rfl) rfl
theorem pd(P:PO C K bN bO)(hl:1<=lv){n:Int}:Calls C jv lv [.v (.int n),.v (.bool true)] [] (sv (.bool (decide (0<=n)))) []:=Calls.ret 0 rfl λL outer A F=>by
 apply cu F jv.body [sv (.int n),sv (.bool true)] [] [ru (.bool true),ff,tt] (aX P.G F P.mW rfl hl (mS P) rfl) rfl rfl
theorem qq(P:PO C K bN bO)(hl:1<=lv){k n:Int}:Calls C ed lv [.v (.tup [.int k,.int n])] [] (sv (.bool (decide (k=4\/k=5)))) []:=by
 have p:=λ{L outer A} (F:aG C (ed.frame L outer A lv)) (p:Pa)=>cu (m:=0) F ed.body [sv (.tup [.int k,.int n])] [] p
 have pr:=λ{L outer A} (F:aG C (ed.frame L outer A lv)) (l:Lo)=>aX (l:=l) (os:=[]) P.G F P.xN (by ac_rfl) hl (xF P (a:= .int k) (b:= .int n)) rfl
 have i0:=λ(fr:Fm) (l:Lo)=>BY (C:=C) (fr:=fr) (l:=l) (os:=[]) (xs:=[.int k,.int n]) (i:=0) (by decide) (by decide) rfl
 have i1:=λ(fr:Fm) (l:Lo)=>BY (C:=C) (fr:=fr) (l:=l) (os:=[]) (xs:=[.int k,.int n]) (i:=1) (by decide) (by decide) rfl
 have w:=λ{L outer A} (F:aG C (ed.frame L outer A lv)) (l:Lo)=>aX (l:=l) (os:=[]) P.G F P.mW (by ac_rfl) hl (mS P (n:=n)) rfl
 by_cases h1:k=4
 ·rw[show decide (k=4\/k=5)=true from decide_eq_true (.inl h1)]
  exact Calls.ret 0 rfl λL outer A F=>by apply p F [rv (.bool true) [],tt,ru (.int k),ru (.int 4),tt,tt,ru (.int n),ru (.bool true)] (pr F _) rfl (i0 _ _) (Ap P F rfl) (decide_eq_true h1) rfl (i1 _ _) (w F _)
 ·by_cases h2:k=5
  ·rw[show decide (k=4\/k=5)=true from decide_eq_true (.inr h2)]
   exact Calls.ret 0 rfl λL outer A F=>by apply p F [rv (.bool true) [],tt,ru (.int k),ru (.int 4),ff,ru (.int k),ru (.int 5),tt,ru (.int n),ru (.bool true)] (pr F _) rfl (i0 _ _) (Ap P F rfl) (decide_eq_false h1) (i0 _ _) (vV P F rfl) (decide_eq_true h2) (i1 _ _) (w F _)
  ·rw[show decide (k=4\/k=5)=false from decide_eq_false λq=>q.elim h1 h2]
   exact Calls.ret 0 rfl λL outer A F=>by apply p F [rv (.bool true) [],tt,ru (.int k),ru (.int 4),ff,ru (.int k),ru (.int 5),ff] (pr F _) rfl (i0 _ _) (Ap P F rfl) (decide_eq_false h1) (i0 _ _) (vV P F rfl) (decide_eq_false h2)
theorem wG(P:PO C K bN bO)(hl:1<=lv){x:Str}{names:List Str}{n:Int}:Calls C d9 lv [.v (.tup [.str x,.int n]),.v (.tup (names.map .str))] [] (sv (.bool (decide (x∈names)&&decide (1<=n)))) []:=by
 have p:=λ{L outer A} (F:aG C (d9.frame L outer A lv)) (p:Pa)=>cu (m:=0) F d9.body [sv (.tup [.str x,.int n]),sv (.tup (names.map .str))] [] p
 have pr:=λ{L outer A} (F:aG C (d9.frame L outer A lv)) (l:Lo)=>aX (l:=l) (os:=[]) P.G F P.xN (by ac_rfl) hl (xF P (a:= .str x) (b:= .int n)) rfl
 have i0:=λ(fr:Fm) (l:Lo)=>BY (C:=C) (fr:=fr) (l:=l) (os:=[]) (xs:=[.str x,.int n]) (i:=0) (by decide) (by decide) rfl
 have i1:=λ(fr:Fm) (l:Lo)=>BY (C:=C) (fr:=fr) (l:=l) (os:=[]) (xs:=[.str x,.int n]) (i:=1) (by decide) (by decide) rfl
 have w:=λ{L outer A} (F:aG C (d9.frame L outer A lv)) (l:Lo)=>aX (l:=l) (os:=[]) P.G F P.mW (by ac_rfl) hl (mS P (n:=n)) rfl
 cases h:decide (x∈names)with
 |true=>exact Calls.ret 0 rfl λL outer A F=>by apply p F [rv (.bool true) [],tt,ru (.str x),ru (.bool (decide (x∈names))),tt,ru (.int n),ru (.bool true),tt,ru (.int n)] (pr F _) rfl (i0 _ _) Hi h (i1 _ _) (w F _) rfl (i1 _ _)
 |false=>exact Calls.ret 0 rfl λL outer A F=>by apply p F [rv (.bool true) [],tt,ru (.str x),ru (.bool (decide (x∈names))),ff] (pr F _) rfl (i0 _ _) Hi h
theorem EB(P:PO C K bN bO)(hl:2<=lv){k n:Int}:Calls C ko lv [.v (.tup [.int k,.int n]),.v (.str "T")] [] (sv (.bool (decide (k=4\/k=5)))) []:=Calls.ret 0 rfl λL outer A F=>by
 apply cu F ko.body [sv (.tup [.int k,.int n]),sv (.str "T")] [] [tt,ru (.bool (decide (k=4\/k=5)))] rfl (aX P.G F P.qs rfl (bx hl) (qq P (lv:=1) (by decide)) rfl)
theorem EC(P:PO C K bN bO)(hl:2<=lv){n:Int}:Calls C ko lv [.v (.int n),.v (.str "U")] [] (sv (.bool (decide (0<=n)))) []:=Calls.ret 0 rfl λL outer A F=>by
 apply cu F ko.body [sv (.int n),sv (.str "U")] [] [ff,ru (.bool (decide (0<=n)))] rfl (aX P.G F P.sE rfl (bx hl) (si P (lv:=1) (by decide)) rfl)
theorem LQ(P:PO C K bN bO){fr:Fm}(F:aG C fr)(Tp:hY fr){x:Str}{body:List Stmt}{ks:List Nat}{i:Nat}{kvs:List (List Int×Int)}{l:Lo}{os:List Ob}{o:oj}(hi:fi x fr.vn=some i)(hk:Ab os.length (fB ks l)=true)
 (hL:Loop C fr body ks os.length i (kvs.map λp=>lU p.1) (fB ks l) os o):r7 C fr x body (.v (.eg kvs)) l os o:=GL F Tp (λ_=>Eb F P.G kvs) hi hk hL
theorem LR(P:PO C K bN bO){fr:Fm}(F:aG C fr)(Tp:hY fr){x:Str}{body:List Stmt}{ks:List Nat}{i:Nat}{kvs:List (Int×Int)}{l:Lo}{os:List Ob}{o:oj}(hi:fi x fr.vn=some i)(hk:Ab os.length (fB ks l)=true)
 (hL:Loop C fr body ks os.length i (kvs.map λp=> .int p.1) (fB ks l) os o):r7 C fr x body (.v (.tabI kvs)) l os o:=GL F Tp (λ_=>Ea F P.G kvs) hi hk hL
theorem Dz(P:PO C K bN bO)(hl:3<=lv){L':Addr}{outer:List Env}{A:Around}(F:aG C (cx.frame L' outer A lv)){t:List (List Int×Int)}:∀kvs:List ((Int×Int)×Int),(∀p∈kvs,bT t [p.1.1,p.1.2]=some p.2)->
 Loop C (cx.frame L' outer A lv) (jb (Sc cx.body 0) 1) [3] 0 3 ((qE kvs).map λp=>lU p.1) [sv (.eg t),sv (.str "T"),sv (.bool true),none,none] [] (bif kvs.all Jl then .norm [sv (.eg t),sv (.str "T"),sv (.bool true),none,none] []else .ret (.v (.bool false)) [])
 |[],_=> .nil
 |((k,n),v)::kvs,FV=>by
  have p:=λ(p:Pa)=>cu (m:=0) F (jb (Sc cx.body 0) 1) [sv (.eg t),sv (.str "T"),sv (.bool true),sv (.tup [.int k,.int n]),none] [] p
  have kk:=λl=>aX (l:=l) (os:=[]) P.G F P.AP (by ac_rfl) (bx hl) (EB P (k:=k) (n:=n) (lv:=2) (by decide)) rfl
  have tg:=λl=>aX (l:=l) (os:=[]) P.G F P.py (by ac_rfl) (bx hl) (pd P (n:=v) (lv:=1) (by decide)) rfl
  have lk:=λl=>Hj (l:=l) (os:=[]) F (FV ((k,n),v) (aJ ..))
  cases h1:decide (k=4\/k=5)with
  |false=>
   rw[dN,show Jl ((k,n),v)=false from congrArg (·&&_) h1]
   apply .ret (p [rv (.bool (decide (k=4\/k=5))) [],tt,tt] (kk _) (nf h1) rfl)
  |true=>cases h2:decide (0<=v)with
   |false=>
    rw[dN,show Jl ((k,n),v)=false from congr (congrArg and h1) h2]
    apply .ret (p [rv (.bool (decide (k=4\/k=5))) [],ff,ru (.int v),ru (.bool (decide (0<=v))),tt,tt] (kk _) (nt h1) (lk _) (tg _) (nf h2) rfl)
   |true=>
    rw[dN,show Jl ((k,n),v)=true from congr (congrArg and h1) h2,nU]
    with_unfolding_all have b:=p [rv (.bool (decide (k=4\/k=5))) [],ff,ru (.int v),ru (.bool (decide (0<=v))),ff,ff] (kk _) (nt h1) (lk _) (tg _) (nt h2) rfl
    exact .next true b rfl (Dz P hl F kvs λp hp=>FV p (aM _ hp))
theorem DA(P:PO C K bN bO)(hl:3<=lv){L':Addr}{outer:List Env}{A:Around}(F:aG C (cx.frame L' outer A lv)){t:List (Int×Int)}:∀kvs:List (Int×Int),(∀p∈kvs,bT t p.1=some p.2)->
 Loop C (cx.frame L' outer A lv) (jb (Sc cx.body 0) 1) [3] 0 3 (kvs.map λp=> .int p.1) [sv (.tabI t),sv (.str "U"),sv (.bool true),none,none] [] (bif kvs.all Jm then .norm [sv (.tabI t),sv (.str "U"),sv (.bool true),none,none] []else .ret (.v (.bool false)) [])
 |[],_=> .nil
 |(k,v)::kvs,FV=>by
  have p:=λ(p:Pa)=>cu (m:=0) F (jb (Sc cx.body 0) 1) [sv (.tabI t),sv (.str "U"),sv (.bool true),sv (.int k),none] [] p
  have kk:=λl=>aX (l:=l) (os:=[]) P.G F P.AP (by ac_rfl) (bx hl) (EC P (n:=k) (lv:=2) (by decide)) rfl
  have tg:=λl=>aX (l:=l) (os:=[]) P.G F P.py (by ac_rfl) (bx hl) (pd P (n:=v) (lv:=1) (by decide)) rfl
  have lk:=λ(fr:Fm) l=>Hk (C:=C) (fr:=fr) (l:=l) (os:=[]) (FV (k,v) (aJ ..))
  cases h1:decide (0<=k)with
  |false=>
   rw[dN,show Jm (k,v)=false from congrArg (·&&_) h1]
   apply .ret (p [rv (.bool (decide (0<=k))) [],tt,tt] (kk _) (nf h1) rfl)
  |true=>cases h2:decide (0<=v)with
   |false=>
    rw[dN,show Jm (k,v)=false from congr (congrArg and h1) h2]
    apply .ret (p [rv (.bool (decide (0<=k))) [],ff,ru (.int v),ru (.bool (decide (0<=v))),tt,tt] (kk _) (nt h1) (lk _ _) (tg _) (nf h2) rfl)
   |true=>
    rw[dN,show Jm (k,v)=true from congr (congrArg and h1) h2,nU]
    with_unfolding_all have b:=p [rv (.bool (decide (0<=k))) [],ff,ru (.int v),ru (.bool (decide (0<=v))),ff,ff] (kk _) (nt h1) (lk _ _) (tg _) (nt h2) rfl
    exact .next true b rfl (DA P hl F kvs λp hp=>FV p (aM _ hp))
theorem Aq(P:PO C K bN bO)(hl:3<=lv){kvs:List ((Int×Int)×Int)}(hn:(kvs.map (·.1)).Nodup):Calls C cx lv [.v (.eg (qE kvs)),.v (.str "T"),.v (.bool true)] [] (sv (.bool (kvs.all Jl))) []:=by
 have q:=λ{L' outer A} (F:aG C (cx.frame L' outer A lv))=>LQ P F Fn.top (os:=[]) (l:=[sv (.eg (qE kvs)),sv (.str "T"),sv (.bool true),none,none]) (ks:=[3]) (x:="key") (i:=3) (by ac_rfl) rfl (Dz P hl F kvs λp hp=>by
  obtain⟨i,hi⟩:=gv hp;exact zW hn hi)
 have p:=λ{L outer A} (F:aG C (cx.frame L outer A lv)) (p:Pa)=>cu (m:=0) F cx.body [sv (.eg (qE kvs)),sv (.str "T"),sv (.bool true),none,none] [] p
 cases ha:kvs.all Jl with
 |true=>
  rw[ha]at q
  exact Calls.ret 0 rfl λL outer A F=>by apply p F [tt,nT "dict",rv (.bool true) [],ff,.o (.norm [sv (.eg (qE kvs)),sv (.str "T"),sv (.bool true),none,none] [])] rfl (o9 P F rfl P.vl P.vm (by decide)) (pb P F rfl λ_ _ _ _ q=>to q) rfl (q F)
 |false=>
  rw[ha]at q
  exact Calls.ret 0 rfl λL outer A F=>by apply p F [tt,nT "dict",rv (.bool true) [],ff,.o (.ret (.v (.bool false)) [])] rfl (o9 P F rfl P.vl P.vm (by decide)) (pb P F rfl λ_ _ _ _ q=>to q) rfl (q F)
theorem Ar(P:PO C K bN bO)(hl:3<=lv){kvs:List (Int×Int)}(hn:(kvs.map (·.1)).Nodup):Calls C cx lv [.v (.tabI kvs),.v (.str "U"),.v (.bool true)] [] (sv (.bool (kvs.all Jm))) []:=by
 have q:=λ{L' outer A} (F:aG C (cx.frame L' outer A lv))=>LR P F Fn.top (os:=[]) (l:=[sv (.tabI kvs),sv (.str "U"),sv (.bool true),none,none]) (ks:=[3]) (x:="key") (i:=3) (by ac_rfl) rfl (DA P hl F kvs λp hp=>rD hn hp)
 have p:=λ{L outer A} (F:aG C (cx.frame L outer A lv)) (p:Pa)=>cu (m:=0) F cx.body [sv (.tabI kvs),sv (.str "U"),sv (.bool true),none,none] [] p
 cases ha:kvs.all Jm with
 |true=>
  rw[ha]at q
  exact Calls.ret 0 rfl λL outer A F=>by apply p F [tt,nT "dict",rv (.bool true) [],ff,.o (.norm [sv (.tabI kvs),sv (.str "U"),sv (.bool true),none,none] [])] rfl (o9 P F rfl P.vl P.vm (by decide)) (pb P F rfl λ_ _ _ _ q=>tn q) rfl (q F)
 |false=>
  rw[ha]at q
  exact Calls.ret 0 rfl λL outer A F=>by apply p F [tt,nT "dict",rv (.bool true) [],ff,.o (.ret (.v (.bool false)) [])] rfl (o9 P F rfl P.vl P.vm (by decide)) (pb P F rfl λ_ _ _ _ q=>tn q) rfl (q F)
theorem yw(P:PO C K bN bO)(hl:4<=lv){k:Str}{o:dA}(hf:o.fits k):Calls C e9 lv [.v o.pv,.v (.str k),.v (.bool true)] [] (sv (.bool (o.ok k))) []:=by
 have p:=λ{L outer A} (F:aG C (e9.frame L outer A lv)) (p:Pa)=>cu (m:=0) F e9.body [sv o.pv,sv (.str k),sv (.bool true)] [] p
 cases o with
 |E6 x n=>
  have r:=λ{L outer A} (F:aG C (e9.frame L outer A lv)) (l:Lo) (names:List Str)=>aX (l:=l) (os:=[]) P.G F P.wS (by ac_rfl) (bx hl) (wG P (x:=x) (n:=n) (names:=names) (lv:=1) (by decide)) rfl
  rcases hf with rfl|rfl|rfl
  ·exact Calls.ret 0 rfl λL outer A F=>by apply p F [tt,rv (.bool (decide (x∈(["x","y"]:List Str))&&decide (1<=n))) []] rfl (r F _ ["x","y"])
  ·exact Calls.ret 0 rfl λL outer A F=>by apply p F [ff,tt,rv (.bool (decide (x∈(["x"]:List Str))&&decide (1<=n))) []] rfl rfl (r F _ ["x"])
  ·exact Calls.ret 0 rfl λL outer A F=>by apply p F [ff,ff,tt,rv (.bool (decide (x∈(["y"]:List Str))&&decide (1<=n))) []] rfl rfl rfl (r F _ ["y"])
 |con c n=>
  obtain rfl:=hf
  exact Calls.ret 0 rfl λL outer A F=>by apply p F [ff,ff,ff,tt,rv (.bool (decide (c=4\/c=5))) []] rfl rfl rfl rfl (aX P.G F P.qs rfl (bx hl) (qq P (lv:=1) (by decide)) rfl)
 |num n=>
  have f:=λ{L outer A} (F:aG C (e9.frame L outer A lv)) (l:Lo)=>aX (l:=l) (os:=[]) P.G F P.sE (by ac_rfl) (bx hl) (si P (n:=n) (lv:=1) (by decide)) rfl
  rcases hf with rfl|rfl|rfl
  ·exact Calls.ret 0 rfl λL outer A F=>by apply p F [ff,ff,ff,ff,tt,tt,rv (.bool (decide (0<=n))) []] rfl rfl rfl rfl rfl rfl (f F _)
  ·exact Calls.ret 0 rfl λL outer A F=>by apply p F [ff,ff,ff,ff,ff,tt,tt,rv (.bool (decide (0<=n))) []] rfl rfl rfl rfl rfl rfl rfl (f F _)
  ·exact Calls.ret 0 rfl λL outer A F=>by apply p F [ff,ff,ff,ff,ff,ff,ff,tt,rv (.bool (decide (0<=n))) []] rfl rfl rfl rfl rfl rfl rfl rfl (aX P.G F P.py rfl (bx hl) (pd P (lv:=1) (by decide)) rfl)
 |eg kvs=>
  obtain⟨rfl,hn⟩:=hf
  exact Calls.ret 0 rfl λL outer A F=>by apply p F [ff,ff,ff,ff,ff,ff,ff,ff,rv (.bool (kvs.all Jl)) []] rfl rfl rfl rfl rfl rfl rfl rfl (aX P.G F P.wm rfl (bx hl) (Aq P (lv:=3) (by decide) hn) rfl)
 |tabI kvs=>
  obtain⟨rfl,hn⟩:=hf
  exact Calls.ret 0 rfl λL outer A F=>by apply p F [ff,ff,ff,ff,ff,ff,ff,ff,rv (.bool (kvs.all Jm)) []] rfl rfl rfl rfl rfl rfl rfl rfl (aX P.G F P.wm rfl (bx hl) (Ar P (lv:=3) (by decide) hn) rfl)
end
section
variable{C:Ctx}{fr:Fm}{l:Lo}{os os' os2:List Ob}{bB:Option EV}{cs:List EV}{K:Frag}{bN bO:ClassData}{lv:Nat}
noncomputable def Np(v:PV)(t:Str):Prop:=v=.str t\/∃i:Int,v=.int i/\i.natAbs.log2<1920/\t=toString i
theorem Hl{v:PV}{t acc:Str}{σ:St}{P:Str->Prop}(f:Np v t)(hsz:(acc++t).length<=sizeLine)(h:P (acc++t)):
 (∃y,v=.str y/\(acc++y).length<=sizeLine/\P (acc++y))\/∃a:Int,v=.int a/\a.natAbs.log2<1920/\(acc++toString a).length<=sizeLine/\P (acc++toString a):=by
 rcases f with rfl|⟨i,rfl,hi,rfl⟩
 ·exact .inl ⟨_,rfl,hsz,h⟩
 ·exact .inr ⟨_,rfl,hi,hsz,h⟩
theorem Zu{a b t1 t2:Str}{e1 e2:Expr}{v1 v2:PV}{k1 k2:Nat}{p1 p2 p3 p4 pos:Pos}(h1:To (tE C fr e1) l os (sv v1) os)(h2:To (tE C fr e2) l os (sv v2) os)(f1:Np v1 t1)(f2:Np v2 t2)(hsz:a.length+t1.length+b.length+t2.length<=sizeLine):
 To (tE C fr (.JoinedStr [.Constant (.str a) k1 p1,.FormattedValue e1 (-1) none p2,.Constant (.str b) k2 p3,.FormattedValue e2 (-1) none p4] pos)) l os (sv (.str ((((Str.empty++a)++t1)++b)++t2))) os:= .mk λas ρ σ F s Q X e=>by
 have n1:(Str.empty++a).length<=sizeLine:=by rw[gY,pJ];exact Oq [.le (.a (.a (.a (.v 0) (.v 1)) (.v 2)) (.v 3)) (.v 4)] (.le (.a (.n 0) (.v 0)) (.v 4)) [1] (Eq.refl true) hsz
 have n2:((Str.empty++a)++t1).length<=sizeLine:=by rw[gY,gY,pJ];exact Oq [.le (.a (.a (.a (.v 0) (.v 1)) (.v 2)) (.v 3)) (.v 4)] (.le (.a (.a (.n 0) (.v 0)) (.v 1)) (.v 4)) [1] (Eq.refl true) hsz
 have n3:(((Str.empty++a)++t1)++b).length<=sizeLine:=by rw[gY,gY,gY,pJ];exact Oq [.le (.a (.a (.a (.v 0) (.v 1)) (.v 2)) (.v 3)) (.v 4)] (.le (.a (.a (.a (.n 0) (.v 0)) (.v 1)) (.v 2)) (.v 4)) [1] (Eq.refl true) hsz
 have n4:((((Str.empty++a)++t1)++b)++t2).length<=sizeLine:=by rw[gY,gY,gY,gY,pJ];exact Oq [.le (.a (.a (.a (.v 0) (.v 1)) (.v 2)) (.v 3)) (.v 4)] (.le (.a (.a (.a (.a (.n 0) (.v 0)) (.v 1)) (.v 2)) (.v 3)) (.v 4)) [1] (Eq.refl true) hsz
 show WE C fr _ ρ σ Q X
 with_reducible refine x6 (zD n1 (F8 ?_))
 refine h1.go as ρ σ F s _ _ λcD cQ v=> ?_
 refine Hl (σ:=cQ) (P:=λy=>WJ C fr _ y ρ cQ Q X) f1 n2 ?_
 with_reducible refine zD n3 (F8 ?_)
 refine h2.go cD ρ cQ F v.s _ _ λiW hG w=> ?_
 refine Hl (σ:=hG) (P:=λy=>WJ C fr _ y ρ hG Q X) f2 n4 ?_
 with_reducible refine MW n4 ?_
 exact e iW hG ⟨v.a.trans v.n w.a,w.s,trivial,aa v.n w.n⟩
theorem ig(P:PO C K bN bO)(F:aG C fr)(hk:fr.env.kindOf "range"=some .globalImplicit){a:Int}:dO C fr "range" [.v (.int a)] l os (sv (.xP 0 a 1)) os:=
 pN P.G F P.ya P.yb (by decide) hk (To.pure λ_ _ _ _ _ q=>Ed q)
theorem qL(F:aG C fr)(Tp:hY fr){x:Str}{body:List Stmt}{ks:List Nat}{i n:Nat}{o:oj}(hn:n<2^61)(hi:fi x fr.vn=some i)(hk:Ab os.length (fB ks l)=true)
 (hL:Loop C fr body ks os.length i ((List.range' 0 n).map λi=> .int (i:Nat)) (fB ks l) os o):r7 C fr x body (.v (.xP 0 n 1)) l os o:=
 GL F Tp (λ_=>y9 F n (by unfold Builtin.Range.rangeSize;simp;omega) (small_one (by decide) (by decide) (by exact aE _) (by exact sH [.lt (.v 0) (.n 2305843009213693952)] (.A2 (.c (.v 0)) (.n 4611686018427387904)) [1] (Eq.refl true) hn))) hi hk (by
  unfold sM;rw[List.range_eq_range',show(λi:Nat=>PV.int (0+(i:Nat)*1))=λi:Nat=> .int (i:Nat)from funext λi=>by rw[Int.mul_one,iw]];exact hL)
theorem JQ{k:Nat}{kvs:List (Str×PV)}{x:Str}{v:PV}(hk:os[k]?=some (.dS kvs))(hv:bT kvs x=some v):mR C fr (.o k) (.v (.str x)) l os (sv v) os:=
 ⟨⟨_,by show(os[k]?).bind Ob.ty=some "dict";rw[hk];rfl,.inr (.inl rfl)⟩,rfl,To.read hk (λ_=>rfl) λ_ _ _ _ _ hc q=>FS hc hv q⟩
theorem uu(G:dh C){k:Nat}{kvs:List (Str×PV)}{x:Str}(hk:os[k]?=some (.dS kvs)):To (t2 C fr (compareOp .NotIn) (.v (.str x)) (.o k)) l os (sv (.bool (!(bT kvs x).isSome))) os:=
 To.read hk (λ_=>rfl) λ_ _ _ _ _ hc q=>Eg G hc q
theorem DB(P:PO C K bN bO)(hl:5<=lv){L':Addr}{outer:List Env}{A:Around}(F:aG C (dG.frame L' outer A lv)){T:Ob}(hT:T.live=true){nm ks:Str}{ic:List dA}(Mp:nm.length<=100)(xi:(L ks).length<=4)(hf:mK (L ks) ic):∀m j,j+m=(L ks).length->
 Loop C (dG.frame L' outer A lv) (jb dG.body 5) [5] 1 5 ((List.range' j m).map λi=> .int (i:Nat)) [some (.o 0),sv (.tup (.str nm::ic.map dA.pv)),sv (.bool true),sv (.str nm),sv (.str ks),none] [T]
  (bif fX ((L ks).drop j) (ic.drop j)then .norm [some (.o 0),sv (.tup (.str nm::ic.map dA.pv)),sv (.bool true),sv (.str nm),sv (.str ks),none] [T]else .exc)
 |0,j,h=>by rw[lG (aR (show(L ks).length=j from h.symm))];exact .nil
 |m+1,j,h=>by
  have eC:=gG hf
  have h1:j<(L ks).length:=by exact qV [.eq (.a (.v 0) (.a (.v 1) (.n 1))) (.v 2)] (.lt (.v 0) (.v 2)) [1] (Eq.refl true) h
  have h2:j<ic.length:=by exact Ig [.eq (.a (.v 0) (.a (.v 1) (.n 1))) (.v 2),.eq (.v 3) (.v 2)] (.lt (.v 0) (.v 3)) [1,.negSucc 0] (Eq.refl true) h eC
  have hc:=aA h1
  have ho:=aA h2
  have JR:=tO hf hc ho
  have ih:=DB P hl F hT Mp xi hf m (j+1) (by exact dx (qV [.eq (.a (.v 0) (.a (.v 1) (.n 1))) (.v 2)] (.le (.a (.a (.v 0) (.n 1)) (.v 1)) (.v 2)) [1] (Eq.refl true) h) (qV [.eq (.a (.v 0) (.a (.v 1) (.n 1))) (.v 2)] (.le (.v 2) (.a (.a (.v 0) (.n 1)) (.v 1))) [.negSucc 0] (Eq.refl true) h))
  rw[bR h1,bR h2]
  generalize(L ks)[j]=c at*
  generalize ic[j]=o at*
  have ot:=λl=>aX (l:=l) (os:=[T]) P.G F P.yO (by ac_rfl) (bx hl) (yw P (lv:=4) (by decide) JR) (show(_&&(_&&_))=true by rw[show[T].all Ob.live=true by rw[dN,hT];rfl];rfl)
  have i1:=λ(fr:Fm) l=>BY (C:=C) (fr:=fr) (l:=l) (os:=[T]) (xs:= .str nm::ic.map dA.pv) (i:=(j:Int)+1) (v:=o.pv) (by exact aE _) (by exact qV [.le (.v 0) (.n 4),.eq (.a (.v 1) (.a (.v 2) (.n 1))) (.v 0)] (.A2 (.a (.c (.v 1)) (.n 1)) (.n 9223372036854775808)) [1,1] (Eq.refl true) xi h) (by rw[show((j:Int)+1).toNat=j+1 by exact rfl,hM,bo,ho];rfl)
  have i2:=λ(fr:Fm) l=>Il (C:=C) (fr:=fr) (l:=l) (os:=[T]) (x:=ks) (i:=j) (c:=c) (by exact aE _) (by exact qV [.le (.v 0) (.n 4),.eq (.a (.v 1) (.a (.v 2) (.n 1))) (.v 0)] (.A2 (.c (.v 1)) (.n 4611686018427387904)) [1,1] (Eq.refl true) xi h) (by rw[bJ];exact hc)
  have p:=λ(p:Pa)=>cu (m:=1) F (jb dG.body 5) [some (.o 0),sv (.tup (.str nm::ic.map dA.pv)),sv (.bool true),sv (.str nm),sv (.str ks),sv (.int j)] [T] p
  cases hk:o.ok (mk [c])with
  |true=>
   rw[show fX (c::(L ks).drop (j+1)) (o::ic.drop (j+1))=(o.ok (mk [c])&&fX ((L ks).drop (j+1)) (ic.drop (j+1)))from rfl,hk,nU]
   with_unfolding_all have b:=p [rv o.pv [T],ru (.str (mk [c])),ru (.bool (o.ok (mk [c]))),ff] (i1 _ _) (i2 _ _) (ot _) (nt hk)
   exact .next true b rfl ih
  |false=>
   rw[show fX (c::(L ks).drop (j+1)) (o::ic.drop (j+1))=(o.ok (mk [c])&&fX ((L ks).drop (j+1)) (ic.drop (j+1)))from rfl,hk]
   have l1:(Str.ofString "wrong operand ").length=14:=by ac_rfl
   have l2:(Str.ofString " of ").length=4:=by ac_rfl
   have l3:(Str.ofString (toString ((j:Int)+1))).length<=10:=x9 (n:=j+1) (k:=9) (by exact qV [.le (.v 0) (.n 4),.eq (.a (.v 1) (.a (.v 2) (.n 1))) (.v 0)] (.lt (.a (.v 1) (.n 1)) (.n 10000000000)) [1,1] (Eq.refl true) xi h)
   have hg:((j:Int)+1).natAbs.log2<1920:=jh (m:=j+1) (by exact qV [.le (.v 0) (.n 4),.eq (.a (.v 1) (.a (.v 2) (.n 1))) (.v 0)] (.lt (.a (.v 1) (.n 1)) (.n 1000000000000000000)) [1,1] (Eq.refl true) xi h)
   have lg:(Str.ofString "wrong operand ").length+(Str.ofString (toString ((j:Int)+1))).length+(Str.ofString " of ").length+nm.length<=sizeLine:=by rw[l1,l2,gZ];exact n8 [.le (.v 0) (.n 100),.le (.v 1) (.n 10)] (.le (.a (.a (.a (.n 14) (.v 1)) (.n 4)) (.v 0)) (.n 16777216)) [1,1] (Eq.refl true) Mp l3
   apply .exc (p [rv o.pv [T],ru (.str (mk [c])),ru (.bool (o.ok (mk [c]))),tt,.x (sv (.str ((((Str.empty++Str.ofString "wrong operand ")++Str.ofString (toString ((j:Int)+1)))++Str.ofString " of ")++nm))) [T]] (i1 _ _) (i2 _ _) (ot _) (nf hk)
    (Zu (v1:= .int (j+1)) (v2:= .str nm) (To.bin (To.name F rfl rfl rfl) (To.pure λ_ _ _ _ _ q=>c9 q) (Ag rfl _ _)) (To.name F rfl rfl rfl) (.inr ⟨_,rfl,hg,rfl⟩) (.inl rfl) lg) (c8 P F rfl (bx hl)))
theorem tW(P:PO C K bN bO)(hl:5<=lv){sh:List (Str×Str)}{nm ks:Str}{ic:List dA}(hk:bT sh nm=some ks)(xi:(L ks).length<=4)(Mp:nm.length<=100)(hf:mK (L ks) ic):
 Calls C dG lv [.o 0,.v (.tup (.str nm::ic.map dA.pv)),.v (.bool true)] [.dS (sh.map λp=>(p.1,.str p.2))] (bif fX (L ks) ic then sv .none else none) [.dS (sh.map λp=>(p.1,.str p.2))]:=by
 have AW:bT (sh.map λp=>(p.1,PV.str p.2)) nm=some (PV.str ks):=by rw[sZ,hk];rfl
 generalize(sh.map λp=>(p.1,PV.str p.2))=kvs at AW
 have e1:(L ks).length=ks.length:=fV ks
 have e2:(PV.str nm::ic.map dA.pv).length=ks.length+1:=by rw[ay,ae,gG hf,e1]
 have lt:=λ{fr:Fm} (F:aG C fr) hk l=>xE (os:=[.dS kvs]) (l:=l) P F hk (xs:= .str nm::ic.map dA.pv) (by rw[e2];exact ak (aL xi) (by decide))
 rw[e2]at lt
 have i0:=λ(fr:Fm) l=>BY (C:=C) (fr:=fr) (l:=l) (os:=[.dS kvs]) (xs:= .str nm::ic.map dA.pv) (i:=0) (by decide) (by decide) rfl
 have q:=λ{L' outer A} (F:aG C (dG.frame L' outer A lv))=>qL F Fn.top (os:=[.dS kvs]) (n:=ks.length) (l:=[some (.o 0),sv (.tup (.str nm::ic.map dA.pv)),sv (.bool true),sv (.str nm),sv (.str ks),none]) (ks:=[5]) (x:="place") (i:=5) (by exact ak xi (by decide)) (by ac_rfl) rfl (DB P hl F (T:= .dS kvs) rfl Mp xi hf ks.length 0 (by rw[dR,e1]))
 have p:=λ{L outer A} (F:aG C (dG.frame L outer A lv)) (o:oj)=>cu (m:=1) F dG.body [some (.o 0),sv (.tup (.str nm::ic.map dA.pv)),sv (.bool true),none,none,none] [.dS kvs] [nT "tuple",rv (.bool true) [.dS kvs],ff,rv (.int (ks.length+1:Nat)) [.dS kvs],ff,rv (.str nm) [.dS kvs],nT "str",rv (.bool true) [.dS kvs],ff,ff,
  rv (.str nm) [.dS kvs],rv (.bool (!(bT kvs nm).isSome)) [.dS kvs],ff,rv (.str ks) [.dS kvs],rv (.int (ks.length+1:Nat)) [.dS kvs],rv (.int ks.length) [.dS kvs],ff,rv (.int ks.length) [.dS kvs],rv (.xP 0 ks.length 1) [.dS kvs],.o o]
 have h0:decide (((ks.length+1:Nat):Int)=0)=false:=decide_eq_false (by exactλe=>(sH [.T4 (.c (.a (.v 0) (.n 1))) (.n 0)] (.ff) [1] (Eq.refl true) e).elim)
 have h1:(!(bT kvs nm).isSome)=false:=by rw[AW];rfl
 have h2:(!decide (((ks.length+1:Nat):Int)=(ks.length:Int)+1))=false:=nt (decide_eq_true rfl)
 cases ha:fX (L ks) ic with
 |true=>
  rw[eX,eX,ha]at q
  exact Calls.Yv (os2:=[.dS kvs]) 1 rfl λL outer A F=>by
   apply p F (.norm [some (.o 0),sv (.tup (.str nm::ic.map dA.pv)),sv (.bool true),sv (.str nm),sv (.str ks),none] [.dS kvs]) (o9 P F rfl P.rV P.rW (by decide)) (pb P F rfl λ_ _ _ _ q=>qz q) rfl (lt F rfl _) h0 (i0 _ _) (o9 P F rfl P.CY P.CZ (by decide)) (pb P F rfl λ_ _ _ _ q=>uN q) rfl rfl
    (i0 _ _) (uu P.G rfl) h1 (JQ rfl AW) (lt F rfl _) (g8 P F rfl (by exact ak xi (by decide))) h2 (g8 P F rfl (by exact ak xi (by decide))) (ig P F rfl) (q F)
 |false=>
  rw[eX,eX,ha]at q
  exact Calls.exc rfl λL outer A F=>by
   apply p F .exc (o9 P F rfl P.rV P.rW (by decide)) (pb P F rfl λ_ _ _ _ q=>qz q) rfl (lt F rfl _) h0 (i0 _ _) (o9 P F rfl P.CY P.CZ (by decide)) (pb P F rfl λ_ _ _ _ q=>uN q) rfl rfl
    (i0 _ _) (uu P.G rfl) h1 (JQ rfl AW) (lt F rfl _) (g8 P F rfl (by exact ak xi (by decide))) h2 (g8 P F rfl (by exact ak xi (by decide))) (ig P F rfl) (q F)
theorem JS{n b:Nat}(hb:0<b):To (t2 C fr (binaryOp .Mod) (.v (.int n)) (.v (.int b))) l os (sv (.int (n%b:Nat))) os:=To.pure λ_ _ _ _ _ q=>sO (bI.mpr hb) (by rw[<-Int.natCast_emod];exact q)
theorem LS{n b:Nat}(hb:0<b)(h:b<1073741824):To (t2 C fr (binaryOp .FloorDiv) (.v (.int n)) (.v (.int b))) l os (sv (.int (n/b:Nat))) os:=To.pure λ_ _ _ _ _ q=>IK (bI.mpr hb) (bI.mpr h) (by rw[<-Int.natCast_ediv];exact q)
theorem nN{a b:List Nat}(h:a.length+b.length<=sizeLine):To (t2 C fr (binaryOp .Add) (.v (.str (mk a))) (.v (.str (mk b)))) l os (sv (.str (mk (a++b)))) os:=by
 rw[<-El];exact d7 (by rw[gy,gy];exact h)
theorem OK{x:Str}{i c:Nat}(h1:i<2^62)(hc:(L x)[i]?=some c):mR C fr (.v (.str x)) (.v (.int i)) l os (sv (.str (mk [c]))) os:=Il (aE i) (bI.mpr h1) (by rw[bJ];exact hc)
theorem a8{n:Nat}(m:Nat)(h:n<=m)(hm:Nat.ble m 16777216=true):n<=sizeLine:=aa h (aa (a5 hm) (aR gZ.symm))
theorem JT{L':Addr}{outer:List Env}{A:Around}(F:aG C (c0.frame L' outer A lv)):∀(k c:Nat) (acc:List Nat),c<16^k->acc.length+k<=9->
 ja C (c0.frame L' outer A lv) (An c0.body 3) (jb c0.body 3) [] 0 k [sv (.int c),sv (.str (Str.ofString "0123456789abcdef")),sv (.str (mk acc))] [] (.norm [sv (.int (0:Nat)),sv (.str (Str.ofString "0123456789abcdef")),sv (.str (mk (if c=0 then acc else mL c++acc)))] []):=by
 have t:=λ(c:Nat) acc=>qp F (An c0.body 3) [sv (.int c),sv (.str (Str.ofString "0123456789abcdef")),sv (.str (mk acc))] [] []
 intro k
 induction k with
 |zero=>
  intro c acc hc _
  obtain rfl:c=0:=Nat.lt_one_iff.mp hc
  rw[if_pos rfl]
  apply .stop (t 0 acc false rfl)
 |succ k ih=>
  intro c acc hc hk
  by_cases h0:c=0
  ·subst h0
   rw[if_pos rfl]
   apply .stop (t 0 acc false rfl)
  ·have hm:=kQ c (show 0<16 by decide)
   have h3:=ih (c/16) (ky (c%16)::acc) (by rw[pV]at hc;omega) (by rw[ay];exact n8 [.le (.a (.v 0) (.a (.v 1) (.n 1))) (.n 9)] (.le (.a (.a (.v 0) (.n 1)) (.v 1)) (.n 9)) [1] (Eq.refl true) hk)
   rw[show(if c/16=0 then ky (c%16)::acc else mL (c/16)++ky (c%16)::acc)=if c=0 then acc else mL c++acc by
    rw[if_neg h0];conv=>rhs;rw[Db]
    by_cases q:c<16
    ·rw[if_pos (by omega),if_pos q,mY q];rfl
    ·rw[if_neg (by omega),if_neg q,aC];rfl]at h3
   with_unfolding_all have b:=cu (m:=0) F (jb c0.body 3) [sv (.int c),sv (.str (Str.ofString "0123456789abcdef")),sv (.str (mk acc))] [] [ru (.int (c%16:Nat)),ru (.str (mk [ky (c%16)])),ru (.str (mk (ky (c%16)::acc))),ru (.int (c/16:Nat))] (JS (by decide)) (OK (dj hm (by decide)) (zX hm)) (nN (a8 10 (by rw[aS];exact n8 [.le (.a (.v 0) (.a (.v 1) (.n 1))) (.n 9)] (.le (.a (.n 1) (.v 0)) (.n 10)) [1] (Eq.refl true) hk) rfl)) (LS (by decide) (by decide))
   apply .next true (t c acc true (decide_eq_true (bI.mpr (qR h0)))) b rfl h3
theorem wH{n:Nat}(hn:n<4294967296):Calls C c0 lv [.v (.int n)] [] (sv (.str (mk (mL n)))) []:=Calls.ret 0 rfl λL outer A F=>by
 have hm:=kQ n (show 0<16 by decide)
 have w:=yn F Fn.top (os:=[]) (l:=[sv (.int (n/16:Nat)),sv (.str (Str.ofString "0123456789abcdef")),sv (.str (mk [ky (n%16)]))]) (ks:=[]) rfl ⟨8,JT F 8 (n/16) [ky (n%16)] (by omega) (show 1+8<=9 by decide)⟩
 rw[show(if n/16=0 then[ky (n%16)]else mL (n/16)++[ky (n%16)])=mL n by
  conv=>rhs;rw[Db]
  by_cases q:n<16
  ·rw[if_pos (by omega),if_pos q,mY q]
  ·rw[if_neg (by omega),if_neg q]]at w
 apply cu F c0.body [sv (.int n),none,none] [] [ru (.int (n%16:Nat)),ru (.str (mk [ky (n%16)])),ru (.int (n/16:Nat)),.o (.norm [sv (.int (0:Nat)),sv (.str (Str.ofString "0123456789abcdef")),sv (.str (mk (mL n)))] [])] (JS (by decide)) (OK (dj hm (by decide)) (zX hm)) (LS (by decide) (by decide)) w
noncomputable def Im:List Stmt->Nat->Expr:=BZ (.Name ⟨#[]⟩ ⟨0,0,0,0⟩) λst=>wF (.Name ⟨#[]⟩ ⟨0,0,0,0⟩) st (iff:=λt _ _ _=>t)
theorem yx{k:Nat}{os1:List Ob}{s y:Str}{xs:List Str}(hk:os[k]?=some (.list (xs.map .str)))(og:JoinOk s xs=true)(hy:Txt.join s xs=y):gR C fr "join" (.v (.str s)) os1 [.o k] l os (sv (.str y)) os:=
 o8 CU rfl (To.read hk (λ_=>rfl) λas ρ σ Q X hc q=>IT hc og (hy▸q))
theorem vW{a c:Nat}{x:Str}(h:L x=[a]):(!decide (mk [c]=x))=decide (c≠a):=by rw[Ez h];simp
theorem JU{L':Addr}{outer:List Env}{A:Around}(F:aG C (bY.frame L' outer A lv)){x:Str}{c:Nat}:To (tT C (bY.frame L' outer A lv) (Im (jb bY.body 2) 0)) [sv (.str x),some (.o 0),sv (.str (mk [c]))] os (sv (.bool (vr c))) os:=by
 have p:=λ(p:Pa)=>qp F (Im (jb bY.body 2) 0) [sv (.str x),some (.o 0),sv (.str (mk [c]))] os p
 have h1:=B0 (c:=c) M6
 have h2:=B3 (c:=c) Jn
 have h3:=vW (c:=c) vt
 have h4:=vW (c:=c) ye
 unfold vr
 cases e1:decide (33<=c)with
 |false=>apply p [ff,ff] (h1.trans e1) rfl false rfl
 |true=>cases e2:decide (c<=126)with
  |false=>apply p [tt,ff] (h1.trans e1) (h2.trans e2) false rfl
  |true=>cases e3:decide (c≠39)with
   |false=>apply p [tt,tt,ff] (h1.trans e1) (h2.trans e2) (h3.trans e3) false rfl
   |true=>cases e4:decide (c≠92)with
    |false=>apply p [tt,tt,tt,ff] (h1.trans e1) (h2.trans e2) (h3.trans e3) (h4.trans e4) false rfl
    |true=>apply p [tt,tt,tt,tt] (h1.trans e1) (h2.trans e2) (h3.trans e3) (h4.trans e4) true rfl
theorem DC(P:PO C K bN bO)(hl:3<=lv){L':Addr}{outer:List Env}{A:Around}(F:aG C (bY.frame L' outer A lv)){x:Str}:∀(cs:List Nat) (done:List (List Nat)),done.length+cs.length<=2000->(∀c∈cs,c<4294967296)->
 Loop C (bY.frame L' outer A lv) (jb bY.body 2) [2] 1 2 (cs.map λc=> .str ⟨#[c]⟩) [sv (.str x),some (.o 0),none] [.list (done.map λy=> .str (mk y))] (.norm [sv (.str x),some (.o 0),none] [.list ((done++cs.map yd).map λy=> .str (mk y))])
 |[],done,_,_=>by rw[gr,gr,bp];exact .nil
 |c::cs,done,hd,hc=>by
  have ih:=DC P hl F (x:=x) cs (done++[yd c]) (by rw[af,aS];rw[ay]at hd;exact n8 [.le (.a (.v 0) (.a (.v 1) (.n 1))) (.n 2000)] (.le (.a (.a (.v 0) (.n 1)) (.v 1)) (.n 2000)) [1] (Eq.refl true) hd) λd h=>hc d (aM _ h)
  rw[aC,show[yd c]++cs.map yd=(c::cs).map yd from rfl,aI,kS]at ih
  have hsz:(done.map λy=>PV.str (mk y)).length<=sizeLine:=a8 2000 (by rw[ae];exact aa (ax _ _) hd) rfl
  have Zv:=hc c (aJ ..)
  have Zw:=vq (k:=7) (n:=c) Zv
  have t:=JU (os:=[.list (done.map λy=> .str (mk y))]) F (x:=x) (c:=c)
  have p:=λ(p:Pa)=>cu (m:=1) F (jb bY.body 2) [sv (.str x),some (.o 0),sv (.str (mk [c]))] [.list (done.map λy=> .str (mk y))] (.x (sv (.bool (vr c))) [.list (done.map λy=> .str (mk y))]::p)
  cases hp:vr c with
  |true=>
   rw[show yd c=[c]from if_pos hp]at ih
   with_unfolding_all have b:=p [tt,rv .none [.list ((done.map λy=> .str (mk y))++[.str (mk [c])])]] t hp (iX rfl rfl hsz)
   exact .next true b rfl ih
  |false=>
   have e:Str.ofString "\\x"=mk [92,120]:=by rw[<-f7 (Str.ofString "\\x"),Jo]
   have e':Str.ofString "\\"=mk [92]:=by rw[<-f7 (Str.ofString "\\"),ye]
   have s1:=nN (C:=C) (fr:=bY.frame L' outer A lv) (l:=[sv (.str x),some (.o 0),sv (.str (mk [c]))]) (os:=[.list (done.map λy=> .str (mk y))]) (a:=[92,120]) (b:=mL c) (a8 10 (a6 Zw 2) rfl)
   have s2:=nN (C:=C) (fr:=bY.frame L' outer A lv) (l:=[sv (.str x),some (.o 0),sv (.str (mk [c]))]) (os:=[.list (done.map λy=> .str (mk y))]) (a:=[92,120]++mL c) (b:=[92]) (a8 11 (by rw[af];simp;exact a6 Zw _) rfl)
   rw[<-e]at s1
   rw[<-e']at s2
   rw[show yd c=[92,120]++mL c++[92]from if_neg (by rw[hp];decide)]at ih
   with_unfolding_all have b:=p [ff,rv (.int c) [.list (done.map λy=> .str (mk y))],ru (.str (mk (mL c))),ru (.str (mk ([92,120]++mL c))),ru (.str (mk ([92,120]++mL c++[92]))),rv .none [.list ((done.map λy=> .str (mk y))++[.str (mk ([92,120]++mL c++[92]))])]] t hp (xD P F rfl) (aX P.G F P.wT rfl (bx hl) (wH (lv:=0) Zv) rfl) s1 s2 (iX rfl rfl hsz)
   exact .next true b rfl ih
theorem lA(P:PO C K bN bO)(hl:3<=lv){x:Str}(hx:eU (L x)):Calls C bY lv [.v (.str x)] [] (sv (.str (mk (di (L x))))) []:=by
 have a:=λ{L' outer A} (F:aG C (bY.frame L' outer A lv)) (l:Lo)=>aX (l:=l) (os:=[]) P.G F P.nR (by ac_rfl) (bx hl) (nM P (x:=x) (lv:=2) (by decide)) rfl
 have p:=λ{L' outer A} (F:aG C (bY.frame L' outer A lv)) (p:Pa)=>cu (m:=0) F bY.body [sv (.str x),none,none] [] (rv (.bool (f0 (L x))) []::p)
 cases h:f0 (L x)with
 |true=>
  rw[di,if_pos h,f7]
  exact Calls.ret 0 rfl λL outer A F=>by apply p F [tt] (a F _) h
 |false=>
  have oh:=hx.1
  have e1:Str.ofString "'"=mk [39]:=by rw[<-f7 (Str.ofString "'"),vt]
  have hj:Txt.join (Str.ofString "") ((([39]::(L x).map yd)++[[39]]).map mk)=mk (di (L x)):=by
   rw[show Str.ofString ""=mk []from rfl,uj,lX,di,h];simp[List.flatMap]
  have og:JoinOk (Str.ofString "") ((([39]::(L x).map yd)++[[39]]).map mk)=true:=by
   refine lY 11 (λy hy=> ?_) ?_
   ·obtain⟨z,hz,rfl⟩:=bn.mp hy
    rw[gy]
    rcases cS.mp hz with hz|hz
    ·rcases am.mp hz with rfl|hz
     ·exact(by decide:1<=11)
     ·obtain⟨c,hc,rfl⟩:=bn.mp hz
      exact Dc (hx.2 c hc)
    ·rw[aq.mp hz];exact(by decide:1<=11)
   ·rw[show(Str.ofString "").length=0 from rfl,ae,af,ay,ae,aS];exact a8 20000 (by omega) rfl
  have e2:(([39]::(L x).map yd).map λy=>PV.str (mk y))++[.str (Str.ofString "'")]=((([39]::(L x).map yd)++[[39]]).map mk).map .str:=by rw[e1,bU,aI];rfl
  have hs:(([39]::(L x).map yd).map λy=>PV.str (mk y)).length<=sizeLine:=by rw[ae,ay,ae];exact a8 1001 (by exact ak oh (by decide)) rfl
  refine Calls.ret (os2:=[.list (((([39]::(L x).map yd)++[[39]]).map mk).map .str)]) 0 rfl λL' outer A F=> ?_
  have w:=Hd F Fn.top (os:=[.list [.str (Str.ofString "'")]]) (l:=[sv (.str x),some (.o 0),none]) (ks:=[2]) (x:="sign") (i:=2) (s:=x) (by ac_rfl) rfl (show Loop _ _ _ _ _ _ ((L x).map λc=> .str ⟨#[c]⟩) _ _ _ by rw[e1];exact DC P hl F (L x) [[39]] (by rw[aS];exact sH [.le (.v 0) (.n 1000)] (.le (.a (.n 1) (.v 0)) (.n 2000)) [1] (Eq.refl true) oh) hx.2)
  apply p F [ff,.o (.norm [sv (.str x),some (.o 0),none] [.list (([39]::(L x).map yd).map λy=> .str (mk y))]),rv .none [.list (((([39]::(L x).map yd)++[[39]]).map mk).map .str)],ru (.str (mk (di (L x))))] (a F _) h w (dC rfl rfl hs e2) (yx rfl og hj)
theorem Hm{T id:String}{name:Str}{a:EV}{os1:List Ob}(B:BM T name id)(hp:a.ty os1=some T):Ah C fr name a os1:=λo ap pos es l sG os2 os' hs h1 h2=> .mk λas ρ σ F s Q X x=>by
 obtain⟨k1,k2⟩:=au.mp hs
 obtain⟨k2,k3⟩:=au.mp k2
 obtain⟨k3,k4⟩:=au.mp k3
 exact gx B (h1.go as ρ σ F s _ _ λcD cQ v1=>⟨BN hp v1.s,h2.go cD ρ cQ F v1.s _ _ x⟩) (fN k1 _ _) (λenv=>GR k3 _ env) (λenv=>vP k1 k2 _ env) k4
theorem Sd(P:PO C K bN bO)(F:aG C fr)(hk:fr.env.kindOf "chr"=some .globalImplicit){n:Nat}(h:n<=1114111):dO C fr "chr" [.v (.int n)] l os (sv (.str (mk [n]))) os:=
 lq P.G F P.Gj P.Gk (by decide) hk (To.pure λ_ _ _ _ _ q=>Ji (aE n) (cF.mpr h) (by rw[bJ];exact q))
theorem Hn(P:PO C K bN bO)(F:aG C fr)(hk:fr.env.kindOf "len"=some .globalImplicit){x:List Nat}(h:x.length<2^63):dO C fr "len" [.v (.str (mk x))] l os (sv (.int x.length)) os:=by
 have:=g8 (l:=l) (os:=os) P F hk (x:=mk x) (by rw[gy];exact h)
 rwa[gy]at this
theorem m_find{os1:List Ob}{x:Str}{c:Nat}{r:Int}(hr:Txt.find x (mk [c])=r):gR C fr "find" (.v (.str x)) os1 [.v (.str (mk [c]))] l os (sv (.int r)) os:=o8 CV rfl (To.pure λ_ _ _ _ _ q=>IS (hr▸q))
theorem JV{os1:List Ob}{x y:Str}{a r:Int}(hr:Txt.find3 x y a=r):gR C fr "find" (.v (.str x)) os1 [.v (.str y),.v (.int a)] l os (sv (.int r)) os:=o8 CV rfl (To.pure λ_ _ _ _ _ q=>FO (hr▸q))
theorem Nq{n b:Nat}(hb:b<2^64):To (t2 C fr (binaryOp .Mult) (.v (.int n)) (.v (.int b))) l os (sv (.int (n*b:Nat))) os:=To.pure λ_ _ _ _ _ q=>Bc (xU (by exact aE _) (bI.mpr hb)) (by rw[<-Int.natCast_mul];exact q)
theorem As{x y:Str}{a b:Option Int}(hsz:x.length<=sizeLine)(hy:Txt.slice x a b=y):sf C fr (.v (.str x)) a b l os (sv (.str y)) os:=hy▸slS hsz
theorem DD(P:PO C K bN bO)(hl:2<=lv){L':Addr}{outer:List Env}{A:Around}(F:aG C (dH.frame L' outer A lv)){x:Str}:∀(cs:List Nat) (v:Nat),
 Loop C (dH.frame L' outer A lv) (jb dH.body 2) [3,4] 0 3 (cs.map λc=> .str ⟨#[c]⟩) [sv (.str x),sv (.str (Str.ofString "0123456789abcdef")),sv (.int v),none,none] []
  (match iu v cs with|some u=> .norm [sv (.str x),sv (.str (Str.ofString "0123456789abcdef")),sv (.int u),none,none] []|none=> .exc)
 |[],v=> .nil
 |c::cs,v=>by
  have p:=λ(p:Pa)=>cu (m:=0) F (jb dH.body 2) [sv (.str x),sv (.str (Str.ofString "0123456789abcdef")),sv (.int v),sv (.str (mk [c])),none] [] p
  have hf:=Jp (Str.ofString "0123456789abcdef") c
  rw[Gw]at hf
  rw[iu]
  cases hu:Lp c with
  |none=>
   rw[show Ij c _=none from hu]at hf
   apply .exc (p [rv (.int (-1)) [],tt] (m_find hf) rfl (c8 P F rfl (bx hl)))
  |some f=>
   rw[show Ij c _=some f from hu]at hf
   by_cases h:v*16+f>1114111
   ·simp only[if_pos h]
    apply .exc (p [rv (.int f) [],ff,ru (.int (v*16:Nat)),tt] (m_find hf) (decide_eq_false (eH.mpr (aE f))) (Nq (by decide)) (decide_eq_true (bI.mpr h)) (c8 P F rfl (bx hl)))
   ·simp only[if_neg h]
    with_unfolding_all have b:=p [rv (.int f) [],ff,ru (.int (v*16:Nat)),ff] (m_find hf) (decide_eq_false (eH.mpr (aE f))) (Nq (by decide)) (decide_eq_false λq=>h (bI.mp q))
    exact .next true b rfl (DD P hl F cs (v*16+f))
theorem Au(P:PO C K bN bO)(hl:2<=lv){x:Str}:Calls C dH lv [.v (.str x)] [] ((mh (L x)).map λv:Nat=> .v (.int v)) []:=by
 have q:=λ{L' outer A} (F:aG C (dH.frame L' outer A lv))=>Hd F Fn.top (os:=[]) (l:=[sv (.str x),sv (.str (Str.ofString "0123456789abcdef")),sv (.int (0:Nat)),none,none]) (ks:=[3,4]) (x:="sign") (i:=3) (s:=x) (by ac_rfl) rfl (DD P hl F (L x) 0)
 have p:=λ{L' outer A} (F:aG C (dH.frame L' outer A lv)) (p:Pa)=>cu (m:=0) F dH.body [sv (.str x),none,none,none,none] [] p
 unfold mh
 cases h:iu 0 (L x)with
 |none=>rw[h]at q;exact Calls.exc rfl λL outer A F=>by apply p F [.o .exc] (q F)
 |some u=>rw[h]at q;exact Calls.ret 0 rfl λL' outer A F=>by apply p F [.o (.norm [sv (.str x),sv (.str (Str.ofString "0123456789abcdef")),sv (.int u),none,none] [])] (q F)
noncomputable abbrev DE:List Stmt:=jb aF.body 5
noncomputable abbrev E7(i:Nat):Stmt:=(DE[i]?).getD (.Pass ⟨0,0,0,0⟩)
noncomputable abbrev sj(x:Str)(inn:List Nat)(pl:Nat)(e:Option EV):Lo:=[sv (.str x),sv (.str (mk inn)),some (.o 0),sv (.int pl),e,none]
noncomputable abbrev pS(done:List Nat):List Ob:=[.list (done.map λc=> .str (mk [c]))]
theorem uv{α:Type}{w:α}{rs ws:List α}{pl:Nat}(h:w::rs<:+ws)(e:pl+(rs.length+1)=ws.length):ws[pl]?=some w:=h.elim λt ht=>by
 subst ht
 rw[af]at e
 cases Nat.add_right_cancel e
 rw[cH (aj _),Nat.sub_self];rfl
section
variable{L':Addr}{outer:List Env}{A:Around}{x:Str}{inn done r p:List Nat}{G:Prop}
theorem Nr(P:PO C K bN bO)(hl:4<=lv)(F:aG C (aF.frame L' outer A lv))(CS:inn.length<=1000)(hd:done.length<=1000)(hp:inn=p++92::r)
 (k0:Er r=none->Runs (hZ C (aF.frame L' outer A lv) (DE.drop 1)) 1 (sj x inn p.length none) (pS done) .exc->G)
 (k1:∀e JW y,Er r=some e->JW+e.2.length=inn.length->Runs (hZ C (aF.frame L' outer A lv) (DE.drop 1)) 1 (sj x inn p.length none) (pS done) (.norm (sj x inn JW y) (pS (done++[e.1])))->G):G:=by
 have eB:DE.drop 1=E7 1::E7 2::DE.drop 3:=by rfl'
 rw[eB]at k0 k1
 have hf:=xu (x:=mk inn) (c:=92) (p:=p++[92]) (r:=r) (by rw[dr,hp,aC];rfl)
 rw[show mk [92]=Str.ofString "\\" by rw[<-f7 (Str.ofString "\\"),ye],af]at hf
 have s1:=λ{z:Int} (h:Txt.find3 (mk inn) (Str.ofString "\\") ((p.length:Int)+1)=z)=>show Runs (WS C (aF.frame L' outer A lv) (E7 1)) 1 (sj x inn p.length none) (pS done) (.norm (sj x inn p.length (sv (.int z))) (pS done)) by
  apply cN F (E7 1) (sj x inn p.length none) (pS done) [ru (.int z)] (JV h)
 have bad:=λ{z:Int} (h:Txt.find3 (mk inn) (Str.ofString "\\") ((p.length:Int)+1)=z) (q:z<(p.length:Int)+3)=>show Runs (hZ C (aF.frame L' outer A lv) (E7 1::E7 2::DE.drop 3)) 1 (sj x inn p.length none) (pS done) .exc from(s1 h).cons (Runs.stop (by
  apply cN F (E7 2) (sj x inn p.length (sv (.int z))) (pS done) [tt,tt] (decide_eq_true q) rfl (c8 P F rfl (bx hl))) nofun)
 unfold Er at k0 k1
 cases hj:Ij 92 r with
 |none=>
  rw[hj]at hf k0
  exact k0 rfl (bad hf (show(-1:Int)<(p.length:Int)+3 from aE _))
 |some j=>
  have TP:=Gx hj
  rw[hj]at hf k0 k1
  have hf:Txt.find3 (mk inn) (Str.ofString "\\") ((p.length:Int)+1)=((p.length+1+j:Nat):Int):=hf
  rw[bg]at k0 k1
  by_cases h2:j<2
  ·rw[if_pos (.inl h2)]at k0
   exact k0 rfl (bad hf (bI.mpr (show p.length+1+j<p.length+3 from Nat.add_lt_add_left h2 (p.length+1))))
  cases r with
  |nil=>exact absurd TP (j9 _)
  |cons c r=>
   have TA:decide (((p.length+1+j:Nat):Int)<(p.length:Int)+3)=false:=decide_eq_false (eH.mpr (cF.mpr (show p.length+3<=p.length+1+j from a6 (cq h2) (p.length+1))))
   have i1:=OK (C:=C) (fr:=aF.frame L' outer A lv) (l:=sj x inn p.length (sv (.int (p.length+1+j:Nat)))) (os:=pS done) (x:=mk inn) (i:=p.length+1) (c:=c) (ak (aa (by rw[hp,af];exact a6 (cP _) _) CS) (by decide)) (by rw[dr,hp,cH (show p.length<=p.length+1 from bF _),hS];rfl)
   have p2:=λ(b:Bool)=>cN (m:=1) F (E7 2) (sj x inn p.length (sv (.int (p.length+1+j:Nat)))) (pS done) [ff,ru (.str (mk [c])),.b b,.b b]
   have Zx:=vW (c:=c) M7
   by_cases hc:c=120
   ·rw[if_neg (λq=>q.elim h2 λq=>q (congrArg some hc))]at k0 k1
    have s2:Runs (WS C (aF.frame L' outer A lv) (E7 2)) 1 (sj x inn p.length (sv (.int (p.length+1+j:Nat)))) (pS done) (.norm (sj x inn p.length (sv (.int (p.length+1+j:Nat)))) (pS done)):=by
     apply p2 false TA i1 (Zx.trans (decide_eq_false λq=>q hc)) rfl
    subst hc
    cases j with
    |zero=>exact absurd (by decide) h2
    |succ i=>
     have hi:i+1<=r.length:=gu TP
     have E8:Txt.slice (mk inn) (some ((p.length:Int)+2)) (some ((p.length+1+(i+1):Nat):Int))=mk (r.take i):=by
      have g:=Bz (x:=mk inn) (p:=p++[92,120]) (m:=r.take i) (q:=r.drop i) (by rw[dr,fT,aC,hp];rfl)
      rw[af,lH (cG hi),show p.length+[92,120].length+i=p.length+1+(i+1)from Nat.succ_add (p.length+1) i]at g
      exact g
     have rc:=Au (C:=C) P (lv:=2) (aj _) (x:=mk (r.take i))
     rw[dr]at rc
     have p3:=λ(q:Pa)=>cu (m:=1) F (DE.drop 3) (sj x inn p.length (sv (.int (p.length+1+(i+1):Nat)))) (pS done) (ru (.str (mk (r.take i)))::q)
     have sl:=As (C:=C) (fr:=aF.frame L' outer A lv) (l:=sj x inn p.length (sv (.int (p.length+1+(i+1):Nat)))) (os:=pS done) (a8 1000 (by rw[gy];exact CS) rfl) E8
     have go:=λ{bB:oj} (h:Runs (hZ C (aF.frame L' outer A lv) (DE.drop 3)) 1 (sj x inn p.length (sv (.int (p.length+1+(i+1):Nat)))) (pS done) bB)=>(s1 hf).cons (s2.cons h)
     cases hv:mh (r.take i)with
     |none=>
      rw[show mh (((120::r).take (i+1)).drop 1)=none from hv]at k0
      rw[hv]at rc
      exact k0 rfl (go (by apply p3 [.u none] sl (aX P.G F P.t6 rfl (bx hl) rc rfl) (Hc P.G F P.Gj P.Gk (by decide) rfl) (Hm j8 rfl)))
     |some v=>
      rw[show mh (((120::r).take (i+1)).drop 1)=some v from hv]at k1
      rw[hv]at rc
      refine k1 (v,r.drop (i+1)) (p.length+1+(i+1)+1) (sv (.int (p.length+1+(i+1):Nat))) rfl ?_ (go ?_)
      ·rw[hp,af,fF]
       exact(congrArg (·+_) (dc (p.length+1) (i+1) 1)).trans ((bP (p.length+1+1) (i+1) _).trans ((congrArg (p.length+1+1+·) (pP hi)).trans ((bP p.length 2 _).trans (congrArg (p.length+·) (bH 2 _)))))
      ·apply p3 [ru (.int v),ru (.str (mk [v])),rv .none (pS (done++[v]))] sl (aX P.G F P.t6 rfl (bx hl) rc rfl) (Sd P F rfl (ly (by decide) hv)) (dC rfl rfl (a8 1000 (by rw[ae];exact hd) rfl) (aI (l₂:=[v])).symm)
   ·rw[if_pos (.inr (λq=>hc (ao q)))]at k0
    exact k0 rfl ((s1 hf).cons (Runs.stop (by apply p2 true TA i1 (Zx.trans (decide_eq_true hc)) rfl (c8 P F rfl (bx hl))) nofun))
theorem JX(P:PO C K bN bO)(hl:4<=lv)(F:aG C (aF.frame L' outer A lv))(CS:inn.length<=1000)(n:Nat):∀{rs:List Nat} {pl:Nat} {done:List Nat},rs<:+inn->pl+rs.length=inn.length->rs.length<n->done.length<=pl->
 (∀k,vu n rs=none->ja C (aF.frame L' outer A lv) (An aF.body 5) DE [4] 1 k (sj x inn pl none) (pS done) .exc->G)->
 (∀k t,vu n rs=some t->ja C (aF.frame L' outer A lv) (An aF.body 5) DE [4] 1 k (sj x inn pl none) (pS done) (.norm (sj x inn inn.length none) (pS (done++t)))->G)->G:=by
 induction n with
 |zero=>exactλ_ _ h=>absurd h (j9 _)
 |succ n ih=>
  intro rs pl done hs hp hn hd k0 k1
  have t:=qp F (An aF.body 5) (sj x inn pl none) (pS done) [ru (.int inn.length)]
  have ln:=Hn (os:=pS done) (l:=sj x inn pl none) P F (by ac_rfl) (x:=inn) (ak CS (by decide))
  cases rs with
  |nil=>
   cases show pl=inn.length from hp
   exact k1 0 [] rfl (by rw[bp];apply .stop (t ln false (decide_eq_false (Int.lt_irrefl _))))
  |cons c r=>
   have fg:pl<inn.length:=eK (cI (cP _)) hp
   have Zy:done.length<=1000:=aa hd (aa (cG fg) CS)
   have vL:To (tT C (aF.frame L' outer A lv) (An aF.body 5)) (sj x inn pl none) (pS done) (some (.v (.bool true))) (pS done):=by
    apply t ln true (decide_eq_true (bI.mpr fg))
   have it:=OK (C:=C) (fr:=aF.frame L' outer A lv) (l:=sj x inn pl none) (os:=pS done) (x:=mk inn) (i:=pl) (c:=c) (av fg (aa CS (by decide))) (by rw[dr];exact uv hs hp)
   have p:=λ(p:Pa)=>cN (m:=1) F (E7 0) (sj x inn pl none) (pS done) (ru (.str (mk [c]))::p)
   have eB:DE=E7 0::DE.drop 1:=by rfl'
   have iI:=vW (c:=c) ye
   have LU:r.length<n:=Nat.lt_of_succ_lt_succ hn
   have sr:r<:+inn:=(mZ c r).trans hs
   by_cases Se:c≠92
   ·have e:vu (n+1) (c::r)=(vu n r).map (c::·):=if_pos Se
    rw[e]at k0 k1
    have b:Runs (hZ C (aF.frame L' outer A lv) DE) 1 (sj x inn pl none) (pS done) (.cont (sj x inn (pl+1) none) (pS (done++[c]))):=eB▸Runs.stop (by
     apply p [tt,ru (.str (mk [c])),rv .none (pS (done++[c]))] it (iI.trans (decide_eq_true Se)) it (dC rfl rfl (a8 1000 (by rw[ae];exact Zy) rfl) (aI (l₂:=[c])).symm)) nofun
    exact ih sr ((bP pl 1 _).trans ((congrArg (pl+·) (bH 1 _)).trans hp)) LU (by rw[af];exact aL hd)
     (λk e l=>k0 (k+1) (by rw[e];rfl) (.next false vL b rfl l)) λk u e l=>k1 (k+1) (c::u) (by rw[e];rfl) (aC done [c] u▸.next false vL b rfl l)
   ·have e:vu (n+1) (c::r)=(Er r).bind λe=>(vu n e.2).map (e.1::·):=if_neg Se
    rw[e]at k0 k1
    have s0:Runs (WS C (aF.frame L' outer A lv) (E7 0)) 1 (sj x inn pl none) (pS done) (.norm (sj x inn pl none) (pS done)):=by
     apply p [ff] it (iI.trans (decide_eq_false Se))
    obtain⟨q,hq⟩:=hs
    cases Decidable.not_not.mp Se
    have EA:q.length=pl:=Nat.add_right_cancel ((af ..).symm.trans ((congrArg List.length hq).trans hp.symm))
    subst EA
    refine Nr (x:=x) (done:=done) P hl F CS Zy hq.symm (λe r=>k0 0 (by rw[e];rfl) (.exc vL (eB▸s0.cons r))) λe JW y he yR r=> ?_
    have ok:=Dd he
    rw[he,bg]at k0 k1
    have b:=eB▸s0.cons r
    have TQ:q.length<JW:=Nat.lt_of_add_lt_add_right (show q.length+e.2.length<JW+e.2.length from eK (Nat.add_lt_add_left (Nat.lt_succ_of_lt ok.2.1) _) (hp.trans yR.symm))
    exact ih (ok.2.2.trans sr) yR (dj ok.2.1 LU) (by rw[af];exact ak hd TQ)
     (λk e l=>k0 (k+1) (by rw[e];rfl) (.next true vL b rfl l)) λk u h l=>k1 (k+1) (e.1::u) (by rw[h];rfl) (aC done [e.1] u▸.next true vL b rfl l)
end
theorem JY(P:PO C K bN bO){L':Addr}{outer:List Env}{A:Around}(F:aG C (aF.frame L' outer A lv)){x:Str}(hx:(L x).length<=1000):To (tT C (aF.frame L' outer A lv) (Im aF.body 1)) [sv (.str x),none,none,none,none,none] []
 (sv (.bool (decide ((L x).length<2\/(L x)[0]?≠some 39\/(L x)[(L x).length-1]?≠some 39)))) []:=by
 have p:=λ(p:Pa)=>qp F (Im aF.body 1) [sv (.str x),none,none,none,none,none] [] (rv (.int (L x).length) []::p)
 have ln:=λl=>g8 (os:=[]) (l:=l) P F (by ac_rfl) (x:=x) (by rw[<-fV];exact ak hx (by decide))
 rw[<-fV]at ln
 by_cases h2:(L x).length<2
 ·rw[decide_eq_true (.inl h2)]
  apply p [tt] (ln _) (decide_eq_true (bI.mpr h2)) true rfl
 ·obtain⟨n,hn⟩:=Nat.exists_eq_add_of_le' (cq h2)
  have e1:((L x).length:Int)-1=((n+1:Nat):Int):=by rw[hn];exact Int.add_sub_cancel ((n+1:Nat):Int) 1
  have e2:(L x).length-1=n+1:=by rw[hn];rfl
  have Zz:=aA (show 0<(L x).length from hn▸cP _)
  have TR:=aA (show n+1<(L x).length from hn▸cU _)
  have n2:decide (((L x).length:Int)<2)=false:=decide_eq_false λq=>h2 (bI.mp q)
  have i0:=λl=>Il (C:=C) (fr:=aF.frame L' outer A lv) (l:=l) (os:=[]) (x:=x) (i:=0) (by decide) (by decide) Zz
  have i1:=λl=>show mR C (aF.frame L' outer A lv) (.v (.str x)) (.v (.int (((L x).length:Int)-1))) l [] _ []from e1▸OK (dj (cU _) (ak (hn▸hx) (by decide))) TR
  rw[e2]
  rw[Zz,TR]
  generalize(L x)[0]=a at*
  generalize(L x)[n+1]=b at*
  by_cases ha:a=39
  ·by_cases hb:b=39
   ·rw[decide_eq_false (by rintro(q|q|q);exact h2 q;exact q (congrArg some ha);exact q (congrArg some hb))]
    apply p [ff,rv (.str (mk [a])) [],ff,ru (.int (L x).length),ru (.str (mk [b])),ff] (ln _) n2 (i0 _) ((vW vt).trans (decide_eq_false λq=>q ha)) (ln _) (i1 _) ((vW vt).trans (decide_eq_false λq=>q hb)) false rfl
   ·rw[decide_eq_true (.inr (.inr λq=>hb (ao q)))]
    apply p [ff,rv (.str (mk [a])) [],ff,ru (.int (L x).length),ru (.str (mk [b])),tt] (ln _) n2 (i0 _) ((vW vt).trans (decide_eq_false λq=>q ha)) (ln _) (i1 _) ((vW vt).trans (decide_eq_true hb)) true rfl
  ·rw[decide_eq_true (.inr (.inl λq=>ha (ao q)))]
   apply p [ff,rv (.str (mk [a])) [],tt] (ln _) n2 (i0 _) ((vW vt).trans (decide_eq_true ha)) true rfl
theorem Sf(t:List Nat):Txt.join (Str.ofString "") (t.map λc=>mk [c])=mk t:=by
 rw[show(t.map λc=>mk [c])=(t.map λc=>[c]).map mk by rw[bU];rfl,show Str.ofString ""=mk []from rfl,uj,lX];congr 1
 induction t with
 |nil=>rfl
 |cons a r ih=>simpa using ih
theorem nO(P:PO C K bN bO)(hl:4<=lv){x:Str}(hx:eU (L x)):Calls C aF lv [.v (.str x)] [] ((gH (L x)).map λt=> .v (.str (mk t))) []:=by
 have oh:=hx.1
 have Io:(L x).length=x.length:=fV x
 have a:=λ{L' outer A} (F:aG C (aF.frame L' outer A lv)) (l:Lo)=>aX (l:=l) (os:=[]) P.G F P.nR (by ac_rfl) (bx hl) (nM P (x:=x) (lv:=2) (by decide)) rfl
 have p:=λ{L' outer A} (F:aG C (aF.frame L' outer A lv)) (p:Pa)=>cu (m:=0) F aF.body [sv (.str x),none,none,none,none,none] [] (rv (.bool (f0 (L x))) []::p)
 have sa:=λ(fr:Fm) l=>d7 (C:=C) (fr:=fr) (l:=l) (os:=[]) (x:=Str.ofString "wrong name in a listing: ") (y:=x) (by rw[show(Str.ofString "wrong name in a listing: ").length=25 by ac_rfl];exact a8 1025 (by exact a6 oh _) rfl)
 cases h:f0 (L x)with
 |true=>
  rw[gH,if_pos h,Option.map_some,f7]
  exact Calls.ret 0 rfl λL outer A F=>by apply p F [tt] (a F _) h
 |false=>
 rw[gH,if_neg (by rw[h];decide)]
 have ut:=λ{L' outer A} (F:aG C (aF.frame L' outer A lv))=>JY P F (x:=x) oh
 by_cases hb:(L x).length<2\/(L x)[0]?≠some 39\/(L x)[(L x).length-1]?≠some 39
 ·rw[if_pos hb]
  rw[decide_eq_true hb]at ut
  exact Calls.exc rfl λL' outer A F=>by apply p F [ff,.x (sv (.bool true)) [],tt,ru (.str (Str.ofString "wrong name in a listing: "++x))] (a F _) h (ut F) rfl (sa _ _) (c8 P F rfl (bx hl))
 ·rw[if_neg hb]
  rw[decide_eq_false hb]at ut
  obtain⟨n,hn⟩:=Nat.exists_eq_add_of_le' (cq λq=>hb (.inl q))
  have CS:Txt.slice x (some 1) (some ((x.length:Int)-1))=mk (((L x).drop 1).take ((L x).length-2)):=by
   have g:=vF (x:=x) (a:=1) (n:=n) (hn▸cP _)
   rw[bH]at g
   rw[<-Io,hn,show(((n+2:Nat):Int)-1)=((n+1:Nat):Int)from Int.add_sub_cancel ((n+1:Nat):Int) 1]
   exact g
  have hI:∀c∈((L x).drop 1).take ((L x).length-2),c∈L x:=λc hc=>List.mem_of_mem_drop (js hc)
  have TS:(((L x).drop 1).take ((L x).length-2)).length<=(L x).length:=aa (nV ..) (by rw[fF];exact Nat.sub_le _ _)
  generalize((L x).drop 1).take ((L x).length-2)=inn at CS hI TS
  have q:=λ{L' outer A} (F:aG C (aF.frame L' outer A lv)) {G:Prop}=>JX (G:=G) (x:=x) (inn:=inn) (done:=[]) (pl:=0) P hl F (aa TS oh) ((L x).length+1) (List.suffix_refl _) (dR _) (gt TS) (aj _)
  have w:=λ{L' outer A o k} (F:aG C (aF.frame L' outer A lv)) (l:ja C (aF.frame L' outer A lv) (An aF.body 5) DE [4] 1 k (sj x inn 0 none) (pS []) o)=>yn (ks:=[4]) (os:=pS []) (l:=sj x inn 0 none) F Fn.top rfl ⟨k,l⟩
  have pre:=λ{L' outer A} (F:aG C (aF.frame L' outer A lv)) (r:Pa)=>p F ([ff,.x (sv (.bool false)) [],ff,ru (.int x.length),ru (.str (mk inn))]++r)
  have cl:=λ{L' outer A} (F:aG C (aF.frame L' outer A lv)) l=>g8 (os:=[]) (l:=l) P F (by ac_rfl) (x:=x) (by exact ak oh (by decide))
  cases hu:vu ((L x).length+1) inn with
  |none=>
   refine Calls.exc rfl λL' outer A F=>q F (λk _ l=> ?_) λk t e=>absurd (hu.symm.trans e) nofun
   apply pre F [.o .exc] (a F _) h (ut F) rfl (cl F _) (As (a8 1000 (by exact oh) rfl) CS) (w F l)
  |some t=>
   obtain⟨h1,h2⟩:=De hu
   have ht:eU (L (mk t)):=by
    rw[dr]
    refine⟨aa h1 (aa TS oh),λc hc=> ?_⟩
    rcases h2 c hc with q|q
    ·exact hx.2 c (hI c q)
    ·exact ak q (by decide)
   have Pq:t.length<=1000:=by have:=ht.1;rwa[dr]at this
   have qn:=λ{L' outer A} (F:aG C (aF.frame L' outer A lv)) (l:Lo)=>aX (l:=l) (os:=[.list (t.map λc=> .str (mk [c]))]) P.G F P.lD (by ac_rfl) (bx hl) (lA P (lv:=3) (by decide) ht) rfl
   rw[dr]at qn
   have jn:=λ(fr:Fm) l=>yx (C:=C) (fr:=fr) (l:=l) (os:=[.list (t.map λc=> .str (mk [c]))]) (os1:=[.list (t.map λc=> .str (mk [c]))]) (k:=0) (xs:=t.map λc=>mk [c]) (s:=Str.ofString "") (by rw[bU];rfl) (lY 1 (λy hy=>by obtain⟨z,hz,rfl⟩:=bn.mp hy;rw[gy];exact aj 1) (by rw[show(Str.ofString "").length=0 from rfl,ae];exact a8 1000 (aa (aR (Nat.mul_one _)) Pq) rfl)) (Sf t)
   have hq:decide (mk (di t)=x)=decide (di t=L x):=by rw[decide_eq_decide,<-f7 x,u0,dr]
   by_cases hw:di t=L x
   ·rw[bg,if_pos hw]
    refine Calls.ret (os2:=pS t) 0 rfl λL' outer A F=>q F (λk e=>absurd (hu.symm.trans e) nofun) λk u e l=> ?_
    cases ao (hu.symm.trans e)
    apply pre F [.o (.norm [sv (.str x),sv (.str (mk inn)),some (.o 0),sv (.int inn.length),none,none] [.list (t.map λc=> .str (mk [c]))]),rv (.str (mk t)) [.list (t.map λc=> .str (mk [c]))],rv (.str (mk (di t))) [.list (t.map λc=> .str (mk [c]))],ff] (a F _) h (ut F) rfl (cl F _) (As (a8 1000 (by exact oh) rfl) CS) (w F l) (jn _ _) (qn F _) (nt (hq.trans (decide_eq_true hw)))
   ·rw[bg,if_neg hw]
    refine Calls.exc rfl λL' outer A F=>q F (λk e=>absurd (hu.symm.trans e) nofun) λk u e l=> ?_
    cases ao (hu.symm.trans e)
    apply pre F [.o (.norm [sv (.str x),sv (.str (mk inn)),some (.o 0),sv (.int inn.length),none,none] [.list (t.map λc=> .str (mk [c]))]),rv (.str (mk t)) [.list (t.map λc=> .str (mk [c]))],rv (.str (mk (di t))) [.list (t.map λc=> .str (mk [c]))],tt,rv (.str (Str.ofString "wrong name in a listing: "++x)) [.list (t.map λc=> .str (mk [c]))]] (a F _) h (ut F) rfl (cl F _) (As (a8 1000 (by exact oh) rfl) CS) (w F l) (jn _ _) (qn F _) (nf (hq.trans (decide_eq_false hw))) (d7 (by rw[show(Str.ofString "wrong name in a listing: ").length=25 by ac_rfl];exact a8 1025 (by exact a6 oh _) rfl)) (c8 P F rfl (bx hl))
end
end
section
open PySem PySem.W PySem.Calls PyProof.Rows PySem.SeqAt PySem.NumText PySem.W.KIN PySem.StrLaws PySem.Builtin.Str
section
variable{C:Ctx}{fr:Fm}{l:Lo}{os os' os2:List Ob}{bB:Option EV}{cs:List EV}{K:Frag}{bN bO:ClassData}{lv:Nat}
theorem JZ(P:PO C K bN bO){L':Addr}{outer:List Env}{A:Around}(F:aG C (bK.frame L' outer A lv)){x:Str}:To (tT C (bK.frame L' outer A lv) (Im bK.body 0)) [sv (.str x),none,none,none,none] []
 (sv (.bool ((L x).isEmpty||(decide ((L x)[0]?=some 48)&& !decide (L x=[48]))))) []:=by
 have p:=λ(p:Pa)=>qp F (Im bK.body 0) [sv (.str x),none,none,none,none] [] p
 cases hx:L x with
 |nil=>
  obtain rfl:x=Str.ofString "":=rF (by rw[hx];rfl)
  apply p [tt] rfl true rfl
 |cons c cs=>
  have iI:decide (x=Str.ofString "")=false:=decide_eq_false λe=>by rw[e]at hx;cases hx
  have i0:=λl=>Il (C:=C) (fr:=bK.frame L' outer A lv) (l:=l) (os:=[]) (x:=x) (i:=0) (c:=c) (by decide) (by decide) (by rw[hx];rfl)
  have e1:decide (x=Str.ofString "0")=decide (c::cs=[48]):=by rw[decide_eq_decide,<-hx];exact⟨λq=>by rw[q];exact BB,λq=>rF (by rw[q,BB])⟩
  by_cases h1:c=48
  ·have n1:=(Ez (c:=c) BB).trans (decide_eq_true h1)
   rw[show decide ((c::cs)[0]?=some 48)=true from decide_eq_true (congrArg some h1)]
   cases h2:decide (c::cs=[48])with
   |true=>apply p [ff,rv (.str (mk [c])) [],tt,ff,ff] iI (i0 _) n1 (nt (e1.trans h2)) rfl false rfl
   |false=>apply p [ff,rv (.str (mk [c])) [],tt,tt,tt] iI (i0 _) n1 (nf (e1.trans h2)) rfl true rfl
  ·have n1:=(Ez (c:=c) BB).trans (decide_eq_false h1)
   rw[show decide ((c::cs)[0]?=some 48)=false from decide_eq_false λq=>h1 (ao q)]
   apply p [ff,rv (.str (mk [c])) [],ff,ff] iI (i0 _) n1 rfl false rfl
theorem DF(P:PO C K bN bO)(hl:2<=lv){L':Addr}{outer:List Env}{A:Around}(F:aG C (bK.frame L' outer A lv)){x:Str}(hx:27+x.length<=sizeLine):∀cs:List Nat,
 Loop C (bK.frame L' outer A lv) (jb bK.body 1) [1] 0 1 (cs.map λc=> .str ⟨#[c]⟩) [sv (.str x),none,none,none,none] [] (bif cs.all kG then .norm [sv (.str x),none,none,none,none] []else .exc)
 |[]=> .nil
 |c::cs=>by
  have l0:=B0 (c:=c) BB
  have l9:=B3 (c:=c) RK
  have p:=λ(p:Pa)=>cu (m:=0) F (jb bK.body 1) [sv (.str x),sv (.str (mk [c])),none,none,none] [] p
  cases h1:decide (48<=c)with
  |false=>
   rw[dN,show kG c=false from congrArg (·&&_) h1]
   apply .exc (p [ff,tt,rv (.str (Str.ofString "wrong number in a listing: "++x)) []] (l0.trans h1) rfl (d7 hx) (c8 P F rfl (bx hl)))
  |true=>cases h2:decide (c<=57)with
   |true=>
    rw[dN,show kG c=true from(congr (congrArg and h1) h2),nU]
    with_unfolding_all have h:=p [tt,ff] (l0.trans h1) (nt (l9.trans h2))
    exact .next true h rfl (DF P hl F hx cs)
   |false=>
    rw[dN,show kG c=false from(congr (congrArg and h1) h2)]
    apply .exc (p [tt,tt,rv (.str (Str.ofString "wrong number in a listing: "++x)) []] (l0.trans h1) (nf (l9.trans h2)) (d7 hx) (c8 P F rfl (bx hl)))
theorem Xn{n:Nat}(h:n<=100):To (t2 C fr (binaryOp .Pow) (.v (.int 10)) (.v (.int n))) l os (sv (.int (10^n:Nat))) os:=To.pure λ_ _ _ _ _ q=>ze (aE n) (cF.mpr h) (by rw[bJ,show((10:Int)^n)=((10^n:Nat):Int) by rw[Int.natCast_pow];rfl];exact q)
theorem Nt(P:PO C K bN bO)(F:aG C fr)(hk:fr.env.kindOf "int"=some .globalImplicit){x:List Nat}(hd:AllDigits x)(h0:x≠[])(hl:x.length<=640):dO C fr "int" [.v (.str (mk x))] l os (sv (.int (digitsVal x:Nat))) os:=by
 have e:(mk x).cps.toList=x:=dr x
 have:=intText_digits (x:=mk x) (by rw[e];exact hd) (by rw[e];exact h0) (by rw[gy];exact aa hl (by decide))
 rw[e]at this
 exact Ey P F hk this (by rw[gy];exact hl)
theorem Av(P:PO C K bN bO){L':Addr}{outer:List Env}{A:Around}(F:aG C (bK.frame L' outer A lv)){x:Str}(hx:(L x).length<=1000)(J0:AllDigits (L x)):∀m j,(j+m)*18<(L x).length+18->
 Loop C (bK.frame L' outer A lv) (jb bK.body 3) [1,3,4] 0 3 ((List.range' j m).map λi=> .int (i*18:Nat)) [sv (.str x),none,sv (.int (digitsVal ((L x).take (j*18)):Nat)),none,none] []
  (.norm [sv (.str x),none,sv (.int (digitsVal ((L x).take ((j+m)*18)):Nat)),none,none] [])
 |0,j,_=> .nil
 |m+1,j,h=>by
  have ih:=Av P F hx J0 m (j+1) (ak (aR (congrArg (·*18) (dc j 1 m))) h)
  have hj:j*18<(L x).length:=ak (eY 18 (ax j m)) (Nat.lt_of_add_lt_add_right (ak (aR (jA (j+m) 18).symm) h))
  have E8:=vF (x:=x) (n:=18) (cG hj)
  have EA:0<(((L x).drop (j*18)).take 18).length/\(((L x).drop (j*18)).take 18).length<=18:=⟨by rw[fG,fF];exact Nat.lt_min.mpr ⟨by decide,Nat.sub_pos_of_lt hj⟩,List.length_take_le ..⟩
  have hpd:AllDigits (((L x).drop (j*18)).take 18):=λc hc=>J0 c (List.mem_of_mem_drop (js hc))
  have Xo:digitsVal ((L x).take ((j+1)*18))=digitsVal ((L x).take (j*18))*10^(((L x).drop (j*18)).take 18).length+digitsVal (((L x).drop (j*18)).take 18):=by
   rw[<-g7,<-List.take_add,jA]
  rw[Xo,bP j 1 m,bH 1 m]at ih
  generalize((L x).drop (j*18)).take 18=pc at*
  have h18:10^pc.length<2^64:=ak (nW (by decide) EA.2) (by decide)
  generalize digitsVal ((L x).take (j*18))=v at*
  with_unfolding_all have b:=cu (m:=0) F (jb bK.body 3) [sv (.str x),none,sv (.int v),sv (.int (j*18:Nat)),none] [] [ru (.str (mk pc)),ru (.int pc.length),ru (.int (10^pc.length:Nat)),ru (.int (v*10^pc.length:Nat)),ru (.int (digitsVal pc:Nat))] (As (a8 1000 (by exact hx) rfl) E8) (Hn P F rfl (by exact ak EA.2 (by decide))) (Xn (by exact aa EA.2 (by decide))) (Nq h18) (Nt P F rfl hpd (by rintro rfl;exact absurd EA.1 (by decide)) (by exact aa EA.2 (by decide)))
  apply .next true b rfl ih
theorem DG:∀n<1001,(Builtin.Range.rangeSize 0 (n:Nat) 18=((n+17)/18:Nat)/\Builtin.Range.small 0 (n:Nat) 18=true)/\n<=(0+(n+17)/18)*18/\(0+(n+17)/18)*18<n+18:=by decide+kernel
theorem Ho(F:aG C fr)(Tp:hY fr){x:Str}{body:List Stmt}{ks:List Nat}{i n:Nat}{o:oj}(hn:n<1001)(hi:fi x fr.vn=some i)(hk:Ab os.length (fB ks l)=true)
 (hL:Loop C fr body ks os.length i ((List.range' 0 ((n+17)/18)).map λi=> .int (i*18:Nat)) (fB ks l) os o):r7 C fr x body (.v (.xP 0 n 18)) l os o:=
 GL F Tp (λ_=>y9 F ((n+17)/18) (DG n hn).1.1 (DG n hn).1.2) hi hk (by
  unfold sM;rw[List.range_eq_range',show(λi:Nat=>PV.int (0+(i:Nat)*18))=λi:Nat=> .int (i*18:Nat)from funext λi=>by rw[iw];rfl];exact hL)
theorem d8(P:PO C K bN bO)(hl:2<=lv){x:Str}(hx:(L x).length<=1000):Calls C bK lv [.v (.str x)] [] ((bz (L x)).map λv:Nat=> .v (.int v)) []:=by
 have Io:(L x).length=x.length:=fV x
 have J1:27+x.length<=sizeLine:=a8 1027 (by exact a6 hx _) rfl
 have t:=λ{L' outer A} (F:aG C (bK.frame L' outer A lv))=>JZ P F (x:=x)
 have q:=λ{L' outer A} (F:aG C (bK.frame L' outer A lv))=>Hd F Fn.top (os:=[]) (l:=[sv (.str x),none,none,none,none]) (ks:=[1]) (x:="sign") (i:=1) (s:=x) (by ac_rfl) rfl (DF P hl F J1 (L x))
 have p:=λ{L' outer A} (F:aG C (bK.frame L' outer A lv)) (b:Bool) (p:Pa)=>cu (m:=0) F bK.body [sv (.str x),none,none,none,none] [] (.x (sv (.bool b)) []::p)
 unfold bz
 cases hb:(L x).isEmpty||(decide ((L x)[0]?=some 48)&& !decide (L x=[48]))with
 |true=>
  rw[hb]at t
  exact Calls.exc rfl λL' outer A F=>by apply p F true [tt,rv (.str (Str.ofString "wrong number in a listing: "++x)) []] (t F) rfl (d7 J1) (c8 P F rfl (bx hl))
 |false=>
  rw[hb]at t
  cases ha:(L x).all kG with
  |false=>
   rw[ha]at q
   exact Calls.exc rfl λL' outer A F=>by apply p F false [ff,.o .exc] (t F) rfl (q F)
  |true=>
   rw[ha]at q
   have J0:AllDigits (L x):=λc hc=>by
    have:=aB.mp ha c hc
    unfold kG at this;simpa using this
   have q2:=λ{L' outer A} (F:aG C (bK.frame L' outer A lv))=>Ho F Fn.top (os:=[]) (n:=(L x).length) (l:=[sv (.str x),none,sv (.int (0:Nat)),none,none]) (ks:=[1,3,4]) (x:="place") (i:=3) (gt hx) (by ac_rfl) rfl (Av P F hx J0 (((L x).length+17)/18) 0 (DG _ (gt hx)).2.2)
   rw[List.take_of_length_le ((DG _ (gt hx)).2.1)]at q2
   exact Calls.ret 0 rfl λL' outer A F=>by apply p F false [ff,.o (.norm [sv (.str x),none,none,none,none] []),ru (.int (L x).length),ru (.xP 0 (L x).length 18),.o (.norm [sv (.str x),none,sv (.int (digitsVal (L x):Nat)),none,none] [])] (t F) rfl (q F) (Io▸g8 P F rfl (by exact ak hx (by decide))) (He P F rfl (by decide) (by decide)) (q2 F)
end
end
section
open PySem PySem.W PySem.Calls PyProof.Rows PySem.SeqAt PySem.NumText PySem.W.KIN
section
variable{C:Ctx}{fr:Fm}{l:Lo}{os os' os2:List Ob}{bB:Option EV}{cs:List EV}{K:Frag}{bN bO:ClassData}{lv:Nat}
theorem fY.book{B:ar}{ps:Nat->Pl}{σ F:St}(r:fY [.book B] ps σ F):gI σ (ps 0).ba B:=by
 have a:=λc hc=>r.at_ 0 (.book B) rfl c hc
 have n:[(ps 0).a,(ps 0).s 0,(ps 0).s 1,(ps 0).s 2,(ps 0).s 3,(ps 0).s 4].Nodup:=r.nd 0 (.book B) rfl
 simp only[dy,am,not_or]at n
 exact⟨a _ (.head _),a _ (.tail _ (.head _)),a _ (.tail _ (.tail _ (.head _))),a _ (.tail _ (.tail _ (.tail _ (.head _)))),a _ (.tail _ (.tail _ (.tail _ (.tail _ (.head _))))),a _ (.tail _ (.tail _ (.tail _ (.tail _ (.tail _ (.head _)))))),n.2.2.1.2.1,n.2.1.2.1⟩
theorem mj{Fn:Mine.Fn}{B B':ar}{vs:List PV}{r:PV}(h:∀σ a,gI σ a B->∀(Q:PV->St->Prop) (X:Prop),Q r (cL σ a B')->Spec C Fn lv (.loc a.x::vs) σ Q X):Calls C Fn lv (.o 0::vs.map .v) [.book B] (sv r) [.book B']:= .mk λas σ F ⟨ps,rp,ha⟩ Q X k=>by
 have hB:=rp.book
 have e:(EV.o 0::vs.map EV.v).map (·.at as)=.loc (ps 0).ba.x::vs:=by
  rw[aP,bU,show((λc:EV=>c.at as)∘EV.v)=id from rfl,List.map_id]
  show PV.loc (as 0)::vs=_
  rw[<-ha 0 (Nat.zero_lt_one)];rfl
 rw[e]
 refine h σ (ps 0).ba hB Q X (k as _ ⟨λ_ _=>rfl,⟨ps,rp.turn (k:=0) (o:= .book B) (o':= .book B') rfl (lJ _) ?_ λb hb=> ?_,ha⟩,trivial,aj _⟩)
 ·have OL:=hB.put B'
  intro c hc
  change c∈[((ps 0).a,dn.inst 155 ((ps 0).s 0)),((ps 0).s 0,.cg (i9 (ps 0).ba)),((ps 0).s 1,.list (B'.texts.map .str)),((ps 0).s 2,.cg (r4 B'.texts)),((ps 0).s 3,.list (B'.bq.map k7)),((ps 0).s 4,.hV (qF B'.bq))]at hc
  simp only[am,aU,or_false]at hc
  rcases hc with rfl|rfl|rfl|rfl|rfl|rfl
  ·exact OL.hx
  ·exact OL.hd
  ·exact OL.ht
  ·exact OL.ha
  ·exact OL.hf
  ·exact OL.hn
 ·change b∉[(ps 0).a,(ps 0).s 0,(ps 0).s 1,(ps 0).s 2,(ps 0).s 3,(ps 0).s 4]at hb
  simp only[am,not_or]at hb
  exact dB _ _ hb.2.2.1 hb.2.2.2.1 hb.2.2.2.2.1 hb.2.2.2.2.2.1
theorem DH{o:Expr}{ap pos:Pos}{es:List Expr}(h:ur o ap pos es=true)(name:Str)(env:Env):∃pl,eval (.Call (.Attribute o name ap) es [] pos) env=(do
 let ov<-eval o env
 standAt ap.atName
 let(f,first)<-holding [ov] (getMethod ov name pl)
 callWith pos f first (backTo pos (starEach es env)) []):=by
 obtain⟨k1,k2⟩:=au.mp h
 obtain⟨k2,k3⟩:=au.mp k2
 obtain⟨k3,k4⟩:=au.mp k3
 refine⟨do return (<-importBound o env).getD true,?_⟩
 have Sg:methodCallForm (es.length+([]:List Keyword).length) (backTo pos (starEach es env)) (backToKw pos (keywordEach [] env))=true:=vP k1 k2 pos env
 rw[arm_eval_Call,GR k3]
 unfold methodCall calleeOf methodCallPos
 rw[Sg,k4]
 rfl
theorem so(P:PO C K bN bO)(F:aG C fr){Fn:Mine.Fn}(H:FnAt C Fn){name:Str}(hf:findIn K (.ref 155) name=some (some (.ref Fn.f)))(ht:typeIn K (.ref Fn.f)=some (.type "function"))(hl:lv<fr.lvl){k:Nat}{B1 B B':ar}{r:PV}{vs:List PV}{os1:List Ob}
 (h1:os1[k]?=some (.book B1)) (hb:os[k]?=some (.book B)) (hn:∀a,bT (i9 a) name=none) (hc:Calls C Fn lv (.o 0::vs.map .v) [.book B] (sv r) [.book B']) (hv:vs.length+1=Fn.np) (Bb:os.all Ob.live=true):gR C fr name (.o k) os1 (vs.map .v) l os (sv r) (os.set k (.book B')):=λo ap pos es sG hs h2 h3=>by
 refine .mk λas ρ σ F0 S Q X e=>jg P.G F H P.hX P.oS hf ht hl (h2.go as ρ σ F0 S _ _ λcD cQ v1=> ?_) (fN (au.mp hs).1 _ _) (DH hs name)
 obtain⟨ps,rp,ha⟩:=v1.s.r
 have fg:=(an.mp h1).1
 have c1:=rp.at_ k _ h1 _ (.head _)
 have c2:=rp.at_ k _ h1 _ (.tail _ (.head _))
 refine⟨cD k,_,_,rfl,by rw[<-ha k fg];exact c1,c2,hn _,h3.go cD ρ cQ F0 v1.s _ _ λiW hG v2=>⟨by rw[ae,ae];exact hv,?_⟩⟩
 have Xp:=(an.mp hb).1
 have hs:qK os [k]=[.book B]:=by show[os.getD k .gone]=_;rw[de,hb];rfl
 have K4:Calls C Fn lv (.o 0::vs.map .v) (qK os [k]) (sv r) [.book B']:=hs▸hc
 have:=K4.at_ (m:=[k]) (dy.mpr ⟨aU,dP⟩) (λj hj=>by rw[aq.mp hj];exact Xp) (λq hq=>aB.mp Bb q hq) (aj 1) v2.s (Q:=Q) (X:=X) (by
  have:=e.after v1|>.wj v2
  rwa[show r8 os [k] [.book B']=os.set k (.book B')from bp _])
 rw[aP,aP]at this
 rw[show(vs.map EV.v).map (EV.Cv (rn [k]))=vs.map .v by rw[bU];rfl]at this
 rw[<-v2.a k fg]
 exact this
theorem Nu(P:PO C K bN bO){B:ar}{i:Nat}{t:Str}(hi:B.texts[i]?=some t)(hz:i<2^62):Calls C gB lv [.o 0,.v (.int i)] [.book B] (sv (.str t)) [.book B]:=mj (vs:=[.int i]) λσ a hB Q X q=>vx P hB hi hz (hB.same▸q)
theorem Nv(P:PO C K bN bO){B:ar}{i:Nat}{f:Nat×Nat}(hi:B.bq[i]?=some f)(hz:i<2^62):Calls C gC lv [.o 0,.v (.int i)] [.book B] (sv (.int f.1)) [.book B]:=mj (vs:=[.int i]) λσ a hB Q X q=>vy P hB hi hz (hB.same▸q)
theorem J2(P:PO C K bN bO){B:ar}{i:Nat}{f:Nat×Nat}(hi:B.bq[i]?=some f)(hz:i<2^62):Calls C fW lv [.o 0,.v (.int i)] [.book B] (sv (.int f.2)) [.book B]:=mj (vs:=[.int i]) λσ a hB Q X q=>ub P hB hi hz (hB.same▸q)
theorem Nw(P:PO C K bN bO){B:ar}{t:Str}(hz:B.texts.length<=1000000):Calls C gA lv [.o 0,.v (.str t)] [.book B] (sv (.int (ix t (B.atom t).texts:Nat))) [.book (B.atom t)]:=mj (vs:=[.str t]) λσ a hB Q X q=>kA P hB hz q
theorem ED(P:PO C K bN bO){B:ar}{f:Nat×Nat}(hz:B.bq.length<=1000000):Calls C e8 lv [.o 0,.v (.int f.1),.v (.int f.2)] [.book B] (sv (.int (ix f (B.eR f).bq:Nat))) [.book (B.eR f)]:=mj (vs:=[.int f.1,.int f.2]) λσ a hB Q X q=>k9 P hB hz q
end
section
variable{C:Ctx}{fr:Fm}{l:Lo}{os os' os2:List Ob}{bB:Option EV}{cs:List EV}{K:Frag}{bN bO:ClassData}{lv:Nat}{B:ar}
theorem Hp(P:PO C K bN bO)(F:aG C fr)(hl:0<fr.lvl){k i:Nat}{t:Str}(hb:os[k]?=some (.book B))(hi:B.texts[i]?=some t)(hz:i<2^62)(hv:os.all Ob.live=true):gR C fr "text" (.o k) os [.v (.int i)] l os (sv (.str t)) (os.set k (.book B)):=
 so (vs:=[.int i]) P F P.oJ P.C3 P.C4 hl hb hb (λa=>by ac_rfl) (Nu P hi hz) rfl hv
theorem Ny(P:PO C K bN bO)(F:aG C fr)(hl:0<fr.lvl){k i:Nat}{f:Nat×Nat}(hb:os[k]?=some (.book B))(hi:B.bq[i]?=some f)(hz:i<2^62)(hv:os.all Ob.live=true):gR C fr "name" (.o k) os [.v (.int i)] l os (sv (.int f.1)) (os.set k (.book B)):=
 so (vs:=[.int i]) P F P.oM P.C7 P.C8 hl hb hb (λa=>by ac_rfl) (Nv P hi hz) rfl hv
theorem J3(P:PO C K bN bO)(F:aG C fr)(hl:0<fr.lvl){k i:Nat}{f:Nat×Nat}(hb:os[k]?=some (.book B))(hi:B.bq[i]?=some f)(hz:i<2^62)(hv:os.all Ob.live=true):gR C fr "arity" (.o k) os [.v (.int i)] l os (sv (.int f.2)) (os.set k (.book B)):=
 so (vs:=[.int i]) P F P.nc P.zR P.zS hl hb hb (λa=>by ac_rfl) (J2 P hi hz) rfl hv
theorem B7(P:PO C K bN bO)(F:aG C fr)(hl:0<fr.lvl){k:Nat}{t:Str}{os1:List Ob}(h1:os1[k]?=some (.book B))(hb:os[k]?=some (.book B))(hz:B.texts.length<=1000000)(hv:os.all Ob.live=true):gR C fr "atom" (.o k) os1 [.v (.str t)] l os (sv (.int (ix t (B.atom t).texts:Nat))) (os.set k (.book (B.atom t))):=
 so (vs:=[.str t]) P F P.gF P.rY P.rZ hl h1 hb (λa=>by ac_rfl) (Nw P hz) rfl hv
theorem EE(P:PO C K bN bO)(F:aG C fr)(hl:0<fr.lvl){k:Nat}{f:Nat×Nat}{os1:List Ob}{B1:ar}(h1:os1[k]?=some (.book B1))(hb:os[k]?=some (.book B))(hz:B.bq.length<=1000000)(hv:os.all Ob.live=true):gR C fr "functor" (.o k) os1 [.v (.int f.1),.v (.int f.2)] l os (sv (.int (ix f (B.eR f).bq:Nat))) (os.set k (.book (B.eR f))):=
 so (vs:=[.int f.1,.int f.2]) P F P.gd P.mI P.mJ hl h1 hb (λa=>by ac_rfl) (ED P hz) rfl hv
theorem nP(P:PO C K bN bO)(hl:4<=lv){k n:Int}(hc:la B k n):Calls C eZ lv [.o 0,.v (.tup [.int k,.int n])] [.book B] (sv (.str (mk (jO B k n)))) [.book B]:=by
 have i0:=λ(fr:Fm) l=>BY (C:=C) (fr:=fr) (l:=l) (os:=[.book B]) (xs:=[.int k,.int n]) (i:=0) (by decide) (by decide) rfl
 have i1:=λ(fr:Fm) l=>BY (C:=C) (fr:=fr) (l:=l) (os:=[.book B]) (xs:=[.int k,.int n]) (i:=1) (by decide) (by decide) rfl
 rcases hc with⟨rfl,hn⟩|⟨rfl,i,t,rfl,hi,ht,Jt⟩
 ·rw[jO,if_pos rfl,f7]
  exact Calls.ret (os2:=[.book B]) 1 rfl λL' outer A F=>by apply cu F eZ.body [some (.o 0),sv (.tup [.int 5,.int n])] [.book B] [ru (.int 5),ru (.int 5),tt,ru (.int n),ru (.str (cm n))] (i0 _ _) (vV P F rfl) rfl (i1 _ _) (aX P.G F P.fm rfl (bx hl) (fj P (lv:=0) hn) rfl)
 ·have e:jO B 4 (i:Nat)=di (L t):=by unfold jO jo;rw[if_neg (by decide)];simp only[bJ,ht,jB]
  rw[e]
  exact Calls.ret (os2:=[.book B]) 1 rfl λL' outer A F=>by apply cu F eZ.body [some (.o 0),sv (.tup [.int 4,.int i])] [.book B] [ru (.int 4),ru (.int 5),ff,ru (.int i),ru (.str t),ru (.str (mk (di (L t))))] (i0 _ _) (vV P F rfl) rfl (i1 _ _) (Hp P F (bx hl) rfl ht hi rfl) (aX P.G F P.lD rfl (bx hl) (lA P (lv:=3) (by decide) Jt) rfl)
theorem pe(P:PO C K bN bO)(hl:4<=lv){n:Int}(hc:lb B n):Calls C gD lv [.o 0,.v (.int n)] [.book B] (sv (.str (mk (i7 B n)))) [.book B]:=by
 obtain⟨i,f,t,rfl,hi,hf,hf1,ht,Jt,hn⟩:=hc
 have e:i7 B (i:Nat)=(di (L t)++[47])++L (cm (f.2:Nat)):=by unfold i7 jo;simp only[bJ,hf,ht,jB,aC];rfl
 have l1:=qG Jt
 have l2:=gP hn
 have e2:Str.ofString "/"=mk [47]:=by rw[<-f7 (Str.ofString "/")];with_unfolding_all rfl
 have s1:=λ(fr:Fm) l=>nN (C:=C) (fr:=fr) (l:=l) (os:=[.book B]) (a:=di (L t)) (b:=[47]) (a8 11003 (by rw[aS];exact ak l1 (by decide)) rfl)
 have s2:=λ(fr:Fm) l=>nN (C:=C) (fr:=fr) (l:=l) (os:=[.book B]) (a:=di (L t)++[47]) (b:=L (cm (f.2:Nat))) (a8 13000 (by rw[af,aS];exact n8 [.le (.v 0) (.n 11002),.le (.v 1) (.n 1900)] (.le (.a (.a (.v 0) (.n 1)) (.v 1)) (.n 13000)) [1,1] (Eq.refl true) l1 l2) rfl)
 rw[<-e2]at s1
 rw[f7]at s2
 rw[e]
 exact Calls.ret (os2:=[.book B]) 1 rfl λL' outer A F=>by
  apply cu F gD.body [some (.o 0),sv (.int i)] [.book B] [ru (.int f.1),ru (.str t),ru (.str (mk (di (L t)))),ru (.str (mk (di (L t)++[47]))),ru (.int f.2),ru (.str (cm (f.2:Nat))),ru (.str (mk ((di (L t)++[47])++L (cm (f.2:Nat)))))]
   (Ny P F (bx hl) rfl hf hi rfl) (Hp P F (bx hl) rfl ht hf1 rfl) (aX P.G F P.lD rfl (bx hl) (lA P (lv:=3) (by decide) Jt) rfl) (s1 _ _) (J3 P F (bx hl) rfl hf hi rfl) (aX P.G F P.fm rfl (bx hl) (fj P (lv:=0) hn) rfl) (s2 _ _)
theorem Aw(P:PO C K bN bO)(hl:5<=lv){L':Addr}{outer:List Env}{A:Around}(F:aG C (bL.frame L' outer A lv)){t:List (List Int×Int)}:∀(kvs:List ((Int×Int)×Int)) (done:List (List Nat)),(∀p∈kvs,bT t [p.1.1,p.1.2]=some p.2/\la B p.1.1 p.1.2/\eT p.2)->done.length+kvs.length<=2000->
 Loop C (bL.frame L' outer A lv) (jb bL.body 1) [4,5] 2 4 ((qE kvs).map λp=>lU p.1) [some (.o 0),sv (.eg t),sv (.str "T"),some (.o 1),none,none] [.book B,.list (aN done)]
  (.norm [some (.o 0),sv (.eg t),sv (.str "T"),some (.o 1),none,none] [.book B,.list (aN (done++kvs.map (vD B)))])
 |[],done,_,_=>by rw[gr,bp];exact .nil
 |((k,n),v)::kvs,done,h,hd=>by
  obtain⟨FV,hc,hv⟩:=h _ (aJ ..)
  have l1:(jO B k n).length<=11002:=vB hc
  have l2:(L (cm v)).length<=1900:=gP hv
  rw[ay]at hd
  have ih:=Aw P hl F kvs (done++[vD B ((k,n),v)]) (λp hp=>h p (aM _ hp)) (by rw[af,aS];exact n8 [.le (.a (.v 0) (.a (.v 1) (.n 1))) (.n 2000)] (.le (.a (.a (.v 0) (.n 1)) (.v 1)) (.n 2000)) [1] (Eq.refl true) hd)
  have e2:Str.ofString ":"=mk [58]:=by rw[<-f7 (Str.ofString ":"),ul]
  have s1:=λl=>nN (C:=C) (fr:=bL.frame L' outer A lv) (l:=l) (os:=[.book B,.list (aN done)]) (a:=jO B k n) (b:=[58]) (a8 11003 (by rw[aS];exact ak l1 (by decide)) rfl)
  have s2:=λl=>nN (C:=C) (fr:=bL.frame L' outer A lv) (l:=l) (os:=[.book B,.list (aN done)]) (a:=jO B k n++[58]) (b:=L (cm v)) (a8 13000 (by rw[af,aS];exact n8 [.le (.v 0) (.n 11002),.le (.v 1) (.n 1900)] (.le (.a (.a (.v 0) (.n 1)) (.v 1)) (.n 13000)) [1,1] (Eq.refl true) l1 l2) rfl)
  rw[<-e2]at s1
  rw[f7]at s2
  have hsz:(aN done).length<=sizeLine:=a8 2000 (by rw[ae];exact aa (ax _ _) hd) rfl
  rw[aC,show[vD B ((k,n),v)]++kvs.map (vD B)=(((k,n),v)::kvs).map (vD B)from rfl,show aN (done++[vD B ((k,n),v)])=aN done++[.str (mk ((jO B k n++[58])++L (cm v)))] by rw[aN,aI,aC];rfl]at ih
  with_unfolding_all have b:=cu (m:=2) F (jb bL.body 1) [some (.o 0),sv (.eg t),sv (.str "T"),some (.o 1),sv (.tup [.int k,.int n]),none] [.book B,.list (aN done)] [tt,ru (.str (mk (jO B k n))),ru (.str (mk (jO B k n++[58]))),ru (.int v),ru (.str (cm v)),ru (.str (mk ((jO B k n++[58])++L (cm v)))),rv .none [.book B,.list (aN done++[.str (mk ((jO B k n++[58])++L (cm v)))])]] rfl (cR P.G F P.nS rfl (bx hl) [0] (nP P (lv:=4) (by decide) hc) rfl rfl rfl rfl rfl) (s1 _) (Hj F FV) (aX P.G F P.fm rfl (bx hl) (fj P (lv:=0) hv) rfl) (s2 _) (iX rfl rfl hsz)
  exact .next true b rfl ih
theorem Ax(P:PO C K bN bO)(hl:5<=lv){L':Addr}{outer:List Env}{A:Around}(F:aG C (bL.frame L' outer A lv)){t:List (Int×Int)}:∀(kvs:List (Int×Int)) (done:List (List Nat)),(∀p∈kvs,bT t p.1=some p.2/\lb B p.1/\eT p.2)->done.length+kvs.length<=2000->
 Loop C (bL.frame L' outer A lv) (jb bL.body 1) [4,5] 2 4 (kvs.map λp=> .int p.1) [some (.o 0),sv (.tabI t),sv (.str "U"),some (.o 1),none,none] [.book B,.list (aN done)]
  (.norm [some (.o 0),sv (.tabI t),sv (.str "U"),some (.o 1),none,none] [.book B,.list (aN (done++kvs.map (vE B)))])
 |[],done,_,_=>by rw[gr,gr,bp];exact .nil
 |(k,v)::kvs,done,h,hd=>by
  obtain⟨FV,hc,hv⟩:=h _ (aJ ..)
  have l1:(i7 B k).length<=13000:=vC hc
  have l2:(L (cm v)).length<=1900:=gP hv
  rw[ay]at hd
  have ih:=Ax P hl F kvs (done++[vE B (k,v)]) (λp hp=>h p (aM _ hp)) (by rw[af,aS];exact n8 [.le (.a (.v 0) (.a (.v 1) (.n 1))) (.n 2000)] (.le (.a (.a (.v 0) (.n 1)) (.v 1)) (.n 2000)) [1] (Eq.refl true) hd)
  have e2:Str.ofString ":"=mk [58]:=by rw[<-f7 (Str.ofString ":"),ul]
  have s1:=λl=>nN (C:=C) (fr:=bL.frame L' outer A lv) (l:=l) (os:=[.book B,.list (aN done)]) (a:=i7 B k) (b:=[58]) (a8 13001 (b7 l1 1) rfl)
  have s2:=λl=>nN (C:=C) (fr:=bL.frame L' outer A lv) (l:=l) (os:=[.book B,.list (aN done)]) (a:=i7 B k++[58]) (b:=L (cm v)) (a8 15000 (by rw[af,aS];exact n8 [.le (.v 0) (.n 13000),.le (.v 1) (.n 1900)] (.le (.a (.a (.v 0) (.n 1)) (.v 1)) (.n 15000)) [1,1] (Eq.refl true) l1 l2) rfl)
  rw[<-e2]at s1
  rw[f7]at s2
  have hsz:(aN done).length<=sizeLine:=a8 2000 (by rw[ae];exact aa (ax _ _) hd) rfl
  rw[aC,show[vE B (k,v)]++kvs.map (vE B)=((k,v)::kvs).map (vE B)from rfl,show aN (done++[vE B (k,v)])=aN done++[.str (mk ((i7 B k++[58])++L (cm v)))] by rw[aN,aI,aC];rfl]at ih
  with_unfolding_all have b:=cu (m:=2) F (jb bL.body 1) [some (.o 0),sv (.tabI t),sv (.str "U"),some (.o 1),sv (.int k),none] [.book B,.list (aN done)] [ff,ru (.str (mk (i7 B k))),ru (.str (mk (i7 B k++[58]))),ru (.int v),ru (.str (cm v)),ru (.str (mk ((i7 B k++[58])++L (cm v)))),rv .none [.book B,.list (aN done++[.str (mk ((i7 B k++[58])++L (cm v)))])]] rfl (cR P.G F P.pA rfl (bx hl) [0] (pe P (lv:=4) (by decide) hc) rfl rfl rfl rfl rfl) (s1 _) (Hk FV) (aX P.G F P.fm rfl (bx hl) (fj P (lv:=0) hv) rfl) (s2 _) (iX rfl rfl hsz)
  exact .next true b rfl ih
theorem vX(P:PO C K bN bO)(hl:5<=lv){kvs:List ((Int×Int)×Int)}(hn:(kvs.map (·.1)).Nodup)(hs:kvs.length<=1000)(hc:∀p∈kvs,la B p.1.1 p.1.2/\eT p.2):
 Calls C bL lv [.o 0,.v (.eg (qE kvs)),.v (.str "T")] [.book B] (some (.o 1)) [.book B,.list (aN (o4 B kvs))]:=Calls.ret (os2:=[.book B,.list (aN (o4 B kvs))]) 2 rfl λL' outer A F=>by
 have q:=LQ P F Fn.top (os:=[.book B,.list (aN [[123]])]) (l:=[some (.o 0),sv (.eg (qE kvs)),sv (.str "T"),some (.o 1),none,none]) (ks:=[4,5]) (x:="key") (i:=4) (by ac_rfl) rfl (Aw P hl F kvs [[123]] (λp hp=>⟨by obtain⟨i,hi⟩:=gv hp;exact zW hn hi,hc p hp⟩) (by rw[aS];exact sH [.le (.v 0) (.n 1000)] (.le (.a (.n 1) (.v 0)) (.n 2000)) [1] (Eq.refl true) hs))
 have e1:Str.ofString "{"=mk [123]:=by rw[<-f7 (Str.ofString "{"),qH]
 have e2:Str.ofString "}"=mk [125]:=by rw[<-f7 (Str.ofString "}"),lh]
 rw[show aN [[123]]=[.str (Str.ofString "{")] by rw[e1];rfl]at q
 have hsz:(aN ([[123]]++kvs.map (vD B))).length<=sizeLine:=a8 1001 (by rw[ae,af,ae,aS];exact a6 hs _) rfl
 apply cu (m:=1) F bL.body [some (.o 0),sv (.eg (qE kvs)),sv (.str "T"),none,none,none] [.book B] [.o (.norm [some (.o 0),sv (.eg (qE kvs)),sv (.str "T"),some (.o 1),none,none] [.book B,.list (aN ([[123]]++kvs.map (vD B)))]),rv .none [.book B,.list (aN (o4 B kvs))]] q (dC rfl rfl hsz (by rw[e2];exact(aI (l₁:=[[123]]++kvs.map (vD B)) (l₂:=[[125]])).symm))
theorem vY(P:PO C K bN bO)(hl:5<=lv){kvs:List (Int×Int)}(hn:(kvs.map (·.1)).Nodup)(hs:kvs.length<=1000)(hc:∀p∈kvs,lb B p.1/\eT p.2):
 Calls C bL lv [.o 0,.v (.tabI kvs),.v (.str "U")] [.book B] (some (.o 1)) [.book B,.list (aN (o6 B kvs))]:=Calls.ret (os2:=[.book B,.list (aN (o6 B kvs))]) 2 rfl λL' outer A F=>by
 have q:=LR P F Fn.top (os:=[.book B,.list (aN [[123]])]) (l:=[some (.o 0),sv (.tabI kvs),sv (.str "U"),some (.o 1),none,none]) (ks:=[4,5]) (x:="key") (i:=4) (by ac_rfl) rfl (Ax P hl F kvs [[123]] (λp hp=>⟨rD hn hp,hc p hp⟩) (by rw[aS];exact sH [.le (.v 0) (.n 1000)] (.le (.a (.n 1) (.v 0)) (.n 2000)) [1] (Eq.refl true) hs))
 have e1:Str.ofString "{"=mk [123]:=by rw[<-f7 (Str.ofString "{"),qH]
 have e2:Str.ofString "}"=mk [125]:=by rw[<-f7 (Str.ofString "}"),lh]
 rw[show aN [[123]]=[.str (Str.ofString "{")] by rw[e1];rfl]at q
 have hsz:(aN ([[123]]++kvs.map (vE B))).length<=sizeLine:=a8 1001 (by rw[ae,af,ae,aS];exact a6 hs _) rfl
 apply cu (m:=1) F bL.body [some (.o 0),sv (.tabI kvs),sv (.str "U"),none,none,none] [.book B] [.o (.norm [some (.o 0),sv (.tabI kvs),sv (.str "U"),some (.o 1),none,none] [.book B,.list (aN ([[123]]++kvs.map (vE B)))]),rv .none [.book B,.list (aN (o6 B kvs))]] q (dC rfl rfl hsz (by rw[e2];exact(aI (l₁:=[[123]]++kvs.map (vE B)) (l₂:=[[125]])).symm))
theorem yy{L':Addr}{outer:List Env}{A:Around}(F:aG C (aY.frame L' outer A lv)){p q:Option EV}{a b c d e:Option EV}:∀(ws done:List (List Nat)),done.length+ws.length<=2000->ll 3 a=true->ll 3 b=true->ll 3 c=true->ll 3 d=true->ll 3 e=true->ll 3 p=true->
 Loop C (aY.frame L' outer A lv) (jb (LP (LP (LP (LP (jb aY.body 1) 2) 0) 0) 0) 0) [7] 3 7 (aN ws) [a,b,c,some (.o 1),d,e,p,none] [.book B,.list (aN done),.held] (.norm [a,b,c,some (.o 1),d,e,p,none] [.book B,.list (aN (done++ws)),.held])
 |[],done,_,_,_,_,_,_,_=>by rw[bp];exact .nil
 |w::ws,done,h,h1,h2,h3,h4,h5,h6=>by
  rw[ay]at h
  have ih:=yy F (p:=p) (q:=q) (a:=a) (b:=b) (c:=c) (d:=d) (e:=e) ws (done++[w]) (by rw[af,aS];exact n8 [.le (.a (.v 0) (.a (.v 1) (.n 1))) (.n 2000)] (.le (.a (.a (.v 0) (.n 1)) (.v 1)) (.n 2000)) [1] (Eq.refl true) h) h1 h2 h3 h4 h5 h6
  have hsz:(aN done).length<=sizeLine:=a8 2000 (by rw[ae];exact aa (ax _ _) h) rfl
  rw[aC,show[w]++ws=w::ws from rfl,show aN (done++[w])=aN done++[.str (mk w)] by rw[aN,aI];rfl]at ih
  with_unfolding_all have b':=cu (m:=3) F (jb (LP (LP (LP (LP (jb aY.body 1) 2) 0) 0) 0) 0) [a,b,c,some (.o 1),d,e,p,sv (.str (mk w))] [.book B,.list (aN done),.held] [rv .none [.book B,.list (aN done++[.str (mk w)]),.held]] (iX rfl rfl hsz)
  exact .next true b' (by show(ll 3 a&&(ll 3 b&&(ll 3 c&&(true&&(ll 3 d&&(ll 3 e&&(ll 3 p&&(true&&true))))))))=true;rw[h1,h2,h3,h4,h5,h6];rfl) ih
theorem J4(P:PO C K bN bO)(hl:6<=lv){L':Addr}{outer:List Env}{A:Around}(F:aG C (aY.frame L' outer A lv)){nm ks:Str}{ic:List dA}{j c:Nat}{o:dA}(hj:j<10)(hc:(L ks)[j]?=some c)(ho:ic[j]?=some o)(hk:kE B c o){done:List (List Nat)}(hd:done.length<=1000):
 ∃l1 os1,Runs (hZ C (aY.frame L' outer A lv) (jb aY.body 1)) 2 [some (.o 0),sv (.tup (.str nm::ic.map dA.pv)),sv (.str ks),some (.o 1),sv (.int j),none,none,none] [.book B,.list (aN done)] (.norm l1 os1)/\fB [4,5,6,7] l1=[some (.o 0),sv (.tup (.str nm::ic.map dA.pv)),sv (.str ks),some (.o 1),none,none,none,none]/\os1.take 2=[.book B,.list (aN (done++kW B c o))]:=by
 have hsz:(aN done).length<=sizeLine:=a8 1000 (by rw[ae];exact hd) rfl
 have ap:=λ{l:Lo} {w:List Nat}=>dC (C:=C) (fr:=aY.frame L' outer A lv) (l:=l) (os:=[.book B,.list (aN done)]) (os1:=[.book B,.list (aN done)]) (k:=1) (v:= .str (mk w)) (ys:=aN (done++[w])) rfl rfl hsz (aI (l₁:=done) (l₂:=[w])).symm
 have i1:=λ{l:Lo}=>BY (C:=C) (fr:=aY.frame L' outer A lv) (l:=l) (os:=[.book B,.list (aN done)]) (xs:= .str nm::ic.map dA.pv) (i:=(j:Int)+1) (v:=o.pv) (by exact aE _) (by exact sH [.lt (.v 0) (.n 10)] (.A2 (.a (.c (.v 0)) (.n 1)) (.n 9223372036854775808)) [1] (Eq.refl true) hj) (by rw[show((j:Int)+1).toNat=j+1 by exact rfl,hM,bo,ho];rfl)
 have i2:=λ{l:Lo}=>OK (C:=C) (fr:=aY.frame L' outer A lv) (l:=l) (os:=[.book B,.list (aN done)]) (x:=ks) (i:=j) (c:=c) (by exact aa hj (by decide)) hc
 have p:=λ(p:Pa)=>cu (m:=2) F (jb aY.body 1) [some (.o 0),sv (.tup (.str nm::ic.map dA.pv)),sv (.str ks),some (.o 1),sv (.int j),none,none,none] [.book B,.list (aN done)] ([rv (.str (mk [c])) [.book B,.list (aN done)],ru o.pv]++p)
 cases o with
 |E6 x n=>
  obtain⟨hk,hx,hn⟩:=hk
  have l2:=gP hn
  have r:=λ(p:Pa)=>p++[rv (.str x) [.book B,.list (aN done)],ru (.int n),ru (.str (cm n)),ru (.str (mk (L x++L (cm n)))),rv .none [.book B,.list (aN (done++[L x++L (cm n)]))]]
  have a0:=λ{l:Lo}=>BY (C:=C) (fr:=aY.frame L' outer A lv) (l:=l) (os:=[.book B,.list (aN done)]) (xs:=[.str x,.int n]) (i:=0) (by decide) (by decide) rfl
  have a1:=λ{l:Lo}=>BY (C:=C) (fr:=aY.frame L' outer A lv) (l:=l) (os:=[.book B,.list (aN done)]) (xs:=[.str x,.int n]) (i:=1) (by decide) (by decide) rfl
  have nt:=λ{l:Lo}=>aX (l:=l) (os:=[.book B,.list (aN done)]) P.G F P.fm (by ac_rfl) (bx hl) (fj P (lv:=0) hn) rfl
  have ad:=λ{l:Lo}=>nN (C:=C) (fr:=aY.frame L' outer A lv) (l:=l) (os:=[.book B,.list (aN done)]) (a:=L x) (b:=L (cm n)) (a8 2000 (by exact aa (bb hx l2) (by decide)) rfl)
  rw[f7,f7]at ad
  rcases hk with rfl|rfl|rfl
  ·exact⟨_,_,by apply p ([tt,tt]++[rv (.str x) [.book B,.list (aN done)],ru (.int n),ru (.str (cm n)),ru (.str (mk (L x++L (cm n)))),rv .none [.book B,.list (aN (done++[L x++L (cm n)]))]]) i2 i1 rfl rfl a0 a1 nt ad ap,rfl,rfl⟩
  ·exact⟨_,_,by apply p ([ff,tt,tt]++[rv (.str x) [.book B,.list (aN done)],ru (.int n),ru (.str (cm n)),ru (.str (mk (L x++L (cm n)))),rv .none [.book B,.list (aN (done++[L x++L (cm n)]))]]) i2 i1 rfl rfl rfl a0 a1 nt ad ap,rfl,rfl⟩
  ·exact⟨_,_,by apply p ([ff,ff,tt,tt]++[rv (.str x) [.book B,.list (aN done)],ru (.int n),ru (.str (cm n)),ru (.str (mk (L x++L (cm n)))),rv .none [.book B,.list (aN (done++[L x++L (cm n)]))]]) i2 i1 rfl rfl rfl rfl a0 a1 nt ad ap,rfl,rfl⟩
 |con k n=>
  obtain⟨rfl,hk⟩:=hk
  exact⟨_,_,by apply p [ff,ff,ff,ff,tt,rv (.str (mk (jO B k n))) [.book B,.list (aN done)],rv .none [.book B,.list (aN (done++[jO B k n]))]] i2 i1 rfl rfl rfl rfl rfl (cR P.G F P.nS rfl (bx hl) [0] (nP P (lv:=4) (by decide) hk) rfl rfl rfl rfl rfl) ap,rfl,rfl⟩
 |num n=>
  rcases hk with⟨rfl,hk⟩|⟨hk,hn⟩
  ·exact⟨_,_,by apply p [ff,ff,ff,ff,ff,tt,rv (.str (mk (i7 B n))) [.book B,.list (aN done)],rv .none [.book B,.list (aN (done++[i7 B n]))]] i2 i1 rfl rfl rfl rfl rfl rfl (cR P.G F P.pA rfl (bx hl) [0] (pe P (lv:=4) (by decide) hk) rfl rfl rfl rfl rfl) ap,rfl,rfl⟩
  ·have nt:=λ{l:Lo}=>aX (l:=l) (os:=[.book B,.list (aN done)]) P.G F P.fm (by ac_rfl) (bx hl) (fj P (lv:=0) hn) rfl
   have Xq:=λ{l:Lo}=>ap (l:=l) (w:=L (cm n))
   rw[f7]at Xq
   rcases hk with rfl|rfl
   ·exact⟨_,_,by apply p [ff,ff,ff,ff,ff,ff,tt,tt,rv (.str (cm n)) [.book B,.list (aN done)],rv .none [.book B,.list (aN (done++[L (cm n)]))]] i2 i1 rfl rfl rfl rfl rfl rfl rfl rfl nt Xq,rfl,rfl⟩
   ·exact⟨_,_,by apply p [ff,ff,ff,ff,ff,ff,ff,tt,tt,rv (.str (cm n)) [.book B,.list (aN done)],rv .none [.book B,.list (aN (done++[L (cm n)]))]] i2 i1 rfl rfl rfl rfl rfl rfl rfl rfl rfl nt Xq,rfl,rfl⟩
 |eg kvs=>
  obtain⟨rfl,h1,h2,h3⟩:=hk
  have q:=GN F Fn.top (os:=[.book B,.list (aN done),.list (aN (o4 B kvs))]) (l:=[some (.o 0),sv (.tup (.str nm::ic.map dA.pv)),sv (.str ks),some (.o 1),sv (.int j),sv (.str (mk [84])),sv (.eg (qE kvs)),none]) (ks:=[7]) (x:="word") (i:=7) (k:=2) (by ac_rfl) rfl rfl
   (yy F (q:=none) (o4 B kvs) done (by rw[o4,ay,af,ae,aS];exact n8 [.le (.v 0) (.n 1000),.le (.v 1) (.n 100)] (.le (.a (.v 0) (.a (.a (.v 1) (.n 1)) (.n 1))) (.n 2000)) [1,1] (Eq.refl true) hd h2) rfl rfl rfl rfl rfl rfl) ⟨rfl,rfl⟩
  exact⟨_,_,by apply p [ff,ff,ff,ff,ff,ff,ff,ff,ff,.c (some (.o 2)) [.book B,.list (aN done),.list (aN (o4 B kvs))],.o (.norm [some (.o 0),sv (.tup (.str nm::ic.map dA.pv)),sv (.str ks),some (.o 1),sv (.int j),sv (.str (mk [84])),sv (.eg (qE kvs)),none] [.book B,.list (aN (done++o4 B kvs)),.list (aN (o4 B kvs))])] i2 i1 rfl rfl rfl rfl rfl rfl rfl rfl rfl (cR P.G F P.qt rfl (bx hl) [0] (vX P (lv:=5) (by decide) h1 (aa h2 (by decide)) h3) rfl rfl rfl rfl rfl) q,rfl,rfl⟩
 |tabI kvs=>
  obtain⟨rfl,h1,h2,h3⟩:=hk
  have q:=GN F Fn.top (os:=[.book B,.list (aN done),.list (aN (o6 B kvs))]) (l:=[some (.o 0),sv (.tup (.str nm::ic.map dA.pv)),sv (.str ks),some (.o 1),sv (.int j),sv (.str (mk [85])),sv (.tabI kvs),none]) (ks:=[7]) (x:="word") (i:=7) (k:=2) (by ac_rfl) rfl rfl
   (yy F (q:=none) (o6 B kvs) done (by rw[o6,ay,af,ae,aS];exact n8 [.le (.v 0) (.n 1000),.le (.v 1) (.n 100)] (.le (.a (.v 0) (.a (.a (.v 1) (.n 1)) (.n 1))) (.n 2000)) [1,1] (Eq.refl true) hd h2) rfl rfl rfl rfl rfl rfl) ⟨rfl,rfl⟩
  exact⟨_,_,by apply p [ff,ff,ff,ff,ff,ff,ff,ff,ff,.c (some (.o 2)) [.book B,.list (aN done),.list (aN (o6 B kvs))],.o (.norm [some (.o 0),sv (.tup (.str nm::ic.map dA.pv)),sv (.str ks),some (.o 1),sv (.int j),sv (.str (mk [85])),sv (.tabI kvs),none] [.book B,.list (aN (done++o6 B kvs)),.list (aN (o6 B kvs))])] i2 i1 rfl rfl rfl rfl rfl rfl rfl rfl rfl (cR P.G F P.qt rfl (bx hl) [0] (vY P (lv:=5) (by decide) h1 (aa h2 (by decide)) h3) rfl rfl rfl rfl rfl) q,rfl,rfl⟩
theorem DI(P:PO C K bN bO)(hl:6<=lv){L':Addr}{outer:List Env}{A:Around}(F:aG C (aY.frame L' outer A lv)){nm ks:Str}{ic:List dA}(ZA:(L ks).length<=4)(eC:ic.length=(L ks).length)(og:∀(i k:Nat) (o:dA),(L ks)[i]?=some k->ic[i]?=some o->kE B k o):∀m j done,j+m=(L ks).length->done.length+m*102<=1000->
 Loop C (aY.frame L' outer A lv) (jb aY.body 1) [4,5,6,7] 2 4 ((List.range' j m).map λi=> .int (i:Nat)) [some (.o 0),sv (.tup (.str nm::ic.map dA.pv)),sv (.str ks),some (.o 1),none,none,none,none] [.book B,.list (aN done)]
  (.norm [some (.o 0),sv (.tup (.str nm::ic.map dA.pv)),sv (.str ks),some (.o 1),none,none,none,none] [.book B,.list (aN (done++hH B ((L ks).drop j) (ic.drop j)))])
 |0,j,done,h,_=>by rw[lG (aR (show(L ks).length=j from h.symm)),show hH B [] (ic.drop j)=[]from rfl,bp];exact .nil
 |m+1,j,done,h,hd=>by
  have h1:j<(L ks).length:=by exact qV [.eq (.a (.v 0) (.a (.v 1) (.n 1))) (.v 2)] (.lt (.v 0) (.v 2)) [1] (Eq.refl true) h
  have h2:j<ic.length:=by exact Ig [.eq (.v 0) (.v 1),.eq (.a (.v 2) (.a (.v 3) (.n 1))) (.v 1)] (.lt (.v 2) (.v 0)) [.negSucc 0,1] (Eq.refl true) eC h
  have hc:=aA h1
  have ho:=aA h2
  have hk:=og j _ _ hc ho
  have hw:=z4 hk
  obtain⟨l1,os1,b,e1,e2⟩:=J4 P hl F (nm:=nm) (by exact aa h1 (aa ZA (by decide))) hc ho hk (done:=done) (by exact aa (ax _ _) hd)
  have ih:=DI P hl F (nm:=nm) ZA eC og m (j+1) (done++kW B (L ks)[j] ic[j]) (by exact dx (qV [.eq (.a (.v 0) (.a (.v 1) (.n 1))) (.v 2)] (.le (.a (.a (.v 0) (.n 1)) (.v 1)) (.v 2)) [1] (Eq.refl true) h) (qV [.eq (.a (.v 0) (.a (.v 1) (.n 1))) (.v 2)] (.le (.v 2) (.a (.a (.v 0) (.n 1)) (.v 1))) [.negSucc 0] (Eq.refl true) h)) (by rw[af];omega)
  rw[bR h1,bR h2,show hH B ((L ks)[j]::(L ks).drop (j+1)) (ic[j]::ic.drop (j+1))=kW B (L ks)[j] ic[j]++hH B ((L ks).drop (j+1)) (ic.drop (j+1))from rfl,<-aC]
  refine .next true b ?_ ?_
  ·rw[e1];rfl
  ·rw[e1,e2];exact ih
theorem pT(P:PO C K bN bO)(hl:6<=lv){nm ks:Str}{ic:List dA}(eC:ic.length=(L ks).length)(xi:(L ks).length<=4)(og:∀(i k:Nat) (o:dA),(L ks)[i]?=some k->ic[i]?=some o->kE B k o):
 Calls C aY lv [.o 0,.v (.tup (.str nm::ic.map dA.pv)),.v (.str ks)] [.book B] (some (.o 1)) [.book B,.list (aN (L nm::hH B (L ks) ic))]:=Calls.ret (os2:=[.book B,.list (aN (L nm::hH B (L ks) ic))]) 2 rfl λL' outer A F=>by
 have e1:(L ks).length=ks.length:=fV ks
 have q:=qL F Fn.top (os:=[.book B,.list (aN [L nm])]) (n:=ks.length) (l:=[some (.o 0),sv (.tup (.str nm::ic.map dA.pv)),sv (.str ks),some (.o 1),none,none,none,none]) (ks:=[4,5,6,7]) (x:="place") (i:=4) (by exact ak xi (by decide)) (by ac_rfl) rfl (DI P hl F (nm:=nm) xi eC og ks.length 0 [L nm] (by exact bH _ _) (by rw[aS];omega))
 rw[eX,eX,show aN [L nm]=[.str nm] by show[PV.str (mk (L nm))]=_;rw[f7]]at q
 have i0:=λ{l:Lo}=>BY (C:=C) (fr:=aY.frame L' outer A lv) (l:=l) (os:=[.book B]) (xs:= .str nm::ic.map dA.pv) (i:=0) (by decide) (by decide) rfl
 apply cu (m:=1) F aY.body [some (.o 0),sv (.tup (.str nm::ic.map dA.pv)),sv (.str ks),none,none,none,none,none] [.book B] [ru (.str nm),rv (.int ks.length) [.book B,.list [.str nm]],ru (.xP 0 ks.length 1),.o (.norm [some (.o 0),sv (.tup (.str nm::ic.map dA.pv)),sv (.str ks),some (.o 1),none,none,none,none] [.book B,.list (aN ([L nm]++hH B (L ks) ic))])] i0 (g8 P F rfl (by exact ak xi (by decide))) (ig P F rfl) q
noncomputable abbrev jQ:Ob:= .dS (d0.map λp=>(p.1,.str p.2))
theorem Ay(P:PO C K bN bO):Calls C oG lv [] [] (some (.o 0)) [jQ]:= .mk λas σ F rr Q X k=>by
 obtain⟨ps,r,ha⟩:=rr
 have z:∀t,σ t=none->Q (.loc t) (σ.upd t W7):=λt ht=>by
  have w:=r.alloc (o:=jQ) (c:=W7) ht (λ_=>rfl) (λ_=>rfl) (λ_ h=>(aU h).elim)
  exact k (λj=>if j=0 then t else as j) _ ⟨λj h=>absurd h (j9 j),⟨_,w,λj hj=>by
   obtain rfl:j=0:=Nat.lt_one_iff.mp hj
   rfl⟩,Nat.zero_lt_one,bW _⟩
 rw[gr]
 with_reducible exact GF P z
theorem cO(P:PO C K bN bO)(F:aG C fr)(hk:fr.env.kindOf "len"=some .globalImplicit){k n:Nat}{xs:List PV}(ho:os[k]?=some (.list xs))(hn:xs.length=n)(h:n<2^63):dO C fr "len" [.o k] l os (sv (.int n)) os:=by
 subst hn
 exact lq P.G F P.rT P.rU (by decide) hk (To.read ho (λ_=>rfl) λ_ _ _ _ _ hc q=>iC hc h q)
theorem wn{k i:Nat}{xs:List PV}{v:PV}(ho:os[k]?=some (.list xs))(h1:i<2^63)(hx:xs[i]?=some v):mR C fr (.o k) (.v (.int i)) l os (sv v) os:=
 ⟨⟨_,by show(os[k]?).bind Ob.ty=some "list";rw[ho];rfl,.inl rfl⟩,rfl,To.read ho (λ_=>rfl) λ_ _ _ _ _ hc q=>eD hc (aE i) (bI.mpr h1) (by rw[bJ];exact hx) q⟩
theorem DJ(P:PO C K bN bO)(hl:7<=lv){L':Addr}{outer:List Env}{A:Around}(F:aG C (dz.frame L' outer A lv)){is:List hJ}{b:Int}(hn:is.length<=1000)(og:∀i∈is,i.Ok B)(hb:∀k,k<is.length->eT (b+(k:Nat))):∀m j,j+m=is.length->
 Loop C (dz.frame L' outer A lv) (jb dz.body 2) [5,6] 4 5 ((List.range' j m).map λi=> .int (i:Nat)) [some (.o 0),some (.o 1),sv (.int b),some (.o 2),some (.o 3),none,none] [.book B,.list (is.map hJ.pv),jQ,.list (aN (gf B b (is.take j)))]
  (.norm [some (.o 0),some (.o 1),sv (.int b),some (.o 2),some (.o 3),none,none] [.book B,.list (is.map hJ.pv),jQ,.list (aN (gf B b is))])
 |0,j,h=>by rw[List.take_of_length_le (aR (show is.length=j from h.symm))];exact .nil
 |m+1,j,h=>by
  have hj:j<is.length:=by exact qV [.eq (.a (.v 0) (.a (.v 1) (.n 1))) (.v 2)] (.lt (.v 0) (.v 2)) [1] (Eq.refl true) h
  have hi:=aA hj
  have I:=og _ (cV hj)
  have ih:=DJ P hl F hn og hb m (j+1) (by exact dx (qV [.eq (.a (.v 0) (.a (.v 1) (.n 1))) (.v 2)] (.le (.a (.a (.v 0) (.n 1)) (.v 1)) (.v 2)) [1] (Eq.refl true) h) (qV [.eq (.a (.v 0) (.a (.v 1) (.n 1))) (.v 2)] (.le (.v 2) (.a (.a (.v 0) (.n 1)) (.v 1))) [.negSucc 0] (Eq.refl true) h))
  rw[BE hi]at ih
  have Sh:=hb j hj
  generalize is[j]=i at*
  have hlw:=z5 4 I.RN I.le
  have hww:=Et I.RN
  have Xr:(gf B b (is.take j)).length<=1000:=by unfold gf;rw[ae,List.length_zipIdx,fG];omega
  have hsz:(aN (gf B b (is.take j))).length<=sizeLine:=a8 1000 (by rw[ae];exact Xr) rfl
  have AW:bT (d0.map λp=>(p.1,PV.str p.2)) i.nm=some (PV.str i.ks):=by rw[sZ,I.look];rfl
  have ZB:Str.ofString " "=mk [32]:=by rw[<-f7 (Str.ofString " "),yh]
  have l2:=gP Sh
  have J5:∀w∈L i.nm::hH B (L i.ks) i.os,w.length<=15000:=λw hw=>by
   rcases am.mp hw with rfl|hw
   ·rw[fV];exact aa I.W8 (by decide)
   ·exact hww w hw
  have TP:=s9 [32] J5
  rw[ay,aS]at TP
  have s1:=λl=>nN (C:=C) (fr:=dz.frame L' outer A lv) (l:=l) (os:=[.book B,.list (is.map hJ.pv),jQ,.list (aN (gf B b (is.take j)))]) (a:=L (cm (b+(j:Nat)))) (b:=[32]) (a8 1901 (by rw[aS];exact ak l2 (by decide)) rfl)
  have s2:=λl=>nN (C:=C) (fr:=dz.frame L' outer A lv) (l:=l) (os:=[.book B,.list (is.map hJ.pv),jQ,.list (aN (gf B b (is.take j))),.list (aN (L i.nm::hH B (L i.ks) i.os))]) (a:=L (cm (b+(j:Nat)))++[32]) (b:=e7 [32] (L i.nm::hH B (L i.ks) i.os)) (a8 16000000 (by rw[af,aS];omega) rfl)
  rw[<-ZB,f7]at s1
  have jn:=λl=>yx (C:=C) (fr:=dz.frame L' outer A lv) (l:=l) (os:=[.book B,.list (is.map hJ.pv),jQ,.list (aN (gf B b (is.take j))),.list (aN (L i.nm::hH B (L i.ks) i.os))]) (os1:=[.book B,.list (is.map hJ.pv),jQ,.list (aN (gf B b (is.take j)))]) (k:=4) (xs:=(L i.nm::hH B (L i.ks) i.os).map mk) (s:=mk [32]) (by rw[bU];rfl)
   (lY 15000 (λy hy=>by obtain⟨z,hz,rfl⟩:=bn.mp hy;rw[gy];exact J5 z hz) (by rw[gy,ae,ay,aS];exact a8 16000000 (by omega) rfl)) (uj _ _)
  rw[<-ZB]at jn
  have cr:=tW P (lv:=5) (aj _) (sh:=d0) I.look I.le I.W8 I.fits
  rw[I.ok]at cr
  rw[show aN (gf B b (is.take j)++[z6 B (b+(j:Nat)) i])=aN (gf B b (is.take j))++[.str (mk ((L (cm (b+(j:Nat)))++[32])++e7 [32] (L i.nm::hH B (L i.ks) i.os)))] by
   rw[aN,aI,aC];rfl]at ih
  have gi:=λl=>wn (C:=C) (fr:=dz.frame L' outer A lv) (l:=l) (os:=[.book B,.list (is.map hJ.pv),jQ,.list (aN (gf B b (is.take j)))]) (k:=1) (i:=j) (v:=i.pv) rfl (by exact qV [.le (.v 0) (.n 1000),.eq (.a (.v 1) (.a (.v 2) (.n 1))) (.v 0)] (.lt (.v 1) (.n 9223372036854775808)) [1,1] (Eq.refl true) hn h) (by rw[bo,hi];rfl)
  have i0:=λl=>BY (C:=C) (fr:=dz.frame L' outer A lv) (l:=l) (os:=[.book B,.list (is.map hJ.pv),jQ,.list (aN (gf B b (is.take j)))]) (xs:= .str i.nm::i.os.map dA.pv) (i:=0) (by decide) (by decide) rfl
  with_unfolding_all have bd:=cu (m:=4) F (jb dz.body 2) [some (.o 0),some (.o 1),sv (.int b),some (.o 2),some (.o 3),sv (.int j),none] [.book B,.list (is.map hJ.pv),jQ,.list (aN (gf B b (is.take j)))] [ru i.pv,ru .none,ru (.str (cm (b+(j:Nat)))),ru (.str (mk (L (cm (b+(j:Nat)))++[32]))),ru (.str i.nm),ru (.str i.ks),.c (some (.o 4)) [.book B,.list (is.map hJ.pv),jQ,.list (aN (gf B b (is.take j))),.list (aN (L i.nm::hH B (L i.ks) i.os))],ru (.str (mk (e7 [32] (L i.nm::hH B (L i.ks) i.os)))),ru (.str (mk ((L (cm (b+(j:Nat)))++[32])++e7 [32] (L i.nm::hH B (L i.ks) i.os)))),rv .none [.book B,.list (is.map hJ.pv),jQ,.list (aN (gf B b (is.take j))++[.str (mk ((L (cm (b+(j:Nat)))++[32])++e7 [32] (L i.nm::hH B (L i.ks) i.os)))]),.list (aN (L i.nm::hH B (L i.ks) i.os))]] (gi _) (cR P.G F P.pz rfl (bx hl) [2] cr rfl rfl rfl rfl rfl) (aX P.G F P.fm rfl (bx hl) (fj P (lv:=0) Sh) rfl) (s1 _) (i0 _) (JQ rfl AW) (cR P.G F P.pU rfl (bx hl) [0] (pT P (lv:=6) (aj _) I.len I.le I.RN) rfl rfl rfl rfl rfl) (jn _) (s2 _) (iX rfl rfl hsz)
  exact .next true bd rfl ih
theorem EF(P:PO C K bN bO)(hl:7<=lv){is:List hJ}{b:Int}(hn:is.length<=1000)(og:∀i∈is,i.Ok B)(hb:∀k,k<is.length->eT (b+(k:Nat))):
 Calls C dz lv [.o 0,.o 1,.v (.int b)] [.book B,.list (is.map hJ.pv)] (some (.o 3)) [.book B,.list (is.map hJ.pv),jQ,.list (aN (gf B b is))]:=Calls.ret (os2:=[.book B,.list (is.map hJ.pv),jQ,.list (aN (gf B b is))]) 4 rfl λL' outer A F=>by
 have q:=qL F Fn.top (os:=[.book B,.list (is.map hJ.pv),jQ,.list []]) (n:=is.length) (l:=[some (.o 0),some (.o 1),sv (.int b),some (.o 2),some (.o 3),none,none]) (ks:=[5,6]) (x:="place") (i:=5) (by exact ak hn (by decide)) (by ac_rfl) rfl (DJ P hl F hn og hb is.length 0 (by exact bH _ _))
 apply cu (m:=2) F dz.body [some (.o 0),some (.o 1),sv (.int b),none,none,none,none] [.book B,.list (is.map hJ.pv)] [.c (some (.o 2)) [.book B,.list (is.map hJ.pv),jQ],rv (.int is.length) [.book B,.list (is.map hJ.pv),jQ,.list []],ru (.xP 0 is.length 1),.o (.norm [some (.o 0),some (.o 1),sv (.int b),some (.o 2),some (.o 3),none,none] [.book B,.list (is.map hJ.pv),jQ,.list (aN (gf B b is))])] (cR P.G F P.AO rfl (bx hl) [] (Ay P (lv:=0)) rfl rfl rfl rfl rfl) (cO P F rfl rfl (ae _) (by exact ak hn (by decide))) (ig P F rfl) q
theorem Az(P:PO C K bN bO)(F:aG C fr){Fn:Mine.Fn}(H:FnAt C Fn){name:Str}(hf:findIn K (.ref 155) name=some (some (.ref Fn.f)))(ht:typeIn K (.ref Fn.f)=some (.type "function"))(hl:lv<fr.lvl){k:Nat}{B1:ar}{os1:List Ob}
 (h1:os1[k]?=some (.book B1)) (hn:∀a,bT (i9 a) name=none):Ah C fr name (.o k) os1:=λo ap pos es l sG os2 os' hs h2 h3=>by
 refine .mk λas ρ σ F0 S Q X e=>jg P.G F H P.hX P.oS hf ht hl (h2.go as ρ σ F0 S _ _ λcD cQ v1=> ?_) (fN (au.mp hs).1 _ _) (DH hs name)
 obtain⟨ps,rp,ha⟩:=v1.s.r
 have fg:=(an.mp h1).1
 have c1:=rp.at_ k _ h1 _ (.head _)
 have c2:=rp.at_ k _ h1 _ (.tail _ (.head _))
 exact⟨cD k,_,_,rfl,by rw[<-ha k fg];exact c1,c2,hn _,h3.go cD ρ cQ F0 v1.s _ _ e⟩
theorem DK(P:PO C K bN bO)(F:aG C fr)(hl:0<fr.lvl){k:Nat}{os1:List Ob}(h1:os1[k]?=some (.book B)):Ah C fr "atom" (.o k) os1:=Az P F P.gF P.rY P.rZ hl h1 (λa=>by ac_rfl)
theorem B8(P:PO C K bN bO)(F:aG C fr)(hl:0<fr.lvl){k:Nat}{os1:List Ob}(h1:os1[k]?=some (.book B)):Ah C fr "functor" (.o k) os1:=Az P F P.gd P.mI P.mJ hl h1 (λa=>by ac_rfl)
noncomputable abbrev AA(p:Nat×Nat):EV:= .v (.tup [.str (mk [p.1]),.int (p.2:Nat)])
theorem jR(P:PO C K bN bO)(hl:3<=lv){x:Str}(hx:eU (L x))(iI:L x≠[]):Calls C b6 lv [.v (.str x)] [] ((j3 (L x)).map AA) []:=by
 obtain⟨c,r,hc⟩:∃c r,L x=c::r:=by cases q:L x with|nil=>exact absurd q iI|cons c r=>exact⟨c,r,rfl⟩
 have oh:=hx.1
 have Io:(L x).length=x.length:=fV x
 have i0:=λ{fr:Fm} {l:Lo}=>Il (C:=C) (fr:=fr) (l:=l) (os:=[]) (x:=x) (i:=0) (c:=c) (by decide) (by decide) (by rw[hc];rfl)
 have J1:(Str.ofString "wrong register in a listing: ").length+x.length<=sizeLine:=by rw[show(Str.ofString "wrong register in a listing: ").length=29 by ac_rfl];exact a8 1029 (by exact a6 oh _) rfl
 have E8:Txt.slice x (some 1) none=mk r:=jy (p:=[c]) hc
 have rc:=d8 (C:=C) P (lv:=2) (aj _) (x:=mk r) (by rw[dr];rw[hc,ay]at oh;exact cG oh)
 rw[dr]at rc
 have h1:=vW (c:=c) M7
 have h2:=vW (c:=c) W5
 rw[hc,j3]
 have good:∀p:Pa,(c=120\/c=121)->(∀{L' outer A} (F:aG C (b6.frame L' outer A lv)) (K:KS) (q:Pa),gS C (b6.frame L' outer A lv) 40 b6.body [sv (.str x)] [] (p++q) K->gS C (b6.frame L' outer A lv) 39 (b6.body.drop 1) [sv (.str x)] [] q K)->Calls C b6 lv [.v (.str x)] [] ((if c=120\/c=121 then(bz r).map λv=>(c,v)else none).map AA) []:=λp hcc hg=>by
  rw[if_pos hcc]
  cases hv:bz r with
  |none=>
   rw[hv]at rc
   exact Calls.exc rfl λL' outer A F=>by apply hg F _ _ (cu (m:=0) F b6.body [sv (.str x)] [] (p++[rv (.str (mk [c])) [],ru (.str (mk r)),.u none])) i0 (As (a8 1000 (by exact oh) rfl) E8) (aX P.G F P.bV rfl (bx hl) rc rfl)
  |some v=>
   rw[hv]at rc
   exact Calls.ret 0 rfl λL' outer A F=>by apply hg F _ _ (cu (m:=0) F b6.body [sv (.str x)] [] (p++[rv (.str (mk [c])) [],ru (.str (mk r)),ru (.int v)])) i0 (As (a8 1000 (by exact oh) rfl) E8) (aX P.G F P.bV rfl (bx hl) rc rfl)
 by_cases q1:c=120
 ·exact good [rv (.str (mk [c])) [],ff,ff] (.inl q1) λF K q g=>by apply g i0 (h1.trans (decide_eq_false λn=>n q1)) rfl
 ·by_cases q2:c=121
  ·exact good [rv (.str (mk [c])) [],tt,ru (.str (mk [c])),ff,ff] (.inr q2) λF K q g=>by apply g i0 (h1.trans (decide_eq_true q1)) i0 (h2.trans (decide_eq_false λn=>n q2)) rfl
  ·rw[if_neg (λq=>q.elim q1 q2)]
   exact Calls.exc rfl λL' outer A F=>by apply cu (m:=0) F b6.body [sv (.str x)] [] [ru (.str (mk [c])),tt,ru (.str (mk [c])),tt,tt,ru (.str (Str.ofString "wrong register in a listing: "++x))] i0 (h1.trans (decide_eq_true q1)) i0 (h2.trans (decide_eq_true q2)) rfl (d7 J1) (c8 P F rfl (bx hl))
noncomputable abbrev Nz{α:Type}(B:ar)(r:Option (α×ar)):List Ob:=[.book ((r.map (·.2)).getD B)]
noncomputable abbrev LV(p:(Int×Int)×ar):EV:= .v (.tup [.int p.1.1,.int p.1.2])
theorem EG{L':Addr}{outer:List Env}{A:Around}(F:aG C (cn.frame L' outer A lv)){x:Str}{c:Nat}{r:List Nat}(hc:L x=c::r):To (tT C (cn.frame L' outer A lv) (Im cn.body 0)) [some (.o 0),sv (.str x),none] [.book B] (sv (.bool (kG c))) [.book B]:=by
 have p:=λ(p:Pa)=>qp F (Im cn.body 0) [some (.o 0),sv (.str x),none] [.book B] (rv (.str (mk [c])) [.book B]::p)
 have i0:=λ{l:Lo}=>Il (C:=C) (fr:=cn.frame L' outer A lv) (l:=l) (os:=[.book B]) (x:=x) (i:=0) (c:=c) (by decide) (by decide) (by rw[hc];rfl)
 have h1:=B0 (c:=c) BB
 have h2:=B3 (c:=c) RK
 unfold kG
 cases e1:decide (48<=c)with
 |false=>apply p [ff] i0 (h1.trans e1) false rfl
 |true=>apply p [tt] i0 (h1.trans e1) _ h2
theorem nQ(P:PO C K bN bO)(hl:5<=lv){x:Str}(hz:B.texts.length<=1000000)(hx:eU (L x))(iI:L x≠[]):Calls C cn lv [.o 0,.v (.str x)] [.book B] ((dL B (L x)).map LV) (Nz B (dL B (L x))):=by
 obtain⟨c,r,hc⟩:∃c r,L x=c::r:=by cases q:L x with|nil=>exact absurd q iI|cons c r=>exact⟨c,r,rfl⟩
 have oh:=hx.1
 have Io:(L x).length=x.length:=fV x
 have Xr:r.length<=999:=by rw[hc,ay]at oh;exact Nat.le_of_succ_le_succ oh
 have i0:=λ{fr:Fm} {l:Lo}=>Il (C:=C) (fr:=fr) (l:=l) (os:=[.book B]) (x:=x) (i:=0) (c:=c) (by decide) (by decide) (by rw[hc];rfl)
 have J1:(Str.ofString "wrong number in a listing: ").length+x.length<=sizeLine:=by rw[show(Str.ofString "wrong number in a listing: ").length=27 by ac_rfl];exact a8 1027 (by exact a6 oh _) rfl
 have E8:Txt.slice x (some 1) none=mk r:=jy (p:=[c]) hc
 have t:=λ{L' outer A} (F:aG C (cn.frame L' outer A lv))=>EG (B:=B) F hc
 have p:=λ{L' outer A} (F:aG C (cn.frame L' outer A lv)) (b:Bool) (p:Pa)=>cu (m:=1) F cn.body [some (.o 0),sv (.str x),none] [.book B] (.x (sv (.bool b)) [.book B]::p)
 rw[hc,dL]
 cases hd:kG c with
 |true=>
  rw[hd]at t
  have rc:=d8 (C:=C) P (lv:=2) (aj _) (x:=x) oh
  rw[hc]at rc
  rw[if_pos rfl]
  cases hv:bz (c::r)with
  |none=>rw[hv]at rc;exact Calls.exc rfl λL' outer A F=>by apply p F true [tt,rv (.int 5) [.book B],.u none] (t F) rfl (vV P F rfl) (aX P.G F P.bV rfl (bx hl) rc rfl)
  |some v=>rw[hv]at rc;exact Calls.ret (os2:=[.book B]) 1 rfl λL' outer A F=>by apply p F true [tt,rv (.int 5) [.book B],ru (.int v)] (t F) rfl (vV P F rfl) (aX P.G F P.bV rfl (bx hl) rc rfl)
 |false=>
  rw[hd]at t
  rw[if_neg (by decide)]
  have hm:=Ez (c:=c) Jq
  by_cases OM:c=45
  ·rw[if_pos OM]
   have hm:=hm.trans (decide_eq_true OM)
   have rc:=d8 (C:=C) P (lv:=2) (aj _) (x:=mk r) (by rw[dr];exact aa Xr (by decide))
   rw[dr]at rc
   cases hv:bz r with
   |none=>rw[hv]at rc;exact Calls.exc rfl λL' outer A F=>by apply p F false [ff,rv (.str (mk [c])) [.book B],tt,ru (.str (mk r)),.u none] (t F) rfl i0 hm (As (a8 1000 (by exact oh) rfl) E8) (aX P.G F P.bV rfl (bx hl) rc rfl)
   |some v=>
    rw[hv]at rc
    rw[bg]
    by_cases h0:v=0
    ·rw[if_pos h0];subst h0
     exact Calls.exc rfl λL' outer A F=>by apply p F false [ff,rv (.str (mk [c])) [.book B],tt,ru (.str (mk r)),ru (.int (0:Nat)),tt,ru (.str (Str.ofString "wrong number in a listing: "++x))] (t F) rfl i0 hm (As (a8 1000 (by exact oh) rfl) E8) (aX P.G F P.bV rfl (bx hl) rc rfl) rfl (d7 J1) (c8 P F rfl (bx hl))
    ·rw[if_neg h0]
     exact Calls.ret (os2:=[.book B]) 1 rfl λL' outer A F=>by apply p F false [ff,rv (.str (mk [c])) [.book B],tt,ru (.str (mk r)),ru (.int v),ff,ru (.int 5)] (t F) rfl i0 hm (As (a8 1000 (by exact oh) rfl) E8) (aX P.G F P.bV rfl (bx hl) rc rfl) (decide_eq_false (show¬((v:Nat):Int)=0 fromλq=>h0 (fD q))) (vV P F rfl)
  ·rw[if_neg OM]
   have hm:=hm.trans (decide_eq_false OM)
   have uq:=nO (C:=C) P (lv:=4) (aj _) hx
   rw[hc]at uq
   cases hu:gH (c::r)with
   |none=>rw[hu]at uq;exact Calls.exc rfl λL' outer A F=>by apply p F false [ff,rv (.str (mk [c])) [.book B],ff,ru (.int 4),.u none] (t F) rfl i0 hm (Ap P F rfl) (aX P.G F P.fZ rfl (bx hl) uq rfl) (DK P F (bx hl) rfl)
   |some u=>rw[hu]at uq;exact Calls.ret (os2:=[.book (B.atom (mk u))]) 1 rfl λL' outer A F=>by apply p F false [ff,rv (.str (mk [c])) [.book B],ff,ru (.int 4),ru (.str (mk u)),rv (.int (ix (mk u) (B.atom (mk u)).texts:Nat)) [.book (B.atom (mk u))]] (t F) rfl i0 hm (Ap P F rfl) (aX P.G F P.fZ rfl (bx hl) uq rfl) (B7 P F (bx hl) rfl rfl hz rfl)
theorem m_rfind{os1:List Ob}{x y:Str}{r:Int}(hr:Txt.rfind x y=r):gR C fr "rfind" (.v (.str x)) os1 [.v (.str y)] l os (sv (.int r)) os:=o8 F9 rfl (To.pure λ_ _ _ _ _ q=>FP (hr▸q))
noncomputable abbrev LW(p:Int×ar):EV:= .v (.int p.1)
theorem pf(P:PO C K bN bO)(hl:5<=lv){x:Str}(hz:B.texts.length<=1000000)(ow:B.bq.length<=1000000)(hx:eU (L x)):Calls C fx lv [.o 0,.v (.str x)] [.book B] ((dM B (L x)).map LW) (Nz B (dM B (L x))):=by
 have oh:=hx.1
 have Io:(L x).length=x.length:=fV x
 have J1:(Str.ofString "wrong functor in a listing: ").length+x.length<=sizeLine:=by rw[show(Str.ofString "wrong functor in a listing: ").length=28 by ac_rfl];exact a8 1028 (by exact a6 oh _) rfl
 have AX:=zY x 47
 rw[show mk [47]=Str.ofString "/" by rw[<-f7 (Str.ofString "/")];rfl]at AX
 have p:=λ{L' outer A} (F:aG C (fx.frame L' outer A lv)) (p:Pa)=>cu (m:=1) F fx.body [some (.o 0),sv (.str x),none,none] [.book B] p
 unfold dM
 cases K6:dK 47 (L x)with
 |none=>
  rw[K6]at AX
  exact Calls.exc rfl λL' outer A F=>by apply p F [rv (.int (-1)) [.book B],tt,ru (.str (Str.ofString "wrong functor in a listing: "++x))] (m_rfind AX) rfl (d7 J1) (c8 P F rfl (bx hl))
 |some pq=>
  obtain⟨a,b⟩:=pq
  rw[K6]at AX
  obtain⟨AT,Uu⟩:=g6 K6
  have eC:(L x).length=a.length+1+b.length:=by rw[AT];simp;exact dx (n8 [] (.le (.a (.v 0) (.a (.v 1) (.n 1))) (.a (.a (.v 0) (.n 1)) (.v 1))) [] (Eq.refl true)) (n8 [] (.le (.a (.a (.v 0) (.n 1)) (.v 1)) (.a (.v 0) (.a (.v 1) (.n 1)))) [] (Eq.refl true))
  rw[bg]
  by_cases ha:a=[]
  ·rw[if_pos ha];subst ha
   exact Calls.exc rfl λL' outer A F=>by apply p F [rv (.int (0:Nat)) [.book B],tt,ru (.str (Str.ofString "wrong functor in a listing: "++x))] (m_rfind AX) rfl (d7 J1) (c8 P F rfl (bx hl))
  ·rw[if_neg ha]
   have Jd:0<a.length:=List.length_pos_iff.mpr ha
   have s1:=xw AT
   have s2:Txt.slice x (some ((a.length:Int)+1)) none=mk b:=by have g:=jy (x:=x) (p:=a++[47]) (m:=b) (by rw[AT,aC];rfl);rw[af]at g;exact g
   have Si:eU (L (mk a)):=by rw[dr];have:=hx.take a.length;rwa[AT,List.take_left]at this
   have uq:=nO (C:=C) P (lv:=4) (aj _) Si
   have rc:=d8 (C:=C) P (lv:=2) (aj _) (x:=mk b) (by rw[dr];exact qV [.le (.v 0) (.n 1000),.eq (.v 0) (.a (.a (.v 1) (.n 1)) (.v 2)),.lt (.n 0) (.v 1)] (.le (.v 2) (.n 1000)) [1,.negSucc 0,1] (Eq.refl true) oh eC Jd)
   rw[dr]at uq rc
   have Xs:decide (((a.length:Nat):Int)<1)=false:=decide_eq_false (by exact sH [.lt (.n 0) (.v 0)] (.no (.A2 (.c (.v 0)) (.n 1))) [1] (Eq.refl true) Jd)
   cases hu:gH a with
   |none=>rw[hu]at uq;exact Calls.exc rfl λL' outer A F=>by apply p F [rv (.int a.length) [.book B],ff,ru (.str (mk a)),.u none] (m_rfind AX) Xs (As (a8 1000 (by exact oh) rfl) s1) (aX P.G F P.fZ rfl (bx hl) uq rfl) (DK P F (bx hl) rfl)
   |some u=>
    rw[hu]at uq
    rw[bg]
    cases hv:bz b with
    |none=>rw[hv]at rc;exact Calls.exc rfl λL' outer A F=>by apply p F [rv (.int a.length) [.book B],ff,ru (.str (mk a)),ru (.str (mk u)),rv (.int (ix (mk u) (B.atom (mk u)).texts:Nat)) [.book (B.atom (mk u))],ru (.str (mk b)),.u none] (m_rfind AX) Xs (As (a8 1000 (by exact oh) rfl) s1) (aX P.G F P.fZ rfl (bx hl) uq rfl) (B7 P F (bx hl) rfl rfl hz rfl) (As (a8 1000 (by exact oh) rfl) s2) (aX P.G F P.bV rfl (bx hl) rc rfl) (B8 P F (bx hl) rfl)
    |some v=>
     rw[hv]at rc
     have hf':(B.atom (mk u)).bq.length<=1000000:=by rw[(B.jz (mk u)).2];exact ow
     exact Calls.ret (os2:=[.book (B.func (mk u) v)]) 1 rfl λL' outer A F=>by apply p F [rv (.int a.length) [.book B],ff,ru (.str (mk a)),ru (.str (mk u)),rv (.int (ix (mk u) (B.atom (mk u)).texts:Nat)) [.book (B.atom (mk u))],ru (.str (mk b)),ru (.int v),rv (.int (ix (ix (mk u) (B.atom (mk u)).texts,v) (B.func (mk u) v).bq:Nat)) [.book (B.func (mk u) v)]] (m_rfind AX) Xs (As (a8 1000 (by exact oh) rfl) s1) (aX P.G F P.fZ rfl (bx hl) uq rfl) (B7 P F (bx hl) rfl rfl hz rfl) (As (a8 1000 (by exact oh) rfl) s2) (aX P.G F P.bV rfl (bx hl) rc rfl) (EE (f:=(ix (mk u) (B.atom (mk u)).texts,v)) P F (bx hl) rfl rfl hf' rfl)
theorem Sj{p:Pos}(hl:os.all Ob.live=true):To (tE C fr (.Dict [] [] p)) l os (some (.o os.length)) (os++[.dT []]):=To.new (c:= .hV []) (λq h=>aB.mp hl q h) (λ_=>rfl) (λ_=>rfl) λ_ _ _ _ _ h=>j1 λd hd=>⟨_,.inr (.inr rfl),h d hd⟩
theorem Sk{p:Pos}(hl:os.all Ob.live=true):To (tE C fr (.Dict [] [] p)) l os (some (.o os.length)) (os++[.dI []]):=To.new (c:= .m7 []) (λq h=>aB.mp hl q h) (λ_=>rfl) (λ_=>rfl) λ_ _ _ _ _ h=>j1 λd hd=>⟨_,.inr (.inl rfl),h d hd⟩
theorem NA(G:dh C)(F:aG C fr){k:Nat}{acc:List ((Int×Int)×Int)}{a n:Int}(hk:os[k]?=some (.dT (qE acc))):To (t2 C fr (compareOp .In) (.v (.tup [.int a,.int n])) (.o k)) l os (sv (.bool (decide ((a,n)∈acc.map (·.1))))) os:=
 To.read hk (λ_=>rfl) λ_ _ _ _ _ hc q=>MG (ks:=[a,n]) G F hc (by rw[z7];exact q)
theorem NC(G:dh C){k:Nat}{acc:List (Int×Int)}{n:Int}(hk:os[k]?=some (.dI acc)):To (t2 C fr (compareOp .In) (.v (.int n)) (.o k)) l os (sv (.bool (decide (n∈acc.map (·.1))))) os:=
 To.read hk (λ_=>rfl) λ_ _ _ _ _ hc q=>MF G hc (by rw[GG];exact q)
theorem Sl(F:aG C fr){k:Nat}{acc:List ((Int×Int)×Int)}{a n v:Int}(hk:os[k]?=some (.dT (qE acc)))(hn:(a,n)∉acc.map (·.1))(hsz:acc.length<=2000):Al C fr (.o k) (.v (.tup [.int a,.int n])) (.v (.int v)) l os (os.set k (.dT (qE (acc++[((a,n),v)])))):=by
 have e:qE (acc++[((a,n),v)])=qA (qE acc) [a,n] v:=by
  rw[r5,qE,aI];rfl
  have:=z7 (acc:=acc) (k:=a) (n:=n)
  rw[decide_eq_false hn]at this
  exact Option.not_isSome_iff_eq_none.mp (by rw[this];decide)
 rw[e]
 exact⟨by rw[a7];exact aj _,nH.dT F (ks:=[a,n]) hk (a8 2000 (by rw[qE,ae];exact hsz) rfl)⟩
theorem Sm{k:Nat}{acc:List (Int×Int)}{n v:Int}(hk:os[k]?=some (.dI acc))(hn:n∉acc.map (·.1))(hsz:acc.length<=2000):Al C fr (.o k) (.v (.int n)) (.v (.int v)) l os (os.set k (.dI (acc++[(n,v)]))):=by
 have e:acc++[(n,v)]=qA acc n v:=by
  rw[r5]
  have:=GG (acc:=acc) (n:=n)
  rw[decide_eq_false hn]at this
  exact Option.not_isSome_iff_eq_none.mp (by rw[this];decide)
 rw[e]
 exact⟨by rw[a7];exact aj _,nH.dI hk (a8 2000 hsz rfl)⟩
theorem pg{ws:List (List Nat)}{i:Nat}{w:List Nat}(h:ws[i]?=some w):(aN ws)[i]?=some (.str (mk w)):=by rw[bo,h];rfl
theorem vZ{w a b:List Nat}{c:Nat}(h:dK c w=some (a,b))(hw:eU w):Txt.slice (mk w) none (some (a.length:Int))=mk a/\Txt.slice (mk w) (some ((a.length:Int)+1)) none=mk b/\eU a/\b.length<=1000:=by
 have AT:=(g6 h).1
 have eC:w.length=a.length+(b.length+1):=by rw[AT,af,ay]
 have g:=jy (x:=mk w) (p:=a++[c]) (m:=b) (by rw[dr,AT,aC];rfl)
 rw[af]at g
 exact⟨xw ((dr w).trans AT),g,⟨aa (eC▸ax _ _) hw.1,λy hy=>hw.2 y (AT▸dF _ hy)⟩,aa (eC▸aa (bF _) (iG _ _)) hw.1⟩
theorem ND{w v:List Nat}{x:Str}(h:L x=v):decide (mk w=x)=decide (w=v):=by rw[decide_eq_decide,<-f7 x,h,u0]
noncomputable abbrev B9:List Stmt:=jb aD.body 3
noncomputable abbrev E9(i:Nat):Stmt:=(B9[i]?).getD (.Pass ⟨0,0,0,0⟩)
noncomputable abbrev lL(kd:Str)(pl:Nat)(x y z:Option EV):Lo:=[some (.o 0),some (.o 1),sv (.int pl),sv (.str kd),some (.o 2),x,y,z]
section
variable{L':Addr}{outer:List Env}{A:Around}{κ:Type}[DecidableEq κ]
structure Hq(C:Ctx)(lv:Nat)(rd:ar->List Nat->Option (κ×ar))(f:List (κ×Int)->dA)(D:List (κ×Int)->Ob)(kd:Str):Prop where
 len:∀{B w q},rd B w=some q->q.2.texts.length<=B.texts.length+1/\q.2.bq.length<=B.bq.length+1
 new:∀{fr:Fm} {l:Lo} {os:List Ob} {p:Pos},os.all Ob.live=true->To (tE C fr (.Dict [] [] p)) l os (some (.o os.length)) (os++[D []])
 ret:∀{L' outer A},aG C (aD.frame L' outer A lv)->∀{B:ar} {xs:List PV} {acc:List (κ×Int)} {p:Nat} {x y z:Option EV},Runs (WS C (aD.frame L' outer A lv) ((aD.body[5]?).getD (.Pass ⟨0,0,0,0⟩))) 2 (lL kd p x y z) [.book B,.list xs,D acc] (.ret (.v (.tup [(f acc).pv,.int (p+1:Nat)])) [.book B,.list xs,.gone])
 turn:∀{L' outer A},aG C (aD.frame L' outer A lv)->∀{B:ar} {xs:List PV} {acc:List (κ×Int)} {pl:Nat} {w a b:List Nat} {G:Prop},dK 58 w=some (a,b)->eU w->a≠[]->acc.length<=2000->B.texts.length<=1000000->B.bq.length<=1000000->
  (xz rd B acc a b=none->Runs (hZ C (aD.frame L' outer A lv) (B9.drop 3)) 3 (lL kd pl (sv (.str (mk w))) (sv (.int a.length)) none) [.book B,.list xs,D acc] .exc->G)->
  (∀e x,xz rd B acc a b=some e->Runs (hZ C (aD.frame L' outer A lv) (B9.drop 3)) 3 (lL kd pl (sv (.str (mk w))) (sv (.int a.length)) none) [.book B,.list xs,D acc] (.norm (lL kd (pl+1) (sv (.str (mk w))) (sv (.int a.length)) x) [.book e.1.2,.list xs,D (acc++[(e.1.1,(e.2:Int))])])->G)->G
theorem Sn(P:PO C K bN bO)(hl:6<=lv):Hq C lv dL .eg (λa=> .dT (qE a)) (Str.ofString "T"):=by
 refine⟨li,Sj,λ{L' outer A} F {B xs acc p x y z}=> ?_,λ{L' outer A} F {B xs acc pl w a b G} hc hw h0 ha hz ow k0 k1=> ?_⟩
 ·apply cN F ((aD.body[5]?).getD (.Pass ⟨0,0,0,0⟩)) (lL (Str.ofString "T") p x y z) [.book B,.list xs,.dT (qE acc)] [tt]
 obtain⟨s1,s2,Si,OJ⟩:=vZ hc hw
 have rk:=nQ (C:=C) (B:=B) P (lv:=5) (aj _) (x:=mk a) hz (by rw[dr];exact Si) (by rw[dr];exact h0)
 have rc:=d8 (C:=C) P (lv:=2) (aj _) (x:=mk b) (by rw[dr];exact OJ)
 rw[dr]at rk rc
 have sl:=λ{l:Lo} {os:List Ob} {i j r} (h:Txt.slice (mk w) i j=r)=>As (C:=C) (fr:=aD.frame L' outer A lv) (l:=l) (os:=os) (a8 1000 (by rw[gy];exact hw.1) rfl) h
 have p:=λ(p:Pa)=>cu (m:=3) F (B9.drop 3) (lL (Str.ofString "T") pl (sv (.str (mk w))) (sv (.int a.length)) none) [.book B,.list xs,.dT (qE acc)] ([tt,ru (.str (mk a))]++p)
 unfold xz at k0 k1
 cases hk:dL B a with
 |none=>rw[hk]at rk k0;exact k0 rfl (by apply p [.u none] rfl (sl s1) (cR P.G F P.ip rfl (bx hl) [0] rk rfl rfl rfl rfl rfl))
 |some q=>
  obtain⟨⟨k,n⟩,B'⟩:=q
  rw[hk]at rk k0 k1
  simp only[bg]at k0 k1
  have ck:=λ{l:Lo}=>cR (l:=l) (os:=[.book B,.list xs,.dT (qE acc)]) P.G F P.ip (by ac_rfl) (bx hl) [0] rk rfl rfl rfl rfl rfl
  have p:=λ(q:Pa)=>p ([rv (.tup [.int k,.int n]) [.book B',.list xs,.dT (qE acc)]]++q)
  by_cases hm:(k,n)∈acc.map (·.1)
  ·rw[if_pos hm]at k0
   exact k0 rfl (by apply p [ff,ru (.bool (decide ((k,n)∈acc.map (·.1)))),tt] rfl (sl s1) ck (NA P.G F rfl) (decide_eq_true hm) (c8 P F rfl (bx hl)))
  ·rw[if_neg hm]at k0 k1
   cases hv:bz b with
   |none=>rw[hv]at rc k0;exact k0 rfl (by apply p [ff,ru (.bool (decide ((k,n)∈acc.map (·.1)))),ff,ru (.str (mk b)),.u none] rfl (sl s1) ck (NA P.G F rfl) (decide_eq_false hm) (sl s2) (aX P.G F P.bV rfl (bx hl) rc rfl))
   |some v=>
    rw[hv]at rc k1
    exact k1 _ (sv (.tup [.int k,.int n])) rfl (by apply p [ff,ru (.bool (decide ((k,n)∈acc.map (·.1)))),ff,ru (.str (mk b)),ru (.int v),ff,.c none [.book B',.list xs,.dT (qE (acc++[((k,n),(v:Int))]))]] rfl (sl s1) ck (NA P.G F rfl) (decide_eq_false hm) (sl s2) (aX P.G F P.bV rfl (bx hl) rc rfl) (Sl F rfl hm ha))
theorem So(P:PO C K bN bO)(hl:6<=lv):Hq C lv dM .tabI .dI (Str.ofString "U"):=by
 refine⟨lj,Sk,λ{L' outer A} F {B xs acc p x y z}=> ?_,λ{L' outer A} F {B xs acc pl w a b G} hc hw h0 ha hz ow k0 k1=> ?_⟩
 ·apply cN F ((aD.body[5]?).getD (.Pass ⟨0,0,0,0⟩)) (lL (Str.ofString "U") p x y z) [.book B,.list xs,.dI acc] [tt]
 obtain⟨s1,s2,Si,OJ⟩:=vZ hc hw
 have rk:=pf (C:=C) (B:=B) P (lv:=5) (aj _) (x:=mk a) hz ow (by rw[dr];exact Si)
 have rc:=d8 (C:=C) P (lv:=2) (aj _) (x:=mk b) (by rw[dr];exact OJ)
 rw[dr]at rk rc
 have sl:=λ{l:Lo} {os:List Ob} {i j r} (h:Txt.slice (mk w) i j=r)=>As (C:=C) (fr:=aD.frame L' outer A lv) (l:=l) (os:=os) (a8 1000 (by rw[gy];exact hw.1) rfl) h
 have p:=λ(p:Pa)=>cu (m:=3) F (B9.drop 3) (lL (Str.ofString "U") pl (sv (.str (mk w))) (sv (.int a.length)) none) [.book B,.list xs,.dI acc] ([ff,ru (.str (mk a))]++p)
 unfold xz at k0 k1
 cases hk:dM B a with
 |none=>rw[hk]at rk k0;exact k0 rfl (by apply p [.u none] rfl (sl s1) (cR P.G F P.iY rfl (bx hl) [0] rk rfl rfl rfl rfl rfl))
 |some q=>
  obtain⟨n,B'⟩:=q
  rw[hk]at rk k0 k1
  simp only[bg]at k0 k1
  have ck:=λ{l:Lo}=>cR (l:=l) (os:=[.book B,.list xs,.dI acc]) P.G F P.iY (by ac_rfl) (bx hl) [0] rk rfl rfl rfl rfl rfl
  have p:=λ(q:Pa)=>p ([rv (.int n) [.book B',.list xs,.dI acc]]++q)
  by_cases hm:n∈acc.map (·.1)
  ·rw[if_pos hm]at k0
   exact k0 rfl (by apply p [ff,ru (.bool (decide (n∈acc.map (·.1)))),tt] rfl (sl s1) ck (NC P.G rfl) (decide_eq_true hm) (c8 P F rfl (bx hl)))
  ·rw[if_neg hm]at k0 k1
   cases hv:bz b with
   |none=>rw[hv]at rc k0;exact k0 rfl (by apply p [ff,ru (.bool (decide (n∈acc.map (·.1)))),ff,ru (.str (mk b)),.u none] rfl (sl s1) ck (NC P.G rfl) (decide_eq_false hm) (sl s2) (aX P.G F P.bV rfl (bx hl) rc rfl))
   |some v=>
    rw[hv]at rc k1
    exact k1 _ (sv (.int n)) rfl (by apply p [ff,ru (.bool (decide (n∈acc.map (·.1)))),ff,ru (.str (mk b)),ru (.int v),ff,.c none [.book B',.list xs,.dI (acc++[(n,(v:Int))])]] rfl (sl s1) ck (NC P.G rfl) (decide_eq_false hm) (sl s2) (aX P.G F P.bV rfl (bx hl) rc rfl) (Sm rfl hm ha))
theorem J6(P:PO C K bN bO)(hl:6<=lv){rd:ar->List Nat->Option (κ×ar)}{f:List (κ×Int)->dA}{D:List (κ×Int)->Ob}{kd:Str}(H:Hq C lv rd f D kd)(F:aG C (aD.frame L' outer A lv)){ws:List (List Nat)}(hn:ws.length<=1000)(hx:∀w∈ws,eU w){G:Prop}(rs:List (List Nat)):
 ∀{pl:Nat} {B:ar} {acc:List (κ×Int)},rs<:+ws->pl+rs.length=ws.length->acc.length<=pl->B.texts.length+rs.length<=900000->B.bq.length+rs.length<=900000->
 (∀k,eV rd B acc rs=none->ja C (aD.frame L' outer A lv) (An aD.body 3) B9 [5,6,7] 3 k (lL kd pl none none none) [.book B,.list (aN ws),D acc] .exc->G)->
 (∀k B' zA,eV rd B acc rs=none->ja C (aD.frame L' outer A lv) (An aD.body 3) B9 [5,6,7] 3 k (lL kd pl none none none) [.book B,.list (aN ws),D acc] (.norm (lL kd ws.length none none none) [.book B',.list (aN ws),D zA])->G)->
 (∀k x p,eV rd B acc rs=some x->p+(x.2.2.length+1)=ws.length->ja C (aD.frame L' outer A lv) (An aD.body 3) B9 [5,6,7] 3 k (lL kd pl none none none) [.book B,.list (aN ws),D acc] (.norm (lL kd p none none none) [.book x.2.1,.list (aN ws),D x.1])->G)->G:=by
 induction rs with
 |nil=>
  intro pl B acc _ hp _ _ _ _ k1 _
  cases show pl=ws.length from hp
  have t:=qp F (An aD.body 3) (lL kd ws.length none none none) [.book B,.list (aN ws),D acc] [ru (.int ws.length),ff] (cO P F (by ac_rfl) rfl (ae _) (ak hn (by decide))) (decide_eq_false (Int.lt_irrefl _)) false rfl
  exact k1 0 B acc rfl (.stop t)
 |cons w rs ih=>
  intro pl B acc hs hp ha hz ow k0 k1 k2
  have hw:=uv hs hp
  have fg:pl<ws.length:=eK (cI (cP _)) hp
  have Jt:=hx w (aT hw)
  have it:=λ{l:Lo}=>wn (C:=C) (fr:=aD.frame L' outer A lv) (l:=l) (os:=[.book B,.list (aN ws),D acc]) (k:=1) (i:=pl) rfl (aa fg (aa hn (by decide))) (pg hw)
  have tp:=λ(p:Pa)=>qp F (An aD.body 3) (lL kd pl none none none) [.book B,.list (aN ws),D acc] ([ru (.int ws.length),tt,ru (.str (mk w))]++p)
  have ln:=λ{l:Lo}=>cO (l:=l) (os:=[.book B,.list (aN ws),D acc]) P F (by ac_rfl) (k:=1) rfl (ae (as:=ws) _) (ak hn (by decide))
  have F4:decide ((pl:Int)<(ws.length:Int))=true:=decide_eq_true (bI.mpr fg)
  rw[eV]at k0 k1 k2
  by_cases h1:w=[125]
  ·rw[if_pos h1]at k2
   exact k2 0 (acc,B,rs) pl rfl hp (.stop (by apply tp [ff] ln F4 it (nt ((ND lh).trans (decide_eq_true h1))) false rfl))
  rw[if_neg h1]at k0 k1 k2
  have vL:To (tT C (aD.frame L' outer A lv) (An aD.body 3)) (lL kd pl none none none) [.book B,.list (aN ws),D acc] (some (.v (.bool true))) [.book B,.list (aN ws),D acc]:=by
   apply tp [tt] ln F4 it (nf ((ND lh).trans (decide_eq_false h1))) true rfl
  have AX:=zY (mk w) 58
  rw[show mk [58]=Str.ofString ":" by rw[<-f7 (Str.ofString ":"),ul],dr]at AX
  have s0:Runs (WS C (aD.frame L' outer A lv) (E9 0)) 3 (lL kd pl none none none) [.book B,.list (aN ws),D acc] (.norm (lL kd pl (sv (.str (mk w))) none none) [.book B,.list (aN ws),D acc]):=by
   apply cN F (E9 0) (lL kd pl none none none) [.book B,.list (aN ws),D acc] [ru (.str (mk w))] it
  have s1:=λ{r:Int} (h:Txt.rfind (mk w) (Str.ofString ":")=r)=>show Runs (WS C (aD.frame L' outer A lv) (E9 1)) 3 (lL kd pl (sv (.str (mk w))) none none) [.book B,.list (aN ws),D acc] (.norm (lL kd pl (sv (.str (mk w))) (sv (.int r)) none) [.book B,.list (aN ws),D acc]) by
   apply cN F (E9 1) (lL kd pl (sv (.str (mk w))) none none) [.book B,.list (aN ws),D acc] [ru (.int r)] (m_rfind h)
  have eB:B9=E9 0::E9 1::E9 2::B9.drop 3:=by rfl'
  have s2:=λ{r:Int} (h:r<1)=>show Runs (hZ C (aD.frame L' outer A lv) (E9 2::B9.drop 3)) 3 (lL kd pl (sv (.str (mk w))) (sv (.int r)) none) [.book B,.list (aN ws),D acc] .exc from Runs.stop (by
   apply cN F (E9 2) (lL kd pl (sv (.str (mk w))) (sv (.int r)) none) [.book B,.list (aN ws),D acc] [tt,ru (.str (Str.ofString "wrong entry of a table: "++mk w))] (decide_eq_true h) (d7 (a8 1024 (by rw[gy];exact bb (aR (show(Str.ofString "wrong entry of a table: ").length=24 by ac_rfl)) Jt.1) rfl)) (c8 P F rfl (bx hl))) nofun
  have go:=λ{r:Int} {bB:oj} (h:Txt.rfind (mk w) (Str.ofString ":")=r) (x:Runs (hZ C (aD.frame L' outer A lv) (E9 2::B9.drop 3)) 3 (lL kd pl (sv (.str (mk w))) (sv (.int r)) none) [.book B,.list (aN ws),D acc] bB)=>show Runs (hZ C (aD.frame L' outer A lv) B9) 3 (lL kd pl none none none) [.book B,.list (aN ws),D acc] bB from eB▸Runs.cons s0 (Runs.cons (s1 h) x)
  cases K6:dK 58 w with
  |none=>rw[K6]at AX k0;exact k0 0 rfl (.exc vL (go AX (s2 (by decide))))
  |some c=>
   rw[K6]at AX k0 k1 k2
   simp only[bg]at k0 k1 k2
   by_cases h0:c.1=[]
   ·rw[if_pos h0]at k0
    exact k0 0 rfl (.exc vL (go AX (s2 (show((c.1.length:Nat):Int)<1 by rw[h0];decide))))
   rw[if_neg h0]at k0 k1 k2
   have s3:Runs (WS C (aD.frame L' outer A lv) (E9 2)) 3 (lL kd pl (sv (.str (mk w))) (sv (.int c.1.length)) none) [.book B,.list (aN ws),D acc] (.norm (lL kd pl (sv (.str (mk w))) (sv (.int c.1.length)) none) [.book B,.list (aN ws),D acc]):=by
    apply cN F (E9 2) (lL kd pl (sv (.str (mk w))) (sv (.int c.1.length)) none) [.book B,.list (aN ws),D acc] [ff] (decide_eq_false (eH.mpr (cF.mpr (List.length_pos_iff.mpr h0))))
   have up:=λ{a:Nat} (h:a+(rs.length+1)<=900000)=>aa (ax a _) (aa h (by decide:900000<=1000000))
   have st:=λ{a b:Nat} (h:a+(rs.length+1)<=900000) (g:b<=a+1)=>aa (b7 g rs.length) (aa (aR ((bP a 1 _).trans (congrArg (a+·) (bH 1 _)))) h)
   refine H.turn F (xs:=aN ws) (pl:=pl) (B:=B) K6 Jt h0 (aa ha (aa (cG fg) (aa hn (by decide)))) (up hz) (up ow) (λe r=> ?_) λe x he r=> ?_
   ·rw[e]at k0;exact k0 0 rfl (.exc vL (go AX (Runs.cons s3 r)))
   ·rw[he]at k0 k1 k2
    simp only[bg]at k0 k1 k2
    have g:=(ah.mp he).elim λq h=>(ai.mp (eO h.2).2).elim λv hv=>H.len (hv.2▸h.1:rd B c.1=some e.1)
    have nx:=λ{bB k} (l:ja C (aD.frame L' outer A lv) (An aD.body 3) B9 [5,6,7] 3 k (lL kd (pl+1) none none none) [.book e.1.2,.list (aN ws),D (acc++[(e.1.1,(e.2:Int))])] bB)=>ja.next true vL (go AX (Runs.cons s3 r)) rfl l
    exact ih (pl:=pl+1) ((mZ w rs).trans hs) ((bP pl 1 _).trans ((congrArg (pl+·) (bH 1 _)).trans hp)) (by rw[af];exact aL ha) (st hz g.1) (st ow g.2)
     (λk h l=>k0 _ h (nx l)) (λk B' zA h l=>k1 _ B' zA h (nx l)) λk x p h hp l=>k2 _ x p h hp (nx l)
end
section
variable{κ:Type}[DecidableEq κ]
noncomputable abbrev AB(i:Nat):Stmt:=(aD.body[i]?).getD (.Pass ⟨0,0,0,0⟩)
theorem yz(P:PO C K bN bO)(hl:6<=lv){rd:ar->List Nat->Option (κ×ar)}{f:List (κ×Int)->dA}{D:List (κ×Int)->Ob}{kd:Str}(H:Hq C lv rd f D kd){ws:List (List Nat)}{pl:Nat}{w0:List Nat}{rest:List (List Nat)}(hs:w0::rest<:+ws)(hp:pl+(rest.length+1)=ws.length)(hn:ws.length<=1000)(hz:B.texts.length+rest.length<=900000)(ow:B.bq.length+rest.length<=900000)(hx:∀w∈ws,eU w):
 Calls C aD lv [.o 0,.o 1,.v (.int pl),.v (.str kd)] [.book B,.list (aN ws)] ((eQ rd f B (w0::rest)).map λp=> .v (.tup [p.1.pv,.int (ws.length-p.2.2.length:Nat)])) [.book (((eQ rd f B (w0::rest)).map (·.2.1)).getD B),.list (aN ws)]:=by
 have eB:aD.body=AB 0::AB 1::AB 2::AB 3::AB 4::aD.body.drop 5:=by rfl'
 have p0:=λ{L' outer A} (F:aG C (aD.frame L' outer A lv)) (b:Bool)=>cN (m:=2) F (AB 0) [some (.o 0),some (.o 1),sv (.int pl),sv (.str kd),none,none,none,none] [.book B,.list (aN ws)] [ru (.str (mk w0)),.b b]
 have it:=λ{fr:Fm} {l:Lo}=>wn (C:=C) (fr:=fr) (l:=l) (os:=[.book B,.list (aN ws)]) (k:=1) (i:=pl) rfl (av (eK (cI (cP _)) hp) (aa hn (by decide))) (pg (uv hs hp))
 have eb:=ND (w:=w0) qH
 rw[eQ]
 by_cases h0:w0=[123]
 ·rw[if_pos h0]
  have s0:=λ{L' outer A} (F:aG C (aD.frame L' outer A lv))=>show Runs (WS C (aD.frame L' outer A lv) (AB 0)) 2 [some (.o 0),some (.o 1),sv (.int pl),sv (.str kd),none,none,none,none] [.book B,.list (aN ws)] (.norm [some (.o 0),some (.o 1),sv (.int pl),sv (.str kd),none,none,none,none] [.book B,.list (aN ws)]) by
   apply p0 F false it (nt (eb.trans (decide_eq_true h0)))
  have s1:=λ{L' outer A} (F:aG C (aD.frame L' outer A lv))=>show Runs (WS C (aD.frame L' outer A lv) (AB 1)) 2 [some (.o 0),some (.o 1),sv (.int pl),sv (.str kd),none,none,none,none] [.book B,.list (aN ws)] (.norm (lL kd pl none none none) [.book B,.list (aN ws),D []]) by
   apply cN F (AB 1) [some (.o 0),some (.o 1),sv (.int pl),sv (.str kd),none,none,none,none] [.book B,.list (aN ws)] [.x (some (.o 2)) [.book B,.list (aN ws),D []]] (H.new rfl)
  have s2:=λ{L' outer A} (F:aG C (aD.frame L' outer A lv))=>show Runs (WS C (aD.frame L' outer A lv) (AB 2)) 2 (lL kd pl none none none) [.book B,.list (aN ws),D []] (.norm (lL kd (pl+1) none none none) [.book B,.list (aN ws),D []]) by
   apply cN F (AB 2) (lL kd pl none none none) [.book B,.list (aN ws),D []] []
  have s3:=λ{L' outer A k bB} (F:aG C (aD.frame L' outer A lv)) (l:ja C (aD.frame L' outer A lv) (An aD.body 3) B9 [5,6,7] 3 k (lL kd (pl+1) none none none) [.book B,.list (aN ws),D []] bB)=>show Runs (WS C (aD.frame L' outer A lv) (AB 3)) 2 (lL kd (pl+1) none none none) [.book B,.list (aN ws),D []] bB by
   apply cN F (AB 3) (lL kd (pl+1) none none none) [.book B,.list (aN ws),D []] [.o bB] (yn F Fn.top (ks:=[5,6,7]) (os:=[.book B,.list (aN ws),D []]) (l:=lL kd (pl+1) none none none) rfl ⟨k,l⟩)
  have s4:=λ{L' outer A} (F:aG C (aD.frame L' outer A lv)) (B:ar) (acc:List (κ×Int)) (p:Nat) (b:Bool)=>cN (m:=2) F (AB 4) (lL kd p none none none) [.book B,.list (aN ws),D acc] [ru (.int ws.length),.b b] (cO P F rfl rfl (ae _) (ak hn (by decide)))
  have go:=λ{L' outer A bB} (F:aG C (aD.frame L' outer A lv)) (h:Runs (hZ C (aD.frame L' outer A lv) (AB 3::AB 4::aD.body.drop 5)) 2 (lL kd (pl+1) none none none) [.book B,.list (aN ws),D []] bB)=>show Runs (hZ C (aD.frame L' outer A lv) aD.body) 2 [some (.o 0),some (.o 1),sv (.int pl),sv (.str kd),none,none,none,none] [.book B,.list (aN ws)] bB from eB▸(s0 F).cons ((s1 F).cons ((s2 F).cons h))
  have q:=λ{L' outer A} (F:aG C (aD.frame L' outer A lv)) {G:Prop}=>J6 (G:=G) P hl H F hn hx rest (pl:=pl+1) (acc:=[]) ((mZ w0 rest).trans hs) ((bP pl 1 _).trans ((congrArg (pl+·) (bH 1 _)).trans hp)) (bW _) hz ow
  cases hr:eV rd B [] rest with
  |none=>
   exact Calls.exc rfl λL' outer A F=>q F (λk _ l=>go F ((s3 F l).stop nofun))
    (λk B' zA _ l=>go F ((s3 F l).cons (Runs.stop (by apply s4 F B' zA ws.length true (nK rfl) (c8 P F rfl (bx hl))) nofun))) λk x p h=>absurd (hr.symm.trans h) nofun
  |some x=>
   refine Calls.ret (os2:=[.book x.2.1,.list (aN ws),.gone]) 2 rfl λL' outer A F=>q F (λk h=>absurd (hr.symm.trans h) nofun) (λk _ _ h=>absurd (hr.symm.trans h) nofun) λk y p h TQ l=> ?_
   cases ao (hr.symm.trans h)
   have e:ws.length-x.2.2.length=p+1:=Nat.sub_eq_of_eq_add (TQ.symm.trans ((congrArg (p+·) (bH _ 1)).trans (bP p 1 _).symm))
   have iI:¬p=ws.length:=ca (eK (cI (cP _)) TQ)
   show Runs _ _ _ _ (.ret (.v (.tup [(f x.1).pv,.int (ws.length-x.2.2.length:Nat)])) _)
   rw[e]
   exact go F ((s3 F l).cons (Runs.cons (show Runs (WS C (aD.frame L' outer A lv) (AB 4)) 2 (lL kd p none none none) [.book x.2.1,.list (aN ws),D x.1] (.norm (lL kd p none none none) [.book x.2.1,.list (aN ws),D x.1]) by apply s4 F x.2.1 x.1 p false (fa iI))
    ((H.ret F).stop nofun)))
 ·rw[if_neg h0]
  exact Calls.exc rfl λL' outer A F=>eB▸Runs.stop (by apply p0 F true it (nf (eb.trans (decide_eq_false h0))) (c8 P F rfl (bx hl))) nofun
end
noncomputable abbrev Sp(p:dA×ar):EV:= .v p.1.pv
theorem v0(P:PO C K bN bO)(hl:6<=lv){x:Str}{k:Nat}(hz:B.texts.length<=1000000)(ow:B.bq.length<=1000000)(hx:eU (L x))(iI:L x≠[])(hk:k∈[82,88,89,67,70,78,76]):
 Calls C fy lv [.o 0,.v (.str x),.v (.str (mk [k]))] [.book B] ((eP B k (L x)).map Sp) (Nz B (eP B k (L x))):=by
 have p:=λ{L' outer A} (F:aG C (fy.frame L' outer A lv)) (p:Pa)=>cu (m:=1) F fy.body [some (.o 0),sv (.str x),sv (.str (mk [k]))] [.book B] p
 simp only[am,aU,or_false]at hk
 rcases hk with rfl|rfl|rfl|rfl|rfl|rfl|rfl
 ·have rr:=jR (C:=C) P (lv:=3) (aj _) hx iI
  unfold eP
  rw[if_pos (by decide)]
  cases hv:j3 (L x)with
  |none=>rw[hv]at rr;exact Calls.exc rfl λL' outer A F=>by apply p F [tt,tt,.c none [.book B]] rfl rfl (aX P.G F P.e5 rfl (bx hl) rr rfl)
  |some v=>rw[hv]at rr;exact Calls.ret (os2:=[.book B]) 1 rfl λL' outer A F=>by apply p F [tt,tt,.c (some (AA v)) [.book B]] rfl rfl (aX P.G F P.e5 rfl (bx hl) rr rfl)
 ·have rr:=jR (C:=C) P (lv:=3) (aj _) hx iI
  unfold eP
  rw[if_pos (by decide)]
  cases hv:j3 (L x)with
  |none=>rw[hv]at rr;exact Calls.exc rfl λL' outer A F=>by apply p F [ff,tt,tt,.c none [.book B]] rfl rfl rfl (aX P.G F P.e5 rfl (bx hl) rr rfl)
  |some v=>rw[hv]at rr;exact Calls.ret (os2:=[.book B]) 1 rfl λL' outer A F=>by apply p F [ff,tt,tt,.c (some (AA v)) [.book B]] rfl rfl rfl (aX P.G F P.e5 rfl (bx hl) rr rfl)
 ·have rr:=jR (C:=C) P (lv:=3) (aj _) hx iI
  unfold eP
  rw[if_pos (by decide)]
  cases hv:j3 (L x)with
  |none=>rw[hv]at rr;exact Calls.exc rfl λL' outer A F=>by apply p F [ff,ff,tt,tt,.c none [.book B]] rfl rfl rfl rfl (aX P.G F P.e5 rfl (bx hl) rr rfl)
  |some v=>rw[hv]at rr;exact Calls.ret (os2:=[.book B]) 1 rfl λL' outer A F=>by apply p F [ff,ff,tt,tt,.c (some (AA v)) [.book B]] rfl rfl rfl rfl (aX P.G F P.e5 rfl (bx hl) rr rfl)
 ·have rk:=nQ (B:=B) P (lv:=5) (aj _) hz hx iI
  unfold eP
  rw[if_neg (by decide),if_pos rfl]
  cases hv:dL B (L x)with
  |none=>rw[hv]at rk;exact Calls.exc rfl λL' outer A F=>by apply p F [ff,ff,ff,ff,tt,.c none [.book B]] rfl rfl rfl rfl rfl (cR P.G F P.ip rfl (bx hl) [0] rk rfl rfl rfl rfl rfl)
  |some v=>rw[hv]at rk;exact Calls.ret (os2:=[.book v.2]) 1 rfl λL' outer A F=>by apply p F [ff,ff,ff,ff,tt,.c (some (LV v)) [.book v.2]] rfl rfl rfl rfl rfl (cR P.G F P.ip rfl (bx hl) [0] rk rfl rfl rfl rfl rfl)
 ·have rk:=pf (B:=B) P (lv:=5) (aj _) hz ow hx
  unfold eP
  rw[if_neg (by decide),if_neg (by decide),if_pos rfl]
  cases hv:dM B (L x)with
  |none=>rw[hv]at rk;exact Calls.exc rfl λL' outer A F=>by apply p F [ff,ff,ff,ff,ff,tt,.c none [.book B]] rfl rfl rfl rfl rfl rfl (cR P.G F P.iY rfl (bx hl) [0] rk rfl rfl rfl rfl rfl)
  |some v=>rw[hv]at rk;exact Calls.ret (os2:=[.book v.2]) 1 rfl λL' outer A F=>by apply p F [ff,ff,ff,ff,ff,tt,.c (some (LW v)) [.book v.2]] rfl rfl rfl rfl rfl rfl (cR P.G F P.iY rfl (bx hl) [0] rk rfl rfl rfl rfl rfl)
 ·have rr:=d8 (C:=C) P (lv:=2) (aj _) hx.1
  unfold eP
  rw[if_neg (by decide),if_neg (by decide),if_neg (by decide)]
  cases hv:bz (L x)with
  |none=>rw[hv]at rr;exact Calls.exc rfl λL' outer A F=>by apply p F [ff,ff,ff,ff,ff,ff,.c none [.book B]] rfl rfl rfl rfl rfl rfl (aX P.G F P.bV rfl (bx hl) rr rfl)
  |some v=>rw[hv]at rr;exact Calls.ret (os2:=[.book B]) 1 rfl λL' outer A F=>by apply p F [ff,ff,ff,ff,ff,ff,rv (.int v) [.book B]] rfl rfl rfl rfl rfl rfl (aX P.G F P.bV rfl (bx hl) rr rfl)
 ·have rr:=d8 (C:=C) P (lv:=2) (aj _) hx.1
  unfold eP
  rw[if_neg (by decide),if_neg (by decide),if_neg (by decide)]
  cases hv:bz (L x)with
  |none=>rw[hv]at rr;exact Calls.exc rfl λL' outer A F=>by apply p F [ff,ff,ff,ff,ff,ff,.c none [.book B]] rfl rfl rfl rfl rfl rfl (aX P.G F P.bV rfl (bx hl) rr rfl)
  |some v=>rw[hv]at rr;exact Calls.ret (os2:=[.book B]) 1 rfl λL' outer A F=>by apply p F [ff,ff,ff,ff,ff,ff,rv (.int v) [.book B]] rfl rfl rfl rfl rfl rfl (aX P.G F P.bV rfl (bx hl) rr rfl)
theorem m_split{os1:List Ob}{x:Str}{ws:List (List Nat)}(hl:os.all Ob.live=true)(hx:(L x).length<=1000000)(hw:iE (L x)=ws):gR C fr "split" (.v (.str x)) os1 [.v (.str " ")] l os (some (.o os.length)) (os++[.list (aN ws)]):=by
 have esp:Str.ofString " "=mk [32]:=by rw[<-f7 (Str.ofString " "),yh]
 have Io:(L x).length=x.length:=fV x
 have hsp:(Txt.split x (Str.ofString " ")).map PV.str=aN ws:=by
  rw[<-hw,esp,<-GI,aN,bU];apply dU;intro y _;simp
 refine o8 bm_split rfl (To.new (c:= .list (aN ws)) (λq h=>aB.mp hl q h) (λ_=>rfl) (λ_=>rfl) λas ρ σ Q X h=> ?_)
 rw[<-hsp]at h
 show WN C fr _ [.str x,.str (Str.ofString " ")] ρ σ Q X
 with_reducible refine FQ (by ac_rfl) (by rw[gZ];exact aa hx (by decide)) ?_ h
 rw[PySem.StrLaws.partsBetween_eq]
 have e1:∀(J7:List Nat) (a w:Nat),(PySem.StrLaws.partsFrom x w a J7).length=J7.length+1:=by
  intro J7
  induction J7 with
  |nil=>intro a w;rfl
  |cons c r ih=>intro a w;show(_::PySem.StrLaws.partsFrom x w _ r).length=_;rw[ay,ih,ay]
 rw[e1]
 have:=PySem.StrLaws.occ_length_le x (Str.ofString " ") 0 x.length (x.length+1)
 rw[gZ];exact qV [.le (.v 0) (.n 1000000),.eq (.v 0) (.v 1),.le (.v 2) (.a (.v 1) (.n 1))] (.le (.a (.v 2) (.n 1)) (.n 16777216)) [1,.negSucc 0,1] (Eq.refl true) hx Io this
theorem yA(P:PO C K bN bO)(hl:2<=lv){L':Addr}{outer:List Env}{A:Around}(F:aG C (ef.frame L' outer A lv)){x:Str}:∀ws:List (List Nat),
 Loop C (ef.frame L' outer A lv) (jb ef.body 1) [2] 1 2 (aN ws) [sv (.str x),some (.o 0),none] [.held] (if[]∈ws then .exc else .norm [sv (.str x),some (.o 0),none] [.held])
 |[]=> .nil
 |w::ws=>by
  have p:=λ(p:Pa)=>cu (m:=1) F (jb ef.body 1) [sv (.str x),some (.o 0),sv (.str (mk w))] [.held] p
  have e:decide (mk w=Str.ofString "")=decide (w=[]):=by rw[decide_eq_decide,show Str.ofString ""=mk []from rfl,u0]
  by_cases h:w=[]
  ·rw[if_pos (by rw[h];exact aJ ..)]
   apply .exc (p [tt] (e.trans (decide_eq_true h)) (c8 P F rfl (bx hl)))
  ·with_unfolding_all have b:=p [ff] (e.trans (decide_eq_false h))
   have ih:=yA P hl F (x:=x) ws
   by_cases hm:[]∈ws
   ·rw[if_pos hm]at ih;rw[if_pos (aM _ hm)];exact .next true b rfl ih
   ·rw[if_neg hm]at ih;rw[if_neg (λq=>hm ((am.mp q).resolve_left λq=>h q.symm))];exact .next true b rfl ih
theorem AC(P:PO C K bN bO)(hl:2<=lv){x:Str}(hx:(L x).length<=1000000):Calls C ef lv [.v (.str x)] [] (if[]∈iE (L x)then none else some (.o 0)) [.list (aN (iE (L x)))]:=by
 by_cases h:[]∈iE (L x)
 ·rw[if_pos h]
  exact Calls.exc rfl λL' outer A F=>by
   have q:=yA P hl F (x:=x) (iE (L x))
   rw[if_pos h]at q
   have w:=GN F Fn.top (x:="word") (i:=2) (k:=0) (ks:=[2]) (os:=[.list (aN (iE (L x)))]) (l:=[sv (.str x),some (.o 0),none]) (o':= .exc) (by ac_rfl) rfl rfl q rfl
   apply cu (m:=0) F ef.body [sv (.str x),none,none] [] [.c (some (.o 0)) [.list (aN (iE (L x)))],.o .exc] (m_split rfl hx rfl) w
 ·rw[if_neg h]
  exact Calls.ret (os2:=[.list (aN (iE (L x)))]) 1 rfl λL' outer A F=>by
   have q:=yA P hl F (x:=x) (iE (L x))
   rw[if_neg h]at q
   have w:=GN F Fn.top (x:="word") (i:=2) (k:=0) (ks:=[2]) (os:=[.list (aN (iE (L x)))]) (l:=[sv (.str x),some (.o 0),none]) (o':= .norm [sv (.str x),some (.o 0),none] [.list (aN (iE (L x)))]) (by ac_rfl) rfl rfl q ⟨rfl,rfl⟩
   apply cu (m:=0) F ef.body [sv (.str x),none,none] [] [.c (some (.o 0)) [.list (aN (iE (L x)))],.o (.norm [sv (.str x),some (.o 0),none] [.list (aN (iE (L x)))])] (m_split rfl hx rfl) w
theorem Hr(P:PO C K bN bO)(F:aG C fr)(hk:fr.env.kindOf "read_table"=some .globalImplicit)(hl:6<fr.lvl){ws:List (List Nat)}{pl k:Nat}{w0:List Nat}{rest:List (List Nat)}{xs:List PV}(AW:k=84\/k=85)(hs:w0::rest<:+ws)(hp:pl+(rest.length+1)=ws.length)(hn:ws.length<=1000)(hz:B.texts.length+rest.length<=900000)(ow:B.bq.length+rest.length<=900000)(hx:∀w∈ws,eU w):
 dO C fr "read_table" [.o 0,.o 1,.v (.int pl),.v (.str (mk [k]))] l [.book B,.list (aN ws),jQ,.list xs] ((um B k (w0::rest)).map λp=> .v (.tup [p.1.pv,.int (ws.length-p.2.2.length:Nat)])) [.book (((um B k (w0::rest)).map (·.2.1)).getD B),.list (aN ws),jQ,.list xs]:=by
 have go:=λ{κ:Type} [DecidableEq κ] {rd:ar->List Nat->Option (κ×ar)} {f:List (κ×Int)->dA} {D:List (κ×Int)->Ob} {kd:Str} (H:Hq C 6 rd f D kd)=>
  have h:=yz (C:=C) P (aj _) H hs hp hn hz ow hx
  cR (out':=(eQ rd f B (w0::rest)).map λp=> .v (.tup [p.1.pv,.int (ws.length-p.2.2.length:Nat)])) (os4:=[.book (((eQ rd f B (w0::rest)).map (·.2.1)).getD B),.list (aN ws),jQ,.list xs]) (os:=[.book B,.list (aN ws),jQ,.list xs]) (l:=l) P.G F P.yP hk hl [0,1] h rfl rfl rfl (by cases eQ rd f B (w0::rest)<;>rfl) rfl
 rcases AW with rfl|rfl
 ·exact kT▸go (Sn P (aj _))
 ·exact kU▸go (So P (aj _))
noncomputable abbrev Ip:List Stmt:=jb az.body 3
noncomputable abbrev Sq(i:Nat):Stmt:=(Ip[i]?).getD (.Pass ⟨0,0,0,0⟩)
noncomputable abbrev wo(pl:Nat)(x y z:Option EV):Lo:=[some (.o 0),some (.o 1),some (.o 2),some (.o 3),sv (.int pl),x,y,z]
noncomputable abbrev ol(B:ar)(ws:List (List Nat))(w0:List Nat)(ic:List dA):List Ob:=[.book B,.list (aN ws),jQ,.list (.str (mk w0)::ic.map dA.pv)]
section
variable{L':Addr}{outer:List Env}{A:Around}{ws rs:List (List Nat)}{w0:List Nat}{G:Prop}
theorem J8(F:aG C (az.frame L' outer A lv)){k:Nat}{a b c d e:Option EV}:To (tT C (az.frame L' outer A lv) (Im Ip 1)) [a,b,c,d,e,sv (.str (mk [k])),none,none] os (sv (.bool (decide (k=84\/k=85)))) os:=by
 have tT:=Ez (c:=k) (x:=Str.ofString "T") (kT▸dr _)
 have tU:=Ez (c:=k) (x:=Str.ofString "U") (kU▸dr _)
 have p:=λ(p:Pa)=>qp F (Im Ip 1) [a,b,c,d,e,sv (.str (mk [k])),none,none] os p
 by_cases h1:k=84
 ·rw[decide_eq_true (.inl h1)]
  apply p [tt] (tT.trans (decide_eq_true h1)) true rfl
 ·rw[decide_eq_decide.mpr (or_iff_right h1)]
  cases h2:decide (k=85)with
  |true=>apply p [ff,tt] (tT.trans (decide_eq_false h1)) (tU.trans h2) true rfl
  |false=>apply p [ff,ff] (tT.trans (decide_eq_false h1)) (tU.trans h2) false rfl
theorem J9(P:PO C K bN bO)(hl:7<=lv)(F:aG C (az.frame L' outer A lv))(eC:ws.length<=901)(h0:ws[0]?=some w0)(hx:∀w∈ws,eU w)(iI:∀w∈ws,w≠[]){k pl:Nat}{done:List dA}(hk:k∈cB)(hs:rs<:+ws)(hp:pl+rs.length=ws.length)(hd:done.length<1000)(hz:B.texts.length+rs.length<=850000)(ow:B.bq.length+rs.length<=850000)
 (k0:kH B k rs=none->Runs (hZ C (az.frame L' outer A lv) Ip) 4 (wo pl (sv (.str (mk [k]))) none none) (ol B ws w0 done) .exc->G)
 (k1:∀p JW x,kH B k rs=some p->JW+p.2.2.length=ws.length->Runs (hZ C (az.frame L' outer A lv) Ip) 4 (wo pl (sv (.str (mk [k]))) none none) (ol B ws w0 done) (.norm (wo JW (sv (.str (mk [k]))) x none) (ol p.2.1 ws w0 (done++[p.1])))->G):G:=by
 have eB:Ip=Sq 0::Sq 1::[]:=by rfl'
 rw[eB]at k0 k1
 have p0:=λ(p:Pa)=>cN (m:=4) F (Sq 0) (wo pl (sv (.str (mk [k]))) none none) (ol B ws w0 done) (ru (.int ws.length)::p)
 have ln:=λ{l:Lo}=>cO (l:=l) (os:=ol B ws w0 done) P F (by ac_rfl) (k:=1) rfl (ae (as:=ws) _) (ak eC (by decide))
 cases rs with
 |nil=>
  refine k0 rfl (Runs.stop ?_ nofun)
  apply p0 [tt,ru (.str (mk w0)),ru (.str (Str.ofString "an operand is lacking: "++mk w0))] ln (decide_eq_true (cF.mpr (aR hp.symm))) (wn (i:=0) rfl (by decide) (pg h0)) (d7 (a8 1023 (by rw[gy];exact bb (aR (show(Str.ofString "an operand is lacking: ").length=23 by ac_rfl)) (hx w0 (aT h0)).1) rfl)) (c8 P F rfl (bx hl))
 |cons w rs=>
  have fg:pl<ws.length:=eK (cI (cP _)) hp
  have s0:Runs (WS C (az.frame L' outer A lv) (Sq 0)) 4 (wo pl (sv (.str (mk [k]))) none none) (ol B ws w0 done) (.norm (wo pl (sv (.str (mk [k]))) none none) (ol B ws w0 done)):=by
   apply p0 [ff] ln (decide_eq_false (Int.not_le.mpr (bI.mpr fg)))
  have p1:=λ(b:Bool) (p:Pa)=>cN (m:=4) F (Sq 1) (wo pl (sv (.str (mk [k]))) none none) (ol B ws w0 done) ([.x (sv (.bool b)) (ol B ws w0 done),.b b]++p)
  have hsz:(PV.str (mk w0)::done.map dA.pv).length<=sizeLine:=a8 1000 (by rw[ay,ae];exact hd) rfl
  have ap:=λ{l:Lo} {B' B1:ar} {o:dA}=>dC (C:=C) (fr:=az.frame L' outer A lv) (l:=l) (os:=ol B' ws w0 done) (os1:=ol B1 ws w0 done) (k:=3) (v:=o.pv) (ys:= .str (mk w0)::(done++[o]).map dA.pv) rfl rfl hsz (congrArg (PV.str (mk w0)::·) (aI (l₂:=[o])).symm)
  have vL:=J8 (os:=ol B ws w0 done) F (k:=k) (a:=some (.o 0)) (b:=some (.o 1)) (c:=some (.o 2)) (d:=some (.o 3)) (e:=sv (.int pl))
  rw[kH]at k0 k1
  by_cases NE:k=84\/k=85
  ·rw[if_pos NE]at k0 k1
   rw[decide_eq_true NE]at vL
   have up:=λ{a:Nat} (h:a+(rs.length+1)<=850000)=>show a+rs.length<=900000 from aa (bF _) (aa h (by decide))
   have tc:=Hr (B:=B) (l:=wo pl (sv (.str (mk [k]))) none none) (xs:= .str (mk w0)::done.map dA.pv) P F (by ac_rfl) (bx hl) NE hs hp (aa eC (by decide)) (up hz) (up ow) hx
   cases ht:um B k (w::rs)with
   |none=>rw[ht]at tc;exact k0 ht (s0.cons (Runs.stop (by apply p1 true [.u none] vL rfl tc) nofun))
   |some p=>
    rw[ht]at tc
    have f:=gQ hk (show kH B k (w::rs)=some p from(if_pos NE).trans ht)
    refine k1 p (ws.length-p.2.2.length) (sv (.tup [p.1.pv,.int (ws.length-p.2.2.length:Nat)])) ht (kO (f.2.RO.trans hs).length_le) (s0.cons (Runs.cons ?_ .nil))
    apply p1 true [rv (.tup [p.1.pv,.int (ws.length-p.2.2.length:Nat)]) (ol p.2.1 ws w0 done),ru p.1.pv,rv .none (ol p.2.1 ws w0 (done++[p.1])),ru (.int (ws.length-p.2.2.length:Nat))] vL rfl tc (BY (by decide) (by decide) rfl) ap (BY (by decide) (by decide) rfl)
  ·rw[if_neg NE]at k0 k1
   rw[decide_eq_false NE]at vL
   have hw:=uv hs hp
   have up:=λ{a:Nat} (h:a+(rs.length+1)<=850000)=>aa (ax a _) (aa h (by decide:850000<=1000000))
   have ro:=v0 (C:=C) (B:=B) P (lv:=6) (aj _) (x:=mk w) (up hz) (up ow) (by rw[dr];exact hx w (aT hw)) (by rw[dr];exact iI w (aT hw)) ((qI hk).resolve_left NE)
   rw[dr]at ro
   have it:=λ{l:Lo}=>wn (C:=C) (fr:=az.frame L' outer A lv) (l:=l) (os:=ol B ws w0 done) (k:=1) (i:=pl) rfl (aa fg (aa eC (by decide))) (pg hw)
   cases ht:eP B k w with
   |none=>
    rw[ht]at ro k0
    exact k0 rfl (s0.cons (Runs.stop (by apply p1 false [ru (.str (mk w)),.u none] vL rfl it (cR P.G F P.pB rfl (bx hl) [0] ro rfl rfl rfl rfl rfl) (Hm j8 rfl)) nofun))
   |some p=>
    rw[ht]at ro k1
    refine k1 (p.1,p.2,rs) (pl+1) none rfl ((bP pl 1 _).trans ((congrArg (pl+·) (bH 1 _)).trans hp)) (s0.cons (Runs.cons ?_ .nil))
    apply p1 false [ru (.str (mk w)),rv p.1.pv (ol p.2 ws w0 done),rv .none (ol p.2 ws w0 (done++[p.1]))] vL rfl it (cR P.G F P.pB rfl (bx hl) [0] ro rfl rfl rfl rfl rfl) ap
theorem Ka(P:PO C K bN bO)(hl:7<=lv)(F:aG C (az.frame L' outer A lv))(eC:ws.length<=901)(h0:ws[0]?=some w0)(hx:∀w∈ws,eU w)(iI:∀w∈ws,w≠[])(ks:List Nat):∀{rs:List (List Nat)} {pl:Nat} {B:ar} {done:List dA},(∀k∈ks,k∈cB)->rs<:+ws->pl+rs.length=ws.length->done.length+ks.length<=1000->B.texts.length+rs.length<=850000->B.bq.length+rs.length<=850000->
 (dv B ks rs=none->Loop C (az.frame L' outer A lv) Ip [5,6,7] 4 5 (ks.map λc=> .str ⟨#[c]⟩) (wo pl none none none) (ol B ws w0 done) .exc->G)->
 (∀p B' d,dv B ks rs=none->p<ws.length->Loop C (az.frame L' outer A lv) Ip [5,6,7] 4 5 (ks.map λc=> .str ⟨#[c]⟩) (wo pl none none none) (ol B ws w0 done) (.norm (wo p none none none) (ol B' ws w0 d))->G)->
 (∀q,dv B ks rs=some q->Loop C (az.frame L' outer A lv) Ip [5,6,7] 4 5 (ks.map λc=> .str ⟨#[c]⟩) (wo pl none none none) (ol B ws w0 done) (.norm (wo ws.length none none none) (ol q.2 ws w0 (done++q.1)))->G)->G:=by
 induction ks with
 |nil=>
  intro rs pl B done _ _ hp _ _ _ k0 k1 k2
  cases rs with
  |nil=>
   cases show pl=ws.length from hp
   exact k2 ([],B) rfl (by rw[bp];exact .nil)
  |cons w rs=>exact k1 pl B done rfl (eK (cI (cP _)) hp) .nil
 |cons k ks ih=>
  intro rs pl B done hk hs hp hd hz ow k0 k1 k2
  refine J9 (B:=B) (done:=done) P hl F eC h0 hx iI (hk k aJ) hs hp (av (cI (cP _)) hd) hz ow (λe r=>k0 (congrArg (Option.bind · _) e) (.exc r)) λp JW x e yR r=> ?_
  have f:=(gQ (hk k aJ) e).2
  have er:dv B (k::ks) rs=(dv p.2.1 ks p.2.2).map λq=>(p.1::q.1,q.2):=congrArg (Option.bind · _) e
  rw[er]at k0 k1 k2
  exact ih (λj hj=>hk j (aM _ hj)) (f.RO.trans hs) yR (by rw[af];exact aa (aR ((bP _ 1 _).trans (congrArg (_+·) (bH 1 _)))) hd) (aa f.bt hz) (aa f.bf ow)
   (λe l=>k0 (by rw[e];rfl) (.next true r rfl l)) (λp B' d e fg l=>k1 p B' d (by rw[e];rfl) fg (.next true r rfl l)) λq e l=>k2 (p.1::q.1,q.2) (by rw[e];rfl) (aC done [p.1] q.1▸.next true r rfl l)
end
theorem Kb(P:PO C K bN bO)(F:aG C fr)(hk:fr.env.kindOf "tuple"=some .globalImplicit){k:Nat}{xs:List PV}(ho:os[k]?=some (.list xs))(h:xs.length<=sizeLine):dO C fr "tuple" [.o k] l os (sv (.tup xs)) os:=
 pN P.G F P.rV P.rW (by decide) hk (To.read ho (λ_=>rfl) λ_ _ _ _ _ hc q=>FM hc h q)
noncomputable abbrev Sr(p:hJ×ar):EV:= .v p.1.pv
noncomputable abbrev rI(i:Nat):Stmt:=(az.body[i]?).getD (.Pass ⟨0,0,0,0⟩)
theorem qM(P:PO C K bN bO)(hl:7<=lv){w0:List Nat}{rest:List (List Nat)}(hn:rest.length<=900)(hz:B.texts.length<=800000)(ow:B.bq.length<=800000)(hx:∀w∈w0::rest,eU w)(iI:∀w∈w0::rest,w≠[]):
 Calls C az lv [.o 0,.o 1,.o 2] [.book B,.list (aN (w0::rest)),jQ] ((io B (w0::rest)).map Sr) [.book (((io B (w0::rest)).map (·.2)).getD B),.list (aN (w0::rest)),jQ]:=by
 have eB:az.body=rI 0::rI 1::rI 2::rI 3::rI 4::az.body.drop 5:=by rfl'
 have E5:∀{x:Str} {n:Nat},x.length=n->n<=30->x.length+(mk w0).length<=sizeLine:=λe h=>a8 1030 (by rw[gy,e,bH];exact bb (hx w0 (aJ ..)).1 h) rfl
 have LU:(w0::rest).length<=901:=aL hn
 have i0:=λ{fr:Fm} {l:Lo} {B:ar} {os:List Ob}=>wn (C:=C) (fr:=fr) (l:=l) (os:= .book B:: .list (aN (w0::rest))::os) (k:=1) (i:=0) (v:= .str (mk w0)) rfl (by decide) rfl
 have p:=λ{L' outer A} (F:aG C (az.frame L' outer A lv)) (p:Pa)=>cN (m:=3) F (rI 0) [some (.o 0),some (.o 1),some (.o 2),none,none,none,none,none] [.book B,.list (aN (w0::rest)),jQ] ([ru (.str (mk w0)),ru (.bool (!(bT (d0.map λp=>(p.1,PV.str p.2)) (mk w0)).isSome))]++p)
 have AW:=sZ PV.str d0 (mk w0)
 rw[io]
 cases hk:bT d0 (mk w0)with
 |none=>
  rw[hk]at AW
  exact Calls.exc rfl λL' outer A F=>eB▸Runs.stop (by apply p F [tt,ru (.str (mk w0)),ru (.str (Str.ofString "unknown instruction: "++mk w0))] i0 (uu P.G rfl) (nf (by rw[AW];rfl)) i0 (d7 (E5 (show _=21 by ac_rfl) (by decide))) (c8 P F rfl (bx hl))) nofun
 |some ks=>
  rw[hk]at AW
  rw[bg]
  have sk:=mO _ (ta hk)
  have s0:=λ{L' outer A} (F:aG C (az.frame L' outer A lv))=>show Runs (WS C (az.frame L' outer A lv) (rI 0)) 3 [some (.o 0),some (.o 1),some (.o 2),none,none,none,none,none] [.book B,.list (aN (w0::rest)),jQ] (.norm [some (.o 0),some (.o 1),some (.o 2),none,none,none,none,none] [.book B,.list (aN (w0::rest)),jQ]) by
   apply p F [ff] i0 (uu P.G rfl) (nt (by rw[AW];rfl))
  have s1:=λ{L' outer A} (F:aG C (az.frame L' outer A lv))=>show Runs (WS C (az.frame L' outer A lv) (rI 1)) 3 [some (.o 0),some (.o 1),some (.o 2),none,none,none,none,none] [.book B,.list (aN (w0::rest)),jQ] (.norm [some (.o 0),some (.o 1),some (.o 2),some (.o 3),none,none,none,none] (ol B (w0::rest) w0 [])) by
   apply cN F (rI 1) [some (.o 0),some (.o 1),some (.o 2),none,none,none,none,none] [.book B,.list (aN (w0::rest)),jQ] [ru (.str (mk w0))] i0
  have s2:=λ{L' outer A} (F:aG C (az.frame L' outer A lv))=>show Runs (WS C (az.frame L' outer A lv) (rI 2)) 3 [some (.o 0),some (.o 1),some (.o 2),some (.o 3),none,none,none,none] (ol B (w0::rest) w0 []) (.norm (wo 1 none none none) (ol B (w0::rest) w0 [])) by
   apply cN F (rI 2) [some (.o 0),some (.o 1),some (.o 2),some (.o 3),none,none,none,none] (ol B (w0::rest) w0 []) []
  have s3:=λ{L' outer A o} (F:aG C (az.frame L' outer A lv)) (hL:Loop C (az.frame L' outer A lv) Ip [5,6,7] 4 5 ((L ks).map λc=> .str ⟨#[c]⟩) (wo 1 none none none) (ol B (w0::rest) w0 []) o)=>show Runs (WS C (az.frame L' outer A lv) (rI 3)) 3 (wo 1 none none none) (ol B (w0::rest) w0 []) o by
   apply cN F (rI 3) (wo 1 none none none) (ol B (w0::rest) w0 []) [ru (.str (mk w0)),ru (.str ks),.o o] i0 (JQ rfl AW) (Hd F Fn.top (os:=ol B (w0::rest) w0 []) (l:=wo 1 none none none) (ks:=[5,6,7]) (x:="kind") (i:=5) (s:=ks) (by ac_rfl) rfl hL)
  have s4:=λ{L' outer A} (F:aG C (az.frame L' outer A lv)) (B':ar) (d:List dA) (p:Nat) (q:Pa)=>cN (m:=3) F (rI 4) (wo p none none none) (ol B' (w0::rest) w0 d) (ru (.int (w0::rest).length)::q) (cO P F rfl rfl (ae _) (ak LU (by decide)))
  have go:=λ{L' outer A bB} (F:aG C (az.frame L' outer A lv)) (h:Runs (hZ C (az.frame L' outer A lv) (rI 3::rI 4::az.body.drop 5)) 3 (wo 1 none none none) (ol B (w0::rest) w0 []) bB)=>show Runs (hZ C (az.frame L' outer A lv) az.body) 3 [some (.o 0),some (.o 1),some (.o 2),none,none,none,none,none] [.book B,.list (aN (w0::rest)),jQ] bB from eB▸(s0 F).cons ((s1 F).cons ((s2 F).cons h))
  have q:=λ{L' outer A} (F:aG C (az.frame L' outer A lv)) {G:Prop}=>Ka (G:=G) (B:=B) (done:=[]) (pl:=1) P hl F LU rfl hx iI (L ks) sk.2.2 (mZ w0 rest) (bH 1 _) (aa (aR (dR _)) (aa sk.1 (by decide))) (aa (bb hz hn) (by decide)) (aa (bb ow hn) (by decide))
  cases hr:dv B (L ks) rest with
  |none=>
   exact Calls.exc rfl λL' outer A F=>q F (λ_ l=>go F ((s3 F l).stop nofun))
    (λp B' d _ hp l=>go F ((s3 F l).cons (Runs.stop (by apply s4 F B' d p [tt,ru (.str (mk w0)),ru (.str (Str.ofString "too many operands: "++mk w0))] (nf (fa (ca hp))) i0 (d7 (E5 (show _=19 by ac_rfl) (by decide))) (c8 P F rfl (bx hl))) nofun))) λx e=>absurd (hr.symm.trans e) nofun
  |some r=>
   have JR:=(lz sk.2.2 hr).1
   have hsz:(PV.str (mk w0)::r.1.map dA.pv).length<=sizeLine:=a8 1000 (by rw[ay,ae,gG JR];exact ak sk.1 (by decide)) rfl
   have cr:=tW (C:=C) P (lv:=5) (aj _) (sh:=d0) hk sk.1 sk.2.1 JR
   have run:=λ{L' outer A bB} (F:aG C (az.frame L' outer A lv)) (h:Runs (hZ C (az.frame L' outer A lv) (az.body.drop 5)) 3 (wo (w0::rest).length none none none) (ol r.2 (w0::rest) w0 r.1) bB)=>show Runs (hZ C (az.frame L' outer A lv) az.body) 3 [some (.o 0),some (.o 1),some (.o 2),none,none,none,none,none] [.book B,.list (aN (w0::rest)),jQ] bB from
    q F (λe=>absurd (hr.symm.trans e) nofun) (λ_ _ _ e=>absurd (hr.symm.trans e) nofun) λx e l=>go F ((s3 F (ao (hr.symm.trans e)▸l)).cons (Runs.cons (by apply s4 F r.2 r.1 (w0::rest).length [ff] (nt (nK rfl))) h))
   have p5:=λ{L' outer A} (F:aG C (az.frame L' outer A lv)) (o:Option EV)=>cu (m:=3) F (az.body.drop 5) (wo (w0::rest).length none none none) (ol r.2 (w0::rest) w0 r.1) [ru (.tup (.str (mk w0)::r.1.map dA.pv)),.c o (ol r.2 (w0::rest) w0 r.1)] (Kb P F rfl rfl hsz)
   rw[bg]
   cases ho:fX (L ks) r.1 with
   |true=>
    rw[ho]at cr
    exact Calls.ret (os2:=ol r.2 (w0::rest) w0 r.1) 3 rfl λL' outer A F=>run F (by apply p5 F (some (.v .none)) (cR P.G F P.pz rfl (bx hl) [2] cr rfl rfl rfl rfl rfl))
   |false=>
    rw[ho]at cr
    exact Calls.exc rfl λL' outer A F=>run F (by apply p5 F none (cR P.G F P.pz rfl (bx hl) [2] cr rfl rfl rfl rfl rfl))
theorem Xu{k:Nat}{xs ys:List PV}{lo hi:Option Int}(hk:os[k]?=some (.list xs))(hy:eN xs lo hi=ys)(hsz:xs.length<=sizeLine)(hl:os.all Ob.live=true):sf C fr (.o k) lo hi l os (some (.o os.length)) (os++[.list ys]):=λe TJ Na p pos sG os1 os2 hn h1 h2 h3=> .mk λas ρ σ F s Q X q=>by
 subst hy
 refine xg (h1.go as ρ σ F s _ _ λcD cQ v1=>h2.go cD ρ cQ F v1.s _ _ λiW hG v2=>h3.go iW ρ hG F v2.s _ _ λwD Di v3=>⟨xs,?_,hsz,λa ha=> ?_⟩) (Nb hn)
 ·have ON:k<os1.length:=v1.ok
  refine .inl ⟨cD k,rfl,?_⟩
  rw[<-v2.a k ON,<-v3.a k (av ON v2.n)]
  exact v3.s.get hk λ_=>rfl
 ·have w:=v3.s.alloc (o:= .list (eN xs lo hi)) (c:= .list (eN xs lo hi)) ha (λ_=>rfl) (λ_=>rfl) λq hq=>aB.mp hl q hq
  have:=q _ _ ⟨(v1.trans (v2.trans v3)).a.trans (v1.trans (v2.trans v3)).n w.a,w.s,w.ok,aa (v1.trans (v2.trans v3)).n w.n⟩
  rwa[show EV.at (λk=>if k=os.length then a else wD k) (.o os.length)=.loc a from congrArg PV.loc (if_pos rfl)]at this
theorem Ca(x:PV)(xs:List PV):eN (x::xs) (some 1) none=xs:=by
 have e1:clipAt (xs.length+1) 1=1:=I6 (iG 1 _)
 unfold eN FW I5
 rw[ay]
 simp only[Option.elim,e1]
 rw[List.drop_succ_cons,eX,Nat.add_sub_cancel,eJ]
noncomputable section
noncomputable abbrev Iq:List Stmt:=jb bj.body 3
noncomputable abbrev Cb(i:Nat):Stmt:=(Iq[i]?).getD (.Pass ⟨0,0,0,0⟩)
end
noncomputable abbrev tb(b:Nat)(x y z:Option EV):Lo:=[some (.o 0),some (.o 1),some (.o 2),some (.o 3),sv (.int (b:Nat)),x,y,z]
noncomputable abbrev EH(B:ar)(rows:List (List Nat))(is:List hJ):List Ob:=[.book B,.list (aN rows),jQ,.list (is.map hJ.pv)]
noncomputable abbrev yB(B:ar)(rows:List (List Nat))(is:List hJ)(ws:List (List Nat)):List Ob:=[.book B,.list (aN rows),jQ,.list (is.map hJ.pv),.list (aN ws)]
noncomputable abbrev Xv(B:ar)(rows:List (List Nat))(is:List hJ)(ws vs:List (List Nat)):List Ob:=[.book B,.list (aN rows),jQ,.list (is.map hJ.pv),.list (aN ws),.list (aN vs)]
section
variable{L':Addr}{outer:List Env}{A:Around}{rows:List (List Nat)}{j:Nat}{r:List Nat}{base:Option Nat}{done:List hJ}{G:Prop}
theorem Kc{α β γ:Type}{o:Option α}{f:α->Option β}(e:o.bind f=none)(g:α->β->Option γ):(o.bind λa=>(f a).bind (g a))=none:=by
 cases o with
 |none=>rfl
 |some a=>exact congrArg (λo=>Option.bind o _) e
theorem Kd(P:PO C K bN bO)(hl:8<=lv)(F:aG C (bj.frame L' outer A lv))(hj:j<100)(hb:j=0↔base=none){ad:Nat}(ha:ad.log2<1920)(hal:(Str.ofString (toString (ad:Int))).length<=500){ws:List (List Nat)}:
 Runs (WS C (bj.frame L' outer A lv) (Cb 3)) 4 (tb (base.getD 0) (sv (.int j)) (some (.o 4)) (sv (.int ad))) (yB B rows done ws) (match mQ base j ad with|some b=> .norm (tb b (sv (.int j)) (some (.o 4)) (sv (.int ad))) (yB B rows done ws)|none=> .exc):=by
 cases base with
 |none=>
  cases hb.mpr rfl
  apply cN F (Cb 3) (tb 0 (sv (.int (0:Nat))) (some (.o 4)) (sv (.int ad))) (yB B rows done ws) [tt] rfl
 |some b=>
  have ZC:¬j=0:=λe=>aW b (hb.mp e)
  by_cases h:ad=b+j
  ·rw[show mQ (some b) j ad=some b from if_pos h]
   apply cN F (Cb 3) (tb b (sv (.int j)) (some (.o 4)) (sv (.int ad))) (yB B rows done ws) [ff,ff] (fa ZC) (nt (decide_eq_true (congrArg Nat.cast h)))
  ·rw[show mQ (some b) j ad=none from if_neg h]
   have hg1:((j:Nat):Int).natAbs.log2<1920:=jh (dj hj (by decide))
   have l3:(Str.ofString (toString (j:Int))).length<=10:=x9 (n:=j) (k:=9) (dj hj (by decide))
   have l1:(Str.ofString "row ").length=4:=by ac_rfl
   have l2:(Str.ofString " has the address ").length=17:=by ac_rfl
   have lg:(Str.ofString "row ").length+(Str.ofString (toString (j:Int))).length+(Str.ofString " has the address ").length+(Str.ofString (toString (ad:Int))).length<=sizeLine:=a8 (4+10+17+500) (bb (bb (bb (aR l1) l3) (aR l2)) hal) rfl
   apply cN F (Cb 3) (tb b (sv (.int j)) (some (.o 4)) (sv (.int ad))) (yB B rows done ws) [ff,tt,.x (sv (.str ((((Str.empty++Str.ofString "row ")++Str.ofString (toString (j:Int)))++Str.ofString " has the address ")++Str.ofString (toString (ad:Int))))) (yB B rows done ws)] (fa ZC) (nf (decide_eq_false λe=>h (fD e)))
    (Zu (v1:= .int j) (v2:= .int ad) (To.name F rfl rfl rfl) (To.name F rfl rfl rfl) (.inr ⟨_,rfl,hg1,rfl⟩) (.inr ⟨_,rfl,ha,rfl⟩) lg) (c8 P F rfl (bx hl))
theorem NF(P:PO C K bN bO)(hl:8<=lv)(F:aG C (bj.frame L' outer A lv))(hj:j<rows.length)(hn:rows.length<=100)(hr:rows[j]?=some r)(og:r.length<=1000000/\(iE r).length<=900/\∀w∈iE r,eU w/\w.length<=500)(hb:j=0↔base=none)(hd:done.length<=j)(hz:B.texts.length<=800000)(ow:B.bq.length<=800000)
 (k0:((iV B r).bind λq=>mQ base j q.1)=none->Runs (hZ C (bj.frame L' outer A lv) Iq) 4 (tb (base.getD 0) (sv (.int j)) none none) (EH B rows done) .exc->G)
 (k1:∀ad i B' b x t,iV B r=some (ad,i,B')->mQ base j ad=some b->B'.texts.length<=B.texts.length+900->B'.bq.length<=B.bq.length+900->
  Runs (hZ C (bj.frame L' outer A lv) Iq) 4 (tb (base.getD 0) (sv (.int j)) none none) (EH B rows done) (.norm (tb b (sv (.int j)) (some (.o 4)) x) (EH B' rows (done++[i])++t))->G):G:=by
 obtain⟨hr1,NG,ZD⟩:=og
 have sp:=AC (C:=C) P (lv:=2) (aj _) (x:=mk r) (by rw[dr];exact hr1)
 rw[dr]at sp
 have it:=wn (C:=C) (fr:=bj.frame L' outer A lv) (l:=tb (base.getD 0) (sv (.int j)) none none) (os:=EH B rows done) (k:=1) (i:=j) rfl (dj hj (ak hn (by decide))) (pg hr)
 have p0:=λ(o:yo)=>cN (m:=4) F (Cb 0) (tb (base.getD 0) (sv (.int j)) none none) (EH B rows done) [ru (.str (mk r)),o]
 have eB:Iq=Cb 0::Cb 1::Cb 2::Cb 3::Iq.drop 4:=by rfl'
 rw[eB]at k0 k1
 by_cases he:[]∈iE r
 ·rw[if_pos he]at sp
  exact k0 (by unfold iV;rw[if_pos he];rfl) (Runs.stop (by apply p0 (.c none (yB B rows done (iE r))) it (cR P.G F P.t7 rfl (bx hl) [] sp rfl rfl rfl rfl rfl)) nofun)
 rw[if_neg he]at sp
 have s0:Runs (WS C (bj.frame L' outer A lv) (Cb 0)) 4 (tb (base.getD 0) (sv (.int j)) none none) (EH B rows done) (.norm (tb (base.getD 0) (sv (.int j)) (some (.o 4)) none) (yB B rows done (iE r))):=by
  apply p0 (.c (some (.o 4)) (yB B rows done (iE r))) it (cR P.G F P.t7 rfl (bx hl) [] sp rfl rfl rfl rfl rfl)
 have ln:=λ{l:Lo}=>cO (l:=l) (os:=yB B rows done (iE r)) P F (by ac_rfl) (k:=4) rfl (ae (as:=iE r) _) (ak NG (by decide))
 have er:iV B r=tR B (iE r):=if_neg he
 have p1:=λ(o:yo)=>cN (m:=4) F (Cb 1) (tb (base.getD 0) (sv (.int j)) (some (.o 4)) none) (yB B rows done (iE r)) [ru (.int (iE r).length),o]
 generalize J5:iE r=ws at*
 cases ws with
 |nil=>exact absurd J5 (yi r)
 |cons w0 ws=>cases ws with
  |nil=>exact k0 (congrArg (Option.bind · _) er) (Runs.cons s0 (Runs.stop (by apply p1 tt ln rfl (c8 P F rfl (bx hl))) nofun))
  |cons w1 ws=>
   have s1:Runs (WS C (bj.frame L' outer A lv) (Cb 1)) 4 (tb (base.getD 0) (sv (.int j)) (some (.o 4)) none) (yB B rows done (w0::w1::ws)) (.norm (tb (base.getD 0) (sv (.int j)) (some (.o 4)) none) (yB B rows done (w0::w1::ws))):=by
    apply p1 ff ln (decide_eq_false (eH.mpr (cF.mpr (aL (aL (bW ws.length))))))
   obtain⟨OO,hw5⟩:=ZD w0 (aJ ..)
   have rc:=d8 (C:=C) P (lv:=2) (aj _) (x:=mk w0) (by rw[dr];exact OO.1)
   rw[dr]at rc
   have p2:=λ(o:yo)=>cN (m:=4) F (Cb 2) (tb (base.getD 0) (sv (.int j)) (some (.o 4)) none) (yB B rows done (w0::w1::ws)) [ru (.str (mk w0)),o]
   have i0:=wn (C:=C) (fr:=bj.frame L' outer A lv) (l:=tb (base.getD 0) (sv (.int j)) (some (.o 4)) none) (os:=yB B rows done (w0::w1::ws)) (k:=4) (i:=0) (v:= .str (mk w0)) rfl (by decide) rfl
   rw[tR]at er
   cases hv:bz w0 with
   |none=>
    rw[hv]at rc er
    exact k0 (by rw[er];rfl) (Runs.cons s0 (Runs.cons s1 (Runs.stop (by apply p2 (.u none) i0 (aX P.G F P.bV rfl (bx hl) rc rfl)) nofun)))
   |some ad=>
    rw[hv]at rc er
    have h5:=wC hv hw5
    have s2:Runs (WS C (bj.frame L' outer A lv) (Cb 2)) 4 (tb (base.getD 0) (sv (.int j)) (some (.o 4)) none) (yB B rows done (w0::w1::ws)) (.norm (tb (base.getD 0) (sv (.int j)) (some (.o 4)) (sv (.int ad))) (yB B rows done (w0::w1::ws))):=by
     apply p2 (ru (.int ad)) i0 (aX P.G F P.bV rfl (bx hl) rc rfl)
    have s3:=Kd (B:=B) (done:=done) (rows:=rows) P hl F (av hj hn) hb (Jv h5) (Jw h5) (ws:=w0::w1::ws)
    have Xw:=λ{bB:oj} (h:Runs (hZ C (bj.frame L' outer A lv) (Cb 3::Iq.drop 4)) 4 _ _ bB)=>Runs.cons s0 (Runs.cons s1 (Runs.cons s2 h))
    cases TU:mQ base j ad with
    |none=>
     rw[TU]at s3
     refine k0 ?_ (Xw (Runs.stop s3 nofun))
     rw[er,bg]
     cases io B (w1::ws)with
     |none=>rfl
     |some q=>exact TU
    |some b=>
     rw[TU]at s3
     have ri:=qM (B:=B) P (lv:=7) (aj _) (w0:=w1) (rest:=ws) (aa (dQ (bF _)) NG) hz ow (λw hw=>(ZD w (aM _ hw)).1) (λw hw e=>he (e▸aM _ hw))
     have E8:eN (aN (w0::w1::ws)) (some 1) none=aN (w1::ws):=Ca ..
     have sl:=Xu (C:=C) (fr:=bj.frame L' outer A lv) (l:=tb b (sv (.int j)) (some (.o 4)) (sv (.int ad))) (os:=yB B rows done (w0::w1::ws)) (k:=4) rfl E8 (a8 900 (by rw[ae];exact NG) rfl) rfl
     have p4:=λ(p:Pa)=>cu (m:=4) F (Iq.drop 4) (tb b (sv (.int j)) (some (.o 4)) (sv (.int ad))) (yB B rows done (w0::w1::ws)) (.c (some (.o 5)) (Xv B rows done (w0::w1::ws) (w1::ws))::p)
     cases hi:io B (w1::ws)with
     |none=>
      rw[hi]at ri er
      exact k0 (by rw[er];rfl) (Xw (Runs.cons s3 (by apply p4 [.u none] sl (cR P.G F P.kM rfl (bx hl) [0,5,2] ri rfl rfl rfl rfl rfl) (Hm j8 rfl))))
     |some q=>
      obtain⟨i,B'⟩:=q
      rw[hi]at ri er
      obtain⟨z1,z2⟩:=tS hi
      have wl:(w1::ws).length<=900:=aa (bF _) NG
      refine k1 ad i B' b (sv (.int ad)) [.list (aN (w0::w1::ws)),.list (aN (w1::ws))] er TU (aa z1 (a6 wl _)) (aa z2 (a6 wl _)) (Xw (Runs.cons s3 ?_))
      apply p4 [rv i.pv (Xv B' rows done (w0::w1::ws) (w1::ws)),rv .none (Xv B' rows (done++[i]) (w0::w1::ws) (w1::ws))] sl (cR P.G F P.kM rfl (bx hl) [0,5,2] ri rfl rfl rfl rfl rfl)
       (dC (k:=3) rfl rfl (a8 100 (by rw[ae];exact aa hd (aa (cG hj) hn)) rfl) (aI (l₂:=[i]) ..).symm)
theorem Ke(P:PO C K bN bO)(hl:8<=lv)(F:aG C (bj.frame L' outer A lv))(hn:rows.length<=100)(og:BH rows)(m:Nat):∀(j:Nat) (B:ar) (base:Option Nat) (done:List hJ),j+m=rows.length->(j=0↔base=none)->done.length<=j->B.texts.length+m*900<=200000->B.bq.length+m*900<=200000->
 (dw B base j (rows.drop j)=none->Loop C (bj.frame L' outer A lv) Iq [5,6,7] 4 5 ((List.range' j m).map λi=> .int (i:Nat)) (tb (base.getD 0) none none none) (EH B rows done) .exc->G)->
 (∀is B' b,dw B base j (rows.drop j)=some (is,B')->Loop C (bj.frame L' outer A lv) Iq [5,6,7] 4 5 ((List.range' j m).map λi=> .int (i:Nat)) (tb (base.getD 0) none none none) (EH B rows done) (.norm (tb b none none none) (EH B' rows (done++is)))->G)->G:=by
 induction m with
 |zero=>
  intro j B base done h _ _ _ _ k0 k1
  rw[lG (aR (show rows.length=j from h.symm))]at k1
  exact k1 [] B (base.getD 0) rfl (by rw[bp];exact .nil)
 |succ m ih=>
  intro j B base done h hb hd hz ow k0 k1
  have hj:j<rows.length:=eK (cI (cP m)) h
  have hr:=aA hj
  have ZE:=og _ (cV hj)
  rw[bR hj,dw]at k0 k1
  generalize rows[j]=r at hr ZE k0 k1
  have step:∀{a b c:Nat},a+(m+1)*900<=200000->c<=a+900->c+m*900<=200000:=λh1 h2=>aa (b7 h2 _) (aa (aR (by rw[jA,bP,bH 900])) h1)
  refine NF (B:=B) (base:=base) (done:=done) P hl F hj hn hr ZE hb hd (aa (ax _ _) (aa hz (by decide))) (aa (ax _ _) (aa ow (by decide))) (λe run=>k0 (Kc e _) (.exc run)) λad i B' b x t e1 e2 z1 z2 run=> ?_
  rw[e1]at k0 k1
  simp only[bg,e2]at k0 k1
  have nx:=ih (j+1) B' (some b) (done++[i]) ((dc j 1 m).trans h) ⟨λq=>absurd q (Nat.succ_ne_zero j),nofun⟩ (by rw[af];exact aL hd) (step (b:=0) hz z1) (step (b:=0) ow z2)
  exact nx (λq lp=>k0 (by rw[q];rfl) (.next true run rfl lp)) λis B2 b2 q lp=>k1 (i::is) B2 b2 (by rw[q];rfl) (aC done [i] is▸.next true run rfl lp)
theorem v6(P:PO C K bN bO)(hl:8<=lv)(hn:rows.length<=100)(hz:B.texts.length<=100000)(ow:B.bq.length<=100000)(og:BH rows):
 Calls C bj lv [.o 0,.o 1] [.book B,.list (aN rows)] ((dw B none 0 rows).map λ_=> .o 3) [.book (((dw B none 0 rows).map (·.2)).getD B),.list (aN rows),jQ,.list ((((dw B none 0 rows).map (·.1)).getD []).map hJ.pv)]:=by
 have ZF:∀{a:Nat},a<=100000->a+rows.length*900<=200000:=λh=>aa (bb h (eY 900 hn)) (by decide)
 have q:=λ{L' outer A} (F:aG C (bj.frame L' outer A lv)) {G:Prop}=>Ke (G:=G) P hl F hn og rows.length 0 B none [] (dR _) ⟨λ_=>rfl,λ_=>rfl⟩ (aj _) (ZF hz) (ZF ow)
 rw[eX]at q
 have w:=λ{L' outer A} (F:aG C (bj.frame L' outer A lv)) {o:oj} (hL:Loop C (bj.frame L' outer A lv) Iq [5,6,7] 4 5 ((List.range' 0 rows.length).map λi=> .int (i:Nat)) (tb 0 none none none) (EH B rows []) o)=>qL F Fn.top (os:=EH B rows []) (n:=rows.length) (l:=tb 0 none none none) (ks:=[5,6,7]) (x:="place") (i:=5) (ak hn (by decide)) (by ac_rfl) rfl hL
 have p:=λ{L' outer A} (F:aG C (bj.frame L' outer A lv)) (o:oj)=>cu (m:=2) F bj.body [some (.o 0),some (.o 1),none,none,none,none,none,none] [.book B,.list (aN rows)] [.c (some (.o 2)) [.book B,.list (aN rows),jQ],ru (.int rows.length),ru (.xP 0 rows.length 1),.o o]
 have sh:=λ{L' outer A} (F:aG C (bj.frame L' outer A lv)) {l:Lo}=>cR (l:=l) (os:=[.book B,.list (aN rows)]) (out':=some (.o 2)) (os4:=[.book B,.list (aN rows),jQ]) P.G F P.AO (by ac_rfl) (bx hl) [] (Ay P (lv:=0)) rfl rfl rfl rfl rfl
 cases hr:dw B none 0 rows with
 |none=>
  refine Calls.exc rfl λL' outer A F=>q F (λ_ lp=> ?_) λis B' b e=>absurd (hr.symm.trans e) nofun
  apply p F .exc (sh F) (cO P F rfl rfl (ae _) (ak hn (by decide))) (ig P F rfl) (w F lp)
 |some r=>
  refine Calls.ret (os2:=EH r.2 rows r.1) 4 rfl λL' outer A F=>q F (λe=>absurd (hr.symm.trans e) nofun) λis B' b e lp=> ?_
  cases ao (hr.symm.trans e)
  apply p F (.norm (tb b none none none) (EH B' rows is)) (sh F) (cO P F rfl rfl (ae _) (ak hn (by decide))) (ig P F rfl) (w F lp)
end
end
section
variable{C:Ctx}{fr:Fm}{l:Lo}{os os' os2:List Ob}{bB:Option EV}{cs:List EV}{K:Frag}{bN bO:ClassData}{lv:Nat}{B:ar}{fs:List Nat}{pos mix:Nat}
theorem Cc(P:PO C K bN bO){n:Nat}(hn:0<n)(hf:fs.length<=1000):Calls C jk lv [.o 0,.v (.int n)] [.eW fs pos mix] (sv (.int ((nE fs pos mix).1%n:Nat))) [.eW fs (nE fs pos mix).2.1 (nE fs pos mix).2.2]:= .mk λas σ F rr Q X k=>by
 obtain⟨ps,r,ha⟩:=rr
 have a:=λc hc=>r.at_ 0 (.eW fs pos mix) rfl c hc
 have n1:[(ps 0).a,(ps 0).s 0].Nodup:=r.nd 0 (.eW fs pos mix) rfl
 have iI:(ps 0).a≠(ps 0).s 0:=λe=>by rw[e]at n1;exact absurd (aq.mpr rfl) (dy.mp n1).1
 have hP:vI σ ⟨(ps 0).a,(ps 0).s 0,fs⟩ pos mix:=⟨a _ (.head _),a _ (.tail _ (.head _)),iI,hf⟩
 rw[aP,kS,show(EV.o 0).at as=.loc (ps 0).a from congrArg PV.loc (ha 0 (Nat.zero_lt_one)).symm]
 refine z8 (pa:=⟨(ps 0).a,(ps 0).s 0,fs⟩) P hn hP (k as _ ⟨λ_ _=>rfl,⟨ps,r.turn (k:=0) (o:= .eW fs pos mix) (o':= .eW fs _ _) rfl (lJ _) ?_ λb hb=> ?_,ha⟩,trivial,aj _⟩)
 ·have h2:=hP.put (nE fs pos mix).2.1 (nE fs pos mix).2.2
  intro c hc
  rcases am.mp hc with rfl|hc
  ·exact h2.hp
  ·rw[aq.mp hc];exact h2.hf
 ·exact St.bA _ _ λe=>hb (by rw[e];exact aJ ..)
noncomputable def NH(C:Ctx)(n:Nat)(fs:List Nat)(pos mix r q m:Nat):Prop:=Calls C jk 0 [.o 0,.v (.int n)] [.eW fs pos mix] (sv (.int r)) [.eW fs q m]
theorem fu(P:PO C K bN bO)(hf:fs.length<=1000)(pos mix n:Nat)(hn:0<n){G:Prop}(k:∀r q m:Nat,r<n->NH C n fs pos mix r q m->G):G:=k _ _ _ (kQ _ hn) (Cc P hn hf)
theorem uw(P:PO C K bN bO)(F:aG C fr)(hk:fr.env.kindOf "_law_pick"=some .globalImplicit)(hl:0<fr.lvl){n r q m:Nat}(pk:NH C n fs pos mix r q m)(h:os.all Ob.live=true:=by ac_rfl):
 dO C fr "_law_pick" [.o 0,.v (.int n)] l (.eW fs pos mix::os) (sv (.int r)) (.eW fs q m::os):=
 cR P.G F P.CB hk hl [0] pk rfl h rfl rfl (bp _)
end
end
section
open PySem.NumText PySem.W.KIN
theorem Kf(n:Nat):(dg n).all kG=true:=aB.mpr λc hc=>by have:=uY n c hc;unfold kG;simp[this.1,this.2]
theorem sq(n:Nat):bz (dg n)=some n:=by
 unfold bz
 have h1:(dg n).isEmpty=false:=by
  have:=Ge n
  cases q:dg n with
  |nil=>exact absurd q this
  |cons c r=>rfl
 have h2:(decide ((dg n)[0]?=some 48)&& !decide (dg n=[48]))=false:=by
  by_cases h0:n=0
  ·subst h0;decide+kernel
  ·obtain⟨c,cs,e,hc⟩:=Je (n:=n) (by exact qR h0)
   rw[e];simp[hc]
 rw[h1,h2,Kf,M2];rfl
theorem Kg{n c:Nat}(h:c<48\/57<c):c∉dg n:=λhc=>by have:=uY n c hc;omega
end
section
open PySem PySem.W PySem.Calls PyProof.Rows PySem.SeqAt PySem.NumText PySem.W.KIN
theorem Xx{c:Nat}(h:kG c=true):48<=c/\c<=57:=⟨of_decide_eq_true (dm h),of_decide_eq_true (e6 h)⟩
theorem NI(c:Nat):digitsVal [c]=c-48:=by unfold digitsVal;rw[iH,List.foldl_nil,Nat.zero_mul,dR]
theorem EI(k:Nat):∀{r:List Nat},r.length=k->r.all kG=true->mG k (digitsVal r)=r:=by
 induction k with
 |zero=>exactλh _=>(List.eq_nil_of_length_eq_zero h).symm
 |succ k ih=>
  intro r h hd
  rcases List.eq_nil_or_concat r with rfl|⟨q,c,rfl⟩
  ·cases h
  ·rw[List.concat_eq_append]at h hd⊢
   rw[List.all_append]at hd
   have hc:=Xx (dm (e6 hd))
   have hv:c-48<10:=qS hc.1 (gt hc.2)
   have e:digitsVal (q++[c])=(c-48)+10*digitsVal q:=by rw[g7,NI,aS,Nat.pow_one,Nat.mul_comm,bH]
   rw[mG,e,Nat.add_mul_div_left _ _ (by decide),Nat.add_mul_mod_self_left,Nat.div_eq_of_lt hv,mY hv,dR,pP hc.1,ih (Nat.succ.inj (by rw[af]at h;exact h)) (dm hd)]
theorem Xy{r:List Nat}(h:r.all kG=true):AllDigits r:=λc hc=>Xx (aB.mp h c hc)
theorem eG{w:List Nat}{v:Nat}(h:bz w=some v):w=dg v:=by
 unfold bz at h
 cases w with
 |nil=>exact nomatch h
 |cons x r=>
  obtain⟨h1,h2⟩:=eO h
  cases ao h2
  rw[gh,gh,not_or,not_or]at h1
  have hd:(x::r).all kG=true:=Decidable.byContradiction λe=>h1.2 ((Bool.not_eq_true' _).mpr (i3.mpr e))
  by_cases h0:x=48
  ·subst h0
   by_cases hr:r=[]
   ·subst hr;rw[NI,uX (by decide)]
   ·exact absurd (au.mpr ⟨decide_eq_true (rfl:(48::r)[0]?=some 48),(Bool.not_eq_true' _).mpr (decide_eq_false λe=>hr (List.cons.inj e).2)⟩) h1.1.2
  ·have hx:=Xx (dm hd)
   have e:digitsVal (x::r)=10^r.length*(x-48)+digitsVal r:=by rw[show x::r=[x]++r from rfl,g7,NI,Nat.mul_comm]
   have hp:0<x-48:=Nat.sub_pos_of_lt (eL hx.1 (Ne.symm h0))
   rw[e,zF hp (mP (Xy (e6 hd))),EI _ rfl (e6 hd),uX (qS hx.1 (gt hx.2)),pP hx.1];rfl
structure lC(w:List Nat):Prop where
 len:w.length<=100
 all:∀c∈w,c<4294967296
theorem lC.txt{w:List Nat}(h:lC w):eU w:=⟨aa h.len (by decide),h.all⟩
theorem lC.front{a b:List Nat}(h:lC (a++b)):lC a:=⟨aa (aa (ax _ _) (aR af.symm)) h.len,λc hc=>h.all c (dF _ hc)⟩
theorem lC.back{a b:List Nat}(h:lC (a++b)):lC b:=⟨aa (aa (iG _ _) (aR af.symm)) h.len,λc hc=>h.all c (ce _ hc)⟩
theorem lC.tl{x:Nat}{b:List Nat}(h:lC (x::b)):lC b:=lC.back (a:=[x]) h
theorem f5{w:List Nat}{v:Nat}(hw:lC w)(h:bz w=some v):eT ((v:Nat):Int):=
 Bw (k:=7) v (av (r6 h) (aa (nW (by decide) hw.len) (nW (by decide) (by decide))))
theorem EJ{v:Int}(h:eT v):eT (-v):=by unfold eT;rw[Int.natAbs_neg];exact h
theorem yC{w:List Nat}{p:Nat×Nat}(hw:lC w)(h:j3 w=some p):w=p.1::dg p.2/\eT ((p.2:Nat):Int):=by
 cases w with
 |nil=>cases h
 |cons c r=>
  rw[j3]at h
  by_cases hc:c=120\/c=121
  ·rw[if_pos hc]at h
   exact(ai.mp h).elim λv h=>h.2▸⟨congrArg (c::·) (eG h.1),f5 hw.tl h.1⟩
  ·rw[if_neg hc]at h;cases h
theorem qr{w t:List Nat}(h:gH w=some t):di t=w:=
 Decidable.byCases (λq:f0 w=true=>ao ((if_pos q).symm.trans h)▸if_pos q) λq=>(ah.mp (eO ((if_neg q).symm.trans h)).2).elim λu hu=>
  Decidable.byCases (λe:di u=w=>ao ((if_pos e).symm.trans hu.2)▸e) λe=>absurd ((if_neg e).symm.trans hu.2) nofun
structure cC(B:ar)(n:Nat):Prop where
 t:B.texts.length+n<=1000000
 f:B.bq.length+n<=1000000
theorem cC.zt{B:ar}{n:Nat}(h:cC B n):B.texts.length<=1000000:=aa (ax _ _) h.t
theorem cC.zf{B:ar}{n:Nat}(h:cC B n):B.bq.length<=1000000:=aa (ax _ _) h.f
theorem xG(B:ar)(t:Str):jo (B.atom t) (ix t (B.atom t).texts)=L t:=by unfold jo;rw[qJ (B.mr t)];rfl
structure Xz(B B':ar)(k n:Int)(w:List Nat):Prop where
 s:jO B' k n=w
 ok:la B' k n
 le:B.le B'
theorem ss{B:ar}{w:List Nat}{q:(Int×Int)×ar}(hw:lC w)(z:cC B 0)(h:dL B w=some q):Xz B q.2 q.1.1 q.1.2 w:=by
 cases w with
 |nil=>cases h
 |cons c r=>
  rw[dL]at h
  by_cases h1:kG c=true
  ·rw[if_pos h1]at h
   exact(ai.mp h).elim λv e=>(ah.mp e.1).elim λa e'=>e.2▸ao e'.2▸⟨(if_pos rfl).trans ((f8 a).trans (eG e'.1).symm),.inl ⟨rfl,f5 hw e'.1⟩,B.le_refl⟩
  rw[if_neg h1]at h
  by_cases h2:c=45
  ·rw[if_pos h2]at h
   exact(ah.mp h).elim λv e=>have e2:=eO e.2;ao e2.2▸
    ⟨(if_pos rfl).trans ((congrArg L (zH v (qR e2.1))).trans ((dr _).trans (congr (congrArg List.cons h2.symm) (eG e.1).symm))),.inl ⟨rfl,EJ (f5 hw.tl e.1)⟩,B.le_refl⟩
  rw[if_neg h2]at h
  exact(ai.mp h).elim λt e=>e.2▸⟨(if_neg (show¬(4:Int)=5 by decide)).trans ((congrArg di (xG B (mk t))).trans ((congrArg di (dr t)).trans (qr e.1))),BI ((dr t).symm▸tQ hw.txt e.1) z.zt,B.DT _⟩
structure XA(B B':ar)(n:Int)(w:List Nat):Prop where
 s:i7 B' n=w
 ok:lb B' n
 le:B.le B'
theorem Kh(B:ar)(t:Str)(r:Nat):i7 (B.func t r) ((ix (ix t (B.atom t).texts,r) (B.func t r).bq:Nat):Int)=di (L t)++47::dg r:=by
 unfold i7
 rw[bJ,qJ (show(ix t (B.atom t).texts,r)∈(B.func t r).bq from ar.pi (B.atom t) (ix t (B.atom t).texts,r))]
 show di (jo (B.func t r) (ix t (B.atom t).texts))++47::L (cm (r:Nat))=_
 rw[f8,show jo (B.func t r) (ix t (B.atom t).texts)=L t from(by unfold jo;rw[B.kK];exact xG B t)]
theorem su{B:ar}{w:List Nat}{q:Int×ar}(hw:lC w)(z:cC B 0)(h:dM B w=some q):XA B q.2 q.1 w:=
 (ah.mp h).elim λc h=>(ah.mp (eO h.2).2).elim λt h'=>(ai.mp h'.2).elim λr e=>
  have hc:=(g6 (a:=c.1) (b:=c.2) h.1).1
  e.2▸⟨(Kh B (mk t) r).trans (by rw[dr,qr h'.1,<-eG e.1];exact hc.symm),BJ ((dr t).symm▸tQ (hc▸hw:lC (c.1++_)).front.txt h'.1) (f5 (hc▸hw:lC (c.1++_)).back.tl e.1) z.zt z.zf,B.KR _ _⟩
theorem cC.step{B B':ar}{n:Nat}(z:cC B (n+1))(h:B'.texts.length<=B.texts.length+1/\B'.bq.length<=B.bq.length+1):cC B' n:=
 ⟨aa (b7 h.1 n) (aa (aR ((bP _ 1 n).trans (congrArg (_+·) (bH 1 n)))) z.t),aa (b7 h.2 n) (aa (aR ((bP _ 1 n).trans (congrArg (_+·) (bH 1 n)))) z.f)⟩
theorem cC.less{B:ar}{n m:Nat}(z:cC B n)(h:m<=n):cC B m:=⟨aa (a6 h _) z.t,aa (a6 h _) z.f⟩
structure NJ{κ:Type}(rd:ar->List Nat->Option (κ×ar))(sh:ar->κ->List Nat)(ok:ar->κ->Prop):Prop where
 OP:∀{B:ar} {w:List Nat} {q:κ×ar},lC w->cC B 0->rd B w=some q->sh q.2 q.1=w/\ok q.2 q.1/\B.le q.2
 mono:∀{B B':ar} {k:κ},B.le B'->ok B k->ok B' k/\sh B' k=sh B k
 len:∀{B:ar} {w:List Nat} {q:κ×ar},rd B w=some q->q.2.texts.length<=B.texts.length+1/\q.2.bq.length<=B.bq.length+1
theorem NK:NJ dL (λB k=>jO B k.1 k.2) (λB k=>la B k.1 k.2):=⟨λh z e=>have c:=ss h z e;⟨c.s,c.ok,c.le⟩,λh o=>⟨o.mono h,xA h o⟩,li⟩
theorem NL:NJ dM i7 lb:=⟨λh z e=>have c:=su h z e;⟨c.s,c.ok,c.le⟩,λh o=>⟨o.mono h,xB h o⟩,lj⟩
section
variable{κ:Type}[DecidableEq κ]{rd:ar->List Nat->Option (κ×ar)}{sh:ar->κ->List Nat}{ok:ar->κ->Prop}
noncomputable def EK(sh:ar->κ->List Nat)(B:ar)(p:κ×Int):List Nat:=sh B p.1++58::L (cm p.2)
theorem iF{B:ar}{acc:List (κ×Int)}{w:List Nat}{ws:List (List Nat)}{x:List (κ×Int)×ar×List (List Nat)}{G:Prop}(h:eV rd B acc (w::ws)=some x)(k0:w=[125]->x=(acc,B,ws)->G)
 (k1:∀(a b:List Nat) (q:κ×ar) (v:Nat),dK 58 w=some (a,b)->bz b=some v->rd B a=some q->q.1∉acc.map (·.1)->eV rd q.2 (acc++[(q.1,(v:Int))]) ws=some x->G):G:=by
 rw[eV]at h
 by_cases e:w=[125]
 ·rw[if_pos e]at h;exact k0 e (ao h).symm
 ·rw[if_neg e]at h
  exact(ah.mp h).elim λc h=>(ah.mp (eO h.2).2).elim λe h'=>(ah.mp h'.1).elim λq h1=>
   (ai.mp (eO h1.2).2).elim λv hv=>k1 c.1 c.2 e.1 e.2 h.1 (hv.2▸hv.1) (hv.2▸h1.1) (hv.2▸(eO h1.2).1) h'.2
structure TbB(sh:ar->κ->List Nat)(ok:ar->κ->Prop)(B:ar)(acc:List (κ×Int))(ws:List (List Nat))(x:List (κ×Int)×ar×List (List Nat))(new:List (κ×Int)):Prop where
 a:x.1=acc++new
 w:ws=new.map (EK sh x.2.1)++[125]::x.2.2
 o:∀p∈new,ok x.2.1 p.1/\eT p.2
 le:B.le x.2.1
theorem Ki(c:NJ rd sh ok){G:Prop}{x:List (κ×Int)×ar×List (List Nat)}{ws:List (List Nat)}:∀{B:ar} {acc:List (κ×Int)},(∀w∈ws,lC w)->cC B ws.length->eV rd B acc ws=some x->(∀new,TbB sh ok B acc ws x new->G)->G:=by
 induction ws with
 |nil=>exact nofun
 |cons w ws ih=>
  exactλ{B acc} hw z h k=>iF h (λe1 e2=>k [] (by subst e1;subst e2;exact⟨(bp _).symm,rfl,nofun,B.le_refl⟩)) λa b q v hc hv hq _ h=>
   have AT:=(g6 hc).1
   have Ss:lC (a++58::b):=AT▸hw w aJ
   have r:=c.OP Ss.front (z.less (bW _)) hq
   ih (λw h=>hw w (aM _ h)) (z.step (c.len hq)) h λnew t=>
    have m:=c.mono t.le r.2.1
    have E:w=EK sh x.2.1 (q.1,(v:Int)):=AT.trans (show a++58::b=sh x.2.1 q.1++58::L (cm (v:Int)) by rw[m.2,r.1,f8,<-eG hv])
    k ((q.1,(v:Int))::new) ⟨t.a.trans (aC _ [(q.1,(v:Int))] new),(congrArg (w::·) t.w).trans (congrArg (·::(new.map (EK sh x.2.1)++[125]::x.2.2)) E),λp hp=>(am.mp hp).elim (λe=>e▸⟨m.1,f5 Ss.back.tl hv⟩) (t.o p),r.2.2.trans t.le⟩
end
structure OpB(B B':ar)(k:Nat)(o:dA)(ws rs:List (List Nat)):Prop where
 w:ws=kW B' k o++rs
 ok:kE B' k o
 le:B.le B'
theorem AD{κ:Type}[DecidableEq κ]{rd:ar->List Nat->Option (κ×ar)}{sh:ar->κ->List Nat}{ok:ar->κ->Prop}(c:NJ rd sh ok){f:List (κ×Int)->dA}{B:ar}{ws:List (List Nat)}{p:dA×ar×List (List Nat)}{G:Prop}(hw:∀w∈ws,lC w)(z:cC B ws.length)
 (h:eQ rd f B ws=some p) (k:∀new:List (κ×Int),p.1=f new->ws=([123]::(new.map (EK sh p.2.1)++[[125]]))++p.2.2->(∀q∈new,ok p.2.1 q.1/\eT q.2)->B.le p.2.1->G):G:=by
 cases ws with
 |nil=>cases h
 |cons w r=>
  rw[eQ]at h
  by_cases e:w=[123]
  ·rw[if_pos e]at h
   subst e
   exact(ai.mp h).elim λx hx=>by
    cases hx.2
    exact Ki c (λw h=>hw w (aM _ h)) (z.less (bF _)) hx.1 λnew t=>k new (congrArg f t.a) (congrArg ([123]::·) (t.w.trans (List.append_cons _ _ _))) t.o t.le
  ·rw[if_neg e]at h;cases h
theorem DL{α:Type}{f:α->List Nat}{new:List α}{ws rs:List (List Nat)}(e:ws=([123]::(new.map f++[[125]]))++rs)(h:ws.length<=100):new.length<=100:=by
 rw[e,af,ay,af,ae]at h
 exact aa (aa (ax _ _) (aa (bF _) (ax _ _))) h
theorem Cd{B:ar}{k:Nat}{n:Int}(h:k=70):kW B k (.num n)=[i7 B n]:=if_pos h
theorem Ce{B:ar}{k:Nat}{n:Int}(h:¬k=70):kW B k (.num n)=[L (cm n)]:=if_neg h
theorem Cf{B:ar}{k:Nat}(hk:k∈cB){ws:List (List Nat)}{p:dA×ar×List (List Nat)}(hw:∀w∈ws,lC w)(hl:ws.length<=100)(z:cC B ws.length)(h:kH B k ws=some p):OpB B p.2.1 k p.1 ws p.2.2:=by
 have fc:=(gQ hk h).1
 cases ws with
 |nil=>cases h
 |cons w r=>
  rw[kH]at h
  by_cases hT:k=84\/k=85
  ·rw[if_pos hT]at h
   rcases hT with rfl|rfl
   ·exact AD NK hw z h λnew e w o le=>by rw[e]at fc⊢;exact⟨w,⟨rfl,fc.2,DL w hl,o⟩,le⟩
   ·exact AD NL hw z h λnew e w o le=>by rw[e]at fc⊢;exact⟨w,⟨rfl,fc.2,DL w hl,o⟩,le⟩
  ·rw[if_neg hT]at h
   refine(ai.mp h).elim λq h=>h.2▸?_
   have OO:=hw w aJ
   have h:=h.1
   rw[eP]at h
   by_cases h1:k=82\/k=88\/k=89
   ·rw[if_pos h1]at h
    exact(ai.mp h).elim λq h=>h.2▸have b:=yC OO h.1
     ⟨congrArg (·::r) (b.1.trans (congr (congrArg HAppend.hAppend (dr [q.1]).symm) (f8 q.2).symm)),⟨h1,(show(L (mk [q.1])).length<=10 by rw[dr];exact(by decide:1<=10)),b.2⟩,B.le_refl⟩
   rw[if_neg h1]at h
   by_cases h2:k=67
   ·rw[if_pos h2]at h
    exact(ai.mp h).elim λq h=>h.2▸have b:=ss OO (z.less (bW _)) h.1
     ⟨congrArg (·::r) b.s.symm,⟨h2,b.ok⟩,b.le⟩
   rw[if_neg h2]at h
   by_cases h3:k=70
   ·rw[if_pos h3]at h
    exact(ai.mp h).elim λq h=>h.2▸have b:=su OO (z.less (bW _)) h.1
     ⟨(congrArg (·::r) b.s.symm).trans (congrArg (·++r) (Cd h3).symm),.inl ⟨h3,b.ok⟩,b.le⟩
   rw[if_neg h3]at h
   exact(ai.mp h).elim λv h=>h.2▸
    ⟨(congrArg (·::r) ((eG h.1).trans (f8 v).symm)).trans (congrArg (·++r) (Ce h3).symm),.inr ⟨(by decide:∀k∈[82,88,89,67,70,78,76],¬(k=82\/k=88\/k=89)->k≠67->k≠70->k=78\/k=76) k ((qI hk).resolve_left hT) h1 h2 h3,f5 OO h.1⟩,B.le_refl⟩
theorem AE{κ:Type}{rd:ar->List Nat->Option (κ×ar)}{sh:ar->κ->List Nat}{ok:ar->κ->Prop}(c:NJ rd sh ok){B B':ar}(le:B.le B'){kvs:List (κ×Int)}(h:∀p∈kvs,ok B p.1/\eT p.2):kvs.map (EK sh B')=kvs.map (EK sh B):=
 dU λp hp=>congrArg (·++58::L (cm p.2)) (c.mono le (h p hp).1).2
theorem xH{B B':ar}(le:B.le B'){k:Nat}{o:dA}(h:kE B k o):kW B' k o=kW B k o:=by
 cases o with
 |E6 x n=>rfl
 |con c n=>exact congrArg ([·]) (xA le h.2)
 |num n=>exact h.elim (λh=>(Cd h.1).trans ((congrArg ([·]) (xB le h.2)).trans (Cd h.1).symm)) λh=>
  have n7:¬k=70:=λe=>h.1.elim (λq=>absurd (e.symm.trans q) (by decide)) λq=>absurd (e.symm.trans q) (by decide)
  (Ce n7).trans (Ce n7).symm
 |eg kvs=>exact congrArg (λm=>[123]::(m++[[125]])) (AE NK le h.2.2.2)
 |tabI kvs=>exact congrArg (λm=>[123]::(m++[[125]])) (AE NL le h.2.2.2)
structure InB(B B':ar)(ks:List Nat)(os:List dA)(ws:List (List Nat)):Prop where
 w:ws=hH B' ks os
 ok:∀(j k:Nat) (o:dA),ks[j]?=some k->os[j]?=some o->kE B' k o
 le:B.le B'
theorem wI{ks:List Nat}:∀{ws:List (List Nat)} {B:ar} {p:List dA×ar},(∀k∈ks,k∈cB)->(∀w∈ws,lC w)->ws.length<=100->cC B ws.length->dv B ks ws=some p->InB B p.2 ks p.1 ws:=by
 induction ks with
 |nil=>
  intro ws B p _ _ _ _ h
  rw[dv]at h
  by_cases e:ws=[]
  ·rw[if_pos e]at h;cases ao h;exact⟨e,(λ_ _ _ e=>nomatch e),B.le_refl⟩
  ·rw[if_neg e]at h;cases h
 |cons k ks ih=>
  intro ws B p hk hw hl z h
  refine(ah.mp h).elim λx h=>(ai.mp h.2).elim λq h'=> ?_
  cases h'.2
  have ZG:=hk k aJ
  have f:=(gQ ZG h.1).2
  have b:=Cf ZG hw hl z h.1
  have i:=ih (λk h=>hk k (aM _ h)) (λw h=>hw w (f.RO.subset h)) (aa (cG f.lt) hl) ⟨aa f.bt z.t,aa f.bf z.f⟩ h'.1
  exact⟨b.w.trans ((congrArg (·++x.2.2) (xH i.le b.ok).symm).trans (congrArg (kW q.2 k x.1++·) i.w)),λj=>Nat.casesOn j (λk' o' e1 e2=>ao e1▸ao e2▸b.ok.mono i.le) λj=>i.ok j,b.le.trans i.le⟩
theorem EL{B B':ar}(le:B.le B'){ks:List Nat}:∀{os:List dA},(∀(j k:Nat) (o:dA),ks[j]?=some k->os[j]?=some o->kE B k o)->hH B' ks os=hH B ks os:=by
 induction ks with
 |nil=>exactλ_=>rfl
 |cons k ks ih=>
  intro os h
  cases os with
  |nil=>rfl
  |cons o os=>exact show kW B' k o++hH B' ks os=kW B k o++hH B ks os from(congrArg (·++hH B' ks os) (xH le (h 0 k o rfl rfl))).trans (congrArg (kW B k o++·) (ih λj=>h (j+1)))
theorem hJ.Ok.mono{B B':ar}(h:B.le B'){i:hJ}(k:i.Ok B):i.Ok B':=⟨k.look,k.len,k.le,k.W8,k.fits,k.ok,λj k' o a b=>(k.RN j k' o a b).mono h⟩
structure IsB(B B':ar)(i:hJ)(ws:List (List Nat)):Prop where
 w:ws=L i.nm::hH B' (L i.ks) i.os
 ok:i.Ok B'
 le:B.le B'
theorem yD{B:ar}{ws:List (List Nat)}{p:hJ×ar}(hw:∀w∈ws,lC w)(hl:ws.length<=100)(z:cC B ws.length)(h:io B ws=some p):IsB B p.2 p.1 ws:=by
 cases ws with
 |nil=>cases h
 |cons w r=>
  refine(ah.mp h).elim λks h=>(ah.mp h.2).elim λx h'=> ?_
  have s:=mO _ (ta h.1)
  have b:=wI s.2.2 (λw h=>hw w (aM _ h)) (aa (bF _) hl) (z.less (bF _)) h'.1
  have f:=(lz s.2.2 h'.1).1
  have h2:=h'.2
  by_cases e:fX (L ks) x.1=true
  ·rw[if_pos e]at h2
   cases ao h2
   exact⟨congr (congrArg List.cons (dr w).symm) b.w,⟨h.1,gG f,s.1,s.2.1,f,e,b.ok⟩,b.le⟩
  ·rw[if_neg e]at h2;cases h2
theorem AF:∀l:List Nat,e7 [32] (iE l)=l
 |[]=>rfl
 |c::r=>by
  have ih:=AF r
  have hn:=yi r
  rw[iE]
  cases h:iE r with
  |nil=>exact absurd h hn
  |cons w ws=>
   rw[h]at ih
   by_cases hc:c=32
   ·rw[if_pos hc,hc];exact congrArg (32::·) ih
   ·rw[if_neg hc]
    cases ws with
    |nil=>exact congrArg (c::·) ih
    |cons y r=>exact congrArg (c::·) ih
structure RowW(row:List Nat):Prop where
 n:(iE row).length<=100
 w:∀w∈iE row,lC w
structure XB(B B':ar)(ad:Nat)(i:hJ)(row:List Nat):Prop where
 w:row=z6 B' ((ad:Nat):Int) i
 ok:i.Ok B'
 le:B.le B'
 z:cC B 100->B'.texts.length<=B.texts.length+100/\B'.bq.length<=B.bq.length+100
theorem mT{B:ar}{row:List Nat}(hw:RowW row)(z:cC B 100){q:Nat×hJ×ar}(h:iV B row=some q):XB B q.2.2 q.1 q.2.1 row:=by
 unfold iV at h
 have h:=(eO h).2
 have e:=AF row
 have hn:=hw.n
 have J5:=hw.w
 cases h1:iE row with
 |nil=>exact absurd h1 (yi row)
 |cons w0 r=>
  rw[h1]at h e hn J5
  cases r with
  |nil=>cases h
  |cons w1 ws=>
   refine(ah.mp h).elim λad h=>(ai.mp h.2).elim λp h'=> ?_
   cases h'.2
   have hl:=aa (bF _) hn
   have b:=yD (λw h=>J5 w (aM _ h)) hl (z.less hl) h'.1
   have g:=tS h'.1
   refine⟨e.symm.trans ?_,b.ok,b.le,λ_=>⟨aa g.1 (a6 hl _),aa g.2 (a6 hl _)⟩⟩
   show w0++[32]++e7 [32] (w1::ws)=L (cm (ad:Nat))++32::e7 [32] (L p.1.nm::hH p.2 (L p.1.ks) p.1.os)
   rw[f8,<-eG h.1,<-b.w,aC];rfl
theorem EM{B B':ar}(le:B.le B'){i:hJ}(h:i.Ok B)(b:Int):z6 B' b i=z6 B b i:=congrArg (λws=>L (cm b)++32::e7 [32] (L i.nm::ws)) (EL le h.RN)
structure Su(B B':ar)(b k:Nat)(is:List hJ)(rows:List (List Nat)):Prop where
 w:rows=(is.zipIdx k).map λp=>z6 B' ((b:Int)+((p.2:Nat):Int)) p.1
 ok:∀i∈is,i.Ok B'
 le:B.le B'
theorem wJ{b:Nat}{rows:List (List Nat)}:∀{B:ar} {k:Nat} {p:List hJ×ar},(∀r∈rows,RowW r)->cC B (rows.length*100)->dw B (some b) k rows=some p->Su B p.2 b k p.1 rows:=by
 induction rows with
 |nil=>exactλ_ _ h=>ao h▸⟨rfl,nofun,ar.le_refl _⟩
 |cons row r ih=>
  intro B k p hw z h
  refine(ah.mp h).elim λq h=>(ah.mp h.2).elim λb' h'=>(ai.mp h'.2).elim λx hx=> ?_
  cases hx.2
  have hb:q.1=b+k/\b=b':=Decidable.byCases (λe:q.1=b+k=>⟨e,ao ((if_pos e).symm.trans h'.1)⟩) λe=>absurd ((if_neg e).symm.trans h'.1) nofun
  cases hb.2
  have NM:100+r.length*100=(r.length+1)*100:=(bH _ _).trans (jA _ _).symm
  have z1:cC B 100:=z.less (aa (ax _ _) (aR NM))
  have rb:=mT (hw row aJ) z1 h.1
  have g:=rb.z z1
  have i:=ih (λr h=>hw r (aM _ h)) ⟨aa (b7 g.1 _) (aa (aR ((bP _ _ _).trans (congrArg (_+·) NM))) z.t),aa (b7 g.2 _) (aa (aR ((bP _ _ _).trans (congrArg (_+·) NM))) z.f)⟩ hx.1
  exact⟨(congrArg (·::r) (rb.w.trans ((EM i.le rb.ok _).symm.trans (congrArg (λn:Int=>z6 x.2 n q.2.1) ((congrArg Int.ofNat hb.1).trans (Int.natCast_add b k)))))).trans (congrArg (_::·) i.w),λj hj=>(am.mp hj).elim (λe=>e▸rb.ok.mono i.le) (i.ok j),rb.le.trans i.le⟩
noncomputable def NO:List Str:=["0","'0'","7","-12","foo","'\\x20\\'","'A'","'[]'","''","'\\x2\\'","x1","99999999999999999999"]
noncomputable def NP:List Str:=["foo/2","'\\x20\\'/0","'a/b'/12","''/1","foo/10","'x:y'/3"]
noncomputable def hK:List Str:=["'foo'","'a","a'","A","_x","[]","'","'\\x02\\'","'\\xg\\'","'\\x41\\'","'\\y41\\'","'\\x110000\\'","'it's'"]
noncomputable def Hs:List Str:=["-0","-","00","007","-07","7a"]
noncomputable def ij:List Str:=["foo","/2","foo/","foo/02","foo/-1","foo/2x"]
noncomputable def fO(s:Str):Str:=s++"/1"
noncomputable def pickK{α:Type}(k:Nat)(x r y c f n:α):α:=if k=88 then x else if k=82 then r else if k=89 then y else if k=67\/k=84 then c else if k=70\/k=85 then f else n
noncomputable def dE(k:Nat):List Str:=pickK k ["x1","x12","x300"] ["x1","y12","x300","y1"] ["y1","y12"] NO NP ["0","5","12","99999999999999999999"]
noncomputable def jp(k:Nat):List Str:=pickK k ["y1","x","x0","x01","z1","x-1","X1","1"] ["z1","y","y0","x01","y01","Y1","x+1","1x"] ["x1","y0","y","y03","foo"] (Hs++hK) (ij++hK.map fO) ["05","-1","x","5a","+5","00"]
noncomputable def Sv(k:Nat)(w:List Nat):Option Bool:=(eP ar.empty k w).map λp=>p.1.ok (mk [k])
theorem tY(B:ar)(w:List Nat):(dL B w).map (λp=>p.1.1)=(dL ar.empty w).map λp=>p.1.1:=by
 cases w with
 |nil=>rfl
 |cons c r=>
  rw[dL,dL]
  by_cases h1:kG c=true
  ·rw[if_pos h1,if_pos h1];cases bz (c::r)<;>rfl
  rw[if_neg h1,if_neg h1]
  by_cases h2:c=45
  ·rw[if_pos h2,if_pos h2]
   cases bz r with
   |none=>rfl
   |some v=>
    rw[bg,bg]
    by_cases e:v=0
    ·rw[if_pos e,if_pos e]
    ·rw[if_neg e,if_neg e];rfl
  rw[if_neg h2,if_neg h2]
  cases gH (c::r)<;>rfl
theorem tZ(B:ar)(w:List Nat):(dM B w).map (λp=>decide (0<=p.1))=(dM ar.empty w).map λp=>decide (0<=p.1):=by
 unfold dM
 cases dK 47 w with
 |none=>rfl
 |some c=>
  refine Decidable.byCases (λe:c.1=[]=>(congrArg _ (if_pos e)).trans (congrArg _ (if_pos e)).symm) λe=>(congrArg _ (if_neg e)).trans (Eq.trans ?_ (congrArg _ (if_neg e)).symm)
  cases gH c.1 with
  |none=>rfl
  |some t=>
   cases bz c.2 with
   |none=>rfl
   |some r=>exact congrArg some ((decide_eq_true (aE _)).trans (decide_eq_true (aE _)).symm)
theorem ZH{α β:Type}{f:α->β}{o o':Option α}(h:o.map f=o'.map f):o.isSome=o'.isSome:=by
 rw[<-Option.isSome_map (f:=f) (x:=o),h,Option.isSome_map]
theorem Ht(B:ar)(k:Nat)(w:List Nat):(eP B k w).map (λp=>p.1.ok (mk [k]))=Sv k w:=by
 unfold Sv eP
 by_cases h1:k=82\/k=88\/k=89
 ·rw[if_pos h1,if_pos h1];cases j3 w<;>rfl
 rw[if_neg h1,if_neg h1]
 by_cases h2:k=67
 ·rw[if_pos h2,if_pos h2,lK,lK]
  have:=congrArg (Option.map λc:Int=>decide (c=4\/c=5)) (tY B w)
  rwa[lK,lK]at this
 rw[if_neg h2,if_neg h2]
 by_cases h3:k=70
 ·rw[if_pos h3,if_pos h3,lK,lK];exact tZ B w
 rw[if_neg h3,if_neg h3];cases bz w<;>rfl
noncomputable def fC(w:List Nat):Bool:=Nat.ble w.length 30&&(w.all (λc=>Nat.blt c 4294967296&& !Nat.beq c 32)&& !w.isEmpty)
noncomputable def qN:List Nat:=[82,88,89,67,70,78,76]
theorem EN:(qN.all λk=>(dE k).all (λs=>decide (Sv k (L s)=some true))&&(jp k).all λs=>decide (Sv k (L s)≠some true))=true:=by decide+kernel
theorem Kj:(cB.all λk=>(dE k).all (λs=>fC (L s))&&(jp k).all λs=>fC (L s))=true:=by decide+kernel
theorem Hu:(dE 76++jp 76).all (λs=> !(L s).contains 58&&decide (L s≠[125]))=true:=by decide+kernel
noncomputable def yE(R:List (List Nat)):Prop:=∀w r,R=w::r->w≠[125]/\58∉w
structure Fa(k:Nat)(ws:List (List Nat))(s:Bool):Prop where
 good:s=true->∀(B:ar) (R:List (List Nat)),(∀w∈ws++R,lC w)->cC B (ws++R).length->∃p:dA×ar,kH B k (ws++R)=some (p.1,p.2,R)/\p.1.ok (mk [k])=true
 bad:s=false->∀(B:ar) (R:List (List Nat)) (p:dA×ar×List (List Nat)),((k=84\/k=85)->yE R)->kH B k (ws++R)=some p->p.1.ok (mk [k])=false
 n:ws.length<=5
 b:∀w∈ws,fC w=true
 one:¬(k=84\/k=85)->∃w,ws=[w]/\(k=76->w≠[125]/\58∉w)
noncomputable def wordsOf(k:Nat)(s:Bool):List Str:=bif s then dE k else jp k
theorem v7{k:Nat}(hk:k∈cB){s:Bool}{x:Str}(h:x∈wordsOf k s):fC (L x)=true:=
 have f:=aB.mp Kj k hk
 Bool.casesOn (motive:=λs=>x∈wordsOf k s->fC (L x)=true) s (aB.mp (e6 f) x) (aB.mp (dm f) x) h
theorem ZI{k:Nat}(hk:k∈qN):¬(k=84\/k=85)/\k∈cB:=(by decide:∀k∈qN,¬(k=84\/k=85)/\k∈cB) k hk
theorem DM{k:Nat}(hk:k∈qN){s:Bool}{x:Str}(h:x∈wordsOf k s):Fa k [L x] s:=by
 have n:=ZI hk
 have e:∀(B:ar) (R:List (List Nat)),kH B k (L x::R)=(eP B k (L x)).map λp=>(p.1,p.2,R):=λB R=>if_neg n.1
 have f:=aB.mp EN k hk
 refine⟨λq B R _ _=> ?_,λq B R p _ h1=> ?_,(by decide:1<=5),λw hw=>aq.mp hw▸v7 n.2 h,λ_=>⟨_,rfl,λe=> ?_⟩⟩
 ·subst q
  exact(ai.mp ((Ht B k _).trans (of_decide_eq_true (aB.mp (dm f) x h)))).elim λp hp=>⟨p,(e B R).trans (congrArg (Option.map _) hp.1),hp.2⟩
 ·subst q
  have g:Sv k (L x)≠some true:=of_decide_eq_true (aB.mp (e6 f) x h)
  exact(ai.mp ((e B R).symm.trans h1)).elim λq hq=>hq.2▸i3.mpr λt=>g ((Ht B k _).symm.trans (by rw[hq.1];exact congrArg some t))
 ·subst e
  have g:=aB.mp Hu x (Bool.casesOn (motive:=λs=>x∈wordsOf 76 s->x∈dE 76++jp 76) s (ce _) (dF _) h)
  exact⟨of_decide_eq_true (e6 g),λq=>absurd (List.contains_iff_mem.mpr q) (i3.mp (Ot (dm g)))⟩
section
variable{κ:Type}[DecidableEq κ]{rd:ar->List Nat->Option (κ×ar)}{sh:ar->κ->List Nat}{ok:ar->κ->Prop}
noncomputable def Cg(p:List Nat×List Nat):List Nat:=p.1++58::p.2
theorem yF{p:List Nat×List Nat}:Cg p≠[125]:=λe=>absurd (e▸ce _ (aJ ..):(58:Nat)∈([125]:List Nat)) (by decide)
theorem Kk(c:NJ rd sh ok)(ind:∀B w,(rd B w).isSome=(rd ar.empty w).isSome){AY:κ×Int->Bool}(IF:∀{B:ar} {k:κ} {v:Nat},ok B k->AY (k,(v:Int))=true){R:List (List Nat)}{G:Prop}{ps:List (List Nat×List Nat)}:
 ∀{B:ar} {acc:List (κ×Int)} {done:List (List Nat)},(∀k∈acc.map (·.1),sh B k∈done/\ok B k)->acc.all AY=true->(done++ps.map (·.1)).Nodup->(∀p∈ps,(rd ar.empty p.1).isSome=true/\p.1≠[]/\58∉p.2/\(bz p.2).isSome=true/\lC p.1)->cC B ps.length->
 (∀kvs B',eV rd B acc (ps.map Cg++[125]::R)=some (kvs,B',R)->kvs.all AY=true->G)->G:=by
 induction ps with
 |nil=>exactλ{B acc done} _ h _ _ _ k=>k acc B (if_pos rfl) h
 |cons p ps ih=>
  intro B acc done ha h nd hp z k
  obtain⟨h1,h2,h3,h4,h5⟩:=hp p (.head _)
  obtain⟨q,hq⟩:=Option.isSome_iff_exists.mp ((ind B p.1).trans h1)
  obtain⟨v,hv⟩:=Option.isSome_iff_exists.mp h4
  have r:=c.OP h5 (z.less (bW _)) hq
  have mo:=λk hk=>have a:=ha k hk;have m:=c.mono r.2.2 a.2;(⟨m.2.symm▸a.1,m.1⟩:sh q.2 k∈done/\ok q.2 k)
  have Xe:(done++[p.1]++ps.map (·.1)).Nodup:=(List.append_cons done p.1 (ps.map (·.1)))▸nd
  have hm:q.1∉acc.map (·.1):=λhm=>(gq.mp nd).2.2 _ (mo _ hm).1 p.1 (.head _) r.1
  refine ih (B:=q.2) (acc:=acc++[(q.1,(v:Int))]) (λk hk=> ?_) (by rw[List.all_append,h];exact(Bool.and_true _).trans (IF r.2.1)) Xe (λp h=>hp p (.tail _ h)) (z.step (c.len hq)) λkvs B' e=>k kvs B' ?_
  ·rw[aI]at hk
   exact(cS.mp hk).elim (λhk=>⟨dF _ (mo k hk).1,(mo k hk).2⟩) λhk=>by rw[aq.mp hk];exact⟨ce _ (aq.mpr r.1),r.2.1⟩
  ·rw[aP,fE,eV,if_neg yF,Cg,jx h3,bg,if_neg h2,xz,hq,bg,if_neg hm,hv]
   exact e
theorem Kl{R:List (List Nat)}(hR:yE R){es:List (List Nat)}:∀{B:ar} {acc:List (κ×Int)} {x:List (κ×Int)×ar×List (List Nat)},(∀e∈es,e≠[125])->eV rd B acc (es++R)=some x->False:=by
 induction es with
 |nil=>
  intro B acc x _ h
  cases R with
  |nil=>cases h
  |cons w r=>exact have n:=hR w r rfl;iF h (λe _=>n.1 e) λa b q v hc _ _ _ _=>n.2 ((g6 hc).1▸ce _ (aJ ..))
 |cons e es ih=>exactλhe h=>iF h (λq _=>he e (.head _) q) λa b q v _ _ _ _ h=>ih (λe h=>he e (.tail _ h)) h
noncomputable def Hv(rd:ar->List Nat->Option (κ×ar))(e:List Nat):Bool:=decide (e=[125])||(dK 58 e).any λc=>(rd ar.empty c.1).isSome&&(bz c.2).isSome
theorem Hw(ind:∀B w,(rd B w).isSome=(rd ar.empty w).isSome){e:List Nat}(he:Hv rd e=false){ws:List (List Nat)}{B:ar}{acc:List (κ×Int)}{x:List (κ×Int)×ar×List (List Nat)}(h:eV rd B acc (e::ws)=some x):False:=
 i3.mp he (iF h (λq _=>(gh ..).mpr (.inl (decide_eq_true q))) λa b q v hc hv hq _ _=>(gh ..).mpr (.inr (by rw[hc];exact(congr (congrArg and ((ind B a).symm.trans (congrArg Option.isSome hq))) (congrArg Option.isSome hv):_=(true&&true)))))
theorem Hx{g b1 b2:List Nat}(h1:58∉b1)(h2:58∉b2){B:ar}(idem:∀q,rd B g=some q->rd q.2 g=some q){ws:List (List Nat)}{x:List (κ×Int)×ar×List (List Nat)}(h:eV rd B [] ((g++58::b1)::(g++58::b2)::ws)=some x):False:=
 iF h (λe _=>yF (p:=(g,b1)) e) λa b q v hc hv hq _ h=>iF h (λe _=>yF (p:=(g,b2)) e) λa' b' q' v' K4 _ K5 hm _=>by
  cases(jx h1).symm.trans hc
  cases(jx h2).symm.trans K4
  cases(idem q hq).symm.trans K5
  exact hm (aJ ..)
end
noncomputable def lr(s c:Str):Str:=s++":"++c
theorem DN(s c:Str):L (lr s c)=Cg (L s,L c):=by
 unfold lr Cg
 rw[kj,kj,ul,aC];rfl
noncomputable def wK:List Str:=["0","31","405"]
noncomputable def c7(k:Nat):Str:=bif Nat.beq k 84 then"0" else"foo/2"
noncomputable def NQ(k:Nat):List Str:=c7 k::":3"::(c7 k++":")::(c7 k++":03")::(jp k).map (·++":3")
structure TK(k:Nat){κ:Type}[DecidableEq κ](rd:ar->List Nat->Option (κ×ar))(sh:ar->κ->List Nat)(ok:ar->κ->Prop)(f:List (κ×Int)->dA)(AY:κ×Int->Bool):Prop where
 OP:NJ rd sh ok
 Sw:∀B ws,kH B k ws=eQ rd f B ws
 XC:∀kvs,(f kvs).ok (mk [k])=kvs.all AY
 IF:∀{B:ar} {q:κ} {v:Nat},ok B q->AY (q,(v:Int))=true
 ind:∀B w,(rd B w).isSome=(rd ar.empty w).isSome
 good:∀s∈dE k,(rd ar.empty (L s)).isSome=true/\L s≠[]/\lC (L s)
 bad:∀s∈NQ k,Hv rd (L s)=false/\fC (L s)=true
 col:∀s∈dE k,∀c∈wK,fC (L (lr s c))=true
 two:fC (L (lr (c7 k) "1"))=true/\fC (L (lr (c7 k) "2"))=true
 idem:∀(B:ar) (q:κ×ar),rd B (L (c7 k))=some q->rd q.2 (L (c7 k))=some q
theorem NR{w:List Nat}(h:fC w=true):lC w:=⟨aa (a5 (dm h)) (by decide),λc hc=>fQ.mp (dm (aB.mp (dm (e6 h)) c hc))⟩
theorem NS:∀c∈wK,58∉L c/\(bz (L c)).isSome=true:=by decide+kernel
theorem Ch(B:ar)(t:Str)(r:Nat):(B.func t r).atom t=B.func t r/\(B.func t r).func t r=B.func t r:=by
 have e:(B.func t r).atom t=B.func t r:=if_pos (B.kK t r▸B.mr t)
 refine⟨e,?_⟩
 rw[ar.func,e,B.kK]
 exact if_pos (ar.pi _ _)
theorem wM{B:ar}{w:List Nat}{q:Int×ar}(h:dM B w=some q):dM q.2 w=some q:=
 (ah.mp h).elim λc h=>(ah.mp (eO h.2).2).elim λt h'=>(ai.mp h'.2).elim λr e=>by
  cases e.2
  have f:=Ch B (mk t) r
  rw[dM,h.1,bg,if_neg (eO h.2).1,h'.1,bg,e.1]
  show some (((ix (ix (mk t) ((B.func (mk t) r).atom (mk t)).texts,r) ((B.func (mk t) r).func (mk t) r).bq:Nat):Int),(B.func (mk t) r).func (mk t) r)=_
  rw[f.1,f.2,B.kK]
theorem tkT:TK 84 dL (λB k=>jO B k.1 k.2) (λB k=>la B k.1 k.2) .eg Jl where
 OP:=NK
 Sw B ws:=by cases ws<;>rfl
 XC _:=rfl
 IF h:=au.mpr ⟨decide_eq_true (h.elim (λh=> .inr h.1) λh=> .inl h.1),decide_eq_true (aE _)⟩
 ind B w:=ZH (tY B w)
 good s h:=have q:=of_decide_eq_true (aB.mp (by decide+kernel:(dE 84).all (λs=>decide ((dL ar.empty (L s)).isSome=true/\L s≠[]))=true) s h);⟨q.1,q.2,NR (v7 (k:=84) (s:=true) (by decide) h)⟩
 bad:=by decide+kernel
 col:=by decide+kernel
 two:=by decide+kernel
 idem B q h:=by cases h;rfl
theorem tkU:TK 85 dM i7 lb .tabI Jm where
 OP:=NL
 Sw B ws:=by cases ws<;>rfl
 XC _:=rfl
 IF h:=au.mpr ⟨decide_eq_true (h.elim λi h=>h.elim λf h=>h.elim λt h=>h.1▸aE _),decide_eq_true (aE _)⟩
 ind B w:=ZH (tZ B w)
 good s h:=have q:=of_decide_eq_true (aB.mp (by decide+kernel:(dE 85).all (λs=>decide ((dM ar.empty (L s)).isSome=true/\L s≠[]))=true) s h);⟨q.1,q.2,NR (v7 (k:=85) (s:=true) (by decide) h)⟩
 bad:=by decide+kernel
 col:=by decide+kernel
 two:=by decide+kernel
 idem B q h:=wM h
section
variable{k:Nat}{κ:Type}[DecidableEq κ]{rd:ar->List Nat->Option (κ×ar)}{sh:ar->κ->List Nat}{ok:ar->κ->Prop}{f:List (κ×Int)->dA}{AY:κ×Int->Bool}
structure Hy(k:Nat)(ps:List (Str×Str)):Prop where
 nd:(ps.map (·.1)).Nodup
 g:∀p∈ps,p.1∈dE k/\p.2∈wK
 n:ps.length<=3
noncomputable def cX(ps:List (Str×Str)):List Str:=ps.map λp=>lr p.1 p.2
theorem DO(ps:List (Str×Str)):(cX ps).map L=(ps.map λp=>(L p.1,L p.2)).map Cg:=by
 rw[cX,bU,bU];exact dU λp _=>DN p.1 p.2
theorem yG(T:TK k rd sh ok f AY){ps:List (Str×Str)}(E:Hy k ps):∀w∈(cX ps).map L,fC w=true/\w≠[125]:=λw hw=>
 (bn.mp hw).elim λx hx=>(bn.mp hx.1).elim λp hp=>hx.2▸hp.2▸⟨T.col _ (E.g p hp.1).1 _ (E.g p hp.1).2,DN p.1 p.2▸yF⟩
theorem LY:fC [123]=true/\fC [125]=true:=by decide+kernel
theorem Hz(T:TK k rd sh ok f AY)(hk:k=84\/k=85){ps:List (Str×Str)}(E:Hy k ps):Fa k ([123]::((cX ps).map L++[[125]])) true:=by
 refine⟨λ_ B R hw z=> ?_,nofun,?_,λw hw=> ?_,λn=>absurd hk n⟩
 ·rw[fE,aC,T.Sw,eQ,if_pos rfl,DO]
  refine Kk T.OP T.ind T.IF (R:=R) (B:=B) (acc:=[]) (done:=[]) nofun rfl ?_ (λp hp=> ?_) (z.less ?_) λkvs B' e h=>⟨(f kvs,B'),congrArg (Option.map _) e,(T.XC kvs).trans h⟩
  ·rw[dY,bU]
   exact(bU (f:=Prod.fst) (g:=L) (l:=ps))▸List.Pairwise.map L (λa b n e=>n (rF e)) E.nd
  ·exact(bn.mp hp).elim λx hx=>hx.2▸have g:=T.good _ (E.g x hx.1).1;have c:=NS _ (E.g x hx.1).2;⟨g.1,g.2.1,c.1,c.2,g.2.2⟩
  ·rw[ae,af,ay,af,ae,cX,ae]
   exact aa (ax _ _) (aa (bF _) (ax _ _))
 ·rw[ay,af,ae,cX,ae];exact aL (aL E.n)
 ·exact(am.mp hw).elim (λe=>e▸LY.1) λhw=>(cS.mp hw).elim (λh=>(yG T E w h).1) λh=>aq.mp h▸LY.2
theorem ux(hk:k=84\/k=85){ws:List (List Nat)}(hn:ws.length<=5)(hb:∀w∈ws,fC w=true)(h:∀B R p,yE R->kH B k (ws++R)=some p->False):Fa k ws false:=
 ⟨nofun,λ_ B R p r e=>(h B R p (r hk) e).elim,hn,hb,λn=>absurd hk n⟩
theorem NT{B:ar}{r:List (List Nat)}:eQ rd f B ([123]::r)=(eV rd B [] r).map λp=>(f p.1,p.2):=by rw[eQ,if_pos rfl]
theorem HA{B:ar}{w:List Nat}{r:List (List Nat)}(h:w≠[123]):eQ rd f B (w::r)=none:=by rw[eQ,if_neg h]
theorem v8(T:TK k rd sh ok f AY){B:ar}{ws:List (List Nat)}{p:dA×ar×List (List Nat)}(h:kH B k ([123]::ws)=some p)(g:∀x,eV rd B [] ws=some x->False):False:=
 (ai.mp (NT.symm.trans ((T.Sw B ([123]::ws)).symm.trans h))).elim λx hx=>g x hx.1
theorem Sy(T:TK k rd sh ok f AY)(hk:k=84\/k=85){ps:List (Str×Str)}(E:Hy k ps):Fa k ((cX ps).map L++[[125]]) false:=
 ux hk (by rw[af,ae,cX,ae];exact aL (dQ E.n)) (λw hw=>(cS.mp hw).elim (λh=>(yG T E w h).1) λh=>aq.mp h▸LY.2) λB R p r h=>by
  rw[T.Sw,DO]at h
  cases ps with
  |nil=>exact absurd ((HA (by decide)).symm.trans h) nofun
  |cons q ps=>exact absurd ((HA λe:Cg (L q.1,L q.2)=[123]=>absurd (e▸ce _ (aJ ..):(58:Nat)∈([123]:List Nat)) (by decide)).symm.trans h) nofun
theorem Sz(T:TK k rd sh ok f AY)(hk:k=84\/k=85){ps:List (Str×Str)}(E:Hy k ps):Fa k ([123]::(cX ps).map L) false:=
 ux hk (by rw[ay,ae,cX,ae];exact aL (dQ E.n)) (λw hw=>(am.mp hw).elim (λe=>e▸LY.1) λh=>(yG T E w h).1) λB R p r h=>
  v8 T h λx h=>Kl r (λe he=>(yG T E e he).2) h
theorem SA(T:TK k rd sh ok f AY)(hk:k=84\/k=85):Fa k [[123],L (lr (c7 k) "1"),L (lr (c7 k) "2"),[125]] false:=
 ux hk (a5 rfl) (λw hw=>(am.mp hw).elim (λe=>e▸LY.1) λhw=>(am.mp hw).elim (λe=>e▸T.two.1) λhw=>(am.mp hw).elim (λe=>e▸T.two.2) λhw=>aq.mp hw▸LY.2) λB R p r h=>
  v8 T h λx h=>by
   rw[DN,DN]at h
   exact Hx (b1:=L (Str.ofString "1")) (b2:=L (Str.ofString "2")) (by decide+kernel) (by decide+kernel) (T.idem B) h
theorem SD(T:TK k rd sh ok f AY)(hk:k=84\/k=85){e:Str}(he:e∈NQ k):Fa k [[123],L e,[125]] false:=
 ux hk (a5 rfl) (λw hw=>(am.mp hw).elim (λe=>e▸LY.1) λhw=>(am.mp hw).elim (λq=>q▸(T.bad e he).2) λhw=>aq.mp hw▸LY.2) λB R p r h=>
  v8 T h λx h=>Hw T.ind (T.bad e he).1 h
end
inductive yH:List Nat->List (List Nat)->Bool->Prop
 |nil:yH [] [] true
 |cons {k:Nat} {ks:List Nat} {ws rs:List (List Nat)} {s t:Bool} (hk:k∈cB) (ht:(k=84\/k=85)->ks=[76]) (h:Fa k ws s) (r:yH ks rs t):yH (k::ks) (ws++rs) (s&&t)
theorem HB{ks:List Nat}{rs:List (List Nat)}{t:Bool}(r:yH ks rs t)(e:ks=[76]):∃w,rs=[w]/\w≠[125]/\58∉w:=by
 cases r with
 |nil=>cases e
 |cons _ _ h r=>
  cases e
  cases r
  exact(h.one (by decide)).elim λw hw=>⟨w,(bp _).trans hw.1,hw.2 rfl⟩
theorem Km{k:Nat}{ks:List Nat}{o:dA}{os:List dA}(h:o.ok (mk [k])=false):fX (k::ks) (o::os)=false:=by rw[fX,h];rfl
theorem DP{k:Nat}{ks:List Nat}{o:dA}{os:List dA}{b:Bool}(h:fX ks os=b)(h':o.ok (mk [k])=true):fX (k::ks) (o::os)=b:=by rw[fX,h',h];rfl
section
variable{B:ar}{k:Nat}{ks:List Nat}{ws rs:List (List Nat)}{s t:Bool}
theorem AG{p:List dA×ar}{G:Prop}(hk:k∈cB)(h:Fa k ws s)(hR:(k=84\/k=85)->yE rs)(hw:∀w∈ws++rs,lC w)(z:cC B (ws++rs).length)(e:dv B (k::ks) (ws++rs)=some p)
 (k0:fX (k::ks) p.1=false->G) (k1:s=true->∀(B':ar) (q:List dA×ar),cC B' rs.length->dv B' ks rs=some q->(fX ks q.1=false->fX (k::ks) p.1=false)->G):G:=
 (ah.mp e).elim λx hx=>(ai.mp hx.2).elim λq hq=>by
  cases hq.2
  cases s with
  |false=>exact k0 (Km (h.bad rfl B rs x hR hx.1))
  |true=>
   obtain⟨y,hy,og⟩:=h.good rfl B rs hw z
   cases hy.symm.trans hx.1
   have f:=(gQ hk hx.1).2
   exact k1 rfl y.2 q ⟨aa f.bt z.t,aa f.bf z.f⟩ hq.1 λe=>DP e og
theorem HC{ks:List Nat}{ws:List (List Nat)}{s:Bool}(r:yH ks ws s):s=true->∀{B:ar},(∀w∈ws,lC w)->cC B ws.length->∃p,dv B ks ws=some p/\fX ks p.1=true:=by
 induction r with
 |nil=>exactλ_ B _ _=>⟨([],B),rfl,rfl⟩
 |@cons k ks ws rs s t hk ht h r ih=>
  intro e B hw z
  obtain⟨y,hy,og⟩:=h.good (dm e) B rs hw z
  have f:=(gQ hk hy).2
  obtain⟨q,hq,K5⟩:=ih (e6 e) (λw h=>hw w (ce _ h)) (B:=y.2) ⟨aa f.bt z.t,aa f.bf z.f⟩
  exact⟨(y.1::q.1,q.2),(congrArg (Option.bind · _) hy).trans (congrArg (Option.map _) hq),DP K5 og⟩
theorem AH{tl:List (List Nat)}{ks:List Nat}{ws:List (List Nat)}{s:Bool}(r:yH ks ws s):(s=false\/tl≠[])->∀{B:ar} {p:List dA×ar},(∀w∈ws++tl,lC w)->cC B (ws++tl).length->dv B ks (ws++tl)=some p->fX ks p.1=false:=by
 induction r with
 |nil=>exactλh B p _ _ e=>absurd ((if_neg (h.resolve_left (by decide))).symm.trans e) nofun
 |@cons k ks ws rs s t hk ht h r ih=>
  intro hs B p hw z e
  rw[aC]at e hw z
  refine AG hk h (λq=> ?_) hw z e id λD9 B' q z' e' g=>g (ih (hs.imp (λe=>by rw[D9]at e;exact e) id) (λw h=>hw w (ce _ h)) z' e')
  obtain⟨w,NU,hw2⟩:=HB r (ht q)
  rw[NU]
  exactλw' r' e=>(List.cons.inj e).1▸hw2
theorem Kn{ks:List Nat}{ws:List (List Nat)}{s:Bool}(r:yH ks ws s):ks≠[]->∃qW w,ws=qW++[w]/\∀{B:ar} {p:List dA×ar},(∀w∈qW,lC w)->cC B qW.length->dv B ks qW=some p->fX ks p.1=false:=by
 induction r with
 |nil=>exactλh=>absurd rfl h
 |@cons k ks ws rs s t hk ht h r ih=>
  intro _
  cases ks with
  |nil=>
   cases r
   obtain⟨w,hw,_⟩:=h.one λq=>absurd (ht q) nofun
   exact⟨[],w,(bp _).trans hw,λ_ _ e=>absurd e nofun⟩
  |cons k2 ks=>
   obtain⟨Ir,w,NV,g⟩:=ih nofun
   refine⟨ws++Ir,w,NV▸(aC ..).symm,λ{B p} hw z e=>AG hk h (λq=> ?_) hw z e id λ_ B' q z' e' g'=>g' (g (λw h=>hw w (ce _ h)) z' e')⟩
   obtain⟨w',NU,_⟩:=HB r (ht q)
   cases Ir with
   |nil=>exact nofun
   |cons a b=>exact absurd (congrArg List.length (NV.symm.trans NU)) (by rw[af];exactλe=>absurd (Nat.succ.inj e) (Nat.succ_ne_zero _))
end
structure EO(ws:List (List Nat)):Prop where
 n:ws.length<=100
 w:∀w∈ws,lC w/\32∉w
 ne:ws≠[]
noncomputable abbrev sw(ws:List (List Nat)):List Nat:=e7 [32] ws
structure ud(b j:Nat)(row:List Nat)(s:Bool):Prop where
 w:RowW row
 n:row.length<=1000000
 good:s=true->∀{B:ar},cC B 100->∃q,iV B row=some q/\q.1=b+j
 bad:s=false->∀{B:ar} {q:Nat×hJ×ar},cC B 100->iV B row=some q->j≠0/\q.1≠b+j
section
variable{b j:Nat}{ws:List (List Nat)}{s:Bool}
theorem EO.iE(h:EO ws):iE (sw ws)=ws:=vG h.ne λw hw=>(h.w w hw).2
theorem uy(h:EO ws)(good:s=true->∀{B:ar},cC B 100->∃q,iV B (sw ws)=some q/\q.1=b+j)(bad:s=false->∀{B:ar} {q:Nat×hJ×ar},cC B 100->[]∉ws->tR B ws=some q->j≠0/\q.1≠b+j):ud b j (sw ws) s:=
 have e:=h.iE
 ⟨⟨e.symm▸h.n,e.symm▸λw hw=>(h.w w hw).1⟩,aa (s9 [32] λw hw=>(h.w w hw).1.len) (aa (eY _ h.n) (by decide)),good,λq B p z r=>bad q z (e▸(eO r).1) (e▸(eO r).2)⟩
theorem sy(h:EO ws)(bad:∀{B:ar} {q:Nat×hJ×ar},cC B 100->tR B ws=some q->False):ud b j (sw ws) false:=uy h nofun λ_ _ _ z _ r=>(bad z r).elim
theorem ml{w:List Nat}(h:lC w)(h':32∉w)(n:(w::ws).length<=100)(k:∀w∈ws,lC w/\32∉w):EO (w::ws):=⟨n,λx hx=>(am.mp hx).elim (λe=>e▸⟨h,h'⟩) (k x),nofun⟩
theorem ik{w:List Nat}(h:fC w=true):lC w/\32∉w:=⟨NR h,λq=>absurd (Ot (e6 (aB.mp (dm (e6 h)) 32 q))) (by decide)⟩
theorem HD{w:List Nat}(h:fC w=true):w≠[]:=λe=>by rw[e]at h;cases h
theorem mm{n:Nat}(h:n<1000):lC (dg n)/\32∉dg n:=⟨⟨aa (uZ (k:=2) h) (by decide),λc hc=>ak (uY n c hc).2 (by decide)⟩,Kg (.inl (by decide))⟩
theorem NW{n c:Nat}(h:n<1000)(hc:c<4294967296/\32≠c):lC (c::dg n)/\32∉c::dg n:=⟨⟨aa (aL (uZ (k:=2) h)) (by decide),λx hx=>(am.mp hx).elim (λe=>e▸hc.1) ((mm h).1.all x)⟩,λq=>(am.mp q).elim hc.2 (mm h).2⟩
end
structure HE(nm:Str)(ks:List Nat):Prop where
 look:∃k,bT d0 nm=some k/\L k=ks
 b:fC (L nm)=true
structure sA(nm:Str)(ks:List Nat)(ws:List (List Nat))(s:Bool):Prop where
 f:HE nm ks
 r:yH ks ws s
 n:ws.length<=20
 b:∀w∈ws,fC w=true
section
variable{b j:Nat}{nm:Str}{ks:List Nat}{ws:List (List Nat)}{s:Bool}
theorem mU{B:ar}{ws:List (List Nat)}{p:hJ×ar}(f:HE nm ks)(h:io B (L nm::ws)=some p):∃q,dv B ks ws=some q/\fX ks q.1=true:=by
 obtain⟨k,hk,rfl⟩:=f.look
 refine(ah.mp h).elim λks h=>(ah.mp h.2).elim λx h'=> ?_
 cases hk.symm.trans (f7 nm▸h.1)
 exact⟨x,h'.1,Decidable.byContradiction λe=>absurd ((if_neg e).symm.trans h'.2) nofun⟩
theorem jq{B:ar}{w0 w1:List Nat}{q:Nat×hJ×ar}(h:tR B (w0::w1::ws)=some q):bz w0=some q.1/\io B (w1::ws)=some q.2:=
 (ah.mp h).elim λad h=>(ai.mp h.2).elim λp h'=>by cases h'.2;exact⟨h.1,h'.1⟩
theorem sA.ok(h:sA nm ks ws s){w0:List Nat}{tl:List (List Nat)}(h0:lC w0/\32∉w0)(ht:tl.length<=1)(hb:∀w∈tl,fC w=true):EO (w0::L nm::(ws++tl)):=
 ml h0.1 h0.2 (by rw[ay,ay,af];exact aa (aL (aL (bb h.n ht))) (by decide)) λw hw=>ik ((am.mp hw).elim (λe=>e▸h.f.b) λhw=>(cS.mp hw).elim (h.b w) (hb w))
theorem sA.T3(h:sA nm ks ws s):∀w∈ws,lC w:=λw hw=>(ik (h.b w hw)).1
theorem sA.le(h:sA nm ks ws s){tl:List (List Nat)}(ht:tl.length<=1):(ws++tl).length<=100:=by rw[af];exact aa (bb h.n ht) (by decide)
theorem SE(h:sA nm ks ws s)(hn:b+j<1000):ud b j (sw (dg (b+j)::L nm::ws)) s:=by
 have w:=(bp ws)▸h.ok (mm hn) (tl:=[]) (bW _) nofun
 refine uy w (λe B z=> ?_) λe B q z _ r=> ?_
 ·obtain⟨p,hp,yR⟩:=HC h.r e h.T3 (z.less (aa h.n (by decide)))
  obtain⟨k,hk,rfl⟩:=h.f.look
  have e1:io B (L nm::ws)=some (⟨mk (L nm),k,p.1⟩,p.2):=by rw[io,f7,hk,bg,hp,bg,if_pos yR]
  have ne:[]∉dg (b+j)::L nm::ws:=λq=>(am.mp q).elim (λe=>Ge _ e.symm) λq=>HD ((am.mp q).elim (λe=>e▸h.f.b) (h.b _)) rfl
  exact⟨(b+j,⟨mk (L nm),k,p.1⟩,p.2),(congrArg (λl=>if[]∈l then none else tR B l) w.iE).trans ((if_neg ne).trans (by rw[tR,sq,bg,e1];rfl)),rfl⟩
 ·obtain⟨q',h1,h2⟩:=mU h.f (jq r).2
  exact absurd (h2.symm.trans (AH (tl:=[]) h.r (.inl e) (λw hw=>h.T3 w (bp ws▸hw)) (z.less (h.le (bW _))) ((bp ws).symm▸h1))) (by decide)
theorem NX(h:sA nm ks ws s)(hn:b+j<1000){e:List Nat}(he:fC e=true):ud b j (sw (dg (b+j)::L nm::(ws++[e]))) false:=
 sy (h.ok (mm hn) (aj 1) λw hw=>aq.mp hw▸he) λz r=>(mU h.f (jq r).2).elim λq hq=>
  absurd (hq.2.symm.trans (AH (tl:=[e]) h.r (.inr nofun) (λw hw=>(cS.mp hw).elim (h.T3 w) λhw=>(ik (aq.mp hw▸he)).1) (z.less (h.le (aj 1))) hq.1)) (by decide)
theorem NY(h:sA nm ks ws s)(hn:b+j<1000):ud b j (sw ((dg (b+j)::L nm::ws).dropLast)) false:=by
 by_cases hk:ks=[]
 ·subst hk
  cases h.r
  exact sy (ml (mm hn).1 (mm hn).2 (a5 rfl) nofun) λz r=>nomatch r
 ·obtain⟨qW,w,rfl,g⟩:=Kn h.r hk
  have e:(dg (b+j)::L nm::(qW++[w])).dropLast=dg (b+j)::L nm::qW:=List.dropLast_concat (l₁:=dg (b+j)::L nm::qW)
  have hl:qW.length<=20:=aa (by rw[af];exact ax _ _) h.n
  have hw:∀w∈qW,lC w:=λw hw=>h.T3 w (dF _ hw)
  rw[e]
  exact sy (ml (mm hn).1 (mm hn).2 (aa (aL (aL hl)) (by decide)) λw hw=>ik ((am.mp hw).elim (λe=>e▸h.f.b) λhw=>h.b w (dF _ hw))) λz r=>(mU h.f (jq r).2).elim λq hq=>
   absurd (hq.2.symm.trans (g hw (z.less (aa hl (by decide))) hq.1)) (by decide)
theorem HF(h:sA nm ks ws s)(hn:b+j<1000){c:Nat}(hc:c<4294967296/\32≠c)(no:bz (c::dg (b+j))=none):ud b j (sw ((c::dg (b+j))::L nm::ws)) false:=
 sy ((bp ws)▸h.ok (NW hn hc) (tl:=[]) (bW _) nofun) λz r=>absurd (no.symm.trans (jq r).1) nofun
theorem SG(n:Nat):bz (48::dg n)=none:=if_pos (by
 rw[gh,gh]
 exact .inl (.inr ((Bool.and_eq_true ..).mpr ⟨decide_eq_true rfl,(Bool.not_eq_true' _).mpr (decide_eq_false λe=>Ge n (List.cons.inj e).2)⟩)))
theorem NZ(l:List Nat):bz (120::l)=none:=if_pos (by rw[gh];exact .inr rfl)
theorem N0(h:sA nm ks ws s)(hn:b+j+2<1000)(hj:j≠0):ud b j (sw (dg (b+j+2)::L nm::ws)) false:=
 uy ((bp ws)▸h.ok (mm hn) (tl:=[]) (bW _) nofun) nofun λ_ _ q z _ r=>⟨hj,λe=>absurd ((ao ((sq _).symm.trans (jq r).1)).trans e) (Nat.ne_of_gt (cI (by decide:0<2)))⟩
theorem N1(h:sA nm ks ws s)(hn:b+j<1000){x:Str}(hx:fC (L x)=true)(no:bT d0 x=none):ud b j (sw (dg (b+j)::L x::ws)) false:=
 sy (ml (mm hn).1 (mm hn).2 (aa (aL (aL h.n)) (by decide)) λw hw=>ik ((am.mp hw).elim (λe=>e▸hx) (h.b w))) λz r=>
  (ah.mp (jq r).2).elim λks h=>absurd ((f7 x▸no:bT d0 (mk (L x))=none).symm.trans h.1) nofun
theorem LZ(h:sA nm ks ws s)(hn:b+j<1000){fr:List (List Nat)}(hf:fr.length<=1)(hb:∀w∈fr,fC w=true):ud b j (sw (dg (b+j)::(fr++[]::ws))) false:=
 uy (ml (mm hn).1 (mm hn).2 (by rw[ay,af,ay];exact aa (aL (bb hf (aL h.n))) (by decide)) λw hw=>(cS.mp hw).elim (λhw=>ik (hb w hw)) λhw=>(am.mp hw).elim (λe=>e▸⟨⟨bW _,nofun⟩,nofun⟩) λhw=>ik (h.b w hw))
  nofun λ_ _ _ _ ne _=>absurd (aM _ (ce _ (.head _))) ne
end
inductive lu(b:Nat):Nat->List (List Nat)->Bool->Prop
 |nil {j:Nat}:lu b j [] true
 |cons {j:Nat} {r:List Nat} {rs:List (List Nat)} {s t:Bool} (h:ud b j r s) (k:lu b (j+1) rs t):lu b j (r::rs) (s&&t)
section
variable{b:Nat}
theorem lu.all{j:Nat}{rows:List (List Nat)}{s:Bool}(h:lu b j rows s):∀r∈rows,RowW r/\r.length<=1000000:=by
 induction h with
 |nil=>exact nofun
 |cons h _ ih=>exactλr hr=>(am.mp hr).elim (λe=>e▸⟨h.w,h.n⟩) (ih r)
theorem lu.ok{j:Nat}{rows:List (List Nat)}{s:Bool}(h:lu b j rows s):BH rows:=λr hr=>have a:=h.all r hr
 ⟨a.2,aa a.1.n (by decide),λw hw=>have o:=a.1.w w hw;⟨o.txt,aa o.len (by decide)⟩⟩
theorem mn{B B':ar}{n:Nat}(z:cC B ((n+1)*100))(h:cC B 100->B'.texts.length<=B.texts.length+100/\B'.bq.length<=B.bq.length+100):cC B 100/\cC B' (n*100):=
 have e:100+n*100=(n+1)*100:=(bH _ _).trans (jA _ _).symm
 have z1:cC B 100:=z.less (aa (ax _ _) (aR e))
 ⟨z1,aa (b7 (h z1).1 _) (aa (aR ((bP _ _ _).trans (congrArg (_+·) e))) z.t),aa (b7 (h z1).2 _) (aa (aR ((bP _ _ _).trans (congrArg (_+·) e))) z.f)⟩
theorem EP{j:Nat}{rows:List (List Nat)}{s:Bool}(h:lu b j rows s):s=true->∀{B:ar},cC B (rows.length*100)->∃p,dw B (some b) j rows=some p:=by
 induction h with
 |nil=>exactλ_ B _=>⟨([],B),rfl⟩
 |@cons j r rs s t h _ ih=>
  intro e B z
  obtain⟨q,hq,hb⟩:=h.good (dm e) (mn z λz=>⟨ax _ _,ax _ _⟩:cC B 100/\cC B _).1
  obtain⟨p,hp⟩:=ih (e6 e) (mn z λz=>(mT h.w z hq).z z).2
  exact⟨(q.2.1::p.1,p.2),(congrArg (Option.bind · _) hq).trans ((congrArg (Option.bind · _) (if_pos hb)).trans (congrArg (Option.map _) hp))⟩
theorem HG{j:Nat}{rows:List (List Nat)}{s:Bool}(h:lu b j rows s):s=false->∀{B:ar} {p:List hJ×ar},cC B (rows.length*100)->dw B (some b) j rows=some p->False:=by
 induction h with
 |nil=>exact nofun
 |@cons j r rs s t h _ ih=>
  intro e B p z hp
  refine(ah.mp hp).elim λq hp=>(ah.mp hp.2).elim λb' h'=>(ai.mp h'.2).elim λx hx=> ?_
  have hb:q.1=b+j/\b=b':=Decidable.byCases (λe:q.1=b+j=>⟨e,ao ((if_pos e).symm.trans h'.1)⟩) λe=>absurd ((if_neg e).symm.trans h'.1) nofun
  have zz:=mn z λz=>(mT h.w z hp.1).z z
  cases s with
  |false=>exact(h.bad rfl zz.1 hp.1).2 hb.1
  |true=>exact ih e zz.2 (hb.2▸hx.1)
theorem xI{r:List Nat}{rs:List (List Nat)}{s:Bool}(h:lu b 0 (r::rs) s){B:ar}(z:cC B 100):dw B none 0 (r::rs)=dw B (some b) 0 (r::rs):=by
 cases h with
 |@cons _ _ _ s t h k=>
  rw[dw,dw]
  cases hq:iV B r with
  |none=>rfl
  |some q=>
   have e:q.1=b+0:=by
    cases s with
    |false=>exact absurd rfl (h.bad rfl z hq).1
    |true=>obtain⟨q',h1,h2⟩:=h.good rfl z;cases hq.symm.trans h1;exact h2
   rw[bg,bg,show mQ none 0 q.1=mQ (some b) 0 q.1 from(congrArg some e).trans (if_pos e).symm]
theorem HH{rows:List (List Nat)}(h:lu b 0 rows true)(hn:rows≠[]){B:ar}(z:cC B (rows.length*100)){G:Prop}(k:∀is B',dw B none 0 rows=some (is,B')->rows=gf B' ((b:Nat):Int) is->(∀i∈is,i.Ok B')->G):G:=by
 cases rows with
 |nil=>exact absurd rfl hn
 |cons r rs=>
  obtain⟨p,hp⟩:=EP h rfl z
  have k':=wJ (λr hr=>(h.all r hr).1) z hp
  exact k p.1 p.2 ((xI h (mn z λz=>⟨ax _ _,ax _ _⟩:cC B 100/\cC B _).1).trans hp) k'.w k'.ok
theorem Ko{rows:List (List Nat)}(h:lu b 0 rows false){B:ar}(z:cC B (rows.length*100)):dw B none 0 rows=none:=by
 cases rows with
 |nil=>exact nomatch h
 |cons r rs=>
  rw[xI h (mn z λz=>⟨ax _ _,ax _ _⟩:cC B 100/\cC B _).1]
  cases q:dw B (some b) 0 (r::rs)with
  |none=>rfl
  |some p=>exact(HG h rfl z q).elim
end
noncomputable def kJ:List Str:="proceed"::"get_variable R X"::"call F N"::"get_constant C X"::"get_structure F X"::"put_unsafe_value Y X"::"switch_on_constant T L"::"switch_on_structure U L"::"switch_on_term L L L L"::"try L N"::"unify_constant C"::"unify_void N"::"get_list X"::"allocate N"::"catch_exit Y"::"cut_to R"::"halt"::"trust L"::"builtin F"::"meta_call N"::"get_value R X"::"unify_variable R"::"unify_value R"::"unify_local_value R"::"put_variable R X"::"put_void X"::"put_value R X"::"put_constant C X"::"put_list X"::"put_structure F X"::"set_variable R"::"set_value R"::"set_local_value R"::"set_constant C"::"set_void N"::"deallocate"::"execute F"::"neck_cut"::"get_level R"::"mark R"::"fail"::"retry L"::"catch_push"::"catch_fail"::"dyn_retry"::[]
noncomputable def XD(ks:List Nat):Bool:=List.rec true (λk ks ih=>(decide (k∈cB)&&(!decide (k=84\/k=85)||decide (ks=[76])))&&ih) ks
noncomputable def L0(s:Str):Bool:=(bT d0 (mk ((iE (L s)).headD []))).any λk=>decide ((iE (L s)).drop 1=(L k).map λk=>[k])&&(fC ((iE (L s)).headD [])&&(XD (L k)&&(Nat.ble (L k).length 4&&Nat.ble (L s).length 100)))
theorem Kp:kJ.all L0=true:=by decide+kernel
structure SH(s nm:Str)(ks:List Nat):Prop where
 sp:iE (L s)=L nm::ks.map λk=>[k]
 f:HE nm ks
 k:XD ks=true
 n:ks.length<=4
 l:(L s).length<=100
theorem Ci{s:Str}(h:s∈kJ):∃nm ks,SH s nm ks:=by
 have g:=aB.mp Kp s h
 have e:iE (L s)=(iE (L s)).headD []::(iE (L s)).drop 1:=by
  cases h:iE (L s)with
  |nil=>exact absurd h (yi _)
  |cons _ _=>rfl
 unfold L0 at g
 obtain⟨k,hk,g⟩:=Option.any_eq_true _ _|>.mp g
 exact⟨mk ((iE (L s)).headD []),L k,e.trans (congr (congrArg List.cons (dr _).symm) (of_decide_eq_true (dm g))),⟨⟨k,hk,rfl⟩,(dr ((iE (L s)).headD [])).symm▸dm (e6 g)⟩,dm (e6 (e6 g)),a5 (dm (e6 (e6 (e6 g)))),a5 (e6 (e6 (e6 (e6 g))))⟩
noncomputable section
noncomputable def Kq:List Stmt->Nat->Expr:=BZ (.Name ⟨#[]⟩ ⟨0,0,0,0⟩) λst=>wF (.Name ⟨#[]⟩ ⟨0,0,0,0⟩) st (asg:=λ_ e _=>e)
noncomputable def XE(e:Expr):Expr:=sel e e (bin:=λ_ _ r _=>r)
noncomputable def DQ(e:Expr):Expr:=sel e e (lc:=λx _ _ _=>x)
noncomputable def EQ(e:Expr):Scope:=sel (bD (bc 50)) e (lc:=λ_ _ s _=>s)
noncomputable def AI(e:Expr):Expr:=sel e e (lc:=λ_ gs _ _=>List.rec e (λg _ _=>g.iter) gs)
end
theorem fY.sel{os os2:List Ob}{ps:Nat->Pl}{σ F:St}(r:fY os ps σ F)(m:Nat->Nat)(hm:∀(k:Nat) (o:Ob),os2[k]?=some o->os[m k]?=some o)(inj:∀j k,j<os2.length->k<os2.length->m j=m k->j=k):fY os2 (λk=>ps (m k)) σ F:=
 have lt:∀{k:Nat} {o:Ob},os2[k]?=some o->k<os2.length:=λe=>(an.mp e).1
 ⟨λk o e=>r.at_ _ o (hm k o e),λk o e=>r.fr _ o (hm k o e),λk o e=>r.nd _ o (hm k o e),λj k o q ne e1 e2=>r.ap _ _ o q (λe=>ne (inj j k (lt e1) (lt e2) e)) (hm j o e1) (hm k q e2),r.le⟩
theorem HI{m:List Nat}{j:Nat}(h:j<m.length):rn m j=m[j]:=by unfold rn;rw[de,aA h];rfl
noncomputable def L1(m:List Nat)(n n':Nat)(c:EV):Prop:=(m.all (λk=>Nat.blt k n')&&(decide m.Nodup&&(Nat.ble n m.length&&((List.range n).all (λk=>Nat.beq (rn m k) k)))))=true/\BK m.length (some c)=true
section
variable{C:Ctx}{fr:Fm}{l:Lo}{os os1 os2:List Ob}{T:Tr}
theorem Kr{os':List Ob}{m:List Nat}(lt:∀k∈m,k<os'.length)(nd:m.Nodup){ps:Nat->Pl}{σ F:St}(r:fY os' ps σ F):fY (qK os' m) (λk=>ps (rn m k)) σ F:=
 have hl:(qK os' m).length=m.length:=ae ..
 r.sel (rn m) (λk o e=>(mi lt e).elim λ_ h=>h.2.1▸h.2.2) λj k h1 h2 e=>by
  rw[hl]at h1 h2
  rw[HI h1,HI h2]at e
  exact(List.getElem_inj nd).mp e
theorem Calls.sel{Fn:Mine.Fn}{lv:Nat}{args:List EV}{os' os2:List Ob}{c c':EV}(m:List Nat)(h:Calls C Fn lv args os (some c) os')(hm:L1 m os.length os'.length c')(hc:c'.Cv (rn m)=c)(h2:qK os' m=os2):Calls C Fn lv args os (some c') os2:=
 .mk λas σ F r Q X q=>h.go as σ F r Q X λeh σ' x=>by
  subst h2
  have h1:=e6 (e6 hm.1)
  have lt:∀k∈m,k<os'.length:=λk hk=>fQ.mp (aB.mp (dm hm.1) k hk)
  have hl:(qK os' m).length=m.length:=ae ..
  obtain⟨ps,rr,ha⟩:=x.s
  have:=q (λk=>eh (rn m k)) σ' ⟨λk hk=>(congrArg eh (iZ (aB.mp (e6 h1) k (List.mem_range.mpr hk)))).trans (x.a k hk),⟨_,Kr lt (of_decide_eq_true (dm (e6 hm.1))) rr,λk hk=>ha _ (by
   rw[hl]at hk;rw[HI hk];exact lt _ (cV hk))⟩,by rw[hl];exact uo hm.2,by rw[hl];exact a5 (dm h1)⟩
  rwa[<-EV.Cw,hc]at this
theorem N2{es:List Expr}{p:Pos}{vs:List PV}(hl:os.all Ob.live=true)(h:yf 60 es=some vs)(hv:vs.length<=100):To (tE C fr (.List es p)) l os (some (.o os.length)) (os++[.list vs]):=
 To.new (c:= .list vs) (λq h=>aB.mp hl q h) (λ_=>rfl) (λ_=>rfl) λ_ _ _ _ _ q=>qZ (GC 60 h ⟨aa hv (by rw[gZ];decide),q⟩)
theorem ZJ{k:Nat}{x:Str}{xs:List Str}{ys:List PV}{b:Bool}(hk:os[k]?=some (.list ys))(hy:xs.map .str=ys)(hb:decide (x∈xs)=b):To (t2 C fr (compareOp .In) (.v (.str x)) (.o k)) l os (sv (.bool b)) os:=by
 subst hy;subst hb
 exact To.read hk (λ_=>rfl) λ_ _ _ _ _ hc q=>Bm hc q
theorem HJ{k:Nat}{x:Str}{xs:List Str}{ys:List PV}{b:Bool}(hk:os[k]?=some (.list ys))(hy:xs.map .str=ys)(hb:decide (x∈xs)=b):To (t2 C fr (compareOp .NotIn) (.v (.str x)) (.o k)) l os (sv (.bool (!b))) os:=by
 subst hy;subst hb
 exact To.read hk (λ_=>rfl) λ_ _ _ _ _ hc q=>wx hc q
theorem N3{k:Nat}{a:Int}{xs:List Int}{ys:List PV}{b:Bool}(hk:os[k]?=some (.list ys))(hy:xs.map .int=ys)(hb:decide (a∈xs)=b):To (t2 C fr (compareOp .In) (.v (.int a)) (.o k)) l os (sv (.bool b)) os:=by
 subst hy;subst hb
 exact To.read hk (λ_=>rfl) λ_ _ _ _ _ hc q=>Bn hc q
theorem N4{x y:Str}{n:Int}(h:MulOk x n)(hy:Txt.mul x n=y):To (t2 C fr (binaryOp .Mult) (.v (.str x)) (.v (.int n))) l os (sv (.str y)) os:=hy▸To.pure λ_ _ _ _ _ q=>IM h q
theorem N5{i j:Nat}{xs ys zs:List PV}(hij:i≠j)(hi:os[i]?=some (.list xs))(hj:os[j]?=some (.list ys))(hsz:xs.length+ys.length<=1000000)(hz:xs++ys=zs):To (t2 C fr (inplaceOp .Add) (.o i) (.o j)) l os (some (.o i)) (os.set i (.list zs)):= .mk λas ρ σ F s Q X e=>by
 subst hz
 have hn:=(an.mp hi).1
 have ne:as i≠as j:=s.r.elim λps r=>λe=>r.1.ap i j _ _ hij hi hj (ps i).a (.head _) (aq.mpr (((r.2 i hn).trans e).trans (r.2 j (an.mp hj).1).symm))
 have hl:(os.set i (.list (xs++ys))).length=os.length:=a7 ..
 exact FL ne (s.get hi λ_=>rfl) (s.get hj λ_=>rfl) hsz (e as _ ⟨λ_ _=>rfl,s.upd hi (λ_=>rfl) (λ_=>rfl) λ_=>rfl,hl.symm▸hn,aR hl.symm⟩)
end
noncomputable abbrev qO(l:List Nat):List PV:=l.map λn=> .int (n:Nat)
section
variable{C:Ctx}{fr:Fm}{l:Lo}{os os1 os2:List Ob}{K:Frag}{bN bO:ClassData}{lv:Nat}
theorem slV{a:PV}{xs ys:List PV}{lo hi:Option Int}(hv:∀σ,xe C σ a xs)(hy:eN xs lo hi=ys)(hsz:xs.length<=sizeLine)(hl:os.all Ob.live=true):sf C fr (.v a) lo hi l os (some (.o os.length)) (os++[.list ys]):=λe TJ Na p pos sG os1 os2 hn h1 h2 h3=> .mk λas ρ σ F s Q X q=>by
 subst hy
 refine xg (h1.go as ρ σ F s _ _ λcD cQ v1=>h2.go cD ρ cQ F v1.s _ _ λiW hG v2=>h3.go iW ρ hG F v2.s _ _ λwD Di v3=>⟨xs,hv _,hsz,λb ha=> ?_⟩) (Nb hn)
 have w:=v3.s.alloc (o:= .list (eN xs lo hi)) (c:= .list (eN xs lo hi)) ha (λ_=>rfl) (λ_=>rfl) λq hq=>aB.mp hl q hq
 have:=q _ _ ⟨(v1.trans (v2.trans v3)).a.trans (v1.trans (v2.trans v3)).n w.a,w.s,w.ok,aa (v1.trans (v2.trans v3)).n w.n⟩
 rwa[show EV.at (λk=>if k=os.length then b else wD k) (.o os.length)=.loc b from congrArg PV.loc (if_pos rfl)]at this
theorem HK{n b:Nat}(hb:0<b)(h:b<1073741824):To (t2 C fr (inplaceOp .FloorDiv) (.v (.int n)) (.v (.int b))) l os (sv (.int (n/b:Nat))) os:=To.pure λ_ _ _ _ _ q=>FG (bI.mpr hb) (bI.mpr h) (by rw[<-Int.natCast_ediv];exact q)
noncomputable abbrev lP(a:PV)(m:Nat)(v:Int)(rest:Nat):Lo:=[sv a,some (.o 0),sv (.int m),sv (.int v),sv (.int v),sv (.int rest),none]
variable{G:Prop}
noncomputable def LpI(C:Ctx)(lv:Nat)(a:PV)(m:Nat)(v:Int)(j i:Nat)(d6:List Nat)(rest:Nat)(sB:List Nat)(HL:Nat):Prop:=∀{L':Addr} {outer:List Env} {A:Around},aG C (cy.frame L' outer A lv)->
 Loop C (cy.frame L' outer A lv) (jb (jb cy.body 2) 3) [6] 2 6 ((List.range' j i).map λi=> .int (i:Nat)) (lP a m v rest) [.list (qO d6),.held] (.norm (lP a m v HL) [.list (qO sB),.held])
theorem AJ(d6:List Nat)(n:Nat):qO d6++[.int (n:Nat)]=qO (d6++[n]):=(aI (l₂:=[n]) ..).symm
theorem SI(P:PO C K bN bO){a:PV}{m:Nat}{v:Int}(i:Nat):∀(j:Nat) (d6:List Nat) (rest:Nat),j+i<=60->d6.length<=400+j->(∀(sB:List Nat) (HL:Nat),sB.length<=400+(j+i)->LpI C lv a m v j i d6 rest sB HL->G)->G:=by
 induction i with
 |zero=>exactλj d6 rest h hf k=>k d6 rest hf λ_=> .nil
 |succ i ih=>
  intro j d6 rest h hf k
  have hz:(qO d6).length<=sizeLine:=a8 500 (by rw[ae];exact aa hf (aa (a6 (aa (ax j _) h) 400) (by decide))) rfl
  have hl:(d6++[rest%840]).length<=400+(j+1):=by rw[af];exact aL hf
  have b:=λ{L' outer A} (F:aG C (cy.frame L' outer A lv)) (o:yo)=>cu (m:=2) F (jb (jb cy.body 2) 3) [sv a,some (.o 0),sv (.int m),sv (.int v),sv (.int v),sv (.int rest),sv (.int j)] [.list (qO d6),.held] [ru (.int (rest%840:Nat)),rv .none [.list (qO (d6++[rest%840])),.held],ru (.int (rest/840:Nat)),o]
  by_cases h0:rest/840=0
  ·refine k (d6++[rest%840]) (rest/840) (aa hl (a6 (a6 (iG 1 i) j) 400)) λ{L' outer A} F=> ?_
   apply Loop.brk (ks:=[6]) (l:=lP a m v rest) (i:=6) (x:= .int (j:Nat)) (b F tt (JS (b:=840) (by decide)) (dC rfl rfl hz (AJ _ _)) (HK (b:=840) (by decide) (by decide)) (nK h0)) rfl
  ·refine ih (j+1) (d6++[rest%840]) (rest/840) (dc j 1 i▸h) hl λf r g1 g2=>k f r (dc j 1 i▸g1) λ{L' outer A} F=> ?_
   apply .next true (b F ff (JS (b:=840) (by decide)) (dC rfl rfl hz (AJ _ _)) (HK (b:=840) (by decide) (by decide)) (fa h0)) rfl (g2 F)
theorem HM(P:PO C K bN bO)(F:aG C fr)(hk:fr.env.kindOf "int"=some .globalImplicit){a:Int}:dO C fr "int" [.v (.int a)] l os (sv (.int a)) os:=
 pN P.G F P.CW P.CX (by decide) hk (To.pure λ_ _ _ _ _ q=>Bi q)
theorem N6{a b:Int}(h1: -(2^64)<b)(h2:b<2^64):To (t2 C fr (binaryOp .Mult) (.v (.int a)) (.v (.int b))) l os (sv (.int (a*b))) os:=To.pure λ_ _ _ _ _ q=>Bc (xU h1 h2) q
theorem N7{a b:Int}{r:Nat}(hb:0<b)(h:a%b=(r:Nat)):To (t2 C fr (binaryOp .Mod) (.v (.int a)) (.v (.int b))) l os (sv (.int r)) os:=To.pure λ_ _ _ _ _ q=>sO hb (h▸q)
noncomputable abbrev lQ(a:PV)(m:Nat):Lo:=[sv a,some (.o 0),sv (.int m),none,none,none,none]
noncomputable def LpO(C:Ctx)(lv:Nat)(a:PV)(xs:List Int)(d6:List Nat)(mix:Nat)(sB:List Nat)(N8:Nat):Prop:=∀{L':Addr} {outer:List Env} {A:Around},aG C (cy.frame L' outer A lv)->
 Loop C (cy.frame L' outer A lv) (jb cy.body 2) [3,4,5,6] 2 3 (xs.map .int) (lQ a mix) [.list (qO d6),.held] (.norm (lQ a N8) [.list (qO sB),.held])
theorem N9(P:PO C K bN bO){a:PV}(xs:List Int):∀(d6:List Nat) (mix:Nat),d6.length<=400->(∀(sB:List Nat) (N8:Nat),sB.length<=460->LpO C lv a xs d6 mix sB N8->G)->G:=by
 induction xs with
 |nil=>exactλd6 mix hf k=>k d6 mix (aa hf (by decide)) λ_=> .nil
 |cons v xs ih=>
  intro d6 mix hf k
  have hm:((mix:Int)*31+v)%1009=((((mix:Int)*31+v)%1009).toNat:Nat):=(Int.toNat_of_nonneg (Int.emod_nonneg _ (by decide))).symm
  generalize(((mix:Int)*31+v)%1009).toNat=m at hm
  refine SI (C:=C) (lv:=lv) (a:=a) (m:=m) (v:=v) P 60 0 d6 v.natAbs (by decide) hf λf1 r1 g1 g2=> ?_
  have b:=λ{L' outer A} (F:aG C (cy.frame L' outer A lv)) (o:yo)=>cu (m:=2) F (jb cy.body 2) [sv a,some (.o 0),sv (.int mix),sv (.int v),none,none,none] [.list (qO d6),.held] [ru (.int v),ru (.int ((mix:Int)*31)),ru (.int m),ru (.int v.natAbs),ru (.xP 0 60 1),.o (.norm (lP a m v r1) [.list (qO f1),.held]),ru (.int f1.length),o]
  have w:=λ{L' outer A} (F:aG C (cy.frame L' outer A lv))=>qL F Fn.top (os:=[.list (qO d6),.held]) (n:=60) (l:=lP a m v v.natAbs) (ks:=[6]) (x:="step") (i:=6) (by decide) (by ac_rfl) rfl (g2 F)
  have ab:=λ{L' outer A} (F:aG C (cy.frame L' outer A lv)) (l:Lo) (os:List Ob)=>yc v▸Hg (l:=l) (os:=os) P F rfl (a:=v)
  have eC:f1.length<2^63:=ak g1 (by decide)
  by_cases h0:400<f1.length
  ·refine k f1 m g1 λ{L' outer A} F=> ?_
   apply Loop.brk (ks:=[3,4,5,6]) (l:=lQ a mix) (i:=3) (x:= .int v) (b F tt (HM P F rfl) (N6 (b:=31) (by decide) (by decide)) (N7 (b:=1009) (by decide) hm) (ab F _ _) (ig P F rfl) (w F) (cO P F rfl rfl (ae _) eC) (decide_eq_true (bI.mpr h0))) rfl
  ·refine ih f1 m (cq h0) λf2 m2 k1 k2=>k f2 m2 k1 λ{L' outer A} F=> ?_
   apply Loop.next (ks:=[3,4,5,6]) (l:=lQ a mix) (i:=3) (x:= .int v) true (b F ff (HM P F rfl) (N6 (b:=31) (by decide) (by decide)) (N7 (b:=1009) (by decide) hm) (ab F _ _) (ig P F rfl) (w F) (cO P F rfl rfl (ae _) eC) (decide_eq_false λe=>h0 (bI.mp e))) rfl (k2 F)
end
theorem fY.merge{os:List Ob}{ps:Nat->Pl}{σ F:St}(r:fY os ps σ F){k n:Nat}{fs:List Nat}{pos mix:Nat}(hk:os[k]?=some (.list (fs.map λn=> .int (n:Nat))))(hn:os[n]?=some (.list [.loc (ps k).a,.int pos,.int mix]))(ne:k≠n):
 fY ((os.set k .gone).set n (.eW fs pos mix)) (λj=>if j=n then⟨(ps n).a,λ_=>(ps k).a⟩else ps j) σ F:=
 have pn:(if n=n then(⟨(ps n).a,λ_=>(ps k).a⟩:Pl)else ps n)=⟨(ps n).a,λ_=>(ps k).a⟩:=if_pos rfl
 have two:∀{P:Addr->Prop},P (ps n).a->P (ps k).a->∀a∈[(ps n).a,(ps k).a],P a:=λh1 h2 a ha=>(am.mp ha).elim (λe=>e▸h1) λha=>aq.mp ha▸h2
 have kn:(ps n).a≠(ps k).a:=λe=>r.ap k n _ _ ne hk hn _ (aq.mpr rfl) (aq.mpr e.symm)
 have ua:∀j q,j≠n->(os.set k .gone)[j]?=some q->q=.gone\/os[j]?=some q/\j≠k:=λj q _ e=>(cw e).imp (·.2) λh=>⟨h.2,h.1.symm⟩
 have r0:fY (os.set k .gone) ps σ F:=r.turn hk (m6 _) (λ_ h=>nomatch h) λ_ _=>rfl
 r0.one n (.eW fs pos mix) (λj q nj e=>⟨nX (Ne.symm nj)▸e,if_neg nj⟩) (λq e=>(cw e).elim (·.2) λh=>absurd rfl h.1)
  (pn.symm▸λc hc=>(am.mp hc).elim (λe=>e▸r.at_ n _ hn _ (aq.mpr rfl)) λhc=>aq.mp hc▸r.at_ k _ hk _ (aq.mpr rfl))
  (pn.symm▸two (r.fr n _ hn _ (aq.mpr rfl)) (r.fr k _ hk _ (aq.mpr rfl)))
  (pn.symm▸dy.mpr ⟨λh=>kn (aq.mp h),dy.mpr ⟨aU,dP⟩⟩)
  (λj q nj e=>(ua j q nj e).elim (λe=>e▸λ_ h=>nomatch h) λh=>pn.symm▸λa ha hb=>two (P:=λb=>a≠b) (λe=>r.ap j n q _ nj h.1 hn a ha (aq.mpr e)) (λe=>r.ap j k q _ h.2 h.1 hk a ha (aq.mpr e)) a hb rfl)
  (λj q nj e=>r0.at_ j q e) r.le
section
variable{C:Ctx}{fr:Fm}{l:Lo}{os:List Ob}
theorem Sx.merge{as:Nat->Addr}{ρ:b4}{σ F:St}(s:Sx l os as ρ σ F){k n:Nat}{fs:List Nat}{pos mix:Nat}(hk:os[k]?=some (.list (fs.map λn=> .int (n:Nat))))(hn:os[n]?=some (.list [.loc (as k),.int pos,.int mix]))(ne:k≠n):Sx l ((os.set k .gone).set n (.eW fs pos mix)) as ρ σ F:=by
 obtain⟨ps,r,ha⟩:=s.r
 have e:=ha k (an.mp hk).1
 refine⟨⟨_,r.merge hk (by rw[e];exact hn) ne,λj hj=> ?_⟩,s.len,λi v hv=> ?_⟩
 ·show(if j=n then(⟨(ps n).a,λ_=>(ps k).a⟩:Pl)else ps j).a=as j
  have AS:j<os.length:=by rwa[a7,a7]at hj
  by_cases q:j=n
  ·rw[if_pos q,<-q];exact ha j AS
  ·rw[if_neg q];exact ha j AS
 ·rw[a7,a7];exact s.l i v hv
theorem To.Tm{e1 e2 e3:Expr}{p:Pos}{k:Nat}{fs:List Nat}{pos mix:Nat}(hl:os.all Ob.live=true)(hk:os[k]?=some (.list (fs.map λn=> .int (n:Nat))))(h1:To (tE C fr e1) l os (some (.o k)) os)(h2:To (tE C fr e2) l os (sv (.int pos)) os)(h3:To (tE C fr e3) l os (sv (.int mix)) os)
 (s1:∀env,starEach [e1,e2,e3] env=(false,eval e1 env)::starEach [e2,e3] env) (s2:∀env,starEach [e2,e3] env=(false,eval e2 env)::starEach [e3] env) (s3:∀env,starEach [e3] env=(false,eval e3 env)::starEach [] env):
 To (tE C fr (.List [e1,e2,e3] p)) l os (some (.o os.length)) (os.set k .gone++[.eW fs pos mix]):= .mk λas ρ σ F s Q X q=>by
 have OQ:k<os.length:=(an.mp hk).1
 show WE C fr _ ρ σ Q X
 refine qZ (cK (h1.go as ρ σ F s _ _ λcD cQ v1=>cK (h2.go cD ρ cQ F v1.s _ _ λiW hG v2=>cK (h3.go iW ρ hG F v2.s _ _ λwD Di v3=>eA ⟨(by show(3:Nat)<=sizeLine;rw[gZ];decide),λa ha=> ?_⟩) s3) s2) s1)
 have g:cD k=wD k:=by rw[v3.a k (av OQ v2.n),v2.a k OQ]
 have w:=v3.s.alloc (o:= .list [.loc (wD k),.int pos,.int mix]) (c:= .list [.loc (wD k),.int pos,.int mix]) ha (λ_=>rfl) (λ_=>rfl) λq hq=>aB.mp hl q hq
 have m:=w.s.merge (k:=k) (n:=os.length) (fs:=fs) (pos:=pos) (mix:=mix) (by rw[cp OQ];exact hk) (by rw[cH (aj _),Nat.sub_self,if_neg (ca OQ)];rfl) (ca OQ)
 have es:(((os++[Ob.list [.loc (wD k),.int pos,.int mix]]).set k .gone).set os.length (.eW fs pos mix))=os.set k .gone++[.eW fs pos mix]:=by
  rw[List.set_append_left _ _ OQ,List.set_append_right _ _ (by rw[a7];exact aj _),a7,Nat.sub_self];rfl
 rw[es]at m
 have hn:(os.set k .gone++[Ob.eW fs pos mix]).length=os.length+1:=by rw[af,a7];rfl
 have:=q _ _ ⟨(v1.trans (v2.trans v3)).a.trans (v1.trans (v2.trans v3)).n w.a,m,(by show os.length<_;rw[hn];exact cU _),by rw[hn];exact bF _⟩
 show Q (.loc a) (Di.upd a (.list [.loc (cD k),.int pos,.int mix]))
 rw[g]
 rwa[show EV.at (λk=>if k=os.length then a else wD k) (.o os.length)=.loc a from congrArg PV.loc (if_pos rfl)]at this
end
section
variable{C:Ctx}{fr:Fm}{l:Lo}{os:List Ob}{K:Frag}{bN bO:ClassData}{lv:Nat}
theorem Cj(k:Nat)(xs:List Int):eN (xs.map PV.int) none (some (k:Nat))=(xs.take k).map PV.int:=by
 simp only[eN,FW,I5,Option.elim,eX,Nat.sub_zero,zq,ae]
 rw[<-List.map_take,<-List.take_take,eJ]
theorem Ks(xs:List Int):eN (xs.map PV.int) none (some 40)=(xs.take 40).map PV.int:=Cj 40 xs
theorem Ck(P:PO C K bN bO){a:PV}{xs:List Int}(hs:∀τ,xe C τ a (xs.map .int))(hx:xs.length<=100){G:Prop}(k:∀(d6:List Nat) (mix:Nat),d6.length<=1000->Calls C cy lv [.v a] [] (some (.o 2)) [.gone,.list ((xs.take 40).map .int),.eW d6 0 mix]->G):G:=
 N9 (C:=C) (lv:=lv) (a:=a) P (xs.take 40) [] 5 (bW _) λd6 mix hf lp=>k d6 mix (aa hf (by decide)) (Calls.ret (Fn:=cy) (args:=[.v a]) (os:=[]) (c:= .o 2) (os2:=[.gone,.list ((xs.take 40).map .int),.eW d6 0 mix]) 3 rfl λL' outer A F=>by
 have w:=GN F Fn.top (os:=[.list (qO []),.list ((xs.take 40).map .int)]) (l:=lQ a 5) (ks:=[3,4,5,6]) (x:="cell") (i:=3) (k:=1) (by ac_rfl) rfl rfl (lp F) ⟨rfl,rfl⟩
 have sl:=λ(l:Lo)=>slV (C:=C) (fr:=cy.frame L' outer A lv) (l:=l) (os:=[.list []]) (lo:=none) (hi:=some 40) hs (Ks xs) (by rw[gZ,ae];exact aa hx (by decide)) rfl
 apply cu (m:=0) F cy.body [sv a,none,none,none,none,none,none] [] [.c (some (.o 1)) [.list [],.list ((xs.take 40).map .int)],.o (.norm (lQ a mix) [.list (qO d6),.list ((xs.take 40).map .int)]),.x (some (.o 2)) [.gone,.list ((xs.take 40).map .int),.eW d6 0 mix]]
  (sl _) w (To.Tm (k:=0) (os:=[.list (qO d6),.list ((xs.take 40).map .int)]) rfl rfl (To.name F rfl rfl rfl) (To.pure λ_ _ _ _ _ q=>c9 q) (To.name F rfl rfl rfl) (λ_=>rfl) (λ_=>rfl) (λ_=>rfl)))
theorem L2{k:Nat}{os1:List Ob}{xs:List PV}{v:PV}(hp:EV.ty os1 (.o k)=some "list")(hk:os[k]?=some (.list (xs++[v])))(hsz:xs.length+1<=sizeLine):gR C fr "pop" (.o k) os1 [] l os (sv v) (os.set k (.list xs)):=
 o8 MY hp (To.upd hk (λ_=>rfl) (λ_=>rfl) (λ_=>rfl) (λ_=>rfl) λas ρ σ Q X hc q=>MD hc hsz q)
theorem yI{j k:Nat}{xs ys zs:List PV}(hl:os.all Ob.live=true)(hj:os[j]?=some (.list xs))(hk:os[k]?=some (.list ys))(hsz:xs.length+ys.length<=sizeLine)(hz:xs++ys=zs):To (t2 C fr (binaryOp .Add) (.o j) (.o k)) l os (some (.o os.length)) (os++[.list zs]):= .mk λas ρ σ F s Q X q=>by
 subst hz
 refine IQ (s.get hj λ_=>rfl) (s.get hk λ_=>rfl) hsz λa ha=> ?_
 have w:=s.alloc (o:= .list (xs++ys)) (c:= .list (xs++ys)) ha (λ_=>rfl) (λ_=>rfl) λq hq=>aB.mp hl q hq
 have:=q _ _ w
 rwa[show EV.at (λk=>if k=os.length then a else as k) (.o os.length)=.loc a from congrArg PV.loc (if_pos rfl)]at this
end
end
structure CE(gn:Env):Prop where
 kind:gn.scope.kind=.function
 gl:gn.globals=mainGlobals
 bl:gn.builtins=builtinsNs
theorem CE.of{fr:Fm}{scope:Scope}{cl:List (Str×Addr)}{D:Addr}(h:scope.kind=.function):CE (compEnvC scope cl D fr.env):=⟨h,rfl,rfl⟩
section
variable{C:Ctx}{fr:Fm}{ρ:b4}{σ:St}{Q:PV->St->Prop}{X:Prop}{Y Z:Zf}{s:Shared}{gn:Env}
theorem Ok.adopt(ok:Ok C fr Y Z ρ σ s){a:Addr}{c:dn}{o:Obj}(ho:s.heap.get? a=some o)(hc:mv C Z c o)(h1:C.B.get? a=none)(h2:Y a=none)(h3:Z a=none)(h4:a≠fr.L):Ok C fr Y Z ρ (σ.upd a c) s:=by
 refine⟨ok.base,ok.keep,ok.vals,ok.yl,ok.zl,ok.bl,ok.loc,λb d e=> ?_,λb d e=> ?_,ok.bq,ok.rest,ok.zn,ok.fz⟩
 ·by_cases q:b=a
  ·subst q;rw[St.bE]at e;cases e;exact⟨o,ho,hc⟩
  ·rw[St.bA _ _ q]at e;exact ok.ju b d e
 ·by_cases q:b=a
  ·subst q;exact⟨h1,h2,h3,h4⟩
  ·rw[St.bA _ _ q]at e;exact ok.own b d e
theorem L4(ok:Ok C fr Y Z ρ σ s){D:Addr}{vs:Array Value}(h:s.heap.PlainList D vs):Z D=none:=by
 obtain⟨n,ho⟩:=h
 cases q:Z D with
 |none=>rfl
 |some o=>
  have:=ok.vals D o q
  rw[ho]at this;cases this
  rcases(ok.zn D _ q).1 with e|e|e<;>simp at e
inductive KI(C:Ctx)(fr:Fm)(gn:Env)(Y Z:Zf)(ρ:b4)(I:Addr)(fp:List Addr)(lw:Nat->Heap->Prop)(s:Shared)(n:Nat)(D:Addr)(Inv:Nat->List PV->St->Prop):Nat->Shared->Prop
 |mk {ys:List PV} {vs:List Value} {σ':St} {Z':Zf} {j:Nat} {m:Str->Option Value} {s':Shared} (h:LI C fr Y Z I fp lw s j ρ σ' Z' s') (i:Inv j ys σ') (l:j<=n) (pl:s'.heap.PlainList D vs.toArray) (r:cJ Z' ys vs) (len:vs.length=j) (d:σ' D=none) (ns:s'.heap.Ns gn.locals m) (zc:Z' gn.locals=none) (sc:σ' gn.locals=none):KI C fr gn Y Z ρ I fp lw s n D Inv (n+1-j) s'
theorem ER(F:aG C fr)(E:CE gn){wN iter:Expr}{x:Str}{px pos:Pos}{scope:Scope}{I D:Addr}{fp wr:List Addr}{n:Nat}{P:Nat->Value->Prop}{lw:Nat->Heap->Prop}{xs:List PV}
 (hx:gn.kindOf x=some .local) (W:Walks C.prog C.w fr.A I fp wr n P lw) (w5:∀b∈wr,b=I) (hn:n=xs.length) (hsz:n<=sizeLine)
 (pX:∀k v Z',fR Z Z'->k<n->P k v->∃pv,xs[k]?=some pv/\gj Z' pv v) (hF:∀k h,lw k h->∃o,h.get? I=some o/\¬lM o)
 (ok:Ok C fr Y Z ρ σ s) (j7:lw 0 s.heap) (hL:fr.L∉fp) (CD:∀b∈fp,σ b=none) (E3:∀b∈fp,∃o,s.heap.get? b=some o) (hI:C.B.get? I=none/\Y I=none)
 (hD:s.heap.PlainList D #[]) (hDn:C.B.get? D=none/\Y D=none/\D≠fr.L/\σ D=none/\D∉fp) (TX:D≠gn.locals)
 {m:Str->Option Value} (hm:s.heap.Ns gn.locals m) (hcn:C.B.get? gn.locals=none/\Y gn.locals=none/\Z gn.locals=none/\gn.locals≠fr.L/\σ gn.locals=none/\gn.locals∉fp)
 (Inv:Nat->List PV->St->Prop) (h0:Inv 0 [] σ)
 (step:∀k pv ys σ',xs[k]?=some pv->Inv k ys σ'->σ' gn.locals=none->TV C fr (eval wN gn) ρ (σ'.upd gn.locals (.ns x pv)) (λy ou=>ou gn.locals=some (.ns x pv)/\Inv (k+1) (ys++[y]) (ou.del gn.locals)) False)
 {RR:Result->Shared->Prop}
 (hE:∀s' ys vs σ' Z' m,fR Z Z'->Ok C fr Y Z' ρ σ' s'->(∀b∈fp,b≠I->s'.heap.get? b=s.heap.get? b)->(∀b∈fp,σ' b=none)->Inv n ys σ'->s'.heap.PlainList D vs.toArray->cJ Z' ys vs->σ' D=none->s'.heap.Ns gn.locals m->Z' gn.locals=none->σ' gn.locals=none->RR (.ok .next) s'):
 codeAny C.M fr.A (.compLoop (.ListComp wN [⟨.Name x px,iter,[],0⟩] scope pos) 0 (.ref I) (.ref D) gn) RR s:=by
 obtain⟨d1,d2,d3,d4,d5⟩:=hDn
 obtain⟨c1,c2,c3,c4,c5,c6⟩:=hcn
 refine codeAny_compLoop_tests (KI C fr gn Y Z ρ I fp lw s n D Inv) ?_ (n+1) (.mk ⟨fR.refl _,ok,j7,λb hb=>let⟨o,ho⟩:=E3 b hb;⟨o,ho,λ_=>ho⟩,CD⟩ h0 (bW _) hD cJ.nil rfl d4 hm c3 c5)
 intro k bG h
 cases h with
 |@mk ys vs aO cf j XF _ h y6 hj L5 L6 Tq SJ uT SK Oa=>
 have ZK:D∉wr:=λh=>d5 (W.sub _ h)
 have ZL:gn.locals∉wr:=λh=>c6 (W.sub _ h)
 by_cases fg:j<n
 ·refine W.item j _ _ _ fg h.st λv gm y7 hP A9 rg=> ?_
  obtain⟨pv,IH,rv⟩:=pX j v cf h.z fg hP
  have b3:=h.next (tk:=y7) hF W w5 hL hI rg
  refine wpAny_assign_Name (wpAny_storeName_local hx (uT.at' λo e=>rg _ o ZL e) (λi5 Fx w6=> ?_) (by rw[E.kind];rfl))
  have e3:∀b∈fp,i5.get? b=gm.get? b:=λb hb=>w6.2 b λq=>c6 (by rw[<-show b=gn.locals from q];exact hb)
  have du:=b3.but (wr:=[gn.locals]) (t':=y7+1) (λb o hb e=>w6.extBut b o (λq=>hb (by simp[q])) e) λb hb=>by
   obtain rfl:=aq.mp hb
   exact⟨c1,c2,SK,c4,Oa⟩
  have rf:lw (j+1) i5:=W.frame _ _ _ A9 λb hb o e=>(e3 b hb).trans e
  have SM:i5.PlainList D vs.toArray:=(L5.at λo e=>rg _ o ZK e).extBut w6.extBut TX
  obtain⟨oc,esc,epc,hoc,hdc,hkc,K7⟩:=Fx
  have kg:=du.adopt (a:=gn.locals) (c:= .ns x pv) hoc ⟨_,esc,epc,hdc,hkc,K7,v,by rw[if_pos rfl],rv⟩ c1 c2 SK c4
  have iB:=kg.H8 (fp:=D::fp) (λhb=>(am.mp hb).elim (λe=>d3 e.symm) hL) λb hb=>(am.mp hb).elim (λe=>e▸(St.bA _ _ TX).trans SJ) λhb=>(St.bA _ _ (λq=>c6 (by rw[<-show b=gn.locals from q];exact hb))).trans (h.no b hb)
  have kY:=Yb.le (fp:=D::fp) du.keep
  refine wpAny_pure ?_
  simp only[if_true]
  refine wpAny_mono (step j pv ys aO IH y6 Oa _ cf _ iB) (λy D6 ⟨yv,q8,IE,D7,oq,ry,L7,SN⟩=> ?_) λe s' x=>x.1.elim
  obtain⟨oc',XG,XI,SO,SP,XJ,XK,XM,_⟩:=oq.ju _ _ L7
  have SQ:=(oq.own _ _ L7).2.2.1
  have b:=LI.back W rf (h.there hF w5 rf rg e3) (λ_ h=>aM _ h) (oq.AN gn.locals) ok kY (h.z.trans D7)
  obtain⟨nD,hnD⟩:=SM
  have kD:(Yb Y (D::fp) i5) D=some _:=(if_pos aJ).trans hnD
  have L8:D6.heap.PlainList D vs.toArray:=⟨nD,oq.keep _ _ kD⟩
  have L9:(q8.del gn.locals) D=none:=by
   rw[St.Ct _ TX]
   cases q:q8 D with
   |none=>rfl
   |some c=>have:=(oq.own D c q).2.1;rw[kD]at this;cases this
  refine wpAny_list_append_plain (hsz:=by rw[List.size_toArray,Tq];exact aa (cG fg) hsz) L8 λXN SR HN=> ?_
  have SS:=b.ok.but (wr:=[D]) (t':=D6.toks) (λb o hb e=>HN.extBut b o (λq=>hb (by simp[q])) e) λb' hb=>by
   obtain rfl:=aq.mp hb
   exact⟨d1,d2,L4 b.ok L8,d3,L9⟩
  have ZM:∀b∈fp,XN.get? b=D6.heap.get? b:=λb hb=>HN.2 b λq=>d5 (by rw[<-show b=D from q];exact hb)
  have nx:n+1-j=n+1-(j+1)+1:=(Nat.sub_eq_iff_eq_add (aL hj|>Nat.le_of_succ_le)).mpr (by rw[bP,bH 1 j,kO (aL hj)])
  refine⟨n+1-(j+1),nx▸cU _,.mk (ys:=ys++[yv]) (vs:=vs++[y]) (m:=XI) ⟨b.z,SS,W.frame _ _ _ b.st λc hb o e=>(ZM c hb).trans e,λc hb=>let⟨o,ho,hq⟩:=b.wk c hb;⟨o,(ZM c hb).trans ho,hq⟩,b.no⟩ SN fg (List.append_toArray vs [y]▸SR) ((L6.mono D7).append (.one ry)) (by rw[af,Tq];rfl) L9 ⟨oc',SO,SP,(HN.2 _ (Ne.symm TX)).trans XG,XJ,XK,XM⟩ SQ (St.Ia _ _)⟩
 ·have Ub:j=n:=dx hj (cq fg)
  subst Ub
  refine W.done _ _ _ h.st λfU Fy uH=> ?_
  refine hE _ ys vs aO cf XF h.z (h.next (tk:=Fy) hF W w5 hL hI uH) (λb hb iI=> ?_) h.no y6 (L5.at λo e=>uH _ o ZK e) L6 SJ (uT.at' λo e=>uH _ o ZL e) SK Oa
  obtain⟨o,ho,hq⟩:=h.wk b hb
  exact(uH b o (λh=>iI (w5 b h)) ho).trans (hq iI).symm
inductive HO(C:Ctx)(fr:Fm)(cl:List (Str×Addr))(scope:Scope)(x:Str)(wN:Expr)(a:PV)(ρ:b4)(σ:St)(Q:PV->St->Prop):Prop
 |mk (xs:List PV) (yQ:St) (rest:St->St) (hit:kh C fr a xs σ yQ rest) (hsz:xs.length<=sizeLine) (Inv:Nat->List PV->St->Prop) (h0:Inv 0 [] yQ)
  (step:∀k pv ys σ' D,xs[k]?=some pv->Inv k ys σ'->σ' D=none->TV C fr (eval wN (compEnvC scope cl D fr.env)) ρ (σ'.upd D (.ns x pv)) (λy ou=>ou D=some (.ns x pv)/\Inv (k+1) (ys++[y]) (ou.del D)) False)
  (pR:∀ys σ' l,Inv xs.length ys σ'->σ' l=none->Q (.loc l) (σ'.upd l (.list ys)))
theorem Kt(F:aG C fr){wN iter:Expr}{x:Str}{px pos:Pos}{scope:Scope}{cl:List (Str×Addr)}(HP:closureFor scope fr.env=pure cl)(HQ:∀y∈scope.names,y.2≠ .cell)(xJ:scope.kind=.function)
 (Cm:∀y∈scope.names,y.2=.local->scope.names.lookup y.1=some .local) (hx:scope.names.lookup x=some .local)
 (h:WE C fr iter ρ σ (λa aO=>HO C fr cl scope x wN a ρ aO Q) X) (hs:∀v,foldedSetIterable iter fr.env v=pure v):
 WE C fr (.ListComp wN [⟨.Name x px,iter,[],0⟩] scope pos) ρ σ Q X:=λY Z s ok=>by
 show wpAny _ _ (eval (.ListComp wN [⟨.Name x px,iter,[],0⟩] scope pos) fr.env) _ _ s
 rw[eval_ListComp]
 refine wpAny_comprehension_free (use:=none) rfl hs HP xJ Cm (wV (h Y Z s ok) λva bG a aO cf b8 bC cE p=> ?_)
 obtain⟨xs,yQ,rest,hit,hsz,Inv,h0,step,pR⟩:=p
 refine wP (hit Y cf ρ bG va _ bC cE) λit cW p=> ?_
 obtain⟨I,fp,wr,n,P,lw,rfl,W,w5,rfl,pX,hF,b3,j7,hL,CD,E3,Ud,w7⟩:=p
 refine wpAny_newObj_type (wpAny_newFunctionEnv HQ (by intro y hy;simp at hy) (λfU Cn yJ=> ?_) xJ)
 dsimp only at Cn yJ⊢
 generalize XO:cW.heap.push {cls:= .type "list",dict:=none,data:= .seq ([]:List Value).toArray}=H2 at Cn yJ⊢
 have hC:H2.objs.size=cW.heap.objs.size+1:=by rw[<-XO,lF]
 have XQ:cW.heap.objs.size≠H2.objs.size:=by rw[hC];exact ca (cU _)
 have ua:∀b o,cW.heap.get? b=some o->fU.get? b=some o:=λb o e=>yJ.extBut b o (by rw[hC];exact ca (Nat.lt_succ_of_lt (cY e))) (aH _ (XO▸aH _ e))
 have F3:fU.PlainList cW.heap.objs.size #[]:=⟨_,yJ.extBut _ _ XQ (aH _ (XO▸aQ _ rfl))⟩
 have fresh:∀a,cW.heap.objs.size<=a->cW.heap.get? a=none:=λa ha=>bv ha
 have nD:=fresh cW.heap.objs.size (aj _)
 have nC:=fresh H2.objs.size (by rw[hC];exact bF _)
 obtain⟨p1,p2,p3,p4,p5⟩:=b3.none_of nD
 obtain⟨q1,q2,q3,q4,q5⟩:=b3.none_of nC
 have du:Ok C fr Y cf ρ yQ {cW with heap:=fU,toks:=cW.toks+([]:List (Str×Value)).length}:=b3.keeps ua
 have hDf:cW.heap.objs.size∉fp:=λhm=>by obtain⟨o,ho⟩:=E3 _ hm;rw[nD]at ho;cases ho
 have hCf:H2.objs.size∉fp:=λhm=>by obtain⟨o,ho⟩:=E3 _ hm;rw[nC]at ho;cases ho
 have sU:lw 0 fU:=W.frame _ _ _ j7 λb _ o e=>ua b o e
 have CEx:CE (compEnvC scope cl H2.objs.size fr.env):=CE.of xJ
 have Io:Env.kindOf (compEnvC scope cl H2.objs.size fr.env) x=some .local:=lookup_relabel_local hx
 have SU:codeAny C.M fr.A (.compLoop (.ListComp wN [⟨.Name x px,iter,[],0⟩] scope pos) 0 (.ref I) (.ref cW.heap.objs.size) (compEnvC scope cl H2.objs.size fr.env))
  (compPost C.M fr.A (gb C fr Y ρ X) none (iJ C fr Y Z ρ Q) (.ref cW.heap.objs.size) H2.objs.size) {cW with heap:=fU,toks:=cW.toks+([]:List (Str×Value)).length}:=by
  refine ER F CEx Io W w5 rfl hsz pX hF du sU hL CD (λb hb=>let⟨o,ho⟩:=E3 b hb;⟨o,ua b o ho⟩) Ud F3 ⟨p1,p2,p4,p5,hDf⟩ XQ Cn ⟨q1,q2,q3,q4,q5,hCf⟩ Inv h0
   (λk pv ys σ' e hi hn=>step k pv ys σ' _ e hi hn) (λs' ys vs σ' Z' m k' fS aac Mr hI hl hr hsD hm SK Mt=> ?_)
  refine⟨m,hm,λh' D9=> ?_⟩
  have kg:Ok C fr Y Z' ρ σ' {s' with heap:=h'}:=fS.but (wr:=[H2.objs.size]) (t':=s'.toks) (λb o hb e=>D9.extBut b o (λq=>hb (by simp[q])) e) λb hb=>by
   obtain rfl:=aq.mp hb
   exact⟨q1,q2,SK,q4,Mt⟩
  have OG:h'.PlainList cW.heap.objs.size vs.toArray:=hl.extBut D9.extBut XQ
  obtain⟨nl,ZN⟩:=OG
  have oq:=kg.adopt (a:=cW.heap.objs.size) (c:= .list ys) ZN ⟨vs,nl,rfl,hr⟩ p1 p2 (L4 kg ⟨nl,ZN⟩) p4
  exact⟨.loc _,_,Z',b8.trans k',oq,im _,pR ys σ' _ hI hsD⟩
 exact codeAny_compStart_list SU (W.self 0 _ _ _ sU SU)
theorem HR(F:aG C fr){cl:List (Str×Addr)}{scope:Scope}{x:Str}{wN:Expr}{l:Addr}{xs:List PV}(hc:σ l=some (.list xs))(hsz:xs.length<=sizeLine)(Inv:Nat->List PV->St->Prop)(h0:Inv 0 [] (σ.del l))
 (step:∀k pv ys σ' D,xs[k]?=some pv->Inv k ys σ'->σ' D=none->TV C fr (eval wN (compEnvC scope cl D fr.env)) ρ (σ'.upd D (.ns x pv)) (λy ou=>ou D=some (.ns x pv)/\Inv (k+1) (ys++[y]) (ou.del D)) False)
 (pR:∀ys σ' k,Inv xs.length ys σ'->σ' k=none->Q (.loc k) (σ'.upd k (.list ys))):HO C fr cl scope x wN (.loc l) ρ σ Q:=
 ⟨xs,_,_,sL F hc,hsz,Inv,h0,step,pR⟩
end
noncomputable abbrev Fm.comp(fr:Fm)(scope:Scope)(cl:List (Str×Addr))(D:Addr):Fm:={fr with scope:=relabel scope fr.env,f:=none,cl:=cl,loc:=D,vn:=[]}
section
variable{C:Ctx}{fr:Fm}{scope:Scope}{cl:List (Str×Addr)}{D:Addr}{Y Z:Zf}{ρ cj:b4}{σ F:St}{s:Shared}
theorem aG.comp(F:aG C fr)(h:scope.kind=.function):aG C (fr.comp scope cl D):=⟨h,F.frames,F.top,F.handled,F.room,F.nodup,.inl rfl,nofun,F.Tn⟩
noncomputable def Co(fr:Fm)(ρ cj:b4):Prop:=∀i,i<fr.names.length->cj[i]?=ρ[i]?
theorem mx.same{m:Str->Option Value}(h:Co fr ρ cj)(x:mx Z fr.names ρ m):mx Z fr.names cj m:=λi y pv h1 h2=>x i y pv h1 ((h i (an.mp h1).1)▸h2)
theorem Ok.toC(ok:Ok C fr Y Z ρ σ s)(h:Co fr ρ cj):Ok C (fr.comp scope cl D) Y Z cj σ s:=
 ⟨ok.base,ok.keep,ok.vals,ok.yl,ok.zl,ok.bl,let⟨m,a,b⟩:=ok.loc;⟨m,a,b.same h⟩,ok.ju,ok.own,ok.bq,ok.rest,ok.zn,ok.fz⟩
theorem Ok.ofC(ok:Ok C (fr.comp scope cl D) Y Z cj σ s)(h:Co fr cj ρ):Ok C fr Y Z ρ σ s:=
 ⟨ok.base,ok.keep,ok.vals,ok.yl,ok.zl,ok.bl,let⟨m,a,b⟩:=ok.loc;⟨m,a,b.same (fr:=fr) h⟩,ok.ju,ok.own,ok.bq,ok.rest,ok.zn,ok.fz⟩
theorem Ku{e:Expr}{Q:PV->St->Prop}{X:Prop}(h1:Co fr ρ cj)(h2:Co fr cj ρ)(h:WE C (fr.comp scope cl D) e cj σ Q X):TV C fr (eval e (compEnvC scope cl D fr.env)) ρ σ Q X:=λY Z s ok=>
 wpAny_mono (h Y Z s (ok.toC h1)) (λv s' ⟨pv,σ',Z',k,fS,r,q⟩=>⟨pv,σ',Z',k,fS.ofC h2,r,q⟩)
  λe s' ⟨x,y,hy⟩=>⟨x,y,⟨hy.is,hy.base,hy.new,hy.bq,hy.st,hy.DU,let⟨m,Z',a,b⟩:=hy.loc;⟨m,Z',a,b.same (fr:=fr) h2⟩,hy.rest⟩⟩
theorem fY.side{os:List Ob}{ps:Nat->Pl}(r:fY os ps σ F){c:dn}(h:∀(k:Nat) (o:Ob),os[k]?=some o->D∉o.keys (ps k)):fY os ps (σ.upd D c) (F.upd D c):=by
 refine⟨λk o e d hd=>(St.bA _ _ λq=>h k o e (by rw[<-q];exact Ob.pj hd)).trans (r.at_ k o e d hd),λk o e a ha=>(St.bA _ _ λq=>h k o e (by rw[<-q];exact ha)).trans (r.fr k o e a ha),r.nd,r.ap,λa d e=> ?_⟩
 by_cases q:a=D
 ·subst q;rw[St.bE]at e⊢;exact e
 ·rw[St.bA _ _ q]at e⊢;exact r.le a d e
theorem fY.Oo{os:List Ob}{ps:Nat->Pl}{c:dn}(r:fY os ps σ (F.upd D c))(h:F D=none):fY os ps (σ.del D) F:=by
 have ne:∀{k:Nat} {o:Ob},os[k]?=some o->∀a∈o.keys (ps k),a≠D:=λe a ha q=>by
  have:=r.fr _ _ e a ha
  rw[q,St.bE]at this;cases this
 refine⟨λk o e d hd=> ?_,λk o e a ha=> ?_,r.nd,r.ap,λa d e=> ?_⟩
 ·rw[St.Ct _ (ne e _ (Ob.pj hd))];exact r.at_ k o e d hd
 ·have:=r.fr k o e a ha
  rwa[St.bA _ _ (ne e a ha)]at this
 ·have q:a≠D:=λq=>by rw[q,h]at e;cases e
  rw[St.Ct _ q];exact r.le a d (by rw[St.bA _ _ q];exact e)
end
inductive xK(C:Ctx)(fr:Fm)(scope:Scope)(cl:List (Str×Addr))(x:Str)(wN:Expr)(m:Nat)(l:Lo):List PV->List Ob->List PV->List Ob->Prop
 |nil {os:List Ob}:xK C fr scope cl x wN m l [] os [] os
 |next {v y:PV} {xs ys:List PV} {os os1 os2:List Ob} (hv:os.all Ob.live=true) (h:∀D,aG C (fr.comp scope cl D)->To (tE C (fr.comp scope cl D) wN) (l++[some (.n D x v)]) os (some (.v y)) os1)
  (r:xK C fr scope cl x wN m l xs (os1.take m) ys os2):xK C fr scope cl x wN m l (v::xs) os (y::ys) os2
section
variable{C:Ctx}{fr:Fm}{l:Lo}{os os1 os2:List Ob}
theorem To.nsn(F0:aG C fr){x:Str}{p:Pos}{i:Nat}{v:PV}(hk:fr.env.kindOf x=some .local)(hl:l[i]?=some (some (.n fr.loc x v)))(hd:(x==("__debug__":Str))=false):To (tE C fr (.Name x p)) l os (some (.v v)) os:= .mk λas ρ σ F s Q X q=>by
 have hr:=s.r.choose_spec.1.le _ _ (s.l i _ hl).1
 intro Y Z s' ok
 obtain⟨o,ho,m,es,ep,a,b,c,w,hw,r⟩:=ok.ju _ _ hr
 exact wpAny_Name (wpAny_loadName_local F0.kind hk ⟨o,es,ep,ho,a,b,c⟩ hw (bM ok r (q as σ (s.refl (c:= .v v) trivial)))) hd
theorem To.comp(F0:aG C fr){wN iter:Expr}{x:Str}{px pos:Pos}{scope:Scope}{cl:List (Str×Addr)}{k:Nat}{xs ys:List PV}(HP:closureFor scope fr.env=Pure.pure cl)(HQ:∀y∈scope.names,y.2≠ .cell)(xJ:scope.kind=.function)
 (Cm:∀y∈scope.names,y.2=.local->scope.names.lookup y.1=some .local) (hx:scope.names.lookup x=some .local) (hs:∀v,foldedSetIterable iter fr.env v=Pure.pure v)
 (h:To (tE C fr iter) l os (some (.o k)) os1) (hk:os1[k]?=some (.list xs)) (hsz:xs.length<=sizeLine) (hln:Nat.ble fr.names.length l.length=true) (og:Ab os1.length l=true)
 (hL:xK C fr scope cl x wN os1.length l xs (os1.set k .gone) ys os2) (hlv:os2.all Ob.live=true):
 To (tE C fr (.ListComp wN [⟨.Name x px,iter,[],0⟩] scope pos)) l os (some (.o os1.length)) (os2++[.list ys]):= .mk λas ρ σ F s Q X q=>by
 refine Kt F0 HP HQ xJ Cm hx (h.go as ρ σ F s _ _ λcD cQ v=> ?_) hs
 have fg:=(an.mp hk).1
 have SV:(os1.set k .gone).length=os1.length:=a7 ..
 have Lg:ρ.length=l.length:=s.len
 have ZO:∀(w:Option PV),Co fr ρ (ρ++[w])/\Co fr (ρ++[w]) ρ:=λw=>by
  have e:∀i,i<fr.names.length->(ρ++[w])[i]?=ρ[i]?:=λi hi=>cp (by rw[Lg];exact av hi (a5 hln))
  exact⟨e,λi hi=>(e i hi).symm⟩
 refine HR F0 (v.s.get hk λ_=>rfl) hsz (λj zs τ=>∃iW os',Agree os1.length cD iW/\Sx l os' iW ρ τ F/\os'.length=os1.length/\∃PC,zs++PC=ys/\xK C fr scope cl x wN os1.length l (xs.drop j) os' PC os2)
  ⟨cD,_,λ_ _=>rfl,v.s.turn (o':= .gone) hk (λ_=>rfl) (λ_=>m6 _) (λ_ _ c hc=>nomatch hc) λb hb=>if_neg hb,SV,ys,rfl,hL⟩ ?_ ?_
 ·rintro j pv zs τ D IH ⟨iW,os',ag,sx,eC,PC,e,L⟩ hD
  obtain⟨hj,rfl⟩:=an.mp IH
  rw[bR hj]at L
  cases L with
  |next hv hE r=>
   rename_i y ys1 o1
   obtain⟨ps,rr,ha⟩:=sx.r
   have hF:F D=none:=by
    cases q:F D with
    |none=>rfl
    |some c=>have:=rr.le D c q;rw[hD]at this;cases this
   have nk:∀(i:Nat) (o:Ob),os'[i]?=some o->D∉o.keys (ps i):=λi o ei hm=>by
    rw[<-Ob.td (aB.mp hv o (aT ei))]at hm
    obtain⟨c,hc,ec⟩:=bn.mp hm
    have:=rr.at_ i o ei c hc
    rw[ec,hD]at this;cases this
   refine Ku (ZO (some xs[j])).1 (ZO (some xs[j])).2 ((hE D (F0.comp xJ)).go iW (ρ++[some xs[j]]) (τ.upd D (.ns x xs[j])) (F.upd D (.ns x xs[j])) ⟨⟨ps,rr.side nk,ha⟩,by rw[af,af,Lg];rfl,λi d hd=> ?_⟩ _ _ λwD Di v3=> ?_)
   ·rcases Nat.lt_or_ge i l.length with hi|hi
    ·rw[cp hi]at hd
     have:=sx.l i d hd
     refine⟨?_,by rw[cp (by rw[Lg];exact hi)];exact this.2⟩
     have keep:∀a c,F a=some c->(F.upd D (.ns x xs[j])) a=some c:=λa c ea=>(St.bA _ _ λq=>by rw[q,hF]at ea;cases ea).trans ea
     cases d with
     |n a y' p'=>exact keep _ _ this.1
     |_=>exact this.1
    ·rw[cH hi]at hd
     obtain⟨t,ht⟩:∃t,i-l.length=t:=⟨_,rfl⟩
     rw[ht]at hd
     cases t with
     |succ t=>cases hd
     |zero=>
      cases hd
      refine⟨St.bE _ _ _,?_⟩
      rw[cH (by rw[Lg];exact hi),Lg,ht];rfl
   ·obtain⟨AU,r3,W6⟩:=v3.s.r
    refine⟨r3.le _ _ (St.bE _ _ _),wD,o1.take os1.length,λi hi=>(v3.a i (by rw[eC];exact hi)).trans (ag i hi),?_,?_,ys1,by rw[aC];exact e,r⟩
    all_goals have LU:os1.length<=o1.length:=by rw[<-eC];exact v3.n
    all_goals have TY:(o1.take os1.length).length=os1.length:=by rw[fG];exact gg LU
    ·refine⟨⟨AU,(r3.Oo hF).less λi o ei=> ?_,λi hi=>W6 i (av (by rwa[TY]at hi) LU)⟩,Lg,λi d hd=> ?_⟩
     ·have:=(an.mp ei).1
      rw[TY]at this
      rwa[j4 this]at ei
     ·have h0:=sx.l i d hd
      have h1:=h0.1.step v3.a v3.n
      rw[TY]
      exact⟨Ac (aB.mp og _ (aT hd)) h1.1,by rw[h1.2];exact h0.2⟩
    ·exact TY
 ·rintro zs τ kk ⟨iW,os',ag,sx,eC,PC,e,L⟩ AW
  rw[List.drop_length]at L
  cases L with
  |nil=>
   rw[bp]at e;subst e
   have w:=sx.alloc (o:= .list zs) (c:= .list zs) AW (λ_=>rfl) (λ_=>rfl) λq hq=>aB.mp hlv q hq
   rw[eC]at w
   have:=q _ _ ⟨(v.a.trans v.n (Agree.trans (aj _) ag (w.a.less (aR eC.symm)))),w.s,w.ok,aa v.n (by rw[<-eC];exact w.n)⟩
   rwa[show EV.at (λi=>if i=os1.length then kk else iW i) (.o os1.length)=.loc kk from congrArg PV.loc (if_pos rfl)]at this
end
section
open PySem PySem.W PySem.Calls PyProof.Rows PySem.SeqAt PySem.NumText PySem.W.KIN
section
variable{C:Ctx}{K:Frag}{bN bO:ClassData}{lv:Nat}
noncomputable abbrev lk(k:Nat):Lo:=[sv (.str (mk [k])),none,none,none]
noncomputable abbrev v9:List Ob:=[.list (NO.map .str),.list (NP.map .str),.list (hK.map .str)]
noncomputable abbrev sW(l:List Str):Ob:= .list (l.map .str)
noncomputable def wa(C:Ctx)(lv k:Nat):Prop:=Calls C bZ lv [.v (.str (mk [k]))] [] (some (.t [0,1])) [sW (dE k),sW (jp k)]
noncomputable abbrev sC:Str:="99999999999999999999"
theorem ph(fr:Fm)(l:Lo)(os:List Ob):To (t2 C fr (binaryOp .Mult) (.v (.str "9")) (.v (.int 20))) l os (sv (.str sC)) os:=N4 ⟨by decide+kernel,λ_ _=>by decide+kernel,λ_ _=>by decide+kernel⟩ (by decide+kernel)
theorem XR(P:PO C K bN bO):wa C lv 88:=
 Calls.sel (os':=v9++[sW (dE 88),sW (jp 88)]) [3,4] (Calls.ret (c:= .t [3,4]) (os2:=v9++[sW (dE 88),sW (jp 88)]) 5 rfl λL' outer A F=>by
  apply cu F bZ.body (lk 88) [] [ru (.str sC),tt] (ph _ _ _) rfl) ⟨rfl,rfl⟩ rfl rfl
theorem XS(P:PO C K bN bO):wa C lv 82:=
 Calls.sel (os':=v9++[sW (dE 82),sW (jp 82)]) [3,4] (Calls.ret (c:= .t [3,4]) (os2:=v9++[sW (dE 82),sW (jp 82)]) 5 rfl λL' outer A F=>by
  apply cu F bZ.body (lk 82) [] [ru (.str sC),ff,tt] (ph _ _ _) rfl rfl) ⟨rfl,rfl⟩ rfl rfl
theorem XT(P:PO C K bN bO):wa C lv 89:=
 Calls.sel (os':=v9++[sW (dE 89),sW (jp 89)]) [3,4] (Calls.ret (c:= .t [3,4]) (os2:=v9++[sW (dE 89),sW (jp 89)]) 5 rfl λL' outer A F=>by
  apply cu F bZ.body (lk 89) [] [ru (.str sC),ff,ff,tt] (ph _ _ _) rfl rfl rfl) ⟨rfl,rfl⟩ rfl rfl
theorem ES{fr:Fm}{l:Lo}{k:Nat}{b:Bool}(h:decide (mk [k]∈[Str.ofString "C",Str.ofString "T"])=b):To (t2 C fr (compareOp .In) (.v (.str (mk [k]))) (.o 3)) l (v9++[sW ["C","T"]]) (sv (.bool b)) (v9++[sW ["C","T"]]):=ZJ rfl rfl h
theorem Kv{fr:Fm}{l:Lo}{k:Nat}{b:Bool}(h:decide (mk [k]∈[Str.ofString "F",Str.ofString "U"])=b):To (t2 C fr (compareOp .In) (.v (.str (mk [k]))) (.o 4)) l (v9++[sW ["C","T"],sW ["F","U"]]) (sv (.bool b)) (v9++[sW ["C","T"],sW ["F","U"]]):=ZJ rfl rfl h
noncomputable abbrev OR:List Ob:=v9++[sW ["C","T"],sW Hs,sW (Hs++hK)]
theorem SW(P:PO C K bN bO){k:Nat}(hk:k=67\/k=84):wa C lv k:=by
 have g:=λ{L':Addr} {outer:List Env} {A:Around} (F:aG C (bZ.frame L' outer A lv)) (o:Pa)=>cu (m:=0) F bZ.body (lk k) [] (ru (.str sC)::o)
 have a:=λ(fr:Fm) (l:Lo)=>yI (C:=C) (fr:=fr) (l:=l) (j:=4) (k:=2) (os:=v9++[sW ["C","T"],sW Hs]) (zs:=(Hs++hK).map .str) rfl rfl rfl (by decide+kernel) rfl
 rcases hk with rfl|rfl
 ·exact Calls.sel (os':=OR) [0,5] (Calls.ret (c:= .t [0,5]) (os2:=OR) 6 rfl λL' outer A F=>by
   apply g F [ff,ff,ff,rv (.bool true) (v9++[sW ["C","T"]]),tt,.c (some (.o 5)) OR] (ph _ _ _) rfl rfl rfl (ES (by decide+kernel)) rfl (a _ _)) ⟨rfl,rfl⟩ rfl rfl
 ·exact Calls.sel (os':=OR) [0,5] (Calls.ret (c:= .t [0,5]) (os2:=OR) 6 rfl λL' outer A F=>by
   apply g F [ff,ff,ff,rv (.bool true) (v9++[sW ["C","T"]]),tt,.c (some (.o 5)) OR] (ph _ _ _) rfl rfl rfl (ES (by decide+kernel)) rfl (a _ _)) ⟨rfl,rfl⟩ rfl rfl
noncomputable abbrev TZ:List Ob:=v9++[sW ["C","T"],sW ["F","U"],sW (dE 78),sW (jp 78)]
theorem SX(P:PO C K bN bO){k:Nat}(hk:k=78\/k=76):wa C lv k:=by
 have g:=λ{L':Addr} {outer:List Env} {A:Around} (F:aG C (bZ.frame L' outer A lv)) (o:Pa)=>cu (m:=0) F bZ.body (lk k) [] (ru (.str sC)::o)
 rcases hk with rfl|rfl
 ·exact Calls.sel (os':=TZ) [5,6] (Calls.ret (c:= .t [5,6]) (os2:=TZ) 7 rfl λL' outer A F=>by
   apply g F [ff,ff,ff,rv (.bool false) (v9++[sW ["C","T"]]),ff,rv (.bool false) (v9++[sW ["C","T"],sW ["F","U"]]),ff,ru (.str sC)] (ph _ _ _) rfl rfl rfl (ES (by decide+kernel)) rfl (Kv (by decide+kernel)) rfl (ph _ _ _)) ⟨rfl,rfl⟩ rfl rfl
 ·exact Calls.sel (os':=TZ) [5,6] (Calls.ret (c:= .t [5,6]) (os2:=TZ) 7 rfl λL' outer A F=>by
   apply g F [ff,ff,ff,rv (.bool false) (v9++[sW ["C","T"]]),ff,rv (.bool false) (v9++[sW ["C","T"],sW ["F","U"]]),ff,ru (.str sC)] (ph _ _ _) rfl rfl rfl (ES (by decide+kernel)) rfl (Kv (by decide+kernel)) rfl (ph _ _ _)) ⟨rfl,rfl⟩ rfl rfl
end
noncomputable section
noncomputable def rtE:List Stmt->Nat->Expr:=BZ (.Name ⟨#[]⟩ ⟨0,0,0,0⟩) λst=>wF (.Name ⟨#[]⟩ ⟨0,0,0,0⟩) st (rt:=λe _=>e.getD (.Name ⟨#[]⟩ ⟨0,0,0,0⟩))
noncomputable def HS(e:Expr)(i:Nat):Expr:=sel e e (tup:=λes _ _=>(es[i]?).getD e)
noncomputable def SY(e:Expr):Expr:=sel e e (bin:=λa _ _ _=>a)
noncomputable def OS:Expr:=rtE (Sc bZ.body 7) 0
noncomputable def OT:Expr:=XE (HS OS 1)
end
section
variable{C:Ctx}{K:Frag}{bN bO:ClassData}{lv:Nat}
noncomputable abbrev wb(n f:Ob):List Ob:=[.list (NO.map .str),.list (NP.map .str),n,sW ["C","T"],sW ["F","U"],f]
theorem Kw{L':Addr}{outer:List Env}{A:Around}{k:Nat}(xs:List Str):(∀x∈xs,x.length<=100)->
 xK C (bZ.frame L' outer A lv) (EQ OT) [] "name" (DQ OT) 6 [sv (.str (mk [k])),some (.o 0),some (.o 1),some (.o 2)] (xs.map .str) (wb .gone (sW ij)) ((xs.map fO).map .str) (wb .gone (sW ij)):=by
 induction xs with
 |nil=>exactλ_=> .nil
 |cons x xs ih=>
  exactλh=> .next (os1:=wb .gone (sW ij)) rfl (λD Fc=>by
   have z:x.length+(Str.ofString "/1").length<=sizeLine:=a8 200 (bb (h x (.head _)) (by decide:2<=100)) rfl
   apply sg Fc (DQ OT) [sv (.str (mk [k])),some (.o 0),some (.o 1),some (.o 2),some (.n D "name" (.str x))] (wb .gone (sW ij)) [.u (sv (.str x)),ru (.str (fO x))]
    (λ_=>To.nsn Fc (i:=4) rfl rfl rfl) (d7 z)) (ih λx hx=>h x (.tail _ hx))
theorem S0(P:PO C K bN bO){k:Nat}(hk:k=70\/k=85):wa C lv k:=by
 have v:=λ{L':Addr} {outer:List Env} {A:Around} (F:aG C (bZ.frame L' outer A lv))=>(by
  have c1:To (tE C (bZ.frame L' outer A lv) (HS OS 0)) [sv (.str (mk [k])),some (.o 0),some (.o 1),some (.o 2)] (wb (sW hK) (sW ij)).dropLast (some (.o 1)) (wb (sW hK) (sW ij)).dropLast:=by
   apply sg F (HS OS 0) [sv (.str (mk [k])),some (.o 0),some (.o 1),some (.o 2)] (wb (sW hK) (sW ij)).dropLast []
  have c2:To (tE C (bZ.frame L' outer A lv) (SY (HS OS 1))) [sv (.str (mk [k])),some (.o 0),some (.o 1),some (.o 2)] (wb (sW hK) (sW ij)).dropLast (some (.o 5)) (wb (sW hK) (sW ij)):=by
   apply sg F (SY (HS OS 1)) [sv (.str (mk [k])),some (.o 0),some (.o 1),some (.o 2)] (wb (sW hK) (sW ij)).dropLast []
  have hi:To (tE C (bZ.frame L' outer A lv) (AI OT)) [sv (.str (mk [k])),some (.o 0),some (.o 1),some (.o 2)] (wb (sW hK) (sW ij)) (some (.o 2)) (wb (sW hK) (sW ij)):=by
   apply sg F (AI OT) [sv (.str (mk [k])),some (.o 0),some (.o 1),some (.o 2)] (wb (sW hK) (sW ij)) []
  have c3:To (tE C (bZ.frame L' outer A lv) OT) [sv (.str (mk [k])),some (.o 0),some (.o 1),some (.o 2)] (wb (sW hK) (sW ij)) (some (.o 6)) (wb .gone (sW ij)++[sW (hK.map fO)]):=by
   apply To.comp F (x:="name") (cl:=[]) rfl (by with_unfolding_all decide) rfl (by with_unfolding_all decide+kernel) rfl (λ_=>rfl) hi (k:=2) rfl (by decide+kernel) rfl rfl (Kw hK (by decide+kernel)) rfl
  apply To.tup (cs:=[.o 1,.o 7]) (c:= .t [1,7]) (qo.cons c1 (qo.cons (To.bin c2 c3 (yI (j:=5) (k:=6) (zs:=(ij++hK.map fO).map .str) rfl rfl rfl (by decide+kernel) rfl)) qo.nil (xC rfl _)) (xC rfl _)) (λ_=>rfl) (λh k hk=>h (.o k) ((am.mp hk).elim (λe=>e▸.head _) λhk=>aq.mp hk▸.tail _ (.head _))) (by decide+kernel):
   To (tE C (bZ.frame L' outer A lv) OS) [sv (.str (mk [k])),some (.o 0),some (.o 1),some (.o 2)] (wb (sW hK) (sW ij)).dropLast (some (.t [1,7])) (wb .gone (sW ij)++[sW (hK.map fO),sW (ij++hK.map fO)]))
 have g:=λ{L':Addr} {outer:List Env} {A:Around} (F:aG C (bZ.frame L' outer A lv)) (o:Pa)=>cu (m:=0) F bZ.body (lk k) [] (ru (.str sC)::o)
 rcases hk with rfl|rfl
 ·exact Calls.sel (os':=wb .gone (sW ij)++[sW (hK.map fO),sW (ij++hK.map fO)]) [1,7] (Calls.ret (c:= .t [1,7]) (os2:=wb .gone (sW ij)++[sW (hK.map fO),sW (ij++hK.map fO)]) 8 rfl λL' outer A F=>by
   apply g F [ff,ff,ff,rv (.bool false) (v9++[sW ["C","T"]]),ff,rv (.bool true) (v9++[sW ["C","T"],sW ["F","U"]]),tt,.x (some (.t [1,7])) (wb .gone (sW ij)++[sW (hK.map fO),sW (ij++hK.map fO)])] (ph _ _ _) rfl rfl rfl (ES (by decide+kernel)) rfl (Kv (by decide+kernel)) rfl (v F)) ⟨rfl,rfl⟩ rfl rfl
 ·exact Calls.sel (os':=wb .gone (sW ij)++[sW (hK.map fO),sW (ij++hK.map fO)]) [1,7] (Calls.ret (c:= .t [1,7]) (os2:=wb .gone (sW ij)++[sW (hK.map fO),sW (ij++hK.map fO)]) 8 rfl λL' outer A F=>by
   apply g F [ff,ff,ff,rv (.bool false) (v9++[sW ["C","T"]]),ff,rv (.bool true) (v9++[sW ["C","T"],sW ["F","U"]]),tt,.x (some (.t [1,7])) (wb .gone (sW ij)++[sW (hK.map fO),sW (ij++hK.map fO)])] (ph _ _ _) rfl rfl rfl (ES (by decide+kernel)) rfl (Kv (by decide+kernel)) rfl (v F)) ⟨rfl,rfl⟩ rfl rfl
theorem AK(P:PO C K bN bO){k:Nat}(hk:k∈cB):wa C lv k:=by
 have h9:k=88\/k=82\/k=89\/(k=67\/k=84)\/(k=70\/k=85)\/(k=78\/k=76):=(by decide:∀k∈cB,k=88\/k=82\/k=89\/(k=67\/k=84)\/(k=70\/k=85)\/(k=78\/k=76)) k hk
 exact h9.elim (λe=>e▸XR P) λh=>h.elim (λe=>e▸XS P) λh=>h.elim (λe=>e▸XT P) λh=>h.elim (SW P) λh=>h.elim (S0 P) (SX P)
end
section
variable{C:Ctx}{fr:Fm}{l:Lo}{os:List Ob}{K:Frag}{bN bO:ClassData}{lv:Nat}{fs:List Nat}{pos mix:Nat}{G:Prop}
noncomputable def XU(C:Ctx)(lv:Nat)(fs:List Nat)(k pos mix:Nat)(ws:List Str)(s:Bool)(q m:Nat):Prop:=Calls C aV lv [.o 0,.v (.str (mk [k]))] [.eW fs pos mix] (some (.m 1 (.bool (!s)))) [.eW fs q m,sW ws]
noncomputable abbrev XV(C:Ctx)(lv:Nat)(fs:List Nat)(k pos mix:Nat)(G:Prop):Prop:=∀(ws:List Str) (s:Bool) (q m:Nat),Fa k (ws.map L) s->XU C lv fs k pos mix ws s q m->G
noncomputable abbrev lO(k:Nat)(a b:Option EV):Lo:=[some (.o 0),sv (.str (mk [k])),a,b,none,none,none,none,none,none,none,none]
noncomputable abbrev pO(fs:List Nat)(q m k:Nat):List Ob:=[.eW fs q m,sW (dE k),sW (jp k)]
noncomputable abbrev xL:Ob:=sW ["T","U"]
theorem wc{L':Addr}{outer:List Env}{A:Around}(F:aG C (aV.frame L' outer A lv))(P:PO C K bN bO)(hl:1<=lv){k r q m:Nat}{b:Bool}(hb:decide (r=3)=b)(pk:NH C 12 fs pos mix r q m):
 To (tE C (aV.frame L' outer A lv) (Kq aV.body 1)) (lO k (some (.o 1)) (some (.o 2))) (pO fs pos mix k) (sv (.bool b)) (pO fs q m k):=by
 have e:decide ((r:Int)=(3:Nat))=b:=hb▸ka.mpr (by rw[decide_eq_true_iff,decide_eq_true_iff];exact Int.ofNat_inj)
 rw[<-e]
 apply sg F (Kq aV.body 1) (lO k (some (.o 1)) (some (.o 2))) (pO fs pos mix k) [rv (.int r) (pO fs q m k)] (uw P F rfl (bx hl (by decide:0<1)) pk)
theorem wd{L':Addr}{outer:List Env}{A:Around}(F:aG C (aV.frame L' outer A lv))(P:PO C K bN bO)(hl:1<=lv){k:Nat}(hk:k∈cB)(l:Lo):dO C (aV.frame L' outer A lv) "_law_words" [.v (.str (mk [k]))] l [.eW fs pos mix] (some (.t [1,2])) (pO fs pos mix k):=
 cR P.G F P.AQ rfl (bx hl (by decide:0<1)) [] (AK (lv:=0) P hk) rfl rfl rfl rfl rfl
theorem ZP{k:Nat}:decide (mk [k]∈[Str.ofString "T",Str.ofString "U"])=decide (k=84\/k=85):=by
 rw[decide_eq_decide,<-kT,<-kU];simp[u0]
theorem Oc(P:PO C K bN bO)(hl:1<=lv)(hf:fs.length<=1000){k:Nat}(hk:k∈qN)(kk:XV C lv fs k pos mix G):G:=by
 have n7:=ZI hk
 have hn:=(by decide+kernel:∀k∈qN,∀s:Bool,0<(wordsOf k s).length/\(wordsOf k s).length<=100) k hk
 refine fu P hf pos mix 12 (by decide) λr q m hr pk=> ?_
 have nt:=λ{fr:Fm} (l:Lo) (q m:Nat)=>HJ (C:=C) (fr:=fr) (l:=l) (k:=3) (os:=pO fs q m k++[xL]) (xs:=["T","U"]) rfl rfl (ZP.trans (decide_eq_false n7.1))
 by_cases hb:r=3
 ·refine fu P hf q m (jp k).length (hn false).1 λi q1 m1 hi Kx=>kk [(jp k)[i]] false q1 m1 (DM hk (cV hi)) ?_
  refine Calls.sel (os':=pO fs q1 m1 k++[xL,sW [(jp k)[i]]]) [0,4] (Calls.ret (c:= .m 4 (.bool true)) (os2:=pO fs q1 m1 k++[xL,sW [(jp k)[i]]]) 5 rfl λL' outer A F=> ?_) ⟨rfl,rfl⟩ rfl rfl
  have it:=λ(l:Lo)=>wn (C:=C) (fr:=aV.frame L' outer A lv) (l:=l) (os:=pO fs q1 m1 k++[xL]) (k:=2) (i:=i) (v:= .str (jp k)[i]) rfl (av hi (aa (hn false).2 (by decide))) (by rw[bo,aA hi];rfl)
  apply cu F aV.body (lO k none none) [.eW fs pos mix] [.c (some (.t [1,2])) (pO fs pos mix k),.x (sv (.bool true)) (pO fs q m k),rv (.bool true) (pO fs q m k++[xL]),tt,tt,ru (.int (jp k).length),rv (.int i) (pO fs q1 m1 k++[xL]),ru (.str (jp k)[i])]
   (wd F P hl n7.2 _) (wc F P hl (decide_eq_true hb) pk) (nt _ q m) rfl rfl (cO P F rfl rfl (ae _) (ak (hn false).2 (by decide))) (uw P F rfl (bx hl (by decide:0<1)) Kx) (it _)
 ·refine fu P hf q m (dE k).length (hn true).1 λi q1 m1 hi Kx=>kk [(dE k)[i]] true q1 m1 (DM hk (cV hi)) ?_
  refine Calls.sel (os':=pO fs q1 m1 k++[xL,sW [(dE k)[i]]]) [0,4] (Calls.ret (c:= .m 4 (.bool false)) (os2:=pO fs q1 m1 k++[xL,sW [(dE k)[i]]]) 5 rfl λL' outer A F=> ?_) ⟨rfl,rfl⟩ rfl rfl
  have it:=λ(l:Lo)=>wn (C:=C) (fr:=aV.frame L' outer A lv) (l:=l) (os:=pO fs q1 m1 k++[xL]) (k:=1) (i:=i) (v:= .str (dE k)[i]) rfl (av hi (aa (hn true).2 (by decide))) (by rw[bo,aA hi];rfl)
  apply cu F aV.body (lO k none none) [.eW fs pos mix] [.c (some (.t [1,2])) (pO fs pos mix k),.x (sv (.bool false)) (pO fs q m k),rv (.bool true) (pO fs q m k++[xL]),tt,ff,ru (.int (dE k).length),rv (.int i) (pO fs q1 m1 k++[xL]),ru (.str (dE k)[i])]
   (wd F P hl n7.2 _) (wc F P hl (decide_eq_false hb) pk) (nt _ q m) rfl rfl (cO P F rfl rfl (ae _) (ak (hn true).2 (by decide))) (uw P F rfl (bx hl (by decide:0<1)) Kx) (it _)
end
noncomputable def gk(k i:Nat):Str:=((dE k)[i]?).getD Str.empty
structure TW(k n:Nat):Prop where
 len:(dE k).length=n
 n0:0<n
 n9:n<=100
 bad:(jp k).length=19
 g0:(dE k)[0]?=some (c7 k)
 b:∀x∈dE k++jp k,x.length<=40
 two:c7 k++Str.ofString ":1"=lr (c7 k) "1"/\c7 k++Str.ofString ":2"=lr (c7 k) "2"
 dist:∀a,a<n->∀st∈[1,5,7],∀i,i<4->((List.range' 0 i).map λt=>gk k ((a+t*st)%n)).Nodup
theorem twT:TW 84 12:=⟨rfl,by decide,by decide,rfl,rfl,by decide+kernel,by decide+kernel,by decide+kernel⟩
theorem twU:TW 85 6:=⟨rfl,by decide,by decide,rfl,rfl,by decide+kernel,by decide+kernel,by decide+kernel⟩
theorem TW.at_{k n:Nat}(T:TW k n){i:Nat}(h:i<n):(dE k)[i]?=some (gk k i)/\gk k i∈dE k:=by
 have e:=aA (l:=dE k) (T.len.symm▸h:i<_)
 have e2:gk k i=(dE k)[i]'(T.len.symm▸h):=congrArg (λo:Option Str=>o.getD Str.empty) e
 exact⟨e.trans (congrArg some e2.symm),e2▸cV _⟩
section
variable{C:Ctx}{K:Frag}{bN bO:ClassData}{lv:Nat}{fs:List Nat}{pos mix:Nat}{G:Prop}
noncomputable abbrev lT(k:Nat)(w:Bool)(a st:Nat)(x y z:Option EV):Lo:=[some (.o 0),sv (.str (mk [k])),some (.o 1),some (.o 2),sv (.bool w),none,some (.o 4),sv (.int (a:Nat)),sv (.int (st:Nat)),x,y,z]
noncomputable abbrev XW:Ob:= .list [.int 1,.int 5,.int 7]
noncomputable abbrev Cp(fs:List Nat)(q m k:Nat)(es:List Str):List Ob:=[.eW fs q m,sW (dE k),sW (jp k),xL,sW es,XW]
noncomputable def LtP(C:Ctx)(lv:Nat)(fs:List Nat)(k:Nat)(w:Bool)(a st j i pos mix:Nat)(es:List Str)(q m:Nat)(I8:List Str):Prop:=∀{L':Addr} {outer:List Env} {A:Around},aG C (aV.frame L' outer A lv)->
 Loop C (aV.frame L' outer A lv) (jb aV.body 6) [9] 6 9 ((List.range' j i).map λi=> .int (i:Nat)) (lT k w a st none none none) (Cp fs pos mix k es) (.norm (lT k w a st none none none) (Cp fs q m k I8))
structure XX(k n a st j i:Nat)(ps:List (Str×Str)):Prop where
 w:ps.map (·.1)=(List.range' j i).map λt=>gk k ((a+t*st)%n)
 c:∀p∈ps,p.2∈wK
theorem Od{r:Nat}(h:r<3):∃c,wK[r]?=some c/\c∈wK/\c.length<=3:=(by decide+kernel:∀r,r<3->∃c,wK[r]?=some c/\c∈wK/\c.length<=3) r h
theorem Ky(P:PO C K bN bO)(hl:1<=lv)(hf:fs.length<=1000){k n:Nat}(T:TW k n){w:Bool}{a st:Nat}(j7:st<=7)(i:Nat):∀(j:Nat) (es:List Str) (pos mix:Nat),j+i<=3->es.length<=j->
 (∀(ps:List (Str×Str)) (q m:Nat),XX k n a st j i ps->LtP C lv fs k w a st j i pos mix es q m (es++cX ps)->G)->G:=by
 induction i with
 |zero=>exactλj es pos mix _ _ k=>k [] pos mix ⟨rfl,nofun⟩ λ_=>(bp es).symm▸.nil
 |succ i ih=>
  intro j es pos mix h E2 kk
  refine fu P hf pos mix 3 (by decide) λr q m hr pk=> ?_
  obtain⟨c,hc,TR,hc2⟩:=Od hr
  have gi:=T.at_ (kQ (a+j*st) T.n0)
  have gl:=T.b _ (dF _ gi.2)
  generalize gk k ((a+j*st)%n)=g at gi gl
  refine ih (j+1) (es++[lr g c]) q m (dc j 1 i▸h) (by rw[af];exact aL E2) λps q2 m2 hE lp=>kk ((g,c)::ps) q2 m2 ⟨?_,λp hp=>(am.mp hp).elim (λe=>e▸TR) (hE.c p)⟩ λ{L' outer A} F=> ?_
  ·have e:gk k ((a+j*st)%n)=g:=congrArg (λo:Option Str=>o.getD Str.empty) gi.1
   rw[List.range'_succ,aP,aP,e,hE.w]
  ·have b:=cu (m:=6) F (jb aV.body 6) (lT k w a st (sv (.int (j:Nat))) none none) (Cp fs pos mix k es) [ru (.int ((j:Int)*(st:Nat))),ru (.int n),ru (.int ((a+j*st)%n:Nat)),ru (.str g),ru (.str (g++":")),rv (.int r) (Cp fs q m k es++[sW wK]),ru (.str c),ru (.str (lr g c)),rv .none (Cp fs q m k (es++[lr g c])++[sW wK])]
   have md:((a:Int)+(j:Int)*(st:Nat))%(n:Nat)=((a+j*st)%n:Nat):=by rw[Int.natCast_emod,Int.natCast_add,Int.natCast_mul]
   have s1:=a8 60 (aa (bb gl (by decide+kernel:(Str.ofString ":").length<=1)) (by decide)) rfl
   have s2:(g++Str.ofString ":").length+c.length<=sizeLine:=a8 60 (aa (bb (aa (aR (gY g _)) (bb gl (by decide+kernel:(Str.ofString ":").length<=1))) hc2) (by decide)) rfl
   have lp:=lp F
   rw[aC]at lp
   apply Loop.next (ks:=[9]) (l:=lT k w a st none none none) (i:=9) (x:= .int (j:Nat)) true (b (N6 (by exact Int.lt_of_lt_of_le (by decide) (aE st)) (Int.lt_of_le_of_lt (cF.mpr j7) (by decide))) (cO P F rfl rfl ((ae _).trans T.len) (ak T.n9 (by decide))) (N7 (bI.mpr T.n0) md)
    (wn (k:=1) rfl (av (kQ _ T.n0) (aa T.n9 (by decide))) (by rw[bo,gi.1];rfl)) (d7 s1) (uw P F rfl (bx hl (by decide:0<1)) pk)
    (wn (k:=6) rfl (av hr (by decide)) (by rw[bo,hc];rfl)) (d7 s2) (dC rfl rfl (a8 100 (by rw[ae];exact aa E2 (aa (aa (ax j _) h) (by decide))) rfl) (aI (l₂:=[lr g c])).symm)) rfl lp
noncomputable abbrev wQ(fs:List Nat)(q m k:Nat)(es ws:List Str):List Ob:=Cp fs q m k es++[sW ["{"],sW ("{"::es),sW ["}"],sW ws]
noncomputable abbrev wq(es:List Str):List Str:=Str.ofString "{"::(es++[Str.ofString "}"])
theorem brL(es:List Str):(wq es).map L=[123]::(es.map L++[[125]]):=by
 rw[aP,aI,qH,kS,lh]
noncomputable abbrev AZ(i:Nat):Stmt:=(aV.body[i]?).getD (.Pass ⟨0,0,0,0⟩)
noncomputable def S6(C:Ctx)(lv:Nat)(fs:List Nat)(k:Nat)(w:Bool)(a st pos mix q m:Nat)(es:List Str):Prop:=∀{L':Addr} {outer:List Env} {A:Around},aG C (aV.frame L' outer A lv)->∀{bB:oj},
 Runs (hZ C (aV.frame L' outer A lv) (aV.body.drop 8)) 1 (lT k w a st none (some (.o 9)) none) (wQ fs q m k es (wq es)) bB->Runs (hZ C (aV.frame L' outer A lv) aV.body) 1 (lO k none none) [.eW fs pos mix] bB
noncomputable abbrev lV(k:Nat)(w:Bool)(x y z:Option EV):Lo:=[some (.o 0),sv (.str (mk [k])),some (.o 1),some (.o 2),sv (.bool w),none,x,y,z,none,none,none]
theorem Kz(P:PO C K bN bO)(hl:1<=lv)(hf:fs.length<=1000){k n:Nat}(hk:k=84\/k=85)(T:TW k n)
 (kk:∀(w:Bool) (a st q m:Nat) (ps:List (Str×Str)),Hy k ps->S6 C lv fs k w a st pos mix q m (cX ps)->G):G:=by
 have h0:=bx hl (by decide:0<1)
 have hkA:k∈cB:=hk.elim (λe=>e▸(by decide:84∈cB)) λe=>e▸(by decide:85∈cB)
 refine fu P hf pos mix 12 (by decide) λr q m hr pk=>fu P hf q m n T.n0 λa q1 m1 ha Kx=>fu P hf q1 m1 3 (by decide) λr2 q2 m2 NG S7=>fu P hf q2 m2 4 (by decide) λc q3 m3 hc pk3=> ?_
 have hs:=aA (l:=([1,5,7]:List Nat)) NG
 have j7:([1,5,7]:List Nat)[r2]∈[1,5,7]:=cV _
 have S8:=(by decide:∀st∈[1,5,7],st<=7) _ j7
 have S9:([.int 1,.int 5,.int 7]:List PV)[r2]?=some (.int (([1,5,7]:List Nat)[r2]:Nat)):=(bo (f:=λn:Nat=>PV.int n) (l:=[1,5,7])).trans (congrArg (Option.map _) hs)
 generalize([1,5,7]:List Nat)[r2]=st at j7 S8 S9
 refine Ky (w:=decide (r=3)) (a:=a) P hl hf T S8 c 0 [] q3 m3 (aa (aR (dR c)) (gu hc)) (aj 0) λps q4 m4 hE lp=> ?_
 have EA:ps.length=c:=(ae ..).symm.trans ((congrArg List.length hE.w).trans ((ae ..).trans List.length_range'))
 refine kk (decide (r=3)) a st q4 m4 ps ⟨hE.w▸T.dist a ha st j7 c hc,λp hp=>⟨?_,hE.c p hp⟩,EA▸gu hc⟩ λ{L' outer A} F bB rest=> ?_
 ·have:=jU (f:=(·.1)) hp
  rw[hE.w]at this
  exact(bn.mp this).elim λt ht=>ht.2▸(T.at_ (kQ _ T.n0)).2
 ·have w:=qL F Fn.top (os:=Cp fs q3 m3 k []) (n:=c) (l:=lT k (decide (r=3)) a st none none none) (ks:=[9]) (x:="step") (i:=9) (av hc (by decide)) (by ac_rfl) rfl (lp F)
  have z:∀x:PV,((cX ps).map PV.str).length+1+1<=sizeLine:=λx=>a8 10 (by rw[ae,cX,ae,EA];exact aL (aa hc (by decide))) rfl
  rw[show aV.body=AZ 0::AZ 1::AZ 2::AZ 3::AZ 4::AZ 5::AZ 6::AZ 7::aV.body.drop 8 by rfl']
  refine .cons (l1:=lO k (some (.o 1)) (some (.o 2))) (os1:=pO fs pos mix k) (by
   apply cN F (AZ 0) (lO k none none) [.eW fs pos mix] [.c (some (.t [1,2])) (pO fs pos mix k)] (wd F P hl hkA _)) ?_
  refine .cons (l1:=lV k (decide (r=3)) none none none) (os1:=pO fs q m k) (by
   apply cN F (AZ 1) (lO k (some (.o 1)) (some (.o 2))) (pO fs pos mix k) [.x (sv (.bool (decide (r=3)))) (pO fs q m k)] (wc F P hl rfl pk)) ?_
  refine .cons (l1:=lV k (decide (r=3)) none none none) (os1:=pO fs q m k++[xL]) (by
   apply cN F (AZ 2) (lV k (decide (r=3)) none none none) (pO fs q m k) [rv (.bool false) (pO fs q m k++[xL]),ff] (HJ (k:=3) (xs:=["T","U"]) rfl rfl (ZP.trans (decide_eq_true hk))) rfl) ?_
  refine .cons (l1:=lV k (decide (r=3)) (some (.o 4)) none none) (os1:=pO fs q m k++[xL,sW []]) (by
   apply cN F (AZ 3) (lV k (decide (r=3)) none none none) (pO fs q m k++[xL]) []) ?_
  refine .cons (l1:=lV k (decide (r=3)) (some (.o 4)) (sv (.int a)) none) (os1:=pO fs q1 m1 k++[xL,sW []]) (by
   apply cN F (AZ 4) (lV k (decide (r=3)) (some (.o 4)) none none) (pO fs q m k++[xL,sW []]) [ru (.int n),rv (.int a) (pO fs q1 m1 k++[xL,sW []])] (cO P F rfl rfl ((ae _).trans T.len) (ak T.n9 (by decide))) (uw P F rfl h0 Kx)) ?_
  refine .cons (l1:=lT k (decide (r=3)) a st none none none) (os1:=Cp fs q2 m2 k []) (by
   apply cN F (AZ 5) (lV k (decide (r=3)) (some (.o 4)) (sv (.int a)) none) (pO fs q1 m1 k++[xL,sW []]) [rv (.int r2) (Cp fs q2 m2 k []),ru (.int (st:Nat))] (uw P F rfl h0 S7) (wn (k:=5) rfl (av NG (by decide)) S9)) ?_
  refine .cons (l1:=lT k (decide (r=3)) a st none none none) (os1:=Cp fs q4 m4 k (cX ps)) (by
   apply cN F (AZ 6) (lT k (decide (r=3)) a st none none none) (Cp fs q2 m2 k []) [rv (.int c) (Cp fs q3 m3 k []),ru (.xP 0 c 1),.o (.norm (lT k (decide (r=3)) a st none none none) (Cp fs q4 m4 k (cX ps)))] (uw P F rfl h0 pk3) (ig P F rfl) w) ?_
  refine .cons (l1:=lT k (decide (r=3)) a st none (some (.o 9)) none) (os1:=wQ fs q4 m4 k (cX ps) (wq (cX ps))) (by
   apply cN F (AZ 7) (lT k (decide (r=3)) a st none none none) (Cp fs q4 m4 k (cX ps)) [.c (some (.o 7)) (Cp fs q4 m4 k (cX ps)++[sW ["{"],sW ("{"::cX ps)]),.c (some (.o 9)) (wQ fs q4 m4 k (cX ps) (wq (cX ps)))] (yI (j:=6) (k:=4) rfl rfl rfl (aa (aR (bH 1 _)) (aa (bF _) (z .none))) rfl) (yI (j:=7) (k:=8) rfl rfl rfl (z .none) (congrArg (PV.str "{"::·) (aI (l₂:=[Str.ofString "}"])).symm))) ?_
  exact rest
theorem we{k:Nat}{w:Bool}{a st q m:Nat}{es:List Str}(R:S6 C lv fs k w a st pos mix q m es){ws:List Str}{i q' m':Nat}{os2:List Ob}(hi:(Nat.ble (i+1) os2.length&&(Nat.ble 1 (i+1)&&BK (i+1) (some (.m i (.bool w)))))=true)(hs:L1 [0,i] 1 (os2.take (i+1)).length (.m 1 (.bool w)))(h2:qK (os2.take (i+1)) [0,i]=[.eW fs q' m',sW ws])
 (t:∀{L':Addr} {outer:List Env} {A:Around},aG C (aV.frame L' outer A lv)->Runs (hZ C (aV.frame L' outer A lv) (aV.body.drop 8)) 1 (lT k w a st none (some (.o 9)) none) (wQ fs q m k es (wq es)) (.ret (.m i (.bool w)) os2)):XU C lv fs k pos mix ws (!w) q' m':=by
 have h:=Calls.sel (c':= .m 1 (.bool w)) [0,i] (Calls.ret (Fn:=aV) (args:=[.o 0,.v (.str (mk [k]))]) (os:=[.eW fs pos mix]) (c:= .m i (.bool w)) (os2:=os2) (i+1) (au.mpr ⟨rfl,au.mpr ⟨dm (e6 hi),au.mpr ⟨dm hi,e6 (e6 hi)⟩⟩⟩) λL' outer A F=>R F (t F)) hs rfl h2
 unfold XU
 rw[Bool.not_not];exact h
theorem HT(P:PO C K bN bO)(hl:1<=lv)(hf:fs.length<=1000){k n:Nat}{κ:Type}[DecidableEq κ]{rd:ar->List Nat->Option (κ×ar)}{sh:ar->κ->List Nat}{ok:ar->κ->Prop}{f:List (κ×Int)->dA}{AY:κ×Int->Bool}(T:TW k n)(U:TK k rd sh ok f AY)(hk:k=84\/k=85)(kk:XV C lv fs k pos mix G):G:=by
 have h0:=bx hl (by decide:0<1)
 refine Kz (pos:=pos) (mix:=mix) P hl hf hk T λw a st q m ps E R=> ?_
 cases w with
 |false=>
  exact kk (wq (cX ps)) true q m (brL _▸Hz U hk E) (we R (i:=9) (os2:=wQ fs q m k (cX ps) (wq (cX ps))) rfl ⟨rfl,rfl⟩ rfl λ{L' outer A} F=>by
   apply cu (m:=1) F (aV.body.drop 8) (lT k false a st none (some (.o 9)) none) (wQ fs q m k (cX ps) (wq (cX ps))) [ff] rfl)
 |true=>
  refine fu P hf q m 8 (by decide) λwt q1 m1 hw pk=> ?_
  have hd:=λ{L':Addr} {outer:List Env} {A:Around} (F:aG C (aV.frame L' outer A lv)) (p:Pa)=>cu (m:=1) F (aV.body.drop 8) (lT k true a st none (some (.o 9)) none) (wQ fs q m k (cX ps) (wq (cX ps))) (tt::rv (.int wt) (wQ fs q1 m1 k (cX ps) (wq (cX ps)))::p)
  have z:((cX ps).map PV.str).length+1+1<=sizeLine:=a8 10 (by rw[ae,cX,ae];exact aL (aL (aa E.n (by decide)))) rfl
  have zw:((wq (cX ps)).map PV.str).length<=sizeLine:=by rw[ae,ay,af,<-ae (f:=PV.str)];exact z
  have a0:((dE k).map PV.str)[0]?=some (.str (c7 k)):=by rw[bo,T.g0];rfl
  have T2:=T.b _ (dF _ (aT T.g0))
  have sz:=λ(x y:Str) (hx:x.length<=40) (hy:y.length<=3)=>(a8 60 (aa (bb hx hy) (by decide)) rfl:x.length+y.length<=sizeLine)
  by_cases w0:wt=0
  ·refine kk (cX ps++[Str.ofString "}"]) false q1 m1 (by rw[aI,kS,lh];exact Sy U hk E) (we R (i:=10) (os2:=wQ fs q1 m1 k (cX ps) (wq (cX ps))++[sW (cX ps++[Str.ofString "}"])]) rfl ⟨rfl,rfl⟩ rfl λ{L' outer A} F=> ?_)
   apply hd F [tt,.c (some (.o 10)) (wQ fs q1 m1 k (cX ps) (wq (cX ps))++[sW (cX ps++[Str.ofString "}"])])] rfl (uw P F rfl h0 pk) (nK w0) (Xu (k:=9) rfl (Ca _ _) zw rfl)
  by_cases w1:wt=1
  ·refine kk (Str.ofString "{"::cX ps) false q1 m1 (by rw[aP,qH];exact Sz U hk E) (we R (i:=9) (os2:=wQ fs q1 m1 k (cX ps) (Str.ofString "{"::cX ps)) rfl ⟨rfl,rfl⟩ rfl λ{L' outer A} F=> ?_)
   have po:=λ(l:Lo)=>L2 (C:=C) (fr:=aV.frame L' outer A lv) (l:=l) (k:=9) (os:=wQ fs q1 m1 k (cX ps) (wq (cX ps))) (os1:=wQ fs q1 m1 k (cX ps) (wq (cX ps))) (xs:=(Str.ofString "{"::cX ps).map .str) (v:= .str "}") rfl (congrArg (λl=>some (Ob.list (PV.str "{"::l))) (aI (l₂:=[Str.ofString "}"]))) z
   apply hd F [ff,tt,rv (.str "}") (wQ fs q1 m1 k (cX ps) (Str.ofString "{"::cX ps))] rfl (uw P F rfl h0 pk) (fa w0) (nK w1) (po _)
  by_cases w2:wt=2
  ·refine kk ["{",c7 k++":1",c7 k++":2","}"] false q1 m1 (by rw[T.two.1,T.two.2];show Fa k [L (Str.ofString "{"),_,_,L (Str.ofString "}")] false;rw[qH,lh];exact SA U hk) (we R (i:=10) (os2:=wQ fs q1 m1 k (cX ps) (wq (cX ps))++[sW ["{",c7 k++":1",c7 k++":2","}"]]) rfl ⟨rfl,rfl⟩ rfl λ{L' outer A} F=> ?_)
   have it:=λ(l:Lo)=>wn (C:=C) (fr:=aV.frame L' outer A lv) (l:=l) (os:=wQ fs q1 m1 k (cX ps) (wq (cX ps))) (k:=1) (i:=0) rfl (by decide) a0
   apply hd F [ff,ff,tt,ru (.str (c7 k)),ru (.str (c7 k++":1")),ru (.str (c7 k)),ru (.str (c7 k++":2"))] rfl (uw P F rfl h0 pk) (fa w0) (fa w1) (nK w2) (it _) (d7 (sz _ _ T2 (by decide+kernel))) (it _) (d7 (sz _ _ T2 (by decide+kernel)))
  ·refine fu P hf q1 m1 19 (by decide) λr q2 m2 hr S7=> ?_
   have hb:=aA (l:=jp k) (T.bad.symm▸hr:r<_)
   have XY:=aT hb
   have Ta:=T.b _ (ce _ XY)
   generalize(jp k)[r]'(T.bad.symm▸hr)=x at hb XY Ta
   have hbE:[c7 k,":3",c7 k++":",c7 k++":03",x++":3"]⊆NQ k:=λy hy=>by
    rcases am.mp hy with e|hy
    ·exact e▸.head _
    rcases am.mp hy with e|hy
    ·exact e▸.tail _ (.head _)
    rcases am.mp hy with e|hy
    ·exact e▸.tail _ (.tail _ (.head _))
    rcases am.mp hy with e|hy
    ·exact e▸.tail _ (.tail _ (.tail _ (.head _)))
    ·exact aq.mp hy▸.tail _ (.tail _ (.tail _ (.tail _ (jU (f:=λx:Str=>x++Str.ofString ":3") XY))))
   have ZQ:wt-3<5:=qS (eL (eL (eL (bW _) (Ne.symm w0)) (Ne.symm w1)) (Ne.symm w2)) hw
   have ew:(wt:Int)-3=((wt-3:Nat):Int):=(Int.ofNat_sub (eL (eL (eL (bW _) (Ne.symm w0)) (Ne.symm w1)) (Ne.symm w2))).symm
   have hE:=aA (l:=[c7 k,Str.ofString ":3",c7 k++":",c7 k++":03",x++":3"]) ZQ
   have ZR:=hbE (aT hE)
   generalize([c7 k,Str.ofString ":3",c7 k++":",c7 k++":03",x++":3"])[wt-3]=e at hE ZR
   refine kk ["{",e,"}"] false q2 m2 (by show Fa k [L (Str.ofString "{"),L e,L (Str.ofString "}")] false;rw[qH,lh];exact SD U hk ZR) (we R (i:=11) (os2:=wQ fs q2 m2 k (cX ps) (wq (cX ps))++[sW [c7 k,":3",c7 k++":",c7 k++":03",x++":3"],sW ["{",e,"}"]]) rfl ⟨rfl,rfl⟩ rfl λ{L' outer A} F=> ?_)
   have it:=λ(l:Lo)=>wn (C:=C) (fr:=aV.frame L' outer A lv) (l:=l) (os:=wQ fs q1 m1 k (cX ps) (wq (cX ps))) (k:=1) (i:=0) rfl (by decide) a0
   have ib:=λ(l:Lo)=>wn (C:=C) (fr:=aV.frame L' outer A lv) (l:=l) (os:=wQ fs q2 m2 k (cX ps) (wq (cX ps))) (k:=2) (i:=r) (v:= .str x) rfl (av hr (by decide)) (by rw[bo,hb];rfl)
   have ie:=λ(l:Lo)=>wn (C:=C) (fr:=aV.frame L' outer A lv) (l:=l) (os:=wQ fs q2 m2 k (cX ps) (wq (cX ps))++[sW [c7 k,":3",c7 k++":",c7 k++":03",x++":3"]]) (k:=10) (i:=wt-3) (v:= .str e) rfl (av ZQ (by decide)) ((bo ..).trans (congrArg (Option.map PV.str) hE))
   rw[<-ew]at ie
   apply hd F [ff,ff,ff,ru (.str (c7 k)),ru (.str (c7 k)),ru (.str (c7 k++":")),ru (.str (c7 k)),ru (.str (c7 k++":03")),ru (.int 19),rv (.int r) (wQ fs q2 m2 k (cX ps) (wq (cX ps))),ru (.str x),ru (.str (x++":3")),ru (.str e)] rfl (uw P F rfl h0 pk) (fa w0) (fa w1) (fa w2) (it _) (it _) (d7 (sz _ _ T2 (by decide+kernel))) (it _) (d7 (sz _ _ T2 (by decide+kernel))) (cO P F rfl (k:=2) rfl ((ae _).trans T.bad) (by decide)) (uw P F rfl h0 S7) (ib _) (d7 (sz _ _ Ta (by decide+kernel))) (ie _)
theorem wR(P:PO C K bN bO)(hl:1<=lv)(hf:fs.length<=1000){k:Nat}(hk:k∈cB)(kk:XV C lv fs k pos mix G):G:=
 ((by decide:∀k∈cB,k=84\/k=85\/k∈qN) k hk).elim (λe=>by subst e;exact HT P hl hf twT tkT (.inl rfl) kk) λh=>h.elim (λe=>by subst e;exact HT P hl hf twU tkU (.inr rfl) kk) λh=>Oc P hl hf h kk
end
section
variable{C:Ctx}{fr:Fm}{l:Lo}{os:List Ob}{o:oj}
theorem Cq(F:aG C fr){σ:St}{a:Addr}{xs:List PV}(hc:σ a=some (.list xs)):kh C fr (.loc a) xs σ (σ.del a) id:=λY Z ρ s va E ok r=>
 wpAny_mono (sL F hc Y Z ρ s va E ok r) (λit s' p=>p.casesOn λI fp wr n P lw is W w5 hn pX hF ok j7 hL CD E3 hI _=>⟨I,fp,wr,n,P,lw,is,W,w5,hn,pX,hF,ok,j7,hL,CD,E3,hI,λ_ _ _ _ _ ok _ _=>ok⟩) λ_ _ x=>x
theorem XZ(F0:aG C fr)(Tp:hY fr){x:Str}{body:List Stmt}{ks:List Nat}{i k:Nat}{xs:List PV}(hi:fi x fr.vn=some i)(hk:os[k]?=some (.list xs))(hm:Ab os.length (fB ks l)=true)
 (hL:Loop C fr body ks os.length i xs (fB ks l) (os.set k .gone) o):r7 C fr x body (.o k) l os o:=λiter px p n sG hs h=> .mk λas ρ σ F hn s N R J X kk=>
 rm F0 Tp i (f6 hi) (h.go as ρ σ F s _ _ λcD cQ y=>
  have a0:Agree n as cD:=y.a.less hn
  have le:n<=os.length:=aa hn y.n
  have sm:Sx (fB ks l) os cD ρ cQ F:=(by have:=y.s.less hm (aj _);rwa[eJ]at this)
  have sb:Sx (fB ks l) (os.set k .gone) cD ρ (cQ.del (cD k)) F:=sm.turn hk (λ_=>rfl) (λ_=>m6 _) (λ_ _ c hc=>nomatch hc) λb hb=>if_neg hb
  ym (Cq F0 (y.s.get hk (λ_=>rfl))) sb (by rw[a7];exact aj _) hL (λl' os' eh cj σ' e z=>by subst e;exact kk eh cj σ' ⟨Agree.trans (aj _) a0 (z.a.less le),z.s,aa le z.n⟩)
   (λc os' e eh σ' z=>by subst e;exact kk eh σ' ⟨Agree.trans (aj _) a0 (z.a.less le),z.s,z.ok,aa le z.n⟩) (λe=>by subst e;exact kk)) hs
end
noncomputable def cz:Fn:=⟨438,"law",bD (bc 51),.ref 437,["script","pool","book","forms","rows","sound","base","step","parts","words","kind","more","wrong","way","instrs"],1,bS (bc 51)⟩
noncomputable abbrev lB:List Stmt:=jb cz.body 6
noncomputable abbrev lS(i:Nat):Stmt:=(lB[i]?).getD (.Pass ⟨0,0,0,0⟩)
section
variable{C:Ctx}{K:Frag}{bN bO:ClassData}{lv:Nat}{fs:List Nat}{sp:PV}{b j:Nat}{G:Prop}
noncomputable abbrev lR(sp:PV)(b:Nat)(sd:Bool)(j:Nat)(pt ws x y z w:Option EV):Lo:=[sv sp,some (.o 0),some (.o 1),some (.o 2),some (.o 3),sv (.bool sd),sv (.int (b:Nat)),sv (.int (j:Nat)),pt,ws,x,y,z,w,none]
noncomputable abbrev lI(sp:PV)(b:Nat)(sd:Bool)(j:Nat):Lo:=lR sp b sd j (some (.o 4)) (some (.o 5)) none none none none
noncomputable abbrev oR(fs:List Nat)(q m:Nat)(B:ar)(rs:List Str):List Ob:=[.eW fs q m,.book B,sW kJ,sW rs]
noncomputable abbrev oI(fs:List Nat)(q m:Nat)(B:ar)(rs:List Str)(pt:List (List Nat))(ws:List Str)(x:Ob):List Ob:=[.eW fs q m,.book B,sW kJ,sW rs,.list (aN pt),sW ws,x]
noncomputable def LkP(C:Ctx)(lv:Nat)(fs:List Nat)(sp:PV)(b:Nat)(B:ar)(rs:List Str)(pt:List (List Nat))(j:Nat)(ks:List Nat)(sd:Bool)(pos mix:Nat)(ws:List Str)(X0:Bool)(q m:Nat)(qW:List Str):Prop:=∀{L':Addr} {outer:List Env} {A:Around},aG C (cz.frame L' outer A lv)->
 Loop C (cz.frame L' outer A lv) (jb lB 2) [10,11,12] 7 10 (aN (ks.map λk=>[k])) (lI sp b sd j) (oI fs pos mix B rs pt ws .gone) (.norm (lI sp b X0 j) (oI fs q m B rs pt qW .gone))
theorem Oe{L':Addr}{outer:List Env}{A:Around}(F:aG C (cz.frame L' outer A lv))(sd s:Bool)(x y:Option EV)(os:List Ob):To (tE C (cz.frame L' outer A lv) (Kq (jb lB 2) 2)) (lR sp b sd j (some (.o 4)) (some (.o 5)) x y (sv (.bool (!s))) none) os (sv (.bool (sd&&s))) os:=by
 cases sd with
 |false=>apply sg F (Kq (jb lB 2) 2) (lR sp b false j (some (.o 4)) (some (.o 5)) x y (sv (.bool (!s))) none) os [ff] rfl
 |true=>
  cases s with
  |false=>apply sg F (Kq (jb lB 2) 2) (lR sp b true j (some (.o 4)) (some (.o 5)) x y (sv (.bool true)) none) os [tt] rfl
  |true=>apply sg F (Kq (jb lB 2) 2) (lR sp b true j (some (.o 4)) (some (.o 5)) x y (sv (.bool false)) none) os [tt] rfl
theorem KA(P:PO C K bN bO)(hl:10<=lv)(hf:fs.length<=1000){B:ar}{rs:List Str}{pt:List (List Nat)}(ks:List Nat):∀(sd:Bool) (pos mix:Nat) (ET:List Str),XD ks=true->ET.length+5*ks.length<=100->
 (∀(ws:List Str) (s:Bool) (q m:Nat),yH ks (ws.map L) s->ws.length<=5*ks.length->(∀w∈ws.map L,fC w=true)->LkP C lv fs sp b B rs pt j ks sd pos mix ET (sd&&s) q m (ET++ws)->G)->G:=by
 induction ks with
 |nil=>exactλsd pos mix ET _ _ kk=>kk [] true pos mix .nil (aj 0) nofun λ_=>(Bool.and_true sd).symm▸(bp ET).symm▸.nil
 |cons k ks ih=>
  intro sd pos mix ET hk hn kk
  have ON:=dm hk
  refine wR (pos:=pos) (mix:=mix) P (lv:=1) (aj 1) hf (of_decide_eq_true (dm ON)) λw1 s1 q1 m1 ok cc=> ?_
  have NU:w1.length<=5:=ae (as:=w1) L▸ok.n
  have Ix:(ET++w1).length+5*ks.length<=100:=by
   rw[af]
   exact aa (aa (aR (bP ..)) (a6 (aa (b7 NU _) (aR ((bH 5 _).trans (Nat.mul_succ 5 ks.length).symm))) _)) hn
  refine ih (sd&&s1) q1 m1 (ET++w1) (e6 hk) Ix λws s q m r J5 hb lp=>kk (w1++ws) (s1&&s) q m (aI▸.cons (of_decide_eq_true (dm ON)) (λh=>of_decide_eq_true ((gh ..).mp (e6 ON)|>.resolve_left (by rw[decide_eq_true h];decide))) ok r) ?_ ?_ λ{L' outer A} F=> ?_
  ·rw[af];exact aa (bb NU J5) (aR ((bH 5 _).trans (Nat.mul_succ 5 ks.length).symm))
  ·exactλw hw=>by rw[aI]at hw;exact(cS.mp hw).elim (ok.b w) (hb w)
  ·have lp:=lp F
   rw[aC,Bool.and_assoc]at lp
   have z:(ET.map PV.str).length+(w1.map PV.str).length<=1000000:=by
    rw[ae,ae];exact aa (bb (aa (ax _ _) hn) NU) (by decide)
   apply Loop.next (ks:=[10,11,12]) (l:=lI sp b sd j) (i:=10) (x:= .str (mk [k])) true (cu (m:=7) F (jb lB 2) (lR sp b sd j (some (.o 4)) (some (.o 5)) (sv (.str (mk [k]))) none none none) (oI fs pos mix B rs pt ET .gone) [.c (some (.m 7 (.bool (!s1)))) (oI fs q1 m1 B rs pt ET .gone++[sW w1]),.c (some (.o 5)) (oI fs q1 m1 B rs pt (ET++w1) .gone++[sW w1]),.x (sv (.bool (sd&&s1))) (oI fs q1 m1 B rs pt (ET++w1) .gone++[sW w1])]
    (cR P.G F P.wW rfl (bx hl (by decide:1<10)) [0] cc rfl rfl rfl rfl rfl) (N5 (i:=5) (j:=7) (by decide) rfl rfl z aI.symm) (Oe F sd s1 _ _ _)) rfl lp
end
section
variable{C:Ctx}{fr:Fm}{l:Lo}{os:List Ob}
theorem Of{k:Nat}{a x:Str}{r:List Str}(hk:os[k]?=some (sW (a::r))):Al C fr (.o k) (.v (.int 0)) (.v (.str x)) l os (os.set k (sW (x::r))):=
 ⟨by rw[a7];exact aj _,nH.list hk (by decide) (by decide) (bI.mpr (cP _))⟩
theorem X1{k:Nat}{a c x:Str}{r:List Str}(hk:os[k]?=some (sW (a::c::r))):Al C fr (.o k) (.v (.int 1)) (.v (.str x)) l os (os.set k (sW (a::x::r))):=
 ⟨by rw[a7];exact aj _,nH.list hk (by decide) (by decide) (bI.mpr (Nat.succ_lt_succ (cP _)))⟩
theorem Tc{W:List Str}(h1:W.length<=100)(h2:∀w∈W,w.length<=100):JoinOk (Str.ofString " ") W=true:=
 lY 100 h2 (aa (bb (eY 100 h1) (Nat.mul_le_mul h1 (by decide+kernel:(Str.ofString " ").length<=1))) (by rw[gZ];decide))
theorem Ma(W:List Str):L (Txt.join (Str.ofString " ") W)=sw (W.map L):=by rw[Bx,yh]
end
section
variable{C:Ctx}{K:Frag}{bN bO:ClassData}{lv:Nat}{fs:List Nat}{sp:PV}{b j:Nat}{G:Prop}{B:ar}{rs:List Str}{pt:List (List Nat)}
noncomputable abbrev fb(n:Int):Str:=Str.ofString (toString n)
noncomputable def Mb(C:Ctx)(lv:Nat)(fs:List Nat)(sp:PV)(b:Nat)(B:ar)(rs:List Str)(pt:List (List Nat))(j:Nat)(sd:Bool)(pos mix:Nat)(W:List Str)(t:Bool)(q m:Nat)(x:Str):Prop:=∀{L':Addr} {outer:List Env} {A:Around},aG C (cz.frame L' outer A lv)->
 ∃y ex,Runs (hZ C (cz.frame L' outer A lv) (lB.drop 3)) 4 (lI sp b sd j) (oI fs pos mix B rs pt W .gone) (.norm (lR sp b t j (some (.o 4)) (some (.o 5)) none none none y) (oR fs q m B (rs++[x])++ex))
noncomputable abbrev l5:Ob:= .list [.int 25,.int 26,.int 27,.int 28,.int 29]
structure Cr(b j:Nat)(nm:Str)(ks:List Nat)(ws:List Str)(s:Bool):Prop where
 r:sA nm ks (ws.map L) s
 n:b+j+2<1000
theorem Cr.bd{nm:Str}{ks:List Nat}{ws:List Str}{s:Bool}(h:Cr b j nm ks ws s){a c:Str}(ha:a.length<=100)(hc:c.length<=100):∀w∈a::c::ws,w.length<=100:=λw hw=>
 (am.mp hw).elim (λe=>e▸ha) λhw=>(am.mp hw).elim (λe=>e▸hc) λhw=>fV w▸(ik (h.r.b _ (jU hw))).1.len
theorem Cr.l{nm:Str}{ks:List Nat}{ws:List Str}{s:Bool}(h:Cr b j nm ks ws s)(a c:Str):(a::c::ws).length<=99:=aa (aL (aL (ae (as:=ws) L▸h.r.n))) (by decide)
theorem yK{n:Nat}(h:n<1000):(fb ((n:Nat):Int)).length<=3:=by have:=uZ (k:=2) h;rwa[<-f8,fV]at this
inductive Cs(b j:Nat)(nm:Str)(ws:List Str):Nat->List Str->Prop
 |OU {e:Str} (h:e∈[Str.ofString "0",Str.ofString "x1",Str.ofString "}"]):Cs b j nm ws 25 (fb ((b+j:Nat):Int)::nm::(ws++[e]))
 |OV:Cs b j nm ws 26 (fb ((b+j:Nat):Int)::nm::ws).dropLast
 |OW:Cs b j nm ws 27 ((Str.ofString "0"++fb ((b+j:Nat):Int))::nm::ws)
 |OX (h:j≠0):Cs b j nm ws 28 (fb ((b+j+2:Nat):Int)::nm::ws)
 |Td (h:j=0):Cs b j nm ws 28 ((Str.ofString "x"++fb ((b+j:Nat):Int))::nm::ws)
 |DR {e:Str} (h:e∈[Str.ofString "no_such",Str.ofString "",Str.ofString "call ",Str.ofString "Proceed"]):Cs b j nm ws 29 (fb ((b+j:Nat):Int)::e::ws)
theorem EU{w:List Nat}{ws:List (List Nat)}{a:List Nat}:sw (a::(w++[32])::ws)=sw (a::w::[]::ws):=by
 show a++[32]++e7 [32] ((w++[32])::ws)=a++[32]++e7 [32] (w::[]::ws)
 congr 1
 cases ws with
 |nil=>show w++[32]=w++[32]++[];rw[bp]
 |cons y r=>show w++[32]++[32]++e7 [32] (y::r)=w++[32]++([]++[32]++e7 [32] (y::r));rw[dY,aC (w++[32])]
theorem uz:(∀e∈[Str.ofString "no_such",Str.ofString "Proceed"],fC (L e)=true/\bT d0 e=none)/\L (Str.ofString "call ")=[99,97,108,108]++[32]/\L (Str.ofString "")=[]/\fC [99,97,108,108]=true:=by decide+kernel
theorem Cs.row{nm:Str}{ks:List Nat}{ws:List Str}{s:Bool}{wt:Nat}{W:List Str}(w:Cs b j nm ws wt W)(h:Cr b j nm ks ws s):ud b j (L (Txt.join (Str.ofString " ") W)) false/\W.length<=100/\∀w∈W,w.length<=100:=by
 have hn:b+j<1000:=ak (ax _ 2) h.n
 have hA:L (fb ((b+j:Nat):Int))=dg (b+j):=f8 _
 have a3:=yK hn
 have a9:(fb ((b+j:Nat):Int)).length<=100:=aa a3 (by decide)
 have n9:nm.length<=100:=fV nm▸(ik h.r.f.b).1.len
 have l9:=λ(a c:Str)=>dQ (h.l a c)
 rw[Ma]
 cases w with
 |@OU e he=>
  have be:=(by decide+kernel:∀e∈[Str.ofString "0",Str.ofString "x1",Str.ofString "}"],fC (L e)=true/\e.length<=100) e he
  refine⟨?_,?_,λw hw=> ?_⟩
  ·rw[aP,aP,aI,hA];exact NX h.r hn be.1
  ·rw[ay,ay,af];exact aL (h.l nm nm)
  ·exact(cS.mp (fE ..▸fE ..▸hw:w∈(fb ((b+j:Nat):Int)::nm::ws)++[e])).elim (h.bd a9 n9 w) λq=>aq.mp q▸be.2
 |OV=>exact⟨by rw[List.map_dropLast,aP,aP,hA];exact NY h.r hn,aa (List.length_dropLast ..▸Nat.sub_le _ _) (l9 _ _),λw hw=>h.bd a9 n9 w ((List.dropLast_subset _ hw))⟩
 |OW=>exact⟨by rw[aP,aP,kj,BB,hA];exact HF h.r hn (by decide) (SG _),l9 _ _,h.bd (aa (aR (gY _ _)) (aa (bb (by decide+kernel:(Str.ofString "0").length<=1) a3) (by decide))) n9⟩
 |OX hj=>exact⟨by rw[aP,aP,show L (fb ((b+j+2:Nat):Int))=dg (b+j+2)from f8 _];exact N0 h.r h.n hj,l9 _ _,h.bd (aa (yK h.n) (by decide)) n9⟩
 |Td hj=>exact⟨by rw[aP,aP,kj,M7,hA];exact HF h.r hn (by decide) (NZ _),l9 _ _,h.bd (aa (aR (gY _ _)) (aa (bb (by decide+kernel:(Str.ofString "x").length<=1) a3) (by decide))) n9⟩
 |@DR e he=>
  have be:=(by decide+kernel:∀e∈[Str.ofString "no_such",Str.ofString "",Str.ofString "call ",Str.ofString "Proceed"],e.length<=100) e he
  refine⟨?_,l9 _ _,h.bd a9 be⟩
  rw[aP,aP,hA]
  have k1:=λ{e:Str} (q:e∈[Str.ofString "no_such",Str.ofString "Proceed"])=>have k:=uz.1 e q;N1 h.r hn k.1 k.2
  rcases am.mp he with rfl|he
  ·exact k1 (.head _)
  rcases am.mp he with rfl|he
  ·rw[uz.2.2.1];exact LZ (fr:=[]) h.r hn (bW _) nofun
  rcases am.mp he with rfl|he
  ·rw[uz.2.1,EU];exact LZ (fr:=[[99,97,108,108]]) h.r hn (aj 1) λw hw=>aq.mp hw▸uz.2.2.2
  ·cases aq.mp he;exact k1 (.tail _ (.head _))
end
section
variable{C:Ctx}{K:Frag}{bN bO:ClassData}{lv:Nat}{fs:List Nat}{sp:PV}{b j:Nat}{G:Prop}{B:ar}{rs:List Str}{pt:List (List Nat)}{pos mix:Nat}
noncomputable abbrev Mc:Ob:=sW [Str.ofString "0",Str.ofString "x1",Str.ofString "}"]
noncomputable abbrev DR:Ob:=sW [Str.ofString "no_such",Str.ofString "",Str.ofString "call ",Str.ofString "Proceed"]
theorem Og(w:Nat)(h:¬w=25)(h1:¬w=26)(h2:¬w=27)(h3:¬w=28)(h4:¬w=29):decide ((w:Int)∈([25,26,27,28,29]:List Int))=false:=decide_eq_false λq=>
 (am.mp q).elim (λe=>h (fD e)) λq=>(am.mp q).elim (λe=>h1 (fD e)) λq=>(am.mp q).elim (λe=>h2 (fD e)) λq=>(am.mp q).elim (λe=>h3 (fD e)) λq=>h4 (fD (aq.mp q))
theorem KC(a:Str)(r:List Str):(oI fs pos mix B rs pt (a::r) .gone++[l5])[5]?=some (Ob.list ((a::r).dropLast.map PV.str++[PV.str ((a::r).getLast (jG _ _))])):=congrArg (λl=>some (Ob.list l))
 ((congrArg (List.map PV.str) (List.dropLast_concat_getLast (jG a r)).symm).trans (aI (l₂:=[(a::r).getLast (jG a r)])))
theorem EW(P:PO C K bN bO)(hl:10<=lv)(hf:fs.length<=1000){nm:Str}{ks:List Nat}{ws:List Str}{s sd:Bool}(h:Cr b j nm ks ws s)(NV:rs.length<=50)
 (kk:∀(x:Str) (s' t:Bool) (q m:Nat),t=(sd&&s')->ud b j (L x) s'->Mb C lv fs sp b B rs pt j (sd&&s) pos mix (fb ((b+j:Nat):Int)::nm::ws) t q m x->G):G:=by
 have h0:=bx hl (by decide:0<10)
 have hn:b+j<1000:=ak (ax _ 2) h.n
 refine fu P hf pos mix 30 (by decide) λwt q m hr pk=> ?_
 have hd:=λ{L':Addr} {outer:List Env} {A:Around} (F:aG C (cz.frame L' outer A lv)) (p:Pa)=>cu (m:=4) F (lB.drop 3) (lI sp b (sd&&s) j) (oI fs pos mix B rs pt (fb ((b+j:Nat):Int)::nm::ws) .gone) (rv (.int wt) (oI fs q m B rs pt (fb ((b+j:Nat):Int)::nm::ws) .gone)::p)
 have zr:∀x:Str,(rs.map PV.str).length<=sizeLine:=λ_=>a8 100 (by rw[ae];exact aa NV (by decide)) rfl
 have ap:=λ{fr:Fm} {l:Lo} (x:Str) (q m:Nat) (pr:List (List Nat)) (W:List Str) (ex:List Ob)=>dC (C:=C) (fr:=fr) (l:=l) (k:=3) (os:=oI fs q m B rs pr W .gone++ex) (os1:=oI fs q m B rs pr W .gone++ex) (v:= .str x) rfl rfl (zr x) (aI (l₂:=[x])).symm
 have jn:=λ{fr:Fm} {l:Lo} (q m:Nat) (W:List Str) (ex:List Ob) (h1:W.length<=100) (h2:∀w∈W,w.length<=100)=>yx (C:=C) (fr:=fr) (l:=l) (k:=5) (os:=oI fs q m B rs pt W .gone++ex) (os1:=oI fs q m B rs pt W .gone++ex) (s:=" ") (xs:=W) rfl (Tc h1 h2) rfl
 have ii:=λ{fr:Fm} {l:Lo} {c:Bool} (hc:decide ((wt:Int)∈([25,26,27,28,29]:List Int))=c)=>N3 (C:=C) (fr:=fr) (l:=l) (k:=7) (os:=oI fs q m B rs pt (fb ((b+j:Nat):Int)::nm::ws) .gone++[l5]) (xs:=[25,26,27,28,29]) rfl rfl hc
 have i0:=λ{fr:Fm} {l:Lo}=>wn (C:=C) (fr:=fr) (l:=l) (k:=5) (i:=0) (os:=oI fs q m B rs pt (fb ((b+j:Nat):Int)::nm::ws) .gone++[l5]) (v:= .str (fb ((b+j:Nat):Int))) rfl (by decide) rfl
 have sz:=λ(x y:Str) (hx:x.length<=40) (hy:y.length<=40)=>(a8 80 (bb hx hy) rfl:x.length+y.length<=sizeLine)
 have X2:(fb ((b+j:Nat):Int)).length<=40:=aa (yK hn) (by decide)
 have bad:=λ{W:List Str} (w:Cs b j nm ws wt W) (q m:Nat) (t:Mb C lv fs sp b B rs pt j (sd&&s) pos mix (fb ((b+j:Nat):Int)::nm::ws) false q m (Txt.join (Str.ofString " ") W))=>kk _ false false q m (Bool.and_false sd).symm (w.row h).1 t
 by_cases OU:wt=25
 ·subst OU
  refine fu P hf q m 3 (by decide) λr q1 m1 hr Kx=> ?_
  have he:=aA (l:=[Str.ofString "0",Str.ofString "x1",Str.ofString "}"]) hr
  have Te:=aT he
  generalize[Str.ofString "0",Str.ofString "x1",Str.ofString "}"][r]=e at he Te
  have w:=Cs.OU (b:=b) (j:=j) (nm:=nm) (ws:=ws) Te
  have wr:=w.row h
  refine bad w q1 m1 λ{L' outer A} F=>⟨sv (.int (25:Nat)),[.list (aN pt),sW (fb ((b+j:Nat):Int)::nm::(ws++[e])),.gone,l5,Mc],?_⟩
  have it:=λ{l:Lo}=>wn (C:=C) (fr:=cz.frame L' outer A lv) (l:=l) (k:=8) (i:=r) (os:=oI fs q1 m1 B rs pt (fb ((b+j:Nat):Int)::nm::ws) .gone++[l5,Mc]) (v:= .str e) rfl (dj hr (by decide)) (by rw[bo,he];rfl)
  have aw:=λ{l:Lo}=>dC (C:=C) (fr:=cz.frame L' outer A lv) (l:=l) (k:=5) (os:=oI fs q1 m1 B rs pt (fb ((b+j:Nat):Int)::nm::ws) .gone++[l5,Mc]) (os1:=oI fs q m B rs pt (fb ((b+j:Nat):Int)::nm::ws) .gone++[l5]) (v:= .str e) (xs:=(fb ((b+j:Nat):Int)::nm::ws).map .str) (ys:=(fb ((b+j:Nat):Int)::nm::(ws++[e])).map .str) rfl rfl (a8 100 (by rw[ae];exact dQ (h.l _ _)) rfl) (aI (l₁:=fb ((b+j:Nat):Int)::nm::ws) (l₂:=[e])).symm
  apply hd F [rv (.bool true) (oI fs q m B rs pt (fb ((b+j:Nat):Int)::nm::ws) .gone++[l5]),tt,tt,rv (.int r) (oI fs q1 m1 B rs pt (fb ((b+j:Nat):Int)::nm::ws) .gone++[l5,Mc]),ru (.str e),rv .none (oI fs q1 m1 B rs pt (fb ((b+j:Nat):Int)::nm::(ws++[e])) .gone++[l5,Mc]),
   ru (.str (Txt.join (Str.ofString " ") (fb ((b+j:Nat):Int)::nm::(ws++[e])))),rv .none (oR fs q1 m1 B (rs++[Txt.join (Str.ofString " ") (fb ((b+j:Nat):Int)::nm::(ws++[e]))])++[.list (aN pt),sW (fb ((b+j:Nat):Int)::nm::(ws++[e])),.gone,l5,Mc])]
   (uw P F rfl h0 pk) (ii (by decide)) rfl (nK rfl) (uw P F rfl h0 Kx) it aw (jn q1 m1 _ [l5,Mc] wr.2.1 wr.2.2) (ap _ q1 m1 pt _ [l5,Mc])
 by_cases OV:wt=26
 ·subst OV
  have w:=Cs.OV (b:=b) (j:=j) (nm:=nm) (ws:=ws)
  have wr:=w.row h
  refine bad w q m λ{L' outer A} F=>⟨sv (.int (26:Nat)),[.list (aN pt),sW (fb ((b+j:Nat):Int)::nm::ws).dropLast,.gone,l5],?_⟩
  have po:=λ{l:Lo}=>L2 (C:=C) (fr:=cz.frame L' outer A lv) (l:=l) (k:=5) (os:=oI fs q m B rs pt (fb ((b+j:Nat):Int)::nm::ws) .gone++[l5]) (os1:=oI fs q m B rs pt (fb ((b+j:Nat):Int)::nm::ws) .gone++[l5]) (xs:=(fb ((b+j:Nat):Int)::nm::ws).dropLast.map .str) (v:= .str ((fb ((b+j:Nat):Int)::nm::ws).getLast (jG _ _)))
   rfl (KC _ _) (a8 101 (by rw[ae];exact aL wr.2.1) rfl)
  apply hd F [rv (.bool true) (oI fs q m B rs pt (fb ((b+j:Nat):Int)::nm::ws) .gone++[l5]),tt,ff,tt,rv (.str ((fb ((b+j:Nat):Int)::nm::ws).getLast (jG _ _))) (oI fs q m B rs pt (fb ((b+j:Nat):Int)::nm::ws).dropLast .gone++[l5]),
   ru (.str (Txt.join (Str.ofString " ") (fb ((b+j:Nat):Int)::nm::ws).dropLast)),rv .none (oR fs q m B (rs++[Txt.join (Str.ofString " ") (fb ((b+j:Nat):Int)::nm::ws).dropLast])++[.list (aN pt),sW (fb ((b+j:Nat):Int)::nm::ws).dropLast,.gone,l5])]
   (uw P F rfl h0 pk) (ii (by decide)) rfl (fa (by decide)) (nK rfl) po (jn q m _ [l5] wr.2.1 wr.2.2) (ap _ q m pt _ [l5])
 by_cases OW:wt=27
 ·subst OW
  have w:=Cs.OW (b:=b) (j:=j) (nm:=nm) (ws:=ws)
  have wr:=w.row h
  refine bad w q m λ{L' outer A} F=>⟨sv (.int (27:Nat)),[.list (aN pt),sW ((Str.ofString "0"++fb ((b+j:Nat):Int))::nm::ws),.gone,l5],?_⟩
  apply hd F [rv (.bool true) (oI fs q m B rs pt (fb ((b+j:Nat):Int)::nm::ws) .gone++[l5]),tt,ff,ff,tt,ru (.str (fb ((b+j:Nat):Int))),ru (.str (Str.ofString "0"++fb ((b+j:Nat):Int))),.c none (oI fs q m B rs pt ((Str.ofString "0"++fb ((b+j:Nat):Int))::nm::ws) .gone++[l5]),
   ru (.str (Txt.join (Str.ofString " ") ((Str.ofString "0"++fb ((b+j:Nat):Int))::nm::ws))),rv .none (oR fs q m B (rs++[Txt.join (Str.ofString " ") ((Str.ofString "0"++fb ((b+j:Nat):Int))::nm::ws)])++[.list (aN pt),sW ((Str.ofString "0"++fb ((b+j:Nat):Int))::nm::ws),.gone,l5])]
   (uw P F rfl h0 pk) (ii (by decide)) rfl (fa (by decide)) (fa (by decide)) (nK rfl) i0 (d7 (sz _ _ (by decide+kernel) X2)) (Of rfl) (jn q m _ [l5] wr.2.1 wr.2.2) (ap _ q m pt _ [l5])
 by_cases OX:wt=28
 ·subst OX
  by_cases hj:j=0
  ·have w:=Cs.Td (b:=b) (nm:=nm) (ws:=ws) hj
   have wr:=w.row h
   refine bad w q m λ{L' outer A} F=>⟨sv (.int (28:Nat)),[.list (aN pt),sW ((Str.ofString "x"++fb ((b+j:Nat):Int))::nm::ws),.gone,l5],?_⟩
   have e0:decide ((0:Int)<(j:Nat))=false:=decide_eq_false (hj▸Int.lt_irrefl 0)
   apply hd F [rv (.bool true) (oI fs q m B rs pt (fb ((b+j:Nat):Int)::nm::ws) .gone++[l5]),tt,ff,ff,ff,tt,ff,ru (.str (fb ((b+j:Nat):Int))),ru (.str (Str.ofString "x"++fb ((b+j:Nat):Int))),.c none (oI fs q m B rs pt ((Str.ofString "x"++fb ((b+j:Nat):Int))::nm::ws) .gone++[l5]),
    ru (.str (Txt.join (Str.ofString " ") ((Str.ofString "x"++fb ((b+j:Nat):Int))::nm::ws))),rv .none (oR fs q m B (rs++[Txt.join (Str.ofString " ") ((Str.ofString "x"++fb ((b+j:Nat):Int))::nm::ws)])++[.list (aN pt),sW ((Str.ofString "x"++fb ((b+j:Nat):Int))::nm::ws),.gone,l5])]
    (uw P F rfl h0 pk) (ii (by decide)) rfl (fa (by decide)) (fa (by decide)) (fa (by decide)) (nK rfl) e0 i0 (d7 (sz _ _ (by decide+kernel) X2)) (Of rfl) (jn q m _ [l5] wr.2.1 wr.2.2) (ap _ q m pt _ [l5])
  ·have w:=Cs.OX (b:=b) (nm:=nm) (ws:=ws) hj
   have wr:=w.row h
   refine bad w q m λ{L' outer A} F=>⟨sv (.int (28:Nat)),[.list (aN pt),sW (fb ((b+j+2:Nat):Int)::nm::ws),.gone,l5],?_⟩
   have e0:decide ((0:Int)<(j:Nat))=true:=decide_eq_true (bI.mpr (qR hj))
   apply hd F [rv (.bool true) (oI fs q m B rs pt (fb ((b+j:Nat):Int)::nm::ws) .gone++[l5]),tt,ff,ff,ff,tt,tt,ru (.str (fb ((b+j+2:Nat):Int))),.c none (oI fs q m B rs pt (fb ((b+j+2:Nat):Int)::nm::ws) .gone++[l5]),
    ru (.str (Txt.join (Str.ofString " ") (fb ((b+j+2:Nat):Int)::nm::ws))),rv .none (oR fs q m B (rs++[Txt.join (Str.ofString " ") (fb ((b+j+2:Nat):Int)::nm::ws)])++[.list (aN pt),sW (fb ((b+j+2:Nat):Int)::nm::ws),.gone,l5])]
    (uw P F rfl h0 pk) (ii (by decide)) rfl (fa (by decide)) (fa (by decide)) (fa (by decide)) (nK rfl) e0 (Ao P F rfl (a:=((b+j+2:Nat):Int)) (jh (dj h.n (by decide)))) (Of rfl) (jn q m _ [l5] wr.2.1 wr.2.2) (ap _ q m pt _ [l5])
 by_cases DR:wt=29
 ·subst DR
  refine fu P hf q m 4 (by decide) λr q1 m1 hr Kx=> ?_
  have he:=aA (l:=[Str.ofString "no_such",Str.ofString "",Str.ofString "call ",Str.ofString "Proceed"]) hr
  have Te:=aT he
  generalize[Str.ofString "no_such",Str.ofString "",Str.ofString "call ",Str.ofString "Proceed"][r]=e at he Te
  have w:=Cs.DR (b:=b) (j:=j) (nm:=nm) (ws:=ws) Te
  have wr:=w.row h
  refine bad w q1 m1 λ{L' outer A} F=>⟨sv (.int (29:Nat)),[.list (aN pt),sW (fb ((b+j:Nat):Int)::e::ws),.gone,l5,DR],?_⟩
  have it:=λ{l:Lo}=>wn (C:=C) (fr:=cz.frame L' outer A lv) (l:=l) (k:=8) (i:=r) (os:=oI fs q1 m1 B rs pt (fb ((b+j:Nat):Int)::nm::ws) .gone++[l5,DR]) (v:= .str e) rfl (dj hr (by decide)) (by rw[bo,he];rfl)
  apply hd F [rv (.bool true) (oI fs q m B rs pt (fb ((b+j:Nat):Int)::nm::ws) .gone++[l5]),tt,ff,ff,ff,ff,tt,rv (.int r) (oI fs q1 m1 B rs pt (fb ((b+j:Nat):Int)::nm::ws) .gone++[l5,DR]),ru (.str e),.c none (oI fs q1 m1 B rs pt (fb ((b+j:Nat):Int)::e::ws) .gone++[l5,DR]),
   ru (.str (Txt.join (Str.ofString " ") (fb ((b+j:Nat):Int)::e::ws))),rv .none (oR fs q1 m1 B (rs++[Txt.join (Str.ofString " ") (fb ((b+j:Nat):Int)::e::ws)])++[.list (aN pt),sW (fb ((b+j:Nat):Int)::e::ws),.gone,l5,DR])]
   (uw P F rfl h0 pk) (ii (by decide)) rfl (fa (by decide)) (fa (by decide)) (fa (by decide)) (fa (by decide)) (nK rfl) (uw P F rfl h0 Kx) it (X1 rfl) (jn q1 m1 _ [l5,DR] wr.2.1 wr.2.2) (ap _ q1 m1 pt _ [l5,DR])
 ·have hA:L (fb ((b+j:Nat):Int))=dg (b+j):=f8 _
  have n9:nm.length<=100:=fV nm▸(ik h.r.f.b).1.len
  refine kk (Txt.join (Str.ofString " ") (fb ((b+j:Nat):Int)::nm::ws)) s (sd&&s) q m rfl (by rw[Ma,aP,aP,hA];exact SE h.r hn) λ{L' outer A} F=>⟨sv (.int wt),[.list (aN pt),sW (fb ((b+j:Nat):Int)::nm::ws),.gone,l5],?_⟩
  apply hd F [rv (.bool false) (oI fs q m B rs pt (fb ((b+j:Nat):Int)::nm::ws) .gone++[l5]),ff,ff,ff,ff,ff,ff,ru (.str (Txt.join (Str.ofString " ") (fb ((b+j:Nat):Int)::nm::ws))),rv .none (oR fs q m B (rs++[Txt.join (Str.ofString " ") (fb ((b+j:Nat):Int)::nm::ws)])++[.list (aN pt),sW (fb ((b+j:Nat):Int)::nm::ws),.gone,l5])]
   (uw P F rfl h0 pk) (ii (Og wt OU OV OW OX DR)) rfl (fa OU) (fa OV) (fa OW) (fa OX) (fa DR) (jn q m _ [l5] (dQ (h.l _ _)) (h.bd (aa X2 (by decide)) n9)) (ap _ q m pt _ [l5])
end
section
variable{C:Ctx}{K:Frag}{bN bO:ClassData}{lv:Nat}{fs:List Nat}{sp:PV}{b:Nat}{G:Prop}{B:ar}
noncomputable abbrev lZ(sp:PV)(b:Nat)(sd:Bool):Lo:=[sv sp,some (.o 0),some (.o 1),some (.o 2),some (.o 3),sv (.bool sd),sv (.int (b:Nat)),none,none,none,none,none,none,none,none]
noncomputable def X3(C:Ctx)(lv:Nat)(fs:List Nat)(sp:PV)(b:Nat)(B:ar)(j n:Nat)(sd:Bool)(pos mix:Nat)(rs:List Str)(X0:Bool)(q m:Nat)(Ir:List Str):Prop:=∀{L':Addr} {outer:List Env} {A:Around},aG C (cz.frame L' outer A lv)->
 Loop C (cz.frame L' outer A lv) lB [7,8,9,10,11,12,13] 4 7 ((List.range' j n).map λi=> .int (i:Nat)) (lZ sp b sd) (oR fs pos mix B rs) (.norm (lZ sp b X0) (oR fs q m B Ir))
theorem EX{ks:List Nat}(h:ks.length<=4){ws:List Str}(hw:ws.length<=5*ks.length):(ws.map L).length<=20:=by rw[ae];exact aa hw (Nat.mul_le_mul_left 5 h)
theorem HU(P:PO C K bN bO)(hl:10<=lv)(hf:fs.length<=1000)(hb:b<700)(n:Nat):∀(j:Nat) (rs:List Str) (sd:Bool) (pos mix:Nat),j+n<=6->rs.length<=j->
 (∀(Ir:List Str) (s:Bool) (q m:Nat),Ir.length=n->lu b j (Ir.map L) s->X3 C lv fs sp b B j n sd pos mix rs (sd&&s) q m (rs++Ir)->G)->G:=by
 induction n with
 |zero=>exactλj rs sd pos mix _ _ kk=>kk [] true pos mix rfl .nil λ_=>(Bool.and_true sd).symm▸(bp rs).symm▸.nil
 |succ n ih=>
  intro j rs sd pos mix h NV kk
  have h0:=bx hl (by decide:0<10)
  have ZS:j<=6:=aa (ax j _) h
  have ZT:b+j+2<1000:=av (Nat.add_lt_add_right (Nat.add_lt_add_of_lt_of_le hb ZS) 2) (by decide)
  have OM:kJ.length=45:=rfl
  refine fu P hf pos mix 45 (by decide) λr q m hr pk=> ?_
  have X4:=aA (l:=kJ) hr
  obtain⟨nm,ks,fk⟩:=Ci (aT X4)
  generalize kJ[r]'hr=X5 at X4 fk
  refine KA (sp:=sp) (b:=b) (j:=j) (B:=B) (rs:=rs) (pt:=L nm::ks.map λk=>[k]) P hl hf ks sd q m [fb ((b+j:Nat):Int),nm] fk.k (aa (a6 (Nat.mul_le_mul_left 5 fk.n) _) (a5 rfl)) λws s q1 m1 hO E5 hwb lk=> ?_
  have hW:Cr b j nm ks ws s:=⟨⟨fk.f,hO,EX fk.n E5,hwb⟩,ZT⟩
  refine EW (sp:=sp) (B:=B) (rs:=rs) (pt:=L nm::ks.map λk=>[k]) (pos:=q1) (mix:=m1) (sd:=sd) P hl hf hW (aa NV (aa ZS (by decide))) λx s' t q2 m2 ht hR tl=> ?_
  refine ih (j+1) (rs++[x]) t q2 m2 (dc j 1 n▸h) (by rw[af];exact aL NV) λIr s2 q3 m3 eC hRs lp=>kk (x::Ir) (s'&&s2) q3 m3 (congrArg (·+1) eC) (.cons hR hRs) λ{L' outer A} F=> ?_
  have lp:=lp F
  rw[ht,Bool.and_assoc,aC,<-ht]at lp
  obtain⟨y,ex,tl⟩:=tl F
  have z:(aN (L nm::ks.map λk=>[k])).length<=sizeLine:=a8 10 (by rw[ae,ay,ae];exact aa (aL fk.n) (by decide)) rfl
  have w:=XZ F Fn.top (os:=oI fs q m B rs (L nm::ks.map λk=>[k]) [fb ((b+j:Nat):Int),nm] (.list (aN (ks.map λk=>[k])))) (l:=lI sp b sd j) (ks:=[10,11,12]) (x:="kind") (i:=10) (k:=6) (by ac_rfl) rfl rfl (lk F)
  have run:Runs (hZ C (cz.frame L' outer A lv) lB) 4 (lR sp b sd j none none none none none none) (oR fs pos mix B rs) (.norm (lR sp b t j (some (.o 4)) (some (.o 5)) none none none y) (oR fs q2 m2 B (rs++[x])++ex)):=by
   rw[show lB=lS 0::lS 1::lS 2::lB.drop 3 by rfl']
   refine .cons (l1:=lR sp b sd j (some (.o 4)) none none none none none) (os1:=oR fs q m B rs++[Ob.list (aN (L nm::ks.map λk=>[k]))]) (by
    apply cN F (lS 0) (lR sp b sd j none none none none none none) (oR fs pos mix B rs) [ru (.int 45),rv (.int r) (oR fs q m B rs),ru (.str X5),.c (some (.o 4)) (oR fs q m B rs++[Ob.list (aN (L nm::ks.map λk=>[k]))])]
     (cO P F rfl rfl ((ae _).trans OM) (by decide)) (uw P F rfl h0 pk) (wn rfl (av hr (by decide)) (by rw[bo,X4];rfl)) (m_split rfl (aa fk.l (by decide)) fk.sp)) ?_
   refine .cons (l1:=lR sp b sd j (some (.o 4)) (some (.o 5)) none none none none) (os1:=oR fs q m B rs++[Ob.list (aN (L nm::ks.map λk=>[k])),sW [fb ((b+j:Nat):Int),nm]]) (by
    apply cN F (lS 1) (lR sp b sd j (some (.o 4)) none none none none none) (oR fs q m B rs++[Ob.list (aN (L nm::ks.map λk=>[k]))]) [ru (.str (fb ((b+j:Nat):Int))),ru (.str nm)]
     (Ao P F rfl (a:=((b+j:Nat):Int)) (jh (ak (ax _ 2) (dj ZT (by decide))))) (wn (k:=4) (i:=0) rfl (by decide) (congrArg (λx=>some (PV.str x)) (f7 nm)))) ?_
   refine .cons (l1:=lI sp b (sd&&s) j) (os1:=oI fs q1 m1 B rs (L nm::ks.map λk=>[k]) (fb ((b+j:Nat):Int)::nm::ws) .gone) (by
    apply cN F (lS 2) (lI sp b sd j) (oR fs q m B rs++[Ob.list (aN (L nm::ks.map λk=>[k])),sW [fb ((b+j:Nat):Int),nm]]) [.c (some (.o 6)) (oI fs q m B rs (L nm::ks.map λk=>[k]) [fb ((b+j:Nat):Int),nm] (.list (aN (ks.map λk=>[k])))),.o (.norm (lI sp b (sd&&s) j) (oI fs q1 m1 B rs (L nm::ks.map λk=>[k]) (fb ((b+j:Nat):Int)::nm::ws) .gone))]
     (Xu (k:=4) rfl (Ca _ _) z rfl) w) tl
  apply Loop.next (ks:=[7,8,9,10,11,12,13]) (l:=lZ sp b sd) (i:=7) (x:= .int (j:Nat)) true run rfl lp
end
end
section
variable{C:Ctx}{fr:Fm}{ρ:b4}{σ:St}{X:Prop}{Y Z:Zf}{s:Shared}
theorem t9.Mg{A:Around}{Tf:Value}{e:Value}{x:Addr}{a0:Value}{Q:Unit->Shared->Prop}{E:Value->Shared->Prop}(h:t9 C fr Y ρ e s x)(hn:s.heap.TracedAtW C.B x (.ref C.lf) a0 Tf)
 (hQ:∀s',t9 C fr Y ρ e s' x->s'.heap.TracedAtW C.B x (.ref C.lf) a0 .none->Q () s'):wpAny C.M A (setFlight e none) Q E s:=by
 obtain rfl:=h.is
 obtain⟨oe,vs,T,oT,ts,he,D8,hd,h1,O6,O7,hT,IG,h3⟩:=hn
 have hsz:3<ts.size:=(fP.mp h3).1
 unfold setFlight
 refine wpAny_bind (wpAny_field he hd h1 ?_)
 rw[if_pos (show(Value.ref T !=Value.none)=true from by simp)]
 refine wpAny_setField hT IG hsz ?_
 have i8:∀b,b≠T->(s.heap.update T (Obj.mapFields (·.setIfInBounds 3 Value.none))).get? b=s.heap.get? b:=λb hb=>Heap.get?_update_other _ _ (Ne.symm hb)
 have keep:=tj hT IG i8
 have tr:(s.heap.update T (Obj.mapFields (·.setIfInBounds 3 Value.none))).TracedAtW C.B x (.ref C.lf) a0 .none:=
  ⟨oe,vs,T,_,_,(i8 x (Ne.symm O7)).trans he,D8,hd,h1,O6,O7,ej _ hT (Obj.isFreed_of_fields (iy IG _)),iy IG _,by simp[hsz]⟩
 exact hQ _ (h.turn (λb o e=>(i8 b λq=>by rw[q,O6]at e;cases e).trans (h.base b o e)) (h.bq.of_keeps λb o hb Mq=>⟨o,keep b o hb Mq,rfl⟩) (.inr (.inl ⟨a0,tr⟩)) λb o hb Mq=>⟨o.slots,keep b o hb Mq⟩) tr
theorem HV(G:dh C)(F:aG C fr)(Tp:hY fr){Fi:Fn}(hE:xY C Fi){nm:Str}{np hp:Pos}{HW:Stmt}{wg:List Stmt}{Q:Flow->Shared->Prop}{E:Value->Shared->Prop}{e:Value}{x:Addr}
 (hk:fr.env.kindOf nm=some .globalImplicit) (hm:C.mg nm=some (.ref C.lf)) (h:t9 C fr Y ρ e s x)
 (k:∀s' E',t9 C fr Y ρ e s' x->wpAny C.M (fr.A.mark (some e)) (execs (HW::wg) fr.env) Q E' s') (hd:(nm==("__debug__":Str))=false:=by decide):
 wpAny C.M fr.A (noteFrame e fr.env) (λ_ cW=>wpAny C.M fr.A (setFlight e none) (λ_ iL=>wpAny C.M fr.A (handleBy e fr.env [.ExceptHandler (some (.Name nm np)) none (HW::wg) hp]) Q E iL) E cW) E s:=by
 obtain@⟨n,q,NN,bs,bm,hdct,sn,sub,ab,col,dd,k0,k1,k2,k3,k5,mN,oI,hC,hn,hi,hT,Oy,K7,rq⟩:=hE
 refine h.note F Tp λbG fU ⟨a0,X6⟩=>fU.Mg X6 λcW gm Tg=> ?_
 have hx:=h.is
 subst hx
 refine wpAny_handleBy_cons (codeAny_handlers_test ?_) (by intro q;cases q)
 refine Name_function_global F.kind hk (loadGlobal_global (G.hU.keeps gm.base) hm ?_) hd
 obtain⟨oe,vs,T,oT,ts,he,⟨D8,_⟩,_⟩:=id Tg
 obtain⟨hh,g,d,tk,os⟩:=cW
 refine wpAny_excMatches_sub_self (gm.base _ _ hC) he D8 rq (codeAny_handlers_suite ?_)
 exact gm.Mg Tg λiL i5 aad=>k iL _ i5
end
noncomputable def KG(C:Ctx):Flow->Shared->Prop:=λfl s'=>fl=.ret (.bool true)/\C.B.StaysIn s'.heap/\s'.gens=C.gens/\s'.os=C.os
noncomputable def Oh(C:Ctx)(fr:Fm)(m9:List Stmt)(ρ:b4)(σ:St):Prop:=∀Z s,Ok C fr (λ_=>none) Z ρ σ s->wpAny C.M fr.A (execs m9 fr.env) (KG C) (λ_ _=>False) s
section
variable{C:Ctx}{fr:Fm}{ρ:b4}{σ:St}
theorem HX{Z Z':Zf}{v:Value}{s':Shared}{cj:b4}{σ':St}{pv:PV}(ok:Ok C fr (λ_=>none) Z' cj σ' s')(r:gj Z' pv v)(h:pv=.bool true):KG C (.ret v) s':=by
 subst h;rw[kZ r];exact⟨rfl,ok.base,ok.rest.1,ok.rest.2⟩
theorem AL{st:Stmt}{m9:List Stmt}(h:WS C fr st ρ σ (λcj σ'=>Oh C fr m9 cj σ') (λv _=>v=.bool true) (λ_ _ _=>False) (λ_=>False)):Oh C fr (st::m9) ρ σ:=λZ s ok=>
 wpAny_execs_cons (wpAny_mono (h _ Z s ok) (λf bG x=>by
  cases f with
  |next=>obtain⟨cj,σ',Z',k,fS,q⟩:=x;exact q Z' bG fS
  |brk=>obtain⟨_,_,_,_,_,q⟩:=x;exact q.elim
  |cont=>obtain⟨_,_,_,_,_,q⟩:=x;exact q.elim
  |ret v=>obtain⟨pv,_,_,Z',_,fS,r,q⟩:=x;exact HX (Z:=Z) fS r q) λ_ _ ⟨_,q,_⟩=>q)
theorem DS(G:dh C)(F:aG C fr)(Tp:hY fr){Fi:Fn}(hE:xY C Fi){body rest:List Stmt}{nm:Str}{np hp pos:Pos}{HW:Stmt}{wg:List Stmt}{Xb:b4->Prop}
 (hk:fr.env.kindOf nm=some .globalImplicit) (hm:C.mg nm=some (.ref C.lf))
 (hb:hZ C fr body ρ σ (λcj σ'=>Oh C fr rest cj σ') (λ_ _=>False) (λ_ _ _=>False) Xb)
 (hX:∀cj s x e E,Xb cj->t9 C fr (λ_=>none) cj e s x->wpAny C.M (fr.A.mark (some e)) (execs (HW::wg) fr.env) (KG C) E s) (hd:(nm==("__debug__":Str))=false:=by decide):
 Oh C fr (.Try body [.ExceptHandler (some (.Name nm np)) none (HW::wg) hp] [] [] pos::rest) ρ σ:=λZ s ok=>by
 refine wpAny_execs_cons (wpAny_Try_except (wpAny_mono (hb _ Z s ok) (λf bG x=> ?_) λe bG ⟨cj,hx,y,hy⟩=> ?_))
 ·cases f with
  |next=>obtain⟨cj,σ',Z',k,fS,q⟩:=x;exact wpAny_execs_nil (q Z' bG fS)
  |brk=>obtain⟨_,_,_,_,_,q⟩:=x;exact q.elim
  |cont=>obtain⟨_,_,_,_,_,q⟩:=x;exact q.elim
  |ret v=>obtain⟨_,_,_,_,_,_,_,q⟩:=x;exact q.elim
 ·exact HV G F Tp hE hk hm hy (λs' E' h'=>wpAny_mono (hX cj s' y e E' hx h') (λf cW l=>by
   obtain⟨rfl,l2⟩:=l;exact⟨rfl,l2⟩) λ_ _ z=>z) hd
theorem HY(F:aG C fr){cj:b4}{s:Shared}{x:Addr}{e:Value}{E:Value->Shared->Prop}{nm:Str}{p p' p'':Pos}(i:Nat)(hx:fr.vn[i]?=some nm)(hv:cj[i]?=some (some (.bool false)))(h:t9 C fr (λ_=>none) cj e s x):
 wpAny C.M (fr.A.mark (some e)) (execs [.Return (some (.UnaryOp .Not (.Name nm p) p')) p''] fr.env) (KG C) E s:=by
 obtain⟨m,Z',hn,hl⟩:=h.loc
 obtain⟨w,hw,r⟩:=hl i nm _ (F.A1 hx).1 hv
 rw[kZ r]at hw
 refine wpAny_execs_cons (wpAny_Return_some (wpAny_UnaryOp (wpAny_Name (F.load hx hn hw ?_) (F.A1 hx).2.2.2)))
 exact not_value (wpAny_truthy_bool ⟨rfl,h.base,h.rest.1,h.rest.2⟩)
end
section
variable{C:Ctx}{fr:Fm}{l:Lo}{os:List Ob}{K:Frag}{bN bO:ClassData}
theorem To.KY(P:PO C K bN bO)(F0:aG C fr)(hk:fr.env.kindOf "Symbols"=some .globalImplicit)(hl:3<fr.lvl){np pos:Pos}(hv:os.all Ob.live=true):To (tE C fr (.Call (.Name "Symbols" np) [] [] pos)) l os (some (.o os.length)) (os++[.book iU]):= .mk λas ρ σ F s Q X q=>by
 refine MN P.G F0 P.oH P.hX P.YS P.C1 P.C2 P.PU (lv:=2) hk P.xr hl rfl λx d Ur Uq MH=> ?_
 refine vA P (by decide) (St.bE _ _ _) (by rw[St.bA _ _ MH.symm,St.bE]) λa hax had fg F1 Gu OE AM=>⟨rfl,?_⟩
 subst hax;subst had
 obtain⟨ps,r,ha⟩:=s.r
 have ua:∀b,((σ.upd a.d (.cg [])).upd a.x (.inst 155 a.d)) b=none->σ b=none/\b≠a.x/\b≠a.d:=λb e=>by
  by_cases q1:b=a.x
  ·rw[q1,St.bE]at e;cases e
  ·rw[St.bA _ _ q1]at e
   by_cases q2:b=a.d
   ·rw[q2,St.bE]at e;cases e
   ·rw[St.bA _ _ q2]at e;exact⟨e,q1,q2⟩
 obtain⟨l0,l1,l2⟩:=ua _ fg
 obtain⟨m0,m1,m2⟩:=ua _ F1
 obtain⟨n0,n1,n2⟩:=ua _ Gu
 obtain⟨k0,k1,k2⟩:=ua _ OE
 have t1:=dZ AM.ht AM.ha nofun
 have t2:=dZ AM.ht AM.hn nofun
 have t3:=dZ AM.ha AM.hf nofun
 have t4:=dZ AM.ha AM.hn nofun
 have t5:=dZ AM.hf AM.hn nofun
 let p:Pl:=⟨a.x,λ|0=>a.d|1=>a.lt|2=>a.da|3=>a.lf|_=>a.df⟩
 have w:=r.Ib (o:= .book iU) (p:=p) (σ':=cL (((σ.upd a.d (.cg [])).upd a.x (.inst 155 a.d)).upd a.d (.cg (i9 a))) a iU) (λc hc=>by
  change c∈[(a.x,dn.inst 155 a.d),(a.d,.cg (i9 a)),(a.lt,.list (iU.texts.map .str)),(a.da,.cg (r4 iU.texts)),(a.lf,.list (iU.bq.map k7)),(a.df,.hV (qF iU.bq))]at hc
  simp only[am,aU,or_false]at hc
  rcases hc with rfl|rfl|rfl|rfl|rfl|rfl
  ·exact AM.hx
  ·exact AM.hd
  ·exact AM.ht
  ·exact AM.ha
  ·exact AM.hf
  ·exact AM.hn) (λb hb=>by
  change b∉[a.x,a.d,a.lt,a.da,a.lf,a.df]at hb
  simp only[am,not_or]at hb
  rw[dB _ _ hb.2.2.1 hb.2.2.2.1 hb.2.2.2.2.1 hb.2.2.2.2.2.1,St.bA _ _ hb.2.1,St.bA _ _ hb.1,St.bA _ _ hb.2.1]) (λb hb=>by
  change b∈[a.x,a.d,a.lt,a.da,a.lf,a.df]at hb
  simp only[am,aU,or_false]at hb
  rcases hb with rfl|rfl|rfl|rfl|rfl|rfl<;>assumption) (by
  show[a.x,a.d,a.lt,a.da,a.lf,a.df].Nodup
  simp only[dy,am,aU,or_false,not_or,not_false_eq_true,dP,and_true]
  exact⟨⟨MH,l1.symm,m1.symm,n1.symm,k1.symm⟩,⟨l2.symm,m2.symm,n2.symm,k2.symm⟩,⟨t1,AM.ne1,t2⟩,⟨t3,t4⟩,t5⟩) λq hq=>aB.mp hv q hq
 have hn:(os++[Ob.book iU]).length=os.length+1:=by rw[af];rfl
 have ag:Agree os.length as λk=>if k=os.length then a.x else as k:=λk hk=>if_neg (ca hk)
 have pR:=q (λk=>if k=os.length then a.x else as k) _ ⟨ag,⟨⟨_,w,λk hk=> ?_⟩,s.len,λi e he=> ?_⟩,by show os.length<_;rw[hn];exact cU _,by rw[hn];exact bF _⟩
 ·rwa[show EV.at (λk=>if k=os.length then a.x else as k) (.o os.length)=.loc a.x from congrArg PV.loc (if_pos rfl)]at pR
 ·by_cases e:k=os.length
  ·show(if k=os.length then p else ps k).a=(if k=os.length then a.x else as k)
   rw[if_pos e,if_pos e]
  ·show(if k=os.length then p else ps k).a=(if k=os.length then a.x else as k)
   rw[if_neg e,if_neg e];rw[hn]at hk;exact ha k (eL (gu hk) e)
 ·have h0:=s.l i e he
  have st:=h0.1.step ag (by rw[hn];exact bF _:os.length<=(os++[Ob.book iU]).length)
  exact⟨st.1,by rw[st.2];exact h0.2⟩
theorem X7(P:PO C K bN bO)(F0:aG C fr){j k:Nat}{xs:List PV}(hj:os[j]?=some (.list xs))(hk:os[k]?=some (.list xs))(hp:∀x∈xs,Flat 20 x):To (t2 C fr (compareOp .Eq) (.o j) (.o k)) l os (sv (.bool true)) os:=
 To.Tk hj (λ_=>rfl) hk (λ_=>rfl) λas ρ σ Q X h1 h2 q=>MP P.G F0 h1 h2 hp q
end
section
open PySem PySem.W PySem.Calls PyProof.Rows PySem.SeqAt PySem.NumText PySem.W.KIN
section
variable{C:Ctx}{K:Frag}{bN bO:ClassData}{fr:Fm}{l l1:Lo}{os os1:List Ob}
structure fe(C:Ctx)(fr:Fm)(m9:List Stmt)(l:Lo)(os:List Ob):Prop where
 go:∀as ρ σ F,Sx l os as ρ σ F->Oh C fr m9 ρ σ
theorem fe.step{st:Stmt}{m9:List Stmt}(h:Runs (WS C fr st) os.length l os (.norm l1 os1))(r:fe C fr m9 l1 os1):fe C fr (st::m9) l os:= .mk λas ρ σ F s=>
 AL (h.go as ρ σ F (aj _) s (λcj σ'=>Oh C fr m9 cj σ') _ _ _ λcD RQ cQ x=>r.go cD RQ cQ F x.s)
theorem fe.ret{st:Stmt}{m9:List Stmt}(h:Runs (WS C fr st) os.length l os (.ret (.v (.bool true)) os1)):fe C fr (st::m9) l os:= .mk λas ρ σ F s=>
 AL (h.go as ρ σ F (aj _) s _ (λv _=>v=.bool true) _ _ λcD cQ x=>rfl)
theorem fe.Yx(P:PO C K bN bO)(F0:aG C fr)(Tp:hY fr){body rest wg:List Stmt}{b0:Stmt}{np hp pos:Pos}(hk:fr.env.kindOf "LinkFault"=some .globalImplicit)(hb:Runs (hZ C fr body) os.length l os (.norm l1 os1))(r:fe C fr rest l1 os1):
 fe C fr (.Try body [.ExceptHandler (some (.Name "LinkFault" np)) none (b0::wg) hp] [] [] pos::rest) l os:= .mk λas ρ σ F s=>
 DS P.G F0 Tp P.exc (Xb:=λ_=>False) hk P.k6 (hb.go as ρ σ F (aj _) s (λcj σ'=>Oh C fr rest cj σ') (λ_ _=>False) (λ_ _ _=>False) _ λcD RQ cQ x=>r.go cD RQ cQ F x.s) λ_ _ _ _ _ h=>h.elim
theorem fe.Yy(P:PO C K bN bO)(F0:aG C fr)(Tp:hY fr){rest:List Stmt}{x nm:Str}{e:Expr}{np hp pos p p' p1 p2 p3:Pos}{i k:Nat}(hk:fr.env.kindOf "LinkFault"=some .globalImplicit)(hi:fi x fr.vn=some i)(hs:∀env,swapsWithSole [.Name x p'] e p.line env=Pure.pure false)
 (hj:fi nm fr.vn=some k) (hf:l[k]?=some (sv (.bool false))) (h:To (tE C fr e) l os none os1):
 fe C fr (.Try [.Assign [.Name x p'] e p] [.ExceptHandler (some (.Name "LinkFault" np)) none [.Return (some (.UnaryOp .Not (.Name nm p1) p2)) p3] hp] [] [] pos::rest) l os:= .mk λas ρ σ F s=>
 DS P.G F0 Tp P.exc (Xb:=λcj=>cj[k]?=some (some (.bool false))) hk P.k6 (bw (fv F0 i (f6 hi) (h.go as ρ σ F s _ _ (s.l k _ hf).2) (hs:=hs))) λcj s' x e E hx h'=>HY F0 k (f6 hj) hx h'
end
noncomputable section
noncomputable def A0(i:Nat):Stmt:=(cz.body[i]?).getD (.Pass ⟨0,0,0,0⟩)
noncomputable def KH(s:Stmt):List Stmt:=match s with|.Try b _ _ _ _=>b|_=>[]
noncomputable def X8(e:Expr):List Expr:=sel [] e (lst:=λes _=>es)
end
theorem EY:iU.texts.length<=100/\iU.bq.length<=100:=by decide+kernel
theorem HZ(B:ar)(b:Int)(is:List hJ):(gf B b is).length=is.length:=(ae ..).trans List.length_zipIdx
theorem H0(rs:List Str):aN (rs.map L)=rs.map .str:=by rw[aN,bU];exact dU λx _=>congrArg PV.str (f7 x)
section
variable{C:Ctx}{K:Frag}{bN bO:ClassData}{L':Addr}{outer:List Env}{A:Around}{lv:Nat}{sp:PV}
noncomputable abbrev l0(sp:PV)(a b c d e f:Option EV):Lo:=[sv sp,a,b,c,d,e,f,none,none,none,none,none,none,none,none]
noncomputable abbrev lE(sp:PV)(b:Nat)(sd:Bool)(x:Option EV):Lo:=[sv sp,some (.o 0),some (.o 1),some (.o 2),some (.o 3),sv (.bool sd),sv (.int (b:Nat)),none,none,none,none,none,none,none,x]
theorem fe.at_{fr:Fm}{l l1:Lo}{os os1:List Ob}(i:Nat)(h:Runs (WS C fr (A0 i)) os.length l os (.norm l1 os1))(r:fe C fr (cz.body.drop (i+1)) l1 os1)(e:cz.body.drop i=A0 i::cz.body.drop (i+1):=by rfl'):fe C fr (cz.body.drop i) l os:=e▸fe.step h r
theorem KJ(P:PO C K bN bO)(F:aG C (cz.frame L' outer A lv))(hl:10<=lv){fs:List Nat}{b q m:Nat}(hb:b<700){rs:List Str}{s:Bool}(hn:rs.length<=6)(hn0:0<rs.length)(h:lu b 0 (rs.map L) s){B:ar}(hB:B.texts.length<=100/\B.bq.length<=100):
 fe C (cz.frame L' outer A lv) (cz.body.drop 7) (lE sp b s none) (oR fs q m B rs):=by
 have h8:8<lv:=cG hl
 have z:cC B ((rs.map L).length*100):=by
  rw[ae]
  exact⟨aa (bb hB.1 (eY 100 hn)) (by decide),aa (bb hB.2 (eY 100 hn)) (by decide)⟩
 have rd:=v6 (B:=B) P (lv:=8) (aj _) (rows:=rs.map L) (by rw[ae];exact aa hn (by decide)) (aa hB.1 (by decide)) (aa hB.2 (by decide)) h.ok
 rw[H0]at rd
 rw[show cz.body.drop 7=A0 7::cz.body.drop 8 by rfl']
 cases s with
 |false=>
  rw[Ko h z]at rd
  have t:To (tE C (cz.frame L' outer A lv) (Kq (KH (A0 7)) 0)) (lE sp b false none) (oR fs q m B rs) none (oR fs q m B rs++[jQ,.list []]):=by
   apply sg F (Kq (KH (A0 7)) 0) (lE sp b false none) (oR fs q m B rs) [.c none (oR fs q m B rs++[jQ,.list []])] (cR P.G F P.pC rfl h8 [1,3] rd rfl rfl rfl rfl rfl)
  apply fe.Yy P F Fn.top rfl (i:=14) rfl (λ_=>rfl) (k:=5) rfl rfl t
 |true=>
  refine HH h (λe=>absurd (congrArg List.length e) (by rw[ae];exact Nat.ne_of_gt hn0)) z λis B' hr hw og=> ?_
  rw[hr]at rd
  have ZU:is.length=rs.length:=(HZ ..).symm.trans ((congrArg List.length hw).symm.trans (ae ..))
  have ls:=EF P (lv:=7) (aj _) (B:=B') (is:=is) (b:=(b:Nat)) (aa (ZU▸hn) (by decide)) og λk hk=>(Int.natCast_add b k▸z9 (n:=b+k) (av (Nat.add_lt_add hb (av hk (ZU▸hn))) (by decide)):eT ((b:Int)+(k:Nat)))
  rw[<-hw,H0]at ls
  have t:Runs (hZ C (cz.frame L' outer A lv) (KH (A0 7))) 4 (lE sp b true none) (oR fs q m B rs) (.norm (lE sp b true (some (.o 5))) (oR fs q m B' rs++[jQ,.list (is.map hJ.pv)])):=by
   apply cu (m:=4) F (KH (A0 7)) (lE sp b true none) (oR fs q m B rs) [.c (some (.o 5)) (oR fs q m B' rs++[jQ,.list (is.map hJ.pv)])] (cR P.G F P.pC rfl h8 [1,3] rd rfl rfl rfl rfl rfl)
  have eqq:=λ(l:Lo)=>X7 (fr:=cz.frame L' outer A lv) (l:=l) (os:=oR fs q m B' rs++[jQ,.list (is.map hJ.pv),jQ,sW rs]) P F (j:=7) (k:=3) rfl rfl λx hx=>(bn.mp hx).elim λy e=>e.2▸Flat.str y
  have r:fe C (cz.frame L' outer A lv) (cz.body.drop 8) (lE sp b true (some (.o 5))) (oR fs q m B' rs++[jQ,.list (is.map hJ.pv)]):=by
   rw[show cz.body.drop 8=A0 8::cz.body.drop 9 by rfl']
   refine fe.ret (os1:=oR fs q m B' rs++[jQ,.list (is.map hJ.pv),jQ,sW rs]) ?_
   apply cN (m:=6) F (A0 8) (lE sp b true (some (.o 5))) (oR fs q m B' rs++[jQ,.list (is.map hJ.pv)]) [tt,.c (some (.o 7)) (oR fs q m B' rs++[jQ,.list (is.map hJ.pv),jQ,sW rs]),ru (.bool true)] rfl (cR P.G F P.EZ rfl (dj (by decide) h8:7<lv) [1,5] ls rfl rfl rfl rfl rfl) (eqq _)
  apply fe.Yx P F Fn.top rfl t r
theorem KN(P:PO C K bN bO)(F:aG C (cz.frame L' outer A lv))(hl:10<=lv){fs:List Nat}{m:Nat}(hf:fs.length<=1000){B:ar}(hB:B.texts.length<=100/\B.bq.length<=100):
 fe C (cz.frame L' outer A lv) (cz.body.drop 2) (l0 sp (some (.o 0)) (some (.o 1)) none none none none) [.eW fs 0 m,.book B]:=by
 have h0:=bx hl (by decide:0<10)
 refine fu P hf 0 m 700 (by decide) λb q m1 hb pk=>fu P hf q m1 6 (by decide) λr q2 m2 hr S7=> ?_
 have X9:1+r<=6:=(bH 1 r).symm▸hr
 refine HU (sp:=sp) (B:=B) P hl hf hb (1+r) 0 [] true q2 m2 (aa (aR (dR _)) X9) (aj 0) λrs s q3 m3 eC hR lp=> ?_
 have h:yf 60 (X8 (Kq cz.body 2))=some (kJ.map .str):=by rfl'
 have w:=qL F Fn.top (os:=oR fs q2 m2 B []) (n:=1+r) (l:=lE sp b true none) (ks:=[7,8,9,10,11,12,13]) (x:="step") (i:=7) (ak X9 (by decide)) (by ac_rfl) rfl (lp F)
 refine fe.at_ 2 (l1:=l0 sp (some (.o 0)) (some (.o 1)) (some (.o 2)) none none none) (os1:=[.eW fs 0 m,.book B,sW kJ]) (by
  apply cN F (A0 2) (l0 sp (some (.o 0)) (some (.o 1)) none none none none) [.eW fs 0 m,.book B] [.x (some (.o 2)) [.eW fs 0 m,.book B,sW kJ]] (N2 rfl h (by rw[ae];decide))) ?_
 refine fe.at_ 3 (l1:=l0 sp (some (.o 0)) (some (.o 1)) (some (.o 2)) (some (.o 3)) none none) (os1:=oR fs 0 m B []) (by
  apply cN F (A0 3) (l0 sp (some (.o 0)) (some (.o 1)) (some (.o 2)) none none none) [.eW fs 0 m,.book B,sW kJ] []) ?_
 refine fe.at_ 4 (l1:=l0 sp (some (.o 0)) (some (.o 1)) (some (.o 2)) (some (.o 3)) (sv (.bool true)) none) (os1:=oR fs 0 m B []) (by
  apply cN F (A0 4) (l0 sp (some (.o 0)) (some (.o 1)) (some (.o 2)) (some (.o 3)) none none) (oR fs 0 m B []) []) ?_
 refine fe.at_ 5 (l1:=lE sp b true none) (os1:=oR fs q m1 B []) (by
  apply cN F (A0 5) (l0 sp (some (.o 0)) (some (.o 1)) (some (.o 2)) (some (.o 3)) (sv (.bool true)) none) (oR fs 0 m B []) [rv (.int b) (oR fs q m1 B [])] (uw P F rfl h0 pk)) ?_
 refine fe.at_ 6 (l1:=lE sp b s none) (os1:=oR fs q3 m3 B rs) (by
  apply cN F (A0 6) (lE sp b true none) (oR fs q m1 B []) [rv (.int r) (oR fs q2 m2 B []),ru (.xP 0 ((1:Int)+(r:Nat)) 1),.o (.norm (lE sp b s none) (oR fs q3 m3 B rs))] (uw P F rfl h0 S7) (ig P F rfl) w) ?_
 exact KJ P F hl hb (eC▸X9) (eC▸av (by decide) (ax 1 r)) hR hB
theorem KO(P:PO C K bN bO)(F:aG C (cz.frame L' outer A lv))(hl:10<=lv){xs:List Int}(hs:∀τ,xe C τ sp (xs.map .int))(hx:xs.length<=100):
 fe C (cz.frame L' outer A lv) cz.body (l0 sp none none none none none none) []:=by
 refine Ck (C:=C) (lv:=9) (a:=sp) P hs hx λfs m hf lp=> ?_
 have lp':=Calls.sel (c':= .o 0) (os2:=[.eW fs 0 m]) [2] lp ⟨rfl,rfl⟩ rfl rfl
 refine(fe.at_ 0 (l1:=l0 sp (some (.o 0)) none none none none none) (os1:=[.eW fs 0 m]) (by
  apply cN F (A0 0) (l0 sp none none none none none none) [] [.c (some (.o 0)) [.eW fs 0 m]] (cR P.G F P.CA rfl (show 9<lv from hl) [] lp' rfl rfl rfl rfl rfl)) ?_:fe C (cz.frame L' outer A lv) (cz.body.drop 0) (l0 sp none none none none none none) [])
 refine fe.at_ 1 (l1:=l0 sp (some (.o 0)) (some (.o 1)) none none none none) (os1:=[.eW fs 0 m,.book iU]) (by
  apply cN F (A0 1) (l0 sp (some (.o 0)) none none none none none) [.eW fs 0 m] [.x (some (.o 1)) [.eW fs 0 m,.book iU]] (To.KY (l:=l0 sp (some (.o 0)) none none none none none) (os:=[.eW fs 0 m]) P F rfl (show 3<lv from av (by decide) hl) rfl)) ?_
 exact KN P F hl hf EY
end
end
theorem xM{Z:Zf}{P:Params}{h:Heap}:∀{xs:List Int} {vs:List Value},WellAll P h vs (ofPys (xs.map PyData.int))->cJ Z (xs.map PV.int) vs
 |[],vs,x=>by
  rw[gr,ofPys]at x
  cases x;exact rfl
 |i::xs,vs,x=>by
  rw[aP,ofPys,ofPy]at x
  cases x with
  |cons x y=>
   cases x
   exact⟨_,_,rfl,ct i _,xM y⟩
theorem yL{α:Type}{p:Prop}{k:Nat}{o:α}(h:([]:List α)[k]?=some o):p:=absurd h (by rw[List.getElem?_nil];exact(aW _).symm)
theorem Md{α:Type}{x:α}(i:Nat):[none,none,none,none,none,none,none,none,none,none,none,none,none,none][i]?≠some (some x):=λh=>by
 have:=aT h
 simp at this
noncomputable abbrev yM(L:Addr):Env:=envOf cz.qual cz.scope L cz.f cz.cd
theorem H3{w:World}{bG:Shared}{mg mb:Str->Option Value}{sz:Nat}{l:Addr}{xs:List Int}{vs:List Value}{fU:Heap}{tk:Nat}{m:Str->Option Value}(hC:∀b o,(H1 w.params).get? b=some o->bG.heap.get? b=some o)
 (g:bG.heap.Ns mainGlobals mg) (b:bG.heap.Ns builtinsNs mb) (nl:bG.heap.NoLimit) (bi:∀x:Str,x≠"__name__"->mb x=bootBuiltins x) (hl:bG.heap.get? l=some {cls:= .type "list",data:= .seq vs.toArray})
 (hr:∀Z,cJ Z (xs.map .int) vs) (hx:xs.length<=100) (F:Fr bG.heap sz fU m) (hm:m "script"=some (.ref l)):
 wpAny (model dX w) (callerA.deeper (yM sz)) (execs cz.body (yM sz)) (λfl s'=>fl=.ret (.bool true)/\(∀b o,bG.heap.get? b=some o->s'.heap.get? b=some o)/\s'.gens=bG.gens/\s'.os=bG.os) (λ_ _=>False) {bG with heap:=fU,toks:=tk}:=by
 let C:Mine.Ctx:=⟨dX,w,bG.heap,mg,mb,52,bG.gens,bG.os⟩
 have CO:dh C:=⟨g,b,nl,⟨_,hC _ _ (kx rfl rfl rfl)⟩⟩
 have P:=po (C:=C) (P:=w.params) hC CO bi rfl
 have F0:aG C (cz.frame sz [] (callerA.deeper (yM sz)) 20):=
  ⟨rfl,rfl,⟨_,rfl,nofun,rfl⟩,rfl,⟨of_decide_eq_true rfl,of_decide_eq_true rfl⟩,(by decide:cz.names.Nodup),.inr ⟨rfl,rfl⟩,(by decide+kernel:∀x∈cz.names,cz.scope.names.lookup x=some .local),(by decide:∀x∈cz.names,(x==("__debug__":Str))=false)⟩
 have ok:Ok C (cz.frame sz [] (callerA.deeper (yM sz)) 20) (λ_=>none) (λ_=>none) [some (.val (.ref l)),none,none,none,none,none,none,none,none,none,none,none,none,none,none] (λ_=>none) {bG with heap:=fU,toks:=tk}:=
  {base:=F.keep,keep:=λ_ _ e=>(aW _ e.symm).elim,vals:=λ_ _ e=>(aW _ e.symm).elim,yl:=rfl,zl:=rfl
   bl:=by
    show bG.heap.get? sz=none
    cases q:bG.heap.get? sz with
    |none=>rfl
    |some o=>exact absurd (cY q) (Nat.not_lt.mpr F.above)
   loc:=⟨m,F.ns,λi x pv h1 h2=>by
    cases i with
    |zero=>cases h1;cases h2;exact⟨_,hm,CG _⟩
    |succ i=>exact absurd h2 (Md i)⟩
   ju:=λ_ _ e=>(aW _ e.symm).elim,own:=λ_ _ e=>(aW _ e.symm).elim
   bq:=λ_ h=>absurd h aU,rest:=⟨rfl,rfl⟩,zn:=λ_ _ e=>(aW _ e.symm).elim,fz:=λ_ h=>absurd h aU}
 have R:=KO (C:=C) (sp:= .val (.ref l)) P F0 (by decide) (λτ=> .inr ⟨l,0,vs.toArray,rfl,hl,λZ=>hr Z⟩) hx
 refine R.go (λ_=>0) _ (λ_=>none) (λ_=>none) ⟨⟨λ_=>⟨0,λ_=>0⟩,⟨λ_ _ e=>yL e,λ_ _ e=>yL e,λ_ _ e=>yL e,λ_ _ _ _ _ e=>yL e,λ_ _ e=>e⟩,λ_ h=>absurd h (j9 _)⟩,rfl,λi e he=> ?_⟩ _ _ ok
 cases i with
 |zero=>cases he;exact⟨trivial,rfl⟩
 |succ i=>exact absurd he (Md i)
theorem Th:WalkO wy sX (λ_ _=>True) (λw h=>∀b o,(H1 w.params).get? b=some o->h.get? b=some o) PySem.Challenge.rw_no0172_02.row.toRowW ((defOf wy "law").get (by rfl)).1 ((defOf wy "law").get (by rfl)).2 λf vs=>PySem.call f vs:=by
 intro w Pb bG mg mb G hC a o pm cd doc dV kV ho hd Uc hD hm Ti args vals as Yc Yd RP E5 hlo
 wrow_args Yc Yd RP E5 hlo
 rename_i xs hs _ _ _ _ _ _ l vs _ hL ra hw r0 hI _ hc _
 have E5:∃us,bG.heap.get? l=some {cls:= .type "list",data:= .seq us.toArray}/\WellAll w.params bG.heap us (ofPys (xs.map PyData.int)):=by
  cases hw with
  |list h1 h2=>exact⟨_,h1,h2⟩
 obtain⟨us,h1,h2⟩:=E5
 have Ye:mg ("law":Str)=some (.ref 438):=(Lm G.T.g (Jk hC (a:=3) (by decide) (by rfl')) "law").trans (by rfl')
 have ha:a=438:=by
  have:=hm.symm.trans Ye
  cases this;rfl
 subst ha
 have pQ:=hC _ _ (kx (P:=w.params) (a:=438) (o:=Ry) (by decide) (by rfl') rfl)
 rw[pQ]at ho;cases ho
 have Yg:cd=.ref 437:=by
  have:=hd
  cases this;rfl
 subst Yg
 have he:=Dflts.none hD rfl;subst he
 have he:=Dflts.noKw hD;subst he
 refine enter_call (call_plain_ret (by decide) pQ (fd_plain hd) G.T.nolimit Uc rfl (λx hx=>aq.mp hx▸rfl) λfU F=> ?_)
 exact wpAny_mono (H3 hC G.T.g G.T.b G.T.nolimit G.T.builtins h1 (λZ=>xM h2) (by exact sH [.no (.A2 (.c (.n 63)) (.c (.v 0)))] (.le (.v 0) (.n 100)) [1] (Eq.refl true) hc) F rfl) (λfl s' ⟨e,hb,hg,Tz⟩=>by
  subst e
  exact⟨.inl ⟨.bool true,.bool true,[],rfl,λcls=>rfl,.bool true,postW_of (by wrow_shape) (by wtm_val) (by str_meet;first|done|w_fin),λ_=>⟨dP,λ_ h=>absurd h aU⟩⟩,.of_keep hb,Tz,.of_eq (hg.trans Ti)⟩) λ_ _ h=>h
theorem ZV:PySem.Challenge.rw_no0172_02.Holds:=M5 Th
end Mine
theorem PySem.Challenge.cw_no0172_02_holds : PySem.Challenge.rw_no0172_02.Holds :=
 Mine.ZV
