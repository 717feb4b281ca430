import PyProof.Rows.All
import Wide.All
import OpenK.AllK
import Wide.FinOn
import Lean
import PySem.Challenge.RW_no0172_01
set_option Elab.async false
set_option maxRecDepth 100000
set_option maxHeartbeats 8000000
set_option linter.unusedVariables false
set_option linter.unusedSimpArgs false
set_option genSizeOf false
set_option genInjectivity false
namespace Mine
local macro_rules |`(tactic|apply $e)=>`(tactic|with_unfolding_all exact $e)
local macro_rules |`(tactic|ac_rfl)=>`(tactic|with_unfolding_all rfl)
local macro_rules |`(tactic|rfl')=>`(tactic|kernel_rfl)
open PySem PySem.W PySem.Calls PyProof.Rows PySem.SeqAt
abbrev aa:=@Nat.le_trans
abbrev ae:=@List.length_append
abbrev af:=@List.length_map
abbrev ah:=@Nat.lt_of_le_of_lt
abbrev ai:=@Nat.le_refl
abbrev aj:=@List.getElem?_eq_some_iff
abbrev ak:=@List.mem_cons
abbrev am:=@List.mem_singleton
abbrev an:=@Bool.and_eq_true_iff
abbrev ao:=@Option.bind_eq_some_iff
abbrev au:=@Nat.lt_of_lt_of_le
abbrev av:=@List.all_eq_true
abbrev aw:=@List.length_cons
abbrev ax:=@Option.some.inj
abbrev ay:=@Nat.le_add_right
abbrev az:=@List.mem_cons_self
abbrev aA:=@Option.map_eq_some_iff
abbrev aB:=@List.getElem?_eq_getElem
abbrev aC:=@List.append_assoc
abbrev aD:=@List.mem_of_getElem?
abbrev aF:=@Int.natCast_nonneg
abbrev aG:=@Heap.get?_push_of_some
abbrev aK:=@List.mem_cons_of_mem
abbrev aL:=@List.length_singleton
abbrev aN:=@Heap.get?_push_size
abbrev aP:=@List.not_mem_nil
abbrev aQ:=@List.map_append
abbrev aR:=@Nat.add_le_add_left
abbrev aT:=@Option.some_ne_none
abbrev aW:=@List.length_set
abbrev aZ:=@Nat.le_of_eq
abbrev a5:=@Option.bind_some
abbrev a6:=@Nat.succ_le_succ
abbrev a9:=@Nat.le_of_lt
abbrev bc:=@List.getElem?_map
abbrev bg:=@Heap.get?_none_of_le
abbrev bj:=@List.mem_map
abbrev bp:=@List.map_cons
abbrev bv:=@Nat.le_succ_of_le
abbrev bB:=@Nat.add_le_add
abbrev bC:=@List.mem_append
abbrev bD:=@Int.toNat_natCast
abbrev bE:=@Nat.le_of_ble_eq_true
abbrev bG:=@Int.ofNat_lt
abbrev bH:=@List.getElem?_append_left
abbrev bI:=@Nat.add_right_comm
abbrev bJ:=@List.cons_ne_nil
abbrev bR:=@Nat.add_comm
abbrev bS:=@List.getElem?_append_right
abbrev bV:=@List.append_nil
abbrev bW:=@Nat.add_assoc
abbrev bX:=@Nat.ne_of_lt
abbrev bY:=@List.drop_eq_getElem_cons
abbrev b3:=@List.map_map
abbrev b4:=@Nat.lt_trans
abbrev b7:=@Nat.le_succ
abbrev ce:=@Nat.succ_pos
abbrev cf:=@Nat.lt_succ_self
abbrev cg:=@List.length_take
abbrev cu:=@Nat.le_of_not_lt
abbrev cy:=@Nat.lt_add_of_pos_right
abbrev cL:=@List.getElem_mem
abbrev cT:=@Int.ofNat_le
abbrev cU:=@Nat.zero_add
abbrev cW:=@List.nodup_cons
abbrev cX:=@List.nodup_nil
abbrev cY:=@Nat.min_eq_left
abbrev dc:=@Heap.lt_size
abbrev dj:=@Int.eq_ofNat_of_zero_le
abbrev dp:=@Nat.add_le_add_right
abbrev dq:=@Nat.lt_of_lt_of_eq
abbrev dE:=@List.nodup_append
abbrev dH:=@Nat.le_antisymm
abbrev dP:=@List.getElem?_of_mem
abbrev dQ:=@Option.getD_some
abbrev d7:=@List.all_cons
abbrev d9:=@Nat.le_of_lt_succ
abbrev ed:=@List.getD_eq_getElem?_getD
abbrev ef:=@List.map_congr_left
abbrev eN:=@Heap.get?_update_self
abbrev eO:=@List.singleton_append
abbrev eX:=@Int.not_lt
abbrev eY:=@List.length_drop
abbrev eZ:=@Int.natAbs_natCast
abbrev fc:=@List.getElem?_take_of_lt
abbrev fh:=@Nat.zero_le
abbrev fj:=@List.drop_zero
abbrev fv:=@List.getElem?_cons_succ
abbrev fB:=@F.slot_dict_keyiterator_next
abbrev fC:=@List.nil_append
abbrev fD:=@Nat.add_lt_add_left
abbrev fK:=@List.map_nil
abbrev fN:=@List.cons_append
abbrev fO:=@List.take_length
abbrev f0:=@Array.getElem?_eq_some_iff
abbrev f5:=@Bool.false_ne_true
abbrev f7:=@List.take_append_drop
abbrev gw:=@List.mem_of_mem_take
abbrev hU:=@Bool.and_eq_true
abbrev hV:=@Nat.add_sub_cancel_left
abbrev ip:=@Int.zero_add
abbrev iq:=@Obj.data_mapFields
abbrev iR:=@Fast.te14364793385576792824
abbrev je:=@Int.mul_add
abbrev jf:=@Nat.blt_eq
abbrev jp:=@F.plainAttrs_str
abbrev jr:=@List.getElem?_zip_eq_some
abbrev jt:=@Array.getElem?_eq_getElem
abbrev jw:=@Heap.SameBut.update
abbrev jx:=@Nat.mul_le_mul_left
abbrev jQ:=@List.cons.inj
abbrev j0:=@Nat.not_lt_zero
abbrev j1:=@Nat.le_add_left
abbrev j2:=@List.foldl_cons
abbrev j3:=@Option.map_some
abbrev ky:=@Nat.sub_add_cancel
abbrev kA:=@Bool.false_eq_true
abbrev kB:=@List.append_ne_nil_of_right_ne_nil
abbrev ll:=@Int.le_of_lt
abbrev lq:=@Heap.size_push
abbrev lu:=@List.drop_eq_nil_of_le
abbrev lz:=@List.length_take_of_le
abbrev lA:=@Nat.lt_succ_of_le
abbrev lB:=@Nat.succ_mul
abbrev lC:=@List.take_of_length_le
abbrev lD:=@List.Sublist.refl
abbrev ml:=@Array.getElem?_toList
abbrev mm:=@List.getElem?_eq_none
abbrev mn:=@List.mem_append_right
abbrev mo:=@Nat.eq_of_beq_eq_true
abbrev mV:=@Nat.succ_lt_succ
abbrev mW:=@List.suffix_cons
abbrev nK:=@Bool.true_and
abbrev nP:=@Nat.mul_le_mul_right
abbrev nQ:=@List.mem_append_left
abbrev nR:=@List.getElem?_set_ne
abbrev p7:=@Int.natCast_add
abbrev p8:=@List.length_nil
abbrev p9:=@List.forIn_cons
abbrev qv:=@Nat.pow_succ
abbrev rL:=@Nat.mod_lt
abbrev rM:=@Nat.add_lt_add_of_lt_of_le
inductive LX where
 |v (i:Nat)
 |n (k:Nat)
 |a (x y:LX)
 |m (k:Nat) (x:LX)
inductive IX where
 |c (x:LX)
 |w (i:Nat)
 |n (k:Int)
 |a (x y:IX)
 |s (x y:IX)
 |g (x:IX)
 |m (k:Int) (x:IX)
inductive LC where
 |le (x y:LX)
 |lt (x y:LX)
 |eq (x y:LX)
 |BX (x y:IX)
 |BO (x y:IX)
 |Ua (x y:IX)
 |ff
 |no (x:LC)
noncomputable section
noncomputable def M9(c:List Nat):Nat->Nat:=List.rec (λ_=>0) (λx _ ih i=>Nat.rec x (λj _=>ih j) i) c
noncomputable def Jx(c:List Int):Nat->Int:=List.rec (λ_=>0) (λx _ ih i=>Nat.rec x (λj _=>ih j) i) c
noncomputable def eQ(c:List Nat):(Nat->Int)->Int:=List.rec (λ_=>0) (λx _ ih f=>f 0*x+ih λi=>f (i+1)) c
noncomputable def fa(c:List Int):(Nat->Int)->Int:=List.rec (λ_=>0) (λx _ ih f=>f 0*x+ih λi=>f (i+1)) c
noncomputable def LX.den(c:List Nat)(e:LX):Nat:=LX.rec (λi=>M9 c i) (λk=>k) (λ_ _ p q=>p+q) (λk _ p=>k*p) e
noncomputable def LX.co(e:LX):Nat->Int:=LX.rec (λj i=>if j=i then 1 else 0) (λ_ _=>0) (λ_ _ p q i=>p i+q i) (λk _ p i=>k*p i) e
noncomputable def LX.k(e:LX):Int:=LX.rec (λ_=>0) (λk=>k) (λ_ _ p q=>p+q) (λk _ p=>k*p) e
noncomputable def IX.den(c:List Nat)(d:List Int)(e:IX):Int:=IX.rec (λx=>(x.den c:Int)) (λi=>Jx d i) (λk=>k) (λ_ _ p q=>p+q) (λ_ _ p q=>p-q) (λ_ p=> -p) (λk _ p=>k*p) e
noncomputable def IX.co(e:IX):Nat->Int:=IX.rec (λx i=>x.co i) (λ_ _=>0) (λ_ _=>0) (λ_ _ p q i=>p i+q i) (λ_ _ p q i=>p i-q i) (λ_ p i=> -p i) (λk _ p i=>k*p i) e
noncomputable def IX.ci(e:IX):Nat->Int:=IX.rec (λ_ _=>0) (λj i=>if j=i then 1 else 0) (λ_ _=>0) (λ_ _ p q i=>p i+q i) (λ_ _ p q i=>p i-q i) (λ_ p i=> -p i) (λk _ p i=>k*p i) e
noncomputable def IX.k(e:IX):Int:=IX.rec (λx=>x.k) (λ_=>0) (λk=>k) (λ_ _ p q=>p+q) (λ_ _ p q=>p-q) (λ_ p=> -p) (λk _ p=>k*p) e
structure Df where
 f:Nat->Int
 g:Nat->Int
 k:Int
noncomputable def Df.val(c:List Nat)(d:List Int)(p:Df):Int:=eQ c p.f+fa d p.g+p.k
noncomputable def LX.df(x y:LX)(j:Int):Df:=⟨λi=>y.co i-x.co i,λ_=>0,y.k-x.k-j⟩
noncomputable def IX.df(x y:IX)(j:Int):Df:=⟨λi=>y.co i-x.co i,λi=>y.ci i-x.ci i,y.k-x.k-j⟩
noncomputable def Df.neg(p:Df):Df:=⟨λi=> -p.f i,λi=> -p.g i,-p.k-1⟩
noncomputable def LC.den(c:List Nat)(d:List Int)(e:LC):Prop:=LC.rec (λx y=>x.den c<=y.den c) (λx y=>x.den c<y.den c) (λx y=>x.den c=y.den c)
 (λx y=>x.den c d<=y.den c d) (λx y=>x.den c d<y.den c d) (λx y=>x.den c d=y.den c d) False (λ_ p=>¬p) e
noncomputable def LC.df(e:LC):Df:=LC.rec (λx y=>x.df y 0) (λx y=>x.df y 1) (λx y=>x.df y 0) (λx y=>x.df y 0) (λx y=>x.df y 1) (λx y=>x.df y 0) ⟨λ_=>0,λ_=>0,-1⟩ (λ_ p=>p.neg) e
noncomputable def LC.kd(e:LC):Nat:=LC.rec (λ_ _=>1) (λ_ _=>1) (λ_ _=>2) (λ_ _=>1) (λ_ _=>1) (λ_ _=>2) 1 (λ_ k=>if k=1 then 1 else 0) e
end
theorem Na(a b c d:Int):a+b+(c+d)=a+c+(b+d):=by omega
theorem rN(c:List Nat):∀(f g:Nat->Int),eQ c (λi=>f i+g i)=eQ c f+eQ c g:=by
 induction c with
 |nil=>intro f g;rfl
 |cons x r ih=>intro f g;show(f 0+g 0)*x+eQ r (λi=>f (i+1)+g (i+1))=(f 0*x+eQ r _)+(g 0*x+eQ r _);rw[ih,Int.add_mul,Na]
theorem vp(c:List Int):∀(f g:Nat->Int),fa c (λi=>f i+g i)=fa c f+fa c g:=by
 induction c with
 |nil=>intro f g;rfl
 |cons x r ih=>intro f g;show(f 0+g 0)*x+fa r (λi=>f (i+1)+g (i+1))=(f 0*x+fa r _)+(g 0*x+fa r _);rw[ih,Int.add_mul,Na]
theorem nV(k:Int)(c:List Nat):∀(f:Nat->Int),eQ c (λi=>k*f i)=k*eQ c f:=by
 induction c with
 |nil=>intro f;exact(Int.mul_zero k).symm
 |cons x r ih=>intro f;show(k*f 0)*x+eQ r (λi=>k*f (i+1))=k*(f 0*x+eQ r _);rw[ih,je,Int.mul_assoc]
theorem rO(k:Int)(c:List Int):∀(f:Nat->Int),fa c (λi=>k*f i)=k*fa c f:=by
 induction c with
 |nil=>intro f;exact(Int.mul_zero k).symm
 |cons x r ih=>intro f;show(k*f 0)*x+fa r (λi=>k*f (i+1))=k*(f 0*x+fa r _);rw[ih,je,Int.mul_assoc]
theorem vq(c:List Nat)(f:Nat->Int):eQ c (λi=> -f i)= -eQ c f:=by
 have:=nV (-1) c f
 rw[Int.neg_one_mul]at this
 rw[<-this];congr;funext i;rw[Int.neg_one_mul]
theorem vr(c:List Int)(f:Nat->Int):fa c (λi=> -f i)= -fa c f:=by
 have:=rO (-1) c f
 rw[Int.neg_one_mul]at this
 rw[<-this];congr;funext i;rw[Int.neg_one_mul]
theorem vt(c:List Nat)(f g:Nat->Int):eQ c (λi=>f i-g i)=eQ c f-eQ c g:=by
 rw[Int.sub_eq_add_neg,<-vq,<-rN];rfl
theorem zW(c:List Int)(f g:Nat->Int):fa c (λi=>f i-g i)=fa c f-fa c g:=by
 rw[Int.sub_eq_add_neg,<-vr,<-vp];rfl
theorem jR(c:List Nat):eQ c (λ_=>0)=0:=by
 induction c with
 |nil=>rfl
 |cons x r ih=>show(0:Int)*x+eQ r (λ_=>0)=0;rw[ih,Int.zero_mul];rfl
theorem jS(c:List Int):fa c (λ_=>0)=0:=by
 induction c with
 |nil=>rfl
 |cons x r ih=>show(0:Int)*x+fa r (λ_=>0)=0;rw[ih,Int.zero_mul];rfl
theorem Ga(c:List Nat):∀j:Nat,eQ c (λi=>if j=i then 1 else 0)=(M9 c j:Int):=by
 induction c with
 |nil=>intro j;rfl
 |cons x r ih=>
  intro j
  cases j with
  |zero=>show(1:Int)*x+eQ r (λi=>if 0=i+1 then 1 else 0)=(x:Int);simp only[Nat.zero_ne_add_one,if_false];rw[jR,Int.one_mul,Int.add_zero]
  |succ j=>show(0:Int)*x+eQ r (λi=>if j+1=i+1 then 1 else 0)=(M9 r j:Int);simp only[Nat.add_right_cancel_iff];rw[ih,Int.zero_mul,ip]
theorem Gb(c:List Int):∀j:Nat,fa c (λi=>if j=i then 1 else 0)=Jx c j:=by
 induction c with
 |nil=>intro j;rfl
 |cons x r ih=>
  intro j
  cases j with
  |zero=>show(1:Int)*x+fa r (λi=>if 0=i+1 then 1 else 0)=x;simp only[Nat.zero_ne_add_one,if_false];rw[jS,Int.one_mul,Int.add_zero]
  |succ j=>show(0:Int)*x+fa r (λi=>if j+1=i+1 then 1 else 0)=Jx r j;simp only[Nat.add_right_cancel_iff];rw[ih,Int.zero_mul,ip]
theorem Jy(c:List Nat):∀{f g:Nat->Int},(∀i,i<c.length->f i<=g i)->eQ c f<=eQ c g:=by
 induction c with
 |nil=>intro f g h;exact Int.le_refl _
 |cons x r ih=>intro f g h;exact Int.add_le_add (Int.mul_le_mul_of_nonneg_right (h 0 (ce _)) (aF x)) (ih λi hi=>h (i+1) (mV hi))
theorem Jz(c:List Int):∀{f g:Nat->Int},(∀i,i<c.length->f i=g i)->fa c f=fa c g:=by
 induction c with
 |nil=>intro f g h;rfl
 |cons x r ih=>intro f g h;show f 0*x+fa r _=g 0*x+fa r _;rw[h 0 (ce _),ih λi hi=>h (i+1) (mV hi)]
theorem LX.val(c:List Nat)(e:LX):(e.den c:Int)=eQ c e.co+e.k:=by
 induction e with
 |v i=>exact((Ga c i).symm).trans (Int.add_zero _).symm
 |n k=>exact((congrArg (·+(k:Int)) (jR c)).trans (ip _)).symm
 |a x y h1 h2=>show((x.den c+y.den c:Nat):Int)=eQ c (λi=>x.co i+y.co i)+(x.k+y.k);rw[rN,p7,h1,h2];exact Na ..
 |m k x h=>show((k*x.den c:Nat):Int)=eQ c (λi=>k*x.co i)+k*x.k;rw[nV,Int.natCast_mul,h,je]
theorem IX.val(c:List Nat)(d:List Int)(e:IX):e.den c d=eQ c e.co+fa d e.ci+e.k:=by
 induction e with
 |c x=>show(x.den c:Int)=eQ c x.co+fa d (λ_=>0)+x.k;rw[jS,Int.add_zero];exact x.val c
 |w i=>show Jx d i=eQ c (λ_=>0)+fa d (λj=>if i=j then 1 else 0)+0;rw[jR,Gb,ip,Int.add_zero]
 |n k=>show k=eQ c (λ_=>0)+fa d (λ_=>0)+k;rw[jR,jS,ip,ip]
 |a x y h1 h2=>show x.den c d+y.den c d=eQ c (λi=>x.co i+y.co i)+fa d (λi=>x.ci i+y.ci i)+(x.k+y.k);rw[rN,vp,h1,h2];omega
 |s x y h1 h2=>show x.den c d-y.den c d=eQ c (λi=>x.co i-y.co i)+fa d (λi=>x.ci i-y.ci i)+(x.k-y.k);rw[vt,zW,h1,h2];omega
 |g x h=>show-x.den c d=eQ c (λi=> -x.co i)+fa d (λi=> -x.ci i)+ -x.k;rw[vq,vr,h];omega
 |m k x h=>show k*x.den c d=eQ c (λi=>k*x.co i)+fa d (λi=>k*x.ci i)+k*x.k;rw[nV,rO,h,je,je]
theorem LX.rJ(c:List Nat)(d:List Int)(x y:LX)(j:Int):(x.df y j).val c d=(y.den c:Int)-x.den c-j:=by
 show eQ c (λi=>y.co i-x.co i)+fa d (λ_=>0)+(y.k-x.k-j)=_;rw[vt,jS,x.val,y.val];omega
theorem IX.rJ(c:List Nat)(d:List Int)(x y:IX)(j:Int):(x.df y j).val c d=y.den c d-x.den c d-j:=by
 show eQ c (λi=>y.co i-x.co i)+fa d (λi=>y.ci i-x.ci i)+(y.k-x.k-j)=_;rw[vt,zW,x.val,y.val];omega
theorem Df.neg_val(c:List Nat)(d:List Int)(p:Df):p.neg.val c d= -p.val c d-1:=by
 show eQ c (λi=> -p.f i)+fa d (λi=> -p.g i)+(-p.k-1)= -(eQ c p.f+fa d p.g+p.k)-1;rw[vq,vr];omega
theorem LC.iff(c:List Nat)(d:List Int)(e:LC):(e.kd=1->(e.den c d↔0<=e.df.val c d))/\(e.kd=2->(e.den c d↔e.df.val c d=0)):=by
 induction e with
 |le x y=>refine⟨λ_=> ?_,(nomatch·)⟩;show x.den c<=y.den c↔0<=(x.df y 0).val c d;rw[LX.rJ];omega
 |lt x y=>refine⟨λ_=> ?_,(nomatch·)⟩;show x.den c<y.den c↔0<=(x.df y 1).val c d;rw[LX.rJ];omega
 |eq x y=>refine⟨(nomatch·),λ_=> ?_⟩;show x.den c=y.den c↔(x.df y 0).val c d=0;rw[LX.rJ];omega
 |BX x y=>refine⟨λ_=> ?_,(nomatch·)⟩;show x.den c d<=y.den c d↔0<=(x.df y 0).val c d;rw[IX.rJ];omega
 |BO x y=>refine⟨λ_=> ?_,(nomatch·)⟩;show x.den c d<y.den c d↔0<=(x.df y 1).val c d;rw[IX.rJ];omega
 |Ua x y=>refine⟨(nomatch·),λ_=> ?_⟩;show x.den c d=y.den c d↔(x.df y 0).val c d=0;rw[IX.rJ];omega
 |ff=>
  refine⟨λ_=>⟨λh=>h.elim,λh=> ?_⟩,(nomatch·)⟩
  have:Df.val c d ⟨λ_=>0,λ_=>0,-1⟩= -1:=by
   show eQ c (λ_=>0)+fa d (λ_=>0)+ -1= -1
   rw[jR,jS];rfl
  change 0<=Df.val c d ⟨λ_=>0,λ_=>0,-1⟩at h
  omega
 |no x ih=>
  constructor
  ·intro h
   have hk:x.kd=1:=by
    change (if x.kd=1 then 1 else 0)=1 at h
    by_cases q:x.kd=1
    ·exact q
    ·rw[if_neg q]at h;cases h
   show¬x.den c d↔0<=x.df.neg.val c d
   rw[ih.1 hk,Df.neg_val];omega
  ·intro h
   change (if x.kd=1 then 1 else 0)=2 at h
   split at h<;>cases h
noncomputable section
noncomputable def Gc(x:Int):Bool:=Int.rec (λ_=>true) (λ_=>false) x
noncomputable def chain(c:List Nat)(d:List Int)(g:Prop)(hs:List LC):Prop:=List.rec g (λe _ p=>e.den c d->p) hs
noncomputable def uV(hs:List LC):List Int->Df:=List.rec (λ_=>⟨λ_=>0,λ_=>0,0⟩) (λe _ ih ls=>List.rec ⟨λ_=>0,λ_=>0,0⟩ (λl r _=>⟨λi=>l*e.df.f i+(ih r).f i,λi=>l*e.df.g i+(ih r).g i,l*e.df.k+(ih r).k⟩) ls) hs
noncomputable def Gd(hs:List LC):List Int->Bool:=List.rec (λ_=>true) (λe _ ih ls=>List.rec true (λl r _=>Nat.rec false (λk _=>Nat.rec (Gc l) (λ_ _=>true) k) e.kd&&ih r) ls) hs
noncomputable def upTo(n:Nat)(p:Nat->Bool):Bool:=Nat.rec true (λi b=>p i&&b) n
noncomputable def Ub(c:List Nat)(d:List Int)(p:Df)(m:Nat)(q:Df):Bool:=
 upTo c.length (λi=>Gc ((m+1)*q.f i-p.f i))&&(upTo d.length (λi=>decide (p.g i=(m+1)*q.g i))&&Gc ((m+1)*q.k+m-p.k))
end
theorem yT{x:Int}(h:Gc x=true):0<=x:=by
 cases x with
 |ofNat n=>exact aF n
 |negSucc n=>cases h
theorem Du{n:Nat}{p:Nat->Bool}(h:upTo n p=true):∀i,i<n->p i=true:=by
 induction n with
 |zero=>intro i hi;exact absurd hi (j0 i)
 |succ n ih=>
  intro i hi
  have h2:=(an.mp (show(p n&&upTo n p)=true from h))
  rcases Nat.lt_succ_iff_lt_or_eq.mp hi with q|q
  ·exact ih h2.2 i q
  ·rw[q];exact h2.1
theorem Nb{c:List Nat}{d:List Int}{p q:Df}{m:Nat}(h:Ub c d p m q=true)(hp:0<=p.val c d):0<=q.val c d:=by
 have h1:=an.mp h
 have h2:=an.mp h1.2
 have e1:eQ c p.f<=(m+1)*eQ c q.f:=by
  rw[<-nV];refine Jy c λi hi=> ?_
  have:=yT (Du h1.1 i hi);omega
 have e2:fa d p.g=(m+1)*fa d q.g:=by
  rw[<-rO];exact Jz d λi hi=>of_decide_eq_true (Du h2.1 i hi)
 have e3:=yT h2.2
 have e4:(0:Int)<=(m+1)*q.val c d+m:=by
  show(0:Int)<=(m+1)*(eQ c q.f+fa d q.g+q.k)+m
  rw[je,je]
  change (0:Int)<=eQ c p.f+fa d p.g+p.k at hp
  omega
 refine eX.mp λhn=> ?_
 have:((m:Int)+1)*q.val c d<=(m+1)*(-1):=Int.mul_le_mul_of_nonneg_left (by omega) (by omega)
 omega
theorem JA{c:List Nat}{d:List Int}{g:Prop}:∀(hs:List LC) (ls:List Int),Gd hs ls=true->(0<=(uV hs ls).val c d->g)->chain c d g hs:=by
 have z:Df.val c d ⟨λ_=>0,λ_=>0,0⟩=0:=by
  show eQ c (λ_=>0)+fa d (λ_=>0)+0=0
  rw[jR,jS];rfl
 have w:∀(hs:List LC),g->chain c d g hs:=λhs h=>by
  induction hs with
  |nil=>exact h
  |cons e r ih=>exactλ_=>ih
 have key:∀(hs:List LC) (ls:List Int) (a:Int),Gd hs ls=true->(0<=a->0<=a)->(0<=a+(uV hs ls).val c d->g)->0<=a->chain c d g hs:=by
  intro hs
  induction hs with
  |nil=>intro ls a _ _ h ha;refine h ?_;show 0<=a+Df.val c d ⟨λ_=>0,λ_=>0,0⟩;rw[z];omega
  |cons e r ih=>
   intro ls a ho _ h ha he
   cases ls with
   |nil=>refine w r (h ?_);show 0<=a+Df.val c d ⟨λ_=>0,λ_=>0,0⟩;rw[z];omega
   |cons l t=>
    have h2:=an.mp (show(Nat.rec false (λk _=>Nat.rec (Gc l) (λ_ _=>true) k) e.kd&&Gd r t)=true from ho)
    have hv:(uV (e::r) (l::t)).val c d=l*e.df.val c d+(uV r t).val c d:=by
     show eQ c (λi=>l*e.df.f i+(uV r t).f i)+fa d (λi=>l*e.df.g i+(uV r t).g i)+(l*e.df.k+(uV r t).k)=l*(eQ c e.df.f+fa d e.df.g+e.df.k)+(eQ c (uV r t).f+fa d (uV r t).g+(uV r t).k)
     rw[rN,vp,nV,rO,je,je];omega
    have hx:0<=l*e.df.val c d:=by
     have i:=LC.iff c d e
     match hk:e.kd,h2.1 with
     |1,hl=>exact Int.mul_nonneg (yT hl) ((i.1 hk).mp he)
     |k+2,_=>
      have:e.kd=2:=by
       clear h2 hv ih h ho i he
       induction e with
       |no x=>change (if x.kd=1 then 1 else 0)=k+2 at hk;split at hk<;>cases hk
       |eq=>rfl
       |Ua=>rfl
       |_=>cases hk
      rw[(i.2 this).mp he,Int.mul_zero];exact Int.le_refl 0
    refine ih t (a+l*e.df.val c d) h2.2 id (λq=>h ?_) (Int.add_nonneg ha hx)
    rw[hv,<-Int.add_assoc];exact q
 intro hs ls ho h
 exact key hs ls 0 ho id (λq=>h (by rwa[ip]at q)) (Int.le_refl 0)
theorem LV{c:List Nat}{d:List Int}(m:Nat)(hs:List LC)(g:LC)(ls:List Int)(h:(Gd hs ls&&(Nat.rec false (λk _=>Nat.rec true (λ_ _=>false) k) g.kd&&Ub c d (uV hs ls) m g.df))=true):chain c d (g.den c d) hs:=by
 have h1:=an.mp h
 have h2:=an.mp h1.2
 refine JA hs ls h1.1 λq=>((LC.iff c d g).1 ?_).mpr (Nb h2.2 q)
 match hk:g.kd,h2.1 with
 |1,_=>rfl
theorem aab(a b:Nat):a<=a-b+b:=by omega
theorem subB(a b:Nat):a-b<=a:=Nat.sub_le a b
theorem xu{a b:Nat}(h:b<=a):a-b+b=a:=ky h
section
variable{a b c d e f:Nat}(hs:List LC)(g:LC)(ls:List Int)
noncomputable abbrev O5(k:Nat)(hs:List LC)(g:LC)(ls:List Int):Prop:=(Gd hs ls&&(Nat.rec false (λk _=>Nat.rec true (λ_ _=>false) k) g.kd&&Ub (List.replicate k 0) [] (uV hs ls) 0 g.df))=true
theorem rf(h:O5 1 hs g ls):chain [a] [] (g.den [a] []) hs:=LV 0 hs g ls h
theorem mq(h:O5 2 hs g ls):chain [a,b] [] (g.den [a,b] []) hs:=LV 0 hs g ls h
theorem nW(h:O5 3 hs g ls):chain [a,b,c] [] (g.den [a,b,c] []) hs:=LV 0 hs g ls h
theorem Ge(h:O5 4 hs g ls):chain [a,b,c,d] [] (g.den [a,b,c,d] []) hs:=LV 0 hs g ls h
theorem O6(h:O5 5 hs g ls):chain [a,b,c,d,e] [] (g.den [a,b,c,d,e] []) hs:=LV 0 hs g ls h
theorem lq6(h:O5 6 hs g ls):chain [a,b,c,d,e,f] [] (g.den [a,b,c,d,e,f] []) hs:=LV 0 hs g ls h
end
theorem gf{a b:Bool}(h:(a&&b)=true):a=true:=(an.mp h).1
theorem nX{a b:Bool}(h:(a&&b)=true):b=true:=(an.mp h).2
theorem Tf{b:Bool}:(!b)=true->b=false:=Bool.casesOn b (λ_=>rfl) λh=>h.symm
inductive PV where
 |none
 |bool (b:Bool)
 |int (i:Int)
 |str (s:Str)
 |tup (xs:List PV)
 |tabI (kvs:List (Int×Int))
 |dY (kvs:List (List Int×Int))
 |xS (a b c:Int)
 |loc (a:Addr)
 |val (v:Value)
noncomputable abbrev Zf:=Addr->Option Obj
noncomputable def fP(Z Z':Zf):Prop:=∀b o,Z b=some o->Z' b=some o
theorem fP.refl(Z:Zf):fP Z Z:=λ_ _ e=>e
theorem fP.trans{a b c:Zf}(x:fP a b)(y:fP b c):fP a c:=λ_ _ e=>y _ _ (x _ _ e)
noncomputable def LW(Z:Zf)(h:Heap):Prop:=∀b o,Z b=some o->h.get? b=some o
noncomputable def Zf.put(Z:Zf)(a:Addr)(o:Obj):Zf:=λb=>if b=a then some o else Z b
theorem Zf.ia(Z:Zf)(a:Addr)(o:Obj):Z.put a o a=some o:=by simp[Zf.put]
theorem Zf.zQ{Z:Zf}{a:Addr}(o:Obj)(h:Z a=none):fP Z (Z.put a o):=λb x e=>by
 unfold Zf.put
 by_cases q:b=a
 ·subst q;rw[h]at e;cases e
 ·rw[if_neg q];exact e
noncomputable def vu(Z:Zf)(a:Addr)(vs:List Value):Prop:=∃n,Z a=some {cls:= .type "tuple",dict:=none,data:= .seq vs.toArray n,slots:=#[]}
theorem vu.mono{Z Z':Zf}(k:fP Z Z'){a:Addr}{vs:List Value}(x:vu Z a vs):vu Z' a vs:=let⟨n,e⟩:=x;⟨n,k _ _ e⟩
theorem vu.tj{Z:Zf}{h:Heap}(k:LW Z h){a:Addr}{vs:List Value}(x:vu Z a vs):h.IsTuple a vs.toArray:=let⟨n,e⟩:=x;⟨_,k _ _ e,rfl,n,rfl⟩
noncomputable def vw(ns:List Int)(vs:List Value):Prop:=vs.length=ns.length/\∀(j:Nat) (i:Int),ns[j]?=some i->∃t,vs[j]?=some (Value.int i t)
inductive gX(kvs:List (Int×Int))(o:Obj):Prop
 |mk (es:Array DictEntry) (ep:Nat) (x:o.ExactDict) (d:o.data=.dict es ep) (n:(kvs.map (·.1)).Nodup) (s:es.size=kvs.length)
  (e:∀(j:Nat) (k v:Int),kvs[j]?=some (k,v)->∃t u,es[j]?=some ⟨hashInt k,.int k t,.int v u⟩)
noncomputable def u4(ks:List Int):Int:=reduceHash (Builtin.Tuple.tupleHashOf (ks.map hashInt))
inductive e5(Z:Zf)(kvs:List (List Int×Int))(o:Obj):Prop
 |mk (es:Array DictEntry) (ep:Nat) (x:o.ExactDict) (d:o.data=.dict es ep) (n:(kvs.map (·.1)).Nodup) (s:es.size=kvs.length)
  (e:∀(j:Nat) (k:List Int) (v:Int),kvs[j]?=some (k,v)->∃a vs u,vu Z a vs/\vw k vs/\es[j]?=some ⟨u4 k,.ref a,.int v u⟩)
theorem e5.mono{Z Z':Zf}(l:fP Z Z'){kvs:List (List Int×Int)}{o:Obj}(x:e5 Z kvs o):e5 Z' kvs o:=
 x.casesOn λes ep a b c d e=>⟨es,ep,a,b,c,d,λj k v q=>(e j k v q).elim λa e=>e.elim λvs e=>e.elim λu e=>⟨a,vs,u,e.1.mono l,e.2⟩⟩
mutual
noncomputable def gg(Z:Zf):PV->Value->Prop
 |.none,v=>v=.none
 |.bool b,v=>v=.bool b
 |.int i,v=>∃t,v=.int i t
 |.str s,v=>∃t,v=.str s t
 |.loc a,v=>v=.ref a
 |.val x,v=>v=x
 |.tabI kvs,v=>∃a o,v=.ref a/\Z a=some o/\gX kvs o
 |.dY kvs,v=>∃a o,v=.ref a/\Z a=some o/\e5 Z kvs o
 |.xS x y z,v=>∃a t u q,v=.ref a/\Z a=some {cls:= .type "range",dict:=none,data:= .fields #[.int x t,.int y u,.int z q],slots:=#[]}
 |.tup xs,v=>∃a vs,v=.ref a/\vu Z a vs/\cO Z xs vs
noncomputable def cO(Z:Zf):List PV->List Value->Prop
 |[],vs=>vs=[]
 |x::xs,vs=>∃v Gf,vs=v::Gf/\gg Z x v/\cO Z xs Gf
end
theorem gg.mono{Z Z':Zf}(k:fP Z Z'){x:PV}:∀{v:Value},gg Z x v->gg Z' x v:=
 PV.rec (motive_1:=λx=>∀{v:Value},gg Z x v->gg Z' x v) (motive_2:=λxs=>∀{vs:List Value},cO Z xs vs->cO Z' xs vs) (λr=>r) (λ_ {_} r=>r) (λ_ {_} r=>r) (λ_ {_} r=>r)
  (λxs ih {_} r=>r.elim λa r=>r.elim λvs r=>⟨a,vs,r.1,r.2.1.mono k,ih r.2.2⟩)
  (λkvs {_} r=>r.elim λa r=>r.elim λo r=>⟨a,o,r.1,k _ _ r.2.1,r.2.2⟩) (λkvs {_} r=>r.elim λa r=>r.elim λo r=>⟨a,o,r.1,k _ _ r.2.1,r.2.2.mono k⟩)
  (λ_ _ _ {_} r=>r.elim λa r=>r.elim λt r=>r.elim λu r=>r.elim λq r=>⟨a,t,u,q,r.1,k _ _ r.2⟩) (λ_ {_} r=>r) (λ_ {_} r=>r)
  (λr=>r) (λx xs h1 h2 {_} r=>r.elim λv r=>r.elim λvs r=>⟨v,vs,r.1,h1 r.2.1,h2 r.2.2⟩) x
section
variable{h:Zf}{x:PV}{v:Value}{xs:List PV}
theorem cO.nil:cO h [] []:=show([]:List Value)=[]from rfl
theorem cO.cons{vs:List Value}(r:gg h x v)(q:cO h xs vs):cO h (x::xs) (v::vs):=⟨v,vs,rfl,r,q⟩
theorem cO.one(r:gg h x v):cO h [x] [v]:= .cons r .nil
theorem cO.inv{vs:List Value}{P:List Value->Prop}(r:cO h (x::xs) vs)(k:∀v vs,gg h x v->cO h xs vs->P (v::vs)):P vs:=Exists.elim r λv r=>Exists.elim r λGf r=>r.1▸k v Gf r.2.1 r.2.2
theorem cO.I6{vs:List Value}{P:List Value->Prop}(r:cO h [] vs)(k:P []):P vs:=(show vs=[]from r)▸k
theorem cO.mono{Z Z':Zf}(k:fP Z Z'):∀{vs:List Value},cO Z xs vs->cO Z' xs vs:=by
 induction xs with
 |nil=>exactλ{_} r=>r
 |cons x xs ih=>
  exactλ{vs} r=>r.inv λv vs a b=> .cons (a.mono k) (ih b)
theorem cO.length:∀{vs:List Value},cO h xs vs->vs.length=xs.length:=by
 induction xs with
 |nil=>exactλ{_} r=>r.I6 (P:=λvs=>vs.length=0) rfl
 |cons x xs ih=>
  exactλ{vs} r=>r.inv (P:=λvs=>vs.length=xs.length+1) λv vs _ b=>congrArg (·+1) (ih b)
theorem cO.get:∀{vs:List Value},cO h xs vs->∀{i:Nat} {x:PV},xs[i]?=some x->∃v,vs[i]?=some v/\gg h x v:=by
 induction xs with
 |nil=>exactλ{vs} _ {i x} e=>nomatch e
 |cons y ys ih=>
  exactλ{vs} r {i x}=>r.inv (P:=λvs=>(y::ys)[i]?=some x->∃v,vs[i]?=some v/\gg h x v) λv vs a b e=>by
   cases i with
   |zero=>exact⟨v,rfl,ax e▸a⟩
   |succ n=>exact ih b e
theorem cO.append{ys:List PV}{us:List Value}:∀{vs:List Value},cO h xs vs->cO h ys us->cO h (xs++ys) (vs++us):=by
 induction xs with
 |nil=>exactλ{_} r b=>r.I6 (P:=λvs=>cO h ys (vs++us)) b
 |cons x xs ih=>exactλ{_} r b=>r.inv (P:=λvs=>cO h (x::xs++ys) (vs++us)) λv vs a q=> .cons a (ih q b)
theorem cO.set(q:gg h x v):∀{vs:List Value},cO h xs vs->∀{i:Nat},cO h (xs.set i x) (vs.set i v):=by
 induction xs with
 |nil=>exactλ{_} r {i}=>r.I6 (P:=λvs=>cO h ([].set i x) (vs.set i v)) .nil
 |cons y ys ih=>
  exactλ{vs} r {i}=>r.inv (P:=λvs=>cO h ((y::ys).set i x) (vs.set i v)) λu vs a b=>by
   cases i with
   |zero=>exact .cons q b
   |succ n=>exact .cons a (ih b)
theorem cO.take:∀{vs:List Value},cO h xs vs->∀n,cO h (xs.take n) (vs.take n):=by
 induction xs with
 |nil=>exactλ{_} r n=>r.I6 (P:=λvs=>cO h ([].take n) (vs.take n)) (by rw[List.take_nil,List.take_nil];exact .nil)
 |cons y ys ih=>
  exactλ{vs} r n=>r.inv (P:=λvs=>cO h ((y::ys).take n) (vs.take n)) λu vs a b=>by
   cases n with
   |zero=>exact .nil
   |succ n=>exact .cons a (ih b n)
theorem cO.drop:∀{vs:List Value},cO h xs vs->∀n,cO h (xs.drop n) (vs.drop n):=by
 induction xs with
 |nil=>exactλ{_} r n=>r.I6 (P:=λvs=>cO h ([].drop n) (vs.drop n)) (by rw[List.drop_nil,List.drop_nil];exact .nil)
 |cons y ys ih=>
  exactλ{vs} r n=>r.inv (P:=λvs=>cO h ((y::ys).drop n) (vs.drop n)) λu vs a b=>by
   cases n with
   |zero=>exact .cons a b
   |succ n=>exact ih b n
end
inductive dx where
 |list (xs:List PV)
 |ca (kvs:List (Str×PV))
 |mX (kvs:List (Int×Int))
 |hY (kvs:List (List Int×Int))
 |inst (c d:Addr)
 |exc (c t:Addr) (new:Bool)
 |var (v:Option PV)
 |rev (l:Addr) (n:Nat)
 |ns (x:Str) (v:PV)
noncomputable abbrev St:=Addr->Option dx
noncomputable def St.upd(σ:St)(a:Addr)(c:dx):St:=λb=>if b=a then some c else σ b
noncomputable def St.del(σ:St)(a:Addr):St:=λb=>if b=a then none else σ b
theorem St.bz(σ:St)(a:Addr)(c:dx):σ.upd a c a=some c:=by simp[St.upd]
theorem St.bu(σ:St){a b:Addr}(c:dx)(h:b≠a):σ.upd a c b=σ b:=by simp[St.upd,h]
theorem St.mj{σ:St}{a b:Addr}{c:dx}(h:σ.del a b=some c):b≠a/\σ b=some c:=by
 unfold St.del at h
 split at h
 ·cases h
 ·rename_i q;exact⟨q,h⟩
structure Ctx where
 prog:Program
 w:World
 B:Heap
 mg:Str->Option Value
 mb:Str->Option Value
 lf:Addr
 gens:Array GenState
 os:OsState
noncomputable abbrev Ctx.M(C:Ctx):Model:=model C.prog C.w
noncomputable abbrev iK(C:Ctx):KeyKind C.prog C.w Int:=intKind C.prog C.w
noncomputable abbrev sK(C:Ctx):KeyKind C.prog C.w Str:=strKind C.prog C.w
noncomputable abbrev tK(C:Ctx):HeapKind C.prog C.w (List Int):=tupleKind (intKind C.prog C.w)
noncomputable def eM{K V:Type}(P:V->Value->Prop):List (K×V)->List (K×Value)->Prop
 |[],ws=>ws=[]
 |(k,v)::r,ws=>∃u qa,ws=(k,u)::qa/\P v u/\eM P r qa
theorem eM.mono{K V:Type}{P P':V->Value->Prop}(h:∀v u,P v u->P' v u){kvs:List (K×V)}:∀{ws:List (K×Value)},eM P kvs ws->eM P' kvs ws:=by
 induction kvs with
 |nil=>exactλ{_} r=>r
 |cons p kvs ih=>
  exactλ{vs} r=>Exists.elim r λu r=>r.elim λqa r=>⟨u,qa,r.1,h _ _ r.2.1,ih r.2.2⟩
noncomputable def KD{prog:Program}{w:World}{K:Type}[DecidableEq K](knd:KeyKind prog w K)(o:Obj)(ws:List (K×Value)):Prop:=
 ∃es ep,o.ExactDict/\o.data=.dict es ep/\KeysOf knd es/\Pairs knd es.toList ws/\(ws.map (·.1)).Nodup
theorem KD.dictOf{prog:Program}{w:World}{K:Type}[DecidableEq K]{knd:KeyKind prog w K}{o:Obj}{ws:List (K×Value)}{h:Heap}{d:Addr}(x:KD knd o ws)(ho:h.get? d=some o):h.DictOf knd d ws:=
 Exists.elim x λes x=>x.elim λep r=>⟨o,es,ep,ho,r⟩
theorem KD.of{prog:Program}{w:World}{K:Type}[DecidableEq K]{knd:KeyKind prog w K}{ws:List (K×Value)}{h:Heap}{d:Addr}(x:h.DictOf knd d ws):∃o,h.get? d=some o/\KD knd o ws:=
 Exists.elim x λo x=>x.elim λes x=>x.elim λep r=>⟨o,r.1,es,ep,r.2⟩
noncomputable def n7(C:Ctx)(Z:Zf)(kvs:List (Str×PV))(o:Obj):Prop:=∃ws,eM (gg Z) kvs ws/\KD (sK C) o ws
theorem n7.mono{C:Ctx}{Z Z':Zf}(l:fP Z Z'){kvs:List (Str×PV)}{o:Obj}(x:n7 C Z kvs o):n7 C Z' kvs o:=
 Exists.elim x λws r=>⟨ws,r.1.mono λ_ _ q=>q.mono l,r.2⟩
noncomputable def PC(Z:Zf)(x:Str)(pv:PV)(o:Obj):Prop:=∃(m:Str->Option Value) (es:Array DictEntry) (ep:Nat),o.data=.dict es ep/\StrKeys es/\(∀name,nsFind es name=m name)/\∃v,m x=some v/\gg Z pv v
noncomputable def mr(C:Ctx)(Z:Zf)(c:dx)(o:Obj):Prop:=match c with
 |.list xs=>∃vs n,o={cls:= .type "list",data:= .seq vs.toArray n}/\cO Z xs vs
 |.ca kvs=>n7 C Z kvs o
 |.mX kvs=>gX kvs o
 |.hY kvs=>e5 Z kvs o
 |.inst c d=>o={cls:= .ref c,dict:=some d,data:= .plain}
 |.var none=>o.data=.cell none
 |.var (some pv)=>∃v,o.data=.cell (some v)/\gg Z pv v
 |.rev l n=>o={cls:= .type "list_reverseiterator",data:= .fields #[.ref l,rawInt ((n:Int)-1)]}
 |.ns x pv=>PC Z x pv o
 |.exc c t new=>∃d,(new=true->d=none)/\o={cls:= .ref c,dict:=d,data:= .fields #[.ref t,.none,.none,.none,.bool false,.none]}
theorem mr.mono{C:Ctx}{Z Z':Zf}(l:fP Z Z'){c:dx}{o:Obj}(x:mr C Z c o):mr C Z' c o:=by
 cases c with
 |list xs=>obtain⟨vs,n,e,r⟩:=x;exact⟨vs,n,e,r.mono l⟩
 |ca kvs=>exact n7.mono l x
 |mX kvs=>exact x
 |hY kvs=>exact e5.mono l x
 |inst c d=>exact x
 |exc c t new=>exact x
 |var pv=>cases pv with
  |none=>exact x
  |some pv=>obtain⟨v,e,r⟩:=x;exact⟨v,e,r.mono l⟩
 |rev l n=>exact x
 |ns x' pv=>obtain⟨m,es,ep,a,b,d,v,e,r⟩:=x;exact⟨m,es,ep,a,b,d,v,e,r.mono l⟩
noncomputable def Gg(o:Obj):Prop:=∀vs,o.data≠ .fields vs
structure Fm where
 qual:Str
 scope:Scope
 f:Option Addr
 cd:Value
 names:List Str
 L:Addr
 outer:List Env
 A:Around
 lvl:Nat
 cl:List (Str×Addr)
 fL:Option Addr
 xT:List Env
 loc:Addr
 vn:List Str
 cv:List (Addr×Addr×Nat):=[]
noncomputable abbrev Fm.env(fr:Fm):Env:={scope:=fr.scope,locals:=fr.loc,globals:=mainGlobals,cells:=fr.cl,qual:=fr.qual,func:=fr.f,code:=fr.cd,frame:=fr.fL,builtins:=builtinsNs}
structure ir(fr:Fm):Prop where
 xT:fr.xT=fr.env::fr.outer
 fL:fr.fL=some fr.L
noncomputable def ms(A:Around)(n:Nat):Prop:=A.depth+n<900/\A.units+16*n<9000
noncomputable abbrev b9:=List (Option PV)
noncomputable def mu(Z:Zf)(names:List Str)(ρ:b9)(m:Str->Option Value):Prop:=
 ∀(i:Nat) (x:Str) (pv:PV),names[i]?=some x->ρ[i]?=some (some pv)->∃v,m x=some v/\gg Z pv v
theorem mu.mono{Z Z':Zf}(k:fP Z Z'){names:List Str}{ρ:b9}{m:Str->Option Value}(r:mu Z names ρ m):mu Z' names ρ m:=
 λi x pv a b=>let⟨v,e,q⟩:=r i x pv a b;⟨v,e,q.mono k⟩
structure aI(C:Ctx)(fr:Fm):Prop where
 kind:fr.scope.kind=.function
 frames:fr.A.frames=some fr.xT
 top:∃e,fr.xT=e::fr.outer/\e.scope.kind≠ .module/\e.frame=some fr.L
 handled:fr.A.handled=none
 room:ms fr.A fr.lvl
 nodup:fr.names.Nodup
 vn:fr.vn=[]\/fr.vn=fr.names/\fr.loc=fr.L
 locs:∀x∈fr.vn,fr.env.kindOf x=some .local
 Tg:∀x∈fr.names,(x==("__debug__":Str))=false
theorem aI.EP{C:Ctx}{fr:Fm}(F:aI C fr){i:Nat}{x:Str}(h:fr.vn[i]?=some x):fr.names[i]?=some x/\fr.loc=fr.L/\fr.env.kindOf x=some .local/\(x==("__debug__":Str))=false:=by
 rcases F.vn with e|⟨e,q⟩
 ·rw[e]at h;cases h
 ·exact⟨e▸h,q,F.locs x (aD h),F.Tg x (e▸aD h)⟩
noncomputable def t9(C:Ctx)(Y:Zf)(outer:List Env):Prop:=∀e∈outer,e.scope.kind≠ .module/\∃L o,e.frame=some L/\C.B.get? L=none/\Y L=some o/\Gg o
theorem t9.mono{C:Ctx}{Y Y':Zf}{outer:List Env}(k:fP Y Y')(x:t9 C Y outer):t9 C Y' outer:=
 λe he=>let⟨a,L,o,b,c,d,n⟩:=x e he;⟨a,L,o,b,c,k _ _ d,n⟩
theorem t9.frames{C:Ctx}{Y:Zf}{h:Heap}(k:LW Y h):∀{outer:List Env},t9 C Y outer->h.FunFrames C.B outer
 |[],_=>trivial
 |e::r,x=>let⟨a,L,o,b,c,d,n⟩:=x e (.head _);⟨a,⟨L,o,b,c,k _ _ d,n⟩,t9.frames k λe' he=>x e' (.tail _ he)⟩
noncomputable def lG(o:Obj):Prop:=o.cls=.type "tuple"\/o.cls=.type "dict"\/o.cls=.type "range"
structure Ok(C:Ctx)(fr:Fm)(Y Z:Zf)(ρ:b9)(σ:St)(s:Shared):Prop where
 base:C.B.StaysIn s.heap
 keep:LW Y s.heap
 vals:LW Z s.heap
 yl:Y fr.L=none
 zl:Z fr.L=none
 bl:C.B.get? fr.L=none
 loc:∃m,s.heap.Ns fr.L m/\mu Z fr.names ρ m
 jq:∀a c,σ a=some c->∃o,s.heap.get? a=some o/\mr C Z c o
 own:∀a c,σ a=some c->C.B.get? a=none/\Y a=none/\Z a=none/\a≠fr.L
 bh:t9 C Y fr.outer
 rest:s.gens=C.gens/\s.os=C.os
 zn:∀b o,Z b=some o->lG o/\C.B.get? b=none
 fz:∀e∈fr.outer,∀L,e.frame=some L->Z L=none
section
variable{C:Ctx}{fr:Fm}{Y Z:Zf}{ρ:b9}{σ:St}{s:Shared}{h':Heap}{t':Nat}
theorem Ok.keeps(ok:Ok C fr Y Z ρ σ s)(k:∀b o,s.heap.get? b=some o->h'.get? b=some o):Ok C fr Y Z ρ σ {s with heap:=h',toks:=t'}:=by
 obtain⟨m,hn,hl⟩:=ok.loc
 exact⟨λb o e=>k b o (ok.base b o e),λb o e=>k b o (ok.keep b o e),λb o e=>k b o (ok.vals b o e),ok.yl,ok.zl,ok.bl,⟨m,hn.keeps k,hl⟩,
  λa c e=>let⟨o,ho,r⟩:=ok.jq a c e;⟨o,k _ _ ho,r⟩,ok.own,ok.bh,ok.rest,ok.zn,ok.fz⟩
theorem Ok.toks(ok:Ok C fr Y Z ρ σ s):Ok C fr Y Z ρ σ {s with toks:=t'}:=ok.keeps (h':=s.heap) λ_ _ e=>e
theorem Ok.push(ok:Ok C fr Y Z ρ σ s)(o:Obj):Ok C fr Y Z ρ σ {s with heap:=s.heap.push o,toks:=t'}:=ok.keeps λ_ _ e=>aG _ e
theorem Ok.none_of(ok:Ok C fr Y Z ρ σ s){a:Addr}(ha:s.heap.get? a=none):C.B.get? a=none/\Y a=none/\Z a=none/\a≠fr.L/\σ a=none:=by
 refine⟨?_,?_,?_,?_,?_⟩
 ·cases q:C.B.get? a with
  |none=>rfl
  |some o=>rw[ok.base a o q]at ha;cases ha
 ·cases q:Y a with
  |none=>rfl
  |some o=>rw[ok.keep a o q]at ha;cases ha
 ·cases q:Z a with
  |none=>rfl
  |some o=>rw[ok.vals a o q]at ha;cases ha
 ·rintro rfl
  obtain⟨m,⟨o,_,_,ho,_⟩,_⟩:=ok.loc
  rw[ho]at ha;cases ha
 ·cases q:σ a with
  |none=>rfl
  |some c=>obtain⟨o,ho,_⟩:=ok.jq a c q;rw[ho]at ha;cases ha
theorem Ok.S7(ok:Ok C fr Y Z ρ σ s){a:Addr}{o:Obj}(ho:s.heap.get? a=some o)(hL:a≠fr.L)(BY:σ a=none)(hz:Z a=none)(hc:lG o)(hb:C.B.get? a=none)(hf:∀e∈fr.outer,e.frame≠some a):Ok C fr Y (Z.put a o) ρ σ s:=by
 have le:=Zf.zQ o hz
 obtain⟨m,hn,hl⟩:=ok.loc
 refine⟨ok.base,ok.keep,λb x e=> ?_,ok.yl,?_,ok.bl,⟨m,hn,hl.mono le⟩,λb c e=> ?_,λb c e=> ?_,ok.bh,ok.rest,λb x e=> ?_,λe he L' hq=> ?_⟩
 ·unfold Zf.put at e;split at e
  ·rename_i q;subst q;cases e;exact ho
  ·exact ok.vals b x e
 ·unfold Zf.put;rw[if_neg (Ne.symm hL)];exact ok.zl
 ·obtain⟨x,hx,r⟩:=ok.jq b c e;exact⟨x,hx,r.mono le⟩
 ·obtain⟨n1,n2,n3,n4⟩:=ok.own b c e
  refine⟨n1,n2,?_,n4⟩
  unfold Zf.put;rw[if_neg (λq=>by subst q;rw[BY]at e;cases e)];exact n3
 ·unfold Zf.put at e;split at e
  ·rename_i q;subst q;cases e;exact⟨hc,hb⟩
  ·exact ok.zn b x e
 ·have ne:L'≠a:=by intro q;rw[q]at hq;exact hf e he hq
  unfold Zf.put;rw[if_neg ne];exact ok.fz e he L' hq
theorem Ok.LM(ok:Ok C fr Y Z ρ σ s){a:Addr}{o:Obj}(ha:s.heap.get? a=none)(k:∀b x,s.heap.get? b=some x->h'.get? b=some x)(ho:h'.get? a=some o)(hc:lG o):
 Ok C fr Y (Z.put a o) ρ σ {s with heap:=h',toks:=t'}/\fP Z (Z.put a o):=by
 obtain⟨n1,_,n3,n4,n5⟩:=ok.none_of ha
 exact⟨(ok.keeps k).S7 ho n4 n5 n3 hc n1 (λe he hL=>by
  obtain⟨_,L,o',JB,_,hy,_⟩:=ok.bh e he
  rw[hL]at JB;cases JB
  rw[ok.keep _ _ hy]at ha;cases ha),Zf.zQ o n3⟩
theorem Ok.alloc(ok:Ok C fr Y Z ρ σ s){a:Addr}{c:dx}{o:Obj}(ha:s.heap.get? a=none)(k:∀b x,s.heap.get? b=some x->h'.get? b=some x)(ho:h'.get? a=some o)(hc:mr C Z c o):
 Ok C fr Y Z ρ (σ.upd a c) {s with heap:=h',toks:=t'}:=by
 obtain⟨n1,n2,n3,n4,n5⟩:=ok.none_of ha
 have o2:=ok.keeps (t':=t') k
 refine⟨o2.base,o2.keep,o2.vals,o2.yl,o2.zl,o2.bl,o2.loc,λb d e=> ?_,λb d e=> ?_,o2.bh,o2.rest,o2.zn,o2.fz⟩
 ·by_cases q:b=a
  ·subst q;rw[St.bz]at e;cases e;exact⟨o,ho,hc⟩
  ·rw[St.bu _ _ q]at e;exact o2.jq b d e
 ·by_cases q:b=a
  ·subst q;exact⟨n1,n2,n3,n4⟩
  ·rw[St.bu _ _ q]at e;exact ok.own b d e
theorem Ok.turn(ok:Ok C fr Y Z ρ σ s){a:Addr}{c c':dx}{o':Obj}(ha:σ a=some c)(hs:Heap.SameBut a s.heap h')(qw:h'.get? a=some o')(hc:mr C Z c' o'):
 Ok C fr Y Z ρ (σ.upd a c') {s with heap:=h',toks:=t'}:=by
 obtain⟨n1,n2,n3,n4⟩:=ok.own a c ha
 obtain⟨m,hn,hl⟩:=ok.loc
 refine⟨λb x e=> ?_,λb x e=> ?_,λb x e=> ?_,ok.yl,ok.zl,ok.bl,⟨m,hn.sameBut hs (Ne.symm n4),hl⟩,λb d e=> ?_,λb d e=> ?_,ok.bh,ok.rest,ok.zn,ok.fz⟩
 ·show h'.get? b=some x
  rw[hs.2 b (λq=>by subst q;rw[n1]at e;cases e)];exact ok.base b x e
 ·show h'.get? b=some x
  rw[hs.2 b (λq=>by subst q;rw[n2]at e;cases e)];exact ok.keep b x e
 ·show h'.get? b=some x
  rw[hs.2 b (λq=>by subst q;rw[n3]at e;cases e)];exact ok.vals b x e
 ·by_cases q:b=a
  ·subst q;rw[St.bz]at e;cases e;exact⟨o',qw,hc⟩
  ·rw[St.bu _ _ q]at e;obtain⟨x,hx,r⟩:=ok.jq b d e;exact⟨x,(hs.2 b q).trans hx,r⟩
 ·by_cases q:b=a
  ·subst q;exact⟨n1,n2,n3,n4⟩
  ·rw[St.bu _ _ q]at e;exact ok.own b d e
theorem Ok.freeze(ok:Ok C fr Y Z ρ σ s){a:Addr}{c:dx}{o:Obj}(ha:σ a=some c)(ho:s.heap.get? a=some o)(hc:lG o):
 Ok C fr Y (Z.put a o) ρ (σ.del a) s/\fP Z (Z.put a o):=by
 obtain⟨n1,n2,n3,n4⟩:=ok.own a c ha
 have o2:Ok C fr Y Z ρ (σ.del a) s:=⟨ok.base,ok.keep,ok.vals,ok.yl,ok.zl,ok.bl,ok.loc,λb d e=>ok.jq b d (St.mj e).2,λb d e=>ok.own b d (St.mj e).2,ok.bh,ok.rest,ok.zn,ok.fz⟩
 exact⟨o2.S7 ho n4 (by simp[St.del]) n3 hc n1 (λe he hL=>by
  obtain⟨_,L,o',JB,_,hy,_⟩:=ok.bh e he
  rw[hL]at JB;cases JB
  rw[n2]at hy;cases hy),Zf.zQ o n3⟩
theorem cD{α:Type}{l:List α}{i j:Nat}{a b:α}(h:(l.set i a)[j]?=some b):(i=j/\b=a)\/(i≠j/\l[j]?=some b):=by
 rw[List.getElem?_set]at h
 split at h
 ·rename_i e;split at h
  ·cases h;exact .inl ⟨e,rfl⟩
  ·cases h
 ·rename_i e;exact .inr ⟨e,h⟩
theorem zX{h:Heap}{L:Addr}{m:Str->Option Value}(hn:h.Ns L m):∃o,h.get? L=some o/\Gg o:=by
 obtain⟨o,es,ep,ho,hd,_⟩:=hn
 exact⟨o,ho,λvs e=>by rw[hd]at e;cases e⟩
theorem Ok.bind(F:aI C fr)(ok:Ok C fr Y Z ρ σ s){i:Nat}{x:Str}{pv:PV}{v:Value}{m:Str->Option Value}(hl:mu Z fr.names ρ m)(hx:fr.names[i]?=some x)(r:gg Z pv v)
 (Nc:h'.Ns fr.L (λy=>if y=x then some v else m y)) (hs:Heap.SameBut fr.L s.heap h'):
 Ok C fr Y Z (ρ.set i (some pv)) σ {s with heap:=h',toks:=t'}:=by
 refine⟨λb o e=> ?_,λb o e=> ?_,λb o e=> ?_,ok.yl,ok.zl,ok.bl,⟨_,Nc,λj y pw a b=> ?_⟩,λb d e=> ?_,ok.own,ok.bh,ok.rest,ok.zn,ok.fz⟩
 ·show h'.get? b=some o
  rw[hs.2 b (λq=>by subst q;rw[ok.bl]at e;cases e)];exact ok.base b o e
 ·show h'.get? b=some o
  rw[hs.2 b (λq=>by subst q;rw[ok.yl]at e;cases e)];exact ok.keep b o e
 ·show h'.get? b=some o
  rw[hs.2 b (λq=>by subst q;rw[ok.zl]at e;cases e)];exact ok.vals b o e
 ·rcases cD b with⟨rfl,e⟩|⟨ne,e⟩
  ·rw[hx]at a;cases a;cases e
   exact⟨v,by rw[if_pos rfl],r⟩
  ·obtain⟨w,hw,q⟩:=hl j y pw a e
   have:y≠x:=by
    rintro rfl
    exact ne ((List.getElem?_inj (aj.mp hx).1 F.nodup).mp (hx.trans a.symm))
   exact⟨w,by rw[if_neg this];exact hw,q⟩
 ·obtain⟨o,ho,q⟩:=ok.jq b d e
  exact⟨o,(hs.2 b (ok.own b d e).2.2.2).trans ho,q⟩
theorem Ok.frames(F:aI C fr)(ok:Ok C fr Y Z ρ σ s):s.heap.FunFrames C.B fr.xT:=by
 obtain⟨m,hn,_⟩:=ok.loc
 obtain⟨o,ho,hf⟩:=zX hn
 obtain⟨e,q,k,hL⟩:=F.top
 rw[q]
 exact⟨k,⟨fr.L,o,hL,ok.bl,ho,hf⟩,ok.bh.frames ok.keep⟩
theorem Ok.I7{Y':Zf}(ok:Ok C fr Y' Z ρ σ s)(k:fP Y Y')(f:t9 C Y fr.outer):Ok C fr Y Z ρ σ s:=by
 refine⟨ok.base,λb o e=>ok.keep b o (k _ _ e),ok.vals,?_,ok.zl,ok.bl,ok.loc,ok.jq,λa c e=> ?_,f,ok.rest,ok.zn,ok.fz⟩
 ·cases q:Y fr.L with
  |none=>rfl
  |some o=>have:=k _ _ q;rw[ok.yl]at this;cases this
 ·obtain⟨n1,n2,n3,n4⟩:=ok.own a c e
  refine⟨n1,?_,n3,n4⟩
  cases q:Y a with
  |none=>rfl
  |some o=>have:=k _ _ q;rw[n2]at this;cases this
theorem Ok.but(ok:Ok C fr Y Z ρ σ s){wr:List Addr}(k:∀b o,b∉wr->s.heap.get? b=some o->h'.get? b=some o)(hw:∀b∈wr,C.B.get? b=none/\Y b=none/\Z b=none/\b≠fr.L/\σ b=none):
 Ok C fr Y Z ρ σ {s with heap:=h',toks:=t'}:=by
 obtain⟨m,hn,hl⟩:=ok.loc
 have nB:∀b o,C.B.get? b=some o->b∉wr:=λb o e hb=>by rw[(hw b hb).1]at e;cases e
 have nY:∀b o,Y b=some o->b∉wr:=λb o e hb=>by rw[(hw b hb).2.1]at e;cases e
 have nZ:∀b o,Z b=some o->b∉wr:=λb o e hb=>by rw[(hw b hb).2.2.1]at e;cases e
 have nL:fr.L∉wr:=λhb=>(hw _ hb).2.2.2.1 rfl
 refine⟨λb o e=>k b o (nB b o e) (ok.base b o e),λb o e=>k b o (nY b o e) (ok.keep b o e),λb o e=>k b o (nZ b o e) (ok.vals b o e),ok.yl,ok.zl,ok.bl,
  ⟨m,hn.at' λo e=>k _ o nL e,hl⟩,λa c e=> ?_,ok.own,ok.bh,ok.rest,ok.zn,ok.fz⟩
 obtain⟨o,ho,r⟩:=ok.jq a c e
 exact⟨o,k a o (λhb=>by rw[(hw a hb).2.2.2.2]at e;cases e) ho,r⟩
end
noncomputable def Gh(C:Ctx)(fr:Fm)(x:Addr)(h:Heap):Prop:=
 (∃oe vs a0,h.get? x=some oe/\oe.cls=.ref C.lf/\oe.data=.fields vs/\vs[1]?=some .none/\vs[0]?=some a0)\/
 (∃a0,h.TracedAtW C.B x (.ref C.lf) a0 .none)\/∃a0,h.TracedAtW C.B x (.ref C.lf) a0 (rawInt fr.L)
structure uW(C:Ctx)(fr:Fm)(Y:Zf)(ρ:b9)(e:Value)(s:Shared)(x:Addr):Prop where
 is:e=.ref x
 base:C.B.StaysIn s.heap
 new:C.B.get? x=none
 bh:s.heap.FunFrames C.B fr.xT
 st:Gh C fr x s.heap
 ES:∀b o,Y b=some o->Gg o->∃sl,s.heap.get? b=some {o with slots:=sl}
 loc:∃m Z',s.heap.Ns fr.L m/\mu Z' fr.names ρ m
 rest:s.gens=C.gens/\s.os=C.os
inductive iD(C:Ctx)(fr:Fm)(Y Z:Zf)(ρ:b9)(Q:PV->St->Prop)(v:Value)(s':Shared):Prop
 |mk (pv:PV) (σ':St) (Z':Zf) (k:fP Z Z') (ok:Ok C fr Y Z' ρ σ' s') (r:gg Z' pv v) (q:Q pv σ'):iD C fr Y Z ρ Q v s'
noncomputable def f8(C:Ctx)(fr:Fm)(Y:Zf)(ρ:b9)(X:Prop):Value->Shared->Prop:=λe s'=>X/\∃x,uW C fr Y ρ e s' x
inductive rP(C:Ctx)(fr:Fm)(Y Z:Zf)(ρ:b9)(Q:Bool->St->Prop)(b:Bool)(s':Shared):Prop
 |mk (σ':St) (Z':Zf) (k:fP Z Z') (ok:Ok C fr Y Z' ρ σ' s') (q:Q b σ'):rP C fr Y Z ρ Q b s'
inductive zY(C:Ctx)(fr:Fm)(Y Z:Zf)(ρ:b9)(Q:List PV->St->Prop)(vs:List Value)(s':Shared):Prop
 |mk (Ze:List PV) (σ':St) (Z':Zf) (k:fP Z Z') (ok:Ok C fr Y Z' ρ σ' s') (r:cO Z' Ze vs) (q:Q Ze σ'):zY C fr Y Z ρ Q vs s'
inductive mY(C:Ctx)(fr:Fm)(Y Z:Zf)(N:b9->St->Prop)(s':Shared):Prop
 |mk (ρ':b9) (σ':St) (Z':Zf) (k:fP Z Z') (ok:Ok C fr Y Z' ρ' σ' s') (q:N ρ' σ'):mY C fr Y Z N s'
inductive xU(C:Ctx)(fr:Fm)(Y Z:Zf)(R:PV->St->Prop)(v:Value)(s':Shared):Prop
 |mk (pv:PV) (ρ':b9) (σ':St) (Z':Zf) (k:fP Z Z') (ok:Ok C fr Y Z' ρ' σ' s') (r:gg Z' pv v) (q:R pv σ'):xU C fr Y Z R v s'
noncomputable def xV(C:Ctx)(fr:Fm)(Y Z:Zf)(N:b9->St->Prop)(R:PV->St->Prop)(J:Bool->b9->St->Prop):Flow->Shared->Prop:=λfl s'=>match fl with
 |.next=>mY C fr Y Z N s'
 |.brk=>mY C fr Y Z (J true) s'
 |.cont=>mY C fr Y Z (J false) s'
 |.ret v=>xU C fr Y Z R v s'
noncomputable def j4(C:Ctx)(fr:Fm)(Y:Zf)(X:b9->Prop):Value->Shared->Prop:=λe s'=>∃ρ',X ρ'/\∃x,uW C fr Y ρ' e s' x
noncomputable def zZ(C:Ctx)(fr:Fm)(Y Z:Zf)(N:b9->St->Prop):Unit->Shared->Prop:=λ_ s'=>mY C fr Y Z N s'
noncomputable def TV(C:Ctx)(fr:Fm)(t:Sem Value)(ρ:b9)(σ:St)(Q:PV->St->Prop)(X:Prop):Prop:=
 ∀Y Z s,Ok C fr Y Z ρ σ s->wpAny C.M fr.A t (iD C fr Y Z ρ Q) (f8 C fr Y ρ X) s
noncomputable def WE(C:Ctx)(fr:Fm)(e:Expr)(ρ:b9)(σ:St)(Q:PV->St->Prop)(X:Prop):Prop:=TV C fr (eval e fr.env) ρ σ Q X
noncomputable def TB(C:Ctx)(fr:Fm)(t:Sem Bool)(ρ:b9)(σ:St)(Q:Bool->St->Prop)(X:Prop):Prop:=
 ∀Y Z s,Ok C fr Y Z ρ σ s->wpAny C.M fr.A t (rP C fr Y Z ρ Q) (f8 C fr Y ρ X) s
noncomputable def WT(C:Ctx)(fr:Fm)(e:Expr)(ρ:b9)(σ:St)(Q:Bool->St->Prop)(X:Prop):Prop:=TB C fr (isTrue e fr.env (eval e fr.env)) ρ σ Q X
noncomputable def WL(C:Ctx)(fr:Fm)(pos:Pos)(es:List Expr)(ρ:b9)(σ:St)(Q:List PV->St->Prop)(X:Prop):Prop:=
 ∀Y Z s,Ok C fr Y Z ρ σ s->wpAny C.M fr.A (spliced (backTo pos (starEach es fr.env))) (zY C fr Y Z ρ Q) (f8 C fr Y ρ X) s
noncomputable def TF(C:Ctx)(fr:Fm)(t:Sem Flow)(ρ:b9)(σ:St)(N:b9->St->Prop)(R:PV->St->Prop)(J:Bool->b9->St->Prop)(X:b9->Prop):Prop:=
 ∀Y Z s,Ok C fr Y Z ρ σ s->wpAny C.M fr.A t (xV C fr Y Z N R J) (j4 C fr Y X) s
noncomputable def WS(C:Ctx)(fr:Fm)(st:Stmt)(ρ:b9)(σ:St)(N:b9->St->Prop)(R:PV->St->Prop)(J:Bool->b9->St->Prop)(X:b9->Prop):Prop:=
 TF C fr (exec st fr.env) ρ σ N R J X
noncomputable def iu(C:Ctx)(fr:Fm)(kH:List Stmt)(ρ:b9)(σ:St)(N:b9->St->Prop)(R:PV->St->Prop)(J:Bool->b9->St->Prop)(X:b9->Prop):Prop:=
 TF C fr (execs kH fr.env) ρ σ N R J X
noncomputable def W1(C:Ctx)(fr:Fm)(t:Value->Sem Value)(a:PV)(ρ:b9)(σ:St)(Q:PV->St->Prop)(X:Prop):Prop:=
 ∀Y Z s va,Ok C fr Y Z ρ σ s->gg Z a va->wpAny C.M fr.A (t va) (iD C fr Y Z ρ Q) (f8 C fr Y ρ X) s
noncomputable def W2(C:Ctx)(fr:Fm)(t:Value->Value->Sem Value)(a b:PV)(ρ:b9)(σ:St)(Q:PV->St->Prop)(X:Prop):Prop:=
 ∀Y Z s va vb,Ok C fr Y Z ρ σ s->gg Z a va->gg Z b vb->wpAny C.M fr.A (t va vb) (iD C fr Y Z ρ Q) (f8 C fr Y ρ X) s
noncomputable def WN(C:Ctx)(fr:Fm)(t:List Value->Sem Value)(as:List PV)(ρ:b9)(σ:St)(Q:PV->St->Prop)(X:Prop):Prop:=
 ∀Y Z s vs,Ok C fr Y Z ρ σ s->cO Z as vs->wpAny C.M fr.A (t vs) (iD C fr Y Z ρ Q) (f8 C fr Y ρ X) s
noncomputable def Th(C:Ctx)(fr:Fm)(t:Value->Sem Unit)(a:PV)(ρ:b9)(σ:St)(N:b9->St->Prop)(X:b9->Prop):Prop:=
 ∀Y Z s va,Ok C fr Y Z ρ σ s->gg Z a va->wpAny C.M fr.A (t va) (zZ C fr Y Z N) (j4 C fr Y X) s
noncomputable def Nd(C:Ctx)(fr:Fm)(t:Value->Value->Value->Sem Unit)(a b c:PV)(ρ:b9)(σ:St)(N:b9->St->Prop)(X:b9->Prop):Prop:=
 ∀Y Z s va vb vc,Ok C fr Y Z ρ σ s->gg Z a va->gg Z b vb->gg Z c vc->wpAny C.M fr.A (t va vb vc) (zZ C fr Y Z N) (j4 C fr Y X) s
noncomputable def F3(C:Ctx)(fr:Fm)(t:Value->Sem Bool)(a:PV)(ρ:b9)(σ:St)(Q:Bool->St->Prop)(X:Prop):Prop:=
 ∀Y Z s va,Ok C fr Y Z ρ σ s->gg Z a va->wpAny C.M fr.A (t va) (rP C fr Y Z ρ Q) (f8 C fr Y ρ X) s
section
variable{C:Ctx}{fr:Fm}{Y Z Z':Zf}{ρ:b9}{X:Prop}
theorem iD.le{Q:PV->St->Prop}(k:fP Z Z'){v:Value}{s':Shared}(x:iD C fr Y Z' ρ Q v s'):iD C fr Y Z ρ Q v s':=by obtain⟨a,b,c,d,e,f,g⟩:=x;exact⟨a,b,c,k.trans d,e,f,g⟩
theorem rP.le{Q:Bool->St->Prop}(k:fP Z Z'){v:Bool}{s':Shared}(x:rP C fr Y Z' ρ Q v s'):rP C fr Y Z ρ Q v s':=by obtain⟨b,c,d,e,f⟩:=x;exact⟨b,c,k.trans d,e,f⟩
theorem mY.le{N:b9->St->Prop}(k:fP Z Z'){s':Shared}(x:mY C fr Y Z' N s'):mY C fr Y Z N s':=by obtain⟨a,b,c,d,e,f⟩:=x;exact⟨a,b,c,k.trans d,e,f⟩
theorem xU.le{R:PV->St->Prop}(k:fP Z Z'){v:Value}{s':Shared}(x:xU C fr Y Z' R v s'):xU C fr Y Z R v s':=by obtain⟨p,a,b,c,d,e,f,g⟩:=x;exact⟨p,a,b,c,k.trans d,e,f,g⟩
theorem xV.le{N:b9->St->Prop}{R:PV->St->Prop}{J:Bool->b9->St->Prop}(k:fP Z Z'){v:Flow}{s':Shared}(x:xV C fr Y Z' N R J v s'):xV C fr Y Z N R J v s':=by
 cases v with
 |next=>exact mY.le k x
 |brk=>exact mY.le k x
 |cont=>exact mY.le k x
 |ret v=>exact xU.le k x
theorem f8.F1{X:b9->Prop}{e:Value}{s':Shared}(x:f8 C fr Y ρ (X ρ) e s'):j4 C fr Y X e s':=⟨ρ,x.1,x.2⟩
theorem f8.weaken{X X':Prop}(h:X->X'){e:Value}{s:Shared}(x:f8 C fr Y ρ X e s):f8 C fr Y ρ X' e s:=⟨h x.1,x.2⟩
section
variable{α:Type}{A:Around}{s:Shared}{E:Value->Shared->Prop}{σ:St}
theorem wP{t:Sem α}{P P':α->Shared->Prop}(h:wpAny C.M A t P E s)(f:∀v s,P v s->P' v s):wpAny C.M A t P' E s:=wpAny_mono h f λ_ _ x=>x
theorem wV{t:Sem Value}{Q:PV->St->Prop}{P:Value->Shared->Prop}(h:wpAny C.M A t (iD C fr Y Z ρ Q) E s)(f:∀v s' pv σ' Z',fP Z Z'->Ok C fr Y Z' ρ σ' s'->gg Z' pv v->Q pv σ'->P v s'):wpAny C.M A t P E s:=
 wP h λv s' x=>x.casesOn (f v s')
theorem wB{t:Sem Bool}{Q:Bool->St->Prop}{P:Bool->Shared->Prop}(h:wpAny C.M A t (rP C fr Y Z ρ Q) E s)(f:∀v s' σ' Z',fP Z Z'->Ok C fr Y Z' ρ σ' s'->Q v σ'->P v s'):wpAny C.M A t P E s:=
 wP h λv s' x=>x.casesOn (f v s')
theorem wL{t:Sem (List Value)}{Q:List PV->St->Prop}{P:List Value->Shared->Prop}(h:wpAny C.M A t (zY C fr Y Z ρ Q) E s)(f:∀v s' pv σ' Z',fP Z Z'->Ok C fr Y Z' ρ σ' s'->cO Z' pv v->Q pv σ'->P v s'):wpAny C.M A t P E s:=
 wP h λv s' x=>x.casesOn (f v s')
theorem wU{t:Sem Unit}{N:b9->St->Prop}{P:Unit->Shared->Prop}(h:wpAny C.M A t (zZ C fr Y Z N) E s)(f:∀v s' ρ' σ' Z',fP Z Z'->Ok C fr Y Z' ρ' σ' s'->N ρ' σ'->P v s'):wpAny C.M A t P E s:=
 wP h λv s' x=>mY.casesOn x (f v s')
variable{X:b9->Prop}
theorem wX{t:Sem α}{P:α->Shared->Prop}(h:wpAny C.M A t P (f8 C fr Y ρ (X ρ)) s):wpAny C.M A t P (j4 C fr Y X) s:=wpAny_mono h (λ_ _ x=>x) λ_ _ x=>x.F1
theorem z0{t:Sem Value}{Q:PV->St->Prop}{P:Value->Shared->Prop}(h:wpAny C.M A t (iD C fr Y Z ρ Q) (f8 C fr Y ρ (X ρ)) s)(f:∀v s' pv σ' Z',fP Z Z'->Ok C fr Y Z' ρ σ' s'->gg Z' pv v->Q pv σ'->P v s'):wpAny C.M A t P (j4 C fr Y X) s:=wV (wX h) f
theorem wBf{t:Sem Bool}{Q:Bool->St->Prop}{P:Bool->Shared->Prop}(h:wpAny C.M A t (rP C fr Y Z ρ Q) (f8 C fr Y ρ (X ρ)) s)(f:∀v s' σ' Z',fP Z Z'->Ok C fr Y Z' ρ σ' s'->Q v σ'->P v s'):wpAny C.M A t P (j4 C fr Y X) s:=wB (wX h) f
end
theorem Dv{α:Type}{t:Sem Value}{k:Value->Sem α}{σ:St}{Q:PV->St->Prop}{P:α->Shared->Prop}{E:Value->Shared->Prop}{s:Shared}(h:TV C fr t ρ σ Q X)(ok:Ok C fr Y Z ρ σ s)
 (hk:∀v s' pv σ' Z',fP Z Z'->Ok C fr Y Z' ρ σ' s'->gg Z' pv v->Q pv σ'->wpAny C.M fr.A (k v) P E s') (hX:∀e s',f8 C fr Y ρ X e s'->E e s'):
 wpAny C.M fr.A t (λv s'=>wpAny C.M fr.A (k v) P E s') E s:=
 wpAny_mono (h Y Z s ok) (λv s' x=>x.casesOn (hk v s')) hX
end
theorem gX.O1{kvs:List (Int×Int)}{o:Obj}(x:gX kvs o):lG o:=x.casesOn λ_ _ a _ _ _ _=> .inr (.inl a.1)
theorem e5.O1{Z:Zf}{kvs:List (List Int×Int)}{o:Obj}(x:e5 Z kvs o):lG o:=x.casesOn λ_ _ a _ _ _ _=> .inr (.inl a.1)
structure dr(C:Ctx):Prop where
 gY:C.B.Ns mainGlobals C.mg
 Uc:C.B.Ns builtinsNs C.mb
 PD:C.B.NoLimit
 JC:∃o,C.B.get? sysModules=some o
theorem cC{Z:Zf}(i:Int)(t:Tok):gg Z (.int i) (.int i t):=⟨t,rfl⟩
theorem fQ{Z:Zf}(x:Str)(t:Tok):gg Z (.str x) (.str x t):=⟨t,rfl⟩
theorem cN{Z:Zf}(b:Bool):gg Z (.bool b) (.bool b):=rfl
theorem vx{Z:Zf}:gg Z .none .none:=rfl
theorem ic{Z:Zf}(a:Addr):gg Z (.loc a) (.ref a):=rfl
theorem Dw{Z:Zf}(v:Value):gg Z (.val v) v:=rfl
theorem aO{Z:Zf}{i:Int}{v:Value}(r:gg Z (.int i) v):∃t,v=.int i t:=r
theorem a7{Z:Zf}{x:Str}{v:Value}(r:gg Z (.str x) v):∃t,v=.str x t:=r
theorem n8{Z:Zf}{b:Bool}{v:Value}(r:gg Z (.bool b) v):v=.bool b:=r
theorem ua{Z:Zf}{v:Value}(r:gg Z .none v):v=.none:=r
theorem bA{Z:Zf}{a:Addr}{v:Value}(r:gg Z (.loc a) v):v=.ref a:=r
theorem i3{Z:Zf}{x v:Value}(r:gg Z (.val x) v):v=x:=r
theorem fw{Z:Zf}{xs:List PV}{v:Value}(r:gg Z (.tup xs) v):∃a vs,v=.ref a/\vu Z a vs/\cO Z xs vs:=r
theorem BZ{Z:Zf}{x y z:Int}{v:Value}(r:gg Z (.xS x y z) v):∃a t u q,v=.ref a/\Z a=some {cls:= .type "range",dict:=none,data:= .fields #[.int x t,.int y u,.int z q],slots:=#[]}:=r
theorem iw{Z:Zf}{kvs:List (Int×Int)}{v:Value}(r:gg Z (.tabI kvs) v):∃a o,v=.ref a/\Z a=some o/\gX kvs o:=r
theorem iy{Z:Zf}{kvs:List (List Int×Int)}{v:Value}(r:gg Z (.dY kvs) v):∃a o,v=.ref a/\Z a=some o/\e5 Z kvs o:=r
section
variable{C:Ctx}{fr:Fm}{ρ:b9}{σ:St}{Q:PV->St->Prop}{X:Prop}{Y Z:Zf}{s:Shared}
theorem TV.mono{t:Sem Value}{Q':PV->St->Prop}{X':Prop}(h:TV C fr t ρ σ Q X)(hQ:∀v σ',Q v σ'->Q' v σ')(hX:X->X'):TV C fr t ρ σ Q' X':=
 λY Z s ok=>wpAny_mono (h Y Z s ok) (λ_ _ ⟨pv,σ',Z',a,b,c,d⟩=>⟨pv,σ',Z',a,b,c,hQ _ _ d⟩) λ_ _ x=>x.weaken hX
theorem bZ(ok:Ok C fr Y Z ρ σ s){pv:PV}{v:Value}(r:gg Z pv v)(h:Q pv σ):iD C fr Y Z ρ Q v s:=⟨pv,σ,Z,fP.refl _,ok,r,h⟩
theorem Gi{Q:Bool->St->Prop}(ok:Ok C fr Y Z ρ σ s){b:Bool}(h:Q b σ):rP C fr Y Z ρ Q b s:=⟨σ,Z,fP.refl _,ok,h⟩
theorem dn{i:Int}{k:Nat}{p:Pos}(h:Q (.int i) σ):WE C fr (.Constant (.int i) k p) ρ σ Q X:=λY Z s ok=>wpAny_Constant_int (bZ ok.toks (cC _ _) h)
theorem yU{x:Str}{k:Nat}{p:Pos}(h:Q (.str x) σ):WE C fr (.Constant (.str x) k p) ρ σ Q X:=λY Z s ok=>Calls.Constant_str (bZ ok.toks (fQ _ _) h)
theorem JD{b:Bool}{k:Nat}{p:Pos}(h:Q (.bool b) σ):WE C fr (.Constant (.bool b) k p) ρ σ Q X:=λY Z s ok _ _ _=>bZ ok (cN _) h
theorem JE{k:Nat}{p:Pos}(h:Q .none σ):WE C fr (.Constant .none k p) ρ σ Q X:=λY Z s ok _ _ _=>bZ ok vx h
theorem aI.load{A:Around}{E:Value->Shared->Prop}(F:aI C fr){x:Str}{i:Nat}{s:Shared}{m:Str->Option Value}{w:Value}{P:Value->Shared->Prop}(hx:fr.vn[i]?=some x)(hn:s.heap.Ns fr.L m)(hw:m x=some w)(h:P w s):
 wpAny C.M A (loadName fr.env x) P E s:=wpAny_loadName_local F.kind (F.EP hx).2.2.1 (by rw[show fr.env.locals=fr.L from(F.EP hx).2.1];exact hn) hw h
theorem aI.store{A:Around}{E:Value->Shared->Prop}(F:aI C fr){x:Str}{i:Nat}{s:Shared}{m:Str->Option Value}{w:Value}{P:Unit->Shared->Prop}(hx:fr.vn[i]?=some x)(hn:s.heap.Ns fr.L m)
 (h:∀h',h'.Ns fr.L (λy=>if y=x then some w else m y)->Heap.SameBut fr.L s.heap h'->P () {s with heap:=h',toks:=s.toks+1}):wpAny C.M A (storeName fr.env x w) P E s:=by
 have e:fr.env.locals=fr.L:=(F.EP hx).2.1
 exact wpAny_storeName_local (F.EP hx).2.2.1 (by rw[e];exact hn) (λh' k1 k2=>h h' (e▸k1) (e▸k2)) (by show(fr.scope.kind== .class||(fr.scope.kind== .module&&_))=false;rw[F.kind];rfl)
theorem aV(F:aI C fr){x:Str}{p:Pos}{v:PV}(i:Nat)(hx:fr.vn[i]?=some x)(hv:ρ[i]?=some (some v))(h:Q v σ):WE C fr (.Name x p) ρ σ Q X:=by
 intro Y Z s ok
 obtain⟨m,hn,hl⟩:=ok.loc
 obtain⟨w,hw,r⟩:=hl i x v (F.EP hx).1 hv
 exact wpAny_Name (F.load hx hn hw (bZ ok r h)) (F.EP hx).2.2.2
theorem ET(F:aI C fr){x:Str}{p:Pos}{a:Addr}{kvs:List (Int×Int)}(i:Nat)(hx:fr.vn[i]?=some x)(hv:ρ[i]?=some (some (.loc a)))(hc:σ a=some (.mX kvs))(h:Q (.tabI kvs) (σ.del a)):WE C fr (.Name x p) ρ σ Q X:=by
 intro Y Z s ok
 obtain⟨m,hn,hl⟩:=ok.loc
 obtain⟨w,hw,r⟩:=hl i x _ (F.EP hx).1 hv
 obtain⟨o,ho,PE⟩:=ok.jq a _ hc
 obtain⟨f6,le⟩:=ok.freeze hc ho (PE.O1)
 refine wpAny_Name (F.load hx hn hw ⟨.tabI kvs,_,_,le,f6,?_,h⟩) (F.EP hx).2.2.2
 exact⟨a,o,bA r,Zf.ia _ _ _,PE⟩
theorem EU(F:aI C fr){x:Str}{p:Pos}{a:Addr}{kvs:List (List Int×Int)}(i:Nat)(hx:fr.vn[i]?=some x)(hv:ρ[i]?=some (some (.loc a)))(hc:σ a=some (.hY kvs))(h:Q (.dY kvs) (σ.del a)):WE C fr (.Name x p) ρ σ Q X:=by
 intro Y Z s ok
 obtain⟨m,hn,hl⟩:=ok.loc
 obtain⟨w,hw,r⟩:=hl i x _ (F.EP hx).1 hv
 obtain⟨o,ho,PE⟩:=ok.jq a _ hc
 obtain⟨f6,le⟩:=ok.freeze hc ho (PE.O1)
 refine wpAny_Name (F.load hx hn hw ⟨.dY kvs,_,_,le,f6,?_,h⟩) (F.EP hx).2.2.2
 exact⟨a,o,bA r,Zf.ia _ _ _,e5.mono le PE⟩
theorem Dx(G:dr C)(F:aI C fr){x:Str}{p:Pos}{v:Value}{pv:PV}(hk:fr.env.kindOf x=some .globalImplicit)(hm:C.mg x=some v)(hr:∀Z,gg Z pv v)(h:Q pv σ)
 (hd:(x==("__debug__":Str))=false:=by decide):WE C fr (.Name x p) ρ σ Q X:=
 λY Z s ok=>Name_function_global F.kind hk (loadGlobal_global (G.gY.keeps ok.base) hm (bZ ok (hr _) h)) hd
theorem B0(G:dr C)(F:aI C fr){x:Str}{p:Pos}{v:Value}(hk:fr.env.kindOf x=some .globalImplicit)(hm:C.mg x=none)(hb:C.mb x=some v)(h:Q (.val v) σ)
 (hd:(x==("__debug__":Str))=false:=by decide):WE C fr (.Name x p) ρ σ Q X:=
 λY Z s ok=>Name_function_global F.kind hk (loadGlobal_builtin (G.gY.keeps ok.base) hm (G.Uc.keeps ok.base) hb (bZ ok (Dw _) h)) hd
theorem j5{l r:Expr}{op:Operator}{p:Pos}(h:WE C fr l ρ σ (λa aM=>WE C fr r ρ aM (λb bO=>W2 C fr (binaryOp op) a b ρ bO Q X) X) X):WE C fr (.BinOp l op r p) ρ σ Q X:=
 λY Z s ok=>wpAny_BinOp (wV (h Y Z s ok) λva bF a aM cn cj bq cA n9=>(wV (n9 Y cn bF bq) λvb cV b bO fb cP b1 gZ ii=>
  (wP (ii Y fb cV va vb b1 (cA.mono cP) gZ) λ_ _ x=>(x.le cP).le cj)))
theorem rg{e:Expr}{op:UnaryOp}{p:Pos}(h:WE C fr e ρ σ (λa aM=>W1 C fr (unaryOp op) a ρ aM Q X) X):WE C fr (.UnaryOp op e p) ρ σ Q X:=
 λY Z s ok=>wpAny_UnaryOp (Dv h ok (λva bF a aM cn cj bq cA n9=>(wP (n9 Y cn bF va bq cA) λ_ _ x=>x.le cj)) λ_ _ x=>x)
theorem B3{l r:Expr}{op:CmpOp}{p:Pos}(h:WE C fr l ρ σ (λa aM=>WE C fr r ρ aM (λb bO=>W2 C fr (compareOp op) a b ρ bO Q X) X) X)
 (hm:behindInMarks op r=false:=by ac_rfl):WE C fr (.Compare l [op] [r] p) ρ σ Q X:=
 λY Z s ok=>wpAny_Compare1 (hm:=hm) (wV (h Y Z s ok) λva bF a aM cn cj bq cA n9=>(wV (n9 Y cn bF bq) λvb cV b bO fb cP b1 gZ ii=>
  (wP (ii Y fb cV va vb b1 (cA.mono cP) gZ) λ_ _ x=>(x.le cP).le cj)))
theorem gx{l r:Expr}{op:CmpOp}{p:Pos}{Q:Bool->St->Prop}(h:WE C fr l ρ σ (λa aM=>WE C fr r ρ aM (λb bO=>W2 C fr (compareOp op) a b ρ bO (λc d0=>F3 C fr truthy c ρ d0 Q X) X) X) X)
 (hm:behindInMarks op r=false:=by ac_rfl):WT C fr (.Compare l [op] [r] p) ρ σ Q X:=
 λY Z s ok=>wpAny_isTrue_Compare1 (hm:=hm) (wV (h Y Z s ok) λva bF a aM cn cj bq cA n9=>(wV (n9 Y cn bF bq) λvb cV b bO fb cP b1 gZ ii=>
  (wV (ii Y fb cV va vb b1 (cA.mono cP) gZ) λvc iE c d0 mv i4 dF yV rh=>(wP (rh Y mv iE vc dF yV) λ_ _ x=>((x.le i4).le cP).le cj))))
theorem eS{b:Bool}{Q:Bool->St->Prop}(h:Q b σ):F3 C fr truthy (.bool b) ρ σ Q X:=λY Z s va ok r=>by
 rw[n8 r];exact wpAny_truthy_bool (Gi ok h)
theorem Nf{e:Expr}{p:Pos}{Q:Bool->St->Prop}(h:WT C fr e ρ σ (λb=>Q (!b)) X):WT C fr (.UnaryOp .Not e p) ρ σ Q X:=
 λY Z s ok=>wpAny_isTrue_Not (wP (h Y Z s ok) λb bF x=>by obtain⟨σ',Z',k,f6,q⟩:=x;exact⟨σ',Z',k,f6,q⟩)
noncomputable def JF(C:Ctx)(fr:Fm)(op:BoolOp)(es:List Expr)(ρ:b9)(σ:St)(Q:Bool->St->Prop)(X:Prop):Prop:=TB C fr (allTrue op es fr.env) ρ σ Q X
theorem EW{op:BoolOp}{es:List Expr}{p:Pos}{Q:Bool->St->Prop}(h:JF C fr op es ρ σ Q X):WT C fr (.BoolOp op es p) ρ σ Q X:=
 λY Z s ok=>wpAny_isTrue_BoolOp (h Y Z s ok)
theorem z3{Q:Bool->St->Prop}(h:Q true σ):JF C fr .And [] ρ σ Q X:=λ_ _ _ ok=>wpAny_allTrue_And_nil (Gi ok h)
theorem B4{Q:Bool->St->Prop}(h:Q false σ):JF C fr .Or [] ρ σ Q X:=λ_ _ _ ok=>wpAny_allTrue_Or_nil (Gi ok h)
theorem Dy{e:Expr}{es:List Expr}{Q:Bool->St->Prop}(h:WT C fr e ρ σ (λb aM=>(b=true->JF C fr .And es ρ aM Q X)/\(b=false->Q false aM)) X):JF C fr .And (e::es) ρ σ Q X:=
 λY Z s ok=>wpAny_allTrue_And_cons (wB (h Y Z s ok) λb bF aM cn cj bq q=>by
  cases b
  ·exact⟨aM,cn,cj,bq,q.2 rfl⟩
  ·exact(wP (q.1 rfl Y cn bF bq) λ_ _ x=>x.le cj))
theorem Gj{e:Expr}{es:List Expr}{Q:Bool->St->Prop}(h:WT C fr e ρ σ (λb aM=>(b=true->Q true aM)/\(b=false->JF C fr .Or es ρ aM Q X)) X):JF C fr .Or (e::es) ρ σ Q X:=
 λY Z s ok=>wpAny_allTrue_Or_cons (wB (h Y Z s ok) λb bF aM cn cj bq q=>by
  cases b
  ·exact(wP (q.2 rfl Y cn bF bq) λ_ _ x=>x.le cj)
  ·exact⟨aM,cn,cj,bq,q.1 rfl⟩)
theorem Gk{e:Expr}{Q:Bool->St->Prop}(h:WE C fr e ρ σ (λv aM=>F3 C fr truthy v ρ aM Q X) X)
 (he:∀env z4,isTrue e env z4=(do let v<-z4;standAt e.pos;holding [v] (truthy v)):=by with_unfolding_all(intros;rfl)):WT C fr e ρ σ Q X:=
 λY Z s ok=>wpAny_isTrue_value (he:=he _ _) (Dv h ok (λv bF a aM cn cj bq cA q=>(wP (q Y cn bF v bq cA) λ_ _ x=>x.le cj)) λ_ _ x=>x)
theorem Gl{t a b:Expr}{p:Pos}(h:WT C fr t ρ σ (λc aM=>(c=true->WE C fr a ρ aM Q X)/\(c=false->WE C fr b ρ aM Q X)) X):WE C fr (.IfExp t a b p) ρ σ Q X:=
 λY Z s ok=>wpAny_IfExp (wB (h Y Z s ok) λc bF aM cn cj bq q=>by
  cases c
  ·exact(wP (q.2 rfl Y cn bF bq) λ_ _ x=>x.le cj)
  ·exact(wP (q.1 rfl Y cn bF bq) λ_ _ x=>x.le cj))
noncomputable def Ng(C:Ctx)(fr:Fm)(pos:Pos)(op:BoolOp)(es:List Expr)(ρ:b9)(σ:St)(Q:PV->St->Prop)(X:Prop):Prop:=TV C fr (boolOp pos op (evalEach es fr.env)) ρ σ Q X
theorem EX{op:BoolOp}{es:List Expr}{p:Pos}(h:Ng C fr p op es ρ σ Q X):WE C fr (.BoolOp op es p) ρ σ Q X:=λY Z s ok=>by
 rw[arm_eval_BoolOp];exact h Y Z s ok
theorem JG{op:BoolOp}{e:Expr}{p:Pos}(h:WE C fr e ρ σ Q X):Ng C fr p op [e] ρ σ Q X:=h
theorem Dz{e e':Expr}{es:List Expr}{p:Pos}(h:WE C fr e ρ σ (λv aM=>F3 C fr truthy v ρ aM (λb bO=>(b=true->Ng C fr p .And (e'::es) ρ bO Q X)/\(b=false->Q v bO)) X) X):
 Ng C fr p .And (e::e'::es) ρ σ Q X:=λY Z s ok=>by
 show wpAny _ _ (do
  let v<-eval e fr.env
  standAt p
  let t<-holding [v] (truthy v)
  match BoolOp.And,t with
  |.And,false|.Or,true=>pure v
  |_,_=>boolOp p .And (evalEach (e'::es) fr.env)) _ _ s
 refine wpAny_bind (Dv h ok (λv bF a aM cn cj bq cA q=>wpAny_bind (wpAny_standAt (wpAny_bind (wpAny_holding (wB (q Y cn bF v bq cA) λb cV bO fb cP b1 ii=> ?_))))) λ_ _ x=>x)
 cases b
 ·exact wpAny_pure ⟨a,bO,fb,cj.trans cP,b1,cA.mono cP,ii.2 rfl⟩
 ·exact(wP (ii.1 rfl Y fb cV b1) λ_ _ x=>x.le (cj.trans cP))
theorem Gm{e e':Expr}{es:List Expr}{p:Pos}(h:WE C fr e ρ σ (λv aM=>F3 C fr truthy v ρ aM (λb bO=>(b=true->Q v bO)/\(b=false->Ng C fr p .Or (e'::es) ρ bO Q X)) X) X):
 Ng C fr p .Or (e::e'::es) ρ σ Q X:=λY Z s ok=>by
 show wpAny _ _ (do
  let v<-eval e fr.env
  standAt p
  let t<-holding [v] (truthy v)
  match BoolOp.Or,t with
  |.And,false|.Or,true=>pure v
  |_,_=>boolOp p .Or (evalEach (e'::es) fr.env)) _ _ s
 refine wpAny_bind (Dv h ok (λv bF a aM cn cj bq cA q=>wpAny_bind (wpAny_standAt (wpAny_bind (wpAny_holding (wB (q Y cn bF v bq cA) λb cV bO fb cP b1 ii=> ?_))))) λ_ _ x=>x)
 cases b
 ·exact(wP (ii.2 rfl Y fb cV b1) λ_ _ x=>x.le (cj.trans cP))
 ·exact wpAny_pure ⟨a,bO,fb,cj.trans cP,b1,cA.mono cP,ii.1 rfl⟩
theorem eT{p:Pos}{Q:List PV->St->Prop}(h:Q [] σ):WL C fr p [] ρ σ Q X:=λY Z _ ok=>Calls.spliced_nil ⟨[],σ,Z,fP.refl _,ok,cO.nil,h⟩
theorem cR{p:Pos}{e:Expr}{es:List Expr}{Q:List PV->St->Prop}(h:WE C fr e ρ σ (λv aM=>WL C fr p es ρ aM (λvs=>Q (v::vs)) X) X)
 (he:∀env,starEach (e::es) env=(false,eval e env)::starEach es env:=by with_unfolding_all(intro _;rfl)):WL C fr p (e::es) ρ σ Q X:=λY Z s ok=>by
 rw[he]
 show wpAny _ _ (spliced ((false,eval e fr.env)::backTo p (starEach es fr.env))) _ _ s
 refine Calls.spliced_cons (wV (h Y Z s ok) λv bF a aM cn cj bq cA q=>(wL (q Y cn bF bq) λvs cV as bO fb cP b1 gZ ii=> ?_))
 exact⟨a::as,bO,fb,cj.trans cP,b1,.cons (cA.mono cP) gZ,ii⟩
theorem rQ{es:List Expr}{k:Nat}{p:Pos}(h:WL C fr p es ρ σ (λvs aM=>vs.length<=sizeLine/\Q (.tup vs) aM) X):WE C fr (.Tuple es k p) ρ σ Q X:=λY Z s ok=>
 wpAny_Tuple_spliced (wpAny_mono (h Y Z s ok) (λvs bF ⟨as,aM,cn,cj,bq,cA,hl,q⟩=>by
  refine⟨by rw[cA.length];exact hl,?_⟩
  obtain⟨b1,cP⟩:=bq.LM (t':=bF.toks) (bg (ai _)) (λb o e=>aG {cls:= .type "tuple",data:= .seq vs.toArray} e) (aN _ rfl) (.inl rfl)
  refine⟨.tup as,aM,_,cj.trans cP,b1,?_,q⟩
  exact⟨_,vs,rfl,⟨0,Zf.ia _ _ _⟩,cA.mono cP⟩) λ_ _ x=>x)
theorem rR{es:List Expr}{p:Pos}(h:WL C fr p es ρ σ (λvs aM=>vs.length<=sizeLine/\∀a,aM a=none->Q (.loc a) (aM.upd a (.list vs))) X):WE C fr (.List es p) ρ σ Q X:=λY Z s ok=>
 wpAny_List_spliced (wpAny_mono (h Y Z s ok) (λvs bF ⟨as,aM,cn,cj,bq,cA,hl,q⟩=>by
  refine⟨by rw[cA.length];exact hl,?_⟩
  have hn:bF.heap.get? bF.heap.objs.size=none:=bg (ai _)
  exact⟨.loc bF.heap.objs.size,_,cn,cj,bq.alloc (c:= .list as) hn (λb o e=>aG _ e) (aN _ rfl) ⟨vs,0,rfl,cA⟩,ic _,q _ (bq.none_of hn).2.2.2.2⟩) λ_ _ x=>x)
end
section
variable{C:Ctx}{fr:Fm}{ρ:b9}{σ:St}{N:b9->St->Prop}{R:PV->St->Prop}{J:Bool->b9->St->Prop}{X:b9->Prop}{Y Z:Zf}{s:Shared}
theorem LY(ok:Ok C fr Y Z ρ σ s)(h:N ρ σ):xV C fr Y Z N R J .next s:=⟨ρ,σ,Z,fP.refl _,ok,h⟩
theorem g7(h:N ρ σ):iu C fr [] ρ σ N R J X:=λ_ _ _ ok=>wpAny_execs_nil (LY ok h)
theorem bw{st:Stmt}{kH:List Stmt}(h:WS C fr st ρ σ (λρ' σ'=>iu C fr kH ρ' σ' N R J X) R J X):iu C fr (st::kH) ρ σ N R J X:=λY Z s ok=>
 wpAny_execs_cons (wP (h Y Z s ok) λf bF x=>by
  cases f with
  |next=>obtain⟨ρ',σ',Z',k,f6,q⟩:=x;exact(wP (q Y Z' bF f6) λ_ _ y=>y.le k)
  |brk=>exact x
  |cont=>exact x
  |ret v=>exact x)
theorem JH{p:Pos}(h:N ρ σ):WS C fr (.Pass p) ρ σ N R J X:=λ_ _ _ ok=>wpAny_Pass (LY ok h)
theorem Gn{p:Pos}(h:J true ρ σ):WS C fr (.Break p) ρ σ N R J X:=λ_ Z _ ok=>wpAny_Break ⟨ρ,σ,Z,fP.refl _,ok,h⟩
theorem z5{p:Pos}(h:J false ρ σ):WS C fr (.Continue p) ρ σ N R J X:=λ_ Z _ ok=>wpAny_Continue ⟨ρ,σ,Z,fP.refl _,ok,h⟩
theorem ub{t:Expr}{a b:List Stmt}{p:Pos}(h:WT C fr t ρ σ (λc aM=>(c=true->iu C fr a ρ aM N R J X)/\(c=false->iu C fr b ρ aM N R J X)) (X ρ)):WS C fr (.If t a b p) ρ σ N R J X:=λY Z s ok=>
 wpAny_If (wBf (h Y Z s ok) λc bF aM cn cj bq q=>by
  cases c
  ·exact(wP (q.2 rfl Y cn bF bq) λ_ _ x=>x.le cj)
  ·exact(wP (q.1 rfl Y cn bF bq) λ_ _ x=>x.le cj))
theorem dC{e:Expr}{p:Pos}(h:WE C fr e ρ σ R (X ρ)):WS C fr (.Return (some e) p) ρ σ N R J X:=λY Z s ok=>
 wpAny_Return_some (z0 (h Y Z s ok) λv s' pv σ' Z' a b c d=>⟨pv,ρ,σ',Z',a,b,c,d⟩)
theorem rS(F:aI C fr):interactive fr.env=false:=by
 unfold interactive
 show(fr.scope.kind== .module&&_)=false
 rw[F.kind];rfl
theorem qb(F:aI C fr){e:Expr}{p:Pos}(h:WE C fr e ρ σ (λ_ aM=>N ρ aM) (X ρ))(hs:∀env,swapsWith e none p.line env=pure false:=by with_unfolding_all(intro _;rfl)):WS C fr (.Expr e p) ρ σ N R J X:=λY Z s ok=>
 wpAny_Expr_any (z0 (h Y Z s ok) λv s' pv σ' Z' a b c d=>⟨ρ,σ',Z',a,b,d⟩) (rS F) (hs _)
theorem z6(F:aI C fr){x:Str}{pv:PV}{P:b9->St->Prop}(i:Nat)(hx:fr.vn[i]?=some x)(h:P (ρ.set i (some pv)) σ):Th C fr (storeName fr.env x) pv ρ σ P X:=by
 intro Y Z s va ok r
 obtain⟨m,hn,hl⟩:=ok.loc
 exact F.store hx hn (λh' Nc hs=>⟨_,σ,Z,fP.refl _,ok.bind F hl (F.EP hx).1 r Nc hs,h⟩)
theorem gd(F:aI C fr){x:Str}{e:Expr}{p p':Pos}(i:Nat)(hx:fr.vn[i]?=some x)(h:WE C fr e ρ σ (λv aM=>N (ρ.set i (some v)) aM) (X ρ))
 (hs:∀env,swapsWith e (some (.Name x p')) p.line env=pure false:=by with_unfolding_all(intro _;rfl)):WS C fr (.Assign [.Name x p'] e p) ρ σ N R J X:=λY Z s ok=>
 wpAny_Assign_Name (z0 (h Y Z s ok) λv bF pv aM cn cj bq cA q=>
  (wU (z6 F (P:=N) i hx q Y cn bF v bq cA) λ_ cV Go bO fb cP b1 ii=>⟨Go,bO,fb,cj.trans cP,b1,ii⟩)) (hs _)
theorem yW(F:aI C fr){x:Str}{e:Expr}{op:Operator}{p p':Pos}{B5:PV}(i:Nat)(hx:fr.vn[i]?=some x)(hv:ρ[i]?=some (some B5))
 (h:WE C fr e ρ σ (λv aM=>W2 C fr (inplaceOp op) B5 v ρ aM (λr bO=>N (ρ.set i (some r)) bO) (X ρ)) (X ρ)):WS C fr (.AugAssign (.Name x p') op e p) ρ σ N R J X:=λY Z s ok=>by
 obtain⟨m,hn,hl⟩:=ok.loc
 obtain⟨w,hw,r⟩:=hl i x _ (F.EP hx).1 hv
 refine wpAny_AugAssign_Name (F.load hx hn hw (z0 (h Y Z s ok) λv bF pv aM cn cj bq cA q=>
  (z0 (q Y cn bF w v bq (r.mono cj) cA) λu cV pw bO fb cP b1 gZ ii=>(wU (z6 F (P:=N) i hx ii Y fb cV u b1 gZ) λ_ iE z7 d0 mv i4 dF rh=>
   ⟨z7,d0,mv,(cj.trans cP).trans i4,dF,rh⟩))))
theorem eg{o i e:Expr}{p p':Pos}(h:WE C fr e ρ σ (λv aM=>WE C fr o ρ aM (λov bO=>WE C fr i ρ bO (λiv d0=>Nd C fr setItem ov iv v ρ d0 N X) (X ρ)) (X ρ)) (X ρ))
 (hs:∀env,swapsWith e (some (.Subscript o i p')) p.line env=pure false:=by with_unfolding_all(intro _;rfl)):WS C fr (.Assign [.Subscript o i p'] e p) ρ σ N R J X:=λY Z s ok=>
 wpAny_Assign_Subscript (z0 (h Y Z s ok) λv bF a aM cn cj bq cA n9=>(z0 (n9 Y cn bF bq) λov cV b bO fb cP b1 gZ ii=>(z0 (ii Y fb cV b1) λiv iE c d0 mv i4 dF yV rh=>
  (wU (rh Y mv iE ov iv v dF (gZ.mono i4) yV (cA.mono (cP.trans i4))) λ_ B6 PF mZ EY xv j6 EZ=>⟨PF,mZ,EY,((cj.trans cP).trans i4).trans xv,j6,EZ⟩)))) (hs _)
theorem mw{o i e:Expr}{op:Operator}{p p':Pos}
 (h:WE C fr o ρ σ (λov aM=>WE C fr i ρ aM (λiv bO=>W2 C fr getItem ov iv ρ bO (λuX d0=>WE C fr e ρ d0 (λv mZ=>W2 C fr (inplaceOp op) uX v ρ mZ (λnew iF=>Nd C fr setItem ov iv new ρ iF N X) (X ρ)) (X ρ)) (X ρ)) (X ρ)) (X ρ))
 (hi:∀ov iv new,augStore i ov iv new=(do holding [new,ov,iv] (setItem ov iv new);release [new,ov,iv] [];pure .next):=by with_unfolding_all(intros;rfl)):
 WS C fr (.AugAssign (.Subscript o i p') op e p) ρ σ N R J X:=λY Z s ok=>
 wpAny_AugAssign_SubscriptAny (hi:=hi) (z0 (h Y Z s ok) λov bF a aM cn cj bq cA n9=>(z0 (n9 Y cn bF bq) λiv cV b bO fb cP b1 gZ ii=>
  (z0 (ii Y fb cV ov iv b1 (cA.mono cP) gZ) λuX iE c d0 mv i4 dF yV rh=>(z0 (rh Y mv iE dF) λv B6 d mZ EY xv j6 Ud EZ=>
   (z0 (EZ Y EY B6 uX v j6 (yV.mono xv) Ud) λnew rT f iF rj rU iz Ue Nh=>
    (wU (Nh Y rj rT ov iv new iz (cA.mono (cP.trans (i4.trans (xv.trans rU)))) (gZ.mono (i4.trans (xv.trans rU))) Ue) λ_ E0 PG rV JI E1 og Ni=>⟨PG,rV,JI,cj.trans (cP.trans (i4.trans (xv.trans (rU.trans E1)))),og,Ni⟩))))))
theorem uc(F:aI C fr){E:Value->Shared->Prop}:∀{es:List Expr} {xs:List PV} {vs:List Value} {is:List Nat} {ρ:b9} {s:Shared} {Q:Unit->Shared->Prop},
 (∀(j:Nat) (e:Expr),es[j]?=some e->∃(x:Str) (p:Pos) (i:Nat),e=Expr.Name x p/\is[j]?=some i/\fr.vn[i]?=some x)->es.length=is.length->es.length=xs.length->cO Z xs vs->Ok C fr Y Z ρ σ s->
 (∀s',Ok C fr Y Z ((is.zip xs).foldl (λρ q=>ρ.set q.1 (some q.2)) ρ) σ s'->Q () s')->
 wpAny C.M fr.A (assignInOrder (es.map λe=>assign e fr.env) vs) Q E s
 |[],xs,vs,is,ρ,s,Q,_,h1,h2,r,ok,k=>by
  cases is with
  |nil=>cases xs with
   |nil=>subst r;exact wpAny_pure (k s ok)
   |cons=>simp at h2
  |cons=>simp at h1
 |e::es,xs,vs,is,ρ,s,Q,he,h1,h2,r,ok,k=>by
  cases is with
  |nil=>simp at h1
  |cons i is=>cases xs with
   |nil=>simp at h2
   |cons x xs=>
    obtain⟨v,Gf,rfl,r1,r2⟩:=r
    obtain⟨nm,p,i',rfl,hi,B7⟩:=he 0 e rfl
    simp only[List.getElem?_cons_zero,Option.some.injEq]at hi
    subst hi
    obtain⟨m,hn,hl⟩:=ok.loc
    refine wpAny_assignInOrder_more (wpAny_assign_Name (F.store B7 hn (λh' Nc hs=> ?_)))
    have f6:=ok.bind (t':=s.toks+1) F hl (F.EP B7).1 r1 Nc hs
    exact uc F (λj e hj=>he (j+1) e (by simpa using hj)) (by simpa using h1) (by simpa using h2) r2 f6 k
theorem lH(F:aI C fr){es:List Expr}{e:Expr}{k:Nat}{p p':Pos}(is:List Nat)
 (h:WE C fr e ρ σ (λv aM=>∃xs,v=.tup xs/\es.length=xs.length/\N ((is.zip xs).foldl (λρ q=>ρ.set q.1 (some q.2)) ρ) aM) (X ρ))
 (JJ:∀(j:Nat) (e:Expr),es[j]?=some e->∃(x:Str) (p:Pos) (i:Nat),e=Expr.Name x p/\is[j]?=some i/\fr.vn[i]?=some x) (dZ:es.length=is.length)
 (hz:∀env,assignEach es env=es.map λe=>(false,assign e env):=by with_unfolding_all(intro _;rfl))
 (hs:∀env,swapsWithSole [.Tuple es k p'] e p.line env=pure false:=by with_unfolding_all(intro _;rfl)) (hw:∀env,swappedStores [.Tuple es k p'] e env=pure none:=by with_unfolding_all(intro _;rfl))
 (ha:∀env v,assignAll v ((assignEach [.Tuple es k p'] env).map (·.2))=assign (.Tuple es k p') env v:=by with_unfolding_all(intros;rfl)):
 WS C fr (.Assign [.Tuple es k p'] e p) ρ σ N R J X:=λY Z s ok=>
 wpAny_Assign_stores (wpAny_mono (h Y Z s ok) (λv bF ⟨pv,aM,cn,cj,bq,cA,xs,hx,hl,q⟩=>by
  subst hx
  obtain⟨a,vs,rfl,zt,rl⟩:=fw cA
  rw[ha]
  have Ti:=rl.length
  refine wpAny_assign_Tuple F.handled (zt.tj bq.vals) (by rw[hz];simp;exact hl.trans Ti.symm) (by
   rw[hz,List.findIdx?_eq_none_iff];intro x hx;obtain⟨_,_,rfl⟩:=bj.mp hx;rfl) λh' hb=> ?_
  rw[hz,b3]
  have Uf:Ok C fr Y cn ρ aM {bF with heap:=h'}:=bq.but (wr:=[bF.heap.objs.size]) (t':=bF.toks) (λb o hm e=>hb b o (by simpa using hm) e) (λb hm=>by
   have LZ:b=bF.heap.objs.size:=by simpa using hm
   subst LZ;exact bq.none_of (bg (ai _)))
  exact uc F JJ dZ hl rl Uf λs' f6=>⟨_,aM,cn,cj,f6,q⟩) λ_ _ x=>x.F1) (hs _) (hw _)
end
section
variable{C:Ctx}{fr:Fm}{ρ:b9}{σ:St}{N:b9->St->Prop}{R:PV->St->Prop}{J:Bool->b9->St->Prop}{X:b9->Prop}{Y Y' Z:Zf}{s:Shared}
theorem rW{fr:Fm}(Tp:ir fr):fr.env.frame=some fr.L:=Tp.fL
theorem B8{Y:Zf}{h h':Heap}(u:∀b o,Y b=some o->Gg o->∃sl,h.get? b=some {o with slots:=sl})(k:h.UpToSlots h'):∀b o,Y b=some o->Gg o->∃sl,h'.get? b=some {o with slots:=sl}:=
 λb o e n=>let⟨sl,q⟩:=u b o e n;let⟨sl',q'⟩:=k b _ q n;⟨sl',q'⟩
theorem uW.I7{e:Value}{x:Addr}(k:fP Y Y')(h:uW C fr Y' ρ e s x):uW C fr Y ρ e s x:={h with ES:=λb o e n=>h.ES b o (k _ _ e) n}
noncomputable def Gp(C:Ctx)(fr:Fm)(x:Addr)(h:Heap):Prop:=∃a0,h.TracedAtW C.B x (.ref C.lf) a0 (rawInt fr.L)
theorem uW.turn{e:Value}{x:Addr}{h':Heap}(h:uW C fr Y ρ e s x)(kb:C.B.StaysIn h')(kf:h'.FunFrames C.B fr.xT)(kt:Gh C fr x h')(ku:s.heap.UpToSlots h'):
 uW C fr Y ρ e {s with heap:=h'} x:=
 ⟨h.is,kb,h.new,kf,kt,B8 h.ES ku,let⟨m,Z',a,b⟩:=h.loc;⟨m,Z',ku.ns a,b⟩,h.rest⟩
theorem uW.note(F:aI C fr)(Tp:ir fr){e:Value}{x:Addr}{Q:Unit->Shared->Prop}{E:Value->Shared->Prop}(h:uW C fr Y ρ e s x)(hQ:∀s',uW C fr Y ρ e s' x->Gp C fr x s'.heap->Q () s'):
 wpAny C.M fr.A (noteFrame e fr.env) Q E s:=by
 obtain rfl:=h.is
 have Ff:fr.A.frames=some (fr.env::fr.outer):=F.frames.trans (congrArg some Tp.xT)
 have hf:=h.bh
 rw[Tp.xT]at hf
 rcases h.st with⟨oe,vs,a0,he,hc,hd,h1,h0⟩|⟨a0,ht⟩|⟨a0,ht⟩
 ·unfold noteFrame
  simp only[Tp.fL]
  refine wpAny_bind (wpAny_field he hd h1 ?_)
  rw[if_neg (by decide)]
  refine wpAny_entryW Ff hf (rW Tp) he h.base h.new hd (f0.mp h1).1 h0 λh' ⟨k1,k2,k3,k4⟩=> ?_
  rw[hc]at k3
  exact hQ _ (h.turn k1 (by rw[Tp.xT];exact k2) (.inr (.inr ⟨a0,k3⟩)) k4) ⟨a0,k3⟩
 ·refine wpAny_noteFrame_onW Ff hf (rW Tp) ht h.base h.new λh' ⟨k1,k2,k3,k4⟩=> ?_
  exact hQ _ (h.turn k1 (by rw[Tp.xT];exact k2) (.inr (.inr ⟨a0,k3⟩)) k4) ⟨a0,k3⟩
 ·exact wpAny_noteFrame_againW (rW Tp) ht (hQ _ h ⟨a0,ht⟩)
theorem ud{h h':Heap}{T:Addr}{oT:Obj}{ts:Array Value}(hT:h.get? T=some oT)(hd:oT.data=.fields ts)(k:∀b,b≠T->h'.get? b=h.get? b):
 ∀b o,h.get? b=some o->(∀vs,o.data≠ .fields vs)->h'.get? b=some o:=λb o e n=>by
 rw[k b (λq=>by subst q;rw[hT]at e;cases e;exact n ts hd)];exact e
theorem uW.I8{e:Value}{x:Addr}{fl:Option Addr}{Q:Unit->Shared->Prop}{E:Value->Shared->Prop}(h:uW C fr Y ρ e s x)(hn:Gp C fr x s.heap)
 (hQ:∀s' a0,uW C fr Y ρ e s' x\/fl≠none/\fl≠some fr.L->s'.heap.TracedAtW C.B x (.ref C.lf) a0 (fl.elim .none λf=>rawInt f)->Q () s'):wpAny C.M fr.A (setFlight e fl) Q E s:=by
 obtain rfl:=h.is
 obtain⟨a0,oe,vs,T,oT,ts,he,E2,hd,h1,PH,PI,hT,JK,h3⟩:=hn
 have hsz:3<ts.size:=(f0.mp h3).1
 unfold setFlight
 refine wpAny_bind (wpAny_field he hd h1 ?_)
 rw[if_pos (show(Value.ref T !=Value.none)=true from by simp)]
 refine wpAny_setField hT JK hsz ?_
 have iU:∀b,b≠T->(s.heap.update T (Obj.mapFields (·.setIfInBounds 3 (fl.elim Value.none λf=>rawInt f)))).get? b=s.heap.get? b:=λb hb=>Heap.get?_update_other _ _ (Ne.symm hb)
 have keep:=ud hT JK iU
 have tr:(s.heap.update T (Obj.mapFields (·.setIfInBounds 3 (fl.elim Value.none λf=>rawInt f)))).TracedAtW C.B x (.ref C.lf) a0 (fl.elim .none λf=>rawInt f):=
  ⟨oe,vs,T,_,_,(iU x (Ne.symm PI)).trans he,E2,hd,h1,PH,PI,eN _ hT (Obj.isFreed_of_fields (iq JK _)),iq JK _,by simp[hsz]⟩
 refine hQ _ a0 ?_ tr
 have qr:Gh C fr x (s.heap.update T (Obj.mapFields (·.setIfInBounds 3 (fl.elim Value.none λf=>rawInt f))))->
  uW C fr Y ρ (.ref x) {s with heap:=s.heap.update T (Obj.mapFields (·.setIfInBounds 3 (fl.elim Value.none λf=>rawInt f)))} x:=λk=>h.turn
  (λb o e=>(iU b λq=>by rw[q,PH]at e;cases e).trans (h.base b o e)) (h.bh.of_keeps λb o hb Nj=>⟨o,keep b o hb Nj,rfl⟩) k λb o hb Nj=>⟨o.slots,keep b o hb Nj⟩
 cases fl with
 |none=>exact .inl (qr (.inr (.inl ⟨a0,tr⟩)))
 |some f=>
  by_cases q:f=fr.L
  ·subst q;exact .inl (qr (.inr (.inr ⟨a0,tr⟩)))
  ·exact .inr ⟨by simp,by simpa using q⟩
theorem uW.back(Tp:ir fr){e:Value}{x:Addr}{E:Value->Shared->Prop}(h:uW C fr Y ρ e s x)(hn:Gp C fr x s.heap)(hE:∀s',uW C fr Y ρ e s' x->E e s'):cameBackBy C.M fr.A fr.env E e s:=by
 obtain⟨a0,oe,vs,T,oT,ts,he,E2,hd,h1,r⟩:=id hn
 have hx:=h.is
 unfold cameBackBy
 rw[hx]
 refine wpAny_bind (wpAny_field he hd h1 ?_)
 rw[if_neg (by simp)]
 rw[rW Tp,<-hx]
 refine h.I8 hn λs' a0 k _=> ?_
 rcases k with k|⟨_,k⟩
 ·exact hE s' k
 ·exact absurd rfl k
theorem u5(F:aI C fr)(Tp:ir fr){e:Value}(k:fP Y Y')(h:j4 C fr Y' X e s):notedBy C.M fr.A fr.env (λe s'=>cameBackBy C.M fr.A fr.env (j4 C fr Y X) e s') e s:=by
 obtain⟨ρ',hX,x,hx⟩:=h
 unfold notedBy
 refine(hx.I7 k).note F Tp λs' h' hn=>h'.back Tp hn λDA h''=>⟨ρ',hX,x,h''⟩
theorem Gq(F:aI C fr)(Tp:ir fr){t:Expr}{body L0:List Stmt}{p:Pos}(I:Nat->b9->St->Prop)(n:Nat)(h0:I n ρ σ)
 (turn:∀n ρ σ,I n ρ σ->WT C fr t ρ σ (λb aM=>(b=true->iu C fr body ρ aM (λρ' σ'=>∃m,m<n/\I m ρ' σ') R (λb ρ' σ'=>if b then N ρ' σ' else∃m,m<n/\I m ρ' σ') X)/\(b=false->iu C fr L0 ρ aM N R J X)) (X ρ)):
 WS C fr (.While t body L0 p) ρ σ N R J X:=λY Z s ok=>by
 refine wpAny_While (codeAny_whileLoop (λn s'=>∃ρ' σ' Z',fP Z Z'/\Ok C fr Y Z' ρ' σ' s'/\I n ρ' σ') ?_ n ⟨ρ,σ,Z,fP.refl _,ok,h0⟩)
 rintro n bF ⟨DB,aM,cn,cj,bq,hI⟩
 refine wpAny_mono (turn n DB aM hI Y cn bF bq) (λb cV ⟨bO,fb,cP,b1,q⟩=> ?_) λe s' x=>u5 F Tp (fP.refl _) x.F1
 cases b
 ·simp only[kA,if_false]
  exact wpAny_mono (q.2 rfl Y fb cV b1) (λf iE x=>x.le (cj.trans cP)) λe s' x=>u5 F Tp (fP.refl _) x
 ·simp only[if_true]
  refine wpAny_mono (q.1 rfl Y fb cV b1) (λf iE x=> ?_) λe s' x=>u5 F Tp (fP.refl _) x
  cases f with
  |next=>obtain⟨ρ',σ',Z',k,f6,m,hm,hi⟩:=x;exact⟨m,hm,ρ',σ',Z',(cj.trans cP).trans k,f6,hi⟩
  |cont=>obtain⟨ρ',σ',Z',k,f6,hj⟩:=x;simp only[kA,if_false]at hj;obtain⟨m,hm,hi⟩:=hj;exact⟨m,hm,ρ',σ',Z',(cj.trans cP).trans k,f6,hi⟩
  |brk=>obtain⟨ρ',σ',Z',k,f6,hj⟩:=x;simp only[if_true]at hj;exact⟨ρ',σ',Z',(cj.trans cP).trans k,f6,hj⟩
  |ret v=>exact x.le (cj.trans cP)
noncomputable def Yb(Y:Zf)(fp:List Addr)(h:Heap):Zf:=λb=>if b∈fp then h.get? b else Y b
theorem Yb.le{fp:List Addr}{h:Heap}(k:LW Y h):fP Y (Yb Y fp h):=λb o e=>by
 unfold Yb;split
 ·exact k b o e
 ·exact e
theorem Ok.I9(ok:Ok C fr Y Z ρ σ s){fp:List Addr}(hL:fr.L∉fp)(BY:∀b∈fp,σ b=none):Ok C fr (Yb Y fp s.heap) Z ρ σ s:=
 ⟨ok.base,λb o e=>by unfold Yb at e;split at e;exact e;exact ok.keep b o e,ok.vals,by unfold Yb;rw[if_neg hL];exact ok.yl,ok.zl,ok.bl,ok.loc,ok.jq,
  λa c e=>let⟨n1,n2,n3,n4⟩:=ok.own a c e;⟨n1,by unfold Yb;rw[if_neg (λq=>by rw[BY a q]at e;cases e)];exact n2,n3,n4⟩,ok.bh.mono (Yb.le ok.keep),ok.rest,ok.zn,ok.fz⟩
structure LI(C:Ctx)(fr:Fm)(Y Z:Zf)(I:Addr)(fp:List Addr)(lI:Nat->Heap->Prop)(s:Shared)(j:Nat)(ρ':b9)(σ':St)(Z':Zf)(s':Shared):Prop where
 z:fP Z Z'
 ok:Ok C fr Y Z' ρ' σ' s'
 st:lI j s'.heap
 wk:∀b∈fp,∃o,s'.heap.get? b=some o/\(b≠I->s.heap.get? b=some o)
 no:∀b∈fp,σ' b=none
inductive FI(C:Ctx)(fr:Fm)(Y Z:Zf)(I:Addr)(fp:List Addr)(lI:Nat->Heap->Prop)(s:Shared)(n:Nat)(Inv:Nat->b9->St->Prop):Nat->Shared->Prop
 |mk {ρ':b9} {σ':St} {Z':Zf} {j:Nat} {s':Shared} (h:LI C fr Y Z I fp lI s j ρ' σ' Z' s') (i:Inv j ρ' σ') (l:j<=n):FI C fr Y Z I fp lI s n Inv (n+1-j) s'
theorem LI.zI{I:Addr}{fp:List Addr}{lI:Nat->Heap->Prop}{s':Shared}{j:Nat}{ρ':b9}{σ':St}{Z':Zf}(h:LI C fr Y Z I fp lI s j ρ' σ' Z' s')(hF:∀k h,lI k h->∃o,h.get? I=some o/\¬lG o):Z' I=none:=by
 obtain⟨oI,hoI,hnI⟩:=hF _ _ h.st
 cases q:Z' I with
 |none=>rfl
 |some o=>have:=h.ok.vals I o q;rw[hoI]at this;cases this;exact absurd (h.ok.zn I _ q).1 hnI
theorem LI.next{I:Addr}{fp wr:List Addr}{lI:Nat->Heap->Prop}{s':Shared}{j n:Nat}{P:Nat->Value->Prop}{ρ':b9}{σ':St}{Z':Zf}(h:LI C fr Y Z I fp lI s j ρ' σ' Z' s')(hF:∀k h,lI k h->∃o,h.get? I=some o/\¬lG o)
 (W:Walks C.prog C.w fr.A I fp wr n P lI) (zT:∀b∈wr,b=I) (hL:fr.L∉fp) (hI:C.B.get? I=none/\Y I=none) {fM:Heap} {tk:Nat} (hk:∀b o,b∉wr->s'.heap.get? b=some o->fM.get? b=some o):Ok C fr Y Z' ρ' σ' {s' with heap:=fM,toks:=tk}:=
 h.ok.but hk λb hb=>by
  obtain rfl:=zT b hb
  exact⟨hI.1,hI.2,h.zI hF,λq=>hL (q▸W.sub _ hb),h.no _ (W.sub _ hb)⟩
theorem LI.back{I:Addr}{fp gp:List Addr}{n:Nat}{P:Nat->Value->Prop}{lI:Nat->Heap->Prop}{wr:List Addr}(W:Walks C.prog C.w fr.A I fp wr n P lI){iS:Heap}{j:Nat}(rX:lI j iS)(there:∀b∈fp,∃o,iS.get? b=some o/\(b≠I->s.heap.get? b=some o))(hg:∀b∈fp,b∈gp)
 {rT:Shared} {qx:b9} {iF:St} {rj:Zf} (iz:Ok C fr (Yb Y gp iS) rj qx iF rT) {Ug:Zf} {PJ:b9} {PK:St} {PL:Shared} (PM:Ok C fr Y Ug PJ PK PL) (kY:fP Y (Yb Y gp iS)) (k:fP Z rj):LI C fr Y Z I fp lI s j qx iF rj rT:=
 ⟨k,iz.I7 kY PM.bh,W.frame _ _ _ rX λb hb o e=>iz.keep b o (by unfold Yb;rw[if_pos (hg b hb)];exact e),λb hb=>by
  obtain⟨o,ho,hq⟩:=there b hb
  exact⟨o,iz.keep b o (by unfold Yb;rw[if_pos (hg b hb)];exact ho),hq⟩,λb hb=>by
  cases q:iF b with
  |none=>rfl
  |some c=>
   obtain⟨o,ho,_⟩:=there b hb
   have:=(iz.own b c q).2.1
   unfold Yb at this;rw[if_pos (hg b hb),ho]at this;cases this⟩
theorem LI.there{I:Addr}{fp wr:List Addr}{lI:Nat->Heap->Prop}{s':Shared}{j:Nat}{ρ':b9}{σ':St}{Z':Zf}(h:LI C fr Y Z I fp lI s j ρ' σ' Z' s')(hF:∀k h,lI k h->∃o,h.get? I=some o/\¬lG o)(zT:∀b∈wr,b=I)
 {gt iS:Heap} {i:Nat} (rX:lI i iS) (rY:∀b o,b∉wr->s'.heap.get? b=some o->gt.get? b=some o) (e3:∀b∈fp,iS.get? b=gt.get? b):∀b∈fp,∃o,iS.get? b=some o/\(b≠I->s.heap.get? b=some o):=λb hb=>by
 by_cases hZ:b=I
 ·subst hZ
  obtain⟨o,ho,_⟩:=hF _ _ rX
  exact⟨o,ho,λh=>absurd rfl h⟩
 ·obtain⟨o,ho,hq⟩:=h.wk b hb
  exact⟨o,(e3 b hb).trans (rY b o (λh=>hZ (zT b h)) ho),hq⟩
theorem Gs(F:aI C fr)(Tp:ir fr){x:Str}{px:Pos}{body:List Stmt}{I:Addr}{fp wr:List Addr}{n:Nat}{P:Nat->Value->Prop}{lI:Nat->Heap->Prop}{xs:List PV}{NB:b9->St->Prop}
 (i:Nat) (hx:fr.vn[i]?=some x) (W:Walks C.prog C.w fr.A I fp wr n P lI) (zT:∀b∈wr,b=I) (hn:n=xs.length)
 (ue:∀k v Z',fP Z Z'->k<n->P k v->∃pv,xs[k]?=some pv/\gg Z' pv v) (hF:∀k h,lI k h->∃o,h.get? I=some o/\¬lG o)
 (ok:Ok C fr Y Z ρ σ s) (kI:lI 0 s.heap) (hL:fr.L∉fp) (BY:∀b∈fp,σ b=none) (Jg:∀b∈fp,∃o,s.heap.get? b=some o) (hI:C.B.get? I=none/\Y I=none)
 (Inv:Nat->b9->St->Prop) (h0:Inv 0 ρ σ)
 (step:∀k pv ρ' σ',xs[k]?=some pv->Inv k ρ' σ'->iu C fr body (ρ'.set i (some pv)) σ' (Inv (k+1)) R (λb z8 oh=>if b then NB z8 oh else Inv (k+1) z8 oh) X)
 {RR:Result->Shared->Prop}
 (hE:∀s' ρ' σ' Z',fP Z Z'->Ok C fr Y Z' ρ' σ' s'->(∀b∈fp,b≠I->s'.heap.get? b=s.heap.get? b)->(∀b∈fp,σ' b=none)->(Inv n ρ' σ'\/NB ρ' σ')->RR (.ok .next) s')
 (hR:∀s' v,xV C fr Y Z (λ_ _=>False) R (λ_ _ _=>False) (.ret v) s'->RR (.ok (.ret v)) s')
 (hX:∀e s',cameBackBy C.M fr.A fr.env (j4 C fr Y X) e s'->RR (.error e) s'):
 codeAny C.M fr.A (.forLoop (.Name x px) (.ref I) body [] fr.env) RR s:=by
 refine codeAny_forLoop (FI C fr Y Z I fp lI s n Inv) ?_ (n+1) (FI.mk ⟨fP.refl _,ok,kI,λb hb=>let⟨o,ho⟩:=Jg b hb;⟨o,ho,λ_=>ho⟩,BY⟩ h0 (fh _))
 intro k bF h
 cases h with
 |@mk DB aM cn j _ h z9 hj=>
 by_cases eP:j<n
 ·refine W.item j _ _ _ eP h.st λv gt Aa hP B9 rY=> ?_
  obtain⟨pv,JL,rv⟩:=ue j v cn h.z eP hP
  have b1:=h.next (tk:=Aa) hF W zT hL hI rY
  obtain⟨m,hm,hl⟩:=b1.loc
  refine wpAny_assign_Name (F.store hx hm (λiS Gu xW=> ?_))
  have dF:=b1.bind (t':=Aa+1) F hl (F.EP hx).1 rv Gu xW
  have e3:∀b∈fp,iS.get? b=gt.get? b:=λb hb=>xW.2 b λq=>hL (by rw[<-show b=fr.L from q];exact hb)
  have rX:lI (j+1) iS:=W.frame _ _ _ B9 λb hb o e=>(e3 b hb).trans e
  have kY:=Yb.le (fp:=fp) dF.keep
  have bk:=λ{rT qx iF rj} (iz:Ok C fr (Yb Y fp iS) rj qx iF rT) k=>LI.back W rX (h.there hF zT rX rY e3) (λ_ h=>h) iz ok kY (h.z.trans k)
  have nx:n+1-j=n+1-(j+1)+1:=(Nat.sub_eq_iff_eq_add (a6 hj|>Nat.le_of_succ_le)).mpr (by rw[bW,bR 1 j,ky (a6 hj)])
  refine wpAny_mono (step j pv DB aM JL z9 _ cn _ (dF.I9 hL h.no)) (λf rT x=> ?_) λe s' x=> ?_
  ·cases f with
   |next=>obtain⟨qx,iF,rj,rU,iz,hi⟩:=x;exact⟨_,nx▸cf _,.mk (bk iz rU) hi eP⟩
   |cont=>obtain⟨qx,iF,rj,rU,iz,hi⟩:=x;exact⟨_,nx▸cf _,.mk (bk iz rU) hi eP⟩
   |brk=>obtain⟨qx,iF,rj,rU,iz,hi⟩:=x;have b:=bk iz rU;exact hE rT qx iF rj b.z b.ok (λc hb hZ=>let⟨o,h1,h2⟩:=b.wk c hb;h1.trans (h2 hZ).symm) b.no (.inr hi)
   |ret v=>obtain⟨pw,qx,iF,rj,rU,iz,rv,hi⟩:=x;have b:=bk iz rU;exact hR rT v ⟨pw,qx,iF,rj,b.z,b.ok,rv,hi⟩
  ·have:=u5 F Tp kY x
   exact wpAny_mono this (λ_ DA y=>hX _ _ y) λ_ DA y=>hX _ _ y
 ·have Uh:j=n:=dH hj (cu eP)
  subst Uh
  refine W.done _ _ _ h.st λfM DC vy=>wpAny_execs_nil ?_
  refine hE _ DB aM cn h.z (h.next (tk:=DC) hF W zT hL hI vy) (λb hb hZ=> ?_) h.no (.inl z9)
  obtain⟨o,ho,hq⟩:=h.wk b hb
  exact(vy b o (λh=>hZ (zT b h)) ho).trans (hq hZ).symm
end
noncomputable def vz(h:Heap)(d:Addr)(es:Array DictEntry)(ep:Nat):Prop:=∃o,h.get? d=some o/\o.ExactDict/\o.data=.dict es ep
theorem vz.at{h h':Heap}{d:Addr}{es:Array DictEntry}{ep:Nat}(x:vz h d es ep)(e:∀o,h.get? d=some o->h'.get? d=some o):vz h' d es ep:=let⟨o,ho,r⟩:=x;⟨o,e _ ho,r⟩
section
variable{prog:Program}{w:World}{A:Around}{E:Value->Shared->Prop}{s:Shared}
theorem rZ{d:Addr}{es:Array DictEntry}{ep:Nat}{Q:Value->Shared->Prop}(hd:d≠sysModules)(hm:vz s.heap d es ep)
 (hQ:Q (.ref s.heap.objs.size) {s with heap:=s.heap.push {cls:= .type "dict_keyiterator",data:= .fields #[.ref d,.int 0 0,.int es.size 0,.int ep 0]}}):
 wpAny (model prog w) A (pyIter (.ref d)) Q E s:=by
 obtain⟨o,ho,hc,PN⟩:=hm
 have hT:s.TypeIs (.ref d) "dict":=⟨o,ho,hc.1⟩
 refine wpAny_pyIter_slot hT F.slot_dict_iter (wpAny_call_entry F.slot_dict_iter hT F.entry_dict_iter ?_ (F.args_dict_iter_1 _))
 unfold Builtin.«dict.__iter__» Builtin.Dict.dictSlotNone
 refine wpAny_bind (wpAny_bind (wpAny_notOrdered_dict hT (wpAny_pure ?_)))
 show wpAny _ _ (Builtin.Dict.showsAll d>>=_) _ _ s
 unfold Builtin.Dict.showsAll
 rw[if_neg (by simpa using hd)]
 refine wpAny_bind (wpAny_pure (wpAny_bind (wpAny_dictEntries ho PN (wpAny_bind (wpAny_dictEpoch ho PN ?_)))))
 exact wpAny_bind (wpAny_newObj_type (wpAny_pure ⟨_,rfl,"dict_keyiterator",_,⟨_,aN _ rfl,rfl⟩,fB.lookup,hQ⟩))
theorem r4{it d:Addr}{i ep:Nat}{es:Array DictEntry}{en:DictEntry}{Q:Option Value->Shared->Prop}(hit:s.heap.IsKeyIter it d i es.size ep)(hm:vz s.heap d es ep)(hx:es[i]?=some en)
 (hQ:∀h',h'.IsKeyIter it d (i+1) es.size ep->Heap.SameBut it s.heap h'->Q (some en.key) {s with heap:=h'}):
 wpAny (model prog w) A (pyNext (.ref it)) Q E s:=by
 obtain⟨o,ho,hc,hd⟩:=id hit
 obtain⟨od,Ca,PP,F4⟩:=hm
 obtain⟨eP,O7⟩:=f0.mp hx
 unfold pyNext
 refine wpAny_bind (wpAny_attempt (wpAny_callSpecial?_slot (name:=Str.ofString "__next__") hit.typeIs fB
  (wpAny_call_entry fB hit.typeIs F.entry_dict_keyiterator_next ?_ (F.args_dict_keyiterator_next_1 _))))
 refine wpAny_bind (wpAny_pure (wpAny_bind (wpAny_bind ?_)))
 first|refine wpAny_bind (wpAny_typeNameOfWhole_keyiter hit.typeIs (wpAny_pure ?_))|refine wpAny_bind (wpAny_typeNameOf_keyiter hit.typeIs (wpAny_pure ?_))
 refine wpAny_bind (wpAny_fieldsOf ho hd ?_)
 rw[if_neg (show¬(Builtin.Dict_items.ownsTuple "dict_keyiterator"=true) by decide)]
 show wpAny _ _ (if(Value.ref d==Value.none)=true then _ else _) _ _ s
 rw[if_neg (show¬((Value.ref d==Value.none)=true)from f5)]
 refine wpAny_bind (wpAny_pure (wpAny_bind (wpAny_dictEntries Ca F4 ?_)))
 rw[if_neg (by simp)]
 refine wpAny_bind (wpAny_pure (wpAny_bind (wpAny_dictEpoch Ca F4 ?_)))
 rw[if_neg (by simp)]
 refine wpAny_pure ?_
 dsimp only
 rw[(if_neg (eX.mpr (aF i))).trans (show es[(i:Int).toNat]?=some en from hx)]
 refine wpAny_bind ?_
 first|refine wpAny_bind (wpAny_typeNameOfWhole_keyiter hit.typeIs (wpAny_pure ?_))|refine wpAny_bind (wpAny_typeNameOf_keyiter hit.typeIs (wpAny_pure ?_))
 refine wpAny_bind (wpAny_isOneOf_keyiter hit.typeIs ?_)
 show wpAny _ _ (setField (.ref it) 1 (rawInt ((i:Int)+1))>>=_) _ _ s
 refine wpAny_bind (wpAny_setField ho hd (by simp) ?_)
 have JM:(s.heap.update it (Obj.mapFields (·.setIfInBounds 1 (rawInt ((i:Int)+1))))).IsKeyIter it d (i+1) es.size ep:=
  ⟨_,eN _ ho (Obj.isFreed_of_fields (iq hd _)),(Obj.cls_mapFields ..).trans hc,by rw[iq hd];simp[rawInt]⟩
 refine wpAny_bind (wpAny_holding ?_)
 refine wpAny_bind (wpAny_isOneOf_keyiter (s:={s with heap:=s.heap.update it (Obj.mapFields (·.setIfInBounds 1 (rawInt ((i:Int)+1))))}) JM.typeIs ?_)
 show wpAny _ _ (pure en.key) _ _ _
 exact wpAny_pure (wpAny_pure ⟨_,rfl,wpAny_pure (hQ _ JM (jw ..))⟩)
theorem to{it d:Addr}{ep:Nat}{es:Array DictEntry}{Q:Option Value->Shared->Prop}(hh:A.handled=none)(hit:s.heap.IsKeyIter it d es.size es.size ep)(hm:vz s.heap d es ep)
 (hQ:∀h',Heap.ExtBut it s.heap h'->Q none {s with heap:=h'}):wpAny (model prog w) A (pyNext (.ref it)) Q E s:=by
 obtain⟨o,ho,hc,hd⟩:=id hit
 obtain⟨od,Ca,PP,F4⟩:=hm
 unfold pyNext
 refine wpAny_bind (wpAny_attempt (wpAny_callSpecial?_slot (name:=Str.ofString "__next__") hit.typeIs fB
  (wpAny_call_entry fB hit.typeIs F.entry_dict_keyiterator_next ?_ (F.args_dict_keyiterator_next_1 _))))
 refine wpAny_bind (wpAny_pure (wpAny_bind (wpAny_bind ?_)))
 first|refine wpAny_bind (wpAny_typeNameOfWhole_keyiter hit.typeIs (wpAny_pure ?_))|refine wpAny_bind (wpAny_typeNameOf_keyiter hit.typeIs (wpAny_pure ?_))
 refine wpAny_bind (wpAny_fieldsOf ho hd ?_)
 rw[if_neg (show¬(Builtin.Dict_items.ownsTuple "dict_keyiterator"=true) by decide)]
 show wpAny _ _ (if(Value.ref d==Value.none)=true then _ else _) _ _ s
 rw[if_neg (show¬((Value.ref d==Value.none)=true)from f5)]
 refine wpAny_bind (wpAny_pure (wpAny_bind (wpAny_dictEntries Ca F4 ?_)))
 rw[if_neg (by simp)]
 refine wpAny_bind (wpAny_pure (wpAny_bind (wpAny_dictEpoch Ca F4 ?_)))
 rw[if_neg (by simp)]
 refine wpAny_pure ?_
 dsimp only
 rw[(if_neg (eX.mpr (aF es.size))).trans (show es[(es.size:Int).toNat]?=none from Array.getElem?_eq_none (ai es.size))]
 refine wpAny_bind ?_
 first|refine wpAny_bind (wpAny_typeNameOfWhole_keyiter hit.typeIs (wpAny_pure ?_))|refine wpAny_bind (wpAny_typeNameOf_keyiter hit.typeIs (wpAny_pure ?_))
 show wpAny _ _ (setField (.ref it) 0 .none>>=_) _ _ s
 refine wpAny_bind (wpAny_setField ho hd (by simp) ?_)
 show wpAny _ _ (newExc (.type "StopIteration") []>>=_) _ _ _
 refine wpAny_bind ?_
 unfold newExc newTuple
 refine wpAny_bind (wpAny_newObj_type ?_ (by size_fits))
 refine wpAny_bind (m:=firstArgMember _ _) (wpAny_of_eq (a:=Value.none) rfl ?_)
 refine wpAny_newObj_type ?_ (by size_fits)
 unfold raiseNew
 refine wpAny_bind (wpAny_handled ?_)
 rw[show A.in1.handled=none from hh]
 refine wpAny_bind (wpAny_pure (wpAny_throw ?_))
 refine wpAny_bind (wpAny_isInstance (T:="StopIteration") (b:=true) ⟨_,aN _ rfl,rfl⟩ isSubtype_stop ?_)
 exact wpAny_pure (hQ _ (((jw ..).extBut.push _).push _))
theorem Walks.M6(hh:A.handled=none)(I d:Addr)(hZ:d≠I)(es:Array DictEntry)(ep:Nat):
 Walks prog w A I [I,d] [I] es.size (λi v=>∃en,es[i]?=some en/\v=en.key) (λi h=>h.IsKeyIter I d i es.size ep/\vz h d es ep)where
 sub:=λb hb=>by simp at hb;simp[hb]
 frame:=λ_ _ _ st hk=>⟨st.1.at λo e=>hk I (by simp) o e,st.2.at λo e=>hk d (by simp) o e⟩
 item:=λi s Q E hi st hQ=>by
  have hx:es[i]?=some es[i]:=by simp[hi]
  refine r4 st.1 st.2 hx λh' JM E3=> ?_
  exact hQ _ h' s.toks ⟨_,hx,rfl⟩ ⟨JM,st.2.at λo e=>E3.extBut d o hZ e⟩ λb o hb e=>E3.extBut b o (λh=>hb (by simp[h])) e
 done:=λs Q E st hQ=>to hh st.1 st.2 λh' Tj=>hQ h' s.toks λb o hb e=>Tj b o (λh=>hb (by simp[h])) e
 self:=λ_ _ _ _ st hQ=>wpAny_pyIter_keyiter st.1 hQ
end
section
variable{C:Ctx}{fr:Fm}{ρ:b9}{σ:St}{N:b9->St->Prop}{R:PV->St->Prop}{J:Bool->b9->St->Prop}{X:b9->Prop}{Y Z:Zf}{s:Shared}
inductive Ab(C:Ctx)(fr:Fm)(xs:List PV)(zU:St)(rest:St->St)(Y Z:Zf)(ρ:b9)(it:Value)(s':Shared):Prop
 |mk (I:Addr) (fp wr:List Addr) (n:Nat) (P:Nat->Value->Prop) (lI:Nat->Heap->Prop) (is:it=.ref I) (W:Walks C.prog C.w fr.A I fp wr n P lI) (zT:∀b∈wr,b=I) (hn:n=xs.length)
  (ue:∀k v Z',fP Z Z'->k<n->P k v->∃pv,xs[k]?=some pv/\gg Z' pv v) (hF:∀k h,lI k h->∃o,h.get? I=some o/\¬lG o)
  (ok:Ok C fr Y Z ρ zU s') (kI:lI 0 s'.heap) (hL:fr.L∉fp) (BY:∀b∈fp,zU b=none) (Jg:∀b∈fp,∃o,s'.heap.get? b=some o) (hI:C.B.get? I=none/\Y I=none)
  (hr:∀DA ρ' σ' Z',fP Z Z'->Ok C fr Y Z' ρ' σ' DA->(∀b∈fp,b≠I->DA.heap.get? b=s'.heap.get? b)->(∀b∈fp,σ' b=none)->Ok C fr Y Z' ρ' (rest σ') DA):Ab C fr xs zU rest Y Z ρ it s'
noncomputable def kQ(C:Ctx)(fr:Fm)(a:PV)(xs:List PV)(σ zU:St)(rest:St->St):Prop:=
 ∀Y Z ρ s va (E:Value->Shared->Prop),Ok C fr Y Z ρ σ s->gg Z a va->wpAny C.M fr.A (pyIter va) (Ab C fr xs zU rest Y Z ρ) E s
inductive Gv(C:Ctx)(fr:Fm)(a:PV)(i:Nat)(body:List Stmt)(ρ:b9)(σ:St)(N:b9->St->Prop)(R:PV->St->Prop)(X:b9->Prop):Prop
 |mk (xs:List PV) (zU:St) (rest:St->St) (hit:kQ C fr a xs σ zU rest) (Inv:Nat->b9->St->Prop) (h0:Inv 0 ρ zU)
  (step:∀k pv ρ' σ',xs[k]?=some pv->Inv k ρ' σ'->iu C fr body (ρ'.set i (some pv)) σ' (Inv (k+1)) R (λb z8 oh=>if b then N z8 (rest oh)else Inv (k+1) z8 oh) X)
  (qr:∀ρ' σ',Inv xs.length ρ' σ'->N ρ' (rest σ'))
theorem u6(F:aI C fr)(Tp:ir fr){x:Str}{px p:Pos}{iter:Expr}{body:List Stmt}(i:Nat)(hx:fr.vn[i]?=some x)
 (h:WE C fr iter ρ σ (λa aM=>Gv C fr a i body ρ aM N R X) (X ρ))
 (hs:∀env v,foldedSetIterable iter env v=pure v:=by with_unfolding_all(intro _ _;rfl)):WS C fr (.For (.Name x px) iter body [] p) ρ σ N R J X:=λY Z s ok=>by
 refine wpAny_For (z0 (h Y Z s ok) λva bF a aM cn cj bq cA p=> ?_) (hs _)
 obtain⟨xs,zU,rest,hit,Inv,h0,step,qr⟩:=p
 refine wP (hit Y cn ρ bF va _ bq cA) λit cV p=> ?_
 obtain⟨I,fp,wr,n,P,lI,rfl,W,zT,rfl,ue,hF,b1,kI,hL,BY,Jg,Ui,xX⟩:=p
 refine Gs F Tp (R:=R) (X:=X) (NB:=λρ' σ'=>N ρ' (rest σ')) i hx W zT rfl ue hF b1 kI hL BY Jg Ui Inv h0 step (λs' ρ' σ' Z' k' f6 hb Nk hN=>⟨ρ',rest σ',Z',cj.trans k',xX s' ρ' σ' Z' k' f6 hb Nk,hN.elim (qr ρ' σ') id⟩) (λs' v hv=> ?_) λe s' he=>he
 obtain⟨pv,ρ',σ',Z',k',f6,rv,hr⟩:=hv
 exact⟨pv,ρ',σ',Z',cj.trans k',f6,rv,hr⟩
theorem Ok.mT(ok:Ok C fr Y Z ρ σ s)(o:Obj):Ok C fr Y Z ρ σ {s with heap:=s.heap.push o}/\C.B.get? s.heap.objs.size=none/\Y s.heap.objs.size=none/\s.heap.objs.size≠fr.L/\σ s.heap.objs.size=none:=by
 obtain⟨n1,n2,_,n4,n5⟩:=ok.none_of (bg (ai _))
 exact⟨ok.push (t':=s.toks) o,n1,n2,n4,n5⟩
theorem yX(ok:Ok C fr Y Z ρ σ s){a:Addr}{o:Obj}(hz:Z a=some o):a≠fr.L:=λq=>by subst q;rw[ok.zl]at hz;cases hz
theorem tq(ok:Ok C fr Y Z ρ σ s){a:Addr}{o:Obj}(hz:Z a=some o):σ a=none:=by
 cases q:σ a with
 |none=>rfl
 |some c=>have:=(ok.own a c q).2.2.1;rw[hz]at this;cases this
noncomputable def qc(x:Str):List PV:=x.cps.toList.map λc=> .str ⟨#[c]⟩
theorem vA{Z:Zf}{x:Str}{k:Nat}{v:Value}(h:SignAt x k v):∃pv,(qc x)[k]?=some pv/\gg Z pv v:=by
 obtain⟨c,u,hc,rfl⟩:=h
 exact⟨.str ⟨#[c]⟩,by simp[qc,hc],fQ _ _⟩
theorem Gw(F:aI C fr)(x:Str):kQ C fr (.str x) (qc x) σ σ id:=by
 intro Y Z ρ s va E ok r
 obtain⟨t,rfl⟩:=a7 r
 cases ha:x.cps.all (·<128)
 ·refine wpAny_pyIter_wide ha ?_
  obtain⟨f6,n1,n2,n4,n5⟩:=ok.mT {cls:= .type "str_iterator",data:= .fields #[.str x t,.int 0 0]}
  refine⟨_,_,_,_,_,_,rfl,Walks.strWide F.handled _ x t,by simp,by simp[qc],λk v Z' _ _ h=>vA h,λk h ⟨o,ho,hc,_⟩=>⟨o,ho,?_⟩,f6,⟨_,aN _ rfl,rfl,rfl⟩,by simpa using Ne.symm n4,by simpa using n5,?_,⟨n1,n2⟩,λDA ρ' σ' Z' _ i5 _ _=>i5⟩
  ·unfold lG;rw[hc];decide
  ·intro b hb;simp only[ak,aP,or_false]at hb;subst hb;exact⟨_,aN _ rfl⟩
 ·refine wpAny_pyIter_ascii ha ?_
  obtain⟨f6,n1,n2,n4,n5⟩:=ok.mT {cls:= .type "str_ascii_iterator",data:= .fields #[.str x t,.int 0 0]}
  refine⟨_,_,_,_,_,_,rfl,Walks.strAscii F.handled _ x t,by simp,by simp[qc],λk v Z' _ _ h=>vA h,λk h ⟨o,ho,hc,_⟩=>⟨o,ho,?_⟩,f6,⟨_,aN _ rfl,rfl,rfl⟩,by simpa using Ne.symm n4,by simpa using n5,?_,⟨n1,n2⟩,λDA ρ' σ' Z' _ i5 _ _=>i5⟩
  ·unfold lG;rw[hc];decide
  ·intro b hb;simp only[ak,aP,or_false]at hb;subst hb;exact⟨_,aN _ rfl⟩
theorem Gx(F:aI C fr)(xs:List PV):kQ C fr (.tup xs) xs σ σ id:=by
 intro Y Z ρ s va E ok r
 obtain⟨a,vs,rfl,zt,rl⟩:=fw r
 have ht:=zt.tj ok.vals
 obtain⟨n,hz⟩:=zt
 refine wpAny_pyIter_tuple ht ?_
 obtain⟨f6,n1,n2,n4,n5⟩:=ok.mT {cls:= .type "tuple_iterator",data:= .fields #[.ref a,.int 0 0]}
 have ho:=ok.vals _ _ hz
 have eP:a≠s.heap.objs.size:=bX (dc ho)
 refine⟨_,_,_,_,_,_,rfl,Walks.tuple F.handled _ a eP vs.toArray,by simp,by simp[rl.length],λk v Z' kz hk h=> ?_,λk h ⟨⟨o,ho,hc,_⟩,_⟩=>⟨o,ho,?_⟩,f6,⟨⟨_,aN _ rfl,rfl,rfl⟩,ht.push _⟩,?_,?_,?_,⟨n1,n2⟩,λDA ρ' σ' Z' _ i5 _ _=>i5⟩
 ·have hv:vs[k]?=some v:=by simpa using h
  have tm:k<xs.length:=by simpa[rl.length]using hk
  have hx:xs[k]?=some xs[k]:=by simp[tm]
  obtain⟨v',Gy,r'⟩:=rl.get hx
  rw[hv]at Gy;cases Gy
  exact⟨_,hx,r'.mono kz⟩
 ·unfold lG;rw[hc];decide
 ·simp only[ak,aP,or_false,not_or];exact⟨Ne.symm n4,Ne.symm (yX ok hz)⟩
 ·intro b hb;simp only[ak,aP,or_false]at hb
  rcases hb with rfl|rfl
  ·exact n5
  ·exact tq ok hz
 ·intro b hb;simp only[ak,aP,or_false]at hb
  rcases hb with rfl|rfl
  ·exact⟨_,aN _ rfl⟩
  ·exact⟨_,aG _ ho⟩
theorem xY(F:aI C fr){l:Addr}{xs:List PV}(hc:σ l=some (.list xs)):kQ C fr (.loc l) xs σ (σ.del l) (λσ'=>σ'.upd l (.list xs)):=by
 intro Y Z ρ s va E ok r
 obtain rfl:=bA r
 obtain⟨o,ho,vs,n,rfl,rl⟩:=ok.jq l _ hc
 obtain⟨m1,m2,m3,m4⟩:=ok.own l _ hc
 have hl:s.heap.IsList l vs.toArray:=⟨_,ho,rfl,n,rfl⟩
 refine wpAny_pyIter_list hl ?_
 obtain⟨f6,n1,n2,n4,n5⟩:=ok.mT {cls:= .type "list_iterator",data:= .fields #[.ref l,.int 0 0]}
 have eP:l≠s.heap.objs.size:=bX (dc ho)
 refine⟨_,_,_,_,_,_,rfl,Walks.list F.handled _ l eP vs.toArray,by simp,by simp[rl.length],λk v Z' kz hk h=> ?_,λk h ⟨⟨o,ho,hc,_⟩,_⟩=>⟨o,ho,?_⟩,?_,⟨⟨_,aN _ rfl,rfl,rfl⟩,⟨_,aG _ ho,rfl,n,rfl⟩⟩,?_,?_,?_,⟨n1,n2⟩,?_⟩
 ·have hv:vs[k]?=some v:=by simpa using h
  have tm:k<xs.length:=by simpa[rl.length]using hk
  have hx:xs[k]?=some xs[k]:=by simp[tm]
  obtain⟨v',Gy,r'⟩:=rl.get hx
  rw[hv]at Gy;cases Gy
  exact⟨_,hx,r'.mono kz⟩
 ·unfold lG;rw[hc];decide
 ·exact⟨f6.base,f6.keep,f6.vals,f6.yl,f6.zl,f6.bl,f6.loc,λb d e=>f6.jq b d (St.mj e).2,λb d e=>f6.own b d (St.mj e).2,f6.bh,f6.rest,f6.zn,f6.fz⟩
 ·simp only[ak,aP,or_false,not_or];exact⟨Ne.symm n4,Ne.symm m4⟩
 ·intro b hb;simp only[ak,aP,or_false]at hb
  rcases hb with rfl|rfl
  ·unfold St.del;split
   ·rfl
   ·exact n5
  ·simp[St.del]
 ·intro b hb;simp only[ak,aP,or_false]at hb
  rcases hb with rfl|rfl
  ·exact⟨_,aN _ rfl⟩
  ·exact⟨_,aG _ ho⟩
 ·intro DA ρ' σ' Z' kz i5 PQ Nk
  have h1:DA.heap.get? l=some {cls:= .type "list",data:= .seq vs.toArray n}:=(PQ l (by simp) eP).trans (aG _ ho)
  have zn:Z' l=none:=by
   cases q:Z' l with
   |none=>rfl
   |some o'=>
    have h2:=i5.vals l o' q
    rw[h1]at h2;cases h2
    have:=(i5.zn l _ q).1
    unfold lG at this;simp at this
  refine⟨i5.base,i5.keep,i5.vals,i5.yl,i5.zl,i5.bl,i5.loc,λb d e=> ?_,λb d e=> ?_,i5.bh,i5.rest,i5.zn,i5.fz⟩
  all_goals replace e:σ'.upd l (.list xs) b=some d:=e
  ·by_cases q:b=l
   ·subst q;rw[St.bz]at e;cases e;exact⟨_,h1,vs,n,rfl,rl.mono kz⟩
   ·rw[St.bu _ _ q]at e;exact i5.jq b d e
  ·by_cases q:b=l
   ·subst q;exact⟨m1,m2,zn,m4⟩
   ·rw[St.bu _ _ q]at e;exact i5.own b d e
noncomputable def tu(a c:Int)(n:Nat):List PV:=(List.range n).map λi=> .int (a+(i:Nat)*c)
theorem xw{a c:Int}{n:Nat}:(tu a c n).length=n:=by simp[tu]
theorem Ac(F:aI C fr){a b c:Int}(n:Nat)(hn:Builtin.Range.rangeSize a b c=n)(hs:Builtin.Range.small a b c=true):kQ C fr (.xS a b c) (tu a c n) σ σ id:=by
 intro Y Z ρ s va E ok r
 obtain⟨r,t,u,q,rfl,hz⟩:=BZ r
 have ho:=ok.vals _ _ hz
 refine wpAny_pyIter_range (a:=a) (b:=b) (c:=c) ho hs ?_
 obtain⟨f6,n1,n2,n4,n5⟩:=ok.mT {cls:= .type "range_iterator",data:= .fields #[rawInt a,rawInt (Builtin.Range.rangeSize a b c),rawInt c]}
 refine⟨_,_,_,_,_,_,rfl,Walks.range F.handled _ a c n,by simp,by simp[xw],λk v Z' kz hk h=> ?_,λk h st=>⟨_,st,?_⟩,f6,?_,by simpa using Ne.symm n4,by simpa using n5,?_,⟨n1,n2⟩,λDA ρ' σ' Z' _ i5 _ _=>i5⟩
 ·obtain⟨t,rfl⟩:=h
  exact⟨.int (a+k*c),by simp[tu,hk],cC _ _⟩
 ·unfold lG;simp
 ·show Heap.get? _ _=_
  rw[aN _ rfl,hn];simp
 ·intro b hb;simp only[ak,aP,or_false]at hb;subst hb;exact⟨_,aN _ rfl⟩
theorem E4(F:aI C fr)(G:dr C)(kvs:List (Int×Int)):kQ C fr (.tabI kvs) (kvs.map λp=> .int p.1) σ σ id:=by
 intro Y Z ρ s va E ok r
 obtain⟨a,o,rfl,hz,es,ep,hx,hd,JN,hsz,JJ⟩:=iw r
 have ho:=ok.vals _ _ hz
 have ha:a≠sysModules:=λq=>by
  obtain⟨o',qw⟩:=G.JC
  have:=(ok.zn a o hz).2
  rw[q,qw]at this;cases this
 refine rZ ha ⟨o,ho,hx,hd⟩ ?_
 obtain⟨f6,n1,n2,n4,n5⟩:=ok.mT {cls:= .type "dict_keyiterator",data:= .fields #[.ref a,.int 0 0,.int es.size 0,.int ep 0]}
 have eP:a≠s.heap.objs.size:=bX (dc ho)
 refine⟨_,_,_,_,_,_,rfl,Walks.M6 F.handled _ a eP es ep,by simp,by simp[hsz],λk v Z' kz hk h=> ?_,λk h ⟨⟨o,ho,hc,_⟩,_⟩=>⟨o,ho,?_⟩,f6,⟨⟨_,aN _ rfl,rfl,rfl⟩,⟨o,aG _ ho,hx,hd⟩⟩,?_,?_,?_,⟨n1,n2⟩,λDA ρ' σ' Z' _ i5 _ _=>i5⟩
 ·obtain⟨en,O7,rfl⟩:=h
  rw[hsz]at hk
  obtain⟨t,u,he⟩:=JJ k kvs[k].1 kvs[k].2 (by simp[hk])
  rw[he]at O7;cases O7
  exact⟨.int kvs[k].1,by simp[hk],cC _ _⟩
 ·unfold lG;rw[hc];decide
 ·simp only[ak,aP,or_false,not_or];exact⟨Ne.symm n4,Ne.symm (yX ok hz)⟩
 ·intro b hb;simp only[ak,aP,or_false]at hb
  rcases hb with rfl|rfl
  ·exact n5
  ·exact tq ok hz
 ·intro b hb;simp only[ak,aP,or_false]at hb
  rcases hb with rfl|rfl
  ·exact⟨_,aN _ rfl⟩
  ·exact⟨_,aG _ ho⟩
theorem Ad{Z:Zf}:∀{ks:List Int} {vs:List Value},vw ks vs->cO Z (ks.map .int) vs
 |[],vs,h=>by obtain⟨h,_⟩:=h;simp at h;subst h;exact rfl
 |k::ks,vs,h=>by
  cases vs with
  |nil=>obtain⟨h,_⟩:=h;simp at h
  |cons v vs=>
   obtain⟨hl,hi⟩:=h
   obtain⟨t,ht⟩:=hi 0 k rfl
   simp at ht;subst ht
   exact .cons (cC _ _) (Ad ⟨by simpa using hl,λj i hj=>by simpa using hi (j+1) i (by simpa using hj)⟩)
noncomputable def lJ(ks:List Int):PV:= .tup (ks.map .int)
theorem E5(F:aI C fr)(G:dr C)(kvs:List (List Int×Int)):kQ C fr (.dY kvs) (kvs.map λp=>lJ p.1) σ σ id:=by
 intro Y Z ρ s va E ok r
 obtain⟨a,o,rfl,hz,es,ep,hx,hd,JN,hsz,JJ⟩:=iy r
 have ho:=ok.vals _ _ hz
 have ha:a≠sysModules:=λq=>by
  obtain⟨o',qw⟩:=G.JC
  have:=(ok.zn a o hz).2
  rw[q,qw]at this;cases this
 refine rZ ha ⟨o,ho,hx,hd⟩ ?_
 obtain⟨f6,n1,n2,n4,n5⟩:=ok.mT {cls:= .type "dict_keyiterator",data:= .fields #[.ref a,.int 0 0,.int es.size 0,.int ep 0]}
 have eP:a≠s.heap.objs.size:=bX (dc ho)
 refine⟨_,_,_,_,_,_,rfl,Walks.M6 F.handled _ a eP es ep,by simp,by simp[hsz],λk v Z' kz hk h=> ?_,λk h ⟨⟨o,ho,hc,_⟩,_⟩=>⟨o,ho,?_⟩,f6,⟨⟨_,aN _ rfl,rfl,rfl⟩,⟨o,aG _ ho,hx,hd⟩⟩,?_,?_,?_,⟨n1,n2⟩,λDA ρ' σ' Z' _ i5 _ _=>i5⟩
 ·obtain⟨en,O7,rfl⟩:=h
  rw[hsz]at hk
  obtain⟨b,vs,u,zt,iv,he⟩:=JJ k kvs[k].1 kvs[k].2 (by simp[hk])
  rw[he]at O7;cases O7
  refine⟨lJ kvs[k].1,by simp[hk],?_⟩
  unfold lJ
  exact⟨b,vs,rfl,zt.mono kz,Ad iv⟩
 ·unfold lG;rw[hc];decide
 ·simp only[ak,aP,or_false,not_or];exact⟨Ne.symm n4,Ne.symm (yX ok hz)⟩
 ·intro b hb;simp only[ak,aP,or_false]at hb
  rcases hb with rfl|rfl
  ·exact n5
  ·exact tq ok hz
 ·intro b hb;simp only[ak,aP,or_false]at hb
  rcases hb with rfl|rfl
  ·exact⟨_,aN _ rfl⟩
  ·exact⟨_,aG _ ho⟩
end
structure Fn where
 f:Addr
 qual:Str
 scope:Scope
 cd:Value
 names:List Str
 np:Nat
 body:List Stmt
noncomputable abbrev Fn.frame(F:Fn)(L:Addr)(outer:List Env)(A:Around)(lv:Nat):Fm:=⟨F.qual++".<locals>.",F.scope,some F.f,F.cd,F.names,L,outer,A,lv,[],some L,envOf F.qual F.scope L F.f F.cd::outer,L,F.names,[]⟩
theorem Fn.top{F:Fn}{L:Addr}{outer:List Env}{A:Around}{lv:Nat}:ir (F.frame L outer A lv):=⟨rfl,rfl⟩
structure FnAt(C:Ctx)(F:Fn):Prop where
 obj:∃fd o,C.B.get? F.f=some o/\o.data=.func fd/\fd.body=.stmts F.body/\fd.scope=F.scope/\(∀L,callEnv fd L F.f=envOf F.qual F.scope L F.f F.cd)/\C.B.CodeRec fd.code fd.qualname/\
  ∀s vs,C.B.StaysIn s.heap->vs.length=F.np->BindsTo s fd ⟨vs,[]⟩ ((F.names.take F.np).zip vs)
 nodup:F.names.Nodup
 locs:∀x∈F.names,F.scope.names.lookup x=some .local
 cell:∀x∈F.scope.names,x.2≠ .cell
 kind:F.scope.kind=.function
 co:F.scope.isCoroutine=false
 gen:F.scope.isGenerator=false
 Zg:F.np<=F.names.length
 Tg:∀x∈F.names,(x==("__debug__":Str))=false
noncomputable def Fn.PB(F:Fn)(args:List PV):b9:=args.map some++List.replicate (F.names.length-F.np) none
noncomputable def Spec(C:Ctx)(F:Fn)(lv:Nat)(args:List PV)(σ:St)(Q:PV->St->Prop)(X:Prop):Prop:=
 ∀L outer A,aI C (F.frame L outer A lv)->iu C (F.frame L outer A lv) F.body (F.PB args) σ (λ_ σ'=>Q .none σ') Q (λ_ _ _=>False) (λ_=>X)
theorem ms.deeper{A:Around}{n:Nat}(env:Env)(h:ms A (n+1)):ms (A.deeper env) n:=by
 unfold ms at*;show A.depth+1+n<900/\A.units+3+16*n<9000;omega
theorem ms.le{A:Around}{n m:Nat}(k:m<=n)(h:ms A n):ms A m:=by unfold ms at*;omega
theorem m6{α β:Type}:∀(l:List α) (r:List β),((l.zip r).map (·.1)).Sublist l
 |[],_=>by simp
 |a::l,[]=>by simp
 |a::l,b::r=>by simpa using m6 l r
theorem vB{ns:List Str}{vs:List Value}(hd:ns.Nodup){i:Nat}{x:Str}{v:Value}(hx:ns[i]?=some x)(hv:vs[i]?=some v):(ns.zip vs).reverse.lookup x=some v:=by
 have key:∀(l:List (Str×Value)),(l.map (·.1)).Nodup->(x,v)∈l->l.lookup x=some v:=by
  intro l
  induction l with
  |nil=>intro _ h;cases h
  |cons p l ih=>
   intro hn hm
   rw[bp,cW]at hn
   obtain⟨a,b⟩:=p
   rw[List.lookup_cons]
   rcases ak.mp hm with h|h
   ·cases h;simp
   ·have:x≠a:=λe=>hn.1 (bj.mpr ⟨(x,v),h,e⟩)
    rw[show(x==a)=false by simpa using this]
    exact ih hn.2 h
 refine key _ ?_ ?_
 ·rw[List.map_reverse]
  refine(List.reverse_perm _).nodup_iff.mpr ?_
  exact(m6 ns vs).nodup hd
 ·rw[List.mem_reverse]
  refine aD (i:=i) ?_
  rw[jr]
  exact⟨hx,hv⟩
section
variable{C:Ctx}{fr:Fm}{ρ:b9}{σ:St}{Q:PV->St->Prop}{X:Prop}{Y Z:Zf}{s:Shared}
theorem FnAt.YY{F:Fn}(H:FnAt C F){L:Addr}{outer:List Env}{A:Around}{lv:Nat}(hh:A.handled=none)(Zh:A.frames=some (envOf F.qual F.scope L F.f F.cd::outer))(hr:ms A lv):aI C (F.frame L outer A lv):=
 ⟨H.kind,Zh,⟨_,rfl,by show F.scope.kind≠_;rw[H.kind];decide,rfl⟩,hh,hr,H.nodup,.inr ⟨rfl,rfl⟩,λx hx=>by show F.scope.names.lookup x=_;exact H.locs x hx,H.Tg⟩
theorem vC(G:dr C)(F:aI C fr){Fn:Fn}(H:FnAt C Fn){lv:Nat}{args:List PV}(hn:args.length=Fn.np)(h:Spec C Fn lv args σ Q X){A':Around}(hf:A'.frames=fr.A.frames)(hh:A'.handled=none)(hr:ms A' (lv+1)):
 ∀Y Z s vs,Ok C fr Y Z ρ σ s->cO Z args vs->codeAny C.M A' (.call (.ref Fn.f) ⟨vs,[]⟩) (λr s'=>match r with|.ok (.ret v)=>iD C fr Y Z ρ Q v s'|.ok _=>False|.error e=>f8 C fr Y ρ X e s') s:=by
 intro Y Z s vs ok r
 obtain⟨fd,o,ho,hd,PR,Nl,Uj,hcr,hb⟩:=H.obj
 have PS:vs.length=Fn.np:=by rw[r.length,hn]
 have Ae:A'.depth<recursionLimit:=au (show A'.depth<900 by have:=hr;unfold ms at this;exact ah (ay _ _) this.1) (by decide)
 refine(codeAny_call_def (fd:=fd) (body:=Fn.body) (binds:=(Fn.names.take Fn.np).zip vs) Ae (ok.base _ _ ho) hd (G.PD.keeps ok.base) (hcr.keeps ok.base) PR (hb s vs ok.base PS)
  (by rw[Nl];exact H.cell) (λx hx=>by rw[Nl];exact H.locs _ (gw (List.of_mem_zip hx).1)) (λUk hns hk=> ?_) (by rw[Nl];exact H.co) (by rw[Nl];exact H.gen) (by rw[Nl];exact H.kind))
 rw[Uj]
 obtain⟨n1,n2,n3,n4,n5⟩:=ok.none_of (bg (ai s.heap.objs.size))
 obtain⟨m,hm,PT⟩:=ok.loc
 obtain⟨oL,Ul,Zi⟩:=zX hm
 obtain⟨ee,JO,hek,Um⟩:=F.top
 have hA:aI C (Fn.frame s.heap.objs.size fr.xT (A'.deeper (envOf Fn.qual Fn.scope s.heap.objs.size Fn.f Fn.cd)) lv):=
  H.YY hh (by show Option.map _ A'.frames=_;rw[hf,F.frames];rfl) (ms.deeper _ hr)
 have kY:fP Y (Y.put fr.L oL):=Zf.zQ oL ok.yl
 have okc:Ok C (Fn.frame s.heap.objs.size fr.xT (A'.deeper (envOf Fn.qual Fn.scope s.heap.objs.size Fn.f Fn.cd)) lv) (Y.put fr.L oL) Z (Fn.PB args) σ {s with heap:=Uk,toks:=s.toks+((Fn.names.take Fn.np).zip vs).length}:=by
  refine⟨λb x e=>hk b x (ok.base b x e),λb x e=> ?_,λb x e=>hk b x (ok.vals b x e),?_,n3,n1,⟨_,hns,λi x pv hx hp=> ?_⟩,λa c e=>let⟨x,hx,q⟩:=ok.jq a c e;⟨x,hk a x hx,q⟩,
   λa c e=> ?_,?_,ok.rest,ok.zn,?_⟩
  ·unfold Zf.put at e;split at e
   ·rename_i q;subst q;cases e;exact hk _ _ Ul
   ·exact hk b x (ok.keep b x e)
  ·show(Y.put fr.L oL) s.heap.objs.size=none
   unfold Zf.put;rw[if_neg n4];exact n2
  ·--the Nm
   have Un:Fn.names[i]?=some x:=hx
   rcases Nat.lt_or_ge i args.length with hi|hi
   ·have BP:args[i]?=some pv:=by
     unfold Mine.Fn.PB at hp
     rw[bH (by simpa using hi),bc]at hp
     cases q:args[i]?with
     |none=>rw[q]at hp;simp at hp
     |some y=>rw[q]at hp;simp at hp;rw[hp]
    obtain⟨v,hv,rv⟩:=r.get BP
    refine⟨v,vB (List.Sublist.nodup (List.take_sublist _ _) H.nodup) ?_ hv,rv⟩
    rw[fc (by exact hn▸hi)];exact Un
   ·exfalso
    unfold Mine.Fn.PB at hp
    rw[bS (by simpa using hi),List.getElem?_replicate]at hp
    split at hp<;>simp at hp
  ·obtain⟨a1,a2,a3,a4⟩:=ok.own a c e
   refine⟨a1,?_,a3,?_⟩
   ·unfold Zf.put;rw[if_neg a4];exact a2
   ·rintro rfl
    rw[n5]at e;cases e
  ·intro e he
   rw[show(Fn.frame s.heap.objs.size fr.xT (A'.deeper (envOf Fn.qual Fn.scope s.heap.objs.size Fn.f Fn.cd)) lv).outer=fr.xT from rfl,JO]at he
   rcases ak.mp he with rfl|he
   ·exact⟨hek,fr.L,oL,Um,ok.bl,Zf.ia _ _ _,Zi⟩
   ·exact(ok.bh.mono kY) e he
  ·intro e he L' JB
   rw[show(Fn.frame s.heap.objs.size fr.xT (A'.deeper (envOf Fn.qual Fn.scope s.heap.objs.size Fn.f Fn.cd)) lv).outer=fr.xT from rfl,JO]at he
   rcases ak.mp he with rfl|he
   ·rw[Um]at JB;cases JB;exact ok.zl
   ·exact ok.fz e he L' JB
 have back:∀s' ρ' σ' Z',fP Z Z'->Ok C (Fn.frame s.heap.objs.size fr.xT (A'.deeper (envOf Fn.qual Fn.scope s.heap.objs.size Fn.f Fn.cd)) lv) (Y.put fr.L oL) Z' ρ' σ' s'->Ok C fr Y Z' ρ σ' s':=λs' ρ' σ' Z' kz f6=>by
  refine⟨f6.base,λb x e=>f6.keep b x (kY b x e),f6.vals,ok.yl,f6.fz ee (by show ee∈fr.xT;rw[JO];exact .head _) _ Um,ok.bl,⟨m,hm.at' λx hx=> ?_,PT.mono kz⟩,f6.jq,λa c e=> ?_,ok.bh,f6.rest,f6.zn,λe he=>f6.fz e (by show e∈fr.xT;rw[JO];exact .tail _ he)⟩
  ·rw[Ul]at hx;cases hx;exact f6.keep _ _ (Zf.ia _ _ _)
  ·obtain⟨a1,a2,a3,a4⟩:=f6.own a c e
   have:a≠fr.L:=by rintro rfl;rw[Zf.ia]at a2;cases a2
   refine⟨a1,?_,a3,this⟩
   unfold Zf.put at a2;rw[if_neg this]at a2;exact a2
 refine wpAny_mono (h _ _ _ hA _ Z _ okc) (λf s' x=> ?_) λe s' x=> ?_
 ·cases f with
  |next=>obtain⟨ρ',σ',Z',k,f6,q⟩:=x;exact⟨.none,σ',Z',k,back _ _ _ _ k f6,vx,q⟩
  |brk=>obtain⟨_,_,_,_,_,q⟩:=x;exact q.elim
  |cont=>obtain⟨_,_,_,_,_,q⟩:=x;exact q.elim
  |ret v=>obtain⟨pv,ρ',σ',Z',k,f6,rv,q⟩:=x;exact⟨pv,σ',Z',k,back _ _ _ _ k f6,rv,q⟩
 ·obtain⟨ρ',hX,y,hy⟩:=x
  have Tk:=hA
  unfold leaving
  refine wpAny_bind (hy.note hA Fn.top λbF fM Gz=> ?_)
  refine fM.I8 Gz (fl:=none) λcV a0 gt ht=> ?_
  rcases gt with gt|⟨gt,_⟩
  ·refine⟨hX,y,gt.is,gt.base,gt.new,gt.bh.2.2,.inr (.inl ⟨a0,ht⟩),λb x e n=>gt.ES b x (kY b x e) n,?_,gt.rest⟩
   obtain⟨sl,hs⟩:=gt.ES fr.L oL (Zf.ia _ _ _) Zi
   obtain⟨o',es,ep,qw,Nn,r'⟩:=hm
   rw[Ul]at qw;cases qw
   exact⟨m,Z,⟨_,es,ep,hs,Nn,r'⟩,PT⟩
  ·exact absurd rfl gt
theorem xZ(G:dr C)(F:aI C fr){Fn:Fn}(H:FnAt C Fn){lv:Nat}{args:List PV}(hn:args.length=Fn.np)(h:Spec C Fn lv args σ Q X){A':Around}(hf:A'.frames=fr.A.frames)(hh:A'.handled=none)(hr:ms A' (lv+1)):
 ∀Y Z s vs,Ok C fr Y Z ρ σ s->cO Z args vs->wpAny C.M A' (call (.ref Fn.f) vs) (iD C fr Y Z ρ Q) (f8 C fr Y ρ X) s:=
 λY Z s vs ok r=>wpAny_call (vC G F H hn h hf hh hr Y Z s vs ok r)
theorem Af(G:dr C)(F:aI C fr){Fn:Fn}(H:FnAt C Fn){lv:Nat}(hl:lv<fr.lvl){args:List PV}(hn:args.length=Fn.np)(h:Spec C Fn lv args σ Q X):
 WN C fr (λvs=>call (.ref Fn.f) vs) args ρ σ Q X:=xZ G F H hn h rfl F.handled (F.room.le hl)
theorem qd{pos:Pos}{es:List Expr}{QL:List PV->St->Prop}(h:WL C fr pos es ρ σ QL X)(f:Value)(kI:es=[]\/∃x l,backTo pos (starEach es fr.env)=(false,x)::l):
 ∀Y Z s,Ok C fr Y Z ρ σ s->wpAny C.M fr.A (evalArgs f true (backTo pos (starEach es fr.env)) []) (λa s'=>∃vs,a=⟨vs,[]⟩/\zY C fr Y Z ρ QL vs s') (f8 C fr Y ρ X) s:=by
 intro Y Z s ok
 have h1:=h Y Z s ok
 rcases kI with rfl|⟨x,l,e⟩
 ·have h2:wpAny C.M fr.A (spliced []) (zY C fr Y Z ρ QL) (f8 C fr Y ρ X) s:=h1
  show wpAny C.M fr.A (evalArgs f true [] []) _ _ s
  unfold evalArgs
  show wpAny C.M fr.A (spliced []>>=_) _ _ s
  refine wpAny_bind (wpAny_mono h2 (λvs s' q=> ?_) λ_ _ x=>x)
  refine wpAny_holding ?_
  exact wpAny_bind (wpAny_pure (wpAny_bind (wpAny_pure (wpAny_pure ⟨vs,rfl,q⟩))))
 ·rw[e]at h1⊢
  exact Calls.evalArgs_plain (wpAny_mono h1 (λvs s' q=>⟨vs,rfl,q⟩) λ_ _ x=>x)
theorem rm(G:dr C)(F:aI C fr){Fn:Fn}(H:FnAt C Fn){x:Str}{p pos:Pos}{es:List Expr}{lv:Nat}(hk:fr.env.kindOf x=some .globalImplicit)(hm:C.mg x=some (.ref Fn.f))(hl:lv<fr.lvl)
 (h:WL C fr pos es ρ σ (λas aM=>as.length=Fn.np/\Spec C Fn lv as aM Q X) X)
 (kI:es=[]\/∃x l,backTo pos (starEach es fr.env)=(false,x)::l:=by with_unfolding_all(first|exact .inl rfl|exact .inr ⟨_,_,rfl⟩)) (hd:(x==("__debug__":Str))=false:=by decide):
 WE C fr (.Call (.Name x p) es [] pos) ρ σ Q X:=λY Z s ok=>by
 refine wpAny_Call_NameR (Name_function_global F.kind hk (loadGlobal_global (G.gY.keeps ok.base) hm ?_) hd)
 obtain⟨fd,o,ho,Uo,_⟩:=H.obj
 refine callWith_function (o:=o) (fd:=fd) (wpAny_mono (qd h (.ref Fn.f) kI Y Z s ok) (λa bF ⟨vs,ea,as,aM,cn,cj,bq,cA,hn,hs⟩=> ?_) λ_ _ x=>x)
 subst ea
 exact⟨⟨bq.base _ _ ho,Uo⟩,(wP (Af G F H hl hn hs Y cn bF vs bq cA) λ_ _ x=>x.le cj)⟩
end
section
variable{C:Ctx}{fr:Fm}{ρ:b9}{σ:St}{Q:PV->St->Prop}{X:Prop}{Y Z:Zf}{s:Shared}{a b:Int}{x y:Str}
theorem GA(h:Q (.int (a+b)) σ):W2 C fr (binaryOp .Add) (.int a) (.int b) ρ σ Q X:=λY Z s va vb ok ra rb=>by
 obtain⟨t,rfl⟩:=aO ra;obtain⟨u,rfl⟩:=aO rb
 exact AutoIntOps.add_0 (bZ ok.toks (cC _ _) h)
theorem DD(h:Q (.int (a+b)) σ):W2 C fr (inplaceOp .Add) (.int a) (.int b) ρ σ Q X:=λY Z s va vb ok ra rb=>by
 obtain⟨t,rfl⟩:=aO ra;obtain⟨u,rfl⟩:=aO rb
 exact AutoIntOps.iadd_0 (bZ ok.toks (cC _ _) h)
theorem No(h:Q (.int (a-b)) σ):W2 C fr (binaryOp .Sub) (.int a) (.int b) ρ σ Q X:=λY Z s va vb ok ra rb=>by
 obtain⟨t,rfl⟩:=aO ra;obtain⟨u,rfl⟩:=aO rb
 exact AutoIntOps.sub_0 (bZ ok.toks (cC _ _) h)
theorem Cb(hm:IntMulOk a b)(h:Q (.int (a*b)) σ):W2 C fr (binaryOp .Mult) (.int a) (.int b) ρ σ Q X:=λY Z s va vb ok ra rb=>by
 obtain⟨t,rfl⟩:=aO ra;obtain⟨u,rfl⟩:=aO rb
 exact AutoIntOps.mul_0 (bZ ok.toks (cC _ _) h) hm
theorem yY(h1: -(2^64)<b)(h2:b<2^64):IntMulOk a b:= .of_right (intBits_le_64 h1 h2)
theorem tv(hb:0<=b):a.fdiv b=a/b:=by first|exact Int.fdiv_eq_ediv_of_nonneg a hb|(rw[Int.fdiv_eq_ediv];simp[hb])
theorem x0(hb:0<=b):a.fmod b=a%b:=by first|exact Int.fmod_eq_emod_of_nonneg a hb|(rw[Int.fmod_eq_emod];simp[hb])
theorem JP(hb:0<b)(LZ:b<1073741824)(h:Q (.int (a/b)) σ):W2 C fr (binaryOp .FloorDiv) (.int a) (.int b) ρ σ Q X:=λY Z s va vb ok ra rb=>by
 obtain⟨t,rfl⟩:=aO ra;obtain⟨u,rfl⟩:=aO rb
 refine AutoIntOps.floordiv_1 (by simp;exactλe=>absurd (e▸hb) (by decide)) (by rw[PyProof.noPylong_small (by omega)];simp) (bZ ok.toks (cC _ _) ?_)
 rw[tv (by exact ll hb)];exact h
theorem GB(hb:0<b)(LZ:b<1073741824)(h:Q (.int (a/b)) σ):W2 C fr (inplaceOp .FloorDiv) (.int a) (.int b) ρ σ Q X:=λY Z s va vb ok ra rb=>by
 obtain⟨t,rfl⟩:=aO ra;obtain⟨u,rfl⟩:=aO rb
 refine AutoIntOps.ifloordiv_1 (by simp;exactλe=>absurd (e▸hb) (by decide)) (by rw[PyProof.noPylong_small (by omega)];simp) (bZ ok.toks (cC _ _) ?_)
 rw[tv (by exact ll hb)];exact h
theorem tw(hb:0<b)(h:Q (.int (a%b)) σ):W2 C fr (binaryOp .Mod) (.int a) (.int b) ρ σ Q X:=λY Z s va vb ok ra rb=>by
 obtain⟨t,rfl⟩:=aO ra;obtain⟨u,rfl⟩:=aO rb
 refine AutoIntOps.mod_1 (by simp;exactλe=>absurd (e▸hb) (by decide)) (bZ ok.toks (cC _ _) ?_)
 rw[x0 (by exact ll hb)];exact h
theorem Ag(hb:0<=b)(LZ:b<=100)(h:Q (.int (10^b.toNat)) σ):W2 C fr (binaryOp .Pow) (.int 10) (.int b) ρ σ Q X:=λY Z s va vb ok ra rb=>by
 obtain⟨t,rfl⟩:=aO ra;obtain⟨u,rfl⟩:=aO rb
 by_cases h0:b=0
 ·subst h0;exact AutoIntOps.pow_0 (by decide) (by decide) (bZ ok.toks (cC _ _) h)
 ·refine AutoIntOps.pow_4 (by exact hb) (by simpa using h0) (by decide) (by decide) ?_ (bZ ok.toks (cC _ _) h)
  show¬(decide (_>_)=true)
  rw[decide_eq_true_iff]
  have:((Builtin.Int.intBits 10:Nat):Int)=4:=by decide
  rw[this]
  have h2:(bitsLine:Int)>=400:=by decide
  exact LV (c:=[_]) (d:=[_]) 0 [.BX (.w 0) (.n 100),.BX (.n 400) (.c (.v 0))] (.no (.BO (.c (.v 0)) (.m 4 (.w 0)))) [4,1] (by exact Eq.refl true) LZ h2
theorem Cc(h:Q (.int (-a)) σ):W1 C fr (unaryOp .USub) (.int a) ρ σ Q X:=λY Z s va ok ra=>by
 obtain⟨t,rfl⟩:=aO ra
 exact P.neg_int (bZ ok.toks (cC _ _) h)
theorem Np{b:Bool}(h:Q (.bool (!b)) σ):W1 C fr (unaryOp .Not) (.bool b) ρ σ Q X:=λY Z s va ok ra=>by
 obtain rfl:=n8 ra
 exact not_value (wpAny_truthy_bool (bZ ok (cN _) h))
theorem PU(h:Q (.bool (decide (a=b))) σ):W2 C fr (compareOp .Eq) (.int a) (.int b) ρ σ Q X:=λY Z s va vb ok ra rb=>by
 obtain⟨t,rfl⟩:=aO ra;obtain⟨u,rfl⟩:=aO rb
 exact P.eq_int (bZ ok (cN _) (by rwa[show(a==b)=decide (a=b)from rfl]))
theorem PW(h:Q (.bool (!decide (a=b))) σ):W2 C fr (compareOp .NotEq) (.int a) (.int b) ρ σ Q X:=λY Z s va vb ok ra rb=>by
 obtain⟨t,rfl⟩:=aO ra;obtain⟨u,rfl⟩:=aO rb
 exact P.ne_int (bZ ok (cN _) (by rwa[show(a !=b)= !decide (a=b)from rfl]))
theorem DE(h:Q (.bool (decide (a<b))) σ):W2 C fr (compareOp .Lt) (.int a) (.int b) ρ σ Q X:=λY Z s va vb ok ra rb=>by
 obtain⟨t,rfl⟩:=aO ra;obtain⟨u,rfl⟩:=aO rb
 exact P.lt_int (bZ ok (cN _) h)
theorem PX(h:Q (.bool (decide (a<=b))) σ):W2 C fr (compareOp .LtE) (.int a) (.int b) ρ σ Q X:=λY Z s va vb ok ra rb=>by
 obtain⟨t,rfl⟩:=aO ra;obtain⟨u,rfl⟩:=aO rb
 exact P.le_int (bZ ok (cN _) h)
theorem PY(h:Q (.bool (decide (b<a))) σ):W2 C fr (compareOp .Gt) (.int a) (.int b) ρ σ Q X:=λY Z s va vb ok ra rb=>by
 obtain⟨t,rfl⟩:=aO ra;obtain⟨u,rfl⟩:=aO rb
 exact P.gt_int (bZ ok (cN _) h)
theorem Ah(h:Q (.bool (decide (b<=a))) σ):W2 C fr (compareOp .GtE) (.int a) (.int b) ρ σ Q X:=λY Z s va vb ok ra rb=>by
 obtain⟨t,rfl⟩:=aO ra;obtain⟨u,rfl⟩:=aO rb
 exact P.ge_int (bZ ok (cN _) h)
theorem str_beq:(x.cps.toList==y.cps.toList)=decide (x=y):=by
 obtain⟨x⟩:=x;obtain⟨y⟩:=y
 by_cases h:x=y
 ·subst h;simp
 ·have:x.toList≠y.toList:=λe=>h (Array.toList_inj.mp e)
  simp[h,this]
theorem Nq(h:Q (.bool (decide (x=y))) σ):W2 C fr (compareOp .Eq) (.str x) (.str y) ρ σ Q X:=λY Z s va vb ok ra rb=>by
 obtain⟨t,rfl⟩:=a7 ra;obtain⟨u,rfl⟩:=a7 rb
 exact P.eq_str (bZ ok (cN _) (by rwa[str_beq]))
theorem Nr(h:Q (.bool (!decide (x=y))) σ):W2 C fr (compareOp .NotEq) (.str x) (.str y) ρ σ Q X:=λY Z s va vb ok ra rb=>by
 obtain⟨t,rfl⟩:=a7 ra;obtain⟨u,rfl⟩:=a7 rb
 exact P.ne_str (bZ ok (cN _) (by rw[show(x.cps.toList !=y.cps.toList)= !(x.cps.toList==y.cps.toList)from rfl,str_beq];exact h))
theorem Nt(h:Q (.bool (!decide (y.cps.toList<x.cps.toList))) σ):W2 C fr (compareOp .LtE) (.str x) (.str y) ρ σ Q X:=λY Z s va vb ok ra rb=>by
 obtain⟨t,rfl⟩:=a7 ra;obtain⟨u,rfl⟩:=a7 rb
 exact P.le_str (bZ ok (cN _) h)
theorem JQ(hl:x.length+y.length<=sizeLine)(h:Q (.str (x++y)) σ):W2 C fr (binaryOp .Add) (.str x) (.str y) ρ σ Q X:=λY Z s va vb ok ra rb=>by
 obtain⟨t,rfl⟩:=a7 ra;obtain⟨u,rfl⟩:=a7 rb
 exact SB.add (λt' k=>bZ ok.toks (fQ _ _) h) hl
theorem GC{c:Nat}(hr:fitsSsize b=true)(hc:(seqIndex? b x.length).bind (x.cps[·]?)=some c)(h:Q (.str ⟨#[c]⟩) σ):W2 C fr getItem (.str x) (.int b) ρ σ Q X:=λY Z s va vb ok ra rb=>by
 obtain⟨t,rfl⟩:=a7 ra;obtain⟨u,rfl⟩:=aO rb
 refine P.getItem_str ?_ hc (bZ ok.toks (fQ _ _) h)
 unfold fitsSsize at hr;simp at hr⊢;omega
theorem Nu(h:Q (.int (if a<0 then-a else a)) σ):WN C fr (λvs=>call (.builtin "abs") vs) [.int a] ρ σ Q X:=λY Z s vs ok r=>by
 obtain⟨v,_,rfl,r,rfl⟩:=r;obtain⟨t,rfl⟩:=aO r
 exact call_abs_int λu tk=>bZ ok.toks (cC _ _) h
theorem Nv{c:Nat}(h:Q (.int c) σ):WN C fr (λvs=>call (.builtin "ord") vs) [.str ⟨#[c]⟩] ρ σ Q X:=λY Z s vs ok r=>by
 obtain⟨v,_,rfl,r,rfl⟩:=r;obtain⟨t,rfl⟩:=a7 r
 exact P.ord_of_char (bZ ok.toks (cC _ _) h)
theorem Nw(h0:0<=a)(h1:a<=1114111)(h:Q (.str ⟨#[a.toNat]⟩) σ):WN C fr (λvs=>call (.builtin "chr") vs) [.int a] ρ σ Q X:=λY Z s vs ok r=>by
 obtain⟨v,_,rfl,r,rfl⟩:=r;obtain⟨t,rfl⟩:=aO r
 exact P.chr_of_int (by simp;omega) (bZ ok.toks (fQ _ _) h)
theorem E6(hb:0<b)(LZ:b<2^60)(h:Q (.tup [.int (a/b),.int (a%b)]) σ):WN C fr (λvs=>call (.builtin "divmod") vs) [.int a,.int b] ρ σ Q X:=λY Z s vs ok r=>by
 obtain⟨v,_,rfl,r,w,_,rfl,r',rfl⟩:=r;obtain⟨t,rfl⟩:=aO r;obtain⟨u,rfl⟩:=aO r'
 have Up:b.natAbs.log2<9000:=by
  have:b.natAbs.log2<60:=(Nat.log2_lt (by omega)).mpr (by omega)
  exact aa this (by decide)
 refine divmod_int (by exactλe=>absurd (e▸hb) (by decide)) ?_ (.inl (PyProof.noPylong_of_log2 Up))
 obtain⟨f6,k⟩:=ok.LM (t':=s.toks+1+1) (bg (ai _)) (λ_ _ e=>aG {cls:= .type "tuple",data:= .seq #[.int (a.fdiv b) s.toks,.int (a.fmod b) (s.toks+1)]} e) (aN _ rfl) (.inl rfl)
 refine⟨.tup [.int (a/b),.int (a%b)],σ,_,k,f6,?_,h⟩
 exact⟨_,_,rfl,⟨0,Zf.ia _ _ _⟩,by exact⟨_,_,rfl,by rw[<-tv (by exact ll hb)];exact cC _ _,_,_,rfl,by rw[<-x0 (by exact ll hb)];exact cC _ _,rfl⟩⟩
noncomputable section
noncomputable def dx.ty(c:dx):Option String:=dx.rec (λ_=>some "list") (λ_=>some "dict") (λ_=>some "dict") (λ_=>some "dict") (λ_ _=>none) (λ_ _ _=>none) (λ_=>none) (λ_ _=>none) (λ_ _=>none) c
noncomputable def O8(σ:St)(p:PV):Option String:=PV.casesOn (motive_1:=λ_=>Option String) p none (λ_=>none) (λ_=>none) (λ_=>some "str") (λ_=>some "tuple") (λ_=>some "dict") (λ_=>some "dict") (λ_ _ _=>none) (λa=>(σ a).bind dx.ty) λ_=>none
end
theorem gX.dict{kvs:List (Int×Int)}{o:Obj}(x:gX kvs o):o.dict=none:=x.casesOn λ_ _ a _ _ _ _=>a.2.1
theorem e5.dict{Z:Zf}{kvs:List (List Int×Int)}{o:Obj}(x:e5 Z kvs o):o.dict=none:=x.casesOn λ_ _ a _ _ _ _=>a.2.1
theorem gX.cls{kvs:List (Int×Int)}{o:Obj}(x:gX kvs o):o.cls=.type "dict":=x.casesOn λ_ _ a _ _ _ _=>a.1
theorem e5.cls{Z:Zf}{kvs:List (List Int×Int)}{o:Obj}(x:e5 Z kvs o):o.cls=.type "dict":=x.casesOn λ_ _ a _ _ _ _=>a.1
theorem rq{a:Addr}{o:Obj}{T:String}(h:s.heap.get? a=some o)(hc:o.cls=.type T)(hd:o.dict=none):s.TypeIs (.ref a) T/\(∀b,Value.ref a=.ref b->∃ob,s.heap.get? b=some ob/\ob.dict=none):=⟨⟨o,h,hc⟩,λb e=>Value.ref.inj e▸⟨o,h,hd⟩⟩
theorem Cd{v:PV}{T:String}(h:O8 σ v=some T)(ok:Ok C fr Y Z ρ σ s){w:Value}(r:gg Z v w):s.TypeIs w T/\(∀b,w=.ref b->∃ob,s.heap.get? b=some ob/\ob.dict=none):=by
 cases v
 case str x=>exact(a7 r).elim λt e=>e▸ax h▸⟨typeIs_str _ _ _,nofun⟩
 case tup xs=>exact(fw r).elim λa e=>e.elim λvs e=>e.1▸e.2.1.elim λn hz=>rq (ok.vals _ _ hz) (congrArg Value.type (ax h)) rfl
 case tabI kvs=>exact(iw r).elim λa e=>e.elim λo e=>e.1▸rq (ok.vals _ _ e.2.1) (ax h▸e.2.2.cls) e.2.2.dict
 case dY kvs=>exact(iy r).elim λa e=>e.elim λo e=>e.1▸rq (ok.vals _ _ e.2.1) (ax h▸e.2.2.cls) e.2.2.dict
 case loc l=>
  exact(ao.mp h).elim λc h=>(ok.jq l c h.1).elim λo ho=>bA r▸by
   have q:=h.2
   cases c
   case list xs=>exact ho.2.elim λvs e=>e.elim λn e=>rq ho.1 (e.1▸congrArg Value.type (ax q)) (e.1▸rfl)
   case ca kvs=>exact ho.2.elim λws e=>e.2.elim λes e=>e.elim λep e=>rq ho.1 (ax q▸e.1.1) e.1.2.1
   case mX kvs=>exact rq ho.1 (ax q▸gX.cls ho.2) (gX.dict ho.2)
   case hY kvs=>exact rq ho.1 (ax q▸e5.cls ho.2) (e5.dict ho.2)
   all_goals cases q
 all_goals cases h
structure BM(T:String)(name:Str)(id:String):Prop where
 plain:PlainAttrs T
 slot:Slot T name id
 ty:typeOf (.builtin id)=pure (.type "method_descriptor")
theorem gy{T id:String}{o:Expr}{name:Str}{yZ pos:Pos}{es:List Expr}(B:BM T name id)
 (h:WE C fr o ρ σ (λov aM=>O8 aM ov=some T/\WL C fr pos es ρ aM (λas bO=>WN C fr (λvs=>call (.builtin id) vs) (ov::as) ρ bO Q X) X) X)
 (kI:es=[]\/∃x l,backTo pos (starEach es fr.env)=(false,x)::l:=by with_unfolding_all(first|exact .inl rfl|exact .inr ⟨_,_,rfl⟩))
 (r5:∀env,attributeBase o name env (eval o env)=eval o env:=by with_unfolding_all(intro _;rfl))
 (JR:∀env,((backTo pos (starEach es env)).all (λx=> !x.1)&&(backToKw pos (keywordEach [] env)).all (λx=>x.1.isSome)
  &&decide (es.length+([]:List Keyword).length+(if([]:List Keyword).isEmpty then 0 else 1)<30))=true:=by with_unfolding_all(intro _;rfl))
 (GD:(yZ.endLine==pos.line)=true:=by ac_rfl):WE C fr (.Call (.Attribute o name yZ) es [] pos) ρ σ Q X:=λY Z s ok=>by
 refine wpAny_Call_method (r5 _) (JR _) GD B.plain B.slot B.ty (wpAny_mono (h Y Z s ok) (λov bF ⟨a,aM,cn,cj,bq,cA,hp,hl⟩=> ?_) λ_ _ x=>x)
 obtain⟨hT,hd⟩:=Cd hp bq cA
 refine⟨hT,hd,callWith_builtin ?_ (wpAny_mono (qd hl (.builtin id) kI Y cn bF bq) (λu cV ⟨vs,eu,as,bO,fb,cP,b1,gZ,hq⟩=> ?_) λ_ _ x=>x)⟩
 ·have:=JR fr.env
  simp only[hU]at this
  have h1:=this.1.1
  cases q:(backTo pos (starEach es fr.env)).any (·.1)with
  |false=>rfl
  |true=>
   obtain⟨z,hz,lE⟩:=List.any_eq_true.mp q
   have:=av.mp h1 z hz
   rw[lE]at this;cases this
 ·subst eu
  exact(wP (hq Y fb cV (ov::vs) b1 (.cons (cA.mono cP) gZ)) λ_ _ x=>x.le (cj.trans cP))
theorem ij(G:dr C)(F:aI C fr){id:String}{x:Str}{p pos:Pos}{es:List Expr}(hk:fr.env.kindOf x=some .globalImplicit)(hm:C.mg x=none)(hb:C.mb x=some (.builtin id))
 (h:WL C fr pos es ρ σ (λas aM=>WN C fr (λvs=>call (.builtin id) vs) as ρ aM Q X) X)
 (kI:es=[]\/∃x l,backTo pos (starEach es fr.env)=(false,x)::l:=by with_unfolding_all(first|exact .inl rfl|exact .inr ⟨_,_,rfl⟩)) (hs:(backTo pos (starEach es fr.env)).any (·.1)=false:=by ac_rfl) (hd:(x==("__debug__":Str))=false:=by decide):
 WE C fr (.Call (.Name x p) es [] pos) ρ σ Q X:=λY Z s ok=>by
 refine wpAny_Call_NameR (Name_function_global F.kind hk (loadGlobal_builtin (G.gY.keeps ok.base) hm (G.Uc.keeps ok.base) hb ?_) hd)
 refine callWith_builtin hs (wpAny_mono (qd h (.builtin id) kI Y Z s ok) (λu bF ⟨vs,eu,as,aM,cn,cj,bq,cA,hq⟩=> ?_) λ_ _ x=>x)
 subst eu
 exact(wP (hq Y cn bF vs bq cA) λ_ _ x=>x.le cj)
theorem uf(G:dr C)(F:aI C fr){T:String}{x:Str}{p pos:Pos}{es:List Expr}(hk:fr.env.kindOf x=some .globalImplicit)(hm:C.mg x=none)(hb:C.mb x=some (.type T))
 (h:WL C fr pos es ρ σ (λas aM=>WN C fr (λvs=>call (.type T) vs) as ρ aM Q X) X)
 (kI:es=[]\/∃x l,backTo pos (starEach es fr.env)=(false,x)::l:=by with_unfolding_all(first|exact .inl rfl|exact .inr ⟨_,_,rfl⟩)) (hs:(backTo pos (starEach es fr.env)).any (·.1)=false:=by ac_rfl) (hd:(x==("__debug__":Str))=false:=by decide):
 WE C fr (.Call (.Name x p) es [] pos) ρ σ Q X:=λY Z s ok=>by
 refine wpAny_Call_NameR (Name_function_global F.kind hk (loadGlobal_builtin (G.gY.keeps ok.base) hm (G.Uc.keeps ok.base) hb ?_) hd)
 refine PySem.callWith_type hs (wpAny_mono (qd h (.type T) kI Y Z s ok) (λu bF ⟨vs,eu,as,aM,cn,cj,bq,cA,hq⟩=> ?_) λ_ _ x=>x)
 subst eu
 exact(wP (hq Y cn bF vs bq cA) λ_ _ x=>x.le cj)
theorem tz{base:Expr}{o r:Value}{A:Around}{P:Unit->Shared->Prop}{E:Value->Shared->Prop}(h:P () s):wpAny C.M A (letTemporaryGo base o r) P E s:=by
 have k:wpAny C.M A (letTemporaryGo (.Constant .none 0 ⟨0,0,0,0⟩) o r) P E s:=by
  cases o
  case ref a=>exact wpAny_bind (wpAny_holding (wpAny_runValue (codeAny_builtin entry_let_go (show wpAny _ _ (ret .none) _ _ s from wpAny_pure (wpAny_pure h)))))
  all_goals exact wpAny_pure h
 cases base
 case Name=>exact wpAny_pure h
 all_goals exact(show letTemporaryGo _ o r=letTemporaryGo (.Constant .none 0 ⟨0,0,0,0⟩) o r by rfl')▸k
theorem oj{T:String}(h:T="list"\/T="dict"\/T="str"\/T="tuple"):∃id,typeLookup (.type T) "__getitem__"=pure (some (.builtin id)):=by
 rcases h with rfl|rfl|rfl|rfl
 ·exact⟨_,list_getitem_lookup⟩
 ·exact⟨_,F.slot_dict_getitem.lookup⟩
 ·exact⟨_,F.slot_str_getitem.lookup⟩
 ·exact⟨_,F.slot_tuple_getitem.lookup⟩
theorem y0{T:String}{o i:Expr}{pos:Pos}(hT:T="list"\/T="dict"\/T="str"\/T="tuple")
 (h:WE C fr o ρ σ (λov aM=>WE C fr i ρ aM (λiv bO=>O8 bO ov=some T/\W2 C fr getItem ov iv ρ bO Q X) X) X)
 (hs:∀ov iv,subscripted i false ov iv=operate [ov,iv] (getItem ov iv):=by with_unfolding_all(intros;rfl)):WE C fr (.Subscript o i pos) ρ σ Q X:=λY Z s ok=>by
 rw[arm_eval_Subscript]
 refine wpAny_bind (wV (h Y Z s ok) λov bF a aM cn cj bq cA fM=>wpAny_bind (wpAny_holding (wpAny_mono (fM Y cn bF bq) (λiv cV ⟨b,bO,fb,cP,b1,gZ,hp,gt⟩=>wpAny_bind (wpAny_standAt ?_)) λ_ _ x=>x)))
 obtain⟨PZ,_⟩:=Cd hp b1 (cA.mono cP)
 obtain⟨id,hl⟩:=oj hT
 refine wpAny_bind ?_
 rw[getitemInPython_of_ne PZ.not_modules]
 refine wpAny_bind (wpAny_specialOf PZ hl ?_)
 refine wpAny_pure ?_
 rw[hs]
 refine wpAny_bind (wpAny_operating (wP (gt Y fb cV ov iv b1 (cA.mono cP) gZ) λr iE x=>wpAny_bind (tz (wpAny_pure (x.le (cj.trans cP))))))
theorem L1{xs:List PV}{vs:List Value}(r:cO Z xs vs){k:Nat}{pv:PV}(h:xs[k]?=some pv):∃v,vs.toArray[k]?=some v/\gg Z pv v:=by
 obtain⟨v,hv,q⟩:=r.get h;exact⟨v,by simpa using hv,q⟩
theorem eU{l:Addr}{xs:List PV}{pv:PV}(hc:σ l=some (.list xs))(h0:0<=a)(h1:a<2^63)(hx:xs[a.toNat]?=some pv)(h:Q pv σ):W2 C fr getItem (.loc l) (.int a) ρ σ Q X:=λY Z s va vb ok ra rb=>by
 obtain rfl:=bA ra;obtain⟨u,rfl⟩:=aO rb
 obtain⟨o,ho,vs,n,rfl,rl⟩:=ok.jq l _ hc
 obtain⟨v,hv,rv⟩:=L1 rl hx
 exact wpAny_getItem_list ⟨_,ho,rfl,n,rfl⟩ h0 h1 hv (bZ ok rv h)
theorem om{xs:List PV}{pv:PV}(h0:0<=a)(h1:a<2^63)(hx:xs[a.toNat]?=some pv)(h:Q pv σ):W2 C fr getItem (.tup xs) (.int a) ρ σ Q X:=λY Z s va vb ok ra rb=>by
 obtain⟨t,vs,rfl,⟨n,hz⟩,rl⟩:=fw ra;obtain⟨u,rfl⟩:=aO rb
 obtain⟨v,hv,rv⟩:=L1 rl hx
 have eP:a.toNat<vs.toArray.size:=(f0.mp hv).1
 refine P.getItem_tuple (ok.vals _ _ hz) (by exact LV (c:=[]) (d:=[_]) 0 [.BX (.n 0) (.w 0)] (.BX (.g (.n 9223372036854775808)) (.w 0)) [1] (by exact Eq.refl true) h0) h1 (k:=a.toNat) ?_ hv (bZ ok rv h)
 unfold seqIndex?
 have:¬a<0:=by exact eX.mpr h0
 simp[this]at eP⊢;omega
theorem tA{l:Addr}{xs ys:List PV}{vs:List Value}{n:Nat}(ok:Ok C fr Y Z ρ σ s)(hc:σ l=some (.list xs))(ho:IsL s.heap l vs.toArray n){us:List Value}{t':Nat}(f:Array Value->Array Value)(hf:f vs.toArray=us.toArray)(hr:cO Z ys us):
 Ok C fr Y Z ρ (σ.upd l (.list ys)) {s with heap:=s.heap.update l (Obj.mapSeq f),toks:=t'}:=
 ok.turn hc (jw ..) (IsL.update ho f) (by rw[hf];exact⟨us,_,rfl,hr⟩)
end
section
variable{C:Ctx}{fr:Fm}{ρ:b9}{σ:St}{Q:PV->St->Prop}{X:Prop}{Y Z:Zf}{s:Shared}{a b c:Int}{x y:Str}
theorem j7{v:PV}{vs:List Value}(r:cO Z [v] vs):∃w,vs=[w]/\gg Z v w:=by obtain⟨w,_,rfl,r,rfl⟩:=r;exact⟨w,rfl,r⟩
theorem i6{v v':PV}{vs:List Value}(r:cO Z [v,v'] vs):∃w w',vs=[w,w']/\gg Z v w/\gg Z v' w':=by
 obtain⟨w,_,rfl,r,w',_,rfl,r',rfl⟩:=r;exact⟨w,w',rfl,r,r'⟩
theorem r6{v v' Zj:PV}{vs:List Value}(r:cO Z [v,v',Zj] vs):∃w w' JS,vs=[w,w',JS]/\gg Z v w/\gg Z v' w'/\gg Z Zj JS:=by
 obtain⟨w,_,rfl,r,w',_,rfl,r',JS,_,rfl,r'',rfl⟩:=r;exact⟨w,w',JS,rfl,r,r',r''⟩
theorem mx(ok:Ok C fr Y Z ρ σ s){xs:List PV}{vs:List Value}{t':Nat}(r:cO Z xs vs)(h:∀l,σ l=none->Q (.loc l) (σ.upd l (.list xs))):
 iD C fr Y Z ρ Q (.ref s.heap.objs.size) {s with heap:=s.heap.push {cls:= .type "list",data:= .seq vs.toArray},toks:=t'}:=by
 have hn:s.heap.get? s.heap.objs.size=none:=bg (ai _)
 exact⟨.loc s.heap.objs.size,_,Z,fP.refl _,ok.alloc (c:= .list xs) hn (λb o e=>aG _ e) (aN _ rfl) ⟨vs,0,rfl,r⟩,ic _,h _ (ok.none_of hn).2.2.2.2⟩
theorem tB{l:Addr}{xs:List PV}{v:PV}(hc:σ l=some (.list xs))(hsz:xs.length<=sizeLine)(h:Q .none (σ.upd l (.list (xs++[v])))):
 WN C fr (λvs=>call (.builtin "list.append") vs) [.loc l,v] ρ σ Q X:=λY Z s vs ok r=>by
 obtain⟨w,w',rfl,r1,r2⟩:=i6 r
 obtain rfl:=bA r1
 obtain⟨o,ho,us,n,rfl,rl⟩:=ok.jq l _ hc
 refine call_meets F.slot_list_append ⟨_,ho,rfl⟩ F.entry_list_append (F.args_list_append_2 _ _) (list_append l us.toArray n w' (by rw[List.size_toArray,rl.length];exact hsz)) ⟨ho,?_⟩
 exact⟨.none,_,Z,fP.refl _,tA ok hc ho (us:=us++[w']) (λx=>x.push w') (by simp) (rl.append (.one r2)),vx,h⟩
theorem Ny{l:Addr}{xs:List PV}{v:PV}(hc:σ l=some (.list (xs++[v])))(hsz:xs.length+1<=sizeLine)(h:Q v (σ.upd l (.list xs))):
 WN C fr (λvs=>call (.builtin "list.pop") vs) [.loc l] ρ σ Q X:=λY Z s vs ok r=>by
 obtain⟨w,rfl,r1⟩:=j7 r
 obtain rfl:=bA r1
 obtain⟨o,ho,us,n,rfl,rl⟩:=ok.jq l _ hc
 have GF:=rl.length
 simp at GF
 have hy:us.toArray[us.toArray.size-1]?=some (us[us.length-1]'(by exact GF▸ai _)):=by simp[GF]
 refine call_meets F.slot_list_pop ⟨_,ho,rfl⟩ F.entry_list_pop (F.args_list_pop_1 _) (MeetsSeq.list_pop_last l us.toArray n _ hy (by simp[GF];exact hsz)) ⟨ho,?_⟩
 have hv:∃u,us[us.length-1]?=some u/\gg Z v u:=rl.get (by simp[GF])
 obtain⟨u,hu,ru⟩:=hv
 have e:us[us.length-1]'(by exact GF▸ai _)=u:=by
  rw[aB (by exact GF▸ai _)]at hu;simpa using hu
 refine⟨v,_,Z,fP.refl _,tA ok hc ho (us:=us.take xs.length) (λx=>x.eraseIdxIfInBounds (us.toArray.size-1)) ?_ (by simpa using rl.take xs.length),by rw[e];exact ru,h⟩
 have h1:us.toArray.size-1<us.toArray.size:=by simp[GF]
 rw[Array.eraseIdxIfInBounds,dif_pos h1]
 apply Array.ext'
 simp[List.eraseIdx_eq_take_drop_succ,GF]
theorem tC{l:Addr}{xs:List PV}{v:PV}{N:b9->St->Prop}{X:b9->Prop}(hc:σ l=some (.list xs))(h0:0<=a)(h1:a<2^63)(hn:a<xs.length)(h:N ρ (σ.upd l (.list (xs.set a.toNat v)))):
 Nd C fr setItem (.loc l) (.int a) v ρ σ N X:=λY Z s va vb vc ok ra rb rc=>by
 obtain rfl:=bA ra;obtain⟨u,rfl⟩:=aO rb
 obtain⟨o,ho,us,n,rfl,rl⟩:=ok.jq l _ hc
 have hl:s.heap.IsList l us.toArray:=⟨_,ho,rfl,n,rfl⟩
 have GF:=rl.length
 unfold setItem
 try with_reducible refine wpAny_holding ?_
 first|refine wpAny_bind (wpAny_pure ?_)|skip
 refine wpAny_bind (wpAny_sequenceKey hl.typeIs (by decide) ?_)
 refine wpAny_bind (wpAny_callSpecial?_slot (name:=Str.ofString "__setitem__") hl.typeIs slot_list_setitem (wpAny_call_entry slot_list_setitem hl.typeIs entry_list_setitem ?_ (args_list_setitem _ _ _)))
 show wpAny _ _ (Builtin.List.listSubscript? (.int a u)>>=_) _ _ s
 refine wpAny_bind (wpAny_listSubscript_int (fitsIndex_of h0 h1) ?_)
 clear h1
 obtain⟨j,rfl⟩:=dj h0
 have hj:j<us.toArray.size:=by simp[GF];exact bG.mp hn
 show wpAny _ _ ((seqItemAt l j>>=λr=>pure (r.map (j,·)))>>=_) _ _ s
 refine wpAny_bind (wpAny_bind (wpAny_seqItemAt ho rfl (wpAny_pure ?_)))
 rw[jt hj]
 show wpAny _ _ (setSeqItemAt l j vc>>=_) _ _ s
 refine wpAny_bind (wpAny_setSeqItemAt ho rfl ?_)
 have qr:zZ C fr Y Z N () {s with heap:=s.heap.update l (Obj.mapSeq (·.setIfInBounds j vc))}:=
  ⟨ρ,_,Z,fP.refl _,tA ok hc ho (us:=us.set j vc) (λx=>x.setIfInBounds j vc) (by simp) (rl.set rc),h⟩
 first
  |exact wpAny_bind (wpAny_pure (wpAny_pure ⟨.none,rfl,wpAny_pure qr⟩))
  |exact wpAny_pure ⟨.none,rfl,wpAny_pure qr⟩
theorem JT{l m:Addr}{xs ys:List PV}(hl:σ l=some (.list xs))(hm:σ m=some (.list ys))(hsz:xs.length+ys.length<=sizeLine)(h:∀k,σ k=none->Q (.loc k) (σ.upd k (.list (xs++ys)))):
 W2 C fr (binaryOp .Add) (.loc l) (.loc m) ρ σ Q X:=λY Z s va vb ok ra rb=>by
 obtain rfl:=bA ra;obtain rfl:=bA rb
 obtain⟨o,ho,us,n,rfl,rl⟩:=ok.jq l _ hl
 obtain⟨o,qw,us',n',rfl,L2⟩:=ok.jq m _ hm
 refine P.add_list ho qw ?_ (by simp[rl.length,L2.length];exact hsz)
 have:=mx (t':=s.toks) (Q:=Q) ok (rl.append L2) h
 simpa using this
theorem iA{l:Addr}{xs:List PV}(hc:σ l=some (.list xs))(hsz:xs.length<2^63)(h:Q (.int xs.length) σ):WN C fr (λvs=>call (.builtin "len") vs) [.loc l] ρ σ Q X:=λY Z s vs ok r=>by
 obtain⟨w,rfl,r1⟩:=j7 r
 obtain rfl:=bA r1
 obtain⟨o,ho,us,n,rfl,rl⟩:=ok.jq l _ hc
 refine call_len_list ⟨_,ho,rfl,n,rfl⟩ (by simp[rl.length];exact bG.mpr hsz) (bZ ok.toks ?_ h)
 simp[rl.length];exact cC _ _
theorem Ce{xs:List PV}(hsz:xs.length<2^63)(h:Q (.int xs.length) σ):WN C fr (λvs=>call (.builtin "len") vs) [.tup xs] ρ σ Q X:=λY Z s vs ok r=>by
 obtain⟨w,rfl,r1⟩:=j7 r
 obtain⟨t,us,rfl,⟨n,hz⟩,rl⟩:=fw r1
 refine P.len_tuple (ok.vals _ _ hz) (by simp[rl.length];exact bG.mpr hsz) (bZ ok.toks ?_ h)
 simp[rl.length];exact cC _ _
theorem Cf(hsz:x.length<2^63)(h:Q (.int x.length) σ):WN C fr (λvs=>call (.builtin "len") vs) [.str x] ρ σ Q X:=λY Z s vs ok r=>by
 obtain⟨w,rfl,r1⟩:=j7 r
 obtain⟨t,rfl⟩:=a7 r1
 exact P.len_str (by exact rf [.lt (.v 0) (.n 9223372036854775808)] (.no (.BX (.n 9223372036854775808) (.c (.v 0)))) [1] (Eq.refl true) hsz) (bZ ok.toks (cC _ _) h)
theorem GG{l:Addr}{xs:List PV}(hc:σ l=some (.list xs))(hsz:xs.length<=sizeLine)(h:Q (.tup xs) σ):WN C fr (λvs=>call (.type "tuple") vs) [.loc l] ρ σ Q X:=λY Z s vs ok r=>by
 obtain⟨w,rfl,r1⟩:=j7 r
 obtain rfl:=bA r1
 obtain⟨o,ho,us,n,rfl,rl⟩:=ok.jq l _ hc
 refine call_tuple_list ⟨_,ho,rfl,n,rfl⟩ (λh' hk=> ?_) (by simp[rl.length];exact hsz)
 have f6:=ok.keeps (t':=s.toks) hk
 obtain⟨Uq,k2⟩:=f6.LM (t':=s.toks) (bg (ai _)) (λ_ _ e=>aG {cls:= .type "tuple",data:= .seq us.toArray} e) (aN _ rfl) (.inl rfl)
 refine⟨.tup xs,σ,_,k2,Uq,?_,h⟩
 exact⟨_,us,rfl,⟨0,Zf.ia _ _ _⟩,rl.mono k2⟩
theorem Ai(ok:Ok C fr Y Z ρ σ s){t u v:Tok}{t':Nat}(h:Q (.xS a b c) σ):iD C fr Y Z ρ Q (.ref s.heap.objs.size) {s with heap:=s.heap.push {cls:= .type "range",data:= .fields #[.int a t,.int b u,.int c v]},toks:=t'}:=by
 obtain⟨Uq,k2⟩:=ok.LM (t':=t') (bg (ai _)) (λ_ _ e=>aG {cls:= .type "range",data:= .fields #[.int a t,.int b u,.int c v]} e) (aN _ rfl) (.inr (.inr rfl))
 refine⟨.xS a b c,σ,_,k2,Uq,?_,h⟩
 exact⟨_,t,u,v,rfl,Zf.ia _ _ _⟩
theorem E7(h:Q (.xS 0 a 1) σ):WN C fr (λvs=>call (.type "range") vs) [.int a] ρ σ Q X:=λY Z s vs ok r=>by
 obtain⟨w,rfl,r1⟩:=j7 r;obtain⟨t,rfl⟩:=aO r1
 exact call_range_1 (Ai ok h)
theorem E8(hc:0<c)(O9:c<1000000)(h:Q (.xS a b c) σ):WN C fr (λvs=>call (.type "range") vs) [.int a,.int b,.int c] ρ σ Q X:=λY Z s vs ok r=>by
 obtain⟨w,w',JS,rfl,r1,r2,r3⟩:=r6 r;obtain⟨t,rfl⟩:=aO r1;obtain⟨u,rfl⟩:=aO r2;obtain⟨v,rfl⟩:=aO r3
 exact call_range_3 (by exactλe=>absurd (e▸hc) (by decide)) (Ai ok h) (.inl (PyProof.noPylong_small (by omega)))
theorem vD{T:String}{q:Bool}(hT:(T="int"/\q=true)\/(T="bool"/\q=false))(h:Q (.bool q) σ):WN C fr (λvs=>call (.builtin "isinstance") vs) [.int a,.val (.type T)] ρ σ Q X:=λY Z s vs ok r=>by
 obtain⟨w,w',rfl,r1,r2⟩:=i6 r;obtain⟨t,rfl⟩:=aO r1;obtain rfl:=i3 r2
 rcases hT with⟨rfl,rfl⟩|⟨rfl,rfl⟩
 ·exact IsiPair.int_int (bZ ok (cN _) h)
 ·exact IsiPair.int_bool (bZ ok.toks (cN _) h)
theorem vE(h:Q (.bool true) σ):WN C fr (λvs=>call (.builtin "isinstance") vs) [.str x,.val (.type "str")] ρ σ Q X:=λY Z s vs ok r=>by
 obtain⟨w,w',rfl,r1,r2⟩:=i6 r;obtain⟨t,rfl⟩:=a7 r1;obtain rfl:=i3 r2
 exact IsiPair.str_str (bZ ok (cN _) h)
theorem rx{xs:List PV}(h:Q (.bool true) σ):WN C fr (λvs=>call (.builtin "isinstance") vs) [.tup xs,.val (.type "tuple")] ρ σ Q X:=λY Z s vs ok r=>by
 obtain⟨w,w',rfl,r1,r2⟩:=i6 r;obtain⟨t,us,rfl,⟨n,hz⟩,rl⟩:=fw r1;obtain rfl:=i3 r2
 exact IsiPair.tuple_tuple (ok.vals _ _ hz) rfl (bZ ok (cN _) h)
theorem ug{kvs:List (Int×Int)}(h:Q (.bool true) σ):WN C fr (λvs=>call (.builtin "isinstance") vs) [.tabI kvs,.val (.type "dict")] ρ σ Q X:=λY Z s vs ok r=>by
 obtain⟨w,w',rfl,r1,r2⟩:=i6 r;obtain⟨t,o,rfl,hz,ht⟩:=iw r1;obtain rfl:=i3 r2
 exact IsiPair.dict_dict (ok.vals _ _ hz) ht.cls (bZ ok (cN _) h)
theorem uh{kvs:List (List Int×Int)}(h:Q (.bool true) σ):WN C fr (λvs=>call (.builtin "isinstance") vs) [.dY kvs,.val (.type "dict")] ρ σ Q X:=λY Z s vs ok r=>by
 obtain⟨w,w',rfl,r1,r2⟩:=i6 r;obtain⟨t,o,rfl,hz,ht⟩:=iy r1;obtain rfl:=i3 r2
 exact IsiPair.dict_dict (ok.vals _ _ hz) ht.cls (bZ ok (cN _) h)
theorem Cg(ha:a.natAbs.log2<1920)(h:Q (.str (toString a)) σ):WN C fr (λvs=>call (.type "str") vs) [.int a] ρ σ Q X:=λY Z s vs ok r=>by
 obtain⟨w,rfl,r1⟩:=j7 r;obtain⟨t,rfl⟩:=aO r1
 exact P.str_of_int ha (bZ ok.toks (fQ _ _) h)
theorem Ch(h:Q (.int a) σ):WN C fr (λvs=>call (.type "int") vs) [.int a] ρ σ Q X:=λY Z s vs ok r=>by
 obtain⟨w,rfl,r1⟩:=j7 r;obtain⟨t,rfl⟩:=aO r1
 exact call_int_int (bZ ok (cC _ _) h)
theorem Ci(hn:PySem.intText? x=some a)(hl:x.length<=640)(h:Q (.int a) σ):WN C fr (λvs=>call (.type "int") vs) [.str x] ρ σ Q X:=λY Z s vs ok r=>by
 obtain⟨w,rfl,r1⟩:=j7 r;obtain⟨t,rfl⟩:=a7 r1
 exact KIN.call_text hn hl (bZ ok.toks (cC _ _) h)
theorem GH(hp:PadOk a=true)(h:Q (.str (Txt.zfill x a)) σ):WN C fr (λvs=>call (.builtin "str.zfill") vs) [.str x,.int a] ρ σ Q X:=λY Z s vs ok r=>by
 obtain⟨w,w',rfl,r1,r2⟩:=i6 r;obtain⟨t,rfl⟩:=a7 r1;obtain⟨u,rfl⟩:=aO r2
 exact SC.zfill hp λ_ _=>bZ ok.toks (fQ _ _) h
theorem JU(h:Q (.int (Txt.find x y)) σ):WN C fr (λvs=>call (.builtin "str.find") vs) [.str x,.str y] ρ σ Q X:=λY Z s vs ok r=>by
 obtain⟨w,w',rfl,r1,r2⟩:=i6 r;obtain⟨t,rfl⟩:=a7 r1;obtain⟨u,rfl⟩:=a7 r2
 exact SC.find (bZ ok.toks (cC _ _) h)
theorem GI(h:Q (.int (Txt.find3 x y a)) σ):WN C fr (λvs=>call (.builtin "str.find") vs) [.str x,.str y,.int a] ρ σ Q X:=λY Z s vs ok r=>by
 obtain⟨w,w',JS,rfl,r1,r2,r3⟩:=r6 r;obtain⟨t,rfl⟩:=a7 r1;obtain⟨u,rfl⟩:=a7 r2;obtain⟨v,rfl⟩:=aO r3
 exact SC.find3 (bZ ok.toks (cC _ _) h)
theorem GJ(h:Q (.int (Txt.rfind x y)) σ):WN C fr (λvs=>call (.builtin "str.rfind") vs) [.str x,.str y] ρ σ Q X:=λY Z s vs ok r=>by
 obtain⟨w,w',rfl,r1,r2⟩:=i6 r;obtain⟨t,rfl⟩:=a7 r1;obtain⟨u,rfl⟩:=a7 r2
 exact SC.rfind (bZ ok.toks (cC _ _) h)
theorem xx(h:Q (.bool (Txt.startswith x y)) σ):WN C fr (λvs=>call (.builtin "str.startswith") vs) [.str x,.str y] ρ σ Q X:=λY Z s vs ok r=>by
 obtain⟨w,w',rfl,r1,r2⟩:=i6 r;obtain⟨t,rfl⟩:=a7 r1;obtain⟨u,rfl⟩:=a7 r2
 exact SC.startswith (bZ ok (cN _) h)
theorem x6:∀(l:List (Str×Tok)),cO Z (l.map λp=> .str p.1) (strValues l)
 |[]=> .nil
 |p::l=> .cons (fQ _ _) (x6 l)
theorem iG:∀{xs:List Str} {vs:List Value},cO Z (xs.map .str) vs->∃l:List (Str×Tok),vs=strValues l/\l.map (·.1)=xs
 |[],vs,r=>by exact⟨[],r,rfl⟩
 |x::xs,vs,r=>by
  obtain⟨v,Gf,rfl,r1,r2⟩:=r
  obtain⟨t,rfl⟩:=a7 r1
  obtain⟨l,rfl,rfl⟩:=iG r2
  exact⟨(x,t)::l,rfl,rfl⟩
theorem GK(hy:(y.length==0)=false)(hsz:x.length<=sizeLine)(Ur:(Builtin.Str.partsBetween x (Builtin.Str.occurrences x y 0 x.length (x.length+1)) y.length).length<=sizeLine)
 (h:∀l,σ l=none->Q (.loc l) (σ.upd l (.list ((Txt.split x y).map .str)))):WN C fr (λvs=>call (.builtin "str.split") vs) [.str x,.str y] ρ σ Q X:=λY Z s vs ok r=>by
 obtain⟨w,w',rfl,r1,r2⟩:=i6 r;obtain⟨t,rfl⟩:=a7 r1;obtain⟨u,rfl⟩:=a7 r2
 have qr:∀(l:List (Str×Tok)) (k:Nat),l.map (·.1)=Txt.split x y->iD C fr Y Z ρ Q (.ref s.heap.objs.size) {s with heap:=s.heap.push {cls:= .type "list",data:= .seq (strValues l).toArray},toks:=k}:=λl k e=>
  mx (xs:=(Txt.split x y).map .str) ok (by rw[<-e,b3];exact x6 l) h
 cases h1:(decide (x.length<y.length)||decide (Builtin.Str.strKind x<Builtin.Str.strKind y))
 ·cases hf:(Builtin.Str.occurrences x y 0 x.length (x.length+1)).isEmpty
  ·refine call_meets F.slot_str_split (typeIs_str _ _ _) F.entry_str_split (F.args_str_split_2 _ _) (meets_str_split_sep x y t u h1 hy hf hsz Ur) ?_
   rw[strsFrom_eq]
   exact qr _ _ ((numbered_texts _ _).trans ((if_neg (ne_true_of_eq_false h1)).trans (if_neg (ne_true_of_eq_false hf))).symm)
  ·exact call_meets F.slot_str_split (typeIs_str _ _ _) F.entry_str_split (F.args_str_split_2 _ _) (meets_str_split_not_found x y t u h1 hy hf)
    (qr [(x,t)] s.toks ((if_neg (ne_true_of_eq_false h1)).trans (if_pos hf)).symm)
 ·exact call_meets F.slot_str_split (typeIs_str _ _ _) F.entry_str_split (F.args_str_split_2 _ _) (meets_str_split_cannot_occur x y t u h1) (qr [(x,t)] s.toks (if_pos h1).symm)
theorem JV{l:Addr}{xs:List Str}(hc:σ l=some (.list (xs.map .str)))(kG:JoinOk x xs=true)(h:Q (.str (Txt.join x xs)) σ):WN C fr (λvs=>call (.builtin "str.join") vs) [.str x,.loc l] ρ σ Q X:=λY Z s vs ok r=>by
 obtain⟨w,w',rfl,r1,r2⟩:=i6 r;obtain⟨t,rfl⟩:=a7 r1;obtain rfl:=bA r2
 obtain⟨o,ho,us,n,rfl,rl⟩:=ok.jq l _ hc
 obtain⟨ps,rfl,hx⟩:=iG rl
 exact SC.join ⟨_,ho,rfl,n,rfl⟩ hx kG λ_ _=>bZ ok.toks (fQ _ _) h
end
section
variable{K V:Type}[DecidableEq K]
noncomputable def b0(kvs:List (K×V))(k:K):Option V:=(kvs.find? λp=>decide (p.1=k)).map (·.2)
noncomputable def hK(kvs:List (K×V))(k:K)(v:V):List (K×V):=
 if kvs.any (λp=>decide (p.1=k))then kvs.map (λp=>if p.1=k then(p.1,v)else p)else kvs++[(k,v)]
variable{P:V->Value->Prop}
theorem eM.keys:∀{kvs:List (K×V)} {ws:List (K×Value)},eM P kvs ws->ws.map (·.1)=kvs.map (·.1)
 |[],_,r=>by obtain rfl:=r;rfl
 |(k,v)::r,_,⟨u,qa,e,p,q⟩=>by subst e;simp[eM.keys q]
theorem eM.length{kvs:List (K×V)}{ws:List (K×Value)}(r:eM P kvs ws):ws.length=kvs.length:=by
 have:=congrArg List.length r.keys;simpa using this
theorem eM.look:∀{kvs:List (K×V)} {ws:List (K×Value)},eM P kvs ws->∀k,(b0 kvs k=none/\valueAt ws k=none)\/∃v u,b0 kvs k=some v/\valueAt ws k=some u/\P v u
 |[],_,r,k=>by obtain rfl:=r;exact .inl ⟨rfl,rfl⟩
 |(k',v)::r,_,⟨u,qa,e,p,q⟩,k=>by
  subst e
  by_cases h:k'=k
  ·exact .inr ⟨v,u,by simp[b0,h],by simp[valueAt,h],p⟩
  ·have:=eM.look q k
   simpa[b0,valueAt,h]using this
theorem eM.append{kvs GL:List (K×V)}{ws qa:List (K×Value)}(r:eM P kvs ws)(r':eM P GL qa):eM P (kvs++GL) (ws++qa):=by
 induction kvs generalizing ws with
 |nil=>obtain rfl:=r;exact r'
 |cons p kvs ih=>
  obtain⟨k,v⟩:=p
  obtain⟨u,Us,e,p,q⟩:=r
  subst e
  exact⟨u,Us++qa,rfl,p,ih q⟩
theorem eM.rK:∀{kvs:List (K×V)} {ws:List (K×Value)},eM P kvs ws->∀{k:K} {v:V} {u:Value},P v u->
 eM P (kvs.map λp=>if p.1=k then(p.1,v)else p) (ws.map λp=>if p.1=k then(p.1,u)else p)
 |[],_,r,_,_,_,_=>by obtain rfl:=r;exact rfl
 |(k',v')::r,_,⟨u',qa,e,p,q⟩,k,v,u,h=>by
  subst e
  by_cases hk:k'=k
  ·simp only[bp,if_pos hk];exact⟨u,_,rfl,h,eM.rK q h⟩
  ·simp only[bp,if_neg hk];exact⟨u',_,rfl,p,eM.rK q h⟩
theorem DF{W:Type}{kvs:List (K×V)}{ws:List (K×W)}(h:ws.map (·.1)=kvs.map (·.1))(k:K):ws.any (λp=>decide (p.1=k))=kvs.any (λp=>decide (p.1=k)):=by
 have e:∀{U:Type} (l:List (K×U)),l.any (λp=>decide (p.1=k))=(l.map (·.1)).any (λx=>decide (x=k)):=λl=>by rw[List.any_map];rfl
 rw[e,e,h]
theorem eM.put{kvs:List (K×V)}{ws:List (K×Value)}(r:eM P kvs ws){k:K}{v:V}{u:Value}(h:P v u):eM P (hK kvs k v) (stored ws k u):=by
 unfold hK stored
 rw[DF r.keys k]
 split
 ·exact r.rK h
 ·exact r.append ⟨u,[],rfl,h,rfl⟩
end
section
variable{C:Ctx}{fr:Fm}{ρ:b9}{σ:St}{Q:PV->St->Prop}{X:Prop}{Y Z:Zf}{s:Shared}{a b c:Int}{x y:Str}
noncomputable def Pb(i:Int)(v:Value):Prop:=∃u,v=.int i u
theorem pairs_at{prog:Program}{w:World}{K:Type}[DecidableEq K]{knd:KeyKind prog w K}:∀{es:List DictEntry} {ws:List (K×Value)},es.length=ws.length->
 (∀(j:Nat) (e:DictEntry) (p:K×Value),es[j]?=some e->ws[j]?=some p->knd.is p.1 e.key=true/\e.val=p.2)->Pairs knd es ws
 |[],[],_,_=> .nil
 |e::es,p::ws,hl,h=>by
  obtain⟨k,v⟩:=p
  have h0:=h 0 e (k,v) rfl rfl
  exact .cons h0.1 h0.2 (pairs_at (by simpa using hl) λj e p he hp=>h (j+1) e p (by simpa using he) (by simpa using hp))
 |[],_::_,hl,_=>by simp at hl
 |_::_,[],hl,_=>by simp at hl
theorem DG{K V:Type}{P:V->Value->Prop}:∀{kvs:List (K×V)} {ws:List (K×Value)},ws.length=kvs.length->(∀(j:Nat) (k:K) (v:V),kvs[j]?=some (k,v)->∃u,ws[j]?=some (k,u)/\P v u)->eM P kvs ws
 |[],ws,hl,_=>by simp at hl;exact hl
 |(k,v)::r,[],hl,_=>by simp at hl
 |(k,v)::r,p::ws,hl,h=>by
  obtain⟨u,hu,hp⟩:=h 0 k v rfl
  simp at hu;subst hu
  exact⟨u,ws,rfl,hp,DG (by simpa using hl) λj k v e=>by have:=h (j+1) k v (by simpa using e);simpa using this⟩
theorem eM.get{K V:Type}{P:V->Value->Prop}:∀{kvs:List (K×V)} {ws:List (K×Value)},eM P kvs ws->∀{j:Nat} {k:K} {v:V},kvs[j]?=some (k,v)->∃u,ws[j]?=some (k,u)/\P v u
 |[],_,_,j,k,v,e=>by simp at e
 |(k',v')::r,_,⟨u,qa,e',p,q⟩,j,k,v,e=>by
  subst e'
  cases j with
  |zero=>simp at e;obtain⟨rfl,rfl⟩:=e;exact⟨u,rfl,p⟩
  |succ j=>simpa using eM.get q (by simpa using e)
theorem u7{kvs:List (Int×Int)}{o:Obj}(x:gX kvs o):∃ws,eM Pb kvs ws/\KD (iK C) o ws:=by
 obtain⟨es,ep,hx,hd,hn,hsz,he⟩:=x
 have Nz:eM Pb kvs (kvs.zip (es.toList.map (·.val))|>.map λq=>(q.1.1,q.2)):=by
  refine DG (by simp[hsz]) λj k v e=> ?_
  obtain⟨t,u,hj⟩:=he j k v e
  exact⟨.int v u,by simp[jr,e,hj],u,rfl⟩
 refine⟨_,Nz,es,ep,hx,hd,λe hm=> ?_,pairs_at (by simp[hsz]) λj e p h1 h2=> ?_,by rw[Nz.keys];exact hn⟩
 ·obtain⟨j,hj,rfl⟩:=Array.mem_iff_getElem.mp hm
  have eP:j<kvs.length:=by rw[<-hsz];exact hj
  obtain⟨t,u,BQ⟩:=he j kvs[j].1 kvs[j].2 (by simp[eP])
  rw[jt hj]at BQ
  injection BQ with BQ
  rw[BQ]
  exact⟨kvs[j].1,intKind_is _ _ _ _,rfl⟩
 ·have eP:j<kvs.length:=by rw[<-hsz];have:=(aj.mp h1).1;simpa using this
  obtain⟨t,u,BQ⟩:=he j kvs[j].1 kvs[j].2 (by simp[eP])
  rw[ml,BQ]at h1
  cases h1
  obtain⟨u',P0,_⟩:=Nz.get (j:=j) (k:=kvs[j].1) (v:=kvs[j].2) (by simp[eP])
  rw[P0]at h2;cases h2
  have:u'=.int kvs[j].2 u:=by
   rw[bc]at P0
   obtain⟨q,hq,Tl⟩:=aA.mp P0
   obtain⟨h3,h4⟩:=jr.mp hq
   simp[BQ]at h4
   simp at Tl
   rw[<-Tl.2,<-h4]
  exact⟨intKind_is _ _ _ _,this.symm⟩
theorem JW{kvs:List (Int×Int)}{o:Obj}{ws:List (Int×Value)}(r:eM Pb kvs ws)(x:KD (iK C) o ws):gX kvs o:=by
 obtain⟨es,ep,hx,hd,hk,hp,hn⟩:=x
 have hl:es.toList.length=kvs.length:=by rw[hp.length,r.length]
 refine⟨es,ep,hx,hd,by rw[<-r.keys];exact hn,by simpa using hl,λj k v e=> ?_⟩
 obtain⟨u,hu,t,rfl⟩:=r.get e
 have eP:j<es.toList.length:=by rw[hl];exact(aj.mp e).1
 obtain⟨h1,h2⟩:=hp.get? (aB eP) hu
 have hm:es.toList[j]∈es:=by simp
 obtain⟨k',h3,h4⟩:=hk _ hm
 have:k'=k:=(iK C).inj _ _ _ h3 h1
 subst this
 obtain⟨t',P1⟩:=Value.isInt_shape h1
 refine⟨t',t,?_⟩
 have e2:es[j]?=some es.toList[j]:=by rw[<-ml];exact aB eP
 rw[e2]
 congr 1
 cases hq:es.toList[j]with
 |mk a b c=>rw[hq]at h1 h2 h4 P1;simp at h2 h4 P1;subst h2 P1;rw[h4];rfl
theorem ui{K:Type}:∀{ks:List Int} {vs:List Value},vw ks vs->ItemsAre (iK C) ks vs
 |[],vs,h=>by obtain⟨h,_⟩:=h;simp at h;subst h;exact .nil
 |k::ks,vs,h=>by
  cases vs with
  |nil=>obtain⟨h,_⟩:=h;simp at h
  |cons v vs=>
   obtain⟨hl,hi⟩:=h
   obtain⟨t,ht⟩:=hi 0 k rfl
   simp at ht;subst ht
   exact .cons (intKind_is _ _ _ _) (ui (K:=K) ⟨by simpa using hl,λj i hj=>by simpa using hi (j+1) i (by simpa using hj)⟩)
theorem Aj:∀{ks:List Int} {vs:List Value},cO Z (ks.map .int) vs->vw ks vs
 |[],vs,r=>by subst r;exact⟨rfl,λj i h=>by simp at h⟩
 |k::ks,vs,r=>by
  obtain⟨v,Gf,rfl,r1,r2⟩:=r
  obtain⟨t,rfl⟩:=aO r1
  obtain⟨hl,hi⟩:=Aj r2
  refine⟨by simp[hl],λj i hj=> ?_⟩
  cases j with
  |zero=>simp at hj;subst hj;exact⟨t,rfl⟩
  |succ j=>simpa using hi j i (by simpa using hj)
theorem vF(ks:List Int):(tK C).hash ks=u4 ks:=rfl
noncomputable def rz(Z:Zf)(k:List Int)(a:Addr):Prop:=∃vs,vu Z a vs/\vw k vs
theorem rz.is{k:List Int}{a:Addr}{h:Heap}(x:rz Z k a)(hz:LW Z h):(tK C).is h k a:=by
 obtain⟨vs,⟨n,e⟩,i⟩:=x
 exact⟨_,_,n,hz _ _ e,rfl,rfl,by simpa using ui (K:=Int) i⟩
noncomputable def iT(Z:Zf):List (List Int×Int)->List (List Int×Addr×Value)->Prop
 |[],xs=>xs=[]
 |(k,v)::r,xs=>∃a u Jh,xs=(k,a,.int v u)::Jh/\rz Z k a/\iT Z r Jh
theorem iT.keys:∀{kvs:List (List Int×Int)} {xs:List (List Int×Addr×Value)},iT Z kvs xs->xs.map (·.1)=kvs.map (·.1)
 |[],_,r=>by obtain rfl:=r;rfl
 |(k,v)::r,_,⟨a,u,Jh,e,p,q⟩=>by subst e;simp[iT.keys q]
theorem iT.look:∀{kvs:List (List Int×Int)} {xs:List (List Int×Addr×Value)},iT Z kvs xs->∀k,(b0 kvs k=none/\atKey xs k=none)\/∃v a u,b0 kvs k=some v/\atKey xs k=some (a,.int v u)
 |[],_,r,k=>by obtain rfl:=r;exact .inl ⟨rfl,rfl⟩
 |(k',v)::r,_,⟨a,u,Jh,e,p,q⟩,k=>by
  subst e
  by_cases h:k'=k
  ·exact .inr ⟨v,a,u,by simp[b0,h],by simp[atKey,h]⟩
  ·have:=iT.look q k
   simpa[b0,atKey,h]using this
theorem iT.mem:∀{kvs:List (List Int×Int)} {xs:List (List Int×Addr×Value)},iT Z kvs xs->∀x∈xs,rz Z x.1 x.2.1
 |[],_,r,x,hx=>by obtain rfl:=r;cases hx
 |(k,v)::r,_,⟨a,u,Jh,e,p,q⟩,x,hx=>by
  subst e
  rcases ak.mp hx with rfl|hx
  ·exact p
  ·exact iT.mem q x hx
theorem iT.append{kvs:List (List Int×Int)}{xs:List (List Int×Addr×Value)}(r:iT Z kvs xs){k:List Int}{v:Int}{a:Addr}{u:Tok}(hk:rz Z k a):iT Z (kvs++[(k,v)]) (xs++[(k,a,.int v u)]):=by
 induction kvs generalizing xs with
 |nil=>obtain rfl:=r;exact⟨a,u,[],rfl,hk,rfl⟩
 |cons p kvs ih=>
  obtain⟨k',v'⟩:=p
  obtain⟨a',u',Jh,e,p,q⟩:=r
  subst e
  exact⟨a',u',_,rfl,p,ih q⟩
theorem iT.rK:∀{kvs:List (List Int×Int)} {xs:List (List Int×Addr×Value)},iT Z kvs xs->∀{k:List Int} {v:Int} {u:Tok},
 iT Z (kvs.map λp=>if p.1=k then(p.1,v)else p) (xs.map (putAt k (.int v u)))
 |[],_,r,_,_,_=>by obtain rfl:=r;exact rfl
 |(k',v')::r,_,⟨a,u',Jh,e,p,q⟩,k,v,u=>by
  subst e
  by_cases hk:k'=k
  ·simp only[bp,if_pos hk,putAt];exact⟨a,u,_,rfl,p,iT.rK q⟩
  ·simp only[bp,if_neg hk,putAt];exact⟨a,u',_,rfl,p,iT.rK q⟩
theorem iT.put{kvs:List (List Int×Int)}{xs:List (List Int×Addr×Value)}(r:iT Z kvs xs){k:List Int}{v:Int}{a:Addr}{u:Tok}(hk:rz Z k a):iT Z (hK kvs k v) (storedH xs k a (.int v u)):=by
 unfold hK storedH
 have h1:(atKey xs k).isSome=kvs.any λp=>decide (p.1=k):=by
  rw[<-DF r.keys k]
  unfold atKey
  rw[Option.isSome_map,Bool.eq_iff_iff]
  simp
 rw[h1]
 split
 ·exact r.rK
 ·exact r.append hk
theorem u8{kvs:List (List Int×Int)}{o:Obj}{h:Heap}{d:Addr}(x:e5 Z kvs o)(hz:LW Z h)(ho:h.get? d=some o):∃xs,iT Z kvs xs/\h.DictOfH (tK C) d xs:=by
 obtain⟨es,ep,hx,hd,hn,hsz,he⟩:=x
 have key:∀(l:List (List Int×Int)) (es:List DictEntry),es.length=l.length->
  (∀(j:Nat) (k:List Int) (v:Int),l[j]?=some (k,v)->∃a vs u,vu Z a vs/\vw k vs/\es[j]?=some ⟨u4 k,.ref a,.int v u⟩)->∃xs,iT Z l xs/\es=xs.map (entryOfKey (tK C)):=by
  intro l
  induction l with
  |nil=>intro es hl _;simp at hl;subst hl;exact⟨[],rfl,rfl⟩
  |cons p l ih=>
   intro es hl h
   obtain⟨k,v⟩:=p
   cases es with
   |nil=>simp at hl
   |cons e es=>
    obtain⟨a,vs,u,hz,hi,h0⟩:=h 0 k v rfl
    simp at h0;subst h0
    obtain⟨xs,h1,rfl⟩:=ih es (by simpa using hl) λj k v hj=>by simpa using h (j+1) k v (by simpa using hj)
    exact⟨(k,a,.int v u)::xs,⟨a,u,xs,rfl,⟨vs,hz,hi⟩,h1⟩,by simp[entryOfKey,vF]⟩
 obtain⟨xs,h1,h2⟩:=key kvs es.toList (by simpa using hsz) λj k v hj=>by simpa using he j k v hj
 exact⟨xs,h1,o,es,ep,ho,hx,hd,h2,λx hx=>(h1.mem x hx).is hz,by rw[h1.keys];exact hn⟩
theorem JX{kvs:List (List Int×Int)}{h:Heap}{d:Addr}{xs:List (List Int×Addr×Value)}(r:iT Z kvs xs)(x:h.DictOfH (tK C) d xs):∃o,h.get? d=some o/\e5 Z kvs o:=by
 obtain⟨o,es,ep,ho,hx,hd,he,his,hn⟩:=x
 have key:∀(l:List (List Int×Int)) (xs:List (List Int×Addr×Value)),iT Z l xs->∀(j:Nat) (k:List Int) (v:Int),l[j]?=some (k,v)->∃a vs u,vu Z a vs/\vw k vs/\(xs.map (entryOfKey (tK C)))[j]?=some ⟨u4 k,.ref a,.int v u⟩:=by
  intro l
  induction l with
  |nil=>intro xs _ j k v e;simp at e
  |cons p l ih=>
   intro xs r j k v e
   obtain⟨k',v'⟩:=p
   obtain⟨a,u,Jh,e',⟨vs,hz,hi⟩,q⟩:=r
   subst e'
   cases j with
   |zero=>simp at e;obtain⟨rfl,rfl⟩:=e;exact⟨a,vs,u,hz,hi,by simp[entryOfKey,vF]⟩
   |succ j=>simpa using ih Jh q j k v (by simpa using e)
 refine⟨o,ho,es,ep,hx,hd,by rw[<-r.keys];exact hn,?_,λj k v e=> ?_⟩
 ·have h1:=congrArg List.length he
  have h2:=congrArg List.length r.keys
  simp at h1 h2;exact h1.trans h2
 ·obtain⟨a,vs,u,h1,h2,h3⟩:=key kvs xs r j k v e
  exact⟨a,vs,u,h1,h2,by rw[<-ml,he];exact h3⟩
theorem my(G:dr C){d:Addr}(h:C.B.get? d=none):(d==sysModules)=false:=by
 have:d≠sysModules:=λq=>by
  obtain⟨o,ho⟩:=G.JC
  rw[q,ho]at h;cases h
 simpa using this
theorem jH{p:Pos}(h:∀d,σ d=none->∃c,(c=.ca []\/c=.mX []\/c=.hY [])/\Q (.loc d) (σ.upd d c)):WE C fr (.Dict [] [] p) ρ σ Q X:=λY Z s ok=>by
 have hn:s.heap.get? s.heap.objs.size=none:=bg (ai _)
 obtain⟨c,hc,q⟩:=h _ (ok.none_of hn).2.2.2.2
 refine wpAny_Dict_empty ?_
 have Ak:(s.heap.push {cls:= .type "dict",data:= .dict #[]}).get? s.heap.objs.size=some {cls:= .type "dict",data:= .dict #[]}:=aN _ rfl
 have hx:({cls:= .type "dict",data:= .dict #[]}:Obj).ExactDict:=⟨rfl,rfl,rfl⟩
 refine⟨.loc s.heap.objs.size,_,Z,fP.refl _,ok.alloc (t':=s.toks) hn (λb o e=>aG _ e) Ak ?_,ic _,q⟩
 rcases hc with rfl|rfl|rfl
 ·exact⟨[],rfl,#[],0,hx,rfl,λe he=>by simp at he,.nil,cX⟩
 ·exact⟨#[],0,hx,rfl,cX,rfl,λj k v e=>by simp at e⟩
 ·exact⟨#[],0,hx,rfl,cX,rfl,λj k v e=>by simp at e⟩
theorem on{d:Addr}{kvs:List (Str×PV)}(ok:Ok C fr Y Z ρ σ s)(hc:σ d=some (.ca kvs)):∃ws,eM (gg Z) kvs ws/\s.heap.DictOf (sK C) d ws:=by
 obtain⟨o,ho,ws,r,k⟩:=ok.jq d _ hc
 exact⟨ws,r,k.dictOf ho⟩
theorem uj{K V:Type}[DecidableEq K]{P:V->Value->Prop}{kvs:List (K×V)}{ws:List (K×Value)}(r:eM P kvs ws)(k:K):(valueAt ws k).isSome=(b0 kvs k).isSome:=by
 rcases r.look k with⟨h1,h2⟩|⟨v,u,h1,h2,_⟩<;>rw[h1,h2]<;>rfl
theorem E9(G:dr C){d:Addr}{kvs:List (Str×PV)}(hc:σ d=some (.ca kvs))(h:Q (.bool (!(b0 kvs x).isSome)) σ):W2 C fr (compareOp .NotIn) (.str x) (.loc d) ρ σ Q X:=λY Z s va vb ok ra rb=>by
 obtain⟨t,rfl⟩:=a7 ra;obtain rfl:=bA rb
 obtain⟨ws,r,k⟩:=on ok hc
 refine wpAny_notIn_of (strKind_is _ _ x t) (my G (ok.own d _ hc).1) k.mapOf (bZ ok.toks ?_ h)
 rw[uj r];exact cN _
theorem GN{d:Addr}{kvs:List (Str×PV)}{v:PV}(hc:σ d=some (.ca kvs))(hv:b0 kvs x=some v)(h:Q v σ):W2 C fr getItem (.loc d) (.str x) ρ σ Q X:=λY Z s va vb ok ra rb=>by
 obtain⟨t,rfl⟩:=a7 rb;obtain rfl:=bA ra
 obtain⟨ws,r,k⟩:=on ok hc
 rcases r.look x with⟨h1,_⟩|⟨v',u,h1,h2,hr⟩
 ·rw[hv]at h1;cases h1
 ·rw[hv]at h1;cases h1
  exact wpAny_getItem_of (strKind_is _ _ x t) k.mapOf h2 (bZ ok.toks hr h)
theorem Cj{d:Addr}{kvs GL:List (Str×PV)}{ws:List (Str×Value)}{h':Heap}{t':Nat}(ok:Ok C fr Y Z ρ σ s)(hc:σ d=some (.ca kvs))(hs:Heap.SameBut d s.heap h')(r:eM (gg Z) GL ws)(k:h'.DictOf (sK C) d ws):
 Ok C fr Y Z ρ (σ.upd d (.ca GL)) {s with heap:=h',toks:=t'}:=by
 obtain⟨o,ho,hk⟩:=KD.of k
 exact ok.turn hc hs ho ⟨ws,r,hk⟩
theorem GO{d:Addr}{kvs:List (Str×PV)}{v:PV}{N:b9->St->Prop}{X:b9->Prop}(hc:σ d=some (.ca kvs))(hsz:kvs.length<=sizeLine)(h:N ρ (σ.upd d (.ca (hK kvs x v)))):
 Nd C fr setItem (.loc d) (.str x) v ρ σ N X:=λY Z s va vb vc ok ra rb rc=>by
 obtain⟨t,rfl⟩:=a7 rb;obtain rfl:=bA ra
 obtain⟨ws,r,k⟩:=on ok hc
 exact wpAny_setItem_pairs (strKind_is _ _ x t) k (λh' hd hs=>⟨ρ,_,Z,fP.refl _,Cj ok hc hs (r.put rc) hd,h⟩) (by rw[r.length];exact hsz)
theorem JY(G:dr C){d:Addr}{kvs:List (Str×PV)}{v:PV}(hc:σ d=some (.ca kvs))(h:Q ((b0 kvs x).getD v) σ):WN C fr (λvs=>call (.builtin "dict.get") vs) [.loc d,.str x,v] ρ σ Q X:=λY Z s vs ok rr=>by
 obtain⟨w,w',JS,rfl,ra,rb,rc⟩:=r6 rr
 obtain⟨t,rfl⟩:=a7 rb;obtain rfl:=bA ra
 obtain⟨ws,r,k⟩:=on ok hc
 refine call_meetsIn F.slot_dict_get k.typeIs F.entry_dict_get (F.args_dict_get_3 _ _ _) (meets_dict_get_default (sK C) d (strKind_is _ _ x t) (my G (ok.own d _ hc).1) JS) ⟨_,k.mapOf,?_⟩
 refine bZ ok.toks ?_ h
 rcases r.look x with⟨h1,h2⟩|⟨v',u,h1,h2,hr⟩
 ·rw[h1,h2];exact rc
 ·rw[h1,h2];exact hr
theorem Al{d:Addr}{kvs:List (Int×Int)}(ok:Ok C fr Y Z ρ σ s)(hc:σ d=some (.mX kvs)):∃ws,eM Pb kvs ws/\s.heap.DictOf (iK C) d ws:=by
 obtain⟨o,ho,x⟩:=ok.jq d _ hc
 obtain⟨ws,r,k⟩:=u7 (C:=C) x
 exact⟨ws,r,k.dictOf ho⟩
theorem NA(G:dr C){d:Addr}{kvs:List (Int×Int)}(hc:σ d=some (.mX kvs))(h:Q (.bool (b0 kvs a).isSome) σ):W2 C fr (compareOp .In) (.int a) (.loc d) ρ σ Q X:=λY Z s va vb ok ra rb=>by
 obtain⟨t,rfl⟩:=aO ra;obtain rfl:=bA rb
 obtain⟨ws,r,k⟩:=Al ok hc
 refine wpAny_in_of (intKind_is _ _ a t) (my G (ok.own d _ hc).1) k.mapOf (bZ ok.toks ?_ h)
 rw[uj r];exact cN _
theorem GP{d:Addr}{kvs:List (Int×Int)}{v:Int}{N:b9->St->Prop}{X:b9->Prop}(hc:σ d=some (.mX kvs))(hsz:kvs.length<=sizeLine)(h:N ρ (σ.upd d (.mX (hK kvs a v)))):
 Nd C fr setItem (.loc d) (.int a) (.int v) ρ σ N X:=λY Z s va vb vc ok ra rb rc=>by
 obtain⟨t,rfl⟩:=aO rb;obtain rfl:=bA ra
 obtain⟨ws,r,k⟩:=Al ok hc
 refine wpAny_setItem_pairs (intKind_is _ _ a t) k (λh' hd hs=> ?_) (by rw[r.length];exact hsz)
 obtain⟨o,ho,hk⟩:=KD.of hd
 exact⟨ρ,_,Z,fP.refl _,ok.turn (c':= .mX (hK kvs a v)) hc hs ho (JW (r.put (aO rc)) hk),h⟩
theorem Am{kvs:List (Int×Int)}{v:Int}(hv:b0 kvs a=some v)(h:Q (.int v) σ):W2 C fr getItem (.tabI kvs) (.int a) ρ σ Q X:=λY Z s va vb ok ra rb=>by
 obtain⟨t,rfl⟩:=aO rb
 obtain⟨d,o,rfl,hz,ht⟩:=iw ra
 obtain⟨ws,r,k⟩:=u7 (C:=C) ht
 rcases r.look a with⟨h1,_⟩|⟨v',u,h1,h2,hr⟩
 ·rw[hv]at h1;cases h1
 ·rw[hv]at h1;cases h1
  obtain⟨tk,rfl⟩:=hr
  exact wpAny_getItem_of (intKind_is _ _ a t) (k.dictOf (ok.vals _ _ hz)).mapOf h2 (bZ ok.toks (cC _ _) h)
theorem r7(F:aI C fr):fr.A.units+1<cLine:=au (show fr.A.units+1<9001 by have:=F.room;unfold ms at this;exact mq [.lt (.a (.v 0) (.m 16 (.v 1))) (.n 9000)] (.lt (.a (.v 0) (.n 1)) (.n 9001)) [1] (Eq.refl true) this.2) (by decide)
theorem mz{ks:List Int}{v:Value}(r:gg Z (lJ ks) v):∃a,v=.ref a/\rz Z ks a:=by
 obtain⟨a,vs,e,z,rl⟩:=fw r
 exact⟨a,e,vs,z,Aj rl⟩
theorem vG{d:Addr}{kvs:List (List Int×Int)}(ok:Ok C fr Y Z ρ σ s)(hc:σ d=some (.hY kvs)):∃xs,iT Z kvs xs/\s.heap.DictOfH (tK C) d xs:=by
 obtain⟨o,ho,x⟩:=ok.jq d _ hc
 exact u8 x ok.vals ho
theorem NC(G:dr C)(F:aI C fr){d:Addr}{kvs:List (List Int×Int)}{ks:List Int}(hc:σ d=some (.hY kvs))(h:Q (.bool (b0 kvs ks).isSome) σ):W2 C fr (compareOp .In) (lJ ks) (.loc d) ρ σ Q X:=λY Z s va vb ok ra rb=>by
 obtain⟨k,rfl,hk⟩:=mz ra;obtain rfl:=bA rb
 obtain⟨xs,r,hd⟩:=vG ok hc
 refine wpAny_in_heap (knd:=tK C) (r7 F) (hk.is ok.vals) (my G (ok.own d _ hc).1) hd (bZ ok.toks ?_ h)
 rcases r.look ks with⟨h1,h2⟩|⟨v,a,u,h1,h2⟩<;>rw[h1,h2]<;>exact cN _
theorem An(F:aI C fr){d:Addr}{kvs:List (List Int×Int)}{ks:List Int}{v:Int}{N:b9->St->Prop}{X:b9->Prop}(hc:σ d=some (.hY kvs))(hsz:kvs.length<=sizeLine)(h:N ρ (σ.upd d (.hY (hK kvs ks v)))):
 Nd C fr setItem (.loc d) (lJ ks) (.int v) ρ σ N X:=λY Z s va vb vc ok ra rb rc=>by
 obtain⟨k,rfl,hk⟩:=mz rb;obtain rfl:=bA ra;obtain⟨u,rfl⟩:=aO rc
 obtain⟨xs,r,hd⟩:=vG ok hc
 have hl:xs.length<=sizeLine:=by have:=congrArg List.length r.keys;simp at this;exact this▸hsz
 refine wpAny_setItem_heap (knd:=tK C) (hsz:=hl) (r7 F) (hk.is ok.vals) hd λh' Nn hs=> ?_
 obtain⟨o,ho,ht⟩:=JX (r.put (v:=v) (u:=u) hk) Nn
 exact⟨ρ,_,Z,fP.refl _,ok.turn (c':= .hY (hK kvs ks v)) hc hs ho ht,h⟩
theorem JZ(G:dr C)(F:aI C fr){d:Addr}{kvs:List (List Int×Int)}{ks:List Int}{v:Int}(hc:σ d=some (.hY kvs))(h:Q (.int ((b0 kvs ks).getD v)) σ):
 WN C fr (λvs=>call (.builtin "dict.get") vs) [.loc d,lJ ks,.int v] ρ σ Q X:=λY Z s vs ok rr=>by
 obtain⟨w,w',JS,rfl,ra,rb,rc⟩:=r6 rr
 obtain⟨k,rfl,hk⟩:=mz rb;obtain rfl:=bA ra;obtain⟨u,rfl⟩:=aO rc
 obtain⟨xs,r,hd⟩:=vG ok hc
 refine call_meetsIn PySem.F.slot_dict_get hd.typeIs PySem.F.entry_dict_get (PySem.F.args_dict_get_3 _ _ _) (meetsH_dict_get_default (tK C) d k (my G (ok.own d _ hc).1) (.int v u)) ⟨r7 F,ks,xs,hk.is ok.vals,hd,?_⟩
 refine bZ ok.toks ?_ h
 rcases r.look ks with⟨h1,h2⟩|⟨v',a,u',h1,h2⟩<;>rw[h1,h2]<;>exact cC _ _
theorem Ao(F:aI C fr){kvs:List (List Int×Int)}{ks:List Int}{v:Int}(hv:b0 kvs ks=some v)(h:Q (.int v) σ):W2 C fr getItem (.dY kvs) (lJ ks) ρ σ Q X:=λY Z s va vb ok ra rb=>by
 obtain⟨k,rfl,hk⟩:=mz rb
 obtain⟨d,o,rfl,hz,ht⟩:=iy ra
 obtain⟨xs,r,hd⟩:=u8 (C:=C) ht ok.vals (ok.vals _ _ hz)
 rcases r.look ks with⟨h1,_⟩|⟨v',a,u,h1,h2⟩
 ·rw[hv]at h1;cases h1
 ·rw[hv]at h1;cases h1
  exact wpAny_getItem_heap (knd:=tK C) (r7 F) (hk.is ok.vals) hd h2 (bZ ok.toks (cC _ _) h)
theorem Ck{xs:List Str}(h:Q (.bool (decide (x∈xs))) σ):W2 C fr (compareOp .In) (.str x) (.tup (xs.map .str)) ρ σ Q X:=λY Z s va vb ok ra rb=>by
 obtain⟨t,rfl⟩:=a7 ra
 obtain⟨l,vs,rfl,zt,rl⟩:=fw rb
 obtain⟨ps,rfl,rfl⟩:=iG rl
 refine in_tupleAt (λv=>match v with|.str z _=>z==x|_=>false) (zt.tj ok.vals) (λv hv=> ?_) (bZ ok ?_ h)
 ·have Gy:v∈strValues ps:=by simpa using hv
  obtain⟨p,_,rfl⟩:=bj.mp Gy
  exact EqAt.str_str _ _ _ _
 ·have:(strValues ps).toArray.any (λv=>match v with|.str z _=>z==x|_=>false)=decide (x∈ps.map (·.1)):=by
   rw[Bool.eq_iff_iff];simp[strValues]
  rw[this];exact cN _
theorem Cm{l:Addr}{xs:List Str}(hc:σ l=some (.list (xs.map .str)))(h:Q (.bool (decide (x∈xs))) σ):W2 C fr (compareOp .In) (.str x) (.loc l) ρ σ Q X:=λY Z s va vb ok ra rb=>by
 obtain⟨t,rfl⟩:=a7 ra
 obtain rfl:=bA rb
 obtain⟨o,ho,us,n,rfl,rl⟩:=ok.jq l _ hc
 obtain⟨ps,rfl,rfl⟩:=iG rl
 refine in_listAt (λv=>match v with|.str z _=>z==x|_=>false) ⟨_,ho,rfl,n,rfl⟩ (λv hv=> ?_) (bZ ok ?_ h)
 ·have Gy:v∈strValues ps:=by simpa using hv
  obtain⟨p,_,rfl⟩:=bj.mp Gy
  exact EqAt.str_str _ _ _ _
 ·have:(strValues ps).toArray.any (λv=>match v with|.str z _=>z==x|_=>false)=decide (x∈ps.map (·.1)):=by
   rw[Bool.eq_iff_iff];simp[strValues]
  rw[this];exact cN _
end
section
variable{C:Ctx}{fr:Fm}{ρ:b9}{σ:St}{Q:PV->St->Prop}{X:Prop}{Y Z:Zf}{s:Shared}{K:Frag}{c:Addr}{name:Str}
structure x7(K:Frag)(c:Addr)(cd:ClassData):Prop where
 cls:clsIn K c=some cd
 has:cd.hasDict=true
 ga:findIn K (.ref c) "__getattribute__"=some (some (.builtin "object.__getattribute__"))
 gat:findIn K (.ref c) "__getattr__"=some none
 sa:findIn K (.ref c) "__setattr__"=some (some (.builtin "object.__setattr__"))
 over:plainOver K c=true
theorem Cn(ok:Ok C fr Y Z ρ σ s){x d:Addr}{kvs:List (Str×PV)}(hx:σ x=some (.inst c d))(hd:σ d=some (.ca kvs)):
 ∃od ws,InstAt s.heap x {cls:= .ref c,dict:=some d,data:= .plain} c (some od)/\s.heap.get? d=some od/\eM (gg Z) kvs ws/\KD (sK C) od ws:=by
 obtain⟨o,ho,rfl⟩:=ok.jq x _ hx
 obtain⟨od,Ca,ws,r,k⟩:=ok.jq d _ hd
 exact⟨od,ws,⟨ho,rfl,rfl,Ca⟩,Ca,r,k⟩
theorem qy(x:Str)(v:Value):Value.isStrOf x v=v.isStr x:=by
 cases v<;>simp[Value.isStrOf,Value.isStr,Bool.beq_eq_decide_eq,eq_comm]
theorem x8{e:DictEntry}{k:Str}(h:Value.isStrOf k e.key=true):e.refKey=false:=(Value.isStrOf_shape h).elim λt ht=>by unfold DictEntry.refKey;rw[ht]
theorem tD{ws:List (Str×Value)}{od:Obj}(k:KD (sK C) od ws)(x:Str):lookIn x od=some (valueAt ws x):=by
 obtain⟨es,ep,hx,hd,hk,hp,hn⟩:=k
 unfold lookIn
 rw[hd]
 have hf:(es.toList.find? λe=>e.key.isStr x)=es.toList.find? λe=>(sK C).is x e.key:=by
  congr 1;funext e;exact(qy x e.key).symm
 have hv:=hp.find x
 dsimp only
 rw[hf]
 cases q:es.toList.find? (λe=>(sK C).is x e.key)with
 |some e=>rw[q]at hv;simp at hv;simp[hv]
 |none=>
  rw[q]at hv;simp at hv
  have hr:es.toList.any (·.refKey)=false:=List.any_eq_false.mpr λe he=>Bool.eq_false_iff.mp ((hk e (Array.mem_toList_iff.mp he)).elim λk h=>x8 h.1)
  rw[hr,<-hv];rfl
theorem findObj_own{cd:ClassData}{od:Obj}{v:Value}(O:x7 K c cd)(hn:findIn K (.ref c) name=some none)(hl:lookIn name od=some (some v)):findObj K c (some od) name=some (.value v):=
 ao.mpr ⟨cd,O.cls,ao.mpr ⟨none,hn,ao.mpr ⟨none,rfl,ao.mpr ⟨false,rfl,ao.mpr ⟨some v,(if_pos O.has).trans hl,rfl⟩⟩⟩⟩⟩
inductive J0(σ:St)(c:Addr)(name:Str)(ov:PV)(P:Addr->Prop):Prop
 |mk (x d:Addr) (kvs:List (Str×PV)) (a:Addr) (e:ov=.loc x) (hx:σ x=some (.inst c d)) (hd:σ d=some (.ca kvs)) (hl:b0 kvs name=some (.loc a)) (q:P a)
inductive J1(σ:St)(c:Addr)(name:Str)(ov:PV)(P:Addr->Prop):Prop
 |mk (x d:Addr) (kvs:List (Str×PV)) (e:ov=.loc x) (hx:σ x=some (.inst c d)) (hd:σ d=some (.ca kvs)) (hn:b0 kvs name=none) (q:P x)
inductive J2(σ:St)(c:Addr)(name:Str)(ov v:PV)(P:St->Prop):Prop
 |mk (x d:Addr) (kvs:List (Str×PV)) (e:ov=.loc x) (hx:σ x=some (.inst c d)) (hd:σ d=some (.ca kvs)) (hn:b0 kvs name=none) (hsz:kvs.length<=1000) (q:P (σ.upd d (.ca (kvs++[(name,v)]))))
theorem iH{cd:ClassData}{o:Expr}{pos:Pos}(hX:K.In C.B)(O:x7 K c cd)(hn:findIn K (.ref c) name=some none)
 (h:WE C fr o ρ σ (λov aM=>J0 aM c name ov λa=>Q (.loc a) aM) X)
 (hb:∀env,attributeBase o name env (eval o env)=eval o env:=by with_unfolding_all(intro _;rfl)):WE C fr (.Attribute o name pos) ρ σ Q X:=λY Z s ok=>by
 rw[arm_eval_Attribute,hb]
 refine wpAny_bind (wV (h Y Z s ok) λov bF pv aM cn cj bq cA g=>wpAny_bind (wpAny_standAt (wpAny_bind (wpAny_holding ?_))))
 obtain⟨x,d,kvs,a,rfl,hx,hd,hl,q⟩:=g
 obtain rfl:=bA cA
 obtain⟨od,ws,I,Ca,r,k⟩:=Cn bq hx hd
 have hv:valueAt ws name=some (.ref a):=by
  rcases r.look name with⟨h1,_⟩|⟨v,u,h1,h2,hr⟩
  ·rw[hl]at h1;cases h1
  ·rw[hl]at h1;cases h1;rw[h2,bA hr]
 refine get_value (hX.keeps bq.base) I O.ga (findObj_own O hn (by rw[tD k,hv])) rfl ?_
 refine wpAny_bind (tz (wpAny_pure ?_))
 exact⟨.loc a,aM,cn,cj,bq.toks,ic _,q⟩
theorem i7(G:dr C)(F:aI C fr){cd:ClassData}{Fn:Fn}(H:FnAt C Fn){o:Expr}{yZ pos:Pos}{es:List Expr}{lv:Nat}(hX:K.In C.B)(O:x7 K c cd)
 (hf:findIn K (.ref c) name=some (some (.ref Fn.f))) (ht:typeIn K (.ref Fn.f)=some (.type "function")) (hl:lv<fr.lvl)
 (h:WE C fr o ρ σ (λov aM=>J1 aM c name ov λx=>WL C fr pos es ρ aM (λas bO=>as.length+1=Fn.np/\Spec C Fn lv (.loc x::as) bO Q X) X) X)
 (kI:es=[]\/∃x l,backTo pos (starEach es fr.env)=(false,x)::l:=by with_unfolding_all(first|exact .inl rfl|exact .inr ⟨_,_,rfl⟩))
 (he:∀env,∃pl,eval (.Call (.Attribute o name yZ) es [] pos) env=(do
  let ov<-eval o env
  standAt yZ.atName
  let(f,first)<-holding [ov] (getMethod ov name pl)
  callWith pos f first (backTo pos (starEach es env)) []):=by with_unfolding_all(intro _;exact⟨_,rfl⟩)):WE C fr (.Call (.Attribute o name yZ) es [] pos) ρ σ Q X:=λY Z s ok=>by
 obtain⟨pl,e⟩:=he fr.env
 refine MethodCall_ (pl:=pl) (wV (h Y Z s ok) λov bF pv aM cn cj bq cA g=> ?_) e
 obtain⟨x,d,kvs,rfl,hx,hd,hn,hw⟩:=g
 obtain rfl:=bA cA
 obtain⟨od,ws,I,Ca,r,k⟩:=Cn bq hx hd
 have hv:valueAt ws name=none:=by
  rcases r.look name with⟨_,h2⟩|⟨v,u,h1,h2,hr⟩
  ·exact h2
  ·rw[hn]at h1;cases h1
 refine method_fn (hX.keeps bq.base) I O.ga O.gat hf ht (by unfold shadowIn;simp only[tD k,hv];rfl) ?_
 obtain⟨fd,ob,P2,Uo,_⟩:=H.obj
 refine callWith_function (o:=ob) (fd:=fd) (wpAny_mono (qd hw (.ref Fn.f) kI Y cn bF bq) (λa cV h=> ?_) λ_ _ x=>x)
 obtain⟨vs,rfl,as,bO,fb,cP,b1,gZ,dZ,hs⟩:=h
 exact⟨⟨b1.base _ _ P2,Uo⟩,(wP (Af G F H hl (args:= .loc x::as) dZ hs Y fb cV (.ref x::vs) b1 (.cons (ic _) gZ)) λ_ _ x=>x.le (cj.trans cP))⟩
theorem Ap{cd:ClassData}(hX:K.In C.B)(O:x7 K c cd)(ht:takerIn K c name=some none){x d:Addr}{kvs:List (Str×PV)}{pv:PV}{N:b9->St->Prop}{X:b9->Prop}(hx:σ x=some (.inst c d))(hd:σ d=some (.ca kvs))
 (hn:b0 kvs name=none) (hsz:kvs.length<=1000) (h:N ρ (σ.upd d (.ca (kvs++[(name,pv)])))):Th C fr (λv=>setAttr (.ref x) name v) pv ρ σ N X:=λY Z s v ok rv=>by
 obtain⟨od,ws,I,Ca,r,k⟩:=Cn ok hx hd
 have hv:valueAt ws name=none:=by
  rcases r.look name with⟨_,h2⟩|⟨v,u,h1,h2,hr⟩
  ·exact h2
  ·rw[hn]at h1;cases h1
 have XH:=hX.keeps ok.base
 refine set_plain XH I O.sa (osa_open (hX.keeps ok.base) I O.over ht λb=> ?_)
 obtain⟨es,ep,ND,F4,hk,hp,JN⟩:=k
 have GQ:=tD (C:=C) ⟨es,ep,ND,F4,hk,hp,JN⟩ name
 rw[hv]at GQ
 have P4:∀e∈es,e.key.isStr name=false:=λe he=>by
  cases q:e.key.isStr name with
  |false=>rfl
  |true=>
   have Zk:=hp.find name
   rw[hv]at Zk
   have:(es.toList.find? λe=>(sK C).is name e.key)=none:=by simpa using Zk
   have:=List.find?_eq_none.mp this e (by simpa using he)
   exact absurd ((qy name e.key).trans q) this
 have P5:es.any (·.refKey)=false:=Array.any_eq_false.mpr λi hi=>Bool.eq_false_iff.mp ((hk es[i] (Array.getElem_mem _)).elim λk h=>x8 h.1)
 have J3:∀tk,Obj.putName name (hashStr C.w name) (.str name tk) v od={od with data:= .dict (es.push ⟨hashStr C.w name,.str name tk,v⟩) (ep+1)}:=λtk=>by
  rw[Obj.putName_eq]
  obtain⟨oc,odi,oda,osl⟩:=od
  simp only at F4;subst F4
  unfold Obj.putNameByArray
  have:es.findIdx? (·.key.isStr name)=none:=by
   rw[Array.findIdx?_eq_none_iff];exact P4
  simp only[this]
 have kI:∀tk t',zZ C fr Y Z N () {s with heap:=s.heap.update d (Obj.putName name (hashStr C.w name) (.str name tk) v),toks:=t'}:=λtk t'=>by
  have Zh:({od with data:= .dict (es.push ⟨hashStr C.w name,.str name tk,v⟩) (ep+1)}:Obj).isFreed=false:=rfl
  refine⟨ρ,_,Z,fP.refl _,ok.turn hd (jw ..) (eN _ Ca (by rw[J3];rfl)) (c':= .ca (kvs++[(name,pv)])) ?_,h⟩
  rw[J3]
  refine⟨ws++[(name,v)],r.append ⟨v,[],rfl,rv,rfl⟩,es.push ⟨hashStr C.w name,.str name tk,v⟩,ep+1,⟨ND.1,ND.2.1,ND.2.2⟩,rfl,λe he=> ?_,?_,?_⟩
  ·rcases Array.mem_push.mp he with he|rfl
   ·exact hk e he
   ·exact⟨name,strKind_is _ _ _ _,rfl⟩
  ·rw[Array.toList_push];exact hp.append (strKind_is _ _ _ _) _ _
  ·rw[aQ]
   refine dE.mpr ⟨JN,by simp,λa ha b hb=> ?_⟩
   simp at hb;subst hb
   rintro rfl
   rw[r.keys]at ha
   obtain⟨p,BP,e⟩:=bj.mp ha
   unfold b0 at hn
   rw[Option.map_eq_none_iff,List.find?_eq_none]at hn
   exact hn p BP (by simpa using e)
 obtain⟨hxo,L4,NE,-⟩:=I
 refine wpAny_bind (wpAny_pure (wpAny_bind (wpAny_bind (wpAny_loadPart hxo (wpAny_bind ((looks_clsIn (M:=model C.prog C.w) XH O.cls) _ _ _ _ (λ_ _ e=>e) ?_))))))
 rw[O.has]
 refine wpAny_pure (a:=some d) (wpAny_bind (wpAny_pure (wpAny_bind ?_)))
 unfold nsSet
 refine wpAny_bind (wpAny_bind (wpAny_askSetting (wpAny_pure (wpAny_bind (wpAny_mkText (wpAny_bind (wpAny_loadPart Ca ?_)))))))
 rw[F4]
 dsimp only
 rw[aRefKeyMayBeTheName_at,P5,Bool.and_false]
 refine wpAny_updatePart Ca ?_
 have NF:∀tk,(s.heap.update d (Obj.putName name (hashStr C.w name) (.str name tk) v)).get? d=some {od with data:= .dict (es.push ⟨hashStr C.w name,.str name tk,v⟩) (ep+1)}:=λtk=>by
  rw[eN _ Ca (by rw[J3];rfl),J3]
 have JJ:es.size<=1000:=by
  have h1:=hp.length;have h2:=r.length;simp at h1;exact nW [.le (.v 0) (.n 1000),.eq (.v 1) (.v 2),.eq (.v 2) (.v 0)] (.le (.v 1) (.n 1000)) [1,1,1] (Eq.refl true) hsz h1 h2
 refine wpAny_bind (wpAny_lookBehind (NF _) (pastItsLine_dict (by rw[Array.size_push,sizeLine_eq];exact ah JJ (by decide))) ?_)
 exact wpAny_pure (kI _ _)
theorem iI{cd:ClassData}{o e:Expr}{p p':Pos}{N:b9->St->Prop}{R:PV->St->Prop}{J:Bool->b9->St->Prop}{X:b9->Prop}(hX:K.In C.B)(O:x7 K c cd)(ht:takerIn K c name=some none)
 (h:WE C fr e ρ σ (λv aM=>WE C fr o ρ aM (λov bO=>J2 bO c name ov v (N ρ)) (X ρ)) (X ρ))
 (hs:∀env,swapsWith e (some (.Attribute o name p')) p.line env=pure false:=by with_unfolding_all(intro _;rfl)):WS C fr (.Assign [.Attribute o name p'] e p) ρ σ N R J X:=λY Z s ok=>
 plainObj_wpAny_Assign_Attribute (z0 (h Y Z s ok) λv bF a aM cn cj bq cA n9=>z0 (n9 Y cn bF bq) λov cV b bO fb cP b1 gZ g=>by
  obtain⟨x,d,kvs,rfl,hx,hd,hn,hsz,ii⟩:=g
  obtain rfl:=bA gZ
  exact(wU (Ap hX O ht hx hd hn hsz (N:=N) (X:=X) ii Y fb cV v b1 (cA.mono cP)) λ_ iE z7 d0 mv i4 dF rh=>⟨z7,d0,mv,(cj.trans cP).trans i4,dF,rh⟩)) (hs _)
noncomputable def WP(C:Ctx)(fr:Fm)(e:Option Expr)(ρ:b9)(σ:St)(Q:Option Int->St->Prop)(X:Prop):Prop:=match e with
 |none=>Q none σ
 |some e=>WE C fr e ρ σ (λv aM=>∃i,v=.int i/\Q (some i) aM) X
theorem J4{Q:Option Int->St->Prop}(h:Q none σ):WP C fr none ρ σ Q X:=h
theorem J5{e:Expr}{Q:Option Int->St->Prop}(h:WE C fr e ρ σ (λv aM=>∃i,v=.int i/\Q (some i) aM) X):WP C fr (some e) ρ σ Q X:=h
theorem WP.run{e:Option Expr}{Q:Option Int->St->Prop}(h:WP C fr e ρ σ Q X)(ok:Ok C fr Y Z ρ σ s){P:Value->Shared->Prop}{E:Value->Shared->Prop}
 (hk:∀p:Option (Int×Tok),∀s' σ' Z',fP Z Z'->Ok C fr Y Z' ρ σ' s'->Q (p.map (·.1)) σ'->P (partValue p) s') (hE:∀x s',f8 C fr Y ρ X x s'->E x s'):wpAny C.M fr.A (evalPart e fr.env) P E s:=by
 cases e with
 |none=>rw[evalPart_none];exact wpAny_pure (hk none s σ Z (fP.refl _) ok h)
 |some e=>
  rw[evalPart_some]
  refine wpAny_mono (h Y Z s ok) (λv bF ⟨pv,aM,cn,cj,bq,cA,i,e,q⟩=> ?_) hE
  subst e
  obtain⟨t,rfl⟩:=aO cA
  exact hk (some (i,t)) bF aM cn cj bq q
noncomputable def vH(C:Ctx)(σ:St)(v:PV)(xs:List PV):Prop:=
 (∃l,v=.loc l/\σ l=some (.list xs))\/∃l n vs,v=.val (.ref l)/\C.B.get? l=some {cls:= .type "list",data:= .seq vs n}/\∀Z,cO Z xs vs.toList
theorem vH.at(h:vH C σ v xs)(ok:Ok C fr Y Z ρ σ s){u:Value}(r:gg Z v u):∃l vs n,u=.ref l/\s.heap.get? l=some {cls:= .type "list",data:= .seq vs n}/\cO Z xs vs.toList:=by
 rcases h with⟨l,rfl,hc⟩|⟨l,n,vs,rfl,hb,hr⟩
 ·obtain rfl:=bA r
  obtain⟨o,ho,us,n,rfl,rl⟩:=ok.jq l _ hc
  exact⟨l,us.toArray,n,rfl,ho,by simpa using rl⟩
 ·obtain rfl:=i3 r
  exact⟨l,vs,n,rfl,ok.base _ _ hb,hr Z⟩
noncomputable def Co(n:Nat)(lo:Option Int):Nat:=lo.elim 0 (clipAt n)
noncomputable def Fa(n:Nat)(hi:Option Int):Nat:=hi.elim n (clipAt n)
theorem Aq(n k:Nat):clipAt n k=min k n:=by
 unfold clipAt
 rw[if_neg (eX.mpr (aF k))]
 rcases Nat.le_total k n with h|h
 ·rw[Int.min_eq_left (cT.mpr h),Int.max_eq_right (aF _),bD,cY h]
 ·rw[Int.min_eq_right (cT.mpr h),Int.max_eq_right (aF _),bD,Nat.min_eq_right h]
theorem y3{n k:Nat}(h:k<=n):clipAt n k=k:=(Aq n k).trans (cY h)
noncomputable def dy{α:Type}(xs:List α)(lo hi:Option Int):List α:=(xs.drop (Co xs.length lo)).take (Fa xs.length hi-Co xs.length lo)
theorem x9(p:Option (Int×Tok)):IsPart (partValue p) (p.map (·.1)):=by
 cases p with
 |none=>exact .none
 |some p=>exact .int _ _
theorem ya{value:Expr}{Ar As:Option Expr}{p pos:Pos}
 (h:WE C fr value ρ σ (λv aM=>WP C fr Ar ρ aM (λlo bO=>WP C fr As ρ bO (λhi d0=>∃xs,vH C d0 v xs/\xs.length<=sizeLine/\∀l,d0 l=none->Q (.loc l) (d0.upd l (.list (dy xs lo hi)))) X) X) X)
 (ht:∀o r,letTemporaryGo value o r=pure ():=by with_unfolding_all(intro _ _;rfl)):WE C fr (.Subscript value (.Slice Ar As none p) pos) ρ σ Q X:=λY Z s ok=>by
 refine wpAny_Subscript_list_slice (wV (h Y Z s ok) λv bF pv aM cn cj bq cA fM=> ?_) ht
 refine fM.run bq (λlo cV bO fb cP b1 gt=> ?_) λ_ _ x=>x
 refine gt.run b1 (λhi iE d0 mv i4 dF ⟨xs,hl,hsz,q⟩=> ?_) λ_ _ x=>x
 obtain⟨l,vs,n,rfl,ho,rl⟩:=hl.at dF (cA.mono (cP.trans i4))
 have dZ:vs.size=xs.length:=by have:=rl.length;simpa using this
 refine⟨l,vs,_,_,rfl,⟨_,ho,rfl,n,rfl⟩,by rw[dZ];exact hsz,x9 lo,x9 hi,?_⟩
 have j6:=dF.push (t':=iE.toks) {cls:= .type "slice",data:= .fields #[partValue lo,partValue hi,.none]}
 have e:slicePick vs (lo.map (·.1)) (hi.map (·.1)) none=(dy vs.toList (lo.map (·.1)) (hi.map (·.1))).toArray:=by
  rw[slicePick_plain];simp[dy,Co,Fa]
 have rs:cO mv (dy xs (lo.map (·.1)) (hi.map (·.1))) (dy vs.toList (lo.map (·.1)) (hi.map (·.1))):=by
  unfold dy
  rw[rl.length]
  exact(rl.drop _).take _
 have:=mx (t':=iE.toks) (Q:=Q) j6 rs q
 rw[lq,<-e]at this
 exact this.le ((cj.trans cP).trans i4)
theorem vI{x:Str}{t:Tok}{l u:Option (Int×Tok)}{P:Value->Shared->Prop}(hsz:x.length<=sizeLine)(h:∀t' k,P (.str (Txt.slice x (l.map (·.1)) (u.map (·.1))) t') {s with toks:=k}):(sliceMade x t l u none).post P s:=by
 unfold sliceMade
 unfold Txt.slice at h
 have e:slicePicked x l u none=Builtin.Str.strSliceIndices (l.map (·.1)) (u.map (·.1)) 1 x.length:=rfl
 rw[e]
 show(if((1:Int)==1&&_)=true then _ else _:Made).post P s
 split
 ·rename_i hc;rw[if_pos hc]at h;exact h t s.toks
 ·rename_i hc
  rw[if_neg hc]at h
  refine⟨?_,h s.toks (s.toks+1)⟩
  refine aa ?_ hsz
  have h1:=sliceIndices_le (l.map (·.1)) (u.map (·.1)) x.length
  refine aa ?_ h1
  show(List.toArray _).size<=_
  rw[List.size_toArray]
  exact List.length_filterMap_le _ _
theorem Fb{value:Expr}{Ar As:Option Expr}{p pos:Pos}
 (h:WE C fr value ρ σ (λv aM=>WP C fr Ar ρ aM (λlo bO=>WP C fr As ρ bO (λhi d0=>∃x,v=.str x/\x.length<=sizeLine/\Q (.str (Txt.slice x lo hi)) d0) X) X) X)
 (ht:∀o r,letTemporaryGo value o r=pure ():=by with_unfolding_all(intro _ _;rfl)):WE C fr (.Subscript value (.Slice Ar As none p) pos) ρ σ Q X:=λY Z s ok=>by
 refine wpAny_Subscript_str_slice (wV (h Y Z s ok) λv bF pv aM cn cj bq cA fM=> ?_) ht
 refine fM.run bq (λlo cV bO fb cP b1 gt=> ?_) λ_ _ x=>x
 refine gt.run b1 (λhi iE d0 mv i4 dF ⟨x,e,hsz,q⟩=> ?_) λ_ _ x=>x
 subst e
 obtain⟨t,rfl⟩:=a7 cA
 refine⟨x,t,lo,hi,rfl,rfl,rfl,vI hsz λt' k=> ?_⟩
 have j6:=dF.push (t':=k) {cls:= .type "slice",data:= .fields #[partValue lo,partValue hi,.none]}
 exact(bZ j6 (fQ _ _) q).le ((cj.trans cP).trans i4)
end
theorem oo(A:Around)(c:Addr)(rest:List Value):(A.under (.builtin "type.__call__" ⟨.ref c::rest,[]⟩)).frames=A.frames/\(A.under (.builtin "type.__call__" ⟨.ref c::rest,[]⟩)).handled=A.handled/\
 (A.under (.builtin "type.__call__" ⟨.ref c::rest,[]⟩)).depth<=A.depth+1/\(A.under (.builtin "type.__call__" ⟨.ref c::rest,[]⟩)).units<=A.units+1:=by
 have hw:(Code.builtin "type.__call__" ⟨.ref c::rest,[]⟩).weight=1:=by rfl'
 have hu:(Code.builtin "type.__call__" ⟨.ref c::rest,[]⟩).cUnits=1:=by rfl'
 have he:(Code.builtin "type.__call__" ⟨.ref c::rest,[]⟩).envs=[]:=by rfl'
 refine⟨?_,rfl,?_,?_⟩
 ·unfold Around.under;rw[he];cases A.frames<;>rfl
 ·unfold Around.under;rw[hw];exact ai _
 ·unfold Around.under;rw[hu];exact ai _
theorem DH{A:Around}{n:Nat}(h:ms A (n+1))(c:Addr)(rest:List Value):ms (A.under (.builtin "type.__call__" ⟨.ref c::rest,[]⟩)) n:=by
 obtain⟨_,_,h1,h2⟩:=oo A c rest
 unfold ms at*;omega
section
variable{prog:Program}{w:World}{A:Around}{E:Value->Shared->Prop}{h:Heap}{g:Array GenState}{d:Drawn}{t:Nat}{os:OsState}
variable{nm q:Str}{C N:Addr}{bs bm:List Value}{hdct:Bool}{sn:List Str}{sub:List Value}{ab:Bool}{col:Option Bool}{dd:Option Addr}{k0 k1 k2 k3 k5:Option Value}
noncomputable abbrev GR:List Value:=[.type "Exception",.type "BaseException",.type "object"]
theorem y4(T:OwnTail h GR bm){mN:Str->Option Value}{rest:List Value}{fI:Addr}{oI:Obj}{Q:Fin->Shared->Prop}
 (hC:h.get? C=some (excClassObj nm q C N bs bm hdct sn sub ab col dd k0 k1 k2 k3 k5 "Exception.__new__")) (hn:h.Ns N mN) (hi:mN "__init__"=some (.ref fI))
 (Pd:h.get? fI=some oI) (L5:oI.cls=.type "function") (xX:rest.length<=sizeLine)
 (hq:wpAny (model prog w) A (call (.ref fI) (.ref (h.objs.size+1)::rest)) (λr s'=>r=.none/\Q (.done (.ret (.ref (h.objs.size+1)))) s') E
  ⟨(h.push {cls:= .type "tuple",data:= .seq rest.toArray}).push {cls:= .ref C,data:= .fields #[.ref h.objs.size,.none,.none,.none,.bool false,.none]},g,d,t,os⟩):
 wpAny (model prog w) A (Builtin.«type.__call__» ⟨.ref C::rest,[]⟩) Q E ⟨h,g,d,t,os⟩:=by
 have F:=F.excBase_Exception
 repeat (first|with_reducible refine wpAny_loadPart_at hC ?_|with_reducible refine wpAny_madeBy_exc hC ?_|wp_step)
 refine codeAny_call_builtin_code (Code.quiet_builtin _ F.quiet) (wpAny_check_new_subT F T hC ?_)
 refine codeAny_exc_new_subT F T hC ?_ xX
 show wpAny _ _ _ _ _ _
 have keep:∀b o,h.get? b=some o->((h.push {cls:= .type "tuple",data:= .seq rest.toArray}).push {cls:= .ref C,data:= .fields #[.ref h.objs.size,.none,.none,.none,.bool false,.none]}).get? b=some o:=
  λb o e=>aG _ (aG _ e)
 have L6:=keep _ _ hC
 have NG:=keep _ _ Pd
 have Gz:=hn.keeps keep
 have Ut:=T.keeps keep
 have NF:((h.push {cls:= .type "tuple",data:= .seq rest.toArray}).push
  {cls:= .ref C,data:= .fields #[.ref h.objs.size,.none,.none,.none,.bool false,.none]}).get? (h.objs.size+1)=some
  {cls:= .ref C,data:= .fields #[.ref h.objs.size,.none,.none,.none,.bool false,.none]}:=by heap_get
 have hcC:(Value.ref C::bm).contains (.ref C)=true:=by simp
 unfold isInstance
 repeat (first|with_reducible refine wpAny_loadPart_at NF ?_|(with_reducible refine wpAny_isSubtype_exc L6 ?_;rw[hcC])|wp_step)
 show wpAny _ _ (typeLookup (.ref C) _) _ _ _
 refine wpAny_typeLookup_tail L6 Gz Ut F.mroIs F.init.lookup ?_
 rw[hi]
 refine wpAny_holding (wpAny_bind ?_)
 unfold bindSpecial
 refine wpAny_bind (wpAny_typeOf (T:="function") ⟨_,NG,L5⟩ ?_)
 rw[if_pos (by decide)]
 refine wpAny_pure (wpAny_bind (wpAny_mono hq (λr s' hr=> ?_) λ_ _ x=>x))
 obtain⟨rfl,hQ⟩:=hr
 wp_walk
 exact hQ
theorem GS(T:OwnTail h GR bm){mN:Str->Option Value}{rest:List Value}{fI:Addr}{oI:Obj}{Q:Value->Shared->Prop}
 (hC:h.get? C=some (excClassObj nm q C N bs bm hdct sn sub ab col dd k0 k1 k2 k3 k5 "Exception.__new__")) (hn:h.Ns N mN) (hi:mN "__init__"=some (.ref fI))
 (Pd:h.get? fI=some oI) (L5:oI.cls=.type "function") (xX:rest.length<=sizeLine)
 (hq:wpAny (model prog w) (A.under (.builtin "type.__call__" ⟨.ref C::rest,[]⟩)) (call (.ref fI) (.ref (h.objs.size+1)::rest)) (λr s'=>r=.none/\Q (.ref (h.objs.size+1)) s') E
  ⟨(h.push {cls:= .type "tuple",data:= .seq rest.toArray}).push {cls:= .ref C,data:= .fields #[.ref h.objs.size,.none,.none,.none,.bool false,.none]},g,d,t,os⟩):
 wpAny (model prog w) A (call (.ref C) rest) Q E ⟨h,g,d,t,os⟩:=by
 have f1:=tc_lookup
 have f2:=tc_bind (.ref C)
 have hT:(⟨h,g,d,t,os⟩:Shared).TypeIs (.ref C) "type":=⟨_,hC,rfl⟩
 refine wpAny_call (codeAny_of_tree ?_)
 show wpAny _ _ (callAny (.ref C) _) _ _ _
 repeat (any_goals(first|assumption|with_reducible refine wpAny_loadPart_at hC ?_|wp_step))
 refine⟨rfl,?_⟩
 refine codeAny_call_builtin_at (Code.quiet_builtin _ (by decide+kernel)) entry_typeCall (wpAny_check_type_call_sub hC (y4 T hC hn hi Pd L5 xX hq))
end
section
variable{M:Model}{A:Around}{E:Value->Shared->Prop}{env:Env}
variable{nm q:Str}{C N:Addr}{bs bm:List Value}{hdct:Bool}{sn:List Str}{sub:List Value}{ab:Bool}{col:Option Bool}{dd:Option Addr}{k0 k1 k2 k3 k5:Option Value}{newId:String}
theorem Fd{s:Shared}{x:Sem Value}{Q:Flow->Shared->Prop}(r5:bm.contains (.type "BaseException")=true)(hh:A.handled=none)
 (h:wpAny M A x (λv bF=>∃e t Pe,v=.ref e/\bF.heap.get? C=some (excClassObj nm q C N bs bm hdct sn sub ab col dd k0 k1 k2 k3 k5 newId)/\
  bF.heap.get? e=some {cls:= .ref C,dict:=Pe,data:= .fields #[.ref t,.none,.none,.none,.bool false,.none]}/\E (.ref e) bF) E s):
 wpAny M A (raiseStmt env (some x) none) Q E s:=by
 have hcB:(Value.ref C::bm).contains (.type "BaseException")=true:=by rw[List.contains_cons,r5,Bool.or_true]
 unfold raiseStmt
 refine wpAny_bind (wpAny_mono h (λv bF fM=> ?_) λ_ _ x=>x)
 obtain⟨e,t,Pe,rfl,hC,he,hE⟩:=fM
 obtain⟨hp,g,d,tk,os⟩:=bF
 repeat (first|with_reducible refine wpAny_loadPart_at he ?_|with_reducible refine wpAny_loadPart_at hC ?_|(with_reducible refine wpAny_isSubtype_exc hC ?_;rw[hcB])|wp_step)
 exact wpAny_raiseNew_none hh hE
end
inductive y5(C:Ctx)(Fi:Fn):Prop
 |mk {nm q:Str} {N:Addr} {bs bm:List Value} {hdct:Bool} {sn:List Str} {sub:List Value} {ab:Bool} {col:Option Bool} {dd:Option Addr} {k0 k1 k2 k3 k5:Option Value} {mN:Str->Option Value} {oI:Obj} (hC:C.B.get? C.lf=some (excClassObj nm q C.lf N bs bm hdct sn sub ab col dd k0 k1 k2 k3 k5 "Exception.__new__")) (hn:C.B.Ns N mN) (hi:mN "__init__"=some (.ref Fi.f))
  (hT:OwnTail C.B GR bm) (hf:C.B.get? Fi.f=some oI) (hc:oI.cls=.type "function") (hb:bm.contains (.type "BaseException")=true)
section
variable{C:Ctx}{fr:Fm}{ρ:b9}{σ:St}{N:b9->St->Prop}{R:PV->St->Prop}{J:Bool->b9->St->Prop}{X:b9->Prop}{Y Z:Zf}{s:Shared}{K:Frag}
theorem GU(G:dr C)(F:aI C fr){Fi:Fn}(H:FnAt C Fi)(hE:y5 C Fi){nm:Str}{np tF pos:Pos}{es:List Expr}{lv:Nat}(hk:fr.env.kindOf nm=some .globalImplicit)(hm:C.mg nm=some (.ref C.lf))(hl:lv+1<fr.lvl)(P6:Fi.np=2)
 (hs:∀x t v σ',σ' x=some (.exc C.lf t true)->Spec C Fi lv [.loc x,v] σ' (λr τ=>r=.none/\τ x=some (.exc C.lf t false)) False)
 (h:WL C fr tF es ρ σ (λas _=>(∃v,as=[v])/\X ρ) (X ρ))
 (NH:∀env,(backTo tF (starEach es env)).any (·.1)=false:=by with_unfolding_all(intro _;rfl)) (kI:es=[]\/∃x l,backTo tF (starEach es fr.env)=(false,x)::l:=by with_unfolding_all(first|exact .inl rfl|exact .inr ⟨_,_,rfl⟩)) (hd:(nm==("__debug__":Str))=false:=by decide):
 WS C fr (.Raise (some (.Call (.Name nm np) es [] tF)) none pos) ρ σ N R J X:=λY Z s ok=>by
 obtain@⟨n,q,NN,bs,bm,hdct,sn,sub,ab,col,dd,k0,k1,k2,k3,k5,mN,oI,hC,hn,hi,hT,Pd,L5,r5⟩:=hE
 rw[arm_exec_Raise]
 refine wpAny_bind (wpAny_standAt (Fd (C:=C.lf) (nm:=n) (q:=q) (N:=NN) (bs:=bs) (bm:=bm) (hdct:=hdct) (sn:=sn) (sub:=sub) (ab:=ab) (col:=col) (dd:=dd) (k0:=k0) (k1:=k1) (k2:=k2) (k3:=k3) (k5:=k5) (newId:="Exception.__new__") r5 F.handled ?_))
 refine wpAny_bind (wpAny_mono (Q:=λv bF=>∃e t Pe,v=.ref e/\bF.heap.get? C.lf=some (excClassObj n q C.lf NN bs bm hdct sn sub ab col dd k0 k1 k2 k3 k5 "Exception.__new__")/\
  bF.heap.get? e=some {cls:= .ref C.lf,dict:=Pe,data:= .fields #[.ref t,.none,.none,.none,.bool false,.none]}/\j4 C fr Y X (.ref e) bF) ?_ (λv iE iS=>wpAny_bind (wpAny_standAt (wpAny_pure iS))) λ_ _ x=>x)
 refine wpAny_Call_NameR (Name_function_global F.kind hk (loadGlobal_global (G.gY.keeps ok.base) hm ?_) hd)
 unfold callWith
 refine wpAny_bind (wpAny_holding (wpAny_mono (qd h (.ref C.lf) kI Y Z s ok) (λa cV ⟨vs,ea,as,bO,fb,cP,b1,gZ,⟨v,has⟩,hx⟩=>wpAny_bind (wpAny_standAt ?_)) λ_ _ x=>x.F1))
 subst ea;subst has
 obtain⟨u,rfl,ru⟩:=j7 gZ
 rw[NH]
 have L7:=b1.base _ _ hC
 obtain⟨hp,g,d,tk,os⟩:=cV
 refine wpAny_bind (wpAny_keeperOf_exc L7 ?_)
 have P7:=hT.keeps b1.base
 have P8:=hn.keeps b1.base
 refine wpAny_bind (GS P7 L7 P8 hi (b1.base _ _ Pd) L5 (by show 1<=sizeLine;decide) ?_)
 have ht:hp.get? hp.objs.size=none:=bg (ai _)
 have Uf:=b1.push (t':=tk) {cls:= .type "tuple",data:= .seq #[u]}
 have nS:(hp.push {cls:= .type "tuple",data:= .seq #[u]}).get? (hp.objs.size+1)=none:=bg (by rw[lq];exact ai _)
 have oke:=Uf.alloc (t':=tk) (c:= .exc C.lf hp.objs.size true) (o:={cls:= .ref C.lf,data:= .fields #[.ref hp.objs.size,.none,.none,.none,.bool false,.none]}) nS
  (λb o e=>aG {cls:= .ref C.lf,data:= .fields #[.ref hp.objs.size,.none,.none,.none,.bool false,.none]} e) (by
   have:=aN (hp.push {cls:= .type "tuple",data:= .seq #[u]}) (o:={cls:= .ref C.lf,data:= .fields #[.ref hp.objs.size,.none,.none,.none,.bool false,.none]}) rfl
   rw[lq]at this;exact this) ⟨none,λ_=>rfl,rfl⟩
 have Ae:=F.room.le (n:=fr.lvl) (m:=lv+2) (by exact hl)
 refine wpAny_mono (xZ G F H (args:=[.loc (hp.objs.size+1),v]) (lv:=lv) (by rw[P6];rfl) (hs _ hp.objs.size v _ (St.bz _ _ _)) (oo fr.A C.lf [u]).1 ((oo fr.A C.lf [u]).2.1.trans F.handled) (DH Ae C.lf [u])
  Y fb _ [.ref (hp.objs.size+1),u] oke (.cons (ic _) (.one ru))) (λr iE ⟨pv,d0,mv,i4,dF,yV,NI,L8⟩=> ?_) λe iE x=>x.1.elim
 subst NI
 refine⟨ua yV,wpAny_bind (wpAny_holding (wpAny_point (wpAny_pure ?_)))⟩
 obtain⟨oe,Zl,Pe,_,rfl⟩:=dF.jq _ _ L8
 refine⟨_,_,_,rfl,dF.base _ _ hC,Zl,ρ,hx,_,⟨rfl,dF.base,(dF.own _ _ L8).1,dF.frames F,.inl ⟨_,_,_,Zl,rfl,rfl,rfl,rfl⟩,λb o e _=>⟨o.slots,dF.keep b o e⟩,?_,dF.rest⟩⟩
 obtain⟨m,hm,hl⟩:=dF.loc
 exact⟨m,_,hm,hl⟩
end
section
variable{prog:Program}{w:World}{A:Around}{s:Shared}{K:Frag}{x c:Addr}{R:Result->Shared->Prop}
theorem J6{ox:Obj}{od:Option Obj}{name:Str}{tk:Tok}{v:Value}{r:Option Value}{cd:ClassData}(X:K.In s.heap)(I:InstAt s.heap x ox c od)(hc:clsIn K c=some cd)(ne:cd.mro.isEmpty=false)(ho:cd.mro.contains (.type "object")=true)
 (P9:∀self,refuseLoop self "__setattr__" cd.mro=pure ()) (ht:takerIn K c name=some r)
 (h:∀b,wpAny (model prog w) A.in1 (match r with|some a=>Builtin.ObjectAttr.setByDescriptor a (.ref x) v|none=>Builtin.ObjectAttr.storeInOwnDict (.ref x) (.ref c) (.str name tk) name v b)
  (λqr s'=>match qr with|.done f=>R (.ok f) s'|.again c'=>c'.quiet=true/\codeAny (model prog w) A c' R s') (λe s'=>R (.error e) s') s):
 codeAny (model prog w) A (.call (.builtin "object.__setattr__") ⟨[.ref x,.str name tk,v],[]⟩) R s:=by
 have SF:=PySem.F.store_object
 have sub:Looks (model prog w) s.heap (isInstance (.ref x) (.type "object")) true:=I.type.andThen (looks_mroIn X (by unfold mroIn;rw[hc,a5,if_neg (by rw[ne];decide),ho]))
 refine codeAny_call_builtin SF.slot.plain SF.entry (@check_slot (model prog w) _ _ s "object.__setattr__" "object" "__setattr__" (.ref x) [.str name tk,v] [] _ SF.kind SF.split sub (SF.args (.ref x) (.str name tk) v) ?_)
 obtain⟨Qa,ha,hr⟩:=ao.mp ht
 have hm:Looks (model prog w) s.heap (mroOf (.ref c)) cd.mro:=(looks_clsIn X hc).andThen .now
 have L3:Looks (model prog w) s.heap (Builtin.ObjectAttr.storeTaker? Qa) r:=by
  cases Qa with
  |none=>cases hr;exact .now
  |some a=>
   obtain⟨b,hb,rfl⟩:=aA.mp hr
   refine(looks_takesIn X hb).andThen ?_
   cases b<;>exact .now
 rw[osa_eq,refuse_eq]
 refine wpAny_bind (wpAny_bind (I.type.here (wpAny_bind (hm.here ?_))))
 rw[P9]
 refine wpAny_pure (wpAny_bind (I.type.here (wpAny_bind ((looks_findIn X ha).here (wpAny_bind (L3.here ?_))))))
 exact h _
end
structure y6(K:Frag)(c:Addr)(cd:ClassData):Prop where
 cls:clsIn K c=some cd
 has:cd.hasDict=true
 sa:findIn K (.ref c) "__setattr__"=some (some (.builtin "object.__setattr__"))
 ne:cd.mro.isEmpty=false
 obj:cd.mro.contains (.type "object")=true
 pass:∀self,refuseLoop self "__setattr__" cd.mro=pure ()
section
variable{C:Ctx}{fr:Fm}{ρ:b9}{σ:St}{Y Z:Zf}{s:Shared}{K:Frag}{name:Str}
theorem Au{c:Addr}{cd:ClassData}(hX:K.In C.B)(O:y6 K c cd)(ht:takerIn K c name=some none){x t:Addr}{pv:PV}{N:b9->St->Prop}{X:b9->Prop}(hx:σ x=some (.exc c t true))(h:N ρ (σ.upd x (.exc c t false))):
 Th C fr (λv=>setAttr (.ref x) name v) pv ρ σ N X:=λY Z s v ok rv=>by
 obtain⟨o,ho,Pe,hd,rfl⟩:=ok.jq x _ hx
 obtain rfl:=hd rfl
 have XH:=hX.keeps ok.base
 have I:InstAt s.heap x {cls:= .ref c,dict:=none,data:= .fields #[.ref t,.none,.none,.none,.bool false,.none]} c none:=⟨ho,rfl,rfl,trivial⟩
 refine set_plain XH I O.sa (J6 (hX.keeps ok.base) I O.cls O.ne O.obj O.pass ht λb=> ?_)
 have Zm:x≠s.heap.objs.size:=bX (dc ho)
 have hD:s.heap.get? s.heap.objs.size=none:=bg (ai _)
 obtain⟨m1,m2,m3,m4,m5⟩:=ok.none_of hD
 refine wpAny_bind (wpAny_pure (wpAny_bind (wpAny_bind (wpAny_loadPart ho (wpAny_bind ((looks_clsIn (M:=model C.prog C.w) XH O.cls) _ _ _ _ (λ_ _ e=>e) ?_))))))
 rw[O.has]
 have push:(s.heap.push {cls:= .type "dict",data:= .dict #[]}).get? x=some {cls:= .ref c,dict:=none,data:= .fields #[.ref t,.none,.none,.none,.bool false,.none]}:=aG _ ho
 have upd:((s.heap.push {cls:= .type "dict",data:= .dict #[]}).update x λo=>{cls:=o.cls,dict:=some s.heap.objs.size,data:=o.data,slots:=o.slots}).get? s.heap.objs.size=some {cls:= .type "dict",data:= .dict #[]}:=
  (Heap.get?_update_ne _ _ _ _ Zm.symm).trans (Heap.get?_push_at rfl rfl)
 have JN:((s.heap.push {cls:= .type "dict",data:= .dict #[]}).update x λo=>{cls:=o.cls,dict:=some s.heap.objs.size,data:=o.data,slots:=o.slots}).Ns s.heap.objs.size (λ_=>none):=
  ⟨_,#[],_,upd,rfl,λe he=>absurd he (by simp),λ_=>rfl⟩
 show wpAny _ _ ((do
  let d<-alloc {cls:= .type "dict",data:= .dict #[]}
  update x λo=>{o with dict:=some d}
  dictMade (.ref c) x d)>>=_) _ _ _
 refine wpAny_bind (wpAny_bind (wpAny_alloc (wpAny_bind (wpAny_update push ?_))))
 refine wpAny_pure (a:=some s.heap.objs.size) (wpAny_pure (a:=some s.heap.objs.size) ?_)
 show wpAny _ _ (Builtin.ObjectAttr.storeInDict s.heap.objs.size (.str name s.toks) name v) _ _ _
 unfold Builtin.ObjectAttr.storeInDict Builtin.ObjectAttr.newKeyGuard
 refine wpAny_bind (wpAny_pure (wpAny_bind (wpAny_nsSet1 (Heap.Ns1.of_empty JN) λh' Nc hs=> ?_)))
 obtain⟨oD,esD,epD,hoD,hdD,hcD⟩:=Nc.count (Within.cons name v Within.nil)
 refine wpAny_bind (wpAny_lookBehind hoD (by rw[hdD];exact pastItsLine_dict (aa hcD (by rw[aw,p8,sizeLine_eq];exact j1 _ _))) ?_)
 have Un:h'.get? x=some {cls:= .ref c,dict:=some s.heap.objs.size,data:= .fields #[.ref t,.none,.none,.none,.bool false,.none]}:=
  (hs.2 x Zm).trans (eN _ push rfl)
 have keep:∀b o,b≠x->s.heap.get? b=some o->h'.get? b=some o:=λb o hb e=>
  (hs.2 b (bX (dc e))).trans ((Heap.get?_update_ne _ _ _ _ hb).trans (aG _ e))
 obtain⟨n1,n2,n3,n4⟩:=ok.own x _ hx
 obtain⟨m,hm,hl⟩:=ok.loc
 refine wpAny_pure ⟨ρ,_,Z,fP.refl _,⟨λb o e=>keep b o (λq=>by subst q;rw[n1]at e;cases e) (ok.base b o e),λb o e=>keep b o (λq=>by subst q;rw[n2]at e;cases e) (ok.keep b o e),
  λb o e=>keep b o (λq=>by subst q;rw[n3]at e;cases e) (ok.vals b o e),ok.yl,ok.zl,ok.bl,⟨m,hm.at' λo e=>keep _ o (Ne.symm n4) e,hl⟩,λb d e=> ?_,λb d e=> ?_,ok.bh,ok.rest,ok.zn,ok.fz⟩,h⟩
 ·by_cases q:b=x
  ·subst q;rw[St.bz]at e;cases e;exact⟨_,Un,_,(λq=>nomatch q),rfl⟩
  ·rw[St.bu _ _ q]at e
   obtain⟨o,qw,r⟩:=ok.jq b d e
   exact⟨o,keep b o q qw,r⟩
 ·by_cases q:b=x
  ·subst q;exact⟨n1,n2,n3,n4⟩
  ·rw[St.bu _ _ q]at e;exact ok.own b d e
theorem r8{c:Addr}{cd:ClassData}{o e:Expr}{p p':Pos}{N:b9->St->Prop}{R:PV->St->Prop}{J:Bool->b9->St->Prop}{X:b9->Prop}(hX:K.In C.B)(O:y6 K c cd)(ht:takerIn K c name=some none)
 (h:WE C fr e ρ σ (λv aM=>WE C fr o ρ aM (λov bO=>∃x t,ov=.loc x/\bO x=some (.exc c t true)/\N ρ (bO.upd x (.exc c t false))) (X ρ)) (X ρ))
 (hs:∀env,swapsWith e (some (.Attribute o name p')) p.line env=pure false:=by with_unfolding_all(intro _;rfl)):WS C fr (.Assign [.Attribute o name p'] e p) ρ σ N R J X:=λY Z s ok=>
 plainObj_wpAny_Assign_Attribute (z0 (h Y Z s ok) λv bF a aM cn cj bq cA n9=>wpAny_mono (n9 Y cn bF bq) (λov cV ⟨b,bO,fb,cP,b1,gZ,x,t,e,hx,ii⟩=>by
  subst e
  obtain rfl:=bA gZ
  exact(wU (Au hX O ht hx (N:=N) (X:=X) ii Y fb cV v b1 (cA.mono cP)) λ_ iE z7 d0 mv i4 dF rh=>⟨z7,d0,mv,(cj.trans cP).trans i4,dF,rh⟩)) λ_ _ x=>x.F1) (hs _)
end
section
variable{C:Ctx}{fr:Fm}{ρ:b9}{σ:St}{Q:PV->St->Prop}{X:Prop}{Y Z:Zf}{s:Shared}{K:Frag}{c:Addr}
theorem NJ(G:dr C)(F:aI C fr){Fi:Fn}(H:FnAt C Fi)(hX:K.In C.B)(hmk:makesIn K c=true)(hi:findIn K (.ref c) "__init__"=some (some (.ref Fi.f)))(hf:typeIn K (.ref Fi.f)=some (.type "function"))
 (Uu:∃n q NN bs bm hdct sn sub ab col dd k0 k1 k2 k3 k5 Tm,C.B.get? c=some (excClassObj n q c NN bs bm hdct sn sub ab col dd k0 k1 k2 k3 k5 Tm)) {nm:Str} {np pos:Pos} {lv:Nat}
 (hk:fr.env.kindOf nm=some .globalImplicit) (hm:C.mg nm=some (.ref c)) (hl:lv+1<fr.lvl) (P6:Fi.np=1)
 (h:∀x d,σ x=none->σ d=none->x≠d->Spec C Fi lv [.loc x] ((σ.upd d (.ca [])).upd x (.inst c d)) (λr τ=>r=.none/\Q (.loc x) τ) X)
 (hd:(nm==("__debug__":Str))=false:=by decide):WE C fr (.Call (.Name nm np) [] [] pos) ρ σ Q X:=λY Z s ok=>by
 refine wpAny_Call_NameR (Name_function_global F.kind hk (loadGlobal_global (G.gY.keeps ok.base) hm ?_) hd)
 show wpAny _ _ (callWith pos (.ref c) [] [] []) _ _ _
 unfold callWith
 refine wpAny_bind (wpAny_holding (PyProof.Rows.evalArgs_nil3 (wpAny_bind (wpAny_standAt ?_))))
 obtain⟨n,q,NN,bs,bm,hdct,sn,sub,ab,col,dd,k0,k1,k2,k3,k5,Tm,hC⟩:=Uu
 have hC':=ok.base _ _ hC
 have XH:=hX.keeps ok.base
 obtain⟨hp,g,d,tk,os⟩:=s
 refine wpAny_bind (wpAny_keeperOf_exc hC' ?_)
 refine wpAny_bind (wpAny_call (make_core (makes_of XH hmk) (looks_findIn XH hi) (λself=>bind_fn XH self hf) (.inl rfl) ?_))
 have Qb:hp.get? hp.objs.size=none:=bg (ai _)
 obtain⟨_,_,_,_,m5⟩:=ok.none_of Qb
 have Zn:=ok.alloc (t':=tk) (c:= .ca []) (o:=emptyDict) Qb (λb o e=>aG emptyDict e) (aN _ rfl) ⟨[],rfl,#[],0,⟨rfl,rfl,rfl⟩,rfl,λe he=>by simp at he,.nil,cX⟩
 have Uv:(hp.push emptyDict).get? (hp.objs.size+1)=none:=bg (by rw[lq];exact ai _)
 obtain⟨_,_,_,_,Zo⟩:=Zn.none_of Uv
 have hZ:hp.objs.size+1≠hp.objs.size:=by exactλe=>(rf [.eq (.a (.v 0) (.n 1)) (.v 0)] (.ff) [1] (Eq.refl true) e).elim
 rw[St.bu _ _ hZ]at Zo
 have oki:=Zn.alloc (t':=tk) (c:= .inst c hp.objs.size) (o:=instObj c hp.objs.size) Uv (λb o e=>aG (instObj c hp.objs.size) e) (by
  have:=aN (hp.push emptyDict) (o:=instObj c hp.objs.size) rfl
  rw[lq]at this;exact this) rfl
 have Ae:=F.room.le (n:=fr.lvl) (m:=lv+2) (by exact hl)
 refine codeAny_mono (vC G F H (args:=[.loc (hp.objs.size+1)]) (lv:=lv) (by rw[P6];rfl) (h _ _ Zo m5 hZ) (oo fr.A c []).1 ((oo fr.A c []).2.1.trans F.handled) (DH Ae c [])
  Y Z _ [.ref (hp.objs.size+1)] oki (.one (ic _))) λr iE hr=> ?_
 rcases r with e|(v|_|_|_)<;>first|exact hr.elim|skip
 ·exact hr
 ·obtain⟨pv,d0,mv,i4,dF,yV,NI,rh⟩:=hr
  subst NI
  refine⟨ua yV,wpAny_bind (wpAny_holding (wpAny_point (wpAny_pure ⟨_,d0,mv,i4,dF,ic _,rh⟩)))⟩
end
inductive Flat:Nat->PV->Prop
 |int {n:Nat} (i:Int):Flat (n+1) (.int i)
 |str {n:Nat} (x:Str):Flat (n+1) (.str x)
 |tup {n:Nat} {xs:List PV} (h:∀x∈xs,Flat n x):Flat (n+1) (.tup xs)
 |tabI {n:Nat} (kvs:List (Int×Int)):Flat (n+1) (.tabI kvs)
 |dY {n:Nat} (kvs:List (List Int×Int)):Flat (n+1) (.dY kvs)
section
variable{prog:Program}{w:World}{K:Type}[DecidableEq K]{knd:HeapKind prog w K}{A:Around}{E:Value->Shared->Prop}{s:Shared}
theorem Cp{nm:String}{a b:Addr}{xs ys:List (K×Addr×Value)}{Q:Bool->Shared->Prop}(hu:knd.room A)(ha:(a==sysModules)=false)(hb:(b==sysModules)=false)
 (da:s.heap.DictOfH knd a xs) (db:s.heap.DictOfH knd b ys) (hl:xs.length=ys.length) (NK:∀k p,(k,p)∈xs->∃(j:Nat) (q:Addr×Value),ys[j]?=some (k,q)/\EqAt A s p.2 q.2 true) (h:Q true s):
 wpAny (model prog w) A (Builtin.Dict.samePairs nm a b) Q E s:=by
 obtain⟨oa,es,ep,Tn,_,GV,Zp,hia,hna⟩:=id da
 obtain⟨ob,NL,Zq,P2,_,Uw,Ux,hib,Uy⟩:=id db
 have Zr:=size_of_entries Zp
 have Qc:=size_of_entries Ux
 unfold Builtin.Dict.samePairs Builtin.Dict.showsAll
 rw[if_neg (show¬(a==sysModules)=true by rw[ha];exact f5),if_neg (show¬(b==sysModules)=true by rw[hb];exact f5)]
 refine wpAny_bind (wpAny_pure (wpAny_bind (wpAny_pure ?_)))
 refine wpAny_bind (wpAny_dictEntries Tn GV ?_)
 dsimp only
 refine wpAny_bind (wpAny_dictEntries P2 Uw ?_)
 rw[if_neg (by rw[Zr,Qc,hl];simp)]
 refine wpAny_bind (wpAny_dictEpoch Tn GV ?_)
 refine wpAny_bind ?_
 rw[Std.Legacy.Range.forIn_eq_forIn_range']
 refine wpAny_forIn_list _ (λrest q s'=>q=(none,())/\s'=s/\∀y∈rest,y<es.size) _ ?_ ?_ _ _ ⟨rfl,rfl,λy hy=>(List.mem_range'.mp hy).elim λi h=>by simpa[Std.Legacy.Range.size,h.2]using h.1⟩
 ·rintro x rest q s' ⟨rfl,rfl,hi⟩
  have eP:x<es.size:=hi x az
  refine wpAny_bind (wpAny_dictEntries Tn GV ?_)
  have hx:x<xs.length:=by exact Zr▸eP
  obtain⟨⟨k,p⟩,hp⟩:∃q,xs[x]?=some q:=⟨xs[x],by simp[hx]⟩
  have hex:es[x]?=some ⟨knd.hash k,.ref p.1,p.2⟩:=by rw[entry_at Zp,hp];rfl
  rw[hex]
  have J7:(k,p)∈xs:=aD hp
  obtain⟨j,q,hj,heq⟩:=NK k p J7
  have hej:NL[j]?=some ⟨knd.hash k,.ref q.1,q.2⟩:=by rw[entry_at Ux,hj];rfl
  show wpAny _ _ (holding [Value.ref p.1,p.2] _>>=_) _ _ _
  refine wpAny_bind (wpAny_holding (wpAny_bind (wpAny_dictFind_heap hu (hia _ J7) P2 Uw Ux hib Uy (λNE=>absurd hj (NE j q)) λj' q' BQ=> ?_)))
  obtain rfl:j'=j:=idxH_unique Uy BQ hj
  rw[hj]at BQ
  cases BQ
  refine wpAny_bind (wpAny_dictEntries P2 Uw ?_)
  rw[hej]
  refine wpAny_holding (heq prog w _ _ ?_)
  show wpAny _ _ (if(!true)=true then _ else _) _ _ _
  rw[if_neg (by decide)]
  refine wpAny_bind (wpAny_dictEpoch Tn GV ?_)
  rw[if_neg (by simp)]
  exact wpAny_pure ⟨rfl,rfl,λy hy=>hi y (aK _ hy)⟩
 ·rintro q s' ⟨rfl,rfl,_⟩
  exact wpAny_pure h
theorem J8{a b:Addr}{xs ys:List (K×Addr×Value)}{Q:Value->Shared->Prop}(hu:knd.room A.in1)(P0:A.units<cLine)(ha:(a==sysModules)=false)(hb:(b==sysModules)=false)
 (da:s.heap.DictOfH knd a xs) (db:s.heap.DictOfH knd b ys) (hl:xs.length=ys.length) (NK:∀k p,(k,p)∈xs->∃(j:Nat) (q:Addr×Value),ys[j]?=some (k,q)/\EqAt A.in1 s p.2 q.2 true) (h:Q (.bool true) s):
 wpAny (model prog w) A (compareOp .Eq (.ref a) (.ref b)) Q E s:=by
 refine wpAny_richCompare_same_room (op:= .Eq) da.typeIs db.typeIs PySem.F.slot_dict_eq (wpAny_call_entry PySem.F.slot_dict_eq da.typeIs PySem.F.entry_dict_eq ?_ (PySem.F.args_dict_eq_2 _ _)) P0
 show wpAny _ _ (Builtin.Dict.dictSlotArgs "__eq__" ⟨[.ref a,.ref b],[]⟩>>=_) _ _ s
 refine wpAny_bind ?_
 unfold Builtin.Dict.dictSlotArgs
 refine wpAny_bind (wpAny_notOrdered_dict da.typeIs ?_)
 show wpAny _ _ (pure (Value.ref a,Value.ref b)) _ _ s
 refine wpAny_pure ?_
 refine wpAny_bind (wpAny_isInstance (T:="dict") db.typeIs PySem.F.sub_dict_dict ?_)
 rw[if_neg (show¬(!true)=true by decide)]
 refine wpAny_bind (wpAny_pure (wpAny_bind (wpAny_pure ?_)))
 refine wpAny_bind (Cp hu ha hb da db hl NK ?_)
 exact wpAny_pure ⟨_,rfl,(λx=>nomatch x),h⟩
end
section
variable{Z:Zf}{s:Shared}
theorem Cq{kvs:List (List Int×Int)}:∀{xs ys:List (List Int×Addr×Value)},iT Z kvs xs->iT Z kvs ys->∀k p,(k,p)∈xs->∃(j:Nat) (q:Addr×Value) (v:Int) (t u:Tok),ys[j]?=some (k,q)/\p.2=.int v t/\q.2=.int v u:=by
 induction kvs with
 |nil=>exactλ{xs ys} r _ k p h=>nomatch(show(k,p)∈[]from(show xs=[]from r)▸h)
 |cons e kvs ih=>
  intro xs ys r r' k p h
  obtain⟨a,u,Jh,rfl,_,r⟩:=r
  obtain⟨a',u',Qd,rfl,_,r'⟩:=r'
  rcases ak.mp h with h|h
  ·cases h;exact⟨0,_,_,u,u',rfl,rfl,rfl⟩
  ·exact(ih r r' k p h).elim λj h=>⟨j+1,h⟩
theorem Uz(A:Around)(i:Int)(t u:Tok):EqAt A s (.int i t) (.int i u) true:=beq_self_eq_true i▸EqAt.int_int i t i u
theorem Qe{kvs:List (Int×Int)}:∀{ws us:List (Int×Value)} {A:Around},eM Pb kvs ws->(∀k v,(k,v)∈kvs->∃u,valueAt us k=some u/\Pb v u)->KeqHits A s us ws true:=by
 induction kvs with
 |nil=>exactλ{ws us A} r _=>(show ws=[]from r)▸.nil
 |cons e kvs ih=>
  intro ws us A r h
  obtain⟨u,qa,rfl,⟨t,rfl⟩,r⟩:=r
  obtain⟨u',h1,t',rfl⟩:=h e.1 e.2 (.head _)
  exact KeqHits.hit h1 (Uz A _ t t') (ih r λk v hm=>h k v (.tail _ hm))
theorem r9{K V:Type}[DecidableEq K]{kvs:List (K×V)}{k:K}{v:V}:(kvs.map (·.1)).Nodup->(k,v)∈kvs->b0 kvs k=some v:=by
 induction kvs with
 |nil=>exact nofun
 |cons e r ih=>
  intro hn h
  rw[bp,cW]at hn
  rcases ak.mp h with h|h
  ·exact h▸congrArg (Option.map λp:K×V=>p.2) (List.find?_cons_of_pos (p:=λp:K×V=>decide (p.1=k)) (decide_eq_true rfl))
  ·exact(congrArg (Option.map λp:K×V=>p.2) (List.find?_cons_of_neg (p:=λp:K×V=>decide (p.1=k)) λq=>hn.1 ((of_decide_eq_true q:e.1=k)▸bj.mpr ⟨(k,v),h,rfl⟩))).trans (ih hn.2 h)
theorem L9{A:Around}{xs:List PV}{vs us:List Value}(r:cO Z xs vs)(r':cO Z xs us)(ih:∀x∈xs,∀v u,gg Z x v->gg Z x u->EqAt A s v u true)(j:Nat)(hj:j<vs.toArray.size)(BQ:j<us.toArray.size):EqAt A s vs.toArray[j] us.toArray[j] true:=by
 have hx:j<xs.length:=r.length▸hj
 obtain⟨w1,h1,q1⟩:=r.get (aB hx)
 obtain⟨w2,h2,q2⟩:=r'.get (aB hx)
 have e1:vs.toArray[j]=w1:=ax ((aB hj).symm.trans h1)
 have e2:us.toArray[j]=w2:=ax ((aB BQ).symm.trans h2)
 rw[e1,e2];exact ih _ (cL hx) _ _ q1 q2
theorem J9{C:Ctx}(G:dr C)(hz:LW Z s.heap)(Tq:∀b o,Z b=some o->C.B.get? b=none){n:Nat}{pv:PV}(h:Flat n pv):∀(A:Around) (v u:Value),A.units+n+1<cLine->gg Z pv v->gg Z pv u->EqAt A s v u true:=by
 have UA:∀{a n c:Nat},a+(n+1)+1<c->a<c:=λh=>ah (aa (ay _ _) (b7 _)) h
 have ref:∀{A:Around} {a a':Addr},(a≠a'->EqAt A s (.ref a) (.ref a') true)->EqAt A s (.ref a) (.ref a') true:=λ{A a a'} h=>Decidable.byCases (λe:a=a'=>e▸EqAt.same _) h
 induction h with
 |int i=>exactλA v u _ r r'=>(aO r).elim λt e=>(aO r').elim λt' e'=>e▸e'▸Uz A i t t'
 |str x=>exactλA v u _ r r'=>(a7 r).elim λt e=>(a7 r').elim λt' e'=>e▸e'▸beq_self_eq_true x▸EqAt.str_str x t x t'
 |@tup n xs h ih=>
  intro A v u hA r r'
  obtain⟨a,vs,rfl,zt,rl⟩:=fw r
  obtain⟨a',Gf,rfl,zt',L2⟩:=fw r'
  refine ref λe=>EqAt.of_refs e ?_
  have q:=RcAt.tuples (A:=A) (s:=s) (e:=λ_=>true) (zt.tj hz) (zt'.tj hz) (UA hA) (L9 rl L2 λx hx v u=>ih x hx A.in1 v u (ah (aZ (congrArg (·+1) ((bW A.units 1 n).trans (congrArg (A.units+·) (bR 1 n))))) hA))
  have e2:((List.range (min vs.toArray.size Gf.toArray.size)).all (λ_=>true)&&vs.toArray.size==Gf.toArray.size)=true:=an.mpr ⟨av.mpr λ_ _=>rfl,beq_iff_eq.mpr (rl.length.trans L2.length.symm)⟩
  exact e2▸q
 |@tabI n kvs=>
  intro A v u hA r r'
  obtain⟨a,o,rfl,z,t⟩:=iw r
  obtain⟨a',o',rfl,z',t'⟩:=iw r'
  refine ref λe=>EqAt.of_refs e λprog w E Q hq=> ?_
  obtain⟨ws,h1,k1⟩:=u7 (C:={C with prog:=prog,w:=w}) t
  obtain⟨us,h2,k2⟩:=u7 (C:={C with prog:=prog,w:=w}) t'
  have hn:(kvs.map (·.1)).Nodup:=t.casesOn λ_ _ _ _ hn _ _=>hn
  refine keq_eq (r:=true) (my G (Tq _ _ z)) (my G (Tq _ _ z')) (k1.dictOf (hz _ _ z)) (k2.dictOf (hz _ _ z')) (UA hA) (λ_=>Qe h1 λk v hm=> ?_) ?_
  ·have l:=r9 hn hm
   exact(h2.look k).elim (λe=>(aT v (l.symm.trans e.1)).elim) λe=>e.elim λv' e=>e.elim λu' e=>⟨u',e.2.1,ax (l.symm.trans e.1)▸e.2.2⟩
  ·rw[show(ws.length==us.length&&true)=true from an.mpr ⟨beq_iff_eq.mpr (h1.length.trans h2.length.symm),rfl⟩];exact hq
 |@dY n kvs=>
  intro A v u hA r r'
  obtain⟨a,o,rfl,z,t⟩:=iy r
  obtain⟨a',o',rfl,z',t'⟩:=iy r'
  refine ref λe=>EqAt.of_refs e λprog w E Q hq=> ?_
  obtain⟨xs,h1,k1⟩:=u8 (C:={C with prog:=prog,w:=w}) t hz (hz _ _ z)
  obtain⟨ys,h2,k2⟩:=u8 (C:={C with prog:=prog,w:=w}) t' hz (hz _ _ z')
  have e1:=congrArg List.length (h1.keys.trans h2.keys.symm)
  rw[af,af]at e1
  refine J8 (knd:=tupleKind (intKind prog w)) (show A.units+1<cLine from ah (bv (aR (j1 1 n) _)) hA) (UA hA) (my G (Tq _ _ z)) (my G (Tq _ _ z')) k1 k2 e1 (λk p hm=> ?_) hq
  obtain⟨j,q,v,t1,t2,hj,hp,Tl⟩:=Cq h1 h2 k p hm
  exact⟨j,q,hj,hp▸Tl▸Uz _ v t1 t2⟩
end
section
variable{C:Ctx}{fr:Fm}{ρ:b9}{σ:St}{Q:PV->St->Prop}{X:Prop}
theorem NM(G:dr C)(F:aI C fr){l m:Addr}{xs:List PV}(hl:σ l=some (.list xs))(hm:σ m=some (.list xs))(hp:∀x∈xs,Flat 20 x)(h:Q (.bool true) σ):
 W2 C fr (compareOp .Eq) (.loc l) (.loc m) ρ σ Q X:=λY Z s va vb ok ra rb=>by
 obtain rfl:=bA ra;obtain rfl:=bA rb
 obtain⟨o,ho,vs,n,rfl,rl⟩:=ok.jq l _ hl
 obtain⟨o,qw,Gf,n',rfl,L2⟩:=ok.jq m _ hm
 have hu:fr.A.units+100<cLine:=au (show fr.A.units+100<9100 by have:=F.room;unfold ms at this;exact mq [.lt (.a (.v 0) (.m 16 (.v 1))) (.n 9000)] (.lt (.a (.v 0) (.n 100)) (.n 9100)) [1] (Eq.refl true) this.2) (by decide)
 exact eq_listAt (e:=λ_=>true) ⟨_,ho,rfl,n,rfl⟩ ⟨_,qw,rfl,n',rfl⟩ (rl.length.trans L2.length.symm) (ah (ay _ _) hu) (L9 rl L2 λx hx v u=>J9 G ok.vals (λb o e=>(ok.zn b o e).2) (hp x hx) fr.A.in1 v u (ah (aR (by decide:1+20+1<=100) fr.A.units) hu))
  (bZ ok (by rw[show((List.range vs.toArray.size).all λ_=>true)=true from av.mpr λ_ _=>rfl];exact cN _) h)
end
theorem Fe:typeLookup (.type "list_reverseiterator") "__len__"=pure none:=by rw[typeLookup_type,builtinLookup_eq_fast];kernel_rfl
theorem GW:typeLookup (.type "list_reverseiterator") "__length_hint__"=pure (some (.builtin "list_reverseiterator.__length_hint__")):=by rw[typeLookup_type,builtinLookup_eq_fast];kernel_rfl
section
variable{prog:Program}{w:World}{A:Around}{E:Value->Shared->Prop}{s:Shared}
theorem vJ{I:Addr}{Q:Bool->Shared->Prop}(hT:s.TypeIs (.ref I) "list_reverseiterator")(h:Q false s):wpAny (model prog w) A (Builtin.List.listLengthHint (.ref I)) Q E s:=by
 unfold Builtin.List.listLengthHint
 refine wpAny_bind (wpAny_specialOf hT Fe ?_)
 show wpAny _ A (specialOf (Value.ref I) (Str.ofString "__length_hint__")>>=_) _ _ _
 refine wpAny_bind (wpAny_specialOf hT GW ?_)
 (generalize UB:("list_reverseiterator.__length_hint__":String)=Zs;(fail_if_success (clear UB Zs));wp_delta;rw[show splitId Zs=some ("list_reverseiterator","__length_hint__")from by subst UB;decide+kernel];subst UB)
 refine wpAny_bind (wpAny_isInstance (b:=true) hT (by rw[isSubtype_type];kernel_rfl) ?_)
 exact wpAny_pure h
theorem Av{l:Addr}{gn:Array Value}{I:Addr}(hh:A.handled=none)(hZ:l≠I){Q:List Value->Shared->Prop}(hit:s.heap.IsRevIter I l ((gn.size:Int)-1))(hl:s.heap.IsList l gn)
 (hQ:∀s' (acc:Array Value),Moved [I] (λa b=>b=a) s s'->acc.toList=gn.toList.reverse->Q acc.toList s') (hn:gn.size<=sizeLine):wpAny (model prog w) A (collect (.ref I)) Q E s:=by
 have W:WalksS prog w A.in1 I [I,l] [I] (λa b=>b=a) gn.size _ _:=(Walks.listRev (prog:=prog) (w:=w) (A:=A.in1) hh I l hZ gn).toS
 have kI:0<=gn.size/\s.heap.IsRevIter I l ((gn.size:Int)-1-((0:Nat):Int))/\s.heap.IsList l gn:=⟨fh _,by simpa using hit,hl⟩
 have eP:∀b∈[I,l],b<s.heap.objs.size:=λb hb=>by
  simp only[ak,aP,or_false]at hb
  rcases hb with rfl|rfl
  ·obtain⟨o,ho,_⟩:=hit;exact dc ho
  ·obtain⟨o,ho,_⟩:=hl;exact dc ho
 have Zt:s.heap.objs.size∉[I,l]:=λhm=>Nat.lt_irrefl _ (eP _ hm)
 have hSI:s.heap.objs.size≠I:=λe=>Zt (by rw[e];exact az)
 unfold collect
 refine wpAny_bind (wpAny_runValue (codeAny_builtin F.entry_proto_collect ?_))
 rw[Around.under_plainId F.plain_proto_collect _]
 show wpAny _ A.in1 (newList []>>=λl=>again (.builtin "list.__iadd__" ⟨[l,.ref I],[]⟩)) _ _ s
 refine wpAny_bind (wpAny_newObj_type ?_)
 refine wpAny_pure ⟨plainId_quiet F.plain_list_iadd _,codeAny_builtin F.entry_list_iadd ?_⟩
 rw[Around.under_plainId F.plain_list_iadd _]
 have tG:=W.frame 0 s (s.heap.push {cls:= .type "list",data:= .seq ([]:List Value).toArray}) s.toks kI (ai _) λb _ o e=>aG _ e
 have Ma:Shared.TypeIs {s with heap:=s.heap.push {cls:= .type "list",data:= .seq ([]:List Value).toArray}} (.ref I) "list_reverseiterator":=Heap.IsRevIter.typeIs tG.2.1
 have Qf:(s.heap.push {cls:= .type "list",data:= .seq ([]:List Value).toArray}).get? s.heap.objs.size=some {cls:= .type "list",data:= .seq ([]:List Value).toArray}:=aN _ rfl
 have h1:Builtin.List.listSameRef (.ref s.heap.objs.size) (.ref I)=false:=by simp[Builtin.List.listSameRef,hSI]
 show wpAny _ A.in1 (Builtin.List.listExtendWith (.ref s.heap.objs.size) (.ref I) (.ref s.heap.objs.size)) _ _ _
 unfold Builtin.List.listExtendWith
 refine wpAny_bind (wpAny_typeOf Ma ?_)
 rw[if_neg (by rw[h1];decide)]
 refine wpAny_bind (W.self 0 _ _ _ tG ?_)
 refine wpAny_bind (wpAny_holding ?_)
 refine vJ Ma ?_
 rw[if_neg (by decide)]
 refine wpAny_pure ⟨plainId_quiet F.plain_extend_loop _,codeAny_extend_loopS W hn _ Zt _ gn.size 0 _ _ _ rfl (fh _) tG Qf (ItemsOf.nil _) λs' nM c' hm hS' GX=> ?_⟩
 show wpAny _ A (load s.heap.objs.size>>=_) _ _ s'
 refine wpAny_bind (wpAny_load hS' ?_)
 refine wpAny_pure (hQ s' nM (Moved.drop_new (o:={cls:= .type "list",data:= .seq ([]:List Value).toArray}) (tk:=s.toks) hm (ai _)) ?_)
 apply List.ext_getElem?
 intro i
 obtain⟨hz,hi⟩:=GX
 by_cases eP:i<gn.size
 ·have GY:i<nM.size:=by exact hz▸eP
  have e1:=hi i _ (jt GY)
  rw[List.getElem?_reverse (by simpa using eP)]
  simp only[ml,Array.length_toList]
  rw[jt GY,<-e1]
 ·rw[mm (by simp;exact nW [.eq (.v 0) (.v 1),.no (.lt (.v 2) (.v 1))] (.le (.v 0) (.v 2)) [1,1] (Eq.refl true) hz eP),mm (by simp;exact cu eP)]
end
section
variable{C:Ctx}{fr:Fm}{ρ:b9}{σ:St}{Q:PV->St->Prop}{X:Prop}{Y Z:Zf}{s:Shared}{a b c:Int}{x y:Str}
theorem Ok.BG(ok:Ok C fr Y Z ρ σ s)(a:Addr):Ok C fr Y Z ρ (σ.del a) s:=
 ⟨ok.base,ok.keep,ok.vals,ok.yl,ok.zl,ok.bl,ok.loc,λb d e=>ok.jq b d (St.mj e).2,λb d e=>ok.own b d (St.mj e).2,ok.bh,ok.rest,ok.zn,ok.fz⟩
theorem Aw{l:Addr}{xs:List PV}(hc:σ l=some (.list xs))(h:∀k,σ k=none->Q (.loc k) (σ.upd k (.rev l xs.length))):
 WN C fr (λvs=>call (.type "reversed") vs) [.loc l] ρ σ Q X:=λY Z s vs ok r=>by
 obtain⟨w,rfl,r1⟩:=j7 r
 obtain rfl:=bA r1
 obtain⟨o,ho,us,n,rfl,rl⟩:=ok.jq l _ hc
 have hn:s.heap.get? s.heap.objs.size=none:=bg (ai _)
 refine call_reversed_list ⟨_,ho,rfl,n,rfl⟩ ⟨.loc s.heap.objs.size,_,Z,fP.refl _,ok.alloc (t':=s.toks) (c:= .rev l xs.length) hn (λb o e=>aG _ e) (aN _ rfl) ?_,ic _,h _ (ok.none_of hn).2.2.2.2⟩
 show _=_
 simp[revObj,rl.length]
theorem vK{tn:Str}:∀{l:List (Str×Tok)},Builtin.Str.tooLong ((l.map (·.1)).toArray.foldl (·+·.length+tn.length) 0)=false->Gives (joinTail tn (strValues l)) (joinMade tn l)
 |[],h=>gives_joinTail tn [] h
 |[p],h=>gives_joinTail tn [p] h
 |p::q::r,h=>gives_joinTail tn (p::q::r) h
theorem Cr(Fk:aI C fr){l k:Addr}{xs:List Str}(hZ:l≠k)(hc:σ l=some (.list (xs.map .str)))(hk:σ k=some (.rev l xs.length))(kG:JoinOk x xs.reverse=true)(hsz:xs.length<=sizeLine)
 (h:Q (.str (Txt.join x xs.reverse)) (σ.del k)):WN C fr (λvs=>call (.builtin "str.join") vs) [.str x,.loc k] ρ σ Q X:=λY Z s vs ok r=>by
 obtain⟨w,w',rfl,r1,r2⟩:=i6 r;obtain⟨t,rfl⟩:=a7 r1;obtain rfl:=bA r2
 obtain⟨o,ho,us,n,rfl,rl⟩:=ok.jq l _ hc
 obtain⟨oi,hoi,rfl⟩:=ok.jq k _ hk
 obtain⟨ps,rfl,hx⟩:=iG rl
 have dZ:ps.length=xs.length:=by rw[<-hx,af]
 have hl:s.heap.IsList l (strValues ps).toArray:=⟨_,ho,rfl,n,rfl⟩
 have Zu:(strValues ps).toArray.size=xs.length:=by simp[strValues,dZ]
 have hit:s.heap.IsRevIter k l (((strValues ps).toArray.size:Int)-1):=⟨_,hoi,rfl,by rw[Zu]⟩
 refine wpAny_call (codeAny_call_builtin F.slot_str_join.plain F.entry_str_join (F.slot_str_join.check _ _ _ _ _ _ _ _ (typeIs_str _ _ _) (F.args_str_join_2 _ _) ?_))
 rw[join_tree_other]
 refine wpAny_bind (wpAny_typeOf hit.typeIs ?_)
 show wpAny _ fr.A.in1 ((pyIter (.ref k)).tryCatch _>>=λit=>collect it>>=λgn=>joinTail x gn) _ _ s
 refine wpAny_bind (wpAny_tryCatch (wpAny_pyIter_revIter hit ?_))
 refine wpAny_bind (Av (A:=fr.A.in1) Fk.handled hZ hit hl (λs' acc hm ha=> ?_) (by rw[Zu];exact hsz))
 have UC:(strValues ps).reverse=strValues ps.reverse:=by simp[strValues]
 rw[ha,UC]
 have Zv:ps.reverse.map (·.1)=xs.reverse:=by rw[List.map_reverse,hx]
 unfold JoinOk at kG
 rw[Bool.not_eq_true',<-Zv]at kG
 have g:=vK kG
 have f6:Ok C fr Y Z ρ (σ.del k) s':=by
  obtain⟨n1,n2,n3,n4⟩:=ok.own k _ hk
  have:=(ok.BG k).but (wr:=[k]) (h':=s'.heap) (t':=s'.toks) (λb o hb e=>hm.heap b o hb e) (λb hb=>by
   rw[am.mp hb];exact⟨n1,n2,n3,n4,by simp[St.del]⟩)
  have e:s'={s with heap:=s'.heap,toks:=s'.toks}:=by
   have h1:=hm.gens;have h2:=hm.drawn;have h3:=hm.os
   cases s;cases s';simp_all
  rw[e];exact this
 refine g C.prog C.w fr.A (wants (iD C fr Y Z ρ Q) (f8 C fr Y ρ X)) s' (post_join ps.reverse ⟨joinFit_length kG,λt' tk=> ?_⟩)
 rw[Zv]
 exact bZ (Ok.toks f6) (fQ _ _) h
end
noncomputable def lK(M:Model)(A:Around)(t:Sem Value)(x:Str):Prop:=∀(s:Shared) (Q:Value->Shared->Prop) (E:Value->Shared->Prop),(∀u tk,Q (.str x u) {s with toks:=tk})->wpAny M A t Q E s
noncomputable def dD(M:Model)(A:Around):List (Sem Value×Sem Value)->List (Str×Str)->Prop
 |[],[]=>True
 |p::ps,kv::kvs=>lK M A p.1 kv.1/\lK M A p.2 kv.2/\dD M A ps kvs
 |_,_=>False
noncomputable abbrev oq(x:Str)(v:Value):Prop:=∃t,v=.str x t
theorem dD.length{M:Model}{A:Around}:∀{ps:List (Sem Value×Sem Value)} {kvs:List (Str×Str)},dD M A ps kvs->ps.length=kvs.length
 |[],[],_=>rfl
 |_::_,_::_,h=>by rw[aw,aw,h.2.2.length]
 |[],_::_,h=>h.elim
 |_::_,[],h=>h.elim
section
variable{prog:Program}{w:World}{A:Around}{E:Value->Shared->Prop}
theorem ou:∀{sd:List (Sem Value×Sem Value)} {kvs:List (Str×Str)} (g:dD (model prog w) A sd kvs) {s:Shared} {Q:List (Value×Value)->Shared->Prop}
 (h:∀vs ws tk,eM oq kvs ws->Carries (strKind prog w) vs ws->Q vs {s with toks:=tk}),wpAny (model prog w) A (evalPairs sd) Q E s
 |[],[],_,s,Q,h=>evalPairs_nil (h [] [] s.toks rfl trivial)
 |p::ps,kv::kvs,g,s,Q,h=>evalPairs_cons (g.1 _ _ _ λu tk=>g.2.1 _ _ _ λu' tk'=>ou g.2.2 λvs ws NO r c=>
  h _ ((kv.1,.str kv.2 u')::ws) NO ⟨_,ws,rfl,⟨u',rfl⟩,r⟩ ⟨by simp[PySem.strKind,Value.isStrOf],rfl,c⟩)
 |[],_::_,g,_,_,_=>g.elim
 |_::_,[],g,_,_,_=>g.elim
theorem uk{d:Addr}:∀{sd:List (Sem Value×Sem Value)} {kvs:List (Str×Str)} (g:dD (model prog w) A sd kvs) (acc:List (Str×Value)) {s:Shared} {Q:PUnit->Shared->Prop}
 (hm:s.heap.DictOf (strKind prog w) d acc) (hn:(acc.map (·.1)++kvs.map (·.1)).Nodup) (hsz:acc.length+kvs.length<=sizeLine)
 (h:∀h' ws tk,eM oq kvs ws->h'.DictOf (strKind prog w) d (acc++ws)->Heap.SameBut d s.heap h'->Q PUnit.unit {s with heap:=h',toks:=tk}),
 wpAny (model prog w) A (forIn sd PUnit.unit λ(x:Sem Value×Sem Value) (_:PUnit)=>(do let kv<-x.1;let vv<-holding [kv] x.2;holding [kv,vv] (dictSet d kv vv);pure (ForInStep.yield PUnit.unit):Sem (ForInStep PUnit))) Q E s
 |[],[],_,acc,s,Q,hm,_,_,h=>by
  rw[List.forIn_nil]
  exact wpAny_pure (by simpa using h s.heap [] s.toks rfl (by simpa using hm) (Heap.SameBut.refl _ _))
 |p::ps,kv::kvs,g,acc,s,Q,hm,hn,hsz,h=>by
  rw[p9]
  rw[aw]at hsz
  refine wpAny_bind (wpAny_bind (g.1 _ _ _ λu tk=>wpAny_bind (wpAny_holding (g.2.1 _ _ _ λu' tk'=>wpAny_bind (wpAny_holding ?_)))))
  refine wpAny_dictSet_pairs (knd:=strKind prog w) (k:=kv.1) (hsz:=by exact aa (ay _ _) hsz) (by simp[PySem.strKind,Value.isStrOf]) hm λfM vL yb=>wpAny_pure ?_
  have Ak:kv.1∉acc.map (·.1):=λhk=>by
   rw[bp,dE]at hn
   exact hn.2.2 _ hk _ (az ..) rfl
  have kI:stored acc kv.1 (.str kv.2 u')=acc++[(kv.1,.str kv.2 u')]:=by
   rw[stored,if_neg]
   rw[List.any_eq_true];rintro⟨q,hq,e⟩
   exact Ak (bj.mpr ⟨q,hq,of_decide_eq_true e⟩)
  rw[kI]at vL
  refine uk g.2.2 _ vL (by simpa using hn) (by simp;exact nW [.le (.a (.v 0) (.a (.v 1) (.n 1))) (.v 2)] (.le (.a (.a (.v 0) (.n 1)) (.v 1)) (.v 2)) [1] (Eq.refl true) hsz) λh' ws NO r Ka E3=> ?_
  exact h h' ((kv.1,.str kv.2 u')::ws) NO ⟨_,ws,rfl,⟨u',rfl⟩,r⟩ (by simpa using Ka) (yb.trans E3)
 |[],_::_,g,_,_,_,_,_,_,_=>g.elim
 |_::_,[],g,_,_,_,_,_,_,_=>g.elim
theorem mB{sd:List (Sem Value×Sem Value)}{kvs:List (Str×Str)}(g:dD (model prog w) A sd kvs)(hn:(kvs.map (·.1)).Nodup)(hsz:kvs.length<=17){s:Shared}{Q:Addr->Shared->Prop}
 (h:∀h' ws tk,eM oq kvs ws->h'.DictOf (strKind prog w) s.heap.objs.size ws->Heap.SameBut s.heap.objs.size (s.heap.push {cls:= .type "dict",data:= .dict #[]}) h'->Q s.heap.objs.size {s with heap:=h',toks:=tk}):
 wpAny (model prog w) A (subDict sd) Q E s:=by
 have dZ:=g.length
 by_cases hs:sd.length<=15
 ·refine wpAny_subDict (knd:=strKind prog w) hs (ou g λvs ws tk r c=>⟨ws,c,Heap.DictOf.new _,λh' hm Qc=> ?_⟩)
  refine h h' ws _ r ?_ Qc
  rw[merged_nil_of_nodup _ (by rw[r.keys];exact hn)]at hm
  exact hm
 ·unfold subDict
  refine wpAny_bind (wpAny_alloc ?_)
  refine wpAny_bind (wpAny_holding ?_)
  rw[if_neg hs]
  refine wpAny_bind (wpAny_rule ?_)
  refine wpAny_bind (uk g [] (Heap.DictOf.new _) (by simpa using hn) (by rw[sizeLine_eq];simp;exact aa hsz (by decide)) λh' ws tk r hm Qc=> ?_)
  exact wpAny_pure (wpAny_pure (h h' ws tk r (by simpa using hm) Qc))
theorem Ax{d:Addr}{acc:List (Str×Value)}{k:Str}{key v:Value}{s:Shared}{Q:Unit->Shared->Prop}(NP:(PySem.strKind prog w).is k key=true)(hm:s.heap.DictOf (PySem.strKind prog w) d acc)
 (Ak:k∉acc.map (·.1)) (hsz:acc.length<=sizeLine)
 (hQ:∀h',h'.DictOf (PySem.strKind prog w) d (acc++[(k,v)])->Heap.SameBut d s.heap h'->Q () {s with heap:=h'}):
 wpAny (model prog w) A (dictPut d ((PySem.strKind prog w).hash k) key v) Q E s:=by
 obtain⟨o,es,ep,ho,hc,hd,hk,hp,hn⟩:=hm
 have JJ:es.size<=sizeLine:=by
  have e1:=hp.length;have e2:es.toList.length=es.size:=by simp
  exact Ge [.le (.v 0) (.v 1),.eq (.v 2) (.v 0),.eq (.v 2) (.v 3)] (.le (.v 3) (.v 1)) [1,1,.negSucc 0] (Eq.refl true) hsz e1 e2
 unfold dictPut
 refine wpAny_bind (wpAny_dictFind_of NP ho hd hk ?_)
 have UD:(es.findIdx? λe=>(PySem.strKind prog w).is k e.key)=acc.findIdx? λkv=>decide (kv.1=k):=by
  rw[<-hp.findIdx k];obtain⟨l⟩:=es;simp
 have Qg:(es.findIdx? λe=>(PySem.strKind prog w).is k e.key)=none:=by
  rw[UD,List.findIdx?_eq_none_iff]
  intro x hx
  simp only[decide_eq_false_iff_not]
  exactλe=>Ak (bj.mpr ⟨x,hx,e⟩)
 rw[Qg]
 refine wpAny_updateDictKeys (hz:=JJ) ho hd (hQ _ ⟨_,_,ep+1,eN _ ho (Obj.isFreed_of_dict (Obj.data_mapDictKeys hd _)),
  hc.mapDictKeys _,Obj.data_mapDictKeys hd _,hk.push NP _,?_,?_⟩ (jw ..))
 ·have:=hp.append NP ((PySem.strKind prog w).hash k) v
  obtain⟨l⟩:=es
  simpa using this
 ·rw[aQ,dE]
  refine⟨hn,by simp,?_⟩
  intro a ha b hb
  simp only[bp,fK,am]at hb
  subst hb
  exactλe=>Ak (e▸ha)
theorem Pairs.at{K:Type}[DecidableEq K]{knd:PySem.KeyKind prog w K}{es:List DictEntry}{kvs:List (K×Value)}(h:Pairs knd es kvs):∀{i:Nat} {kv:K×Value},kvs[i]?=some kv->∃e,es[i]?=some e/\knd.is kv.1 e.key=true/\e.val=kv.2:=by
 induction h with
 |nil=>intro i kv e;simp at e
 |cons h1 h2 _ ih=>
  intro i kv e
  cases i with
  |zero=>simp only[List.getElem?_cons_zero,Option.some.injEq]at e⊢;subst e;exact⟨_,rfl,h1,h2⟩
  |succ j=>simp only[fv]at e⊢;exact ih e
theorem ul{d a:Addr}(hZ:a≠d){o:Obj}{es:Array DictEntry}{ep:Nat}{ws:List (Str×Value)}(hd:o.data=.dict es ep)(yc:KeysOf (PySem.strKind prog w) es)(hp:Pairs (PySem.strKind prog w) es.toList ws)
 {f:Nat->PUnit->Sem (ForInStep PUnit)}
 (hf:∀(i:Nat) (e:DictEntry) (s:Shared) (Q:ForInStep PUnit->Shared->Prop),s.heap.get? a=some o->es[i]?=some e->
  wpAny (model prog w) A (dictPut d e.hash e.key e.val) (λ_ s'=>s'.heap.get? a=some o/\Q (.yield PUnit.unit) s') E s->wpAny (model prog w) A (f i PUnit.unit) Q E s):
 ∀(n i:Nat) (acc:List (Str×Value)) {s:Shared} {Q:PUnit->Shared->Prop},i+n=ws.length->s.heap.get? a=some o->s.heap.DictOf (PySem.strKind prog w) d acc->(acc.map (·.1)++(ws.drop i).map (·.1)).Nodup->acc.length+n<=sizeLine->
  (∀h',h'.DictOf (PySem.strKind prog w) d (acc++ws.drop i)->Heap.SameBut d s.heap h'->Q PUnit.unit {s with heap:=h'})->wpAny (model prog w) A (forIn (List.range' i n) PUnit.unit f) Q E s
 |0,i,acc,s,Q,hi,ho,hm,hn,hsz,hQ=>by
  rw[List.range'_zero,List.forIn_nil]
  have e:ws.drop i=[]:=lu (by exact aZ hi.symm)
  rw[e]at hQ
  exact wpAny_pure (hQ s.heap (by simpa using hm) (Heap.SameBut.refl _ _))
 |n+1,i,acc,s,Q,hi,ho,hm,hn,hsz,hQ=>by
  rw[List.range'_succ,p9]
  have eP:i<ws.length:=by exact nW [.eq (.a (.v 0) (.a (.v 1) (.n 1))) (.v 2)] (.lt (.v 0) (.v 2)) [1] (Eq.refl true) hi
  have hdr:ws.drop i=ws[i]::ws.drop (i+1):=bY eP
  obtain⟨e,he,hk,hv⟩:=Pairs.at hp (i:=i) (kv:=ws[i]) (aB eP)
  have Tj:es[i]?=some e:=by simpa using he
  rw[hdr]at hn hQ
  have J7:e∈es:=Array.mem_of_getElem? Tj
  obtain⟨k',tm,hh'⟩:=yc e J7
  have ek:k'=ws[i].1:=by
   have:=KeyKind.is_eq_decide hk k'
   rw[tm]at this
   exact of_decide_eq_true this.symm
  subst ek
  refine wpAny_bind (hf i e s _ ho Tj ?_)
  rw[hh']
  refine Ax hk hm (λDI=> ?_) (by exact aa (ay _ _) hsz) λfM vL yb=> ?_
  ·rw[bp,dE]at hn
   exact hn.2.2 _ DI _ (az ..) rfl
  ·have Mb:fM.get? a=some o:=(yb.2 a hZ).trans ho
   refine⟨Mb,ul hZ hd yc hp hf n (i+1) (acc++[(ws[i].1,e.val)]) (by exact dH (nW [.eq (.a (.v 0) (.a (.v 1) (.n 1))) (.v 2)] (.le (.a (.a (.v 0) (.n 1)) (.v 1)) (.v 2)) [1] (Eq.refl true) hi) (nW [.eq (.a (.v 0) (.a (.v 1) (.n 1))) (.v 2)] (.le (.v 2) (.a (.a (.v 0) (.n 1)) (.v 1))) [.negSucc 0] (Eq.refl true) hi)) Mb vL (by rw[aQ,aC];exact hn) (by simp;exact nW [.le (.a (.v 0) (.a (.v 1) (.n 1))) (.v 2)] (.le (.a (.a (.v 0) (.n 1)) (.v 1)) (.v 2)) [1] (Eq.refl true) hsz) λh' Ka E3=> ?_⟩
   refine hQ h' ?_ (yb.trans E3)
   rw[hv,aC]at Ka
   exact Ka
theorem yd{d a:Addr}{acc ws:List (Str×Value)}{s:Shared}{Q:Unit->Shared->Prop}(hZ:a≠d)(hsm:(a==sysModules)=false)(GX:acc≠[])(hm:s.heap.DictOf (PySem.strKind prog w) d acc)(ha:s.heap.DictOf (PySem.strKind prog w) a ws)
 (hn:(acc.map (·.1)++ws.map (·.1)).Nodup) (hsz:acc.length+ws.length<=sizeLine)
 (hQ:∀h',h'.DictOf (PySem.strKind prog w) d (acc++ws)->Heap.SameBut d s.heap h'->Q () {s with heap:=h'}):wpAny (model prog w) A (mergeMapping d (.ref a) false) Q E s:=by
 obtain⟨o,es,ep,ho,hc,hd,hk,hp,JN⟩:=id ha
 obtain⟨o',NL,Zq,qw,O9,Nn,tm,BP,aac⟩:=id hm
 have hT:s.TypeIs (.ref a) "dict":=⟨o,ho,hc.1⟩
 unfold mergeMapping
 refine wpAny_bind (wpAny_isInstance (b:=true) hT (by rw[isSubtype_type];kernel_rfl) ?_)
 rw[if_pos rfl]
 refine wpAny_bind (wpAny_specialOf hT F.slot_dict_iter.lookup ?_)
 refine wpAny_bind (wpAny_pure ?_)
 rw[show(some (Value.builtin "dict.__iter__")==some (Value.builtin "dict.__iter__"))=true from by decide+kernel]
 dsimp only
 rw[if_neg (by rw[hsm];decide)]
 refine wpAny_bind (wpAny_dictEntries qw Nn ?_)
 have UE:NL.isEmpty=false:=by
  have e1:=BP.length
  have e2:NL.toList.length=NL.size:=by simp
  have e3:acc.length≠0:=λe=>GX (List.length_eq_zero_iff.mp e)
  cases hq:NL.isEmpty with
  |false=>rfl
  |true=>rw[Array.isEmpty_iff_size_eq_zero]at hq;omega
 rw[if_neg (by rw[UE];decide)]
 refine wpAny_bind (wpAny_dictEntries ho hd ?_)
 refine wpAny_bind (wpAny_dictEpoch ho hd ?_)
 rw[List.range_eq_range']
 have Ji:es.size=ws.length:=by
  have e1:=hp.length
  have e2:es.toList.length=es.size:=by simp
  exact e1
 refine wpAny_bind (ul hZ hd hk hp (λi e bF aad yb Qh hx=> ?_) es.size 0 acc (by exact dH (mq [.eq (.v 0) (.v 1)] (.le (.a (.n 0) (.v 0)) (.v 1)) [1] (Eq.refl true) Ji) (mq [.eq (.v 0) (.v 1)] (.le (.v 1) (.a (.n 0) (.v 0))) [.negSucc 0] (Eq.refl true) Ji)) ho hm (by simpa using hn) (by exact Ji▸hsz) λh' Ka E3=>wpAny_pure (hQ h' (by simpa using Ka) E3))
 refine wpAny_bind (wpAny_dictEntries yb hd ?_)
 rw[Qh]
 dsimp only
 refine wpAny_bind (wpAny_holding ?_)
 rw[if_neg f5]
 refine wpAny_mono hx (λ_ cV gt=> ?_) λ_ _ e=>e
 refine wpAny_bind (wpAny_dictEpoch gt.1 hd ?_)
 rw[if_neg (by simp)]
 exact wpAny_pure gt.2
end
noncomputable abbrev Run:=List (Sem Value×Sem Value)
noncomputable abbrev Qi:=(Option (Sem Value)×Sem Value)->(Option Addr×Run)->Sem (ForInStep (Option Addr×Run))
theorem mC{F:Qi}(h1:∀(p:Sem Value×Sem Value) (m:Option Addr) (run:Run),run.length+1<17->F (some p.1,p.2) (m,run)=pure (.yield (m,run++[p]))):
 ∀(gn run:Run) (m:Option Addr) (rest:List (Option (Sem Value)×Sem Value)),run.length+gn.length<17->forIn ((gn.map λp=>(some p.1,p.2))++rest) (m,run) F=forIn rest (m,run++gn) F
 |[],run,m,rest,_=>by simp
 |p::gn,run,m,rest,h=>by
  rw[bp,fN,p9,h1 p m run (by simp at h;exact mq [.lt (.a (.v 0) (.a (.v 1) (.n 1))) (.n 17)] (.lt (.a (.v 0) (.n 1)) (.n 17)) [1] (Eq.refl true) h),pure_bind]
  have:=mC h1 gn (run++[p]) m rest (by simp at h⊢;exact mq [.lt (.a (.v 0) (.a (.v 1) (.n 1))) (.n 17)] (.lt (.a (.a (.v 0) (.n 1)) (.v 1)) (.n 17)) [1] (Eq.refl true) h)
  simpa using this
theorem Cs{F:Qi}(h1:∀(p:Sem Value×Sem Value) (m:Option Addr) (run:Run),run.length+1<17->F (some p.1,p.2) (m,run)=pure (.yield (m,run++[p])))(gn run:Run)(m:Option Addr)(h:run.length+gn.length<17):
 forIn (gn.map λp=>(some p.1,p.2)) (m,run) F=pure (m,run++gn):=by
 have:=mC h1 gn run m [] h
 rw[bV]at this
 rw[this,List.forIn_nil]
section
variable{prog:Program}{w:World}{A:Around}{E:Value->Shared->Prop}
theorem GZ{q1 q2 p3:Run}{x1 x2:Sem Value×Sem Value}(n1:q1.length=16)(n2:q2.length=16)(n3:p3.length<17)(e3:p3≠[]){s:Shared}{Q:Value->Shared->Prop}
 (h:wpAny (model prog w) A (subDict (q1++[x1])) (λd bF=>wpAny (model prog w) A (subDict (q2++[x2])) (λa cV=>wpAny (model prog w) A (mergeMapping d (.ref a) false) (λ_ iE=>wpAny (model prog w) A (subDict p3) (λb B6=>
  wpAny (model prog w) A (mergeMapping d (.ref b) false) (λ_ rT=>Q (.ref d) rT) (λ_ _=>False) B6) (λ_ _=>False) iE) (λ_ _=>False) cV) (λ_ _=>False) bF) (λ_ _=>False) s):
 wpAny (model prog w) A (dictDisplay ((q1++(x1::(q2++(x2::p3)))).map λp=>(some p.1,p.2))) Q E s:=by
 have no:∀{α:Type} {m:Sem α} {P:α->Shared->Prop} {s:Shared},wpAny (model prog w) A m P (λ_ _=>False) s->∀{P':α->Shared->Prop} {E':Value->Shared->Prop},(∀a s,P a s->P' a s)->wpAny (model prog w) A m P' E' s:=
  λh _ _ hp=>wpAny_mono h hp λ_ _ e=>e.elim
 unfold dictDisplay
 dsimp only
 have NQ:∀(p:Sem Value×Sem Value) (run:Run),run.length+1<17->((run++[(p.1,p.2)]).length==17)=false:=λp run h=>by simp;exactλe=>absurd (e▸h) (by decide)
 simp only[aQ,bp]
 rw[mC (λp m run h=>by simp only[NQ p run h,kA,if_false]) q1 [] none _ (by simp;exact n1▸ai _)]
 rw[p9]
 have f1:(([]++q1++[(x1.1,x1.2)]).length==17)=true:=by simp;exact n1
 have f2:(([]++q2++[(x2.1,x2.2)]).length==17)=true:=by simp;exact n2
 simp only[f1,if_true,bind_assoc,pure_bind]
 refine wpAny_bind ?_
 rw[if_neg (by simp)]
 refine wpAny_bind ?_
 rw[fC]
 refine no h λd bF fM=>wpAny_pure ?_
 rw[mC (λp m run h=>by simp only[NQ p run h,kA,if_false]) q2 [] (some d) _ (by simp;exact n2▸ai _)]
 rw[p9]
 simp only[f2,if_true,bind_assoc,pure_bind]
 refine wpAny_bind ?_
 rw[if_neg (by simp)]
 refine wpAny_bind (wpAny_holding ?_)
 rw[fC]
 refine no fM λa cV gt=> ?_
 refine wpAny_bind (wpAny_onRaise (wpAny_holding (no gt λ_ iE iS=>wpAny_pure ?_)))
 rw[Cs (λp m run h=>by simp only[NQ p run h,kA,if_false]) p3 [] (some d) (by simpa using n3)]
 refine wpAny_bind (wpAny_pure ?_)
 rw[fC,if_neg (by simp[e3])]
 refine wpAny_bind (wpAny_bind (wpAny_holding (no iS λb B6 Qj=> ?_)))
 refine wpAny_bind (wpAny_onRaise (wpAny_holding (no Qj λ_ rT NR=>wpAny_pure ?_)))
 exact wpAny_pure NR
end
noncomputable def sel{α:Type}(d:α)(e:Expr)(nm:Str->Pos->α:=λ_ _=>d)(con:Const->Nat->Pos->α:=λ_ _ _=>d)(bin:Expr->Operator->Expr->Pos->α:=λ_ _ _ _=>d)(un:UnaryOp->Expr->Pos->α:=λ_ _ _=>d)
 (boo:BoolOp->List Expr->Pos->α:=λ_ _ _=>d) (cmp:Expr->List CmpOp->List Expr->Pos->α:=λ_ _ _ _=>d) (ifx:Expr->Expr->Expr->Pos->α:=λ_ _ _ _=>d) (call:Expr->List Expr->List Keyword->Pos->α:=λ_ _ _ _=>d)
 (att:Expr->Str->Pos->α:=λ_ _ _=>d) (sub:Expr->Expr->Pos->α:=λ_ _ _=>d) (tup:List Expr->Nat->Pos->α:=λ_ _ _=>d) (lst:List Expr->Pos->α:=λ_ _=>d) (slc:Option Expr->Option Expr->Option Expr->Pos->α:=λ_ _ _ _=>d) (dic:List (Option Expr)->List Expr->Pos->α:=λ_ _ _=>d) (lc:Expr->List Comprehension->Scope->Pos->α:=λ_ _ _ _=>d):α:=
 Expr.casesOn (motive_1:=λ_=>α) e boo (λ_ _ _=>d) bin un (λ_ _ _ _=>d) ifx dic (λ_ _ _=>d) lc (λ_ _ _ _=>d) (λ_ _ _ _ _=>d) (λ_ _ _ _=>d) (λ_ _=>d) (λ_ _=>d) (λ_ _=>d) cmp call (λ_ _ _ _=>d) (λ_ _=>d) con att sub (λ_ _=>d) nm lst tup slc
theorem fR{α:Type}{d:α}{nm con bin un boo cmp ifx call att sub tup lst slc dic lc}(P:Expr->α->Prop)(e:Expr)(hd:∀e,P e d)(h1:∀x p,P (.Name x p) (nm x p))(h2:∀c k p,P (.Constant c k p) (con c k p))(h3:∀a o b p,P (.BinOp a o b p) (bin a o b p))(h4:∀o a p,P (.UnaryOp o a p) (un o a p))
 (h5:∀o es p,P (.BoolOp o es p) (boo o es p)) (h6:∀a os es p,P (.Compare a os es p) (cmp a os es p)) (h7:∀t a b p,P (.IfExp t a b p) (ifx t a b p)) (h8:∀f es k p,P (.Call f es k p) (call f es k p)) (h9:∀o x p,P (.Attribute o x p) (att o x p))
 (ha:∀a i p,P (.Subscript a i p) (sub a i p)) (hb:∀es k p,P (.Tuple es k p) (tup es k p)) (hc:∀es p,P (.List es p) (lst es p)) (hs:∀a b c p,P (.Slice a b c p) (slc a b c p)) (hi:∀a b p,P (.Dict a b p) (dic a b p)) (hl:∀a b c p,P (.ListComp a b c p) (lc a b c p)):P e (sel d e nm con bin un boo cmp ifx call att sub tup lst slc dic lc):=
 Expr.casesOn (motive_1:=λe=>P e (sel d e nm con bin un boo cmp ifx call att sub tup lst slc dic lc)) e h5 (λ_ _ _=>hd _) h3 h4 (λ_ _ _ _=>hd _) h7 hi (λ_ _ _=>hd _) hl (λ_ _ _ _=>hd _) (λ_ _ _ _ _=>hd _) (λ_ _ _ _=>hd _) (λ_ _=>hd _) (λ_ _=>hd _) (λ_ _=>hd _) h6 h8 (λ_ _ _ _=>hd _) (λ_ _=>hd _) h2 h9 ha (λ_ _=>hd _) h1 hc hb hs
noncomputable section
noncomputable def Qk(c:Const):Option Str:=Const.casesOn c none (λ_=>none) (λ_=>none) (λ_=>none) (λ_ _=>none) some (λ_=>none) none
noncomputable def strOf(e:Expr):Option Str:=sel none e (con:=λc _ _=>Qk c)
noncomputable def vM(ks:List (Option Expr)):List Expr->Option (List (Str×Str)):=List.rec (λvs=>List.casesOn vs (some []) λ_ _=>none) (λk _ ih vs=>List.casesOn vs none λv vs=>(k.bind strOf).bind λx=>(strOf v).bind λy=>(ih vs).map ((x,y)::·)) ks
end
theorem ow{M:Model}{A:Around}{env:Env}{e:Expr}{x:Str}:strOf e=some x->lK M A (eval e env) x:=
 have n:∀{e:Expr},(none:Option Str)=some x->lK M A (eval e env) x:=λh=>(aT x h.symm).elim
 fR (λe q=>q=some x->lK M A (eval e env) x) e (λ_=>n) (λ_ _=>n) (λc _ _=>Const.casesOn (motive:=λc=>Qk c=some x->lK M A (eval (.Constant c _ _) env) x) c n (λ_=>n) (λ_=>n) (λ_=>n) (λ_ _=>n) (λ_ h=>ax h▸λs Q E hq=>Calls.Constant_str (hq _ _)) (λ_=>n) n)
  (λ_ _ _ _=>n) (λ_ _ _=>n) (λ_ _ _=>n) (λ_ _ _ _=>n) (λ_ _ _ _=>n) (λ_ _ _ _=>n) (λ_ _ _=>n) (λ_ _ _=>n) (λ_ _ _=>n) (λ_ _=>n) (λ_ _ _ _=>n) (λ_ _ _=>n) (λ_ _ _ _=>n)
theorem tH{M:Model}{A:Around}{env:Env}{pos:Pos}{ks:List (Option Expr)}:∀{vs:List Expr} {kvs:List (Str×Str)},vM ks vs=some kvs->
 dD M A (pairTrees ks vs env pos) kvs/\ks.all (·.isSome)=true/\ks.length=vs.length:=by
 induction ks with
 |nil=>
  intro vs kvs h
  cases vs with
  |nil=>exact ax h▸⟨trivial,rfl,rfl⟩
  |cons v vs=>cases h
 |cons k ks ih=>
  intro vs kvs h
  cases vs with
  |nil=>cases h
  |cons v vs=>
   exact(ao.mp h).elim λx h=>(ao.mp h.1).elim λk0 h1=>(ao.mp h.2).elim λy h=>(aA.mp h.2).elim λr h'=>h1.1▸h'.2▸have i:=ih h'.1
    ⟨⟨ow h1.2,λs Q E hq=>wpAny_bind (ow h.1 _ _ _ λu tk=>wpAny_bind (wpAny_standAt (wpAny_pure (hq u tk)))),i.1⟩,i.2.1,congrArg (·+1) i.2.2⟩
theorem dD.split{M:Model}{A:Around}{a:Run}:∀{b:Run} {c d:List (Str×Str)},a.length=c.length->dD M A (a++b) (c++d)->dD M A a c/\dD M A b d:=by
 induction a with
 |nil=>
  intro b c d hl h
  cases c with
  |nil=>exact⟨trivial,h⟩
  |cons p c=>cases hl
 |cons p a ih=>
  intro b c d hl h
  cases c with
  |nil=>cases hl
  |cons q c=>exact have i:=ih (Nat.succ.inj hl) h.2.2;⟨⟨h.1,h.2.1,i.1⟩,i.2⟩
theorem Ql{α:Type}{l:List α}(h:34<l.length):∃q1 x1 q2 x2 p3,l=q1++(x1::(q2++(x2::p3)))/\q1.length=16/\q2.length=16/\p3.length+34=l.length:=by
 refine⟨l.take 16,l[16],(l.drop 17).take 16,l[33],l.drop 34,?_,lz (aa (by decide) (a9 h)),lz (by rw[eY];exact Nat.le_sub_of_add_le (aa (by decide) (a9 h))),by rw[eY];exact ky (a9 h)⟩
 rw[<-bY (by exact a9 h:33<l.length),show 33=17+16 from rfl,<-List.drop_drop,f7,<-bY (by exact au (by decide) h:16<l.length),f7]
theorem ye{prog:Program}{w:World}{K:Type}[DecidableEq K]{knd:PySem.KeyKind prog w K}{ws:List (K×Value)}{h h':Heap}{d:Addr}(x:h.DictOf knd d ws)(e:∀o,h.get? d=some o->h'.get? d=some o):h'.DictOf knd d ws:=
 let⟨o,es,ep,ho,r⟩:=x;⟨o,es,ep,e _ ho,r⟩
theorem vN{h h':Heap}{UF:Obj}(hs:Heap.SameBut h.objs.size (h.push UF) h'):∀b o,h.get? b=some o->h'.get? b=some o:=λb o e=>
 (hs.2 b (bX (dc e))).trans (aG _ e)
theorem vO{h h':Heap}{d:Addr}(hs:Heap.SameBut d h h'):∀b o,b≠d->h.get? b=some o->h'.get? b=some o:=λb o n e=>(hs.2 b n).trans e
section
variable{C:Ctx}{fr:Fm}{ρ:b9}{σ:St}{Q:PV->St->Prop}{X:Prop}
theorem Fg{Z:Zf}{kvs:List (Str×Str)}:∀{ws:List (Str×Value)},eM oq kvs ws->eM (gg Z) (kvs.map λp=>(p.1,PV.str p.2)) ws:=by
 induction kvs with
 |nil=>exactλ{ws} r=>r
 |cons p kvs ih=>exactλ{ws} r=>r.elim λu r=>r.elim λqa r=>r.2.1.elim λt ht=>⟨u,qa,r.1,ht▸fQ _ _,ih r.2.2⟩
theorem Kb(G:dr C){Y Z:Zf}{s:Shared}(ok:Ok C fr Y Z ρ σ s){q1 q2 p3:Run}{x1 x2:Sem Value×Sem Value}{u1 u2 t3:List (Str×Str)}(l1:q1.length=16)(l2:q2.length=16)(Qm:u1.length=17)(UG:u2.length=17)(UH:t3.length<=16)(ht0:0<t3.length)
 (g1:dD C.M fr.A (q1++[x1]) u1) (g2:dD C.M fr.A (q2++[x2]) u2) (g3:dD C.M fr.A p3 t3) (hn:((u1++(u2++t3)).map (·.1)).Nodup)
 (hQ:∀d,σ d=none->Q (.loc d) (σ.upd d (.ca ((u1++(u2++t3)).map λp=>(p.1,.str p.2))))):
 wpAny C.M fr.A (dictDisplay ((q1++(x1::(q2++(x2::p3)))).map λp=>(some p.1,p.2))) (iD C fr Y Z ρ Q) (f8 C fr Y ρ X) s:=by
 have Fh:∀{a b:List (Str×Str)},((a++b).map (·.1)).Nodup->(a.map (·.1)).Nodup/\(b.map (·.1)).Nodup:=λFj=>by
  rw[aQ,dE]at Fj;exact⟨Fj.1,Fj.2.1⟩
 obtain⟨n1,Zw⟩:=Fh hn
 obtain⟨n2,n3⟩:=Fh Zw
 have Zx:((u1++u2).map (·.1)).Nodup:=by rw[<-aC]at hn;exact(Fh hn).1
 have lm:∀{x:List (Str×Str)} {ws:List (Str×Value)},eM oq x ws->ws.length=x.length:=λr=>by have:=congrArg List.length r.keys;simpa using this
 refine GZ l1 l2 (by have:=g3.length;exact mq [.le (.v 0) (.n 16),.eq (.v 1) (.v 0)] (.lt (.v 1) (.n 17)) [1,1] (Eq.refl true) UH this) (by intro e;have:=g3.length;rw[e]at this;simp at this;exact(rf [.lt (.n 0) (.v 0),.eq (.n 0) (.v 0)] (.ff) [1,.negSucc 0] (Eq.refl true) ht0 this).elim) ?_
 refine mB g1 n1 (by exact aZ Qm) λfM w1 k1 NS D1 S1=> ?_
 refine mB g2 n2 (by exact aZ UG) λgt w2 k2 Qn D2 S2=> ?_
 have Mc:=vN S1
 have G0:=vN S2
 have NT:∀{b:Addr} {o:Obj},s.heap.get? b=some o->b≠s.heap.objs.size:=λe=>bX (dc e)
 obtain⟨od1,UI⟩:∃o,fM.get? s.heap.objs.size=some o:=let⟨o,_,_,ho,_⟩:=D1;⟨o,ho⟩
 have a1:fM.objs.size≠s.heap.objs.size:=Ne.symm (bX (dc UI))
 obtain⟨os,Tt⟩:=G.JC
 have Qo:=Mc _ _ (ok.base _ _ Tt)
 have sm1:(fM.objs.size==sysModules)=false:=by
  rw[beq_eq_false_iff_ne];exact Ne.symm (bX (dc Qo))
 refine yd (acc:=w1) (ws:=w2) a1 sm1 (λe=>by have:=lm NS;rw[e]at this;simp at this;exact(rf [.eq (.v 0) (.n 17),.eq (.n 0) (.v 0)] (.ff) [.negSucc 0,.negSucc 0] (Eq.refl true) Qm this).elim) (ye D1 λo e=>G0 _ _ e) D2 (by rw[NS.keys,Qn.keys,<-aQ];exact Zx)
  (by rw[lm NS,lm Qn,sizeLine_eq];exact mq [.eq (.v 0) (.n 17),.eq (.v 1) (.n 17)] (.le (.a (.v 0) (.v 1)) (.n 16777216)) [1,1] (Eq.refl true) Qm UG) λiS D3 S3=> ?_
 refine mB g3 n3 (by exact aa UH (by decide)) λQj w3 k4 UJ D4 S4=> ?_
 have Md:=vN S4
 obtain⟨od3,UK⟩:∃o,iS.get? s.heap.objs.size=some o:=let⟨o,_,_,ho,_⟩:=D3;⟨o,ho⟩
 have a3:iS.objs.size≠s.heap.objs.size:=Ne.symm (bX (dc UK))
 have UL:iS.get? sysModules=some os:=vO S3 _ _ (NT (ok.base _ _ Tt)) (G0 _ _ Qo)
 have sm3:(iS.objs.size==sysModules)=false:=by
  rw[beq_eq_false_iff_ne];exact Ne.symm (bX (dc UL))
 refine yd (acc:=w1++w2) (ws:=w3) a3 sm3 (λe=>by have h1:=lm NS;rw[(List.append_eq_nil_iff.mp e).1]at h1;simp at h1;exact(rf [.eq (.v 0) (.n 17),.eq (.n 0) (.v 0)] (.ff) [.negSucc 0,.negSucc 0] (Eq.refl true) Qm h1).elim) (ye D3 λo e=>Md _ _ e) D4
  (by rw[aQ,NS.keys,Qn.keys,UJ.keys,<-aQ,<-aQ,aC];exact hn) (by rw[ae,lm NS,lm Qn,lm UJ,sizeLine_eq];exact nW [.eq (.v 0) (.n 17),.eq (.v 1) (.n 17),.le (.v 2) (.n 16)] (.le (.a (.a (.v 0) (.v 1)) (.v 2)) (.n 16777216)) [1,1,1] (Eq.refl true) Qm UG UH) λNR D5 S5=> ?_
 have hn:s.heap.get? s.heap.objs.size=none:=bg (ai _)
 have Qp:∀b o,s.heap.get? b=some o->NR.get? b=some o:=λb o e=>vO S5 _ _ (NT e) (Md _ _ (vO S3 _ _ (NT e) (G0 _ _ (Mc _ _ e))))
 obtain⟨o5,ho5,kd5⟩:=KD.of D5
 refine⟨.loc s.heap.objs.size,_,Z,fP.refl _,ok.alloc (c:= .ca _) hn Qp ho5 ⟨_,Fg (kvs:=u1++(u2++t3)) ?_,kd5⟩,ic _,hQ _ (ok.none_of hn).2.2.2.2⟩
 rw[aC]
 have Zy:∀{a b:List (Str×Str)} {x y:List (Str×Value)},eM oq a x->eM oq b y->eM oq (a++b) (x++y):=by
  intro a
  induction a with
  |nil=>intro b x y r q;cases r;exact q
  |cons p a ih=>intro b x y r q;obtain⟨u,qa,e,pp,r'⟩:=r;subst e;exact⟨u,_,rfl,pp,ih r' q⟩
 exact Zy NS (Zy Qn UJ)
theorem Ct(G:dr C){keys:List (Option Expr)}{oy:List Expr}{pos:Pos}{kvs:List (Str×Str)}(hk:vM keys oy=some kvs)(hn:(kvs.map (·.1)).Nodup)(UM:34<kvs.length)(h50:kvs.length<=50)
 (h:∀d,σ d=none->Q (.loc d) (σ.upd d (.ca (kvs.map λp=>(p.1,.str p.2))))):WE C fr (.Dict keys oy pos) ρ σ Q X:=λY Z s ok=>by
 obtain⟨g,ga,gl⟩:=tH (M:=C.M) (A:=fr.A) (env:=fr.env) (pos:=pos) hk
 rw[arm_eval_Dict,zip_pairTrees keys oy fr.env pos ga gl]
 refine wpAny_bind (wpAny_standAt ?_)
 have dZ:=g.length
 obtain⟨q1,x1,q2,x2,p3,e,l1,l2,l3⟩:=Ql (l:=pairTrees keys oy fr.env pos) (by exact dZ▸UM)
 obtain⟨r1,y1,r2,y2,t3,e',m1,m2,m3⟩:=Ql (l:=kvs) (by exact UM)
 rw[e]at g⊢
 subst e'
 have c1:∀{α:Type} (q1:List α) x1 r,q1++x1::r=(q1++[x1])++r:=by simp
 rw[c1 q1 x1,c1 q2 x2,c1 r1 y1,c1 r2 y2]at g
 obtain⟨g1,g'⟩:=dD.split (by simp[l1,m1]) g
 obtain⟨g2,g3⟩:=dD.split (by simp[l2,m2]) g'
 rw[c1 r1 y1,c1 r2 y2]at hn
 refine Kb G ok l1 l2 (by simp[m1]) (by simp[m2]) (by exact mq [.le (.v 0) (.n 50),.eq (.a (.v 1) (.n 34)) (.v 0)] (.le (.v 1) (.n 16)) [1,1] (Eq.refl true) h50 m3) (by exact mq [.lt (.n 34) (.v 0),.eq (.a (.v 1) (.n 34)) (.v 0)] (.lt (.n 0) (.v 1)) [1,.negSucc 0] (Eq.refl true) UM m3) g1 g2 g3 hn λd hd=> ?_
 have:=h d hd
 rw[c1 r1 y1,c1 r2 y2]at this
 exact this
end
section
variable{C:Ctx}{fr:Fm}{ρ:b9}{σ:St}{Q:PV->St->Prop}{X:Prop}{Y Z:Zf}{s:Shared}
noncomputable def WJ(C:Ctx)(fr:Fm)(es:List Expr)(acc:Str)(ρ:b9)(σ:St)(Q:PV->St->Prop)(X:Prop):Prop:=TV C fr (joinParts acc (evalEach es fr.env)) ρ σ Q X
theorem NU{acc:Str}(hsz:acc.length<=sizeLine)(h:Q (.str acc) σ):WJ C fr [] acc ρ σ Q X:=λY Z s ok=>
 PyProof.Rows.joinParts_nil (bZ ok.toks (fQ _ _) h) hsz
theorem DJ{x:Sem Value}{xs:List (Sem Value)}{acc:Str}(h:TV C fr x ρ σ (λv aM=>∃y,v=.str y/\(acc++y).length<=sizeLine/\TV C fr (joinParts (acc++y) xs) ρ aM Q X) X):TV C fr (joinParts acc (x::xs)) ρ σ Q X:=λY Z s ok=>
 PyProof.Rows.joinParts_cons (wpAny_mono (h Y Z s ok) (λv bF ⟨pv,aM,cn,cj,bq,cA,y,e,hsz,q⟩=>by
  subst e
  obtain⟨t,rfl⟩:=a7 cA
  exact⟨hsz,(wP (q Y cn bF bq) λ_ _ x=>x.le cj)⟩) λ_ _ x=>x)
theorem Ay{y acc:Str}{k:Nat}{p:Pos}{es:List Expr}(hsz:(acc++y).length<=sizeLine)(h:WJ C fr es (acc++y) ρ σ Q X):WJ C fr (.Constant (.str y) k p::es) acc ρ σ Q X:=
 DJ (yU ⟨y,rfl,hsz,h⟩)
theorem NV{e:Expr}{pos:Pos}(h:WE C fr e ρ σ (λv aM=>(∃y,v=.str y/\y.length<=sizeLine/\Q (.str y) aM)\/(∃a:Int,v=.int a/\a.natAbs.log2<1920/\Q (.str (toString a)) aM)) X):WE C fr (.FormattedValue e (-1) none pos) ρ σ Q X:=λY Z s ok=>
 PyProof.Rows.FormattedValue_plain (wV (h Y Z s ok) λv bF pv aM cn cj bq cA q=>by
  rcases q with⟨y,rfl,hs,hq⟩|⟨a,rfl,hs,hq⟩
  ·obtain⟨t,rfl⟩:=a7 cA
   exact PyProof.Rows.formatField_str (λt' tk=>(bZ bq.toks (fQ _ _) hq).le cj) hs
  ·obtain⟨t,rfl⟩:=aO cA
   exact PySem.wpAny_formatField_int hs ((bZ bq.toks (fQ _ _) hq).le cj))
theorem G1{e:Expr}{acc:Str}{pos:Pos}{es:List Expr}(h:WE C fr e ρ σ (λv aM=>(∃y,v=.str y/\(acc++y).length<=sizeLine/\WJ C fr es (acc++y) ρ aM Q X)\/(∃a:Int,v=.int a/\a.natAbs.log2<1920/\(acc++toString a).length<=sizeLine/\WJ C fr es (acc++toString a) ρ aM Q X)) X):
 WJ C fr (.FormattedValue e (-1) none pos::es) acc ρ σ Q X:=
 DJ (NV (TV.mono h (λv σ' x=>by
  rcases x with⟨y,e,hs,hq⟩|⟨a,e,h1,hs,hq⟩
  ·exact .inl ⟨y,e,by rw[PySem.strLen_append]at hs;exact aa (j1 _ _) hs,y,rfl,hs,hq⟩
  ·exact .inr ⟨a,e,h1,_,rfl,hs,hq⟩) id))
theorem y7{Qq Qr:Expr}{rest:List Expr}{pos:Pos}(h:WJ C fr (Qq::Qr::rest) Str.empty ρ σ Q X):WE C fr (.JoinedStr (Qq::Qr::rest) pos) ρ σ Q X:=λY Z s ok=>
 PyProof.Rows.JoinedStr_many (h Y Z s ok)
inductive Qs(C:Ctx)(fr:Fm)(Y Z:Zf)(ρ:b9)(Q:List (Str×PV)->St->Prop)(us:List (Value×Value))(s':Shared):Prop
 |mk (kvs:List (Str×PV)) (ws:List (Str×Value)) (σ':St) (Z':Zf) (k:fP Z Z') (ok:Ok C fr Y Z' ρ σ' s') (r:eM (gg Z') kvs ws) (c:Carries (PySem.strKind C.prog C.w) us ws) (q:Q kvs σ')
noncomputable def Tu(C:Ctx)(fr:Fm)(ks:List (Option Expr))(vs:List Expr)(pos:Pos)(ρ:b9)(σ:St)(Q:List (Str×PV)->St->Prop)(X:Prop):Prop:=
 ∀Y Z s,Ok C fr Y Z ρ σ s->wpAny C.M fr.A (evalPairs (pairTrees ks vs fr.env pos)) (Qs C fr Y Z ρ Q) (f8 C fr Y ρ X) s
theorem Kc{pos:Pos}{Q:List (Str×PV)->St->Prop}(h:Q [] σ):Tu C fr [] [] pos ρ σ Q X:=λY Z s ok=>pairTrees_nil_walk ⟨[],[],σ,Z,fP.refl _,ok,rfl,trivial,h⟩
theorem vP{k v:Expr}{ks:List (Option Expr)}{vs:List Expr}{pos:Pos}{x:Str}{Q:List (Str×PV)->St->Prop}(hk:strOf k=some x)
 (h:WE C fr v ρ σ (λpv aM=>Tu C fr ks vs pos ρ aM (λkvs bO=>Q ((x,pv)::kvs) bO) X) X):Tu C fr (some k::ks) (v::vs) pos ρ σ Q X:=λY Z s ok=>
 pairTrees_cons_walk (ow hk _ _ _ λu tk=>(wV (h Y Z _ (ok.toks (t':=tk))) λw bF pv aM cn cj bq cA q=>
  wP (q Y cn bF bq) λus cV p=>p.casesOn λkvs ws bO fb cP b1 gZ UN ii=>
   ⟨(x,pv)::kvs,(x,w)::ws,bO,fb,cj.trans cP,b1,⟨w,ws,rfl,cA.mono cP,gZ⟩,⟨strKind_is _ _ _ _,rfl,UN⟩,ii⟩))
theorem G2{keys:List (Option Expr)}{oy:List Expr}{pos:Pos}
 (h:∀d,σ d=none->Tu C fr keys oy pos ρ (σ.upd d (.ca [])) (λkvs bO=>bO d=some (.ca [])/\(kvs.map (·.1)).Nodup/\Q (.loc d) (bO.upd d (.ca kvs))) X)
 (xy:keys.all (·.isSome)=true:=by ac_rfl) (hl:keys.length=oy.length:=by ac_rfl) (h0:keys≠[]:=by exact bJ _ _) (dZ:keys.length<=15:=by decide):WE C fr (.Dict keys oy pos) ρ σ Q X:=λY Z s ok=>by
 have hn:s.heap.get? s.heap.objs.size=none:=bg (ai _)
 have Ak:(s.heap.push {cls:= .type "dict",data:= .dict #[]}).get? s.heap.objs.size=some {cls:= .type "dict",data:= .dict #[]}:=aN _ rfl
 have hx:({cls:= .type "dict",data:= .dict #[]}:Obj).ExactDict:=⟨rfl,rfl,rfl⟩
 have ok0:=ok.alloc (t':=s.toks) (c:= .ca []) hn (λb o e=>aG _ e) Ak ⟨[],rfl,#[],0,hx,rfl,λe he=>by simp at he,.nil,cX⟩
 refine wpAny_Dict_walk (knd:=PySem.strKind C.prog C.w) xy hl h0 dZ (wP (h _ (ok.none_of hn).2.2.2.2 Y Z _ ok0) λus bF p=>p.casesOn λkvs ws aM cn cj bq cA UO q=> ?_)
 obtain⟨hd,JN,q⟩:=q
 obtain⟨w0,rw0,hm⟩:=on bq hd
 cases rw0
 refine⟨ws,UO,hm,λh' Ka E3=> ?_⟩
 rw[merged_nil_of_nodup _ (by rw[cA.keys];exact JN)]at Ka
 obtain⟨o,ho,kd⟩:=KD.of Ka
 exact⟨.loc _,_,cn,cj,bq.turn hd E3 ho (c':= .ca kvs) ⟨ws,cA,kd⟩,ic _,q⟩
theorem NW(ok:Ok C fr Y Z ρ σ s){c:Addr}{v:PV}(hc:σ c=some (.var (some v))):∃w,s.heap.IsCell c (some w)/\gg Z v w:=by
 obtain⟨o,ho,w,hd,r⟩:=ok.jq c _ hc
 exact⟨w,⟨o,ho,hd⟩,r⟩
theorem Kd(F:aI C fr){x:Str}{p:Pos}{c:Addr}{v:PV}(hk:fr.env.kindOf x=some .cell)(hl:fr.cl.lookup x=some c)(hc:σ c=some (.var (some v)))(h:Q v σ)
 (hd:(x==("__debug__":Str))=false:=by decide):WE C fr (.Name x p) ρ σ Q X:=λY Z s ok=>by
 obtain⟨w,hw,r⟩:=NW ok hc
 exact wpAny_Name (wpAny_loadName_cell F.kind hk hl hw (bZ ok r h)) hd
theorem Fl(ok:Ok C fr Y Z ρ σ s){c:Addr}{v:Option PV}(hc:σ c=some (.var v)):∃w,s.heap.IsCell c w:=by
 obtain⟨o,ho,h⟩:=ok.jq c _ hc
 cases v with
 |none=>exact⟨_,o,ho,h⟩
 |some v=>obtain⟨w,hd,_⟩:=h;exact⟨_,o,ho,hd⟩
theorem y8(F:aI C fr){X:b9->Prop}{x:Str}{pv:PV}{c:Addr}{B5:Option PV}{P:b9->St->Prop}(hk:fr.env.kindOf x=some .cell)(hl:fr.cl.lookup x=some c)(hc:σ c=some (.var B5))(h:P ρ (σ.upd c (.var (some pv)))):Th C fr (storeName fr.env x) pv ρ σ P X:=by
 intro Y Z s va ok r
 obtain⟨w,hw⟩:=Fl ok hc
 refine wpAny_storeName_cell F.kind hk hl hw λh' hv hs=> ?_
 obtain⟨o',qw,Nn⟩:=hv
 exact⟨ρ,_,Z,fP.refl _,ok.turn (t':=s.toks) hc hs qw (c':= .var (some pv)) ⟨_,Nn,r⟩,h⟩
theorem vQ(F:aI C fr){N:b9->St->Prop}{R:PV->St->Prop}{J:Bool->b9->St->Prop}{X:b9->Prop}{x:Str}{e:Expr}{p p':Pos}{c:Addr}(hk:fr.env.kindOf x=some .cell)(hl:fr.cl.lookup x=some c)
 (h:WE C fr e ρ σ (λv aM=>(∃B5,aM c=some (.var B5))/\N ρ (aM.upd c (.var (some v)))) (X ρ))
 (hs:∀env,swapsWith e (some (.Name x p')) p.line env=pure false:=by with_unfolding_all(intro _;rfl)):WS C fr (.Assign [.Name x p'] e p) ρ σ N R J X:=λY Z s ok=>
 wpAny_Assign_Name (wpAny_mono (h Y Z s ok) (λv bF ⟨pv,aM,cn,cj,bq,cA,⟨B5,hc⟩,q⟩=>
  (wU (y8 (X:=X) F (P:=N) hk hl hc q Y cn bF v bq cA) λ_ cV Go bO fb cP b1 ii=>⟨Go,bO,fb,cj.trans cP,b1,ii⟩)) λ_ _ x=>x.F1) (hs _)
end
theorem jU:BM "list" "append" "list.append":=⟨F.plainAttrs_list,F.slot_list_append,F.type_list_append⟩
theorem NX:BM "list" "pop" "list.pop":=⟨F.plainAttrs_list,F.slot_list_pop,F.type_list_pop⟩
theorem DK:BM "str" "join" "str.join":=⟨jp,F.slot_str_join,F.type_str_join⟩
theorem DL:BM "str" "find" "str.find":=⟨jp,F.slot_str_find,F.type_str_find⟩
theorem G3:BM "str" "rfind" "str.rfind":=⟨jp,F.slot_str_rfind,F.type_str_rfind⟩
theorem xz:BM "str" "startswith" "str.startswith":=⟨jp,F.slot_str_startswith,F.type_str_startswith⟩
theorem bm_split:BM "str" "split" "str.split":=⟨jp,F.slot_str_split,F.type_str_split⟩
theorem G4:BM "str" "zfill" "str.zfill":=⟨jp,F.slot_str_zfill,F.type_str_zfill⟩
theorem G5:BM "dict" "get" "dict.get":=⟨F.plainAttrs_dict,F.slot_dict_get,F.type_dict_get⟩
theorem Spec.intro{C:Ctx}{F:Fn}{lv:Nat}{args:List PV}{σ:St}{Q:PV->St->Prop}{X:Prop}{b:List Stmt}{ρ:b9}(DM:F.PB args=ρ)(hb:F.body=b)
 (h:∀L outer A,aI C (F.frame L outer A lv)->iu C (F.frame L outer A lv) b ρ σ (λ_ σ'=>Q .none σ') Q (λ_ _ _=>False) (λ_=>X)):Spec C F lv args σ Q X:=λL outer A hf=>by
 rw[DM,hb];exact h L outer A hf
theorem UP{b:Bool}{P R:Prop}(h1:b=true->P)(h2:b=false->R):(b=true->P)/\(b=false->R):=⟨h1,h2⟩
theorem bn{d k lv:Nat}(h:k<=lv)(hk:d<k:=by decide):d<lv:=au hk h
section
variable{C:Ctx}{fr:Fm}{ρ:b9}{σ:St}{X:Prop}
theorem G6{l cA gZ:Expr}{NY NZ:CmpOp}{p:Pos}{Q:Bool->St->Prop}
 (h:WE C fr l ρ σ (λa aM=>WE C fr cA ρ aM (λb bO=>W2 C fr (compareOp NY) a b ρ bO (λc d0=>F3 C fr truthy c ρ d0 (λt mZ=>(t=true->WE C fr gZ ρ mZ (λd iF=>W2 C fr (compareOp NZ) b d ρ iF (λe rV=>F3 C fr truthy e ρ rV Q X) X) X)/\(t=false->Q false mZ)) X) X) X) X)
 (hm:lastMarks [NY,NZ] [cA,gZ]=false:=by ac_rfl):WT C fr (.Compare l [NY,NZ] [cA,gZ] p) ρ σ Q X:=λY Z s ok=>
 isTrue_chain (hm:=hm) (wV (h Y Z s ok) λva bF a aM cn cj bq Qt n9=>test_link (wV (n9 Y cn bF bq) λvb cV b bO fb cP b1 rb ii=>
  (wV (ii Y fb cV va vb b1 (Qt.mono cP) rb) λvc iE c d0 mv i4 dF rc rh=>(wB (rh Y mv iE vc dF rc) λt B6 mZ EY xv j6 EZ=>by
   cases t
   ·exact⟨mZ,EY,((cj.trans cP).trans i4).trans xv,j6,EZ.2 rfl⟩
   ·exact test_last (wV (EZ.1 rfl Y EY B6 j6) λvd rT d iF rj rU iz rd Nh=>(wV (Nh Y rj rT vb vd iz (rb.mono (i4.trans (xv.trans rU))) rd) λve E0 e rV JI E1 og re Ni=>
     (wP (Ni Y JI E0 ve og re) λ_ _ x=>x.le (cj.trans (cP.trans (i4.trans (xv.trans (rU.trans E1))))))))))))
end
theorem St.LN(σ:St)(a:Addr)(c:dx):(σ.upd a c).del a=σ.del a:=by
 funext b;by_cases h:b=a<;>simp[St.upd,St.del,h]
theorem St.Ja{σ:St}{a:Addr}(h:σ a=none):σ.del a=σ:=by
 funext b;unfold St.del;split
 ·rename_i e;subst e;exact h.symm
 ·rfl
theorem St.Jb(σ:St)(a:Addr):σ.del a a=none:=by simp[St.del]
theorem St.Do(σ:St){a b:Addr}(h:b≠a):σ.del a b=σ b:=by simp[St.del,h]
theorem St.jG{σ:St}{a b:Addr}{c:dx}(h:σ a=none)(h':σ b=some c):a≠b:=λe=>by subst e;rw[h]at h';cases h'
section
variable{C:Ctx}{fr:Fm}{ρ:b9}{σ:St}{N:b9->St->Prop}{R:PV->St->Prop}{J:Bool->b9->St->Prop}{X:b9->Prop}
theorem Cu(F:aI C fr){x y:Str}{e:Expr}{k:Nat}{p p' p1 p2:Pos}(i j:Nat)(hi:fr.vn[i]?=some x)(hj:fr.vn[j]?=some y)
 (h:WE C fr e ρ σ (λv aM=>∃a b,v=.tup [a,b]/\N ((ρ.set i (some a)).set j (some b)) aM) (X ρ))
 (hs:∀env,swapsWithSole [.Tuple [.Name x p1,.Name y p2] k p'] e p.line env=pure false:=by with_unfolding_all(intro _;rfl)) (hw:∀env,swappedStores [.Tuple [.Name x p1,.Name y p2] k p'] e env=pure none:=by with_unfolding_all(intro _;rfl)):
 WS C fr (.Assign [.Tuple [.Name x p1,.Name y p2] k p'] e p) ρ σ N R J X:=by
 refine lH F [i,j] (TV.mono h (λv σ' ⟨a,b,e,q⟩=>⟨[a,b],e,rfl,q⟩) id) (λn e he=> ?_) rfl (hs:=hs) (hw:=hw)
 match n,he with
 |0,he=>cases he;exact⟨_,_,_,rfl,rfl,hi⟩
 |1,he=>cases he;exact⟨_,_,_,rfl,rfl,hj⟩
 |n+2,he=>simp at he
theorem Cv(F:aI C fr){x y z:Str}{e:Expr}{k:Nat}{p p' p1 p2 p3:Pos}(i j l:Nat)(hi:fr.vn[i]?=some x)(hj:fr.vn[j]?=some y)(hl:fr.vn[l]?=some z)
 (h:WE C fr e ρ σ (λv aM=>∃a b c,v=.tup [a,b,c]/\N (((ρ.set i (some a)).set j (some b)).set l (some c)) aM) (X ρ))
 (hs:∀env,swapsWithSole [.Tuple [.Name x p1,.Name y p2,.Name z p3] k p'] e p.line env=pure false:=by with_unfolding_all(intro _;rfl)) (hw:∀env,swappedStores [.Tuple [.Name x p1,.Name y p2,.Name z p3] k p'] e env=pure none:=by with_unfolding_all(intro _;rfl)):
 WS C fr (.Assign [.Tuple [.Name x p1,.Name y p2,.Name z p3] k p'] e p) ρ σ N R J X:=by
 refine lH F [i,j,l] (TV.mono h (λv σ' ⟨a,b,c,e,q⟩=>⟨[a,b,c],e,rfl,q⟩) id) (λn e he=> ?_) rfl (hs:=hs) (hw:=hw)
 match n,he with
 |0,he=>cases he;exact⟨_,_,_,rfl,rfl,hi⟩
 |1,he=>cases he;exact⟨_,_,_,rfl,rfl,hj⟩
 |2,he=>cases he;exact⟨_,_,_,rfl,rfl,hl⟩
 |n+3,he=>simp at he
end
noncomputable section
noncomputable def fi(x:Str):List Str->Option Nat
 |[]=>none
 |y::r=>if y=x then some 0 else(fi x r).map (·+1)
theorem ik{x:Str}:∀{l:List Str} {i:Nat},fi x l=some i->l[i]?=some x
 |[],_,h=>nomatch h
 |y::r,i,h=>by
  unfold fi at h
  by_cases e:y=x
  ·rw[if_pos e]at h;cases h;rw[e];rfl
  ·rw[if_neg e]at h
   cases q:fi x r with
   |none=>rw[q]at h;cases h
   |some j=>rw[q]at h;cases h;exact(fv).trans (ik q)
noncomputable def N1:Const->Option PV
 |.int i=>some (.int i)
 |.str x=>some (.str x)
 |.bool b=>some (.bool b)
 |.none=>some .none
 |_=>none
end
section
open PySem.NumText PySem.W.KIN
noncomputable def dg(n:Nat):List Nat:=(Nat.toDigits 10 n).map Char.toNat
noncomputable def cE(v:Int):Str:=Str.ofString (toString v)
theorem G7(n:Nat):(cE (n:Int)).cps.toList=dg n:=signs_num n
theorem Az{n:Nat}(h:n<10):dg n=[48+n]:=by
 unfold dg;rw[Nat.toDigits_of_lt_base h]
 have:∀d:Nat,d<10->(Nat.digitChar d).toNat=48+d:=by decide
 simp[this n h]
theorem u9{n:Nat}(h:10<=n):dg n=dg (n/10)++[48+n%10]:=by
 have hm:n%10<10:=rL n (by decide)
 have t:Nat.toDigits 10 (n/10)++Nat.toDigits 10 (n%10)=Nat.toDigits 10 (10*(n/10)+n%10):=Nat.toDigits_append_toDigits (by decide) (by omega) hm
 rw[Nat.div_add_mod]at t
 have:dg n=dg (n/10)++dg (n%10):=by unfold dg;rw[<-t,aQ]
 rw[this,Az hm]
theorem yf(n:Nat):dg n≠[]:=by
 by_cases h:n<10
 ·rw[Az h];simp
 ·rw[u9 (by exact cu h)];simp
theorem tI(n:Nat):digitsVal (dg n)=n:=val_back n
theorem tJ(n:Nat):AllDigits (dg n):=by
 intro c hc
 obtain⟨ch,hch,e⟩:=bj.mp hc
 have r:=digit_range (Nat.isDigit_of_mem_toDigits (by decide) (by decide) hch)
 rw[<-e];exact r
noncomputable def oz:Nat->Nat->List Nat
 |0,_=>[]
 |k+1,b=>oz k (b/10)++[48+b%10]
theorem AA:∀(k b:Nat),(oz k b).length=k
 |0,_=>rfl
 |k+1,b=>by simp[oz,AA k]
theorem yg:∀k,oz k 0=List.replicate k 48
 |0=>rfl
 |k+1=>by rw[oz,show 0/10=0 from rfl,yg k,List.replicate_succ']
theorem G8{k a b:Nat}(ha:0<a):b<10^k->dg (10^k*a+b)=dg a++oz k b:=by
 induction k generalizing b with
 |zero=>
  intro hb
  cases Nat.lt_one_iff.mp hb
  simp[oz]
 |succ k ih=>
  intro hb
  have UQ:(10:Nat)^(k+1)=10^k*10:=qv 10 k
  have Ke:0<(10:Nat)^k:=Nat.pow_pos (by decide)
  have e1:10^(k+1)*a+b=10*(10^k*a+b/10)+b%10:=by rw[UQ,Nat.mul_assoc,Nat.mul_comm 10 a,<-Nat.mul_assoc];omega
  have Tv:1<=10^k*a:=Nat.mul_pos Ke ha
  rw[u9 (by exact O6 [.eq (.a (.v 0) (.v 1)) (.a (.m 10 (.a (.v 2) (.v 3))) (.v 4)),.le (.n 1) (.v 2)] (.le (.n 10) (.a (.v 0) (.v 1))) [.negSucc 0,10] (Eq.refl true) e1 Tv)]
  have e2:(10^(k+1)*a+b)/10=10^k*a+b/10:=by omega
  have e3:(10^(k+1)*a+b)%10=b%10:=by omega
  rw[e2,e3,ih (by omega),oz,aC]
theorem y9:∀(k b:Nat),b<10^(k+1)->oz (k+1) b=List.replicate (k+1-(dg b).length) 48++dg b/\(dg b).length<=k+1
 |0,b,h=>by
  have h':b<10:=by simpa using h
  rw[Az h']
  simp[oz,Nat.mod_eq_of_lt h']
 |k+1,b,h=>by
  by_cases hb:b<10
  ·rw[oz,show b/10=0 by omega,yg,Az hb,Nat.mod_eq_of_lt hb]
   simp
  ·obtain⟨e,l⟩:=y9 k (b/10) (by rw[qv]at h;omega)
   rw[oz,e,u9 (n:=b) (by exact cu hb)]
   simp only[ae,aw,p8,aC]
   exact⟨by rw[show k+1+1-((dg (b/10)).length+(0+1))=k+1-(dg (b/10)).length by exact dH (Ge [.eq (.a (.v 0) (.a (.v 1) (.a (.n 0) (.n 1)))) (.a (.a (.v 2) (.n 1)) (.n 1)),.eq (.a (.v 3) (.v 1)) (.a (.v 2) (.n 1))] (.le (.v 0) (.v 3)) [1,.negSucc 0] (Eq.refl true) (xu (mq [.le (.v 0) (.a (.v 1) (.n 1))] (.le (.a (.v 0) (.a (.n 0) (.n 1))) (.a (.a (.v 1) (.n 1)) (.n 1))) [1] (Eq.refl true) l)) (xu (mq [.le (.v 0) (.a (.v 1) (.n 1))] (.le (.v 0) (.a (.v 1) (.n 1))) [1] (Eq.refl true) l))) (Ge [.eq (.a (.v 0) (.a (.v 1) (.a (.n 0) (.n 1)))) (.a (.a (.v 2) (.n 1)) (.n 1)),.eq (.a (.v 3) (.v 1)) (.a (.v 2) (.n 1))] (.le (.v 3) (.v 0)) [.negSucc 0,1] (Eq.refl true) (xu (mq [.le (.v 0) (.a (.v 1) (.n 1))] (.le (.a (.v 0) (.a (.n 0) (.n 1))) (.a (.a (.v 1) (.n 1)) (.n 1))) [1] (Eq.refl true) l)) (xu (mq [.le (.v 0) (.a (.v 1) (.n 1))] (.le (.v 0) (.a (.v 1) (.n 1))) [1] (Eq.refl true) l)))],by exact lA l⟩
theorem Cw{k n:Nat}(h:n<10^(k+1)):(dg n).length<=k+1:=(y9 k n h).2
theorem Kf{n:Nat}(h:0<n):∃c cs,dg n=c::cs/\c≠48:=by
 induction n using Nat.strongRecOn with
 |_ n ih=>
  by_cases hn:n<10
  ·exact⟨48+n,[],Az hn,by exactλe=>(rf [.lt (.n 0) (.v 0),.eq (.a (.n 48) (.v 0)) (.n 48)] (.ff) [1,1] (Eq.refl true) h e).elim⟩
  ·obtain⟨c,cs,e,hc⟩:=ih (n/10) (by omega) (by omega)
   exact⟨c,cs++[48+n%10],by rw[u9 (by exact cu hn),e];rfl,hc⟩
noncomputable def gz:Nat->List (List Nat):=(measure id).wf.fix λn r=>if h:1000000000000000000<=n then oz 18 (n%1000000000000000000)::r (n/1000000000000000000) (Nat.div_lt_self (au (by decide) h) (by decide))else[dg n]
theorem mD(n:Nat):gz n=if 1000000000000000000<=n then oz 18 (n%1000000000000000000)::gz (n/1000000000000000000)else[dg n]:=WellFounded.fix_eq _ _ _
theorem um(n:Nat):(gz n).reverse.flatten=dg n:=by
 induction n using Nat.strongRecOn with
 |_ n ih=>
  rw[mD]
  split
  ·rename_i h
   rw[List.reverse_cons,List.flatten_append,ih (n/1000000000000000000) (by omega)]
   have hb:n%1000000000000000000<10^18:=rL _ (by decide)
   have:=G8 (k:=18) (a:=n/1000000000000000000) (b:=n%1000000000000000000) (by omega) hb
   rw[show(10:Nat)^18=1000000000000000000 from rfl,Nat.div_add_mod]at this
   rw[this];simp
  ·simp
theorem Cy{k:Nat}:∀n,n<10^(18*(k+1))->(gz n).length<=k+1:=by
 induction k with
 |zero=>
  intro n h
  have e:(10:Nat)^(18*(0+1))=1000000000000000000:=rfl
  rw[mD,if_neg (Nat.not_le.mpr h)];simp
 |succ k ih=>
  intro n h
  rw[mD]
  split
  ·have:n/1000000000000000000<10^(18*(k+1)):=by
    rw[Nat.div_lt_iff_lt_mul (by decide)]
    have:(10:Nat)^(18*(k+1+1))=10^(18*(k+1))*1000000000000000000:=by
     rw[show 18*(k+1+1)=18*(k+1)+18 by exact rfl,Nat.pow_add]
    omega
   simpa using ih _ this
  ·simp
noncomputable abbrev L(x:Str):List Nat:=x.cps.toList
noncomputable def mk(l:List Nat):Str:=⟨l.toArray⟩
@[simp]theorem c8 (l:List Nat):L (mk l)=l:=by simp[L,mk]
@[simp]theorem fE (x:Str):mk (L x)=x:=by simp[L,mk]
theorem oF{x y:Str}(h:L x=L y):x=y:=by rw[<-fE x,<-fE y,h]
theorem rA{a b:List Nat}:mk a=mk b↔a=b:=⟨λh=>by rw[<-c8 a,<-c8 b,h],λh=>by rw[h]⟩
@[simp]theorem lL (x y:Str):L (x++y)=L x++L y:=by show(Str.append x y).cps.toList=_;simp[Str.append]
theorem lM(a b:List Nat):mk a++mk b=mk (a++b):=oF (by simp)
@[simp]theorem gA (x:Str):(L x).length=x.length:=Array.length_toList
@[simp]theorem d8 (l:List Nat):(mk l).length=l.length:=by rw[<-gA,c8]
theorem fx(n:Nat):L (cE (n:Int))=dg n:=G7 n
theorem za(n:Nat):cE (n:Int)=mk (dg n):=oF (by rw[fx,c8])
theorem se(n:Nat)(h:0<n):cE (-(n:Int))=mk (45::dg n):=by
 obtain⟨m,rfl⟩:∃m,n=m+1:=⟨n-1,by exact dH (mq [.eq (.a (.v 0) (.n 1)) (.v 1)] (.le (.v 1) (.a (.v 0) (.n 1))) [.negSucc 0] (Eq.refl true) (xu (rf [.lt (.n 0) (.v 0)] (.le (.n 1) (.v 0)) [1] (Eq.refl true) h))) (mq [.eq (.a (.v 0) (.n 1)) (.v 1)] (.le (.a (.v 0) (.n 1)) (.v 1)) [1] (Eq.refl true) (xu (rf [.lt (.n 0) (.v 0)] (.le (.n 1) (.v 0)) [1] (Eq.refl true) h)))⟩
 refine oF ?_
 rw[c8]
 show(Str.ofString (toString (Int.negSucc m))).cps.toList=_
 rw[signs_ofString]
 show("-"++Nat.repr (m+1)).toList.map Char.toNat=_
 rw[String.toList_append,aQ,Nat.toList_repr]
 rfl
noncomputable def cI(tn:List Nat):List (List Nat)->List Nat
 |[]=>[]
 |[x]=>x
 |x::y::r=>x++tn++cI tn (y::r)
theorem G9(tn:Str):∀l:List Str,L (Txt.join tn l)=cI (L tn) (l.map L):=by
 intro l
 show L (Builtin.Str.glued tn l)=_
 rw[StrLaws.glued_eq_join]
 induction l with
 |nil=>rfl
 |cons x l ih=>cases l with
  |nil=>rfl
  |cons y r=>show L (x++tn++Str.join tn (y::r))=_;rw[lL,lL,ih];rfl
theorem sf(tn:List Nat)(l:List (List Nat)):Txt.join (mk tn) (l.map mk)=mk (cI tn l):=oF (by
 rw[G9,c8,c8,b3];congr 1;conv=>rhs;rw[<-List.map_id l]
 apply ef;intro a _;simp)
theorem lN:∀l,cI [] l=l.flatten
 |[]=>rfl
 |[x]=>by simp[cI]
 |x::y::r=>by simp[cI,lN (y::r)]
theorem joinOk_of{tn:Str}{l:List Str}(h:(l.map (·.length)).sum+l.length*tn.length<=sizeLine):JoinOk tn l=true:=by
 unfold JoinOk Builtin.Str.tooLong
 rw[StrLaws.joinTotal]
 simpa using h
theorem zb{k:Nat}:∀{l:List Nat},(∀x∈l,x<=k)->l.sum<=l.length*k
 |[],_=>by simp
 |x::l,h=>by
  have:=zb (l:=l) λy hy=>h y (aK _ hy)
  have h0:=h x az
  rw[List.sum_cons,aw,lB];exact Ge [.le (.v 0) (.v 1),.le (.v 2) (.v 3)] (.le (.a (.v 2) (.v 0)) (.a (.v 1) (.v 3))) [1,1] (Eq.refl true) this h0
theorem lR{tn:Str}{l:List Str}(k:Nat)(h:∀x∈l,x.length<=k)(hs:l.length*k+l.length*tn.length<=sizeLine):JoinOk tn l=true:=by
 refine joinOk_of ?_
 have:=zb (k:=k) (l:=l.map (·.length)) (by intro x hx;obtain⟨y,hy,rfl⟩:=bj.mp hx;exact h y hy)
 rw[af]at this
 exact Ge [.le (.a (.v 0) (.v 1)) (.v 2),.le (.v 3) (.v 0)] (.le (.a (.v 3) (.v 1)) (.v 2)) [1,1] (Eq.refl true) hs this
theorem Fo{m:Nat}(h:m<1000000000000000000):Txt.zfill (cE (m:Int)) 18=mk (oz 18 m):=by
 obtain⟨e,l⟩:=y9 17 m h
 have hl:(cE (m:Int)).length=(dg m).length:=by rw[<-gA,fx]
 refine oF ?_
 rw[c8,e]
 unfold Txt.zfill
 split
 ·rename_i q
  rw[hl]at q
  rw[show 17+1-(dg m).length=0 by exact dH (mq [.BX (.n 18) (.c (.v 0)),.eq (.a (.v 1) (.v 0)) (.a (.n 17) (.n 1))] (.le (.v 1) (.n 0)) [1,1] (Eq.refl true) q (xu (rf [.le (.v 0) (.a (.n 17) (.n 1))] (.le (.v 0) (.a (.n 17) (.n 1))) [1] (Eq.refl true) l))) (rf [] (.le (.n 0) (.v 0)) [] (Eq.refl true)),fx];simp
 ·rename_i q
  have:zfilled (cE (m:Int)) ((18:Int).toNat-(cE (m:Int)).length)=Builtin.Str.padded (cE (m:Int)) ((18:Int).toNat-(cE (m:Int)).length) 0 48:=by
   unfold zfilled
   split
   ·rename_i q2
    have:(dg m)[0]?=some 43:=by rw[<-fx];simpa using q2
    have:=tJ m 43 (aD this);exact absurd this.1 (by decide)
   ·rename_i q2
    have:(dg m)[0]?=some 45:=by rw[<-fx];simpa using q2
    have:=tJ m 45 (aD this);exact absurd this.1 (by decide)
   ·rfl
  rw[this,hl]
  show(Builtin.Str.padded (cE (m:Int)) (18-(dg m).length) 0 48).cps.toList=_
  have e2:=fx m
  simp[Builtin.Str.padded]at e2⊢
  exact e2
section
variable{C:Ctx}{fr:Fm}{ρ:b9}{σ:St}{Q:PV->St->Prop}{X:Prop}
theorem Hb(h:Q (.int 1000000000000000000) σ):W2 C fr (binaryOp .Pow) (.int 10) (.int 18) ρ σ Q X:=Ag (by decide) (by decide) h
theorem AB{n:Nat}(h:Q (.tup [.int ((n/1000000000000000000:Nat):Int),.int ((n%1000000000000000000:Nat):Int)]) σ):WN C fr (λvs=>call (.builtin "divmod") vs) [.int (n:Int),.int 1000000000000000000] ρ σ Q X:=
 E6 (by decide) (by decide) (by rw[Int.natCast_ediv,Int.natCast_emod]at h;exact h)
end
theorem i8{m:Nat}(h:m<1000000000000000000):m.log2<1920:=by
 by_cases h0:m=0
 ·subst h0;decide
 ·have:m.log2<60:=(Nat.log2_lt h0).mpr (by exact aa h (by decide))
  exact aa this (by decide)
noncomputable def dG(v:Int):Prop:=(gz v.natAbs).length<=8
theorem chunk_len:∀n,∀x∈gz n,x.length<=18:=by
 intro n
 induction n using Nat.strongRecOn with
 |_ n ih=>
  rw[mD]
  split
  ·intro x hx
   rcases ak.mp hx with rfl|hx
   ·rw[AA];exact ai _
   ·exact ih _ (by omega) x hx
  ·rename_i h
   intro x hx
   rw[am.mp hx]
   exact Cw (k:=17) (Nat.lt_of_not_le h)
noncomputable def eV(v:Int):List (List Nat):=gz v.natAbs++if v<0 then[[45]]else[]
theorem uo(v:Int):cI [] (eV v).reverse=L (cE v):=by
 rw[lN,eV,List.reverse_append,List.flatten_append,um]
 by_cases h:v<0
 ·obtain⟨n,rfl⟩:∃n:Nat,v= -(n:Int):=⟨v.natAbs,by omega⟩
  rw[if_pos h,se n (by exact rf [.BO (.g (.c (.v 0))) (.n 0)] (.lt (.n 0) (.v 0)) [1] (Eq.refl true) h),c8,Int.natAbs_neg,eZ];rfl
 ·obtain⟨n,rfl⟩:=dj (eX.mp h)
  rw[if_neg h,fx];simp
theorem yh{v:Int}(h:dG v):JoinOk (Str.ofString "") ((eV v).map mk).reverse=true:=by
 refine lR 18 (λx hx=> ?_) ?_
 ·rw[List.mem_reverse]at hx
  obtain⟨y,hy,rfl⟩:=bj.mp hx
  rw[d8]
  unfold eV at hy
  rcases bC.mp hy with hy|hy
  ·exact chunk_len _ y hy
  ·split at hy
   ·rw[am.mp hy];decide
   ·cases hy
 ·have e:(eV v).length<=101:=by
   unfold eV dG at*
   rw[ae]
   have:(if v<0 then[[45]]else([]:List (List Nat))).length<=1:=by split<;>simp
   exact aa (bB h this) (by decide)
  have e2:(Str.ofString "").length=0:=by decide
  have e3:sizeLine=16777216:=by decide
  rw[List.length_reverse,af,e2,e3];omega
end
noncomputable def iB(σ:St)(ov:PV):Prop:=∃T,(T="list"\/T="dict"\/T="str"\/T="tuple")/\O8 σ ov=some T
section
variable{C:Ctx}{fr:Fm}{ρ:b9}{σ:St}{Q:PV->St->Prop}{X:Prop}
theorem iB.tup{xs:List PV}:iB σ (.tup xs):=⟨_,.inr (.inr (.inr rfl)),rfl⟩
theorem iB.list{l:Addr}{xs:List PV}(h:σ l=some (.list xs)):iB σ (.loc l):=⟨_,.inl rfl,congrArg (Option.bind · dx.ty) h⟩
theorem gB{o i:Expr}{pos:Pos}(h:WE C fr o ρ σ (λov aM=>WE C fr i ρ aM (λiv bO=>iB bO ov/\W2 C fr getItem ov iv ρ bO Q X) X) X)
 (hs:∀ov iv,subscripted i false ov iv=operate [ov,iv] (getItem ov iv):=by with_unfolding_all(intros;rfl)):WE C fr (.Subscript o i pos) ρ σ Q X:=λY Z s ok=>by
 rw[arm_eval_Subscript]
 refine wpAny_bind (wV (h Y Z s ok) λov bF a aM cn cj bq cA fM=>wpAny_bind (wpAny_holding (wpAny_mono (fM Y cn bF bq) (λiv cV ⟨b,bO,fb,cP,b1,gZ,⟨T,hT,hp⟩,gt⟩=>wpAny_bind (wpAny_standAt ?_)) λ_ _ x=>x)))
 obtain⟨PZ,_⟩:=Cd hp b1 (cA.mono cP)
 obtain⟨id,hl⟩:=oj hT
 refine wpAny_bind ?_
 rw[getitemInPython_of_ne PZ.not_modules]
 refine wpAny_bind (wpAny_specialOf PZ hl ?_)
 refine wpAny_pure ?_
 rw[hs]
 refine wpAny_bind (wpAny_operating (wP (gt Y fb cV ov iv b1 (cA.mono cP) gZ) λr iE x=>wpAny_bind (tz (wpAny_pure (x.le (cj.trans cP))))))
theorem Kg{x:Str}{b:Int}{c:Nat}(h0:0<=b)(h1:b<2^62)(hc:(L x)[b.toNat]?=some c)(h:Q (.str (mk [c])) σ):W2 C fr getItem (.str x) (.int b) ρ σ Q X:=by
 obtain⟨n,rfl⟩:=dj h0
 have O9:(L x)[n]?=some c:=hc
 have eP:n<x.length:=by rw[<-gA];exact(aj.mp O9).1
 refine GC (c:=c) ?_ ?_ h
 ·unfold fitsSsize
  have e1:decide ((n:Int)< -(2^63:Int))=false:=decide_eq_false (by exact rf [.BX (.n 0) (.c (.v 0))] (.no (.BO (.c (.v 0)) (.g (.n 9223372036854775808)))) [1] (Eq.refl true) h0)
  have e2:decide ((n:Int)>=2^63)=false:=decide_eq_false (by exact rf [.BO (.c (.v 0)) (.n 4611686018427387904)] (.no (.BX (.n 9223372036854775808) (.c (.v 0)))) [1] (Eq.refl true) h1)
  rw[e1,e2];rfl
 ·unfold seqIndex?
  have:¬((n:Int)<0):=by exact eX.mpr h0
  simp only[this,if_false]
  have h3:¬((n:Int)<0\/(n:Int)>=x.length):=by omega
  simp[eP]
  simpa using O9
theorem Kh{c:Nat}(h:Q (.int c) σ):WN C fr (λvs=>call (.builtin "ord") vs) [.str (mk [c])] ρ σ Q X:=Nv h
theorem Ki{a:Int}(h0:0<=a)(h1:a<=1114111)(h:Q (.str (mk [a.toNat])) σ):WN C fr (λvs=>call (.builtin "chr") vs) [.int a] ρ σ Q X:=Nw h0 h1 h
end
theorem Hc{b:Bool}{P R:Prop}(hb:b=true)(h:P):(b=true->P)/\(b=false->R):=And.intro (λ_=>h) (λe=>by rw[hb]at e;exact absurd e (by decide))
theorem Hd{b:Bool}{P R:Prop}(hb:b=false)(h:R):(b=true->P)/\(b=false->R):=And.intro (λe=>by rw[hb]at e;exact absurd e (by decide)) (λ_=>h)
section
variable{C:Ctx}{fr:Fm}{ρ:b9}{σ:St}{N:b9->St->Prop}{R:PV->St->Prop}{X:b9->Prop}
theorem He(F:aI C fr){i:Nat}{xs:List PV}{body:List Stmt}(Inv:Nat->b9->St->Prop)(h0:Inv 0 ρ σ)
 (step:∀k pv ρ' σ',xs[k]?=some pv->Inv k ρ' σ'->iu C fr body (ρ'.set i (some pv)) σ' (Inv (k+1)) R (λb z8 oh=>if b then N z8 oh else Inv (k+1) z8 oh) X)
 (qr:∀ρ' σ',Inv xs.length ρ' σ'->N ρ' σ'):Gv C fr (.tup xs) i body ρ σ N R X:=
 ⟨_,σ,id,Gx F xs,Inv,h0,step,qr⟩
end
theorem ie(x y:Str):(x++y).length=x.length+y.length:=by rw[<-gA,lL,ae,gA,gA]
theorem qe:Str.empty.length=0:=rfl
theorem vf{n k:Nat}(h:n<10^(k+1)):(Str.ofString (toString (n:Int))).length<=k+1:=by
 have:=Cw h;rw[<-fx,gA]at this;exact this
theorem g8:sizeLine=16777216:=by ac_rfl
noncomputable abbrev eh:Program:=PySem.Challenge.pw_no0172_01
noncomputable section
noncomputable def aY(i:Nat):Stmt:=(eh.main.body[i]?).getD (.Pass ⟨0,0,0,0⟩)
noncomputable def N2{α:Type}(d:α)(fd:List Stmt->Scope->α)(cd:List Stmt->α)(st:Stmt):α:=
 Stmt.casesOn (motive_2:=λ_=>α) st (λ_ _ b _ _ _ sc _ _ _=>fd b sc) (λ_ _ _ _ _ _ _ _ _ _=>d) (λ_ _ _ b _ _ _ _ _ _ _=>cd b) (λ_ _=>d) (λ_ _=>d) (λ_ _ _=>d) (λ_ _ _ _ _ _ _=>d) (λ_ _ _ _=>d) (λ_ _ _ _ _=>d) (λ_ _ _ _ _=>d) (λ_ _ _ _ _=>d) (λ_ _ _ _=>d) (λ_ _ _ _=>d) (λ_ _ _=>d) (λ_ _ _=>d) (λ_ _ _=>d)
  (λ_ _ _=>d) (λ_ _ _ _ _=>d) (λ_ _ _ _ _=>d) (λ_ _ _=>d) (λ_ _=>d) (λ_ _ _ _=>d) (λ_ _=>d) (λ_ _=>d) (λ_ _=>d) (λ_=>d) (λ_=>d) (λ_=>d)
noncomputable def dw(i j:Nat):Stmt:=N2 (aY i) (λ_ _=>aY i) (λb=>(b[j]?).getD (.Pass ⟨0,0,0,0⟩)) (aY i)
noncomputable def bP:Stmt->List Stmt:=N2 [] (λb _=>b) λ_=>[]
noncomputable def bo:Stmt->Scope:=N2 {kind:= .function,names:=[],isGenerator:=false,isCoroutine:=false,more:=[]} (λ_ sc=>sc) λ_=>{kind:= .function,names:=[],isGenerator:=false,isCoroutine:=false,more:=[]}
noncomputable def fF:Fn:=⟨49,"LinkFault.__init__",bo (dw 3 0),.ref 48,["self","what"],2,bP (dw 3 0)⟩
noncomputable def kS:Fn:=⟨61,"fixed_atoms",bo (aY 4),.ref 60,[],0,bP (aY 4)⟩
noncomputable def i9:Fn:=⟨68,"fixed_functors",bo (aY 5),.ref 67,[],0,bP (aY 5)⟩
noncomputable def iJ:Fn:=⟨82,"Symbols.__init__",bo (dw 6 0),.ref 81,["self","text","row"],1,bP (dw 6 0)⟩
noncomputable def gC:Fn:=⟨89,"Symbols.atom",bo (dw 6 1),.ref 88,["self","text","found","number"],2,bP (dw 6 1)⟩
noncomputable def gD:Fn:=⟨96,"Symbols.text",bo (dw 6 2),.ref 95,["self","number"],2,bP (dw 6 2)⟩
noncomputable def fn:Fn:=⟨103,"Symbols.functor",bo (dw 6 3),.ref 102,["self","atom","arity","key","found","number"],3,bP (dw 6 3)⟩
noncomputable def gF:Fn:=⟨110,"Symbols.func",bo (dw 6 4),.ref 109,["self","text","arity"],3,bP (dw 6 4)⟩
noncomputable def gG:Fn:=⟨117,"Symbols.name",bo (dw 6 5),.ref 116,["self","functor"],2,bP (dw 6 5)⟩
noncomputable def f9:Fn:=⟨124,"Symbols.arity",bo (dw 6 6),.ref 123,["self","functor"],2,bP (dw 6 6)⟩
noncomputable def j8:Fn:=⟨166,"is_digit",bo (aY 10),.ref 165,["code"],1,bP (aY 10)⟩
noncomputable def ja:Fn:=⟨173,"is_small",bo (aY 11),.ref 172,["code"],1,bP (aY 11)⟩
noncomputable def iL:Fn:=⟨180,"is_capital",bo (aY 12),.ref 179,["code"],1,bP (aY 12)⟩
noncomputable def fS:Fn:=⟨187,"is_alnum",bo (aY 13),.ref 186,["code"],1,bP (aY 13)⟩
noncomputable def de:Fn:=⟨194,"number_text",bo (aY 14),.ref 193,["value","rest","pieces","piece"],1,bP (aY 14)⟩
noncomputable def cq:Fn:=⟨201,"is_alnum_name",bo (aY 15),.ref 200,["text","char"],1,bP (aY 15)⟩
noncomputable def oG:Fn:=⟨208,"shapes",bo (aY 17),.ref 207,[],0,bP (aY 17)⟩
noncomputable def j9:Fn:=⟨215,"is_whole",bo (aY 18),.ref 214,["value"],1,bP (aY 18)⟩
noncomputable def lT:Fn:=⟨222,"is_pair",bo (aY 19),.ref 221,["value"],1,bP (aY 19)⟩
noncomputable def eH:Fn:=⟨229,"is_register",bo (aY 20),.ref 228,["value","names"],2,bP (aY 20)⟩
noncomputable def eI:Fn:=⟨236,"is_constant",bo (aY 21),.ref 235,["value"],1,bP (aY 21)⟩
noncomputable def iM:Fn:=⟨243,"is_functor",bo (aY 22),.ref 242,["value"],1,bP (aY 22)⟩
noncomputable def ji:Fn:=⟨250,"is_target",bo (aY 23),.ref 249,["value","linked"],2,bP (aY 23)⟩
noncomputable def ka:Fn:=⟨257,"is_key",bo (aY 24),.ref 256,["value","kind"],2,bP (aY 24)⟩
noncomputable def cF:Fn:=⟨264,"is_table",bo (aY 25),.ref 263,["value","kind","linked","key","pair"],3,bP (aY 25)⟩
noncomputable def fq:Fn:=⟨271,"is_operand",bo (aY 26),.ref 270,["value","kind","linked"],3,bP (aY 26)⟩
noncomputable def dU:Fn:=⟨278,"check_row",bo (aY 27),.ref 277,["table","ins","linked","name","kinds","place"],3,bP (aY 27)⟩
noncomputable def dh:Fn:=⟨285,"code_digits",bo (aY 28),.ref 284,["code","figures","text"],1,bP (aY 28)⟩
noncomputable def b8:Fn:=⟨292,"quoted_name",bo (aY 29),.ref 291,["text","parts","sign"],1,bP (aY 29)⟩
noncomputable def dW:Fn:=⟨299,"read_code",bo (aY 30),.ref 298,["digits","figures","value","sign","figure"],1,bP (aY 30)⟩
noncomputable def aH:Fn:=⟨306,"unquoted_name",bo (aY 31),.ref 305,["word","inner","parts","place","end","text"],1,bP (aY 31)⟩
noncomputable def fk:Fn:=⟨313,"constant_text",bo (aY 32),.ref 312,["symbols","cell"],2,bP (aY 32)⟩
noncomputable def gH:Fn:=⟨320,"functor_text",bo (aY 33),.ref 319,["symbols","functor"],2,bP (aY 33)⟩
noncomputable def bT:Fn:=⟨327,"table_words",bo (aY 34),.ref 326,["symbols","table","kind","words","key","text"],3,bP (aY 34)⟩
noncomputable def aU:Fn:=⟨334,"instruction_words",bo (aY 35),.ref 333,["symbols","ins","kinds","words","place","kind","value","word"],3,bP (aY 35)⟩
noncomputable def dK:Fn:=⟨342,"listing",bo (aY 36),.ref 341,["symbols","instrs","base","table","rows","place","ins"],3,bP (aY 36)⟩
noncomputable def eJ:Fn:=⟨349,"split_row",bo (aY 37),.ref 348,["row","words","word"],1,bP (aY 37)⟩
noncomputable def bK:Fn:=⟨356,"read_count",bo (aY 38),.ref 355,["word","sign","value","place","piece"],1,bP (aY 38)⟩
noncomputable def cz:Fn:=⟨363,"read_constant",bo (aY 39),.ref 362,["symbols","word","value"],2,bP (aY 39)⟩
noncomputable def fG:Fn:=⟨370,"read_functor",bo (aY 40),.ref 369,["symbols","word","place","atom"],2,bP (aY 40)⟩
noncomputable def ct:Fn:=⟨377,"read_register",bo (aY 41),.ref 376,["word"],1,bP (aY 41)⟩
noncomputable def aE:Fn:=⟨384,"read_table",bo (aY 42),.ref 383,["symbols","words","place","kind","table","word","cut","key"],4,bP (aY 42)⟩
noncomputable def fH:Fn:=⟨391,"read_operand",bo (aY 43),.ref 390,["symbols","word","kind"],3,bP (aY 43)⟩
noncomputable def aq:Fn:=⟨398,"read_instruction",bo (aY 44),.ref 397,["symbols","words","table","parts","place","kind","pair","ins"],3,bP (aY 44)⟩
noncomputable def a8:Fn:=⟨405,"read_listing",bo (aY 45),.ref 404,["symbols","rows","table","instrs","base","place","words","address"],2,bP (aY 45)⟩
noncomputable def cG:Fn:=⟨412,"_law_pool",bo (aY 47),.ref 411,["script","figures","mix","cell","whole","rest","step"],1,bP (aY 47)⟩
noncomputable def jb:Fn:=⟨419,"_law_pick",bo (aY 48),.ref 418,["pool","bound","figure"],2,bP (aY 48)⟩
noncomputable def gI:Fn:=⟨426,"_law_kinds",bo (aY 49),.ref 425,[],0,bP (aY 49)⟩
noncomputable def ge:Fn:=⟨433,"_law_functor",bo (aY 50),.ref 432,["pool","world","book","names","wholes"],2,bP (aY 50)⟩
noncomputable def dz:Fn:=⟨440,"_law_constant",bo (aY 51),.ref 439,["pool","world","book","names","wholes","whole"],2,bP (aY 51)⟩
noncomputable def be:Fn:=⟨447,"_law_operand",bo (aY 52),.ref 446,["pool","world","kind","letter","table","step","key"],3,bP (aY 52)⟩
noncomputable def bU:Fn:=⟨454,"_law_spoiled",bo (aY 53),.ref 453,["pool","rows","way","place","words"],3,bP (aY 53)⟩
end
structure PO(C:Ctx)(K:Frag)(bL bM:ClassData):Prop where
 G:dr C
 lU:FnAt C fF
 qz:FnAt C kS
 qA:C.mg "fixed_atoms"=some (.ref kS.f)
 lV:FnAt C i9
 lY:C.mg "fixed_functors"=some (.ref i9.f)
 oH:FnAt C iJ
 gJ:FnAt C gC
 oJ:FnAt C gD
 gq:FnAt C fn
 kc:FnAt C gF
 oK:FnAt C gG
 m7:FnAt C f9
 vR:FnAt C j8
 vS:C.mg "is_digit"=some (.ref j8.f)
 rB:FnAt C ja
 rC:C.mg "is_small"=some (.ref ja.f)
 sg:FnAt C iL
 si:C.mg "is_capital"=some (.ref iL.f)
 vT:FnAt C fS
 vU:C.mg "is_alnum"=some (.ref fS.f)
 qB:FnAt C de
 qC:C.mg "number_text"=some (.ref de.f)
 m8:FnAt C cq
 m9:C.mg "is_alnum_name"=some (.ref cq.f)
 AC:FnAt C oG
 AD:C.mg "shapes"=some (.ref oG.f)
 vV:FnAt C j9
 vW:C.mg "is_whole"=some (.ref j9.f)
 yi:FnAt C lT
 yj:C.mg "is_pair"=some (.ref lT.f)
 qD:FnAt C eH
 qE:C.mg "is_register"=some (.ref eH.f)
 qF:FnAt C eI
 qG:C.mg "is_constant"=some (.ref eI.f)
 sj:FnAt C iM
 so:C.mg "is_functor"=some (.ref iM.f)
 ur:FnAt C ji
 uv:C.mg "is_target"=some (.ref ji.f)
 AE:FnAt C ka
 AF:C.mg "is_key"=some (.ref ka.f)
 vX:FnAt C cF
 vY:C.mg "is_table"=some (.ref cF.f)
 sq:FnAt C fq
 ss:C.mg "is_operand"=some (.ref fq.f)
 uw:FnAt C dU
 ux:C.mg "check_row"=some (.ref dU.f)
 qH:FnAt C dh
 qI:C.mg "code_digits"=some (.ref dh.f)
 qJ:FnAt C b8
 qK:C.mg "quoted_name"=some (.ref b8.f)
 uy:FnAt C dW
 uz:C.mg "read_code"=some (.ref dW.f)
 na:FnAt C aH
 nb:C.mg "unquoted_name"=some (.ref aH.f)
 nc:FnAt C fk
 ng:C.mg "constant_text"=some (.ref fk.f)
 oU:FnAt C gH
 oY:C.mg "functor_text"=some (.ref gH.f)
 qL:FnAt C bT
 qM:C.mg "table_words"=some (.ref bT.f)
 jy:FnAt C aU
 jz:C.mg "instruction_words"=some (.ref aU.f)
 yk:FnAt C dK
 ym:C.mg "listing"=some (.ref dK.f)
 uA:FnAt C eJ
 uB:C.mg "split_row"=some (.ref eJ.f)
 su:FnAt C bK
 sw:C.mg "read_count"=some (.ref bK.f)
 nh:FnAt C cz
 ni:C.mg "read_constant"=some (.ref cz.f)
 o0:FnAt C fG
 o6:C.mg "read_functor"=some (.ref fG.f)
 nn:FnAt C ct
 nq:C.mg "read_register"=some (.ref ct.f)
 sy:FnAt C aE
 sA:C.mg "read_table"=some (.ref aE.f)
 o7:FnAt C fH
 o8:C.mg "read_operand"=some (.ref fH.f)
 ke:FnAt C aq
 kg:C.mg "read_instruction"=some (.ref aq.f)
 o9:FnAt C a8
 pb:C.mg "read_listing"=some (.ref a8.f)
 vZ:FnAt C cG
 v8:C.mg "_law_pool"=some (.ref cG.f)
 v9:FnAt C jb
 wa:C.mg "_law_pick"=some (.ref jb.f)
 uC:FnAt C gI
 uD:C.mg "_law_kinds"=some (.ref gI.f)
 qN:FnAt C ge
 qO:C.mg "_law_functor"=some (.ref ge.f)
 pd:FnAt C dz
 pe:C.mg "_law_constant"=some (.ref dz.f)
 qP:FnAt C be
 qQ:C.mg "_law_operand"=some (.ref be.f)
 qR:FnAt C bU
 qS:C.mg "_law_spoiled"=some (.ref bU.f)
 Me:C.mg "CON"=some (.int 4 374)
 Mf:C.mg "INT"=some (.int 5 376)
 yn:C.mg "Symbols"=some (.ref 155)
 pf:C.mg "LinkFault"=some (.ref C.lf)
 Mg:C.mg "abs"=none
 Mh:C.mb "abs"=some (.builtin "abs")
 Hf:C.mg "chr"=none
 Hg:C.mb "chr"=some (.builtin "chr")
 AG:C.mg "divmod"=none
 AH:C.mb "divmod"=some (.builtin "divmod")
 sB:C.mg "isinstance"=none
 sC:C.mb "isinstance"=some (.builtin "isinstance")
 sD:C.mg "len"=none
 sE:C.mb "len"=some (.builtin "len")
 m_ord:C.mg "ord"=none
 Mi:C.mb "ord"=some (.builtin "ord")
 Hh:C.mg "bool"=none
 Hi:C.mb "bool"=some (.type "bool")
 wb:C.mg "dict"=none
 wc:C.mb "dict"=some (.type "dict")
 DN:C.mg "int"=none
 DO:C.mb "int"=some (.type "int")
 zd:C.mg "range"=none
 ze:C.mb "range"=some (.type "range")
 wd:C.mg "reversed"=none
 we:C.mb "reversed"=some (.type "reversed")
 DP:C.mg "str"=none
 DQ:C.mb "str"=some (.type "str")
 sF:C.mg "tuple"=none
 sG:C.mb "tuple"=some (.type "tuple")
 hX:K.In C.B
 oS:x7 K 155 bL
 oL:y6 K C.lf bM
 DR:takerIn K C.lf "what"=some none
 exc:y5 C fF
 sH:findIn K (.ref 155) "texts"=some none
 AI:takerIn K 155 "texts"=some none
 ju:findIn K (.ref 155) "atom_numbers"=some none
 nr:takerIn K 155 "atom_numbers"=some none
 jj:findIn K (.ref 155) "functors"=some none
 uE:takerIn K 155 "functors"=some none
 il:findIn K (.ref 155) "functor_numbers"=some none
 kh:takerIn K 155 "functor_numbers"=some none
 DS:findIn K (.ref 155) "__init__"=some (some (.ref iJ.f))
 DT:typeIn K (.ref iJ.f)=some (.type "function")
 sI:findIn K (.ref 155) "atom"=some (some (.ref gC.f))
 sJ:typeIn K (.ref gC.f)=some (.type "function")
 DU:findIn K (.ref 155) "text"=some (some (.ref gD.f))
 DV:typeIn K (.ref gD.f)=some (.type "function")
 mE:findIn K (.ref 155) "functor"=some (some (.ref fn.f))
 mF:typeIn K (.ref fn.f)=some (.type "function")
 zg:findIn K (.ref 155) "func"=some (some (.ref gF.f))
 zh:typeIn K (.ref gF.f)=some (.type "function")
 DW:findIn K (.ref 155) "name"=some (some (.ref gG.f))
 DX:typeIn K (.ref gG.f)=some (.type "function")
 AJ:findIn K (.ref 155) "arity"=some (some (.ref f9.f))
 AK:typeIn K (.ref f9.f)=some (.type "function")
 Zz:makesIn K 155=true
 Qu:∃n q NN bs bm hdct sn sub ab col dd k0 k1 k2 k3 k5 Tm,C.B.get? 155=some (excClassObj n q 155 NN bs bm hdct sn sub ab col dd k0 k1 k2 k3 k5 Tm)
noncomputable def Hj:Stmt->Arguments
 |.FunctionDef _ a _ _ _ _ _ _ _ _=>a
 |_=>⟨[],[],none,[],[],none,[]⟩
noncomputable section
noncomputable abbrev jV(x:Str)(n:Nat):Value:= .str x n
noncomputable abbrev jK(P:Params)(x:Str)(n:Nat)(v:Value):DictEntry:=⟨PyData.keyHash P x,.str x n,v⟩
noncomputable def jT(a:Array Value):Obj:=⟨.type "tuple",none,.seq a 0,#[]⟩
noncomputable def jF(a:Array Value):Obj:=⟨.none,none,.fields a,#[]⟩
noncomputable def jD(a:Array DictEntry)(n:Nat):Obj:=⟨.type "dict",none,.dict a n,#[]⟩
noncomputable def jN(a b:Str)(s:Stmt)(d m:Value)(r:Nat):Obj:=⟨.type "function",none,.func ⟨a,b,Hj s,.stmts (bP s),bo s,3,[],d,.none,.none,m,none,.ref r,.none,0⟩,#[]⟩
noncomputable def jP(a b:Str)(s:Stmt):Obj:=⟨.none,none,.func ⟨a,b,Hj s,.stmts (bP s),bo s,0,[],.none,.none,.none,.none,none,.none,.none,0⟩,#[]⟩
noncomputable def jC(a:Str)(k:Nat)(b:Str)(k1 k2:Nat)(l n f:Int)(r:Nat)(q:Bool)(r2:Nat)(x y z:Value)(t:Int)(t2:Nat):Obj:=⟨.type "code",none,.fields #[jV a k,jV b k1,jV "/claim/cut.py" k2,.int l 0,.int n 0,.int 0 0,.int 0 0,.int f 0,.ref r,.bool q,.int 181 0,.ref r2,.none,x,y,z,.int t 0,.int l 0,jV "/claim/cut.py" t2],#[]⟩
noncomputable abbrev jE:BT:= .nil
noncomputable abbrev jX(o:Obj)(l r:BT):BT:= .node o l r
noncomputable abbrev jL(o:Obj):BT:= .node o .nil .nil
noncomputable def cB:Obj:=jT #[]
noncomputable def gb:Obj:=jF #[]
noncomputable def Tw:Obj:=jC "<module>" 182 "<module>" 183 184 1 0 0 11 false 12 .none .none .none 185 186
noncomputable def Tx:Obj:=⟨(.type "frame"),none,.plain,#[(some (.ref 13)),(some (.ref 3)),(some (.ref 3)),none,(some (jV "__main__" 164)),none,(some (.ref 0))]⟩
noncomputable def Tb(P:Params):BT:=(jX (boot_o_0 P) (jX (boot_o_1 P) (jX (boot_o_3 P) (jL (boot_o_7 P)) (jL cB)) (jX (boot_o_5 P) (jL (boot_o_9 P)) (jL Tw))) (jX (boot_o_2 P) (jX (boot_o_4 P) (jL (boot_o_8 P)) (jL gb)) (jX (boot_o_6 P) (jL (boot_o_10 P)) (jL Tx))))
noncomputable def ZA(P:Params):Obj:=⟨.none,none,(.dict #[jK P "type.__subclasses__.Exception.0" 212 (.int 31 0),jK P "type.__subclasses__.Exception.n" 213 (.int 1 0)] 2),#[]⟩
noncomputable def ZB:Obj:=jT #[(jV "k" 190)]
noncomputable def ZC:Obj:=jP "_wall" "_wall" (aY 0)
noncomputable def ZD:Obj:=jC "_wall" 187 "_wall" 188 189 1 1 3 15 true 16 (.ref 17) (.ref 18) (.ref 19) 191 192
noncomputable def ZE:Obj:=jN "_wall" "_wall" (aY 0) .none (jV "__main__" 164) 20
noncomputable def ZF:Obj:=jT #[.type "Exception"]
noncomputable def Pf:Obj:=⟨(.type "builtin_function_or_method"),none,(.fields #[.builtin "type.__prepare__",.type "type"]),#[]⟩
noncomputable def ZG(P:Params):Obj:=jD #[jK P "__module__" 203 (jV "clausemill.symbols" 194),jK P "__qualname__" 205 (jV "ClausemillError" 204),jK P "__firstlineno__" 207 (.int 5 206),jK P "__static_attributes__" 208 (.ref 29)] 4
noncomputable def ZH:Obj:=jC "ClausemillError" 198 "ClausemillError" 199 200 5 0 0 25 false 26 .none .none .none 201 202
noncomputable def ZI:Obj:=⟨(.type "frame"),none,.plain,#[(some (.ref 27)),(some (.ref 3)),(some (.ref 24)),none,(some (jV "clausemill.symbols" 194)),none,(some (.ref 0))]⟩
noncomputable def ZJ(P:Params):Obj:=jD #[jK P "__module__" 203 (jV "clausemill.symbols" 194),jK P "__firstlineno__" 207 (.int 5 206),jK P "__static_attributes__" 208 (.ref 29),jK P "__weakref__" 210 (.ref 32),jK P "__doc__" 211 .none] 3
noncomputable def ZK:Obj:=⟨(.type "getset_descriptor"),none,(.fields #[(jV "__weakref__" 209),.ref 31,.builtin "ExceptionGroup.__weakref__",.none]),#[]⟩
noncomputable def ZL:Obj:=⟨(.type "super"),none,(.fields #[.ref 31,.ref 31,.ref 31]),#[]⟩
noncomputable def ZM:Obj:=⟨(.type "builtin_function_or_method"),none,(.fields #[.builtin "object.__init_subclass__",.ref 31]),#[]⟩
noncomputable def UR:Obj:=⟨(.type "type"),none,(.cls ⟨"ClausemillError",[.type "Exception"],[.ref 31,.type "Exception",.type "BaseException",.type "object"],30,"ClausemillError",true,[],[.ref 52],false,none,false⟩),#[(some (.ref 22)),none,(some (jV "ClausemillError" 196)),(some (jV "ClausemillError" 204)),(some (.builtin "Exception.__new__")),(some (.bool true))]⟩
noncomputable def ZN:Obj:=jT #[.ref 31]
noncomputable def ZO(P:Params):Obj:=jD #[jK P "__module__" 223 (jV "clausemill.symbols" 194),jK P "__qualname__" 225 (jV "LinkFault" 224),jK P "__firstlineno__" 227 (.int 7 226),jK P "__init__" 236 (.ref 49),jK P "__static_attributes__" 238 (.ref 50)] 5
noncomputable def ZP:Obj:=jF #[.int 9 0,.int 4 0,.ref 48]
noncomputable def ZQ:Obj:=jC "LinkFault" 218 "LinkFault" 219 220 7 0 0 38 false 39 .none .none .none 221 222
noncomputable def ZR:Obj:=⟨(.type "frame"),none,.plain,#[(some (.ref 40)),(some (.ref 3)),(some (.ref 37)),none,(some (jV "clausemill.symbols" 194)),none,(some (.ref 0))]⟩
noncomputable def ZS:Obj:=jT #[(jV "" 228)]
noncomputable def ZT:Obj:=jT #[(jV "self" 232),(jV "what" 233)]
noncomputable def ZU:Obj:=jP "__init__" "LinkFault.__init__" (dw 3 0)
noncomputable def ZV:Obj:=jC "__init__" 229 "LinkFault.__init__" 230 231 9 2 3 43 true 44 (.ref 45) (.ref 46) (.ref 47) 234 235
noncomputable def ZW:Obj:=jN "__init__" "LinkFault.__init__" (dw 3 0) (.ref 42) (jV "clausemill.symbols" 194) 48
noncomputable def ZX:Obj:=jT #[(jV "what" 237)]
noncomputable def ZY(P:Params):Obj:=jD #[jK P "__module__" 223 (jV "clausemill.symbols" 194),jK P "__firstlineno__" 227 (.int 7 226),jK P "__init__" 236 (.ref 49),jK P "__static_attributes__" 238 (.ref 50),jK P "__doc__" 239 .none] 2
noncomputable def N3:Obj:=⟨(.type "type"),none,(.cls ⟨"LinkFault",[.ref 31],[.ref 52,.ref 31,.type "Exception",.type "BaseException",.type "object"],51,"LinkFault",true,[],[],false,none,false⟩),#[(some (.ref 35)),none,(some (jV "LinkFault" 216)),(some (jV "LinkFault" 224)),(some (.builtin "Exception.__new__")),(some (.bool true))]⟩
noncomputable def Qv:Obj:=⟨(.type "super"),none,(.fields #[.ref 52,.ref 52,.ref 52]),#[]⟩
noncomputable def Qw:Obj:=⟨(.type "builtin_function_or_method"),none,(.fields #[.builtin "object.__init_subclass__",.ref 52]),#[]⟩
noncomputable def Qx:Obj:=jP "fixed_atoms" "fixed_atoms" (aY 4)
noncomputable def Qy:Obj:=jC "fixed_atoms" 242 "fixed_atoms" 243 244 11 0 3 55 true 56 (.ref 57) (.ref 58) (.ref 59) 245 246
noncomputable def Qz:Obj:=jN "fixed_atoms" "fixed_atoms" (aY 4) .none (jV "clausemill.symbols" 194) 60
noncomputable def QA:Obj:=jP "fixed_functors" "fixed_functors" (aY 5)
noncomputable def QB:Obj:=jC "fixed_functors" 248 "fixed_functors" 249 250 13 0 3 62 true 63 (.ref 64) (.ref 65) (.ref 66) 251 252
noncomputable def QC:Obj:=jN "fixed_functors" "fixed_functors" (aY 5) .none (jV "clausemill.symbols" 194) 67
noncomputable def US(P:Params):Obj:=jD #[jK P "__name__" 165 (jV "clausemill.symbols" 194),jK P "__doc__" 166 .none,jK P "__package__" 167 .none,jK P "__loader__" 168 (.builtin "__main__.__loader__#opaque"),jK P "__spec__" 169 .none,jK P "__annotations__" 170 (.ref 6),jK P "__builtins__" 171 (.ref 4),jK P "__file__" 173 (jV "/claim/cut.py" 172),jK P "__cached__" 174 .none,jK P "_wall" 193 (.ref 21),jK P "ClausemillError" 215 (.ref 31),jK P "LinkFault" 241 (.ref 52),jK P "fixed_atoms" 247 (.ref 61),jK P "fixed_functors" 253 (.ref 68),jK P "Symbols" 373 (.ref 155)] 15
noncomputable def UT:Obj:=jF #[.int 1 0,.int 0 0,.ref 20,.int 5 0,.int 0 0,.ref 27,.int 7 0,.int 0 0,.ref 40,.int 11 0,.int 0 0,.ref 60,.int 13 0,.int 0 0,.ref 67,.int 15 0,.int 0 0,.ref 74]
noncomputable def QD(P:Params):Obj:=jD #[jK P "__module__" 261 (jV "clausemill.symbols" 194),jK P "__qualname__" 263 (jV "Symbols" 262),jK P "__firstlineno__" 265 (.int 15 264),jK P "__init__" 274 (.ref 82),jK P "atom" 284 (.ref 89),jK P "text" 292 (.ref 96),jK P "functor" 304 (.ref 103),jK P "func" 313 (.ref 110),jK P "name" 321 (.ref 117),jK P "arity" 329 (.ref 124),jK P "label" 338 (.ref 131),jK P "count" 345 (.ref 138),jK P "functor_count" 352 (.ref 145),jK P "known" 361 (.ref 152),jK P "__static_attributes__" 366 (.ref 153)] 15
noncomputable def QE:Obj:=jF #[.int 17 0,.int 4 0,.ref 81,.int 27 0,.int 4 0,.ref 88,.int 36 0,.int 4 0,.ref 95,.int 39 0,.int 4 0,.ref 102,.int 49 0,.int 4 0,.ref 109,.int 52 0,.int 4 0,.ref 116,.int 55 0,.int 4 0,.ref 123,.int 58 0,.int 4 0,.ref 130,.int 62 0,.int 4 0,.ref 137,.int 65 0,.int 4 0,.ref 144,.int 68 0,.int 4 0,.ref 151]
noncomputable def QF:Obj:=jC "Symbols" 256 "Symbols" 257 258 15 0 0 72 false 73 .none .none .none 259 260
noncomputable def QG:Obj:=⟨(.type "frame"),none,.plain,#[(some (.ref 74)),(some (.ref 3)),(some (.ref 71)),none,(some (jV "clausemill.symbols" 194)),none,(some (.ref 0))]⟩
noncomputable def QH:Obj:=jT #[(jV "self" 269),(jV "text" 270),(jV "row" 271)]
noncomputable def QI:Obj:=jP "__init__" "Symbols.__init__" (dw 6 0)
noncomputable def QJ:Obj:=jC "__init__" 266 "Symbols.__init__" 267 268 17 1 3 76 true 77 (.ref 78) (.ref 79) (.ref 80) 272 273
noncomputable def QK:Obj:=jN "__init__" "Symbols.__init__" (dw 6 0) .none (jV "clausemill.symbols" 194) 81
noncomputable def QM:Obj:=jT #[(jV "self" 278),(jV "text" 279),(jV "found" 280),(jV "number" 281)]
noncomputable def QN:Obj:=jP "atom" "Symbols.atom" (dw 6 1)
noncomputable def QO:Obj:=jC "atom" 275 "Symbols.atom" 276 277 27 2 3 83 true 84 (.ref 85) (.ref 86) (.ref 87) 282 283
noncomputable def QP:Obj:=jN "atom" "Symbols.atom" (dw 6 1) .none (jV "clausemill.symbols" 194) 88
noncomputable def QQ:Obj:=jT #[(jV "self" 288),(jV "number" 289)]
noncomputable def QR:Obj:=jP "text" "Symbols.text" (dw 6 2)
noncomputable def QS:Obj:=jC "text" 285 "Symbols.text" 286 287 36 2 3 90 true 91 (.ref 92) (.ref 93) (.ref 94) 290 291
noncomputable def QT:Obj:=jN "text" "Symbols.text" (dw 6 2) .none (jV "clausemill.symbols" 194) 95
noncomputable def QU:Obj:=jT #[(jV "self" 296),(jV "atom" 297),(jV "arity" 298),(jV "key" 299),(jV "found" 300),(jV "number" 301)]
noncomputable def QV:Obj:=jP "functor" "Symbols.functor" (dw 6 3)
noncomputable def QW:Obj:=jC "functor" 293 "Symbols.functor" 294 295 39 3 3 97 true 98 (.ref 99) (.ref 100) (.ref 101) 302 303
noncomputable def QX:Obj:=jN "functor" "Symbols.functor" (dw 6 3) .none (jV "clausemill.symbols" 194) 102
noncomputable def QY:Obj:=jT #[(jV "self" 308),(jV "text" 309),(jV "arity" 310)]
noncomputable def QZ:Obj:=jP "func" "Symbols.func" (dw 6 4)
noncomputable def Q0:Obj:=jC "func" 305 "Symbols.func" 306 307 49 3 3 104 true 105 (.ref 106) (.ref 107) (.ref 108) 311 312
noncomputable def Q1:Obj:=jN "func" "Symbols.func" (dw 6 4) .none (jV "clausemill.symbols" 194) 109
noncomputable def Q2:Obj:=jT #[(jV "self" 317),(jV "functor" 318)]
noncomputable def Q3:Obj:=jP "name" "Symbols.name" (dw 6 5)
noncomputable def Q4:Obj:=jC "name" 314 "Symbols.name" 315 316 52 2 3 111 true 112 (.ref 113) (.ref 114) (.ref 115) 319 320
noncomputable def Q5:Obj:=jN "name" "Symbols.name" (dw 6 5) .none (jV "clausemill.symbols" 194) 116
noncomputable def Q6:Obj:=jT #[(jV "self" 325),(jV "functor" 326)]
noncomputable def Q7:Obj:=jP "arity" "Symbols.arity" (dw 6 6)
noncomputable def Q8:Obj:=jC "arity" 322 "Symbols.arity" 323 324 55 2 3 118 true 119 (.ref 120) (.ref 121) (.ref 122) 327 328
noncomputable def Q9:Obj:=jN "arity" "Symbols.arity" (dw 6 6) .none (jV "clausemill.symbols" 194) 123
noncomputable def Ra:Obj:=jT #[(jV "self" 333),(jV "functor" 334),(jV "row" 335)]
noncomputable def Rb:Obj:=jP "label" "Symbols.label" (dw 6 7)
noncomputable def Rc:Obj:=jC "label" 330 "Symbols.label" 331 332 58 2 3 125 true 126 (.ref 127) (.ref 128) (.ref 129) 336 337
noncomputable def Rd:Obj:=jN "label" "Symbols.label" (dw 6 7) .none (jV "clausemill.symbols" 194) 130
noncomputable def Rf:Obj:=jT #[(jV "self" 342)]
noncomputable def Rg:Obj:=jP "count" "Symbols.count" (dw 6 8)
noncomputable def Rh:Obj:=jC "count" 339 "Symbols.count" 340 341 62 1 3 132 true 133 (.ref 134) (.ref 135) (.ref 136) 343 344
noncomputable def Ri:Obj:=jN "count" "Symbols.count" (dw 6 8) .none (jV "clausemill.symbols" 194) 137
noncomputable def Rj:Obj:=jT #[(jV "self" 349)]
noncomputable def Rk:Obj:=jP "functor_count" "Symbols.functor_count" (dw 6 9)
noncomputable def Rl:Obj:=jC "functor_count" 346 "Symbols.functor_count" 347 348 65 1 3 139 true 140 (.ref 141) (.ref 142) (.ref 143) 350 351
noncomputable def Rm:Obj:=jN "functor_count" "Symbols.functor_count" (dw 6 9) .none (jV "clausemill.symbols" 194) 144
noncomputable def Rn:Obj:=jT #[(jV "self" 356),(jV "text" 357),(jV "arity" 358)]
noncomputable def Ro:Obj:=jP "known" "Symbols.known" (dw 6 10)
noncomputable def Rp:Obj:=jC "known" 353 "Symbols.known" 354 355 68 3 3 146 true 147 (.ref 148) (.ref 149) (.ref 150) 359 360
noncomputable def Rq:Obj:=jN "known" "Symbols.known" (dw 6 10) .none (jV "clausemill.symbols" 194) 151
noncomputable def Rr:Obj:=jT #[(jV "atom_numbers" 362),(jV "functor_numbers" 363),(jV "functors" 364),(jV "texts" 365)]
noncomputable def Rs(P:Params):Obj:=jD #[jK P "__module__" 261 (jV "clausemill.symbols" 194),jK P "__firstlineno__" 265 (.int 15 264),jK P "__init__" 274 (.ref 82),jK P "atom" 284 (.ref 89),jK P "text" 292 (.ref 96),jK P "functor" 304 (.ref 103),jK P "func" 313 (.ref 110),jK P "name" 321 (.ref 117),jK P "arity" 329 (.ref 124),jK P "label" 338 (.ref 131),jK P "count" 345 (.ref 138),jK P "functor_count" 352 (.ref 145),jK P "known" 361 (.ref 152),jK P "__static_attributes__" 366 (.ref 153),jK P "__dict__" 368 (.ref 156),jK P "__weakref__" 370 (.ref 157),jK P "__doc__" 371 .none] 4
noncomputable def Rt:Obj:=⟨(.type "type"),none,(.cls ⟨"Symbols",[.type "object"],[.ref 155,.type "object"],154,"Symbols",true,[],[],false,none,false⟩),#[none,none,(some (jV "Symbols" 254)),(some (jV "Symbols" 262)),(some (.builtin "object.__new__")),(some (.bool true))]⟩
noncomputable def Ru:Obj:=⟨(.type "getset_descriptor"),none,(.fields #[(jV "__dict__" 367),.ref 155,.builtin "function.__dict__",.builtin "function.__dict__#set"]),#[]⟩
noncomputable def Rv:Obj:=⟨(.type "getset_descriptor"),none,(.fields #[(jV "__weakref__" 369),.ref 155,.builtin "ExceptionGroup.__weakref__",.none]),#[]⟩
noncomputable def Rw:Obj:=⟨(.type "super"),none,(.fields #[.ref 155,.ref 155,.ref 155]),#[]⟩
noncomputable def Ry:Obj:=⟨(.type "builtin_function_or_method"),none,(.fields #[.builtin "object.__init_subclass__",.ref 155]),#[]⟩
noncomputable def T2(P:Params):BT:=(jX (boot_o_0 P) (jX (boot_o_1 P) (jX (US P) (jX (boot_o_7 P) (jX cB (jX UR (jX gb (jL Ra) jE) (jX QS (jL Ry) jE)) (jX ZU (jX cB (jL Rk) jE) (jL cB))) (jX Pf (jX ZP (jX (QD P) (jL cB) jE) (jL QX)) (jX cB (jX QN (jL Rp) jE) (jL gb)))) (jX cB (jX ZC (jX ZN (jX QB (jL Rd) jE) (jL QU)) (jX (ZY P) (jX cB (jL gb) jE) (jL Q3))) (jX ZH (jX cB (jX QG (jL cB) jE) (jL cB)) (jX Qx (jX gb (jL Rt) jE) (jL Q8))))) (jX (boot_o_5 P) (jX (boot_o_9 P) (jX ZB (jX ZL (jX cB (jL Rb) jE) (jL cB)) (jX ZW (jX QJ (jL Rm) jE) (jL Q2))) (jX cB (jX ZR (jX QE (jL Rh) jE) (jL gb)) (jX cB (jX QP (jL Rr) jE) (jL cB)))) (jX Tw (jX ZE (jX (ZO P) (jX cB (jL gb) jE) (jL QV)) (jX Qv (jX QM (jL cB) jE) (jL Q5))) (jX cB (jX ZT (jX gb (jL Rj) jE) (jL Q0)) (jX Qz (jX cB (jL Rv) jE) (jL cB)))))) (jX (ZA P) (jX (boot_o_4 P) (jX (boot_o_8 P) (jX gb (jX ZK (jX cB (jL cB) jE) (jL QT)) (jX ZV (jX QI (jL Rl) jE) (jL gb))) (jX (ZG P) (jX ZQ (jX cB (jL Rg) jE) (jL cB)) (jX gb (jX QO (jL Rq) jE) (jL Q6)))) (jX UT (jX ZD (jX Pf (jX QC (jL cB) jE) (jL cB)) (jX N3 (jX gb (jL Rn) jE) (jL Q4))) (jX ZI (jX gb (jX cB (jL gb) jE) (jL QZ)) (jX Qy (jX QQ (jL Ru) jE) (jL Q9))))) (jX (boot_o_6 P) (jX (boot_o_10 P) (jX cB (jX ZM (jX QA (jL Rc) jE) (jL gb)) (jX ZX (jX QK (jL cB) jE) (jL cB))) (jX gb (jX ZS (jX QF (jL Ri) jE) (jL QY)) (jX cB (jX cB (jL (Rs P)) jE) (jL Q7)))) (jX Tx (jX ZF (jX cB (jX Pf (jL Rf) jE) (jL QW)) (jX Qw (jX cB (jL Ro) jE) (jL cB))) (jX (ZJ P) (jX cB (jX QH (jL cB) jE) (jL Q1)) (jX cB (jX QR (jL Rw) jE) (jL gb)))))))
noncomputable def UU:Obj:=jT #[(jV "code" 383)]
noncomputable def UV:Obj:=jP "is_digit" "is_digit" (aY 10)
noncomputable def UW:Obj:=jC "is_digit" 380 "is_digit" 381 382 73 1 3 160 true 161 (.ref 162) (.ref 163) (.ref 164) 384 385
noncomputable def UX:Obj:=jN "is_digit" "is_digit" (aY 10) .none (jV "clausemill.chars" 378) 165
noncomputable def UY:Obj:=jT #[(jV "code" 390)]
noncomputable def UZ:Obj:=jP "is_small" "is_small" (aY 11)
noncomputable def U0:Obj:=jC "is_small" 387 "is_small" 388 389 75 1 3 167 true 168 (.ref 169) (.ref 170) (.ref 171) 391 392
noncomputable def U1:Obj:=jN "is_small" "is_small" (aY 11) .none (jV "clausemill.chars" 378) 172
noncomputable def U2:Obj:=jT #[(jV "code" 397)]
noncomputable def U3:Obj:=jP "is_capital" "is_capital" (aY 12)
noncomputable def U4:Obj:=jC "is_capital" 394 "is_capital" 395 396 77 1 3 174 true 175 (.ref 176) (.ref 177) (.ref 178) 398 399
noncomputable def U5:Obj:=jN "is_capital" "is_capital" (aY 12) .none (jV "clausemill.chars" 378) 179
noncomputable def U6:Obj:=jT #[(jV "code" 404)]
noncomputable def U7:Obj:=jP "is_alnum" "is_alnum" (aY 13)
noncomputable def U8:Obj:=jC "is_alnum" 401 "is_alnum" 402 403 79 1 3 181 true 182 (.ref 183) (.ref 184) (.ref 185) 405 406
noncomputable def U9:Obj:=jN "is_alnum" "is_alnum" (aY 13) .none (jV "clausemill.chars" 378) 186
noncomputable def Va:Obj:=jT #[(jV "value" 411),(jV "rest" 412),(jV "pieces" 413),(jV "piece" 414)]
noncomputable def Vb:Obj:=jP "number_text" "number_text" (aY 14)
noncomputable def Vc:Obj:=jC "number_text" 408 "number_text" 409 410 81 1 3 188 true 189 (.ref 190) (.ref 191) (.ref 192) 415 416
noncomputable def Vd:Obj:=jN "number_text" "number_text" (aY 14) .none (jV "clausemill.chars" 378) 193
noncomputable def Ve:Obj:=jT #[(jV "text" 421),(jV "char" 422)]
noncomputable def Vf:Obj:=jP "is_alnum_name" "is_alnum_name" (aY 15)
noncomputable def Vg:Obj:=jC "is_alnum_name" 418 "is_alnum_name" 419 420 91 1 3 195 true 196 (.ref 197) (.ref 198) (.ref 199) 423 424
noncomputable def Vh:Obj:=jN "is_alnum_name" "is_alnum_name" (aY 15) .none (jV "clausemill.chars" 378) 200
noncomputable def Vi:Obj:=jP "shapes" "shapes" (aY 17)
noncomputable def Vj:Obj:=jC "shapes" 428 "shapes" 429 430 99 0 3 202 true 203 (.ref 204) (.ref 205) (.ref 206) 431 432
noncomputable def Vk:Obj:=jN "shapes" "shapes" (aY 17) .none (jV "clausemill.assembler" 426) 207
noncomputable def Vl:Obj:=jT #[(jV "value" 437)]
noncomputable def Vm:Obj:=jP "is_whole" "is_whole" (aY 18)
noncomputable def Vn:Obj:=jC "is_whole" 434 "is_whole" 435 436 101 1 3 209 true 210 (.ref 211) (.ref 212) (.ref 213) 438 439
noncomputable def Vo:Obj:=jN "is_whole" "is_whole" (aY 18) .none (jV "clausemill.assembler" 426) 214
noncomputable def Vp:Obj:=jT #[(jV "value" 444)]
noncomputable def Vq:Obj:=jP "is_pair" "is_pair" (aY 19)
noncomputable def Vr:Obj:=jC "is_pair" 441 "is_pair" 442 443 103 1 3 216 true 217 (.ref 218) (.ref 219) (.ref 220) 445 446
noncomputable def Vs:Obj:=jN "is_pair" "is_pair" (aY 19) .none (jV "clausemill.assembler" 426) 221
noncomputable def Vt:Obj:=jT #[(jV "value" 451),(jV "names" 452)]
noncomputable def Vu:Obj:=jP "is_register" "is_register" (aY 20)
noncomputable def Vv:Obj:=jC "is_register" 448 "is_register" 449 450 105 2 3 223 true 224 (.ref 225) (.ref 226) (.ref 227) 453 454
noncomputable def Vw:Obj:=jN "is_register" "is_register" (aY 20) .none (jV "clausemill.assembler" 426) 228
noncomputable def Vy:Obj:=jT #[(jV "value" 459)]
noncomputable def Vz:Obj:=jP "is_constant" "is_constant" (aY 21)
noncomputable def VA:Obj:=jC "is_constant" 456 "is_constant" 457 458 107 1 3 230 true 231 (.ref 232) (.ref 233) (.ref 234) 460 461
noncomputable def VB:Obj:=jN "is_constant" "is_constant" (aY 21) .none (jV "clausemill.assembler" 426) 235
noncomputable def VC:Obj:=jT #[(jV "value" 466)]
noncomputable def VD:Obj:=jP "is_functor" "is_functor" (aY 22)
noncomputable def VE:Obj:=jC "is_functor" 463 "is_functor" 464 465 109 1 3 237 true 238 (.ref 239) (.ref 240) (.ref 241) 467 468
noncomputable def VF:Obj:=jN "is_functor" "is_functor" (aY 22) .none (jV "clausemill.assembler" 426) 242
noncomputable def VG:Obj:=jT #[(jV "value" 473),(jV "linked" 474)]
noncomputable def VH:Obj:=jP "is_target" "is_target" (aY 23)
noncomputable def VI:Obj:=jC "is_target" 470 "is_target" 471 472 111 2 3 244 true 245 (.ref 246) (.ref 247) (.ref 248) 475 476
noncomputable def VJ:Obj:=jN "is_target" "is_target" (aY 23) .none (jV "clausemill.assembler" 426) 249
noncomputable def VK:Obj:=jT #[(jV "value" 481),(jV "kind" 482)]
noncomputable def VL:Obj:=jP "is_key" "is_key" (aY 24)
noncomputable def VM:Obj:=jC "is_key" 478 "is_key" 479 480 117 2 3 251 true 252 (.ref 253) (.ref 254) (.ref 255) 483 484
noncomputable def VN:Obj:=jN "is_key" "is_key" (aY 24) .none (jV "clausemill.assembler" 426) 256
noncomputable def VO:Obj:=jT #[(jV "value" 489),(jV "kind" 490),(jV "linked" 491),(jV "key" 492),(jV "pair" 493)]
noncomputable def VP:Obj:=jP "is_table" "is_table" (aY 25)
noncomputable def VQ:Obj:=jC "is_table" 486 "is_table" 487 488 121 3 3 258 true 259 (.ref 260) (.ref 261) (.ref 262) 494 495
noncomputable def VR:Obj:=jN "is_table" "is_table" (aY 25) .none (jV "clausemill.assembler" 426) 263
noncomputable def VS:Obj:=jT #[(jV "value" 500),(jV "kind" 501),(jV "linked" 502)]
noncomputable def VT:Obj:=jP "is_operand" "is_operand" (aY 26)
noncomputable def VU:Obj:=jC "is_operand" 497 "is_operand" 498 499 135 3 3 265 true 266 (.ref 267) (.ref 268) (.ref 269) 503 504
noncomputable def VV:Obj:=jN "is_operand" "is_operand" (aY 26) .none (jV "clausemill.assembler" 426) 270
noncomputable def VW:Obj:=jT #[(jV "table" 509),(jV "ins" 510),(jV "linked" 511),(jV "name" 512),(jV "kinds" 513),(jV "place" 514)]
noncomputable def VX:Obj:=jP "check_row" "check_row" (aY 27)
noncomputable def VY:Obj:=jC "check_row" 506 "check_row" 507 508 149 3 3 272 true 273 (.ref 274) (.ref 275) (.ref 276) 515 516
noncomputable def VZ:Obj:=jN "check_row" "check_row" (aY 27) .none (jV "clausemill.assembler" 426) 277
noncomputable def V0:Obj:=jT #[(jV "code" 521),(jV "figures" 522),(jV "text" 523)]
noncomputable def V1:Obj:=jP "code_digits" "code_digits" (aY 28)
noncomputable def V2:Obj:=jC "code_digits" 518 "code_digits" 519 520 161 1 3 279 true 280 (.ref 281) (.ref 282) (.ref 283) 524 525
noncomputable def V3:Obj:=jN "code_digits" "code_digits" (aY 28) .none (jV "clausemill.assembler" 426) 284
noncomputable def V4:Obj:=jT #[(jV "text" 530),(jV "parts" 531),(jV "sign" 532)]
noncomputable def V5:Obj:=jP "quoted_name" "quoted_name" (aY 29)
noncomputable def V6:Obj:=jC "quoted_name" 527 "quoted_name" 528 529 169 1 3 286 true 287 (.ref 288) (.ref 289) (.ref 290) 533 534
noncomputable def V7:Obj:=jN "quoted_name" "quoted_name" (aY 29) .none (jV "clausemill.assembler" 426) 291
noncomputable def V8:Obj:=jT #[(jV "digits" 539),(jV "figures" 540),(jV "value" 541),(jV "sign" 542),(jV "figure" 543)]
noncomputable def V9:Obj:=jP "read_code" "read_code" (aY 30)
noncomputable def Wa:Obj:=jC "read_code" 536 "read_code" 537 538 180 1 3 293 true 294 (.ref 295) (.ref 296) (.ref 297) 544 545
noncomputable def Wb:Obj:=jN "read_code" "read_code" (aY 30) .none (jV "clausemill.assembler" 426) 298
noncomputable def Wc:Obj:=jT #[(jV "word" 550),(jV "inner" 551),(jV "parts" 552),(jV "place" 553),(jV "end" 554),(jV "text" 555)]
noncomputable def Wd:Obj:=jP "unquoted_name" "unquoted_name" (aY 31)
noncomputable def We:Obj:=jC "unquoted_name" 547 "unquoted_name" 548 549 191 1 3 300 true 301 (.ref 302) (.ref 303) (.ref 304) 556 557
noncomputable def Wf:Obj:=jN "unquoted_name" "unquoted_name" (aY 31) .none (jV "clausemill.assembler" 426) 305
noncomputable def Wg:Obj:=jT #[(jV "symbols" 562),(jV "cell" 563)]
noncomputable def Wh:Obj:=jP "constant_text" "constant_text" (aY 32)
noncomputable def Wi:Obj:=jC "constant_text" 559 "constant_text" 560 561 213 2 3 307 true 308 (.ref 309) (.ref 310) (.ref 311) 564 565
noncomputable def Wj:Obj:=jN "constant_text" "constant_text" (aY 32) .none (jV "clausemill.assembler" 426) 312
noncomputable def Wk:Obj:=jT #[(jV "symbols" 570),(jV "functor" 571)]
noncomputable def Wl:Obj:=jP "functor_text" "functor_text" (aY 33)
noncomputable def Wm:Obj:=jC "functor_text" 567 "functor_text" 568 569 217 2 3 314 true 315 (.ref 316) (.ref 317) (.ref 318) 572 573
noncomputable def Wn:Obj:=jN "functor_text" "functor_text" (aY 33) .none (jV "clausemill.assembler" 426) 319
noncomputable def Wo:Obj:=jT #[(jV "symbols" 578),(jV "table" 579),(jV "kind" 580),(jV "words" 581),(jV "key" 582),(jV "text" 583)]
noncomputable def Wp:Obj:=jP "table_words" "table_words" (aY 34)
noncomputable def Wq:Obj:=jC "table_words" 575 "table_words" 576 577 219 3 3 321 true 322 (.ref 323) (.ref 324) (.ref 325) 584 585
noncomputable def Wr:Obj:=jN "table_words" "table_words" (aY 34) .none (jV "clausemill.assembler" 426) 326
noncomputable def Ws:Obj:=jT #[(jV "symbols" 590),(jV "ins" 591),(jV "kinds" 592),(jV "words" 593),(jV "place" 594),(jV "kind" 595),(jV "value" 596),(jV "word" 597)]
noncomputable def Wt:Obj:=jP "instruction_words" "instruction_words" (aY 35)
noncomputable def Wu:Obj:=jC "instruction_words" 587 "instruction_words" 588 589 229 3 3 328 true 329 (.ref 330) (.ref 331) (.ref 332) 598 599
noncomputable def Wv:Obj:=jN "instruction_words" "instruction_words" (aY 35) .none (jV "clausemill.assembler" 426) 333
noncomputable def Ww:Obj:=jT #[.int 0 601]
noncomputable def Wx:Obj:=jT #[(jV "symbols" 605),(jV "instrs" 606),(jV "base" 607),(jV "table" 608),(jV "rows" 609),(jV "place" 610),(jV "ins" 611)]
noncomputable def Wy:Obj:=jP "listing" "listing" (aY 36)
noncomputable def Wz:Obj:=jC "listing" 602 "listing" 603 604 246 3 3 336 true 337 (.ref 338) (.ref 339) (.ref 340) 612 613
noncomputable def WA:Obj:=jN "listing" "listing" (aY 36) (.ref 335) (jV "clausemill.assembler" 426) 341
noncomputable def WB:Obj:=jT #[(jV "row" 618),(jV "words" 619),(jV "word" 620)]
noncomputable def WC:Obj:=jP "split_row" "split_row" (aY 37)
noncomputable def WD:Obj:=jC "split_row" 615 "split_row" 616 617 254 1 3 343 true 344 (.ref 345) (.ref 346) (.ref 347) 621 622
noncomputable def WF:Obj:=jN "split_row" "split_row" (aY 37) .none (jV "clausemill.assembler" 426) 348
noncomputable def WG:Obj:=jT #[(jV "word" 627),(jV "sign" 628),(jV "value" 629),(jV "place" 630),(jV "piece" 631)]
noncomputable def WH:Obj:=jP "read_count" "read_count" (aY 38)
noncomputable def WI:Obj:=jC "read_count" 624 "read_count" 625 626 260 1 3 350 true 351 (.ref 352) (.ref 353) (.ref 354) 632 633
noncomputable def WK:Obj:=jN "read_count" "read_count" (aY 38) .none (jV "clausemill.assembler" 426) 355
noncomputable def WM:Obj:=jT #[(jV "symbols" 638),(jV "word" 639),(jV "value" 640)]
noncomputable def WO:Obj:=jP "read_constant" "read_constant" (aY 39)
noncomputable def WQ:Obj:=jC "read_constant" 635 "read_constant" 636 637 271 2 3 357 true 358 (.ref 359) (.ref 360) (.ref 361) 641 642
noncomputable def WR:Obj:=jN "read_constant" "read_constant" (aY 39) .none (jV "clausemill.assembler" 426) 362
noncomputable def WU:Obj:=jT #[(jV "symbols" 647),(jV "word" 648),(jV "place" 649),(jV "atom" 650)]
noncomputable def WV:Obj:=jP "read_functor" "read_functor" (aY 40)
noncomputable def WW:Obj:=jC "read_functor" 644 "read_functor" 645 646 280 2 3 364 true 365 (.ref 366) (.ref 367) (.ref 368) 651 652
noncomputable def WX:Obj:=jN "read_functor" "read_functor" (aY 40) .none (jV "clausemill.assembler" 426) 369
noncomputable def WY:Obj:=jT #[(jV "word" 657)]
noncomputable def WZ:Obj:=jP "read_register" "read_register" (aY 41)
noncomputable def W0:Obj:=jC "read_register" 654 "read_register" 655 656 286 1 3 371 true 372 (.ref 373) (.ref 374) (.ref 375) 658 659
noncomputable def W3:Obj:=jN "read_register" "read_register" (aY 41) .none (jV "clausemill.assembler" 426) 376
noncomputable def W4:Obj:=jT #[(jV "symbols" 664),(jV "words" 665),(jV "place" 666),(jV "kind" 667),(jV "table" 668),(jV "word" 669),(jV "cut" 670),(jV "key" 671)]
noncomputable def W5:Obj:=jP "read_table" "read_table" (aY 42)
noncomputable def W6:Obj:=jC "read_table" 661 "read_table" 662 663 290 4 3 378 true 379 (.ref 380) (.ref 381) (.ref 382) 672 673
noncomputable def W7:Obj:=jN "read_table" "read_table" (aY 42) .none (jV "clausemill.assembler" 426) 383
noncomputable def W8:Obj:=jT #[(jV "symbols" 678),(jV "word" 679),(jV "kind" 680)]
noncomputable def W9:Obj:=jP "read_operand" "read_operand" (aY 43)
noncomputable def Xa:Obj:=jC "read_operand" 675 "read_operand" 676 677 311 3 3 385 true 386 (.ref 387) (.ref 388) (.ref 389) 681 682
noncomputable def Xc:Obj:=jN "read_operand" "read_operand" (aY 43) .none (jV "clausemill.assembler" 426) 390
noncomputable def Xd:Obj:=jT #[(jV "symbols" 687),(jV "words" 688),(jV "table" 689),(jV "parts" 690),(jV "place" 691),(jV "kind" 692),(jV "pair" 693),(jV "ins" 694)]
noncomputable def Xe:Obj:=jP "read_instruction" "read_instruction" (aY 44)
noncomputable def Xf:Obj:=jC "read_instruction" 684 "read_instruction" 685 686 319 3 3 392 true 393 (.ref 394) (.ref 395) (.ref 396) 695 696
noncomputable def Xg:Obj:=jN "read_instruction" "read_instruction" (aY 44) .none (jV "clausemill.assembler" 426) 397
noncomputable def Xh:Obj:=jT #[(jV "symbols" 701),(jV "rows" 702),(jV "table" 703),(jV "instrs" 704),(jV "base" 705),(jV "place" 706),(jV "words" 707),(jV "address" 708)]
noncomputable def Xi:Obj:=jP "read_listing" "read_listing" (aY 45)
noncomputable def Xj:Obj:=jC "read_listing" 698 "read_listing" 699 700 339 2 3 399 true 400 (.ref 401) (.ref 402) (.ref 403) 709 710
noncomputable def Xk:Obj:=jN "read_listing" "read_listing" (aY 45) .none (jV "clausemill.assembler" 426) 404
noncomputable def Xl(P:Params):Obj:=jD #[jK P "__name__" 165 (jV "law_no0172_01" 712),jK P "__doc__" 166 .none,jK P "__package__" 167 .none,jK P "__loader__" 168 (.builtin "__main__.__loader__#opaque"),jK P "__spec__" 169 .none,jK P "__annotations__" 170 (.ref 6),jK P "__builtins__" 171 (.ref 4),jK P "__file__" 173 (jV "/claim/cut.py" 172),jK P "__cached__" 174 .none,jK P "_wall" 193 (.ref 21),jK P "ClausemillError" 215 (.ref 31),jK P "LinkFault" 241 (.ref 52),jK P "fixed_atoms" 247 (.ref 61),jK P "fixed_functors" 253 (.ref 68),jK P "Symbols" 373 (.ref 155),jK P "CON" 375 (.int 4 374),jK P "INT" 377 (.int 5 376),jK P "is_digit" 386 (.ref 166),jK P "is_small" 393 (.ref 173),jK P "is_capital" 400 (.ref 180),jK P "is_alnum" 407 (.ref 187),jK P "number_text" 417 (.ref 194),jK P "is_alnum_name" 425 (.ref 201),jK P "shapes" 433 (.ref 208),jK P "is_whole" 440 (.ref 215),jK P "is_pair" 447 (.ref 222),jK P "is_register" 455 (.ref 229),jK P "is_constant" 462 (.ref 236),jK P "is_functor" 469 (.ref 243),jK P "is_target" 477 (.ref 250),jK P "is_key" 485 (.ref 257),jK P "is_table" 496 (.ref 264),jK P "is_operand" 505 (.ref 271),jK P "check_row" 517 (.ref 278),jK P "code_digits" 526 (.ref 285),jK P "quoted_name" 535 (.ref 292),jK P "read_code" 546 (.ref 299),jK P "unquoted_name" 558 (.ref 306),jK P "constant_text" 566 (.ref 313),jK P "functor_text" 574 (.ref 320),jK P "table_words" 586 (.ref 327),jK P "instruction_words" 600 (.ref 334),jK P "listing" 614 (.ref 342),jK P "split_row" 623 (.ref 349),jK P "read_count" 634 (.ref 356),jK P "read_constant" 643 (.ref 363),jK P "read_functor" 653 (.ref 370),jK P "read_register" 660 (.ref 377),jK P "read_table" 674 (.ref 384),jK P "read_operand" 683 (.ref 391),jK P "read_instruction" 697 (.ref 398),jK P "read_listing" 711 (.ref 405),jK P "_law_pool" 726 (.ref 412),jK P "_law_pick" 735 (.ref 419),jK P "_law_kinds" 741 (.ref 426),jK P "_law_functor" 752 (.ref 433),jK P "_law_constant" 764 (.ref 440),jK P "_law_operand" 777 (.ref 447),jK P "_law_spoiled" 788 (.ref 454),jK P "law" 794 (.ref 459)] 60
noncomputable def Xm:Obj:=jF #[.int 1 0,.int 0 0,.ref 20,.int 5 0,.int 0 0,.ref 27,.int 7 0,.int 0 0,.ref 40,.int 11 0,.int 0 0,.ref 60,.int 13 0,.int 0 0,.ref 67,.int 15 0,.int 0 0,.ref 74,.int 73 0,.int 0 0,.ref 165,.int 75 0,.int 0 0,.ref 172,.int 77 0,.int 0 0,.ref 179,.int 79 0,.int 0 0,.ref 186,.int 81 0,.int 0 0,.ref 193,.int 91 0,.int 0 0,.ref 200,.int 99 0,.int 0 0,.ref 207,.int 101 0,.int 0 0,.ref 214,.int 103 0,.int 0 0,.ref 221,.int 105 0,.int 0 0,.ref 228,.int 107 0,.int 0 0,.ref 235,.int 109 0,.int 0 0,.ref 242,.int 111 0,.int 0 0,.ref 249,.int 117 0,.int 0 0,.ref 256,.int 121 0,.int 0 0,.ref 263,.int 135 0,.int 0 0,.ref 270,.int 149 0,.int 0 0,.ref 277,.int 161 0,.int 0 0,.ref 284,.int 169 0,.int 0 0,.ref 291,.int 180 0,.int 0 0,.ref 298,.int 191 0,.int 0 0,.ref 305,.int 213 0,.int 0 0,.ref 312,.int 217 0,.int 0 0,.ref 319,.int 219 0,.int 0 0,.ref 326,.int 229 0,.int 0 0,.ref 333,.int 246 0,.int 0 0,.ref 341,.int 254 0,.int 0 0,.ref 348,.int 260 0,.int 0 0,.ref 355,.int 271 0,.int 0 0,.ref 362,.int 280 0,.int 0 0,.ref 369,.int 286 0,.int 0 0,.ref 376,.int 290 0,.int 0 0,.ref 383,.int 311 0,.int 0 0,.ref 390,.int 319 0,.int 0 0,.ref 397,.int 339 0,.int 0 0,.ref 404,.int 355 0,.int 0 0,.ref 411,.int 370 0,.int 0 0,.ref 418,.int 380 0,.int 0 0,.ref 425,.int 382 0,.int 0 0,.ref 432,.int 385 0,.int 0 0,.ref 439,.int 391 0,.int 0 0,.ref 446,.int 406 0,.int 0 0,.ref 453,.int 424 0,.int 0 0,.ref 458]
noncomputable def Xn:Obj:=jT #[(jV "script" 717),(jV "figures" 718),(jV "mix" 719),(jV "cell" 720),(jV "whole" 721),(jV "rest" 722),(jV "step" 723)]
noncomputable def Xo:Obj:=jP "_law_pool" "_law_pool" (aY 47)
noncomputable def Xp:Obj:=jC "_law_pool" 714 "_law_pool" 715 716 355 1 3 406 true 407 (.ref 408) (.ref 409) (.ref 410) 724 725
noncomputable def Xq:Obj:=jN "_law_pool" "_law_pool" (aY 47) .none (jV "law_no0172_01" 712) 411
noncomputable def Xr:Obj:=jT #[(jV "pool" 730),(jV "bound" 731),(jV "figure" 732)]
noncomputable def Xs:Obj:=jP "_law_pick" "_law_pick" (aY 48)
noncomputable def Xu:Obj:=jC "_law_pick" 727 "_law_pick" 728 729 370 2 3 413 true 414 (.ref 415) (.ref 416) (.ref 417) 733 734
noncomputable def Xv:Obj:=jN "_law_pick" "_law_pick" (aY 48) .none (jV "law_no0172_01" 712) 418
noncomputable def Xw:Obj:=jP "_law_kinds" "_law_kinds" (aY 49)
noncomputable def Xx:Obj:=jC "_law_kinds" 736 "_law_kinds" 737 738 380 0 3 420 true 421 (.ref 422) (.ref 423) (.ref 424) 739 740
noncomputable def Xy:Obj:=jN "_law_kinds" "_law_kinds" (aY 49) .none (jV "law_no0172_01" 712) 425
noncomputable def Xz:Obj:=jT #[(jV "pool" 745),(jV "world" 746),(jV "book" 747),(jV "names" 748),(jV "wholes" 749)]
noncomputable def XA:Obj:=jP "_law_functor" "_law_functor" (aY 50)
noncomputable def XB:Obj:=jC "_law_functor" 742 "_law_functor" 743 744 382 2 3 427 true 428 (.ref 429) (.ref 430) (.ref 431) 750 751
noncomputable def XC:Obj:=jN "_law_functor" "_law_functor" (aY 50) .none (jV "law_no0172_01" 712) 432
noncomputable def XD:Obj:=jT #[(jV "pool" 756),(jV "world" 757),(jV "book" 758),(jV "names" 759),(jV "wholes" 760),(jV "whole" 761)]
noncomputable def XE:Obj:=jP "_law_constant" "_law_constant" (aY 51)
noncomputable def XF:Obj:=jC "_law_constant" 753 "_law_constant" 754 755 385 2 3 434 true 435 (.ref 436) (.ref 437) (.ref 438) 762 763
noncomputable def XG:Obj:=jN "_law_constant" "_law_constant" (aY 51) .none (jV "law_no0172_01" 712) 439
noncomputable def XI:Obj:=jT #[(jV "pool" 768),(jV "world" 769),(jV "kind" 770),(jV "letter" 771),(jV "table" 772),(jV "step" 773),(jV "key" 774)]
noncomputable def XJ:Obj:=jP "_law_operand" "_law_operand" (aY 52)
noncomputable def XK:Obj:=jC "_law_operand" 765 "_law_operand" 766 767 391 3 3 441 true 442 (.ref 443) (.ref 444) (.ref 445) 775 776
noncomputable def XM:Obj:=jN "_law_operand" "_law_operand" (aY 52) .none (jV "law_no0172_01" 712) 446
noncomputable def XN:Obj:=jT #[(jV "pool" 781),(jV "rows" 782),(jV "way" 783),(jV "place" 784),(jV "words" 785)]
noncomputable def XO:Obj:=jP "_law_spoiled" "_law_spoiled" (aY 53)
noncomputable def XQ:Obj:=jC "_law_spoiled" 778 "_law_spoiled" 779 780 406 3 3 448 true 449 (.ref 450) (.ref 451) (.ref 452) 786 787
noncomputable def XR:Obj:=jN "_law_spoiled" "_law_spoiled" (aY 53) .none (jV "law_no0172_01" 712) 453
noncomputable def XS:Obj:=jP "law" "law" (aY 54)
noncomputable def XT:Obj:=jC "law" 789 "law" 790 791 424 1 3 455 true 456 .none .none (.ref 457) 792 793
noncomputable def Rz:Obj:=jN "law" "law" (aY 54) .none (jV "law_no0172_01" 712) 458
noncomputable def T6(P:Params):BT:=(jX (boot_o_0 P) (jX (boot_o_1 P) (jX (Xl P) (jX (boot_o_7 P) (jX cB (jX UR (jX gb (jX Ra (jL VL) (jL W6)) (jX cB (jL Wm) (jL XM))) (jX QS (jX Ry (jL gb) (jL Xr)) (jX cB (jL gb) jE))) (jX ZU (jX cB (jX Rk (jL VV) (jL cB)) (jX Vj (jL Ww) jE)) (jX cB (jX gb (jL cB) (jL XA)) (jX VC (jL cB) jE)))) (jX Pf (jX ZP (jX (QD P) (jX cB (jL VQ) (jL Xc)) (jX Vf (jL Wr) (jL cB))) (jX QX (jX cB (jL V8) (jL cB)) (jX gb (jL WM) jE))) (jX cB (jX QN (jX Rp (jL cB) (jL gb)) (jX Vo (jL cB) jE)) (jX gb (jX U6 (jL Wh) (jL XF)) (jX cB (jL WZ) jE))))) (jX cB (jX ZC (jX ZN (jX QB (jX Rd (jL gb) (jL W8)) (jX cB (jL Wo) (jL cB))) (jX QU (jX cB (jL V6) (jL Xv)) (jX Vu (jL WI) jE))) (jX (ZY P) (jX cB (jX gb (jL cB) (jL Xi)) (jX Vl (jL cB) jE)) (jX Q3 (jX U4 (jL cB) (jL gb)) (jX VF (jL cB) jE)))) (jX ZH (jX cB (jX QG (jX cB (jL VS) (jL cB)) (jX gb (jL cB) (jL Rz))) (jX cB (jX UZ (jL Wb) (jL cB)) (jX VA (jL WR) jE))) (jX Qx (jX gb (jX Rt (jL V1) (jL Xp)) (jX cB (jL WC) jE)) (jX Q8 (jX U9 (jL gb) (jL XI)) (jX cB (jL gb) jE)))))) (jX (boot_o_5 P) (jX (boot_o_9 P) (jX ZB (jX ZL (jX cB (jX Rb (jL VN) (jL cB)) (jX Vc (jL cB) (jL gb))) (jX cB (jX gb (jL cB) (jL Xs)) (jX Vt (jL cB) jE))) (jX ZW (jX QJ (jX Rm (jL gb) (jL Xh)) (jX cB (jL gb) jE)) (jX Q2 (jX cB (jL We) (jL XC)) (jX VD (jL WW) jE)))) (jX cB (jX ZR (jX QE (jX Rh (jL cB) (jL gb)) (jX Vh (jL gb) (jL XS))) (jX gb (jX UY (jL V9) (jL Xx)) (jX cB (jL WO) jE))) (jX cB (jX QP (jX Rr (jL V0) (jL cB)) (jX gb (jL WB) jE)) (jX cB (jX U7 (jL Wj) (jL cB)) (jX VI (jL W3) jE))))) (jX Tw (jX ZE (jX (ZO P) (jX cB (jX gb (jL cB) (jL W9)) (jX Ve (jL Wp) (jL XQ))) (jX QV (jX UW (jL cB) (jL gb)) (jX Vw (jL cB) jE))) (jX Qv (jX QM (jX cB (jL VY) (jL Xk)) (jX Vm (jL Wz) jE)) (jX Q5 (jX cB (jL Wg) (jL cB)) (jX gb (jL WY) jE)))) (jX cB (jX ZT (jX gb (jX Rj (jL VT) (jL Xf)) (jX cB (jL Wu) jE)) (jX Q0 (jX U1 (jL gb) (jL Xz)) (jX cB (jL gb) jE))) (jX Qz (jX cB (jX Rv (jL V3) (jL cB)) (jX Vr (jL WF) jE)) (jX cB (jX gb (jL cB) (jL XJ)) (jX VK (jL cB) jE))))))) (jX (ZA P) (jX (boot_o_4 P) (jX (boot_o_8 P) (jX gb (jX ZK (jX cB (jX cB (jL VM) (jL W7)) (jX Vb (jL Wn) (jL cB))) (jX QT (jX cB (jL V4) (jL cB)) (jX gb (jL WG) jE))) (jX ZV (jX QI (jX Rl (jL cB) (jL gb)) (jX Vk (jL cB) jE)) (jX gb (jX U2 (jL Wd) (jL XB)) (jX cB (jL WV) jE)))) (jX (ZG P) (jX ZQ (jX cB (jX Rg (jL VR) (jL cB)) (jX Vg (jL cB) (jL gb))) (jX cB (jX gb (jL cB) (jL Xw)) (jX Vy (jL cB) jE))) (jX gb (jX QO (jX Rq (jL gb) (jL Xn)) (jX cB (jL gb) jE)) (jX Q6 (jX cB (jL Wi) (jL XG)) (jX VH (jL W0) jE))))) (jX Xm (jX ZD (jX Pf (jX QC (jX cB (jL VO) (jL cB)) (jX gb (jL cB) (jL XO))) (jX cB (jX UV (jL V7) (jL cB)) (jX Vv (jL WK) jE))) (jX N3 (jX gb (jX Rn (jL VX) (jL Xj)) (jX cB (jL Wy) jE)) (jX Q4 (jX U5 (jL gb) (jL XD)) (jX cB (jL gb) jE)))) (jX ZI (jX gb (jX cB (jX gb (jL cB) (jL Xe)) (jX cB (jL Wt) jE)) (jX QZ (jX U0 (jL cB) (jL gb)) (jX VB (jL cB) jE))) (jX Qy (jX QQ (jX Ru (jL V2) (jL Xq)) (jX Vq (jL WD) jE)) (jX Q9 (jX cB (jL Wk) (jL cB)) (jX gb (jL W4) jE)))))) (jX (boot_o_6 P) (jX (boot_o_10 P) (jX cB (jX ZM (jX QA (jX Rc (jL cB) (jL gb)) (jX Vd (jL gb) (jL XN))) (jX gb (jX UU (jL V5) (jL Xu)) (jX cB (jL WH) jE))) (jX ZX (jX QK (jX cB (jL VW) (jL cB)) (jX gb (jL Wx) jE)) (jX cB (jX U3 (jL Wf) (jL cB)) (jX VE (jL WX) jE)))) (jX gb (jX ZS (jX QF (jX Ri (jL gb) (jL Xd)) (jX cB (jL Ws) (jL XT))) (jX QY (jX cB (jL Wa) (jL Xy)) (jX Vz (jL WQ) jE))) (jX cB (jX cB (jX (Rs P) (jL cB) (jL Xo)) (jX Vp (jL cB) jE)) (jX Q7 (jX U8 (jL cB) (jL gb)) (jX VJ (jL cB) jE))))) (jX Tx (jX ZF (jX cB (jX Pf (jX Rf (jL VP) (jL Xa)) (jX cB (jL Wq) (jL XR))) (jX QW (jX UX (jL gb) (jL cB)) (jX cB (jL gb) jE))) (jX Qw (jX cB (jX Ro (jL VZ) (jL cB)) (jX Vn (jL WA) jE)) (jX cB (jX gb (jL cB) (jL XE)) (jX VG (jL cB) jE)))) (jX (ZJ P) (jX cB (jX QH (jX cB (jL VU) (jL Xg)) (jX Vi (jL Wv) jE)) (jX Q1 (jX cB (jL Wc) (jL cB)) (jX gb (jL WU) jE))) (jX cB (jX QR (jX Rw (jL cB) (jL gb)) (jX Vs (jL cB) jE)) (jX gb (jX Va (jL Wl) (jL XK)) (jX cB (jL W5) jE))))))))
noncomputable def Ha(P:Params):Heap:=⟨#[boot_o_0 P,boot_o_1 P,boot_o_2 P,boot_o_3 P,boot_o_4 P,boot_o_5 P,boot_o_6 P,boot_o_7 P,boot_o_8 P,boot_o_9 P,boot_o_10 P,cB,gb,Tw,Tx],{}⟩
end
noncomputable def Cz:Env:={scope:=eh.main.scope,locals:=mainNs,globals:=mainNs,cells:=[],code:= .ref 13,frame:=some 14}
noncomputable def p0:Pos:=⟨0,0,0,0⟩
noncomputable def cM:Code:= .body (behindTheImports eh) Cz
noncomputable def Pg(T:Params->BT)(n k:Nat)(w:World)(os:OsState):SharedT:=⟨T w.params,n,{},#[],{},k,os⟩
theorem AL(w:World)(n:Nat)(S:SharedT)(t:Thread):segRunT treeTable eh w 11 (some (.ref 6)) 1 n S t=Fast.tw10110043849684766642 Fast.tw14364793385576792824 eh w 11 (some (.ref 6)) 1 n S t:=by
 rw[Fast.te10110043849684766642,iR]
theorem g0(w:World):(λos=>segRunT treeTable eh w 11 (some (.ref 6)) 1 1093 (Pg Tb 15 187 w os) (piecesOf (((behindTheImports eh).drop 0).take 7) Cz cM p0 [topFrame p0]))=λos=>some (.next,Pg T2 160 374 w os,cM,⟨15,0,69,16⟩):=
 (funext λos=>AL w _ _ _).trans (by rfl')
theorem g1(w:World):(λos=>segRunT treeTable eh w 11 (some (.ref 6)) 1 1405 (Pg T2 160 374 w os) (piecesOf (((behindTheImports eh).drop 7).take 48) Cz cM ⟨15,0,69,16⟩ [topFrame p0]))=λos=>some (.next,Pg T6 460 795 w os,cM,⟨424,0,449,16⟩):=
 (funext λos=>AL w _ _ _).trans (by rfl')
noncomputable def H1(P:Params):Heap:=absHeap (T6 P) 460 {}
theorem XU(w:World):(λos=>topGo treeTable eh w 11 (some (.ref 6)) 12 ⟨boot_heap w.params,#[],boot_drawn,boot_toks,os⟩ (topStub eh))=λos=>some (⟨Ha w.params,#[],{},187,os⟩,⟨denote treeTable cM,cM,p0,[topFrame p0]⟩):=by
 rw[Fast.te15667345088766844465,iR,Fast.te11892475500146522536];kernel_rfl
theorem N4(w:World):(λos=>segRun treeTable eh w 11 (some (.ref 6)) 1 1 ⟨Ha w.params,#[],{},187,os⟩ (blockOf (behindTheImports eh) Cz cM p0 [topFrame p0]))=λos=>some (.next,(Pg Tb 15 187 w os).abs,cM,p0):=by
 rw[Fast.te14374325043358763698,iR];kernel_rfl
theorem XV(w:World):(λos=>topRun treeTable eh w 11 (some (.ref 6)) 2 (Pg T6 460 795 w os).abs ⟨doneF .next,cM,⟨424,0,449,16⟩,[topFrame p0]⟩)=λos=>some ⟨H1 w.params,#[],{},795,os⟩:=by
 rw[Fast.te14082659384304107361,iR];kernel_rfl
theorem yo{w:World}{S S':SharedT}{r:Shared}{i k n N:Nat}{p p':Pos}(g:segRunT treeTable eh w 11 (some (.ref 6)) 1 n S (piecesOf (((behindTheImports eh).drop i).take k) Cz cM p [topFrame p0])=some (.next,S',cM,p'))
 (h:topRun treeTable eh w 11 (some (.ref 6)) N S'.abs (restOf ((behindTheImports eh).drop (i+k)) Cz cM p' [topFrame p0])=some r):topRun treeTable eh w 11 (some (.ref 6)) (n+N) S.abs (restOf ((behindTheImports eh).drop i) Cz cM p [topFrame p0])=some r:=by
 have:=piece_app (rest:=(behindTheImports eh).drop (i+k)) (segRun_of g) h
 rwa[<-List.drop_drop,f7]at this
theorem XW(w:World)(os:OsState):topRun treeTable eh w 11 (some (.ref 6)) 2513 ⟨boot_heap w.params,#[],boot_drawn,boot_toks,os⟩ (topStub eh)=some ⟨H1 w.params,#[],{},795,os⟩:=
 go_top (N:=2501) (congrFun (XU w) os) (piece_block (N:=2500) (congrFun (N4 w) os) (yo (i:=0) (N:=1407) (congrFun (g0 w) os) (yo (N:=2) (congrFun (g1 w) os) (piece_nil (congrFun (XV w) os)))))
section
noncomputable def xA:Program:={eh with main:={eh.main with body:=[aY 54]}}
noncomputable def tL:List Str:=(eh.main.scope.names.map (·.1)).filter (λx=>x !=("law":Str))
set_option profiler true
theorem RA:∀w:World,(fencedOpening treeTable eh w 4000).map (λs=>(s.heap,s.gens,s.drawn,s.toks))=some (boot_heap w.params,#[],boot_drawn,boot_toks):=
 boot_open (by rfl') (by decide) (λs=>by rfl)
theorem RB:∀w:World,((boot_heap w.params).isNs mainGlobals&&(#[]:Array GenState).size==0,(boot_heap w.params).objs.size,(boot_heap w.params).nsMap mainGlobals "__annotations__")=(true,11,some (.ref 6)):=λw=>by
 kernel_rfl
theorem RC(w:World):(λos:OsState=>(staticsOk (importedModules eh.main.body) (boot_heap w.params) (H1 w.params)&&namesBound eh (H1 w.params)&&gensDone ⟨H1 w.params,#[],{},795,os⟩&&laidKept (boot_heap w.params) (H1 w.params)))=λ_=>true:=by
 kernel_rfl
end
theorem RD(w:World):(λos:OsState=>openSeen xA tL (importedModules eh.main.body) (λ_=>true) true ⟨H1 w.params,#[],{},795,os⟩)=λ_=>openGood xA tL:=by
 rw[Fast.te4187177175401517315]
 kernel_rfl
theorem RE:LeftO eh xA tL (λ_=>true) Shared.heap (λw=>H1 w.params) 4000:=
 LeftO.of_pieces (M:=2513) RA RB (λw os=>XW w os) (by rfl) λw=>funext λos=>congr (congrArg Prod.mk (congrFun (RC w) os)) (congr (congrArg Prod.mk (congrFun (RD w) os)) rfl)
theorem N5(call:WalkO xA tL (λ_ _=>True) (λw h=>∀b o,(H1 w.params).get? b=some o->h.get? b=some o) PySem.Challenge.rw_no0172_01.row.toRowW ((defOf xA "law").get (by rfl)).1 ((defOf xA "law").get (by rfl)).2 λf vs=>PySem.call f vs):PySem.Challenge.rw_no0172_01.Holds:=by
 refine holds_law (by rw[Fast.te9446332074065402090];kernel_rfl) λXX=> ?_
 refine holds_open (q:=xA) (loose:=tL) (Xt:=λ_=>true) (XP:=λ_ _=>True) (Yf:=Shared.heap) (Ya:=λw=>H1 w.params) (YP:=λw h=>∀b o,(H1 w.params).get? b=some o->h.get? b=some o) (N:=4000) RE
  (λw s e b o h=>by rw[e];exact h) (λw h h' a k b o e=>k b o (a b o e)) (λ_ _=>trivial) (λ_ _ _ _ _=>trivial) (by rfl) (by rfl) (by rfl) (λs _=>recFacts_of (by rfl)) (by rfl) XX (by decide+kernel) ⟨rfl,rfl,rfl,rfl,rfl,by decide+kernel⟩ ?_ call
 exact⟨[WData.list [.int 3]],by decide+kernel,by decide+kernel⟩
theorem ki{P:Params}{a:Nat}{o:Obj}(h:Nat.blt a 460=true)(g:(T6 P).get a=some o)(al:alive o=some o):(H1 P).get? a=some o:=(abs_get (jf.mp h) g).trans al
theorem AM{o:Obj}(h:∀x:Unit,o.data≠ .freed):alive o=some o:=by
 obtain⟨c,d,dt,sl⟩:=o
 cases dt<;>first|rfl|exact absurd rfl (h ())
noncomputable def RF(F:Fn):Bool:=decide F.names.Nodup&&F.names.all (λx=>F.scope.names.lookup x==some .local&& !(x==("__debug__":Str)))&&F.scope.names.all (λx=>x.2 != .cell)&&F.scope.kind== .function&& !F.scope.isCoroutine&& !F.scope.isGenerator&&Nat.ble F.np F.names.length&&Nat.ble F.np 4
noncomputable def XY(o:Option Obj):Option FuncData:=match o with|some ⟨_,_,.func fd,_⟩=>some fd|_=>none
noncomputable def XZ(o:Option Obj):Array Value:=match o with|some ⟨_,_,.fields vs,_⟩=>vs|_=>#[]
noncomputable def AN(P:Params)(F:Fn):FuncData:=(XY ((T6 P).get F.f)).getD default
noncomputable def RG(v:Option Value):Tok:=match v with|some (.str _ t)=>t|_=>0
noncomputable def Kj(P:Params)(F:Fn):Array Value:=XZ ((T6 P).get (F.f-1))
noncomputable def look(P:Params)(F:Fn):=(((T6 P).get F.f).map Obj.data,Nat.blt F.f 460,(AN P F).body,(AN P F).scope,(λL=>callEnv (AN P F) L F.f),F.cd,((T6 P).get (F.f-1)).map Obj.data,(Kj P F)[1]?,(AN P F).code,(AN P F).qualname,RF F)
noncomputable def RH(P:Params)(F:Fn):Option Data×Bool×FuncBody×Scope×(Addr->Env)×Value×Option Data×Option Value×Value×Str×Bool:=(some (.func (AN P F)),true,.stmts F.body,F.scope,(λL=>envOf F.qual F.scope L F.f F.cd),.ref (F.f-1),some (.fields (Kj P F)),some (.str F.qual (RG (Kj P F)[1]?)),F.cd,F.qual,true)
noncomputable def Hk(P:Params)(F:Fn)(a b c d:Value):=bindArgs (AN P F) ⟨[a,b,c,d].take F.np,[]⟩
noncomputable def Hl(F:Fn)(a b c d:Value):Sem (List (Str×Value)):=pure ((F.names.take F.np).zip ([a,b,c,d].take F.np))
theorem RI{α:Type}{M:List α->Prop}(h:M [])(vs:List α)(e:vs.length=0):M vs:=List.eq_nil_of_length_eq_zero e▸h
theorem Hm{α:Type}{M:List α->Prop}{n:Nat}(h:∀a w,w.length=n->M (a::w))(vs:List α):vs.length=n+1->M vs:=by
 cases vs with
 |nil=>exactλe=>(Nat.succ_ne_zero _ e.symm).elim
 |cons a w=>exactλe=>h a w (Nat.succ.inj e)
theorem four:∀vs:List Value,vs.length<=4->∃a b c d,[a,b,c,d].take vs.length=vs
 |[],_=>⟨.none,.none,.none,.none,rfl⟩
 |[a],_=>⟨a,.none,.none,.none,rfl⟩
 |[a,b],_=>⟨a,b,.none,.none,rfl⟩
 |[a,b,c],_=>⟨a,b,c,.none,rfl⟩
 |[a,b,c,d],_=>⟨a,b,c,d,rfl⟩
 |_::_::_::_::_::_,h=>absurd h (by simp)
theorem Hn{C:Ctx}{P:Params}(hC:∀b o,(H1 P).get? b=some o->C.B.get? b=some o)(F:Fn)(l:look P F=RH P F)
 (bind:Nat.ble F.np 4=true->∀s,C.B.StaysIn s.heap->∀vs,vs.length=F.np->BindsTo s (AN P F) ⟨vs,[]⟩ ((F.names.take F.np).zip vs)):FnAt C F:=
 let l2:=congrArg (·.2) l;let l3:=congrArg (·.2) l2;let l4:=congrArg (·.2) l3;let l5:=congrArg (·.2) l4;let l6:=congrArg (·.2) l5;let l7:=congrArg (·.2) l6;let l8:=congrArg (·.2) l7;let l9:=congrArg (·.2) l8;let l0:=congrArg (·.2) l9
 have hF:Nat.blt F.f 460=true:=congrArg (·.1) l2
 have k:RF F=true:=congrArg (·.2) l0
 (aA.mp (congrArg (·.1) l)).elim λo h=>(aA.mp (congrArg (·.1) l7)).elim λoc h'=>
 have k2:=λx hx=>an.mp (av.mp (nX (gf (gf (gf (gf (gf (gf k))))))) x hx)
 ⟨⟨_,o,hC _ _ (ki hF h.1 (AM λ_=>by rw[h.2];nofun)),h.2,congrArg (·.1) l3,congrArg (·.1) l4,congrFun (congrArg (·.1) l5),⟨F.f-1,oc,Kj P F,_,(congrArg (·.1) l9).trans (congrArg (·.1) l6),
  hC _ _ (ki (jf.mpr (ah (Nat.sub_le _ _) (jf.mp hF))) h'.1 (AM λ_=>by rw[h'.2];nofun)),h'.2,(congrArg (·.1) l8).trans (congrArg (λq=>some (Value.str q _)) (congrArg (·.1) l0).symm)⟩,λs vs k' h=>bind (nX k) s k' vs h⟩,
  of_decide_eq_true (gf (gf (gf (gf (gf (gf (gf k))))))),λx hx=>beq_iff_eq.mp (k2 x hx).1,λx hx=>bne_iff_ne.mp (av.mp (nX (gf (gf (gf (gf (gf k)))))) x hx),beq_iff_eq.mp (nX (gf (gf (gf (gf k))))),
  Tf (nX (gf (gf (gf k)))),Tf (nX (gf (gf k))),bE (nX (gf k)),λx hx=>Tf (k2 x hx).2⟩
theorem ej{C:Ctx}{P:Params}(hC:∀b o,(H1 P).get? b=some o->C.B.get? b=some o)(F:Fn)(l:(look P F,Hk P F)=(RH P F,Hl F)):FnAt C F:=
 Hn hC F (congrArg Prod.fst l) λk8 s _ vs h=>by
  obtain⟨a,b,c,d,e⟩:=four vs (h▸bE k8)
  have l4:Hk P F a b c d=Hl F a b c d:=congrFun (congrFun (congrFun (congrFun (congrArg Prod.snd l) a) b) c) d
  unfold Hk Hl at l4
  rw[<-h,e]at l4
  exact .of_eq (h▸l4)
section
variable{C:Ctx}{P:Params}(hC:∀b o,(H1 P).get? b=some o->C.B.get? b=some o)
include hC
theorem Fp:FnAt C dK:=Hn hC _ (by rfl') λ_ s k=>Hm λa=>Hm λb=>Hm λc=>RI
 (BindsTo.of_defaults (T:=335) rfl (k _ _ (hC _ _ (ki rfl rfl rfl))) rfl rfl rfl)
theorem tM:FnAt C fF:=Hn hC _ (by rfl') λ_ s k=>Hm λa=>Hm λb=>RI
 (BindsTo.of_defaults (T:=42) rfl (k _ _ (hC _ _ (ki rfl rfl rfl))) rfl rfl rfl)
end
noncomputable def KF(P:Params):Frag:=[3,30,31,49,51,52,82,89,96,103,110,117,124,154,155].map λa=>(a,((T6 P).get a).getD default)
theorem RJ{P:Params}{h:Heap}(hC:∀b o,(H1 P).get? b=some o->h.get? b=some o):(KF P).In h:=Frag.In.keeps (Frag.in_of (h:=H1 P) (as:=[3,30,31,49,51,52,82,89,96,103,110,117,124,154,155]) (by rfl') (by rfl')) hC
noncomputable def RK(P:Params)(a:Nat):ClassData:=match(T6 P).get a with|some ⟨_,_,.cls c,_⟩=>c|_=>default
theorem Mj{h:Heap}{a:Nat}{m m':Str->Option Value}(x:h.Ns a m)(y:h.Ns a m')(n:Str):m n=m' n:=by
 obtain⟨o,es,ep,e1,e2,e3,e4⟩:=x
 obtain⟨o',NL,Zq,f1,f2,f3,f4⟩:=y
 rw[e1]at f1;cases f1;rw[e2]at f2;cases f2
 rw[<-e4,<-f4]
noncomputable def Ho(P:Params)(a:Nat):Array DictEntry:=match(T6 P).get a with|some ⟨_,_,.dict es _,_⟩=>es|_=>#[]
noncomputable def DY(o:Option Obj):Bool:=match o with|some ⟨_,_,.dict es _,_⟩=>es.toList.all (λe=>match e.key with|.str .. =>true|_=>false)|_=>false
theorem Kk{P:Params}{h:Heap}(hC:∀b o,(H1 P).get? b=some o->h.get? b=some o){a:Nat}(ha:Nat.blt a 460=true)(k:DY ((T6 P).get a)=true):h.Ns a (nsFind (Ho P a)):=by
 unfold DY at k
 split at k
 ·rename_i es n _ g
  refine⟨_,es,n,hC _ _ (ki ha g rfl),rfl,λe he=> ?_,λ_=>by unfold Ho;rw[g]⟩
  have:=av.mp k e (Array.mem_toList_iff.mpr he)
  obtain⟨hh,kk,vv⟩:=e
  cases kk<;>first|exact⟨_,_,rfl⟩|cases this
 ·cases k
theorem dv{P:Params}{C:Ctx}(hC:∀b o,(H1 P).get? b=some o->C.B.get? b=some o)(G:C.B.Ns mainGlobals C.mg){x:Str}{r:Option Value}(e:nsFind (Ho P 3) x=r):C.mg x=r:=
 (Mj G (Kk hC (a:=3) (by decide) (by rfl')) x).trans e
theorem po{C:Ctx}{P:Params}(hC:∀b o,(H1 P).get? b=some o->C.B.get? b=some o)(G:dr C)(hb:∀x:Str,x≠"__name__"->C.mb x=bootBuiltins x)(Hp:C.lf=52):PO C (KF P) (RK P 155) (RK P 52)where
 G:=G
 lU:=tM hC
 qz:=ej hC _ (by rfl')
 qA:=dv hC G.gY (by rfl')
 lV:=ej hC _ (by rfl')
 lY:=dv hC G.gY (by rfl')
 oH:=ej hC _ (by rfl')
 gJ:=ej hC _ (by rfl')
 oJ:=ej hC _ (by rfl')
 gq:=ej hC _ (by rfl')
 kc:=ej hC _ (by rfl')
 oK:=ej hC _ (by rfl')
 m7:=ej hC _ (by rfl')
 vR:=ej hC _ (by rfl')
 vS:=dv hC G.gY (by rfl')
 rB:=ej hC _ (by rfl')
 rC:=dv hC G.gY (by rfl')
 sg:=ej hC _ (by rfl')
 si:=dv hC G.gY (by rfl')
 vT:=ej hC _ (by rfl')
 vU:=dv hC G.gY (by rfl')
 qB:=ej hC _ (by rfl')
 qC:=dv hC G.gY (by rfl')
 m8:=ej hC _ (by rfl')
 m9:=dv hC G.gY (by rfl')
 AC:=ej hC _ (by rfl')
 AD:=dv hC G.gY (by rfl')
 vV:=ej hC _ (by rfl')
 vW:=dv hC G.gY (by rfl')
 yi:=ej hC _ (by rfl')
 yj:=dv hC G.gY (by rfl')
 qD:=ej hC _ (by rfl')
 qE:=dv hC G.gY (by rfl')
 qF:=ej hC _ (by rfl')
 qG:=dv hC G.gY (by rfl')
 sj:=ej hC _ (by rfl')
 so:=dv hC G.gY (by rfl')
 ur:=ej hC _ (by rfl')
 uv:=dv hC G.gY (by rfl')
 AE:=ej hC _ (by rfl')
 AF:=dv hC G.gY (by rfl')
 vX:=ej hC _ (by rfl')
 vY:=dv hC G.gY (by rfl')
 sq:=ej hC _ (by rfl')
 ss:=dv hC G.gY (by rfl')
 uw:=ej hC _ (by rfl')
 ux:=dv hC G.gY (by rfl')
 qH:=ej hC _ (by rfl')
 qI:=dv hC G.gY (by rfl')
 qJ:=ej hC _ (by rfl')
 qK:=dv hC G.gY (by rfl')
 uy:=ej hC _ (by rfl')
 uz:=dv hC G.gY (by rfl')
 na:=ej hC _ (by rfl')
 nb:=dv hC G.gY (by rfl')
 nc:=ej hC _ (by rfl')
 ng:=dv hC G.gY (by rfl')
 oU:=ej hC _ (by rfl')
 oY:=dv hC G.gY (by rfl')
 qL:=ej hC _ (by rfl')
 qM:=dv hC G.gY (by rfl')
 jy:=ej hC _ (by rfl')
 jz:=dv hC G.gY (by rfl')
 yk:=Fp hC
 ym:=dv hC G.gY (by rfl')
 uA:=ej hC _ (by rfl')
 uB:=dv hC G.gY (by rfl')
 su:=ej hC _ (by rfl')
 sw:=dv hC G.gY (by rfl')
 nh:=ej hC _ (by rfl')
 ni:=dv hC G.gY (by rfl')
 o0:=ej hC _ (by rfl')
 o6:=dv hC G.gY (by rfl')
 nn:=ej hC _ (by rfl')
 nq:=dv hC G.gY (by rfl')
 sy:=ej hC _ (by rfl')
 sA:=dv hC G.gY (by rfl')
 o7:=ej hC _ (by rfl')
 o8:=dv hC G.gY (by rfl')
 ke:=ej hC _ (by rfl')
 kg:=dv hC G.gY (by rfl')
 o9:=ej hC _ (by rfl')
 pb:=dv hC G.gY (by rfl')
 vZ:=ej hC _ (by rfl')
 v8:=dv hC G.gY (by rfl')
 v9:=ej hC _ (by rfl')
 wa:=dv hC G.gY (by rfl')
 uC:=ej hC _ (by rfl')
 uD:=dv hC G.gY (by rfl')
 qN:=ej hC _ (by rfl')
 qO:=dv hC G.gY (by rfl')
 pd:=ej hC _ (by rfl')
 pe:=dv hC G.gY (by rfl')
 qP:=ej hC _ (by rfl')
 qQ:=dv hC G.gY (by rfl')
 qR:=ej hC _ (by rfl')
 qS:=dv hC G.gY (by rfl')
 Me:=dv hC G.gY (by rfl')
 Mf:=dv hC G.gY (by rfl')
 yn:=dv hC G.gY (by rfl')
 pf:=(dv hC G.gY (by rfl')).trans (by rw[Hp])
 Mg:=dv hC G.gY (by rfl')
 Mh:=(hb _ (by decide)).trans (by rfl')
 Hf:=dv hC G.gY (by rfl')
 Hg:=(hb _ (by decide)).trans (by rfl')
 AG:=dv hC G.gY (by rfl')
 AH:=(hb _ (by decide)).trans (by rfl')
 sB:=dv hC G.gY (by rfl')
 sC:=(hb _ (by decide)).trans (by rfl')
 sD:=dv hC G.gY (by rfl')
 sE:=(hb _ (by decide)).trans (by rfl')
 m_ord:=dv hC G.gY (by rfl')
 Mi:=(hb _ (by decide)).trans (by rfl')
 Hh:=dv hC G.gY (by rfl')
 Hi:=(hb _ (by decide)).trans (by rfl')
 wb:=dv hC G.gY (by rfl')
 wc:=(hb _ (by decide)).trans (by rfl')
 DN:=dv hC G.gY (by rfl')
 DO:=(hb _ (by decide)).trans (by rfl')
 zd:=dv hC G.gY (by rfl')
 ze:=(hb _ (by decide)).trans (by rfl')
 wd:=dv hC G.gY (by rfl')
 we:=(hb _ (by decide)).trans (by rfl')
 DP:=dv hC G.gY (by rfl')
 DQ:=(hb _ (by decide)).trans (by rfl')
 sF:=dv hC G.gY (by rfl')
 sG:=(hb _ (by decide)).trans (by rfl')
 hX:=RJ hC
 oS:=⟨by rfl',rfl,by rfl',by rfl',by rfl',by rfl'⟩
 oL:=by rw[Hp];exact⟨by rfl',rfl,by rfl',rfl,by rfl',λself=>by rfl'⟩
 DR:=by rw[Hp];kernel_rfl
 exc:= .mk (N:=51) (mN:=nsFind (Ho P 51)) (by rw[Hp];exact hC _ _ (ki (o:=N3) rfl rfl rfl)) (Kk hC (a:=51) (by decide) (by rfl')) (by rfl') (.own (A:=31) (mA:=nsFind (Ho P 30)) (hC _ _ (ki (o:=UR) rfl rfl rfl)) (Kk hC (a:=30) (by decide) (by rfl')) (by rfl') .base) (hC _ _ (ki rfl rfl rfl)) rfl (by decide)
 sH:=by rfl'
 AI:=by rfl'
 ju:=by rfl'
 nr:=by rfl'
 jj:=by rfl'
 uE:=by rfl'
 il:=by rfl'
 kh:=by rfl'
 DS:=by rfl'
 DT:=by rfl'
 sI:=by rfl'
 sJ:=by rfl'
 DU:=by rfl'
 DV:=by rfl'
 mE:=by rfl'
 mF:=by rfl'
 zg:=by rfl'
 zh:=by rfl'
 DW:=by rfl'
 DX:=by rfl'
 AJ:=by rfl'
 AK:=by rfl'
 Zz:=by rfl'
 Qu:=⟨_,_,_,_,_,_,_,_,_,_,_,_,_,_,_,_,_,hC _ _ (ki rfl rfl rfl)⟩
section
variable{C:Ctx}{K:Frag}{bL bM:ClassData}{lv:Nat}{σ:St}{Q:PV->St->Prop}{X:Prop}
noncomputable def qf(c:Int):Bool:=decide (48<=c)&&decide (c<=57)
noncomputable def fT(c:Int):Bool:=decide (97<=c)&&decide (c<=122)
noncomputable def jc(c:Int):Bool:=decide (65<=c)&&decide (c<=90)
noncomputable def jI(c:Int):Bool:=fT c||jc c||qf c||decide (c=95)
theorem vg(v:Int):(if v<0 then-v else v)=((v.natAbs:Nat):Int):=by split<;>omega
noncomputable def g9:List Nat->Bool
 |[]=>false
 |c::cs=>fT c&&(c::cs).all λd=>jI (d:Nat)
noncomputable def jW(kvs:List ((Int×Int)×Int)):List (List Int×Int):=kvs.map λp=>([p.1.1,p.1.2],p.2)
theorem Fq{kvs:List ((Int×Int)×Int)}(h:(kvs.map (·.1)).Nodup):((jW kvs).map (·.1)).Nodup:=by
 unfold jW
 rw[b3,show((λx=>x.1)∘λ(p:(Int×Int)×Int)=>([p.1.1,p.1.2],p.2))=(λ(q:Int×Int)=>[q.1,q.2])∘(·.1)from rfl,<-b3]
 exact List.Pairwise.map _ (λa b hZ e=>hZ (by simp at e;exact Prod.ext e.1 e.2)) h
theorem AO{kvs:List ((Int×Int)×Int)}(h:(kvs.map (·.1)).Nodup){k:Nat}{p:(Int×Int)×Int}(hp:kvs[k]?=some p):b0 (jW kvs) [p.1.1,p.1.2]=some p.2:=
 r9 (Fq h) (bj.2 ⟨p,aD hp,rfl⟩)
noncomputable def Jj(p:(Int×Int)×Int):Bool:=decide (p.1.1=4\/p.1.1=5)&&decide (0<=p.2)
noncomputable def Jk(p:Int×Int):Bool:=decide (0<=p.1)&&decide (0<=p.2)
inductive dA where
 |CA (x:Str) (n:Int)
 |con (k n:Int)
 |num (n:Int)
 |dY (kvs:List ((Int×Int)×Int))
 |tabI (kvs:List (Int×Int))
noncomputable def dA.pv:dA->PV
 |.CA x n=> .tup [.str x,.int n]
 |.con k n=> .tup [.int k,.int n]
 |.num n=> .int n
 |.dY kvs=> .dY (jW kvs)
 |.tabI kvs=> .tabI kvs
noncomputable def dA.fits(k:Str):dA->Prop
 |.CA _ _=>k="R"\/k="X"\/k="Y"
 |.con _ _=>k="C"
 |.num _=>k="F"\/k="N"\/k="L"
 |.dY kvs=>k="T"/\(kvs.map (·.1)).Nodup
 |.tabI kvs=>k="U"/\(kvs.map (·.1)).Nodup
noncomputable def pg(k:Str):List Str:=if k="R" then["x","y"]else if k="X" then["x"]else["y"]
noncomputable def dA.ok(k:Str):dA->Bool
 |.CA x n=>decide (x∈pg k)&&decide (1<=n)
 |.con c _=>decide (c=4\/c=5)
 |.num n=>decide (0<=n)
 |.dY kvs=>kvs.all Jj
 |.tabI kvs=>kvs.all Jk
noncomputable def jJ:List Nat->List dA->Prop
 |[],[]=>True
 |k::ks,o::os=>o.fits (mk [k])/\jJ ks os
 |_,_=>False
noncomputable def jA:List Nat->List dA->Bool
 |k::ks,o::os=>o.ok (mk [k])&&jA ks os
 |_,_=>true
theorem tP{α β:Type}[DecidableEq α]{γ:Type}(f:β->γ)(kvs:List (α×β))(k:α):b0 (kvs.map λp=>(p.1,f p.2)) k=(b0 kvs k).map f:=by
 induction kvs with
 |nil=>rfl
 |cons p r ih=>
  obtain⟨a,b⟩:=p
  simp only[bp,b0,List.find?_cons]at ih⊢
  by_cases e:a=k
  ·simp[e]
  ·simp only[e,decide_false];exact ih
theorem iN:∀{ks:List Nat} {os:List dA},jJ ks os->os.length=ks.length
 |[],[],_=>rfl
 |k::ks,o::os,h=>by rw[aw,aw,iN h.2]
theorem uF:∀{ks:List Nat} {os:List dA},jJ ks os->∀{i:Nat} {k:Nat} {o:dA},ks[i]?=some k->os[i]?=some o->o.fits (mk [k])
 |k::ks,o::os,h,i,k',o',hk,ho=>by
  cases i with
  |zero=>simp at hk ho;subst hk;subst ho;exact h.1
  |succ n=>exact uF h.2 (by simpa using hk) (by simpa using ho)
noncomputable def kj(n:Nat):Nat:=if n<10 then 48+n else 87+n
noncomputable def Fs(k:Nat):Nat->List Nat:=Nat.rec (λn=>[kj n]) (λ_ r n=>if n<16 then[kj n]else r (n/16)++[kj (n%16)]) k
theorem Mk:∀k m n,n<=k->n<=m->Fs k n=Fs m n
 |0,0,_,_,_=>rfl
 |0,m+1,n,h,_=>by rw[Nat.le_zero.mp h];rfl
 |k+1,0,n,_,h=>by rw[Nat.le_zero.mp h];rfl
 |k+1,m+1,n,h,h'=>by
  show(if n<16 then[kj n]else Fs k (n/16)++[kj (n%16)])=if n<16 then[kj n]else Fs m (n/16)++[kj (n%16)]
  split
  ·rfl
  ·rename_i q
   have:=Nat.div_lt_self (au (by decide) (cu q)) (by decide:1<16)
   rw[Mk k m (n/16) (d9 (au this h)) (d9 (au this h'))]
noncomputable def mG(n:Nat):List Nat:=Fs n n
theorem DZ:∀n:Nat,mG n=if n<16 then[kj n]else mG (n/16)++[kj (n%16)]
 |0=>rfl
 |n+1=>by
  show(if n+1<16 then[kj (n+1)]else Fs n ((n+1)/16)++[kj ((n+1)%16)])=_
  split
  ·rfl
  ·rename_i q
   have:=Nat.div_lt_self (au (by decide) (cu q)) (by decide:1<16)
   rw[mG,Mk n _ _ (d9 this) (ai _)]
theorem Hq:L (Str.ofString "0123456789abcdef")=[48,49,50,51,52,53,54,55,56,57,97,98,99,100,101,102]:=by ac_rfl
theorem AP{i:Nat}(h:i<16):(L (Str.ofString "0123456789abcdef"))[i]?=some (kj i):=by
 rw[Hq]
 have:∀j:Fin 16,([48,49,50,51,52,53,54,55,56,57,97,98,99,100,101,102]:List Nat)[j.val]?=some (kj j.val):=by decide
 exact this ⟨i,h⟩
theorem wg:∀{k n:Nat},n<16^(k+1)->(mG n).length<=k+1
 |0,n,h=>by rw[DZ,if_pos (by simpa using h)];simp
 |k+1,n,h=>by
  rw[DZ]
  split
  ·simp
  ·have:=wg (k:=k) (n:=n/16) (by rw[qv]at h;omega)
   simp;exact this
noncomputable def wj(c:Nat):Bool:=decide (33<=c)&&decide (c<=126)&&decide (c≠39)&&decide (c≠92)
noncomputable def zi(c:Nat):List Nat:=if wj c then[c]else 92::120::(mG c++[92])
noncomputable def cJ(t:List Nat):List Nat:=if g9 t then t else 39::(t.flatMap zi++[39])
noncomputable def eo(t:List Nat):Prop:=t.length<=1000/\∀c∈t,c<4294967296
theorem D0{c:Nat}(h:c<4294967296):(zi c).length<=11:=by
 unfold zi
 split
 ·simp
 ·have:=wg (k:=7) (n:=c) h
  simp;exact this
theorem N6:L (Str.ofString "!")=[33]:=by ac_rfl
theorem Kl:L (Str.ofString "~")=[126]:=by ac_rfl
theorem wm:L (Str.ofString "'")=[39]:=by ac_rfl
theorem zj:L (Str.ofString "\\")=[92]:=by ac_rfl
theorem Km:L (Str.ofString "\\x")=[92,120]:=by ac_rfl
end
section
open PySem.StrLaws PySem.Builtin.Str
noncomputable def Jl(c:Nat)(l:List Nat):Option Nat:=l.findIdx? (λd=>d==c)
theorem Hr{c i:Nat}{l:List Nat}(h:Jl c l=some i):i<l.length:=(List.findIdx?_eq_some_iff_getElem.mp h).elim λh _=>h
theorem yp{x:Str}{c:Nat}{p r:List Nat}(hx:L x=p++r):Txt.find3 x (mk [c]) (p.length:Nat)=(Jl c r).elim (-1) λj=>((p.length+j:Nat):Int):=by
 have hf:fromIndex x.length ((p.length:Nat):Int)=p.length:=by unfold fromIndex;rw[if_neg (eX.mpr (aF _))];rfl
 have at_:∀i,(L x)[p.length+i]?=r[i]?:=λi=>by rw[hx,bS (ay _ _),hV]
 rcases find3_spec x c (p.length:Nat)with⟨h1,h2⟩|⟨k,h1,h2,h3,h4,h5⟩
 ·have e:Jl c r=none:=List.findIdx?_eq_none_iff.mpr λd hd=>(dP hd).elim λi hi=>beq_eq_false_iff_ne.mpr λe=>
   h2 (p.length+i) (aa (aZ hf) (ay _ _)) (gA x▸(aj.mp ((at_ i).trans hi)).1) (getD_of_getElem? ((at_ i).trans (hi.trans (congrArg some e))))
  rw[e];exact h1
 ·rw[hf]at h2 h5
  obtain⟨i,rfl⟩:=Nat.exists_eq_add_of_le h2
  have hi:=aj.mp ((at_ i).symm.trans (getElem?_of_getD h3 h4))
  have e:Jl c r=some i:=List.findIdx?_eq_some_iff_getElem.mpr ⟨hi.1,beq_iff_eq.mpr hi.2,λj hj q=>h5 (p.length+j) (ay _ _) (fD hj _) (getD_of_getElem? ((at_ j).trans ((aB (b4 hj hi.1)).trans (congrArg some (beq_iff_eq.mp q)))))⟩
  rw[e];exact h1
theorem Kn(x:Str)(c:Nat):Txt.find x (mk [c])=(Jl c (L x)).elim (-1) λj=>(j:Int):=by
 have:=yp (x:=x) (c:=c) (p:=[]) rfl
 have e:Txt.find3 x (mk [c]) ((0:Nat):Int)=Txt.find x (mk [c]):=by unfold Txt.find3 Txt.find fromIndex;simp;rfl
 rw[p8,e]at this
 rw[this];simp only[cU]
noncomputable def ft(c:Nat):List Nat->Option (List Nat×List Nat)
 |[]=>none
 |d::r=>match ft c r with
  |some (a,b)=>some (d::a,b)
  |none=>if d=c then some ([],r)else none
theorem mH{c:Nat}:∀{l:List Nat},c∉l->ft c l=none
 |[],_=>rfl
 |d::r,h=>by
  have h1:d≠c:=λe=>h (by simp[e])
  rw[ft,mH (l:=r) λq=>h (by simp[q])];simp[h1]
theorem kJ{c:Nat}:∀{a b:List Nat},c∉b->ft c (a++c::b)=some (a,b)
 |[],b,h=>by rw[fC,ft,mH h];simp
 |d::a,b,h=>by rw[fN,ft,kJ h]
theorem uG{c:Nat}:∀{l:List Nat},ft c l=none->c∉l
 |[],_=>by simp
 |d::r,h=>by
  rw[ft]at h
  split at h
  ·cases h
  ·rename_i e
   split at h
   ·cases h
   ·rename_i e2
    intro hm
    rcases ak.mp hm with q|q
    ·exact e2 q.symm
    ·exact uG e q
theorem mI{c:Nat}:∀{l a b:List Nat},ft c l=some (a,b)->l=a++c::b/\c∉b
 |[],a,b,h=>by cases h
 |d::r,a,b,h=>by
  rw[ft]at h
  split at h
  ·rename_i a' b' e
   obtain⟨h1,h2⟩:=mI e
   cases h;rw[h1];exact⟨rfl,h2⟩
  ·rename_i e
   split at h
   ·rename_i e2;cases h;subst e2
    exact⟨rfl,uG e⟩
   ·cases h
theorem AQ(x:Str)(c:Nat):Txt.rfind x (mk [c])=match ft c (L x)with|some (a,_)=>((a.length:Nat):Int)|none=> -1:=by
 have hL:(L x).length=x.length:=gA x
 have at_:∀i,At x (mk [c]) x.length i↔(L x)[i]?=some c:=λi=>by
  constructor
  ·intro h;exact(subAt_one x c i).mp h
  ·intro h;exact(subAt_one x c i).mpr h
 unfold Txt.rfind
 rcases last_spec x (mk [c])with⟨h1,h2⟩|⟨i,h1,h2,h3⟩
 ·rw[h1,mH]
  intro hm
  obtain⟨i,hi⟩:=dP hm
  exact h2 i ((at_ i).mpr hi)
 ·rw[h1]
  have hi:=(at_ i).mp h2
  have eP:=(aj.mp hi).1
  have e:L x=(L x).take i++c::(L x).drop (i+1):=by
   conv=>lhs;rw[<-f7 i (L x)]
   congr 1
   rw[bY eP,(aj.mp hi).2]
  have hn:c∉(L x).drop (i+1):=by
   intro hm
   obtain⟨j,hj⟩:=dP hm
   rw[List.getElem?_drop]at hj
   exact h3 (i+1+j) (by exact ay _ _) ((at_ _).mpr hj)
  rw[e,kJ hn]
  simp only[cg]
  rw[cY (by exact a9 eP)]
theorem yq{x:Str}{a b:Int}(h:0<=a/\a<=b/\b<=(L x).length):Txt.slice x (some a) (some b)=mk (((L x).drop a.toNat).take (b-a).toNat):=sliceText_plain h
section
variable{x:Str}{p m q:List Nat}
theorem CB(h:L x=p++(m++q)):Txt.slice x (some ((p.length:Nat):Int)) (some ((p.length+m.length:Nat):Int))=mk m:=by
 rw[yq ⟨aF _,cT.mpr (ay _ _),cT.mpr (by rw[h,<-aC,ae,ae];exact ay _ _)⟩,bD,Int.toNat_sub,h,List.drop_left,hV,List.take_left]
theorem yr(h:L x=m++q):Txt.slice x none (some ((m.length:Nat):Int))=mk m:=by
 have e:=sliceText_to (x:=x) (j:=((m.length:Nat):Int)) ⟨aF _,cT.mpr (by rw[show x.cps.toList=m++q from h,ae];exact ay _ _)⟩
 rw[Int.sub_zero,fj,bD,show x.cps.toList=m++q from h,List.take_left]at e
 exact e
theorem jk(h:L x=p++m):Txt.slice x (some ((p.length:Nat):Int)) none=mk m:=by
 have e:=sliceText_from (x:=x) (i:=((p.length:Nat):Int)) ⟨aF _,cT.mpr (by rw[show x.cps.toList=p++m from h,ae];exact ay _ _)⟩
 rw[bD,Int.toNat_sub,show x.cps.toList=p++m from h,List.drop_left,ae,hV,fO]at e
 exact e
end
section
variable{C:Ctx}{K:Frag}{bL bM:ClassData}{lv:Nat}{σ:St}{Q:PV->St->Prop}{X:Prop}
noncomputable def Ml(c:Nat):Option Nat:=Jl c [48,49,50,51,52,53,54,55,56,57,97,98,99,100,101,102]
noncomputable def im:Nat->List Nat->Option Nat
 |v,[]=>some v
 |v,c::r=>match Ml c with
  |none=>none
  |some f=>if v*16+f>1114111 then none else im (v*16+f) r
noncomputable def lZ(l:List Nat):Option Nat:=im 0 l
end
end
theorem N7:L (Str.ofString "x")=[120]:=by ac_rfl
theorem X1:L (Str.ofString "y")=[121]:=by ac_rfl
theorem Ft:L (Str.ofString "0")=[48]:=by ac_rfl
theorem RL:L (Str.ofString "9")=[57]:=by ac_rfl
theorem Ko:L (Str.ofString "-")=[45]:=by ac_rfl
section
variable{C:Ctx}{K:Frag}{bL bM:ClassData}{lv:Nat}{σ:St}{Q:PV->St->Prop}{X:Prop}
noncomputable def Fu(r:List Nat):Option (Nat×List Nat):=(Jl 92 r).bind λj=>if j<2\/r[0]?≠some 120 then none else(lZ ((r.take j).drop 1)).map λv=>(v,r.drop (j+1))
noncomputable def wn:Nat->List Nat->Option (List Nat)
 |0=>λ_=>none
 |n+1=>λl=>List.casesOn l (some []) λc r=>if c≠92 then(wn n r).map (c::·)else(Fu r).bind λe=>(wn n e.2).map (e.1::·)
noncomputable def iO(w:List Nat):Option (List Nat):=
 if g9 w then some w else
 if w.length<2\/w[0]?≠some 39\/w[w.length-1]?≠some 39 then none else
 (wn (w.length+1) ((w.drop 1).take (w.length-2))).bind λt=>if cJ t=w then some t else none
theorem kW:∀{l:List Nat} {v u:Nat},v<=1114111->im v l=some u->u<=1114111
 |[],v,u,h,e=>by cases e;exact h
 |c::r,v,u,h,e=>by
  rw[im]at e
  split at e
  ·cases e
  ·split at e
   ·cases e
   ·exact kW (by exact cu (by assumption)) e
theorem D6{r:List Nat}{e:Nat×List Nat}(h:Fu r=some e):e.1<=1114111/\e.2.length<r.length/\e.2<:+r:=(ao.mp h).elim λj h=>
 Decidable.byCases (λq:j<2\/r[0]?≠some 120=>absurd ((if_pos q).symm.trans h.2) nofun) λq=>(aA.mp ((if_neg q).symm.trans h.2)).elim λv hv=>hv.2▸
  ⟨kW (by decide) hv.1,by rw[eY];exact Nat.sub_lt (ah (fh _) (Hr h.1)) (ce _),List.drop_suffix _ _⟩
theorem Kp{n:Nat}:∀{l t:List Nat},wn n l=some t->t.length<=l.length/\∀c∈t,c∈l\/c<=1114111:=by
 induction n with
 |zero=>exactλh=>(aT _ h.symm).elim
 |succ n ih=>
  intro l t h
  cases l with
  |nil=>exact ax h▸⟨ai _,λc hc=> .inl hc⟩
  |cons c r=>
   by_cases q:c≠92
   ·exact(aA.mp ((if_pos q).symm.trans h)).elim λu hu=>hu.2▸have i:=ih hu.1
     ⟨a6 i.1,λd hd=>(ak.mp hd).elim (λe=> .inl (e▸az)) λhd=>(i.2 d hd).imp (aK _) id⟩
   ·exact(ao.mp ((if_neg q).symm.trans h)).elim λe he=>(aA.mp he.2).elim λu hu=>hu.2▸have i:=ih hu.1;have k:=D6 he.1
     ⟨a6 (aa i.1 (a9 k.2.1)),λd hd=>(ak.mp hd).elim (λe=> .inr (e▸k.1)) λhd=>(i.2 d hd).imp (λq=>aK _ (k.2.2.subset q)) id⟩
theorem tQ(P:PO C K bL bM){x t:Addr}{v:PV}(hx:σ x=some (.exc C.lf t true))(h:Q .none (σ.upd x (.exc C.lf t false))):Spec C fF lv [.loc x,v] σ Q X:=by
 refine Spec.intro (ρ:=[some (.loc x),some v]) rfl (by conv=>lhs;whnf) ?_
 intro L' outer A F
 with_reducible
  refine bw ?_
 refine r8 P.hX P.oL P.DR ?_
 with_reducible
  refine aV (by assumption) 1 (by ac_rfl) (by ac_rfl) ?_
  refine aV (by assumption) 0 (by ac_rfl) (by ac_rfl) ?_
 refine⟨x,t,rfl,hx,?_⟩
 with_reducible
  refine g7 ?_
 exact h
theorem N8(P:PO C K bL bM):∀(x t:Addr) (v:PV) (σ':St),σ' x=some (.exc C.lf t true)->Spec C fF 0 [.loc x,v] σ' (λr τ=>r=.none/\τ x=some (.exc C.lf t false)) False:=
 λx t v σ' hx=>tQ P hx ⟨rfl,St.bz _ _ _⟩
end
structure BA where
 x:Addr
 d:Addr
 lt:Addr
 da:Addr
 lf:Addr
 df:Addr
structure ar where
 texts:List Str
 bh:List (Nat×Nat)
noncomputable def iV(a:BA):List (Str×PV):=[("texts",.loc a.lt),("atom_numbers",.loc a.da),("functors",.loc a.lf),("functor_numbers",.loc a.df)]
noncomputable def sL(l:List Str):List (Str×PV):=l.zipIdx.map λp=>(p.1,.int (p.2:Nat))
noncomputable def rD(l:List (Nat×Nat)):List (List Int×Int):=l.zipIdx.map λp=>([(p.1.1:Int),(p.1.2:Int)],((p.2:Nat):Int))
noncomputable def kK(f:Nat×Nat):PV:= .tup [.int f.1,.int f.2]
structure ar.Ok(B:ar):Prop where
 t:B.texts.Nodup
 f:B.bh.Nodup
 lt:∀f∈B.bh,f.1<B.texts.length
structure gK(σ:St)(a:BA)(B:ar):Prop where
 hx:σ a.x=some (.inst 155 a.d)
 hd:σ a.d=some (.ca (iV a))
 ht:σ a.lt=some (.list (B.texts.map .str))
 ha:σ a.da=some (.ca (sL B.texts))
 hf:σ a.lf=some (.list (B.bh.map kK))
 hn:σ a.df=some (.hY (rD B.bh))
 ne1:a.lt≠a.lf
 ne2:a.d≠a.da
theorem eA{σ:St}{a b:Addr}{c d:dx}(h:σ a=some c)(h':σ b=some d)(n:c≠d):a≠b:=λe=>by subst e;rw[h]at h';cases h';exact n rfl
noncomputable def cS(σ:St)(a:BA)(B:ar):St:=(((σ.upd a.lt (.list (B.texts.map .str))).upd a.da (.ca (sL B.texts))).upd a.lf (.list (B.bh.map kK))).upd a.df (.hY (rD B.bh))
structure BA.Ne(a:BA):Prop where
 n1:a.lt≠a.da
 n2:a.lt≠a.lf
 n3:a.lt≠a.df
 n4:a.da≠a.lf
 n5:a.da≠a.df
 n6:a.lf≠a.df
 d1:a.d≠a.lt
 d2:a.d≠a.da
 d3:a.d≠a.lf
 d4:a.d≠a.df
 x1:a.x≠a.lt
 x2:a.x≠a.da
 x3:a.x≠a.lf
 x4:a.x≠a.df
 x5:a.x≠a.d
theorem gK.ne{σ:St}{a:BA}{B:ar}(h:gK σ a B):a.Ne:=
 ⟨eA h.ht h.ha (by simp),h.ne1,eA h.ht h.hn (by simp),eA h.ha h.hf (by simp),eA h.ha h.hn (by simp),eA h.hf h.hn (by simp),
  eA h.hd h.ht (by simp),h.ne2,eA h.hd h.hf (by simp),eA h.hd h.hn (by simp),eA h.hx h.ht (by simp),eA h.hx h.ha (by simp),eA h.hx h.hf (by simp),eA h.hx h.hn (by simp),eA h.hx h.hd (by simp)⟩
theorem gM(σ:St){a:BA}(B:ar)(n:a.Ne):cS σ a B a.lt=some (.list (B.texts.map .str)):=by
 unfold cS;rw[St.bu _ _ n.n3,St.bu _ _ n.n2,St.bu _ _ n.n1,St.bz]
theorem gN(σ:St){a:BA}(B:ar)(n:a.Ne):cS σ a B a.da=some (.ca (sL B.texts)):=by
 unfold cS;rw[St.bu _ _ n.n5,St.bu _ _ n.n4,St.bz]
theorem gP(σ:St){a:BA}(B:ar)(n:a.Ne):cS σ a B a.lf=some (.list (B.bh.map kK)):=by
 unfold cS;rw[St.bu _ _ n.n6,St.bz]
theorem gQ(σ:St)(a:BA)(B:ar):cS σ a B a.df=some (.hY (rD B.bh)):=by
 unfold cS;rw[St.bz]
theorem dL(σ:St){a:BA}(B:ar){b:Addr}(h1:b≠a.lt)(h2:b≠a.da)(h3:b≠a.lf)(h4:b≠a.df):cS σ a B b=σ b:=by
 unfold cS;rw[St.bu _ _ h4,St.bu _ _ h3,St.bu _ _ h2,St.bu _ _ h1]
theorem wo{σ τ:St}(a:BA)(h1:σ a.lt=τ a.lt)(h2:σ a.da=τ a.da)(h3:σ a.lf=τ a.lf)(h4:σ a.df=τ a.df)(h:∀b,b≠a.lt->b≠a.da->b≠a.lf->b≠a.df->σ b=τ b):σ=τ:=by
 funext b
 by_cases e1:b=a.lt
 ·rw[e1];exact h1
 by_cases e2:b=a.da
 ·rw[e2];exact h2
 by_cases e3:b=a.lf
 ·rw[e3];exact h3
 by_cases e4:b=a.df
 ·rw[e4];exact h4
 exact h b e1 e2 e3 e4
theorem gK.same{σ:St}{a:BA}{B:ar}(h:gK σ a B):cS σ a B=σ:=
 wo a ((gM _ _ h.ne).trans h.ht.symm) ((gN _ _ h.ne).trans h.ha.symm) ((gP _ _ h.ne).trans h.hf.symm) ((gQ _ _ _).trans h.hn.symm) λb h1 h2 h3 h4=>dL _ _ h1 h2 h3 h4
theorem ph{σ:St}{a:BA}{B B':ar}(n:a.Ne):cS (cS σ a B) a B'=cS σ a B':=
 wo a ((gM _ _ n).trans (gM _ _ n).symm) ((gN _ _ n).trans (gN _ _ n).symm) ((gP _ _ n).trans (gP _ _ n).symm) ((gQ _ _ _).trans (gQ _ _ _).symm)
  λb h1 h2 h3 h4=>by rw[dL _ _ h1 h2 h3 h4,dL _ _ h1 h2 h3 h4,dL _ _ h1 h2 h3 h4]
theorem gK.put{σ:St}{a:BA}{B:ar}(h:gK σ a B)(B':ar):gK (cS σ a B') a B':=
 ⟨by rw[dL _ _ h.ne.x1 h.ne.x2 h.ne.x3 h.ne.x4];exact h.hx,by rw[dL _ _ h.ne.d1 h.ne.d2 h.ne.d3 h.ne.d4];exact h.hd,gM _ _ h.ne,gN _ _ h.ne,gP _ _ h.ne,gQ _ _ _,h.ne1,h.ne2⟩
noncomputable def ix{α:Type}[DecidableEq α](k:α):List α->Nat
 |[]=>0
 |x::l=>if x=k then 0 else ix k l+1
theorem CC{α:Type}[DecidableEq α]{t:α}:∀{l:List α},t∉l->ix t (l++[t])=l.length
 |[],_=>by simp[ix]
 |y::l,hm=>by
  have h1:¬y=t:=λq=>hm (by simp[q])
  rw[fN,ix,if_neg h1,CC (l:=l) λq=>hm (aK _ q)];rfl
theorem tR{K V:Type}[DecidableEq K](g:Nat->V)(k:K):∀(l:List K) (n:Nat),b0 ((l.zipIdx n).map λp=>(p.1,g p.2)) k=if k∈l then some (g (n+ix k l))else none
 |[],n=>by simp[b0]
 |x::l,n=>by
  have ih:=tR g k l (n+1)
  unfold b0 at ih⊢
  rw[List.zipIdx_cons,bp,List.find?_cons]
  by_cases e:x=k
  ·subst e;simp[ix]
  ·have e':k≠x:=λq=>e q.symm
   simp only[e,decide_false,ih,ak,e',false_or,ix,if_false]
   by_cases hm:k∈l
   ·rw[if_pos hm,if_pos hm];congr 2;exact bI _ _ _
   ·rw[if_neg hm,if_neg hm]
theorem yt(l:List Str)(t:Str):b0 (sL l) t=if t∈l then some (.int (ix t l:Nat))else none:=by
 have:=tR (λi:Nat=>PV.int (i:Nat)) t l 0
 simpa[sL]using this
theorem Kq(l:List (Nat×Nat)):rD l=((l.map λf=>[(f.1:Int),(f.2:Int)]).zipIdx.map λp=>(p.1,((p.2:Nat):Int))):=by
 unfold rD;rw[List.zipIdx_map,b3];rfl
theorem D7{f g:Nat×Nat}(h:[(f.1:Int),(f.2:Int)]=[(g.1:Int),(g.2:Int)]):f=g:=by
 simp at h;exact Prod.ext (by exact Int.ofNat.inj h.1) (by exact Int.ofNat.inj h.2)
theorem yu(l:List (Nat×Nat))(f:Nat×Nat):b0 (rD l) [(f.1:Int),(f.2:Int)]=if f∈l then some ((ix f l:Nat):Int)else none:=by
 rw[Kq]
 have:=tR (λi:Nat=>((i:Nat):Int)) [(f.1:Int),(f.2:Int)] (l.map λf=>[(f.1:Int),(f.2:Int)]) 0
 have hm:([(f.1:Int),(f.2:Int)]∈l.map λf=>[(f.1:Int),(f.2:Int)])↔f∈l:=by
  constructor
  ·intro h;obtain⟨g,hg,e⟩:=bj.mp h;exact D7 e▸hg
  ·intro h;exact bj.mpr ⟨f,h,rfl⟩
 have hi:ix [(f.1:Int),(f.2:Int)] (l.map λf=>[(f.1:Int),(f.2:Int)])=ix f l:=by
  clear this hm
  induction l with
  |nil=>rfl
  |cons g l ih=>
   rw[bp]
   by_cases e:g=f
   ·subst e;simp[ix]
   ·have:[(g.1:Int),(g.2:Int)]≠[(f.1:Int),(f.2:Int)]:=λq=>e (D7 q)
    rw[ix,ix,if_neg this,if_neg e,ih]
 rw[this];simp only[hm,hi,cU]
theorem Hs(l:List Str)(t:Str):sL (l++[t])=sL l++[(t,.int (l.length:Nat))]:=by simp[sL,List.zipIdx_append]
theorem Ht(l:List (Nat×Nat))(f:Nat×Nat):rD (l++[f])=rD l++[([(f.1:Int),(f.2:Int)],((l.length:Nat):Int))]:=by simp[rD,List.zipIdx_append]
theorem sM{K V:Type}[DecidableEq K]{kvs:List (K×V)}{k:K}{v:V}(h:b0 kvs k=none):hK kvs k v=kvs++[(k,v)]:=by
 unfold hK
 have:kvs.any (λp=>decide (p.1=k))=false:=by
  unfold b0 at h
  simp only[Option.map_eq_none_iff,List.find?_eq_none]at h
  rw[List.any_eq_false];exactλp hp=>by simpa using h p hp
 rw[this];rfl
noncomputable def ar.atom(B:ar)(t:Str):ar:=if t∈B.texts then B else⟨B.texts++[t],B.bh⟩
noncomputable def ar.du(B:ar)(f:Nat×Nat):ar:=if f∈B.bh then B else⟨B.texts,B.bh++[f]⟩
theorem bd1(a:BA):b0 (iV a) (Str.ofString "texts")=some (.loc a.lt):=by ac_rfl
theorem bd2(a:BA):b0 (iV a) (Str.ofString "atom_numbers")=some (.loc a.da):=by ac_rfl
theorem bd3(a:BA):b0 (iV a) (Str.ofString "functors")=some (.loc a.lf):=by ac_rfl
theorem bd4(a:BA):b0 (iV a) (Str.ofString "functor_numbers")=some (.loc a.df):=by ac_rfl
section
variable{C:Ctx}{K:Frag}{bL bM:ClassData}{lv:Nat}{σ:St}{Q:PV->St->Prop}{X:Prop}{a:BA}{B:ar}
local macro_rules |`(tactic|left)=>`(tactic|first|exact iB.str|exact iB.tup|exact iB.list (by assumption)|exact iB.list (St.bz _ _ _)|exact iB.ca (St.bz _ _ _))
local macro_rules |`(tactic|right)=>`(tactic|with_reducible first|exact bd1 _|exact bd2 _|exact bd3 _|exact bd4 _)
theorem kl(P:PO C K bL bM){t:Str}(hB:gK σ a B)(hz:B.texts.length<=1000000)(h:Q (.int (ix t (B.atom t).texts:Nat)) (cS σ a (B.atom t))):Spec C gC lv [.loc a.x,.str t] σ Q X:=by
 refine Spec.intro (ρ:=[some (.loc a.x),some (.str t),none,none]) rfl (by conv=>lhs;whnf) ?_
 intro L' outer A F
 have hx:=hB.hx
 have hd:=hB.hd
 have n:=hB.ne
 have ha:=hB.ha
 have ht:=hB.ht
 with_reducible
  refine bw ?_
  refine gd (by assumption) 2 (by ac_rfl) ?_
  refine gy G5 ?_
  refine iH P.hX P.oS P.ju ?_
  refine aV (by assumption) 0 (by ac_rfl) (by ac_rfl) ?_
 refine⟨_,_,_,_,rfl,by with_reducible assumption,by with_reducible assumption,by right,?_⟩
 refine⟨by first|exact congrArg (Option.bind · dx.ty) ha|exact congrArg (Option.bind · dx.ty) (St.bz _ _ _)|exact congrArg (Option.bind · dx.ty) hB.hf|exact congrArg (Option.bind · dx.ty) hB.ht,?_⟩
 with_reducible
  refine cR ?_
  refine aV (by assumption) 1 (by ac_rfl) (by ac_rfl) ?_
  refine cR ?_
  refine rg ?_
  refine dn ?_
  refine Cc ?_
  refine eT ?_
 refine JY P.G ha ?_
 rw[yt]
 by_cases hm:t∈B.texts
 ·have e:B.atom t=B:=by unfold ar.atom;rw[if_pos hm]
  rw[e,hB.same]at h
  rw[if_pos hm,dQ]
  with_reducible
   refine bw ?_
   refine ub ?_
   refine gx ?_
   refine aV (by assumption) 2 (by ac_rfl) (by ac_rfl) ?_
   refine dn ?_
   refine Ah ?_
   refine eS ?_
   refine Hc (decide_eq_true (by exact aF _)) ?_
   refine bw ?_
   refine dC ?_
   refine aV (by assumption) 2 (by ac_rfl) (by ac_rfl) ?_
  exact h
 ·rw[if_neg hm,Option.getD_none]
  have e:B.atom t=⟨B.texts++[t],B.bh⟩:=by unfold ar.atom;rw[if_neg hm]
  have hx2:∀c,(σ.upd a.lt c) a.x=some (.inst 155 a.d):=λc=>by rw[St.bu _ _ n.x1];exact hx
  have hd2:∀c,(σ.upd a.lt c) a.d=some (.ca (iV a)):=λc=>by rw[St.bu _ _ n.d1];exact hd
  have hx3:=hx2 (.list ((B.texts.map .str)++[.str t]))
  have hd3:=hd2 (.list ((B.texts.map .str)++[.str t]))
  have X2:(σ.upd a.lt (.list ((B.texts.map .str)++[.str t]))) a.da=some (.ca (sL B.texts)):=by rw[St.bu _ _ n.n1.symm];exact ha
  with_reducible
   refine bw ?_
   refine ub ?_
   refine gx ?_
   refine aV (by assumption) 2 (by ac_rfl) (by ac_rfl) ?_
   refine dn ?_
   refine Ah ?_
   refine eS ?_
   refine Hd (decide_eq_false (by exact by decide)) ?_
   refine g7 ?_
   refine bw ?_
   refine gd (by assumption) 3 (by ac_rfl) ?_
   refine ij P.G (by assumption) (by ac_rfl) P.sD P.sE ?_
   refine cR ?_
   refine iH P.hX P.oS P.sH ?_
   refine aV (by assumption) 0 (by ac_rfl) (by ac_rfl) ?_
  refine⟨_,_,_,_,rfl,by with_reducible assumption,by with_reducible assumption,by right,?_⟩
  with_reducible
   refine eT ?_
   refine iA (by assumption) ?_ ?_
  simp;exact ah hz (by decide)
  with_reducible
   refine bw ?_
   refine qb (by assumption) ?_
   refine gy jU ?_
   refine iH P.hX P.oS P.sH ?_
   refine aV (by assumption) 0 (by ac_rfl) (by ac_rfl) ?_
  refine⟨_,_,_,_,rfl,by with_reducible assumption,by with_reducible assumption,by right,?_⟩
  refine⟨by first|exact congrArg (Option.bind · dx.ty) ha|exact congrArg (Option.bind · dx.ty) (St.bz _ _ _)|exact congrArg (Option.bind · dx.ty) hB.hf|exact congrArg (Option.bind · dx.ty) hB.ht,?_⟩
  with_reducible
   refine cR ?_
   refine aV (by assumption) 1 (by ac_rfl) (by ac_rfl) ?_
   refine eT ?_
   refine tB (by assumption) ?_ ?_
  rotate_left
  with_reducible
   refine bw ?_
   refine eg ?_
   refine aV (by assumption) 3 (by ac_rfl) (by ac_rfl) ?_
   refine iH P.hX P.oS P.ju ?_
   refine aV (by assumption) 0 (by ac_rfl) (by ac_rfl) ?_
  refine⟨_,_,_,_,rfl,by with_reducible assumption,by with_reducible assumption,by right,?_⟩
  with_reducible
   refine aV (by assumption) 1 (by ac_rfl) (by ac_rfl) ?_
  rotate_right 1
  ·rw[g8];simp;exact aa hz (by decide)
  refine GO (by with_reducible assumption) (by rw[g8];simp[sL];exact aa hz (by decide)) ?_
  with_reducible
   refine bw ?_
   refine dC ?_
   refine aV (by assumption) 3 (by ac_rfl) (by ac_rfl) ?_
  rw[sM (by rw[yt,if_neg hm])]
  have el:(B.texts.map PV.str).length=B.texts.length:=af _
  have es:ix t (B.texts++[t])=B.texts.length:=CC hm
  have h':=h
  rw[e,es]at h'
  rw[el]
  have e2:cS σ a ⟨B.texts++[t],B.bh⟩=(σ.upd a.lt (.list (B.texts.map .str++[.str t]))).upd a.da (.ca (sL B.texts++[(t,.int (B.texts.length:Nat))])):=by
   refine wo a ?_ ?_ ?_ ?_ λb h1 h2 h3 h4=> ?_
   ·rw[gM _ _ n,St.bu _ _ n.n1,St.bz];simp
   ·rw[gN _ _ n,St.bz,Hs]
   ·rw[gP _ _ n,St.bu _ _ n.n4.symm,St.bu _ _ n.n2.symm];exact hB.hf.symm
   ·rw[gQ,St.bu _ _ n.n5.symm,St.bu _ _ n.n3.symm];exact hB.hn.symm
   ·rw[dL _ _ h1 h2 h3 h4,St.bu _ _ h2,St.bu _ _ h1]
  rw[e2]at h'
  exact h'
theorem wq(P:PO C K bL bM){i:Nat}{t:Str}(hB:gK σ a B)(hi:B.texts[i]?=some t)(hz:i<2^62)(h:Q (.str t) σ):Spec C gD lv [.loc a.x,.int i] σ Q X:=by
 refine Spec.intro (ρ:=[some (.loc a.x),some (.int i)]) rfl (by conv=>lhs;whnf) ?_
 intro L' outer A F
 have hx:=hB.hx
 have hd:=hB.hd
 have ht:=hB.ht
 with_reducible
  refine bw ?_
  refine dC ?_
  refine gB ?_
  refine iH P.hX P.oS P.sH ?_
  refine aV (by assumption) 0 (by ac_rfl) (by ac_rfl) ?_
 refine⟨_,_,_,_,rfl,by with_reducible assumption,by with_reducible assumption,by right,?_⟩
 with_reducible
  refine aV (by assumption) 1 (by ac_rfl) (by ac_rfl) ?_
 refine⟨by left,?_⟩
 exact eU ht (by exact aF _) (by exact rf [.lt (.v 0) (.n 4611686018427387904)] (.BO (.c (.v 0)) (.n 9223372036854775808)) [1] (Eq.refl true) hz) (by simp[hi]) h
theorem wt(P:PO C K bL bM){i:Nat}{f:Nat×Nat}(hB:gK σ a B)(hi:B.bh[i]?=some f)(hz:i<2^62)(h:Q (.int f.1) σ):Spec C gG lv [.loc a.x,.int i] σ Q X:=by
 refine Spec.intro (ρ:=[some (.loc a.x),some (.int i)]) rfl (by conv=>lhs;whnf) ?_
 intro L' outer A F
 have hx:=hB.hx
 have hd:=hB.hd
 have hf:=hB.hf
 with_reducible
  refine bw ?_
  refine dC ?_
  refine gB ?_
  refine gB ?_
  refine iH P.hX P.oS P.jj ?_
  refine aV (by assumption) 0 (by ac_rfl) (by ac_rfl) ?_
 refine⟨_,_,_,_,rfl,by with_reducible assumption,by with_reducible assumption,by right,?_⟩
 with_reducible
  refine aV (by assumption) 1 (by ac_rfl) (by ac_rfl) ?_
 refine⟨by left,?_⟩
 refine eU hf (pv:=kK f) (by exact aF _) (by exact rf [.lt (.v 0) (.n 4611686018427387904)] (.BO (.c (.v 0)) (.n 9223372036854775808)) [1] (Eq.refl true) hz) (by simp[hi]) ?_
 with_reducible
  refine dn ?_
 refine⟨by left,?_⟩
 exact om (by decide) (by decide) rfl h
theorem uY(P:PO C K bL bM){i:Nat}{f:Nat×Nat}(hB:gK σ a B)(hi:B.bh[i]?=some f)(hz:i<2^62)(h:Q (.int f.2) σ):Spec C f9 lv [.loc a.x,.int i] σ Q X:=by
 refine Spec.intro (ρ:=[some (.loc a.x),some (.int i)]) rfl (by conv=>lhs;whnf) ?_
 intro L' outer A F
 have hx:=hB.hx
 have hd:=hB.hd
 have hf:=hB.hf
 with_reducible
  refine bw ?_
  refine dC ?_
  refine gB ?_
  refine gB ?_
  refine iH P.hX P.oS P.jj ?_
  refine aV (by assumption) 0 (by ac_rfl) (by ac_rfl) ?_
 refine⟨_,_,_,_,rfl,by with_reducible assumption,by with_reducible assumption,by right,?_⟩
 with_reducible
  refine aV (by assumption) 1 (by ac_rfl) (by ac_rfl) ?_
 refine⟨by left,?_⟩
 refine eU hf (pv:=kK f) (by exact aF _) (by exact rf [.lt (.v 0) (.n 4611686018427387904)] (.BO (.c (.v 0)) (.n 9223372036854775808)) [1] (Eq.refl true) hz) (by simp[hi]) ?_
 with_reducible
  refine dn ?_
 refine⟨by left,?_⟩
 exact om (by decide) (by decide) rfl h
theorem kM(P:PO C K bL bM){f:Nat×Nat}(hB:gK σ a B)(hz:B.bh.length<=1000000)(h:Q (.int (ix f (B.du f).bh:Nat)) (cS σ a (B.du f))):Spec C fn lv [.loc a.x,.int f.1,.int f.2] σ Q X:=by
 refine Spec.intro (ρ:=[some (.loc a.x),some (.int f.1),some (.int f.2),none,none,none]) rfl (by conv=>lhs;whnf) ?_
 intro L' outer A F
 have hx:=hB.hx
 have hd:=hB.hd
 have n:=hB.ne
 have ha:=hB.hn
 have ht:=hB.hf
 with_reducible
  refine bw ?_
  refine gd (by assumption) 3 (by ac_rfl) ?_
  refine rQ ?_
  refine cR ?_
  refine aV (by assumption) 1 (by ac_rfl) (by ac_rfl) ?_
  refine cR ?_
  refine aV (by assumption) 2 (by ac_rfl) (by ac_rfl) ?_
  refine eT ?_
 refine⟨by first|decide|(simp[sizeLine];done),?_⟩
 with_reducible
  refine bw ?_
  refine gd (by assumption) 4 (by ac_rfl) ?_
  refine gy G5 ?_
  refine iH P.hX P.oS P.il ?_
  refine aV (by assumption) 0 (by ac_rfl) (by ac_rfl) ?_
 refine⟨_,_,_,_,rfl,by with_reducible assumption,by with_reducible assumption,by right,?_⟩
 refine⟨by first|exact congrArg (Option.bind · dx.ty) ha|exact congrArg (Option.bind · dx.ty) (St.bz _ _ _)|exact congrArg (Option.bind · dx.ty) hB.hf|exact congrArg (Option.bind · dx.ty) hB.ht,?_⟩
 with_reducible
  refine cR ?_
  refine aV (by assumption) 3 (by ac_rfl) (by ac_rfl) ?_
  refine cR ?_
  refine rg ?_
  refine dn ?_
  refine Cc ?_
  refine eT ?_
 refine JZ P.G F (ks:=[(f.1:Int),(f.2:Int)]) ha ?_
 rw[yu]
 by_cases hm:f∈B.bh
 ·have e:B.du f=B:=by unfold ar.du;rw[if_pos hm]
  rw[e,hB.same]at h
  rw[if_pos hm,dQ]
  with_reducible
   refine bw ?_
   refine ub ?_
   refine gx ?_
   refine aV (by assumption) 4 (by ac_rfl) (by ac_rfl) ?_
   refine dn ?_
   refine Ah ?_
   refine eS ?_
   refine Hc (decide_eq_true (by exact aF _)) ?_
   refine bw ?_
   refine dC ?_
   refine aV (by assumption) 4 (by ac_rfl) (by ac_rfl) ?_
  exact h
 ·rw[if_neg hm,Option.getD_none]
  have e:B.du f=⟨B.texts,B.bh++[f]⟩:=by unfold ar.du;rw[if_neg hm]
  have hx3:(σ.upd a.lf (.list ((B.bh.map kK)++[.tup [.int f.1,.int f.2]]))) a.x=some (.inst 155 a.d):=by rw[St.bu _ _ n.x3];exact hx
  have hd3:(σ.upd a.lf (.list ((B.bh.map kK)++[.tup [.int f.1,.int f.2]]))) a.d=some (.ca (iV a)):=by rw[St.bu _ _ n.d3];exact hd
  have X2:(σ.upd a.lf (.list ((B.bh.map kK)++[.tup [.int f.1,.int f.2]]))) a.df=some (.hY (rD B.bh)):=by rw[St.bu _ _ n.n6.symm];exact ha
  with_reducible
   refine bw ?_
   refine ub ?_
   refine gx ?_
   refine aV (by assumption) 4 (by ac_rfl) (by ac_rfl) ?_
   refine dn ?_
   refine Ah ?_
   refine eS ?_
   refine Hd (decide_eq_false (by exact by decide)) ?_
   refine g7 ?_
   refine bw ?_
   refine gd (by assumption) 5 (by ac_rfl) ?_
   refine ij P.G (by assumption) (by ac_rfl) P.sD P.sE ?_
   refine cR ?_
   refine iH P.hX P.oS P.jj ?_
   refine aV (by assumption) 0 (by ac_rfl) (by ac_rfl) ?_
  refine⟨_,_,_,_,rfl,by with_reducible assumption,by with_reducible assumption,by right,?_⟩
  with_reducible
   refine eT ?_
   refine iA (by assumption) ?_ ?_
  simp;exact ah hz (by decide)
  with_reducible
   refine bw ?_
   refine qb (by assumption) ?_
   refine gy jU ?_
   refine iH P.hX P.oS P.jj ?_
   refine aV (by assumption) 0 (by ac_rfl) (by ac_rfl) ?_
  refine⟨_,_,_,_,rfl,by with_reducible assumption,by with_reducible assumption,by right,?_⟩
  refine⟨by first|exact congrArg (Option.bind · dx.ty) ha|exact congrArg (Option.bind · dx.ty) (St.bz _ _ _)|exact congrArg (Option.bind · dx.ty) hB.hf|exact congrArg (Option.bind · dx.ty) hB.ht,?_⟩
  with_reducible
   refine cR ?_
   refine aV (by assumption) 3 (by ac_rfl) (by ac_rfl) ?_
   refine eT ?_
   refine tB (by assumption) ?_ ?_
  rotate_left
  with_reducible
   refine bw ?_
   refine eg ?_
   refine aV (by assumption) 5 (by ac_rfl) (by ac_rfl) ?_
   refine iH P.hX P.oS P.il ?_
   refine aV (by assumption) 0 (by ac_rfl) (by ac_rfl) ?_
  refine⟨_,_,_,_,rfl,by with_reducible assumption,by with_reducible assumption,by right,?_⟩
  with_reducible
   refine aV (by assumption) 3 (by ac_rfl) (by ac_rfl) ?_
  rotate_right 1
  ·rw[g8];simp;exact aa hz (by decide)
  refine An F (ks:=[(f.1:Int),(f.2:Int)]) (by with_reducible assumption) (by rw[g8];simp[rD];exact aa hz (by decide)) ?_
  with_reducible
   refine bw ?_
   refine dC ?_
   refine aV (by assumption) 5 (by ac_rfl) (by ac_rfl) ?_
  rw[sM (by rw[yu,if_neg hm])]
  have el:(B.bh.map kK).length=B.bh.length:=af _
  have es:ix f (B.bh++[f])=B.bh.length:=CC hm
  have h':=h
  rw[e,es]at h'
  rw[el]
  have e2:cS σ a ⟨B.texts,B.bh++[f]⟩=(σ.upd a.lf (.list (B.bh.map kK++[.tup [.int f.1,.int f.2]]))).upd a.df (.hY (rD B.bh++[([(f.1:Int),(f.2:Int)],((B.bh.length:Nat):Int))])):=by
   refine wo a ?_ ?_ ?_ ?_ λb h1 h2 h3 h4=> ?_
   ·rw[gM _ _ n,St.bu _ _ n.n3,St.bu _ _ n.n2];exact hB.ht.symm
   ·rw[gN _ _ n,St.bu _ _ n.n5,St.bu _ _ n.n4];exact hB.ha.symm
   ·rw[gP _ _ n,St.bu _ _ n.n6,St.bz];simp[kK]
   ·rw[gQ,St.bz,Ht]
   ·rw[dL _ _ h1 h2 h3 h4,St.bu _ _ h4,St.bu _ _ h3]
  rw[e2]at h'
  exact h'
end
noncomputable section
noncomputable def RM(c:Const):Option PV:=Const.casesOn c none (λ_=>none) (λi=>some (.int i)) (λ_=>none) (λ_ _=>none) (λx=>some (.str x)) (λ_=>none) none
noncomputable def Kr{α β:Type}(f:α->Option β)(xs:List α):Option (List β):=List.rec (some []) (λe _ ih=>(f e).bind λv=>ih.map (v::·)) xs
noncomputable def CD(n:Nat):Expr->Option PV:=Nat.rec (λ_=>none) (λ_ ih e=>sel none e (con:=λc _ _=>RM c) (tup:=λes _ _=>if es.length<=1000 then(Kr ih es).map .tup else none)) n
noncomputable def zk(n:Nat):List Expr->Option (List PV):=Kr (CD n)
end
theorem Hu{α β:Type}{f:α->Option β}{es:List α}:∀{vs:List β},Kr f es=some vs->vs.length=es.length:=by
 induction es with
 |nil=>exactλ{vs} h=>ax h▸rfl
 |cons e es ih=>exactλ{vs} h=>(ao.mp h).elim λv h=>(aA.mp h.2).elim λus h=>h.2▸congrArg (·+1) (ih h.1)
section
variable{C:Ctx}{fr:Fm}{ρ:b9}{X:Prop}
theorem Hv{σ:St}{p:Pos}{e:Expr}{es:List Expr}{Q:List PV->St->Prop}(h:WE C fr e ρ σ (λv aM=>WL C fr p es ρ aM (λvs=>Q (v::vs)) X) X)
 (he:∀env,starEach (e::es) env=(false,eval e env)::starEach es env):WL C fr p (e::es) ρ σ Q X:=cR h he
structure AR(C:Ctx)(fr:Fm)(e:Expr)(v:PV):Prop where
 star:∀es env,starEach (e::es) env=(false,eval e env)::starEach es env
 run:∀{ρ:b9} {X:Prop} {σ:St} {Q:PV->St->Prop},Q v σ->WE C fr e ρ σ Q X
theorem D8{f:Expr->Option PV}{p:Pos}{es:List Expr}(hf:∀{e v},f e=some v->AR C fr e v):∀{vs:List PV} {σ:St} {Q:List PV->St->Prop},Kr f es=some vs->Q vs σ->WL C fr p es ρ σ Q X:=by
 induction es with
 |nil=>exactλ{vs σ Q} h hq=>eT (ax h▸hq)
 |cons e es ih=>exactλ{vs σ Q} h hq=>(ao.mp h).elim λv h=>(aA.mp h.2).elim λus h'=>Hv ((hf h.1).run (ih h'.1 (h'.2▸hq))) ((hf h.1).star es)
theorem Mm(n:Nat):∀{e:Expr} {v:PV},CD n e=some v->AR C fr e v:=by
 induction n with
 |zero=>exactλh=>(aT _ h.symm).elim
 |succ n ih=>
  intro e v
  have n0:∀{e:Expr},(none:Option PV)=some v->AR C fr e v:=λh=>(aT v h.symm).elim
  exact fR (λe q=>q=some v->AR C fr e v) e (λ_=>n0) (λ_ _=>n0) (λc _ _=>Const.casesOn (motive:=λc=>RM c=some v->AR C fr (.Constant c _ _) v) c n0 (λ_=>n0) (λi h=>ax h▸⟨λ_ _=>rfl,dn⟩) (λ_=>n0) (λ_ _=>n0) (λx h=>ax h▸⟨λ_ _=>rfl,yU⟩) (λ_=>n0) n0)
   (λ_ _ _ _=>n0) (λ_ _ _=>n0) (λ_ _ _=>n0) (λ_ _ _ _=>n0) (λ_ _ _ _=>n0) (λ_ _ _ _=>n0) (λ_ _ _=>n0) (λ_ _ _=>n0)
   (λes _ _ h=>Decidable.byCases (λhl:es.length<=1000=>(aA.mp ((if_pos hl).symm.trans h)).elim λvs hv=>hv.2▸⟨λ_ _=>rfl,λhq=>rQ (D8 ih hv.1 ⟨by rw[Hu hv.1,g8];exact aa hl (by decide),hq⟩)⟩) λhl=>n0 ((if_neg hl).symm.trans h))
   (λ_ _=>n0) (λ_ _ _ _=>n0) (λ_ _ _=>n0) (λ_ _ _ _=>n0)
theorem AS(n:Nat){e:Expr}{v:PV}{σ:St}{Q:PV->St->Prop}(h:CD n e=some v)(hq:Q v σ):WE C fr e ρ σ Q X:=(Mm n h).run hq
theorem Hw(n:Nat){p:Pos}{es:List Expr}{vs:List PV}{σ:St}{Q:List PV->St->Prop}(h:zk n es=some vs)(hq:Q vs σ):WL C fr p es ρ σ Q X:=D8 (Mm n) h hq
end
noncomputable def km:List Str:=["[]",".","{}","-","+","*","/",",","|",";","->","\\+",":-","?-","-->","!","true","fail","false","call","=","^","error","","end_of_file","system","$VAR","catch","throw"]
noncomputable def jd:List (Str×Nat):=[(".",2),(",",2),(";",2),("->",2),("\\+",1),(":-",2),(":-",1),("?-",1),("-->",2),("{}",1),("=",2),("^",2),("-",1),("-",2),("+",2),("/",2),("error",2),("$VAR",1),("catch",3),("throw",1),("!",0),("true",0),("fail",0),("false",0),("call",1),("call",2),("call",3),("call",4),("call",5),("call",6),("call",7),("call",8)]
section
variable{C:Ctx}{K:Frag}{bL bM:ClassData}{lv:Nat}{σ:St}{Q:PV->St->Prop}{X:Prop}{a:BA}{B:ar}
theorem xB(h:Q (.tup (km.map .str)) σ):Spec C kS lv [] σ Q X:=by
 with_reducible refine Spec.intro (ρ:=[]) (by decide) (by with_unfolding_all(conv=>lhs;whnf)) ?_
 intro L' outer A F
 with_reducible
  refine bw ?_
 with_reducible
  refine dC ?_
 with_reducible refine AS 60 ?_ h
 kernel_rfl
theorem tS(h:Q (.tup (jd.map λf=> .tup [.str f.1,.int (f.2:Nat)])) σ):Spec C i9 lv [] σ Q X:=by
 with_reducible refine Spec.intro (ρ:=[]) (by decide) (by with_unfolding_all(conv=>lhs;whnf)) ?_
 intro L' outer A F
 with_reducible
  refine bw ?_
 with_reducible
  refine dC ?_
 with_reducible refine AS 60 ?_ h
 kernel_rfl
end
noncomputable def ar.func(B:ar)(t:Str)(r:Nat):ar:=(B.atom t).du (ix t (B.atom t).texts,r)
theorem ar.ib(B:ar)(t:Str):(B.atom t).texts.length<=B.texts.length+1/\(B.atom t).bh=B.bh:=by
 unfold ar.atom;split<;>simp
theorem ar.uS(B:ar)(f:Nat×Nat):(B.du f).bh.length<=B.bh.length+1/\(B.du f).texts=B.texts:=by
 unfold ar.du;split<;>simp
section
variable{C:Ctx}{K:Frag}{bL bM:ClassData}{lv:Nat}{σ:St}{Q:PV->St->Prop}{X:Prop}{a:BA}{B:ar}
theorem pi(P:PO C K bL bM){t:Str}{r:Nat}(hl:1<=lv)(hB:gK σ a B)(hz:B.texts.length<=1000000)(lE:B.bh.length<=1000000)(h:Q (.int (ix (ix t (B.atom t).texts,r) (B.func t r).bh:Nat)) (cS σ a (B.func t r))):Spec C gF lv [.loc a.x,.str t,.int r] σ Q X:=by
 refine Spec.intro (ρ:=[some (.loc a.x),some (.str t),some (.int r)]) rfl (by conv=>lhs;whnf) ?_
 intro L' outer A F
 have hx:=hB.hx
 have hd:=hB.hd
 have hB2:=hB.put (B.atom t)
 have ZZ:(B.atom t).bh.length<=1000000:=by rw[(B.ib t).2];exact lE
 have h':=h
 rw[<-ph (B:=B.atom t) hB.ne]at h'
 with_reducible
  refine bw ?_
  refine dC ?_
  refine i7 P.G (by assumption) P.gq (lv:=0) P.hX P.oS P.mE P.mF (bn (by with_unfolding_all assumption)) ?_
  refine aV (by assumption) 0 (by ac_rfl) (by ac_rfl) ?_
 refine⟨_,_,_,rfl,by with_reducible assumption,by with_reducible assumption,by ac_rfl,?_⟩
 with_reducible
  refine cR ?_
  refine i7 P.G (by assumption) P.gJ (lv:=0) P.hX P.oS P.sI P.sJ (bn (by with_unfolding_all assumption)) ?_
  refine aV (by assumption) 0 (by ac_rfl) (by ac_rfl) ?_
 refine⟨_,_,_,rfl,by with_reducible assumption,by with_reducible assumption,by ac_rfl,?_⟩
 with_reducible
  refine cR ?_
  refine aV (by assumption) 1 (by ac_rfl) (by ac_rfl) ?_
  refine eT ?_
  refine And.intro (by ac_rfl) (kl (by assumption) (by with_reducible assumption) (by with_reducible assumption) ?_)
  refine cR ?_
  refine aV (by assumption) 2 (by ac_rfl) (by ac_rfl) ?_
  refine eT ?_
  refine And.intro (by ac_rfl) (kM (f:=(_,_)) (by assumption) (by with_reducible assumption) (by with_reducible assumption) ?_)
 exact h'
end
noncomputable def ar.fold(B:ar)(l:List (Str×Nat)):ar:=l.foldl (λB f=>B.func f.1 f.2) B
noncomputable def ar.empty:ar:=⟨[],[]⟩
noncomputable def pj:ar:=km.foldl ar.atom ar.empty
noncomputable def di:ar:=pj.fold jd
theorem tV:∀(l:List Str) (B:ar),(l.foldl ar.atom B).texts.length<=B.texts.length+l.length/\(l.foldl ar.atom B).bh=B.bh
 |[],B=>⟨ai _,rfl⟩
 |t::l,B=>by
  obtain⟨h1,h2⟩:=tV l (B.atom t)
  obtain⟨h3,h4⟩:=B.ib t
  rw[j2]
  exact⟨by rw[aw];exact Ge [.le (.v 0) (.a (.v 1) (.v 2)),.le (.v 1) (.a (.v 3) (.n 1))] (.le (.v 0) (.a (.v 3) (.a (.v 2) (.n 1)))) [1,1] (Eq.refl true) h1 h3,h2.trans h4⟩
theorem ar.pQ(B:ar)(t:Str)(r:Nat):(B.func t r).texts.length<=B.texts.length+1/\(B.func t r).bh.length<=B.bh.length+1:=by
 unfold ar.func
 obtain⟨h1,h2⟩:=(B.atom t).uS (ix t (B.atom t).texts,r)
 obtain⟨h3,h4⟩:=B.ib t
 rw[h2];rw[h4]at h1
 exact⟨h3,h1⟩
theorem AT:∀(l:List (Str×Nat)) (B:ar),(B.fold l).texts.length<=B.texts.length+l.length/\(B.fold l).bh.length<=B.bh.length+l.length
 |[],B=>⟨ai _,ai _⟩
 |t::l,B=>by
  obtain⟨h1,h2⟩:=AT l (B.func t.1 t.2)
  obtain⟨h3,h4⟩:=B.pQ t.1 t.2
  unfold ar.fold at h1 h2⊢
  rw[j2,aw]
  exact⟨by exact Ge [.le (.v 0) (.a (.v 1) (.v 2)),.le (.v 1) (.a (.v 3) (.n 1))] (.le (.v 0) (.a (.v 3) (.a (.v 2) (.n 1)))) [1,1] (Eq.refl true) h1 h3,by exact Ge [.le (.v 0) (.a (.v 1) (.v 2)),.le (.v 1) (.a (.v 3) (.n 1))] (.le (.v 0) (.a (.v 3) (.a (.v 2) (.n 1)))) [1,1] (Eq.refl true) h2 h4⟩
section
variable{C:Ctx}{K:Frag}{bL bM:ClassData}{lv:Nat}{σ:St}{Q:PV->St->Prop}{X:Prop}{a:BA}{B:ar}
structure Hx(σ hH:St)(d n:Addr)(c:dx)(k2:List (Str×PV)):Prop where
 nw:σ n=none
 nd:n≠d
 Mn:hH n=some c
 Mo:hH d=some (.ca k2)
 Ph:∀b,b≠n->b≠d->hH b=σ b
section
variable{hH:St}{d n:Addr}{c:dx}{k1 k2:List (Str×PV)}
theorem vh{C:Ctx}{fr:Fm}{kH:List Stmt}{ρ:b9}{N:b9->St->Prop}{R:PV->St->Prop}{J:Bool->b9->St->Prop}{X:b9->Prop}(hd:σ d=some (.ca k1))(hn:σ n=none)(k:∀hH,Hx σ hH d n c k2->iu C fr kH ρ hH N R J X):iu C fr kH ρ ((σ.upd n c).upd d (.ca k2)) N R J X:=
 have nd:=St.jG hn hd
 k _ ⟨hn,nd,(St.bu _ _ nd).trans (St.bz _ _ _),St.bz _ _ _,λb h1 h2=>(St.bu _ _ h2).trans (St.bu _ _ h1)⟩
theorem Hx.keep(h:Hx σ hH d n c k2){b:Addr}{cb:dx}(hb:σ b=some cb)(hbd:b≠d):hH b=some cb:=(h.Ph b (St.jG h.nw hb).symm hbd).trans hb
theorem Hx.back(h:Hx σ hH d n c k2){b:Addr}(hb:hH b=none):σ b=none:=(h.Ph b (St.jG hb h.Mn) (St.jG hb h.Mo)).symm.trans hb
end
local macro_rules |`(tactic|left)=>`(tactic|first|exact iB.str|exact iB.tup|exact iB.list (by assumption)|exact iB.list (St.bz _ _ _)|exact iB.ca (St.bz _ _ _))
set_option maxHeartbeats 150000 in
theorem wu(P:PO C K bL bM){x d:Addr}(hl:2<=lv)(hx:σ x=some (.inst 155 d))(hd:σ d=some (.ca []))(h:∀a:BA,a.x=x->a.d=d->σ a.lt=none->σ a.da=none->σ a.lf=none->σ a.df=none->gK (cS (σ.upd d (.ca (iV a))) a di) a di->Q .none (cS (σ.upd d (.ca (iV a))) a di)):Spec C iJ lv [.loc x] σ Q X:=by
 refine Spec.intro (ρ:=[some (.loc x),none,none]) rfl (by conv=>lhs;whnf) ?_
 intro L' outer A F
 have xd:x≠d:=eA hx hd nofun
 have ob:=λ{σ:St} {n:Addr} {c b:dx} {y:Addr} (hn:σ n=none) (hy:σ y=some b)=>show σ.upd n c y=some b from(St.bu _ _ (St.jG hn hy).symm).trans hy
 with_reducible
  refine bw ?_
 with_reducible refine iI P.hX P.oS P.AI ?_
 with_reducible
  refine rR ?_
  refine eT ?_
 refine⟨fh _,λlt eP=> ?_⟩
 with_reducible
  refine aV (by assumption) 0 (by ac_rfl) (by ac_rfl) ?_
 refine⟨x,d,_,rfl,ob eP hx,ob eP hd,by ac_rfl,fh _,vh hd eP λcZ S1=> ?_⟩
 have x1:=S1.keep hx xd
 with_reducible
  refine bw ?_
 with_reducible refine iI P.hX P.oS P.nr ?_
 with_reducible refine jH λda GV=>⟨_,.inl rfl,?_⟩
 with_reducible
  refine aV (by assumption) 0 (by ac_rfl) (by ac_rfl) ?_
 refine⟨x,d,_,rfl,ob GV x1,ob GV S1.Mo,by ac_rfl,bE rfl,vh S1.Mo GV λhH S2=> ?_⟩
 have x2:=S2.keep x1 xd
 with_reducible
  refine bw ?_
 with_reducible refine iI P.hX P.oS P.uE ?_
 with_reducible
  refine rR ?_
  refine eT ?_
 refine⟨fh _,λlf Hp=> ?_⟩
 with_reducible
  refine aV (by assumption) 0 (by ac_rfl) (by ac_rfl) ?_
 refine⟨x,d,_,rfl,ob Hp x2,ob Hp S2.Mo,by ac_rfl,bE rfl,vh S2.Mo Hp λCF S3=> ?_⟩
 have x3:=S3.keep x2 xd
 with_reducible
  refine bw ?_
 with_reducible refine iI P.hX P.oS P.kh ?_
 with_reducible refine jH λdf Pj=>⟨_,.inr (.inr rfl),?_⟩
 with_reducible
  refine aV (by assumption) 0 (by ac_rfl) (by ac_rfl) ?_
 refine⟨x,d,_,rfl,ob Pj x3,ob Pj S3.Mo,by ac_rfl,bE rfl,vh S3.Mo Pj λRN S4=> ?_⟩
 have l2:=S2.keep S1.Mn S1.nd
 have l3:=S3.keep l2 S1.nd
 have a3:=S3.keep S2.Mn S2.nd
 obtain⟨a,rfl,rfl,rfl,rfl,rfl,rfl⟩:∃a:BA,a.x=x/\a.d=d/\a.lt=lt/\a.da=da/\a.lf=lf/\a.df=df:=⟨⟨x,d,lt,da,lf,df⟩,rfl,rfl,rfl,rfl,rfl,rfl⟩
 have n:a.Ne:=⟨(St.jG S2.nw S1.Mn).symm,(St.jG S3.nw l2).symm,(St.jG S4.nw l3).symm,(St.jG S3.nw S2.Mn).symm,(St.jG S4.nw a3).symm,(St.jG S4.nw S3.Mn).symm,S1.nd.symm,S2.nd.symm,S3.nd.symm,S4.nd.symm,(St.jG S1.nw hx).symm,(St.jG S2.nw x1).symm,(St.jG S3.nw x2).symm,(St.jG S4.nw x3).symm,xd⟩
 have eτ:RN=cS (σ.upd a.d (.ca (iV a))) a ar.empty:=wo a ((S4.keep l3 S1.nd).trans (gM _ ar.empty n).symm) ((S4.keep a3 S2.nd).trans (gN _ ar.empty n).symm) ((S4.keep S3.Mn S3.nd).trans (gP _ ar.empty n).symm) (S4.Mn.trans (gQ _ _ ar.empty).symm) λb h1 h2 h3 h4=>
  Eq.trans (Decidable.byCases (λe:b=a.d=>e▸S4.Mo.trans (St.bz _ _ _).symm) λe=>(S4.Ph b h4 e).trans ((S3.Ph b h3 e).trans ((S2.Ph b h2 e).trans ((S1.Ph b h1 e).trans (St.bu _ _ e).symm)))) (dL _ _ h1 h2 h3 h4).symm
 have h':=h a rfl rfl eP (S1.back GV) (S1.back (S2.back Hp)) (S1.back (S2.back (S3.back Pj)))
 subst eτ
 clear h
 have at_:∀B,gK (cS (σ.upd a.d (.ca (iV a))) a B) a B:=λB=>
  ⟨by rw[dL _ _ n.x1 n.x2 n.x3 n.x4];rw[St.bu _ _ xd];exact hx,by rw[dL _ _ n.d1 n.d2 n.d3 n.d4];exact St.bz _ _ _,gM _ _ n,gN _ _ n,gP _ _ n,gQ _ _ _,n.n2,n.d2⟩
 generalize(σ.upd a.d (.ca (iV a)))=cZ at*
 have sz:∀k,((km.take k).foldl ar.atom ar.empty).texts.length<=1000/\((km.take k).foldl ar.atom ar.empty).bh=[]:=λk=>by
  have q:=tV (km.take k) ar.empty
  exact⟨aa q.1 (aa (aZ (cU _)) (aa (List.length_take_le' ..) (by decide+kernel))),q.2⟩
 have Z0:∀k,(pj.fold (jd.take k)).texts.length<=2000/\(pj.fold (jd.take k)).bh.length<=2000:=λk=>by
  have q:=AT (jd.take k) pj
  have w:=tV km ar.empty
  have f:=aa (List.length_take_le' k jd) (by decide+kernel:jd.length<=1000)
  exact⟨aa q.1 (bB (aa w.1 (by decide+kernel:_<=1000)) f),aa q.2 (bB (aa (aZ (congrArg List.length w.2)) (fh 1000)) f)⟩
 with_reducible
  refine bw ?_
 with_reducible refine u6 F Fn.top 1 rfl ?_
 with_reducible
  refine rm P.G (by assumption) P.qz (lv:=0) (by ac_rfl) P.qA (bn (by with_unfolding_all assumption)) ?_
  refine eT ?_
  refine And.intro (by ac_rfl) (xB ?_)
 refine He F (λk ρ' σ'=>(∃p,ρ'=[some (.loc a.x),p,none])/\σ'=cS cZ a ((km.take k).foldl ar.atom ar.empty)) ⟨⟨_,rfl⟩,rfl⟩ ?_ ?_
 ·rintro k pv ρ' σ' JL ⟨⟨p,rfl⟩,rfl⟩
  obtain⟨t,ht,rfl⟩:=aA.mp (bc.symm.trans JL)
  have hB:=at_ ((km.take k).foldl ar.atom ar.empty)
  have hx:=hB.hx
  have hd:=hB.hd
  have hz:((km.take k).foldl ar.atom ar.empty).texts.length<=1000000:=aa (sz k).1 (by decide)
  with_reducible
   refine bw ?_
   refine qb (by assumption) ?_
   refine i7 P.G (by assumption) P.gJ (lv:=0) P.hX P.oS P.sI P.sJ (bn (by with_unfolding_all assumption)) ?_
   refine aV (by assumption) 0 (by ac_rfl) (by ac_rfl) ?_
  refine⟨_,_,_,rfl,by with_reducible assumption,by with_reducible assumption,by ac_rfl,?_⟩
  with_reducible
   refine cR ?_
   refine aV (by assumption) 1 (by ac_rfl) (by ac_rfl) ?_
   refine eT ?_
   refine And.intro (by ac_rfl) (kl (by assumption) (by with_reducible assumption) (by with_reducible assumption) ?_)
   refine g7 ?_
  refine⟨⟨_,rfl⟩,?_⟩
  rw[ph n,List.take_add_one,ht,List.foldl_append,Option.toList_some,j2,List.foldl_nil]
 ·rintro ρ' σ' ⟨⟨p,rfl⟩,rfl⟩
  have e1:(km.take (km.map PV.str).length).foldl ar.atom ar.empty=pj:=by rw[af,fO,pj]
  rw[e1]
  with_reducible
   refine bw ?_
  with_reducible refine u6 F Fn.top 2 rfl ?_
  with_reducible
   refine rm P.G (by assumption) P.lV (lv:=0) (by ac_rfl) P.lY (bn (by with_unfolding_all assumption)) ?_
   refine eT ?_
   refine And.intro (by ac_rfl) (tS ?_)
  refine He F (λk ρ' σ'=>(∃p p2,ρ'=[some (.loc a.x),p,p2])/\σ'=cS cZ a (pj.fold (jd.take k))) ⟨⟨_,_,rfl⟩,rfl⟩ ?_ ?_
  ·rintro k pv ρ' σ' JL ⟨⟨p,p2,rfl⟩,rfl⟩
   obtain⟨f,hf,rfl⟩:=aA.mp (bc.symm.trans JL)
   have hB:=at_ (pj.fold (jd.take k))
   have hx:=hB.hx
   have hd:=hB.hd
   have hz:(pj.fold (jd.take k)).texts.length<=1000000:=aa (Z0 k).1 (by decide)
   have lE:(pj.fold (jd.take k)).bh.length<=1000000:=aa (Z0 k).2 (by decide)
   with_reducible
    refine bw ?_
    refine qb (by assumption) ?_
    refine i7 P.G (by assumption) P.kc (lv:=1) P.hX P.oS P.zg P.zh (bn (by with_unfolding_all assumption)) ?_
    refine aV (by assumption) 0 (by ac_rfl) (by ac_rfl) ?_
   refine⟨_,_,_,rfl,by with_reducible assumption,by with_reducible assumption,by ac_rfl,?_⟩
   with_reducible
    refine cR ?_
    refine gB ?_
    refine aV (by assumption) 2 (by ac_rfl) (by ac_rfl) ?_
    refine dn ?_
   refine⟨by left,?_⟩
   with_reducible
    refine om (by decide) (by decide) (by ac_rfl) ?_
    refine cR ?_
    refine gB ?_
    refine aV (by assumption) 2 (by ac_rfl) (by ac_rfl) ?_
    refine dn ?_
   refine⟨by left,?_⟩
   with_reducible
    refine om (by decide) (by decide) (by ac_rfl) ?_
    refine eT ?_
    refine And.intro (by ac_rfl) (pi (by assumption) (by decide) (by with_reducible assumption) (by with_reducible assumption) (by with_reducible assumption) ?_)
    refine g7 ?_
   refine⟨⟨_,_,rfl⟩,?_⟩
   rw[ph n,List.take_add_one,hf];unfold ar.fold;rw[List.foldl_append,Option.toList_some,j2,List.foldl_nil]
  ·rintro ρ' σ' ⟨⟨p,p2,rfl⟩,rfl⟩
   have e2:pj.fold (jd.take (jd.map λf=>PV.tup [.str f.1,.int (f.2:Nat)]).length)=di:=by rw[af,fO,di]
   rw[e2]
   with_reducible
    refine g7 ?_
   exact h' (at_ di)
noncomputable def ko(B:ar)(i:Nat):List Nat:=L ((B.texts[i]?).getD Str.empty)
noncomputable def hM(B:ar)(k n:Int):List Nat:=if k=5 then L (cE n)else cJ (ko B n.toNat)
noncomputable def iW(B:ar)(k n:Int):Prop:=(k=5/\dG n)\/(k=4/\∃(i:Nat) (t:Str),n=i/\i<2^62/\B.texts[i]?=some t/\eo (L t))
noncomputable def io(B:ar)(n:Int):List Nat:=match B.bh[n.toNat]?with
 |some f=>cJ (ko B f.1)++47::L (cE (f.2:Nat))
 |none=>[]
noncomputable def iX(B:ar)(n:Int):Prop:=∃(i:Nat) (f:Nat×Nat) (t:Str),n=i/\i<2^62/\B.bh[i]?=some f/\f.1<2^62/\B.texts[f.1]?=some t/\eo (L t)/\dG ((f.2:Nat):Int)
theorem gR{v:Int}(h:dG v):(L (cE v)).length<=1900:=by
 have e:=uo v
 rw[lN]at e
 rw[<-e,List.length_flatten]
 have:∀x∈(eV v).reverse,x.length<=18:=λx hx=>by
  rw[List.mem_reverse]at hx
  unfold eV at hx
  rcases bC.mp hx with hx|hx
  ·exact chunk_len _ x hx
  ·split at hx
   ·rw[am.mp hx];decide
   ·cases hx
 have h2:=zb (k:=18) (l:=(eV v).reverse.map List.length) (by intro y hy;obtain⟨x,hx,rfl⟩:=bj.mp hy;exact this x hx)
 have h3:(eV v).length<=101:=by
  unfold eV dG at*
  rw[ae]
  have:(if v<0 then[[45]]else([]:List (List Nat))).length<=1:=by split<;>simp
  exact aa (bB h this) (by decide)
 rw[af,List.length_reverse]at h2
 omega
theorem rE{t:List Nat}(h:eo t):(cJ t).length<=11002:=by
 unfold cJ
 split
 ·have:=h.1;exact aa this (by decide)
 ·have h2:=zb (k:=11) (l:=(t.map zi).map List.length) (by intro y hy;obtain⟨x,hx,rfl⟩:=bj.mp hy;obtain⟨c,hc,rfl⟩:=bj.mp hx;exact D0 (h.2 c hc))
  rw[af,af]at h2
  have:=h.1
  rw[aw,ae,List.flatMap,List.length_flatten];simp only[aw,p8];omega
theorem wv{k n:Int}(h:iW B k n):(hM B k n).length<=11002:=by
 rcases h with⟨rfl,h⟩|⟨rfl,i,t,rfl,_,ht,h⟩
 ·have:=gR h;unfold hM;rw[if_pos rfl];exact aa this (by decide)
 ·unfold hM ko;rw[if_neg (by decide)];simp only[bD,ht,dQ];exact rE h
theorem ww{n:Int}(h:iX B n):(io B n).length<=13000:=by
 obtain⟨i,f,t,rfl,_,hf,_,ht,Ks,hn⟩:=h
 have l1:=rE Ks
 have l2:=gR hn
 unfold io ko;simp only[bD,hf,ht,dQ,ae,aw];exact ah (bB l1 l2) (by decide)
end
noncomputable abbrev aJ(l:List (List Nat)):List PV:=l.map λy=> .str (mk y)
section
variable{C:Ctx}{K:Frag}{bL bM:ClassData}{lv:Nat}{σ:St}{Q:PV->St->Prop}{X:Prop}{a:BA}{B:ar}
noncomputable def sN(B:ar)(p:(Int×Int)×Int):List Nat:=hM B p.1.1 p.1.2++58::L (cE p.2)
noncomputable def sP(B:ar)(p:Int×Int):List Nat:=io B p.1++58::L (cE p.2)
noncomputable def pu(B:ar)(kvs:List ((Int×Int)×Int)):List (List Nat):=[123]::(kvs.map (sN B)++[[125]])
noncomputable def py(B:ar)(kvs:List (Int×Int)):List (List Nat):=[123]::(kvs.map (sP B)++[[125]])
theorem zm:L (Str.ofString ":")=[58]:=by ac_rfl
theorem CG:L (Str.ofString "{")=[123]:=by ac_rfl
theorem vj:L (Str.ofString "}")=[125]:=by ac_rfl
noncomputable def kZ(B:ar)(k:Nat):dA->List (List Nat)
 |.CA x n=>[L x++L (cE n)]
 |.con c n=>[hM B c n]
 |.num n=>if k=70 then[io B n]else[L (cE n)]
 |.dY kvs=>pu B kvs
 |.tabI kvs=>py B kvs
noncomputable def ma(B:ar)(k:Nat):dA->Prop
 |.CA x n=>(k=82\/k=88\/k=89)/\(L x).length<=10/\dG n
 |.con c n=>k=67/\iW B c n
 |.num n=>(k=70/\iX B n)\/((k=78\/k=76)/\dG n)
 |.dY kvs=>k=84/\(kvs.map (·.1)).Nodup/\kvs.length<=100/\∀p∈kvs,iW B p.1.1 p.1.2/\dG p.2
 |.tabI kvs=>k=85/\(kvs.map (·.1)).Nodup/\kvs.length<=100/\∀p∈kvs,iX B p.1/\dG p.2
noncomputable def fU(B:ar)(ks:List Nat)(os:List dA):List (List Nat):=(ks.zip os).flatMap λp=>kZ B p.1 p.2
theorem AU{k:Nat}{o:dA}(h:ma B k o):(kZ B k o).length<=102:=by
 cases o with
 |CA x n=>simp[kZ]
 |con c n=>simp[kZ]
 |num n=>show(if k=70 then[io B n]else[L (cE n)]).length<=102;split<;>(show 1<=102;decide)
 |dY kvs=>have:=h.2.2.1;simp[kZ,pu];exact this
 |tabI kvs=>have:=h.2.2.1;simp[kZ,py];exact this
theorem wx:∀(n:Nat) {ks:List Nat} {os:List dA},(∀(i k:Nat) (o:dA),ks[i]?=some k->os[i]?=some o->ma B k o)->ks.length<=n->(fU B ks os).length<=n*102
 |_,[],os,_,_=>by simp[fU]
 |n,k::ks,[],_,_=>by simp[fU]
 |0,k::ks,o::os,_,hn=>by simp at hn
 |n+1,k::ks,o::os,h,hn=>by
  have h1:=AU (h 0 k o rfl rfl)
  have h2:=wx n (ks:=ks) (os:=os) (λi k o hk ho=>h (i+1) k o (by simpa using hk) (by simpa using ho)) (by simpa using hn)
  unfold fU at h2⊢
  rw[List.zip_cons_cons,List.flatMap_cons,ae]
  have Mp:(kZ B (k,o).1 (k,o).2).length<=102:=h1
  rw[lB];exact nW [.le (.v 0) (.v 1),.le (.v 2) (.n 102)] (.le (.a (.v 2) (.v 0)) (.a (.v 1) (.n 102))) [1,1] (Eq.refl true) h2 Mp
theorem kR:mk [82]=Str.ofString "R":=by ac_rfl
theorem kX:mk [88]=Str.ofString "X":=by ac_rfl
theorem kY:mk [89]=Str.ofString "Y":=by ac_rfl
theorem kC:mk [67]=Str.ofString "C":=by ac_rfl
theorem kF:mk [70]=Str.ofString "F":=by ac_rfl
theorem kN:mk [78]=Str.ofString "N":=by ac_rfl
theorem kL:mk [76]=Str.ofString "L":=by ac_rfl
theorem kT:mk [84]=Str.ofString "T":=by ac_rfl
theorem kU:mk [85]=Str.ofString "U":=by ac_rfl
end
noncomputable def dO:List (Str×Str):=("get_variable","RX")::("get_value","RX")::("get_constant","CX")::("get_list","X")::("get_structure","FX")::("unify_variable","R")::("unify_value","R")::("unify_local_value","R")::("unify_constant","C")::("unify_void","N")::("put_variable","RX")::("put_void","X")::("put_value","RX")::("put_unsafe_value","YX")::("put_constant","CX")::("put_list","X")::("put_structure","FX")::("set_variable","R")::("set_value","R")::("set_local_value","R")::("set_constant","C")::("set_void","N")::("allocate","N")::("deallocate","")::("call","FN")::("execute","F")::("proceed","")::("builtin","F")::("neck_cut","")::("get_level","R")::("mark","R")::("cut_to","R")::("fail","")::("halt","")::("try","LN")::("retry","L")::("trust","L")::("switch_on_term","LLLL")::("switch_on_constant","TL")::("switch_on_structure","UL")::("meta_call","N")::("catch_push","")::("catch_exit","Y")::("catch_fail","")::("dyn_retry","")::[]
theorem zo:(dO.map (·.1)).Nodup:=by decide+kernel
noncomputable abbrev X3:dx:= .ca (dO.map λp=>(p.1,.str p.2))
section
variable{C:Ctx}{K:Frag}{bL bM:ClassData}{lv:Nat}{σ:St}{Q:PV->St->Prop}{X:Prop}{a:BA}{B:ar}
theorem Hy(P:PO C K bL bM)(h:∀t,σ t=none->Q (.loc t) (σ.upd t X3)):Spec C oG lv [] σ Q X:=by
 with_reducible refine Spec.intro (ρ:=[]) (by decide) (by with_unfolding_all(conv=>lhs;whnf)) ?_
 intro L' outer A F
 with_reducible refine bw ?_
 with_reducible refine dC ?_
 with_reducible refine Ct P.G (kvs:=dO) ?_ zo ?_ ?_ h
 ·kernel_rfl
 ·decide+kernel
 ·decide+kernel
end
structure ew where
 nm:Str
 ks:Str
 os:List dA
noncomputable def ew.pv(i:ew):PV:= .tup (.str i.nm::i.os.map dA.pv)
structure ew.Ok(B:ar)(i:ew):Prop where
 look:b0 dO i.nm=some i.ks
 len:i.os.length=(L i.ks).length
 le:(L i.ks).length<=4
 Tz:i.nm.length<=100
 fits:jJ (L i.ks) i.os
 ok:jA (L i.ks) i.os=true
 Pk:∀(j k:Nat) (o:dA),(L i.ks)[j]?=some k->i.os[j]?=some o->ma B k o
noncomputable def sQ(B:ar)(b:Int)(i:ew):List Nat:=L (cE b)++32::cI [32] (L i.nm::fU B (L i.ks) i.os)
noncomputable def cQ(B:ar)(b:Int)(is:List ew):List (List Nat):=(is.zipIdx).map λp=>sQ B (b+(p.2:Nat)) p.1
theorem CH{B:ar}{b:Int}{is:List ew}{k:Nat}{i:ew}(h:is[k]?=some i):cQ B b (is.take (k+1))=cQ B b (is.take k)++[sQ B (b+(k:Nat)) i]:=by
 have hk:=(aj.mp h).1
 unfold cQ
 rw[List.take_add_one,h,List.zipIdx_append,aQ]
 simp[cY (a9 hk)]
theorem mJ:L (Str.ofString " ")=[32]:=by ac_rfl
theorem Fv{B:ar}{k:Nat}{o:dA}(h:ma B k o):∀w∈kZ B k o,w.length<=15000:=by
 cases o with
 |CA x n=>intro w hw;have h1:=gR h.2.2;have h2:=h.2.1;rw[am.mp hw,ae];exact aa (bB h2 h1) (by decide)
 |con c n=>intro w hw;have h1:=wv h.2;rw[am.mp hw];exact aa h1 (by decide)
 |num n=>
  intro w hw
  rcases h with⟨rfl,h⟩|⟨hk,h⟩
  ·have h1:=ww h;have:w=io B n:=by simpa[kZ]using hw
   rw[this];exact aa h1 (by decide)
  ·have h1:=gR h
   have tm:k≠70:=by rcases hk with rfl|rfl<;>decide
   have:w=L (cE n):=by simpa[kZ,tm]using hw
   rw[this];exact aa h1 (by decide)
 |dY kvs=>
  intro w hw
  rcases ak.mp hw with rfl|hw
  ·decide
  ·rcases bC.mp hw with hw|hw
   ·obtain⟨p,hp,rfl⟩:=bj.mp hw
    obtain⟨h1,h2⟩:=h.2.2.2 p hp
    have:=wv h1;have:=gR h2
    rw[sN,ae,aw];omega
   ·rw[am.mp hw];decide
 |tabI kvs=>
  intro w hw
  rcases ak.mp hw with rfl|hw
  ·decide
  ·rcases bC.mp hw with hw|hw
   ·obtain⟨p,hp,rfl⟩:=bj.mp hw
    obtain⟨h1,h2⟩:=h.2.2.2 p hp
    have:=ww h1;have:=gR h2
    rw[sP,ae,aw];omega
   ·rw[am.mp hw];decide
theorem Fw{B:ar}{ks:List Nat}{os:List dA}(h:∀(j k:Nat) (o:dA),ks[j]?=some k->os[j]?=some o->ma B k o):∀w∈fU B ks os,w.length<=15000:=by
 intro w hw
 unfold fU at hw
 obtain⟨p,hp,hw⟩:=List.mem_flatMap.mp hw
 obtain⟨j,hj⟩:=dP hp
 rw[jr]at hj
 exact Fv (h j p.1 p.2 hj.1 hj.2) w hw
theorem yw(tn:List Nat){n:Nat}:∀{l:List (List Nat)},(∀w∈l,w.length<=n)->(cI tn l).length<=l.length*(n+tn.length)
 |[],_=>by simp[cI]
 |[x],h=>by have:=h x az;simp[cI];exact Nat.le_add_right_of_le this
 |x::y::r,h=>by
  have h1:=h x az
  have h2:=yw tn (l:=y::r) λw hw=>h w (aK _ hw)
  rw[cI,ae,ae,aw,lB];exact O6 [.le (.v 0) (.v 1),.le (.v 2) (.v 3)] (.le (.a (.a (.v 0) (.v 4)) (.v 2)) (.a (.v 3) (.a (.v 1) (.v 4)))) [1,1] (Eq.refl true) h1 h2
section
open PySem.StrLaws PySem.Builtin.Str PySem.NumText PySem.W.KIN
theorem wy{x:Str}{a n:Nat}(h:a<=(L x).length):Txt.slice x (some (a:Int)) (some ((a+n:Nat):Int))=mk (((L x).drop a).take n):=by
 by_cases q:a+n<=(L x).length
 ·rw[yq ⟨aF _,cT.mpr (ay _ _),cT.mpr q⟩,bD,Int.toNat_sub,hV]
 ·have q:=Nat.le_of_not_le q
  have e:strSliceIndices (some (a:Int)) (some ((a+n:Nat):Int)) 1 x.length=strSliceIndices (some (a:Int)) none 1 x.length:=by
   have h1:=eX.mpr (aF a)
   have h2:¬((a:Int)+(n:Int)<0):=eX.mpr (aF (a+n))
   have h3:min ((a:Int)+(n:Int)) (x.length:Int)=x.length:=Int.min_eq_right (cT.mpr (gA x▸q))
   simp[strSliceIndices,h1,h2,h3]
  have f:Txt.slice x (some (a:Int)) (some ((a+n:Nat):Int))=Txt.slice x (some (a:Int)) none:=by unfold Txt.slice;rw[e]
  have g:=jk (f7 a (L x)).symm
  rw[lz h]at g
  rw[f,g,lC (by rw[eY];exact Nat.sub_le_iff_le_add'.mpr q)]
theorem mc(p q:List Nat):digitsVal (p++q)=digitsVal p*10^q.length+digitsVal q:=by
 have key:∀(q:List Nat) (a:Nat),q.foldl (λacc c=>acc*10+(c-48)) a=a*10^q.length+q.foldl (λacc c=>acc*10+(c-48)) 0:=by
  intro q
  induction q with
  |nil=>intro a;simp
  |cons c q ih=>
   intro a
   rw[j2,ih,j2,ih (0*10+(c-48)),aw,qv]
   rw[Nat.add_mul,Nat.zero_mul,cU,Nat.mul_assoc,Nat.mul_comm 10,bW]
 unfold digitsVal
 rw[List.foldl_append,key]
noncomputable def k6(c:Nat):Bool:=decide (48<=c)&&decide (c<=57)
noncomputable def b5(w:List Nat):Option Nat:=if w.isEmpty||(decide (w[0]?=some 48)&& !decide (w=[48]))|| !(w.all k6)then none else some (digitsVal w)
end
section
variable{C:Ctx}{K:Frag}{bL bM:ClassData}{lv:Nat}{σ:St}{Q:PV->St->Prop}{X:Prop}{a:BA}{B:ar}
noncomputable def mK:List Nat->Option (Nat×Nat)
 |[]=>none
 |c::r=>if c=120\/c=121 then(b5 r).map λv=>(c,v)else none
noncomputable def e7(B:ar):List Nat->Option ((Int×Int)×ar)
 |[]=>none
 |c::r=>if k6 c then(b5 (c::r)).map λv=>((5,(v:Int)),B)else
  if c=45 then(b5 r).bind λv=>if v=0 then none else some ((5,-(v:Int)),B)
  else(iO (c::r)).map λt=>((4,((ix (mk t) (B.atom (mk t)).texts:Nat):Int)),B.atom (mk t))
noncomputable def fV(B:ar)(w:List Nat):Option (Int×ar):=(ft 47 w).bind λc=>if c.1=[]then none else(iO c.1).bind λt=>
 (b5 c.2).map λr=>(((ix (ix (mk t) (B.atom (mk t)).texts,r) (B.func (mk t) r).bh:Nat):Int),B.func (mk t) r)
theorem eo.take{l:List Nat}(h:eo l)(n:Nat):eo (l.take n):=⟨by have:=h.1;rw[cg];omega,λc hc=>h.2 c (gw hc)⟩
end
theorem Fx{C:Ctx}{fr:Fm}{ρ:b9}{σ:St}{Q:PV->St->Prop}{X:Prop}{l:Addr}{xs:List PV}{pv:PV}{n:Nat}(hc:σ l=some (.list xs))(hn:n<2^62)(hx:xs[n]?=some pv)(h:Q pv σ):W2 C fr getItem (.loc l) (.int (n:Nat)) ρ σ Q X:=
 eU hc (by exact aF _) (by exact rf [.lt (.v 0) (.n 4611686018427387904)] (.BO (.c (.v 0)) (.n 9223372036854775808)) [1] (Eq.refl true) hn) (by simpa using hx) h
theorem AV{acc:List ((Int×Int)×Int)}{k n:Int}:(b0 (jW acc) [k,n]).isSome=decide ((k,n)∈acc.map (·.1)):=by
 unfold jW b0
 induction acc with
 |nil=>rfl
 |cons p r ih=>
  rw[bp,List.find?_cons,bp]
  by_cases e:p.1=(k,n)
  ·obtain⟨⟨p1,p2⟩,p3⟩:=p;cases e;simp
  ·have e':([p.1.1,p.1.2]:List Int)≠[k,n]:=λq=>e (by simp at q;exact Prod.ext q.1 q.2)
   have e2:(k,n)≠p.1:=λq=>e q.symm
   simp only[e',decide_false,ih,ak,e2,false_or]
theorem Hz{acc:List (Int×Int)}{n:Int}:(b0 acc n).isSome=decide (n∈acc.map (·.1)):=by
 unfold b0
 induction acc with
 |nil=>rfl
 |cons p r ih=>
  rw[List.find?_cons,bp]
  by_cases e:p.1=n
  ·simp[e]
  ·have e2:n≠p.1:=λq=>e q.symm
   simp only[e,decide_false,ih,ak,e2,false_or]
noncomputable def yx{κ:Type}[DecidableEq κ](rd:ar->List Nat->Option (κ×ar))(B:ar)(acc:List (κ×Int))(a b:List Nat):Option ((κ×ar)×Nat):=(rd B a).bind λq=>if q.1∈acc.map (·.1)then none else(b5 b).map λv=>(q,v)
noncomputable def gh{κ:Type}[DecidableEq κ](rd:ar->List Nat->Option (κ×ar))(B:ar)(acc:List (κ×Int)):List (List Nat)->Option (List (κ×Int)×ar×List (List Nat))
 |[]=>none
 |w::ws=>if w=[125]then some (acc,B,ws)else(ft 58 w).bind λc=>if c.1=[]then none else
  (yx rd B acc c.1 c.2).bind λe=>gh rd e.1.2 (acc++[(e.1.1,(e.2:Int))]) ws
theorem qg{α:Type}{c:Prop}[Decidable c]{o:Option α}{x:α}(h:(if c then none else o)=some x):¬c/\o=some x:=Decidable.byCases (λe:c=>nomatch(if_pos e).symm.trans h) λe=>⟨e,(if_neg e).symm.trans h⟩
theorem CI{κ:Type}[DecidableEq κ]{rd:ar->List Nat->Option (κ×ar)}{B:ar}{acc:List (κ×Int)}{w:List Nat}{ws:List (List Nat)}{x:List (κ×Int)×ar×List (List Nat)}{G:Prop}(h:gh rd B acc (w::ws)=some x)(k0:x=(acc,B,ws)->G)
 (k1:∀a q v,rd B a=some q->q.1∉acc.map (·.1)->gh rd q.2 (acc++[(q.1,v)]) ws=some x->G):G:=by
 rw[gh]at h
 by_cases e:w=[125]
 ·rw[if_pos e]at h;exact k0 (ax h).symm
 ·rw[if_neg e]at h
  exact(ao.mp h).elim λc h=>(ao.mp (qg h.2).2).elim λe h=>(ao.mp h.1).elim λq h'=>
   (aA.mp (qg h'.2).2).elim λv hv=>k1 c.1 e.1 e.2 (hv.2▸h'.1) (hv.2▸(qg h'.2).1) h.2
theorem pz{B:ar}{w:List Nat}{q:(Int×Int)×ar}(h:e7 B w=some q):q.2.texts.length<=B.texts.length+1/\q.2.bh.length<=B.bh.length+1:=by
 cases w with
 |nil=>cases h
 |cons c r=>
  rw[e7]at h
  by_cases h1:k6 c=true
  ·rw[if_pos h1]at h;exact(aA.mp h).elim λv e=>e.2▸⟨b7 _,b7 _⟩
  rw[if_neg h1]at h
  by_cases h2:c=45
  ·rw[if_pos h2]at h;exact(ao.mp h).elim λv e=>ax (qg e.2).2▸⟨b7 _,b7 _⟩
  rw[if_neg h2]at h
  exact(aA.mp h).elim λv e=>e.2▸⟨(B.ib _).1,(B.ib _).2▸b7 _⟩
theorem pA{B:ar}{w:List Nat}{q:Int×ar}(h:fV B w=some q):q.2.texts.length<=B.texts.length+1/\q.2.bh.length<=B.bh.length+1:=
 (ao.mp h).elim λc h=>(ao.mp (qg h.2).2).elim λt h=>(aA.mp h.2).elim λv e=>e.2▸B.pQ _ _
section
variable{C:Ctx}{K:Frag}{bL bM:ClassData}{lv:Nat}{σ:St}{Q:PV->St->Prop}{X:Prop}{a:BA}{B:ar}
noncomputable def e8(B:ar)(k:Nat)(w:List Nat):Option (dA×ar):=
 if k=82\/k=88\/k=89 then(mK w).map λp=>(.CA (mk [p.1]) (p.2:Nat),B)
 else if k=67 then(e7 B w).map λp=>(.con p.1.1 p.1.2,p.2)
 else if k=70 then(fV B w).map λp=>(.num p.1,p.2)
 else(b5 w).map λv=>(.num (v:Nat),B)
noncomputable def gu:List Nat->List (List Nat)
 |[]=>[[]]
 |c::r=>if c=32 then[]::gu r else match gu r with
  |[]=>[[c]]
  |w::ws=>(c::w)::ws
theorem HA(l:List Nat):gu l≠[]:=by
 cases l with
 |nil=>simp[gu]
 |cons c r=>
  unfold gu;split
  ·simp
  ·split<;>simp
theorem sR{w:List Nat}(h:32∉w):gu w=[w]:=by
 induction w with
 |nil=>rfl
 |cons c r ih=>
  have h1:c≠32:=λe=>h (by simp[e])
  rw[gu,if_neg h1,ih λq=>h (aK _ q)]
theorem Kt{w:List Nat}(h:32∉w)(r:List Nat):gu (w++32::r)=w::gu r:=by
 induction w with
 |nil=>rw[fC,gu,if_pos rfl]
 |cons c w ih=>
  have h1:c≠32:=λe=>h (by simp[e])
  rw[fN,gu,if_neg h1,ih λq=>h (aK _ q)]
theorem sS:∀{ws:List (List Nat)},ws≠[]->(∀w∈ws,32∉w)->gu (cI [32] ws)=ws
 |[],h,_=>absurd rfl h
 |[w],_,h=>sR (h w az)
 |w::y::r,_,h=>by
  rw[cI,aC,eO,Kt (h w az),sS (bJ _ _) λz hz=>h z (aK _ hz)]
open PySem.StrLaws PySem.Builtin.Str in
theorem HB(x:Str):(Txt.split x (mk [32])).map L=gu (L x):=by
 have h1:=congrArg L (join_split x (mk [32]))
 have h2:L (Str.join (mk [32]) (Txt.split x (mk [32])))=cI [32] ((Txt.split x (mk [32])).map L):=by rw[<-glued_eq_join];have:=G9 (mk [32]) (Txt.split x (mk [32]));rw[c8]at this;exact this
 rw[<-h1,h2,sS]
 ·intro e
  have:Txt.split x (mk [32])=[]:=List.map_eq_nil_iff.mp e
  unfold Txt.split at this
  split at this
  ·cases this
  ·split at this
   ·cases this
   ·rw[partsBetween_eq]at this
    obtain⟨p,r,e⟩:=partsFrom_ne x (mk [32]).length 0 (occurrences x (mk [32]) 0 x.length (x.length+1))
    rw[e]at this;cases this
 ·intro w hw
  obtain⟨y,hy,rfl⟩:=bj.mp hw
  exact split_free x 32 y hy
end
noncomputable def gU:List Nat:=[82,88,89,67,70,78,76,84,85]
theorem mL:∀p∈dO,(L p.2).length<=4/\p.1.length<=100/\∀k∈L p.2,k∈gU:=by
 have:dO.all (λp=>decide ((L p.2).length<=4)&&decide (p.1.length<=100)&&(L p.2).all λk=>decide (k∈gU))=true:=by decide+kernel
 intro p hp
 have:=av.mp this p hp
 simp only[hU,decide_eq_true_eq,av]at this
 exact⟨this.1.1,this.1.2,this.2⟩
theorem md{K V:Type}[DecidableEq K]{kvs:List (K×V)}{k:K}{v:V}(h:b0 kvs k=some v):(k,v)∈kvs:=by
 unfold b0 at h
 obtain⟨p,hp,rfl⟩:=aA.mp h
 have h1:=List.mem_of_find?_eq_some hp
 have h2:=List.find?_some hp
 have h3:p.1=k:=by simpa using h2
 rw[<-h3];exact h1
noncomputable def jg{κ:Type}[DecidableEq κ](rd:ar->List Nat->Option (κ×ar))(f:List (κ×Int)->dA)(B:ar):List (List Nat)->Option (dA×ar×List (List Nat))
 |[]=>none
 |w::r=>if w=[123]then(gh rd B [] r).map λp=>(f p.1,p.2)else none
noncomputable def vk(B:ar)(k:Nat)(ws:List (List Nat)):Option (dA×ar×List (List Nat)):=if k=84 then jg e7 .dY B ws else jg fV .tabI B ws
noncomputable def qT(B:ar)(k:Nat):List (List Nat)->Option (dA×ar×List (List Nat))
 |[]=>none
 |w::r=>if k=84\/k=85 then vk B k (w::r)else(e8 B k w).map λp=>(p.1,p.2,r)
noncomputable def eW(B:ar):List Nat->List (List Nat)->Option (List dA×ar)
 |[],ws=>if ws=[]then some ([],B)else none
 |k::ks,ws=>(qT B k ws).bind λp=>(eW p.2.1 ks p.2.2).map λq=>(p.1::q.1,q.2)
noncomputable def e9(B:ar):List (List Nat)->Option (ew×ar)
 |[]=>none
 |w::r=>(b0 dO (mk w)).bind λks=>(eW B (L ks) r).bind λp=>if jA (L ks) p.1 then some (⟨mk w,ks,p.1⟩,p.2)else none
structure OF(B B':ar)(ws rs:List (List Nat)):Prop where
 TA:rs<:+ws
 lt:rs.length<ws.length
 bt:B'.texts.length+rs.length<=B.texts.length+ws.length
 bf:B'.bh.length+rs.length<=B.bh.length+ws.length
theorem OF.one{B B':ar}{w:List Nat}{rs:List (List Nat)}(h:B'.texts.length<=B.texts.length+1/\B'.bh.length<=B.bh.length+1):OF B B' (w::rs) rs:=⟨mW ..,cf _,aa (dp h.1 _) (aZ (bI _ 1 _)),aa (dp h.2 _) (aZ (bI _ 1 _))⟩
theorem OF.trans{B B1 B2:ar}{a b c:List (List Nat)}(h:OF B B1 a b)(k:OF B1 B2 b c):OF B B2 a c:=⟨k.TA.trans h.TA,b4 k.lt h.lt,aa k.bt h.bt,aa k.bf h.bf⟩
theorem zp{κ:Type}[DecidableEq κ]{rd:ar->List Nat->Option (κ×ar)}(RO:∀{B w q},rd B w=some q->q.2.texts.length<=B.texts.length+1/\q.2.bh.length<=B.bh.length+1){ws:List (List Nat)}:
 ∀{B:ar} {acc:List (κ×Int)} {x:List (κ×Int)×ar×List (List Nat)},gh rd B acc ws=some x->(acc.map (·.1)).Nodup->OF B x.2.1 ws x.2.2/\(x.1.map (·.1)).Nodup:=by
 induction ws with
 |nil=>exact nofun
 |cons w ws ih=>
  exactλ{B acc x} h hn=>CI h (λe=>e▸⟨.one ⟨b7 _,b7 _⟩,hn⟩) λa q v h1 hm h=>
   have i:=ih h (by rw[aQ];exact dE.mpr ⟨hn,cW.mpr ⟨aP,cX⟩,λy hy z hz e=>hm ((show y=q.1 from e.trans (am.mp hz))▸hy)⟩)
   ⟨(OF.one (RO h1)).trans i.1,i.2⟩
theorem qU{κ:Type}[DecidableEq κ]{rd:ar->List Nat->Option (κ×ar)}(RO:∀{B w q},rd B w=some q->q.2.texts.length<=B.texts.length+1/\q.2.bh.length<=B.bh.length+1){f:List (κ×Int)->dA}{x:Str}(hf:∀{kvs:List (κ×Int)},(kvs.map (·.1)).Nodup->(f kvs).fits x)
 {B:ar} {ws:List (List Nat)} {p:dA×ar×List (List Nat)} (h:jg rd f B ws=some p):p.1.fits x/\OF B p.2.1 ws p.2.2:=by
 cases ws with
 |nil=>cases h
 |cons w r=>
  rw[jg]at h
  by_cases e:w=[123]
  ·rw[if_pos e]at h
   exact(aA.mp h).elim λx h=>h.2▸have i:=zp RO h.1 cX
    ⟨hf i.2,(OF.one ⟨b7 _,b7 _⟩:OF B B (w::r) r).trans i.1⟩
  ·rw[if_neg e]at h;cases h
theorem wz{k c:Nat}{x:Str}(e:k=c)(h:mk [c]=x):mk [k]=x:=e▸h
theorem xC{B:ar}{k:Nat}{w:List Nat}{p:dA×ar}(hk:k∈[82,88,89,67,70,78,76])(h:e8 B k w=some p):p.1.fits (mk [k])/\p.2.texts.length<=B.texts.length+1/\p.2.bh.length<=B.bh.length+1:=by
 rw[e8]at h
 by_cases h1:k=82\/k=88\/k=89
 ·rw[if_pos h1]at h
  exact(aA.mp h).elim λq h=>h.2▸⟨h1.imp (wz · kR) (Or.imp (wz · kX) (wz · kY)),b7 _,b7 _⟩
 rw[if_neg h1]at h
 by_cases h2:k=67
 ·rw[if_pos h2]at h
  exact(aA.mp h).elim λq h=>h.2▸⟨wz h2 kC,pz h.1⟩
 rw[if_neg h2]at h
 by_cases h3:k=70
 ·rw[if_pos h3]at h
  exact(aA.mp h).elim λq h=>h.2▸⟨.inl (wz h3 kF),pA h.1⟩
 rw[if_neg h3]at h
 exact(aA.mp h).elim λq h=>h.2▸⟨.inr (((by decide:∀k∈[82,88,89,67,70,78,76],¬(k=82\/k=88\/k=89)->k≠67->k≠70->k=78\/k=76) k hk h1 h2 h3).imp (wz · kN) (wz · kL)),b7 _,b7 _⟩
theorem wA{k:Nat}(h:k∈gU):(k=84\/k=85)\/k∈[82,88,89,67,70,78,76]:=(by decide:∀k∈gU,(k=84\/k=85)\/k∈[82,88,89,67,70,78,76]) k h
theorem pB{B:ar}{k:Nat}(hk:k∈gU){ws:List (List Nat)}{p:dA×ar×List (List Nat)}(h:qT B k ws=some p):p.1.fits (mk [k])/\OF B p.2.1 ws p.2.2:=by
 cases ws with
 |nil=>cases h
 |cons w r=>
  rw[qT]at h
  by_cases hT:k=84\/k=85
  ·rw[if_pos hT]at h
   rcases hT with rfl|rfl
   ·exact qU (rd:=e7) (f:= .dY) pz (λh=>⟨kT,h⟩) h
   ·exact qU (rd:=fV) (f:= .tabI) pA (λh=>⟨kU,h⟩) h
  ·rw[if_neg hT]at h
   exact(aA.mp h).elim λq h=>h.2▸have i:=xC ((wA hk).resolve_left hT) h.1
    ⟨i.1,.one i.2⟩
theorem qV{ks:List Nat}:∀{ws:List (List Nat)} {B:ar} {p:List dA×ar},(∀k∈ks,k∈gU)->eW B ks ws=some p->jJ ks p.1/\p.2.texts.length<=B.texts.length+ws.length/\p.2.bh.length<=B.bh.length+ws.length:=by
 induction ks with
 |nil=>
  intro ws B p _ h
  rw[eW]at h
  by_cases e:ws=[]
  ·rw[if_pos e]at h;cases ax h;exact⟨trivial,ay _ _,ay _ _⟩
  ·rw[if_neg e]at h;cases h
 |cons k ks ih=>
  exactλ{ws B p} hk h=>(ao.mp h).elim λx h=>(aA.mp h.2).elim λq h'=>h'.2▸
   have f:=pB (hk k az) h.1
   have g:=ih (λk h=>hk k (aK _ h)) h'.1
   ⟨⟨f.1,g.1⟩,aa g.2.1 f.2.bt,aa g.2.2 f.2.bf⟩
section
open PySem.NumText PySem.W.KIN
theorem sT:∀{w:List Nat},AllDigits w->digitsVal w<10^w.length
 |[],_=>by decide
 |c::l,h=>by
  have h1:=sT (w:=l) λd hd=>h d (aK _ hd)
  have h2:=h c az
  have e0:digitsVal (c::l)=digitsVal [c]*10^l.length+digitsVal l:=by rw[<-mc];rfl
  have e:digitsVal [c]=c-48:=by unfold digitsVal;simp
  rw[e0,e,aw,qv]
  have h3:(c-48)*10^l.length<=9*10^l.length:=nP _ (by exact mq [.le (.v 0) (.n 57),.eq (.a (.v 1) (.n 48)) (.v 0)] (.le (.v 1) (.n 9)) [1,1] (Eq.refl true) h2.2 (xu (rf [.le (.n 48) (.v 0)] (.le (.n 48) (.v 0)) [1] (Eq.refl true) h2.1)))
  omega
noncomputable def zq:Nat:=10^500
theorem zr{w:List Nat}{v:Nat}(h:b5 w=some v):v<10^w.length:=by
 unfold b5 at h
 split at h
 ·cases h
 ·rename_i hb
  cases h
  refine sT λc hc=> ?_
  have ha:w.all k6=true:=by
   cases q:w.all k6 with
   |true=>rfl
   |false=>rw[q]at hb;simp at hb
  have:=av.mp ha c hc
  unfold k6 at this;simpa using this
theorem xD{w:List Nat}{v:Nat}(h:b5 w=some v)(hw:w.length<=500):v<zq:=
 au (zr h) (Nat.pow_le_pow_right (by decide) hw)
theorem CJ:zq<2^1920:=by decide+kernel
theorem Ku{v:Nat}(h:v<zq):v.log2<1920:=by
 by_cases h0:v=0
 ·subst h0;decide
 ·exact(Nat.log2_lt h0).mpr (b4 h CJ)
theorem Kv{v:Nat}(h:v<zq):(Str.ofString (toString (v:Int))).length<=500:=vf (k:=499) h
noncomputable def D9(B:ar):List (List Nat)->Option (Nat×ew×ar)
 |w0::w1::ws=>(b5 w0).bind λad=>(e9 B (w1::ws)).map λp=>(ad,p.1,p.2)
 |_=>none
noncomputable def eC(B:ar)(w:List Nat):Option (Nat×ew×ar):=if[]∈gu w then none else D9 B (gu w)
noncomputable def k7(base:Option Nat)(j ad:Nat):Option Nat:=base.elim (some ad) λb=>if ad=b+j then some b else none
noncomputable def c7(B:ar)(base:Option Nat)(k:Nat):List (List Nat)->Option (List ew×ar)
 |[]=>some ([],B)
 |w::r=>(eC B w).bind λq=>(k7 base k q.1).bind λb=>(c7 q.2.2 (some b) (k+1) r).map λp=>(q.2.1::p.1,p.2)
theorem AW{B:ar}{ws:List (List Nat)}{p:ew×ar}(h:e9 B ws=some p):p.2.texts.length<=B.texts.length+ws.length/\p.2.bh.length<=B.bh.length+ws.length:=by
 cases ws with
 |nil=>cases h
 |cons w r=>
  refine(ao.mp h).elim λks h=>(ao.mp h.2).elim λx h'=> ?_
  have f:=qV (mL _ (md h.1)).2.2 h'.1
  have h2:=h'.2
  by_cases e:jA (L ks) x.1=true
  ·rw[if_pos e]at h2;exact ax h2▸⟨bv f.2.1,bv f.2.2⟩
  ·rw[if_neg e]at h2;cases h2
noncomputable def zu(rows:List (List Nat)):Prop:=∀r∈rows,r.length<=1000000/\(gu r).length<=900/\∀w∈gu r,eo w/\w.length<=500
end
structure PA where
 p:Addr
 lf:Addr
 eD:List Nat
noncomputable def Mq(pa:PA)(pos mix:Nat):dx:= .list [.loc pa.lf,.int pos,.int mix]
structure wC(σ:St)(pa:PA)(pos mix:Nat):Prop where
 hp:σ pa.p=some (Mq pa pos mix)
 hf:σ pa.lf=some (.list (pa.eD.map λn=> .int (n:Nat)))
 ne:pa.p≠pa.lf
 le:pa.eD.length<=1000
noncomputable def qh(σ:St)(pa:PA)(pos mix:Nat):St:=σ.upd pa.p (Mq pa pos mix)
section
variable{C:Ctx}{K:Frag}{bL bM:ClassData}{lv:Nat}{σ:St}{Q:PV->St->Prop}{X:Prop}{pa:PA}{pos mix:Nat}
theorem wC.put(h:wC σ pa pos mix)(q m:Nat):wC (qh σ pa q m) pa q m:=⟨St.bz _ _ _,by unfold qh;rw[St.bu _ _ h.ne.symm];exact h.hf,h.ne,h.le⟩
noncomputable def nu(fs:List Nat)(pos mix:Nat):Nat×Nat×Nat:=if pos<fs.length then(fs.getD pos 0,pos+1,mix)else if fs.length<3 then(0,pos,mix)else((mix*37+11)%1009,pos,(mix*37+11)%1009)
local macro_rules |`(tactic|left)=>`(tactic|first|exact iB.str|exact iB.tup|exact iB.list (by assumption)|exact iB.list (St.bz _ _ _)|exact iB.ca (St.bz _ _ _))
theorem AX(P:PO C K bL bM){n:Nat}(hn:0<n)(hP:wC σ pa pos mix)(h:Q (.int ((nu pa.eD pos mix).1%n:Nat)) (qh σ pa (nu pa.eD pos mix).2.1 (nu pa.eD pos mix).2.2)):Spec C jb lv [.loc pa.p,.int n] σ Q X:=by
 refine Spec.intro (ρ:=[some (.loc pa.p),some (.int n),none]) rfl (by conv=>lhs;whnf) ?_
 intro L' outer A F
 have hp:=hP.hp
 have hf:=hP.hf
 have HC:=hP.le
 have pv0:([.loc pa.lf,.int pos,.int mix]:List PV)[((0:Int)).toNat]?=some (.loc pa.lf):=rfl
 have pv1:([.loc pa.lf,.int pos,.int mix]:List PV)[((1:Int)).toNat]?=some (.int pos):=rfl
 have pv2:([.loc pa.lf,.int pos,.int mix]:List PV)[((2:Int)).toNat]?=some (.int mix):=rfl
 have BP:σ pa.p=some (.list [.loc pa.lf,.int pos,.int mix]):=hp
 have qr:∀(f q m:Nat) (σ':St),nu pa.eD pos mix=(f,q,m)->σ'=qh σ pa q m->Q (.int ((f:Int)%(n:Int))) σ':=λf q m σ' e0 e=>by
  rw[e];rw[e0,Int.natCast_emod]at h;exact h
 have same:σ=qh σ pa pos mix:=by
  funext b;unfold qh;by_cases e:b=pa.p
  ·subst e;rw[St.bz];exact hp
  ·rw[St.bu _ _ e]
 by_cases eP:pos<pa.eD.length
 ·obtain⟨f,Z1⟩:∃f,pa.eD[pos]?=some f:=⟨pa.eD[pos],aB eP⟩
  have hfv:(pa.eD.map λn=>PV.int (n:Nat))[pos]?=some (.int (f:Nat)):=by simp[Z1]
  have h62:pos<2^62:=by exact aa eP (aa HC (by decide))
  have hc:decide ((pos:Int)<((pa.eD.map λn=>PV.int (n:Nat)).length:Nat))=true:=decide_eq_true (by simp;exact eP)
  with_reducible
   refine bw ?_
   refine ub ?_
   refine gx ?_
   refine gB ?_
   refine aV (by assumption) 0 (by ac_rfl) (by ac_rfl) ?_
   refine dn ?_
  refine⟨by left,?_⟩
  with_reducible
   refine eU (by with_reducible assumption) (by decide) (by decide) (by with_reducible assumption) ?_
   refine ij P.G (by assumption) (by ac_rfl) P.sD P.sE ?_
   refine cR ?_
   refine gB ?_
   refine aV (by assumption) 0 (by ac_rfl) (by ac_rfl) ?_
   refine dn ?_
  refine⟨by left,?_⟩
  with_reducible
   refine eU (by with_reducible assumption) (by decide) (by decide) (by with_reducible assumption) ?_
   refine eT ?_
   refine iA (by assumption) ?_ ?_
  simp;exact ah HC (by decide)
  with_reducible
   refine DE ?_
   refine eS ?_
   refine Hc (by with_reducible assumption) ?_
   refine bw ?_
   refine gd (by assumption) 2 (by ac_rfl) ?_
   refine gB ?_
   refine gB ?_
   refine aV (by assumption) 0 (by ac_rfl) (by ac_rfl) ?_
   refine dn ?_
  refine⟨by left,?_⟩
  with_reducible
   refine eU (by with_reducible assumption) (by decide) (by decide) (by with_reducible assumption) ?_
   refine gB ?_
   refine aV (by assumption) 0 (by ac_rfl) (by ac_rfl) ?_
   refine dn ?_
  refine⟨by left,?_⟩
  with_reducible
   refine eU (by with_reducible assumption) (by decide) (by decide) (by with_reducible assumption) ?_
  refine⟨by left,?_⟩
  with_reducible
   refine Fx (by with_reducible assumption) (by with_reducible assumption) (by with_reducible assumption) ?_
   refine bw ?_
   refine mw ?_
   refine aV (by assumption) 0 (by ac_rfl) (by ac_rfl) ?_
   refine dn ?_
   refine eU (by with_reducible assumption) (by decide) (by decide) (by with_reducible assumption) ?_
   refine dn ?_
   refine DD ?_
  with_reducible refine tC BP (by decide) (by decide) (by simp) ?_
  with_reducible
   refine g7 ?_
   refine bw ?_
   refine dC ?_
   refine j5 ?_
   refine aV (by assumption) 2 (by ac_rfl) (by ac_rfl) ?_
   refine aV (by assumption) 1 (by ac_rfl) (by ac_rfl) ?_
  with_reducible refine tw (by omega) ?_
  exact qr f (pos+1) mix _ (by unfold nu;rw[if_pos eP,ed,Z1];rfl) rfl
 ·have hc:decide ((pos:Int)<((pa.eD.map λn=>PV.int (n:Nat)).length:Nat))=false:=decide_eq_false (by simp;exact cu eP)
  with_reducible
   refine bw ?_
   refine ub ?_
   refine gx ?_
   refine gB ?_
   refine aV (by assumption) 0 (by ac_rfl) (by ac_rfl) ?_
   refine dn ?_
  refine⟨by left,?_⟩
  with_reducible
   refine eU (by with_reducible assumption) (by decide) (by decide) (by with_reducible assumption) ?_
   refine ij P.G (by assumption) (by ac_rfl) P.sD P.sE ?_
   refine cR ?_
   refine gB ?_
   refine aV (by assumption) 0 (by ac_rfl) (by ac_rfl) ?_
   refine dn ?_
  refine⟨by left,?_⟩
  with_reducible
   refine eU (by with_reducible assumption) (by decide) (by decide) (by with_reducible assumption) ?_
   refine eT ?_
   refine iA (by assumption) ?_ ?_
  simp;exact ah HC (by decide)
  with_reducible
   refine DE ?_
   refine eS ?_
   refine Hd (by with_reducible assumption) ?_
   refine bw ?_
   refine ub ?_
   refine gx ?_
   refine ij P.G (by assumption) (by ac_rfl) P.sD P.sE ?_
   refine cR ?_
   refine gB ?_
   refine aV (by assumption) 0 (by ac_rfl) (by ac_rfl) ?_
   refine dn ?_
  refine⟨by left,?_⟩
  with_reducible
   refine eU (by with_reducible assumption) (by decide) (by decide) (by with_reducible assumption) ?_
   refine eT ?_
   refine iA (by assumption) ?_ ?_
  simp;exact ah HC (by decide)
  with_reducible
   refine dn ?_
   refine DE ?_
   refine eS ?_
   refine UP (λh=> ?_) (λh=> ?_)<;>first|exact X4 h|exact X5 h|exact X6 h|exact X7 h|skip
   refine bw ?_
   refine gd (by assumption) 2 (by ac_rfl) ?_
   refine dn ?_
   refine g7 ?_
   refine g7 ?_
   refine bw ?_
   refine dC ?_
   refine j5 ?_
   refine aV (by assumption) 2 (by ac_rfl) (by ac_rfl) ?_
   refine aV (by assumption) 1 (by ac_rfl) (by ac_rfl) ?_
  rotate_left
  with_reducible
   refine bw ?_
   refine eg ?_
   refine j5 ?_
   refine j5 ?_
   refine j5 ?_
   refine gB ?_
   refine aV (by assumption) 0 (by ac_rfl) (by ac_rfl) ?_
   refine dn ?_
  refine⟨by left,?_⟩
  with_reducible
   refine eU (by with_reducible assumption) (by decide) (by decide) (by with_reducible assumption) ?_
   refine dn ?_
  rotate_right 1
  ·with_reducible refine tw (by omega) ?_
   exact qr 0 pos mix _ (by unfold nu;rw[if_neg eP,if_pos (by have:=of_decide_eq_true ‹_›;simp at this;exact bG.mp this)]) same
  ·with_reducible refine Cb (yY (by decide) (by decide)) ?_
   with_reducible
    refine dn ?_
    refine GA ?_
    refine dn ?_
    refine tw (by decide) ?_
    refine aV (by assumption) 0 (by ac_rfl) (by ac_rfl) ?_
    refine dn ?_
   with_reducible refine tC BP (by decide) (by decide) (by simp) ?_
   have pv3:(([.loc pa.lf,.int pos,.int mix]:List PV).set ((2:Int)).toNat (.int (((mix:Int)*37+11)%1009)))[((2:Int)).toNat]?=some (.int (((mix:Int)*37+11)%1009)):=rfl
   have hp2:(σ.upd pa.p (.list (([.loc pa.lf,.int pos,.int mix]:List PV).set ((2:Int)).toNat (.int (((mix:Int)*37+11)%1009))))) pa.p=some (.list (([.loc pa.lf,.int pos,.int mix]:List PV).set ((2:Int)).toNat (.int (((mix:Int)*37+11)%1009)))):=St.bz _ _ _
   with_reducible
    refine bw ?_
    refine gd (by assumption) 2 (by ac_rfl) ?_
    refine gB ?_
    refine aV (by assumption) 0 (by ac_rfl) (by ac_rfl) ?_
    refine dn ?_
   refine⟨by left,?_⟩
   with_reducible
    refine eU (by with_reducible assumption) (by decide) (by decide) (by with_reducible assumption) ?_
    refine g7 ?_
    refine g7 ?_
    refine bw ?_
    refine dC ?_
    refine j5 ?_
    refine aV (by assumption) 2 (by ac_rfl) (by ac_rfl) ?_
    refine aV (by assumption) 1 (by ac_rfl) (by ac_rfl) ?_
   with_reducible refine tw (by omega) ?_
   have e:(((mix:Int)*37+11)%1009)=(((mix*37+11)%1009:Nat):Int):=by exact rfl
   rw[e]
   exact qr ((mix*37+11)%1009) pos ((mix*37+11)%1009) _ (by unfold nu;rw[if_neg eP,if_neg (by have:=of_decide_eq_false ‹_›;simp at this;exact rf [.BX (.n 3) (.c (.v 0))] (.no (.lt (.v 0) (.n 3))) [1] (Eq.refl true) this)]) rfl
end
noncomputable def gj:List Str:="proceed"::"call F N"::"get_list X"::"get_constant C X"::"get_structure F X"::"unify_variable R"::"switch_on_constant T L"::"switch_on_structure U L"::"switch_on_term L L L L"::"try L N"::"get_variable R X"::"get_value R X"::"unify_value R"::"unify_local_value R"::"unify_constant C"::"unify_void N"::"put_variable R X"::"put_void X"::"put_value R X"::"put_unsafe_value Y X"::"put_constant C X"::"put_list X"::"put_structure F X"::"set_variable R"::"set_value R"::"set_local_value R"::"set_constant C"::"set_void N"::"allocate N"::"deallocate"::"execute F"::"builtin F"::"neck_cut"::"get_level R"::"mark R"::"cut_to R"::"fail"::"halt"::"retry L"::"trust L"::"meta_call N"::"catch_push"::"catch_exit Y"::"catch_fail"::"dyn_retry"::[]
structure ar.le(B B':ar):Prop where
 t:∃l,B'.texts=B.texts++l
 f:∃l,B'.bh=B.bh++l
theorem ar.le_refl(B:ar):B.le B:=⟨⟨[],by simp⟩,⟨[],by simp⟩⟩
theorem ar.le.trans{A B D:ar}(h:A.le B)(k:B.le D):A.le D:=by
 obtain⟨⟨a,ha⟩,⟨b,hb⟩⟩:=h;obtain⟨⟨c,hc⟩,⟨d,hd⟩⟩:=k
 exact⟨⟨a++c,by rw[hc,ha,aC]⟩,⟨b++d,by rw[hd,hb,aC]⟩⟩
theorem ar.EQ(B:ar)(t:Str):B.le (B.atom t):=by
 unfold ar.atom;split
 ·exact B.le_refl
 ·exact⟨⟨[t],rfl⟩,⟨[],by simp⟩⟩
theorem ar.Dp(B:ar)(f:Nat×Nat):B.le (B.du f):=by
 unfold ar.du;split
 ·exact B.le_refl
 ·exact⟨⟨[],by simp⟩,⟨[f],rfl⟩⟩
theorem ar.LO(B:ar)(t:Str)(r:Nat):B.le (B.func t r):=(B.EQ t).trans (ar.Dp _ _)
theorem ar.le.text{B B':ar}(h:B.le B'){i:Nat}{t:Str}(e:B.texts[i]?=some t):B'.texts[i]?=some t:=by
 obtain⟨⟨l,hl⟩,_⟩:=h
 rw[hl,bH (aj.mp e).1];exact e
theorem ar.le.fun{B B':ar}(h:B.le B'){i:Nat}{t:Nat×Nat}(e:B.bh[i]?=some t):B'.bh[i]?=some t:=by
 obtain⟨_,⟨l,hl⟩⟩:=h
 rw[hl,bH (aj.mp e).1];exact e
theorem wD{α:Type}[DecidableEq α]{k:α}:∀{l:List α},k∈l->l[ix k l]?=some k
 |[],h=>by cases h
 |x::l,h=>by
  unfold ix
  by_cases e:x=k
  ·rw[if_pos e,e];rfl
  ·rw[if_neg e,fv];exact wD ((ak.mp h).resolve_left λq=>e q.symm)
theorem Ea{α:Type}[DecidableEq α]{k:α}{l:List α}(h:k∈l):ix k l<l.length:=(aj.mp (wD h)).1
theorem tW{α:Type}[DecidableEq α]{k:α}:∀{l:List α} {i:Nat},l.Nodup->l[i]?=some k->ix k l=i
 |[],i,_,h=>by cases h
 |x::l,i,hn,h=>by
  unfold ix
  cases i with
  |zero=>simp at h;rw[if_pos h]
  |succ i=>
   simp only[fv]at h
   have hm:=aD h
   rw[cW]at hn
   have hZ:¬x=k:=λe=>hn.1 (by rw[e];exact hm)
   rw[if_neg hZ,tW hn.2 h]
theorem ar.pR(B:ar)(t:Str):t∈(B.atom t).texts:=by unfold ar.atom;split<;>simp_all
theorem ar.BH(B:ar)(f:Nat×Nat):f∈(B.du f).bh:=by unfold ar.du;split<;>simp_all
theorem ar.xn(B:ar)(t:Str)(r:Nat):(B.func t r).texts=(B.atom t).texts:=((B.atom t).uS _).2
theorem iW.mono{B B':ar}(h:B.le B'){k n:Int}(c:iW B k n):iW B' k n:=
 c.imp id λ⟨e,i,t,a,b,d,f⟩=>⟨e,i,t,a,b,h.text d,f⟩
theorem iX.mono{B B':ar}(h:B.le B'){n:Int}(c:iX B n):iX B' n:=
 let⟨i,f,t,a,b,d,e,g,k,m⟩:=c;⟨i,f,t,a,b,h.fun d,e,h.text g,k,m⟩
theorem ma.mono{B B':ar}(h:B.le B'){k:Nat}{o:dA}(c:ma B k o):ma B' k o:=by
 cases o with
 |CA x n=>exact c
 |con d n=>exact⟨c.1,c.2.mono h⟩
 |num n=>exact c.imp (λq=>⟨q.1,q.2.mono h⟩) id
 |dY kvs=>exact⟨c.1,c.2.1,c.2.2.1,λp hp=>⟨(c.2.2.2 p hp).1.mono h,(c.2.2.2 p hp).2⟩⟩
 |tabI kvs=>exact⟨c.1,c.2.1,c.2.2.1,λp hp=>⟨(c.2.2.2 p hp).1.mono h,(c.2.2.2 p hp).2⟩⟩
theorem eK{n:Nat}(h:n<1000000000000000000):dG ((n:Nat):Int):=by
 unfold dG;rw[eZ,mD,if_neg (Nat.not_le.mpr h)];simp
theorem CK{B:ar}{t:Str}(ht:eo (L t))(hz:B.texts.length<=1000000):iW (B.atom t) 4 ((ix t (B.atom t).texts:Nat):Int):=by
 have h1:=Ea (B.pR t)
 have h2:=(B.ib t).1
 exact .inr ⟨rfl,_,t,rfl,by exact nW [.le (.v 0) (.n 1000000),.lt (.v 1) (.v 2),.le (.v 2) (.a (.v 0) (.n 1))] (.lt (.v 1) (.n 4611686018427387904)) [1,1,1] (Eq.refl true) hz h1 h2,wD (B.pR t),ht⟩
theorem CL{B:ar}{t:Str}{r:Nat}(ht:eo (L t))(hr:dG ((r:Nat):Int))(hz:B.texts.length<=1000000)(lE:B.bh.length<=1000000):iX (B.func t r) ((ix (ix t (B.atom t).texts,r) (B.func t r).bh:Nat):Int):=by
 have m1:(ix t (B.atom t).texts,r)∈(B.func t r).bh:=ar.BH _ _
 have h1:=Ea m1
 have h2:=(B.pQ t r).2
 have h3:=Ea (B.pR t)
 have h4:=(B.ib t).1
 exact⟨_,_,t,rfl,by exact nW [.le (.v 0) (.n 1000000),.lt (.v 1) (.v 2),.le (.v 2) (.a (.v 0) (.n 1))] (.lt (.v 1) (.n 4611686018427387904)) [1,1,1] (Eq.refl true) lE h1 h2,wD m1,by show ix t (B.atom t).texts<_;exact nW [.le (.v 0) (.n 1000000),.lt (.v 1) (.v 2),.le (.v 2) (.a (.v 0) (.n 1))] (.lt (.v 1) (.n 4611686018427387904)) [1,1,1] (Eq.refl true) hz h3 h4,by rw[B.xn];exact wD (B.pR t),ht,hr⟩
noncomputable def jM(B:ar)(k:Nat)(o:dA):Prop:=ma B k o/\o.fits (mk [k])/\o.ok (mk [k])=true
theorem jM.mono{B B':ar}(h:B.le B'){k:Nat}{o:dA}(c:jM B k o):jM B' k o:=⟨c.1.mono h,c.2⟩
theorem HD{K V:Type}[DecidableEq K]{kvs:List (K×V)}{k:K}{v:V}{p:K×V}(h:p∈hK kvs k v):p=(k,v)\/p∈kvs:=by
 unfold hK at h
 split at h
 ·obtain⟨q,hq,rfl⟩:=bj.mp h
  split
  ·rename_i e;left;rw[<-e]
  ·exact .inr hq
 ·rcases bC.mp h with h|h
  ·exact .inr h
  ·exact .inl (am.mp h)
theorem yy{K V:Type}[DecidableEq K](kvs:List (K×V))(k:K)(v:V):(hK kvs k v).map (·.1)=if k∈kvs.map (·.1)then kvs.map (·.1)else kvs.map (·.1)++[k]:=by
 unfold hK
 have e:kvs.any (λp=>decide (p.1=k))=decide (k∈kvs.map (·.1)):=by
  rw[Bool.eq_iff_iff];simp
 rw[e]
 by_cases h:k∈kvs.map (·.1)
 ·simp only[h,decide_true,if_true]
  rw[b3];apply ef;intro p _;simp only[Function.comp];split<;>rfl
 ·simp only[h,decide_false,if_false]
  simp
theorem CM{K V:Type}[DecidableEq K]{kvs:List (K×V)}{k:K}{v:V}(h:(kvs.map (·.1)).Nodup):((hK kvs k v).map (·.1)).Nodup:=by
 rw[yy];split
 ·exact h
 ·rename_i hm;exact dE.mpr ⟨h,by simp,λx hx y hy e=>hm (by rw[<-(show y=k by simpa using hy),<-e];exact hx)⟩
theorem HE{K V:Type}[DecidableEq K](kvs:List (K×V))(k:K)(v:V):(hK kvs k v).length<=kvs.length+1:=by
 have:=congrArg List.length (yy kvs k v)
 rw[af]at this
 rw[this];split<;>simp
theorem Kw(acc:List ((Int×Int)×Int))(k n v:Int):hK (jW acc) [k,n] v=jW (hK acc (k,n) v):=by
 have e:(jW acc).any (λp=>decide (p.1=[k,n]))=acc.any (λp=>decide (p.1=(k,n))):=by
  unfold jW;rw[List.any_map];congr 1;funext p;simp only[Function.comp]
  rw[decide_eq_decide];constructor
  ·intro q;simp at q;exact Prod.ext q.1 q.2
  ·intro q;rw[q]
 unfold hK
 rw[e]
 split
 ·unfold jW;rw[b3,b3];apply ef;intro p _
  simp only[Function.comp]
  by_cases q:p.1=(k,n)
  ·rw[if_pos q,if_pos (by rw[q])]
  ·rw[if_neg q,if_neg (λe=>q (by simp at e;exact Prod.ext e.1 e.2))]
 ·unfold jW;simp
theorem ar.Ok.atom{B:ar}(h:B.Ok)(t:Str):(B.atom t).Ok:=by
 unfold ar.atom;split
 ·exact h
 ·rename_i hm
  exact⟨dE.mpr ⟨h.t,by simp,λx hx y hy e=>hm (by rw[<-(show y=t by simpa using hy),<-e];exact hx)⟩,h.f,λf hf=>by have:=h.lt f hf;rw[ae];exact au this (ay _ _)⟩
theorem ar.Ok.du{B:ar}(h:B.Ok){f:Nat×Nat}(hf:f.1<B.texts.length):(B.du f).Ok:=by
 unfold ar.du;split
 ·exact h
 ·rename_i hm
  exact⟨h.t,dE.mpr ⟨h.f,by simp,λx hx y hy e=>hm (by rw[<-(show y=f by simpa using hy),<-e];exact hx)⟩,λg hg=>(bC.mp hg).elim (h.lt g) λq=>by rw[am.mp q];exact hf⟩
theorem ar.Ok.func{B:ar}(h:B.Ok)(t:Str)(r:Nat):(B.func t r).Ok:=(h.atom t).du (Ea (B.pR t))
structure ar.Jw(N:List Str)(B B':ar):Prop where
 le:B.le B'
 tx:∀t∈B'.texts,t∈B.texts\/t∈N
 ok:B.Ok->B'.Ok
theorem ar.BI(N:List Str)(B:ar):B.Jw N B:=⟨B.le_refl,λ_ h=> .inl h,id⟩
theorem ar.Jw.trans{N:List Str}{A B D:ar}(h:A.Jw N B)(k:B.Jw N D):A.Jw N D:=⟨h.le.trans k.le,λt ht=>(k.tx t ht).elim (h.tx t) .inr,λo=>k.ok (h.ok o)⟩
theorem ar.BJ{N:List Str}(B:ar){t:Str}(h:t∈N):B.Jw N (B.atom t):=⟨B.EQ t,λu hu=>by
 unfold ar.atom at hu;split at hu
 ·exact .inl hu
 ·rcases bC.mp hu with hu|hu
  ·exact .inl hu
  ·rw[am.mp hu];exact .inr h,λo=>o.atom t⟩
theorem ar.Jc{N:List Str}(B:ar){t:Str}(r:Nat)(h:t∈N):B.Jw N (B.func t r):=⟨B.LO t r,λu hu=>by rw[B.xn]at hu;exact(B.BJ h).tx u hu,λo=>o.func t r⟩
section
open PySem.NumText PySem.W.KIN
theorem Eb(n:Nat):(dg n).all k6=true:=av.mpr λc hc=>by have:=tJ n c hc;unfold k6;simp[this.1,this.2]
theorem dk(n:Nat):b5 (dg n)=some n:=by
 unfold b5
 have h1:(dg n).isEmpty=false:=by
  have:=yf n
  cases q:dg n with
  |nil=>exact absurd q this
  |cons c r=>rfl
 have h2:(decide ((dg n)[0]?=some 48)&& !decide (dg n=[48]))=false:=by
  by_cases h0:n=0
  ·subst h0;decide+kernel
  ·obtain⟨c,cs,e,hc⟩:=Kf (n:=n) (by exact Nat.pos_of_ne_zero h0)
   rw[e];simp[hc]
 rw[h1,h2,Eb,tI];rfl
theorem Kx(n:Nat):∃c r,dg n=c::r/\k6 c=true:=by
 cases q:dg n with
 |nil=>exact absurd q (yf n)
 |cons c r=>
  refine⟨c,r,rfl,?_⟩
  have:=av.mp (Eb n) c (by rw[q];exact az)
  exact this
theorem jO{n c:Nat}(h:c<48\/57<c):c∉dg n:=λhc=>by have:=tJ n c hc;omega
noncomputable def RT(t:List Nat):Prop:=iO (cJ t)=some t/\eo (cJ t)/\32∉cJ t/\(cJ t).length<=100
theorem jl(t:List Nat):∃c r,cJ t=c::r/\k6 c=false/\c≠45:=by
 unfold cJ
 split
 ·rename_i h
  cases t with
  |nil=>cases h
  |cons c r=>
   refine⟨c,r,rfl,?_⟩
   unfold g9 at h
   have h1:=(an.mp h).1
   unfold fT at h1
   simp at h1
   unfold k6;simp;omega
 ·exact⟨39,_,rfl,by decide,by decide⟩
theorem Ec{B:ar}(hB:B.Ok){i:Nat}{t:Str}(h:B.texts[i]?=some t):B.atom t=B/\ix t B.texts=i:=by
 have hm:=aD h
 exact⟨by unfold ar.atom;rw[if_pos hm],tW hB.t h⟩
theorem zv{B:ar}(hB:B.Ok){k n:Int}(hc:iW B k n)(hr:∀t∈B.texts,k=4->RT (L t)\/¬B.texts[n.toNat]?=some t):e7 B (hM B k n)=some ((k,n),B):=by
 rcases hc with⟨rfl,_⟩|⟨rfl,i,t,rfl,_,ht,_⟩
 ·unfold hM;rw[if_pos rfl]
  by_cases h0:0<=n
  ·obtain⟨m,rfl⟩:=dj h0
   rw[fx]
   obtain⟨c,r,e,PP⟩:=Kx m
   rw[e,e7,if_pos PP,<-e,dk];rfl
  ·obtain⟨m,rfl⟩:∃m:Nat,n= -(m:Int):=⟨n.natAbs,by omega⟩
   rw[se m (by exact rf [.no (.BX (.n 0) (.g (.c (.v 0))))] (.lt (.n 0) (.v 0)) [1] (Eq.refl true) h0),c8,e7,if_neg (by decide),if_pos rfl,dk,a5,if_neg (by exactλe=>absurd (e▸h0) (by decide))]
 ·have F5:RT (L t):=(hr t (aD ht) rfl).resolve_right (by simp[ht])
  have e:hM B 4 (i:Nat)=cJ (L t):=by unfold hM ko;rw[if_neg (by decide)];simp only[bD,ht,dQ]
  obtain⟨c,r,eq,h1,h2⟩:=jl (L t)
  obtain⟨e1,e2⟩:=Ec hB ht
  rw[e,eq,e7,if_neg (by simp[h1]),if_neg h2,<-eq,F5.1]
  simp only[j3,fE,e1,e2]
theorem zw{B:ar}(hB:B.Ok){i:Nat}{f:Nat×Nat}(h:B.bh[i]?=some f):B.du f=B/\ix f B.bh=i:=by
 have hm:=aD h
 exact⟨by unfold ar.du;rw[if_pos hm],tW hB.f h⟩
theorem zx{B:ar}(hB:B.Ok){n:Int}(hc:iX B n)(hr:∀(f:Nat×Nat) (t:Str),B.bh[n.toNat]?=some f->B.texts[f.1]?=some t->RT (L t)):fV B (io B n)=some (n,B):=by
 obtain⟨i,f,t,rfl,_,hf,_,ht,_,_⟩:=hc
 have F5:=hr f t (by simpa using hf) ht
 have e:io B (i:Nat)=cJ (L t)++47::dg f.2:=by unfold io ko;simp only[bD,hf,ht,dQ,fx]
 obtain⟨c,r,eq,_,_⟩:=jl (L t)
 obtain⟨e1,e2⟩:=Ec hB ht
 obtain⟨e3,e4⟩:=zw hB hf
 have hq:cJ (L t)≠[]:=by rw[eq];simp
 rw[fV,e,kJ (jO (.inl (by decide))),a5,if_neg hq,F5.1]
 simp only[dk,j3,a5,fE,ar.func,e1,e2]
 rw[show((f.1,f.2):Nat×Nat)=f from rfl,e3,e4]
noncomputable def dX(B:ar):Prop:=∀t∈B.texts,RT (L t)
theorem uH{B:ar}(hB:B.Ok)(hR:dX B){k n:Int}(hc:iW B k n):e7 B (hM B k n)=some ((k,n),B):=
 zv hB hc λt ht _=> .inl (hR t ht)
theorem uI{B:ar}(hB:B.Ok)(hR:dX B){n:Int}(hc:iX B n):fV B (io B n)=some (n,B):=
 zx hB hc λf t _ ht=>hR t (aD ht)
theorem Ky{B:ar}{k n:Int}(hc:iW B k n):hM B k n≠[]:=by
 unfold hM;split
 ·by_cases h0:0<=n
  ·obtain⟨m,rfl⟩:=dj h0
   rw[fx];exact yf m
  ·obtain⟨m,rfl⟩:∃m:Nat,n= -(m:Int):=⟨n.natAbs,by omega⟩
   rw[se m (by exact rf [.no (.BX (.n 0) (.g (.c (.v 0))))] (.lt (.n 0) (.v 0)) [1] (Eq.refl true) h0),c8];simp
 ·obtain⟨c,r,e,_⟩:=jl (ko B n.toNat)
  rw[e];simp
theorem Kz{B:ar}{n:Int}(hc:iX B n):io B n≠[]:=by
 obtain⟨i,f,t,rfl,_,hf,_⟩:=hc
 unfold io;simp[hf]
theorem uJ{κ:Type}[DecidableEq κ]{rd:ar->List Nat->Option (κ×ar)}{B:ar}{sh:κ->List Nat}{ent:κ×Int->List Nat}{ok:κ->Prop}(hs:∀k,ok k->sh k≠[]/\rd B (sh k)=some (k,B))(he:∀k v,ent (k,v)=sh k++58::L (cE v))(rs:List (List Nat))(kvs:List (κ×Int)):
 ∀acc:List (κ×Int),((acc++kvs).map (·.1)).Nodup->(∀p∈kvs,ok p.1/\0<=p.2)->gh rd B acc (kvs.map ent++[125]::rs)=some (acc++kvs,B,rs):=by
 induction kvs with
 |nil=>exactλacc _ _=>by rw[fK,fC,gh,if_pos rfl,bV]
 |cons p kvs ih=>
  intro acc hn hk
  obtain⟨k,v⟩:=p
  obtain⟨h1,h2⟩:=hk _ az
  obtain⟨m,rfl⟩:=dj h2
  have hZ:sh k++58::dg m≠[125]:=λq=>absurd (show(58:Nat)∈([125]:List Nat)from q▸mn _ (az ..)) (by decide)
  have hm:k∉acc.map (·.1):=λq=>by
   rw[aQ,bp,dE]at hn
   exact hn.2.2 _ q _ az rfl
  rw[bp,fN,he,fx,gh,if_neg hZ,kJ (jO (.inr (by decide))),a5,if_neg (hs k h1).1,yx,(hs k h1).2,a5,if_neg hm,dk,j3,a5,
   ih (acc++[(k,((m:Nat):Int))]) (by rw[aC];exact hn) λp hp=>hk p (aK _ hp),aC]
  rfl
theorem CN{B:ar}(hB:B.Ok)(hR:dX B)(kvs:List ((Int×Int)×Int))(rs:List (List Nat))(hn:(kvs.map (·.1)).Nodup)(h:∀p∈kvs,iW B p.1.1 p.1.2/\0<=p.2):gh e7 B [] (kvs.map (sN B)++[125]::rs)=some (kvs,B,rs):=
 uJ (ok:=λk=>iW B k.1 k.2) (sh:=λk=>hM B k.1 k.2) (λk h=>⟨Ky h,uH hB hR h⟩) (λ_ _=>rfl) rs kvs [] hn h
theorem CP{B:ar}(hB:B.Ok)(hR:dX B)(kvs:List (Int×Int))(rs:List (List Nat))(hn:(kvs.map (·.1)).Nodup)(h:∀p∈kvs,iX B p.1/\0<=p.2):gh fV B [] (kvs.map (sP B)++[125]::rs)=some (kvs,B,rs):=
 uJ (ok:=iX B) (sh:=io B) (λk h=>⟨Kz h,uI hB hR h⟩) (λ_ _=>rfl) rs kvs [] hn h
inductive k9(p:Nat)(w0 w1:List Nat)(r:List (List Nat)):List (List Nat)->Prop
 |add:k9 p w0 w1 r (w0::w1::(r++[[120,49]]))
 |pop {z:List (List Nat)} (w:List Nat) (h:w0::w1::r=z++[w]):k9 p w0 w1 r z
 |nm (c:Nat) (h:c=122\/c=32):k9 p w0 w1 r (w0::(w1++[c])::r)
 |adr (m k:Nat) (e:w0=dg m) (h:1<=p) (hk:k<10):k9 p w0 w1 r (dg (m+1+k)::w1::r)
 |one:k9 p w0 w1 r ((120::w0)::w1::r)
inductive yz(rows:List (List Nat)):List (List Nat)->Prop
 |mk {p:Nat} {row w0 w1:List Nat} {r ws:List (List Nat)} (h:rows[p]?=some row) (e:gu row=w0::w1::r) (s:k9 p w0 w1 r ws):yz rows (rows.take p++cI [32] ws::rows.drop (p+1))
theorem yz.len{rows kp:List (List Nat)}(h:yz rows kp):kp.length=rows.length:=by
 cases h with|mk hr _ _
 rw[ae,aw,cg,eY,cY (a9 (aj.mp hr).1)]
 exact(bW _ _ _).symm.trans ((bI _ _ _).trans (Nat.add_sub_of_le (aj.mp hr).1))
noncomputable def HF(rows:List (List Nat)):Prop:=∀row∈rows,row.length<=1000000/\(gu row).length<=800/\(∀w∈gu row,w.length<=490)/\∃n w1 r,gu row=dg n::w1::r/\n<1000000
theorem N9{n:Nat}(h:(dg n).length<=640):PySem.intText? (mk (dg n))=some (n:Int):=by
 have eL:(mk (dg n)).cps.toList=dg n:=c8 _
 have:=intText_digits (x:=mk (dg n)) (by rw[eL];exact tJ n) (by rw[eL];exact yf n) (by rw[d8];exact aa h (by decide))
 rw[eL,tI]at this;exact this
theorem X8:L (Str.ofString "x1")=[120,49]:=by ac_rfl
theorem L_z:L (Str.ofString "z")=[122]:=by ac_rfl
theorem pC{v:Int}(h:dG v):(dg v.natAbs).length<=144:=by
 have h1:∀n,(gz n).reverse.flatten.length<=18*(gz n).length:=λn=>by
  have key:∀l:List (List Nat),(∀x∈l,x.length<=18)->l.flatten.length<=18*l.length:=by
   intro l
   induction l with
   |nil=>intro _;simp
   |cons x l ih=>
    intro h
    have h1:=h x az
    have h2:=ih λy hy=>h y (aK _ hy)
    rw[List.flatten_cons,ae,aw,Nat.mul_succ];exact nW [.le (.v 0) (.n 18),.le (.v 1) (.m 18 (.v 2))] (.le (.a (.v 0) (.v 1)) (.a (.m 18 (.v 2)) (.n 18))) [1,1] (Eq.refl true) h1 h2
  have:=key (gz n).reverse (λx hx=>chunk_len n x (List.mem_reverse.mp hx))
  rwa[List.length_reverse]at this
 have h2:=h1 v.natAbs
 rw[um]at h2
 unfold dG at h
 exact mq [.le (.v 0) (.n 8),.le (.v 1) (.m 18 (.v 0))] (.le (.v 1) (.n 144)) [18,1] (Eq.refl true) h h2
noncomputable def fe(w:List Nat):Prop:=w≠[]/\32∉w/\w.length<=490/\∀c∈w,c<4294967296
theorem uK{c:Nat}{w:List Nat}(hc:c≠32/\c<4294967296)(h:32∉w)(hl:w.length<=489)(ha:∀c∈w,c<4294967296):fe (c::w):=
 ⟨bJ _ _,λq=>(ak.mp q).elim (λe=>hc.1 e.symm) h,by simp;exact hl,λd hd=>(ak.mp hd).elim (λe=>e▸hc.2) (ha d)⟩
theorem tY{n:Nat}:∀c∈dg n,c<4294967296:=λc hc=>by have:=tJ n c hc;exact ah this.2 (by decide)
theorem zy{v:Nat}(h:dG ((v:Nat):Int)):fe (dg v):=
 ⟨yf v,jO (.inl (by decide)),by have:=pC h;rw[eZ]at this;exact aa this (by decide),tY⟩
theorem yA{B:ar}(hR:dX B){k n:Int}(hc:iW B k n):fe (hM B k n)/\(hM B k n).length<=145:=by
 rcases hc with⟨rfl,hn⟩|⟨rfl,i,t,rfl,_,ht,_⟩
 ·unfold hM;rw[if_pos rfl]
  have hs:=pC hn
  by_cases h0:0<=n
  ·obtain⟨m,rfl⟩:=dj h0
   rw[fx];exact⟨zy hn,by rw[eZ]at hs;exact aa hs (by decide)⟩
  ·obtain⟨m,rfl⟩:∃m:Nat,n= -(m:Int):=⟨n.natAbs,by omega⟩
   rw[Int.natAbs_neg,eZ]at hs
   rw[se m (by exact rf [.no (.BX (.n 0) (.g (.c (.v 0))))] (.lt (.n 0) (.v 0)) [1] (Eq.refl true) h0),c8]
   exact⟨uK (by decide) (jO (.inl (by decide))) (by exact aa hs (by decide)) tY,by simp;exact hs⟩
 ·have F5:=hR t (aD ht)
  have e:hM B 4 (i:Nat)=cJ (L t):=by unfold hM ko;rw[if_neg (by decide)];simp only[bD,ht,dQ]
  obtain⟨c,r,eq,_,_⟩:=jl (L t)
  rw[e]
  exact⟨⟨by rw[eq];simp,F5.2.2.1,by have:=F5.2.2.2;exact aa this (by decide),F5.2.1.2⟩,by have:=F5.2.2.2;exact aa this (by decide)⟩
theorem yB{B:ar}(hR:dX B){n:Int}(hc:iX B n):fe (io B n)/\(io B n).length<=245:=by
 obtain⟨i,f,t,rfl,_,hf,_,ht,_,hn⟩:=hc
 have F5:=hR t (aD ht)
 have e:io B (i:Nat)=cJ (L t)++47::dg f.2:=by unfold io ko;simp only[bD,hf,ht,dQ,fx]
 obtain⟨c,r,eq,_,_⟩:=jl (L t)
 have hs:=pC hn
 rw[eZ]at hs
 have hl:=F5.2.2.2
 rw[e]
 refine⟨⟨by rw[eq];simp,λq=> ?_,by simp;exact ah (bB hl hs) (by decide),λd hd=> ?_⟩,by simp;exact ah (bB hl hs) (by decide)⟩
 ·rcases bC.mp q with q|q
  ·exact F5.2.2.1 q
  ·rcases ak.mp q with q|q
   ·cases q
   ·exact jO (.inl (by decide)) q
 ·rcases bC.mp hd with q|q
  ·exact F5.2.1.2 d q
  ·rcases ak.mp q with rfl|q
   ·decide
   ·exact tY d q
theorem HG{a b:List Nat}{c:Nat}(ha:fe a)(hc:c≠32/\c<4294967296)(hb:32∉b)(LZ:∀d∈b,d<4294967296)(hl:a.length+b.length<=489):fe (a++c::b):=
 ⟨by have:=ha.1;simp,λq=>by
  rcases bC.mp q with q|q
  ·exact ha.2.1 q
  ·rcases ak.mp q with e|q
   ·exact hc.1 e.symm
   ·exact hb q,by simp;exact ah hl (by decide),λd hd=>by
  rcases bC.mp hd with q|q
  ·exact ha.2.2.2 d q
  ·rcases ak.mp q with rfl|q
   ·exact hc.2
   ·exact LZ d q⟩
theorem wE{k x:Str}(h:x∈pg k):∃c,(c=120\/c=121)/\x=mk [c]:=by
 have ex:Str.ofString "x"=mk [120]:=by ac_rfl
 have ey:Str.ofString "y"=mk [121]:=by ac_rfl
 have k:x=Str.ofString "x"\/x=Str.ofString "y":=by
  unfold pg at h
  split at h
  ·exact(ak.mp h).imp id am.mp
  ·split at h
   ·exact .inl (am.mp h)
   ·exact .inr (am.mp h)
 exact k.elim (λe=>⟨120,.inl rfl,e.trans ex⟩) λe=>⟨121,.inr rfl,e.trans ey⟩
theorem AY{m:Nat}(h:dG ((m:Nat):Int)):(dg m).length<=144:=by have:=pC h;rwa[eZ]at this
theorem wF{n:Int}(h:0<=n):∃m:Nat,n=m:=dj h
theorem Ed{p:(Int×Int)×Int}(h:Jj p=true):0<=p.2:=of_decide_eq_true (nX h)
theorem Ee{p:Int×Int}(h:Jk p=true):0<=p.2:=of_decide_eq_true (nX h)
theorem wG{c:Nat}(h:c=123\/c=125):fe [c]:=h.elim (λe=>by subst e;exact⟨by decide,by decide,by decide,by decide⟩) λe=>by subst e;exact⟨by decide,by decide,by decide,by decide⟩
theorem AZ{κ:Type}{ent:κ×Int->List Nat}{sh:κ->List Nat}{kvs:List (κ×Int)}(he:∀k v,ent (k,v)=sh k++58::L (cE v))(h:∀p∈kvs,(fe (sh p.1)/\(sh p.1).length<=245)/\dG p.2/\0<=p.2):∀w∈[123]::(kvs.map ent++[[125]]),fe w:=λw hw=>
 (ak.mp hw).elim (λe=>e▸wG (.inl rfl)) λhw=>(bC.mp hw).elim (λhw=>(bj.mp hw).elim λp e=>by
  obtain⟨h1,h2,h3⟩:=h p e.1
  obtain⟨m,hm⟩:=wF h3
  rw[hm]at h2
  rw[<-e.2,show ent p=ent (p.1,p.2)from rfl,he,hm,fx]
  exact HG h1.1 (by decide) (jO (.inl (by decide))) tY (aa (bB h1.2 (AY h2)) (by decide))) λhw=>am.mp hw▸wG (.inr rfl)
theorem sU{w:List Nat}(h:fe w):[w]≠[]/\∀u∈[w],fe u:=⟨bJ _ _,λu hu=>am.mp hu▸h⟩
theorem yC{B:ar}(hR:dX B){k:Nat}{o:dA}(h:jM B k o):kZ B k o≠[]/\∀w∈kZ B k o,fe w:=by
 obtain⟨hk,hf,ho⟩:=h
 cases o with
 |CA x n=>
  obtain⟨m,rfl⟩:=wF (ll (of_decide_eq_true (nX ho)))
  obtain⟨c,hc,rfl⟩:=wE (of_decide_eq_true (gf ho))
  refine sU ?_
  rw[c8,fx]
  exact uK (hc.elim (λe=>by subst e;decide) λe=>by subst e;decide) (jO (.inl (by decide))) (aa (AY hk.2.2) (by decide)) tY
 |con c n=>exact sU (yA hR hk.2).1
 |num n=>
  obtain⟨m,rfl⟩:=wF (of_decide_eq_true ho)
  rcases hk with⟨rfl,hk⟩|⟨hk,hn⟩
  ·exact sU (yB hR hk).1
  ·rw[show kZ B k (.num (m:Nat))=[dg m]from(if_neg λe=>absurd (e▸hk) (by decide)).trans (congrArg ([·]) (fx m))]
   exact sU (zy hn)
 |dY kvs=>exact⟨bJ _ _,AZ (ent:=sN B) (sh:=λk=>hM B k.1 k.2) (λ_ _=>rfl) λp hp=>⟨(yA hR (hk.2.2.2 p hp).1).imp id (aa · (by decide)),(hk.2.2.2 p hp).2,Ed (av.mp ho p hp)⟩⟩
 |tabI kvs=>exact⟨bJ _ _,AZ (ent:=sP B) (sh:=io B) (λ_ _=>rfl) λp hp=>⟨yB hR (hk.2.2.2 p hp).1,(hk.2.2.2 p hp).2,Ee (av.mp ho p hp)⟩⟩
theorem me{B:ar}{k:Nat}{w:List Nat}{o:dA}(hk:¬(k=84\/k=85))(h:e8 B k w=some (o,B))(rs:List (List Nat)):qT B k ([w]++rs)=some (o,B,rs):=(if_neg hk).trans (congrArg (Option.map _) h)
theorem wH{B:ar}(hB:B.Ok)(hR:dX B){k:Nat}{o:dA}(h:jM B k o)(rs:List (List Nat)):qT B k (kZ B k o++rs)=some (o,B,rs):=by
 obtain⟨hk,hf,ho⟩:=h
 cases o with
 |CA x n=>
  obtain⟨m,rfl⟩:=wF (ll (of_decide_eq_true (nX ho)))
  obtain⟨c,hc,rfl⟩:=wE (of_decide_eq_true (gf ho))
  refine me (λe=> ?_) ((if_pos hk.1).trans ?_) rs
  ·rcases e with rfl|rfl<;>exact absurd hk.1 (by decide)
  ·rw[c8,fx,show[c]++dg m=c::dg m from rfl,mK,if_pos hc,dk];rfl
 |con c n=>
  obtain⟨rfl,hc⟩:=hk
  exact me (by decide) (by rw[e8,if_neg (by decide),if_pos rfl,uH hB hR hc];rfl) rs
 |num n=>
  obtain⟨m,rfl⟩:=wF (of_decide_eq_true ho)
  rcases hk with⟨rfl,hk⟩|⟨hk,hn⟩
  ·exact me (by decide) (by rw[e8,if_neg (by decide),if_neg (by decide),if_pos rfl,uI hB hR hk];rfl) rs
  ·rw[show kZ B k (.num (m:Nat))=[dg m]from(if_neg λe=>absurd (e▸hk) (by decide)).trans (congrArg ([·]) (fx m))]
   rcases hk with rfl|rfl
   ·exact me (by decide) (by rw[e8,if_neg (by decide),if_neg (by decide),if_neg (by decide),dk];rfl) rs
   ·exact me (by decide) (by rw[e8,if_neg (by decide),if_neg (by decide),if_neg (by decide),dk];rfl) rs
 |dY kvs=>
  obtain⟨rfl,hn,_,xy⟩:=hk
  have:=CN hB hR kvs rs hn λp hp=>⟨(xy p hp).1,Ed (av.mp ho p hp)⟩
  show Option.map _ (gh e7 B [] ((kvs.map (sN B)++[[125]])++rs))=_
  rw[aC,eO,this];rfl
 |tabI kvs=>
  obtain⟨rfl,hn,_,xy⟩:=hk
  have:=CP hB hR kvs rs hn λp hp=>⟨(xy p hp).1,Ee (av.mp ho p hp)⟩
  show Option.map _ (gh fV B [] ((kvs.map (sP B)++[[125]])++rs))=_
  rw[aC,eO,this];rfl
noncomputable def qi(B:ar):List Nat->List dA->Prop
 |k::ks,o::os=>jM B k o/\qi B ks os
 |[],[]=>True
 |_,_=>False
theorem qj(B:ar)(k:Nat)(ks:List Nat)(o:dA)(os:List dA):fU B (k::ks) (o::os)=kZ B k o++fU B ks os:=by
 unfold fU;rw[List.zip_cons_cons,List.flatMap_cons]
theorem qW{B:ar}{k:Nat}{ks:List Nat}{o:dA}{ws rs:List (List Nat)}(h:qT B k ws=some (o,B,rs)):eW B (k::ks) ws=(eW B ks rs).map λq=>(o::q.1,q.2):=by rw[eW,h];rfl
theorem xE{B:ar}(hB:B.Ok)(hR:dX B)(rest:List (List Nat)){ks:List Nat}:∀{os:List dA},qi B ks os->eW B ks (fU B ks os++rest)=if rest=[]then some (os,B)else none:=by
 induction ks with
 |nil=>exactλ{os}=>List.casesOn os (λ_=>rfl) λ_ _ h=>h.elim
 |cons k ks ih=>
  exactλ{os}=>List.casesOn os (λh=>h.elim) λo os h=>by
   rw[qj,aC,qW (wH hB hR h.1 _),ih h.2]
   split<;>rfl
noncomputable def LastOk(ks:List Nat):Prop:=∀k,ks.getLast?=some k->¬(k=84\/k=85)
theorem KA(c:Prop)[Decidable c](a b:List Nat):∃u,(if c then[a]else[b])=[u]:=Decidable.byCases (λh:c=>⟨a,if_pos h⟩) λh=>⟨b,if_neg h⟩
theorem xF{B:ar}(hB:B.Ok)(hR:dX B){ks:List Nat}:∀{os:List dA} {ws:List (List Nat)} {w:List Nat},qi B ks os->LastOk ks->fU B ks os=ws++[w]->eW B ks ws=none:=by
 induction ks with
 |nil=>exactλ{os ws w}=>List.casesOn os (λ_ _ e=>(kB ws (bJ w []) e.symm).elim) λ_ _ h=>h.elim
 |cons k ks ih=>
  intro os ws w h hl e
  cases os with
  |nil=>exact h.elim
  |cons o os=>
  rw[qj]at e
  cases ks with
  |nil=>
   cases os with
   |cons _ _=>exact h.2.elim
   |nil=>
    obtain⟨u,eu⟩:∃u,kZ B k o=[u]:=by
     have hk:=hl k rfl
     cases o with
     |num n=>exact KA _ _ _
     |dY kvs=>exact absurd (.inl h.1.1.1) hk
     |tabI kvs=>exact absurd (.inr h.1.1.1) hk
     |_=>exact⟨_,rfl⟩
    rw[eu]at e
    cases ws with
    |nil=>rfl
    |cons x ws=>exact absurd (jQ e).2.symm (kB _ (bJ _ _))
  |cons k2 ks=>
   have hZ:fU B (k2::ks) os≠[]:=by
    cases os with
    |nil=>exact h.2.elim
    |cons o2 os=>rw[qj];exact List.append_ne_nil_of_left_ne_nil (yC hR h.2.1).1 _
   have ex:=(List.dropLast_concat_getLast hZ).symm
   have ews:kZ B k o++(fU B (k2::ks) os).dropLast=ws:=by
    rw[ex,<-aC]at e
    exact(List.append_inj' e rfl).1
   rw[<-ews,qW (wH hB hR h.1 _),ih h.2 (λk' tm=>hl k' (by rw[List.getLast?_cons_cons];exact tm)) ex];rfl
theorem wI{B:ar}:∀{ks:List Nat} {os:List dA},jJ ks os->jA ks os=true->(∀(j k:Nat) (o:dA),ks[j]?=some k->os[j]?=some o->ma B k o)->qi B ks os
 |[],[],_,_,_=>trivial
 |[],_::_,h,_,_=>h.elim
 |_::_,[],h,_,_=>h.elim
 |k::ks,o::os,h,h2,h3=>by
  simp only[jA,hU]at h2
  exact⟨⟨h3 0 k o rfl rfl,h.1,h2.1⟩,wI h.2 h2.2 λj k' o' a b=>h3 (j+1) k' o' (by simpa using a) (by simpa using b)⟩
noncomputable def Mr(ks:List Nat):Bool:=match ks.getLast? with
 |some k=> !(decide (k=84)||decide (k=85))
 |none=>true
noncomputable def HH(w:List Nat):Bool:= !w.isEmpty&& !(w.contains 32)&&decide (w.length<=490)&&w.all λc=>decide (c<4294967296)
theorem HI{w:List Nat}(h:HH w=true):fe w:=by
 unfold HH at h
 simp only[hU,Bool.not_eq_true',decide_eq_true_eq,av]at h
 obtain⟨⟨⟨h1,h2⟩,h3⟩,h4⟩:=h
 refine⟨λe=> ?_,λe=> ?_,h3,h4⟩
 ·rw[e]at h1;cases h1
 ·rw[List.contains_iff_mem.mpr e]at h2;cases h2
theorem sV:∀p∈dO,fe (L p.1)/\LastOk (L p.2)/\b0 dO (mk (L p.1++[122]))=none:=by
 have:dO.all (λp=>HH (L p.1)&&Mr (L p.2)&&(b0 dO (mk (L p.1++[122]))).isNone)=true:=by decide+kernel
 intro p hp
 have:=av.mp this p hp
 simp only[hU,Option.isNone_iff_eq_none]at this
 obtain⟨⟨h1,h2⟩,h3⟩:=this
 refine⟨HI h1,λk hk=> ?_,h3⟩
 unfold Mr at h2
 rw[hk]at h2
 simpa using h2
noncomputable def A0(B:ar)(n:Nat)(i:ew):List (List Nat):=dg n::L i.nm::fU B (L i.ks) i.os
theorem Ef(B:ar)(n:Nat)(i:ew):sQ B ((n:Nat):Int) i=cI [32] (A0 B n i):=by
 unfold sQ A0;rw[fx,cI];simp
section
variable{B:ar}{i:ew}{n:Nat}
theorem yD(hR:dX B):∀{ks:List Nat} {os:List dA},qi B ks os->∀w∈fU B ks os,fe w
 |[],[],_=>by simp[fU]
 |[],_::_,h=>h.elim
 |_::_,[],h=>h.elim
 |k::ks,o::os,h=>λw hw=>by
  rw[qj]at hw
  exact(bC.mp hw).elim ((yC hR h.1).2 w) (yD hR h.2 w)
theorem ew.Ok.good(h:i.Ok B):qi B (L i.ks) i.os:=wI h.fits h.ok h.Pk
theorem jY(hR:dX B)(h:i.Ok B)(hn:n<1000000):∀w∈A0 B n i,fe w:=λw hw=>by
 rcases ak.mp hw with rfl|hw
 ·exact zy (eK (by exact aa hn (by decide)))
 ·rcases ak.mp hw with rfl|hw
  ·exact(sV _ (md h.look)).1
  ·exact yD hR h.good w hw
theorem sW(hR:dX B)(h:i.Ok B)(hn:n<1000000):gu (sQ B ((n:Nat):Int) i)=A0 B n i:=by
 rw[Ef];exact sS (by simp[A0]) λw hw=>(jY hR h hn w hw).2.1
theorem mM(hB:B.Ok)(hR:dX B)(h:i.Ok B)(rest:List (List Nat)):e9 B (L i.nm::(fU B (L i.ks) i.os++rest))=if rest=[]then some (i,B)else none:=by
 rw[e9,fE,h.look,a5,xE hB hR rest h.good]
 by_cases hr:rest=[]
 ·rw[if_pos hr,if_pos hr,a5,if_pos h.ok]
 ·rw[if_neg hr,if_neg hr];rfl
theorem sX(hB:B.Ok)(hR:dX B)(h:i.Ok B)(hn:n<1000000):eC B (sQ B ((n:Nat):Int) i)=some (n,i,B):=by
 unfold eC
 rw[sW hR h hn,if_neg (λq=>(jY hR h hn _ q).1 rfl),A0,D9,dk,a5,<-bV (fU B (L i.ks) i.os),mM hB hR h [],if_pos rfl];rfl
end
theorem mO(B:ar)(b:Nat)(i:ew)(is:List ew):cQ B ((b:Nat):Int) (i::is)=sQ B ((b:Nat):Int) i::cQ B ((b+1:Nat):Int) is:=by
 unfold cQ
 rw[List.zipIdx_cons,bp]
 congr 1
 rw[List.zipIdx_succ,b3]
 apply ef
 intro p _
 simp only[Function.comp]
 congr 1
 exact Int.le_antisymm (mq [] (.BX (.a (.c (.v 0)) (.c (.a (.v 1) (.n 1)))) (.a (.c (.a (.v 0) (.n 1))) (.c (.v 1)))) [] (Eq.refl true)) (mq [] (.BX (.a (.c (.a (.v 0) (.n 1))) (.c (.v 1))) (.a (.c (.v 0)) (.c (.a (.v 1) (.n 1))))) [] (Eq.refl true))
theorem uL{B:ar}{base:Option Nat}{k ad b:Nat}{i:ew}{w:List Nat}(h:eC B w=some (ad,i,B))(hb:k7 base k ad=some b)(r:List (List Nat)):c7 B base k (w::r)=(c7 B (some b) (k+1) r).map λp=>(i::p.1,p.2):=by
 rw[c7,h,a5,hb];rfl
theorem A1{B:ar}(hB:B.Ok)(hR:dX B)(b:Nat)(more:List (List Nat))(is:List ew):∀(k:Nat),(∀i∈is,i.Ok B)->b+k+is.length<1000000->c7 B (some b) k (cQ B ((b+k:Nat):Int) is++more)=(c7 B (some b) (k+is.length) more).map λp=>(is++p.1,p.2):=by
 induction is with
 |nil=>exactλk _ _=>(Option.map_id' (x:=c7 B (some b) k more)).symm
 |cons i is ih=>
  intro k h hn
  rw[mO,fN,uL (sX hB hR (h i az) (ah (ay _ _) hn)) (show k7 (some b) k (b+k)=some b from if_pos rfl),show b+k+1=b+(k+1)from rfl,ih (k+1) (λj hj=>h j (aK _ hj)) (ah (aZ (Nat.succ_add _ _)) hn),Option.map_map,aw,show k+1+is.length=k+(is.length+1)from bI _ _ _]
  rfl
theorem qX{B:ar}(hB:B.Ok)(hR:dX B)(b:Nat)(more:List (List Nat)){i:ew}{is:List ew}(h:∀j∈i::is,j.Ok B)(hn:b+is.length+1<1000000):c7 B none 0 (cQ B ((b:Nat):Int) (i::is)++more)=(c7 B (some b) (is.length+1) more).map λp=>(i::is++p.1,p.2):=by
 have hb:b<1000000:=ah (ay b (is.length+1)) hn
 rw[mO,fN,uL (sX hB hR (h i az) hb) rfl,A1 hB hR b more is 1 (λj hj=>h j (aK _ hj)) (ah (aZ (bI b 1 _)) hn),Option.map_map,bR 1]
 rfl
theorem Fy{B:ar}(hB:B.Ok)(hR:dX B)(b:Nat){is:List ew}(h:∀j∈is,j.Ok B)(hn:b+is.length<1000000):c7 B none 0 (cQ B ((b:Nat):Int) is)=some (is,B):=by
 cases is with
 |nil=>rfl
 |cons i is=>rw[<-bV (cQ B _ _),qX hB hR b [] h hn,c7,j3,bV]
theorem sY(a r:List Nat):gu (a++32::r)=gu a++gu r:=by
 induction a with
 |nil=>show gu (32::r)=_;rw[show gu (32::r)=[]::gu r by rw[gu,if_pos rfl]];rfl
 |cons c a ih=>
  rw[fN,gu,gu]
  split
  ·rw[ih];rfl
  ·rw[ih]
   cases q:gu a with
   |nil=>exact absurd q (HA a)
   |cons w ws=>rfl
theorem Fz(B:ar)(b:Int)(is:List ew):(cQ B b is).length=is.length:=by simp[cQ]
theorem qk{B:ar}{b:Nat}{is:List ew}{p:Nat}{row:List Nat}(h:(cQ B ((b:Nat):Int) is)[p]?=some row):∃i,is[p]?=some i/\row=sQ B ((b+p:Nat):Int) i:=by
 unfold cQ at h
 rw[bc,List.getElem?_zipIdx]at h
 cases q:is[p]?with
 |none=>rw[q]at h;cases h
 |some i=>rw[q]at h;simp at h;exact⟨i,rfl,by rw[<-h,p7]⟩
theorem CQ(B:ar)(p:Nat):∀(b:Nat) (is:List ew),(cQ B ((b:Nat):Int) is).take p=cQ B ((b:Nat):Int) (is.take p):=by
 induction p with
 |zero=>intro b is;simp[cQ]
 |succ p ih=>
  intro b is
  cases is with
  |nil=>simp[cQ]
  |cons i is=>rw[mO,List.take_succ_cons,List.take_succ_cons,mO,ih]
theorem A2{m:Nat}:∀(ws:List (List Nat)),(∀w∈ws,w.length<=m)->(cI [32] ws).length<=ws.length*(m+1)
 |[],_=>by simp[cI]
 |[w],h=>by have:=h w az;rw[cI,aL,Nat.one_mul];exact bv this
 |w::y::r,h=>by
  have h1:=h w az
  have h2:=A2 (y::r) λz hz=>h z (aK _ hz)
  rw[cI,ae,ae,aL,aw,lB];exact Ge [.le (.v 0) (.v 1),.le (.v 2) (.v 3)] (.le (.a (.a (.v 0) (.n 1)) (.v 2)) (.a (.v 3) (.a (.v 1) (.n 1)))) [1,1] (Eq.refl true) h1 h2
theorem mP{B:ar}{w0 w1:List Nat}{r:List (List Nat)}(h0:w0≠[]/\32∉w0)(h1:w1≠[]/\32∉w1)(h:∀w∈r,w≠[]/\32∉w):eC B (cI [32] (w0::w1::r))=(b5 w0).bind λad=>(e9 B (w1::r)).map λp=>(ad,p.1,p.2):=by
 have all:∀w∈w0::w1::r,w≠[]/\32∉w:=λw hw=>(ak.mp hw).elim (λe=>e▸h0) λhw=>(ak.mp hw).elim (λe=>e▸h1) (h w)
 unfold eC
 rw[sS (bJ _ _) λw hw=>(all w hw).2,if_neg (λq=>(all _ q).1 rfl)]
 rfl
theorem pD{B:ar}{w0 w1:List Nat}{r:List (List Nat)}{m:Nat}(h0:w0≠[]/\32∉w0)(h1:w1≠[]/\32∉w1)(h:∀w∈r,w≠[]/\32∉w)(rd:b5 w0=some m)(ri:e9 B (w1::r)=none):eC B (cI [32] (w0::w1::r))=none:=by
 rw[mP h0 h1 h,rd,ri];rfl
theorem FA{B:ar}{w0 u:List Nat}:∀{r:List (List Nat)},eC B (cI [32] (w0::(u++[32])::r))=none:=λ{r}=>by
 have h1:[]∈gu (cI [32] ((u++[32])::r)):=by
  cases r with
  |nil=>rw[cI,sY];exact mn _ (am.mpr rfl)
  |cons y r=>rw[cI,aC,aC,eO,eO,sY,gu,if_pos rfl];exact mn _ (az ..)
 unfold eC
 rw[cI,aC,eO,sY,if_pos (mn _ h1)]
theorem KC{B:ar}{d:List Nat}(h:d≠[]/\32∉d):eC B d=none:=by
 unfold eC
 rw[sR h.2,if_neg (λq=>h.1 (am.mp q).symm)];rfl
theorem mf(n:Nat):dg n≠[]/\32∉dg n:=⟨yf _,jO (.inl (by decide))⟩
theorem FC{B:ar}{i:ew}{m p:Nat}{u:List Nat}{v qa:List (List Nat)}{G:Prop}(g1:u≠[]/\32∉u)(g2:∀w∈v,w≠[]/\32∉w)(add:e9 B (u::(v++[[120,49]]))=none)(X9:∀z w,v=z++[w]->e9 B (u::z)=none)(TC:e9 B ((u++[122])::v)=none)
 (back:e9 B (u::v)=some (i,B)) (hs:k9 p (dg m) u v qa) (k0:eC B (cI [32] qa)=none->G) (k1:∀k,1<=p->eC B (cI [32] qa)=some (m+1+k,i,B)->G):G:=by
 cases hs with
 |add=>exact k0 (pD (mf m) g1 (λw hx=>(bC.mp hx).elim (g2 w) λq=>am.mp q▸⟨by decide,by decide⟩) (dk m) add)
 |pop w e=>
  cases qa with
  |nil=>cases e
  |cons x z=>
   obtain⟨rfl,e2⟩:=jQ e
   cases z with
   |nil=>exact k0 (KC (mf m))
   |cons y z=>
    obtain⟨rfl,e3⟩:=jQ e2
    exact k0 (pD (mf m) g1 (λw hx=>g2 w (e3▸nQ _ hx)) (dk m) (X9 z w e3))
 |nm c hc=>exact k0 (hc.elim (λe=>by subst e;exact pD (mf m) ⟨kB _ (bJ _ _),λq=>(bC.mp q).elim g1.2 (by decide)⟩ g2 (dk m) TC) λe=>by subst e;exact FA)
 |adr m' k e hp hk=>
  have e:m=m':=by have:=congrArg digitsVal e;rw[tI,tI]at this;exact this
  exact k1 k hp (by rw[<-e,mP (mf _) g1 g2,dk,back];rfl)
 |one=>exact k0 (by rw[mP ⟨bJ _ _,λq=>(ak.mp q).elim (λe=>absurd e (by decide)) (mf m).2⟩ g1 g2,show b5 (120::dg m)=none by unfold b5;rw[if_pos];simp[k6]];rfl)
theorem Eg{B:ar}(hB:B.Ok)(hR:dX B){i:ew}(h:i.Ok B){m p:Nat}{qa:List (List Nat)}(hn:m<1000000)(hs:k9 p (dg m) (L i.nm) (fU B (L i.ks) i.os) qa){G:Prop}(k0:eC B (cI [32] qa)=none->G)(k1:∀k,1<=p->eC B (cI [32] qa)=some (m+1+k,i,B)->G):G:=
 have hw:=jY hR h hn
 have B7:=sV _ (md h.look)
 FC ⟨B7.1.1,B7.1.2.1⟩ (λw hx=>let q:=hw w (.tail _ (.tail _ hx));⟨q.1,q.2.1⟩) ((mM hB hR h _).trans (if_neg (bJ _ _))) (λz w e=>by rw[e9,fE,h.look,a5,xF hB hR h.good B7.2.1 e];rfl) (by rw[e9,B7.2.2];rfl)
  ((congrArg (λv=>e9 B (L i.nm::v)) (bV _)).symm.trans ((mM hB hR h []).trans (if_pos rfl))) hs k0 k1
theorem A3{B:ar}(hB:B.Ok)(hR:dX B){b:Nat}{is:List ew}{kp:List (List Nat)}(h:∀j∈is,j.Ok B)(hn:b+is.length<100000)(hs:yz (cQ B ((b:Nat):Int) is) kp):c7 B none 0 kp=none:=by
 cases hs with|@mk p row w0 w1 r qa nN e TD
 obtain⟨i,hi,rfl⟩:=qk nN
 have xq:=(aj.mp hi).1
 have CR:=h i (aD hi)
 have hs:b+p<1000000:=b4 (b4 (fD xq b) hn) (by decide)
 obtain⟨rfl,e2⟩:=jQ ((sW hR CR hs).symm.trans e)
 obtain⟨rfl,rfl⟩:=jQ e2
 have ht:∀j∈is.take p,j.Ok B:=λj hj=>h j (gw hj)
 have eP:(is.take p).length=p:=by rw[cg];exact cY (a9 xq)
 rw[CQ]
 cases q:is.take p with
 |nil=>
  obtain rfl:p=0:=by rw[q]at eP;exact eP.symm
  show c7 B none 0 (cI [32] qa::_)=none
  rw[c7]
  exact Eg hB hR CR hs TD (λe=>by rw[e];rfl) λk h1 _=>absurd h1 (by decide)
 |cons j js=>
  rw[q]at ht eP
  have eP:js.length+1=p:=eP
  rw[qX hB hR b _ ht (by rw[bW,eP];exact hs),c7]
  refine Eg hB hR CR hs TD (λe=>by rw[e];rfl) λk h1 e=> ?_
  rw[e,a5,k7,Option.elim,if_neg (by rw[eP];exactλe=>absurd (Nat.add_left_cancel (e.symm.trans ((bW _ _ _).trans (congrArg (b+p+·) (bR 1 k))|>.trans (bW b p (k+1))))) (bX (cy (ce k))))];rfl
theorem yE{ws:List (List Nat)}(hl:ws.length<=800)(hw:∀w∈ws,w.length<=491):(cI [32] ws).length<=1000000:=by
 have:=A2 ws hw
 have:ws.length*(491+1)<=800*492:=nP _ hl
 omega
theorem wJ{B:ar}{i:ew}(h:i.Ok B)(n:Nat):(A0 B n i).length<=410:=by
 have:=wx 4 h.Pk h.le
 unfold A0;simp;exact this
theorem CS{B:ar}(hR:dX B){b:Nat}{is:List ew}(h:∀j∈is,j.Ok B)(hn:b+is.length<100000):HF (cQ B ((b:Nat):Int) is):=λrow nN=>by
 obtain⟨p,hp⟩:=dP nN
 obtain⟨i,hi,rfl⟩:=qk hp
 have xq:=(aj.mp hi).1
 have CR:=h i (aD hi)
 have hl:=wJ CR (b+p)
 have hw:=jY hR CR (n:=b+p) (by exact nW [.lt (.a (.v 0) (.v 1)) (.n 100000),.lt (.v 2) (.v 1)] (.lt (.a (.v 0) (.v 2)) (.n 1000000)) [1,1] (Eq.refl true) hn xq)
 rw[sW hR CR (by exact nW [.lt (.a (.v 0) (.v 1)) (.n 100000),.lt (.v 2) (.v 1)] (.lt (.a (.v 0) (.v 2)) (.n 1000000)) [1,1] (Eq.refl true) hn xq)]
 refine⟨?_,by exact aa hl (by decide),λw Jm=>(hw w Jm).2.2.1,b+p,_,_,rfl,by exact nW [.lt (.a (.v 0) (.v 1)) (.n 100000),.lt (.v 2) (.v 1)] (.lt (.a (.v 0) (.v 2)) (.n 1000000)) [1,1] (Eq.refl true) hn xq⟩
 rw[Ef]
 exact yE (by exact aa hl (by decide)) λw Jm=>by have:=(hw w Jm).2.2.1;exact aa this (by decide)
theorem A4{ws:List (List Nat)}{r:List Nat}(e:gu r=ws)(hr:r.length<=1000000)(hl:ws.length<=900)(hw:∀w∈ws,w.length<=500/\∀c∈w,c<4294967296):r.length<=1000000/\(gu r).length<=900/\∀w∈gu r,eo w/\w.length<=500:=by
 rw[e];exact⟨hr,hl,λw Jm=>⟨⟨by have:=(hw w Jm).1;exact aa this (by decide),(hw w Jm).2⟩,(hw w Jm).1⟩⟩
theorem HJ{B:ar}(hR:dX B){b:Nat}{is:List ew}(h:∀j∈is,j.Ok B)(hn:b+is.length<100000):zu (cQ B ((b:Nat):Int) is):=λrow nN=>by
 obtain⟨h1,h2,h3,_⟩:=CS hR h hn row nN
 obtain⟨p,hp⟩:=dP nN
 obtain⟨i,hi,rfl⟩:=qk hp
 have xq:=(aj.mp hi).1
 have CR:=h i (aD hi)
 have hw:=jY hR CR (n:=b+p) (by exact nW [.lt (.a (.v 0) (.v 1)) (.n 100000),.lt (.v 2) (.v 1)] (.lt (.a (.v 0) (.v 2)) (.n 1000000)) [1,1] (Eq.refl true) hn xq)
 exact A4 (sW hR CR (by exact nW [.lt (.a (.v 0) (.v 1)) (.n 100000),.lt (.v 2) (.v 1)] (.lt (.a (.v 0) (.v 2)) (.n 1000000)) [1,1] (Eq.refl true) hn xq)) h1 (by have:=wJ CR (b+p);exact aa (by assumption) (by decide)) λw Jm=>⟨by have:=(hw w Jm).2.2.1;exact aa (by assumption) (by decide),(hw w Jm).2.2.2⟩
theorem A5:∀{ws:List (List Nat)},ws≠[]->gu (cI [32] ws)=ws.flatMap gu
 |[],h=>absurd rfl h
 |[w],_=>by simp[cI]
 |w::y::r,_=>by rw[cI,aC,eO,sY,A5 (bJ _ _)];rfl
noncomputable def wK(w:List Nat):Prop:=(gu w).length<=2/\∀u∈gu w,u.length<=500/\∀c∈u,c<4294967296
theorem kq{w:List Nat}(h:32∉w)(hl:w.length<=500)(hc:∀c∈w,c<4294967296):wK w:=by
 unfold wK
 rw[sR h]
 exact⟨by simp,λu hu=>by rw[am.mp hu];exact⟨hl,hc⟩⟩
theorem CT{w:List Nat}(h:fe w):wK w:=kq h.2.1 (by have:=h.2.2.1;exact aa this (by decide)) h.2.2.2
theorem CU{w:List Nat}(h:fe w):wK (w++[32]):=by
 unfold wK
 rw[show w++[32]=w++32::[]from rfl,sY,sR h.2.1]
 refine⟨by simp[gu],λu hu=> ?_⟩
 simp only[gu,bC,am]at hu
 rcases hu with rfl|rfl
 ·exact⟨by have:=h.2.2.1;exact aa this (by decide),h.2.2.2⟩
 ·exact⟨by simp,by simp⟩
theorem HK{ws:List (List Nat)}(h:∀w∈ws,wK w):(ws.flatMap gu).length<=2*ws.length:=by
 induction ws with
 |nil=>simp
 |cons w ws ih=>
  have h1:=(h w az).1
  have h2:=ih λy hy=>h y (aK _ hy)
  rw[List.flatMap_cons,ae,aw];exact nW [.le (.v 0) (.n 2),.le (.v 1) (.m 2 (.v 2))] (.le (.a (.v 0) (.v 1)) (.m 2 (.a (.v 2) (.n 1)))) [1,1] (Eq.refl true) h1 h2
structure Pc(w:List Nat):Prop where
 p:wK w
 l:w.length<=491
theorem Pc.word{w:List Nat}(h:fe w):Pc w:=⟨CT h,bv h.2.2.1⟩
theorem Pc.add{w:List Nat}(h:fe w){c:Nat}(hc:c=122\/c=32):Pc (w++[c]):=⟨hc.elim (λe=>e▸kq (λq=>(bC.mp q).elim h.2.1 (by decide)) (by rw[ae];exact aa (a6 h.2.2.1) (by decide))
 λc hc=>(bC.mp hc).elim (h.2.2.2 c) λq=>am.mp q▸by decide) λe=>e▸CU h,by rw[ae];exact a6 h.2.2.1⟩
theorem Pc.cons{w:List Nat}(h:fe w):Pc (120::w):=⟨kq (λq=>(ak.mp q).elim (λe=>absurd e (by decide)) h.2.1) (aa (a6 h.2.2.1) (by decide)) λc hc=>(ak.mp hc).elim (λe=>e▸by decide) (h.2.2.2 c),a6 h.2.2.1⟩
structure PcL(ws:List (List Nat)):Prop where
 ne:ws≠[]
 l:ws.length<=411
 p:∀w∈ws,Pc w
theorem HL{p:Nat}{w0 w1:List Nat}{r qa:List (List Nat)}(hs:k9 p w0 w1 r qa)(hW:∀w∈w0::w1::r,fe w)(hl:(w0::w1::r).length<=410)(hd:∀m,w0=dg m->m<1000000):PcL qa:=by
 cases hs with
 |add=>exact⟨bJ _ _,(a6 (by rw[ae];exact hl):(r++[[120,49]]).length+1+1<=411),λw hw=>(bC (s:=w0::w1::r).mp hw).elim (λq=> .word (hW w q)) λq=>am.mp q▸⟨kq (by decide) (by decide) (by decide),by decide⟩⟩
 |pop w e=>
  rw[e]at hW hl
  rw[ae]at hl
  exact⟨λe'=>(by subst e';cases e),a9 (Nat.lt_succ_of_lt hl),λw hw=> .word (hW w (nQ _ hw))⟩
 |nm c hc=>exact⟨bJ _ _,bv hl,λw hw=>(ak.mp hw).elim (λe=>e▸.word (hW _ (.head _))) λhw=>(ak.mp hw).elim (λe=>e▸.add (hW _ (.tail _ (.head _))) hc) λhw=> .word (hW w (.tail _ (.tail _ hw)))⟩
 |adr m k e hp hk=>
  have hs:=pC (eK (n:=m+1+k) (b4 (Nat.add_lt_add_of_le_of_lt (hd m e) hk) (by decide)))
  rw[eZ]at hs
  exact⟨bJ _ _,bv hl,λw hw=>(ak.mp hw).elim (λe=>e▸⟨kq (jO (.inl (by decide))) (aa hs (by decide)) tY,aa hs (by decide)⟩) λhw=> .word (hW w (.tail _ hw))⟩
 |one=>exact⟨bJ _ _,bv hl,λw hw=>(ak.mp hw).elim (λe=>e▸.cons (hW _ (.head _))) λhw=> .word (hW w (.tail _ hw))⟩
theorem xG{B:ar}(hR:dX B){b:Nat}{is:List ew}{kp:List (List Nat)}(h:∀j∈is,j.Ok B)(hn:b+is.length<100000)(hs:yz (cQ B ((b:Nat):Int) is) kp):zu kp:=by
 have kG:=HJ hR h hn
 cases hs with|@mk p row w0 w1 r qa nN e TD
 obtain⟨i,hi,rfl⟩:=qk nN
 have xq:=(aj.mp hi).1
 have CR:=h i (aD hi)
 have hs:b+p<1000000:=b4 (b4 (fD xq b) hn) (by decide)
 have e:=(sW hR CR hs).symm.trans e
 have k:=HL TD (e▸jY hR CR hs) (e▸wJ CR (b+p)) λm e'=>by
  have:=congrArg digitsVal ((jQ e).1.trans e')
  rw[tI,tI]at this;exact this▸hs
 exactλr hr=>(bC.mp hr).elim (λhr=>kG r (gw hr)) λhr=>(ak.mp hr).elim
  (λe=>e▸A4 (A5 k.ne) (yE (aa k.l (by decide)) λw hw=>(k.p w hw).l) (aa (HK λw hw=>(k.p w hw).p) (aa (jx 2 k.l) (by decide))) λu hu=>(List.mem_flatMap.mp hu).elim λw hw=>(k.p w hw.1).p.2 u hw.2)
  λhr=>kG r (List.mem_of_mem_drop hr)
noncomputable def Ms(s:Str):Bool:=match gu (L s)with
 |w::r=>match b0 dO (mk w)with
  |some ks=>decide ((L ks).map (λk=>[k])=r)
  |none=>false
 |[]=>false
theorem A6{s:Str}(h:s∈gj):∃nm ks:Str,gu (L s)=L nm::(L ks).map (λk=>[k])/\b0 dO nm=some ks/\(L s).length<=100:=by
 have key:gj.all (λs=>Ms s&&decide ((L s).length<=100))=true:=by decide+kernel
 have:=av.mp key s h
 simp only[hU,decide_eq_true_eq]at this
 obtain⟨h1,h2⟩:=this
 unfold Ms at h1
 cases q:gu (L s)with
 |nil=>rw[q]at h1;cases h1
 |cons w r=>
  rw[q]at h1
  simp only at h1
  cases q2:b0 dO (mk w)with
  |none=>rw[q2]at h1;cases h1
  |some ks=>rw[q2]at h1;exact⟨mk w,ks,by rw[c8,of_decide_eq_true h1],q2,h2⟩
noncomputable def ds:List Str:=["foo","p","0","-7","a b","it's","\n","\\","","[]","X","x/y","a:b","{","}",mk [8364]]
noncomputable def TE(t:Str):Bool:=decide (iO (cJ (L t))=some (L t))&&decide ((cJ (L t)).length<=100)&&(cJ (L t)).all (λc=>decide (c<4294967296)&&decide (c≠32))&&decide ((L t).length<=1000)&&(L t).all λc=>decide (c<4294967296)
theorem HM{t:Str}(h:TE t=true):RT (L t)/\eo (L t):=by
 unfold TE at h
 simp only[hU,decide_eq_true_eq,av]at h
 obtain⟨⟨⟨⟨h1,h2⟩,h3⟩,h4⟩,h5⟩:=h
 exact⟨⟨h1,⟨by exact aa h2 (by decide),λc hc=>(h3 c hc).1⟩,λhc=>(h3 32 hc).2 rfl,h2⟩,h4,h5⟩
theorem A7:∀t∈ds,RT (L t)/\eo (L t):=by
 have key:ds.all TE=true:=by decide+kernel
 exactλt ht=>HM (av.mp key t ht)
theorem HN:∀t∈di.texts,RT (L t)/\eo (L t):=by
 have key:di.texts.all TE=true:=by decide+kernel
 exactλt ht=>HM (av.mp key t ht)
theorem yF:di.texts.length<=100/\di.bh.length<=100:=by decide+kernel
theorem FD{B:ar}(h:di.Jw ds B):dX B:=λt ht=>(h.tx t ht).elim (λq=>(HN t q).1) λq=>(A7 t q).1
theorem HO:di.Ok:=by
 have h1:di.texts.Nodup:=by decide+kernel
 have h2:di.bh.Nodup:=by decide+kernel
 have h3:di.bh.all (λf=>decide (f.1<di.texts.length))=true:=by decide+kernel
 exact⟨h1,h2,λf hf=>of_decide_eq_true (av.mp h3 f hf)⟩
end
inductive Ob where
 |list (xs:List PV)
 |dS (kvs:List (Str×PV))
 |dI (kvs:List (Int×Int))
 |dT (kvs:List (List Int×Int))
 |book (B:ar)
 |dM (fs:List Nat) (pos mix:Nat)
 |held
 |gone
structure Pl where
 a:Addr
 s:Nat->Addr
noncomputable section
noncomputable def Pl.ba(p:Pl):BA:=⟨p.a,p.s 0,p.s 1,p.s 2,p.s 3,p.s 4⟩
noncomputable def Ob.cells(p:Pl)(o:Ob):List (Addr×dx):=Ob.rec (λxs=>[(p.a,.list xs)]) (λkvs=>[(p.a,.ca kvs)]) (λkvs=>[(p.a,.mX kvs)]) (λkvs=>[(p.a,.hY kvs)])
 (λB=>[(p.a,.inst 155 (p.s 0)),(p.s 0,.ca (iV p.ba)),(p.s 1,.list (B.texts.map .str)),(p.s 2,.ca (sL B.texts)),(p.s 3,.list (B.bh.map kK)),(p.s 4,.hY (rD B.bh))])
 (λfs pos mix=>[(p.a,.list [.loc (p.s 0),.int pos,.int mix]),(p.s 0,.list (fs.map λn=> .int (n:Nat)))]) [] [] o
noncomputable def Ob.keys(p:Pl)(o:Ob):List Addr:=Ob.rec (λ_=>[p.a]) (λ_=>[p.a]) (λ_=>[p.a]) (λ_=>[p.a]) (λ_=>[p.a,p.s 0,p.s 1,p.s 2,p.s 3,p.s 4]) (λ_ _ _=>[p.a,p.s 0]) [p.a] [] o
noncomputable def Ob.live(o:Ob):Bool:=Ob.rec (λ_=>true) (λ_=>true) (λ_=>true) (λ_=>true) (λ_=>true) (λ_ _ _=>true) false true o
end
theorem Ob.pS{o:Ob}{p:Pl}{c:Addr×dx}(h:c∈o.cells p):c.1∈o.keys p:=by
 have e:(o.cells p).map (·.1)=o.keys p\/o.cells p=[]:=by cases o<;>first|exact .inl rfl|exact .inr rfl
 rcases e with e|e
 ·rw[<-e];exact List.mem_map_of_mem h
 ·rw[e]at h;cases h
theorem Ob.t8{o:Ob}(h:o.live=true)(p:Pl):(o.cells p).map (·.1)=o.keys p:=by cases o<;>first|rfl|cases h
structure fW(os:List Ob)(ps:Nat->Pl)(σ F:St):Prop where
 at_:∀(k:Nat) (o:Ob),os[k]?=some o->∀c∈o.cells (ps k),σ c.1=some c.2
 fr:∀(k:Nat) (o:Ob),os[k]?=some o->∀a∈o.keys (ps k),F a=none
 nd:∀(k:Nat) (o:Ob),os[k]?=some o->(o.keys (ps k)).Nodup
 ap:∀(j k:Nat) (o q:Ob),j≠k->os[j]?=some o->os[k]?=some q->∀a∈o.keys (ps j),a∉q.keys (ps k)
 le:∀a c,F a=some c->σ a=some c
noncomputable def TG(os:List Ob)(as:Nat->Addr)(σ F:St):Prop:=∃ps,fW os ps σ F/\∀k,k<os.length->(ps k).a=as k
theorem fW.one{os bN:List Ob}{ps Jn:Nat->Pl}{σ σ' F:St}(r:fW os ps σ F)(n:Nat)(o':Ob)(uX:∀j q,j≠n->bN[j]?=some q->os[j]?=some q/\Jn j=ps j)(new:∀q,bN[n]?=some q->q=o')
 (cl:∀c∈o'.cells (Jn n),σ' c.1=some c.2) (fr:∀a∈o'.keys (Jn n),F a=none) (nd:(o'.keys (Jn n)).Nodup) (ap:∀j q,j≠n->os[j]?=some q->∀a∈q.keys (ps j),a∉o'.keys (Jn n))
 (sl:∀j q,j≠n->os[j]?=some q->∀c∈q.cells (ps j),σ' c.1=some c.2) (le:∀a c,F a=some c->σ' a=some c):fW bN Jn σ' F:=
 have KG:∀j q,bN[j]?=some q->∀P:List Addr->List (Addr×dx)->Prop,P (o'.keys (Jn n)) (o'.cells (Jn n))->(j≠n->os[j]?=some q->P (q.keys (ps j)) (q.cells (ps j)))->P (q.keys (Jn j)) (q.cells (Jn j)):=λj q e P h1 h2=>
  Decidable.byCases (λh:j=n=>by cases h;exact new q e▸h1) λh=>(uX j q h e).2▸h2 h (uX j q h e).1
 ⟨λj q e=>KG j q e (λ_ l=>∀c∈l,σ' c.1=some c.2) cl λh k=>sl j q h k,λj q e=>KG j q e (λl _=>∀a∈l,F a=none) fr λ_ k=>r.fr j q k,
  λj q e=>KG j q e (λl _=>l.Nodup) nd λ_ k=>r.nd j q k,λi j q s ne e1 e2 a ha hb=>by
   by_cases hi:i=n<;>by_cases hj:j=n
   ·exact ne (hi.trans hj.symm)
   ·cases hi;rw[new q e1]at ha;rw[(uX j s hj e2).2]at hb;exact ap j s hj (uX j s hj e2).1 a hb ha
   ·cases hj;rw[new s e2]at hb;rw[(uX i q hi e1).2]at ha;exact ap i q hi (uX i q hi e1).1 a ha hb
   ·rw[(uX i q hi e1).2]at ha;rw[(uX j s hj e2).2]at hb;exact r.ap i j q s ne (uX i q hi e1).1 (uX j s hj e2).1 a ha hb,le⟩
theorem fW.turn{os:List Ob}{ps:Nat->Pl}{σ σ' F:St}(r:fW os ps σ F){k:Nat}{o o':Ob}(hk:os[k]?=some o)
 (tm:(o'.keys (ps k)).Sublist (o.keys (ps k))) (h1:∀c∈o'.cells (ps k),σ' c.1=some c.2) (h2:∀b,b∉o.keys (ps k)->σ' b=σ b):fW (os.set k o') ps σ' F:=
 r.one k o' (λj q ne e=>⟨nR (Ne.symm ne)▸e,rfl⟩) (λq e=>(cD e).elim (·.2) λh=>absurd rfl h.1) h1 (λa ha=>r.fr k o hk a (tm.subset ha)) (tm.nodup (r.nd k o hk))
  (λj q ne e a ha hb=>r.ap j k q o ne e hk a ha (tm.subset hb)) (λj q ne e c hc=>(h2 c.1 (r.ap j k q o ne e hk c.1 (Ob.pS hc))).trans (r.at_ j q e c hc))
  λa c e=>(h2 a λha=>(aT c (e.symm.trans (r.fr k o hk a ha))).elim).trans (r.le a c e)
theorem fW.Jd{os:List Ob}{ps:Nat->Pl}{σ σ' F:St}(r:fW os ps σ F){o:Ob}{p:Pl}(h1:∀c∈o.cells p,σ' c.1=some c.2)(h2:∀b,b∉o.keys p->σ' b=σ b)(h3:∀a∈o.keys p,σ a=none)(nd:(o.keys p).Nodup)(hl:∀q∈os,Ob.live q=true):
 fW (os++[o]) (λk=>if k=os.length then p else ps k) σ' F:=
 have pn:(if os.length=os.length then p else ps os.length)=p:=if_pos rfl
 have Z2:∀(j:Nat) (q:Ob),os[j]?=some q->∀a∈q.keys (ps j),a∉o.keys p:=λj q e a hm ha=>by
  rw[<-Ob.t8 (hl q (aD e))]at hm
  exact(bj.mp hm).elim λc hc=>aT c.2 ((r.at_ j q e c hc.1).symm.trans (hc.2▸h3 a ha))
 have nF:∀a c,F a=some c->a∉o.keys p:=λa c e ha=>aT c ((r.le a c e).symm.trans (h3 a ha))
 r.one os.length o (λj q ne e=>⟨(Nat.lt_or_gt_of_ne ne).elim (λh=>bH h▸e) λh=>(aT q (e.symm.trans (mm (by rw[ae];exact h)))).elim,if_neg ne⟩)
  (λq e=>(ax (List.getElem?_concat_length.symm.trans e)).symm) (pn.symm▸h1) (pn.symm▸λa ha=>match h:F a with|none=>rfl|some c=>(nF a c h ha).elim) (pn.symm▸nd) (λj q _ e=>pn.symm▸Z2 j q e)
  (λj q _ e c hc=>(h2 _ (Z2 j q e _ (Ob.pS hc))).trans (r.at_ j q e c hc)) λa c e=>(h2 a (nF a c e)).trans (r.le a c e)
theorem fW.alloc{os:List Ob}{ps:Nat->Pl}{σ F:St}(r:fW os ps σ F){a:Addr}{o:Ob}{c:dx}(ha:σ a=none)(hc:∀p:Pl,o.cells p=[(p.a,c)])(hy:∀p:Pl,o.keys p=[p.a])(hl:∀q∈os,Ob.live q=true):
 fW (os++[o]) (λk=>if k=os.length then⟨a,λ_=>a⟩else ps k) (σ.upd a c) F:=
 r.Jd (p:=⟨a,λ_=>a⟩) (by rw[hc];exactλd hd=>am.mp hd▸St.bz _ _ _) (by rw[hy];exactλb hb=>St.bu _ _ λe=>hb (am.mpr e)) (by rw[hy];exactλb hb=>am.mp hb▸ha) (by rw[hy];exact cW.mpr ⟨aP,cX⟩) hl
theorem fW.less{os bN:List Ob}{ps:Nat->Pl}{σ F:St}(r:fW os ps σ F)(h:∀(k:Nat) (o:Ob),bN[k]?=some o->os[k]?=some o):fW bN ps σ F:=
 ⟨λk o e=>r.at_ k o (h k o e),λk o e=>r.fr k o (h k o e),λk o e=>r.nd k o (h k o e),λj k o q ne e1 e2=>r.ap j k o q ne (h j o e1) (h k q e2),r.le⟩
inductive EV where
 |v (p:PV)
 |o (k:Nat)
 |t (ks:List Nat)
 |c (a:Addr) (k:Nat)
 |n (a:Addr) (x:Str) (p:PV)
noncomputable def EV.at(as:Nat->Addr):EV->PV
 |.v p=>p
 |.o k=> .loc (as k)
 |.t ks=> .tup (ks.map λk=> .loc (as k))
 |.c _ k=> .loc (as k)
 |.n _ _ p=>p
noncomputable def EV.Ok(n:Nat):EV->Prop
 |.v _=>True
 |.o k=>k<n
 |.t ks=>∀k∈ks,k<n
 |.c _ _=>False
 |.n _ _ _=>False
theorem EV.pT{n:Nat}{as dJ:Nat->Addr}(h:∀k,k<n->dJ k=as k):∀{e:EV},e.Ok n->e.at dJ=e.at as
 |.v _,_=>rfl
 |.o k,q=>congrArg PV.loc (h k q)
 |.t ks,q=>congrArg PV.tup (ef λk hk=>congrArg PV.loc (h k (q k hk)))
 |.c _ _,q=>q.elim
 |.n _ _ _,_=>rfl
theorem EV.Ok.mono{n m:Nat}(h:n<=m):∀{e:EV},e.Ok n->e.Ok m
 |.v _,_=>trivial
 |.o k,q=>au q h
 |.t ks,q=>λk hk=>au (q k hk) h
noncomputable def EV.LP(n:Nat)(F:St)(as:Nat->Addr):EV->Prop
 |.c a k=>k<n/\F a=some (.var (some (.loc (as k))))
 |.n a x p=>F a=some (.ns x p)
 |e=>e.Ok n
theorem EV.Ok.l{n:Nat}{F:St}{as:Nat->Addr}:∀{e:EV},e.Ok n->e.LP n F as
 |.v _,q=>q
 |.o _,q=>q
 |.t _,q=>q
theorem EV.LP.step{n m:Nat}{F:St}{as dJ:Nat->Addr}(h:∀k,k<n->dJ k=as k)(hn:n<=m):∀{e:EV},e.LP n F as->e.LP m F dJ/\e.at dJ=e.at as
 |.v _,_=>⟨trivial,rfl⟩
 |.o k,q=>⟨au q hn,congrArg PV.loc (h k q)⟩
 |.t ks,q=>⟨λk hk=>au (q k hk) hn,congrArg PV.tup (ef λk hk=>congrArg PV.loc (h k (q k hk)))⟩
 |.c a k,q=>⟨⟨au q.1 hn,by rw[h k q.1];exact q.2⟩,congrArg PV.loc (h k q.1)⟩
 |.n _ _ _,q=>⟨q,rfl⟩
noncomputable def EV.YZ:EV->Bool
 |.c _ _=>true
 |.n _ _ _=>true
 |_=>false
theorem EV.LP.val{n:Nat}{F:St}{as:Nat->Addr}:∀{e:EV},e.LP n F as->e.YZ=false->e.Ok n
 |.v _,q,_=>q
 |.o _,q,_=>q
 |.t _,q,_=>q
noncomputable abbrev Lo:=List (Option EV)
structure Sx(l:Lo)(os:List Ob)(as:Nat->Addr)(ρ:b9)(σ F:St):Prop where
 r:TG os as σ F
 len:ρ.length=l.length
 l:∀(i:Nat) (e:EV),l[i]?=some (some e)->e.LP os.length F as/\ρ[i]?=some (some (e.at as))
noncomputable def Agree(n:Nat)(as dJ:Nat->Addr):Prop:=∀k,k<n->dJ k=as k
theorem Agree.trans{n m:Nat}{a b c:Nat->Addr}(h:n<=m)(x:Agree n a b)(y:Agree m b c):Agree n a c:=λk hk=>(y k (au hk h)).trans (x k hk)
structure Vx(l:Lo)(os bN:List Ob)(c:EV)(as:Nat->Addr)(ρ:b9)(F:St)(dJ:Nat->Addr)(σ':St):Prop where
 a:Agree os.length as dJ
 s:Sx l bN dJ ρ σ' F
 ok:c.Ok bN.length
 n:os.length<=bN.length
structure Z3(l:Lo)(os bN:List Ob)(cs:List EV)(as:Nat->Addr)(ρ:b9)(F:St)(dJ:Nat->Addr)(σ':St):Prop where
 a:Agree os.length as dJ
 s:Sx l bN dJ ρ σ' F
 ok:∀c∈cs,EV.Ok bN.length c
 n:os.length<=bN.length
noncomputable def Ends(l:Lo)(os:List Ob)(as:Nat->Addr)(ρ:b9)(F:St)(Q:PV->St->Prop)(X:Prop):Option EV->List Ob->Prop
 |some c,bN=>∀dJ σ',Vx l os bN c as ρ F dJ σ'->Q (c.at dJ) σ'
 |none,_=>X
noncomputable abbrev Tr:=(Nat->Addr)->b9->St->(PV->St->Prop)->Prop->Prop
structure To(T:Tr)(l:Lo)(os:List Ob)(bx:Option EV)(bN:List Ob):Prop where
 go:∀as ρ σ F,Sx l os as ρ σ F->∀Q X,Ends l os as ρ F Q X bx bN->T as ρ σ Q X
noncomputable def A8(l:Lo)(os:List Ob)(as:Nat->Addr)(ρ:b9)(F:St)(Q:List PV->St->Prop)(X:Prop):Option (List EV)->List Ob->Prop
 |some cs,bN=>∀dJ σ',Z3 l os bN cs as ρ F dJ σ'->Q (cs.map (·.at dJ)) σ'
 |none,_=>X
section
variable(C:Ctx)(fr:Fm)
noncomputable def tE(e:Expr):Tr:=λ_ ρ σ Q X=>WE C fr e ρ σ Q X
noncomputable def tT(e:Expr):Tr:=λ_ ρ σ Q X=>WT C fr e ρ σ (λb=>Q (.bool b)) X
noncomputable def t2(t:Value->Value->Sem Value)(a b:EV):Tr:=λas ρ σ Q X=>W2 C fr t (a.at as) (b.at as) ρ σ Q X
noncomputable def tN(t:List Value->Sem Value)(cs:List EV):Tr:=λas ρ σ Q X=>WN C fr t (cs.map (·.at as)) ρ σ Q X
structure sZ(pos:Pos)(es:List Expr)(l:Lo)(os:List Ob)(bx:Option (List EV))(bN:List Ob):Prop where
 go:∀as ρ σ F,Sx l os as ρ σ F->∀Q X,A8 l os as ρ F Q X bx bN->WL C fr pos es ρ σ Q X
end
section
variable{C:Ctx}{fr:Fm}{l:Lo}{os os1 os2 kE:List Ob}{T:Tr}
theorem Sx.refl{as:Nat->Addr}{ρ:b9}{σ F:St}(s:Sx l os as ρ σ F){c:EV}(h:c.Ok os.length):Vx l os os c as ρ F as σ:=⟨λ_ _=>rfl,s,h,ai _⟩
theorem Vx.trans{as cK iC:Nat->Addr}{ρ:b9}{cZ hH F:St}{a b:EV}(x:Vx l os os1 a as ρ F cK cZ)(y:Vx l os1 os2 b cK ρ F iC hH):Vx l os os2 b as ρ F iC hH:=
 ⟨x.a.trans x.n y.a,y.s,y.ok,aa x.n y.n⟩
theorem To.pure{c:PV}(h:∀as ρ σ Q X,Q c σ->T as ρ σ Q X):To T l os (some (.v c)) os:= .mk λas ρ σ F s Q X e=>h as ρ σ Q X (e as σ (s.refl (c:= .v c) trivial))
theorem Ends.after{as cK:Nat->Addr}{ρ:b9}{cZ F:St}{a:EV}{Q:PV->St->Prop}{X:Prop}{bx:Option EV}(x:Vx l os os1 a as ρ F cK cZ)(e:Ends l os as ρ F Q X bx os2):Ends l os1 cK ρ F Q X bx os2:=by
 cases bx with
 |none=>exact e
 |some c=>exactλdJ σ' v=>e dJ σ' (x.trans v)
theorem To.bin{e1 e2:Expr}{op:Operator}{p:Pos}{a b:EV}{bx:Option EV}(h1:To (tE C fr e1) l os (some a) os1)(h2:To (tE C fr e2) l os1 (some b) os2)(h3:To (t2 C fr (binaryOp op) a b) l os2 bx kE):
 To (tE C fr (.BinOp e1 op e2 p)) l os bx kE:= .mk λas ρ σ F s Q X e=>j5 (h1.go as ρ σ F s _ _ λcK cZ v1=>h2.go cK ρ cZ F v1.s _ _ λiC hH v2=>by
 have:=h3.go iC ρ hH F v2.s Q X ((e.after v1).after v2)
 unfold t2 at this;rwa[EV.pT v2.a v1.ok]at this)
theorem To.cmp{e1 e2:Expr}{op:CmpOp}{p:Pos}{a b:EV}{bx:Option EV}(h1:To (tE C fr e1) l os (some a) os1)(h2:To (tE C fr e2) l os1 (some b) os2)(h3:To (t2 C fr (compareOp op) a b) l os2 bx kE)
 (hm:behindInMarks op e2=false):To (tE C fr (.Compare e1 [op] [e2] p)) l os bx kE:= .mk λas ρ σ F s Q X e=>B3 (h1.go as ρ σ F s _ _ λcK cZ v1=>h2.go cK ρ cZ F v1.s _ _ λiC hH v2=>by
 have:=h3.go iC ρ hH F v2.s Q X ((e.after v1).after v2)
 unfold t2 at this;rwa[EV.pT v2.a v1.ok]at this) hm
theorem To.name(F0:aI C fr){x:Str}{p:Pos}{i:Nat}{e:EV}(hi:fi x fr.vn=some i)(hl:l[i]?=some (some e))(hg:e.YZ=false):To (tE C fr (.Name x p)) l os (some e) os:= .mk λas ρ σ F s Q X q=>
 have:=s.l i e hl
 aV F0 i (ik hi) this.2 (q as σ (s.refl (this.1.val hg)))
theorem To.cell(F0:aI C fr){x:Str}{p:Pos}{i k:Nat}{a:Addr}(hk:fr.env.kindOf x=some .cell)(ha:fr.cl.lookup x=some a)(hl:l[i]?=some (some (.c a k)))(hd:(x==("__debug__":Str))=false):To (tE C fr (.Name x p)) l os (some (.o k)) os:= .mk λas ρ σ F s Q X q=>
 have h:=s.l i _ hl
 have hr:=s.r.choose_spec.1.le _ _ h.1.2
 Kd F0 hk ha hr (q as σ (s.refl (c:= .o k) h.1.1)) hd
theorem To.Y0{e:Expr}{b:Bool}(h:To (tE C fr e) l os (some (.v (.bool b))) os1)(hv:∀{ρ σ} {Q:Bool->St->Prop} {X:Prop},WE C fr e ρ σ (λv aM=>F3 C fr truthy v ρ aM Q X) X->WT C fr e ρ σ Q X):To (tT C fr e) l os (some (.v (.bool b))) os1:=
 .mk λas ρ σ F s Q X q=>hv (h.go as ρ σ F s _ _ λcK cZ v1=>eS (q cK cZ v1))
theorem sZ.nil{pos:Pos}:sZ C fr pos [] l os (some []) os:= .mk λas ρ σ F s Q X q=>eT (q as σ ⟨λ_ _=>rfl,s,λ_ h=>(aP h).elim,ai _⟩)
theorem A8.after{as cK:Nat->Addr}{ρ:b9}{cZ F:St}{a:EV}{Q:List PV->St->Prop}{X:Prop}{cs:List EV}(x:Vx l os os1 a as ρ F cK cZ)(e:A8 l os as ρ F Q X (some (a::cs)) os2):
 A8 l os1 cK ρ F (λvs=>Q (a.at cK::vs)) X (some cs) os2:=λdJ σ' v=>by
 have:=e dJ σ' ⟨x.a.trans x.n v.a,v.s,λc hc=>(ak.mp hc).elim (λq=>q▸x.ok.mono v.n) (v.ok c),aa x.n v.n⟩
 rwa[bp,EV.pT v.a x.ok]at this
theorem sZ.cons{pos:Pos}{e:Expr}{es:List Expr}{a:EV}{cs:List EV}(h1:To (tE C fr e) l os (some a) os1)(h2:sZ C fr pos es l os1 (some cs) os2)
 (hs:∀env,starEach (e::es) env=(false,eval e env)::starEach es env):sZ C fr pos (e::es) l os (some (a::cs)) os2:= .mk λas ρ σ F s Q X q=>
 cR (h1.go as ρ σ F s _ _ λcK cZ v1=>h2.go cK ρ cZ F v1.s _ _ (A8.after v1 q)) hs
theorem Ends.xo{as cK:Nat->Addr}{ρ:b9}{cZ F:St}{cs:List EV}{Q:PV->St->Prop}{X:Prop}{bx:Option EV}(x:Z3 l os os1 cs as ρ F cK cZ)(e:Ends l os as ρ F Q X bx os2):Ends l os1 cK ρ F Q X bx os2:=by
 cases bx with
 |none=>exact e
 |some c=>exactλdJ σ' v=>e dJ σ' ⟨x.a.trans x.n v.a,v.s,v.ok,aa x.n v.n⟩
theorem To.Y1(G:dr C)(F0:aI C fr){id:String}{x:Str}{p pos:Pos}{es:List Expr}{cs:List EV}{bx:Option EV}(hk:fr.env.kindOf x=some .globalImplicit)(hm:C.mg x=none)(hb:C.mb x=some (.builtin id))
 (h1:sZ C fr pos es l os (some cs) os1) (h2:To (tN C fr (λvs=>call (.builtin id) vs) cs) l os1 bx os2) (kI:es=[]\/∃x l,backTo pos (starEach es fr.env)=(false,x)::l)
 (hs:(backTo pos (starEach es fr.env)).any (·.1)=false) (hd:(x==("__debug__":Str))=false):To (tE C fr (.Call (.Name x p) es [] pos)) l os bx os2:= .mk λas ρ σ F s Q X e=>
 ij G F0 hk hm hb (h1.go as ρ σ F s _ _ λcK cZ v1=>h2.go cK ρ cZ F v1.s Q X (e.xo v1)) kI hs hd
theorem To.typ(G:dr C)(F0:aI C fr){id:String}{x:Str}{p pos:Pos}{es:List Expr}{cs:List EV}{bx:Option EV}(hk:fr.env.kindOf x=some .globalImplicit)(hm:C.mg x=none)(hb:C.mb x=some (.type id))
 (h1:sZ C fr pos es l os (some cs) os1) (h2:To (tN C fr (λvs=>call (.type id) vs) cs) l os1 bx os2) (kI:es=[]\/∃x l,backTo pos (starEach es fr.env)=(false,x)::l)
 (hs:(backTo pos (starEach es fr.env)).any (·.1)=false) (hd:(x==("__debug__":Str))=false):To (tE C fr (.Call (.Name x p) es [] pos)) l os bx os2:= .mk λas ρ σ F s Q X e=>
 uf G F0 hk hm hb (h1.go as ρ σ F s _ _ λcK cZ v1=>h2.go cK ρ cZ F v1.s Q X (e.xo v1)) kI hs hd
theorem Sx.get{as:Nat->Addr}{ρ:b9}{σ F:St}(s:Sx l os as ρ σ F){k:Nat}{o:Ob}(hk:os[k]?=some o){c:dx}(ho:∀p:Pl,o.cells p=[(p.a,c)]):σ (as k)=some c:=by
 obtain⟨ps,r,ha⟩:=s.r
 have h1:=r.at_ k o hk
 rw[ho]at h1
 have h2:=h1 _ (am.mpr rfl)
 rwa[ha k (aj.mp hk).1]at h2
theorem Sx.turn{as:Nat->Addr}{ρ:b9}{σ σ' F:St}(s:Sx l os as ρ σ F){k:Nat}{o o':Ob}(hk:os[k]?=some o)(ho:∀p:Pl,o.keys p=[p.a])(qw:∀p:Pl,(o'.keys p).Sublist [p.a])
 (h1:∀p:Pl,p.a=as k->∀c∈o'.cells p,σ' c.1=some c.2) (h2:∀b,b≠as k->σ' b=σ b):Sx l (os.set k o') as ρ σ' F:=by
 obtain⟨ps,r,ha⟩:=s.r
 have e:=ha k (aj.mp hk).1
 refine⟨⟨ps,r.turn hk (by rw[ho];exact qw _) (h1 _ e) (λb hb=>h2 b λq=>hb ?_),λj hj=>ha j (by rwa[aW]at hj)⟩,s.len,λi v hv=> ?_⟩
 ·rw[ho,q,e];exact am.mpr rfl
 ·rw[aW];exact s.l i v hv
theorem Sx.upd{as:Nat->Addr}{ρ:b9}{σ F:St}(s:Sx l os as ρ σ F){k:Nat}{o o':Ob}(hk:os[k]?=some o){c':dx}(ho:∀p:Pl,o.keys p=[p.a])(tm:∀p:Pl,o'.keys p=[p.a])(qw:∀p:Pl,o'.cells p=[(p.a,c')]):
 Sx l (os.set k o') as ρ (σ.upd (as k) c') F:=
 s.turn hk ho (λp=>by rw[tm];exact lD _) (λp e c hc=>by rw[qw]at hc;rw[am.mp hc,e];exact St.bz _ _ _) λb hb=>St.bu _ _ hb
theorem Sx.alloc{as:Nat->Addr}{ρ:b9}{σ F:St}(s:Sx l os as ρ σ F){a:Addr}{o:Ob}{c:dx}(ha:σ a=none)(hc:∀p:Pl,o.cells p=[(p.a,c)])(hy:∀p:Pl,o.keys p=[p.a])(hl:∀q∈os,Ob.live q=true):
 Vx l os (os++[o]) (.o os.length) as ρ F (λk=>if k=os.length then a else as k) (σ.upd a c):=by
 obtain⟨ps,r,h⟩:=s.r
 have ag:Agree os.length as (λk=>if k=os.length then a else as k):=λk hk=>if_neg (bX hk)
 have Pm:(os++[o]).length=os.length+1:=by rw[ae];rfl
 refine⟨ag,⟨⟨_,r.alloc ha hc hy hl,λk hk=> ?_⟩,s.len,λi v hv=> ?_⟩,by show os.length<_;rw[Pm];exact cf _,by rw[Pm];exact b7 _⟩
 ·by_cases q:k=os.length
  ·show(if k=os.length then(⟨a,λ_=>a⟩:Pl)else ps k).a=(if k=os.length then a else as k)
   rw[if_pos q,if_pos q]
  ·show(if k=os.length then(⟨a,λ_=>a⟩:Pl)else ps k).a=(if k=os.length then a else as k)
   rw[if_neg q,if_neg q];exact h k (by rw[Pm]at hk;omega)
 ·have:=s.l i v hv
  have st:=this.1.step ag (Pm▸b7 _:os.length<=(os++[o]).length)
  exact⟨st.1,by rw[st.2];exact this.2⟩
end
inductive ql where
 |norm (l:Lo) (os:List Ob)
 |ret (c:EV) (os:List Ob)
 |exc
 |brk (l:Lo) (os:List Ob)
 |cont (l:Lo) (os:List Ob)
structure Nx(n:Nat)(l':Lo)(bN:List Ob)(as:Nat->Addr)(F:St)(dJ:Nat->Addr)(ρ':b9)(σ':St):Prop where
 a:Agree n as dJ
 s:Sx l' bN dJ ρ' σ' F
 n:n<=bN.length
structure Rx(n:Nat)(c:EV)(bN:List Ob)(as:Nat->Addr)(F:St)(dJ:Nat->Addr)(σ':St):Prop where
 a:Agree n as dJ
 s:TG bN dJ σ' F
 ok:c.Ok bN.length
 n:n<=bN.length
noncomputable def KH(n:Nat)(as:Nat->Addr)(F:St)(N:b9->St->Prop)(R:PV->St->Prop)(J:Bool->b9->St->Prop)(X:b9->Prop):ql->Prop
 |.norm l os=>∀dJ ρ' σ',Nx n l os as F dJ ρ' σ'->N ρ' σ'
 |.ret c os=>∀dJ σ',Rx n c os as F dJ σ'->R (c.at dJ) σ'
 |.exc=>∀ρ',X ρ'
 |.brk l os=>∀dJ ρ' σ',Nx n l os as F dJ ρ' σ'->J true ρ' σ'
 |.cont l os=>∀dJ ρ' σ',Nx n l os as F dJ ρ' σ'->J false ρ' σ'
noncomputable abbrev Ts:=b9->St->(b9->St->Prop)->(PV->St->Prop)->(Bool->b9->St->Prop)->(b9->Prop)->Prop
structure Runs(T:Ts)(n:Nat)(l:Lo)(os:List Ob)(bx:ql):Prop where
 go:∀as ρ σ F,n<=os.length->Sx l os as ρ σ F->∀N R J X,KH n as F N R J X bx->T ρ σ N R J X
section
variable{C:Ctx}{fr:Fm}{n:Nat}{l l1 l2:Lo}{os os1 os2:List Ob}{bx:ql}
theorem KH.after{as cK:Nat->Addr}{F:St}{N:b9->St->Prop}{R:PV->St->Prop}{J:Bool->b9->St->Prop}{X:b9->Prop}(a:Agree n as cK)(k:KH n as F N R J X bx):KH n cK F N R J X bx:=by
 cases bx with
 |exc=>exact k
 |ret c os=>exactλdJ σ' x=>k dJ σ' ⟨Agree.trans (ai _) a x.a,x.s,x.ok,x.n⟩
 |_=>exactλdJ ρ' σ' x=>k dJ ρ' σ' ⟨Agree.trans (ai _) a x.a,x.s,x.n⟩
theorem Agree.less{n m:Nat}{a b:Nat->Addr}(h:n<=m)(x:Agree m a b):Agree n a b:=λk hk=>x k (au hk h)
theorem Runs.nil:Runs (iu C fr []) n l os (.norm l os):= .mk λas ρ σ F hn s N R J X k=>g7 (k as ρ σ ⟨λ_ _=>rfl,s,hn⟩)
theorem Runs.cons{st:Stmt}{kH:List Stmt}(h1:Runs (WS C fr st) n l os (.norm l1 os1))(h2:Runs (iu C fr kH) n l1 os1 bx):Runs (iu C fr (st::kH)) n l os bx:= .mk λas ρ σ F hn s N R J X k=>
 bw (h1.go as ρ σ F hn s _ _ _ _ λcK Yc cZ x=>h2.go cK Yc cZ F x.n x.s N R J X (k.after x.a))
theorem Runs.stop{st:Stmt}{kH:List Stmt}(h1:Runs (WS C fr st) n l os bx)(h:∀l os,bx≠ .norm l os):Runs (iu C fr (st::kH)) n l os bx:= .mk λas ρ σ F hn s N R J X k=>
 bw (h1.go as ρ σ F hn s _ _ _ _ (by cases bx<;>first|exact k|exact absurd rfl (h _ _)))
theorem Runs.assign(F0:aI C fr){x:Str}{e:Expr}{p p':Pos}{i:Nat}{c:EV}(hi:fi x fr.vn=some i)(h:To (tE C fr e) l os (some c) os1)
 (hs:∀env,swapsWithSole [.Name x p'] e p.line env=pure false:=by with_unfolding_all(intro _;rfl)):Runs (WS C fr (.Assign [.Name x p'] e p)) n l os (.norm (l.set i (some c)) os1):= .mk λas ρ σ F hn s N R J X k=>
 gd F0 i (ik hi) (h.go as ρ σ F s _ _ λcK cZ v=>k cK _ cZ ⟨v.a.less hn,⟨v.s.r,by rw[aW,aW];exact v.s.len,λj d hj=>by
  rcases cD hj with⟨h3,h4⟩|⟨h3,h4⟩
  ·cases h4
   refine⟨v.ok.l,?_⟩
   have eP:i<l.length:=by
    have:=(aj.mp hj).1
    rwa[aW,<-h3]at this
   rw[<-h3,List.getElem?_set_self (by rw[v.s.len];exact eP)]
  ·refine⟨(v.s.l j d h4).1,?_⟩
   rw[nR h3];exact(v.s.l j d h4).2⟩,aa hn v.n⟩) (hs:=hs)
theorem Runs.ret{e:Expr}{p:Pos}{c:EV}(h:To (tE C fr e) l os (some c) os1):Runs (WS C fr (.Return (some e) p)) n l os (.ret c os1):= .mk λas ρ σ F hn s N R J X k=>
 dC (h.go as ρ σ F s _ _ λcK cZ v=>k cK cZ ⟨v.a.less hn,v.s.r,v.ok,aa hn v.n⟩)
noncomputable def bQ(Q:Bool->St->Prop):PV->St->Prop:=λv σ=>match v with
 |.bool b=>Q b σ
 |_=>False
theorem Runs.ite{t:Expr}{a b:List Stmt}{p:Pos}{c:Bool}(h:To (tT C fr t) l os (some (.v (.bool c))) os1)(hb:Runs (iu C fr (bif c then a else b)) n l os1 bx):Runs (WS C fr (.If t a b p)) n l os bx:= .mk λas ρ σ F hn s N R J X k=>
 ub (h.go as ρ σ F s (bQ λc aM=>(c=true->iu C fr a ρ aM N R J X)/\(c=false->iu C fr b ρ aM N R J X)) (X ρ) λcK cZ v=>by
  have:=hb.go cK ρ cZ F (aa hn v.n) v.s N R J X (k.after (v.a.less hn))
  exact⟨λe=>by subst e;exact this,λe=>by subst e;exact this⟩)
theorem Runs.expr(F0:aI C fr){e:Expr}{p:Pos}{c:EV}(h:To (tE C fr e) l os (some c) os1)(hs:∀env,swapsWith e none p.line env=pure false):Runs (WS C fr (.Expr e p)) n l os (.norm l os1):= .mk λas ρ σ F hn s N R J X k=>
 qb F0 (h.go as ρ σ F s _ _ λcK cZ v=>k cK ρ cZ ⟨v.a.less hn,v.s,aa hn v.n⟩) hs
structure Cx(os bN:List Ob)(c:EV)(as:Nat->Addr)(F:St)(dJ:Nat->Addr)(σ':St):Prop where
 a:Agree os.length as dJ
 s:TG bN dJ σ' F
 ok:c.Ok bN.length
 n:os.length<=bN.length
structure Calls(C:Ctx)(Fn:Fn)(lv:Nat)(args:List EV)(os:List Ob)(bx:Option EV)(bN:List Ob):Prop where
 go:∀as σ F,TG os as σ F->∀(Q:PV->St->Prop) (X:Prop),(match bx with|some c=>∀dJ σ',Cx os bN c as F dJ σ'->Q (c.at dJ) σ'|none=>X)->Spec C Fn lv (args.map (·.at as)) σ Q X
noncomputable def ql.res(o:ql)(bx:Option EV)(bN:List Ob):Prop:=ql.rec (λ_ os=>bx=some (.v .none)/\bN=os) (λc os=>bx=some c/\bN=os) (bx=none) (λ_ _=>False) (λ_ _=>False) o
theorem Calls.intro{Fn:Mine.Fn}{lv:Nat}{args:List EV}{b:List Stmt}{bx:Option EV}{o:ql}(ho:o.res bx os1)(hb:Fn.body=b)(ha:∀c∈args,EV.Ok os.length c)(dZ:args.length<=Fn.names.length)(P6:Fn.np=args.length)
 (h:∀L outer A,aI C (Fn.frame L outer A lv)->Runs (iu C (Fn.frame L outer A lv) b) os.length (args.map some++List.replicate (Fn.names.length-args.length) none) os o):
 Calls C Fn lv args os bx os1:= .mk λas σ F r Q X k=>by
 refine Spec.intro (ρ:=(args.map (·.at as)).map some++List.replicate (Fn.names.length-args.length) none) (by unfold Mine.Fn.PB;rw[P6]) hb λL outer A FF=> ?_
 refine(h L outer A FF).go as _ σ F (ai _) ⟨r,by simp,λi e he=> ?_⟩ _ _ _ _ ?_
 ·rw[List.getElem?_append]at he⊢
  simp only[af]at he⊢
  split at he
  ·rename_i hi
   rw[if_pos hi]
   rw[bc]at he
   cases q:args[i]?with
   |none=>rw[q]at he;cases he
   |some d=>
    rw[q]at he;cases he
    refine⟨(ha _ (aD q)).l,?_⟩
    rw[bc,bc,q];rfl
  ·rename_i hi
   rw[List.getElem?_replicate]at he
   split at he<;>cases he
 ·cases o with
  |norm l os2=>obtain⟨rfl,rfl⟩:=ho;exactλdJ ρ' σ' x=>k dJ σ' ⟨x.a,x.s.r,trivial,x.n⟩
  |ret c os2=>obtain⟨rfl,rfl⟩:=ho;exactλdJ σ' x=>k dJ σ' ⟨x.a,x.s,x.ok,x.n⟩
  |exc=>cases(show bx=none from ho);exactλ_=>k
  |_=>exact ho.elim
end
noncomputable def gk(ks:List Nat)(l:Lo):Lo:=ks.foldr (λi l=>l.set i none) l
noncomputable def FE(m:Nat)(o:Option EV):Bool:=Option.rec true (λe=>EV.rec (λ_=>true) (λk=>Nat.blt k m) (λks=>ks.all λk=>Nat.blt k m) (λ_ _=>false) (λ_ _ _=>false) e) o
noncomputable def kO(m:Nat)(o:Option EV):Bool:=Option.rec true (λe=>EV.rec (λ_=>true) (λk=>Nat.blt k m) (λks=>ks.all λk=>Nat.blt k m) (λ_ k=>Nat.blt k m) (λ_ _ _=>true) e) o
noncomputable def A9(m:Nat)(l:Lo):Bool:=l.all (kO m)
theorem zz{m:Nat}{e:EV}(h:FE m (some e)=true):e.Ok m:=by
 cases e with
 |v p=>trivial
 |o k=>exact jf.mp h
 |t ks=>exactλk hk=>jf.mp (av.mp h k hk)
 |_=>cases h
theorem Ba{m n:Nat}{F:St}{as:Nat->Addr}{e:EV}(h:kO m (some e)=true)(q:e.LP n F as):e.LP m F as:=by
 cases e with
 |v p=>trivial
 |o k=>exact jf.mp h
 |t ks=>exactλk hk=>jf.mp (av.mp h k hk)
 |c a k=>exact⟨jf.mp h,q.2⟩
 |n a x p=>exact q
theorem Bb:∀(ks:List Nat) (l:Lo),(gk ks l).length=l.length
 |[],l=>rfl
 |k::ks,l=>by
  show((gk ks l).set k none).length=_
  rw[aW];exact Bb ks l
theorem wM:∀(ks:List Nat) (l:Lo) {i:Nat} {e:EV},(gk ks l)[i]?=some (some e)->l[i]?=some (some e)
 |[],l,i,e,h=>h
 |k::ks,l,i,e,h=>by
  change ((gk ks l).set k none)[i]?=_ at h
  rcases cD h with⟨h3,h4⟩|⟨h3,h4⟩
  ·cases h4
  ·exact wM ks l h4
theorem Sx.less{l:Lo}{os:List Ob}{as:Nat->Addr}{ρ:b9}{σ F:St}(s:Sx l os as ρ σ F){ks:List Nat}{m:Nat}(h:A9 m (gk ks l)=true)(hm:m<=os.length):Sx (gk ks l) (os.take m) as ρ σ F:=by
 have hl:(os.take m).length=m:=by rw[cg];exact cY hm
 obtain⟨ps,r,e⟩:=s.r
 refine⟨⟨ps,r.less λk o q=> ?_,λj hj=>e j (by rw[hl]at hj;exact au hj hm)⟩,s.len.trans (Bb ks l).symm,λi c hc=>⟨?_,(s.l i c (wM ks l hc)).2⟩⟩
 ·have:=(aj.mp q).1
  rw[hl]at this
  rwa[fc this]at q
 ·rw[hl];exact Ba (av.mp h _ (aD hc)) (s.l i c (wM ks l hc)).1
theorem Nx.less{n m:Nat}{l:Lo}{os:List Ob}{as dJ:Nat->Addr}{ρ:b9}{σ F:St}(x:Nx n l os as F dJ ρ σ)(hn:n<=m)(hm:m<=os.length){ks:List Nat}(h:A9 m (gk ks l)=true):Nx n (gk ks l) (os.take m) as F dJ ρ σ:=
 ⟨x.a,x.s.less h hm,by rw[cg,cY hm];exact hn⟩
inductive Loop(C:Ctx)(fr:Fm)(body:List Stmt)(ks:List Nat)(m i:Nat):List PV->Lo->List Ob->ql->Prop
 |nil {l:Lo} {os:List Ob}:Loop C fr body ks m i [] l os (.norm l os)
 |next {x:PV} {xs:List PV} {l l1:Lo} {os os1:List Ob} {bx:ql} (b:Bool) (h:Runs (iu C fr body) m (l.set i (some (.v x))) os (bif b then .norm l1 os1 else .cont l1 os1)) (hk:A9 m (gk ks l1)=true)
  (r:Loop C fr body ks m i xs (gk ks l1) (os1.take m) bx):Loop C fr body ks m i (x::xs) l os bx
 |brk {x:PV} {xs:List PV} {l l1:Lo} {os os1:List Ob} (h:Runs (iu C fr body) m (l.set i (some (.v x))) os (.brk l1 os1)) (hk:A9 m (gk ks l1)=true):Loop C fr body ks m i (x::xs) l os (.norm (gk ks l1) (os1.take m))
 |ret {x:PV} {xs:List PV} {l:Lo} {os os1:List Ob} {c:EV} (h:Runs (iu C fr body) m (l.set i (some (.v x))) os (.ret c os1)):Loop C fr body ks m i (x::xs) l os (.ret c os1)
 |exc {x:PV} {xs:List PV} {l:Lo} {os:List Ob} (h:Runs (iu C fr body) m (l.set i (some (.v x))) os .exc):Loop C fr body ks m i (x::xs) l os .exc
section
variable{C:Ctx}{fr:Fm}{l:Lo}{os:List Ob}{o:ql}
theorem Sx.put{as:Nat->Addr}{ρ:b9}{σ F:St}(s:Sx l os as ρ σ F)(i:Nat){c:EV}(hc:c.Ok os.length):Sx (l.set i (some c)) os as (ρ.set i (some (c.at as))) σ F:=by
 refine⟨s.r,by rw[aW,aW];exact s.len,λj d hj=> ?_⟩
 rcases cD hj with⟨h3,h4⟩|⟨h3,h4⟩
 ·cases h4
  refine⟨hc.l,?_⟩
  have eP:i<l.length:=by
   have:=(aj.mp hj).1
   rwa[aW,<-h3]at this
  rw[<-h3,List.getElem?_set_self (by rw[s.len];exact eP)]
 ·refine⟨(s.l j d h4).1,?_⟩
  rw[nR h3];exact(s.l j d h4).2
theorem Eh{v:PV}{xs:List PV}{ks:List Nat}{m i:Nat}{body:List Stmt}{as:Nat->Addr}{ρ:b9}{σ zU F:St}{rest:St->St}{N:b9->St->Prop}{R:PV->St->Prop}{X:b9->Prop}
 (hit:kQ C fr v xs σ zU rest) (s:Sx l os as ρ zU F) (hm:m<=os.length) (hL:Loop C fr body ks m i xs l os o)
 (qr:∀l' bN dJ ρ' σ',o=.norm l' bN->Nx m l' bN as F dJ ρ' σ'->N ρ' (rest σ'))
 (hR:∀c bN,o=.ret c bN->∀dJ σ',Rx m c bN as F dJ σ'->R (c.at dJ) σ') (hX:o=.exc->∀ρ,X ρ):Gv C fr v i body ρ σ N R X:=by
 refine⟨xs,zU,rest,hit,λj ρ' σ'=>∃l' bN dJ,Nx m l' bN as F dJ ρ' σ'/\Loop C fr body ks m i (xs.drop j) l' bN o,⟨l,os,as,⟨λ_ _=>rfl,s,hm⟩,hL⟩,?_,?_⟩
 ·rintro j x ρ' σ' hx ⟨l',bN,dJ,nx,L⟩
  obtain⟨hj,rfl⟩:=aj.mp hx
  rw[bY hj]at L
  have s':=nx.s.put i (c:= .v xs[j]) trivial
  have le:=λ{iC HP hH l1 os1} (y:Nx m l1 os1 dJ F iC HP hH) {ks} (hk:A9 m (gk ks l1)=true)=>(⟨Agree.trans (ai _) nx.a y.a,y.s,y.n⟩:Nx m l1 os1 as F iC HP hH).less (ai _) y.n hk
  cases L with
  |next b h hk r=>
   cases b with
   |true=>exact h.go dJ _ σ' F nx.n s' _ _ _ _ λiC HP hH y=>⟨_,_,iC,le y hk,r⟩
   |false=>exact h.go dJ _ σ' F nx.n s' _ _ _ _ λiC HP hH y=>(by rw[if_neg f5];exact⟨_,_,iC,le y hk,r⟩)
  |brk h hk=>exact h.go dJ _ σ' F nx.n s' _ _ _ _ λiC HP hH y=>(by rw[if_pos rfl];exact qr _ _ iC HP hH rfl (le y hk))
  |ret h=>exact h.go dJ _ σ' F nx.n s' _ _ _ _ λiC hH y=>hR _ _ rfl iC hH ⟨Agree.trans (ai _) nx.a y.a,y.s,y.ok,y.n⟩
  |exc h=>exact h.go dJ _ σ' F nx.n s' _ _ _ _ (hX rfl)
 ·rintro ρ' σ' ⟨l',bN,dJ,nx,L⟩
  rw[List.drop_length]at L
  cases L with
  |nil=>exact qr _ _ dJ ρ' σ' rfl nx
noncomputable def uM(C:Ctx)(fr:Fm)(x:Str)(body:List Stmt)(c:EV)(l:Lo)(os1:List Ob)(o:ql):Prop:=
 ∀iter px p n os,(∀env v,foldedSetIterable iter env v=pure v)->To (tE C fr iter) l os (some c) os1->Runs (WS C fr (.For (.Name x px) iter body [] p)) n l os o
theorem HQ(F0:aI C fr)(Tp:ir fr){x:Str}{body:List Stmt}{ks:List Nat}{i:Nat}{v:PV}{xs:List PV}(hit:∀σ,kQ C fr v xs σ σ id)(hi:fi x fr.vn=some i)(hk:A9 os.length (gk ks l)=true)
 (hL:Loop C fr body ks os.length i xs (gk ks l) os o):uM C fr x body (.v v) l os o:=λiter px p n tZ hs h=> .mk λas ρ σ F hn s N R J X k=>
 u6 F0 Tp i (ik hi) (h.go as ρ σ F s _ _ λcK cZ y=>
  have a0:Agree n as cK:=y.a.less hn
  have le:n<=os.length:=aa hn y.n
  have sm:Sx (gk ks l) os cK ρ cZ F:=(by have:=y.s.less hk (ai _);rwa[fO]at this)
  Eh (hit cZ) sm (ai _) hL (λl' bN dJ ρ' σ' e z=>by subst e;exact k dJ ρ' σ' ⟨Agree.trans (ai _) a0 (z.a.less le),z.s,aa le z.n⟩)
   (λc bN e dJ σ' z=>by subst e;exact k dJ σ' ⟨Agree.trans (ai _) a0 (z.a.less le),z.s,z.ok,aa le z.n⟩) (λe=>by subst e;exact k)) hs
theorem HR(F0:aI C fr)(Tp:ir fr){x:Str}{body:List Stmt}{ks:List Nat}{i k:Nat}{xs:List PV}(hi:fi x fr.vn=some i)(hk:os[k]?=some (.list xs))(hm:A9 os.length (gk ks l)=true)
 (hL:Loop C fr body ks os.length i xs (gk ks l) (os.set k .held) o) {o':ql}
 (ho:match o with|.norm l' bN=>bN[k]?=some .held/\o'=.norm l' (bN.set k (.list xs))|.brk _ _=>False|.cont _ _=>False|q=>o'=q):
 uM C fr x body (.o k) l os o':=λiter px p n tZ hs h=> .mk λas ρ σ F hn s N R J X kk=>
 u6 F0 Tp i (ik hi) (h.go as ρ σ F s _ _ λcK cZ y=>
  have a0:Agree n as cK:=y.a.less hn
  have le:n<=os.length:=aa hn y.n
  have hc:=y.s.get hk (λ_=>rfl)
  have eP:=(aj.mp hk).1
  have sm:Sx (gk ks l) os cK ρ cZ F:=(by have:=y.s.less hm (ai _);rwa[fO]at this)
  have sb:Sx (gk ks l) (os.set k .held) cK ρ (cZ.del (cK k)) F:=sm.turn hk (λ_=>rfl) (λ_=>lD _) (λ_ _ c hc=>nomatch hc) λb hb=>if_neg hb
  Eh (xY F0 hc) sb (by rw[aW];exact ai _) hL (λl' bN dJ ρ' σ' e z=>by
   subst e
   obtain⟨h1,rfl⟩:=ho
   refine kk dJ ρ' _ ⟨Agree.trans (ai _) a0 (z.a.less le),?_,by rw[aW];exact aa le z.n⟩
   rw[<-z.a k eP]
   exact z.s.turn h1 (λ_=>rfl) (λ_=>lD _) (λp e c hc=>by rw[am.mp hc,e];exact St.bz _ _ _) λb hb=>St.bu _ _ hb)
   (λc bN e dJ σ' z=>by subst e;subst ho;exact kk dJ σ' ⟨Agree.trans (ai _) a0 (z.a.less le),z.s,z.ok,aa le z.n⟩) (λe=>by subst e;subst ho;exact kk)) hs
end
noncomputable def s5(os:List Ob)(m:List Nat)(os2:List Ob):List Ob:=
 List.rec (motive:=λ_=>List Ob->List Ob->List Ob) (λos os2=>os++os2) (λk _ ih os os2=>List.rec os (λq r _=>ih (os.set k q) r) os2) m os os2
noncomputable def xH(os:List Ob)(m:List Nat):List Ob:=m.map λk=>os.getD k .gone
noncomputable def rn(m:List Nat)(j:Nat):Nat:=m.getD j 0
noncomputable def bk(m:List Nat)(n j:Nat):Nat:=if j<m.length then m.getD j 0 else n+(j-m.length)
noncomputable def EV.ER(f:Nat->Nat):EV->EV
 |.v p=> .v p
 |.o k=> .o (f k)
 |.t ks=> .t (ks.map f)
 |.c a k=> .c a (f k)
 |.n a x p=> .n a x p
theorem EV.Je(f:Nat->Nat)(as:Nat->Addr):∀c:EV,(c.ER f).at as=c.at λk=>as (f k)
 |.v _=>rfl
 |.o _=>rfl
 |.t ks=>congrArg PV.tup (by rw[b3];rfl)
 |.c _ _=>rfl
 |.n _ _ _=>rfl
theorem wN:∀(m:List Nat) (os os2:List Ob),m.length<=os2.length->(s5 os m os2).length=os.length+(os2.length-m.length)
 |[],os,os2,_=>by show(os++os2).length=_;rw[ae];rfl
 |k::m,os,[],h=>absurd h (Nat.not_succ_le_zero _)
 |k::m,os,q::os2,h=>by
  show(s5 (os.set k q) m os2).length=_
  rw[wN m _ os2 (Nat.le_of_succ_le_succ h),aW,aw,aw,Nat.add_sub_add_right]
theorem Bc:∀(m:List Nat) (os os2:List Ob),m.Nodup->(∀k∈m,k<os.length)->m.length<=os2.length->∀(k:Nat) (o:Ob),(s5 os m os2)[k]?=some o->
 (∃j,os2[j]?=some o/\k=bk m os.length j)\/(k∉m/\os[k]?=some o)
 |[],os,os2,_,_,_,k,o,e=>by
  rcases Nat.lt_or_ge k os.length with h|h
  ·exact .inr ⟨aP,by rwa[show s5 os [] os2=os++os2 from rfl,bH h]at e⟩
  ·refine .inl ⟨k-os.length,by rwa[show s5 os [] os2=os++os2 from rfl,bS h]at e,?_⟩
   show k=if k-os.length<0 then _ else os.length+(k-os.length-0)
   rw[if_neg (j0 _)];exact(Nat.add_sub_cancel' h).symm
 |a::m,os,[],_,_,h,_,_,_=>absurd h (Nat.not_succ_le_zero _)
 |a::m,os,q::os2,nd,lt,h,k,o,e=>by
  have nd':=cW.mp nd
  rcases Bc m (os.set a q) os2 nd'.2 (λx hx=>by rw[aW];exact lt x (aK _ hx)) (Nat.le_of_succ_le_succ h) k o e with⟨j,h1,h2⟩|⟨h1,h2⟩
  ·refine .inl ⟨j+1,h1,?_⟩
   rw[aW]at h2
   rw[h2];unfold bk
   by_cases hj:j<m.length
   ·rw[if_pos hj,if_pos (show j+1<(a::m).length from mV hj)];rfl
   ·rw[if_neg hj,if_neg (show¬j+1<(a::m).length fromλx=>hj (Nat.lt_of_succ_lt_succ x)),aw,Nat.add_sub_add_right]
  ·rcases cD h2 with⟨h3,h4⟩|⟨h3,h4⟩
   ·exact .inl ⟨0,by rw[h4];rfl,by unfold bk;rw[if_pos (show 0<(a::m).length from ce _)];exact h3.symm⟩
   ·exact .inr ⟨λhk=>(ak.mp hk).elim (λe=>h3 e.symm) h1,h4⟩
theorem pE{os:List Ob}{m:List Nat}(lt:∀k∈m,k<os.length){j:Nat}{o:Ob}(h:(xH os m)[j]?=some o):∃k,m[j]?=some k/\rn m j=k/\os[k]?=some o:=by
 unfold xH at h
 rw[bc]at h
 cases e:m[j]?with
 |none=>rw[e]at h;cases h
 |some k=>
  rw[e]at h
  refine⟨k,rfl,by unfold rn;rw[ed,e];rfl,?_⟩
  have hk:=lt k (aD e)
  have:os.getD k .gone=o:=ax h
  rw[ed,aB hk]at this
  rw[aB hk];exact congrArg some this
open Classical in
theorem fW.sub{os:List Ob}{ps:Nat->Pl}{σ F:St}(r:fW os ps σ F){m:List Nat}(nd:m.Nodup)(lt:∀k∈m,k<os.length)(lv:∀q∈os,Ob.live q=true):
 ∃F',fW (xH os m) (λj=>ps (rn m j)) σ F'/\∀(os2:List Ob) (CV:Nat->Pl) (hH:St),m.length<=os2.length->fW os2 CV hH F'->∀BR:Nat->Pl,(∀j,j<os2.length->BR (bk m os.length j)=CV j)->(∀k,k∉m->k<os.length->BR k=ps k)->fW (s5 os m os2) BR hH F:=by
 let Pn:Addr->Prop:=λb=>∃k,k∉m/\∃o,os[k]?=some o/\b∈o.keys (ps k)
 let F':St:=λb=>if Pn b then σ b else F b
 have Z4:∀a c,F a=some c->F' a=some c:=λa c e=>by
  show(if Pn a then σ a else F a)=some c
  by_cases q:Pn a
  ·rw[if_pos q];exact r.le a c e
  ·rw[if_neg q];exact e
 have Yd:∀{i j k:Nat},m[i]?=some k->m[j]?=some k->i=j:=λhi hj=>by
  obtain⟨h1,e1⟩:=aj.mp hi
  obtain⟨h2,e2⟩:=aj.mp hj
  exact(List.getElem_inj nd).mp (e1.trans e2.symm)
 refine⟨F',⟨λj o e c hc=> ?_,λj o e a ha=> ?_,λj o e=> ?_,λi j o q ne e1 e2 a ha hb=> ?_,λa c e=> ?_⟩,λos2 CV hH HC r2 BR p1 p2=> ?_⟩
 ·obtain⟨k,h1,h2,h3⟩:=pE lt e
  exact r.at_ k o h3 c (h2▸hc)
 ·obtain⟨k,h1,h2,h3⟩:=pE lt e
  rw[h2]at ha
  show(if Pn a then σ a else F a)=none
  rw[if_neg]
  ·exact r.fr k o h3 a ha
  ·rintro⟨k',tm,o',qw,ha'⟩
   exact r.ap k k' o o' (λe=>tm (e▸aD h1)) h3 qw a ha ha'
 ·obtain⟨k,h1,h2,h3⟩:=pE lt e
  rw[h2];exact r.nd k o h3
 ·obtain⟨k,h1,h2,h3⟩:=pE lt e1
  obtain⟨k',Mp,Po,Oa⟩:=pE lt e2
  rw[h2]at ha;rw[Po]at hb
  exact r.ap k k' o q (λe=>ne (Yd h1 (e▸Mp))) h3 Oa a ha hb
 ·change (if Pn a then σ a else F a)=some c at e
  by_cases q:Pn a
  ·rwa[if_pos q]at e
  ·rw[if_neg q]at e;exact r.le a c e
 ·have get:∀(k:Nat) (o:Ob),(s5 os m os2)[k]?=some o->(∃j,os2[j]?=some o/\k=bk m os.length j/\BR k=CV j)\/(k∉m/\os[k]?=some o/\BR k=ps k):=λk o e=>by
   rcases Bc m os os2 nd lt HC k o e with⟨j,h1,h2⟩|⟨h1,h2⟩
   ·exact .inl ⟨j,h1,h2,by rw[h2];exact p1 j (aj.mp h1).1⟩
   ·exact .inr ⟨h1,h2,p2 k h1 (aj.mp h2).1⟩
  have Mt:∀(j k:Nat) (o q:Ob),os2[j]?=some o->k∉m->os[k]?=some q->∀a∈o.keys (CV j),a∉q.keys (ps k):=λj k o q e1 hk e2 a ha hb=>by
   have h1:=r2.fr j o e1 a ha
   have h2:F' a=σ a:=if_pos ⟨k,hk,q,e2,hb⟩
   rw[<-Ob.t8 (lv q (aD e2))]at hb
   obtain⟨c,hc,ec⟩:=bj.mp hb
   have h3:=r.at_ k q e2 c hc
   rw[ec,<-h2,h1]at h3;cases h3
  refine⟨λk o e c hc=> ?_,λk o e a ha=> ?_,λk o e=> ?_,λi k o q ne e1 e2 a ha hb=> ?_,λa c e=>r2.le a c (Z4 a c e)⟩
  ·rcases get k o e with⟨j,h1,h2,h3⟩|⟨h1,h2,h3⟩
   ·rw[h3]at hc;exact r2.at_ j o h1 c hc
   ·rw[h3]at hc
    refine r2.le _ _ ?_
    have:F' c.1=σ c.1:=if_pos ⟨k,h1,o,h2,Ob.pS hc⟩
    rw[this];exact r.at_ k o h2 c hc
  ·rcases get k o e with⟨j,h1,h2,h3⟩|⟨h1,h2,h3⟩
   ·rw[h3]at ha
    have:=r2.fr j o h1 a ha
    cases q:F a with
    |none=>rfl
    |some c=>rw[Z4 a c q]at this;cases this
   ·rw[h3]at ha;exact r.fr k o h2 a ha
  ·rcases get k o e with⟨j,h1,h2,h3⟩|⟨h1,h2,h3⟩
   ·rw[h3];exact r2.nd j o h1
   ·rw[h3];exact r.nd k o h2
  ·rcases get i o e1 with⟨j,h1,h2,h3⟩|⟨h1,h2,h3⟩<;>rcases get k q e2 with⟨j',Mp,Po,Oa⟩|⟨Mp,Po,Oa⟩
   ·rw[h3]at ha;rw[Oa]at hb
    exact r2.ap j j' o q (λe=>ne (by rw[h2,Po,e])) h1 Mp a ha hb
   ·rw[h3]at ha;rw[Oa]at hb;exact Mt j k o q h1 Mp Po a ha hb
   ·rw[h3]at ha;rw[Oa]at hb;exact Mt j' i q o Mp h1 h2 a hb ha
   ·rw[h3]at ha;rw[Oa]at hb;exact r.ap i k o q ne h2 Po a ha hb
theorem RP{m:List Nat}{n t j:Nat}(lt:∀k∈m,k<n)(hm:m.length<=t)(hj:j<t):bk m n j<n+(t-m.length):=by
 unfold bk
 by_cases h:j<m.length
 ·rw[if_pos h,ed,aB h]
  exact au (lt _ (cL h)) (ay _ _)
 ·rw[if_neg h];exact lq6 [.lt (.v 0) (.v 1),.eq (.a (.v 2) (.v 3)) (.v 0),.eq (.a (.v 4) (.v 3)) (.v 1)] (.lt (.a (.v 5) (.v 2)) (.a (.v 5) (.v 4))) [1,1,.negSucc 0] (Eq.refl true) hj (xu (mq [.no (.lt (.v 0) (.v 1))] (.le (.v 1) (.v 0)) [1] (Eq.refl true) h)) (xu (mq [.le (.v 0) (.v 1)] (.le (.v 0) (.v 1)) [1] (Eq.refl true) hm))
theorem EV.O2{f:Nat->Nat}{n t:Nat}(h:∀j,j<t->f j<n):∀{c:EV},c.Ok t->(c.ER f).Ok n
 |.v _,_=>trivial
 |.o k,q=>h k q
 |.t ks,q=>λk hk=>by
  obtain⟨j,hj,rfl⟩:=bj.mp hk
  exact h j (q j hj)
section
variable{C:Ctx}{fr:Fm}{l:Lo}{os os1 os2:List Ob}
open Classical in
theorem Calls.at_{Fn:Mine.Fn}{lv:Nat}{cs:List EV}{m:List Nat}{bx:Option EV}(hc:Calls C Fn lv cs (xH os1 m) bx os2)(nd:m.Nodup)(lt:∀k∈m,k<os1.length)(Ye:∀q∈os1,Ob.live q=true)(hm:m.length<=os2.length)
 {as:Nat->Addr} {ρ:b9} {σ F:St} (s:Sx l os1 as ρ σ F) {Q:PV->St->Prop} {X:Prop} (e:Ends l os1 as ρ F Q X (bx.map (EV.ER (bk m os1.length))) (s5 os1 m os2)):Spec C Fn lv ((cs.map (EV.ER (rn m))).map (·.at as)) σ Q X:=by
 obtain⟨ps,r,ha⟩:=s.r
 obtain⟨F',r1,back⟩:=r.sub nd lt Ye
 have dZ:(xH os1 m).length=m.length:=af ..
 have TH:∀{j},(h:j<m.length)->rn m j=m[j]:=λh=>by unfold rn;rw[ed,aB h];rfl
 rw[b3,show((λc:EV=>c.at as)∘EV.ER (rn m))=λc:EV=>c.at λj=>as (rn m j)from funext λc=>EV.Je _ _ c]
 refine hc.go (λj=>as (rn m j)) σ F' ⟨_,r1,λj hj=>ha _ ?_⟩ Q X ?_
 ·rw[dZ]at hj;rw[TH hj];exact lt _ (cL hj)
 cases bx with
 |none=>exact e
 |some c=>
  intro iC hH y
  obtain⟨CV,r2,Z5⟩:=y.s
  have Pp:∀{j},j<m.length->bk m os1.length j=rn m j:=λh=>if_pos h
  let BR:Nat->Pl:=λk=>if k<os1.length then(if k∈m then CV (m.idxOf k)else ps k)else CV (k-os1.length+m.length)
  have p1:∀j,j<os2.length->BR (bk m os1.length j)=CV j:=λj hj=>by
   show(if bk m os1.length j<os1.length then(if bk m os1.length j∈m then CV (m.idxOf (bk m os1.length j))else ps (bk m os1.length j))else CV (bk m os1.length j-os1.length+m.length))=CV j
   by_cases h:j<m.length
   ·rw[Pp h,TH h,if_pos (lt _ (cL h)),if_pos (cL h),nd.idxOf_getElem j h]
   ·have:bk m os1.length j=os1.length+(j-m.length):=if_neg h
    rw[this,if_neg (by exact mq [] (.no (.lt (.a (.v 0) (.v 1)) (.v 0))) [] (Eq.refl true))];congr 1;omega
  have p2:∀k,k∉m->k<os1.length->BR k=ps k:=λk h1 h2=>by
   show(if k<os1.length then(if k∈m then CV (m.idxOf k)else ps k)else CV (k-os1.length+m.length))=ps k
   rw[if_pos h2,if_neg h1]
  have r3:=back os2 CV hH hm r2 BR p1 p2
  have ag:Agree os1.length as λk=>(BR k).a:=λk hk=>by
   show(BR k).a=as k
   by_cases h:k∈m
   ·have hi:=List.idxOf_lt_length_of_mem h
    have Oc:m[m.idxOf k]=k:=List.getElem_idxOf hi
    have e1:bk m os1.length (m.idxOf k)=k:=by rw[Pp hi,TH hi];exact Oc
    have e2:=p1 (m.idxOf k) (au hi hm)
    rw[e1]at e2
    rw[e2,Z5 _ (au hi hm),y.a _ (by rw[dZ];exact hi)]
    show as (rn m (m.idxOf k))=as k
    rw[TH hi,Oc]
   ·rw[p2 k h hk];exact ha k hk
  have Yg:os1.length<=(s5 os1 m os2).length:=by rw[wN m os1 os2 hm];exact ay _ _
  have qr:=e (λk=>(BR k).a) hH ⟨ag,⟨⟨BR,r3,λ_ _=>rfl⟩,s.len,λi d hd=>⟨((s.l i d hd).1.step ag Yg).1,by rw[((s.l i d hd).1.step ag Yg).2];exact(s.l i d hd).2⟩⟩,
   EV.O2 (λj hj=>by rw[wN m os1 os2 hm];exact RP lt hm hj) y.ok,Yg⟩
  rw[EV.Je]at qr
  rwa[EV.pT (as:=iC) (n:=os2.length) (λj hj=>by rw[p1 j hj];exact Z5 j hj) y.ok]at qr
theorem To.call(G:dr C)(F0:aI C fr){Fn:Mine.Fn}(H:FnAt C Fn){x:Str}{p pos:Pos}{es:List Expr}{lv:Nat}(hk:fr.env.kindOf x=some .globalImplicit)(hg:C.mg x=some (.ref Fn.f))(hl:lv<fr.lvl)
 {cs:List EV} {m:List Nat} {bx:Option EV} (h1:sZ C fr pos es l os (some (cs.map (EV.ER (rn m)))) os1) (hn:cs.length=Fn.np) (hc:Calls C Fn lv cs (xH os1 m) bx os2) (nd:m.Nodup) (lt:∀k∈m,k<os1.length) (Ye:∀q∈os1,Ob.live q=true) (hm:m.length<=os2.length)
 (kI:es=[]\/∃x l,backTo pos (starEach es fr.env)=(false,x)::l) (hd:(x==("__debug__":Str))=false):
 To (tE C fr (.Call (.Name x p) es [] pos)) l os (bx.map (EV.ER (bk m os1.length))) (s5 os1 m os2):= .mk λas ρ σ F s Q X e=>
 rm G F0 H hk hg hl (h1.go as ρ σ F s _ _ λcK cZ v=>⟨by rw[af,af];exact hn,hc.at_ nd lt Ye hm v.s (e.xo v)⟩) kI hd
end
section
variable{C:Ctx}{fr:Fm}{l:Lo}{os:List Ob}{T:Tr}
theorem Sx.back{bN:List Ob}{as:Nat->Addr}{ρ:b9}{σ F:St}(s:Sx l bN as ρ σ F)(h:bN.length=os.length){v:PV}:Vx l os bN (.v v) as ρ F as σ:=⟨λ_ _=>rfl,s,trivial,aZ h.symm⟩
theorem To.read{k:Nat}{o:Ob}{c:dx}{v:PV}(hk:os[k]?=some o)(ho:∀p:Pl,o.cells p=[(p.a,c)])(h:∀as ρ σ Q X,σ (as k)=some c->Q v σ->T as ρ σ Q X):To T l os (some (.v v)) os:=
 .mk λas ρ σ F s Q X e=>h as ρ σ Q X (s.get hk ho) (e as σ (s.back rfl))
theorem To.S8{j k:Nat}{o q:Ob}{c d:dx}{v:PV}(hj:os[j]?=some o)(ho:∀p:Pl,o.cells p=[(p.a,c)])(hk:os[k]?=some q)(hq:∀p:Pl,q.cells p=[(p.a,d)])(h:∀as ρ σ Q X,σ (as j)=some c->σ (as k)=some d->Q v σ->T as ρ σ Q X):To T l os (some (.v v)) os:=
 .mk λas ρ σ F s Q X e=>h as ρ σ Q X (s.get hj ho) (s.get hk hq) (e as σ (s.back rfl))
theorem To.upd{k:Nat}{o o':Ob}{c c':dx}{v:PV}(hk:os[k]?=some o)(ho:∀p:Pl,o.cells p=[(p.a,c)])(hy:∀p:Pl,o.keys p=[p.a])(qw:∀p:Pl,o'.cells p=[(p.a,c')])(hy':∀p:Pl,o'.keys p=[p.a])
 (h:∀as ρ σ Q X,σ (as k)=some c->Q v (σ.upd (as k) c')->T as ρ σ Q X):To T l os (some (.v v)) (os.set k o'):=
 .mk λas ρ σ F s Q X e=>h as ρ σ Q X (s.get hk ho) (e as _ ((s.upd hk hy hy' qw).back (aW ..)))
theorem To.new{o:Ob}{c:dx}(hl:∀q∈os,Ob.live q=true)(ho:∀p:Pl,o.cells p=[(p.a,c)])(hy:∀p:Pl,o.keys p=[p.a])(h:∀as ρ σ Q X,(∀a,σ a=none->Q (.loc a) (σ.upd a c))->T as ρ σ Q X):To T l os (some (.o os.length)) (os++[o]):=
 .mk λas ρ σ F s Q X e=>h as ρ σ Q X λa ha=>by
  have:=e _ _ (s.alloc ha ho hy hl)
  rwa[show EV.at (λk=>if k=os.length then a else as k) (.o os.length)=.loc a from congrArg PV.loc (if_pos rfl)]at this
end
inductive iY(C:Ctx)(fr:Fm)(t:Expr)(body:List Stmt)(ks:List Nat)(m:Nat):Nat->Lo->List Ob->ql->Prop
 |stop {n:Nat} {l:Lo} {os os1:List Ob} (h:To (tT C fr t) l os (some (.v (.bool false))) os1):iY C fr t body ks m n l os (.norm l os1)
 |next {n:Nat} {l l2:Lo} {os os1 os2:List Ob} {bx:ql} (b:Bool) (h:To (tT C fr t) l os (some (.v (.bool true))) os1) (hb:Runs (iu C fr body) m l os1 (bif b then .norm l2 os2 else .cont l2 os2)) (hk:A9 m (gk ks l2)=true)
  (r:iY C fr t body ks m n (gk ks l2) (os2.take m) bx):iY C fr t body ks m (n+1) l os bx
 |ret {n:Nat} {l:Lo} {os os1 os2:List Ob} {c:EV} (h:To (tT C fr t) l os (some (.v (.bool true))) os1) (hb:Runs (iu C fr body) m l os1 (.ret c os2)):iY C fr t body ks m n l os (.ret c os2)
 |exc {n:Nat} {l:Lo} {os os1:List Ob} (h:To (tT C fr t) l os (some (.v (.bool true))) os1) (hb:Runs (iu C fr body) m l os1 .exc):iY C fr t body ks m n l os .exc
noncomputable def Ei(C:Ctx)(fr:Fm)(t:Expr)(body:List Stmt)(l:Lo)(os:List Ob)(o:ql):Prop:=∀n p,n<=os.length->Runs (WS C fr (.While t body [] p)) n l os o
section
variable{C:Ctx}{fr:Fm}{l:Lo}{os:List Ob}{o:ql}
theorem zA(F0:aI C fr)(Tp:ir fr){ks:List Nat}{t:Expr}{body:List Stmt}(hk:A9 os.length (gk ks l)=true)(hL:∃k,iY C fr t body ks os.length k (gk ks l) os o):Ei C fr t body l os o:=λn p NE=> .mk λas ρ σ F hn s N R J X kk=>by
 obtain⟨k,hL⟩:=hL
 have sm:Sx (gk ks l) os as ρ σ F:=by have:=s.less hk (ai _);rwa[fO]at this
 refine Gq F0 Tp (λk ρ' σ'=>∃l' bN dJ,Nx os.length l' bN as F dJ ρ' σ'/\iY C fr t body ks os.length k l' bN o) k ⟨_,os,as,⟨λ_ _=>rfl,sm,ai _⟩,hL⟩ ?_
 rintro k ρ' σ' ⟨l',bN,dJ,nx,L⟩
 have wQ:∀{b:Bool} {os1:List Ob},To (tT C fr t) l' bN (some (.v (.bool b))) os1->∀(Q:Bool->St->Prop),(∀cK cZ,Nx os.length l' os1 as F cK ρ' cZ->Q b cZ)->WT C fr t ρ' σ' Q (X ρ'):=λh Q hq=>
  h.go dJ ρ' σ' F nx.s (bQ Q) (X ρ') λcK cZ v=>hq cK cZ ⟨Agree.trans (ai _) nx.a (v.a.less nx.n),v.s,aa nx.n v.n⟩
 have le:=λ{cK iC HP hH l1 os1} (a:Agree os.length as cK) (y:Nx os.length l1 os1 cK F iC HP hH) {ks} (hk:A9 os.length (gk ks l1)=true)=>(⟨Agree.trans (ai _) a y.a,y.s,y.n⟩:Nx os.length l1 os1 as F iC HP hH).less (ai _) y.n hk
 cases L with
 |stop h=>exact wQ h _ λcK cZ y=>⟨(nomatch·),λ_=>g7 (kk cK ρ' cZ ⟨y.a.less NE,y.s,aa NE y.n⟩)⟩
 |next b h hb hk r=>
  cases b with
  |true=>exact wQ h _ λcK cZ y=>⟨λ_=>hb.go cK ρ' cZ F y.n y.s _ _ _ _ λiC HP hH z=>⟨_,cf _,_,_,iC,le y.a z hk,r⟩,(nomatch·)⟩
  |false=>exact wQ h _ λcK cZ y=>⟨λ_=>hb.go cK ρ' cZ F y.n y.s _ _ _ _ λiC HP hH z=>(by rw[if_neg f5];exact⟨_,cf _,_,_,iC,le y.a z hk,r⟩),(nomatch·)⟩
 |ret h hb=>exact wQ h _ λcK cZ y=>⟨λ_=>hb.go cK ρ' cZ F y.n y.s _ _ _ _ λiC hH z=>kk iC hH ⟨(Agree.trans (ai _) y.a z.a).less NE,z.s,z.ok,aa NE z.n⟩,(nomatch·)⟩
 |exc h hb=>exact wQ h _ λcK cZ y=>⟨λ_=>hb.go cK ρ' cZ F y.n y.s _ _ _ _ kk,(nomatch·)⟩
end
noncomputable section
noncomputable def Ob.ty(o:Ob):Option String:=Ob.rec (λ_=>some "list") (λ_=>some "dict") (λ_=>some "dict") (λ_=>some "dict") (λ_=>none) (λ_ _ _=>some "list") none none o
noncomputable def EV.ty(os:List Ob)(a:EV):Option String:=EV.rec (λp=>O8 (λ_=>none) p) (λk=>(os[k]?).bind Ob.ty) (λ_=>some "tuple") (λ_ _=>none) (λ_ _ _=>none) a
end
section
variable{C:Ctx}{fr:Fm}{l:Lo}{os os1 os2 kE:List Ob}{bx:Option EV}
theorem Sx.first{as:Nat->Addr}{ρ:b9}{σ F:St}(s:Sx l os as ρ σ F){k:Nat}{o:Ob}(hk:os[k]?=some o){c:Pl->dx}{r:Pl->List (Addr×dx)}(ho:∀p:Pl,o.cells p=(p.a,c p)::r p):∃p,σ (as k)=some (c p):=by
 obtain⟨ps,rr,ha⟩:=s.r
 have h1:=rr.at_ k o hk
 rw[ho]at h1
 have h2:=h1 _ (az ..)
 exact⟨_,by rwa[ha k (aj.mp hk).1]at h2⟩
theorem CW{a:EV}{T:String}(h:a.ty os=some T){as:Nat->Addr}{ρ:b9}{σ F:St}(s:Sx l os as ρ σ F):O8 σ (a.at as)=some T:=by
 cases a with
 |v p=>cases p<;>first|exact h|cases h
 |t ks=>exact h
 |c a k=>cases h
 |n a x p=>cases h
 |o k=>
  change (os[k]?).bind Ob.ty=some T at h
  cases hk:os[k]?with
  |none=>rw[hk]at h;cases h
  |some o=>
   rw[hk]at h
   show(σ (as k)).bind dx.ty=some T
   cases o<;>first|(cases h;done)|(obtain⟨p,e⟩:=s.first hk (λ_=>rfl);rw[e];exact h)
theorem To.sub{e1 e2:Expr}{p:Pos}{a b:EV}{T:String}(h1:To (tE C fr e1) l os (some a) os1)(h2:To (tE C fr e2) l os1 (some b) os2)(h3:To (t2 C fr getItem a b) l os2 bx kE)(hp:a.ty os2=some T)(hT:T="list"\/T="dict"\/T="str"\/T="tuple")
 (hs:∀ov iv,subscripted e2 false ov iv=operate [ov,iv] (getItem ov iv)):To (tE C fr (.Subscript e1 e2 p)) l os bx kE:= .mk λas ρ σ F s Q X e=>y0 hT (h1.go as ρ σ F s _ _ λcK cZ v1=>h2.go cK ρ cZ F v1.s _ _ λiC hH v2=>by
 have:=h3.go iC ρ hH F v2.s Q X ((e.after v1).after v2)
 have BP:=CW hp v2.s
 unfold t2 at this;rw[EV.pT v2.a v1.ok]at this BP;exact⟨BP,this⟩) hs
theorem To.Y2{T id:String}{o:Expr}{name:Str}{yZ pos:Pos}{es:List Expr}{a:EV}{cs:List EV}(B:BM T name id)(h1:To (tE C fr o) l os (some a) os1)(h2:sZ C fr pos es l os1 (some cs) os2)(hp:a.ty os1=some T)
 (h3:To (tN C fr (λvs=>PySem.call (.builtin id) vs) (a::cs)) l os2 bx kE) (kI:es=[]\/∃x l,backTo pos (starEach es fr.env)=(false,x)::l) (r5:∀env,attributeBase o name env (eval o env)=eval o env)
 (JR:∀env,((backTo pos (starEach es env)).all (λx=> !x.1)&&(backToKw pos (keywordEach [] env)).all (λx=>x.1.isSome)
  &&decide (es.length+([]:List Keyword).length+(if([]:List Keyword).isEmpty then 0 else 1)<30))=true)
 (GD:(yZ.endLine==pos.line)=true):To (tE C fr (.Call (.Attribute o name yZ) es [] pos)) l os bx kE:= .mk λas ρ σ F s Q X e=>
 gy B (h1.go as ρ σ F s _ _ λcK cZ v1=>⟨CW hp v1.s,h2.go cK ρ cZ F v1.s _ _ λiC hH v2=>by
  have:=h3.go iC ρ hH F v2.s Q X ((e.after v1).xo v2)
  unfold tN at this;rwa[bp,EV.pT v2.a v1.ok]at this⟩) kI r5 JR GD
theorem To.tup{es:List Expr}{k:Nat}{p:Pos}{cs:List EV}{c:EV}(h:sZ C fr p es l os (some cs) os1)(hc:∀as,PV.tup (cs.map (·.at as))=c.at as)(ho:(∀x∈cs,EV.Ok os1.length x)->c.Ok os1.length)(hsz:cs.length<=sizeLine):To (tE C fr (.Tuple es k p)) l os (some c) os1:= .mk λas ρ σ F s Q X e=>
 rQ (h.go as ρ σ F s _ _ λcK cZ v=>⟨by rw[af];exact hsz,by rw[hc];exact e cK cZ ⟨v.a,v.s,ho v.ok,v.n⟩⟩)
theorem To.list{es:List Expr}{p:Pos}{cs:List EV}{xs:List PV}(h:sZ C fr p es l os (some cs) os1)(hc:∀as,cs.map (·.at as)=xs)(hl:∀q∈os1,Ob.live q=true)(hsz:xs.length<=sizeLine):To (tE C fr (.List es p)) l os (some (.o os1.length)) (os1++[.list xs]):= .mk λas ρ σ F s Q X e=>
 rR (h.go as ρ σ F s _ _ λcK cZ v=>⟨by rw[hc];exact hsz,λa ha=>by
  rw[hc]
  have w:=v.s.alloc (o:= .list xs) (c:= .list xs) ha (λ_=>rfl) (λ_=>rfl) hl
  have:=e _ _ ⟨v.a.trans v.n w.a,w.s,w.ok,aa v.n w.n⟩
  rwa[show EV.at (λk=>if k=os1.length then a else cK k) (.o os1.length)=.loc a from congrArg PV.loc (if_pos rfl)]at this⟩)
theorem sZ.x1{pos:Pos}{e:Expr}{es:List Expr}(h:To (tE C fr e) l os none os1)(hs:∀env,starEach (e::es) env=(false,eval e env)::starEach es env):sZ C fr pos (e::es) l os none os2:= .mk λas ρ σ F s Q X x=>cR (h.go as ρ σ F s _ _ x) hs
theorem sZ.x2{pos:Pos}{e:Expr}{es:List Expr}{a:EV}(h1:To (tE C fr e) l os (some a) os1)(h:sZ C fr pos es l os1 none os2)(hs:∀env,starEach (e::es) env=(false,eval e env)::starEach es env):sZ C fr pos (e::es) l os none os2:= .mk λas ρ σ F s Q X x=>
 cR (h1.go as ρ σ F s _ _ λcK cZ v1=>h.go cK ρ cZ F v1.s _ _ x) hs
theorem To.Y3(G:dr C)(F0:aI C fr){id:String}{x:Str}{p pos:Pos}{es:List Expr}(hk:fr.env.kindOf x=some .globalImplicit)(hm:C.mg x=none)(hb:C.mb x=some (.builtin id))
 (h1:sZ C fr pos es l os none os1) (kI:es=[]\/∃x l,backTo pos (starEach es fr.env)=(false,x)::l)
 (hs:(backTo pos (starEach es fr.env)).any (·.1)=false) (hd:(x==("__debug__":Str))=false):To (tE C fr (.Call (.Name x p) es [] pos)) l os none os2:= .mk λas ρ σ F s Q X e=>
 ij G F0 hk hm hb (h1.go as ρ σ F s _ _ e) kI hs hd
structure wR(C:Ctx)(fr:Fm)(e:Option Expr)(l:Lo)(os:List Ob)(a:Option Int)(bN:List Ob):Prop where
 go:∀as ρ σ F,Sx l os as ρ σ F->∀(Q:Option Int->St->Prop) (X:Prop),(∀dJ σ',Vx l os bN (.v .none) as ρ F dJ σ'->Q a σ')->WP C fr e ρ σ Q X
theorem To.O3{e:Expr}{lo hi:Option Expr}{p pos:Pos}{x:Str}{a b:Option Int}(h1:To (tE C fr e) l os (some (.v (.str x))) os1)
 (h2:wR C fr lo l os1 a os2) (h3:wR C fr hi l os2 b kE)
 (hsz:x.length<=sizeLine) (ht:∀o r,letTemporaryGo e o r=Pure.pure ()):To (tE C fr (.Subscript e (.Slice lo hi none p) pos)) l os (some (.v (.str (Txt.slice x a b)))) kE:= .mk λas ρ σ F s Q X q=>
 Fb (h1.go as ρ σ F s _ _ λcK cZ v1=>h2.go cK ρ cZ F v1.s _ _ λiC hH v2=>h3.go iC ρ hH F v2.s _ _ λuZ CF v3=>
  ⟨x,rfl,hsz,q uZ CF ⟨(v1.trans (v2.trans v3)).a,v3.s,trivial,(v1.trans (v2.trans v3)).n⟩⟩) ht
theorem wR.none:wR C fr none l os none os:= .mk λas ρ σ F s Q X q=>J4 (q as σ (s.back rfl))
theorem wR.some{e:Expr}{i:Int}(h:To (tE C fr e) l os (some (.v (.int i))) os1):wR C fr (some e) l os (some i) os1:= .mk λas ρ σ F s Q X q=>J5 (h.go as ρ σ F s _ _ λcK cZ v=>⟨i,rfl,q cK cZ ⟨v.a,v.s,trivial,v.n⟩⟩)
theorem Runs.LQ(F0:aI C fr){n:Nat}{x:Str}{e:Expr}{p p':Pos}{i:Nat}(hi:fi x fr.vn=some i)(h:To (tE C fr e) l os none os1)
 (hs:∀env,swapsWithSole [.Name x p'] e p.line env=Pure.pure false):Runs (WS C fr (.Assign [.Name x p'] e p)) n l os .exc:= .mk λas ρ σ F hn s N R J X k=>gd F0 i (ik hi) (h.go as ρ σ F s _ _ (k ρ)) (hs:=hs)
theorem Runs.Y4{n:Nat}{e:Expr}{p:Pos}(h:To (tE C fr e) l os none os1):Runs (WS C fr (.Return (some e) p)) n l os .exc:= .mk λas ρ σ F hn s N R J X k=>dC (h.go as ρ σ F s _ _ (k ρ))
theorem Runs.S9(F0:aI C fr){n:Nat}{e:Expr}{p:Pos}(h:To (tE C fr e) l os none os1)(hs:∀env,swapsWith e none p.line env=Pure.pure false):Runs (WS C fr (.Expr e p)) n l os .exc:= .mk λas ρ σ F hn s N R J X k=>qb F0 (h.go as ρ σ F s _ _ (k ρ)) hs
end
section
variable{C:Ctx}{fr:Fm}{K:Frag}{bL bM:ClassData}{l:Lo}{os os1 os2 kE os4:List Ob}{n:Nat}
theorem To.Y5(F0:aI C fr){x:Str}{p:Pos}{i k:Nat}{kvs:List (Int×Int)}(hi:fi x fr.vn=some i)(hl:l[i]?=some (some (.o k)))(hk:os[k]?=some (.dI kvs)):To (tE C fr (.Name x p)) l os (some (.v (.tabI kvs))) (os.set k .gone):= .mk λas ρ σ F s Q X e=>
 ET F0 i (ik hi) (s.l i _ hl).2 (s.get hk λ_=>rfl) (e as _ ((s.turn (o':= .gone) hk (λ_=>rfl) (λ_=>List.nil_sublist _) (λ_ _ c hc=>(aP hc).elim) λb hb=>if_neg hb).back (aW ..)))
theorem To.Y6(F0:aI C fr){x:Str}{p:Pos}{i k:Nat}{kvs:List (List Int×Int)}(hi:fi x fr.vn=some i)(hl:l[i]?=some (some (.o k)))(hk:os[k]?=some (.dT kvs)):To (tE C fr (.Name x p)) l os (some (.v (.dY kvs))) (os.set k .gone):= .mk λas ρ σ F s Q X e=>
 EU F0 i (ik hi) (s.l i _ hl).2 (s.get hk λ_=>rfl) (e as _ ((s.turn (o':= .gone) hk (λ_=>rfl) (λ_=>List.nil_sublist _) (λ_ _ c hc=>(aP hc).elim) λb hb=>if_neg hb).back (aW ..)))
theorem Runs.raise(P:PO C K bL bM)(F0:aI C fr){np tF pos:Pos}{es:List Expr}{c:EV}(hk:fr.env.kindOf "LinkFault"=some .globalImplicit)(hl:1<fr.lvl)(h:sZ C fr tF es l os (some [c]) os1)
 (hp:∀env,(backTo tF (starEach es env)).any (·.1)=false) (kI:es=[]\/∃x l,backTo tF (starEach es fr.env)=(false,x)::l):Runs (WS C fr (.Raise (some (.Call (.Name "LinkFault" np) es [] tF)) none pos)) n l os .exc:= .mk λas ρ σ F hn s N R J X k=>
 GU (PO.G P) F0 (PO.lU P) (PO.exc P) (lv:=0) hk (PO.pf P) hl rfl (N8 P) (h.go as ρ σ F s _ _ λcK cZ v=>⟨⟨_,rfl⟩,k ρ⟩) hp kI
theorem Runs.aug(F0:aI C fr){x:Str}{e:Expr}{op:Operator}{p p':Pos}{i:Nat}{c b r:EV}(hi:fi x fr.vn=some i)(hl:l[i]?=some (some c))(h:To (tE C fr e) l os (some b) os1)(h2:To (t2 C fr (inplaceOp op) c b) l os1 (some r) os2):
 Runs (WS C fr (.AugAssign (.Name x p') op e p)) n l os (.norm (l.set i (some r)) os2):= .mk λas ρ σ F hn s N R J X k=>
 yW F0 i (ik hi) (s.l i _ hl).2 (h.go as ρ σ F s _ _ λcK cZ v=>by
  have:=h2.go cK ρ cZ F v.s (λr bO=>N (ρ.set i (some r)) bO) (X ρ) λiC hH w=>k iC _ hH ⟨(v.a.trans v.n w.a).less hn,w.s.put i w.ok,aa hn (aa v.n w.n)⟩
  unfold t2 at this;rwa[((s.l i _ hl).1.step v.a v.n).2]at this)
structure mh(C:Ctx)(fr:Fm)(o i v:EV)(l:Lo)(os bN:List Ob):Prop where
 go:∀as ρ σ F,Sx l os as ρ σ F->∀(N:b9->St->Prop) (X:b9->Prop),(∀σ',Sx l bN as ρ σ' F->N ρ σ')->Nd C fr setItem (o.at as) (i.at as) (v.at as) ρ σ N X
theorem Runs.Y7{o i e:Expr}{p p':Pos}{a b c:EV}(h1:To (tE C fr e) l os (some c) os1)(h2:To (tE C fr o) l os1 (some a) os2)(h3:To (tE C fr i) l os2 (some b) kE)(h4:mh C fr a b c l kE os4)(HC:kE.length<=os4.length)
 (hs:∀env,swapsWith e (some (.Subscript o i p')) p.line env=Pure.pure false):Runs (WS C fr (.Assign [.Subscript o i p'] e p)) n l os (.norm l os4):= .mk λas ρ σ F hn s N R J X k=>
 eg (h1.go as ρ σ F s _ _ λcK cZ v1=>h2.go cK ρ cZ F v1.s _ _ λiC hH v2=>h3.go iC ρ hH F v2.s _ _ λuZ CF v3=>by
  have:=h4.go uZ ρ CF F v3.s N X λRN s4=>k uZ ρ RN ⟨(v1.trans (v2.trans v3)).a.less hn,s4,aa hn (aa (v1.trans (v2.trans v3)).n HC)⟩
  rwa[EV.pT v3.a v2.ok,EV.pT (v2.trans v3).a v1.ok]at this) hs
theorem mh.list{k:Nat}{xs:List PV}{i:Int}{v:PV}(hk:os[k]?=some (.list xs))(h0:0<=i)(h1:i<2^63)(hn:i<xs.length):mh C fr (.o k) (.v (.int i)) (.v v) l os (os.set k (.list (xs.set i.toNat v))):= .mk λas ρ σ F s N X q=>
 tC (s.get hk λ_=>rfl) h0 h1 hn (q _ (s.upd hk (λ_=>rfl) (λ_=>rfl) λ_=>rfl))
theorem mh.dT(F0:aI C fr){k:Nat}{kvs:List (List Int×Int)}{ks:List Int}{v:Int}(hk:os[k]?=some (.dT kvs))(hsz:kvs.length<=sizeLine):mh C fr (.o k) (.v (lJ ks)) (.v (.int v)) l os (os.set k (.dT (hK kvs ks v))):= .mk λas ρ σ F s N X q=>
 An F0 (s.get hk λ_=>rfl) hsz (q _ (s.upd hk (λ_=>rfl) (λ_=>rfl) λ_=>rfl))
theorem mh.dI{k:Nat}{kvs:List (Int×Int)}{a:Int}{v:Int}(hk:os[k]?=some (.dI kvs))(hsz:kvs.length<=sizeLine):mh C fr (.o k) (.v (.int a)) (.v (.int v)) l os (os.set k (.dI (hK kvs a v))):= .mk λas ρ σ F s N X q=>
 GP (s.get hk λ_=>rfl) hsz (q _ (s.upd hk (λ_=>rfl) (λ_=>rfl) λ_=>rfl))
theorem Runs.LR(F0:aI C fr){x y:Str}{e:Expr}{k i j:Nat}{p p' p1 p2:Pos}{a b:PV}(hi:fi x fr.vn=some i)(hj:fi y fr.vn=some j)(h:To (tE C fr e) l os (some (.v (.tup [a,b]))) os1)
 (hs:∀env,swapsWithSole [.Tuple [.Name x p1,.Name y p2] k p'] e p.line env=Pure.pure false) (hw:∀env,swappedStores [.Tuple [.Name x p1,.Name y p2] k p'] e env=Pure.pure none):
 Runs (WS C fr (.Assign [.Tuple [.Name x p1,.Name y p2] k p'] e p)) n l os (.norm ((l.set i (some (.v a))).set j (some (.v b))) os1):= .mk λas ρ σ F hn s N R J X kk=>
 Cu F0 i j (ik hi) (ik hj) (h.go as ρ σ F s _ _ λcK cZ v=>⟨a,b,rfl,kk cK _ cZ ⟨v.a.less hn,(v.s.put i (c:= .v a) trivial).put j (c:= .v b) trivial,aa hn v.n⟩⟩) hs hw
end
noncomputable def CX(e:Expr):Bool:= !Nat.beq e.ctorIdx 22
noncomputable def fX(es:List Expr):Bool:=es.all CX
noncomputable def wS(e:Expr):Bool:=Nat.ble e.ctorIdx 7||Nat.ble 11 e.ctorIdx
noncomputable def uN(e:Expr):Bool:= !Nat.beq e.ctorIdx 7
noncomputable def wT(e:Expr):Bool:=Nat.beq e.ctorIdx 23
noncomputable def Ej(e:Expr):Bool:= !Nat.beq e.ctorIdx 26
noncomputable def HS(e:Expr):Bool:=Nat.ble 16 e.ctorIdx||Nat.beq e.ctorIdx 2
noncomputable def HT(e:Expr):Bool:=sel true e (call:=λf es _ _=>wT f&& !es.isEmpty)
noncomputable def idOf(e:Expr):Option Str:=sel none e (nm:=λx _=>some x)
noncomputable def RQ(e:Expr):Option (Expr×Str×Pos):=sel none e (att:=λo x p=>some (o,x,p))
noncomputable def RS(e:Expr):Option (Option Expr×Option Expr×Option Expr×Pos):=sel none e (slc:=λa b c p=>some (a,b,c,p))
noncomputable def RU(e:Expr):Option (Expr×Expr):=sel none e (sub:=λa i p=>some (a,i))
noncomputable def RV(e:Expr):Option (List Expr):=sel none e (tup:=λes _ _=>some es)
noncomputable def RW(e:Expr):Option (Str×List Expr×List Keyword×Pos):=sel none e (call:=λf es kw p=>(idOf f).map λx=>(x,es,kw,p))
theorem Bd{e:Expr}(h:wT e=true):∃x p,e=.Name x p:=Expr.Name.elim (motive_1:=λe=>∃x p,e=.Name x p) e (mo h) λx p=>⟨x,p,rfl⟩
theorem jh{e:Expr}{y:Str}(h:idOf e=some y):∃p,e=.Name y p:=
 have n:∀e:Expr,none=some y->∃p,e=.Name y p:=λ_ h=>(aT _ h.symm).elim
 fR (λe q=>q=some y->∃p,e=.Name y p) e n (λ_ p h=>ax h▸⟨p,rfl⟩) (λ_ _ _=>n _) (λ_ _ _ _=>n _) (λ_ _ _=>n _) (λ_ _ _=>n _) (λ_ _ _ _=>n _) (λ_ _ _ _=>n _) (λ_ _ _ _=>n _) (λ_ _ _=>n _) (λ_ _ _=>n _) (λ_ _ _=>n _) (λ_ _=>n _) (λ_ _ _ _=>n _) (λ_ _ _=>n _) (λ_ _ _ _=>n _) h
theorem Ek{e:Expr}{y:Expr×Str×Pos}(h:RQ e=some y):e=.Attribute y.1 y.2.1 y.2.2:=
 have n:∀e:Expr,none=some y->e=.Attribute y.1 y.2.1 y.2.2:=λ_ h=>(aT _ h.symm).elim
 fR (λe q=>q=some y->e=.Attribute y.1 y.2.1 y.2.2) e n (λ_ _=>n _) (λ_ _ _=>n _) (λ_ _ _ _=>n _) (λ_ _ _=>n _) (λ_ _ _=>n _) (λ_ _ _ _=>n _) (λ_ _ _ _=>n _) (λ_ _ _ _=>n _) (λ_ _ _ h=>ax h▸rfl) (λ_ _ _=>n _) (λ_ _ _=>n _) (λ_ _=>n _) (λ_ _ _ _=>n _) (λ_ _ _=>n _) (λ_ _ _ _=>n _) h
theorem KJ{e:Expr}{y:Option Expr×Option Expr×Option Expr×Pos}(h:RS e=some y):e=.Slice y.1 y.2.1 y.2.2.1 y.2.2.2:=
 have n:∀e:Expr,none=some y->e=.Slice y.1 y.2.1 y.2.2.1 y.2.2.2:=λ_ h=>(aT _ h.symm).elim
 fR (λe q=>q=some y->e=.Slice y.1 y.2.1 y.2.2.1 y.2.2.2) e n (λ_ _=>n _) (λ_ _ _=>n _) (λ_ _ _ _=>n _) (λ_ _ _=>n _) (λ_ _ _=>n _) (λ_ _ _ _=>n _) (λ_ _ _ _=>n _) (λ_ _ _ _=>n _) (λ_ _ _=>n _) (λ_ _ _=>n _) (λ_ _ _=>n _) (λ_ _=>n _) (λ_ _ _ _ h=>ax h▸rfl) (λ_ _ _=>n _) (λ_ _ _ _=>n _) h
theorem KN{e:Expr}{y:Expr×Expr}(h:RU e=some y):∃p,e=.Subscript y.1 y.2 p:=
 have n:∀e:Expr,none=some y->∃p,e=.Subscript y.1 y.2 p:=λ_ h=>(aT _ h.symm).elim
 fR (λe q=>q=some y->∃p,e=.Subscript y.1 y.2 p) e n (λ_ _=>n _) (λ_ _ _=>n _) (λ_ _ _ _=>n _) (λ_ _ _=>n _) (λ_ _ _=>n _) (λ_ _ _ _=>n _) (λ_ _ _ _=>n _) (λ_ _ _ _=>n _) (λ_ _ _=>n _) (λ_ _ p h=>ax h▸⟨p,rfl⟩) (λ_ _ _=>n _) (λ_ _=>n _) (λ_ _ _ _=>n _) (λ_ _ _=>n _) (λ_ _ _ _=>n _) h
theorem KO{e:Expr}{y:List Expr}(h:RV e=some y):∃k p,e=.Tuple y k p:=
 have n:∀e:Expr,none=some y->∃k p,e=.Tuple y k p:=λ_ h=>(aT _ h.symm).elim
 fR (λe q=>q=some y->∃k p,e=.Tuple y k p) e n (λ_ _=>n _) (λ_ _ _=>n _) (λ_ _ _ _=>n _) (λ_ _ _=>n _) (λ_ _ _=>n _) (λ_ _ _ _=>n _) (λ_ _ _ _=>n _) (λ_ _ _ _=>n _) (λ_ _ _=>n _) (λ_ _ _=>n _) (λ_ k p h=>ax h▸⟨k,p,rfl⟩) (λ_ _=>n _) (λ_ _ _ _=>n _) (λ_ _ _=>n _) (λ_ _ _ _=>n _) h
theorem KP{e:Expr}{y:Str×List Expr×List Keyword×Pos}(h:RW e=some y):∃q,e=.Call (.Name y.1 q) y.2.1 y.2.2.1 y.2.2.2:=
 have n:∀e:Expr,none=some y->∃q,e=.Call (.Name y.1 q) y.2.1 y.2.2.1 y.2.2.2:=λ_ h=>(aT _ h.symm).elim
 fR (λe q=>q=some y->∃q,e=.Call (.Name y.1 q) y.2.1 y.2.2.1 y.2.2.2) e n (λ_ _=>n _) (λ_ _ _=>n _) (λ_ _ _ _=>n _) (λ_ _ _=>n _) (λ_ _ _=>n _) (λ_ _ _ _=>n _) (λ_ _ _ _=>n _) (λf es kw p h=>(aA.mp h).elim λx h=>(jh h.1).elim λq e=>h.2▸⟨q,e▸rfl⟩) (λ_ _ _=>n _) (λ_ _ _=>n _) (λ_ _ _=>n _) (λ_ _=>n _) (λ_ _ _ _=>n _) (λ_ _ _=>n _) (λ_ _ _ _=>n _) h
theorem El{e:Expr}(h:CX e=true)(es:List Expr)(env:Env):starEach (e::es) env=(false,eval e env)::starEach es env:=by cases e<;>first|rfl|cases h
theorem fY{e:Expr}{es:List Expr}(h:fX (e::es)=true):CX e=true/\fX es=true:=an.mp h
theorem fZ{es:List Expr}(h:fX es=true)(pos:Pos)(env:Env):es=[]\/∃x l,backTo pos (starEach es env)=(false,x)::l:=by
 cases es with
 |nil=>exact .inl rfl
 |cons e es=>exact .inr ⟨_,_,by rw[El (fY h).1];rfl⟩
theorem s6{es:List Expr}(h:fX es=true)(pos:Pos)(env:Env):(backTo pos (starEach es env)).any (·.1)=false:=by
 induction es with
 |nil=>rfl
 |cons e es ih=>rw[El (fY h).1];exact ih (fY h).2
theorem HU{es:List Expr}(h:fX es=true)(pos:Pos)(env:Env):(backTo pos (starEach es env)).all (λx=> !x.1)=true:=by
 induction es with
 |nil=>rfl
 |cons e es ih=>rw[El (fY h).1];exact ih (fY h).2
theorem wW{es:List Expr}(h:fX es=true)(hl:Nat.blt es.length 30=true)(pos:Pos)(env:Env):((backTo pos (starEach es env)).all (λx=> !x.1)&&(backToKw pos (keywordEach [] env)).all (λx=>x.1.isSome)
 &&decide (es.length+([]:List Keyword).length+(if([]:List Keyword).isEmpty then 0 else 1)<30))=true:=by
 rw[HU h];exact decide_eq_true (jf.mp hl)
theorem wY{e:Expr}(h:wS e=true)(t:Option Expr)(n:Nat)(env:Env):swapsWith e t n env=Pure.pure false:=by cases e<;>first|rfl|cases h
theorem KQ{e:Expr}(h:uN e=true)(env:Env)(v:Value):foldedSetIterable e env v=Pure.pure v:=by cases e<;>first|rfl|cases h
theorem RX{e:Expr}(h:HS e=true)(env:Env)(z4:Sem Value):isTrue e env z4=(do let v<-z4;standAt e.pos;holding [v] (truthy v)):=by cases e<;>first|rfl|cases h
theorem HV{e:Expr}(h:HT e=true)(name:Str)(env:Env):attributeBase e name env (eval e env)=eval e env:=by
 cases e<;>first|rfl|skip
 rename_i f es kw p
 have h:=an.mp h
 obtain⟨x,q,rfl⟩:=Bd h.1
 cases es with
 |nil=>cases h.2
 |cons _ _=>rfl
theorem Fh{e:Expr}(h:Ej e=true)(o i:Value):subscripted e false o i=operate [o,i] (getItem o i):=by cases e<;>first|rfl|cases h
theorem Od{e:Expr}(h:wT e=true)(o r:Value):letTemporaryGo e o r=Pure.pure ():=by obtain⟨_,_,rfl⟩:=Bd h;rfl
inductive zB where
 |b (x:Bool)
 |c (bx:Option EV) (os:List Ob)
 |o (bx:ql)
 |x (bx:Option EV) (os:List Ob)
 |u (bx:Option EV)
noncomputable abbrev Pa:=List zB
noncomputable abbrev KE:=Option EV->List Ob->Pa->Prop
noncomputable section
noncomputable def oB(p:Pa)(k:Bool->Pa->Prop):Prop:=List.rec True (λh t _=>zB.rec (λb=>k b t) (λ_ _=>True) (λ_=>True) (λ_ _=>True) (λ_=>True) h) p
noncomputable def oC(p:Pa)(os:List Ob)(k:Option EV->List Ob->Pa->Prop):Prop:=List.rec True (λh t _=>zB.rec (λ_=>True) (λbx os=>k bx os t) (λ_=>True) (λ_ _=>True) (λbx=>k bx os t) h) p
noncomputable def oO(p:Pa)(k:ql->Pa->Prop):Prop:=List.rec True (λh t _=>zB.rec (λ_=>True) (λ_ _=>True) (λbx=>k bx t) (λ_ _=>True) (λ_=>True) h) p
noncomputable def oX(p:Pa)(k:Option EV->List Ob->Pa->Prop)(iU:Prop):Prop:=List.rec iU (λh t _=>zB.rec (λ_=>iU) (λ_ _=>iU) (λ_=>iU) (λbx os=>k bx os t) (λ_=>iU) h) p
noncomputable def PV.sel{α:Type}(d:α)(p:PV)(bl:Bool->α:=λ_=>d)(it:Int->α:=λ_=>d)(st:Str->α:=λ_=>d)(tp:List PV->α:=λ_=>d):α:=PV.casesOn (motive_1:=λ_=>α) p d bl it st tp (λ_=>d) (λ_=>d) (λ_ _ _=>d) (λ_=>d) (λ_=>d)
noncomputable def Mu(p:PV):Option Int:=p.sel none (it:=some)
noncomputable def TJ(p:PV):Option Str:=p.sel none (st:=some)
noncomputable def Z6(p:PV):Option Bool:=p.sel none (bl:=some)
noncomputable def Z7(p:PV):Option (List PV):=p.sel none (tp:=some)
noncomputable def EV.p?(a:EV):Option PV:=EV.rec some (λ_=>none) (λ_=>none) (λ_ _=>none) (λ_ _ _=>none) a
noncomputable def EV.k?(a:EV):Option Nat:=EV.rec (λ_=>none) some (λ_=>none) (λ_ _=>none) (λ_ _ _=>none) a
noncomputable def EV.t?(a:EV):Option (List Nat):=EV.rec (λ_=>none) (λ_=>none) some (λ_ _=>none) (λ_ _ _=>none) a
noncomputable def wO{α:Type}(o:Option α)(k:α->Prop):Prop:=Option.rec True k o
noncomputable def gO{α:Type}(o:Option α)(iU:Prop)(k:α->Prop):Prop:=Option.rec iU k o
end
theorem HW{p:Pa}{k:Bool->Pa->Prop}(h:∀b t,k b t):oB p k:=
 List.casesOn p trivial λa t=>zB.casesOn a (λ_=>h _ _) (λ_ _=>trivial) (λ_=>trivial) (λ_ _=>trivial) (λ_=>trivial)
theorem s7{p:Pa}{os:List Ob}{k:Option EV->List Ob->Pa->Prop}(h:∀bx os t,k bx os t):oC p os k:=
 List.casesOn p trivial λa t=>zB.casesOn a (λ_=>trivial) (λ_ _=>h _ _ _) (λ_=>trivial) (λ_ _=>trivial) (λ_=>h _ _ _)
theorem Mv{p:Pa}{k:ql->Pa->Prop}(h:∀bx t,k bx t):oO p k:=
 List.casesOn p trivial λa t=>zB.casesOn a (λ_=>trivial) (λ_ _=>trivial) (λ_=>h _ _) (λ_ _=>trivial) (λ_=>trivial)
theorem Mw{p:Pa}{k:Option EV->List Ob->Pa->Prop}{iU:Prop}(h:∀bx os t,k bx os t)(h0:iU):oX p k iU:=
 List.casesOn p h0 λa t=>zB.casesOn a (λ_=>h0) (λ_ _=>h0) (λ_=>h0) (λ_ _=>h _ _ _) (λ_=>h0)
theorem dN{α:Type}{o:Option α}{k:α->Prop}(h:∀x,o=some x->k x):wO o k:=by
 cases o with
 |none=>trivial
 |some x=>exact h x rfl
theorem nv{α:Type}{o:Option α}{r:Prop}{k:α->Prop}(h0:r)(h:∀x,o=some x->k x):gO o r k:=by
 cases o with
 |none=>exact h0
 |some x=>exact h x rfl
theorem PV.fR{α:Type}{d:α}{bl it st tp}(P:PV->α->Prop)(p:PV)(hd:∀p,P p d)(h1:∀x,P (.bool x) (bl x))(h2:∀x,P (.int x) (it x))(h3:∀x,P (.str x) (st x))(h4:∀x,P (.tup x) (tp x)):P p (p.sel d bl it st tp):=
 PV.casesOn (motive_1:=λp=>P p (p.sel d bl it st tp)) p (hd _) h1 h2 h3 h4 (λ_=>hd _) (λ_=>hd _) (λ_ _ _=>hd _) (λ_=>hd _) (λ_=>hd _)
section
variable{β:Type}{i:β}{g:β->PV}
theorem jB(p:PV)(h:none=some i):p=g i:=nomatch h
theorem Em(x:β)(h:some x=some i):g x=g i:=congrArg g (ax h)
end
theorem Oe{p:PV}{i:Int}:Mu p=some i->p=.int i:=PV.fR (λp q=>q=some i->p=.int i) p jB (λ_=>jB _) Em (λ_=>jB _) (λ_=>jB _)
theorem Of{p:PV}{i:Str}:TJ p=some i->p=.str i:=PV.fR (λp q=>q=some i->p=.str i) p jB (λ_=>jB _) (λ_=>jB _) Em (λ_=>jB _)
theorem Og{p:PV}{i:Bool}:Z6 p=some i->p=.bool i:=PV.fR (λp q=>q=some i->p=.bool i) p jB Em (λ_=>jB _) (λ_=>jB _) (λ_=>jB _)
theorem Oh{p:PV}{i:List PV}:Z7 p=some i->p=.tup i:=PV.fR (λp q=>q=some i->p=.tup i) p jB (λ_=>jB _) (λ_=>jB _) (λ_=>jB _) Em
section
variable{β:Type}{i:β}{g:β->EV}
theorem ny{p:EV}(h:none=some i):p=g i:=nomatch h
theorem HX(x:β)(h:some x=some i):g x=g i:=congrArg g (ax h)
end
theorem EV.Jf{a:EV}{p:PV}:a.p?=some p->a=.v p:=EV.casesOn (motive:=λa=>a.p?=some p->a=.v p) a (HX (g:= .v)) (λ_=>ny) (λ_=>ny) (λ_ _=>ny) (λ_ _ _=>ny)
theorem EV.Ta{a:EV}{k:Nat}:a.k?=some k->a=.o k:=EV.casesOn (motive:=λa=>a.k?=some k->a=.o k) a (λ_=>ny) (HX (g:= .o)) (λ_=>ny) (λ_ _=>ny) (λ_ _ _=>ny)
theorem EV.Y8{a:EV}{k:List Nat}:a.t?=some k->a=.t k:=EV.casesOn (motive:=λa=>a.t?=some k->a=.t k) a (λ_=>ny) (λ_=>ny) (HX (g:= .t)) (λ_ _=>ny) (λ_ _ _=>ny)
noncomputable def KR(a b:EV):Option (Int×Int):=(a.p?.bind Mu).bind λx=>(b.p?.bind Mu).map λy=>(x,y)
noncomputable def RY(a b:EV):Option (Str×Str):=(a.p?.bind TJ).bind λx=>(b.p?.bind TJ).map λy=>(x,y)
noncomputable def BS(a:EV):Option Bool:=a.p?.bind Z6
theorem En{α:Type}{o o':Option α}{x:α×α}(h:(o.bind λx=>o'.map λy=>(x,y))=some x):o=some x.1/\o'=some x.2:=
 (ao.mp h).elim λu h=>(aA.mp h.2).elim λv e=>e.2▸⟨h.1,e.1⟩
theorem CY{a:EV}{x:Int}(h:a.p?.bind Mu=some x):a=.v (.int x):=by
 obtain⟨p,h1,h2⟩:=ao.mp h
 rw[EV.Jf h1,Oe h2]
theorem HY{a:EV}{x:Str}(h:a.p?.bind TJ=some x):a=.v (.str x):=by
 obtain⟨p,h1,h2⟩:=ao.mp h
 rw[EV.Jf h1,Of h2]
theorem Oi{a:EV}{x:Bool}(h:BS a=some x):a=.v (.bool x):=by
 obtain⟨p,h1,h2⟩:=ao.mp h
 rw[EV.Jf h1,Og h2]
theorem qm{a b:EV}{x:Int×Int}(h:KR a b=some x):a=.v (.int x.1)/\b=.v (.int x.2):=⟨CY (En h).1,CY (En h).2⟩
theorem Eo{a b:EV}{x:Str×Str}(h:RY a b=some x):a=.v (.str x.1)/\b=.v (.str x.2):=⟨HY (En h).1,HY (En h).2⟩
theorem wZ{r:Option EV}{x:Bool}(h:r.bind BS=some x):r=some (.v (.bool x)):=by
 obtain⟨a,rfl,h2⟩:=ao.mp h
 rw[Oi h2]
theorem HZ{r:Option EV}{x:Int}(h:(r.bind λa=>a.p?.bind Mu)=some x):r=some (.v (.int x)):=by
 obtain⟨a,rfl,h2⟩:=ao.mp h
 rw[CY h2]
noncomputable section
noncomputable def intOp(op:Operator):Option (Int->Int->Int):=Operator.casesOn op (some (·+·)) (some (·-·)) none none none none none none none none none none none
noncomputable def CZ(op:CmpOp):Option (Int->Int->Bool):=CmpOp.casesOn op (some λa b=>decide (a=b)) (some λa b=> !decide (a=b)) (some λa b=>decide (a<b)) (some λa b=>decide (a<=b)) (some λa b=>decide (b<a)) (some λa b=>decide (b<=a)) none none none none
noncomputable def C0(op:CmpOp):Option (Str->Str->Bool):=CmpOp.casesOn op (some λa b=>decide (a=b)) (some λa b=> !decide (a=b)) none (some λa b=> !decide (b.cps.toList<a.cps.toList)) none none none none none none
end
section
variable{C:Ctx}{fr:Fm}{l:Lo}{os:List Ob}
theorem pF{α β:Type}{g0 g:α->α->β}(P:(α->α->β)->Prop)(h:P g)(e:some g=some g0):P g0:=ax e▸h
theorem Be{op:Operator}{f:Int->Int->Int}:intOp op=some f->∀x y:Int,To (t2 C fr (binaryOp op) (.v (.int x)) (.v (.int y))) l os (some (.v (.int (f x y)))) os:=
 let P:=λop (f:Int->Int->Int)=>∀x y:Int,To (t2 C fr (binaryOp op) (.v (.int x)) (.v (.int y))) l os (some (.v (.int (f x y)))) os
 have n:∀op,none=some f->P op f:=λ_ h=>(aT _ h.symm).elim
 Operator.casesOn (motive:=λop=>intOp op=some f->P op f) op (pF (P _) λ_ _=>To.pure λ_ _ _ _ _ q=>GA q) (pF (P _) λ_ _=>To.pure λ_ _ _ _ _ q=>No q) (n _) (n _) (n _) (n _) (n _) (n _) (n _) (n _) (n _) (n _) (n _)
theorem FG{op:CmpOp}{f:Int->Int->Bool}:CZ op=some f->∀x y:Int,To (t2 C fr (compareOp op) (.v (.int x)) (.v (.int y))) l os (some (.v (.bool (f x y)))) os:=
 let P:=λop (f:Int->Int->Bool)=>∀x y:Int,To (t2 C fr (compareOp op) (.v (.int x)) (.v (.int y))) l os (some (.v (.bool (f x y)))) os
 have n:∀op,none=some f->P op f:=λ_ h=>(aT _ h.symm).elim
 CmpOp.casesOn (motive:=λop=>CZ op=some f->P op f) op (pF (P _) λ_ _=>To.pure λ_ _ _ _ _ q=>PU q) (pF (P _) λ_ _=>To.pure λ_ _ _ _ _ q=>PW q) (pF (P _) λ_ _=>To.pure λ_ _ _ _ _ q=>DE q) (pF (P _) λ_ _=>To.pure λ_ _ _ _ _ q=>PX q)
  (pF (P _) λ_ _=>To.pure λ_ _ _ _ _ q=>PY q) (pF (P _) λ_ _=>To.pure λ_ _ _ _ _ q=>Ah q) (n _) (n _) (n _) (n _)
theorem FH{op:CmpOp}{f:Str->Str->Bool}:C0 op=some f->∀x y:Str,To (t2 C fr (compareOp op) (.v (.str x)) (.v (.str y))) l os (some (.v (.bool (f x y)))) os:=
 let P:=λop (f:Str->Str->Bool)=>∀x y:Str,To (t2 C fr (compareOp op) (.v (.str x)) (.v (.str y))) l os (some (.v (.bool (f x y)))) os
 have n:∀op,none=some f->P op f:=λ_ h=>(aT _ h.symm).elim
 CmpOp.casesOn (motive:=λop=>C0 op=some f->P op f) op (pF (P _) λ_ _=>To.pure λ_ _ _ _ _ q=>Nq q) (pF (P _) λ_ _=>To.pure λ_ _ _ _ _ q=>Nr q) (n _) (pF (P _) λ_ _=>To.pure λ_ _ _ _ _ q=>Nt q) (n _) (n _) (n _) (n _) (n _) (n _)
end
section
variable(C:Ctx)(fr:Fm)
noncomputable def zC(x:Str)(c:EV)(l:Lo)(os:List Ob):Prop:=∀p,To (tE C fr (.Name x p)) l os (some c) os
noncomputable def eE(x:Str)(cs:List EV)(l:Lo)(os:List Ob)(bx:Option EV)(bN:List Ob):Prop:=
 ∀pos p es tZ,fX es=true->sZ C fr pos es l tZ (some cs) os->To (tE C fr (.Call (.Name x p) es [] pos)) l tZ bx bN
noncomputable def Mx(x:Str):Prop:=∀pos p es l tZ os1 bN,fX es=true->sZ C fr pos es l tZ none os1->To (tE C fr (.Call (.Name x p) es [] pos)) l tZ none bN
noncomputable def vl(o:Expr)(ap pos:Pos)(es:List Expr):Bool:=fX es&&(Nat.blt es.length 30&&(HT o&&(ap.endLine==pos.line)))
noncomputable def fJ(name:Str)(a:EV)(os1:List Ob)(cs:List EV)(l:Lo)(os:List Ob)(bx:Option EV)(bN:List Ob):Prop:=
 ∀o ap pos es tZ,vl o ap pos es=true->To (tE C fr o) l tZ (some a) os1->sZ C fr pos es l os1 (some cs) os->To (tE C fr (.Call (.Attribute o name ap) es [] pos)) l tZ bx bN
noncomputable def Bf(name:Str)(a:EV)(os1:List Ob):Prop:=
 ∀o ap pos es l tZ os2 bN,vl o ap pos es=true->To (tE C fr o) l tZ (some a) os1->sZ C fr pos es l os1 none os2->To (tE C fr (.Call (.Attribute o name ap) es [] pos)) l tZ none bN
noncomputable def mQ(a b:EV)(l:Lo)(os:List Ob)(bx:Option EV)(bN:List Ob):Prop:=(∃T,a.ty bN=some T/\(T="list"\/T="dict"\/T="str"\/T="tuple"))/\bN=os/\To (t2 C fr getItem a b) l os bx os
noncomputable def s8(a:EV)(lo hi:Option Int)(l:Lo)(os:List Ob)(bx:Option EV)(bN:List Ob):Prop:=
 ∀e TK Oc p pos tZ os1 os2,wT e=true->To (tE C fr e) l tZ (some a) os1->wR C fr TK l os1 lo os2->wR C fr Oc l os2 hi os->To (tE C fr (.Subscript e (.Slice TK Oc none p) pos)) l tZ bx bN
end
noncomputable section
noncomputable def zV(b:Bool)(k:Prop):Prop:=Bool.rec True k b
noncomputable abbrev u0:=Bool->Expr->List Ob->Pa->KE->Prop
noncomputable abbrev KL:=Option (List EV)->List Ob->Pa->Prop
noncomputable def gL(rec:u0)(es:List Expr):List Ob->Pa->KL->Prop:=
 List.rec (λos p K=>K (some []) os p) (λe _ ih os p K=>rec false e os p λr os p=>Option.rec (K none os p) (λa=>ih os p λrs os p=>K (rs.map (a::·)) os p) r) es
noncomputable def Yh(rec:u0)(e:Option Expr)(os:List Ob)(p:Pa)(K:Option Int->List Ob->Pa->Prop):Prop:=
 Option.rec (K none os p) (λe=>rec false e os p λr os p=>wO (r.bind λa=>a.p?.bind Mu) λi=>K (some i) os p) e
noncomputable def xI(op:BoolOp)(b:Bool):Bool:=match op with
 |.And=>b
 |.Or=> !b
noncomputable def H0(op:BoolOp):Bool:=match op with
 |.And=>true
 |.Or=>false
noncomputable def Yi(rec:u0)(op:BoolOp)(es:List Expr):List Ob->Pa->KE->Prop:=
 List.rec (λ_ _ _=>True) (λe es ih os p K=>rec false e os p λr os p=>List.rec (K r os p) (λ_ _ _=>wO (r.bind BS) λx=>oB p λb p=>x=b->Bool.rec (K (some (.v (.bool b))) os p) (ih os p K) (xI op b)) es) es
noncomputable def Yj(rec:u0)(op:BoolOp)(es:List Expr):List Ob->Pa->KE->Prop:=
 List.rec (λos p K=>K (some (.v (.bool (H0 op)))) os p) (λe es ih os p K=>rec true e os p λr os p=>wO (r.bind BS) λx=>oB p λb p=>x=b->Bool.rec (K (some (.v (.bool b))) os p) (ih os p K) (xI op b)) es
noncomputable def Bg(cs:List EV):Option (List PV):=List.rec (some []) (λa _ ih=>a.p?.bind λv=>ih.map (v::·)) cs
noncomputable def C1(cs:List EV):Option (List Nat):=List.rec (some []) (λa _ ih=>a.k?.bind λv=>ih.map (v::·)) cs
noncomputable def My(cs:List EV):Option EV:=Option.rec ((C1 cs).map .t) (λvs=>some (.v (.tup vs))) (Bg cs)
end
theorem gm{b:Bool}{k:Prop}:(b=true->k)->zV b k:=Bool.casesOn b (λ_=>trivial) λh=>h rfl
theorem H3{α β γ:Type}{o:Option α}{o':Option β}{g:α->β->γ}{x:γ}(h:(o.bind λx=>o'.map (g x))=some x):∃u v,o=some u/\o'=some v/\g u v=x:=
 (ao.mp h).elim λu h=>(aA.mp h.2).elim λv e=>⟨u,v,h.1,e⟩
theorem Bh(as:Nat->Addr){cs:List EV}:∀{vs:List PV},Bg cs=some vs->cs.map (·.at as)=vs:=by
 induction cs with
 |nil=>exact ax
 |cons a cs ih=>exactλh=>(H3 h).elim λv h=>h.elim λws h=>h.2.2▸EV.Jf h.1▸congrArg (v::·) (ih h.2.1)
theorem KU(as:Nat->Addr){cs:List EV}:∀{ks:List Nat},C1 cs=some ks->cs=ks.map .o:=by
 induction cs with
 |nil=>exactλh=>ax h▸rfl
 |cons a cs ih=>exactλh=>(H3 h).elim λv h=>h.elim λws h=>h.2.2▸EV.Ta h.1▸congrArg (EV.o v::·) (ih h.2.1)
theorem H4{cs:List EV}{c:EV}(h:My cs=some c):(∀as,PV.tup (cs.map (·.at as))=c.at as)/\∀n,(∀x∈cs,EV.Ok n x)->c.Ok n:=by
 change Option.rec ((C1 cs).map EV.t) (λvs=>some (EV.v (.tup vs))) (Bg cs)=some c at h
 cases q:Bg cs with
 |some vs=>rw[q]at h;cases h;exact⟨λas=>congrArg PV.tup (Bh as q),λ_ _=>trivial⟩
 |none=>
  rw[q]at h
  obtain⟨ks,h1,h2⟩:=aA.mp h
  cases h2
  have e:=KU (λ_=>0) h1
  subst e
  exact⟨λas=>by rw[b3];rfl,λn hx k hk=>hx _ (List.mem_map_of_mem hk)⟩
section
variable{C:Ctx}{fr:Fm}{l:Lo}
noncomputable abbrev tX(C:Ctx)(fr:Fm)(t:Bool)(e:Expr):Tr:=bif t then tT C fr e else tE C fr e
noncomputable abbrev hJ(C:Ctx)(fr:Fm)(l:Lo)(rec:u0):Prop:=∀t e os p (K:KE),(∀bx bN p',To (tX C fr t e) l os bx bN->K bx bN p')->rec t e os p K
section
variable{rec:u0}{os:List Ob}{p:Pa}{e:Expr}
theorem hJ.v(R:hJ C fr l rec){K:EV->List Ob->Pa->Prop}(h:∀a bN p',To (tE C fr e) l os (some a) bN->K a bN p'):rec false e os p λr os p=>wO r λa=>K a os p:=
 R false e os p _ λr os1 p1=>Option.casesOn (motive:=λr=>To (tE C fr e) l os r os1->wO r λa=>K a os1 p1) r (λ_=>trivial) λa=>h a os1 p1
theorem hJ.b(R:hJ C fr l rec){t:Bool}{K:Bool->List Ob->Pa->Prop}(h:∀x bN p',To (tX C fr t e) l os (some (.v (.bool x))) bN->K x bN p'):rec t e os p λr os p=>wO (r.bind BS) λx=>K x os p:=
 R t e os p _ λr os1 p1 h1=>dN λx hx=>h x os1 p1 (wZ hx▸h1)
theorem hJ.t(R:hJ C fr l rec){t:Bool}{K:Bool->List Ob->Pa->Prop}(h:∀x bN p',To (tX C fr t e) l os (some (.v (.bool x))) bN->K x bN p'):rec t e os p λr os p=>wO (r.bind BS) λx=>oB p λb p=>x=b->K b os p:=
 R.b λx os1 p1 h1=>HW λb p2 e=>e▸h x os1 p2 h1
theorem hJ.i(R:hJ C fr l rec){K:Int->List Ob->Pa->Prop}(h:∀x bN p',To (tE C fr e) l os (some (.v (.int x))) bN->K x bN p'):rec false e os p λr os p=>wO (r.bind λa=>a.p?.bind Mu) λx=>K x os p:=
 R false e os p _ λr os1 p1 h1=>dN λx hx=>h x os1 p1 (HZ hx▸h1)
theorem hJ.o(R:hJ C fr l rec){K:KE}(h0:∀bN p',To (tE C fr e) l os none bN->K none bN p')(h:∀a bN p',To (tE C fr e) l os (some a) bN->K (some a) bN p'):rec false e os p K:=
 R false e os p _ λr os1 p1=>Option.casesOn (motive:=λr=>To (tE C fr e) l os r os1->K r os1 p1) r (h0 os1 p1) λa=>h a os1 p1
end
theorem Bi{rec:u0}(R:hJ C fr l rec)(pos:Pos){es:List Expr}:fX es=true->∀{os:List Ob} {p:Pa} {K:KL},(∀bx bN p',sZ C fr pos es l os bx bN->K bx bN p')->gL rec es os p K:=by
 induction es with
 |nil=>exactλ_ _ _ _ h=>h _ _ _ sZ.nil
 |cons e es ih=>
  exactλhs os p K h=>have s:=El (fY hs).1 es
   R.o (λos1 p1 h1=>h none os1 p1 (sZ.x1 h1 s)) λa os1 p1 h1=>ih (fY hs).2 λrs os2 p2=>
    Option.casesOn (motive:=λrs=>sZ C fr pos es l os1 rs os2->K (rs.map (a::·)) os2 p2) rs (λh2=>h none os2 p2 (sZ.x2 h1 h2 s)) λcs h2=>h _ os2 p2 (sZ.cons h1 h2 s)
theorem H5{rec:u0}(R:hJ C fr l rec){e:Option Expr}{os:List Ob}{p:Pa}{K:Option Int->List Ob->Pa->Prop}:(∀i bN p',wR C fr e l os i bN->K i bN p')->Yh rec e os p K:=
 Option.casesOn e (λh=>h none os p wR.none) λe h=>R.i λi os1 p1 h1=>h _ os1 p1 (wR.some h1)
noncomputable abbrev KV(C:Ctx)(fr:Fm)(pos:Pos)(op:BoolOp)(es:List Expr):=To λ_ ρ σ Q X=>Ng C fr pos op es ρ σ Q X
noncomputable abbrev KW(C:Ctx)(fr:Fm)(op:BoolOp)(es:List Expr):=To λ_ ρ σ Q X=>JF C fr op es ρ σ (λb=>Q (.bool b)) X
theorem RZ{os os1 os2:List Ob}{bx:Option EV}{pos:Pos}{op:BoolOp}{e e':Expr}{es:List Expr}{b:Bool}(h1:To (tE C fr e) l os (some (.v (.bool b))) os1)(hb:xI op b=true)(h2:KV C fr pos op (e'::es) l os1 bx os2):KV C fr pos op (e::e'::es) l os bx os2:= .mk λas ρ σ F s Q X q=>by
 have h:∀Q':PV->St->Prop,(∀cK cZ,Vx l os os1 (.v (.bool b)) as ρ F cK cZ->Q' (.bool b) cZ)->WE C fr e ρ σ Q' X:=λQ' hq=>h1.go as ρ σ F s Q' X hq
 cases op with
 |And=>exact Dz (h _ λcK cZ v=>eS ⟨λ_=>h2.go cK ρ cZ F v.s Q X (q.after v),λe=>(by rw[e]at hb;cases hb)⟩)
 |Or=>exact Gm (h _ λcK cZ v=>eS ⟨λe=>(by rw[e]at hb;cases hb),λ_=>h2.go cK ρ cZ F v.s Q X (q.after v)⟩)
theorem Oj{os os1:List Ob}{pos:Pos}{op:BoolOp}{e e':Expr}{es:List Expr}{b:Bool}(h1:To (tE C fr e) l os (some (.v (.bool b))) os1)(hb:xI op b=false):KV C fr pos op (e::e'::es) l os (some (.v (.bool b))) os1:= .mk λas ρ σ F s Q X q=>by
 have h:∀Q':PV->St->Prop,(∀cK cZ,Vx l os os1 (.v (.bool b)) as ρ F cK cZ->Q' (.bool b) cZ)->WE C fr e ρ σ Q' X:=λQ' hq=>h1.go as ρ σ F s Q' X hq
 cases op with
 |And=>exact Dz (h _ λcK cZ v=>eS ⟨λe=>(by rw[e]at hb;cases hb),λ_=>q cK cZ v⟩)
 |Or=>exact Gm (h _ λcK cZ v=>eS ⟨λ_=>q cK cZ v,λe=>(by rw[e]at hb;cases hb)⟩)
theorem R0{os os1 os2:List Ob}{bx:Option EV}{op:BoolOp}{e:Expr}{es:List Expr}{b:Bool}(h1:To (tT C fr e) l os (some (.v (.bool b))) os1)(hb:xI op b=true)(h2:KW C fr op es l os1 bx os2):KW C fr op (e::es) l os bx os2:= .mk λas ρ σ F s Q X q=>by
 have h:∀Q':Bool->St->Prop,(∀cK cZ,Vx l os os1 (.v (.bool b)) as ρ F cK cZ->Q' b cZ)->WT C fr e ρ σ Q' X:=λQ' hq=>h1.go as ρ σ F s (bQ Q') X hq
 cases op with
 |And=>exact Dy (h _ λcK cZ v=>⟨λ_=>h2.go cK ρ cZ F v.s Q X (q.after v),λe=>(by rw[e]at hb;cases hb)⟩)
 |Or=>exact Gj (h _ λcK cZ v=>⟨λe=>(by rw[e]at hb;cases hb),λ_=>h2.go cK ρ cZ F v.s Q X (q.after v)⟩)
theorem Ol{os os1:List Ob}{op:BoolOp}{e:Expr}{es:List Expr}{b:Bool}(h1:To (tT C fr e) l os (some (.v (.bool b))) os1)(hb:xI op b=false):KW C fr op (e::es) l os (some (.v (.bool b))) os1:= .mk λas ρ σ F s Q X q=>by
 have h:∀Q':Bool->St->Prop,(∀cK cZ,Vx l os os1 (.v (.bool b)) as ρ F cK cZ->Q' b cZ)->WT C fr e ρ σ Q' X:=λQ' hq=>h1.go as ρ σ F s (bQ Q') X hq
 cases op with
 |And=>exact Dy (h _ λcK cZ v=>⟨λe=>(by rw[e]at hb;cases hb),λe=>by have:=q cK cZ v;rwa[show b=false from e]at this⟩)
 |Or=>exact Gj (h _ λcK cZ v=>⟨λe=>by have:=q cK cZ v;rwa[show b=true from e]at this,λe=>(by rw[e]at hb;cases hb)⟩)
theorem Om{rec:u0}(R:hJ C fr l rec)(pos:Pos)(op:BoolOp){es:List Expr}:∀{os:List Ob} {p:Pa} {K:KE},(∀bx bN p',KV C fr pos op es l os bx bN->K bx bN p')->Yi rec op es os p K:=by
 induction es with
 |nil=>exactλ_=>trivial
 |cons e es ih=>
  cases es with
  |nil=>exactλh=>R false e _ _ _ λr os1 p1 h1=>h r os1 p1<| .mk λas ρ σ F s Q X q=>JG (h1.go as ρ σ F s Q X q)
  |cons e' es=>
   exactλ{os p K} h=>R.t (t:=false) λx os1 p1 h1=>
    Bool.casesOn (motive:=λg=>xI op x=g->Bool.rec (K (some (.v (.bool x))) os1 p1) (Yi rec op (e'::es) os1 p1 K) g) (xI op x) (λq=>h _ _ _ (Oj h1 q)) (λq=>ih λbx kE p3 h3=>h _ _ _ (RZ h1 q h3)) rfl
theorem Oo{rec:u0}(R:hJ C fr l rec)(op:BoolOp){es:List Expr}:∀{os:List Ob} {p:Pa} {K:KE},(∀bx bN p',KW C fr op es l os bx bN->K bx bN p')->Yj rec op es os p K:=by
 induction es with
 |nil=>
  exactλh=>h _ _ _<| .mk λas ρ σ F s Q X q=>
   BoolOp.casesOn (motive:=λop=>Q (.bool (H0 op)) σ->JF C fr op [] ρ σ (λb=>Q (.bool b)) X) op (λh=>z3 h) (λh=>B4 h) (q as σ (s.refl (c:= .v (.bool (H0 op))) trivial))
 |cons e es ih=>
  exactλ{os p K} h=>R.t (t:=true) λx os1 p1 h1=>
   Bool.casesOn (motive:=λg=>xI op x=g->Bool.rec (K (some (.v (.bool x))) os1 p1) (Yj rec op es os1 p1 K) g) (xI op x) (λq=>h _ _ _ (Ol h1 q)) (λq=>ih λbx kE p3 h3=>h _ _ _ (R0 h1 q h3)) rfl
end
noncomputable section
noncomputable def Ob.T9(o:Ob):Option PV:=Ob.rec (λ_=>none) (λ_=>none) (λkvs=>some (.tabI kvs)) (λkvs=>some (.dY kvs)) (λ_=>none) (λ_ _ _=>none) none none o
variable(C:Ctx)(fr:Fm)(l:Lo)
noncomputable def Yk(c:EV)(os:List Ob)(p:Pa)(K:KE):Prop:=
 gO c.k? (K (some c) os p) λk=>gO ((os[k]?).bind Ob.T9) (K (some c) os p) λv=>oB p λb p=>Bool.rec (K (some c) os p) (K (some (.v v)) (os.set k .gone) p) b
noncomputable def Mz(x:Str)(os:List Ob)(p:Pa)(K:KE):Prop:=
 gO (fi x fr.vn) (oC p os λbx _ p=>wO bx λc=>zC C fr x c l os->K (some c) os p) λi=>wO (l[i]?) λo=>wO o λc=>zV (!c.YZ) (Yk c os p K)
noncomputable def R1(op:Operator)(a b:EV)(os:List Ob)(p:Pa)(K:KE):Prop:=
 gO ((intOp op).bind λf=>(KR a b).map λq=>f q.1 q.2) (oC p os λbx bN p=>To (t2 C fr (binaryOp op) a b) l os bx bN->K bx bN p) λx=>K (some (.v (.int x))) os p
noncomputable def H6(op:CmpOp)(a b:EV)(os:List Ob)(p:Pa)(K:KE):Prop:=
 gO ((CZ op).bind λf=>(KR a b).map λq=>f q.1 q.2)
  (gO ((C0 op).bind λf=>(RY a b).map λq=>f q.1 q.2) (oC p os λbx bN p=>To (t2 C fr (compareOp op) a b) l os bx bN->K bx bN p) λx=>K (some (.v (.bool x))) os p) λx=>K (some (.v (.bool x))) os p
noncomputable def H7(rec:u0)(a:Expr)(op:CmpOp)(b:Expr)(os:List Ob)(p:Pa)(K:KE):Prop:=
 zV (uN b) (rec false a os p λr os p=>wO r λva=>rec false b os p λr os p=>wO r λvb=>H6 C fr l op va vb os p K)
noncomputable def MA(rec:u0)(f:Expr)(es:List Expr)(pos:Pos)(os:List Ob)(p:Pa)(K:KE):Prop:=
 gO (idOf f) (wO (RQ f) λa=>zV (vl a.1 a.2.2 pos es) (rec false a.1 os p λr os1 p=>wO r λo=>gL rec es os1 p λr os p=>
  Option.rec (Bf C fr a.2.1 o os1->K none os p) (λcs=>oC p os λbx bN p=>fJ C fr a.2.1 o os1 cs l os bx bN->K bx bN p) r))
  λx=>zV (fX es) (gL rec es os p λr os p=>Option.rec (Mx C fr x->K none os p) (λcs=>oC p os λbx bN p=>eE C fr x cs l os bx bN->K bx bN p) r)
noncomputable def R2(rec:u0)(a i:Expr)(os:List Ob)(p:Pa)(K:KE):Prop:=
 gO (RS i) (zV (Ej i) (rec false a os p λr os p=>wO r λva=>rec false i os p λr os p=>wO r λvi=>oC p os λbx bN p=>mQ C fr va vi l os bx bN->K bx bN p))
  λs=>zV (s.2.2.1.isNone&&wT a) (rec false a os p λr os p=>wO r λva=>Yh rec s.1 os p λx os p=>Yh rec s.2.1 os p λy os p=>oC p os λbx bN p=>s8 C fr va x y l os bx bN->K bx bN p)
noncomputable def FJ{α:Type}(k:Prop)(k':α->List α->Prop)(xs:List α):Prop:=List.rec k (λx xs _=>k' x xs) xs
noncomputable def R3{α β:Type}(k:α->β->Prop)(xs:List α)(ys:List β):Prop:=FJ True (λx xs=>FJ (FJ True (λy ys=>FJ (k x y) (λ_ _=>True) ys) ys) (λ_ _=>True) xs) xs
noncomputable def R4{α β:Type}(k:α->β->Prop)(k':α->α->β->β->Prop)(xs:List α)(ys:List β):Prop:=
 FJ True (λx xs=>FJ True (λy ys=>FJ (FJ (k x y) (λ_ _=>True) ys) (λx' xs=>FJ True (λy' ys=>FJ (FJ (k' x x' y y') (λ_ _=>True) ys) (λ_ _=>True) xs) ys) xs) ys) xs
noncomputable def gV(rec:u0)(e:Expr)(os:List Ob)(p:Pa)(K:KE):Prop:=oX p (λbx bN p=>To (tE C fr e) l os bx bN->K bx bN p) (sel True e
 (nm:=λx _=>Mz C fr l x os p K)
 (con:=λc _ _=>wO (N1 c) λv=>K (some (.v v)) os p)
 (bin:=λa op b _=>rec false a os p λr os p=>wO r λva=>rec false b os p λr os p=>wO r λvb=>R1 C fr l op va vb os p K)
 (un:=λop a _=>UnaryOp.casesOn op True (rec false a os p λr os p=>wO (r.bind BS) λx=>K (some (.v (.bool (!x)))) os p) True (rec false a os p λr os p=>wO (r.bind λa=>a.p?.bind Mu) λi=>K (some (.v (.int (-i)))) os p))
 (boo:=λop es _=>Yi rec op es os p K)
 (cmp:=λa fg rs _=>R3 (λop b=>H7 C fr l rec a op b os p K) fg rs)
 (ifx:=λt a b _=>rec true t os p λr os p=>wO (r.bind BS) λx=>oB p λc p=>x=c->rec false (bif c then a else b) os p K)
 (call:=λf es kw pos=>List.rec (MA C fr l rec f es pos os p K) (λ_ _ _=>True) kw)
 (sub:=λa i _=>R2 C fr l rec a i os p K)
 (tup:=λes _ _=>zV (fX es) (gL rec es os p λr os p=>Option.rec (K none os p) (λcs=>zV (Nat.ble cs.length 100) (wO (My cs) λc=>K (some c) os p)) r))
 (lst:=λes _=>zV (fX es) (gL rec es os p λr os p=>wO r λcs=>wO (Bg cs) λxs=>zV (Nat.ble xs.length 100&&os.all Ob.live) (K (some (.o os.length)) (os++[.list xs]) p))))
noncomputable def gT(rec:u0)(e:Expr)(os:List Ob)(p:Pa)(K:KE):Prop:=oX p (λbx bN p=>To (tT C fr e) l os bx bN->K bx bN p) (Bool.rec (sel True e
 (un:=λop a _=>UnaryOp.casesOn op True (rec true a os p λr os p=>wO (r.bind BS) λx=>K (some (.v (.bool (!x)))) os p) True True)
 (boo:=λop es _=>Yj rec op es os p K)
 (cmp:=λa fg rs _=>R4 (λop b=>H7 C fr l rec a op b os p λr os p=>wO (r.bind BS) λx=>K (some (.v (.bool x))) os p)
  (λop MB b c=>zV (uN c) (rec false a os p λr os p=>wO r λva=>rec false b os p λr os p=>wO r λvb=>H6 C fr l op va vb os p λr os p=>wO (r.bind BS) λx=>oB p λt p=>x=t->
   Bool.rec (K (some (.v (.bool false))) os p) (rec false c os p λr os p=>wO r λvc=>H6 C fr l MB vb vc os p λr os p=>wO (r.bind BS) λy=>K (some (.v (.bool y))) os p) t)) fg rs))
 (rec false e os p λr os p=>wO (r.bind BS) λx=>K (some (.v (.bool x))) os p) (HS e))
noncomputable def gE(n:Nat):u0:=Nat.rec (λ_ _ _ _ _=>True) (λ_ ih t e os p K=>Bool.rec (gV C fr l ih e os p K) (gT C fr l ih e os p K) t) n
end
section
variable{C:Ctx}{fr:Fm}{l:Lo}
theorem Op(F:aI C fr){x:Str}{pos:Pos}{os:List Ob}{i k:Nat}(hi:fi x fr.vn=some i)(ho:l[i]?=some (some (.o k))){o:Ob}{v:PV}:os[k]?=some o->o.T9=some v->To (tE C fr (.Name x pos)) l os (some (.v v)) (os.set k .gone):=
 have n:∀o,os[k]?=some o->none=some v->To (tE C fr (.Name x pos)) l os (some (.v v)) (os.set k .gone):=λ_ _ h=>(aT _ h.symm).elim
 Ob.casesOn (motive:=λo=>os[k]?=some o->o.T9=some v->To (tE C fr (.Name x pos)) l os (some (.v v)) (os.set k .gone)) o (λ_=>n _) (λ_=>n _) (λ_ h e=>ax e▸To.Y5 F hi ho h) (λ_ h e=>ax e▸To.Y6 F hi ho h) (λ_=>n _) (λ_ _ _=>n _) (n _) (n _)
theorem H8(F:aI C fr){x:Str}{pos:Pos}{os:List Ob}{p:Pa}{K:KE}(h:∀bx bN p',To (tE C fr (.Name x pos)) l os bx bN->K bx bN p'):Mz C fr l x os p K:=
 nv (s7 λbx _ p1=>dN λc _ hc=>h _ _ _ (hc pos)) λi hi=>dN λo ho=>dN λc hc=>gm λhg=>
  have ho:=ho.trans (congrArg some hc)
  have t:=To.name (p:=pos) F hi ho (Tf hg)
  nv (h _ _ _ t) λk hk=>nv (h _ _ _ t) λv hv=>HW λb p1=>Bool.casesOn b (h _ _ _ t) ((ao.mp hv).elim λo qw=>h _ _ _ (Op F hi (EV.Ta hk▸ho) qw.1 qw.2))
theorem C2{α β:Type}{o:Option (α->α->β)}{o':Option (α×α)}{x:β}(h:(o.bind λf=>o'.map λq=>f q.1 q.2)=some x):∃f q,o=some f/\o'=some q/\f q.1 q.2=x:=H3 (g:=λ(f:α->α->β) (q:α×α)=>f q.1 q.2) h
theorem KX{op:Operator}{a b:EV}{os:List Ob}{p:Pa}{K:KE}(h:∀bx bN p',To (t2 C fr (binaryOp op) a b) l os bx bN->K bx bN p'):R1 C fr l op a b os p K:=
 nv (s7 h) λx hx=>(C2 hx).elim λf e=>e.elim λq e=>h _ _ _ (e.2.2▸(qm e.2.1).1▸(qm e.2.1).2▸Be e.1 _ _)
theorem Ep{op:CmpOp}{a b:EV}{os:List Ob}{p:Pa}{K:KE}(h:∀bx bN p',To (t2 C fr (compareOp op) a b) l os bx bN->K bx bN p'):H6 C fr l op a b os p K:=
 nv (nv (s7 h) λx hx=>(C2 hx).elim λf e=>e.elim λq e=>h _ _ _ (e.2.2▸(Eo e.2.1).1▸(Eo e.2.1).2▸FH e.1 _ _))
  λx hx=>(C2 hx).elim λf e=>e.elim λq e=>h _ _ _ (e.2.2▸(qm e.2.1).1▸(qm e.2.1).2▸FG e.1 _ _)
theorem C3{op:CmpOp}{a b:EV}{os:List Ob}{p:Pa}{K:Bool->List Ob->Pa->Prop}(h:∀x bN p',To (t2 C fr (compareOp op) a b) l os (some (.v (.bool x))) bN->K x bN p'):H6 C fr l op a b os p λr os p=>wO (r.bind BS) λx=>K x os p:=
 Ep λbx os1 p1 h1=>dN λx hx=>h x os1 p1 (wZ hx▸h1)
theorem w4:100<=sizeLine:=by decide
theorem w5{b:Expr}(h:uN b=true)(op:CmpOp):behindInMarks op b=false:=by cases b<;>first|rfl|cases h
theorem To.un{e:Expr}{op:UnaryOp}{p:Pos}{os os1:List Ob}{a:EV}{v:PV}(h:To (tE C fr e) l os (some a) os1)(h1:∀as ρ σ Q X,Q v σ->W1 C fr (unaryOp op) (a.at as) ρ σ Q X):To (tE C fr (.UnaryOp op e p)) l os (some (.v v)) os1:= .mk λas ρ σ F s Q X q=>
 rg (h.go as ρ σ F s _ _ λcK cZ v1=>h1 cK ρ cZ Q X (q cK cZ ⟨v1.a,v1.s,trivial,v1.n⟩))
theorem To.ifE{t a b:Expr}{p:Pos}{c:Bool}{os os1 os2:List Ob}{bx:Option EV}(h:To (tT C fr t) l os (some (.v (.bool c))) os1)(h1:To (tE C fr (bif c then a else b)) l os1 bx os2):To (tE C fr (.IfExp t a b p)) l os bx os2:= .mk λas ρ σ F s Q X q=>
 Gl (h.go as ρ σ F s (bQ _) X λcK cZ v=>by
  have:=h1.go cK ρ cZ F v.s Q X (q.after v)
  exact⟨λe=>by subst e;exact this,λe=>by subst e;exact this⟩)
theorem To.not{e:Expr}{p:Pos}{os os1:List Ob}{x:Bool}(h:To (tT C fr e) l os (some (.v (.bool x))) os1):To (tT C fr (.UnaryOp .Not e p)) l os (some (.v (.bool (!x)))) os1:= .mk λas ρ σ F s Q X q=>
 Nf (h.go as ρ σ F s (bQ _) X λcK cZ v=>q cK cZ ⟨v.a,v.s,trivial,v.n⟩)
theorem To.Y9{e1 e2:Expr}{op:CmpOp}{p:Pos}{os os1 os2 kE:List Ob}{a b:EV}{x:Bool}(h1:To (tE C fr e1) l os (some a) os1)(h2:To (tE C fr e2) l os1 (some b) os2)(h3:To (t2 C fr (compareOp op) a b) l os2 (some (.v (.bool x))) kE)
 (hm:uN e2=true):To (tT C fr (.Compare e1 [op] [e2] p)) l os (some (.v (.bool x))) kE:= .mk λas ρ σ F s Q X e=>gx (h1.go as ρ σ F s _ _ λcK cZ v1=>h2.go cK ρ cZ F v1.s _ _ λiC hH v2=>by
 have:=h3.go iC ρ hH F v2.s (λc d0=>F3 C fr truthy c ρ d0 (λb=>Q (.bool b)) X) X λuZ CF v3=>eS (e uZ CF (v1.trans (v2.trans v3)))
 unfold t2 at this;rwa[EV.pT v2.a v1.ok]at this) (w5 hm op)
theorem To.chain{e1 e2 e3:Expr}{op MB:CmpOp}{p:Pos}{os os1 os2 kE os4 TL:List Ob}{a b:EV}{x y:Bool}(h1:To (tE C fr e1) l os (some a) os1)(h2:To (tE C fr e2) l os1 (some b) os2)(h3:To (t2 C fr (compareOp op) a b) l os2 (some (.v (.bool x))) kE)
 (h4:(x=false/\y=false/\TL=kE)\/(x=true/\∃c,To (tE C fr e3) l kE (some c) os4/\To (t2 C fr (compareOp MB) b c) l os4 (some (.v (.bool y))) TL)) (hm:uN e3=true):To (tT C fr (.Compare e1 [op,MB] [e2,e3] p)) l os (some (.v (.bool y))) TL:= .mk λas ρ σ F s Q X e=>
 G6 (h1.go as ρ σ F s _ _ λcK cZ v1=>h2.go cK ρ cZ F v1.s _ _ λiC hH v2=>by
  have:=h3.go iC ρ hH F v2.s (λc d0=>F3 C fr truthy c ρ d0 (λt mZ=>(t=true->WE C fr e3 ρ mZ (λd iF=>W2 C fr (compareOp MB) (b.at iC) d ρ iF (λe rV=>F3 C fr truthy e ρ rV (λb=>Q (.bool b)) X) X) X)/\(t=false->Q (.bool false) mZ)) X) X λuZ CF v3=>eS (by
   rcases h4 with⟨rfl,rfl,rfl⟩|⟨rfl,c,h5,h6⟩
   ·exact⟨(nomatch·),λ_=>e uZ CF (v1.trans (v2.trans v3))⟩
   ·refine⟨λ_=>h5.go uZ ρ CF F v3.s _ _ λas4 RN v4=> ?_,(nomatch·)⟩
    have:=h6.go as4 ρ RN F v4.s (λc d0=>F3 C fr truthy c ρ d0 (λb=>Q (.bool b)) X) X λas5 σ5 v5=>eS (e as5 σ5 (v1.trans (v2.trans (v3.trans (v4.trans v5)))))
    unfold t2 at this;rwa[EV.pT (v3.trans v4).a v2.ok]at this)
  unfold t2 at this;rwa[EV.pT v2.a v1.ok]at this) (show behindInMarks MB e3=false from w5 hm MB)
theorem H9{rec:u0}(R:hJ C fr l rec){a b:Expr}{op:CmpOp}{os:List Ob}{p:Pa}{K:KE}(h:uN b=true->∀va vb os1 os2 bx kE p',To (tE C fr a) l os (some va) os1->To (tE C fr b) l os1 (some vb) os2->To (t2 C fr (compareOp op) va vb) l os2 bx kE->K bx kE p'):H7 C fr l rec a op b os p K:=
 gm λhs=>R.v λva os1 p1 h1=>R.v λvb os2 p2 h2=>Ep λbx kE p3 h3=>h hs _ _ _ _ _ _ _ h1 h2 h3
theorem Ia{rec:u0}(R:hJ C fr l rec){f:Expr}{es:List Expr}{pos:Pos}{os:List Ob}{p:Pa}{K:KE}(h:∀bx bN p',To (tE C fr (.Call f es [] pos)) l os bx bN->K bx bN p'):MA C fr l rec f es pos os p K:=
 nv (dN λa ha=>gm λhs=>R.v λo os1 p1 h1=>Bi R pos (gf hs) λr os2 p2=>
  Option.casesOn r (λh2 hx=>h _ _ _ (Ek ha▸hx a.1 a.2.2 pos es l os os2 os2 hs h1 h2)) λcs h2=>s7 λbx bN p3 hc=>h _ _ _ (Ek ha▸hc a.1 a.2.2 pos es os hs h1 h2))
  λx hx=>(jh hx).elim λq e=>gm λhs=>Bi R pos hs λr os1 p1=>Option.casesOn r (λh1 hx=>h _ _ _ (e▸hx pos q es l os os1 os1 hs h1)) λcs h1=>s7 λbx bN p2 hc=>h _ _ _ (e▸hc pos q es os hs h1)
theorem KY{rec:u0}(R:hJ C fr l rec){a i:Expr}{pos:Pos}{os:List Ob}{p:Pa}{K:KE}(h:∀bx bN p',To (tE C fr (.Subscript a i pos)) l os bx bN->K bx bN p'):R2 C fr l rec a i os p K:=
 nv (gm λhs=>R.v λva os1 p1 h1=>R.v λvi os2 p2 h2=>s7 λbx bN p3 hc=>hc.1.elim λT hT=>h _ _ _ (hc.2.1.symm▸To.sub h1 h2 hc.2.2 (hc.2.1▸hT.1) hT.2 (Fh hs)))
  λs hs=>gm λhn=>R.v λva os1 p1 h1=>H5 R λx os2 p2 h2=>H5 R λy kE p3 h3=>s7 λbx bN p4 hc=>h _ _ _ ((KJ hs).symm▸Option.isNone_iff_eq_none.mp (gf hn)▸hc a _ _ _ pos os os1 os2 (nX hn) h1 h2 h3)
theorem MC{b:Bool}{x y:Prop}(h0:b=false->x)(h1:b=true->y):(Bool.rec x y b:Prop):=Bool.casesOn (motive:=λc=>b=c->(Bool.rec x y c:Prop)) b h0 h1 rfl
theorem kr{α:Type}{k:Prop}{k':α->List α->Prop}{xs:List α}(h:xs=[]->k)(h':∀x l,xs=x::l->k' x l):FJ k k' xs:=List.casesOn (motive:=λl=>xs=l->FJ k k' l) xs h h' rfl
theorem KZ{α β:Type}{k:α->β->Prop}{xs:List α}{ys:List β}(h:∀x y,xs=[x]->ys=[y]->k x y):R3 k xs ys:=
 kr (λ_=>trivial) λx l e=>kr (λe1=>kr (λ_=>trivial) λy m e'=>kr (λe2=>h x y (e1▸e) (e2▸e')) λ_ _ _=>trivial) λ_ _ _=>trivial
theorem K0{α β:Type}{k:α->β->Prop}{k':α->α->β->β->Prop}{xs:List α}{ys:List β}(h:∀x y,xs=[x]->ys=[y]->k x y)(h':∀x x' y y',xs=[x,x']->ys=[y,y']->k' x x' y y'):R4 k k' xs ys:=
 kr (λ_=>trivial) λx l e=>kr (λ_=>trivial) λy m e'=>kr (λe1=>kr (λe2=>h x y (e1▸e) (e2▸e')) λ_ _ _=>trivial)
  λx' l' e1=>kr (λ_=>trivial) λy' m' e2=>kr (λe3=>kr (λe4=>h' x x' y y' (e3▸e1▸e) (e4▸e2▸e')) λ_ _ _=>trivial) λ_ _ _=>trivial
theorem R5(F:aI C fr){rec:u0}(R:hJ C fr l rec){e:Expr}{os:List Ob}{p:Pa}{K:KE}(h:∀bx bN p',To (tE C fr e) l os bx bN->K bx bN p'):gV C fr l rec e os p K:=
 Mw h (fR (λe q=>(∀bx bN p',To (tE C fr e) l os bx bN->K bx bN p')->q) e (λ_ _=>trivial)
  (λx q h=>H8 F h)
  (λc k q=>Const.casesOn c (λh=>h _ _ _ (To.pure λ_ _ _ _ _ q=>JE q)) (λ_ h=>h _ _ _ (To.pure λ_ _ _ _ _ q=>JD q)) (λ_ h=>h _ _ _ (To.pure λ_ _ _ _ _ q=>dn q)) (λ_ _=>trivial) (λ_ _ _=>trivial)
   (λ_ h=>h _ _ _ (To.pure λ_ _ _ _ _ q=>yU q)) (λ_ _=>trivial) (λ_=>trivial))
  (λa op b q h=>R.v λva os1 p1 h1=>R.v λvb os2 p2 h2=>KX λbx kE p3 h3=>h _ _ _ (To.bin h1 h2 h3))
  (λop a q=>UnaryOp.casesOn op (λ_=>trivial) (λh=>R.b (t:=false) λx os1 p1 h1=>h _ _ _ (To.un h1 λ_ _ _ _ _ q=>Np q)) (λ_=>trivial) (λh=>R.i λx os1 p1 h1=>h _ _ _ (To.un h1 λ_ _ _ _ _ q=>Cc q)))
  (λop es q h=>Om R q op λbx bN p1 h1=>h _ _ _<| .mk λas ρ σ F s Q X e=>EX (h1.go as ρ σ F s Q X e))
  (λa fg rs q h=>KZ λop b e e'=>H9 R λhs va vb os1 os2 bx kE p1 h1 h2 h3=>h _ _ _ (e▸e'▸To.cmp h1 h2 h3 (w5 hs op)))
  (λt a b q h=>R.t (t:=true) λx os1 p1 h1=>R false _ os1 p1 _ λbx os2 p2 h2=>h _ _ _ (To.ifE h1 h2))
  (λf es kw q=>List.casesOn kw (λh=>Ia R h) λ_ _ _=>trivial)
  (λ_ _ _ _=>trivial)
  (λa i q h=>KY R h)
  (λes k q h=>gm λhs=>Bi R q hs λr os1 p1=>Option.casesOn r (λh1=>h none os1 p1<| .mk λas ρ σ F s Q X e=>rQ (h1.go as ρ σ F s _ _ e))
   λcs h1=>gm λhl=>dN λc hc=>h _ _ _ (To.tup h1 (H4 hc).1 ((H4 hc).2 _) (aa (bE hl) w4)))
  (λes q h=>gm λhs=>Bi R q hs λr os1 p1 h1=>dN λcs e=>dN λxs hx=>gm λhl=>
   h _ _ _ (To.list (e▸h1) (λas=>Bh as hx) (λq hq=>av.mp (nX hl) q hq) (aa (bE (gf hl)) w4)))
  (λ_ _ _ _ _=>trivial) (λ_ _ _ _=>trivial) (λ_ _ _ _ _=>trivial) h)
theorem R6{rec:u0}(R:hJ C fr l rec){e:Expr}{os:List Ob}{p:Pa}{K:KE}(h:∀bx bN p',To (tT C fr e) l os bx bN->K bx bN p'):gT C fr l rec e os p K:=
 Mw h (MC
  (λ_=>fR (λe q=>(∀bx bN p',To (tT C fr e) l os bx bN->K bx bN p')->q) e (λ_ _=>trivial)
   (λ_ _ _=>trivial) (λ_ _ _ _=>trivial) (λ_ _ _ _ _=>trivial)
   (λop a q=>UnaryOp.casesOn op (λ_=>trivial) (λh=>R.b (t:=true) λx os1 p1 h1=>h _ _ _ (To.not h1)) (λ_=>trivial) (λ_=>trivial))
   (λop es q h=>Oo R op λbx bN p1 h1=>h _ _ _<| .mk λas ρ σ F s Q X e=>EW (h1.go as ρ σ F s Q X e))
   (λa fg rs q h=>K0
    (λop b e e'=>gm λhs=>R.v λva os1 p1 h1=>R.v λvb os2 p2 h2=>C3 λx kE p3 h3=>h _ _ _ (e▸e'▸To.Y9 h1 h2 h3 hs))
    (λop MB b c e e'=>gm λhs=>R.v λva os1 p1 h1=>R.v λvb os2 p2 h2=>C3 λx kE p3 h3=>HW λt p4 ht=>
     MC (λe0=>h _ _ _ (e▸e'▸To.chain (os4:=kE) h1 h2 (ht.trans e0▸h3) (.inl ⟨rfl,rfl,rfl⟩) hs))
      (λe1=>R.v λvc os4 p5 h4=>C3 λy TL p6 h5=>h _ _ _ (e▸e'▸To.chain h1 h2 h3 (.inr ⟨ht.trans e1,_,h4,h5⟩) hs))))
   (λ_ _ _ _ _=>trivial) (λ_ _ _ _ _=>trivial) (λ_ _ _ _=>trivial) (λ_ _ _ _=>trivial) (λ_ _ _ _=>trivial) (λ_ _ _=>trivial) (λ_ _ _ _ _=>trivial) (λ_ _ _ _=>trivial) (λ_ _ _ _ _=>trivial) h)
  (λhe=>R.b (t:=false) λx os1 p1 h1=>h _ _ _ (To.Y0 h1 λz=>Gk z (RX he))))
theorem Er(F:aI C fr)(n:Nat):hJ C fr l (gE C fr l n):=by
 induction n with
 |zero=>exactλ_ _ _ _ _ _=>trivial
 |succ n ih=>
  intro t e os p K h
  cases t with
  |false=>exact R5 F ih h
  |true=>exact R6 ih h
end
noncomputable abbrev KS:=ql->Pa->Prop
section
variable(C:Ctx)(fr:Fm)
noncomputable def yG(a b c:EV)(l:Lo)(os bN:List Ob):Prop:=os.length<=bN.length/\mh C fr a b c l os bN
noncomputable def Es(x:Str):Prop:=∀np tF pos es l os bN c n,fX es=true->sZ C fr tF es l os (some [c]) bN->Runs (WS C fr (.Raise (some (.Call (.Name x np) es [] tF)) none pos)) n l os .exc
end
noncomputable section
noncomputable def s9{α:Type}(d:α)(st:Stmt)(rt:Option Expr->Pos->α:=λ_ _=>d)(asg:List Expr->Expr->Pos->α:=λ_ _ _=>d)(aug:Expr->Operator->Expr->Pos->α:=λ_ _ _ _=>d)(fo:Expr->Expr->List Stmt->List Stmt->Pos->α:=λ_ _ _ _ _=>d)(wh:Expr->List Stmt->List Stmt->Pos->α:=λ_ _ _ _=>d)
 (iff:Expr->List Stmt->List Stmt->Pos->α:=λ_ _ _ _=>d) (R7:Option Expr->Option Expr->Pos->α:=λ_ _ _=>d) (ex:Expr->Pos->α:=λ_ _=>d) (pa br co:Pos->α:=λ_=>d):α:=
 Stmt.casesOn (motive_2:=λ_=>α) st (λ_ _ _ _ _ _ _ _ _ _=>d) (λ_ _ _ _ _ _ _ _ _ _=>d) (λ_ _ _ _ _ _ _ _ _ _ _=>d) rt (λ_ _=>d) asg (λ_ _ _ _ _ _ _=>d) aug (λ_ _ _ _ _=>d) fo (λ_ _ _ _ _=>d) wh iff (λ_ _ _=>d) (λ_ _ _=>d) (λ_ _ _=>d) R7
  (λ_ _ _ _ _=>d) (λ_ _ _ _ _=>d) (λ_ _ _=>d) (λ_ _=>d) (λ_ _ _ _=>d) (λ_ _=>d) (λ_ _=>d) ex pa br co
theorem Ib{α:Type}{d:α}{rt asg aug fo wh iff R7 ex pa br co}(P:Stmt->α->Prop)(st:Stmt)(hd:∀st,P st d)(h1:∀a p,P (.Return a p) (rt a p))(h2:∀a b p,P (.Assign a b p) (asg a b p))(h3:∀a o b p,P (.AugAssign a o b p) (aug a o b p))(h4:∀a b c d p,P (.For a b c d p) (fo a b c d p))
 (h5:∀a b c p,P (.While a b c p) (wh a b c p)) (h6:∀a b c p,P (.If a b c p) (iff a b c p)) (h7:∀a b p,P (.Raise a b p) (R7 a b p)) (h8:∀a p,P (.Expr a p) (ex a p)) (h9:∀p,P (.Pass p) (pa p)) (ha:∀p,P (.Break p) (br p)) (hb:∀p,P (.Continue p) (co p)):P st (s9 d st rt asg aug fo wh iff R7 ex pa br co):=
 Stmt.casesOn (motive_2:=λst=>P st (s9 d st rt asg aug fo wh iff R7 ex pa br co)) st (λ_ _ _ _ _ _ _ _ _ _=>hd _) (λ_ _ _ _ _ _ _ _ _ _=>hd _) (λ_ _ _ _ _ _ _ _ _ _ _=>hd _) h1 (λ_ _=>hd _) h2 (λ_ _ _ _ _ _ _=>hd _) h3 (λ_ _ _ _ _=>hd _) h4 (λ_ _ _ _ _=>hd _) h5 h6 (λ_ _ _=>hd _) (λ_ _ _=>hd _) (λ_ _ _=>hd _) h7
  (λ_ _ _ _ _=>hd _) (λ_ _ _ _ _=>hd _) (λ_ _ _=>hd _) (λ_ _=>hd _) (λ_ _ _ _=>hd _) (λ_ _=>hd _) (λ_ _=>hd _) h8 h9 ha hb
noncomputable def MD(e:Expr):Bool:= !Nat.beq e.ctorIdx 25
section
variable{α:Type}{xs:List α}
noncomputable def R8(xs:List α):Option α:=List.rec none (λa xs _=>List.rec (some a) (λ_ _ _=>none) xs) xs
noncomputable def TM(xs:List α):Option (α×α):=List.rec none (λa xs _=>(R8 xs).map (a,·)) xs
noncomputable def Yl(xs:List α):Option (α×α×α):=List.rec none (λa xs _=>(TM xs).map (a,·)) xs
theorem C4{q:α}:R8 xs=some q->xs=[q]:=
 List.casesOn xs (nomatch·) λa l=>List.casesOn (motive:=λl=>R8 (a::l)=some q->a::l=[q]) l (λh=>congrArg ([·]) (ax h)) λ_ _=>(nomatch·)
theorem C5{q:α×α}:TM xs=some q->xs=[q.1,q.2]:=
 List.casesOn xs (nomatch·) λa l h=>(aA.mp h).elim λb h=>h.2▸congrArg (a::·) (C4 h.1)
theorem Ic{q:α×α×α}:Yl xs=some q->xs=[q.1,q.2.1,q.2.2]:=
 List.casesOn xs (nomatch·) λa l h=>(aA.mp h).elim λb h=>h.2▸congrArg (a::·) (C5 h.1)
end
noncomputable def Ie(a:EV):Option (PV×PV):=(a.p?.bind Z7).bind TM
noncomputable def Ig(a:EV):Option (Nat×Nat×Nat):=a.t?.bind Yl
noncomputable def ME(op:Operator)(a b:EV):Option (Int×Int):=Operator.casesOn op (KR a b) none none none none none none none none none none none none
variable(C:Ctx)(fr:Fm)(m:Nat)
noncomputable abbrev Ih:=List Stmt->Lo->List Ob->Pa->KS->Prop
noncomputable def Et(ev:Lo->u0)(t:Expr)(e:Expr)(l:Lo)(os:List Ob)(p:Pa)(K:KS):Prop:=
 gO (idOf t) (gO (RU t) (wO (RV t) λts=>zV (MD e) (gO (TM ts)
  (wO (Yl ts) λt=>wO (idOf t.1) λx=>wO (idOf t.2.1) λy=>wO (idOf t.2.2) λz=>wO (fi x fr.vn) λi=>wO (fi y fr.vn) λj=>wO (fi z fr.vn) λk=>ev l false e os p λr os p=>wO (r.bind Ig) λq=>
   K (.norm (((l.set i (some (.o q.1))).set j (some (.o q.2.1))).set k (some (.o q.2.2))) os) p)
  λt=>wO (idOf t.1) λx=>wO (idOf t.2) λy=>wO (fi x fr.vn) λi=>wO (fi y fr.vn) λj=>ev l false e os p λr os p=>wO (r.bind Ie) λq=>K (.norm ((l.set i (some (.v q.1))).set j (some (.v q.2))) os) p))
  λs=>ev l false e os p λr os p=>Option.rec (K .exc p) (λc=>ev l false s.1 os p λr os p=>wO r λa=>ev l false s.2 os p λr os p=>wO r λb=>
   oC p os λ_ bN p=>yG C fr a b c l os bN->K (.norm l bN) p) r)
  λx=>wO (fi x fr.vn) λi=>ev l false e os p λr os p=>Option.rec (K .exc p) (λc=>K (.norm (l.set i (some c)) os) p) r
noncomputable def R9(op:Operator)(l:Lo)(a b:EV)(os:List Ob)(p:Pa)(K:KE):Prop:=
 gO (ME op a b) (oC p os λbx bN p=>To (t2 C fr (inplaceOp op) a b) l os bx bN->K bx bN p) λq=>K (some (.v (.int (q.1+q.2)))) os p
noncomputable def TN(ev:Lo->u0)(rec:Ih)(st:Stmt)(l:Lo)(os:List Ob)(p:Pa)(K:KS):Prop:=s9 True st
 (λe _=>wO e λe=>ev l false e os p λr os p=>Option.rec (K .exc p) (λc=>K (.ret c os) p) r)
 (λts e _=>wO (R8 ts) λt=>zV (wS e) (Et C fr ev t e l os p K))
 (λt op e _=>wO (idOf t) λx=>wO (fi x fr.vn) λi=>wO (l[i]?) λo=>wO o λc=>ev l false e os p λr os p=>wO r λb=>R9 C fr op l c b os p λr os p=>wO r λr=>K (.norm (l.set i (some r)) os) p)
 (λt it b L0 _=>wO (idOf t) λx=>zV (uN it&&L0.isEmpty) (ev l false it os p λr os p=>wO r λc=>oO p λbx p=>uM C fr x b c l os bx->K bx p))
 (λt b L0 _=>zV L0.isEmpty (oO p λbx p=>Ei C fr t b l os bx->K bx p))
 (λt a b _=>ev l true t os p λr os p=>wO (r.bind BS) λx=>oB p λc p=>x=c->rec (bif c then a else b) l os p K)
 (λe c _=>wO (e.bind RW) λf=>zV (fX f.2.1&&(f.2.2.1.isEmpty&&c.isNone)) (gL (ev l) f.2.1 os p λr os p=>wO (r.bind R8) λ_=>Es C fr f.1->K .exc p))
 (λe _=>zV (wS e) (ev l false e os p λr os p=>Option.rec (K .exc p) (λ_=>K (.norm l os) p) r))
 (λ_=>K (.norm l os) p) (λ_=>K (.brk l os) p) (λ_=>K (.cont l os) p)
noncomputable def Oq(rec:Ih)(rest:List Stmt)(K:KS):KS:=λbx p=>ql.rec (λl os=>rec rest l os p K) (λc os=>K (.ret c os) p) (K .exc p) (λl os=>K (.brk l os) p) (λl os=>K (.cont l os) p) bx
noncomputable def gS(n:Nat):Ih:=Nat.rec (λ_ _ _ _ _=>True) (λ_ ih kH l os p K=>List.rec (K (.norm l os) p) (λst rest _=>TN C fr (λl=>gE C fr l 30) ih st l os p (Oq ih rest K)) kH) n
end
section
variable{C:Ctx}{fr:Fm}{l:Lo}{m:Nat}{os:List Ob}{p:Pa}{K:KS}
theorem K1{a:EV}{q:PV×PV}(h:Ie a=some q):a=.v (.tup [q.1,q.2]):=
 (ao.mp h).elim λxs h=>(ao.mp h.1).elim λv h'=>(EV.Jf h'.1).trans (congrArg EV.v ((Oh h'.2).trans (congrArg PV.tup (C5 h.2))))
theorem K2{a:EV}{q:Nat×Nat×Nat}(h:Ig a=some q):a=.t [q.1,q.2.1,q.2.2]:=
 (ao.mp h).elim λxs h=>(EV.Y8 h.1).trans (congrArg EV.t (Ic h.2))
theorem Bj{e:Expr}(h:MD e=true)(ts:List Expr)(k:Nat)(p:Pos)(env:Env):swappedStores [.Tuple ts k p] e env=Pure.pure none:=by cases e<;>first|rfl|cases h
theorem zD{e:Expr}(h:wS e=true)(t:Expr)(n:Nat)(env:Env):swapsWithSole [t] e n env=Pure.pure false:=wY h (some t) n env
theorem Runs.LS(F0:aI C fr){x y z:Str}{e:Expr}{k i j n:Nat}{p p' p1 p2 p3:Pos}{a b c:Nat}{os1:List Ob}(hi:fi x fr.vn=some i)(hj:fi y fr.vn=some j)(hn:fi z fr.vn=some n)(h:To (tE C fr e) l os (some (.t [a,b,c])) os1)
 (hs:∀env,swapsWithSole [.Tuple [.Name x p1,.Name y p2,.Name z p3] k p'] e p.line env=Pure.pure false) (hw:∀env,swappedStores [.Tuple [.Name x p1,.Name y p2,.Name z p3] k p'] e env=Pure.pure none):
 Runs (WS C fr (.Assign [.Tuple [.Name x p1,.Name y p2,.Name z p3] k p'] e p)) m l os (.norm (((l.set i (some (.o a))).set j (some (.o b))).set n (some (.o c))) os1):= .mk λas ρ σ F hm s N R J X kk=>
 Cv F0 i j n (ik hi) (ik hj) (ik hn) (h.go as ρ σ F s _ _ λcK cZ v=>⟨_,_,_,rfl,kk cK _ cZ ⟨v.a.less hm,((v.s.put i (c:= .o a) (v.ok a (by simp))).put j (c:= .o b) (v.ok b (by simp))).put n (c:= .o c) (v.ok c (by simp)),aa hm v.n⟩⟩) hs hw
theorem Runs.Za{n:Nat}{o i e:Expr}{p p':Pos}{os1:List Ob}(h1:To (tE C fr e) l os none os1)(hs:∀env,swapsWith e (some (.Subscript o i p')) p.line env=Pure.pure false):Runs (WS C fr (.Assign [.Subscript o i p'] e p)) n l os .exc:= .mk λas ρ σ F hn s N R J X k=>
 eg (h1.go as ρ σ F s _ _ (k ρ)) hs
theorem Ii{α β:Type}{r:Option α}{g:α->Option β}{x:β}{y:α}(e:∀{a},g a=some x->a=y)(h:r.bind g=some x):r=some y:=(ao.mp h).elim λa h=>h.1.trans (congrArg some (e h.2))
theorem C6(F:aI C fr){ev:Lo->u0}(E:∀l,hJ C fr l (ev l)){t e:Expr}{pos:Pos}(hc:wS e=true)(h:∀bx p',Runs (WS C fr (.Assign [t] e pos)) m l os bx->K bx p'):Et C fr ev t e l os p K:=
 nv (nv (dN λts ht=>(KO ht).elim λk e=>e.elim λp' e=>gm λhn=>nv
  (dN λt ht=>dN λx hx=>dN λy hy=>dN λz hz=>dN λi hi=>dN λj hj=>dN λk hk=>E l false _ os p _ λr os1 p1 h1=>dN λq hq=>
   (jh hx).elim λp1 ex=>(jh hy).elim λp2 ey=>(jh hz).elim λp3 ez=>h _ _ (e▸Ic ht▸ex▸ey▸ez▸Runs.LS F hi hj hk (Ii K2 hq▸h1) (zD hc _ _) (Bj hn _ _ _)))
  λt ht=>dN λx hx=>dN λy hy=>dN λi hi=>dN λj hj=>E l false _ os p _ λr os1 p1 h1=>dN λq hq=>
   (jh hx).elim λp1 ex=>(jh hy).elim λp2 ey=>h _ _ (e▸C5 ht▸ex▸ey▸Runs.LR F hi hj (Ii K1 hq▸h1) (zD hc _ _) (Bj hn _ _ _)))
  λs hs=>(KN hs).elim λq e=>(E l).o (λos1 p1 h1=>h _ _ (e▸Runs.Za h1 (wY hc _ _))) λc os1 p1 h1=>(E l).v λa os2 p2 h2=>(E l).v λb kE p3 h3=>s7 λ_ bN p4 hp=>h _ _ (e▸Runs.Y7 h1 h2 h3 hp.2 hp.1 (wY hc _ _)))
  λx hx=>dN λi hi=>(jh hx).elim λq e=>(E l).o (λos1 p1 h1=>h _ _ (e▸Runs.LQ F hi h1 (zD hc _ _))) λc os1 p1 h1=>h _ _ (e▸Runs.assign F hi h1 (zD hc _ _))
theorem K3{op:Operator}{a b:EV}{K:KE}(h:∀bx bN p',To (t2 C fr (inplaceOp op) a b) l os bx bN->K bx bN p'):R9 C fr op l a b os p K:=
 nv (s7 h) λq hq=>h _ _ _ ((
  have n:∀op,none=some q->To (t2 C fr (inplaceOp op) a b) l os (some (.v (.int (q.1+q.2)))) os:=λ_ h=>(aT _ h.symm).elim
  Operator.casesOn (motive:=λop=>ME op a b=some q->To (t2 C fr (inplaceOp op) a b) l os (some (.v (.int (q.1+q.2)))) os) op
   (λhq=>(qm hq).1▸(qm hq).2▸To.pure λ_ _ _ _ _ q=>DD q) (n _) (n _) (n _) (n _) (n _) (n _) (n _) (n _) (n _) (n _) (n _) (n _)) hq)
noncomputable abbrev Ij(C:Ctx)(fr:Fm)(m:Nat)(rec:Ih):Prop:=∀kH l os p (K:KS),(∀bx p',Runs (iu C fr kH) m l os bx->K bx p')->rec kH l os p K
theorem Ik(F:aI C fr){ev:Lo->u0}(E:∀l,hJ C fr l (ev l)){rec:Ih}(R:Ij C fr m rec){st:Stmt}(h:∀bx p',Runs (WS C fr st) m l os bx->K bx p'):TN C fr ev rec st l os p K:=
 Ib (λst q=>(∀bx p',Runs (WS C fr st) m l os bx->K bx p')->q) st (λ_ _=>trivial)
  (λe q h=>dN λe he=>(E l).o (λos1 p1 h1=>h _ _ (he▸Runs.Y4 h1)) λc os1 p1 h1=>h _ _ (he▸Runs.ret h1))
  (λts e q h=>dN λt ht=>gm λhc=>C6 F E hc (C4 ht▸h))
  (λt op e q h=>dN λx hx=>dN λi hi=>dN λo ho=>dN λc hc=>(E l).v λb os1 p1 h1=>K3 λr os2 p2 h2=>dN λr hr=>(jh hx).elim λq e=>h _ _ (e▸Runs.aug F hi (ho.trans (congrArg some hc)) h1 (hr▸h2)))
  (λt it b L0 q h=>dN λx hx=>gm λhs=>(E l).v λc os1 p1 h1=>Mv λbx p2 hf=>(jh hx).elim λq' e=>h _ _ (e▸List.isEmpty_iff.mp (nX hs)▸hf it _ q m os (KQ (gf hs)) h1))
  (λt b L0 q h=>gm λhs=>Mv λbx p1 hw=>h _ _ (List.isEmpty_iff.mp hs▸.mk λas ρ σ F hn=>(hw m q hn).go as ρ σ F hn))
  (λt a b q h=>(E l).t (t:=true) λc os1 p1 h1=>R _ l os1 p1 _ λbx p3 h2=>h _ _ (Runs.ite h1 h2))
  (λe c q h=>dN λf hf=>gm λhs=>Bi (E l) f.2.2.2 (gf hs) λr os1 p1 h1=>dN λv hv hr=>(ao.mp hf).elim λe0 he=>(KP he.2).elim λnp e1=>
   h _ _ (he.1▸e1▸List.isEmpty_iff.mp (gf (nX hs))▸Option.isNone_iff_eq_none.mp (nX (nX hs))▸hr np f.2.2.2 q f.2.1 l os os1 v m (gf hs) (Ii C4 hv▸h1)))
  (λe q h=>gm λhc=>(E l).o (λos1 p1 h1=>h _ _ (Runs.S9 F h1 (wY hc _ _))) λc os1 p1 h1=>h _ _ (Runs.expr F h1 (wY hc _ _)))
  (λq h=>h _ _<| .mk λas ρ σ F hn s N R J X k=>JH (k as ρ σ ⟨λ_ _=>rfl,s,hn⟩))
  (λq h=>h _ _<| .mk λas ρ σ F hn s N R J X k=>Gn (k as ρ σ ⟨λ_ _=>rfl,s,hn⟩))
  (λq h=>h _ _<| .mk λas ρ σ F hn s N R J X k=>z5 (k as ρ σ ⟨λ_ _=>rfl,s,hn⟩)) h
theorem MF(F:aI C fr)(n:Nat):Ij C fr m (gS C fr n):=by
 induction n with
 |zero=>exactλ_ _ _ _ _ _=>trivial
 |succ n ih=>
  intro kH l os p K h
  cases kH with
  |nil=>exact h _ _ Runs.nil
  |cons st rest=>
   exact show TN C fr (λl=>gE C fr l 30) (gS C fr n) st l os p (Oq (gS C fr n) rest K)from Ik F (λl=>Er F 30) ih λbx p1 h1=>
    ql.casesOn (motive:=λbx=>Runs (WS C fr st) m l os bx->Oq (gS C fr n) rest K bx p1) bx (λl1 os1 h1=>ih rest l1 os1 p1 K λbx p2 h2=>h _ _ (Runs.cons h1 h2))
     (λ_ _ h1=>h _ _ (Runs.stop h1 nofun)) (λh1=>h _ _ (Runs.stop h1 nofun)) (λ_ _ h1=>h _ _ (Runs.stop h1 nofun)) (λ_ _ h1=>h _ _ (Runs.stop h1 nofun)) h1
theorem mi(F:aI C fr)(e:Expr)(l:Lo)(os:List Ob)(p:Pa):gE C fr l 30 false e os p λbx bN _=>To (tE C fr e) l os bx bN:=Er F 30 false e os p _ λ_ _ _ h=>h
theorem qY(F:aI C fr)(t:Expr)(l:Lo)(os:List Ob)(p:Pa):gE C fr l 30 true t os p λbx bN _=>wO (bx.bind BS) λx=>∀b,x=b->To (tT C fr t) l os (some (.v (.bool b))) bN:=
 Er F 30 true t os p _ λbx bN p' h=>dN λx hx b hb=>by subst hb;rwa[wZ hx]at h
theorem dB(F:aI C fr)(st:Stmt)(l:Lo)(os:List Ob)(p:Pa):TN C fr (λl=>gE C fr l 30) (gS C fr 30) st l os p λbx _=>Runs (WS C fr st) m l os bx:=Ik F (λl=>Er F 30) (MF F 30) λ_ _ h=>h
theorem cw(F:aI C fr)(kH:List Stmt)(l:Lo)(os:List Ob)(p:Pa):gS C fr 40 kH l os p λbx _=>Runs (iu C fr kH) m l os bx:=MF F 40 kH l os p _ λ_ _ h=>h
end
noncomputable abbrev K4(Fn:Mine.Fn)(args:List EV):Lo:=args.map some++List.replicate (Fn.names.length-args.length) none
noncomputable def TO(Fn:Mine.Fn)(args:List EV)(os:List Ob):Bool:=args.all (λc=>FE os.length (some c))&&(Nat.ble args.length Fn.names.length&&Nat.beq Fn.np args.length)
theorem Calls.ends{C:Ctx}{Fn:Mine.Fn}{lv:Nat}{args:List EV}{c:EV}{os os2:List Ob}{o:ql}(t:Nat)(ho:o.res (some c) os2)(hk:(TO Fn args os&&(Nat.ble os.length t&&(Nat.ble t os2.length&&FE t (some c))))=true)
 (h:∀L outer A,aI C (Fn.frame L outer A lv)->Runs (iu C (Fn.frame L outer A lv) Fn.body) os.length (K4 Fn args) os o):Calls C Fn lv args os (some c) (os2.take t):=by
 obtain⟨h1,h4⟩:=an.mp hk
 obtain⟨h1,h2⟩:=an.mp h1
 obtain⟨h2,h3⟩:=an.mp h2
 obtain⟨h5,h6⟩:=an.mp h4
 obtain⟨h6,h7⟩:=an.mp h6
 have hl:(os2.take t).length=t:=by rw[cg];exact cY (bE h6)
 refine .mk λas σ F r Q X k=>(Calls.intro ho rfl (λc hc=>zz (av.mp h1 c hc)) (bE h2) (mo h3) h).go as σ F r Q X λdJ σ' x=>k dJ σ' ⟨x.a,?_,?_,?_⟩
 ·obtain⟨ps,r,e⟩:=x.s
  refine⟨ps,r.less λk o q=> ?_,λj hj=>e j (by rw[hl]at hj;exact au hj (bE h6))⟩
  have:=(aj.mp q).1
  rw[hl]at this
  rwa[fc this]at q
 ·rw[hl];exact zz h7
 ·rw[hl];exact bE h5
theorem Calls.ret{C:Ctx}{Fn:Mine.Fn}{lv:Nat}{args:List EV}{c:EV}{os os2:List Ob}(t:Nat)(hk:(TO Fn args os&&(Nat.ble os.length t&&(Nat.ble t os2.length&&FE t (some c))))=true)
 (h:∀L outer A,aI C (Fn.frame L outer A lv)->Runs (iu C (Fn.frame L outer A lv) Fn.body) os.length (K4 Fn args) os (.ret c os2)):Calls C Fn lv args os (some c) (os2.take t):=Calls.ends (o:= .ret c os2) t (And.intro rfl rfl) hk h
theorem Calls.Zb{C:Ctx}{Fn:Mine.Fn}{lv:Nat}{args:List EV}{l:Lo}{os os2:List Ob}(t:Nat)(hk:(TO Fn args os&&(Nat.ble os.length t&&(Nat.ble t os2.length&&FE t (some (.v .none)))))=true)
 (h:∀L outer A,aI C (Fn.frame L outer A lv)->Runs (iu C (Fn.frame L outer A lv) Fn.body) os.length (K4 Fn args) os (.norm l os2)):Calls C Fn lv args os (some (.v .none)) (os2.take t):=Calls.ends (o:= .norm l os2) t (And.intro rfl rfl) hk h
theorem Calls.exc{C:Ctx}{Fn:Mine.Fn}{lv:Nat}{args:List EV}{os os1:List Ob}(hk:TO Fn args os=true)
 (h:∀L outer A,aI C (Fn.frame L outer A lv)->Runs (iu C (Fn.frame L outer A lv) Fn.body) os.length (K4 Fn args) os .exc):Calls C Fn lv args os none os1:=by
 obtain⟨h1,h2⟩:=an.mp hk
 obtain⟨h2,h3⟩:=an.mp h2
 exact Calls.intro (o:= .exc) rfl rfl (λc hc=>zz (av.mp h1 c hc)) (bE h2) (mo h3) h
structure la(C:Ctx)(x:Str)(Fn:Mine.Fn):Prop where
 at_:FnAt C Fn
 g:C.mg x=some (.ref Fn.f)
 d:(x==("__debug__":Str))=false:=by decide
section
variable{C:Ctx}{fr:Fm}{l:Lo}{os bN os2:List Ob}{bx:Option EV}{cs:List EV}{K:Frag}{bL bM:ClassData}
theorem kP(G:dr C)(F:aI C fr){id:String}{x:Str}(hm:C.mg x=none)(hb:C.mb x=some (.builtin id))(hd:(x==("__debug__":Str))=false)(hk:fr.env.kindOf x=some .globalImplicit)
 (h2:To (tN C fr (λvs=>call (.builtin id) vs) cs) l os bx bN):eE C fr x cs l os bx bN:=λpos p es tZ hs h1=>To.Y1 G F hk hm hb h1 h2 (fZ hs _ _) (s6 hs _ _) hd
theorem qo(G:dr C)(F:aI C fr){id:String}{x:Str}(hm:C.mg x=none)(hb:C.mb x=some (.type id))(hd:(x==("__debug__":Str))=false)(hk:fr.env.kindOf x=some .globalImplicit)
 (h2:To (tN C fr (λvs=>call (.type id) vs) cs) l os bx bN):eE C fr x cs l os bx bN:=λpos p es tZ hs h1=>To.typ G F hk hm hb h1 h2 (fZ hs _ _) (s6 hs _ _) hd
theorem Il(G:dr C)(F:aI C fr){id:String}{x:Str}(hm:C.mg x=none)(hb:C.mb x=some (.builtin id))(hd:(x==("__debug__":Str))=false)(hk:fr.env.kindOf x=some .globalImplicit):Mx C fr x:=
 λpos p es l tZ os1 bN hs h1=>To.Y3 G F hk hm hb h1 (fZ hs _ _) (s6 hs _ _) hd
noncomputable def MG(m:List Nat)(n t:Nat):Bool:=m.all (λk=>Nat.blt k n)&&(decide m.Nodup&&Nat.ble m.length t)
theorem Eu(G:dr C)(F:aI C fr){Fn:Mine.Fn}{x:Str}(D:la C x Fn)(hk:fr.env.kindOf x=some .globalImplicit){lv:Nat}(hl:lv<fr.lvl)(m:List Nat)
 (hc:Calls C Fn lv cs (xH os m) bx os2) (h:(Nat.beq cs.length Fn.np&&(MG m os.length os2.length&&os.all Ob.live))=true):eE C fr x (cs.map (EV.ER (rn m))) l os (bx.map (EV.ER (bk m os.length))) (s5 os m os2):=λpos p es tZ hs h1=>by
 obtain⟨h2,h3⟩:=an.mp h
 obtain⟨h4,h5⟩:=an.mp h3
 obtain⟨h6,h7⟩:=an.mp h4
 obtain⟨h8,h9⟩:=an.mp h7
 exact To.call G F D.at_ hk D.g hl h1 (mo h2) hc (of_decide_eq_true h8) (λk hk=>jf.mp (av.mp h6 k hk)) (λq hq=>av.mp h5 q hq) (bE h9) (fZ hs _ _) D.d
theorem cH(G:dr C)(F:aI C fr){Fn:Mine.Fn}{x:Str}(D:la C x Fn)(hk:fr.env.kindOf x=some .globalImplicit){lv:Nat}(hl:lv<fr.lvl)(m:List Nat){kE os4:List Ob}{cs':List EV}{out':Option EV}
 (hc:Calls C Fn lv cs kE bx os2) (h0:xH os m=kE) (h:(Nat.beq cs.length Fn.np&&(MG m os.length os2.length&&os.all Ob.live))=true) (h1:cs.map (EV.ER (rn m))=cs') (h2:bx.map (EV.ER (bk m os.length))=out') (h3:s5 os m os2=os4):eE C fr x cs' l os out' os4:=by
 subst h0;subst h1;subst h2;subst h3
 exact Eu G F D hk hl m hc h
noncomputable def EV.Zc(c:EV):Bool:=EV.rec (λ_=>true) (λ_=>false) (λ_=>false) (λ_ _=>false) (λ_ _ _=>false) c
theorem EV.M7{f:Nat->Nat}{c:EV}(h:c.Zc=true):c.ER f=c:=by cases c<;>first|rfl|cases h
theorem aS(G:dr C)(F:aI C fr){Fn:Mine.Fn}{x:Str}(D:la C x Fn)(hk:fr.env.kindOf x=some .globalImplicit){lv:Nat}(hl:lv<fr.lvl)
 (hc:Calls C Fn lv cs [] bx []) (h:(Nat.beq cs.length Fn.np&&(os.all Ob.live&&(cs.all EV.Zc&&bx.all EV.Zc)))=true):eE C fr x cs l os bx os:=by
 obtain⟨h2,h3⟩:=an.mp h
 obtain⟨h4,h5⟩:=an.mp h3
 obtain⟨h6,h7⟩:=an.mp h5
 have:=Eu (os:=os) (l:=l) G F D hk hl [] hc (by rw[h2,h4];rfl)
 rw[show s5 os [] []=os from bV os,show cs.map (EV.ER (rn []))=cs from(ef λc hc=>EV.M7 (av.mp h6 c hc)).trans (List.map_id _)]at this
 cases bx with
 |none=>exact this
 |some c=>rwa[j3,EV.M7 (Option.all_some.symm.trans h7)]at this
theorem mR{T id:String}{name:Str}{a:EV}{os1:List Ob}(B:BM T name id)(hp:a.ty os1=some T)(h3:To (tN C fr (λvs=>PySem.call (.builtin id) vs) (a::cs)) l os bx bN):fJ C fr name a os1 cs l os bx bN:=λo ap pos es tZ hs h1 h2=>by
 obtain⟨k1,k2⟩:=an.mp hs
 obtain⟨k2,k3⟩:=an.mp k2
 obtain⟨k3,k4⟩:=an.mp k3
 exact To.Y2 B h1 h2 hp h3 (fZ k1 _ _) (λenv=>HV k3 _ env) (λenv=>wW k1 k2 _ env) k4
theorem iP{k:Nat}{os1:List Ob}{xs:List PV}{v:PV}(hp:EV.ty os1 (.o k)=some "list")(hk:os[k]?=some (.list xs))(hsz:xs.length<=sizeLine):fJ C fr "append" (.o k) os1 [.v v] l os (some (.v .none)) (os.set k (.list (xs++[v]))):=
 mR jU hp (To.upd hk (λ_=>rfl) (λ_=>rfl) (λ_=>rfl) (λ_=>rfl) λas ρ σ Q X hc q=>tB hc hsz q)
theorem dm(P:PO C K bL bM)(F:aI C fr)(hk:fr.env.kindOf "LinkFault"=some .globalImplicit)(hl:1<fr.lvl):Es C fr "LinkFault":=λnp tF pos es l os bN c n hs h=>
 Runs.raise P F hk hl h (λenv=>s6 hs _ env) (fZ hs _ _)
theorem Jo{x:Str}{i:Int}{c:Nat}(h0:0<=i)(h1:i<2^62)(hc:(L x)[i.toNat]?=some c):mQ C fr (.v (.str x)) (.v (.int i)) l os (some (.v (.str (mk [c])))) os:=
 ⟨⟨_,rfl,.inr (.inr (.inl rfl))⟩,rfl,To.pure λ_ _ _ _ _ q=>Kg h0 h1 hc q⟩
theorem BU{xs:List PV}{i:Int}{v:PV}(h0:0<=i)(h1:i<2^63)(hx:xs[i.toNat]?=some v):mQ C fr (.v (.tup xs)) (.v (.int i)) l os (some (.v v)) os:=
 ⟨⟨_,rfl,.inr (.inr (.inr rfl))⟩,rfl,To.pure λ_ _ _ _ _ q=>om h0 h1 hx q⟩
theorem slS{x:Str}{a b:Option Int}(hsz:x.length<=sizeLine):s8 C fr (.v (.str x)) a b l os (some (.v (.str (Txt.slice x a b)))) os:=
 λe lo hi p pos tZ os1 os2 hn h1 h2 h3=>To.O3 h1 h2 h3 hsz (Od hn)
theorem hO{x y:Str}(h:x.length+y.length<=sizeLine):To (t2 C fr (binaryOp .Add) (.v (.str x)) (.v (.str y))) l os (some (.v (.str (x++y)))) os:=To.pure λ_ _ _ _ _ q=>JQ h q
theorem Im(F:aI C fr)(Tp:ir fr){x:Str}{body:List Stmt}{ks:List Nat}{i:Nat}{s:Str}{o:ql}(hi:fi x fr.vn=some i)(hk:A9 os.length (gk ks l)=true)
 (hL:Loop C fr body ks os.length i (qc s) (gk ks l) os o):uM C fr x body (.v (.str s)) l os o:=HQ F Tp (λ_=>Gw F s) hi hk hL
theorem hG(P:PO C K bL bM)(F:aI C fr)(hk:fr.env.kindOf "len"=some .globalImplicit){x:Str}(h:x.length<2^63):eE C fr "len" [.v (.str x)] l os (some (.v (.int x.length))) os:=
 kP P.G F P.sD P.sE (by decide) hk (To.pure λ_ _ _ _ _ q=>Cf h q)
theorem Io(P:PO C K bL bM)(F:aI C fr)(hk:fr.env.kindOf "range"=some .globalImplicit){a b c:Int}(h:0<c)(h':c<1000000):eE C fr "range" [.v (.int a),.v (.int b),.v (.int c)] l os (some (.v (.xS a b c))) os:=
 qo P.G F P.zd P.ze (by decide) hk (To.pure λ_ _ _ _ _ q=>E8 h h' q)
theorem yH(P:PO C K bL bM)(F:aI C fr)(hk:fr.env.kindOf "int"=some .globalImplicit){x:Str}{a:Int}(hn:PySem.intText? x=some a)(hl:x.length<=640):eE C fr "int" [.v (.str x)] l os (some (.v (.int a))) os:=
 qo P.G F P.DN P.DO (by decide) hk (To.pure λ_ _ _ _ _ q=>Ci hn hl q)
end
section
open PySem PySem.W PySem.Calls PyProof.Rows PySem.SeqAt PySem.NumText PySem.W.KIN
noncomputable abbrev tt:zB:= .b true
noncomputable abbrev ff:zB:= .b false
noncomputable abbrev rv(v:PV)(os:List Ob):zB:= .c (some (.v v)) os
noncomputable abbrev ru(v:PV):zB:= .u (some (.v v))
noncomputable abbrev sv(v:PV):Option EV:=some (.v v)
noncomputable section
noncomputable def Bk{α:Type}(d:α)(f:Stmt->α)(kH:List Stmt)(i:Nat):α:=Option.rec d f (kH[i]?)
noncomputable def iZ:List Stmt->Nat->List Stmt:=Bk [] λst=>s9 [] st (fo:=λ_ _ b _ _=>b) (wh:=λ_ b _ _=>b)
noncomputable def Sa:List Stmt->Nat->List Stmt:=Bk [] λst=>s9 [] st (iff:=λ_ b _ _=>b)
noncomputable def MH:List Stmt->Nat->List Stmt:=Bk [] λst=>s9 [] st (iff:=λ_ _ b _=>b)
noncomputable def Bl:List Stmt->Nat->Expr:=Bk (.Name ⟨#[]⟩ ⟨0,0,0,0⟩) λst=>s9 (.Name ⟨#[]⟩ ⟨0,0,0,0⟩) st (wh:=λt _ _ _=>t)
end
theorem nt{b:Bool}(h:b=true):(!b)=false:=congrArg not h
theorem nf{b:Bool}(h:b=false):(!b)=true:=congrArg not h
theorem yI{r k:Nat}(h:r=k):decide ((r:Int)=(k:Nat))=true:=decide_eq_true (congrArg _ h)
theorem qZ{r k:Nat}(h:¬r=k):decide ((r:Int)=(k:Nat))=false:=decide_eq_false λe=>h (Int.ofNat.inj e)
theorem Ip(a b:Nat):decide ([a]<[b])=decide (a<b):=by
 rw[decide_eq_decide];simp[List.cons_lt_cons_iff]
theorem C7{a c:Nat}{x:Str}(h:L x=[a]):(!decide (L (mk [c])<L x))=decide (a<=c):=by rw[c8,h,Ip];by_cases q:a<=c<;>simp[q];exact Nat.lt_of_not_le q
theorem C8{a c:Nat}{x:Str}(h:L x=[a]):(!decide (L x<L (mk [c])))=decide (c<=a):=by rw[c8,h,Ip];by_cases q:c<=a<;>simp[q];exact Nat.lt_of_not_le q
theorem FK{a c:Nat}{x:Str}(h:L x=[a]):decide (mk [c]=x)=decide (c=a):=by rw[decide_eq_decide,<-fE x,h,rA];simp
section
variable{C:Ctx}{fr:Fm}{l:Lo}{os bN os2:List Ob}{bx:Option EV}{cs:List EV}{K:Frag}{bL bM:ClassData}{lv:Nat}
theorem Ev(P:PO C K bL bM)(F:aI C fr)(hk:fr.env.kindOf "abs"=some .globalImplicit){a:Int}:eE C fr "abs" [.v (.int a)] l os (sv (.int (if a<0 then-a else a))) os:=kP P.G F P.Mg P.Mh (by decide) hk (To.pure λ_ _ _ _ _ q=>Nu q)
theorem Bm(P:PO C K bL bM)(F:aI C fr)(hk:fr.env.kindOf "str"=some .globalImplicit){a:Int}(h:a.natAbs.log2<1920):eE C fr "str" [.v (.int a)] l os (sv (.str (toString a))) os:=
 qo P.G F P.DP P.DQ (by decide) hk (To.pure λ_ _ _ _ _ q=>Cg h q)
theorem yJ(P:PO C K bL bM)(F:aI C fr)(hk:fr.env.kindOf "ord"=some .globalImplicit){c:Nat}:eE C fr "ord" [.v (.str (mk [c]))] l os (sv (.int c)) os:=
 kP P.G F P.m_ord P.Mi (by decide) hk (To.pure λ_ _ _ _ _ q=>Kh q)
theorem K5{os1:List Ob}{x:Str}{a:Int}(h:PadOk a=true):fJ C fr "zfill" (.v (.str x)) os1 [.v (.int a)] l os (sv (.str (Txt.zfill x a))) os:=mR G4 rfl (To.pure λ_ _ _ _ _ q=>GH h q)
theorem C9{c:Int}:Calls C j8 lv [.v (.int c)] [] (sv (.bool (qf c))) []:=by
 unfold qf
 cases h:decide (48<=c)
 ·exact Calls.ret 0 rfl λL outer A F=>by apply cw F j8.body [sv (.int c)] [] [ff] h
 ·exact Calls.ret 0 rfl λL outer A F=>by apply cw F j8.body [sv (.int c)] [] [tt] h
theorem w8{c:Int}:Calls C ja lv [.v (.int c)] [] (sv (.bool (fT c))) []:=by
 unfold fT
 cases h:decide (97<=c)
 ·exact Calls.ret 0 rfl λL outer A F=>by apply cw F ja.body [sv (.int c)] [] [ff] h
 ·exact Calls.ret 0 rfl λL outer A F=>by apply cw F ja.body [sv (.int c)] [] [tt] h
theorem zE{c:Int}:Calls C iL lv [.v (.int c)] [] (sv (.bool (jc c))) []:=by
 unfold jc
 cases h:decide (65<=c)
 ·exact Calls.ret 0 rfl λL outer A F=>by apply cw F iL.body [sv (.int c)] [] [ff] h
 ·exact Calls.ret 0 rfl λL outer A F=>by apply cw F iL.body [sv (.int c)] [] [tt] h
theorem Db(P:PO C K bL bM){c:Int}(hl:0<lv):Calls C fS lv [.v (.int c)] [] (sv (.bool (jI c))) []:=by
 unfold jI
 have p:=λL outer A (F:aI C (fS.frame L outer A lv)) (p:Pa)=>cw (m:=0) F fS.body [sv (.int c)] [] p
 have s:=λL outer A (F:aI C (fS.frame L outer A lv)) (l:Lo)=>aS (os:=[]) (l:=l) P.G F ⟨P.rB,P.rC,by decide⟩ (by ac_rfl) hl (w8 (c:=c)) rfl
 have k:=λL outer A (F:aI C (fS.frame L outer A lv)) (l:Lo)=>aS (os:=[]) (l:=l) P.G F ⟨P.sg,P.si,by decide⟩ (by ac_rfl) hl (zE (c:=c)) rfl
 have d:=λL outer A (F:aI C (fS.frame L outer A lv)) (l:Lo)=>aS (os:=[]) (l:=l) P.G F ⟨P.vR,P.vS,by decide⟩ (by ac_rfl) hl (C9 (c:=c)) rfl
 cases h1:fT c
 ·cases h2:jc c
  ·cases h3:qf c
   ·exact Calls.ret 0 rfl λL outer A F=>by apply p L outer A F [rv (.bool (fT c)) [],ff,ru (.bool (jc c)),ff,ru (.bool (qf c)),ff] (s L outer A F _) h1 (k L outer A F _) h2 (d L outer A F _) h3
   ·exact Calls.ret 0 rfl λL outer A F=>by apply p L outer A F [rv (.bool (fT c)) [],ff,ru (.bool (jc c)),ff,ru (.bool (qf c)),tt] (s L outer A F _) h1 (k L outer A F _) h2 (d L outer A F _) h3
  ·exact Calls.ret 0 rfl λL outer A F=>by apply p L outer A F [rv (.bool (fT c)) [],ff,ru (.bool (jc c)),tt] (s L outer A F _) h1 (k L outer A F _) h2
 ·exact Calls.ret 0 rfl λL outer A F=>by apply p L outer A F [rv (.bool (fT c)) [],tt] (s L outer A F _) h1
theorem Ew(P:PO C K bL bM)(F:aI C fr)(hk:fr.env.kindOf "reversed"=some .globalImplicit){s x:Str}{i k n:Nat}{xs:List Str}{p ap q r s' pos:Pos}(hi:fi x fr.vn=some i)(hl:l[i]?=some (some (.o k)))(ho:os[k]?=some (.list (xs.map .str)))
 (kG:JoinOk s xs.reverse=true) (hsz:xs.length<=sizeLine) {y:Str} (hj:Txt.join s xs.reverse=y) (hp:(ap.endLine==pos.line)=true):To (tE C fr (.Call (.Attribute (.Constant (.str s) n p) "join" ap) [.Call (.Name "reversed" q) [.Name x r] [] s'] [] pos)) l os (sv (.str y)) os:= .mk λas ρ σ F0 S Q X e=>by
 subst hj
 have hc:=S.get ho λ_=>rfl
 have z:ρ[i]?=some (some (.loc (as k))):=(S.l i _ hl).2
 show WE C fr _ ρ σ Q X
 with_reducible refine gy DK (yU ⟨?h1, ?h2⟩) ?h3 ?h4 ?h5 hp
 case h1=>rfl
 case h3=>exact .inr ⟨_,_,rfl⟩
 case h4=>exactλ_=>rfl
 case h5=>exactλ_=>rfl
 with_reducible refine cR (uf P.G F hk P.wd P.we (cR (aV F i (ik hi) z (eT (Aw hc λa ha=>eT ?g1))) ?g2) ?g3 ?g4 (by decide)) ?g5
 case g2=>exactλ_=>rfl
 case g3=>exact .inr ⟨_,_,rfl⟩
 case g4=>rfl
 case g5=>exactλ_=>rfl
 have hZ:as k≠a:=St.jG ha hc|>.symm
 with_reducible refine Cr F hZ ((St.bu _ _ hZ).trans hc) (by rw[St.bz,af]) kG hsz ?_
 rw[St.LN,St.Ja ha]
 exact e as σ (S.back rfl)
theorem Iq:To (t2 C fr (binaryOp .Pow) (.v (.int 10)) (.v (.int 18))) l os (sv (.int 1000000000000000000)) os:=To.pure λ_ _ _ _ _ q=>Hb q
theorem Dc(P:PO C K bL bM)(F:aI C fr)(hk:fr.env.kindOf "divmod"=some .globalImplicit){n:Nat}:eE C fr "divmod" [.v (.int n),.v (.int 1000000000000000000)] l os (sv (.tup [.int (n/1000000000000000000:Nat),.int (n%1000000000000000000:Nat)])) os:=
 kP P.G F P.AG P.AH (by decide) hk (To.pure λ_ _ _ _ _ q=>AB q)
theorem K6(P:PO C K bL bM){L':Addr}{outer:List Env}{A:Around}(F:aI C (de.frame L' outer A lv))(v:Int):∀(n:Nat) (done:List (List Nat)),done.length+(gz n).length<=100->∃(k r:Nat) (d:List (List Nat)),r<1000000000000000000/\d++[dg r]=done++gz n/\
 iY C (de.frame L' outer A lv) (Bl de.body 2) (iZ de.body 2) [3] 1 k [sv (.int v),sv (.int n),some (.o 0),none] [.list (done.map λx=> .str (mk x))] (.norm [sv (.int v),sv (.int r),some (.o 0),none] [.list (d.map λx=> .str (mk x))]):=by
 intro n
 induction n using Nat.strongRecOn with
 |_ n ih=>
 intro done hd
 have t:=qY F (Bl de.body 2) [sv (.int v),sv (.int n),some (.o 0),none] [.list (done.map λx=> .str (mk x))] [ru (.int 1000000000000000000)]
 by_cases h:1000000000000000000<=n
 ·have hc:gz n=oz 18 (n%1000000000000000000)::gz (n/1000000000000000000):=by rw[mD,if_pos h]
  have hm:=rL n (show 0<1000000000000000000 by decide)
  obtain⟨k,r,d,h1,h2,h3⟩:=ih (n/1000000000000000000) (Nat.div_lt_self (au (by decide) h) (by decide)) (done++[oz 18 (n%1000000000000000000)]) (by rw[hc,aw]at hd;rw[ae,aL];exact mq [.le (.a (.v 0) (.a (.v 1) (.n 1))) (.n 100)] (.le (.a (.a (.v 0) (.n 1)) (.v 1)) (.n 100)) [1] (Eq.refl true) hd)
  refine⟨k+1,r,d,h1,by rw[h2,hc,aC];rfl,?_⟩
  have z:=Fo hm
  have hsz:(done.map λx=>PV.str (mk x)).length<=sizeLine:=by rw[af];exact aa (by exact aa (ay _ _) hd) w4
  rw[aQ,List.map_singleton,<-z]at h3
  with_unfolding_all have b:=cw (m:=1) F (iZ de.body 2) [sv (.int v),sv (.int n),some (.o 0),none] [.list (done.map λx=> .str (mk x))] [ru (.int 1000000000000000000),
   ru (.tup [.int (n/1000000000000000000:Nat),.int (n%1000000000000000000:Nat)]),ru (.str (cE (n%1000000000000000000:Nat))),
   ru (.str (Txt.zfill (cE (n%1000000000000000000:Nat)) 18)),rv .none [.list ((done.map λx=> .str (mk x))++[.str (Txt.zfill (cE (n%1000000000000000000:Nat)) 18)])]] Iq (Dc P F rfl) (Bm P F rfl (i8 hm)) (K5 (by decide)) (iP rfl rfl hsz)
  apply .next true (t Iq true (decide_eq_true (cT.mpr h))) b rfl h3
 ·refine⟨0,n,done,Nat.lt_of_not_le h,by rw[mD,if_neg h],?_⟩
  apply .stop (t Iq false (decide_eq_false λq=>h (cT.mp q)))
theorem d6{k:Nat}{os1:List Ob}{xs ys:List PV}{v:PV}(hp:EV.ty os1 (.o k)=some "list")(hk:os[k]?=some (.list xs))(hsz:xs.length<=sizeLine)(h:xs++[v]=ys):fJ C fr "append" (.o k) os1 [.v v] l os (some (.v .none)) (os.set k (.list ys)):=h▸iP hp hk hsz
theorem fy(P:PO C K bL bM){v:Int}(hv:dG v):Calls C de lv [.v (.int v)] [] (sv (.str (cE v))) []:=Calls.ret (os2:=[.list (((eV v).map mk).map .str)]) 0 rfl λL' outer A F=>by
 obtain⟨k,r,d,h1,h2,h3⟩:=K6 P F v v.natAbs [] (aa (by rw[p8,cU];exact hv) (by decide:8<=100))
 have w:=zA F Fn.top (os:=[.list []]) (l:=[sv (.int v),sv (.int v.natAbs),some (.o 0),none]) (ks:=[3]) rfl ⟨k,h3⟩
 have hd:d.length+1<=8:=by have:=congrArg List.length h2;rw[ae,ae]at this;unfold dG at hv;simp at this;exact this▸hv
 have hs:∀n,n<=9->n<=sizeLine:=λn h=>aa h (by decide)
 have e1:cE r=mk (dg r):=za r
 have xq:((eV v).map mk).length<=9:=by rw[af,eV,ae,<-fC (gz _),<-h2,ae];split<;>simp<;>omega
 have hj:Txt.join (Str.ofString "") ((eV v).map mk).reverse=cE v:=by rw[<-List.map_reverse,show Str.ofString ""=mk []from rfl,sf,uo,fE]
 have p:=λ(p:Pa)=>cw (m:=0) F de.body [sv (.int v),none,none,none] [] p
 by_cases TP:v<0
 ·have e2:((d.map λx=>PV.str (mk x))++[.str (cE r)])++[.str (Str.ofString "-")]=((eV v).map mk).map .str:=by
   rw[eV,if_pos TP,<-fC (gz _),<-h2,e1];simp only[aQ,b3,bp,fK];rfl
  apply p [rv (.int v.natAbs) [],.o (.norm [sv (.int v),sv (.int r),some (.o 0),none] [.list (d.map λx=> .str (mk x))]),ru (.str (cE r)),rv .none [.list ((d.map λx=> .str (mk x))++[.str (cE r)])],tt,
   rv .none [.list (((eV v).map mk).map .str)],.x (sv (.str (cE v))) [.list (((eV v).map mk).map .str)]] (vg v▸Ev P F rfl) w (Bm P F rfl (i8 h1)) (iP rfl rfl (hs _ (by rw[af];exact aa (a9 hd) (by decide)))) (decide_eq_true TP)
   (d6 rfl rfl (hs _ (by rw[ae,af];exact aa hd (by decide))) e2) (Ew P F rfl (i:=2) (k:=0) rfl rfl rfl (yh hv) (hs _ xq) hj rfl)
 ·have e2:(d.map λx=>PV.str (mk x))++[.str (cE r)]=((eV v).map mk).map .str:=by
   rw[eV,if_neg TP,bV,<-fC (gz _),<-h2,e1];simp only[aQ,b3,bp,fK];rfl
  apply p [rv (.int v.natAbs) [],.o (.norm [sv (.int v),sv (.int r),some (.o 0),none] [.list (d.map λx=> .str (mk x))]),ru (.str (cE r)),rv .none [.list (((eV v).map mk).map .str)],ff,
   .x (sv (.str (cE v))) [.list (((eV v).map mk).map .str)]] (vg v▸Ev P F rfl) w (Bm P F rfl (i8 h1)) (d6 rfl rfl (hs _ (by rw[af];exact aa (a9 hd) (by decide))) e2) (decide_eq_false TP)
   (Ew P F rfl (i:=2) (k:=0) rfl rfl rfl (yh hv) (hs _ xq) hj rfl)
end
end
section
variable{C:Ctx}{K:Frag}{bL bM:ClassData}
theorem PO.Dq(P:PO C K bL bM):la C "is_small" ja:=⟨P.rB,P.rC,by decide⟩
theorem PO.Dr(P:PO C K bL bM):la C "is_alnum" fS:=⟨P.vT,P.vU,by decide⟩
theorem PO.fA(P:PO C K bL bM):la C "number_text" de:=⟨P.qB,P.qC,by decide⟩
theorem PO.nI(P:PO C K bL bM):la C "is_alnum_name" cq:=⟨P.m8,P.m9,by decide⟩
theorem PO.BK(P:PO C K bL bM):la C "shapes" oG:=⟨P.AC,P.AD,by decide⟩
theorem PO.mU(P:PO C K bL bM):la C "is_whole" j9:=⟨P.vV,P.vW,by decide⟩
theorem PO.yS(P:PO C K bL bM):la C "is_pair" lT:=⟨P.yi,P.yj,by decide⟩
theorem PO.xO(P:PO C K bL bM):la C "is_register" eH:=⟨P.qD,P.qE,by decide⟩
theorem PO.q7(P:PO C K bL bM):la C "is_constant" eI:=⟨P.qF,P.qG,by decide⟩
theorem PO.tl(P:PO C K bL bM):la C "is_functor" iM:=⟨P.sj,P.so,by decide⟩
theorem PO.pU(P:PO C K bL bM):la C "is_target" ji:=⟨P.ur,P.uv,by decide⟩
theorem PO.BL(P:PO C K bL bM):la C "is_key" ka:=⟨P.AE,P.AF,by decide⟩
theorem PO.xp(P:PO C K bL bM):la C "is_table" cF:=⟨P.vX,P.vY,by decide⟩
theorem PO.zR(P:PO C K bL bM):la C "is_operand" fq:=⟨P.sq,P.ss,by decide⟩
theorem PO.pV(P:PO C K bL bM):la C "check_row" dU:=⟨P.uw,P.ux,by decide⟩
theorem PO.xP(P:PO C K bL bM):la C "code_digits" dh:=⟨P.qH,P.qI,by decide⟩
theorem PO.lj(P:PO C K bL bM):la C "quoted_name" b8:=⟨P.qJ,P.qK,by decide⟩
theorem PO.uT(P:PO C K bL bM):la C "read_code" dW:=⟨P.uy,P.uz,by decide⟩
theorem PO.gc(P:PO C K bL bM):la C "unquoted_name" aH:=⟨P.na,P.nb,by decide⟩
theorem PO.nJ(P:PO C K bL bM):la C "constant_text" fk:=⟨P.nc,P.ng,by decide⟩
theorem PO.pW(P:PO C K bL bM):la C "functor_text" gH:=⟨P.oU,P.oY,by decide⟩
theorem PO.q8(P:PO C K bL bM):la C "table_words" bT:=⟨P.qL,P.qM,by decide⟩
theorem PO.qu(P:PO C K bL bM):la C "instruction_words" aU:=⟨P.jy,P.jz,by decide⟩
theorem PO.F2(P:PO C K bL bM):la C "listing" dK:=⟨P.yk,P.ym,by decide⟩
theorem PO.uU(P:PO C K bL bM):la C "split_row" eJ:=⟨P.uA,P.uB,by decide⟩
theorem PO.b6(P:PO C K bL bM):la C "read_count" bK:=⟨P.su,P.sw,by decide⟩
theorem PO.ig(P:PO C K bL bM):la C "read_constant" cz:=⟨P.nh,P.ni,by decide⟩
theorem PO.iQ(P:PO C K bL bM):la C "read_functor" fG:=⟨P.o0,P.o6,by decide⟩
theorem PO.fm(P:PO C K bL bM):la C "read_register" ct:=⟨P.nn,P.nq,by decide⟩
theorem PO.zS(P:PO C K bL bM):la C "read_table" aE:=⟨P.sy,P.sA,by decide⟩
theorem PO.pX(P:PO C K bL bM):la C "read_operand" fH:=⟨P.o7,P.o8,by decide⟩
theorem PO.kx(P:PO C K bL bM):la C "read_instruction" aq:=⟨P.ke,P.kg,by decide⟩
theorem PO.pY(P:PO C K bL bM):la C "read_listing" a8:=⟨P.o9,P.pb,by decide⟩
theorem PO.Ds(P:PO C K bL bM):la C "_law_pool" cG:=⟨P.vZ,P.v8,by decide⟩
theorem PO.Dt(P:PO C K bL bM):la C "_law_pick" jb:=⟨P.v9,P.wa,by decide⟩
theorem PO.BN(P:PO C K bL bM):la C "_law_kinds" gI:=⟨P.uC,P.uD,by decide⟩
theorem PO.q9(P:PO C K bL bM):la C "_law_functor" ge:=⟨P.qN,P.qO,by decide⟩
theorem PO.pZ(P:PO C K bL bM):la C "_law_constant" dz:=⟨P.pd,P.pe,by decide⟩
theorem PO.xQ(P:PO C K bL bM):la C "_law_operand" be:=⟨P.qP,P.qQ,by decide⟩
theorem PO.xR(P:PO C K bL bM):la C "_law_spoiled" bU:=⟨P.qR,P.qS,by decide⟩
end
section
open PySem PySem.W PySem.Calls PyProof.Rows PySem.SeqAt PySem.NumText PySem.W.KIN
section
variable{C:Ctx}{fr:Fm}{l:Lo}{os bN os2:List Ob}{bx:Option EV}{cs:List EV}{K:Frag}{bL bM:ClassData}{lv:Nat}
theorem pG(P:PO C K bL bM)(F:aI C fr){x:Str}{id:String}(hk:fr.env.kindOf x=some .globalImplicit)(hm:C.mg x=none)(hb:C.mb x=some (.type id))(hd:(x==("__debug__":Str))=false):zC C fr x (.v (.val (.type id))) l os:=λp=>To.pure λ_ _ _ _ _ q=>B0 P.G F hk hm hb q hd
theorem yK(P:PO C K bL bM)(F:aI C fr)(hk:fr.env.kindOf "CON"=some .globalImplicit):zC C fr "CON" (.v (.int 4)) l os:=λp=>To.pure λ_ _ _ _ _ q=>Dx P.G F hk P.Me (λZ=>cC 4 _) q
theorem ta(P:PO C K bL bM)(F:aI C fr)(hk:fr.env.kindOf "INT"=some .globalImplicit):zC C fr "INT" (.v (.int 5)) l os:=λp=>To.pure λ_ _ _ _ _ q=>Dx P.G F hk P.Mf (λZ=>cC 5 _) q
theorem pH(P:PO C K bL bM)(F:aI C fr)(hk:fr.env.kindOf "isinstance"=some .globalImplicit){v:PV}{T:String}{b:Bool}(h:∀ρ σ (Q:PV->St->Prop) X,Q (.bool b) σ->WN C fr (λvs=>call (.builtin "isinstance") vs) [v,.val (.type T)] ρ σ Q X):
 eE C fr "isinstance" [.v v,.v (.val (.type T))] l os (sv (.bool b)) os:=kP P.G F P.sB P.sC (by decide) hk (To.pure λ_ ρ σ Q X q=>h ρ σ Q X q)
theorem yL(P:PO C K bL bM)(F:aI C fr)(hk:fr.env.kindOf "len"=some .globalImplicit){xs:List PV}(h:xs.length<2^63):eE C fr "len" [.v (.tup xs)] l os (sv (.int xs.length)) os:=
 kP P.G F P.sD P.sE (by decide) hk (To.pure λ_ _ _ _ _ q=>Ce h q)
theorem Ir{x:Str}{xs:List Str}:To (t2 C fr (compareOp .In) (.v (.str x)) (.v (.tup (xs.map .str)))) l os (sv (.bool (decide (x∈xs)))) os:=To.pure λ_ _ _ _ _ q=>Ck q
theorem Is(F:aI C fr){kvs:List (List Int×Int)}{ks:List Int}{v:Int}(h:b0 kvs ks=some v):mQ C fr (.v (.dY kvs)) (.v (lJ ks)) l os (sv (.int v)) os:=
 ⟨⟨_,rfl,.inr (.inl rfl)⟩,rfl,To.pure λ_ _ _ _ _ q=>Ao F h q⟩
theorem It{kvs:List (Int×Int)}{a v:Int}(h:b0 kvs a=some v):mQ C fr (.v (.tabI kvs)) (.v (.int a)) l os (sv (.int v)) os:=
 ⟨⟨_,rfl,.inr (.inl rfl)⟩,rfl,To.pure λ_ _ _ _ _ q=>Am h q⟩
theorem Ex(P:PO C K bL bM)(hl:2<=lv){L':Addr}{outer:List Env}{A:Around}(F:aI C (cq.frame L' outer A lv)){x:Str}:∀cs:List Nat,
 Loop C (cq.frame L' outer A lv) (iZ cq.body 1) [1] 0 1 (cs.map λc=> .str ⟨#[c]⟩) [sv (.str x),none] [] (bif cs.all λd=>jI (d:Nat)then .norm [sv (.str x),none] []else .ret (.v (.bool false)) [])
 |[]=> .nil
 |c::cs=>by
  have p:=λ(p:Pa)=>cw (m:=0) F (iZ cq.body 1) [sv (.str x),sv (.str (mk [c]))] [] p
  have k:=λl=>aS (l:=l) (os:=[]) P.G F P.Dr (by ac_rfl) (bn hl) (Db P (c:=c) (lv:=1) (by decide)) rfl
  cases h:jI (c:Nat)with
  |true=>
   rw[d7,h,nK]
   with_unfolding_all have b:=p [rv (.int c) [],ru (.bool (jI c)),ff] (yJ P F rfl) (k _) (nt h)
   exact .next true b rfl (Ex P hl F cs)
  |false=>
   rw[d7,h]
   apply .ret (p [rv (.int c) [],ru (.bool (jI c)),tt] (yJ P F rfl) (k _) (nf h))
theorem nz(P:PO C K bL bM){x:Str}(hl:2<=lv):Calls C cq lv [.v (.str x)] [] (sv (.bool (g9 (L x)))) []:=by
 cases hx:L x with
 |nil=>
  obtain rfl:x=Str.ofString "":=oF (by rw[hx];rfl)
  exact Calls.ret 0 rfl λL outer A F=>by apply cw (m:=0) F cq.body [sv (.str (Str.ofString "")),none] [] [tt,tt] rfl rfl
 |cons c cs=>
  have hZ:decide (x=Str.ofString "")=false:=decide_eq_false λe=>by rw[e]at hx;cases hx
  have hc:(L x)[((0:Int)).toNat]?=some c:=by rw[hx];rfl
  have p:=λL outer A (F:aI C (cq.frame L outer A lv)) (p:Pa)=>cw (m:=0) F cq.body [sv (.str x),none] [] p
  have k:=λ{L outer A} (F:aI C (cq.frame L outer A lv)) (l:Lo)=>aS (l:=l) (os:=[]) P.G F P.Dq (by ac_rfl) (bn hl) (w8 (C:=C) (c:=c) (lv:=0)) rfl
  rw[show g9 (c::cs)=(fT c&&(c::cs).all λd=>jI (d:Nat))from rfl]
  cases hs:fT (c:Nat)with
  |false=>
   exact Calls.ret 0 rfl λL outer A F=>by apply p L outer A F [ff,rv (.str (mk [c])) [],ru (.int c),ru (.bool (fT c)),tt,tt] hZ (Jo (by decide) (by decide) hc) (yJ P F rfl) (k F _) (nf hs) rfl
  |true=>
   rw[nK]
   have q:=λ{L' outer A} (F:aI C (cq.frame L' outer A lv))=>Im F Fn.top (os:=[]) (l:=[sv (.str x),none]) (ks:=[1]) (x:="char") (i:=1) (s:=x) (by ac_rfl) rfl (show Loop _ _ _ _ _ _ ((L x).map λc=> .str ⟨#[c]⟩) _ _ _ from Ex P hl F (L x))
   rw[hx]at q
   cases ha:(c::cs).all λd=>jI (d:Nat)with
   |true=>
    rw[ha]at q
    exact Calls.ret 0 rfl λL outer A F=>by apply p L outer A F [ff,rv (.str (mk [c])) [],ru (.int c),ru (.bool (fT c)),ff,ff,.o (.norm [sv (.str x),none] [])] hZ (Jo (by decide) (by decide) hc) (yJ P F rfl) (k F _) (nt hs) rfl (q F)
   |false=>
    rw[ha]at q
    exact Calls.ret 0 rfl λL outer A F=>by apply p L outer A F [ff,rv (.str (mk [c])) [],ru (.int c),ru (.bool (fT c)),ff,ff,.o (.ret (.v (.bool false)) [])] hZ (Jo (by decide) (by decide) hc) (yJ P F rfl) (k F _) (nt hs) rfl (q F)
end
section
variable{C:Ctx}{K:Frag}{bL bM:ClassData}{lv:Nat}
noncomputable abbrev nT(x:String):zB:=rv (.val (.type x)) []
theorem mS(P:PO C K bL bM){n:Int}:Calls C j9 lv [.v (.int n)] [] (sv (.bool true)) []:=Calls.ret 0 rfl λL outer A F=>by
 apply cw F j9.body [sv (.int n)] [] [nT "int",rv (.bool true) [],tt,nT "bool",rv (.bool false) []] (pG P F rfl P.DN P.DO (by decide)) (pH P F rfl λ_ _ _ _ q=>vD (.inl ⟨rfl,rfl⟩) q) rfl (pG P F rfl P.Hh P.Hi (by decide)) (pH P F rfl λ_ _ _ _ q=>vD (.inr ⟨rfl,rfl⟩) q)
theorem yM(P:PO C K bL bM){a b:PV}:Calls C lT lv [.v (.tup [a,b])] [] (sv (.bool true)) []:=Calls.ret 0 rfl λL outer A F=>by
 apply cw F lT.body [sv (.tup [a,b])] [] [nT "tuple",rv (.bool true) [],tt,rv (.int 2) []] (pG P F rfl P.sF P.sG (by decide)) (pH P F rfl λ_ _ _ _ q=>rx q) rfl (yL P F rfl (show(2:Nat)<2^63 by decide))
theorem tb(P:PO C K bL bM)(hl:1<=lv){n:Int}:Calls C iM lv [.v (.int n)] [] (sv (.bool (decide (0<=n)))) []:=Calls.ret 0 rfl λL outer A F=>by
 apply cw F iM.body [sv (.int n)] [] [ru (.bool true),tt] (aS P.G F P.mU rfl hl (mS P) rfl) rfl
theorem pI(P:PO C K bL bM)(hl:1<=lv){n:Int}:Calls C ji lv [.v (.int n),.v (.bool true)] [] (sv (.bool (decide (0<=n)))) []:=Calls.ret 0 rfl λL outer A F=>by
 apply cw F ji.body [sv (.int n),sv (.bool true)] [] [ru (.bool true),ff,tt] (aS P.G F P.mU rfl hl (mS P) rfl) rfl rfl
theorem q0(P:PO C K bL bM)(hl:1<=lv){k n:Int}:Calls C eI lv [.v (.tup [.int k,.int n])] [] (sv (.bool (decide (k=4\/k=5)))) []:=by
 have p:=λ{L outer A} (F:aI C (eI.frame L outer A lv)) (p:Pa)=>cw (m:=0) F eI.body [sv (.tup [.int k,.int n])] [] p
 have pr:=λ{L outer A} (F:aI C (eI.frame L outer A lv)) (l:Lo)=>aS (l:=l) (os:=[]) P.G F P.yS (by ac_rfl) hl (yM P (a:= .int k) (b:= .int n)) rfl
 have i0:=λ(fr:Fm) (l:Lo)=>BU (C:=C) (fr:=fr) (l:=l) (os:=[]) (xs:=[.int k,.int n]) (i:=0) (by decide) (by decide) rfl
 have i1:=λ(fr:Fm) (l:Lo)=>BU (C:=C) (fr:=fr) (l:=l) (os:=[]) (xs:=[.int k,.int n]) (i:=1) (by decide) (by decide) rfl
 have w:=λ{L outer A} (F:aI C (eI.frame L outer A lv)) (l:Lo)=>aS (l:=l) (os:=[]) P.G F P.mU (by ac_rfl) hl (mS P (n:=n)) rfl
 by_cases h1:k=4
 ·rw[show decide (k=4\/k=5)=true from decide_eq_true (.inl h1)]
  exact Calls.ret 0 rfl λL outer A F=>by apply p F [rv (.bool true) [],tt,ru (.int k),ru (.int 4),tt,tt,ru (.int n),ru (.bool true)] (pr F _) rfl (i0 _ _) (yK P F rfl) (decide_eq_true h1) rfl (i1 _ _) (w F _)
 ·by_cases h2:k=5
  ·rw[show decide (k=4\/k=5)=true from decide_eq_true (.inr h2)]
   exact Calls.ret 0 rfl λL outer A F=>by apply p F [rv (.bool true) [],tt,ru (.int k),ru (.int 4),ff,ru (.int k),ru (.int 5),tt,ru (.int n),ru (.bool true)] (pr F _) rfl (i0 _ _) (yK P F rfl) (decide_eq_false h1) (i0 _ _) (ta P F rfl) (decide_eq_true h2) (i1 _ _) (w F _)
  ·rw[show decide (k=4\/k=5)=false from decide_eq_false λq=>q.elim h1 h2]
   exact Calls.ret 0 rfl λL outer A F=>by apply p F [rv (.bool true) [],tt,ru (.int k),ru (.int 4),ff,ru (.int k),ru (.int 5),ff] (pr F _) rfl (i0 _ _) (yK P F rfl) (decide_eq_false h1) (i0 _ _) (ta P F rfl) (decide_eq_false h2)
theorem xJ(P:PO C K bL bM)(hl:1<=lv){x:Str}{names:List Str}{n:Int}:Calls C eH lv [.v (.tup [.str x,.int n]),.v (.tup (names.map .str))] [] (sv (.bool (decide (x∈names)&&decide (1<=n)))) []:=by
 have p:=λ{L outer A} (F:aI C (eH.frame L outer A lv)) (p:Pa)=>cw (m:=0) F eH.body [sv (.tup [.str x,.int n]),sv (.tup (names.map .str))] [] p
 have pr:=λ{L outer A} (F:aI C (eH.frame L outer A lv)) (l:Lo)=>aS (l:=l) (os:=[]) P.G F P.yS (by ac_rfl) hl (yM P (a:= .str x) (b:= .int n)) rfl
 have i0:=λ(fr:Fm) (l:Lo)=>BU (C:=C) (fr:=fr) (l:=l) (os:=[]) (xs:=[.str x,.int n]) (i:=0) (by decide) (by decide) rfl
 have i1:=λ(fr:Fm) (l:Lo)=>BU (C:=C) (fr:=fr) (l:=l) (os:=[]) (xs:=[.str x,.int n]) (i:=1) (by decide) (by decide) rfl
 have w:=λ{L outer A} (F:aI C (eH.frame L outer A lv)) (l:Lo)=>aS (l:=l) (os:=[]) P.G F P.mU (by ac_rfl) hl (mS P (n:=n)) rfl
 cases h:decide (x∈names)with
 |true=>exact Calls.ret 0 rfl λL outer A F=>by apply p F [rv (.bool true) [],tt,ru (.str x),ru (.bool (decide (x∈names))),tt,ru (.int n),ru (.bool true),tt,ru (.int n)] (pr F _) rfl (i0 _ _) Ir h (i1 _ _) (w F _) rfl (i1 _ _)
 |false=>exact Calls.ret 0 rfl λL outer A F=>by apply p F [rv (.bool true) [],tt,ru (.str x),ru (.bool (decide (x∈names))),ff] (pr F _) rfl (i0 _ _) Ir h
theorem FL(P:PO C K bL bM)(hl:2<=lv){k n:Int}:Calls C ka lv [.v (.tup [.int k,.int n]),.v (.str "T")] [] (sv (.bool (decide (k=4\/k=5)))) []:=Calls.ret 0 rfl λL outer A F=>by
 apply cw F ka.body [sv (.tup [.int k,.int n]),sv (.str "T")] [] [tt,ru (.bool (decide (k=4\/k=5)))] rfl (aS P.G F P.q7 rfl (bn hl) (q0 P (lv:=1) (by decide)) rfl)
theorem FM(P:PO C K bL bM)(hl:2<=lv){n:Int}:Calls C ka lv [.v (.int n),.v (.str "U")] [] (sv (.bool (decide (0<=n)))) []:=Calls.ret 0 rfl λL outer A F=>by
 apply cw F ka.body [sv (.int n),sv (.str "U")] [] [ff,ru (.bool (decide (0<=n)))] rfl (aS P.G F P.tl rfl (bn hl) (tb P (lv:=1) (by decide)) rfl)
theorem MI(P:PO C K bL bM){fr:Fm}(F:aI C fr)(Tp:ir fr){x:Str}{body:List Stmt}{ks:List Nat}{i:Nat}{kvs:List (List Int×Int)}{l:Lo}{os:List Ob}{o:ql}(hi:fi x fr.vn=some i)(hk:A9 os.length (gk ks l)=true)
 (hL:Loop C fr body ks os.length i (kvs.map λp=>lJ p.1) (gk ks l) os o):uM C fr x body (.v (.dY kvs)) l os o:=HQ F Tp (λ_=>E5 F P.G kvs) hi hk hL
theorem MJ(P:PO C K bL bM){fr:Fm}(F:aI C fr)(Tp:ir fr){x:Str}{body:List Stmt}{ks:List Nat}{i:Nat}{kvs:List (Int×Int)}{l:Lo}{os:List Ob}{o:ql}(hi:fi x fr.vn=some i)(hk:A9 os.length (gk ks l)=true)
 (hL:Loop C fr body ks os.length i (kvs.map λp=> .int p.1) (gk ks l) os o):uM C fr x body (.v (.tabI kvs)) l os o:=HQ F Tp (λ_=>E4 F P.G kvs) hi hk hL
theorem Ey(P:PO C K bL bM)(hl:3<=lv){L':Addr}{outer:List Env}{A:Around}(F:aI C (cF.frame L' outer A lv)){t:List (List Int×Int)}:∀kvs:List ((Int×Int)×Int),(∀p∈kvs,b0 t [p.1.1,p.1.2]=some p.2)->
 Loop C (cF.frame L' outer A lv) (iZ (Sa cF.body 0) 1) [3] 0 3 ((jW kvs).map λp=>lJ p.1) [sv (.dY t),sv (.str "T"),sv (.bool true),none,none] [] (bif kvs.all Jj then .norm [sv (.dY t),sv (.str "T"),sv (.bool true),none,none] []else .ret (.v (.bool false)) [])
 |[],_=> .nil
 |((k,n),v)::kvs,GQ=>by
  have p:=λ(p:Pa)=>cw (m:=0) F (iZ (Sa cF.body 0) 1) [sv (.dY t),sv (.str "T"),sv (.bool true),sv (.tup [.int k,.int n]),none] [] p
  have kk:=λl=>aS (l:=l) (os:=[]) P.G F P.BL (by ac_rfl) (bn hl) (FL P (k:=k) (n:=n) (lv:=2) (by decide)) rfl
  have tg:=λl=>aS (l:=l) (os:=[]) P.G F P.pU (by ac_rfl) (bn hl) (pI P (n:=v) (lv:=1) (by decide)) rfl
  have lk:=λl=>Is (l:=l) (os:=[]) F (GQ ((k,n),v) (az ..))
  cases h1:decide (k=4\/k=5)with
  |false=>
   rw[d7,show Jj ((k,n),v)=false from congrArg (·&&_) h1]
   apply .ret (p [rv (.bool (decide (k=4\/k=5))) [],tt,tt] (kk _) (nf h1) rfl)
  |true=>cases h2:decide (0<=v)with
   |false=>
    rw[d7,show Jj ((k,n),v)=false from congr (congrArg and h1) h2]
    apply .ret (p [rv (.bool (decide (k=4\/k=5))) [],ff,ru (.int v),ru (.bool (decide (0<=v))),tt,tt] (kk _) (nt h1) (lk _) (tg _) (nf h2) rfl)
   |true=>
    rw[d7,show Jj ((k,n),v)=true from congr (congrArg and h1) h2,nK]
    with_unfolding_all have b:=p [rv (.bool (decide (k=4\/k=5))) [],ff,ru (.int v),ru (.bool (decide (0<=v))),ff,ff] (kk _) (nt h1) (lk _) (tg _) (nt h2) rfl
    exact .next true b rfl (Ey P hl F kvs λp hp=>GQ p (aK _ hp))
theorem Ez(P:PO C K bL bM)(hl:3<=lv){L':Addr}{outer:List Env}{A:Around}(F:aI C (cF.frame L' outer A lv)){t:List (Int×Int)}:∀kvs:List (Int×Int),(∀p∈kvs,b0 t p.1=some p.2)->
 Loop C (cF.frame L' outer A lv) (iZ (Sa cF.body 0) 1) [3] 0 3 (kvs.map λp=> .int p.1) [sv (.tabI t),sv (.str "U"),sv (.bool true),none,none] [] (bif kvs.all Jk then .norm [sv (.tabI t),sv (.str "U"),sv (.bool true),none,none] []else .ret (.v (.bool false)) [])
 |[],_=> .nil
 |(k,v)::kvs,GQ=>by
  have p:=λ(p:Pa)=>cw (m:=0) F (iZ (Sa cF.body 0) 1) [sv (.tabI t),sv (.str "U"),sv (.bool true),sv (.int k),none] [] p
  have kk:=λl=>aS (l:=l) (os:=[]) P.G F P.BL (by ac_rfl) (bn hl) (FM P (n:=k) (lv:=2) (by decide)) rfl
  have tg:=λl=>aS (l:=l) (os:=[]) P.G F P.pU (by ac_rfl) (bn hl) (pI P (n:=v) (lv:=1) (by decide)) rfl
  have lk:=λ(fr:Fm) l=>It (C:=C) (fr:=fr) (l:=l) (os:=[]) (GQ (k,v) (az ..))
  cases h1:decide (0<=k)with
  |false=>
   rw[d7,show Jk (k,v)=false from congrArg (·&&_) h1]
   apply .ret (p [rv (.bool (decide (0<=k))) [],tt,tt] (kk _) (nf h1) rfl)
  |true=>cases h2:decide (0<=v)with
   |false=>
    rw[d7,show Jk (k,v)=false from congr (congrArg and h1) h2]
    apply .ret (p [rv (.bool (decide (0<=k))) [],ff,ru (.int v),ru (.bool (decide (0<=v))),tt,tt] (kk _) (nt h1) (lk _ _) (tg _) (nf h2) rfl)
   |true=>
    rw[d7,show Jk (k,v)=true from congr (congrArg and h1) h2,nK]
    with_unfolding_all have b:=p [rv (.bool (decide (0<=k))) [],ff,ru (.int v),ru (.bool (decide (0<=v))),ff,ff] (kk _) (nt h1) (lk _ _) (tg _) (nt h2) rfl
    exact .next true b rfl (Ez P hl F kvs λp hp=>GQ p (aK _ hp))
theorem Bn(P:PO C K bL bM)(hl:3<=lv){kvs:List ((Int×Int)×Int)}(hn:(kvs.map (·.1)).Nodup):Calls C cF lv [.v (.dY (jW kvs)),.v (.str "T"),.v (.bool true)] [] (sv (.bool (kvs.all Jj))) []:=by
 have q:=λ{L' outer A} (F:aI C (cF.frame L' outer A lv))=>MI P F Fn.top (os:=[]) (l:=[sv (.dY (jW kvs)),sv (.str "T"),sv (.bool true),none,none]) (ks:=[3]) (x:="key") (i:=3) (by ac_rfl) rfl (Ey P hl F kvs λp hp=>by
  obtain⟨i,hi⟩:=dP hp;exact AO hn hi)
 have p:=λ{L outer A} (F:aI C (cF.frame L outer A lv)) (p:Pa)=>cw (m:=0) F cF.body [sv (.dY (jW kvs)),sv (.str "T"),sv (.bool true),none,none] [] p
 cases ha:kvs.all Jj with
 |true=>
  rw[ha]at q
  exact Calls.ret 0 rfl λL outer A F=>by apply p F [tt,nT "dict",rv (.bool true) [],ff,.o (.norm [sv (.dY (jW kvs)),sv (.str "T"),sv (.bool true),none,none] [])] rfl (pG P F rfl P.wb P.wc (by decide)) (pH P F rfl λ_ _ _ _ q=>uh q) rfl (q F)
 |false=>
  rw[ha]at q
  exact Calls.ret 0 rfl λL outer A F=>by apply p F [tt,nT "dict",rv (.bool true) [],ff,.o (.ret (.v (.bool false)) [])] rfl (pG P F rfl P.wb P.wc (by decide)) (pH P F rfl λ_ _ _ _ q=>uh q) rfl (q F)
theorem Bo(P:PO C K bL bM)(hl:3<=lv){kvs:List (Int×Int)}(hn:(kvs.map (·.1)).Nodup):Calls C cF lv [.v (.tabI kvs),.v (.str "U"),.v (.bool true)] [] (sv (.bool (kvs.all Jk))) []:=by
 have q:=λ{L' outer A} (F:aI C (cF.frame L' outer A lv))=>MJ P F Fn.top (os:=[]) (l:=[sv (.tabI kvs),sv (.str "U"),sv (.bool true),none,none]) (ks:=[3]) (x:="key") (i:=3) (by ac_rfl) rfl (Ez P hl F kvs λp hp=>r9 hn hp)
 have p:=λ{L outer A} (F:aI C (cF.frame L outer A lv)) (p:Pa)=>cw (m:=0) F cF.body [sv (.tabI kvs),sv (.str "U"),sv (.bool true),none,none] [] p
 cases ha:kvs.all Jk with
 |true=>
  rw[ha]at q
  exact Calls.ret 0 rfl λL outer A F=>by apply p F [tt,nT "dict",rv (.bool true) [],ff,.o (.norm [sv (.tabI kvs),sv (.str "U"),sv (.bool true),none,none] [])] rfl (pG P F rfl P.wb P.wc (by decide)) (pH P F rfl λ_ _ _ _ q=>ug q) rfl (q F)
 |false=>
  rw[ha]at q
  exact Calls.ret 0 rfl λL outer A F=>by apply p F [tt,nT "dict",rv (.bool true) [],ff,.o (.ret (.v (.bool false)) [])] rfl (pG P F rfl P.wb P.wc (by decide)) (pH P F rfl λ_ _ _ _ q=>ug q) rfl (q F)
theorem zF(P:PO C K bL bM)(hl:4<=lv){k:Str}{o:dA}(hf:o.fits k):Calls C fq lv [.v o.pv,.v (.str k),.v (.bool true)] [] (sv (.bool (o.ok k))) []:=by
 have p:=λ{L outer A} (F:aI C (fq.frame L outer A lv)) (p:Pa)=>cw (m:=0) F fq.body [sv o.pv,sv (.str k),sv (.bool true)] [] p
 cases o with
 |CA x n=>
  have r:=λ{L outer A} (F:aI C (fq.frame L outer A lv)) (l:Lo) (names:List Str)=>aS (l:=l) (os:=[]) P.G F P.xO (by ac_rfl) (bn hl) (xJ P (x:=x) (n:=n) (names:=names) (lv:=1) (by decide)) rfl
  rcases hf with rfl|rfl|rfl
  ·exact Calls.ret 0 rfl λL outer A F=>by apply p F [tt,rv (.bool (decide (x∈(["x","y"]:List Str))&&decide (1<=n))) []] rfl (r F _ ["x","y"])
  ·exact Calls.ret 0 rfl λL outer A F=>by apply p F [ff,tt,rv (.bool (decide (x∈(["x"]:List Str))&&decide (1<=n))) []] rfl rfl (r F _ ["x"])
  ·exact Calls.ret 0 rfl λL outer A F=>by apply p F [ff,ff,tt,rv (.bool (decide (x∈(["y"]:List Str))&&decide (1<=n))) []] rfl rfl rfl (r F _ ["y"])
 |con c n=>
  obtain rfl:=hf
  exact Calls.ret 0 rfl λL outer A F=>by apply p F [ff,ff,ff,tt,rv (.bool (decide (c=4\/c=5))) []] rfl rfl rfl rfl (aS P.G F P.q7 rfl (bn hl) (q0 P (lv:=1) (by decide)) rfl)
 |num n=>
  have f:=λ{L outer A} (F:aI C (fq.frame L outer A lv)) (l:Lo)=>aS (l:=l) (os:=[]) P.G F P.tl (by ac_rfl) (bn hl) (tb P (n:=n) (lv:=1) (by decide)) rfl
  rcases hf with rfl|rfl|rfl
  ·exact Calls.ret 0 rfl λL outer A F=>by apply p F [ff,ff,ff,ff,tt,tt,rv (.bool (decide (0<=n))) []] rfl rfl rfl rfl rfl rfl (f F _)
  ·exact Calls.ret 0 rfl λL outer A F=>by apply p F [ff,ff,ff,ff,ff,tt,tt,rv (.bool (decide (0<=n))) []] rfl rfl rfl rfl rfl rfl rfl (f F _)
  ·exact Calls.ret 0 rfl λL outer A F=>by apply p F [ff,ff,ff,ff,ff,ff,ff,tt,rv (.bool (decide (0<=n))) []] rfl rfl rfl rfl rfl rfl rfl rfl (aS P.G F P.pU rfl (bn hl) (pI P (lv:=1) (by decide)) rfl)
 |dY kvs=>
  obtain⟨rfl,hn⟩:=hf
  exact Calls.ret 0 rfl λL outer A F=>by apply p F [ff,ff,ff,ff,ff,ff,ff,ff,rv (.bool (kvs.all Jj)) []] rfl rfl rfl rfl rfl rfl rfl rfl (aS P.G F P.xp rfl (bn hl) (Bn P (lv:=3) (by decide) hn) rfl)
 |tabI kvs=>
  obtain⟨rfl,hn⟩:=hf
  exact Calls.ret 0 rfl λL outer A F=>by apply p F [ff,ff,ff,ff,ff,ff,ff,ff,rv (.bool (kvs.all Jk)) []] rfl rfl rfl rfl rfl rfl rfl rfl (aS P.G F P.xp rfl (bn hl) (Bo P (lv:=3) (by decide) hn) rfl)
end
section
variable{C:Ctx}{fr:Fm}{l:Lo}{os bN os2:List Ob}{bx:Option EV}{cs:List EV}{K:Frag}{bL bM:ClassData}{lv:Nat}
noncomputable def Ot(v:PV)(t:Str):Prop:=v=.str t\/∃i:Int,v=.int i/\i.natAbs.log2<1920/\t=toString i
theorem Iu{v:PV}{t acc:Str}{σ:St}{P:Str->Prop}(f:Ot v t)(hsz:(acc++t).length<=sizeLine)(h:P (acc++t)):
 (∃y,v=.str y/\(acc++y).length<=sizeLine/\P (acc++y))\/∃a:Int,v=.int a/\a.natAbs.log2<1920/\(acc++toString a).length<=sizeLine/\P (acc++toString a):=by
 rcases f with rfl|⟨i,rfl,hi,rfl⟩
 ·exact .inl ⟨_,rfl,hsz,h⟩
 ·exact .inr ⟨_,rfl,hi,hsz,h⟩
theorem Z8{a b t1 t2:Str}{e1 e2:Expr}{v1 v2:PV}{k1 k2:Nat}{p1 p2 p3 p4 pos:Pos}(h1:To (tE C fr e1) l os (sv v1) os)(h2:To (tE C fr e2) l os (sv v2) os)(f1:Ot v1 t1)(f2:Ot v2 t2)(hsz:a.length+t1.length+b.length+t2.length<=sizeLine):
 To (tE C fr (.JoinedStr [.Constant (.str a) k1 p1,.FormattedValue e1 (-1) none p2,.Constant (.str b) k2 p3,.FormattedValue e2 (-1) none p4] pos)) l os (sv (.str ((((Str.empty++a)++t1)++b)++t2))) os:= .mk λas ρ σ F s Q X e=>by
 have n1:(Str.empty++a).length<=sizeLine:=by rw[ie,qe];exact O6 [.le (.a (.a (.a (.v 0) (.v 1)) (.v 2)) (.v 3)) (.v 4)] (.le (.a (.n 0) (.v 0)) (.v 4)) [1] (Eq.refl true) hsz
 have n2:((Str.empty++a)++t1).length<=sizeLine:=by rw[ie,ie,qe];exact O6 [.le (.a (.a (.a (.v 0) (.v 1)) (.v 2)) (.v 3)) (.v 4)] (.le (.a (.a (.n 0) (.v 0)) (.v 1)) (.v 4)) [1] (Eq.refl true) hsz
 have n3:(((Str.empty++a)++t1)++b).length<=sizeLine:=by rw[ie,ie,ie,qe];exact O6 [.le (.a (.a (.a (.v 0) (.v 1)) (.v 2)) (.v 3)) (.v 4)] (.le (.a (.a (.a (.n 0) (.v 0)) (.v 1)) (.v 2)) (.v 4)) [1] (Eq.refl true) hsz
 have n4:((((Str.empty++a)++t1)++b)++t2).length<=sizeLine:=by rw[ie,ie,ie,ie,qe];exact O6 [.le (.a (.a (.a (.v 0) (.v 1)) (.v 2)) (.v 3)) (.v 4)] (.le (.a (.a (.a (.a (.n 0) (.v 0)) (.v 1)) (.v 2)) (.v 3)) (.v 4)) [1] (Eq.refl true) hsz
 show WE C fr _ ρ σ Q X
 with_reducible refine y7 (Ay n1 (G1 ?_))
 refine h1.go as ρ σ F s _ _ λcK cZ v=> ?_
 refine Iu (σ:=cZ) (P:=λy=>WJ C fr _ y ρ cZ Q X) f1 n2 ?_
 with_reducible refine Ay n3 (G1 ?_)
 refine h2.go cK ρ cZ F v.s _ _ λiC hH w=> ?_
 refine Iu (σ:=hH) (P:=λy=>WJ C fr _ y ρ hH Q X) f2 n4 ?_
 with_reducible refine NU n4 ?_
 exact e iC hH ⟨v.a.trans v.n w.a,w.s,trivial,aa v.n w.n⟩
theorem gW(P:PO C K bL bM)(F:aI C fr)(hk:fr.env.kindOf "range"=some .globalImplicit){a:Int}:eE C fr "range" [.v (.int a)] l os (sv (.xS 0 a 1)) os:=
 qo P.G F P.zd P.ze (by decide) hk (To.pure λ_ _ _ _ _ q=>E7 q)
theorem pJ(F:aI C fr)(Tp:ir fr){x:Str}{body:List Stmt}{ks:List Nat}{i n:Nat}{o:ql}(hn:n<2^61)(hi:fi x fr.vn=some i)(hk:A9 os.length (gk ks l)=true)
 (hL:Loop C fr body ks os.length i ((List.range' 0 n).map λi=> .int (i:Nat)) (gk ks l) os o):uM C fr x body (.v (.xS 0 n 1)) l os o:=
 HQ F Tp (λ_=>Ac F n (by unfold Builtin.Range.rangeSize;simp;omega) (small_one (by decide) (by decide) (by exact aF _) (by exact rf [.lt (.v 0) (.n 2305843009213693952)] (.BO (.c (.v 0)) (.n 4611686018427387904)) [1] (Eq.refl true) hn))) hi hk (by
  unfold tu;rw[List.range_eq_range',show(λi:Nat=>PV.int (0+(i:Nat)*1))=λi:Nat=> .int (i:Nat)from funext λi=>by rw[Int.mul_one,ip]];exact hL)
theorem Iv{k:Nat}{kvs:List (Str×PV)}{x:Str}{v:PV}(hk:os[k]?=some (.dS kvs))(hv:b0 kvs x=some v):mQ C fr (.o k) (.v (.str x)) l os (sv v) os:=
 ⟨⟨_,by show(os[k]?).bind Ob.ty=some "dict";rw[hk];rfl,.inr (.inl rfl)⟩,rfl,To.read hk (λ_=>rfl) λ_ _ _ _ _ hc q=>GN hc hv q⟩
theorem vm(G:dr C){k:Nat}{kvs:List (Str×PV)}{x:Str}(hk:os[k]?=some (.dS kvs)):To (t2 C fr (compareOp .NotIn) (.v (.str x)) (.o k)) l os (sv (.bool (!(b0 kvs x).isSome))) os:=
 To.read hk (λ_=>rfl) λ_ _ _ _ _ hc q=>E9 G hc q
theorem EA(P:PO C K bL bM)(hl:5<=lv){L':Addr}{outer:List Env}{A:Around}(F:aI C (dU.frame L' outer A lv)){T:Ob}(hT:T.live=true){nm ks:Str}{fg:List dA}(B7:nm.length<=100)(yc:(L ks).length<=4)(hf:jJ (L ks) fg):∀m j,j+m=(L ks).length->
 Loop C (dU.frame L' outer A lv) (iZ dU.body 5) [5] 1 5 ((List.range' j m).map λi=> .int (i:Nat)) [some (.o 0),sv (.tup (.str nm::fg.map dA.pv)),sv (.bool true),sv (.str nm),sv (.str ks),none] [T]
  (bif jA ((L ks).drop j) (fg.drop j)then .norm [some (.o 0),sv (.tup (.str nm::fg.map dA.pv)),sv (.bool true),sv (.str nm),sv (.str ks),none] [T]else .exc)
 |0,j,h=>by rw[lu (aZ (show(L ks).length=j from h.symm))];exact .nil
 |m+1,j,h=>by
  have dZ:=iN hf
  have h1:j<(L ks).length:=by exact nW [.eq (.a (.v 0) (.a (.v 1) (.n 1))) (.v 2)] (.lt (.v 0) (.v 2)) [1] (Eq.refl true) h
  have h2:j<fg.length:=by exact Ge [.eq (.a (.v 0) (.a (.v 1) (.n 1))) (.v 2),.eq (.v 3) (.v 2)] (.lt (.v 0) (.v 3)) [1,.negSucc 0] (Eq.refl true) h dZ
  have hc:=aB h1
  have ho:=aB h2
  have K7:=uF hf hc ho
  have ih:=EA P hl F hT B7 yc hf m (j+1) (by exact dH (nW [.eq (.a (.v 0) (.a (.v 1) (.n 1))) (.v 2)] (.le (.a (.a (.v 0) (.n 1)) (.v 1)) (.v 2)) [1] (Eq.refl true) h) (nW [.eq (.a (.v 0) (.a (.v 1) (.n 1))) (.v 2)] (.le (.v 2) (.a (.a (.v 0) (.n 1)) (.v 1))) [.negSucc 0] (Eq.refl true) h))
  rw[bY h1,bY h2]
  generalize(L ks)[j]=c at*
  generalize fg[j]=o at*
  have ot:=λl=>aS (l:=l) (os:=[T]) P.G F P.zR (by ac_rfl) (bn hl) (zF P (lv:=4) (by decide) K7) (show(_&&(_&&_))=true by rw[show[T].all Ob.live=true by rw[d7,hT];rfl];rfl)
  have i1:=λ(fr:Fm) l=>BU (C:=C) (fr:=fr) (l:=l) (os:=[T]) (xs:= .str nm::fg.map dA.pv) (i:=(j:Int)+1) (v:=o.pv) (by exact aF _) (by exact nW [.le (.v 0) (.n 4),.eq (.a (.v 1) (.a (.v 2) (.n 1))) (.v 0)] (.BO (.a (.c (.v 1)) (.n 1)) (.n 9223372036854775808)) [1,1] (Eq.refl true) yc h) (by rw[show((j:Int)+1).toNat=j+1 by exact rfl,fv,bc,ho];rfl)
  have i2:=λ(fr:Fm) l=>Jo (C:=C) (fr:=fr) (l:=l) (os:=[T]) (x:=ks) (i:=j) (c:=c) (by exact aF _) (by exact nW [.le (.v 0) (.n 4),.eq (.a (.v 1) (.a (.v 2) (.n 1))) (.v 0)] (.BO (.c (.v 1)) (.n 4611686018427387904)) [1,1] (Eq.refl true) yc h) (by rw[bD];exact hc)
  have p:=λ(p:Pa)=>cw (m:=1) F (iZ dU.body 5) [some (.o 0),sv (.tup (.str nm::fg.map dA.pv)),sv (.bool true),sv (.str nm),sv (.str ks),sv (.int j)] [T] p
  cases hk:o.ok (mk [c])with
  |true=>
   rw[show jA (c::(L ks).drop (j+1)) (o::fg.drop (j+1))=(o.ok (mk [c])&&jA ((L ks).drop (j+1)) (fg.drop (j+1)))from rfl,hk,nK]
   with_unfolding_all have b:=p [rv o.pv [T],ru (.str (mk [c])),ru (.bool (o.ok (mk [c]))),ff] (i1 _ _) (i2 _ _) (ot _) (nt hk)
   exact .next true b rfl ih
  |false=>
   rw[show jA (c::(L ks).drop (j+1)) (o::fg.drop (j+1))=(o.ok (mk [c])&&jA ((L ks).drop (j+1)) (fg.drop (j+1)))from rfl,hk]
   have l1:(Str.ofString "wrong operand ").length=14:=by ac_rfl
   have l2:(Str.ofString " of ").length=4:=by ac_rfl
   have l3:(Str.ofString (toString ((j:Int)+1))).length<=10:=vf (n:=j+1) (k:=9) (by exact nW [.le (.v 0) (.n 4),.eq (.a (.v 1) (.a (.v 2) (.n 1))) (.v 0)] (.lt (.a (.v 1) (.n 1)) (.n 10000000000)) [1,1] (Eq.refl true) yc h)
   have hg:((j:Int)+1).natAbs.log2<1920:=i8 (m:=j+1) (by exact nW [.le (.v 0) (.n 4),.eq (.a (.v 1) (.a (.v 2) (.n 1))) (.v 0)] (.lt (.a (.v 1) (.n 1)) (.n 1000000000000000000)) [1,1] (Eq.refl true) yc h)
   have lg:(Str.ofString "wrong operand ").length+(Str.ofString (toString ((j:Int)+1))).length+(Str.ofString " of ").length+nm.length<=sizeLine:=by rw[l1,l2,g8];exact mq [.le (.v 0) (.n 100),.le (.v 1) (.n 10)] (.le (.a (.a (.a (.n 14) (.v 1)) (.n 4)) (.v 0)) (.n 16777216)) [1,1] (Eq.refl true) B7 l3
   apply .exc (p [rv o.pv [T],ru (.str (mk [c])),ru (.bool (o.ok (mk [c]))),tt,.x (sv (.str ((((Str.empty++Str.ofString "wrong operand ")++Str.ofString (toString ((j:Int)+1)))++Str.ofString " of ")++nm))) [T]] (i1 _ _) (i2 _ _) (ot _) (nf hk)
    (Z8 (v1:= .int (j+1)) (v2:= .str nm) (To.bin (To.name F rfl rfl rfl) (To.pure λ_ _ _ _ _ q=>dn q) (Be rfl _ _)) (To.name F rfl rfl rfl) (.inr ⟨_,rfl,hg,rfl⟩) (.inl rfl) lg) (dm P F rfl (bn hl)))
theorem uO(P:PO C K bL bM)(hl:5<=lv){sh:List (Str×Str)}{nm ks:Str}{fg:List dA}(hk:b0 sh nm=some ks)(yc:(L ks).length<=4)(B7:nm.length<=100)(hf:jJ (L ks) fg):
 Calls C dU lv [.o 0,.v (.tup (.str nm::fg.map dA.pv)),.v (.bool true)] [.dS (sh.map λp=>(p.1,.str p.2))] (bif jA (L ks) fg then sv .none else none) [.dS (sh.map λp=>(p.1,.str p.2))]:=by
 have BV:b0 (sh.map λp=>(p.1,PV.str p.2)) nm=some (PV.str ks):=by rw[tP,hk];rfl
 generalize(sh.map λp=>(p.1,PV.str p.2))=kvs at BV
 have e1:(L ks).length=ks.length:=gA ks
 have e2:(PV.str nm::fg.map dA.pv).length=ks.length+1:=by rw[aw,af,iN hf,e1]
 have lt:=λ{fr:Fm} (F:aI C fr) hk l=>yL (os:=[.dS kvs]) (l:=l) P F hk (xs:= .str nm::fg.map dA.pv) (by rw[e2];exact ah (a6 yc) (by decide))
 rw[e2]at lt
 have i0:=λ(fr:Fm) l=>BU (C:=C) (fr:=fr) (l:=l) (os:=[.dS kvs]) (xs:= .str nm::fg.map dA.pv) (i:=0) (by decide) (by decide) rfl
 have q:=λ{L' outer A} (F:aI C (dU.frame L' outer A lv))=>pJ F Fn.top (os:=[.dS kvs]) (n:=ks.length) (l:=[some (.o 0),sv (.tup (.str nm::fg.map dA.pv)),sv (.bool true),sv (.str nm),sv (.str ks),none]) (ks:=[5]) (x:="place") (i:=5) (by exact ah yc (by decide)) (by ac_rfl) rfl (EA P hl F (T:= .dS kvs) rfl B7 yc hf ks.length 0 (by rw[cU,e1]))
 have p:=λ{L outer A} (F:aI C (dU.frame L outer A lv)) (o:ql)=>cw (m:=1) F dU.body [some (.o 0),sv (.tup (.str nm::fg.map dA.pv)),sv (.bool true),none,none,none] [.dS kvs] [nT "tuple",rv (.bool true) [.dS kvs],ff,rv (.int (ks.length+1:Nat)) [.dS kvs],ff,rv (.str nm) [.dS kvs],nT "str",rv (.bool true) [.dS kvs],ff,ff,
  rv (.str nm) [.dS kvs],rv (.bool (!(b0 kvs nm).isSome)) [.dS kvs],ff,rv (.str ks) [.dS kvs],rv (.int (ks.length+1:Nat)) [.dS kvs],rv (.int ks.length) [.dS kvs],ff,rv (.int ks.length) [.dS kvs],rv (.xS 0 ks.length 1) [.dS kvs],.o o]
 have h0:decide (((ks.length+1:Nat):Int)=0)=false:=decide_eq_false (by exactλe=>(rf [.Ua (.c (.a (.v 0) (.n 1))) (.n 0)] (.ff) [1] (Eq.refl true) e).elim)
 have h1:(!(b0 kvs nm).isSome)=false:=by rw[BV];rfl
 have h2:(!decide (((ks.length+1:Nat):Int)=(ks.length:Int)+1))=false:=nt (decide_eq_true rfl)
 cases ha:jA (L ks) fg with
 |true=>
  rw[fj,fj,ha]at q
  exact Calls.Zb (os2:=[.dS kvs]) 1 rfl λL outer A F=>by
   apply p F (.norm [some (.o 0),sv (.tup (.str nm::fg.map dA.pv)),sv (.bool true),sv (.str nm),sv (.str ks),none] [.dS kvs]) (pG P F rfl P.sF P.sG (by decide)) (pH P F rfl λ_ _ _ _ q=>rx q) rfl (lt F rfl _) h0 (i0 _ _) (pG P F rfl P.DP P.DQ (by decide)) (pH P F rfl λ_ _ _ _ q=>vE q) rfl rfl
    (i0 _ _) (vm P.G rfl) h1 (Iv rfl BV) (lt F rfl _) (hG P F rfl (by exact ah yc (by decide))) h2 (hG P F rfl (by exact ah yc (by decide))) (gW P F rfl) (q F)
 |false=>
  rw[fj,fj,ha]at q
  exact Calls.exc rfl λL outer A F=>by
   apply p F .exc (pG P F rfl P.sF P.sG (by decide)) (pH P F rfl λ_ _ _ _ q=>rx q) rfl (lt F rfl _) h0 (i0 _ _) (pG P F rfl P.DP P.DQ (by decide)) (pH P F rfl λ_ _ _ _ q=>vE q) rfl rfl
    (i0 _ _) (vm P.G rfl) h1 (Iv rfl BV) (lt F rfl _) (hG P F rfl (by exact ah yc (by decide))) h2 (hG P F rfl (by exact ah yc (by decide))) (gW P F rfl) (q F)
theorem K8{n b:Nat}(hb:0<b):To (t2 C fr (binaryOp .Mod) (.v (.int n)) (.v (.int b))) l os (sv (.int (n%b:Nat))) os:=To.pure λ_ _ _ _ _ q=>tw (bG.mpr hb) (by rw[<-Int.natCast_emod];exact q)
theorem MK{n b:Nat}(hb:0<b)(h:b<1073741824):To (t2 C fr (binaryOp .FloorDiv) (.v (.int n)) (.v (.int b))) l os (sv (.int (n/b:Nat))) os:=To.pure λ_ _ _ _ _ q=>JP (bG.mpr hb) (bG.mpr h) (by rw[<-Int.natCast_ediv];exact q)
theorem nA{a b:List Nat}(h:a.length+b.length<=sizeLine):To (t2 C fr (binaryOp .Add) (.v (.str (mk a))) (.v (.str (mk b)))) l os (sv (.str (mk (a++b)))) os:=by
 rw[<-lM];exact hO (by rw[d8,d8];exact h)
theorem Pq{x:Str}{i c:Nat}(h1:i<2^62)(hc:(L x)[i]?=some c):mQ C fr (.v (.str x)) (.v (.int i)) l os (sv (.str (mk [c]))) os:=Jo (aF i) (bG.mpr h1) (by rw[bD];exact hc)
theorem aX{n:Nat}(m:Nat)(h:n<=m)(hm:Nat.ble m 16777216=true):n<=sizeLine:=aa h (aa (bE hm) (aZ g8.symm))
theorem K9{L':Addr}{outer:List Env}{A:Around}(F:aI C (dh.frame L' outer A lv)):∀(k c:Nat) (acc:List Nat),c<16^k->acc.length+k<=9->
 iY C (dh.frame L' outer A lv) (Bl dh.body 3) (iZ dh.body 3) [] 0 k [sv (.int c),sv (.str (Str.ofString "0123456789abcdef")),sv (.str (mk acc))] [] (.norm [sv (.int (0:Nat)),sv (.str (Str.ofString "0123456789abcdef")),sv (.str (mk (if c=0 then acc else mG c++acc)))] []):=by
 have t:=λ(c:Nat) acc=>qY F (Bl dh.body 3) [sv (.int c),sv (.str (Str.ofString "0123456789abcdef")),sv (.str (mk acc))] [] []
 intro k
 induction k with
 |zero=>
  intro c acc hc _
  obtain rfl:c=0:=Nat.lt_one_iff.mp hc
  rw[if_pos rfl]
  apply .stop (t 0 acc false rfl)
 |succ k ih=>
  intro c acc hc hk
  by_cases h0:c=0
  ·subst h0
   rw[if_pos rfl]
   apply .stop (t 0 acc false rfl)
  ·have hm:=rL c (show 0<16 by decide)
   have h3:=ih (c/16) (kj (c%16)::acc) (by rw[qv]at hc;omega) (by rw[aw];exact mq [.le (.a (.v 0) (.a (.v 1) (.n 1))) (.n 9)] (.le (.a (.a (.v 0) (.n 1)) (.v 1)) (.n 9)) [1] (Eq.refl true) hk)
   rw[show(if c/16=0 then kj (c%16)::acc else mG (c/16)++kj (c%16)::acc)=if c=0 then acc else mG c++acc by
    rw[if_neg h0];conv=>rhs;rw[DZ]
    by_cases q:c<16
    ·rw[if_pos (by omega),if_pos q,Nat.mod_eq_of_lt q];rfl
    ·rw[if_neg (by omega),if_neg q,aC];rfl]at h3
   with_unfolding_all have b:=cw (m:=0) F (iZ dh.body 3) [sv (.int c),sv (.str (Str.ofString "0123456789abcdef")),sv (.str (mk acc))] [] [ru (.int (c%16:Nat)),ru (.str (mk [kj (c%16)])),ru (.str (mk (kj (c%16)::acc))),ru (.int (c/16:Nat))] (K8 (by decide)) (Pq (b4 hm (by decide)) (AP hm)) (nA (aX 10 (by rw[aL];exact mq [.le (.a (.v 0) (.a (.v 1) (.n 1))) (.n 9)] (.le (.a (.n 1) (.v 0)) (.n 10)) [1] (Eq.refl true) hk) rfl)) (MK (by decide) (by decide))
   apply .next true (t c acc true (decide_eq_true (bG.mpr (Nat.pos_of_ne_zero h0)))) b rfl h3
theorem xK{n:Nat}(hn:n<4294967296):Calls C dh lv [.v (.int n)] [] (sv (.str (mk (mG n)))) []:=Calls.ret 0 rfl λL outer A F=>by
 have hm:=rL n (show 0<16 by decide)
 have w:=zA F Fn.top (os:=[]) (l:=[sv (.int (n/16:Nat)),sv (.str (Str.ofString "0123456789abcdef")),sv (.str (mk [kj (n%16)]))]) (ks:=[]) rfl ⟨8,K9 F 8 (n/16) [kj (n%16)] (by omega) (show 1+8<=9 by decide)⟩
 rw[show(if n/16=0 then[kj (n%16)]else mG (n/16)++[kj (n%16)])=mG n by
  conv=>rhs;rw[DZ]
  by_cases q:n<16
  ·rw[if_pos (by omega),if_pos q,Nat.mod_eq_of_lt q]
  ·rw[if_neg (by omega),if_neg q]]at w
 apply cw F dh.body [sv (.int n),none,none] [] [ru (.int (n%16:Nat)),ru (.str (mk [kj (n%16)])),ru (.int (n/16:Nat)),.o (.norm [sv (.int (0:Nat)),sv (.str (Str.ofString "0123456789abcdef")),sv (.str (mk (mG n)))] [])] (K8 (by decide)) (Pq (b4 hm (by decide)) (AP hm)) (MK (by decide) (by decide)) w
noncomputable def Jp:List Stmt->Nat->Expr:=Bk (.Name ⟨#[]⟩ ⟨0,0,0,0⟩) λst=>s9 (.Name ⟨#[]⟩ ⟨0,0,0,0⟩) st (iff:=λt _ _ _=>t)
theorem zG{k:Nat}{os1:List Ob}{s y:Str}{xs:List Str}(hk:os[k]?=some (.list (xs.map .str)))(kG:JoinOk s xs=true)(hy:Txt.join s xs=y):fJ C fr "join" (.v (.str s)) os1 [.o k] l os (sv (.str y)) os:=
 mR DK rfl (To.read hk (λ_=>rfl) λas ρ σ Q X hc q=>JV hc kG (hy▸q))
theorem w9{a c:Nat}{x:Str}(h:L x=[a]):(!decide (mk [c]=x))=decide (c≠a):=by rw[FK h];simp
theorem La{L':Addr}{outer:List Env}{A:Around}(F:aI C (b8.frame L' outer A lv)){x:Str}{c:Nat}:To (tT C (b8.frame L' outer A lv) (Jp (iZ b8.body 2) 0)) [sv (.str x),some (.o 0),sv (.str (mk [c]))] os (sv (.bool (wj c))) os:=by
 have p:=λ(p:Pa)=>qY F (Jp (iZ b8.body 2) 0) [sv (.str x),some (.o 0),sv (.str (mk [c]))] os p
 have h1:=C7 (c:=c) N6
 have h2:=C8 (c:=c) Kl
 have h3:=w9 (c:=c) wm
 have h4:=w9 (c:=c) zj
 unfold wj
 cases e1:decide (33<=c)with
 |false=>apply p [ff,ff] (h1.trans e1) rfl false rfl
 |true=>cases e2:decide (c<=126)with
  |false=>apply p [tt,ff] (h1.trans e1) (h2.trans e2) false rfl
  |true=>cases e3:decide (c≠39)with
   |false=>apply p [tt,tt,ff] (h1.trans e1) (h2.trans e2) (h3.trans e3) false rfl
   |true=>cases e4:decide (c≠92)with
    |false=>apply p [tt,tt,tt,ff] (h1.trans e1) (h2.trans e2) (h3.trans e3) (h4.trans e4) false rfl
    |true=>apply p [tt,tt,tt,tt] (h1.trans e1) (h2.trans e2) (h3.trans e3) (h4.trans e4) true rfl
theorem EB(P:PO C K bL bM)(hl:3<=lv){L':Addr}{outer:List Env}{A:Around}(F:aI C (b8.frame L' outer A lv)){x:Str}:∀(cs:List Nat) (done:List (List Nat)),done.length+cs.length<=2000->(∀c∈cs,c<4294967296)->
 Loop C (b8.frame L' outer A lv) (iZ b8.body 2) [2] 1 2 (cs.map λc=> .str ⟨#[c]⟩) [sv (.str x),some (.o 0),none] [.list (done.map λy=> .str (mk y))] (.norm [sv (.str x),some (.o 0),none] [.list ((done++cs.map zi).map λy=> .str (mk y))])
 |[],done,_,_=>by rw[fK,fK,bV];exact .nil
 |c::cs,done,hd,hc=>by
  have ih:=EB P hl F (x:=x) cs (done++[zi c]) (by rw[ae,aL];rw[aw]at hd;exact mq [.le (.a (.v 0) (.a (.v 1) (.n 1))) (.n 2000)] (.le (.a (.a (.v 0) (.n 1)) (.v 1)) (.n 2000)) [1] (Eq.refl true) hd) λd h=>hc d (aK _ h)
  rw[aC,show[zi c]++cs.map zi=(c::cs).map zi from rfl,aQ,List.map_singleton]at ih
  have hsz:(done.map λy=>PV.str (mk y)).length<=sizeLine:=aX 2000 (by rw[af];exact aa (ay _ _) hd) rfl
  have Z9:=hc c (az ..)
  have hl8:=wg (k:=7) (n:=c) Z9
  have t:=La (os:=[.list (done.map λy=> .str (mk y))]) F (x:=x) (c:=c)
  have p:=λ(p:Pa)=>cw (m:=1) F (iZ b8.body 2) [sv (.str x),some (.o 0),sv (.str (mk [c]))] [.list (done.map λy=> .str (mk y))] (.x (sv (.bool (wj c))) [.list (done.map λy=> .str (mk y))]::p)
  cases hp:wj c with
  |true=>
   rw[show zi c=[c]from if_pos hp]at ih
   with_unfolding_all have b:=p [tt,rv .none [.list ((done.map λy=> .str (mk y))++[.str (mk [c])])]] t hp (iP rfl rfl hsz)
   exact .next true b rfl ih
  |false=>
   have e:Str.ofString "\\x"=mk [92,120]:=by rw[<-fE (Str.ofString "\\x"),Km]
   have e':Str.ofString "\\"=mk [92]:=by rw[<-fE (Str.ofString "\\"),zj]
   have s1:=nA (C:=C) (fr:=b8.frame L' outer A lv) (l:=[sv (.str x),some (.o 0),sv (.str (mk [c]))]) (os:=[.list (done.map λy=> .str (mk y))]) (a:=[92,120]) (b:=mG c) (aX 10 (aR hl8 2) rfl)
   have s2:=nA (C:=C) (fr:=b8.frame L' outer A lv) (l:=[sv (.str x),some (.o 0),sv (.str (mk [c]))]) (os:=[.list (done.map λy=> .str (mk y))]) (a:=[92,120]++mG c) (b:=[92]) (aX 11 (by rw[ae];simp;exact aR hl8 _) rfl)
   rw[<-e]at s1
   rw[<-e']at s2
   rw[show zi c=[92,120]++mG c++[92]from if_neg (by rw[hp];decide)]at ih
   with_unfolding_all have b:=p [ff,rv (.int c) [.list (done.map λy=> .str (mk y))],ru (.str (mk (mG c))),ru (.str (mk ([92,120]++mG c))),ru (.str (mk ([92,120]++mG c++[92]))),rv .none [.list ((done.map λy=> .str (mk y))++[.str (mk ([92,120]++mG c++[92]))])]] t hp (yJ P F rfl) (aS P.G F P.xP rfl (bn hl) (xK (lv:=0) Z9) rfl) s1 s2 (iP rfl rfl hsz)
   exact .next true b rfl ih
theorem lb(P:PO C K bL bM)(hl:3<=lv){x:Str}(hx:eo (L x)):Calls C b8 lv [.v (.str x)] [] (sv (.str (mk (cJ (L x))))) []:=by
 have a:=λ{L' outer A} (F:aI C (b8.frame L' outer A lv)) (l:Lo)=>aS (l:=l) (os:=[]) P.G F P.nI (by ac_rfl) (bn hl) (nz P (x:=x) (lv:=2) (by decide)) rfl
 have p:=λ{L' outer A} (F:aI C (b8.frame L' outer A lv)) (p:Pa)=>cw (m:=0) F b8.body [sv (.str x),none,none] [] (rv (.bool (g9 (L x))) []::p)
 cases h:g9 (L x)with
 |true=>
  rw[cJ,if_pos h,fE]
  exact Calls.ret 0 rfl λL outer A F=>by apply p F [tt] (a F _) h
 |false=>
  have nS:=hx.1
  have e1:Str.ofString "'"=mk [39]:=by rw[<-fE (Str.ofString "'"),wm]
  have hj:Txt.join (Str.ofString "") ((([39]::(L x).map zi)++[[39]]).map mk)=mk (cJ (L x)):=by
   rw[show Str.ofString ""=mk []from rfl,sf,lN,cJ,h];simp[List.flatMap]
  have kG:JoinOk (Str.ofString "") ((([39]::(L x).map zi)++[[39]]).map mk)=true:=by
   refine lR 11 (λy hy=> ?_) ?_
   ·obtain⟨z,hz,rfl⟩:=bj.mp hy
    rw[d8]
    rcases bC.mp hz with hz|hz
    ·rcases ak.mp hz with rfl|hz
     ·exact(by decide:1<=11)
     ·obtain⟨c,hc,rfl⟩:=bj.mp hz
      exact D0 (hx.2 c hc)
    ·rw[am.mp hz];exact(by decide:1<=11)
   ·rw[show(Str.ofString "").length=0 from rfl,af,ae,aw,af,aL];exact aX 20000 (by omega) rfl
  have e2:(([39]::(L x).map zi).map λy=>PV.str (mk y))++[.str (Str.ofString "'")]=((([39]::(L x).map zi)++[[39]]).map mk).map .str:=by rw[e1,b3,aQ];rfl
  have hs:(([39]::(L x).map zi).map λy=>PV.str (mk y)).length<=sizeLine:=by rw[af,aw,af];exact aX 1001 (by exact ah nS (by decide)) rfl
  refine Calls.ret (os2:=[.list (((([39]::(L x).map zi)++[[39]]).map mk).map .str)]) 0 rfl λL' outer A F=> ?_
  have w:=Im F Fn.top (os:=[.list [.str (Str.ofString "'")]]) (l:=[sv (.str x),some (.o 0),none]) (ks:=[2]) (x:="sign") (i:=2) (s:=x) (by ac_rfl) rfl (show Loop _ _ _ _ _ _ ((L x).map λc=> .str ⟨#[c]⟩) _ _ _ by rw[e1];exact EB P hl F (L x) [[39]] (by rw[aL];exact rf [.le (.v 0) (.n 1000)] (.le (.a (.n 1) (.v 0)) (.n 2000)) [1] (Eq.refl true) nS) hx.2)
  apply p F [ff,.o (.norm [sv (.str x),some (.o 0),none] [.list (([39]::(L x).map zi).map λy=> .str (mk y))]),rv .none [.list (((([39]::(L x).map zi)++[[39]]).map mk).map .str)],ru (.str (mk (cJ (L x))))] (a F _) h w (d6 rfl rfl hs e2) (zG rfl kG hj)
theorem Iw{T id:String}{name:Str}{a:EV}{os1:List Ob}(B:BM T name id)(hp:a.ty os1=some T):Bf C fr name a os1:=λo ap pos es l tZ os2 bN hs h1 h2=> .mk λas ρ σ F s Q X x=>by
 obtain⟨k1,k2⟩:=an.mp hs
 obtain⟨k2,k3⟩:=an.mp k2
 obtain⟨k3,k4⟩:=an.mp k3
 exact gy B (h1.go as ρ σ F s _ _ λcK cZ v1=>⟨CW hp v1.s,h2.go cK ρ cZ F v1.s _ _ x⟩) (fZ k1 _ _) (λenv=>HV k3 _ env) (λenv=>wW k1 k2 _ env) k4
theorem ML(P:PO C K bL bM)(F:aI C fr)(hk:fr.env.kindOf "chr"=some .globalImplicit){n:Nat}(h:n<=1114111):eE C fr "chr" [.v (.int n)] l os (sv (.str (mk [n]))) os:=
 kP P.G F P.Hf P.Hg (by decide) hk (To.pure λ_ _ _ _ _ q=>Ki (aF n) (cT.mpr h) (by rw[bD];exact q))
theorem Ix(P:PO C K bL bM)(F:aI C fr)(hk:fr.env.kindOf "len"=some .globalImplicit){x:List Nat}(h:x.length<2^63):eE C fr "len" [.v (.str (mk x))] l os (sv (.int x.length)) os:=by
 have:=hG (l:=l) (os:=os) P F hk (x:=mk x) (by rw[d8];exact h)
 rwa[d8]at this
theorem m_find{os1:List Ob}{x:Str}{c:Nat}{r:Int}(hr:Txt.find x (mk [c])=r):fJ C fr "find" (.v (.str x)) os1 [.v (.str (mk [c]))] l os (sv (.int r)) os:=mR DL rfl (To.pure λ_ _ _ _ _ q=>JU (hr▸q))
theorem Lb{os1:List Ob}{x y:Str}{a r:Int}(hr:Txt.find3 x y a=r):fJ C fr "find" (.v (.str x)) os1 [.v (.str y),.v (.int a)] l os (sv (.int r)) os:=mR DL rfl (To.pure λ_ _ _ _ _ q=>GI (hr▸q))
theorem Ou{n b:Nat}(hb:b<2^64):To (t2 C fr (binaryOp .Mult) (.v (.int n)) (.v (.int b))) l os (sv (.int (n*b:Nat))) os:=To.pure λ_ _ _ _ _ q=>Cb (yY (by exact aF _) (bG.mpr hb)) (by rw[<-Int.natCast_mul];exact q)
theorem Bp{x y:Str}{a b:Option Int}(hsz:x.length<=sizeLine)(hy:Txt.slice x a b=y):s8 C fr (.v (.str x)) a b l os (sv (.str y)) os:=hy▸slS hsz
theorem EC(P:PO C K bL bM)(hl:2<=lv){L':Addr}{outer:List Env}{A:Around}(F:aI C (dW.frame L' outer A lv)){x:Str}:∀(cs:List Nat) (v:Nat),
 Loop C (dW.frame L' outer A lv) (iZ dW.body 2) [3,4] 0 3 (cs.map λc=> .str ⟨#[c]⟩) [sv (.str x),sv (.str (Str.ofString "0123456789abcdef")),sv (.int v),none,none] []
  (match im v cs with|some u=> .norm [sv (.str x),sv (.str (Str.ofString "0123456789abcdef")),sv (.int u),none,none] []|none=> .exc)
 |[],v=> .nil
 |c::cs,v=>by
  have p:=λ(p:Pa)=>cw (m:=0) F (iZ dW.body 2) [sv (.str x),sv (.str (Str.ofString "0123456789abcdef")),sv (.int v),sv (.str (mk [c])),none] [] p
  have hf:=Kn (Str.ofString "0123456789abcdef") c
  rw[Hq]at hf
  rw[im]
  cases hu:Ml c with
  |none=>
   rw[show Jl c _=none from hu]at hf
   apply .exc (p [rv (.int (-1)) [],tt] (m_find hf) rfl (dm P F rfl (bn hl)))
  |some f=>
   rw[show Jl c _=some f from hu]at hf
   by_cases h:v*16+f>1114111
   ·simp only[if_pos h]
    apply .exc (p [rv (.int f) [],ff,ru (.int (v*16:Nat)),tt] (m_find hf) (decide_eq_false (eX.mpr (aF f))) (Ou (by decide)) (decide_eq_true (bG.mpr h)) (dm P F rfl (bn hl)))
   ·simp only[if_neg h]
    with_unfolding_all have b:=p [rv (.int f) [],ff,ru (.int (v*16:Nat)),ff] (m_find hf) (decide_eq_false (eX.mpr (aF f))) (Ou (by decide)) (decide_eq_false λq=>h (bG.mp q))
    exact .next true b rfl (EC P hl F cs (v*16+f))
theorem Bq(P:PO C K bL bM)(hl:2<=lv){x:Str}:Calls C dW lv [.v (.str x)] [] ((lZ (L x)).map λv:Nat=> .v (.int v)) []:=by
 have q:=λ{L' outer A} (F:aI C (dW.frame L' outer A lv))=>Im F Fn.top (os:=[]) (l:=[sv (.str x),sv (.str (Str.ofString "0123456789abcdef")),sv (.int (0:Nat)),none,none]) (ks:=[3,4]) (x:="sign") (i:=3) (s:=x) (by ac_rfl) rfl (EC P hl F (L x) 0)
 have p:=λ{L' outer A} (F:aI C (dW.frame L' outer A lv)) (p:Pa)=>cw (m:=0) F dW.body [sv (.str x),none,none,none,none] [] p
 unfold lZ
 cases h:im 0 (L x)with
 |none=>rw[h]at q;exact Calls.exc rfl λL outer A F=>by apply p F [.o .exc] (q F)
 |some u=>rw[h]at q;exact Calls.ret 0 rfl λL' outer A F=>by apply p F [.o (.norm [sv (.str x),sv (.str (Str.ofString "0123456789abcdef")),sv (.int u),none,none] [])] (q F)
noncomputable abbrev ED:List Stmt:=iZ aH.body 5
noncomputable abbrev F6(i:Nat):Stmt:=(ED[i]?).getD (.Pass ⟨0,0,0,0⟩)
noncomputable abbrev td(x:Str)(inn:List Nat)(pl:Nat)(e:Option EV):Lo:=[sv (.str x),sv (.str (mk inn)),some (.o 0),sv (.int pl),e,none]
noncomputable abbrev qs(done:List Nat):List Ob:=[.list (done.map λc=> .str (mk [c]))]
theorem vo{α:Type}{w:α}{rs ws:List α}{pl:Nat}(h:w::rs<:+ws)(e:pl+(rs.length+1)=ws.length):ws[pl]?=some w:=h.elim λt ht=>by
 subst ht
 rw[ae]at e
 cases Nat.add_right_cancel e
 rw[bS (ai _),Nat.sub_self];rfl
section
variable{L':Addr}{outer:List Env}{A:Around}{x:Str}{inn done r p:List Nat}{G:Prop}
theorem Ov(P:PO C K bL bM)(hl:4<=lv)(F:aI C (aH.frame L' outer A lv))(DI:inn.length<=1000)(hd:done.length<=1000)(hp:inn=p++92::r)
 (k0:Fu r=none->Runs (iu C (aH.frame L' outer A lv) (ED.drop 1)) 1 (td x inn p.length none) (qs done) .exc->G)
 (k1:∀e Lc y,Fu r=some e->Lc+e.2.length=inn.length->Runs (iu C (aH.frame L' outer A lv) (ED.drop 1)) 1 (td x inn p.length none) (qs done) (.norm (td x inn Lc y) (qs (done++[e.1])))->G):G:=by
 have eB:ED.drop 1=F6 1::F6 2::ED.drop 3:=by rfl'
 rw[eB]at k0 k1
 have hf:=yp (x:=mk inn) (c:=92) (p:=p++[92]) (r:=r) (by rw[c8,hp,aC];rfl)
 rw[show mk [92]=Str.ofString "\\" by rw[<-fE (Str.ofString "\\"),zj],ae]at hf
 have s1:=λ{z:Int} (h:Txt.find3 (mk inn) (Str.ofString "\\") ((p.length:Int)+1)=z)=>show Runs (WS C (aH.frame L' outer A lv) (F6 1)) 1 (td x inn p.length none) (qs done) (.norm (td x inn p.length (sv (.int z))) (qs done)) by
  apply dB F (F6 1) (td x inn p.length none) (qs done) [ru (.int z)] (Lb h)
 have TC:=λ{z:Int} (h:Txt.find3 (mk inn) (Str.ofString "\\") ((p.length:Int)+1)=z) (q:z<(p.length:Int)+3)=>show Runs (iu C (aH.frame L' outer A lv) (F6 1::F6 2::ED.drop 3)) 1 (td x inn p.length none) (qs done) .exc from(s1 h).cons (Runs.stop (by
  apply dB F (F6 2) (td x inn p.length (sv (.int z))) (qs done) [tt,tt] (decide_eq_true q) rfl (dm P F rfl (bn hl))) nofun)
 unfold Fu at k0 k1
 cases hj:Jl 92 r with
 |none=>
  rw[hj]at hf k0
  exact k0 rfl (TC hf (show(-1:Int)<(p.length:Int)+3 from aF _))
 |some j=>
  have TQ:=Hr hj
  rw[hj]at hf k0 k1
  have hf:Txt.find3 (mk inn) (Str.ofString "\\") ((p.length:Int)+1)=((p.length+1+j:Nat):Int):=hf
  rw[a5]at k0 k1
  by_cases h2:j<2
  ·rw[if_pos (.inl h2)]at k0
   exact k0 rfl (TC hf (bG.mpr (show p.length+1+j<p.length+3 from fD h2 (p.length+1))))
  cases r with
  |nil=>exact absurd TQ (j0 _)
  |cons c r=>
   have Tv:decide (((p.length+1+j:Nat):Int)<(p.length:Int)+3)=false:=decide_eq_false (eX.mpr (cT.mpr (show p.length+3<=p.length+1+j from aR (cu h2) (p.length+1))))
   have i1:=Pq (C:=C) (fr:=aH.frame L' outer A lv) (l:=td x inn p.length (sv (.int (p.length+1+j:Nat)))) (os:=qs done) (x:=mk inn) (i:=p.length+1) (c:=c) (ah (aa (by rw[hp,ae];exact aR (ce _) _) DI) (by decide)) (by rw[c8,hp,bS (show p.length<=p.length+1 from b7 _),hV];rfl)
   have p2:=λ(b:Bool)=>dB (m:=1) F (F6 2) (td x inn p.length (sv (.int (p.length+1+j:Nat)))) (qs done) [ff,ru (.str (mk [c])),.b b,.b b]
   have hnx:=w9 (c:=c) N7
   by_cases hc:c=120
   ·rw[if_neg (λq=>q.elim h2 λq=>q (congrArg some hc))]at k0 k1
    have s2:Runs (WS C (aH.frame L' outer A lv) (F6 2)) 1 (td x inn p.length (sv (.int (p.length+1+j:Nat)))) (qs done) (.norm (td x inn p.length (sv (.int (p.length+1+j:Nat)))) (qs done)):=by
     apply p2 false Tv i1 (hnx.trans (decide_eq_false λq=>q hc)) rfl
    subst hc
    cases j with
    |zero=>exact absurd (by decide) h2
    |succ i=>
     have hi:i+1<=r.length:=d9 TQ
     have EE:Txt.slice (mk inn) (some ((p.length:Int)+2)) (some ((p.length+1+(i+1):Nat):Int))=mk (r.take i):=by
      have g:=CB (x:=mk inn) (p:=p++[92,120]) (m:=r.take i) (q:=r.drop i) (by rw[c8,f7,aC,hp];rfl)
      rw[ae,lz (a9 hi),show p.length+[92,120].length+i=p.length+1+(i+1)from Nat.succ_add (p.length+1) i]at g
      exact g
     have rc:=Bq (C:=C) P (lv:=2) (ai _) (x:=mk (r.take i))
     rw[c8]at rc
     have p3:=λ(q:Pa)=>cw (m:=1) F (ED.drop 3) (td x inn p.length (sv (.int (p.length+1+(i+1):Nat)))) (qs done) (ru (.str (mk (r.take i)))::q)
     have sl:=Bp (C:=C) (fr:=aH.frame L' outer A lv) (l:=td x inn p.length (sv (.int (p.length+1+(i+1):Nat)))) (os:=qs done) (aX 1000 (by rw[d8];exact DI) rfl) EE
     have go:=λ{bx:ql} (h:Runs (iu C (aH.frame L' outer A lv) (ED.drop 3)) 1 (td x inn p.length (sv (.int (p.length+1+(i+1):Nat)))) (qs done) bx)=>(s1 hf).cons (s2.cons h)
     cases hv:lZ (r.take i)with
     |none=>
      rw[show lZ (((120::r).take (i+1)).drop 1)=none from hv]at k0
      rw[hv]at rc
      exact k0 rfl (go (by apply p3 [.u none] sl (aS P.G F P.uT rfl (bn hl) rc rfl) (Il P.G F P.Hf P.Hg (by decide) rfl) (Iw jU rfl)))
     |some v=>
      rw[show lZ (((120::r).take (i+1)).drop 1)=some v from hv]at k1
      rw[hv]at rc
      refine k1 (v,r.drop (i+1)) (p.length+1+(i+1)+1) (sv (.int (p.length+1+(i+1):Nat))) rfl ?_ (go ?_)
      ·rw[hp,ae,eY]
       exact(congrArg (·+_) (bI (p.length+1) (i+1) 1)).trans ((bW (p.length+1+1) (i+1) _).trans ((congrArg (p.length+1+1+·) (Nat.add_sub_cancel' hi)).trans ((bW p.length 2 _).trans (congrArg (p.length+·) (bR 2 _)))))
      ·apply p3 [ru (.int v),ru (.str (mk [v])),rv .none (qs (done++[v]))] sl (aS P.G F P.uT rfl (bn hl) rc rfl) (ML P F rfl (kW (by decide) hv)) (d6 rfl rfl (aX 1000 (by rw[af];exact hd) rfl) (aQ (l₂:=[v])).symm)
   ·rw[if_pos (.inr (λq=>hc (ax q)))]at k0
    exact k0 rfl ((s1 hf).cons (Runs.stop (by apply p2 true Tv i1 (hnx.trans (decide_eq_true hc)) rfl (dm P F rfl (bn hl))) nofun))
theorem Ld(P:PO C K bL bM)(hl:4<=lv)(F:aI C (aH.frame L' outer A lv))(DI:inn.length<=1000)(n:Nat):∀{rs:List Nat} {pl:Nat} {done:List Nat},rs<:+inn->pl+rs.length=inn.length->rs.length<n->done.length<=pl->
 (∀k,wn n rs=none->iY C (aH.frame L' outer A lv) (Bl aH.body 5) ED [4] 1 k (td x inn pl none) (qs done) .exc->G)->
 (∀k t,wn n rs=some t->iY C (aH.frame L' outer A lv) (Bl aH.body 5) ED [4] 1 k (td x inn pl none) (qs done) (.norm (td x inn inn.length none) (qs (done++t)))->G)->G:=by
 induction n with
 |zero=>exactλ_ _ h=>absurd h (j0 _)
 |succ n ih=>
  intro rs pl done hs hp hn hd k0 k1
  have t:=qY F (Bl aH.body 5) (td x inn pl none) (qs done) [ru (.int inn.length)]
  have ln:=Ix (os:=qs done) (l:=td x inn pl none) P F (by ac_rfl) (x:=inn) (ah DI (by decide))
  cases rs with
  |nil=>
   cases show pl=inn.length from hp
   exact k1 0 [] rfl (by rw[bV];apply .stop (t ln false (decide_eq_false (Int.lt_irrefl _))))
  |cons c r=>
   have eP:pl<inn.length:=dq (cy (ce _)) hp
   have hd1:done.length<=1000:=aa hd (aa (a9 eP) DI)
   have wQ:To (tT C (aH.frame L' outer A lv) (Bl aH.body 5)) (td x inn pl none) (qs done) (some (.v (.bool true))) (qs done):=by
    apply t ln true (decide_eq_true (bG.mpr eP))
   have it:=Pq (C:=C) (fr:=aH.frame L' outer A lv) (l:=td x inn pl none) (os:=qs done) (x:=mk inn) (i:=pl) (c:=c) (au eP (aa DI (by decide))) (by rw[c8];exact vo hs hp)
   have p:=λ(p:Pa)=>dB (m:=1) F (F6 0) (td x inn pl none) (qs done) (ru (.str (mk [c]))::p)
   have eB:ED=F6 0::ED.drop 1:=by rfl'
   have hZ:=w9 (c:=c) zj
   have MM:r.length<n:=Nat.lt_of_succ_lt_succ hn
   have sr:r<:+inn:=(mW c r).trans hs
   by_cases Sb:c≠92
   ·have e:wn (n+1) (c::r)=(wn n r).map (c::·):=if_pos Sb
    rw[e]at k0 k1
    have b:Runs (iu C (aH.frame L' outer A lv) ED) 1 (td x inn pl none) (qs done) (.cont (td x inn (pl+1) none) (qs (done++[c]))):=eB▸Runs.stop (by
     apply p [tt,ru (.str (mk [c])),rv .none (qs (done++[c]))] it (hZ.trans (decide_eq_true Sb)) it (d6 rfl rfl (aX 1000 (by rw[af];exact hd1) rfl) (aQ (l₂:=[c])).symm)) nofun
    exact ih sr ((bW pl 1 _).trans ((congrArg (pl+·) (bR 1 _)).trans hp)) MM (by rw[ae];exact a6 hd)
     (λk e l=>k0 (k+1) (by rw[e];rfl) (.next false wQ b rfl l)) λk u e l=>k1 (k+1) (c::u) (by rw[e];rfl) (aC done [c] u▸.next false wQ b rfl l)
   ·have e:wn (n+1) (c::r)=(Fu r).bind λe=>(wn n e.2).map (e.1::·):=if_neg Sb
    rw[e]at k0 k1
    have s0:Runs (WS C (aH.frame L' outer A lv) (F6 0)) 1 (td x inn pl none) (qs done) (.norm (td x inn pl none) (qs done)):=by
     apply p [ff] it (hZ.trans (decide_eq_false Sb))
    obtain⟨q,hq⟩:=hs
    cases Decidable.not_not.mp Sb
    have xq:q.length=pl:=Nat.add_right_cancel ((ae ..).symm.trans ((congrArg List.length hq).trans hp.symm))
    subst xq
    refine Ov (x:=x) (done:=done) P hl F DI hd1 hq.symm (λe r=>k0 0 (by rw[e];rfl) (.exc wQ (eB▸s0.cons r))) λe Lc y he BP r=> ?_
    have ok:=D6 he
    rw[he,a5]at k0 k1
    have b:=eB▸s0.cons r
    have TR:q.length<Lc:=Nat.lt_of_add_lt_add_right (show q.length+e.2.length<Lc+e.2.length from dq (fD (Nat.lt_succ_of_lt ok.2.1) _) (hp.trans BP.symm))
    exact ih (ok.2.2.trans sr) BP (b4 ok.2.1 MM) (by rw[ae];exact ah hd TR)
     (λk e l=>k0 (k+1) (by rw[e];rfl) (.next true wQ b rfl l)) λk u h l=>k1 (k+1) (e.1::u) (by rw[h];rfl) (aC done [e.1] u▸.next true wQ b rfl l)
end
theorem Le(P:PO C K bL bM){L':Addr}{outer:List Env}{A:Around}(F:aI C (aH.frame L' outer A lv)){x:Str}(hx:(L x).length<=1000):To (tT C (aH.frame L' outer A lv) (Jp aH.body 1)) [sv (.str x),none,none,none,none,none] []
 (sv (.bool (decide ((L x).length<2\/(L x)[0]?≠some 39\/(L x)[(L x).length-1]?≠some 39)))) []:=by
 have p:=λ(p:Pa)=>qY F (Jp aH.body 1) [sv (.str x),none,none,none,none,none] [] (rv (.int (L x).length) []::p)
 have ln:=λl=>hG (os:=[]) (l:=l) P F (by ac_rfl) (x:=x) (by rw[<-gA];exact ah hx (by decide))
 rw[<-gA]at ln
 by_cases h2:(L x).length<2
 ·rw[decide_eq_true (.inl h2)]
  apply p [tt] (ln _) (decide_eq_true (bG.mpr h2)) true rfl
 ·obtain⟨n,hn⟩:=Nat.exists_eq_add_of_le' (cu h2)
  have e1:((L x).length:Int)-1=((n+1:Nat):Int):=by rw[hn];exact Int.add_sub_cancel ((n+1:Nat):Int) 1
  have e2:(L x).length-1=n+1:=by rw[hn];rfl
  have Jq:=aB (show 0<(L x).length from hn▸ce _)
  have hc1:=aB (show n+1<(L x).length from hn▸cf _)
  have n2:decide (((L x).length:Int)<2)=false:=decide_eq_false λq=>h2 (bG.mp q)
  have i0:=λl=>Jo (C:=C) (fr:=aH.frame L' outer A lv) (l:=l) (os:=[]) (x:=x) (i:=0) (by decide) (by decide) Jq
  have i1:=λl=>show mQ C (aH.frame L' outer A lv) (.v (.str x)) (.v (.int (((L x).length:Int)-1))) l [] _ []from e1▸Pq (b4 (cf _) (ah (hn▸hx) (by decide))) hc1
  rw[e2]
  rw[Jq,hc1]
  generalize(L x)[0]=a at*
  generalize(L x)[n+1]=b at*
  by_cases ha:a=39
  ·by_cases hb:b=39
   ·rw[decide_eq_false (by rintro(q|q|q);exact h2 q;exact q (congrArg some ha);exact q (congrArg some hb))]
    apply p [ff,rv (.str (mk [a])) [],ff,ru (.int (L x).length),ru (.str (mk [b])),ff] (ln _) n2 (i0 _) ((w9 wm).trans (decide_eq_false λq=>q ha)) (ln _) (i1 _) ((w9 wm).trans (decide_eq_false λq=>q hb)) false rfl
   ·rw[decide_eq_true (.inr (.inr λq=>hb (ax q)))]
    apply p [ff,rv (.str (mk [a])) [],ff,ru (.int (L x).length),ru (.str (mk [b])),tt] (ln _) n2 (i0 _) ((w9 wm).trans (decide_eq_false λq=>q ha)) (ln _) (i1 _) ((w9 wm).trans (decide_eq_true hb)) true rfl
  ·rw[decide_eq_true (.inr (.inl λq=>ha (ax q)))]
   apply p [ff,rv (.str (mk [a])) [],tt] (ln _) n2 (i0 _) ((w9 wm).trans (decide_eq_true ha)) true rfl
theorem Sc(t:List Nat):Txt.join (Str.ofString "") (t.map λc=>mk [c])=mk t:=by
 rw[show(t.map λc=>mk [c])=(t.map λc=>[c]).map mk by rw[b3];rfl,show Str.ofString ""=mk []from rfl,sf,lN];congr 1
 induction t with
 |nil=>rfl
 |cons a r ih=>simpa using ih
theorem nE(P:PO C K bL bM)(hl:4<=lv){x:Str}(hx:eo (L x)):Calls C aH lv [.v (.str x)] [] ((iO (L x)).map λt=> .v (.str (mk t))) []:=by
 have nS:=hx.1
 have Jr:(L x).length=x.length:=gA x
 have a:=λ{L' outer A} (F:aI C (aH.frame L' outer A lv)) (l:Lo)=>aS (l:=l) (os:=[]) P.G F P.nI (by ac_rfl) (bn hl) (nz P (x:=x) (lv:=2) (by decide)) rfl
 have p:=λ{L' outer A} (F:aI C (aH.frame L' outer A lv)) (p:Pa)=>cw (m:=0) F aH.body [sv (.str x),none,none,none,none,none] [] (rv (.bool (g9 (L x))) []::p)
 have sa:=λ(fr:Fm) l=>hO (C:=C) (fr:=fr) (l:=l) (os:=[]) (x:=Str.ofString "wrong name in a listing: ") (y:=x) (by rw[show(Str.ofString "wrong name in a listing: ").length=25 by ac_rfl];exact aX 1025 (by exact aR nS _) rfl)
 cases h:g9 (L x)with
 |true=>
  rw[iO,if_pos h,j3,fE]
  exact Calls.ret 0 rfl λL outer A F=>by apply p F [tt] (a F _) h
 |false=>
 rw[iO,if_neg (by rw[h];decide)]
 have ut:=λ{L' outer A} (F:aI C (aH.frame L' outer A lv))=>Le P F (x:=x) nS
 by_cases hb:(L x).length<2\/(L x)[0]?≠some 39\/(L x)[(L x).length-1]?≠some 39
 ·rw[if_pos hb]
  rw[decide_eq_true hb]at ut
  exact Calls.exc rfl λL' outer A F=>by apply p F [ff,.x (sv (.bool true)) [],tt,ru (.str (Str.ofString "wrong name in a listing: "++x))] (a F _) h (ut F) rfl (sa _ _) (dm P F rfl (bn hl))
 ·rw[if_neg hb]
  rw[decide_eq_false hb]at ut
  obtain⟨n,hn⟩:=Nat.exists_eq_add_of_le' (cu λq=>hb (.inl q))
  have DI:Txt.slice x (some 1) (some ((x.length:Int)-1))=mk (((L x).drop 1).take ((L x).length-2)):=by
   have g:=wy (x:=x) (a:=1) (n:=n) (hn▸ce _)
   rw[bR]at g
   rw[<-Jr,hn,show(((n+2:Nat):Int)-1)=((n+1:Nat):Int)from Int.add_sub_cancel ((n+1:Nat):Int) 1]
   exact g
  have hI:∀c∈((L x).drop 1).take ((L x).length-2),c∈L x:=λc hc=>List.mem_of_mem_drop (gw hc)
  have TS:(((L x).drop 1).take ((L x).length-2)).length<=(L x).length:=aa (List.length_take_le' ..) (by rw[eY];exact Nat.sub_le _ _)
  generalize((L x).drop 1).take ((L x).length-2)=inn at DI hI TS
  have q:=λ{L' outer A} (F:aI C (aH.frame L' outer A lv)) {G:Prop}=>Ld (G:=G) (x:=x) (inn:=inn) (done:=[]) (pl:=0) P hl F (aa TS nS) ((L x).length+1) (List.suffix_refl _) (cU _) (lA TS) (ai _)
  have w:=λ{L' outer A o k} (F:aI C (aH.frame L' outer A lv)) (l:iY C (aH.frame L' outer A lv) (Bl aH.body 5) ED [4] 1 k (td x inn 0 none) (qs []) o)=>zA (ks:=[4]) (os:=qs []) (l:=td x inn 0 none) F Fn.top rfl ⟨k,l⟩
  have pre:=λ{L' outer A} (F:aI C (aH.frame L' outer A lv)) (r:Pa)=>p F ([ff,.x (sv (.bool false)) [],ff,ru (.int x.length),ru (.str (mk inn))]++r)
  have cl:=λ{L' outer A} (F:aI C (aH.frame L' outer A lv)) l=>hG (os:=[]) (l:=l) P F (by ac_rfl) (x:=x) (by exact ah nS (by decide))
  cases hu:wn ((L x).length+1) inn with
  |none=>
   refine Calls.exc rfl λL' outer A F=>q F (λk _ l=> ?_) λk t e=>absurd (hu.symm.trans e) nofun
   apply pre F [.o .exc] (a F _) h (ut F) rfl (cl F _) (Bp (aX 1000 (by exact nS) rfl) DI) (w F l)
  |some t=>
   obtain⟨h1,h2⟩:=Kp hu
   have ht:eo (L (mk t)):=by
    rw[c8]
    refine⟨aa h1 (aa TS nS),λc hc=> ?_⟩
    rcases h2 c hc with q|q
    ·exact hx.2 c (hI c q)
    ·exact ah q (by decide)
   have P1:t.length<=1000:=by have:=ht.1;rwa[c8]at this
   have qn:=λ{L' outer A} (F:aI C (aH.frame L' outer A lv)) (l:Lo)=>aS (l:=l) (os:=[.list (t.map λc=> .str (mk [c]))]) P.G F P.lj (by ac_rfl) (bn hl) (lb P (lv:=3) (by decide) ht) rfl
   rw[c8]at qn
   have jn:=λ(fr:Fm) l=>zG (C:=C) (fr:=fr) (l:=l) (os:=[.list (t.map λc=> .str (mk [c]))]) (os1:=[.list (t.map λc=> .str (mk [c]))]) (k:=0) (xs:=t.map λc=>mk [c]) (s:=Str.ofString "") (by rw[b3];rfl) (lR 1 (λy hy=>by obtain⟨z,hz,rfl⟩:=bj.mp hy;rw[d8];exact ai 1) (by rw[show(Str.ofString "").length=0 from rfl,af];exact aX 1000 (aa (aZ (Nat.mul_one _)) P1) rfl)) (Sc t)
   have hq:decide (mk (cJ t)=x)=decide (cJ t=L x):=by rw[decide_eq_decide,<-fE x,rA,c8]
   by_cases hw:cJ t=L x
   ·rw[a5,if_pos hw]
    refine Calls.ret (os2:=qs t) 0 rfl λL' outer A F=>q F (λk e=>absurd (hu.symm.trans e) nofun) λk u e l=> ?_
    cases ax (hu.symm.trans e)
    apply pre F [.o (.norm [sv (.str x),sv (.str (mk inn)),some (.o 0),sv (.int inn.length),none,none] [.list (t.map λc=> .str (mk [c]))]),rv (.str (mk t)) [.list (t.map λc=> .str (mk [c]))],rv (.str (mk (cJ t))) [.list (t.map λc=> .str (mk [c]))],ff] (a F _) h (ut F) rfl (cl F _) (Bp (aX 1000 (by exact nS) rfl) DI) (w F l) (jn _ _) (qn F _) (nt (hq.trans (decide_eq_true hw)))
   ·rw[a5,if_neg hw]
    refine Calls.exc rfl λL' outer A F=>q F (λk e=>absurd (hu.symm.trans e) nofun) λk u e l=> ?_
    cases ax (hu.symm.trans e)
    apply pre F [.o (.norm [sv (.str x),sv (.str (mk inn)),some (.o 0),sv (.int inn.length),none,none] [.list (t.map λc=> .str (mk [c]))]),rv (.str (mk t)) [.list (t.map λc=> .str (mk [c]))],rv (.str (mk (cJ t))) [.list (t.map λc=> .str (mk [c]))],tt,rv (.str (Str.ofString "wrong name in a listing: "++x)) [.list (t.map λc=> .str (mk [c]))]] (a F _) h (ut F) rfl (cl F _) (Bp (aX 1000 (by exact nS) rfl) DI) (w F l) (jn _ _) (qn F _) (nf (hq.trans (decide_eq_false hw))) (hO (by rw[show(Str.ofString "wrong name in a listing: ").length=25 by ac_rfl];exact aX 1025 (by exact aR nS _) rfl)) (dm P F rfl (bn hl))
end
end
section
open PySem PySem.W PySem.Calls PyProof.Rows PySem.SeqAt PySem.NumText PySem.W.KIN PySem.StrLaws PySem.Builtin.Str
section
variable{C:Ctx}{fr:Fm}{l:Lo}{os bN os2:List Ob}{bx:Option EV}{cs:List EV}{K:Frag}{bL bM:ClassData}{lv:Nat}
theorem Lf(P:PO C K bL bM){L':Addr}{outer:List Env}{A:Around}(F:aI C (bK.frame L' outer A lv)){x:Str}:To (tT C (bK.frame L' outer A lv) (Jp bK.body 0)) [sv (.str x),none,none,none,none] []
 (sv (.bool ((L x).isEmpty||(decide ((L x)[0]?=some 48)&& !decide (L x=[48]))))) []:=by
 have p:=λ(p:Pa)=>qY F (Jp bK.body 0) [sv (.str x),none,none,none,none] [] p
 cases hx:L x with
 |nil=>
  obtain rfl:x=Str.ofString "":=oF (by rw[hx];rfl)
  apply p [tt] rfl true rfl
 |cons c cs=>
  have hZ:decide (x=Str.ofString "")=false:=decide_eq_false λe=>by rw[e]at hx;cases hx
  have i0:=λl=>Jo (C:=C) (fr:=bK.frame L' outer A lv) (l:=l) (os:=[]) (x:=x) (i:=0) (c:=c) (by decide) (by decide) (by rw[hx];rfl)
  have e1:decide (x=Str.ofString "0")=decide (c::cs=[48]):=by rw[decide_eq_decide,<-hx];exact⟨λq=>by rw[q];exact Ft,λq=>oF (by rw[q,Ft])⟩
  by_cases h1:c=48
  ·have n1:=(FK (c:=c) Ft).trans (decide_eq_true h1)
   rw[show decide ((c::cs)[0]?=some 48)=true from decide_eq_true (congrArg some h1)]
   cases h2:decide (c::cs=[48])with
   |true=>apply p [ff,rv (.str (mk [c])) [],tt,ff,ff] hZ (i0 _) n1 (nt (e1.trans h2)) rfl false rfl
   |false=>apply p [ff,rv (.str (mk [c])) [],tt,tt,tt] hZ (i0 _) n1 (nf (e1.trans h2)) rfl true rfl
  ·have n1:=(FK (c:=c) Ft).trans (decide_eq_false h1)
   rw[show decide ((c::cs)[0]?=some 48)=false from decide_eq_false λq=>h1 (ax q)]
   apply p [ff,rv (.str (mk [c])) [],ff,ff] hZ (i0 _) n1 rfl false rfl
theorem EF(P:PO C K bL bM)(hl:2<=lv){L':Addr}{outer:List Env}{A:Around}(F:aI C (bK.frame L' outer A lv)){x:Str}(hx:27+x.length<=sizeLine):∀cs:List Nat,
 Loop C (bK.frame L' outer A lv) (iZ bK.body 1) [1] 0 1 (cs.map λc=> .str ⟨#[c]⟩) [sv (.str x),none,none,none,none] [] (bif cs.all k6 then .norm [sv (.str x),none,none,none,none] []else .exc)
 |[]=> .nil
 |c::cs=>by
  have l0:=C7 (c:=c) Ft
  have l9:=C8 (c:=c) RL
  have p:=λ(p:Pa)=>cw (m:=0) F (iZ bK.body 1) [sv (.str x),sv (.str (mk [c])),none,none,none] [] p
  cases h1:decide (48<=c)with
  |false=>
   rw[d7,show k6 c=false from congrArg (·&&_) h1]
   apply .exc (p [ff,tt,rv (.str (Str.ofString "wrong number in a listing: "++x)) []] (l0.trans h1) rfl (hO hx) (dm P F rfl (bn hl)))
  |true=>cases h2:decide (c<=57)with
   |true=>
    rw[d7,show k6 c=true from(congr (congrArg and h1) h2),nK]
    with_unfolding_all have h:=p [tt,ff] (l0.trans h1) (nt (l9.trans h2))
    exact .next true h rfl (EF P hl F hx cs)
   |false=>
    rw[d7,show k6 c=false from(congr (congrArg and h1) h2)]
    apply .exc (p [tt,tt,rv (.str (Str.ofString "wrong number in a listing: "++x)) []] (l0.trans h1) (nf (l9.trans h2)) (hO hx) (dm P F rfl (bn hl)))
theorem Sd{n:Nat}(h:n<=100):To (t2 C fr (binaryOp .Pow) (.v (.int 10)) (.v (.int n))) l os (sv (.int (10^n:Nat))) os:=To.pure λ_ _ _ _ _ q=>Ag (aF n) (cT.mpr h) (by rw[bD,show((10:Int)^n)=((10^n:Nat):Int) by rw[Int.natCast_pow];rfl];exact q)
theorem Ow(P:PO C K bL bM)(F:aI C fr)(hk:fr.env.kindOf "int"=some .globalImplicit){x:List Nat}(hd:AllDigits x)(h0:x≠[])(hl:x.length<=640):eE C fr "int" [.v (.str (mk x))] l os (sv (.int (digitsVal x:Nat))) os:=by
 have e:(mk x).cps.toList=x:=c8 x
 have:=intText_digits (x:=mk x) (by rw[e];exact hd) (by rw[e];exact h0) (by rw[d8];exact aa hl (by decide))
 rw[e]at this
 exact yH P F hk this (by rw[d8];exact hl)
theorem Br(P:PO C K bL bM){L':Addr}{outer:List Env}{A:Around}(F:aI C (bK.frame L' outer A lv)){x:Str}(hx:(L x).length<=1000)(xy:AllDigits (L x)):∀m j,(j+m)*18<(L x).length+18->
 Loop C (bK.frame L' outer A lv) (iZ bK.body 3) [1,3,4] 0 3 ((List.range' j m).map λi=> .int (i*18:Nat)) [sv (.str x),none,sv (.int (digitsVal ((L x).take (j*18)):Nat)),none,none] []
  (.norm [sv (.str x),none,sv (.int (digitsVal ((L x).take ((j+m)*18)):Nat)),none,none] [])
 |0,j,_=> .nil
 |m+1,j,h=>by
  have ih:=Br P F hx xy m (j+1) (ah (aZ (congrArg (·*18) (bI j 1 m))) h)
  have hj:j*18<(L x).length:=ah (nP 18 (ay j m)) (Nat.lt_of_add_lt_add_right (ah (aZ (lB (j+m) 18).symm) h))
  have EE:=wy (x:=x) (n:=18) (a9 hj)
  have xq:0<(((L x).drop (j*18)).take 18).length/\(((L x).drop (j*18)).take 18).length<=18:=⟨by rw[cg,eY];exact Nat.lt_min.mpr ⟨by decide,Nat.sub_pos_of_lt hj⟩,List.length_take_le ..⟩
  have hpd:AllDigits (((L x).drop (j*18)).take 18):=λc hc=>xy c (List.mem_of_mem_drop (gw hc))
  have Ym:digitsVal ((L x).take ((j+1)*18))=digitsVal ((L x).take (j*18))*10^(((L x).drop (j*18)).take 18).length+digitsVal (((L x).drop (j*18)).take 18):=by
   rw[<-mc,<-List.take_add,lB]
  rw[Ym,bW j 1 m,bR 1 m]at ih
  generalize((L x).drop (j*18)).take 18=pc at*
  have h18:10^pc.length<2^64:=ah (Nat.pow_le_pow_right (by decide) xq.2) (by decide)
  generalize digitsVal ((L x).take (j*18))=v at*
  with_unfolding_all have b:=cw (m:=0) F (iZ bK.body 3) [sv (.str x),none,sv (.int v),sv (.int (j*18:Nat)),none] [] [ru (.str (mk pc)),ru (.int pc.length),ru (.int (10^pc.length:Nat)),ru (.int (v*10^pc.length:Nat)),ru (.int (digitsVal pc:Nat))] (Bp (aX 1000 (by exact hx) rfl) EE) (Ix P F rfl (by exact ah xq.2 (by decide))) (Sd (by exact aa xq.2 (by decide))) (Ou h18) (Ow P F rfl hpd (by rintro rfl;exact absurd xq.1 (by decide)) (by exact aa xq.2 (by decide)))
  apply .next true b rfl ih
theorem EG:∀n<1001,(Builtin.Range.rangeSize 0 (n:Nat) 18=((n+17)/18:Nat)/\Builtin.Range.small 0 (n:Nat) 18=true)/\n<=(0+(n+17)/18)*18/\(0+(n+17)/18)*18<n+18:=by decide+kernel
theorem Iy(F:aI C fr)(Tp:ir fr){x:Str}{body:List Stmt}{ks:List Nat}{i n:Nat}{o:ql}(hn:n<1001)(hi:fi x fr.vn=some i)(hk:A9 os.length (gk ks l)=true)
 (hL:Loop C fr body ks os.length i ((List.range' 0 ((n+17)/18)).map λi=> .int (i*18:Nat)) (gk ks l) os o):uM C fr x body (.v (.xS 0 n 18)) l os o:=
 HQ F Tp (λ_=>Ac F ((n+17)/18) (EG n hn).1.1 (EG n hn).1.2) hi hk (by
  unfold tu;rw[List.range_eq_range',show(λi:Nat=>PV.int (0+(i:Nat)*18))=λi:Nat=> .int (i*18:Nat)from funext λi=>by rw[ip];rfl];exact hL)
theorem eF(P:PO C K bL bM)(hl:2<=lv){x:Str}(hx:(L x).length<=1000):Calls C bK lv [.v (.str x)] [] ((b5 (L x)).map λv:Nat=> .v (.int v)) []:=by
 have Jr:(L x).length=x.length:=gA x
 have Lg:27+x.length<=sizeLine:=aX 1027 (by exact aR hx _) rfl
 have t:=λ{L' outer A} (F:aI C (bK.frame L' outer A lv))=>Lf P F (x:=x)
 have q:=λ{L' outer A} (F:aI C (bK.frame L' outer A lv))=>Im F Fn.top (os:=[]) (l:=[sv (.str x),none,none,none,none]) (ks:=[1]) (x:="sign") (i:=1) (s:=x) (by ac_rfl) rfl (EF P hl F Lg (L x))
 have p:=λ{L' outer A} (F:aI C (bK.frame L' outer A lv)) (b:Bool) (p:Pa)=>cw (m:=0) F bK.body [sv (.str x),none,none,none,none] [] (.x (sv (.bool b)) []::p)
 unfold b5
 cases hb:(L x).isEmpty||(decide ((L x)[0]?=some 48)&& !decide (L x=[48]))with
 |true=>
  rw[hb]at t
  exact Calls.exc rfl λL' outer A F=>by apply p F true [tt,rv (.str (Str.ofString "wrong number in a listing: "++x)) []] (t F) rfl (hO Lg) (dm P F rfl (bn hl))
 |false=>
  rw[hb]at t
  cases ha:(L x).all k6 with
  |false=>
   rw[ha]at q
   exact Calls.exc rfl λL' outer A F=>by apply p F false [ff,.o .exc] (t F) rfl (q F)
  |true=>
   rw[ha]at q
   have xy:AllDigits (L x):=λc hc=>by
    have:=av.mp ha c hc
    unfold k6 at this;simpa using this
   have q2:=λ{L' outer A} (F:aI C (bK.frame L' outer A lv))=>Iy F Fn.top (os:=[]) (n:=(L x).length) (l:=[sv (.str x),none,sv (.int (0:Nat)),none,none]) (ks:=[1,3,4]) (x:="place") (i:=3) (lA hx) (by ac_rfl) rfl (Br P F hx xy (((L x).length+17)/18) 0 (EG _ (lA hx)).2.2)
   rw[lC ((EG _ (lA hx)).2.1)]at q2
   exact Calls.ret 0 rfl λL' outer A F=>by apply p F false [ff,.o (.norm [sv (.str x),none,none,none,none] []),ru (.int (L x).length),ru (.xS 0 (L x).length 18),.o (.norm [sv (.str x),none,sv (.int (digitsVal (L x):Nat)),none,none] [])] (t F) rfl (q F) (Jr▸hG P F rfl (by exact ah hx (by decide))) (Io P F rfl (by decide) (by decide)) (q2 F)
end
end
section
open PySem PySem.W PySem.Calls PyProof.Rows PySem.SeqAt PySem.NumText PySem.W.KIN
section
variable{C:Ctx}{fr:Fm}{l:Lo}{os bN os2:List Ob}{bx:Option EV}{cs:List EV}{K:Frag}{bL bM:ClassData}{lv:Nat}
theorem fW.book{B:ar}{ps:Nat->Pl}{σ F:St}(r:fW [.book B] ps σ F):gK σ (ps 0).ba B:=by
 have a:=λc hc=>r.at_ 0 (.book B) rfl c hc
 have n:[(ps 0).a,(ps 0).s 0,(ps 0).s 1,(ps 0).s 2,(ps 0).s 3,(ps 0).s 4].Nodup:=r.nd 0 (.book B) rfl
 simp only[cW,ak,not_or]at n
 exact⟨a _ (.head _),a _ (.tail _ (.head _)),a _ (.tail _ (.tail _ (.head _))),a _ (.tail _ (.tail _ (.tail _ (.head _)))),a _ (.tail _ (.tail _ (.tail _ (.tail _ (.head _))))),a _ (.tail _ (.tail _ (.tail _ (.tail _ (.tail _ (.head _)))))),n.2.2.1.2.1,n.2.1.2.1⟩
theorem jZ{Fn:Mine.Fn}{B B':ar}{vs:List PV}{r:PV}(h:∀σ a,gK σ a B->∀(Q:PV->St->Prop) (X:Prop),Q r (cS σ a B')->Spec C Fn lv (.loc a.x::vs) σ Q X):Calls C Fn lv (.o 0::vs.map .v) [.book B] (sv r) [.book B']:= .mk λas σ F ⟨ps,rp,ha⟩ Q X k=>by
 have hB:=rp.book
 have e:(EV.o 0::vs.map EV.v).map (·.at as)=.loc (ps 0).ba.x::vs:=by
  rw[bp,b3,show((λc:EV=>c.at as)∘EV.v)=id from rfl,List.map_id]
  show PV.loc (as 0)::vs=_
  rw[<-ha 0 (Nat.zero_lt_one)];rfl
 rw[e]
 refine h σ (ps 0).ba hB Q X (k as _ ⟨λ_ _=>rfl,⟨ps,rp.turn (k:=0) (o:= .book B) (o':= .book B') rfl (lD _) ?_ λb hb=> ?_,ha⟩,trivial,ai _⟩)
 ·have Pr:=hB.put B'
  intro c hc
  change c∈[((ps 0).a,dx.inst 155 ((ps 0).s 0)),((ps 0).s 0,.ca (iV (ps 0).ba)),((ps 0).s 1,.list (B'.texts.map .str)),((ps 0).s 2,.ca (sL B'.texts)),((ps 0).s 3,.list (B'.bh.map kK)),((ps 0).s 4,.hY (rD B'.bh))]at hc
  simp only[ak,aP,or_false]at hc
  rcases hc with rfl|rfl|rfl|rfl|rfl|rfl
  ·exact Pr.hx
  ·exact Pr.hd
  ·exact Pr.ht
  ·exact Pr.ha
  ·exact Pr.hf
  ·exact Pr.hn
 ·change b∉[(ps 0).a,(ps 0).s 0,(ps 0).s 1,(ps 0).s 2,(ps 0).s 3,(ps 0).s 4]at hb
  simp only[ak,not_or]at hb
  exact dL _ _ hb.2.2.1 hb.2.2.2.1 hb.2.2.2.2.1 hb.2.2.2.2.2.1
theorem EH{o:Expr}{ap pos:Pos}{es:List Expr}(h:vl o ap pos es=true)(name:Str)(env:Env):∃pl,eval (.Call (.Attribute o name ap) es [] pos) env=(do
 let ov<-eval o env
 standAt ap.atName
 let(f,first)<-holding [ov] (getMethod ov name pl)
 callWith pos f first (backTo pos (starEach es env)) []):=by
 obtain⟨k1,k2⟩:=an.mp h
 obtain⟨k2,k3⟩:=an.mp k2
 obtain⟨k3,k4⟩:=an.mp k3
 refine⟨do return (<-importBound o env).getD true,?_⟩
 have Se:methodCallForm (es.length+([]:List Keyword).length) (backTo pos (starEach es env)) (backToKw pos (keywordEach [] env))=true:=wW k1 k2 pos env
 rw[arm_eval_Call,HV k3]
 unfold methodCall calleeOf methodCallPos
 rw[Se,k4]
 rfl
theorem qp(P:PO C K bL bM)(F:aI C fr){Fn:Mine.Fn}(H:FnAt C Fn){name:Str}(hf:findIn K (.ref 155) name=some (some (.ref Fn.f)))(ht:typeIn K (.ref Fn.f)=some (.type "function"))(hl:lv<fr.lvl){k:Nat}{B1 B B':ar}{r:PV}{vs:List PV}{os1:List Ob}
 (h1:os1[k]?=some (.book B1)) (hb:os[k]?=some (.book B)) (hn:∀a,b0 (iV a) name=none) (hc:Calls C Fn lv (.o 0::vs.map .v) [.book B] (sv r) [.book B']) (hv:vs.length+1=Fn.np) (Gy:os.all Ob.live=true):fJ C fr name (.o k) os1 (vs.map .v) l os (sv r) (os.set k (.book B')):=λo ap pos es tZ hs h2 h3=>by
 refine .mk λas ρ σ F0 S Q X e=>i7 P.G F H P.hX P.oS hf ht hl (h2.go as ρ σ F0 S _ _ λcK cZ v1=> ?_) (fZ (an.mp hs).1 _ _) (EH hs name)
 obtain⟨ps,rp,ha⟩:=v1.s.r
 have eP:=(aj.mp h1).1
 have c1:=rp.at_ k _ h1 _ (.head _)
 have c2:=rp.at_ k _ h1 _ (.tail _ (.head _))
 refine⟨cK k,_,_,rfl,by rw[<-ha k eP];exact c1,c2,hn _,h3.go cK ρ cZ F0 v1.s _ _ λiC hH v2=>⟨by rw[af,af];exact hv,?_⟩⟩
 have Yn:=(aj.mp hb).1
 have hs:xH os [k]=[.book B]:=by show[os.getD k .gone]=_;rw[ed,hb];rfl
 have O9:Calls C Fn lv (.o 0::vs.map .v) (xH os [k]) (sv r) [.book B']:=hs▸hc
 have:=O9.at_ (m:=[k]) (cW.mpr ⟨aP,cX⟩) (λj hj=>by rw[am.mp hj];exact Yn) (λq hq=>av.mp Gy q hq) (ai 1) v2.s (Q:=Q) (X:=X) (by
  have:=e.after v1|>.xo v2
  rwa[show s5 os [k] [.book B']=os.set k (.book B')from bV _])
 rw[bp,bp]at this
 rw[show(vs.map EV.v).map (EV.ER (rn [k]))=vs.map .v by rw[b3];rfl]at this
 rw[<-v2.a k eP]
 exact this
theorem Ox(P:PO C K bL bM){B:ar}{i:Nat}{t:Str}(hi:B.texts[i]?=some t)(hz:i<2^62):Calls C gD lv [.o 0,.v (.int i)] [.book B] (sv (.str t)) [.book B]:=jZ (vs:=[.int i]) λσ a hB Q X q=>wq P hB hi hz (hB.same▸q)
theorem Oy(P:PO C K bL bM){B:ar}{i:Nat}{f:Nat×Nat}(hi:B.bh[i]?=some f)(hz:i<2^62):Calls C gG lv [.o 0,.v (.int i)] [.book B] (sv (.int f.1)) [.book B]:=jZ (vs:=[.int i]) λσ a hB Q X q=>wt P hB hi hz (hB.same▸q)
theorem Lh(P:PO C K bL bM){B:ar}{i:Nat}{f:Nat×Nat}(hi:B.bh[i]?=some f)(hz:i<2^62):Calls C f9 lv [.o 0,.v (.int i)] [.book B] (sv (.int f.2)) [.book B]:=jZ (vs:=[.int i]) λσ a hB Q X q=>uY P hB hi hz (hB.same▸q)
theorem Oz(P:PO C K bL bM){B:ar}{t:Str}(hz:B.texts.length<=1000000):Calls C gC lv [.o 0,.v (.str t)] [.book B] (sv (.int (ix t (B.atom t).texts:Nat))) [.book (B.atom t)]:=jZ (vs:=[.str t]) λσ a hB Q X q=>kl P hB hz q
theorem FN(P:PO C K bL bM){B:ar}{f:Nat×Nat}(hz:B.bh.length<=1000000):Calls C fn lv [.o 0,.v (.int f.1),.v (.int f.2)] [.book B] (sv (.int (ix f (B.du f).bh:Nat))) [.book (B.du f)]:=jZ (vs:=[.int f.1,.int f.2]) λσ a hB Q X q=>kM P hB hz q
end
section
variable{C:Ctx}{fr:Fm}{l:Lo}{os bN os2:List Ob}{bx:Option EV}{cs:List EV}{K:Frag}{bL bM:ClassData}{lv:Nat}{B:ar}
theorem Iz(P:PO C K bL bM)(F:aI C fr)(hl:0<fr.lvl){k i:Nat}{t:Str}(hb:os[k]?=some (.book B))(hi:B.texts[i]?=some t)(hz:i<2^62)(hv:os.all Ob.live=true):fJ C fr "text" (.o k) os [.v (.int i)] l os (sv (.str t)) (os.set k (.book B)):=
 qp (vs:=[.int i]) P F P.oJ P.DU P.DV hl hb hb (λa=>by ac_rfl) (Ox P hi hz) rfl hv
theorem OA(P:PO C K bL bM)(F:aI C fr)(hl:0<fr.lvl){k i:Nat}{f:Nat×Nat}(hb:os[k]?=some (.book B))(hi:B.bh[i]?=some f)(hz:i<2^62)(hv:os.all Ob.live=true):fJ C fr "name" (.o k) os [.v (.int i)] l os (sv (.int f.1)) (os.set k (.book B)):=
 qp (vs:=[.int i]) P F P.oK P.DW P.DX hl hb hb (λa=>by ac_rfl) (Oy P hi hz) rfl hv
theorem Li(P:PO C K bL bM)(F:aI C fr)(hl:0<fr.lvl){k i:Nat}{f:Nat×Nat}(hb:os[k]?=some (.book B))(hi:B.bh[i]?=some f)(hz:i<2^62)(hv:os.all Ob.live=true):fJ C fr "arity" (.o k) os [.v (.int i)] l os (sv (.int f.2)) (os.set k (.book B)):=
 qp (vs:=[.int i]) P F P.m7 P.AJ P.AK hl hb hb (λa=>by ac_rfl) (Lh P hi hz) rfl hv
theorem zH(P:PO C K bL bM)(F:aI C fr)(hl:0<fr.lvl){k:Nat}{t:Str}{os1:List Ob}(h1:os1[k]?=some (.book B))(hb:os[k]?=some (.book B))(hz:B.texts.length<=1000000)(hv:os.all Ob.live=true):fJ C fr "atom" (.o k) os1 [.v (.str t)] l os (sv (.int (ix t (B.atom t).texts:Nat))) (os.set k (.book (B.atom t))):=
 qp (vs:=[.str t]) P F P.gJ P.sI P.sJ hl h1 hb (λa=>by ac_rfl) (Oz P hz) rfl hv
theorem FO(P:PO C K bL bM)(F:aI C fr)(hl:0<fr.lvl){k:Nat}{f:Nat×Nat}{os1:List Ob}{B1:ar}(h1:os1[k]?=some (.book B1))(hb:os[k]?=some (.book B))(hz:B.bh.length<=1000000)(hv:os.all Ob.live=true):fJ C fr "functor" (.o k) os1 [.v (.int f.1),.v (.int f.2)] l os (sv (.int (ix f (B.du f).bh:Nat))) (os.set k (.book (B.du f))):=
 qp (vs:=[.int f.1,.int f.2]) P F P.gq P.mE P.mF hl h1 hb (λa=>by ac_rfl) (FN P hz) rfl hv
theorem nG(P:PO C K bL bM)(hl:4<=lv){k n:Int}(hc:iW B k n):Calls C fk lv [.o 0,.v (.tup [.int k,.int n])] [.book B] (sv (.str (mk (hM B k n)))) [.book B]:=by
 have i0:=λ(fr:Fm) l=>BU (C:=C) (fr:=fr) (l:=l) (os:=[.book B]) (xs:=[.int k,.int n]) (i:=0) (by decide) (by decide) rfl
 have i1:=λ(fr:Fm) l=>BU (C:=C) (fr:=fr) (l:=l) (os:=[.book B]) (xs:=[.int k,.int n]) (i:=1) (by decide) (by decide) rfl
 rcases hc with⟨rfl,hn⟩|⟨rfl,i,t,rfl,hi,ht,Ks⟩
 ·rw[hM,if_pos rfl,fE]
  exact Calls.ret (os2:=[.book B]) 1 rfl λL' outer A F=>by apply cw F fk.body [some (.o 0),sv (.tup [.int 5,.int n])] [.book B] [ru (.int 5),ru (.int 5),tt,ru (.int n),ru (.str (cE n))] (i0 _ _) (ta P F rfl) rfl (i1 _ _) (aS P.G F P.fA rfl (bn hl) (fy P (lv:=0) hn) rfl)
 ·have e:hM B 4 (i:Nat)=cJ (L t):=by unfold hM ko;rw[if_neg (by decide)];simp only[bD,ht,dQ]
  rw[e]
  exact Calls.ret (os2:=[.book B]) 1 rfl λL' outer A F=>by apply cw F fk.body [some (.o 0),sv (.tup [.int 4,.int i])] [.book B] [ru (.int 4),ru (.int 5),ff,ru (.int i),ru (.str t),ru (.str (mk (cJ (L t))))] (i0 _ _) (ta P F rfl) rfl (i1 _ _) (Iz P F (bn hl) rfl ht hi rfl) (aS P.G F P.lj rfl (bn hl) (lb P (lv:=3) (by decide) Ks) rfl)
theorem pK(P:PO C K bL bM)(hl:4<=lv){n:Int}(hc:iX B n):Calls C gH lv [.o 0,.v (.int n)] [.book B] (sv (.str (mk (io B n)))) [.book B]:=by
 obtain⟨i,f,t,rfl,hi,hf,hf1,ht,Ks,hn⟩:=hc
 have e:io B (i:Nat)=(cJ (L t)++[47])++L (cE (f.2:Nat)):=by unfold io ko;simp only[bD,hf,ht,dQ,aC];rfl
 have l1:=rE Ks
 have l2:=gR hn
 have e2:Str.ofString "/"=mk [47]:=by rw[<-fE (Str.ofString "/")];with_unfolding_all rfl
 have s1:=λ(fr:Fm) l=>nA (C:=C) (fr:=fr) (l:=l) (os:=[.book B]) (a:=cJ (L t)) (b:=[47]) (aX 11003 (by rw[aL];exact ah l1 (by decide)) rfl)
 have s2:=λ(fr:Fm) l=>nA (C:=C) (fr:=fr) (l:=l) (os:=[.book B]) (a:=cJ (L t)++[47]) (b:=L (cE (f.2:Nat))) (aX 13000 (by rw[ae,aL];exact mq [.le (.v 0) (.n 11002),.le (.v 1) (.n 1900)] (.le (.a (.a (.v 0) (.n 1)) (.v 1)) (.n 13000)) [1,1] (Eq.refl true) l1 l2) rfl)
 rw[<-e2]at s1
 rw[fE]at s2
 rw[e]
 exact Calls.ret (os2:=[.book B]) 1 rfl λL' outer A F=>by
  apply cw F gH.body [some (.o 0),sv (.int i)] [.book B] [ru (.int f.1),ru (.str t),ru (.str (mk (cJ (L t)))),ru (.str (mk (cJ (L t)++[47]))),ru (.int f.2),ru (.str (cE (f.2:Nat))),ru (.str (mk ((cJ (L t)++[47])++L (cE (f.2:Nat)))))]
   (OA P F (bn hl) rfl hf hi rfl) (Iz P F (bn hl) rfl ht hf1 rfl) (aS P.G F P.lj rfl (bn hl) (lb P (lv:=3) (by decide) Ks) rfl) (s1 _ _) (Li P F (bn hl) rfl hf hi rfl) (aS P.G F P.fA rfl (bn hl) (fy P (lv:=0) hn) rfl) (s2 _ _)
theorem Bs(P:PO C K bL bM)(hl:5<=lv){L':Addr}{outer:List Env}{A:Around}(F:aI C (bT.frame L' outer A lv)){t:List (List Int×Int)}:∀(kvs:List ((Int×Int)×Int)) (done:List (List Nat)),(∀p∈kvs,b0 t [p.1.1,p.1.2]=some p.2/\iW B p.1.1 p.1.2/\dG p.2)->done.length+kvs.length<=2000->
 Loop C (bT.frame L' outer A lv) (iZ bT.body 1) [4,5] 2 4 ((jW kvs).map λp=>lJ p.1) [some (.o 0),sv (.dY t),sv (.str "T"),some (.o 1),none,none] [.book B,.list (aJ done)]
  (.norm [some (.o 0),sv (.dY t),sv (.str "T"),some (.o 1),none,none] [.book B,.list (aJ (done++kvs.map (sN B)))])
 |[],done,_,_=>by rw[fK,bV];exact .nil
 |((k,n),v)::kvs,done,h,hd=>by
  obtain⟨GQ,hc,hv⟩:=h _ (az ..)
  have l1:(hM B k n).length<=11002:=wv hc
  have l2:(L (cE v)).length<=1900:=gR hv
  rw[aw]at hd
  have ih:=Bs P hl F kvs (done++[sN B ((k,n),v)]) (λp hp=>h p (aK _ hp)) (by rw[ae,aL];exact mq [.le (.a (.v 0) (.a (.v 1) (.n 1))) (.n 2000)] (.le (.a (.a (.v 0) (.n 1)) (.v 1)) (.n 2000)) [1] (Eq.refl true) hd)
  have e2:Str.ofString ":"=mk [58]:=by rw[<-fE (Str.ofString ":"),zm]
  have s1:=λl=>nA (C:=C) (fr:=bT.frame L' outer A lv) (l:=l) (os:=[.book B,.list (aJ done)]) (a:=hM B k n) (b:=[58]) (aX 11003 (by rw[aL];exact ah l1 (by decide)) rfl)
  have s2:=λl=>nA (C:=C) (fr:=bT.frame L' outer A lv) (l:=l) (os:=[.book B,.list (aJ done)]) (a:=hM B k n++[58]) (b:=L (cE v)) (aX 13000 (by rw[ae,aL];exact mq [.le (.v 0) (.n 11002),.le (.v 1) (.n 1900)] (.le (.a (.a (.v 0) (.n 1)) (.v 1)) (.n 13000)) [1,1] (Eq.refl true) l1 l2) rfl)
  rw[<-e2]at s1
  rw[fE]at s2
  have hsz:(aJ done).length<=sizeLine:=aX 2000 (by rw[af];exact aa (ay _ _) hd) rfl
  rw[aC,show[sN B ((k,n),v)]++kvs.map (sN B)=(((k,n),v)::kvs).map (sN B)from rfl,show aJ (done++[sN B ((k,n),v)])=aJ done++[.str (mk ((hM B k n++[58])++L (cE v)))] by rw[aJ,aQ,aC];rfl]at ih
  with_unfolding_all have b:=cw (m:=2) F (iZ bT.body 1) [some (.o 0),sv (.dY t),sv (.str "T"),some (.o 1),sv (.tup [.int k,.int n]),none] [.book B,.list (aJ done)] [tt,ru (.str (mk (hM B k n))),ru (.str (mk (hM B k n++[58]))),ru (.int v),ru (.str (cE v)),ru (.str (mk ((hM B k n++[58])++L (cE v)))),rv .none [.book B,.list (aJ done++[.str (mk ((hM B k n++[58])++L (cE v)))])]] rfl (cH P.G F P.nJ rfl (bn hl) [0] (nG P (lv:=4) (by decide) hc) rfl rfl rfl rfl rfl) (s1 _) (Is F GQ) (aS P.G F P.fA rfl (bn hl) (fy P (lv:=0) hv) rfl) (s2 _) (iP rfl rfl hsz)
  exact .next true b rfl ih
theorem Bt(P:PO C K bL bM)(hl:5<=lv){L':Addr}{outer:List Env}{A:Around}(F:aI C (bT.frame L' outer A lv)){t:List (Int×Int)}:∀(kvs:List (Int×Int)) (done:List (List Nat)),(∀p∈kvs,b0 t p.1=some p.2/\iX B p.1/\dG p.2)->done.length+kvs.length<=2000->
 Loop C (bT.frame L' outer A lv) (iZ bT.body 1) [4,5] 2 4 (kvs.map λp=> .int p.1) [some (.o 0),sv (.tabI t),sv (.str "U"),some (.o 1),none,none] [.book B,.list (aJ done)]
  (.norm [some (.o 0),sv (.tabI t),sv (.str "U"),some (.o 1),none,none] [.book B,.list (aJ (done++kvs.map (sP B)))])
 |[],done,_,_=>by rw[fK,fK,bV];exact .nil
 |(k,v)::kvs,done,h,hd=>by
  obtain⟨GQ,hc,hv⟩:=h _ (az ..)
  have l1:(io B k).length<=13000:=ww hc
  have l2:(L (cE v)).length<=1900:=gR hv
  rw[aw]at hd
  have ih:=Bt P hl F kvs (done++[sP B (k,v)]) (λp hp=>h p (aK _ hp)) (by rw[ae,aL];exact mq [.le (.a (.v 0) (.a (.v 1) (.n 1))) (.n 2000)] (.le (.a (.a (.v 0) (.n 1)) (.v 1)) (.n 2000)) [1] (Eq.refl true) hd)
  have e2:Str.ofString ":"=mk [58]:=by rw[<-fE (Str.ofString ":"),zm]
  have s1:=λl=>nA (C:=C) (fr:=bT.frame L' outer A lv) (l:=l) (os:=[.book B,.list (aJ done)]) (a:=io B k) (b:=[58]) (aX 13001 (dp l1 1) rfl)
  have s2:=λl=>nA (C:=C) (fr:=bT.frame L' outer A lv) (l:=l) (os:=[.book B,.list (aJ done)]) (a:=io B k++[58]) (b:=L (cE v)) (aX 15000 (by rw[ae,aL];exact mq [.le (.v 0) (.n 13000),.le (.v 1) (.n 1900)] (.le (.a (.a (.v 0) (.n 1)) (.v 1)) (.n 15000)) [1,1] (Eq.refl true) l1 l2) rfl)
  rw[<-e2]at s1
  rw[fE]at s2
  have hsz:(aJ done).length<=sizeLine:=aX 2000 (by rw[af];exact aa (ay _ _) hd) rfl
  rw[aC,show[sP B (k,v)]++kvs.map (sP B)=((k,v)::kvs).map (sP B)from rfl,show aJ (done++[sP B (k,v)])=aJ done++[.str (mk ((io B k++[58])++L (cE v)))] by rw[aJ,aQ,aC];rfl]at ih
  with_unfolding_all have b:=cw (m:=2) F (iZ bT.body 1) [some (.o 0),sv (.tabI t),sv (.str "U"),some (.o 1),sv (.int k),none] [.book B,.list (aJ done)] [ff,ru (.str (mk (io B k))),ru (.str (mk (io B k++[58]))),ru (.int v),ru (.str (cE v)),ru (.str (mk ((io B k++[58])++L (cE v)))),rv .none [.book B,.list (aJ done++[.str (mk ((io B k++[58])++L (cE v)))])]] rfl (cH P.G F P.pW rfl (bn hl) [0] (pK P (lv:=4) (by decide) hc) rfl rfl rfl rfl rfl) (s1 _) (It GQ) (aS P.G F P.fA rfl (bn hl) (fy P (lv:=0) hv) rfl) (s2 _) (iP rfl rfl hsz)
  exact .next true b rfl ih
theorem xa(P:PO C K bL bM)(hl:5<=lv){kvs:List ((Int×Int)×Int)}(hn:(kvs.map (·.1)).Nodup)(hs:kvs.length<=1000)(hc:∀p∈kvs,iW B p.1.1 p.1.2/\dG p.2):
 Calls C bT lv [.o 0,.v (.dY (jW kvs)),.v (.str "T")] [.book B] (some (.o 1)) [.book B,.list (aJ (pu B kvs))]:=Calls.ret (os2:=[.book B,.list (aJ (pu B kvs))]) 2 rfl λL' outer A F=>by
 have q:=MI P F Fn.top (os:=[.book B,.list (aJ [[123]])]) (l:=[some (.o 0),sv (.dY (jW kvs)),sv (.str "T"),some (.o 1),none,none]) (ks:=[4,5]) (x:="key") (i:=4) (by ac_rfl) rfl (Bs P hl F kvs [[123]] (λp hp=>⟨by obtain⟨i,hi⟩:=dP hp;exact AO hn hi,hc p hp⟩) (by rw[aL];exact rf [.le (.v 0) (.n 1000)] (.le (.a (.n 1) (.v 0)) (.n 2000)) [1] (Eq.refl true) hs))
 have e1:Str.ofString "{"=mk [123]:=by rw[<-fE (Str.ofString "{"),CG]
 have e2:Str.ofString "}"=mk [125]:=by rw[<-fE (Str.ofString "}"),vj]
 rw[show aJ [[123]]=[.str (Str.ofString "{")] by rw[e1];rfl]at q
 have hsz:(aJ ([[123]]++kvs.map (sN B))).length<=sizeLine:=aX 1001 (by rw[af,ae,af,aL];exact aR hs _) rfl
 apply cw (m:=1) F bT.body [some (.o 0),sv (.dY (jW kvs)),sv (.str "T"),none,none,none] [.book B] [.o (.norm [some (.o 0),sv (.dY (jW kvs)),sv (.str "T"),some (.o 1),none,none] [.book B,.list (aJ ([[123]]++kvs.map (sN B)))]),rv .none [.book B,.list (aJ (pu B kvs))]] q (d6 rfl rfl hsz (by rw[e2];exact(aQ (l₁:=[[123]]++kvs.map (sN B)) (l₂:=[[125]])).symm))
theorem xb(P:PO C K bL bM)(hl:5<=lv){kvs:List (Int×Int)}(hn:(kvs.map (·.1)).Nodup)(hs:kvs.length<=1000)(hc:∀p∈kvs,iX B p.1/\dG p.2):
 Calls C bT lv [.o 0,.v (.tabI kvs),.v (.str "U")] [.book B] (some (.o 1)) [.book B,.list (aJ (py B kvs))]:=Calls.ret (os2:=[.book B,.list (aJ (py B kvs))]) 2 rfl λL' outer A F=>by
 have q:=MJ P F Fn.top (os:=[.book B,.list (aJ [[123]])]) (l:=[some (.o 0),sv (.tabI kvs),sv (.str "U"),some (.o 1),none,none]) (ks:=[4,5]) (x:="key") (i:=4) (by ac_rfl) rfl (Bt P hl F kvs [[123]] (λp hp=>⟨r9 hn hp,hc p hp⟩) (by rw[aL];exact rf [.le (.v 0) (.n 1000)] (.le (.a (.n 1) (.v 0)) (.n 2000)) [1] (Eq.refl true) hs))
 have e1:Str.ofString "{"=mk [123]:=by rw[<-fE (Str.ofString "{"),CG]
 have e2:Str.ofString "}"=mk [125]:=by rw[<-fE (Str.ofString "}"),vj]
 rw[show aJ [[123]]=[.str (Str.ofString "{")] by rw[e1];rfl]at q
 have hsz:(aJ ([[123]]++kvs.map (sP B))).length<=sizeLine:=aX 1001 (by rw[af,ae,af,aL];exact aR hs _) rfl
 apply cw (m:=1) F bT.body [some (.o 0),sv (.tabI kvs),sv (.str "U"),none,none,none] [.book B] [.o (.norm [some (.o 0),sv (.tabI kvs),sv (.str "U"),some (.o 1),none,none] [.book B,.list (aJ ([[123]]++kvs.map (sP B)))]),rv .none [.book B,.list (aJ (py B kvs))]] q (d6 rfl rfl hsz (by rw[e2];exact(aQ (l₁:=[[123]]++kvs.map (sP B)) (l₂:=[[125]])).symm))
theorem zJ{L':Addr}{outer:List Env}{A:Around}(F:aI C (aU.frame L' outer A lv)){p q:Option EV}{a b c d e:Option EV}:∀(ws done:List (List Nat)),done.length+ws.length<=2000->kO 3 a=true->kO 3 b=true->kO 3 c=true->kO 3 d=true->kO 3 e=true->kO 3 p=true->
 Loop C (aU.frame L' outer A lv) (iZ (MH (MH (MH (MH (iZ aU.body 1) 2) 0) 0) 0) 0) [7] 3 7 (aJ ws) [a,b,c,some (.o 1),d,e,p,none] [.book B,.list (aJ done),.held] (.norm [a,b,c,some (.o 1),d,e,p,none] [.book B,.list (aJ (done++ws)),.held])
 |[],done,_,_,_,_,_,_,_=>by rw[bV];exact .nil
 |w::ws,done,h,h1,h2,h3,h4,h5,h6=>by
  rw[aw]at h
  have ih:=zJ F (p:=p) (q:=q) (a:=a) (b:=b) (c:=c) (d:=d) (e:=e) ws (done++[w]) (by rw[ae,aL];exact mq [.le (.a (.v 0) (.a (.v 1) (.n 1))) (.n 2000)] (.le (.a (.a (.v 0) (.n 1)) (.v 1)) (.n 2000)) [1] (Eq.refl true) h) h1 h2 h3 h4 h5 h6
  have hsz:(aJ done).length<=sizeLine:=aX 2000 (by rw[af];exact aa (ay _ _) h) rfl
  rw[aC,show[w]++ws=w::ws from rfl,show aJ (done++[w])=aJ done++[.str (mk w)] by rw[aJ,aQ];rfl]at ih
  with_unfolding_all have b':=cw (m:=3) F (iZ (MH (MH (MH (MH (iZ aU.body 1) 2) 0) 0) 0) 0) [a,b,c,some (.o 1),d,e,p,sv (.str (mk w))] [.book B,.list (aJ done),.held] [rv .none [.book B,.list (aJ done++[.str (mk w)]),.held]] (iP rfl rfl hsz)
  exact .next true b' (by show(kO 3 a&&(kO 3 b&&(kO 3 c&&(true&&(kO 3 d&&(kO 3 e&&(kO 3 p&&(true&&true))))))))=true;rw[h1,h2,h3,h4,h5,h6];rfl) ih
theorem Lj(P:PO C K bL bM)(hl:6<=lv){L':Addr}{outer:List Env}{A:Around}(F:aI C (aU.frame L' outer A lv)){nm ks:Str}{fg:List dA}{j c:Nat}{o:dA}(hj:j<10)(hc:(L ks)[j]?=some c)(ho:fg[j]?=some o)(hk:ma B c o){done:List (List Nat)}(hd:done.length<=1000):
 ∃l1 os1,Runs (iu C (aU.frame L' outer A lv) (iZ aU.body 1)) 2 [some (.o 0),sv (.tup (.str nm::fg.map dA.pv)),sv (.str ks),some (.o 1),sv (.int j),none,none,none] [.book B,.list (aJ done)] (.norm l1 os1)/\gk [4,5,6,7] l1=[some (.o 0),sv (.tup (.str nm::fg.map dA.pv)),sv (.str ks),some (.o 1),none,none,none,none]/\os1.take 2=[.book B,.list (aJ (done++kZ B c o))]:=by
 have hsz:(aJ done).length<=sizeLine:=aX 1000 (by rw[af];exact hd) rfl
 have ap:=λ{l:Lo} {w:List Nat}=>d6 (C:=C) (fr:=aU.frame L' outer A lv) (l:=l) (os:=[.book B,.list (aJ done)]) (os1:=[.book B,.list (aJ done)]) (k:=1) (v:= .str (mk w)) (ys:=aJ (done++[w])) rfl rfl hsz (aQ (l₁:=done) (l₂:=[w])).symm
 have i1:=λ{l:Lo}=>BU (C:=C) (fr:=aU.frame L' outer A lv) (l:=l) (os:=[.book B,.list (aJ done)]) (xs:= .str nm::fg.map dA.pv) (i:=(j:Int)+1) (v:=o.pv) (by exact aF _) (by exact rf [.lt (.v 0) (.n 10)] (.BO (.a (.c (.v 0)) (.n 1)) (.n 9223372036854775808)) [1] (Eq.refl true) hj) (by rw[show((j:Int)+1).toNat=j+1 by exact rfl,fv,bc,ho];rfl)
 have i2:=λ{l:Lo}=>Pq (C:=C) (fr:=aU.frame L' outer A lv) (l:=l) (os:=[.book B,.list (aJ done)]) (x:=ks) (i:=j) (c:=c) (by exact aa hj (by decide)) hc
 have p:=λ(p:Pa)=>cw (m:=2) F (iZ aU.body 1) [some (.o 0),sv (.tup (.str nm::fg.map dA.pv)),sv (.str ks),some (.o 1),sv (.int j),none,none,none] [.book B,.list (aJ done)] ([rv (.str (mk [c])) [.book B,.list (aJ done)],ru o.pv]++p)
 cases o with
 |CA x n=>
  obtain⟨hk,hx,hn⟩:=hk
  have l2:=gR hn
  have r:=λ(p:Pa)=>p++[rv (.str x) [.book B,.list (aJ done)],ru (.int n),ru (.str (cE n)),ru (.str (mk (L x++L (cE n)))),rv .none [.book B,.list (aJ (done++[L x++L (cE n)]))]]
  have a0:=λ{l:Lo}=>BU (C:=C) (fr:=aU.frame L' outer A lv) (l:=l) (os:=[.book B,.list (aJ done)]) (xs:=[.str x,.int n]) (i:=0) (by decide) (by decide) rfl
  have a1:=λ{l:Lo}=>BU (C:=C) (fr:=aU.frame L' outer A lv) (l:=l) (os:=[.book B,.list (aJ done)]) (xs:=[.str x,.int n]) (i:=1) (by decide) (by decide) rfl
  have nt:=λ{l:Lo}=>aS (l:=l) (os:=[.book B,.list (aJ done)]) P.G F P.fA (by ac_rfl) (bn hl) (fy P (lv:=0) hn) rfl
  have ad:=λ{l:Lo}=>nA (C:=C) (fr:=aU.frame L' outer A lv) (l:=l) (os:=[.book B,.list (aJ done)]) (a:=L x) (b:=L (cE n)) (aX 2000 (by exact aa (bB hx l2) (by decide)) rfl)
  rw[fE,fE]at ad
  rcases hk with rfl|rfl|rfl
  ·exact⟨_,_,by apply p ([tt,tt]++[rv (.str x) [.book B,.list (aJ done)],ru (.int n),ru (.str (cE n)),ru (.str (mk (L x++L (cE n)))),rv .none [.book B,.list (aJ (done++[L x++L (cE n)]))]]) i2 i1 rfl rfl a0 a1 nt ad ap,rfl,rfl⟩
  ·exact⟨_,_,by apply p ([ff,tt,tt]++[rv (.str x) [.book B,.list (aJ done)],ru (.int n),ru (.str (cE n)),ru (.str (mk (L x++L (cE n)))),rv .none [.book B,.list (aJ (done++[L x++L (cE n)]))]]) i2 i1 rfl rfl rfl a0 a1 nt ad ap,rfl,rfl⟩
  ·exact⟨_,_,by apply p ([ff,ff,tt,tt]++[rv (.str x) [.book B,.list (aJ done)],ru (.int n),ru (.str (cE n)),ru (.str (mk (L x++L (cE n)))),rv .none [.book B,.list (aJ (done++[L x++L (cE n)]))]]) i2 i1 rfl rfl rfl rfl a0 a1 nt ad ap,rfl,rfl⟩
 |con k n=>
  obtain⟨rfl,hk⟩:=hk
  exact⟨_,_,by apply p [ff,ff,ff,ff,tt,rv (.str (mk (hM B k n))) [.book B,.list (aJ done)],rv .none [.book B,.list (aJ (done++[hM B k n]))]] i2 i1 rfl rfl rfl rfl rfl (cH P.G F P.nJ rfl (bn hl) [0] (nG P (lv:=4) (by decide) hk) rfl rfl rfl rfl rfl) ap,rfl,rfl⟩
 |num n=>
  rcases hk with⟨rfl,hk⟩|⟨hk,hn⟩
  ·exact⟨_,_,by apply p [ff,ff,ff,ff,ff,tt,rv (.str (mk (io B n))) [.book B,.list (aJ done)],rv .none [.book B,.list (aJ (done++[io B n]))]] i2 i1 rfl rfl rfl rfl rfl rfl (cH P.G F P.pW rfl (bn hl) [0] (pK P (lv:=4) (by decide) hk) rfl rfl rfl rfl rfl) ap,rfl,rfl⟩
  ·have nt:=λ{l:Lo}=>aS (l:=l) (os:=[.book B,.list (aJ done)]) P.G F P.fA (by ac_rfl) (bn hl) (fy P (lv:=0) hn) rfl
   have Yo:=λ{l:Lo}=>ap (l:=l) (w:=L (cE n))
   rw[fE]at Yo
   rcases hk with rfl|rfl
   ·exact⟨_,_,by apply p [ff,ff,ff,ff,ff,ff,tt,tt,rv (.str (cE n)) [.book B,.list (aJ done)],rv .none [.book B,.list (aJ (done++[L (cE n)]))]] i2 i1 rfl rfl rfl rfl rfl rfl rfl rfl nt Yo,rfl,rfl⟩
   ·exact⟨_,_,by apply p [ff,ff,ff,ff,ff,ff,ff,tt,tt,rv (.str (cE n)) [.book B,.list (aJ done)],rv .none [.book B,.list (aJ (done++[L (cE n)]))]] i2 i1 rfl rfl rfl rfl rfl rfl rfl rfl rfl nt Yo,rfl,rfl⟩
 |dY kvs=>
  obtain⟨rfl,h1,h2,h3⟩:=hk
  have q:=HR F Fn.top (os:=[.book B,.list (aJ done),.list (aJ (pu B kvs))]) (l:=[some (.o 0),sv (.tup (.str nm::fg.map dA.pv)),sv (.str ks),some (.o 1),sv (.int j),sv (.str (mk [84])),sv (.dY (jW kvs)),none]) (ks:=[7]) (x:="word") (i:=7) (k:=2) (by ac_rfl) rfl rfl
   (zJ F (q:=none) (pu B kvs) done (by rw[pu,aw,ae,af,aL];exact mq [.le (.v 0) (.n 1000),.le (.v 1) (.n 100)] (.le (.a (.v 0) (.a (.a (.v 1) (.n 1)) (.n 1))) (.n 2000)) [1,1] (Eq.refl true) hd h2) rfl rfl rfl rfl rfl rfl) ⟨rfl,rfl⟩
  exact⟨_,_,by apply p [ff,ff,ff,ff,ff,ff,ff,ff,ff,.c (some (.o 2)) [.book B,.list (aJ done),.list (aJ (pu B kvs))],.o (.norm [some (.o 0),sv (.tup (.str nm::fg.map dA.pv)),sv (.str ks),some (.o 1),sv (.int j),sv (.str (mk [84])),sv (.dY (jW kvs)),none] [.book B,.list (aJ (done++pu B kvs)),.list (aJ (pu B kvs))])] i2 i1 rfl rfl rfl rfl rfl rfl rfl rfl rfl (cH P.G F P.q8 rfl (bn hl) [0] (xa P (lv:=5) (by decide) h1 (aa h2 (by decide)) h3) rfl rfl rfl rfl rfl) q,rfl,rfl⟩
 |tabI kvs=>
  obtain⟨rfl,h1,h2,h3⟩:=hk
  have q:=HR F Fn.top (os:=[.book B,.list (aJ done),.list (aJ (py B kvs))]) (l:=[some (.o 0),sv (.tup (.str nm::fg.map dA.pv)),sv (.str ks),some (.o 1),sv (.int j),sv (.str (mk [85])),sv (.tabI kvs),none]) (ks:=[7]) (x:="word") (i:=7) (k:=2) (by ac_rfl) rfl rfl
   (zJ F (q:=none) (py B kvs) done (by rw[py,aw,ae,af,aL];exact mq [.le (.v 0) (.n 1000),.le (.v 1) (.n 100)] (.le (.a (.v 0) (.a (.a (.v 1) (.n 1)) (.n 1))) (.n 2000)) [1,1] (Eq.refl true) hd h2) rfl rfl rfl rfl rfl rfl) ⟨rfl,rfl⟩
  exact⟨_,_,by apply p [ff,ff,ff,ff,ff,ff,ff,ff,ff,.c (some (.o 2)) [.book B,.list (aJ done),.list (aJ (py B kvs))],.o (.norm [some (.o 0),sv (.tup (.str nm::fg.map dA.pv)),sv (.str ks),some (.o 1),sv (.int j),sv (.str (mk [85])),sv (.tabI kvs),none] [.book B,.list (aJ (done++py B kvs)),.list (aJ (py B kvs))])] i2 i1 rfl rfl rfl rfl rfl rfl rfl rfl rfl (cH P.G F P.q8 rfl (bn hl) [0] (xb P (lv:=5) (by decide) h1 (aa h2 (by decide)) h3) rfl rfl rfl rfl rfl) q,rfl,rfl⟩
theorem EI(P:PO C K bL bM)(hl:6<=lv){L':Addr}{outer:List Env}{A:Around}(F:aI C (aU.frame L' outer A lv)){nm ks:Str}{fg:List dA}(OB:(L ks).length<=4)(dZ:fg.length=(L ks).length)(kG:∀(i k:Nat) (o:dA),(L ks)[i]?=some k->fg[i]?=some o->ma B k o):∀m j done,j+m=(L ks).length->done.length+m*102<=1000->
 Loop C (aU.frame L' outer A lv) (iZ aU.body 1) [4,5,6,7] 2 4 ((List.range' j m).map λi=> .int (i:Nat)) [some (.o 0),sv (.tup (.str nm::fg.map dA.pv)),sv (.str ks),some (.o 1),none,none,none,none] [.book B,.list (aJ done)]
  (.norm [some (.o 0),sv (.tup (.str nm::fg.map dA.pv)),sv (.str ks),some (.o 1),none,none,none,none] [.book B,.list (aJ (done++fU B ((L ks).drop j) (fg.drop j)))])
 |0,j,done,h,_=>by rw[lu (aZ (show(L ks).length=j from h.symm)),show fU B [] (fg.drop j)=[]from rfl,bV];exact .nil
 |m+1,j,done,h,hd=>by
  have h1:j<(L ks).length:=by exact nW [.eq (.a (.v 0) (.a (.v 1) (.n 1))) (.v 2)] (.lt (.v 0) (.v 2)) [1] (Eq.refl true) h
  have h2:j<fg.length:=by exact Ge [.eq (.v 0) (.v 1),.eq (.a (.v 2) (.a (.v 3) (.n 1))) (.v 1)] (.lt (.v 2) (.v 0)) [.negSucc 0,1] (Eq.refl true) dZ h
  have hc:=aB h1
  have ho:=aB h2
  have hk:=kG j _ _ hc ho
  have hw:=AU hk
  obtain⟨l1,os1,b,e1,e2⟩:=Lj P hl F (nm:=nm) (by exact aa h1 (aa OB (by decide))) hc ho hk (done:=done) (by exact aa (ay _ _) hd)
  have ih:=EI P hl F (nm:=nm) OB dZ kG m (j+1) (done++kZ B (L ks)[j] fg[j]) (by exact dH (nW [.eq (.a (.v 0) (.a (.v 1) (.n 1))) (.v 2)] (.le (.a (.a (.v 0) (.n 1)) (.v 1)) (.v 2)) [1] (Eq.refl true) h) (nW [.eq (.a (.v 0) (.a (.v 1) (.n 1))) (.v 2)] (.le (.v 2) (.a (.a (.v 0) (.n 1)) (.v 1))) [.negSucc 0] (Eq.refl true) h)) (by rw[ae];omega)
  rw[bY h1,bY h2,show fU B ((L ks)[j]::(L ks).drop (j+1)) (fg[j]::fg.drop (j+1))=kZ B (L ks)[j] fg[j]++fU B ((L ks).drop (j+1)) (fg.drop (j+1))from rfl,<-aC]
  refine .next true b ?_ ?_
  ·rw[e1];rfl
  ·rw[e1,e2];exact ih
theorem qt(P:PO C K bL bM)(hl:6<=lv){nm ks:Str}{fg:List dA}(dZ:fg.length=(L ks).length)(yc:(L ks).length<=4)(kG:∀(i k:Nat) (o:dA),(L ks)[i]?=some k->fg[i]?=some o->ma B k o):
 Calls C aU lv [.o 0,.v (.tup (.str nm::fg.map dA.pv)),.v (.str ks)] [.book B] (some (.o 1)) [.book B,.list (aJ (L nm::fU B (L ks) fg))]:=Calls.ret (os2:=[.book B,.list (aJ (L nm::fU B (L ks) fg))]) 2 rfl λL' outer A F=>by
 have e1:(L ks).length=ks.length:=gA ks
 have q:=pJ F Fn.top (os:=[.book B,.list (aJ [L nm])]) (n:=ks.length) (l:=[some (.o 0),sv (.tup (.str nm::fg.map dA.pv)),sv (.str ks),some (.o 1),none,none,none,none]) (ks:=[4,5,6,7]) (x:="place") (i:=4) (by exact ah yc (by decide)) (by ac_rfl) rfl (EI P hl F (nm:=nm) yc dZ kG ks.length 0 [L nm] (by exact bR _ _) (by rw[aL];omega))
 rw[fj,fj,show aJ [L nm]=[.str nm] by show[PV.str (mk (L nm))]=_;rw[fE]]at q
 have i0:=λ{l:Lo}=>BU (C:=C) (fr:=aU.frame L' outer A lv) (l:=l) (os:=[.book B]) (xs:= .str nm::fg.map dA.pv) (i:=0) (by decide) (by decide) rfl
 apply cw (m:=1) F aU.body [some (.o 0),sv (.tup (.str nm::fg.map dA.pv)),sv (.str ks),none,none,none,none,none] [.book B] [ru (.str nm),rv (.int ks.length) [.book B,.list [.str nm]],ru (.xS 0 ks.length 1),.o (.norm [some (.o 0),sv (.tup (.str nm::fg.map dA.pv)),sv (.str ks),some (.o 1),none,none,none,none] [.book B,.list (aJ ([L nm]++fU B (L ks) fg))])] i0 (hG P F rfl (by exact ah yc (by decide))) (gW P F rfl) q
noncomputable abbrev lh:Ob:= .dS (dO.map λp=>(p.1,.str p.2))
theorem Bu(P:PO C K bL bM):Calls C oG lv [] [] (some (.o 0)) [lh]:= .mk λas σ F rr Q X k=>by
 obtain⟨ps,r,ha⟩:=rr
 have z:∀t,σ t=none->Q (.loc t) (σ.upd t X3):=λt ht=>by
  have w:=r.alloc (o:=lh) (c:=X3) ht (λ_=>rfl) (λ_=>rfl) (λ_ h=>(aP h).elim)
  exact k (λj=>if j=0 then t else as j) _ ⟨λj h=>absurd h (j0 j),⟨_,w,λj hj=>by
   obtain rfl:j=0:=Nat.lt_one_iff.mp hj
   rfl⟩,Nat.zero_lt_one,fh _⟩
 rw[fK]
 with_reducible exact Hy P z
theorem cx(P:PO C K bL bM)(F:aI C fr)(hk:fr.env.kindOf "len"=some .globalImplicit){k n:Nat}{xs:List PV}(ho:os[k]?=some (.list xs))(hn:xs.length=n)(h:n<2^63):eE C fr "len" [.o k] l os (sv (.int n)) os:=by
 subst hn
 exact kP P.G F P.sD P.sE (by decide) hk (To.read ho (λ_=>rfl) λ_ _ _ _ _ hc q=>iA hc h q)
theorem yN{k i:Nat}{xs:List PV}{v:PV}(ho:os[k]?=some (.list xs))(h1:i<2^63)(hx:xs[i]?=some v):mQ C fr (.o k) (.v (.int i)) l os (sv v) os:=
 ⟨⟨_,by show(os[k]?).bind Ob.ty=some "list";rw[ho];rfl,.inl rfl⟩,rfl,To.read ho (λ_=>rfl) λ_ _ _ _ _ hc q=>eU hc (aF i) (bG.mpr h1) (by rw[bD];exact hx) q⟩
theorem EJ(P:PO C K bL bM)(hl:7<=lv){L':Addr}{outer:List Env}{A:Around}(F:aI C (dK.frame L' outer A lv)){is:List ew}{b:Int}(hn:is.length<=1000)(kG:∀i∈is,i.Ok B)(hb:∀k,k<is.length->dG (b+(k:Nat))):∀m j,j+m=is.length->
 Loop C (dK.frame L' outer A lv) (iZ dK.body 2) [5,6] 4 5 ((List.range' j m).map λi=> .int (i:Nat)) [some (.o 0),some (.o 1),sv (.int b),some (.o 2),some (.o 3),none,none] [.book B,.list (is.map ew.pv),lh,.list (aJ (cQ B b (is.take j)))]
  (.norm [some (.o 0),some (.o 1),sv (.int b),some (.o 2),some (.o 3),none,none] [.book B,.list (is.map ew.pv),lh,.list (aJ (cQ B b is))])
 |0,j,h=>by rw[lC (aZ (show is.length=j from h.symm))];exact .nil
 |m+1,j,h=>by
  have hj:j<is.length:=by exact nW [.eq (.a (.v 0) (.a (.v 1) (.n 1))) (.v 2)] (.lt (.v 0) (.v 2)) [1] (Eq.refl true) h
  have hi:=aB hj
  have I:=kG _ (cL hj)
  have ih:=EJ P hl F hn kG hb m (j+1) (by exact dH (nW [.eq (.a (.v 0) (.a (.v 1) (.n 1))) (.v 2)] (.le (.a (.a (.v 0) (.n 1)) (.v 1)) (.v 2)) [1] (Eq.refl true) h) (nW [.eq (.a (.v 0) (.a (.v 1) (.n 1))) (.v 2)] (.le (.v 2) (.a (.a (.v 0) (.n 1)) (.v 1))) [.negSucc 0] (Eq.refl true) h))
  rw[CH hi]at ih
  have Sf:=hb j hj
  generalize is[j]=i at*
  have hlw:=wx 4 I.Pk I.le
  have hww:=Fw I.Pk
  have te:(cQ B b (is.take j)).length<=1000:=by unfold cQ;rw[af,List.length_zipIdx,cg];omega
  have hsz:(aJ (cQ B b (is.take j))).length<=sizeLine:=aX 1000 (by rw[af];exact te) rfl
  have BV:b0 (dO.map λp=>(p.1,PV.str p.2)) i.nm=some (PV.str i.ks):=by rw[tP,I.look];rfl
  have e32:Str.ofString " "=mk [32]:=by rw[<-fE (Str.ofString " "),mJ]
  have l2:=gR Sf
  have TU:∀w∈L i.nm::fU B (L i.ks) i.os,w.length<=15000:=λw hw=>by
   rcases ak.mp hw with rfl|hw
   ·rw[gA];exact aa I.Tz (by decide)
   ·exact hww w hw
  have TQ:=yw [32] TU
  rw[aw,aL]at TQ
  have s1:=λl=>nA (C:=C) (fr:=dK.frame L' outer A lv) (l:=l) (os:=[.book B,.list (is.map ew.pv),lh,.list (aJ (cQ B b (is.take j)))]) (a:=L (cE (b+(j:Nat)))) (b:=[32]) (aX 1901 (by rw[aL];exact ah l2 (by decide)) rfl)
  have s2:=λl=>nA (C:=C) (fr:=dK.frame L' outer A lv) (l:=l) (os:=[.book B,.list (is.map ew.pv),lh,.list (aJ (cQ B b (is.take j))),.list (aJ (L i.nm::fU B (L i.ks) i.os))]) (a:=L (cE (b+(j:Nat)))++[32]) (b:=cI [32] (L i.nm::fU B (L i.ks) i.os)) (aX 16000000 (by rw[ae,aL];omega) rfl)
  rw[<-e32,fE]at s1
  have jn:=λl=>zG (C:=C) (fr:=dK.frame L' outer A lv) (l:=l) (os:=[.book B,.list (is.map ew.pv),lh,.list (aJ (cQ B b (is.take j))),.list (aJ (L i.nm::fU B (L i.ks) i.os))]) (os1:=[.book B,.list (is.map ew.pv),lh,.list (aJ (cQ B b (is.take j)))]) (k:=4) (xs:=(L i.nm::fU B (L i.ks) i.os).map mk) (s:=mk [32]) (by rw[b3];rfl)
   (lR 15000 (λy hy=>by obtain⟨z,hz,rfl⟩:=bj.mp hy;rw[d8];exact TU z hz) (by rw[d8,af,aw,aL];exact aX 16000000 (by omega) rfl)) (sf _ _)
  rw[<-e32]at jn
  have cr:=uO P (lv:=5) (ai _) (sh:=dO) I.look I.le I.Tz I.fits
  rw[I.ok]at cr
  rw[show aJ (cQ B b (is.take j)++[sQ B (b+(j:Nat)) i])=aJ (cQ B b (is.take j))++[.str (mk ((L (cE (b+(j:Nat)))++[32])++cI [32] (L i.nm::fU B (L i.ks) i.os)))] by
   rw[aJ,aQ,aC];rfl]at ih
  have gi:=λl=>yN (C:=C) (fr:=dK.frame L' outer A lv) (l:=l) (os:=[.book B,.list (is.map ew.pv),lh,.list (aJ (cQ B b (is.take j)))]) (k:=1) (i:=j) (v:=i.pv) rfl (by exact nW [.le (.v 0) (.n 1000),.eq (.a (.v 1) (.a (.v 2) (.n 1))) (.v 0)] (.lt (.v 1) (.n 9223372036854775808)) [1,1] (Eq.refl true) hn h) (by rw[bc,hi];rfl)
  have i0:=λl=>BU (C:=C) (fr:=dK.frame L' outer A lv) (l:=l) (os:=[.book B,.list (is.map ew.pv),lh,.list (aJ (cQ B b (is.take j)))]) (xs:= .str i.nm::i.os.map dA.pv) (i:=0) (by decide) (by decide) rfl
  with_unfolding_all have bd:=cw (m:=4) F (iZ dK.body 2) [some (.o 0),some (.o 1),sv (.int b),some (.o 2),some (.o 3),sv (.int j),none] [.book B,.list (is.map ew.pv),lh,.list (aJ (cQ B b (is.take j)))] [ru i.pv,ru .none,ru (.str (cE (b+(j:Nat)))),ru (.str (mk (L (cE (b+(j:Nat)))++[32]))),ru (.str i.nm),ru (.str i.ks),.c (some (.o 4)) [.book B,.list (is.map ew.pv),lh,.list (aJ (cQ B b (is.take j))),.list (aJ (L i.nm::fU B (L i.ks) i.os))],ru (.str (mk (cI [32] (L i.nm::fU B (L i.ks) i.os)))),ru (.str (mk ((L (cE (b+(j:Nat)))++[32])++cI [32] (L i.nm::fU B (L i.ks) i.os)))),rv .none [.book B,.list (is.map ew.pv),lh,.list (aJ (cQ B b (is.take j))++[.str (mk ((L (cE (b+(j:Nat)))++[32])++cI [32] (L i.nm::fU B (L i.ks) i.os)))]),.list (aJ (L i.nm::fU B (L i.ks) i.os))]] (gi _) (cH P.G F P.pV rfl (bn hl) [2] cr rfl rfl rfl rfl rfl) (aS P.G F P.fA rfl (bn hl) (fy P (lv:=0) Sf) rfl) (s1 _) (i0 _) (Iv rfl BV) (cH P.G F P.qu rfl (bn hl) [0] (qt P (lv:=6) (ai _) I.len I.le I.Pk) rfl rfl rfl rfl rfl) (jn _) (s2 _) (iP rfl rfl hsz)
  exact .next true bd rfl ih
theorem FP(P:PO C K bL bM)(hl:7<=lv){is:List ew}{b:Int}(hn:is.length<=1000)(kG:∀i∈is,i.Ok B)(hb:∀k,k<is.length->dG (b+(k:Nat))):
 Calls C dK lv [.o 0,.o 1,.v (.int b)] [.book B,.list (is.map ew.pv)] (some (.o 3)) [.book B,.list (is.map ew.pv),lh,.list (aJ (cQ B b is))]:=Calls.ret (os2:=[.book B,.list (is.map ew.pv),lh,.list (aJ (cQ B b is))]) 4 rfl λL' outer A F=>by
 have q:=pJ F Fn.top (os:=[.book B,.list (is.map ew.pv),lh,.list []]) (n:=is.length) (l:=[some (.o 0),some (.o 1),sv (.int b),some (.o 2),some (.o 3),none,none]) (ks:=[5,6]) (x:="place") (i:=5) (by exact ah hn (by decide)) (by ac_rfl) rfl (EJ P hl F hn kG hb is.length 0 (by exact bR _ _))
 apply cw (m:=2) F dK.body [some (.o 0),some (.o 1),sv (.int b),none,none,none,none] [.book B,.list (is.map ew.pv)] [.c (some (.o 2)) [.book B,.list (is.map ew.pv),lh],rv (.int is.length) [.book B,.list (is.map ew.pv),lh,.list []],ru (.xS 0 is.length 1),.o (.norm [some (.o 0),some (.o 1),sv (.int b),some (.o 2),some (.o 3),none,none] [.book B,.list (is.map ew.pv),lh,.list (aJ (cQ B b is))])] (cH P.G F P.BK rfl (bn hl) [] (Bu P (lv:=0)) rfl rfl rfl rfl rfl) (cx P F rfl rfl (af _) (by exact ah hn (by decide))) (gW P F rfl) q
theorem Bv(P:PO C K bL bM)(F:aI C fr){Fn:Mine.Fn}(H:FnAt C Fn){name:Str}(hf:findIn K (.ref 155) name=some (some (.ref Fn.f)))(ht:typeIn K (.ref Fn.f)=some (.type "function"))(hl:lv<fr.lvl){k:Nat}{B1:ar}{os1:List Ob}
 (h1:os1[k]?=some (.book B1)) (hn:∀a,b0 (iV a) name=none):Bf C fr name (.o k) os1:=λo ap pos es l tZ os2 bN hs h2 h3=>by
 refine .mk λas ρ σ F0 S Q X e=>i7 P.G F H P.hX P.oS hf ht hl (h2.go as ρ σ F0 S _ _ λcK cZ v1=> ?_) (fZ (an.mp hs).1 _ _) (EH hs name)
 obtain⟨ps,rp,ha⟩:=v1.s.r
 have eP:=(aj.mp h1).1
 have c1:=rp.at_ k _ h1 _ (.head _)
 have c2:=rp.at_ k _ h1 _ (.tail _ (.head _))
 exact⟨cK k,_,_,rfl,by rw[<-ha k eP];exact c1,c2,hn _,h3.go cK ρ cZ F0 v1.s _ _ e⟩
theorem EK(P:PO C K bL bM)(F:aI C fr)(hl:0<fr.lvl){k:Nat}{os1:List Ob}(h1:os1[k]?=some (.book B)):Bf C fr "atom" (.o k) os1:=Bv P F P.gJ P.sI P.sJ hl h1 (λa=>by ac_rfl)
theorem Dd(P:PO C K bL bM)(F:aI C fr)(hl:0<fr.lvl){k:Nat}{os1:List Ob}(h1:os1[k]?=some (.book B)):Bf C fr "functor" (.o k) os1:=Bv P F P.gq P.mE P.mF hl h1 (λa=>by ac_rfl)
noncomputable abbrev Bw(p:Nat×Nat):EV:= .v (.tup [.str (mk [p.1]),.int (p.2:Nat)])
theorem jv(P:PO C K bL bM)(hl:3<=lv){x:Str}(hx:eo (L x))(hZ:L x≠[]):Calls C ct lv [.v (.str x)] [] ((mK (L x)).map Bw) []:=by
 obtain⟨c,r,hc⟩:∃c r,L x=c::r:=by cases q:L x with|nil=>exact absurd q hZ|cons c r=>exact⟨c,r,rfl⟩
 have nS:=hx.1
 have Jr:(L x).length=x.length:=gA x
 have i0:=λ{fr:Fm} {l:Lo}=>Jo (C:=C) (fr:=fr) (l:=l) (os:=[]) (x:=x) (i:=0) (c:=c) (by decide) (by decide) (by rw[hc];rfl)
 have Lg:(Str.ofString "wrong register in a listing: ").length+x.length<=sizeLine:=by rw[show(Str.ofString "wrong register in a listing: ").length=29 by ac_rfl];exact aX 1029 (by exact aR nS _) rfl
 have EE:Txt.slice x (some 1) none=mk r:=jk (p:=[c]) hc
 have rc:=eF (C:=C) P (lv:=2) (ai _) (x:=mk r) (by rw[c8];rw[hc,aw]at nS;exact a9 nS)
 rw[c8]at rc
 have h1:=w9 (c:=c) N7
 have h2:=w9 (c:=c) X1
 rw[hc,mK]
 have good:∀p:Pa,(c=120\/c=121)->(∀{L' outer A} (F:aI C (ct.frame L' outer A lv)) (K:KS) (q:Pa),gS C (ct.frame L' outer A lv) 40 ct.body [sv (.str x)] [] (p++q) K->gS C (ct.frame L' outer A lv) 39 (ct.body.drop 1) [sv (.str x)] [] q K)->Calls C ct lv [.v (.str x)] [] ((if c=120\/c=121 then(b5 r).map λv=>(c,v)else none).map Bw) []:=λp hcc hg=>by
  rw[if_pos hcc]
  cases hv:b5 r with
  |none=>
   rw[hv]at rc
   exact Calls.exc rfl λL' outer A F=>by apply hg F _ _ (cw (m:=0) F ct.body [sv (.str x)] [] (p++[rv (.str (mk [c])) [],ru (.str (mk r)),.u none])) i0 (Bp (aX 1000 (by exact nS) rfl) EE) (aS P.G F P.b6 rfl (bn hl) rc rfl)
  |some v=>
   rw[hv]at rc
   exact Calls.ret 0 rfl λL' outer A F=>by apply hg F _ _ (cw (m:=0) F ct.body [sv (.str x)] [] (p++[rv (.str (mk [c])) [],ru (.str (mk r)),ru (.int v)])) i0 (Bp (aX 1000 (by exact nS) rfl) EE) (aS P.G F P.b6 rfl (bn hl) rc rfl)
 by_cases q1:c=120
 ·exact good [rv (.str (mk [c])) [],ff,ff] (.inl q1) λF K q g=>by apply g i0 (h1.trans (decide_eq_false λn=>n q1)) rfl
 ·by_cases q2:c=121
  ·exact good [rv (.str (mk [c])) [],tt,ru (.str (mk [c])),ff,ff] (.inr q2) λF K q g=>by apply g i0 (h1.trans (decide_eq_true q1)) i0 (h2.trans (decide_eq_false λn=>n q2)) rfl
  ·rw[if_neg (λq=>q.elim q1 q2)]
   exact Calls.exc rfl λL' outer A F=>by apply cw (m:=0) F ct.body [sv (.str x)] [] [ru (.str (mk [c])),tt,ru (.str (mk [c])),tt,tt,ru (.str (Str.ofString "wrong register in a listing: "++x))] i0 (h1.trans (decide_eq_true q1)) i0 (h2.trans (decide_eq_true q2)) rfl (hO Lg) (dm P F rfl (bn hl))
noncomputable abbrev OC{α:Type}(B:ar)(r:Option (α×ar)):List Ob:=[.book ((r.map (·.2)).getD B)]
noncomputable abbrev MN(p:(Int×Int)×ar):EV:= .v (.tup [.int p.1.1,.int p.1.2])
theorem FQ{L':Addr}{outer:List Env}{A:Around}(F:aI C (cz.frame L' outer A lv)){x:Str}{c:Nat}{r:List Nat}(hc:L x=c::r):To (tT C (cz.frame L' outer A lv) (Jp cz.body 0)) [some (.o 0),sv (.str x),none] [.book B] (sv (.bool (k6 c))) [.book B]:=by
 have p:=λ(p:Pa)=>qY F (Jp cz.body 0) [some (.o 0),sv (.str x),none] [.book B] (rv (.str (mk [c])) [.book B]::p)
 have i0:=λ{l:Lo}=>Jo (C:=C) (fr:=cz.frame L' outer A lv) (l:=l) (os:=[.book B]) (x:=x) (i:=0) (c:=c) (by decide) (by decide) (by rw[hc];rfl)
 have h1:=C7 (c:=c) Ft
 have h2:=C8 (c:=c) RL
 unfold k6
 cases e1:decide (48<=c)with
 |false=>apply p [ff] i0 (h1.trans e1) false rfl
 |true=>apply p [tt] i0 (h1.trans e1) _ h2
theorem nH(P:PO C K bL bM)(hl:5<=lv){x:Str}(hz:B.texts.length<=1000000)(hx:eo (L x))(hZ:L x≠[]):Calls C cz lv [.o 0,.v (.str x)] [.book B] ((e7 B (L x)).map MN) (OC B (e7 B (L x))):=by
 obtain⟨c,r,hc⟩:∃c r,L x=c::r:=by cases q:L x with|nil=>exact absurd q hZ|cons c r=>exact⟨c,r,rfl⟩
 have nS:=hx.1
 have Jr:(L x).length=x.length:=gA x
 have te:r.length<=999:=by rw[hc,aw]at nS;exact Nat.le_of_succ_le_succ nS
 have i0:=λ{fr:Fm} {l:Lo}=>Jo (C:=C) (fr:=fr) (l:=l) (os:=[.book B]) (x:=x) (i:=0) (c:=c) (by decide) (by decide) (by rw[hc];rfl)
 have Lg:(Str.ofString "wrong number in a listing: ").length+x.length<=sizeLine:=by rw[show(Str.ofString "wrong number in a listing: ").length=27 by ac_rfl];exact aX 1027 (by exact aR nS _) rfl
 have EE:Txt.slice x (some 1) none=mk r:=jk (p:=[c]) hc
 have t:=λ{L' outer A} (F:aI C (cz.frame L' outer A lv))=>FQ (B:=B) F hc
 have p:=λ{L' outer A} (F:aI C (cz.frame L' outer A lv)) (b:Bool) (p:Pa)=>cw (m:=1) F cz.body [some (.o 0),sv (.str x),none] [.book B] (.x (sv (.bool b)) [.book B]::p)
 rw[hc,e7]
 cases hd:k6 c with
 |true=>
  rw[hd]at t
  have rc:=eF (C:=C) P (lv:=2) (ai _) (x:=x) nS
  rw[hc]at rc
  rw[if_pos rfl]
  cases hv:b5 (c::r)with
  |none=>rw[hv]at rc;exact Calls.exc rfl λL' outer A F=>by apply p F true [tt,rv (.int 5) [.book B],.u none] (t F) rfl (ta P F rfl) (aS P.G F P.b6 rfl (bn hl) rc rfl)
  |some v=>rw[hv]at rc;exact Calls.ret (os2:=[.book B]) 1 rfl λL' outer A F=>by apply p F true [tt,rv (.int 5) [.book B],ru (.int v)] (t F) rfl (ta P F rfl) (aS P.G F P.b6 rfl (bn hl) rc rfl)
 |false=>
  rw[hd]at t
  rw[if_neg (by decide)]
  have hm:=FK (c:=c) Ko
  by_cases TW:c=45
  ·rw[if_pos TW]
   have hm:=hm.trans (decide_eq_true TW)
   have rc:=eF (C:=C) P (lv:=2) (ai _) (x:=mk r) (by rw[c8];exact aa te (by decide))
   rw[c8]at rc
   cases hv:b5 r with
   |none=>rw[hv]at rc;exact Calls.exc rfl λL' outer A F=>by apply p F false [ff,rv (.str (mk [c])) [.book B],tt,ru (.str (mk r)),.u none] (t F) rfl i0 hm (Bp (aX 1000 (by exact nS) rfl) EE) (aS P.G F P.b6 rfl (bn hl) rc rfl)
   |some v=>
    rw[hv]at rc
    rw[a5]
    by_cases h0:v=0
    ·rw[if_pos h0];subst h0
     exact Calls.exc rfl λL' outer A F=>by apply p F false [ff,rv (.str (mk [c])) [.book B],tt,ru (.str (mk r)),ru (.int (0:Nat)),tt,ru (.str (Str.ofString "wrong number in a listing: "++x))] (t F) rfl i0 hm (Bp (aX 1000 (by exact nS) rfl) EE) (aS P.G F P.b6 rfl (bn hl) rc rfl) rfl (hO Lg) (dm P F rfl (bn hl))
    ·rw[if_neg h0]
     exact Calls.ret (os2:=[.book B]) 1 rfl λL' outer A F=>by apply p F false [ff,rv (.str (mk [c])) [.book B],tt,ru (.str (mk r)),ru (.int v),ff,ru (.int 5)] (t F) rfl i0 hm (Bp (aX 1000 (by exact nS) rfl) EE) (aS P.G F P.b6 rfl (bn hl) rc rfl) (decide_eq_false (show¬((v:Nat):Int)=0 fromλq=>h0 (Int.ofNat.inj q))) (ta P F rfl)
  ·rw[if_neg TW]
   have hm:=hm.trans (decide_eq_false TW)
   have uq:=nE (C:=C) P (lv:=4) (ai _) hx
   rw[hc]at uq
   cases hu:iO (c::r)with
   |none=>rw[hu]at uq;exact Calls.exc rfl λL' outer A F=>by apply p F false [ff,rv (.str (mk [c])) [.book B],ff,ru (.int 4),.u none] (t F) rfl i0 hm (yK P F rfl) (aS P.G F P.gc rfl (bn hl) uq rfl) (EK P F (bn hl) rfl)
   |some u=>rw[hu]at uq;exact Calls.ret (os2:=[.book (B.atom (mk u))]) 1 rfl λL' outer A F=>by apply p F false [ff,rv (.str (mk [c])) [.book B],ff,ru (.int 4),ru (.str (mk u)),rv (.int (ix (mk u) (B.atom (mk u)).texts:Nat)) [.book (B.atom (mk u))]] (t F) rfl i0 hm (yK P F rfl) (aS P.G F P.gc rfl (bn hl) uq rfl) (zH P F (bn hl) rfl rfl hz rfl)
theorem m_rfind{os1:List Ob}{x y:Str}{r:Int}(hr:Txt.rfind x y=r):fJ C fr "rfind" (.v (.str x)) os1 [.v (.str y)] l os (sv (.int r)) os:=mR G3 rfl (To.pure λ_ _ _ _ _ q=>GJ (hr▸q))
noncomputable abbrev MO(p:Int×ar):EV:= .v (.int p.1)
theorem pL(P:PO C K bL bM)(hl:5<=lv){x:Str}(hz:B.texts.length<=1000000)(lE:B.bh.length<=1000000)(hx:eo (L x)):Calls C fG lv [.o 0,.v (.str x)] [.book B] ((fV B (L x)).map MO) (OC B (fV B (L x))):=by
 have nS:=hx.1
 have Jr:(L x).length=x.length:=gA x
 have Lg:(Str.ofString "wrong functor in a listing: ").length+x.length<=sizeLine:=by rw[show(Str.ofString "wrong functor in a listing: ").length=28 by ac_rfl];exact aX 1028 (by exact aR nS _) rfl
 have BW:=AQ x 47
 rw[show mk [47]=Str.ofString "/" by rw[<-fE (Str.ofString "/")];rfl]at BW
 have p:=λ{L' outer A} (F:aI C (fG.frame L' outer A lv)) (p:Pa)=>cw (m:=1) F fG.body [some (.o 0),sv (.str x),none,none] [.book B] p
 unfold fV
 cases L4:ft 47 (L x)with
 |none=>
  rw[L4]at BW
  exact Calls.exc rfl λL' outer A F=>by apply p F [rv (.int (-1)) [.book B],tt,ru (.str (Str.ofString "wrong functor in a listing: "++x))] (m_rfind BW) rfl (hO Lg) (dm P F rfl (bn hl))
 |some pq=>
  obtain⟨a,b⟩:=pq
  rw[L4]at BW
  obtain⟨Fj,Uy⟩:=mI L4
  have dZ:(L x).length=a.length+1+b.length:=by rw[Fj];simp;exact dH (mq [] (.le (.a (.v 0) (.a (.v 1) (.n 1))) (.a (.a (.v 0) (.n 1)) (.v 1))) [] (Eq.refl true)) (mq [] (.le (.a (.a (.v 0) (.n 1)) (.v 1)) (.a (.v 0) (.a (.v 1) (.n 1)))) [] (Eq.refl true))
  rw[a5]
  by_cases ha:a=[]
  ·rw[if_pos ha];subst ha
   exact Calls.exc rfl λL' outer A F=>by apply p F [rv (.int (0:Nat)) [.book B],tt,ru (.str (Str.ofString "wrong functor in a listing: "++x))] (m_rfind BW) rfl (hO Lg) (dm P F rfl (bn hl))
  ·rw[if_neg ha]
   have Ke:0<a.length:=List.length_pos_iff.mpr ha
   have s1:=yr Fj
   have s2:Txt.slice x (some ((a.length:Int)+1)) none=mk b:=by have g:=jk (x:=x) (p:=a++[47]) (m:=b) (by rw[Fj,aC];rfl);rw[ae]at g;exact g
   have Sg:eo (L (mk a)):=by rw[c8];have:=hx.take a.length;rwa[Fj,List.take_left]at this
   have uq:=nE (C:=C) P (lv:=4) (ai _) Sg
   have rc:=eF (C:=C) P (lv:=2) (ai _) (x:=mk b) (by rw[c8];exact nW [.le (.v 0) (.n 1000),.eq (.v 0) (.a (.a (.v 1) (.n 1)) (.v 2)),.lt (.n 0) (.v 1)] (.le (.v 2) (.n 1000)) [1,.negSucc 0,1] (Eq.refl true) nS dZ Ke)
   rw[c8]at uq rc
   have Yp:decide (((a.length:Nat):Int)<1)=false:=decide_eq_false (by exact rf [.lt (.n 0) (.v 0)] (.no (.BO (.c (.v 0)) (.n 1))) [1] (Eq.refl true) Ke)
   cases hu:iO a with
   |none=>rw[hu]at uq;exact Calls.exc rfl λL' outer A F=>by apply p F [rv (.int a.length) [.book B],ff,ru (.str (mk a)),.u none] (m_rfind BW) Yp (Bp (aX 1000 (by exact nS) rfl) s1) (aS P.G F P.gc rfl (bn hl) uq rfl) (EK P F (bn hl) rfl)
   |some u=>
    rw[hu]at uq
    rw[a5]
    cases hv:b5 b with
    |none=>rw[hv]at rc;exact Calls.exc rfl λL' outer A F=>by apply p F [rv (.int a.length) [.book B],ff,ru (.str (mk a)),ru (.str (mk u)),rv (.int (ix (mk u) (B.atom (mk u)).texts:Nat)) [.book (B.atom (mk u))],ru (.str (mk b)),.u none] (m_rfind BW) Yp (Bp (aX 1000 (by exact nS) rfl) s1) (aS P.G F P.gc rfl (bn hl) uq rfl) (zH P F (bn hl) rfl rfl hz rfl) (Bp (aX 1000 (by exact nS) rfl) s2) (aS P.G F P.b6 rfl (bn hl) rc rfl) (Dd P F (bn hl) rfl)
    |some v=>
     rw[hv]at rc
     have hf':(B.atom (mk u)).bh.length<=1000000:=by rw[(B.ib (mk u)).2];exact lE
     exact Calls.ret (os2:=[.book (B.func (mk u) v)]) 1 rfl λL' outer A F=>by apply p F [rv (.int a.length) [.book B],ff,ru (.str (mk a)),ru (.str (mk u)),rv (.int (ix (mk u) (B.atom (mk u)).texts:Nat)) [.book (B.atom (mk u))],ru (.str (mk b)),ru (.int v),rv (.int (ix (ix (mk u) (B.atom (mk u)).texts,v) (B.func (mk u) v).bh:Nat)) [.book (B.func (mk u) v)]] (m_rfind BW) Yp (Bp (aX 1000 (by exact nS) rfl) s1) (aS P.G F P.gc rfl (bn hl) uq rfl) (zH P F (bn hl) rfl rfl hz rfl) (Bp (aX 1000 (by exact nS) rfl) s2) (aS P.G F P.b6 rfl (bn hl) rc rfl) (FO (f:=(ix (mk u) (B.atom (mk u)).texts,v)) P F (bn hl) rfl rfl hf' rfl)
theorem MP{p:Pos}(hl:os.all Ob.live=true):To (tE C fr (.Dict [] [] p)) l os (some (.o os.length)) (os++[.dT []]):=To.new (c:= .hY []) (λq h=>av.mp hl q h) (λ_=>rfl) (λ_=>rfl) λ_ _ _ _ _ h=>jH λd hd=>⟨_,.inr (.inr rfl),h d hd⟩
theorem MQ{p:Pos}(hl:os.all Ob.live=true):To (tE C fr (.Dict [] [] p)) l os (some (.o os.length)) (os++[.dI []]):=To.new (c:= .mX []) (λq h=>av.mp hl q h) (λ_=>rfl) (λ_=>rfl) λ_ _ _ _ _ h=>jH λd hd=>⟨_,.inr (.inl rfl),h d hd⟩
theorem OD(G:dr C)(F:aI C fr){k:Nat}{acc:List ((Int×Int)×Int)}{a n:Int}(hk:os[k]?=some (.dT (jW acc))):To (t2 C fr (compareOp .In) (.v (.tup [.int a,.int n])) (.o k)) l os (sv (.bool (decide ((a,n)∈acc.map (·.1))))) os:=
 To.read hk (λ_=>rfl) λ_ _ _ _ _ hc q=>NC (ks:=[a,n]) G F hc (by rw[AV];exact q)
theorem OE(G:dr C){k:Nat}{acc:List (Int×Int)}{n:Int}(hk:os[k]?=some (.dI acc)):To (t2 C fr (compareOp .In) (.v (.int n)) (.o k)) l os (sv (.bool (decide (n∈acc.map (·.1))))) os:=
 To.read hk (λ_=>rfl) λ_ _ _ _ _ hc q=>NA G hc (by rw[Hz];exact q)
theorem Sh(F:aI C fr){k:Nat}{acc:List ((Int×Int)×Int)}{a n v:Int}(hk:os[k]?=some (.dT (jW acc)))(hn:(a,n)∉acc.map (·.1))(hsz:acc.length<=2000):yG C fr (.o k) (.v (.tup [.int a,.int n])) (.v (.int v)) l os (os.set k (.dT (jW (acc++[((a,n),v)])))):=by
 have e:jW (acc++[((a,n),v)])=hK (jW acc) [a,n] v:=by
  rw[sM,jW,aQ];rfl
  have:=AV (acc:=acc) (k:=a) (n:=n)
  rw[decide_eq_false hn]at this
  exact Option.not_isSome_iff_eq_none.mp (by rw[this];decide)
 rw[e]
 exact⟨by rw[aW];exact ai _,mh.dT F (ks:=[a,n]) hk (aX 2000 (by rw[jW,af];exact hsz) rfl)⟩
theorem Si{k:Nat}{acc:List (Int×Int)}{n v:Int}(hk:os[k]?=some (.dI acc))(hn:n∉acc.map (·.1))(hsz:acc.length<=2000):yG C fr (.o k) (.v (.int n)) (.v (.int v)) l os (os.set k (.dI (acc++[(n,v)]))):=by
 have e:acc++[(n,v)]=hK acc n v:=by
  rw[sM]
  have:=Hz (acc:=acc) (n:=n)
  rw[decide_eq_false hn]at this
  exact Option.not_isSome_iff_eq_none.mp (by rw[this];decide)
 rw[e]
 exact⟨by rw[aW];exact ai _,mh.dI hk (aX 2000 hsz rfl)⟩
theorem pM{ws:List (List Nat)}{i:Nat}{w:List Nat}(h:ws[i]?=some w):(aJ ws)[i]?=some (.str (mk w)):=by rw[bc,h];rfl
theorem xc{w a b:List Nat}{c:Nat}(h:ft c w=some (a,b))(hw:eo w):Txt.slice (mk w) none (some (a.length:Int))=mk a/\Txt.slice (mk w) (some ((a.length:Int)+1)) none=mk b/\eo a/\b.length<=1000:=by
 have Fj:=(mI h).1
 have dZ:w.length=a.length+(b.length+1):=by rw[Fj,ae,aw]
 have g:=jk (x:=mk w) (p:=a++[c]) (m:=b) (by rw[c8,Fj,aC];rfl)
 rw[ae]at g
 exact⟨yr ((c8 w).trans Fj),g,⟨aa (dZ▸ay _ _) hw.1,λy hy=>hw.2 y (Fj▸nQ _ hy)⟩,aa (dZ▸aa (b7 _) (j1 _ _)) hw.1⟩
theorem OG{w v:List Nat}{x:Str}(h:L x=v):decide (mk w=x)=decide (w=v):=by rw[decide_eq_decide,<-fE x,h,rA]
noncomputable abbrev De:List Stmt:=iZ aE.body 3
noncomputable abbrev F7(i:Nat):Stmt:=(De[i]?).getD (.Pass ⟨0,0,0,0⟩)
noncomputable abbrev lF(kd:Str)(pl:Nat)(x y z:Option EV):Lo:=[some (.o 0),some (.o 1),sv (.int pl),sv (.str kd),some (.o 2),x,y,z]
section
variable{L':Addr}{outer:List Env}{A:Around}{κ:Type}[DecidableEq κ]
structure IA(C:Ctx)(lv:Nat)(rd:ar->List Nat->Option (κ×ar))(f:List (κ×Int)->dA)(D:List (κ×Int)->Ob)(kd:Str):Prop where
 len:∀{B w q},rd B w=some q->q.2.texts.length<=B.texts.length+1/\q.2.bh.length<=B.bh.length+1
 new:∀{fr:Fm} {l:Lo} {os:List Ob} {p:Pos},os.all Ob.live=true->To (tE C fr (.Dict [] [] p)) l os (some (.o os.length)) (os++[D []])
 ret:∀{L' outer A},aI C (aE.frame L' outer A lv)->∀{B:ar} {xs:List PV} {acc:List (κ×Int)} {p:Nat} {x y z:Option EV},Runs (WS C (aE.frame L' outer A lv) ((aE.body[5]?).getD (.Pass ⟨0,0,0,0⟩))) 2 (lF kd p x y z) [.book B,.list xs,D acc] (.ret (.v (.tup [(f acc).pv,.int (p+1:Nat)])) [.book B,.list xs,.gone])
 turn:∀{L' outer A},aI C (aE.frame L' outer A lv)->∀{B:ar} {xs:List PV} {acc:List (κ×Int)} {pl:Nat} {w a b:List Nat} {G:Prop},ft 58 w=some (a,b)->eo w->a≠[]->acc.length<=2000->B.texts.length<=1000000->B.bh.length<=1000000->
  (yx rd B acc a b=none->Runs (iu C (aE.frame L' outer A lv) (De.drop 3)) 3 (lF kd pl (sv (.str (mk w))) (sv (.int a.length)) none) [.book B,.list xs,D acc] .exc->G)->
  (∀e x,yx rd B acc a b=some e->Runs (iu C (aE.frame L' outer A lv) (De.drop 3)) 3 (lF kd pl (sv (.str (mk w))) (sv (.int a.length)) none) [.book B,.list xs,D acc] (.norm (lF kd (pl+1) (sv (.str (mk w))) (sv (.int a.length)) x) [.book e.1.2,.list xs,D (acc++[(e.1.1,(e.2:Int))])])->G)->G
theorem Sj(P:PO C K bL bM)(hl:6<=lv):IA C lv e7 .dY (λa=> .dT (jW a)) (Str.ofString "T"):=by
 refine⟨pz,MP,λ{L' outer A} F {B xs acc p x y z}=> ?_,λ{L' outer A} F {B xs acc pl w a b G} hc hw h0 ha hz lE k0 k1=> ?_⟩
 ·apply dB F ((aE.body[5]?).getD (.Pass ⟨0,0,0,0⟩)) (lF (Str.ofString "T") p x y z) [.book B,.list xs,.dT (jW acc)] [tt]
 obtain⟨s1,s2,Sg,Pp⟩:=xc hc hw
 have rk:=nH (C:=C) (B:=B) P (lv:=5) (ai _) (x:=mk a) hz (by rw[c8];exact Sg) (by rw[c8];exact h0)
 have rc:=eF (C:=C) P (lv:=2) (ai _) (x:=mk b) (by rw[c8];exact Pp)
 rw[c8]at rk rc
 have sl:=λ{l:Lo} {os:List Ob} {i j r} (h:Txt.slice (mk w) i j=r)=>Bp (C:=C) (fr:=aE.frame L' outer A lv) (l:=l) (os:=os) (aX 1000 (by rw[d8];exact hw.1) rfl) h
 have p:=λ(p:Pa)=>cw (m:=3) F (De.drop 3) (lF (Str.ofString "T") pl (sv (.str (mk w))) (sv (.int a.length)) none) [.book B,.list xs,.dT (jW acc)] ([tt,ru (.str (mk a))]++p)
 unfold yx at k0 k1
 cases hk:e7 B a with
 |none=>rw[hk]at rk k0;exact k0 rfl (by apply p [.u none] rfl (sl s1) (cH P.G F P.ig rfl (bn hl) [0] rk rfl rfl rfl rfl rfl))
 |some q=>
  obtain⟨⟨k,n⟩,B'⟩:=q
  rw[hk]at rk k0 k1
  simp only[a5]at k0 k1
  have ck:=λ{l:Lo}=>cH (l:=l) (os:=[.book B,.list xs,.dT (jW acc)]) P.G F P.ig (by ac_rfl) (bn hl) [0] rk rfl rfl rfl rfl rfl
  have p:=λ(q:Pa)=>p ([rv (.tup [.int k,.int n]) [.book B',.list xs,.dT (jW acc)]]++q)
  by_cases hm:(k,n)∈acc.map (·.1)
  ·rw[if_pos hm]at k0
   exact k0 rfl (by apply p [ff,ru (.bool (decide ((k,n)∈acc.map (·.1)))),tt] rfl (sl s1) ck (OD P.G F rfl) (decide_eq_true hm) (dm P F rfl (bn hl)))
  ·rw[if_neg hm]at k0 k1
   cases hv:b5 b with
   |none=>rw[hv]at rc k0;exact k0 rfl (by apply p [ff,ru (.bool (decide ((k,n)∈acc.map (·.1)))),ff,ru (.str (mk b)),.u none] rfl (sl s1) ck (OD P.G F rfl) (decide_eq_false hm) (sl s2) (aS P.G F P.b6 rfl (bn hl) rc rfl))
   |some v=>
    rw[hv]at rc k1
    exact k1 _ (sv (.tup [.int k,.int n])) rfl (by apply p [ff,ru (.bool (decide ((k,n)∈acc.map (·.1)))),ff,ru (.str (mk b)),ru (.int v),ff,.c none [.book B',.list xs,.dT (jW (acc++[((k,n),(v:Int))]))]] rfl (sl s1) ck (OD P.G F rfl) (decide_eq_false hm) (sl s2) (aS P.G F P.b6 rfl (bn hl) rc rfl) (Sh F rfl hm ha))
theorem Sk(P:PO C K bL bM)(hl:6<=lv):IA C lv fV .tabI .dI (Str.ofString "U"):=by
 refine⟨pA,MQ,λ{L' outer A} F {B xs acc p x y z}=> ?_,λ{L' outer A} F {B xs acc pl w a b G} hc hw h0 ha hz lE k0 k1=> ?_⟩
 ·apply dB F ((aE.body[5]?).getD (.Pass ⟨0,0,0,0⟩)) (lF (Str.ofString "U") p x y z) [.book B,.list xs,.dI acc] [tt]
 obtain⟨s1,s2,Sg,Pp⟩:=xc hc hw
 have rk:=pL (C:=C) (B:=B) P (lv:=5) (ai _) (x:=mk a) hz lE (by rw[c8];exact Sg)
 have rc:=eF (C:=C) P (lv:=2) (ai _) (x:=mk b) (by rw[c8];exact Pp)
 rw[c8]at rk rc
 have sl:=λ{l:Lo} {os:List Ob} {i j r} (h:Txt.slice (mk w) i j=r)=>Bp (C:=C) (fr:=aE.frame L' outer A lv) (l:=l) (os:=os) (aX 1000 (by rw[d8];exact hw.1) rfl) h
 have p:=λ(p:Pa)=>cw (m:=3) F (De.drop 3) (lF (Str.ofString "U") pl (sv (.str (mk w))) (sv (.int a.length)) none) [.book B,.list xs,.dI acc] ([ff,ru (.str (mk a))]++p)
 unfold yx at k0 k1
 cases hk:fV B a with
 |none=>rw[hk]at rk k0;exact k0 rfl (by apply p [.u none] rfl (sl s1) (cH P.G F P.iQ rfl (bn hl) [0] rk rfl rfl rfl rfl rfl))
 |some q=>
  obtain⟨n,B'⟩:=q
  rw[hk]at rk k0 k1
  simp only[a5]at k0 k1
  have ck:=λ{l:Lo}=>cH (l:=l) (os:=[.book B,.list xs,.dI acc]) P.G F P.iQ (by ac_rfl) (bn hl) [0] rk rfl rfl rfl rfl rfl
  have p:=λ(q:Pa)=>p ([rv (.int n) [.book B',.list xs,.dI acc]]++q)
  by_cases hm:n∈acc.map (·.1)
  ·rw[if_pos hm]at k0
   exact k0 rfl (by apply p [ff,ru (.bool (decide (n∈acc.map (·.1)))),tt] rfl (sl s1) ck (OE P.G rfl) (decide_eq_true hm) (dm P F rfl (bn hl)))
  ·rw[if_neg hm]at k0 k1
   cases hv:b5 b with
   |none=>rw[hv]at rc k0;exact k0 rfl (by apply p [ff,ru (.bool (decide (n∈acc.map (·.1)))),ff,ru (.str (mk b)),.u none] rfl (sl s1) ck (OE P.G rfl) (decide_eq_false hm) (sl s2) (aS P.G F P.b6 rfl (bn hl) rc rfl))
   |some v=>
    rw[hv]at rc k1
    exact k1 _ (sv (.int n)) rfl (by apply p [ff,ru (.bool (decide (n∈acc.map (·.1)))),ff,ru (.str (mk b)),ru (.int v),ff,.c none [.book B',.list xs,.dI (acc++[(n,(v:Int))])]] rfl (sl s1) ck (OE P.G rfl) (decide_eq_false hm) (sl s2) (aS P.G F P.b6 rfl (bn hl) rc rfl) (Si rfl hm ha))
theorem Lk(P:PO C K bL bM)(hl:6<=lv){rd:ar->List Nat->Option (κ×ar)}{f:List (κ×Int)->dA}{D:List (κ×Int)->Ob}{kd:Str}(H:IA C lv rd f D kd)(F:aI C (aE.frame L' outer A lv)){ws:List (List Nat)}(hn:ws.length<=1000)(hx:∀w∈ws,eo w){G:Prop}(rs:List (List Nat)):
 ∀{pl:Nat} {B:ar} {acc:List (κ×Int)},rs<:+ws->pl+rs.length=ws.length->acc.length<=pl->B.texts.length+rs.length<=900000->B.bh.length+rs.length<=900000->
 (∀k,gh rd B acc rs=none->iY C (aE.frame L' outer A lv) (Bl aE.body 3) De [5,6,7] 3 k (lF kd pl none none none) [.book B,.list (aJ ws),D acc] .exc->G)->
 (∀k B' nM,gh rd B acc rs=none->iY C (aE.frame L' outer A lv) (Bl aE.body 3) De [5,6,7] 3 k (lF kd pl none none none) [.book B,.list (aJ ws),D acc] (.norm (lF kd ws.length none none none) [.book B',.list (aJ ws),D nM])->G)->
 (∀k x p,gh rd B acc rs=some x->p+(x.2.2.length+1)=ws.length->iY C (aE.frame L' outer A lv) (Bl aE.body 3) De [5,6,7] 3 k (lF kd pl none none none) [.book B,.list (aJ ws),D acc] (.norm (lF kd p none none none) [.book x.2.1,.list (aJ ws),D x.1])->G)->G:=by
 induction rs with
 |nil=>
  intro pl B acc _ hp _ _ _ _ k1 _
  cases show pl=ws.length from hp
  have t:=qY F (Bl aE.body 3) (lF kd ws.length none none none) [.book B,.list (aJ ws),D acc] [ru (.int ws.length),ff] (cx P F (by ac_rfl) rfl (af _) (ah hn (by decide))) (decide_eq_false (Int.lt_irrefl _)) false rfl
  exact k1 0 B acc rfl (.stop t)
 |cons w rs ih=>
  intro pl B acc hs hp ha hz lE k0 k1 k2
  have hw:=vo hs hp
  have eP:pl<ws.length:=dq (cy (ce _)) hp
  have Ks:=hx w (aD hw)
  have it:=λ{l:Lo}=>yN (C:=C) (fr:=aE.frame L' outer A lv) (l:=l) (os:=[.book B,.list (aJ ws),D acc]) (k:=1) (i:=pl) rfl (aa eP (aa hn (by decide))) (pM hw)
  have tp:=λ(p:Pa)=>qY F (Bl aE.body 3) (lF kd pl none none none) [.book B,.list (aJ ws),D acc] ([ru (.int ws.length),tt,ru (.str (mk w))]++p)
  have ln:=λ{l:Lo}=>cx (l:=l) (os:=[.book B,.list (aJ ws),D acc]) P F (by ac_rfl) (k:=1) rfl (af (as:=ws) _) (ah hn (by decide))
  have GY:decide ((pl:Int)<(ws.length:Int))=true:=decide_eq_true (bG.mpr eP)
  rw[gh]at k0 k1 k2
  by_cases h1:w=[125]
  ·rw[if_pos h1]at k2
   exact k2 0 (acc,B,rs) pl rfl hp (.stop (by apply tp [ff] ln GY it (nt ((OG vj).trans (decide_eq_true h1))) false rfl))
  rw[if_neg h1]at k0 k1 k2
  have wQ:To (tT C (aE.frame L' outer A lv) (Bl aE.body 3)) (lF kd pl none none none) [.book B,.list (aJ ws),D acc] (some (.v (.bool true))) [.book B,.list (aJ ws),D acc]:=by
   apply tp [tt] ln GY it (nf ((OG vj).trans (decide_eq_false h1))) true rfl
  have BW:=AQ (mk w) 58
  rw[show mk [58]=Str.ofString ":" by rw[<-fE (Str.ofString ":"),zm],c8]at BW
  have s0:Runs (WS C (aE.frame L' outer A lv) (F7 0)) 3 (lF kd pl none none none) [.book B,.list (aJ ws),D acc] (.norm (lF kd pl (sv (.str (mk w))) none none) [.book B,.list (aJ ws),D acc]):=by
   apply dB F (F7 0) (lF kd pl none none none) [.book B,.list (aJ ws),D acc] [ru (.str (mk w))] it
  have s1:=λ{r:Int} (h:Txt.rfind (mk w) (Str.ofString ":")=r)=>show Runs (WS C (aE.frame L' outer A lv) (F7 1)) 3 (lF kd pl (sv (.str (mk w))) none none) [.book B,.list (aJ ws),D acc] (.norm (lF kd pl (sv (.str (mk w))) (sv (.int r)) none) [.book B,.list (aJ ws),D acc]) by
   apply dB F (F7 1) (lF kd pl (sv (.str (mk w))) none none) [.book B,.list (aJ ws),D acc] [ru (.int r)] (m_rfind h)
  have eB:De=F7 0::F7 1::F7 2::De.drop 3:=by rfl'
  have s2:=λ{r:Int} (h:r<1)=>show Runs (iu C (aE.frame L' outer A lv) (F7 2::De.drop 3)) 3 (lF kd pl (sv (.str (mk w))) (sv (.int r)) none) [.book B,.list (aJ ws),D acc] .exc from Runs.stop (by
   apply dB F (F7 2) (lF kd pl (sv (.str (mk w))) (sv (.int r)) none) [.book B,.list (aJ ws),D acc] [tt,ru (.str (Str.ofString "wrong entry of a table: "++mk w))] (decide_eq_true h) (hO (aX 1024 (by rw[d8];exact bB (aZ (show(Str.ofString "wrong entry of a table: ").length=24 by ac_rfl)) Ks.1) rfl)) (dm P F rfl (bn hl))) nofun
  have go:=λ{r:Int} {bx:ql} (h:Txt.rfind (mk w) (Str.ofString ":")=r) (x:Runs (iu C (aE.frame L' outer A lv) (F7 2::De.drop 3)) 3 (lF kd pl (sv (.str (mk w))) (sv (.int r)) none) [.book B,.list (aJ ws),D acc] bx)=>show Runs (iu C (aE.frame L' outer A lv) De) 3 (lF kd pl none none none) [.book B,.list (aJ ws),D acc] bx from eB▸Runs.cons s0 (Runs.cons (s1 h) x)
  cases L4:ft 58 w with
  |none=>rw[L4]at BW k0;exact k0 0 rfl (.exc wQ (go BW (s2 (by decide))))
  |some c=>
   rw[L4]at BW k0 k1 k2
   simp only[a5]at k0 k1 k2
   by_cases h0:c.1=[]
   ·rw[if_pos h0]at k0
    exact k0 0 rfl (.exc wQ (go BW (s2 (show((c.1.length:Nat):Int)<1 by rw[h0];decide))))
   rw[if_neg h0]at k0 k1 k2
   have s3:Runs (WS C (aE.frame L' outer A lv) (F7 2)) 3 (lF kd pl (sv (.str (mk w))) (sv (.int c.1.length)) none) [.book B,.list (aJ ws),D acc] (.norm (lF kd pl (sv (.str (mk w))) (sv (.int c.1.length)) none) [.book B,.list (aJ ws),D acc]):=by
    apply dB F (F7 2) (lF kd pl (sv (.str (mk w))) (sv (.int c.1.length)) none) [.book B,.list (aJ ws),D acc] [ff] (decide_eq_false (eX.mpr (cT.mpr (List.length_pos_iff.mpr h0))))
   have up:=λ{a:Nat} (h:a+(rs.length+1)<=900000)=>aa (ay a _) (aa h (by decide:900000<=1000000))
   have st:=λ{a b:Nat} (h:a+(rs.length+1)<=900000) (g:b<=a+1)=>aa (dp g rs.length) (aa (aZ ((bW a 1 _).trans (congrArg (a+·) (bR 1 _)))) h)
   refine H.turn F (xs:=aJ ws) (pl:=pl) (B:=B) L4 Ks h0 (aa ha (aa (a9 eP) (aa hn (by decide)))) (up hz) (up lE) (λe r=> ?_) λe x he r=> ?_
   ·rw[e]at k0;exact k0 0 rfl (.exc wQ (go BW (Runs.cons s3 r)))
   ·rw[he]at k0 k1 k2
    simp only[a5]at k0 k1 k2
    have g:=(ao.mp he).elim λq h=>(aA.mp (qg h.2).2).elim λv hv=>H.len (hv.2▸h.1:rd B c.1=some e.1)
    have nx:=λ{bx k} (l:iY C (aE.frame L' outer A lv) (Bl aE.body 3) De [5,6,7] 3 k (lF kd (pl+1) none none none) [.book e.1.2,.list (aJ ws),D (acc++[(e.1.1,(e.2:Int))])] bx)=>iY.next true wQ (go BW (Runs.cons s3 r)) rfl l
    exact ih (pl:=pl+1) ((mW w rs).trans hs) ((bW pl 1 _).trans ((congrArg (pl+·) (bR 1 _)).trans hp)) (by rw[ae];exact a6 ha) (st hz g.1) (st lE g.2)
     (λk h l=>k0 _ h (nx l)) (λk B' nM h l=>k1 _ B' nM h (nx l)) λk x p h hp l=>k2 _ x p h hp (nx l)
end
section
variable{κ:Type}[DecidableEq κ]
noncomputable abbrev Bx(i:Nat):Stmt:=(aE.body[i]?).getD (.Pass ⟨0,0,0,0⟩)
theorem zK(P:PO C K bL bM)(hl:6<=lv){rd:ar->List Nat->Option (κ×ar)}{f:List (κ×Int)->dA}{D:List (κ×Int)->Ob}{kd:Str}(H:IA C lv rd f D kd){ws:List (List Nat)}{pl:Nat}{w0:List Nat}{rest:List (List Nat)}(hs:w0::rest<:+ws)(hp:pl+(rest.length+1)=ws.length)(hn:ws.length<=1000)(hz:B.texts.length+rest.length<=900000)(lE:B.bh.length+rest.length<=900000)(hx:∀w∈ws,eo w):
 Calls C aE lv [.o 0,.o 1,.v (.int pl),.v (.str kd)] [.book B,.list (aJ ws)] ((jg rd f B (w0::rest)).map λp=> .v (.tup [p.1.pv,.int (ws.length-p.2.2.length:Nat)])) [.book (((jg rd f B (w0::rest)).map (·.2.1)).getD B),.list (aJ ws)]:=by
 have eB:aE.body=Bx 0::Bx 1::Bx 2::Bx 3::Bx 4::aE.body.drop 5:=by rfl'
 have p0:=λ{L' outer A} (F:aI C (aE.frame L' outer A lv)) (b:Bool)=>dB (m:=2) F (Bx 0) [some (.o 0),some (.o 1),sv (.int pl),sv (.str kd),none,none,none,none] [.book B,.list (aJ ws)] [ru (.str (mk w0)),.b b]
 have it:=λ{fr:Fm} {l:Lo}=>yN (C:=C) (fr:=fr) (l:=l) (os:=[.book B,.list (aJ ws)]) (k:=1) (i:=pl) rfl (au (dq (cy (ce _)) hp) (aa hn (by decide))) (pM (vo hs hp))
 have eb:=OG (w:=w0) CG
 rw[jg]
 by_cases h0:w0=[123]
 ·rw[if_pos h0]
  have s0:=λ{L' outer A} (F:aI C (aE.frame L' outer A lv))=>show Runs (WS C (aE.frame L' outer A lv) (Bx 0)) 2 [some (.o 0),some (.o 1),sv (.int pl),sv (.str kd),none,none,none,none] [.book B,.list (aJ ws)] (.norm [some (.o 0),some (.o 1),sv (.int pl),sv (.str kd),none,none,none,none] [.book B,.list (aJ ws)]) by
   apply p0 F false it (nt (eb.trans (decide_eq_true h0)))
  have s1:=λ{L' outer A} (F:aI C (aE.frame L' outer A lv))=>show Runs (WS C (aE.frame L' outer A lv) (Bx 1)) 2 [some (.o 0),some (.o 1),sv (.int pl),sv (.str kd),none,none,none,none] [.book B,.list (aJ ws)] (.norm (lF kd pl none none none) [.book B,.list (aJ ws),D []]) by
   apply dB F (Bx 1) [some (.o 0),some (.o 1),sv (.int pl),sv (.str kd),none,none,none,none] [.book B,.list (aJ ws)] [.x (some (.o 2)) [.book B,.list (aJ ws),D []]] (H.new rfl)
  have s2:=λ{L' outer A} (F:aI C (aE.frame L' outer A lv))=>show Runs (WS C (aE.frame L' outer A lv) (Bx 2)) 2 (lF kd pl none none none) [.book B,.list (aJ ws),D []] (.norm (lF kd (pl+1) none none none) [.book B,.list (aJ ws),D []]) by
   apply dB F (Bx 2) (lF kd pl none none none) [.book B,.list (aJ ws),D []] []
  have s3:=λ{L' outer A k bx} (F:aI C (aE.frame L' outer A lv)) (l:iY C (aE.frame L' outer A lv) (Bl aE.body 3) De [5,6,7] 3 k (lF kd (pl+1) none none none) [.book B,.list (aJ ws),D []] bx)=>show Runs (WS C (aE.frame L' outer A lv) (Bx 3)) 2 (lF kd (pl+1) none none none) [.book B,.list (aJ ws),D []] bx by
   apply dB F (Bx 3) (lF kd (pl+1) none none none) [.book B,.list (aJ ws),D []] [.o bx] (zA F Fn.top (ks:=[5,6,7]) (os:=[.book B,.list (aJ ws),D []]) (l:=lF kd (pl+1) none none none) rfl ⟨k,l⟩)
  have s4:=λ{L' outer A} (F:aI C (aE.frame L' outer A lv)) (B:ar) (acc:List (κ×Int)) (p:Nat) (b:Bool)=>dB (m:=2) F (Bx 4) (lF kd p none none none) [.book B,.list (aJ ws),D acc] [ru (.int ws.length),.b b] (cx P F rfl rfl (af _) (ah hn (by decide)))
  have go:=λ{L' outer A bx} (F:aI C (aE.frame L' outer A lv)) (h:Runs (iu C (aE.frame L' outer A lv) (Bx 3::Bx 4::aE.body.drop 5)) 2 (lF kd (pl+1) none none none) [.book B,.list (aJ ws),D []] bx)=>show Runs (iu C (aE.frame L' outer A lv) aE.body) 2 [some (.o 0),some (.o 1),sv (.int pl),sv (.str kd),none,none,none,none] [.book B,.list (aJ ws)] bx from eB▸(s0 F).cons ((s1 F).cons ((s2 F).cons h))
  have q:=λ{L' outer A} (F:aI C (aE.frame L' outer A lv)) {G:Prop}=>Lk (G:=G) P hl H F hn hx rest (pl:=pl+1) (acc:=[]) ((mW w0 rest).trans hs) ((bW pl 1 _).trans ((congrArg (pl+·) (bR 1 _)).trans hp)) (fh _) hz lE
  cases hr:gh rd B [] rest with
  |none=>
   exact Calls.exc rfl λL' outer A F=>q F (λk _ l=>go F ((s3 F l).stop nofun))
    (λk B' nM _ l=>go F ((s3 F l).cons (Runs.stop (by apply s4 F B' nM ws.length true (yI rfl) (dm P F rfl (bn hl))) nofun))) λk x p h=>absurd (hr.symm.trans h) nofun
  |some x=>
   refine Calls.ret (os2:=[.book x.2.1,.list (aJ ws),.gone]) 2 rfl λL' outer A F=>q F (λk h=>absurd (hr.symm.trans h) nofun) (λk _ _ h=>absurd (hr.symm.trans h) nofun) λk y p h TR l=> ?_
   cases ax (hr.symm.trans h)
   have e:ws.length-x.2.2.length=p+1:=Nat.sub_eq_of_eq_add (TR.symm.trans ((congrArg (p+·) (bR _ 1)).trans (bW p 1 _).symm))
   have hZ:¬p=ws.length:=bX (dq (cy (ce _)) TR)
   show Runs _ _ _ _ (.ret (.v (.tup [(f x.1).pv,.int (ws.length-x.2.2.length:Nat)])) _)
   rw[e]
   exact go F ((s3 F l).cons (Runs.cons (show Runs (WS C (aE.frame L' outer A lv) (Bx 4)) 2 (lF kd p none none none) [.book x.2.1,.list (aJ ws),D x.1] (.norm (lF kd p none none none) [.book x.2.1,.list (aJ ws),D x.1]) by apply s4 F x.2.1 x.1 p false (qZ hZ))
    ((H.ret F).stop nofun)))
 ·rw[if_neg h0]
  exact Calls.exc rfl λL' outer A F=>eB▸Runs.stop (by apply p0 F true it (nf (eb.trans (decide_eq_false h0))) (dm P F rfl (bn hl))) nofun
end
noncomputable abbrev Sl(p:dA×ar):EV:= .v p.1.pv
theorem xe(P:PO C K bL bM)(hl:6<=lv){x:Str}{k:Nat}(hz:B.texts.length<=1000000)(lE:B.bh.length<=1000000)(hx:eo (L x))(hZ:L x≠[])(hk:k∈[82,88,89,67,70,78,76]):
 Calls C fH lv [.o 0,.v (.str x),.v (.str (mk [k]))] [.book B] ((e8 B k (L x)).map Sl) (OC B (e8 B k (L x))):=by
 have p:=λ{L' outer A} (F:aI C (fH.frame L' outer A lv)) (p:Pa)=>cw (m:=1) F fH.body [some (.o 0),sv (.str x),sv (.str (mk [k]))] [.book B] p
 simp only[ak,aP,or_false]at hk
 rcases hk with rfl|rfl|rfl|rfl|rfl|rfl|rfl
 ·have rr:=jv (C:=C) P (lv:=3) (ai _) hx hZ
  unfold e8
  rw[if_pos (by decide)]
  cases hv:mK (L x)with
  |none=>rw[hv]at rr;exact Calls.exc rfl λL' outer A F=>by apply p F [tt,tt,.c none [.book B]] rfl rfl (aS P.G F P.fm rfl (bn hl) rr rfl)
  |some v=>rw[hv]at rr;exact Calls.ret (os2:=[.book B]) 1 rfl λL' outer A F=>by apply p F [tt,tt,.c (some (Bw v)) [.book B]] rfl rfl (aS P.G F P.fm rfl (bn hl) rr rfl)
 ·have rr:=jv (C:=C) P (lv:=3) (ai _) hx hZ
  unfold e8
  rw[if_pos (by decide)]
  cases hv:mK (L x)with
  |none=>rw[hv]at rr;exact Calls.exc rfl λL' outer A F=>by apply p F [ff,tt,tt,.c none [.book B]] rfl rfl rfl (aS P.G F P.fm rfl (bn hl) rr rfl)
  |some v=>rw[hv]at rr;exact Calls.ret (os2:=[.book B]) 1 rfl λL' outer A F=>by apply p F [ff,tt,tt,.c (some (Bw v)) [.book B]] rfl rfl rfl (aS P.G F P.fm rfl (bn hl) rr rfl)
 ·have rr:=jv (C:=C) P (lv:=3) (ai _) hx hZ
  unfold e8
  rw[if_pos (by decide)]
  cases hv:mK (L x)with
  |none=>rw[hv]at rr;exact Calls.exc rfl λL' outer A F=>by apply p F [ff,ff,tt,tt,.c none [.book B]] rfl rfl rfl rfl (aS P.G F P.fm rfl (bn hl) rr rfl)
  |some v=>rw[hv]at rr;exact Calls.ret (os2:=[.book B]) 1 rfl λL' outer A F=>by apply p F [ff,ff,tt,tt,.c (some (Bw v)) [.book B]] rfl rfl rfl rfl (aS P.G F P.fm rfl (bn hl) rr rfl)
 ·have rk:=nH (B:=B) P (lv:=5) (ai _) hz hx hZ
  unfold e8
  rw[if_neg (by decide),if_pos rfl]
  cases hv:e7 B (L x)with
  |none=>rw[hv]at rk;exact Calls.exc rfl λL' outer A F=>by apply p F [ff,ff,ff,ff,tt,.c none [.book B]] rfl rfl rfl rfl rfl (cH P.G F P.ig rfl (bn hl) [0] rk rfl rfl rfl rfl rfl)
  |some v=>rw[hv]at rk;exact Calls.ret (os2:=[.book v.2]) 1 rfl λL' outer A F=>by apply p F [ff,ff,ff,ff,tt,.c (some (MN v)) [.book v.2]] rfl rfl rfl rfl rfl (cH P.G F P.ig rfl (bn hl) [0] rk rfl rfl rfl rfl rfl)
 ·have rk:=pL (B:=B) P (lv:=5) (ai _) hz lE hx
  unfold e8
  rw[if_neg (by decide),if_neg (by decide),if_pos rfl]
  cases hv:fV B (L x)with
  |none=>rw[hv]at rk;exact Calls.exc rfl λL' outer A F=>by apply p F [ff,ff,ff,ff,ff,tt,.c none [.book B]] rfl rfl rfl rfl rfl rfl (cH P.G F P.iQ rfl (bn hl) [0] rk rfl rfl rfl rfl rfl)
  |some v=>rw[hv]at rk;exact Calls.ret (os2:=[.book v.2]) 1 rfl λL' outer A F=>by apply p F [ff,ff,ff,ff,ff,tt,.c (some (MO v)) [.book v.2]] rfl rfl rfl rfl rfl rfl (cH P.G F P.iQ rfl (bn hl) [0] rk rfl rfl rfl rfl rfl)
 ·have rr:=eF (C:=C) P (lv:=2) (ai _) hx.1
  unfold e8
  rw[if_neg (by decide),if_neg (by decide),if_neg (by decide)]
  cases hv:b5 (L x)with
  |none=>rw[hv]at rr;exact Calls.exc rfl λL' outer A F=>by apply p F [ff,ff,ff,ff,ff,ff,.c none [.book B]] rfl rfl rfl rfl rfl rfl (aS P.G F P.b6 rfl (bn hl) rr rfl)
  |some v=>rw[hv]at rr;exact Calls.ret (os2:=[.book B]) 1 rfl λL' outer A F=>by apply p F [ff,ff,ff,ff,ff,ff,rv (.int v) [.book B]] rfl rfl rfl rfl rfl rfl (aS P.G F P.b6 rfl (bn hl) rr rfl)
 ·have rr:=eF (C:=C) P (lv:=2) (ai _) hx.1
  unfold e8
  rw[if_neg (by decide),if_neg (by decide),if_neg (by decide)]
  cases hv:b5 (L x)with
  |none=>rw[hv]at rr;exact Calls.exc rfl λL' outer A F=>by apply p F [ff,ff,ff,ff,ff,ff,.c none [.book B]] rfl rfl rfl rfl rfl rfl (aS P.G F P.b6 rfl (bn hl) rr rfl)
  |some v=>rw[hv]at rr;exact Calls.ret (os2:=[.book B]) 1 rfl λL' outer A F=>by apply p F [ff,ff,ff,ff,ff,ff,rv (.int v) [.book B]] rfl rfl rfl rfl rfl rfl (aS P.G F P.b6 rfl (bn hl) rr rfl)
theorem m_split{os1:List Ob}{x:Str}{ws:List (List Nat)}(hl:os.all Ob.live=true)(hx:(L x).length<=1000000)(hw:gu (L x)=ws):fJ C fr "split" (.v (.str x)) os1 [.v (.str " ")] l os (some (.o os.length)) (os++[.list (aJ ws)]):=by
 have esp:Str.ofString " "=mk [32]:=by rw[<-fE (Str.ofString " "),mJ]
 have Jr:(L x).length=x.length:=gA x
 have F8:(Txt.split x (Str.ofString " ")).map PV.str=aJ ws:=by
  rw[<-hw,esp,<-HB,aJ,b3];apply ef;intro y _;simp
 refine mR bm_split rfl (To.new (c:= .list (aJ ws)) (λq h=>av.mp hl q h) (λ_=>rfl) (λ_=>rfl) λas ρ σ Q X h=> ?_)
 rw[<-F8]at h
 show WN C fr _ [.str x,.str (Str.ofString " ")] ρ σ Q X
 with_reducible refine GK (by ac_rfl) (by rw[g8];exact aa hx (by decide)) ?_ h
 rw[PySem.StrLaws.partsBetween_eq]
 have e1:∀(Ll:List Nat) (a w:Nat),(PySem.StrLaws.partsFrom x w a Ll).length=Ll.length+1:=by
  intro Ll
  induction Ll with
  |nil=>intro a w;rfl
  |cons c r ih=>intro a w;show(_::PySem.StrLaws.partsFrom x w _ r).length=_;rw[aw,ih,aw]
 rw[e1]
 have:=PySem.StrLaws.occ_length_le x (Str.ofString " ") 0 x.length (x.length+1)
 rw[g8];exact nW [.le (.v 0) (.n 1000000),.eq (.v 0) (.v 1),.le (.v 2) (.a (.v 1) (.n 1))] (.le (.a (.v 2) (.n 1)) (.n 16777216)) [1,.negSucc 0,1] (Eq.refl true) hx Jr this
theorem zL(P:PO C K bL bM)(hl:2<=lv){L':Addr}{outer:List Env}{A:Around}(F:aI C (eJ.frame L' outer A lv)){x:Str}:∀ws:List (List Nat),
 Loop C (eJ.frame L' outer A lv) (iZ eJ.body 1) [2] 1 2 (aJ ws) [sv (.str x),some (.o 0),none] [.held] (if[]∈ws then .exc else .norm [sv (.str x),some (.o 0),none] [.held])
 |[]=> .nil
 |w::ws=>by
  have p:=λ(p:Pa)=>cw (m:=1) F (iZ eJ.body 1) [sv (.str x),some (.o 0),sv (.str (mk w))] [.held] p
  have e:decide (mk w=Str.ofString "")=decide (w=[]):=by rw[decide_eq_decide,show Str.ofString ""=mk []from rfl,rA]
  by_cases h:w=[]
  ·rw[if_pos (by rw[h];exact az ..)]
   apply .exc (p [tt] (e.trans (decide_eq_true h)) (dm P F rfl (bn hl)))
  ·with_unfolding_all have b:=p [ff] (e.trans (decide_eq_false h))
   have ih:=zL P hl F (x:=x) ws
   by_cases hm:[]∈ws
   ·rw[if_pos hm]at ih;rw[if_pos (aK _ hm)];exact .next true b rfl ih
   ·rw[if_neg hm]at ih;rw[if_neg (λq=>hm ((ak.mp q).resolve_left λq=>h q.symm))];exact .next true b rfl ih
theorem By(P:PO C K bL bM)(hl:2<=lv){x:Str}(hx:(L x).length<=1000000):Calls C eJ lv [.v (.str x)] [] (if[]∈gu (L x)then none else some (.o 0)) [.list (aJ (gu (L x)))]:=by
 by_cases h:[]∈gu (L x)
 ·rw[if_pos h]
  exact Calls.exc rfl λL' outer A F=>by
   have q:=zL P hl F (x:=x) (gu (L x))
   rw[if_pos h]at q
   have w:=HR F Fn.top (x:="word") (i:=2) (k:=0) (ks:=[2]) (os:=[.list (aJ (gu (L x)))]) (l:=[sv (.str x),some (.o 0),none]) (o':= .exc) (by ac_rfl) rfl rfl q rfl
   apply cw (m:=0) F eJ.body [sv (.str x),none,none] [] [.c (some (.o 0)) [.list (aJ (gu (L x)))],.o .exc] (m_split rfl hx rfl) w
 ·rw[if_neg h]
  exact Calls.ret (os2:=[.list (aJ (gu (L x)))]) 1 rfl λL' outer A F=>by
   have q:=zL P hl F (x:=x) (gu (L x))
   rw[if_neg h]at q
   have w:=HR F Fn.top (x:="word") (i:=2) (k:=0) (ks:=[2]) (os:=[.list (aJ (gu (L x)))]) (l:=[sv (.str x),some (.o 0),none]) (o':= .norm [sv (.str x),some (.o 0),none] [.list (aJ (gu (L x)))]) (by ac_rfl) rfl rfl q ⟨rfl,rfl⟩
   apply cw (m:=0) F eJ.body [sv (.str x),none,none] [] [.c (some (.o 0)) [.list (aJ (gu (L x)))],.o (.norm [sv (.str x),some (.o 0),none] [.list (aJ (gu (L x)))])] (m_split rfl hx rfl) w
theorem IB(P:PO C K bL bM)(F:aI C fr)(hk:fr.env.kindOf "read_table"=some .globalImplicit)(hl:6<fr.lvl){ws:List (List Nat)}{pl k:Nat}{w0:List Nat}{rest:List (List Nat)}{xs:List PV}(BV:k=84\/k=85)(hs:w0::rest<:+ws)(hp:pl+(rest.length+1)=ws.length)(hn:ws.length<=1000)(hz:B.texts.length+rest.length<=900000)(lE:B.bh.length+rest.length<=900000)(hx:∀w∈ws,eo w):
 eE C fr "read_table" [.o 0,.o 1,.v (.int pl),.v (.str (mk [k]))] l [.book B,.list (aJ ws),lh,.list xs] ((vk B k (w0::rest)).map λp=> .v (.tup [p.1.pv,.int (ws.length-p.2.2.length:Nat)])) [.book (((vk B k (w0::rest)).map (·.2.1)).getD B),.list (aJ ws),lh,.list xs]:=by
 have go:=λ{κ:Type} [DecidableEq κ] {rd:ar->List Nat->Option (κ×ar)} {f:List (κ×Int)->dA} {D:List (κ×Int)->Ob} {kd:Str} (H:IA C 6 rd f D kd)=>
  have h:=zK (C:=C) P (ai _) H hs hp hn hz lE hx
  cH (out':=(jg rd f B (w0::rest)).map λp=> .v (.tup [p.1.pv,.int (ws.length-p.2.2.length:Nat)])) (os4:=[.book (((jg rd f B (w0::rest)).map (·.2.1)).getD B),.list (aJ ws),lh,.list xs]) (os:=[.book B,.list (aJ ws),lh,.list xs]) (l:=l) P.G F P.zS hk hl [0,1] h rfl rfl rfl (by cases jg rd f B (w0::rest)<;>rfl) rfl
 rcases BV with rfl|rfl
 ·exact kT▸go (Sj P (ai _))
 ·exact kU▸go (Sk P (ai _))
noncomputable abbrev Js:List Stmt:=iZ aq.body 3
noncomputable abbrev Sm(i:Nat):Stmt:=(Js[i]?).getD (.Pass ⟨0,0,0,0⟩)
noncomputable abbrev xr(pl:Nat)(x y z:Option EV):Lo:=[some (.o 0),some (.o 1),some (.o 2),some (.o 3),sv (.int pl),x,y,z]
noncomputable abbrev nU(B:ar)(ws:List (List Nat))(w0:List Nat)(fg:List dA):List Ob:=[.book B,.list (aJ ws),lh,.list (.str (mk w0)::fg.map dA.pv)]
section
variable{L':Addr}{outer:List Env}{A:Around}{ws rs:List (List Nat)}{w0:List Nat}{G:Prop}
theorem Lm(F:aI C (aq.frame L' outer A lv)){k:Nat}{a b c d e:Option EV}:To (tT C (aq.frame L' outer A lv) (Jp Js 1)) [a,b,c,d,e,sv (.str (mk [k])),none,none] os (sv (.bool (decide (k=84\/k=85)))) os:=by
 have tT:=FK (c:=k) (x:=Str.ofString "T") (kT▸c8 _)
 have tU:=FK (c:=k) (x:=Str.ofString "U") (kU▸c8 _)
 have p:=λ(p:Pa)=>qY F (Jp Js 1) [a,b,c,d,e,sv (.str (mk [k])),none,none] os p
 by_cases h1:k=84
 ·rw[decide_eq_true (.inl h1)]
  apply p [tt] (tT.trans (decide_eq_true h1)) true rfl
 ·rw[decide_eq_decide.mpr (or_iff_right h1)]
  cases h2:decide (k=85)with
  |true=>apply p [ff,tt] (tT.trans (decide_eq_false h1)) (tU.trans h2) true rfl
  |false=>apply p [ff,ff] (tT.trans (decide_eq_false h1)) (tU.trans h2) false rfl
theorem Ln(P:PO C K bL bM)(hl:7<=lv)(F:aI C (aq.frame L' outer A lv))(dZ:ws.length<=901)(h0:ws[0]?=some w0)(hx:∀w∈ws,eo w)(hZ:∀w∈ws,w≠[]){k pl:Nat}{done:List dA}(hk:k∈gU)(hs:rs<:+ws)(hp:pl+rs.length=ws.length)(hd:done.length<1000)(hz:B.texts.length+rs.length<=850000)(lE:B.bh.length+rs.length<=850000)
 (k0:qT B k rs=none->Runs (iu C (aq.frame L' outer A lv) Js) 4 (xr pl (sv (.str (mk [k]))) none none) (nU B ws w0 done) .exc->G)
 (k1:∀p Lc x,qT B k rs=some p->Lc+p.2.2.length=ws.length->Runs (iu C (aq.frame L' outer A lv) Js) 4 (xr pl (sv (.str (mk [k]))) none none) (nU B ws w0 done) (.norm (xr Lc (sv (.str (mk [k]))) x none) (nU p.2.1 ws w0 (done++[p.1])))->G):G:=by
 have eB:Js=Sm 0::Sm 1::[]:=by rfl'
 rw[eB]at k0 k1
 have p0:=λ(p:Pa)=>dB (m:=4) F (Sm 0) (xr pl (sv (.str (mk [k]))) none none) (nU B ws w0 done) (ru (.int ws.length)::p)
 have ln:=λ{l:Lo}=>cx (l:=l) (os:=nU B ws w0 done) P F (by ac_rfl) (k:=1) rfl (af (as:=ws) _) (ah dZ (by decide))
 cases rs with
 |nil=>
  refine k0 rfl (Runs.stop ?_ nofun)
  apply p0 [tt,ru (.str (mk w0)),ru (.str (Str.ofString "an operand is lacking: "++mk w0))] ln (decide_eq_true (cT.mpr (aZ hp.symm))) (yN (i:=0) rfl (by decide) (pM h0)) (hO (aX 1023 (by rw[d8];exact bB (aZ (show(Str.ofString "an operand is lacking: ").length=23 by ac_rfl)) (hx w0 (aD h0)).1) rfl)) (dm P F rfl (bn hl))
 |cons w rs=>
  have eP:pl<ws.length:=dq (cy (ce _)) hp
  have s0:Runs (WS C (aq.frame L' outer A lv) (Sm 0)) 4 (xr pl (sv (.str (mk [k]))) none none) (nU B ws w0 done) (.norm (xr pl (sv (.str (mk [k]))) none none) (nU B ws w0 done)):=by
   apply p0 [ff] ln (decide_eq_false (Int.not_le.mpr (bG.mpr eP)))
  have p1:=λ(b:Bool) (p:Pa)=>dB (m:=4) F (Sm 1) (xr pl (sv (.str (mk [k]))) none none) (nU B ws w0 done) ([.x (sv (.bool b)) (nU B ws w0 done),.b b]++p)
  have hsz:(PV.str (mk w0)::done.map dA.pv).length<=sizeLine:=aX 1000 (by rw[aw,af];exact hd) rfl
  have ap:=λ{l:Lo} {B' B1:ar} {o:dA}=>d6 (C:=C) (fr:=aq.frame L' outer A lv) (l:=l) (os:=nU B' ws w0 done) (os1:=nU B1 ws w0 done) (k:=3) (v:=o.pv) (ys:= .str (mk w0)::(done++[o]).map dA.pv) rfl rfl hsz (congrArg (PV.str (mk w0)::·) (aQ (l₂:=[o])).symm)
  have wQ:=Lm (os:=nU B ws w0 done) F (k:=k) (a:=some (.o 0)) (b:=some (.o 1)) (c:=some (.o 2)) (d:=some (.o 3)) (e:=sv (.int pl))
  rw[qT]at k0 k1
  by_cases OH:k=84\/k=85
  ·rw[if_pos OH]at k0 k1
   rw[decide_eq_true OH]at wQ
   have up:=λ{a:Nat} (h:a+(rs.length+1)<=850000)=>show a+rs.length<=900000 from aa (b7 _) (aa h (by decide))
   have tc:=IB (B:=B) (l:=xr pl (sv (.str (mk [k]))) none none) (xs:= .str (mk w0)::done.map dA.pv) P F (by ac_rfl) (bn hl) OH hs hp (aa dZ (by decide)) (up hz) (up lE) hx
   cases ht:vk B k (w::rs)with
   |none=>rw[ht]at tc;exact k0 ht (s0.cons (Runs.stop (by apply p1 true [.u none] wQ rfl tc) nofun))
   |some p=>
    rw[ht]at tc
    have f:=pB hk (show qT B k (w::rs)=some p from(if_pos OH).trans ht)
    refine k1 p (ws.length-p.2.2.length) (sv (.tup [p.1.pv,.int (ws.length-p.2.2.length:Nat)])) ht (ky (f.2.TA.trans hs).length_le) (s0.cons (Runs.cons ?_ .nil))
    apply p1 true [rv (.tup [p.1.pv,.int (ws.length-p.2.2.length:Nat)]) (nU p.2.1 ws w0 done),ru p.1.pv,rv .none (nU p.2.1 ws w0 (done++[p.1])),ru (.int (ws.length-p.2.2.length:Nat))] wQ rfl tc (BU (by decide) (by decide) rfl) ap (BU (by decide) (by decide) rfl)
  ·rw[if_neg OH]at k0 k1
   rw[decide_eq_false OH]at wQ
   have hw:=vo hs hp
   have up:=λ{a:Nat} (h:a+(rs.length+1)<=850000)=>aa (ay a _) (aa h (by decide:850000<=1000000))
   have ro:=xe (C:=C) (B:=B) P (lv:=6) (ai _) (x:=mk w) (up hz) (up lE) (by rw[c8];exact hx w (aD hw)) (by rw[c8];exact hZ w (aD hw)) ((wA hk).resolve_left OH)
   rw[c8]at ro
   have it:=λ{l:Lo}=>yN (C:=C) (fr:=aq.frame L' outer A lv) (l:=l) (os:=nU B ws w0 done) (k:=1) (i:=pl) rfl (aa eP (aa dZ (by decide))) (pM hw)
   cases ht:e8 B k w with
   |none=>
    rw[ht]at ro k0
    exact k0 rfl (s0.cons (Runs.stop (by apply p1 false [ru (.str (mk w)),.u none] wQ rfl it (cH P.G F P.pX rfl (bn hl) [0] ro rfl rfl rfl rfl rfl) (Iw jU rfl)) nofun))
   |some p=>
    rw[ht]at ro k1
    refine k1 (p.1,p.2,rs) (pl+1) none rfl ((bW pl 1 _).trans ((congrArg (pl+·) (bR 1 _)).trans hp)) (s0.cons (Runs.cons ?_ .nil))
    apply p1 false [ru (.str (mk w)),rv p.1.pv (nU p.2 ws w0 done),rv .none (nU p.2 ws w0 (done++[p.1]))] wQ rfl it (cH P.G F P.pX rfl (bn hl) [0] ro rfl rfl rfl rfl rfl) ap
theorem Lp(P:PO C K bL bM)(hl:7<=lv)(F:aI C (aq.frame L' outer A lv))(dZ:ws.length<=901)(h0:ws[0]?=some w0)(hx:∀w∈ws,eo w)(hZ:∀w∈ws,w≠[])(ks:List Nat):∀{rs:List (List Nat)} {pl:Nat} {B:ar} {done:List dA},(∀k∈ks,k∈gU)->rs<:+ws->pl+rs.length=ws.length->done.length+ks.length<=1000->B.texts.length+rs.length<=850000->B.bh.length+rs.length<=850000->
 (eW B ks rs=none->Loop C (aq.frame L' outer A lv) Js [5,6,7] 4 5 (ks.map λc=> .str ⟨#[c]⟩) (xr pl none none none) (nU B ws w0 done) .exc->G)->
 (∀p B' d,eW B ks rs=none->p<ws.length->Loop C (aq.frame L' outer A lv) Js [5,6,7] 4 5 (ks.map λc=> .str ⟨#[c]⟩) (xr pl none none none) (nU B ws w0 done) (.norm (xr p none none none) (nU B' ws w0 d))->G)->
 (∀q,eW B ks rs=some q->Loop C (aq.frame L' outer A lv) Js [5,6,7] 4 5 (ks.map λc=> .str ⟨#[c]⟩) (xr pl none none none) (nU B ws w0 done) (.norm (xr ws.length none none none) (nU q.2 ws w0 (done++q.1)))->G)->G:=by
 induction ks with
 |nil=>
  intro rs pl B done _ _ hp _ _ _ k0 k1 k2
  cases rs with
  |nil=>
   cases show pl=ws.length from hp
   exact k2 ([],B) rfl (by rw[bV];exact .nil)
  |cons w rs=>exact k1 pl B done rfl (dq (cy (ce _)) hp) .nil
 |cons k ks ih=>
  intro rs pl B done hk hs hp hd hz lE k0 k1 k2
  refine Ln (B:=B) (done:=done) P hl F dZ h0 hx hZ (hk k az) hs hp (au (cy (ce _)) hd) hz lE (λe r=>k0 (congrArg (Option.bind · _) e) (.exc r)) λp Lc x e BP r=> ?_
  have f:=(pB (hk k az) e).2
  have er:eW B (k::ks) rs=(eW p.2.1 ks p.2.2).map λq=>(p.1::q.1,q.2):=congrArg (Option.bind · _) e
  rw[er]at k0 k1 k2
  exact ih (λj hj=>hk j (aK _ hj)) (f.TA.trans hs) BP (by rw[ae];exact aa (aZ ((bW _ 1 _).trans (congrArg (_+·) (bR 1 _)))) hd) (aa f.bt hz) (aa f.bf lE)
   (λe l=>k0 (by rw[e];rfl) (.next true r rfl l)) (λp B' d e eP l=>k1 p B' d (by rw[e];rfl) eP (.next true r rfl l)) λq e l=>k2 (p.1::q.1,q.2) (by rw[e];rfl) (aC done [p.1] q.1▸.next true r rfl l)
end
theorem EL(P:PO C K bL bM)(F:aI C fr)(hk:fr.env.kindOf "tuple"=some .globalImplicit){k:Nat}{xs:List PV}(ho:os[k]?=some (.list xs))(h:xs.length<=sizeLine):eE C fr "tuple" [.o k] l os (sv (.tup xs)) os:=
 qo P.G F P.sF P.sG (by decide) hk (To.read ho (λ_=>rfl) λ_ _ _ _ _ hc q=>GG hc h q)
noncomputable abbrev Sn(p:ew×ar):EV:= .v p.1.pv
noncomputable abbrev rI(i:Nat):Stmt:=(aq.body[i]?).getD (.Pass ⟨0,0,0,0⟩)
theorem rF(P:PO C K bL bM)(hl:7<=lv){w0:List Nat}{rest:List (List Nat)}(hn:rest.length<=900)(hz:B.texts.length<=800000)(lE:B.bh.length<=800000)(hx:∀w∈w0::rest,eo w)(hZ:∀w∈w0::rest,w≠[]):
 Calls C aq lv [.o 0,.o 1,.o 2] [.book B,.list (aJ (w0::rest)),lh] ((e9 B (w0::rest)).map Sn) [.book (((e9 B (w0::rest)).map (·.2)).getD B),.list (aJ (w0::rest)),lh]:=by
 have eB:aq.body=rI 0::rI 1::rI 2::rI 3::rI 4::aq.body.drop 5:=by rfl'
 have Ji:∀{x:Str} {n:Nat},x.length=n->n<=30->x.length+(mk w0).length<=sizeLine:=λe h=>aX 1030 (by rw[d8,e,bR];exact bB (hx w0 (az ..)).1 h) rfl
 have MM:(w0::rest).length<=901:=a6 hn
 have i0:=λ{fr:Fm} {l:Lo} {B:ar} {os:List Ob}=>yN (C:=C) (fr:=fr) (l:=l) (os:= .book B:: .list (aJ (w0::rest))::os) (k:=1) (i:=0) (v:= .str (mk w0)) rfl (by decide) rfl
 have p:=λ{L' outer A} (F:aI C (aq.frame L' outer A lv)) (p:Pa)=>dB (m:=3) F (rI 0) [some (.o 0),some (.o 1),some (.o 2),none,none,none,none,none] [.book B,.list (aJ (w0::rest)),lh] ([ru (.str (mk w0)),ru (.bool (!(b0 (dO.map λp=>(p.1,PV.str p.2)) (mk w0)).isSome))]++p)
 have BV:=tP PV.str dO (mk w0)
 rw[e9]
 cases hk:b0 dO (mk w0)with
 |none=>
  rw[hk]at BV
  exact Calls.exc rfl λL' outer A F=>eB▸Runs.stop (by apply p F [tt,ru (.str (mk w0)),ru (.str (Str.ofString "unknown instruction: "++mk w0))] i0 (vm P.G rfl) (nf (by rw[BV];rfl)) i0 (hO (Ji (show _=21 by ac_rfl) (by decide))) (dm P F rfl (bn hl))) nofun
 |some ks=>
  rw[hk]at BV
  rw[a5]
  have sk:=mL _ (md hk)
  have s0:=λ{L' outer A} (F:aI C (aq.frame L' outer A lv))=>show Runs (WS C (aq.frame L' outer A lv) (rI 0)) 3 [some (.o 0),some (.o 1),some (.o 2),none,none,none,none,none] [.book B,.list (aJ (w0::rest)),lh] (.norm [some (.o 0),some (.o 1),some (.o 2),none,none,none,none,none] [.book B,.list (aJ (w0::rest)),lh]) by
   apply p F [ff] i0 (vm P.G rfl) (nt (by rw[BV];rfl))
  have s1:=λ{L' outer A} (F:aI C (aq.frame L' outer A lv))=>show Runs (WS C (aq.frame L' outer A lv) (rI 1)) 3 [some (.o 0),some (.o 1),some (.o 2),none,none,none,none,none] [.book B,.list (aJ (w0::rest)),lh] (.norm [some (.o 0),some (.o 1),some (.o 2),some (.o 3),none,none,none,none] (nU B (w0::rest) w0 [])) by
   apply dB F (rI 1) [some (.o 0),some (.o 1),some (.o 2),none,none,none,none,none] [.book B,.list (aJ (w0::rest)),lh] [ru (.str (mk w0))] i0
  have s2:=λ{L' outer A} (F:aI C (aq.frame L' outer A lv))=>show Runs (WS C (aq.frame L' outer A lv) (rI 2)) 3 [some (.o 0),some (.o 1),some (.o 2),some (.o 3),none,none,none,none] (nU B (w0::rest) w0 []) (.norm (xr 1 none none none) (nU B (w0::rest) w0 [])) by
   apply dB F (rI 2) [some (.o 0),some (.o 1),some (.o 2),some (.o 3),none,none,none,none] (nU B (w0::rest) w0 []) []
  have s3:=λ{L' outer A o} (F:aI C (aq.frame L' outer A lv)) (hL:Loop C (aq.frame L' outer A lv) Js [5,6,7] 4 5 ((L ks).map λc=> .str ⟨#[c]⟩) (xr 1 none none none) (nU B (w0::rest) w0 []) o)=>show Runs (WS C (aq.frame L' outer A lv) (rI 3)) 3 (xr 1 none none none) (nU B (w0::rest) w0 []) o by
   apply dB F (rI 3) (xr 1 none none none) (nU B (w0::rest) w0 []) [ru (.str (mk w0)),ru (.str ks),.o o] i0 (Iv rfl BV) (Im F Fn.top (os:=nU B (w0::rest) w0 []) (l:=xr 1 none none none) (ks:=[5,6,7]) (x:="kind") (i:=5) (s:=ks) (by ac_rfl) rfl hL)
  have s4:=λ{L' outer A} (F:aI C (aq.frame L' outer A lv)) (B':ar) (d:List dA) (p:Nat) (q:Pa)=>dB (m:=3) F (rI 4) (xr p none none none) (nU B' (w0::rest) w0 d) (ru (.int (w0::rest).length)::q) (cx P F rfl rfl (af _) (ah MM (by decide)))
  have go:=λ{L' outer A bx} (F:aI C (aq.frame L' outer A lv)) (h:Runs (iu C (aq.frame L' outer A lv) (rI 3::rI 4::aq.body.drop 5)) 3 (xr 1 none none none) (nU B (w0::rest) w0 []) bx)=>show Runs (iu C (aq.frame L' outer A lv) aq.body) 3 [some (.o 0),some (.o 1),some (.o 2),none,none,none,none,none] [.book B,.list (aJ (w0::rest)),lh] bx from eB▸(s0 F).cons ((s1 F).cons ((s2 F).cons h))
  have q:=λ{L' outer A} (F:aI C (aq.frame L' outer A lv)) {G:Prop}=>Lp (G:=G) (B:=B) (done:=[]) (pl:=1) P hl F MM rfl hx hZ (L ks) sk.2.2 (mW w0 rest) (bR 1 _) (aa (aZ (cU _)) (aa sk.1 (by decide))) (aa (bB hz hn) (by decide)) (aa (bB lE hn) (by decide))
  cases hr:eW B (L ks) rest with
  |none=>
   exact Calls.exc rfl λL' outer A F=>q F (λ_ l=>go F ((s3 F l).stop nofun))
    (λp B' d _ hp l=>go F ((s3 F l).cons (Runs.stop (by apply s4 F B' d p [tt,ru (.str (mk w0)),ru (.str (Str.ofString "too many operands: "++mk w0))] (nf (qZ (bX hp))) i0 (hO (Ji (show _=19 by ac_rfl) (by decide))) (dm P F rfl (bn hl))) nofun))) λx e=>absurd (hr.symm.trans e) nofun
  |some r=>
   have K7:=(qV sk.2.2 hr).1
   have hsz:(PV.str (mk w0)::r.1.map dA.pv).length<=sizeLine:=aX 1000 (by rw[aw,af,iN K7];exact ah sk.1 (by decide)) rfl
   have cr:=uO (C:=C) P (lv:=5) (ai _) (sh:=dO) hk sk.1 sk.2.1 K7
   have run:=λ{L' outer A bx} (F:aI C (aq.frame L' outer A lv)) (h:Runs (iu C (aq.frame L' outer A lv) (aq.body.drop 5)) 3 (xr (w0::rest).length none none none) (nU r.2 (w0::rest) w0 r.1) bx)=>show Runs (iu C (aq.frame L' outer A lv) aq.body) 3 [some (.o 0),some (.o 1),some (.o 2),none,none,none,none,none] [.book B,.list (aJ (w0::rest)),lh] bx from
    q F (λe=>absurd (hr.symm.trans e) nofun) (λ_ _ _ e=>absurd (hr.symm.trans e) nofun) λx e l=>go F ((s3 F (ax (hr.symm.trans e)▸l)).cons (Runs.cons (by apply s4 F r.2 r.1 (w0::rest).length [ff] (nt (yI rfl))) h))
   have p5:=λ{L' outer A} (F:aI C (aq.frame L' outer A lv)) (o:Option EV)=>cw (m:=3) F (aq.body.drop 5) (xr (w0::rest).length none none none) (nU r.2 (w0::rest) w0 r.1) [ru (.tup (.str (mk w0)::r.1.map dA.pv)),.c o (nU r.2 (w0::rest) w0 r.1)] (EL P F rfl rfl hsz)
   rw[a5]
   cases ho:jA (L ks) r.1 with
   |true=>
    rw[ho]at cr
    exact Calls.ret (os2:=nU r.2 (w0::rest) w0 r.1) 3 rfl λL' outer A F=>run F (by apply p5 F (some (.v .none)) (cH P.G F P.pV rfl (bn hl) [2] cr rfl rfl rfl rfl rfl))
   |false=>
    rw[ho]at cr
    exact Calls.exc rfl λL' outer A F=>run F (by apply p5 F none (cH P.G F P.pV rfl (bn hl) [2] cr rfl rfl rfl rfl rfl))
theorem Ps{k:Nat}{xs ys:List PV}{lo hi:Option Int}(hk:os[k]?=some (.list xs))(hy:dy xs lo hi=ys)(hsz:xs.length<=sizeLine)(hl:os.all Ob.live=true):s8 C fr (.o k) lo hi l os (some (.o os.length)) (os++[.list ys]):=λe TK Oc p pos tZ os1 os2 hn h1 h2 h3=> .mk λas ρ σ F s Q X q=>by
 subst hy
 refine ya (h1.go as ρ σ F s _ _ λcK cZ v1=>h2.go cK ρ cZ F v1.s _ _ λiC hH v2=>h3.go iC ρ hH F v2.s _ _ λuZ CF v3=>⟨xs,?_,hsz,λa ha=> ?_⟩) (Od hn)
 ·have hk1:k<os1.length:=v1.ok
  refine .inl ⟨cK k,rfl,?_⟩
  rw[<-v2.a k hk1,<-v3.a k (au hk1 v2.n)]
  exact v3.s.get hk λ_=>rfl
 ·have w:=v3.s.alloc (o:= .list (dy xs lo hi)) (c:= .list (dy xs lo hi)) ha (λ_=>rfl) (λ_=>rfl) λq hq=>av.mp hl q hq
  have:=q _ _ ⟨(v1.trans (v2.trans v3)).a.trans (v1.trans (v2.trans v3)).n w.a,w.s,w.ok,aa (v1.trans (v2.trans v3)).n w.n⟩
  rwa[show EV.at (λk=>if k=os.length then a else uZ k) (.o os.length)=.loc a from congrArg PV.loc (if_pos rfl)]at this
theorem IC(x:PV)(xs:List PV):dy (x::xs) (some 1) none=xs:=by
 have e1:clipAt (xs.length+1) 1=1:=y3 (j1 1 _)
 unfold dy Co Fa
 rw[aw]
 simp only[Option.elim,e1]
 rw[List.drop_succ_cons,fj,Nat.add_sub_cancel,fO]
noncomputable section
noncomputable abbrev Jt:List Stmt:=iZ a8.body 3
noncomputable abbrev Dg(i:Nat):Stmt:=(Jt[i]?).getD (.Pass ⟨0,0,0,0⟩)
end
noncomputable abbrev t0(b:Nat)(x y z:Option EV):Lo:=[some (.o 0),some (.o 1),some (.o 2),some (.o 3),sv (.int (b:Nat)),x,y,z]
noncomputable abbrev FR(B:ar)(rows:List (List Nat))(is:List ew):List Ob:=[.book B,.list (aJ rows),lh,.list (is.map ew.pv)]
noncomputable abbrev zM(B:ar)(rows:List (List Nat))(is:List ew)(ws:List (List Nat)):List Ob:=[.book B,.list (aJ rows),lh,.list (is.map ew.pv),.list (aJ ws)]
noncomputable abbrev Yq(B:ar)(rows:List (List Nat))(is:List ew)(ws vs:List (List Nat)):List Ob:=[.book B,.list (aJ rows),lh,.list (is.map ew.pv),.list (aJ ws),.list (aJ vs)]
section
variable{L':Addr}{outer:List Env}{A:Around}{rows:List (List Nat)}{j:Nat}{r:List Nat}{base:Option Nat}{done:List ew}{G:Prop}
theorem Lq{α β γ:Type}{o:Option α}{f:α->Option β}(e:o.bind f=none)(g:α->β->Option γ):(o.bind λa=>(f a).bind (g a))=none:=by
 cases o with
 |none=>rfl
 |some a=>exact congrArg (λo=>Option.bind o _) e
theorem Lr(P:PO C K bL bM)(hl:8<=lv)(F:aI C (a8.frame L' outer A lv))(hj:j<100)(hb:j=0↔base=none){ad:Nat}(ha:ad.log2<1920)(hal:(Str.ofString (toString (ad:Int))).length<=500){ws:List (List Nat)}:
 Runs (WS C (a8.frame L' outer A lv) (Dg 3)) 4 (t0 (base.getD 0) (sv (.int j)) (some (.o 4)) (sv (.int ad))) (zM B rows done ws) (match k7 base j ad with|some b=> .norm (t0 b (sv (.int j)) (some (.o 4)) (sv (.int ad))) (zM B rows done ws)|none=> .exc):=by
 cases base with
 |none=>
  cases hb.mpr rfl
  apply dB F (Dg 3) (t0 0 (sv (.int (0:Nat))) (some (.o 4)) (sv (.int ad))) (zM B rows done ws) [tt] rfl
 |some b=>
  have hj0:¬j=0:=λe=>aT b (hb.mp e)
  by_cases h:ad=b+j
  ·rw[show k7 (some b) j ad=some b from if_pos h]
   apply dB F (Dg 3) (t0 b (sv (.int j)) (some (.o 4)) (sv (.int ad))) (zM B rows done ws) [ff,ff] (qZ hj0) (nt (decide_eq_true (congrArg Nat.cast h)))
  ·rw[show k7 (some b) j ad=none from if_neg h]
   have hg1:((j:Nat):Int).natAbs.log2<1920:=i8 (b4 hj (by decide))
   have l3:(Str.ofString (toString (j:Int))).length<=10:=vf (n:=j) (k:=9) (b4 hj (by decide))
   have l1:(Str.ofString "row ").length=4:=by ac_rfl
   have l2:(Str.ofString " has the address ").length=17:=by ac_rfl
   have lg:(Str.ofString "row ").length+(Str.ofString (toString (j:Int))).length+(Str.ofString " has the address ").length+(Str.ofString (toString (ad:Int))).length<=sizeLine:=aX (4+10+17+500) (bB (bB (bB (aZ l1) l3) (aZ l2)) hal) rfl
   apply dB F (Dg 3) (t0 b (sv (.int j)) (some (.o 4)) (sv (.int ad))) (zM B rows done ws) [ff,tt,.x (sv (.str ((((Str.empty++Str.ofString "row ")++Str.ofString (toString (j:Int)))++Str.ofString " has the address ")++Str.ofString (toString (ad:Int))))) (zM B rows done ws)] (qZ hj0) (nf (decide_eq_false λe=>h (Int.ofNat.inj e)))
    (Z8 (v1:= .int j) (v2:= .int ad) (To.name F rfl rfl rfl) (To.name F rfl rfl rfl) (.inr ⟨_,rfl,hg1,rfl⟩) (.inr ⟨_,rfl,ha,rfl⟩) lg) (dm P F rfl (bn hl))
theorem OI(P:PO C K bL bM)(hl:8<=lv)(F:aI C (a8.frame L' outer A lv))(hj:j<rows.length)(hn:rows.length<=100)(hr:rows[j]?=some r)(kG:r.length<=1000000/\(gu r).length<=900/\∀w∈gu r,eo w/\w.length<=500)(hb:j=0↔base=none)(hd:done.length<=j)(hz:B.texts.length<=800000)(lE:B.bh.length<=800000)
 (k0:((eC B r).bind λq=>k7 base j q.1)=none->Runs (iu C (a8.frame L' outer A lv) Jt) 4 (t0 (base.getD 0) (sv (.int j)) none none) (FR B rows done) .exc->G)
 (k1:∀ad i B' b x t,eC B r=some (ad,i,B')->k7 base j ad=some b->B'.texts.length<=B.texts.length+900->B'.bh.length<=B.bh.length+900->
  Runs (iu C (a8.frame L' outer A lv) Jt) 4 (t0 (base.getD 0) (sv (.int j)) none none) (FR B rows done) (.norm (t0 b (sv (.int j)) (some (.o 4)) x) (FR B' rows (done++[i])++t))->G):G:=by
 obtain⟨Ju,Ls,hr3⟩:=kG
 have sp:=By (C:=C) P (lv:=2) (ai _) (x:=mk r) (by rw[c8];exact Ju)
 rw[c8]at sp
 have it:=yN (C:=C) (fr:=a8.frame L' outer A lv) (l:=t0 (base.getD 0) (sv (.int j)) none none) (os:=FR B rows done) (k:=1) (i:=j) rfl (b4 hj (ah hn (by decide))) (pM hr)
 have p0:=λ(o:zB)=>dB (m:=4) F (Dg 0) (t0 (base.getD 0) (sv (.int j)) none none) (FR B rows done) [ru (.str (mk r)),o]
 have eB:Jt=Dg 0::Dg 1::Dg 2::Dg 3::Jt.drop 4:=by rfl'
 rw[eB]at k0 k1
 by_cases he:[]∈gu r
 ·rw[if_pos he]at sp
  exact k0 (by unfold eC;rw[if_pos he];rfl) (Runs.stop (by apply p0 (.c none (zM B rows done (gu r))) it (cH P.G F P.uU rfl (bn hl) [] sp rfl rfl rfl rfl rfl)) nofun)
 rw[if_neg he]at sp
 have s0:Runs (WS C (a8.frame L' outer A lv) (Dg 0)) 4 (t0 (base.getD 0) (sv (.int j)) none none) (FR B rows done) (.norm (t0 (base.getD 0) (sv (.int j)) (some (.o 4)) none) (zM B rows done (gu r))):=by
  apply p0 (.c (some (.o 4)) (zM B rows done (gu r))) it (cH P.G F P.uU rfl (bn hl) [] sp rfl rfl rfl rfl rfl)
 have ln:=λ{l:Lo}=>cx (l:=l) (os:=zM B rows done (gu r)) P F (by ac_rfl) (k:=4) rfl (af (as:=gu r) _) (ah Ls (by decide))
 have er:eC B r=D9 B (gu r):=if_neg he
 have p1:=λ(o:zB)=>dB (m:=4) F (Dg 1) (t0 (base.getD 0) (sv (.int j)) (some (.o 4)) none) (zM B rows done (gu r)) [ru (.int (gu r).length),o]
 generalize TU:gu r=ws at*
 cases ws with
 |nil=>exact absurd TU (HA r)
 |cons w0 ws=>cases ws with
  |nil=>exact k0 (congrArg (Option.bind · _) er) (Runs.cons s0 (Runs.stop (by apply p1 tt ln rfl (dm P F rfl (bn hl))) nofun))
  |cons w1 ws=>
   have s1:Runs (WS C (a8.frame L' outer A lv) (Dg 1)) 4 (t0 (base.getD 0) (sv (.int j)) (some (.o 4)) none) (zM B rows done (w0::w1::ws)) (.norm (t0 (base.getD 0) (sv (.int j)) (some (.o 4)) none) (zM B rows done (w0::w1::ws))):=by
    apply p1 ff ln (decide_eq_false (eX.mpr (cT.mpr (a6 (a6 (fh ws.length))))))
   obtain⟨hw0,Yr⟩:=hr3 w0 (az ..)
   have rc:=eF (C:=C) P (lv:=2) (ai _) (x:=mk w0) (by rw[c8];exact hw0.1)
   rw[c8]at rc
   have p2:=λ(o:zB)=>dB (m:=4) F (Dg 2) (t0 (base.getD 0) (sv (.int j)) (some (.o 4)) none) (zM B rows done (w0::w1::ws)) [ru (.str (mk w0)),o]
   have i0:=yN (C:=C) (fr:=a8.frame L' outer A lv) (l:=t0 (base.getD 0) (sv (.int j)) (some (.o 4)) none) (os:=zM B rows done (w0::w1::ws)) (k:=4) (i:=0) (v:= .str (mk w0)) rfl (by decide) rfl
   rw[D9]at er
   cases hv:b5 w0 with
   |none=>
    rw[hv]at rc er
    exact k0 (by rw[er];rfl) (Runs.cons s0 (Runs.cons s1 (Runs.stop (by apply p2 (.u none) i0 (aS P.G F P.b6 rfl (bn hl) rc rfl)) nofun)))
   |some ad=>
    rw[hv]at rc er
    have h5:=xD hv Yr
    have s2:Runs (WS C (a8.frame L' outer A lv) (Dg 2)) 4 (t0 (base.getD 0) (sv (.int j)) (some (.o 4)) none) (zM B rows done (w0::w1::ws)) (.norm (t0 (base.getD 0) (sv (.int j)) (some (.o 4)) (sv (.int ad))) (zM B rows done (w0::w1::ws))):=by
     apply p2 (ru (.int ad)) i0 (aS P.G F P.b6 rfl (bn hl) rc rfl)
    have s3:=Lr (B:=B) (done:=done) (rows:=rows) P hl F (au hj hn) hb (Ku h5) (Kv h5) (ws:=w0::w1::ws)
    have Ys:=λ{bx:ql} (h:Runs (iu C (a8.frame L' outer A lv) (Dg 3::Jt.drop 4)) 4 _ _ bx)=>Runs.cons s0 (Runs.cons s1 (Runs.cons s2 h))
    cases TX:k7 base j ad with
    |none=>
     rw[TX]at s3
     refine k0 ?_ (Ys (Runs.stop s3 nofun))
     rw[er,a5]
     cases e9 B (w1::ws)with
     |none=>rfl
     |some q=>exact TX
    |some b=>
     rw[TX]at s3
     have ri:=rF (B:=B) P (lv:=7) (ai _) (w0:=w1) (rest:=ws) (aa (bv (b7 _)) Ls) hz lE (λw hw=>(hr3 w (aK _ hw)).1) (λw hw e=>he (e▸aK _ hw))
     have EE:dy (aJ (w0::w1::ws)) (some 1) none=aJ (w1::ws):=IC ..
     have sl:=Ps (C:=C) (fr:=a8.frame L' outer A lv) (l:=t0 b (sv (.int j)) (some (.o 4)) (sv (.int ad))) (os:=zM B rows done (w0::w1::ws)) (k:=4) rfl EE (aX 900 (by rw[af];exact Ls) rfl) rfl
     have p4:=λ(p:Pa)=>cw (m:=4) F (Jt.drop 4) (t0 b (sv (.int j)) (some (.o 4)) (sv (.int ad))) (zM B rows done (w0::w1::ws)) (.c (some (.o 5)) (Yq B rows done (w0::w1::ws) (w1::ws))::p)
     cases hi:e9 B (w1::ws)with
     |none=>
      rw[hi]at ri er
      exact k0 (by rw[er];rfl) (Ys (Runs.cons s3 (by apply p4 [.u none] sl (cH P.G F P.kx rfl (bn hl) [0,5,2] ri rfl rfl rfl rfl rfl) (Iw jU rfl))))
     |some q=>
      obtain⟨i,B'⟩:=q
      rw[hi]at ri er
      obtain⟨z1,z2⟩:=AW hi
      have wl:(w1::ws).length<=900:=aa (b7 _) Ls
      refine k1 ad i B' b (sv (.int ad)) [.list (aJ (w0::w1::ws)),.list (aJ (w1::ws))] er TX (aa z1 (aR wl _)) (aa z2 (aR wl _)) (Ys (Runs.cons s3 ?_))
      apply p4 [rv i.pv (Yq B' rows done (w0::w1::ws) (w1::ws)),rv .none (Yq B' rows (done++[i]) (w0::w1::ws) (w1::ws))] sl (cH P.G F P.kx rfl (bn hl) [0,5,2] ri rfl rfl rfl rfl rfl)
       (d6 (k:=3) rfl rfl (aX 100 (by rw[af];exact aa hd (aa (a9 hj) hn)) rfl) (aQ (l₂:=[i]) ..).symm)
theorem Lu(P:PO C K bL bM)(hl:8<=lv)(F:aI C (a8.frame L' outer A lv))(hn:rows.length<=100)(kG:zu rows)(m:Nat):∀(j:Nat) (B:ar) (base:Option Nat) (done:List ew),j+m=rows.length->(j=0↔base=none)->done.length<=j->B.texts.length+m*900<=200000->B.bh.length+m*900<=200000->
 (c7 B base j (rows.drop j)=none->Loop C (a8.frame L' outer A lv) Jt [5,6,7] 4 5 ((List.range' j m).map λi=> .int (i:Nat)) (t0 (base.getD 0) none none none) (FR B rows done) .exc->G)->
 (∀is B' b,c7 B base j (rows.drop j)=some (is,B')->Loop C (a8.frame L' outer A lv) Jt [5,6,7] 4 5 ((List.range' j m).map λi=> .int (i:Nat)) (t0 (base.getD 0) none none none) (FR B rows done) (.norm (t0 b none none none) (FR B' rows (done++is)))->G)->G:=by
 induction m with
 |zero=>
  intro j B base done h _ _ _ _ k0 k1
  rw[lu (aZ (show rows.length=j from h.symm))]at k1
  exact k1 [] B (base.getD 0) rfl (by rw[bV];exact .nil)
 |succ m ih=>
  intro j B base done h hb hd hz lE k0 k1
  have hj:j<rows.length:=dq (cy (ce m)) h
  have hr:=aB hj
  have hro:=kG _ (cL hj)
  rw[bY hj,c7]at k0 k1
  generalize rows[j]=r at hr hro k0 k1
  have step:∀{a b c:Nat},a+(m+1)*900<=200000->c<=a+900->c+m*900<=200000:=λh1 h2=>aa (dp h2 _) (aa (aZ (by rw[lB,bW,bR 900])) h1)
  refine OI (B:=B) (base:=base) (done:=done) P hl F hj hn hr hro hb hd (aa (ay _ _) (aa hz (by decide))) (aa (ay _ _) (aa lE (by decide))) (λe run=>k0 (Lq e _) (.exc run)) λad i B' b x t e1 e2 z1 z2 run=> ?_
  rw[e1]at k0 k1
  simp only[a5,e2]at k0 k1
  have nx:=ih (j+1) B' (some b) (done++[i]) ((bI j 1 m).trans h) ⟨λq=>absurd q (Nat.succ_ne_zero j),nofun⟩ (by rw[ae];exact a6 hd) (step (b:=0) hz z1) (step (b:=0) lE z2)
  exact nx (λq lp=>k0 (by rw[q];rfl) (.next true run rfl lp)) λis B2 b2 q lp=>k1 (i::is) B2 b2 (by rw[q];rfl) (aC done [i] is▸.next true run rfl lp)
theorem pN(P:PO C K bL bM)(hl:8<=lv)(hn:rows.length<=100)(hz:B.texts.length<=100000)(lE:B.bh.length<=100000)(kG:zu rows):
 Calls C a8 lv [.o 0,.o 1] [.book B,.list (aJ rows)] ((c7 B none 0 rows).map λ_=> .o 3) [.book (((c7 B none 0 rows).map (·.2)).getD B),.list (aJ rows),lh,.list ((((c7 B none 0 rows).map (·.1)).getD []).map ew.pv)]:=by
 have hz9:∀{a:Nat},a<=100000->a+rows.length*900<=200000:=λh=>aa (bB h (nP 900 hn)) (by decide)
 have q:=λ{L' outer A} (F:aI C (a8.frame L' outer A lv)) {G:Prop}=>Lu (G:=G) P hl F hn kG rows.length 0 B none [] (cU _) ⟨λ_=>rfl,λ_=>rfl⟩ (ai _) (hz9 hz) (hz9 lE)
 rw[fj]at q
 have w:=λ{L' outer A} (F:aI C (a8.frame L' outer A lv)) {o:ql} (hL:Loop C (a8.frame L' outer A lv) Jt [5,6,7] 4 5 ((List.range' 0 rows.length).map λi=> .int (i:Nat)) (t0 0 none none none) (FR B rows []) o)=>pJ F Fn.top (os:=FR B rows []) (n:=rows.length) (l:=t0 0 none none none) (ks:=[5,6,7]) (x:="place") (i:=5) (ah hn (by decide)) (by ac_rfl) rfl hL
 have p:=λ{L' outer A} (F:aI C (a8.frame L' outer A lv)) (o:ql)=>cw (m:=2) F a8.body [some (.o 0),some (.o 1),none,none,none,none,none,none] [.book B,.list (aJ rows)] [.c (some (.o 2)) [.book B,.list (aJ rows),lh],ru (.int rows.length),ru (.xS 0 rows.length 1),.o o]
 have sh:=λ{L' outer A} (F:aI C (a8.frame L' outer A lv)) {l:Lo}=>cH (l:=l) (os:=[.book B,.list (aJ rows)]) (out':=some (.o 2)) (os4:=[.book B,.list (aJ rows),lh]) P.G F P.BK (by ac_rfl) (bn hl) [] (Bu P (lv:=0)) rfl rfl rfl rfl rfl
 cases hr:c7 B none 0 rows with
 |none=>
  refine Calls.exc rfl λL' outer A F=>q F (λ_ lp=> ?_) λis B' b e=>absurd (hr.symm.trans e) nofun
  apply p F .exc (sh F) (cx P F rfl rfl (af _) (ah hn (by decide))) (gW P F rfl) (w F lp)
 |some r=>
  refine Calls.ret (os2:=FR r.2 rows r.1) 4 rfl λL' outer A F=>q F (λe=>absurd (hr.symm.trans e) nofun) λis B' b e lp=> ?_
  cases ax (hr.symm.trans e)
  apply p F (.norm (t0 b none none none) (FR B' rows is)) (sh F) (cx P F rfl rfl (af _) (ah hn (by decide))) (gW P F rfl) (w F lp)
end
end
section
variable{C:Ctx}{fr:Fm}{l:Lo}{os bN os2:List Ob}{bx:Option EV}{cs:List EV}{K:Frag}{bL bM:ClassData}{lv:Nat}{B:ar}{fs:List Nat}{pos mix:Nat}
theorem Dh(P:PO C K bL bM){n:Nat}(hn:0<n)(hf:fs.length<=1000):Calls C jb lv [.o 0,.v (.int n)] [.dM fs pos mix] (sv (.int ((nu fs pos mix).1%n:Nat))) [.dM fs (nu fs pos mix).2.1 (nu fs pos mix).2.2]:= .mk λas σ F rr Q X k=>by
 obtain⟨ps,r,ha⟩:=rr
 have a:=λc hc=>r.at_ 0 (.dM fs pos mix) rfl c hc
 have n1:[(ps 0).a,(ps 0).s 0].Nodup:=r.nd 0 (.dM fs pos mix) rfl
 have hZ:(ps 0).a≠(ps 0).s 0:=λe=>by rw[e]at n1;exact absurd (am.mpr rfl) (cW.mp n1).1
 have hP:wC σ ⟨(ps 0).a,(ps 0).s 0,fs⟩ pos mix:=⟨a _ (.head _),a _ (.tail _ (.head _)),hZ,hf⟩
 rw[bp,List.map_singleton,show(EV.o 0).at as=.loc (ps 0).a from congrArg PV.loc (ha 0 (Nat.zero_lt_one)).symm]
 refine AX (pa:=⟨(ps 0).a,(ps 0).s 0,fs⟩) P hn hP (k as _ ⟨λ_ _=>rfl,⟨ps,r.turn (k:=0) (o:= .dM fs pos mix) (o':= .dM fs _ _) rfl (lD _) ?_ λb hb=> ?_,ha⟩,trivial,ai _⟩)
 ·have h2:=hP.put (nu fs pos mix).2.1 (nu fs pos mix).2.2
  intro c hc
  rcases ak.mp hc with rfl|hc
  ·exact h2.hp
  ·rw[am.mp hc];exact h2.hf
 ·exact St.bu _ _ λe=>hb (by rw[e];exact az ..)
theorem OJ(P:PO C K bL bM)(hl:1<=lv){t:Str}{r:Nat}(hz:B.texts.length<=1000000)(lE:B.bh.length<=1000000):Calls C gF lv [.o 0,.v (.str t),.v (.int r)] [.book B] (sv (.int (ix (ix t (B.atom t).texts,r) (B.func t r).bh:Nat))) [.book (B.func t r)]:=jZ (vs:=[.str t,.int r]) λσ a hB Q X q=>pi P hl hB hz lE q
theorem OK(P:PO C K bL bM)(F:aI C fr)(hl:1<fr.lvl){k r:Nat}{t:Str}{os1:List Ob}{B1:ar}(h1:os1[k]?=some (.book B1))(hb:os[k]?=some (.book B))(hz:B.texts.length<=1000000)(lE:B.bh.length<=1000000)(hv:os.all Ob.live=true):
 fJ C fr "func" (.o k) os1 [.v (.str t),.v (.int r)] l os (sv (.int (ix (ix t (B.atom t).texts,r) (B.func t r).bh:Nat))) (os.set k (.book (B.func t r))):=
 qp (vs:=[.str t,.int r]) P F P.kc P.zg P.zh hl h1 hb (λa=>by ac_rfl) (OJ P (ai 1) hz lE) rfl hv
noncomputable abbrev jm(fs:List Nat)(pos mix:Nat)(B:ar)(names:List Str)(bb:List Int):List Ob:=[.dM fs pos mix,.book B,.list (names.map .str),.list (bb.map .int)]
noncomputable def Lv(C:Ctx)(n:Nat)(fs:List Nat)(pos mix r q m:Nat):Prop:=Calls C jb 0 [.o 0,.v (.int n)] [.dM fs pos mix] (sv (.int r)) [.dM fs q m]
theorem eG(P:PO C K bL bM)(hf:fs.length<=1000)(pos mix n:Nat)(hn:0<n){G:Prop}(k:∀r q m:Nat,r<n->Lv C n fs pos mix r q m->G):G:=k _ _ _ (rL _ hn) (Dh P hn hf)
theorem xt(P:PO C K bL bM)(F:aI C fr)(hk:fr.env.kindOf "_law_pick"=some .globalImplicit)(hl:0<fr.lvl){n r q m:Nat}(pk:Lv C n fs pos mix r q m)(h:os.all Ob.live=true:=by ac_rfl):
 eE C fr "_law_pick" [.o 0,.v (.int n)] l (.dM fs pos mix::os) (sv (.int r)) (.dM fs q m::os):=
 cH P.G F P.Dt hk hl [0] pk rfl h rfl rfl (bV _)
end
structure F9(fs:List Nat)(N:List Str)(V:List Int):Prop where
 f:fs.length<=1000
 n:N.length<=100
 n0:0<N.length
 w:V.length<=100
 w0:0<V.length
 nm:∀t∈N,eo (L t)
 wh:∀v∈V,dG v
structure jo(B:ar)(n:Nat):Prop where
 t:B.texts.length<=n
 f:B.bh.length<=n
structure Gr(N:List Str)(j:Nat)(B B':ar):Prop where
 le:B.Jw N B'
 bt:B'.texts.length<=B.texts.length+j
 bf:B'.bh.length<=B.bh.length+j
section
variable{N:List Str}{i j n:Nat}{A B D:ar}
theorem Gr.refl:Gr N j B B:=⟨B.BI _,ay _ _,ay _ _⟩
theorem Gr.trans(h:Gr N i A B)(k:Gr N j B D):Gr N (i+j) A D:=⟨h.le.trans k.le,aa k.bt (bW _ _ _▸dp h.bt j),aa k.bf (bW _ _ _▸dp h.bf j)⟩
theorem Gr.mono(h:Gr N i A B)(e:i<=j):Gr N j A B:=⟨h.le,aa h.bt (aR e _),aa h.bf (aR e _)⟩
theorem jo.gr(s:jo A n)(h:Gr N j A B):jo B (n+j):=⟨aa h.bt (dp s.t j),aa h.bf (dp s.f j)⟩
theorem jo.mono(s:jo A n)(h:n<=j):jo A j:=⟨aa s.t h,aa s.f h⟩
theorem Gr.atom{t:Str}(ht:t∈N):Gr N 1 B (B.atom t):=⟨B.BJ ht,(B.ib t).1,(B.ib t).2▸ay _ _⟩
theorem Gr.func{t:Str}(r:Nat)(ht:t∈N):Gr N 1 B (B.func t r):=⟨B.Jc r ht,(B.pQ t r).1,(B.pQ t r).2⟩
end
section
variable{C:Ctx}{fr:Fm}{l:Lo}{os bN os2:List Ob}{bx:Option EV}{cs:List EV}{K:Frag}{bL bM:ClassData}{lv:Nat}{B:ar}{fs:List Nat}{pos mix:Nat}{N:List Str}{V:List Int}{G:Prop}
theorem q6(P:PO C K bL bM)(hl:2<=lv)(W:F9 fs N V)(z:jo B 900000)
 (k:∀(n:Int) (B':ar) (q m:Nat),Gr N 1 B B'->iX B' n->0<=n->Calls C ge lv [.o 0,.t [1,2,3]] (jm fs pos mix B N V) (sv (.int n)) (jm fs q m B' N V)->G):G:=
 have uP:=bn hl (by decide:0<2)
 have zt:=aa z.t (by decide:900000<=1000000)
 have zf:=aa z.f (by decide:900000<=1000000)
 eG P W.f pos mix N.length W.n0 λr q m hr pk=>eG P W.f q m 4 (by decide) λr2 q2 m2 Ls Jv=>
 k _ (B.func N[r] r2) q2 m2 (.func _ (cL hr)) (CL (W.nm _ (cL hr)) (eK (aa Ls (by decide))) zt zf) (aF _) (Calls.ret (os2:=jm fs q2 m2 (B.func N[r] r2) N V) 4 rfl λL' outer A F=>by
  have it:=λ{l:Lo}=>yN (C:=C) (fr:=ge.frame L' outer A lv) (l:=l) (os:=jm fs q m B N V) (k:=2) (i:=r) (v:= .str N[r]) rfl (aa hr (aa W.n (by decide))) (by rw[bc,aB hr];rfl)
  apply cw F ge.body [some (.o 0),some (.t [1,2,3]),none,none,none] (jm fs pos mix B N V) [ru _,rv _ (jm fs q m B N V),ru _,rv (.int r2) (jm fs q2 m2 B N V),rv _ (jm fs q2 m2 (B.func N[r] r2) N V)]
   (cx P F rfl rfl (af _) (ah W.n (by decide))) (xt P F rfl uP pk) it (xt P F rfl uP Jv) (OK P F (bn hl) rfl rfl zt zf rfl))
theorem pO(P:PO C K bL bM)(hl:2<=lv)(W:F9 fs N V)(z:jo B 900000)
 (k:∀(c n:Int) (B':ar) (q m:Nat),Gr N 1 B B'->iW B' c n->(c=4\/c=5)->Calls C dz lv [.o 0,.t [1,2,3]] (jm fs pos mix B N V) (sv (.tup [.int c,.int n])) (jm fs q m B' N V)->G):G:=by
 have uP:=bn hl (by decide:0<2)
 have zt:=aa z.t (by decide:900000<=1000000)
 refine eG P W.f pos mix 3 (by decide) λr q m hr pk=> ?_
 by_cases h2:r=2
 ·refine eG P W.f q m N.length W.n0 λr1 q1 m1 Ju TY=>k 4 _ _ q1 m1 (.atom (cL Ju)) (CK (W.nm _ (cL Ju)) zt) (.inl rfl) (Calls.ret (os2:=jm fs q1 m1 (B.atom N[r1]) N V) 4 rfl λL' outer A F=> ?_)
  have it:=λ{l:Lo}=>yN (C:=C) (fr:=dz.frame L' outer A lv) (l:=l) (os:=jm fs q1 m1 B N V) (k:=2) (i:=r1) (v:= .str N[r1]) rfl (aa Ju (aa W.n (by decide))) (by rw[bc,aB Ju];rfl)
  apply cw F dz.body [some (.o 0),some (.t [1,2,3]),none,none,none,none] (jm fs pos mix B N V) [rv (.int r) (jm fs q m B N V),tt,ru _,ru _,rv _ (jm fs q1 m1 B N V),ru _,rv _ (jm fs q1 m1 (B.atom N[r1]) N V)]
   (xt P F rfl uP pk) (yI h2) (yK P F rfl) (cx P F rfl rfl (af _) (ah W.n (by decide))) (xt P F rfl uP TY) it (zH P F uP rfl rfl zt rfl)
 ·refine eG P W.f q m V.length W.w0 λr1 q1 m1 Ju TY=>eG P W.f q1 m1 2 (by decide) λr2 q2 m2 Ls Jv=> ?_
  have hv:=W.wh _ (cL Ju)
  have hd:=λ{L' outer A} (F:aI C (dz.frame L' outer A lv)) (p:Pa)=>cw (m:=4) F dz.body [some (.o 0),some (.t [1,2,3]),none,none,none,none] (jm fs pos mix B N V) (rv (.int r) (jm fs q m B N V)::ff::ru (.int V.length)::rv (.int r1) (jm fs q1 m1 B N V)::ru (.int V[r1])::ru (.int 5)::rv (.int r2) (jm fs q2 m2 B N V)::p)
  have le:=λ{L' outer A} (F:aI C (dz.frame L' outer A lv)) (l:Lo)=>cx (l:=l) (os:=jm fs q m B N V) P F rfl (k:=3) rfl (af (as:=V) _) (ah W.w (by decide))
  have it:=λ{fr:Fm} {l:Lo}=>yN (C:=C) (fr:=fr) (l:=l) (os:=jm fs q1 m1 B N V) (k:=3) (i:=r1) (v:= .int V[r1]) rfl (aa Ju (aa W.w (by decide))) (by rw[bc,aB Ju];rfl)
  by_cases h0:r2=0
  ·refine k 5 V[r1] B q2 m2 .refl (.inl ⟨rfl,hv⟩) (.inr rfl) (Calls.ret (os2:=jm fs q2 m2 B N V) 4 rfl λL' outer A F=> ?_)
   apply hd F [tt] (xt P F rfl uP pk) (qZ h2) (le F _) (xt P F rfl uP TY) it (ta P F rfl) (xt P F rfl uP Jv) (yI h0)
  ·refine k 5 (-V[r1]) B q2 m2 .refl (.inl ⟨rfl,by unfold dG;rw[Int.natAbs_neg];exact hv⟩) (.inr rfl) (Calls.ret (os2:=jm fs q2 m2 B N V) 4 rfl λL' outer A F=> ?_)
   apply hd F [ff] (xt P F rfl uP pk) (qZ h2) (le F _) (xt P F rfl uP TY) it (ta P F rfl) (xt P F rfl uP Jv) (qZ h0)
end
section
variable{C:Ctx}{fr:Fm}{l:Lo}{os os1 os2 kE:List Ob}{bx:Option EV}{cs:List EV}{K:Frag}{bL bM:ClassData}{lv:Nat}{B:ar}{fs:List Nat}{pos mix:Nat}
theorem To.Tc{k1 k2 k3 v1 v2 v3:Expr}{x1 x2 x3:Str}{a1 a2 a3:PV}{p:Pos}(e1:strOf k1=some x1)(e2:strOf k2=some x2)(e3:strOf k3=some x3)(hl:os.all Ob.live=true)(h1:To (tE C fr v1) l (os++[.dS []]) (sv a1) os1)(h2:To (tE C fr v2) l os1 (sv a2) os2)
 (h3:To (tE C fr v3) l os2 (sv a3) kE) (hd:kE[os.length]?=some (.dS [])) (nd:[x1,x2,x3].Nodup):To (tE C fr (.Dict [some k1,some k2,some k3] [v1,v2,v3] p)) l os (some (.o os.length)) (kE.set os.length (.dS [(x1,a1),(x2,a2),(x3,a3)])):= .mk λas ρ σ F s Q X q=>by
 show WE C fr _ ρ σ Q X
 have h15:[some k1,some k2,some k3].length<=15:=(by decide:(3:Nat)<=15)
 with_reducible refine G2 (λd Qb=> ?_) rfl rfl (bJ _ _) h15
 have w:=s.alloc (o:= .dS []) (c:= .ca []) Qb (λ_=>rfl) (λ_=>rfl) λq hq=>av.mp hl q hq
 with_reducible refine vP e1 ?_
 refine h1.go _ ρ _ F w.s _ _ λcK cZ u1=> ?_
 with_reducible refine vP e2 ?_
 refine h2.go _ ρ _ F u1.s _ _ λiC hH u2=> ?_
 with_reducible refine vP e3 ?_
 refine h3.go _ ρ _ F u2.s _ _ λuZ CF u3=> ?_
 with_reducible refine Kc ?_
 have hn:os.length<(os++[Ob.dS []]).length:=by rw[ae];exact cf _
 have ag:uZ os.length=d:=by
  rw[u3.a _ (au hn (aa u1.n u2.n)),u2.a _ (au hn u1.n),u1.a _ hn]
  exact if_pos rfl
 have hg:=u3.s.get hd (c:= .ca []) λ_=>rfl
 rw[ag]at hg
 refine⟨hg,nd,?_⟩
 have s4:=u3.s.upd hd (o':= .dS [(x1,a1),(x2,a2),(x3,a3)]) (c':= .ca [(x1,a1),(x2,a2),(x3,a3)]) (λ_=>rfl) (λ_=>rfl) (λ_=>rfl)
 have tr:=u1.trans (u2.trans u3)
 have:=q uZ _ ⟨(w.a.trans w.n tr.a),s4,by show os.length<_;rw[aW];exact au hn tr.n,by rw[aW];exact aa w.n tr.n⟩
 rw[ag]at this
 rwa[show(EV.o os.length).at uZ=.loc d from congrArg PV.loc ag]at this
theorem Yt{k:Nat}{x:Str}{xs:List Str}{ys:List PV}{b:Bool}(hk:os[k]?=some (.list ys))(hy:xs.map .str=ys)(hb:decide (x∈xs)=b):To (t2 C fr (compareOp .In) (.v (.str x)) (.o k)) l os (sv (.bool b)) os:=by
 subst hy;subst hb
 exact To.read hk (λ_=>rfl) λ_ _ _ _ _ hc q=>Cm hc q
noncomputable section
noncomputable def asV:List Stmt->Nat->Expr:=Bk (.Name ⟨#[]⟩ ⟨0,0,0,0⟩) λst=>s9 (.Name ⟨#[]⟩ ⟨0,0,0,0⟩) st (asg:=λ_ e _=>e)
noncomputable def xf(e:Expr):Expr:=sel e e (sub:=λa _ _=>a)
noncomputable def So(e:Expr):Expr:=sel e e (sub:=λ_ i _=>i)
noncomputable def Yu(e:Expr):Pos:=sel ⟨0,0,0,0⟩ e (sub:=λ_ _ p=>p)
noncomputable def yO(e:Expr)(i:Nat):Expr:=sel e e (dic:=λ_ vs _=>(vs[i]?).getD e)
noncomputable def ID(e:Expr)(i:Nat):Expr:=sel e e (dic:=λks _ _=>((ks[i]?).join).getD e)
noncomputable def Sp(e:Expr):Pos:=sel ⟨0,0,0,0⟩ e (dic:=λ_ _ p=>p)
end
theorem MR{k:Nat}:decide (mk [k]∈[Str.ofString "R",Str.ofString "X",Str.ofString "Y"])=decide (k=82\/k=88\/k=89):=by
 rw[decide_eq_decide,<-kR,<-kX,<-kY];simp[rA]
theorem Yv{k:Nat}:decide (mk [k]∈[Str.ofString "N",Str.ofString "L"])=decide (k=78\/k=76):=by
 rw[decide_eq_decide,<-kN,<-kL];simp[rA]
noncomputable def LoC(C:Ctx)(lv:Nat)(fs:List Nat)(N:List Str)(V:List Int)(k:Nat)(B:ar)(pos mix:Nat)(o:dA)(B':ar)(q m:Nat):Prop:=Calls C be lv [.o 0,.t [1,2,3],.v (.str (mk [k]))] (jm fs pos mix B N V) (sv o.pv) (jm fs q m B' N V)
noncomputable abbrev OL(C:Ctx)(lv:Nat)(fs:List Nat)(N:List Str)(V:List Int)(k:Nat)(B:ar)(pos mix:Nat)(G:Prop):Prop:=∀o B' q m,Gr N 4 B B'->jM B' k o->LoC C lv fs N V k B pos mix o B' q m->G
noncomputable abbrev l3:Ob:= .list [.str "R",.str "X",.str "Y"]
variable{N:List Str}{V:List Int}{G:Prop}
noncomputable abbrev lO(k:Nat):Lo:=[some (.o 0),some (.t [1,2,3]),sv (.str (mk [k])),none,none,none,none]
noncomputable abbrev dR(x:Str):Ob:= .dS [(Str.ofString "R",PV.str x),(Str.ofString "X",.str (Str.ofString "x")),(Str.ofString "Y",.str (Str.ofString "y"))]
noncomputable abbrev Yw:List PV:=[.str (Str.ofString "x"),.str (Str.ofString "y")]
noncomputable abbrev Bz(fs:List Nat)(q m:Nat)(B:ar)(N:List Str)(V:List Int)(d:Ob):List Ob:=jm fs q m B N V++[l3,d,.list Yw]
noncomputable abbrev eR:Expr:=asV (Sa be.body 0) 0
theorem IE{k r:Nat}(hk:k=82\/k=88\/k=89)(hr:r<2)(g:∀x z:Str,Yw[r]?=some (.str x)->b0 [(Str.ofString "R",PV.str x),(Str.ofString "X",.str (Str.ofString "x")),(Str.ofString "Y",.str (Str.ofString "y"))] (mk [k])=some (.str z)->z∈pg (mk [k])->(L z).length<=10->G):G:=
 have lx:(L (Str.ofString "x")).length<=10:=by decide+kernel
 have ly:(L (Str.ofString "y")).length<=10:=by decide+kernel
 have all:∀x:Str,Yw[r]?=some (.str x)->x∈pg (mk [82])->(L x).length<=10->G:=λx h1 h2 h3=>hk.elim (λe=>by subst e;exact g x x h1 (by rw[kR];with_unfolding_all rfl) h2 h3)
  λe=>e.elim (λe=>by subst e;exact g x _ h1 (by rw[kX];with_unfolding_all rfl) (by rw[kX];decide+kernel) lx) λe=>by subst e;exact g x _ h1 (by rw[kY];with_unfolding_all rfl) (by rw[kY];decide+kernel) ly
 (Nat.lt_or_eq_of_le (d9 hr)).elim (λh=>by cases Nat.le_zero.mp (d9 h);exact all _ rfl (by rw[kR];decide+kernel) lx) λh=>by subst h;exact all _ rfl (by rw[kR];decide+kernel) ly
theorem OM(P:PO C K bL bM)(hl:3<=lv)(hf:fs.length<=1000){k:Nat}(hk:k=82\/k=88\/k=89)(kk:OL C lv fs N V k B pos mix G):G:=
 have uP:=bn hl (by decide:0<3)
 eG P hf pos mix 2 (by decide) λr q m hr pk=>eG P hf q m 300 (by decide) λr2 q2 m2 Ls Jv=>IE hk hr λx z hx hz1 ZZ hz3=>
 kk (.CA z (1+(r2:Int))) B q2 m2 .refl ⟨⟨hk,hz3,(p7 1 r2▸eK (n:=1+r2) (aa (fD Ls 1) (by decide)):dG (((1:Nat):Int)+r2))⟩,hk.imp (λe=>(congrArg (mk [·]) e).trans kR) (Or.imp (λe=>(congrArg (mk [·]) e).trans kX) λe=>(congrArg (mk [·]) e).trans kY),
  an.mpr ⟨decide_eq_true ZZ,decide_eq_true (Int.le_add_of_nonneg_right (aF _))⟩⟩ (Calls.ret (os2:=Bz fs q2 m2 B N V (dR x)) 4 rfl λL' outer A F=>by
  have v1:To (tE C (be.frame L' outer A lv) (yO (xf eR) 0)) (lO k) (jm fs pos mix B N V++[l3,.dS []]) (sv (.str x)) (Bz fs q m B N V (.dS [])):=by
   apply mi F (yO (xf eR) 0) (lO k) (jm fs pos mix B N V++[l3,.dS []]) [rv (.int r) (Bz fs q m B N V (.dS [])),ru (.str x)] (xt P F rfl uP pk) (yN rfl (aa hr (by decide)) hx)
  have v2:To (tE C (be.frame L' outer A lv) (yO (xf eR) 1)) (lO k) (Bz fs q m B N V (.dS [])) (sv (.str (Str.ofString "x"))) (Bz fs q m B N V (.dS [])):=by
   apply mi F (yO (xf eR) 1) (lO k) (Bz fs q m B N V (.dS [])) []
  have v3:To (tE C (be.frame L' outer A lv) (yO (xf eR) 2)) (lO k) (Bz fs q m B N V (.dS [])) (sv (.str (Str.ofString "y"))) (Bz fs q m B N V (.dS [])):=by
   apply mi F (yO (xf eR) 2) (lO k) (Bz fs q m B N V (.dS [])) []
  have v4:=To.Tc (k1:=ID (xf eR) 0) (k2:=ID (xf eR) 1) (k3:=ID (xf eR) 2) (x1:=Str.ofString "R") (x2:=Str.ofString "X") (x3:=Str.ofString "Y") (p:=Sp (xf eR)) (os:=(jm fs pos mix B N V++[l3])) (by ac_rfl) (by ac_rfl) (by ac_rfl) rfl v1 v2 v3 rfl (by decide+kernel)
  have v5:To (tE C (be.frame L' outer A lv) (xf eR)) (lO k) (jm fs pos mix B N V++[l3]) (some (.o 5)) (Bz fs q m B N V (dR x)):=by
   apply v4
  have v6:To (tE C (be.frame L' outer A lv) (So eR)) (lO k) (Bz fs q m B N V (dR x)) (sv (.str (mk [k]))) (Bz fs q m B N V (dR x)):=by
   apply mi F (So eR) (lO k) (Bz fs q m B N V (dR x)) []
  have it:=Iv (C:=C) (fr:=be.frame L' outer A lv) (l:=lO k) (os:=Bz fs q m B N V (dR x)) (k:=5) rfl hz1
  have v7:To (tE C (be.frame L' outer A lv) eR) (lO k) (jm fs pos mix B N V++[l3]) (sv (.str z)) (Bz fs q m B N V (dR x)):=
   it.1.elim λT hT=>by
    have:=To.sub (p:=Yu eR) v5 v6 it.2.2 hT.1 hT.2 (by apply Fh rfl)
    apply this
  apply cw (m:=4) F be.body (lO k) (jm fs pos mix B N V) [rv (.bool true) (jm fs pos mix B N V++[l3]),tt,.x (sv (.str z)) (Bz fs q m B N V (dR x)),rv (.int r2) (Bz fs q2 m2 B N V (dR x))]
   (Yt (xs:=[Str.ofString "R",Str.ofString "X",Str.ofString "Y"]) rfl rfl (MR.trans (decide_eq_true hk))) rfl v7 (xt P F rfl uP Jv))
end
section
variable{C:Ctx}{fr:Fm}{l:Lo}{os os1 os2 kE:List Ob}{bx:Option EV}{cs:List EV}{K:Frag}{bL bM:ClassData}{lv:Nat}{B:ar}{fs:List Nat}{pos mix:Nat}{N:List Str}{V:List Int}{G:Prop}
noncomputable abbrev Pt:Ob:= .list [.str "N",.str "L"]
theorem EM{k:Nat}(hk:¬(k=82\/k=88\/k=89))(h:os[4]?=some l3):To (t2 C fr (compareOp .In) (.v (.str (mk [k]))) (.o 4)) l os (sv (.bool false)) os:=Yt (xs:=[Str.ofString "R",Str.ofString "X",Str.ofString "Y"]) h rfl (MR.trans (decide_eq_false hk))
theorem yNL{k:Nat}{b:Bool}(hk:decide (k=78\/k=76)=b)(h:os[5]?=some Pt):To (t2 C fr (compareOp .In) (.v (.str (mk [k]))) (.o 5)) l os (sv (.bool b)) os:=Yt (xs:=[Str.ofString "N",Str.ofString "L"]) h rfl (Yv.trans hk)
theorem Yx(P:PO C K bL bM)(hl:3<=lv)(W:F9 fs N V)(z:jo B 800000)(kk:OL C lv fs N V 67 B pos mix G):G:=
 pO (fs:=fs) (pos:=pos) (mix:=mix) (lv:=2) P (ai 2) W (z.mono (by decide)) λc n B' q m g ok hc cc=>kk (.con c n) B' q m (g.mono (by decide)) ⟨⟨rfl,ok⟩,kC,decide_eq_true hc⟩ (Calls.ret (os2:=jm fs q m B' N V++[l3]) 4 rfl λL' outer A F=>by
  apply cw (m:=4) F be.body (lO 67) (jm fs pos mix B N V) [rv (.bool false) (jm fs pos mix B N V++[l3]),ff,tt,rv (.tup [.int c,.int n]) (jm fs q m B' N V++[l3])]
   (EM (by decide) rfl) rfl rfl (cH P.G F P.pZ rfl (bn hl (by decide:2<3)) [0,1,2,3] cc rfl rfl rfl rfl rfl))
theorem Yy(P:PO C K bL bM)(hl:3<=lv)(W:F9 fs N V)(z:jo B 800000)(kk:OL C lv fs N V 70 B pos mix G):G:=
 q6 (fs:=fs) (pos:=pos) (mix:=mix) (lv:=2) P (ai 2) W (z.mono (by decide)) λn B' q m g ok h0 cc=>kk (.num n) B' q m (g.mono (by decide)) ⟨.inl ⟨rfl,ok⟩,.inl kF,decide_eq_true h0⟩ (Calls.ret (os2:=jm fs q m B' N V++[l3]) 4 rfl λL' outer A F=>by
  apply cw (m:=4) F be.body (lO 70) (jm fs pos mix B N V) [rv (.bool false) (jm fs pos mix B N V++[l3]),ff,ff,tt,rv (.int n) (jm fs q m B' N V++[l3])]
   (EM (by decide) rfl) rfl rfl rfl (cH P.G F P.q9 rfl (bn hl (by decide:2<3)) [0,1,2,3] cc rfl rfl rfl rfl rfl))
theorem Sq(P:PO C K bL bM)(hl:3<=lv)(hf:fs.length<=1000){k:Nat}(hk:k=78\/k=76)(kk:OL C lv fs N V k B pos mix G):G:=
 have ne:∀{x:Str} {c:Nat},mk [c]=x->¬(c=78\/c=76)->decide (mk [k]=x)=false:=λh hc=>decide_eq_false λe=>hc (jQ (rA.mp (e.trans h.symm))|>.1▸hk)
 eG P hf pos mix 700 (by decide) λr q m hr pk=>kk (.num (r:Nat)) B q m .refl ⟨.inr ⟨hk,eK (aa hr (by decide))⟩,.inr (hk.imp (λe=>(congrArg (mk [·]) e).trans kN) λe=>(congrArg (mk [·]) e).trans kL),decide_eq_true (aF r)⟩
  (Calls.ret (os2:=jm fs q m B N V++[l3,Pt]) 4 rfl λL' outer A F=>by
  apply cw (m:=4) F be.body (lO k) (jm fs pos mix B N V) [rv (.bool false) (jm fs pos mix B N V++[l3]),ff,ff,ff,rv (.bool true) (jm fs pos mix B N V++[l3,Pt]),tt,rv (.int r) (jm fs q m B N V++[l3,Pt])]
   (EM (hk.elim (λe=>e▸by decide) λe=>e▸by decide) rfl) rfl (ne kC (by decide)) (ne kF (by decide)) (yNL (decide_eq_true hk) rfl) rfl (xt P F rfl (bn hl (by decide:0<3)) pk))
end
section
variable{C:Ctx}{fr:Fm}{l:Lo}{os os1 os2 kE:List Ob}{bx:Option EV}{cs:List EV}{K:Frag}{bL bM:ClassData}{lv:Nat}{B:ar}{fs:List Nat}{pos mix:Nat}
theorem Sr(F:aI C fr){k:Nat}{acc:List ((Int×Int)×Int)}{a n v:Int}(hk:os[k]?=some (.dT (jW acc)))(hsz:acc.length<=2000):yG C fr (.o k) (.v (.tup [.int a,.int n])) (.v (.int v)) l os (os.set k (.dT (jW (hK acc (a,n) v)))):=by
 rw[<-Kw]
 exact⟨by rw[aW];exact ai _,mh.dT F (ks:=[a,n]) hk (aX 2000 (by rw[jW,af];exact hsz) rfl)⟩
theorem Ss{k:Nat}{acc:List (Int×Int)}{n v:Int}(hk:os[k]?=some (.dI acc))(hsz:acc.length<=2000):yG C fr (.o k) (.v (.int n)) (.v (.int v)) l os (os.set k (.dI (hK acc n v))):=
 ⟨by rw[aW];exact ai _,mh.dI hk (aX 2000 hsz rfl)⟩
structure Acc{κ:Type}(ok:ar->κ×Int->Prop)(B:ar)(N:List Str)(j:Nat)(acc:List (κ×Int))(B':ar):Prop where
 g:Gr N j B B'
 al:acc.length<=j
 nd:(acc.map (·.1)).Nodup
 all:∀p∈acc,ok B' p
variable{N:List Str}{V:List Int}{G:Prop}
theorem Acc.zero{κ:Type}{ok:ar->κ×Int->Prop}:Acc ok B N 0 [] B:=⟨.refl,ai _,cX,λ_ hp=>nomatch hp⟩
theorem Acc.put{κ:Type}[DecidableEq κ]{ok:ar->κ×Int->Prop}{j:Nat}{acc:List (κ×Int)}{B1 B2:ar}{a:κ}{v:Int}(h:Acc ok B N j acc B1)(g:Gr N 1 B1 B2)(mono:∀p,ok B1 p->ok B2 p)(hk:ok B2 (a,v)):Acc ok B N (j+1) (hK acc a v) B2:=
 ⟨h.g.trans g,aa (HE acc a v) (a6 h.al),CM h.nd,λp hp=>(HD hp).elim (λe=>e▸hk) λhp=>mono p (h.all p hp)⟩
noncomputable def ON(B:ar)(p:(Int×Int)×Int):Prop:=(iW B p.1.1 p.1.2/\dG p.2)/\Jj p=true
noncomputable def OO(B:ar)(p:Int×Int):Prop:=(iX B p.1/\dG p.2)/\Jk p=true
noncomputable abbrev TZ(k:Nat):Lo:=[some (.o 0),some (.t [1,2,3]),sv (.str (mk [k])),none,some (.o 6),none,none]
noncomputable abbrev zN(fs:List Nat)(q m:Nat)(B:ar)(N:List Str)(V:List Int)(d:Ob):List Ob:=jm fs q m B N V++[l3,Pt,d]
noncomputable def MS(C:Ctx)(lv:Nat)(fs:List Nat)(N:List Str)(V:List Int)(k j i:Nat)(B1:ar)(pos mix:Nat)(d:Ob)(B':ar)(q m:Nat)(d':Ob):Prop:=∀{L':Addr} {outer:List Env} {A:Around},aI C (be.frame L' outer A lv)->
 Loop C (be.frame L' outer A lv) (iZ be.body 5) [5,6] 7 5 ((List.range' j i).map λi=> .int (i:Nat)) (TZ k) (zN fs pos mix B1 N V d) (.norm (TZ k) (zN fs q m B' N V d'))
theorem MS.next{k j i pos mix q1 m1 q m:Nat}{B1 B2 B':ar}{d d1 d':Ob}(h:∀{L':Addr} {outer:List Env} {A:Around},aI C (be.frame L' outer A lv)->∃a b,Runs (iu C (be.frame L' outer A lv) (iZ be.body 5)) 7 [some (.o 0),some (.t [1,2,3]),sv (.str (mk [k])),none,some (.o 6),sv (.int j),none] (zN fs pos mix B1 N V d) (.norm [some (.o 0),some (.t [1,2,3]),sv (.str (mk [k])),none,some (.o 6),sv (.int j),a] (zN fs q1 m1 B2 N V d1++b)))
 (t:MS C lv fs N V k (j+1) i B2 q1 m1 d1 B' q m d'):MS C lv fs N V k j (i+1) B1 pos mix d B' q m d':=λF=>(h F).elim λa e=>e.elim λb r=> .next true r rfl (t F)
theorem IF{k r pos mix q1 m1 q m:Nat}{B':ar}{d d1:Ob}(P:PO C K bL bM)(hl:3<=lv)(hr:r<4)(hk:¬(k=82\/k=88\/k=89))(tm:¬(k=78\/k=76)){kvs:PV}(hd:d1.T9=some kvs)(Pu:d.live=true)
 (hn:∀{fr:Fm} {l:Lo} {os:List Ob} {p:Pos},os.all Ob.live=true->To (tE C fr (.Dict [] [] p)) l os (some (.o os.length)) (os++[d])) (hC:decide (mk [k]=Str.ofString "C")=false) (hF:decide (mk [k]=Str.ofString "F")=false)
 (pk:Lv C 4 fs pos mix r q1 m1) (lp:MS C lv fs N V k 0 r B q1 m1 d B' q m d1):Calls C be lv [.o 0,.t [1,2,3],.v (.str (mk [k]))] (jm fs pos mix B N V) (sv kvs) (jm fs q m B' N V):=Calls.ret (os2:=zN fs q m B' N V .gone) 4 rfl λL' outer A F=>by
 have w:=pJ F Fn.top (os:=zN fs q1 m1 B N V d) (n:=r) (l:=TZ k) (ks:=[5,6]) (x:="step") (i:=5) (aa hr (by decide)) (by ac_rfl) rfl (lp F)
 cases d1<;>first|(cases hd;done)|skip
 all_goals
  cases hd
  apply cw (m:=4) F be.body (lO k) (jm fs pos mix B N V) [rv (.bool false) (jm fs pos mix B N V++[l3]),ff,ff,ff,rv (.bool false) (jm fs pos mix B N V++[l3,Pt]),ff,.x (some (.o 6)) (zN fs pos mix B N V d),rv (.int r) (zN fs q1 m1 B N V d),ru (.xS 0 r 1),.o (.norm (TZ k) (zN fs q m B' N V _)),tt]
   (EM hk rfl) rfl hC hF (yNL (decide_eq_false tm) rfl) rfl (hn rfl) (xt P F rfl (bn hl (by decide:0<3)) pk ((Bool.and_true _).trans Pu)) (gW P F rfl) w
theorem FS(P:PO C K bL bM)(hl:3<=lv)(W:F9 fs N V)(z:jo B 800000)(i:Nat):∀(j:Nat) (acc:List ((Int×Int)×Int)) (B1:ar) (pos mix:Nat),j+i<=4->Acc ON B N j acc B1->
 (∀(nM:List ((Int×Int)×Int)) (B':ar) (q m:Nat),Acc ON B N (j+i) nM B'->MS C lv fs N V 84 j i B1 pos mix (.dT (jW acc)) B' q m (.dT (jW nM))->G)->G:=by
 induction i with
 |zero=>exactλj acc B1 pos mix h hA kk=>kk acc B1 pos mix hA λ_=> .nil
 |succ i ih=>
  exactλj acc B1 pos mix h hA kk=>pO (fs:=fs) (pos:=pos) (mix:=mix) (lv:=2) P (ai 2) W ((z.gr hA.g).mono (aa (aR (aa (ay j _) h) _) (by decide))) λc n B2 q m g ok hc cc=>
   eG P W.f q m 700 (by decide) λr q2 m2 hr pk=>
   ih (j+1) (hK acc (c,n) (r:Nat)) B2 q2 m2 (bI j 1 i▸h) (hA.put g (λp h=>⟨⟨h.1.1.mono g.le.le,h.1.2⟩,h.2⟩) ⟨⟨ok,eK (aa hr (by decide))⟩,an.mpr ⟨decide_eq_true hc,decide_eq_true (aF _)⟩⟩) λnM B' q' m' Tk lp=>
   kk nM B' q' m' (bI j 1 i▸Tk) (MS.next (B2:=B2) (q1:=q2) (m1:=m2) (d1:= .dT (jW (hK acc (c,n) (r:Nat)))) (λ{L' outer A} F=>⟨_,[],by
    have pt:=λ(l:Lo)=>Sr (l:=l) F (k:=6) (os:=zN fs q2 m2 B2 N V (.dT (jW acc))) (acc:=acc) (a:=c) (n:=n) (v:=(r:Nat)) rfl (aa hA.al (aa (aa (ay j _) h) (by decide)))
    apply cw (m:=7) F (iZ be.body 5) [some (.o 0),some (.t [1,2,3]),sv (.str (mk [84])),none,some (.o 6),sv (.int j),none] (zN fs pos mix B1 N V (.dT (jW acc))) [tt,rv (.tup [.int c,.int n]) (zN fs q m B2 N V (.dT (jW acc))),rv (.int r) (zN fs q2 m2 B2 N V (.dT (jW acc))),ff,.c none (zN fs q2 m2 B2 N V (.dT (jW (hK acc (c,n) (r:Nat)))))]
     rfl (cH P.G F P.pZ rfl (bn hl (by decide:2<3)) [0,1,2,3] cc rfl rfl rfl rfl rfl) (xt P F rfl (bn hl (by decide:0<3)) pk) (pt _)⟩) lp)
theorem Yz(P:PO C K bL bM)(hl:3<=lv)(W:F9 fs N V)(z:jo B 800000)(kk:OL C lv fs N V 84 B pos mix G):G:=
 eG P W.f pos mix 4 (by decide) λr q m hr pk=>FS P hl W z r 0 [] B q m (aa (aZ (cU r)) (a9 hr)) .zero λacc B' q' m' hA lp=>
  have hA:Acc ON B N r acc B':=cU r▸hA
  kk (.dY acc) B' q' m' (hA.g.mono (a9 hr)) ⟨⟨rfl,hA.nd,aa hA.al (aa (a9 hr) (by decide)),λp hp=>(hA.all p hp).1⟩,⟨kT,hA.nd⟩,av.mpr λp hp=>(hA.all p hp).2⟩ (IF P hl hr (by decide) (by decide) rfl rfl (λh=>MP h) rfl rfl pk lp)
end
section
variable{C:Ctx}{fr:Fm}{l:Lo}{os os1 os2 kE:List Ob}{bx:Option EV}{cs:List EV}{K:Frag}{bL bM:ClassData}{lv:Nat}{B:ar}{fs:List Nat}{pos mix:Nat}
variable{N:List Str}{V:List Int}{G:Prop}
theorem FT(P:PO C K bL bM)(hl:3<=lv)(W:F9 fs N V)(z:jo B 800000)(i:Nat):∀(j:Nat) (acc:List (Int×Int)) (B1:ar) (pos mix:Nat),j+i<=4->Acc OO B N j acc B1->
 (∀(nM:List (Int×Int)) (B':ar) (q m:Nat),Acc OO B N (j+i) nM B'->MS C lv fs N V 85 j i B1 pos mix (.dI acc) B' q m (.dI nM)->G)->G:=by
 induction i with
 |zero=>exactλj acc B1 pos mix h hA kk=>kk acc B1 pos mix hA λ_=> .nil
 |succ i ih=>
  exactλj acc B1 pos mix h hA kk=>q6 (fs:=fs) (pos:=pos) (mix:=mix) (lv:=2) P (ai 2) W ((z.gr hA.g).mono (aa (aR (aa (ay j _) h) _) (by decide))) λn B2 q m g ok h0 cc=>
   eG P W.f q m 700 (by decide) λr q2 m2 hr pk=>
   ih (j+1) (hK acc n (r:Nat)) B2 q2 m2 (bI j 1 i▸h) (hA.put g (λp h=>⟨⟨h.1.1.mono g.le.le,h.1.2⟩,h.2⟩) ⟨⟨ok,eK (aa hr (by decide))⟩,an.mpr ⟨decide_eq_true h0,decide_eq_true (aF _)⟩⟩) λnM B' q' m' Tk lp=>
   kk nM B' q' m' (bI j 1 i▸Tk) (MS.next (B2:=B2) (q1:=q2) (m1:=m2) (d1:= .dI (hK acc n (r:Nat))) (λ{L' outer A} F=>⟨_,[],by
    have pt:=λ(l:Lo)=>Ss (C:=C) (fr:=be.frame L' outer A lv) (l:=l) (k:=6) (os:=zN fs q2 m2 B2 N V (.dI acc)) (acc:=acc) (n:=n) (v:=(r:Nat)) rfl (aa hA.al (aa (aa (ay j _) h) (by decide)))
    apply cw (m:=7) F (iZ be.body 5) [some (.o 0),some (.t [1,2,3]),sv (.str (mk [85])),none,some (.o 6),sv (.int j),none] (zN fs pos mix B1 N V (.dI acc)) [ff,rv (.int n) (zN fs q m B2 N V (.dI acc)),rv (.int r) (zN fs q2 m2 B2 N V (.dI acc)),ff,.c none (zN fs q2 m2 B2 N V (.dI (hK acc n (r:Nat))))]
     rfl (cH P.G F P.q9 rfl (bn hl (by decide:2<3)) [0,1,2,3] cc rfl rfl rfl rfl rfl) (xt P F rfl (bn hl (by decide:0<3)) pk) (pt _)⟩) lp)
theorem YA(P:PO C K bL bM)(hl:3<=lv)(W:F9 fs N V)(z:jo B 800000)(kk:OL C lv fs N V 85 B pos mix G):G:=
 eG P W.f pos mix 4 (by decide) λr q m hr pk=>FT P hl W z r 0 [] B q m (aa (aZ (cU r)) (a9 hr)) .zero λacc B' q' m' hA lp=>
  have hA:Acc OO B N r acc B':=cU r▸hA
  kk (.tabI acc) B' q' m' (hA.g.mono (a9 hr)) ⟨⟨rfl,hA.nd,aa hA.al (aa (a9 hr) (by decide)),λp hp=>(hA.all p hp).1⟩,⟨kU,hA.nd⟩,av.mpr λp hp=>(hA.all p hp).2⟩ (IF P hl hr (by decide) (by decide) rfl rfl (λh=>MQ h) rfl rfl pk lp)
end
section
variable{C:Ctx}{fr:Fm}{l:Lo}{os os1 os2 kE:List Ob}{bx:Option EV}{cs:List EV}{K:Frag}{bL bM:ClassData}{lv:Nat}{B:ar}{fs:List Nat}{pos mix:Nat}
theorem xL(P:PO C K bL bM)(hl:3<=lv){k:Nat}(hk:k∈gU){N:List Str}{V:List Int}(W:F9 fs N V)(z:jo B 800000){G:Prop}(kk:OL C lv fs N V k B pos mix G):G:=by
 have hk9:(k=82\/k=88\/k=89)\/k=67\/k=70\/(k=78\/k=76)\/k=84\/k=85:=(by decide:∀k∈gU,(k=82\/k=88\/k=89)\/k=67\/k=70\/(k=78\/k=76)\/k=84\/k=85) k hk
 rcases hk9 with hk|rfl|rfl|hk|rfl|rfl
 ·exact OM P hl W.f hk kk
 ·exact Yx P hl W z kk
 ·exact Yy P hl W z kk
 ·exact Sq P hl W.f hk kk
 ·exact Yz P hl W z kk
 ·exact YA P hl W z kk
end
section
variable{C:Ctx}{K:Frag}{bL bM:ClassData}{lv:Nat}
theorem OP{fr:Fm}{l:Lo}{os:List Ob}{es:List Expr}{p:Pos}{vs:List PV}(hl:os.all Ob.live=true)(h:zk 60 es=some vs)(hv:vs.length<=100):To (tE C fr (.List es p)) l os (some (.o os.length)) (os++[.list vs]):=
 To.new (c:= .list vs) (λq h=>av.mp hl q h) (λ_=>rfl) (λ_=>rfl) λ_ _ _ _ _ q=>rR (Hw 60 h ⟨aa hv (by rw[g8];decide),q⟩)
theorem BB(P:PO C K bL bM):Calls C gI lv [] [] (some (.o 0)) [.list (gj.map .str)]:=
 Calls.ret (Fn:=gI) (args:=[]) (os:=[]) (c:= .o 0) (os2:=[.list (gj.map .str)]) 1 rfl λL' outer A F=>by
  have h:zk 60 (Bk [] (λst=>s9 [] st (rt:=λe _=>sel [] (e.getD (.Name ⟨#[]⟩ ⟨0,0,0,0⟩)) (lst:=λes _=>es))) gI.body 0)=some (gj.map .str):=by rfl'
  apply cw (m:=0) F gI.body [] [] [.x (some (.o 0)) [.list (gj.map .str)]] (OP rfl h (by rw[af];decide))
end
noncomputable abbrev rG(l:List Nat):List PV:=l.map λn=> .int (n:Nat)
section
variable{C:Ctx}{fr:Fm}{l:Lo}{os os1 os2:List Ob}{K:Frag}{bL bM:ClassData}{lv:Nat}
theorem slV{a:PV}{xs ys:List PV}{lo hi:Option Int}(hv:∀σ,vH C σ a xs)(hy:dy xs lo hi=ys)(hsz:xs.length<=sizeLine)(hl:os.all Ob.live=true):s8 C fr (.v a) lo hi l os (some (.o os.length)) (os++[.list ys]):=λe TK Oc p pos tZ os1 os2 hn h1 h2 h3=> .mk λas ρ σ F s Q X q=>by
 subst hy
 refine ya (h1.go as ρ σ F s _ _ λcK cZ v1=>h2.go cK ρ cZ F v1.s _ _ λiC hH v2=>h3.go iC ρ hH F v2.s _ _ λuZ CF v3=>⟨xs,hv _,hsz,λb ha=> ?_⟩) (Od hn)
 have w:=v3.s.alloc (o:= .list (dy xs lo hi)) (c:= .list (dy xs lo hi)) ha (λ_=>rfl) (λ_=>rfl) λq hq=>av.mp hl q hq
 have:=q _ _ ⟨(v1.trans (v2.trans v3)).a.trans (v1.trans (v2.trans v3)).n w.a,w.s,w.ok,aa (v1.trans (v2.trans v3)).n w.n⟩
 rwa[show EV.at (λk=>if k=os.length then b else uZ k) (.o os.length)=.loc b from congrArg PV.loc (if_pos rfl)]at this
theorem IG{n b:Nat}(hb:0<b)(h:b<1073741824):To (t2 C fr (inplaceOp .FloorDiv) (.v (.int n)) (.v (.int b))) l os (sv (.int (n/b:Nat))) os:=To.pure λ_ _ _ _ _ q=>GB (bG.mpr hb) (bG.mpr h) (by rw[<-Int.natCast_ediv];exact q)
noncomputable abbrev lP(a:PV)(m:Nat)(v:Int)(rest:Nat):Lo:=[sv a,some (.o 0),sv (.int m),sv (.int v),sv (.int v),sv (.int rest),none]
variable{G:Prop}
noncomputable def LpI(C:Ctx)(lv:Nat)(a:PV)(m:Nat)(v:Int)(j i:Nat)(eD:List Nat)(rest:Nat)(tf:List Nat)(IH:Nat):Prop:=∀{L':Addr} {outer:List Env} {A:Around},aI C (cG.frame L' outer A lv)->
 Loop C (cG.frame L' outer A lv) (iZ (iZ cG.body 2) 3) [6] 2 6 ((List.range' j i).map λi=> .int (i:Nat)) (lP a m v rest) [.list (rG eD),.held] (.norm (lP a m v IH) [.list (rG tf),.held])
theorem BC(eD:List Nat)(n:Nat):rG eD++[.int (n:Nat)]=rG (eD++[n]):=(aQ (l₂:=[n]) ..).symm
theorem Su(P:PO C K bL bM){a:PV}{m:Nat}{v:Int}(i:Nat):∀(j:Nat) (eD:List Nat) (rest:Nat),j+i<=60->eD.length<=400+j->(∀(tf:List Nat) (IH:Nat),tf.length<=400+(j+i)->LpI C lv a m v j i eD rest tf IH->G)->G:=by
 induction i with
 |zero=>exactλj eD rest h hf k=>k eD rest hf λ_=> .nil
 |succ i ih=>
  intro j eD rest h hf k
  have hz:(rG eD).length<=sizeLine:=aX 500 (by rw[af];exact aa hf (aa (aR (aa (ay j _) h) 400) (by decide))) rfl
  have hl:(eD++[rest%840]).length<=400+(j+1):=by rw[ae];exact a6 hf
  have b:=λ{L' outer A} (F:aI C (cG.frame L' outer A lv)) (o:zB)=>cw (m:=2) F (iZ (iZ cG.body 2) 3) [sv a,some (.o 0),sv (.int m),sv (.int v),sv (.int v),sv (.int rest),sv (.int j)] [.list (rG eD),.held] [ru (.int (rest%840:Nat)),rv .none [.list (rG (eD++[rest%840])),.held],ru (.int (rest/840:Nat)),o]
  by_cases h0:rest/840=0
  ·refine k (eD++[rest%840]) (rest/840) (aa hl (aR (aR (j1 1 i) j) 400)) λ{L' outer A} F=> ?_
   apply Loop.brk (ks:=[6]) (l:=lP a m v rest) (i:=6) (x:= .int (j:Nat)) (b F tt (K8 (b:=840) (by decide)) (d6 rfl rfl hz (BC _ _)) (IG (b:=840) (by decide) (by decide)) (yI h0)) rfl
  ·refine ih (j+1) (eD++[rest%840]) (rest/840) (bI j 1 i▸h) hl λf r g1 g2=>k f r (bI j 1 i▸g1) λ{L' outer A} F=> ?_
   apply .next true (b F ff (K8 (b:=840) (by decide)) (d6 rfl rfl hz (BC _ _)) (IG (b:=840) (by decide) (by decide)) (qZ h0)) rfl (g2 F)
theorem Di(P:PO C K bL bM)(F:aI C fr)(hk:fr.env.kindOf "int"=some .globalImplicit){a:Int}:eE C fr "int" [.v (.int a)] l os (sv (.int a)) os:=
 qo P.G F P.DN P.DO (by decide) hk (To.pure λ_ _ _ _ _ q=>Ch q)
theorem Sv{a b:Int}(h1: -(2^64)<b)(h2:b<2^64):To (t2 C fr (binaryOp .Mult) (.v (.int a)) (.v (.int b))) l os (sv (.int (a*b))) os:=To.pure λ_ _ _ _ _ q=>Cb (yY h1 h2) q
theorem Lw{a b:Int}{r:Nat}(hb:0<b)(h:a%b=(r:Nat)):To (t2 C fr (binaryOp .Mod) (.v (.int a)) (.v (.int b))) l os (sv (.int r)) os:=To.pure λ_ _ _ _ _ q=>tw hb (h▸q)
noncomputable abbrev lQ(a:PV)(m:Nat):Lo:=[sv a,some (.o 0),sv (.int m),none,none,none,none]
noncomputable def LpO(C:Ctx)(lv:Nat)(a:PV)(xs:List Int)(eD:List Nat)(mix:Nat)(tf:List Nat)(OQ:Nat):Prop:=∀{L':Addr} {outer:List Env} {A:Around},aI C (cG.frame L' outer A lv)->
 Loop C (cG.frame L' outer A lv) (iZ cG.body 2) [3,4,5,6] 2 3 (xs.map .int) (lQ a mix) [.list (rG eD),.held] (.norm (lQ a OQ) [.list (rG tf),.held])
theorem OR(P:PO C K bL bM){a:PV}(xs:List Int):∀(eD:List Nat) (mix:Nat),eD.length<=400->(∀(tf:List Nat) (OQ:Nat),tf.length<=460->LpO C lv a xs eD mix tf OQ->G)->G:=by
 induction xs with
 |nil=>exactλeD mix hf k=>k eD mix (aa hf (by decide)) λ_=> .nil
 |cons v xs ih=>
  intro eD mix hf k
  have hm:((mix:Int)*31+v)%1009=((((mix:Int)*31+v)%1009).toNat:Nat):=(Int.toNat_of_nonneg (Int.emod_nonneg _ (by decide))).symm
  generalize(((mix:Int)*31+v)%1009).toNat=m at hm
  refine Su (C:=C) (lv:=lv) (a:=a) (m:=m) (v:=v) P 60 0 eD v.natAbs (by decide) hf λf1 r1 g1 g2=> ?_
  have b:=λ{L' outer A} (F:aI C (cG.frame L' outer A lv)) (o:zB)=>cw (m:=2) F (iZ cG.body 2) [sv a,some (.o 0),sv (.int mix),sv (.int v),none,none,none] [.list (rG eD),.held] [ru (.int v),ru (.int ((mix:Int)*31)),ru (.int m),ru (.int v.natAbs),ru (.xS 0 60 1),.o (.norm (lP a m v r1) [.list (rG f1),.held]),ru (.int f1.length),o]
  have w:=λ{L' outer A} (F:aI C (cG.frame L' outer A lv))=>pJ F Fn.top (os:=[.list (rG eD),.held]) (n:=60) (l:=lP a m v v.natAbs) (ks:=[6]) (x:="step") (i:=6) (by decide) (by ac_rfl) rfl (g2 F)
  have ab:=λ{L' outer A} (F:aI C (cG.frame L' outer A lv)) (l:Lo) (os:List Ob)=>vg v▸Ev (l:=l) (os:=os) P F rfl (a:=v)
  have dZ:f1.length<2^63:=ah g1 (by decide)
  by_cases h0:400<f1.length
  ·refine k f1 m g1 λ{L' outer A} F=> ?_
   apply Loop.brk (ks:=[3,4,5,6]) (l:=lQ a mix) (i:=3) (x:= .int v) (b F tt (Di P F rfl) (Sv (b:=31) (by decide) (by decide)) (Lw (b:=1009) (by decide) hm) (ab F _ _) (gW P F rfl) (w F) (cx P F rfl rfl (af _) dZ) (decide_eq_true (bG.mpr h0))) rfl
  ·refine ih f1 m (cu h0) λf2 m2 k1 k2=>k f2 m2 k1 λ{L' outer A} F=> ?_
   apply Loop.next (ks:=[3,4,5,6]) (l:=lQ a mix) (i:=3) (x:= .int v) true (b F ff (Di P F rfl) (Sv (b:=31) (by decide) (by decide)) (Lw (b:=1009) (by decide) hm) (ab F _ _) (gW P F rfl) (w F) (cx P F rfl rfl (af _) dZ) (decide_eq_false λe=>h0 (bG.mp e))) rfl (k2 F)
end
theorem fW.merge{os:List Ob}{ps:Nat->Pl}{σ F:St}(r:fW os ps σ F){k n:Nat}{fs:List Nat}{pos mix:Nat}(hk:os[k]?=some (.list (fs.map λn=> .int (n:Nat))))(hn:os[n]?=some (.list [.loc (ps k).a,.int pos,.int mix]))(ne:k≠n):
 fW ((os.set k .gone).set n (.dM fs pos mix)) (λj=>if j=n then⟨(ps n).a,λ_=>(ps k).a⟩else ps j) σ F:=
 have pn:(if n=n then(⟨(ps n).a,λ_=>(ps k).a⟩:Pl)else ps n)=⟨(ps n).a,λ_=>(ps k).a⟩:=if_pos rfl
 have KG:∀{P:Addr->Prop},P (ps n).a->P (ps k).a->∀a∈[(ps n).a,(ps k).a],P a:=λh1 h2 a ha=>(ak.mp ha).elim (λe=>e▸h1) λha=>am.mp ha▸h2
 have kn:(ps n).a≠(ps k).a:=λe=>r.ap k n _ _ ne hk hn _ (am.mpr rfl) (am.mpr e.symm)
 have uX:∀j q,j≠n->(os.set k .gone)[j]?=some q->q=.gone\/os[j]?=some q/\j≠k:=λj q _ e=>(cD e).imp (·.2) λh=>⟨h.2,h.1.symm⟩
 have r0:fW (os.set k .gone) ps σ F:=r.turn hk (List.nil_sublist _) (λ_ h=>nomatch h) λ_ _=>rfl
 r0.one n (.dM fs pos mix) (λj q nj e=>⟨nR (Ne.symm nj)▸e,if_neg nj⟩) (λq e=>(cD e).elim (·.2) λh=>absurd rfl h.1)
  (pn.symm▸λc hc=>(ak.mp hc).elim (λe=>e▸r.at_ n _ hn _ (am.mpr rfl)) λhc=>am.mp hc▸r.at_ k _ hk _ (am.mpr rfl))
  (pn.symm▸KG (r.fr n _ hn _ (am.mpr rfl)) (r.fr k _ hk _ (am.mpr rfl)))
  (pn.symm▸cW.mpr ⟨λh=>kn (am.mp h),cW.mpr ⟨aP,cX⟩⟩)
  (λj q nj e=>(uX j q nj e).elim (λe=>e▸λ_ h=>nomatch h) λh=>pn.symm▸λa ha hb=>KG (P:=λb=>a≠b) (λe=>r.ap j n q _ nj h.1 hn a ha (am.mpr e)) (λe=>r.ap j k q _ h.2 h.1 hk a ha (am.mpr e)) a hb rfl)
  (λj q nj e=>r0.at_ j q e) r.le
section
variable{C:Ctx}{fr:Fm}{l:Lo}{os:List Ob}
theorem Sx.merge{as:Nat->Addr}{ρ:b9}{σ F:St}(s:Sx l os as ρ σ F){k n:Nat}{fs:List Nat}{pos mix:Nat}(hk:os[k]?=some (.list (fs.map λn=> .int (n:Nat))))(hn:os[n]?=some (.list [.loc (as k),.int pos,.int mix]))(ne:k≠n):Sx l ((os.set k .gone).set n (.dM fs pos mix)) as ρ σ F:=by
 obtain⟨ps,r,ha⟩:=s.r
 have e:=ha k (aj.mp hk).1
 refine⟨⟨_,r.merge hk (by rw[e];exact hn) ne,λj hj=> ?_⟩,s.len,λi v hv=> ?_⟩
 ·show(if j=n then(⟨(ps n).a,λ_=>(ps k).a⟩:Pl)else ps j).a=as j
  have BQ:j<os.length:=by rwa[aW,aW]at hj
  by_cases q:j=n
  ·rw[if_pos q,<-q];exact ha j BQ
  ·rw[if_neg q];exact ha j BQ
 ·rw[aW,aW];exact s.l i v hv
theorem To.Td{e1 e2 e3:Expr}{p:Pos}{k:Nat}{fs:List Nat}{pos mix:Nat}(hl:os.all Ob.live=true)(hk:os[k]?=some (.list (fs.map λn=> .int (n:Nat))))(h1:To (tE C fr e1) l os (some (.o k)) os)(h2:To (tE C fr e2) l os (sv (.int pos)) os)(h3:To (tE C fr e3) l os (sv (.int mix)) os)
 (s1:∀env,starEach [e1,e2,e3] env=(false,eval e1 env)::starEach [e2,e3] env) (s2:∀env,starEach [e2,e3] env=(false,eval e2 env)::starEach [e3] env) (s3:∀env,starEach [e3] env=(false,eval e3 env)::starEach [] env):
 To (tE C fr (.List [e1,e2,e3] p)) l os (some (.o os.length)) (os.set k .gone++[.dM fs pos mix]):= .mk λas ρ σ F s Q X q=>by
 have Pw:k<os.length:=(aj.mp hk).1
 show WE C fr _ ρ σ Q X
 refine rR (cR (h1.go as ρ σ F s _ _ λcK cZ v1=>cR (h2.go cK ρ cZ F v1.s _ _ λiC hH v2=>cR (h3.go iC ρ hH F v2.s _ _ λuZ CF v3=>eT ⟨(by show(3:Nat)<=sizeLine;rw[g8];decide),λa ha=> ?_⟩) s3) s2) s1)
 have g:cK k=uZ k:=by rw[v3.a k (au Pw v2.n),v2.a k Pw]
 have w:=v3.s.alloc (o:= .list [.loc (uZ k),.int pos,.int mix]) (c:= .list [.loc (uZ k),.int pos,.int mix]) ha (λ_=>rfl) (λ_=>rfl) λq hq=>av.mp hl q hq
 have m:=w.s.merge (k:=k) (n:=os.length) (fs:=fs) (pos:=pos) (mix:=mix) (by rw[bH Pw];exact hk) (by rw[bS (ai _),Nat.sub_self,if_neg (bX Pw)];rfl) (bX Pw)
 have es:(((os++[Ob.list [.loc (uZ k),.int pos,.int mix]]).set k .gone).set os.length (.dM fs pos mix))=os.set k .gone++[.dM fs pos mix]:=by
  rw[List.set_append_left _ _ Pw,List.set_append_right _ _ (by rw[aW];exact ai _),aW,Nat.sub_self];rfl
 rw[es]at m
 have hn:(os.set k .gone++[Ob.dM fs pos mix]).length=os.length+1:=by rw[ae,aW];rfl
 have:=q _ _ ⟨(v1.trans (v2.trans v3)).a.trans (v1.trans (v2.trans v3)).n w.a,m,(by show os.length<_;rw[hn];exact cf _),by rw[hn];exact b7 _⟩
 show Q (.loc a) (CF.upd a (.list [.loc (cK k),.int pos,.int mix]))
 rw[g]
 rwa[show EV.at (λk=>if k=os.length then a else uZ k) (.o os.length)=.loc a from congrArg PV.loc (if_pos rfl)]at this
end
section
variable{C:Ctx}{fr:Fm}{l:Lo}{os:List Ob}{K:Frag}{bL bM:ClassData}{lv:Nat}
theorem xg(k:Nat)(xs:List Int):dy (xs.map PV.int) none (some (k:Nat))=(xs.take k).map PV.int:=by
 simp only[dy,Co,Fa,Option.elim,fj,Nat.sub_zero,Aq,af]
 rw[<-List.map_take,<-List.take_take,fO]
theorem Lx(xs:List Int):dy (xs.map PV.int) none (some 40)=(xs.take 40).map PV.int:=xg 40 xs
theorem Dj(P:PO C K bL bM){a:PV}{xs:List Int}(hs:∀τ,vH C τ a (xs.map .int))(hx:xs.length<=100){G:Prop}(k:∀(eD:List Nat) (mix:Nat),eD.length<=1000->Calls C cG lv [.v a] [] (some (.o 2)) [.gone,.list ((xs.take 40).map .int),.dM eD 0 mix]->G):G:=
 OR (C:=C) (lv:=lv) (a:=a) P (xs.take 40) [] 5 (fh _) λeD mix hf lp=>k eD mix (aa hf (by decide)) (Calls.ret (Fn:=cG) (args:=[.v a]) (os:=[]) (c:= .o 2) (os2:=[.gone,.list ((xs.take 40).map .int),.dM eD 0 mix]) 3 rfl λL' outer A F=>by
 have w:=HR F Fn.top (os:=[.list (rG []),.list ((xs.take 40).map .int)]) (l:=lQ a 5) (ks:=[3,4,5,6]) (x:="cell") (i:=3) (k:=1) (by ac_rfl) rfl rfl (lp F) ⟨rfl,rfl⟩
 have sl:=λ(l:Lo)=>slV (C:=C) (fr:=cG.frame L' outer A lv) (l:=l) (os:=[.list []]) (lo:=none) (hi:=some 40) hs (Lx xs) (by rw[g8,af];exact aa hx (by decide)) rfl
 apply cw (m:=0) F cG.body [sv a,none,none,none,none,none,none] [] [.c (some (.o 1)) [.list [],.list ((xs.take 40).map .int)],.o (.norm (lQ a mix) [.list (rG eD),.list ((xs.take 40).map .int)]),.x (some (.o 2)) [.gone,.list ((xs.take 40).map .int),.dM eD 0 mix]]
  (sl _) w (To.Td (k:=0) (os:=[.list (rG eD),.list ((xs.take 40).map .int)]) rfl rfl (To.name F rfl rfl rfl) (To.pure λ_ _ _ _ _ q=>dn q) (To.name F rfl rfl rfl) (λ_=>rfl) (λ_=>rfl) (λ_=>rfl)))
theorem Sw{k:Nat}{os1:List Ob}{xs:List PV}{v:PV}(hp:EV.ty os1 (.o k)=some "list")(hk:os[k]?=some (.list (xs++[v])))(hsz:xs.length+1<=sizeLine):fJ C fr "pop" (.o k) os1 [] l os (sv v) (os.set k (.list xs)):=
 mR NX hp (To.upd hk (λ_=>rfl) (λ_=>rfl) (λ_=>rfl) (λ_=>rfl) λas ρ σ Q X hc q=>Ny hc hsz q)
theorem t6{j k:Nat}{xs ys zs:List PV}(hl:os.all Ob.live=true)(hj:os[j]?=some (.list xs))(hk:os[k]?=some (.list ys))(hsz:xs.length+ys.length<=sizeLine)(hz:xs++ys=zs):To (t2 C fr (binaryOp .Add) (.o j) (.o k)) l os (some (.o os.length)) (os++[.list zs]):= .mk λas ρ σ F s Q X q=>by
 subst hz
 refine JT (s.get hj λ_=>rfl) (s.get hk λ_=>rfl) hsz λa ha=> ?_
 have w:=s.alloc (o:= .list (xs++ys)) (c:= .list (xs++ys)) ha (λ_=>rfl) (λ_=>rfl) λq hq=>av.mp hl q hq
 have:=q _ _ w
 rwa[show EV.at (λk=>if k=os.length then a else as k) (.o os.length)=.loc a from congrArg PV.loc (if_pos rfl)]at this
end
end
theorem fW.pick{os:List Ob}{ps:Nat->Pl}{σ F:St}(r:fW os ps σ F){k n:Nat}{o:Ob}(hk:os[k]?=some o)(hn:n<=k):fW (os.take n++[o]) (λj=>if j=n then ps k else ps j) σ F:=
 have hl:(os.take n).length=n:=cg.trans (cY (aa hn (a9 (aj.mp hk).1)))
 have pn:(if n=n then ps k else ps n)=ps k:=if_pos rfl
 have low:∀(j:Nat) (q:Ob),(os.take n)[j]?=some q->j<n/\os[j]?=some q:=λj q e=>
  have h:j<n:=hl▸(aj.mp e).1
  ⟨h,fc h▸e⟩
 (r.less λj q e=>(low j q e).2).one n o
  (λj q ne e=>⟨(Nat.lt_or_gt_of_ne ne).elim (λh=>bH (hl.symm▸h)▸e) λh=>(aT q (e.symm.trans (mm (by rw[ae,hl];exact h)))).elim,if_neg ne⟩)
  (λq e=>(ax ((bS (aZ hl)).symm.trans e|>λe=>by rw[hl,Nat.sub_self]at e;exact e)).symm) (pn.symm▸r.at_ k o hk) (pn.symm▸r.fr k o hk) (pn.symm▸r.nd k o hk)
  (λj q _ e=>pn.symm▸r.ap j k q o (bX (au (low j q e).1 hn)) (low j q e).2 hk) (λj q _ e=>r.at_ j q (low j q e).2) r.le
theorem Calls.pack{C:Ctx}{Fn:Mine.Fn}{lv:Nat}{args:List EV}{os bN:List Ob}{k n:Nat}{o:Ob}(h:Calls C Fn lv args os (some (.o k)) bN)(hk:bN[k]?=some o)(hn:n<=k)(hl:os.length<=n):Calls C Fn lv args os (some (.o n)) (bN.take n++[o]):=
 .mk λas σ F r Q X q=>h.go as σ F r Q X λdJ σ' c=>by
  have tm:=(aj.mp hk).1
  have dZ:(bN.take n++[o]).length=n+1:=by rw[ae,cg,cY (aa hn (a9 tm))];rfl
  obtain⟨ps,rr,ha⟩:=c.s
  have:=q (λj=>if j=n then dJ k else dJ j) σ' ⟨λj hj=>(if_neg (bX (au hj hl))).trans (c.a j hj),⟨_,rr.pick hk hn,λj hj=> ?_⟩,by rw[dZ];exact cf n,by rw[dZ];exact bv hl⟩
  ·rwa[show EV.at (λj=>if j=n then dJ k else dJ j) (.o n)=.loc (dJ k)from congrArg PV.loc (if_pos rfl)]at this
  ·by_cases e:j=n
   ·show(if j=n then ps k else ps j).a=(if j=n then dJ k else dJ j)
    rw[if_pos e,if_pos e];exact ha k tm
   ·show(if j=n then ps k else ps j).a=(if j=n then dJ k else dJ j)
    rw[if_neg e,if_neg e];rw[dZ]at hj;exact ha j (au (Nat.lt_of_le_of_ne (d9 hj) e) (aa hn (a9 tm)))
theorem xh(rows:List (List Nat))(p:Nat)(hp:p<=rows.length):dy (aJ rows) none (some (p:Nat))=aJ (rows.take p):=by
 have e1:clipAt rows.length (p:Nat)=p:=y3 hp
 simp[dy,Co,Fa,e1]
theorem xi(rows:List (List Nat))(p:Nat)(hp:p<=rows.length):dy (aJ rows) (some (p:Nat)) none=aJ (rows.drop p):=by
 have e1:clipAt rows.length (p:Nat)=p:=y3 hp
 simp[dy,Co,Fa,e1]
 exact lC (by simp)
theorem OS{ws:List (List Nat)}(h1:ws.length<=801)(h2:∀w∈ws,w.length<=491):JoinOk (Str.ofString " ") (ws.map mk)=true:=
 lR 491 (λx hx=>by obtain⟨y,hy,rfl⟩:=bj.mp hx;rw[d8];exact h2 y hy) (by
  have Px:(Str.ofString " ").length=1:=by rw[<-gA,mJ];rfl
  rw[af,Px,g8];omega)
section
variable{C:Ctx}{fr:Fm}{l:Lo}{os:List Ob}{K:Frag}{bL bM:ClassData}{lv:Nat}
theorem Sy{k:Nat}{os1:List Ob}{ws:List (List Nat)}(hk:os[k]?=some (.list (aJ ws)))(h1:ws.length<=801)(h2:∀w∈ws,w.length<=491):fJ C fr "join" (.v (.str (Str.ofString " "))) os1 [.o k] l os (sv (.str (mk (cI [32] ws)))) os:=
 zG (xs:=ws.map mk) (by rw[b3];exact hk) (OS h1 h2) (by rw[<-fE (Str.ofString " "),mJ,sf])
theorem EN{k:Nat}{ws:List (List Nat)}{i:Nat}{w:List Nat}{x:Str}{qa:List (List Nat)}(hk:os[k]?=some (.list (aJ ws)))(hi:i<ws.length)(hb:i<100)(hx:x=mk w)(hw:ws.set i w=qa):yG C fr (.o k) (.v (.int (i:Nat))) (.v (.str x)) l os (os.set k (.list (aJ qa))):=by
 subst hx;subst hw
 refine⟨by rw[aW];exact ai _,?_⟩
 have:=mh.list (C:=C) (fr:=fr) (l:=l) (os:=os) (v:= .str (mk w)) hk (i:=(i:Nat)) (by exact aF _) (by exact rf [.lt (.v 0) (.n 100)] (.BO (.c (.v 0)) (.n 9223372036854775808)) [1] (Eq.refl true) hb) (by rw[af];exact bG.mpr hi)
 rwa[bD,show(aJ ws).set i (.str (mk w))=aJ (ws.set i w) by rw[aJ,aJ,List.map_set]]at this
end
section
variable{C:Ctx}{fr:Fm}{l:Lo}{os:List Ob}{K:Frag}{bL bM:ClassData}{lv:Nat}{fs:List Nat}{q m:Nat}{rows:List (List Nat)}
noncomputable abbrev sO(fs:List Nat)(q m:Nat)(rows ws:List (List Nat)):List Ob:=[.dM fs q m,.list (aJ rows),.list (aJ ws)]
noncomputable abbrev tO(fs:List Nat)(q m:Nat)(rows ws vs:List (List Nat)):List Ob:=[.dM fs q m,.list (aJ rows),.list (aJ ws),.list (aJ vs)]
noncomputable abbrev spR(rows:List (List Nat))(p:Nat)(ws:List (List Nat)):List (List Nat):=rows.take p++cI [32] ws::rows.drop (p+1)
noncomputable abbrev nO(rows:List (List Nat))(p:Nat)(ws:List (List Nat)):List Ob:=[.list (aJ (rows.take p)),.list (aJ [cI [32] ws]),.list (aJ (rows.take p++[cI [32] ws])),.list (aJ (rows.drop (p+1))),.list (aJ (spR rows p ws))]
noncomputable abbrev lS(way p w:Nat):Lo:=[some (.o 0),some (.o 1),sv (.int (way:Nat)),sv (.int (p:Nat)),some (.o w)]
noncomputable abbrev MT:List Stmt:=bU.body.drop 2
noncomputable abbrev T0:Expr:=Bk (.Name ⟨#[]⟩ ⟨0,0,0,0⟩) (λst=>s9 (.Name ⟨#[]⟩ ⟨0,0,0,0⟩) st (rt:=λe _=>e.getD (.Name ⟨#[]⟩ ⟨0,0,0,0⟩))) MT 1
theorem szA{p:Nat}(te:rows.length<=100)(s:List Nat):(aJ (rows.take p)).length+(aJ [s]).length<=sizeLine:=aX 200 (by rw[af,af,cg,aL];omega) rfl
theorem szB{p:Nat}(te:rows.length<=100)(s:List Nat):(aJ (rows.take p++[s])).length+(aJ (rows.drop (p+1))).length<=sizeLine:=aX 300 (by rw[af,af,ae,cg,eY,aL];omega) rfl
theorem eqA{p:Nat}(s:List Nat):aJ (rows.take p)++aJ [s]=aJ (rows.take p++[s]):=(aQ ..).symm
theorem eqB{p:Nat}(s:List Nat):aJ (rows.take p++[s])++aJ (rows.drop (p+1))=aJ (rows.take p++s::rows.drop (p+1)):=by rw[aJ,aJ,<-aQ,aC];rfl
theorem II{ws:List (List Nat)}(h:ws.length<=800):(aJ ws).length<=sizeLine:=aX 800 (by rw[af];exact h) rfl
theorem MU{w0 w1:List Nat}{rr:List (List Nat)}(h:∀w∈w0::w1::rr,w.length<=490){v0 v1:List Nat}(h0:v0.length<=491)(h1:v1.length<=491):∀w∈v0::v1::rr,w.length<=491:=λw hw=>by
 rcases ak.mp hw with rfl|hw
 ·exact h0
 ·rcases ak.mp hw with rfl|hw
  ·exact h1
  ·exact bv (h w (aK _ (aK _ hw)))
variable{G:Prop}
theorem xj{L':Addr}{outer:List Env}{A:Around}(F:aI C (bU.frame L' outer A lv)){way p:Nat}{ws:List (List Nat)}(hp:p<rows.length)(te:rows.length<=100)(h1:ws.length<=801)(h2:∀w∈ws,w.length<=491):
 To (tE C (bU.frame L' outer A lv) T0) (lS way p 2) (sO fs q m rows ws) (some (.o 7)) (sO fs q m rows ws++nO rows p ws):=by
 have z:(aJ rows).length<=sizeLine:=II (aa te (by decide))
 apply mi F T0 (lS way p 2) (sO fs q m rows ws) [.c (some (.o 3)) (sO fs q m rows ws++(nO rows p ws).take 1),ru (.str (mk (cI [32] ws))),.c (some (.o 5)) (sO fs q m rows ws++(nO rows p ws).take 3),
  .c (some (.o 6)) (sO fs q m rows ws++(nO rows p ws).take 4),.c (some (.o 7)) (sO fs q m rows ws++nO rows p ws)]
  (Ps (k:=1) rfl (xh rows p (a9 hp)) z rfl) (Sy (k:=2) rfl h1 h2) (t6 (j:=3) (k:=4) rfl rfl rfl (szA te _) (eqA _)) (Ps (k:=1) rfl (xi rows (p+1) hp) z rfl) (t6 (j:=5) (k:=6) rfl rfl rfl (szB te _) (eqB _))
theorem IJ{L':Addr}{outer:List Env}{A:Around}(F:aI C (bU.frame L' outer A lv)){way p:Nat}{ws vs:List (List Nat)}(hp:p<rows.length)(te:rows.length<=100)(h1:vs.length<=801)(h2:∀w∈vs,w.length<=491):
 To (tE C (bU.frame L' outer A lv) T0) (lS way p 3) (tO fs q m rows ws vs) (some (.o 8)) (tO fs q m rows ws vs++nO rows p vs):=by
 have z:(aJ rows).length<=sizeLine:=II (aa te (by decide))
 apply mi F T0 (lS way p 3) (tO fs q m rows ws vs) [.c (some (.o 4)) (tO fs q m rows ws vs++(nO rows p vs).take 1),ru (.str (mk (cI [32] vs))),.c (some (.o 6)) (tO fs q m rows ws vs++(nO rows p vs).take 3),
  .c (some (.o 7)) (tO fs q m rows ws vs++(nO rows p vs).take 4),.c (some (.o 8)) (tO fs q m rows ws vs++nO rows p vs)]
  (Ps (k:=1) rfl (xh rows p (a9 hp)) z rfl) (Sy (k:=3) rfl h1 h2) (t6 (j:=4) (k:=5) rfl rfl rfl (szA te _) (eqA _)) (Ps (k:=1) rfl (xi rows (p+1) hp) z rfl) (t6 (j:=6) (k:=7) rfl rfl rfl (szB te _) (eqB _))
noncomputable abbrev spS(i:Nat):Stmt:=(bU.body[i]?).getD (.Pass ⟨0,0,0,0⟩)
theorem EO(P:PO C K bL bM)(hl:1<=lv){pos mix way r c:Nat}{row:List Nat}{ws:List (List Nat)}{os2:List Ob}(te:rows.length<=100)(hr:r<rows.length)(nN:rows[r]?=some row)(hsz:row.length<=1000000)(F8:gu row=ws)(pk:Lv C rows.length fs pos mix r q m)
 (hk:(Nat.ble (c+1) os2.length&&FE (c+1) (some (.o c)))=true) (h2:2<=c) {o:Ob} (ho:os2[c]?=some o)
 (h:∀{L':Addr} {outer:List Env} {A:Around},aI C (bU.frame L' outer A lv)->Runs (iu C (bU.frame L' outer A lv) MT) 2 (lS way r 2) (sO fs q m rows ws) (.ret (.o c) os2)):
 Calls C bU lv [.o 0,.o 1,.v (.int (way:Nat))] [.dM fs pos mix,.list (aJ rows)] (some (.o 2)) ((os2.take (c+1)).take 2++[o]):=
 (Calls.ret (Fn:=bU) (args:=[.o 0,.o 1,.v (.int (way:Nat))]) (c:= .o c) (os:=[.dM fs pos mix,.list (aJ rows)]) (c+1) (an.mpr ⟨rfl,an.mpr ⟨Nat.ble_eq.mpr (bv h2),hk⟩⟩) λL' outer A F=>by
  have it:=yN (C:=C) (fr:=bU.frame L' outer A lv) (l:=[some (.o 0),some (.o 1),sv (.int (way:Nat)),sv (.int r),none]) (os:=[.dM fs q m,.list (aJ rows)]) (k:=1) (i:=r) (v:= .str (mk row)) rfl (aa hr (aa te (by decide))) (by rw[bc,nN];rfl)
  have sp:=m_split (C:=C) (fr:=bU.frame L' outer A lv) (l:=[some (.o 0),some (.o 1),sv (.int (way:Nat)),sv (.int r),none]) (os:=[.dM fs q m,.list (aJ rows)]) (os1:=[.dM fs q m,.list (aJ rows)]) (x:=mk row) (ws:=ws) rfl (by rw[c8];exact hsz) (by rw[c8];exact F8)
  apply Runs.cons (dB F (spS 0) [some (.o 0),some (.o 1),sv (.int (way:Nat)),none,none] [.dM fs pos mix,.list (aJ rows)] [ru (.int rows.length),rv (.int r) [.dM fs q m,.list (aJ rows)]] (cx P F rfl rfl (af _) (ah te (by decide))) (xt P F rfl (bn hl (by decide:0<1)) pk))
   (Runs.cons (dB F (spS 1) [some (.o 0),some (.o 1),sv (.int (way:Nat)),sv (.int r),none] [.dM fs q m,.list (aJ rows)] [ru (.str (mk row)),.c (some (.o 2)) (sO fs q m rows ws)] it sp) (h F))).pack (k:=c) (n:=2) ((fc (cf c)).trans ho) h2 (ai 2)
theorem xM(P:PO C K bL bM)(hl:1<=lv){pos mix way:Nat}(hf:fs.length<=1000)(MV:0<rows.length)(te:rows.length<=100)(hw1:1<=way)(Yr:way<=5)(MW:HF rows)
 (k:∀(kp:List (List Nat)) (q m:Nat),yz rows kp->Calls C bU lv [.o 0,.o 1,.v (.int (way:Nat))] [.dM fs pos mix,.list (aJ rows)] (some (.o 2)) [.dM fs q m,.list (aJ rows),.list (aJ kp)]->G):G:=by
 refine eG P hf pos mix rows.length MV λr q m hr pk=> ?_
 obtain⟨row,nN⟩:∃x,rows[r]?=some x:=⟨rows[r],aB hr⟩
 obtain⟨r1,r2,r3,n,w1,rr,F8,hn⟩:=MW row (aD nN)
 rw[F8]at r2 r3
 have OT:=r3 w1 (aK _ (az ..))
 have Ly:=r3 (dg n) (az ..)
 have hd:=λ{w:Nat} {ws:List (List Nat)} (e:way=w) (s:k9 r (dg n) w1 rr ws) h=>k _ q m (.mk nN F8 s) (e▸EO (way:=w) (os2:=sO fs q m rows ws++nO rows r ws) P hl te hr nN r1 F8 pk (c:=7) rfl (by decide) rfl h)
 have item:=λ{L' outer A} (l:Lo) (i:Nat) (v:List Nat) (h:(dg n::w1::rr)[i]?=some v) (hi:i<100)=>yN (C:=C) (fr:=bU.frame L' outer A lv) (l:=l) (os:=sO fs q m rows (dg n::w1::rr)) (k:=2) (i:=i) (v:= .str (mk v)) rfl (aa hi (by decide)) (by rw[bc,h];rfl)
 have OU:=λ{L' outer A} (l:Lo) (u v:Str) (h:u.length<=490) (h':v.length<=490)=>hO (C:=C) (fr:=bU.frame L' outer A lv) (l:=l) (os:=sO fs q m rows (dg n::w1::rr)) (x:=u) (y:=v) (aX 980 (bB h h') rfl)
 have YB:=λ{L' outer A} (F:aI C (bU.frame L' outer A lv)) (w:Nat) {v0 v1:List Nat} (h0:v0.length<=491) (h1:v1.length<=491)=>xj (rows:=rows) (ws:=v0::v1::rr) (fs:=fs) (q:=q) (m:=m) (way:=w) F hr te (bv r2) (MU r3 h0 h1)
 have KG:1<(dg n::w1::rr).length:=mV (ce _)
 have one:0<(dg n::w1::rr).length:=ce _
 have ln1:∀(c:Nat),(w1++[c]).length<=491:=λc=>by rw[ae];exact a6 OT
 have lw:(mk w1).length<=490:=by rw[d8];exact OT
 have hw:way=1\/way=2\/way=3\/way=4\/way=5:=(by decide:∀w,w<=5->1<=w->w=1\/w=2\/w=3\/w=4\/w=5) way Yr hw1
 rcases hw with h|h|h|h|h
 ·refine hd h .add λF=> ?_
  have e:aJ (dg n::w1::rr)++[.str (Str.ofString "x1")]=aJ ((dg n::w1::rr)++[[120,49]]):=by rw[aJ,aJ,aQ,<-fE (Str.ofString "x1"),X8];rfl
  apply cw F MT (lS 1 r 2) (sO fs q m rows (dg n::w1::rr)) [tt,rv .none (sO fs q m rows ((dg n::w1::rr)++[[120,49]])),.x (some (.o 7)) (sO fs q m rows ((dg n::w1::rr)++[[120,49]])++nO rows r ((dg n::w1::rr)++[[120,49]]))] rfl (d6 rfl rfl (II r2) e)
   (xj F hr te (by rw[ae];exact a6 r2) λw hw=>(bC.mp hw).elim (λh=>bv (r3 w h)) λh=>by rw[am.mp h];decide)
 ·obtain⟨wi,wl,T1⟩:∃wi wl,dg n::w1::rr=wi++[wl]:=⟨_,_,(List.dropLast_concat_getLast (bJ _ _)).symm⟩
  have YC:aJ (dg n::w1::rr)=aJ wi++[.str (mk wl)]:=by rw[T1,aJ,aQ];rfl
  have Sz:wi.length+1<=800:=by rw[T1,ae]at r2;exact r2
  refine hd h (.pop wl T1) λF=> ?_
  apply cw F MT (lS 2 r 2) (sO fs q m rows (dg n::w1::rr)) [ff,tt,rv (.str (mk wl)) (sO fs q m rows wi),.x (some (.o 7)) (sO fs q m rows wi++nO rows r wi)] rfl rfl (Sw (k:=2) rfl (congrArg (λx=>some (Ob.list x)) YC) (aX 900 (by rw[af];exact aa Sz (by decide)) rfl))
   (xj F hr te (aa (a9 Sz) (by decide)) λw hw=>bv (r3 w (T1▸nQ _ hw)))
 ·refine hd h (.nm 122 (.inl rfl)) λF=> ?_
  have ez:mk w1++Str.ofString "z"=mk (w1++[122]):=oF (by rw[lL,c8,c8,L_z])
  apply cw F MT (lS 3 r 2) (sO fs q m rows (dg n::w1::rr)) [ff,ff,tt,ru (.str (mk w1)),ru (.str (mk w1++Str.ofString "z")),.c none (sO fs q m rows (dg n::(w1++[122])::rr)),.x (some (.o 7)) (sO fs q m rows (dg n::(w1++[122])::rr)++nO rows r (dg n::(w1++[122])::rr))] rfl rfl rfl
   (item _ 1 w1 rfl (by decide)) (OU _ _ _ lw (by decide+kernel)) (EN (k:=2) (i:=1) rfl KG (by decide) ez rfl) (YB F 3 (bv Ly) (ln1 _))
 ·refine hd h (.nm 32 (.inr rfl)) λF=> ?_
  have ez:mk w1++Str.ofString " "=mk (w1++[32]):=oF (by rw[lL,c8,c8,mJ])
  apply cw F MT (lS 4 r 2) (sO fs q m rows (dg n::w1::rr)) [ff,ff,ff,tt,ru (.str (mk w1)),ru (.str (mk w1++Str.ofString " ")),.c none (sO fs q m rows (dg n::(w1++[32])::rr)),.x (some (.o 7)) (sO fs q m rows (dg n::(w1++[32])::rr)++nO rows r (dg n::(w1++[32])::rr))] rfl rfl rfl rfl
   (item _ 1 w1 rfl (by decide)) (OU _ _ _ lw (by decide+kernel)) (EN (k:=2) (i:=1) rfl KG (by decide) ez rfl) (YB F 4 (bv Ly) (ln1 _))
 ·by_cases IK:1<rows.length
  ·obtain⟨c,hc⟩:∃c,rows.length=c+1:=⟨rows.length-1,(Nat.succ_pred_eq_of_pos MV).symm⟩
   have Jq:0<c:=Nat.lt_of_succ_lt_succ (dq IK hc)
   have ec:(rows.length:Int)-1=(c:Nat):=(congrArg (λk:Nat=>(k:Int)-1) hc).trans (Int.add_sub_cancel (c:Int) 1)
   have hp:1+r%c<rows.length:=by rw[hc,bR];exact mV (rL _ Jq)
   generalize F4:r%c=d at hp
   have em:(r:Int)%((rows.length:Int)-1)=(d:Nat):=by rw[ec,<-F4];rfl
   obtain⟨OV,IL⟩:∃x,rows[1+d]?=some x:=⟨rows[1+d],aB hp⟩
   obtain⟨v1,v2,v3,n2,u1,uu,OW,hn2⟩:=MW OV (aD IL)
   rw[OW]at v2 v3
   refine eG P hf q m 9 (by decide) λj q2 m2 hj Jv=>k _ q2 m2 (.mk IL OW (.adr n2 j rfl (ay 1 d) (aa hj (by decide)))) (h▸EO (way:=5) (os2:=tO fs q2 m2 rows (dg n::w1::rr) (dg (n2+1+j)::u1::uu)++nO rows (1+d) (dg (n2+1+j)::u1::uu)) P hl te hr nN r1 F8 pk (c:=8) rfl (by decide) rfl λ{L' outer A} F=> ?_)
   have lg:((n2:Int)+1+(j:Nat)).natAbs.log2<1920:=i8 (m:=n2+1+j) (aa (bB hn2 hj) (by decide))
   have SA:=v3 (dg n2) (az ..)
   have w6:=v3 u1 (aK _ (az ..))
   have w7:(dg (n2+1+j)).length<=491:=aa (Cw (k:=9) (aa (bB hn2 hj) (by decide))) (by decide)
   apply cw F MT (lS 5 r 2) (sO fs q m rows (dg n::w1::rr)) [ff,ff,ff,ff,ru (.int rows.length),tt,ru (.int rows.length),ru (.int d),ru (.str (mk OV)),.c (some (.o 3)) (tO fs q m rows (dg n::w1::rr) (dg n2::u1::uu)),ru (.str (mk (dg n2))),ru (.int n2),rv (.int j) (tO fs q2 m2 rows (dg n::w1::rr) (dg n2::u1::uu)),ru (.str (Str.ofString (toString ((n2:Int)+1+(j:Nat))))),
    .c none (tO fs q2 m2 rows (dg n::w1::rr) (dg (n2+1+j)::u1::uu)),.x (some (.o 8)) (tO fs q2 m2 rows (dg n::w1::rr) (dg (n2+1+j)::u1::uu)++nO rows (1+d) (dg (n2+1+j)::u1::uu))] rfl rfl rfl rfl
    (cx P F rfl rfl (af _) (ah te (by decide))) (decide_eq_true (bG.mpr IK)) (cx P F rfl rfl (af _) (ah te (by decide))) (Lw (show(0:Int)<(rows.length:Int)-1 from ec.symm▸bG.mpr Jq) em)
    (yN (k:=1) (i:=1+d) rfl (aa hp (aa te (by decide))) (by rw[bc,IL];rfl)) (m_split (x:=mk OV) (ws:=dg n2::u1::uu) rfl (by rw[c8];exact v1) (by rw[c8];exact OW))
    (yN (k:=3) (i:=0) rfl (by decide) rfl) (yH P F rfl (N9 (aa SA (by decide))) (by rw[d8];exact aa SA (by decide))) (xt P F rfl (bn hl (by decide:0<1)) Jv) (Bm P F rfl lg) (EN (k:=3) (i:=0) (w:=dg (n2+1+j)) rfl (ce _) (by decide) (za (n2+1+j)) rfl)
    (IJ F hp te (bv v2) (MU v3 w7 (bv w6)))
  ·refine hd h .one λF=> ?_
   have ex:Str.ofString "x"++mk (dg n)=mk (120::dg n):=oF (by rw[lL,c8,c8,N7];rfl)
   apply cw F MT (lS 5 r 2) (sO fs q m rows (dg n::w1::rr)) [ff,ff,ff,ff,ru (.int rows.length),ff,ru (.str (mk (dg n))),ru (.str (Str.ofString "x"++mk (dg n))),.c none (sO fs q m rows ((120::dg n)::w1::rr)),.x (some (.o 7)) (sO fs q m rows ((120::dg n)::w1::rr)++nO rows r ((120::dg n)::w1::rr))] rfl rfl rfl rfl
    (cx P F rfl rfl (af _) (ah te (by decide))) (decide_eq_false λe=>IK (bG.mp e)) (item _ 0 (dg n) rfl (by decide)) (OU _ _ _ (by decide+kernel) (by rw[d8];exact Ly)) (EN (k:=2) (i:=0) (w:=120::dg n) rfl one (by decide) ex rfl) (YB F 5 (a6 Ly) (bv OT))
end
structure CE(gv:Env):Prop where
 kind:gv.scope.kind=.function
 gl:gv.globals=mainGlobals
 bl:gv.builtins=builtinsNs
theorem CE.of{fr:Fm}{scope:Scope}{cl:List (Str×Addr)}{D:Addr}(h:scope.kind=.function):CE (compEnvC scope cl D fr.env):=⟨h,rfl,rfl⟩
section
variable{C:Ctx}{fr:Fm}{ρ:b9}{σ:St}{Q:PV->St->Prop}{X:Prop}{Y Z:Zf}{s:Shared}{gv:Env}
theorem Ok.adopt(ok:Ok C fr Y Z ρ σ s){a:Addr}{c:dx}{o:Obj}(ho:s.heap.get? a=some o)(hc:mr C Z c o)(h1:C.B.get? a=none)(h2:Y a=none)(h3:Z a=none)(h4:a≠fr.L):Ok C fr Y Z ρ (σ.upd a c) s:=by
 refine⟨ok.base,ok.keep,ok.vals,ok.yl,ok.zl,ok.bl,ok.loc,λb d e=> ?_,λb d e=> ?_,ok.bh,ok.rest,ok.zn,ok.fz⟩
 ·by_cases q:b=a
  ·subst q;rw[St.bz]at e;cases e;exact⟨o,ho,hc⟩
  ·rw[St.bu _ _ q]at e;exact ok.jq b d e
 ·by_cases q:b=a
  ·subst q;exact⟨h1,h2,h3,h4⟩
  ·rw[St.bu _ _ q]at e;exact ok.own b d e
theorem MX(ok:Ok C fr Y Z ρ σ s){D:Addr}{vs:Array Value}(h:s.heap.PlainList D vs):Z D=none:=by
 obtain⟨n,ho⟩:=h
 cases q:Z D with
 |none=>rfl
 |some o=>
  have:=ok.vals D o q
  rw[ho]at this;cases this
  rcases(ok.zn D _ q).1 with e|e|e<;>simp at e
inductive KI(C:Ctx)(fr:Fm)(gv:Env)(Y Z:Zf)(ρ:b9)(I:Addr)(fp:List Addr)(lI:Nat->Heap->Prop)(s:Shared)(n:Nat)(D:Addr)(Inv:Nat->List PV->St->Prop):Nat->Shared->Prop
 |mk {ys:List PV} {vs:List Value} {σ':St} {Z':Zf} {j:Nat} {m:Str->Option Value} {s':Shared} (h:LI C fr Y Z I fp lI s j ρ σ' Z' s') (i:Inv j ys σ') (l:j<=n) (pl:s'.heap.PlainList D vs.toArray) (r:cO Z' ys vs) (len:vs.length=j) (d:σ' D=none) (ns:s'.heap.Ns gv.locals m) (zc:Z' gv.locals=none) (sc:σ' gv.locals=none):KI C fr gv Y Z ρ I fp lI s n D Inv (n+1-j) s'
theorem FU(F:aI C fr)(E:CE gv){xN iter:Expr}{x:Str}{px pos:Pos}{scope:Scope}{I D:Addr}{fp wr:List Addr}{n:Nat}{P:Nat->Value->Prop}{lI:Nat->Heap->Prop}{xs:List PV}
 (hx:gv.kindOf x=some .local) (W:Walks C.prog C.w fr.A I fp wr n P lI) (zT:∀b∈wr,b=I) (hn:n=xs.length) (hsz:n<=sizeLine)
 (ue:∀k v Z',fP Z Z'->k<n->P k v->∃pv,xs[k]?=some pv/\gg Z' pv v) (hF:∀k h,lI k h->∃o,h.get? I=some o/\¬lG o)
 (ok:Ok C fr Y Z ρ σ s) (kI:lI 0 s.heap) (hL:fr.L∉fp) (BY:∀b∈fp,σ b=none) (Jg:∀b∈fp,∃o,s.heap.get? b=some o) (hI:C.B.get? I=none/\Y I=none)
 (hD:s.heap.PlainList D #[]) (hDn:C.B.get? D=none/\Y D=none/\D≠fr.L/\σ D=none/\D∉fp) (T3:D≠gv.locals)
 {m:Str->Option Value} (hm:s.heap.Ns gv.locals m) (hcn:C.B.get? gv.locals=none/\Y gv.locals=none/\Z gv.locals=none/\gv.locals≠fr.L/\σ gv.locals=none/\gv.locals∉fp)
 (Inv:Nat->List PV->St->Prop) (h0:Inv 0 [] σ)
 (step:∀k pv ys σ',xs[k]?=some pv->Inv k ys σ'->σ' gv.locals=none->TV C fr (eval xN gv) ρ (σ'.upd gv.locals (.ns x pv)) (λy oh=>oh gv.locals=some (.ns x pv)/\Inv (k+1) (ys++[y]) (oh.del gv.locals)) False)
 {RR:Result->Shared->Prop}
 (hE:∀s' ys vs σ' Z' m,fP Z Z'->Ok C fr Y Z' ρ σ' s'->(∀b∈fp,b≠I->s'.heap.get? b=s.heap.get? b)->(∀b∈fp,σ' b=none)->Inv n ys σ'->s'.heap.PlainList D vs.toArray->cO Z' ys vs->σ' D=none->s'.heap.Ns gv.locals m->Z' gv.locals=none->σ' gv.locals=none->RR (.ok .next) s'):
 codeAny C.M fr.A (.compLoop (.ListComp xN [⟨.Name x px,iter,[],0⟩] scope pos) 0 (.ref I) (.ref D) gv) RR s:=by
 obtain⟨d1,d2,d3,d4,d5⟩:=hDn
 obtain⟨c1,c2,c3,c4,c5,c6⟩:=hcn
 refine codeAny_compLoop_tests (KI C fr gv Y Z ρ I fp lI s n D Inv) ?_ (n+1) (.mk ⟨fP.refl _,ok,kI,λb hb=>let⟨o,ho⟩:=Jg b hb;⟨o,ho,λ_=>ho⟩,BY⟩ h0 (fh _) hD cO.nil rfl d4 hm c3 c5)
 intro k bF h
 cases h with
 |@mk ys vs aM cn j YD _ h z9 hj MY MZ Ti SD vL SE OX=>
 have hDw:D∉wr:=λh=>d5 (W.sub _ h)
 have hcw:gv.locals∉wr:=λh=>c6 (W.sub _ h)
 by_cases eP:j<n
 ·refine W.item j _ _ _ eP h.st λv gt Aa hP B9 rY=> ?_
  obtain⟨pv,JL,rv⟩:=ue j v cn h.z eP hP
  have b1:=h.next (tk:=Aa) hF W zT hL hI rY
  refine wpAny_assign_Name (wpAny_storeName_local hx (vL.at' λo e=>rY _ o hcw e) (λiS Gu xW=> ?_) (by rw[E.kind];rfl))
  have e3:∀b∈fp,iS.get? b=gt.get? b:=λb hb=>xW.2 b λq=>c6 (by rw[<-show b=gv.locals from q];exact hb)
  have dF:=b1.but (wr:=[gv.locals]) (t':=Aa+1) (λb o hb e=>xW.extBut b o (λq=>hb (by simp[q])) e) λb hb=>by
   obtain rfl:=am.mp hb
   exact⟨c1,c2,SE,c4,OX⟩
  have rX:lI (j+1) iS:=W.frame _ _ _ B9 λb hb o e=>(e3 b hb).trans e
  have SG:iS.PlainList D vs.toArray:=(MY.at λo e=>rY _ o hDw e).extBut xW.extBut T3
  obtain⟨oc,esc,epc,hoc,hdc,hkc,L5⟩:=Gu
  have j6:=dF.adopt (a:=gv.locals) (c:= .ns x pv) hoc ⟨_,esc,epc,hdc,hkc,L5,v,by rw[if_pos rfl],rv⟩ c1 c2 SE c4
  have iz:=j6.I9 (fp:=D::fp) (λhb=>(ak.mp hb).elim (λe=>d3 e.symm) hL) λb hb=>(ak.mp hb).elim (λe=>e▸(St.bu _ _ T3).trans SD) λhb=>(St.bu _ _ (λq=>c6 (by rw[<-show b=gv.locals from q];exact hb))).trans (h.no b hb)
  have kY:=Yb.le (fp:=D::fp) dF.keep
  refine wpAny_pure ?_
  simp only[if_true]
  refine wpAny_mono (step j pv ys aM JL z9 OX _ cn _ iz) (λy E0 ⟨yv,rV,JI,E1,og,ry,M0,SH⟩=> ?_) λe s' x=>x.1.elim
  obtain⟨oc',YE,YF,SI,SJ,YG,YH,YI,_⟩:=og.jq _ _ M0
  have SK:=(og.own _ _ M0).2.2.1
  have b:=LI.back W rX (h.there hF zT rX rY e3) (λ_ h=>aK _ h) (og.BG gv.locals) ok kY (h.z.trans E1)
  obtain⟨nD,hnD⟩:=SG
  have kD:(Yb Y (D::fp) iS) D=some _:=(if_pos az).trans hnD
  have M1:E0.heap.PlainList D vs.toArray:=⟨nD,og.keep _ _ kD⟩
  have M2:(rV.del gv.locals) D=none:=by
   rw[St.Do _ T3]
   cases q:rV D with
   |none=>rfl
   |some c=>have:=(og.own D c q).2.1;rw[kD]at this;cases this
  refine wpAny_list_append_plain (hsz:=by rw[List.size_toArray,Ti];exact aa (a9 eP) hsz) M1 λYJ SM IM=> ?_
  have SN:=b.ok.but (wr:=[D]) (t':=E0.toks) (λb o hb e=>IM.extBut b o (λq=>hb (by simp[q])) e) λb' hb=>by
   obtain rfl:=am.mp hb
   exact⟨d1,d2,MX b.ok M1,d3,M2⟩
  have ne7:∀b∈fp,YJ.get? b=E0.heap.get? b:=λb hb=>IM.2 b λq=>d5 (by rw[<-show b=D from q];exact hb)
  have nx:n+1-j=n+1-(j+1)+1:=(Nat.sub_eq_iff_eq_add (a6 hj|>Nat.le_of_succ_le)).mpr (by rw[bW,bR 1 j,ky (a6 hj)])
  refine⟨n+1-(j+1),nx▸cf _,.mk (ys:=ys++[yv]) (vs:=vs++[y]) (m:=YF) ⟨b.z,SN,W.frame _ _ _ b.st λc hb o e=>(ne7 c hb).trans e,λc hb=>let⟨o,ho,hq⟩:=b.wk c hb;⟨o,(ne7 c hb).trans ho,hq⟩,b.no⟩ SH eP (List.append_toArray vs [y]▸SM) ((MZ.mono E1).append (.one ry)) (by rw[ae,Ti];rfl) M2 ⟨oc',SI,SJ,(IM.2 _ (Ne.symm T3)).trans YE,YG,YH,YI⟩ SK (St.Jb _ _)⟩
 ·have Uh:j=n:=dH hj (cu eP)
  subst Uh
  refine W.done _ _ _ h.st λfM DC vy=> ?_
  refine hE _ ys vs aM cn YD h.z (h.next (tk:=DC) hF W zT hL hI vy) (λb hb hZ=> ?_) h.no z9 (MY.at λo e=>vy _ o hDw e) MZ SD (vL.at' λo e=>vy _ o hcw e) SE OX
  obtain⟨o,ho,hq⟩:=h.wk b hb
  exact(vy b o (λh=>hZ (zT b h)) ho).trans (hq hZ).symm
inductive IN(C:Ctx)(fr:Fm)(cl:List (Str×Addr))(scope:Scope)(x:Str)(xN:Expr)(a:PV)(ρ:b9)(σ:St)(Q:PV->St->Prop):Prop
 |mk (xs:List PV) (zU:St) (rest:St->St) (hit:kQ C fr a xs σ zU rest) (hsz:xs.length<=sizeLine) (Inv:Nat->List PV->St->Prop) (h0:Inv 0 [] zU)
  (step:∀k pv ys σ' D,xs[k]?=some pv->Inv k ys σ'->σ' D=none->TV C fr (eval xN (compEnvC scope cl D fr.env)) ρ (σ'.upd D (.ns x pv)) (λy oh=>oh D=some (.ns x pv)/\Inv (k+1) (ys++[y]) (oh.del D)) False)
  (qr:∀ys σ' l,Inv xs.length ys σ'->σ' l=none->Q (.loc l) (σ'.upd l (.list ys)))
theorem Lz(F:aI C fr){xN iter:Expr}{x:Str}{px pos:Pos}{scope:Scope}{cl:List (Str×Addr)}(IP:closureFor scope fr.env=pure cl)(IQ:∀y∈scope.names,y.2≠ .cell)(yP:scope.kind=.function)
 (Dk:∀y∈scope.names,y.2=.local->scope.names.lookup y.1=some .local) (hx:scope.names.lookup x=some .local)
 (h:WE C fr iter ρ σ (λa aM=>IN C fr cl scope x xN a ρ aM Q) X) (hs:∀v,foldedSetIterable iter fr.env v=pure v):
 WE C fr (.ListComp xN [⟨.Name x px,iter,[],0⟩] scope pos) ρ σ Q X:=λY Z s ok=>by
 show wpAny _ _ (eval (.ListComp xN [⟨.Name x px,iter,[],0⟩] scope pos) fr.env) _ _ s
 rw[eval_ListComp]
 refine wpAny_comprehension_free (use:=none) rfl hs IP yP Dk (wV (h Y Z s ok) λva bF a aM cn cj bq cA p=> ?_)
 obtain⟨xs,zU,rest,hit,hsz,Inv,h0,step,qr⟩:=p
 refine wP (hit Y cn ρ bF va _ bq cA) λit cV p=> ?_
 obtain⟨I,fp,wr,n,P,lI,rfl,W,zT,rfl,ue,hF,b1,kI,hL,BY,Jg,Ui,xX⟩:=p
 refine wpAny_newObj_type (wpAny_newFunctionEnv IQ (by intro y hy;simp at hy) (λfM Dl zO=> ?_) yP)
 dsimp only at Dl zO⊢
 generalize YK:cV.heap.push {cls:= .type "list",dict:=none,data:= .seq ([]:List Value).toArray}=H2 at Dl zO⊢
 have hC:H2.objs.size=cV.heap.objs.size+1:=by rw[<-YK,lq]
 have YL:cV.heap.objs.size≠H2.objs.size:=by rw[hC];exact bX (cf _)
 have uX:∀b o,cV.heap.get? b=some o->fM.get? b=some o:=λb o e=>zO.extBut b o (by rw[hC];exact bX (Nat.lt_succ_of_lt (dc e))) (aG _ (YK▸aG _ e))
 have GX:fM.PlainList cV.heap.objs.size #[]:=⟨_,zO.extBut _ _ YL (aG _ (YK▸aN _ rfl))⟩
 have fresh:∀a,cV.heap.objs.size<=a->cV.heap.get? a=none:=λa ha=>bg ha
 have nD:=fresh cV.heap.objs.size (ai _)
 have nC:=fresh H2.objs.size (by rw[hC];exact b7 _)
 obtain⟨p1,p2,p3,p4,p5⟩:=b1.none_of nD
 obtain⟨q1,q2,q3,q4,q5⟩:=b1.none_of nC
 have dF:Ok C fr Y cn ρ zU {cV with heap:=fM,toks:=cV.toks+([]:List (Str×Value)).length}:=b1.keeps uX
 have hDf:cV.heap.objs.size∉fp:=λhm=>by obtain⟨o,ho⟩:=Jg _ hm;rw[nD]at ho;cases ho
 have hCf:H2.objs.size∉fp:=λhm=>by obtain⟨o,ho⟩:=Jg _ hm;rw[nC]at ho;cases ho
 have tG:lI 0 fM:=W.frame _ _ _ kI λb _ o e=>uX b o e
 have CEx:CE (compEnvC scope cl H2.objs.size fr.env):=CE.of yP
 have Jr:Env.kindOf (compEnvC scope cl H2.objs.size fr.env) x=some .local:=lookup_relabel_local hx
 have SO:codeAny C.M fr.A (.compLoop (.ListComp xN [⟨.Name x px,iter,[],0⟩] scope pos) 0 (.ref I) (.ref cV.heap.objs.size) (compEnvC scope cl H2.objs.size fr.env))
  (compPost C.M fr.A (f8 C fr Y ρ X) none (iD C fr Y Z ρ Q) (.ref cV.heap.objs.size) H2.objs.size) {cV with heap:=fM,toks:=cV.toks+([]:List (Str×Value)).length}:=by
  refine FU F CEx Jr W zT rfl hsz ue hF dF tG hL BY (λb hb=>let⟨o,ho⟩:=Jg b hb;⟨o,uX b o ho⟩) Ui GX ⟨p1,p2,p4,p5,hDf⟩ YL Dl ⟨q1,q2,q3,q4,q5,hCf⟩ Inv h0
   (λk pv ys σ' e hi hn=>step k pv ys σ' _ e hi hn) (λs' ys vs σ' Z' m k' f6 aae Nk hI hl hr hsD hm SE Nl=> ?_)
  refine⟨m,hm,λh' E3=> ?_⟩
  have j6:Ok C fr Y Z' ρ σ' {s' with heap:=h'}:=f6.but (wr:=[H2.objs.size]) (t':=s'.toks) (λb o hb e=>E3.extBut b o (λq=>hb (by simp[q])) e) λb hb=>by
   obtain rfl:=am.mp hb
   exact⟨q1,q2,SE,q4,Nl⟩
  have Pm:h'.PlainList cV.heap.objs.size vs.toArray:=hl.extBut E3.extBut YL
  obtain⟨nl,hnl⟩:=Pm
  have og:=j6.adopt (a:=cV.heap.objs.size) (c:= .list ys) hnl ⟨vs,nl,rfl,hr⟩ p1 p2 (MX j6 ⟨nl,hnl⟩) p4
  exact⟨.loc _,_,Z',cj.trans k',og,ic _,qr ys σ' _ hI hsD⟩
 exact codeAny_compStart_list SO (W.self 0 _ _ _ tG SO)
theorem IS(F:aI C fr){cl:List (Str×Addr)}{scope:Scope}{x:Str}{xN:Expr}{l:Addr}{xs:List PV}(hc:σ l=some (.list xs))(hsz:xs.length<=sizeLine)(Inv:Nat->List PV->St->Prop)(h0:Inv 0 [] (σ.del l))
 (step:∀k pv ys σ' D,xs[k]?=some pv->Inv k ys σ'->σ' D=none->TV C fr (eval xN (compEnvC scope cl D fr.env)) ρ (σ'.upd D (.ns x pv)) (λy oh=>oh D=some (.ns x pv)/\Inv (k+1) (ys++[y]) (oh.del D)) False)
 (qr:∀ys σ' k,Inv xs.length ys σ'->σ' k=none->Q (.loc k) (σ'.upd k (.list ys))):IN C fr cl scope x xN (.loc l) ρ σ Q:=
 ⟨xs,_,_,xY F hc,hsz,Inv,h0,step,qr⟩
end
noncomputable abbrev Fm.comp(fr:Fm)(scope:Scope)(cl:List (Str×Addr))(D:Addr):Fm:={fr with scope:=relabel scope fr.env,f:=none,cl:=cl,loc:=D,vn:=[]}
section
variable{C:Ctx}{fr:Fm}{scope:Scope}{cl:List (Str×Addr)}{D:Addr}{Y Z:Zf}{ρ ρ':b9}{σ F:St}{s:Shared}
theorem aI.comp(F:aI C fr)(h:scope.kind=.function):aI C (fr.comp scope cl D):=⟨h,F.frames,F.top,F.handled,F.room,F.nodup,.inl rfl,nofun,F.Tg⟩
noncomputable def BD(fr:Fm)(ρ ρ':b9):Prop:=∀i,i<fr.names.length->ρ'[i]?=ρ[i]?
theorem mu.same{m:Str->Option Value}(h:BD fr ρ ρ')(x:mu Z fr.names ρ m):mu Z fr.names ρ' m:=λi y pv h1 h2=>x i y pv h1 ((h i (aj.mp h1).1)▸h2)
theorem Ok.toC(ok:Ok C fr Y Z ρ σ s)(h:BD fr ρ ρ'):Ok C (fr.comp scope cl D) Y Z ρ' σ s:=
 ⟨ok.base,ok.keep,ok.vals,ok.yl,ok.zl,ok.bl,let⟨m,a,b⟩:=ok.loc;⟨m,a,b.same h⟩,ok.jq,ok.own,ok.bh,ok.rest,ok.zn,ok.fz⟩
theorem Ok.ofC(ok:Ok C (fr.comp scope cl D) Y Z ρ' σ s)(h:BD fr ρ' ρ):Ok C fr Y Z ρ σ s:=
 ⟨ok.base,ok.keep,ok.vals,ok.yl,ok.zl,ok.bl,let⟨m,a,b⟩:=ok.loc;⟨m,a,b.same (fr:=fr) h⟩,ok.jq,ok.own,ok.bh,ok.rest,ok.zn,ok.fz⟩
theorem LA{e:Expr}{Q:PV->St->Prop}{X:Prop}(h1:BD fr ρ ρ')(h2:BD fr ρ' ρ)(h:WE C (fr.comp scope cl D) e ρ' σ Q X):TV C fr (eval e (compEnvC scope cl D fr.env)) ρ σ Q X:=λY Z s ok=>
 wpAny_mono (h Y Z s (ok.toC h1)) (λv s' ⟨pv,σ',Z',k,f6,r,q⟩=>⟨pv,σ',Z',k,f6.ofC h2,r,q⟩)
  λe s' ⟨x,y,hy⟩=>⟨x,y,⟨hy.is,hy.base,hy.new,hy.bh,hy.st,hy.ES,let⟨m,Z',a,b⟩:=hy.loc;⟨m,Z',a,b.same (fr:=fr) h2⟩,hy.rest⟩⟩
theorem fW.side{os:List Ob}{ps:Nat->Pl}(r:fW os ps σ F){c:dx}(h:∀(k:Nat) (o:Ob),os[k]?=some o->D∉o.keys (ps k)):fW os ps (σ.upd D c) (F.upd D c):=by
 refine⟨λk o e d hd=>(St.bu _ _ λq=>h k o e (by rw[<-q];exact Ob.pS hd)).trans (r.at_ k o e d hd),λk o e a ha=>(St.bu _ _ λq=>h k o e (by rw[<-q];exact ha)).trans (r.fr k o e a ha),r.nd,r.ap,λa d e=> ?_⟩
 by_cases q:a=D
 ·subst q;rw[St.bz]at e⊢;exact e
 ·rw[St.bu _ _ q]at e⊢;exact r.le a d e
theorem fW.O4{os:List Ob}{ps:Nat->Pl}{c:dx}(r:fW os ps σ (F.upd D c))(h:F D=none):fW os ps (σ.del D) F:=by
 have ne:∀{k:Nat} {o:Ob},os[k]?=some o->∀a∈o.keys (ps k),a≠D:=λe a ha q=>by
  have:=r.fr _ _ e a ha
  rw[q,St.bz]at this;cases this
 refine⟨λk o e d hd=> ?_,λk o e a ha=> ?_,r.nd,r.ap,λa d e=> ?_⟩
 ·rw[St.Do _ (ne e _ (Ob.pS hd))];exact r.at_ k o e d hd
 ·have:=r.fr k o e a ha
  rwa[St.bu _ _ (ne e a ha)]at this
 ·have q:a≠D:=λq=>by rw[q,h]at e;cases e
  rw[St.Do _ q];exact r.le a d (by rw[St.bu _ _ q];exact e)
end
inductive uQ(C:Ctx)(fr:Fm)(scope:Scope)(cl:List (Str×Addr))(x:Str)(xN:Expr)(m:Nat)(l:Lo):List PV->List Ob->List PV->List Ob->Prop
 |nil {os:List Ob}:uQ C fr scope cl x xN m l [] os [] os
 |next {v y:PV} {xs ys:List PV} {os os1 os2:List Ob} (hv:os.all Ob.live=true) (h:∀D,aI C (fr.comp scope cl D)->To (tE C (fr.comp scope cl D) xN) (l++[some (.n D x v)]) os (some (.v y)) os1)
  (r:uQ C fr scope cl x xN m l xs (os1.take m) ys os2):uQ C fr scope cl x xN m l (v::xs) os (y::ys) os2
section
variable{C:Ctx}{fr:Fm}{l:Lo}{os os1 os2:List Ob}
theorem To.nsn(F0:aI C fr){x:Str}{p:Pos}{i:Nat}{v:PV}(hk:fr.env.kindOf x=some .local)(hl:l[i]?=some (some (.n fr.loc x v)))(hd:(x==("__debug__":Str))=false):To (tE C fr (.Name x p)) l os (some (.v v)) os:= .mk λas ρ σ F s Q X q=>by
 have hr:=s.r.choose_spec.1.le _ _ (s.l i _ hl).1
 intro Y Z s' ok
 obtain⟨o,ho,m,es,ep,a,b,c,w,hw,r⟩:=ok.jq _ _ hr
 exact wpAny_Name (wpAny_loadName_local F0.kind hk ⟨o,es,ep,ho,a,b,c⟩ hw (bZ ok r (q as σ (s.refl (c:= .v v) trivial)))) hd
theorem To.comp(F0:aI C fr){xN iter:Expr}{x:Str}{px pos:Pos}{scope:Scope}{cl:List (Str×Addr)}{k:Nat}{xs ys:List PV}(IP:closureFor scope fr.env=Pure.pure cl)(IQ:∀y∈scope.names,y.2≠ .cell)(yP:scope.kind=.function)
 (Dk:∀y∈scope.names,y.2=.local->scope.names.lookup y.1=some .local) (hx:scope.names.lookup x=some .local) (hs:∀v,foldedSetIterable iter fr.env v=Pure.pure v)
 (h:To (tE C fr iter) l os (some (.o k)) os1) (hk:os1[k]?=some (.list xs)) (hsz:xs.length<=sizeLine) (hln:Nat.ble fr.names.length l.length=true) (kG:A9 os1.length l=true)
 (hL:uQ C fr scope cl x xN os1.length l xs (os1.set k .gone) ys os2) (uP:os2.all Ob.live=true):
 To (tE C fr (.ListComp xN [⟨.Name x px,iter,[],0⟩] scope pos)) l os (some (.o os1.length)) (os2++[.list ys]):= .mk λas ρ σ F s Q X q=>by
 refine Lz F0 IP IQ yP Dk hx (h.go as ρ σ F s _ _ λcK cZ v=> ?_) hs
 have eP:=(aj.mp hk).1
 have SP:(os1.set k .gone).length=os1.length:=aW ..
 have DM:ρ.length=l.length:=s.len
 have sam:∀(w:Option PV),BD fr ρ (ρ++[w])/\BD fr (ρ++[w]) ρ:=λw=>by
  have e:∀i,i<fr.names.length->(ρ++[w])[i]?=ρ[i]?:=λi hi=>bH (by rw[DM];exact au hi (bE hln))
  exact⟨e,λi hi=>(e i hi).symm⟩
 refine IS F0 (v.s.get hk λ_=>rfl) hsz (λj zs τ=>∃iC bN,Agree os1.length cK iC/\Sx l bN iC ρ τ F/\bN.length=os1.length/\∃Qd,zs++Qd=ys/\uQ C fr scope cl x xN os1.length l (xs.drop j) bN Qd os2)
  ⟨cK,_,λ_ _=>rfl,v.s.turn (o':= .gone) hk (λ_=>rfl) (λ_=>List.nil_sublist _) (λ_ _ c hc=>nomatch hc) λb hb=>if_neg hb,SP,ys,rfl,hL⟩ ?_ ?_
 ·rintro j pv zs τ D JL ⟨iC,bN,ag,sx,dZ,Qd,e,L⟩ hD
  obtain⟨hj,rfl⟩:=aj.mp JL
  rw[bY hj]at L
  cases L with
  |next hv hE r=>
   rename_i y ys1 o1
   obtain⟨ps,rr,ha⟩:=sx.r
   have hF:F D=none:=by
    cases q:F D with
    |none=>rfl
    |some c=>have:=rr.le D c q;rw[hD]at this;cases this
   have nk:∀(i:Nat) (o:Ob),bN[i]?=some o->D∉o.keys (ps i):=λi o ei hm=>by
    rw[<-Ob.t8 (av.mp hv o (aD ei))]at hm
    obtain⟨c,hc,ec⟩:=bj.mp hm
    have:=rr.at_ i o ei c hc
    rw[ec,hD]at this;cases this
   refine LA (sam (some xs[j])).1 (sam (some xs[j])).2 ((hE D (F0.comp yP)).go iC (ρ++[some xs[j]]) (τ.upd D (.ns x xs[j])) (F.upd D (.ns x xs[j])) ⟨⟨ps,rr.side nk,ha⟩,by rw[ae,ae,DM];rfl,λi d hd=> ?_⟩ _ _ λuZ CF v3=> ?_)
   ·rcases Nat.lt_or_ge i l.length with hi|hi
    ·rw[bH hi]at hd
     have:=sx.l i d hd
     refine⟨?_,by rw[bH (by rw[DM];exact hi)];exact this.2⟩
     have keep:∀a c,F a=some c->(F.upd D (.ns x xs[j])) a=some c:=λa c ea=>(St.bu _ _ λq=>by rw[q,hF]at ea;cases ea).trans ea
     cases d with
     |c a k'=>exact⟨this.1.1,keep _ _ this.1.2⟩
     |n a y' p'=>exact keep _ _ this.1
     |_=>exact this.1
    ·rw[bS hi]at hd
     obtain⟨t,ht⟩:∃t,i-l.length=t:=⟨_,rfl⟩
     rw[ht]at hd
     cases t with
     |succ t=>cases hd
     |zero=>
      cases hd
      refine⟨St.bz _ _ _,?_⟩
      rw[bS (by rw[DM];exact hi),DM,ht];rfl
   ·obtain⟨BR,r3,X2⟩:=v3.s.r
    refine⟨r3.le _ _ (St.bz _ _ _),uZ,o1.take os1.length,λi hi=>(v3.a i (by rw[dZ];exact hi)).trans (ag i hi),?_,?_,ys1,by rw[aC];exact e,r⟩
    all_goals have MM:os1.length<=o1.length:=by rw[<-dZ];exact v3.n
    all_goals have Pu:(o1.take os1.length).length=os1.length:=by rw[cg];exact cY MM
    ·refine⟨⟨BR,(r3.O4 hF).less λi o ei=> ?_,λi hi=>X2 i (au (by rwa[Pu]at hi) MM)⟩,DM,λi d hd=> ?_⟩
     ·have:=(aj.mp ei).1
      rw[Pu]at this
      rwa[fc this]at ei
     ·have h0:=sx.l i d hd
      have h1:=h0.1.step v3.a v3.n
      rw[Pu]
      exact⟨Ba (av.mp kG _ (aD hd)) h1.1,by rw[h1.2];exact h0.2⟩
    ·exact Pu
 ·rintro zs τ kk ⟨iC,bN,ag,sx,dZ,Qd,e,L⟩ BV
  rw[List.drop_length]at L
  cases L with
  |nil=>
   rw[bV]at e;subst e
   have w:=sx.alloc (o:= .list zs) (c:= .list zs) BV (λ_=>rfl) (λ_=>rfl) λq hq=>av.mp uP q hq
   rw[dZ]at w
   have:=q _ _ ⟨(v.a.trans v.n (Agree.trans (ai _) ag (w.a.less (aZ dZ.symm)))),w.s,w.ok,aa v.n (by rw[<-dZ];exact w.n)⟩
   rwa[show EV.at (λi=>if i=os1.length then kk else iC i) (.o os1.length)=.loc kk from congrArg PV.loc (if_pos rfl)]at this
end
section
variable{C:Ctx}{fr:Fm}{ρ:b9}{σ:St}{X:Prop}{Y Z:Zf}{s:Shared}
theorem uW.M8{A:Around}{SQ:Value}{e:Value}{x:Addr}{a0:Value}{Q:Unit->Shared->Prop}{E:Value->Shared->Prop}(h:uW C fr Y ρ e s x)(hn:s.heap.TracedAtW C.B x (.ref C.lf) a0 SQ)
 (hQ:∀s',uW C fr Y ρ e s' x->s'.heap.TracedAtW C.B x (.ref C.lf) a0 .none->Q () s'):wpAny C.M A (setFlight e none) Q E s:=by
 obtain rfl:=h.is
 obtain⟨oe,vs,T,oT,ts,he,E2,hd,h1,PH,PI,hT,JK,h3⟩:=hn
 have hsz:3<ts.size:=(f0.mp h3).1
 unfold setFlight
 refine wpAny_bind (wpAny_field he hd h1 ?_)
 rw[if_pos (show(Value.ref T !=Value.none)=true from by simp)]
 refine wpAny_setField hT JK hsz ?_
 have iU:∀b,b≠T->(s.heap.update T (Obj.mapFields (·.setIfInBounds 3 Value.none))).get? b=s.heap.get? b:=λb hb=>Heap.get?_update_other _ _ (Ne.symm hb)
 have keep:=ud hT JK iU
 have tr:(s.heap.update T (Obj.mapFields (·.setIfInBounds 3 Value.none))).TracedAtW C.B x (.ref C.lf) a0 .none:=
  ⟨oe,vs,T,_,_,(iU x (Ne.symm PI)).trans he,E2,hd,h1,PH,PI,eN _ hT (Obj.isFreed_of_fields (iq JK _)),iq JK _,by simp[hsz]⟩
 exact hQ _ (h.turn (λb o e=>(iU b λq=>by rw[q,PH]at e;cases e).trans (h.base b o e)) (h.bh.of_keeps λb o hb Nj=>⟨o,keep b o hb Nj,rfl⟩) (.inr (.inl ⟨a0,tr⟩)) λb o hb Nj=>⟨o.slots,keep b o hb Nj⟩) tr
theorem IT(G:dr C)(F:aI C fr)(Tp:ir fr){Fi:Fn}(hE:y5 C Fi){nm:Str}{np hp:Pos}{IU:Stmt}{BE:List Stmt}{Q:Flow->Shared->Prop}{E:Value->Shared->Prop}{e:Value}{x:Addr}
 (hk:fr.env.kindOf nm=some .globalImplicit) (hm:C.mg nm=some (.ref C.lf)) (h:uW C fr Y ρ e s x)
 (k:∀s' E',uW C fr Y ρ e s' x->wpAny C.M (fr.A.mark (some e)) (execs (IU::BE) fr.env) Q E' s') (hd:(nm==("__debug__":Str))=false:=by decide):
 wpAny C.M fr.A (noteFrame e fr.env) (λ_ cV=>wpAny C.M fr.A (setFlight e none) (λ_ iE=>wpAny C.M fr.A (handleBy e fr.env [.ExceptHandler (some (.Name nm np)) none (IU::BE) hp]) Q E iE) E cV) E s:=by
 obtain@⟨n,q,NN,bs,bm,hdct,sn,sub,ab,col,dd,k0,k1,k2,k3,k5,mN,oI,hC,hn,hi,hT,Pd,L5,r5⟩:=hE
 refine h.note F Tp λbF fM ⟨a0,YM⟩=>fM.M8 YM λcV gt SR=> ?_
 have hx:=h.is
 subst hx
 refine wpAny_handleBy_cons (codeAny_handlers_test ?_) (by intro q;cases q)
 refine Name_function_global F.kind hk (loadGlobal_global (G.gY.keeps gt.base) hm ?_) hd
 obtain⟨oe,vs,T,oT,ts,he,⟨E2,_⟩,_⟩:=id SR
 obtain⟨hh,g,d,tk,os⟩:=cV
 refine wpAny_excMatches_sub_self (gt.base _ _ hC) he E2 r5 (codeAny_handlers_suite ?_)
 exact gt.M8 SR λiE iS aaf=>k iE _ iS
end
noncomputable def LB(C:Ctx):Flow->Shared->Prop:=λfl s'=>fl=.ret (.bool true)/\C.B.StaysIn s'.heap/\s'.gens=C.gens/\s'.os=C.os
noncomputable def IV(C:Ctx)(fr:Fm)(kH:List Stmt)(ρ:b9)(σ:St):Prop:=∀Z s,Ok C fr (λ_=>none) Z ρ σ s->wpAny C.M fr.A (execs kH fr.env) (LB C) (λ_ _=>False) s
section
variable{C:Ctx}{fr:Fm}{ρ:b9}{σ:St}
theorem IW{Z Z':Zf}{v:Value}{s':Shared}{ρ':b9}{σ':St}{pv:PV}(ok:Ok C fr (λ_=>none) Z' ρ' σ' s')(r:gg Z' pv v)(h:pv=.bool true):LB C (.ret v) s':=by
 subst h;rw[n8 r];exact⟨rfl,ok.base,ok.rest.1,ok.rest.2⟩
theorem xk{st:Stmt}{kH:List Stmt}(h:WS C fr st ρ σ (λρ' σ'=>IV C fr kH ρ' σ') (λv _=>v=.bool true) (λ_ _ _=>False) (λ_=>False)):IV C fr (st::kH) ρ σ:=λZ s ok=>
 wpAny_execs_cons (wpAny_mono (h _ Z s ok) (λf bF x=>by
  cases f with
  |next=>obtain⟨ρ',σ',Z',k,f6,q⟩:=x;exact q Z' bF f6
  |brk=>obtain⟨_,_,_,_,_,q⟩:=x;exact q.elim
  |cont=>obtain⟨_,_,_,_,_,q⟩:=x;exact q.elim
  |ret v=>obtain⟨pv,_,_,Z',_,f6,r,q⟩:=x;exact IW (Z:=Z) f6 r q) λ_ _ ⟨_,q,_⟩=>q)
theorem LD(G:dr C)(F:aI C fr)(Tp:ir fr){Fi:Fn}(hE:y5 C Fi){body rest:List Stmt}{nm:Str}{np hp pos:Pos}{IU:Stmt}{BE:List Stmt}{Xb:b9->Prop}
 (hk:fr.env.kindOf nm=some .globalImplicit) (hm:C.mg nm=some (.ref C.lf))
 (hb:iu C fr body ρ σ (λρ' σ'=>IV C fr rest ρ' σ') (λ_ _=>False) (λ_ _ _=>False) Xb)
 (hX:∀ρ' s x e E,Xb ρ'->uW C fr (λ_=>none) ρ' e s x->wpAny C.M (fr.A.mark (some e)) (execs (IU::BE) fr.env) (LB C) E s) (hd:(nm==("__debug__":Str))=false:=by decide):
 IV C fr (.Try body [.ExceptHandler (some (.Name nm np)) none (IU::BE) hp] [] [] pos::rest) ρ σ:=λZ s ok=>by
 refine wpAny_execs_cons (wpAny_Try_except (wpAny_mono (hb _ Z s ok) (λf bF x=> ?_) λe bF ⟨ρ',hx,y,hy⟩=> ?_))
 ·cases f with
  |next=>obtain⟨ρ',σ',Z',k,f6,q⟩:=x;exact wpAny_execs_nil (q Z' bF f6)
  |brk=>obtain⟨_,_,_,_,_,q⟩:=x;exact q.elim
  |cont=>obtain⟨_,_,_,_,_,q⟩:=x;exact q.elim
  |ret v=>obtain⟨_,_,_,_,_,_,_,q⟩:=x;exact q.elim
 ·exact IT G F Tp hE hk hm hy (λs' E' h'=>wpAny_mono (hX ρ' s' y e E' hx h') (λf cV l=>by
   obtain⟨rfl,l2⟩:=l;exact⟨rfl,l2⟩) λ_ _ z=>z) hd
theorem FV{ρ':b9}{s:Shared}{x:Addr}{e:Value}{E:Value->Shared->Prop}{k:Nat}{p p':Pos}(h:uW C fr (λ_=>none) ρ' e s x):wpAny C.M (fr.A.mark (some e)) (execs [.Return (some (.Constant (.bool true) k p)) p'] fr.env) (LB C) E s:=
 wpAny_execs_cons (wpAny_Return_some λ_ _ _=>⟨rfl,h.base,h.rest.1,h.rest.2⟩)
end
section
open PySem.NumText PySem.W.KIN
theorem xl(a b:List Nat):Txt.startswith (mk (a++b)) (mk a)=true:=by
 unfold Txt.startswith
 rw[PySem.StrLaws.subAt_eq,d8,d8,show(mk (a++b)).cps.toList=a++b from c8 _,show(mk a).cps.toList=a from c8 _]
 simp
theorem Dm(B:ar)(n:Nat)(i:ew):Txt.startswith (mk (sQ B ((n:Nat):Int) i)++Str.ofString " ") (Str.ofString (toString ((n:Nat):Int))++Str.ofString " "++i.nm++Str.ofString " ")=true:=by
 have e1:Str.ofString (toString ((n:Nat):Int))=mk (dg n):=za n
 have e2:Str.ofString " "=mk [32]:=by rw[<-fE (Str.ofString " "),mJ]
 have e3:i.nm=mk (L i.nm):=(fE _).symm
 rw[e1,e2,lM,lM,e3,lM,lM]
 unfold sQ
 rw[fx]
 cases q:fU B (L i.ks) i.os with
 |nil=>
  rw[cI]
  have:=xl (dg n++[32]++L i.nm++[32]) []
  simpa using this
 |cons w r=>
  rw[cI]
  have:=xl (dg n++[32]++L i.nm++[32]) (cI [32] (w::r)++[32])
  simpa using this
theorem IY{n:Nat}(o:dA):Flat (n+2) o.pv:=by
 cases o with
 |CA x i=>exact .tup λy hy=>(ak.mp hy).elim (λe=>e▸.str x) λhy=>(am.mp hy)▸.int _
 |con k i=>exact .tup λy hy=>(ak.mp hy).elim (λe=>e▸.int _) λhy=>(am.mp hy)▸.int _
 |num i=>exact .int i
 |dY kvs=>exact .dY _
 |tabI kvs=>exact .tabI _
theorem FW{is:List ew}:∀x∈is.map ew.pv,Flat 20 x:=λx hx=>(bj.mp hx).elim λi e=>e.2▸.tup λy hy=>(ak.mp hy).elim (λe=>e▸.str _) λhy=>(bj.mp hy).elim λo e=>e.2▸IY o
theorem rH{B:ar}:∀{ks:List Nat} {os:List dA},os.length=ks.length->(∀(j k:Nat) (o:dA),ks[j]?=some k->os[j]?=some o->jM B k o)->jJ ks os/\jA ks os=true
 |[],[],_,_=>⟨trivial,rfl⟩
 |[],_::_,h,_=>by simp at h
 |_::_,[],h,_=>by simp at h
 |k::ks,o::os,h,h3=>by
  have h1:=h3 0 k o rfl rfl
  have h2:=rH (ks:=ks) (os:=os) (by simpa using h) λj k' o' a b=>h3 (j+1) k' o' (by simpa using a) (by simpa using b)
  exact⟨⟨h1.2.1,h2.1⟩,by simp only[jA,h1.2.2,h2.2,Bool.and_self]⟩
theorem ew.Ok.mono{B B':ar}(h:B.le B'){i:ew}(k:i.Ok B):i.Ok B':=⟨k.look,k.len,k.le,k.Tz,k.fits,k.ok,λj k' o a b=>(k.Pk j k' o a b).mono h⟩
theorem fW.Te{os:List Ob}{ps:Nat->Pl}{σ F:St}(r:fW os ps σ F){c:Addr}{x y:dx}(h:F c=some x):fW os ps (σ.upd c y) (F.upd c y):=r.side λk o e ha=>by rw[r.fr k o e c ha]at h;cases h
section
variable{C:Ctx}{fr:Fm}{l l1:Lo}{os os1 os2:List Ob}{T:Tr}
theorem To.pack{k n:Nat}{o:Ob}(h:To T l os (some (.o k)) os1)(hk:os1[k]?=some o)(hn:n<=k)(hl:os.length<=n)(kG:A9 os.length l=true):To T l os (some (.o n)) (os1.take n++[o]):=
 .mk λas ρ σ F s Q X q=>h.go as ρ σ F s Q X λdJ σ' v=>by
  have tm:=(aj.mp hk).1
  have dZ:(os1.take n++[o]).length=n+1:=by rw[ae,cg,cY (aa hn (a9 tm))];rfl
  obtain⟨ps,rr,ha⟩:=v.s.r
  have ag:Agree os.length as λj=>if j=n then dJ k else dJ j:=λj hj=>(if_neg (bX (au hj hl))).trans (v.a j hj)
  have HC:os.length<=(os1.take n++[o]).length:=by rw[dZ];exact bv hl
  have:=q (λj=>if j=n then dJ k else dJ j) σ' ⟨ag,⟨⟨_,rr.pick hk hn,λj hj=> ?_⟩,s.len,λi d hd=> ?_⟩,by show n<_;rw[dZ];exact cf n,HC⟩
  ·rwa[show EV.at (λj=>if j=n then dJ k else dJ j) (.o n)=.loc (dJ k)from congrArg PV.loc (if_pos rfl)]at this
  ·by_cases e:j=n
   ·show(if j=n then ps k else ps j).a=(if j=n then dJ k else dJ j)
    rw[if_pos e,if_pos e];exact ha k tm
   ·show(if j=n then ps k else ps j).a=(if j=n then dJ k else dJ j)
    rw[if_neg e,if_neg e];rw[dZ]at hj;exact ha j (au (Nat.lt_of_le_of_ne (d9 hj) e) (aa hn (a9 tm)))
  ·have h0:=s.l i d hd
   have st:=h0.1.step ag HC
   exact⟨st.1,by rw[st.2];exact h0.2⟩
structure et(C:Ctx)(fr:Fm)(kH:List Stmt)(l:Lo)(os:List Ob)(cs:List Addr):Prop where
 go:∀as ρ σ F,Sx l os as ρ σ F->(∀c∈cs,F c=some (.var none))->IV C fr kH ρ σ
theorem IV.same{ρ ρ':b9}{σ:St}{kH:List Stmt}(h:BD fr ρ ρ')(x:IV C fr kH ρ' σ):IV C fr kH ρ σ:=λZ s ok=>
 x Z s ⟨ok.base,ok.keep,ok.vals,ok.yl,ok.zl,ok.bl,let⟨m,a,b⟩:=ok.loc;⟨m,a,b.same h⟩,ok.jq,ok.own,ok.bh,ok.rest,ok.zn,ok.fz⟩
theorem et.cell(F0:aI C fr){kH:List Stmt}{x:Str}{e:Expr}{p p':Pos}{c:Addr}{cs:List Addr}{k:Nat}(hk:fr.env.kindOf x=some .cell)(hl:fr.cl.lookup x=some c)(hc:c∉cs)(hn:Nat.ble fr.names.length l.length=true)
 (hs:∀env,swapsWith e (some (.Name x p')) p.line env=Pure.pure false) (h:To (tE C fr e) l os (some (.o k)) os1) (r:et C fr kH (l++[some (.c c k)]) os1 cs):et C fr (.Assign [.Name x p'] e p::kH) l os (c::cs):= .mk λas ρ σ F s hF=>by
 have Jq:=hF c (.head _)
 refine xk (vQ F0 hk hl (h.go as ρ σ F s _ _ λcK cZ v=>⟨⟨_,v.s.r.choose_spec.1.le _ _ Jq⟩,?_⟩) (hs:=hs))
 have DM:ρ.length=l.length:=s.len
 refine IV.same (ρ':=ρ++[some (.loc (cK k))]) (λi hi=>bH (by rw[DM];exact au hi (bE hn))) ?_
 obtain⟨ps,rr,ha⟩:=v.s.r
 refine r.go cK _ _ (F.upd c (.var (some (.loc (cK k))))) ⟨⟨ps,rr.Te Jq,ha⟩,by rw[ae,ae,DM];rfl,λi d hd=> ?_⟩ λc' h'=> ?_
 ·rcases Nat.lt_or_ge i l.length with hi|hi
  ·rw[bH hi]at hd
   have:=v.s.l i d hd
   refine⟨?_,by rw[bH (by rw[DM];exact hi)];exact this.2⟩
   cases d with
   |c a k'=>exact⟨this.1.1,(St.bu _ _ λq=>by have h1:=this.1.2;rw[q,Jq]at h1;cases h1).trans this.1.2⟩
   |n a y' p'=>exact(St.bu _ _ λq=>by have h1:F a=some (.ns y' p'):=this.1;rw[q,Jq]at h1;cases h1).trans this.1
   |v _=>exact this.1
   |o _=>exact this.1
   |t _=>exact this.1
  ·rw[bS hi]at hd
   obtain⟨t,ht⟩:∃t,i-l.length=t:=⟨_,rfl⟩
   rw[ht]at hd
   cases t with
   |succ t=>cases hd
   |zero=>
    cases hd
    refine⟨⟨v.ok,St.bz _ _ _⟩,?_⟩
    rw[bS (by rw[DM];exact hi),DM,ht];rfl
 ·rw[St.bu _ _ λq=>hc (by rw[<-q];exact h')];exact hF c' (.tail _ h')
theorem et.step{st:Stmt}{kH:List Stmt}(h:Runs (WS C fr st) os.length l os (.norm l1 os1))(r:et C fr kH l1 os1 []):et C fr (st::kH) l os []:= .mk λas ρ σ F s _=>
 xk (h.go as ρ σ F (ai _) s (λρ' σ'=>IV C fr kH ρ' σ') _ _ _ λcK Yc cZ x=>r.go cK Yc cZ F x.s (λ_ h=>nomatch h))
theorem et.ret{st:Stmt}{kH:List Stmt}(h:Runs (WS C fr st) os.length l os (.ret (.v (.bool true)) os1)):et C fr (st::kH) l os []:= .mk λas ρ σ F s _=>
 xk (h.go as ρ σ F (ai _) s _ (λv _=>v=.bool true) _ _ λcK cZ x=>rfl)
end
end
section
variable{C:Ctx}{fr:Fm}{l:Lo}{os:List Ob}{K:Frag}{bL bM:ClassData}
theorem To.LU(P:PO C K bL bM)(F0:aI C fr)(hk:fr.env.kindOf "Symbols"=some .globalImplicit)(hl:3<fr.lvl){np pos:Pos}(hv:os.all Ob.live=true):To (tE C fr (.Call (.Name "Symbols" np) [] [] pos)) l os (some (.o os.length)) (os++[.book di]):= .mk λas ρ σ F s Q X q=>by
 refine NJ P.G F0 P.oH P.hX P.Zz P.DS P.DT P.Qu (lv:=2) hk P.yn hl rfl λx d Uv Qb ND=> ?_
 refine wu P (by decide) (St.bz _ _ _) (by rw[St.bu _ _ ND.symm,St.bz]) λa hax had eP GV Hp Pj BF=>⟨rfl,?_⟩
 subst hax;subst had
 obtain⟨ps,r,ha⟩:=s.r
 have uX:∀b,((σ.upd a.d (.ca [])).upd a.x (.inst 155 a.d)) b=none->σ b=none/\b≠a.x/\b≠a.d:=λb e=>by
  by_cases q1:b=a.x
  ·rw[q1,St.bz]at e;cases e
  ·rw[St.bu _ _ q1]at e
   by_cases q2:b=a.d
   ·rw[q2,St.bz]at e;cases e
   ·rw[St.bu _ _ q2]at e;exact⟨e,q1,q2⟩
 obtain⟨l0,l1,l2⟩:=uX _ eP
 obtain⟨m0,m1,m2⟩:=uX _ GV
 obtain⟨n0,n1,n2⟩:=uX _ Hp
 obtain⟨k0,k1,k2⟩:=uX _ Pj
 have t1:=eA BF.ht BF.ha nofun
 have t2:=eA BF.ht BF.hn nofun
 have t3:=eA BF.ha BF.hf nofun
 have t4:=eA BF.ha BF.hn nofun
 have t5:=eA BF.hf BF.hn nofun
 let p:Pl:=⟨a.x,λ|0=>a.d|1=>a.lt|2=>a.da|3=>a.lf|_=>a.df⟩
 have w:=r.Jd (o:= .book di) (p:=p) (σ':=cS (((σ.upd a.d (.ca [])).upd a.x (.inst 155 a.d)).upd a.d (.ca (iV a))) a di) (λc hc=>by
  change c∈[(a.x,dx.inst 155 a.d),(a.d,.ca (iV a)),(a.lt,.list (di.texts.map .str)),(a.da,.ca (sL di.texts)),(a.lf,.list (di.bh.map kK)),(a.df,.hY (rD di.bh))]at hc
  simp only[ak,aP,or_false]at hc
  rcases hc with rfl|rfl|rfl|rfl|rfl|rfl
  ·exact BF.hx
  ·exact BF.hd
  ·exact BF.ht
  ·exact BF.ha
  ·exact BF.hf
  ·exact BF.hn) (λb hb=>by
  change b∉[a.x,a.d,a.lt,a.da,a.lf,a.df]at hb
  simp only[ak,not_or]at hb
  rw[dL _ _ hb.2.2.1 hb.2.2.2.1 hb.2.2.2.2.1 hb.2.2.2.2.2.1,St.bu _ _ hb.2.1,St.bu _ _ hb.1,St.bu _ _ hb.2.1]) (λb hb=>by
  change b∈[a.x,a.d,a.lt,a.da,a.lf,a.df]at hb
  simp only[ak,aP,or_false]at hb
  rcases hb with rfl|rfl|rfl|rfl|rfl|rfl<;>assumption) (by
  show[a.x,a.d,a.lt,a.da,a.lf,a.df].Nodup
  simp only[cW,ak,aP,or_false,not_or,not_false_eq_true,cX,and_true]
  exact⟨⟨ND,l1.symm,m1.symm,n1.symm,k1.symm⟩,⟨l2.symm,m2.symm,n2.symm,k2.symm⟩,⟨t1,BF.ne1,t2⟩,⟨t3,t4⟩,t5⟩) λq hq=>av.mp hv q hq
 have hn:(os++[Ob.book di]).length=os.length+1:=by rw[ae];rfl
 have ag:Agree os.length as λk=>if k=os.length then a.x else as k:=λk hk=>if_neg (bX hk)
 have qr:=q (λk=>if k=os.length then a.x else as k) _ ⟨ag,⟨⟨_,w,λk hk=> ?_⟩,s.len,λi e he=> ?_⟩,by show os.length<_;rw[hn];exact cf _,by rw[hn];exact b7 _⟩
 ·rwa[show EV.at (λk=>if k=os.length then a.x else as k) (.o os.length)=.loc a.x from congrArg PV.loc (if_pos rfl)]at qr
 ·by_cases e:k=os.length
  ·show(if k=os.length then p else ps k).a=(if k=os.length then a.x else as k)
   rw[if_pos e,if_pos e]
  ·show(if k=os.length then p else ps k).a=(if k=os.length then a.x else as k)
   rw[if_neg e,if_neg e];rw[hn]at hk;exact ha k (Nat.lt_of_le_of_ne (d9 hk) e)
 ·have h0:=s.l i e he
  have st:=h0.1.step ag (by rw[hn];exact b7 _:os.length<=(os++[Ob.book di]).length)
  exact⟨st.1,by rw[st.2];exact h0.2⟩
theorem YN(P:PO C K bL bM)(F0:aI C fr){j k:Nat}{xs:List PV}(hj:os[j]?=some (.list xs))(hk:os[k]?=some (.list xs))(hp:∀x∈xs,Flat 20 x):To (t2 C fr (compareOp .Eq) (.o j) (.o k)) l os (sv (.bool true)) os:=
 To.S8 hj (λ_=>rfl) hk (λ_=>rfl) λas ρ σ Q X h1 h2 q=>NM P.G F0 h1 h2 hp q
theorem IZ{os1:List Ob}{x y:Str}(h:Txt.startswith x y=true):fJ C fr "startswith" (.v (.str x)) os1 [.v (.str y)] l os (sv (.bool true)) os:=mR xz rfl (To.pure λ_ _ _ _ _ q=>xx (h▸q))
end
noncomputable def c9:List Stmt:=bP (aY 54)
noncomputable abbrev pP:List Str:=["script","instrs","kinds","step","parts","ins","base","rows","place","way"]
noncomputable abbrev I0(c0 c1 c2 c3:Addr):List (Str×Addr):=[("wholes",c3),("names",c2),("book",c1),("pool",c0)]
noncomputable abbrev xm(L:Addr)(c0 c1 c2 c3:Addr):Env:={scope:=bo (aY 54),locals:=L,globals:=mainGlobals,cells:=I0 c0 c1 c2 c3,qual:=("law":Str)++".<locals>.",func:=some 459,code:= .ref 458,frame:=some L,builtins:=builtinsNs}
noncomputable abbrev fu(L:Addr)(A:Around)(lv:Nat)(c0 c1 c2 c3:Addr):Fm:=⟨("law":Str)++".<locals>.",bo (aY 54),some 459,.ref 458,pP,L,[],A,lv,I0 c0 c1 c2 c3,some L,[xm L c0 c1 c2 c3],L,pP,[]⟩
theorem Dn{L:Addr}{A:Around}{lv:Nat}{c0 c1 c2 c3:Addr}:ir (fu L A lv c0 c1 c2 c3):=⟨rfl,rfl⟩
noncomputable section
noncomputable def SS(e:Expr):Expr:=sel e e (bin:=λ_ _ r _=>r)
noncomputable def th(e:Expr):Expr:=sel e e (lc:=λx _ _ _=>x)
noncomputable def t7(e:Expr):Scope:=sel (bo (aY 54)) e (lc:=λ_ _ s _=>s)
noncomputable def ti(e:Expr):Expr:=sel e e (lc:=λ_ gs _ _=>List.rec e (λg _ _=>g.iter) gs)
noncomputable def uR:Expr:=SS (asV (iZ c9 6) 1)
end
noncomputable abbrev lW(sc a b c:Option EV)(c0 c1 c2 c3:Addr):Lo:=[sc,some (.o 4),some (.o 5),a,b,c,none,none,none,none,some (.c c0 0),some (.c c1 1),some (.c c2 2),some (.c c3 3)]
noncomputable abbrev oP(fs:List Nat)(q m:Nat)(B:ar)(bb:List Int)(is:List ew)(nm:Str)(ks:List Nat)(YO:Ob):List Ob:=[.dM fs q m,.book B,.list (ds.map .str),.list (bb.map .int),.list (is.map ew.pv),.list (gj.map .str),.list (aJ (L nm::ks.map λk=>[k])),.list [.str nm],YO]
noncomputable abbrev oL(fs:List Nat)(q m:Nat)(B:ar)(bb:List Int)(is:List ew):List Ob:=[.dM fs q m,.book B,.list (ds.map .str),.list (bb.map .int),.list (is.map ew.pv),.list (gj.map .str)]
noncomputable abbrev oQ(fs:List Nat)(q m:Nat)(B:ar)(bb:List Int)(is:List ew)(nm:Str)(ks:List Nat):List Ob:=[.dM fs q m,.book B,.list (ds.map .str),.list (bb.map .int),.list (is.map ew.pv),.list (gj.map .str),.list (aJ (L nm::ks.map λk=>[k]))]
noncomputable abbrev oR(fs:List Nat)(q m:Nat)(B:ar)(bb:List Int)(is:List ew)(nm:Str)(ks:List Nat):List Ob:=[.dM fs q m,.book B,.list (ds.map .str),.list (bb.map .int),.list (is.map ew.pv),.list (gj.map .str),.list (aJ (L nm::ks.map λk=>[k])),.list [.str nm]]
noncomputable abbrev oV(fs:List Nat)(q m:Nat)(B:ar)(bb:List Int)(is:List ew)(nm:Str)(ks:List Nat)(fg:List dA):List Ob:=[.dM fs q m,.book B,.list (ds.map .str),.list (bb.map .int),.list (is.map ew.pv),.list (gj.map .str),.list (aJ (L nm::ks.map λk=>[k])),.list [.str nm],.gone,.list (fg.map dA.pv)]
noncomputable abbrev oW(fs:List Nat)(q m:Nat)(B:ar)(bb:List Int)(is:List ew)(nm:Str)(ks:List Nat)(fg:List dA):List Ob:=[.dM fs q m,.book B,.list (ds.map .str),.list (bb.map .int),.list (is.map ew.pv),.list (gj.map .str),.list (aJ (L nm::ks.map λk=>[k])),.list [.str nm],.gone,.list (fg.map dA.pv),.list (.str nm::fg.map dA.pv)]
section
variable{C:Ctx}{K:Frag}{bL bM:ClassData}{L':Addr}{A:Around}{lv:Nat}{c0 c1 c2 c3:Addr}{fs:List Nat}{bb:List Int}{sp:PV}
noncomputable abbrev YQ(c0 c1 c2 c3:Addr):List (Str×Addr):=[("wholes",c3),("pool",c0),("names",c2),("book",c1)]
theorem LF(P:PO C K bL bM)(F:aI C (fu L' A lv c0 c1 c2 c3))(hl:10<=lv)(W:F9 fs ds bb){is:List ew}{nm:Str}{ks0:List Nat}{a b c:Option EV}{G:Prop}(ks:List Nat):
 ∀(B:ar) (q m n:Nat),(∀k∈ks,k∈gU)->jo B n->n+4*ks.length<=800000->
 (∀(fg:List dA) (B':ar) (q' m':Nat),fg.length=ks.length->(∀(i k:Nat) (o:dA),ks[i]?=some k->fg[i]?=some o->jM B' k o)->Gr ds (4*ks.length) B B'->
  uQ C (fu L' A lv c0 c1 c2 c3) (t7 uR) (YQ c0 c1 c2 c3) "kind" (th uR) 9 (lW (sv sp) a b c c0 c1 c2 c3) (aJ (ks.map λk=>[k])) (oP fs q m B bb is nm ks0 .gone) (fg.map dA.pv) (oP fs q' m' B' bb is nm ks0 .gone)->G)->G:=by
 induction ks with
 |nil=>exactλB q m n _ _ _ k=>k [] B q m rfl (λ_ _ _ h=>(nomatch h)) .refl .nil
 |cons k ks ih=>
  intro B q m n hk z hz kk
  have hz:n+4+4*ks.length<=800000:=aa (aZ ((bW n 4 _).trans (congrArg (n+·) (bR 4 _)))) hz
  refine xL (pos:=q) (mix:=m) P (lv:=3) (ai _) (hk k (.head _)) W (z.mono (aa (ay n 4) (aa (ay _ _) hz))) λo B1 q1 m1 g ok cc=>ih B1 q1 m1 (n+4) (λx hx=>hk x (.tail _ hx)) (z.gr g) hz λfg B' q' m' g1 g2 g3 g6=> ?_
  refine kk (o::fg) B' q' m' (congrArg (·+1) g1) (λi=>Nat.casesOn i (λk' o' e1 e2=>ax e1▸ax e2▸ok.mono g3.le.le) λi=>g2 i) ((g.trans g3).mono (aZ (bR 4 _))) (.next (os1:=oP fs q1 m1 B1 bb is nm ks0 .gone) rfl (λD Fc=> ?_) g6)
  apply mi Fc (th uR) (lW (sv sp) a b c c0 c1 c2 c3++[some (.n D "kind" (.str (mk [k])))]) (oP fs q m B bb is nm ks0 .gone) [.u (some (.o 0)),.u (some (.o 1)),.u (some (.o 2)),.u (some (.o 3)),.u (sv (.str (mk [k]))),rv o.pv (oP fs q1 m1 B1 bb is nm ks0 .gone)]
   (λ_=>To.cell Fc (i:=10) rfl rfl rfl rfl) (λ_=>To.cell Fc (i:=11) rfl rfl rfl rfl) (λ_=>To.cell Fc (i:=12) rfl rfl rfl rfl) (λ_=>To.cell Fc (i:=13) rfl rfl rfl rfl) (λ_=>To.nsn Fc (i:=14) rfl rfl rfl)
   (cH P.G Fc P.xQ rfl (show 3<lv from au (by decide) hl) [0,1,2,3] cc rfl rfl rfl rfl rfl)
theorem FX(P:PO C K bL bM)(F:aI C (fu L' A lv c0 c1 c2 c3)){is:List ew}{nm:Str}{ks:List Nat}(OB:ks.length<=4){a:PV}{B B':ar}{q m q' m':Nat}{fg:List dA}
 (h:uQ C (fu L' A lv c0 c1 c2 c3) (t7 uR) (YQ c0 c1 c2 c3) "kind" (th uR) 9 (lW (sv sp) (sv a) (some (.o 6)) none c0 c1 c2 c3) (aJ (ks.map λk=>[k])) (oP fs q m B bb is nm ks .gone) (fg.map dA.pv) (oP fs q' m' B' bb is nm ks .gone)):
 To (tE C (fu L' A lv c0 c1 c2 c3) uR) (lW (sv sp) (sv a) (some (.o 6)) none c0 c1 c2 c3) (oR fs q m B bb is nm ks) (some (.o 9)) (oV fs q' m' B' bb is nm ks fg):=by
 have z:(aJ (L nm::ks.map λk=>[k])).length<=sizeLine:=aX 10 (by rw[af,aw,af];exact ah OB (by decide)) rfl
 have hi:To (tE C (fu L' A lv c0 c1 c2 c3) (ti uR)) (lW (sv sp) (sv a) (some (.o 6)) none c0 c1 c2 c3) (oR fs q m B bb is nm ks) (some (.o 8)) (oP fs q m B bb is nm ks (.list (aJ (ks.map λk=>[k])))):=by
  apply mi F (ti uR) (lW (sv sp) (sv a) (some (.o 6)) none c0 c1 c2 c3) (oR fs q m B bb is nm ks) [.c (some (.o 8)) (oP fs q m B bb is nm ks (.list (aJ (ks.map λk=>[k]))))]
   (Ps (k:=6) rfl (IC _ _) z rfl)
 apply To.comp F (x:="kind") (cl:=YQ c0 c1 c2 c3) rfl (by with_unfolding_all decide) rfl (by with_unfolding_all decide+kernel) rfl (λ_=>rfl) hi (k:=8) rfl (aX 10 (by rw[af,af];exact aa OB (by decide)) rfl) rfl rfl h rfl
structure SU(j:Nat)(is:List ew)(B:ar):Prop where
 len:is.length=j
 ok:∀i∈is,i.Ok B
 le:di.Jw ds B
 z:jo B (100+16*j)
theorem I1(P:PO C K bL bM)(F:aI C (fu L' A lv c0 c1 c2 c3))(hl:10<=lv)(W:F9 fs ds bb){G:Prop}(n:Nat):∀(j:Nat) (is:List ew) (B:ar) (q m:Nat),SU j is B->j+n<=100->
 (∀(T4:List ew) (B':ar) (q' m':Nat),SU (j+n) T4 B'->Loop C (fu L' A lv c0 c1 c2 c3) (iZ c9 6) [3,4,5] 6 3 ((List.range' j n).map λi=> .int (i:Nat)) (lW (sv sp) none none none c0 c1 c2 c3) (oL fs q m B bb is) (.norm (lW (sv sp) none none none c0 c1 c2 c3) (oL fs q' m' B' bb T4))->G)->G:=by
 induction n with
 |zero=>exactλj is B q m h _ k=>k is B q m h .nil
 |succ n ih=>
  intro j is B q m h h2 kk
  have uP:=bn hl (by decide:0<10)
  have k45:gj.length=45:=rfl
  have hj:16*j<=16*100:=jx 16 (aa (ay j _) h2)
  refine eG P W.f q m gj.length (by rw[k45];decide) λr q1 m1 hr pk=> ?_
  obtain⟨nm,ks,YR,M3,EE⟩:=A6 (cL hr)
  obtain⟨OB,OY,YS⟩:=mL _ (md M3)
  have I2:(L ks).length<=4:=OB
  refine LF (sp:=sp) P F hl W (is:=is) (nm:=nm) (ks0:=L ks) (a:=sv (.int (j:Nat))) (b:=some (.o 6)) (c:=none) (L ks) B q1 m1 (100+16*j) YS h.z (aa (bB (aR hj 100) (jx 4 I2)) (by decide)) λfg B' q' m' g1 g2 g g6=> ?_
  have YT:ew.Ok B' ⟨nm,ks,fg⟩:=⟨M3,g1,I2,OY,(rH g1 g2).1,(rH g1 g2).2,λi k o a b=>(g2 i k o a b).1⟩
  refine ih (j+1) (is++[⟨nm,ks,fg⟩]) B' q' m' ⟨by rw[ae,h.len];rfl,λi hi=>(bC.mp hi).elim (λq=>(h.ok i q).mono g.le.le) λq=>by rw[am.mp q];exact YT,h.le.trans g.le,(h.z.gr g).mono (aR (jx 4 I2) (100+16*j))⟩ (bI j 1 n▸h2)
   λT4 B2 q2 m2 e6 lp=>kk T4 B2 q2 m2 (bI j 1 n▸e6) ?_
  have cp:=FX P F (a:= .int (j:Nat)) (B:=B) (B':=B') I2 g6
  have ol:(fg.map dA.pv).length<=4:=by rw[af,g1];exact I2
  have ea:is.map ew.pv++[.tup (.str nm::fg.map dA.pv)]=(is++[(⟨nm,ks,fg⟩:ew)]).map ew.pv:=(aQ (l₂:=[(⟨nm,ks,fg⟩:ew)]) ..).symm
  apply .next true (cw (m:=6) F (iZ c9 6) (lW (sv sp) (sv (.int (j:Nat))) none none c0 c1 c2 c3) (oL fs q m B bb is) [.u (some (.o 0)),ru (.int gj.length),rv (.int r) (oL fs q1 m1 B bb is),ru (.str gj[r]),.c (some (.o 6)) (oQ fs q1 m1 B bb is nm (L ks)),
   ru (.str nm),.x (some (.o 9)) (oV fs q' m' B' bb is nm (L ks) fg),.c (some (.o 10)) (oW fs q' m' B' bb is nm (L ks) fg),ru (.tup (.str nm::fg.map dA.pv)),rv .none (oW fs q' m' B' bb (is++[ew.mk nm ks fg]) nm (L ks) fg)]
   (λ_=>To.cell F (i:=10) rfl rfl rfl rfl) (cx P F rfl rfl (af _) (by rw[k45];decide)) (xt P F rfl uP pk) (yN rfl (aa hr (by decide)) (by rw[bc,aB hr];rfl)) (m_split rfl (aa EE (by decide)) YR)
   (yN (k:=6) (i:=0) rfl (by decide) (congrArg (λx=>some (PV.str x)) (fE nm))) cp (t6 (j:=7) (k:=9) rfl rfl rfl (aX 10 (aa (aR ol 1) (by decide)) rfl) rfl)
   (EL P F rfl (k:=10) rfl (aX 10 (aa (a6 ol) (by decide)) rfl)) (d6 rfl rfl (aX 200 (by rw[af,h.len];exact aa (aa (ay j _) h2) (by decide)) rfl) ea)) rfl lp
end
section
variable{C:Ctx}{K:Frag}{bL bM:ClassData}{fr:Fm}{l:Lo}{os:List Ob}
theorem et.Zd(P:PO C K bL bM)(F0:aI C fr)(Tp:ir fr){body rest:List Stmt}{np hp pos p p':Pos}{k:Nat}(hk:fr.env.kindOf "LinkFault"=some .globalImplicit)(hb:Runs (iu C fr body) os.length l os .exc):
 et C fr (.Try body [.ExceptHandler (some (.Name "LinkFault" np)) none [.Return (some (.Constant (.bool true) k p)) p'] hp] [] [] pos::rest) l os []:= .mk λas ρ σ F s _=>
 LD P.G F0 Tp P.exc (Xb:=λ_=>True) hk P.pf (hb.go as ρ σ F (ai _) s (λρ' σ'=>IV C fr rest ρ' σ') (λ_ _=>False) (λ_ _ _=>False) _ λ_=>trivial) λρ' s x e E _ hx=>FV hx
end
noncomputable def qq(i:Nat):Stmt:=(c9[i]?).getD (.Pass ⟨0,0,0,0⟩)
noncomputable abbrev lX(sp:PV)(b r w:Option EV)(c0 c1 c2 c3:Addr):Lo:=[sv sp,some (.o 4),some (.o 5),none,none,none,b,r,none,w,some (.c c0 0),some (.c c1 1),some (.c c2 2),some (.c c3 3)]
noncomputable abbrev oM(fs:List Nat)(q m:Nat)(B:ar)(bb:List Int)(is:List ew)(b:Nat):List Ob:=[.dM fs q m,.book B,.list (ds.map .str),.list (bb.map .int),.list (is.map ew.pv),.list (gj.map .str),lh,.list (aJ (cQ B ((b:Nat):Int) is))]
section
variable{C:Ctx}{K:Frag}{bL bM:ClassData}{L':Addr}{A:Around}{lv:Nat}{c0 c1 c2 c3:Addr}{fs:List Nat}{bb:List Int}{sp:PV}{B:ar}{is:List ew}{q m b:Nat}
theorem LG(P:PO C K bL bM)(F:aI C (fu L' A lv c0 c1 c2 c3))(hn:is.length<=100)(hb:b<700)(kG:∀i∈is,i.Ok B)(hR:dX B)(n:Nat):∀j,j+n=is.length->
 Loop C (fu L' A lv c0 c1 c2 c3) (iZ c9 10) [8] 8 8 ((List.range' j n).map λi=> .int (i:Nat)) (lX sp (sv (.int b)) (some (.o 7)) none c0 c1 c2 c3) (oM fs q m B bb is b) (.norm (lX sp (sv (.int b)) (some (.o 7)) none c0 c1 c2 c3) (oM fs q m B bb is b)):=by
 induction n with
 |zero=>exactλj h=> .nil
 |succ n ih=>
  intro j h
  have hj:j<is.length:=dq (cy (ce n)) h
  obtain⟨i,hi⟩:∃i,is[j]?=some i:=⟨is[j],aB hj⟩
  have nN:(cQ B ((b:Nat):Int) is)[j]?=some (sQ B ((b+j:Nat):Int) i):=by
   unfold cQ;rw[bc,List.getElem?_zipIdx,hi];simp
  have te:=(CS hR kG (b:=b) (b4 (rM hb hn) (by decide)) _ (aD nN)).1
  have B7:=(kG i (aD hi)).Tz
  have kI:=Dm B (b+j) i
  have en:((b:Int)+(j:Int))=((b+j:Nat):Int):=(p7 b j).symm
  have hbj:b+j<800:=rM hb (aa (a9 hj) hn)
  have hj9:j<2^63:=au hj (aa hn (by decide))
  have Px:(Str.ofString " ").length=1:=by rw[<-gA,mJ];rfl
  have lg:((b:Int)+(j:Int)).natAbs.log2<1920:=i8 (m:=b+j) (b4 hbj (by decide))
  rw[<-en]at kI
  generalize hS:Str.ofString (toString ((b:Int)+(j:Int)))=S at kI
  have SV:S.length<=10:=by rw[<-hS,en];exact vf (k:=9) (b4 hbj (by decide))
  have pl:=λ(l:Lo) {x y:Str} (n1 n2:Nat) (h1:x.length<=n1) (h2:y.length<=n2) (h:Nat.ble (n1+n2) 16777216=true)=>hO (C:=C) (fr:=fu L' A lv c0 c1 c2 c3) (l:=l) (os:=oM fs q m B bb is b) (x:=x) (y:=y) (aX (n1+n2) (bB h1 h2) h)
  have l2:(S++Str.ofString " ").length<=11:=by rw[ie,Px];exact a6 SV
  have l3:(S++Str.ofString " "++i.nm).length<=111:=by rw[ie];exact bB l2 B7
  apply .next true (cw (m:=8) F (iZ c9 10) ((lX sp (sv (.int b)) (some (.o 7)) none c0 c1 c2 c3).set 8 (sv (.int j))) (oM fs q m B bb is b) [ru (.str (mk (sQ B ((b+j:Nat):Int) i))),ru (.str (mk (sQ B ((b+j:Nat):Int) i)++Str.ofString " ")),ru (.str S),ru (.str (S++Str.ofString " ")),ru i.pv,ru (.str i.nm),ru (.str (S++Str.ofString " "++i.nm)),ru (.str (S++Str.ofString " "++i.nm++Str.ofString " ")),ru (.bool true),ff]
   (yN (k:=7) rfl hj9 (by rw[bc,nN];rfl)) (pl _ 1000000 1 (by rw[d8];exact te) (aZ Px) rfl) (hS▸Bm P F rfl lg) (pl _ 10 1 SV (aZ Px) rfl) (yN (k:=4) rfl hj9 (by rw[bc,hi];rfl))
   (BU (xs:= .str i.nm::i.os.map dA.pv) (i:=0) (by decide) (by decide) rfl) (pl _ 11 100 l2 B7 rfl) (pl _ 111 1 l3 (aZ Px) rfl) (IZ kI) rfl) rfl (ih (j+1) ((bI j 1 n).trans h))
end
noncomputable def SW(s:Stmt):List Stmt:=match s with|.Try b _ _ _ _=>b|_=>[]
noncomputable abbrev oN(fs:List Nat)(q m:Nat)(B:ar)(bb:List Int)(is:List ew)(b:Nat):List Ob:=[.dM fs q m,.book B,.list (ds.map .str),.list (bb.map .int),.list (is.map ew.pv),.list (gj.map .str),lh,.list (aJ (cQ B ((b:Nat):Int) is)),lh,.list (is.map ew.pv)]
section
variable{C:Ctx}{K:Frag}{bL bM:ClassData}{L':Addr}{A:Around}{lv:Nat}{c0 c1 c2 c3:Addr}{fs:List Nat}{bb:List Int}{sp:PV}{B:ar}{is:List ew}{q m:Nat}
noncomputable abbrev SX(sp:PV)(b way c0 c1 c2 c3:Nat):Lo:=lX sp (sv (.int b)) (some (.o 7)) (sv (.int (way:Nat))) c0 c1 c2 c3
theorem et.at_{fr:Fm}{l l1:Lo}{os os1:List Ob}(i:Nat)(h:Runs (WS C fr (qq i)) os.length l os (.norm l1 os1))(r:et C fr (c9.drop (i+1)) l1 os1 [])(e:c9.drop i=qq i::c9.drop (i+1):=by rfl'):et C fr (c9.drop i) l os []:=e▸et.step h r
theorem I3(P:PO C K bL bM)(F:aI C (fu L' A lv c0 c1 c2 c3))(hl:10<=lv)(hf:fs.length<=1000)(hn0:0<is.length)(hn:is.length<=100)(kG:∀i∈is,i.Ok B)(hB:B.Ok)(hR:dX B)(hz:B.texts.length<=100000)(lE:B.bh.length<=100000):
 et C (fu L' A lv c0 c1 c2 c3) (c9.drop 7) (lX sp none none none c0 c1 c2 c3) (oL fs q m B bb is) []:=by
 have uP:=bn hl (by decide:0<10)
 have h8:8<lv:=a9 hl
 refine eG P hf q m 700 (by decide) λb q1 m1 hb pk=>eG P hf q1 m1 10 (by decide) λway q2 m2 aag Jv=> ?_
 have Py:b+is.length<100000:=au (rM hb hn) (by decide)
 have MV:(cQ B ((b:Nat):Int) is).length=is.length:=Fz ..
 have SY:is.length<2^63:=ah hn (by decide)
 have ls:=FP P (lv:=7) (ai _) (B:=B) (is:=is) (b:=(b:Nat)) (aa hn (by decide)) kG λk hk=>(p7 b k▸eK (n:=b+k) (b4 (b4 (fD hk b) Py) (by decide)):dG ((b:Int)+(k:Nat)))
 have lr:=λ(l:Lo)=>cx (l:=l) (os:=oM fs q1 m1 B bb is b) P F rfl (k:=7) rfl ((af _).trans MV) SY
 have li:=λ(l:Lo)=>cx (l:=l) (os:=oM fs q1 m1 B bb is b) P F rfl (k:=4) rfl (af _) SY
 have w:=pJ F Dn (os:=oM fs q1 m1 B bb is b) (n:=is.length) (l:=lX sp (sv (.int b)) (some (.o 7)) none c0 c1 c2 c3) (ks:=[8]) (x:="place") (i:=8) (ah hn (by decide)) (by ac_rfl) rfl (LG P F hn hb kG hR is.length 0 (cU _))
 have rd:=pN (B:=B) P (lv:=8) (ai _) (rows:=cQ B ((b:Nat):Int) is) (MV▸hn) hz lE (HJ hR kG Py)
 rw[Fy hB hR b kG (b4 Py (by decide))]at rd
 have eqq:=λ(l:Lo)=>YN (fr:=fu L' A lv c0 c1 c2 c3) (l:=l) (os:=oN fs q2 m2 B bb is b) P F (j:=9) (k:=4) rfl rfl FW
 have rdc:=λ(l:Lo)=>cH (l:=l) (os:=oM fs q2 m2 B bb is b) P.G F P.pY rfl h8 [1,7] (os4:=oN fs q2 m2 B bb is b) (out':=some (.o 9)) (cs':=[.o 1,.o 7]) rd rfl rfl rfl rfl rfl
 refine et.at_ 7 (l1:=lX sp (sv (.int b)) none none c0 c1 c2 c3) (os1:=oL fs q1 m1 B bb is) (by
  apply dB F (qq 7) (lX sp none none none c0 c1 c2 c3) (oL fs q m B bb is) [.u (some (.o 0)),rv (.int b) (oL fs q1 m1 B bb is)] (λ_=>To.cell F (i:=10) rfl rfl rfl rfl) (xt P F rfl uP pk)) ?_
 refine et.at_ 8 (l1:=lX sp (sv (.int b)) (some (.o 7)) none c0 c1 c2 c3) (os1:=oM fs q1 m1 B bb is b) (by
  apply dB F (qq 8) (lX sp (sv (.int b)) none none c0 c1 c2 c3) (oL fs q1 m1 B bb is) [.u (some (.o 1)),.c (some (.o 7)) (oM fs q1 m1 B bb is b)] (λ_=>To.cell F (i:=11) rfl rfl rfl rfl) (cH P.G F P.F2 rfl (show 7<lv from b4 (by decide) h8) [1,4] ls rfl rfl rfl rfl rfl)) ?_
 refine et.at_ 9 (l1:=lX sp (sv (.int b)) (some (.o 7)) none c0 c1 c2 c3) (os1:=oM fs q1 m1 B bb is b) (by
  apply dB F (qq 9) (lX sp (sv (.int b)) (some (.o 7)) none c0 c1 c2 c3) (oM fs q1 m1 B bb is b) [ru (.int is.length),ru (.int is.length),ff] (lr _) (li _) (nt (decide_eq_true rfl))) ?_
 refine et.at_ 10 (l1:=lX sp (sv (.int b)) (some (.o 7)) none c0 c1 c2 c3) (os1:=oM fs q1 m1 B bb is b) (by
  apply dB F (qq 10) (lX sp (sv (.int b)) (some (.o 7)) none c0 c1 c2 c3) (oM fs q1 m1 B bb is b) [ru (.int is.length),ru (.xS 0 is.length 1),.o (.norm (lX sp (sv (.int b)) (some (.o 7)) none c0 c1 c2 c3) (oM fs q1 m1 B bb is b))] (lr _) (gW P F rfl) w) ?_
 refine et.at_ 11 (l1:=SX sp b way c0 c1 c2 c3) (os1:=oM fs q2 m2 B bb is b) (by
  apply dB F (qq 11) (lX sp (sv (.int b)) (some (.o 7)) none c0 c1 c2 c3) (oM fs q1 m1 B bb is b) [.u (some (.o 0)),rv (.int way) (oM fs q2 m2 B bb is b)] (λ_=>To.cell F (i:=10) rfl rfl rfl rfl) (xt P F rfl uP Jv)) ?_
 rw[show c9.drop 12=qq 12::c9.drop 13 by rfl']
 have st:=λ(p:Pa)=>dB (m:=8) F (qq 12) (SX sp b way c0 c1 c2 c3) (oM fs q2 m2 B bb is b) p
 by_cases h0:way=0
 ·exact et.ret (os1:=oN fs q2 m2 B bb is b) (by
   apply st [tt,tt,.u (some (.o 1)),.c (some (.o 9)) (oN fs q2 m2 B bb is b),ru (.bool true)] (yI h0) rfl (λ_=>To.cell F (i:=11) rfl rfl rfl rfl) (rdc _) (eqq _))
 by_cases h5:5<way
 ·exact et.ret (os1:=oN fs q2 m2 B bb is b) (by
   apply st [ff,tt,tt,.u (some (.o 1)),.c (some (.o 9)) (oN fs q2 m2 B bb is b),ru (.bool true)] (qZ h0) (decide_eq_true (bG.mpr h5)) rfl (λ_=>To.cell F (i:=11) rfl rfl rfl rfl) (rdc _) (eqq _))
 refine et.step (l1:=SX sp b way c0 c1 c2 c3) (os1:=oM fs q2 m2 B bb is b) (by
  apply st [ff,ff,ff] (qZ h0) (decide_eq_false λe=>h5 (bG.mp e)) rfl) ?_
 rw[show c9.drop 13=qq 13::c9.drop 14 by rfl']
 refine xM P (lv:=1) (ai _) (fs:=fs) (pos:=q2) (mix:=m2) (rows:=cQ B ((b:Nat):Int) is) (way:=way) hf (MV▸hn0) (MV▸hn) (Nat.pos_of_ne_zero h0) (cu h5) (CS hR kG Py) λkp q3 m3 F8 sl=> ?_
 have rd2:=pN (B:=B) P (lv:=8) (ai _) (rows:=kp) (F8.len.trans MV▸hn) hz lE (xG hR kG Py F8)
 rw[A3 hB hR kG Py F8]at rd2
 have hb2:Runs (iu C (fu L' A lv c0 c1 c2 c3) (SW (qq 13))) 8 (SX sp b way c0 c1 c2 c3) (oM fs q2 m2 B bb is b) .exc:=by
  apply cw (m:=8) F (SW (qq 13)) (SX sp b way c0 c1 c2 c3) (oM fs q2 m2 B bb is b) [.u (some (.o 1)),.u (some (.o 0)),.c (some (.o 8)) (oM fs q3 m3 B bb is b++[.list (aJ kp)]),.c none (oM fs q3 m3 B bb is b++[.list (aJ kp),lh,.list []])]
   (λ_=>To.cell F (i:=11) rfl rfl rfl rfl) (λ_=>To.cell F (i:=10) rfl rfl rfl rfl) (cH P.G F P.xR rfl (show 1<lv from b4 (by decide) h8) [0,7] sl rfl rfl rfl rfl rfl) (cH P.G F P.pY rfl h8 [1,8] rd2 rfl rfl rfl rfl rfl)
 apply et.Zd P F Dn rfl hb2
end
noncomputable def I4(s:Stmt):Expr:=s9 (.Name ⟨#[]⟩ ⟨0,0,0,0⟩) s (asg:=λ_ e _=>e)
noncomputable def yQ:Expr:=SS (I4 (qq 3))
theorem FY{v:Int}:dG (v%10^60):=by
 have h1:v%10^60<10^60:=Int.emod_lt_of_pos _ (by decide)
 have h0:0<=v%10^60:=Int.emod_nonneg _ (by decide)
 unfold dG
 have:=Cy (k:=7) (v%10^60).natAbs (by
  have:(10:Nat)^(18*(7+1))>10^60:=by decide
  omega)
 exact this
theorem OZ(xs:List Int):dy (xs.map PV.int) none (some 4)=(xs.take 4).map PV.int:=xg 4 xs
noncomputable abbrev l0(sp:PV):Lo:=[sv sp,none,none,none,none,none,none,none,none,none]
noncomputable abbrev M4(sp:PV)(c0 c1 c2:Addr):Lo:=[sv sp,none,none,none,none,none,none,none,none,none,some (.c c0 0),some (.c c1 1),some (.c c2 2)]
noncomputable abbrev Pz(sp:PV)(i k:Option EV)(c0 c1 c2 c3:Addr):Lo:=[sv sp,i,k,none,none,none,none,none,none,none,some (.c c0 0),some (.c c1 1),some (.c c2 2),some (.c c3 3)]
noncomputable abbrev oA(fs:List Nat)(m:Nat):List Ob:=[.dM fs 0 m,.book di,.list (ds.map .str)]
noncomputable abbrev oZ(fs:List Nat)(m:Nat)(x:Ob):List Ob:=[.dM fs 0 m,.book di,.list (ds.map .str),.list [.int 0,.int 7],x]
noncomputable abbrev oD(fs:List Nat)(m:Nat)(vs:List Int):List Ob:=[.dM fs 0 m,.book di,.list (ds.map .str),.list [.int 0,.int 7],.gone,.list (vs.map .int)]
section
variable{C:Ctx}{K:Frag}{bL bM:ClassData}{L':Addr}{A:Around}{lv:Nat}{c0 c1 c2 c3:Addr}{fs:List Nat}{m:Nat}{sp:PV}
variable{G:Prop}
theorem LH(P:PO C K bL bM)(F:aI C (fu L' A lv c0 c1 c2 c3))(xs:List Int):(∀vs:List Int,vs.length=xs.length->(∀v∈vs,dG v)->
 uQ C (fu L' A lv c0 c1 c2 c3) (t7 yQ) [] "cell" (th yQ) 5 (M4 sp c0 c1 c2) (xs.map .int) (oZ fs m .gone) (vs.map .int) (oZ fs m .gone)->G)->G:=by
 induction xs with
 |nil=>exactλk=>k [] rfl (λ_ h=>(nomatch h)) .nil
 |cons x xs ih=>
  have hr:(x.natAbs:Int)%10^60=((x.natAbs%10^60:Nat):Int):=rfl
  exactλk=>ih λvs h1 h2 h3=>k ((x.natAbs:Int)%10^60::vs) (congrArg (·+1) h1) (λv hv=>(ak.mp hv).elim (λe=>e▸FY) (h2 v)) (.next (os1:=oZ fs m .gone) rfl (λD Fc=>by
   have ab:=λ(l:Lo) (os:List Ob)=>vg x▸Ev (l:=l) (os:=os) P Fc rfl (a:=x)
   rw[hr]
   apply mi Fc (th yQ) (M4 sp c0 c1 c2++[some (.n D "cell" (.int x))]) (oZ fs m .gone) [.u (sv (.int x)),ru (.int x),ru (.int x.natAbs),ru (.int (10^60:Nat)),ru (.int (x.natAbs%10^60:Nat))]
    (λ_=>To.nsn Fc (i:=13) rfl rfl rfl) (Di P Fc rfl) (ab _ _) (Sd (n:=60) (by decide)) (Lw (b:=((10^60:Nat):Int)) (by decide) hr)) h3)
theorem FZ(P:PO C K bL bM)(F:aI C (fu L' A lv c0 c1 c2 c3)){xs:List Int}(hs:∀τ,vH C τ sp (xs.map .int))(hx:xs.length<=100)
 (k:∀vs:List Int,vs.length<=4->(∀v∈vs,dG v)->To (tE C (fu L' A lv c0 c1 c2 c3) yQ) (M4 sp c0 c1 c2) [.dM fs 0 m,.book di,.list (ds.map .str),.list [.int 0,.int 7]] (some (.o 5)) (oD fs m vs)->G):G:=
 have l4:(xs.take 4).length<=4:=cg▸Nat.min_le_left _ _
 LH (sp:=sp) (fs:=fs) (m:=m) P F (xs.take 4) λvs h1 h2 h3=>k vs (h1▸l4) h2 (by
 have hi:To (tE C (fu L' A lv c0 c1 c2 c3) (ti yQ)) (M4 sp c0 c1 c2) [.dM fs 0 m,.book di,.list (ds.map .str),.list [.int 0,.int 7]] (some (.o 4)) (oZ fs m (.list ((xs.take 4).map .int))):=by
  apply mi F (ti yQ) (M4 sp c0 c1 c2) [.dM fs 0 m,.book di,.list (ds.map .str),.list [.int 0,.int 7]] [.c (some (.o 4)) (oZ fs m (.list ((xs.take 4).map .int)))]
   (slV (lo:=none) (hi:=some 4) hs (OZ xs) (aX 100 (by rw[af];exact hx) rfl) rfl)
 apply To.comp F (x:="cell") (cl:=[]) rfl (by with_unfolding_all decide) rfl (by with_unfolding_all decide+kernel) rfl (λ_=>rfl) hi (k:=4) rfl (aX 4 (by rw[af];exact l4) rfl) rfl rfl h3 rfl)
end
noncomputable def T5(s:Stmt):Pos:=s9 ⟨0,0,0,0⟩ s (asg:=λts _ _=>List.rec ⟨0,0,0,0⟩ (λt _ _=>sel ⟨0,0,0,0⟩ t (nm:=λ_ p=>p)) ts)
noncomputable def T7(s:Stmt):Pos:=s9 ⟨0,0,0,0⟩ s (asg:=λ_ _ p=>p)
noncomputable abbrev oE(fs:List Nat)(m:Nat)(vs:List Int):List Ob:=[.dM fs 0 m,.book di,.list (ds.map .str),.list (((0:Int)::7::vs).map .int)]
section
variable{C:Ctx}{K:Frag}{bL bM:ClassData}{L':Addr}{A:Around}{lv:Nat}{c0 c1 c2 c3:Addr}{sp:PV}
theorem LJ(P:PO C K bL bM)(F:aI C (fu L' A lv c0 c1 c2 c3))(hl:10<=lv){fs:List Nat}{m:Nat}(hf:fs.length<=1000){vs:List Int}(hv:vs.length<=4)(PS:∀v∈vs,dG v):
 et C (fu L' A lv c0 c1 c2 c3) (c9.drop 4) (Pz sp none none c0 c1 c2 c3) (oE fs m vs) []:=by
 have uP:=bn hl (by decide:0<10)
 have W:F9 fs ds (0::7::vs):=⟨hf,by decide,by decide,aa (a6 (a6 hv)) (by decide),ce _,λt ht=>(A7 t ht).2,λv h=>(ak.mp h).elim (λe=>e▸eK (n:=0) (by decide)) λh=>(ak.mp h).elim (λe=>e▸eK (n:=7) (by decide)) (PS v)⟩
 refine et.at_ 4 (l1:=Pz sp (some (.o 4)) none c0 c1 c2 c3) (os1:=oE fs m vs++[.list []]) (by
  apply dB F (qq 4) (Pz sp none none c0 c1 c2 c3) (oE fs m vs) []) ?_
 refine et.at_ 5 (l1:=Pz sp (some (.o 4)) (some (.o 5)) c0 c1 c2 c3) (os1:=oL fs 0 m di (0::7::vs) []) (by
  apply dB F (qq 5) (Pz sp (some (.o 4)) none c0 c1 c2 c3) (oE fs m vs++[.list []]) [.c (some (.o 5)) (oL fs 0 m di (0::7::vs) [])]
   (cH P.G F P.BN rfl uP [] (BB P) rfl rfl rfl rfl rfl)) ?_
 refine eG P hf 0 m 10 (by decide) λr q m1 hr pk=> ?_
 have LK:0+(1+r)<=10:=aa (aZ (cU _)) (bR 1 r▸hr)
 refine I1 (sp:=sp) P F hl W (1+r) 0 [] di q m1 ⟨rfl,(λ_ h=>nomatch h),ar.BI _ _,yF.1,yF.2⟩ (aa LK (by decide)) λis B q2 m2 h lp=> ?_
 have w:=pJ F Dn (os:=oL fs q m1 di (0::7::vs) []) (n:=1+r) (l:=lW (sv sp) none none none c0 c1 c2 c3) (ks:=[3,4,5]) (x:="step") (i:=3) (ah (cU (1+r)▸LK) (by decide)) (by ac_rfl) rfl lp
 have hz:=h.z.mono (aa (aR (jx 16 LK) 100) (by decide:_<=100000))
 refine et.at_ 6 (l1:=lX sp none none none c0 c1 c2 c3) (os1:=oL fs q2 m2 B (0::7::vs) is) (by
  apply dB F (qq 6) (Pz sp (some (.o 4)) (some (.o 5)) c0 c1 c2 c3) (oL fs 0 m di (0::7::vs) []) [.u (some (.o 0)),rv (.int r) (oL fs q m1 di (0::7::vs) []),ru (.xS 0 ((1:Int)+(r:Nat)) 1),.o (.norm (lX sp none none none c0 c1 c2 c3) (oL fs q2 m2 B (0::7::vs) is))]
   (λ_=>To.cell F (i:=10) rfl rfl rfl rfl) (xt P F rfl uP pk) (gW P F rfl) w) ?_
 have hl0:is.length=1+r:=h.len.trans (cU _)
 exact I3 P F hl hf (hl0▸bR 1 r▸ce r) (h.len▸aa LK (by decide)) h.ok (h.le.ok HO) (FD h.le) hz.t hz.f
end
noncomputable def O0(e:Expr):Expr:=sel e e (bin:=λa _ _ _=>a)
noncomputable abbrev l1c(sp:PV)(c0:Addr):Lo:=[sv sp,none,none,none,none,none,none,none,none,none,some (.c c0 0)]
noncomputable abbrev l2c(sp:PV)(c0 c1:Addr):Lo:=[sv sp,none,none,none,none,none,none,none,none,none,some (.c c0 0),some (.c c1 1)]
section
variable{C:Ctx}{K:Frag}{bL bM:ClassData}{L':Addr}{A:Around}{lv:Nat}{c0 c1 c2 c3:Addr}{sp:PV}
theorem LL(P:PO C K bL bM)(F:aI C (fu L' A lv c0 c1 c2 c3))(hl:10<=lv){xs:List Int}(hs:∀τ,vH C τ sp (xs.map .int))(hx:xs.length<=100)(hc:[c0,c1,c2,c3].Nodup):
 et C (fu L' A lv c0 c1 c2 c3) c9 (l0 sp) [] [c0,c1,c2,c3]:=by
 have uP:=bn hl (by decide:0<10)
 simp only[cW,ak,aP,or_false,not_or,not_false_eq_true,cX,and_true]at hc
 obtain⟨⟨n01,n02,n03⟩,⟨Zx,n13⟩,Zw⟩:=hc
 refine Dj (C:=C) (lv:=9) (a:=sp) P hs hx λfs m hf lp=>FZ (c3:=c3) (fs:=fs) (m:=m) P F hs hx λvs hv PS cp=> ?_
 have lp':=lp.pack (k:=2) (n:=0) rfl (by decide) (ai _)
 rw[show c9=.Assign [.Name "pool" (T5 (qq 0))] (I4 (qq 0)) (T7 (qq 0))::c9.drop 1 by rfl']
 refine et.cell (os1:=[.dM fs 0 m]) F rfl rfl (by simp[*]) rfl (λ_=>rfl) (by
  apply mi F (I4 (qq 0)) (l0 sp) [] [.c (some (.o 0)) [.dM fs 0 m]] (cH P.G F P.Ds rfl (show 9<lv by exact hl) [] lp' rfl rfl rfl rfl rfl)) ?_
 rw[show c9.drop 1=.Assign [.Name "book" (T5 (qq 1))] (I4 (qq 1)) (T7 (qq 1))::c9.drop 2 by rfl']
 refine et.cell (os1:=[.dM fs 0 m,.book di]) F rfl rfl (by simp[*]) rfl (λ_=>rfl) (by
  apply To.LU (l:=l1c sp c0) (os:=[.dM fs 0 m]) P F rfl (by show 3<lv;exact au (by decide) hl) rfl) ?_
 rw[show c9.drop 2=.Assign [.Name "names" (T5 (qq 2))] (I4 (qq 2)) (T7 (qq 2))::c9.drop 3 by rfl']
 refine et.cell (os1:=oA fs m) F rfl rfl (by simp[*]) rfl (λ_=>rfl) (by
  apply mi F (I4 (qq 2)) (l2c sp c0 c1) [.dM fs 0 m,.book di] [rv (.str (mk [8364])) [.dM fs 0 m,.book di]] (ML P F rfl (by decide))) ?_
 rw[show c9.drop 3=.Assign [.Name "wholes" (T5 (qq 3))] (I4 (qq 3)) (T7 (qq 3))::c9.drop 4 by rfl']
 have hw:To (tE C (fu L' A lv c0 c1 c2 c3) (I4 (qq 3))) (M4 sp c0 c1 c2) (oA fs m) (some (.o 6)) (oD fs m vs++[.list (((0:Int)::7::vs).map .int)]):=by
  have d:=λ(e:Expr) (h:e=O0 (I4 (qq 3)))=>h▸(by
   apply mi F (O0 (I4 (qq 3))) (M4 sp c0 c1 c2) (oA fs m) []:To (tE C (fu L' A lv c0 c1 c2 c3) (O0 (I4 (qq 3)))) (M4 sp c0 c1 c2) (oA fs m) (some (.o 3)) [.dM fs 0 m,.book di,.list (ds.map .str),.list [.int 0,.int 7]])
  apply To.bin (d _ rfl) cp (t6 (j:=3) (k:=5) rfl rfl rfl (aX 6 (by show 2+(vs.map _).length<=6;rw[af];exact aR hv _) rfl) rfl)
 exact et.cell (os1:=oE fs m vs) F rfl rfl (by simp[*]) rfl (λ_=>rfl) (hw.pack (k:=6) (n:=3) rfl (by decide) (ai 3) rfl) (LJ P F hl hf hv PS)
end
theorem yR{Z:Zf}{P:Params}{h:Heap}:∀{xs:List Int} {vs:List Value},WellAll P h vs (ofPys (xs.map PyData.int))->cO Z (xs.map PV.int) vs
 |[],vs,x=>by
  rw[fK,ofPys]at x
  cases x;exact rfl
 |i::xs,vs,x=>by
  rw[bp,ofPys,ofPy]at x
  cases x with
  |cons x y=>
   cases x
   exact⟨_,_,rfl,cC i _,yR y⟩
theorem zP{α:Type}{p:Prop}{k:Nat}{o:α}(h:([]:List α)[k]?=some o):p:=absurd h (by rw[List.getElem?_nil];exact(aT _).symm)
theorem M5{α:Type}{x:α}(i:Nat):[none,none,none,none,none,none,none,none,none][i]?≠some (some x):=λh=>by
 have:=aD h
 simp at this
theorem I5{w:World}{bF:Shared}{mg mb:Str->Option Value}{sz:Nat}{l:Addr}{xs:List Int}{vs:List Value}{fM:Heap}{tk:Nat}{cells:List (Addr×Obj)}{m:Str->Option Value}(hC:∀b o,(H1 w.params).get? b=some o->bF.heap.get? b=some o)
 (g:bF.heap.Ns mainGlobals mg) (b:bF.heap.Ns builtinsNs mb) (nl:bF.heap.NoLimit) (bi:∀x:Str,x≠"__name__"->mb x=bootBuiltins x) (hl:bF.heap.get? l=some {cls:= .type "list",data:= .seq vs.toArray})
 (hr:∀Z,cO Z (xs.map .int) vs) (hx:xs.length<=100) (F:Fr bF.heap sz fM m) (hm:m "script"=some (.ref l)) (N:News bF.heap sz fM cells)
 {cm:Str->Option Value} (T8:cm "pool"=none/\cm "book"=none/\cm "names"=none/\cm "wholes"=none) (X:CellsAre cm (I0 (sz+1) (sz+2) (sz+3) (sz+4)) cells):
 wpAny (model eh w) (callerA.deeper (xm sz (sz+1) (sz+2) (sz+3) (sz+4))) (execs c9 (xm sz (sz+1) (sz+2) (sz+3) (sz+4))) (λfl s'=>fl=.ret (.bool true)/\(∀b o,bF.heap.get? b=some o->s'.heap.get? b=some o)/\s'.gens=bF.gens/\s'.os=bF.os) (λ_ _=>False) {bF with heap:=fM,toks:=tk}:=by
 let C:Mine.Ctx:=⟨eh,w,bF.heap,mg,mb,52,bF.gens,bF.os⟩
 have CO:dr C:=⟨g,b,nl,⟨_,hC _ _ (ki rfl rfl rfl)⟩⟩
 have P:=po (C:=C) (P:=w.params) hC CO bi rfl
 have F0:aI C (fu sz (callerA.deeper (xm sz (sz+1) (sz+2) (sz+3) (sz+4))) 20 (sz+1) (sz+2) (sz+3) (sz+4)):=
  ⟨rfl,rfl,⟨_,rfl,nofun,rfl⟩,rfl,⟨of_decide_eq_true rfl,of_decide_eq_true rfl⟩,(by decide:pP.Nodup),.inr ⟨rfl,rfl⟩,(by decide+kernel:∀x∈pP,(bo (aY 54)).names.lookup x=some .local),(by decide:∀x∈pP,(x==("__debug__":Str))=false)⟩
 obtain⟨o4,o3,o2,o1,rfl,e4,e3,e2,e1⟩:=X.four
 rw[T8.1]at e1;rw[T8.2.1]at e2;rw[T8.2.2.1]at e3;rw[T8.2.2.2]at e4
 let σ:St:=λx=>if x=sz+1\/x=sz+2\/x=sz+3\/x=sz+4 then some (.var none)else none
 have BY:∀a c,σ a=some c->c=.var none/\∃o,fM.get? a=some o/\o.data=.cell none/\a≠sz/\bF.heap.get? a=none:=λa c e=>by
  have n1:=N (sz+1,o1) (by simp)
  have n2:=N (sz+2,o2) (by simp)
  have n3:=N (sz+3,o3) (by simp)
  have n4:=N (sz+4,o4) (by simp)
  dsimp only[σ]at e
  split at e
  ·cases e
   rename_i q
   refine⟨rfl,?_⟩
   rcases q with rfl|rfl|rfl|rfl
   ·exact⟨_,n1.1,e1,n1.2⟩
   ·exact⟨_,n2.1,e2,n2.2⟩
   ·exact⟨_,n3.1,e3,n3.2⟩
   ·exact⟨_,n4.1,e4,n4.2⟩
  ·cases e
 have ok:Ok C (fu sz (callerA.deeper (xm sz (sz+1) (sz+2) (sz+3) (sz+4))) 20 (sz+1) (sz+2) (sz+3) (sz+4)) (λ_=>none) (λ_=>none) [some (.val (.ref l)),none,none,none,none,none,none,none,none,none] σ {bF with heap:=fM,toks:=tk}:=
  {base:=F.keep,keep:=λ_ _ e=>(aT _ e.symm).elim,vals:=λ_ _ e=>(aT _ e.symm).elim,yl:=rfl,zl:=rfl
   bl:=by
    show bF.heap.get? sz=none
    cases q:bF.heap.get? sz with
    |none=>rfl
    |some o=>exact absurd (dc q) (Nat.not_lt.mpr F.above)
   loc:=⟨m,F.ns,λi x pv h1 h2=>by
    cases i with
    |zero=>cases h1;cases h2;exact⟨_,hm,Dw _⟩
    |succ i=>exact absurd h2 (M5 i)⟩
   jq:=λa c e=>by obtain⟨rfl,o,h1,h2,_⟩:=BY a c e;exact⟨o,h1,h2⟩
   own:=λa c e=>by obtain⟨rfl,o,h1,h2,h3,h4⟩:=BY a c e;exact⟨h4,rfl,rfl,h3⟩
   bh:=λ_ h=>absurd h aP,rest:=⟨rfl,rfl⟩,zn:=λ_ _ e=>(aT _ e.symm).elim,fz:=λ_ h=>absurd h aP}
 have R:=LL (C:=C) (sp:= .val (.ref l)) P F0 (by decide) (λτ=> .inr ⟨l,0,vs.toArray,rfl,hl,λZ=>hr Z⟩) hx (by simp)
 refine R.go (λ_=>0) _ σ σ ⟨⟨λ_=>⟨0,λ_=>0⟩,⟨λ_ _ e=>zP e,λ_ _ e=>zP e,λ_ _ e=>zP e,λ_ _ _ _ _ e=>zP e,λ_ _ e=>e⟩,λ_ h=>absurd h (j0 _)⟩,rfl,λi e he=> ?_⟩ (λc hc=> ?_) _ _ ok
 ·cases i with
  |zero=>cases he;exact⟨trivial,rfl⟩
  |succ i=>exact absurd he (M5 i)
 ·simp only[ak,aP,or_false]at hc
  exact if_pos hc
theorem S0:WalkO xA tL (λ_ _=>True) (λw h=>∀b o,(H1 w.params).get? b=some o->h.get? b=some o) PySem.Challenge.rw_no0172_01.row.toRowW ((defOf xA "law").get (by rfl)).1 ((defOf xA "law").get (by rfl)).2 λf vs=>PySem.call f vs:=by
 intro w PL bF mg mb G hC a o pm cd doc dV kV ho hd PP hD hm S6 args vals as YU YV RO Ji hlo
 wrow_args YU YV RO Ji hlo
 rename_i xs hs _ _ _ _ _ _ l vs _ hL ra hw r0 hI _ hc _
 have Ji:∃us,bF.heap.get? l=some {cls:= .type "list",data:= .seq us.toArray}/\WellAll w.params bF.heap us (ofPys (xs.map PyData.int)):=by
  cases hw with
  |list h1 h2=>exact⟨_,h1,h2⟩
 obtain⟨us,h1,h2⟩:=Ji
 have YW:mg ("law":Str)=some (.ref 459):=(Mj G.T.g (Kk hC (a:=3) (by decide) (by rfl')) "law").trans (by rfl')
 have ha:a=459:=by
  have:=hm.symm.trans YW
  cases this;rfl
 subst ha
 have qw:=hC _ _ (ki (P:=w.params) (a:=459) (o:=Rz) (by decide) (by rfl') rfl)
 rw[qw]at ho;cases ho
 have YX:cd=.ref 458:=by
  have:=hd
  cases this;rfl
 subst YX
 have he:=Dflts.none hD rfl;subst he
 have he:=Dflts.noKw hD;subst he
 refine enter_call (call_cellsN_ret (by decide) qw (fd_plain hd) G.T.nolimit PP rfl (kinds_of (by kinds_ok)) (by decide) λfM DC cells F N0 X0=> ?_)
 exact wpAny_mono (I5 hC G.T.g G.T.b G.T.nolimit G.T.builtins h1 (λZ=>yR h2) (by exact rf [.no (.BO (.c (.n 63)) (.c (.v 0)))] (.le (.v 0) (.n 100)) [1] (Eq.refl true) hc) F rfl N0 ⟨rfl,rfl,rfl,rfl⟩ X0) (λfl s' ⟨e,hb,hg,Tt⟩=>by
  subst e
  exact⟨.inl ⟨.bool true,.bool true,[],rfl,λcls=>rfl,.bool true,postW_of (by wrow_shape) (by wtm_val) (by str_meet;first|done|w_fin),λ_=>⟨cX,λ_ h=>absurd h aP⟩⟩,.of_keep hb,Tt,.of_eq (hg.trans S6)⟩) λ_ _ h=>h
theorem aaa:PySem.Challenge.rw_no0172_01.Holds:=N5 S0
end Mine
theorem PySem.Challenge.cw_no0172_01_holds : PySem.Challenge.rw_no0172_01.Holds :=
 Mine.aaa
