import PyProof.Rows.All
import Wide.All
import OpenK.AllK
import Wide.FinOn
import Lean
import PySem.Challenge.RW_up0076_01
set_option Elab.async false
set_option linter.all false
set_option tactic.hygienic false
set_option genSizeOf false
set_option genInjectivity false
set_option genCtorIdx false
set_option backward.eqns.nonrecursive false
open PySem.Str renaming ofString→aa,ofString_eq_toList→AJ,empty→Il,mk→KQ,join→KR
open Nat renaming sub_add_cancel→ac,le_trans→ae,le_antisymm→am,le_refl→au,succ_le_succ→aK,zero_le→aL,le_total→aN,lt_of_lt_of_le→aO,exists_eq_add_of_le'→aP,zero_add→aV,lt_of_le_of_lt→bf,sub_eq_zero_of_le→br,le_add_right→bG,le_of_add_right_le→bN,le_succ_of_le→bP,le_max_right→bQ,min_eq_left→bS,le_of_succ_le_succ→bY,le_of_eq→bZ,lt_succ_self→b8,lt_of_succ_lt→cb,le_of_lt→cu,le_max_left→cG,max_eq_right→cW,le_of_succ_le→cZ,add_sub_cancel_left→c0,le_add_left→c4,min_eq_right→c6,sub_le→de,ne_of_lt→dr,le_of_not_lt→du,max_eq_left→fe,lt_of_not_le→fK,ne_of_gt→f0,min_le_left→f8,sub_pos_of_lt→gp,lt_succ_of_lt→gq,le_of_lt_succ→gr,beq→gu,le_of_add_le_add_right→gD,add_le_add_right→gE,min_le_right→gL,lt_trans→gM,add_le_add_left→hG,lt_of_le_of_ne→iA,le_succ→iD,le_of_add_left_le→jc,add_assoc→lS,add_comm→m5,sub_lt_sub_left→o5,lt_irrefl→pL,succ_lt_succ→s0,not_le_of_lt→s5,one_pos→tE,exists_eq_add_of_le→y9,eq_of_beq_eq_true→B4,sub_succ_lt_self→Cb,sub_sub→Cc,le_sub_one_of_lt→Cd,add_sub_add_left→Ce,add_le_of_le_sub→Cf,pos_of_ne_zero→ER,lt_succ_of_le→Hn,add_sub_assoc→Ho,succ_ne_zero→Io,zero_lt_one→Kx,not_lt_zero→Ky,div_lt_self→Kz,add_le_add→KS
open List renaming length_append→af,length_cons→aj,getElem?_eq_some_iff→ao,append_assoc→aq,length_map→ar,mem_singleton→aC,mem_cons→aH,all_eq_true→aJ,getElem?_append_left→aR,lookup_cons→aW,filter_cons_of_pos→bb,length_nil→bc,forall_mem_cons→bo,filter_append→bp,map_cons→bq,mem_map→bv,getElem?_set_ne→bw,append_nil→bz,filter_cons_of_neg→bB,cons_append→bC,size_toArray→bE,contains_cons→bR,getElem?_set_self→bX,getElem?_eq_getElem→b5,map_append→ca,mem_of_getElem?→ci,length_reverse→cz,mem_append→cD,getElem?_append_right→cI,length_drop→cV,reverse_append→cY,replicate→c3,getElem?_map→df,length_set→dH,extract_eq_take_drop→dM,take_append_drop→dR,mem_iff_getElem?→dS,length_take→dW,lookup→d7,map_map→eB,take_length→eG,mem_range→eQ,length_filter_le→eR,drop_eq_getElem_cons→eX,append_eq_append_iff→eZ,drop_length→fJ,append_eq_nil_iff→fV,mem_append_right→gj,reverse_reverse→gB,length→gC,mem_filter→hZ,zip_cons_cons→iw,range→iy,take_of_length_le→iQ,map→iR,mem_reverse→jd,filter_cons→je,mem_append_left→jv,map_eq_cons_iff→jw,filter_map→jK,mem_replicate→km,drop_zero→kn,mem_or_eq_of_mem_set→kS,reverse_cons→kX,not_mem_nil→l6,getElem_mem→l7,getElem?_replicate→l8,dropWhile_sublist→mU,find?_cons→m6,pairwise_reverse→nj,length_replicate→nq,eq_nil_or_concat→nu,concat_eq_append→nv,takeWhile→n5,map_id→n6,mapM_cons→n7,contains_eq_mem→n8,takeWhile_cons→oW,mergeSort_perm→oX,map_eq_nil_iff→oY,map_congr_left→oZ,length_pos_iff→o0,filterMap_cons→o3,all_cons→o6,take_succ_eq_append_getElem→qr,map_nil→qt,length_range→qw,takeWhile_append_dropWhile→qT,isEmpty_iff→sV,append_inj'→sW,any_eq_true→sX,nodup_cons→tF,nil_append→tG,forIn_cons→tH,foldl_cons→tI,drop_drop→vv,dropWhile_cons_of_neg→vw,pairwise_iff_getElem→vB,sum_cons→xn,map_take→xo,map_drop→xq,filterMap_cons_some→xr,filterMap_cons_none→xt,pairwise_mergeSort→xy,merge_perm_append→zc,filter_eq_nil_iff→zd,drop_eq_nil_of_le→zg,dropWhile_append→AK,dropLast_eq_take→AL,contains_iff_mem→AM,pairwise_append→B5,cons_merge_cons→B6,pairwise_cons→EG,mem_filterMap→EH,mem_cons_self→EI,lookup_append→EJ,findIdx?_cons→EK,reverse_perm→ES,flatMap_cons→ET,zipIdx_cons→Hp,map_reverse→Hq,take_left'→Ip,of_mem_zip→Iq,forIn_nil→KA,drop_take→KB,drop_left→KC,any_cons→KT,Sublist→M1
open PySem renaming Value→ag,Shared→ak,wpAny_bind→av,Expr→ay,wpAny_mono→aA,wpAny_pure→aG,starEach→aX,Around→bd,Scope→bD,wpAny_loadPart_at→cM,backTo→ee,Stmt→eF,callWith→e7,codeAny_mono→kU,wpAny_call→lN,foldedForSure→qV,wpAny_of_eq→Hs
open False renaming elim→aw
open PySem.Heap renaming get?_push_of_some→az,get?_none_of_le→aT,get?_push_size→bA,lt_size→dn,get?_update_other→fW,get?_update_self→gk,size_push→ko,SameBut→zh,get?_update_ne→Ch,IsSliceOf→KG,FunFrames→KH
open Int renaming le_max_left→aB,le_max_right→aD,le_antisymm→aM,max_le→bh,ofNat_lt→bF,toNat_of_nonneg→bM,le_refl→eI,natCast_nonneg→eS,toNat_le→f6,lt_of_le_of_lt→iB,toNat_natCast→iT,ofNat_le→iU,max_eq_right→jl,le_of_lt→ke,not_lt→m7,ne_of_gt→m8,le_trans→m9,zero_lt_one→nw,natAbs_of_nonneg→og,lt_trans→qU,not_le→vC,add_comm→AN,mul_add→Cg,self_le_toNat→Hr,min_eq_left→KD,max_eq_left→KE,emod_nonneg→KF,ofNat_inj→M2,le_natAbs→M3
open Option renaming map_eq_some_iff→aS,bind_some→aY,isSome_iff_exists→dg,map_some→dF,bind_eq_some_iff→fy,none_or→tB,bind_none→EE,map_map→Hm,isSome→Im
open Bool renaming not_eq_true'→bl,and_eq_true→bO,and_eq_true_iff→d8,eq_false_iff→fh,or_true→fX,false_eq_true→iz,not_eq_false'→kq,eq_iff_iff→nh,false_ne_true→pM,and_true→xu,or_eq_true→Ir
open Array renaming toList_append→bL,getElem?_toList→dN,toList_push→d9,length_toList→ey,getElem?_eq_some_iff→eN,toList_extract→e8,getElem?_append_right→jL,size_append→kT,toList_reverse→nF,getElem?_setIfInBounds→s6,perm_iff_toList_perm→un,getElem?_eq_getElem→vx,swapIfInBounds_def→vD,getElem?_extract→xz,getElem?_append→zi,empty_append→Ci,toList_inj→EU
theorem Mine.Internal.cps {G:Prop} (h:∀Q:Prop,(G->Q)->Q):G:=h G id
namespace FK.Internal
inductive tA where
 |v (i:Nat)
 |k (c:Nat)
 |a (x y:tA)
 |s (x y:tA)
 |m (x y:tA)
 |g (x:tA)
 |c (x:tA)
inductive Lc where
 |le (x y:tA)
 |lt (x y:tA)
 |eq (x y:tA)
 |zle (x y:tA)
 |zlt (x y:tA)
 |zeq (x y:tA)
 |no (c:Lc)
 |ff
noncomputable def HV (N:List Nat) (e:tA):Nat:=e.rec (λi=>N.getD i 0) (λc=>c) (λö ö p q=>p+q) (λö ö ö ö=>0) (λö ö p q=>p*q) (λö ö=>0) λö ö=>0
noncomputable def EN (Z:List Int) (N:List Nat) (e:tA):Int:=e.rec (λi=>Z.getD i 0) Int.ofNat (λö ö p q=>p+q) (λö ö p q=>p-q) (λö ö p q=>p*q) (λö p=>-p) λx ö=>((HV N x:Nat):Int)
noncomputable def EO (Z:List Int) (N:List Nat) (c:Lc):Prop:=c.rec (λx y=>HV N x<=HV N y) (λx y=>HV N x<HV N y) (λx y=>HV N x=HV N y)
 (λx y=>EN Z N x<=EN Z N y) (λx y=>EN Z N x<EN Z N y) (λx y=>EN Z N x=EN Z N y) (λö p=>¬p) False
structure Lf where
 k:Int
 z:List Int
 n:List Int
noncomputable def BW (l:List Int):List Int->List Int:=l.rec id λa l ih r=>r.rec (a::l) λb r ö=>(a+b)::ih r
noncomputable def l9 (l:List Int):List Int->Int:=l.rec (λö=>0) λa ö ih r=>r.rec 0 λb r ö=>a*b+ih r
noncomputable def Lf.ev (Z:List Int) (N:List Nat) (f:Lf):Int:=f.k+l9 f.z Z+l9 f.n (N.map Int.ofNat)
noncomputable def tO (i:Nat):List Int:=i.rec [1] λö l=>0::l
noncomputable def Lf.add (f g:Lf):Lf:=⟨f.k+g.k,BW f.z g.z,BW f.n g.n⟩
noncomputable def Lf.mul (c:Int) (f:Lf):Lf:=⟨c*f.k,f.z.map (c* ·),f.n.map (c* ·)⟩
noncomputable def Lf.one (f:Lf):Lf:=⟨f.k-1,f.z,f.n⟩
theorem u5:∀a b c:List Int,l9 (BW a b) c=l9 a c+l9 b c
 |[],b,c=>(Int.zero_add _).symm
 |x::a,[],c=>(Int.add_zero _).symm
 |x::a,y::b,[]=>rfl
 |x::a,y::b,z::c=>by
  show(x+y)*z+l9 (BW a b) c=(x*z+l9 a c)+(y*z+l9 b c);rw[u5 a b c,Int.add_mul];omega
theorem u4 (k:Int):∀a c:List Int,l9 (a.map (k* ·)) c=k*l9 a c
 |[],c=>(Int.mul_zero k).symm
 |x::a,[]=>(Int.mul_zero k).symm
 |x::a,z::c=>by
  show k*x*z+l9 (a.map (k* ·)) c=k*(x*z+l9 a c);rw[u4 k a c,Cg,Int.mul_assoc]
theorem sk:∀(i:Nat) (c:List Int),l9 (tO i) c=c.getD i 0
 |_,[]=>by cases‹Nat›<;>rfl
 |0,z::c=>by show 1*z+0=z;omega
 |i+1,z::c=>by
  show 0*z+l9 (tO i) c=c.getD i 0;rw[sk i c];omega
theorem wD:∀(i:Nat) (N:List Nat),(N.map Int.ofNat).getD i 0=Int.ofNat (N.getD i 0)
 |_,[]=>by cases‹Nat›<;>rfl
 |0,_::_=>rfl
 |i+1,_::N=>wD i N
section
variable {Z:List Int} {N:List Nat}
theorem nT (f g:Lf):(f.add g).ev Z N=f.ev Z N+g.ev Z N:=by
 show f.k+g.k+l9 (BW f.z g.z) Z+l9 (BW f.n g.n) _=(f.k+l9 f.z Z+l9 f.n _)+(g.k+l9 g.z Z+l9 g.n _);rw[u5,u5];omega
theorem mO (c:Int) (f:Lf):(f.mul c).ev Z N=c*f.ev Z N:=by
 show c*f.k+l9 (f.z.map (c* ·)) Z+l9 (f.n.map (c* ·)) _=c*(f.k+l9 f.z Z+l9 f.n _);rw[u4,u4,Cg,Cg]
theorem JJ (f:Lf):f.one.ev Z N=f.ev Z N-1:=by
 show f.k-1+l9 f.z Z+l9 f.n _=(f.k+l9 f.z Z+l9 f.n _)-1
 omega
noncomputable def isF (v:Int->Prop) (o:Option Lf) (Z:List Int) (N:List Nat):Prop:=∀f,o=some f->v (f.ev Z N)
noncomputable def two (o p:Option Lf) (k:Lf->Lf->Lf):Option Lf:=o.rec none λf=>p.rec none λg=>some (k f g)
noncomputable def Jj (o p:Option Lf):Option Lf:=o.rec none λf=>p.rec none λg=>cond (f.z.isEmpty&&f.n.isEmpty) (some (g.mul f.k)) (cond (g.z.isEmpty&&g.n.isEmpty) (some (f.mul g.k)) none)
noncomputable def B8 (e:tA):Option Lf:=e.rec (λi=>some ⟨0,[],tO i⟩) (λc=>some ⟨Int.ofNat c,[],[]⟩) (λö ö p q=>two p q Lf.add) (λö ö ö ö=>none) (λö ö p q=>Jj p q) (λö ö=>none) λö ö=>none
noncomputable def Do (e:tA):Option Lf:=e.rec (λi=>some ⟨0,tO i,[]⟩) (λc=>some ⟨Int.ofNat c,[],[]⟩) (λö ö p q=>two p q Lf.add) (λö ö p q=>two p q λf g=>f.add (g.mul (-1))) (λö ö p q=>Jj p q) (λö p=>two p p λf ö=>f.mul (-1)) λx ö=>B8 x
theorem mj {o p:Option Lf} {k:Lf->Lf->Lf} {f:Lf} (h:two o p k=some f):∃a b,o=some a/\p=some b/\f=k a b:=by
 induction o with
 |none=>contradiction
 |some a=>induction p with
  |none=>contradiction
  |some b=>(injection h;subst_vars);exact⟨a,b,rfl,rfl,rfl⟩
theorem D5 {f:Lf} (h:(f.z.isEmpty&&f.n.isEmpty)=true):f.ev Z N=f.k:=by
 obtain⟨k,z,n⟩:=f
 induction z with
 |cons _ _=>contradiction
 |nil=>induction n with
  |cons _ _=>contradiction
  |nil=>show k+0+0=k;omega
theorem zS {o p:Option Lf} {f:Lf} (h:Jj o p=some f):∃a b,o=some a/\p=some b/\f.ev Z N=a.ev Z N*b.ev Z N:=by
 induction o with
 |none=>contradiction
 |some a=>induction p with
  |none=>contradiction
  |some b=>
   refine⟨a,b,rfl,rfl,?_⟩;replace h:cond (a.z.isEmpty&&a.n.isEmpty) (some (b.mul a.k)) (cond (b.z.isEmpty&&b.n.isEmpty) (some (a.mul b.k)) none)=some f:=h
   induction q:(a.z.isEmpty&&a.n.isEmpty)with
   |true=>
    rw[q]at h;(injection h;subst_vars);rw[mO,D5 q]
   |false=>
    replace h:=(q)▸h
    induction q':(b.z.isEmpty&&b.n.isEmpty)with
    |true=>
     rw[q']at h;(injection h;subst_vars);rw[mO,D5 q',Int.mul_comm]
    |false=>rw[q']at h;contradiction
theorem gQ:∀(e:tA) (f:Lf),B8 e=some f->f.ev Z N=Int.ofNat (HV N e)
 |.v i,_,h=>by
  (injection h;subst_vars)
  show 0+0+l9 (tO i) _=_;rw[sk,wD];show 0+0+_=Int.ofNat (N.getD i 0);omega
 |.k c,_,h=>by(injection h;subst_vars);show Int.ofNat c+0+0=Int.ofNat c;omega
 |.a x y,f,h=>by
  obtain⟨a,b,h1,h2,rfl⟩:=mj h;rw[nT,gQ x a h1,gQ y b h2];rfl
 |.m x y,f,h=>by
  obtain⟨a,b,h1,h2,e⟩:=zS (Z:=Z) (N:=N) h;exact e.symm▸(gQ x a h1).symm▸(gQ y b h2).symm▸rfl
 |.s _ _,_,h=>by contradiction
 |.g _,_,h=>by contradiction
 |.c _,_,h=>by contradiction
theorem gf:∀(e:tA) (f:Lf),Do e=some f->f.ev Z N=EN Z N e
 |.v i,_,h=>by
  (injection h;subst_vars)
  show 0+l9 (tO i) Z+0=Z.getD i 0;rw[sk];omega
 |.k c,_,h=>by(injection h;subst_vars);show Int.ofNat c+0+0=Int.ofNat c;omega
 |.a x y,f,h=>by
  obtain⟨a,b,h1,h2,rfl⟩:=mj h;rw[nT,gf x a h1,gf y b h2];rfl
 |.m x y,f,h=>by
  obtain⟨a,b,h1,h2,e⟩:=zS (Z:=Z) (N:=N) h;exact e.symm▸(gf x a h1).symm▸(gf y b h2).symm▸rfl
 |.s x y,f,h=>by
  obtain⟨a,b,h1,h2,rfl⟩:=mj h;rw[nT,mO,gf x a h1,gf y b h2];show _=EN Z N x-EN Z N y
  omega
 |.g x,f,h=>by
  obtain⟨a,b,h1,h2,rfl⟩:=mj h;rw[mO,gf x a h1];show _=-EN Z N x
  omega
 |.c x,f,h=>gQ x f h
noncomputable def LS (o p:Option Lf):Option (Bool×Lf):=(two o p λf g=>g.add (f.mul (-1))).map (Prod.mk false)
noncomputable def LL (o p:Option Lf):Option (Bool×Lf):=(two o p λf g=>(g.add (f.mul (-1))).one).map (Prod.mk false)
noncomputable def eqF (o p:Option Lf):Option (Bool×Lf):=(two o p λf g=>g.add (f.mul (-1))).map (Prod.mk true)
noncomputable def cf (c:Lc):Option (Bool×Lf):=
 match c with
 |.le x y=>LS (B8 x) (B8 y)
 |.lt x y=>LL (B8 x) (B8 y)
 |.eq x y=>eqF (B8 x) (B8 y)
 |.zle x y=>LS (Do x) (Do y)
 |.zlt x y=>LL (Do x) (Do y)
 |.zeq x y=>eqF (Do x) (Do y)
 |.no c=>(match c with
  |.le x y=>LL (B8 y) (B8 x)
  |.lt x y=>LS (B8 y) (B8 x)
  |.zle x y=>LL (Do y) (Do x)
  |.zlt x y=>LS (Do y) (Do x)
  |_=>none)
 |.ff=>none
noncomputable def qe (b:Bool) (v:Int):Prop:=cond b (v=0) (0<=v)
theorem uU {o p:Option Lf} {x y:Int} (ho:∀f,o=some f->f.ev Z N=x) (hp:∀f,p=some f->f.ev Z N=y) (h:x<=y) {b:Bool} {f:Lf} (e:LS o p=some (b,f)):qe b (f.ev Z N):=by
 obtain⟨r,q,e⟩:=aS.mp e;obtain⟨a,c,h1,h2,rfl⟩:=mj q;cases e
 show 0<=_;rw[nT,mO,ho a h1,hp c h2];omega
theorem uR {o p:Option Lf} {x y:Int} (ho:∀f,o=some f->f.ev Z N=x) (hp:∀f,p=some f->f.ev Z N=y) (h:x<y) {b:Bool} {f:Lf} (e:LL o p=some (b,f)):qe b (f.ev Z N):=by
 obtain⟨r,q,e⟩:=aS.mp e;obtain⟨a,c,h1,h2,rfl⟩:=mj q;cases e
 show 0<=_;rw[JJ,nT,mO,ho a h1,hp c h2];omega
theorem DY {o p:Option Lf} {x y:Int} (ho:∀f,o=some f->f.ev Z N=x) (hp:∀f,p=some f->f.ev Z N=y) (h:x=y) {b:Bool} {f:Lf} (e:eqF o p=some (b,f)):qe b (f.ev Z N):=by
 obtain⟨r,q,e⟩:=aS.mp e;obtain⟨a,c,h1,h2,rfl⟩:=mj q;cases e
 show _=(0:Int);rw[nT,mO,ho a h1,hp c h2];omega
theorem Mn {c:Lc} (h:EO Z N c) {b:Bool} {f:Lf} (e:cf c=some (b,f)):qe b (f.ev Z N):=by
 induction c with
 |le x y=>exact uU (gQ x) (gQ y) (iU.mpr h) e
 |lt x y=>exact uR (gQ x) (gQ y) (bF.mpr h) e
 |eq x y=>exact DY (gQ x) (gQ y) (congrArg Int.ofNat h) e
 |zle x y=>exact uU (gf x) (gf y) h e
 |zlt x y=>exact uR (gf x) (gf y) h e
 |zeq x y=>exact DY (gf x) (gf y) h e
 |no c=>induction c with
  |le x y=>exact uR (gQ y) (gQ x) (bF.mpr (fK h)) e
  |lt x y=>exact uU (gQ y) (gQ x) (iU.mpr (du h)) e
  |zle x y=>exact uR (gf y) (gf x) (Int.lt_of_not_ge h) e
  |zlt x y=>exact uU (gf y) (gf x) (m7.mp h) e
  |_=>contradiction
 |ff=>contradiction
noncomputable def uv (cs:List (Int×Lc)):Option Lf:=cs.rec (some ⟨0,[],[]⟩) λc ö o=>(cf c.2).rec none λp=>cond (p.1||decide (0<=c.1)) (two o (some p.2) λf g=>f.add (g.mul c.1)) none
theorem CA:∀{cs:List (Int×Lc)} {f:Lf},(∀c∈cs,EO Z N c.2)->uv cs=some f->0<=f.ev Z N
 |[],_,_,h=>by(injection h;subst_vars);exact eI 0
 |(w,c)::cs,f,hd,h=>by
  induction q:cf c with
  |none=>
   have:uv ((w,c)::cs)=none:=by simp only[uv,q]
   rw[this]at h;contradiction
  |some p=>
   obtain⟨b,g⟩:=p;have e:uv ((w,c)::cs)=cond (b||decide (0<=w)) (two (uv cs) (some g) λf g=>f.add (g.mul w)) none:=by simp only[uv,q]
   replace h:=(e)▸h
   induction z:(b||decide (0<=w))with
   |false=>rw[z]at h;contradiction
   |true=>
    rw[z,cond_true]at h;obtain⟨a,g',h1,h2,rfl⟩:=mj h;cases h2
    have i1:=CA (λc hc=>hd c (.tail _ hc)) h1;have i2:=Mn (hd _ (.head _)) q;rw[nT,mO]
    induction b with
    |true=>rw[show g.ev Z N=0 from i2];omega
    |false=>
     have hw:0<=w:=of_decide_eq_true z;have:=Int.mul_nonneg hw (show 0<=g.ev Z N from i2)
     omega
noncomputable def bad (o:Option Lf):Bool:=o.rec false λf=>f.z.all (· ==0)&&f.n.all (decide<| · <=0)&&decide (f.k<0)
theorem L9:∀{l r:List Int},l.all (· ==0)=true->l9 l r=0
 |[],_,_=>rfl
 |_::_,[],_=>rfl
 |a::l,b::r,h=>by
  rw[o6,bO]at h;show a*b+l9 l r=0;rw[L9 h.2,eq_of_beq h.1];omega
theorem L8:∀{l:List Int} {N:List Nat},l.all (decide<| · <=0)=true->l9 l (N.map Int.ofNat)<=0
 |[],_,_=>eI _
 |_::_,[],_=>eI _
 |a::l,b::r,h=>by
  rw[o6,bO]at h;show a*Int.ofNat b+l9 l (r.map Int.ofNat)<=0;have:=L8 (N:=r) h.2;have:=Int.mul_nonpos_of_nonpos_of_nonneg (of_decide_eq_true h.1) (eS b);have e:Int.ofNat b=(b:Int):=rfl;rw[e];omega
theorem J1 {cs:List (Int×Lc)} (h:bad (uv cs)=true) (hd:∀c∈cs,EO Z N c.2):False:=by
 induction q:uv cs with
 |none=>rw[q]at h;contradiction
 |some f=>
  rw[q]at h;have h:(f.z.all (· ==0)&&f.n.all (decide<| · <=0)&&decide (f.k<0))=true:=h;rw[bO,bO]at h;have:=CA hd q;have:0<=f.k+l9 f.z Z+l9 f.n (N.map Int.ofNat):=this;rw[L9 h.1.1]at this;have:=L8 (N:=N) h.1.2;have:=of_decide_eq_true h.2
  omega
noncomputable def L0 (Z:List Int) (N:List Nat) (ok:Bool) (g:Prop) (cs:List (Int×Lc)):Prop:=cs.rec (cond ok g True) λc ö p=>EO Z N c.2->p
theorem Dz {ok:Bool} {g:Prop}:∀(cs:List (Int×Lc)),(ok=true->(∀c∈cs,EO Z N c.2)->g)->L0 Z N ok g cs
 |[],h=>by
  induction ok with
  |true=>exact h rfl nofun
  |false=>exact trivial
 |c::cs,h=>λhc=>Dz cs λo a=>h o λd hd=>by
  rcases aH.mp hd with rfl|hd
  ·exact hc
  ·exact a d hd
noncomputable def Lv (w:Int) (g:Lc):List (Int×Lc):=g.rec (λx y=>[(w,.no (.le x y))]) (λx y=>[(w,.no (.lt x y))]) (λö ö=>[]) (λx y=>[(w,.no (.zle x y))]) (λx y=>[(w,.no (.zlt x y))]) (λö ö=>[]) (λc ö=>[(w,c)]) []
theorem FS {w:Int} {g:Lc} (h:¬EO Z N g):∀c∈Lv w g,EO Z N c.2:=by
 have one:∀{d:Lc},EO Z N d->∀c∈[(w,d)],EO Z N c.2:=λhd c hc=>by
  rcases aC.mp hc with rfl
  exact hd
 induction g with
 |eq _ _=>exact nofun
 |zeq _ _=>exact nofun
 |ff=>exact nofun
 |no c=>exact one (Classical.not_not.mp h)
 |_=>exact one h
noncomputable def imp (Z:List Int) (N:List Nat) (w:Int) (cs:List (Int×Lc)) (g:Lc):Prop:=L0 Z N (bad (uv (Lv w g++cs))) (EO Z N g) cs
theorem Gw (w:Int) (cs:List (Int×Lc)) (g:Lc):imp Z N w cs g:=Dz cs λok hd=>Classical.byContradiction λh=>J1 ok λc hc=>by
 rcases cD.mp hc with hc|hc
 ·exact FS h c hc
 ·exact hd c hc
end
noncomputable def DM (n:Nat) (k:Nat->Prop):Prop:=n.rec (k 0) λm ö=>k (m+1)
noncomputable def stX (ih:Nat->(tA->Nat->Prop)->Prop) (n:Nat) (k:tA->Nat->Prop):Prop:=DM (n/16) λr=>cond ((n%16).ble 7)
 (cond ((n%16).ble 3)
  (cond ((n%16).ble 1) (cond ((n%16).ble 0) (k (.k (r%16)) (r/16)) (k (.k (r/16%16^(r%16))) (r/16/16^(r%16))))
   (cond ((n%16).ble 2) (ih r λx r=>ih r λy r=>k (.a x y) r) (ih r λx r=>ih r λy r=>k (.m x y) r)))
  (cond ((n%16).ble 5) (cond ((n%16).ble 4) (ih r λx r=>ih r λy r=>k (.s x y) r) (ih r λx r=>k (.g x) r))
   (cond ((n%16).ble 6) (ih r λx r=>k (.c x) r) (k (.v (r%16)) (r/16)))))
 (k (.v (n%16-8)) r)
noncomputable def rdX (f:Nat):Nat->(tA->Nat->Prop)->Prop:=f.rec (λö ö=>True) λö ih=>stX ih
noncomputable def rdC (n:Nat) (k:Lc->Nat->Prop):Prop:=DM (n/16) λr=>cond ((n%16%8).ble 6)
 (rdX 40 r λx r=>rdX 40 r λy r=>(λc=>k (cond ((n%16).ble 7) c (.no c)) r)
  (cond ((n%16%8).ble 2) (cond ((n%16%8).ble 1) (cond ((n%16%8).ble 0) (.le x y) (.lt x y)) (.eq x y)) (cond ((n%16%8).ble 4) (cond ((n%16%8).ble 3) (.zle x y) (.zlt x y)) (.zeq x y))))
 (k .ff r)
noncomputable def stL (ih:Nat->(List (Int×Lc)->Nat->Prop)->Prop) (n:Nat) (k:List (Int×Lc)->Nat->Prop):Prop:=rdC n λc r=>ih (r/256) λl s=>k ((Int.ofNat (r%256)-128,c)::l) s
noncomputable def Li (f:Nat):Nat->(List (Int×Lc)->Nat->Prop)->Prop:=f.rec (λn k=>k [] n) λö ih=>stL ih
noncomputable def kj (Z:List Int) (N:List Nat) (n:Nat):Prop:=Li (n%16) (n/16) λcs r=>rdC r λg r=>imp Z N (Int.ofNat r) cs g
theorem wG {n:Nat} {k:Nat->Prop} (h:∀m,k m):DM n k:=by cases n;exact h 0;exact h _
theorem Aq {b:Bool} {p q:Prop} (h:p) (k:q):cond b p q:=by cases b;exact k;exact h
theorem CR {f:Nat}:∀{n:Nat} {k:tA->Nat->Prop},(∀x r,k x r)->rdX f n k:=by
 induction f with
 |zero=>exact λö=>trivial
 |succ f ih=>
  intro n k h;show stX (rdX f) n k;refine wG λr=>?_
  repeat' refine Aq ?_ ?_
  all_goals first|exact h _ _|exact ih λö ö=>h _ _|exact ih λö ö=>ih λö ö=>h _ _
theorem CS {n:Nat} {k:Lc->Nat->Prop} (h:∀x r,k x r):rdC n k:=wG λr=>Aq (CR λö ö=>CR λö ö=>h _ _) (h _ _)
theorem IY {f:Nat}:∀{n:Nat} {k:List (Int×Lc)->Nat->Prop},(∀x r,k x r)->Li f n k:=by
 induction f with
 |zero=>exact λh=>h _ _
 |succ f ih=>
  intro n k h;show stL (Li f) n k;exact CS λö ö=>ih λö ö=>h _ _
theorem d5 (Z:List Int) (N:List Nat) (n:Nat):kj Z N n:=IY λö ö=>CS λö ö=>Gw ..
end FK.Internal
namespace Mine.Internal
open FK.Internal
theorem cy {a:Nat} (n:Nat):kj [] [a] n:=d5 ..
theorem bH {a b:Nat} (n:Nat):kj [] [a,b] n:=d5 ..
theorem b7 {a b c:Nat} (n:Nat):kj [] [a,b,c] n:=d5 ..
theorem d3 {a b c d:Nat} (n:Nat):kj [] [a,b,c,d] n:=d5 ..
theorem jx {a b c d e:Nat} (n:Nat):kj [] [a,b,c,d,e] n:=d5 ..
theorem px {a b c d e f:Nat} (n:Nat):kj [] [a,b,c,d,e,f] n:=d5 ..
theorem yt {a b c d e f g:Nat} (n:Nat):kj [] [a,b,c,d,e,f,g] n:=d5 ..
theorem HU {a b c d e f g h:Nat} (n:Nat):kj [] [a,b,c,d,e,f,g,h] n:=d5 ..
theorem gR {x:Int} (n:Nat):kj [x] [] n:=d5 ..
theorem n9 {x:Int} {a:Nat} (n:Nat):kj [x] [a] n:=d5 ..
theorem f12 {x:Int} {a b:Nat} (n:Nat):kj [x] [a,b] n:=d5 ..
theorem iF {x y:Int} (n:Nat):kj [x,y] [] n:=d5 ..
theorem HT {x y:Int} {a:Nat} (n:Nat):kj [x,y] [a] n:=d5 ..
theorem yr {x y:Int} {a b:Nat} (n:Nat):kj [x,y] [a,b] n:=d5 ..
theorem wJ {x y z:Int} (n:Nat):kj [x,y,z] [] n:=d5 ..
theorem f31 {x y z:Int} {a:Nat} (n:Nat):kj [x,y,z] [a] n:=d5 ..
theorem f32 {x y z:Int} {a b:Nat} (n:Nat):kj [x,y,z] [a,b] n:=d5 ..
theorem JI {x y z w:Int} (n:Nat):kj [x,y,z,w] [] n:=d5 ..
theorem f42 {x y z w:Int} {a b:Nat} (n:Nat):kj [x,y,z,w] [a,b] n:=d5 ..
theorem f50 {x y z w v:Int} (n:Nat):kj [x,y,z,w,v] [] n:=d5 ..
theorem na1 {x:Int}:x<=(x.natAbs:Int):=M3
theorem na2 {x:Int}:-x<=(x.natAbs:Int):=by omega
theorem ou {x:Int} {k:Nat} (h:-(k:Int)<=x) (h':x<=k):x.natAbs<=k:=by omega
theorem F0 {x:Int} {k:Nat} (h:-(k:Int)<x) (h':x<k):x.natAbs<k:=by omega
open PySem
set_option genInjectivity true in
set_option genCtorIdx true in
inductive PV where
 |none
 |bool (b:Bool)
 |int (i:Int)
 |str (s:Str)
 |tup (l:List PV)
 |list (l:List PV)
 |obj (c:String) (ns:List String) (vs:List PV)
 |loc (k:Nat)
 |arg (l:List PV)
set_option genCtorIdx true in
inductive cS where
 |list (l:List PV)
 |obj (c:String) (ns:List String) (vs:List PV)
 |dead
noncomputable abbrev ah:=List cS
noncomputable abbrev aE:=List (String×PV)
set_option genInjectivity true in
set_option genCtorIdx true in
inductive qn (α:Type) where
 |ok (a:α) (σ:ah)
 |exc (σ:ah)
 |bad
noncomputable abbrev MM (α:Type):=ah->qn α
noncomputable def MM.pure {α:Type} (a:α):MM α:=λσ=>.ok a σ
noncomputable def MM.bind {α β:Type} (x:MM α) (f:α->MM β):MM β:=λσ=>match x σ with
 |.ok a aF=>f a aF
 |.exc aF=>.exc aF
 |.bad=>.bad
noncomputable def MM.bad {α:Type}:MM α:=λö=>.bad
noncomputable def bJ {α:Type}:Option α->MM α
 |some a=>λσ=>.ok a σ
 |none=>λö=>.bad
set_option genCtorIdx true in
inductive AG where|add|sub|mul|fdiv|mod|pow|bor|band
noncomputable def AG.nr (t:AG):Nat:=t.casesOn 0 1 2 3 4 5 6 7
noncomputable def AG.of (n:Nat):AG:=[.add,.sub,.mul,.fdiv,.mod,.pow,.bor,.band].getD n .add
theorem AG.of_nr (t:AG):of t.nr=t:=t.casesOn rfl rfl rfl rfl rfl rfl rfl rfl
noncomputable instance:DecidableEq AG:=λa b=>if h:a.nr=b.nr then .isTrue (a.of_nr▸b.of_nr▸congrArg AG.of h)else .isFalse λe=>h (congrArg AG.nr e)
set_option genCtorIdx true in
inductive xl where|eq|ne|lt|le|gt|ge|isin|notin|is_|isnot
noncomputable def xl.nr (t:xl):Nat:=t.casesOn 0 1 2 3 4 5 6 7 8 9
noncomputable def xl.of (n:Nat):xl:=[.eq,.ne,.lt,.le,.gt,.ge,.isin,.notin,.is_,.isnot].getD n .eq
theorem xl.of_nr (t:xl):of t.nr=t:=t.casesOn rfl rfl rfl rfl rfl rfl rfl rfl rfl rfl
noncomputable instance:DecidableEq xl:=λa b=>if h:a.nr=b.nr then .isTrue (a.of_nr▸b.of_nr▸congrArg xl.of h)else .isFalse λe=>h (congrArg xl.nr e)
set_option genCtorIdx true in
inductive ME where
 |var (x:String)
 |glob (x:String)
 |cint (i:Int)
 |cstr (s:String)
 |cnone
 |cbool (b:Bool)
 |list (es:List ME)
 |newl (es:List ME)
 |tup (es:List ME)
 |bin (op:AG) (a b:ME)
 |cmp (op:xl) (a b:ME)
 |not (a:ME)
 |band (a b:ME)
 |bor (a b:ME)
 |ite (c a b:ME)
 |attr (e:ME) (x:String)
 |idx (e i:ME)
 |slc (e:ME) (lo hi:Option ME)
 |rev (e:ME)
 |isin (e:ME) (cs:List String)
 |call (f:String) (args:List ME)
 |meth (o:ME) (c f:String) (args:List ME)
 |new (c:String) (frozen:Bool) (ini:String) (args:List ME)
 |bi (f:String) (args:List ME)
 |sm (m:String) (o:ME) (args:List ME)
 |copyl (e:ME)
 |comp (elt:ME) (tgt:List String) (kind:String) (it:ME) (cond:Option ME)
set_option genCtorIdx true in
inductive MT where
 |var (x:String)
 |tup (l:List MT)
 |attr (o:ME) (x:String)
 |idx (o i:ME)
set_option genCtorIdx true in
inductive MS where
 |assign (t:MT) (e:ME)
 |aug (o:ME) (x:String) (e:ME)
 |expr (e:ME)
 |ifs (c:ME) (a b:List MS)
 |while (c:ME) (b:List MS)
 |for (t:List String) (kind:String) (it:ME) (b:List MS)
 |ret (e:ME)
 |raise (e:ME)
 |tryE (x:Option String) (e:ME) (h:List MS)
 |brk
 |freeze (e:ME)
 |bad
set_option genCtorIdx true in
inductive Flow where
 |next|brk|ret (v:PV)
noncomputable def PV.int?:PV->Option Int|.int i=>some i|_=>Option.none
noncomputable def PV.str?:PV->Option Str|.str i=>some i|_=>Option.none
noncomputable def PV.bool?:PV->Option Bool|.bool i=>some i|_=>Option.none
noncomputable def dm:Nat:=1000000
noncomputable def zJ (s:Str):Option PV:=if s.length<=dm then some (.str s)else Option.none
noncomputable def gb (l:List PV):Option PV:=if l.length<=dm then some (.list l)else Option.none
noncomputable def pQ (i:Int):Option PV:=some (.int i)
noncomputable def PV.lst?:PV->Option (List PV)|.list l=>some l|.arg l=>some l|_=>Option.none
noncomputable def cS.lst?:cS->Option (List PV)|.list l=>some l|_=>Option.none
noncomputable def items? (σ:ah) (v:PV):Option (List PV):=match v with
 |.loc k=>(σ[k]?).bind cS.lst?
 |v=>v.lst?
section
variable {α β:Type}
noncomputable def kW (f:Int->Option α):PV->Option α
 |.int i=>f i
 |_=>Option.none
noncomputable def xW (f:Str->Option α):PV->Option α
 |.str s=>f s
 |_=>Option.none
noncomputable def zH (f:List PV->Option α):PV->Option α
 |.list l=>f l
 |_=>Option.none
noncomputable def HF (f:Nat->Option α):PV->Option α
 |.loc k=>f k
 |_=>Option.none
noncomputable def td (f:β->Option α):List β->Option α
 |[a]=>f a
 |_=>Option.none
noncomputable def I7 (f:β->β->Option α):List β->Option α
 |[a,b]=>f a b
 |_=>Option.none
end
mutual
noncomputable def E7:PV->Option PyData
 |.none=>some .none
 |.bool b=>some (.bool b)
 |.int i=>some (.int i)
 |.str s=>some (.str s)
 |.tup l=>(qd l).map .tuple
 |.list l=>(qd l).map .list
 |_=>Option.none
noncomputable def qd:List PV->Option (List PyData)
 |[]=>some []
 |p::l=>(E7 p).bind λd=>(qd l).map (d:: ·)
end
noncomputable def dat (p:PV):Option PyData:=(E7 p).bind λd=>if SeqAt.shaped d=true then some d else Option.none
noncomputable def xw (x y:PV):Option Bool:=
 if zH (λa=>zH (λb=>some (decide (a.length=b.length))) y) x=some false then some false else(dat x).bind λa=>(dat y).map λb=>PyData.eqv a b
noncomputable def fE (n:Int):List PV:=(iy n.toNat).map λk=>.int (Int.ofNat k)
noncomputable def lF (l:List PV):List PV:=l.zipIdx.map λp=>.tup [.int (p.2:Int),p.1]
noncomputable def m0 (s:Str):List PV:=s.cps.toList.map λc=>.str ⟨#[c]⟩
noncomputable def jf (n:Nat) (i:Int):Option Nat:=
 if i.natAbs<2^62 then(if 0<=i then(if i<n then some i.toNat else Option.none)else(if 0<=i+n then some (i+n).toNat else Option.none))else Option.none
noncomputable def fH (n:Nat) (i:Int):Nat:=(max 0 (min (if i<0 then i+(n:Int)else i) (n:Int))).toNat
noncomputable def addV (a b:PV):Option PV:=match a with
 |.int x=>kW (λy=>pQ (x+y)) b
 |.str x=>xW (λy=>zJ ⟨x.cps++y.cps⟩) b
 |.list x=>zH (λy=>gb (x++y)) b
 |_=>Option.none
noncomputable def mulV (a b:PV):Option PV:=match a with
 |.int x=>kW (λy=>if y.natAbs<2^32 then pQ (x*y)else Option.none) b
 |.list x=>kW (λn=>if 0<=n/\n<=100/\x.length<=100/\(x.mapM PV.str?).isSome then gb (c3 n.toNat x).flatten else Option.none) b
 |_=>Option.none
noncomputable def jO (op:AG) (a b:PV):Option PV:=
 match op with
 |.add=>addV a b
 |.sub=>kW (λx=>kW (λy=>pQ (x-y)) b) a
 |.mul=>mulV a b
 |.fdiv=>kW (λx=>kW (λy=>if 0<y/\y<2^64 then pQ (x/y)else Option.none) b) a
 |.mod=>kW (λx=>kW (λy=>if 0<y then pQ (x%y)else Option.none) b) a
 |.pow=>kW (λx=>kW (λy=>if 0<=y/\y<=1000/\0<=x/\x<=10 then pQ (x^y.toNat)else Option.none) b) a
 |.bor=>kW (λx=>kW (λy=>if 0<=x/\0<=y then pQ ((x.toNat ||| y.toNat:Nat):Int)else Option.none) b) a
 |.band=>kW (λx=>kW (λy=>if 0<=x/\0<=y then pQ ((x.toNat &&& y.toNat:Nat):Int)else Option.none) b) a
noncomputable def BV (a b:PV):Option PV:=kW (λx=>kW (λy=>some (.int (x+y))) b) a
noncomputable def JX (x y:Str):Option Bool:=td (λc=>some (y.cps.toList.contains c)) x.cps.toList
noncomputable def jb (l:List PV):Option (List Str):=l.mapM PV.str?
noncomputable def mH (l:List PV):Option (List Int):=l.mapM PV.int?
noncomputable def memS (a:Str) (y:PV):Option Bool:=match y with
 |.str b=>JX a b
 |.tup l=>(jb l).map λl=>decide (a∈l)
 |_=>Option.none
noncomputable def memI (a:Int) (y:PV):Option Bool:=match y with
 |.tup l=>(mH l).map λl=>decide (a∈l)
 |.list l=>(mH l).map λl=>decide (a∈l)
 |_=>Option.none
noncomputable def uP (x y:PV):Option Bool:=match x with
 |.str a=>memS a y
 |.int a=>memI a y
 |_=>Option.none
noncomputable def isNV (x:PV):Option Bool:=match x with
 |.none=>some true
 |.list _=>some false
 |_=>Option.none
noncomputable def isV (x y:PV):Option Bool:=match y with
 |.none=>isNV x
 |_=>Option.none
noncomputable def jF (op:xl) (a b:PV):Option PV:=
 match op with
 |.lt=>kW (λx=>kW (λy=>some (.bool (decide (x<y)))) b) a
 |.le=>kW (λx=>kW (λy=>some (.bool (decide (x<=y)))) b) a
 |.gt=>kW (λx=>kW (λy=>some (.bool (decide (x>y)))) b) a
 |.ge=>kW (λx=>kW (λy=>some (.bool (decide (x≥y)))) b) a
 |.eq=>(xw a b).map .bool
 |.ne=>(xw a b).map λb=>.bool !b
 |.isin=>(uP a b).map .bool
 |.notin=>(uP a b).map λb=>.bool !b
 |.is_=>(isV a b).map .bool
 |.isnot=>(isV a b).map λb=>.bool !b
noncomputable def iH:PV->Option Bool
 |.bool b=>some b
 |.int i=>some (decide (i≠0))
 |_=>Option.none
noncomputable def rY (ns:List String) (vs:List PV) (x:String):Option PV:=(ns.zip vs).lookup x
noncomputable def setField (ns:List String) (vs:List PV) (x:String) (v:PV):List String×List PV:=
 match ns.findIdx? (· ==x)with
 |some i=>(ns,vs.set i v)
 |Option.none=>(ns++[x],vs++[v])
noncomputable def fieldsOf (c:String):List String:=match c with
 |"Run"=>["arguments"]
 |"Redirect"=>["command","path","mode","descriptor"]
 |"Pair"=>["sign","left","right"]
 |"Back"=>["command"]
 |"Scanner"=>["line","place","deep"]
 |_=>[]
noncomputable def JH (c:String) (ns:List String) (vs:List PV) (x:String):Option PV:=if x∈fieldsOf c then rY ns vs x else Option.none
noncomputable def cS.fld? (x:String):cS->Option PV
 |.obj c ns vs=>JH c ns vs x
 |_=>Option.none
noncomputable def j6 (σ:ah) (v:PV) (x:String):Option PV:=
 match v with
 |.obj c ns vs=>JH c ns vs x
 |.loc k=>(σ[k]?).bind (cS.fld? x)
 |_=>Option.none
noncomputable def nR (σ:ah) (v:PV):PV->Option PV:=kW λi=>match v with
 |.tup l=>(jf l.length i).bind λk=>l[k]?
 |.str s=>(jf s.cps.size i).bind λk=>(s.cps[k]?).map λc=>.str ⟨#[c]⟩
 |v=>(items? σ v).bind λl=>(jf l.length i).bind λk=>l[k]?
noncomputable def EM (n:Nat) (lo:Option Int):Nat:=match lo with|some i=>fH n i|Option.none=>0
noncomputable def DB (n:Nat) (hi:Option Int):Nat:=match hi with|some i=>fH n i|Option.none=>n
noncomputable def sliceL {α:Type} (l:List α) (lo hi:Option Int):List α:=(l.take (DB l.length hi)).drop (EM l.length lo)
noncomputable def pb (v:PV) (lo hi:Option Int):Option PV:=
 match v with
 |.str s=>if s.length<=dm then some (.str ⟨(sliceL s.cps.toList lo hi).toArray⟩)else Option.none
 |v=>v.lst?.bind λl=>if l.length<=dm then some (.list (sliceL l lo hi))else Option.none
noncomputable def D6 (v:PV):Option String:=match v with
 |.obj c _ _=>some c
 |.str _=>some "str"
 |.tup _=>some "tuple"
 |_=>Option.none
noncomputable def jY (x y:Str):Bool:=!decide (y.cps.toList<x.cps.toList)
noncomputable def mX (l:List Str):List Str:=l.mergeSort jY
noncomputable def dw (c:Nat):List Nat->List (List Nat)
 |[]=>[[]]
 |x::l=>if x=c then[]::dw c l else match dw c l with
  |[]=>[[x]]
  |p::ps=>(x::p)::ps
theorem gO {c:Nat}:dw c []=[[]]:=rfl
theorem gP {c x:Nat} {l:List Nat}:dw c (x::l)=if x=c then[]::dw c l else match dw c l with
  |[]=>[[x]]
  |p::ps=>(x::p)::ps:=rfl
noncomputable def cP (c:Nat):Bool:=(9<=c&&c<=13)||(28<=c&&c<=32)
noncomputable def mw (l:List Nat):List Nat:=((l.dropWhile cP).reverse.dropWhile cP).reverse
noncomputable def mZ (sep:Str):List Str->Str
 |[]=>⟨#[]⟩
 |[x]=>x
 |x::l=>⟨x.cps++sep.cps++(mZ sep l).cps⟩
noncomputable def lenV (σ:ah):List PV->Option PV:=td λv=>(match v.str? with
 |some s=>if s.length<=dm then some (.int s.length)else Option.none
 |Option.none=>(items? σ v).bind λl=>if l.length<=dm then some (.int l.length)else Option.none)
noncomputable def minV:List PV->Option PV:=I7 λa b=>kW (λa=>kW (λb=>some (.int (if b<a then b else a))) b) a
noncomputable def maxV:List PV->Option PV:=I7 λa b=>kW (λa=>kW (λb=>some (.int (if b>a then b else a))) b) a
noncomputable def absV:List PV->Option PV:=td (kW λa=>some (.int a.natAbs))
noncomputable def GK:List PV->Option PV:=I7 λa b=>kW (λa=>kW (λb=>if 0<b/\b<2^64 then some (.tup [.int (a/b),.int (a%b)])else Option.none) b) a
noncomputable def ordV:List PV->Option PV:=td (xW λs=>td (λc=>some (.int (c:Nat))) s.cps.toList)
noncomputable def Fg:List PV->Option PV:=td (zH λl=>(jb l).bind λl=>if l.length<=120 then some (.list ((mX l).map .str))else Option.none)
noncomputable def LP:List PV->Option PV:=td (zH gb)
noncomputable def Mp:List PV->Option PV:=td λb=>b.bool?.map λb=>.int (if b then 1 else 0)
noncomputable def sE (σ:ah) (f:String) (args:List PV):Option PV:=
 match f with
 |"len"=>lenV σ args
 |"min"=>minV args
 |"max"=>maxV args
 |"abs"=>absV args
 |"divmod"=>GK args
 |"ord"=>ordV args
 |"sorted"=>Fg args
 |"list"=>LP args
 |"int"=>Mp args
 |_=>Option.none
noncomputable def uw (o:PV):Option PV:=xW (λs=>if s.length<=dm/\s.cps.toList.all (· <128)then some (.str ⟨(mw s.cps.toList).toArray⟩)else Option.none) o
noncomputable def xF (o:PV) (args:List PV):Option PV:=
 xW (λs=>td (xW λc=>td (λc=>if s.length<=dm then some (.list ((dw c s.cps.toList).map λl=>.str ⟨l.toArray⟩))else Option.none) c.cps.toList) args) o
noncomputable def Dx (o:PV) (args:List PV):Option PV:=
 xW (λs=>td (zH λl=>(jb l).bind λl=>if s.length<=64/\(l.map (·.length)).sum+l.length*64<=16000000 then zJ (mZ s l)else Option.none) args) o
noncomputable def yy (o:PV) (args:List PV):Option PV:=
 zH (λl=>td (xW λx=>(jb l).bind λl=>if l.length<=dm then some (.int (l.filter (· ==x)).length)else Option.none) args) o
noncomputable def smV (m:String) (o:PV) (args:List PV):Option PV:=
 match m,args with
 |"strip",[]=>uw o
 |"split",args=>xF o args
 |"join",args=>Dx o args
 |"count",args=>yy o args
 |_,_=>Option.none
noncomputable def HS:List (String×PV):=[("BLANKS",.str " \t\r\n\x0b"),("SIGNS",.str "<|>&;()"),("MOST_ARGUMENTS",.int 10),("READ",.int 0),("WRITE",.int 1),("CREATE",.int 512),("EMPTY",.int 1024),("AT_END",.int 2048),
 ("INPUT",.int 0),("OUTPUT",.int 1),("DEEPEST",.int 30)]
noncomputable def ua (x:String):Option PV:=HS.lookup x
noncomputable def I0:PV->Option (List PV):=kW λn=>if n.natAbs<=dm then some (fE n)else Option.none
noncomputable def L7:PV->Option (List PV):=zH λl=>some (lF l)
noncomputable def LQ:PV->Option (List PV):=zH some
noncomputable def strI:PV->Option (List PV):=xW λs=>some (m0 s)
noncomputable def pU (kind:String) (v:PV):Option (List PV):=match kind with
 |"range"=>I0 v
 |"enumerate"=>L7 v
 |""=>LQ v
 |"str"=>strI v
 |_=>Option.none
noncomputable def i4 (tgt:List String) (v:PV):Option aE:=
 match tgt with
 |[x]=>some [(x,v)]
 |tgt=>match v with
  |.tup l=>if l.length=tgt.length then some (tgt.zip l)else Option.none
  |_=>Option.none
noncomputable def ig (ρ:aE) (x:String) (v:PV):aE:=(x,v)::ρ.filter (·.1 !=x)
noncomputable def fY (ρ:aE) (b:aE):aE:=b.foldl (λρ p=>ig ρ p.1 p.2) ρ
mutual
noncomputable def PV.subst (k:Nat) (p:PV):PV->PV
 |.tup l=>.tup (PV.substs k p l)
 |.list l=>.list (PV.substs k p l)
 |.arg l=>.arg (PV.substs k p l)
 |.obj c ns vs=>.obj c ns (PV.substs k p vs)
 |.loc j=>if j=k then p else .loc j
 |v=>v
noncomputable def PV.substs (k:Nat) (p:PV):List PV->List PV
 |[]=>[]
 |v::l=>PV.subst k p v::PV.substs k p l
end
noncomputable def cS.subst (k:Nat) (p:PV):cS->cS
 |.list l=>.list (PV.substs k p l)
 |.obj c ns vs=>.obj c ns (PV.substs k p vs)
 |.dead=>.dead
noncomputable def cS.pv?:cS->Option PV
 |.list l=>some (.list l)
 |.obj c ns vs=>some (.obj c ns vs)
 |.dead=>Option.none
noncomputable def lP (cond:aE->MM Bool) (elt:aE->MM PV) (tgt:List String):List PV->MM (List PV)
 |[]=>MM.pure []
 |v::l=>MM.bind (bJ (i4 tgt v)) λb=>MM.bind (cond b) λt=>
   if t then MM.bind (elt b) λr=>MM.bind (lP cond elt tgt l) λrs=>MM.pure (r::rs)
   else lP cond elt tgt l
theorem u8 {cond:aE->MM Bool} {elt:aE->MM PV} {tgt:List String}:lP cond elt tgt []=MM.pure []:=rfl
noncomputable def compEnv (tgt:List String) (ρ b:aE):aE:=b++ρ.filter λp=>!(".0"::tgt).contains p.1
noncomputable def mE {α:Type} (x:MM α):MM α:=λσ=>match x σ with
 |.exc _=>.bad
 |r=>r
noncomputable def eO (x:MM PV):MM Bool:=MM.bind x λv=>bJ (iH v)
noncomputable def zV (cf:String->List PV->MM PV) (c f:String) (v:PV) (args:MM (List PV)):MM PV:=λσ=>match v with
 |.loc k=>(match σ[k]? with
  |some (.obj c' ns _)=>if c'=c/\ns.all (λx=>decide (x∈fieldsOf c))then MM.bind args (λl=>cf f (.loc k::l)) σ else .bad
  |_=>.bad)
 |_=>.bad
noncomputable def si (c:String) (frozen:Bool) (k:Nat) (r:PV):MM PV:=λσ=>match r with
 |.none=>if frozen then(match σ[k]? with
   |some (.obj c' ns vs)=>if c'=c then .ok (.obj c ns vs) (σ.set k .dead)else .bad
   |_=>.bad)
  else .ok (.loc k) σ
 |_=>.bad
noncomputable def qg (cf:String->List PV->MM PV) (c:String) (frozen:Bool) (ini:String) (l:List PV):MM PV:=λσ=>
 MM.bind (cf ini (.loc σ.length::l)) (si c frozen σ.length) (σ++[.obj c [] []])
noncomputable def q0 {α:Type} (f:ah->Option (α×ah)):MM α:=λσ=>match f σ with
 |some r=>.ok r.1 r.2
 |Option.none=>.bad
noncomputable def listAt (σ:ah) (k:Nat):Option (List PV):=(σ[k]?).bind cS.lst?
noncomputable def vm (v:PV) (l:List PV):MM PV:=q0 λσ=>HF (λk=>td (λx=>(listAt σ k).bind λl=>if l.length<dm then some (.none,σ.set k (.list (l++[x])))else Option.none) l) v
noncomputable def I6 (v:PV) (a:List PV):MM PV:=q0 λσ=>HF (λk=>(listAt σ k).bind λl=>if a.length=0/\l.length<=dm then l.getLast?.bind λx=>some (x,σ.set k (.list l.dropLast))else Option.none) v
noncomputable def vy (m:String) (v:PV) (l:List PV):MM PV:=match m with
 |"append"=>vm v l
 |"pop"=>I6 v l
 |m=>bJ (smV m v l)
noncomputable def jB (σ:ah) (m:String) (v:PV):Bool:=match m with
 |"append"=>(HF (listAt σ) v).isSome
 |"pop"=>(HF (listAt σ) v).isSome
 |"count"=>(zH some v).isSome
 |_=>(xW some v).isSome
noncomputable def cC {α:Type} (f:ah->Option α):MM α:=λσ=>match f σ with|some r=>.ok r σ|Option.none=>.bad
section
variable (cf:String->List PV->MM PV)
mutual
noncomputable def bu (ρ:aE):ME->MM PV
 |.var x=>bJ (ρ.lookup x)
 |.glob x=>bJ (ua x)
 |.cint i=>MM.pure (.int i)
 |.cstr s=>MM.pure (.str (aa s))
 |.cnone=>MM.pure .none
 |.cbool b=>MM.pure (.bool b)
 |.list es=>MM.bind (eP ρ es) λl=>bJ (gb l)
 |.newl es=>MM.bind (eP ρ es) λl σ=>if l.length<=dm then .ok (.loc σ.length) (σ++[.list l])else .bad
 |.tup es=>MM.bind (eP ρ es) λl=>MM.pure (.tup l)
 |.bin op a b=>MM.bind (bu ρ a) λx=>MM.bind (bu ρ b) λy=>bJ (jO op x y)
 |.cmp op a b=>MM.bind (bu ρ a) λx=>MM.bind (bu ρ b) λy=>bJ (jF op x y)
 |.not a=>MM.bind (eO (bu ρ a)) λb=>MM.pure (.bool !b)
 |.band a b=>MM.bind (bu ρ a) λx=>MM.bind (bJ x.bool?) λt=>if t then bu ρ b else MM.pure x
 |.bor a b=>MM.bind (bu ρ a) λx=>MM.bind (bJ x.bool?) λt=>if t then MM.pure x else bu ρ b
 |.ite c a b=>MM.bind (eO (bu ρ c)) λt=>if t then bu ρ a else bu ρ b
 |.attr e x=>MM.bind (bu ρ e) λv=>cC λσ=>j6 σ v x
 |.idx e i=>MM.bind (bu ρ e) λv=>MM.bind (bu ρ i) λi=>cC λσ=>nR σ v i
 |.slc e lo hi=>MM.bind (bu ρ e) λv=>MM.bind (Ai ρ lo) λlo=>MM.bind (Ai ρ hi) λhi=>bJ (pb v lo hi)
 |.rev e=>MM.bind (bu ρ e) λv=>match v with|.list l=>bJ (if l.length<=dm then some (.list l.reverse)else Option.none)|_=>MM.bad
 |.isin e cs=>MM.bind (bu ρ e) λv=>bJ ((D6 v).map λc=>.bool (cs.contains c))
 |.call f args=>MM.bind (eP ρ args) λl=>cf f l
 |.meth o c f args=>MM.bind (bu ρ o) λv=>zV cf c f v (eP ρ args)
 |.new c frozen ini args=>MM.bind (eP ρ args) λl=>qg cf c frozen ini l
 |.bi f args=>MM.bind (eP ρ args) λl=>cC λσ=>sE σ f l
 |.sm m o args=>MM.bind (bu ρ o) λv σ=>if jB σ m v then MM.bind (eP ρ args) (λl=>vy m v l) σ else .bad
 |.copyl e=>MM.bind (bu ρ e) λv=>match v with|.list l=>(λσ=>if l.length<=dm then .ok (.loc σ.length) (σ++[.list l])else .bad)|_=>MM.bad
 |.comp elt tgt kind it cond=>MM.bind (bu ρ it) λv=>MM.bind (bJ (pU kind v)) λl=>
   MM.bind (mE (lP (λb=>match cond with
    |Option.none=>MM.pure true
    |some c=>eO (bu (compEnv tgt ρ b) c))
    (λb=>bu (compEnv tgt ρ b) elt) tgt l)) λr=>bJ (if l.length<=dm then gb r else Option.none)
noncomputable def eP (ρ:aE):List ME->MM (List PV)
 |[]=>MM.pure []
 |e::es=>MM.bind (bu ρ e) λv=>MM.bind (eP ρ es) λvs=>MM.pure (v::vs)
noncomputable def Ai (ρ:aE):Option ME->MM (Option Int)
 |Option.none=>MM.pure Option.none
 |some e=>MM.bind (bu ρ e) λv=>match v with|.int i=>MM.pure (some i)|_=>MM.bad
end
theorem sd {ρ:aE}:eP cf ρ []=MM.pure []:=rfl
theorem se {ρ:aE} {e:ME} {es:List ME}:eP cf ρ (e::es)=MM.bind (bu cf ρ e) λv=>MM.bind (eP cf ρ es) λvs=>MM.pure (v::vs):=rfl
noncomputable def oj (σ:ah) (o i v:PV):Option ah:=HF (λk=>kW (λi=>(listAt σ k).bind λl=>if 0<=i/\i<l.length/\l.length<=dm then some (σ.set k (.list (l.set i.toNat v)))else Option.none) i) o
noncomputable def cS.put? (x:String) (v:PV):cS->Option cS
 |.obj c ns vs=>if x∈fieldsOf c/\ns.length<=100 then some (.obj c (setField ns vs x v).1 (setField ns vs x v).2)else Option.none
 |_=>Option.none
noncomputable def dC (σ:ah) (o:PV) (x:String) (v:PV):Option ah:=HF (λk=>((σ[k]?).bind (cS.put? x v)).map (σ.set k)) o
mutual
noncomputable def iu (ρ:aE):MT->PV->MM aE
 |.var x,v=>MM.pure (ig ρ x v)
 |.tup l,v=>match v with
  |.tup vs=>if vs.length=l.length then gi ρ l vs else MM.bad
  |_=>MM.bad
 |.attr o x,v=>MM.bind (bu cf ρ o) λov σ=>match dC σ ov x v with|some aF=>.ok ρ aF|Option.none=>.bad
 |.idx o i,v=>MM.bind (bu cf ρ o) λov=>MM.bind (bu cf ρ i) λiv σ=>match oj σ ov iv v with|some aF=>.ok ρ aF|Option.none=>.bad
noncomputable def gi (ρ:aE):List MT->List PV->MM aE
 |t::ts,v::vs=>MM.bind (iu ρ t v) λf7=>gi f7 ts vs
 |_,_=>MM.pure ρ
end
noncomputable def ub (body:aE->MM (Flow×aE)) (tgt:List String):List PV->aE->MM (Flow×aE)
 |[],ρ=>MM.pure (.next,ρ)
 |v::l,ρ=>MM.bind (bJ (i4 tgt v)) λb=>MM.bind (body (fY ρ b)) λr=>match r.1 with
  |.next=>ub body tgt l r.2
  |.brk=>MM.pure (.next,r.2)
  |.ret v=>MM.pure (.ret v,r.2)
noncomputable def uo (test:aE->MM Bool) (body:aE->MM (Flow×aE)):Nat->aE->MM (Flow×aE)
 |0,_=>MM.bad
 |w+1,ρ=>MM.bind (test ρ) λt=>if t then MM.bind (body ρ) λr=>match r.1 with
   |.next=>uo test body w r.2
   |.brk=>MM.pure (.next,r.2)
   |.ret v=>MM.pure (.ret v,r.2)
  else MM.pure (.next,ρ)
noncomputable def ir {α:Type} (x:MM α) (h:MM α):MM α:=λσ=>match x σ with
 |.ok a aF=>.ok a aF
 |.exc aF=>h aF
 |.bad=>.bad
noncomputable def I1 {α:Type}:MM α:=λσ=>.exc σ
noncomputable def qP (v:PV) (ρ:aE):MM aE:=λσ=>match v with
 |.loc k=>(match(σ[k]?).bind cS.pv? with
  |some p=>.ok (ρ.map λq=>(q.1,PV.subst k p q.2)) ((σ.set k .dead).map (cS.subst k p))
  |Option.none=>.bad)
 |_=>.bad
variable (w:Nat)
mutual
noncomputable def nB:MS->aE->MM (Flow×aE)
 |.assign t e,ρ=>MM.bind (bu cf ρ e) λv=>MM.bind (iu cf ρ t v) λf7=>MM.pure (.next,f7)
 |.aug o x e,ρ=>MM.bind (bu cf ρ o) λov=>MM.bind (cC λσ=>j6 σ ov x) λold=>MM.bind (bu cf ρ e) λv=>
   MM.bind (bJ (BV old v)) λr σ=>match dC σ ov x r with|some aF=>.ok (.next,ρ) aF|Option.none=>.bad
 |.expr e,ρ=>MM.bind (bu cf ρ e) λö=>MM.pure (.next,ρ)
 |.ifs c a b,ρ=>MM.bind (eO (bu cf ρ c)) λt=>if t then c9 a ρ else c9 b ρ
 |.while c b,ρ=>uo (λρ=>eO (bu cf ρ c)) (λρ=>c9 b ρ) w ρ
 |.for tgt kind it b,ρ=>MM.bind (bu cf ρ it) λv=>MM.bind (bJ (pU kind v)) λl=>ub (λρ=>c9 b ρ) tgt l ρ
 |.ret e,ρ=>MM.bind (bu cf ρ e) λv=>MM.pure (.ret v,ρ)
 |.raise e,ρ=>MM.bind (bu cf ρ e) λv=>MM.bind (bJ (v.str?.bind λs=>if s.length<=dm then some s else Option.none)) λö=>I1
 |.tryE Option.none e h,ρ=>ir (MM.bind (bu cf ρ e) λv=>MM.pure (.ret v,ρ)) (c9 h ρ)
 |.tryE (some x) e h,ρ=>ir (MM.bind (bu cf ρ e) λv=>MM.pure (.next,ig ρ x v)) (c9 h ρ)
 |.brk,ρ=>MM.pure (.brk,ρ)
 |.freeze e,ρ=>MM.bind (bu cf ρ e) λv=>MM.bind (qP v ρ) λf7=>MM.pure (.next,f7)
 |.bad,_=>MM.bad
noncomputable def c9:List MS->aE->MM (Flow×aE)
 |[],ρ=>MM.pure (.next,ρ)
 |s::l,ρ=>MM.bind (nB s ρ) λr=>match r.1 with
  |.next=>c9 l r.2
  |_=>MM.pure r
end
theorem rZ {ρ:aE}:c9 cf W [] ρ=MM.pure (.next,ρ):=rfl
theorem r8 {ρ:aE} {s:MS} {l:List MS}:c9 cf W (s::l) ρ=MM.bind (nB cf W s ρ) λr=>match r.1 with
  |.next=>c9 cf W l r.2
  |_=>MM.pure r:=rfl
end
structure oU where
 name:String
 params:List String
 body:List MS
noncomputable def ii (cf:String->List PV->MM PV) (w:Nat) (f:oU) (args:List PV):MM PV:=
 if f.params.length=args.length then MM.bind (c9 cf w f.body (f.params.zip args)) λr=>match r.1 with
  |.next=>MM.pure .none
  |.ret v=>MM.pure v
  |.brk=>MM.bad
 else MM.bad
noncomputable def kN (funs:List oU) (w:Nat):Nat->String->List PV->MM PV
 |0,_,_=>MM.bad
 |n+1,f,args=>match funs.find? (·.name==f)with
  |some d=>ii (kN funs w n) w d args
  |Option.none=>MM.bad
open PySem
noncomputable def yR:List MS:=
 [.assign (.attr (.var "self") "arguments") (.bi "list" [.var "arguments"])]
noncomputable def tu:List MS:=
 [.assign (.attr (.var "self") "arguments") (.copyl (.var "arguments"))]
noncomputable def qk:List MS:=
 [.assign (.attr (.var "self") "command") (.var "command"),
 .assign (.attr (.var "self") "path") (.var "path"),
 .assign (.attr (.var "self") "mode") (.var "mode"),
 .assign (.attr (.var "self") "descriptor") (.var "descriptor")]
noncomputable def w7:List MS:=
 [.assign (.attr (.var "self") "sign") (.var "sign"),
 .assign (.attr (.var "self") "left") (.var "left"),
 .assign (.attr (.var "self") "right") (.var "right")]
noncomputable def w8:List MS:=
 [.assign (.attr (.var "self") "command") (.var "command")]
noncomputable def sI:List MS:=
 [.assign (.attr (.var "self") "line") (.var "line"),
 .assign (.attr (.var "self") "place") (.cint 0),
 .assign (.attr (.var "self") "deep") (.cint 0)]
noncomputable def qj:List MS:=
 [.aug (.var "self") "deep" (.cint 1),
 .ifs (.cmp .gt (.attr (.var "self") "deep") (.glob "DEEPEST")) [.raise (.cstr "too deep")] [],
 .ret (.bin .sub (.attr (.var "self") "deep") (.cint 1))]
noncomputable def pH:List MS:=
 [.while (.band (.cmp .lt (.attr (.var "self") "place") (.bi "len" [.attr (.var "self") "line"])) (.cmp .isin (.idx (.attr (.var "self") "line") (.attr (.var "self") "place")) (.glob "BLANKS"))) [.aug (.var "self") "place" (.cint 1)]]
noncomputable def oK:List MS:=
 [.expr (.meth (.var "self") "Scanner" "Scanner.blanks" []),
 .ret (.band (.cmp .lt (.attr (.var "self") "place") (.bi "len" [.attr (.var "self") "line"])) (.cmp .isin (.idx (.attr (.var "self") "line") (.attr (.var "self") "place")) (.var "signs")))]
noncomputable def pI:List MS:=
 [.expr (.meth (.var "self") "Scanner" "Scanner.blanks" []),
 .ret (.cmp .eq (.attr (.var "self") "place") (.bi "len" [.attr (.var "self") "line"]))]
noncomputable def sH:List MS:=
 [.assign (.var "found") (.idx (.attr (.var "self") "line") (.attr (.var "self") "place")),
 .aug (.var "self") "place" (.cint 1),
 .ifs (.band (.cmp .eq (.var "found") (.cstr ">")) (.band (.cmp .lt (.attr (.var "self") "place") (.bi "len" [.attr (.var "self") "line"])) (.cmp .eq (.idx (.attr (.var "self") "line") (.attr (.var "self") "place")) (.cstr ">")))) [.aug (.var "self") "place" (.cint 1),
  .ret (.cstr ">>")] [],
 .ret (.var "found")]
noncomputable def oO:List MS:=
 [.ret (.band (.not (.meth (.var "self") "Scanner" "Scanner.at_end" [])) (.cmp .notin (.idx (.attr (.var "self") "line") (.attr (.var "self") "place")) (.glob "SIGNS")))]
noncomputable def sG:List MS:=
 [.expr (.meth (.var "self") "Scanner" "Scanner.blanks" []),
 .assign (.var "begin") (.attr (.var "self") "place"),
 .while (.band (.cmp .lt (.attr (.var "self") "place") (.bi "len" [.attr (.var "self") "line"])) (.cmp .notin (.idx (.attr (.var "self") "line") (.attr (.var "self") "place")) (.bin .add (.glob "BLANKS") (.glob "SIGNS")))) [.aug (.var "self") "place" (.cint 1)],
 .ret (.slc (.attr (.var "self") "line") (some (.var "begin")) (some (.attr (.var "self") "place")))]
noncomputable def AC:List MS:=
 [.ifs (.not (.isin (.var "line") ["str"])) [.bad] [],
 .ifs (.cmp .ne (.comp (.var "sign") ["sign"] "str" (.var "line") (some (.cmp .gt (.bi "ord" [.var "sign"]) (.cint 255)))) (.list [])) [.raise (.cstr "a sign that is no octet")] [],
 .assign (.var "scanner") (.new "Scanner" false "Scanner.__init__" [.var "line"]),
 .assign (.var "found") (.call "parse_line" [.var "scanner"]),
 .ifs (.not (.meth (.var "scanner") "Scanner" "Scanner.at_end" [])) [.raise (.bin .add (.cstr "leftovers: ") (.slc (.attr (.var "scanner") "line") (some (.attr (.var "scanner") "place")) Option.none))] [],
 .ret (.var "found")]
noncomputable def jt:List MS:=
 [.assign (.var "deep") (.meth (.var "scanner") "Scanner" "Scanner.enter" []),
 .assign (.var "found") (.call "parse_pipe" [.var "scanner"]),
 .while (.meth (.var "scanner") "Scanner" "Scanner.next_is" [.cstr "&"]) [.expr (.meth (.var "scanner") "Scanner" "Scanner.sign" []),
  .expr (.meth (.var "scanner") "Scanner" "Scanner.enter" []),
  .assign (.var "found") (.new "Back" true "Back.__init__" [.var "found"])],
 .ifs (.meth (.var "scanner") "Scanner" "Scanner.next_is" [.cstr ";"]) [.expr (.meth (.var "scanner") "Scanner" "Scanner.sign" []),
  .assign (.attr (.var "scanner") "deep") (.bin .add (.var "deep") (.cint 1)),
  .assign (.var "found") (.new "Pair" true "Pair.__init__" [.cstr ";",.var "found",.call "parse_line" [.var "scanner"]])] [],
 .assign (.attr (.var "scanner") "deep") (.var "deep"),
 .ret (.var "found")]
noncomputable def vf:List MS:=
 [.assign (.var "deep") (.meth (.var "scanner") "Scanner" "Scanner.enter" []),
 .assign (.var "found") (.call "parse_command" [.var "scanner"]),
 .ifs (.meth (.var "scanner") "Scanner" "Scanner.next_is" [.cstr "|"]) [.expr (.meth (.var "scanner") "Scanner" "Scanner.sign" []),
  .assign (.attr (.var "scanner") "deep") (.bin .add (.var "deep") (.cint 1)),
  .assign (.var "found") (.new "Pair" true "Pair.__init__" [.cstr "|",.var "found",.call "parse_pipe" [.var "scanner"]])] [],
 .assign (.attr (.var "scanner") "deep") (.var "deep"),
 .ret (.var "found")]
noncomputable def fZ:List MS:=
 [.while (.meth (.var "scanner") "Scanner" "Scanner.next_is" [.cstr "<>"]) [.expr (.meth (.var "scanner") "Scanner" "Scanner.enter" []),
  .assign (.var "sign") (.meth (.var "scanner") "Scanner" "Scanner.sign" []),
  .ifs (.not (.meth (.var "scanner") "Scanner" "Scanner.is_word" [])) [.raise (.cstr "missing file for redirection")] [],
  .assign (.var "path") (.meth (.var "scanner") "Scanner" "Scanner.word" []),
  .ifs (.cmp .eq (.var "sign") (.cstr "<")) [.assign (.var "command") (.new "Redirect" true "Redirect.__init__" [.var "command",.var "path",.glob "READ",.glob "INPUT"])] [.ifs (.cmp .eq (.var "sign") (.cstr ">")) [.assign (.var "command") (.new "Redirect" true "Redirect.__init__" [.var "command",.var "path",.bin .bor (.bin .bor (.glob "WRITE") (.glob "CREATE")) (.glob "EMPTY"),.glob "OUTPUT"])] [.assign (.var "command") (.new "Redirect" true "Redirect.__init__" [.var "command",.var "path",.bin .bor (.bin .bor (.glob "WRITE") (.glob "CREATE")) (.glob "AT_END"),.glob "OUTPUT"])]]],
 .ret (.var "command")]
noncomputable def tq:List MS:=
 [.expr (.meth (.var "scanner") "Scanner" "Scanner.sign" []),
 .assign (.var "found") (.call "parse_line" [.var "scanner"]),
 .ifs (.not (.meth (.var "scanner") "Scanner" "Scanner.next_is" [.cstr ")"])) [.raise (.cstr "missing )")] [],
 .expr (.meth (.var "scanner") "Scanner" "Scanner.sign" []),
 .ret (.call "parse_redirects" [.var "scanner",.var "found"])]
noncomputable def d6:List MS:=
 [.ifs (.meth (.var "scanner") "Scanner" "Scanner.next_is" [.cstr "("]) [.ret (.call "parse_block" [.var "scanner"])] [],
 .assign (.var "program") (.new "Run" false "Run.__init__mut" [.list []]),
 .assign (.var "found") (.call "parse_redirects" [.var "scanner",.var "program"]),
 .while (.band (.not (.meth (.var "scanner") "Scanner" "Scanner.at_end" [])) (.not (.meth (.var "scanner") "Scanner" "Scanner.next_is" [.cstr "|)&;"]))) [.ifs (.not (.meth (.var "scanner") "Scanner" "Scanner.is_word" [])) [.raise (.cstr "syntax")] [],
  .ifs (.cmp .eq (.bi "len" [.attr (.var "program") "arguments"]) (.bin .sub (.glob "MOST_ARGUMENTS") (.cint 1))) [.raise (.cstr "too many arguments")] [],
  .expr (.sm "append" (.attr (.var "program") "arguments") [.meth (.var "scanner") "Scanner" "Scanner.word" []]),
  .assign (.var "found") (.call "parse_redirects" [.var "scanner",.var "found"])],
 .freeze (.attr (.var "program") "arguments"),
 .freeze (.var "program"),
 .ret (.var "found")]
noncomputable def BQ:List MS:=
 [.ifs (.isin (.var "tree") ["Run"]) [.ret (.sm "join" (.cstr " ") [.attr (.var "tree") "arguments"])] [],
 .ifs (.isin (.var "tree") ["Redirect"]) [.assign (.var "sign") (.ite (.cmp .eq (.attr (.var "tree") "mode") (.glob "READ")) (.cstr "<") (.ite (.bin .band (.attr (.var "tree") "mode") (.glob "EMPTY")) (.cstr ">") (.cstr ">>"))),
  .ret (.sm "strip" (.bin .add (.bin .add (.bin .add (.bin .add (.call "grouped" [.attr (.var "tree") "command"]) (.cstr " ")) (.var "sign")) (.cstr " ")) (.attr (.var "tree") "path")) [])] [],
 .ifs (.isin (.var "tree") ["Back"]) [.ret (.bin .add (.ite (.isin (.attr (.var "tree") "command") ["Back"]) (.call "text_of" [.attr (.var "tree") "command"]) (.call "piped" [.attr (.var "tree") "command"])) (.cstr " &"))] [],
 .ifs (.cmp .eq (.attr (.var "tree") "sign") (.cstr "|")) [.ret (.bin .add (.bin .add (.call "grouped" [.attr (.var "tree") "left"]) (.cstr " | ")) (.call "piped" [.attr (.var "tree") "right"]))] [],
 .assign (.var "left") (.ite (.isin (.attr (.var "tree") "left") ["Back"]) (.call "text_of" [.attr (.var "tree") "left"]) (.call "piped" [.attr (.var "tree") "left"])),
 .ret (.bin .add (.bin .add (.var "left") (.cstr " ; ")) (.call "text_of" [.attr (.var "tree") "right"]))]
noncomputable def BS:List MS:=
 [.ret (.ite (.isin (.var "tree") ["Run","Redirect"]) (.call "text_of" [.var "tree"]) (.bin .add (.bin .add (.cstr "( ") (.call "text_of" [.var "tree"])) (.cstr " )")))]
noncomputable def G7:List MS:=
 [.ifs (.bor (.isin (.var "tree") ["Back"]) (.band (.isin (.var "tree") ["Pair"]) (.cmp .eq (.attr (.var "tree") "sign") (.cstr ";")))) [.ret (.bin .add (.bin .add (.cstr "( ") (.call "text_of" [.var "tree"])) (.cstr " )"))] [],
 .ret (.call "text_of" [.var "tree"])]
noncomputable def BR:List MS:=
 [.assign (.tup [.var "left",.var "seed"]) (.tup [.cint 0,.cint 101]),
 .for ["cell"] "" (.slc (.var "script") Option.none (some (.cint 63))) [.assign (.var "seed") (.bin .mod (.bin .add (.bin .add (.bin .mul (.var "seed") (.cint 30011)) (.bin .mul (.var "cell") (.cint 9176))) (.cint 7)) (.cint 2147483629)),
  .ifs (.band (.cmp .eq (.var "left") (.cint 0)) (.cmp .ge (.bi "abs" [.var "cell"]) (.bin .pow (.cint 10) (.cint 18)))) [.assign (.var "left") (.bin .mod (.bi "abs" [.var "cell"]) (.bin .pow (.cint 10) (.cint 120)))] []],
 .ret (.newl [.var "left",.var "seed"])]
noncomputable def yN:List MS:=
 [.ifs (.cmp .gt (.idx (.var "box") (.cint 0)) (.cint 0)) [.assign (.tup [.idx (.var "box") (.cint 0),.var "digit"]) (.bi "divmod" [.idx (.var "box") (.cint 0),.var "many"]),
  .ret (.var "digit")] [],
 .assign (.idx (.var "box") (.cint 1)) (.bin .mod (.bin .add (.bin .mul (.idx (.var "box") (.cint 1)) (.cint 16807)) (.cint 12345)) (.cint 2147483647)),
 .ret (.bin .mod (.bin .fdiv (.idx (.var "box") (.cint 1)) (.cint 64)) (.var "many"))]
noncomputable def vh:List MS:=
 [.ifs (.cmp .eq (.var "way") (.cint 0)) [.assign (.tup [.var "path",.var "kind"]) (.tup [.idx (.list [.cstr "f",.cstr "../g"]) (.call "_law_take" [.var "box",.cint 2]),.call "_law_take" [.var "box",.cint 3]]),
  .ret (.new "Redirect" true "Redirect.__init__" [.var "tree",.var "path",.idx (.list [.cint 0,.cint 1537,.cint 2561]) (.var "kind"),.bi "min" [.cint 1,.var "kind"]])] [],
 .ifs (.cmp .eq (.var "way") (.cint 1)) [.ret (.new "Back" true "Back.__init__" [.var "tree"])] [],
 .assign (.var "sign") (.ite (.cmp .lt (.var "way") (.cint 4)) (.cstr ";") (.cstr "|")),
 .ret (.ite (.cmp .eq (.bin .mod (.var "way") (.cint 2)) (.cint 0)) (.new "Pair" true "Pair.__init__" [.var "sign",.var "other",.var "tree"]) (.new "Pair" true "Pair.__init__" [.var "sign",.var "tree",.var "other"]))]
noncomputable def yP:List MS:=
 [.assign (.var "many") (.idx (.list [.cint 1,.cint 0,.cint 2,.cint 1,.cint 1,.cint 1,.cint 1,.cint 0,.cint 1,.cint 2,.cint 3,.cint 9]) (.call "_law_take" [.var "box",.cint 12])),
 .assign (.var "tree") (.new "Run" true "Run.__init__" [.comp (.idx (.list [.cstr "a",.cstr "bc",.cstr "-d",.cstr "e.f",.cstr "/",.cstr "'g'"]) (.call "_law_take" [.var "box",.cint 6])) ["k"] "range" (.var "many") Option.none]),
 .ret (.ite (.cmp .eq (.call "_law_take" [.var "box",.cint 2]) (.cint 0)) (.call "_law_around" [.var "box",.cint 0,.var "tree",.var "tree"]) (.var "tree"))]
noncomputable def sF:List MS:=
 [.assign (.tup [.var "way",.var "goal"]) (.tup [.call "_law_take" [.var "box",.cint 6],.bin .add (.cint 28) (.call "_law_take" [.var "box",.cint 4])]),
 .assign (.var "rest") (.bin .sub (.var "goal") (.call "_law_deepest" [.call "_law_split" [.call "text_of" [.var "tree"]]])),
 .for ["turn"] "range" (.idx (.list [.bin .sub (.var "goal") (.cint 2),.bin .sub (.var "goal") (.cint 1),.var "rest",.bin .fdiv (.bin .add (.var "rest") (.cint 2)) (.cint 2),.var "rest",.bin .fdiv (.bin .add (.var "rest") (.cint 2)) (.cint 2)]) (.var "way")) [.assign (.var "tree") (.call "_law_around" [.var "box",.var "way",.var "tree",.new "Run" true "Run.__init__" [.bin .mul (.list [.cstr "e"]) (.call "_law_take" [.var "box",.cint 2])]])],
 .ret (.var "tree")]
noncomputable def ek:List MS:=
 [.assign (.tup [.var "tree",.var "aside",.var "is_deep"]) (.tup [.call "_law_leaf" [.var "box"],.list [],.band (.not (.var "is_small")) (.cmp .eq (.call "_law_take" [.var "box",.cint 3]) (.cint 0))]),
 .for ["turn"] "range" (.ite (.var "is_small") (.cint 2) (.ite (.var "is_deep") (.call "_law_take" [.var "box",.cint 3]) (.bin .add (.cint 1) (.call "_law_take" [.var "box",.cint 7])))) [.assign (.var "way") (.call "_law_take" [.var "box",.cint 8]),
  .ifs (.cmp .gt (.var "way") (.cint 5)) [.assign (.tup [.var "aside",.var "tree"]) (.tup [.bin .add (.var "aside") (.list [.var "tree"]),.call "_law_leaf" [.var "box"]])] [.ifs (.band (.cmp .gt (.var "way") (.cint 1)) (.cmp .ne (.var "aside") (.list []))) [.assign (.tup [.var "tree",.var "aside"]) (.tup [.call "_law_around" [.var "box",.var "way",.var "tree",.idx (.var "aside") (.cint (-1))],.slc (.var "aside") Option.none (some (.cint (-1)))])] [.assign (.var "tree") (.call "_law_around" [.var "box",.var "way",.var "tree",.ite (.cmp .gt (.var "way") (.cint 1)) (.call "_law_leaf" [.var "box"]) (.var "tree")])]]],
 .for ["other"] "" (.var "aside") [.assign (.var "tree") (.call "_law_around" [.var "box",.bin .add (.cint 2) (.call "_law_take" [.var "box",.cint 4]),.var "tree",.var "other"])],
 .ifs (.var "is_deep") [.ret (.call "_law_deepened" [.var "box",.var "tree"])] [],
 .assign (.var "way") (.idx (.list [.cint 5,.cint 0,.cint 3,.cint 4]) (.call "_law_take" [.var "box",.cint 4])),
 .ret (.call "_law_around" [.var "box",.var "way",.var "tree",.ite (.cmp .gt (.var "way") (.cint 1)) (.call "_law_leaf" [.var "box"]) (.var "tree")])]
noncomputable def w4:List MS:=
 [.ret (.comp (.var "mark") ["mark"] "" (.sm "split" (.var "line") [.cstr " "]) (some (.cmp .ne (.var "mark") (.cstr ""))))]
noncomputable def yQ:List MS:=
 [.ifs (.isin (.var "tree") ["Run"]) [.ret (.bin .add (.list [.bi "len" [.attr (.var "tree") "arguments"]]) (.attr (.var "tree") "arguments"))] [],
 .ifs (.isin (.var "tree") ["Redirect"]) [.ret (.bin .add (.list [.tup [.attr (.var "tree") "path",.attr (.var "tree") "mode",.attr (.var "tree") "descriptor"]]) (.call "_law_flat" [.attr (.var "tree") "command"]))] [],
 .ifs (.isin (.var "tree") ["Back"]) [.ret (.bin .add (.list [.cstr "&"]) (.call "_law_flat" [.attr (.var "tree") "command"]))] [],
 .ret (.bin .add (.bin .add (.list [.attr (.var "tree") "sign"]) (.call "_law_flat" [.attr (.var "tree") "left"])) (.call "_law_flat" [.attr (.var "tree") "right"]))]
noncomputable def yO:List MS:=
 [.tryE Option.none (.call "_law_flat" [.call "parse" [.var "line"]]) [.ret (.cnone)]]
noncomputable def w6:List MS:=
 [.assign (.tup [.var "line",.var "element",.var "pipe",.var "command"]) (.tup [.cint 999,.cint 999,.cint 999,.cint 999]),
 .ifs (.isin (.var "tree") ["Run"]) [.assign (.var "command") (.bi "len" [.attr (.var "tree") "arguments"])] [.ifs (.isin (.var "tree") ["Redirect"]) [.assign (.var "command") (.bin .add (.cint 2) (.idx (.call "_law_least" [.attr (.var "tree") "command"]) (.cint 3)))] [.ifs (.isin (.var "tree") ["Back"]) [.assign (.var "element") (.bin .add (.cint 1) (.idx (.call "_law_least" [.attr (.var "tree") "command"]) (.cint 1)))] [.assign (.tup [.var "ahead",.var "behind"]) (.tup [.call "_law_least" [.attr (.var "tree") "left"],.call "_law_least" [.attr (.var "tree") "right"]]),
    .ifs (.cmp .eq (.attr (.var "tree") "sign") (.cstr ";")) [.assign (.var "line") (.bin .add (.bin .add (.idx (.var "ahead") (.cint 1)) (.cint 1)) (.idx (.var "behind") (.cint 0)))] [.assign (.var "pipe") (.bin .add (.bin .add (.idx (.var "ahead") (.cint 3)) (.cint 1)) (.idx (.var "behind") (.cint 2)))]]]],
 .assign (.var "pipe") (.bi "min" [.var "pipe",.var "command"]),
 .assign (.var "element") (.bi "min" [.var "element",.var "pipe"]),
 .assign (.var "line") (.bi "min" [.var "line",.var "element"]),
 .assign (.var "command") (.bi "min" [.var "command",.bin .add (.cint 2) (.var "line")]),
 .ret (.list [.var "line",.bi "min" [.var "element",.var "command"],.bi "min" [.var "pipe",.var "command"],.var "command"])]
noncomputable def tr:List MS:=
 [.assign (.tup [.var "first",.var "level",.var "more",.var "most",.var "held"]) (.tup [.cint 2,.cint 2,.cint 0,.cint 2,.newl []]),
 .for ["mark"] "" (.var "marks") [.ifs (.cmp .eq (.var "mark") (.cstr "(")) [.expr (.sm "append" (.var "held") [.tup [.var "first",.var "level"]]),
   .assign (.tup [.var "first",.var "level",.var "more"]) (.tup [.bin .add (.var "level") (.cint 2),.bin .add (.var "level") (.cint 2),.cint 0])] [.ifs (.cmp .eq (.var "mark") (.cstr ")")) [.assign (.tup [.var "first",.var "level"]) (.sm "pop" (.var "held") []),
    .assign (.var "more") (.cint 0)] [.ifs (.cmp .eq (.var "mark") (.cstr ";")) [.assign (.tup [.var "first",.var "level",.var "more"]) (.tup [.bin .add (.var "first") (.cint 1),.bin .add (.var "first") (.cint 1),.cint 0])] [.ifs (.cmp .eq (.var "mark") (.cstr "|")) [.assign (.tup [.var "level",.var "more"]) (.tup [.bin .add (.var "level") (.cint 1),.cint 0])] [.ifs (.cmp .eq (.var "mark") (.cstr "&")) [.assign (.tup [.var "level",.var "more"]) (.tup [.bin .sub (.var "first") (.cint 1),.bin .add (.cint 1) (.ite (.cmp .lt (.var "level") (.var "first")) (.var "more") (.cint 0))])] [.ifs (.cmp .isin (.var "mark") (.tup [.cstr "<",.cstr ">",.cstr ">>"])) [.assign (.var "more") (.bin .add (.var "more") (.cint 1))] []]]]]],
  .assign (.var "most") (.bi "max" [.var "most",.bin .add (.var "level") (.var "more")])],
 .ret (.var "most")]
noncomputable def w5:List MS:=
 [.assign (.tup [.var "found",.var "held"]) (.tup [.newl [],.newl []]),
 .for ["at","mark"] "enumerate" (.var "marks") [.ifs (.cmp .eq (.var "mark") (.cstr "(")) [.expr (.sm "append" (.var "held") [.var "at"])] [.ifs (.cmp .eq (.var "mark") (.cstr ")")) [.expr (.sm "append" (.var "found") [.tup [.sm "pop" (.var "held") [],.var "at"]])] []]],
 .freeze (.var "found"),
 .ret (.var "found")]
noncomputable def ei:List MS:=
 [.assign (.tup [.var "last",.var "own"]) (.tup [.cint 0,.cint 3]),
 .ifs (.isin (.var "tree") ["Run"]) [.assign (.var "marks") (.bi "list" [.attr (.var "tree") "arguments"])] [.ifs (.isin (.var "tree") ["Redirect"]) [.assign (.tup [.var "marks",.var "last"]) (.call "_law_written" [.var "box",.var "rare",.attr (.var "tree") "command",.cint 3,.var "pairs"]),
   .assign (.var "last") (.bin .add (.var "last") (.call "_law_take" [.var "box",.bin .add (.bin .sub (.bi "len" [.var "marks"]) (.var "last")) (.cint 1)])),
   .assign (.var "sign") (.ite (.cmp .eq (.attr (.var "tree") "mode") (.cint 0)) (.cstr "<") (.ite (.cmp .eq (.attr (.var "tree") "mode") (.cint 1537)) (.cstr ">") (.cstr ">>"))),
   .assign (.tup [.var "marks",.var "last"]) (.tup [.bin .add (.bin .add (.slc (.var "marks") Option.none (some (.var "last"))) (.list [.var "sign",.attr (.var "tree") "path"])) (.slc (.var "marks") (some (.var "last")) Option.none),.bin .add (.var "last") (.cint 2)])] [.ifs (.isin (.var "tree") ["Back"]) [.assign (.tup [.var "marks",.var "own"]) (.tup [.bin .add (.idx (.call "_law_written" [.var "box",.var "rare",.attr (.var "tree") "command",.cint 1,.var "pairs"]) (.cint 0)) (.list [.cstr "&"]),.cint 1])] [.assign (.tup [.var "own",.var "spot"]) (.ite (.cmp .eq (.attr (.var "tree") "sign") (.cstr ";")) (.tup [.cint 0,.cint 1]) (.tup [.cint 2,.cint 3])),
    .assign (.var "marks") (.bin .add (.idx (.call "_law_written" [.var "box",.var "rare",.attr (.var "tree") "left",.var "spot",.var "pairs"]) (.cint 0)) (.list [.attr (.var "tree") "sign"])),
    .assign (.var "marks") (.bin .add (.var "marks") (.idx (.call "_law_written" [.var "box",.var "rare",.attr (.var "tree") "right",.bin .sub (.var "spot") (.cint 1),.var "pairs"]) (.cint 0)))]]],
 .assign (.tup [.var "node",.var "many"]) (.tup [.bi "len" [.var "pairs"],.bi "max" [.cint 0,.bin .sub (.call "_law_take" [.var "box",.var "rare"]) (.bi "max" [.cint 5,.bin .sub (.var "rare") (.cint 3)])]]),
 .for ["k"] "range" (.bin .add (.bi "int" [.cmp .gt (.var "place") (.var "own")]) (.ite (.cmp .lt (.var "node") (.cint 14)) (.var "many") (.cint 0))) [.assign (.var "marks") (.bin .add (.bin .add (.list [.tup [.cstr "(",.bi "len" [.var "pairs"]]]) (.var "marks")) (.list [.tup [.cstr ")",.bi "len" [.var "pairs"]]])),
  .expr (.sm "append" (.var "pairs") [.tup [.var "node",.cmp .gt (.var "place") (.var "own")]]),
  .assign (.var "last") (.bi "len" [.var "marks"])],
 .ret (.tup [.var "marks",.var "last"])]
noncomputable def vg:List MS:=
 [.ret (.bin .add (.bi "len" [.var "marks"]) (.bin .mul (.cint 2) (.bin .add (.sm "count" (.var "marks") [.cstr ";"]) (.sm "count" (.var "marks") [.cstr "|"]))))]
noncomputable def gY:List MS:=
 [.assign (.tup [.var "rare",.var "pairs",.var "gone"]) (.tup [.idx (.list [.cint 8,.cint 40,.cint 1]) (.call "_law_take" [.var "box",.cint 3]),.newl [],.list []]),
 .assign (.var "marks") (.idx (.call "_law_written" [.var "box",.var "rare",.var "tree",.cint 0,.var "pairs"]) (.cint 0)),
 .freeze (.var "pairs"),
 .assign (.var "way") (.ite (.cmp .ne (.var "pairs") (.list [])) (.call "_law_take" [.var "box",.cint 3]) (.cint 0)),
 .ifs (.cmp .eq (.var "way") (.cint 1)) [.assign (.var "gone") (.list [.call "_law_take" [.var "box",.bi "len" [.var "pairs"]]])] [.ifs (.cmp .eq (.var "way") (.cint 2)) [.assign (.var "gone") (.comp (.var "k") ["k"] "range" (.bi "len" [.var "pairs"]) (some (.cmp .eq (.call "_law_take" [.var "box",.cint 4]) (.cint 0))))] []],
 .assign (.var "marks") (.comp (.ite (.isin (.var "mark") ["str"]) (.var "mark") (.idx (.var "mark") (.cint 0))) ["mark"] "" (.var "marks") (some (.bor (.isin (.var "mark") ["str"]) (.cmp .notin (.idx (.var "mark") (.cint 1)) (.var "gone"))))),
 .assign (.var "kept") (.comp (.idx (.idx (.var "pairs") (.var "k")) (.cint 0)) ["k"] "range" (.bi "len" [.var "pairs"]) (some (.cmp .notin (.var "k") (.var "gone")))),
 .assign (.var "found") (.call "_law_read" [.sm "join" (.cstr " ") [.var "marks"]]),
 .ifs (.cmp .ne (.comp (.var "node") ["node","is_needed"] "" (.var "pairs") (some (.band (.var "is_needed") (.cmp .notin (.var "node") (.var "kept"))))) (.list [])) [.ret (.ite (.cmp .ne (.var "found") (.var "flat")) (.var "marks") (.cnone))] [],
 .ret (.ite (.cmp .eq (.var "found") (.ite (.cmp .lt (.call "_law_deepest" [.var "marks"]) (.cint 31)) (.var "flat") (.cnone))) (.var "marks") (.cnone))]
noncomputable def wZ:List MS:=
 [.ret (.bi "sorted" [.comp (.var "mark") ["mark"] "" (.var "marks") (some (.cmp .notin (.var "mark") (.tup [.cstr "(",.cstr ")"])))])]
noncomputable def nE:List MS:=
 [.assign (.tup [.var "at",.var "way"]) (.tup [.call "_law_take" [.var "box",.bi "len" [.var "marks"]],.call "_law_take" [.var "box",.cint 3]]),
 .assign (.var "part") (.idx (.list [.list [],.list [.idx (.var "marks") (.var "at"),.idx (.var "marks") (.var "at")],.rev (.slc (.var "marks") (some (.var "at")) (some (.bin .add (.var "at") (.cint 2))))]) (.var "way")),
 .assign (.var "marks") (.bin .add (.bin .add (.slc (.var "marks") Option.none (some (.var "at"))) (.var "part")) (.slc (.var "marks") (some (.bin .add (.var "at") (.ite (.cmp .eq (.var "way") (.cint 2)) (.cint 2) (.cint 1)))) Option.none)),
 .tryE (some "tree") (.call "parse" [.sm "join" (.cstr " ") [.var "marks"]]) [.ret (.var "marks")],
 .assign (.var "said") (.call "_law_split" [.call "text_of" [.var "tree"]]),
 .ifs (.bor (.cmp .ne (.bi "len" [.var "said"]) (.idx (.call "_law_least" [.var "tree"]) (.cint 0))) (.bor (.cmp .gt (.bi "len" [.var "said"]) (.bi "len" [.var "marks"])) (.cmp .ne (.call "_law_words" [.var "said"]) (.call "_law_words" [.var "marks"])))) [.ret (.cnone)] [],
 .ret (.var "marks")]
noncomputable def oJ:List MS:=
 [.assign (.tup [.var "box",.var "is_small"]) (.tup [.call "_law_box" [.var "script"],.cmp .lt (.bi "len" [.var "script"]) (.cint 2)]),
 .assign (.var "tree") (.call "_law_grown" [.var "box",.var "is_small"]),
 .assign (.tup [.var "line",.var "flat"]) (.tup [.call "text_of" [.var "tree"],.call "_law_flat" [.var "tree"]]),
 .assign (.var "marks") (.call "_law_split" [.var "line"]),
 .ifs (.bor (.cmp .ne (.bi "len" [.var "marks"]) (.idx (.call "_law_least" [.var "tree"]) (.cint 0))) (.cmp .ne (.call "_law_read" [.var "line"]) (.ite (.cmp .lt (.call "_law_deepest" [.var "marks"]) (.cint 31)) (.var "flat") (.cnone)))) [.ret (.cbool false)] [],
 .assign (.tup [.var "pairs",.var "spent"]) (.tup [.call "_law_pairs" [.var "marks"],.call "_law_weight" [.var "marks"]]),
 .assign (.var "begin") (.call "_law_take" [.var "box",.bi "max" [.cint 1,.bi "len" [.var "pairs"]]]),
 .for ["k"] "range" (.bi "len" [.var "pairs"]) [.assign (.var "gone") (.idx (.var "pairs") (.bin .mod (.bin .add (.var "begin") (.var "k")) (.bi "len" [.var "pairs"]))),
  .ifs (.cmp .gt (.var "spent") (.cint 89)) [.brk] [],
  .ifs (.cmp .eq (.call "_law_read" [.sm "join" (.cstr " ") [.comp (.var "mark") ["at","mark"] "enumerate" (.var "marks") (some (.cmp .notin (.var "at") (.var "gone")))]]) (.var "flat")) [.ret (.cbool false)] [],
  .assign (.var "spent") (.bin .add (.var "spent") (.call "_law_weight" [.var "marks"]))],
 .for ["turn"] "range" (.ite (.var "is_small") (.cint 2) (.cint 5)) [.ifs (.cmp .gt (.var "spent") (.cint 199)) [.brk] [],
  .assign (.var "other") (.ite (.cmp .eq (.bin .mod (.var "turn") (.cint 2)) (.cint 0)) (.call "_law_thick" [.var "box",.var "tree",.var "flat"]) (.call "_law_changed" [.var "box",.var "marks"])),
  .ifs (.cmp .is_ (.var "other") (.cnone)) [.ret (.cbool false)] [],
  .assign (.var "spent") (.bin .add (.var "spent") (.call "_law_weight" [.var "other"]))],
 .ret (.cbool true)]
noncomputable def prog:List oU:=[
 ⟨"Run.__init__",["self","arguments"],yR⟩,
 ⟨"Run.__init__mut",["self","arguments"],tu⟩,
 ⟨"Redirect.__init__",["self","command","path","mode","descriptor"],qk⟩,
 ⟨"Pair.__init__",["self","sign","left","right"],w7⟩,
 ⟨"Back.__init__",["self","command"],w8⟩,
 ⟨"Scanner.__init__",["self","line"],sI⟩,
 ⟨"Scanner.enter",["self"],qj⟩,
 ⟨"Scanner.blanks",["self"],pH⟩,
 ⟨"Scanner.next_is",["self","signs"],oK⟩,
 ⟨"Scanner.at_end",["self"],pI⟩,
 ⟨"Scanner.sign",["self"],sH⟩,
 ⟨"Scanner.is_word",["self"],oO⟩,
 ⟨"Scanner.word",["self"],sG⟩,
 ⟨"parse",["line"],AC⟩,
 ⟨"parse_line",["scanner"],jt⟩,
 ⟨"parse_pipe",["scanner"],vf⟩,
 ⟨"parse_redirects",["scanner","command"],fZ⟩,
 ⟨"parse_block",["scanner"],tq⟩,
 ⟨"parse_command",["scanner"],d6⟩,
 ⟨"text_of",["tree"],BQ⟩,
 ⟨"grouped",["tree"],BS⟩,
 ⟨"piped",["tree"],G7⟩,
 ⟨"_law_box",["script"],BR⟩,
 ⟨"_law_take",["box","many"],yN⟩,
 ⟨"_law_around",["box","way","tree","other"],vh⟩,
 ⟨"_law_leaf",["box"],yP⟩,
 ⟨"_law_deepened",["box","tree"],sF⟩,
 ⟨"_law_grown",["box","is_small"],ek⟩,
 ⟨"_law_split",["line"],w4⟩,
 ⟨"_law_flat",["tree"],yQ⟩,
 ⟨"_law_read",["line"],yO⟩,
 ⟨"_law_least",["tree"],w6⟩,
 ⟨"_law_deepest",["marks"],tr⟩,
 ⟨"_law_pairs",["marks"],w5⟩,
 ⟨"_law_written",["box","rare","tree","place","pairs"],ei⟩,
 ⟨"_law_weight",["marks"],vg⟩,
 ⟨"_law_thick",["box","tree","flat"],gY⟩,
 ⟨"_law_words",["marks"],wZ⟩,
 ⟨"_law_changed",["box","marks"],nE⟩,
 ⟨"law",["script"],oJ⟩]
open PySem PySem.W PyProof.Rows PySem.Calls
set_option genCtorIdx true in
inductive lQ where
 |free|base|frz|pin|frm (L:Addr)|sto (k:Nat)
noncomputable def lQ.ix:lQ->Nat
 |.free=>0
 |.base=>1
 |.frz=>2
 |.pin=>3
 |.frm _=>4
 |.sto _=>5
theorem fN {t u v:lQ} (e:t=u) (h:(u.ix==v.ix)=false):t≠v:=λq=>by rw[<-e,q,beq_self_eq_true]at h;contradiction
structure Gh where
 tag:Addr->lQ
 at_:Nat->Addr
 n:Nat
structure PW where
 prog:Program
 w:World
 K:Frag
 B:Heap
 cls:String->Option Addr
 mg:Str->Option ag
 mb:Str->Option ag
 fa:String->Option Addr
noncomputable def jI:List DictEntry->List String->List ag->Prop
 |[],[],[]=>True
 |e::es,x::ns,v::vs=>(∃t,e.key=.str (aa x) t)/\e.val=v/\jI es ns vs
 |_,_,_=>False
theorem Kh {e:DictEntry} {es:List DictEntry} {x:String} {ns:List String} {v:ag} {vs:List ag}:jI (e::es) (x::ns) (v::vs)=((∃t,e.key=.str (aa x) t)/\e.val=v/\jI es ns vs):=rfl
noncomputable def BY (h:Heap) (a:Addr) (vs:List ag):Prop:=∃n,h.get? a=some {cls:=.type "list",data:=.seq vs.toArray n}
theorem BY.il {h:Heap} {a:Addr} {vs:List ag} (x:BY h a vs):h.IsList a vs.toArray:=let⟨n,e⟩:=x;⟨_,e,rfl,n,rfl⟩
section
variable (P:PW)
inductive Hc (g:Gh) (ok:Addr->List ag->Prop) (rs:List ag->Prop) (v:ag):Prop
 |mk (a:Addr) (vs:List ag):v=.ref a->g.tag a=.frz->ok a vs->rs vs->Hc g ok rs v
inductive My (g:Gh) (h:Heap) (c:String) (ns:List String) (rs:List ag->Prop) (v:ag):Prop
 |mk (a C dx:Addr) (es:List DictEntry) (n:Nat) (vs:List ag):v=.ref a->P.cls c=some C->g.tag a=.frz->g.tag dx=.frz->h.get? a=some (instObj C dx)->h.get? dx=some (dictOf es n)->jI es ns vs->rs vs->My g h c ns rs v
mutual
noncomputable def cR (g:Gh) (h:Heap):PV->ag->Prop
 |.none,v=>v=.none
 |.bool b,v=>v=.bool b
 |.int i,v=>∃t,v=.int i t
 |.str s,v=>∃t,v=.str s t
 |.tup l,v=>Hc g (λa vs=>IsTup h a vs.toArray) (aU g h l) v
 |.list l,v=>Hc g (BY h) (aU g h l) v
 |.arg l,v=>Hc g (λa vs=>h.IsList a vs.toArray) (aU g h l) v
 |.obj c ns ps,v=>My P g h c ns (aU g h ps) v
 |.loc k,v=>k<g.n/\v=.ref (g.at_ k)
noncomputable def aU (g:Gh) (h:Heap):List PV->List ag->Prop
 |[],[]=>True
 |p::ps,v::vs=>cR g h p v/\aU g h ps vs
 |_,_=>False
end
theorem Kg {P:PW} {g:Gh} {h:Heap} {p:PV} {ps:List PV} {v:ag} {vs:List ag}:aU P g h (p::ps) (v::vs)=(cR P g h p v/\aU P g h ps vs):=rfl
inductive H4 (g:Gh) (h:Heap) (k:Nat) (rs:List ag->Prop):Prop
 |mk:g.tag (g.at_ k)=.sto k->(vs:List ag)->BY h (g.at_ k) vs->rs vs->H4 g h k rs
inductive MI (g:Gh) (h:Heap) (k:Nat) (c:String) (ns:List String) (rs:List ag->Prop):Prop
 |mk:g.tag (g.at_ k)=.sto k->(C dx:Addr)->(es:List DictEntry)->(n:Nat)->(vs:List ag)->P.cls c=some C->g.tag dx=.sto k->h.get? (g.at_ k)=some (instObj C dx)->h.get? dx=some (dictOf es n)->jI es ns vs->rs vs->MI g h k c ns rs
noncomputable def lJ (g:Gh) (h:Heap) (k:Nat):cS->Prop
 |.dead=>True
 |.list l=>H4 g h k (aU P g h l)
 |.obj c ns ps=>MI P g h k c ns (aU P g h ps)
structure dq (g:Gh) (σ:ah) (h:Heap):Prop where
 base:∀a o,P.B.get? a=some o->h.get? a=some o/\g.tag a=.base
 n:σ.length=g.n
 cells:∀k c,σ[k]?=some c->lJ P g h k c
 live:∀a,g.tag a≠.free->(h.get? a).isSome=true
 frm:∀a M,g.tag a=.frm M->g.tag M=.frm M/\∃o,h.get? a=some o/\∀vs,o.data≠.fields vs
end
structure jj (h h':Heap) (a:Addr):Prop where
 ns:∀m,h.Ns a m->h'.Ns a m
 cel:∀v,h.IsCell a v->h'.IsCell a v
 fld:∀o,h.get? a=some o->(∀vs,o.data≠.fields vs)->∃o',h'.get? a=some o'/\∀vs,o'.data≠.fields vs
theorem jj.refl (h:Heap) (a:Addr):jj h h a:=⟨λö x=>x,λö x=>x,λo e d=>⟨o,e,d⟩⟩
theorem jj.trans {cL gI jQ:Heap} {a:Addr} (x:jj cL gI a) (y:jj gI jQ a):jj cL jQ a:=
 ⟨λm e=>y.ns m (x.ns m e),λv e=>y.cel v (x.cel v e),λo e d=>let⟨o',e',d'⟩:=x.fld o e d;y.fld o' e' d'⟩
theorem jj.of_slots {h h':Heap} {a:Addr} (x:∀o,h.get? a=some o->∃sl,h'.get? a=some {o with slots:=sl}):jj h h' a where
 ns m:=λ⟨o,es,ep,ho,hd,r⟩=>let⟨_,e⟩:=x o ho;⟨_,es,ep,e,hd,r⟩
 cel v:=λ⟨o,ho,hd⟩=>let⟨_,e⟩:=x o ho;⟨_,e,hd⟩
 fld o ho hd:=let⟨_,e⟩:=x o ho;⟨_,e,hd⟩
theorem jj.of_eq {h h':Heap} {a:Addr} (x:∀o,h.get? a=some o->h'.get? a=some o):jj h h' a:=.of_slots λo e=>⟨o.slots,x o e⟩
theorem jj.of_ns {h h':Heap} {a:Addr} {m:Str->Option ag} (x:h.Ns a m) (y:h'.Ns a m):jj h h' a where
 ns m':=λpz=>by
  refine Mine.Internal.cps λζ κ=>?_;obtain⟨o,es,ep,ho,hd,k,r⟩:=pz;obtain⟨lY,Ih,Ii,jk,qc,k₁,r₁⟩:=x;replace jk:=(ho)▸jk;refine κ ?_
  (injection jk;subst_vars)
  replace qc:=(hd)▸qc
  (injection qc;subst_vars)
  obtain rfl:m=m':=funext λz=>(r₁ z).symm.trans (r z);exact y
 cel v:=λpz=>by
  refine Mine.Internal.cps λζ κ=>?_;obtain⟨o,ho,hd⟩:=pz;obtain⟨lY,Ih,Ii,jk,qc,_⟩:=x;replace jk:=(ho)▸jk;refine κ ?_
  (injection jk;subst_vars)
  replace qc:=(hd)▸qc;contradiction
 fld _ _ _:=by
  obtain⟨lY,Ih,Ii,jk,qc,_⟩:=y;exact⟨lY,jk,λvs q=>by rw[qc]at q;contradiction⟩
structure dX (L:Option Addr) (g g':Gh) (h h':Heap):Prop where
 nle:g.n<=g'.n
 ateq:∀k,k<g.n->g'.at_ k=g.at_ k
 tag:∀a,g.tag a≠.free->(∀k,g.tag a≠.sto k)->g'.tag a=g.tag a
 tagS:∀a k,g.tag a=.sto k->g'.tag a=.sto k\/g'.tag a=.frz
 fix:∀a o,h.get? a=some o->(g.tag a=.base\/g.tag a=.frz\/g.tag a=.pin)->h'.get? a=some o
 frm:∀a M,g.tag a=.frm M->L≠some M->jj h h' a
theorem dX.refl (L:Option Addr) (g:Gh) (h:Heap):dX L g g h h where
 nle:=au _
 ateq _ _:=rfl
 tag _ _ _:=rfl
 tagS _ _ e:=.inl e
 fix _ _ e _:=e
 frm a _ _ _:=.refl h a
theorem dX.trans {L:Option Addr} {hR ju sT:Gh} {cL gI jQ:Heap} (x:dX L hR ju cL gI) (y:dX L ju sT gI jQ):dX L hR sT cL jQ where
 nle:=ae x.nle y.nle
 ateq k hk:=(y.ateq k (aO hk x.nle)).trans (x.ateq k hk)
 tag a h1 h2:=by
  have e:=x.tag a h1 h2;rw[<-e]at h1 h2;exact(y.tag a h1 h2).trans e
 tagS a k e:=by
  rcases x.tagS a k e with q|q
  ·exact y.tagS a k q
  ·right
   rw[y.tag a (by rw[q];simp) (by rw[q];simp),q]
 fix a o e t:=by
  have:ju.tag a=hR.tag a:=x.tag a (by rcases t with q|q|q<;>rw[q]<;>simp) (by rcases t with q|q|q<;>rw[q]<;>simp);exact y.fix a o (x.fix a o e t) (this.symm▸t)
 frm a M t hL:=by
  have:ju.tag a=hR.tag a:=x.tag a (by rw[t];simp) (by rw[t];simp);exact(x.frm a M t hL).trans (y.frm a M (this.trans t) hL)
theorem dX.weaken {L:Option Addr} {g g':Gh} {h h':Heap} (x:dX none g g' h h'):dX L g g' h h':=
 {x with frm:=λa M t ö=>x.frm a M t (by simp)}
section
variable {P:PW} {g g':Gh} {h h':Heap} {L:Option Addr}
theorem dX.tagZ (x:dX L g g' h h') {a:Addr} (t:g.tag a=.frz):g'.tag a=.frz:=(x.tag a (by rw[t];simp) (by rw[t];simp)).trans t
theorem dX.fixZ (x:dX L g g' h h') {a:Addr} {o:Obj} (e:h.get? a=some o) (t:g.tag a=.frz):h'.get? a=some o:=x.fix a o e (.inr (.inl t))
theorem dX.tagB (x:dX L g g' h h') {a:Addr} (t:g.tag a=.base):g'.tag a=.base:=(x.tag a (by rw[t];simp) (by rw[t];simp)).trans t
theorem dX.tagP (x:dX L g g' h h') {a:Addr} (t:g.tag a=.pin):g'.tag a=.pin:=(x.tag a (by rw[t];simp) (by rw[t];simp)).trans t
theorem dX.tagF (x:dX L g g' h h') {a M:Addr} (t:g.tag a=.frm M):g'.tag a=.frm M:=(x.tag a (by rw[t];simp) (by rw[t];simp)).trans t
mutual
theorem cR.mono (x:dX L g g' h h'):∀{p:PV} {v:ag},cR P g h p v->cR P g' h' p v
 |.none,_,r=>r
 |.bool _,_,r=>r
 |.int _,_,r=>r
 |.str _,_,r=>r
 |.tup l,v,r=>by
  obtain⟨a,vs,e,t,⟨o,ho,hc⟩,rs⟩:=r;exact⟨a,vs,e,x.tagZ t,⟨o,x.fixZ ho t,hc⟩,aU.mono x rs⟩
 |.arg l,v,r=>by
  obtain⟨a,vs,e,t,⟨o,ho,hc⟩,rs⟩:=r;exact⟨a,vs,e,x.tagZ t,⟨o,x.fixZ ho t,hc⟩,aU.mono x rs⟩
 |.list l,v,r=>by
  obtain⟨a,vs,e,t,⟨o,ho⟩,rs⟩:=r;exact⟨a,vs,e,x.tagZ t,⟨o,x.fixZ ho t⟩,aU.mono x rs⟩
 |.obj c ns ps,v,r=>by
  obtain⟨a,C,dx,es,n,vs,e,hc,t1,t2,h1,h2,f,rs⟩:=r;exact⟨a,C,dx,es,n,vs,e,hc,x.tagZ t1,x.tagZ t2,x.fixZ h1 t1,x.fixZ h2 t2,f,aU.mono x rs⟩
 |.loc k,v,r=>by
  exact⟨aO r.1 x.nle,((x.ateq k r.1).symm▸r.2)⟩
theorem aU.mono (x:dX L g g' h h'):∀{ps:List PV} {vs:List ag},aU P g h ps vs->aU P g' h' ps vs
 |[],[],_=>trivial
 |p::ps,v::vs,r=>by
  exact⟨cR.mono x r.1,aU.mono x r.2⟩
 |[],_::_,r=>aw r
 |_::_,[],r=>aw r
end
theorem aU.length:∀{ps:List PV} {vs:List ag},aU P g h ps vs->ps.length=vs.length
 |[],[],_=>rfl
 |p::ps,v::vs,r=>by
  simp only[aj,aU.length r.2]
 |[],_::_,r=>aw r
 |_::_,[],r=>aw r
theorem aU.get:∀{ps:List PV} {vs:List ag} {i:Nat} {p:PV},aU P g h ps vs->ps[i]?=some p->∃v,vs[i]?=some v/\cR P g h p v
 |p::ps,v::vs,0,q,r,e=>by
  simp only[List.getElem?_cons_zero,Option.some.injEq]at e;subst e;exact⟨v,rfl,r.1⟩
 |p::ps,v::vs,i+1,q,r,e=>by
  simp only[List.getElem?_cons_succ]at e⊢;exact aU.get r.2 e
 |[],[],_,_,_,e=>nomatch e
 |[],_::_,_,_,r,_=>aw r
 |_::_,[],_,_,r,_=>aw r
theorem aU.append:∀{ps qs:List PV} {vs ws:List ag},aU P g h ps vs->aU P g h qs ws->aU P g h (ps++qs) (vs++ws)
 |[],_,[],_,_,r=>by simpa using r
 |p::ps,_,v::vs,_,r,q=>by
  exact⟨r.1,aU.append r.2 q⟩
 |[],_,_::_,_,r,_=>aw r
 |_::_,_,[],_,r,_=>aw r
theorem aU.take:∀{ps:List PV} {vs:List ag} (n:Nat),aU P g h ps vs->aU P g h (ps.take n) (vs.take n)
 |_,_,0,_=>trivial
 |[],[],n+1,_=>trivial
 |p::ps,v::vs,n+1,r=>by
  exact⟨r.1,aU.take n r.2⟩
 |[],_::_,_,r=>aw r
 |_::_,[],_,r=>aw r
theorem aU.drop:∀{ps:List PV} {vs:List ag} (n:Nat),aU P g h ps vs->aU P g h (ps.drop n) (vs.drop n)
 |_,_,0,r=>by simpa using r
 |[],[],n+1,_=>trivial
 |p::ps,v::vs,n+1,r=>by
  exact aU.drop n r.2
 |[],_::_,_,r=>aw r
 |_::_,[],_,r=>aw r
theorem aU.reverse:∀{ps:List PV} {vs:List ag},aU P g h ps vs->aU P g h ps.reverse vs.reverse
 |[],[],_=>trivial
 |p::ps,v::vs,r=>by
  rw[kX,kX];exact aU.append (aU.reverse r.2) ⟨r.1,trivial⟩
 |[],_::_,r=>aw r
 |_::_,[],r=>aw r
theorem aU.set:∀{ps:List PV} {vs:List ag} {p:PV} {v:ag} (n:Nat),aU P g h ps vs->cR P g h p v->aU P g h (ps.set n p) (vs.set n v)
 |[],[],_,_,_,_,_=>trivial
 |q::ps,u::vs,p,v,0,r,q'=>by
  exact⟨q',r.2⟩
 |q::ps,u::vs,p,v,n+1,r,q'=>by
  exact⟨r.1,aU.set n r.2 q'⟩
 |[],_::_,_,_,_,r,_=>aw r
 |_::_,[],_,_,_,r,_=>aw r
end
section
variable (P:PW)
structure EnvRel (g:Gh) (h:Heap) (env:Env) (ρ:aE):Prop where
 fn:env.scope.kind=.function
 has:∀x,env.kindOf x=some .cell->∃c,env.cells.lookup x=some c
 gl:env.globals=mainGlobals
 bi:env.builtins=builtinsNs
 tag:∃M,g.tag env.locals=.frm M
 ns:∃m,h.Ns env.locals m/\∀x p,ρ.lookup x=some p->env.kindOf (aa x)=some .local->∃v,m (aa x)=some v/\cR P g h p v
 cel:∀x p,ρ.lookup x=some p->(env.kindOf (aa x)=some .cell\/env.kindOf (aa x)=some .free)->
  ∃c v,env.cells.lookup (aa x)=some c/\(∃M,g.tag c=.frm M)/\h.IsCell c (some v)/\cR P g h p v
noncomputable def dc (g:Gh) (_h:Heap) (fr:List Env):Prop:=
 ∀env∈fr,env.scope.kind≠.module/\∃L,env.frame=some L/\g.tag L=.frm L
end
section
variable {P:PW} {g g':Gh} {h h':Heap} {env:Env} {ρ:aE} {fr:List Env}
theorem fm {α β:Type} {o:Option α} {f:α->Option β} {b:β} {C:Prop} (e:o.bind f=some b) (k:∀x,o=some x->f x=some b->C):C:=(fy.mp e).elim λx q=>k x q.1 q.2
theorem lT {α β:Type} {o:Option α} {f:α->β} {b:β} {C:Prop} (e:o.map f=some b) (k:∀x,o=some x->f x=b->C):C:=(aS.mp e).elim λx q=>k x q.1 q.2
theorem EnvRel.nsK {C:Prop} (V:EnvRel P g h env ρ) (k:∀m,h.Ns env.locals m->C):C:=V.ns.elim λm q=>k m q.1
theorem EnvRel.tagK {C:Prop} (V:EnvRel P g h env ρ) (k:∀M,g.tag env.locals=.frm M->C):C:=V.tag.elim k
theorem EnvRel.lclK {C:Prop} (V:EnvRel P g h env ρ) (k:∀M,g.tag env.locals=.frm M->∀m,h.Ns env.locals m->C):C:=V.tag.elim λM t=>V.ns.elim λm q=>k M t m q.1
theorem dX.ns (x:dX none g g' h h') {a M:Addr} {m:Str->Option ag} (t:g.tag a=.frm M) (n:h.Ns a m):h'.Ns a m:=(x.frm a M t (by simp)).ns m n
theorem dX.isCell (x:dX none g g' h h') {a M:Addr} {v:Option ag} (t:g.tag a=.frm M) (n:h.IsCell a v):h'.IsCell a v:=(x.frm a M t (by simp)).cel v n
theorem EnvRel.mono (x:dX none g g' h h') (r:EnvRel P g h env ρ):EnvRel P g' h' env ρ where
 fn:=r.fn
 has:=r.has
 gl:=r.gl
 bi:=r.bi
 tag:=let⟨M,t⟩:=r.tag;⟨M,x.tagF t⟩
 ns:=by
  obtain⟨m,hn,hv⟩:=r.ns;obtain⟨M,t⟩:=r.tag;exact⟨m,x.ns t hn,λy p e k=>let⟨v,e1,e2⟩:=hv y p e k;⟨v,e1,e2.mono x⟩⟩
 cel:=λy p e k=>by
  obtain⟨c,v,e1,⟨M,t⟩,e2,e3⟩:=r.cel y p e k;exact⟨c,v,e1,⟨M,x.tagF t⟩,x.isCell t e2,e3.mono x⟩
theorem dc.mono (x:dX none g g' h h') (r:dc g h fr):dc g' h' fr:=λenv he=>by
 obtain⟨k,L,hf,t⟩:=r env he;exact⟨k,L,hf,x.tagF t⟩
end
noncomputable def fU (s s':ak):Prop:=s'.gens=s.gens/\s'.drawn=s.drawn/\s'.os=s.os
theorem fU.refl (s:ak):fU s s:=⟨rfl,rfl,rfl⟩
theorem fU.trans {cg cx fw:ak} (x:fU cg cx) (y:fU cx fw):fU cg fw:=⟨y.1.trans x.1,y.2.1.trans x.2.1,y.2.2.trans x.2.2⟩
open PySem PySem.W PyProof.Rows PySem.Calls
noncomputable def xf (B:Heap) (g:Gh) (h:Heap):Prop:=∀b o,h.get? b=some o->(g.tag b=.base\/g.tag b=.frz\/g.tag b=.pin\/∃k,g.tag b=.sto k)->B.get? b=some o
inductive yX (cls:ag) (fr:List Env) (g:Gh) (h:Heap) (e:ag):Prop
 |mk (a:Addr) (B:Heap) (a0:ag):e=.ref a->Heap.FlyingW B fr a cls a0 h->xf B g h->yX cls fr g h e
inductive Ki (cls:ag) (fr:List Env) (g:Gh) (h:Heap) (e:ag):Prop
 |mk (a:Addr) (B:Heap) (a0:ag) (oe:Obj) (vs:Array ag):e=.ref a->Heap.StaysIn B h->B.get? a=none->KH h B fr->h.get? a=some oe->oe.cls=cls->oe.data=.fields vs->vs[0]?=some a0->vs[1]?=some .none->xf B g h->Ki cls fr g h e
noncomputable def MG (cls:ag) (fr:List Env) (g:Gh) (h:Heap) (e:ag):Prop:=yX cls fr g h e\/Ki cls fr g h e
structure jP (A:bd) (n:Nat×Nat) (fr:List Env):Prop where
 handled:A.handled=none
 depth:A.depth+3*n.1<=960+n.2
 units:A.units+20*n.1<=9800+n.2
 level:n.2<=2
 frames:A.frames=some fr
noncomputable abbrev WT (α:Type):=(α->ak->Prop)->(ag->ak->Prop)->ak->Prop
noncomputable def g0 {α:Type} (T:WT α):Prop:=∀Q Q' E s,(∀a s,Q a s->Q' a s)->T Q E s->T Q' E s
section
variable (P:PW) (cls:ag)
noncomputable abbrev eJ (A:bd) {α:Type} (t:Sem α):WT α:=λQ E s=>wpAny (model P.prog P.w) A t Q E s
variable {P}in
theorem al {A:bd} {α:Type} {t:Sem α}:g0 (eJ P A t):=λö ö ö ö h x=>aA x h λö ö y=>y
noncomputable def OnX (L:Option Addr) (Ex:ag->List Env->Gh->Heap->ag->Prop) (fr:List Env) {β:Type} (r:qn β) (g:Gh) (s:ak) (E:ag->ak->Prop):Prop:=
 ∀e s' g' aF,r=.exc aF->dX L g g' s.heap s'.heap->dq P g' aF s'.heap->Ex cls fr g' s'.heap e->fU s s'->E e s'
inductive KP (g:Gh) (s:ak) {α β:Type} (r:qn β) (R:Gh->Heap->β->α->Prop) (a:α) (s':ak):Prop
 |mk (b:β) (aF:ah) (g':Gh):r=.ok b aF->dX none g g' s.heap s'.heap->dq P g' aF s'.heap->R g' s'.heap b a->fU s s'->KP g s r R a s'
theorem KP.toks {g:Gh} {s:ak} {α β:Type} {r:qn β} {R:Gh->Heap->β->α->Prop} {a:α} {s':ak} {n:Nat} (h:KP P g {s with toks:=n} r R a s'):KP P g s r R a s':=
 have⟨b,aF,g',h1,h2,h3,h4,h5⟩:=h;⟨b,aF,g',h1,h2,h3,h4,h5⟩
noncomputable def aQ (env:Env) (ρ:aE) (fr:List Env) {α β:Type} (Pre:Gh->Heap->Prop) (T:WT α) (m:MM β) (R:Gh->Heap->β->α->Prop):Prop:=
 ∀(g:Gh) (σ:ah) (s:ak) (E:ag->ak->Prop),dq P g σ s.heap->EnvRel P g s.heap env ρ->dc g s.heap fr->Pre g s.heap->m σ≠.bad->OnX P cls none yX fr (m σ) g s E->T (KP P g s (m σ) R) E s
end
section
variable {P:PW} {cls:ag} {A:bd} {env:Env} {ρ:aE} {fr:List Env} {α β γ δ:Type}
theorem aQ.bind {Pre:Gh->Heap->Prop} {T:WT α} {U:α->WT γ} {m:MM β} {k:β->MM δ} {R:Gh->Heap->β->α->Prop} {S:Gh->Heap->δ->γ->Prop} (mo:g0 T) (mo2:∀a,g0 (U a))
  (h1:aQ P cls env ρ fr Pre T m R) (h2:∀b a,aQ P cls env ρ fr (λg h=>R g h b a) (U a) (k b) S):aQ P cls env ρ fr Pre (λQ E s=>T (λa cg=>U a Q E cg) E s) (MM.bind m k) S:=by
 intro g σ s E G V F hp hb hE;refine mo _ _ E s (λa cg h=>?_) (h1 g σ s E G V F hp (λq=>hb (by simp[MM.bind,q])) λe s' g' aF q=>hE e s' g' aF (by simp[MM.bind,q]));obtain⟨b,aZ,hR,hm,ad,gW,r,sm⟩:=h;refine mo2 a _ _ E cg (λc cx h=>?_) (h2 b a hR aZ cg E gW (V.mono ad) (F.mono ad) r (λq=>hb (by simp[MM.bind,hm,q])) λe s' g' aF q ad' G' X sm'=>hE e s' g' aF (by simp[MM.bind,hm,q]) (ad.trans ad') G' X (sm.trans sm'));obtain⟨d,bK,ju,xm,eM,hV,Ez,eU⟩:=h;exact⟨d,bK,ju,by simp[MM.bind,hm,xm],ad.trans eM,hV,Ez,sm.trans eU⟩
theorem aQ.conseq {Pre Pre':Gh->Heap->Prop} {T:WT α} {m:MM β} {R R':Gh->Heap->β->α->Prop} (mo:g0 T) (h:aQ P cls env ρ fr Pre T m R) (h1:∀g h,Pre' g h->Pre g h) (h2:∀g h b a,R g h b a->R' g h b a):
  aQ P cls env ρ fr Pre' T m R':=λg σ s E G V F hp hb hE=>
 mo _ _ E s (λ_ _ ⟨b,aF,g',a1,a2,a3,a4,a5⟩=>⟨b,aF,g',a1,a2,a3,h2 _ _ _ _ a4,a5⟩) (h g σ s E G V F (h1 _ _ hp) hb hE)
noncomputable def ul (X:Gh->Heap->Prop):Prop:=∀g g' h h',dX none g g' h h'->X g h->X g' h'
theorem aQ.frame {Pre:Gh->Heap->Prop} {T:WT α} {m:MM β} {R:Gh->Heap->β->α->Prop} (mo:g0 T) (X:Gh->Heap->Prop) (hX:ul X) (h:aQ P cls env ρ fr Pre T m R):
  aQ P cls env ρ fr (λg h=>Pre g h/\X g h) T m (λg h b a=>R g h b a/\X g h):=λg σ s E G V F hp hb hE=>
 mo _ _ E s (λ_ _ ⟨b,aF,g',a1,a2,a3,a4,a5⟩=>⟨b,aF,g',a1,a2,a3,⟨a4,hX _ _ _ _ a2 hp.2⟩,a5⟩) (h g σ s E G V F hp.1 hb hE)
theorem aQ.keep {T:WT α} {m:MM β} {R:Gh->Heap->β->α->Prop} (mo:g0 T) {X:Gh->Heap->Prop} (hX:ul X) (h:aQ P cls env ρ fr (λö ö=>True) T m R):
  aQ P cls env ρ fr X T m (λg h b a=>R g h b a/\X g h):=(h.frame mo X hX).conseq mo (λö ö x=>⟨trivial,x⟩) λö ö ö ö x=>x
theorem dY {p:PV} {v:ag}:ul (λg h=>cR P g h p v):=λö ö ö ö x r=>r.mono x
theorem pa {X Y:Gh->Heap->Prop} (a:ul X) (b:ul Y):ul (λg h=>X g h/\Y g h):=λö ö ö ö x r=>⟨a _ _ _ _ x r.1,b _ _ _ _ x r.2⟩
theorem aQ.pure {Pre:Gh->Heap->Prop} {T:WT α} {a:α} {b:β} {R:Gh->Heap->β->α->Prop} (hT:∀Q E s,Q a s->T Q E s) (h:∀g h,Pre g h->R g h b a):aQ P cls env ρ fr Pre T (MM.pure b) R:=
 λg σ s ö G ö ö hp ö ö=>hT _ _ _ ⟨b,σ,g,rfl,.refl ..,G,h _ _ hp,.refl s⟩
theorem MM.bind_assoc {x:MM α} {f:α->MM β} {k:β->MM γ}:MM.bind (MM.bind x f) k=MM.bind x λa=>MM.bind (f a) k:=by
 funext σ;unfold MM.bind;cases x σ<;>rfl
theorem MM.bind_ok {x:MM α} {f:α->MM β} {a:α} {σ aF:ah} (h:x σ=.ok a aF):MM.bind x f σ=f a aF:=by unfold MM.bind;rw[h]
theorem MM.bind_exc {x:MM α} {f:α->MM β} {σ aF:ah} (h:x σ=.exc aF):MM.bind x f σ=.exc aF:=by unfold MM.bind;rw[h]
theorem MM.bind_bad {x:MM α} {f:α->MM β} {σ:ah} (h:x σ=.bad):MM.bind x f σ=.bad:=by unfold MM.bind;rw[h]
theorem aQ.eq {Pre:Gh->Heap->Prop} {T:WT α} {m m':MM β} {R:Gh->Heap->β->α->Prop} (h:aQ P cls env ρ fr Pre T m R) (e:m'=m):aQ P cls env ρ fr Pre T m' R:=e▸h
theorem aQ.of {Pre:Gh->Heap->Prop} {T T':WT α} {m:MM β} {R:Gh->Heap->β->α->Prop} (h:aQ P cls env ρ fr Pre T m R) (e:∀Q E s,T Q E s->T' Q E s):aQ P cls env ρ fr Pre T' m R:=
 λg σ s E G V F hp hb hE=>e _ _ _ (h g σ s E G V F hp hb hE)
theorem aQ.leafσ {Pre:Gh->Heap->Prop} {T:WT α} {o:ah->Option β} {R:Gh->Heap->β->α->Prop}
  (h:∀(g:Gh) (σ:ah) (s:ak) (E:ag->ak->Prop) (Q:α->ak->Prop) (b:β),dq P g σ s.heap->EnvRel P g s.heap env ρ->dc g s.heap fr->Pre g s.heap->o σ=some b->
   (∀a s' g',dX none g g' s.heap s'.heap->dq P g' σ s'.heap->R g' s'.heap b a->fU s s'->Q a s')->T Q E s):
  aQ P cls env ρ fr Pre T (cC o) R:=by
 intro g σ s E G V F hp hb _
 induction q:o σ with
 |none=>exact absurd (by simp[cC,q]) hb
 |some b=>exact h g σ s E _ b G V F hp q λa s' g' ad G' r sm=>⟨b,σ,g',by simp[cC,q],ad,G',r,sm⟩
theorem aQ.leaf {Pre:Gh->Heap->Prop} {T:WT α} {o:Option β} {R:Gh->Heap->β->α->Prop}
  (h:∀(g:Gh) (σ:ah) (s:ak) (E:ag->ak->Prop) (Q:α->ak->Prop) (b:β),dq P g σ s.heap->EnvRel P g s.heap env ρ->dc g s.heap fr->Pre g s.heap->o=some b->
   (∀a s' g',dX none g g' s.heap s'.heap->dq P g' σ s'.heap->R g' s'.heap b a->fU s s'->Q a s')->T Q E s):
  aQ P cls env ρ fr Pre T (bJ o) R:=by
 have e:(bJ o:MM β)=cC λö=>o:=by funext σ;induction o<;>rfl
 refine e.symm▸?_;exact aQ.leafσ h
theorem aQ.leafS {Pre:Gh->Heap->Prop} {T:WT α} {o:ah->Option (β×ah)} {R:Gh->Heap->β->α->Prop}
  (h:∀(g:Gh) (σ:ah) (s:ak) (E:ag->ak->Prop) (Q:α->ak->Prop) (b:β) (aF:ah),dq P g σ s.heap->EnvRel P g s.heap env ρ->dc g s.heap fr->Pre g s.heap->o σ=some (b,aF)->
   (∀a s' g',dX none g g' s.heap s'.heap->dq P g' aF s'.heap->R g' s'.heap b a->fU s s'->Q a s')->T Q E s):
  aQ P cls env ρ fr Pre T (q0 o) R:=by
 intro g σ s E G V F hp hb _
 induction q:o σ with
 |none=>exact absurd (by simp[q0,q]) hb
 |some b=>exact h g σ s E _ b.1 b.2 G V F hp q λa s' g' ad G' r sm=>⟨b.1,b.2,g',by simp[q0,q],ad,G',r,sm⟩
theorem aQ.leaf1 {Pre:Gh->Heap->Prop} {T:WT α} {b:β} {R:Gh->Heap->β->α->Prop}
  (h:∀(g:Gh) (σ:ah) (s:ak) (E:ag->ak->Prop) (Q:α->ak->Prop),dq P g σ s.heap->EnvRel P g s.heap env ρ->dc g s.heap fr->Pre g s.heap->
   (∀a s' g',dX none g g' s.heap s'.heap->dq P g' σ s'.heap->R g' s'.heap b a->fU s s'->Q a s')->T Q E s):
  aQ P cls env ρ fr Pre T (MM.pure b) R:=λg σ s E G V F hp ö ö=>
 h g σ s E _ G V F hp λa s' g' ad G' r sm=>⟨b,σ,g',rfl,ad,G',r,sm⟩
end
noncomputable def Gk (h:Heap) (L:Addr):List (Addr×Obj):=(iy h.objs.size).filterMap λa=>if a=L then none else(h.get? a).map λo=>(a,o)
theorem lE {h:Heap} {L a:Addr} {o:Obj}:(a,o)∈Gk h L↔h.get? a=some o/\a≠L:=by
 unfold Gk;rw[EH];constructor
 ·rintro⟨b,_,e⟩;split at e
  ·contradiction
  ·rename_i hne;refine lT e λo' ho q=>?_
   (injection q;subst_vars)
   exact⟨ho,hne⟩
 ·rintro⟨e,hne⟩;exact⟨a,eQ.mpr (dn e),by rw[if_neg hne,e];rfl⟩
noncomputable def E0:Heap:={}
theorem JE {h:Heap} {L:Addr} {m:Str->Option ag} (n:h.Ns L m):Fr E0 L h m:=⟨n,λb o e=>by simp[E0,Heap.get?]at e,aL _⟩
theorem rI {h:Heap} {L:Addr}:News E0 L h (Gk h L):=λp hp=>⟨(lE.mp hp).1,(lE.mp hp).2,by simp[E0,Heap.get?]⟩
noncomputable def Gh.put (g:Gh) (a:Addr) (t:lQ):Gh:={g with tag:=λb=>if b=a then t else g.tag b}
section
variable {P:PW} {g g':Gh} {σ:ah} {h h':Heap} {L:Addr} {m:Str->Option ag}
theorem dq.free (G:dq P g σ h) {a:Addr} (e:h.get? a=none):g.tag a=.free:=by
 induction q:g.tag a with
 |free=>rfl
 |_=>exact absurd (G.live a (by rw[q];simp)) (by rw[e];simp)
theorem dq.next (G:dq P g σ h):g.tag h.objs.size=.free:=G.free (aT (au _))
structure Keeps (L:Addr) (h h':Heap):Prop where
 old:∀a o,a≠L->h.get? a=some o->h'.get? a=some o
 ns:∃m,h.Ns L m/\h'.Ns L m
theorem Keeps.of_all {m:Str->Option ag} (n:h.Ns L m) (k:∀a o,h.get? a=some o->h'.get? a=some o):Keeps L h h':=⟨λa o ö e=>k a o e,m,n,n.keeps k⟩
theorem Keeps.of_news {new:List (Addr×Obj)} {m:Str->Option ag} (n:h.Ns L m) (F:Fr E0 L h' m) (N:News E0 L h' (new++Gk h L)):Keeps L h h':=
 ⟨λö ö hne e=>(N _ (gj _ (lE.mpr ⟨e,hne⟩))).1,m,n,F.ns⟩
noncomputable def Gh.puts (g:Gh):List (Addr×lQ)->Gh
 |[]=>g
 |(a,t)::l=>(g.put a t).puts l
theorem Gh.puts_n {g:Gh}:g.puts []=g:=rfl
theorem Gh.puts_c {g:Gh} {a:Addr} {t:lQ} {l:List (Addr×lQ)}:g.puts ((a,t)::l)=(g.put a t).puts l:=rfl
theorem Gh.puts_at (l:List (Addr×lQ)):∀g:Gh,(g.puts l).at_=g.at_/\(g.puts l).n=g.n:=by
 induction l with
 |nil=>exact λg=>⟨rfl,rfl⟩
 |cons p l ih=>exact λg=>ih (g.put p.1 p.2)
theorem Gh.puts_other (l:List (Addr×lQ)):∀(g:Gh) (a:Addr),(∀p∈l,a≠p.1)->(g.puts l).tag a=g.tag a:=by
 induction l with
 |nil=>exact λö ö ö=>rfl
 |cons p l ih=>
  intro g a hne;refine(ih (g.put p.1 p.2) a λq hq=>hne q (.tail _ hq)).trans ?_;show(if a=p.1 then p.2 else g.tag a)=_;exact(if_neg (hne p (.head _))).symm▸rfl
theorem Gh.puts_cases (l:List (Addr×lQ)):∀(g:Gh) (a:Addr),(a,(g.puts l).tag a)∈l\/(g.puts l).tag a=g.tag a:=by
 induction l with
 |nil=>exact λö ö=>.inr rfl
 |cons p l ih=>
  intro g a;rcases ih (g.put p.1 p.2) a with h|h
  ·exact .inl (.tail _ h)
  ·by_cases q:a=p.1
   ·refine .inl ?_;have:((g.put p.1 p.2).puts l).tag a=p.2:=h.trans (if_pos q);show(a,((g.put p.1 p.2).puts l).tag a)∈p::l;exact this.symm▸q.symm▸.head _
   ·exact .inr (h.trans (if_neg q))
structure MB (g g':Gh) (h h':Heap) (k:Nat):Prop where
 at_:g'.at_ k=g.at_ k
 tag:∀a,g.tag a=.sto k->g'.tag a=.sto k
 get:∀a o,g.tag a=.sto k->h.get? a=some o->h'.get? a=some o
theorem lJ.mono {L:Option Addr} {k:Nat} {c:cS} (ad:dX L g g' h h') (K:MB g g' h h' k) (r:lJ P g h k c):lJ P g' h' k c:=by
 induction c with
 |dead=>exact trivial
 |list _=>
  obtain⟨t1,vs,⟨o,ho⟩,rs⟩:=r;exact⟨K.at_▸K.tag _ t1,vs,⟨o,K.at_▸K.get _ _ t1 ho⟩,rs.mono ad⟩
 |obj _ _ _=>
  obtain⟨t1,C,dx,es,n,vs,hC,t2,h1,h2,f,rs⟩:=r;exact⟨K.at_▸K.tag _ t1,C,dx,es,n,vs,hC,K.tag _ t2,K.at_▸K.get _ _ t1 h1,K.get _ _ t2 h2,f,rs.mono ad⟩
theorem dq.of {L:Option Addr} {aF:ah} (G:dq P g σ h) (ad:dX L g g' h h') (hn:aF.length=g'.n) (hc:∀k c,aF[k]?=some c->lJ P g' h' k c) (lv:∀a,g'.tag a≠.free->(h'.get? a).isSome=true)
  (hf:∀a M,g'.tag a=.frm M->g'.tag M=.frm M/\∃o,h'.get? a=some o/\∀vs,o.data≠.fields vs):dq P g' aF h' where
 base a o e:=let⟨e1,e2⟩:=G.base a o e;⟨ad.fix a o e1 (.inl e2),ad.tagB e2⟩
 n:=hn
 cells:=hc
 live:=lv
 frm:=hf
theorem Hv {L:Option Addr} (G:dq P g σ h) (old:∀a o,g.tag a≠.free->(∀M,g.tag a≠.frm M)->h.get? a=some o->h'.get? a=some o) (fr:∀a M,g.tag a=.frm M->L≠some M->jj h h' a)
  (lf:∀a M,g.tag a=.frm M->∃o,h'.get? a=some o/\∀vs,o.data≠.fields vs) (l:List (Addr×lQ)) (hf:∀p∈l,g.tag p.1=.free/\(h'.get? p.1).isSome=true)
  (hm:∀a M,(a,lQ.frm M)∈l->(g.puts l).tag M=.frm M/\∃o,h'.get? a=some o/\∀vs,o.data≠.fields vs):dX L g (g.puts l) h h'/\dq P (g.puts l) σ h':=by
 have notNew:∀a,g.tag a≠.free->(g.puts l).tag a=g.tag a:=λa ha=>Gh.puts_other l g a λp hp q=>ha (q▸(hf p hp).1);obtain⟨e1,e2⟩:=Gh.puts_at l g;have AD:dX L g (g.puts l) h h':={
  nle:=bZ e2.symm
  ateq:=λk ö=>e1.symm▸rfl
  tag:=λa h1 ö=>notNew a h1
  tagS:=λa k e=>.inl ((notNew a (fN e rfl)).trans e)
  fix:=λa o e q=>old a o (by rcases q with q|q|q<;>exact fN q rfl) (λM=>by rcases q with q|q|q<;>exact fN q rfl) e
  frm:=fr}
 refine⟨AD,G.of AD (e2.symm▸G.n) (λk c e=>?_) (λa ha=>?_) λa M ha=>?_⟩
 ·exact(G.cells k c e).mono AD ⟨(e1.symm▸rfl),λa t=>(notNew a (fN t rfl)).trans t,λa o t e=>old a o (fN t rfl) (λM=>fN t rfl) e⟩
 ·rcases Gh.puts_cases l g a with q|q
  ·exact(hf _ q).2
  ·replace ha:=(q)▸ha;by_cases z:∃M,g.tag a=.frm M
   ·refine Mine.Internal.cps λζ κ=>?_;obtain⟨M,z⟩:=z;obtain⟨o,ho,_⟩:=lf a M z;refine κ ?_;exact ho.symm▸rfl
   ·obtain⟨o,ho⟩:=dg.mp (G.live a ha);exact(old a o ha (λM q=>z ⟨M,q⟩) ho).symm▸rfl
 ·rcases Gh.puts_cases l g a with q|q
  ·exact hm a M (ha▸q)
  ·replace ha:=(q)▸ha;exact⟨AD.tagF (G.frm a M ha).1,lf a M ha⟩
theorem CF (G:dq P g σ h) (old:∀a o,g.tag a≠.free->(∀M,g.tag a≠.frm M)->h.get? a=some o->h'.get? a=some o) (fr:∀a M,g.tag a=.frm M->jj h h' a) (l:List (Addr×lQ)) (hf:∀p∈l,g.tag p.1=.free/\(h'.get? p.1).isSome=true)
  (hm:∀a M,(a,lQ.frm M)∈l->(g.puts l).tag M=.frm M/\∃o,h'.get? a=some o/\∀vs,o.data≠.fields vs):dX none g (g.puts l) h h'/\dq P (g.puts l) σ h':=
 Hv G old (λa M q ö=>fr a M q) (λa M q=>let⟨_,o,ho,hd⟩:=G.frm a M q;(fr a M q).fld o ho hd) l hf hm
theorem Ac (G:dq P g σ h) {M:Addr} (t:g.tag L=.frm M) (old:∀a o,a≠L->g.tag a≠.free->h.get? a=some o->h'.get? a=some o) (ns:∃m,h.Ns L m/\h'.Ns L m)
  (l:List (Addr×lQ)) (hf:∀p∈l,g.tag p.1=.free/\(h'.get? p.1).isSome=true)
  (hm:∀a M,(a,lQ.frm M)∈l->(g.puts l).tag M=.frm M/\∃o,h'.get? a=some o/\∀vs,o.data≠.fields vs):dX none g (g.puts l) h h'/\dq P (g.puts l) σ h':=
 CF G (λa o h1 h2 e=>old a o (λq=>h2 M (q▸t)) h1 e) (λa M' q=>by
  by_cases hL:a=L
  ·obtain⟨m,n1,n2⟩:=ns;exact hL▸.of_ns n1 n2
  ·exact .of_eq λo e=>old a o hL (fN q rfl) e) l hf hm
theorem DF (G:dq P g σ h) {M:Addr} (t:g.tag L=.frm M) (k:Keeps L h h') (l:List (Addr×lQ)) (hf:∀p∈l,h.get? p.1=none/\(h'.get? p.1).isSome=true)
  (hm:∀a M,(a,lQ.frm M)∈l->(g.puts l).tag M=.frm M/\∃o,h'.get? a=some o/\∀vs,o.data≠.fields vs):
  dX none g (g.puts l) h h'/\dq P (g.puts l) σ h':=Ac G t (λa o hL ö e=>k.old a o hL e) k.ns l (λp hp=>⟨G.free (hf p hp).1,(hf p hp).2⟩) hm
theorem lO (G:dq P g σ h) {M:Addr} (t:g.tag L=.frm M) (k:Keeps L h h'):dX none g g h h'/\dq P g σ h':=DF G t k [] (by simp) nofun
theorem DJ:∀M,lQ.frz≠.frm M:=nofun
theorem wC (G:dq P g σ h) {M:Addr} (t:g.tag L=.frm M) (k:Keeps L h h') {a:Addr} (hn:h.get? a=none) {o:Obj} (ho:h'.get? a=some o) (tg:lQ) (htg:∀M,tg≠.frm M):
  ∃g',dX none g g' h h'/\dq P g' σ h'/\g'.tag a=tg/\g'.at_=g.at_/\g'.n=g.n:=by
 obtain⟨x,y⟩:=DF G t k [(a,tg)] (by
  intro p hp;rcases aC.mp hp with rfl
  exact⟨hn,(ho.symm▸rfl)⟩) (λb M' e=>by
   rw[aC]at e;injection e with _ e;exact absurd e.symm (htg M'))
 exact⟨_,x,y,by simp[Gh.puts_n,Gh.puts_c,Gh.put],rfl,rfl⟩
end
open PySem PySem.W PyProof.Rows PySem.Calls
section
variable (P:PW) (cls:ag) (cf:String->List PV->MM PV) (n:Nat×Nat)
noncomputable def SE (sc:bD) (e:ay) (me:ME):Prop:=
 ∀(A:bd) (env:Env) (ρ:aE) (fr:List Env),env.scope=sc->jP A n fr->aQ P cls env ρ fr (λö ö=>True) (eJ P A (eval e env)) (bu cf ρ me) (cR P)
noncomputable def ST (sc:bD) (e:ay) (me:ME):Prop:=
 ∀(A:bd) (env:Env) (ρ:aE) (fr:List Env),env.scope=sc->jP A n fr->aQ P cls env ρ fr (λö ö=>True) (eJ P A (isTrue e env (eval e env))) (eO (bu cf ρ me)) (λö ö b c=>b=c)
noncomputable def vp (sc:bD) (es:List ay) (mes:List ME):Prop:=
 ∀(A:bd) (env:Env) (ρ:aE) (fr:List Env) (pos:Pos),env.scope=sc->jP A n fr->
  aQ P cls env ρ fr (λö ö=>True) (eJ P A (spliced (ee pos (aX es env)))) (eP cf ρ mes) (aU P)
end
section
variable {P:PW} {cls:ag} {cf:String->List PV->MM PV} {n:Nat×Nat} {sc:bD} {A:bd} {env:Env} {ρ:aE} {fr:List Env}
theorem nS {α:Type} {b:α} {C:Prop} (e:(none:Option α)=some b):C:=nomatch e
theorem ifS {α:Type} {c:Prop} [Decidable c] {a:Option α} {b:α} (e:(if c then a else none)=some b):c/\a=some b:=by
 by_cases h:c
 ·rw[if_pos h]at e;exact⟨h,e⟩
 ·rw[if_neg h]at e;exact nS e
theorem mI {α:Type} {c:Prop} [Decidable c] {a:Option α} {b:α} {C:Prop} (e:(if c then a else none)=some b) (k:c->a=some b->C):C:=k (ifS e).1 (ifS e).2
section
variable {β:Type} {g:Gh} {h:Heap} {σ:ah} {p:PV} {bs:List PV} {b:β}
theorem A3 {i:Int} (v:ag) {C:ag->Prop} (r:cR P g h (.int i) v) (k:∀t,C (.int i t)):C v:=have⟨t,q⟩:=r;q▸k t
theorem v1 {i:Str} (v:ag) {C:ag->Prop} (r:cR P g h (.str i) v) (k:∀t,C (.str i t)):C v:=have⟨t,q⟩:=r;q▸k t
theorem xJ {l:List PV} (v:ag) {C:ag->Prop} (r:cR P g h (.list l) v) (k:∀a vs,g.tag a=.frz->BY h a vs->aU P g h l vs->C (.ref a)):C v:=have⟨a,vs,q,t,il,rs⟩:=r;q▸k a vs t il rs
theorem Ft {l:List PV} (v:ag) {C:ag->Prop} (r:cR P g h (.tup l) v) (k:∀a vs,g.tag a=.frz->IsTup h a vs.toArray->aU P g h l vs->C (.ref a)):C v:=have⟨a,vs,q,t,il,rs⟩:=r;q▸k a vs t il rs
theorem dJ (v:ag) {f:Int->Option β} {C:ag->Prop} (r:cR P g h p v) (e:kW f p=some b) (k:∀i t,f i=some b->C (.int i t)):C v:=by
 cases p with
 |int i=>exact A3 v r λt=>k i t e
 |_=>exact nS e
theorem lz (v:ag) {f:Str->Option β} {C:ag->Prop} (r:cR P g h p v) (e:xW f p=some b) (k:∀i t,f i=some b->C (.str i t)):C v:=by
 cases p with
 |str i=>exact v1 v r λt=>k i t e
 |_=>exact nS e
theorem lA (v:ag) {f:List PV->Option β} {C:ag->Prop} (r:cR P g h p v) (e:zH f p=some b) (k:∀l a vs,p=.list l->g.tag a=.frz->BY h a vs->aU P g h l vs->f l=some b->C (.ref a)):C v:=by
 cases p with
 |list l=>exact xJ v r λa vs t il rs=>k l a vs rfl t il rs e
 |_=>exact nS e
theorem rD {f:Nat->Option β} (v:ag) {C:ag->Prop} (r:cR P g h p v) (e:HF f p=some b) (k:∀j,p=.loc j->f j=some b->C (.ref (g.at_ j))):C v:=by
 cases p with
 |loc j=>exact r.2▸k j rfl e
 |_=>exact nS e
theorem kI {k:Nat} {l:List PV} (G:dq P g σ h) (e:listAt σ k=some l):σ[k]?=some (.list l)/\∃vs,BY h (g.at_ k) vs/\aU P g h l vs:=by
 refine fm e λc hc e=>?_
 induction c with
 |list l'=>obtain⟨_,vs,il,rs⟩:=G.cells _ _ hc;(injection e;subst_vars);exact⟨hc,vs,il,rs⟩
 |_=>exact nS e
theorem ki (vs:List ag) {f:PV->Option β} {C:List ag->Prop} (r:aU P g h bs vs) (e:td f bs=some b) (k:∀p v,cR P g h p v->f p=some b->C [v]):C vs:=
 match bs,vs,r,e with
 |[],_,_,e=>nS e
 |[_],[_],r,e=>k _ _ r.1 e
 |_::_::_,_,_,e=>nS e
theorem xX (vs:List ag) {f:PV->PV->Option β} {C:List ag->Prop} (r:aU P g h bs vs) (e:I7 f bs=some b) (k:∀p q v w,cR P g h p v->cR P g h q w->f p q=some b->C [v,w]):C vs:=
 match bs,vs,r,e with
 |[],_,_,e=>nS e
 |[_],_,_,e=>nS e
 |[_,_],[_,_],r,e=>k _ _ _ _ r.1 r.2.1 e
 |_::_::_::_,_,_,e=>nS e
theorem rE {x:Str} {f:Nat->Option β} (e:td f x.cps.toList=some b):∃c,x=⟨#[c]⟩/\f c=some b:=by
 obtain⟨⟨l⟩⟩:=x
 match l,e with
 |[],e=>exact nS e
 |[c],e=>exact⟨c,rfl,e⟩
 |_::_::_,e=>exact nS e
theorem Dj (v:ag) {l:List PV} {C:ag->Prop} (r:cR P g h p v) (e:p.lst?=some l) (k:∀a us,h.IsList a us.toArray->aU P g h l us->C (.ref a)):C v:=by
 cases p with
 |list l=>have⟨a,vs,q,t,il,rs⟩:=r;exact q▸k a vs il.il (Option.some.inj e▸rs)
 |arg l=>have⟨a,vs,q,t,il,rs⟩:=r;exact q▸k a vs il (Option.some.inj e▸rs)
 |_=>exact nS e
theorem wB (v:ag) {l:List PV} {C:ag->Prop} (G:dq P g σ h) (r:cR P g h p v) (e:items? σ p=some l) (k:∀a us,h.IsList a us.toArray->aU P g h l us->C (.ref a)):C v:=by
 cases p with
 |loc j=>obtain⟨_,vs,il,rs⟩:=kI (k:=j) G e;exact r.2▸k _ vs il.il rs
 |_=>exact Dj v r e k
end
theorem pg {C:Prop} {g:Gh} {σ:ah} {h h':Heap} {L M a:Addr} {l:List PV} {vs:List ag} (G:dq P g σ h) (t:g.tag L=.frm M) (k:Keeps L h h') (hn:h.get? a=none) (il:BY h' a vs) (rs:aU P g h l vs)
  (q:∀g',dX none g g' h h'->dq P g' σ h'->cR P g' h' (.list l) (.ref a)->C):C:=by
 obtain⟨_,ho⟩:=il;obtain⟨g',x,G',tg,_,_⟩:=wC G t k hn ho .frz DJ;exact q g' x G' ⟨_,_,rfl,tg,⟨_,ho⟩,rs.mono x⟩
theorem SE.loc {x:Str} {pos:Pos} {y:String} (hx:x=aa y) (hk:sc.names.lookup x=some .local) (hd:(x==("__debug__":Str))=false):SE P cls cf n sc (.Name x pos) (.var y):=by
 intro A env ρ fr hs _;subst hx;refine aQ.leaf λg σ s E Q b G V F ö e hQ=>?_;have hk':env.kindOf (aa y)=some .local:=by rw[Env.kindOf,hs];exact hk
 refine Mine.Internal.cps λζ κ=>?_;obtain⟨m,hn,hv⟩:=V.ns;obtain⟨v,e1,r⟩:=hv _ _ e hk';refine κ ?_;exact wpAny_Name (wpAny_loadName_local V.fn hk' hn e1 (hQ v s g (.refl ..) G r (.refl s))) hd
theorem SE.cel {x:Str} {pos:Pos} {y:String} (hx:x=aa y) (hk:sc.names.lookup x=some .cell) (hd:(x==("__debug__":Str))=false):SE P cls cf n sc (.Name x pos) (.var y):=by
 intro A env ρ fr hs _;subst hx;refine aQ.leaf λg σ s E Q b G V F ö e hQ=>?_;have hk':env.kindOf (aa y)=some .cell:=by rw[Env.kindOf,hs];exact hk
 obtain⟨c,v,e1,_,e2,r⟩:=V.cel _ _ e (.inl hk');exact wpAny_Name (wpAny_loadName_cell V.fn hk' e1 e2 (hQ v s g (.refl ..) G r (.refl s))) hd
theorem SE.cint {i:Int} {k:Nat} {pos:Pos}:SE P cls cf n sc (.Constant (.int i) k pos) (.cint i):=by
 intro A env ρ fr hs _;exact aQ.leaf1 λg σ s E Q G V F ö hQ=>wpAny_Constant_int (hQ _ _ g (.refl ..) G ⟨_,rfl⟩ ⟨rfl,rfl,rfl⟩)
theorem SE.cneg {i:Int} {k:Nat} {pos pos':Pos} {j:Int} (hj:j=-i):SE P cls cf n sc (.UnaryOp .USub (.Constant (.int i) k pos) pos') (.cint j):=by
 intro A env ρ fr hs _;subst hj;refine aQ.leaf1 λg σ s E Q G V F ö hQ=>?_;show wpAny _ _ (eval (.Constant (.int i) k pos) env>>=λv=>standAt pos'>>=λö=>holding [v] (unaryOp .USub v)) _ _ _;exact av (wpAny_Constant_int (av (wpAny_standAt (wpAny_holding (neg_int (hQ _ _ g (.refl ..) G ⟨_,rfl⟩ ⟨rfl,rfl,rfl⟩))))))
theorem SE.cstr {x:Str} {y:String} {k:Nat} {pos:Pos} (hx:x=aa y):SE P cls cf n sc (.Constant (.str x) k pos) (.cstr y):=by
 intro A env ρ fr hs _;subst hx;exact aQ.leaf1 λg σ s E Q G V F ö hQ=>Constant_str (hQ _ _ g (.refl ..) G ⟨_,rfl⟩ ⟨rfl,rfl,rfl⟩)
theorem SE.cnone {k:Nat} {pos:Pos}:SE P cls cf n sc (.Constant .none k pos) .cnone:=by
 intro A env ρ fr hs _;exact aQ.pure (a:=Value.none) (λö ö ö h ö ö ö=>h) λö ö ö=>rfl
theorem SE.cbool {b:Bool} {k:Nat} {pos:Pos}:SE P cls cf n sc (.Constant (.bool b) k pos) (.cbool b):=by
 intro A env ρ fr hs _;exact aQ.pure (a:=Value.bool b) (λö ö ö h ö ö ö=>h) λö ö ö=>rfl
theorem vp.nil:vp P cls cf n sc [] []:=λA env ρ fr pos ö ö=>by
 exact aQ.pure (λö ö ö=>spliced_nil) λö ö ö=>trivial
theorem vp.cons {e:ay} {me:ME} {es:List ay} {mes:List ME} (h:SE P cls cf n sc e me) (hs:vp P cls cf n sc es mes) (he:∀env,aX (e::es) env=(false,eval e env)::aX es env):
  vp P cls cf n sc (e::es) (me::mes):=λA env ρ fr pos hsc hA=>by
 rw[he];refine(aQ.bind al (λa=>?_) (h A env ρ fr hsc hA) λb a=>aQ.bind (U:=λvs Q ö s=>Q (a::vs) s) al (λö ö ö ö ö x y=>x _ _ y) ((hs A env ρ fr pos hsc hA).keep al dY)
  λbs as=>aQ.pure (a:=a::as) (λö ö ö q=>q) λö ö x=>?_).of λQ E s h=>spliced_cons h
 ·exact λQ Q' E s x y=>aA y (λvs s'=>x _ _) λö ö z=>z
 ·exact⟨x.2,x.1⟩
theorem wh {bs:List PV} {vs:List ag}:aQ P cls env ρ fr (λg h=>aU P g h bs vs) (eJ P A (newList vs)) (bJ (gb bs)) (cR P):=by
 refine aQ.leaf λg σ s E Q b G V F hp e hQ=>?_;unfold gb at e;split at e
 ·rename_i hl
  (injection e;subst_vars)
  refine V.lclK λM t m hn=>?_;refine wpAny_newObj_type ?_ (by
   show vs.toArray.size<=sizeLine;refine(bE).symm▸(aU.length hp)▸sizeLine_eq.symm▸?_;exact ae hl (by decide))
  have hnew:=bA s.heap (o:={cls:=.type "list",data:=.seq vs.toArray}) rfl;obtain⟨g',x,G',tg,_,_⟩:=wC G t (.of_all hn λa o e=>az _ e) (aT (au _)) hnew .frz DJ;refine hQ _ {s with heap:=s.heap.push _} g' x G' ?_ ⟨rfl,rfl,rfl⟩;exact⟨_,vs,rfl,tg,⟨_,hnew⟩,hp.mono x⟩
 ·contradiction
theorem uN {bs:List PV} {vs:List ag} (hl:bs.length<=1000):aQ P cls env ρ fr (λg h=>aU P g h bs vs) (eJ P A (newTuple vs)) (MM.pure (.tup bs)) (cR P):=by
 refine aQ.leaf1 λg σ s E Q G V F hp hQ=>?_;refine V.lclK λM t m hn=>?_;refine wpAny_newObj_type ?_ (by
  show vs.toArray.size<=sizeLine;refine(bE).symm▸(aU.length hp)▸sizeLine_eq.symm▸?_;exact ae hl (by decide))
 have hnew:=bA s.heap (o:={cls:=.type "tuple",data:=.seq vs.toArray}) rfl;obtain⟨g',x,G',tg,_,_⟩:=wC G t (.of_all hn λa o e=>az _ e) (aT (au _)) hnew .frz DJ;refine hQ _ {s with heap:=s.heap.push _} g' x G' ?_ ⟨rfl,rfl,rfl⟩;exact⟨_,vs,rfl,tg,⟨_,hnew,rfl,_,rfl⟩,hp.mono x⟩
set_option tactic.hygienic true in
theorem nC:∀(mes:List ME) (σ:ah) (l:List PV) (aF:ah),eP cf ρ mes σ=.ok l aF->l.length=mes.length
 |[],σ,l,aF,e=>by simp only[sd,se,MM.pure,qn.ok.injEq]at e;simp[<-e.1]
 |me::mes,σ,l,aF,e=>by
  simp only[sd,se,MM.bind]at e;split at e
  ·rename_i v aZ h1;split at e
   ·rename_i vs bK h2;simp only[MM.pure,qn.ok.injEq]at e;exact e.1▸(aj).symm▸(aj).symm▸(nC mes _ _ _ h2).symm▸rfl
   ·contradiction
   ·contradiction
  ·contradiction
  ·contradiction
theorem SE.list {es:List ay} {mes:List ME} {pos:Pos} (h:vp P cls cf n sc es mes):SE P cls cf n sc (.List es pos) (.list mes):=λA env ρ fr hs hA=>by
 exact(aQ.bind al (λö=>al) (h A env ρ fr pos hs hA) λb a=>wh).of λö ö ö=>List_
theorem SE.tup {es:List ay} {mes:List ME} {k:Nat} {pos:Pos} (h:vp P cls cf n sc es mes) (hl:mes.length<=1000):SE P cls cf n sc (.Tuple es k pos) (.tup mes):=λA env ρ fr hs hA=>by
 have h':aQ P cls env ρ fr (λö ö=>True) (eJ P A (spliced (ee pos (aX es env)))) (eP cf ρ mes) (λg h l vs=>aU P g h l vs/\l.length<=1000):=λg σ s E G V F hp hb hE=>
  al _ _ E s (λ_ _ ⟨b,aF,g',a1,a2,a3,a4,a5⟩=>⟨b,aF,g',a1,a2,a3,⟨a4,(nC _ _ _ _ a1).symm▸hl⟩,a5⟩) (h A env ρ fr pos hs hA g σ s E G V F hp hb hE)
 refine(aQ.bind al (λö=>al) h' λb a=>?_).of λö ö ö=>Tuple_;intro g σ s E G V F hp hb hE;exact uN hp.2 g σ s E G V F hp.1 hb hE
theorem SE.two {a b:ay} {ma mb:ME} {U:ag->ag->Sem ag} {f:PV->PV->MM PV} {e:ay} {me:ME} (ha:SE P cls cf n sc a ma) (hb:SE P cls cf n sc b mb)
  (hU:∀(A:bd) (env:Env) (ρ:aE) (fr:List Env) (x y:PV) (v w:ag),jP A n fr->aQ P cls env ρ fr (λg h=>cR P g h x v/\cR P g h y w) (eJ P A (U v w)) (f x y) (cR P))
  (hm:∀ρ,bu cf ρ me=MM.bind (bu cf ρ ma) λx=>MM.bind (bu cf ρ mb) λy=>f x y)
  (hr:∀A env Q E s,eJ P A (eval a env) (λv cg=>eJ P A (eval b env) (λw cx=>eJ P A (U v w) Q E cx) E cg) E s->eJ P A (eval e env) Q E s):SE P cls cf n sc e me:=λA env ρ fr hs hA=>by
 rw[hm];refine(aQ.bind al (λv=>?_) (ha A env ρ fr hs hA) λx v=>aQ.bind al (λw=>al) ((hb A env ρ fr hs hA).keep al dY) λy w=>?_).of (hr A env)
 ·exact λQ Q' E s x y=>aA y (λö ö=>al _ _ _ _ x) λö ö z=>z
 ·exact(hU A env ρ fr x y v w hA).conseq al (λö ö z=>⟨z.2,z.1⟩) λö ö ö ö z=>z
end
open PySem PySem.W PyProof.Rows PySem.Calls
section
variable {P:PW} {cls:ag} {cf:String->List PV->MM PV} {n:Nat×Nat} {sc:bD} {A:bd} {env:Env} {ρ:aE} {fr:List Env} {g:Gh} {h:Heap}
theorem nP:dm<=sizeLine:=by rw[sizeLine_eq];decide
theorem jP.units' (a:jP A n fr):A.units+64<cLine:=by have:=a.units;have:=a.level;simp only[cLine];exact b7 0x126ac4140218218120a081a26484129142138202 ‹_› this
theorem jP.room (a:jP A n fr):A.units<cLine:=by have:=a.units;have:=a.level;simp only[cLine];exact b7 0x126ac41818120a081a26484129142138202 ‹_› this
theorem jz:∀{l:List PV} {vs:List ag} {ss:List Str},aU P g h l vs->jb l=some ss->StrsAre vs ss
 |[],[],ss,_,e=>by simp[jb]at e;subst e;exact .nil
 |p::l,v::vs,ss,r,e=>by
  unfold jb at e;rw[n7]at e;refine fm e λx hx e=>?_;refine fm e λxs hxs e=>?_
  (injection e;subst_vars)
  cases p<;>simp only[PV.str?]at hx<;>cases hx
  obtain⟨t,rfl⟩:=r.1;exact .cons _ t (jz r.2 hxs)
 |[],_::_,_,r,_=>aw r
 |_::_,[],_,r,_=>aw r
theorem intsAre_of:∀{l:List PV} {vs:List ag} {ss:List Int},aU P g h l vs->mH l=some ss->IntsAre vs ss
 |[],[],ss,_,e=>by simp[mH]at e;subst e;exact .nil
 |p::l,v::vs,ss,r,e=>by
  unfold mH at e;rw[n7]at e;refine fm e λx hx e=>?_;refine fm e λxs hxs e=>?_
  (injection e;subst_vars)
  cases p<;>simp only[PV.int?]at hx<;>cases hx
  obtain⟨t,rfl⟩:=r.1;exact .cons _ t (intsAre_of r.2 hxs)
 |[],_::_,_,r,_=>aw r
 |_::_,[],_,r,_=>aw r
theorem aU.replicate {l:List PV} {vs:List ag} (r:aU P g h l vs):∀k,aU P g h (c3 k l).flatten (c3 k vs).flatten
 |0=>trivial
 |k+1=>by simp only[List.replicate_succ,List.flatten_cons];exact aU.append r (aU.replicate r k)
theorem nO {k:Nat} (h:k<2^64):k.log2<=63:=by
 by_cases hk:k=0
 ·subst hk;decide
 ·exact gr ((Nat.log2_lt hk).mpr h)
theorem yK {x:Int} (h:x.natAbs<2^64):Builtin.Int.intBits x<=64:=by
 unfold Builtin.Int.intBits;split
 ·exact aL _
 ·exact aK (nO h)
theorem bitAnd_nn {x y:Int} (h1:0<=x) (h2:0<=y):Builtin.bitAnd x y=((x.toNat &&& y.toNat:Nat):Int):=by
 unfold Builtin.bitAnd;exact(decide_eq_true h1).symm▸(decide_eq_true h2).symm▸rfl
theorem Ei {x y:Int} (h1:0<=x) (h2:0<=y):Builtin.bitOr x y=((x.toNat ||| y.toNat:Nat):Int):=by
 unfold Builtin.bitOr Builtin.bitAnd Builtin.bitNot;have e1:¬(0<=-x-1):=gR 0x11085400b8180031 h1;have e2:¬(0<=-y-1):=gR 0x11085400b8180031 h2;refine(decide_eq_false e1).symm▸(decide_eq_false e2).symm▸?_;have e3:(-(-x-1)-1:Int)=x:=aM (gR 0x1810108545430) (gR 0x1101085454830);have e4:(-(-y-1)-1:Int)=y:=aM (gR 0x1810108545430) (gR 0x1101085454830);simp only[e3,e4];exact aM (cy 0x186101086545430) (cy 0x110108654548630)
noncomputable def FO:AG->Operator
 |.add=>.Add|.sub=>.Sub|.mul=>.Mult|.fdiv=>.FloorDiv|.mod=>.Mod|.pow=>.Pow|.bor=>.BitOr|.band=>.BitAnd
open PySem.Spec in
theorem Dd {l:Addr} {vs:List ag} {x:Int} {u:Tok} {s:ak} {Q E:ag->ak->Prop} (hl:s.heap.IsList l vs.toArray) (hlo:-(2^63:Int)<=x) (hhi:x<2^63) (hsz:vs.length*x.toNat<=2^24)
  (h:Q (.ref s.heap.objs.size) {s with heap:=s.heap.push {cls:=.type "list",data:=.seq (c3 x.toNat vs).flatten.toArray}}):
  wpAny (model P.prog P.w) A (binaryOp .Mult (.ref l) (.int x u)) Q E s:=by
 obtain⟨⟨cls,d,data,sl⟩,ho,hcl,k,hd⟩:=id hl;simp only at hcl hd;subst hcl hd;have hsz':vs.toArray.size*x.toNat<=2^24:=by simpa using hsz
 refine wpAny_binaryOp_repeat_ref (T:="list") (U:="int") (by decide) ⟨_,ho,rfl⟩ (λs'=>typeIs_int s' x u) noFill_list_mul F.fills_int_mul F.slot_int_rmul repeat_list F.slot_int_index.lookup
  (call_meets F.slot_int_rmul (typeIs_int s x u) F.entry_int_rmul (F.args_int_rmul_2 _ _) (lm_int_rmul_list_any x u l vs.toArray k d sl)
   ⟨ho,rfl,⟨_,ho,rfl⟩,call_meets F.slot_list_mul ⟨_,ho,rfl⟩ F.entry_list_mul (F.args_list_mul_2 _ _)
    (lm_list_mul_any l vs.toArray k d sl x u (by simp[Builtin.List.listFitsIndex];exact⟨gR 0x181000000009180000000813538181000000009180000000813531 hlo,gR 0x1100000000918000000081384811000000009180000000813841 hhi⟩) (by omega) (by simp[Builtin.List.listTooLong,sizeLine];exact cy 0x11000000718081100000071801 hsz))
    ⟨ho,?_⟩⟩)
 rw[listMul_foldl_if];exact h
theorem fdiv_eq {x y:Int} (h:0<y):x.fdiv y=x/y:=Int.fdiv_eq_ediv_of_nonneg _ (ke h)
theorem fmod_eq {x y:Int} (h:0<y):x.fmod y=x%y:=Int.fmod_eq_emod_of_nonneg _ (ke h)
theorem uk {y:Int} (h:0<y) (h':y<2^64):y.natAbs<2^64:=bF.mp ((og (ke h)).symm▸h')
theorem Bv {y k:Int} (h:0<=y) (hk:k<=1000) (h':y<=k):y.natAbs<2^64:=bF.mp ((og h).symm▸(iB h' (iB hk (by decide))))
theorem A0 {k:Int} (h0:0<=k) (h1:k<=100):-(2^63:Int)<=k/\k<2^63/\k.toNat<=100:=⟨m9 (by decide) h0,iB h1 (by decide),f6.mpr h1⟩
theorem GZ {op:AG} {x y:PV} {v w:ag} (hA:jP A n fr):aQ P cls env ρ fr (λg h=>cR P g h x v/\cR P g h y w) (eJ P A (binaryOp (FO op) v w)) (bJ (jO op x y)) (cR P):=by
 refine aQ.leaf λg σ s E Q b G V F hp e hQ=>?_;obtain⟨rx,ry⟩:=hp;refine V.lclK λM t m hn=>?_;have fin:∀(a:Int) (k:Tok),some (PV.int a)=some b->Q (.int a k) {s with toks:=s.toks+1}:=λa k q=>
  hQ _ {s with toks:=s.toks+1} g (.refl ..) G (Option.some.inj q▸⟨k,rfl⟩) ⟨rfl,rfl,rfl⟩
 induction op with
 |add=>
  cases x with
  |int i=>
   apply A3 v rx
   intro t1;apply dJ w ry e
   intro j t2 e;exact add_int (fin _ _ e)
  |str i=>
   apply v1 v rx
   intro t1;apply lz w ry e
   intro j t2 e;refine mI e λhl e=>?_;refine PyProof.Rows.add_str (λt' tk=>hQ _ {s with toks:=tk} g (.refl ..) G (Option.some.inj e▸⟨t',rfl⟩) ⟨rfl,rfl,rfl⟩) (ae ?_ nP);show i.cps.size+j.cps.size<=dm;exact kT▸hl
  |list i=>
   apply xJ v rx
   intro l1 vs _ i1 r1;apply lA w ry e
   intro j l2 ws _ _ i2 r2 e;refine mI e λhl e=>?_;refine add_arrays (JE hn) rI i1.il i2.il (λh' F' N'=>?_) ?_
   ·skip;exact pg G t (.of_news (new:=[_]) hn F' N') (aT (au _)) ⟨_,((N' _ (.head _)).1)⟩ (aU.append r1 r2) λg' x G' r=>hQ _ {s with heap:=h'} g' x G' (Option.some.inj e▸r) ⟨rfl,rfl,rfl⟩
   ·show vs.length+ws.length<=sizeLine;refine(aU.length r1)▸(aU.length r2)▸af▸?_;exact ae hl nP
  |_=>exact nS e
 |sub=>
  apply dJ v rx e
  intro i t1 e;apply dJ w ry e
  intro j t2 e;exact sub_int (fin _ _ e)
 |mul=>
  cases x with
  |int i=>
   apply A3 v rx
   intro t1;apply dJ w ry e
   intro j t2 e;refine mI e λhy e=>?_;exact mul_int (fin _ _ e) (IntMulOk.of_right (yK (aO hy (by decide))))
  |list i=>
   apply xJ v rx
   intro l1 vs _ i1 r1;apply dJ w ry e
   intro k t2 e;obtain⟨⟨h0,h1,h2,_⟩,e⟩:=ifS e;refine mI e λhl e=>?_;obtain⟨k1,k2,k3⟩:=A0 h0 h1;refine Dd i1.il k1 k2 (ae (Nat.mul_le_mul (aU.length r1▸h2) k3) (by decide)) ?_;exact pg G t (.of_all hn λa o e=>az _ e) (aT (au _)) ⟨_,bA _ rfl⟩ (r1.replicate _) λg' x G' r=>hQ _ {s with heap:=s.heap.push _} g' x G' (Option.some.inj e▸r) ⟨rfl,rfl,rfl⟩
  |_=>exact nS e
 |fdiv=>
  apply dJ v rx e
  intro i t1 e;apply dJ w ry e
  intro j t2 e;refine mI e λhy e=>?_;exact floordiv_int (m8 hy.1) (fin _ _ ((congrArg (λk=>some (PV.int k)) (fdiv_eq hy.1)).trans e)) (.inl (PyProof.noPylong_of_log2 (bf (nO (uk hy.1 hy.2)) (by decide))))
 |mod=>
  apply dJ v rx e
  intro i t1 e;apply dJ w ry e
  intro j t2 e;refine mI e λhy e=>?_;exact mod_int' (m8 hy) (fin _ _ ((congrArg (λk=>some (PV.int k)) (fmod_eq hy)).trans e))
 |pow=>
  apply dJ v rx e
  intro i t1 e;apply dJ w ry e
  intro j t2 e;refine mI e λhy e=>?_;exact pow_int_small hy.1 (m9 hy.2.1 (by decide)) (Bv hy.2.2.1 (by decide) hy.2.2.2) (fin _ _ e)
 |bor=>
  apply dJ v rx e
  intro i t1 e;apply dJ w ry e
  intro j t2 e;refine mI e λhy e=>?_;exact or_int (fin _ _ ((congrArg (λk=>some (PV.int k)) (Ei hy.1 hy.2)).trans e))
 |band=>
  apply dJ v rx e
  intro i t1 e;apply dJ w ry e
  intro j t2 e;refine mI e λhy e=>?_;exact and_int (fin _ _ ((congrArg (λk=>some (PV.int k)) (bitAnd_nn hy.1 hy.2)).trans e))
theorem SE.bin {a b:ay} {ma mb:ME} {op:AG} {op':Operator} {pos:Pos} (ho:FO op=op') (ha:SE P cls cf n sc a ma) (hb:SE P cls cf n sc b mb):SE P cls cf n sc (.BinOp a op' b pos) (.bin op ma mb):=by
 subst ho;exact SE.two (U:=binaryOp (FO op)) ha hb (λA env ρ fr x y v w hA=>GZ hA) (λρ=>rfl) λA env Q E s=>wpAny_BinOp
end
open PySem PySem.W PyProof.Rows PySem.Calls
section
variable {P:PW} {cls:ag} {cf:String->List PV->MM PV} {n:Nat×Nat} {sc:bD} {A:bd} {env:Env} {ρ:aE} {fr:List Env} {g:Gh} {h:Heap} {α β:Type}
noncomputable def xh (m m':MM β):Prop:=∀σ,m σ≠.bad->m' σ=m σ
theorem aQ.refine' {Pre:Gh->Heap->Prop} {T:WT α} {m m':MM β} {R:Gh->Heap->β->α->Prop} (h:aQ P cls env ρ fr Pre T m' R) (e:xh m m'):aQ P cls env ρ fr Pre T m R:=by
 intro g σ s E G V F hp hb hE;have:=h g σ s E G V F hp;replace this:=(e σ hb)▸this;exact this hb hE
mutual
theorem rl:∀{p:PV} {v:ag} {d:PyData},E7 p=some d->cR P g h p v->∃as,Reads h v d as
 |.none,_,_,e,r=>by cases e;exact r▸⟨_,.none⟩
 |.bool b,_,_,e,r=>by cases e;exact r▸⟨_,.bool b⟩
 |.int i,v,_,e,r=>by(injection e;subst_vars);obtain⟨t,q⟩:=r;exact q▸⟨_,.int i t⟩
 |.str i,v,_,e,r=>by(injection e;subst_vars);obtain⟨t,q⟩:=r;exact q▸⟨_,.str i t⟩
 |.tup l,v,d,e,r=>by
  refine lT e λds hds e=>?_;refine Mine.Internal.cps λζ κ=>?_;obtain⟨a,vs,q,_,⟨o,ho,hc,m,hd⟩,rs⟩:=r;obtain⟨as,hr⟩:=pe hds rs;refine κ ?_;exact e▸q▸⟨_,.tuple ho hc hd hr⟩
 |.list l,v,d,e,r=>by
  refine lT e λds hds e=>?_;refine Mine.Internal.cps λζ κ=>?_;obtain⟨a,vs,q,_,⟨m,ho⟩,rs⟩:=r;obtain⟨as,hr⟩:=pe hds rs;refine κ ?_;exact e▸q▸⟨_,.list ho rfl rfl hr⟩
 |.obj ..,_,_,e,_=>nS e
 |.loc _,_,_,e,_=>nS e
 |.arg _,_,_,e,_=>nS e
theorem pe:∀{l:List PV} {vs:List ag} {ds:List PyData},qd l=some ds->aU P g h l vs->∃as,ReadsAll h vs ds as
 |[],[],_,e,_=>by(injection e;subst_vars);exact⟨_,.nil⟩
 |p::l,v::vs,_,e,r=>by
  refine fm e λd hd e=>?_;refine lT e λds hds e=>?_;obtain⟨a1,h1⟩:=rl hd r.1;obtain⟨a2,h2⟩:=pe hds r.2;exact e▸⟨_,.cons h1 h2⟩
end
noncomputable def ue:xl->CmpOp
 |.eq=>.Eq|.ne=>.NotEq|.lt=>.Lt|.le=>.LtE|.gt=>.Gt|.ge=>.GtE|.isin=>.In|.notin=>.NotIn|.is_=>.Is|.isnot=>.IsNot
theorem DU {x y:PV} {v w:ag} {b:Bool} {s:ak} {E:ag->ak->Prop} {Q:ag->ak->Prop} (hA:jP A n fr) (rx:cR P g s.heap x v) (ry:cR P g s.heap y w) (e:xw x y=some b):
  (Q (.bool b) s->wpAny (model P.prog P.w) A (compareOp .Eq v w) Q E s)/\(Q (.bool !b) s->wpAny (model P.prog P.w) A (compareOp .NotEq v w) Q E s):=by
 unfold xw at e;split at e
 ·rename_i hd;apply lA v rx hd
  intro l a vs _ _ i1 q1 hd;apply lA w ry hd
  intro l' a' ws _ _ i2 q2 hd;have hsz:(vs.toArray.size !=ws.toArray.size)=true:=by
   show(!(vs.length==ws.length))=true;exact(aU.length q1)▸(aU.length q2)▸congrArg not (Option.some.inj hd)
  exact Option.some.inj e▸⟨λhQ=>SeqAt.eq_list_lengthsAt i1.il i2.il hsz hA.room hQ,λhQ=>SeqAt.RcNeAt.lists_lengths i1.il i2.il hsz hA.room _ _ _ _ hQ⟩
 ·refine fm e λa ha e=>?_;refine lT e λc hc e=>?_;refine fm ha λd ha e1=>?_;refine mI e1 λk1 e1=>?_;refine fm hc λd' hc e2=>?_;refine mI e2 λk2 e2=>?_;cases e1
  cases e2
  obtain⟨as,r1⟩:=rl ha rx;obtain⟨bs,r2⟩:=rl hc ry;exact e▸⟨λhQ=>SeqAt.compareEq_shaped r1 r2 k1 k2 hA.units' hQ,λhQ=>SeqAt.compareNe_shaped r1 r2 k1 k2 hA.units' hQ⟩
theorem xc (l:List Str) (a:Str):(l.any λx=>x==a)=decide (a∈l):=by
 rw[nh,sX,decide_eq_true_iff];constructor
 ·rintro⟨x,h,e⟩;rw[<-beq_iff_eq.mp e];exact h
 ·exact λh=>⟨a,h,by simp⟩
theorem qb (l:List Int) (a:Int):(l.any λx=>x==a)=decide (a∈l):=by
 rw[nh,sX,decide_eq_true_iff];constructor
 ·rintro⟨x,h,e⟩;rw[<-beq_iff_eq.mp e];exact h
 ·exact λh=>⟨a,h,by simp⟩
theorem zW {x y:PV} {v w:ag} {b:Bool} {s:ak} {E:ag->ak->Prop} {Q:ag->ak->Prop} (rx:cR P g s.heap x v) (ry:cR P g s.heap y w) (e:uP x y=some b):
  (Q (.bool b) s->wpAny (model P.prog P.w) A (compareOp .In v w) Q E s)/\(Q (.bool !b) s->wpAny (model P.prog P.w) A (compareOp .NotIn v w) Q E s):=by
 cases x with
 |str a=>
  apply v1 v rx
  intro t1;cases y with
  |str c=>
   apply v1 w ry
   intro t2;obtain⟨k,ha,e⟩:=rE e;have q:b=!(Builtin.Str.occurrences c ⟨#[k]⟩ 0 c.length 1).isEmpty:=by rw[<-Option.some.inj e,StrLaws.found_one,n8]
   exact ha▸q▸⟨λhQ=>in_str hQ,λhQ=>notIn_str hQ⟩
  |tup l=>
   apply Ft w ry
   intro a' vs _ it rs;refine lT e λss hs e=>?_;have hS:=jz rs hs;exact(xc ss a).trans e▸⟨λhQ=>in_tuple_strs it hS hQ,λhQ=>notin_tuple_strs it hS hQ⟩
  |_=>exact nS e
 |int a=>
  apply A3 v rx
  intro t1;cases y with
  |tup l=>
   apply Ft w ry
   intro a' vs _ it rs;refine lT e λss hs e=>?_;have hS:=intsAre_of rs hs;exact(qb ss a).trans e▸⟨λhQ=>in_tuple_ints it hS hQ,λhQ=>notin_tuple_ints it hS hQ⟩
  |list l=>
   apply xJ w ry
   intro a' vs _ it rs;refine lT e λss hs e=>?_;have hS:=intsAre_of rs hs;exact(qb ss a).trans e▸⟨λhQ=>in_list_ints it.il hS hQ,λhQ=>notin_list_ints it.il hS hQ⟩
  |_=>exact nS e
 |_=>exact nS e
theorem Dy {x y:PV} {v w:ag} {b:Bool} {s:ak} {E:ag->ak->Prop} {Q:ag->ak->Prop} (rx:cR P g s.heap x v) (ry:cR P g s.heap y w) (e:isV x y=some b):
  (Q (.bool b) s->wpAny (model P.prog P.w) A (compareOp .Is v w) Q E s)/\(Q (.bool !b) s->wpAny (model P.prog P.w) A (compareOp .IsNot v w) Q E s):=by
 cases y with
 |none=>
  have ry:w=.none:=ry;cases x with
  |none=>
   have rx:v=.none:=rx;exact ry.symm▸rx.symm▸Option.some.inj e▸⟨λq=>is_none_none q,λq=>isnot_none_none q⟩
  |list l=>
   apply xJ v rx
   intro _ _ _ _ _;exact ry.symm▸Option.some.inj e▸⟨λq=>is_ref_none q,λq=>isnot_ref_none q⟩
  |_=>exact nS e
 |_=>exact nS e
noncomputable def cmpI (f:Int->Int->Bool) (a b:PV):Option PV:=kW (λx=>kW (λy=>some (.bool (f x y))) b) a
theorem Au {op:xl} {x y:PV} {v w:ag} (hA:jP A n fr):aQ P cls env ρ fr (λg h=>cR P g h x v/\cR P g h y w) (eJ P A (compareOp (ue op) v w)) (bJ (jF op x y)) (cR P):=by
 refine aQ.leaf λg σ s E Q b G V F hp e hQ=>?_;obtain⟨rx,ry⟩:=hp;have fin:∀(a:Bool),PV.bool a=b->Q (.bool a) s:=λa q=>hQ _ s g (.refl ..) G (q▸rfl) (.refl s);have cmpi:∀{f:Int->Int->Bool} {T:Sem ag},cmpI f x y=some b->(∀i j t u,v=.int i t->w=.int j u->Q (.bool (f i j)) s->wpAny (model P.prog P.w) A T Q E s)->wpAny (model P.prog P.w) A T Q E s:=λe k=>by
  cases x with
  |int i=>cases y with
   |int j=>exact let⟨t,r⟩:=rx;let⟨u,r'⟩:=ry;k i j t u r r' (fin _ (Option.some.inj e))
   |_=>exact nS e
  |_=>exact nS e
 induction op with
 |lt=>exact cmpi (f:=λx y=>decide (x<y)) e λi j t u r r' q=>r▸r'▸lt_int q
 |le=>exact cmpi (f:=λx y=>decide (x<=y)) e λi j t u r r' q=>r▸r'▸le_int q
 |gt=>exact cmpi (f:=λx y=>decide (x>y)) e λi j t u r r' q=>r▸r'▸gt_int q
 |ge=>exact cmpi (f:=λx y=>decide (x≥y)) e λi j t u r r' q=>r▸r'▸ge_int q
 |eq=>exact let⟨c,hc,q⟩:=aS.mp e;(DU hA rx ry hc).1 (fin _ q)
 |ne=>exact let⟨c,hc,q⟩:=aS.mp e;(DU hA rx ry hc).2 (fin _ q)
 |isin=>exact let⟨c,hc,q⟩:=aS.mp e;(zW rx ry hc).1 (fin _ q)
 |notin=>exact let⟨c,hc,q⟩:=aS.mp e;(zW rx ry hc).2 (fin _ q)
 |is_=>exact let⟨c,hc,q⟩:=aS.mp e;(Dy rx ry hc).1 (fin _ q)
 |isnot=>exact let⟨c,hc,q⟩:=aS.mp e;(Dy rx ry hc).2 (fin _ q)
theorem SE.cmp {a b:ay} {ma mb:ME} {op:xl} {op':CmpOp} {pos:Pos} (ho:ue op=op') (ha:SE P cls cf n sc a ma) (hb:SE P cls cf n sc b mb) (hm:behindInMarks op' b=false):
  SE P cls cf n sc (.Compare a [op'] [b] pos) (.cmp op ma mb):=by
 subst ho;exact SE.two (U:=compareOp (ue op)) ha hb (λA env ρ fr x y v w hA=>Au hA) (λρ=>rfl) λA env Q E s h=>wpAny_Compare1 h hm
theorem nG {x:PV} {v:ag}:aQ P cls env ρ fr (λg h=>cR P g h x v) (eJ P A (truthy v)) (bJ (iH x)) (λö ö b c=>b=c):=by
 refine aQ.leaf λg σ s E Q b G V F hp e hQ=>?_;cases x with
 |bool c=>
  have q:v=.bool c:=hp;exact q▸wpAny_truthy_bool (hQ _ s g (.refl ..) G (Option.some.inj e).symm (.refl s))
 |int i=>
  apply A3 v hp
  intro t;exact truthy_int (hQ _ s g (.refl ..) G ((Option.some.inj e).symm.trans (by rw[nh];simp)) (.refl s))
 |_=>exact nS e
theorem ST.plain {e:ay} {me:ME} (h:SE P cls cf n sc e me) (he:∀env whole,isTrue e env whole=(do let v<-whole;standAt e.pos;holding [v] (truthy v))):ST P cls cf n sc e me:=λA env ρ fr hs hA=>
 (aQ.bind al (λö=>al) (h A env ρ fr hs hA) λb a=>nG).of λö ö ö w=>isTrue_plain w (he env _)
theorem ST.cmp {a b:ay} {ma mb:ME} {op:xl} {op':CmpOp} {pos:Pos} (ho:ue op=op') (ha:SE P cls cf n sc a ma) (hb:SE P cls cf n sc b mb) (hm:behindInMarks op' b=false):
  ST P cls cf n sc (.Compare a [op'] [b] pos) (.cmp op ma mb):=λA env ρ fr hs hA=>by
 subst ho;have e:eO (bu cf ρ (.cmp op ma mb))=MM.bind (bu cf ρ ma) λx=>MM.bind (bu cf ρ mb) λy=>MM.bind (bJ (jF op x y)) λv=>bJ (iH v):=
  MM.bind_assoc.trans (congrArg _ (funext λx=>MM.bind_assoc))
 rw[e];refine(aQ.bind al (λv=>?_) (ha A env ρ fr hs hA) λx v=>aQ.bind al (λw=>?_) ((hb A env ρ fr hs hA).keep al dY) λy w=>
  aQ.bind al (λö=>al) ((Au (x:=x) (y:=y) hA).conseq al (λö ö z=>⟨z.2,z.1⟩) λö ö ö ö z=>z) λb c=>nG).of λQ E s h=>wpAny_isTrue_Compare1 h hm
 ·exact λQ Q' E s x y=>aA y (λö ö y=>aA y (λö ö y=>aA y (λö ö=>x _ _) λö ö z=>z) λö ö z=>z) λö ö z=>z
 ·exact λQ Q' E s x y=>aA y (λö ö y=>aA y (λö ö=>x _ _) λö ö z=>z) λö ö z=>z
theorem ST.not {e:ay} {me:ME} {pos:Pos} (h:ST P cls cf n sc e me):ST P cls cf n sc (.UnaryOp .Not e pos) (.not me):=λA env ρ fr hs hA=>
 ((aQ.bind (U:=λc Q ö s=>Q (!c) s) al (λö ö ö ö ö x y=>x _ _ y) (h A env ρ fr hs hA) λb c=>aQ.pure (a:=!c) (b:=!b) (λö ö ö q=>q) λö ö e=>congrArg Bool.not e).of λö ö ö w=>isTrue_not w).eq MM.bind_assoc
theorem SE.not {e:ay} {me:ME} {pos:Pos} (h:SE P cls cf n sc e me):SE P cls cf n sc (.UnaryOp .Not e pos) (.not me):=λA env ρ fr hs hA=>by
 have e1:bu cf ρ (.not me)=MM.bind (bu cf ρ me) λv=>MM.bind (bJ (iH v)) λb=>MM.pure (PV.bool !b):=MM.bind_assoc;refine e1.symm▸?_;refine(aQ.bind (U:=λv Q E s=>wpAny (model P.prog P.w) A (truthy v) (λc s'=>Q (.bool !c) s') E s) al (λv=>?_) (h A env ρ fr hs hA) λb v=>
  aQ.bind (U:=λ(c:Bool) (Q:ag->ak->Prop) (_:ag->ak->Prop) s=>Q (.bool !c) s) al (λö ö ö ö ö x y=>x _ _ y) nG λb c=>aQ.pure (a:=Value.bool !c) (λö ö ö q=>q) λö ö e=>e▸rfl).of λQ E s w=>?_
 ·exact λQ Q' E s x y=>aA y (λö ö=>x _ _) λö ö z=>z
 ·show wpAny _ _ (eval e env>>=λv=>standAt pos>>=λö=>holding [v] (unaryOp .Not v)) _ _ _;exact av (aA w (λv s' w'=>av (wpAny_standAt (wpAny_holding (not_of w')))) λö ö z=>z)
noncomputable def Ca (P:PW) (cls:ag) (cf:String->List PV->MM PV) (n:Nat×Nat) (sc:bD) (op:BoolOp) (es:List ay) (me:ME):Prop:=
 ∀(A:bd) (env:Env) (ρ:aE) (fr:List Env) (pos:Pos) (whole:Sem ag),env.scope=sc->jP A n fr->
  aQ P cls env ρ fr (λö ö=>True) (eJ P A (isTrue (.BoolOp op es pos) env whole)) (eO (bu cf ρ me)) (λö ö b c=>b=c)
theorem Ca.and1 {e:ay} {me:ME} (h:ST P cls cf n sc e me):Ca P cls cf n sc .And [e] me:=λA env ρ fr pos whole hs hA=>
 (h A env ρ fr hs hA).of λQ E s w=>isTrue_and (aA w (λc s' q=>by induction c<;>first|exact q|exact isTrue_and_nil q) λö ö z=>z)
theorem Ca.or1 {e:ay} {me:ME} (h:ST P cls cf n sc e me):Ca P cls cf n sc .Or [e] me:=λA env ρ fr pos whole hs hA=>
 (h A env ρ fr hs hA).of λQ E s w=>isTrue_or (aA w (λc s' q=>by induction c<;>first|exact q|exact isTrue_or_nil q) λö ö z=>z)
theorem xh.bind {x:MM α} {f f':α->MM β} (h:∀a,xh (f a) (f' a)):xh (MM.bind x f) (MM.bind x f'):=by
 intro σ;unfold MM.bind;cases x σ with
 |ok a aZ=>exact h a aZ
 |exc _=>exact λö=>rfl
 |bad=>exact λö=>rfl
theorem Fv {ma mb:MM PV}:xh (eO (MM.bind ma λx=>MM.bind (bJ x.bool?) λt=>if t then mb else MM.pure x)) (MM.bind (eO ma) λt=>if t then eO mb else MM.pure false):=by
 unfold eO;rw[MM.bind_assoc,MM.bind_assoc];refine xh.bind λx=>?_;cases x with
 |bool b=>induction b<;>exact λö ö=>rfl
 |_=>exact λö h=>absurd rfl h
theorem IW {ma mb:MM PV}:xh (eO (MM.bind ma λx=>MM.bind (bJ x.bool?) λt=>if t then MM.pure x else mb)) (MM.bind (eO ma) λt=>if t then MM.pure true else eO mb):=by
 unfold eO;rw[MM.bind_assoc,MM.bind_assoc];refine xh.bind λx=>?_;cases x with
 |bool b=>induction b<;>exact λö ö=>rfl
 |_=>exact λö h=>absurd rfl h
theorem tN {T U:WT Bool} {c:Bool} (a:g0 T) (b:g0 U):g0 (λQ E s=>if c=true then T Q E s else U Q E s):=λQ Q' E s x y=>by
 cases c
 ·exact b Q Q' E s x y
 ·exact a Q Q' E s x y
theorem Ca.and {e:ay} {me mes:ME} {es:List ay} (h:ST P cls cf n sc e me) (hs:Ca P cls cf n sc .And es mes):Ca P cls cf n sc .And (e::es) (.band me mes):=λA env ρ fr pos whole hsc hA=>by
 refine aQ.refine' ?_ Fv;refine(aQ.bind (U:=λc Q E s=>if c=true then eJ P A (isTrue (.BoolOp .And es pos) env whole) Q E s else Q false s) al (λc=>?_) (h A env ρ fr hsc hA) λb c=>?_).of λQ E s w=>isTrue_and w
 ·exact tN al λö ö ö ö x y=>x _ _ y
 ·intro g σ s E G V F hp hb hE;subst hp
  induction b with
  |true=>exact hs A env ρ fr pos whole hsc hA g σ s E G V F trivial hb hE
  |false=>exact⟨false,σ,g,rfl,.refl ..,G,rfl,.refl s⟩
theorem Ca.or {e:ay} {me mes:ME} {es:List ay} (h:ST P cls cf n sc e me) (hs:Ca P cls cf n sc .Or es mes):Ca P cls cf n sc .Or (e::es) (.bor me mes):=λA env ρ fr pos whole hsc hA=>by
 refine aQ.refine' ?_ IW;refine(aQ.bind (U:=λc Q E s=>if c=true then Q true s else eJ P A (isTrue (.BoolOp .Or es pos) env whole) Q E s) al (λc=>?_) (h A env ρ fr hsc hA) λb c=>?_).of λQ E s w=>isTrue_or w
 ·exact tN (λö ö ö ö x y=>x _ _ y) al
 ·intro g σ s E G V F hp hb hE;subst hp
  induction b with
  |false=>exact hs A env ρ fr pos whole hsc hA g σ s E G V F trivial hb hE
  |true=>exact⟨true,σ,g,rfl,.refl ..,G,rfl,.refl s⟩
theorem ST.bool {op:BoolOp} {es:List ay} {me:ME} {pos:Pos} (h:Ca P cls cf n sc op es me):ST P cls cf n sc (.BoolOp op es pos) me:=λA env ρ fr hs hA=>h A env ρ fr pos _ hs hA
noncomputable def EQ (P:PW) (cls:ag) (cf:String->List PV->MM PV) (n:Nat×Nat) (sc:bD) (op:BoolOp) (es:List ay) (me:ME):Prop:=
 ∀(A:bd) (env:Env) (ρ:aE) (fr:List Env) (pos:Pos),env.scope=sc->jP A n fr->
  aQ P cls env ρ fr (λö ö=>True) (eJ P A (boolOp pos op (evalEach es env))) (bu cf ρ me) (cR P)
theorem EQ.one {e:ay} {me:ME} {op:BoolOp} (h:SE P cls cf n sc e me):EQ P cls cf n sc op [e] me:=λA env ρ fr pos hs hA=>h A env ρ fr hs hA
theorem ui {pos:Pos} {op:BoolOp} {x y:Sem ag} {rest:List (Sem ag)} {Q:ag->ak->Prop} {E:ag->ak->Prop} {s:ak}
  (h:wpAny (model P.prog P.w) A x (λv cg=>wpAny (model P.prog P.w) A (truthy v) (λt cx=>if(match op with|.And=>!t|.Or=>t)=true then Q v cx else wpAny (model P.prog P.w) A (boolOp pos op (y::rest)) Q E cx) E cg) E s):
  wpAny (model P.prog P.w) A (boolOp pos op (x::y::rest)) Q E s:=by
 show wpAny _ _ (x>>=λv=>standAt pos>>=λö=>holding [v] (truthy v)>>=λt=>_) _ _ _;refine av (aA h (λv cg cL=>av (wpAny_standAt (av (wpAny_holding (aA cL (λt cx gI=>?_) λö ö z=>z))))) λö ö z=>z)
 induction op<;>induction t<;>first|exact aG gI|exact gI
theorem EQ.and {e e':ay} {me mes:ME} {es:List ay} (h:SE P cls cf n sc e me) (hs:EQ P cls cf n sc .And (e'::es) mes):EQ P cls cf n sc .And (e::e'::es) (.band me mes):=λA env ρ fr pos hsc hA=>by
 refine(aQ.bind (U:=λv Q E s=>wpAny (model P.prog P.w) A (truthy v) (λt cx=>if(!t)=true then Q v cx else wpAny (model P.prog P.w) A (boolOp pos .And (evalEach (e'::es) env)) Q E cx) E s) al (λv=>?_) (h A env ρ fr hsc hA) λb v=>?_).of λQ E s w=>ui w
 ·exact λQ Q' E s x y=>aA y (λt s z=>by induction t<;>first|exact x _ _ z|exact aA z x λö ö z=>z) λö ö z=>z
 ·intro g σ s E G V F hp hb hE;cases b with
  |bool t=>
   subst hp;refine wpAny_truthy_bool ?_
   induction t with
   |true=>exact hs A env ρ fr pos hsc hA g σ s E G V F trivial hb hE
   |false=>exact⟨.bool false,σ,g,rfl,.refl ..,G,rfl,.refl s⟩
  |_=>exact absurd rfl hb
theorem EQ.or {e e':ay} {me mes:ME} {es:List ay} (h:SE P cls cf n sc e me) (hs:EQ P cls cf n sc .Or (e'::es) mes):EQ P cls cf n sc .Or (e::e'::es) (.bor me mes):=λA env ρ fr pos hsc hA=>by
 refine(aQ.bind (U:=λv Q E s=>wpAny (model P.prog P.w) A (truthy v) (λt cx=>if t=true then Q v cx else wpAny (model P.prog P.w) A (boolOp pos .Or (evalEach (e'::es) env)) Q E cx) E s) al (λv=>?_) (h A env ρ fr hsc hA) λb v=>?_).of λQ E s w=>ui w
 ·exact λQ Q' E s x y=>aA y (λt s z=>by induction t<;>first|exact x _ _ z|exact aA z x λö ö z=>z) λö ö z=>z
 ·intro g σ s E G V F hp hb hE;cases b with
  |bool t=>
   subst hp;refine wpAny_truthy_bool ?_
   induction t with
   |false=>exact hs A env ρ fr pos hsc hA g σ s E G V F trivial hb hE
   |true=>exact⟨.bool true,σ,g,rfl,.refl ..,G,rfl,.refl s⟩
  |_=>exact absurd rfl hb
theorem SE.bool {op:BoolOp} {es:List ay} {me:ME} {pos:Pos} (h:EQ P cls cf n sc op es me):SE P cls cf n sc (.BoolOp op es pos) me:=λA env ρ fr hs hA=>h A env ρ fr pos hs hA
theorem SE.ite {c a b:ay} {mc ma mb:ME} {pos:Pos} (hc:ST P cls cf n sc c mc) (ha:SE P cls cf n sc a ma) (hb:SE P cls cf n sc b mb):SE P cls cf n sc (.IfExp c a b pos) (.ite mc ma mb):=λA env ρ fr hs hA=>by
 refine(aQ.bind (U:=λt Q E s=>if t=true then eJ P A (eval a env) Q E s else eJ P A (eval b env) Q E s) al (λt=>?_) (hc A env ρ fr hs hA) λt t'=>?_).of λQ E s w=>IfExp_ w
 ·intro Q Q' E s x y;cases t
  ·exact al _ _ _ _ x y
  ·exact al _ _ _ _ x y
 ·intro g σ s E G V F hp hb' hE;subst hp
  induction t with
  |true=>exact ha A env ρ fr hs hA g σ s E G V F trivial hb' hE
  |false=>exact hb A env ρ fr hs hA g σ s E G V F trivial hb' hE
end
open PySem PySem.W PyProof.Rows PySem.Calls
structure cK (P:PW):Prop where
 kin:P.K.In P.B
 ng:P.B.Ns mainGlobals P.mg
 nb:P.B.Ns builtinsNs P.mb
 glob:∀x p,ua x=some p->∃v,P.mg (aa x)=some v/\∀g h,cR P g h p v
 fld:∀c C x,P.cls c=some C->x∈fieldsOf c->hasDictIn P.K C=true/\plainGet P.K C (aa x)=true/\∃a,findIn P.K (.ref C) (aa x)=some a/\noGet P.K a=true
structure xd (P:PW):Prop where
 cls:∀c C,P.cls c=some C->findIn P.K (.ref C) "__setattr__"=some (some (.builtin "object.__setattr__"))/\plainOver P.K C=true/\hasDictIn P.K C=true
 fld:∀c C x,P.cls c=some C->x∈fieldsOf c->takerIn P.K C (aa x)=some none
theorem toNat_inj {a b:Char} (h:a.toNat=b.toNat):a=b:=Char.ext (UInt32.toNat_inj.mp h)
theorem nz:∀{a b:List Char},a.map Char.toNat=b.map Char.toNat->a=b
 |[],[],_=>rfl
 |[],_::_,h=>nomatch h
 |_::_,[],h=>nomatch h
 |a::l,b::m,h=>by
  simp only[bq,List.cons.injEq]at h;exact(toNat_inj h.1).symm▸(nz h.2).symm▸rfl
theorem dy {a b:String} (h:aa a=aa b):a=b:=by
 rw[AJ,AJ]at h;simp only[KQ.injEq]at h;exact String.toList_inj.mp (nz (by simpa using congrArg Array.toList h))
section
variable {P:PW} {cls:ag} {cf:String->List PV->MM PV} {n:Nat×Nat} {sc:bD} {A:bd} {env:Env} {ρ:aE} {fr:List Env} {g:Gh} {h:Heap} {σ:ah}
theorem dq.keep (G:dq P g σ h):∀a o,P.B.get? a=some o->h.get? a=some o:=λa o e=>(G.base a o e).1
theorem dq.kin (B:cK P) (G:dq P g σ h):P.K.In h:=λa o e=>G.keep a o (B.kin a o e)
theorem dq.ng (B:cK P) (G:dq P g σ h):h.Ns mainGlobals P.mg:=B.ng.keeps G.keep
theorem dq.nb (B:cK P) (G:dq P g σ h):h.Ns builtinsNs P.mb:=B.nb.keeps G.keep
theorem j0 {x:Str} {pos:Pos} {v:ag} {s:ak} {Q E:ag->ak->Prop} (B:cK P) (G:dq P g σ s.heap) (V:EnvRel P g s.heap env ρ) (hk:env.kindOf x=some .globalImplicit) (hv:P.mg x=some v) (hQ:Q v s) (hd:(x==("__debug__":Str))=false):
  wpAny (model P.prog P.w) A (eval (.Name x pos) env) Q E s:=by
 have:=G.ng B;rw[<-V.gl]at this;exact Name_function_global V.fn hk (loadGlobal_global this hv hQ) hd
theorem nX {x:Str} {pos:Pos} {v:ag} {s:ak} {Q E:ag->ak->Prop} (B:cK P) (G:dq P g σ s.heap) (V:EnvRel P g s.heap env ρ) (hk:env.kindOf x=some .globalImplicit) (hv:P.mg x=none) (hb:P.mb x=some v) (hQ:Q v s) (hd:(x==("__debug__":Str))=false):
  wpAny (model P.prog P.w) A (eval (.Name x pos) env) Q E s:=by
 have h1:=G.ng B;have h2:=G.nb B;rw[<-V.gl]at h1;rw[<-V.bi]at h2;exact Name_function_global V.fn hk (loadGlobal_builtin h1 hv h2 hb hQ) hd
theorem SE.glob (B:cK P) {x:Str} {pos:Pos} {y:String} (hx:x=aa y) (hk:sc.names.lookup x=some .globalImplicit) (hd:(x==("__debug__":Str))=false):SE P cls cf n sc (.Name x pos) (.glob y):=by
 intro A env ρ fr hs _;subst hx;refine aQ.leaf λg σ s E Q b G V F ö e hQ=>?_;have hk':env.kindOf (aa y)=some .globalImplicit:=by rw[Env.kindOf,hs];exact hk
 obtain⟨v,hv,hr⟩:=B.glob _ _ e;exact j0 B G V hk' hv (hQ v s g (.refl ..) G (hr ..) (.refl s)) hd
theorem SE.fre {x:Str} {pos:Pos} {y:String} (hx:x=aa y) (hk:sc.names.lookup x=some .free) (hd:(x==("__debug__":Str))=false) (hc:(x==("__classdict__":Str))=false):SE P cls cf n sc (.Name x pos) (.var y):=by
 intro A env ρ fr hs _;subst hx;refine aQ.leaf λg σ s E Q b G V F ö e hQ=>?_;have hk':env.kindOf (aa y)=some .free:=by rw[Env.kindOf,hs];exact hk
 obtain⟨c,v,e1,_,e2,r⟩:=V.cel _ _ e (.inr hk');exact wpAny_Name (wpAny_loadName_free V.fn hk' e1 e2 (hQ v s g (.refl ..) G r (.refl s)) hc) hd
theorem jI.look {x:String}:∀{es:List DictEntry} {ns:List String} {vs:List ag} {ps:List PV} {p:PV},jI es ns vs->aU P g h ps vs->rY ns ps x=some p->
  ∃e,es.find? (·.key.isStr (aa x))=some e/\cR P g h p e.val
 |[],[],[],ps,p,_,_,e=>by simp[rY]at e
 |[],_::_,_,ps,p,f,_,e=>aw f
 |[],[],_::_,ps,p,f,_,e=>aw f
 |_::_,[],_,ps,p,f,_,e=>aw f
 |_::_,_::_,[],ps,p,f,_,e=>aw f
 |_::_,_::_,_::_,[],p,f,r,e=>aw r
 |d::es,y::ns,v::vs,q::ps,p,f,r,e=>by
  obtain⟨⟨t,hk⟩,hv,f⟩:=f;simp only[rY,iw,aW]at e;by_cases q':x=y
  ·subst q';simp only[beq_self_eq_true,Option.some.injEq]at e;subst e;refine⟨d,?_,hv▸r.1⟩;refine(m6).symm▸hk.symm▸?_;simp[Value.isStr]
  ·have:(x==y)=false:=by simpa using q'
   replace e:=(this)▸e;obtain⟨e',h1,h2⟩:=jI.look f r.2 e;refine⟨e',?_,h2⟩;refine(m6).symm▸hk.symm▸?_;have:(Value.str (aa y) t).isStr (aa x)=false:=by
    simp only[Value.isStr,beq_eq_false_iff_ne,ne_eq];exact λz=>q' (dy z).symm
   refine this.symm▸?_;exact h1
theorem xI {p:PV} {v:ag} (r:cR P g h p v):handedIn v=true:=by
 cases p with
 |none=>exact(show v=.none from r)▸rfl
 |bool b=>exact(show v=.bool b from r)▸rfl
 |int i=>apply A3 v r;exact λö=>rfl
 |str i=>apply v1 v r;exact λö=>rfl
 |tup l=>apply Ft v r;exact λö ö ö ö ö=>rfl
 |list l=>apply xJ v r;exact λö ö ö ö ö=>rfl
 |arg l=>obtain⟨a,_,q,_⟩:=r;exact q▸rfl
 |obj c ns l=>obtain⟨a,_,_,_,_,_,q,_⟩:=r;exact q▸rfl
 |loc k=>exact r.2▸rfl
theorem pV {x:String} {c:String} {ns:List String} {ps:List PV} {p:PV} {a C dx:Addr} {es:List DictEntry} {m:Nat} {vs:List ag} {s:ak} {Q E:ag->ak->Prop} (B:cK P) (G:dq P g σ s.heap)
  (hC:P.cls c=some C) (h1:s.heap.get? a=some (instObj C dx)) (h2:s.heap.get? dx=some (dictOf es m)) (f:jI es ns vs) (r:aU P g s.heap ps vs) (hx:x∈fieldsOf c) (e:rY ns ps x=some p)
  (hQ:∀v s',s'.heap=s.heap->fU s s'->cR P g s.heap p v->Q v s'):wpAny (model P.prog P.w) A (getAttr (.ref a) (aa x) true) Q E s:=by
 refine Mine.Internal.cps λζ κ=>?_;obtain⟨hd,hp,attr,ha,hn⟩:=B.fld c C x hC hx;obtain⟨d,he,rd⟩:=f.look r e;have I:InstAt s.heap a (instObj C dx) C (some (dictOf es m)):=⟨h1,rfl,rfl,h2⟩;refine κ ?_;refine get_value (G.kin B) I (plainGet_of hp).1 (findObj_own hd ha hn ?_) (xI rd) (hQ _ {s with toks:=s.toks+1} rfl ⟨rfl,rfl,rfl⟩ rd);show(match es.toArray.toList.find? _ with|some e=>_|none=>_)=_;exact he.symm▸rfl
theorem xa (B:cK P) {v:PV} {w:ag} {x:String}:aQ P cls env ρ fr (λg h=>cR P g h v w) (eJ P A (getAttr w (aa x) true)) (cC λσ=>j6 σ v x) (cR P):=by
 refine aQ.leafσ λg σ s E Q b G V F hp e hQ=>?_;have fin:∀v s',s'.heap=s.heap->fU s s'->cR P g s.heap b v->Q v s':=λv s' q1 q2 r=>hQ v s' g (q1▸.refl ..) (q1▸G) (q1▸r) q2;cases v with
 |obj c ns ps=>
  refine mI e λhx e=>?_;obtain⟨a,C,dx,es,m,vs,q,hC,_,_,h1,h2,f,r⟩:=hp;exact q▸pV B G hC h1 h2 f r hx e fin
 |loc k=>
  refine fm e λc hk e=>?_
  induction c with
  |obj c ns ps=>
   refine mI e λhx e=>?_;obtain⟨_,C,dx,es,m,vs,hC,_,h1,h2,f,r⟩:=G.cells _ _ hk;exact hp.2▸pV B G hC h1 h2 f r hx e fin
  |_=>exact nS e
 |_=>exact nS e
theorem SE.attr (B:cK P) {e:ay} {me:ME} {x:Str} {y:String} {pos:Pos} (hx:x=aa y) (h:SE P cls cf n sc e me)
  (he:∀env,eval (.Attribute e x pos) env=(do
   let o<-eval e env
   standAt pos.atName
   let r<-holding [o] (getAttr o x true)
   letTemporaryGo e o r
   pure r)):SE P cls cf n sc (.Attribute e x pos) (.attr me y):=λA env ρ fr hs hA=>by
 subst hx;exact(aQ.bind (U:=λv=>eJ P A (getAttr v (aa y) true)) al (λö=>al) (h A env ρ fr hs hA) λb v=>xa B).of λQ E s w=>Attribute_any_ w (he env)
end
open PySem PySem.W PyProof.Rows PySem.Calls Builtin.Str
section
variable {P:PW} {cls:ag} {cf:String->List PV->MM PV} {n:Nat×Nat} {sc:bD} {A:bd} {env:Env} {ρ:aE} {fr:List Env} {g:Gh} {h:Heap} {σ:ah}
theorem Bl {i:Int} (h:i.natAbs<2^62):-(2^62)<i/\i<2^62:=⟨Int.neg_lt_of_neg_lt (iB na2 (bF.mpr h)),iB na1 (bF.mpr h)⟩
theorem oq {l:List PV} {vs:List ag} (rs:aU P g h l vs) (hl:l.length<=dm):vs.toArray.size<=sizeLine:=ae (show vs.length<=dm from aU.length rs▸hl) nP
theorem nJ {m:Nat} {i:Int} {k:Nat} (e:jf m i=some k):seqIndex? i m=some k/\k<m/\-(2^62)<i/\i<2^62/\(0<=i->i.toNat=k)/\(i<0->-(m:Int)<=i/\(i+m).toNat=k):=by
 refine mI e λhb e=>?_;obtain⟨b1,b2⟩:=Bl hb;by_cases h0:0<=i
 ·rw[if_pos h0]at e;refine mI e λh1 e=>?_;have e:=Option.some.inj e;refine⟨?_,e▸f12 0x18918189658186842 h1 (bM (gR 0x180038180031 h0)),b1,b2,λö=>e,λq=>absurd q (gR 0x1008c8180031 h0)⟩;have q:¬i<0:=gR 0x1008c8180031 h0;simp[seqIndex?,q,h0,h1,e]
 ·rw[if_neg h0]at e;refine mI e λh1 e=>?_;have e:=Option.some.inj e;refine⟨?_,e▸f12 0x198181968286581800b2 h0 (bM (n9 0x186820038186820031 h1)),b1,b2,λq=>absurd q h0,λq=>⟨n9 0x1886538186820031 h1,e⟩⟩;have q:i<0:=gR 0x1008481800b1 h0;simp[seqIndex?,q,h1,e];exact n9 0x1868682481800b1 h0
theorem qh {l:Addr} {items:List ag} {i:Int} {t:Tok} {k:Nat} {x:ag} {s:ak} {Q E:ag->ak->Prop} (hl:s.heap.IsList l items.toArray) (e:jf items.length i=some k) (hx:items[k]?=some x) (hQ:Q x s):
  wpAny (model P.prog P.w) A (getItem (.ref l) (.int i t)) Q E s:=by
 obtain⟨_,_,b1,b2,p1,p2⟩:=nJ e;by_cases h0:0<=i
 ·exact wpAny_getItem_list hl h0 (gR 0x1100000000918000000081384811000000009140000000813841 b2) (by rw[p1 h0];simpa using hx) hQ
 ·obtain⟨q1,q2⟩:=p2 (gR 0x1008481800b1 h0);exact wpAny_getItem_list_neg hl (gR 0x1008481800b1 h0) (by simpa using q1) (gR 0x181000000009180000000813538181000000009140000000813541 b1) (by rw[bE,q2];simpa using hx) hQ
theorem zG {i:Int} (h1:-(2^62)<i) (h2:i<2^62):-(2^63)<=i/\i<2^63:=⟨ke (qU (by decide) h1),qU h2 (by decide)⟩
theorem Gy {v i:PV} {w wi:ag} {value slice:ay} (hsub:∀o i,subscripted slice false o i=operate [o,i] (getItem o i)):
  aQ P cls env ρ fr (λg h=>cR P g h v w/\cR P g h i wi) (eJ P A (subscriptTail value slice w wi)) (cC λσ=>nR σ v i) (cR P):=by
 refine aQ.leafσ λg σ s E Q b G V F hp e hQ=>?_;obtain⟨rv,ri⟩:=hp;replace e:kW _ i=some b:=e;apply dJ wi ri e
 intro i ti e;have lst:(items? σ v).bind (λl=>(jf l.length i).bind λk=>l[k]?)=some b->eJ P A (subscriptTail value slice w (.int i ti)) Q E s:=λe=>by
  refine fm e λl hl e=>?_;refine fm e λk hk e=>?_;apply wB w G rv hl
  intro a vs il rs;obtain⟨x,hx,rx⟩:=rs.get e;exact tail_any il.typeIs list_getitem_lookup (qh il (aU.length rs▸hk) hx (hQ x s g (.refl ..) G rx (.refl s))) (hsub _ _)
 cases v with
 |tup l=>
  apply Ft w rv
  intro a vs _ it rs;refine fm e λk hk e=>?_;refine Mine.Internal.cps λζ κ=>?_;obtain⟨x,hx,rx⟩:=rs.get e;obtain⟨q,_,b1,b2,_⟩:=nJ (aU.length rs▸hk);obtain⟨b1,b2⟩:=zG b1 b2;refine κ ?_;exact tail_any it.typeIs slot_tuple_getitem.lookup (PyProof.Rows.getItem_tuple it b1 b2 q (by simpa using hx) (hQ x s g (.refl ..) G rx (.refl s))) (hsub _ _)
 |str x=>
  apply v1 w rv
  intro t;refine fm e λk hk e=>?_;refine lT e λc hc e=>?_;refine Mine.Internal.cps λζ κ=>?_;obtain⟨q,_,b1,b2,_⟩:=nJ hk;obtain⟨b1,b2⟩:=zG b1 b2;refine κ ?_;refine tail_any (typeIs_str s x t) PyProof.Rows.slot_str_getitem.lookup (PyProof.Rows.getItem_str (c:=c) ?_ ?_ (hQ _ {s with toks:=s.toks+1} g (.refl ..) G (e▸⟨_,rfl⟩) ⟨rfl,rfl,rfl⟩)) (hsub _ _)
  ·exact(decide_eq_false (m7.mpr b1)).symm▸(decide_eq_false (vC.mpr b2)).symm▸rfl
  ·show(seqIndex? i x.cps.size).bind _=_;exact q.symm▸hc
 |_=>exact lst e
theorem SE.idx {a b:ay} {ma mb:ME} {pos:Pos} (ha:SE P cls cf n sc a ma) (hb:SE P cls cf n sc b mb) (hsub:∀o i,subscripted b false o i=operate [o,i] (getItem o i)):SE P cls cf n sc (.Subscript a b pos) (.idx ma mb):=by
 exact SE.two (U:=λv w=>subscriptTail a b v w) ha hb (λA env ρ fr x y v w hA=>Gy hsub) (λρ=>rfl) λA env Q E s h=>PyProof.Rows.Subscript_ h
noncomputable def j8 (b:Option Int) (v:ag):Prop:=IsPart v b/\∃p:Option (Int×Tok),v=partValue p/\p.map (·.1)=b
theorem j8.none:j8 .none .none:=⟨.none,.none,rfl,rfl⟩
theorem j8.int (i:Int) (t:Tok):j8 (some i) (.int i t):=⟨.int i t,some (i,t),rfl,rfl⟩
noncomputable def Kf (P:PW) (cls:ag) (cf:String->List PV->MM PV) (n:Nat×Nat) (sc:bD) (e:Option ay) (me:Option ME):Prop:=
 ∀(A:bd) (env:Env) (ρ:aE) (fr:List Env),env.scope=sc->jP A n fr->
  aQ P cls env ρ fr (λö ö=>True) (eJ P A (evalPart e env)) (Ai cf ρ me) (λö ö b v=>j8 b v)
theorem Kf.none:Kf P cls cf n sc .none .none:=λA env ρ fr ö ö=>by
 exact aQ.pure (a:=Value.none) (λö ö ö q=>aG q) λö ö ö=>.none
theorem Kf.some {e:ay} {me:ME} (h:SE P cls cf n sc e me):Kf P cls cf n sc (some e) (some me):=λA env ρ fr hs hA=>by
 refine(aQ.bind (U:=λv Q ö s=>Q v s) al (λö ö ö ö ö x y=>x _ _ y) (h A env ρ fr hs hA) λb v=>?_).of λQ E s h=>h;intro g σ s E G V F hp hb hE;cases b with
 |int i=>
  obtain⟨t,rfl⟩:=hp;exact⟨Option.some i,σ,g,rfl,.refl ..,G,.int i t,.refl s⟩
 |_=>exact absurd rfl hb
theorem C1 {α:Type} (xs:Array α):(iy xs.size).filterMap (xs[·]?)=xs.toList:=by
 have:=pick_run xs 0 xs.size;simp only[aV,kn]at this;rw[show(λx:Nat=>x)=id from rfl,n6]at this;rw[this,<-ey,eG]
theorem Ax (m:Nat) (i:Int):max 0 (min (if i<0 then i+(m:Int)else i) (m:Int))=(fH m i:Int):=(bM (aB ..)).symm
theorem tU {α:Type} (xs:Array α) (lo hi:Option Int):(sliceRange (EM xs.size lo) (DB xs.size hi) 1).filterMap (xs[·]?)=sliceL xs.toList lo hi:=by
 rw[sliceRange_one,pick_run];unfold sliceL;rw[ey,KB]
theorem uz (xs:List ag) (lo hi:Option Int):slicePick xs.toArray lo hi none=(sliceL xs lo hi).toArray:=by
 unfold slicePick sliceBounds;refine(tU xs.toArray lo hi)▸?_
 induction lo<;>induction hi<;>simp only[Option.getD_none,gt_iff_lt,nw,if_true,Ax,EM,DB]<;>rfl
theorem tT (lo hi:Option Int) (m:Nat):strSliceIndices lo hi 1 m=sliceRange (EM m lo) (DB m hi) 1:=by
 unfold strSliceIndices
 induction lo<;>induction hi<;>simp only[gt_iff_lt,nw,if_true,Ax,EM,DB]<;>rfl
theorem vV (x:Str) (lo hi:Option Int):(strSliceIndices lo hi 1 x.length).filterMap (x.cps[·]?)=sliceL x.cps.toList lo hi:=by
 rw[tT];exact tU x.cps lo hi
theorem Jy (m:Nat) (hi:Option Int):DB m hi<=m:=by
 induction hi with
 |none=>exact au _
 |some i=>exact f6.mpr (bh.mpr ⟨eS m,Int.min_le_right ..⟩)
theorem CB {n l:Nat} (q:¬n=0) (e:n-l=n):l=0:=by omega
theorem s8 {x:Str} {lo hi:Option Int} (e:(strSliceIndices lo hi 1 x.length).length=x.length):sliceL x.cps.toList lo hi=x.cps.toList:=by
 rw[tT,sliceRange_one,ar,qw]at e;unfold sliceL;have e0:x.cps.toList.length=x.length:=ey;rw[e0];by_cases q:x.length=0
 ·have:x.cps.toList=[]:=List.length_eq_zero_iff.mp (e0.trans q);rw[this];simp
 ·have a1:DB x.length hi=x.length:=am (bH 0x1980819801 (Jy x.length hi)) (b7 0x1a9081a807f9822 e (de _ _));have a2:EM x.length lo=0:=CB q (by rw[a1]at e;exact e);rw[a1,a2,kn,<-e0,eG]
theorem aU.sliceL {lo hi:Option Int} {ps:List PV} {vs:List ag} (r:aU P g h ps vs):aU P g h (sliceL ps lo hi) (sliceL vs lo hi):=by
 show aU P g h ((ps.take _).drop _) ((vs.take _).drop _);refine(aU.length r).symm▸?_;exact(r.take _).drop _
theorem AZ {α:Type} (l:List α) (lo hi:Option Int):(sliceL l lo hi).length<=l.length:=by
 unfold sliceL;simp only[cV,dW];exact b7 0x1a8081a90819802 (de _ _) (gL _ _)
theorem Fh {v:PV} {lo hi:Option Int} {w vl vu:ag} {value:ay} {l u:Option ay} {p:Pos}:
  aQ P cls env ρ fr (λg h=>(cR P g h v w/\j8 lo vl)/\j8 hi vu)
   (λQ E s=>wpAny (model P.prog P.w) A (subscriptTail value (.Slice l u none p) w (.ref s.heap.objs.size)) Q E {s with heap:=s.heap.push {cls:=.type "slice",data:=.fields #[vl,vu,.none]}})
   (bJ (pb v lo hi)) (cR P):=by
 refine aQ.leaf λg σ s E Q b G V F hp e hQ=>?_;obtain⟨⟨rv,pl,ql,el,ql'⟩,pu,qu,eu,qu'⟩:=hp;refine V.lclK λM t m hn=>?_;have lst:v.lst?.bind (λl=>if l.length<=dm then some (PV.list (sliceL l lo hi))else none)=some b->
   wpAny (model P.prog P.w) A (subscriptTail value (.Slice l u none p) w (.ref s.heap.objs.size)) Q E {s with heap:=s.heap.push {cls:=.type "slice",data:=.fields #[vl,vu,.none]}}:=λe=>by
  refine fm e λitems hl e=>?_;refine mI e λhlen e=>?_;apply Dj w rv hl
  intro a vs il rs;refine tail_any (Heap.IsList.typeIs (s:={s with heap:=s.heap.push _}) (il.push _)) list_getitem_lookup (wpAny_getItem_list_slice (il.push _) (KG.new ..) pl pu .none (by simp) ?_ (oq rs hlen)) rfl;rw[uz];exact pg G t (.of_all hn λa o e=>az _ (az _ e)) (aT (by rw[ko];exact cy 0x11082800)) ⟨_,bA _ rfl⟩ rs.sliceL λg' x G' r=>
   hQ _ {s with heap:=(s.heap.push _).push _} g' x G' (Option.some.inj e▸r) ⟨rfl,rfl,rfl⟩
 cases v with
 |str x=>
  refine mI e λhlen e=>?_;apply v1 w rv
  intro tx;obtain⟨ad,G'⟩:=lO (h':=s.heap.push {cls:=.type "slice",data:=.fields #[vl,vu,.none]}) G t (.of_all hn λa o e=>az _ e);refine tail_any (typeIs_str _ x tx) PyProof.Rows.slot_str_getitem.lookup (wpAny_getItem_str_slice (l:=ql) (u:=qu) (st:=none) ⟨_,bA _ rfl,rfl,(el.symm▸eu.symm▸rfl)⟩ rfl ?_) rfl;have pk:slicePicked x ql qu none=strSliceIndices lo hi 1 x.length:=by unfold slicePicked;rw[ql',qu'];rfl
  unfold sliceMade;refine pk.symm▸?_;split
  ·rename_i hc;exact hQ _ {s with heap:=s.heap.push _} g ad G' (Option.some.inj e▸⟨tx,((s8 (by simpa using hc)).symm▸rfl)⟩) ⟨rfl,rfl,rfl⟩
  ·refine(vV x lo hi).symm▸?_;exact⟨ae (AZ x.cps.toList lo hi) (ae hlen nP),hQ _ {s with heap:=s.heap.push _,toks:=s.toks+1} g ad G' (Option.some.inj e▸⟨_,rfl⟩) ⟨rfl,rfl,rfl⟩⟩
 |_=>exact lst e
theorem SE.slc {a:ay} {ma:ME} {l u:Option ay} {ml mu:Option ME} {p pos:Pos} (ha:SE P cls cf n sc a ma) (hl:Kf P cls cf n sc l ml) (hu:Kf P cls cf n sc u mu):SE P cls cf n sc (.Subscript a (.Slice l u none p) pos) (.slc ma ml mu):=λA env ρ fr hs hA=>by
 let U2:ag->ag->ag->WT ag:=λw vl vu Q E s=>wpAny (model P.prog P.w) A (subscriptTail a (.Slice l u none p) w (.ref s.heap.objs.size)) Q E {s with heap:=s.heap.push {cls:=.type "slice",data:=.fields #[vl,vu,.none]}}
 have m2:∀w vl vu,g0 (U2 w vl vu):=λw vl vu Q Q' E s x y=>aA y x λö ö z=>z;refine(aQ.bind (U:=λw Q E s=>eJ P A (evalPart l env) (λvl cg=>eJ P A (evalPart u env) (λvu cx=>U2 w vl vu Q E cx) E cg) E s) al (λw=>?_) (ha A env ρ fr hs hA) λv w=>?_).of λQ E s h=>?_
 ·exact λQ Q' E s x y=>al _ _ _ _ (λö ö z=>al _ _ _ _ (λö ö z=>m2 _ _ _ _ _ _ _ x z) z) y
 ·refine aQ.bind (U:=λvl Q E s=>eJ P A (evalPart u env) (λvu cx=>U2 w vl vu Q E cx) E s) al (λvl=>?_) ((hl A env ρ fr hs hA).keep al dY) λlo vl=>?_
  ·exact λQ Q' E s x y=>al _ _ _ _ (λö ö z=>m2 _ _ _ _ _ _ _ x z) y
  refine aQ.bind al (λvu=>m2 w vl vu) ((hu A env ρ fr hs hA).keep al (X:=λg h=>j8 lo vl/\cR P g h v w) (pa (λö ö ö ö ö x=>x) dY)) λhi vu=>?_;exact(Fh (l:=l) (u:=u) (p:=p)).conseq (m2 w vl vu) (λö ö z=>⟨⟨z.2.2,z.2.1⟩,z.1⟩) λö ö ö ö z=>z
 ·refine PyProof.Rows.Subscript_ (aA h (λw cg cL=>wpAny_Slice (aA cL (λvl cx gI=>aA gI (λvu fw jQ=>?_) λö ö z=>z) λö ö z=>z)) λö ö z=>z);rw[evalPart_none];exact aG jQ
theorem wI {α β:Type} {f f':α->Option β}:∀{l:List α},(∀x∈l,f x=f' x)->l.filterMap f=l.filterMap f'
 |[],_=>rfl
 |a::l,h=>by
  rw[o3,o3,h a (.head _),wI λx hx=>h x (.tail _ hx)]
theorem rv1 {n:Nat} (q:¬n=0):(-1:Int)<(n:Int)-1:=by omega
theorem rv2 {n k:Nat} (q:k<n):((n:Int)-1+-1*(k:Int)).toNat=n-1-k:=by omega
theorem Fs {α:Type} (xs:List α):(sliceRange ((xs.length:Int)-1) (-1) (-1)).filterMap (xs.toArray[·]?)=xs.reverse:=by
 have e1:sliceRange ((xs.length:Int)-1) (-1) (-1)=(iy xs.length).map (λk=>xs.length-1-k):=by
  unfold sliceRange;rw[if_neg (by decide)];by_cases q:xs.length=0
  ·rw[if_neg (by exact cy 0x110864105c8100821 q),q];rfl
  ·rw[if_pos (rv1 q)];have:((((xs.length:Int)-1)- -1- -1-1)/(- -1:Int)).toNat=xs.length:=by
    have:(- -1:Int)=1:=rfl;rw[this,Int.ediv_one];exact am (f6.mpr (cy 0x186101051051086444430)) (bH 0x18907f10105105109644448651 (bM (cy 0x110105105108644440030)))
   dsimp only;rw[this];refine oZ λk hk=>?_;exact rv2 (eQ.mp hk)
 rw[e1,List.filterMap_map];have e2:(iy xs.length).filterMap ((λx=>xs.toArray[x]?)∘λk=>xs.length-1-k)=(iy xs.reverse.toArray.size).filterMap (xs.reverse.toArray[·]?):=by
  simp only[bE,cz];refine wI λk hk=>?_;have:=eQ.mp hk;simp only[Function.comp,List.getElem?_toArray];rw[List.getElem?_reverse this]
 rw[e2,C1]
theorem s9 (xs:List ag):slicePick xs.toArray none none (some (-1))=xs.reverse.toArray:=by
 unfold slicePick sliceBounds;have:=Fs xs;exact congrArg List.toArray this
theorem Fq {v:PV} {w:ag} {value st:ay} {p:Pos} {k:Tok}:
  aQ P cls env ρ fr (λg h=>cR P g h v w)
   (λQ E s=>wpAny (model P.prog P.w) A (subscriptTail value (.Slice none none (some st) p) w (.ref s.heap.objs.size)) Q E {s with heap:=s.heap.push {cls:=.type "slice",data:=.fields #[.none,.none,.int (-1) k]}})
   (match v with|.list l=>bJ (if l.length<=dm then some (.list l.reverse)else Option.none)|_=>MM.bad) (cR P):=by
 cases v with
 |list l=>
  refine aQ.leaf λg σ s E Q b G V F hp e hQ=>?_;refine V.lclK λM t m hn=>?_;refine mI e λhlen e=>?_;apply xJ w hp
  intro a vs _ il rs;refine tail_any (Heap.IsList.typeIs (s:={s with heap:=s.heap.push _}) (il.il.push _)) list_getitem_lookup (wpAny_getItem_list_slice (il.il.push _) (KG.new ..) .none .none (.int (-1) k) (by decide) ?_ (oq rs hlen)) rfl;rw[s9];exact pg G t (.of_all hn λa o e=>az _ (az _ e)) (aT (by rw[ko];exact cy 0x11082800)) ⟨_,bA _ rfl⟩ rs.reverse λg' x G' r=>
   hQ _ {s with heap:=(s.heap.push _).push _} g' x G' (Option.some.inj e▸r) ⟨rfl,rfl,rfl⟩
 |_=>exact λg σ s E G V F hp hb hE=>absurd rfl hb
theorem SE.rev {a:ay} {ma:ME} {k:Nat} {p p1 p2 pos:Pos} (ha:SE P cls cf n sc a ma):SE P cls cf n sc (.Subscript a (.Slice none none (some (.UnaryOp .USub (.Constant (.int 1) k p1) p2)) p) pos) (.rev ma):=λA env ρ fr hs hA=>by
 let U2:ag->Tok->WT ag:=λw k' Q E s=>wpAny (model P.prog P.w) A (subscriptTail a (.Slice none none (some (.UnaryOp .USub (.Constant (.int 1) k p1) p2)) p) w (.ref s.heap.objs.size)) Q E {s with heap:=s.heap.push {cls:=.type "slice",data:=.fields #[.none,.none,.int (-1) k']}}
 have m2:∀w vl,g0 (U2 w vl):=λw vl Q Q' E s x y=>aA y x λö ö z=>z;refine(aQ.bind (U:=λw Q E s=>U2 w (s.toks+1) Q E {s with toks:=s.toks+2}) al (λw=>?_) (ha A env ρ fr hs hA) λv w=>?_).of λQ E s h=>?_
 ·exact λQ Q' E s x y=>m2 _ _ _ _ _ _ x y
 ·intro g σ s E G V F hp hb hE;exact m2 _ _ _ _ E _ (λö ö h=>h.toks) ((Fq (k:=s.toks+1)) g σ {s with toks:=s.toks+2} E G V F hp hb hE)
 ·refine PyProof.Rows.Subscript_ (aA h (λw cg cL=>wpAny_Slice ?_) λö ö z=>z);rw[evalPart_none];refine aG (aG ?_);rw[evalPart_some];show wpAny _ _ (eval (.Constant (.int 1) k p1) env>>=λv=>standAt p2>>=λö=>holding [v] (unaryOp .USub v)) _ _ _;exact av (wpAny_Constant_int (av (wpAny_standAt (wpAny_holding (neg_int cL)))))
end
open PySem PySem.W PyProof.Rows PySem.Calls
section
variable {P:PW} {cls:ag} {cf:String->List PV->MM PV} {n:Nat×Nat} {sc:bD} {A:bd} {env:Env} {ρ:aE} {fr:List Env} {g:Gh} {h h':Heap} {σ:ah} {L:Addr} {α β:Type}
theorem aQ.ofE {Pre:Gh->Heap->Prop} {T T':WT α} {m:MM β} {R:Gh->Heap->β->α->Prop} (h:aQ P cls env ρ fr Pre T m R)
  (e:∀Q E s g σ,dq P g σ s.heap->EnvRel P g s.heap env ρ->Pre g s.heap->T Q E s->T' Q E s):aQ P cls env ρ fr Pre T' m R:=
 λg σ s E G V F hp hb hE=>e _ _ _ g σ G V hp (h g σ s E G V F hp hb hE)
theorem HR (G:dq P g σ h) {M:Addr} (t:g.tag L=.frm M) (k:Keeps L h h') (l:List (Addr×lQ)) (hf:∀p∈l,h.get? p.1=none/\(h'.get? p.1).isSome=true) (hl:∀b M,(b,lQ.frm M)∉l) (a:Addr) (c:cS)
  (hc:∀g',dX none g g' h h'->g'.at_ g.n=a->g'.n=g.n+1->g'.tag=(g.puts l).tag->lJ P g' h' g.n c):
  ∃g',dX none g g' h h'/\dq P g' (σ++[c]) h'/\g'.at_ g.n=a/\g'.n=g.n+1/\g'.tag=(g.puts l).tag:=by
 refine Mine.Internal.cps λζ κ=>?_;obtain⟨ad,G'⟩:=DF G t k l hf (λb M' e=>absurd e (hl b M'));obtain⟨e1,e2⟩:=Gh.puts_at l g;refine κ ?_
 let g':Gh:={tag:=(g.puts l).tag,at_:=λj=>if j=g.n then a else g.at_ j,n:=g.n+1}
 have ad2:dX none (g.puts l) g' h' h':={
  nle:=by show(g.puts l).n<=g.n+1;exact bH 0x1109280819821 e2
  ateq:=λk hk=>by
   show(if k=g.n then a else g.at_ k)=(g.puts l).at_ k;rw[if_neg (by exact λe_=>b7 0x77f9a2818a1819823 e2 hk e_),e1]
  tag:=λö ö ö=>rfl
  tagS:=λö ö e=>.inl e
  fix:=λö ö e ö=>e
  frm:=λa ö ö ö=>.refl h' a}
 have ad3:=ad.trans ad2;refine⟨g',ad3,G'.of ad2 (by show(σ++[c]).length=g.n+1;rw[af,G.n];rfl) (λj d e=>?_) G'.live G'.frm,if_pos rfl,rfl,rfl⟩;by_cases q:j<σ.length
 ·rw[aR q]at e;refine(G'.cells j d e).mono ad2 ⟨?_,λö t=>t,λö ö ö e=>e⟩;show(if j=g.n then a else g.at_ j)=_;rw[if_neg (G.n▸(dr q)),e1]
 ·have z:=(ao.mp e).1;rw[af]at z;obtain rfl:j=σ.length:=am (gr z) (du q);rw[cI (au _),Nat.sub_self]at e
  (injection e;subst_vars)
  rw[G.n];exact hc g' ad3 (if_pos rfl) rfl rfl
theorem pR (G:dq P g σ h) {M:Addr} (t:g.tag L=.frm M) (k:Keeps L h h') {a:Addr} (hn:h.get? a=none) {vs:List ag} {bs:List PV} (ho:BY h' a vs) (r:aU P g h bs vs):
  ∃g',dX none g g' h h'/\dq P g' (σ++[.list bs]) h'/\cR P g' h' (.loc σ.length) (.ref a):=by
 refine Mine.Internal.cps λζ κ=>?_;obtain⟨_,ho'⟩:=id ho;obtain⟨g',ad,G',e1,e2,e3⟩:=HR (σ:=σ) G t k [(a,.sto g.n)] (by
  intro p hp;rcases aC.mp hp with rfl
  exact⟨hn,by rw[ho'];rfl⟩) (by simp) a (.list bs) λg' ad ea en et=>⟨by rw[ea,et];simp[Gh.puts_n,Gh.puts_c,Gh.put],vs,by rw[ea];exact ho,r.mono ad⟩
 refine κ ?_;refine⟨g',ad,G',?_⟩;show _<_/\_=_;refine e2.symm▸(G.n).symm▸e1.symm▸?_;exact⟨cy 0x11082810,rfl⟩
theorem C' {bs:List PV} {vs:List ag}:aQ P cls env ρ fr (λg h=>aU P g h bs vs) (eJ P A (newList vs)) (λσ=>if bs.length<=dm then .ok (.loc σ.length) (σ++[.list bs])else .bad) (cR P):=by
 intro g σ s E G V F hp hb hE;refine V.lclK λM t m hn=>?_;by_cases hl:bs.length<=dm
 ·refine wpAny_newObj_type ?_ (by
   show vs.toArray.size<=sizeLine;refine(bE).symm▸(aU.length hp)▸sizeLine_eq.symm▸?_;exact ae hl (by decide))
  obtain⟨g',x,G',r⟩:=pR G t (.of_all hn λa o e=>az _ e) (aT (au _)) ⟨_,(bA s.heap (o:={cls:=.type "list",data:=.seq vs.toArray}) rfl)⟩ hp;exact⟨_,_,g',by simp only[if_pos hl],x,G',r,⟨rfl,rfl,rfl⟩⟩
 ·simp only[if_neg hl]at hb;exact absurd rfl hb
theorem SE.newl {es:List ay} {mes:List ME} {pos:Pos} (h:vp P cls cf n sc es mes):SE P cls cf n sc (.List es pos) (.newl mes):=λA env ρ fr hs hA=>by
 exact(aQ.bind al (λö=>al) (h A env ρ fr pos hs hA) λb a=>C').of λö ö ö=>List_
noncomputable def oA (P:PW) (c:String):Option ag:=if c="str" then some (.type "str")else if c="tuple" then some (.type "tuple")else(P.cls c).map .ref
structure vq (P:PW):Prop where
 own:∀c D,P.cls c=some D->(plainGet P.K D "__class__"=true/\hasDictIn P.K D=true/\findIn P.K (.ref D) "__class__"=some (some (.builtin "object.__class__")))/\
  mroIn P.K D (.type "object")=some true
 get:specialIn P.K (.builtin "object.__class__") "__get__"=some (some (.builtin "getset_descriptor.__get__"))
 takes:takesIn P.K (.builtin "object.__class__")=some true
 one:∀c d cv dv,oA P c=some cv->oA P d=some dv->kitOne P.K cv dv=some (decide (d=c))
 nstr:P.cls "str"=none
 ntup:P.cls "tuple"=none
inductive sQ (P:PW):List String->List ag->Prop where
 |nil:sQ P [] []
 |cons {c v cs vs}:oA P c=some v->sQ P cs vs->sQ P (c::cs) (v::vs)
noncomputable def H2 (P:PW) (h:Heap) (wc:ag) (cs:List String):Prop:=
 (∃c,cs=[c]/\oA P c=some wc)\/∃tp dd its m sl,wc=.ref tp/\h.get? tp=some ⟨.type "tuple",dd,.seq its.toArray m,sl⟩/\sQ P cs its
theorem u6 (c d:String):([d]:List String).contains c=decide (d=c):=by
 rw[nh];simp[eq_comm]
theorem t5 (Kd:vq P) {c:String} {cv:ag} (hc:oA P c=some cv):∀{cs:List String} {its:List ag},sQ P cs its->kitAny P.K cv its=some (cs.contains c)
 |_,_,.nil=>rfl
 |_,_,.cons (c:=d) (cs:=cs) hd r=>by
  unfold kitAny;rw[Kd.one c d _ _ hc hd];by_cases q:d=c
  ·subst q;simp
  ·rw[decide_eq_false q];rw[t5 Kd hc r,bR];have:(c==d)=false:=by simpa using λz=>q z.symm
   rw[this,Bool.false_or]
theorem Gr (B:cK P) (Kd:vq P) {x:PV} {w wc:ag} {cs:List String} {c:String} {s:ak} {Q E:ag->ak->Prop} (G:dq P g σ s.heap) (r:cR P g s.heap x w) (ic:H2 P s.heap wc cs) (hc:D6 x=some c)
  (hQ:∀tk,Q (.bool (cs.contains c)) {s with toks:=tk}):wpAny (model P.prog P.w) A (call (.builtin "isinstance") [w,wc]) Q E s:=by
 obtain⟨cv,H,hcv,Z,hH,hne⟩:∃(cv:ag) (H:Heap->Prop),oA P c=some cv/\KitX P.K w cv H/\H s.heap/\w≠.builtin "__main__.__loader__#opaque":=by
  cases x with
  |str a=>obtain⟨t,q⟩:=r;exact⟨_,_,(Option.some.inj hc)▸rfl,q▸kitx_str,trivial,by rw[q];simp⟩
  |tup l=>obtain⟨a,vs,q,_,⟨o,ho,hk,_⟩,_⟩:=r;exact⟨_,_,(Option.some.inj hc)▸rfl,q▸kitx_tuple,⟨o,ho,hk⟩,by rw[q];simp⟩
  |obj c' ns vs=>
   obtain⟨a,C,dx,es,m,vs,q,hC,_,_,h1,h2,_⟩:=r;obtain⟨⟨k1,k2,k3⟩,k4⟩:=Kd.own c' C hC;refine⟨.ref C,_,?_,q▸kitx_own k1 k2 k3 Kd.get Kd.takes k4,(⟨h1,rfl,rfl,h2⟩:W.InstAt s.heap a (instObj C dx) C (some (dictOf es m))),by rw[q];simp⟩;refine(Option.some.inj hc)▸?_;unfold oA;rw[if_neg (λq=>by rw[q,Kd.nstr]at hC;contradiction),if_neg (λq=>by rw[q,Kd.ntup]at hC;contradiction),hC];rfl
  |_=>exact nS hc
 rcases ic with⟨d,rfl,hd⟩|⟨tp,dd,its,m,sl,rfl,htp,ha⟩
 ·refine kia_one Z (G.kin B) hH (b:=decide (d=c)) (Kd.one _ _ _ _ hcv hd) hne λtk=>?_;rw[<-u6];exact hQ tk
 ·exact kia_tup Z (G.kin B) hH htp (t5 Kd hcv ha) hne hQ
noncomputable def xj (P:PW) (sc:bD) (c:ay) (cs:List String):Prop:=
 ∀(A:bd) (env:Env) (ρ:aE) (g:Gh) (σ:ah) (s:ak) (Q E:ag->ak->Prop),EnvRel P g s.heap env ρ->dq P g σ s.heap->env.scope=sc->
  (∀wc s',(∀a o,s.heap.get? a=some o->s'.heap.get? a=some o)->fU s s'->H2 P s'.heap wc cs->Q wc s')->wpAny (model P.prog P.w) A (eval c env) Q E s
theorem xj.own (B:cK P) {x:Str} {p:Pos} {c:String} {v:ag} (hk:sc.names.lookup x=some .globalImplicit) (hv:P.mg x=some v) (hc:oA P c=some v) (hd:(x==("__debug__":Str))=false):xj P sc (.Name x p) [c]:=
 λA env ρ g σ s Q E V G hs hQ=>j0 B G V (by rw[Env.kindOf,hs];exact hk) hv (hQ v s (λö ö e=>e) (.refl s) (.inl ⟨c,rfl,hc⟩)) hd
theorem xj.str (B:cK P) {x:Str} {p:Pos} (hk:sc.names.lookup x=some .globalImplicit) (hv:P.mg x=none) (hb:P.mb x=some (.type "str")) (hd:(x==("__debug__":Str))=false):xj P sc (.Name x p) ["str"]:=
 λA env ρ g σ s Q E V G hs hQ=>nX B G V (by rw[Env.kindOf,hs];exact hk) hv hb (hQ _ s (λö ö e=>e) (.refl s) (.inl ⟨"str",rfl,rfl⟩)) hd
theorem xj.tup2 (B:cK P) {x y:Str} {p q pos:Pos} {k:Nat} {c d:String} {v w:ag} (hk:sc.names.lookup x=some .globalImplicit) (hk':sc.names.lookup y=some .globalImplicit) (hv:P.mg x=some v) (hw:P.mg y=some w) (hc:oA P c=some v) (hc':oA P d=some w)
  (hd:(x==("__debug__":Str))=false) (hd':(y==("__debug__":Str))=false):xj P sc (.Tuple [.Name x p,.Name y q] k pos) [c,d]:=by
 intro A env ρ g σ s Q E V G hs hQ;refine Tuple_ (args_cons (j0 B G V (by rw[Env.kindOf,hs];exact hk) hv (args_cons (j0 B G V (by rw[Env.kindOf,hs];exact hk') hw (args_nil ?_) hd') rfl) hd) rfl);refine wpAny_newObj_type ?_ (by show 2<=sizeLine;decide);exact hQ _ {s with heap:=s.heap.push _} (λa o e=>az _ e) ⟨rfl,rfl,rfl⟩ (.inr ⟨_,_,[v,w],_,_,rfl,(bA s.heap (o:={cls:=.type "tuple",data:=.seq [v,w].toArray}) rfl),.cons hc (.cons hc' .nil)⟩)
theorem SE.isin (B:cK P) (Kd:vq P) {e c:ay} {me:ME} {x:Str} {p pos:Pos} {cs:List String} (h:SE P cls cf n sc e me) (hc:xj P sc c cs)
  (hk:sc.names.lookup x=some .globalImplicit) (hv:P.mg x=none) (hb:P.mb x=some (.builtin "isinstance")) (hd:(x==("__debug__":Str))=false)
  (he:∀env,aX [e,c] env=(false,eval e env)::aX [c] env) (he':∀env,aX [c] env=(false,eval c env)::aX [] env):SE P cls cf n sc (.Call (.Name x p) [e,c] [] pos) (.isin me cs):=λA env ρ fr hs hA=>by
 refine(aQ.bind (U:=λw Q E s=>wpAny (model P.prog P.w) A (eval c env) (λwc s'=>wpAny (model P.prog P.w) A (call (.builtin "isinstance") [w,wc]) Q E s') E s) al (λw=>?_) (h A env ρ fr hs hA) λv w=>?_).ofE λQ E s g σ G V ö h=>?_
 ·exact λQ Q' E s x y=>aA y (λö ö z=>aA z x λö ö z=>z) λö ö z=>z
 ·refine aQ.leaf λg σ s E Q b G V F hp e hQ=>?_;obtain⟨c',hc',rfl⟩:=aS.mp e;refine hc A env ρ g σ s _ E V G hs λwc s' hg sm ic=>?_;refine V.lclK λM t m hn=>?_;obtain⟨ad,G'⟩:=lO G t (.of_all hn hg);exact Gr B Kd G' (hp.mono ad) ic hc' λtk=>hQ _ {s' with toks:=tk} g ad G' rfl ⟨sm.1,sm.2.1,sm.2.2⟩
 ·refine Call_Name rfl (nX B G V (by rw[Env.kindOf,hs];exact hk) hv hb ?_ hd);refine callWith_builtin1 (args_cons (aA h (λw cg cL=>args_cons (aA cL (λwc cx gI=>args_nil gI) λö ö z=>z) (he' env)) λö ö z=>z) (he env)) (he env) ?_;refine(he' env).symm▸?_;rfl
theorem SE.bcall (B:cK P) {e:ay} {es:List ay} {me:ME} {mes:List ME} {f:List PV->MM PV} {x:Str} {p pos:Pos} {id:String} (hs:vp P cls cf n sc (e::es) mes)
  (hk:sc.names.lookup x=some .globalImplicit) (hv:P.mg x=none) (hb:P.mb x=some (.builtin id)) (hd:(x==("__debug__":Str))=false)
  (hU:∀(A:bd) (env:Env) (ρ:aE) (fr:List Env) (bs:List PV) (vs:List ag),jP A n fr->aQ P cls env ρ fr (λg h=>aU P g h bs vs) (eJ P A (call (.builtin id) vs)) (f bs) (cR P))
  (hm:∀ρ,bu cf ρ me=MM.bind (eP cf ρ mes) f)
  (he:∀env,aX (e::es) env=(false,eval e env)::aX es env) (hp:∀env,(ee pos (aX es env)).any (·.1)=false):SE P cls cf n sc (.Call (.Name x p) (e::es) [] pos) me:=λA env ρ fr hsc hA=>by
 rw[hm];refine(aQ.bind al (λvs=>al) (hs A env ρ fr pos hsc hA) λbs vs=>hU A env ρ fr bs vs hA).ofE λQ E s g σ G V ö h=>?_;exact Call_Name rfl (nX B G V (by rw[Env.kindOf,hsc];exact hk) hv hb (callWith_builtin1 h (he env) (hp env)) hd)
theorem SE.tcall (B:cK P) {e:ay} {es:List ay} {me:ME} {mes:List ME} {f:List PV->MM PV} {x:Str} {p pos:Pos} {id:String} (hs:vp P cls cf n sc (e::es) mes)
  (hk:sc.names.lookup x=some .globalImplicit) (hv:P.mg x=none) (hb:P.mb x=some (.type id)) (hd:(x==("__debug__":Str))=false)
  (hU:∀(A:bd) (env:Env) (ρ:aE) (fr:List Env) (bs:List PV) (vs:List ag),jP A n fr->aQ P cls env ρ fr (λg h=>aU P g h bs vs) (eJ P A (call (.type id) vs)) (f bs) (cR P))
  (hm:∀ρ,bu cf ρ me=MM.bind (eP cf ρ mes) f)
  (he:∀env,aX (e::es) env=(false,eval e env)::aX es env) (hp:∀env,(ee pos (aX es env)).any (·.1)=false):SE P cls cf n sc (.Call (.Name x p) (e::es) [] pos) me:=λA env ρ fr hsc hA=>by
 rw[hm];refine(aQ.bind al (λvs=>al) (hs A env ρ fr pos hsc hA) λbs vs=>hU A env ρ fr bs vs hA).ofE λQ E s g σ G V ö h=>?_;exact Call_Name rfl (nX B G V (by rw[Env.kindOf,hsc];exact hk) hv hb (PyProof.Rows.callWith_type1 h (he env) (hp env)) hd)
end
open PySem PySem.W PyProof.Rows PySem.Calls
section
variable {P:PW} {cls:ag} {cf:String->List PV->MM PV} {n:Nat×Nat} {sc:bD} {A:bd} {env:Env} {ρ:aE} {fr:List Env} {g:Gh} {h h':Heap} {σ:ah} {L:Addr} {α β:Type}
theorem aU.one {p:PV} {vs:List ag} (r:aU P g h [p] vs):∃v,vs=[v]/\cR P g h p v:=by
 induction vs with
 |nil=>exact aw r
 |cons v vs=>induction vs with
  |nil=>exact⟨v,rfl,r.1⟩
  |cons _ _=>exact aw r.2
theorem aU.two {p q:PV} {vs:List ag} (r:aU P g h [p,q] vs):∃v w,vs=[v,w]/\cR P g h p v/\cR P g h q w:=by
 cases vs with
 |nil=>exact aw r
 |cons v vs=>
  obtain⟨w,rfl,rw⟩:=r.2.one;exact⟨v,w,rfl,r.1,rw⟩
theorem aU.zero {vs:List ag} (r:aU P g h [] vs):vs=[]:=by
 induction vs with
 |nil=>rfl
 |cons _ _=>exact aw r
theorem pq {k:Nat} (h:k<=dm):k<2^60:=bf h (by decide)
theorem J0 {k:Nat} (h:k<2^60):¬(2^63<=(k:Int)):=vC.mpr (qU (bF.mpr h) (by decide))
theorem Kc (i:Int):(if i<0 then-i else i)=(i.natAbs:Int):=by
 by_cases h:i<0
 ·exact(if_pos h).symm▸(Int.ofNat_natAbs_of_nonpos (ke h)).symm▸rfl
 ·exact(if_neg h).symm▸(og (m7.mp h)).symm▸rfl
theorem Gj {bs:List PV} {vs:List ag}:aQ P cls env ρ fr (λg h=>aU P g h bs vs) (eJ P A (call (.builtin "len") vs)) (cC λσ=>sE σ "len" bs) (cR P):=by
 refine aQ.leafσ λg σ s E Q b G V F hp e hQ=>?_;have fin:∀(k:Nat) (tk:Tok),some (PV.int k)=some b->Q (.int k tk) {s with toks:=s.toks+1+1}:=λk tk q=>
  hQ _ {s with toks:=s.toks+1+1} g (.refl ..) G (Option.some.inj q▸⟨tk,rfl⟩) ⟨rfl,rfl,rfl⟩
 replace e:td _ bs=some b:=e;apply ki vs hp e
 intro p v rv e;have lst:(items? σ p).bind (λl=>if l.length<=dm then some (PV.int l.length)else none)=some b->eJ P A (call (.builtin "len") [v]) Q E s:=λe=>by
  refine fm e λl hl e=>?_;refine mI e λhle e=>?_;apply wB v G rv hl
  intro a us il rs;rw[aU.length rs]at hle e;exact call_len_list il (vC.mp (J0 (pq hle))) (fin us.length _ e)
 cases p with
 |str x=>
  apply v1 v rv
  intro t;refine mI e λhl e=>?_;exact PyProof.Rows.len_str (J0 (pq hl)) (fin _ _ e)
 |_=>exact lst e
theorem F3 {bs:List PV} {vs:List ag} (hA:jP A n fr):aQ P cls env ρ fr (λg h=>aU P g h bs vs) (eJ P A (call (.builtin "min") vs)) (cC λσ=>sE σ "min" bs) (cR P):=by
 refine aQ.leafσ λg σ s E Q b G V F hp e hQ=>?_;refine V.lclK λM t m hn=>?_;replace e:I7 _ bs=some b:=e;apply xX vs hp e
 intro p q v w rv rw e;apply dJ v rv e
 intro i t1 e;apply dJ w rw e
 intro j t2 e;refine min_two_N hA.handled (JE hn) rI λh' tk F' N'=>?_;obtain⟨ad,G'⟩:=lO G t (.of_news (new:=[]) hn F' N');exact hQ _ {s with heap:=h',toks:=tk} g ad G' (Option.some.inj e▸(show∃_,_ from by split<;>exact⟨_,rfl⟩)) ⟨rfl,rfl,rfl⟩
theorem F7 {bs:List PV} {vs:List ag} (hA:jP A n fr):aQ P cls env ρ fr (λg h=>aU P g h bs vs) (eJ P A (call (.builtin "max") vs)) (cC λσ=>sE σ "max" bs) (cR P):=by
 refine aQ.leafσ λg σ s E Q b G V F hp e hQ=>?_;refine V.lclK λM t m hn=>?_;replace e:I7 _ bs=some b:=e;apply xX vs hp e
 intro p q v w rv rw e;apply dJ v rv e
 intro i t1 e;apply dJ w rw e
 intro j t2 e;refine max_two_N hA.handled (JE hn) rI λh' tk F' N'=>?_;obtain⟨ad,G'⟩:=lO G t (.of_news (new:=[]) hn F' N');exact hQ _ {s with heap:=h',toks:=tk} g ad G' (Option.some.inj e▸(show∃_,_ from by split<;>exact⟨_,rfl⟩)) ⟨rfl,rfl,rfl⟩
theorem Ha {bs:List PV} {vs:List ag}:aQ P cls env ρ fr (λg h=>aU P g h bs vs) (eJ P A (call (.builtin "abs") vs)) (cC λσ=>sE σ "abs" bs) (cR P):=by
 refine aQ.leafσ λg σ s E Q b G V F hp e hQ=>?_;replace e:td _ bs=some b:=e;apply ki vs hp e
 intro p v rv e;apply dJ v rv e
 intro i t1 e;refine call_abs_int λu tk=>?_;refine hQ _ {s with toks:=tk} g (.refl ..) G (Option.some.inj e▸⟨u,congrArg (λk=>Value.int k u) ?_⟩) ⟨rfl,rfl,rfl⟩;exact Kc i
theorem FN {bs:List PV} {vs:List ag}:aQ P cls env ρ fr (λg h=>aU P g h bs vs) (eJ P A (call (.builtin "ord") vs)) (cC λσ=>sE σ "ord" bs) (cR P):=by
 refine aQ.leafσ λg σ s E Q b G V F hp e hQ=>?_;replace e:td _ bs=some b:=e;apply ki vs hp e
 intro p v rv e;apply lz v rv e
 intro x t1 e;obtain⟨c,hx,e⟩:=rE e;exact hx▸ord_of_one rfl (hQ _ {s with toks:=s.toks+1} g (.refl ..) G (Option.some.inj e▸⟨s.toks,rfl⟩) ⟨rfl,rfl,rfl⟩)
theorem Gu {bs:List PV} {vs:List ag}:aQ P cls env ρ fr (λg h=>aU P g h bs vs) (eJ P A (call (.type "int") vs)) (cC λσ=>sE σ "int" bs) (cR P):=by
 refine aQ.leafσ λg σ s E Q b G V F hp e hQ=>?_;replace e:td _ bs=some b:=e;apply ki vs hp e
 intro p v rv e;cases p with
 |bool c=>
  have q:v=.bool c:=rv;exact q▸call_int_bool (hQ _ {s with toks:=s.toks+1} g (.refl ..) G (Option.some.inj e▸⟨_,rfl⟩) ⟨rfl,rfl,rfl⟩)
 |_=>exact nS e
theorem yv {bs:List PV} {vs:List ag}:aQ P cls env ρ fr (λg h=>aU P g h bs vs) (eJ P A (call (.builtin "divmod") vs)) (cC λσ=>sE σ "divmod" bs) (cR P):=by
 refine aQ.leafσ λg σ s E Q b G V F hp e hQ=>?_;refine V.lclK λM t m hn=>?_;replace e:I7 _ bs=some b:=e;apply xX vs hp e
 intro p q v w rv rw e;apply dJ v rv e
 intro x t1 e;apply dJ w rw e
 intro y t2 e;refine mI e λhy e=>?_;refine divmod_N (JE hn) rI (m8 hy.1) (λh' F' N'=>?_) (.inl (PyProof.noPylong_of_log2 (bf (nO (uk hy.1 hy.2)) (by decide))));have ho:=(N' _ (.head _)).1;obtain⟨g',x',G',tg,_,_⟩:=wC G t (.of_news (new:=[_]) hn F' N') (aT (au _)) ho .frz DJ;exact hQ _ {s with toks:=s.toks+1+1,heap:=h'} g' x' G' (Option.some.inj e▸⟨_,[.int (x.fdiv y) s.toks,.int (x.fmod y) (s.toks+1)],rfl,tg,⟨_,ho,rfl,_,rfl⟩,⟨_,by rw[fdiv_eq hy.1]⟩,⟨_,by rw[fmod_eq hy.1]⟩,trivial⟩) ⟨rfl,rfl,rfl⟩
theorem Ap {l:List PV} {w:ag} {s:ak} {Q E:ag->ak->Prop} (r:cR P g s.heap (.list l) w) (hl:l.length<=dm)
  (hQ:∀a h' vs,(∀b o,s.heap.get? b=some o->h'.get? b=some o)->s.heap.get? a=none->BY h' a vs->aU P g s.heap l vs->Q (.ref a) {s with heap:=h'}):wpAny (model P.prog P.w) A (call (.type "list") [w]) Q E s:=by
 refine Mine.Internal.cps λζ κ=>?_;obtain⟨a,vs,rfl,_,il,rs⟩:=r;obtain⟨o,ho,hc,ep,hd⟩:=il.il;refine κ ?_;refine call_list_seq a (.inl rfl) ho hc hd (λh' c' hk hnew=>hQ _ h' vs hk (aT (au _)) ⟨_,hnew⟩ rs) ?_;refine(bE).symm▸(aU.length rs)▸?_;exact ae hl nP
theorem Dm {bs:List PV} {vs:List ag}:aQ P cls env ρ fr (λg h=>aU P g h bs vs) (eJ P A (call (.type "list") vs)) (cC λσ=>sE σ "list" bs) (cR P):=by
 refine aQ.leafσ λg σ s E Q b G V F hp e hQ=>?_;refine V.lclK λM t m hn=>?_;replace e:td _ bs=some b:=e;apply ki vs hp e
 intro p v rv e;cases p with
 |list l=>
  refine mI e λhl e=>?_;exact Ap rv hl λa h' vs hk hno il rs=>pg G t (.of_all hn hk) hno il rs λg' x' G' r=>hQ _ {s with heap:=h'} g' x' G' (Option.some.inj e▸r) ⟨rfl,rfl,rfl⟩
 |_=>exact nS e
theorem SE.copyl (B:cK P) {e:ay} {me:ME} {x:Str} {p pos:Pos} (h:SE P cls cf n sc e me)
  (hk:sc.names.lookup x=some .globalImplicit) (hv:P.mg x=none) (hb:P.mb x=some (.type "list")) (hd:(x==("__debug__":Str))=false)
  (he:∀env,aX [e] env=(false,eval e env)::aX [] env) (hp:∀env,(ee pos (aX [] env)).any (·.1)=false):SE P cls cf n sc (.Call (.Name x p) [e] [] pos) (.copyl me):=λA env ρ fr hsc hA=>by
 refine(aQ.bind (U:=λv=>eJ P A (call (.type "list") [v])) al (λvs=>al) (h A env ρ fr hsc hA) λv w=>?_).ofE λQ E s g σ G V ö h=>?_
 ·intro g σ s E G V F hp hb hE;refine V.lclK λM t m hn=>?_;cases v with
  |list l=>
   by_cases hl:l.length<=dm
   ·refine Ap hp hl λa h' vs hk hno il rs=>?_;obtain⟨g',ad,G',r⟩:=pR G t (.of_all hn hk) hno il rs;exact⟨_,_,g',by simp only[if_pos hl],ad,G',r,⟨rfl,rfl,rfl⟩⟩
   ·simp only[if_neg hl]at hb;exact absurd rfl hb
  |_=>exact absurd rfl hb
 ·exact Call_Name rfl (nX B G V (by rw[Env.kindOf,hsc];exact hk) hv hb (PyProof.Rows.callWith_type1 (args_cons (aA h (λö ö z=>args_nil z) λö ö z=>z) (he env)) (he env) (hp env)) hd)
end
open PySem PySem.W PyProof.Rows PySem.Calls Builtin Builtin.Str
theorem mG (a b c:Str) (h:jY a b=true) (k:jY b c=true):jY a c=true:=
 (bl _).mpr (KeyOrd.kle_trans (O:=strKind.toKeyOrd) ((bl _).mp h) ((bl _).mp k))
theorem pS (a b:Str):(jY a b||jY b a)=true:=by
 unfold jY
 induction h:decide (b.cps.toList<a.cps.toList)with
 |false=>rfl
 |true=>rw[show decide (a.cps.toList<b.cps.toList)=false from KeyOrd.klt_asymm (O:=strKind.toKeyOrd) h];rfl
theorem ya {a b:Str} (h:jY a b=true) (k:jY b a=true):a=b:=by
 obtain⟨⟨a⟩⟩:=a;obtain⟨⟨b⟩⟩:=b;exact congrArg (λl=>KQ ⟨l⟩) (KeyOrd.kle_antisymm (O:=strKind.toKeyOrd) ((bl _).mp h) ((bl _).mp k))
theorem AX {a b:List Str} (h:a.Perm b) (p:a.Pairwise (jY · · =true)) (q:b.Pairwise (jY · · =true)):a=b:=
 h.eq_of_pairwise (λö ö ö ö h k=>ya h k) p q
theorem zy {a b:List Str} (h:a.Perm b) (p:a.Pairwise (jY · · =true)):a=mX b:=
 AX (h.trans (oX ..).symm) p (xy mG pS _)
theorem AY {a b:List Str} (h:a.Perm b):mX a=mX b:=
 zy ((oX ..).trans h) (xy mG pS _)
theorem yc:∀c,c<128->Unicode.isSpace c=cP c:=by decide+kernel
theorem mP {α:Type} (p:α->Bool) (l:List α):l.drop (l.takeWhile p).length=l.dropWhile p:=by
 induction l with
 |nil=>rfl
 |cons a l ih=>
  rw[oW,List.dropWhile_cons];split
  ·exact ih
  ·rfl
theorem i8 {α:Type} {p q:α->Bool}:∀{l:List α},(∀a∈l,p a=q a)->l.takeWhile p=l.takeWhile q
 |[],_=>rfl
 |a::l,h=>by rw[oW,oW,h a (.head _),i8 λb hb=>h b (.tail _ hb)]
theorem CC {x:Str} (hA:x.cps.toList.all (· <128)=true):Txt.strip x=⟨(mw x.cps.toList).toArray⟩:=by
 have hA':∀c∈x.cps.toList,Unicode.isSpace c=cP c:=λc hc=>yc c (by simpa using aJ.mp hA c hc);unfold Txt.strip;rw[PyProof.Rows.stripBy_eq];have hn:x.cps.toList.length=x.length:=ey;unfold stripLo stripHi strSub mw;simp only[if_true,KQ.injEq];refine(i8 hA').symm▸?_;generalize hl:x.cps.toList=l at*;have e1:(l.drop (l.takeWhile cP).length).reverse.takeWhile Unicode.isSpace=(l.dropWhile cP).reverse.takeWhile cP:=by
  rw[mP];exact i8 λa ha=>hA' a ((mU _).subset (jd.mp ha))
 refine e1.symm▸?_;have e2:l.length=(l.takeWhile cP).length+(l.dropWhile cP).length:=by
  exact af▸(qT).symm▸rfl
 apply EU.mp
 refine(e8).symm▸hl.symm▸?_;rw[dM,mP,<-hn];generalize l.dropWhile cP=d at*;generalize (l.takeWhile cP).length=k at*;have e3:d=(d.reverse.dropWhile cP).reverse++(d.reverse.takeWhile cP).reverse:=by
  rw[<-cY,qT,gB]
 have e4:(d.reverse.dropWhile cP).reverse.length=l.length-(d.reverse.takeWhile cP).length-k:=by
  have:=congrArg gC e3;simp only[af,cz]at this⊢;exact am ((aN (l.length) ((n5 cP d.reverse).length)).elim (λw0=>px 0x1db081c807fcb2a27fa92823 e2 this w0) (λw0=>yt 0x1eb07fd9e227f8cd227fcb2a27fa92824 e2 this (ac w0) (ac (n:=l.length-(n5 cP d.reverse).length) (m:=k) (px 0x1d907f8cd227fcb2a27fa92823 e2 this (ac w0))))) ((aN (l.length-(n5 cP d.reverse).length) (k)).elim (λw0=>bH 0x19808100821 (br w0)) (λw0=>yt 0x1bd0818ce2281e9d2281cb2a281a92824 e2 this (ac w0) (ac (n:=l.length) (m:=(n5 cP d.reverse).length) (jx 0x18c07fcb2a27fa92822 e2 this))))
 refine e4▸?_
 conv=>lhs;rw[e3]
 exact Ip (by simp)
theorem yb (sep:Str):∀l,mZ sep l=Txt.join sep l:=by
 intro l;show _=glued sep l;rw[StrLaws.glued_eq_join]
 induction l with
 |nil=>rfl
 |cons x l ih=>
  induction l with
  |nil=>rfl
  |cons y l=>
   show(⟨x.cps++sep.cps++(mZ sep (y::l)).cps⟩:Str)=⟨(x.cps++sep.cps)++(KR sep (y::l)).cps⟩;rw[ih]
theorem so (k:Str):∀l:List Str,Spec.countIn (.str k) (l.map PyData.str)=((l.filter (· ==k)).length:Int)
 |[]=>rfl
 |x::l=>by
  simp only[bq,Spec.countIn,je,so k l];show(if(x==k)=true then(1:Int)else 0)+_=_;split<;>simp<;>exact aM (cy 0x1108628610230) (cy 0x1861021086230)
noncomputable def gl (c:Nat):List (List Nat)->List Nat
 |[]=>[]
 |[x]=>x
 |x::l=>x++c::gl c l
theorem gl_c {c:Nat} {x y:List Nat} {l:List (List Nat)}:gl c (x::y::l)=x++c::gl c (y::l):=rfl
theorem kh {c:Nat}:∀{p:List Nat},c∉p->dw c p=[p]
 |[],_=>rfl
 |x::p,h=>by
  simp only[aH,not_or]at h;simp only[gO,gP];rw[if_neg (λq=>h.1 q.symm),kh h.2]
theorem li {c:Nat}:∀{p:List Nat} {l:List Nat},c∉p->dw c (p++c::l)=p::dw c l
 |[],l,_=>by simp[gO,gP]
 |x::p,l,h=>by
  simp only[aH,not_or]at h;simp only[bC,gO,gP];rw[if_neg (λq=>h.1 q.symm),li h.2]
theorem pO {c:Nat}:∀{ps:List (List Nat)},ps≠[]->(∀p∈ps,c∉p)->dw c (gl c ps)=ps
 |[],h,_=>absurd rfl h
 |[p],_,h=>kh (h p (.head _))
 |p::q::ps,_,h=>by
  show dw c (p++c::gl c (q::ps))=_;exact(li (h p (.head _))).symm▸(pO (by simp) λr hr=>h r (.tail _ hr)).symm▸rfl
theorem z8 (c:Nat):∀l:List Str,(KR ⟨#[c]⟩ l).cps.toList=gl c (l.map λs=>s.cps.toList)
 |[]=>rfl
 |[x]=>rfl
 |x::y::l=>by
  show((x.cps++#[c])++(KR ⟨#[c]⟩ (y::l)).cps).toList=_;rw[bL,bL,z8 c (y::l)];simp[gl_c]
theorem CH (x:Str) (c:Nat):Txt.split x ⟨#[c]⟩=(dw c x.cps.toList).map λl=>⟨l.toArray⟩:=by
 have h1:=StrLaws.join_split x ⟨#[c]⟩;have h3:=split_pos x ⟨#[c]⟩;have h4:dw c x.cps.toList=(Txt.split x ⟨#[c]⟩).map λs=>s.cps.toList:=by
  rw[<-pO (c:=c) (ps:=(Txt.split x ⟨#[c]⟩).map λs=>s.cps.toList),<-z8,h1]
  ·intro q;have:=oY.mp q;replace h3:=(this)▸h3;simp at h3
  ·intro p hp;obtain⟨s,hs,rfl⟩:=bv.mp hp;exact(StrLaws.split_free x c) s hs
 refine h4.symm▸(eB).symm▸?_;have:((λl:List Nat=>(⟨l.toArray⟩:Str))∘λs:Str=>s.cps.toList)=_root_.id:=by
  funext s;simp
 rw[this,n6]
open PySem PySem.W PyProof.Rows PySem.Calls
section
variable {P:PW} {cls:ag} {cf:String->List PV->MM PV} {n:Nat×Nat} {sc:bD} {A:bd} {env:Env} {ρ:aE} {fr:List Env} {g:Gh} {h h':Heap} {σ:ah} {L:Addr} {α β:Type}
theorem stepK (G:dq P g σ h) {M:Addr} (t:g.tag L=.frm M) {k:Nat} (hk:k<σ.length) (c:cS)
  (old:∀a o,a≠L->g.tag a≠.sto k->h.get? a=some o->h'.get? a=some o) (ns:∃m,h.Ns L m/\h'.Ns L m)
  (lv:∀a,g.tag a=.sto k->(h.get? a).isSome=true->(h'.get? a).isSome=true)
  (hc:dX none g g h h'->lJ P g h' k c):dX none g g h h'/\dq P g (σ.set k c) h':=by
 have notL:∀a,g.tag a≠.frm M->a≠L:=λa ha q=>ha (q▸t);have AD:dX none g g h h':={
  nle:=au _
  ateq:=λö ö=>rfl
  tag:=λö ö ö=>rfl
  tagS:=λö ö e=>.inl e
  fix:=λa o e q=>old a o (notL a (by rcases q with q|q|q<;>rw[q]<;>simp)) (by rcases q with q|q|q<;>rw[q]<;>simp) e
  frm:=λa M' q ö=>by
   by_cases hL:a=L
   ·subst hL;obtain⟨m,n1,n2⟩:=ns;exact .of_ns n1 n2
   ·exact .of_eq λo e=>old a o hL (fN q rfl) e}
 refine⟨AD,G.of AD (dH.symm▸G.n) (λj d e=>?_) (λa ha=>?_) λa M' e=>?_⟩
 ·by_cases q:j=k
  ·replace e:=(bX hk)▸(q)▸e;cases e
   exact q▸hc AD
  ·replace e:=(bw (λz=>q z.symm))▸e;exact(G.cells j d e).mono AD ⟨rfl,λö t=>t,λa o t e=>old a o (notL _ (fN t rfl)) (λz=>q (by rw[t]at z;injection z)) e⟩
 ·have l0:=G.live a ha;by_cases q1:a=L
  ·obtain⟨m,_,o,_,_,ho,_⟩:=ns;exact q1.symm▸ho.symm▸rfl
  ·by_cases q2:g.tag a=.sto k
   ·exact lv a q2 l0
   ·obtain⟨o,ho⟩:=dg.mp l0;exact(old a o q1 q2 ho).symm▸rfl
 ·obtain⟨e1,o,ho,hd⟩:=G.frm a M' e;exact⟨e1,(AD.frm a M' e nofun).fld o ho hd⟩
theorem kG {σ:ah} {k:Nat} {c:cS} (e:σ[k]?=some c):k<σ.length:=(ao.mp e).1
theorem q8 (G:dq P g σ h) {M:Addr} (t:g.tag L=.frm M) (hn:∃m,h.Ns L m) {k:Nat} {l l':List PV} (e:σ[k]?=some (.list l)) (f:Array ag->Array ag) {vs ws:List ag}
  (hl:BY h (g.at_ k) vs) (hf:f vs.toArray=ws.toArray) (r:aU P g h l' ws):
  dX none g g h (h.update (g.at_ k) (Obj.mapSeq f))/\dq P g (σ.set k (.list l')) (h.update (g.at_ k) (Obj.mapSeq f)):=by
 refine Mine.Internal.cps λζ κ=>?_;obtain⟨t1,_⟩:=G.cells k _ e;obtain⟨i,ho⟩:=hl;obtain⟨m,hn⟩:=hn;have ne:g.at_ k≠L:=λq=>by rw[q,t]at t1;contradiction
 have hnew:=gk (Obj.mapSeq f) ho rfl;refine κ ?_;refine stepK G t (kG e) _ (λa o ö h2 e=>?_) ⟨m,hn,?_⟩ (λa h1 h2=>?_) λad=>⟨t1,ws,⟨if ws.toArray.size==vs.toArray.size then i else i+1,?_⟩,r.mono ad⟩
 ·rw[fW h _ (λq=>h2 (by rw[<-q];exact t1))];exact e
 ·obtain⟨o,es,ep,ho',r⟩:=hn;exact⟨o,es,ep,by rw[fW h _ ne];exact ho',r⟩
 ·by_cases q:a=g.at_ k
  ·subst q;rw[hnew];rfl
  ·rw[fW h _ (λz=>q z.symm)];exact h2
 ·rw[hnew];simp only[Obj.mapSeq,hf]
inductive tw:String->String->Prop where
 |append:tw "append" "list.append"
 |pop:tw "pop" "list.pop"
 |count:tw "count" "list.count"
 |strip:tw "strip" "str.strip"
 |split:tw "split" "str.split"
 |join:tw "join" "str.join"
theorem zC {m id:String} (hm:tw m id) {v:PV} {w:ag} {pl:Sem Bool} {s:ak} {Q:ag×List ag->ak->Prop} {E:ag->ak->Prop} (G:dq P g σ s.heap) (r:cR P g s.heap v w) (ok:jB σ m v=true)
  (hQ:Q (.builtin id,[w]) s):wpAny (model P.prog P.w) A (getMethod w (aa m) pl) Q E s:=by
 have lst:Slot "list" (aa m) id->typeOf (.builtin id)=pure (.type "method_descriptor")->∀a vs,BY s.heap a vs->Q (.builtin id,[.ref a]) s->wpAny (model P.prog P.w) A (getMethod (.ref a) (aa m) pl) Q E s:=
  λsl ty a vs il q=>by
   obtain⟨i,ho⟩:=il;exact getMethod_builtin ⟨_,ho,rfl⟩ PySem.F.plainAttrs_list sl ty (λb e=>by(injection e;subst_vars);exact⟨_,ho,rfl⟩) q
 have cell:Slot "list" (aa m) id->typeOf (.builtin id)=pure (.type "method_descriptor")->(HF (listAt σ) v).isSome=true->wpAny (model P.prog P.w) A (getMethod w (aa m) pl) Q E s:=λsl ty ok=>by
  obtain⟨l,e⟩:=dg.mp ok;revert hQ;apply rD w r e
  intro k _ e q;obtain⟨_,vs,il,_⟩:=kI G e;exact lst sl ty _ vs il q
 have text:Slot "str" (aa m) id->typeOf (.builtin id)=pure (.type "method_descriptor")->(xW some v).isSome=true->wpAny (model P.prog P.w) A (getMethod w (aa m) pl) Q E s:=λsl ty ok=>by
  obtain⟨l,e⟩:=dg.mp ok;revert hQ;apply lz w r e
  intro x t e q
  with_reducible exact GM.of (.str x t) (typeIs_str _ _ _) sl ty GM.noRef q
 induction hm with
 |append=>exact cell PySem.F.slot_list_append PySem.F.type_list_append ok
 |pop=>exact cell PySem.F.slot_list_pop PySem.F.type_list_pop ok
 |count=>
  obtain⟨l,e⟩:=dg.mp ok;revert hQ;apply lA w r e
  intro _ a vs _ _ il _ _ q;exact lst PySem.F.slot_list_count PySem.F.type_list_count a vs il q
 |strip=>exact text PySem.F.slot_str_strip PySem.F.type_str_strip ok
 |split=>exact text PySem.F.slot_str_split PySem.F.type_str_split ok
 |join=>exact text PySem.F.slot_str_join PySem.F.type_str_join ok
theorem C9 (G:dq P g σ h) {M:Addr} (t:g.tag L=.frm M) {m:Str->Option ag} (hn:h.Ns L m) {a:Addr} {vs:List ag} {bs:List PV} (hno:h.get? a=none) {o:Obj} (F:Fr E0 L h' m) (N:News E0 L h' ((a,o)::Gk h L))
  (ho:o={cls:=.type "list",data:=.seq vs.toArray}) (r:∀g',dX none g g' h h'->aU P g' h' bs vs):∃g',dX none g g' h h'/\dq P g' σ h'/\cR P g' h' (.list bs) (.ref a):=by
 subst ho;have hD:=(N _ (.head _)).1;obtain⟨g',x,G',tg,_,_⟩:=wC G t (.of_news (new:=[_]) hn F N) hno hD .frz DJ;refine⟨g',x,G',?_⟩;exact⟨_,vs,rfl,tg,⟨_,hD⟩,r g' x⟩
theorem pd:∀{vs:List ag} {ss:List Str},StrsAre vs ss->aU P g h (ss.map .str) vs
 |_,_,.nil=>trivial
 |_,_,.cons y t r=>by
  exact⟨⟨t,rfl⟩,pd r⟩
theorem Gi:dm+2<=sizeLine:=by rw[sizeLine_eq];decide
theorem AS {v:PV} {w:ag} {bs:List PV} {vs:List ag}:aQ P cls env ρ fr (λg h=>cR P g h v w/\aU P g h bs vs) (eJ P A (call (.builtin "str.strip") (w::vs))) (bJ (match bs with|[]=>uw v|_=>.none)) (cR P):=by
 refine aQ.leaf λg σ s E Q b G V F hp e hQ=>?_
 induction bs with
 |nil=>
  replace e:xW _ v=some b:=e;apply lz w hp.1 e
  intro x t e;refine mI e λhl e=>?_;refine(hp.2.zero).symm▸?_;refine SC.strip (λt' k=>?_) (ae hl.1 nP);refine(CC hl.2).symm▸?_;exact hQ _ {s with toks:=k} g (.refl ..) G (Option.some.inj e▸⟨_,rfl⟩) ⟨rfl,rfl,rfl⟩
 |cons _ _=>exact nS e
theorem AW {v:PV} {w:ag} {bs:List PV} {vs:List ag}:aQ P cls env ρ fr (λg h=>cR P g h v w/\aU P g h bs vs) (eJ P A (call (.builtin "str.split") (w::vs))) (bJ (xF v bs)) (cR P):=by
 refine aQ.leaf λg σ s E Q b G V F hp e hQ=>?_;refine V.lclK λM t m hn=>?_;replace e:xW _ v=some b:=e;apply lz w hp.1 e
 intro x t1 e;apply ki vs hp.2 e
 intro p u ru e;apply lz u ru e
 intro y t2 e;obtain⟨c,hy,e⟩:=rE e;refine mI e λhl e=>?_;rw[hy];refine splitN1A (JE hn) rI rfl (λl h' k e1 e2 ö ö F' N'=>?_) (ae (gE hl 2) Gi);obtain⟨g',x',G',r⟩:=C9 (bs:=(Txt.split x ⟨#[c]⟩).map PV.str) G t hn (aT (au _)) F' N' rfl λg' ö=>e1▸(pd e2);rw[CH,eB]at r;exact hQ _ {s with heap:=h',toks:=k} g' x' G' (Option.some.inj e▸r) ⟨rfl,rfl,rfl⟩
theorem Dw {v:PV} {w:ag} {bs:List PV} {vs:List ag}:aQ P cls env ρ fr (λg h=>cR P g h v w/\aU P g h bs vs) (eJ P A (call (.builtin "str.join") (w::vs))) (bJ (Dx v bs)) (cR P):=by
 refine aQ.leaf λg σ s E Q b G V F hp e hQ=>?_;replace e:xW _ v=some b:=e;apply lz w hp.1 e
 intro x t1 e;apply ki vs hp.2 e
 intro p u ru e;apply lA u ru e
 intro l a us _ _ il rs e;refine fm e λss hss e=>?_;refine mI e λhl e=>?_;refine mI e λö e=>?_;refine join_listC il.il (by simpa using jz rs hss) hl.1 (ae hl.2 (by decide)) λt' k=>?_;rw[<-yb];exact hQ _ {s with toks:=k} g (.refl ..) G (Option.some.inj e▸⟨_,rfl⟩) ⟨rfl,rfl,rfl⟩
theorem BG {v:PV} {w:ag} {bs:List PV} {vs:List ag}:aQ P cls env ρ fr (λg h=>cR P g h v w/\aU P g h bs vs) (eJ P A (call (.builtin "list.count") (w::vs))) (bJ (yy v bs)) (cR P):=by
 refine aQ.leaf λg σ s E Q b G V F hp e hQ=>?_;replace e:zH _ v=some b:=e;apply lA w hp.1 e
 intro l a us _ _ il rs e;apply ki vs hp.2 e
 intro p u ru e;apply lz u ru e
 intro y t2 e;refine fm e λss hss e=>?_;refine mI e λö e=>?_;refine count_list_strs il.il (jz rs hss) ?_;rw[so];exact hQ _ {s with toks:=s.toks+1} g (.refl ..) G (Option.some.inj e▸⟨_,rfl⟩) ⟨rfl,rfl,rfl⟩
theorem SE.sm0 {o:ay} {mo:ME} {m id:String} {x:Str} {apos pos:Pos} (hx:x=aa m) (hm:tw m id) (ho:SE P cls cf n sc o mo)
  (hU:∀(A:bd) (env:Env) (ρ:aE) (fr:List Env) (v:PV) (w:ag),jP A n fr->aQ P cls env ρ fr (λg h=>cR P g h v w) (eJ P A (e7 pos (.builtin id) [w] [] [])) (vy m v []) (cR P))
  (pl:Env->Sem Bool) (he:∀env,eval (.Call (.Attribute o x apos) [] [] pos) env=(do
   let ov<-eval o env
   standAt apos.atName
   let(f,first)<-holding [ov] (getMethod ov x (pl env))
   e7 pos f first (ee pos (aX [] env)) [])) (hs:∀env,aX [] env=[]):SE P cls cf n sc (.Call (.Attribute o x apos) [] [] pos) (.sm m mo []):=λA env ρ fr hsc hA=>by
 subst hx;refine(aQ.bind (U:=λw Q E s=>wpAny (model P.prog P.w) A (getMethod w (aa m) (pl env)) (λfx cx=>wpAny (model P.prog P.w) A (e7 pos fx.1 fx.2 [] []) Q E cx) E s) al (λw=>?_) (ho A env ρ fr hsc hA) λv w=>?_).of λQ E s h=>?_
 ·exact λQ Q' E s x y=>aA y (λö ö z=>aA z x λö ö z=>z) λö ö z=>z
 ·intro g σ s E G V F hp hb hE;simp only[]at hb;by_cases ok:jB σ m v=true
  ·refine zC hm G hp ok ?_;have key:=hU A env ρ fr v w hA g σ s E G V F hp;have e:(λσ=>if jB σ m v=true then MM.bind (eP cf ρ []) (λl=>vy m v l) σ else qn.bad) σ=vy m v [] σ:=by
    simp only[if_pos ok,sd,se];rfl
   replace key:=(e).symm▸key;exact key hb hE
  ·rw[if_neg ok]at hb;exact absurd rfl hb
 ·refine MethodCall_ (pl:=pl env) (aA h (λov cg cL=>aA cL (λfx cx gI=>?_) λö ö z=>z) λö ö z=>z) (he env);rw[hs];exact gI
theorem SE.sm1 {o e:ay} {es:List ay} {mo:ME} {mes:List ME} {m id:String} {x:Str} {apos pos:Pos} (hx:x=aa m) (hm:tw m id) (ho:SE P cls cf n sc o mo) (hes:vp P cls cf n sc (e::es) mes)
  (hU:∀(A:bd) (env:Env) (ρ:aE) (fr:List Env) (v:PV) (w:ag) (bs:List PV) (vs:List ag),jP A n fr->aQ P cls env ρ fr (λg h=>cR P g h v w/\aU P g h bs vs) (eJ P A (call (.builtin id) (w::vs))) (vy m v bs) (cR P))
  (pl:Env->Sem Bool) (he:∀env,eval (.Call (.Attribute o x apos) (e::es) [] pos) env=(do
   let ov<-eval o env
   standAt apos.atName
   let(f,first)<-holding [ov] (getMethod ov x (pl env))
   e7 pos f first (ee pos (aX (e::es) env)) []))
  (hs:∀env,aX (e::es) env=(false,eval e env)::aX es env) (hp:∀env,(ee pos (aX es env)).any (·.1)=false):SE P cls cf n sc (.Call (.Attribute o x apos) (e::es) [] pos) (.sm m mo mes):=λA env ρ fr hsc hA=>by
 subst hx;refine(aQ.bind (U:=λw Q E s=>wpAny (model P.prog P.w) A (getMethod w (aa m) (pl env)) (λfx cx=>wpAny (model P.prog P.w) A (e7 pos fx.1 fx.2 (ee pos (aX (e::es) env)) []) Q E cx) E s) al (λw=>?_) (ho A env ρ fr hsc hA) λv w=>?_).of λQ E s h=>?_
 ·exact λQ Q' E s x y=>aA y (λö ö z=>aA z x λö ö z=>z) λö ö z=>z
 ·intro g σ s E G V F hp' hb hE;simp only[]at hb;by_cases ok:jB σ m v=true
  ·refine zC hm G hp' ok (callWith_method1 ?_ (hs env) (hp env));have key:aQ P cls env ρ fr (λg h=>cR P g h v w) (λQ E s=>eJ P A (spliced (ee pos (aX (e::es) env))) (λvs cg=>eJ P A (call (.builtin id) (w::vs)) Q E cg) E s) (MM.bind (eP cf ρ mes) λl=>vy m v l) (cR P):=
    aQ.bind al (λö=>al) ((hes A env ρ fr pos hsc hA).keep al dY) λbs vs=>(hU A env ρ fr v w bs vs hA).conseq al (λö ö z=>⟨z.2,z.1⟩) λö ö ö ö z=>z
   have key:=key g σ s E G V F hp';have e:(λσ=>if jB σ m v=true then MM.bind (eP cf ρ mes) (λl=>vy m v l) σ else qn.bad) σ=MM.bind (eP cf ρ mes) (λl=>vy m v l) σ:=by
    simp only[if_pos ok]
   replace key:=(e).symm▸key;exact key hb hE
  ·rw[if_neg ok]at hb;exact absurd rfl hb
 ·exact MethodCall_ (pl:=pl env) h (he env)
theorem yS {v:PV} {w:ag} {bs:List PV} {vs:List ag}:aQ P cls env ρ fr (λg h=>cR P g h v w/\aU P g h bs vs) (eJ P A (call (.builtin "list.append") (w::vs))) (vm v bs) (cR P):=by
 refine aQ.leafS λg σ s E Q b aF G V F hp e hQ=>?_;refine V.lclK λM t m hn=>?_;apply rD w hp.1 e
 intro k _ e;apply ki vs hp.2 e
 intro x u ru e;refine fm e λl hk e=>?_;refine mI e λhl e=>?_;refine Mine.Internal.cps λζ κ=>?_;obtain⟨hc,vs,il,rs⟩:=kI G hk;obtain⟨i,ho⟩:=id il;obtain⟨ad,G'⟩:=q8 (l':=l++[x]) (ws:=vs++[u]) G t ⟨m,hn⟩ hc (λxs=>xs.push u) il (by simp) (aU.append rs ⟨ru,trivial⟩);refine κ ?_;cases e
 exact call_meets PySem.F.slot_list_append ⟨_,ho,rfl⟩ PySem.F.entry_list_append (PySem.F.args_list_append_2 _ _) (list_append _ vs.toArray i u (oq rs (cu hl))) ⟨ho,hQ _ {s with heap:=_} g ad G' rfl ⟨rfl,rfl,rfl⟩⟩
theorem FH {v:PV} {w:ag} {pos:Pos}:aQ P cls env ρ fr (λg h=>cR P g h v w) (eJ P A (e7 pos (.builtin "list.pop") [w] [] [])) (I6 v []) (cR P):=by
 refine aQ.leafS λg σ s E Q b aF G V F hp e hQ=>?_;refine V.lclK λM t m hn=>?_;apply rD w hp e
 intro k _ e;refine fm e λl hk e=>?_;refine mI e λhl e=>?_;refine fm e λx hx e=>?_;refine Mine.Internal.cps λζ κ=>?_;obtain⟨hc,vs,il,rs⟩:=kI G hk;obtain⟨i,ho⟩:=id il;have len:=aU.length rs;obtain⟨u,hu,ru⟩:=rs.get (List.getLast?_eq_getElem?.symm.trans hx);rw[len]at hu;obtain⟨ad,G'⟩:=q8 (l':=l.dropLast) (ws:=vs.dropLast) G t ⟨m,hn⟩ hc (λxs=>xs.eraseIdxIfInBounds (vs.toArray.size-1)) il (by
  unfold Array.eraseIdxIfInBounds;rw[dif_pos (show vs.toArray.size-1<vs.toArray.size from(ao.mp hu).1)];apply EU.mp
  simp only[List.eraseIdx_toArray,bE];rw[List.eraseIdx_length_sub_one]) (by rw[AL,AL,len];exact rs.take _)
 refine κ ?_;cases e
 exact PySem.P.pop_list (items:=vs.toArray) (n:=i) ho (by simpa using hu) (hQ _ {s with heap:=_} g ad G' (ru.mono ad) ⟨rfl,rfl,rfl⟩) (oq rs hl.2)
end
open PySem PySem.W PyProof.Rows PySem.Calls
structure iO (P:PW) (g:Gh) (h:Heap) (env:Env) (ρ:aE):Prop extends EnvRel P g h env ρ where
 own:g.tag env.locals=.frm env.locals
 cells:∀x c,env.cells.lookup x=some c->g.tag c=.frm env.locals/\c≠env.locals/\∃v,h.IsCell c v
 sep:∀x y c,env.cells.lookup x=some c->env.cells.lookup y=some c->x=y
 nofree:∀x,env.kindOf x≠some .free
section
variable {P:PW} {cls:ag} {cf:String->List PV->MM PV} {W:Nat} {n:Nat×Nat} {sc:bD} {A:bd} {env:Env} {ρ:aE} {fr:List Env} {g g':Gh} {h h':Heap} {σ:ah} {L:Addr} {α β γ δ:Type}
theorem iO.mono (x:dX none g g' h h') (r:iO P g h env ρ):iO P g' h' env ρ where
 toEnvRel:=r.toEnvRel.mono x
 own:=x.tagF r.own
 cells:=λy c e=>let⟨a,b,v,d⟩:=r.cells y c e;⟨x.tagF a,b,v,x.isCell a d⟩
 sep:=r.sep
 nofree:=r.nofree
theorem fR (ρ:aE) (x y:String) (v:PV):(ig ρ x v).lookup y=if y=x then some v else ρ.lookup y:=by
 unfold ig;rw[aW];by_cases q:y=x
 ·subst q;simp
 ·have:(y==x)=false:=by simpa using q
  rw[this,if_neg q];simp only[]
  induction ρ with
  |nil=>rfl
  |cons p ρ ih=>
   rw[je];by_cases q':p.1=x
   ·have:(p.1 !=x)=false:=by simpa using q'
    rw[this,aW];have:(y==p.1)=false:=by simpa using λz=>q (z.trans q')
    rw[this];exact ih
   ·have:(p.1 !=x)=true:=by simpa using q'
    rw[this];simp only[if_true];rw[aW,aW,ih]
theorem iO.ext {f7:aE} (r:iO P g h env ρ) (e:∀x,f7.lookup x=ρ.lookup x):iO P g h env f7:=
 {r with
  ns:=let⟨m,hn,hv⟩:=r.ns;⟨m,hn,λx p q k=>hv x p ((e x).symm.trans q) k⟩
  cel:=λx p q k=>r.cel x p ((e x).symm.trans q) k}
theorem oo (G:dq P g σ h) {M c:Addr} (t:g.tag c=.frm M) (sb:zh c h h') (nf:∃o,h'.get? c=some o/\∀vs,o.data≠.fields vs):dX (some M) g g h h'/\dq P g σ h':=by
 have other:∀a o,g.tag a≠.frm M->h.get? a=some o->h'.get? a=some o:=λa o ha e=>(sb.2 a (λq=>ha (q▸t))).symm▸e;exact Hv G (λa o ö h2 e=>other a o (h2 M) e) (λa M' q hM=>.of_eq λo e=>other a o (λz=>hM (by rw[q]at z;injection z with z;rw[z])) e) (λa M' q=>by
  by_cases z:a=c
  ·exact z▸nf
  ·obtain⟨_,o,ho,hd⟩:=G.frm a M' q;exact⟨o,((sb.2 a z).symm▸ho),hd⟩) [] nofun nofun
theorem oi {x:String} {p:PV} {v:ag} {s:ak} {Q:Unit->ak->Prop} {E:ag->ak->Prop} {M:Model} (G:dq P g σ s.heap) (V:iO P g s.heap env ρ) (hk:env.kindOf (aa x)=some .local\/env.kindOf (aa x)=some .cell) (r:cR P g s.heap p v)
  (hQ:∀s',dX (some env.locals) g g s.heap s'.heap->dq P g σ s'.heap->iO P g s'.heap env (ig ρ x p)->fU s s'->Q () s'):wpAny M A (storeName env (aa x) v) Q E s:=by
 obtain⟨m,hn,hv⟩:=V.ns;rcases hk with hk|hk
 ·refine wpAny_storeName_local hk hn (λh' hn' sb=>?_) (by simp[V.fn]);have nf:∃o,h'.get? env.locals=some o/\∀vs,o.data≠.fields vs:=by
   obtain⟨o,es,ep,ho,hd,_⟩:=hn';exact⟨o,ho,λvs q=>by rw[hd]at q;contradiction⟩
  obtain⟨ad,G'⟩:=oo G V.own sb nf;refine hQ {s with heap:=h',toks:=s.toks+1} ad G' ?_ ⟨rfl,rfl,rfl⟩;have cel:∀c w,c≠env.locals->s.heap.IsCell c w->h'.IsCell c w:=λc w ne ⟨o,ho,hd⟩=>⟨o,by rw[sb.2 c ne];exact ho,hd⟩;exact{
   fn:=V.fn,gl:=V.gl,bi:=V.bi,tag:=V.tag,own:=V.own,sep:=V.sep,has:=V.has,nofree:=V.nofree
   ns:=⟨_,hn',λy q e k=>by
    rw[fR]at e;by_cases z:y=x
    ·subst z;rw[if_pos rfl]at e
     (injection e;subst_vars)
     exact⟨v,by simp,r.mono ad⟩
    ·rw[if_neg z]at e;obtain⟨u,e1,e2⟩:=hv y q e k;exact⟨u,by simp only[if_neg (λw=>z (dy w))];exact e1,e2.mono ad⟩⟩
   cel:=λy q e k=>by
    rw[fR]at e;by_cases z:y=x
    ·subst z;rw[hk]at k;rcases k with k|k<;>contradiction
    ·rw[if_neg z]at e;obtain⟨c,u,e1,e2,e3,e4⟩:=V.cel y q e k;exact⟨c,u,e1,e2,cel c _ (V.cells _ c e1).2.1 e3,e4.mono ad⟩
   cells:=λy c e=>let⟨a,b,w,d⟩:=V.cells y c e;⟨a,b,w,cel c w b d⟩}
 ·obtain⟨c,hc⟩:=V.has _ hk;obtain⟨tc,nc,v₀,hcell⟩:=V.cells _ c hc;refine wpAny_storeName_cell V.fn hk hc hcell λh' hc' sb=>?_;have nf:∃o,h'.get? c=some o/\∀vs,o.data≠.fields vs:=by
   obtain⟨o,ho,hd⟩:=hc';exact⟨o,ho,λvs q=>by rw[hd]at q;contradiction⟩
  obtain⟨ad,G'⟩:=oo G tc sb nf;refine hQ {s with heap:=h'} ad G' ?_ ⟨rfl,rfl,rfl⟩;have cel:∀c' w,c'≠c->s.heap.IsCell c' w->h'.IsCell c' w:=λc' w ne ⟨o,ho,hd⟩=>⟨o,by rw[sb.2 c' ne];exact ho,hd⟩;exact{
   fn:=V.fn,gl:=V.gl,bi:=V.bi,tag:=V.tag,own:=V.own,sep:=V.sep,has:=V.has,nofree:=V.nofree
   ns:=by
    obtain⟨o,es,ep,ho,rest⟩:=hn;refine⟨m,⟨o,es,ep,by rw[sb.2 _ (λq=>nc q.symm)];exact ho,rest⟩,λy q e k=>?_⟩;rw[fR]at e;by_cases z:y=x
    ·subst z;rw[hk]at k;contradiction
    ·rw[if_neg z]at e;obtain⟨u,e1,e2⟩:=hv y q e k;exact⟨u,e1,e2.mono ad⟩
   cel:=λy q e k=>by
    rw[fR]at e;by_cases z:y=x
    ·subst z;rw[if_pos rfl]at e
     (injection e;subst_vars)
     exact⟨c,v,hc,⟨_,tc⟩,hc',r.mono ad⟩
    ·rw[if_neg z]at e;obtain⟨c',u,e1,e2,e3,e4⟩:=V.cel y q e k;exact⟨c',u,e1,e2,cel c' _ (λw=>z (dy (V.sep _ _ c (w▸e1) hc))) e3,e4.mono ad⟩
   cells:=λy c' e=>by
    obtain⟨a,b,w,d⟩:=V.cells y c' e;by_cases z:c'=c
    ·subst z;exact⟨a,b,_,hc'⟩
    ·exact⟨a,b,w,cel c' w z d⟩}
inductive Mz (P:PW) (env:Env) (g:Gh) (s:ak) {α β:Type} (r:qn (β×aE)) (R:Gh->Heap->β->α->Prop) (a:α) (s':ak):Prop
 |mk (b:β) (f7:aE) (aF:ah) (g':Gh):r=.ok (b,f7) aF->dX (some env.locals) g g' s.heap s'.heap->dq P g' aF s'.heap->iO P g' s'.heap env f7->R g' s'.heap b a->fU s s'->Mz P env g s r R a s'
noncomputable def dD (P:PW) (cls:ag) (A:bd) (env:Env) (ρ:aE) (fr:List Env) {α β:Type} (Pre:Gh->Heap->Prop) (T:WT α) (m:MM (β×aE)) (R:Gh->Heap->β->α->Prop):Prop:=
 ∀(g:Gh) (σ:ah) (s:ak) (E:ag->ak->Prop),dq P g σ s.heap->iO P g s.heap env ρ->dc g s.heap fr->(PassesOwn (model P.prog P.w) A env E/\∃o,fr=env::o)->Pre g s.heap->m σ≠.bad->
  OnX P cls (some env.locals) MG fr (m σ) g s E->T (Mz P env g s (m σ) R) E s
theorem dc.monoL {M:Option Addr} (x:dX M g g' h h') (r:dc g h fr):dc g' h' fr:=λenv he=>by
 obtain⟨k,L,hf,t⟩:=r env he;exact⟨k,L,hf,x.tagF t⟩
theorem dD.eq {Pre:Gh->Heap->Prop} {T:WT α} {m m':MM (β×aE)} {R:Gh->Heap->β->α->Prop} (h:dD P cls A env ρ fr Pre T m R) (e:m'=m):dD P cls A env ρ fr Pre T m' R:=e▸h
theorem dD.store {Pre:Gh->Heap->Prop} {T:WT α} {m:MM (β×aE)} {b:β} {o:ah->Option ah} {R:Gh->Heap->β->α->Prop} (hn:∀σ,o σ=none->m σ=.bad) (hs:∀σ aF,o σ=some aF->m σ=.ok (b,ρ) aF)
  (h:∀(g:Gh) (σ:ah) (s:ak) (E:ag->ak->Prop) (Q:α->ak->Prop) (aF:ah),dq P g σ s.heap->iO P g s.heap env ρ->Pre g s.heap->o σ=some aF->
   (∀a s',dX none g g s.heap s'.heap->dq P g aF s'.heap->R g s'.heap b a->fU s s'->Q a s')->T Q E s):dD P cls A env ρ fr Pre T m R:=by
 intro g σ s E G V F hO hp hb _
 induction q:o σ with
 |none=>exact absurd (hn σ q) hb
 |some aF=>exact h g σ s E _ aF G V hp q λa s' ad G' r sm=>⟨b,ρ,aF,g,hs σ aF q,ad.weaken,G',V.mono ad,r,sm⟩
theorem dD.expr {Pre:Gh->Heap->Prop} {T:WT α} {U:α->WT γ} {m:MM β} {k:β->MM (δ×aE)} {R:Gh->Heap->β->α->Prop} {S:Gh->Heap->δ->γ->Prop} (mo:g0 T) (mo2:∀a,g0 (U a))
  (h1:aQ P cls env ρ fr Pre T m R) (h2:∀b a,dD P cls A env ρ fr (λg h=>R g h b a) (U a) (k b) S):dD P cls A env ρ fr Pre (λQ E s=>T (λa cg=>U a Q E cg) E s) (MM.bind m k) S:=by
 intro g σ s E G V F hO hp hb hE;refine mo _ _ E s (λa cg h=>?_) (h1 g σ s E G V.toEnvRel F hp (λq=>hb (by simp[MM.bind,q])) λe s' g' aF q ad G' X=>hE e s' g' aF (by simp[MM.bind,q]) ad.weaken G' (.inl X));obtain⟨b,aZ,hR,hm,ad,gW,r,sm⟩:=h;refine mo2 a _ _ E cg (λc cx h=>?_) (h2 b a hR aZ cg E gW (V.mono ad) (F.mono ad) hO r (λq=>hb (by simp[MM.bind,hm,q])) λe s' g' aF q ad' G' X sm'=>hE e s' g' aF (by simp[MM.bind,hm,q]) (ad.weaken.trans ad') G' X (sm.trans sm'));obtain⟨d,f7,bK,ju,xm,eM,hV,lZ,Ez,eU⟩:=h;exact⟨d,f7,bK,ju,by simp[MM.bind,hm,xm],ad.weaken.trans eM,hV,lZ,Ez,sm.trans eU⟩
theorem dD.bind {Pre:Gh->Heap->Prop} {T:WT α} {U:α->WT γ} {m:MM (β×aE)} {k:β×aE->MM (δ×aE)} {R:Gh->Heap->β->α->Prop} {S:Gh->Heap->δ->γ->Prop} (mo:g0 T) (mo2:∀a,g0 (U a))
  (h1:dD P cls A env ρ fr Pre T m R) (h2:∀b a f7,dD P cls A env f7 fr (λg h=>R g h b a) (U a) (k (b,f7)) S):dD P cls A env ρ fr Pre (λQ E s=>T (λa cg=>U a Q E cg) E s) (MM.bind m k) S:=by
 intro g σ s E G V F hO hp hb hE;refine mo _ _ E s (λa cg h=>?_) (h1 g σ s E G V F hO hp (λq=>hb (by simp[MM.bind,q])) λe s' g' aF q ad=>hE e s' g' aF (by simp[MM.bind,q]) ad);obtain⟨b,gz,aZ,hR,hm,ad,gW,l5,r,sm⟩:=h;refine mo2 a _ _ E cg (λc cx h=>?_) (h2 b a gz hR aZ cg E gW l5 (F.monoL ad) hO r (λq=>hb (by simp[MM.bind,hm,q])) λe s' g' aF q ad' G' X sm'=>hE e s' g' aF (by simp[MM.bind,hm,q]) (ad.trans ad') G' X (sm.trans sm'));obtain⟨d,f7,bK,ju,xm,eM,hV,lZ,Ez,eU⟩:=h;exact⟨d,f7,bK,ju,by simp[MM.bind,hm,xm],ad.trans eM,hV,lZ,Ez,sm.trans eU⟩
theorem dD.pure {Pre:Gh->Heap->Prop} {T:WT α} {a:α} {b:β} {R:Gh->Heap->β->α->Prop} (hT:∀Q E s,Q a s->T Q E s) (h:∀g h,Pre g h->R g h b a):dD P cls A env ρ fr Pre T (MM.pure (b,ρ)) R:=
 λg σ s ö G V ö ö hp ö ö=>hT _ _ _ ⟨b,ρ,σ,g,rfl,.refl ..,G,V,h _ _ hp,.refl s⟩
theorem dD.of {Pre:Gh->Heap->Prop} {T T':WT α} {m:MM (β×aE)} {R:Gh->Heap->β->α->Prop} (h:dD P cls A env ρ fr Pre T m R) (e:∀Q E s,PassesOwn (model P.prog P.w) A env E->T Q E s->T' Q E s):dD P cls A env ρ fr Pre T' m R:=
 λg σ s E G V F hO hp hb hE=>e _ _ _ hO.1 (h g σ s E G V F hO hp hb hE)
theorem dD.ofE {Pre:Gh->Heap->Prop} {T T':WT α} {m:MM (β×aE)} {R:Gh->Heap->β->α->Prop} (h:dD P cls A env ρ fr Pre T m R)
  (e:∀Q E s g σ,PassesOwn (model P.prog P.w) A env E->dq P g σ s.heap->iO P g s.heap env ρ->Pre g s.heap->T Q E s->T' Q E s):dD P cls A env ρ fr Pre T' m R:=
 λg σ s E G V F hO hp hb hE=>e _ _ _ g σ hO.1 G V hp (h g σ s E G V F hO hp hb hE)
theorem dD.conseq {Pre Pre':Gh->Heap->Prop} {T:WT α} {m:MM (β×aE)} {R R':Gh->Heap->β->α->Prop} (mo:g0 T) (h:dD P cls A env ρ fr Pre T m R) (h1:∀g h,Pre' g h->Pre g h) (h2:∀g h b a,R g h b a->R' g h b a):
  dD P cls A env ρ fr Pre' T m R':=λg σ s E G V F hO hp hb hE=>
 mo _ _ E s (λ_ _ ⟨b,f7,aF,g',a1,a2,a3,a4,a5,a6⟩=>⟨b,f7,aF,g',a1,a2,a3,a4,h2 _ _ _ _ a5,a6⟩) (h g σ s E G V F hO (h1 _ _ hp) hb hE)
noncomputable def H3 (P:PW) (g:Gh) (h:Heap):Mine.Internal.Flow->PySem.Flow->Prop
 |.next,f=>f=.next
 |.brk,f=>f=.brk
 |.ret p,f=>∃v,f=.ret v/\cR P g h p v
noncomputable def SS (P:PW) (cls:ag) (cf:String->List PV->MM PV) (W:Nat) (n:Nat×Nat) (sc:bD) (st:eF) (ms:List MS):Prop:=
 ∀(A:bd) (env:Env) (ρ:aE) (fr:List Env),env.scope=sc->jP A n fr->dD P cls A env ρ fr (λö ö=>True) (eJ P A (exec st env)) (c9 cf W ms ρ) (H3 P)
noncomputable def xe (P:PW) (cls:ag) (cf:String->List PV->MM PV) (W:Nat) (n:Nat×Nat) (sc:bD) (sts:List eF) (ms:List MS):Prop:=
 ∀(A:bd) (env:Env) (ρ:aE) (fr:List Env),env.scope=sc->jP A n fr->dD P cls A env ρ fr (λö ö=>True) (eJ P A (execs sts env)) (c9 cf W ms ρ) (H3 P)
theorem th (a b:List MS) (ρ:aE):c9 cf W (a++b) ρ=MM.bind (c9 cf W a ρ) λr=>match r.1 with
  |.next=>c9 cf W b r.2
  |_=>MM.pure r:=by
 induction a generalizing ρ with
 |nil=>simp only[tG,rZ,r8];rfl
 |cons s a ih=>
  simp only[bC,rZ,r8];rw[MM.bind_assoc]
  congr 1
  funext r;obtain⟨f,f7⟩:=r
  induction f with
  |next=>exact ih f7
  |brk=>rfl
  |ret v=>rfl
theorem xe.nil:xe P cls cf W n sc [] []:=λA env ρ fr ö ö=>by
 exact dD.pure (a:=PySem.Flow.next) (λö ö ö q=>wpAny_execs_nil q) λö ö ö=>rfl
theorem xe.cons {st:eF} {sts:List eF} {a b:List MS} (h:SS P cls cf W n sc st a) (hs:xe P cls cf W n sc sts b):xe P cls cf W n sc (st::sts) (a++b):=λA env ρ fr hsc hA=>by
 rw[th];refine(dD.bind (U:=λf Q E s=>match f with|.next=>eJ P A (execs sts env) Q E s|f=>Q f s) al (λf=>?_) (h A env ρ fr hsc hA) λb' f f7=>?_).of λQ E s ö w=>?_
 ·intro Q Q' E s x y;cases f
  ·exact al _ _ _ _ x y
  all_goals exact x _ _ y
 ·intro g σ s E G V F hO hp hb hE
  induction b' with
  |next=>
   subst hp;exact hs A env f7 fr hsc hA g σ s E G V F hO trivial hb hE
  |brk=>
   subst hp;exact⟨.brk,f7,σ,g,rfl,.refl ..,G,V,rfl,.refl s⟩
  |ret p=>
   obtain⟨v,rfl,r⟩:=hp;exact⟨.ret p,f7,σ,g,rfl,.refl ..,G,V,⟨v,rfl,r⟩,.refl s⟩
 ·show wpAny _ _ (execs (st::sts) env) _ _ _;rw[execs_cons];refine av (aA w (λf cg cL=>?_) λö ö z=>z);cases f
  ·exact cL
  all_goals exact aG cL
end
open PySem PySem.W PyProof.Rows PySem.Calls
section
variable {P:PW} {cls:ag} {cf:String->List PV->MM PV} {W:Nat} {n:Nat×Nat} {sc:bD} {A:bd} {env:Env} {ρ:aE} {fr:List Env} {g g':Gh} {h h':Heap} {σ:ah} {L:Addr} {α β γ δ:Type}
theorem tb (y:String) (ns:List String) (q:PV) (ps:List PV) (x:String) (v:PV):
  setField (y::ns) (q::ps) x v=if y=x then(y::ns,v::ps)else(y::(setField ns ps x v).1,q::(setField ns ps x v).2):=by
 unfold setField;refine(EK).symm▸?_;by_cases e:y=x
 ·subst e;simp
 ·have:(y==x)=false:=by simpa using e
  refine this.symm▸(if_neg e).symm▸?_;cases List.findIdx? (λx_1=>x_1==x) ns<;>simp
theorem jI.put {x:String} {hsh:Int} {t:Tok} {p:PV} {v:ag} (rp:cR P g h p v):∀{es:List DictEntry} {ns:List String} {vs:List ag} {ps:List PV},jI es ns vs->aU P g h ps vs->
  ∃vs',jI (putL (aa x) hsh (.str (aa x) t) v es) (setField ns ps x p).1 vs'/\aU P g h (setField ns ps x p).2 vs'
 |[],[],[],[],_,_=>⟨[v],⟨⟨_,rfl⟩,rfl,trivial⟩,rp,trivial⟩
 |[],[],[],_::_,_,r=>aw r
 |[],_::_,[],ps,f,_=>aw f
 |[],[],_::_,ps,f,_=>aw f
 |[],_::_,_::_,ps,f,_=>aw f
 |_::_,[],_,ps,f,_=>aw f
 |_::_,_::_,[],ps,f,_=>aw f
 |_::_,_::_,_::_,[],f,r=>aw r
 |d::es,y::ns,u::vs,q::ps,f,r=>by
  obtain⟨⟨t',hk⟩,hv,f⟩:=f;rw[tb];simp only[putL,hk];by_cases e:y=x
  ·subst e;refine⟨v::vs,?_,?_⟩
   ·simp[Value.isStr,Kh,f]
   ·simp[Kg,rp,r.2]
  ·have:(Value.str (aa y) t').isStr (aa x)=false:=by
    simp only[Value.isStr,beq_eq_false_iff_ne,ne_eq];exact λz=>e (dy z)
   refine this.symm▸(if_neg e).symm▸?_;obtain⟨vs',f',r'⟩:=jI.put rp f r.2;refine⟨u::vs',?_,?_⟩
   ·exact⟨⟨t',hk⟩,hv,f'⟩
   ·exact⟨r.1,r'⟩
theorem jI.noref:∀{es:List DictEntry} {ns:List String} {vs:List ag},jI es ns vs->es.any (·.refKey)=false
 |[],_,_,_=>rfl
 |_::_,[],_,f=>aw f
 |_::_,_::_,[],f=>aw f
 |d::es,y::ns,u::vs,f=>by
  obtain⟨⟨t',hk⟩,_,f⟩:=f;refine(KT).symm▸(jI.noref f).symm▸?_;simp[DictEntry.refKey,hk]
theorem jI.len:∀{es:List DictEntry} {ns:List String} {vs:List ag},jI es ns vs->es.length=ns.length
 |[],[],_,_=>rfl
 |[],_::_,[],f=>aw f
 |[],_::_,_::_,f=>aw f
 |_::_,[],_,f=>aw f
 |_::_,_::_,[],f=>aw f
 |_::_,_::_,_::_,f=>by
  simp[jI.len f.2.2]
theorem v4 (name:Str) (hsh:Int) (key v:ag):∀es:List DictEntry,(putL name hsh key v es).length<=es.length+1
 |[]=>by simp[putL]
 |e::r=>by
  have:=v4 name hsh key v r;simp only[putL];split<;>simp<;>exact bH 0x1109280811092801 this
theorem Br {L a:Addr} {o:Obj} (e:h.get? a=some o) (ne:a≠L):∃pre post,Gk h L=pre++(a,o)::post/\(∀p∈pre,p.1≠a)/\(∀p∈post,p.1≠a):=by
 have key:∀(l:List Nat),l.Nodup->a∈l->∃pre post,(l.filterMap λb=>if b=L then none else(h.get? b).map λo=>(b,o))=pre++(a,o)::post/\(∀p∈pre,p.1≠a)/\(∀p∈post,p.1≠a):=by
  intro l;have sub:∀(l:List Nat) (p:Addr×Obj),p∈(l.filterMap λb=>if b=L then none else(h.get? b).map λo=>(b,o))->p.1∈l:=by
   intro l p hp;obtain⟨b,hb,e⟩:=EH.mp hp;split at e
   ·contradiction
   ·refine lT e λo' ö q=>?_;subst q;exact hb
  induction l with
  |nil=>exact λö hm=>nomatch hm
  |cons b l ih=>
   intro nd hm;rw[tF]at nd;refine(o3).symm▸?_;by_cases q:b=a
   ·subst q;refine(if_neg ne).symm▸e.symm▸?_;refine⟨[],_,rfl,by simp,λp hp z=>nd.1 (z▸sub l p hp)⟩
   ·have hm':a∈l:=by
     rcases aH.mp hm with z|z
     ·exact absurd z.symm q
     ·exact z
    obtain⟨pre,post,e1,h1,h2⟩:=ih nd.2 hm';refine e1.symm▸?_;by_cases hbL:b=L
    ·exact(if_pos hbL).symm▸⟨pre,post,rfl,h1,h2⟩
    ·refine(if_neg hbL).symm▸?_
     induction hb:h.get? b with
     |none=>exact⟨pre,post,rfl,h1,h2⟩
     |some ob=>
      refine⟨(b,ob)::pre,post,rfl,λp hp=>?_,h2⟩;rcases aH.mp hp with z|z
      ·subst z;exact q
      ·exact h1 p z
 exact key _ List.nodup_range (eQ.mpr (dn e))
theorem v0 (B:cK P) (S:xd P) {k:Nat} {c:String} {ns:List String} {ps:List PV} {x:String} {p:PV} {v:ag} {s:ak} {Q:Unit->ak->Prop} {E:ag->ak->Prop} (G:dq P g σ s.heap) (V:EnvRel P g s.heap env ρ)
  (e:σ[k]?=some (.obj c ns ps)) (hx:x∈fieldsOf c) (hn:ns.length<=100) (r:cR P g s.heap p v)
  (hQ:∀s',dX none g g s.heap s'.heap->dq P g (σ.set k (.obj c (setField ns ps x p).1 (setField ns ps x p).2)) s'.heap->fU s s'->Q () s'):wpAny (model P.prog P.w) A (setAttr (.ref (g.at_ k)) (aa x) v) Q E s:=by
 refine V.lclK λM t m hm=>?_;refine Mine.Internal.cps λζ κ=>?_;obtain⟨t1,C,dx,es,i,vs,hC,t2,h1,h2,f,rs⟩:=G.cells _ _ e;obtain⟨s1,s2,s3⟩:=S.cls c C hC;have nd:dx≠env.locals:=λq=>by rw[q,t]at t2;contradiction
 obtain⟨pre,post,el,p1,p2⟩:=Br h2 nd;have I:InstAt s.heap (g.at_ k) (instObj C dx) C (some (dictOf es i)):=⟨h1,rfl,rfl,h2⟩;obtain⟨vs',f',r'⟩:=jI.put (hsh:=PyData.keyHash P.w.params (aa x)) (t:=s.toks+1) (x:=x) r f rs;refine κ ?_;refine set_plain (G.kin B) I s1 ?_;refine osa_dict (s:={s with toks:=s.toks+1}) (JE hm) (el▸rI) (G.kin B) I rfl s2 (S.fld c C x hC hx) s3 ?_ p1 p2 (putName_dict ..) rfl ?_ λh' F' N'=>?_
 ·show(getL _ es).isSome=true;unfold getL;cases es.find? (·.key.isStr (aa x))with
  |some _=>rfl
  |none=>simp only[f.noref];rfl
 ·have:=v4 (aa x) (PyData.keyHash P.w.params (aa x)) (.str (aa x) (s.toks+1)) v es;have:=f.len;exact ae ‹_› (bH 0x13e8311092081892816421802 hn this)
 ·have old:∀a o,a≠env.locals->g.tag a≠.sto k->s.heap.get? a=some o->h'.get? a=some o:=λa o na nk ea=>by
   have:(a,o)∈Gk s.heap env.locals:=lE.mpr ⟨ea,na⟩;replace this:=(el)▸this;refine(N' (a,o) ?_).1;rcases cD.mp this with z|z
   ·exact jv _ z
   ·rcases aH.mp z with z|z
    ·(injection z;subst_vars);exact absurd t2 nk
    ·exact gj _ (.tail _ z)
  have ne2:g.at_ k≠dx:=λq=>by rw[q,h2]at h1;cases h1
  have hat:h'.get? (g.at_ k)=some (instObj C dx):=by
   have na:g.at_ k≠env.locals:=λq=>by rw[q,t]at t1;contradiction
   have:(g.at_ k,instObj C dx)∈Gk s.heap env.locals:=lE.mpr ⟨h1,na⟩;replace this:=(el)▸this;refine(N' (g.at_ k,instObj C dx) ?_).1;rcases cD.mp this with z|z
   ·exact jv _ z
   ·rcases aH.mp z with z|z
    ·injection z with z;exact absurd z ne2
    ·exact gj _ (.tail _ z)
  have hdx:=(N' _ (gj pre (.head _))).1;obtain⟨ad,G'⟩:=stepK (h':=h') G t (kG e) (.obj c (setField ns ps x p).1 (setField ns ps x p).2) old ⟨m,hm,F'.ns⟩ (λa ta la=>by
    by_cases q1:a=dx
    ·subst q1;rw[hdx];rfl
    ·obtain⟨o,ho⟩:=dg.mp la;have na:a≠env.locals:=λq=>by rw[q,t]at ta;contradiction
     have:(a,o)∈Gk s.heap env.locals:=lE.mpr ⟨ho,na⟩;replace this:=(el)▸this;have:(a,o)∈pre++(dx,dictOf (putL (aa x) (PyData.keyHash P.w.params (aa x)) (.str (aa x) (s.toks+1)) v es) (putN (aa x) es i))::post:=by
      rcases cD.mp this with z|z
      ·exact jv _ z
      ·rcases aH.mp z with z|z
       ·(injection z;subst_vars);exact absurd rfl q1
       ·exact gj _ (.tail _ z)
     rw[(N' _ this).1];rfl)
   λad=>⟨t1,C,dx,_,_,vs',hC,t2,hat,hdx,f',r'.mono ad⟩
  exact hQ {s with heap:=h',toks:=s.toks+1+1} ad G' ⟨rfl,rfl,rfl⟩
end
open PySem PySem.W PyProof.Rows PySem.Calls
section
variable {P:PW} {cls:ag} {cf:String->List PV->MM PV} {W:Nat} {n:Nat×Nat} {sc:bD} {A:bd} {env:Env} {ρ:aE} {fr:List Env} {g g':Gh} {h h':Heap} {σ:ah} {L:Addr} {α β γ δ:Type}
theorem vZ {M':Program} {w:World} {l:Addr} {items:Array ag} {i:Nat} {k:Int} {t:Tok} {v:ag} {s:ak} {Q:Unit->ak->Prop} {E:ag->ak->Prop} (hl:s.heap.get? l=some {cls:=.type "list",data:=.seq items i})
  (h0:0<=k) (hfit:k<2^63) (hn:k<items.size)
  (hQ:Q () {s with heap:=s.heap.update l (Obj.mapSeq (·.setIfInBounds k.toNat v))}):wpAny (model M' w) A (setItem (.ref l) (.int k t) v) Q E s:=by
 have hL:s.heap.IsList l items:=⟨_,hl,rfl,i,rfl⟩;unfold setItem
 try with_reducible refine wpAny_holding ?_
 first|refine av (aG ?_)|skip
 refine av (wpAny_sequenceKey hL.typeIs (by decide) ?_);refine av (wpAny_callSpecial?_slot (name:=aa "__setitem__") hL.typeIs slot_list_setitem
  (wpAny_call_entry slot_list_setitem hL.typeIs entry_list_setitem ?_ (args_list_setitem _ _ _)))
 show wpAny _ _ (Builtin.List.listSubscript? (.int k t)>>=_) _ _ s;refine av (wpAny_listSubscript_int (fitsIndex_of h0 hfit) ?_);clear hfit;obtain⟨j,rfl⟩:=Int.eq_ofNat_of_zero_le h0;have hj:j<items.size:=bH 0x198181968641 hn;have hx':items[j]?=some items[j]:=vx hj;show wpAny _ _ ((seqItemAt l j>>=λr=>pure (r.map (j,·)))>>=_) _ _ s;refine av (av (wpAny_seqItemAt hl rfl (aG ?_)));refine hx'.symm▸?_;show wpAny _ _ (setSeqItemAt l j v>>=_) _ _ s;refine av (wpAny_setSeqItemAt hl rfl ?_)
 first
  |exact av (aG (aG ⟨.none,rfl,aG hQ⟩))
  |exact aG ⟨.none,rfl,aG hQ⟩
noncomputable def xx (P:PW) (cls:ag) (cf:String->List PV->MM PV) (n:Nat×Nat) (sc:bD) (t:ay) (mt:MT):Prop:=
 ∀(A:bd) (env:Env) (ρ:aE) (fr:List Env) (p:PV) (v:ag),env.scope=sc->jP A n fr->
  dD P cls A env ρ fr (λg h=>cR P g h p v) (eJ P A (assign t env v)) (MM.bind (iu cf ρ mt p) λf7=>MM.pure ((),f7)) (λö ö ö ö=>True)
theorem xx.name {x:Str} {pos:Pos} {y:String} (hx:x=aa y) (hk:sc.names.lookup x=some .local\/sc.names.lookup x=some .cell):xx P cls cf n sc (.Name x pos) (.var y):=by
 intro A env ρ fr p v hs _;subst hx;intro g σ s E G V F hO hp hb hE;have hk':env.kindOf (aa y)=some .local\/env.kindOf (aa y)=some .cell:=by
  rcases hk with hk|hk
  ·exact .inl (by rw[Env.kindOf,hs];exact hk)
  ·exact .inr (by rw[Env.kindOf,hs];exact hk)
 exact PyProof.Rows.assign_Name (oi G V hk' hp λs' ad G' V' sm=>⟨(),_,σ,g,rfl,ad,G',V',trivial,sm⟩)
theorem rh (B:cK P) (S:xd P) {ov p:PV} {w v:ag} {y:String} {aF:ah} {s:ak} {Q:Unit->ak->Prop} {E:ag->ak->Prop} (G:dq P g σ s.heap) (V:EnvRel P g s.heap env ρ) (ro:cR P g s.heap ov w) (rp:cR P g s.heap p v)
  (e:dC σ ov y p=some aF) (hQ:∀s',dX none g g s.heap s'.heap->dq P g aF s'.heap->fU s s'->Q () s'):wpAny (model P.prog P.w) A (setAttr w (aa y) v) Q E s:=by
 apply rD w ro e
 intro k _ e;refine lT e λc' hc e=>?_;refine fm hc λc hk hc=>?_
 induction c with
 |obj c ns ps=>
  refine mI hc λhy hc=>?_;cases hc
  subst e;exact v0 B S G V hk hy.1 hy.2 rp hQ
 |_=>exact nS hc
theorem xx.attr (B:cK P) (S:xd P) {o:ay} {mo:ME} {x:Str} {y:String} {pos:Pos} (hx:x=aa y) (ho:SE P cls cf n sc o mo):xx P cls cf n sc (.Attribute o x pos) (.attr mo y):=by
 intro A env ρ fr p v hs hA;subst hx;refine((dD.expr (U:=λov=>eJ P A (setAttr ov (aa y) v)) al (λö=>al) ((ho A env ρ fr hs hA).keep al dY) λov w=>?_).of λQ E s ö h=>kas_attr h).eq MM.bind_assoc;exact dD.store (o:=λσ=>dC σ ov y p) (b:=()) (λσ e=>by simp only[MM.bind,e]) (λσ aF e=>by simp only[MM.bind,e];rfl) λg σ s E Q aF G V hp e hQ=>
  rh B S G V.toEnvRel hp.1 hp.2 e λs' ad G' sm=>hQ _ s' ad G' trivial sm
theorem Gz {j:Int} {m:Nat} (h:j<m) (hm:m<=dm):j<2^63:=qU h (vC.mp (J0 (pq hm)))
theorem xx.idx {o i:ay} {mo mi:ME} {pos:Pos} (ho:SE P cls cf n sc o mo) (hi:SE P cls cf n sc i mi):xx P cls cf n sc (.Subscript o i pos) (.idx mo mi):=by
 intro A env ρ fr p v hs hA;refine((dD.expr (U:=λov Q E s=>eJ P A (eval i env) (λiv fw=>eJ P A (setItem ov iv v) Q E fw) E s) al (λö=>?_) ((ho A env ρ fr hs hA).keep al dY) λov w=>?_).of λQ E s ö h=>kas_sub h).eq MM.bind_assoc
 ·exact λQ Q' E s x y=>al _ _ _ _ (λö ö z=>al _ _ _ _ x z) y
 refine(dD.expr al (λö=>al) ((hi A env ρ fr hs hA).keep al (pa dY dY)) λiv wi=>?_).eq MM.bind_assoc;refine dD.store (o:=λσ=>oj σ ov iv p) (b:=()) (λσ e=>by simp only[MM.bind,e]) (λσ aF e=>by simp only[MM.bind,e];rfl) λg σ s E Q aF G V hp e hQ=>?_;obtain⟨ri,ro,rp⟩:=hp;apply rD w ro e
 intro k _ e;apply dJ wi ri e
 intro j tj e;refine fm e λl hk e=>?_;refine mI e λhc e=>?_;refine Mine.Internal.cps λζ κ=>?_;obtain⟨hk,vs,il,rs⟩:=kI G hk;obtain⟨i',ho'⟩:=id il;refine κ ?_;refine V.nsK λm hn=>?_;obtain⟨ad,G'⟩:=q8 (l':=l.set j.toNat p) (ws:=vs.set j.toNat v) G V.own ⟨m,hn⟩ hk (·.setIfInBounds j.toNat v) il (by simp) (rs.set _ rp)
 (injection e;subst_vars)
 exact vZ ho' hc.1 (Gz hc.2.1 hc.2.2) (show j<(vs.length:Int)from aU.length rs▸hc.2.1) (hQ _ {s with heap:=_} ad G' trivial ⟨rfl,rfl,rfl⟩)
theorem lH {t:ay} {value:ay} {pos:Pos} {Q:PySem.Flow->ak->Prop} {E:ag->ak->Prop} {s:ak} {M:Model}
  (h:wpAny M A (eval value env) (λv cg=>wpAny M A (assign t env v) (λö=>Q .next) E cg) E s)
  (hs:swapsWithSole [t] value pos.line env=pure false) (hw:swappedStores [t] value env=pure none) (ha:assignEach [t] env=[(false,assign t env)]):
  wpAny M A (exec (.Assign [t] value pos) env) Q E s:=by
 rw[exec_Assign];refine av (wpAny_standAt ?_);refine hs.symm▸?_;refine av (aG ?_);rw[if_neg (by decide)];refine av (aA h (λv cg cL=>?_) λö ö x=>x);refine hw.symm▸ha.symm▸?_;refine av (aG ?_);show wpAny M A (do assignAll v [assign t env];pure .next) Q E cg;exact av (aA cL (λö ö x=>aG x) λö ö x=>x)
theorem c5 (s:MS) (ρ:aE):c9 cf W [s] ρ=nB cf W s ρ:=by
 simp only[rZ,r8];funext σ;simp only[MM.bind];cases nB cf W s ρ σ with
 |ok r aF=>
  obtain⟨f,f7⟩:=r
  induction f<;>rfl
 |exc _=>rfl
 |bad=>rfl
theorem SS.asg {t value:ay} {mt:MT} {me:ME} {pos:Pos} (ht:xx P cls cf n sc t mt) (he:SE P cls cf n sc value me) (hs:∀env,env.scope=sc->swapsWithSole [t] value pos.line env=pure false)
  (hw:∀env,env.scope=sc->swappedStores [t] value env=pure none) (ha:∀env,assignEach [t] env=[(false,assign t env)]):SS P cls cf W n sc (.Assign [t] value pos) [.assign mt me]:=λA env ρ fr hsc hA=>by
 rw[c5];refine(dD.expr (U:=λv Q E s=>eJ P A (assign t env v) (λö=>Q .next) E s) al (λö=>?_) (he A env ρ fr hsc hA) λp v=>?_).of λQ E s ö h=>lH h (hs env hsc) (hw env hsc) (ha env)
 ·exact λQ Q' E s x y=>al _ _ _ _ (λö ö z=>x _ _ z) y
 ·skip;have e:(MM.bind (iu cf ρ mt p) λf7=>MM.pure (Mine.Internal.Flow.next,f7))=MM.bind (MM.bind (iu cf ρ mt p) λf7=>MM.pure ((),f7)) λr=>MM.pure (Mine.Internal.Flow.next,r.2):=by
   exact(MM.bind_assoc).symm▸rfl
  refine e.symm▸?_;refine dD.bind (U:=λö Q ö s=>Q PySem.Flow.next s) al (λö ö ö ö ö x y=>x PySem.Flow.next _ y) (ht A env ρ fr p v hsc hA) λö ö f7=>?_;exact dD.pure (a:=PySem.Flow.next) (λö ö ö q=>q) λö ö ö=>rfl
theorem SS.expr {e:ay} {me:ME} {pos:Pos} (he:SE P cls cf n sc e me) (hi:∀env,env.scope=sc->interactive env=false) (hs:∀env,swapsWith e none pos.line env=pure false):SS P cls cf W n sc (.Expr e pos) [.expr me]:=λA env ρ fr hsc hA=>by
 rw[c5];refine(dD.expr (U:=λö Q ö s=>Q .next s) al (λö ö ö ö ö x y=>x .next _ y) (he A env ρ fr hsc hA) λp v=>?_).of λQ E s ö h=>wpAny_Expr_any h (hi env hsc) (hs env);exact dD.pure (a:=PySem.Flow.next) (λö ö ö q=>q) λö ö ö=>rfl
theorem SS.ret {e:ay} {me:ME} {pos:Pos} (he:SE P cls cf n sc e me):SS P cls cf W n sc (.Return (some e) pos) [.ret me]:=λA env ρ fr hsc hA=>by
 rw[c5];refine(dD.expr (U:=λv Q ö s=>Q (.ret v) s) al (λö ö ö ö ö x y=>x (.ret _) _ y) (he A env ρ fr hsc hA) λp v=>?_).of λQ E s ö h=>wpAny_Return_some h;exact dD.pure (a:=PySem.Flow.ret v) (λö ö ö q=>q) λö ö r=>⟨v,rfl,r⟩
theorem SS.brk {pos:Pos}:SS P cls cf W n sc (.Break pos) [.brk]:=λA env ρ fr hsc hA=>by
 rw[c5];exact dD.pure (a:=PySem.Flow.brk) (λö ö ö q=>wpAny_Break q) λö ö ö=>rfl
theorem SS.ifs {test:ay} {a b:List eF} {mt:ME} {ma mb:List MS} {pos:Pos} (ht:ST P cls cf n sc test mt) (ha:xe P cls cf W n sc a ma) (hb:xe P cls cf W n sc b mb):SS P cls cf W n sc (.If test a b pos) [.ifs mt ma mb]:=λA env ρ fr hsc hA=>by
 rw[c5];refine(dD.expr (U:=λc Q E s=>if c=true then eJ P A (execs a env) Q E s else eJ P A (execs b env) Q E s) al (λc=>?_) (ht A env ρ fr hsc hA) λt c=>?_).of λQ E s ö h=>wpAny_If h
 ·intro Q Q' E s x y;cases c
  ·exact al _ _ _ _ x y
  ·exact al _ _ _ _ x y
 ·intro g σ s E G V F hO hp hb' hE;subst hp
  induction t with
  |true=>exact ha A env ρ fr hsc hA g σ s E G V F hO trivial hb' hE
  |false=>exact hb A env ρ fr hsc hA g σ s E G V F hO trivial hb' hE
theorem SS.aug (B:cK P) (S:xd P) {o e:ay} {mo me:ME} {x:Str} {y:String} {tpos pos:Pos} (hx:x=aa y) (ho:SE P cls cf n sc o mo) (he:SE P cls cf n sc e me):SS P cls cf W n sc (.AugAssign (.Attribute o x tpos) .Add e pos) [.aug mo y me]:=λA env ρ fr hsc hA=>by
 subst hx;rw[c5]
 let U3:ag->ag->ag->WT PySem.Flow:=λov old v Q E s=>eJ P A (inplaceOp .Add old v) (λnew lK=>eJ P A (setAttr ov (aa y) new) (λö=>Q .next) E lK) E s
 have m3:∀a b c,g0 (U3 a b c):=λa b c Q Q' E s x y=>al _ _ _ _ (λö ö z=>al _ _ _ _ (λö ö z=>x _ _ z) z) y;refine(dD.expr (U:=λov Q E s=>eJ P A (getAttr ov (aa y) true) (λold cx=>eJ P A (eval e env) (λv fw=>U3 ov old v Q E fw) E cx) E s) al (λov=>?_) (ho A env ρ fr hsc hA) λov w=>?_).of λQ E s ö h=>wpAny_AugAssign_AttributeAny h
 ·exact λQ Q' E s x y=>al _ _ _ _ (λö ö z=>al _ _ _ _ (λö ö z=>m3 _ _ _ _ _ _ _ x z) z) y
 refine dD.expr (U:=λold Q E s=>eJ P A (eval e env) (λv fw=>U3 w old v Q E fw) E s) al (λold=>?_) ((xa B).frame al (λg h=>cR P g h ov w) dY |>.conseq al (λö ö z=>⟨z,z⟩) λö ö ö ö z=>z) λold wold=>?_
 ·exact λQ Q' E s x y=>al _ _ _ _ (λö ö z=>m3 _ _ _ _ _ _ _ x z) y
 refine dD.expr al (λv=>m3 w wold v) ((he A env ρ fr hsc hA).keep al (pa dY dY)) λv wv=>?_;refine(dD.store (o:=λσ=>(BV old v).bind λr=>dC σ ov y r) (b:=Mine.Internal.Flow.next) (λσ e=>?_) (λσ aF e=>?_) λg σ s E Q aF G V hp e hQ=>?_)
 ·induction h:BV old v with
  |none=>rfl
  |some r=>rw[h]at e;simp only[MM.bind,bJ];rw[show dC σ ov y r=none from e]
 ·induction h:BV old v with
  |none=>rw[h]at e;contradiction
  |some r=>rw[h]at e;simp only[MM.bind,bJ];rw[show dC σ ov y r=some aF from e]
 refine fm e λr h e=>?_;apply dJ wold hp.2.1 h
 intro i t1 h;apply dJ wv hp.1 h
 intro j t2 h;exact PyProof.Rows.iadd_int (rh (s:={s with toks:=s.toks+1}) B S G V.toEnvRel hp.2.2 (Option.some.inj h▸⟨_,rfl⟩) e λs' ad G' sm=>hQ _ s' ad G' rfl ⟨sm.1,sm.2.1,sm.2.2⟩)
end
open PySem PySem.W PyProof.Rows PySem.Calls
section
variable {P:PW} {cls:ag} {cf:String->List PV->MM PV} {W:Nat} {n:Nat×Nat} {sc:bD} {A:bd} {env:Env} {ρ:aE} {fr:List Env} {g g':Gh} {h h':Heap} {σ:ah} {L:Addr} {α β γ δ:Type}
noncomputable def tz (P:PW) (cls:ag) (cf:String->List PV->MM PV) (n:Nat×Nat) (sc:bD) (ts:List ay) (mts:List MT):Prop:=
 ∀(A:bd) (env:Env) (ρ:aE) (fr:List Env) (ps:List PV) (vs:List ag),env.scope=sc->jP A n fr->ps.length=mts.length->
  dD P cls A env ρ fr (λg h=>aU P g h ps vs) (eJ P A (assignInOrder ((assignEach ts env).map (·.2)) vs)) (MM.bind (gi cf ρ mts ps) λf7=>MM.pure ((),f7)) (λö ö ö ö=>True)
theorem tz.nil:tz P cls cf n sc [] []:=λA env ρ fr ps vs ö ö hl=>by
 induction ps with
 |nil=>
  exact dD.pure (a:=()) (λö ö ö q=>assignInOrder_nil q) λö ö ö=>trivial
 |cons _ _=>contradiction
theorem dD.frame {Pre:Gh->Heap->Prop} {T:WT α} {m:MM (β×aE)} {R:Gh->Heap->β->α->Prop} (mo:g0 T) (X:Gh->Heap->Prop) (hX:∀M g g' h h',dX M g g' h h'->X g h->X g' h') (h:dD P cls A env ρ fr Pre T m R):
  dD P cls A env ρ fr (λg h=>Pre g h/\X g h) T m (λg h b a=>R g h b a/\X g h):=λg σ s E G V F hO hp hb hE=>
 mo _ _ E s (λ_ _ ⟨b,f7,aF,g',a1,a2,a3,a4,a5,a6⟩=>⟨b,f7,aF,g',a1,a2,a3,a4,⟨a5,hX _ _ _ _ _ a2 hp.2⟩,a6⟩) (h g σ s E G V F hO hp.1 hb hE)
theorem tz.cons {t:ay} {mt:MT} {ts:List ay} {mts:List MT} (h:xx P cls cf n sc t mt) (hs:tz P cls cf n sc ts mts) (he:∀env,assignEach (t::ts) env=(false,assign t env)::assignEach ts env):tz P cls cf n sc (t::ts) (mt::mts):=λA env ρ fr ps vs hsc hA hl=>by
 induction ps with
 |nil=>contradiction
 |cons p ps=>
  have hl':ps.length=mts.length:=by simpa using hl
  induction vs with
  |nil=>exact λg σ s E G V F hO hp=>aw hp
  |cons v vs=>
   have e:(MM.bind (gi cf ρ (mt::mts) (p::ps)) λf7=>MM.pure ((),f7))=MM.bind (MM.bind (iu cf ρ mt p) λf7=>MM.pure ((),f7)) λr=>MM.bind (gi cf r.2 mts ps) λf7=>MM.pure ((),f7):=by
    rw[MM.bind_assoc];exact MM.bind_assoc
   rw[e];refine(dD.bind (U:=λö=>eJ P A (assignInOrder ((assignEach ts env).map (·.2)) vs)) al (λö=>al) ((h A env ρ fr p v hsc hA).frame al (λg h=>aU P g h ps vs) (λö ö ö ö ö x r=>r.mono x) |>.conseq al (Pre':=λg h=>aU P g h (p::ps) (v::vs)) (λö ö z=>z) λö ö ö ö z=>z.2) λö ö f7=>hs A env f7 fr ps vs hsc hA hl').of λQ E s ö w=>?_;show wpAny _ _ (assignInOrder ((assignEach (t::ts) env).map (·.2)) (v::vs)) _ _ _;rw[he];exact assignInOrder_cons w
theorem pr {s:ak} {L:Addr} {m:Str->Option ag} (hn:s.heap.Ns L m) {h':Heap} (he:Heap.ExtBut s.heap.objs.size s.heap h'):Keeps L s.heap h':=
 .of_all hn λa o e=>he a o (dr (dn e)) e
theorem xx.tup {ts:List ay} {mts:List MT} {k:Nat} {pos:Pos} (hs:tz P cls cf n sc ts mts) (hl:∀env,(assignEach ts env).length=mts.length) (hstar:∀env,(assignEach ts env).findIdx? (·.1)=none):xx P cls cf n sc (.Tuple ts k pos) (.tup mts):=by
 intro A env ρ fr p v hsc hA g σ s E G V F hO hp hb hE;cases p with
 |tup ps=>
  have e0:iu cf ρ (.tup mts) (.tup ps)=if ps.length=mts.length then gi cf ρ mts ps else MM.bad:=rfl
  rw[e0]at hb hE⊢;by_cases hlen:ps.length=mts.length
  ·rw[if_pos hlen]at hb hE⊢;obtain⟨a,vs,rfl,_,it,rs⟩:=hp;refine V.nsK λm hn=>?_;refine assign_Tuple_tuple hA.handled it (by rw[hl,bE,<-aU.length rs,hlen]) (hstar env) λh' he=>?_;obtain⟨ad,G'⟩:=lO G V.own (pr hn he);refine al _ _ _ _ (λ_ s' ⟨b,f7,aF,g',a1,a2,a3,a4,a5,a6⟩=>⟨b,f7,aF,g',a1,ad.weaken.trans a2,a3,a4,a5,⟨a6.1,a6.2.1,a6.2.2⟩⟩) (hs A env ρ fr ps vs hsc hA hlen g σ {s with heap:=h'} E G' (V.mono ad) (F.mono ad) hO (rs.mono ad) hb λe s' g' aF q ad' G' X sm=>hE e s' g' aF q (ad.weaken.trans ad') G' X ⟨sm.1,sm.2.1,sm.2.2⟩)
  ·rw[if_neg hlen]at hb;exact absurd rfl hb
 |_=>exact absurd rfl hb
theorem Em {ts:List ay} {k:Nat} {tpos pos:Pos} {value:ay} {names:List Str} {Q:PySem.Flow->ak->Prop} {E:ag->ak->Prop} {s:ak} {M:Model}
  (h:wpAny M A (eval value env) (λv cg=>wpAny M A (unpackItems v names.length none) (λitems cx=>wpAny M A (assignInOrder (names.reverse.map λn=>bindName env n) items.reverse) (λö=>Q .next) E cx) E cg) E s)
  (hs:swapsWithSole [.Tuple ts k tpos] value pos.line env=pure false) (hw:swappedStores [.Tuple ts k tpos] value env=pure (some names)):wpAny M A (exec (.Assign [.Tuple ts k tpos] value pos) env) Q E s:=
 Assign_Tuple_swapped h hs hw
theorem E5 {t:Addr} {vs:List ag} {k:Nat} {s:ak} {Q:List ag->ak->Prop} {E:ag->ak->Prop} (hA:jP A n fr) (ht:IsTup s.heap t vs.toArray) (hk:k=vs.length)
  (hQ:∀h',Heap.ExtBut s.heap.objs.size s.heap h'->Q vs {s with heap:=h'}):wpAny (model P.prog P.w) A (unpackItems (.ref t) k none) Q E s:=by
 have e:k=vs.toArray.size:=hk.symm▸bE.symm▸rfl;refine e.symm▸?_;exact unpackItems_tuple hA.handled ht hQ
theorem Ej {Q:Unit->ak->Prop} {E:ag->ak->Prop} {ns:List String} (hk:∀x∈ns,env.kindOf (aa x)=some .local):∀{ps:List PV} {vs:List ag} {ρ:aE} {s:ak},ps.length=ns.length->dq P g σ s.heap->iO P g s.heap env ρ->aU P g s.heap ps vs->
  (∀s',dX (some env.locals) g g s.heap s'.heap->dq P g σ s'.heap->iO P g s'.heap env (fY ρ (ns.zip ps))->fU s s'->Q () s')->wpAny (model P.prog P.w) A (assignInOrder (ns.map λx=>bindName env (aa x)) vs) Q E s:=by
 induction ns with
 |nil=>
  intro ps vs ρ s hl G V r hQ;cases ps with
  |nil=>exact assignInOrder_nil (hQ s (.refl ..) G V (.refl s))
  |cons _ _=>contradiction
 |cons x ns ih=>
  intro ps vs ρ s hl G V r hQ;cases ps with
  |nil=>contradiction
  |cons p ps=>cases vs with
   |nil=>exact aw r
   |cons v vs=>
    exact assignInOrder_cons (wpAny_bindName (oi G V (.inl (hk x (.head _))) r.1 λcg kR gW l5 kc=>ih (λy hy=>hk y (.tail _ hy)) (Nat.succ.inj hl) gW l5 (r.2.mono kR) λs' ad G' V' sm=>hQ s' (kR.trans ad) G' V' (kc.trans sm)))
theorem tv:∀{ns:List String} {ps:List PV} {ρ:aE},ps.length=ns.length->gi cf ρ (ns.map .var) ps=MM.pure (fY ρ (ns.zip ps)):=by
 intro ns
 induction ns with
 |nil=>
  intro ps ρ hl
  induction ps with
  |nil=>rfl
  |cons _ _=>contradiction
 |cons x ns ih=>
  intro ps ρ hl
  induction ps with
  |nil=>contradiction
  |cons p ps=>exact ih (ρ:=ig ρ x p) (Nat.succ.inj hl)
theorem uA (z:String) (l:List (String×PV)):∀ρ:aE,(l.map (·.1)).Nodup->(fY ρ l).lookup z=(l.lookup z).or (ρ.lookup z):=by
 induction l with
 |nil=>exact λö ö=>rfl
 |cons p l ih=>
  intro ρ nd;obtain⟨h1,h2⟩:=tF.mp nd;refine(ih (ig ρ p.1 p.2) h2).trans ?_;rw[fR,aW];by_cases q:z=p.1
  ·have:l.lookup z=none:=List.lookup_eq_none_iff.mpr λa ha=>by
    have:z≠a.1:=λe=>h1 (by show p.1∈_;rw[<-q,e];exact List.mem_map_of_mem ha);simpa using this
   exact(if_pos q).symm▸this.symm▸(beq_iff_eq.mpr q).symm▸rfl
  ·exact(if_neg q).symm▸(beq_eq_false_iff_ne.mpr q).symm▸rfl
theorem uB (z:String) (l:List (String×PV)) (ρ:aE):(fY ρ l.reverse).lookup z=(l.lookup z).or (ρ.lookup z):=by
 unfold fY;refine(List.foldl_reverse).symm▸?_
 induction l with
 |nil=>rfl
 |cons p l ih=>
  refine(fR ..).trans ?_;rw[ih,aW];by_cases q:z=p.1
  ·exact(if_pos q).symm▸(beq_iff_eq.mpr q).symm▸rfl
  ·exact(if_neg q).symm▸(beq_eq_false_iff_ne.mpr q).symm▸rfl
theorem SS.asgSw {ts:List ay} {k:Nat} {tpos pos:Pos} {value:ay} {ns:List String} {me:ME} (nd:ns.Nodup) (he:SE P cls cf n sc value me) (hk:∀x∈ns,sc.names.lookup (aa x)=some .local)
  (hs:∀env,env.scope=sc->swapsWithSole [.Tuple ts k tpos] value pos.line env=pure false) (hw:∀env,env.scope=sc->swappedStores [.Tuple ts k tpos] value env=pure (some (ns.map aa))):
  SS P cls cf W n sc (.Assign [.Tuple ts k tpos] value pos) [.assign (.tup (ns.map .var)) me]:=λA env ρ fr hsc hA=>by
 rw[c5];refine(dD.expr (U:=λv Q E s=>eJ P A (unpackItems v (ns.map aa).length none) (λitems cx=>eJ P A (assignInOrder ((ns.map aa).reverse.map λn=>bindName env n) items.reverse) (λö=>Q .next) E cx) E s) al (λv=>?_) (he A env ρ fr hsc hA) λp v=>?_).of λQ E s ö h=>Em h (hs env hsc) (hw env hsc)
 ·exact λQ Q' E s x y=>al _ _ _ _ (λö ö z=>al _ _ _ _ (λö ö z=>x _ _ z) z) y
 intro g σ s E G V F hO hp hb hE;cases p with
 |tup ps=>
  by_cases hl:ps.length=(ns.map MT.var).length
  ·have em:MM.bind (iu cf ρ (.tup (ns.map .var)) (.tup ps)) (λf7=>MM.pure (Mine.Internal.Flow.next,f7)) σ=.ok (.next,fY ρ (ns.zip ps)) σ:=by
    show MM.bind (if ps.length=(ns.map MT.var).length then gi cf ρ (ns.map .var) ps else MM.bad) _ σ=_;exact(if_pos hl).symm▸(tv (hl.trans (ar ..))).symm▸rfl
   have hl:ps.length=ns.length:=hl.trans (ar ..);obtain⟨a,vs,q,_,it,rs⟩:=hp;refine V.nsK λm hn=>?_;refine q.symm▸?_;refine E5 hA it (by rw[ar,<-hl,aU.length rs]) λh' hext=>?_;obtain⟨ad,G'⟩:=lO G V.own (pr hn hext);refine Hq▸(eB).symm▸?_;refine Ej (ns:=ns.reverse) (ps:=ps.reverse) (vs:=vs.reverse) (s:={s with heap:=h'}) (λx hx=>by rw[Env.kindOf,hsc];exact hk x (jd.mp hx)) (by rw[cz,cz,hl]) G' (V.mono ad) (rs.mono ad).reverse λs' ad' hV lZ sm=>?_;refine⟨.next,_,σ,g,em,ad.weaken.trans ad',hV,lZ.ext λz=>?_,rfl,⟨sm.1,sm.2.1,sm.2.2⟩⟩;rw[uA z _ _ ((List.map_fst_zip (bZ hl.symm)).symm▸nd),List.zip_eq_zipWith (l₁:=ns.reverse),<-List.reverse_zipWith hl.symm,uB];rfl
  ·refine absurd ?_ hb;show MM.bind (if ps.length=(ns.map MT.var).length then gi cf ρ (ns.map .var) ps else MM.bad) _ σ=_;exact(if_neg hl).symm▸rfl
 |_=>exact absurd rfl hb
theorem SS.asgSw2 {ts:List ay} {k:Nat} {tpos pos:Pos} {value:ay} {x y:Str} {x' y':String} {me:ME} (hx:x=aa x') (hy:y=aa y') (hne:x'≠y') (he:SE P cls cf n sc value me)
  (hkx:sc.names.lookup x=some .local) (hky:sc.names.lookup y=some .local)
  (hs:∀env,env.scope=sc->swapsWithSole [.Tuple ts k tpos] value pos.line env=pure false) (hw:∀env,env.scope=sc->swappedStores [.Tuple ts k tpos] value env=pure (some [x,y])):
  SS P cls cf W n sc (.Assign [.Tuple ts k tpos] value pos) [.assign (.tup [.var x',.var y']) me]:=by
 subst hx hy;exact SS.asgSw (ns:=[x',y']) (by simp[hne]) he (bo.mpr ⟨hkx,bo.mpr ⟨hky,nofun⟩⟩) hs hw
theorem SS.asgSw3 {ts:List ay} {k:Nat} {tpos pos:Pos} {value:ay} {x y z:Str} {x' y' z':String} {me:ME} (hx:x=aa x') (hy:y=aa y') (hz:z=aa z') (h1:x'≠y') (h2:x'≠z') (h3:y'≠z') (he:SE P cls cf n sc value me)
  (hkx:sc.names.lookup x=some .local) (hky:sc.names.lookup y=some .local) (hkz:sc.names.lookup z=some .local)
  (hs:∀env,env.scope=sc->swapsWithSole [.Tuple ts k tpos] value pos.line env=pure false) (hw:∀env,env.scope=sc->swappedStores [.Tuple ts k tpos] value env=pure (some [x,y,z])):
  SS P cls cf W n sc (.Assign [.Tuple ts k tpos] value pos) [.assign (.tup [.var x',.var y',.var z']) me]:=by
 subst hx hy hz;exact SS.asgSw (ns:=[x',y',z']) (by simp[h1,h2,h3]) he (bo.mpr ⟨hkx,bo.mpr ⟨hky,bo.mpr ⟨hkz,nofun⟩⟩⟩) hs hw
end
open PySem PySem.W PyProof.Rows PySem.Calls
section
variable {P:PW} {cls:ag} {cf:String->List PV->MM PV} {W:Nat} {n:Nat×Nat} {sc:bD} {A:bd} {env:Env} {ρ:aE} {fr:List Env} {g g' fG:Gh} {h h' h₀:Heap} {σ:ah} {L:Addr} {α β γ δ:Type}
noncomputable def Gh.unpin (g:Gh) (X:List Addr):Gh:={g with tag:=λa=>if a∈X then .free else g.tag a}
theorem mW {X:List Addr} (a:Addr):(g.unpin X).tag a=.free\/(g.unpin X).tag a=g.tag a:=by
 unfold Gh.unpin;simp only[];split
 ·exact .inl rfl
 ·exact .inr rfl
theorem bI {X:List Addr} (hX:∀a∈X,g.tag a=.pin) {a:Addr} (h:g.tag a≠.pin):(g.unpin X).tag a=g.tag a:=by
 unfold Gh.unpin;simp only[];exact(if_neg λq=>h (hX a q)).symm▸rfl
theorem Cp {X:List Addr} {a:Addr} {t:lQ} (ht:t≠.free) (e:(g.unpin X).tag a=t):g.tag a=t:=by
 rcases mW (g:=g) (X:=X) a with q|q
 ·rw[q]at e;exact absurd e.symm ht
 ·rw[<-q];exact e
mutual
theorem cR.unpin {X:List Addr} (hX:∀a∈X,g.tag a=.pin):∀{p:PV} {v:ag},cR P g h p v->cR P (g.unpin X) h p v
 |.none,_,r=>r
 |.bool _,_,r=>r
 |.int _,_,r=>r
 |.str _,_,r=>r
 |.loc _,_,r=>r
 |.tup l,v,r=>by
  obtain⟨a,vs,e,t,i,rs⟩:=r;exact⟨a,vs,e,(bI hX (fN t rfl)).trans t,i,aU.unpin hX rs⟩
 |.list l,v,r=>by
  obtain⟨a,vs,e,t,i,rs⟩:=r;exact⟨a,vs,e,(bI hX (fN t rfl)).trans t,i,aU.unpin hX rs⟩
 |.arg l,v,r=>by
  obtain⟨a,vs,e,t,i,rs⟩:=r;exact⟨a,vs,e,(bI hX (fN t rfl)).trans t,i,aU.unpin hX rs⟩
 |.obj c ns ps,v,r=>by
  obtain⟨a,C,dx,es,n,vs,e,hc,t1,t2,h1,h2,f,rs⟩:=r;exact⟨a,C,dx,es,n,vs,e,hc,(bI hX (fN t1 rfl)).trans t1,(bI hX (fN t2 rfl)).trans t2,h1,h2,f,aU.unpin hX rs⟩
theorem aU.unpin {X:List Addr} (hX:∀a∈X,g.tag a=.pin):∀{ps:List PV} {vs:List ag},aU P g h ps vs->aU P (g.unpin X) h ps vs
 |[],[],_=>trivial
 |p::ps,v::vs,r=>by
  exact⟨cR.unpin hX r.1,aU.unpin hX r.2⟩
 |[],_::_,r=>aw r
 |_::_,[],r=>aw r
end
theorem dq.unpin {X:List Addr} (hX:∀a∈X,g.tag a=.pin) (G:dq P g σ h):dq P (g.unpin X) σ h where
 base a o e:=let⟨x,y⟩:=G.base a o e;⟨x,(bI hX (fN y rfl)).trans y⟩
 n:=G.n
 cells:=λj c e=>by
  have r:=G.cells j c e
  induction c with
  |dead=>exact trivial
  |list _=>
   obtain⟨t1,vs,il,rs⟩:=r;have t1':(g.unpin X).tag (g.at_ j)=.sto j:=(bI hX (fN t1 rfl)).trans t1;exact⟨t1',vs,il,rs.unpin hX⟩
  |obj _ _ _=>
   obtain⟨t1,C,dx,es,m,vs,hC,t2,h1,h2,f,rs⟩:=r;have t1':(g.unpin X).tag (g.at_ j)=.sto j:=(bI hX (fN t1 rfl)).trans t1;exact⟨t1',C,dx,es,m,vs,hC,(bI hX (fN t2 rfl)).trans t2,h1,h2,f,rs.unpin hX⟩
 live a ha:=G.live a λq=>ha (by
  rcases mW (g:=g) (X:=X) a with z|z
  ·exact z
  ·exact z.symm▸q)
 frm a M e:=let⟨x,y⟩:=G.frm a M (Cp (by simp) e);⟨(bI hX (fN x rfl)).trans x,y⟩
theorem EnvRel.unpin {X:List Addr} (hX:∀a∈X,g.tag a=.pin) (V:EnvRel P g h env ρ):EnvRel P (g.unpin X) h env ρ where
 fn:=V.fn
 has:=V.has
 gl:=V.gl
 bi:=V.bi
 tag:=let⟨M,t⟩:=V.tag;⟨M,(bI hX (fN t rfl)).trans t⟩
 ns:=let⟨m,hn,hv⟩:=V.ns;⟨m,hn,λx p e k=>let⟨v,e1,r⟩:=hv x p e k;⟨v,e1,r.unpin hX⟩⟩
 cel:=λx p e k=>let⟨c,v,e1,⟨M,t⟩,e2,r⟩:=V.cel x p e k;⟨c,v,e1,⟨M,(bI hX (fN t rfl)).trans t⟩,e2,r.unpin hX⟩
theorem iO.unpin {X:List Addr} (hX:∀a∈X,g.tag a=.pin) (V:iO P g h env ρ):iO P (g.unpin X) h env ρ where
 toEnvRel:=V.toEnvRel.unpin hX
 own:=(bI hX (fN V.own rfl)).trans V.own
 cells:=λy c e=>let⟨a,b,v,d⟩:=V.cells y c e;⟨(bI hX (fN a rfl)).trans a,b,v,d⟩
 sep:=V.sep
 nofree:=V.nofree
theorem dc.unpin {X:List Addr} (hX:∀a∈X,g.tag a=.pin) (F:dc g h fr):dc (g.unpin X) h fr:=λenv he=>by
 obtain⟨k,L,hf,t⟩:=F env he;exact⟨k,L,hf,(bI hX (fN t rfl)).trans t⟩
theorem dX.unpin {X:List Addr} {M:Option Addr} (hX:∀a∈X,g.tag a=.pin) (hf:∀a∈X,fG.tag a=.free) (x:dX M fG g h₀ h):dX M fG (g.unpin X) h₀ h:=by
 have key:∀a,fG.tag a≠.free->(g.unpin X).tag a=g.tag a:=λa ha=>by
  unfold Gh.unpin;simp only[];rw[if_neg λq=>ha (hf a q)]
 exact{
  nle:=x.nle
  ateq:=x.ateq
  tag:=λa h1 h2=>(key a h1).trans (x.tag a h1 h2)
  tagS:=λa k e=>(key a (fN e rfl)).symm▸(x.tagS a k e)
  fix:=x.fix
  frm:=x.frm}
noncomputable def Gh.pin (g:Gh) (X:List Addr):Gh:={g with tag:=λa=>if a∈X then .pin else g.tag a}
theorem qF {X:List Addr} {a:Addr} (ha:a∈X):(g.pin X).tag a=.pin:=if_pos ha
theorem mY {X:List Addr} {a:Addr} (ha:a∉X):(g.pin X).tag a=g.tag a:=if_neg ha
theorem mC {X:List Addr} (hX:∀a∈X,g.tag a=.free/\(h.get? a).isSome=true) (G:dq P g σ h):dX none g (g.pin X) h h/\dq P (g.pin X) σ h:=by
 have key:∀a,g.tag a≠.free->(g.pin X).tag a=g.tag a:=λa ha=>mY λq=>ha (hX a q).1;have AD:dX none g (g.pin X) h h:={
  nle:=au _
  ateq:=λö ö=>rfl
  tag:=λa h1 ö=>key a h1
  tagS:=λa k e=>.inl ((key a (fN e rfl)).trans e)
  fix:=λö ö e ö=>e
  frm:=λa ö ö ö=>.refl h a}
 refine⟨AD,G.of AD G.n (λj c e=>(G.cells j c e).mono AD ⟨rfl,λa t=>(key a (fN t rfl)).trans t,λö ö ö e=>e⟩) (λa ha=>?_) λa M e=>?_⟩
 ·by_cases q:a∈X
  ·exact(hX a q).2
  ·rw[mY q]at ha;exact G.live a ha
 ·by_cases q:a∈X
  ·rw[qF q]at e;contradiction
  ·rw[mY q]at e;obtain⟨e1,r⟩:=G.frm a M e;exact⟨AD.tagF e1,r⟩
noncomputable def zo (P:PW) (A:bd) (target:ay) (it:ag):WT (Option ag):=λQ E s=>
 wpAny (model P.prog P.w) A (pyNext it) (λr cg=>match r with
  |none=>Q none cg
  |some v=>wpAny (model P.prog P.w) A (letOwnedTupleGo target it v) (λö cx=>Q (some v) cx) E cg) E s
structure mR (P:PW) (A:bd) (target:ay) (it:ag) (items:List PV) (X:List Addr) (St:Nat->Gh->Heap->Prop):Prop where
 stays:∀i M g g' h h',dX M g g' h h'->(∀a∈X,g.tag a=.pin)->St i g h->St i g' h'
 forget:∀i (g:Gh) h Y,(∀a∈Y,g.tag a=.pin)->St i g h->St i (g.unpin Y) h
 next:∀i p,items[i]?=some p->∀(g:Gh) (σ:ah) (s:ak) (L M:Addr) (m:Str->Option ag) (Q:Option ag->ak->Prop) (E:ag->ak->Prop),dq P g σ s.heap->g.tag L=.frm M->s.heap.Ns L m->(∀a∈X,g.tag a=.pin)->St i g s.heap->
  (∀v s' g',dX none (g.unpin X) g' s.heap s'.heap->dq P g' σ s'.heap->(∀a∈X,g'.tag a=.pin)->St (i+1) g' s'.heap->cR P g' s'.heap p v->fU s s'->Q (some v) s')->zo P A target it Q E s
 done:∀(g:Gh) (σ:ah) (s:ak) (L M:Addr) (m:Str->Option ag) (Q:Option ag->ak->Prop) (E:ag->ak->Prop),dq P g σ s.heap->g.tag L=.frm M->s.heap.Ns L m->(∀a∈X,g.tag a=.pin)->St items.length g s.heap->
  (∀s' g',dX none (g.unpin X) g' s.heap s'.heap->dq P g' σ s'.heap->fU s s'->Q none s')->zo P A target it Q E s
 self:∀i (g:Gh) (s:ak) (Q:ag->ak->Prop) (E:ag->ak->Prop),St i g s.heap->Q it s->wpAny (model P.prog P.w) A (pyIter it) Q E s
theorem zw {X:List Addr} (G:dq P g σ h) {M:Addr} {m:Str->Option ag} (tL:g.tag L=.frm M) (hn:h.Ns L m) (hX:∀a∈X,g.tag a=.pin) (hk:∀b o,b∉X->h.get? b=some o->h'.get? b=some o)
  (lv:∀a∈X,(h'.get? a).isSome=true) (T:List Addr) (hT:∀a∈T,h.get? a=none/\(h'.get? a).isSome=true):
  ∃g',dX none (g.unpin X) g' h h'/\dq P g' σ h'/\(∀a∈X,g'.tag a=.pin)/\(∀a∈T,g'.tag a=.frz):=by
 have tL':(g.unpin X).tag L=.frm M:=(bI hX (fN tL rfl)).trans tL;have LI:L∉X:=λq=>by have:=hX L q;rw[tL]at this;contradiction
 have hn':h'.Ns L m:=hn.at' λo e=>hk L o LI e;obtain⟨ad,G'⟩:=Ac (h':=h') (G.unpin hX) tL' (λa o ö ha e=>hk a o (λq=>ha (if_pos q)) e) ⟨m,hn,hn'⟩ (T.map λa=>(a,.frz)) (λp hp=>by
  obtain⟨a,ha,rfl⟩:=bv.mp hp;refine⟨?_,(hT a ha).2⟩;rcases mW (g:=g) (X:=X) a with q|q
  ·exact q
  ·exact q.symm▸G.free (hT a ha).1) (by simp)
 have XT:∀a∈X,a∉T:=λa ha q=>by
  have l:=G.live a (by rw[hX a ha];simp);rw[(hT a q).1]at l;contradiction
 have free:∀a∈X,((g.unpin X).puts (T.map λa=>(a,lQ.frz))).tag a=.free:=λa ha=>by
  rw[Gh.puts_other _ _ a λp hp q=>by
   obtain⟨b,hb,rfl⟩:=bv.mp hp;exact XT a ha (q▸hb)]
  exact if_pos ha
 obtain⟨ad2,G2⟩:=mC (X:=X) (λa ha=>⟨free a ha,lv a ha⟩) G';refine⟨_,ad.trans ad2,G2,λa ha=>qF ha,λa ha=>?_⟩;have nx:a∉X:=λq=>XT a q ha;refine(mY nx).symm▸?_;rcases Gh.puts_cases (T.map λa=>(a,lQ.frz)) (g.unpin X) a with q|q
 ·obtain⟨b,_,e⟩:=bv.mp q;injection e with _ e;exact e.symm
 ·exfalso;have key:∀(T:List Addr) (g:Gh),a∈T->(g.puts (T.map λa=>(a,lQ.frz))).tag a=.frz:=by
   intro T
   induction T with
   |nil=>exact λö h=>nomatch h
   |cons b T ih=>
    intro g ha;simp only[bq,Gh.puts_n,Gh.puts_c];by_cases z:a∈T
    ·exact ih _ z
    ·rw[Gh.puts_other _ _ a λp hp q=>by
      obtain⟨c,hc,rfl⟩:=bv.mp hp;exact z (q▸hc)]
     rcases aH.mp ha with w|w
     ·subst w;simp[Gh.put]
     ·exact absurd w z
  have k1:=key T (g.unpin X) ha;replace k1:=(q)▸k1;rcases mW (g:=g) (X:=X) a with z|z
  ·rw[z]at k1;contradiction
  ·replace k1:=(z)▸k1;have:=G.free (hT a ha).1;rw[this]at k1;contradiction
theorem q9 {X:List Addr} (G:dq P g σ h) {M:Addr} {m:Str->Option ag} (tL:g.tag L=.frm M) (hn:h.Ns L m) (hX:∀a∈X,g.tag a=.pin) (hk:∀b o,b∉X->h.get? b=some o->h'.get? b=some o):
  dX none (g.unpin X) (g.unpin X) h h'/\dq P (g.unpin X) σ h':=
 Ac (h':=h') (G.unpin hX) ((bI hX (fN tL rfl)).trans tL) (λa o ö ha e=>hk a o (λq=>ha (if_pos q)) e) ⟨m,hn,hn.at' λo e=>hk L o (λq=>by have:=hX L q;rw[tL]at this;contradiction) e⟩ [] nofun nofun
theorem Bt (hA:jP A n fr) {target:ay} {I ax:Addr} {items:List PV} {vs:List ag} (hne:ax≠I) (ht:∀v,letOwnedTupleGo target (.ref I) v=pure ()
  \/∀(s:ak),(∃i,s.heap.IsListIter I ax i)->∀(M:Model) (A:bd) (Q:Unit->ak->Prop) (E:ag->ak->Prop),Q () s->wpAny M A (letOwnedTupleGo target (.ref I) v) Q E s):
  mR P A target (.ref I) items [I] (λi g h=>h.IsListIter I ax i/\g.tag ax=.frz/\h.IsList ax vs.toArray/\aU P g h items vs) where
 stays:=λi M g g' h h' ad hX pz=>by
  obtain⟨s1,s2,s3,s4⟩:=pz;refine⟨?_,ad.tagZ s2,?_,s4.mono ad⟩
  ·exact s1.at λo e=>ad.fix _ o e (.inr (.inr (hX I (.head _))))
  ·exact s3.at λo e=>ad.fixZ e s2
 forget:=λi g h Y hY ⟨s1,s2,s3,s4⟩=>⟨s1,(bI hY (fN s2 rfl)).trans s2,s3,s4.unpin hY⟩
 next:=λi p hp g σ s L M m Q E G tL hn hX pz hQ=>by
  refine Mine.Internal.cps λζ κ=>?_;obtain⟨s1,s2,s3,s4⟩:=pz;have hi:i<vs.toArray.size:=by
   exact(bE).symm▸(aU.length s4)▸(ao.mp hp).1
  obtain⟨v,hv,rv⟩:=s4.get hp;refine κ ?_;refine(Walks.list hA.handled I ax hne vs.toArray).item i s _ _ hi ⟨s1,s3⟩ λv' h' tk hv' st' hk=>?_;have e:v=v':=Option.some.inj (hv.symm.trans (show vs[i]?=some v' by simpa using hv'));obtain⟨g',ad,G',hX',_⟩:=zw (h':=h') G tL hn hX hk (λa ha=>by
   obtain⟨o,ho,_⟩:=st'.1;rw[aC.mp ha,ho];rfl) [] nofun
  have done:=hQ v' {s with heap:=h',toks:=tk} g' ad G' hX' ⟨st'.1,ad.tagZ ((bI hX (fN s2 rfl)).trans s2),st'.2,(s4.unpin hX).mono ad⟩ (e▸(rv.unpin hX).mono ad) ⟨rfl,rfl,rfl⟩;rcases ht v' with e|e
  ·exact Hs e done
  ·exact e _ ⟨_,st'.1⟩ _ _ _ _ done
 done:=λg σ s L M m Q E G tL hn hX pz hQ=>by
  obtain⟨s1,s2,s3,s4⟩:=pz;refine(Walks.list hA.handled I ax hne vs.toArray).done s _ _ (bE.symm▸(aU.length s4)▸(⟨s1,s3⟩)) λh' tk hk=>?_;obtain⟨ad,G'⟩:=q9 (h':=h') G tL hn hX hk;exact hQ {s with heap:=h',toks:=tk} _ ad G' ⟨rfl,rfl,rfl⟩
 self:=λi g s Q E ⟨s1,_⟩ hQ=>wpAny_pyIter_listiter s1 hQ
end
open PySem PySem.W PyProof.Rows PySem.Calls
section
variable {P:PW} {cls:ag} {cf:String->List PV->MM PV} {W:Nat} {n:Nat×Nat} {sc:bD} {A:bd} {env:Env} {ρ:aE} {fr:List Env} {g g' fG:Gh} {h h' h₀:Heap} {σ:ah} {L:Addr} {α β γ δ:Type}
theorem rR {target:ay} {I:Addr} {items:List PV} {Pv:Nat->ag->Prop} {S':Nat->Heap->Prop} (Wk:Walks P.prog P.w A I [I] [I] items.length Pv S') (hex:∀i h,S' i h->(h.get? I).isSome=true)
  (hP:∀i v p,items[i]?=some p->Pv i v->∀g h,cR P g h p v) (ht:∀i (s:ak) v,S' i s.heap->∀(M:Model) (A:bd) (Q:Unit->ak->Prop) (E:ag->ak->Prop),Q () s->wpAny M A (letOwnedTupleGo target (.ref I) v) Q E s):
  mR P A target (.ref I) items [I] (λi ö h=>S' i h) where
 stays:=λi M g g' h h' ad hX st=>Wk.frame i h h' st λb hb o e=>ad.fix b o e (.inr (.inr (hX b hb)))
 forget:=λö ö ö ö ö st=>st
 next:=λi p hp g σ s L M m Q E G tL hn hX st hQ=>by
  refine Wk.item i s _ _ ((ao.mp hp).1) st λv h' tk hv st' hk=>?_;obtain⟨g',ad,G',hX',_⟩:=zw (h':=h') G tL hn hX hk (λa ha=>by
   rcases aC.mp ha with rfl
   exact hex _ _ st') [] (by simp)
  exact ht _ {s with heap:=h',toks:=tk} v st' _ _ _ _ (hQ v {s with heap:=h',toks:=tk} g' ad G' hX' st' (hP i v p hp hv _ _) ⟨rfl,rfl,rfl⟩)
 done:=λg σ s L M m Q E G tL hn hX st hQ=>by
  refine Wk.done s _ _ st λh' tk hk=>?_;obtain⟨ad,G'⟩:=q9 (h':=h') G tL hn hX hk;exact hQ {s with heap:=h',toks:=tk} _ ad G' ⟨rfl,rfl,rfl⟩
 self:=λi g s Q E st hQ=>Wk.self i s Q E st hQ
noncomputable def SI (P:PW) (cls:ag) (cf:String->List PV->MM PV) (n:Nat×Nat) (sc:bD) (target iter:ay) (kind:String) (mit:ME):Prop:=
 ∀(A:bd) (env:Env) (ρ:aE) (fr:List Env),env.scope=sc->jP A n fr->
  aQ P cls env ρ fr (λö ö=>True) (λQ E s=>eJ P A (eval iter env) (λx cg=>eJ P A (pyIter x) Q E cg) E s) (MM.bind (bu cf ρ mit) λv=>bJ (pU kind v))
   (λg h l itv=>∃X St,mR P A target itv l X St/\(∀a∈X,g.tag a=.free/\(h.get? a).isSome=true)/\St 0 (g.pin X) h)
theorem uS {target:ay} {I:Addr} {o:Obj} {T:String} {fs:Array ag} {v:ag} {s:ak} {M:Model} {Q:Unit->ak->Prop} {E:ag->ak->Prop} (ho:s.heap.get? I=some o) (hc:o.cls=.type T) (hd:o.data=.fields fs)
  (hT:["enumerate","zip","dict_itemiterator","dict_reverseitemiterator","odict_iterator","itertools.zip_longest","itertools.pairwise"].contains T=false) (hQ:Q () s):wpAny M A (letOwnedTupleGo target (.ref I) v) Q E s:=by
 have tup:∀(ts:List ay) (k:Nat) (p:Pos),wpAny M A (letOwnedTupleGo (.Tuple ts k p) (.ref I) v) Q E s:=λts k p=>by
  induction v with
  |ref a=>
   refine av (wpAny_load ho ?_);refine hc.symm▸hd.symm▸?_;simp only[hT,Bool.false_and,iz,if_false];exact aG hQ
  |_=>exact aG hQ
 cases target with
 |Tuple ts k p=>exact tup ts k p
 |List ts p=>exact tup ts 0 p
 |_=>exact aG hQ
theorem SI.list {target iter:ay} {mit:ME} (h:SE P cls cf n sc iter mit):SI P cls cf n sc target iter "" mit:=λA env ρ fr hs hA=>by
 refine aQ.bind al (λö=>al) (h A env ρ fr hs hA) λb v=>?_;refine aQ.leaf λg σ s E Q l G V F hp e hQ=>?_;refine V.lclK λM t m hn=>?_;replace e:zH some b=some l:=e;apply lA v hp e
 intro lst a vs _ ta il rs e
 ·cases e
  refine wpAny_pyIter_list il.il ?_;have hnew:=bA s.heap (o:={cls:=.type "list_iterator",data:=.fields #[.ref a,.int 0 0]}) rfl;obtain⟨ad,G'⟩:=lO (h':=s.heap.push {cls:=.type "list_iterator",data:=.fields #[.ref a,.int 0 0]}) G t (.of_all hn λa o e=>az _ e);have ne:a≠s.heap.objs.size:=by
   obtain⟨i,ho⟩:=id il;exact dr (dn ho)
  refine hQ _ {s with heap:=s.heap.push {cls:=.type "list_iterator",data:=.fields #[.ref a,.int 0 0]}} g ad G' ?_ ⟨rfl,rfl,rfl⟩;refine⟨[s.heap.objs.size],_,Bt (vs:=vs) hA ne (λv=>.inr λcg ⟨i,hi⟩ M A Q E q=>?_),λb hb=>?_,?_⟩
  ·obtain⟨o,ho,hc,hd⟩:=hi;exact uS ho hc hd (by decide) q
  ·rcases aC.mp hb with rfl
   exact⟨G.next,(hnew.symm▸rfl)⟩
  ·obtain⟨ad2,_⟩:=mC (X:=[s.heap.objs.size]) (λb hb=>by
    rcases aC.mp hb with rfl
    exact⟨G.next,(hnew.symm▸rfl)⟩) G'
   refine⟨⟨_,hnew,rfl,rfl⟩,ad2.tagZ (ad.tagZ ta),?_,(rs.mono ad).mono ad2⟩;exact il.il.push _
theorem SI.str {target iter:ay} {mit:ME} {x:Str} {pos:Pos} (ht:target=.Name x pos) (h:SE P cls cf n sc iter mit):SI P cls cf n sc target iter "str" mit:=λA env ρ fr hs hA=>by
 refine aQ.bind al (λö=>al) (h A env ρ fr hs hA) λb v=>?_;refine aQ.leaf λg σ s E Q l G V F hp e hQ=>?_;refine V.lclK λM tM m hn=>?_;replace e:xW _ b=some l:=e;apply lz v hp e
 intro x t e
 ·cases e
  have go:∀(o:Obj) (S':Nat->Heap->Prop),Walks P.prog P.w A s.heap.objs.size [s.heap.objs.size] [s.heap.objs.size] x.cps.size (SignAt x) S'->S' 0 (s.heap.push o)->(∀i h,S' i h->(h.get? s.heap.objs.size).isSome=true)->
    Q (.ref s.heap.objs.size) {s with heap:=s.heap.push o}:=λo S' Wk st0 hex=>by
   obtain⟨ad,G'⟩:=lO (h':=s.heap.push o) G tM (.of_all hn λa o e=>az _ e);have len:(m0 x).length=x.cps.size:=by simp[m0]
   refine hQ _ {s with heap:=s.heap.push o} g ad G' ⟨[s.heap.objs.size],_,rR (len▸Wk) hex (λi v p hp hv g h=>?_) (λi s v ö M A Q E q=>?_),λb hb=>?_,st0⟩ ⟨rfl,rfl,rfl⟩
   ·obtain⟨c,u,hc,rfl⟩:=hv;simp only[m0,df]at hp;replace hp:=(hc)▸(dN)▸hp;cases hp
    exact⟨u,rfl⟩
   ·subst ht;exact aG q
   ·rcases aC.mp hb with rfl
    exact⟨G.next,hex _ _ st0⟩
  have ex:∀(T:String) (i:Nat) (h:Heap),h.IsStrIter s.heap.objs.size T x t i->(h.get? s.heap.objs.size).isSome=true:=λT i h ⟨o,ho,_⟩=>ho.symm▸rfl;cases ha:x.cps.all (· <128)
  ·exact wpAny_pyIter_wide ha (go _ _ (Walks.strWide hA.handled _ x t) ⟨_,bA _ rfl,rfl,rfl⟩ (ex _))
  ·exact wpAny_pyIter_ascii ha (go _ _ (Walks.strAscii hA.handled _ x t) ⟨_,bA _ rfl,rfl,rfl⟩ (ex _))
theorem vU {k:Int} (h:k.natAbs<=dm):Builtin.Range.small 0 k 1=true/\∃j:Nat,Builtin.Range.rangeSize 0 k 1=j/\j=k.toNat:=by
 have hk:k.natAbs<=1000000:=h;have e:Builtin.Range.rangeSize 0 k 1=(k.toNat:Int):=by
  unfold Builtin.Range.rangeSize;simp only[gt_iff_lt,nw,if_true];split
  ·rw[Int.ediv_one];exact aM (n9 0x186101000844238186831 (Hr _)) (n9 0x110100084428638188651 (bM (gR 0x180038180041 ‹_›)))
  ·rw[Int.toNat_of_nonpos (m7.mp ‹_›)];rfl
 have fits:∀i:Int,-2000000<=i->i<=2000000->Builtin.Range.rangeFitsLong i=true:=λi h1 h2=>by
  unfold Builtin.Range.rangeFitsLong;rw[bO,decide_eq_true_eq,decide_eq_true_eq];exact⟨gR 0x181000000009180000000813538181e848061531 h1,gR 0x1100000000918000000081384811e848061831 h2⟩
 refine⟨?_,_,e,rfl⟩;unfold Builtin.Range.small;rw[e,fits 0 (by decide) (by decide),fits k (n9 0x181e84806153818685381f424051802 hk na2) (n9 0x11e8480618381868381f424051802 hk na1),fits 1 (by decide) (by decide),fits (k.toNat:Int) (cy 0x1861e848061530) (show(k.toNat:Int)<=((2000000:Nat):Int)from iU.mpr (ae (f6.mpr M3) (ae hk (by decide))))];simp only[Bool.true_and,gt_iff_lt,nw,if_true,Ir];exact .inr (fits _ (n9 0x110104821e84806153818685381f424051802 hk na2) (n9 0x11e8480611010482381868381f424051802 hk na1))
theorem SI.range (B:cK P) {target e:ay} {mit:ME} {x y:Str} {p p' pos:Pos} (ht:target=.Name y p') (hk:sc.names.lookup x=some .globalImplicit) (hv:P.mg x=none) (hb:P.mb x=some (.type "range")) (hd:(x==("__debug__":Str))=false)
  (he:∀env,aX [e] env=(false,eval e env)::aX [] env) (hp:∀env,(ee pos (aX [] env)).any (·.1)=false) (h:SE P cls cf n sc e mit):SI P cls cf n sc target (.Call (.Name x p) [e] [] pos) "range" mit:=λA env ρ fr hs hA=>by
 refine(aQ.bind (U:=λv Q E s=>eJ P A (call (.type "range") [v]) (λx cg=>eJ P A (pyIter x) Q E cg) E s) al (λö=>?_) (h A env ρ fr hs hA) λb v=>?_).ofE λQ E s g σ G V ö w=>?_
 ·exact λQ Q' E s x y=>al _ _ _ _ (λö ö z=>al _ _ _ _ x z) y
 ·refine aQ.leaf λg σ s E Q l G V F hp e hQ=>?_;refine V.lclK λM tM m hn=>?_;replace e:kW _ b=some l:=e;apply dJ v hp e
  intro k t e
  ·refine mI e λhk e=>?_
   ·cases e
    obtain⟨sm,j,ej,ej'⟩:=vU hk;refine call_range_1 ?_;refine wpAny_pyIter_range (s:={s with heap:=s.heap.push _,toks:=s.toks+1+1}) (bA s.heap (o:={cls:=.type "range",data:=.fields #[.int 0 s.toks,.int k t,.int 1 (s.toks+1)]}) rfl) sm ?_;have hI:=bA (s.heap.push {cls:=.type "range",data:=.fields #[.int 0 s.toks,.int k t,.int 1 (s.toks+1)]}) (o:={cls:=.type "range_iterator",data:=.fields #[rawInt 0,rawInt (Builtin.Range.rangeSize 0 k 1),rawInt 1]}) rfl;obtain⟨ad,G'⟩:=lO (h':=(s.heap.push {cls:=.type "range",data:=.fields #[.int 0 s.toks,.int k t,.int 1 (s.toks+1)]}).push {cls:=.type "range_iterator",data:=.fields #[rawInt 0,rawInt (Builtin.Range.rangeSize 0 k 1),rawInt 1]}) G tM (.of_all hn λa o e=>az _ (az _ e));have len:(fE k).length=j:=by simp[fE,ej']
    refine hQ _ {s with heap:=_,toks:=s.toks+1+1} g ad G' ⟨[_],_,rR (len▸Walks.range hA.handled _ 0 1 j) (λi h st=>?_) (λi v p hp hv g h=>?_) (λi s v ö M A Q E q=>?_),λb hb=>?_,?_⟩ ⟨rfl,rfl,rfl⟩
    ·have:h.get? _=some _:=st;exact this.symm▸rfl
    ·obtain⟨t,rfl⟩:=hv;simp only[fE,df]at hp;obtain⟨i',hi',rfl⟩:=aS.mp hp;have:=(ao.mp hi');obtain⟨hlt,e⟩:=this;simp at e;subst e;exact⟨t,by simp⟩
    ·subst ht;exact aG q
    ·rcases aC.mp hb with rfl
     refine⟨G.free (aT (by rw[ko];exact cy 0x11082800)),?_⟩;show(Heap.get? _ _).isSome=true;exact hI.symm▸rfl
    ·show _=_;refine hI.symm▸ej.symm▸len.symm▸?_;simp
 ·refine Call_Name rfl (nX B G V (by rw[Env.kindOf,hs];exact hk) hv hb (PyProof.Rows.callWith_type1 (args_cons (aA w (λö ö z=>args_nil z) λö ö z=>z) (he env)) (he env) (hp env)) hd)
theorem D0 {l:List PV} {i:Nat} {p:PV} (h:(lF l)[i]?=some p):∃y,l[i]?=some y/\p=.tup [.int (i:Int),y]:=by
 simp only[lF,df,List.getElem?_zipIdx]at h;refine lT h λq hq e=>?_;refine lT hq λy hy e'=>?_;exact⟨y,hy,by rw[<-e,<-e',aV]⟩
theorem Bu (hA:jP A n fr) {ts:List ay} {k:Nat} {pos:Pos} {e it l:Addr} {items:List PV} {vs:List ag} (h1:e≠it) (h2:l≠e) (h3:l≠it):
  mR P A (.Tuple ts k pos) (.ref e) (lF items) [e,it] (λi g h=>((∃old,IsEnum h e it i old)/\h.IsListIter it l i/\h.IsList l vs.toArray)/\g.tag l=.frz/\aU P g h items vs) where
 stays:=λi M g g' h h' ad hX s=>by
  obtain⟨s1,s2,s3⟩:=s;refine⟨(WalksT.enumerate (prog:=P.prog) (w:=P.w) hA.handled e it l h1 h2 h3 vs.toArray).frame i h h' s1 λb hb o eo=>?_,ad.tagZ s2,s3.mono ad⟩;rcases aH.mp hb with rfl|hb
  ·exact ad.fix _ o eo (.inr (.inr (hX _ (.head _))))
  ·rcases aH.mp hb with rfl|hb
   ·exact ad.fix _ o eo (.inr (.inr (hX _ (.tail _ (.head _)))))
   ·rcases aC.mp hb with rfl
    exact ad.fixZ eo s2
 forget:=λi g h Y hY s=>⟨s.1,(bI hY (fN s.2.1 rfl)).trans s.2.1,s.2.2.unpin hY⟩
 next:=λi p hp g σ s L M m Q E G tL hn hX st hQ=>by
  obtain⟨s1,s2,s3⟩:=st;have Wk:=WalksT.enumerate (prog:=P.prog) (w:=P.w) hA.handled e it l h1 h2 h3 vs.toArray;have len:=aU.length s3;have hi':=(ao.mp hp).1;have hi:i<vs.toArray.size:=by
   simp only[lF,ar,List.length_zipIdx]at hi';exact(bE).symm▸len▸hi'
  refine Wk.item i s _ _ hi s1 λT vals h' tk hPt hTs hT hMid hk=>?_;obtain⟨tt,x,hx,rfl⟩:=hPt;refine Wk.go ts k pos i T {s with heap:=h',toks:=tk} _ _ hMid λgI st' Ia=>?_;have hk':∀b o,b∉[e,it]->s.heap.get? b=some o->gI.get? b=some o:=λb o nb eb=>Ia b o nb (hk b o nb eb);refine Mine.Internal.cps λζ κ=>?_;obtain⟨oT,hoT,hcT⟩:=hT;have Ie:gI.get? T=some oT:=Ia T oT (Wk.apart i T h' hMid) hoT;obtain⟨g',ad,G',hX',hTz⟩:=zw (h':=gI) G tL hn hX hk' (λa ha=>by
   obtain⟨⟨old,he⟩,⟨o,ho,_⟩,_⟩:=st';rcases aH.mp ha with rfl|ha
   ·have:gI.get? a=some _:=he;exact this.symm▸rfl
   ·rcases aC.mp ha with rfl
    rw[ho];rfl) [T] (λa ha=>by
   rcases aC.mp ha with rfl
   exact⟨aT hTs,(Ie.symm▸rfl)⟩)
  obtain⟨y,hy,ep⟩:=D0 hp;obtain⟨x',hx'',rx⟩:=s3.get hy;refine κ ?_;cases(show vs[i]?=some x by simpa using hx).symm.trans hx''
  refine hQ (.ref T) {s with heap:=gI,toks:=tk} g' ad G' hX' ⟨st',ad.tagZ ((bI hX (fN s2 rfl)).trans s2),(s3.unpin hX).mono ad⟩ ?_ ⟨rfl,rfl,rfl⟩;refine ep.symm▸?_;refine⟨T,[.int i tt,x],rfl,hTz T (.head _),⟨oT,Ie,hcT⟩,?_⟩;exact⟨⟨tt,rfl⟩,(rx.unpin hX).mono ad,trivial⟩
 done:=λg σ s L M m Q E G tL hn hX st hQ=>by
  obtain⟨s1,s2,s3⟩:=st;have:(lF items).length=vs.toArray.size:=by simp[lF,(aU.length s3)]
  replace s1:=(this)▸s1;refine(WalksT.enumerate (prog:=P.prog) (w:=P.w) hA.handled e it l h1 h2 h3 vs.toArray).done s _ _ s1 λh' tk hk=>?_;obtain⟨ad,G'⟩:=q9 (h':=h') G tL hn hX hk;exact hQ {s with heap:=h',toks:=tk} _ ad G' ⟨rfl,rfl,rfl⟩
 self:=λi g s Q E ⟨s1,_⟩ hQ=>(WalksT.enumerate (prog:=P.prog) (w:=P.w) hA.handled e it l h1 h2 h3 vs.toArray).self i s Q E s1 hQ
theorem SI.enum (B:cK P) {target e:ay} {mit:ME} {x:Str} {p pos p':Pos} {ts:List ay} {k:Nat} (ht:target=.Tuple ts k p') (hk:sc.names.lookup x=some .globalImplicit) (hv:P.mg x=none) (hb:P.mb x=some (.type "enumerate")) (hd:(x==("__debug__":Str))=false)
  (he:∀env,aX [e] env=(false,eval e env)::aX [] env) (hp:∀env,(ee pos (aX [] env)).any (·.1)=false) (h:SE P cls cf n sc e mit):SI P cls cf n sc target (.Call (.Name x p) [e] [] pos) "enumerate" mit:=λA env ρ fr hs hA=>by
 refine(aQ.bind (U:=λv Q E s=>eJ P A (call (.type "enumerate") [v]) (λx cg=>eJ P A (pyIter x) Q E cg) E s) al (λö=>?_) (h A env ρ fr hs hA) λb v=>?_).ofE λQ E s g σ G V ö w=>?_
 ·exact λQ Q' E s x y=>al _ _ _ _ (λö ö z=>al _ _ _ _ x z) y
 ·refine aQ.leaf λg σ s E Q l G V F hp e hQ=>?_;refine V.lclK λM tM m hn=>?_;replace e:zH _ b=some l:=e;apply lA v hp e
  intro items a vs _ ta il rs e
  ·cases e
   have la:a<s.heap.objs.size:=let⟨_,ho⟩:=il;dn ho
   refine call_enumerate_list il.il λh' hE hI hsz hkeep=>?_;refine wpAny_pyIter_enum (s:={s with heap:=h'}) hE ?_;refine Mine.Internal.cps λζ κ=>?_;obtain⟨ad,G'⟩:=lO (h':=h') G tM (.of_all hn hkeep);have fr1:∀b∈[s.heap.objs.size+1,s.heap.objs.size],g.tag b=.free/\(h'.get? b).isSome=true:=λb hb=>by
    rcases aH.mp hb with rfl|hb
    ·refine⟨G.free (aT (iD _)),?_⟩;have:h'.get? _=some _:=hE;rw[this];rfl
    ·rcases aC.mp hb with rfl
     obtain⟨o,ho,_⟩:=hI;exact⟨G.next,by rw[ho];rfl⟩
   obtain⟨ad2,_⟩:=mC fr1 G';subst ht;refine κ ?_;refine hQ _ {s with heap:=h'} g ad G' ⟨[s.heap.objs.size+1,s.heap.objs.size],_,Bu (items:=items) (vs:=vs) hA (f0 (b8 _)) (dr (gq la)) (dr la),fr1,?_⟩ ⟨rfl,rfl,rfl⟩;exact⟨⟨⟨_,hE⟩,hI,(il.il:s.heap.IsList a vs.toArray).at λo e=>hkeep _ _ e⟩,ad2.tagZ (ad.tagZ ta),(rs.mono ad).mono ad2⟩
 ·refine Call_Name rfl (nX B G V (by rw[Env.kindOf,hs];exact hk) hv hb (PyProof.Rows.callWith_type1 (args_cons (aA w (λö ö z=>args_nil z) λö ö z=>z) (he env)) (he env) (hp env)) hd)
end
open PySem PySem.W PyProof.Rows PySem.Calls
section
variable {P:PW} {cls:ag} {cf:String->List PV->MM PV} {W:Nat} {n:Nat×Nat} {sc:bD} {A:bd} {env:Env} {ρ:aE} {fr:List Env} {g g' fG:Gh} {h h' h₀:Heap} {σ:ah} {L:Addr} {α β γ δ:Type}
inductive Mx (P:PW) (env:Env) (g:Gh) (s:ak) (lM:qn (Mine.Internal.Flow×aE)) (R:Nat->aE->MM (Mine.Internal.Flow×aE)) (k:Nat) (s':ak):Prop
 |mk (g':Gh) (f7:aE) (aF:ah):R k f7 aF=lM->dX (some env.locals) g g' s.heap s'.heap->dq P g' aF s'.heap->iO P g' s'.heap env f7->fU s s'->Mx P env g s lM R k s'
theorem SS.while {test:ay} {mt:ME} {body:List eF} {mb:List MS} {pos:Pos} (ht:ST P cls cf n sc test mt) (hb:xe P cls cf W n sc body mb):SS P cls cf W n sc (.While test body [] pos) [.while mt mb]:=λA env ρ fr hsc hA=>by
 rw[c5];intro g σ s E G V F hO _ hbad hE;generalize hm:nB cf W (.while mt mb) ρ σ=lM at hbad hE⊢;refine wpAny_While (codeAny_whileLoop (Mx P env g s lM (uo (λρ=>eO (bu cf ρ mt)) (λρ=>c9 cf W mb ρ))) (λk cg ⟨hR,gz,aZ,dB,kR,gW,l5,kc⟩=>?_) W ⟨g,ρ,σ,hm,.refl ..,G,V,.refl s⟩)
 induction k with
 |zero=>exact absurd (dB.symm.trans rfl) hbad
 |succ k=>
  replace dB:MM.bind (eO (bu cf gz mt)) _ aZ=_:=dB;refine wpAny_passesOwn (E:=E) hO.1 ?_;refine al _ _ E cg (λc cx pz=>?_) (ht A env gz fr hsc hA hR aZ cg E gW l5.toEnvRel (F.monoL kR) trivial (λq=>hbad (dB.symm.trans (MM.bind_bad q))) λe s' g' aF q ad G' X sm=>hE e s' g' aF (dB.symm.trans (MM.bind_exc q)) (kR.trans ad.weaken) G' (.inl X) (kc.trans sm));obtain⟨b,bK,ju,q,eM,hV,hbc,eU⟩:=pz;replace dB:=(MM.bind_ok q)▸dB;have lZ:=l5.mono eM
  induction b with
  |false=>exact hbc▸wpAny_execs_nil ⟨.next,gz,bK,ju,dB.symm,kR.trans eM.weaken,hV,lZ,rfl,kc.trans eU⟩
  |true=>
   replace dB:MM.bind (c9 cf W mb gz) _ bK=_:=dB;refine hbc▸wpAny_passesOwn (E:=E) hO.1 ?_;refine al _ _ E cx (λf fw pz=>?_) (hb A env gz fr hsc hA ju bK cx E hV lZ ((F.monoL kR).mono eM) hO trivial (λq=>hbad (dB.symm.trans (MM.bind_bad q))) λe s' g' aF q ad G' X sm=>hE e s' g' aF (dB.symm.trans (MM.bind_exc q)) (kR.trans (eM.weaken.trans ad)) G' X (kc.trans (eU.trans sm)));obtain⟨b,AH,gw,sT,Kn,lR,qq,EC,hf,oV⟩:=pz;replace dB:=(MM.bind_ok Kn)▸dB;have AD:=kR.trans (eM.weaken.trans lR);have SM:=kc.trans (eU.trans oV)
   induction b with
   |next=>rw[show f=.next from hf];exact⟨k,b8 k,sT,AH,gw,dB,AD,qq,EC,SM⟩
   |brk=>rw[show f=.brk from hf];exact⟨.next,AH,gw,sT,dB.symm,AD,qq,EC,rfl,SM⟩
   |ret p=>
    obtain⟨v,hf,r⟩:=hf;exact hf.symm▸⟨.ret p,AH,gw,sT,dB.symm,AD,qq,EC,⟨v,rfl,r⟩,SM⟩
theorem DO {R:Result->ak->Prop} {target:ay} {it:ag} {body orelse:List eF} {s:ak} (I:Nat->ak->Prop)
  (turn:∀k s,I k s->zo P A target it (λr cg=>match r with
   |none=>wpAny (model P.prog P.w) A (execs orelse env) (λf fw=>R (.ok f) fw) (notedBy (model P.prog P.w) A env λe s'=>R (.error e) s') cg
   |some v=>wpAny (model P.prog P.w) A (assign target env v) (λö cx=>wpAny (model P.prog P.w) A (execs body env) (λf fw=>match f with
     |.next|.cont=>∃m,m<k/\I m fw
     |.brk=>R (.ok .next) fw
     |.ret v=>R (.ok (.ret v)) fw) (notedBy (model P.prog P.w) A env λe s'=>R (.error e) s') cx) (notedBy (model P.prog P.w) A env λe s'=>R (.error e) s') cg) (notedBy (model P.prog P.w) A env λe s'=>R (.error e) s') s)
  (k:Nat) (h:I k s):codeAny (model P.prog P.w) A (.forLoop target it body orelse env) R s:=by
 refine codeAny_loop' rfl I (λk s hI=>?_) k h;show wpAny _ _ ((forTurn target it body orelse env).onRaise (λx=>do noteFrame x env;theTreesLotGoes x)) _ _ s;refine wpAny_noted ?_;refine av (wpAny_standAt (av (wpAny_onRaise (aA (turn k s hI) (λr cg cL=>?_) λö ö h'=>wpAny_standAt h'))))
 induction r with
 |none=>exact aG (.inr ⟨rfl,codeAny_block cL⟩)
 |some v=>
  refine av (aA cL (λö MO EA=>?_) λö ö h'=>h');refine av (aA EA (λö cx gI=>av (aA gI (λf fw jQ=>?_) λö ö h'=>h')) λö ö h'=>h')
  induction f with
  |next=>exact aG (.inl ⟨rfl,jQ⟩)
  |cont=>exact aG (.inl ⟨rfl,jQ⟩)
  |brk=>exact aG jQ
  |ret v=>exact aG jQ
noncomputable def TG (P:PW) (cls:ag) (n:Nat×Nat) (sc:bD) (t:ay) (tgt:List String):Prop:=
 ∀(A:bd) (env:Env) (ρ:aE) (fr:List Env) (p:PV) (v:ag),env.scope=sc->jP A n fr->
  dD P cls A env ρ fr (λg h=>cR P g h p v) (eJ P A (assign t env v)) (MM.bind (bJ (i4 tgt p)) λb=>MM.pure ((),fY ρ b)) (λö ö ö ö=>True)
theorem TG.name {x:Str} {pos:Pos} {y:String} (hx:x=aa y) (hk:sc.names.lookup x=some .local\/sc.names.lookup x=some .cell):TG P cls n sc (.Name x pos) [y]:=λA env ρ fr p v hs hA=>
 (xx.name (P:=P) (cls:=cls) (cf:=λö ö=>MM.bad) (n:=n) (sc:=sc) (pos:=pos) hx hk) A env ρ fr p v hs hA
theorem TG.two {x y:Str} {p1 p2 p3:Pos} {k:Nat} {x' y':String} (hx:x=aa x') (hy:y=aa y') (hk:sc.names.lookup x=some .local\/sc.names.lookup x=some .cell) (hk':sc.names.lookup y=some .local\/sc.names.lookup y=some .cell):
  TG P cls n sc (.Tuple [.Name x p1,.Name y p2] k p3) [x',y']:=λA env ρ fr p v hs hA=>by
 have key:=(xx.tup (P:=P) (cls:=cls) (cf:=λö ö=>MM.bad) (n:=n) (sc:=sc) (k:=k) (pos:=p3) (tz.cons (xx.name (pos:=p1) hx hk) (tz.cons (xx.name (pos:=p2) hy hk') tz.nil λö=>rfl) λö=>rfl) (λö=>rfl) (λö=>rfl)) A env ρ fr p v hs hA;have e:(MM.bind (iu (λö ö=>MM.bad) ρ (.tup [.var x',.var y']) p) λf7=>MM.pure ((),f7))=(MM.bind (bJ (i4 [x',y'] p)) λb=>MM.pure ((),fY ρ b)):=by
  funext σ;cases p with
  |tup l=>
   by_cases hl:l.length=2
   ·match l with
    |[a,b]=>rfl
    |[]|[_]|_::_::_::_=>simp at hl
   ·show MM.bind (if l.length=2 then _ else MM.bad) _ σ=MM.bind (bJ (if l.length=2 then _ else Option.none)) _ σ;rw[if_neg hl,if_neg hl];rfl
  |_=>rfl
 rw[e]at key;exact key
theorem Am {α:Type} {l:List α} {i:Nat} (h:i<l.length):∃p,l[i]?=some p/\l.drop i=p::l.drop (i+1):=⟨l[i],b5 h,eX h⟩
inductive MF (P:PW) (env:Env) (g:Gh) (s:ak) (lM:qn (Mine.Internal.Flow×aE)) (R:List PV->aE->MM (Mine.Internal.Flow×aE)) (l:List PV) (X:List Addr) (St:Nat->Gh->Heap->Prop) (k:Nat) (s':ak):Prop
 |mk (i:Nat) (g':Gh) (f7:aE) (aF:ah):l.length-i<k->i<=l.length->R (l.drop i) f7 aF=lM->dX (some env.locals) g g' s.heap s'.heap->dq P g' aF s'.heap->iO P g' s'.heap env f7->(∀a∈X,g'.tag a=.pin)->St i g' s'.heap->fU s s'->MF P env g s lM R l X St k s'
theorem SS.for {target iter:ay} {kind:String} {mit:ME} {tgt:List String} {body:List eF} {mb:List MS} {pos:Pos} (hi:SI P cls cf n sc target iter kind mit) (hg:TG P cls n sc target tgt) (hb:xe P cls cf W n sc body mb)
  (hs:∀env x,foldedSetIterable iter env x=pure x):SS P cls cf W n sc (.For target iter body [] pos) [.for tgt kind mit mb]:=λA env ρ fr hsc hA=>by
 rw[c5];refine((dD.expr (T:=λQ E s=>eJ P A (eval iter env) (λx cg=>eJ P A (pyIter x) Q E cg) E s) (U:=λitv Q E s=>codeAny (model P.prog P.w) A (.forLoop target itv body [] env) (λr s'=>match r with|.ok f=>Q f s'|.error e=>cameBackBy (model P.prog P.w) A env E e s') s)
  (k:=λl=>ub (λρ=>c9 cf W mb ρ) tgt l ρ) (λQ Q' E s x y=>al _ _ _ _ (λö ö z=>al _ _ _ _ x z) y) (λö=>?_) (hi A env ρ fr hsc hA) λl itv=>?_).of λQ E s ö w=>wpAny_For w (hs env)).eq MM.bind_assoc.symm
 ·exact λQ Q' E s x y=>kU y λr s' z=>by induction r<;>first|exact x _ _ z|exact z
 ·intro g σ s E G V F hO ⟨X,St,IT,hX,st0⟩ hbad hE;generalize hm:ub (λρ=>c9 cf W mb ρ) tgt l ρ σ=lM at hbad hE⊢;obtain⟨ad0,G0⟩:=mC hX G;have base:∀{M:Option Addr} {g':Gh} {h':Heap},(∀a∈X,g'.tag a=.pin)->dX M g g' s.heap h'->dX M g (g'.unpin X) s.heap h':=λhp x=>x.unpin hp λa ha=>(hX a ha).1;refine DO (MF P env g s lM (ub (λρ=>c9 cf W mb ρ) tgt) l X St) (λk cg pz=>?_) (l.length+1) ⟨0,_,ρ,σ,b8 _,aL _,hm,ad0.weaken,G0,V.mono ad0,λa ha=>qF ha,st0,.refl s⟩;refine Mine.Internal.cps λζ κ=>?_;obtain⟨i,hR,gz,aZ,hk,hi,dB,kR,gW,l5,yZ,H7,kc⟩:=pz;obtain⟨y0,H9,_⟩:=l5.ns;refine κ ?_;by_cases hlt:i<l.length
  ·obtain⟨p,hp,hd⟩:=Am hlt;rw[hd]at dB;replace dB:MM.bind (bJ (i4 tgt p)) _ aZ=_:=dB;refine IT.next i p hp hR aZ cg env.locals env.locals y0 _ _ gW l5.own H9 yZ H7 λv cx ju eM hV Hh Ew rv eU=>?_;have M0:=((F.monoL kR).unpin yZ).mono eM;refine wpAny_passesOwn (E:=E) hO.1 ?_
   induction hbt:i4 tgt p with
   |none=>rw[hbt]at dB;exact absurd dB.symm hbad
   |some b=>
    rw[hbt]at dB;replace dB:MM.bind (c9 cf W mb (fY gz b)) _ aZ=_:=dB;have eb:MM.bind (bJ (i4 tgt p)) (λb=>MM.pure ((),fY gz b)) aZ=.ok ((),fY gz b) aZ:=hbt.symm▸rfl;refine al _ _ E cx (λ_ fw ⟨_,AH,gw,sT,Kn,lR,qq,EC,_,oV⟩=>?_) (hg A env gz fr p v hsc hA ju aZ cx E hV ((l5.unpin yZ).mono eM) M0 hO rv (λq=>nomatch eb.symm.trans q) λe s' g' aF q=>nomatch eb.symm.trans q);cases eb.symm.trans Kn
    have Ik:=((base yZ kR).trans eM.weaken).trans lR;have AI:=(kc.trans eU).trans oV;refine wpAny_passesOwn (E:=E) hO.1 ?_;refine al _ _ E fw (λf lK pz=>?_) (hb A env (fY gz b) fr hsc hA sT aZ fw E qq EC (M0.monoL lR) hO trivial (λq=>hbad (dB.symm.trans (MM.bind_bad q))) λe s' g' aF q ad G' X' sm=>hE e s' g' aF (dB.symm.trans (MM.bind_exc q)) (Ik.trans ad) G' X' (AI.trans sm));obtain⟨b',Ev,fq,sR,Km,sU,BZ,Ku,hf,Ey⟩:=pz;rw[MM.bind_ok Km]at dB;have ED:=Ik.trans sU;have um:=AI.trans Ey
    induction b' with
    |next=>
     have MR:∀a∈X,sT.tag a=.pin:=λa ha=>lR.tagP (Hh a ha);rw[show f=.next from hf];exact⟨_,hk,i+1,sR,Ev,fq,Cb _ _ hlt,hlt,dB,ED,BZ,Ku,λa ha=>sU.tagP (MR a ha),IT.stays _ _ _ _ _ _ sU MR (IT.stays _ _ _ _ _ _ lR Hh Ew),um⟩
    |brk=>rw[show f=.brk from hf];exact⟨.next,Ev,fq,sR,dB.symm,ED,BZ,Ku,rfl,um⟩
    |ret p=>
     obtain⟨v,hf,r⟩:=hf;rw[hf];exact⟨.ret p,Ev,fq,sR,dB.symm,ED,BZ,Ku,⟨v,rfl,r⟩,um⟩
  ·have q:i=l.length:=am hi (du hlt);rw[q,fJ]at dB;refine IT.done hR aZ cg env.locals env.locals y0 _ _ gW l5.own H9 yZ (q▸H7) λcx ju eM hV eU=>?_;exact wpAny_execs_nil ⟨.next,gz,aZ,ju,dB.symm,(base yZ kR).trans eM.weaken,hV,(l5.unpin yZ).mono eM,rfl,kc.trans eU⟩
end
open PySem PySem.W PyProof.Rows PySem.Calls
section
variable {P:PW} {cls:ag} {cf:String->List PV->MM PV} {W:Nat} {n:Nat×Nat} {sc:bD} {A:bd} {env:Env} {ρ:aE} {fr:List Env} {g g' fG:Gh} {h h' h₀:Heap} {σ:ah} {L:Addr} {α β γ δ:Type}
theorem dX.strip {C:Addr} (x:dX (some C) g g' h h') (hC:∀a,g.tag a≠.frm C):dX none g g' h h':=
 {x with frm:=λa M t ö=>x.frm a M t λq=>by injection q with q;exact hC a (q▸t)}
theorem uL (G:dq P g σ h) {C:Addr} (hC:g.tag C=.free):∀a,g.tag a≠.frm C:=λa q=>by
 have:=(G.frm a C q).1;rw[hC]at this;contradiction
noncomputable def jn (scope sc:bD):bD:=
 {scope with names:=scope.names.map λ(n,k)=>if(k==.free&&sc.kind==.function&&sc.names.lookup n==some .cell)then(n,.cell)else(n,k)}
theorem Fu (scope:bD) (env:Env):relabel scope env=jn scope env.scope:=rfl
noncomputable def fj (env:Env):List (Str×NameKind)->List (Str×Addr)->List (Str×Addr)
 |[],cs=>cs
 |(x,k)::l,cs=>match k==.free,env.cells.lookup x with
  |true,some c=>fj env l ((x,c)::cs)
  |_,_=>fj env l cs
theorem pE {env:Env} {x:Str} {k:NameKind} {l:List (Str×NameKind)} {cs:List (Str×Addr)}:fj env ((x,k)::l) cs=match k==.free,env.cells.lookup x with
  |true,some c=>fj env l ((x,c)::cs)
  |_,_=>fj env l cs:=rfl
theorem yC (scope:bD) (env:Env) (hf:∀p∈scope.names,p.2=.free->∃c,env.cells.lookup p.1=some c):closureFor scope env=pure (fj env scope.names []):=by
 have key:∀(l:List (Str×NameKind)) (cs:List (Str×Addr)),(∀p∈l,p.2=.free->∃c,env.cells.lookup p.1=some c)->
   (forIn l cs λ(x:Str×NameKind) r=>(do
    let(name,kind):=x
    if kind==.free then
     let a<-cellOf env name
     pure (ForInStep.yield ((name,a)::r))
    else pure (ForInStep.yield r):Sem (ForInStep (List (Str×Addr)))))=pure (fj env l cs):=by
  intro l
  induction l with
  |nil=>exact λcs ö=>rfl
  |cons p l ih=>
   intro cs hf;obtain⟨x,k⟩:=p;rw[tH];by_cases q:k=.free
   ·subst q;obtain⟨c,hc⟩:=hf _ (.head _) rfl;have e:cellOf env x=pure c:=by unfold cellOf;rw[hc]
    have:=ih ((x,c)::cs) λp hp=>hf p (.tail _ hp);simp only[pE,hc,e,beq_self_eq_true,if_true];exact this
   ·have:(k==NameKind.free)=false:=by simpa using q
    simp only[pE,this,iz,if_false];exact ih cs λp hp=>hf p (.tail _ hp)
 have:=key scope.names [] hf;unfold closureFor;exact congrArg (λt=>t>>=λcs=>pure cs) this
set_option tactic.hygienic true in
theorem i0 {env:Env}:∀{l:List (Str×NameKind)} {cs:List (Str×Addr)} {x:Str} {c:Addr},((x,NameKind.free)∈l/\env.cells.lookup x=some c)\/cs.lookup x=some c->(cs.lookup x=none\/cs.lookup x=env.cells.lookup x)->env.cells.lookup x=some c->(fj env l cs).lookup x=some c
 |[],cs,x,c,h,_,_=>by
  rcases h with⟨q,_⟩|q
  ·exact nomatch q
  ·exact q
 |(y,k)::l,cs,x,c,h,hc,hx=>by
  simp only[pE];split
  ·rename_i c' hk hy;by_cases z:x=y
   ·subst z;replace hy:=(hx)▸hy
    (injection hy;subst_vars)
    exact i0 (.inr (by simp)) (.inr (by simp[hx])) hx
   ·have e:d7 x ((y,c')::cs)=cs.lookup x:=by
     rw[aW];have:(x==y)=false:=by simpa using z
     exact this.symm▸rfl
    refine i0 ?_ (e.symm▸hc) hx;rcases h with⟨q,w⟩|q
    ·rcases aH.mp q with u|u
     ·injection u with u _;exact absurd u z
     ·exact .inl ⟨u,w⟩
    ·exact .inr (e.symm▸q)
  ·rename_i hno;refine i0 ?_ hc hx;rcases h with⟨q,w⟩|q
   ·rcases aH.mp q with u|u
    ·injection u with u1 u2;subst u1 u2;exact absurd w (hno c rfl)
    ·exact .inl ⟨u,w⟩
   ·exact .inr q
theorem iq {sc:bD}:∀{l:List (Str×NameKind)} {x:Str},(l.map λ(n,k)=>if(k==.free&&sc.kind==.function&&sc.names.lookup n==some .cell)then(n,NameKind.cell)else(n,k)).lookup x=
  (l.lookup x).map λk=>if(k==.free&&sc.kind==.function&&sc.names.lookup x==some .cell)then .cell else k
 |[],_=>rfl
 |(y,k)::l,x=>by
  rw[bq];by_cases z:x=y
  ·subst z;simp only[aW,beq_self_eq_true,dF];split<;>rename_i hh<;>simp[aW,hh]
  ·have hf:(x==y)=false:=by simpa using z
   simp only[aW,hf];rw[<-iq (l:=l)];split<;>simp[aW,hf]
theorem mem_of_lookup {β:Type} {l:List (Str×β)} {x:Str} {k:β}:l.lookup x=some k->(x,k)∈l:=by
 induction l with
 |nil=>exact λh=>nomatch h
 |cons p l ih=>
  intro h;rw[aW]at h;by_cases z:x=p.1
  ·replace h:=(beq_iff_eq.mpr z)▸h;have e:p.2=k:=Option.some.inj h;exact z.symm▸e▸.head _
  ·replace h:=(beq_eq_false_iff_ne.mpr z)▸h;exact .tail _ (ih h)
theorem yz {scope:bD} {C:Addr} {tgt:List String} {b:aE} {m:Str->Option ag} (V:EnvRel P g h env ρ) (hf:scope.kind=.function) (tC:g.tag C=.frm C) (hm:h.Ns C m)
  (hloc:∀y,scope.names.lookup (aa y)=some .local->y∈".0"::tgt) (hcell:∀x,scope.names.lookup x≠some .cell) (hfree:∀y,scope.names.lookup (aa y)=some .free->(aa y,NameKind.free)∈scope.names/\y∉tgt/\y≠".0")
  (hbk:∀x p,b.lookup x=some p->x∈tgt) (hb:∀x p,b.lookup x=some p->∃v,m (aa x)=some v/\cR P g h p v)
  (hk:∀x,scope.names.lookup x=some .free->env.kindOf x=some .cell):EnvRel P g h (compEnvC scope (fj env scope.names []) C env) (compEnv tgt ρ b) where
 fn:=hf
 has:=λx kx=>by
  have kx:(jn scope env.scope).names.lookup x=some .cell:=kx;have kf:scope.names.lookup x=some .free:=by
   unfold jn at kx;rw[iq]at kx;refine lT kx λk hk1 hk2=>?_;split at hk2
   ·rename_i hh;have:k=.free:=by
     have:=(d8.mp (d8.mp hh).1).1;simpa using this
    rw[hk1,this]
   ·subst hk2;exact absurd hk1 (hcell _)
  obtain⟨c,hc⟩:=V.has x (hk x kf);exact⟨c,i0 (.inl ⟨mem_of_lookup kf,hc⟩) (.inl rfl) hc⟩
 gl:=V.gl
 bi:=V.bi
 tag:=⟨C,tC⟩
 ns:=⟨m,hm,λx p e kx=>by
  have kx:(jn scope env.scope).names.lookup (aa x)=some .local:=kx;unfold jn at kx;rw[iq]at kx;refine lT kx λk hk1 hk2=>?_;have:k=.local:=by
   split at hk2
   ·contradiction
   ·exact hk2
  subst this;unfold compEnv at e;rw[EJ]at e
  induction hbx:b.lookup x with
  |some q=>
   rw[hbx]at e;exact hb x p (hbx.trans e)
  |none=>
   rw[hbx]at e;exfalso;simp only[tB]at e;have:∀l:aE,(l.filter λp=>!(".0"::tgt).contains p.1).lookup x≠some p:=by
    intro l
    induction l with
    |nil=>simp
    |cons q l ih=>
     rw[je];by_cases hq:(!(".0"::tgt).contains q.1)=true
     ·rw[if_pos hq];rw[aW];have:(x==q.1)=false:=by
       simp only[beq_eq_false_iff_ne,ne_eq];intro z;simp only[bl,n8,decide_eq_false_iff_not]at hq;exact hq (z▸(hloc x hk1))
      rw[this];exact ih
     ·rw[if_neg hq];exact ih
   exact this ρ e⟩
 cel:=λx p e kx=>by
  have kx:(jn scope env.scope).names.lookup (aa x)=some .cell\/(jn scope env.scope).names.lookup (aa x)=some .free:=kx;have kf:scope.names.lookup (aa x)=some .free:=by
   unfold jn at kx;rcases kx with kx|kx<;>
    (rw[iq]at kx
     refine lT kx λk hk1 hk2=>?_;split at hk2
     ·rename_i hh;have:k=.free:=by
       have:=(d8.mp (d8.mp hh).1).1;simpa using this
      rw[hk1,this]
     ·subst hk2
      first|exact absurd hk1 (hcell _)|exact hk1)
  refine Mine.Internal.cps λζ κ=>?_;obtain⟨hmem,hnt,hn0⟩:=hfree x kf;have e':ρ.lookup x=some p:=by
   unfold compEnv at e;rw[EJ]at e
   induction hbx:b.lookup x with
   |some q=>exact absurd (hbk x q hbx) hnt
   |none=>
    rw[hbx]at e;simp only[tB]at e;have:∀l:aE,(l.filter λp=>!(".0"::tgt).contains p.1).lookup x=l.lookup x:=by
     intro l
     induction l with
     |nil=>rfl
     |cons q l ih=>
      rw[je];by_cases z:x=q.1
      ·have:(!(".0"::tgt).contains q.1)=true:=by
        simp only[bl,n8,decide_eq_false_iff_not,aH,not_or];exact z▸⟨hn0,hnt⟩
       rw[if_pos this,aW,aW,z];simp
      ·have zf:(x==q.1)=false:=by simpa using z
       split
       ·rw[aW,aW,zf,ih]
       ·rw[aW,zf,ih]
    rw[this]at e;exact e
  obtain⟨c,v,e1,t,ic,r⟩:=V.cel x p e' (.inl (hk _ kf));refine κ ?_;exact⟨c,v,i0 (.inl ⟨hmem,e1⟩) (.inl rfl) e1,t,ic,r⟩
end
open PySem PySem.W PyProof.Rows PySem.Calls
noncomputable def Ee (M:Model) (A:bd) (E:ag->ak->Prop) (use:Option (ag->Sem Unit)) (Q:ag->ak->Prop) (acc:ag) (C:Addr) (r:Result) (s':ak):Prop:=
 match r,use with
 |.ok _,none=>∃m,s'.heap.Ns C m/\∀h' m',h'.Ns C m'->zh C s'.heap h'->Q acc {s' with heap:=h'}
 |.ok _,some u=>wpAny M A (u acc) (λö s''=>∃m,s''.heap.Ns C m/\∀h' m',h'.Ns C m'->zh C s''.heap h'->Q .none {s'' with heap:=h'}) E s'
 |.error _,_=>False
theorem wP {M:Model} {A:bd} {E:ag->ak->Prop} {s:ak} {env:Env} {e:ay} {scope:bD} {pos:Pos} {newAcc first:Sem ag} {gc:Comprehension} {gs:List Comprehension} {cl:List (Str×Addr)} {use:Option (ag->Sem Unit)}
  {Q:ag->ak->Prop}
  (hcl:clausesOf e=gc::gs) (hs:∀x,foldedSetIterable gc.iter env x=pure x) (hclos:closureFor scope env=pure cl)
  (hkind:scope.kind=.function) (hnames:∀x∈scope.names,x.2=.local->scope.names.lookup x.1=some .local)
  (h:wpAny M A first (λx cg=>wpAny M A (pyIter x) (λit cx=>wpAny M A newAcc (λacc fw=>
   wpAny M A (newFunctionEnv scope env.globals cl [] env.qual none .none (some env)) (λcenv lK=>
    codeAny M A (.compStart e 0 it acc {cenv with scope:=relabel scope env}) (Ee M A E use Q acc cenv.locals) lK) E fw) E cx) E cg) E s):
  wpAny M A (comprehension e scope env pos newAcc false first use) Q E s:=by
 unfold comprehension;refine hclos.symm▸hcl.symm▸?_;refine av (aA h (λx cg cL=>av (wpAny_standAt (av (Hs (hs x) (av (wpAny_holding (aA cL (λit cx gI=>
  wpAny_standIf (av (aA gI (λacc fw jQ=>av (aG (av (aA jQ (λcenv lK Kr=>?_) λö ö h'=>h')))) λö ö h'=>h')))
   λö ö h'=>h'))))))) λö ö h'=>h')
 dsimp only;have hv:∀x∈(scope.names.filter λx=>(x.2==.local||x.2==.cell)&&x.1 !=(".0":Str)).reverse,x.2=.local->
   Env.kindOf {cenv with scope:=relabel scope env} x.1=some .local:=λx hx hl=>lookup_relabel_local (hnames x (hZ.mp (jd.mp hx)).1 hl)
 have hv':∀x∈(scope.names.filter λx=>(x.2==.local||x.2==.cell)&&x.1 !=(".0":Str)).reverse.drop 1++(scope.names.filter λx=>(x.2==.local||x.2==.cell)&&x.1 !=(".0":Str)).reverse.take 1,
   x.2=.local->Env.kindOf {cenv with scope:=relabel scope env} x.1=some .local:=λx hx hl=>by
  rcases cD.mp hx with h1|h1
  ·exact hv x (List.mem_of_mem_drop h1) hl
  ·exact hv x (List.mem_of_mem_take h1) hl
 refine wpAny_holding (av (wpAny_attempt (wpAny_holding (wpAny_run (kU Kr λr s' hr=>?_)))))
 induction r with
 |ok f=>
  induction use with
  |none=>
   obtain⟨m,hn,hr⟩:=hr;exact av (wpAny_holding (wpAny_comp_letGo (cenv:={cenv with scope:=relabel scope env}) hkind _ s' m hv hn λh' m' hn' hs'=>aG (hr h' m' hn' hs')))
  |some u=>
   refine av (wpAny_rule (av (wpAny_holding (aA hr (λö s'' hr'=>?_) λö ö h'=>h'))));obtain⟨m,hn,hr'⟩:=hr';exact av (wpAny_comp_letGo (cenv:={cenv with scope:=relabel scope env}) hkind _ s'' m hv' hn λh' m' hn' hs'=>aG (hr' h' m' hn' hs'))
 |error x=>exact hr.elim
section
variable {P:PW} {cls:ag} {cf:String->List PV->MM PV} {W:Nat} {n:Nat×Nat} {sc:bD} {A:bd} {env:Env} {ρ:aE} {fr:List Env} {g g' fG:Gh} {h h' h₀:Heap} {σ:ah} {L:Addr} {α β γ δ:Type}
theorem BJ {elt target iter:ay} {ifs:List ay} {scope:bD} {pos:Pos} {it acc:ag} {env:Env} {R:Result->ak->Prop} {s:ak} (I:Nat->ak->Prop)
  (turn:∀k s,I k s->zo P A target it (λr cg=>match r with
   |none=>R (.ok .next) cg
   |some v=>wpAny (model P.prog P.w) A (assign target env v) (λö cx=>
     wpAny (model P.prog P.w) A (forIn ifs true λc r=>if r=true then do let ok<-isTrue c env (eval c env);pure (ForInStep.yield ok)else pure (ForInStep.yield r)) (λok fw=>
      if ok=true then wpAny (model P.prog P.w) A (eval elt env) (λx lK=>
       wpAny (model P.prog P.w) A (call (.builtin "list.append") [acc,x]) (λö Kl=>∃m,m<k/\I m Kl) (λö ö=>False) lK) (λö ö=>False) fw
      else∃m,m<k/\I m fw) (λö ö=>False) cx) (λö ö=>False) cg) (λö ö=>False) s)
  (k:Nat) (h:I k s):codeAny (model P.prog P.w) A (.compLoop (.ListComp elt [⟨target,iter,ifs,0⟩] scope pos) 0 it acc env) R s:=by
 refine codeAny_loop rfl I (λk s hI=>?_) k h;show wpAny _ A ((compTurn (.ListComp elt [⟨target,iter,ifs,0⟩] scope pos) 0 it acc env).onRaise (λx=>do noteFrame x env;theTreesLotGoes x)) _ _ s;refine wpAny_noted ?_;rw[compTurn_list];refine av (wpAny_standAt (av (aA (turn k s hI) (λr cg cL=>?_) λö ö h'=>h'.elim)))
 induction r with
 |none=>exact aG cL
 |some v=>
  refine av (aA cL (λö MO EA=>?_) λö ö h'=>h'.elim);refine av (aA EA (λö cx gI=>av (aA gI (λok fw jQ=>?_) λö ö h'=>h'.elim)) λö ö h'=>h'.elim)
  induction ok with
  |false=>exact aG ⟨rfl,jQ⟩
  |true=>
   exact av (av (aA jQ (λx lK Kr=>av (aA Kr (λö Kl h₅=>aG (aG ⟨rfl,h₅⟩)) λö ö h'=>h'.elim)) λö ö h'=>h'.elim))
noncomputable def Hb (P:PW) (sc':bD) (target:ay) (tgt:List String):Prop:=
 ∀(A:bd) (n:Nat×Nat) (fr:List Env) (cenv:Env) (g:Gh) (σ:ah) (s:ak) (m:Str->Option ag) (p:PV) (v:ag) (b:aE) (Q:Unit->ak->Prop) (E:ag->ak->Prop),
  jP A n fr->cenv.scope=sc'->sc'.kind=.function->dq P g σ s.heap->g.tag cenv.locals=.frm cenv.locals->s.heap.Ns cenv.locals m->cR P g s.heap p v->i4 tgt p=some b->
  (∀s' m',dX (some cenv.locals) g g s.heap s'.heap->dq P g σ s'.heap->s'.heap.Ns cenv.locals m'->(∀x q,b.lookup x=some q->x∈tgt/\∃u,m' (aa x)=some u/\cR P g s'.heap q u)->fU s s'->Q () s')->
  wpAny (model P.prog P.w) A (assign target cenv v) Q E s
theorem Dc {cenv:Env} {y:String} {v:ag} {p1:Pos} {s:ak} {m:Str->Option ag} {Q:Unit->ak->Prop} {E:ag->ak->Prop} (kx:cenv.kindOf (aa y)=some .local) (hf:cenv.scope.kind=.function) (G:dq P g σ s.heap) (t:g.tag cenv.locals=.frm cenv.locals) (hn:s.heap.Ns cenv.locals m)
  (hQ:∀s',dX (some cenv.locals) g g s.heap s'.heap->dq P g σ s'.heap->s'.heap.Ns cenv.locals (λz=>if z=aa y then some v else m z)->fU s s'->Q () s'):wpAny (model P.prog P.w) A (assign (.Name (aa y) p1) cenv v) Q E s:=by
 refine PyProof.Rows.assign_Name (wpAny_storeName_local kx hn (λh' hn' sb=>?_) (by simp[hf]));obtain⟨ad,G'⟩:=oo G t sb (by
  obtain⟨o,es,ep,ho,hd,_⟩:=hn';exact⟨o,ho,λvs q=>by rw[hd]at q;contradiction⟩)
 exact hQ {s with heap:=h',toks:=s.toks+1} ad G' hn' ⟨rfl,rfl,rfl⟩
theorem po {z y:String} {p q:PV} {l:aE} (e:d7 z ((y,p)::l)=some q):(z=y/\p=q)\/(z≠y/\l.lookup z=some q):=by
 rw[aW]at e;by_cases h:z=y
 ·rw[beq_iff_eq.mpr h]at e;exact .inl ⟨h,Option.some.inj e⟩
 ·rw[beq_eq_false_iff_ne.mpr h]at e;exact .inr ⟨h,e⟩
theorem Hb.name {sc':bD} {x:Str} {pos:Pos} {y:String} (hx:x=aa y) (hk:sc'.names.lookup x=some .local):Hb P sc' (.Name x pos) [y]:=by
 intro A n fr cenv g σ s m p v b Q E hA hsc hf G t hn r hb hQ;subst hx;cases hb
 refine Dc (by rw[Env.kindOf,hsc];exact hk) (by rw[hsc];exact hf) G t hn λs' ad G' hn' sm=>hQ s' _ ad G' hn' (λz q e=>?_) sm;rcases po e with⟨h,e⟩|⟨_,e⟩
 ·exact h.symm▸e▸⟨.head _,v,if_pos rfl,r.mono ad⟩
 ·contradiction
theorem Hb.two {sc':bD} {x y:Str} {p1 p2 p3:Pos} {k:Nat} {x' y':String} (hx:x=aa x') (hy:y=aa y') (hne:x'≠y') (hk:sc'.names.lookup x=some .local) (hk':sc'.names.lookup y=some .local):
  Hb P sc' (.Tuple [.Name x p1,.Name y p2] k p3) [x',y']:=by
 intro A n fr cenv g σ s m p v b Q E hA hsc hf G t hn r hb hQ;subst hx hy;cases p with
 |tup l=>
  refine mI hb λhl hb=>?_;cases l with
  |nil=>contradiction
  |cons p l=>cases l with
   |nil=>contradiction
   |cons q l=>cases l with
    |cons _ _=>contradiction
    |nil=>
     cases hb
     refine Mine.Internal.cps λζ κ=>?_;obtain⟨a,vs,e,_,itp,rs⟩:=r;obtain⟨v,w,e',rv,rw⟩:=rs.two;replace itp:=(e')▸itp;refine κ ?_;refine e.symm▸?_;refine assign_Tuple_tuple hA.handled itp rfl rfl λcL he=>?_;obtain⟨ad,gW⟩:=lO G t (pr hn he);refine assignInOrder_cons (Dc (s:={s with heap:=cL}) (by rw[Env.kindOf,hsc];exact hk) (by rw[hsc];exact hf) gW t (hn.at' λo e=>he _ o (dr (dn e)) e) λcx eM hV MV eU=>?_);refine assignInOrder_cons (Dc (by rw[Env.kindOf,hsc];exact hk') (by rw[hsc];exact hf) hV t MV λfw lR qq MU oV=>?_);have sm:=eU.trans oV;have ad':=ad.weaken.trans (eM.trans lR);refine assignInOrder_nil (hQ fw _ ad' qq MU (λz u e=>?_) ⟨sm.1,sm.2.1,sm.2.2⟩);rcases po e with⟨h,e⟩|⟨_,e⟩
     ·exact h.symm▸e▸⟨.head _,v,(if_neg λq=>hne (dy q)).trans (if_pos rfl),rv.mono ad'⟩
     ·rcases po e with⟨h,e⟩|⟨_,e⟩
      ·exact h.symm▸e▸⟨.tail _ (.head _),w,if_pos rfl,rw.mono ad'⟩
      ·contradiction
 |_=>exact nS hb
end
open PySem PySem.W PyProof.Rows PySem.Calls
section
variable {P:PW} {cls:ag} {cf:String->List PV->MM PV} {W:Nat} {n:Nat×Nat} {sc:bD} {A:bd} {env:Env} {ρ:aE} {fr:List Env} {g g' fG:Gh} {h h' h₀:Heap} {σ:ah} {L:Addr} {α β γ δ:Type}
inductive sP (P:PW) (cls:ag) (cf:String->List PV->MM PV) (n:Nat×Nat) (sc':bD):List ay->Option ME->Prop
 |none:sP P cls cf n sc' [] none
 |one {c:ay} {mc:ME}:ST P cls cf n sc' c mc->sP P cls cf n sc' [c] (some mc)
noncomputable def oz (cf:String->List PV->MM PV) (tgt:List String) (ρ:aE) (cond:Option ME) (b:aE):MM Bool:=match cond with
 |Option.none=>MM.pure true
 |some c=>eO (bu cf (compEnv tgt ρ b) c)
noncomputable def i6 (acc:List PV):qn (List PV)->qn (List PV)
 |.ok rs σ=>.ok (acc++rs) σ
 |.exc _=>.bad
 |.bad=>.bad
structure pK (scope sc:bD) (tgt:List String):Prop where
 kind:scope.kind=.function
 names:∀x∈scope.names,x.2=.local->scope.names.lookup x.1=some .local
 loc:∀y,scope.names.lookup (aa y)=some .local->y∈".0"::tgt
 cell:∀x,scope.names.lookup x≠some .cell
 nocell:∀x∈scope.names,x.2≠.cell
 free:∀y,scope.names.lookup (aa y)=some .free->(aa y,NameKind.free)∈scope.names/\y∉tgt/\y≠".0"
 outer:∀p∈scope.names,p.2=.free->sc.names.lookup p.1=some .cell
 outer':∀x,scope.names.lookup x=some .free->sc.names.lookup x=some .cell
structure lX (P:PW) (fG:Gh) (h₀:Heap) (X:List Addr) (D C:Addr) (St:Nat->Gh->Heap->Prop) (i:Nat) (acc:List PV) (g:Gh) (h:Heap):Prop where
 ad:dX none fG g h₀ h
 pins:∀a∈X,g.tag a=.pin
 tD:g.tag D=.pin
 tC:g.tag C=.frm C
 ls:∃ys,BY h D ys/\aU P g h acc ys
 st:St i g h
section
variable {X:List Addr} {D C:Addr} {St:Nat->Gh->Heap->Prop} {i j:Nat} {acc:List PV} {target:ay} {it:ag} {l:List PV}
theorem lX.mono (IT:mR P A target it l X St) (noC:∀a,fG.tag a≠.frm C) (b:lX P fG h₀ X D C St i acc g h) (ad:dX (some C) g g' h h'):lX P fG h₀ X D C St i acc g' h' where
 ad:=(b.ad.weaken.trans ad).strip noC
 pins a ha:=ad.tagP (b.pins a ha)
 tD:=ad.tagP b.tD
 tC:=ad.tagF b.tC
 ls:=let⟨ys,⟨i,e⟩,r⟩:=b.ls;⟨ys,⟨i,ad.fix _ _ e (.inr (.inr b.tD))⟩,r.mono ad⟩
 st:=IT.stays _ _ _ _ _ _ ad b.pins b.st
theorem lX.next (hX:∀a∈X,fG.tag a=.free) (DX:D∉X) (b:lX P fG h₀ X D C St i acc g h) (ad:dX none (g.unpin X) g' h h') (p:∀a∈X,g'.tag a=.pin) (st:St j g' h'):lX P fG h₀ X D C St j acc g' h' where
 ad:=(b.ad.unpin b.pins hX).trans ad
 pins:=p
 tD:=ad.tagP ((if_neg DX).trans b.tD)
 tC:=ad.tagF ((bI b.pins (fN b.tC rfl)).trans b.tC)
 ls:=let⟨ys,⟨i,e⟩,r⟩:=b.ls;⟨ys,⟨i,ad.fix _ _ e (.inr (.inr ((if_neg DX).trans b.tD)))⟩,(r.unpin b.pins).mono ad⟩
 st:=st
theorem lX.ns (b:lX P fG h₀ X D C St i acc g h) (ad:dX none (g.unpin X) g' h h') {m:Str->Option ag} (n:h.Ns C m):h'.Ns C m:=ad.ns ((bI b.pins (fN b.tC rfl)).trans b.tC) n
theorem lX.CD (b:lX P fG h₀ X D C St i acc g h):C≠D:=λq=>by have:=b.tC;rw[q,b.tD]at this;contradiction
theorem un1 {a:Addr} (ne:a≠D):(g.unpin [D]).tag a=g.tag a:=if_neg λq=>ne (aC.mp q)
theorem lX.pD (b:lX P fG h₀ X D C St i acc g h):∀a∈[D],g.tag a=.pin:=λa ha=>aC.mp ha▸b.tD
theorem lX.push (IT:mR P A target it l X St) (fD:fG.tag D=.free) (DX:D∉X) (b:lX P fG h₀ X D C St i acc g h) (G:dq P g σ h) {m:Str->Option ag} (n:h.Ns C m) {q:PV} {y:ag} (ry:cR P g h q y) {T:Prop}
  (k:∀(ys:List ag) (j:Nat) (g':Gh),h.get? D=some {cls:=.type "list",data:=.seq ys.toArray j}->acc.length=ys.length->dq P g' σ (h.update D (Obj.mapSeq λxs=>xs.push y))->
   lX P fG h₀ X D C St i (acc++[q]) g' (h.update D (Obj.mapSeq λxs=>xs.push y))->(h.update D (Obj.mapSeq λxs=>xs.push y)).Ns C m->T):T:=by
 obtain⟨ys,⟨j,hj⟩,ra⟩:=b.ls;have hnew:=gk (Obj.mapSeq λxs=>xs.push y) hj rfl;obtain⟨g',ad,G',p',_⟩:=zw (h':=h.update D (Obj.mapSeq λxs=>xs.push y)) (X:=[D]) G b.tC n b.pD (λa o nb e=>by
   rw[fW _ _ (λq=>nb (by rw[q];exact .head _))];exact e) (λa ha=>by
   rw[aC.mp ha,hnew];rfl) [] nofun
 have pX:∀a∈X,(g.unpin [D]).tag a=.pin:=λa ha=>(un1 λ(e:a=D)=>DX (e▸ha)).trans (b.pins a ha);refine k ys j g' hj (aU.length ra) G' ⟨(b.ad.unpin b.pD λa ha=>aC.mp ha▸fD).trans ad,λa ha=>ad.tagP (pX a ha),p' D (.head _),ad.tagF ((un1 b.CD).trans b.tC),
  ⟨ys++[y],⟨if(ys.toArray.push y).size==ys.toArray.size then j else j+1,?_⟩,aU.append ((ra.unpin b.pD).mono ad) ⟨(ry.unpin b.pD).mono ad,trivial⟩⟩,IT.stays _ _ _ _ _ _ ad pX (IT.forget _ _ _ _ b.pD b.st)⟩ (ad.ns ((un1 b.CD).trans b.tC) n)
 rw[hnew];simp[Obj.mapSeq]
theorem lX.close (hX:∀a∈X,fG.tag a=.free) (DX:D∉X) (fD:fG.tag D=.free) (b:lX P fG h₀ X D C St i acc g h) {m:Str->Option ag} (n:h.Ns C m) (ad:dX none (g.unpin X) g' h h') (G:dq P g' σ h') {T:Prop}
  (k:∀g'',dX none fG g'' h₀ h'->dq P g'' σ h'->g''.tag C=.frm C->h'.Ns C m->cR P g'' h' (.list acc) (.ref D)->T):T:=by
 have tD':(g.unpin X).tag D=.pin:=(if_neg DX).trans b.tD;have pD:∀a∈[D],g'.tag a=.pin:=λa ha=>aC.mp ha▸ad.tagP tD';obtain⟨ys,⟨j,e⟩,r⟩:=b.ls;have hj:=ad.fix _ _ e (.inr (.inr tD'));have n':=b.ns ad n;have tC:=(un1 b.CD).trans (ad.tagF ((bI b.pins (fN b.tC rfl)).trans b.tC));obtain⟨ad',G'⟩:=Ac (h':=h') (G.unpin pD) tC (λa o ö ö e=>e) ⟨m,n',n'⟩ [(D,.frz)] (λp hp=>by
  refine(aC.mp hp).symm▸?_;exact⟨if_pos (.head _),(hj.symm▸rfl)⟩) (by simp)
 exact k _ ((((b.ad.unpin b.pins hX).trans ad).unpin pD λa ha=>aC.mp ha▸fD).trans ad') G' (ad'.tagF tC) n' ⟨D,ys,rfl,if_pos rfl,⟨j,hj⟩,(((r.unpin b.pins).mono ad).unpin pD).mono ad'⟩
end
inductive MJ (P:PW) (s:ak) (lM:qn (List PV)) (R:List PV->ah->qn (List PV)) (l:List PV) (C:Addr) (B:Nat->List PV->Gh->Heap->Prop) (k:Nat) (s':ak):Prop
 |mk (i:Nat) (g':Gh) (aF:ah) (acc:List PV) (m:Str->Option ag):l.length-i<k->i<=l.length->i6 acc (R (l.drop i) aF)=i6 [] lM->acc.length<=i->dq P g' aF s'.heap->B i acc g' s'.heap->s'.heap.Ns C m->fU s s'->MJ P s lM R l C B k s'
theorem yU (acc:List PV) (q:PV) (m:MM (List PV)) (σ:ah):i6 (acc++[q]) (m σ)=i6 acc (MM.bind m (λrs=>MM.pure (q::rs)) σ):=by
 unfold MM.bind;cases m σ<;>simp[i6,MM.pure]
theorem BI {elt target iter:ay} {ifs:List ay} {melt:ME} {cond:Option ME} {scope:bD} {cpos:Pos} {tgt:List String} (hsc:env.scope=sc) (hA:jP A n fr) (K:pK scope sc tgt)
  (hg:Hb P (jn scope sc) target tgt) (he:SE P cls cf n (jn scope sc) elt melt) (hc:sP P cls cf n (jn scope sc) ifs cond)
  {l:List PV} {it:ag} {X:List Addr} {St:Nat->Gh->Heap->Prop} {s:ak} {E:ag->ak->Prop} {Rst:ag->Addr->Result->ak->Prop}
  (G:dq P g σ s.heap) (V:EnvRel P g s.heap env ρ) (F:dc g s.heap fr) (IT:mR P A target it l X St) (hX:∀a∈X,g.tag a=.free/\(s.heap.get? a).isSome=true) (st0:St 0 (g.pin X) s.heap)
  {lM:qn (List PV)} (hm:lP (oz cf tgt ρ cond) (λb=>bu cf (compEnv tgt ρ b) melt) tgt l σ=lM) (hbad:i6 [] lM≠.bad) (hlen:l.length<=dm)
  (fin:∀D C s' g' aF acc m',lM=.ok acc aF->dX none g g' s.heap s'.heap->dq P g' aF s'.heap->g.tag C=.free->g'.tag C=.frm C->s'.heap.Ns C m'->cR P g' s'.heap (.list acc) (.ref D)->fU s s'->Rst (.ref D) C (.ok .next) s'):
  wpAny (model P.prog P.w) A (newList []) (λacc fw=>wpAny (model P.prog P.w) A (newFunctionEnv scope env.globals (fj env scope.names []) [] env.qual none .none (some env)) (λcenv lK=>
   codeAny (model P.prog P.w) A (.compStart (.ListComp elt [⟨target,iter,ifs,0⟩] scope cpos) 0 it acc {cenv with scope:=relabel scope env}) (Rst acc cenv.locals) lK) E fw) E s:=by
 refine V.lclK λM tL mL hnL=>?_;obtain⟨ad1,G1⟩:=mC hX G;have p1:∀a∈X,(g.pin X).tag a=.pin:=λa ha=>qF ha;refine wpAny_newObj_type ?_ (by show 0<=sizeLine;exact aL _);have hD:=bA s.heap (o:={cls:=.type "list",data:=.seq ([]:List ag).toArray}) rfl;generalize eD:s.heap.objs.size=D at hD⊢;have fD:s.heap.get? D=none:=aT (by rw[<-eD];exact au _);generalize eh1:s.heap.push {cls:=.type "list",data:=.seq ([]:List ag).toArray}=h1 at hD⊢;have k1:∀a o,s.heap.get? a=some o->h1.get? a=some o:=λa o e=>by rw[<-eh1];exact az _ e
 obtain⟨ad2,G2⟩:=DF G1 (ad1.tagF tL) (.of_all hnL k1) [(D,.pin)] (λp hp=>by
  rcases aC.mp hp with rfl
  exact⟨fD,by rw[hD];rfl⟩) (by simp)
 generalize eg2:(g.pin X).puts [(D,.pin)]=g2 at ad2 G2;have DX:D∉X:=λq=>by have:=(hX D q).2;rw[fD]at this;contradiction
 have tD2:g2.tag D=.pin:=by rw[<-eg2];simp[Gh.puts_n,Gh.puts_c,Gh.put]
 have p2:∀a∈X,g2.tag a=.pin:=λa ha=>ad2.tagP (p1 a ha);have st2:St 0 g2 h1:=IT.stays 0 none _ _ _ _ ad2 p1 st0;refine wpAny_newFunctionEnv K.nocell (by simp) (λh2 hns hsb=>?_) K.kind;have hnone:(some env).isSome=true:=rfl;generalize eC:h1.objs.size=C at hns hsb⊢;have fC1:h1.get? C=none:=aT (by rw[<-eC];exact au _);have k2:∀a o,h1.get? a=some o->h2.get? a=some o:=λa o e=>by
  rw[hsb.2 a (λq=>by rw[q,fC1]at e;contradiction)];exact az _ e
 have nfC:∃o,h2.get? C=some o/\∀vs,o.data≠.fields vs:=by
  obtain⟨o,es,ep,ho,hd,_⟩:=hns;exact⟨o,ho,λvs q=>by rw[hd]at q;contradiction⟩
 have fC:g.tag C=.free:=G.free (by
  induction q:s.heap.get? C with
  |none=>rfl
  |some o=>rw[k1 C o q]at fC1;contradiction)
 obtain⟨ad3,G3⟩:=DF G2 (ad2.tagF (ad1.tagF tL)) (.of_all (m:=mL) (hnL.keeps k1) k2) [(C,.frm C)] (λp hp=>by
  rcases aC.mp hp with rfl
  obtain⟨o,ho,_⟩:=nfC;exact⟨fC1,by rw[ho];rfl⟩) (λa M' e=>by
   rw[aC]at e;injection e with e1 e2;injection e2 with e2;subst e1 e2;exact⟨by simp[Gh.puts_n,Gh.puts_c,Gh.put],nfC⟩)
 generalize eg3:g2.puts [(C,.frm C)]=g3 at ad3 G3;have tC3:g3.tag C=.frm C:=by rw[<-eg3];simp[Gh.puts_n,Gh.puts_c,Gh.put]
 have p3:∀a∈X,g3.tag a=.pin:=λa ha=>ad3.tagP (p2 a ha);have st3:St 0 g3 h2:=IT.stays 0 none _ _ _ _ ad3 p2 st2;have tD3:g3.tag D=.pin:=ad3.tagP tD2;have AD3:dX none g g3 s.heap h2:=(ad1.trans ad2).trans ad3;have noC:∀a,g.tag a≠.frm C:=uL G fC;have freeX:∀a∈X,g.tag a=.free:=λa ha=>(hX a ha).1;have fD':g.tag D=.free:=G.free fD;have kindF:∀x,scope.names.lookup x=some .free->env.kindOf x=some .cell:=λy e=>by rw[Env.kindOf,hsc];exact K.outer' y e
 have crel:∀{g' h' m b},dX none g g' s.heap h'->g'.tag C=.frm C->h'.Ns C m->(∀x p,b.lookup x=some p->x∈tgt/\∃v,m (aa x)=some v/\cR P g' h' p v)->EnvRel P g' h' (compEnvC scope (fj env scope.names []) C env) (compEnv tgt ρ b):=λad tC hm hb=>
  yz (V.mono ad) K.kind tC hm K.loc K.cell K.free (λx p e=>(hb x p e).1) (λx p e=>(hb x p e).2) kindF
 have scC:(compEnvC scope (fj env scope.names []) C env).scope=jn scope sc:=by
  show relabel scope env=_;rw[Fu,hsc]
 have loop:codeAny (model P.prog P.w) A (.compLoop (.ListComp elt [⟨target,iter,ifs,0⟩] scope cpos) 0 it (.ref D) (compEnvC scope (fj env scope.names []) C env)) (Rst (.ref D) C) {s with heap:=h2,toks:=s.toks}:=by
  refine BJ (MJ P s lM (lP (oz cf tgt ρ cond) (λb=>bu cf (compEnv tgt ρ b) melt) tgt) l C (lX P g s.heap X D C St))
   (λk cg ⟨i,hR,aZ,acc,y0,hk,hi,dB,la,gW,vt,Hj,kc⟩=>?_) (l.length+1)
   ⟨0,g3,σ,[],_,b8 _,aL _,by rw[kn,hm],aL _,G3,⟨AD3,p3,tD3,tC3,⟨[],⟨0,k2 D _ hD⟩,trivial⟩,st3⟩,hns,⟨rfl,rfl,rfl⟩⟩
  by_cases hlt:i<l.length
  ·obtain⟨p,hp,hd⟩:=Am hlt;rw[hd]at dB;replace dB:i6 acc (MM.bind (bJ (i4 tgt p)) _ aZ)=_:=dB;refine IT.next i p hp hR aZ cg C C y0 _ _ gW vt.tC Hj vt.pins vt.st λv cx ju eM hV Hh Ew rv eU=>?_;have Kv:=vt.next freeX DX eM Hh Ew
   induction hbt:i4 tgt p with
   |none=>rw[hbt]at dB;exact absurd dB.symm hbad
   |some b=>
    rw[hbt]at dB;replace dB:i6 acc (MM.bind (oz cf tgt ρ cond b) _ aZ)=_:=dB;refine hg A n fr (compEnvC scope (fj env scope.names []) C env) ju aZ cx y0 p v b _ _ hA scC K.kind hV Kv.tC (vt.ns eM Hj) rv hbt λfw m₃ lR qq Hi Ic oV=>?_;have Hl:=Kv.mono IT noC lR;have AI:=(kc.trans eU).trans oV;have hk':l.length-(i+1)<l.length-i:=Cb _ _ hlt;refine aA (Q:=λok lK=>∃fq sR,oz cf tgt ρ cond b aZ=.ok ok fq/\dX none ju sR fw.heap lK.heap/\dq P sR fq lK.heap/\fU fw lK) (E:=λö ö=>False) ?_ (λok lK ⟨fq,sR,Km,sU,BZ,Ey⟩=>?_) λö ö z=>z
    ·induction hc with
     |none=>exact wpAny_tests_nil ⟨aZ,ju,rfl,.refl ..,qq,.refl fw⟩
     |@one c mc hct=>
      exact wpAny_tests_one (al _ _ _ _ (λc lK ⟨t,fq,sR,q,ad,G4,et,sm⟩=>⟨fq,sR,et▸q,ad,G4,sm⟩) (hct A _ _ fr scC hA ju aZ fw (λö ö=>False) qq (crel Hl.ad Kv.tC Hi Ic) (F.mono Hl.ad) trivial
       (λq=>hbad (dB.symm.trans (congrArg (i6 acc) (MM.bind_bad q)))) λe s' g' aF q=>absurd (dB.symm.trans (congrArg (i6 acc) (MM.bind_exc q))) hbad))
    rw[MM.bind_ok Km]at dB;have B2:=Hl.mono IT noC sU.weaken;have Kq:=sU.ns Hl.tC Hi;have um:=AI.trans Ey
    induction ok with
    |false=>exact⟨_,hk,i+1,sR,fq,acc,_,hk',hlt,dB,bP la,BZ,B2,Kq,um⟩
    |true=>
     replace dB:i6 acc (MM.bind (bu cf (compEnv tgt ρ b) melt) _ fq)=_:=dB;refine al _ _ _ _ (λy Kl ⟨q,kQ,g₅,q₅,Ij,G₅,ry,MQ⟩=>?_) (he A _ _ fr scC hA sR fq lK (λö ö=>False) BZ (crel B2.ad B2.tC Kq λx q e=>let⟨a,u,b,c⟩:=Ic x q e;⟨a,u,b,c.mono sU⟩) (F.mono B2.ad) trivial
      (λq=>hbad (dB.symm.trans (congrArg (i6 acc) (MM.bind_bad q)))) λe s' g' aF q=>absurd (dB.symm.trans (congrArg (i6 acc) (MM.bind_exc q))) hbad)
     rw[MM.bind_ok q₅]at dB;refine(B2.mono IT noC Ij.weaken).push IT fD' DX G₅ (Ij.ns B2.tC Kq) ry λys j g₆ hj ll G₆ B₆ n₆=>?_;exact call_meets PySem.F.slot_list_append ⟨_,hj,rfl⟩ PySem.F.entry_list_append (PySem.F.args_list_append_2 _ _) (list_append _ ys.toArray j y (ae (ae (show ys.length<=i from ll▸la) (cu hlt)) (ae hlen nP)))
      ⟨hj,_,hk,i+1,g₆,kQ,acc++[q],_,hk',hlt,(yU ..).trans dB,by rw[af];exact aK la,G₆,B₆,n₆,um.trans MQ⟩
  ·have q:i=l.length:=am hi (du hlt);rw[q,fJ]at dB;refine IT.done hR aZ cg C C y0 _ _ gW vt.tC Hj vt.pins (q▸vt.st) λcx ju eM hV eU=>?_;have MW:lM=.ok acc aZ:=by
    induction lM with
    |ok rs aF=>simpa[i6,u8,MM.pure,eq_comm]using dB
    |exc _=>simp[i6,u8,MM.pure]at dB
    |bad=>simp[i6,u8,MM.pure]at dB
   exact vt.close freeX DX fD' Hj eM hV λsT lR qq MN Hi r=>fin D C cx sT aZ acc y0 MW lR qq fC MN Hi r (kc.trans eU)
 refine codeAny_compStart_list loop ?_;exact IT.self 0 g3 _ _ _ st3 loop
end
open PySem PySem.W PyProof.Rows PySem.Calls
section
variable {P:PW} {cls:ag} {cf:String->List PV->MM PV} {W:Nat} {n:Nat×Nat} {sc:bD} {A:bd} {env:Env} {ρ:aE} {fr:List Env} {g g' fG:Gh} {h h' h₀:Heap} {σ:ah} {L:Addr} {α β γ δ:Type}
theorem Ar (elt:ME) (tgt:List String) (kind:String) (it:ME) (cond:Option ME) (ρ:aE):bu cf ρ (.comp elt tgt kind it cond)=MM.bind (MM.bind (bu cf ρ it) λv=>bJ (pU kind v)) λl=>
  MM.bind (mE (lP (oz cf tgt ρ cond) (λb=>bu cf (compEnv tgt ρ b) elt) tgt l)) λr=>bJ (if l.length<=dm then gb r else Option.none):=by
 rw[MM.bind_assoc]
 induction cond<;>rfl
noncomputable def As (P:PW) (A:bd) (env:Env) (elt target iter:ay) (ifs:List ay) (scope:bD) (cpos:Pos) (it:ag) (K:(ag->ak->Prop)->(ag->ak->Prop)->ag->Addr->Result->ak->Prop):WT ag:=λQ E s=>
 wpAny (model P.prog P.w) A (newList []) (λacc fw=>wpAny (model P.prog P.w) A (newFunctionEnv scope env.globals (fj env scope.names []) [] env.qual none .none (some env)) (λcenv lK=>
   codeAny (model P.prog P.w) A (.compStart (.ListComp elt [⟨target,iter,ifs,0⟩] scope cpos) 0 it acc {cenv with scope:=relabel scope env}) (K Q E acc cenv.locals) lK) E fw) E s
theorem C8 {α:Type} {x:MM α} {σ:ah} (h:mE x σ≠.bad):∃a aF,x σ=.ok a aF/\mE x σ=.ok a aF:=by
 unfold mE at h⊢
 induction e:x σ with
 |ok a aF=>exact⟨a,aF,rfl,rfl⟩
 |exc _=>rw[e]at h;exact absurd rfl h
 |bad=>rw[e]at h;exact absurd rfl h
theorem wO {elt target iter:ay} {ifs:List ay} {melt:ME} {cond:Option ME} {scope:bD} {cpos:Pos} {tgt:List String} {K:(ag->ak->Prop)->(ag->ak->Prop)->ag->Addr->Result->ak->Prop} (hsc:env.scope=sc) (hA:jP A n fr) (Ks:pK scope sc tgt)
  (hg:Hb P (jn scope sc) target tgt) (he:SE P cls cf n (jn scope sc) elt melt) (hc:sP P cls cf n (jn scope sc) ifs cond)
  {l:List PV} {it:ag} {s:ak} {E Q:ag->ak->Prop}
  (G:dq P g σ s.heap) (V:EnvRel P g s.heap env ρ) (F:dc g s.heap fr) (hp:∃X St,mR P A target it l X St/\(∀a∈X,g.tag a=.free/\(s.heap.get? a).isSome=true)/\St 0 (g.pin X) s.heap)
  (hb:MM.bind (mE (lP (oz cf tgt ρ cond) (λb=>bu cf (compEnv tgt ρ b) melt) tgt l)) (λr=>bJ (if l.length<=dm then gb r else Option.none)) σ≠.bad)
  (fin:∀D C s' g' aF acc m',MM.bind (mE (lP (oz cf tgt ρ cond) (λb=>bu cf (compEnv tgt ρ b) melt) tgt l)) (λr=>bJ (if l.length<=dm then gb r else Option.none)) σ=.ok (.list acc) aF->
   dX none g g' s.heap s'.heap->dq P g' aF s'.heap->g.tag C=.free->g'.tag C=.frm C->s'.heap.Ns C m'->cR P g' s'.heap (.list acc) (.ref D)->fU s s'->K Q E (.ref D) C (.ok .next) s'):
  As P A env elt target iter ifs scope cpos it K Q E s:=by
 refine Mine.Internal.cps λζ κ=>?_;obtain⟨X,St,IT,hX,st0⟩:=hp;have hb1:mE (lP (oz cf tgt ρ cond) (λb=>bu cf (compEnv tgt ρ b) melt) tgt l) σ≠.bad:=λq=>hb (by simp only[MM.bind,q]);obtain⟨acc,aF,e1,e2⟩:=C8 hb1;have hlen:l.length<=dm:=by
  by_cases q:l.length<=dm
  ·exact q
  ·exact absurd (by simp only[MM.bind,e2,if_neg q,bJ]) hb
 refine κ ?_;refine BI (K:=Ks) (Rst:=K Q E) hsc hA hg he hc G V F IT hX st0 e1 (by simp[i6]) hlen λD C s' g' σ'' acc' m' q ad G' f1 f2 n' r sm=>?_;cases q
 refine fin D C s' g' aF acc m' ?_ ad G' f1 f2 n' r sm;by_cases q:acc.length<=dm
 ·simp only[MM.bind,e2,if_pos hlen,gb,if_pos q,bJ]
 ·exact absurd (by simp only[MM.bind,e2,if_pos hlen,gb,if_neg q,bJ]) hb
theorem sr {elt target iter:ay} {ifs:List ay} {scope:bD} {cpos:Pos} {it:ag} {K:(ag->ak->Prop)->(ag->ak->Prop)->ag->Addr->Result->ak->Prop}
  (hK:∀Q Q' E a c r s,(∀v s,Q v s->Q' v s)->K Q E a c r s->K Q' E a c r s):g0 (As P A env elt target iter ifs scope cpos it K):=λQ Q' E s x y=>
 aA y (λö ö z=>aA z (λö ö w=>kU w λö ö v=>hK _ _ _ _ _ _ _ x v) λö ö z=>z) λö ö z=>z
theorem sw {scope:bD} {tgt:List String} (Ks:pK scope sc tgt) (hsc:env.scope=sc) (V:EnvRel P g h env ρ):closureFor scope env=pure (fj env scope.names []):=
 yC scope env λp hp hk=>V.has p.1 (by rw[Env.kindOf,hsc];exact Ks.outer p hp hk)
theorem SE.comp {elt target iter:ay} {ifs:List ay} {melt mit:ME} {cond:Option ME} {kind:String} {scope:bD} {cpos:Pos} {tgt:List String} (Ks:pK scope sc tgt) (hi:SI P cls cf n sc target iter kind mit)
  (hg:Hb P (jn scope sc) target tgt) (he:SE P cls cf n (jn scope sc) elt melt) (hc:sP P cls cf n (jn scope sc) ifs cond) (hf:∀env x,foldedSetIterable iter env x=pure x):
  SE P cls cf n sc (.ListComp elt [⟨target,iter,ifs,0⟩] scope cpos) (.comp melt tgt kind mit cond):=λA env ρ fr hs hA=>by
 rw[Ar];refine(aQ.bind (T:=λQ E s=>eJ P A (eval iter env) (λx cg=>eJ P A (pyIter x) Q E cg) E s) (U:=λit=>As P A env elt target iter ifs scope cpos it λQ E=>Ee (model P.prog P.w) A E none Q)
  (λQ Q' E s x y=>al _ _ _ _ (λö ö z=>al _ _ _ _ x z) y) (λö=>sr ?_) (hi A env ρ fr hs hA) λl it=>?_).ofE λQ E s g σ G V ö w=>?_
 ·intro Q Q' E a c r s x y
  induction r with
  |ok f=>
   obtain⟨m,hn,hq⟩:=y;exact⟨m,hn,λh' m' a b=>x _ _ (hq h' m' a b)⟩
  |error e=>exact y
 ·intro g σ s E G V F hp hb hE;refine wO hs hA Ks hg he hc G V F hp hb λD C s' g' aF acc m' e ad G' f1 f2 n' r sm=>?_;refine⟨m',n',λh'' m'' hn'' sb=>?_⟩;have nf:∃o,h''.get? C=some o/\∀vs,o.data≠.fields vs:=by
   obtain⟨o,es,ep,ho,hd,_⟩:=hn'';exact⟨o,ho,λvs q=>by rw[hd]at q;contradiction⟩
  obtain⟨ad2,G2⟩:=oo G' f2 sb nf;exact⟨_,aF,g',e,(ad.weaken.trans ad2).strip (uL G f1),G2,r.mono ad2,⟨sm.1,sm.2.1,sm.2.2⟩⟩
 ·rw[eval_ListComp];exact wP rfl (hf env) (sw Ks hs V) Ks.kind Ks.names w
theorem iO.monoC {C:Addr} (hC:C≠env.locals) (x:dX (some C) g g' h h') (V:iO P g h env ρ):iO P g' h' env ρ:=by
 have k:∀a,g.tag a=.frm env.locals->jj h h' a:=λa t=>x.frm a _ t λq=>by injection q with q;exact hC q
 exact{
  fn:=V.fn,has:=V.has,gl:=V.gl,bi:=V.bi,sep:=V.sep,nofree:=V.nofree
  own:=x.tagF V.own
  tag:=⟨_,x.tagF V.own⟩
  ns:=let⟨m,hn,hv⟩:=V.ns;⟨m,(k _ V.own).ns m hn,λy p e q=>let⟨v,e1,r⟩:=hv y p e q;⟨v,e1,r.mono x⟩⟩
  cel:=λy p e q=>let⟨c,v,e1,_,e2,r⟩:=V.cel y p e q;⟨c,v,e1,⟨_,x.tagF (V.cells _ c e1).1⟩,(k c (V.cells _ c e1).1).cel _ e2,r.mono x⟩
  cells:=λy c e=>let⟨a,b,v,d⟩:=V.cells y c e;⟨x.tagF a,b,v,(k c a).cel _ d⟩}
theorem SS.asgComp {elt target iter:ay} {ifs:List ay} {melt mit:ME} {cond:Option ME} {kind:String} {scope:bD} {cpos:Pos} {tgt:List String} {x:Str} {y:String} {xpos pos:Pos} (Ks:pK scope sc tgt) (hi:SI P cls cf n sc target iter kind mit)
  (hg:Hb P (jn scope sc) target tgt) (he:SE P cls cf n (jn scope sc) elt melt) (hc:sP P cls cf n (jn scope sc) ifs cond) (hf:∀env x,foldedSetIterable iter env x=pure x)
  (hx:x=aa y) (hk:sc.names.lookup x=some .local) (hsw:∀env,env.scope=sc->swapsWith (.ListComp elt [⟨target,iter,ifs,0⟩] scope cpos) (some (.Name x xpos)) pos.line env=pure true):
  SS P cls cf W n sc (.Assign [.Name x xpos] (.ListComp elt [⟨target,iter,ifs,0⟩] scope cpos) pos) [.assign (.var y) (.comp melt tgt kind mit cond)]:=λA env ρ fr hs hA=>by
 subst hx;rw[c5];show dD P cls A env ρ fr _ _ (MM.bind (bu cf ρ (.comp melt tgt kind mit cond)) λv=>MM.bind (iu cf ρ (.var y) v) λf7=>MM.pure (Mine.Internal.Flow.next,f7)) _;rw[Ar,MM.bind_assoc];have kx:env.kindOf (aa y)=some .local:=by rw[Env.kindOf,hs];exact hk
 refine(dD.expr (T:=λQ E s=>eJ P A (eval iter env) (λx cg=>eJ P A (pyIter x) Q E cg) E s)
  (U:=λit (Q:PySem.Flow->ak->Prop) E s=>As P A env elt target iter ifs scope cpos it (λQ E=>Ee (model P.prog P.w) A E (some (assign (.Name (aa y) xpos) env)) Q) (λö=>Q .next) E s)
  (λQ Q' E s x y=>al _ _ _ _ (λö ö z=>al _ _ _ _ x z) y) (λö=>?_) (hi A env ρ fr hs hA) λl it=>?_).ofE λQ E s g σ ö G V ö w=>?_
 ·intro Q Q' E s x y;refine sr ?_ (λö=>Q .next) (λö=>Q' .next) E s (λö=>x .next) y;intro Q Q' E a c r s x y
  induction r with
  |ok f=>exact aA y (λ_ _ ⟨m,hn,hq⟩=>⟨m,hn,λh' m' a b=>x _ _ (hq h' m' a b)⟩) λö ö z=>z
  |error e=>exact y
 ·intro g σ s E G V F hO hp hb hE;have hb':MM.bind (mE (lP (oz cf tgt ρ cond) (λb=>bu cf (compEnv tgt ρ b) melt) tgt l)) (λr=>bJ (if l.length<=dm then gb r else Option.none)) σ≠.bad:=λq=>hb (by rw[MM.bind,q]);refine wO hs hA Ks hg he hc G V.toEnvRel F hp hb' λD C s' g' aF acc m' e ad G' f1 f2 n' r sm=>?_;refine PyProof.Rows.assign_Name (oi G' (V.mono ad) (.inl kx) r λcx eM hV lZ eU=>?_);have CL:C≠env.locals:=λq=>by have:=V.own;rw[<-q,f1]at this;contradiction
  have n₂:cx.heap.Ns C m':=(eM.frm C C f2 (λq=>by injection q with q;exact CL q.symm)).ns m' n';refine⟨m',n₂,λh'' m'' hn'' sb=>?_⟩;have nf:∃o,h''.get? C=some o/\∀vs,o.data≠.fields vs:=by
   obtain⟨o,es,ep,ho,hd,_⟩:=hn'';exact⟨o,ho,λvs q=>by rw[hd]at q;contradiction⟩
  obtain⟨ad3,G3⟩:=oo hV f2 sb nf;have AD:dX (some env.locals) g g' s.heap h'':=by
   have a1:dX (some env.locals) g g' s.heap cx.heap:=ad.weaken.trans eM;refine⟨a1.nle,a1.ateq,a1.tag,a1.tagS,λa o e q=>?_,λa M t hM=>?_⟩
   ·skip;have t1:g'.tag a=g.tag a:=a1.tag a (by rcases q with q|q|q<;>rw[q]<;>simp) (by rcases q with q|q|q<;>rw[q]<;>simp);exact ad3.fix a o (a1.fix a o e q) (t1.symm▸q)
   ·refine(a1.frm a M t hM).trans (ad3.frm a M (a1.tagF t) λq=>?_);injection q with q;exact uL G f1 a (q▸t)
  exact⟨.next,_,aF,g',by simp only[MM.bind]at e⊢;rw[e];rfl,AD,G3,lZ.monoC CL ad3,rfl,⟨(sm.trans eU).1,(sm.trans eU).2.1,(sm.trans eU).2.2⟩⟩
 ·refine(exec_Assign_Name_used _ _ _ _ (hsw env hs)).symm▸?_;refine av (wpAny_standAt (av ?_));show wpAny _ A (comprehension _ scope env _ (newList []) false (eval iter env) (some (assign (.Name (aa y) xpos) env))>>=λö=>pure ()) _ E s;refine av (aA (wP (Q:=λö=>Q .next) rfl (hf env) (sw Ks hs V.toEnvRel) Ks.kind Ks.names w) (λö ö z=>aG (aG z)) λö ö z=>z)
end
open PySem PySem.W PyProof.Rows PySem.Calls
section
variable {P:PW} {cls:ag} {cf:String->List PV->MM PV} {W:Nat} {n:Nat×Nat} {sc:bD} {A:bd} {env:Env} {ρ:aE} {fr:List Env} {g g' fG:Gh} {h h' h₀:Heap} {σ:ah} {L:Addr} {α β γ δ:Type}
noncomputable def sA (P:PW) (A:bd) (a:Addr) (vs:List ag):WT ag:=λQ E s=>
 codeAny (model P.prog P.w) A (.call (.ref a) ⟨vs,[]⟩) (λr s'=>match r with|.ok (.ret v)=>Q v s'|.ok _=>False|.error e=>E e s') s
noncomputable def iP (P:PW) (cls:ag) (cf:String->List PV->MM PV) (k:Nat):Prop:=
 ∀f a,P.fa f=some a->∀(A:bd) (l:Nat) (env:Env) (ρ:aE) (fr:List Env) (bs:List PV) (vs:List ag),jP A (k,l) fr->aQ P cls env ρ fr (λg h=>aU P g h bs vs) (sA P A a vs) (cf f bs) (cR P)
structure j9 (P:PW) (a:Addr) (fd:FuncData) (params:List String) (body:List eF):Prop where
 obj:∃o,P.B.get? a=some o/\o.data=.func fd
 code:P.B.CodeRec fd.code fd.qualname
 body:fd.body=.stmts body
 bind:∀(vals:List ag) (s:ak),vals.length=params.length->(∀b o,P.B.get? b=some o->s.heap.get? b=some o)->BindsTo s fd ⟨vals,[]⟩ ((params.map aa).zip vals)
 clo:fd.closure=[]
 par:∀x∈params,fd.scope.names.lookup (aa x)=some .local\/fd.scope.names.lookup (aa x)=some .cell
 nodup:params.Nodup
 co:fd.scope.isCoroutine=false
 gen:fd.scope.isGenerator=false
 kind:fd.scope.kind=.function
 glob:fd.globals=mainGlobals
 bi:fd.builtins=builtinsNs
 nofree:∀x,fd.scope.names.lookup x≠some .free
theorem jG:∀(names:List (Str×NameKind)) (k:Nat) (acc:List (Str×Addr)) (x:Str),(∃c,acc.lookup x=some c)->∃c,(cellsFrom k names acc).lookup x=some c
 |[],_,_,_,h=>h
 |(y,kd)::r,k,acc,x,h=>by
  unfold cellsFrom;split
  ·refine jG r _ _ x ?_;obtain⟨c,hc⟩:=h;rw[aW];split
   ·exact⟨_,rfl⟩
   ·exact⟨c,hc⟩
  ·exact jG r _ _ x h
theorem gH:∀(names:List (Str×NameKind)) (k:Nat) (acc:List (Str×Addr)) (x:Str),(x,NameKind.cell)∈names->∃c,(cellsFrom k names acc).lookup x=some c
 |(y,kd)::r,k,acc,x,h=>by
  unfold cellsFrom;rcases aH.mp h with q|q
  ·injection q with q1 q2;subst q1 q2;rw[if_pos (by rfl)];exact jG r _ _ x ⟨k,by simp⟩
  ·split
   ·exact gH r _ _ x q
   ·exact gH r _ _ x q
theorem pY (kindOf:Str->Option NameKind):∀(ps:List String) (vs:List ag) (m:Str->Option ag) (x:String),x∉ps->bindL kindOf ((ps.map aa).zip vs) m (aa x)=m (aa x)
 |[],_,_,_,_=>rfl
 |p::ps,[],_,_,_=>rfl
 |p::ps,v::vs,m,x,h=>by
  simp only[aH,not_or]at h;simp only[bq,iw,bindL];rw[pY kindOf ps vs _ x h.2];split
  ·exact if_neg (λq=>h.1 (dy q))
  ·rfl
theorem pZ (kindOf:Str->Option NameKind):∀(ps:List String) (vs:List ag) (m:Str->Option ag) (x:String),x∉ps->bindC kindOf ((ps.map aa).zip vs) m (aa x)=m (aa x)
 |[],_,_,_,_=>rfl
 |p::ps,[],_,_,_=>rfl
 |p::ps,v::vs,m,x,h=>by
  simp only[aH,not_or]at h;simp only[bq,iw,bindC];rw[pZ kindOf ps vs _ x h.2];split
  ·rfl
  ·exact if_neg (λq=>h.1 (dy q))
theorem pG (kindOf:Str->Option NameKind):∀(ps:List String) (bs:List PV) (vs:List ag) (m m':Str->Option ag) (x:String) (p:PV),ps.Nodup->aU P g h bs vs->(ps.zip bs).lookup x=some p->
  (kindOf (aa x)=some .local->∃v,bindL kindOf ((ps.map aa).zip vs) m (aa x)=some v/\cR P g h p v)/\
  (kindOf (aa x)≠some .local->∃v,bindC kindOf ((ps.map aa).zip vs) m' (aa x)=some v/\cR P g h p v)
 |[],_,_,_,_,_,_,_,_,e=>nomatch e
 |_::_,[],_,_,_,_,_,_,_,e=>nomatch e
 |_::_,_::_,[],_,_,_,_,_,r,_=>aw r
 |q::ps,b::bs,v::vs,m,m',x,p,nd,r,e=>by
  rw[tF]at nd;simp only[iw,aW]at e;simp only[bq,iw,bindL,bindC];by_cases z:x=q
  ·subst z;simp only[beq_self_eq_true,Option.some.injEq]at e;subst e;rw[pY kindOf ps vs _ x nd.1,pZ kindOf ps vs _ x nd.1];refine⟨λhk=>⟨v,?_,r.1⟩,λhk=>⟨v,?_,r.1⟩⟩
   ·rw[if_pos hk];simp
   ·rw[if_neg hk];simp
  ·have:(x==q)=false:=by simpa using z
   rw[this]at e;exact pG kindOf ps bs vs _ _ x p nd.2 r.2 e
theorem lj {B:Heap} (G:dq P g σ h) (tg:xf B g h) (l1:B.StaysIn h') (l4:h.UpToSlots h'):dX none g g h h'/\dq P g σ h'/\xf B g h':=by
 have keep:∀b o,(g.tag b=.base\/g.tag b=.frz\/g.tag b=.pin\/∃k,g.tag b=.sto k)->h.get? b=some o->h'.get? b=some o:=λb o t e=>l1 b o (tg b o e t);obtain⟨AD,G'⟩:=CF (h':=h') G (λa o h1 h2 e=>keep a o (by
  induction q:g.tag a with
  |free=>exact absurd q h1
  |base=>exact .inl rfl
  |frz=>exact .inr (.inl rfl)
  |pin=>exact .inr (.inr (.inl rfl))
  |sto k=>exact .inr (.inr (.inr ⟨k,rfl⟩))
  |frm M=>exact absurd q (h2 M)) e) (λa M t=>by
   obtain⟨_,o,ho,hd⟩:=G.frm a M t;exact .of_slots λo' e=>by rw[ho]at e;cases e;exact l4 a o ho hd) [] nofun nofun
 refine⟨AD,G',λb o eb t=>?_⟩;obtain⟨o',ho'⟩:=dg.mp (G.live b (by rcases t with q|q|q|⟨k,q⟩<;>exact fN q rfl));have:=keep b o' t ho';replace this:=(eb)▸this;cases this
 exact tg b o ho' t
theorem Dr {env:Env} {s:ak} {e:ag} {Q:Unit->ak->Prop} {E:ag->ak->Prop} {M:Model} (hfr:A.frames=some (env::fr)) (hf:env.frame=some L) (G:dq P g σ s.heap) (X:MG cls (env::fr) g s.heap e)
  (hQ:∀h',dX none g g s.heap h'->dq P g σ h'->yX cls fr g h' e->Q () {s with heap:=h'}):wpAny M A (leaving env e) Q E s:=by
 have fin:∀(B:Heap) (a:Addr) (a0:ag),B.get? a=none->xf B g s.heap->∀h',Heap.LeftW B (env::fr) a cls a0 s.heap h'->dX none g g s.heap h'/\dq P g σ h'/\yX cls fr g h' (.ref a):=λB a a0 hn tg h' ⟨l1,l2,l3,l4⟩=>
  let⟨AD,G',tg'⟩:=lj G tg l1 l4
  ⟨AD,G',a,B,a0,rfl,⟨l1,hn,l2.2.2,l3⟩,tg'⟩
 rcases X with⟨a,B,a0,rfl,⟨x1,x2,x3,x4⟩,tg⟩|⟨a,B,a0,oe,vs,rfl,y1,y2,y3,y4,y5,y6,y7,y8,tg⟩
 ·refine wpAny_leaving_nextW hfr x3 hf x4 x1 x2 λh' lw=>?_;obtain⟨a1,a2,a3⟩:=fin B a a0 x2 tg h' lw;exact hQ h' a1 a2 a3
 ·refine wpAny_leaving_firstW hfr y3 hf y4 y1 y2 y6 y8 y7 λh' lw=>?_;subst y5;obtain⟨a1,a2,a3⟩:=fin B a a0 y2 tg h' lw;exact hQ h' a1 a2 a3
theorem L4 (G:dq P g σ h) (k:∀a o,h.get? a=some o->h'.get? a=some o) (l:List (Addr×lQ)) (hf:∀p∈l,h.get? p.1=none/\(h'.get? p.1).isSome=true)
  (hm:∀a M,(a,lQ.frm M)∈l->(g.puts l).tag M=.frm M/\∃o,h'.get? a=some o/\∀vs,o.data≠.fields vs):
  dX none g (g.puts l) h h'/\dq P (g.puts l) σ h':=
 CF G (λa o ö ö e=>k a o e) (λa M q=>.of_eq (k a)) l (λp hp=>⟨G.free (hf p hp).1,(hf p hp).2⟩) hm
theorem CU {c L:Addr}:∀(l:List (Addr×lQ)) (g:Gh),(∀p∈l,p.2=lQ.frm L)->(c,lQ.frm L)∈l->(g.puts l).tag c=.frm L:=by
 intro l
 induction l with
 |nil=>exact λö ö h=>nomatch h
 |cons p l ih=>
  intro g hl hc;show((g.put p.1 p.2).puts l).tag c=_;by_cases z:(c,lQ.frm L)∈l
  ·exact ih _ (λp hp=>hl p (.tail _ hp)) z
  ·rw[Gh.puts_other _ _ _ λq hq e=>z (by rw[e,<-hl q (.tail _ hq)];exact hq)];rcases aH.mp hc with w|w
   ·exact w▸if_pos rfl
   ·exact absurd w z
theorem FM {x y:Str} {c:Addr} (z:¬x=y):∀(l:List (Str×Addr)),l.Pairwise (λx y=>x.2≠y.2)->(x,c)∈l->(y,c)∈l->False:=by
 intro l
 induction l with
 |nil=>exact λö h=>nomatch h
 |cons p l ih=>
  intro pw h1 h2;rw[EG]at pw;rcases aH.mp h1 with w|w
  ·rcases aH.mp h2 with u|u
   ·rw[<-w]at u;injection u with u _;exact z u.symm
   ·exact pw.1 _ u (w▸rfl)
  ·rcases aH.mp h2 with u|u
   ·exact pw.1 _ w (u▸rfl)
   ·exact ih pw.2 w u
theorem uh {a:Addr} {fd:FuncData} {d:oU} {body:List eF} {k l:Nat} (NL:P.B.NoLimit) (FF:j9 P a fd d.params body) (hbind:∀vals:List ag,vals.length=d.params.length->bindArgs fd ⟨vals,[]⟩=pure ((d.params.map aa).zip vals))
  (hb:xe P cls cf W (k,0) fd.scope body d.body) {bs:List PV} {vs:List ag} (hA:jP A (k+1,l) fr) {s:ak} {E:ag->ak->Prop} (G:dq P g σ s.heap) (F:dc g s.heap fr) (hp:aU P g s.heap bs vs) (hbad:ii cf W d bs σ≠.bad)
  (hE:OnX P cls none yX fr (ii cf W d bs σ) g s E):sA P A a vs (KP P g s (ii cf W d bs σ) (cR P)) E s:=by
 obtain⟨o,ho,hdat⟩:=FF.obj;have len:=aU.length hp;unfold ii at hbad hE⊢;have hlen:d.params.length=bs.length:=by
  by_cases hlen:d.params.length=bs.length
  ·exact hlen
  ·rw[if_neg hlen]at hbad;exact absurd rfl hbad
 rw[if_pos hlen]at hbad hE⊢;have hd1:=hA.depth;have hu1:=hA.units;have hl1:=hA.level;simp only at hd1 hu1 hl1;refine(codeAny_call_cells (o:=o) (fd:=fd) (body:=body) (binds:=(d.params.map aa).zip vs) (by simp only[recursionLimit];exact b7 0x13e831818120a081a3c031210923038202 hd1 hl1) (G.keep a o ho) hdat (NL.keeps G.keep) (FF.code.keeps G.keep) FF.body (hbind vs (am (b7 0x1a907f8a27f9822 len hlen) (b7 0x19a0818a2819822 len hlen))) FF.clo ?_ ?_ FF.co FF.gen FF.kind)
 ·intro x hx;have:=(Iq hx).1;obtain⟨y,hy,e⟩:=bv.mp this;rcases FF.par y hy with q|q
  ·exact .inl (e▸q)
  ·refine .inr ⟨(e▸q),?_⟩;obtain⟨c,hc⟩:=gH fd.scope.names (s.heap.objs.size+1) [] x.1 (e▸(mem_of_lookup q));rw[hc];rfl
 ·intro cg IC;generalize eL:s.heap.objs.size=L at IC⊢;generalize eE:callEnvC fd L a=env' at IC⊢;have lL:env'.locals=L:=eE▸rfl;have sc':env'.scope=fd.scope:=eE▸rfl;have kd:∀x,env'.kindOf x=fd.scope.names.lookup x:=λx=>by rw[Env.kindOf,sc']
  have cl':env'.cells=cellsFrom (L+1) fd.scope.names []:=eE▸rfl;have fr':env'.frame=some L:=eE▸rfl;obtain⟨⟨cL,tk,dB⟩,hns,hkeep,hfresh⟩:=IC.toInCall;subst dB;have hcell:=IC.cell;have hab:=IC.above;rw[lL]at hns hfresh;simp only[lL]at hab;have fL:s.heap.get? L=none:=aT (eL▸(au _))
  let cs:=env'.cells.filter λp=>env'.cells.lookup p.1==some p.2
  have csm:∀p∈cs,env'.cells.lookup p.1=some p.2/\p∈env'.cells:=λp hp=>by
   obtain⟨q1,q2⟩:=hZ.mp hp;exact⟨by simpa using q2,q1⟩
  have mem_cs:∀x c,env'.cells.lookup x=some c->(x,c)∈cs:=λx c e=>by
   refine hZ.mpr ⟨?_,by simpa using e⟩;exact mem_of_lookup e
  have cgt:∀p∈cs,L<p.2:=λp hp=>hab p.1 p.2 (csm p hp).2
  let tl:List (Addr×lQ):=(L,lQ.frm L)::cs.map λp=>(p.2,lQ.frm L)
  have nfL:∃o,cL.get? L=some o/\∀vs,o.data≠.fields vs:=by
   obtain⟨o,es,ep,ho,hd,_⟩:=hns;exact⟨o,ho,λvs q=>by rw[hd]at q;contradiction⟩
  have nfc:∀p∈cs,∃o,cL.get? p.2=some o/\∀vs,o.data≠.fields vs:=λp hp=>by
   obtain⟨o,ho,hd⟩:=hcell p.1 p.2 (csm p hp).1;exact⟨o,ho,λvs q=>by rw[hd]at q;contradiction⟩
  have tagL:(g.puts tl).tag L=.frm L:=by
   show((g.put L (.frm L)).puts (cs.map λp=>(p.2,lQ.frm L))).tag L=_;rw[Gh.puts_other _ _ _ λp hp q=>by
    obtain⟨r,hr,e⟩:=bv.mp hp;have hr':=cgt r hr;have hq:L=r.2:=q.symm▸e▸rfl;rw[<-hq]at hr';exact pL _ hr']
   simp[Gh.put]
  obtain⟨ad1,G1⟩:=L4 (h':=cL) G hkeep tl (λp hp=>by
   rcases aH.mp hp with q|q
   ·subst q;obtain⟨o,ho,_⟩:=nfL;exact⟨fL,(ho.symm▸rfl)⟩
   ·obtain⟨r,hr,e⟩:=bv.mp q;subst e;obtain⟨o,ho,_⟩:=nfc r hr;have:=cgt r hr;exact⟨aT (eL.symm▸(cu this)),(ho.symm▸rfl)⟩) (λb M' hb=>by
   rcases aH.mp hb with q|q
   ·injection q with q1 q2;injection q2 with q2;subst q1 q2;exact⟨tagL,nfL⟩
   ·obtain⟨r,hr,e⟩:=bv.mp q;injection e with e1 e2;injection e2 with e2;subst e1 e2;exact⟨tagL,nfc r hr⟩)
  have tagc:∀x c,env'.cells.lookup x=some c->(g.puts tl).tag c=.frm L:=λx c e=>by
   rcases Gh.puts_cases tl g c with q|q
   ·rcases aH.mp q with q|q
    ·injection q with _ q
    ·obtain⟨r,_,e⟩:=bv.mp q;injection e with _ e;exact e.symm
   ·exfalso;have k1:=CU tl g (λp hp=>by
     rcases aH.mp hp with w|w
     ·subst w;rfl
     ·obtain⟨r,_,e⟩:=bv.mp w;subst e;rfl) (.tail _ (bv.mpr ⟨_,mem_cs x c e,rfl⟩))
    rw[q]at k1;have:=(G.frm c L k1).1;rw[G.free fL]at this;contradiction
  generalize g.puts tl=g1 at ad1 G1 tagL tagc;have rp:=hp.mono ad1;have V1:iO P g1 cL env' (d.params.zip bs):={
   fn:=sc'.symm▸FF.kind
   has:=λx kx=>by
    rw[kd]at kx;rw[cl'];exact gH _ _ _ _ (mem_of_lookup kx)
   gl:=eE▸FF.glob
   bi:=eE▸FF.bi
   tag:=⟨L,(lL.symm▸tagL)⟩
   own:=lL.symm▸tagL
   ns:=⟨_,(lL.symm▸hns),λx p e kx=>(pG env'.kindOf d.params bs vs _ (λö=>none) x p FF.nodup rp e).1 kx⟩
   cel:=λx p e kx=>by
    have kx':env'.kindOf (aa x)=some .cell:=by
     rcases kx with q|q
     ·exact q
     ·rw[kd]at q;exact absurd q (FF.nofree _)
    obtain⟨c,hc⟩:∃c,env'.cells.lookup (aa x)=some c:=by
     rw[kd]at kx';rw[cl'];exact gH _ _ _ _ (mem_of_lookup kx')
    obtain⟨v,e1,r⟩:=(pG env'.kindOf d.params bs vs (λö=>none) (λö=>none) x p FF.nodup rp e).2 (by rw[kx'];simp);refine⟨c,v,hc,⟨L,tagc _ _ hc⟩,?_,r⟩;have:=hcell _ _ hc;rw[e1]at this;exact this
   cells:=λx c e=>⟨(lL.symm▸(tagc x c e)),by
    rw[lL];exact f0 (cgt _ (mem_cs x c e)),_,hcell x c e⟩
   sep:=λx y c e1 e2=>by
    by_cases z:x=y
    ·exact z
    ·exfalso;have m1:=(csm _ (mem_cs x c e1)).2;have m2:=(csm _ (mem_cs y c e2)).2;exact FM z _ IC.apart m1 m2
   nofree:=λx=>by rw[kd];exact FF.nofree x}
  have F1:dc g1 cL (env'::fr):=λe' he'=>by
   rcases aH.mp he' with rfl|he'
   ·exact⟨by rw[sc',FF.kind];simp,L,fr',tagL⟩
   ·obtain⟨k',L',hf',t'⟩:=F e' he';exact⟨k',L',hf',ad1.tagF t'⟩
  have hA':jP (A.deeper env') (k,0) (env'::fr):={
   handled:=hA.handled
   depth:=by show A.depth+1+3*k<=960+0;exact b7 0x1003c031293031082208120a081a3c031210923038202 hd1 hl1
   units:=by show A.units+3+20*k<=9800+0;exact b7 0x10026484129142133082208120a081a26484121092142138202 hu1 hl1
   level:=aL _
   frames:=by show A.frames.map (env':: ·)=_;rw[hA.frames];rfl}
  have noL:∀b,g.tag b≠.frm L:=uL G (G.free fL);have toAd:∀{g':Gh} {h':Heap},dX (some env'.locals) g1 g' cL h'->dX none g g' s.heap h':=λx=>by
   rw[lL]at x;exact(ad1.weaken.trans x).strip noL
  refine al _ _ _ _ (λf s' ⟨b,f7,aF,g',q,ad,G',_,hf,sm⟩=>?ok) (hb (A.deeper env') env' (d.params.zip bs) (env'::fr) sc' hA' g1 σ {s with heap:=cL,toks:=tk} _ G1 V1 F1 ⟨PassesOwn.leaving,fr,rfl⟩ trivial (λq=>hbad (by simp only[MM.bind,q])) λe s' g' aF q ad G' X sm=>?exc)
  case ok=>
   simp only[MM.bind,q]at hbad⊢
   induction b with
   |next=>
    subst hf;exact⟨.none,aF,g',rfl,toAd ad,G',rfl,⟨sm.1,sm.2.1,sm.2.2⟩⟩
   |brk=>exact absurd rfl hbad
   |ret p=>
    obtain⟨v,rfl,r⟩:=hf;exact⟨p,aF,g',rfl,toAd ad,G',r,⟨sm.1,sm.2.1,sm.2.2⟩⟩
  case exc=>
   refine Dr (L:=L) hA'.frames fr' G' X λh' ad2 G2 X2=>?_;exact hE e {s' with heap:=h'} g' aF (by simp only[MM.bind,q]) ((toAd ad).trans ad2) G2 X2 ⟨sm.1,sm.2.1,sm.2.2⟩
theorem GV {a:Addr} {fd:FuncData} {d:oU} {body:List eF} {k l:Nat} (NL:P.B.NoLimit) (FF:j9 P a fd d.params body) (hbind:∀vals:List ag,vals.length=d.params.length->bindArgs fd ⟨vals,[]⟩=pure ((d.params.map aa).zip vals))
  (hb:xe P cls cf W (k,0) fd.scope body d.body) {bs:List PV} {vs:List ag} (hA:jP A (k+1,l) fr):
  aQ P cls env ρ fr (λg h=>aU P g h bs vs) (sA P A a vs) (ii cf W d bs) (cR P):=λö ö ö ö G ö F hp hbad hE=>uh NL FF hbind hb hA G F hp hbad hE
end
open PySem PySem.W PyProof.Rows PySem.Calls
section
variable {P:PW} {cls:ag} {cf:String->List PV->MM PV} {W:Nat} {n:Nat×Nat} {sc:bD} {A:bd} {env:Env} {ρ:aE} {fr:List Env} {g g' fG:Gh} {h h' h₀:Heap} {σ:ah} {L:Addr} {α β γ δ:Type}
theorem oE {a:Addr} {vs:List ag} {Q E:ag->ak->Prop} {s:ak} (h:sA P A a vs Q E s):wpAny (model P.prog P.w) A (call (.ref a) vs) Q E s:=lN h
theorem nV {a:Addr} {vs:List ag}:g0 (sA P A a vs):=λö ö ö ö x y=>kU y λr ö z=>by
 rcases r with e|(v|_|_|_)<;>first|exact x _ _ z|exact z
noncomputable def FnAt (P:PW) (a:Addr):Prop:=∃o fd,P.B.get? a=some o/\o.data=.func fd
theorem SE.call (B:cK P) {e:ay} {es:List ay} {mes:List ME} {x:Str} {p pos:Pos} {f:String} {a:Addr} (hC:iP P cls cf n.1) (hfa:P.fa f=some a) (hF:FnAt P a) (hs:vp P cls cf n sc (e::es) mes)
  (hk:sc.names.lookup x=some .globalImplicit) (hv:P.mg x=some (.ref a)) (hd:(x==("__debug__":Str))=false)
  (he:∀env,aX (e::es) env=(false,eval e env)::aX es env):SE P cls cf n sc (.Call (.Name x p) (e::es) [] pos) (.call f mes):=λA env ρ fr hsc hA=>by
 obtain⟨o,fd,ho,hdat⟩:=hF;refine(aQ.bind (U:=λvs Q E s=>s.heap.get? a=some o/\sA P A a vs Q E s) al (λvs=>?_) (hs A env ρ fr pos hsc hA) λbs vs=>?_).ofE λQ E s g σ G V ö h=>?_
 ·exact λQ Q' E s x y=>⟨y.1,nV _ _ _ _ x y.2⟩
 ·exact λg σ s E G V F hp hb hE=>⟨G.keep a o ho,hC f a hfa A n.2 env ρ fr bs vs hA g σ s E G V F hp hb hE⟩
 ·exact Call_Name rfl (j0 B G V (by rw[Env.kindOf,hsc];exact hk) hv (callWith_def hdat (aA h (λö ö z=>⟨z.1,oE z.2⟩) λö ö z=>z) (he env)) hd)
structure kO (P:PW) (c:String) (m:String) (a:Addr):Prop where
 fn:∀C,P.cls c=some C->plainGet P.K C (aa m)=true/\findIn P.K (.ref C) (aa m)=some (some (.ref a))/\isFn P.K (.ref a)=true
 free:m∉fieldsOf c
theorem jI.miss {x:String}:∀{es:List DictEntry} {ns:List String} {vs:List ag},jI es ns vs->x∉ns->es.find? (·.key.isStr (aa x))=none
 |[],_,_,_,_=>rfl
 |_::_,[],_,f,_=>aw f
 |_::_,_::_,[],f,_=>aw f
 |d::es,y::ns,v::vs,f,h=>by
  simp only[aH,not_or]at h;obtain⟨⟨t,hk⟩,_,f⟩:=f;refine(m6).symm▸hk.symm▸?_;have:(Value.str (aa y) t).isStr (aa x)=false:=by
   simp only[Value.isStr,beq_eq_false_iff_ne,ne_eq];exact λz=>h.1 (dy z).symm
  refine this.symm▸?_;exact jI.miss f h.2
theorem F6 (B:cK P) {c m:String} {a:Addr} {k:Nat} {ns:List String} {ps:List PV} {pl:Sem Bool} {s:ak} {Q:ag×List ag->ak->Prop} {E:ag->ak->Prop} (hM:kO P c m a) (G:dq P g σ s.heap) (hk:σ[k]?=some (.obj c ns ps)) (hns:ns.all (λx=>decide (x∈fieldsOf c))=true)
  (hQ:Q (.ref a,[.ref (g.at_ k)]) s):wpAny (model P.prog P.w) A (getMethod (.ref (g.at_ k)) (aa m) pl) Q E s:=by
 refine Mine.Internal.cps λζ κ=>?_;obtain⟨_,C,dx,es',i,vs,hCl,_,h1,h2,fl,_⟩:=G.cells _ _ hk;obtain⟨m1,m2,m3⟩:=hM.fn C hCl;have hmiss:m∉ns:=λq=>hM.free (by simpa using aJ.mp hns m q);have I:W.InstAt s.heap (g.at_ k) (instObj C dx) C (some (dictOf es' i)):=⟨h1,rfl,rfl,h2⟩;refine κ ?_;refine method_fn (G.kin B) I (plainGet_of m1).1 (plainGet_of m1).2 m2 (beq_iff_eq.mp m3) ?_ hQ;show(lookIn _ (dictOf es' i)).map _=_;rw[lookIn_dict];unfold getL;refine(fl.miss hmiss).symm▸?_;simp only[fl.noref];rfl
theorem wj (B:cK P) {c m f:String} {a:Addr} {pl:Sem Bool} {v:PV} {w:ag} {U:ag×List ag->WT ag} {args:MM (List PV)} (hM:kO P c m a)
  (hU:∀k ad,aQ P cls env ρ fr (λg h=>cR P g h (.loc k) (.ref ad)) (U (.ref a,[.ref ad])) (MM.bind args λl=>cf f (.loc k::l)) (cR P)):
  aQ P cls env ρ fr (λg h=>cR P g h v w) (λQ E s=>wpAny (model P.prog P.w) A (getMethod w (aa m) pl) (λfx cx=>U fx Q E cx) E s) (zV cf c f v args) (cR P):=by
 intro g σ s E G V F hp hb hE;cases v with
 |loc k=>
  simp only[zV]at hb hE⊢
  induction hk:σ[k]? with
  |none=>simp only[hk]at hb;exact absurd rfl hb
  |some cell=>
   induction cell with
   |obj c' ns ps=>
    simp only[hk]at hb hE⊢;by_cases hc:c'=c/\ns.all (λx=>decide (x∈fieldsOf c))=true
    ·simp only[if_pos hc]at hb hE⊢;obtain⟨rfl,hns⟩:=hc;have rk:=hp;obtain⟨_,rfl⟩:=hp;exact F6 B hM G hk hns (hU k (g.at_ k) g σ s E G V F rk hb hE)
    ·simp only[if_neg hc]at hb;exact absurd rfl hb
   |_=>simp only[hk]at hb;exact absurd rfl hb
 |_=>exact absurd rfl hb
theorem SE.meth0 (B:cK P) {o:ay} {mo:ME} {c m f:String} {x:Str} {a:Addr} {apos pos:Pos} (hx:x=aa m) (hC:iP P cls cf n.1) (hfa:P.fa f=some a) (hF:FnAt P a) (hM:kO P c m a) (ho:SE P cls cf n sc o mo)
  (pl:Env->Sem Bool) (he:∀env,eval (.Call (.Attribute o x apos) [] [] pos) env=(do
   let ov<-eval o env
   standAt apos.atName
   let(f,first)<-holding [ov] (getMethod ov x (pl env))
   e7 pos f first (ee pos (aX [] env)) [])):SE P cls cf n sc (.Call (.Attribute o x apos) [] [] pos) (.meth mo c f []):=λA env ρ fr hsc hA=>by
 subst hx;obtain⟨oa,fd,hoa,hdat⟩:=hF;refine(aQ.bind (U:=λw Q E s=>wpAny (model P.prog P.w) A (getMethod w (aa m) (pl env)) (λfx cx=>wpAny (model P.prog P.w) A (e7 pos fx.1 fx.2 (ee pos (aX [] env)) []) Q E cx) E s) al (λw=>?_) (ho A env ρ fr hsc hA) λv w=>
  wj (U:=λfx Q E cx=>wpAny (model P.prog P.w) A (e7 pos fx.1 fx.2 (ee pos (aX [] env)) []) Q E cx) B hM λk ad=>?_).of λQ E s h=>MethodCall_ (pl:=pl env) h (he env)
 ·exact λQ Q' E s x y=>aA y (λö ö z=>aA z x λö ö z=>z) λö ö z=>z
 ·intro g σ s E G V F hp hb hE;exact callWith_function (o:=oa) (fd:=fd) (PyProof.Rows.evalArgs_none ⟨⟨G.keep a oa hoa,hdat⟩,oE (hC f a hfa A n.2 env ρ fr [.loc k] [.ref ad] hA g σ s E G V F ⟨hp,trivial⟩ hb hE)⟩)
theorem SE.meth1 (B:cK P) {o e:ay} {es:List ay} {mo:ME} {mes:List ME} {c m f:String} {x:Str} {a:Addr} {apos pos:Pos} (hx:x=aa m) (hC:iP P cls cf n.1) (hfa:P.fa f=some a) (hF:FnAt P a) (hM:kO P c m a) (ho:SE P cls cf n sc o mo) (hes:vp P cls cf n sc (e::es) mes)
  (hst:∀env,aX (e::es) env=(false,eval e env)::aX es env)
  (pl:Env->Sem Bool) (he:∀env,eval (.Call (.Attribute o x apos) (e::es) [] pos) env=(do
   let ov<-eval o env
   standAt apos.atName
   let(f,first)<-holding [ov] (getMethod ov x (pl env))
   e7 pos f first (ee pos (aX (e::es) env)) [])):SE P cls cf n sc (.Call (.Attribute o x apos) (e::es) [] pos) (.meth mo c f mes):=λA env ρ fr hsc hA=>by
 subst hx;obtain⟨oa,fd,hoa,hdat⟩:=hF;refine(aQ.bind (U:=λw Q E s=>wpAny (model P.prog P.w) A (getMethod w (aa m) (pl env)) (λfx cx=>wpAny (model P.prog P.w) A (e7 pos fx.1 fx.2 (ee pos (aX (e::es) env)) []) Q E cx) E s) al (λw=>?_) (ho A env ρ fr hsc hA) λv w=>
  wj (U:=λfx Q E cx=>wpAny (model P.prog P.w) A (e7 pos fx.1 fx.2 (ee pos (aX (e::es) env)) []) Q E cx) B hM λk ad=>?_).of λQ E s h=>MethodCall_ (pl:=pl env) h (he env)
 ·exact λQ Q' E s x y=>aA y (λö ö z=>aA z x λö ö z=>z) λö ö z=>z
 ·refine(aQ.bind (U:=λvs Q E s=>s.heap.get? a=some oa/\sA P A a (.ref ad::vs) Q E s) al (λvs=>?_) ((hes A env ρ fr pos hsc hA).keep al dY) λbs vs=>?_).of λQ E s h=>?_
  ·exact λQ Q' E s x y=>⟨y.1,nV _ _ _ _ x y.2⟩
  ·exact λg σ s E G V F hp hb hE=>⟨G.keep a oa hoa,hC f a hfa A n.2 env ρ fr (.loc k::bs) (.ref ad::vs) hA g σ s E G V F (by exact⟨hp.2,hp.1⟩) hb hE⟩
  ·show wpAny _ A (e7 pos (.ref a) [.ref ad] (ee pos (aX (e::es) env)) []) Q E s;have h:=h;rw[hst]at h⊢;exact callWith_function (o:=oa) (fd:=fd) (evalArgs_plain (aA h (λvs cg z=>⟨⟨z.1,hdat⟩,oE z.2⟩) λö ö x=>x))
open Classical in
noncomputable def Gh.freeze (g:Gh) (k:Nat):Gh:={g with tag:=λa=>if g.tag a=.sto k then .frz else g.tag a}
theorem jD {k:Nat} {a:Addr} (h:g.tag a≠.sto k):(g.freeze k).tag a=g.tag a:=if_neg h
theorem mK (G:dq P g σ h) {k:Nat} (hk:k<σ.length):dX none g (g.freeze k) h h/\dq P (g.freeze k) (σ.set k .dead) h:=by
 have AD:dX none g (g.freeze k) h h:={
  nle:=au _
  ateq:=λö ö=>rfl
  tag:=λa ö h2=>jD (h2 k)
  tagS:=λa j e=>by
   by_cases q:j=k
   ·subst q;exact .inr (if_pos e)
   ·exact .inl ((jD (e.symm▸(λz=>q (by cases z;rfl)))).trans e)
  fix:=λö ö e ö=>e
  frm:=λa ö ö ö=>.refl h a}
 refine⟨AD,G.of AD (dH.symm▸G.n) (λj d e=>?_) (λa ha=>G.live a λq=>ha ?_) λa M e=>?_⟩
 ·by_cases q:j=k
  ·replace e:=(bX hk)▸(q)▸e
   (injection e;subst_vars)
   exact trivial
  ·replace e:=(bw (λz=>q z.symm))▸e;exact(G.cells j d e).mono AD ⟨rfl,λa e=>(jD (e.symm▸(λz=>q (by cases z;rfl)))).trans e,λö ö ö e=>e⟩
 ·exact(jD (fN q rfl)).symm▸q
 ·by_cases q:g.tag a=.sto k
  ·have:(g.freeze k).tag a=.frz:=if_pos q;rw[this]at e;contradiction
  ·replace e:=(jD q)▸e;obtain⟨e1,r⟩:=G.frm a M e;exact⟨AD.tagF e1,r⟩
theorem rX (G:dq P g σ h) {k:Nat} {c:cS} {p:PV} (hk:σ[k]?=some c) (hp:c.pv?=some p):cR P (g.freeze k) h p (.ref (g.at_ k)):=by
 obtain⟨AD,_⟩:=mK G (kG hk);have r:=G.cells k c hk;have fz:∀{a},g.tag a=.sto k->(g.freeze k).tag a=.frz:=λe=>if_pos e
 induction c with
 |dead=>contradiction
 |list l=>
  (injection hp;subst_vars)
  obtain⟨t1,vs,il,rs⟩:=r;exact⟨_,vs,rfl,fz t1,il,rs.mono AD⟩
 |obj c ns ps=>
  (injection hp;subst_vars)
  obtain⟨t1,C,dx,es,m,vs,hC,t2,h1,h2,f,rs⟩:=r;exact⟨_,C,dx,es,m,vs,rfl,hC,fz t1,fz t2,h1,h2,f,rs.mono AD⟩
mutual
theorem cR.subst {k:Nat} {p:PV} (hp:cR P g h p (.ref (g.at_ k))):∀{q:PV} {v:ag},cR P g h q v->cR P g h (PV.subst k p q) v
 |.none,_,r=>r
 |.bool _,_,r=>r
 |.int _,_,r=>r
 |.str _,_,r=>r
 |.loc j,v,r=>by
  show cR P g h (if j=k then p else .loc j) v;split
  ·rename_i e;subst e;obtain⟨_,rfl⟩:=r;exact hp
  ·exact r
 |.tup l,v,r=>by
  obtain⟨a,vs,e,t,i,rs⟩:=r;exact⟨a,vs,e,t,i,aU.subst hp rs⟩
 |.list l,v,r=>by
  obtain⟨a,vs,e,t,i,rs⟩:=r;exact⟨a,vs,e,t,i,aU.subst hp rs⟩
 |.arg l,v,r=>by
  obtain⟨a,vs,e,t,i,rs⟩:=r;exact⟨a,vs,e,t,i,aU.subst hp rs⟩
 |.obj c ns ps,v,r=>by
  obtain⟨a,C,dx,es,n,vs,e,hc,t1,t2,h1,h2,f,rs⟩:=r;exact⟨a,C,dx,es,n,vs,e,hc,t1,t2,h1,h2,f,aU.subst hp rs⟩
theorem aU.subst {k:Nat} {p:PV} (hp:cR P g h p (.ref (g.at_ k))):∀{qs:List PV} {vs:List ag},aU P g h qs vs->aU P g h (PV.substs k p qs) vs
 |[],[],_=>trivial
 |q::qs,v::vs,r=>by
  exact⟨cR.subst hp r.1,aU.subst hp r.2⟩
 |[],_::_,r=>aw r
 |_::_,[],r=>aw r
end
theorem dq.subst {k:Nat} {p:PV} (hp:cR P g h p (.ref (g.at_ k))) (G:dq P g σ h):dq P g (σ.map (cS.subst k p)) h where
 base:=G.base
 n:=by rw[ar];exact G.n
 cells:=λj c e=>by
  replace e:=(df)▸e;obtain⟨d,hd,rfl⟩:=aS.mp e;have r:=G.cells j d hd
  induction d with
  |dead=>exact trivial
  |list _=>
   obtain⟨t1,vs,il,rs⟩:=r;exact⟨t1,vs,il,aU.subst hp rs⟩
  |obj _ _ _=>
   obtain⟨t1,C,dx,es,m,vs,hC,t2,h1,h2,f,rs⟩:=r;exact⟨t1,C,dx,es,m,vs,hC,t2,h1,h2,f,aU.subst hp rs⟩
 live:=G.live
 frm:=G.frm
theorem iL {k:Nat} {p:PV} {x:String} {q:PV}:∀{ρ:aE},(ρ.map λq=>(q.1,PV.subst k p q.2)).lookup x=some q->∃q',ρ.lookup x=some q'/\q=PV.subst k p q'
 |[],h=>nomatch h
 |(y,u)::ρ,h=>by
  simp only[bq,aW]at h⊢;by_cases z:x=y
  ·subst z;simp only[beq_self_eq_true,Option.some.injEq]at h⊢;exact⟨u,rfl,h.symm⟩
  ·have:(x==y)=false:=by simpa using z
   simp only[this]at h⊢;exact iL h
theorem iO.subst {k:Nat} {p:PV} (hp:cR P g h p (.ref (g.at_ k))) (V:iO P g h env ρ):iO P g h env (ρ.map λq=>(q.1,PV.subst k p q.2)):=
 {V with
  ns:=by
   obtain⟨m,hn,hv⟩:=V.ns;refine⟨m,hn,λx q e kx=>?_⟩;refine Mine.Internal.cps λζ κ=>?_;obtain⟨q',e',hq⟩:=iL e;obtain⟨v,e1,r⟩:=hv x q' e' kx;refine κ ?_;exact⟨v,e1,(hq.symm▸(cR.subst hp r))⟩
  cel:=λx q e kx=>by
   refine Mine.Internal.cps λζ κ=>?_;obtain⟨q',e',hq⟩:=iL e;obtain⟨c,v,e1,t,e2,r⟩:=V.cel x q' e' kx;refine κ ?_;exact⟨c,v,e1,t,e2,(hq.symm▸(cR.subst hp r))⟩}
theorem xe.freeze {me:ME} {sts:List eF} {ms:List MS} (h:xe P cls cf W n sc sts ms) (hpure:∀ρ σ,bu cf ρ me σ=.bad\/∃v,bu cf ρ me σ=.ok v σ):xe P cls cf W n sc sts (.freeze me::ms):=λA env ρ fr hsc hA=>by
 intro g σ s E G V F hO hp hb hE;have e1:c9 cf W (.freeze me::ms) ρ σ=MM.bind (MM.bind (bu cf ρ me) λv=>MM.bind (qP v ρ) λf7=>MM.pure (Mine.Internal.Flow.next,f7)) (λr=>match r.1 with
  |.next=>c9 cf W ms r.2
  |_=>MM.pure r) σ:=rfl
 rcases hpure ρ σ with q|⟨v,q⟩
 ·exact absurd (e1.trans (MM.bind_bad (MM.bind_bad q))) hb
 ·rw[MM.bind_assoc,MM.bind_ok q]at e1;cases v with
  |loc k=>
   induction hc:(σ[k]?).bind cS.pv? with
   |none=>exact absurd (e1.trans (MM.bind_bad (MM.bind_bad (by show(match(σ[k]?).bind cS.pv? with|some p=>qn.ok _ _|none=>qn.bad)=_;rw[hc])))) hb
   |some p=>
    have e0:c9 cf W (.freeze me::ms) ρ σ=c9 cf W ms (ρ.map λq=>(q.1,PV.subst k p q.2)) ((σ.set k .dead).map (cS.subst k p)):=by
     rw[e1,MM.bind_assoc,MM.bind_ok (show qP (.loc k) ρ σ=.ok (ρ.map λq=>(q.1,PV.subst k p q.2)) ((σ.set k .dead).map (cS.subst k p)) by
      show(match(σ[k]?).bind cS.pv? with|some p=>qn.ok _ _|none=>qn.bad)=_;rw[hc])]
     rfl
    rw[e0]at hb hE⊢;refine fm hc λc hc hpv=>?_;obtain⟨ad,G1⟩:=mK G (kG hc);have rp:cR P (g.freeze k) s.heap p (.ref ((g.freeze k).at_ k)):=rX G hc hpv;exact al _ _ _ _ (λ_ s' ⟨b,f7,aF,g',a1,a2,a3,a4,a5,a6⟩=>⟨b,f7,aF,g',a1,ad.weaken.trans a2,a3,a4,a5,a6⟩) (h A env _ fr hsc hA (g.freeze k) _ s E (G1.subst rp) ((V.mono ad).subst rp) (F.mono ad) hO trivial hb λe s' g' aF q ad' G' X sm=>hE e s' g' aF q (ad.weaken.trans ad') G' X sm)
  |_=>exact absurd (e1.trans (MM.bind_bad (MM.bind_bad rfl))) hb
end
open PySem PySem.W PyProof.Rows PySem.Calls
section
variable {P:PW} {cls:ag} {cf:String->List PV->MM PV} {W:Nat} {n:Nat×Nat} {sc:bD} {A:bd} {env:Env} {ρ:aE} {fr:List Env} {g g' fG:Gh} {h h' h₀:Heap} {σ:ah} {L:Addr} {α β γ δ:Type}
theorem Cq {C:Addr} {vs:List ag} {k:Nat} (hA:jP A (k,0) fr):jP (A.under (.builtin "type.__call__" ⟨.ref C::vs,[]⟩)) (k,1) fr where
 handled:=hA.handled
 depth:=by
  have:=hA.depth;have e:(A.under (.builtin "type.__call__" ⟨.ref C::vs,[]⟩)).depth=A.depth+1:=rfl;refine e.symm▸?_;show A.depth+1+3*k<=960+1;have:A.depth+3*k<=960+0:=this;exact bH 0x1103c0312930310822081003c031293038201 this
 units:=by
  have:=hA.units;have e:(A.under (.builtin "type.__call__" ⟨.ref C::vs,[]⟩)).units=A.units+1:=rfl;refine e.symm▸?_;show A.units+1+20*k<=9800+1;have:A.units+20*k<=9800+0:=this;exact bH 0x1102648412914213108220810026484129142138201 this
 level:=by show 1<=2;decide
 frames:=hA.frames
structure sK (P:PW) (c ini:String) (C aI:Addr):Prop where
 cls:P.cls c=some C
 makes:makesIn P.K C=true
 init:findIn P.K (.ref C) "__init__"=some (some (.ref aI))
 fn:typeIn P.K (.ref aI)=some (.type "function")
 keep:keepIn P.K (.ref C)=true
 fa:P.fa ini=some aI
theorem FU (B:cK P) {c ini:String} {C aI:Addr} {frozen:Bool} {bs:List PV} {vs:List ag} (N:sK P c ini C aI) (hC:iP P cls cf n.1) (hA:jP A n fr) (hn:n.2=0):
  aQ P cls env ρ fr (λg h=>aU P g h bs vs) (eJ P A (PySem.call (.ref C) vs)) (qg cf c frozen ini bs) (cR P):=by
 intro g σ s E G V F hp hb hE;refine V.lclK λM tL mL hnL=>?_;unfold qg at hb hE⊢;refine lN (make_K (JE hnL) rI (G.kin B) N.makes N.init N.fn λx dx h' F' N' hlo hlt=>?_);have hx:=(N' _ (.head _)).1;have hdx:=(N' _ (.tail _ (.head _))).1;have K1:Keeps env.locals s.heap h':=.of_news (new:=[_,_]) hnL F' N';have fresh:∀b,b≠env.locals->dx<=b->s.heap.get? b=none:=λb z hb=>by
  induction q:s.heap.get? b with
  |none=>rfl
  |some o=>
   have:b<dx:=hlo (b,o) (lE.mpr ⟨q,z⟩);exact absurd (aO this hb) (pL _)
 have nx:s.heap.get? x=none:=fresh x (N' _ (.head _)).2.1 (cu hlt);have ndx:s.heap.get? dx=none:=fresh dx (N' _ (.tail _ (.head _))).2.1 (au _);have ne:x≠dx:=f0 hlt;obtain⟨g1,ad1,G1,ea,en,et⟩:=HR (σ:=σ) G tL K1 [(x,.sto g.n),(dx,.sto g.n)] (λp hp=>by
  rcases aH.mp hp with q|q
  ·subst q;exact⟨nx,by rw[hx];rfl⟩
  ·rcases aC.mp q with rfl
   exact⟨ndx,by rw[hdx];rfl⟩) (by simp) x (.obj c [] []) λg' ad ea en et=>by
  refine⟨by rw[ea,et];simp[Gh.puts_n,Gh.puts_c,Gh.put,ne],C,dx,[],0,[],N.cls,by rw[et];simp[Gh.puts_n,Gh.puts_c,Gh.put],by rw[ea];exact hx,hdx,trivial,trivial⟩
 have eln:σ.length=g.n:=G.n;have rk:cR P g1 h' (.loc σ.length) (.ref x):=by
  exact⟨b7 0x18a1819a27f1092822 en eln,by rw[eln,ea]⟩
 have hA0:jP A (n.1,0) fr:=by
  have e:n=(n.1,0):=by rw[<-hn]
  replace hA:=(e)▸hA;exact hA
 have V1:=V.mono ad1;have F1:=F.mono ad1;have key:=hC ini aI N.fa _ 1 env ρ fr (.loc σ.length::bs) (.ref x::vs) (Cq (C:=C) (vs:=vs) hA0) g1 (σ++[.obj c [] []]) {s with heap:=h'} E G1 V1 F1 (by exact⟨rk,hp.mono ad1⟩)
  (λq=>hb (by simp only[MM.bind,q])) λe s' g' aF q ad G' X sm=>hE e s' g' aF (by simp only[MM.bind,q]) (ad1.trans ad) G' X ⟨sm.1,sm.2.1,sm.2.2⟩
 refine kU key λr s' z=>?_;rcases r with e|f
 ·exact z
 ·induction f with
  |ret v=>
   obtain⟨b,aF,g',q,ad,G',r,sm⟩:=z;have AD:=ad1.trans ad;have hb':si c frozen σ.length b aF≠.bad:=λq'=>hb (by simp only[MM.bind,q,q']);have rk':=rk.mono ad;have SM:fU s s':=⟨sm.1,sm.2.1,sm.2.2⟩;unfold si at hb';cases b with
   |none=>
    subst r;refine⟨rfl,?_⟩
    induction frozen with
    |false=>exact⟨.loc σ.length,aF,g',by simp only[MM.bind,q];rfl,AD,G',rk',SM⟩
    |true=>
     induction hk:aF[σ.length]? with
     |none=>rw[hk]at hb';exact absurd rfl hb'
     |some cell=>
      replace hb':=(hk)▸hb'
      induction cell with
      |obj c' ns ps=>
       by_cases hc:c'=c
       ·subst hc;obtain⟨ad2,G2⟩:=mK G' (kG hk);refine⟨.obj c' ns ps,aF.set σ.length .dead,g'.freeze σ.length,by simp only[MM.bind,q,si,if_true,hk],AD.trans ad2,G2,?_,SM⟩;obtain⟨_,e⟩:=rk';injection e with e;refine e.symm▸?_;exact(rX G' hk (p:=.obj c' ns ps) rfl)
       ·simp only[if_neg hc]at hb';exact absurd rfl hb'
      |_=>exact absurd rfl hb'
   |_=>exact absurd rfl hb'
  |_=>exact z.elim
theorem SE.new (B:cK P) {e:ay} {es:List ay} {mes:List ME} {x:Str} {p pos:Pos} {c ini:String} {C aI:Addr} {frozen:Bool} (N:sK P c ini C aI) (hC:iP P cls cf n.1) (hn:n.2=0) (hs:vp P cls cf n sc (e::es) mes)
  (hk:sc.names.lookup x=some .globalImplicit) (hv:P.mg x=some (.ref C)) (hd:(x==("__debug__":Str))=false)
  (he:∀env,aX (e::es) env=(false,eval e env)::aX es env) (hp:∀env,(ee pos (aX es env)).any (·.1)=false):SE P cls cf n sc (.Call (.Name x p) (e::es) [] pos) (.new c frozen ini mes):=λA env ρ fr hsc hA=>by
 refine(aQ.bind (U:=λvs Q E s=>P.K.In s.heap/\eJ P A (PySem.call (.ref C) vs) Q E s) al (λvs=>?_) (hs A env ρ fr pos hsc hA) λbs vs=>?_).ofE λQ E s g σ G V ö h=>?_
 ·exact λQ Q' E s x y=>⟨y.1,al _ _ _ _ x y.2⟩
 ·exact λg σ s E G V F hp hb hE=>⟨G.kin B,FU B N hC hA hn g σ s E G V F hp hb hE⟩
 ·exact Call_Name rfl (j0 B G V (by rw[Env.kindOf,hsc];exact hk) hv (callWith_K (K:=P.K) B.kin N.keep h (he env) (hp env)) hd)
end
end Mine.Internal
section
set_option maxRecDepth 100000
namespace Mine.Internal
open PySem
open Sem (wp)
section
variable {prog:Program} {w:World} {A:bd} {R:Result->ak->Prop} {E:ag->ak->Prop} {h:Heap} {g:Array GenState} {d:Drawn} {t:Nat} {os:OsState}
variable {nm q:Str} {C N:Addr} {bs bm:List ag} {hdct:Bool} {sn:List Str} {sub:List ag} {ab:Bool} {col:Option Bool} {dd:Option Addr} {k0 k1 k2 k3 k5:Option ag}
noncomputable abbrev eV:=PySem.F.excBase_ValueError
theorem tn {M:Model} {rest:List ag} {Q:Unit->ak->Prop} (cB:bm.contains (.type "ValueError")=true) (hC:h.get? C=some (excClassObj nm q C N bs bm hdct sn sub ab col dd k0 k1 k2 k3 k5 "ValueError.__new__"))
  (hq:Q () ⟨h,g,d,t,os⟩):wpAny M A (checkBuiltinCall "ValueError.__new__" ⟨.ref C::rest,[]⟩) Q E ⟨h,g,d,t,os⟩:=wpAny_check_new_subU eV cB .base hC hq
theorem wK {rest:List ag} (hC:h.get? C=some (excClassObj nm q C N bs bm hdct sn sub ab col dd k0 k1 k2 k3 k5 "ValueError.__new__")) (cB:bm.contains (.type "ValueError")=true) (cA:bm.contains (.type "AttributeError")=false) (cN:bm.contains (.type "NameError")=false)
  (hq:R (.ok (.ret (.ref (h.objs.size+1)))) ⟨(h.push {cls:=.type "tuple",data:=.seq rest.toArray}).push
   {cls:=.ref C,data:=.fields #[.ref h.objs.size,.none,.none,.none,.bool false,.none]},g,d,t,os⟩) (hrest:rest.length<=sizeLine):
  codeAny (model prog w) A (.builtin "ValueError.__new__" ⟨.ref C::rest,[]⟩) R ⟨h,g,d,t,os⟩:=by
 have hends:=eV.ends;have hcB:(Value.ref C::bm).contains (.type "ValueError")=true:=by rw[bR,cB,fX]
 have hcA:(Value.ref C::bm).contains (.type "AttributeError")=false:=by rw[bR,cA];rfl
 have hcN:(Value.ref C::bm).contains (.type "NameError")=false:=by rw[bR,cN];rfl
 refine codeAny_builtinAt eV.entry ?_;unfold Builtin.«BaseException.__new__»;refine wpAt_bind ?_;show wpAt _ _ _ (stack>>=_) _ _ _;refine wpAt_bind (wpAt_stack λp below=>wpAt_of_wpAny ?_)
 wp_walk
 refine wpAt_of_wpAny ?_;refine(eV.owner).symm▸?_
 repeat (first|with_reducible refine wpAny_madeHere_exc eV.canon hC ?_|with_reducible refine cM hC ?_|(with_reducible refine wpAny_isSubtype_exc hC ?_;first|rw[hcB]|rw[hcA]|rw[hcN])|wp_step)
 show R _ _;rw[ko];exact hq
theorem DR {K:W.Frag} {fI:Addr} {rest:List ag} (X:K.In h) (hC:h.get? C=some (excClassObj nm q C N bs bm hdct sn sub ab col dd k0 k1 k2 k3 k5 "ValueError.__new__")) (cB:bm.contains (.type "ValueError")=true) (cA:bm.contains (.type "AttributeError")=false) (cN:bm.contains (.type "NameError")=false)
  (hi:W.findIn K (.ref C) "__init__"=some (some (.ref fI))) (hf:W.typeIn K (.ref fI)=some (.type "function"))
  (hq:codeAny (model prog w) (A.under (.builtin "type.__call__" ⟨.ref C::rest,[]⟩)) (.call (.ref fI) ⟨.ref (h.objs.size+1)::rest,[]⟩) (W.InitBack (h.objs.size+1) R)
   ⟨(h.push {cls:=.type "tuple",data:=.seq rest.toArray}).push {cls:=.ref C,data:=.fields #[.ref h.objs.size,.none,.none,.none,.bool false,.none]},g,d,t,os⟩) (hrest:rest.length<=sizeLine):
  codeAny (model prog w) A (.call (.ref C) ⟨rest,[]⟩) R ⟨h,g,d,t,os⟩:=by
 have f1:=tc_lookup;have f2:=tc_bind (.ref C);have hT:(⟨h,g,d,t,os⟩:ak).TypeIs (.ref C) "type":=⟨_,hC,rfl⟩;refine codeAny_of_tree ?_;show wpAny _ _ (callAny (.ref C) _) _ _ _
 repeat (any_goals (first|assumption|with_reducible refine cM hC ?_|wp_step))
 refine⟨rfl,?_⟩;refine codeAny_call_builtin_at (Code.quiet_builtin _ (by decide+kernel)) entry_typeCall (wpAny_check_type_call_sub hC ?_);unfold Builtin.«type.__call__»
 repeat (first|with_reducible refine cM hC ?_|with_reducible refine wpAny_madeBy_exc hC ?_|wp_step)
 refine codeAny_call_builtin_code (Code.quiet_builtin _ eV.quiet) (tn cB hC ?_);refine wK hC cB cA cN ?_ hrest;show wpAny _ _ _ _ _ _;have Ig:=az {cls:=.ref C,data:=.fields #[.ref h.objs.size,.none,.none,.none,.bool false,.none]}
  (az {cls:=.type "tuple",data:=.seq rest.toArray} hC)
 have hget:((h.push {cls:=.type "tuple",data:=.seq rest.toArray}).push
   {cls:=.ref C,data:=.fields #[.ref h.objs.size,.none,.none,.none,.bool false,.none]}).get? (h.objs.size+1)=some
   {cls:=.ref C,data:=.fields #[.ref h.objs.size,.none,.none,.none,.bool false,.none]}:=by heap_get
 have hcC:(Value.ref C::bm).contains (.ref C)=true:=by simp
 unfold isInstance
 repeat (first|with_reducible refine cM hget ?_|(with_reducible refine wpAny_isSubtype_exc Ig ?_;rw[hcC])|wp_step)
 show wpAny _ _ (isSubtype (.ref C) (.ref C)) _ _ _;refine wpAny_isSubtype_exc Ig ?_;refine hcC.symm▸?_;have kk:∀b o,h.get? b=some o->((h.push {cls:=.type "tuple",data:=.seq rest.toArray}).push {cls:=.ref C,data:=.fields #[.ref h.objs.size,.none,.none,.none,.bool false,.none]}).get? b=some o:=
  λb o e=>az _ (az _ e)
 have li':=(W.looks_findIn (M:=model prog w) X hi).keeps kk;have lb':=(W.bind_fn (M:=model prog w) X (.ref (h.objs.size+1)) hf).keeps kk;unfold callSpecial? specialOf
 repeat (first|with_reducible refine cM hget ?_|wp_step)
 show wpAny _ _ (typeLookup (.ref C) _) _ _ _;refine li' _ _ _ _ (λö ö e=>e) ?_;refine wpAny_holding (av (lb' _ _ _ _ (λö ö e=>e) ?_));refine av (lN (kU hq λr s' z=>?_));rcases r with e|f
 ·exact z
 ·induction f with
  |ret v=>
   obtain⟨rfl,z⟩:=z;exact aG (aG z)
  |_=>exact z.elim
end
end Mine.Internal
end
section
set_option maxRecDepth 100000
namespace Mine.Internal
open PySem
open Sem (wp)
section
variable {prog:Program} {w:World} {A:bd} {E:ag->ak->Prop} {s:ak} {K:W.Frag}
theorem yo {expr:Bool} {Q:ag->ak->Prop} (X:K.In s.heap) (hQ:Q (.builtin "ValueError.__init__") {s with toks:=s.toks+1}):wpAny (model prog w) A (getAttr (.type "ValueError") "__init__" expr) Q E s:=by
 refine W.cls_open (K:=K) (c:=.type "ValueError") (mc:=.type "type") (hook:=none) (r:=.val (.builtin "ValueError.__init__")) X ?_ ?_ ?_ ?_ ?_ ?_ ?_
 ·exact W.Looks.of_pure (by kernel_rfl)
 ·exact W.Looks.of_pure (by kernel_rfl)
 ·kernel_rfl
 ·exact W.Looks.of_pure (by kernel_rfl)
 ·kernel_rfl
 ·kernel_rfl
 ·refine aG ?_;show wpAny _ _ (handedOut _) _ _ _;rw[W.handedOut_of (by kernel_rfl)];exact aG hQ
theorem uZ {pl:Sem Bool} {Q:ag×List ag->ak->Prop} (X:K.In s.heap) (hQ:Q (.builtin "ValueError.__init__",[]) {s with toks:=s.toks+1}):wpAny (model prog w) A (getMethod (.type "ValueError") "__init__" pl) Q E s:=by
 unfold getMethod;refine av (Hs (a:=some (.builtin "type.__getattribute__")) (by kernel_rfl) ?_);dsimp only;refine(if_pos W.canon_tga).symm▸?_;exact av (yo (K:=K) X (aG hQ))
end
section
variable {prog:Program} {w:World} {A:bd} {E:ag->ak->Prop} {h:Heap} {g:Array GenState} {d:Drawn} {t:Nat} {os:OsState}
variable {nm q:Str} {C B0 N x:Addr} {bs:List ag} {sn:List Str} {sub:List ag} {ab:Bool} {col:Option Bool} {dd:Option Addr} {k0 k1 k2 k3 k5:Option ag} {newId:String}
 {mA:Str->Option ag} {name:Str} {v:ag}
noncomputable abbrev sD:List ag:=[.type "ValueError",.type "Exception",.type "BaseException",.type "object"]
open Builtin Builtin.ObjectAttr in
theorem qi {tk:Tok} {Q:Fin->ak->Prop} {ns:List Str}
  (hC:h.get? C=some (excClassObj nm q C N bs (.ref B0::sD) true sn sub ab col dd k0 k1 k2 k3 k5 newId)) (hlk:W.Looks (model prog w) h (typeLookup (.ref C) name) none) (I:h.Inst x C mA)
  (hq:∀h' tk',h'.Inst x C (λy=>if y=name then some v else mA y)->
   (∀b o,b≠x->(∀jJ dx,h.get? x=some jJ->jJ.dict=some dx->b≠dx)->h.get? b=some o->h'.get? b=some o)->
   (∀jJ,h.get? x=some jJ->∃lY,h'.get? x=some lY/\lY.cls=jJ.cls/\lY.data=jJ.data/\lY.slots=jJ.slots/\∀dx,lY.dict=some dx->jJ.dict=some dx\/dx=h.objs.size)->Q (.done (.ret .none)) ⟨h',g,d,tk',os⟩) (hw:Within mA ns) (hsz:ns.length<=100):
  wpAny (model prog w) A (Builtin.«object.__setattr__» ⟨[.ref x,.str name tk,v],[]⟩) Q E ⟨h,g,d,t,os⟩:=by
 obtain⟨o,hx,hc,hnc,hd⟩:=I;have hlk':∀(A:bd) (Q:Option ag->ak->Prop) (E:ag->ak->Prop) (s:ak),(∀b o,h.get? b=some o->s.heap.get? b=some o)->Q none s->wpAny (model prog w) A (typeLookup (.ref C) name) Q E s:=hlk;have hpass:refuseLoop (.ref x) "__setattr__" (.ref B0::sD)=pure ():=by rw[refuseLoop_ref];exact F.store_ValueError.passes (.ref x)
 unfold Builtin.«object.__setattr__»
 repeat (first|rw[refuse_eq]|(rw[refuseLoop_ref,hpass])|(with_reducible refine cM hx ?_;rw[hc])|with_reducible refine wpAny_mroOf_exc hC ?_|with_reducible refine hlk' _ _ _ _ (λö ö e=>e) ?_|wp_step)
 rcases hd with⟨hdn,hmA⟩|⟨dx,hdx,hne,hns⟩
 ·
  rw[hdn,if_neg (by simp[typeHasDict])];split
  ·rename_i hcd;contradiction
  split
  ·rename_i c hcd;exact absurd hcd (hnc c)
  ·have H8:(h.push {cls:=.type "dict",data:=.dict #[]}).get? x=some o:=az _ hx;have hxs:x≠h.objs.size:=dr (dn hx);refine av (wpAny_alloc' ?_);refine av (wpAny_update' H8 ?_);refine aG ?_;have hgd:((h.push {cls:=.type "dict",data:=.dict #[]}).update x λo=>{cls:=o.cls,dict:=some h.objs.size,data:=o.data,slots:=o.slots}).get? h.objs.size
     =some {cls:=.type "dict",data:=.dict #[]}:=
    (Ch _ _ _ _ hxs.symm).trans (Heap.get?_push_at rfl rfl)
   have hnd:((h.push {cls:=.type "dict",data:=.dict #[]}).update x λo=>{cls:=o.cls,dict:=some h.objs.size,data:=o.data,slots:=o.slots}).Ns h.objs.size (λö=>none):=
    ⟨_,#[],_,hgd,rfl,λe he=>absurd he (by simp),λö=>rfl⟩
   show wpAny _ _ (storeInDict h.objs.size (.str name tk) name v) _ _ _;unfold storeInDict newKeyGuard;refine av (aG (av (wpAny_nsSet1 (Heap.Ns1.of_empty hnd) λh' hn' hs=>?_)));obtain⟨oD,esD,epD,hoD,hdD,hcD⟩:=hn'.count (Within.cons name v Within.nil);refine av (wpAny_lookBehind hoD (by rw[hdD];exact pastItsLine_dict (ae hcD (by rw[aj,bc,sizeLine_eq];decide))) ?_)
   wp_walk
   have hx':h'.get? x=some {cls:=o.cls,dict:=some h.objs.size,data:=o.data,slots:=o.slots}:=?_;refine hq h' _ ⟨{cls:=o.cls,dict:=some h.objs.size,data:=o.data,slots:=o.slots},hx',hc,hnc,.inr ⟨h.objs.size,rfl,hxs.symm,?_⟩⟩ (λb ob hbx ö hb=>?_)
    (λjJ h₀=>by obtain rfl:o=jJ:=Option.some.inj (hx.symm.trans h₀);exact⟨_,hx',rfl,rfl,rfl,λdx e=>by(injection e;subst_vars);exact .inr rfl⟩)
   ·obtain⟨o',es,ep,e1,e2,e3,eu,e4⟩:=hn';exact⟨o',es,ep,e1,e2,e3,eu,λy=>by rw[e4 y];by_cases hy:y=name<;>simp[hy,hmA]⟩
   ·exact(hs.2 b (dr (dn hb))).trans ((Ch _ _ _ _ hbx).trans (az _ hb))
   ·refine(hs.2 x hxs).trans (gk _ H8 ?_);have hfr:=(Heap.get?_some_iff.mp hx).2;obtain⟨oc,od,odt,osl⟩:=o
    induction odt<;>first|rfl|exact hfr
 ·
  refine hdx.symm▸?_;refine aG ?_;show wpAny _ _ (storeInDict dx (.str name tk) name v) _ _ _;unfold storeInDict newKeyGuard;refine av (aG (av (wpAny_nsSet1 hns λh' hn' hs=>?_)));obtain⟨oD,esD,epD,hoD,hdD,hcD⟩:=hn'.count (Within.cons name v hw);refine av (wpAny_lookBehind hoD (by rw[hdD];exact pastItsLine_dict (ae hcD (by rw[aj,sizeLine_eq];exact cy 0x110100000071210820816421801 hsz))) ?_)
  wp_walk
  refine hq h' _ ⟨o,(hs.2 x hne.symm).trans hx,hc,hnc,.inr ⟨dx,hdx,hne,hn'⟩⟩ (λb ob ö hbd hb=>?_)
   (λjJ h₀=>⟨jJ,(hs.2 x hne.symm).trans h₀,rfl,rfl,rfl,λö e=>.inl e⟩)
  exact(hs.2 b (hbd o dx hx hdx)).trans hb
theorem u3 {M:Model} {o:Obj} {nameV:ag} {Q:Unit->ak->Prop}
  (hC:h.get? C=some (excClassObj nm q C N bs (.ref B0::sD) true sn sub ab col dd k0 k1 k2 k3 k5 newId)) (hx:h.get? x=some o) (hc:o.cls=.ref C) (hq:Q () ⟨h,g,d,t,os⟩):
  wpAny M A (checkBuiltinCall "object.__setattr__" ⟨[.ref x,nameV,v],[]⟩) Q E ⟨h,g,d,t,os⟩:=by
 have SF:=F.store_ValueError;have hcB:(Value.ref C::Value.ref B0::sD).contains (.type "object")=true:=by
  rw[bR,bR,show sD.contains (.type "object")=true from SF.hasOwner,fX,fX]
 have ha:=SF.args (.ref x) nameV v;simp only[checkBuiltinCall,SF.kind,SF.split];refine av ?_
 ·unfold isInstance
  repeat (first|(with_reducible refine cM hx ?_;rw[hc])|(with_reducible refine wpAny_isSubtype_exc hC ?_;rw[hcB])|wp_step)
  all_goals exact hq
theorem BD {Q:Unit->ak->Prop} {ns:List Str}
  (hC:h.get? C=some (excClassObj nm q C N bs (.ref B0::sD) true sn sub ab col dd k0 k1 k2 k3 k5 newId)) (hlk:W.Looks (model prog w) h (typeLookup (.ref C) name) none) (hsa:W.Looks (model prog w) h (typeLookup (.ref C) "__setattr__") (some (.builtin "object.__setattr__"))) (I:h.Inst x C mA)
  (hq:∀h' tk',h'.Inst x C (λy=>if y=name then some v else mA y)->
   (∀b o,b≠x->(∀jJ dx,h.get? x=some jJ->jJ.dict=some dx->b≠dx)->h.get? b=some o->h'.get? b=some o)->
   (∀jJ,h.get? x=some jJ->∃lY,h'.get? x=some lY/\lY.cls=jJ.cls/\lY.data=jJ.data/\lY.slots=jJ.slots/\∀dx,lY.dict=some dx->jJ.dict=some dx\/dx=h.objs.size)->Q () ⟨h',g,d,tk',os⟩) (hw:Within mA ns) (hsz:ns.length<=100):
  wpAny (model prog w) A (setAttr (.ref x) name v) Q E ⟨h,g,d,t,os⟩:=by
 obtain⟨o,hx,hc,_⟩:=id I;have SF:=F.store_ValueError;have f3:=SF.slot.bind (.ref x);have hsa':∀(A:bd) (Q:Option ag->ak->Prop) (E:ag->ak->Prop) (s:ak),(∀b o,h.get? b=some o->s.heap.get? b=some o)->Q (some (.builtin "object.__setattr__")) s->wpAny (model prog w) A (typeLookup (.ref C) "__setattr__") Q E s:=hsa;unfold setAttr callSpecial? specialOf
 repeat (any_goals (first|assumption|(with_reducible refine cM hx ?_;rw[hc])|with_reducible refine hsa' _ _ _ _ (λö ö e=>e) ?_|wp_step))
 refine codeAny_call_builtin SF.slot.plain SF.entry (u3 hC hx hc (qi hC hlk I (λh' tk' I' hk hsame=>?_) hw hsz))
 repeat (any_goals (first|assumption|wp_step))
 exact hq h' tk' I' hk hsame
end
end Mine.Internal
end
section
set_option maxRecDepth 100000
namespace Mine.Internal
open PySem
open Sem (wp)
section
variable {prog:Program} {w:World} {A:bd} {E:ag->ak->Prop} {h:Heap} {g:Array GenState} {d:Drawn} {t:Nat} {os:OsState}
variable {nm q:Str} {C B0 N x:Addr} {bs:List ag} {sn:List Str} {sub:List ag} {ab:Bool} {col:Option Bool} {dd:Option Addr} {k0 k1 k2 k3 k5:Option ag} {newId:String}
theorem r9 {M:Model} {oe:Obj} {rest:List ag} {Q:Unit->ak->Prop}
  (hC:h.get? C=some (excClassObj nm q C N bs (.ref B0::sD) true sn sub ab col dd k0 k1 k2 k3 k5 newId)) (he:h.get? x=some oe) (hcls:oe.cls=.ref C) (hq:Q () ⟨h,g,d,t,os⟩):
  wpAny M A (checkBuiltinCall "ValueError.__init__" ⟨.ref x::rest,[]⟩) Q E ⟨h,g,d,t,os⟩:=by
 have hcB:(Value.ref C::Value.ref B0::sD).contains (.type "ValueError")=true:=by
  rw[bR,bR,show sD.contains (.type "ValueError")=true from eV.hasB,fX,fX]
 have hshort:=eV.noStar;simp only[checkBuiltinCall,eV.initKind,eV.initSplit,eV.initRow]
 repeat (first|(with_reducible refine cM he ?_;rw[hcls])|with_reducible refine cM hC ?_|(with_reducible refine wpAny_isSubtype_exc hC ?_;rw[hcB])|wp_step)
 refine wpAny_onRaise ?_;rw[show∀(a b:String) (n:Nat),Bind.check ⟨.positional,"*","ValueError",.self,[⟨"args",.varPos,false⟩]⟩ a b n (iR (λx=>x.fst) ({pos:=Value.ref x::rest}:Args).kw)=pure ()from
  λa b n=>check_star_args _ _ _ _ _ _]
 exact aG hq
theorem tm {oe:Obj} {vs:Array ag} {v:ag} {Q:ag->ak->Prop}
  (hC:h.get? C=some (excClassObj nm q C N bs (.ref B0::sD) true sn sub ab col dd k0 k1 k2 k3 k5 newId)) (he:h.get? x=some oe) (hcls:oe.cls=.ref C) (hd:oe.data=.fields vs) (hsz:0<vs.size)
  (hq:Q .none ⟨(h.push {cls:=.type "tuple",data:=.seq #[v]}).update x (Obj.mapFields (·.setIfInBounds 0 (.ref h.objs.size))),g,d,t,os⟩):
  wpAny (model prog w) A (call (.builtin "ValueError.__init__") [.ref x,v]) Q E ⟨h,g,d,t,os⟩:=by
 refine lN (codeAny_call_builtin eV.init.plain eV.initEntry (r9 hC he hcls ?_));unfold Builtin.«BaseException.__init__»
 wp_walk
 refine hd.symm▸?_;refine aG ?_;obtain⟨a0,ha0⟩:∃a0,vs[0]?=some a0:=⟨vs[0],vx hsz⟩;refine ha0.symm▸?_;refine aG ?_;have MX:(h.push {cls:=.type "tuple",data:=.seq #[v]}).get? x=some oe:=az _ he;refine av (wpAny_setField MX hd hsz ?_);have fin:wpAny (model prog w) A.in1 (ret Value.none) (λfin s'=>match fin with
   |.done f=>(match(Except.ok f:Result)with|.ok (.ret v)=>Q v s'|.ok _=>False|.error e=>E e s')
   |.again c'=>c'.quiet=true/\codeAny (model prog w) A c' (λr s'=>match r with|.ok (.ret v)=>Q v s'|.ok _=>False|.error e=>E e s') s')
   (λe s'=>E e s') ⟨(h.push {cls:=.type "tuple",data:=.seq #[v]}).update x (Obj.mapFields (·.setIfInBounds 0 (.ref h.objs.size))),g,d,t,os⟩:=aG hq
 induction a0<;>first|exact wpAny_letGo fin|exact aG fin
end
end Mine.Internal
end
section
set_option maxRecDepth 100000
namespace Mine.Internal
open PySem PySem.W PyProof.Rows PySem.Calls
inductive Mv (P:PW) (C C0:Addr):Prop
 |mk (nm q:Str) (N:Addr) (bs:List ag) (sn:List Str) (sub:List ag) (ab:Bool) (col:Option Bool) (dd:Option Addr) (k0 k1 k2 k3 k5:Option ag):P.B.get? C=some (excClassObj nm q C N bs (.ref C0::sD) true sn sub ab col dd k0 k1 k2 k3 k5 "ValueError.__new__")->Mv P C C0
inductive Mw (h:Heap) (x C:Addr):Prop
 |mk (o:Obj) (vs:Array ag) (a0:ag):h.get? x=some o->o.cls=.ref C->o.data=.fields vs->vs[0]?=some a0->vs[1]?=some .none->Mw h x C
structure mS (P:PW) (C C0 fT fB:Addr):Prop where
 obj:Mv P C C0
 line:findIn P.K (.ref C) "line"=some none
 reason:findIn P.K (.ref C) "reason"=some none
 set:findIn P.K (.ref C) "__setattr__"=some (some (.builtin "object.__setattr__"))
 init:findIn P.K (.ref C) "__init__"=some (some (.ref fT))
 initF:typeIn P.K (.ref fT)=some (.type "function")
 ve:P.mg "ValueError"=none
 veb:P.mb "ValueError"=some (.type "ValueError")
 bt:P.mg "BadText"=some (.ref C)
 be:P.mg "BoardError"=some (.ref C0)
 reads:readsIn P.K C0 (.type "type")=true
 beinit:findCls P.K (.ref C0) (.type "type") "__init__"=some (.val (.ref fB))
 keep:keepIn P.K (.ref C)=true
 ga:specialIn P.K (.ref C0) "__getattribute__"=some (some (.builtin "type.__getattribute__"))
structure i7 (h₀ h:Heap) (x C:Addr) (mA:Str->Option ag):Prop where
 keep:∀b o,h₀.get? b=some o->h.get? b=some o
 new:h₀.get? x=none
 inst:h.Inst x C mA
 dict:∀o dx,h.get? x=some o->o.dict=some dx->h₀.get? dx=none
 fld:Mw h x C
section
variable {P:PW} {A:bd} {E:ag->ak->Prop} {C C0 fT fB x:Addr} {h₀:Heap} {mA:Str->Option ag}
theorem i7.mono {h h':Heap} (X:i7 h₀ h x C mA) (k:∀b o,h.get? b=some o->h'.get? b=some o):i7 h₀ h' x C mA where
 keep b o e:=k b o (X.keep b o e)
 new:=X.new
 inst:=by
  obtain⟨o,ho,hc,hd,r⟩:=X.inst;refine⟨o,k _ _ ho,hc,hd,?_⟩;rcases r with r|⟨d,e,ne,n⟩
  ·exact .inl r
  ·refine .inr ⟨d,e,ne,?_⟩;obtain⟨o',es,ep,a,b⟩:=n;exact⟨o',es,ep,k _ _ a,b⟩
 dict:=λo dx e1 e2=>by
  obtain⟨o',vs,a0,ho,_⟩:=X.fld;have:=k _ _ ho;replace this:=(e1)▸this;cases this
  exact X.dict o dx ho e2
 fld:=let⟨o,vs,a0,ho,r1,r2,r3,r4⟩:=X.fld;⟨o,vs,a0,k _ _ ho,r1,r2,r3,r4⟩
theorem Ah {h:Heap} {g:Array GenState} {d:Drawn} {t:Nat} {os:OsState} {L:Addr} {m:Str->Option ag} {name:Str} {v:ag} {ns:List Str} {Q:Unit->ak->Prop} (B:cK P) (EF:mS P C C0 fT fB) (k0:∀b o,P.B.get? b=some o->h₀.get? b=some o) (X:i7 h₀ h x C mA) (hL:h.Ns L m) (hx:L≠x) (hdx:∀o dx,h.get? x=some o->o.dict=some dx->L≠dx)
  (hn:findIn P.K (.ref C) name=some none) (hw:Within mA ns) (hsz:ns.length<=100)
  (hQ:∀h' t',i7 h₀ h' x C (λy=>if y=name then some v else mA y)->h'.Ns L m->(∀o dx,h'.get? x=some o->o.dict=some dx->L≠dx)->Q () ⟨h',g,d,t',os⟩):wpAny (model P.prog P.w) A (setAttr (.ref x) name v) Q E ⟨h,g,d,t,os⟩:=by
 obtain⟨nm,q,N,bs,sn,sub,ab,col,dd,k0',k1,k2,k3,k5,hC⟩:=EF.obj;have kin:P.K.In h:=λa o e=>X.keep _ _ (k0 _ _ (B.kin a o e));refine BD (X.keep _ _ (k0 _ _ hC)) (looks_findIn kin hn) (looks_findIn kin EF.set) X.inst (λh' t' I' hk hs=>hQ h' t' ?_ ?_ ?_) hw hsz
 ·refine Mine.Internal.cps λζ κ=>?_;obtain⟨o,vs,a0,ho,hc,hd,h0,h1⟩:=X.fld;obtain⟨lY,jk,e1,e2,e3,e4⟩:=hs o ho;refine κ ?_;refine⟨λb ob e=>hk b ob (λz=>?_) (λjJ dx e1 e2 z=>?_) (X.keep b ob e),X.new,I',λo₂ dx e5 e6=>?_,lY,vs,a0,jk,e1.trans hc,e2.trans hd,h0,h1⟩
  ·subst z;rw[X.new]at e;contradiction
  ·subst z;rw[X.dict jJ b e1 e2]at e;contradiction
  ·replace e5:=(jk)▸e5
   (injection e5;subst_vars)
   rcases e4 dx e6 with z|z
   ·exact X.dict o dx ho z
   ·induction q':h₀.get? dx with
    |none=>rfl
    |some ob=>
     have:=dn (X.keep _ _ q');replace this:=(z)▸this;exact absurd this (pL _)
 ·obtain⟨oL,es,ep,e,r⟩:=hL;exact⟨oL,es,ep,hk L oL hx hdx e,r⟩
 ·intro o dx e1 e2;refine Mine.Internal.cps λζ κ=>?_;obtain⟨o',vs,a0,ho,_⟩:=X.fld;obtain⟨lY,jk,_,_,_,e4⟩:=hs o' ho;replace jk:=(e1)▸jk;refine κ ?_
  (injection jk;subst_vars)
  rcases e4 dx e2 with z|z
  ·exact hdx o' dx ho z
  ·obtain⟨oL,es,ep,e,r⟩:=hL;refine z.symm▸?_;exact dr (dn e)
end
end Mine.Internal
end
section
set_option maxRecDepth 100000
namespace Mine.Internal
open PySem PySem.W PyProof.Rows PySem.Calls
section
variable {P:PW} {A:bd} {E:ag->ak->Prop} {C C0 fT fB x:Addr} {h₀:Heap} {mA:Str->Option ag}
theorem i7.init {h:Heap} {L:Addr} {m:Str->Option ag} {oe:Obj} {vs:Array ag} {a0 v:ag} (X:i7 h₀ h x C mA) (hoe:h.get? x=some oe) (hcls:oe.cls=.ref C) (hdt:oe.data=.fields vs) (hv0:vs[0]?=some a0) (hv1:vs[1]?=some .none) (hL:h.Ns L m) (Lx:L≠x):
  i7 h₀ ((h.push {cls:=.type "tuple",data:=.seq #[v]}).update x (Obj.mapFields (·.setIfInBounds 0 (.ref h.objs.size)))) x C mA/\
  (∀b o,b≠x->h.get? b=some o->((h.push {cls:=.type "tuple",data:=.seq #[v]}).update x (Obj.mapFields (·.setIfInBounds 0 (.ref h.objs.size)))).get? b=some o)/\
  ((h.push {cls:=.type "tuple",data:=.seq #[v]}).update x (Obj.mapFields (·.setIfInBounds 0 (.ref h.objs.size)))).Ns L m:=by
 have h1:(h.push {cls:=.type "tuple",data:=.seq #[v]}).get? x=some oe:=az _ hoe;have other:∀b o,b≠x->h.get? b=some o->((h.push {cls:=.type "tuple",data:=.seq #[v]}).update x (Obj.mapFields (·.setIfInBounds 0 (.ref h.objs.size)))).get? b=some o:=λb o ne e=>by
  refine(fW _ _ (λq=>ne q.symm)).symm▸?_;exact az _ e
 obtain⟨oc,od,odt,osl⟩:=oe;simp only at hdt hcls;subst hdt hcls;have hnew:=gk (Obj.mapFields (·.setIfInBounds 0 (.ref h.objs.size))) h1 rfl;refine⟨⟨λb o e=>other b o (λq=>by rw[q,X.new]at e;contradiction) (X.keep b o e),X.new,?_,λo dx e1 e2=>?_,?_⟩,other,?_⟩
 ·obtain⟨o,ho,hc,hd,r⟩:=X.inst;replace ho:=(hoe)▸ho
  (injection ho;subst_vars)
  refine⟨_,hnew,rfl,λc q=>by simp[Obj.mapFields]at q,?_⟩;rcases r with⟨r,hm⟩|⟨d,e,ne,n⟩
  ·exact .inl ⟨r,hm⟩
  ·refine .inr ⟨d,e,ne,?_⟩;obtain⟨o',es,ep,a,b⟩:=n;exact⟨o',es,ep,other _ _ ne a,b⟩
 ·replace e1:=(hnew)▸e1;cases e1
  exact X.dict _ dx hoe e2
 ·refine⟨_,_,.ref h.objs.size,hnew,rfl,rfl,?_,?_⟩
  ·have:=(eN.mp hv0).1;simp[s6,this]
  ·have:=(eN.mp hv1).1;refine(s6).symm▸?_;simp[hv1]
 ·obtain⟨oL,es,ep,e,r⟩:=hL;exact⟨oL,es,ep,other _ _ Lx e,r⟩
theorem sg {a:Addr} {fd:FuncData} {params:List String} {body:List eF} {vs:List ag} {R:Result->ak->Prop} {s:ak} (NL:P.B.NoLimit) (FF:j9 P a fd params body) (k0:∀b o,P.B.get? b=some o->s.heap.get? b=some o)
  (hcell:∀x∈fd.scope.names,x.2≠.cell) (hloc:∀x∈params,fd.scope.names.lookup (aa x)=some .local) (hlen:vs.length=params.length) (hd:A.depth<990)
  (h:∀env cL tk,env.scope=fd.scope->env.globals=mainGlobals->env.builtins=builtinsNs->env.frame=some env.locals->s.heap.get? env.locals=none->cL.Ns env.locals (λx=>((params.map aa).zip vs).reverse.lookup x)->(∀b o,s.heap.get? b=some o->cL.get? b=some o)->
   wpAny (model P.prog P.w) (A.deeper env) (execs body env) (λf s'=>R (.ok (.ret (match f with|.ret v=>v|_=>.none))) s') (λö ö=>False) {s with heap:=cL,toks:=tk}):
  codeAny (model P.prog P.w) A (.call (.ref a) ⟨vs,[]⟩) R s:=by
 obtain⟨o,ho,hdat⟩:=FF.obj;refine codeAny_call_def (by simp only[recursionLimit];exact cy 0x13e83181813de31811 hd) (k0 _ _ ho) hdat (NL.keeps k0) (FF.code.keeps k0) FF.body (FF.bind vs s hlen k0) hcell (λx hx=>?_) (λcL hn hk=>?_) FF.co FF.gen FF.kind
 ·obtain⟨y,hy,e⟩:=bv.mp (Iq hx).1;exact e▸hloc y hy
 ·exact aA (h (callEnv fd s.heap.objs.size a) cL _ rfl FF.glob FF.bi rfl (aT (au _)) hn hk) (λö ö z=>z) λö ö z=>z.elim
theorem gG {env:Env} {m:Str->Option ag} {y:Str} {p:Pos} {v:ag} {s:ak} {Q:ag->ak->Prop} (hf:env.scope.kind=.function) (hk:env.scope.names.lookup y=some .local) (hn:s.heap.Ns env.locals m) (hv:m y=some v) (hd:(y==("__debug__":Str))=false) (hQ:Q v s):
  wpAny (model P.prog P.w) A (eval (.Name y p) env) Q E s:=wpAny_Name (wpAny_loadName_local hf hk hn hv hQ) hd
theorem wn {env:Env} {y:Str} {p:Pos} {v:ag} {s:ak} {Q:ag->ak->Prop} (hf:env.scope.kind=.function) (hk:env.scope.names.lookup y=some .globalImplicit) (hg:env.globals=mainGlobals) (hn:s.heap.Ns mainGlobals P.mg) (hv:P.mg y=some v) (hd:(y==("__debug__":Str))=false) (hQ:Q v s):
  wpAny (model P.prog P.w) A (eval (.Name y p) env) Q E s:=Name_function_global hf hk (loadGlobal_global (hg.symm▸hn) hv hQ) hd
theorem Dk {env:Env} {y:Str} {p:Pos} {v:ag} {s:ak} {Q:ag->ak->Prop} (hf:env.scope.kind=.function) (hk:env.scope.names.lookup y=some .globalImplicit) (hg:env.globals=mainGlobals) (hb:env.builtins=builtinsNs) (hn:s.heap.Ns mainGlobals P.mg) (hm:P.mg y=none) (hnb:s.heap.Ns builtinsNs P.mb) (hv:P.mb y=some v) (hd:(y==("__debug__":Str))=false) (hQ:Q v s):
  wpAny (model P.prog P.w) A (eval (.Name y p) env) Q E s:=Name_function_global hf hk (loadGlobal_builtin (hg.symm▸hn) hm (hb.symm▸hnb) hv hQ) hd
structure Hf (P:PW) (fB:Addr) (fd:FuncData) (p1 p2 p3 p4 p5 p6 p7 p8 p9 p10:Pos):Prop where
 ff:j9 P fB fd ["self","reason"] [.Expr (.Call (.Attribute (.Name (aa "ValueError") p1) (aa "__init__") p2) [.Name (aa "self") p3,.Name (aa "reason") p4] [] p5) p6,.Assign [.Attribute (.Name (aa "self") p7) (aa "reason") p8] (.Name (aa "reason") p9) p10]
 cell:∀x∈fd.scope.names,x.2≠.cell
 self:fd.scope.names.lookup (aa "self")=some .local
 reason:fd.scope.names.lookup (aa "reason")=some .local
 ve:fd.scope.names.lookup (aa "ValueError")=some .globalImplicit
 he:∃pl:Env->Sem Bool,∀env,eval (.Call (.Attribute (.Name (aa "ValueError") p1) (aa "__init__") p2) [.Name (aa "self") p3,.Name (aa "reason") p4] [] p5) env=(do
   let ov<-eval (.Name (aa "ValueError") p1) env
   standAt p2.atName
   let(f,first)<-holding [ov] (getMethod ov (aa "__init__") (pl env))
   e7 p5 f first (ee p5 (aX [.Name (aa "self") p3,.Name (aa "reason") p4] env)) [])
inductive n0 (P:PW) (fB:Addr):Prop
 |mk (fd:FuncData) (p1 p2 p3 p4 p5 p6 p7 p8 p9 p10:Pos):Hf P fB fd p1 p2 p3 p4 p5 p6 p7 p8 p9 p10->n0 P fB
theorem n0.obj (BX:n0 P fB):∃o fd,P.B.get? fB=some o/\o.data=.func fd:=
 have⟨fd,_,_,_,_,_,_,_,_,_,_,BF⟩:=BX;have⟨o,h1,h2⟩:=BF.ff.obj
 ⟨o,fd,h1,h2⟩
theorem BN {r:ag} {R:Result->ak->Prop} {s:ak} (B:cK P) (NL:P.B.NoLimit) (EF:mS P C C0 fT fB) (BX:n0 P fB) (k0:∀b o,P.B.get? b=some o->h₀.get? b=some o) (hd:A.depth<990)
  (X:i7 h₀ s.heap x C (λö=>none))
  (hQ:∀s',i7 h₀ s'.heap x C (λy=>if y="reason" then some r else none)->fU s s'->R (.ok (.ret .none)) s'):
  codeAny (model P.prog P.w) A (.call (.ref fB) ⟨[.ref x,r],[]⟩) R s:=by
 obtain⟨fd,p1,p2,p3,p4,p5,p6,p7,p8,p9,p10,BF⟩:=BX;have kB:∀b o,P.B.get? b=some o->s.heap.get? b=some o:=λb o e=>X.keep _ _ (k0 _ _ e);refine sg NL BF.ff kB BF.cell ?_ rfl hd λenv cL tk esc eg eb ef fL hn hk=>?_
 ·exact bo.mpr ⟨BF.self,bo.mpr ⟨BF.reason,nofun⟩⟩
 ·have hf:env.scope.kind=.function:=esc.symm▸BF.ff.kind;have X1:=X.mono hk;have Lx:env.locals≠x:=λq=>by
   obtain⟨o,_,_,ho,_⟩:=X.fld;rw[q]at fL;rw[fL]at ho;contradiction
  have m1:(λx_1=>(iR aa ["self","reason"] |>.zip [.ref x,r]).reverse.lookup x_1) (aa "self")=some (.ref x):=by kernel_rfl
  have m2:(λx_1=>(iR aa ["self","reason"] |>.zip [.ref x,r]).reverse.lookup x_1) (aa "reason")=some r:=by kernel_rfl
  generalize (λx_1=>(iR aa ["self","reason"] |>.zip [.ref x,r]).reverse.lookup x_1)=m at hn m1 m2;have kB1:∀b o,P.B.get? b=some o->cL.get? b=some o:=λb o e=>hk _ _ (kB _ _ e);have kin:P.K.In cL:=λa o e=>kB1 _ _ (B.kin a o e);refine Mine.Internal.cps λζ κ=>?_;obtain⟨nm,q,N,bs,sn,sub,ab,col,dd,k0',k1,k2,k3,k5,hC⟩:=EF.obj;obtain⟨oe,vs,a0,hoe,hcls,hdt,hv0,hv1⟩:=X1.fld;have hsz:0<vs.size:=(eN.mp hv0).1;have nx:cL.Ns mainGlobals P.mg:=B.ng.keeps kB1;have nb:cL.Ns builtinsNs P.mb:=B.nb.keeps kB1;obtain⟨pl,he⟩:=BF.he;refine κ ?_;refine wpAny_execs_cons (wpAny_Expr_any (MethodCall_ (pl:=pl env) ?_ (he env)) ?_ ?_)
  ·refine Dk hf (esc.symm▸BF.ve) eg eb nx EF.ve nb EF.veb (by decide+kernel) ?_;refine uZ (K:=P.K) kin ?_;refine callWith_method1 ?_;refine args_cons (gG hf (esc.symm▸BF.self) hn m1 (by decide+kernel) ?_);refine args_cons (gG hf (esc.symm▸BF.reason) hn m2 (by decide+kernel) ?_);refine args_nil ?_;show wpAny _ _ (PySem.call (.builtin "ValueError.__init__") [.ref x,r]) _ _ _;refine tm (X1.keep _ _ (k0 _ _ hC)) hoe hcls hdt hsz ?_;obtain⟨X2,hk2,hn2⟩:=X1.init (v:=r) hoe hcls hdt hv0 hv1 hn Lx;have hdict:=gk (Obj.mapFields (·.setIfInBounds 0 (.ref cL.objs.size))) (az {cls:=.type "tuple",data:=.seq #[r]} hoe) (by cases oe;simp only at hdt;subst hdt;rfl);generalize (cL.push {cls:=.type "tuple",data:=.seq #[r]}).update x (Obj.mapFields (·.setIfInBounds 0 (.ref cL.objs.size)))=gI at X2 hk2 hn2 hdict⊢;refine wpAny_execs_cons ?_;refine lH (gG hf (esc.symm▸BF.reason) hn2 m2 (by decide+kernel) (kas_attr (gG hf (esc.symm▸BF.self) hn2 m1 (by decide+kernel) ?_))) rfl rfl rfl;refine Ah B EF k0 X2 hn2 Lx (λo dx e1 e2 q=>?_) EF.reason Within.nil (aL _) λjQ t₃ X3 hn3 hdx3=>?_
   ·have hs:s.heap.get? x=some oe:=by
     obtain⟨o',_,_,ho',_⟩:=X.fld;have:=hk _ _ ho';replace this:=(hoe)▸this
     (injection this;subst_vars)
     exact ho'
    replace e1:=(hdict)▸e1;cases e1
    have e2:oe.dict=some dx:=by
     obtain⟨oc,od,odt,osl⟩:=oe;simp only at hdt;subst hdt;exact e2
    obtain⟨o',ho',_,_,hr⟩:=X.inst;replace ho':=(hs)▸ho';cases ho'
    rcases hr with⟨hr,_⟩|⟨d',hr,_,n⟩
    ·rw[hr]at e2;contradiction
    ·replace e2:=(hr)▸e2;cases e2
     obtain⟨oD,_,_,hoD,_⟩:=n;replace hoD:=(fL)▸(q).symm▸hoD;contradiction
   ·refine wpAny_execs_nil ?_;exact hQ _ X3 ⟨rfl,rfl,rfl⟩
  ·simp[interactive,hf]
  ·rfl
end
end Mine.Internal
end
section
set_option maxRecDepth 100000
namespace Mine.Internal
open PySem PySem.W PyProof.Rows PySem.Calls
noncomputable abbrev sN (x:String):Str:=aa x
section
variable {P:PW} {A:bd} {E:ag->ak->Prop} {C C0 fT fB x:Addr} {h₀:Heap} {mA:Str->Option ag}
structure MK (P:PW) (fT:Addr) (fd:FuncData) (p1 p2 p3 p4 p5 p6 p7 p8 p9 p10 q1 q2 q3 q4 q5 q6 q7:Pos) (k1 k2:Nat):Prop where
 ff:j9 P fT fd ["self","line","reason"] [.Expr (.Call (.Attribute (.Name (sN "BoardError") p1) (sN "__init__") p2) [.Name (sN "self") p3,.JoinedStr [.Constant (.str (sN "line ")) k1 q1,.FormattedValue (.Name (sN "line") q2) (-1) none q3,.Constant (.str (sN ": ")) k2 q4,.FormattedValue (.Name (sN "reason") q5) (-1) none q6] q7] [] p5) p6,
  .Assign [.Attribute (.Name (sN "self") p7) (sN "line") p8] (.Name (sN "line") p9) p10]
 cell:∀x∈fd.scope.names,x.2≠.cell
 self:fd.scope.names.lookup (sN "self")=some .local
 line:fd.scope.names.lookup (sN "line")=some .local
 reason:fd.scope.names.lookup (sN "reason")=some .local
 be:fd.scope.names.lookup (sN "BoardError")=some .globalImplicit
 he:∃pl:Env->Sem Bool,∀env,eval (.Call (.Attribute (.Name (sN "BoardError") p1) (sN "__init__") p2) [.Name (sN "self") p3,.JoinedStr [.Constant (.str (sN "line ")) k1 q1,.FormattedValue (.Name (sN "line") q2) (-1) none q3,.Constant (.str (sN ": ")) k2 q4,.FormattedValue (.Name (sN "reason") q5) (-1) none q6] q7] [] p5) env=(do
   let ov<-eval (.Name (sN "BoardError") p1) env
   standAt p2.atName
   let(f,first)<-holding [ov] (getMethod ov (sN "__init__") (pl env))
   e7 p5 f first (ee p5 (aX [.Name (sN "self") p3,.JoinedStr [.Constant (.str (sN "line ")) k1 q1,.FormattedValue (.Name (sN "line") q2) (-1) none q3,.Constant (.str (sN ": ")) k2 q4,.FormattedValue (.Name (sN "reason") q5) (-1) none q6] q7] env)) [])
theorem ww {a r m:Nat} (h:a<=50) (k:r+100<=m):a+r<=m:=by omega
inductive Hg (P:PW) (fT:Addr):Prop
 |mk (fd:FuncData) (p1 p2 p3 p4 p5 p6 p7 p8 p9 p10 q1 q2 q3 q4 q5 q6 q7:Pos) (k1 k2:Nat):MK P fT fd p1 p2 p3 p4 p5 p6 p7 p8 p9 p10 q1 q2 q3 q4 q5 q6 q7 k1 k2->Hg P fT
theorem G6 {u:Tok} {r:Str} {t:Tok} {R:Result->ak->Prop} {s:ak} (B:cK P) (NL:P.B.NoLimit) (EF:mS P C C0 fT fB)
  (BX:Hg P fT) (BB:n0 P fB) (k0:∀b o,P.B.get? b=some o->h₀.get? b=some o) (hd:A.depth<980) (hr:r.length<=dm)
  (X:i7 h₀ s.heap x C (λö=>none)) (hdn:∀o,s.heap.get? x=some o->o.dict=none)
  (hQ:∀s' mA,i7 h₀ s'.heap x C mA->fU s s'->R (.ok (.ret .none)) s'):
  codeAny (model P.prog P.w) A (.call (.ref fT) ⟨[.ref x,.int 1 u,.str r t],[]⟩) R s:=by
 obtain⟨fd,p1,p2,p3,p4,p5,p6,p7,p8,p9,p10,q1,q2,q3,q4,q5,q6,q7,k1,k2,BF⟩:=BX;have kB:∀b o,P.B.get? b=some o->s.heap.get? b=some o:=λb o e=>X.keep _ _ (k0 _ _ e);refine sg NL BF.ff kB BF.cell ?_ rfl (aO hd (by decide)) λenv cL tk esc eg eb ef fL hn hk=>?_
 ·exact bo.mpr ⟨BF.self,bo.mpr ⟨BF.line,bo.mpr ⟨BF.reason,nofun⟩⟩⟩
 ·have hf:env.scope.kind=.function:=esc.symm▸BF.ff.kind;have X1:=X.mono hk;have Lx:env.locals≠x:=λq=>by
   obtain⟨o,_,_,ho,_⟩:=X.fld;rw[q]at fL;rw[fL]at ho;contradiction
  have m1:(λx_1=>(iR aa ["self","line","reason"] |>.zip [Value.ref x,Value.int 1 u,Value.str r t]).reverse.lookup x_1) (sN "self")=some (.ref x):=by kernel_rfl
  have m3:(λx_1=>(iR aa ["self","line","reason"] |>.zip [Value.ref x,Value.int 1 u,Value.str r t]).reverse.lookup x_1) (sN "reason")=some (.str r t):=by kernel_rfl
  have m2:(λx_1=>(iR aa ["self","line","reason"] |>.zip [Value.ref x,Value.int 1 u,Value.str r t]).reverse.lookup x_1) (sN "line")=some (.int 1 u):=by kernel_rfl
  generalize (λx_1=>(iR aa ["self","line","reason"] |>.zip [Value.ref x,Value.int 1 u,Value.str r t]).reverse.lookup x_1)=m at hn m1 m2 m3;have kB1:∀b o,P.B.get? b=some o->cL.get? b=some o:=λb o e=>hk _ _ (kB _ _ e);have kin:P.K.In cL:=λa o e=>kB1 _ _ (B.kin a o e);have nx:cL.Ns mainGlobals P.mg:=B.ng.keeps kB1;have nb:cL.Ns builtinsNs P.mb:=B.nb.keeps kB1;refine Mine.Internal.cps λζ κ=>?_;obtain⟨pl,he⟩:=BF.he;obtain⟨oB,fdB,hoB,sZ⟩:=BB.obj;have hlim:r.length+100<=sizeLine:=by
   have:dm+100<=sizeLine:=by rw[sizeLine_eq];decide
   exact ae (gE hr 100) this
  refine κ ?_;refine wpAny_execs_cons (wpAny_Expr_any (MethodCall_ (pl:=pl env) ?_ (he env)) ?_ ?_)
  ·refine wn hf (esc.symm▸BF.be) eg nx EF.be (by decide+kernel) ?_;refine method_cls (K:=P.K) kin EF.ga (cls_value (K:=P.K) kin EF.reads EF.beinit rfl ?_);refine callWith_function (o:=oB) (fd:=fdB) (evalArgs_plain ?_);refine args_cons (gG hf (esc.symm▸BF.self) hn m1 (by decide+kernel) ?_);refine args_cons (JoinedStr_many ?_);refine joinParts_cons (Constant_str ⟨by decide+kernel,?_⟩);refine joinParts_cons (FormattedValue_plain (gG hf (esc.symm▸BF.line) hn m2 (by decide+kernel) (formatField_int_small (by decide) ⟨by decide+kernel,?_⟩)));refine joinParts_cons (Constant_str ⟨by decide+kernel,?_⟩);refine joinParts_cons (FormattedValue_plain (gG hf (esc.symm▸BF.reason) (by exact hn) m3 (by decide+kernel) (formatField_str (λt' tk'=>⟨?_,?_⟩) (bN hlim))))
   ·rw[strLen_append];have:(((Il++sN "line ")++(toString (1:Int):Str))++sN ": ").length<=50:=by decide+kernel
    exact ww this hlim
   have hpre:(((Il++sN "line ")++(toString (1:Int):Str))++sN ": ").length<=50:=by decide+kernel
   generalize (((Il++sN "line ")++(toString (1:Int):Str))++sN ": ")=pre at hpre⊢;refine joinParts_nil ?_ ?_
   ·refine args_nil ⟨⟨kB1 _ _ hoB,sZ⟩,lN ?_⟩;obtain⟨oe,vs,a0,hoe,hcls,hdt,hv0,hv1⟩:=X1.fld;have hdn1:oe.dict=none:=by
     obtain⟨o',_,_,ho',_⟩:=X.fld;have:=hk _ _ ho';replace this:=(hoe)▸this
     (injection this;subst_vars)
     exact hdn _ ho'
    have hid:∀b o,b≠x->cL.get? b=some o->(hideAll cL [x]).get? b=some o:=λb o ne e=>hideAll_get [x] e (by simpa using ne);have k0':∀b o,P.B.get? b=some o->(hideAll cL [x]).get? b=some o:=λb o e=>hid b o (λq=>by
     have:=k0 _ _ e;rw[q,X.new]at this;contradiction) (kB1 _ _ e)
    have X2:i7 (hideAll cL [x]) cL x C (λö=>none):={
     keep:=λb o e=>of_hideAll [x] e
     new:=hideAll_none [x] (.head _)
     inst:=X1.inst
     dict:=λo dx e1 e2=>by rw[hoe]at e1;cases e1;rw[hdn1]at e2;cases e2
     fld:=X1.fld}
    refine BN B NL EF BB k0' (aO (s0 hd) (by decide)) X2 λcx X3 sm=>?_;have hn3:cx.heap.Ns env.locals m:=hn.at' λo e=>X3.keep _ _ (hid _ _ Lx e);have X4:i7 h₀ cx.heap x C (λy=>if y="reason" then some (.str (pre++r) _)else none):={
     keep:=λb o e=>X3.keep _ _ (hid b o (λq=>by rw[q,X.new]at e;contradiction) (X1.keep _ _ e))
     new:=X.new
     inst:=X3.inst
     dict:=λo dx e1 e2=>by
      induction q:h₀.get? dx with
      |none=>rfl
      |some ob=>
       have h1:=hid dx ob (λz=>by rw[z,X.new]at q;contradiction) (X1.keep _ _ q);rw[X3.dict o dx e1 e2]at h1;contradiction
     fld:=X3.fld}
    have dL:∀o dx,cx.heap.get? x=some o->o.dict=some dx->env.locals≠dx:=λo dx e1 e2 q=>by
     have h1:=X3.dict o dx e1 e2;obtain⟨oL,_,_,hoL,_⟩:=hn;replace h1:=(hid _ _ Lx hoL)▸(q).symm▸h1;contradiction
    show wpAny _ _ (execs _ env) _ _ cx;refine wpAny_execs_cons ?_;refine lH (gG hf (esc.symm▸BF.line) hn3 m2 (by decide+kernel) (kas_attr (gG hf (esc.symm▸BF.self) hn3 m1 (by decide+kernel) ?_))) rfl rfl rfl;obtain⟨gI,ju,d₂,t₂,os₂⟩:=cx;refine Ah B EF k0 X4 hn3 Lx dL EF.line (Within.cons _ _ Within.nil) (by decide) λjQ t₃ X5 ö ö=>?_;refine wpAny_execs_nil ?_;exact hQ _ _ X5 ⟨sm.1,sm.2.1,sm.2.2⟩
   ·rw[strLen_append];exact ww hpre hlim
  ·simp[interactive,hf]
  ·rfl
end
end Mine.Internal
end
section
set_option maxRecDepth 100000
namespace Mine.Internal
section
open PySem
open Sem (wp)
variable {M:Model} {A:bd} {E:ag->ak->Prop} {s:ak} {env:Env}
variable {C:Addr} {bm:List ag}
inductive yV (C:Addr) (bm:List ag) (E:ag->ak->Prop) (v:ag) (s:ak):Prop
 |mk (e:Addr) (oe:Obj) (vs:Array ag) (nm q:Str) (N:Addr) (bs:List ag) (hdct:Bool) (sn:List Str) (sub:List ag) (ab:Bool) (col:Option Bool) (dd:Option Addr) (k0 k1 k2 k3 k5:Option ag) (newId:String):
  v=.ref e->s.heap.get? C=some (excClassObj nm q C N bs bm hdct sn sub ab col dd k0 k1 k2 k3 k5 newId)->s.heap.get? e=some oe->oe.cls=.ref C->oe.data=.fields vs->vs[1]?=some .none->E (.ref e) s->yV C bm E v s
theorem A7 {x:Sem ag} {Q:PySem.Flow->ak->Prop} (hbase:bm.contains (.type "BaseException")=true) (hh:A.handled=none)
  (h:wpAny M A x (yV C bm E) E s):
  wpAny M A (raiseStmt env (some x) none) Q E s:=by
 have hcB:(Value.ref C::bm).contains (.type "BaseException")=true:=by rw[bR,hbase,fX]
 unfold raiseStmt;refine av (aA h (λv cg cL=>?_) λö ö x=>x);obtain⟨e,oe,vs,nm,q,N,bs,hdct,sn,sub,ab,col,dd,k0,k1,k2,k3,k5,newId,rfl,hC,he,hcls,hd,h1,hE⟩:=cL;obtain⟨hp,g,d,tk,os⟩:=cg;obtain⟨oc,od,odt,osl⟩:=oe;simp only at hcls hd;subst hcls hd
 repeat (first|with_reducible refine cM he ?_|with_reducible refine cM hC ?_|(with_reducible refine wpAny_isSubtype_exc hC ?_;rw[hcB])|wp_step)
 refine h1.symm▸?_;refine aG ?_;rw[if_neg (by decide)];exact aG (wpAny_raiseNew_none hh hE)
end
section
open PySem PySem.W PyProof.Rows PySem.Calls
variable {P:PW} {A:bd} {E:ag->ak->Prop} {C C0 fT fB fF:Addr}
structure He (P:PW) (fF:Addr) (fd:FuncData) (p1 p2 p3 p4 p5:Pos) (k:Nat):Prop where
 ff:j9 P fF fd ["reason"] [.Return (some (.Call (.Name (sN "BadText") p1) [.Constant (.int 1) k p2,.Name (sN "reason") p3] [] p4)) p5]
 cell:∀x∈fd.scope.names,x.2≠.cell
 reason:fd.scope.names.lookup (sN "reason")=some .local
 bt:fd.scope.names.lookup (sN "BadText")=some .globalImplicit
inductive yW (P:PW) (fF:Addr):Prop
 |mk (fd:FuncData) (f1 f2 f3 f4 f5:Pos) (k:Nat):He P fF fd f1 f2 f3 f4 f5 k->yW P fF
theorem BC {r:Str} {t:Tok} {R:Result->ak->Prop} {s:ak} (B:cK P) (NL:P.B.NoLimit) (EF:mS P C C0 fT fB)
  (FX:yW P fF) (BF:Hg P fT) (BB:n0 P fB) (kB:∀b o,P.B.get? b=some o->s.heap.get? b=some o) (hd:A.depth<970) (hr:r.length<=dm)
  (hQ:∀x s' mA,i7 s.heap s'.heap x C mA->fU s s'->R (.ok (.ret (.ref x))) s'):
  codeAny (model P.prog P.w) A (.call (.ref fF) ⟨[.str r t],[]⟩) R s:=by
 obtain⟨fd,f1,f2,f3,f4,f5,k,FF⟩:=FX;refine sg NL FF.ff kB FF.cell ?_ rfl (aO hd (by decide)) λenv cL tk esc eg eb ef fL hn hk=>?_
 ·exact bo.mpr ⟨FF.reason,nofun⟩
 ·have hf:env.scope.kind=.function:=esc.symm▸FF.ff.kind;have m1:(λx_1=>(iR aa ["reason"] |>.zip [Value.str r t]).reverse.lookup x_1) (sN "reason")=some (.str r t):=by kernel_rfl
  generalize (λx_1=>(iR aa ["reason"] |>.zip [Value.str r t]).reverse.lookup x_1)=m at hn m1;have kB1:∀b o,P.B.get? b=some o->cL.get? b=some o:=λb o e=>hk _ _ (kB _ _ e);have kin:P.K.In cL:=λa o e=>kB1 _ _ (B.kin a o e);have nx:cL.Ns mainGlobals P.mg:=B.ng.keeps kB1;obtain⟨nm,q,N,bs,sn,sub,ab,col,dd,k0',k1',k2',k3,k5,hC⟩:=EF.obj;have cB:(Value.ref C0::sD).contains (.type "ValueError")=true:=by rw[bR,show sD.contains (.type "ValueError")=true from by decide,fX]
  have cA:(Value.ref C0::sD).contains (.type "AttributeError")=false:=by rw[bR,show sD.contains (.type "AttributeError")=false from by decide];rfl
  have cN:(Value.ref C0::sD).contains (.type "NameError")=false:=by rw[bR,show sD.contains (.type "NameError")=false from by decide];rfl
  refine wpAny_execs_cons (wpAny_Return_some (Call_Name rfl (wn hf (esc.symm▸FF.bt) eg nx EF.bt (by decide+kernel) ?_)));refine callWith_K (K:=P.K) B.kin EF.keep ?_;refine args_cons (wpAny_Constant_int ?_);refine args_cons (gG hf (esc.symm▸FF.reason) (by exact hn) m1 (by decide+kernel) (args_nil ⟨kin,?_⟩));refine lN (DR (K:=P.K) kin (kB1 _ _ hC) cB cA cN EF.init EF.initF ?_ (by show 2<=sizeLine;decide));have hx:=bA (cL.push {cls:=.type "tuple",data:=.seq [Value.int 1 tk,.str r t].toArray}) (o:={cls:=.ref C,data:=.fields #[.ref cL.objs.size,.none,.none,.none,.bool false,.none]}) rfl;rw[ko]at hx;have keep:∀b o,cL.get? b=some o->((cL.push {cls:=.type "tuple",data:=.seq [Value.int 1 tk,.str r t].toArray}).push {cls:=.ref C,data:=.fields #[.ref cL.objs.size,.none,.none,.none,.bool false,.none]}).get? b=some o:=
   λb o e=>az _ (az _ e)
  have X:i7 s.heap ((cL.push {cls:=.type "tuple",data:=.seq [Value.int 1 tk,.str r t].toArray}).push {cls:=.ref C,data:=.fields #[.ref cL.objs.size,.none,.none,.none,.bool false,.none]}) (cL.objs.size+1) C (λö=>none):={
   keep:=λb o e=>keep b o (hk b o e)
   new:=by
    induction q:s.heap.get? (cL.objs.size+1)with
    |none=>rfl
    |some o=>exact absurd (dn (hk _ _ q)) (Nat.not_lt.mpr (iD _))
   inst:=⟨_,hx,rfl,(λc q=>by contradiction),.inl ⟨rfl,λö=>rfl⟩⟩
   dict:=λo dx e1 e2=>by rw[hx]at e1;cases e1;cases e2
   fld:=⟨_,_,_,hx,rfl,rfl,rfl,rfl⟩}
  refine G6 (h₀:=s.heap) B NL EF BF BB kB ?_ hr X (λo e=>by have e':=hx.symm.trans e;(injection e';subst_vars);rfl) λs' mA X' sm=>⟨rfl,?_⟩
  ·exact aO (s0 (s0 hd)) (by decide)
  ·exact hQ _ s' mA X' ⟨sm.1,sm.2.1,sm.2.2⟩
end
end Mine.Internal
end
section
set_option maxRecDepth 100000
namespace Mine.Internal
open PySem PySem.W PyProof.Rows PySem.Calls
section
variable {P:PW} {cf:String->List PV->MM PV} {W:Nat} {n:Nat×Nat} {sc:bD} {A:bd} {E:ag->ak->Prop} {C C0 fT fB fF:Addr} {g:Gh} {σ:ah} {fr:List Env}
structure sO (P:PW) (C C0 fT fB fF:Addr):Prop where
 ef:mS P C C0 fT fB
 nl:P.B.NoLimit
 fault:yW P fF
 bad:Hg P fT
 board:n0 P fB
 name:P.mg "fault"=some (.ref fF)
open Classical in
theorem GJ {h h':Heap} {x:Addr} {mA:Str->Option ag} (G:dq P g σ h') (F:dc g h' fr) (hx:g.tag x=.free) (X:i7 h h' x C mA):Ki (.ref C) fr g h' (.ref x):=by
 obtain⟨oe,vs,a0,ho,hc,hd,h0,h1⟩:=X.fld
 let as:=(iy h'.objs.size).filter λa=>!(decide (g.tag a=.base)||decide (g.tag a=.frz)||decide (g.tag a=.pin)||(match g.tag a with|.sto _=>true|_=>false))
 have mem:∀a,a<h'.objs.size->(g.tag a=.free\/∃M,g.tag a=.frm M)->a∈as:=λa ha t=>by
  refine hZ.mpr ⟨eQ.mpr ha,?_⟩;rcases t with t|⟨M,t⟩<;>rw[t]<;>simp
 have notmem:∀a,(g.tag a=.base\/g.tag a=.frz\/g.tag a=.pin\/∃k,g.tag a=.sto k)->a∉as:=λa t q=>by
  have:=(hZ.mp q).2;rcases t with t|t|t|⟨k,t⟩<;>rw[t]at this<;>simp at this
 refine⟨x,hideAll h' as,a0,oe,vs,rfl,λb o e=>of_hideAll as e,hideAll_none as (mem x (dn ho) (.inl hx)),?_,ho,hc,hd,h0,h1,λb o e t=>hideAll_get as e (notmem b t)⟩;have ff:∀l:List Env,(∀env∈l,env.scope.kind≠.module/\∃L,env.frame=some L/\g.tag L=.frm L)->KH h' (hideAll h' as) l:=by
  intro l
  induction l with
  |nil=>exact λö=>trivial
  |cons env l ih=>
   intro hl;refine Mine.Internal.cps λζ κ=>?_;obtain⟨k,L,hf,t⟩:=hl env (.head _);obtain⟨_,o,ho,hd⟩:=G.frm L L t;refine κ ?_;exact⟨k,⟨L,o,hf,hideAll_none as (mem L (dn ho) (.inr ⟨L,t⟩)),ho,hd⟩,ih λe he=>hl e (.tail _ he)⟩
 exact ff fr F
theorem SS.raise (B:cK P) (XA:sO P C C0 fT fB fF) {e:ay} {me:ME} {p pos pos':Pos} (he:SE P (.ref C) cf n sc e me) (hk:sc.names.lookup (sN "fault")=some .globalImplicit)
  (hst:∀env,aX [e] env=(false,eval e env)::aX [] env):SS P (.ref C) cf W n sc (.Raise (some (.Call (.Name (sN "fault") p) [e] [] pos)) none pos') [.raise me]:=λA env ρ fr hsc hA=>by
 rw[c5];intro g σ s E G V F hO _ hb hE;refine Mine.Internal.cps λζ κ=>?_;obtain⟨nm,q,N,bs,sn,sub,ab,col,dd,k0',k1',k2',k3,k5,hC⟩:=XA.ef.obj;obtain⟨oF,hoF,hdF⟩:∃o,P.B.get? fF=some o/\∃fd,o.data=.func fd:=by
  obtain⟨fdF,f1,f2,f3,f4,f5,k,FF⟩:=XA.fault;obtain⟨oF,hoF,hdF⟩:=FF.ff.obj;exact⟨oF,hoF,fdF,hdF⟩
 obtain⟨fdF,hdF⟩:=hdF;have hl:=hA.level;refine κ ?_;rw[arm_exec_Raise];refine av (wpAny_standAt ?_);have cE:(Value.ref C0::sD).contains (.type "BaseException")=true:=by rw[bR,show sD.contains (.type "BaseException")=true from by decide,fX]
 refine A7 (C:=C) (bm:=.ref C0::sD) cE hA.handled ?_;show wpAny _ _ (eval (.Call (.Name (sN "fault") p) [e] [] pos) env>>=λv=>standAt pos'>>=λö=>pure v) _ _ _;refine av (aA (E:=E) (Q:=yV C (.ref C0::sD) E) ?_ (λv cg h=>av (wpAny_standAt (aG h))) λö ö z=>z);refine Call_Name rfl (j0 B G V.toEnvRel (by rw[Env.kindOf,hsc];exact hk) XA.name ?_ (by decide+kernel));refine callWith_def hdF (args_cons ?_ (hst env)) (hst env);refine al _ _ _ _ (λv cg ⟨b,aZ,hR,hm,ad,gW,r,sm⟩=>args_nil ⟨gW.keep _ _ hoF,?_⟩) (he A env ρ fr hsc hA g σ s E G V.toEnvRel F trivial (λq=>hb (MM.bind_bad q)) λe s' g' aF q ad G' X sm=>hE e s' g' aF (MM.bind_exc q) ad.weaken G' (.inl X) sm);replace hb:MM.bind (bu cf ρ me) _ σ≠.bad:=hb;replace hb:=(MM.bind_ok hm)▸hb;cases b with
 |str r'=>
  have hlen:r'.length<=dm:=by
   by_cases z:r'.length<=dm
   ·exact z
   ·refine absurd ?_ hb;show MM.bind (bJ (if r'.length<=dm then some r' else none)) _ aZ=_;exact(if_neg z).symm▸rfl
  obtain⟨t,rfl⟩:=r;refine lN (BC B XA.nl XA.ef XA.fault XA.bad XA.board gW.keep (b7 0x13ca31818120a081a3c031293038202 hA.depth hl) hlen λx cx mA X eU=>?_);refine Mine.Internal.cps λζ κ=>?_;obtain⟨oe,vs,a0,ho,hc,hdt,h0,h1⟩:=X.fld;obtain⟨M,tL⟩:=(V.mono ad).tag;obtain⟨mL,hnL,_⟩:=(V.mono ad).ns;obtain⟨ad2,G2⟩:=lO gW tL (.of_all hnL X.keep);refine κ ?_;refine⟨x,oe,vs,_,_,_,_,_,_,_,_,_,_,_,_,_,_,_,_,rfl,X.keep _ _ (gW.keep _ _ hC),ho,hc,hdt,h1,?_⟩;refine hE _ cx hR aZ ((MM.bind_ok hm).trans (by show MM.bind (bJ (if r'.length<=dm then some r' else none)) _ aZ=_;rw[if_pos hlen];rfl)) (ad.trans ad2).weaken G2 (.inr (GJ G2 (F.mono (ad.trans ad2)) (gW.free X.new) X)) (sm.trans eU)
 |_=>exact absurd rfl hb
end
end Mine.Internal
end
section
set_option maxRecDepth 100000
namespace Mine.Internal
open PySem PySem.W PyProof.Rows PySem.Calls
section
variable {P:PW} {cf:String->List PV->MM PV} {W:Nat} {n:Nat×Nat} {sc:bD} {A:bd} {E:ag->ak->Prop} {C C0 fT fB fF:Addr} {g:Gh} {σ:ah} {fr:List Env} {env:Env} {ρ:aE} {h h':Heap} {cls:ag}
theorem wU (B:cK P) (XA:sO P C C0 fT fB fF) {o:List Env} {e:ag} {s:ak} {MZ:eF} {suite:List eF} {np pos:Pos} {Q:PySem.Flow->ak->Prop} (hA:jP A n (env::o)) (G:dq P g σ s.heap) (V:iO P g s.heap env ρ) (F:dc g s.heap (env::o)) (X:yX (.ref C) (env::o) g s.heap e)
  (hk:env.kindOf (sN "BadText")=some .globalImplicit)
  (k:∀x h',dX none g g s.heap h'->dq P g σ h'->wpAny (model P.prog P.w) (A.mark (some (.ref x))) (execs (MZ::suite) env) Q (λö ö=>False) {s with heap:=h'}):
  wpAny (model P.prog P.w) A (noteFrame e env) (λö cx=>wpAny (model P.prog P.w) A (setFlight e none) (λö fw=>wpAny (model P.prog P.w) A (handleBy e env [.ExceptHandler (some (.Name (sN "BadText") np)) none (MZ::suite) pos]) Q E fw) E cx) E s:=by
 obtain⟨a,Bh,a0,rfl,fl,tg⟩:=X;obtain⟨_,L,hf,_⟩:=F env (.head _);obtain⟨nm,q,N,bs,sn,sub,ab,col,dd,k0',k1',k2',k3,k5,hC⟩:=XA.ef.obj;have cE:(Value.ref C0::sD).contains (.type "BaseException")=true:=by rw[bR,show sD.contains (.type "BaseException")=true from by decide,fX]
 refine wpAny_looks_onW hA.frames hf fl λcL Ib kc=>?_;obtain⟨ad1,G1,tg1⟩:=lj G tg Ib.1 kc;refine wpAny_landsW Ib λgI EB eU=>?_;obtain⟨ad2,G2,tg2⟩:=lj (h':=gI) G1 tg1 EB.1 eU;have AD:=ad1.trans ad2;refine wpAny_handleBy_cons (codeAny_handlers_test (aA (E:=λö ö=>False) (Q:=λc cg=>c=.ref C/\cg={s with heap:=gI}) (j0 (s:={s with heap:=gI}) B G2 (V.toEnvRel.mono AD) hk XA.ef.bt ⟨rfl,rfl⟩ (by decide+kernel)) (λc cg hc=>?_) λö ö z=>z.elim)) (by intro q;contradiction);obtain⟨rfl,rfl⟩:=hc;obtain⟨oe,he,hcls⟩:=EB.there;refine wpAny_excMatches_sub_self (G2.keep _ _ hC) he hcls cE (codeAny_handlers_suite ?_);refine lands_againW EB λjQ MY oV=>?_;obtain⟨ad3,G3,_⟩:=lj (h':=jQ) G2 tg2 MY.1 oV;exact aA (k a jQ (AD.trans ad3) G3) (λö ö z=>z) λö ö z=>z.elim
noncomputable def HE (P:PW) (cls:ag) (cf:String->List PV->MM PV) (sc:bD) (e:ay) (me:ME):Prop:=
 ∀(A:bd) (env:Env) (ρ:aE) (g:Gh) (σ:ah) (s:ak) (Q:ag->ak->Prop),env.scope=sc->dq P g σ s.heap->EnvRel P g s.heap env ρ->bu cf ρ me σ≠.bad->
  (∀v p s',s'.heap=s.heap->fU s s'->bu cf ρ me σ=.ok p σ->cR P g s.heap p v->Q v s')->wpAny (model P.prog P.w) A (eval e env) Q (λö ö=>False) s
theorem HE.none {k:Nat} {pos:Pos}:HE P cls cf sc (.Constant .none k pos) .cnone:=λA env ρ g σ s Q ö ö ö ö hQ=>
 aG (hQ .none .none s rfl (.refl s) rfl rfl)
theorem HE.loc {x:Str} {pos:Pos} {y:String} (hx:x=aa y) (hk:sc.names.lookup x=some .local) (hd:(x==("__debug__":Str))=false):HE P cls cf sc (.Name x pos) (.var y):=λA env ρ g σ s Q hs G V hb hQ=>by
 subst hx;replace hb:bJ (ρ.lookup y) σ≠.bad:=hb;have hk':env.kindOf (aa y)=some .local:=by rw[Env.kindOf,hs];exact hk
 induction e:ρ.lookup y with
 |none=>rw[e]at hb;exact absurd rfl hb
 |some p=>
  refine Mine.Internal.cps λζ κ=>?_;obtain⟨m,hn,hv⟩:=V.ns;obtain⟨v,e1,r⟩:=hv _ _ e hk';refine κ ?_;exact wpAny_Name (wpAny_loadName_local V.fn hk' hn e1 (hQ v p s rfl (.refl s) (show bJ (ρ.lookup y) σ=_ by rw[e];rfl) r)) hd
theorem SS.tryRet (B:cK P) (XA:sO P C C0 fT fB fF) {e eh:ay} {me mh:ME} {rp hp np pos' pos:Pos} (he:SE P (.ref C) cf n sc e me) (hh:HE P (.ref C) cf sc eh mh) (hk:sc.names.lookup (sN "BadText")=some .globalImplicit):
  SS P (.ref C) cf W n sc (.Try [.Return (some e) rp] [.ExceptHandler (some (.Name (sN "BadText") np)) none [.Return (some eh) hp] pos'] [] [] pos) [.tryE none me [.ret mh]]:=λA env ρ fr hsc hA=>by
 rw[c5];rw[show nB cf W (.tryE none me [.ret mh]) ρ=ir (MM.bind (bu cf ρ me) λv=>MM.pure (Mine.Internal.Flow.ret v,ρ)) (c9 cf W [.ret mh] ρ)from rfl];have er:nB cf W (.ret mh) ρ=MM.bind (bu cf ρ mh) λv=>MM.pure (Mine.Internal.Flow.ret v,ρ):=rfl;intro g σ s E G V F hO _ hb hE;obtain⟨_,o,rfl⟩:=hO;refine wpAny_Try_except (wpAny_execs_cons (wpAny_Return_some ?_));refine al _ _ _ _ (λv cg ⟨p,aZ,hR,q,ad,gW,r,sm⟩=>?ok) (he A env ρ (env::o) hsc hA g σ s _ G V.toEnvRel F trivial (λq=>hb (by simp only[ir,MM.bind,q])) λe cg hR aZ q ad gW X sm=>?exc)
 case ok=>exact⟨.ret p,ρ,aZ,hR,by simp only[ir,MM.bind,q];rfl,ad.weaken,gW,V.mono ad,⟨v,rfl,r⟩,sm⟩
 case exc=>
  have l5:=V.mono ad;have eq:ir (MM.bind (bu cf ρ me) λv=>MM.pure (Mine.Internal.Flow.ret v,ρ)) (c9 cf W [.ret mh] ρ) σ=MM.bind (bu cf ρ mh) (λv=>MM.pure (Mine.Internal.Flow.ret v,ρ)) aZ:=by
   simp only[ir,MM.bind,q,c5,er]
  replace hb:=(eq)▸hb;refine wU B XA hA gW l5 (F.mono ad) X (by rw[Env.kindOf,hsc];exact hk) λx h' ad2 hV=>?_;have lZ:=l5.mono ad2;refine wpAny_execs_cons (wpAny_Return_some (hh _ env ρ hR aZ {cg with heap:=h'} _ hsc hV lZ.toEnvRel (λq=>hb (by simp only[MM.bind,q])) λv p cx e1 e2 e3 e4=>?_));refine⟨.ret p,ρ,aZ,hR,by rw[eq];simp only[MM.bind,e3];rfl,?_,?_,?_,⟨v,rfl,?_⟩,?_⟩
  ·exact e1.symm▸(ad.trans ad2).weaken
  ·exact e1.symm▸hV
  ·exact e1.symm▸lZ
  ·exact e1.symm▸e4
  ·exact sm.trans ⟨e2.1,e2.2.1,e2.2.2⟩
theorem SS.tryAsg (B:cK P) (XA:sO P C C0 fT fB fF) {e eh:ay} {me mh:ME} {x:Str} {y:String} {xp ap hp np pos' pos:Pos} (he:SE P (.ref C) cf n sc e me) (hh:HE P (.ref C) cf sc eh mh) (hk:sc.names.lookup (sN "BadText")=some .globalImplicit)
  (hx:x=aa y) (hkx:sc.names.lookup x=some .local)
  (hs:∀env,env.scope=sc->swapsWithSole [.Name x xp] e ap.line env=pure false) (hw:∀env,env.scope=sc->swappedStores [.Name x xp] e env=pure none) (ha:∀env,assignEach [.Name x xp] env=[(false,assign (.Name x xp) env)]):
  SS P (.ref C) cf W n sc (.Try [.Assign [.Name x xp] e ap] [.ExceptHandler (some (.Name (sN "BadText") np)) none [.Return (some eh) hp] pos'] [] [] pos) [.tryE (some y) me [.ret mh]]:=λA env ρ fr hsc hA=>by
 subst hx;rw[c5];rw[show nB cf W (.tryE (some y) me [.ret mh]) ρ=ir (MM.bind (bu cf ρ me) λv=>MM.pure (Mine.Internal.Flow.next,ig ρ y v)) (c9 cf W [.ret mh] ρ)from rfl];have er:nB cf W (.ret mh) ρ=MM.bind (bu cf ρ mh) λv=>MM.pure (Mine.Internal.Flow.ret v,ρ):=rfl;intro g σ s E G V F hO _ hb hE;obtain⟨_,o,rfl⟩:=hO;have kx:env.kindOf (aa y)=some .local:=by rw[Env.kindOf,hsc];exact hkx
 refine wpAny_Try_except (wpAny_execs_cons (lH ?_ (hs env hsc) (hw env hsc) (ha env)));refine al _ _ _ _ (λv cg ⟨p,aZ,hR,q,ad,gW,r,sm⟩=>?ok) (he A env ρ (env::o) hsc hA g σ s _ G V.toEnvRel F trivial (λq=>hb (by simp only[ir,MM.bind,q])) λe cg hR aZ q ad gW X sm=>?exc)
 case ok=>
  refine PyProof.Rows.assign_Name (oi gW (V.mono ad) (.inl kx) r λcx eM hV lZ eU=>?_);refine wpAny_execs_nil (wpAny_execs_nil ?_);exact⟨.next,ig ρ y p,aZ,hR,by simp only[ir,MM.bind,q];rfl,ad.weaken.trans eM,hV,lZ,rfl,sm.trans eU⟩
 case exc=>
  have l5:=V.mono ad;have eq:ir (MM.bind (bu cf ρ me) λv=>MM.pure (Mine.Internal.Flow.next,ig ρ y v)) (c9 cf W [.ret mh] ρ) σ=MM.bind (bu cf ρ mh) (λv=>MM.pure (Mine.Internal.Flow.ret v,ρ)) aZ:=by
   simp only[ir,MM.bind,q,c5,er]
  rw[eq]at hb;refine wU B XA hA gW l5 (F.mono ad) X (by rw[Env.kindOf,hsc];exact hk) λx h' ad2 hV=>?_;have lZ:=l5.mono ad2;refine wpAny_execs_cons (wpAny_Return_some (hh _ env ρ hR aZ {cg with heap:=h'} _ hsc hV lZ.toEnvRel (λq=>hb (by simp only[MM.bind,q])) λv p cx e1 e2 e3 e4=>?_));refine⟨.ret p,ρ,aZ,hR,by rw[eq];simp only[MM.bind,e3];rfl,?_,?_,?_,⟨v,rfl,?_⟩,?_⟩
  ·rw[e1];exact(ad.trans ad2).weaken
  ·rw[e1];exact hV
  ·rw[e1];exact lZ
  ·rw[e1];exact e4
  ·exact sm.trans ⟨e2.1,e2.2.1,e2.2.2⟩
end
end Mine.Internal
end
section
set_option maxRecDepth 100000
namespace Mine.Internal
open PySem PySem.W PyProof.Rows
noncomputable abbrev pw:Program:=PySem.Challenge.pw_up0076_01
noncomputable def n (s:String):Str:=aa s
noncomputable def kE (p:Params) (x:String) (t:Nat) (v:ag):DictEntry:=⟨PyData.keyHash p (n x),.str (n x) t,v⟩
noncomputable def fT (i:Nat):eF:=pw.main.body.getD i (.Pass default)
noncomputable def fM (i j:Nat):eF:=if h:(fT i).ctorIdx=2 then PySem.Stmt.ClassDef.elim (motive_2:=λö=>eF) (fT i) h λö ö ö b ö ö ö ö ö ö ö=>b.getD j (.Pass default)else fT i
noncomputable def fD (s:eF) (nm q:String) (d kd doc pm:ag) (an:Option Addr) (c ct:ag) (bi:Addr):FuncData:=if h:s.ctorIdx=0 then PySem.Stmt.FunctionDef.elim (motive_2:=λö=>FuncData) s h λö a b ö ö ö sc ö ö ö=>{name:=n nm,qualname:=n q,params:=a,body:=.stmts b,scope:=sc,globals:=3,closure:=[],defaults:=d,kwdefaults:=kd,doc:=doc,pyModule:=pm,annotations:=an,code:=c,closureTuple:=ct,builtins:=bi}else default
noncomputable def gT:List (String×Nat×ag):=[
 ("__name__",165,(.str (n "law_up0076_01") 573)),
 ("__doc__",166,.none),
 ("__package__",167,.none),
 ("__loader__",168,(.builtin "__main__.__loader__#opaque")),
 ("__spec__",169,.none),
 ("__annotations__",170,(.ref 6)),
 ("__builtins__",171,(.ref 4)),
 ("__file__",173,(.str (n "/claim/cut.py") 172)),
 ("__cached__",174,.none),
 ("BoardError",216,(.ref 32)),
 ("BadArgument",232,(.ref 45)),
 ("BadText",258,(.ref 64)),
 ("BLANKS",262,(.str (n " \u0009\r\n\u000b") 261)),
 ("SIGNS",264,(.str (n "<|>&;()") 263)),
 ("MOST_ARGUMENTS",266,(.int 10 265)),
 ("READ",268,(.int 0 267)),
 ("WRITE",270,(.int 1 269)),
 ("CREATE",272,(.int 512 271)),
 ("EMPTY",274,(.int 1024 273)),
 ("AT_END",276,(.int 2048 275)),
 ("INPUT",278,(.int 0 277)),
 ("OUTPUT",280,(.int 1 279)),
 ("DEEPEST",282,(.int 30 281)),
 ("Run",311,(.ref 83)),
 ("Redirect",346,(.ref 104)),
 ("Pair",379,(.ref 125)),
 ("Back",408,(.ref 146)),
 ("Scanner",491,(.ref 216)),
 ("fault",498,(.ref 227)),
 ("parse",504,(.ref 232)),
 ("parse_line",513,(.ref 239)),
 ("parse_pipe",522,(.ref 246)),
 ("parse_redirects",532,(.ref 253)),
 ("parse_block",540,(.ref 260)),
 ("parse_command",549,(.ref 267)),
 ("text_of",558,(.ref 274)),
 ("grouped",565,(.ref 281)),
 ("piped",572,(.ref 288)),
 ("_law_box",584,(.ref 295)),
 ("_law_take",593,(.ref 302)),
 ("_law_around",606,(.ref 309)),
 ("_law_leaf",612,(.ref 314)),
 ("_law_deepened",624,(.ref 321)),
 ("_law_grown",638,(.ref 328)),
 ("_law_split",644,(.ref 333)),
 ("_law_flat",651,(.ref 340)),
 ("_law_read",658,(.ref 347)),
 ("_law_least",671,(.ref 354)),
 ("_law_deepest",684,(.ref 361)),
 ("_law_pairs",695,(.ref 368)),
 ("_law_written",714,(.ref 375)),
 ("_law_weight",721,(.ref 382)),
 ("_law_thick",727,(.ref 387)),
 ("_law_words",733,(.ref 392)),
 ("_law_changed",746,(.ref 399)),
 ("law",752,(.ref 404))]
noncomputable def cX (nm q:String) (t:Nat) (l k:Int) (x y u v w:ag) (e:Nat):Obj:=⟨.type "code",none,.fields [.str (n nm) t,.str (n q) (t+1),.str (n "/claim/cut.py") (t+2),.int l 0,.int k 0,.int 0 0,.int 0 0,.int 3 0,x,.bool true,.int 181 0,y,.none,u,v,w,.int (Int.ofNat e) 0,.int l 0,.str (n "/claim/cut.py") (e+1)].toArray,[].toArray⟩
noncomputable def cO (a:Nat) (nm q:String) (t:Nat) (l k:Int) (e:Nat):Obj:=cX nm q t l k (.ref (a-5)) (.ref (a-4)) (.ref (a-3)) (.ref (a-2)) (.ref (a-1)) e
noncomputable def cN (a:Nat) (nm q:String) (t:Nat) (l k:Int) (e:Nat):Obj:=cX nm q t l k (.ref (a-3)) (.ref (a-2)) .none .none (.ref (a-1)) e
noncomputable def fO (s:eF) (nm q m:String) (t r:Nat):Obj:=⟨.type "function",none,.func (fD s nm q .none .none .none (.str (n m) t) none (.ref r) .none 0),[].toArray⟩
noncomputable def K (p:Params):Frag:=[
 (2,⟨.none,none,.dict [].toArray 0,[].toArray⟩),
 (3,⟨(.type "dict"),none,.dict (gT.map λe=>kE p e.1 e.2.1 e.2.2).toArray 56,[].toArray⟩),
 (22,⟨(.type "tuple"),none,.seq [(.str (n "") 201)].toArray 0,[].toArray⟩),
 (28,cO 28 "__init__" "BoardError.__init__" 202 4 2 207),
 (29,⟨(.type "function"),none,.func (fD (fM 1 0) "__init__" "BoardError.__init__" (.ref 22) .none .none (.str (n "pipeboard.errors") 187) none (.ref 28) .none 0),[].toArray⟩),
 (31,⟨(.type "dict"),none,.dict [kE p "__module__" 196 (.str (n "pipeboard.errors") 187),kE p "__firstlineno__" 200 (.int 2 199),kE p "__init__" 209 (.ref 29),kE p "__static_attributes__" 211 (.ref 30),kE p "__weakref__" 213 (.ref 33),kE p "__doc__" 214 .none].toArray 3,[].toArray⟩),
 (32,⟨(.type "type"),none,.cls ⟨(n "BoardError"),[(.type "ValueError")],[(.ref 32),(.type "ValueError"),(.type "Exception"),(.type "BaseException"),(.type "object")],31,(n "BoardError"),true,[],[(.ref 45),(.ref 64)],false,none,false⟩,[(some (.ref 15)),none,(some (.str (n "BoardError") 189)),(some (.str (n "BoardError") 197)),(some (.builtin "ValueError.__new__")),(some (.bool true))].toArray⟩),
 (33,⟨(.type "getset_descriptor"),none,.fields [(.str (n "__weakref__") 212),(.ref 32),(.builtin "ExceptionGroup.__weakref__"),.none].toArray,[].toArray⟩),
 (44,⟨(.type "dict"),none,.dict [kE p "__module__" 224 (.str (n "pipeboard.errors") 187),kE p "__firstlineno__" 228 (.int 7 227),kE p "__static_attributes__" 229 (.ref 43),kE p "__doc__" 230 .none].toArray 2,[].toArray⟩),
 (45,⟨(.type "type"),none,.cls ⟨(n "BadArgument"),[(.ref 32)],[(.ref 45),(.ref 32),(.type "ValueError"),(.type "Exception"),(.type "BaseException"),(.type "object")],44,(n "BadArgument"),true,[],[],false,none,false⟩,[(some (.ref 36)),none,(some (.str (n "BadArgument") 217)),(some (.str (n "BadArgument") 225)),(some (.builtin "ValueError.__new__")),(some (.bool true))].toArray⟩),
 (60,cO 60 "__init__" "BadText.__init__" 245 11 3 251),
 (61,fO (fM 3 0) "__init__" "BadText.__init__" "pipeboard.errors" 187 60),
 (63,⟨(.type "dict"),none,.dict [kE p "__module__" 240 (.str (n "pipeboard.errors") 187),kE p "__firstlineno__" 244 (.int 9 243),kE p "__init__" 253 (.ref 61),kE p "__static_attributes__" 255 (.ref 62),kE p "__doc__" 256 .none].toArray 2,[].toArray⟩),
 (64,⟨(.type "type"),none,.cls ⟨(n "BadText"),[(.ref 32)],[(.ref 64),(.ref 32),(.type "ValueError"),(.type "Exception"),(.type "BaseException"),(.type "object")],63,(n "BadText"),true,[],[],false,none,false⟩,[(some (.ref 48)),none,(some (.str (n "BadText") 233)),(some (.str (n "BadText") 241)),(some (.builtin "ValueError.__new__")),(some (.bool true))].toArray⟩),
 (79,cO 79 "__init__" "Run.__init__" 295 28 2 300),
 (80,fO (fM 16 0) "__init__" "Run.__init__" "pipeboard.shell" 259 79),
 (82,⟨(.type "dict"),none,.dict [kE p "__module__" 290 (.str (n "pipeboard.shell") 259),kE p "__firstlineno__" 294 (.int 26 293),kE p "__init__" 302 (.ref 80),kE p "__static_attributes__" 304 (.ref 81),kE p "__dict__" 306 (.ref 84),kE p "__weakref__" 308 (.ref 85),kE p "__doc__" 309 .none].toArray 4,[].toArray⟩),
 (83,⟨(.type "type"),none,.cls ⟨(n "Run"),[(.type "object")],[(.ref 83),(.type "object")],82,(n "Run"),true,[],[],false,none,false⟩,[none,none,(some (.str (n "Run") 283)),(some (.str (n "Run") 291)),(some (.builtin "object.__new__")),(some (.bool true))].toArray⟩),
 (84,⟨(.type "getset_descriptor"),none,.fields [(.str (n "__dict__") 305),(.ref 83),(.builtin "function.__dict__"),(.builtin "function.__dict__#set")].toArray,[].toArray⟩),
 (85,⟨(.type "getset_descriptor"),none,.fields [(.str (n "__weakref__") 307),(.ref 83),(.builtin "ExceptionGroup.__weakref__"),.none].toArray,[].toArray⟩),
 (100,cO 100 "__init__" "Redirect.__init__" 324 32 5 332),
 (101,fO (fM 17 0) "__init__" "Redirect.__init__" "pipeboard.shell" 259 100),
 (103,⟨(.type "dict"),none,.dict [kE p "__module__" 319 (.str (n "pipeboard.shell") 259),kE p "__firstlineno__" 323 (.int 30 322),kE p "__init__" 334 (.ref 101),kE p "__static_attributes__" 339 (.ref 102),kE p "__dict__" 341 (.ref 105),kE p "__weakref__" 343 (.ref 106),kE p "__doc__" 344 .none].toArray 4,[].toArray⟩),
 (104,⟨(.type "type"),none,.cls ⟨(n "Redirect"),[(.type "object")],[(.ref 104),(.type "object")],103,(n "Redirect"),true,[],[],false,none,false⟩,[none,none,(some (.str (n "Redirect") 312)),(some (.str (n "Redirect") 320)),(some (.builtin "object.__new__")),(some (.bool true))].toArray⟩),
 (105,⟨(.type "getset_descriptor"),none,.fields [(.str (n "__dict__") 340),(.ref 104),(.builtin "function.__dict__"),(.builtin "function.__dict__#set")].toArray,[].toArray⟩),
 (106,⟨(.type "getset_descriptor"),none,.fields [(.str (n "__weakref__") 342),(.ref 104),(.builtin "ExceptionGroup.__weakref__"),.none].toArray,[].toArray⟩),
 (121,cO 121 "__init__" "Pair.__init__" 359 39 4 366),
 (122,fO (fM 18 0) "__init__" "Pair.__init__" "pipeboard.shell" 259 121),
 (124,⟨(.type "dict"),none,.dict [kE p "__module__" 354 (.str (n "pipeboard.shell") 259),kE p "__firstlineno__" 358 (.int 37 357),kE p "__init__" 368 (.ref 122),kE p "__static_attributes__" 372 (.ref 123),kE p "__dict__" 374 (.ref 126),kE p "__weakref__" 376 (.ref 127),kE p "__doc__" 377 .none].toArray 4,[].toArray⟩),
 (125,⟨(.type "type"),none,.cls ⟨(n "Pair"),[(.type "object")],[(.ref 125),(.type "object")],124,(n "Pair"),true,[],[],false,none,false⟩,[none,none,(some (.str (n "Pair") 347)),(some (.str (n "Pair") 355)),(some (.builtin "object.__new__")),(some (.bool true))].toArray⟩),
 (126,⟨(.type "getset_descriptor"),none,.fields [(.str (n "__dict__") 373),(.ref 125),(.builtin "function.__dict__"),(.builtin "function.__dict__#set")].toArray,[].toArray⟩),
 (127,⟨(.type "getset_descriptor"),none,.fields [(.str (n "__weakref__") 375),(.ref 125),(.builtin "ExceptionGroup.__weakref__"),.none].toArray,[].toArray⟩),
 (142,cO 142 "__init__" "Back.__init__" 392 45 2 397),
 (143,fO (fM 19 0) "__init__" "Back.__init__" "pipeboard.shell" 259 142),
 (145,⟨(.type "dict"),none,.dict [kE p "__module__" 387 (.str (n "pipeboard.shell") 259),kE p "__firstlineno__" 391 (.int 43 390),kE p "__init__" 399 (.ref 143),kE p "__static_attributes__" 401 (.ref 144),kE p "__dict__" 403 (.ref 147),kE p "__weakref__" 405 (.ref 148),kE p "__doc__" 406 .none].toArray 4,[].toArray⟩),
 (146,⟨(.type "type"),none,.cls ⟨(n "Back"),[(.type "object")],[(.ref 146),(.type "object")],145,(n "Back"),true,[],[],false,none,false⟩,[none,none,(some (.str (n "Back") 380)),(some (.str (n "Back") 388)),(some (.builtin "object.__new__")),(some (.bool true))].toArray⟩),
 (147,⟨(.type "getset_descriptor"),none,.fields [(.str (n "__dict__") 402),(.ref 146),(.builtin "function.__dict__"),(.builtin "function.__dict__#set")].toArray,[].toArray⟩),
 (148,⟨(.type "getset_descriptor"),none,.fields [(.str (n "__weakref__") 404),(.ref 146),(.builtin "ExceptionGroup.__weakref__"),.none].toArray,[].toArray⟩),
 (163,cO 163 "__init__" "Scanner.__init__" 421 49 2 426),
 (164,fO (fM 20 0) "__init__" "Scanner.__init__" "pipeboard.shell" 259 163),
 (170,cO 170 "enter" "Scanner.enter" 429 54 1 433),
 (171,fO (fM 20 1) "enter" "Scanner.enter" "pipeboard.shell" 259 170),
 (177,cO 177 "blanks" "Scanner.blanks" 436 60 1 440),
 (178,fO (fM 20 2) "blanks" "Scanner.blanks" "pipeboard.shell" 259 177),
 (184,cO 184 "next_is" "Scanner.next_is" 443 64 2 448),
 (185,fO (fM 20 3) "next_is" "Scanner.next_is" "pipeboard.shell" 259 184),
 (191,cO 191 "at_end" "Scanner.at_end" 451 68 1 455),
 (192,fO (fM 20 4) "at_end" "Scanner.at_end" "pipeboard.shell" 259 191),
 (198,cO 198 "sign" "Scanner.sign" 458 72 1 463),
 (199,fO (fM 20 5) "sign" "Scanner.sign" "pipeboard.shell" 259 198),
 (205,cO 205 "is_word" "Scanner.is_word" 466 80 1 470),
 (206,fO (fM 20 6) "is_word" "Scanner.is_word" "pipeboard.shell" 259 205),
 (212,cO 212 "word" "Scanner.word" 473 83 1 478),
 (213,fO (fM 20 7) "word" "Scanner.word" "pipeboard.shell" 259 212),
 (215,⟨(.type "dict"),none,.dict [kE p "__module__" 416 (.str (n "pipeboard.shell") 259),kE p "__firstlineno__" 420 (.int 47 419),kE p "__init__" 428 (.ref 164),kE p "enter" 435 (.ref 171),kE p "blanks" 442 (.ref 178),kE p "next_is" 450 (.ref 185),kE p "at_end" 457 (.ref 192),kE p "sign" 465 (.ref 199),kE p "is_word" 472 (.ref 206),kE p "word" 480 (.ref 213),kE p "__static_attributes__" 484 (.ref 214),kE p "__dict__" 486 (.ref 217),kE p "__weakref__" 488 (.ref 218),kE p "__doc__" 489 .none].toArray 4,[].toArray⟩),
 (216,⟨(.type "type"),none,.cls ⟨(n "Scanner"),[(.type "object")],[(.ref 216),(.type "object")],215,(n "Scanner"),true,[],[],false,none,false⟩,[none,none,(some (.str (n "Scanner") 409)),(some (.str (n "Scanner") 417)),(some (.builtin "object.__new__")),(some (.bool true))].toArray⟩),
 (217,⟨(.type "getset_descriptor"),none,.fields [(.str (n "__dict__") 485),(.ref 216),(.builtin "function.__dict__"),(.builtin "function.__dict__#set")].toArray,[].toArray⟩),
 (218,⟨(.type "getset_descriptor"),none,.fields [(.str (n "__weakref__") 487),(.ref 216),(.builtin "ExceptionGroup.__weakref__"),.none].toArray,[].toArray⟩),
 (226,cO 226 "fault" "fault" 492 89 1 496),
 (227,fO (fT 21) "fault" "fault" "pipeboard.shell" 259 226),
 (231,cN 231 "parse" "parse" 499 91 1 502),
 (232,fO (fT 22) "parse" "parse" "pipeboard.shell" 259 231),
 (238,cO 238 "parse_line" "parse_line" 505 101 1 511),
 (239,fO (fT 23) "parse_line" "parse_line" "pipeboard.shell" 259 238),
 (245,cO 245 "parse_pipe" "parse_pipe" 514 114 1 520),
 (246,fO (fT 24) "parse_pipe" "parse_pipe" "pipeboard.shell" 259 245),
 (252,cO 252 "parse_redirects" "parse_redirects" 523 123 2 530),
 (253,fO (fT 25) "parse_redirects" "parse_redirects" "pipeboard.shell" 259 252),
 (259,cO 259 "parse_block" "parse_block" 533 137 1 538),
 (260,fO (fT 26) "parse_block" "parse_block" "pipeboard.shell" 259 259),
 (266,cO 266 "parse_command" "parse_command" 541 144 1 547),
 (267,fO (fT 27) "parse_command" "parse_command" "pipeboard.shell" 259 266),
 (273,cO 273 "text_of" "text_of" 550 157 1 556),
 (274,fO (fT 28) "text_of" "text_of" "pipeboard.shell" 259 273),
 (280,cO 280 "grouped" "grouped" 559 169 1 563),
 (281,fO (fT 29) "grouped" "grouped" "pipeboard.shell" 259 280),
 (287,cO 287 "piped" "piped" 566 171 1 570),
 (288,fO (fT 30) "piped" "piped" "pipeboard.shell" 259 287),
 (294,cO 294 "_law_box" "_law_box" 575 176 1 582),
 (295,fO (fT 32) "_law_box" "_law_box" "law_up0076_01" 573 294),
 (301,cO 301 "_law_take" "_law_take" 585 183 2 591),
 (302,fO (fT 33) "_law_take" "_law_take" "law_up0076_01" 573 301),
 (308,cO 308 "_law_around" "_law_around" 594 189 4 604),
 (309,fO (fT 34) "_law_around" "_law_around" "law_up0076_01" 573 308),
 (313,cN 313 "_law_leaf" "_law_leaf" 607 197 1 610),
 (314,fO (fT 35) "_law_leaf" "_law_leaf" "law_up0076_01" 573 313),
 (320,cO 320 "_law_deepened" "_law_deepened" 613 201 2 622),
 (321,fO (fT 36) "_law_deepened" "_law_deepened" "law_up0076_01" 573 320),
 (327,cO 327 "_law_grown" "_law_grown" 625 207 2 636),
 (328,fO (fT 37) "_law_grown" "_law_grown" "law_up0076_01" 573 327),
 (332,cN 332 "_law_split" "_law_split" 639 223 1 642),
 (333,fO (fT 38) "_law_split" "_law_split" "law_up0076_01" 573 332),
 (339,cO 339 "_law_flat" "_law_flat" 645 225 1 649),
 (340,fO (fT 39) "_law_flat" "_law_flat" "law_up0076_01" 573 339),
 (346,cO 346 "_law_read" "_law_read" 652 233 1 656),
 (347,fO (fT 40) "_law_read" "_law_read" "law_up0076_01" 573 346),
 (353,cO 353 "_law_least" "_law_least" 659 238 1 669),
 (354,fO (fT 41) "_law_least" "_law_least" "law_up0076_01" 573 353),
 (360,cO 360 "_law_deepest" "_law_deepest" 672 257 1 682),
 (361,fO (fT 42) "_law_deepest" "_law_deepest" "law_up0076_01" 573 360),
 (367,cO 367 "_law_pairs" "_law_pairs" 685 276 1 693),
 (368,fO (fT 43) "_law_pairs" "_law_pairs" "law_up0076_01" 573 367),
 (374,cO 374 "_law_written" "_law_written" 696 284 5 712),
 (375,fO (fT 44) "_law_written" "_law_written" "law_up0076_01" 573 374),
 (381,cO 381 "_law_weight" "_law_weight" 715 305 1 719),
 (382,fO (fT 45) "_law_weight" "_law_weight" "law_up0076_01" 573 381),
 (386,cN 386 "_law_thick" "_law_thick" 722 307 3 725),
 (387,fO (fT 46) "_law_thick" "_law_thick" "law_up0076_01" 573 386),
 (391,cN 391 "_law_words" "_law_words" 728 321 1 731),
 (392,fO (fT 47) "_law_words" "_law_words" "law_up0076_01" 573 391),
 (398,cO 398 "_law_changed" "_law_changed" 734 323 2 744),
 (399,fO (fT 48) "_law_changed" "_law_changed" "law_up0076_01" 573 398),
 (403,cN 403 "law" "law" 747 335 1 750),
 (404,fO (fT 49) "law" "law" "law_up0076_01" 573 403)]
noncomputable def kAs:List Addr:=[2,3,22,28,29,31,32,33,44,45,60,61,63,64,79,80,82,83,84,85,100,101,103,104,105,106,121,122,124,125,126,127,142,143,145,146,147,148,163,164,170,171,177,178,184,185,191,192,198,199,205,206,212,213,215,216,217,218,226,227,231,232,238,239,245,246,252,253,259,260,266,267,273,274,280,281,287,288,294,295,301,302,308,309,313,314,320,321,327,328,332,333,339,340,346,347,353,354,360,361,367,368,374,375,381,382,386,387,391,392,398,399,403,404]
theorem Ju (p:Params):kAs=(K p).map (·.1):=rfl
end Mine.Internal
end
namespace Mine.Internal
open PySem PySem.W PyProof.Rows
noncomputable abbrev qv:Program:={pw with main:={pw.main with body:=[fT 49]}}
noncomputable abbrev r0:OpenRow:=PySem.Challenge.rw_up0076_01.row
noncomputable abbrev os0 (w:World) (os:OsState):ak:=⟨boot_heap w.params,Array.mk [],boot_drawn,boot_toks,os⟩
noncomputable def pn:List Str:=(pw.boundNames.filter λx=>x !="law")
noncomputable def Xt0 (_:ak):Bool:=true
set_option maxRecDepth 1000000 in
theorem run1 (w:World) (os:OsState):(topFrom treeTable pw w 6146 (os0 w os)).map (λs=>(openSeen qv pn (importedModules pw.main.body) Xt0 true s,kAs.map s.heap.get?))=some (openGood qv pn,(K w.params).map λp=>some p.2):=by
 unfold topFrom;rw[Fast.te14082659384304107361,Fast.te14364793385576792824]
 kernel_rfl!
end Mine.Internal
section
set_option maxRecDepth 100000
namespace Mine.Internal
open PySem PySem.W PyProof.Rows
noncomputable def d0:DefRec:=match fT 49 with
 |.FunctionDef nm a b _ _ _ sc _ _ p=>⟨nm,a,b,sc,p⟩
 |_=>⟨"",⟨[],[],none,[],[],none,[]⟩,[],default,default⟩
theorem LR:LeftO pw qv pn Xt0 (λs=>kAs.map s.heap.get?) (λw=>(K w.params).map λp=>some p.2) 6146:=λw=>by
 have hb:=boot_open (p:=pw) (N:=6146) (by kernel_rfl!) rfl (λs=>by rfl) w;refine Mine.Internal.cps λζ κ=>?_;obtain⟨s,hs,hv⟩:=aS.mp hb;obtain⟨h,g,d,t,os⟩:=s;simp only[Prod.mk.injEq]at hv;obtain⟨rfl,rfl,rfl,rfl⟩:=hv;refine κ ?_;unfold openEnds;rw[hs,aY];exact run1 w os
noncomputable abbrev YP0 (w:World) (h:Heap):Prop:=(K w.params).In h
theorem Co:r0.toRowW.promised:=⟨[.list [.int 3]],by decide+kernel,by decide+kernel⟩
theorem Mt:pw.bare:=⟨rfl,rfl,rfl,rfl,rfl,by decide+kernel⟩
theorem K9:PySem.Challenge.rw_up0076_01.wellSaid=true:=by kernel_rfl
theorem FP (call:WalkO qv pn (λö ö=>True) YP0 r0.toRowW d0 [] λf vs=>PySem.call f vs):PySem.Challenge.rw_up0076_01.Holds:=by
 refine holds_law K9 λsaid=>?_;have L:LeftO r0.prog qv pn Xt0 (λs=>kAs.map s.heap.get?) (λw=>(K w.params).map λp=>some p.2) 6146:=LR;have hB:r0.prog.bare:=Mt;refine PySem.W.holds_open (r:=r0) (XP:=λö ö=>True) (YP:=YP0) (d:=d0) (kwd:=[]) L ?a1 ?a2 ?a3 ?a4 ?a5 ?a6 ?a7 ?a8 ?a9 ?b1 ?b2 hB Co call
 case a1=>exact λw s e=>InK.of Ju w s e
 case a2=>exact λw h h' x k=>x.keeps k
 case a3=>exact λö ö=>trivial
 case a4=>exact λö ö ö ö ö=>trivial
 case a5=>kernel_rfl!
 case a6=>kernel_rfl!
 case a7=>kernel_rfl!
 case a8=>exact λs ö=>recFacts_nil rfl
 case a9=>kernel_rfl!
 case b1=>assumption
 case b2=>kernel_rfl!
end Mine.Internal
end
section
set_option maxRecDepth 100000
namespace Mine.Internal
open PySem PySem.W PyProof.Rows PySem.Calls
noncomputable def pB:List (String×Addr):=[("Run",83),("Redirect",104),("Pair",125),("Back",146),("Scanner",216)]
noncomputable def B9:List (String×Addr):=[("Run.__init__",80),("Run.__init__mut",80),("Redirect.__init__",101),("Pair.__init__",122),("Back.__init__",143),("Scanner.__init__",164),
 ("Scanner.enter",171),("Scanner.blanks",178),("Scanner.next_is",185),("Scanner.at_end",192),("Scanner.sign",199),("Scanner.is_word",206),("Scanner.word",213),
 ("parse",232),("parse_line",239),("parse_pipe",246),("parse_redirects",253),("parse_block",260),("parse_command",267),("text_of",274),("grouped",281),("piped",288),
 ("_law_box",295),("_law_take",302),("_law_around",309),("_law_leaf",314),("_law_deepened",321),("_law_grown",328),("_law_split",333),("_law_flat",340),("_law_read",347),
 ("_law_least",354),("_law_deepest",361),("_law_pairs",368),("_law_written",375),("_law_weight",382),("_law_thick",387),("_law_words",392),("_law_changed",399),("law",404)]
noncomputable abbrev mkP (prog:Program) (w:World) (Kp:Frag) (B:Heap) (mg mb:Str->Option ag):PW:=⟨prog,w,Kp,B,λc=>pB.lookup c,mg,mb,λf=>B9.lookup f⟩
structure fp (w:World) (B:Heap) (mg mb:Str->Option ag):Prop where
 kin:(K w.params).In B
 ng:B.Ns mainGlobals mg
 nb:B.Ns builtinsNs mb
 mb:∀x:Str,x≠"__name__"->mb x=bootBuiltins x
 nl:B.NoLimit
theorem eW {α:Type} {l:List (String×α)} {x:String} {v:α} (e:l.lookup x=some v):(x,v)∈l:=by
 induction l with
 |nil=>simp at e
 |cons p l ih=>
  rw[aW]at e;by_cases q:x=p.1
  ·subst q;simp only[beq_self_eq_true,Option.some.injEq]at e;subst e;exact .head _
  ·have:(x==p.1)=false:=by simpa using q
   rw[this]at e;exact .tail _ (ih e)
noncomputable def gV (x:String):Option ag:=(gT.find? λe=>e.1==x).map λe=>e.2.2
theorem Ag {p:Params} (x:String):∀l:List (String×Nat×ag),((l.map λe=>kE p e.1 e.2.1 e.2.2).find? λe=>e.key.isStr (aa x)).map (·.val)=(l.find? λe=>e.1==x).map λe=>e.2.2
 |[]=>rfl
 |e::l=>by
  simp only[bq,m6];have:(kE p e.1 e.2.1 e.2.2).key.isStr (aa x)=(e.1==x):=by
   show(aa e.1==aa x)=_;by_cases q:e.1=x
   ·subst q;simp
   ·have h1:(e.1==x)=false:=by simpa using q
    have h2:(aa e.1==aa x)=false:=by simpa using λz=>q (dy z)
    rw[h1,h2]
  rw[this];cases e.1==x
  ·exact Ag x l
  ·rfl
section
variable {w:World} {B:Heap} {mg mb:Str->Option ag}
theorem fp.gl (H:fp w B mg mb) (x:String):mg (aa x)=gV x:=by
 obtain⟨o,es,ep,ho,hd,_,r⟩:=H.ng;have h3:B.get? mainGlobals=some _:=H.kin 3 _ rfl;rw[h3]at ho
 (injection ho;subst_vars)
 (injection hd;subst_vars)
 rw[<-r];refine Eq.trans ?_ (Ag (p:=w.params) x gT);unfold nsFind findBy;simp only[Array.find?_toList,List.find?_toArray]
set_option tactic.hygienic true in
theorem fp.base (H:fp w B mg mb):cK (mkP pw w (K w.params) B mg mb) where
 kin:=H.kin
 ng:=H.ng
 nb:=H.nb
 glob:=λx p e=>by
  have e:=eW e;simp only[HS,aH,Prod.mk.injEq,l6,or_false]at e;rcases e with⟨rfl,rfl⟩|⟨rfl,rfl⟩|⟨rfl,rfl⟩|⟨rfl,rfl⟩|⟨rfl,rfl⟩|⟨rfl,rfl⟩|⟨rfl,rfl⟩|⟨rfl,rfl⟩|⟨rfl,rfl⟩|⟨rfl,rfl⟩|⟨rfl,rfl⟩<;>
   exact⟨_,(H.gl _).trans rfl,λö ö=>⟨_,rfl⟩⟩
 fld:=λc C x hc hx=>by
  have key:(pB.all λp=>(fieldsOf p.1).all λx=>hasDictIn (K w.params) p.2&&plainGet (K w.params) p.2 (aa x)&&(match findIn (K w.params) (.ref p.2) (aa x)with|some a=>noGet (K w.params) a|none=>false))=true:=by kernel_rfl
  have k:=aJ.mp (aJ.mp key _ (eW hc)) x hx;simp only[bO]at k;obtain⟨⟨k1,k2⟩,k3⟩:=k;refine⟨k1,k2,?_⟩;split at k3
  ·rename_i a ha;exact⟨a,ha,k3⟩
  ·contradiction
end
end Mine.Internal
end
section
set_option maxRecDepth 100000
namespace Mine.Internal
open PySem PySem.W PyProof.Rows PySem.Calls
section
variable {w:World} {B:Heap} {mg mb:Str->Option ag}
noncomputable abbrev hP (w:World) (B:Heap) (mg mb:Str->Option ag):PW:=mkP pw w (K w.params) B mg mb
theorem fp.setOk (H:fp w B mg mb):xd (hP w B mg mb) where
 cls:=λc C hc=>by
  have key:(pB.all λp=>findIn (K w.params) (.ref p.2) "__setattr__"==some (some (.builtin "object.__setattr__"))&&plainOver (K w.params) p.2&&hasDictIn (K w.params) p.2)=true:=by kernel_rfl
  have k:=aJ.mp key _ (eW hc);simp only[bO,beq_iff_eq]at k;exact⟨k.1.1,k.1.2,k.2⟩
 fld:=λc C x hc hx=>by
  have key:(pB.all λp=>(fieldsOf p.1).all λx=>takerIn (K w.params) p.2 (aa x)==some none)=true:=by kernel_rfl
  exact beq_iff_eq.mp (aJ.mp (aJ.mp key _ (eW hc)) x hx)
noncomputable def cvL:List (String×ag):=[("str",.type "str"),("tuple",.type "tuple"),("Run",.ref 83),("Redirect",.ref 104),("Pair",.ref 125),("Back",.ref 146),("Scanner",.ref 216)]
theorem D3 {c:String} {v:ag} (e:oA (hP w B mg mb) c=some v):(c,v)∈cvL:=by
 unfold oA at e;split at e
 ·rename_i q;cases e;rw[q];exact .head _
 ·split at e
  ·rename_i q;cases e;rw[q];exact .tail _ (.head _)
  ·obtain⟨C,hC,rfl⟩:=aS.mp e;have hC:=eW hC;have:(c,Value.ref C)∈pB.map λp=>(p.1,Value.ref p.2):=bv.mpr ⟨_,hC,rfl⟩;exact .tail _ (.tail _ this)
theorem fp.kindOk (H:fp w B mg mb):vq (hP w B mg mb) where
 own:=λc D hc=>by
  have key:(pB.all λp=>plainGet (K w.params) p.2 "__class__"&&hasDictIn (K w.params) p.2&&findIn (K w.params) (.ref p.2) "__class__"==some (some (.builtin "object.__class__"))&&mroIn (K w.params) p.2 (.type "object")==some true)=true:=by kernel_rfl
  have k:=aJ.mp key _ (eW hc);simp only[bO,beq_iff_eq]at k;exact⟨⟨k.1.1.1,k.1.1.2,k.1.2⟩,k.2⟩
 get:=by kernel_rfl
 takes:=by kernel_rfl
 one:=λc d cv dv hc hd=>by
  have key:(cvL.all λa=>cvL.all λb=>kitOne (K w.params) a.2 b.2==some (decide (b.1=a.1)))=true:=by kernel_rfl
  exact beq_iff_eq.mp (aJ.mp (aJ.mp key _ (D3 hc)) _ (D3 hd))
 nstr:=rfl
 ntup:=rfl
theorem cw {p:Prop} [Decidable p] {f:p->Bool} (h:(if q:p then f q else false)=true):∃q,f q=true:=by
 by_cases q:p
 ·exact⟨q,(dif_pos q).symm.trans h⟩
 ·exact absurd ((dif_neg q).symm.trans h) pM
noncomputable def fnF {α:Type} (o:Option Obj) (d:α) (k:FuncData->α):α:=o.rec d λx=>if h:x.data.ctorIdx=7 then Data.func.elim (motive:=λö=>α) x.data h k else d
inductive FnO (o:Option Obj) (k:FuncData->Bool):Prop
 |mk (c:ag) (d:Option Addr) (fd:FuncData) (sl:Array (Option ag)):o=some ⟨c,d,.func fd,sl⟩->k fd=true->FnO o k
theorem JG {o:Option Obj} {k:FuncData->Bool} (h:fnF o false k=true):FnO o k:=by
 induction o with
 |none=>contradiction
 |some x=>
  obtain⟨c,d,dt,sl⟩:=x;have⟨q,h⟩:=cw h;exact Data.func.elim (motive:=λdt=>∀q:dt.ctorIdx=7,Data.func.elim (motive:=λö=>Bool) dt q k=true->FnO (some ⟨c,d,dt,sl⟩) k) dt q (λfd ö h=>⟨c,d,fd,sl,rfl,h⟩) q h
noncomputable def fdOf (K:Frag) (a:Addr):FuncData:=fnF (K.lookup a) default id
noncomputable def vc (fd:FuncData):List eF:=if h:fd.body.ctorIdx=0 then FuncBody.stmts.elim (motive:=λö=>List eF) fd.body h id else[]
theorem BM {fd:FuncData} (h:fd.body.ctorIdx=0):fd.body=.stmts (vc fd):=by
 unfold vc;rw[dif_pos h];generalize fd.body=b at h;exact FuncBody.stmts.elim (motive:=λb=>∀q:b.ctorIdx=0,b=.stmts (FuncBody.stmts.elim (motive:=λö=>List eF) b q id)) b h (λl ö=>rfl) h
noncomputable def JF (K:Frag) (a:Addr) (ps:List String):Bool:=fnF (K.lookup a) false λfd=>codeIn K fd.code fd.qualname&&fd.body.ctorIdx==0&&fd.closure.isEmpty&&(ps.all λx=>fd.scope.names.lookup (aa x)==some .local||fd.scope.names.lookup (aa x)==some .cell)&&
   decide ps.Nodup&&!fd.scope.isCoroutine&&!fd.scope.isGenerator&&fd.scope.kind==.function&&fd.globals==mainGlobals&&fd.builtins==builtinsNs&&(fd.scope.names.all λp=>p.2 !=.free)
set_option tactic.hygienic true in
theorem ox (H:fp w B mg mb) {a:Addr} {ps:List String} (ok:JF (K w.params) a ps=true)
  (hb:∀(vals:List ag) (s:ak),vals.length=ps.length->(∀b o,B.get? b=some o->s.heap.get? b=some o)->BindsTo s (fdOf (K w.params) a) ⟨vals,[]⟩ ((ps.map aa).zip vals)):
  j9 (hP w B mg mb) a (fdOf (K w.params) a) ps (vc (fdOf (K w.params) a))/\FnAt (hP w B mg mb) a:=by
 unfold JF at ok;unfold fdOf at hb⊢;obtain⟨c,d,fd,sl,hk,ok⟩:=JG ok;simp only[bO,beq_iff_eq,bl,decide_eq_true_eq,aJ,Ir,bne_iff_ne,sV]at ok;obtain⟨⟨⟨⟨⟨⟨⟨⟨⟨⟨k1,k2⟩,k3⟩,k4⟩,k5⟩,k6⟩,k7⟩,k8⟩,k9⟩,k10⟩,k11⟩:=ok;rw[hk]at hb⊢;exact⟨{obj:=⟨_,H.kin _ _ hk,rfl⟩,code:=codeRec_of H.kin k1,body:=BM k2,bind:=hb,clo:=k3,par:=k4,nodup:=k5,co:=k6,gen:=k7,kind:=k8,glob:=k9,bi:=k10,nofree:=λx e=>k11 _ (mem_of_lookup e) rfl},_,_,H.kin _ _ hk,rfl⟩
noncomputable def mT (fd:FuncData) (ps:List String):Prop:=∀vals:List ag,vals.length=ps.length->bindArgs fd ⟨vals,[]⟩=pure ((ps.map aa).zip vals)
theorem KL {α:Type} {Q:List α->Prop} (h:Q []):∀l:List α,l.length=0->Q l
 |[],_=>h
theorem wW {α:Type} {k:Nat} {Q:List α->Prop} (h:∀a,∀l:List α,l.length=k->Q (a::l)):∀l:List α,l.length=k+1->Q l
 |a::l,e=>h a l (Nat.succ.inj e)
theorem pW {fd:FuncData} {p:String} (h:∀a,bindArgs fd ⟨[a],[]⟩=pure [(aa p,a)]):mT fd [p]:=wW λa=>KL (h a)
theorem EP {fd:FuncData} {p q:String} (h:∀a b,bindArgs fd ⟨[a,b],[]⟩=pure [(aa p,a),(aa q,b)]):mT fd [p,q]:=wW λa=>wW λb=>KL (h a b)
theorem bo3 {fd:FuncData} {p q r:String} (h:∀a b c,bindArgs fd ⟨[a,b,c],[]⟩=pure [(aa p,a),(aa q,b),(aa r,c)]):mT fd [p,q,r]:=wW λa=>wW λb=>wW λc=>KL (h a b c)
theorem bo4 {fd:FuncData} {p q r s:String} (h:∀a b c d,bindArgs fd ⟨[a,b,c,d],[]⟩=pure [(aa p,a),(aa q,b),(aa r,c),(aa s,d)]):mT fd [p,q,r,s]:=wW λa=>wW λb=>wW λc=>wW λd=>KL (h a b c d)
theorem bo5 {fd:FuncData} {p q r s t:String} (h:∀a b c d e,bindArgs fd ⟨[a,b,c,d,e],[]⟩=pure [(aa p,a),(aa q,b),(aa r,c),(aa s,d),(aa t,e)]):mT fd [p,q,r,s,t]:=wW λa=>wW λb=>wW λc=>wW λd=>wW λe=>KL (h a b c d e)
noncomputable def vr (K:Frag):List oU->Prop
 |[]=>True
 |d::l=>(∃a,B9.lookup d.name=some a/\mT (fdOf K a) d.params)/\vr K l
theorem qa {K:Frag}:∀{l:List oU} {d:oU},vr K l->d∈l->∃a,B9.lookup d.name=some a/\mT (fdOf K a) d.params
 |e::l,d,h,m=>by
  rcases aH.mp m with q|q
  ·rw[q];exact h.1
  ·exact qa h.2 q
theorem BP (p:Params):vr (K p) prog:=by
 refine⟨⟨80,rfl,EP λa b=>?_⟩,⟨80,rfl,EP λa b=>?_⟩,⟨101,rfl,bo5 λa b c d e=>?_⟩,⟨122,rfl,bo4 λa b c d=>?_⟩,⟨143,rfl,EP λa b=>?_⟩,⟨164,rfl,EP λa b=>?_⟩,
  ⟨171,rfl,pW λa=>?_⟩,⟨178,rfl,pW λa=>?_⟩,⟨185,rfl,EP λa b=>?_⟩,⟨192,rfl,pW λa=>?_⟩,⟨199,rfl,pW λa=>?_⟩,⟨206,rfl,pW λa=>?_⟩,⟨213,rfl,pW λa=>?_⟩,
  ⟨232,rfl,pW λa=>?_⟩,⟨239,rfl,pW λa=>?_⟩,⟨246,rfl,pW λa=>?_⟩,⟨253,rfl,EP λa b=>?_⟩,⟨260,rfl,pW λa=>?_⟩,⟨267,rfl,pW λa=>?_⟩,⟨274,rfl,pW λa=>?_⟩,⟨281,rfl,pW λa=>?_⟩,⟨288,rfl,pW λa=>?_⟩,
  ⟨295,rfl,pW λa=>?_⟩,⟨302,rfl,EP λa b=>?_⟩,⟨309,rfl,bo4 λa b c d=>?_⟩,⟨314,rfl,pW λa=>?_⟩,⟨321,rfl,EP λa b=>?_⟩,⟨328,rfl,EP λa b=>?_⟩,⟨333,rfl,pW λa=>?_⟩,⟨340,rfl,pW λa=>?_⟩,⟨347,rfl,pW λa=>?_⟩,
  ⟨354,rfl,pW λa=>?_⟩,⟨361,rfl,pW λa=>?_⟩,⟨368,rfl,pW λa=>?_⟩,⟨375,rfl,bo5 λa b c d e=>?_⟩,⟨382,rfl,pW λa=>?_⟩,⟨387,rfl,bo3 λa b c=>?_⟩,⟨392,rfl,pW λa=>?_⟩,⟨399,rfl,EP λa b=>?_⟩,⟨404,rfl,pW λa=>?_⟩,trivial⟩<;>kernel_rfl
theorem yI {l:List (Str×NameKind)} (h:(l.all λp=>p.2 !=.cell)=true):∀x∈l,x.2≠.cell:=λx hx=>by simpa using aJ.mp h x hx
noncomputable def Lm (x:String) (p:Pos) (env:Env):Sem Bool:=do return (<-importBound (.Name (aa x) p) env).getD true
theorem fp.exc (H:fp w B mg mb):sO (hP w B mg mb) 64 32 61 29 227 where
 ef:={
  obj:=by
   have h:=H.kin 64 _ rfl;exact⟨_,_,_,_,_,_,_,_,_,_,_,_,_,_,h⟩
  line:=by kernel_rfl
  reason:=by kernel_rfl
  set:=by kernel_rfl
  init:=by kernel_rfl
  initF:=by kernel_rfl
  ve:=(H.gl "ValueError").trans (by kernel_rfl)
  veb:=(H.mb "ValueError" (by decide+kernel)).trans (by kernel_rfl)
  bt:=(H.gl "BadText").trans (by kernel_rfl)
  be:=(H.gl "BoardError").trans (by kernel_rfl)
  reads:=by kernel_rfl
  beinit:=by kernel_rfl
  keep:=by kernel_rfl
  ga:=by kernel_rfl}
 nl:=H.nl
 fault:=by
  have F:=(ox H (a:=227) (ps:=["reason"]) (by kernel_rfl) λvals s hl ö=>.of_eq (pW (p:="reason") (λa=>by kernel_rfl) vals hl)).1;exact⟨fdOf (K w.params) 227,_,_,_,_,_,_,⟨F,yI (by kernel_rfl),by kernel_rfl,by kernel_rfl⟩⟩
 bad:=by
  have F:=(ox H (a:=61) (ps:=["self","line","reason"]) (by kernel_rfl) λvals s hl ö=>.of_eq (bo3 (p:="self") (q:="line") (r:="reason") (λa b c=>by kernel_rfl) vals hl)).1;exact⟨fdOf (K w.params) 61,_,_,_,default,_,_,_,_,_,_,_,_,_,_,_,_,_,_,_,⟨F,yI (by kernel_rfl),by kernel_rfl,by kernel_rfl,by kernel_rfl,by kernel_rfl,Lm "BoardError" ⟨12,8,12,18⟩,λenv=>by kernel_rfl⟩⟩
 board:=by
  have F:=(ox H (a:=29) (ps:=["self","reason"]) (by kernel_rfl) λvals s hl hk=>by
   revert vals;exact wW λa=>wW λb=>KL<|kp_binds (K:=K w.params) (λa o e=>hk _ _ (H.kin a o e)) λS=>by kernel_rfl).1
  exact⟨fdOf (K w.params) 29,_,_,_,_,_,_,_,_,_,_,⟨F,yI (by kernel_rfl),by kernel_rfl,by kernel_rfl,by kernel_rfl,Lm "ValueError" ⟨5,8,5,18⟩,λenv=>by kernel_rfl⟩⟩
 name:=(H.gl "fault").trans (by kernel_rfl)
end
end Mine.Internal
end
namespace So.Internal
open Mine.Internal (cy bH b7 d3 jx px yt HU)
open PySem PySem.W PyProof.Rows PySem.Calls
noncomputable def ky (p:Keyed):List Nat:=(strKind.keyOf p.1).getD []
noncomputable def kl (p q:Keyed):Bool:=strKind.blt (ky p) (ky q)
noncomputable def Sk (p:Keyed):Prop:=strKind.keyOf p.1=some (ky p)
noncomputable abbrev SM:=StateT SortSt Sem
section
variable {α β:Type} {Q:α->Prop}
noncomputable def V (m:SM α) (Q:α->Prop):Prop:=
 ∀prog w A E s X p g,wpS (model prog w) A E s m (λa st=>(∃g',st=SortSt.mk' oneType' X p g' none)/\Q a) (SortSt.mk' oneType' X p g none)
theorem V.bind {Q:β->Prop} {m:SM α} {f:α->SM β} (h:V m λa=>V (f a) Q):V (m>>=f) Q:=λprog w A E s X p g=>
 wpS_bind (wpS_mono (h prog w A E s X p g) λa st q=>q.1.elim λg' e=>e▸q.2 prog w A E s X p g')
theorem V.pure {a:α} (h:Q a):V (pure a) Q:=λprog w A E s X p g=>wpS_pure ⟨⟨g,rfl⟩,h⟩
theorem V.elem {arr:Array Keyed} {i:Nat} {p:Keyed} {Q:Keyed->Prop} (e:arr[i]?=some p) (h:Q p):V (elem' arr i) Q:=by
 rw[elem'_eq,e];exact .pure h
theorem V.rule {r:String} {Q:Unit->Prop} (h:Q ()):V (liftM (rule r):SM Unit) Q:=λprog w A E s X p g=>wpS_lift (wpAny_rule ⟨rfl,⟨g,rfl⟩,h⟩)
theorem V.get {Q:SortSt->Prop} (h:∀st,Q st):V get Q:=λprog w A E s X p g=>wpS_get ⟨⟨g,rfl⟩,h _⟩
noncomputable def setG:Nat->SM Unit:=sortPriv%PySem.Builtin.setMinGallop
theorem V.setG {n:Nat} {Q:Unit->Prop} (h:Q ()):V (setG n) Q:=λprog w A E s X p g=>wpS_modify ⟨⟨n,rfl⟩,h⟩
theorem V.lt {x y:Keyed} {Q:Option Bool->Prop} (hx:Sk x) (hy:Sk y) (h:Q (some (kl x y))):V (lt' x y) Q:=λprog w A E s X p g=>by
 rw[lt'_eq];exact wpS_bind (wpS_get (wpS_bind (wpS_lift (wpAny_attempt (strKind_oneLt prog w A _ s x.1 y.1 _ _ hx hy ⟨rfl,wpS_pure ⟨⟨g,rfl⟩,h⟩⟩)))))
theorem V.mono {Q':α->Prop} {m:SM α} (h:V m Q) (q:∀a,Q a->Q' a):V m Q':=λprog w A E s X p g=>
 wpS_mono (h prog w A E s X p g) λa st e=>⟨e.1,q a e.2⟩
theorem V.ite {c:Prop} [Decidable c] {m m':SM α} (h:c->V m Q) (h':¬c->V m' Q):V (if c then m else m') Q:=by
 by_cases q:c
 ·rw[if_pos q];exact h q
 ·rw[if_neg q];exact h' q
inductive St (E I:β->Prop):ForInStep β->Prop
 |done {c:β} (h:E c):St E I (.done c)
 |yield {c:β} (h:I c):St E I (.yield c)
theorem V.loop {γ:Type} {n:Nat} {c:β} {f:Nat->β->SM (ForInStep β)} {k:β->SM γ} {Q:γ->Prop} (I:Nat->β->Prop) (E:β->Prop)
  (step:∀i c,i<n->I i c->V (f i c) (St E (I (i+1))))
  (fin:∀c,I n c->E c) (h:I 0 c) (q:∀c,E c->V (k c) Q):V (forIn [0:n] c f>>=k) Q:=λprog w A E' s X p g=>
 wpS_bind (wpS_mono (wpS_forRange (I:=λi c st=>(∃g',st=SortSt.mk' oneType' X p g' none)/\I i c) (Q:=λc st=>(∃g',st=SortSt.mk' oneType' X p g' none)/\E c)
  (λi c st ö hi q=>q.1.elim λg' e=>e▸wpS_mono (step i c hi q.2 prog w A E' s X p g') λa st' q'=>by
   induction q' with|intro q1 q2=>induction q2 with
   |done h=>exact⟨q1,h⟩
   |yield h=>exact⟨q1,h⟩)
  (λc st q=>⟨q.1,fin c (cW (aL n)▸q.2)⟩) ⟨⟨g,rfl⟩,h⟩)
  λc st h=>h.1.elim λg' e=>e▸q c h.2 prog w A E' s X p g')
theorem V.cast {m m':SM α} (h:V m Q) (e:m'=m):V m' Q:=e▸h
end
theorem FZ {a b:Nat} (c:¬(a==b)=true) (h:a<=b):a<b:=iA h (mt beq_iff_eq.mpr c)
theorem Db {a b:Nat} (c:¬(a==b)=true) (h:b<=a):b<a:=iA h λe=>c (beq_iff_eq.mpr e.symm)
theorem md (l h:Nat) (c:l<h):l+(h-l)/2<h:=
 aO (Nat.add_lt_add_left (Kz (gp c) (b8 1)) l) (bZ (Nat.add_sub_of_le (cu c)))
theorem mds {x y i n:Nat} (h:y<x) (w:x+i<=n):y+(i+1)<=n:=ae (ae (bZ (Nat.succ_add y i).symm) (gE h i)) w
theorem md1 {l h n i:Nat} (c:l<h) (w:h-l+i<=n):h-(l+(h-l)/2+1)+(i+1)<=n:=
 mds (o5 c (Hn (bG ..))) w
theorem md2 {l h n i:Nat} (c:l<h) (w:h-l+i<=n):l+(h-l)/2-l+(i+1)<=n:=
 mds (bf (bZ (c0 ..)) (Kz (gp c) (b8 1))) w
noncomputable def H1 (left:Bool) (key:Keyed) (arr:Array Keyed) (base i:Nat):SM (Option Bool):=do
 let x<-elem' arr (base+i)
 if left then lt' x key else return (<-lt' key x).map (!·)
noncomputable def oS {α β:Type} (x:Option α) (d:β) (f:α->β):β:=match x with
 |some a=>f a
 |_=>d
noncomputable def oN {α β:Type} (x:Option α) (d:β) (f:α->β):β:=match x with
 |some a=>f a
 |none=>d
theorem V.oS {α β:Type} {Q:β->Prop} {a:α} {d:SM β} {f:α->SM β} (h:V (f a) Q):V (oS (some a) d f) Q:=by unfold So.Internal.oS;exact h
noncomputable abbrev G3:=Option (Option Nat)×Nat×Nat
noncomputable def JD (b:Nat->SM (Option Bool)) (n lo hi:Nat):SM (Option Nat):=
 forIn [0:n] ((none,lo,hi):G3) (λö s=>if s.2.1≥s.2.2 then pure (.done (none,s.2))
  else b (s.2.1+(s.2.2-s.2.1)/2)>>=λx=>oS x (pure (.done (some none,s.2))) λm=>
   if m=true then pure (.yield (none,s.2.1+(s.2.2-s.2.1)/2+1,s.2.2))else pure (.yield (none,s.2.1,s.2.1+(s.2.2-s.2.1)/2)))
  >>=λs=>oN s.1 (pure (some s.2.2)) pure
noncomputable def DH (b:Nat->SM (Option Bool)) (n m:Nat) (at_:Nat->Nat) (f:Bool->Bool) (c:Nat->Nat->SM (Option Nat)):SM (Option Nat):=
 forIn [0:n] ((none,0,1):G3) (λö s=>if s.2.2≥m then pure (.done (none,s.2))
  else b (at_ s.2.2)>>=λx=>oS x (pure (.done (some none,s.2))) λq=>
   if f q=true then pure (.done (none,s.2))else pure (.yield (none,s.2.2,2*s.2.2+1)))
  >>=λs=>oN s.1 (c s.2.1 s.2.2) pure
noncomputable def j1:Bool->Keyed->Array Keyed->Nat->Nat->Nat->SM (Option Nat):=sortPriv%PySem.Builtin.gallop
theorem yq (left:Bool) (key:Keyed) (arr:Array Keyed) (base n t:Nat):j1 left key arr base n t=
  (H1 left key arr base t>>=λx=>oS x (pure none) λr=>if r=true
   then DH (H1 left key arr base) n (n-t) (t+ ·) (!·) λl o=>JD (H1 left key arr base) n (t+l+1) (t+min o (n-t))
   else DH (H1 left key arr base) n (t+1) (t- ·) id λl o=>JD (H1 left key arr base) n (t+1-min o (t+1)) (t-l)):=by kernel_rfl
section
variable {b:Nat->SM (Option Bool)} {R:Nat->Bool} {n:Nat} {Q:Option Nat->Prop}
inductive Et (b:Nat->SM (Option Bool)) (R:Nat->Bool) (n:Nat):Prop
 |mk (ask:∀{Q:Option Bool->Prop} i,i<n->Q (some (R i))->V (b i) Q) (fall:∀i j,i<=j->j<n->R j=true->R i=true)
theorem Et.ask (h:Et b R n) {Q:Option Bool->Prop} {i:Nat} (hi:i<n) (q:Q (some (R i))):V (b i) Q:=by induction h with|mk a _=>exact a i hi q
theorem Et.up (h:Et b R n) {i:Nat} (hi:i<n) (q:R i=true):∀j,j<=i->R j=true:=by induction h with|mk _ a=>exact λj hj=>a j i hj hi q
theorem Et.down (h:Et b R n) {i:Nat} (q:R i=false):∀j,i<=j->j<n->R j=false:=by
 induction h with
 |mk _ a=>exact λj hj hn=>fh.mpr λe=>pM (q.symm.trans (a i j hj hn e))
inductive Bk (R:Nat->Bool) (n lo hi:Nat):Prop
 |mk (l:lo<=hi) (h:hi<=n) (t:∀i,i<lo->R i=true) (f:∀i,hi<=i->i<n->R i=false)
inductive B3 (R:Nat->Bool) (n i:Nat):Option (Option Nat)×Nat×Nat->Prop
 |mk {lo hi:Nat} (h:Bk R n lo hi) (w:hi-lo+i<=n):B3 R n i (none,lo,hi)
inductive E3 (R:Nat->Bool) (n:Nat):Option (Option Nat)×Nat×Nat->Prop
 |mk {k lo:Nat} (h:Bk R n k k):E3 R n (none,lo,k)
theorem DG (H:Et b R n) {lo hi:Nat} (h:Bk R n lo hi) (q:∀k,Bk R n k k->Q (some k)):V (JD b n lo hi) Q:=by
 refine .loop (B3 R n) (E3 R n) ?_ ?_ ?_ ?_
 ·intro i c hi q
  induction q with
  |@mk lo hi h w=>
   dsimp only;refine .ite (λc=>?_) λc=>?_
   ·induction h with
    |mk l h t f=>cases am l c;exact .pure (.done (.mk (.mk l h t f)))
   ·have c:lo<hi:=fK c
    induction h with
    |mk l h t f=>
    have z:=md lo hi c;exact .bind (H.ask (aO z h) (.oS (.ite (λe=>.pure (.yield (.mk (.mk z h (λj hj=>H.up (aO z h) e j (gr hj)) f) (md1 c w))))
     λe=>.pure (.yield (.mk (.mk (bG _ _) (ae (cu z) h) t (H.down (fh.mpr e))) (md2 c w))))))
 ·intro c q
  induction q with
  |@mk lo hi h w=>induction h with
   |mk l h t f=>cases(show lo=hi from am (bH 0x1980819801 l) (d3 0x1ab07fba82281998202 w (ac (n:=hi) (m:=lo) (bH 0x1980819801 l))));exact .mk (.mk l h t f)
 ·exact .mk h (by cases h;exact b7 0x1900a20818a0819802 ‹_› (de _ _))
 ·intro c e
  induction e with
  |mk h=>exact .pure (q _ h)
inductive B1 (P:Nat->Bool) (m i:Nat):G3->Prop
 |mk {l o:Nat} (a:l<o) (w:i<o) (b:l<m) (r:P l=false):B1 P m i (none,l,o)
inductive E1 (P:Nat->Bool) (m:Nat):G3->Prop
 |mk {l o:Nat} (a:l<o) (b:l<m) (r:P l=false) (e:m<=o\/o<m/\P o=true):E1 P m (none,l,o)
theorem Ad (H:Et b R n) {m:Nat} {at_:Nat->Nat} {f:Bool->Bool} {c:Nat->Nat->SM (Option Nat)} (hm:m<=n) (h0:0<m) (ha:∀i,i<m->at_ i<n) (r:f (R (at_ 0))=false)
  (q:∀l o,l<o->l<m->f (R (at_ l))=false->(m<=o\/o<m/\f (R (at_ o))=true)->V (c l o) Q):V (DH b n m at_ f c) Q:=by
 refine .loop (B1 (λi=>f (R (at_ i))) m) (E1 (λi=>f (R (at_ i))) m) ?_ ?_ (.mk Kx Kx h0 r) ?_
 ·intro i c hi q
  induction q with
  |@mk l o a w z r=>
   dsimp only;refine .ite (λc=>.pure (.done (.mk a z r (.inl c)))) λc=>.bind (H.ask (ha _ (fK c)) ?_);refine .ite (λe=>.pure (.done (.mk a z r (.inr ⟨fK c,e⟩)))) λe=>.pure (.yield (.mk (cy 0x11082032810) (bH 0x1109203210821819811 w) (fK c) (fh.mpr e)))
 ·intro c q
  induction q with
  |@mk l o a w z r=>exact .mk a z r (.inl (ae hm (cu w)))
 ·intro c e
  induction e with
  |mk a z r e=>exact q _ _ a z r e
theorem kL {left:Bool} {key:Keyed} {arr:Array Keyed} {base t:Nat} (H:Et (H1 left key arr base) R n) (ht:t<n)
  (q:∀k,Bk R n k k->Q (some k)):V (j1 left key arr base n t) Q:=by
 rw[yq];refine .bind (H.ask ht ?_);refine .oS (.ite (λe=>Ad H (de _ _) (gp ht) (λi hi=>d3 0x1b8a2181ba922819812 hi (ac (n:=n) (m:=t) (bH 0x1980819811 ht))) (congrArg (!·) e) λl o a z r w=>DG H ?_ q)
  λe=>Ad H ht (Nat.succ_pos t) (λi ö=>b7 0x19a1818a0819812 ht (de _ _)) (fh.mpr e) λl o a z r w=>DG H ?_ q)
 ·have r:R (t+l)=true:=kq _▸r;refine .mk ((aN (o) (n-t)).elim (λw0=>d3 0x1ab2108b2207f9a2819812 a (bS w0)) (λw0=>d3 0x1ab2108b2207f9a2819812 z (c6 w0))) (d3 0x1b8a2081ba922819802 (gL _ _) (ac (n:=n) (m:=t) (bH 0x1980819811 ht))) (λj hj=>H.up (d3 0x1b8a2181ba922819812 z (ac (n:=n) (m:=t) (bH 0x1980819811 ht))) r j (b7 0x1a92808110a922811 hj)) λj h1 h2=>?_;rcases w with w|⟨w,w'⟩
  ·exact aw ((aN (o) (n-t)).elim (λw0=>px 0x77fb8c227fd9281dc081ba181a98205 h1 h2 w (bS w0) (ac (n:=n) (m:=t) (bH 0x1980819811 ht))) (λw0=>jx 0x77fb8c227fc9281ba181a98204 h1 h2 (c6 w0) (ac (n:=n) (m:=t) (bH 0x1980819811 ht))))
  ·exact H.down (i:=t+o) (bl _▸w') j ((aN (o) (n-t)).elim (λw0=>d3 0x1ab8207fb9281a98202 h1 (bS w0)) (λw0=>jx 0x1ab8207fc9281cb181a98203 h1 w (c6 w0))) h2
 ·refine .mk ((aN (t+1) (min o (t+1))).elim (λw0=>bH 0x19808100821 (br w0)) (λw0=>(aN (o) (t+1)).elim (λw1=>px 0x1da07fc8d227f9b28110c2ba22819814 a (ac w0) (bS w1) (ac (n:=t) (m:=l) (bH 0x1980811092811 z))) (λw1=>d3 0x1b807f10a2928110a298222 (ac w0) (c6 w1)))) (d3 0x19a0818ba22819812 ht (ac (n:=t) (m:=l) (bH 0x1980811092811 z))) (λj hj=>?_) (H.down r);rcases w with w|⟨w,w'⟩
  ·exact aw ((aN (t+1) (min o (t+1))).elim (λw0=>bH 0x7810092819812 hj (br w0)) (λw0=>(aN (o) (t+1)).elim (λw1=>jx 0x77fbc28110a2c92281b10a20819814 hj w (ac w0) (bS w1)) (λw1=>d3 0x77f10b2a28110b2a922819813 hj (ac w0) (c6 w1))))
  ·exact H.up (i:=t-o) (d3 0x19a1818ba22819812 ht (ac (n:=t) (m:=o) (bH 0x1980811092811 w))) w' j ((aN (o) (t+1)).elim (λw0=>px 0x1c808110d2a9227fdbc227fba2819814 hj (bS w0) (ac (n:=t) (m:=o) (bH 0x1980811092811 w)) (ac (n:=t+1) (m:=min o (t+1)) (b7 0x11092a0818a2811092812 w (bS w0)))) (λw0=>d3 0xba081810920811092812 w w0))
end
open Mine.Internal (cy bH b7 d3 jx px yt HU)
open PySem PySem.W PyProof.Rows PySem.Calls
section
variable {c:Keyed->Keyed->Bool} {x y:Keyed} {X Y X1 Y1:List Keyed}
noncomputable def mg (c:Keyed->Keyed->Bool) (X Y:List Keyed):List Keyed:=X.merge Y λx y=>!c y x
theorem ph:mg c X []=X:=by induction X<;>simp[mg]
theorem uM:mg c [] Y=Y:=by simp[mg]
theorem uO (h:c y x=true):mg c (x::X) (y::Y)=y::mg c (x::X) Y:=by
 unfold mg;rw[B6,h];rfl
theorem zU (h:c y x=false):mg c (x::X) (y::Y)=x::mg c X (y::Y):=by
 unfold mg;rw[B6,h];rfl
theorem zT (h:∀y,y∈Y1->c y x=true):mg c (x::X) (Y1++Y)=Y1++mg c (x::X) Y:=by
 induction Y1 with
 |nil=>rfl
 |cons z Z ih=>exact(uO (h z (.head _))).trans (congrArg (z:: ·) (ih λy hy=>h y (.tail _ hy)))
theorem HK (h:∀x,x∈X1->c y x=false):mg c (X1++X) (y::Y)=X1++mg c X (y::Y):=by
 induction X1 with
 |nil=>rfl
 |cons z Z ih=>exact(zU (h z (.head _))).trans (congrArg (z:: ·) (ih λy hy=>h y (.tail _ hy)))
theorem Ly (h:∀x,x∈X->c y x=true):mg c X (y::Y)=y::mg c X Y:=by
 induction X with
 |nil=>rw[uM,uM]
 |cons x X=>exact uO (h x (.head _))
theorem Lz (h:∀y,y∈Y->c y x=false):mg c (x::X) Y=x::mg c X Y:=by
 induction Y with
 |nil=>rw[ph,ph]
 |cons y Y=>exact zU (h y (.head _))
end
section
variable {a:Array Keyed} {i j k n:Nat} {x:Keyed}
noncomputable def ga (a:Array Keyed) (i:Nat):Keyed:=(a[i]?).getD (.none,.none)
theorem fQ (h:i<a.size):a[i]?=some (ga a i):=by unfold ga;rw[getElem?_pos a i h];rfl
noncomputable def la (a:Array Keyed) (i:Nat):List Keyed:=a.toList.drop i
theorem jq (h:i<a.size):la a i=ga a i::la a (i+1):=by
 have e:ga a i=a[i]:=by unfold ga;rw[getElem?_pos a i h];rfl
 rw[e];exact eX h
theorem uV (i k:Nat):la a i=(a.extract i (i+k)).toList++la a (i+k):=by
 unfold la;rw[e8,dM,c0,<-vv,dR]
theorem rO (h:a.size<=i):la a i=[]:=zg h
theorem nQ:(a.extract i a.size).toList=la a i:=by
 unfold la;rw[e8,dM];exact iQ (by simp)
theorem qL {l:List Keyed} (h:x∈l):∃j:Nat,l[j]?=some x:=dS.mp h
theorem rN (h:x∈la a i):∃j,i+j<a.size/\x=ga a (i+j):=by
 obtain⟨j,e⟩:=qL h;unfold la at e;rw[List.getElem?_drop,dN]at e;exact⟨j,(eN.mp e).1,by unfold ga;rw[e];rfl⟩
theorem py (h:x∈(a.extract i (i+k)).toList):∃j,j<k/\x=ga a (i+j):=by
 obtain⟨j,e⟩:=qL h;rw[dN,xz]at e;split at e
 ·exact⟨j,(aN (min (i+k) a.size) (i)).elim (λw0=>b7 0x1a81810092819812 ‹_› (br w0)) (λw0=>jx 0x1c8181ca2b081ba922819813 ‹_› (ac w0) (f8 _ _)),by unfold ga;rw[e];rfl⟩
 ·contradiction
end
theorem wy {x y:Keyed} (h:kl x y=true):kl y x=false:=KeyOrd.klt_asymm (O:=strKind.toKeyOrd) h
theorem LX {x y z:Keyed} (h:kl x y=true) (q:kl z y=false):kl x z=true:=KeyOrd.klt_of_klt_of_kle (O:=strKind.toKeyOrd) (b:=ky y) h q
theorem Gp {x y z:Keyed} (q:kl y x=false) (h:kl y z=true):kl x z=true:=KeyOrd.klt_of_kle_of_klt (O:=strKind.toKeyOrd) (b:=ky y) q h
noncomputable def Ks (a:Array Keyed):Prop:=∀i,i<a.size->Sk (ga a i)
noncomputable def jH (a:Array Keyed) (b n:Nat):Prop:=∀i j,i<=j->j<n->kl (ga a (b+j)) (ga a (b+i))=false
section
variable {a:Array Keyed} {key:Keyed} {b n:Nat}
theorem El (K:Ks a) (k:Sk key) (h:b+n<=a.size) (s:jH a b n):Et (H1 false key a b) (λi=>!kl key (ga a (b+i))) n:=
 .mk (λi hi q=>have z:b+i<a.size:=d3 0x1ab821819b181a98202 h hi
   .bind (.elem (fQ z) (.bind (.lt k (K _ z) (.pure q)))))
  λi j hi hj q=>(bl _).symm▸fh.mpr λe=>pM (((bl _)▸q:kl key (ga a (b+j))=false).symm.trans (LX e (s i j hi hj)))
theorem Ek (K:Ks a) (k:Sk key) (h:b+n<=a.size) (s:jH a b n):Et (H1 true key a b) (λi=>kl (ga a (b+i)) key) n:=
 .mk (λi hi q=>have z:b+i<a.size:=d3 0x1ab821819b181a98202 h hi
   .bind (.elem (fQ z) (.lt (K _ z) k q)))
  λi j hi hj q=>Gp (s i j hi hj) q
end
inductive Go {ρ α β γ τ:Type} (I:α->β->γ->Prop):Option ρ×α×β×γ×τ->Prop
 |mk {x:α} {y:β} {z:γ} {t:τ} (h:I x y z):Go I (none,x,y,z,t)
inductive Gx {ρ α β γ τ:Type} (F:ρ->Prop) (I:α->β->γ->Prop):Option ρ×α×β×γ×τ->Prop
 |ret {r:ρ} {x:α} {y:β} {z:γ} {t:τ} (h:F r):Gx F I (some r,x,y,z,t)
 |go {x:α} {y:β} {z:γ} {t:τ} (h:I x y z):Gx F I (none,x,y,z,t)
section
variable {a b:Array Keyed} {R:List Keyed} {m i j ia ib k:Nat} {out:Array Keyed}
noncomputable def PI (R:List Keyed) (a b out:Array Keyed) (ia ib:Nat):Prop:=out.toList++mg kl (la a ia) (la b ib)=R
theorem PI.done (h:PI R a b out ia ib) (e:(ib==b.size)=true):(out++a.extract ia a.size++b.extract ib b.size).toList=R:=by
 have e:=eq_of_beq e;rw[bL,bL,nQ,nQ,rO (bZ e.symm),bz,<-h,rO (bZ e.symm),ph]
theorem PI.doneA (h:PI R a b out ia ib) (e:(ia==a.size)=true):(out++a.extract ia a.size++b.extract ib b.size).toList=R:=by
 have e:=eq_of_beq e;rw[bL,bL,nQ,nQ,rO (bZ e.symm),bz,<-h,rO (bZ e.symm),uM]
noncomputable def Las (a b:Array Keyed):Prop:=∀j,j<b.size->kl (ga b j) (ga a (a.size-1))=true
theorem PI.last (h:PI R a b out ia ib) (l:Las a b) (e:(ia+1==a.size)=true):(out++b.extract ib b.size++a.extract ia a.size).toList=R:=by
 have e:=eq_of_beq e;have z:la a ia=[ga a ia]:=by rw[jq (by exact bH 0x1981819108221 e),rO (by exact bH 0x11082907f9108221 e)]
 have w:=zT (c:=kl) (x:=ga a ia) (X:=[]) (Y1:=la b ib) (Y:=[]) (by
  intro y hy;obtain⟨j,hj,rfl⟩:=rN hy;have:=l _ hj
  rwa [show a.size-1=ia by exact am (b7 0x18a081910a227f9108222 e (ac (n:=a.size) (m:=1) (bH 0x19100819108221 e))) (b7 0x1a807f910a22819108222 e (ac (n:=a.size) (m:=1) (bH 0x19100819108221 e)))]at this)
 rw[bL,bL,nQ,nQ,<-h,z,<-(bz (la b ib)),w,ph,bz,aq]
theorem PI.y (h:PI R a b out ia ib) (hb:ib<b.size) (q:∀x,x∈la a ia->kl (ga b ib) x=true):PI R a b (out.push (ga b ib)) ia (ib+1):=by
 unfold PI at h⊢;rw[<-h,jq hb,Ly q,d9,aq];rfl
theorem PI.x (h:PI R a b out ia ib) (ha:ia<a.size) (q:∀y,y∈la b ib->kl y (ga a ia)=false):PI R a b (out.push (ga a ia)) (ia+1) ib:=by
 unfold PI at h⊢;rw[<-h,jq ha,Lz q,d9,aq];rfl
theorem PI.y1 (h:PI R a b out ia ib) (ha:ia<a.size) (hb:ib<b.size) (q:kl (ga b ib) (ga a ia)=true):PI R a b (out.push (ga b ib)) ia (ib+1):=by
 unfold PI at h⊢;rw[<-h,jq ha,jq hb,uO q,d9,aq];rfl
theorem PI.x1 (h:PI R a b out ia ib) (ha:ia<a.size) (hb:ib<b.size) (q:kl (ga b ib) (ga a ia)=false):PI R a b (out.push (ga a ia)) (ia+1) ib:=by
 unfold PI at h⊢;rw[<-h,jq ha,jq hb,zU q,d9,aq];rfl
theorem PI.xs (h:PI R a b out ia ib) (hb:ib<b.size) (q:∀j,j<k->kl (ga b ib) (ga a (ia+j))=false):PI R a b (out++a.extract ia (ia+k)) (ia+k) ib:=by
 unfold PI at h⊢;rw[<-h,jq hb,uV (a:=a) ia k,HK (by
  intro x hx;obtain⟨j,hj,rfl⟩:=py hx;exact q j hj),bL,aq]
theorem PI.ys (h:PI R a b out ia ib) (ha:ia<a.size) (q:∀j,j<k->kl (ga b (ib+j)) (ga a ia)=true):PI R a b (out++b.extract ib (ib+k)) ia (ib+k):=by
 unfold PI at h⊢;rw[<-h,jq ha,uV (a:=b) ib k,zT (by
  intro x hx;obtain⟨j,hj,rfl⟩:=py hx;exact q j hj),bL,aq]
inductive MC (R:List Keyed) (a b:Array Keyed):Prop
 |mk (ka:Ks a) (kb:Ks b) (sa:jH a 0 a.size) (sb:jH b 0 b.size) (l:Las a b)
inductive sL (R:List Keyed) (a b:Array Keyed) (m:Nat) (out:Array Keyed) (ia ib:Nat):Prop
 |mk (ha:ia+1<a.size) (hb:ib<b.size) (w:m<=ia+ib) (h:PI R a b out ia ib)
theorem sL.mono {n:Nat} (h:sL R a b m out ia ib) (q:n<=m):sL R a b n out ia ib:=by
 induction h with|mk ha hb w h=>exact .mk ha hb (ae q w) h
theorem jH.from (h:jH a 0 a.size) (i:Nat):jH a i (a.size-i):=λj k hj hk=>by
 have:=h (i+j) (i+k) (b7 0x19a28a20819801 hj) ((aN (a.size) (i)).elim (λw0=>d3 0xb8a21810092819812 hk (br w0)) (λw0=>d3 0x1b8a2181ba922819812 hk (ac w0)))
 rwa [aV,aV]at this
theorem sL.y (h:sL R a b m out ia ib) (q:kl (ga b ib) (ga a ia)=true):PI R a b (out.push (ga b ib)) ia (ib+1)/\(¬(ib+1==b.size)=true->sL R a b (m+1) (out.push (ga b ib)) ia (ib+1)):=by
 induction h with
 |mk ha hb w e=>
  have e:=e.y1 (cb ha) hb q;exact⟨e,λc=>.mk ha (FZ c hb) (aK w) e⟩
theorem sL.x (h:sL R a b m out ia ib) (q:¬kl (ga b ib) (ga a ia)=true):PI R a b (out.push (ga a ia)) (ia+1) ib/\(¬(ia+1+1==a.size)=true->sL R a b (m+1) (out.push (ga a ia)) (ia+1) ib):=by
 induction h with
 |mk ha hb w e=>
  have e:=e.x1 (cb ha) hb (fh.mpr q);exact⟨e,λc=>.mk (FZ c ha) hb (b7 0x1a109221082081a92801 w) e⟩
inductive JA (R:List Keyed) (a b:Array Keyed) (m ib:Nat) (out:Array Keyed) (ia:Nat):Prop
 |mk (ha:ia+1<a.size) (w:m<=ia+ib) (h:PI R a b out ia ib) (q:∀x,x∈la a ia->kl (ga b ib) x=true)
inductive JB (R:List Keyed) (a b:Array Keyed) (m ia:Nat) (out:Array Keyed) (ib:Nat):Prop
 |mk (hb:ib<b.size) (w:m<=ia+ib) (h:PI R a b out ia ib) (q:∀y,y∈la b ib->kl y (ga a ia)=false)
theorem PI.gx (h:PI R a b out ia ib) (hb:ib<b.size) (bk:Bk (λi=>!kl (ga b ib) (ga a (ia+i))) (a.size-ia) k k):
  PI R a b (out++a.extract ia (ia+k)) (ia+k) ib/\∀x,x∈la a (ia+k)->kl (ga b ib) x=true:=by
 induction bk with
 |mk _ _ t f=>
  refine⟨h.xs hb λj hj=>(bl _).mp (t j hj),λx hx=>?_⟩;obtain⟨j,hj,rfl⟩:=rN hx;rw[lS];exact(kq _).mp (f (k+j) (bH 0x1982800) (jx 0x1ca9217fb8c2281ba982212 hj (ac (n:=a.size) (m:=ia) (d3 0x1b8081ba982211 hj))))
theorem PI.gy (h:PI R a b out ia ib) (ha:ia<a.size) (bk:Bk (λi=>kl (ga b (ib+i)) (ga a ia)) (b.size-ib) k k):
  PI R a b (out++b.extract ib (ib+k)) ia (ib+k)/\∀y,y∈la b (ib+k)->kl y (ga a ia)=false:=by
 induction bk with
 |mk _ _ t f=>
  refine⟨h.ys ha t,λx hx=>?_⟩;obtain⟨j,hj,rfl⟩:=rN hx;rw[lS];exact f (k+j) (bH 0x1982800) (jx 0x1ca9217fb8c2281ba982212 hj (ac (n:=b.size) (m:=ib) (d3 0x1b8081ba982211 hj)))
theorem k0 (h:¬k>0):k=0:=Nat.le_zero.mp (du h)
noncomputable abbrev Rs (R:List Keyed) (r:Array Keyed):Prop:=r.toList=R
noncomputable abbrev S7:=Option (Array Keyed)×Array Keyed×Nat×Nat×Nat×Nat×Nat
noncomputable abbrev P7 (R:List Keyed) (a b:Array Keyed) (m:Nat):ForInStep S7->Prop:=St (Gx (Rs R) (sL R a b m)) (Go (sL R a b m))
noncomputable def Mb (a b out:Array Keyed) (ia ib:Nat) (t:Nat×Nat×Nat):SM (ForInStep S7):=pure (.done (some (out++a.extract ia a.size++b.extract ib b.size),out,ia,ib,t))
noncomputable def lsA (a b out:Array Keyed) (ia ib:Nat) (t:Nat×Nat×Nat):SM (ForInStep S7):=pure (.done (some (out++b.extract ib b.size++a.extract ia a.size),out,ia,ib,t))
noncomputable def loD (a b out:Array Keyed) (ia ib:Nat) (t:Nat×Nat×Nat):SM (ForInStep S7):=elem' a ia>>=λx=>
 if(ia+1+1==a.size)=true then lsA a b (out.push x) (ia+1) ib t
 else if(decide (t.2.1<7)&&decide (t.2.2<7))=true then pure (.done (none,out.push x,ia+1,ib,t))else pure (.yield (none,out.push x,ia+1,ib,t))
noncomputable def EM (a b out:Array Keyed) (ia ib:Nat) (t:Nat×Nat×Nat):SM (ForInStep S7):=elem' b ib>>=λy=>
 if(ib+1==b.size)=true then Mb a b (out.push y) ia (ib+1) t
 else elem' a ia>>=λx=>j1 true x b (ib+1) (b.size-(ib+1)) 0>>=λr=>oS r (Mb a b (out.push y) ia (ib+1) t) λk=>
  if k>0 then(if(ib+1+k==b.size)=true then Mb a b (out.push y++b.extract (ib+1) (ib+1+k)) ia (ib+1+k) (t.1,t.2.1,k)
   else loD a b (out.push y++b.extract (ib+1) (ib+1+k)) ia (ib+1+k) (t.1,t.2.1,k))else loD a b (out.push y) ia (ib+1) (t.1,t.2.1,k)
noncomputable def loA (a b out:Array Keyed) (ia ib:Nat) (t:Nat×Nat) (g:Nat):SM (ForInStep S7):=setG g>>=λö=>elem' b ib>>=λy=>
 j1 false y a ia (a.size-ia) 0>>=λr=>oS r (Mb a b out ia ib (g,t)) λk=>
  if k>0 then(if(ia+k+1==a.size)=true then lsA a b (out++a.extract ia (ia+k)) (ia+k) ib (g,k,t.2)
   else if(ia+k==a.size)=true then Mb a b (out++a.extract ia (ia+k)) (ia+k) ib (g,k,t.2)
   else EM a b (out++a.extract ia (ia+k)) (ia+k) ib (g,k,t.2))else EM a b out ia ib (g,k,t.2)
noncomputable def lo2 (a b:Array Keyed) (s:S7):SM (ForInStep S7):=if s.2.2.2.2.1>1 then loA a b s.2.1 s.2.2.1 s.2.2.2.1 s.2.2.2.2.2 (s.2.2.2.2.1-1)else loA a b s.2.1 s.2.2.1 s.2.2.2.1 s.2.2.2.2.2 s.2.2.2.2.1
theorem HM (H:MC R a b) {t:Nat×Nat×Nat} (h:JB R a b m ia out ib) (ha:ia+1<a.size):V (loD a b out ia ib t) (P7 R a b m):=by
 induction H with|mk ka kb sa sb l=>
 induction h with|mk hb w e q=>
 have ha':=cb ha;have e:=e.x ha' q;refine .bind (.elem (fQ ha') (.ite (λc=>.pure (.done (.ret (e.last l c)))) λc=>?_));have z:sL R a b m (out.push (ga a ia)) (ia+1) ib:=.mk (FZ c ha) hb (b7 0x1a109228081a92801 w) e;exact .ite (λö=>.pure (.done (.go z))) λö=>.pure (.yield (.mk z))
theorem HN (H:MC R a b) {t:Nat×Nat×Nat} (h:JA R a b m ib out ia) (hb:ib<b.size):V (EM a b out ia ib t) (P7 R a b m):=by
 have H':=H
 induction H with|mk ka kb sa sb l=>
 induction h with|mk ha w e q=>
 have ha':=cb ha;have e:=e.y hb q;refine .bind (.elem (fQ hb) (.ite (λc=>.pure (.done (.ret (e.done c)))) λc=>.bind (.elem (fQ ha') (.bind ?_))));have c:=FZ c hb;refine kL (Ek kb (ka _ ha') (b7 0x1a810922081a10928221 (ac (n:=b.size) (m:=ib+1) (bH 0x1910820819811 hb))) (sb.from _)) (gp c) λk bk=>.oS ?_;have⟨e1,r1⟩:=e.gy ha' bk;refine .ite (λk0=>.ite (λd=>.pure (.done (.ret (e1.done d)))) λd=>HM H' (.mk ?_ ?_ e1 r1) ha) λz=>HM H' (.mk c (b7 0x110a2928081a92801 w) e ?_) ha
 ·induction bk with|mk _ h=>exact FZ d (m5 k _▸Cf (cu c) h)
 ·exact d3 0x1b10a22928081a92801 w
 ·cases k0 z;exact r1
theorem LN (H:MC R a b) {s:S7} (h:Go (sL R a b m) s):V (lo2 a b s) (P7 R a b m):=by
 have H':=H
 induction H with|mk ka kb sa sb l=>
 induction h with|@mk out ia ib t h=>
 have z (g:Nat):V (loA a b out ia ib t.2 g) (P7 R a b m):=by
  induction h with|mk ha hb w e=>
  have ha':=cb ha;refine .bind (.setG (.bind (.elem (fQ hb) (.bind (kL (El ka (kb _ hb) (b7 0x1a892081a98221 (ac (n:=a.size) (m:=ia) (bH 0x1980819108211 ha))) (sa.from ia)) (gp ha') λk bk=>.oS ?_)))));have⟨e1,r1⟩:=e.gx hb bk;refine .ite (λk0=>.ite (λc=>.pure (.done (.ret (e1.last l c)))) λc=>.ite (λd=>.pure (.done (.ret (e1.doneA d)))) λd=>HN H' (.mk ?_ (d3 0x1ab9228081a92801 w) e1 r1) hb) λz=>HN H' (.mk ha w e ?_) hb
  ·induction bk with|mk _ h=>exact FZ c (FZ d (m5 k _▸Cf (cu ha') h))
  ·cases k0 z;exact r1
 exact .ite (λö=>z _) λö=>z _
abbrev S6:=Option (Array Keyed)×Array Keyed×Nat×Nat×Nat×Nat
abbrev S5:=Option (Array Keyed)×Array Keyed×Nat×Nat×Nat
noncomputable def dnB (a b out:Array Keyed) (ia ib:Nat) (t:Nat×Nat):SM (ForInStep S6):=pure (.done (some (out++a.extract ia a.size++b.extract ib b.size),out,ia,ib,t))
noncomputable def lo1 (a b:Array Keyed) (g:Nat) (s:S6):SM (ForInStep S6):=elem' b s.2.2.2.1>>=λy=>elem' a s.2.2.1>>=λx=>lt' y x>>=λr=>oS r (dnB a b s.2.1 s.2.2.1 s.2.2.2.1 s.2.2.2.2) λq=>
 if q=true then elem' b s.2.2.2.1>>=λy=>if(s.2.2.2.1+1==b.size)=true then dnB a b (s.2.1.push y) s.2.2.1 (s.2.2.2.1+1) (0,s.2.2.2.2.2+1)
  else if s.2.2.2.2.2+1≥g then pure (.done (none,s.2.1.push y,s.2.2.1,s.2.2.2.1+1,0,s.2.2.2.2.2+1))else pure (.yield (none,s.2.1.push y,s.2.2.1,s.2.2.2.1+1,0,s.2.2.2.2.2+1))
 else elem' a s.2.2.1>>=λx=>if(s.2.2.1+1+1==a.size)=true then pure (.done (some (s.2.1.push x++b.extract s.2.2.2.1 b.size++a.extract (s.2.2.1+1) a.size),s.2.1.push x,s.2.2.1+1,s.2.2.2.1,s.2.2.2.2.1+1,0))
  else if s.2.2.2.2.1+1≥g then pure (.done (none,s.2.1.push x,s.2.2.1+1,s.2.2.2.1,s.2.2.2.2.1+1,0))else pure (.yield (none,s.2.1.push x,s.2.2.1+1,s.2.2.2.1,s.2.2.2.2.1+1,0))
noncomputable def loO (a b:Array Keyed) (s:S5):SM (ForInStep S5):=forIn [0:a.size+b.size] ((none,s.2.1,s.2.2.1,s.2.2.2.1,0,0):S6) (λ_ c=>lo1 a b s.2.2.2.2 c)>>=λc=>
 oN c.1 (liftM (rule "list.sort.gallop")>>=λ_=>forIn [0:a.size+b.size] ((none,c.2.1,c.2.2.1,c.2.2.2.1,s.2.2.2.2+1,c.2.2.2.2):S7) (λ_ c=>lo2 a b c)>>=λd=>
  oN d.1 (setG (d.2.2.2.2.1+1)>>=λ_=>pure (.yield (none,d.2.1,d.2.2.1,d.2.2.2.1,d.2.2.2.2.1+1))) λr=>pure (.done (some r,d.2.1,d.2.2.1,d.2.2.2.1,d.2.2.2.2.1)))
  λr=>pure (.done (some r,c.2.1,c.2.2.1,c.2.2.2.1,s.2.2.2.2))
noncomputable def loZ (a b:Array Keyed):SM (Array Keyed):=liftM (rule "list.sort.merge-lo")>>=λ_=>elem' b 0>>=λy=>
 if(1==b.size)=true then pure (#[y]++a.extract 0 a.size++b.extract 1 b.size)else if(0+1==a.size)=true then pure (#[y]++b.extract 1 b.size++a.extract 0 a.size)
 else get>>=λst=>forIn [0:a.size+b.size] ((none,#[y],0,1,gallopOf st):S5) (λ_ s=>loO a b s)>>=λc=>oN c.1 (liftM (unsupported "internal:list.sort.merge-bound")) pure
@[elab_as_elim] theorem Go.on {ρ α β γ τ:Type} {I:α->β->γ->Prop} {C:Option ρ×α×β×γ×τ->Prop} {s:Option ρ×α×β×γ×τ} (h:Go I s) (k:∀x y z t,I x y z->C (none,x,y,z,t)):C s:=by
 cases h with|mk h=>exact k _ _ _ _ h
@[elab_as_elim] theorem Gx.on {ρ α β γ τ:Type} {F:ρ->Prop} {I:α->β->γ->Prop} {C:Option ρ×α×β×γ×τ->Prop} {s:Option ρ×α×β×γ×τ} (h:Gx F I s) (k:∀r x y z t,F r->C (some r,x,y,z,t)) (k':∀x y z t,I x y z->C (none,x,y,z,t)):C s:=by
 cases h with
 |ret h=>exact k _ _ _ _ _ h
 |go h=>exact k' _ _ _ _ h
theorem St.mono {β:Type} {E I E' I':β->Prop} {r:ForInStep β} (h:St E I r) (k:∀c,E c->E' c) (k':∀c,I c->I' c):St E' I' r:=by
 induction h with
 |done h=>exact .done (k _ h)
 |yield h=>exact .yield (k' _ h)
theorem LO (H:MC R a b) {g:Nat} {s:S6} (h:Go (sL R a b m) s):V (lo1 a b g s) (St (Gx (Rs R) (sL R a b (m+1))) (Go (sL R a b (m+1)))):=by
 induction H with
 |mk ka kb sa sb l=>
 refine h.on λout ia ib t q=>?_;have⟨hb,ha⟩:ib<b.size/\ia<a.size:=by induction q with|mk ha hb w e=>exact⟨hb,cb ha⟩
 exact .bind (.elem (fQ hb) (.bind (.elem (fQ ha) (.bind (.lt (kb _ hb) (ka _ ha) (.oS (.ite
  (λz=>.bind (.elem (fQ hb) (.ite (λc=>.pure (.done (.ret ((q.y z).1.done c)))) λc=>.ite (λ_=>.pure (.done (.go ((q.y z).2 c)))) λ_=>.pure (.yield (.mk ((q.y z).2 c))))))
  λz=>.bind (.elem (fQ ha) (.ite (λc=>.pure (.done (.ret ((q.x z).1.last l c)))) λc=>.ite (λ_=>.pure (.done (.go ((q.x z).2 c)))) λ_=>.pure (.yield (.mk ((q.x z).2 c))))))))))))
theorem V.sN {α β:Type} {Q:β->Prop} {d:SM β} {f:α->SM β} (h:V d Q):V (oN none d f) Q:=h
theorem V.sS {α β:Type} {Q:β->Prop} {a:α} {d:SM β} {f:α->SM β} (h:V (f a) Q):V (oN (some a) d f) Q:=h
theorem LM (H:MC R a b) {s:S5} (ha:0<a.size) (h:Go (sL R a b m) s):V (loO a b s) (St (Gx (Rs R) λ_ _ _=>False) (Go (sL R a b (m+1)))):=
 h.on λout ia ib g q=>.loop (λj=>Go (sL R a b (m+j))) (Gx (Rs R) (sL R a b (m+1))) (λj s _ q=>(LO H q).mono λr h=>h.mono (λc h=>h.on (λ_ _ _ _ _ h=>.ret h) λ_ _ _ _ h=>.go (h.mono (aK (bG ..)))) λ_ h=>h)
  (λs q=>q.on λ_ _ _ _ q=>.go (q.mono (hG (ae ha (bG ..)) _))) (.mk q) λs q=>q.on (λ_ _ _ _ _ q=>.sS (.pure (.done (.ret q)))) λ_ _ _ _ q=>
   .sN (.bind (.rule (.loop (λj=>Go (sL R a b (m+1))) (Gx (Rs R) (sL R a b (m+1))) (λj s _ q=>LN H q) (λs q=>q.on λ_ _ _ _ q=>.go q) (.mk q) λs q=>
    q.on (λ_ _ _ _ _ q=>.sS (.pure (.done (.ret q)))) λ_ _ _ _ q=>.sN (.bind (.setG (.pure (.yield (.mk q))))))))
noncomputable def wk:Array Keyed->Array Keyed->SM (Array Keyed):=sortPriv%PySem.Builtin.mergeLo
theorem Bm (H:MC R a b) (e:PI R a b #[] 0 0) (ha:0<a.size) (hb:0<b.size) (f:kl (ga b 0) (ga a 0)=true):V (wk a b) (Rs R):=by
 refine V.cast (m:=loZ a b) ?_ (by kernel_rfl);have e:=e.y1 ha hb f;refine .bind (.rule (.bind (.elem (fQ hb) (.ite (λc=>.pure (e.done c)) λc=>.ite (λd=>.pure (e.last (by cases H;assumption) d)) λd=>.bind (.get λst=>?_)))));exact .loop (λi=>Go (sL R a b i)) (Gx (Rs R) λ_ _ _=>False) (λi s _ q=>LM H ha q)
  (λs q=>q.on λ_ _ _ _ q=>by induction q with|mk ha hb w e=>exact absurd w (s5 (Nat.add_lt_add (cb ha) hb)))
  (.mk (.mk (FZ d ha) (FZ c hb) (aL _) e)) λs q=>q.on (λ_ _ _ _ _ q=>.sS (.pure q)) λ_ _ _ _ q=>q.elim
end
open Mine.Internal (cy bH b7 d3 jx px yt HU)
open PySem PySem.W PyProof.Rows PySem.Calls
section
variable {a:Array Keyed} {i j k n m:Nat} {x:Keyed}
noncomputable def ha (a:Array Keyed) (n:Nat):List Keyed:=(a.toList.take n).reverse
theorem jr (h:0<n) (q:n<=a.size):ha a n=ga a (n-1)::ha a (n-1):=by
 obtain⟨n,rfl⟩:∃k,n=k+1:=⟨n-1,(ac (cy 0x181008180011 h)).symm⟩;have e:ga a n=a[n]:=by unfold ga;rw[getElem?_pos a n q];rfl
 rw[Nat.add_sub_cancel,e];unfold ha;rw[qr q,cY];rfl
theorem DD (h:m<=n):ha a n=((a.extract m n).reverse).toList++ha a m:=by
 unfold ha;rw[nF,<-cY,e8,dM]
 conv=>lhs;rw[show n=m+(n-m) by exact am (b7 0x1892a07fa98221 (ac (n:=n) (m:=m) (bH 0x1980819801 h))) (b7 0x1a892081a98221 (ac (n:=n) (m:=m) (bH 0x1980819801 h))),List.take_add]
theorem yk (q:n<=a.size) (h:x∈ha a n):∃j,j<n/\x=ga a j:=by
 obtain⟨j,e⟩:=qL (jd.mp h);rw[List.getElem?_take,dN]at e;split at e
 ·exact⟨j,‹_›,by unfold ga;rw[e];rfl⟩
 ·contradiction
theorem DT (h:x∈((a.extract m n).reverse).toList):∃j,m<=j/\j<n/\x=ga a j:=by
 rw[nF]at h;have h:=jd.mp h;by_cases q:m<=n
 ·rw[show n=m+(n-m) by exact am (b7 0x1892a07fa98221 (ac (n:=n) (m:=m) (bH 0x1980819801 q))) (b7 0x1a892081a98221 (ac (n:=n) (m:=m) (bH 0x1980819801 q)))]at h;obtain⟨j,hj,e⟩:=py h;exact⟨m+j,bH 0x1982800,d3 0x1b8a2181ba922819812 hj (ac (n:=n) (m:=m) (bH 0x1980819801 q)),e⟩
 ·rw[Array.extract_empty_of_stop_le_start (by exact bH 0x1890819881 q)]at h;contradiction
end
noncomputable abbrev kr (y x:Keyed):Bool:=kl x y
section
variable {a b:Array Keyed} {R:List Keyed} {m i j na nb k:Nat} {out:Array Keyed}
noncomputable def PH (R:List Keyed) (a b:Array Keyed) (na nb:Nat) (out:Array Keyed):Prop:=out.toList++mg kr (ha b nb) (ha a na)=R
noncomputable abbrev Rh (R:List Keyed) (r:Array Keyed):Prop:=r.toList.reverse=R
theorem pt:(a.extract 0 k).toList.reverse=ha a k:=by
 unfold ha;rw[e8,dM];rfl
theorem Rh.of (p q:List Keyed) (hp:(a.extract 0 i).toList.reverse=p) (hq:(b.extract 0 j).toList.reverse=q):(a.extract 0 i++b.extract 0 j++out.reverse).toList.reverse=out.toList++(q++p):=by
 rw[bL,bL,cY,cY,hp,hq,nF,gB]
theorem PH.done (h:PH R a b na nb out) (e:(na==0)=true):Rh R (a.extract 0 na++b.extract 0 nb++out.reverse):=by
 cases eq_of_beq e
 exact(Rh.of _ _ pt pt).trans ((congrArg (out.toList++ ·) ((bz _).trans ph.symm)).trans h)
theorem PH.doneB (h:PH R a b na nb out) (e:(nb==0)=true):Rh R (a.extract 0 na++b.extract 0 nb++out.reverse):=by
 cases eq_of_beq e
 exact(Rh.of _ _ pt pt).trans ((congrArg (out.toList++ ·) uM.symm).trans h)
noncomputable def Fst (a b:Array Keyed):Prop:=∀j,j<a.size->kl (ga b 0) (ga a j)=true
theorem PH.fst (h:PH R a b na nb out) (l:Fst a b) (q:na<=a.size) (z:nb<=b.size) (e:(nb==1)=true):Rh R (b.extract 0 nb++a.extract 0 na++out.reverse):=by
 cases eq_of_beq e
 have w:=zT (c:=kr) (x:=ga b 0) (X:=[]) (Y1:=ha a na) (Y:=[]) (by
  intro y hy;obtain⟨j,hj,rfl⟩:=yk q hy;exact l _ (aO hj q))
 have e:ha b 1=[ga b 0]:=jr tE z;unfold PH at h;rw[e]at h;rw[bz,ph]at w;exact(Rh.of _ _ pt pt).trans ((congrArg (out.toList++ ·) ((congrArg (ha a na++ ·) e).trans w.symm)).trans h)
theorem PH.x (h:PH R a b na nb out) (hb:0<nb) (z:nb<=b.size) (q:∀y,y∈ha a na->kr y (ga b (nb-1))=false):PH R a b na (nb-1) (out.push (ga b (nb-1))):=by
 unfold PH at h⊢;rw[<-h,jr hb z,Lz q,d9,aq];rfl
theorem PH.y (h:PH R a b na nb out) (ha:0<na) (z:na<=a.size) (q:∀x,x∈So.Internal.ha b nb->kr (ga a (na-1)) x=true):PH R a b (na-1) nb (out.push (ga a (na-1))):=by
 unfold PH at h⊢;rw[<-h,jr ha z,Ly q,d9,aq];rfl
theorem PH.y1 (h:PH R a b na nb out) (ha:0<na) (z:na<=a.size) (hb:0<nb) (w:nb<=b.size) (q:kl (ga b (nb-1)) (ga a (na-1))=true):PH R a b (na-1) nb (out.push (ga a (na-1))):=by
 unfold PH at h⊢;rw[<-h,jr ha z,jr hb w,uO (c:=kr) q,d9,aq];rfl
theorem PH.x1 (h:PH R a b na nb out) (ha:0<na) (z:na<=a.size) (hb:0<nb) (w:nb<=b.size) (q:kl (ga b (nb-1)) (ga a (na-1))=false):PH R a b na (nb-1) (out.push (ga b (nb-1))):=by
 unfold PH at h⊢;rw[<-h,jr ha z,jr hb w,zU (c:=kr) q,d9,aq];rfl
theorem PH.gy (h:PH R a b na nb out) (z:na<=a.size) (hb:0<nb) (w:nb<=b.size) (bk:Bk (λi=>!kl (ga b (nb-1)) (ga a (0+i))) na k k):
  PH R a b k nb (out++(a.extract k na).reverse)/\∀y,y∈ha a k->kr y (ga b (nb-1))=false:=by
 induction bk with
 |mk _ l t f=>
  refine⟨?_,λy hy=>?_⟩
  ·unfold PH at h⊢;rw[<-h,jr hb w,DD l,zT (by
    intro y hy;obtain⟨j,h1,h2,rfl⟩:=DT hy;exact(kq _).mp (aV j▸f j h1 h2)),bL,aq]
  ·obtain⟨j,hj,rfl⟩:=yk (ae l z) hy;exact(bl _).mp (aV j▸t j hj)
theorem PH.gx (h:PH R a b na nb out) (ha:0<na) (z:na<=a.size) (w:nb<=b.size) (bk:Bk (λi=>kl (ga b (0+i)) (ga a (na-1))) nb k k):
  PH R a b na k (out++(b.extract k nb).reverse)/\∀x,x∈So.Internal.ha b k->kr (ga a (na-1)) x=true:=by
 induction bk with
 |mk _ l t f=>
  refine⟨?_,λy hy=>?_⟩
  ·unfold PH at h⊢;rw[<-h,jr ha z,DD l,HK (by
    intro y hy;obtain⟨j,h1,h2,rfl⟩:=DT hy;exact(aV j▸f j h1 h2:)),bL,aq]
  ·obtain⟨j,hj,rfl⟩:=yk (ae l w) hy;exact(aV j▸t j hj:)
inductive sM (R:List Keyed) (a b:Array Keyed) (m na nb:Nat) (out:Array Keyed):Prop
 |mk (ha:0<na) (za:na<=a.size) (hb:1<nb) (zb:nb<=b.size) (w:m+na+nb<=a.size+b.size) (h:PH R a b na nb out)
theorem sM.mono {n:Nat} (h:sM R a b m na nb out) (q:n<=m):sM R a b n na nb out:=by
 induction h with|mk ha za hb zb w h=>exact .mk ha za hb zb (px 0x1dc2ba822081dc2ba9220819802 q w) h
theorem sM.y (h:sM R a b m na nb out) (q:kl (ga b (nb-1)) (ga a (na-1))=true):PH R a b (na-1) nb (out.push (ga a (na-1)))/\(¬(na-1==0)=true->sM R a b (m+1) (na-1) nb (out.push (ga a (na-1)))):=by
 induction h with
 |mk ha za hb zb w e=>
  have e:=e.y1 ha za (cb hb) zb q;exact⟨e,λc=>.mk (Db c (aL _)) (b7 0x19a081810a22819802 za (ac (n:=na) (m:=1) (cy 0x181008180011 ha))) hb zb (px 0x1cb2ad108222081910d2281cb2a982202 w (ac (n:=na) (m:=1) (cy 0x181008180011 ha))) e⟩
theorem sM.x (h:sM R a b m na nb out) (q:¬kl (ga b (nb-1)) (ga a (na-1))=true):PH R a b na (nb-1) (out.push (ga b (nb-1)))/\(¬(nb-1==1)=true->sM R a b (m+1) na (nb-1) (out.push (ga b (nb-1)))):=by
 induction h with
 |mk ha za hb zb w e=>
  have e:=e.x1 ha za (cb hb) zb (fh.mpr q);exact⟨e,λc=>.mk ha za (Db c (Cd hb)) (b7 0x19a081810a22819802 zb (ac (n:=nb) (m:=1) (cy 0x281008181011 hb))) (px 0x1cb2d9108222081a10d2281cb2a982202 w (ac (n:=nb) (m:=1) (cy 0x281008181011 hb))) e⟩
inductive HA (R:List Keyed) (a b:Array Keyed) (m nb na:Nat) (out:Array Keyed):Prop
 |mk (ha:0<na) (za:na<=a.size) (w:m+na+nb<=a.size+b.size) (h:PH R a b na nb out) (q:∀y,y∈So.Internal.ha a na->kr y (ga b (nb-1))=false)
inductive HB (R:List Keyed) (a b:Array Keyed) (m na nb:Nat) (out:Array Keyed):Prop
 |mk (hb:1<nb) (zb:nb<=b.size) (w:m+na+nb<=a.size+b.size) (h:PH R a b na nb out) (q:∀x,x∈So.Internal.ha b nb->kr (ga a (na-1)) x=true)
noncomputable abbrev T7:=Option (Array Keyed)×Nat×Nat×Array Keyed×Nat×Nat×Nat
noncomputable abbrev U7 (R:List Keyed) (a b:Array Keyed) (m:Nat):ForInStep T7->Prop:=St (Gx (Rh R) (sM R a b m)) (Go (sM R a b m))
noncomputable def Ma (a b:Array Keyed) (na nb:Nat) (out:Array Keyed) (t:Nat×Nat×Nat):SM (ForInStep T7):=pure (.done (some (a.extract 0 na++b.extract 0 nb++out.reverse),na,nb,out,t))
noncomputable def fsH (a b:Array Keyed) (na nb:Nat) (out:Array Keyed) (t:Nat×Nat×Nat):SM (ForInStep T7):=pure (.done (some (b.extract 0 nb++a.extract 0 na++out.reverse),na,nb,out,t))
noncomputable def hiD (a b:Array Keyed) (na nb:Nat) (out:Array Keyed) (t:Nat×Nat×Nat):SM (ForInStep T7):=elem' a (na-1)>>=λx=>
 if(na-1==0)=true then Ma a b (na-1) nb (out.push x) t
 else if(decide (t.2.1<7)&&decide (t.2.2<7))=true then pure (.done (none,na-1,nb,out.push x,t))else pure (.yield (none,na-1,nb,out.push x,t))
noncomputable def DB (a b:Array Keyed) (na nb:Nat) (out:Array Keyed) (t:Nat×Nat×Nat):SM (ForInStep T7):=elem' b (nb-1)>>=λy=>
 if(nb-1==1)=true then fsH a b na (nb-1) (out.push y) t
 else elem' a (na-1)>>=λx=>j1 true x b 0 (nb-1) (nb-1-1)>>=λr=>oS r (Ma a b na (nb-1) (out.push y) t) λk=>
  if nb-1-k>0 then(if(k==1)=true then fsH a b na k (out.push y++(b.extract k (nb-1)).reverse) (t.1,t.2.1,nb-1-k)
   else if(k==0)=true then Ma a b na k (out.push y++(b.extract k (nb-1)).reverse) (t.1,t.2.1,nb-1-k)
   else hiD a b na k (out.push y++(b.extract k (nb-1)).reverse) (t.1,t.2.1,nb-1-k))else hiD a b na (nb-1) (out.push y) (t.1,t.2.1,nb-1-k)
noncomputable def hiA (a b:Array Keyed) (na nb:Nat) (out:Array Keyed) (t:Nat×Nat) (g:Nat):SM (ForInStep T7):=setG g>>=λö=>elem' b (nb-1)>>=λy=>
 j1 false y a 0 na (na-1)>>=λr=>oS r (Ma a b na nb out (g,t)) λk=>
  if na-k>0 then(if(k==0)=true then Ma a b k nb (out++(a.extract k na).reverse) (g,na-k,t.2)
   else DB a b k nb (out++(a.extract k na).reverse) (g,na-k,t.2))else DB a b na nb out (g,na-k,t.2)
noncomputable def hi2 (a b:Array Keyed) (s:T7):SM (ForInStep T7):=if s.2.2.2.2.1>1 then hiA a b s.2.1 s.2.2.1 s.2.2.2.1 s.2.2.2.2.2 (s.2.2.2.2.1-1)else hiA a b s.2.1 s.2.2.1 s.2.2.2.1 s.2.2.2.2.2 s.2.2.2.2.1
inductive MH (R:List Keyed) (a b:Array Keyed):Prop
 |mk (ka:Ks a) (kb:Ks b) (sa:jH a 0 a.size) (sb:jH b 0 b.size) (l:Fst a b)
theorem jH.to (h:jH a 0 a.size) (q:k<=a.size):jH a 0 k:=λi j hi hj=>h i j hi (aO hj q)
theorem pl (h:0<n) (q:n<=m):n-1<m:=aO (Nat.sub_lt h tE) q
theorem k1 (h:¬n-k>0) (q:k<=n):k=n:=am (bH 0x1980819801 q) (b7 0x19a07fa98228180092 h (ac (n:=n) (m:=k) (bH 0x1980819801 q)))
theorem HP (H:MH R a b) {t:Nat×Nat×Nat} (h:HB R a b m na nb out) (ha:0<na) (za:na<=a.size):V (hiD a b na nb out t) (U7 R a b m):=by
 induction H with|mk ka kb sa sb l=>
 induction h with|mk hb zb w e q=>
 have e:=e.y ha za q;refine .bind (.elem (fQ (pl ha za)) (.ite (λc=>.pure (.done (.ret (e.done c)))) λc=>?_));have z:sM R a b m (na-1) nb (out.push (ga a (na-1))):=.mk (Db c (aL _)) (b7 0x19a081810a22819802 za (ac (n:=na) (m:=1) (cy 0x181008180011 ha))) hb zb (px 0x1cb2ad822081910d2281cb2a982202 w (ac (n:=na) (m:=1) (cy 0x181008180011 ha))) e;exact .ite (λö=>.pure (.done (.go z))) λö=>.pure (.yield (.mk z))
theorem HQ (H:MH R a b) {t:Nat×Nat×Nat} (h:HA R a b m nb na out) (hb:1<nb) (zb:nb<=b.size):V (DB a b na nb out t) (U7 R a b m):=by
 have H':=H
 induction H with|mk ka kb sa sb l=>
 induction h with|mk ha za w e q=>
 have e:=e.x (cb hb) zb q;have zb':nb-1<=b.size:=ae (de _ _) zb;refine .bind (.elem (fQ (pl (cb hb) zb)) (.ite (λc=>.pure (.done (.ret (e.fst l za zb' c)))) λc=>.bind (.elem (fQ (pl ha za)) (.bind ?_))));have c:=Db c (Cd hb);refine kL (Ek kb (ka _ (pl ha za)) (bH 0x1980020819801 zb') (sb.to zb')) (pl (cb c) (au _)) λk bk=>.oS ?_;have⟨e1,r1⟩:=e.gx ha za zb' bk;have l':k<=nb-1:=by cases bk;assumption
 refine .ite (λk0=>.ite (λd=>.pure (.done (.ret (e1.fst l za (ae l' zb') d)))) λd=>.ite (λd=>.pure (.done (.ret (e1.doneB d)))) λd'=>HP H' (.mk ?_ (ae l' zb') (yt 0x1cb2d9822081a10e2281ed081cb2a982203 w l' (ac (n:=nb) (m:=1) (cy 0x281008181011 hb))) e1 r1) ha za) λz=>HP H' (.mk c zb' (px 0x1cb2d9822081a10d2281cb2a982202 w (ac (n:=nb) (m:=1) (cy 0x281008181011 hb))) e ?_) ha za
 ·exact Db d (Db d' (aL _))
 ·cases k1 z l';exact r1
theorem L2 (H:MH R a b) {s:T7} (h:Go (sM R a b m) s):V (hi2 a b s) (U7 R a b m):=by
 have H':=H
 induction H with|mk ka kb sa sb l=>
 induction h with|@mk na nb out t h=>
 have z (g:Nat):V (hiA a b na nb out t.2 g) (U7 R a b m):=by
  induction h with|mk ha za hb zb w e=>
  have hb':=cb hb;refine .bind (.setG (.bind (.elem (fQ (pl hb' zb)) (.bind (kL (El ka (kb _ (pl hb' zb)) (bH 0x1980020819801 za) (sa.to za)) (pl ha (au _)) λk bk=>.oS ?_)))));have⟨e1,r1⟩:=e.gy za hb' zb bk;have l':k<=na:=by cases bk;assumption
  refine .ite (λk0=>.ite (λc=>.pure (.done (.ret (e1.done c)))) λc=>HQ H' (.mk ?_ (ae l' za) (px 0x1cb2ad8220819d081cb2a982202 w l') e1 r1) hb zb) λz=>HQ H' (.mk ha za w e ?_) hb zb
  ·exact Db c (aL _)
  ·cases k1 z l';exact r1
 exact .ite (λö=>z _) λö=>z _
abbrev T6:=Option (Array Keyed)×Nat×Nat×Array Keyed×Nat×Nat
abbrev T5:=Option (Array Keyed)×Nat×Nat×Array Keyed×Nat
noncomputable def hi1 (a b:Array Keyed) (g:Nat) (s:T6):SM (ForInStep T6):=elem' b (s.2.2.1-1)>>=λy=>elem' a (s.2.1-1)>>=λx=>lt' y x>>=λr=>
 oS r (pure (.done (some (a.extract 0 s.2.1++b.extract 0 s.2.2.1++s.2.2.2.1.reverse),s.2))) λq=>
 if q=true then elem' a (s.2.1-1)>>=λx=>if(s.2.1-1==0)=true then pure (.done (some (a.extract 0 (s.2.1-1)++b.extract 0 s.2.2.1++(s.2.2.2.1.push x).reverse),s.2.1-1,s.2.2.1,s.2.2.2.1.push x,s.2.2.2.2.1+1,0))
  else if s.2.2.2.2.1+1≥g then pure (.done (none,s.2.1-1,s.2.2.1,s.2.2.2.1.push x,s.2.2.2.2.1+1,0))else pure (.yield (none,s.2.1-1,s.2.2.1,s.2.2.2.1.push x,s.2.2.2.2.1+1,0))
 else elem' b (s.2.2.1-1)>>=λy=>if(s.2.2.1-1==1)=true then pure (.done (some (b.extract 0 (s.2.2.1-1)++a.extract 0 s.2.1++(s.2.2.2.1.push y).reverse),s.2.1,s.2.2.1-1,s.2.2.2.1.push y,0,s.2.2.2.2.2+1))
  else if s.2.2.2.2.2+1≥g then pure (.done (none,s.2.1,s.2.2.1-1,s.2.2.2.1.push y,0,s.2.2.2.2.2+1))else pure (.yield (none,s.2.1,s.2.2.1-1,s.2.2.2.1.push y,0,s.2.2.2.2.2+1))
noncomputable def hiO (a b:Array Keyed) (s:T5):SM (ForInStep T5):=forIn [0:a.size+b.size] ((none,s.2.1,s.2.2.1,s.2.2.2.1,0,0):T6) (λ_ c=>hi1 a b s.2.2.2.2 c)>>=λc=>
 oN c.1 (liftM (rule "list.sort.gallop")>>=λ_=>forIn [0:a.size+b.size] ((none,c.2.1,c.2.2.1,c.2.2.2.1,s.2.2.2.2+1,c.2.2.2.2):T7) (λ_ c=>hi2 a b c)>>=λd=>
  oN d.1 (setG (d.2.2.2.2.1+1)>>=λ_=>pure (.yield (none,d.2.1,d.2.2.1,d.2.2.2.1,d.2.2.2.2.1+1))) λr=>pure (.done (some r,d.2.1,d.2.2.1,d.2.2.2.1,d.2.2.2.2.1)))
  λr=>pure (.done (some r,c.2.1,c.2.2.1,c.2.2.2.1,s.2.2.2.2))
noncomputable def hiZ (a b:Array Keyed):SM (Array Keyed):=liftM (rule "list.sort.merge-hi")>>=λ_=>elem' a (a.size-1)>>=λx=>
 if(a.size-1==0)=true then pure (a.extract 0 (a.size-1)++b.extract 0 b.size++(#[x]:Array Keyed).reverse)else if(b.size==1)=true then pure (b.extract 0 b.size++a.extract 0 (a.size-1)++(#[x]:Array Keyed).reverse)
 else get>>=λst=>forIn [0:a.size+b.size] ((none,a.size-1,b.size,#[x],gallopOf st):T5) (λ_ s=>hiO a b s)>>=λc=>oN c.1 (liftM (unsupported "internal:list.sort.merge-bound")) pure
theorem L3 (H:MH R a b) {g:Nat} {s:T6} (h:Go (sM R a b m) s):V (hi1 a b g s) (St (Gx (Rh R) (sM R a b (m+1))) (Go (sM R a b (m+1)))):=by
 induction H with
 |mk ka kb sa sb l=>
 refine h.on λna nb out t q=>?_;have⟨hb,ha,zb,za⟩:nb-1<b.size/\na-1<a.size/\nb<=b.size/\na<=a.size:=by induction q with|mk ha za hb zb w e=>exact⟨pl (cb hb) zb,pl ha za,zb,za⟩
 exact .bind (.elem (fQ hb) (.bind (.elem (fQ ha) (.bind (.lt (kb _ hb) (ka _ ha) (.oS (.ite
  (λz=>.bind (.elem (fQ ha) (.ite (λc=>.pure (.done (.ret ((q.y z).1.done c)))) λc=>.ite (λö=>.pure (.done (.go ((q.y z).2 c)))) λö=>.pure (.yield (.mk ((q.y z).2 c))))))
  λz=>.bind (.elem (fQ hb) (.ite (λc=>.pure (.done (.ret ((q.x z).1.fst l za (ae (de _ _) zb) c)))) λc=>.ite (λö=>.pure (.done (.go ((q.x z).2 c)))) λö=>.pure (.yield (.mk ((q.x z).2 c))))))))))))
theorem L1 (H:MH R a b) {s:T5} (ha:0<a.size) (h:Go (sM R a b m) s):V (hiO a b s) (St (Gx (Rh R) λ_ _ _=>False) (Go (sM R a b (m+1)))):=
 h.on λna nb out g q=>.loop (λj=>Go (sM R a b (m+j))) (Gx (Rh R) (sM R a b (m+1))) (λj s _ q=>(L3 H q).mono λr h=>h.mono (λc h=>h.on (λ_ _ _ _ _ h=>.ret h) λ_ _ _ _ h=>.go (h.mono (aK (bG ..)))) λ_ h=>h)
  (λs q=>q.on λ_ _ _ _ q=>.go (q.mono (hG (ae ha (bG ..)) _))) (.mk q) λs q=>q.on (λ_ _ _ _ _ q=>.sS (.pure (.done (.ret q)))) λ_ _ _ _ q=>
   .sN (.bind (.rule (.loop (λj=>Go (sM R a b (m+1))) (Gx (Rh R) (sM R a b (m+1))) (λj s _ q=>L2 H q) (λs q=>q.on λ_ _ _ _ q=>.go q) (.mk q) λs q=>
    q.on (λ_ _ _ _ _ q=>.sS (.pure (.done (.ret q)))) λ_ _ _ _ q=>.sN (.bind (.setG (.pure (.yield (.mk q))))))))
noncomputable def wl:Array Keyed->Array Keyed->SM (Array Keyed):=sortPriv%PySem.Builtin.mergeHi
theorem Bn (H:MH R a b) (e:PH R a b a.size b.size #[]) (ha:0<a.size) (hb:0<b.size) (f:kl (ga b (b.size-1)) (ga a (a.size-1))=true):V (wl a b) (Rh R):=by
 refine V.cast (m:=hiZ a b) ?_ (by kernel_rfl);have e:=e.y1 ha (au _) hb (au _) f;refine .bind (.rule (.bind (.elem (fQ (pl ha (au _))) (.ite (λc=>.pure (e.done c)) λc=>.ite (λd=>.pure (e.fst (by cases H;assumption) (de _ _) (au _) d)) λd=>.bind (.get λst=>?_)))));exact .loop (λi=>Go (sM R a b i)) (Gx (Rh R) λ_ _ _=>False) (λi s _ q=>L1 H ha q)
  (λs q=>q.on λ_ _ _ _ q=>by induction q with|mk ha za hb zb w e=>exact absurd w (d3 0x2a928ba922288181011 hb))
  (.mk (.mk (Db c (aL _)) (de _ _) (Db d hb) (au _) (b7 0x1a92a800220819108221 (ac (n:=a.size) (m:=1) (cy 0x181008180011 ha))) e)) λs q=>q.on (λ_ _ _ _ _ q=>.sS (.pure q)) λ_ _ _ _ q=>q.elim
end
open Mine.Internal (cy bH b7 d3 jx px yt HU)
open PySem PySem.W PyProof.Rows PySem.Calls
noncomputable abbrev nk (x y:Keyed):Prop:=kl y x=false
theorem ot {x y z:Keyed} (h:nk x y) (q:nk y z):nk x z:=KeyOrd.kle_trans (O:=strKind.toKeyOrd) (b:=ky y) h q
noncomputable def Mok (l M:List Keyed):Prop:=M.Perm l/\M.Pairwise nk
section
variable {c:Keyed->Keyed->Bool} {X Y M:List Keyed}
theorem HL (t:∀x y z,c y x=false->c z y=false->c z x=false) (s:∀x y,c x y=true->c y x=false) (hX:X.Pairwise λx y=>c y x=false) (hY:Y.Pairwise λx y=>c y x=false):
  (mg c X Y).Pairwise λx y=>c y x=false:=by
 have z:∀{l:List Keyed},(l.Pairwise λx y=>c y x=false)↔l.Pairwise λx y=>(λx y=>!c y x) x y=true:=λ{l}=>by simp only[bl]
 refine z.mpr (List.pairwise_merge (λx y w h q=>?_) (λx y=>?_) _ _ (z.mp hX) (z.mp hY))
 ·exact(bl _).mpr (t _ _ _ ((bl _).mp h) ((bl _).mp q))
 ·induction e:c y x with
  |false=>rfl
  |true=>simp only[s _ _ e];rfl
theorem LA (hX:X.Pairwise nk) (hY:Y.Pairwise nk) (e:M=mg kl X Y):Mok (X++Y) M:=
 e▸⟨zc _,HL (λö ö ö h q=>ot h q) (λö ö h=>wy h) hX hY⟩
theorem LB (hX:X.Pairwise nk) (hY:Y.Pairwise nk) (e:M.reverse=mg kr Y.reverse X.reverse):Mok (X++Y) M:=by
 have p:M.reverse.Perm (Y.reverse++X.reverse):=e▸zc _;have w:M.reverse.Pairwise λx y=>kr y x=false:=e▸HL (c:=kr) (λö ö ö h q=>ot q h) (λö ö h=>wy h) (nj.mpr hY) (nj.mpr hX);rw[<-cY]at p;exact⟨(ES _).symm.trans (p.trans (ES _)),nj.mp w⟩
end
section
variable {X a:Array Keyed} {i j k n m b:Nat} {x:Keyed}
theorem pP (h:jH a 0 a.size):a.toList.Pairwise nk:=by
 rw[vB];intro i j hi hj hij;have:=h i j (cu hij) hj;have e:∀k (h:k<a.size),ga a (0+k)=a[k]:=λk h=>by unfold ga;rw[aV,getElem?_pos a k h];rfl
 rwa [e _ hi,e _ hj]at this
theorem IJ (h:a.toList.Pairwise nk):jH a 0 a.size:=by
 rw[vB]at h;intro i j hij hj;have e:∀k (h:k<a.size),ga a (0+k)=a[k]:=λk h=>by unfold ga;rw[aV,getElem?_pos a k h];rfl
 rw[e _ hj,e _ (bf hij hj)];rcases Nat.lt_or_eq_of_le hij with q|rfl
 ·exact h i j _ hj q
 ·exact KeyOrd.kle_refl (O:=strKind.toKeyOrd) _
theorem wE (h:i<m-k) (q:m<=X.size):ga (X.extract k m) i=ga X (k+i):=by
 unfold ga;rw[xz,if_pos (by exact(aN (m) (k)).elim (λw0=>b7 0x1a81810092819812 h (br w0)) (λw0=>(aN (m) (X.size)).elim (λw1=>px 0x1d817fcad227fbc281ba922819814 h (ac w0) (bS w1) (ac (n:=min m X.size) (m:=k) (b7 0x1a807f9a2819802 w0 (bS w1)))) (λw1=>yt 0x1e817fdce227fbd281ac92281ba0819815 h q (ac w0) (c6 w1) (ac (n:=min m X.size) (m:=k) (d3 0x1ba07f9b2818a0819803 q w0 (c6 w1))))))]
theorem j4 (q:m<=X.size):(X.extract k m).size=m-k:=by rw[Array.size_extract,bS q]
theorem Dt (K:Ks X) (q:m<=X.size):Ks (X.extract k m):=λi hi=>by
 rw[j4 q]at hi;rw[wE hi q];exact K _ ((aN (m) (k)).elim (λw0=>d3 0xb8a21810092819812 hi (br w0)) (λw0=>jx 0x19ac21818cb2281ba1819803 q hi (ac w0)))
theorem rc (h:jH X b n) (z:b<=k) (w:m<=b+n) (q:m<=X.size):jH (X.extract k m) 0 (X.extract k m).size:=λi j hi hj=>by
 rw[j4 q]at hj;rw[aV,aV,wE hj q,wE (by exact b7 0x1a8181a91819802 hi hj) q];have:=h (k-b+i) (k-b+j) (b7 0x19a28a20819801 hi) ((aN (m) (k)).elim (λw0=>d3 0xb8a21810092819812 hj (br w0)) (λw0=>yt 0x1abe2181d9e22818dc2281cb181a92804 w hj (ac w0) (ac (n:=k) (m:=b) (bH 0x1980819801 z))))
 rwa [show b+(k-b+i)=k+i by exact am (d3 0x1ba2b8292081a98221 (ac (n:=k) (m:=b) (bH 0x1980819801 z))) (d3 0x1b8292ba207fa98221 (ac (n:=k) (m:=b) (bH 0x1980819801 z))),show b+(k-b+j)=k+j by exact am (d3 0x1ba2b8292081a98221 (ac (n:=k) (m:=b) (bH 0x1980819801 z))) (d3 0x1b8292ba207fa98221 (ac (n:=k) (m:=b) (bH 0x1980819801 z)))]at this
noncomputable def put (X:Array Keyed) (b:Nat) (l:List Keyed):Array Keyed:=l.zipIdx.foldl (λa x=>a.setIfInBounds (b+x.2) x.1) X
theorem I3 (b:Nat):∀(l:List Keyed) (k:Nat) (X:Array Keyed),b+k+l.length<=X.size->
  ((l.zipIdx k).foldl (λa x=>a.setIfInBounds (b+x.2) x.1) X).toList=X.toList.take (b+k)++l++X.toList.drop (b+k+l.length):=by
 intro l
 induction l with
 |nil=>intro k X _;simp
 |cons p l ih=>
  intro k X h;rw[aj]at h;rw[Hp,tI,ih _ _ (by rw[Array.size_setIfInBounds];exact d3 0x1ba1092822081b10a2982201 h),Array.toList_setIfInBounds,aj];have z:b+k<X.toList.length:=by rw[ey];exact d3 0x1b982181b10a2982201 h
  rw[List.drop_set_of_lt (by exact b7 0x1a109282298210),<-lS b k 1,qr (by rw[dH];exact z),List.getElem_set_self,List.take_set_of_le (au _)];simp only[aq,bC,tG]
  congr 4;exact am (b7 0x110a29822a109822200) (b7 0x1a109822210a2982200)
theorem CV {l:List Keyed} (h:b+l.length<=X.size):(put X b l).toList=X.toList.take b++l++X.toList.drop (b+l.length):=I3 b l 0 X h
section
variable {n1 n2 nb:Nat} {M:List Keyed}
inductive KN (X:Array Keyed) (n1 n2 k nb:Nat):Prop
 |mk (z:X.size=n1+n2) (hk:k<=n1) (hb:nb<=n2) (s1:jH X 0 n1) (s2:jH X n1 n2) (lo:∀i,i<k->nk (ga X i) (ga X n1)) (hi:∀j,nb<=j->j<n2->nk (ga X (n1-1)) (ga X (n1+j)))
theorem KN.cross (h:KN X n1 n2 k nb) {i j:Nat} (q:i<=j) (w:j<n1+n2) (c:i<k\/n1<=i\/j<n1\/n1+nb<=j):nk (ga X i) (ga X j):=by
 induction h with|mk z hk hb s1 s2 lo hi=>
 have t1:∀i j,i<=j->j<n1->nk (ga X i) (ga X j):=λi j q w=>aV i▸aV j▸s1 i j q w;have t2:∀i j,n1<=i->i<=j->j<n1+n2->nk (ga X i) (ga X j):=λi j p q w=>by
  have:=s2 (i-n1) (j-n1) (jx 0x1ca07f9bc22818ba22819803 q (ac (n:=i) (m:=n1) (bH 0x1980819801 p)) (ac (n:=j) (m:=n1) (b7 0x1a8081a90819802 p q))) (d3 0x1ab18189b2281a92812 w (ac (n:=j) (m:=n1) (b7 0x1a8081a90819802 p q)))
  rwa [show n1+(i-n1)=i by exact am (b7 0x1a892081a98221 (ac (n:=i) (m:=n1) (bH 0x1980819801 p))) (b7 0x1892a07fa98221 (ac (n:=i) (m:=n1) (bH 0x1980819801 p))),show n1+(j-n1)=j by exact am (b7 0x1a892081a98221 (ac (n:=j) (m:=n1) (b7 0x1a8081a90819802 p q))) (b7 0x1892a07fa98221 (ac (n:=j) (m:=n1) (b7 0x1a8081a90819802 p q)))]at this
 by_cases d:j<n1
 ·exact t1 _ _ q d
 ·by_cases e:n1<=i
  ·exact t2 _ _ e q w
  ·by_cases f:i<k
   ·exact ot (lo i f) (t2 _ _ (au _) (bH 0x1890819891 d) w)
   ·have:=hi (j-n1) (Nat.le_sub_of_add_le' ((c.resolve_left f).resolve_left e |>.resolve_left d)) (d3 0x1ab18189b2281a92812 w (ac (n:=j) (m:=n1) (bH 0x1890819891 d)));rw[show n1+(j-n1)=j by exact am (b7 0x1a892081a98221 (ac (n:=j) (m:=n1) (bH 0x1890819891 d))) (b7 0x1892a07fa98221 (ac (n:=j) (m:=n1) (bH 0x1890819891 d)))]at this;exact ot (t1 i (n1-1) (b7 0x1a907f810a22819882 e (ac (n:=n1) (m:=1) (bH 0x18100819881 e))) (bH 0x1981819108221 (ac (n:=n1) (m:=1) (bH 0x18100819881 e)))) this
theorem KN.put (h:KN X n1 n2 k nb) (hM:Mok ((X.extract k n1).toList++(X.extract n1 (n1+nb)).toList) M):(put X k M).Perm X/\jH (put X k M) 0 (n1+n2):=by
 have⟨z,hk,hb,s1,s2⟩:X.size=n1+n2/\k<=n1/\nb<=n2/\jH X 0 n1/\jH X n1 n2:=by cases h;exact⟨‹_›,‹_›,‹_›,‹_›,‹_›⟩
 have zM:k+M.length=n1+nb:=by
  rw[hM.1.length_eq,af,ey,ey,j4 (by exact b7 0x18907fa92821 z),j4 (by exact d3 0x18b92081ab07fa92822 z hb)];exact am (jx 0x1ca2b8292081ca2ab2281a98222 (ac (n:=n1) (m:=k) (bH 0x1980819801 hk)) (ac (n:=n1+nb) (m:=n1) (bH 0x1982800))) (jx 0x1b8292ca207fca2ab227fa98222 (ac (n:=n1) (m:=k) (bH 0x1980819801 hk)) (ac (n:=n1+nb) (m:=n1) (bH 0x1982800)))
 have e:=CV (X:=X) (b:=k) (l:=M) (px 0x18dc2081b92dc2281ab07fa92823 z hb zM);rw[zM]at e;have eT:X.toList.take k=(X.extract 0 (0+k)).toList:=by rw[e8,dM,aV];rfl
 have pp:(So.Internal.put X k M).Perm X:=by
  rw[un,e];have w:=(hM.1.append_left (X.toList.take k)).append_right (X.toList.drop (n1+nb));refine w.trans (List.Perm.of_eq ?_);have a1:=uV (a:=X) k (n1-k);have a2:=uV (a:=X) n1 nb;rw[show k+(n1-k)=n1 by exact am (b7 0x1a892081a98221 (ac (n:=n1) (m:=k) (bH 0x1980819801 hk))) (b7 0x1892a07fa98221 (ac (n:=n1) (m:=k) (bH 0x1980819801 hk)))]at a1;rw[aq,aq];show X.toList.take k++(_++(_++la X (n1+nb)))=_;rw[<-a2,<-a1];exact dR _ _
 refine⟨pp,?_⟩;rw[<-z,<-pp.size_eq];refine IJ ?_;rw[e,aq,eT];have mM:∀x,x∈M->∃j,k<=j/\j<n1+nb/\x=ga X j:=λx hx=>by
  rcases cD.mp (hM.1.mem_iff.mp hx)with q|q
  ·rw[show n1=k+(n1-k) by exact am (b7 0x1892a07fa98221 (ac (n:=n1) (m:=k) (bH 0x1980819801 hk))) (b7 0x1a892081a98221 (ac (n:=n1) (m:=k) (bH 0x1980819801 hk)))]at q;obtain⟨j,hj,e⟩:=py q;exact⟨k+j,bH 0x1982800,jx 0x1cb28a2181ba922819812 hj (ac (n:=n1) (m:=k) (bH 0x1980819801 hk)),e⟩
  ·obtain⟨j,hj,e⟩:=py q;exact⟨n1+j,b7 0x1a9280819801 hk,b7 0x19a28a21819811 hj,e⟩
 refine B5.mpr ⟨pP (rc s1 (au _) (bH 0x1900280020819801 hk) (d3 0x18b0020819b07fa92822 z hk)),B5.mpr ⟨hM.2,?_,?_⟩,?_⟩
 ·have:=pP (rc (k:=n1+nb) (m:=X.size) s2 (bH 0x1982800) (b7 0x1a928081a92821 z) (au _))
  rwa [nQ]at this
 ·intro x hx y hy;obtain⟨i,h1,h2,rfl⟩:=mM x hx;obtain⟨j,hj,rfl⟩:=rN hy;exact h.cross (d3 0x1ba9228081a92811 h2) (jx 0x1a92cb9221818cb922181a92822 z hj) (.inr (.inr (.inr (bG _ _))))
 ·intro x hx y hy;obtain⟨i,h1,rfl⟩:=py hx;rcases cD.mp hy with q|q
  ·obtain⟨j,h2,h3,rfl⟩:=mM y q;exact h.cross (b7 0x1a8002081a90819812 h1 h2) (d3 0x19b2a1818b2a1819802 hb h3) (.inl (bH 0x1980021819811 h1))
  ·obtain⟨j,hj,rfl⟩:=rN q;exact h.cross (jx 0x1cb922a0020818a1819802 hk h1) (jx 0x1a92cb9221818cb922181a92822 z hj) (.inl (bH 0x1980021819811 h1))
noncomputable def mF (k:Nat) (M:Array Keyed):SM Bool:=modify (λs=>setArr s (put (arrOf s) (0+k) M.toList))>>=λö=>get>>=λs=>pure (failedOf s).isNone
noncomputable def mA (X:Array Keyed) (n1 n2 w g:Nat):SM Bool:=set (SortSt.mk' oneType' X #[(0,n1+n2,w)] g none)>>=λö=>elem' X n1>>=λp=>j1 false p X 0 n1 0>>=λr=>oS r (pure false) λk=>
 if(n1-k==0)=true then pure true else elem' X (0+k+(n1-k)-1)>>=λq=>j1 true q X n1 n2 (n2-1)>>=λr=>oS r (pure false) λnb=>
  if(nb==0)=true then pure true else if n1-k<=nb then wk (X.extract (0+k) n1) (X.extract n1 (n1+nb))>>=mF k else wl (X.extract (0+k) n1) (X.extract n1 (n1+nb))>>=mF k
end
section
variable {prog:Program} {w:World} {A:bd} {E:ag->ak->Prop} {s:ak} {α β:Type} {n1 n2 pw g:Nat} {p:Array (Nat×Nat×Nat)}
theorem uq {m m':SM α} {Q:α->SortSt->Prop} {st:SortSt} (h:wpS (model prog w) A E s m Q st) (e:m'=m):wpS (model prog w) A E s m' Q st:=e▸h
theorem V.use {m:SM α} {f:α->SM β} {R:α->Prop} {Q:β->SortSt->Prop} (v:V m R) (h:∀a g,R a->wpS (model prog w) A E s (f a) Q (SortSt.mk' oneType' X p g none)):
  wpS (model prog w) A E s (m>>=f) Q (SortSt.mk' oneType' X p g none):=
 wpS_bind (wpS_mono (v prog w A E s X p g) λa st q=>q.1.elim λg' e=>e▸h a g' q.2)
theorem kg {c:Prop} [Decidable c] {m m':SM α} {Q:α->SortSt->Prop} {st:SortSt} (h:c->wpS (model prog w) A E s m Q st) (h':¬c->wpS (model prog w) A E s m' Q st):wpS (model prog w) A E s (if c then m else m') Q st:=by
 by_cases q:c
 ·rw[if_pos q];exact h q
 ·rw[if_neg q];exact h' q
theorem Hu {a:α} {d:SM β} {f:α->SM β} {Q:β->SortSt->Prop} {st:SortSt} (h:wpS (model prog w) A E s (f a) Q st):wpS (model prog w) A E s (So.Internal.oS (some a) d f) Q st:=by
 unfold So.Internal.oS;exact h
theorem mF_w {Q:Bool->SortSt->Prop} {M:Array Keyed} (h:Q true (SortSt.mk' oneType' (put X k M.toList) p g none)):wpS (model prog w) A E s (mF k M) Q (SortSt.mk' oneType' X p g none):=
 wpS_bind (wpS_modify (wpS_bind (wpS_get (wpS_pure ((aV k).symm▸h)))))
theorem Aa {a:Array Keyed}:ha a a.size=a.toList.reverse:=by unfold ha;rw[iQ (by simp)]
theorem Bo {Q:Bool->SortSt->Prop} (z:X.size=n1+n2) (K:Ks X) (s1:jH X 0 n1) (s2:jH X n1 n2) (h1:0<n1) (h2:0<n2)
  (h:∀X' g',X'.Perm X->jH X' 0 X.size->Q true (SortSt.mk' oneType' X' #[(0,n1+n2,pw)] g' none)):
  wpS (model prog w) A E s (mergeAt' 0) Q (SortSt.mk' oneType' X #[(0,n1,pw),(n1,n2,0)] g none):=by
 refine wpS_bind (wpS_get (uq (m:=mA X n1 n2 pw g) ?_ (by kernel_rfl)));have l1:n1<X.size:=b7 0x189181a0017fa92822 z h2;refine wpS_bind (wpS_modify ?_);refine V.use (V.elem (Q:=λp=>p=ga X n1) (fQ l1) rfl) λö g e=>?_;subst e;refine V.use (kL (Q:=λr=>∃k,r=some k/\Bk _ n1 k k) (El K (K _ l1) (b7 0x18900207fa92821 z) s1) h1 λk bk=>⟨k,rfl,bk⟩) λr g e=>?_;obtain⟨k,rfl,bk⟩:=e
 induction bk with|mk _ hk t f=>
 have lo:∀i,i<k->nk (ga X i) (ga X n1):=λi hi=>(bl _).mp (aV i▸t i hi);have up:∀i,k<=i->i<n1->kl (ga X n1) (ga X i)=true:=λi hi h=>(kq _).mp (aV i▸f i hi h);have whole:∀{k nb},KN X n1 n2 k nb->(k=n1\/nb=0)->jH X 0 X.size:=λ{k nb} T q i j hi hj=>by
  rw[aV,aV];refine T.cross hi (z▸hj) ?_;exact q.elim (λq=>(Nat.lt_or_ge i n1).elim (λh=>.inl (q▸h)) λh=>.inr (.inl h)) λq=>(Nat.lt_or_ge j n1).elim (λh=>.inr (.inr (.inl h))) λh=>.inr (.inr (.inr (q▸h)))
 refine Hu (kg (λc=>wpS_pure (h _ _ (.refl _) (whole (k:=n1) (nb:=n2) (.mk z (au _) (au _) s1 s2 (λi hi=>lo i ?_) λj q w=>?_) (.inl rfl)))) λc=>?_)
 ·have:=eq_of_beq c;exact d3 0x1b817f9ba228100a2819813 hi this (ac (n:=n1) (m:=k) (bH 0x1980819801 hk))
 ·exact aw (bH 0x781891819802 q w)
 have c:=Nat.lt_of_sub_pos (Db c (aL _));rw[show 0+k+(n1-k)-1=n1-1 by exact am ((aN (0+k+(n1-k)) (1)).elim (λw0=>bH 0x19808100821 (br w0)) (λw0=>jx 0x1c807fb10c2281b9a2281a90022108223 (ac w0) (ac (n:=n1) (m:=k) (bH 0x1980819801 hk)) (ac (n:=n1) (m:=1) (cy 0x181008180011 h1)))) ((aN (n1) (k)).elim (λw0=>d3 0xba081890819812 c w0) (λw0=>jx 0x1bc081a10c227f89002210b227fa98223 (ac w0) (ac (n:=0+k+(n1-k)) (m:=1) (b7 0x19a00221007f8a9228180012 h1 (ac w0))) (ac (n:=n1) (m:=1) (cy 0x181008180011 h1))))];have l2:n1-1<X.size:=d3 0x18b181910b227fa92822 z (ac (n:=n1) (m:=1) (cy 0x181008180011 h1));refine V.use (V.elem (Q:=λp=>p=ga X (n1-1)) (fQ l2) rfl) λö g e=>?_;subst e;refine V.use (kL (Q:=λr=>∃k,r=some k/\Bk _ n2 k k) (Ek K (K _ l2) (b7 0x18a9207fa92821 z) s2) (pl h2 (au _)) λk bk=>⟨k,rfl,bk⟩) λr g e=>?_;obtain⟨nb,rfl,bk⟩:=e
 induction bk with|mk _ hb t2 f2=>
 have T:KN X n1 n2 k nb:=.mk z hk hb s1 s2 lo f2;refine Hu (kg (λc=>wpS_pure (h _ _ (.refl _) (whole T (.inr (eq_of_beq c))))) λc'=>?_);have c':=Db c' (aL _);rw[aV];have za:(X.extract k n1).size=n1-k:=j4 (b7 0x18907fa92821 z);have zb:(X.extract n1 (n1+nb)).size=nb:=by rw[j4 (by exact d3 0x18b92081ab07fa92822 z hb)];exact am (b7 0x1a8081a9298221 (ac (n:=n1+nb) (m:=n1) (bH 0x1982800))) (b7 0x18a07fa9298221 (ac (n:=n1+nb) (m:=n1) (bH 0x1982800)))
 have ea:∀i,i<n1-k->ga (X.extract k n1) i=ga X (k+i):=λi q=>wE q (b7 0x18907fa92821 z);have eb:∀i,i<nb->ga (X.extract n1 (n1+nb)) i=ga X (n1+i):=λi q=>wE (d3 0x1a817f9b2ba22819812 q (ac (n:=n1+nb) (m:=n1) (bH 0x1982800))) (d3 0x18b92081ab07fa92822 z hb);have sa:=rc (k:=k) (m:=n1) s1 (aL _) (cy 0x18002800) (b7 0x18907fa92821 z);have sb:=rc (k:=n1) (m:=n1+nb) s2 (au _) (b7 0x19a28a20819801 hb) (d3 0x18b92081ab07fa92822 z hb);have ka:Ks (X.extract k n1):=Dt K (b7 0x18907fa92821 z);have kb:Ks (X.extract n1 (n1+nb)):=Dt K (d3 0x18b92081ab07fa92822 z hb);have la:Las (X.extract k n1) (X.extract n1 (n1+nb)):=λj hj=>by
  rw[zb]at hj;rw[eb _ hj,za,ea _ (by exact(aN (n1) (k)).elim (λw0=>d3 0xba181890819812 c w0) (λw0=>bH 0x1981819108221 (ac (n:=n1-k) (m:=1) (b7 0x1a1007f98a22819812 c (ac w0))))),show k+(n1-k-1)=n1-1 by exact am ((aN (n1) (k)).elim (λw0=>d3 0xba82081890819812 c w0) (λw0=>jx 0x1cb9207fa10c2281810b2281a98223 (ac w0) (ac (n:=n1-k) (m:=1) (b7 0x1a1007f98a22819812 c (ac w0))) (ac (n:=n1) (m:=1) (cy 0x181008180011 h1)))) ((aN (n1) (k)).elim (λw0=>d3 0xb82a081890819812 c w0) (λw0=>jx 0x1b92c081a10c227f810b227fa98223 (ac w0) (ac (n:=n1-k) (m:=1) (b7 0x1a1007f98a22819812 c (ac w0))) (ac (n:=n1) (m:=1) (cy 0x181008180011 h1))))];exact t2 j hj
 have fs:Fst (X.extract k n1) (X.extract n1 (n1+nb)):=λj hj=>by
  rw[za]at hj;rw[eb _ c',ea _ hj];exact up _ (bH 0x1982800) (d3 0x1b8a2181ba922819812 hj (ac (n:=n1) (m:=k) (bH 0x1980819801 hk)))
 have done:∀{M:Array Keyed} {g},Mok ((X.extract k n1).toList++(X.extract n1 (n1+nb)).toList) M.toList->wpS (model prog w) A E s (mF k M) Q (SortSt.mk' oneType' X #[(0,n1+n2,pw)] g none):=λhM=>
  mF_w (h _ _ (T.put hM).1 (z▸(T.put hM).2))
 exact kg (λö=>V.use (Bm (.mk ka kb sa sb la) rfl (d3 0x1a0017f98b227fba2819813 c za (ac (n:=n1) (m:=k) (bH 0x1980819801 hk))) (bH 0x190017f8928180012 c' zb) (fs 0 (d3 0x1a0017f98b227fba2819813 c za (ac (n:=n1) (m:=k) (bH 0x1980819801 hk))))) λM g e=>done (LA (pP sa) (pP sb) e))
  λö=>V.use (Bn (.mk ka kb sa sb fs) rfl (b7 0x29001818a87fa928180013 c' za ‹_›) (bH 0x190017f8928180012 c' zb) (la _ (bH 0x1981819108221 (ac (n:=(X.extract n1 (n1+nb)).size) (m:=1) (bH 0x191007f8928180012 c' zb))))) λM g e=>done (LB (pP sa) (pP sb) (e.trans (by rw[Aa,Aa];rfl)))
end
end
open Mine.Internal (cy bH b7 d3 jx px yt HU)
open PySem PySem.W PyProof.Rows PySem.Calls
section
variable {P:Array Keyed} {pp:Array (Nat×Nat×Nat)} {α β γ:Type}
noncomputable def sh (P:Array Keyed) (pp:Array (Nat×Nat×Nat)) (st:SortSt):SortSt:=SortSt.mk' (kindOf st) (P++arrOf st) pp (gallopOf st) (failedOf st)
noncomputable def qm (P:Array Keyed) (pp:Array (Nat×Nat×Nat)) (m m':SM α):Prop:=∀st,m'.run (sh P pp st)=(λr=>(r.1,sh P pp r.2)) <$> m.run st
inductive bW (P:Array Keyed) (pp:Array (Nat×Nat×Nat)) (R:α->Prop) (m m':SM α):Prop
 |mk (h:∀(γ:Type) (K K':α->SM γ),(∀a,R a->qm P pp (K a) (K' a))->qm P pp (m>>=K) (m'>>=K'))
theorem bW.go {R:α->Prop} {m m':SM α} (h:bW P pp R m m'):∀(γ:Type) (K K':α->SM γ),(∀a,R a->qm P pp (K a) (K' a))->qm P pp (m>>=K) (m'>>=K'):=by
 induction h with|mk h=>exact h
variable {R S:α->Prop}
theorem bW.of {m m':SM α} (h:qm P pp m m'):bW P pp (λö=>True) m m':=.mk λγ K K' k st=>by
 rw[StateT.run_bind,StateT.run_bind,h st,bind_map_left,map_bind];exact congrArg _ (funext λr=>k _ trivial _)
theorem bW.pure {a:α} (h:R a):bW P pp R (pure a) (pure a):=.mk λγ K K' k=>by
 rw[pure_bind,pure_bind];exact k a h
theorem bW.bind {T:β->Prop} {m m':SM α} {f f':α->SM β} (h:bW P pp R m m') (k:∀a,R a->bW P pp T (f a) (f' a)):bW P pp T (m>>=f) (m'>>=f'):=.mk λγ K K' q=>by
 rw[bind_assoc,bind_assoc];exact h.go _ _ _ λa ha=>(k a ha).go _ K K' q
theorem bW.ite {c:Prop} [Decidable c] {m m' k k':SM α} (h:c->bW P pp R m m') (h':¬c->bW P pp R k k'):bW P pp R (if c then m else k) (if c then m' else k'):=by
 by_cases q:c
 ·rw[if_pos q,if_pos q];exact h q
 ·rw[if_neg q,if_neg q];exact h' q
inductive JS (J:β->Prop):ForInStep β->Prop
 |done {c:β} (h:J c):JS J (.done c)
 |yield {c:β} (h:J c):JS J (.yield c)
theorem bW.loop {a b:Nat} {f f':Nat->β->SM (ForInStep β)} (J:β->Prop) (h:∀x c,J c->bW P pp (JS J) (f x c) (f' x c)) {c:β} (hc:J c):bW P pp J (forIn [a:b] c f) (forIn [a:b] c f'):=by
 rw[Std.Legacy.Range.forIn_eq_forIn_range',Std.Legacy.Range.forIn_eq_forIn_range'];generalize List.range' _ _ _=l
 induction l generalizing c with
 |nil=>rw[KA,KA];exact bW.pure hc
 |cons x l ih=>
  rw[tH,tH];refine bW.bind (h x c hc) λr hr=>?_
  induction hr with
  |done q=>exact bW.pure q
  |yield q=>exact ih q
theorem bW.run {m m':SM α} (h:bW P pp R m m'):qm P pp m m':=by
 have:=h.go _ (λa=>Pure.pure a) (λa=>Pure.pure a) λa ö st=>by rw[StateT.run_pure,StateT.run_pure,map_pure]
 rwa [bind_pure,bind_pure]at this
theorem qm.bind {m m':SM α} {f f':α->SM β} (h:qm P pp m m') (k:∀a,qm P pp (f a) (f' a)):qm P pp (m>>=f) (m'>>=f'):=(bW.of h).go _ _ _ λa ö=>k a
theorem qm.pure {a:α}:qm P pp (pure a) (pure a):=λst=>by rw[StateT.run_pure,StateT.run_pure,map_pure]
theorem qm.lift {m:Sem α}:qm P pp (liftM m:SM α) (liftM m):=λst=>by
 show(StateT.lift m).run _=_ <$> (StateT.lift m).run _;rw[StateT.run_lift,StateT.run_lift,map_bind];rfl
theorem qm.get {f f':SortSt->SM α} (h:∀st,qm P pp (f st) (f' (sh P pp st))):qm P pp (get>>=f) (get>>=f'):=λst=>by
 rw[StateT.run_bind,StateT.run_bind,StateT.run_get,StateT.run_get,pure_bind,pure_bind];exact h st st
theorem qm.modify {f f':SortSt->SortSt} (h:∀st,f' (sh P pp st)=sh P pp (f st)):qm P pp (modify f:SM PUnit) (modify f'):=λst=>by
 rw[StateT.run_modify,StateT.run_modify,map_pure,h]
theorem qm.lt {x y:Keyed}:qm P pp (lt' x y) (lt' x y):=by
 rw[lt'_eq];refine .get λst=>.bind .lift λr=>?_
 induction r with
 |ok b=>exact .pure
 |error e=>exact .bind (.modify λst=>rfl) λö=>.pure
theorem qm.elem {a:Array Keyed} {i:Nat}:qm P pp (elem' a i) (elem' (P++a) (P.size+i)):=by
 rw[elem'_eq,elem'_eq,jL (bG _ _),c0];cases a[i]? with
 |none=>exact .lift
 |some p=>exact .pure
theorem kH {i j i' j':Nat} (h:i'=P.size+i) (q:j'=P.size+j):bW P pp (λö=>True) (ltAt' i j) (ltAt' i' j'):=by
 subst h q;refine bW.of ?_;rw[ltAt'_eq,ltAt'_eq];exact .get λst=>.bind .elem λx=>.bind .elem λy=>.lt
theorem Cy {xs:Array Keyed} {a b:Nat}:(P++xs).swapIfInBounds (P.size+a) (P.size+b)=P++xs.swapIfInBounds a b:=by
 by_cases h:a<xs.size/\b<xs.size
 ·have e:(P++xs).size=P.size+xs.size:=kT;have l1:∀c,(P++xs)[P.size+c]?=xs[c]?:=λc=>by rw[jL (bG _ _),c0]
  refine Array.ext_getElem? λk=>?_;rw[getElem?_swapIB (by exact d3 0x1a8b217f9b2a2819812 h.1 e) (by exact d3 0x1a8b217f9b2a2819812 h.2 e),l1,l1,zi,zi];by_cases q:k<P.size
  ·rw[if_neg (by exact λe_=>b7 0x7818a922819812 q e_),if_neg (by exact λe_=>b7 0x7818a922819812 q e_),if_pos q,if_pos q]
  ·rw[if_neg q,if_neg q,getElem?_swapIB h.1 h.2];obtain⟨k,rfl⟩:=y9 (du q);simp only[Nat.add_left_cancel_iff,c0]
 ·rw[vD,vD];have e:(P++xs).size=P.size+xs.size:=kT;by_cases h1:a<xs.size
  ·rw[dif_pos (by exact d3 0x18b92181ab17fa92822 e h1),dif_pos h1,dif_neg λq=>h ⟨h1,Nat.lt_of_add_lt_add_left (e▸q)⟩,dif_neg λq=>h ⟨h1,q⟩]
  ·rw[dif_neg (by exact d3 0x18b92981ab981a92822 e h1),dif_neg h1]
theorem wH {p q p' q':Nat->Nat}:∀(l:List Nat),(∀k,k∈l->p' k=P.size+p k/\q' k=P.size+q k)->∀xs:Array Keyed,
  l.foldl (λa k=>a.swapIfInBounds (p' k) (q' k)) (P++xs)=P++l.foldl (λa k=>a.swapIfInBounds (p k) (q k)) xs:=by
 intro l
 induction l with
 |nil=>intro _ xs;rfl
 |cons k l ih=>
  intro h xs;rw[tI,tI,(h k (.head _)).1,(h k (.head _)).2,Cy];exact ih (λk hk=>h k (.tail _ hk)) _
theorem half {i j k:Nat} (h:k<(j-i)/2):1+k<=j:=by omega
theorem e0 (p n:Nat):p+n=p+(0+n):=congrArg (p+ ·) (aV n).symm
theorem e1 {p n k:Nat} (h:k<=n):p+n-k=p+(0+n-k):=by rw[aV,Ho h]
theorem qB {i j i' j':Nat} (h:i'=P.size+i) (q:j'=P.size+j):bW P pp (λö=>True) (reverseSlice' i j) (reverseSlice' i' j'):=by
 subst h q;refine bW.of ?_;rw[reverseSlice'_eq,reverseSlice'_eq];refine .modify λst=>?_;have e:mirror (P++arrOf st) (P.size+i) (P.size+j) ((P.size+j-(P.size+i))/2)=P++mirror (arrOf st) i j ((j-i)/2):=by
  rw[Ce];exact wH _ (λk hk=>⟨lS ..,by rw[Cc,Cc,Ho (half (eQ.mp hk))]⟩) _
 exact congrArg (SortSt.mk' (kindOf st) · pp (gallopOf st) (failedOf st)) e
theorem De {i j i' j':Nat} (h:i'=P.size+i) (q:j'=P.size+j):bW P pp (λö=>True) (moveDown' i j) (moveDown' i' j'):=by
 subst h q;refine bW.of ?_;rw[moveDown'_eq,moveDown'_eq];refine .modify λst=>?_;have e:bubble (P++arrOf st) (P.size+i) (P.size+i-(P.size+j))=P++bubble (arrOf st) i (i-j):=by
  rw[Ce];exact wH _ (λk hk=>by have:=eQ.mp hk;exact⟨am ((aN (i) (k)).elim (λw0=>px 0xdc2b081a90818a0819813 this w0 (de _ _)) (λw0=>jx 0x18c2b081ac29b227fa98222 (ac w0) (ac (n:=P.size+i) (m:=k) (b7 0x19a280819801 w0)))) ((aN (i) (k)).elim (λw0=>px 0xdcb2081a90818a0819813 this w0 (de _ _)) (λw0=>jx 0x1b8c207fac29b2281a98222 (ac w0) (ac (n:=P.size+i) (m:=k) (b7 0x19a280819801 w0)))),am ((aN (i) (k)).elim (λw0=>px 0xdc2b081a90818a0819813 this w0 (de _ _)) (λw0=>(aN (P.size+i-k) (1)).elim (λw1=>b7 0x1a92808100821 (br w1)) (λw1=>(aN (i) (j)).elim (λw2=>jx 0xcb2a0810092819812 this (br w2)) (λw2=>yt 0x1ed2b07f810e2281ad29c2281c10b227fa98224 (ac w0) (ac w1) (ac (n:=P.size+i) (m:=k) (b7 0x19a280819801 w0)) (ac (n:=i-k) (m:=1) (jx 0x1a10081bc9227fb8a22819813 this (ac w0) (ac w2))))))) ((aN (P.size+i) (k)).elim (λw0=>px 0xdca2081b90818ba20819813 this w0 (de _ _)) (λw0=>(aN (i) (k)).elim (λw1=>px 0xdcb2081a90818a0819813 this w1 (de _ _)) (λw1=>(aN (i) (j)).elim (λw2=>jx 0xcba20810092819812 this (br w2)) (λw2=>yt 0x1dea2081c10e227f810d2281b9c227fba298224 (ac w0) (ac w1) (ac (n:=P.size+i-k) (m:=1) (px 0x1a10081cd9227fcb28a22819813 this (ac w0) (ac w2))) (ac (n:=i-k) (m:=1) (jx 0x1a10081bc9227fb8a22819813 this (ac w1) (ac w2)))))))⟩) _
 exact congrArg (SortSt.mk' (kindOf st) · pp (gallopOf st) (failedOf st)) e
theorem bW.jp {c:Prop} [Decidable c] {m m' k k':SM α} (h:bW P pp R k k') (q:c->bW P pp R k k'->bW P pp R m m'):bW P pp R (if c then m else k) (if c then m' else k'):=.ite (λc=>q c h) λö=>h
theorem bW.true {m m':SM α} (h:bW P pp R m m'):bW P pp (λö=>True) m m':=.of h.run
noncomputable abbrev A1 (c:Option (Option Nat)×Nat):Prop:=1<=c.2
noncomputable abbrev A2 (c:Option (Option Nat)×Nat×Nat):Prop:=c.2.2+1<=c.2.1
theorem BH (n:Nat):bW P pp (λö=>True) (countRun' 0 n) (countRun' P.size n):=by
 rw[countRun'_eq,countRun'_eq];refine bW.bind (bW.loop A1 (λx c hc=>?_) (au 1)) λc hc=>?_
 ·refine bW.bind (kH (e0 ..) (e1 hc)) λr ö=>?_
  induction r with
  |none=>exact bW.pure (.done hc)
  |some b=>exact bW.ite (λö=>bW.pure (.done hc)) λö=>bW.pure (.yield (bP hc))
 obtain⟨r,k⟩:=c
 induction r with
 |some r=>exact bW.pure trivial
 |none=>
  refine bW.ite (λö=>bW.pure trivial) λö=>?_;refine bW.jp ?_ λc h=>bW.bind (kH rfl (e1 (cu c))) λr ö=>?_
  ·refine bW.bind (bW.of .lift) λö ö=>?_;refine bW.bind (bW.loop A2 (λx c hc=>?_) (aK (aL k))) λc hc=>?_
   ·refine bW.bind (kH (e0 ..) (e1 (ae (aK (aL _)) hc))) λr ö=>?_
    induction r with
    |none=>exact bW.pure (.done hc)
    |some b=>
     refine bW.ite (λö=>?_) λö=>?_
     ·exact bW.jp (bW.pure (.yield (aK (aL c.2.1)))) λö h=>bW.bind (qB (e1 hc) (e0 ..)) λö ö=>h
     ·refine bW.bind (kH (e1 (ae (aK (aL _)) hc)) (e0 ..)) λr ö=>?_
      induction r with
      |none=>exact bW.pure (.done hc)
      |some b=>exact bW.ite (λö=>bW.pure (.done hc)) λö=>bW.pure (.yield (aK hc))
   obtain⟨r,k,q⟩:=c
   induction r with
   |some r=>exact bW.pure trivial
   |none=>
    refine bW.jp ?_ λc h=>bW.bind (qB (e1 hc) (e0 ..)) λö ö=>h;refine bW.bind (qB rfl (e0 ..)) λö ö=>?_;refine bW.bind (bW.loop A1 (λx c hc=>?_) (ae (aK (aL _)) hc)) λc hc=>?_
    ·refine bW.bind (kH (e0 ..) (e1 hc)) λr ö=>?_
     induction r with
     |none=>exact bW.pure (.done hc)
     |some b=>exact bW.ite (λö=>bW.pure (.done hc)) λö=>bW.pure (.yield (bP hc))
    obtain⟨r,k⟩:=c
    induction r with
    |some r=>exact bW.pure trivial
    |none=>exact bW.pure trivial
  ·induction r with
   |none=>exact bW.pure trivial
   |some b=>exact bW.ite (λö=>bW.pure trivial) λö=>bW.bind (qB rfl (e0 ..)) λö ö=>h
theorem G5 (n k:Nat):bW P pp (λö=>True) (binarySort' 0 n k) (binarySort' P.size n k):=by
 rw[binarySort'_eq,binarySort'_eq];refine bW.bind (bW.loop (λö=>True) (λx c hc=>?_) trivial) λc hc=>?_
 ·refine bW.bind (bW.loop (λö=>True) (λx c hc=>?_) trivial) λc hc=>?_
  ·refine bW.ite (λö=>bW.pure (.done trivial)) λö=>bW.bind (kH (e0 ..) (e0 ..)) λr ö=>?_
   induction r with
   |none=>exact bW.pure (.done trivial)
   |some b=>exact bW.ite (λö=>bW.pure (.yield trivial)) λö=>bW.pure (.yield trivial)
  obtain⟨r,k⟩:=c
  induction r with
  |some r=>exact bW.pure (.done trivial)
  |none=>exact bW.bind (De (e0 ..) (e0 ..)) λö ö=>bW.pure (.yield trivial)
 obtain⟨r,k⟩:=c
 induction r with
 |some r=>exact bW.pure trivial
 |none=>exact bW.pure trivial
end
section
variable {prog:Program} {w:World} {A:bd} {E:ag->ak->Prop} {s:ak} {α:Type} {P X a₀:Array Keyed} {pp:Array (Nat×Nat×Nat)} {g n k:Nat}
theorem qm.use {m m':SM α} {Q:α->SortSt->Prop} {st:SortSt} (h:qm P pp m m') (q:wpS (model prog w) A E s m (λa st=>Q a (sh P pp st)) st):wpS (model prog w) A E s m' Q (sh P pp st):=by
 unfold wpS;rw[h st,map_eq_pure_bind];exact av (aA q (λr s' e=>aG e) λö ö e=>e)
theorem AF (i:Nat):KK strKind X i=ky (ga X i):=by
 unfold KK ga;cases X[i]?<;>rfl
theorem z4 (K:Ks X):KeysOf strKind X:=λp hp=>by
 obtain⟨i,hi,e⟩:=List.mem_iff_getElem.mp hp;have:=K i hi;unfold ga at this;rw[getElem?_pos X i hi]at this;exact⟨_,e▸this⟩
theorem Hx (h:SortedToK strKind X n):jH X 0 n:=λi j hi hj=>by
 have:=h i j hi hj;rw[AF,AF]at this;rw[aV,aV];exact this
theorem HO (h:jH X 0 n):SortedToK strKind X n:=λi j hi hj=>by
 have:=h i j hi hj;rw[aV,aV]at this;rw[AF,AF];exact this
theorem GN {Q:Option Nat->SortSt->Prop} (K:Ks X) (h1:1<=X.size)
  (h:∀m X' g',X'.Perm X->1<=m->m<=X.size->jH X' 0 m->Q (some m) (SortSt.mk' oneType' (P++X') pp g' none)):wpS (model prog w) A E s (countRun' P.size X.size) Q (SortSt.mk' oneType' (P++X) pp g none):=
 (BH X.size).run.use (st:=SortSt.mk' oneType' X #[] g none) (wpS_countRunK strKind_oneLt (z4 K) (au _) h1 ⟨.refl _,rfl,rfl,rfl⟩ λm st B h1 h2 hs=>by
  obtain⟨p1,p2,p3,p4⟩:=B;have:=h m _ (gallopOf st) p1 h1 h2 (Hx hs);rw[<-p2,<-p3]at this;exact this)
theorem Mq {Q:Bool->SortSt->Prop} (K:Ks X) (hn:n<=X.size) (hk:k<=n) (hs:jH X 0 k)
  (h:∀X' g',X'.Perm X->jH X' 0 n->Q true (SortSt.mk' oneType' (P++X') pp g' none)):wpS (model prog w) A E s (binarySort' P.size n k) Q (SortSt.mk' oneType' (P++X) pp g none):=
 (G5 n k).run.use (st:=SortSt.mk' oneType' X #[] g none) (wpS_binarySortK strKind_oneLt (z4 K) hn hk ⟨.refl _,rfl,rfl,rfl⟩ (HO hs) λst B hs=>by
  obtain⟨p1,p2,p3,p4⟩:=B;have:=h _ (gallopOf st) p1 (Hx hs);rw[<-p2,<-p3]at this;exact this)
end
open Mine.Internal (cy bH b7 d3 jx px yt HU)
open PySem PySem.W PyProof.Rows PySem.Calls
inductive SI (X0:Array Keyed) (mr:Nat):Nat->Option Unit×Nat->SortSt->Prop
 |zero {g:Nat}:SI X0 mr 0 (none,0) (SortSt.mk' oneType' X0 #[] g none)
 |one {g x w:Nat} {X:Array Keyed} (h:1<=x) (p:X.Perm X0) (s:jH X 0 X0.size):SI X0 mr x (none,X0.size) (SortSt.mk' oneType' X #[(0,X0.size,w)] g none)
 |mid {g n:Nat} {X:Array Keyed} (p:X.Perm X0) (s:jH X 0 n) (h:mr<=n) (l:n<X0.size):SI X0 mr 1 (none,n) (SortSt.mk' oneType' X #[(0,n,0)] g none)
 |two {g x w n1 n2:Nat} {X:Array Keyed} (h:2<=x) (p:X.Perm X0) (z:n1+n2=X0.size) (h1:0<n1) (h2:0<n2) (s1:jH X 0 n1) (s2:jH X n1 n2):
  SI X0 mr x (none,X0.size) (SortSt.mk' oneType' X #[(0,n1,w),(n1,n2,0)] g none)
inductive CI (X0:Array Keyed):Nat->SortSt->Prop
 |one {g x w:Nat} {X:Array Keyed} (p:X.Perm X0) (s:jH X 0 X0.size):CI X0 x (SortSt.mk' oneType' X #[(0,X0.size,w)] g none)
 |two {g w n1 n2:Nat} {X:Array Keyed} (p:X.Perm X0) (z:n1+n2=X0.size) (h1:0<n1) (h2:0<n2) (s1:jH X 0 n1) (s2:jH X n1 n2):
  CI X0 0 (SortSt.mk' oneType' X #[(0,n1,w),(n1,n2,0)] g none)
theorem uW {X Y:Array Keyed} (K:Ks Y) (p:X.Perm Y):Ks X:=λi hi=>by
 have m:ga X i∈Y.toList:=(un.mp p).mem_iff.mp (by
  have:=fQ hi;exact dS.mpr ⟨i,by rw[dN];exact this⟩)
 obtain⟨j,e⟩:=qL m;rw[dN]at e;obtain⟨hj,_⟩:=eN.mp e;have:=fQ hj;rw[e]at this;exact Option.some.inj this▸K j hj
theorem F4:∀n,n<128->minRun' n n 0<=n/\n<=2*minRun' n n 0:=by decide+kernel
theorem mno (a b:Nat):b<=min a b\/min a b=a:=(aN a b).elim (λh=>.inr (bS h)) λh=>.inl (bZ (c6 h).symm)
theorem nn2 {n n2 S e mr:Nat} (h:n<S) (ze:e=S-n) (l:mr<=n2\/n2=e) (z:n2<=e) (hm:mr<=n) (m2:S<=2*mr):n+n2=S:=by omega
section
variable {prog:Program} {w:World} {A:bd} {E:ag->ak->Prop} {s:ak} {α:Type} {X:Array Keyed}
inductive RJ (P X:Array Keyed) (mr:Nat) (pp:Array (Nat×Nat×Nat)) (n:Nat):SortSt->Prop
 |mk {X':Array Keyed} {g:Nat} (p:X'.Perm X) (l:mr<=n\/n=X.size) (z:n<=X.size) (h:1<=n) (s:jH X' 0 n):RJ P X mr pp n (SortSt.mk' oneType' (P++X') pp g none)
theorem Lh {P Y:Array Keyed} {pp:Array (Nat×Nat×Nat)} {mr g lo sz:Nat} {T:Option Nat->SM α} {F:Nat->SM α} {N:SM α} {Q:α->SortSt->Prop} (el:lo=P.size) (es:sz=X.size) (eY:Y=P++X) (K:Ks X) (h1:1<=X.size)
  (eT:∀n,T (some n)=if n<mr then liftM (rule "list.sort.binary-insertion")>>=λ_=>binarySort' lo (min sz mr) n>>=λb=>if(!b)=true then N else F (min sz mr)else F n)
  (h:∀n st,RJ P X mr pp n st->wpS (model prog w) A E s (F n) Q st):wpS (model prog w) A E s (countRun' lo sz>>=T) Q (SortSt.mk' oneType' Y pp g none):=by
 subst el es eY;refine wpS_bind (GN K h1 λm X' g' p h1 h2 hs=>uq (kg (λc=>wpS_bind (wpS_lift (wpAny_rule ⟨rfl,wpS_bind (Mq (uW K p) ?_ ?_ hs λX2 g2 p2 hs2=>h _ _ (.mk (p2.trans p) (mno ..) (f8 ..) ?_ hs2))⟩))) λc=>h _ _ (.mk p (.inl (du c)) h2 h1 hs)) (eT m))
 ·exact p.size_eq▸f8 ..
 ·exact Nat.le_min.mpr ⟨h2,cu c⟩
 ·exact Nat.le_min.mpr ⟨ae h1 h2,ae h1 (cu c)⟩
abbrev FL:=ForInStep (Option Unit×Nat)
noncomputable def rp (lo n:Nat):SM FL:=modify (λs=>setPending s ((pendingOf s).push (lo,n,0)))>>=λ_=>pure (.yield (none,lo+n))
noncomputable def rq (sz lo n:Nat):SM FL:=get>>=λs=>match(pendingOf s).back? with
 |some (s1,n1,_)=>forIn [0:sz] ((none,()):Option Unit×Unit) (λ_ _=>get>>=λs=>
   match(if(pendingOf s).size>1 then(pendingOf s)[(pendingOf s).size-2]? else none)with
   |some (_,_,o)=>if o<=power' sz (2*s1+n1) (2*s1+n1+n1+n) sz then pure (.done (none,()))else mergeAt' ((pendingOf s).size-2)>>=λb=>if(!b)=true then pure (.done (some (),()))else pure (.yield (none,()))
   |_=>pure (.done (none,())))>>=λc=>oN c.1 (modify (λs=>setPending s ((pendingOf s).modify ((pendingOf s).size-1) λx=>(x.1,x.2.1,power' sz (2*s1+n1) (2*s1+n1+n1+n) sz)))>>=λ_=>rp lo n) λr=>pure (.done (some r,lo))
 |_=>rp lo n
noncomputable def rb (mr sz lo:Nat):SM FL:=if lo≥sz then pure (.done (none,lo))else countRun' lo (sz-lo)>>=λr=>oS r (pure (.done (some (),lo))) λn=>
 if n<mr then liftM (rule "list.sort.binary-insertion")>>=λ_=>binarySort' lo (min (sz-lo) mr) n>>=λb=>if(!b)=true then pure (.done (some (),lo))else rq sz lo (min (sz-lo) mr)else rq sz lo n
abbrev IQ (X:Array Keyed) (mr x:Nat) (r:FL) (st:SortSt):Prop:=match r with
 |.done c=>c.1=none/\CI X 0 st
 |.yield c=>SI X mr (x+1) c st
theorem Fy {mr g:Nat} (K:Ks X) (h2:1<=X.size):wpS (model prog w) A E s (rb mr X.size 0) (IQ X mr 0) (SortSt.mk' oneType' X #[] g none):=by
 refine kg (λq=>absurd q (s5 h2)) λ_=>Lh (P:=#[]) rfl (Nat.sub_zero _) Ci.symm K h2 (λ_=>by unfold oS;rfl) λn st q=>?_
 induction q with|mk p l z h1 hs=>
 refine wpS_bind (wpS_get (wpS_bind (wpS_modify (wpS_pure ?_))));show SI X mr 1 (none,0+n) (SortSt.mk' oneType' (#[]++_) #[(0,n,0)] _ none);rw[Ci,aV];by_cases q:n=X.size
 ·exact q▸.one (au _) p (q▸hs)
 ·exact .mid p hs (l.resolve_right q) (iA z q)
theorem K3 {P Q:Array Keyed} {n:Nat} (z:P.size=n) (h:jH P 0 n):jH (P++Q) 0 n:=λi j hi hj=>by
 have e:∀k,k<n->ga (P++Q) (0+k)=ga P (0+k):=λk hk=>by unfold ga;rw[Array.getElem?_append_left (by rw[z,aV];exact hk)]
 rw[e _ hj,e _ (bf hi hj)];exact h i j hi hj
theorem K2 {P Q:Array Keyed} {n m:Nat} (z:P.size=n) (h:jH Q 0 m):jH (P++Q) n m:=λi j hi hj=>by
 have e:∀k,ga (P++Q) (n+k)=ga Q (0+k):=λk=>by unfold ga;rw[jL (z▸bG _ _),z,c0,aV]
 rw[e,e];exact h i j hi hj
theorem Jl {γ:Type} {sz:Nat} {st:SortSt} {f:Nat->Option Unit×Unit->SM (ForInStep (Option Unit×Unit))} {k:Option Unit×Unit->SM γ} {Q:γ->SortSt->Prop}
  (hf:∀i,wpS (model prog w) A E s (f i (none,())) (λr st'=>r=.done (none,())/\st'=st) st) (hk:wpS (model prog w) A E s (k (none,())) Q st):wpS (model prog w) A E s (forIn [0:sz] ((none,()):Option Unit×Unit) f>>=k) Q st:=
 wpS_bind (wpS_mono (wpS_forRange (I:=λ_ c st'=>c=(none,())/\st'=st) (Q:=λc st'=>c=(none,())/\st'=st)
  (λi c st' _ _ q=>by
   cases q.1;cases q.2
   exact wpS_mono (hf i) λa st' q=>q.1▸⟨rfl,q.2⟩) (λc st' q=>q) ⟨rfl,rfl⟩) λc st' q=>q.1▸q.2▸hk)
theorem IZ {mr g n:Nat} {Y:Array Keyed} (K:Ks X) (m2:X.size<=2*mr) (p:Y.Perm X) (hs:jH Y 0 n) (hm:mr<=n) (l:n<X.size):wpS (model prog w) A E s (rb mr X.size n) (IQ X mr 1) (SortSt.mk' oneType' Y #[(0,n,0)] g none):=by
 have eY:=p.size_eq;have ln:n<=Y.size:=eY▸cu l;have zP:(Y.extract 0 n).size=n:=j4 ln;have zX:(Y.extract n Y.size).size=X.size-n:=eY▸j4 (au _);have e:Y=Y.extract 0 n++Y.extract n Y.size:=by
  rw[Array.extract_append_extract,Nat.zero_min,cW ln,Array.extract_size]
 refine kg (λq=>absurd q (s5 l)) λ_=>Lh zP.symm zX.symm e (Dt (uW K p) (au _)) (zX▸gp l) (λ_=>by unfold oS;rfl) λn2 st q=>?_
 induction q with|mk p2 lr z h1 hs2=>
 refine wpS_bind (wpS_get (Jl (λi=>wpS_bind (wpS_get (wpS_pure ⟨rfl,rfl⟩))) (wpS_bind (wpS_modify (wpS_bind (wpS_modify (wpS_pure ?_)))))));have z2:=nn2 l zX lr z hm m2;show SI X mr 2 (none,n+n2) (SortSt.mk' oneType' (Y.extract 0 n++_) #[(0,n,_),(n,n2,0)] _ none);rw[z2];refine .two (au _) ((Array.Perm.append (.refl _) p2).trans (e▸p)) z2 (aO (ER λq=>?_) hm) h1 (K3 zP ?_) (K2 zP hs2)
 ·rw[q]at m2;exact absurd (aO l m2) (Ky _)
 ·have:=rc (k:=0) (m:=n) hs (au _) (bZ (aV n).symm) ln
  rwa [zP]at this
noncomputable def rf (sz:Nat):SM Unit:=forIn [0:sz] ((none,()):Option Unit×Unit) (λ_ _=>get>>=λs=>if(pendingOf s).size<=1 then pure (.done (none,()))else
  let i:=(pendingOf s).size-2
  let before:=if i>0 then(pendingOf s)[i-1]?.map (·.2.1)else none
  mergeAt' (if before.any (λx=>decide (x<((pendingOf s)[i+1]?.elim 0 (·.2.1))))=true then i-1 else i)>>=λb=>if(!b)=true then pure (.done (some (),()))else pure (.yield (none,())))>>=λc=>oN c.1 (pure ()) pure
noncomputable def rz (sz mr:Nat):SM Unit:=forIn [0:sz] ((none,0):Option Unit×Nat) (λ_ c=>rb mr sz c.2)>>=λc=>oN c.1 (rf sz) pure
theorem rf_w {Q:Unit->SortSt->Prop} {st:SortSt} (K:Ks X) (h2:2<=X.size) (q:CI X 0 st) (h:∀X' p g',X'.Perm X->jH X' 0 X.size->Q () (SortSt.mk' oneType' X' p g' none)):wpS (model prog w) A E s (rf X.size) Q st:=by
 refine wpS_bind (wpS_mono (wpS_forRange (I:=λi c st=>c=(none,())/\CI X i st) (Q:=λc st=>c=(none,())/\CI X 1 st) (λi c st _ _ q=>?_) (λc st q=>?_) ⟨rfl,q⟩) λc st q=>?_)
 ·refine wpS_bind (wpS_get ?_);cases q.2 with
  |one p s=>exact kg (λ_=>wpS_pure ⟨rfl,.one p s⟩) λq=>absurd (au 1) q
  |two p z h1 h2 s1 s2=>
   refine kg (λq=>absurd (show 2<=1 from q) (by decide)) λ_=>?_;exact wpS_bind (Bo (p.size_eq.trans z.symm) (uW K p) s1 s2 h1 h2 λX' g' p' s'=>wpS_pure ⟨rfl,z▸.one (p'.trans p) (p.size_eq▸s')⟩)
 ·refine⟨q.1,?_⟩;have q:=q.2;rw[cW (aL _)]at q;generalize X.size=x at h2 q
  induction q with
  |one p s=>exact .one p s
  |two=>exact absurd h2 nofun
 ·cases q.1
  cases q.2 with
  |one p s=>exact wpS_pure (h _ _ _ p s)
theorem IM {mr:Nat} {c:Option Unit×Nat} {st:SortSt} (h2:2<=X.size) (q:SI X mr X.size c st):c.1=none/\CI X 0 st:=by
 generalize ex:X.size=x at q
 induction q with
 |zero=>exact absurd h2 (ex▸nofun)
 |one _ p s=>exact⟨rfl,.one p s⟩
 |mid=>exact absurd h2 (ex▸nofun)
 |two _ p z h1 h2 s1 s2=>exact⟨rfl,.two p z h1 h2 s1 s2⟩
theorem rb_w {mr x:Nat} {c:Option Unit×Nat} {st:SortSt} (K:Ks X) (h2:2<=X.size) (m2:X.size<=2*mr) (q:SI X mr x c st):wpS (model prog w) A E s (rb mr X.size c.2) (IQ X mr x) st:=by
 induction q with
 |one hx p s=>exact kg (λ_=>wpS_pure ⟨rfl,.one p s⟩) λq=>absurd (au _) q
 |two hx p z h1 h2 s1 s2=>exact kg (λ_=>wpS_pure ⟨rfl,.two p z h1 h2 s1 s2⟩) λq=>absurd (au _) q
 |zero=>exact Fy K (cu h2)
 |mid p hs hm l=>exact IZ K m2 p hs hm l
theorem IV {Q:Unit->SortSt->Prop} {g:Nat} (K:Ks X) (h2:2<=X.size) (h128:X.size<128)
  (h:∀X' p g',X'.Perm X->jH X' 0 X.size->Q () (SortSt.mk' oneType' X' p g' none)):wpS (model prog w) A E s sortRuns' Q (SortSt.mk' oneType' X #[] g none):=
 wpS_bind (wpS_get (uq (m:=rz X.size (minRun' X.size X.size 0)) (wpS_bind (wpS_mono (wpS_forRange (I:=SI X (minRun' X.size X.size 0)) (Q:=λc st=>c.1=none/\CI X 0 st)
  (λx c st _ _ q=>wpS_mono (rb_w K h2 (F4 _ h128).2 q) λr st q=>by induction r<;>exact q) (λc st q=>IM h2 (cW (aL _)▸q)) .zero) λc st q=>by
   obtain⟨r,c⟩:=c;cases q.1
   exact rf_w K h2 q.2 h)) (by kernel_rfl)))
end
open Mine.Internal (cy bH b7 d3 jx px yt HU)
open PySem PySem.W PyProof.Rows PySem.Calls
section
variable {prog:Program} {w:World} {A:bd} {E:ag->ak->Prop} {s:ak}
theorem Ds {vs:List ag} {ss:List Str} (hS:StrsAre vs ss):Ks (pairsOf vs):=λi hi=>by
 obtain⟨a,e⟩:=hS.keysOf (ga (pairsOf vs) i) (by
  have:=fQ hi;exact dS.mpr ⟨i,by rw[dN];exact this⟩)
 unfold Sk ky;rw[e];rfl
theorem wq {a:Addr} {vs:List ag} {ss:List Str} {n:Nat} {P:Fin->ak->Prop} (ho:s.heap.get? a=some (seqObj "list" vs.toArray n)) (hS:StrsAre vs ss) (hl:vs.length<128)
  (h:∀X:Array Keyed,X.Perm (pairsOf vs)->jH X 0 (pairsOf vs).size->P (.done (.ret .none)) {s with heap:=sortedHeap s.heap a vs (X.map (·.2))}):
  wpAny (model prog w) A (Builtin.«list.sort» ⟨[.ref a],[]⟩) P E s:=by
 rw[list_sort_plain];have ha:a<s.heap.objs.size:=dn ho;obtain⟨e1,ho1⟩:∃e1,(s.heap.update a (Obj.mapSeq λö=>#[])).get? a=some (seqObj "list" #[] e1):=⟨_,get?_update_seq ho (λö=>#[])⟩;have ho2:(((s.heap.update a (Obj.mapSeq λö=>#[])).push (seqObj "tuple" vs.toArray 0)).push (seqObj "list" #[] 0)).get? a=some (seqObj "list" #[] e1):=
  az _ (az _ ho1)
 have zs:∀{X:Array Keyed},X.Perm (pairsOf vs)->(X.map (·.2)).size<=sizeLine+1:=λ{X} p=>by
  rw[Array.size_map,p.size_eq,pairsOf_size,sizeLine_eq];exact cy 0x110100000071280818021811 hl
 have zv:vs.toArray.size<=sizeLine:=by rw[bE,sizeLine_eq];exact cy 0x110000007180818021811 hl
 refine av (listItems_at ho rfl ?_);refine av (listUpdate_at ho rfl ?_ zv);refine av (seqEpoch_at ho1 rfl ?_);refine av (wpAny_newTuple ?_);refine av (wpAny_newList ?_);refine wpAny_holding ?_;show wpAny (model prog w) A _ P E {s with heap:=((s.heap.update a (Obj.mapSeq λö=>#[])).push (seqObj "tuple" vs.toArray 0)).push (seqObj "list" #[] 0)};dsimp only;by_cases h2:vs.toArray.size<2
 ·rw[if_pos h2,if_pos h2];refine av (aG ?_);rw[StateT.run_pure];refine av (aG (av (seqEpoch_at ho2 rfl (av (listUpdate_at ho2 rfl ?_ (aL _) (zs (.refl _)))))));simp only[bne_self_eq_false,iz,if_false];refine aG (h _ (.refl _) λi j hi hj=>?_);rw[pairsOf_size]at hj;rw[bE]at h2;cases(show i=j from am (bH 0x1980819801 hi) (b7 0x1a90818918120812 h2 hj))
  exact KeyOrd.kle_refl (O:=strKind.toKeyOrd) _
 ·rw[if_neg h2,if_neg h2];have hk:keyKind' vs.toArray=pure oneType':=by
   match vs,hS,h2 with
   |[],_,h2=>exact absurd (Nat.zero_lt_succ 1) h2
   |[_],_,h2=>exact absurd (b8 1) h2
   |_::_::_,hS,_=>exact keyKind_strs hS
  rw[hk];have z2:2<=(pairsOf vs).size:=by rw[pairsOf_size];rw[bE]at h2;exact cy 0x182008120891 h2
  refine av (aG (av (aA (IV (X:=pairsOf vs) (g:=7) (Q:=λö st=>∃X p g,X.Perm (pairsOf vs)/\jH X 0 (pairsOf vs).size/\st=SortSt.mk' oneType' X p g none)
   (Ds hS) z2 (by rw[pairsOf_size];exact hl) λX p g h1 h2=>⟨X,p,g,h1,h2,rfl⟩) ?_ λö ö e=>e)))
  rintro⟨⟨⟩,st⟩ s' ⟨rfl,X,p,g,hp,hs,rfl⟩;refine av (seqEpoch_at ho2 rfl (av (listUpdate_at ho2 rfl ?_ (aL _) (zs hp))));simp only[bne_self_eq_false,iz,if_false];exact aG (h X hp hs)
theorem vT {l:Addr} {vs:List ag} {ss:List Str} {Q:ag->ak->Prop} (il:s.heap.IsList l vs.toArray) (hS:StrsAre vs ss) (hl:vs.length<128)
  (h:∀(out:Array ag) (ss':List Str),StrsAre out.toList ss'->ss'.Perm ss->sortedS ss'=true->Q (.ref (s.heap.objs.size+1)) {s with heap:=sortedAll s.heap vs out}):
  wpAny (model prog w) A (call (.builtin "sorted") [.ref l]) Q E s:=by
 refine Calls.call_function_entry kind_sorted plain_sorted entry_sorted (args_sorted1 _) ?_;unfold Builtin.«sorted»;refine av (m:=checkCount "sorted" 1 1 _) (aG ?_);refine av (collect_list il ?_ (by rw[sizeLine_eq];exact cy 0x110000007180818021811 hl));refine av (wpAny_newList ?_);have z:((s.heap.push (seqObj "list" #[] 0)).update s.heap.objs.size (Obj.mapSeq (· ++vs.toArray))).objs.size=s.heap.objs.size+1:=by
  rw[Heap.size_update,size_push']
 have ho:(((s.heap.push (seqObj "list" #[] 0)).update s.heap.objs.size (Obj.mapSeq (· ++vs.toArray))).push (seqObj "list" vs.toArray 0)).get? (s.heap.objs.size+1)=some (seqObj "list" vs.toArray 0):=by
  rw[<-z];exact bA _ rfl
 show wpAny _ _ _ _ _ {s with heap:=((s.heap.push (seqObj "list" #[] 0)).update s.heap.objs.size (Obj.mapSeq (· ++vs.toArray))).push (seqObj "list" vs.toArray 0)};rw[z];refine av (wpAny_holding (wpAny_call_entry slot_list_sort ⟨_,ho,rfl⟩ entry_list_sort (wq ho hS hl λX hp hs=>⟨_,rfl,?_⟩) (args_list_sort _)));obtain⟨ss',h1,h2,h3⟩:=sorted_out_str hS hp (HO hs);exact aG ⟨_,rfl,h _ ss' h1 h2 h3⟩
end
end So.Internal
namespace Mine.Internal
open PySem PySem.W PyProof.Rows PySem.Calls
open So.Internal (vT)
theorem pP:∀(p:Str) (l:List Str),risingS p l=true->(p::l).Pairwise (jY · · =true):=by
 intro p l
 induction l generalizing p with
 |nil=>exact λö=>List.pairwise_singleton _ _
 |cons x r ih=>
  intro h;obtain⟨h1,h2⟩:=d8.mp (show(!Spec.ltCps x.cps.toList p.cps.toList&&risingS x r)=true from h);rw[ltCps_eq]at h1;have q:=ih x h2;refine EG.mpr ⟨λy hy=>?_,q⟩;rcases aH.mp hy with rfl|hy
  ·exact h1
  ·exact mG _ _ _ h1 (List.rel_of_pairwise_cons q hy)
theorem A8 {l:List Str} (h:sortedS l=true):l.Pairwise (jY · · =true):=by
 induction l with
 |nil=>exact .nil
 |cons x r=>exact pP x r h
theorem xG {P:PW} {cls:ag} {A:bd} {env:Env} {ρ:aE} {fr:List Env} {bs:List PV} {vs:List ag}:aQ P cls env ρ fr (λg h=>aU P g h bs vs) (eJ P A (call (.builtin "sorted") vs)) (cC λσ=>sE σ "sorted" bs) (cR P):=by
 refine aQ.leafσ λg σ s E Q b G V F hp e hQ=>?_;refine V.lclK λM t m hn=>?_;replace e:td _ bs=some b:=e;apply ki vs hp e
 intro p v rv e;apply lA v rv e
 intro l a us _ _ il rs e;refine fm e λss hss e=>?_;refine mI e λhl e=>?_;have S:=jz rs hss;refine vT il.il S ?_ λout ss' h1 h2 h3=>?_
 ·have:=StrsAre.length S;exact bH 0x180219181892817821802 hl this
 obtain⟨ep,he⟩:=sortedAll_at s.heap us out;have r2:ss'=mX ss:=zy h2 (A8 h3);refine pg G t (.of_all hn λö ö=>sortedAll_old) (aT (iD _)) ⟨ep,he⟩ (pd h1) λg' x' G' r=>?_;exact hQ _ {s with heap:=sortedAll s.heap us out} g' x' G' (Option.some.inj e▸r2▸r) ⟨rfl,rfl,rfl⟩
end Mine.Internal
section
set_option maxRecDepth 100000
namespace Mine.Internal
open PySem PySem.W PyProof.Rows PySem.Calls
noncomputable def qI (e:PySem.Expr) (k:PySem.BoolOp->List ay->Pos->Bool):Bool:=if h:e.ctorIdx=0 then PySem.Expr.BoolOp.elim (motive_1:=λö=>Bool) e h k else false
@[elab_as_elim] theorem nK {e:PySem.Expr} {k:PySem.BoolOp->List ay->Pos->Bool} {C:PySem.Expr->Prop} (h:qI e k=true) (f:∀x0 x1 x2,k x0 x1 x2=true->C (.BoolOp x0 x1 x2)):C e:=
 let⟨q,h⟩:=cw h
 PySem.Expr.BoolOp.elim (motive_1:=λe=>∀q:e.ctorIdx=0,PySem.Expr.BoolOp.elim (motive_1:=λö=>Bool) e q k=true->C e) e q (λx0 x1 x2 ö h=>f x0 x1 x2 h) q h
noncomputable def Lu (e:PySem.Expr) (k:ay->Operator->ay->Pos->Bool):Bool:=if h:e.ctorIdx=2 then PySem.Expr.BinOp.elim (motive_1:=λö=>Bool) e h k else false
@[elab_as_elim] theorem FQ {e:PySem.Expr} {k:ay->Operator->ay->Pos->Bool} {C:PySem.Expr->Prop} (h:Lu e k=true) (f:∀x0 x1 x2 x3,k x0 x1 x2 x3=true->C (.BinOp x0 x1 x2 x3)):C e:=
 let⟨q,h⟩:=cw h
 PySem.Expr.BinOp.elim (motive_1:=λe=>∀q:e.ctorIdx=2,PySem.Expr.BinOp.elim (motive_1:=λö=>Bool) e q k=true->C e) e q (λx0 x1 x2 x3 ö h=>f x0 x1 x2 x3 h) q h
noncomputable def Ls (e:PySem.Expr) (k:UnaryOp->ay->Pos->Bool):Bool:=if h:e.ctorIdx=3 then PySem.Expr.UnaryOp.elim (motive_1:=λö=>Bool) e h k else false
@[elab_as_elim] theorem uJ {e:PySem.Expr} {k:UnaryOp->ay->Pos->Bool} {C:PySem.Expr->Prop} (h:Ls e k=true) (f:∀x0 x1 x2,k x0 x1 x2=true->C (.UnaryOp x0 x1 x2)):C e:=
 let⟨q,h⟩:=cw h
 PySem.Expr.UnaryOp.elim (motive_1:=λe=>∀q:e.ctorIdx=3,PySem.Expr.UnaryOp.elim (motive_1:=λö=>Bool) e q k=true->C e) e q (λx0 x1 x2 ö h=>f x0 x1 x2 h) q h
noncomputable def oIf (e:PySem.Expr) (k:ay->ay->ay->Pos->Bool):Bool:=if h:e.ctorIdx=5 then PySem.Expr.IfExp.elim (motive_1:=λö=>Bool) e h k else false
@[elab_as_elim] theorem Jc {e:PySem.Expr} {k:ay->ay->ay->Pos->Bool} {C:PySem.Expr->Prop} (h:oIf e k=true) (f:∀x0 x1 x2 x3,k x0 x1 x2 x3=true->C (.IfExp x0 x1 x2 x3)):C e:=
 let⟨q,h⟩:=cw h
 PySem.Expr.IfExp.elim (motive_1:=λe=>∀q:e.ctorIdx=5,PySem.Expr.IfExp.elim (motive_1:=λö=>Bool) e q k=true->C e) e q (λx0 x1 x2 x3 ö h=>f x0 x1 x2 x3 h) q h
noncomputable def oLC (e:PySem.Expr) (k:ay->List Comprehension->bD->Pos->Bool):Bool:=if h:e.ctorIdx=8 then PySem.Expr.ListComp.elim (motive_1:=λö=>Bool) e h k else false
@[elab_as_elim] theorem Jb {e:PySem.Expr} {k:ay->List Comprehension->bD->Pos->Bool} {C:PySem.Expr->Prop} (h:oLC e k=true) (f:∀x0 x1 x2 x3,k x0 x1 x2 x3=true->C (.ListComp x0 x1 x2 x3)):C e:=
 let⟨q,h⟩:=cw h
 PySem.Expr.ListComp.elim (motive_1:=λe=>∀q:e.ctorIdx=8,PySem.Expr.ListComp.elim (motive_1:=λö=>Bool) e q k=true->C e) e q (λx0 x1 x2 x3 ö h=>f x0 x1 x2 x3 h) q h
noncomputable def Jd (e:PySem.Expr) (k:ay->List CmpOp->List ay->Pos->Bool):Bool:=if h:e.ctorIdx=15 then PySem.Expr.Compare.elim (motive_1:=λö=>Bool) e h k else false
@[elab_as_elim] theorem zN {e:PySem.Expr} {k:ay->List CmpOp->List ay->Pos->Bool} {C:PySem.Expr->Prop} (h:Jd e k=true) (f:∀x0 x1 x2 x3,k x0 x1 x2 x3=true->C (.Compare x0 x1 x2 x3)):C e:=
 let⟨q,h⟩:=cw h
 PySem.Expr.Compare.elim (motive_1:=λe=>∀q:e.ctorIdx=15,PySem.Expr.Compare.elim (motive_1:=λö=>Bool) e q k=true->C e) e q (λx0 x1 x2 x3 ö h=>f x0 x1 x2 x3 h) q h
noncomputable def zO (e:PySem.Expr) (k:ay->List ay->List Keyword->Pos->Bool):Bool:=if h:e.ctorIdx=16 then PySem.Expr.Call.elim (motive_1:=λö=>Bool) e h k else false
@[elab_as_elim] theorem rG {e:PySem.Expr} {k:ay->List ay->List Keyword->Pos->Bool} {C:PySem.Expr->Prop} (h:zO e k=true) (f:∀x0 x1 x2 x3,k x0 x1 x2 x3=true->C (.Call x0 x1 x2 x3)):C e:=
 let⟨q,h⟩:=cw h
 PySem.Expr.Call.elim (motive_1:=λe=>∀q:e.ctorIdx=16,PySem.Expr.Call.elim (motive_1:=λö=>Bool) e q k=true->C e) e q (λx0 x1 x2 x3 ö h=>f x0 x1 x2 x3 h) q h
noncomputable def v8 (e:PySem.Expr) (k:Const->Nat->Pos->Bool):Bool:=if h:e.ctorIdx=19 then PySem.Expr.Constant.elim (motive_1:=λö=>Bool) e h k else false
@[elab_as_elim] theorem lC {e:PySem.Expr} {k:Const->Nat->Pos->Bool} {C:PySem.Expr->Prop} (h:v8 e k=true) (f:∀x0 x1 x2,k x0 x1 x2=true->C (.Constant x0 x1 x2)):C e:=
 let⟨q,h⟩:=cw h
 PySem.Expr.Constant.elim (motive_1:=λe=>∀q:e.ctorIdx=19,PySem.Expr.Constant.elim (motive_1:=λö=>Bool) e q k=true->C e) e q (λx0 x1 x2 ö h=>f x0 x1 x2 h) q h
noncomputable def C7 (e:PySem.Expr) (k:ay->Str->Pos->Bool):Bool:=if h:e.ctorIdx=20 then PySem.Expr.Attribute.elim (motive_1:=λö=>Bool) e h k else false
@[elab_as_elim] theorem qJ {e:PySem.Expr} {k:ay->Str->Pos->Bool} {C:PySem.Expr->Prop} (h:C7 e k=true) (f:∀x0 x1 x2,k x0 x1 x2=true->C (.Attribute x0 x1 x2)):C e:=
 let⟨q,h⟩:=cw h
 PySem.Expr.Attribute.elim (motive_1:=λe=>∀q:e.ctorIdx=20,PySem.Expr.Attribute.elim (motive_1:=λö=>Bool) e q k=true->C e) e q (λx0 x1 x2 ö h=>f x0 x1 x2 h) q h
noncomputable def C5 (e:PySem.Expr) (k:ay->ay->Pos->Bool):Bool:=if h:e.ctorIdx=21 then PySem.Expr.Subscript.elim (motive_1:=λö=>Bool) e h k else false
@[elab_as_elim] theorem qH {e:PySem.Expr} {k:ay->ay->Pos->Bool} {C:PySem.Expr->Prop} (h:C5 e k=true) (f:∀x0 x1 x2,k x0 x1 x2=true->C (.Subscript x0 x1 x2)):C e:=
 let⟨q,h⟩:=cw h
 PySem.Expr.Subscript.elim (motive_1:=λe=>∀q:e.ctorIdx=21,PySem.Expr.Subscript.elim (motive_1:=λö=>Bool) e q k=true->C e) e q (λx0 x1 x2 ö h=>f x0 x1 x2 h) q h
noncomputable def jM (e:PySem.Expr) (k:Str->Pos->Bool):Bool:=if h:e.ctorIdx=23 then PySem.Expr.Name.elim (motive_1:=λö=>Bool) e h k else false
@[elab_as_elim] theorem dQ {e:PySem.Expr} {k:Str->Pos->Bool} {C:PySem.Expr->Prop} (h:jM e k=true) (f:∀x0 x1,k x0 x1=true->C (.Name x0 x1)):C e:=
 let⟨q,h⟩:=cw h
 PySem.Expr.Name.elim (motive_1:=λe=>∀q:e.ctorIdx=23,PySem.Expr.Name.elim (motive_1:=λö=>Bool) e q k=true->C e) e q (λx0 x1 ö h=>f x0 x1 h) q h
noncomputable def Ja (e:PySem.Expr) (k:List ay->Pos->Bool):Bool:=if h:e.ctorIdx=24 then PySem.Expr.List.elim (motive_1:=λö=>Bool) e h k else false
@[elab_as_elim] theorem zL {e:PySem.Expr} {k:List ay->Pos->Bool} {C:PySem.Expr->Prop} (h:Ja e k=true) (f:∀x0 x1,k x0 x1=true->C (.List x0 x1)):C e:=
 let⟨q,h⟩:=cw h
 PySem.Expr.List.elim (motive_1:=λe=>∀q:e.ctorIdx=24,PySem.Expr.List.elim (motive_1:=λö=>Bool) e q k=true->C e) e q (λx0 x1 ö h=>f x0 x1 h) q h
noncomputable def rF (e:PySem.Expr) (k:List ay->Nat->Pos->Bool):Bool:=if h:e.ctorIdx=25 then PySem.Expr.Tuple.elim (motive_1:=λö=>Bool) e h k else false
@[elab_as_elim] theorem iS {e:PySem.Expr} {k:List ay->Nat->Pos->Bool} {C:PySem.Expr->Prop} (h:rF e k=true) (f:∀x0 x1 x2,k x0 x1 x2=true->C (.Tuple x0 x1 x2)):C e:=
 let⟨q,h⟩:=cw h
 PySem.Expr.Tuple.elim (motive_1:=λe=>∀q:e.ctorIdx=25,PySem.Expr.Tuple.elim (motive_1:=λö=>Bool) e q k=true->C e) e q (λx0 x1 x2 ö h=>f x0 x1 x2 h) q h
noncomputable def I9 (e:PySem.Expr) (k:Option ay->Option ay->Option ay->Pos->Bool):Bool:=if h:e.ctorIdx=26 then PySem.Expr.Slice.elim (motive_1:=λö=>Bool) e h k else false
@[elab_as_elim] theorem zK {e:PySem.Expr} {k:Option ay->Option ay->Option ay->Pos->Bool} {C:PySem.Expr->Prop} (h:I9 e k=true) (f:∀x0 x1 x2 x3,k x0 x1 x2 x3=true->C (.Slice x0 x1 x2 x3)):C e:=
 let⟨q,h⟩:=cw h
 PySem.Expr.Slice.elim (motive_1:=λe=>∀q:e.ctorIdx=26,PySem.Expr.Slice.elim (motive_1:=λö=>Bool) e q k=true->C e) e q (λx0 x1 x2 x3 ö h=>f x0 x1 x2 x3 h) q h
noncomputable def oBo (e:PySem.Const) (k:Bool->Bool):Bool:=if h:e.ctorIdx=1 then PySem.Const.bool.elim (motive:=λö=>Bool) e h k else false
@[elab_as_elim] theorem Je {e:PySem.Const} {k:Bool->Bool} {C:PySem.Const->Prop} (h:oBo e k=true) (f:∀x0,k x0=true->C (.bool x0)):C e:=
 let⟨q,h⟩:=cw h
 PySem.Const.bool.elim (motive:=λe=>∀q:e.ctorIdx=1,PySem.Const.bool.elim (motive:=λö=>Bool) e q k=true->C e) e q (λx0 ö h=>f x0 h) q h
noncomputable def oIn (e:PySem.Const) (k:Int->Bool):Bool:=if h:e.ctorIdx=2 then PySem.Const.int.elim (motive:=λö=>Bool) e h k else false
@[elab_as_elim] theorem xZ {e:PySem.Const} {k:Int->Bool} {C:PySem.Const->Prop} (h:oIn e k=true) (f:∀x0,k x0=true->C (.int x0)):C e:=
 let⟨q,h⟩:=cw h
 PySem.Const.int.elim (motive:=λe=>∀q:e.ctorIdx=2,PySem.Const.int.elim (motive:=λö=>Bool) e q k=true->C e) e q (λx0 ö h=>f x0 h) q h
noncomputable def oSt (e:PySem.Const) (k:Str->Bool):Bool:=if h:e.ctorIdx=5 then PySem.Const.str.elim (motive:=λö=>Bool) e h k else false
@[elab_as_elim] theorem I8 {e:PySem.Const} {k:Str->Bool} {C:PySem.Const->Prop} (h:oSt e k=true) (f:∀x0,k x0=true->C (.str x0)):C e:=
 let⟨q,h⟩:=cw h
 PySem.Const.str.elim (motive:=λe=>∀q:e.ctorIdx=5,PySem.Const.str.elim (motive:=λö=>Bool) e q k=true->C e) e q (λx0 ö h=>f x0 h) q h
noncomputable def Fl (e:PySem.Stmt) (k:Option ay->Pos->Bool):Bool:=if h:e.ctorIdx=3 then PySem.Stmt.Return.elim (motive_2:=λö=>Bool) e h k else false
@[elab_as_elim] theorem uC {e:PySem.Stmt} {k:Option ay->Pos->Bool} {C:PySem.Stmt->Prop} (h:Fl e k=true) (f:∀x0 x1,k x0 x1=true->C (.Return x0 x1)):C e:=
 let⟨q,h⟩:=cw h
 PySem.Stmt.Return.elim (motive_2:=λe=>∀q:e.ctorIdx=3,PySem.Stmt.Return.elim (motive_2:=λö=>Bool) e q k=true->C e) e q (λx0 x1 ö h=>f x0 x1 h) q h
noncomputable def IU (e:PySem.Stmt) (k:List ay->ay->Pos->Bool):Bool:=if h:e.ctorIdx=5 then PySem.Stmt.Assign.elim (motive_2:=λö=>Bool) e h k else false
@[elab_as_elim] theorem zA {e:PySem.Stmt} {k:List ay->ay->Pos->Bool} {C:PySem.Stmt->Prop} (h:IU e k=true) (f:∀x0 x1 x2,k x0 x1 x2=true->C (.Assign x0 x1 x2)):C e:=
 let⟨q,h⟩:=cw h
 PySem.Stmt.Assign.elim (motive_2:=λe=>∀q:e.ctorIdx=5,PySem.Stmt.Assign.elim (motive_2:=λö=>Bool) e q k=true->C e) e q (λx0 x1 x2 ö h=>f x0 x1 x2 h) q h
noncomputable def Lg (e:PySem.Stmt) (k:ay->Operator->ay->Pos->Bool):Bool:=if h:e.ctorIdx=7 then PySem.Stmt.AugAssign.elim (motive_2:=λö=>Bool) e h k else false
@[elab_as_elim] theorem Fp {e:PySem.Stmt} {k:ay->Operator->ay->Pos->Bool} {C:PySem.Stmt->Prop} (h:Lg e k=true) (f:∀x0 x1 x2 x3,k x0 x1 x2 x3=true->C (.AugAssign x0 x1 x2 x3)):C e:=
 let⟨q,h⟩:=cw h
 PySem.Stmt.AugAssign.elim (motive_2:=λe=>∀q:e.ctorIdx=7,PySem.Stmt.AugAssign.elim (motive_2:=λö=>Bool) e q k=true->C e) e q (λx0 x1 x2 x3 ö h=>f x0 x1 x2 x3 h) q h
noncomputable def Ld (e:PySem.Stmt) (k:ay->ay->List eF->List eF->Pos->Bool):Bool:=if h:e.ctorIdx=9 then PySem.Stmt.For.elim (motive_2:=λö=>Bool) e h k else false
@[elab_as_elim] theorem Fn {e:PySem.Stmt} {k:ay->ay->List eF->List eF->Pos->Bool} {C:PySem.Stmt->Prop} (h:Ld e k=true) (f:∀x0 x1 x2 x3 x4,k x0 x1 x2 x3 x4=true->C (.For x0 x1 x2 x3 x4)):C e:=
 let⟨q,h⟩:=cw h
 PySem.Stmt.For.elim (motive_2:=λe=>∀q:e.ctorIdx=9,PySem.Stmt.For.elim (motive_2:=λö=>Bool) e q k=true->C e) e q (λx0 x1 x2 x3 x4 ö h=>f x0 x1 x2 x3 x4 h) q h
noncomputable def sWh (e:PySem.Stmt) (k:ay->List eF->List eF->Pos->Bool):Bool:=if h:e.ctorIdx=11 then PySem.Stmt.While.elim (motive_2:=λö=>Bool) e h k else false
@[elab_as_elim] theorem IN {e:PySem.Stmt} {k:ay->List eF->List eF->Pos->Bool} {C:PySem.Stmt->Prop} (h:sWh e k=true) (f:∀x0 x1 x2 x3,k x0 x1 x2 x3=true->C (.While x0 x1 x2 x3)):C e:=
 let⟨q,h⟩:=cw h
 PySem.Stmt.While.elim (motive_2:=λe=>∀q:e.ctorIdx=11,PySem.Stmt.While.elim (motive_2:=λö=>Bool) e q k=true->C e) e q (λx0 x1 x2 x3 ö h=>f x0 x1 x2 x3 h) q h
noncomputable def sIf (e:PySem.Stmt) (k:ay->List eF->List eF->Pos->Bool):Bool:=if h:e.ctorIdx=12 then PySem.Stmt.If.elim (motive_2:=λö=>Bool) e h k else false
@[elab_as_elim] theorem IP {e:PySem.Stmt} {k:ay->List eF->List eF->Pos->Bool} {C:PySem.Stmt->Prop} (h:sIf e k=true) (f:∀x0 x1 x2 x3,k x0 x1 x2 x3=true->C (.If x0 x1 x2 x3)):C e:=
 let⟨q,h⟩:=cw h
 PySem.Stmt.If.elim (motive_2:=λe=>∀q:e.ctorIdx=12,PySem.Stmt.If.elim (motive_2:=λö=>Bool) e q k=true->C e) e q (λx0 x1 x2 x3 ö h=>f x0 x1 x2 x3 h) q h
noncomputable def Lb (e:PySem.Stmt) (k:Option ay->Option ay->Pos->Bool):Bool:=if h:e.ctorIdx=16 then PySem.Stmt.Raise.elim (motive_2:=λö=>Bool) e h k else false
@[elab_as_elim] theorem Fm {e:PySem.Stmt} {k:Option ay->Option ay->Pos->Bool} {C:PySem.Stmt->Prop} (h:Lb e k=true) (f:∀x0 x1 x2,k x0 x1 x2=true->C (.Raise x0 x1 x2)):C e:=
 let⟨q,h⟩:=cw h
 PySem.Stmt.Raise.elim (motive_2:=λe=>∀q:e.ctorIdx=16,PySem.Stmt.Raise.elim (motive_2:=λö=>Bool) e q k=true->C e) e q (λx0 x1 x2 ö h=>f x0 x1 x2 h) q h
noncomputable def La (e:PySem.Stmt) (k:List eF->List ExceptHandler->List eF->List eF->Pos->Bool):Bool:=if h:e.ctorIdx=17 then PySem.Stmt.Try.elim (motive_2:=λö=>Bool) e h k else false
@[elab_as_elim] theorem Fk {e:PySem.Stmt} {k:List eF->List ExceptHandler->List eF->List eF->Pos->Bool} {C:PySem.Stmt->Prop} (h:La e k=true) (f:∀x0 x1 x2 x3 x4,k x0 x1 x2 x3 x4=true->C (.Try x0 x1 x2 x3 x4)):C e:=
 let⟨q,h⟩:=cw h
 PySem.Stmt.Try.elim (motive_2:=λe=>∀q:e.ctorIdx=17,PySem.Stmt.Try.elim (motive_2:=λö=>Bool) e q k=true->C e) e q (λx0 x1 x2 x3 x4 ö h=>f x0 x1 x2 x3 x4 h) q h
noncomputable def sEx (e:PySem.Stmt) (k:ay->Pos->Bool):Bool:=if h:e.ctorIdx=24 then PySem.Stmt.Expr.elim (motive_2:=λö=>Bool) e h k else false
@[elab_as_elim] theorem IR {e:PySem.Stmt} {k:ay->Pos->Bool} {C:PySem.Stmt->Prop} (h:sEx e k=true) (f:∀x0 x1,k x0 x1=true->C (.Expr x0 x1)):C e:=
 let⟨q,h⟩:=cw h
 PySem.Stmt.Expr.elim (motive_2:=λe=>∀q:e.ctorIdx=24,PySem.Stmt.Expr.elim (motive_2:=λö=>Bool) e q k=true->C e) e q (λx0 x1 ö h=>f x0 x1 h) q h
noncomputable def sBr (e:PySem.Stmt) (k:Pos->Bool):Bool:=if h:e.ctorIdx=26 then PySem.Stmt.Break.elim (motive_2:=λö=>Bool) e h k else false
@[elab_as_elim] theorem IS {e:PySem.Stmt} {k:Pos->Bool} {C:PySem.Stmt->Prop} (h:sBr e k=true) (f:∀x0,k x0=true->C (.Break x0)):C e:=
 let⟨q,h⟩:=cw h
 PySem.Stmt.Break.elim (motive_2:=λe=>∀q:e.ctorIdx=26,PySem.Stmt.Break.elim (motive_2:=λö=>Bool) e q k=true->C e) e q (λx0 ö h=>f x0 h) q h
noncomputable def F8 (e:ME) (k:String->Bool):Bool:=if h:e.ctorIdx=0 then ME.var.elim (motive_1:=λö=>Bool) e h k else false
@[elab_as_elim] theorem uQ {e:ME} {k:String->Bool} {C:ME->Prop} (h:F8 e k=true) (f:∀x0,k x0=true->C (.var x0)):C e:=
 let⟨q,h⟩:=cw h
 ME.var.elim (motive_1:=λe=>∀q:e.ctorIdx=0,ME.var.elim (motive_1:=λö=>Bool) e q k=true->C e) e q (λx0 ö h=>f x0 h) q h
noncomputable def LH (e:ME) (k:xl->ME->ME->Bool):Bool:=if h:e.ctorIdx=10 then ME.cmp.elim (motive_1:=λö=>Bool) e h k else false
@[elab_as_elim] theorem Gb {e:ME} {k:xl->ME->ME->Bool} {C:ME->Prop} (h:LH e k=true) (f:∀x0 x1 x2,k x0 x1 x2=true->C (.cmp x0 x1 x2)):C e:=
 let⟨q,h⟩:=cw h
 ME.cmp.elim (motive_1:=λe=>∀q:e.ctorIdx=10,ME.cmp.elim (motive_1:=λö=>Bool) e q k=true->C e) e q (λx0 x1 x2 ö h=>f x0 x1 x2 h) q h
noncomputable def LF (e:ME) (k:ME->Bool):Bool:=if h:e.ctorIdx=11 then ME.not.elim (motive_1:=λö=>Bool) e h k else false
@[elab_as_elim] theorem F9 {e:ME} {k:ME->Bool} {C:ME->Prop} (h:LF e k=true) (f:∀x0,k x0=true->C (.not x0)):C e:=
 let⟨q,h⟩:=cw h
 ME.not.elim (motive_1:=λe=>∀q:e.ctorIdx=11,ME.not.elim (motive_1:=λö=>Bool) e q k=true->C e) e q (λx0 ö h=>f x0 h) q h
noncomputable def mBa (e:ME) (k:ME->ME->Bool):Bool:=if h:e.ctorIdx=12 then ME.band.elim (motive_1:=λö=>Bool) e h k else false
@[elab_as_elim] theorem Di {e:ME} {k:ME->ME->Bool} {C:ME->Prop} (h:mBa e k=true) (f:∀x0 x1,k x0 x1=true->C (.band x0 x1)):C e:=
 let⟨q,h⟩:=cw h
 ME.band.elim (motive_1:=λe=>∀q:e.ctorIdx=12,ME.band.elim (motive_1:=λö=>Bool) e q k=true->C e) e q (λx0 x1 ö h=>f x0 x1 h) q h
noncomputable def mBo (e:ME) (k:ME->ME->Bool):Bool:=if h:e.ctorIdx=13 then ME.bor.elim (motive_1:=λö=>Bool) e h k else false
@[elab_as_elim] theorem Dh {e:ME} {k:ME->ME->Bool} {C:ME->Prop} (h:mBo e k=true) (f:∀x0 x1,k x0 x1=true->C (.bor x0 x1)):C e:=
 let⟨q,h⟩:=cw h
 ME.bor.elim (motive_1:=λe=>∀q:e.ctorIdx=13,ME.bor.elim (motive_1:=λö=>Bool) e q k=true->C e) e q (λx0 x1 ö h=>f x0 x1 h) q h
noncomputable def LJ (e:ME) (k:ME->String->Bool):Bool:=if h:e.ctorIdx=15 then ME.attr.elim (motive_1:=λö=>Bool) e h k else false
@[elab_as_elim] theorem Gc {e:ME} {k:ME->String->Bool} {C:ME->Prop} (h:LJ e k=true) (f:∀x0 x1,k x0 x1=true->C (.attr x0 x1)):C e:=
 let⟨q,h⟩:=cw h
 ME.attr.elim (motive_1:=λe=>∀q:e.ctorIdx=15,ME.attr.elim (motive_1:=λö=>Bool) e q k=true->C e) e q (λx0 x1 ö h=>f x0 x1 h) q h
noncomputable def LG (e:ME) (k:ME->List String->String->ME->Option ME->Bool):Bool:=if h:e.ctorIdx=26 then ME.comp.elim (motive_1:=λö=>Bool) e h k else false
@[elab_as_elim] theorem Ga {e:ME} {k:ME->List String->String->ME->Option ME->Bool} {C:ME->Prop} (h:LG e k=true) (f:∀x0 x1 x2 x3 x4,k x0 x1 x2 x3 x4=true->C (.comp x0 x1 x2 x3 x4)):C e:=
 let⟨q,h⟩:=cw h
 ME.comp.elim (motive_1:=λe=>∀q:e.ctorIdx=26,ME.comp.elim (motive_1:=λö=>Bool) e q k=true->C e) e q (λx0 x1 x2 x3 x4 ö h=>f x0 x1 x2 x3 x4 h) q h
noncomputable def AR (e:MT) (k:String->Bool):Bool:=if h:e.ctorIdx=0 then MT.var.elim (motive_1:=λö=>Bool) e h k else false
@[elab_as_elim] theorem oh {e:MT} {k:String->Bool} {C:MT->Prop} (h:AR e k=true) (f:∀x0,k x0=true->C (.var x0)):C e:=
 let⟨q,h⟩:=cw h
 MT.var.elim (motive_1:=λe=>∀q:e.ctorIdx=0,MT.var.elim (motive_1:=λö=>Bool) e q k=true->C e) e q (λx0 ö h=>f x0 h) q h
noncomputable def IG (e:MT) (k:List MT->Bool):Bool:=if h:e.ctorIdx=1 then MT.tup.elim (motive_1:=λö=>Bool) e h k else false
@[elab_as_elim] theorem zr {e:MT} {k:List MT->Bool} {C:MT->Prop} (h:IG e k=true) (f:∀x0,k x0=true->C (.tup x0)):C e:=
 let⟨q,h⟩:=cw h
 MT.tup.elim (motive_1:=λe=>∀q:e.ctorIdx=1,MT.tup.elim (motive_1:=λö=>Bool) e q k=true->C e) e q (λx0 ö h=>f x0 h) q h
noncomputable def KW (e:MT) (k:ME->String->Bool):Bool:=if h:e.ctorIdx=2 then MT.attr.elim (motive_1:=λö=>Bool) e h k else false
@[elab_as_elim] theorem Fc {e:MT} {k:ME->String->Bool} {C:MT->Prop} (h:KW e k=true) (f:∀x0 x1,k x0 x1=true->C (.attr x0 x1)):C e:=
 let⟨q,h⟩:=cw h
 MT.attr.elim (motive_1:=λe=>∀q:e.ctorIdx=2,MT.attr.elim (motive_1:=λö=>Bool) e q k=true->C e) e q (λx0 x1 ö h=>f x0 x1 h) q h
noncomputable def KV (e:MT) (k:ME->ME->Bool):Bool:=if h:e.ctorIdx=3 then MT.idx.elim (motive_1:=λö=>Bool) e h k else false
@[elab_as_elim] theorem Fb {e:MT} {k:ME->ME->Bool} {C:MT->Prop} (h:KV e k=true) (f:∀x0 x1,k x0 x1=true->C (.idx x0 x1)):C e:=
 let⟨q,h⟩:=cw h
 MT.idx.elim (motive_1:=λe=>∀q:e.ctorIdx=3,MT.idx.elim (motive_1:=λö=>Bool) e q k=true->C e) e q (λx0 x1 ö h=>f x0 x1 h) q h
noncomputable def Lk (e:MS) (k:ME->Bool):Bool:=if h:e.ctorIdx=6 then MS.ret.elim (motive_1:=λö=>Bool) e h k else false
@[elab_as_elim] theorem FA {e:MS} {k:ME->Bool} {C:MS->Prop} (h:Lk e k=true) (f:∀x0,k x0=true->C (.ret x0)):C e:=
 let⟨q,h⟩:=cw h
 MS.ret.elim (motive_1:=λe=>∀q:e.ctorIdx=6,MS.ret.elim (motive_1:=λö=>Bool) e q k=true->C e) e q (λx0 ö h=>f x0 h) q h
noncomputable def rFz (e:MS) (k:ME->Bool):Bool:=if h:e.ctorIdx=10 then MS.freeze.elim (motive_1:=λö=>Bool) e h k else false
@[elab_as_elim] theorem I2 {e:MS} {k:ME->Bool} {C:MS->Prop} (h:rFz e k=true) (f:∀x0,k x0=true->C (.freeze x0)):C e:=
 let⟨q,h⟩:=cw h
 MS.freeze.elim (motive_1:=λe=>∀q:e.ctorIdx=10,MS.freeze.elim (motive_1:=λö=>Bool) e q k=true->C e) e q (λx0 ö h=>f x0 h) q h
section
variable {α:Type}
noncomputable def lB (l:List α):Bool:=l.isEmpty
@[elab_as_elim] theorem dZ {l:List α} {C:List α->Prop} (h:lB l=true) (f:C []):C l:=by cases l;exact f;cases h
noncomputable def mD (l:List α) (k:α->List α->Bool):Bool:=match l with|[]=>false|a::l=>k a l
@[elab_as_elim] theorem gd {l:List α} {k:α->List α->Bool} {C:List α->Prop} (h:mD l k=true) (f:∀a l,k a l=true->C (a::l)):C l:=by cases l;cases h;exact f _ _ h
noncomputable def ny (l:Option α):Bool:=l.isNone
@[elab_as_elim] theorem io {l:Option α} {C:Option α->Prop} (h:ny l=true) (f:C none):C l:=by cases l;exact f;cases h
noncomputable def im (l:Option α) (k:α->Bool):Bool:=match l with|none=>false|some a=>k a
@[elab_as_elim] theorem gF {l:Option α} {k:α->Bool} {C:Option α->Prop} (h:im l k=true) (f:∀a,k a=true->C (some a)):C l:=by cases l;cases h;exact f _ h
theorem an {a b:Bool} {C:Prop} (h:(a&&b)=true) (f:a=true->b=true->C):C:=by cases a;cases h;exact f rfl h
theorem ro {a b:Bool} {C:Prop} (h:(a||b)=true) (f:a=true->C) (g:b=true->C):C:=by cases a;exact g h;exact f rfl
theorem nn {b:Bool} (h:(!b)=true):b=false:=by cases b;rfl;cases h
theorem ff {C:Prop} (h:false=true):C:=nomatch h
noncomputable def o1 (l:List α) (k:α->Bool):Bool:=mD l λa l=>lB l&&k a
@[elab_as_elim] theorem ip {l:List α} {k:α->Bool} {C:List α->Prop} (h:o1 l k=true) (f:∀a,k a=true->C [a]):C l:=
 gd h λa ö h=>an h λh1 h2=>dZ h1 (f a h2)
noncomputable def o2 (l:List α) (k:α->α->Bool):Bool:=mD l λa l=>o1 l (k a)
@[elab_as_elim] theorem t4 {l:List α} {k:α->α->Bool} {C:List α->Prop} (h:o2 l k=true) (f:∀a b,k a b=true->C [a,b]):C l:=
 gd h λa ö h=>ip h (f a)
end
noncomputable def dE (e:ay):Bool:=e.ctorIdx !=22
theorem dI {e:ay} {es:List ay} (h:dE e=true) (env:Env):aX (e::es) env=(false,eval e env)::aX es env:=by
 cases e<;>first|rfl|exact ff h
theorem kv {pos:Pos} {env:Env}:∀{es:List ay},es.all dE=true->(ee pos (aX es env)).any (·.1)=false
 |[],_=>rfl
 |e::es,h=>an h λh h'=>by
  rw[dI h];exact kv (es:=es) h'
theorem vR {env:Env}:∀{es:List ay},es.all dE=true->(aX es env).all (!·.1)=true
 |[],_=>rfl
 |e::es,h=>an h λh h'=>by
  rw[dI h];exact vR (es:=es) h'
noncomputable def iJ (e:ay):Bool:=e.ctorIdx !=16
theorem AA {o:ay} (h:iJ o=true) (x:Str) (env:Env) (whole:Sem ag):attributeBase o x env whole=whole:=by
 cases o<;>first|rfl|exact ff h
noncomputable def Cw (e:ay):Bool:=!([0,3,5,15].elem e.ctorIdx)
theorem AQ {e:ay} (h:Cw e=true) (env:Env) (whole:Sem ag):isTrue e env whole=(do let v<-whole;standAt e.pos;holding [v] (truthy v)):=by
 cases e<;>first|rfl|exact ff h
noncomputable def v9 (e:ay):Bool:=e.ctorIdx !=26
theorem IH {b:ay} (h:v9 b=true) (o i:ag):subscripted b false o i=operate [o,i] (getItem o i):=by
 cases b<;>first|rfl|exact ff h
theorem wY {pos:Pos}:∀{l:List (Bool×Sem ag)},l.all (!·.1)=true->(ee pos l).all (!·.1)=true
 |[],_=>rfl
 |(b,t)::l,h=>an h λh h'=>(congrArg (· &&(ee pos l).all (!·.1)) h).trans (wY (l:=l) h')
theorem ow {o:ay} {x:Str} {apos pos:Pos} {es:List ay} (hb:iJ o=true) (hs:es.all dE=true) (hl:es.length<30) (hp:(apos.endLine==pos.line)=true) (env:Env):
  eval (.Call (.Attribute o x apos) es [] pos) env=(do
   let ov<-eval o env
   standAt apos.atName
   let(f,first)<-holding [ov] (getMethod ov x (do return (<-importBound o env).getD true))
   e7 pos f first (ee pos (aX es env)) []):=by
 have hf:methodCallForm (es.length+0) (ee pos (aX es env)) []=true:=by
  unfold methodCallForm;rw[wY (vR hs)];exact decide_eq_true hl
 have e1:eval (.Call (.Attribute o x apos) es [] pos) env=(do
   let ov<-attributeBase o x env (eval o env)
   standAt apos.atName
   methodCall o x apos pos env ov (es.length+0) (ee pos (aX es env)) []):=rfl
 rw[e1,AA hb];unfold methodCall calleeOf methodCallPos;rw[hf,hp];rfl
theorem G8 {e:ay} {x:Str} {pos:Pos} (hb:iJ e=true) (env:Env):eval (.Attribute e x pos) env=(do
   let o<-eval e env
   standAt pos.atName
   let r<-holding [o] (getAttr o x true)
   letTemporaryGo e o r
   pure r):=by
 rw[<-AA hb x env (eval e env)];rfl
noncomputable def x5 (e:ay):Bool:=e.ctorIdx !=7
theorem pf {e:ay} (h:x5 e=true) (env:Env) (x:ag):foldedSetIterable e env x=pure x:=by
 cases e<;>first|rfl|exact ff h
noncomputable def rT (e:ay):Bool:=[8,9,10].elem e.ctorIdx
theorem u7 {v:ay} (h:rT v=false) (t:Option ay) (line:Nat) (env:Env):swapsWith v t line env=pure false:=by
 cases v<;>first|rfl|exact ff h.symm
theorem j7 {t:ay} {ts:List ay} (h:dE t=true) (env:Env):assignEach (t::ts) env=(false,assign t env)::assignEach ts env:=by
 cases t<;>first|rfl|exact ff h
noncomputable def LY (y:Str) (x:String):Bool:=y==aa x&&!(y==("__debug__":Str))
theorem yd {y:Str} {x:String} {C:Prop} (h:LY y x=true) (f:y=aa x->(y==("__debug__":Str))=false->C):C:=an h λh h'=>f (eq_of_beq h) (nn h')
noncomputable abbrev kd (sc:bD) (y:Str) (k:NameKind):Bool:=sc.names.lookup y==some k
noncomputable def gN (sc:bD) (y:Str) (x:String):Bool:=LY y x&&kd sc y .globalImplicit
@[elab_as_elim] theorem mJ {sc:bD} {y:Str} {x:String} {C:Str->Prop} (h:gN sc y x=true) (f:sc.names.lookup (aa x)=some .globalImplicit->(aa x==("__debug__":Str))=false->C (aa x)):C y:=
 an h λh h'=>yd h λe d=>by subst e;exact f (eq_of_beq h') d
noncomputable def lc (sc:bD) (y:Str):Bool:=kd sc y .local||kd sc y .cell
theorem z1 {sc:bD} {y:Str} (h:lc sc y=true):sc.names.lookup y=some .local\/sc.names.lookup y=some .cell:=ro h (λh=>.inl (eq_of_beq h)) λh=>.inr (eq_of_beq h)
noncomputable def biL:List String:=["len","min","max","abs","divmod","ord","sorted"]
noncomputable def biT:List String:=["list","int"]
noncomputable def Df:List (String×String×Addr):=[("Scanner.enter","enter",171),("Scanner.blanks","blanks",178),("Scanner.next_is","next_is",185),("Scanner.at_end","at_end",192),("Scanner.sign","sign",199),("Scanner.is_word","is_word",206),("Scanner.word","word",213)]
noncomputable def Jh:List (String×String×Addr×Addr):=[("Run.__init__","Run",83,80),("Run.__init__mut","Run",83,80),("Redirect.__init__","Redirect",104,101),("Pair.__init__","Pair",125,122),("Back.__init__","Back",146,143),("Scanner.__init__","Scanner",216,164)]
noncomputable abbrev Ck:=bD->ay->ME->Bool
section
variable (sc:bD) (r:ay->ME->Bool)
noncomputable def sy (es:List ay):List ME->Bool:=es.rec (λms=>lB ms) λe ö ih ms=>mD ms λm ms=>dE e&&r e m&&ih ms
noncomputable def HZ (c:ay) (cs:List String):Bool:=
 (jM c λy ö=>o1 cs λc=>LY y c&&kd sc y .globalImplicit&&((c=="str"&&gV c==none)||(decide (c≠"str"/\c≠"tuple")&&im (pB.lookup c) λC=>gV c==some (.ref C))))||
 rF c λes ö ö=>o2 es λa b=>jM a λy ö=>jM b λz ö=>o2 cs λc d=>gN sc y c&&gN sc z d&&decide (c≠"str"/\c≠"tuple"/\d≠"str"/\d≠"tuple")&&(im (pB.lookup c) λC=>gV c==some (.ref C))&&im (pB.lookup d) λC=>gV d==some (.ref C)
noncomputable def Md (x:String) (e:ay):Bool:=jM e λy ö=>LY y x&&(kd sc y .local||kd sc y .cell||(kd sc y .free&&!(y==("__classdict__":Str))))
noncomputable def D7 (op:PySem.BoolOp) (es:List ay):ME->Bool:=es.rec (λö=>false) λe es ih m=>
 (lB es&&r e m)||((op==.And&&mBa m λa b=>r e a&&ih b)||(op==.Or&&mBo m λa b=>r e a&&ih b))
noncomputable def Mh (k:Nat):ay->ME->Bool:=k.rec (λö ö=>false) λö ih e m=>
 (Jd e λa ops bs ö=>o1 ops λop'=>o1 bs λb=>LH m λop ma mb=>ue op==op'&&r a ma&&r b mb&&!behindInMarks op' b)||
 ((Ls e λop a ö=>op==.Not&&LF m λma=>ih a ma)||((qI e λop es ö=>D7 ih op es m)||(Cw e&&r e m)))
noncomputable def ckO (e:Option ay) (m:Option ME):Bool:=(ny e&&ny m)||im e λe=>im m λm=>r e m
noncomputable def ckI (target iter:ay) (kind:String) (m:ME):Bool:=
 (kind==""&&r iter m)||((kind=="str"&&jM target λö ö=>r iter m)||
 zO iter λf es kw ö=>lB kw&&jM f λy ö=>o1 es λe=>dE e&&r e m&&(
  (kind=="range"&&gN sc y "range"&&gV "range"==none&&jM target λö ö=>true)||(kind=="enumerate"&&gN sc y "enumerate"&&gV "enumerate"==none&&rF target λö ö ö=>true)))
noncomputable def Mf (t:ay) (xs:List String):Bool:=
 (jM t λy ö=>o1 xs λx=>y==aa x&&lc sc y)||rF t λts ö ö=>o2 ts λa b=>jM a λy ö=>jM b λz ö=>o2 xs λx u=>y==aa x&&z==aa u&&lc sc y&&lc sc z
noncomputable def HX (t:ay) (xs:List String):Bool:=
 (jM t λy ö=>o1 xs λx=>y==aa x&&kd sc y .local)||rF t λts ö ö=>o2 ts λa b=>jM a λy ö=>jM b λz ö=>o2 xs λx u=>y==aa x&&z==aa u&&decide (x≠u)&&kd sc y .local&&kd sc z .local
noncomputable def Mk (scope:bD) (tgt:List String):Bool:=
 scope.kind==.function&&(scope.names.all λp=>(p.2 !=.local||kd scope p.1 .local)&&p.2 !=.cell&&(p.2 !=.free||kd sc p.1 .cell)&&
  (p.2 !=.local||(".0"::tgt).any λy=>aa y==p.1)&&(p.2 !=.free||!((".0"::tgt).any λy=>aa y==p.1)))
noncomputable def D' (es:List ay) (m:Option ME):Bool:=(lB es&&ny m)||o1 es λc=>im m λm=>Mh r 20 c m
noncomputable def K5 (f:String) (es:List ay):Bool:=(lB es&&(f=="strip"||f=="pop"))||mD es λö ö=>f=="append"||(f=="count"||(f=="split"||f=="join"))
noncomputable def oC (e:ay) (k:Str->ay->List ay->Bool):Bool:=zO e λf es kw ö=>lB kw&&jM f λy ö=>mD es λe1 es=>k y e1 es
noncomputable def oM (e:ay) (k:ay->Str->List ay->Bool):Bool:=zO e λf es kw p=>lB kw&&C7 f λx y ap=>iJ x&&decide (es.length<30)&&ap.endLine==p.line&&k x y es
noncomputable def oCm (e:ay) (k:ay->ay->ay->List ay->bD->Pos->Bool):Bool:=oLC e λelt cs scope p=>o1 cs λc=>c.is_async==0&&k elt c.target c.iter c.ifs scope p
noncomputable def JV (ih:Ck) (elt target iter:ay) (ifs:List ay) (scope:bD) (melt:ME) (tgt:List String) (kind:String) (mit:ME) (cond:Option ME):Bool:=
 Mk sc scope tgt&&ckI sc (ih sc) target iter kind mit&&HX (jn scope sc) target tgt&&ih (jn scope sc) elt melt&&D' (ih (jn scope sc)) ifs cond&&x5 iter
noncomputable def ckF (ih:Ck) (e:ay) (m:ME):Bool:=
  match m with
  |.var x=>Md sc x e
  |.glob x=>jM e λy ö=>gN sc y x
  |.cint i=>(v8 e λc ö ö=>oIn c λj=>decide (j=i))||Ls e λop a ö=>op==.USub&&v8 a λc ö ö=>oIn c λj=>decide (i=-j)
  |.cstr s=>v8 e λc ö ö=>oSt c λx=>x==aa s
  |.cnone=>v8 e λc ö ö=>decide (c=.none)
  |.cbool b=>v8 e λc ö ö=>oBo c λd=>d==b
  |.list ms=>Ja e λes ö=>sy (ih sc) es ms
  |.newl ms=>Ja e λes ö=>sy (ih sc) es ms
  |.tup ms=>rF e λes ö ö=>sy (ih sc) es ms&&decide (ms.length<=1000)
  |.bin op a b=>Lu e λx o y ö=>decide (FO op=o)&&ih sc x a&&ih sc y b
  |.cmp op a b=>Jd e λx ops ys ö=>o1 ops λo=>o1 ys λy=>decide (ue op=o)&&ih sc x a&&ih sc y b&&!behindInMarks o y
  |.not a=>Ls e λop x ö=>op==.Not&&ih sc x a
  |.band a b=>qI e λop es ö=>D7 (ih sc) op es (.band a b)
  |.bor a b=>qI e λop es ö=>D7 (ih sc) op es (.bor a b)
  |.ite c a b=>oIf e λz x y ö=>Mh (ih sc) 20 z c&&ih sc x a&&ih sc y b
  |.attr o x=>C7 e λv y ö=>y==aa x&&iJ v&&ih sc v o
  |.idx o i=>C5 e λx y ö=>v9 y&&ih sc x o&&ih sc y i
  |.slc o lo hi=>C5 e λx s ö=>I9 s λl u st ö=>ny st&&ih sc x o&&ckO (ih sc) l lo&&ckO (ih sc) u hi
  |.rev o=>C5 e λx s ö=>I9 s λl u st ö=>ny l&&ny u&&im st λst=>Ls st λop a ö=>op==.USub&&v8 a λc ö ö=>oIn c λj=>decide (j=1)&&ih sc x o
  |.isin o cs=>oC e λy x es=>o1 es λc=>gN sc y "isinstance"&&gV "isinstance"==none&&dE x&&dE c&&ih sc x o&&HZ sc c cs
  |.call f ms=>oC e λy e1 es=>gN sc y f&&(im (B9.lookup f) λa=>gV f==some (.ref a))&&sy (ih sc) (e1::es) ms
  |.meth o c f ms=>oM e λx y es=>decide (c="Scanner")&&(im (Df.lookup f) λq=>y==aa q.1)&&ih sc x o&&sy (ih sc) es ms
  |.new c _ ini ms=>oC e λy e1 es=>gN sc y c&&(im (Jh.lookup ini) λq=>decide (q.1=c)&&gV c==some (.ref q.2.1))&&sy (ih sc) (e1::es) ms
  |.bi f ms=>oC e λy e1 es=>gN sc y f&&gV f==none&&(biL.contains f||biT.contains f)&&sy (ih sc) (e1::es) ms
  |.sm f o ms=>oM e λx y es=>y==aa f&&K5 f es&&ih sc x o&&sy (ih sc) es ms
  |.copyl o=>oC e λy x es=>lB es&&gN sc y "list"&&gV "list"==none&&dE x&&ih sc x o
  |.comp melt tgt kind mit cond=>oCm e λelt target iter ifs scope ö=>JV sc ih elt target iter ifs scope melt tgt kind mit cond
end
noncomputable def ck (k:Nat):Ck:=k.rec (λö ö ö=>false) λö ih sc e m=>ckF sc ih e m
section
variable {P:PW} {cls:ag} {cf:String->List PV->MM PV} {n:Nat×Nat} {sc:bD} {r:ay->ME->Bool}
theorem js (hr:∀e m,r e m=true->SE P cls cf n sc e m):∀{es:List ay} {ms:List ME},sy r es ms=true->vp P cls cf n sc es ms
 |[],_,h=>dZ h .nil
 |e::_,_,h=>gd h λö ö h=>an h λh h3=>an h λh1 h2=>.cons (hr _ _ h2) (js hr h3) (dI h1)
theorem jy:∀{es:List ay} {ms:List ME},sy r es ms=true->es.all dE=true
 |[],_,_=>rfl
 |e::es,_,h=>gd h λö ö h=>an h λh h3=>an h λh1 ö=>by show(dE e&&es.all dE)=true;rw[h1,jy h3];rfl
theorem wT:∀{es:List ay} {ms:List ME},sy r es ms=true->ms.length=es.length
 |[],_,h=>dZ h rfl
 |_::es,_,h=>gd h λö ö h=>an h λö h3=>congrArg (· +1) (wT h3)
theorem yD (hr:∀e m,r e m=true->ST P cls cf n sc e m) {op:PySem.BoolOp}:∀{es:List ay} {m:ME},D7 r op es m=true->Ca P cls cf n sc op es m
 |[],_,h=>ff h
 |e::es,m,h=>ro h (λh=>an h λh1 h2=>dZ h1 (by
   cases op
   ·exact .and1 (hr _ _ h2)
   ·exact .or1 (hr _ _ h2)))
  λh=>ro h (λh=>an h λh1 h2=>by rw[eq_of_beq h1]at h2⊢;exact Di h2 λö ö h=>an h λh h'=>.and (hr _ _ h) (yD hr h'))
   λh=>an h λh1 h2=>by rw[eq_of_beq h1]at h2⊢;exact Dh h2 λö ö h=>an h λh h'=>.or (hr _ _ h) (yD hr h')
theorem u' (hr:∀e m,r e m=true->SE P cls cf n sc e m) {op:PySem.BoolOp}:∀{es:List ay} {m:ME},D7 r op es m=true->EQ P cls cf n sc op es m
 |[],_,h=>ff h
 |e::es,m,h=>ro h (λh=>an h λh1 h2=>dZ h1 (.one (hr _ _ h2)))
  λh=>ro h (λh=>an h λh1 h2=>by rw[eq_of_beq h1]at h2⊢;exact Di h2 λö ö h=>an h λa1 a2=>by cases es;exact ff a2;exact .and (hr _ _ a1) (u' hr a2))
   λh=>an h λh1 h2=>by rw[eq_of_beq h1]at h2⊢;exact Dh h2 λö ö h=>an h λa1 a2=>by cases es;exact ff a2;exact .or (hr _ _ a1) (u' hr a2)
theorem pC (hr:∀e m,r e m=true->SE P cls cf n sc e m):∀{k:Nat} {e:ay} {m:ME},Mh r k e m=true->ST P cls cf n sc e m
 |0,_,_,h=>ff h
 |k+1,e,m,h=>ro h
  (λh=>zN h λö ops bs ö h=>ip h λop h=>ip h λb h=>Gb h λö ö ö h=>
   an h λh h4=>an h λh h3=>an h λh1 h2=>.cmp (eq_of_beq h1) (hr _ _ h2) (hr _ _ h3) (nn h4))
  λh=>ro h (λh=>uJ h λö ö ö h=>an h λh1 h2=>by rw[eq_of_beq h1];exact F9 h2 λö h=>.not (pC hr h))
   λh=>ro h (λh=>nK h λö ö ö h=>.bool (yD (λö ö q=>pC hr q) h)) λh=>an h λh1 h2=>.plain (hr _ _ h2) (AQ h1)
theorem D8 (hr:∀e m,r e m=true->SE P cls cf n sc e m) {e:Option ay} {m:Option ME} (h:ckO r e m=true):Kf P cls cf n sc e m:=
 ro h (λh=>an h λh1 h2=>io h1 (io h2 .none)) λh=>gF h λö h=>gF h λö h=>.some (hr _ _ h)
theorem ug (hr:∀e m,r e m=true->SE P cls cf n sc e m) {es:List ay} {m:Option ME} (h:D' r es m=true):sP P cls cf n sc es m:=
 ro h (λh=>an h λh1 h2=>dZ h1 (io h2 .none)) λh=>ip h λö h=>gF h λö h=>.one (pC hr h)
theorem GQ {t:ay} {tgt:List String} (h:Mf sc t tgt=true):TG P cls n sc t tgt:=
 ro h (λh=>dQ h λy ö h=>ip h λx h=>an h λh1 h2=>.name (eq_of_beq h1) (z1 h2))
  λh=>iS h λts ö ö h=>t4 h λa b h=>dQ h λy p h=>dQ h λz ö h=>
   t4 h λö ö h=>an h λh h4=>an h λh h3=>an h λh1 h2=>.two (eq_of_beq h1) (eq_of_beq h2) (z1 h3) (z1 h4)
theorem wQ {t:ay} {tgt:List String} (h:HX sc t tgt=true):Hb P sc t tgt:=
 ro h (λh=>dQ h λy ö h=>ip h λx h=>an h λh1 h2=>.name (eq_of_beq h1) (eq_of_beq h2))
  λh=>iS h λts ö ö h=>t4 h λa b h=>dQ h λy p h=>dQ h λz ö h=>
   t4 h λö ö h=>an h λh h5=>an h λh h4=>an h λh h3=>an h λh1 h2=>.two (eq_of_beq h1) (eq_of_beq h2) (of_decide_eq_true h3) (eq_of_beq h4) (eq_of_beq h5)
theorem nb {k:NameKind} {b:Bool} {C:Prop} (h:(k !=k||b)=true) (f:b=true->C):C:=ro h (λh=>absurd rfl (bne_iff_ne.mp h)) f
theorem Az {scope:bD} {tgt:List String} (h:Mk sc scope tgt=true):pK scope sc tgt:=an h λh1 h=>by
 have h2:=λ{x k} (hx:scope.names.lookup x=some k)=>aJ.mp h _ (mem_of_lookup hx);refine⟨eq_of_beq h1,λx hx hl=>?_,λy hy=>?_,λx hx=>?_,λx hx=>?_,λy hy=>?_,λp hp hf=>?_,λx hx=>?_⟩
 ·exact an (aJ.mp h x hx) λh ö=>an h λh ö=>an h λh ö=>an h λh ö=>ro h (λh=>absurd hl (bne_iff_ne.mp h)) eq_of_beq
 ·exact an (h2 hy) λh ö=>an h λö h=>nb h λh=>let⟨z,hz,e⟩:=sX.mp h;dy (eq_of_beq e)▸hz
 ·exact an (h2 hx) λh ö=>an h λh ö=>an h λh ö=>an h λö h=>bne_iff_ne.mp h rfl
 ·exact an (aJ.mp h x hx) λh ö=>an h λh ö=>an h λh ö=>an h λö h=>bne_iff_ne.mp h
 ·have nt:y∉".0"::tgt:=λz=>an (h2 hy) λö h=>nb h λh=>List.any_eq_false.mp (nn h) y z (beq_self_eq_true _);exact⟨mem_of_lookup hy,λz=>nt (.tail _ z),λz=>nt (z▸.head _)⟩
 ·exact an (aJ.mp h p hp) λh ö=>an h λh ö=>an h λö h=>ro h (λh=>absurd hf (bne_iff_ne.mp h)) eq_of_beq
 ·exact an (h2 hx) λh ö=>an h λh ö=>an h λö h=>nb h eq_of_beq
end
section
variable {w:World} {B:Heap} {mg mb:Str->Option ag} {cls:ag} {cf:String->List PV->MM PV} {n:Nat×Nat} {sc:bD} {r:ay->ME->Bool}
theorem fp.gnone (H:fp w B mg mb) {x:String} (h:(gV x==none)=true):mg (aa x)=none:=(H.gl x).trans (eq_of_beq h)
theorem fp.gsome (H:fp w B mg mb) {x:String} {v:ag} (h:(gV x==some v)=true):mg (aa x)=some v:=(H.gl x).trans (eq_of_beq h)
theorem fp.mbx (H:fp w B mg mb) {x:String} {v:Option ag} (h:x≠"__name__") (e:bootBuiltins (aa x)=v):mb (aa x)=v:=(H.mb _ λq=>h (dy q)).trans e
theorem yE (H:fp w B mg mb) {target iter:ay} {kind:String} {m:ME} (hr:∀e m,r e m=true->SE (hP w B mg mb) cls cf n sc e m) (h:ckI sc r target iter kind m=true):SI (hP w B mg mb) cls cf n sc target iter kind m:=
 ro h (λh=>an h λh1 h2=>by rw[eq_of_beq h1];exact .list (hr _ _ h2))
  λh=>ro h (λh=>an h λh1 h2=>by rw[eq_of_beq h1];exact dQ h2 λö ö h=>.str rfl (hr _ _ h))
  λh=>rG h λf es kw p h=>an h λhk h=>dZ hk (dQ h λy q h=>
   ip h λe h=>an h λh h4=>an h λh1 h2=>ro h4
    (λh=>an h λh h5=>an h λh h6=>an h λh7 h8=>by
     rw[eq_of_beq h7];exact mJ h8 λg2 g3=>dQ h5 λö ö ö=>.range H.base rfl g2 (H.gnone h6) (H.mbx (by decide) (by kernel_rfl)) g3 (dI h1) (λö=>rfl) (hr _ _ h2))
    λh=>an h λh h5=>an h λh h6=>an h λh7 h8=>by
     rw[eq_of_beq h7];exact mJ h8 λg2 g3=>iS h5 λö ö ö ö=>.enum H.base rfl g2 (H.gnone h6) (H.mbx (by decide) (by kernel_rfl)) g3 (dI h1) (λö=>rfl) (hr _ _ h2))
theorem sv {P:PW} {c:String} {C:Addr} (h1:c≠"str") (h2:c≠"tuple") (h:P.cls c=some C):oA P c=some (.ref C):=by
 unfold oA;rw[if_neg h1,if_neg h2,h];rfl
theorem yB {c:String} {k:Addr->Bool} {Q:Prop} (h:im (pB.lookup c) k=true) (f:∀C,pB.lookup c=some C->k C=true->Q):Q:=by
 induction q:pB.lookup c with
 |none=>rw[q]at h;exact ff h
 |some C=>rw[q]at h;exact f C q h
theorem Ea (H:fp w B mg mb) {c:ay} {cs:List String} (h:HZ sc c cs=true):xj (hP w B mg mb) sc c cs:=
 ro h (λh=>dQ h λy p h=>ip h λc h=>an h λh1 h2=>mJ h1 λg2 g3=>ro h2
   (λh=>an h λh1 h2=>by
    have e:=eq_of_beq h1;subst e;exact .str H.base g2 (H.gnone h2) (H.mbx (by decide) (by kernel_rfl)) g3)
   λh=>an h λh1 h2=>yB h2 λC hC h=>.own H.base g2 (H.gsome h) (sv (of_decide_eq_true h1).1 (of_decide_eq_true h1).2 hC) g3)
  λh=>iS h λts k p h=>t4 h λa b h=>dQ h λy p1 h=>dQ h λz p2 h=>
   t4 h λc d h=>an h λh h5=>an h λh h4=>an h λh h3=>an h λh1 h2=>mJ h1 λg2 g3=>
    mJ h2 λk2 k3=>yB h4 λC hC h4=>yB h5 λD hD h5=>
     have⟨n1,n2,n3,n4⟩:=of_decide_eq_true h3
     .tup2 H.base g2 k2 (H.gsome h4) (H.gsome h5) (sv n1 n2 hC) (sv n3 n4 hD) g3 k3
theorem xE {P:PW} {A:bd} {env:Env} {ρ:aE} {fr:List Env} {v:PV} {wv:ag} {pos:Pos}:aQ P cls env ρ fr (λg h=>cR P g h v wv) (eJ P A (e7 pos (.builtin "str.strip") [wv] [] [])) (vy "strip" v []) (cR P):=
 aQ.of (T:=eJ P A (call (.builtin "str.strip") [wv])) ((AS (bs:=[]) (vs:=[])).conseq al (λö ö z=>⟨z,trivial⟩) λö ö ö ö z=>z) λö ö ö h=>callWith_method0 (env:=env) h
theorem fp.fnAt (H:fp w B mg mb) {f:String} {a:Addr} (hf:B9.lookup f=some a):FnAt (hP w B mg mb) a:=by
 have key:(B9.all λp=>match(K w.params).lookup p.2 with|some ⟨_,_,.func _,_⟩=>true|_=>false)=true:=by kernel_rfl
 have k:=aJ.mp key _ (eW hf);simp only at k;split at k
 ·rename_i hk;exact⟨_,_,H.kin _ _ hk,rfl⟩
 ·contradiction
theorem fp.meth (H:fp w B mg mb) {f m:String} {a:Addr} (hf:Df.lookup f=some (m,a)):kO (hP w B mg mb) "Scanner" m a/\B9.lookup f=some a:=by
 have key:(Df.all λp=>plainGet (K w.params) 216 (aa p.2.1)&&findIn (K w.params) (.ref 216) (aa p.2.1)==some (some (.ref p.2.2))&&isFn (K w.params) (.ref p.2.2)&&decide (p.2.1∉fieldsOf "Scanner")&&B9.lookup p.1==some p.2.2)=true:=by kernel_rfl
 exact an (aJ.mp key _ (eW hf)) λh k5=>an h λh k4=>an h λh k3=>an h λk1 k2=>
  ⟨⟨λC hC=>by cases(show some 216=some C from hC);exact⟨k1,eq_of_beq k2,k3⟩,of_decide_eq_true k4⟩,eq_of_beq k5⟩
theorem fp.mkNew (H:fp w B mg mb) {ini c:String} {C a:Addr} (hf:Jh.lookup ini=some (c,C,a)):sK (hP w B mg mb) c ini C a:=by
 have key:(Jh.all λp=>pB.lookup p.2.1==some p.2.2.1&&makesIn (K w.params) p.2.2.1&&findIn (K w.params) (.ref p.2.2.1) "__init__"==some (some (.ref p.2.2.2))&&typeIn (K w.params) (.ref p.2.2.2)==some (.type "function")&&keepIn (K w.params) (.ref p.2.2.1)&&B9.lookup p.1==some p.2.2.2)=true:=by kernel_rfl
 exact an (aJ.mp key _ (eW hf)) λh k6=>an h λh k5=>an h λh k4=>an h λh k3=>an h λk1 k2=>⟨eq_of_beq k1,k2,eq_of_beq k3,eq_of_beq k4,k5,eq_of_beq k6⟩
theorem vn {α:Type} {C:α->Prop} {a:α} {l:List α} (h:C a) (t:∀x∈l,C x):∀x∈a::l,C x:=λx q=>(aH.mp q).elim (λe=>e▸h) (t x)
noncomputable def BiC (w:World) (B:Heap) (mg mb:Str->Option ag) (cls:ag) (cf:String->List PV->MM PV) (n:Nat×Nat) (sc:bD) (es:List ay) (ms:List ME) (p pos:Pos) (f:String):Prop:=
 sc.names.lookup (aa f)=some .globalImplicit->(aa f==("__debug__":Str))=false->(gV f==none)=true->SE (hP w B mg mb) cls cf n sc (.Call (.Name (aa f) p) es [] pos) (.bi f ms)
theorem yL (H:fp w B mg mb) {e:ay} {es:List ay} {ms:List ME} {p pos:Pos} (hs:vp (hP w B mg mb) cls cf n sc (e::es) ms) (hst:(e::es).all dE=true) {f id:String} (a:f≠"__name__") (b:bootBuiltins (aa f)=some (.builtin id))
  (c:∀(A:bd) (env:Env) (ρ:aE) (fr:List Env) (bs:List PV) (vs:List ag),jP A n fr->aQ (hP w B mg mb) cls env ρ fr (λg h=>aU (hP w B mg mb) g h bs vs) (eJ (hP w B mg mb) A (call (.builtin id) vs)) (cC λσ=>sE σ f bs) (cR (hP w B mg mb))):
  BiC w B mg mb cls cf n sc (e::es) ms p pos f:=λhk hd hg=>an hst λh1 h2=>.bcall H.base hs hk (H.gnone hg) (H.mbx a b) hd (f:=λl=>cC λσ=>sE σ f l) c (λρ=>rfl) (dI h1) λö=>kv h2
theorem Mr (H:fp w B mg mb) {e:ay} {es:List ay} {ms:List ME} {p pos:Pos} (hs:vp (hP w B mg mb) cls cf n sc (e::es) ms) (hst:(e::es).all dE=true) {f id:String} (a:f≠"__name__") (b:bootBuiltins (aa f)=some (.type id))
  (c:∀(A:bd) (env:Env) (ρ:aE) (fr:List Env) (bs:List PV) (vs:List ag),jP A n fr->aQ (hP w B mg mb) cls env ρ fr (λg h=>aU (hP w B mg mb) g h bs vs) (eJ (hP w B mg mb) A (call (.type id) vs)) (cC λσ=>sE σ f bs) (cR (hP w B mg mb))):
  BiC w B mg mb cls cf n sc (e::es) ms p pos f:=λhk hd hg=>an hst λh1 h2=>.tcall H.base hs hk (H.gnone hg) (H.mbx a b) hd (f:=λl=>cC λσ=>sE σ f l) c (λρ=>rfl) (dI h1) λö=>kv h2
theorem Ms (H:fp w B mg mb) {e:ay} {es:List ay} {ms:List ME} {p pos:Pos} {f:String} (hs:vp (hP w B mg mb) cls cf n sc (e::es) ms) (hst:(e::es).all dE=true)
  (hk:sc.names.lookup (aa f)=some .globalImplicit) (hd:(aa f==("__debug__":Str))=false) (hg:(gV f==none)=true) (hf:(biL.contains f||biT.contains f)=true):SE (hP w B mg mb) cls cf n sc (.Call (.Name (aa f) p) (e::es) [] pos) (.bi f ms):=
 ro hf (λh=>vn (C:=BiC w B mg mb cls cf n sc (e::es) ms p pos) (yL (f:="len") H hs hst (by decide) (by kernel_rfl) λA env ρ fr bs vs hA=>Gj)
  (vn (yL (f:="min") H hs hst (by decide) (by kernel_rfl) λA env ρ fr bs vs hA=>F3 hA)
  (vn (yL (f:="max") H hs hst (by decide) (by kernel_rfl) λA env ρ fr bs vs hA=>F7 hA)
  (vn (yL (f:="abs") H hs hst (by decide) (by kernel_rfl) λA env ρ fr bs vs hA=>Ha)
  (vn (yL (f:="divmod") H hs hst (by decide) (by kernel_rfl) λA env ρ fr bs vs hA=>yv)
  (vn (yL (f:="ord") H hs hst (by decide) (by kernel_rfl) λA env ρ fr bs vs hA=>FN)
  (vn (yL (f:="sorted") H hs hst (by decide) (by kernel_rfl) λA env ρ fr bs vs hA=>xG) λö q=>absurd q l6)))))) f (AM.mp h) hk hd hg)
 λh=>vn (C:=BiC w B mg mb cls cf n sc (e::es) ms p pos) (Mr (f:="list") H hs hst (by decide) (by kernel_rfl) λA env ρ fr bs vs hA=>Dm)
  (vn (Mr (f:="int") H hs hst (by decide) (by kernel_rfl) λA env ρ fr bs vs hA=>Gu) λö q=>absurd q l6) f (AM.mp h) hk hd hg
theorem K4 {P:PW} {x:ay} {mo:ME} {es:List ay} {ms:List ME} {y:Str} {ap p:Pos} {f:String} (ho:SE P cls cf n sc x mo) (hes:vp P cls cf n sc es ms) (hml:ms.length=es.length) (hst:es.all dE=true) (hb:iJ x=true) (hl:es.length<30) (hp:(ap.endLine==p.line)=true) (hy:y=aa f)
  (hf:K5 f es=true):SE P cls cf n sc (.Call (.Attribute x y ap) es [] p) (.sm f mo ms):=by
 cases es with
 |nil=>
  cases ms with
  |nil=>exact ro hf (λh=>ro h
    (λh=>by have e:=eq_of_beq h;subst e;exact .sm0 hy .strip ho (λA env ρ fr v w hA=>xE) _ (ow hb rfl hl hp) λö=>rfl)
    λh=>by have e:=eq_of_beq h;subst e;exact .sm0 hy .pop ho (λA env ρ fr v w hA=>FH) _ (ow hb rfl hl hp) λö=>rfl) λh=>ff h
  |cons _ _=>contradiction
 |cons e es=>
  have X:∀{id:String},tw f id->(∀(A:bd) (env:Env) (ρ:aE) (fr:List Env) (v:PV) (w:ag) (bs:List PV) (vs:List ag),jP A n fr->aQ P cls env ρ fr (λg h=>cR P g h v w/\aU P g h bs vs) (eJ P A (call (.builtin id) (w::vs))) (vy f v bs) (cR P))->
    SE P cls cf n sc (.Call (.Attribute x y ap) (e::es) [] p) (.sm f mo ms):=an hst λh1 h2 hid ht=>.sm1 hy hid ho hes ht _ (ow hb hst hl hp) (dI h1) λö=>kv h2
  clear hst hy;exact ro hf (λh=>ff h) λh=>ro h
   (λh=>by have e:=eq_of_beq h;subst e;exact X .append λA env ρ fr v w bs vs hA=>yS)
   λh=>ro h (λh=>by have e:=eq_of_beq h;subst e;exact X .count λA env ρ fr v w bs vs hA=>BG)
   λh=>ro h (λh=>by have e:=eq_of_beq h;subst e;exact X .split λA env ρ fr v w bs vs hA=>AW)
   λh=>by have e:=eq_of_beq h;subst e;exact X .join λA env ρ fr v w bs vs hA=>Dw
@[elab_as_elim] theorem t3 {e:ay} {k:Str->ay->List ay->Bool} {C:ay->Prop} (h:oC e k=true) (f:∀y q e1 es p,k y e1 es=true->C (.Call (.Name y q) (e1::es) [] p)):C e:=
 rG h λg es kw p h=>an h λh1 h=>dZ h1 (dQ h λy q h=>gd h λe1 es h=>f y q e1 es p h)
@[elab_as_elim] theorem HG {e:ay} {k:ay->Str->List ay->Bool} {C:ay->Prop} (h:oM e k=true) (f:∀x y ap es p,iJ x=true->es.length<30->(ap.endLine==p.line)=true->k x y es=true->C (.Call (.Attribute x y ap) es [] p)):C e:=
 rG h λg es kw p h=>an h λh1 h=>dZ h1 (qJ h λx y ap h=>an h λh k4=>an h λh k3=>an h λk1 k2=>f x y ap es p k1 (of_decide_eq_true k2) k3 k4)
@[elab_as_elim] theorem C6 {e:ay} {k:ay->ay->ay->List ay->bD->Pos->Bool} {C:ay->Prop} (h:oCm e k=true) (f:∀elt t i ifs s p,k elt t i ifs s p=true->C (.ListComp elt [⟨t,i,ifs,0⟩] s p)):C e:=
 Jb h λelt cs s p h=>ip h λc h=>an h λh1 h=>by
  obtain⟨t,i,ifs,a⟩:=c;have e:=eq_of_beq h1;subst e;exact f elt t i ifs s p h
theorem vi {α:Type} {l:Option α} {k:α->Bool} {Q:Prop} (h:im l k=true) (f:∀C,l=some C->k C=true->Q):Q:=by
 induction l with
 |none=>exact ff h
 |some C=>exact f C rfl h
theorem JU (H:fp w B mg mb) (hC:iP (hP w B mg mb) cls cf n.1) (hn:n.2=0) {ih:Ck} (hi:∀sc e m,ih sc e m=true->SE (hP w B mg mb) cls cf n sc e m) (e:ay) (m:ME) (h:ckF sc ih e m=true):SE (hP w B mg mb) cls cf n sc e m:=by
 have hr:=hi sc;cases m with
 |var x=>
  exact dQ h λy p h=>an h λh h'=>yd h λe d=>ro h' (λh=>ro h (λh=>.loc e (eq_of_beq h) d) λh=>.cel e (eq_of_beq h) d) λh=>an h λh1 h2=>.fre e (eq_of_beq h1) d (nn h2)
 |glob x=>
  exact dQ h λy p h=>mJ h λg2 g3=>.glob H.base rfl g2 g3
 |cint i=>
  exact ro h (λh=>lC h λc k p h=>xZ h λj h=>of_decide_eq_true h▸.cint)
   λh=>uJ h λop a p h=>an h λh1 h=>by rw[eq_of_beq h1];exact lC h λc k q h=>xZ h λj h=>.cneg (of_decide_eq_true h)
 |cstr s=>
  exact lC h λc k p h=>I8 h λx h=>.cstr (eq_of_beq h)
 |cnone=>
  exact lC h λc k p h=>by rw[of_decide_eq_true h];exact .cnone
 |cbool b=>
  exact lC h λc k p h=>Je h λx h=>eq_of_beq h▸.cbool
 |list ms=>
  exact zL h λes p h=>.list (js hr h)
 |newl ms=>
  exact zL h λes p h=>.newl (js hr h)
 |tup ms=>
  exact iS h λes k p h=>an h λh1 h2=>.tup (js hr h1) (of_decide_eq_true h2)
 |bin op a b=>
  exact FQ h λö ö ö ö h=>an h λh h3=>an h λh1 h2=>.bin (of_decide_eq_true h1) (hr _ _ h2) (hr _ _ h3)
 |cmp op a b=>
  exact zN h λx ops ys p h=>ip h λo h=>ip h λy h=>
   an h λh h4=>an h λh h3=>an h λh1 h2=>.cmp (of_decide_eq_true h1) (hr _ _ h2) (hr _ _ h3) (nn h4)
 |not a=>
  exact uJ h λop x p h=>an h λh1 h2=>by rw[eq_of_beq h1];exact .not (hr _ _ h2)
 |band a b=>
  exact nK h λö ö ö h=>.bool (u' hr h)
 |bor a b=>
  exact nK h λö ö ö h=>.bool (u' hr h)
 |ite c a b=>
  exact Jc h λö ö ö ö h=>an h λh h3=>an h λh1 h2=>.ite (pC hr h1) (hr _ _ h2) (hr _ _ h3)
 |attr o x=>
  exact qJ h λö ö ö h=>an h λh h3=>an h λh1 h2=>.attr H.base (eq_of_beq h1) (hr _ _ h3) (G8 h2)
 |idx o i=>
  exact qH h λö ö ö h=>an h λh h3=>an h λh1 h2=>.idx (hr _ _ h2) (hr _ _ h3) (IH h1)
 |slc o lo hi=>
  exact qH h λx s p h=>zK h λl u st q h=>an h λh h4=>an h λh h3=>an h λh1 h2=>
   io h1 (.slc (hr _ _ h2) (D8 hr h3) (D8 hr h4))
 |rev o=>
  exact qH h λx s p h=>zK h λl u st q h=>an h λh h3=>an h λh1 h2=>
   io h1 (io h2
   (gF h3 λst h=>uJ h λop a q2 h=>an h λh1 h=>by
    rw[eq_of_beq h1];exact lC h λc k q3 h=>xZ h λj h=>an h λh1 h2=>by
     have e:=of_decide_eq_true h1;subst e;exact .rev (hr _ _ h2)))
 |isin o cs=>
  exact t3 h λy q x es p h=>ip h λc h=>an h λh h6=>an h λh h5=>an h λh h4=>an h λh h3=>an h λh1 h2=>
   mJ h1 λg2 g3=>.isin H.base H.kindOk (hr _ _ h5) (Ea H h6) g2 (H.gnone h2) (H.mbx (by decide) (by kernel_rfl)) g3 (dI h3) (dI h4)
 |call f ms=>
  exact t3 h λy q e1 es p h=>an h λh h3=>an h λh1 h2=>mJ h1 λg2 g3=>vi h2 λa ha h2=>
   an (jy h3) λhs ö=>.call H.base hC ha (H.fnAt ha) (js hr h3) g2 (H.gsome h2) g3 (dI hs)
 |meth o c f ms=>
  exact HG h λx y ap es p k1 k2 k3 h=>an h λh h7=>an h λh h6=>an h λh h5=>by
   have e:=of_decide_eq_true h;subst e;refine vi h5 λq hq hx=>?_;obtain⟨hM,hfa⟩:=H.meth (m:=q.1) (a:=q.2) hq;have hx:=eq_of_beq hx;have hs:=jy h7
   induction es with
   |nil=>exact dZ h7 (.meth0 H.base hx hC hfa (H.fnAt hfa) hM (hr _ _ h6) _ (ow k1 hs k2 k3))
   |cons e es=>exact an hs λhs' ö=>.meth1 H.base hx hC hfa (H.fnAt hfa) hM (hr _ _ h6) (js hr h7) (dI hs') _ (ow k1 hs k2 k3)
 |new c fz ini ms=>
  exact t3 h λy q e1 es p h=>an h λh h3=>an h λh1 h2=>mJ h1 λg2 g3=>vi h2 λt hq h2=>an h2 λh1 h2=>an (jy h3) λs1 s2=>by
   obtain⟨c',C,a⟩:=t;have e:=of_decide_eq_true h1;subst e;exact .new H.base (H.mkNew hq) hC hn (js hr h3) g2 (H.gsome h2) g3 (dI s1) λö=>kv s2
 |bi f ms=>
  exact t3 h λy q e1 es p h=>an h λh h4=>an h λh h3=>an h λh1 h2=>mJ h1 λg2 g3=>Ms H (js hr h4) (jy h4) g2 g3 h2 h3
 |sm f o ms=>
  exact HG h λx y ap es p k1 k2 k3 h=>an h λh h7=>an h λh h6=>an h λh4 h5=>K4 (hr _ _ h6) (js hr h7) (wT h7) (jy h7) k1 k2 k3 (eq_of_beq h4) h5
 |copyl o=>
  exact t3 h λy q x es p h=>an h λh h4=>an h λh h3=>an h λh h2=>an h λh0 h1=>dZ h0
   (mJ h1 λg2 g3=>.copyl H.base (hr _ _ h4) g2 (H.gnone h2) (H.mbx (by decide) (by kernel_rfl)) g3 (dI h3) λö=>rfl)
 |comp melt tgt kind mit cond=>
  exact C6 (show(oCm e λelt target iter ifs scope ö=>JV sc ih elt target iter ifs scope melt tgt kind mit cond)=true from h) λelt t i ifs s p h=>an h λh h6=>an h λh h5=>an h λh h4=>an h λh h3=>an h λh1 h2=>
   .comp (Az h1) (yE H hr h2) (wQ h3) (hi _ _ _ h4) (ug (λe m=>hi _ e m) h5) (pf h6)
theorem uf (H:fp w B mg mb) (hC:iP (hP w B mg mb) cls cf n.1) (hn:n.2=0):∀(k:Nat) (sc:bD) (e:ay) (m:ME),ck k sc e m=true->SE (hP w B mg mb) cls cf n sc e m
 |0,_,_,_,h=>ff h
 |k+1,_,e,m,h=>JU H hC hn (uf H hC hn k) e m h
end
end Mine.Internal
end
section
set_option maxRecDepth 100000
namespace Mine.Internal
open PySem PySem.W PyProof.Rows PySem.Calls
noncomputable def EL (sc:bD) (line:Nat) (ts:List ay):List Str:=ts.filterMap λe=>swappedStores.match_8 (λö=>Option Str) e (λid pos=>if sc.names.lookup id==some .local&&pos.line==line then some id else none) λö=>none
noncomputable def KX (sc:bD) (ts vs:List ay):Option (List Str):=
 if !(ts.length==2||ts.length==3)||vs.length !=ts.length then none
 else if(EL sc ((ts.head?.map (·.pos.line)).getD 0) ts).length !=ts.length||(EL sc ((ts.head?.map (·.pos.line)).getD 0) ts).eraseDups.length !=(EL sc ((ts.head?.map (·.pos.line)).getD 0) ts).length then none
 else if vs.all (qV 8)then none
 else some (EL sc ((ts.head?.map (·.pos.line)).getD 0) ts)
theorem xb:∀{vs:List ay},vs.all dE=true->(vs.any λe=>swappedStores.match_5 (λö=>Bool) e (λö ö=>true) λö=>false)=false
 |[],_=>rfl
 |e::vs,h=>an h λh1 h=>by
  rw[KT,xb h];cases e<;>first|rfl|exact ff h1
noncomputable def swV (vs:List ay):Bool:=vs.all dE&&(vs.all (qV 8)||!vs.all (constantsAlone 8))
theorem Cz {sc:bD} {ts vs:List ay} {k k':Nat} {p p':Pos} {env:Env} (hk:sc.kind=.function) (hs:env.scope=sc) (ok:swV vs=true):swappedStores [.Tuple ts k p] (.Tuple vs k' p') env=pure (KX sc ts vs):=an ok λo1 o2=>by
 have hb:env.blockKind=.function:=by unfold Env.blockKind;rw[hs,hk];rfl
 have e:swappedStores [.Tuple ts k p] (.Tuple vs k' p') env=(if(!(ts.length==2||ts.length==3)||vs.length !=ts.length||env.blockKind !=.function)=true then pure none else
     if(vs.any λe=>swappedStores.match_5 (λö=>Bool) e (λö ö=>true) λö=>false)=true then pure none else
     if((EL env.scope ((ts.head?.map (·.pos.line)).getD 0) ts).length !=ts.length||(EL env.scope ((ts.head?.map (·.pos.line)).getD 0) ts).eraseDups.length !=(EL env.scope ((ts.head?.map (·.pos.line)).getD 0) ts).length)=true then pure none else
     if vs.all (qV 8)=true then pure none else
     if vs.all (constantsAlone 8)=true then(do
      unsupported "assign.tuple-of-constant-expressions:order-of-the-stores"
      pure (some (EL env.scope ((ts.head?.map (·.pos.line)).getD 0) ts)))else pure (some (EL env.scope ((ts.head?.map (·.pos.line)).getD 0) ts))):=rfl
 rw[e,hb,xb o1,hs];unfold KX;generalize EL sc ((ts.head?.map (·.pos.line)).getD 0) ts=N;cases(!(ts.length==2||ts.length==3)||vs.length !=ts.length)
 ·cases(N.length !=ts.length||N.eraseDups.length !=N.length)
  ·revert o2;cases vs.all (qV 8)
   ·exact λo2=>by rw[nn o2];rfl
   ·exact λö=>rfl
  ·rfl
 ·rfl
noncomputable def KY (sc:bD) (t v:ay):Bool:=(t.ctorIdx !=25&&t.ctorIdx !=24)||((v.ctorIdx !=25&&t.ctorIdx==25)||rF t λts ö ö=>rF v λvs ö ö=>swV vs&&KX sc ts vs==none)
theorem sw_d (v:ay) (env:Env) (t:ay):swappedStores [t] v env=pure none\/t.ctorIdx=25\/t.ctorIdx=24:=by
 cases t<;>first|exact .inl rfl|exact .inr (.inl rfl)|exact .inr (.inr rfl)
theorem sw_v (ts:List ay) (k:Nat) (p:Pos) (env:Env) (v:ay):swappedStores [.Tuple ts k p] v env=pure none\/v.ctorIdx=25:=by
 cases v<;>first|exact .inl rfl|exact .inr rfl
theorem Fd {sc:bD} {t v:ay} {env:Env} (hk:sc.kind=.function) (hs:env.scope=sc) (ok:KY sc t v=true):swappedStores [t] v env=pure none:=
 ro ok (λh=>an h λh1 h2=>(sw_d v env t).elim id λq=>q.elim (λq=>absurd q (bne_iff_ne.mp h1)) λq=>absurd q (bne_iff_ne.mp h2))
  λh=>ro h (λh=>an h λh1 h2=>PySem.Expr.Tuple.elim (motive_1:=λt=>swappedStores [t] v env=pure none) t (eq_of_beq h2) λts k p=>(sw_v ts k p env v).elim id λq=>absurd q (bne_iff_ne.mp h1))
  λh=>iS h λts k p h=>iS h λvs k' p' h=>an h λh1 h2=>(Cz hk hs h1).trans (congrArg pure (eq_of_beq h2))
noncomputable def Lw (sc:bD) (t v:ay):Bool:=!rT v||jM t λy ö=>sc.names.lookup y !=some .local
theorem G9 {a b c d:Bool} (h:b=false):(a&&b&&c&&d)=false:=by rw[h];induction a<;>rfl
theorem Mu {a b c d:Bool} (h1:a=true) (h2:b=true) (h3:c=true) (h4:d=true):(a&&b&&c&&d)=true:=by rw[h1,h2,h3,h4];rfl
theorem FT {sc:bD} {t v:ay} {env:Env} (h:Lw sc t v=true) (hs:env.scope=sc) (line:Nat):swapsWithSole [t] v line env=pure false:=
 ro h (λh=>u7 (nn h) (some t) line env) λh=>dQ h λy p h=>by
  have hk:(env.kindOf y==some .local)=false:=by rw[Env.kindOf,hs];exact nn h
  show swapsWith v (some (.Name y p)) line env=_;cases v<;>first|rfl|exact congrArg pure (G9 hk)
section
variable (sc:bD) (r:ay->ME->Bool)
noncomputable def JR (t:ay) (m:MT):Bool:=
 (jM t λy ö=>AR m λx=>y==aa x&&lc sc y)||((C7 t λo y ö=>KW m λmo x=>y==aa x&&r o mo)||C5 t λo i ö=>KV m λmo mi=>r o mo&&r i mi)
noncomputable def HY (ts:List ay):List MT->Bool:=ts.rec (λms=>lB ms) λt ö ih ms=>mD ms λm ms=>dE t&&JR sc r t m&&ih ms
noncomputable def Mg (t:ay) (m:MT):Bool:=(rF t λts ö ö=>IG m λms=>HY sc r ts ms)||JR sc r t m
noncomputable def Mm (ih:Ck) (line:Nat) (t v:ay) (mt:MT) (me:ME):Bool:=
 jM t λy yp=>oCm v λelt target iter ifs scope cp=>AR mt λx=>LG me λmelt tgt kind mit cond=>JV sc ih elt target iter ifs scope melt tgt kind mit cond&&y==aa x&&kd sc y .local&&
  yp.line==cp.line&&!(scope.names.any λ(n,k)=>n==y&&(k==.local||k==.cell))&&sc.kind==.function
noncomputable def Mi (t v:ay) (mt:MT) (me:ME):Bool:=IG mt λms=>rF t λts ö ö=>rF v λvs k' q'=>swV vs&&r (.Tuple vs k' q') me&&sc.kind==.function&&mD ms λa ms=>AR a λx=>mD ms λb ms=>AR b λy=>kd sc (aa x) .local&&kd sc (aa y) .local&&
 ((lB ms&&decide (x≠y)&&KX sc ts vs==some [aa x,aa y])||o1 ms λc=>AR c λz=>decide (x≠y/\x≠z/\y≠z)&&KX sc ts vs==some [aa x,aa y,aa z]&&kd sc (aa z) .local)
noncomputable def H0 (ih:Ck) (t v:ay) (line:Nat) (mt:MT) (me:ME):Bool:=
 Mm sc ih line t v mt me||(Mi sc (ih sc) t v mt me||(dE t&&Mg sc (ih sc) t mt&&ih sc v me&&Lw sc t v&&KY sc t v&&sc.kind==.function))
noncomputable def Ml (m:ME):Bool:=(F8 m λö=>true)||LJ m λo ö=>F8 o λö=>true
noncomputable def ckH (e:ay) (m:ME):Bool:=(v8 e λc ö ö=>decide (c=.none)&&decide (m.ctorIdx=4))||jM e λy ö=>F8 m λx=>LY y x&&kd sc y .local
noncomputable def Me (body:List eF) (hs:List ExceptHandler) (mh:List MS) (k:eF->Bool):Bool:=o1 body λb=>o1 hs λh=>match h with
 |.ExceptHandler t y hb _=>im t λt=>jM t λu ö=>ny y&&u==aa "BadText"&&kd sc (aa "BadText") .globalImplicit&&o1 hb λs=>Fl s λv ö=>im v λeh=>o1 mh λm=>Lk m λmh=>ckH sc eh mh&&k b
noncomputable def ckS (ih:Ck) (is:List eF->List MS->Bool) (st:eF) (m:MS):Bool:=match m with
  |.bad=>true
  |.assign mt me=>IU st λts v p=>o1 ts λt=>H0 sc ih t v p.line mt me
  |.aug mo x me=>Lg st λt op e ö=>op==.Add&&C7 t λo y ö=>y==aa x&&ih sc o mo&&ih sc e me
  |.expr me=>sEx st λe ö=>ih sc e me&&!rT e&&sc.kind==.function
  |.ifs c a b=>sIf st λt x y ö=>Mh (ih sc) 20 t c&&is x a&&is y b
  |.while c b=>sWh st λt x e ö=>lB e&&Mh (ih sc) 20 t c&&is x b
  |.for tgt kind it b=>Ld st λt i x e ö=>lB e&&ckI sc (ih sc) t i kind it&&Mf sc t tgt&&is x b&&x5 i
  |.ret me=>Fl st λe ö=>im e λe=>ih sc e me
  |.raise me=>Lb st λe c ö=>ny c&&im e λe=>oC e λy x es=>lB es&&y==aa "fault"&&kd sc (aa "fault") .globalImplicit&&dE x&&ih sc x me
  |.brk=>sBr st λö=>true
  |.tryE x me mh=>La st λbody hs e f ö=>lB e&&lB f&&Me sc body hs mh λb=>
   (ny x&&Fl b λv ö=>im v λv=>ih sc v me)||im x λx=>IU b λts e p=>o1 ts λt=>jM t λz ö=>ih sc e me&&z==aa x&&kd sc z .local&&!rT e
  |.freeze _=>false
noncomputable def Mj (ih:Ck) (d:Nat):List eF->List MS->Bool:=d.rec (λö ö=>false) λö is sts ms=>
 (lB ms&&lB sts)||mD ms λm ms=>(rFz m λme=>Ml me&&is sts ms)||mD sts λst sts=>ckS sc ih is st m&&is sts ms
end
section
variable {w:World} {B:Heap} {mg mb:Str->Option ag} {cf:String->List PV->MM PV} {W:Nat} {n:Nat×Nat} {sc:bD} {r:ay->ME->Bool}
noncomputable abbrev xC:ag:=.ref 64
theorem Ay (H:fp w B mg mb) {r:ay->ME->Bool} (hr:∀e m,r e m=true->SE (hP w B mg mb) xC cf n sc e m) {t:ay} {m:MT} (h:JR sc r t m=true):xx (hP w B mg mb) xC cf n sc t m:=
 ro h (λh=>dQ h λö ö h=>oh h λö h=>an h λh1 h2=>.name (eq_of_beq h1) (z1 h2))
  λh=>ro h (λh=>qJ h λö ö ö h=>Fc h λö ö h=>an h λh1 h2=>.attr H.base H.setOk (eq_of_beq h1) (hr _ _ h2))
  λh=>qH h λö ö ö h=>Fb h λö ö h=>an h λh1 h2=>.idx (hr _ _ h1) (hr _ _ h2)
theorem wR (H:fp w B mg mb) {r:ay->ME->Bool} (hr:∀e m,r e m=true->SE (hP w B mg mb) xC cf n sc e m):∀{ts:List ay} {ms:List MT},HY sc r ts ms=true->
  tz (hP w B mg mb) xC cf n sc ts ms/\(∀env,(assignEach ts env).length=ms.length)/\∀env,(assignEach ts env).findIdx? (·.1)=none
 |[],_,h=>dZ h ⟨.nil,λö=>rfl,λö=>rfl⟩
 |t::ts,_,h=>gd h λm ms h=>an h λh h3=>an h λh1 h2=>by
  obtain⟨a1,a2,a3⟩:=wR H hr (ts:=ts) h3;refine⟨.cons (Ay H hr h2) a1 (j7 h1),λenv=>?_,λenv=>?_⟩
  ·rw[j7 h1,aj,a2,aj]
  ·rw[j7 h1,EK,a3];rfl
theorem GR (H:fp w B mg mb) {r:ay->ME->Bool} (hr:∀e m,r e m=true->SE (hP w B mg mb) xC cf n sc e m) {t:ay} {m:MT} (h:Mg sc r t m=true):xx (hP w B mg mb) xC cf n sc t m:=
 ro h (λh=>iS h λts ö ö h=>zr h λms h=>have⟨h1,h2,h3⟩:=wR H hr h;.tup h1 h2 h3) (Ay H hr)
theorem sq {v:ay} (h:rT v=false) (t:ay) (line:Nat) (env:Env):swapsWithSole [t] v line env=pure false:=u7 h (some t) line env
theorem GU (H:fp w B mg mb) (hC:iP (hP w B mg mb) xC cf n.1) (hn:n.2=0) {k:Nat} {t v:ay} {p:Pos} {mt:MT} {me:ME} (h:Mm sc (ck k) p.line t v mt me=true):SS (hP w B mg mb) xC cf W n sc (.Assign [t] v p) [.assign mt me]:=
 dQ h λy yp h=>C6 h λelt t i ifs scope cp h=>oh h λx h=>Ga h λmelt tgt kind mit cond h=>an h λh h11=>an h λh h10=>an h λh h9=>an h λh h8=>an h λh h7=>an h λh h6=>an h λh h5=>an h λh h4=>an h λh h3=>an h λh1 h2=>by
  have h8:=eq_of_beq h8;refine .asgComp (Az h1) (yE H (λe m=>uf H hC hn k _ e m) h2) (wQ h3) (uf H hC hn k _ _ _ h4) (ug (λe m=>uf H hC hn k _ e m) h5) (pf h6) (eq_of_beq h7) h8 λenv hs=>?_;have hb:env.blockKind=.function:=by unfold Env.blockKind;rw[hs,eq_of_beq h11];rfl
  exact congrArg pure (Mu (by rw[hb];rfl) (by rw[Env.kindOf,hs,h8];rfl) h9 h10)
theorem GS {r:ay->ME->Bool} (hr:∀e m,r e m=true->SE (hP w B mg mb) xC cf n sc e m) {t v:ay} {p:Pos} {mt:MT} {me:ME} (h:Mi sc r t v mt me=true):SS (hP w B mg mb) xC cf W n sc (.Assign [t] v p) [.assign mt me]:=
 zr h λms h=>iS h λts k q h=>iS h λvs k' q' h=>an h λh h4=>an h λh h3=>an h λh1 h2=>gd h4 λa ms h=>oh h λx h=>gd h λb ms h=>oh h λy h=>an h λh h3'=>an h λh1' h2'=>ro h3'
  (λh=>an h λh b3=>an h λb1 b2=>dZ b1 (.asgSw2 rfl rfl (of_decide_eq_true b2) (hr _ _ h2) (eq_of_beq h1') (eq_of_beq h2') (λenv ö=>sq rfl _ _ env) λenv hs=>(Cz (eq_of_beq h3) hs h1).trans (congrArg pure (eq_of_beq b3))))
  λh=>ip h λc h=>oh h λz h=>an h λh b3=>an h λb1 b2=>have⟨n1,n2,n3⟩:=of_decide_eq_true b1
   .asgSw3 rfl rfl rfl n1 n2 n3 (hr _ _ h2) (eq_of_beq h1') (eq_of_beq h2') (eq_of_beq b3) (λenv ö=>sq rfl _ _ env) λenv hs=>(Cz (eq_of_beq h3) hs h1).trans (congrArg pure (eq_of_beq b2))
theorem Eb (H:fp w B mg mb) (hC:iP (hP w B mg mb) xC cf n.1) (hn:n.2=0) {k:Nat} {t v:ay} {p:Pos} {mt:MT} {me:ME} (h:H0 sc (ck k) t v p.line mt me=true):SS (hP w B mg mb) xC cf W n sc (.Assign [t] v p) [.assign mt me]:=
 have hr:=λe m=>uf H hC hn k sc e m
 ro h (GU H hC hn) λh=>ro h (GS hr) λh=>an h λh h6=>an h λh h5=>an h λh h4=>an h λh h3=>an h λh1 h2=>
  .asg (GR H hr h2) (hr _ _ h3) (λenv hs=>FT h4 hs _) (λenv hs=>Fd (eq_of_beq h6) hs h5) (j7 h1)
theorem xY {α:Type} (f:ah->Option α) (σ:ah):cC f σ=.bad\/∃v,cC f σ=.ok v σ:=by
 unfold cC;cases f σ with
 |none=>exact .inl rfl
 |some u=>exact .inr ⟨u,rfl⟩
theorem GT {me:ME} (h:Ml me=true) (ρ:aE) (σ:ah):bu cf ρ me σ=.bad\/∃v,bu cf ρ me σ=.ok v σ:=
 ro h (λh=>uQ h λx ö=>by
   show bJ (ρ.lookup x) σ=.bad\/∃v,bJ (ρ.lookup x) σ=.ok v σ;cases ρ.lookup x with
   |none=>exact .inl rfl
   |some v=>exact .inr ⟨v,rfl⟩)
  λh=>Gc h λo y h=>uQ h λx ö=>by
   show MM.bind (bJ (ρ.lookup x)) (λv=>cC λσ=>j6 σ v y) σ=.bad\/∃v,MM.bind (bJ (ρ.lookup x)) (λv=>cC λσ=>j6 σ v y) σ=.ok v σ;cases ρ.lookup x with
   |none=>exact .inl rfl
   |some v=>exact xY (λσ=>j6 σ v y) σ
theorem D9 {P:PW} {e:ay} {m:ME} (h:ckH sc e m=true):HE P xC cf sc e m:=
 ro h (λh=>lC h λc ö ö h=>an h λh1 h2=>by
   rw[of_decide_eq_true h1];exact ME.cnone.elim (motive_1:=λm=>HE P xC cf sc (.Constant .none _ _) m) m (of_decide_eq_true h2) .none)
  λh=>dQ h λy ö h=>uQ h λx h=>an h λh1 h2=>yd h1 λe d=>.loc e (eq_of_beq h2) d
theorem SS.bad {P:PW} {cls:ag} {st:eF}:SS P cls cf W n sc st [.bad]:=λA env ρ fr ö ö g σ s E G V F hO hp hb hE=>by
 rw[c5]at hb;exact absurd rfl hb
@[elab_as_elim] theorem GO {body:List eF} {hs:List ExceptHandler} {mh:List MS} {k:eF->Bool} {C:List eF->List ExceptHandler->List MS->Prop} (h:Me sc body hs mh k=true)
  (f:∀b q eh hp p m,k b=true->sc.names.lookup (aa "BadText")=some .globalImplicit->ckH sc eh m=true->C [b] [.ExceptHandler (some (.Name (aa "BadText") q)) none [.Return (some eh) hp] p] [.ret m]):C body hs mh:=
 ip h λb h=>ip h λx h=>by
  obtain⟨t,y,hb,p⟩:=x;exact gF h λt h=>dQ h λu q h=>an h λh h4=>an h λh h3=>an h λh1 h2=>io h1 (by
   rw[eq_of_beq h2];exact ip h4 λs h=>uC h λv hp h=>gF h λeh h=>ip h λm h=>FA h λm h=>an h λh1 h2=>f b q eh hp p m h2 (eq_of_beq h3) h1)
theorem JT (H:fp w B mg mb) (hC:iP (hP w B mg mb) xC cf n.1) (hn:n.2=0) {k:Nat} {is:List eF->List MS->Bool} (hi:∀{sts ms},is sts ms=true->xe (hP w B mg mb) xC cf W n sc sts ms) {st:eF} {m:MS} (h:ckS sc (ck k) is st m=true):SS (hP w B mg mb) xC cf W n sc st [m]:=by
 have hr:=λe m=>uf H hC hn k sc e m;cases m with
 |bad=>
  exact .bad
 |assign mt me=>
  exact zA h λts v p h=>ip h λt h=>Eb H hC hn h
 |aug mo x me=>
  exact Fp h λt op e p h=>an h λh1 h=>by
   rw[eq_of_beq h1];exact qJ h λo y q h=>an h λh h3=>an h λh1 h2=>.aug H.base H.setOk (eq_of_beq h1) (hr _ _ h2) (hr _ _ h3)
 |expr me=>
  exact IR h λe p h=>an h λh h3=>an h λh1 h2=>.expr (hr _ _ h1) (λenv hs=>by
   unfold interactive;rw[hs,eq_of_beq h3];rfl) λenv=>u7 (nn h2) _ _ env
 |ifs c a b=>
  exact IP h λt x y p h=>an h λh h3=>an h λh1 h2=>.ifs (pC hr h1) (hi h2) (hi h3)
 |«while» c b=>
  exact IN h λt x e p h=>an h λh h3=>an h λh1 h2=>dZ h1 (.while (pC hr h2) (hi h3))
 |«for» tgt kind it b=>
  exact Fn h λt i x e p h=>an h λh h5=>an h λh h4=>an h λh h3=>an h λh1 h2=>dZ h1 (.for (yE H hr h2) (GQ h3) (hi h4) (pf h5))
 |ret me=>
  exact uC h λe p h=>gF h λe h=>.ret (hr _ _ h)
 |raise me=>
  exact Fm h λe c p h=>an h λh1 h=>io h1 (gF h λe h=>t3 h λy q x es p' h=>an h λh h5=>an h λh h4=>an h λh h3=>an h λh1 h2=>dZ h1 (by
   rw[eq_of_beq h2];exact .raise H.base H.exc (hr _ _ h5) (eq_of_beq h3) (dI h4)))
 |brk=>
  exact IS h λö ö=>.brk
 |tryE x me mh=>
  exact Fk h λbody hs e f p h=>an h λh h3=>an h λh1 h2=>dZ h1 (dZ h2 (GO h3 λb q eh hp p' m hk h2 h3=>ro hk
   (λh=>an h λh1 h=>io h1 (uC h λv rp h=>gF h λv h=>.tryRet H.base H.exc (hr _ _ h) (D9 h3) h2))
   λh=>gF h λx h=>zA h λts e ap h=>ip h λt h=>dQ h λz zp h=>an h λh b4=>an h λh b3=>an h λb1 b2=>
    .tryAsg H.base H.exc (hr _ _ b1) (D9 h3) h2 (eq_of_beq b2) (eq_of_beq b3) (λenv ö=>sq (nn b4) _ _ env) (λenv ö=>by cases e<;>rfl) λenv=>rfl))
 |freeze _=>
  exact ff h
theorem qR (H:fp w B mg mb) (hC:iP (hP w B mg mb) xC cf n.1) (hn:n.2=0) {k:Nat}:∀{d:Nat} {sts:List eF} {ms:List MS},Mj sc (ck k) d sts ms=true->xe (hP w B mg mb) xC cf W n sc sts ms
 |0,_,_,h=>ff h
 |d+1,sts,ms,h=>ro h (λh=>an h λh1 h2=>dZ h1 (dZ h2 .nil)) λh=>gd h λm ms h=>ro h
  (λh=>I2 h λme h=>an h λh1 h2=>.freeze (qR H hC hn h2) (GT h1))
  λh=>gd h λst sts h=>an h λh1 h2=>.cons (JT H hC hn (qR H hC hn) h1) (qR H hC hn h2)
end
end Mine.Internal
end
section
set_option maxRecDepth 100000
namespace Mine.Internal
open PySem PySem.W PyProof.Rows PySem.Calls
noncomputable def okF (p:Params) (d:oU):Bool:=match B9.lookup d.name with
 |some a=>JF (K p) a d.params&&Mj (fdOf (K p) a).scope (ck 40) 60 (vc (fdOf (K p) a)) d.body
 |none=>false
set_option maxRecDepth 1000000 in
theorem J9 (p:Params):prog.all (okF p)=true:=by kernel_rfl
theorem BU:(B9.all λq=>match prog.find? (·.name==q.1)with|some d=>decide (d.name=q.1)|none=>false)=true:=by decide+kernel
section
variable {w:World} {B:Heap} {mg mb:Str->Option ag} {W:Nat}
set_option tactic.hygienic true in
theorem DI (H:fp w B mg mb) {n:Nat} (hC:iP (hP w B mg mb) xC (kN prog W n) n) {f:String} {a:Addr} (hf:B9.lookup f=some a):
  ∃d fd body,prog.find? (·.name==f)=some d/\j9 (hP w B mg mb) a fd d.params body/\mT fd d.params/\xe (hP w B mg mb) xC (kN prog W n) W (n,0) fd.scope body d.body:=by
 have k:=aJ.mp BU _ (eW hf);simp only at k;split at k
 ·rename_i d hd;have hn:d.name=f:=of_decide_eq_true k;have hm:d∈prog:=List.mem_of_find?_eq_some hd;have k2:=aJ.mp (J9 w.params) d hm;unfold okF at k2;rw[hn,hf]at k2;simp only[bO]at k2;obtain⟨a',ha',hb⟩:=qa (BP w.params) hm;rw[hn,hf]at ha'
  (injection ha';subst_vars)
  obtain⟨F,_⟩:=ox H k2.1 λvals s hl ö=>.of_eq (hb vals hl);exact⟨d,_,_,hd,F,hb,qR (n:=(n,0)) H hC rfl k2.2⟩
 ·contradiction
theorem Ed (H:fp w B mg mb):∀n,iP (hP w B mg mb) xC (kN prog W n) n
 |0=>λf a hf A l env ρ fr bs vs hA g σ s E G V F hp hb=>absurd rfl hb
 |n+1=>λf a hf A l env ρ fr bs vs hA=>by
  obtain⟨d,fd,body,hd,FF,hb,hS⟩:=DI H (Ed H n) hf;show aQ _ _ _ _ _ _ _ (match prog.find? (·.name==f)with|some d=>ii (kN prog W n) W d bs|none=>MM.bad) _;rw[hd];exact GV H.nl FF hb hS hA
end
theorem Gv {h:Heap} {la:Addr} {o:Obj} (ho:h.get? la=some o) (hc:o.cls=.type "list") {K:Frag} (x:K.In h) (hk:(K.all λp=>p.2.cls !=.type "list")=true):K.In (hideAll h [la]):=λa ob e=>by
 refine hideAll_get [la] (x a ob e) λq=>?_;rcases aC.mp q with rfl
 have h1:=x _ _ e;rw[ho]at h1;cases h1
 have:∀(l:Frag),l.lookup a=some o->(l.all λp=>p.2.cls !=.type "list")=true->False:=by
  intro l
  induction l with
  |nil=>intro e;contradiction
  |cons p l ih=>
   intro e h;rw[o6,bO]at h;rw[aW]at e;split at e
   ·cases e
    have:=h.1;rw[hc]at this;simp at this
   ·exact ih e h.2
 exact this K e hk
theorem FR {h:Heap} {la a:Addr} {m:Str->Option ag} (n:h.Ns a m) (ne:a≠la):(hideAll h [la]).Ns a m:=by
 obtain⟨o,es,ep,ho,r⟩:=n;exact⟨o,es,ep,hideAll_get [la] ho (by simpa using ne),r⟩
theorem Gs {xs:List WData} {vs:List ag} {as:List Addr} {cl:Str->Option Addr} {h:Heap} (r:ReadsAllW [] cl h vs xs as) (hx:WShape.hasItems [] xs .int=true):∃is:List Int,xs.length=is.length/\∀(P:PW) (g:Gh) (h:Heap),aU P g h (is.map .int) vs:=by
 induction xs generalizing vs as with
 |nil=>cases r;exact⟨[],rfl,λP g h=>trivial⟩
 |cons x xs ih=>
  obtain⟨h1,h2⟩:=d8.mp hx;obtain⟨i,q⟩:=hasW_int h1;cases r with
  |cons r1 r2=>
   obtain⟨is,hl,hr⟩:=ih r2 h2;rw[q]at r1;cases r1
   exact⟨i::is,congrArg (· +1) hl,λP g h=>⟨⟨_,rfl⟩,hr P g h⟩⟩
theorem D2 {N:Nat} (hN:N<=219):jP callerA (N,0) [] where
 handled:=rfl
 depth:=by show 1+claimMargin+3*N<=960+0;rw[show claimMargin=300 by decide+kernel];exact cy 0x1003c0312830312c311022083db21801 hN
 units:=by show 4+20*N<=9800+0;exact cy 0x1002648412814213402094db21801 hN
 level:=aL _
 frames:=rfl
noncomputable def fG (h:Heap) (la:Addr):Gh:=⟨λa=>if a=la then .frz else if(h.get? a).isSome then .base else .free,λö=>0,0⟩
theorem Ab (h:Heap) (la:Addr):(fG h la).tag la=.frz:=if_pos rfl
theorem GD (h:Heap) (la a:Addr):(∀M,(fG h la).tag a≠.frm M):=λM=>by
 unfold fG;simp only[];split
 ·simp
 ·split<;>simp
theorem GB {P:PW} {h:Heap} {la:Addr} (hB:P.B=hideAll h [la]) (hl:(h.get? la).isSome=true):dq P (fG h la) [] h where
 base a o e:=by
  rw[hB]at e;have ne:a≠la:=λq=>by
   rw[q,hideAll_none [la] (.head _)]at e;contradiction
  have e':=of_hideAll [la] e;refine⟨e',?_⟩;unfold fG;simp only[];rw[if_neg ne,e'];rfl
 n:=rfl
 cells k c e:=by simp at e
 live a ha:=by
  by_cases q:a=la
  ·rw[q];exact hl
  ·induction z:(h.get? a).isSome with
   |true=>rfl
   |false=>
    unfold fG at ha;simp only[]at ha;rw[if_neg q,z]at ha;exact absurd rfl ha
 frm a M e:=absurd e (GD h la a M)
theorem I5 {args:List WData} (h:r0.toRowW.claim.pre args=true):∃xs,args=[.list xs]/\WShape.hasItems [] xs .int=true/\xs.length<=63:=by
 obtain⟨p1,p2⟩:=pre_splitW h;have p1:WShape.hasAll [] args [.list .int]=true:=p1;obtain⟨d,r,rfl,q1,q2⟩:=hasAllW_cons p1;rw[hasAllW_nil q2]at p2⊢;obtain⟨xs,rfl,hx⟩:=hasW_list q1;refine⟨xs,rfl,hx,?_⟩;have p2:WTm.holds [] (.and (.not (.lt (.lit (.int (63:Nat))) (.len (.arg 0)))) (.lit (.bool true))) ⟨[.list xs],none,[],[]⟩=true:=p2;by_cases q:xs.length<=63
 ·exact q
 ·exfalso;have z:(63:Int)<xs.length:=bF.mpr (fK q);simp[WTm.holds,WTm.value,less?,Num.less?,z]at p2
theorem J4 {C:Str->Option Addr} {H:Heap} {vals:List ag} {xs:List WData} {as:List Addr} (hrd:ReadsAllW [] C H vals [.list xs] as) (hx:WShape.hasItems [] xs .int=true) {G:List ag->Prop}
  (k:∀la ol vs nl (is:List Int),H.get? la=some ol->ol.cls=.type "list"->ol.data=.seq vs nl->xs.length=is.length->(∀P g h,aU P g h (is.map .int) vs.toList)->G [.ref la]):G vals:=by
 obtain⟨v,as',hv,r,_⟩:=hrd.at 0 _ rfl;obtain⟨l,its,ai,e,⟨o,hol,hcl,n,hdl⟩,hrs,_⟩:=readsW_list_inv r;obtain⟨is,hl,hr⟩:=Gs hrs hx;have z:vals=[v]:=by
  have z:vals.length=1:=hrd.length;obtain⟨u,rfl⟩:=List.length_eq_one_iff.mp z;exact congrArg ([·]) (Option.some.inj hv)
 exact z▸e▸k _ _ _ _ is hol hcl hdl hl hr
theorem Gl {W:Nat} {w:World} {la:Addr} {ol:Obj} {vs:Array ag} {nl:Nat} {is:List Int} {mg mb:Str->Option ag} {s:ak} {Q E:ag->ak->Prop} (H:fp w (hideAll s.heap [la]) mg mb)
  (hol:s.heap.get? la=some ol) (hcl:ol.cls=.type "list") (hdl:ol.data=.seq vs nl) (hr:∀P g h,aU P g h (is.map .int) vs.toList) (hm:∃σ,kN prog W 219 "law" [.arg (is.map .int)] []=.ok (.bool true) σ)
  (k:∀s',(∀b ob,s.heap.get? b=some ob->s'.heap.get? b=some ob)->fU s s'->Q (.bool true) s'):wpAny (model r0.prog w) callerA (call (.ref 404) [.ref la]) Q E s:=by
 refine Mine.Internal.cps λζ κ=>?_;obtain⟨d,fd,body,hd',FF,hb,hS⟩:=DI (W:=W) H (Ed H 218) (f:="law") rfl;obtain⟨σ,hrun⟩:=hm;have hrun:ii (kN prog W 218) W d [.arg (is.map .int)] []=.ok (.bool true) σ:=by
  have e:kN prog W 219 "law" [.arg (is.map .int)]=(match prog.find? (·.name=="law")with|some d=>ii (kN prog W 218) W d [.arg (is.map .int)]|none=>MM.bad):=rfl;rw[e,hd']at hrun;exact hrun
 refine κ ?_;refine oE (P:=hP w (hideAll s.heap [la]) mg mb) (nV _ _ _ _ (λv s' h=>?_) (uh (cls:=xC) (g:=fG s.heap la) (σ:=[]) (fr:=[]) (l:=0) H.nl FF hb hS (D2 (au _)) (GB rfl (by rw[hol];rfl)) (λö h=>nomatch h) (bs:=[.arg (is.map .int)])
  ⟨⟨la,vs.toList,rfl,Ab _ _,⟨ol,hol,hcl,nl,hdl⟩,hr _ _ _⟩,trivial⟩ (λq=>nomatch hrun.symm.trans q) λe s' g' aF q=>nomatch hrun.symm.trans q))
 obtain⟨b,aF,g',e1,ad,G',rb,sm⟩:=h;cases hrun.symm.trans e1
 cases(show v=.bool true from rb)
 refine k s' (λb ob e=>?_) sm;by_cases q:b=la
 ·exact q▸ad.fixZ (q▸e) (Ab _ _)
 ·refine ad.fix b ob e (.inl ?_);show(if b=la then lQ.frz else if(s.heap.get? b).isSome then .base else .free)=.base;rw[if_neg q,e];rfl
theorem GA {w:World} {s:ak} {MP:ak} {mg mb:Str->Option ag} {la:Addr} {ol:Obj} {vs:Array ag} {nl:Nat} (G:Ground qv pn r0.records (λ_ _=>True) w MP mg mb s.heap) (Y:YP0 w s.heap) (hol:s.heap.get? la=some ol) (hcl:ol.cls=.type "list") (hdl:ol.data=.seq vs nl):
  fp w (hideAll s.heap [la]) mg mb:=by
 have nd:∀{b m},s.heap.Ns b m->(hideAll s.heap [la]).Ns b m:=λ{b m} h=>FR h λq=>by
  obtain⟨ob,es,ep,e,e2,_⟩:=h;cases hol.symm.trans (q▸e)
  exact nomatch hdl.symm.trans e2
 obtain⟨mc,hmc,hlim⟩:=G.T.nolimit;exact⟨Gv hol hcl Y (by kernel_rfl),nd G.T.g,nd G.T.b,G.T.builtins,⟨mc,nd hmc,hlim⟩⟩
theorem of_mini {W:Nat} (hm:∀script:List Int,script.length<=63->∃σ,kN prog W 219 "law" [.arg (script.map .int)] []=.ok (.bool true) σ):PySem.Challenge.rw_up0076_01.Holds:=by
 refine FP λw MP cg mg mb G Y a o pm cd doc dV kV ho hd hcd hD hmg hgens args vals as hpre hlay hrd hwl hlo=>?_;obtain⟨xs,rfl,hx,hlen⟩:=I5 hpre;clear hwl hlo hD hcd hd ho hlay;revert hrd;refine λhrd=>J4 (G:=λvals=>wpAny _ _ (call (.ref a) vals) _ _ _) hrd hx λla ol vs nl is hol hcl hdl hl hr=>?_;have H:=GA G Y hol hcl hdl;have ha:a=404:=by
  have e1:mg (aa "law")=some (.ref a):=hmg;rw[H.gl "law",show gV "law"=some (.ref 404) by kernel_rfl]at e1;cases e1;rfl
 exact ha▸Gl H hol hcl hdl hr (hm is (hl▸hlen)) λs' k sm=>⟨.inl ⟨.bool true,.bool true,[],rfl,λcls=>rfl,.bool true,by kernel_rfl,λö=>⟨List.nodup_nil,λa h=>nomatch h⟩⟩,.of_keep k,sm.2.2,.of_eq (sm.1.trans hgens)⟩
end Mine.Internal
end
namespace Mine.Internal
open PySem
section
variable {cf:String->List PV->MM PV} {W:Nat} {ρ gz ρ₂:aE} {σ aZ bK gw fq:ah} {x y:String} {v u w r:PV} {e a b c:ME} {es:List ME} {l:List PV}
variable {s:MS} {ss ss':List MS} {R:qn (Flow×aE)}
end
noncomputable abbrev C (W n:Nat):String->List PV->MM PV:=kN prog W n
open PySem
theorem cn:PV.subst j q (.obj c ns vs)=.obj c ns (PV.substs j q vs):=rfl
theorem bU:PV.subst j q (.list l)=.list (PV.substs j q l):=rfl
theorem cj:PV.subst j q (.tup l)=.tup (PV.substs j q l):=rfl
theorem cq:PV.subst j q (.loc i)=if i=j then q else .loc i:=rfl
theorem cm:PV.subst j q (.str s)=.str s:=rfl
theorem cr:PV.subst j q (.int i)=.int i:=rfl
theorem dh:PV.substs j q []=[]:=rfl
theorem di:PV.substs j q (v::l)=PV.subst j q v::PV.substs j q l:=rfl
set_option genInjectivity true in
set_option genCtorIdx true in
inductive Tok where
 |lp|rp|semi|bar|amp
 |rd (k:Fin 3)
 |wd (i:Fin 9)
noncomputable def Tok.nr (t:Tok):Nat×Nat:=t.casesOn (0,0) (1,0) (2,0) (3,0) (4,0) (λk=>(5,k.val)) λi=>(6,i.val)
noncomputable def Tok.of (n:Nat×Nat):Tok:=[Tok.lp,.rp,.semi,.bar,.amp,.rd (Fin.ofNat 3 n.2)].getD n.1 (.wd (Fin.ofNat 9 n.2))
theorem Tok.of_nr (t:Tok):of t.nr=t:=t.casesOn rfl rfl rfl rfl rfl (λk=>congrArg Tok.rd (Fin.ofNat_val_eq_self k)) λi=>congrArg Tok.wd (Fin.ofNat_val_eq_self i)
noncomputable instance:DecidableEq Tok:=λa b=>if h:a.nr=b.nr then .isTrue (a.of_nr▸b.of_nr▸congrArg Tok.of h)else .isFalse λe=>h (congrArg Tok.nr e)
inductive T where
 |run (ws:List (Fin 9))
 |red (c:T) (p:Fin 9) (k:Fin 3)
 |pair (s:Bool) (l r:T)
 |back (c:T)
noncomputable instance:DecidableEq T:=λö ö=>Classical.propDecidable _
noncomputable def Ht (i:Fin 9):String:=["a","bc","-d","e.f","/","'g'","e","f","../g"][i.val]!
noncomputable def redS (k:Fin 3):String:=["<",">",">>"][k.val]!
noncomputable def KU:Tok->String
 |.lp=>"("|.rp=>")"|.semi=>";"|.bar=>"|"|.amp=>"&"
 |.rd k=>redS k
 |.wd i=>Ht i
noncomputable def qe (s:Bool):Tok:=if s then .semi else .bar
noncomputable def np:Tok->Bool
 |.lp|.rp=>false
 |_=>true
noncomputable def own:T->Nat
 |.run _|.red ..=>3
 |.pair s _ _=>if s then 0 else 2
 |.back _=>1
noncomputable def body:T->List Tok
 |.run ws=>ws.map .wd
 |.red c p k=>(if 3<=own c then body c else .lp::(body c++[.rp]))++[.rd k,.wd p]
 |.pair s l r=>(if(if s then 1 else 3)<=own l then body l else .lp::(body l++[.rp]))++qe s::(if(if s then 0 else 2)<=own r then body r else .lp::(body r++[.rp]))
 |.back c=>(if 1<=own c then body c else .lp::(body c++[.rp]))++[.amp]
theorem sB:body (.run ws)=ws.map .wd:=rfl
noncomputable def wr (k:Nat) (t:T):List Tok:=if k<=own t then body t else .lp::(body t++[.rp])
theorem i3 (c:T) (p:Fin 9) (k:Fin 3):body (.red c p k)=wr 3 c++[.rd k,.wd p]:=rfl
theorem fS (s:Bool) (l r:T):body (.pair s l r)=wr (if s then 1 else 3) l++qe s::wr (if s then 0 else 2) r:=rfl
theorem gX (c:T):body (.back c)=wr 1 c++[.amp]:=rfl
theorem iG (k:Nat) (t:T):(wr k t).length=(body t).length+if k<=own t then 0 else 2:=by
 unfold wr;split<;>simp
theorem EW (h:i<=k) (t:T):(wr i t).length<=(wr k t).length:=by
 rw[iG,iG];split
 ·split
  ·exact cy 0x10082008200
  ·exact cy 0x12082008200
 ·split
  ·exact d3 0x100b220b2082a9082a88829803 h ‹_› ‹_›
  ·exact cy 0x12082208200
theorem rC (t:T):own t<=3:=by
 induction t<;>simp only[own]<;>(try split)<;>decide
theorem lb (t:T):wr 0 t=body t:=if_pos (aL _)
noncomputable def fA:T->List Tok
 |.run ws=>ws.map .wd
 |.red c p k=>fA c++[.rd k,.wd p]
 |.pair s l r=>fA l++qe s::fA r
 |.back c=>fA c++[.amp]
theorem eA:fA (.run ws)=ws.map .wd:=rfl
theorem dK:fA (.red c p k)=fA c++[.rd k,.wd p]:=rfl
theorem dz:fA (.pair s l r)=fA l++qe s::fA r:=rfl
theorem dA:fA (.back c)=fA c++[.amp]:=rfl
theorem nI (s:Bool):np (qe s)=true:=by induction s<;>rfl
theorem pj (ws:List (Fin 9)):(ws.map Tok.wd).filter np=ws.map .wd:=by
 induction ws with
 |nil=>rfl
 |cons w ws ih=>rw[bq,bb rfl,ih]
theorem zl (k:Nat) (t:T) (h:(body t).filter np=fA t):(wr k t).filter np=fA t:=by
 unfold wr;split
 ·exact h
 ·rw[bB (by simp[np]),bp,h];simp[np]
theorem j5:∀t:T,(body t).filter np=fA t
 |.run ws=>pj ws
 |.red c p k=>by
  rw[i3,bp,zl 3 c (j5 c)];rfl
 |.pair s l r=>by
  rw[fS,bp,zl _ l (j5 l),bb (nI s),zl _ r (j5 r)];rfl
 |.back c=>by
  rw[gX,bp,zl 1 c (j5 c)];rfl
noncomputable def fv (rs:List (Fin 3×Fin 9)) (t:T):T:=rs.foldl (λt r=>.red t r.2 r.1) t
noncomputable def jA (rs:List (Fin 3×Fin 9)):List Tok:=rs.flatMap λr=>[.rd r.1,.wd r.2]
theorem dT (rs:List (Fin 3×Fin 9)) (r:Fin 3×Fin 9) (t:T):fv (rs++[r]) t=.red (fv rs t) r.2 r.1:=by simp[fv]
theorem jW (rs:List (Fin 3×Fin 9)) (r:Fin 3×Fin 9):jA (rs++[r])=jA rs++[.rd r.1,.wd r.2]:=by simp[jA]
theorem CO (rs:List (Fin 3×Fin 9)):(jA rs).length=2*rs.length:=by
 induction rs with
 |nil=>rfl
 |cons r rs ih=>simp only[jA,ET,af,aj,bc]at*;exact am (bH 0x1109220381010002220819203821 ih) (bH 0x18101000222109220307f9203821 ih)
theorem zB (rs:List (Fin 3×Fin 9)):(jA rs).filter np=jA rs:=by
 induction rs with
 |nil=>rfl
 |cons r rs ih=>
  simp only[jA,ET,bp]at*;rw[ih];rfl
inductive lI:List Tok->List (Fin 9)->List (Fin 3×Fin 9)->Prop
 |nil:lI [] [] []
 |word {ts ws rs} (w:Fin 9):lI ts ws rs->lI (ts++[.wd w]) (ws++[w]) rs
 |red {ts ws rs} (r:Fin 3×Fin 9):lI ts ws rs->lI (ts++[.rd r.1,.wd r.2]) ws (rs++[r])
inductive D:Nat->List Tok->T->Prop
 |prog {ts ws rs}:lI ts ws rs->ws.length<=9->D 3 ts (fv rs (.run ws))
 |block {ts t} (rs):D 0 ts t->D 3 (.lp::(ts++.rp::jA rs)) (fv rs t)
 |up {k ts t}:k<=2->D (k+1) ts t->D k ts t
 |bar {a b l r}:D 3 a l->D 2 b r->D 2 (a++.bar::b) (.pair false l r)
 |amp {a t}:D 1 a t->D 1 (a++[.amp]) (.back t)
 |semi {a b l r}:D 1 a l->D 0 b r->D 0 (a++.semi::b) (.pair true l r)
theorem jU {α:Type} {P:List α->Prop} (h0:P []) (h1:∀l a,P l->P (l++[a])) (l:List α):P l:=by
 have:∀l:List α,P l.reverse:=by
  intro l
  induction l with
  |nil=>exact h0
  |cons a l ih=>rw[kX];exact h1 _ _ ih
 have:=this l.reverse
 rwa [gB]at this
theorem v7 (t:T):∀rs:List (Fin 3×Fin 9),rs≠[]->own (fv rs t)=3:=by
 intro rs h;obtain⟨rs',r,rfl⟩:∃rs' r,rs=rs'++[r]:=⟨rs.dropLast,rs.getLast h,(List.dropLast_concat_getLast h).symm⟩;rw[dT];rfl
theorem BL (t:T):∀rs:List (Fin 3×Fin 9),rs≠[]->(body (fv rs t)).length=(wr 3 t).length+2*rs.length:=by
 refine jU (λh=>absurd rfl h) λrs r ih ö=>?_;rw[dT,i3,af,af];have e:(wr 3 (fv rs t)).length=(wr 3 t).length+2*rs.length:=by
  by_cases q:rs=[]
  ·subst q;rfl
  ·rw[iG 3 (fv rs t),ih q,v7 t rs q];rfl
 rw[e];simp only[aj,bc];exact am (bH 0x110002922038210100022920382200) (bH 0x110100022920382210002922038200)
theorem vG (t:T) (rs:List (Fin 3×Fin 9)):(wr 3 (fv rs t)).length=(wr 3 t).length+2*rs.length:=by
 by_cases q:rs=[]
 ·subst q;simp[fv]
 ·rw[iG,v7 t rs q,BL t rs q];simp
theorem uc (t:T) (rs:List (Fin 3×Fin 9)):fA (fv rs t)=fA t++jA rs:=by
 revert rs;refine jU (by simp[fv,jA]) λrs r ih=>?_;rw[dT,jW,dK,ih,aq]
theorem CW {ts ws rs} (h:lI ts ws rs):ts.length=ws.length+2*rs.length:=by
 induction h with
 |nil=>rfl
 |word w _ ih=>simp only[af,aj,bc];exact am (b7 0x1a203100029221000282081a20392821 ih) (b7 0x11000282a2031000292207fa20392821 ih)
 |red r _ ih=>simp only[af,aj,bc];exact am (b7 0x110002a2203921010002282081a20392821 ih) (b7 0x1101000228210002a22039207fa20392821 ih)
theorem uI {ts ws rs} (h:lI ts ws rs):ts.filter np=ts:=by
 induction h with
 |nil=>rfl
 |word w _ ih=>rw[bp,ih];rfl
 |red r _ ih=>rw[bp,ih];rfl
theorem Bb {ts ws rs} (h:lI ts ws rs):ts.Perm (ws.map .wd++jA rs):=by
 induction h with
 |nil=>exact .refl _
 |word w _ ih=>
  rw[ca,aq];refine(ih.append_right _).trans ?_;rw[aq];exact(List.perm_append_comm).append_left _
 |red r _ ih=>
  rw[jW,<-aq];exact ih.append_right _
theorem D.len {k ts t} (h:D k ts t):(wr k t).length<=ts.length:=by
 induction h with
 |@prog ts ws rs h _=>
  rw[vG,CW h,iG];simp[own,sB]
 |@block ts t rs _ ih=>
  rw[vG];have:=iG 3 t;rw[lb]at ih;simp only[aj,af,CO];split at this
  ·exact d3 0x11010b2032922b203a20810082a2819802 ih this
  ·exact d3 0x11010b2032922b203a20812082a2819802 ih this
 |up hk _ ih=>exact ae (EW (iD _) _) ih
 |bar _ _ ih1 ih2=>
  rw[wr,if_pos (by simp[own]),fS];simp only[iz,if_false,af,aj];exact d3 0x110b29210a282081ba0819802 ih1 ih2
 |amp _ ih=>
  rw[wr,if_pos (by simp[own]),gX];simp only[af,aj,bc];exact bH 0x1100029210002820819801 ih
 |semi _ _ ih1 ih2=>
  rw[lb,fS];simp only[if_true,af,aj];exact d3 0x110b29210a282081ba0819802 ih1 ih2
theorem D.perm {k ts t} (h:D k ts t):(ts.filter np).Perm (fA t):=by
 induction h with
 |@prog ts ws rs h _=>
  rw[uc,uI h];exact Bb h
 |@block ts t rs _ ih=>
  rw[uc,bB (by simp[np]),bp,bB (by simp[np]),zB];exact ih.append_right _
 |up _ _ ih=>exact ih
 |bar _ _ ih1 ih2=>
  rw[bp,bb rfl];exact ih1.append (ih2.cons _)
 |amp _ ih=>
  rw[bp];exact ih.append_right _
 |semi _ _ ih1 ih2=>
  rw[bp,bb rfl];exact ih1.append (ih2.cons _)
open PySem
noncomputable def i5:Nat->List Tok->T->Option (T×List Tok)
 |m,.amp::ts,t=>(match m with|0=>none|m+1=>i5 m ts (.back t))
 |_,ts,t=>some (t,ts)
termination_by structural _ ts=>ts
noncomputable def jV:Nat->List Tok->T->Option (T×List Tok)
 |m,.rd k::.wd w::ts,c=>(match m with|0=>none|m+1=>jV m ts (.red c w k))
 |_,.rd _::_,_=>none
 |_,ts,c=>some (c,ts)
termination_by structural _ ts=>ts
noncomputable def f9:Nat->List (Fin 9)->List (Fin 3×Fin 9)->List Tok->Option (T×List Tok)
 |m,ws,rs,.rd k::.wd w::ts=>(match m with|0=>none|m+1=>f9 m ws (rs++[(k,w)]) ts)
 |_,_,_,.rd _::_=>none
 |m,ws,rs,.wd w::ts=>if ws.length=9 then none else f9 m (ws++[w]) rs ts
 |_,_,_,.lp::_=>none
 |_,ws,rs,ts=>some (fv rs (.run ws),ts)
termination_by structural _ _ _ ts=>ts
noncomputable def jo (pl:List Tok->Option (T×List Tok)) (m:Nat):List Tok->Option (T×List Tok)
 |.lp::ts=>(pl ts).bind λr=>match r.2 with
  |.rp::ts'=>jV m ts' r.1
  |_=>none
 |ts=>f9 m [] [] ts
noncomputable def pp:Nat->Bool->List Tok->Option (T×List Tok)
 |0,_,_=>none
 |m+1,true,ts=>(pp m false ts).bind λr=>(i5 m r.2 r.1).bind λq=>match q.2 with
  |.semi::ts3=>(pp m true ts3).map λz=>(.pair true q.1 z.1,z.2)
  |_=>some q
 |m+1,false,ts=>(jo (pp m true) m ts).bind λr=>match r.2 with
  |.bar::ts2=>(pp m false ts2).map λz=>(.pair false r.1 z.1,z.2)
  |_=>some r
theorem mB:pp 0 b ts=none:=rfl
theorem mz:pp (m+1) true ts=(pp m false ts).bind λr=>(i5 m r.2 r.1).bind λq=>match q.2 with
  |.semi::ts3=>(pp m true ts3).map λz=>(.pair true q.1 z.1,z.2)
  |_=>some q:=rfl
theorem my:pp (m+1) false ts=(jo (pp m true) m ts).bind λr=>match r.2 with
  |.bar::ts2=>(pp m false ts2).map λz=>(.pair false r.1 z.1,z.2)
  |_=>some r:=rfl
noncomputable def ik (ts:List Tok):Option T:=match pp 30 true ts with
 |some (t,[])=>some t
 |_=>none
theorem yT:∀{ts:List Tok} {m:Nat} {t t':T} {u r:List Tok},i5 m ts t=some (t',r)->D 1 u t->∃v,ts=v++r/\D 1 (u++v) t':=by
 intro ts
 induction ts with
 |nil=>intro m t t' u r h d;cases h;exact⟨[],rfl,(bz u).symm▸d⟩
 |cons k ts ih=>
  intro m t t' u r h d
  induction k with
  |amp=>induction m with
   |zero=>cases(show none=some _ from h)
   |succ m=>
    obtain⟨v,e,d'⟩:=ih (m:=m) h (.amp d);exact⟨.amp::v,by rw[e];rfl,by rw[aq]at d';exact d'⟩
  |_=>cases h;exact⟨[],rfl,(bz u).symm▸d⟩
theorem A5 (r:Fin 3×Fin 9) (rs:List (Fin 3×Fin 9)) (t:T):fv (r::rs) t=fv rs (.red t r.2 r.1):=rfl
theorem ifN {α:Type} {c:Prop} [Decidable c] {a:Option α} {b:α} (e:(if c then none else a)=some b):¬c/\a=some b:=by
 by_cases h:c
 ·rw[if_pos h]at e;contradiction
 ·rw[if_neg h]at e;exact⟨h,e⟩
theorem xK (n:Nat):∀{ts:List Tok} {m:Nat} {t t':T} {r:List Tok},ts.length<=n->jV m ts t=some (t',r)->∃rs,ts=jA rs++r/\t'=fv rs t:=by
 induction n with
 |zero=>
  intro ts m t t' r hn h;cases ts with
  |nil=>cases h;exact⟨[],rfl,rfl⟩
  |cons _ _=>contradiction
 |succ n ih=>
  intro ts m t t' r hn h;have fin:some (t,ts)=some (t',r)->∃rs,ts=jA rs++r/\t'=fv rs t:=λh=>by cases h;exact⟨[],rfl,rfl⟩
  cases ts with
  |nil=>exact fin h
  |cons k ts=>cases k with
   |rd k=>cases ts with
    |nil=>cases(show none=some _ from h)
    |cons k2 ts=>cases k2 with
     |wd w=>cases m with
      |zero=>cases(show none=some _ from h)
      |succ m=>
       obtain⟨rs,e,e2⟩:=ih (m:=m) (bY (cZ hn)) h;exact⟨(k,w)::rs,by rw[e];rfl,e2⟩
     |_=>cases(show none=some _ from h)
   |_=>exact fin h
inductive KO (ts u:List Tok) (t:T) (r:List Tok):Prop
 |mk (v:List Tok) (ws':List (Fin 9)) (rs':List (Fin 3×Fin 9)):ts=v++r->lI (u++v) ws' rs'->ws'.length<=9->t=fv rs' (.run ws')->KO ts u t r
theorem KO.cons {ts u v:List Tok} {t:T} {r:List Tok} (h:KO ts (u++v) t r):KO (v++ts) u t r:=
 have⟨x,ws',rs',e,p,hw,et⟩:=h
 ⟨v++x,ws',rs',by rw[e,aq],aq u v x▸p,hw,et⟩
theorem xQ (n:Nat):∀{ts u:List Tok} {m:Nat} {ws:List (Fin 9)} {rs:List (Fin 3×Fin 9)} {t:T} {r:List Tok},ts.length<=n->f9 m ws rs ts=some (t,r)->lI u ws rs->ws.length<=9->KO ts u t r:=by
 induction n with
 |zero=>
  intro ts u m ws rs t r hn h p hw;cases ts with
  |nil=>cases h;exact⟨[],ws,rs,rfl,(bz u).symm▸p,hw,rfl⟩
  |cons _ _=>contradiction
 |succ n ih=>
  intro ts u m ws rs t r hn h p hw;have fin:some (fv rs (.run ws),ts)=some (t,r)->KO ts u t r:=λh=>by cases h;exact⟨[],ws,rs,rfl,(bz u).symm▸p,hw,rfl⟩
  cases ts with
  |nil=>exact fin h
  |cons k ts=>cases k with
   |lp=>cases(show none=some _ from h)
   |rd k=>cases ts with
    |nil=>cases(show none=some _ from h)
    |cons k2 ts=>cases k2 with
     |wd w=>cases m with
      |zero=>cases(show none=some _ from h)
      |succ m=>exact(ih (u:=u++[.rd k,.wd w]) (m:=m) (bY (cZ hn)) h (.red (k,w) p) hw).cons
     |_=>cases(show none=some _ from h)
   |wd w=>
    obtain⟨q,h⟩:=ifN h;exact(ih (u:=u++[.wd w]) (bY hn) h (.word w p) (by rw[af];exact iA hw q)).cons
   |_=>exact fin h
set_option tactic.hygienic true in
theorem xV {pl:List Tok->Option (T×List Tok)} {m:Nat} (hp:∀ts t r,pl ts=some (t,r)->∃u,ts=u++r/\D 0 u t) {ts:List Tok} {t:T} {r:List Tok} (h:jo pl m ts=some (t,r)):∃u,ts=u++r/\D 3 u t:=by
 unfold jo at h;split at h
 ·obtain⟨⟨t0,r0⟩,h1,h2⟩:=fy.mp h;obtain⟨u,e,d⟩:=hp _ _ _ h1;simp only at h2;split at h2
  ·rename_i ts';obtain⟨rs,e2,e3⟩:=xK _ (au _) h2;subst e3;exact⟨_,by rw[e,e2];simp,.block rs d⟩
  ·contradiction
 ·obtain⟨v,ws,rs,e,p,hw,et⟩:=xQ _ (au _) h .nil (by simp);subst et;exact⟨v,e,.prog (by simpa using p) hw⟩
set_option tactic.hygienic true in
theorem CY (m:Nat):∀(b:Bool) {ts:List Tok} {t:T} {r:List Tok},pp m b ts=some (t,r)->∃u,ts=u++r/\D (if b then 0 else 2) u t:=by
 induction m with
 |zero=>exact λö ö ö ö h=>nomatch h
 |succ m ih=>
  intro b ts t r h
  induction b with
  |true=>
   replace h:(pp m false ts).bind _=some (t,r):=h;obtain⟨⟨t0,r0⟩,h1,h2⟩:=fy.mp h;obtain⟨⟨t1,r1⟩,h3,h4⟩:=fy.mp h2;obtain⟨u,e,d⟩:=ih false h1;obtain⟨v,e2,d2⟩:=yT h3 (.up (by decide) d);replace e2:r0=v++r1:=e2;rw[e2,<-aq]at e;replace h4:(match(generalizing:=false) r1 with
    |.semi::ts3=>(pp m true ts3).map λz=>(T.pair true t1 z.1,z.2)
    |_=>some (t1,r1))=some (t,r):=h4
   split at h4
   ·rename_i ts3;obtain⟨⟨t2,r2⟩,h5,h6⟩:=aS.mp h4;cases h6
    obtain⟨x,e4,d4⟩:=ih true h5;exact⟨(u++v)++.semi::x,by rw[e,e4,aq (u++v)];rfl,.semi d2 d4⟩
   ·cases h4
    exact⟨u++v,e,.up (by decide) d2⟩
  |false=>
   replace h:(jo (pp m true) m ts).bind _=some (t,r):=h;obtain⟨⟨t0,r0⟩,h1,h2⟩:=fy.mp h;obtain⟨u,e,d⟩:=xV (λts t r q=>ih true q) h1;replace h2:(match(generalizing:=false) r0 with
    |.bar::ts2=>(pp m false ts2).map λz=>(T.pair false t0 z.1,z.2)
    |_=>some (t0,r0))=some (t,r):=h2
   split at h2
   ·rename_i ts2;obtain⟨⟨t2,r2⟩,h5,h6⟩:=aS.mp h2;cases h6
    obtain⟨x,e4,d4⟩:=ih false h5;exact⟨u++.bar::x,by rw[e,e4,aq];rfl,.bar d d4⟩
   ·cases h2
    exact⟨u,e,.up (by decide) d⟩
set_option tactic.hygienic true in
theorem jX (h:ik ts=some t):D 0 ts t:=by
 unfold ik at h;split at h
 ·rename_i t' e
  (injection h;subst_vars)
  obtain⟨u,e2,d⟩:=CY _ _ e;rw[bz]at e2;subst e2;exact d
 ·contradiction
open PySem
set_option genInjectivity true in
structure DS where
 first:Int
 level:Int
 more:Int
 most:Int
 held:List (Int×Int)
noncomputable def ce (s:DS) (f l m:Int) (h:List (Int×Int)):DS:=⟨f,l,m,max s.most (l+m),h⟩
noncomputable def iY (s:DS):Tok->Option DS
 |.lp=>some (ce s (s.level+2) (s.level+2) 0 ((s.first,s.level)::s.held))
 |.rp=>(match s.held with
  |(f,l)::h=>some (ce s f l 0 h)
  |[]=>none)
 |.semi=>some (ce s (s.first+1) (s.first+1) 0 s.held)
 |.bar=>some (ce s s.first (s.level+1) 0 s.held)
 |.amp=>some (ce s s.first (s.first-1) (1+if s.level<s.first then s.more else 0) s.held)
 |.rd _=>some (ce s s.first s.level (s.more+1) s.held)
 |.wd _=>some (ce s s.first s.level s.more s.held)
noncomputable def lV:List Tok->DS->Option DS
 |[],s=>some s
 |t::ts,s=>(iY s t).bind (lV ts)
theorem gS:lV [] s=some s:=rfl
theorem gU:lV (t::ts) s=(iY s t).bind (lV ts):=rfl
theorem jE:∀(a b:List Tok) (s:DS),lV (a++b) s=(lV a s).bind (lV b)
 |[],_,_=>rfl
 |t::a,b,s=>by
  simp only[bC,gS,gU];cases iY s t with
  |none=>rfl
  |some s'=>exact jE a b s'
noncomputable def wM (ts:List Tok):Option Int:=(lV ts ⟨2,2,0,2,[]⟩).map (·.most)
noncomputable def om:List Tok->Prop
 |.rd _::_|.wd _::_|.lp::_=>False
 |_=>True
noncomputable def CE (ts:List Tok):Prop:=om ts/\∀r,ts≠.bar::r
noncomputable def K0 (ts:List Tok):Prop:=CE ts/\∀r,ts≠.amp::r
noncomputable def KZ (ts:List Tok):Prop:=K0 ts/\∀r,ts≠.semi::r
noncomputable def GC (h:Nat) (ts:List Tok) (t:T):Prop:=
 (∀m rest,om rest->jo (pp m true) m (ts++rest)=if h<=m then some (t,rest)else none)/\
 ∀(f l M:Int) (hd:List (Int×Int)),l<=M->∃m',lV ts ⟨f,l,0,M,hd⟩=some ⟨f,l,m',max M (l+h),hd⟩
noncomputable def GP (h:Nat) (ts:List Tok) (t:T):Prop:=1<=h/\
 (∀m rest,CE rest->pp m false (ts++rest)=if h<=m then some (t,rest)else none)/\
 ∀(f l M:Int) (hd:List (Int×Int)),l<=M->∃l' m',lV ts ⟨f,l,0,M,hd⟩=some ⟨f,l',m',max M (l-1+h),hd⟩/\l<=l'
noncomputable def GE (h j:Nat) (ts:List Tok) (t:T):Prop:=1<=h/\
 (∀m rest,CE rest->((pp m false (ts++rest)).bind λr=>i5 m r.2 r.1)=if h<=m then i5 (m-j) rest t else none)/\
 ∀(f M:Int) (hd:List (Int×Int)),f<=M->∃l' m',lV ts ⟨f,f,0,M,hd⟩=some ⟨f,l',m',max M (f-1+h),hd⟩/\(j=0->f<=l')/\(0<j->l'=f-1/\m'=j)
noncomputable def GL (h:Nat) (ts:List Tok) (t:T):Prop:=2<=h/\
 (∀m rest,KZ rest->pp m true (ts++rest)=if h<=m then some (t,rest)else none)/\
 ∀(f M:Int) (hd:List (Int×Int)),f<=M->∃f' l' m',lV ts ⟨f,f,0,M,hd⟩=some ⟨f',l',m',max M (f-2+h),hd⟩
theorem pJ (h:∀r,rest≠.amp::r) (m:Nat) (t:T):i5 m rest t=some (t,rest):=by
 induction rest with
 |nil=>rfl
 |cons k r=>induction k<;>first|exact absurd rfl (h r)|rfl
theorem A4 (h:om rest) (m:Nat) (t:T):jV m rest t=some (t,rest):=by
 induction rest with
 |nil=>rfl
 |cons k r=>induction k<;>first|exact h.elim|rfl
theorem A' (h:om rest) (m:Nat) (ws:List (Fin 9)) (rs:List (Fin 3×Fin 9)):f9 m ws rs rest=some (fv rs (.run ws),rest):=by
 induction rest with
 |nil=>rfl
 |cons k r=>induction k<;>first|exact h.elim|rfl
theorem xO (m:Nat) (k:Fin 3) (w:Fin 9) (ts:List Tok) (c:T):jV m (.rd k::.wd w::ts) c=if 1<=m then jV (m-1) ts (.red c w k)else none:=by
 induction m<;>rfl
theorem v2 (rest:List Tok) (h:om rest):∀(rs:List (Fin 3×Fin 9)) (m:Nat) (t:T),jV m (jA rs++rest) t=if rs.length<=m then some (fv rs t,rest)else none
 |[],m,t=>by
  show jV m rest t=if 0<=m then some (t,rest)else none
  rw[if_pos (aL _)];exact A4 h m t
 |r::rs,m,t=>by
  show jV m (.rd r.1::.wd r.2::(jA rs++rest)) t=_;rw[xO,v2 rest h rs,A5];simp only[aj];split
  ·split
   ·split
    ·rfl
    ·exact aw (b7 0x781a1092281a10828819803 ‹_› ‹_› (ac (n:=m) (m:=1) (cy 0x181008181001 ‹_›)))
   ·split
    ·exact aw (b7 0x77fa1092281a10820819883 ‹_› ‹_› (ac (n:=m) (m:=1) (cy 0x181008181001 ‹_›)))
    ·rfl
  ·split
   ·exact aw (bH 0x7818109208181082 ‹_› ‹_›)
   ·rfl
theorem tX:∀(rs:List (Fin 3×Fin 9)) (f l m M:Int) (hd:List (Int×Int)),l+m<=M->lV (jA rs) ⟨f,l,m,M,hd⟩=some ⟨f,l,m+rs.length,max M (l+(m+rs.length)),hd⟩
 |[],f,l,m,M,hd,h=>by
  show some _=_;simp;exact aM (iF 0x1983819831 (aB _ _)) (bh.mpr ⟨gR 0x18830,wJ 0x1a982381a98231 h⟩)
 |r::rs,f,l,m,M,hd,h=>by
  show lV (.rd r.1::.wd r.2::jA rs) _=_;simp only[gS,gU,iY,ce,aY];rw[tX rs _ _ _ _ _ (by exact wJ 0x1a109282381a10928231 (aD _ _))];simp only[aj,Option.some.injEq,DS.mk.injEq,true_and,and_true];exact⟨aM (n9 0x11082682861082230) (n9 0x18610822108268230),aM (bh.mpr ⟨bh.mpr ⟨bh.mpr ⟨iF 0x1983819831 (aB _ _),f31 0x1a109282381a10826928231 (aD _ _)⟩,f31 0x1a109282381a10826928231 (aD _ _)⟩,f31 0x1a861092282381a10826928231 (aD _ _)⟩) (bh.mpr ⟨JI 0x19b381ab3818a3819833 (aB _ _) (aB _ _) (aB _ _),f31 0x1a108269282381a86109228231 (aD _ _)⟩)⟩
theorem xR (m:Nat) (ws:List (Fin 9)) (rs:List (Fin 3×Fin 9)) (w:Fin 9) (ts:List Tok):f9 m ws rs (.wd w::ts)=if ws.length=9 then none else f9 m (ws++[w]) rs ts:=by
 rfl
theorem Be (m:Nat) (ws:List (Fin 9)) (rs:List (Fin 3×Fin 9)) (k:Fin 3) (w:Fin 9) (ts:List Tok):f9 m ws rs (.rd k::.wd w::ts)=if 1<=m then f9 (m-1) ws (rs++[(k,w)]) ts else none:=by
 induction m<;>rfl
theorem FD {ts ws rs} (p:lI ts ws rs):ws.length<=9->∀(m:Nat) (rest:List Tok),f9 m [] [] (ts++rest)=if rs.length<=m then f9 (m-rs.length) ws rs rest else none:=by
 induction p with
 |nil=>intro _ m rest;simp
 |@word ts ws rs w p ih=>
  intro hw m rest;simp only[af,aj,bc]at hw;rw[aq,ih (cy 0x190808190100028201 hw)];split
  ·show f9 _ ws rs (.wd w::rest)=_;rw[xR,if_neg (by exact λe_=>cy 0x77f90828190100028202 hw e_)]
  ·rfl
 |@red ts ws rs r p ih=>
  intro hw m rest;rw[aq,ih hw];simp only[af,aj,bc];split
  ·show f9 _ ws rs (.rd r.1::.wd r.2::rest)=_;rw[Be];split
   ·rw[if_pos (by exact b7 0x1a1000292081a98228181002 ‹_› (ac (n:=m) (m:=rs.length) (bH 0x1980819801 ‹_›))),Cc]
   ·rw[if_neg (by exact b7 0x1a100029287fa98228181082 ‹_› (ac (n:=m) (m:=rs.length) (bH 0x1980819801 ‹_›)))]
  ·rw[if_neg (by exact bH 0x1910002828819881 ‹_›)]
theorem Bc {ts ws rs} (p:lI ts ws rs) (f l M:Int) (hd:List (Int×Int)) (h:l<=M):lV ts ⟨f,l,0,M,hd⟩=some ⟨f,l,rs.length,max M (l+rs.length),hd⟩:=by
 induction p with
 |nil=>simp[gS,gU];exact aM (iF 0x1983819831 (aB _ _)) (bh.mpr ⟨gR 0x18830,iF 0x1983819831 h⟩)
 |word w p ih=>
  rw[jE,ih];simp only[aY,gS,gU,iY,ce,Option.some.injEq,DS.mk.injEq,true_and,and_true];exact aM (bh.mpr ⟨gR 0x18830,HT 0x1986823819868231 (aD _ _)⟩) (bh.mpr ⟨wJ 0x19a3818a3819832 (aB _ _) (aB _ _),HT 0x1986823819868231 (aD _ _)⟩)
 |red r p ih=>
  rw[jE,ih];simp only[aY,gS,gU,iY,ce,af,aj,bc,Option.some.injEq,DS.mk.injEq,true_and,and_true];constructor
  ·exact aM (cy 0x1100028261086230) (cy 0x1108621000282630)
  ·exact aM (bh.mpr ⟨bh.mpr ⟨bh.mpr ⟨iF 0x1983819831 (aB _ _),HT 0x1986823819100028268231 (aD _ _)⟩,HT 0x1910862823819100028268231 (aD _ _)⟩,HT 0x1910862823819100028268231 (aD _ _)⟩) (bh.mpr ⟨JI 0x19b381ab3818a3819833 (aB _ _) (aB _ _) (aB _ _),HT 0x1910002826823819108628231 (aD _ _)⟩)
set_option tactic.hygienic true in
theorem GC.prog {ts ws rs} (p:lI ts ws rs) (hw:ws.length<=9):GC rs.length ts (fv rs (.run ws)):=by
 refine⟨λm rest hr=>?_,λf l M hd h=>⟨_,Bc p f l M hd h⟩⟩;have e:jo (pp m true) m (ts++rest)=f9 m [] [] (ts++rest):=by
  have:∀r,ts++rest≠.lp::r:=by
   intro r q
   induction ts with
   |nil=>
    rw[tG]at q;rw[q]at hr;exact hr
   |cons k ts=>
    rw[bC]at q;injection q with q _;have:=uI p;rw[q,bB (by simp[np])]at this;have:=congrArg gC this;have:=eR np ts;simp_all;exact cy 0x7818108201 this
  unfold jo;split
  ·rename_i r q;exact absurd q (this r)
  ·rfl
 rw[e,FD p hw];split
 ·exact A' hr _ _ _
 ·rfl
theorem GP.of {h ts t} (g:GC h ts t):GP (h+1) ts t:=by
 refine⟨cy 0x110821000,λm rest hr=>?_,λf l M hd q=>?_⟩
 ·induction m with
  |zero=>simp[mB,mz,my]
  |succ m=>
   simp only[mB,mz,my];rw[g.1 m rest hr.1];by_cases q:h<=m
   ·rw[if_pos q,if_pos (by exact bH 0x1109210820819801 q)];simp only[aY];split
    ·exact absurd rfl (hr.2 _)
    ·rfl
   ·rw[if_neg q,if_neg (by exact bH 0x1109210828819881 q)];rfl
 ·obtain⟨m',e⟩:=g.2 f l M hd q;exact⟨l,m',by rw[e];congr 3;exact aM (n9 0x11082610842868230) (n9 0x18682108261084230),eI _⟩
theorem GE.of {h ts t} (g:GP h ts t):GE h 0 ts t:=by
 refine⟨g.1,λm rest hr=>?_,λf M hd q=>?_⟩
 ·rw[g.2.1 m rest hr];split<;>rfl
 ·obtain⟨l',m',e,hl⟩:=g.2.2 f f M hd q;exact⟨l',m',e,λö=>hl,λz=>absurd z (by decide)⟩
theorem GL.of {h j ts t} (g:GE h j ts t):GL (h+1) ts t:=by
 refine⟨cy 0x110822008181001 g.1,λm rest hr=>?_,λf M hd q=>?_⟩
 ·induction m with
  |zero=>simp[mB,mz,my]
  |succ m=>
   simp only[mB,mz,my];have e:=g.2.1 m rest hr.1.1;rw[pJ hr.1.2]at e
   induction hx:pp m false (ts++rest)with
   |none=>
    rw[hx]at e;simp only[EE]at e⊢;by_cases q:h<=m
    ·rw[if_pos q]at e;contradiction
    ·rw[if_neg (by exact bH 0x1109210828819881 q)]
   |some r=>
    rw[hx]at e;simp only[aY]at e⊢;rw[e];by_cases q:h<=m
    ·rw[if_pos q,if_pos (by exact bH 0x1109210820819801 q)];simp only[aY];split
     ·exact absurd rfl (hr.2 _)
     ·rfl
    ·rw[if_neg q,if_neg (by exact bH 0x1109210828819881 q)];rfl
 ·obtain⟨l',m',e,_⟩:=g.2.2 f M hd q;exact⟨f,l',m',by rw[e];congr 3;exact aM (n9 0x11082620842861084230) (n9 0x18610842108262084230)⟩
theorem GP.bar {h1 h2 a b l r} (g1:GC h1 a l) (g2:GP h2 b r):GP (max h1 h2+1) (a++.bar::b) (.pair false l r):=by
 refine⟨cy 0x110821000,λm rest hr=>?_,λf lv M hd q=>?_⟩
 ·induction m with
  |zero=>simp[mB,mz,my]
  |succ m=>
   simp only[mB,mz,my];rw[aq,bC,g1.1 m _ (by simp[om])];by_cases q:h1<=m
   ·rw[if_pos q];simp only[aY];rw[g2.2.1 m rest hr];by_cases z:h2<=m
    ·rw[if_pos z,if_pos (by exact(aN (h1) (h2)).elim (λw0=>b7 0x1109210a20818a2819802 z (cW w0)) (λw0=>b7 0x1109210a20818a2819802 q (fe w0)))];rfl
    ·rw[if_neg z,if_neg (by exact b7 0x1109210a2881a80819882 z (bQ _ _))];rfl
   ·rw[if_neg q,if_neg (by exact b7 0x1109210a2881a80819882 q (cG _ _))];rfl
 ·obtain⟨m',e⟩:=g1.2 f lv M hd q;rw[jE,e];simp only[aY,gS,gU,iY,ce];obtain⟨l',m'',e2,hl⟩:=g2.2.2 f (lv+1) (max (max M (lv+h1)) (lv+1+0)) hd (iF 0x1910823819001082231 (aD _ _));refine⟨l',m'',?_,iF 0x1983819108231 hl⟩;rw[e2];simp only[Option.some.injEq,DS.mk.injEq,true_and,and_true];exact aM (bh.mpr ⟨bh.mpr ⟨bh.mpr ⟨iF 0x1983819831 (aB _ _),yr 0x199682381890819108261084232 (aD _ _) (cG _ _)⟩,yr 0x190010822381980819109261084238181003 g2.1 (aD _ _) (bQ _ _)⟩,yr 0x199610108242381890819108261084232 (aD _ _) (bQ _ _)⟩) (bh.mpr ⟨JI 0x19b381ab3818a3819833 (aB _ _) (aB _ _) (aB _ _),(aN (h1) (h2)).elim (λw3=>yr 0x191082610842381996101082423819822 (cW w3) (aD _ _)) (λw3=>f42 0x191082610b42381a96b23818a381983819824 (fe w3) (aB _ _) (aB _ _) (aD _ _))⟩)
theorem GE.amp {h j a t} (g:GE h j a t):GE (max h (j+1)) (j+1) (a++[.amp]) (.back t):=by
 have g1:=g.1;refine⟨bH 0x19100819108201 (bQ _ _),λm rest hr=>?_,λf M hd q=>?_⟩
 ·have e:=g.2.1 m (.amp::rest) ⟨by simp[om],λr z=>by cases z⟩;rw[aq];show((pp m false (a++.amp::rest)).bind _)=_;rw[e];by_cases z:h<=m
  ·rw[if_pos z];by_cases y:j+1<=m
   ·rw[if_pos (by exact Nat.max_le.mpr ⟨bH 0x1980819801 z,bH 0x1910820819108201 y⟩)];obtain⟨k,hk⟩:∃k,m-j=k+1:=⟨m-j-1,(ac (b7 0x1a1007f98a22819108202 y (ac (n:=m) (m:=j) (bH 0x1980819108201 y)))).symm⟩;rw[hk,show m-(j+1)=k by exact am (jx 0x19a07fcb82281c10b2a22811092823 hk (ac (n:=m) (m:=j+1) (bH 0x1910820819108201 y)) (ac (n:=m) (m:=j) (bH 0x1980819108201 y))) (jx 0x1a9081cb8227fc10b2a227f1092823 hk (ac (n:=m) (m:=j+1) (bH 0x1910820819108201 y)) (ac (n:=m) (m:=j) (bH 0x1980819108201 y)))];rfl
   ·rw[if_neg (by exact b7 0x19a881a10820819108282 y (bQ _ _)),show m-j=0 by exact am ((aN (m) (j)).elim (λw0=>cy 0x100808100821 (br w0)) (λw0=>b7 0x100a08198a22819108282 y (ac w0))) (cy 0x180000)];rfl
  ·rw[if_neg z,if_neg (by exact b7 0x19a881a80819882 z (cG _ _))]
 ·obtain⟨l',m',e,e0,e1⟩:=g.2.2 f M hd q;rw[jE,e];simp only[aY,gS,gU,iY,ce];have key:(1+if l'<f then m' else 0)=(j:Int)+1:=by
   by_cases z:j=0
   ·rw[if_neg (by have:=e0 z;exact iF 0x189c819831 this)];exact aM (cy 0x1108620010230) (cy 0x1001021086238100821 z)
   ·obtain⟨y1,y2⟩:=e1 (by omega);rw[if_pos (by exact iF 0x1984811094851 y1),y2];exact aM (cy 0x1108628610230) (cy 0x1861021086230)
  rw[key];refine⟨f-1,(j:Int)+1,?_,λz=>absurd z (λe_=>cy 0x78100108221 z),λö=>⟨rfl,aM (cy 0x1108261086230) (cy 0x1108621082630)⟩⟩;simp only[Option.some.injEq,DS.mk.injEq,true_and,and_true];exact aM (bh.mpr ⟨bh.mpr ⟨iF 0x1983819831 (aB _ _),yr 0x199610842381890819861084232 (aD _ _) (cG _ _)⟩,yr 0x191096210842381810920819861084232 (aD _ _) (bQ _ _)⟩) (bh.mpr ⟨wJ 0x19a3818a3819832 (aB _ _) (aB _ _),(aN (h) (j+1)).elim (λw3=>yr 0x198610842381910962108423811092822 (cW w3) (aD _ _)) (λw3=>f32 0x198610a4238189610a42381983819823 (fe w3) (aB _ _) (aD _ _))⟩)
theorem GL.semi {h j h2 a b l r} (g1:GE h j a l) (g2:GL h2 b r):GL (max h h2+1) (a++.semi::b) (.pair true l r):=by
 have h1:=g1.1;have h2p:=g2.1;refine⟨bH 0x21092200819808182002 h2p (bQ _ _),λm rest hr=>?_,λf M hd q=>?_⟩
 ·induction m with
  |zero=>simp[mB,mz,my]
  |succ m=>
   simp only[mB,mz,my];have e:=g1.2.1 m (.semi::(b++rest)) ⟨by simp[om],λr z=>by cases z⟩;rw[pJ (λr z=>by cases z)]at e;rw[aq,bC]
   induction hx:pp m false (a++.semi::(b++rest))with
   |none=>
    replace e:=(hx)▸e;simp only[EE]at e⊢;by_cases q:h<=m
    ·rw[if_pos q]at e;contradiction
    ·rw[if_neg (by exact b7 0x1109210a2881a80819882 q (cG _ _))]
   |some r0=>
    replace e:=(hx)▸e;simp only[aY]at e⊢;refine e.symm▸?_;by_cases q:h<=m
    ·refine(if_pos q).symm▸?_;simp only[aY];refine(g2.2.1 m rest hr).symm▸?_;by_cases z:h2<=m
     ·rw[if_pos z,if_pos (by exact(aN (h) (h2)).elim (λw0=>b7 0x1109210a20818a2819802 z (cW w0)) (λw0=>b7 0x1109210a20818a2819802 q (fe w0)))];rfl
     ·rw[if_neg z,if_neg (by exact b7 0x1109210a2881a80819882 z (bQ _ _))];rfl
    ·rw[if_neg q,if_neg (by exact b7 0x1109210a2881a80819882 q (cG _ _))];rfl
 ·obtain⟨l',m',e,_⟩:=g1.2.2 f M hd q;rw[jE,e];simp only[aY,gS,gU,iY,ce];obtain⟨f',l'',m'',e2⟩:=g2.2.2 (f+1) (max (max M (f-1+h)) (f+1+0)) hd (iF 0x1910823819001082231 (aD _ _));refine⟨f',l'',m'',?_⟩;refine e2.symm▸?_;simp only[Option.some.injEq,DS.mk.injEq,true_and,and_true];exact aM (bh.mpr ⟨bh.mpr ⟨bh.mpr ⟨iF 0x1983819831 (aB _ _),yr 0x199610842381890819108262084232 (aD _ _) (cG _ _)⟩,yr 0x190010822381980819109262084238182003 h2p (aD _ _) (bQ _ _)⟩,yr 0x199620108242381890819108262084232 (aD _ _) (bQ _ _)⟩) (bh.mpr ⟨JI 0x19b381ab3818a3819833 (aB _ _) (aB _ _) (aB _ _),(aN (h) (h2)).elim (λw3=>yr 0x191082620842381996201082423819822 (cW w3) (aD _ _)) (λw3=>f42 0x191082620b42381a9610b423818a381983819824 (fe w3) (aB _ _) (aB _ _) (aD _ _))⟩)
theorem GC.block {h a t} (rs:List (Fin 3×Fin 9)) (g:GL h a t):GC (max h rs.length) (.lp::(a++.rp::jA rs)) (fv rs t):=by
 have h1:=g.1;refine⟨λm rest hr=>?_,λf l M hd q=>?_⟩
 ·have e:jo (pp m true) m (.lp::(a++.rp::jA rs)++rest)=(pp m true (a++.rp::(jA rs++rest))).bind λr=>match r.2 with
    |.rp::ts'=>jV m ts' r.1
    |_=>none:=by
   simp only[bC,aq,jo]
   try rfl
  rw[e,g.2.1 m _ ⟨⟨⟨by simp[om],λr z=>by cases z⟩,λr z=>by cases z⟩,λr z=>by cases z⟩];by_cases q:h<=m
  ·rw[if_pos q];simp only[aY];rw[v2 rest hr];split
   ·split
    ·rfl
    ·exact aw ((aN (h) (rs.length)).elim (λw0=>b7 0x7818a2819a8819803 ‹_› ‹_› (cW w0)) (λw0=>b7 0x7818a2819a8819803 q ‹_› (fe w0)))
   ·split
    ·exact aw (b7 0x781a80819a0819883 ‹_› ‹_› (bQ _ _))
    ·rfl
  ·rw[if_neg q,if_neg (by exact b7 0x19a881a80819882 q (cG _ _))];rfl
 ·simp only[gS,gU,iY,ce,aY];obtain⟨f',l',m',e⟩:=g.2.2 (l+2) (max M (l+2+0)) ((f,l)::hd) (iF 0x1920823819002082231 (aD _ _));rw[jE,e];simp only[gS,gU,iY,ce,aY];rw[tX rs _ _ _ _ _ (by exact iF 0x1900823819008231 (aD _ _))];refine⟨0+rs.length,?_⟩;simp only[Option.some.injEq,DS.mk.injEq,true_and,and_true];exact aM (bh.mpr ⟨bh.mpr ⟨bh.mpr ⟨bh.mpr ⟨iF 0x1983819831 (aB _ _),yr 0x190020822381980819968238182003 h1 (aD _ _) (cG _ _)⟩,yr 0x199620208242381890819868232 (aD _ _) (cG _ _)⟩,HT 0x1900823819868231 (aD _ _)⟩,yr 0x199600282381890819868232 (aD _ _) (bQ _ _)⟩) (bh.mpr ⟨f50 0x19c381bc381ab3818a3819834 (aB _ _) (aB _ _) (aB _ _) (aB _ _),(aN (h) (rs.length)).elim (λw3=>yr 0x198682381996002823819822 (cW w3) (aD _ _)) (λw3=>f42 0x1986b2381a962020b2423818a381983819824 (fe w3) (aB _ _) (aB _ _) (aD _ _))⟩)
noncomputable def G (k:Nat) (ts:List Tok) (t:T):Prop:=match k with
 |0=>∃h,GL h ts t
 |1=>∃h j,GE h j ts t
 |2=>∃h,GP h ts t
 |_=>∃h,GC h ts t
theorem D.good {k ts t} (d:D k ts t):G k ts t:=by
 induction d with
 |prog p hw=>exact⟨_,.prog p hw⟩
 |block rs _ ih=>obtain⟨h,g⟩:=ih;exact⟨_,.block rs g⟩
 |@up k ts t hk _ ih=>
  match k,hk,ih with
  |0,_,⟨h,j,g⟩=>exact⟨_,.of g⟩
  |1,_,⟨h,g⟩=>exact⟨_,_,.of g⟩
  |2,_,⟨h,g⟩=>exact⟨_,.of g⟩
 |bar _ _ ih1 ih2=>obtain⟨h1,g1⟩:=ih1;obtain⟨h2,g2⟩:=ih2;exact⟨_,.bar g1 g2⟩
 |amp _ ih=>obtain⟨h,j,g⟩:=ih;exact⟨_,_,.amp g⟩
 |semi _ _ ih1 ih2=>obtain⟨h1,j,g1⟩:=ih1;obtain⟨h2,g2⟩:=ih2;exact⟨_,.semi g1 g2⟩
theorem D.read {ts t} (d:D 0 ts t):∃h:Int,wM ts=some h/\ik ts=if h<31 then some t else none:=by
 refine Mine.Internal.cps λζ κ=>?_;obtain⟨h,h2,g,e⟩:=d.good;obtain⟨f',l',m',e⟩:=e 2 2 [] (eI _);refine κ ?_;refine⟨h,?_,?_⟩
 ·unfold wM;rw[e];simp only[dF,Option.some.injEq];exact aM (bh.mpr ⟨cy 0x1862038182001 h2,cy 0x1868620204230⟩) (n9 0x188638188620204231 (aD _ _))
 ·unfold ik;have:=g 30 [] ⟨⟨⟨trivial,λr z=>by contradiction⟩,λr z=>by contradiction⟩,λr z=>by contradiction⟩;rw[bz]at this;rw[this];by_cases q:h<=30
  ·rw[if_pos q,if_pos (by exact cy 0x11f21864811e21801 q)]
  ·rw[if_neg q,if_neg (by exact cy 0x11f2186c811e21881 q)]
open PySem
set_option genCtorIdx true in
inductive AT where
 |tok (t:Tok)
 |lp (i:Nat)
 |rp (i:Nat)
noncomputable def nH (G:Nat->Bool):AT->Option Tok
 |.tok t=>some t
 |.lp i=>if G i then none else some .lp
 |.rp i=>if G i then none else some .rp
noncomputable def strip (G:Nat->Bool) (ms:List AT):List Tok:=ms.filterMap (nH G)
theorem dk (G:Nat->Bool) (a b:List AT):strip G (a++b)=strip G a++strip G b:=List.filterMap_append ..
theorem qZ (G:Nat->Bool) (ts:List Tok):strip G (ts.map .tok)=ts:=by
 induction ts with
 |nil=>rfl
 |cons t ts ih=>exact congrArg (t:: ·) ih
noncomputable def jR (i:Nat):Nat->List AT->List AT
 |0,ms=>ms
 |q+1,ms=>.lp (i+q)::(jR i q ms++[.rp (i+q)])
theorem zk:jR i (q+1) ms=.lp (i+q)::(jR i q ms++[.rp (i+q)]):=rfl
inductive WW (B:Nat->List AT->Nat->List (Nat×Bool)->Prop) (o n place:Nat) (ms:List AT) (last:Nat) (ps:List (Nat×Bool)):Prop
 |mk (ms0:List AT) (l0:Nat) (ps0:List (Nat×Bool)) (q:Nat):B n ms0 l0 ps0->(o<place->1<=q)->ms=jR (n+ps0.length) q ms0->last=(if q=0 then l0 else ms.length)->ps=ps0++c3 q (n+ps0.length,decide (o<place))->WW B o n place ms last ps
inductive WBr (W:List AT->Nat->List (Nat×Bool)->Prop) (k:Fin 3) (p:Fin 9) (ms:List AT) (last:Nat) (ps:List (Nat×Bool)):Prop
 |mk (ms1:List AT) (l1 pos:Nat):W ms1 l1 ps->l1<=pos->pos<=ms1.length->ms=ms1.take pos++[.tok (.rd k),.tok (.wd p)]++ms1.drop pos->last=pos+2->WBr W k p ms last ps
inductive WBb (W:List AT->Nat->List (Nat×Bool)->Prop) (ms:List AT) (last:Nat) (ps:List (Nat×Bool)):Prop
 |mk (ms1:List AT) (l1:Nat):W ms1 l1 ps->ms=ms1++[.tok .amp]->last=0->WBb W ms last ps
inductive WBp (W:List AT->Nat->List (Nat×Bool)->Prop) (V:Nat->List AT->Nat->List (Nat×Bool)->Prop) (s:Bool) (ms:List AT) (last:Nat) (ps:List (Nat×Bool)):Prop
 |mk (ms1:List AT) (l1:Nat) (ps1:List (Nat×Bool)) (ms2:List AT) (l2:Nat) (ps2:List (Nat×Bool)):W ms1 l1 ps1->V ps1.length ms2 l2 ps2->ms=ms1++.tok (qe s)::ms2->last=0->ps=ps1++ps2->WBp W V s ms last ps
noncomputable def WB:T->Nat->List AT->Nat->List (Nat×Bool)->Prop
 |.run ws,_,ms,last,ps=>ms=(ws.map Tok.wd).map .tok/\last=0/\ps=[]
 |.red c p k,n,ms,last,ps=>WBr (WW (WB c) (own c) n 3) k p ms last ps
 |.back c,n,ms,last,ps=>WBb (WW (WB c) (own c) n 1) ms last ps
 |.pair s l r,n,ms,last,ps=>WBp (WW (WB l) (own l) n (if s then 1 else 3)) (λq=>WW (WB r) (own r) (n+q) (if s then 0 else 2)) s ms last ps
noncomputable def xg (G:Nat->Bool) (n:Nat) (ps:List (Nat×Bool)):Prop:=∀(i node:Nat),ps[i]?=some (node,true)->∃(j:Nat) (b:Bool),ps[j]?=some (node,b)/\G (n+j)=false
noncomputable def Rng (n:Nat) (ps:List (Nat×Bool)):Prop:=∀x∈ps,n<=x.1/\x.1<n+ps.length
theorem WW.rng {B:Nat->List AT->Nat->List (Nat×Bool)->Prop} {o n place ms last ps} (hB:∀n ms l ps,B n ms l ps->Rng n ps) (h:WW B o n place ms last ps):Rng n ps:=by
 obtain⟨ms0,l0,ps0,q,hb,_,_,_,rfl⟩:=h;intro x hx;refine(af).symm▸(nq).symm▸?_;rcases cD.mp hx with z|z
 ·have:=hB _ _ _ _ hb x z;exact⟨bH 0x1980819801 this.1,d3 0x1ba2928181a92811 this.2⟩
 ·obtain⟨hq,rfl⟩:=km.mp z;simp only
  omega
theorem WB.rng:∀(t:T) {n ms last ps},WB t n ms last ps->Rng n ps
 |.run ws,n,ms,last,ps,h=>by
  obtain⟨_,_,rfl⟩:=h;intro x hx;contradiction
 |.red c p k,n,ms,last,ps,h=>by
  obtain⟨_,_,_,h,_⟩:=h;exact h.rng λö ö ö ö=>WB.rng c
 |.back c,n,ms,last,ps,h=>by
  obtain⟨_,_,h,_⟩:=h;exact h.rng λö ö ö ö=>WB.rng c
 |.pair s l r,n,ms,last,ps,h=>by
  obtain⟨_,_,ps1,_,_,ps2,h1,h2,_,_,rfl⟩:=h;have r1:=h1.rng λö ö ö ö=>WB.rng l;have r2:=h2.rng λö ö ö ö=>WB.rng r;intro x hx;refine(af).symm▸?_;rcases cD.mp hx with z|z
  ·have:=r1 x z;exact⟨bH 0x1980819801 this.1,d3 0x1ba2928181a92811 this.2⟩
  ·have:=r2 x z;exact⟨b7 0x1a8081a98201 this.1,d3 0x1ba2928181ba922811 this.2⟩
theorem qG {G:Nat->Bool} {n:Nat} {a b:List (Nat×Bool)} (ra:Rng n a) (rb:∀x∈b,n+a.length<=x.1):xg G n (a++b)↔xg G n a/\xg G (n+a.length) b:=by
 constructor
 ·intro h;refine⟨λi node hi=>?_,λi node hi=>?_⟩
  ·have hl:=(ao.mp hi).1;obtain⟨j,c,hj,hg⟩:=h i node (by rw[aR hl];exact hi);by_cases q:j<a.length
   ·exact⟨j,c,by rw[<-hj,aR q],hg⟩
   ·rw[cI (by exact bH 0x1890819891 q)]at hj;have h1:=rb _ (ci hj);have h2:=ra _ (ci hi);simp only at h1 h2;exact aw (b7 0x781982a181a98202 h1 h2.2)
  ·obtain⟨j,c,hj,hg⟩:=h (a.length+i) node (by rw[cI (by exact bH 0x1982800)];rw[c0];exact hi);by_cases q:j<a.length
   ·rw[aR q]at hj;have h1:=ra _ (ci hj);have h2:=rb _ (ci hi);simp only at h1 h2;exact aw (b7 0x7818a92081a92812 h1.2 h2)
   ·rw[cI (by exact bH 0x1890819891 q)]at hj;exact⟨j-a.length,c,hj,by rw[show n+a.length+(j-a.length)=n+j by exact am (d3 0x1ab289b22081a98221 (ac (n:=j) (m:=a.length) (bH 0x1890819891 q))) (d3 0x189b22ab207fa98221 (ac (n:=j) (m:=a.length) (bH 0x1890819891 q)))];exact hg⟩
 ·rintro⟨h1,h2⟩ i node hi;by_cases q:i<a.length
  ·rw[aR q]at hi;obtain⟨j,c,hj,hg⟩:=h1 i node hi;exact⟨j,c,by rw[aR ((ao.mp hj).1)];exact hj,hg⟩
  ·rw[cI (by exact bH 0x1890819891 q)]at hi;obtain⟨j,c,hj,hg⟩:=h2 _ node hi;exact⟨a.length+j,c,by rw[cI (by exact bH 0x1982800),c0];exact hj,by rw[<-lS];exact hg⟩
noncomputable def left (G:Nat->Bool) (i:Nat):Nat->Nat
 |0=>0
 |q+1=>left G i q+if G (i+q)then 0 else 1
theorem x8 {G:Nat->Bool}:left G i 0=0:=rfl
theorem Dp {G:Nat->Bool}:left G i (q+1)=left G i q+if G (i+q)then 0 else 1:=rfl
theorem rM {G:Nat->Bool}:∀{q:Nat},1<=left G i q↔∃j,j<q/\G (i+j)=false
 |0=>by simp[x8]
 |q+1=>by
  have ih:=rM (G:=G) (i:=i) (q:=q);simp only[x8,Dp];constructor
  ·intro h
   induction z:G (i+q)with
   |true=>
    rw[z]at h;obtain⟨j,a,b⟩:=ih.mp h;exact⟨j,bH 0x1109281819811 a,b⟩
   |false=>exact⟨q,cy 0x11082810,z⟩
  ·rintro⟨j,a,b⟩;by_cases y:j=q
   ·subst y;rw[b];simp
   ·have:=ih.mpr ⟨j,by omega,b⟩;exact bH 0x19821008181001 this
theorem zI {G:Nat->Bool}:xg G i (c3 q (m,b))↔(b=true->1<=q->1<=left G i q):=by
 constructor
 ·intro h hb hq;subst hb;obtain⟨j,c,hj,hg⟩:=h 0 m (by rw[l8,if_pos (by exact cy 0x180018181001 hq)]);have hl:=(ao.mp hj).1;replace hl:=(nq)▸hl;exact rM.mpr ⟨j,hl,hg⟩
 ·intro h x node hx;have hl:=(ao.mp hx).1;replace hl:=(nq)▸hl;replace hx:=(if_pos hl)▸(l8)▸hx;cases hx
  obtain⟨j,a,c⟩:=rM.mp (h rfl (bH 0x19100819811 hl));exact⟨j,_,by rw[l8,if_pos a],c⟩
noncomputable def around:Nat->List Tok->List Tok
 |0,ts=>ts
 |a+1,ts=>.lp::(around a ts++[.rp])
theorem En:around (a+1) ts=.lp::(around a ts++[.rp]):=rfl
theorem lh (G:Nat->Bool) (i:Nat):∀(q:Nat) (ms:List AT),strip G (jR i q ms)=around (left G i q) (strip G ms)
 |0,_=>rfl
 |q+1,ms=>by
  have e:strip G (jR i (q+1) ms)=strip G [.lp (i+q)]++(strip G (jR i q ms)++strip G [.rp (i+q)]):=by
   rw[<-dk,<-dk];rfl
  rw[e,lh G i q ms];simp only[x8,Dp]
  induction z:G (i+q)with
  |true=>simp[strip,nH,z]
  |false=>simp[strip,nH,z,En]
theorem D.ups {ts t}:∀{k i:Nat},i<=k->k<=3->D k ts t->D i ts t
 |0,i,h,_,d=>by
  obtain rfl:i=0:=am (cy 0x100808100801 h) (cy 0x180000);exact d
 |k+1,i,h,hk,d=>by
  by_cases q:i=k+1
  ·exact q.symm▸d
  ·exact D.ups (k:=k) (by omega) (cy 0x130808130108201 hk) (.up (cy 0x120808130108201 hk) d)
theorem D.brk {ts t} (d:D 0 ts t):D 3 (.lp::(ts++[.rp])) t:=by
 have:=D.block [] d;exact this
theorem D.around {ts t} (d:D 0 ts t):∀a,1<=a->D 3 (around a ts) t
 |0,h=>absurd h (by decide)
 |1,_=>d.brk
 |a+2,_=>((D.around d (a+1) (cy 0x110821000)).ups (aL _) (au _)).brk
theorem D.app {ts c} (k:Fin 3) (p:Fin 9) (d:D 3 ts c):D 3 (ts++[.rd k,.wd p]) (.red c p k):=by
 cases d with
 |prog h hw=>
  have:=D.prog (.red (k,p) h) hw;rw[dT]at this;exact this
 |block rs d=>
  have:=D.block (rs++[(k,p)]) d;rw[dT,jW]at this;simpa using this
 |up h _=>exact absurd h (by decide)
inductive qo (ms:List AT) (last:Nat) (t:T):Prop
 |mk (pre:List Tok) (ws1:List (Fin 9)) (rs:List (Fin 3×Fin 9)) (ws2:List (Fin 9)):lI pre ws1 rs->ms=(pre++ws2.map Tok.wd).map .tok->last=pre.length->t=fv rs (.run (ws1++ws2))->qo ms last t
theorem lI.words {pre ws1 rs} (p:lI pre ws1 rs) (ws2:List (Fin 9)):lI (pre++ws2.map .wd) (ws1++ws2) rs:=by
 revert ws2;refine jU ?_ λws w ih=>?_
 ·simpa using p
 ·rw[ca,<-aq,<-aq];exact .word w ih
noncomputable def bT:T->Prop
 |.run ws=>ws.length<=9
 |.red c _ _|.back c=>bT c
 |.pair _ l r=>bT l/\bT r
theorem vJ (rs:List (Fin 3×Fin 9)):bT (fv rs (.run ws))->ws.length<=9:=by
 refine jU (P:=λrs=>bT (fv rs (.run ws))->ws.length<=9) id (λrs r ih h=>?_) rs;rw[dT]at h;exact ih h
theorem qo.ins {last pos:Nat} (k:Fin 3) (p:Fin 9) (o:qo ms last c) (h1:last<=pos) (h2:pos<=ms.length):qo (ms.take pos++[.tok (.rd k),.tok (.wd p)]++ms.drop pos) (pos+2) (.red c p k):=by
 obtain⟨pre,ws1,rs,ws2,hp,rfl,rfl,rfl⟩:=o;obtain⟨i,rfl⟩:=y9 h1;have e:(pre++ws2.map Tok.wd).map AT.tok=(pre++(ws2.take i).map Tok.wd).map AT.tok++((ws2.drop i).map Tok.wd).map .tok:=by
  rw[<-ca,aq,<-ca,dR]
 have l:((pre++(ws2.take i).map Tok.wd).map AT.tok).length=pre.length+i:=by
  rw[ar,af,ar,List.length_take_of_le];rw[ar,af,ar]at h2;exact Nat.le_of_add_le_add_left h2
 rw[e,Ip l,List.drop_left' l];refine⟨pre++(ws2.take i).map .wd++[.rd k,.wd p],ws1++ws2.take i,rs++[(k,p)],ws2.drop i,.red (k,p) (hp.words _),?_,?_,?_⟩
 ·rw[ca (l₂:=(ws2.drop i).map Tok.wd),ca (l₂:=[_,_])];rfl
 ·exact(congrArg (· +2) (l.symm.trans (ar _))).trans (af (bs:=[_,_])).symm
 ·rw[dT,aq,dR]
theorem qo.D {G:Nat->Bool} (o:qo ms last t) (hw:bT t):D 3 (strip G ms) t:=by
 obtain⟨pre,ws1,rs,ws2,hp,rfl,rfl,rfl⟩:=o;rw[qZ];exact .prog (hp.words ws2) (vJ rs hw)
structure Ps (G:Nat->Bool) (place:Nat) (t:T) (ms:List AT) (last:Nat):Prop where
 d:D place (strip G ms) t
 o:place=3->last=ms.length\/qo ms last t
theorem WW.pos {G:Nat->Bool} {t:T} (hB:∀{n ms last ps},WB t n ms last ps->xg G n ps->Ps G (own t) t ms last) {n place ms last ps} (hp:place<=3) (h:WW (WB t) (own t) n place ms last ps) (ok:xg G n ps):
  Ps G place t ms last:=by
 obtain⟨ms0,l0,ps0,q,hb,hq,rfl,rfl,rfl⟩:=h;obtain⟨ok1,ok2⟩:=(qG (WB.rng t hb) λx hx=>by rw[(km.mp hx).2];exact au _).mp ok;rw[zI]at ok2;obtain⟨d,hl⟩:=hB hb ok1;have ho:=rC t;refine⟨?_,λh3=>?_⟩
 ·rw[lh];by_cases z:1<=left G (n+ps0.length) q
  ·exact(D.around (d.ups (aL _) ho) _ z).ups hp (au _)
  ·rw[Nat.lt_one_iff.mp (fK z)];exact d.ups (du λy=>z (ok2 (decide_eq_true y) (hq y))) ho
 ·by_cases z:q=0
  ·subst z;exact hl (am ho (h3▸du λy=>nomatch hq y))
  ·exact .inl (if_neg z)
theorem WB.pos {G:Nat->Bool} (t:T):∀{n ms last ps},bT t->WB t n ms last ps->xg G n ps->Ps G (own t) t ms last:=by
 induction t with
 |run ws=>
  intro n ms last ps hw h ok;obtain⟨rfl,rfl,_⟩:=h;have o:qo ((ws.map Tok.wd).map .tok) 0 (.run ws):=⟨[],[],[],ws,.nil,rfl,rfl,rfl⟩;exact⟨qo.D o hw,λö=>.inr o⟩
 |red c p k ih=>
  intro n ms last ps hw h ok;obtain⟨ms1,l1,pos,h1,hlo,hhi,rfl,rfl⟩:=h;obtain⟨d,hl⟩:=WW.pos (ih hw) (au 3) h1 ok;rcases hl rfl with rfl|o
  ·cases am hhi hlo
   rw[eG,fJ,bz];exact⟨dk ..▸d.app k p,λö=>.inl (af (bs:=[_,_])).symm⟩
  ·exact⟨qo.D (qo.ins k p o hlo hhi) hw,λö=>.inr (qo.ins k p o hlo hhi)⟩
 |back c ih=>
  intro n ms last ps hw h ok;obtain⟨ms1,l1,h1,rfl,rfl⟩:=h;exact⟨dk ..▸.amp (WW.pos (ih hw) (by decide) h1 ok).d,nofun⟩
 |pair s l r ih1 ih2=>
  intro n ms last ps hw h ok;obtain⟨ms1,l1,ps1,ms2,l2,ps2,h1,h2,rfl,rfl,rfl⟩:=h;have r2:=h2.rng λö ö ö ö=>WB.rng r;obtain⟨ok1,ok2⟩:=(qG (h1.rng λö ö ö ö=>WB.rng l) λx hx=>(r2 x hx).1).mp ok;have d1:=(WW.pos (ih1 hw.1) (by induction s<;>decide) h1 ok1).d;have d2:=(WW.pos (ih2 hw.2) (by induction s<;>decide) h2 ok2).d
  induction s with
  |true=>exact⟨dk ..▸.semi d1 d2,nofun⟩
  |false=>exact⟨dk ..▸.bar d1 d2,nofun⟩
open PySem
noncomputable def ht:List Tok->Int
 |[]=>0
 |.lp::ts=>1+ht ts
 |.rp::ts=>ht ts-1
 |_::ts=>ht ts
theorem yh:ht []=0:=rfl
theorem yi:ht (.lp::ts)=1+ht ts:=rfl
theorem yg:ht (.rp::ts)=ht ts-1:=rfl
theorem yj:ht (.rd k::ts)=ht ts:=rfl
theorem yf:ht (.wd k::ts)=ht ts:=rfl
theorem z9 (h:np y=true) (ts:List Tok):ht (y::ts)=ht ts:=by
 induction y<;>first|rfl|cases h
theorem jC:∀a b:List Tok,ht (a++b)=ht a+ht b
 |[],b=>by simp[yh,yi,yg,yj,yf]
 |y::a,b=>by
  induction y with
  |lp=>show 1+ht (a++b)=1+ht a+ht b;rw[jC a b];exact aM (iF 0x198102298210230) (iF 0x198210298102230)
  |rp=>show ht (a++b)-1=ht a-1+ht b;rw[jC a b];exact aM (iF 0x191084210982430) (iF 0x110982491084230)
  |_=>exact jC a b
structure qp (ts:List Tok):Prop where
 zero:ht ts=0
 pre:∀a b,ts=a++b->0<=ht a
theorem qp.nil:qp []:=⟨rfl,λa b e=>by
 have:=(fV.mp e.symm).1;rw[this];decide⟩
theorem qp.app {x y:List Tok} (a:qp x) (b:qp y):qp (x++y):=by
 refine⟨by rw[jC,a.zero,b.zero];rfl,λu v e=>?_⟩;rcases eZ.mp e with⟨w,e1,e2⟩|⟨w,e1,e2⟩
 ·rw[e1,jC,a.zero];have:=b.pre w v e2;exact gR 0x180020038180031 this
 ·exact a.pre u w e1
theorem qp.one (h:np y=true):qp [y]:=by
 refine⟨by rw[z9 h];rfl,λu v e=>?_⟩
 induction u with
 |nil=>decide
 |cons z u=>
  injection e with e1 e2;rw[<-e1,z9 h];have:=(fV.mp e2.symm).1;rw[this];decide
theorem qp.brk {x:List Tok} (a:qp x):qp (.lp::(x++[.rp])):=by
 refine⟨by simp only[yh,yi,yg,yj,yf,jC,a.zero];decide,λu v e=>?_⟩
 induction u with
 |nil=>decide
 |cons z u=>
  injection e with e1 e2;subst e1;simp only[yh,yi,yg,yj,yf];rcases eZ.mp e2 with⟨w,e3,e4⟩|⟨w,e3,e4⟩
  ·rw[e3,jC,a.zero]
   induction w with
   |nil=>decide
   |cons q w=>
    injection e4 with e5 e6;have:=(fV.mp e6.symm).1;subst e5;rw[this];decide
  ·have:=a.pre u w e3;exact gR 0x181020038180031 this
theorem vd:∀{ts:List Tok},ts.filter np=ts->qp ts
 |[],_=>.nil
 |y::ts,h=>by
  by_cases q:np y=true
  ·rw[bb q]at h;injection h with _ h;exact(qp.one q).app (vd h)
  ·rw[bB q]at h;have:=congrArg gC h;have:=eR np ts;simp only[aj]at*;exact aw (bH 0x7819807f1092822 ‹_› this)
theorem D.bal {k ts t} (d:D k ts t):qp ts:=by
 induction d with
 |prog p _=>exact vd (uI p)
 |@block ts t rs _ ih=>
  have:=ih.brk.app (vd (zB rs));simpa using this
 |up _ _ ih=>exact ih
 |bar _ _ ih1 ih2=>simpa using(ih1.app (qp.one (y:=.bar) rfl)).app ih2
 |amp _ ih=>exact ih.app (.one rfl)
 |semi _ _ ih1 ih2=>simpa using(ih1.app (qp.one (y:=.semi) rfl)).app ih2
theorem rH (hx:qp x) (ha:qp a) (hy:np y=true):.lp::(x++[.rp])≠a++y::b:=by
 intro e
 induction a with
 |nil=>
  injection e with e1 _;subst e1;contradiction
 |cons z a=>
  injection e with e1 e2;subst e1;have h1:=ha.zero;simp only[yh,yi,yg,yj,yf]at h1;rcases eZ.mp e2 with⟨w,e3,e4⟩|⟨w,e3,e4⟩
  ·induction w with
   |nil=>
    injection e4 with e5 _;subst e5;contradiction
   |cons q w=>
    injection e4 with _ e6
    induction w<;>cases e6
  ·have:=hx.pre a w e3;exact gR 0x78180038100810252 h1 this
noncomputable def iI:T->Prop
 |.run _=>True
 |.red c _ _=>iI c
 |_=>False
inductive Kk (ts:List Tok) (t:T):Prop
 |mk (x:List Tok):ts=.lp::(x++[.rp])->D 0 x t->Kk ts t
noncomputable def Inv (k:Nat) (ts:List Tok):T->Prop
 |.pair s l r=>(k<=(if s then 0 else 2)/\∃a b,ts=a++qe s::b/\D (if s then 1 else 3) a l/\D (if s then 0 else 2) b r)\/Kk ts (.pair s l r)
 |.back c=>(k<=1/\∃a,ts=a++[.amp]/\D 1 a c)\/Kk ts (.back c)
 |.red c p j=>(∃a,ts=a++[.rd j,.wd p]/\D 3 a c)\/Kk ts (.red c p j)\/iI c
 |.run _=>True
theorem vX (rs:List (Fin 3×Fin 9)) (t:T) (h:iI t):iI (fv rs t):=by
 refine jU (P:=λrs=>iI (fv rs t)) h (λrs r ih=>?_) rs;rw[dT];exact ih
theorem D.inv {k ts t} (d:D k ts t):Inv k ts t:=by
 induction d with
 |@prog ts ws rs p hw=>
  cases rs using(λ(P:List (Fin 3×Fin 9)->Prop) h0 h1 l=>jU (P:=P) h0 h1 l)with
  |h0=>trivial
  |h1 rs r _=>rw[dT];exact .inr (.inr (vX rs _ trivial))
 |@block ts t rs d _=>
  rcases nu rs with rfl|⟨rs',r,rfl⟩
  ·have hb:Kk (.lp::(ts++.rp::jA [])) (fv [] t):=⟨ts,rfl,d⟩
   induction t with
   |run _=>trivial
   |red _ _ _=>exact .inr (.inl hb)
   |pair _ _ _=>exact .inr hb
   |back _=>exact .inr hb
  ·rw[nv,dT,jW];exact .inl ⟨.lp::(ts++.rp::jA rs'),by simp,.block rs' d⟩
 |@up k ts t hk d ih=>
  induction t with
  |run _=>trivial
  |red _ _ _=>exact ih
  |pair s l r=>
   rcases ih with⟨h,z⟩|z
   ·exact .inl ⟨bH 0x3980829108208120802 hk h,z⟩
   ·exact .inr z
  |back c=>
   rcases ih with⟨h,z⟩|z
   ·exact .inl ⟨cy 0x210808110108208120802 hk h,z⟩
   ·exact .inr z
 |bar d1 d2 _ _=>exact .inl ⟨au _,_,_,rfl,d1,d2⟩
 |amp d _=>exact .inl ⟨au _,_,rfl,d⟩
 |semi d1 d2 _ _=>exact .inl ⟨au _,_,_,rfl,d1,d2⟩
theorem nY (h:qp x):∀a,qp (around a x)
 |0=>h
 |a+1=>(nY h a).brk
theorem uj (x:List Tok):∀a,(around a x).filter np=x.filter np
 |0=>rfl
 |a+1=>by
  show(.lp::(around a x++[.rp])).filter np=_;rw[bB (by simp[np]),bp,uj x a];simp[np]
structure yY (ts:List Tok) (n:Nat):Prop where
 bal:qp ts
 len:(ts.filter np).length=n
theorem yY.ins {a b:List Tok} {n:Nat} {y:Tok} (hy:np y=true) (h:yY (a++b) n):yY (a++y::b) (n+1):=by
 refine⟨⟨jC .. |>.trans ((congrArg _ (z9 hy b)).trans ((jC ..).symm.trans h.bal.zero)),λu v q=>(eZ.mp q).elim (λ⟨w,e4,e5⟩=>?_) λ⟨w,e4,e5⟩=>h.bal.pre u (w++b) ?_⟩,?_⟩
 ·cases w with
  |nil=>exact h.bal.pre u b (e4▸(bz a).symm▸rfl)
  |cons x w=>
   cases e5
   exact e4.symm▸(jC ..).symm▸(z9 hy w).symm▸jC ..▸h.bal.pre _ v (aq ..).symm
 ·exact e4.symm▸aq ..
 ·rw[<-h.len,bp,bp,bb hy,af,af];rfl
theorem WW.balG {G:Nat->Bool} {B:Nat->List AT->Nat->List (Nat×Bool)->Prop} {o m:Nat} (hB:∀{n ms last ps},B n ms last ps->yY (strip G ms) m) {n place ms last ps} (h:WW B o n place ms last ps):yY (strip G ms) m:=by
 obtain⟨ms0,l0,ps0,q,hb,_,rfl,_,_⟩:=h;rw[lh];exact⟨nY (hB hb).bal _,(uj ..).symm▸(hB hb).len⟩
theorem WB.bal (G:Nat->Bool) (t:T):∀{n ms last ps},WB t n ms last ps->yY (strip G ms) (fA t).length:=by
 induction t with
 |run ws=>
  intro n ms last ps h;rw[h.1,qZ];exact⟨vd (pj ws),congrArg gC (pj ws)⟩
 |red c p k ih=>
  intro n ms last ps h;obtain⟨ms1,l1,pos,h1,_,_,rfl,_⟩:=h;have b:=WW.balG ih h1;rw[<-dR pos ms1,dk]at b;rw[dk,dk,dK,af,aq];exact .ins (y:=.rd k) rfl (.ins (y:=.wd p) rfl b)
 |back c ih=>
  intro n ms last ps h;obtain⟨ms1,l1,h1,rfl,_⟩:=h;have b:=WW.balG ih h1;rw[dk,dA,af,<-b.len];exact⟨b.bal.app (.one rfl),by rw[bp,af];rfl⟩
 |pair s l r ih1 ih2=>
  intro n ms last ps h;obtain⟨ms1,l1,ps1,ms2,l2,ps2,h1,h2,rfl,_,_⟩:=h;have b1:=WW.balG ih1 h1;have b2:=WW.balG ih2 h2;rw[dk,dz,af,aj,<-b1.len,<-b2.len];exact⟨b1.bal.app ((qp.one (nI s)).app b2.bal),by rw[bp,af];exact congrArg (_+gC ·) (bb (nI s))⟩
theorem WW.bal (G:Nat->Bool) {t:T} {n place ms last ps} (h:WW (WB t) (own t) n place ms last ps):yY (strip G ms) (fA t).length:=WW.balG (WB.bal G t) h
theorem uy:∀{a a' b b':List Tok} {y:Tok},np y=true->(a.filter np).length=(a'.filter np).length->a++y::b=a'++y::b'->a=a'/\b=b':=by
 intro a a' b b' y hy hc e;rcases eZ.mp e with⟨w,e1,e2⟩|⟨w,e1,e2⟩
 ·induction w with
  |nil=>injection e2 with _ e2;exact⟨by simpa using e1.symm,e2⟩
  |cons z w=>
   injection e2 with e3 e4;subst e3;rw[e1,bp,af,bb hy,aj]at hc;exact⟨aw (bH 0x77f109282821 hc),aw (bH 0x77f109282821 hc)⟩
 ·induction w with
  |nil=>injection e2 with _ e2;exact⟨by simpa using e1,e2.symm⟩
  |cons z w=>
   injection e2 with e3 e4;subst e3;rw[e1,bp,af,bb hy,aj]at hc;exact⟨aw (bH 0x781810928221 hc),aw (bH 0x781810928221 hc)⟩
theorem WW.none {t:T} (ho:own t=3) {n place ms last ps} (hB:∀{n ms last ps},WB t n ms last ps->∀x∈ps,x.2=false) (hp:place<=3) (h:WW (WB t) (own t) n place ms last ps):∀x∈ps,x.2=false:=by
 obtain⟨ms0,l0,ps0,q,hb,_,_,_,rfl⟩:=h;intro x hx;rcases cD.mp hx with z|z
 ·exact hB hb x z
 ·rw[(km.mp z).2,ho];simp;exact cy 0x130808130801 hp
theorem rg (h:iI t):own t=3:=by
 induction t<;>first|rfl|exact h.elim
theorem WB.none:∀(t:T),iI t->∀{n ms last ps},WB t n ms last ps->∀x∈ps,x.2=false
 |.run ws,_,n,ms,last,ps,h=>by
  obtain⟨_,_,rfl⟩:=h;intro x hx;contradiction
 |.red c p k,hs,n,ms,last,ps,h=>by
  obtain⟨_,_,_,h,_⟩:=h;exact WW.none (t:=c) (rg (t:=c) hs) (λa=>WB.none c hs a) (au 3) h
theorem C4 {G:Nat->Bool} {n:Nat} {ps:List (Nat×Bool)} (h:∀x∈ps,x.2=false):xg G n ps:=λi node hi=>by
 have:=h _ (ci hi);contradiction
theorem WW.shut {t:T} (hs:¬iI t) {n ms last ps} (hB:own t=3->∀{n ms last ps},WB t n ms last ps->last=ms.length) (h:WW (WB t) (own t) n 3 ms last ps):last=ms.length:=by
 obtain⟨ms0,l0,ps0,q,hb,hq,rfl,rfl,rfl⟩:=h;by_cases z:q=0
 ·subst z;have:own t=3:=by
   have:=rC t;have:¬own t<3:=λy=>absurd (hq y) (by decide);exact am (cy 0x130808130801 ‹_›) (cy 0x183008130891 this)
  exact hB this hb
 ·exact(if_neg z).symm▸rfl
theorem WB.shut:∀(t:T),¬iI t->own t=3->∀{n ms last ps},WB t n ms last ps->last=ms.length
 |.run ws,hs,_,_,_,_,_,_=>absurd trivial hs
 |.red c p k,hs,_,n,ms,last,ps,h=>by
  obtain⟨ms1,l1,pos,h1,hlo,hhi,rfl,rfl⟩:=h;have:=WW.shut (t:=c) hs (λho=>λa=>WB.shut c hs ho a) h1;have hpos:pos=ms1.length:=am (bH 0x1980819801 hhi) (b7 0x19a07fa82819802 hlo this);subst hpos;simp
theorem WW.neg {G:Nat->Bool} {t:T} (hs:¬iI t) (hB:∀{k n ms last ps},k<=own t->WB t n ms last ps->D k (strip G ms) t->xg G n ps) {n place ms last ps} (hp:place<=3) (h:WW (WB t) (own t) n place ms last ps) (d:D place (strip G ms) t):xg G n ps:=by
 obtain⟨ms0,l0,ps0,q,hb,hq,rfl,rfl,rfl⟩:=h;have rng:=WB.rng t hb;rw[qG rng λx hx=>by rw[(km.mp hx).2];exact au _];rw[zI];rw[lh]at d;have form:(∃a y b,strip G ms0=a++y::b/\qp a/\np y=true):=by
  cases t with
  |run _=>exact absurd trivial hs
  |red c p k=>
   obtain⟨ms1,l1,pos,h1,hlo,hhi,rfl,rfl⟩:=hb;have:=WW.shut (t:=c) hs (λho=>λa=>WB.shut c hs ho a) h1;have hpos:pos=ms1.length:=am (bH 0x1980819801 hhi) (b7 0x19a07fa82819802 hlo this);subst hpos;rw[eG,fJ,bz,dk];exact⟨_,.rd k,[.wd p],rfl,(h1.bal G).1,rfl⟩
  |pair s l r=>
   obtain⟨ms1,l1,ps1,ms2,l2,ps2,h1,h2,rfl,rfl,rfl⟩:=hb;rw[dk];exact⟨_,qe s,_,rfl,(h1.bal G).1,nI s⟩
  |back c=>
   obtain⟨ms1,l1,h1,rfl,rfl⟩:=hb;rw[dk];exact⟨_,.amp,[],rfl,(h1.bal G).1,rfl⟩
 obtain⟨a,y,b,ef,ba,hy⟩:=form;have peel:∀j,D 0 (around j (strip G ms0)) t->D 0 (strip G ms0) t:=by
  intro j
  induction j with
  |zero=>exact id
  |succ j ih=>
   intro d;have bj:qp (around j (strip G ms0)):=nY (WB.bal G t hb).bal j;refine ih ?_;have inv:=d.inv;have blk:Kk (.lp::(around j (strip G ms0)++[.rp])) t->D 0 (around j (strip G ms0)) t:=by
    rintro⟨x,e,d⟩;injection e with _ e;rw[(sW e rfl).1];exact d
   cases t with
   |run _=>exact absurd trivial hs
   |red c p k=>
    rcases inv with⟨x,e,dx⟩|z|z
    ·have e':Tok.lp::(around j (strip G ms0)++[.rp])=x++Tok.rd k::[Tok.wd p]:=e;exact absurd e' (rH bj dx.bal rfl)
    ·exact blk z
    ·exact absurd z hs
   |pair s l r=>
    rcases inv with⟨_,x,z,e,dx,_⟩|z
    ·exact absurd e (rH bj dx.bal (nI s))
    ·exact blk z
   |back c=>
    rcases inv with⟨_,x,e,dx⟩|z
    ·exact absurd e (rH bj dx.bal rfl)
    ·exact blk z
 have noblk:¬Kk (strip G ms0) t:=by
  rintro⟨x,e,dx⟩;rw[ef]at e;exact rH dx.bal ba hy e.symm
 by_cases z:1<=left G (n+ps0.length) q
 ·exact⟨hB (aL _) hb (peel _ (d.ups (aL _) hp)),λö ö=>z⟩
 ·have h0:left G (n+ps0.length) q=0:=am (cy 0x100808181081 z) (cy 0x180000);rw[h0]at d;have d:D place (strip G ms0) t:=d;have le:place<=own t:=by
   have inv:=d.inv;cases t with
   |run _=>exact absurd trivial hs
   |red _ _ _=>exact hp
   |pair s l r=>
    rcases inv with⟨h,_⟩|z
    ·exact h
    ·exact absurd z noblk
   |back c=>
    rcases inv with⟨h,_⟩|z
    ·exact h
    ·exact absurd z noblk
  refine⟨hB le hb d,λhd ö=>?_⟩;have:=of_decide_eq_true hd;exact b7 0x1a10081891819802 le this
theorem WW.neg' {G:Nat->Bool} {t:T} (hB:¬iI t->∀{k n ms last ps},k<=own t->WB t n ms last ps->D k (strip G ms) t->xg G n ps) {n place ms last ps} (hp:place<=3) (h:WW (WB t) (own t) n place ms last ps) (d:D place (strip G ms) t):xg G n ps:=by
 by_cases hs:iI t
 ·exact C4 (h.none (rg hs) (λa=>WB.none t hs a) hp)
 ·exact WW.neg hs (hB hs) hp h d
theorem WB.neg {G:Nat->Bool}:∀(t:T),¬iI t->∀{k n ms last ps},k<=own t->WB t n ms last ps->D k (strip G ms) t->xg G n ps
 |.run ws,hs,_,_,_,_,_,_,_,_=>absurd trivial hs
 |.red c p j,hs,k,n,ms,last,ps,hk,h,d=>by
  obtain⟨ms1,l1,pos,h1,hlo,hhi,rfl,rfl⟩:=h;have:=WW.shut (t:=c) hs (λho=>λa=>WB.shut c hs ho a) h1;have hpos:pos=ms1.length:=am (bH 0x1980819801 hhi) (b7 0x19a07fa82819802 hlo this);subst hpos;rw[eG,fJ,bz,dk]at d;have e2:strip G [AT.tok (Tok.rd j),AT.tok (Tok.wd p)]=[.rd j,.wd p]:=rfl;rw[e2]at d;rcases d.inv with⟨a,e,da⟩|⟨x,e,dx⟩|z
  ·have e':=(sW e rfl).1;rw[<-e']at da;exact WW.neg' (λhs=>λa b c'=>WB.neg c hs a b c') (au 3) h1 da
  ·exact absurd e.symm (rH dx.bal (h1.bal G).1 (y:=.rd j) rfl)
  ·exact absurd z hs
 |.back c,hs,k,n,ms,last,ps,hk,h,d=>by
  obtain⟨ms1,l1,h1,rfl,rfl⟩:=h;rw[dk]at d;have e2:strip G [AT.tok Tok.amp]=[.amp]:=rfl;rw[e2]at d;rcases d.inv with⟨_,a,e,da⟩|⟨x,e,dx⟩
  ·have e':=(sW e rfl).1;rw[<-e']at da;exact WW.neg' (λhs=>λa b c'=>WB.neg c hs a b c') (by decide) h1 da
  ·exact absurd e.symm (rH dx.bal (h1.bal G).1 (y:=.amp) rfl)
 |.pair s l r,hs,k,n,ms,last,ps,hk,h,d=>by
  obtain⟨ms1,l1,ps1,ms2,l2,ps2,h1,h2,rfl,rfl,rfl⟩:=h;have r1:=h1.rng λö ö ö ö=>WB.rng l;have r2:=h2.rng λö ö ö ö=>WB.rng r;rw[dk]at d;have e2:∀ms:List AT,strip G (AT.tok (qe s)::ms)=qe s::strip G ms:=λms=>rfl;rw[e2]at d;rw[qG r1 λx hx=>(r2 x hx).1];rcases d.inv with⟨_,a,b,e,da,db⟩|⟨x,e,dx⟩
  ·obtain⟨ea,eb⟩:=uy (nI s) (((h1.bal G).2).trans da.perm.length_eq.symm) e;subst ea eb;exact⟨WW.neg' (λhs=>λa b c'=>WB.neg l hs a b c') (by split<;>decide) h1 da,WW.neg' (λhs=>λa b c'=>WB.neg r hs a b c') (by split<;>decide) h2 db⟩
  ·exact absurd e.symm (rH dx.bal (h1.bal G).1 (nI s))
theorem vF {G:Nat->Bool} {t:T} {ms last ps} (h:WW (WB t) (own t) 0 0 ms last ps) (hr:ik (strip G ms)=some t):xg G 0 ps:=
 WW.neg' (λhs=>λa b c=>WB.neg t hs a b c) (by decide) h (jX hr)
theorem vE {G:Nat->Bool} {t:T} {ms last ps} (hw:bT t) (h:WW (WB t) (own t) 0 0 ms last ps) (ok:xg G 0 ps):D 0 (strip G ms) t:=
 (WW.pos (λa b=>WB.pos t hw a b) (by decide) h ok).1
open PySem
noncomputable def pT (k:Fin 3):Int:=[0,1537,2561][k.val]!
noncomputable def t7 (k:Fin 3):Int:=[0,1,1][k.val]!
noncomputable def wS (w:Fin 9):Str:=aa (Ht w)
noncomputable def tS (t:Tok):Str:=aa (KU t)
noncomputable def Hy (s:Bool):Str:=aa (if s then ";" else "|")
noncomputable def pv:T->PV
 |.run ws=>.obj "Run" ["arguments"] [.list (ws.map λw=>.str (wS w))]
 |.red c p k=>.obj "Redirect" ["command","path","mode","descriptor"] [pv c,.str (wS p),.int (pT k),.int (t7 k)]
 |.pair s l r=>.obj "Pair" ["sign","left","right"] [.str (Hy s),pv l,pv r]
 |.back c=>.obj "Back" ["command"] [pv c]
theorem uE:pv (.run ws)=.obj "Run" ["arguments"] [.list (ws.map λw=>.str (wS w))]:=rfl
theorem uF:pv (.red c p k)=.obj "Redirect" ["command","path","mode","descriptor"] [pv c,.str (wS p),.int (pT k),.int (t7 k)]:=rfl
theorem qC:pv (.pair s l r)=.obj "Pair" ["sign","left","right"] [.str (Hy s),pv l,pv r]:=rfl
theorem qD:pv (.back c)=.obj "Back" ["command"] [pv c]:=rfl
noncomputable def bn (t:Tok):List Nat:=(tS t).cps.toList
inductive Lx:List Nat->List Tok->Prop
 |nil:Lx [] []
 |sp {cs ts}:Lx cs ts->Lx (32::cs) ts
 |tok {cs ts} (t:Tok):Lx cs ts->(cs=[]\/∃r,cs=32::r)->Lx (bn t++cs) (t::ts)
theorem Lx.one (t:Tok):Lx (bn t) [t]:=by simpa using Lx.tok t .nil (.inl rfl)
theorem Lx.app {a b:List Nat} {ts us:List Tok} (x:Lx a ts) (y:Lx b us):Lx (a++32::b) (ts++us):=by
 induction x with
 |nil=>exact .sp y
 |sp _ ih=>exact .sp ih
 |@tok cs ts t _ h ih=>
  rw[aq];refine .tok t ih ?_;rcases h with rfl|⟨r,rfl⟩
  ·exact .inr ⟨_,rfl⟩
  ·exact .inr ⟨_,rfl⟩
theorem dG:∀t:Tok,(bn t).length<=4/\bn t≠[]/\(bn t).all (λc=>c !=32&&decide (c<128)&&!cP c)=true:=by
 have h1:∀i:Fin 9,(bn (.wd i)).length<=4/\bn (.wd i)≠[]/\(bn (.wd i)).all (λc=>c !=32&&decide (c<128)&&!cP c)=true:=by decide+kernel
 have h2:∀i:Fin 3,(bn (.rd i)).length<=4/\bn (.rd i)≠[]/\(bn (.rd i)).all (λc=>c !=32&&decide (c<128)&&!cP c)=true:=by decide+kernel
 intro t
 induction t with
 |wd i=>exact h1 i
 |rd i=>exact h2 i
 |_=>decide+kernel
theorem lG (t:Tok):(32:Nat)∉bn t:=λh=>by
 have:=aJ.mp (dG t).2.2 32 h;simp at this
theorem Lx.inv {cs:List Nat} {ts:List Tok} (h:Lx cs ts):cs=[]->ts=[]:=by
 induction h with
 |nil=>exact λö=>rfl
 |sp _ _=>exact λh=>by contradiction
 |tok t _ _ _=>exact λh=>absurd (fV.mp h).1 (dG t).2.1
theorem Lx.split (h:Lx cs ts):(dw 32 cs).filter (λp=>!p.isEmpty)=ts.map bn:=by
 have ne:∀t:Tok,(bn t).isEmpty=false:=λt=>by
  have:=(dG t).2.1
  induction hc:bn t with
  |nil=>exact absurd hc this
  |cons _ _=>rfl
 induction h with
 |nil=>rfl
 |@sp cs ts h ih=>
  simp only[gO,gP,if_true];rw[bB (by simp)];exact ih
 |@tok cs ts t h hc ih=>
  rcases hc with rfl|⟨r,rfl⟩
  ·rw[bz,kh (lG t)];rw[h.inv rfl];simp[ne t]
  ·rw[li (lG t),bb (by simp[ne t])];simp only[gO,gP,if_true]at ih;rw[bB (by simp)]at ih;rw[ih];rfl
theorem Lx.gl:∀(ts:List Tok),Lx (gl 32 (ts.map bn)) ts
 |[]=>.nil
 |[t]=>.one t
 |t::u::ts=>by
  show Lx (bn t++32::Mine.Internal.gl 32 ((u::ts).map bn)) (t::u::ts);exact .tok t (.sp (Lx.gl (u::ts))) (.inr ⟨_,rfl⟩)
theorem Lx.ascii {cs ts} (h:Lx cs ts):cs.all (· <128)=true:=by
 induction h with
 |nil=>rfl
 |sp _ ih=>rw[o6,ih];rfl
 |@tok cs ts t _ _ ih=>
  rw[List.all_append,ih,xu,aJ];intro c hc;have:=aJ.mp (dG t).2.2 c hc;simp only[bO]at this;exact this.1.2
theorem Lx.dropL {cs ts} (h:Lx cs ts):Lx (cs.dropWhile cP) ts:=by
 induction h with
 |nil=>exact .nil
 |sp _ ih=>rw[List.dropWhile_cons_of_pos (by decide)];exact ih
 |@tok cs ts t h hc ih=>
  obtain⟨c,r,e⟩:∃c r,bn t=c::r:=by
   induction hx:bn t with
   |nil=>exact absurd hx (dG t).2.1
   |cons c r=>exact⟨c,r,rfl⟩
  have hb:cP c=false:=by
   have:=aJ.mp (dG t).2.2 c (by rw[e];exact .head _);simp only[bO,bl]at this;exact this.2
  rw[e,bC,vw (by simp[hb]),<-bC,<-e];exact .tok t h hc
theorem Lx.dropR {cs ts} (h:Lx cs ts):Lx (cs.reverse.dropWhile cP).reverse ts/\((cs=[]\/∃r,cs=32::r)->((cs.reverse.dropWhile cP).reverse=[]\/∃r,(cs.reverse.dropWhile cP).reverse=32::r)):=by
 induction h with
 |nil=>exact⟨.nil,λö=>.inl rfl⟩
 |@sp cs ts h ih=>
  obtain⟨i1,i2⟩:=ih;refine(kX).symm▸(AK).symm▸?_;split
  ·rename_i hz;replace i1:=(sV.mp hz)▸i1;simp only[List.reverse_nil]at i1;have:[32].dropWhile cP=[]:=by decide
   refine this.symm▸?_;exact⟨i1,λö=>.inl rfl⟩
  ·refine(cY).symm▸?_;exact⟨.sp i1,λö=>.inr ⟨_,rfl⟩⟩
 |@tok cs ts t h hc ih=>
  obtain⟨i1,i2⟩:=ih;have e:((bn t).reverse.dropWhile cP)=(bn t).reverse:=by
   rcases nu (bn t)with q|⟨r,c,q⟩
   ·exact absurd q (dG t).2.1
   ·have hb:cP c=false:=by
     have:=aJ.mp (dG t).2.2 c (by rw[q];simp);simp only[bO,bl]at this;exact this.2
    refine q.symm▸(nv).symm▸(cY).symm▸?_;exact vw (by simp[hb])
  refine(cY).symm▸(AK).symm▸?_;have ne:(bn t++cs)≠[]:=λq=>(dG t).2.1 (fV.mp q).1;split
  ·rename_i hz;rw[e,gB];have hz:=sV.mp hz;replace i1:=(hz)▸i1;have:ts=[]:=i1.inv rfl;subst this;exact⟨.one t,λq=>by
    obtain⟨c,r,ec⟩:∃c r,bn t=c::r:=by
     induction hx:bn t with
     |nil=>exact absurd hx (dG t).2.1
     |cons c r=>exact⟨c,r,rfl⟩
    rcases q with q|⟨r',q⟩
    ·exact absurd q ne
    ·replace q:=(ec)▸q;injection q with q _;exact absurd (ec▸q▸EI) (lG t)⟩
  ·rw[cY,gB];refine⟨.tok t i1 (i2 hc),λq=>?_⟩;obtain⟨c,r,ec⟩:∃c r,bn t=c::r:=by
    induction hx:bn t with
    |nil=>exact absurd hx (dG t).2.1
    |cons c r=>exact⟨c,r,rfl⟩
   rcases q with q|⟨r',q⟩
   ·exact absurd q ne
   ·replace q:=(ec)▸q;injection q with q _;exact absurd (ec▸q▸EI) (lG t)
theorem Lx.strip {cs ts} (h:Lx cs ts):Lx (mw cs) ts:=h.dropL.dropR.1
theorem AU (cs:List Nat):(mw cs).length<=cs.length:=by
 unfold mw;refine(cz).symm▸?_;refine ae (M1.length_le (mU _)) ?_;refine(cz).symm▸?_;exact M1.length_le (mU _)
open PySem
noncomputable def put:aE->String->PV->aE
 |[],x,v=>[(x,v)]
 |(y,w)::ρ,x,v=>if y==x then(x,v)::ρ else(y,w)::put ρ x v
theorem zE:put [] x v=[(x,v)]:=rfl
theorem zF:put ((y,w)::ρ) x v=if y==x then(x,v)::ρ else(y,w)::put ρ x v:=rfl
noncomputable def uH:aE->String->PV->(aE->Prop)->Prop
 |[],x,v,k=>k [(x,v)]
 |(y,w)::ρ,x,v,k=>(match y==x with|true=>k ((x,v)::ρ)|false=>uH ρ x v λρ=>k ((y,w)::ρ))
noncomputable def tY:aE->aE->(aE->Prop)->Prop
 |ρ,[],k=>k ρ
 |ρ,p::b,k=>uH ρ p.1 p.2 λρ=>tY ρ b k
noncomputable def puts (ρ:aE) (b:aE):aE:=b.foldl (λρ p=>put ρ p.1 p.2) ρ
noncomputable def Sub:aE->aE->Prop
 |[],_=>True
 |(x,v)::cc,ρ=>ρ.lookup x=some v/\Sub cc ρ
inductive fb {α:Type} (o:Option α) (Q:α->Prop):Prop
 |of {a:α}:o=some a->Q a->fb o Q
inductive WP {α:Type} (r:qn α) (Q:α->ah->Prop) (X:ah->Prop):Prop
 |ok {a:α} {σ:ah}:r=.ok a σ->Q a σ->WP r Q X
 |exc {σ:ah}:r=.exc σ->X σ->WP r Q X
inductive lW (v:PV) (A B:Prop):Prop
 |t:iH v=some true->A->lW v A B
 |f:iH v=some false->B->lW v A B
theorem lW.dec {A B:Prop} (h:b=true->A) (k:b=false->B):lW (.bool b) A B:=by
 induction b with
 |true=>exact .t rfl (h rfl)
 |false=>exact .f rfl (k rfl)
theorem lW.dec' {b:Prop} [Decidable b] {A B:Prop} (h:b->A) (k:¬b->B):lW (.bool (decide b)) A B:=
 .dec (λe=>h (of_decide_eq_true e)) (λe=>k (of_decide_eq_false e))
structure Lp (α:Type) where
 ρ:α->aE
 I:α->ah->Prop
 μ:α->Nat
inductive Es {α:Type} (L:Lp α) (ρ:aE) (σ:ah) (b:Nat):Prop
 |mk (a:α):Sub (L.ρ a) ρ->L.I a σ->L.μ a<b->Es L ρ σ b
inductive WhP (ρ:aE) (σ:ah) (W:Nat) (K:(α:Type)->Lp α->Prop):Prop
 |mk {α:Type} (L:Lp α):Es L ρ σ W->K α L->WhP ρ σ W K
structure Fo (α:Type) where
 ρ:α->aE
 I:α->List PV->ah->Prop
inductive xi {α:Type} (L:Fo α) (ρ:aE) (l:List PV) (σ:ah):Prop
 |mk (a:α):Sub (L.ρ a) ρ->L.I a l σ->xi L ρ l σ
inductive MD (ρ:aE) (l:List PV) (σ:ah) (K J:(α:Type)->Fo α->Prop):Prop
 |mk {α:Type} (L:Fo α):xi L ρ l σ->K α L->J α L->MD ρ l σ K J
inductive MethP (c:String) (v:PV) (σ:ah) (K:PV->Prop):Prop
 |mk (k:Nat) {ns:List String} {vs:List PV}:v=.loc k->σ[k]?=some (.obj c ns vs)->ns.all (λx=>decide (x∈fieldsOf c))=true->K (.loc k)->MethP c v σ K
inductive LiP (v:PV) (K:List PV->Prop):Prop
 |mk (l:List PV):v=.list l->l.length<=dm->K l->LiP v K
inductive FzP (v:PV) (σ:ah) (K:Nat->PV->Prop):Prop
 |mk (k:Nat) (p:PV):v=.loc k->(σ[k]?).bind cS.pv?=some p->K k p->FzP v σ K
noncomputable def qf (l:List MS) (k:Nat):MS:=(l.drop k).headD .brk
noncomputable def lpC:MS->ME
 |.while c _=>c
 |_=>.cnone
noncomputable def xv:MS->List MS
 |.while _ b=>b
 |.for _ _ _ b=>b
 |_=>[]
structure Kt where
 next:aE->ah->Prop
 brk:aE->ah->Prop
 ret:PV->ah->Prop
 exc:ah->Prop
noncomputable def IA (cond elt:aE->(PV->ah->Prop)->ah->Prop) (tgt:List String):List PV->(List PV->ah->Prop)->ah->Prop
 |[],Q,σ=>Q [] σ
 |v::l,Q,σ=>fb (i4 tgt v) λb=>cond b (λt σ=>lW t (elt b (λr σ=>IA cond elt tgt l (λrs σ=>Q (r::rs) σ) σ) σ) (IA cond elt tgt l Q σ)) σ
section
variable (cf:String->List PV->MM PV)
mutual
noncomputable def iC (X:ah->Prop) (ρ:aE):ME->(PV->ah->Prop)->ah->Prop
 |.var x,Q,σ=>(match ρ.lookup x with|some v=>Q v σ|none=>False)
 |.glob x,Q,σ=>(match ua x with|some v=>Q v σ|none=>False)
 |.cint i,Q,σ=>Q (.int i) σ
 |.cstr s,Q,σ=>Q (.str (aa s)) σ
 |.cnone,Q,σ=>Q .none σ
 |.cbool b,Q,σ=>Q (.bool b) σ
 |.list es,Q,σ=>s7 X ρ es (λl σ=>fb (gb l) λr=>Q r σ) σ
 |.newl es,Q,σ=>s7 X ρ es (λl σ=>l.length<=dm/\Q (.loc σ.length) (σ++[.list l])) σ
 |.tup es,Q,σ=>s7 X ρ es (λl σ=>Q (.tup l) σ) σ
 |.bin op a b,Q,σ=>iC X ρ a (λx σ=>iC X ρ b (λy σ=>fb (jO op x y) λr=>Q r σ) σ) σ
 |.cmp op a b,Q,σ=>iC X ρ a (λx σ=>iC X ρ b (λy σ=>fb (jF op x y) λr=>Q r σ) σ) σ
 |.not a,Q,σ=>iC X ρ a (λx σ=>fb (iH x) λb=>Q (.bool !b) σ) σ
 |.band a b,Q,σ=>iC X ρ a (λx σ=>fb x.bool? λt=>lW (.bool t) (iC X ρ b Q σ) (Q x σ)) σ
 |.bor a b,Q,σ=>iC X ρ a (λx σ=>fb x.bool? λt=>lW (.bool t) (Q x σ) (iC X ρ b Q σ)) σ
 |.ite c a b,Q,σ=>iC X ρ c (λx σ=>lW x (iC X ρ a Q σ) (iC X ρ b Q σ)) σ
 |.attr e x,Q,σ=>iC X ρ e (λv σ=>fb (j6 σ v x) λr=>Q r σ) σ
 |.idx e i,Q,σ=>iC X ρ e (λv σ=>iC X ρ i (λi σ=>fb (nR σ v i) λr=>Q r σ) σ) σ
 |.slc e lo hi,Q,σ=>iC X ρ e (λv σ=>wqO X ρ lo (λlo σ=>wqO X ρ hi (λhi σ=>fb (pb v lo hi) λr=>Q r σ) σ) σ) σ
 |.rev e,Q,σ=>iC X ρ e (λv σ=>LiP v λl=>Q (.list l.reverse) σ) σ
 |.isin e cs,Q,σ=>iC X ρ e (λv σ=>match D6 v with|some c=>Q (.bool (cs.contains c)) σ|none=>False) σ
 |.call f args,Q,σ=>s7 X ρ args (λl σ=>WP (cf f l σ) Q X) σ
 |.meth o c f args,Q,σ=>iC X ρ o (λv σ=>MethP c v σ λo=>s7 X ρ args (λl σ=>WP (cf f (o::l) σ) Q X) σ) σ
 |.new c frozen ini args,Q,σ=>s7 X ρ args (λl σ=>WP (qg cf c frozen ini l σ) Q X) σ
 |.bi f args,Q,σ=>s7 X ρ args (λl σ=>fb (sE σ f l) λr=>Q r σ) σ
 |.sm m o args,Q,σ=>iC X ρ o (λv σ=>jB σ m v=true/\s7 X ρ args (λl σ=>WP (vy m v l σ) Q X) σ) σ
 |.copyl e,Q,σ=>iC X ρ e (λv σ=>LiP v λl=>Q (.loc σ.length) (σ++[.list l])) σ
 |.comp elt tgt kind it cond,Q,σ=>iC X ρ it (λv σ=>fb (pU kind v) λl=>
   IA (λb K σ=>match cond with
    |none=>K (.bool true) σ
    |some c=>iC (λö=>False) (compEnv tgt ρ b) c K σ)
    (λb K σ=>iC (λö=>False) (compEnv tgt ρ b) elt K σ) tgt l (λrs σ=>l.length<=dm/\fb (gb rs) λr=>Q r σ) σ) σ
noncomputable def s7 (X:ah->Prop) (ρ:aE):List ME->(List PV->ah->Prop)->ah->Prop
 |[],Q,σ=>Q [] σ
 |e::es,Q,σ=>iC X ρ e (λv σ=>s7 X ρ es (λvs σ=>Q (v::vs) σ) σ) σ
noncomputable def wqO (X:ah->Prop) (ρ:aE):Option ME->(Option Int->ah->Prop)->ah->Prop
 |none,Q,σ=>Q none σ
 |some e,Q,σ=>iC X ρ e (λv σ=>match v with|.int i=>Q (some i) σ|_=>False) σ
end
mutual
noncomputable def wqT (X:ah->Prop) (ρ:aE):MT->PV->(aE->ah->Prop)->ah->Prop
 |.var x,v,Q,σ=>uH ρ x v λρ=>Q ρ σ
 |.tup l,v,Q,σ=>(match v with
  |.tup vs=>(match decide (vs.length=l.length)with|true=>EZ X ρ l vs Q σ|false=>False)
  |_=>False)
 |.attr o x,v,Q,σ=>iC cf X ρ o (λov σ=>fb (dC σ ov x v) λσ=>Q ρ σ) σ
 |.idx o i,v,Q,σ=>iC cf X ρ o (λov σ=>iC cf X ρ i (λiv σ=>fb (oj σ ov iv v) λσ=>Q ρ σ) σ) σ
noncomputable def EZ (X:ah->Prop) (ρ:aE):List MT->List PV->(aE->ah->Prop)->ah->Prop
 |[],[],Q,σ=>Q ρ σ
 |t::ts,v::vs,Q,σ=>wqT X ρ t v (λρ σ=>EZ X ρ ts vs Q σ) σ
 |_,_,_,_=>False
end
variable (W:Nat)
mutual
noncomputable def wqS:MS->aE->(aE->ah->Prop)->(aE->ah->Prop)->(PV->ah->Prop)->(ah->Prop)->ah->Prop
 |.assign t e,ρ,N,B,R,X,σ=>iC cf X ρ e (λv σ=>wqT cf X ρ t v N σ) σ
 |.aug o x e,ρ,N,B,R,X,σ=>iC cf X ρ o (λov σ=>fb (j6 σ ov x) λold=>iC cf X ρ e (λv σ=>fb (BV old v) λr=>fb (dC σ ov x r) λσ=>N ρ σ) σ) σ
 |.expr e,ρ,N,B,R,X,σ=>iC cf X ρ e (λö σ=>N ρ σ) σ
 |.ifs c a b,ρ,N,B,R,X,σ=>iC cf X ρ c (λv σ=>lW v (dO a ρ N B R X σ) (dO b ρ N B R X σ)) σ
 |.while c b,ρ,N,B,R,X,σ=>WhP ρ σ W λα L=>∀a σ,L.I a σ->∀(N' B':aE->ah->Prop),(∀ρ σ,Es L ρ σ (L.μ a)->N' ρ σ)->(∀ρ σ,N ρ σ->B' ρ σ)->iC cf X (L.ρ a) c (λv σ=>lW v
    (dO b (L.ρ a) N' B' R X σ) (B' (L.ρ a) σ)) σ
 |.for tgt kd it b,ρ,N,B,R,X,σ=>iC cf X ρ it (λv σ=>fb (pU kd v) λl=>
   MD ρ l σ (λα L=>∀a v l σ,L.I a (v::l) σ->∀(N' B':aE->ah->Prop),(∀ρ σ,xi L ρ l σ->N' ρ σ)->(∀ρ σ,N ρ σ->B' ρ σ)->fb (i4 tgt v) λbs=>tY (L.ρ a) bs λρ=>dO b ρ N' B' R X σ)
   (λα L=>∀a σ,L.I a [] σ->N (L.ρ a) σ)) σ
 |.ret e,ρ,N,B,R,X,σ=>iC cf X ρ e R σ
 |.raise e,ρ,N,B,R,X,σ=>iC cf X ρ e (λv σ=>fb (v.str?.bind λs=>if s.length<=dm then some s else none) λö=>X σ) σ
 |.tryE none e h,ρ,N,B,R,X,σ=>iC cf (λσ=>dO h ρ N B R X σ) ρ e R σ
 |.tryE (some x) e h,ρ,N,B,R,X,σ=>iC cf (λσ=>dO h ρ N B R X σ) ρ e (λv σ=>uH ρ x v λρ=>N ρ σ) σ
 |.brk,ρ,N,B,R,X,σ=>B ρ σ
 |.freeze e,ρ,N,B,R,X,σ=>iC cf X ρ e (λv σ=>FzP v σ λk p=>N (ρ.map λq=>(q.1,PV.subst k p q.2)) ((σ.set k .dead).map (cS.subst k p))) σ
 |.bad,_,_,_,_,_,_=>False
noncomputable def dO:List MS->aE->(aE->ah->Prop)->(aE->ah->Prop)->(PV->ah->Prop)->(ah->Prop)->ah->Prop
 |[],ρ,N,B,R,X,σ=>N ρ σ
 |s::l,ρ,N,B,R,X,σ=>wqS s ρ (λρ σ=>dO l ρ N B R X σ) B R X σ
end
end
theorem nN:(put ρ x v).lookup y=if y==x then some v else ρ.lookup y:=by
 induction ρ with
 |nil=>
  simp only[zE,zF,d7];cases y==x<;>rfl
 |cons p ρ ih=>
  obtain⟨z,w⟩:=p;simp only[zE,zF];by_cases h:(z==x)=true
  ·rw[if_pos h];have h:=eq_of_beq h;subst h;simp only[d7];cases y==z<;>rfl
  ·rw[if_neg h];simp only[d7]
   induction hy:y==z with
   |false=>simp only;rw[ih]
   |true=>
    have hy:=eq_of_beq hy;subst hy;simp only;rw[if_neg h]
theorem Bp:(ig ρ x v).lookup y=if y==x then some v else ρ.lookup y:=by
 simp only[ig,d7];by_cases h:(y==x)=true
 ·exact h.symm▸rfl
 ·have h':(y==x)=false:=by simpa using h
  refine h'.symm▸?_;simp only;rw[if_neg (by simp)]
  induction ρ with
  |nil=>rfl
  |cons p ρ ih=>
   obtain⟨z,w⟩:=p;by_cases q:z=x
   ·subst q;rw[bB (by simp),ih];simp only[d7,h']
   ·rw[bb (by simpa using q)];simp only[d7,ih]
theorem qE:∀{ρ:aE} {x:String} {v:PV} {k:aE->Prop},uH ρ x v k->k (put ρ x v)
 |[],_,_,_,h=>h
 |(y,w)::ρ,x,v,k,h=>by
  replace h:(match y==x with|true=>k ((x,v)::ρ)|false=>uH ρ x v λρ=>k ((y,w)::ρ)):=h;simp only[zE,zF]
  induction q:y==x with
  |true=>rw[q]at h;exact h
  |false=>rw[q]at h;exact qE h
theorem v3:∀{b ρ:aE} {k:aE->Prop},tY ρ b k->k (puts ρ b)
 |[],_,_,h=>h
 |p::b,ρ,k,h=>v3 (b:=b) (qE h)
noncomputable def Le (cc ρ:aE):Prop:=∀x v,cc.lookup x=some v->ρ.lookup x=some v
theorem Sub.le:∀{cc ρ:aE},Sub cc ρ->Le cc ρ
 |[],_,_=>λx v h=>by contradiction
 |(y,w)::cc,ρ,⟨h1,h2⟩=>λx v h=>by
  simp only[d7]at h;by_cases q:(x==y)=true
  ·replace h:=(q)▸h
   (injection h;subst_vars)
   exact(eq_of_beq q).symm▸h1
  ·replace h:=(show(x==y)=false by simpa using q)▸h;exact Sub.le h2 x v h
theorem Le.put {cc ρ:aE} (h:Le cc ρ) (x:String) (v:PV):Le (put cc x v) (ig ρ x v):=λy w q=>by
 rw[nN]at q;rw[Bp];split<;>rename_i e
 ·rw[if_pos e]at q;exact q
 ·rw[if_neg e]at q;exact h y w q
theorem Le.puts:∀{cc ρ:aE},Le cc ρ->Le (puts cc b) (fY ρ b):=by
 induction b with
 |nil=>exact id
 |cons p b ih=>exact λh=>ih (h.put p.1 p.2)
theorem Le.trans {a b c:aE} (h:Le a b) (k:Le b c):Le a c:=λx v q=>k x v (h x v q)
theorem x6 {ρ:aE} {f:PV->PV} {x:String}:(ρ.map λq=>(q.1,f q.2)).lookup x=(ρ.lookup x).map f:=by
 induction ρ with
 |nil=>rfl
 |cons p ρ ih=>
  obtain⟨y,w⟩:=p;simp only[bq,d7];cases x==y with
  |true=>rfl
  |false=>exact ih
theorem Le.map {cc ρ:aE} (h:Le cc ρ) (f:PV->PV):Le (cc.map λq=>(q.1,f q.2)) (ρ.map λq=>(q.1,f q.2)):=λx v q=>by
 rw[x6]at q⊢;refine lT q λw hw e=>?_;exact(h x w hw).symm▸e▸rfl
theorem x7 {a b:aE} {x:String}:(a++b).lookup x=(a.lookup x).or (b.lookup x):=by
 induction a with
 |nil=>rfl
 |cons p a ih=>
  obtain⟨y,w⟩:=p;simp only[bC,d7];cases x==y with
  |true=>rfl
  |false=>exact ih
theorem te {ρ:aE} {f:String->Bool} {x:String}:(ρ.filter λp=>f p.1).lookup x=if f x then ρ.lookup x else none:=by
 induction ρ with
 |nil=>simp
 |cons p ρ ih=>
  obtain⟨y,w⟩:=p;by_cases q:f y=true
  ·rw[bb (by exact q)];simp only[d7];by_cases e:(x==y)=true
   ·exact e.symm▸(eq_of_beq e).symm▸(if_pos q).symm▸rfl
   ·exact(show(x==y)=false by simpa using e).symm▸ih
  ·rw[bB (by exact q),ih];split
   ·rename_i hf;have:(x==y)=false:=by
     rw[beq_eq_false_iff_ne];rintro rfl;exact q hf
    simp only[d7,this]
   ·rfl
theorem Le.comp {cc ρ:aE} (h:Le cc ρ) (tgt:List String) (b:aE):Le (compEnv tgt cc b) (compEnv tgt ρ b):=λx v q=>by
 unfold compEnv at*;rw[x7]at q⊢;rw[te (f:=λy=>!(".0"::tgt).contains y)]at q⊢
 induction hb:b.lookup x with
 |some w=>rw[hb]at q;exact q
 |none=>
  replace q:=(hb)▸q;simp only[tB]at q⊢;split at q
  ·rename_i hq;exact(if_pos hq).symm▸h x v q
  ·contradiction
noncomputable def Ok {α:Type} (r:qn α) (Q:α->ah->Prop) (X:ah->Prop):Prop:=match r with
 |.ok a σ=>Q a σ
 |.exc σ=>X σ
 |.bad=>False
theorem WP.toOk {α:Type} {r:qn α} {Q X}:WP r Q X->Ok r Q X
 |.ok h q=>by rw[h];exact q
 |.exc h q=>by rw[h];exact q
theorem Ok.bind {α β:Type} {m:MM α} {f:α->MM β} {σ:ah} {Q:β->ah->Prop} {X} {P:α->ah->Prop} (h:Ok (m σ) P X) (k:∀a σ,P a σ->Ok (f a σ) Q X):Ok (MM.bind m f σ) Q X:=by
 simp only[MM.bind]
 induction hm:m σ with
 |ok a aF=>rw[hm]at h;exact k a aF h
 |exc aF=>rw[hm]at h;exact h
 |bad=>rw[hm]at h;exact h
theorem Ok.opt {α β:Type} {o:Option α} {f:α->MM β} {σ:ah} {Q:β->ah->Prop} {X} {P:α->Prop} (h:fb o P) (k:∀a,P a->Ok (f a σ) Q X):Ok (MM.bind (bJ o) f σ) Q X:=by
 obtain⟨e,p⟩:=h;exact e.symm▸k _ p
theorem Ok.opt1 {α:Type} {o:Option α} {σ:ah} {Q:α->ah->Prop} {X} (h:fb o λa=>Q a σ):Ok (bJ o σ) Q X:=by
 obtain⟨e,p⟩:=h;exact e.symm▸p
theorem Ok.optσ {α:Type} {o:ah->Option α} {σ:ah} {Q:α->ah->Prop} {X} (h:fb (o σ) λa=>Q a σ):Ok (cC o σ) Q X:=by
 obtain⟨e,p⟩:=h;simp only[cC,e];exact p
theorem HH {α:Type} {m:MM α} {σ:ah} {Q:α->ah->Prop} {X} (h:Ok (m σ) Q λö=>False):Ok (mE m σ) Q X:=by
 unfold mE
 induction hm:m σ with
 |ok a aF=>rw[hm]at h;exact h
 |exc aF=>rw[hm]at h;exact h.elim
 |bad=>rw[hm]at h;exact h.elim
theorem tP {β:Type} {m:MM PV} {f:Bool->MM β} {σ:ah} {Q:β->ah->Prop} {X} {A B:ah->Prop} (h:Ok (m σ) (λv σ=>lW v (A σ) (B σ)) X) (ha:∀σ,A σ->Ok (f true σ) Q X) (hb:∀σ,B σ->Ok (f false σ) Q X):
  Ok (MM.bind (eO m) f σ) Q X:=by
 unfold eO;simp only[MM.bind]
 induction hm:m σ with
 |ok v aF=>
  replace h:=(hm)▸h
  induction h with
  |t e a=>simp only[e,bJ];exact ha _ a
  |f e a=>simp only[e,bJ];exact hb _ a
 |exc aF=>rw[hm]at h;exact h
 |bad=>rw[hm]at h;exact h
theorem Av {c:aE->MM Bool} {e:aE->MM PV} {wc we:aE->(PV->ah->Prop)->ah->Prop} {tgt:List String}
  (hc:∀b (A B:ah->Prop) σ,wc b (λt σ=>lW t (A σ) (B σ)) σ->Ok (c b σ) (λt σ=>(t=true->A σ)/\(t=false->B σ)) λö=>False)
  (he:∀b Q σ,we b Q σ->Ok (e b σ) Q λö=>False):∀{l:List PV} {Q:List PV->ah->Prop} {σ:ah},IA wc we tgt l Q σ->Ok (lP c e tgt l σ) Q λö=>False
 |[],Q,σ,h=>h
 |v::l,Q,σ,h=>.opt h λb h=>.bind (hc b _ _ σ h) λt σ pz=>by
  obtain⟨h1,h2⟩:=pz
  induction t with
  |true=>exact .bind (he b _ σ (h1 rfl)) λr σ h=>.bind (Av hc he h) λrs σ h=>h
  |false=>exact Av hc he (h2 rfl)
section
variable {cf:String->List PV->MM PV}
mutual
theorem ch {X:ah->Prop} {cc ρ:aE} (hl:Le cc ρ):∀{e:ME} {Q:PV->ah->Prop} {σ:ah},iC cf X cc e Q σ->Ok (bu cf ρ e σ) Q X
 |.var x,Q,σ,h=>by
  replace h:(match cc.lookup x with|some v=>Q v σ|none=>False):=h;show Ok (bJ (ρ.lookup x) σ) Q X
  induction hv:cc.lookup x with
  |some v=>
   replace h:=(hv)▸h;exact(hl x v hv).symm▸h
  |none=>rw[hv]at h;exact h.elim
 |.glob x,Q,σ,h=>by
  replace h:(match ua x with|some v=>Q v σ|none=>False):=h;show Ok (bJ (ua x) σ) Q X
  induction hv:ua x with
  |some v=>rw[hv]at h;exact h
  |none=>rw[hv]at h;exact h.elim
 |.cint i,Q,σ,h=>h
 |.cstr s,Q,σ,h=>h
 |.cnone,Q,σ,h=>h
 |.cbool b,Q,σ,h=>h
 |.list es,Q,σ,h=>.bind (jm hl (es:=es) h) λl σ h=>.opt1 h
 |.newl es,Q,σ,h=>.bind (jm hl (es:=es) h) λl σ h=>by
  show Ok (if l.length<=dm then _ else _) Q X;exact(if_pos h.1).symm▸h.2
 |.tup es,Q,σ,h=>.bind (jm hl (es:=es) h) λl σ h=>h
 |.bin op a b,Q,σ,h=>.bind (ch hl (e:=a) h) λx σ h=>.bind (ch hl (e:=b) h) λy σ h=>.opt1 h
 |.cmp op a b,Q,σ,h=>.bind (ch hl (e:=a) h) λx σ h=>.bind (ch hl (e:=b) h) λy σ h=>.opt1 h
 |.not a,Q,σ,h=>by
  refine .bind (m:=eO (bu cf ρ a)) (P:=λb σ=>Q (.bool !b) σ) (.bind (ch hl (e:=a) h) λx σ h=>.opt1 h) λb σ h=>h
 |.band a b,Q,σ,h=>.bind (ch hl (e:=a) h) λx σ h=>.opt h λt h=>by
  induction t with
  |true=>induction h with
   |t _ h=>exact ch hl (e:=b) h
   |f e _=>contradiction
  |false=>induction h with
   |t e _=>contradiction
   |f _ h=>exact h
 |.bor a b,Q,σ,h=>.bind (ch hl (e:=a) h) λx σ h=>.opt h λt h=>by
  induction t with
  |false=>induction h with
   |f _ h=>exact ch hl (e:=b) h
   |t e _=>contradiction
  |true=>induction h with
   |f e _=>contradiction
   |t _ h=>exact h
 |.ite c a b,Q,σ,h=>tP (ch hl (e:=c) h) (λσ h=>ch hl (e:=a) h) (λσ h=>ch hl (e:=b) h)
 |.attr e x,Q,σ,h=>.bind (ch hl (e:=e) h) λv σ h=>.optσ h
 |.idx a b,Q,σ,h=>.bind (ch hl (e:=a) h) λx σ h=>.bind (ch hl (e:=b) h) λy σ h=>.optσ h
 |.slc e lo hi,Q,σ,h=>.bind (ch hl (e:=e) h) λx σ h=>.bind (Cm hl (e:=lo) h) λi σ h=>.bind (Cm hl (e:=hi) h) λj σ h=>.opt1 h
 |.rev e,Q,σ,h=>.bind (ch hl (e:=e) h) λv σ pz=>by
  obtain⟨l,e,q,h⟩:=pz;subst e;show Ok (bJ (if l.length<=dm then _ else _) σ) Q X;exact(if_pos q).symm▸h
 |.isin e cs,Q,σ,h=>.bind (ch hl (e:=e) h) λv σ h=>by
  split at h
  ·rename_i c hc;exact hc.symm▸h
  ·exact h.elim
 |.call f args,Q,σ,h=>.bind (jm hl (es:=args) h) λl σ h=>h.toOk
 |.meth o c f args,Q,σ,h=>.bind (ch hl (e:=o) h) λv σ pz=>by
  obtain⟨k,e,h1,h2,h⟩:=pz;subst e;simp only[zV,h1,h2,and_self,if_true];exact .bind (jm hl (es:=args) h) λl σ h=>h.toOk
 |.new c fr ini args,Q,σ,h=>.bind (jm hl (es:=args) h) λl σ h=>h.toOk
 |.bi f args,Q,σ,h=>.bind (jm hl (es:=args) h) λl σ h=>.optσ h
 |.sm m o args,Q,σ,h=>.bind (ch hl (e:=o) h) λv σ pz=>by
  obtain⟨h1,h⟩:=pz;simp only[h1,if_true];exact .bind (jm hl (es:=args) h) λl σ h=>h.toOk
 |.copyl e,Q,σ,h=>.bind (ch hl (e:=e) h) λv σ pz=>by
  obtain⟨l,e,q,h⟩:=pz;subst e;show Ok (if l.length<=dm then _ else _) Q X;exact(if_pos q).symm▸h
 |.comp elt tgt kind it none,Q,σ,h=>.bind (ch hl (e:=it) h) λv σ h=>.opt h λl h=>
   .bind (HH (Av (λb A B σ h=>by
    induction h with
    |t _ h=>exact⟨λö=>h,λe=>by contradiction⟩
    |f e _=>contradiction) (λb Q σ h=>ch (hl.comp tgt b) (e:=elt) h) h)) λr σ pz=>by
    obtain⟨h1,h2⟩:=pz;exact(if_pos h1).symm▸.opt1 h2
 |.comp elt tgt kind it (some c),Q,σ,h=>.bind (ch hl (e:=it) h) λv σ h=>.opt h λl h=>
   .bind (HH (Av (λb A B σ h=>.bind (ch (hl.comp tgt b) (e:=c) h) λv σ h=>by
    induction h with
    |t e h=>rw[e];exact⟨λö=>h,λe=>by contradiction⟩
    |f e h=>rw[e];exact⟨λe=>(by contradiction),λö=>h⟩) (λb Q σ h=>ch (hl.comp tgt b) (e:=elt) h) h)) λr σ pz=>by
    obtain⟨h1,h2⟩:=pz;exact(if_pos h1).symm▸.opt1 h2
theorem jm {X:ah->Prop} (hl:Le cc ρ):∀{es:List ME} {Q:List PV->ah->Prop} {σ:ah},s7 cf X cc es Q σ->Ok (eP cf ρ es σ) Q X
 |[],Q,σ,h=>h
 |e::es,Q,σ,h=>.bind (ch hl (e:=e) h) λv σ h=>.bind (jm hl (es:=es) h) λvs σ h=>h
theorem Cm {X:ah->Prop} (hl:Le cc ρ):∀{e:Option ME} {Q:Option Int->ah->Prop} {σ:ah},wqO cf X cc e Q σ->Ok (Ai cf ρ e σ) Q X
 |none,Q,σ,h=>h
 |some e,Q,σ,h=>.bind (ch hl (e:=e) h) λv σ h=>by
  split at h
  ·exact h
  ·exact h.elim
end
noncomputable def Up (Q:aE->ah->Prop) (ρ:aE) (σ:ah):Prop:=∃cc,Le cc ρ/\Q cc σ
mutual
theorem Cj {X:ah->Prop} {cc ρ:aE} (hl:Le cc ρ):∀{t:MT} {v:PV} {Q:aE->ah->Prop} {σ:ah},wqT cf X cc t v Q σ->Ok (iu cf ρ t v σ) (Up Q) X
 |.var x,v,Q,σ,h=>⟨_,hl.put x v,qE h⟩
 |.tup l,v,Q,σ,h=>by
  cases v with
  |tup vs=>
   replace h:(match decide (vs.length=l.length)with|true=>EZ cf X cc l vs Q σ|false=>False):=h;by_cases e:vs.length=l.length
   ·rw[decide_eq_true e]at h;show Ok ((if vs.length=l.length then gi cf ρ l vs else MM.bad) σ) (Up Q) X;rw[if_pos e];exact zm hl (ts:=l) h
   ·rw[decide_eq_false e]at h;exact h.elim
  |_=>exact h.elim
 |.attr o x,v,Q,σ,h=>.bind (ch hl (e:=o) h) λu σ pz=>by
  obtain⟨e,h⟩:=pz;simp only[e];exact⟨_,hl,h⟩
 |.idx o i,v,Q,σ,h=>.bind (ch hl (e:=o) h) λu σ h=>.bind (ch hl (e:=i) h) λw σ pz=>by
  obtain⟨e,h⟩:=pz;simp only[e];exact⟨_,hl,h⟩
theorem zm {X:ah->Prop} {cc ρ:aE} (hl:Le cc ρ):∀{ts:List MT} {vs:List PV} {Q:aE->ah->Prop} {σ:ah},EZ cf X cc ts vs Q σ->Ok (gi cf ρ ts vs σ) (Up Q) X
 |[],[],Q,σ,h=>⟨_,hl,h⟩
 |[],_::_,Q,σ,h=>aw h
 |_::_,[],Q,σ,h=>aw h
 |t::ts,v::vs,Q,σ,h=>.bind (Cj hl (t:=t) h) λgz σ ⟨cc,hl,h⟩=>zm hl (ts:=ts) h
end
noncomputable def Ko (K:Kt) (r:Flow×aE) (σ:ah):Prop:=match r.1 with
 |.next=>Up K.next r.2 σ
 |.brk=>Up K.brk r.2 σ
 |.ret v=>K.ret v σ
variable {W:Nat}
theorem DN {body:aE->MM (Flow×aE)} {tgt:List String} {K:Kt} {α:Type} {L:Fo α} {w:aE->Kt->ah->Prop}
  (hb:∀{gz ρ K σ},Le gz ρ->w gz K σ->Ok (body ρ σ) (Ko K) K.exc)
  (hs:∀a v l σ,L.I a (v::l) σ->fb (i4 tgt v) λbs=>w (puts (L.ρ a) bs) ⟨λρ σ=>xi L ρ l σ,K.next,K.ret,K.exc⟩ σ)
  (he:∀a σ,L.I a [] σ->K.next (L.ρ a) σ):∀{l:List PV} {a:α} {ρ:aE} {σ:ah},Le (L.ρ a) ρ->L.I a l σ->Ok (ub body tgt l ρ σ) (Ko K) K.exc
 |[],a,ρ,σ,hl,h=>⟨_,hl,he a σ h⟩
 |v::l,a,ρ,σ,hl,h=>.opt (hs a v l σ h) λbs h=>.bind (hb (K:=⟨λρ σ=>xi L ρ l σ,K.next,K.ret,K.exc⟩) hl.puts h) λr σ h=>by
  obtain⟨f,f7⟩:=r
  induction f with
  |next=>
   obtain⟨gz,h1,a',h2,h3⟩:=h;exact DN (w:=w) hb hs he (h2.le.trans h1) h3
  |brk=>exact h
  |ret v=>exact h
theorem vK {test:aE->MM Bool} {body:aE->MM (Flow×aE)} {K:Kt} {α:Type} {L:Lp α} {A B:α->ah->Prop}
  (ht:∀a ρ σ,Le (L.ρ a) ρ->L.I a σ->Ok (test ρ σ) (λt σ=>(t=true->A a σ)/\(t=false->B a σ)) K.exc)
  (hb:∀a ρ σ,Le (L.ρ a) ρ->A a σ->Ok (body ρ σ) (Ko ⟨λρ σ=>Es L ρ σ (L.μ a),K.next,K.ret,K.exc⟩) K.exc)
  (he:∀a σ,B a σ->K.next (L.ρ a) σ):∀{w:Nat} {a:α} {ρ:aE} {σ:ah},L.μ a<w->Le (L.ρ a) ρ->L.I a σ->Ok (uo test body w ρ σ) (Ko K) K.exc
 |0,a,ρ,σ,hm,hl,h=>absurd hm (Ky _)
 |w+1,a,ρ,σ,hm,hl,h=>.bind (ht a ρ σ hl h) λt σ pz=>by
  obtain⟨h1,h2⟩:=pz
  induction t with
  |false=>exact⟨_,hl,he a σ (h2 rfl)⟩
  |true=>
   refine .bind (hb a ρ σ hl (h1 rfl)) λr σ h=>?_;obtain⟨f,f7⟩:=r
   induction f with
   |next=>
    obtain⟨gz,h1,a',h2,h3,h4⟩:=h;exact vK ht hb he (aO h4 (gr hm)) (h2.le.trans h1) h3
   |brk=>exact h
   |ret v=>exact h
theorem wV {α:Type} {m h:MM α} {σ:ah} {Q:α->ah->Prop} {X Y:ah->Prop} (e:Ok (m σ) Q Y) (b:∀σ,Y σ->Ok (h σ) Q X):Ok (ir m h σ) Q X:=by
 unfold ir
 induction hm:m σ with
 |ok a aF=>rw[hm]at e;exact e
 |exc aF=>rw[hm]at e;exact b _ e
 |bad=>rw[hm]at e;exact e
mutual
theorem Iz:∀{s:MS} {cc ρ:aE} {K:Kt} {σ:ah},Le cc ρ->wqS cf W s cc K.next K.brk K.ret K.exc σ->Ok (nB cf W s ρ σ) (Ko K) K.exc
 |.assign t e,cc,ρ,K,σ,hl,h=>.bind (ch hl (e:=e) h) λv σ h=>.bind (Cj hl (t:=t) h) λf7 σ h=>h
 |.aug o x e,cc,ρ,K,σ,hl,h=>.bind (ch hl (e:=o) h) λv σ pz=>by
  obtain⟨h1,h⟩:=pz;refine .bind (m:=cC λσ=>j6 σ v x) (P:=λa σ=>iC cf K.exc cc e (λw σ=>fb (BV a w) λr=>fb (dC σ v x r) λσ=>K.next cc σ) σ) (by simp only[cC,h1];exact h) λa σ h=>.bind (ch hl (e:=e) h) λw σ h=>.opt h λr pz=>?_;obtain⟨e,h⟩:=pz;simp only[e];exact⟨_,hl,h⟩
 |.expr e,cc,ρ,K,σ,hl,h=>.bind (ch hl (e:=e) h) λv σ h=>⟨_,hl,h⟩
 |.ifs c a b,cc,ρ,K,σ,hl,h=>tP (ch hl (e:=c) h) (λσ h=>jS (ss:=a) hl h) (λσ h=>jS (ss:=b) hl h)
 |.while c b,cc,ρ,K,σ,hl,⟨L,⟨a,ha,hi,hm⟩,h⟩=>vK (A:=λa σ=>dO cf W b (L.ρ a) (λρ σ=>Es L ρ σ (L.μ a)) K.next K.ret K.exc σ) (B:=λa σ=>K.next (L.ρ a) σ)
   (λa ρ σ hl hi=>.bind (ch hl (e:=c) (h a σ hi _ _ (λö ö z=>z) λö ö z=>z)) λv σ h=>by
    induction h with
    |t e h=>rw[e];exact⟨λö=>h,λe=>by contradiction⟩
    |f e h=>rw[e];exact⟨λe=>(by contradiction),λö=>h⟩)
   (λa ρ σ hl h=>jS (ss:=b) hl h) (λa σ h=>h) hm (ha.le.trans hl) hi
 |.for tgt kd it b,cc,ρ,K,σ,hl,h=>.bind (ch hl (e:=it) h) λv σ h=>.opt h λl ⟨L,⟨a,ha,hi⟩,hs,he⟩=>
   DN (w:=λρ K σ=>dO cf W b ρ K.next K.brk K.ret K.exc σ) (λhl h=>jS (ss:=b) hl h) (λa v l σ h=>have⟨e,q⟩:=hs a v l σ h _ _ (λö ö z=>z) λö ö z=>z;⟨e,v3 q⟩) he (ha.le.trans hl) hi
 |.ret e,cc,ρ,K,σ,hl,h=>.bind (ch hl (e:=e) h) λv σ h=>h
 |.raise e,cc,ρ,K,σ,hl,h=>.bind (ch hl (e:=e) h) λv σ h=>.opt h λö h=>h
 |.tryE none e hd,cc,ρ,K,σ,hl,h=>wV (.bind (P:=K.ret) (ch hl (e:=e) h) λv σ h=>h) λσ h=>jS (ss:=hd) hl h
 |.tryE (some x) e hd,cc,ρ,K,σ,hl,h=>wV (.bind (P:=λv σ=>uH cc x v λρ=>K.next ρ σ) (ch hl (e:=e) h) λv σ h=>⟨_,hl.put x v,qE h⟩) λσ h=>jS (ss:=hd) hl h
 |.brk,cc,ρ,K,σ,hl,h=>⟨_,hl,h⟩
 |.freeze e,cc,ρ,K,σ,hl,h=>.bind (ch hl (e:=e) h) λv σ pz=>by
  obtain⟨k,p,e,h1,h⟩:=pz;subst e;refine .bind (P:=Up K.next) ?_ λρ σ h=>h;simp only[qP,h1];exact⟨_,hl.map _,h⟩
 |.bad,_,_,_,_,_,h=>aw h
theorem jS:∀{ss:List MS} {cc ρ:aE} {K:Kt} {σ:ah},Le cc ρ->dO cf W ss cc K.next K.brk K.ret K.exc σ->Ok (c9 cf W ss ρ σ) (Ko K) K.exc
 |[],cc,ρ,K,σ,hl,h=>⟨_,hl,h⟩
 |s::ss,cc,ρ,K,σ,hl,h=>.bind (Iz (s:=s) (K:=⟨λρ σ=>dO cf W ss ρ K.next K.brk K.ret K.exc σ,K.brk,K.ret,K.exc⟩) hl h) λr σ h=>by
  obtain⟨f,f7⟩:=r
  induction f with
  |next=>
   obtain⟨gz,h1,h2⟩:=h;exact jS (ss:=ss) h1 h2
  |brk=>exact h
  |ret v=>exact h
end
end
theorem Ok.toWP {α:Type} {r:qn α} {Q X} (h:Ok r Q X):WP r Q X:=by
 induction r with
 |ok a σ=>exact .ok rfl h
 |exc σ=>exact .exc rfl h
 |bad=>exact h.elim
theorem EY {W n:Nat} {f:String} {d:oU} {args:List PV} {σ:ah} {Q:PV->ah->Prop} {X:ah->Prop} (hd:(prog.find? λd:oU=>d.name==f)=some d) (hn:d.params.length=args.length)
  (h:dO (C W n) W d.body (d.params.zip args) (λö σ=>Q .none σ) (λö ö=>False) Q X σ):Ok (C W (n+1) f args σ) Q X:=by
 show Ok ((match prog.find? (λd:oU=>d.name==f)with|some d=>ii (kN prog W n) W d args|none=>MM.bad) σ) Q X;refine hd.symm▸?_;simp only[ii,if_pos hn];refine .bind (jS (K:=⟨λö σ=>Q .none σ,λö ö=>False,Q,X⟩) (λx v h=>h) h) λr σ h=>?_;obtain⟨f,ρ⟩:=r
 induction f with
 |next=>obtain⟨_,_,h⟩:=h;exact h
 |brk=>obtain⟨_,_,h⟩:=h;exact h.elim
 |ret v=>exact h
theorem b6 {W n:Nat} {f:String} {d:oU} {args:List PV} {σ:ah} {Q:PV->ah->Prop} {X:ah->Prop} (hd:(prog.find? λd:oU=>d.name==f)=some d) (hn:d.params.length=args.length)
  (h:dO (C W n) W d.body (d.params.zip args) (λö σ=>Q .none σ) (λö ö=>False) Q X σ):WP (C W (n+1) f args σ) Q X:=(EY hd hn h).toWP
open PySem
noncomputable abbrev vA:ah->Prop:=λö=>False
noncomputable abbrev St (cs:List Nat):PV:=.str ⟨cs.toArray⟩
theorem vo (h:a.length+b.length<=dm):jO .add (St a) (St b)=some (St (a++b)):=by
 show zJ ⟨a.toArray++b.toArray⟩=_;unfold zJ;rw[if_pos (by show(a.toArray++b.toArray).size<=dm;simpa using h)];simp
theorem II (h:a.length<=dm) (k:a.all (· <128)=true):vy "strip" (St a) [] σ=.ok (St (mw a)) σ:=by
 have:uw (St a)=some (St (mw a)):=if_pos ⟨(by show a.toArray.size<=dm;simpa using h),(by show a.toArray.toList.all (· <128)=true;simpa using k)⟩;show bJ (uw (St a)) σ=_;rw[this];rfl
inductive Tx (v:PV) (ts:List Tok):Prop
 |mk (cs:List Nat):v=St cs->Lx cs ts->cs.length<=5*ts.length->Tx v ts
noncomputable def jN:T->Nat
 |.run _=>0
 |.red c _ _=>jN c+1
 |.pair _ l r=>max (jN l) (jN r)+1
 |.back c=>jN c+1
theorem uY:jN (.red c p k)=jN c+1:=rfl
theorem rU:jN (.pair s l r)=max (jN l) (jN r)+1:=rfl
theorem rV:jN (.back c)=jN c+1:=rfl
theorem Jo:aa "( "=⟨[40,32].toArray⟩:=by decide+kernel
theorem Jp:aa " )"=⟨[32,41].toArray⟩:=by decide+kernel
theorem rK:aa " "=⟨[32].toArray⟩:=by decide+kernel
theorem Jq:aa " &"=⟨[32,38].toArray⟩:=by decide+kernel
theorem Gf (t:Tok):aa (KU t)=⟨(bn t).toArray⟩:=by
 show tS t=⟨(tS t).cps.toList.toArray⟩;exact(Array.toArray_toList).symm▸rfl
variable {W:Nat} {σ:ah}
noncomputable def nZ (W n:Nat) (σ:ah) (f:String) (t:T) (us:List Tok):Prop:=∀{Q:PV->ah->Prop} {X:ah->Prop},(∀v,Tx v us->Q v σ)->WP (C W n f [pv t] σ) Q X
theorem Tx.le {C:Prop} (h:Tx v ts) (k:ts.length<=10000) (f:∀cs,v=St cs->Lx cs ts->cs.length<=5*ts.length->cs.length<=50000->C):C:=
 let⟨cs,h1,h2,h3⟩:=h
 f cs h1 h2 h3 (bH 0x1c35041908185039085271041802 k h3)
theorem ur {K:PV->Prop} (h:Tx v ts) (k:ts.length<=10000) (q:∀w,Tx w (.lp::(ts++[.rp]))->K w):fb (jO .add (.str (aa "( ")) v) λu=>fb (jO .add u (.str (aa " )"))) K:=
 h.le k λcs e h2 h3 h4=>by
  subst e;refine .of (a:=St ([40,32]++cs)) (by rw[Jo];exact vo (by simp[dm];exact cy 0x1f4240518202081c35041801 h4)) (.of (a:=St ([40,32]++cs++[32,41])) (by rw[Jp];exact vo (by simp[dm];exact cy 0x1f423c518081c35041801 h4)) (q _ ⟨_,rfl,?_,?_⟩))
  ·have:=(Lx.one .lp).app (h2.app (Lx.one .rp));have e:bn .lp=[40]:=by decide+kernel
   have e':bn .rp=[41]:=by decide+kernel
   replace this:=(e')▸(e)▸this;simpa using this
  ·simp;exact bH 0x1101092250310102082220819503801 h3
theorem rW {t:T} {n:Nat} (hn:(body t).length<=10000) (h:nZ W n σ "text_of" t (body t)):nZ W (n+1) σ "grouped" t (wr 3 t):=λ{Q X} k=>by
 refine b6 rfl rfl ?_
 induction t with
 |run ws=>exact .t rfl (h k)
 |red c p j=>exact .t rfl (h k)
 |pair s l r=>
  have e:wr 3 (.pair s l r)=.lp::(body (.pair s l r)++[.rp]):=by induction s<;>rfl
  replace k:=(e)▸k;exact .f rfl (h λv q=>ur q hn k)
 |back c=>exact .f rfl (h λv q=>ur q hn k)
theorem CN:∀s:Bool,jF .eq (.str (Hy s)) (.str (aa "|"))=some (.bool !s)
 |true=>by kernel_rfl
 |false=>by kernel_rfl
theorem qA:∀s:Bool,jF .eq (.str (Hy s)) (.str (aa ";"))=some (.bool s)
 |true=>by kernel_rfl
 |false=>by kernel_rfl
theorem rA {t:T} {n:Nat} (hn:(body t).length<=10000) (h:nZ W n σ "text_of" t (body t)):nZ W (n+1) σ "piped" t (wr 2 t):=λ{Q X} k=>by
 refine b6 rfl rfl ?_
 induction t with
 |run ws=>exact .of rfl (.f rfl (.of rfl (.f rfl (.f rfl (h k)))))
 |red c p j=>exact .of rfl (.f rfl (.of rfl (.f rfl (.f rfl (h k)))))
 |back c=>exact .of rfl (.t rfl (.t rfl (h λv q=>ur q hn k)))
 |pair s l r=>
  refine .of rfl (.f rfl (.of rfl (.t rfl (.of rfl (.of (qA _) ?_)))))
  induction s with
  |false=>exact .f rfl (h k)
  |true=>exact .t rfl (h λv q=>ur q hn k)
theorem qX (t:Tok):tS t=⟨(bn t).toArray⟩:=Gf t
theorem strs_map (ts:List Tok):jb (ts.map λt=>PV.str (tS t))=some (ts.map tS):=by
 unfold jb
 induction ts with
 |nil=>rfl
 |cons t ts ih=>rw[bq,n7,ih];rfl
theorem rQ:∀ts:List Tok,mZ (aa " ") (ts.map tS)=⟨(gl 32 (ts.map bn)).toArray⟩
 |[]=>rfl
 |[t]=>qX t
 |t::u::ts=>by
  show(⟨(tS t).cps++(aa " ").cps++(mZ (aa " ") ((u::ts).map tS)).cps⟩:Str)=⟨(bn t++32::gl 32 ((u::ts).map bn)).toArray⟩;rw[rQ (u::ts),rK,qX];simp
theorem yn:∀ts:List Tok,(gl 32 (ts.map bn)).length<=5*ts.length
 |[]=>au _
 |[t]=>by have:=(dG t).1;show(bn t).length<=5;exact cy 0x150808140801 this
 |t::u::ts=>by
  have:=(dG t).1;have:=yn (u::ts);show(bn t++32::gl 32 ((u::ts).map bn)).length<=_;simp only[af,aj]at*;exact b7 0x11010a2250310928208110a2503908140802 ‹_› this
theorem Fe (ts:List Tok):((ts.map tS).map (·.length)).sum<=4*ts.length:=by
 induction ts with
 |nil=>exact au _
 |cons t ts ih=>
  have:=(dG t).1;have e:(tS t).length=(bn t).length:=by rw[qX];rfl
  simp only[bq,xn,aj]at*;exact d3 0x110924038b2081ab28140a0819403803 ih this e
theorem qN (h:ts.length<=10000) {Q:PV->ah->Prop} {X:ah->Prop} (k:∀v,Tx v ts->Q v σ):WP (vy "join" (.str (aa " ")) [.list (ts.map λt=>.str (tS t))] σ) Q X:=by
 have e:Dx (.str (aa " ")) [.list (ts.map λt=>.str (tS t))]=some (St (gl 32 (ts.map bn))):=by
  show(jb (ts.map λt=>PV.str (tS t))).bind _=_;rw[strs_map];show(if _ then _ else _)=_;have h1:=Fe ts;rw[if_pos ⟨by rw[rK];decide,by rw[ar];exact bH 0x1f424006140218392081840390c4271041802 h h1⟩,rQ];exact if_pos (by show(gl 32 (ts.map bn)).toArray.size<=dm;simp[dm];exact bH 0x1f424051908185039085271041802 h (yn ts))
 exact .ok (congrArg (λo=>bJ o σ) e) (k _ ⟨_,rfl,Lx.gl ts,yn ts⟩)
theorem Cx (h:Tx v ts) (k:ts.length<=10000) (r:Fin 3) (w:Fin 9) {Q:PV->ah->Prop} {X:ah->Prop} (hQ:∀e,Tx e (ts++[.rd r,.wd w])->Q e σ) (ho:o=some (.str (wS w))):
  fb (jO .add v (.str (aa " "))) λa=>fb (jO .add a (.str (tS (.rd r)))) λb=>fb (jO .add b (.str (aa " "))) λc=>fb o λp=>fb (jO .add c p) λd=>jB σ "strip" d=true/\WP (vy "strip" d [] σ) Q X:=
 h.le k λcs e h2 h3 h4=>by
  subst e;have l1:=(dG (.rd r)).1;have l2:=(dG (.wd w)).1;have L:=h2.app ((Lx.one (.rd r)).app (Lx.one (.wd w)));refine .of (a:=St (cs++[32])) (by rw[rK];exact vo (by simp[dm];exact cy 0x1f423f518081c35041801 h4)) (.of (a:=St (cs++[32]++bn (.rd r))) (by rw[qX];exact vo (by simp[dm];exact bH 0x1f424051910822081409081c35041802 h4 l1)) (.of (a:=St (cs++[32]++bn (.rd r)++[32])) (by rw[rK];exact vo (by simp[dm];exact bH 0x1f423f51109282081409081c35041802 h4 l1))
   (.of ho (.of (a:=St (cs++[32]++bn (.rd r)++[32]++bn (.wd w))) (by rw[show wS w=tS (.wd w)from rfl,qX];exact vo (by simp[dm];exact b7 0x1f424051a101092282208140a081409081c35041803 h4 l1 l2)) ⟨rfl,?_⟩))))
  have e:cs++[32]++bn (.rd r)++[32]++bn (.wd w)=cs++32::(bn (.rd r)++32::bn (.wd w)):=by simp
  refine e.symm▸?_;have hl:(cs++32::(bn (.rd r)++32::bn (.wd w))).length<=cs.length+10:=by simp;exact bH 0x19010928208140908140802 l1 l2
  refine .ok (II (by simp[dm]at*;exact b7 0x1f4240511010a2922820819010a292081c35041802 h4 hl) L.ascii) (hQ _ ⟨_,rfl,by simpa using L.strip,ae (AU _) ?_⟩);simp only[af,aj,bc]at*;exact d3 0x110100022925031010b2a2282081a0821010b2a22820819503802 h3 hl
theorem Fa {K:PV->Prop} (h:Tx v ts) (k:ts.length<=10000) (q:∀a,Tx a (ts++[.amp])->K a):fb (jO .add v (.str (aa " &"))) K:=h.le k λcs e h2 h3 h4=>by
 subst e;refine .of (a:=St (cs++[32,38])) (by rw[Jq];exact vo (by simp[dm];exact cy 0x1f423e518081c35041801 h4)) (q _ ⟨_,rfl,?_,by simp;exact bH 0x1109250320820819503801 h3⟩);have:=h2.app (Lx.one .amp)
 rwa [show bn .amp=[38] by decide+kernel]at this
theorem tQ (s:Bool) (h:Tx v ts) (k:ts.length<=10000) {K:PV->Prop} (q:∀a,(∀u us {K:PV->Prop},Tx u us->us.length<=10000->(∀b,Tx b (ts++qe s::us)->K b)->fb (jO .add a u) K)->K a):fb (jO .add v (.str (aa (if s then " ; " else " | ")))) K:=
 h.le k λcs e h2 h3 h4=>by
  subst e;have e:aa (if s then " ; " else " | ")=⟨(32::(bn (qe s)++[32])).toArray⟩:=by induction s<;>decide+kernel
  have l1:(bn (qe s)).length=1:=by induction s<;>decide+kernel
  refine .of (a:=St (cs++32::(bn (qe s)++[32]))) (by rw[e];exact vo (by simp[dm];exact bH 0x1f424051101092282081109281c35041802 h4 l1)) (q _ λu us K h' k' q=>h'.le k' λds e q2 q3 q4=>?_);subst e;refine .of (a:=St (cs++32::(bn (qe s)++[32])++ds)) (vo (by simp[dm];exact b7 0x1f424051a1010922822081c35041a081109281c35041803 h4 l1 q4)) (q _ ⟨_,rfl,?_,by simp;exact jx 0x110c2925031010b2a2282081c503b08110a2819503803 h3 l1 q3⟩);have:=h2.app ((Lx.one (qe s)).app q2);simpa using this
theorem Al {t:T} {n:Nat} {Q:PV->ah->Prop} {X:ah->Prop} {ρ:aE} {e:ME} (h:nZ W n σ "text_of" t (body t)) (hp:nZ W n σ "piped" t (wr 2 t))
  (he:∀Q,Q (pv t) σ->iC (C W n) X ρ e Q σ) (hQ:∀v,Tx v (wr 1 t)->Q v σ):iC (C W n) X ρ (.ite (.isin e ["Back"]) (.call "text_of" [e]) (.call "piped" [e])) Q σ:=by
 induction t with
 |back c=>exact he _ (.t rfl (he _ (h hQ)))
 |run ws=>exact he _ (.f rfl (he _ (hp hQ)))
 |red c p k=>exact he _ (.f rfl (he _ (hp hQ)))
 |pair s l r=>induction s<;>exact he _ (.f rfl (he _ (hp hQ)))
theorem Fj {X:ah->Prop} {Q:PV->ah->Prop} (he:∀Q:PV->ah->Prop,Q (pv (.red c p k)) σ->iC cf X ρ e Q σ) (hQ:Q (.str (tS (.rd k))) σ):
  iC cf X ρ (.ite (.cmp .eq (.attr e "mode") (.glob "READ")) (.cstr "<") (.ite (.bin .band (.attr e "mode") (.glob "EMPTY")) (.cstr ">") (.cstr ">>"))) Q σ:=by
 rcases k with⟨_|_|_|k,hk⟩
 ·exact he _ (.of rfl (.of rfl (.t (by kernel_rfl) hQ)))
 ·exact he _ (.of rfl (.of rfl (.f rfl (he _ (.of rfl (.of rfl (.t (by kernel_rfl) hQ)))))))
 ·exact he _ (.of rfl (.of rfl (.f rfl (he _ (.of rfl (.of rfl (.f (by kernel_rfl) hQ)))))))
 ·exact absurd hk (cy 0x130101010822290)
theorem uu (t:T):∀{n:Nat} {σ:ah},2*jN t+1<=n->(body t).length<=10000->nZ W n σ "text_of" t (body t):=by
 induction t with
 |run ws=>
  intro n σ hn hl Q X k;obtain⟨n,rfl⟩:=aP (m:=1) hn;refine b6 rfl rfl (.t rfl ⟨rfl,.of rfl ?_⟩);have e:(ws.map λw=>PV.str (wS w))=(ws.map Tok.wd).map λt=>PV.str (tS t):=by rw[eB];rfl
  refine e.symm▸?_;exact qN (ts:=ws.map Tok.wd) hl k
 |red c p j ih=>
  intro n σ hn hl Q X k;obtain⟨n,rfl⟩:=aP (m:=2) (ae (c4 2 _) hn);rw[i3,af]at hl;rw[i3]at k;have hb:(body c).length<=10000:=by rw[iG]at hl;exact b7 0x12710418081271041a982201 hl
  refine b6 rfl rfl (.f rfl (.t rfl (Fj (c:=c) (λQ h=>h) (.of rfl (rW hb (ih (n:=n) (gD (b:=2) hn) hb) λv h=>Cx h (bN hl) j p k rfl)))))
 |pair s l r ih1 ih2=>
  intro n σ hn hl Q X k;obtain⟨n,rfl⟩:=aP (m:=2) (ae (c4 2 _) hn);rw[fS,af,aj]at hl;rw[fS]at k;have hb:(body l).length<=10000:=by rw[iG]at hl;exact b7 0x1271041808127104110a2982201 hl
  have hb':(body r).length<=10000:=by rw[iG,iG]at hl;exact d3 0x1271041a08127104110ba22982201 hl
  have n1:2*jN l+1<=n:=b7 0x1910a20320828a0812092101082203202 hn (cG _ _);have n2:2*jN r+1<=n:=b7 0x1910a20320828a0812092101082203202 hn (bQ _ _)
  induction s with
  |false=>
   refine b6 rfl rfl (.f rfl (.f rfl (.f rfl (.of rfl (.of (CN false) (.t rfl (.of rfl (rW hb (ih1 n1 hb) λv h=>tQ false h (bN hl) λa q=>.of rfl (rA hb' (ih2 n2 hb') λu h=>q u _ h (cZ (jc hl)) k)))))))))
  |true=>
   refine b6 rfl rfl (.f rfl (.f rfl (.f rfl (.of rfl (.of (CN true) (.f rfl (Al (t:=l) (ih1 (bP n1) hb) (rA hb (ih1 n1 hb)) (λQ h=>.of rfl h) λv h=>tQ true h (bN hl) λa q=>.of rfl (ih2 (bP n2) hb' λu h=>?_))))))));rw[<-lb]at h;exact q u _ h (cZ (jc hl)) k
 |back c ih=>
  intro n σ hn hl Q X k;obtain⟨n,rfl⟩:=aP (m:=2) (ae (c4 2 _) hn);rw[gX,af]at hl;rw[gX]at k;have hb:(body c).length<=10000:=by rw[iG]at hl;exact b7 0x12710418081271041a982201 hl
  have n1:2*jN c+1<=n:=gD (b:=2) hn;exact b6 rfl rfl (.f rfl (.f rfl (.t rfl (Al (t:=c) (ih (bP n1) hb) (rA hb (ih n1 hb)) (λQ h=>.of rfl h) λv h=>Fa h (bN hl) k))))
open PySem
noncomputable def sz:T->Nat
 |.run ws=>ws.length+1
 |.red c _ _=>sz c+2
 |.pair _ l r=>sz l+sz r+1
 |.back c=>sz c+1
theorem i9:sz (.run ws)=ws.length+1:=rfl
theorem ja:sz (.red c p k)=sz c+2:=rfl
theorem gJ:sz (.pair s l r)=sz l+sz r+1:=rfl
theorem gK:sz (.back c)=sz c+1:=rfl
theorem mf (k:Nat) (t:T):(wr k t).length<=(body t).length+2/\(body t).length<=(wr k t).length:=by
 rw[iG];split
 ·exact⟨cy 0x12082008200,cy 0x10082800⟩
 ·exact⟨cy 0x12082208200,cy 0x12082800⟩
theorem oG:∀t:T,(body t).length+2<=3*sz t
 |.run ws=>by simp only[sB,i9,ja,gJ,gK,ar];exact cy 0x11082303208200
 |.red c p k=>by
  have:=oG c;have:=mf 3 c;rw[i3,af];simp only[i9,ja,gJ,gK,aj,bc];exact b7 0x120923032010100022a220812082a0819303208202 ‹_› this.1
 |.pair s l r=>by
  have h2:=oG r;have h3:=mf (if s then 1 else 3) l;have h4:=mf (if s then 0 else 2) r;rw[fS,af,aj];simp only[i9,ja,gJ,gK];exact px 0x110b9223032010d2c2208120a2d0812082c081b30320a20819303208204 (oG l) h2 h3.1 h4.1
 |.back c=>by
  have:=oG c;have:=mf 1 c;rw[gX,af];simp only[i9,ja,gJ,gK,aj,bc];exact b7 0x110923032010002a220812082a0819303208202 ‹_› this.1
noncomputable def dU:T->List PV
 |.run ws=>.int ws.length::ws.map λw=>.str (wS w)
 |.red c p k=>.tup [.str (wS p),.int (pT k),.int (t7 k)]::dU c
 |.back c=>.str (tS .amp)::dU c
 |.pair s l r=>.str (Hy s)::(dU l++dU r)
theorem c7:dU (.run ws)=.int ws.length::ws.map λw=>.str (wS w):=rfl
theorem c8:dU (.red c p k)=.tup [.str (wS p),.int (pT k),.int (t7 k)]::dU c:=rfl
theorem cT:dU (.pair s l r)=.str (Hy s)::(dU l++dU r):=rfl
theorem cU:dU (.back c)=.str (tS .amp)::dU c:=rfl
theorem j2:∀t:T,(dU t).length<=sz t
 |.run ws=>by simp[c7,c8,cT,cU,i9,ja,gJ,gK]
 |.red c p k=>by have:=j2 c;simp only[c7,c8,cT,cU,i9,ja,gJ,gK,aj];exact bH 0x1209210820819801 this
 |.back c=>by have:=j2 c;simp only[c7,c8,cT,cU,i9,ja,gJ,gK,aj];exact bH 0x1109210820819801 this
 |.pair s l r=>by have:=j2 l;have:=j2 r;simp only[c7,c8,cT,cU,i9,ja,gJ,gK,aj,af];exact d3 0x110b92210a822081ba0819802 ‹_› this
theorem oR {a b:List PV} (h:a.length+b.length<=dm):jO .add (.list a) (.list b)=some (.list (a++b)):=by
 show gb (a++b)=_;unfold gb;rw[if_pos (by rw[af];exact h)]
theorem ni {a:List PV} (h:a.length<=dm) {σ:ah}:sE σ "len" [.list a]=some (.int a.length):=by
 show(if a.length<=dm then some (PV.int a.length)else none)=_;exact(if_pos h).symm▸rfl
theorem Ae {X:ah->Prop} (t:T):∀{n:Nat} {σ:ah} {Q:PV->ah->Prop},jN t+1<=n->sz t<=10000->Q (.list (dU t)) σ->WP (C W n "_law_flat" [pv t] σ) Q X:=by
 induction t with
 |run ws=>
  intro n σ Q hn hl k;obtain⟨n,rfl⟩:=aP (m:=1) hn;have hl:ws.length+1<=10000:=hl;have hm:(ws.map λw=>PV.str (wS w)).length=ws.length:=ar ..;refine b6 rfl rfl (.t rfl (.of rfl (.of (ni (by rw[hm];exact ae (cZ hl) (by decide))) (.of rfl (.of rfl (.of (oR (by rw[hm,m5];exact ae hl (by decide))) ?_))))));rw[hm];exact k
 |red c p j ih=>
  intro n σ Q hn hl k;obtain⟨n,rfl⟩:=aP (m:=1) (ae (c4 1 _) hn);have hl:sz c+2<=10000:=hl;exact b6 rfl rfl (.f rfl (.t rfl (.of rfl (.of rfl (.of rfl (.of rfl (.of rfl (ih (n:=n) (bY hn) (bN hl) (.of (oR (ae (hG (j2 c) 1) (cy 0x1f4240518102081271041208201 hl))) k)))))))))
 |back c ih=>
  intro n σ Q hn hl k;obtain⟨n,rfl⟩:=aP (m:=1) (ae (c4 1 _) hn);have hl:sz c+1<=10000:=hl;exact b6 rfl rfl (.f rfl (.f rfl (.t rfl (.of rfl (.of rfl (ih (n:=n) (bY hn) (bN hl) (.of (oR (ae (hG (j2 c) 1) (cy 0x1f4240518102081271041108201 hl))) k)))))))
 |pair s l r ih1 ih2=>
  intro n σ Q hn hl k;obtain⟨n,rfl⟩:=aP (m:=1) (ae (c4 1 _) hn);have hl:sz l+sz r+1<=10000:=hl;have n1:jN l+1<=n:=ae (aK (cG _ _)) (bY hn);have n2:jN r+1<=n:=ae (aK (bQ _ _)) (bY hn);have f1:=j2 l;have a1:1+(dU l).length<=dm:=b7 0x1f424051a1020818a08127104110982202 hl f1;refine b6 rfl rfl (.f rfl (.f rfl (.f rfl (.of rfl (.of rfl (.of rfl (ih1 n1 (bH 0x1271041808127104110982201 hl) (.of (oR a1) (.of rfl (ih2 n2 (bH 0x1271041908127104110982201 hl) (.of (oR ?_) k)))))))))));show(dU l).length+1+(dU r).length<=dm;exact d3 0x1f424051b10a220819b0818a08127104110982203 hl f1 (j2 r)
noncomputable def toks:List Tok:=[.lp,.rp,.semi,.bar,.amp,.rd 0,.rd 1,.rd 2,.wd 0,.wd 1,.wd 2,.wd 3,.wd 4,.wd 5,.wd 6,.wd 7,.wd 8]
theorem fi {P:Tok->Prop} (h:∀t∈toks,P t):∀t,P t
 |.lp=>h _ (by decide)
 |.rp=>h _ (by decide)
 |.semi=>h _ (by decide)
 |.bar=>h _ (by decide)
 |.amp=>h _ (by decide)
 |.rd k=>h _ (by revert k;decide)
 |.wd w=>h _ (by revert w;decide)
theorem zu:∀t:Tok,(toks.find? λu=>tS u==tS t)=some t:=fi (by decide+kernel)
theorem o9 (h:tS a=tS b):a=b:=by
 have:=zu a;replace this:=(zu b)▸(h)▸this;exact(Option.some.inj this).symm
theorem qz:∀t:Tok,(tS t).cps.all (· <0x110000)=true:=fi (by decide+kernel)
theorem yx (h:E7 p=some d) (k:d.canLay0=true) (l:d.depth<=64):dat p=some d:=by
 unfold dat;refine h.symm▸?_;exact if_pos (by unfold SeqAt.shaped;rw[k,decide_eq_true l];rfl)
theorem DV (ha:a.cps.all (· <0x110000)=true) (hb:b.cps.all (· <0x110000)=true):xw (.str a) (.str b)=some (decide (a=b)):=by
 show(if(none:Option Bool)=some false then some false else(dat (.str a)).bind λc=>(dat (.str b)).map λd=>PyData.eqv c d)=_;rw[if_neg nofun,yx (d:=.str a) rfl ha (aL _),yx (d:=.str b) rfl hb (aL _)];rfl
theorem L5 (a b:Tok):xw (.str (tS a)) (.str (tS b))=some (decide (a=b)):=by
 refine(DV (qz a) (qz b)).symm▸?_;by_cases h:a=b
 ·subst h;simp
 ·exact(decide_eq_false h).symm▸(decide_eq_false λq=>h (o9 q)).symm▸rfl
theorem pA (a b:Tok):jF .eq (.str (tS a)) (.str (tS b))=some (.bool (decide (a=b))):=by
 show(xw (.str (tS a)) (.str (tS b))).map PV.bool=_;rw[L5];rfl
inductive FI:PV->Prop
 |int (i:Int):FI (.int i)
 |tok (t:Tok):FI (.str (tS t))
 |tup (w:Fin 9) (i j:Int):FI (.tup [.str (wS w),.int i,.int j])
theorem FI.dat (h:FI v):∃d,E7 v=some d/\d.canLay0=true/\d.depth<=1:=by
 induction h with
 |int i=>exact⟨_,rfl,rfl,aL _⟩
 |tok t=>exact⟨_,rfl,qz t,aL _⟩
 |tup w i j=>exact⟨_,rfl,(xu _).trans (qz (.wd w)),au 1⟩
theorem FI.eq (ha:FI a) (hb:FI b) (h1:E7 a=some d) (h2:E7 b=some e):PyData.eqv d e=true↔a=b:=by
 induction ha with
 |int i=>
  (injection h1;subst_vars)
  induction hb with
  |int j=>(injection h2;subst_vars);exact beq_iff_eq.trans ⟨congrArg PV.int,PV.int.inj⟩
  |tok t=>(injection h2;subst_vars);exact⟨λq=>absurd (show false=true from q) nofun,nofun⟩
  |tup=>(injection h2;subst_vars);exact⟨λq=>absurd (show false=true from q) nofun,nofun⟩
 |tok t=>
  (injection h1;subst_vars)
  induction hb with
  |int j=>(injection h2;subst_vars);exact⟨λq=>absurd (show false=true from q) nofun,nofun⟩
  |tok u=>(injection h2;subst_vars);exact beq_iff_eq.trans ⟨congrArg PV.str,PV.str.inj⟩
  |tup=>(injection h2;subst_vars);exact⟨λq=>absurd (show false=true from q) nofun,nofun⟩
 |tup w i j=>
  (injection h1;subst_vars)
  induction hb with
  |int j=>(injection h2;subst_vars);exact⟨λq=>absurd (show false=true from q) nofun,nofun⟩
  |tok u=>(injection h2;subst_vars);exact⟨λq=>absurd (show false=true from q) nofun,nofun⟩
  |tup w' i' j'=>
   (injection h2;subst_vars)
   show((wS w==wS w')&&((i==i')&&((j==j')&&true)))=true↔_;simp only[xu,bO,beq_iff_eq,PV.tup.injEq,List.cons.injEq,PV.str.injEq,PV.int.injEq,and_true]
theorem o8 (h:E7 v=some d) (k:qd l=some ds):qd (v::l)=some (d::ds):=by
 show(E7 v).bind (λd=>(qd l).map (d:: ·))=_;exact h.symm▸k.symm▸rfl
theorem FI.dats (h:∀v∈l,FI v):∃ds,qd l=some ds/\PyData.canLayAll0 ds=true/\PyData.depthAll ds<=1:=by
 induction l with
 |nil=>exact⟨_,rfl,rfl,aL _⟩
 |cons v l ih=>
  refine Mine.Internal.cps λζ κ=>?_;obtain⟨d,a1,a2,a3⟩:=(h v (.head _)).dat;obtain⟨ds,b1,b2,b3⟩:=ih λv hv=>h v (.tail _ hv);refine κ ?_;exact⟨_,o8 a1 b1,d8.mpr ⟨a2,b2⟩,Nat.max_le.mpr ⟨a3,b3⟩⟩
theorem FI.eqs (ha:∀v∈a,FI v):∀{b:List PV} {ds es:List PyData},(∀v∈b,FI v)->a.length=b.length->qd a=some ds->qd b=some es->(PyData.eqvAll ds es=true↔a=b):=by
 induction a with
 |nil=>
  intro b ds es hb h h1 h2;cases b with
  |nil=>(injection h1;subst_vars);(injection h2;subst_vars);exact⟨λö=>rfl,λö=>rfl⟩
  |cons=>contradiction
 |cons x a ih=>
  intro b ds es hb h h1 h2;cases b with
  |nil=>contradiction
  |cons y b=>
   refine Mine.Internal.cps λζ κ=>?_;obtain⟨d,a1,_⟩:=(ha x (.head _)).dat;obtain⟨ds',b1,_⟩:=FI.dats λv hv=>ha v (.tail _ hv);obtain⟨e,a2,_⟩:=(hb y (.head _)).dat;obtain⟨es',b2,_⟩:=FI.dats λv hv=>hb v (.tail _ hv);replace h1:=(o8 a1 b1)▸h1;replace h2:=(o8 a2 b2)▸h2;refine κ ?_
   (injection h1;subst_vars)
   (injection h2;subst_vars)
   show(PyData.eqv d e&&PyData.eqvAll ds' es')=true↔_;rw[bO,FI.eq (ha x (.head _)) (hb y (.head _)) a1 a2,ih (λv hv=>ha v (.tail _ hv)) (λv hv=>hb v (.tail _ hv)) (Nat.succ.inj h) b1 b2,List.cons.injEq]
theorem gh:∀t:T,∀v∈dU t,FI v
 |.run ws,v,h=>by
  simp only[c7,c8,cT,cU,aH,bv]at h;rcases h with rfl|⟨w,_,rfl⟩
  ·exact .int _
  ·exact .tok (.wd w)
 |.red c p k,v,h=>by
  simp only[c7,c8,cT,cU,aH]at h;rcases h with rfl|h
  ·exact .tup ..
  ·exact gh c v h
 |.back c,v,h=>by
  simp only[c7,c8,cT,cU,aH]at h;rcases h with rfl|h
  ·exact .tok .amp
  ·exact gh c v h
 |.pair s l r,v,h=>by
  simp only[c7,c8,cT,cU,aH,cD]at h;rcases h with rfl|h|h
  ·cases s
   ·exact .tok .bar
   ·exact .tok .semi
  ·exact gh l v h
  ·exact gh r v h
theorem oy (h:qd l=some ds) (k:PyData.canLayAll0 ds=true) (m:PyData.depthAll ds<=1):dat (.list l)=some (.list ds):=
 yx (by show(qd l).map PyData.list=_;rw[h];rfl) k (ae (aK m) (by decide))
theorem JK (ha:∀v∈a,FI v) (hb:∀v∈b,FI v):∃d,xw (.list a) (.list b)=some d/\(d=true↔a=b):=by
 refine Mine.Internal.cps λζ κ=>?_;obtain⟨ds,a1,a2,a3⟩:=FI.dats ha;obtain⟨es,b1,b2,b3⟩:=FI.dats hb;refine κ ?_;by_cases h:a.length=b.length
 ·refine⟨PyData.eqvAll ds es,?_,FI.eqs ha hb h a1 b1⟩;show(if some (decide (a.length=b.length))=some false then some false else(dat (.list a)).bind λc=>(dat (.list b)).map λd=>PyData.eqv c d)=_;rw[decide_eq_true h,if_neg nofun,oy a1 a2 a3,oy b1 b2 b3];rfl
 ·refine⟨false,?_,nofun,λq=>absurd (congrArg gC q) h⟩;show(if some (decide (a.length=b.length))=some false then some false else _)=_;rw[decide_eq_false h,if_pos rfl]
theorem xH (s:Bool):Hy s=tS (qe s):=by induction s<;>rfl
theorem tK:∀{a b:List (Fin 9)} {x y:List PV},a.length=b.length->(a.map λw=>PV.str (wS w))++x=(b.map λw=>PV.str (wS w))++y->a=b/\x=y
 |[],[],_,_,_,h=>⟨rfl,h⟩
 |u::a,v::b,x,y,hl,h=>by
  simp only[bq,bC,List.cons.injEq,PV.str.injEq]at h;obtain⟨e1,e2⟩:=tK (by simpa using hl) h.2;have:=o9 (a:=.wd u) (b:=.wd v) h.1;simp only[Tok.wd.injEq]at this;exact⟨by rw[this,e1],e2⟩
 |[],_::_,_,_,h,_=>by simp at h
 |_::_,[],_,_,h,_=>by simp at h
theorem Bs:∀k j:Fin 3,pT k=pT j->k=j:=by decide+kernel
theorem mN:∀{t u:T} {x y:List PV},dU t++x=dU u++y->t=u/\x=y
 |.run a,.run b,x,y,h=>by
  simp only[c7,c8,cT,cU,bC,List.cons.injEq,PV.int.injEq]at h;obtain⟨e1,e2⟩:=tK (am (bH 0x198081968651 h.1) (bH 0x18907f968651 h.1)) h.2;exact⟨by rw[e1],e2⟩
 |.red c p k,.red d q j,x,y,h=>by
  simp only[c7,c8,cT,cU,bC,List.cons.injEq,PV.tup.injEq,PV.str.injEq,PV.int.injEq]at h;obtain⟨e1,e2⟩:=mN h.2;have:=o9 (a:=.wd p) (b:=.wd q) h.1.1;simp only[Tok.wd.injEq]at this;exact⟨by rw[e1,this,Bs k j h.1.2.1],e2⟩
 |.back c,.back d,x,y,h=>by
  simp only[c7,c8,cT,cU,bC,List.cons.injEq]at h;obtain⟨e1,e2⟩:=mN h.2;exact⟨by rw[e1],e2⟩
 |.pair s l r,.pair z m o,x,y,h=>by
  simp only[c7,c8,cT,cU,bC,List.cons.injEq,PV.str.injEq,aq,xH]at h;obtain⟨e1,e2⟩:=mN h.2;obtain⟨e3,e4⟩:=mN e2;have:=o9 h.1;have:s=z:=by induction s<;>induction z<;>first|rfl|cases this
  exact⟨by rw[e1,e3,this],e4⟩
 |.run _,.red ..,_,_,h=>nomatch (List.cons.inj h).1
 |.run _,.back _,_,_,h=>nomatch (List.cons.inj h).1
 |.run _,.pair ..,_,_,h=>nomatch (List.cons.inj h).1
 |.red ..,.run _,_,_,h=>nomatch (List.cons.inj h).1
 |.red ..,.back _,_,_,h=>nomatch (List.cons.inj h).1
 |.red ..,.pair ..,_,_,h=>nomatch (List.cons.inj h).1
 |.back _,.run _,_,_,h=>nomatch (List.cons.inj h).1
 |.back _,.red ..,_,_,h=>nomatch (List.cons.inj h).1
 |.back _,.pair s _ _,_,_,h=>by
  simp only[c7,c8,cT,cU,bC,List.cons.injEq,PV.str.injEq,xH]at h;have:=o9 h.1
  induction s<;>cases this
 |.pair ..,.run _,_,_,h=>nomatch (List.cons.inj h).1
 |.pair ..,.red ..,_,_,h=>nomatch (List.cons.inj h).1
 |.pair s _ _,.back _,_,_,h=>by
  simp only[c7,c8,cT,cU,bC,List.cons.injEq,PV.str.injEq,xH]at h;have:=o9 h.1
  induction s<;>cases this
noncomputable def kD:Option T->PV
 |none=>.none
 |some t=>.list (dU t)
theorem DW:∀a b:Option T,xw (kD a) (kD b)=some (decide (a=b))
 |none,none=>by kernel_rfl
 |none,some t=>by
  obtain⟨ds,a1,a2,a3⟩:=FI.dats (gh t);show(if(none:Option Bool)=some false then some false else(dat .none).bind λc=>(dat (.list (dU t))).map λd=>PyData.eqv c d)=_;rw[if_neg nofun,oy a1 a2 a3];rfl
 |some t,none=>by
  obtain⟨ds,a1,a2,a3⟩:=FI.dats (gh t);show(if(none:Option Bool)=some false then some false else(dat (.list (dU t))).bind λc=>(dat .none).map λd=>PyData.eqv c d)=_;rw[if_neg nofun,oy a1 a2 a3];rfl
 |some t,some u=>by
  obtain⟨d,h1,h2⟩:=JK (gh t) (gh u);simp only[kD,h1,Option.some.injEq];by_cases e:t=u
  ·subst e;simp[h2.mpr rfl]
  ·have:d=false:=by
    induction d with
    |false=>rfl
    |true=>exact absurd (mN (x:=[]) (y:=[]) (by simpa using h2.mp rfl)).1 e
   rw[this];simp[e]
open PySem
theorem nM (h:a<=b):sE σ "min" [.int a,.int b]=some (.int a):=by
 show some (PV.int (if b<a then b else a))=_;rw[if_neg (by exact iF 0x189c819831 h)]
theorem nL (h:b<=a):sE σ "min" [.int a,.int b]=some (.int b):=by
 show some (PV.int (if b<a then b else a))=_;split
 ·rfl
 ·have:a=b:=aM (iF 0x18938198c1 ‹_›) (iF 0x1983819831 h);rw[this]
noncomputable def lw (k:Nat) (t:T):Int:=((wr k t).length:Int)
noncomputable def x9 (t:T):List PV:=[.int (lw 0 t),.int (lw 1 t),.int (lw 2 t),.int (lw 3 t)]
theorem LK (k:Nat) (t:T):lw k t=(body t).length+if k<=own t then 0 else 2:=by
 unfold lw;rw[iG];split<;>simp
theorem lwz (h:b=((body t).length:Int)):PV.int (lw k t)=.int (if k<=own t then b else 2+b):=by
 rw[LK,<-h];split
 ·exact congrArg PV.int (Int.add_zero b)
 ·exact congrArg PV.int (AN b 2)
theorem zY (h:b=((body t).length:Int)):x9 t=[.int (if 0<=own t then b else 2+b),.int (if 1<=own t then b else 2+b),.int (if 2<=own t then b else 2+b),.int (if 3<=own t then b else 2+b)]:=by
 unfold x9;rw[lwz h,lwz h,lwz h,lwz h]
noncomputable abbrev Hd (W:Nat) (t:T):Prop:=∀{n:Nat} {σ:ah} {Q:PV->ah->Prop} {X:ah->Prop},jN t+1<=n->(body t).length<=990->Q (.list (x9 t)) σ->WP (C W n "_law_least" [pv t] σ) Q X
theorem wx (t:T):Hd W t:=by
 induction t with
 |run ws=>
  intro n σ Q X hn hl k;obtain⟨n,rfl⟩:=aP (m:=1) hn;have hx:(ws.map λw=>PV.str (wS w)).length=ws.length:=ar ..;have hb:(ws.length:Int)=((body (.run ws)).length:Int):=congrArg Int.ofNat (ar ..).symm;have hl:((ws.map λw=>PV.str (wS w)).length:Int)<=990:=by rw[hx,hb];exact cy 0x13de31863813de31801 hl
  rw[zY hb,<-hx]at k;have q:((ws.map λw=>PV.str (wS w)).length:Int)<=999:=m9 hl (by decide);have q':((ws.map λw=>PV.str (wS w)).length:Int)<=2+((ws.map λw=>PV.str (wS w)).length:Int):=cy 0x1862028630;exact b6 rfl rfl (.t rfl (.of rfl (.of (ni (iU.mp (m9 hl (by decide)))) (.of (nL q) (.of (nL q) (.of (nL q) (.of rfl (.of (nM q') (.of (nM (eI _)) (.of (nM (eI _)) (.of rfl k)))))))))))
 |red c p j ih=>
  intro n σ Q X hn hl k;obtain⟨n,rfl⟩:=aP (m:=1) (ae (c4 1 _) hn);rw[i3,af]at hl;have hw:lw 3 c<=988:=by unfold lw;simp only[aj,bc]at hl;exact cy 0x13dc31863813de31101000228201 hl
  have hb:2+lw 3 c=((body (.red c p j)).length:Int):=by rw[i3,af];exact AN ..
  rw[zY hb]at k;have q:2+lw 3 c<=999:=gR 0x13e73182023813dc31831 hw;have q':2+lw 3 c<=2+(2+lw 3 c):=gR 0x18202202820230;exact b6 rfl rfl (.f rfl (.t rfl (.of rfl (ih (n:=n) (bY hn) (ae (mf 3 c).2 (bN hl)) (.of rfl (.of rfl (.of (nL q) (.of (nL q) (.of (nL q) (.of rfl (.of (nM q') (.of (nM (eI _)) (.of (nM (eI _)) (.of rfl k))))))))))))))
 |back c ih=>
  intro n σ Q X hn hl k;obtain⟨n,rfl⟩:=aP (m:=1) (ae (c4 1 _) hn);rw[gX,af]at hl;have hw:lw 1 c<=989:=by unfold lw;simp only[aj,bc]at hl;exact cy 0x13dd31863813de31100028201 hl
  have hb:1+lw 1 c=((body (.back c)).length:Int):=by rw[gX,af];exact AN ..
  rw[zY hb]at k;have q:1+lw 1 c<=999:=gR 0x13e73181023813dd31831 hw;have q2:2+(1+lw 1 c)<=999:=gR 0x13e73181022023813dd31831 hw;have q':1+lw 1 c<=2+(1+lw 1 c):=gR 0x18102202810230;exact b6 rfl rfl (.f rfl (.f rfl (.t rfl (.of rfl (ih (n:=n) (bY hn) (ae (mf 1 c).2 (bN hl)) (.of rfl (.of rfl (.of (nM (by decide)) (.of (nM q) (.of (nL q) (.of rfl (.of (nL q2) (.of (nM q') (.of (nL q2) (.of rfl k)))))))))))))))
 |pair s l r ih1 ih2=>
  intro n σ Q X hn hl k;obtain⟨n,rfl⟩:=aP (m:=1) (ae (c4 1 _) hn);have n1:jN l+1<=n:=ae (aK (cG _ _)) (bY hn);have n2:jN r+1<=n:=ae (aK (bQ _ _)) (bY hn);rw[fS,af,aj]at hl;have hl1:=ae (mf _ l).2 (bN hl);have hl2:=ae (mf _ r).2 (cZ (jc hl));have hb:lw (if s then 1 else 3) l+1+lw (if s then 0 else 2) r=((body (.pair s l r)).length:Int):=by
   rw[fS,af,aj];unfold lw;exact aM (bH 0x110928269610862230) (bH 0x196108622109282630)
  rw[zY hb]at k;have hw:lw (if s then 1 else 3) l+1+lw (if s then 0 else 2) r<=990:=by unfold lw;exact bH 0x13de31961086223813de3110928201 hl
  have q:lw (if s then 1 else 3) l+1+lw (if s then 0 else 2) r<=999:=m9 hw (by decide);have q2:2+(lw (if s then 1 else 3) l+1+lw (if s then 0 else 2) r)<=999:=iF 0x13e7319108222023813de3191082231 hw;have q':lw (if s then 1 else 3) l+1+lw (if s then 0 else 2) r<=2+(lw (if s then 1 else 3) l+1+lw (if s then 0 else 2) r):=iF 0x191082220291082230
  induction s with
  |true=>exact b6 rfl rfl (.f rfl (.f rfl (.f rfl (.of rfl (ih1 n1 hl1 (.of rfl (ih2 n2 hl2 (.of rfl (.of (qA true) (.t rfl (.of rfl (.of rfl (.of rfl (.of rfl (.of (nM (by decide)) (.of (nM (by decide)) (.of (nM q) (.of rfl (.of (nL q2) (.of (nL q2) (.of (nL q2) (.of rfl k))))))))))))))))))))))
  |false=>exact b6 rfl rfl (.f rfl (.f rfl (.f rfl (.of rfl (ih1 n1 hl1 (.of rfl (ih2 n2 hl2 (.of rfl (.of (qA false) (.f rfl (.of rfl (.of rfl (.of rfl (.of rfl (.of (nM q) (.of (nL q) (.of (nL q) (.of rfl (.of (nL q2) (.of (nM q') (.of (nM q') (.of rfl k))))))))))))))))))))))
theorem ie {wc we:aE->(PV->ah->Prop)->ah->Prop} (c:PV->Bool) (f:PV->PV):∀{l:List PV} {Q:List PV->ah->Prop},
  (∀v∈l,∃b,i4 tgt v=some b/\(∀Q:PV->ah->Prop,Q (.bool (c v)) σ->wc b Q σ)/\(c v=true->∀Q:PV->ah->Prop,Q (f v) σ->we b Q σ))->Q ((l.filter c).map f) σ->IA wc we tgt l Q σ
 |[],Q,_,h=>h
 |v::l,Q,hv,h=>by
  obtain⟨b,h1,h2,h3⟩:=hv v (.head _);refine .of h1 (h2 _ ?_)
  induction hc:c v with
  |true=>
   rw[bb hc]at h;exact .t rfl (h3 hc _ (ie c f (λv hv'=>hv v (.tail _ hv')) h))
  |false=>
   rw[bB (by simp[hc])]at h;exact .f rfl (ie c f (λv hv'=>hv v (.tail _ hv')) h)
noncomputable def bV (ts:List Tok):List PV:=ts.map λt=>.str (tS t)
inductive Cut (v:PV) (ts:List Tok) (σ:ah):Prop
 |mk (ps:List (List Nat)):vy "split" v [.str (aa " ")] σ=.ok (.list (ps.map λp=>.str ⟨p.toArray⟩)) σ->jB σ "split" v=true->(∀p∈ps,∀c∈p,c<128)->ps.filter (λp=>!p.isEmpty)=ts.map bn->ps.length<=60000->Cut v ts σ
set_option tactic.hygienic true in
theorem vS:∀{cs:List Nat},(∀c∈cs,c<128)->∀p∈dw 32 cs,∀c∈p,c<128:=by
 intro cs
 induction cs with
 |nil=>intro _ p hp c hc;rw[aC.mp hp]at hc;contradiction
 |cons x cs ih=>
  intro h p hp c hc;have ih:=ih λc hc=>h c (.tail _ hc);simp only[gO,gP]at hp;split at hp
  ·rcases aH.mp hp with rfl|hp
   ·contradiction
   ·exact ih p hp c hc
  ·split at hp
   ·replace hc:=(aC.mp hp)▸hc;refine(aC.mp hc).symm▸?_;exact h _ (.head _)
   ·rename_i q qs e;rcases aH.mp hp with rfl|hp
    ·rcases aH.mp hc with rfl|hc
     ·exact h _ (.head _)
     ·exact ih q (by rw[e];exact .head _) c hc
    ·exact ih p (by rw[e];exact .tail _ hp) c hc
theorem split_le:∀cs:List Nat,(dw 32 cs).length<=cs.length+1:=by
 intro cs
 induction cs with
 |nil=>exact au _
 |cons x cs ih=>
  simp only[gO,gP];split
  ·exact aK ih
  ·split
   ·exact aK (aL _)
   ·rename_i e;rw[e]at ih;exact bP ih
theorem Ff (h:Tx v ts) (k:ts.length<=10000):Cut v ts σ:=h.le k λcs e h2 h3 h4=>by
 subst e;have:xF (St cs) [.str (aa " ")]=some (.list ((dw 32 cs).map λp=>.str ⟨p.toArray⟩)):=by
  rw[rK];exact if_pos (by show cs.toArray.size<=dm;rw[bE];exact ae h4 (by decide))
 exact⟨dw 32 cs,congrArg (λo=>bJ o σ) this,rfl,vS λc hc=>of_decide_eq_true (aJ.mp h2.ascii c hc),h2.split,ae (split_le cs) (ae (aK h4) (by decide))⟩
theorem re {W:Nat} {v:PV} {ts:List Tok} (h:Tx v ts) (k:ts.length<=10000) {n:Nat} {σ:ah} {Q:PV->ah->Prop} {X:ah->Prop} (q:Q (.list (bV ts)) σ):WP (C W (n+1) "_law_split" [v] σ) Q X:=by
 obtain⟨ps,h1,h2,h3,h4,h5⟩:=Ff h k (σ:=σ);have hd:∀p∈ps,(⟨p.toArray⟩:Str).cps.all (· <0x110000)=true:=λp hp=>by
  simp only[List.all_toArray,aJ,decide_eq_true_eq];exact λc hc=>gM (h3 p hp c hc) (by decide)
 have e:((ps.map λp=>PV.str ⟨p.toArray⟩).filter (λv=>match v with|.str s=>!decide (s=aa "")|_=>true)).map id=bV ts:=by
  rw[n6,jK];have:(λp:List Nat=>!p.isEmpty)=((λv=>match v with|.str s=>!decide (s=aa "")|_=>true)∘λp:List Nat=>PV.str ⟨p.toArray⟩):=by
   funext p
   induction p with
   |nil=>rfl
   |cons c p=>
    show true=!decide ((⟨(c::p).toArray⟩:Str)=aa "");rw[decide_eq_false]
    ·rfl
    ·intro q;have:=congrArg (λs:Str=>s.cps.toList) q;contradiction
  refine this▸h4.symm▸(eB).symm▸?_;refine oZ λt ö=>?_;show PV.str ⟨(bn t).toArray⟩=_;rw[qX]
 refine b6 rfl rfl ⟨h2,.ok h1 (.of rfl (ie (λv=>match v with|.str s=>!decide (s=aa "")|_=>true) id ?_ ?_))⟩
 ·intro v hv;obtain⟨p,hp,rfl⟩:=bv.mp hv;refine⟨_,rfl,λQ hQ=>.of (a:=.bool (!decide ((⟨p.toArray⟩:Str)=aa ""))) ?_ hQ,λö Q hQ=>hQ⟩;show(xw (.str ⟨p.toArray⟩) (.str (aa ""))).map (λb=>PV.bool !b)=_;rw[DV (hd p hp) (by decide+kernel)];rfl
 ·refine e.symm▸?_;exact⟨by rw[ar];exact ae h5 (by decide),.of (if_pos (by rw[bV,ar];exact ae k (by decide))) q⟩
open PySem
noncomputable def xk (n:Nat) (c:cS):Prop:=∀k,n<=k->∀p,cS.subst k p c=c
theorem xk.mono {m n:Nat} {c:cS} (h:xk m c) (k:m<=n):xk n c:=λi hi=>h i (ae k hi)
noncomputable def kP (σ:ah):Prop:=∀c∈σ,xk σ.length c
structure Kp (σ aF:ah):Prop where
 len:σ.length<=aF.length
 old:∀k,k<σ.length->aF[k]?=σ[k]?
 cls:kP σ->kP aF
theorem Kp.trans {a b c:ah} (h:Kp a b) (k:Kp b c):Kp a c:=⟨ae h.len k.len,λi hi=>(k.old i (aO hi h.len)).trans (h.old i hi),λq=>k.cls (h.cls q)⟩
theorem kP.app {σ τ:ah} (h:kP σ) (k:∀c∈τ,xk (σ++τ).length c):kP (σ++τ):=λc hc=>(cD.mp hc).elim (λq=>(h c q).mono (by simp)) (k c)
theorem Kp.app (σ:ah) {τ:ah} (h:∀c∈τ,xk (σ++τ).length c):Kp σ (σ++τ):=⟨by simp,λk hk=>aR hk,λq=>q.app h⟩
theorem iM {σ:ah} {c:cS} {τ:ah}:(σ++c::τ)[σ.length]?=some c:=by simp
theorem lk:(σ++c::τ).set σ.length d=σ++d::τ:=by simp
theorem listE {σ:ah} {k:Nat} {l:List PV} (h:σ[k]?=some (.list l)):listAt σ k=some l:=by unfold listAt;rw[h];rfl
theorem AE (h:σ[k]?=some (.obj c ns vs)):j6 σ (.loc k) x=JH c ns vs x:=by
 show(σ[k]?).bind _=_;exact h.symm▸rfl
theorem ux (h:σ[k]?=some (.obj c ns vs)) (hx:x∈fieldsOf c/\ns.length<=100) (e:setField ns vs x v=(ns',vs')):dC σ (.loc k) x v=some (σ.set k (.obj c ns' vs')):=by
 show((σ[k]?).bind (cS.put? x v)).map _=_;refine h.symm▸?_;show(if _ then some (cS.obj c (setField ns vs x v).1 (setField ns vs x v).2)else none).map _=_;exact(if_pos hx).symm▸e.symm▸rfl
theorem Hw {α:Type} {f:ah->Option (α×ah)} {σ aF:ah} {a:α} (h:f σ=some (a,aF)):q0 f σ=.ok a aF:=by unfold q0;rw[h]
theorem oQ {σ:ah} {k:Nat} {l:List PV} {x:PV} (h:σ[k]?=some (.list l)) (hl:l.length<dm):vy "append" (.loc k) [x] σ=.ok .none (σ.set k (.list (l++[x]))):=by
 show vm (.loc k) [x] σ=_;refine Hw ?_;show(listAt σ k).bind _=_;exact(listE h).symm▸if_pos hl
theorem Ll {σ:ah} {k:Nat} {l:List PV} {x:PV} (h:σ[k]?=some (.list (l++[x]))) (hl:(l++[x]).length<=dm):vy "pop" (.loc k) [] σ=.ok x (σ.set k (.list l)):=by
 show I6 (.loc k) [] σ=_;refine Hw ?_;show(listAt σ k).bind _=_;rw[listE h];refine(if_pos ⟨rfl,hl⟩).trans ?_;simp
theorem rj (h:σ[k]?=some (.list l)):jB σ "append" (.loc k)=true/\jB σ "pop" (.loc k)=true:=
 ⟨congrArg Im (listE h),congrArg Im (listE h)⟩
theorem rJ:sE σ "max" [.int a,.int b]=some (.int (max a b)):=by
 show some (PV.int (if b>a then b else a))=_;have:(if b>a then b else a)=max a b:=by
  split
  ·rename_i h;exact(jl (ke h)).symm
  ·rename_i h;exact(KE (m7.mp h)).symm
 exact this.symm▸rfl
noncomputable def o4:Tok->Nat
 |.lp=>0|.rp=>1|.semi=>2|.bar=>3|.amp=>4|.rd _=>5|.wd _=>6
theorem su (a b:Tok) (hb:Nat.ble (o4 b) 4=true):jF .eq (.str (tS a)) (.str (tS b))=some (.bool (gu (o4 a) (o4 b))):=by
 rw[pA]
 congr 2
 induction a<;>induction b<;>first|rfl|cases hb|simp[o4]
noncomputable def tf:Tok->Bool
 |.rd _=>true
 |_=>false
theorem LC (t:Tok):jF .isin (.str (tS t)) (.tup [.str (aa "<"),.str (aa ">"),.str (aa ">>")])=some (.bool (tf t)):=by
 have:∀t:Tok,uP (.str (tS t)) (.tup [.str (aa "<"),.str (aa ">"),.str (aa ">>")])=some (tf t):=fi (by decide+kernel);show(uP (.str (tS t)) (.tup [.str (aa "<"),.str (aa ">"),.str (aa ">>")])).map PV.bool=_;rw[this];rfl
noncomputable def nA (h:List (Int×Int)):List PV:=h.reverse.map λp=>.tup [.int p.1,.int p.2]
theorem DC (h:List (Int×Int)) {n:Nat}:∀c∈[cS.list (nA h)],xk n c:=by
 intro c hc k _ p;simp only[aC]at hc;subst hc;have:∀l:List (Int×Int),PV.substs k p (l.map λp=>.tup [.int p.1,.int p.2])=l.map λp=>.tup [.int p.1,.int p.2]:=by
  intro l
  induction l with
  |nil=>rfl
  |cons a l ih=>simp only[bq,dh,di,cn,bU,cj,cq,cm,cr,ih]
 simp only[cS.subst,nA,this]
noncomputable def JN (k:Nat) (s:DS):aE:=[("first",.int s.first),("level",.int s.level),("more",.int s.more),("most",.int s.most),("held",.loc k)]
inductive Kj (σ:ah) (h:Int) (s:DS) (l:List PV) (aF:ah):Prop
 |mk (ts:List Tok):l=bV ts->(lV ts s).map (·.most)=some h->aF=σ++[.list (nA s.held)]->s.held.length+ts.length<=10000->Kj σ h s l aF
noncomputable def depL (σ:ah) (h:Int):Fo DS:=⟨JN σ.length,Kj σ h⟩
theorem Cu (h:gu (o4 t) (o4 .lp)=true):t=.lp:=by induction t<;>first|rfl|cases h
theorem Ct (h:gu (o4 t) (o4 .rp)=true):t=.rp:=by induction t<;>first|rfl|cases h
theorem Cs (h:gu (o4 t) (o4 .semi)=true):t=.semi:=by induction t<;>first|rfl|cases h
theorem E8 (h:gu (o4 t) (o4 .bar)=true):t=.bar:=by induction t<;>first|rfl|cases h
theorem E9 (h:gu (o4 t) (o4 .amp)=true):t=.amp:=by induction t<;>first|rfl|cases h
theorem kM (hs:(lV ts (ce s f l m s.held)).map (·.most)=some h) (hn:s.held.length+(ts.length+1)<=10000):Kj σ h (ce s f l m s.held) (bV ts) (σ++[.list (nA s.held)]):=
 ⟨ts,rfl,hs,rfl,cZ hn⟩
theorem nU {W n:Nat} {σ:ah} {ts:List Tok} {h:Int} {Q:PV->ah->Prop} {X:ah->Prop} (hd:wM ts=some h) (hl:ts.length<=10000) (k:∀aF,Kp σ aF->Q (.int h) aF):WP (C W (n+1) "_law_deepest" [.list (bV ts)] σ) Q X:=by
 refine b6 rfl rfl ⟨by decide,.of rfl (.mk (depL σ h) ⟨⟨2,2,0,2,[]⟩,⟨rfl,rfl,rfl,rfl,rfl,trivial⟩,ts,rfl,hd,rfl,(aV _).symm▸hl⟩ ?_ ?_)⟩
 ·rintro s v l aF ⟨ts,e,hs,rfl,hn⟩ N B hN _;cases ts with
  |nil=>contradiction
  |cons t ts=>
   (injection e;subst_vars)
   have hn:s.held.length+(ts.length+1)<=10000:=hn;have hc:(nA s.held).length<dm:=by unfold nA;rw[ar,cz];exact bf (bN hn) (by decide)
   refine .of rfl (.of (su _ .lp rfl) (.dec (λq=>?_) λö=>.of (su _ .rp rfl) (.dec (λq=>?_) λö=>.of (su _ .semi rfl) (.dec (λq=>?_) λö=>.of (su _ .bar rfl) (.dec (λq=>?_) λö=>.of (su _ .amp rfl) (.dec (λq=>?_) λq=>?_))))))
   ·cases Cu q
    refine⟨(rj iM).1,.ok (oQ iM hc) ?_⟩;refine lk.symm▸?_;refine .of rfl (.of rfl (.of rfl (.of rJ (hN _ _ ⟨ce s (s.level+2) (s.level+2) 0 ((s.first,s.level)::s.held),⟨rfl,rfl,rfl,rfl,rfl,trivial⟩,ts,rfl,hs,?_,by show s.held.length+1+ts.length<=10000;exact bH 0x127104191082208127104110928201 ‹_›⟩))));simp[nA,ce]
   ·cases Ct q
    cases hh:s.held with
    |nil=>simp only[gS,gU,iY,hh]at hs;contradiction
    |cons p H=>
     obtain⟨f,l⟩:=p;simp only[gS,gU,iY,hh]at hs;have e:nA ((f,l)::H)=nA H++[.tup [.int f,.int l]]:=by simp[nA]
     replace hc:=(e)▸(hh)▸hc;replace hn:=(hh)▸hn;refine⟨(rj iM).2,.ok (Ll (by rw[iM,e]) (cu hc)) ?_⟩;refine lk.symm▸?_;exact .of rfl (.of rJ (hN _ _ ⟨ce s f l 0 H,⟨rfl,rfl,rfl,rfl,rfl,trivial⟩,ts,rfl,hs,rfl,by show H.length+ts.length<=10000;simp only[aj]at hn;exact bH 0x127104198208127104110921082201 hn⟩))
   ·cases Cs q
    exact .of rfl (.of rfl (.of rfl (.of rJ (hN _ _ ⟨ce s (s.first+1) (s.first+1) 0 s.held,⟨rfl,rfl,rfl,rfl,rfl,trivial⟩,kM hs hn⟩))))
   ·cases E8 q
    exact .of rfl (.of rfl (.of rJ (hN _ _ ⟨ce s s.first (s.level+1) 0 s.held,⟨rfl,rfl,rfl,rfl,rfl,trivial⟩,kM hs hn⟩)))
   ·cases E9 q
    refine .of rfl (.of rfl (.dec' (λq=>?_) λq=>?_))
    ·refine .of rfl (.of rfl (.of rJ (hN _ _ ⟨ce s s.first (s.first-1) (1+s.more) s.held,⟨rfl,rfl,rfl,rfl,rfl,trivial⟩,kM ?_ hn⟩)));simp only[gS,gU,iY,if_pos q]at hs;exact hs
    ·refine .of rfl (.of rfl (.of rJ (hN _ _ ⟨ce s s.first (s.first-1) (1+0) s.held,⟨rfl,rfl,rfl,rfl,rfl,trivial⟩,kM ?_ hn⟩)));simp only[gS,gU,iY,if_neg q]at hs;exact hs
   ·refine .of (LC _) ?_;cases t with
    |rd k=>exact .t rfl (.of rfl (.of rfl (.of rJ (hN _ _ ⟨ce s s.first s.level (s.more+1) s.held,⟨rfl,rfl,rfl,rfl,rfl,trivial⟩,kM hs hn⟩))))
    |wd k=>exact .f rfl (.of rfl (.of rJ (hN _ _ ⟨ce s s.first s.level s.more s.held,⟨rfl,rfl,rfl,rfl,rfl,trivial⟩,kM hs hn⟩)))
    |amp=>contradiction
    |lp=>cases‹gu (o4 .lp) (o4 .lp)=false›
    |rp=>cases‹gu (o4 .rp) (o4 .rp)=false›
    |semi=>cases‹gu (o4 .semi) (o4 .semi)=false›
    |bar=>cases‹gu (o4 .bar) (o4 .bar)=false›
 ·rintro s aF ⟨ts,e,hs,rfl,hn⟩;cases ts with
  |nil=>(injection hs;subst_vars);exact k _ (Kp.app σ (DC _))
  |cons t ts=>contradiction
noncomputable def lU (i:Nat):PV:=.int i
noncomputable def jh (p:Nat×Nat):PV:=.tup [.int p.1,.int p.2]
noncomputable def nD (ts:List Tok) (i:Nat):List PV:=(ts.zipIdx i).map λp=>.tup [.int (p.2:Int),.str (tS p.1)]
theorem sf (ts:List Tok):lF (bV ts)=nD ts 0:=by
 unfold lF bV nD;refine(List.zipIdx_map).symm▸(eB).symm▸?_;rfl
theorem yu (t:Tok) (ts:List Tok) (i:Nat):nD (t::ts) i=.tup [.int (i:Int),.str (tS t)]::nD ts (i+1):=by
 simp[nD,Hp]
theorem oP:(σ++[c,d])[σ.length+1]?=some d:=by simp
theorem vY:(σ++[c,d]).set (σ.length+1) e=σ++[c,e]:=by simp
theorem mn (k:Nat) (p:PV):∀l:List Nat,PV.substs k p (l.map lU)=l.map lU
 |[]=>rfl
 |a::l=>by
  show PV.subst k p (.int a)::PV.substs k p (l.map lU)=_;rw[mn k p l];simp only[cn,bU,cj,cq,cm,cr];rfl
theorem Aw (h:∀c∈σ,xk k c) (p:PV):σ.map (cS.subst k p)=σ:=by
 induction σ with
 |nil=>rfl
 |cons c σ ih=>rw[bq,h c (.head _) k (au _),ih λd hd=>h d (.tail _ hd)]
inductive PrI (σ:ah) (m:Nat) (s:List (Nat×Nat)×List Nat) (l:List PV) (aF:ah):Prop
 |mk (us:List Tok) (i:Nat):l=nD us i->aF=σ++[.list (s.1.map jh),.list (s.2.reverse.map lU)]->(∀p∈s.1,p.1<p.2/\p.2<m)->(∀h∈s.2,h<i)->i+us.length=m->(∀a b,us=a++b->0<=s.2.length+ht a)->s.1.length<=i->s.2.length<=i->PrI σ m s l aF
noncomputable def prL (σ:ah) (m:Nat):Fo (List (Nat×Nat)×List Nat):=⟨λö=>[("found",.loc σ.length),("held",.loc (σ.length+1))],PrI σ m⟩
theorem C3 {W n:Nat} {σ:ah} {ts:List Tok} {Q:PV->ah->Prop} {X:ah->Prop} (hc:kP σ) (hb:qp ts) (hl:ts.length<=10000)
  (k:∀(F:List (Nat×Nat)) aF,Kp σ aF->(∀p∈F,p.1<p.2/\p.2<ts.length)->F.length<=ts.length->Q (.list (F.map jh)) aF):WP (C W (n+1) "_law_pairs" [.list (bV ts)] σ) Q X:=by
 refine b6 rfl rfl ⟨by decide,by decide,?_⟩;rw[aq,show(σ++[cS.list []]).length=σ.length+1 by simp];refine .of (congrArg some (sf ts)) (.mk (prL σ ts.length) ⟨([],[]),⟨rfl,rfl,trivial⟩,ts,0,rfl,rfl,nofun,nofun,aV _,λa b e=>(Int.zero_add _).symm▸hb.2 a b e,au _,au _⟩ ?_ ?_)
 ·rintro⟨F,H⟩ v l aF ⟨us,i,e,rfl,h1,h2,h3,h4,h5,h6⟩ N B hN _;cases us with
  |nil=>contradiction
  |cons t us=>
   rw[yu]at e
   (injection e;subst_vars)
   have h3:i+(us.length+1)=ts.length:=h3;have h3':i+1+us.length=ts.length:=am (b7 0x1a910822081a10928221 h3) (b7 0x1910822a07fa10928221 h3);have hi:i<10000:=b7 0x12710419181810a292281271041802 hl h3;have h2':∀h∈H,h<i+1:=λh hh=>gq (h2 h hh);have cF:(F.map jh).length<dm:=by rw[ar];exact bf h5 (gM hi (by decide))
   have cH:(H.reverse.map lU).length<dm:=by rw[ar,cz];exact bf h6 (gM hi (by decide))
   refine .of rfl (.of (su _ .lp rfl) (.dec (λq=>?_) λq=>.of (su _ .rp rfl) (.dec (λq'=>?_) λq'=>?_)))
   ·cases Cu q
    refine⟨(rj oP).1,.ok (oQ oP cH) (hN _ _ ⟨(F,i::H),⟨rfl,rfl,trivial⟩,us,i+1,rfl,?_,h1,λh hh=>?_,h3',λa b e=>?_,bP h5,aK h6⟩)⟩
    ·rw[vY];simp[lU]
    ·rcases aH.mp hh with rfl|hh
     ·exact b8 _
     ·exact h2' h hh
    ·have:=h4 (.lp::a) b (by rw[e];rfl);simp only[yh,yi,yg,yj,yf,aj]at this⊢;exact n9 0x181082620038181028620031 this
   ·cases Ct q'
    have pos:=h4 [.rp] us rfl;cases H with
    |nil=>simp[yh,yi,yg,yj,yf]at pos
    |cons j H=>
     have ej:(j::H).reverse.map lU=(H.reverse.map lU)++[.int (j:Int)]:=by simp[lU]
     refine⟨(rj iM).1,(rj oP).2,.ok (Ll (by rw[oP];exact congrArg (λl=>some (cS.list l)) ej) (by rw[<-ej];exact cu cH)) ?_⟩;refine vY.symm▸?_;refine .ok (oQ iM cF) (hN _ _ ⟨(F++[(j,i)],H),⟨rfl,rfl,trivial⟩,us,i+1,rfl,?_,λp hp=>?_,λh hh=>h2' h (.tail _ hh),h3',λa b e=>?_,?_,bP (cZ h6)⟩)
     ·rw[lk];simp[jh]
     ·rcases cD.mp hp with hp|hp
      ·exact h1 p hp
      ·refine(aC.mp hp).symm▸?_;exact⟨h2 j (.head _),by show i<ts.length;exact b7 0x1a8181a91082221 h3'⟩
     ·have:=h4 (.rp::a) b (by rw[e];rfl);simp only[yh,yi,yg,yj,yf,aj]at this⊢;exact n9 0x188620038110841082620031 this
     ·exact(af).symm▸aK h5
   ·refine hN _ _ ⟨(F,H),⟨rfl,rfl,trivial⟩,us,i+1,rfl,rfl,h1,h2',h3',λa b e=>?_,bP h5,bP h6⟩;have:=h4 (t::a) b (by rw[e];rfl);cases t with
    |lp=>contradiction
    |rp=>contradiction
    |_=>exact this
 ·rintro⟨F,H⟩ aF ⟨us,i,e,rfl,h1,h2,h3,h4,h5,h6⟩;refine⟨σ.length,.list (F.map jh),rfl,by rw[iM];rfl,?_⟩;have es:((σ++[cS.list (F.map jh),.list (H.reverse.map lU)]).set σ.length .dead).map (cS.subst σ.length (.list (F.map jh)))=σ++[.dead,.list (H.reverse.map lU)]:=by
   rw[lk,ca,Aw hc];simp only[bq,qt,cS.subst,mn]
  show Q (if σ.length=σ.length then _ else _) _;refine(if_pos rfl).symm▸?_;show Q _ (((σ++[cS.list (F.map jh),.list (H.reverse.map lU)]).set σ.length .dead).map (cS.subst σ.length (.list (F.map jh))));refine es.symm▸?_;refine k F _ (Kp.app σ λc hc k ö p=>?_) h1 (h3▸ae h5 (bG ..));simp only[aH,l6,or_false]at hc;rcases hc with rfl|rfl
  ·rfl
  ·simp only[cS.subst,mn]
open PySem
theorem wN (ts:List Tok) (h:ts.length<=10000) (x:Str) {Q:PV->ah->Prop} {X:ah->Prop} (k:∀c:Nat,c<=ts.length->Q (.int c) σ):WP (vy "count" (.list (bV ts)) [.str x] σ) Q X:=by
 have:yy (.list (bV ts)) [.str x]=some (.int ((ts.map tS).filter (· ==x)).length):=by
  show(jb (bV ts)).bind _=_;rw[bV,strs_map];exact if_pos (by rw[ar];exact ae h (by decide))
 exact .ok (congrArg (λo=>bJ o σ) this) (k _ (ae (eR ..) (bZ (ar ..))))
theorem cQ (ts:List Tok):(bV ts).length=ts.length:=ar ..
theorem F2 {a b:Int} (h:b.natAbs<2^32):jO .mul (.int a) (.int b)=some (.int (a*b)):=if_pos h
theorem mV {W n:Nat} {σ:ah} {ts:List Tok} {Q:PV->ah->Prop} {X:ah->Prop} (hl:ts.length<=10000) (k:∀w:Int,Q (.int w) σ):WP (C W (n+1) "_law_weight" [.list (bV ts)] σ) Q X:=
 b6 rfl rfl (.of (ni (by rw[cQ];exact ae hl (by decide))) ⟨rfl,wN ts hl _ λc1 h2=>⟨rfl,wN ts hl _ λc2 h4=>.of rfl (.of (F2 (F0 (bH 0x19686210000000091540) (b7 0x110000000091a69624818a08189082271041803 hl h2 h4))) (.of rfl (k _)))⟩⟩)
noncomputable def o7 (ts:List Tok):List PV:=(mX ((ts.filter np).map tS)).map .str
theorem vI (ts:List Tok):∀v∈o7 ts,FI v:=λv h=>by
 obtain⟨s,hs,rfl⟩:=bv.mp h;obtain⟨t,_,rfl⟩:=bv.mp ((oX ..).mem_iff.mp hs);exact .tok t
theorem LD (t:Tok):jF .notin (.str (tS t)) (.tup [.str (aa "("),.str (aa ")")])=some (.bool (np t)):=by
 have:∀t:Tok,uP (.str (tS t)) (.tup [.str (aa "("),.str (aa ")")])=some (!np t):=fi (by decide+kernel);show(uP (.str (tS t)) (.tup [.str (aa "("),.str (aa ")")])).map (λb=>PV.bool !b)=_;rw[this];simp
noncomputable def npV:PV->Bool
 |.str s=>decide (s≠aa "("/\s≠aa ")")
 |_=>false
theorem zQ:∀t:Tok,npV (.str (tS t))=np t:=fi (by decide+kernel)
theorem vH {W n:Nat} {σ:ah} {ts:List Tok} {Q:PV->ah->Prop} {X:ah->Prop} (hl:ts.length<=10000) (hw:(ts.filter np).length<=120) (k:Q (.list (o7 ts)) σ):WP (C W (n+1) "_law_words" [.list (bV ts)] σ) Q X:=by
 have e:((bV ts).filter npV).map id=bV (ts.filter np):=by
  rw[n6,bV,jK];have:npV∘(λt=>PV.str (tS t))=np:=funext zQ;exact this.symm▸rfl
 refine b6 rfl rfl (.of rfl (ie npV id ?_ ?_))
 ·intro v hv;obtain⟨t,ht,rfl⟩:=bv.mp hv;refine⟨_,rfl,λQ hQ=>?_,λö Q hQ=>hQ⟩;rw[zQ]at hQ;exact .of (LD t) hQ
 ·refine e.symm▸?_;refine⟨by rw[cQ];exact ae hl (by decide),.of (if_pos (by rw[cQ];exact ae hw (by decide))) (.of (a:=.list (o7 ts)) ?_ k)⟩;show(jb (bV (ts.filter np))).bind _=_;rw[bV,strs_map];exact if_pos (by rw[ar];exact hw)
open PySem
noncomputable def iE (line:List Nat) (p d:Int):cS:=.obj "Scanner" ["line","place","deep"] [St line,.int p,.int d]
theorem tW (line:List Nat) (p d:Int) (n:Nat):xk n (iE line p d):=λk ö q=>by simp only[cS.subst,iE,dh,di,cn,bU,cj,cq,cm,cr]
structure Go (k:Nat) (σ aF:ah):Prop where
 len:σ.length<=aF.length
 old:∀j,j<σ.length->j≠k->aF[j]?=σ[j]?
 new:∀(j:Nat) (c:cS),aF[j]?=some c->(∀n,xk n c)\/σ[j]?=some c
theorem Go.refl (k:Nat) (σ:ah):Go k σ σ:=⟨au _,λö ö ö=>rfl,λö ö h=>.inr h⟩
theorem Go.trans {k:Nat} {a b c:ah} (h:Go k a b) (g:Go k b c):Go k a c:=⟨ae h.len g.len,λi hi hk=>(g.old i (aO hi h.len) hk).trans (h.old i hi hk),λj c q=>(g.new j c q).elim .inl (h.new j c)⟩
theorem Go.set {k:Nat} {σ:ah} {line:List Nat} {p d:Int}:Go k σ (σ.set k (iE line p d)):=by
 refine⟨by simp,λj hj hk=>by rw[bw (Ne.symm hk)],λj c h=>?_⟩;by_cases q:k=j
 ·subst q;replace h:=(List.getElem?_set)▸h;simp only[if_true]at h;split at h
  ·(injection h;subst_vars)
   exact .inl (tW _ _ _)
  ·contradiction
 ·replace h:=(bw q)▸h;exact .inr h
theorem Go.app {k:Nat} {σ τ:ah} (h:∀c∈τ,∀n,xk n c):Go k σ (σ++τ):=⟨by simp,λj hj ö=>aR hj,λj c q=>by
 by_cases hj:j<σ.length
 ·rw[aR hj]at q;exact .inr q
 ·rw[cI (by exact bH 0x1890819891 hj)]at q;exact .inl (h c (ci q))⟩
structure Gx (k:Nat) (σ aF:ah):Prop where
 len:σ.length<=aF.length
 old:∀j,j<σ.length->j≠k->aF[j]?=σ[j]?
 cls:kP σ->kP aF
theorem Go.gx {k:Nat} {σ aF:ah} (h:Go k σ aF):Gx k σ aF:=⟨h.len,h.old,λq c hc=>by
 obtain⟨j,hj⟩:=dS.mp hc;rcases h.new j c hj with e|e
 ·exact e _
 ·exact(q c (ci e)).mono h.len⟩
theorem Gx.trans {k:Nat} {a b c:ah} (h:Gx k a b) (g:Gx k b c):Gx k a c:=⟨ae h.len g.len,λi hi hk=>(g.old i (aO hi h.len) hk).trans (h.old i hi hk),λq=>g.cls (h.cls q)⟩
section
variable {σ:ah} {k:Nat} {line:List Nat} {p d:Int}
theorem ed (h:σ[k]?=some (iE line p d)):j6 σ (.loc k) "line"=some (St line):=AE h
theorem cJ (h:σ[k]?=some (iE line p d)):j6 σ (.loc k) "place"=some (.int p):=AE h
theorem vj (h:σ[k]?=some (iE line p d)):j6 σ (.loc k) "deep"=some (.int d):=AE h
theorem kz (h:σ[k]?=some (iE line p d)) (q:Int):dC σ (.loc k) "place" (.int q)=some (σ.set k (iE line q d)):=ux h (by decide) rfl
theorem zx (h:σ[k]?=some (iE line p d)) (q:Int):dC σ (.loc k) "deep" (.int q)=some (σ.set k (iE line p q)):=ux h (by decide) rfl
theorem fk {c c':cS} (h:σ[k]?=some c):(σ.set k c')[k]?=some c':=by
 have:k<σ.length:=(ao.mp h).1;exact(bX this).symm▸rfl
theorem kJ (h:line.length<=60000) {σ:ah}:sE σ "len" [St line]=some (.int line.length):=by
 show(if(⟨line.toArray⟩:Str).length<=dm then some (PV.int ((⟨line.toArray⟩:Str).length:Int))else none)=_;have e:(⟨line.toArray⟩:Str).length=line.length:=by show line.toArray.size=_;simp
 rw[e,if_pos (by simp only[dm];exact cy 0x1f4240518081ea6041801 h)]
theorem gg {i c:Nat} (h:line.length<=60000) (hc:line[i]?=some c) {σ:ah}:nR σ (St line) (.int i)=some (.str ⟨#[c]⟩):=by
 have hi:=(ao.mp hc).1;have e:jf line.toArray.size (i:Int)=some i:=by
  unfold jf;rw[if_pos (by omega),if_pos (by exact cy 0x1860030),if_pos (by simp;exact bH 0x1981819811 hi)];simp
 show(jf line.toArray.size (i:Int)).bind (λk=>(line.toArray[k]?).map λc=>PV.str ⟨#[c]⟩)=_;refine e.symm▸?_;simp[hc]
end
noncomputable def vz (S:String) (c:Nat):Bool:=(aa S).cps.toList.contains c
theorem Jk (c:Nat) (S:String):jF .isin (.str ⟨#[c]⟩) (.str (aa S))=some (.bool (vz S c)):=rfl
theorem Dg (c:Nat) (S:String):jF .notin (.str ⟨#[c]⟩) (.str (aa S))=some (.bool !(vz S c)):=rfl
theorem yJ:∀t:Tok,(bn t).all (λc=>!vz " \t\r\n\x0b" c)=true:=fi (by decide+kernel)
theorem BO:vz " \t\r\n\x0b" 32=true:=by decide+kernel
inductive TiC (cs:List Nat) (t:Tok) (ts:List Tok):Prop
 |mk (r:List Nat):cs=bn t++r->Lx r ts->(r=[]\/∃z,r=32::z)->TiC cs t ts
noncomputable def Ti (cs:List Nat):List Tok->Prop
 |[]=>cs=[]
 |t::ts=>TiC cs t ts
theorem Ti.lx {cs:List Nat} {ts:List Tok} (h:Ti cs ts):Lx cs ts:=by
 induction ts with
 |nil=>rw[show cs=[]from h];exact .nil
 |cons t ts=>
  obtain⟨r,rfl,h1,h2⟩:=h;exact .tok t h1 h2
theorem Lx.cases' {cs:List Nat} {ts:List Tok} (h:Lx cs ts):(∃r,cs=32::r/\Lx r ts)\/Ti cs ts:=by
 induction h with
 |nil=>exact .inr rfl
 |sp h=>exact .inl ⟨_,rfl,h⟩
 |tok t h k=>exact .inr ⟨_,rfl,h,k⟩
noncomputable def Bw:List Tok->Bool
 |.wd _::_=>true
 |_=>false
noncomputable def sZ (b:Tok->Bool):List Tok->Bool
 |t::_=>b t
 |[]=>false
inductive At (k:Nat) (line:List Nat) (σ:ah) (d:Int) (P:List Nat->Prop):Prop
 |mk (p:Nat):σ[k]?=some (iE line p d)->p<=line.length->P (line.drop p)->At k line σ d P
variable {W n:Nat} {σ:ah} {k:Nat} {line:List Nat} {d:Int} {ts:List Tok}
theorem gn {p c:Nat} {r:List Nat} (h:line.drop p=c::r):line[p]?=some c/\p<line.length/\line.drop (p+1)=r:=by
 have h1:p<line.length:=by
  have:=congrArg gC h;rw[cV,aj]at this;exact(aN (line.length) (p)).elim (λw0=>d3 0xba18100827f1092822 this (br w0)) (λw0=>d3 0x1ba181ba8227f1092822 this (ac w0))
 rw[eX h1]at h;simp only[List.cons.injEq]at h;exact⟨by rw[b5 h1,h.1],h1,h.2⟩
theorem yG (t:Tok):∃c u,bn t=c::u:=by
 induction hx:bn t with
 |nil=>exact absurd hx (dG t).2.1
 |cons c u=>exact⟨c,u,rfl⟩
theorem mQ {p:Nat} (hp:p<=line.length) (h:line.drop p=[]):p=line.length:=by
 have:=congrArg gC h;rw[cV]at this;simp at this;exact am (bH 0x1980819801 hp) (b7 0x19a07fa98228100822 this (ac (n:=line.length) (m:=p) (bH 0x1980819801 hp)))
theorem Ti.head {t:Tok} {p:Nat} {C:Prop} (h:Ti (line.drop p) (t::ts)) (f:∀c u,bn t=c::u->line[p]?=some c->p<line.length->C):C:=by
 obtain⟨r,e,_,_⟩:=h;obtain⟨c,u,ec⟩:=yG t;obtain⟨e1,e2,_⟩:=gn (e.trans (by rw[ec];rfl));exact f c u ec e1 e2
variable {Q:PV->ah->Prop} {X:ah->Prop}
inductive BlI (k:Nat) (line:List Nat) (σ:ah) (d:Int) (ts:List Tok) (p:Nat) (aF:ah):Prop
 |mk:aF[k]?=some (iE line p d)->p<=line.length->Lx (line.drop p) ts->Go k σ aF->BlI k line σ d ts p aF
noncomputable def blL (k:Nat) (line:List Nat) (σ:ah) (d:Int) (ts:List Tok):Lp Nat:=⟨λö=>[("self",.loc k)],BlI k line σ d ts,λp=>line.length-p⟩
theorem pF (hW:60001<=W) (hl:line.length<=60000) (h:At k line σ d (Lx · ts)) (q:∀aF,Go k σ aF->At k line aF d (Ti · ts)->Q .none aF):WP (C W (n+1) "Scanner.blanks" [.loc k] σ) Q X:=by
 obtain⟨p,h1,h2,h3⟩:=h;refine b6 rfl rfl (.mk (blL k line σ d ts) ⟨p,⟨rfl,trivial⟩,⟨h1,h2,h3,.refl _ _⟩,bf (de _ _) (bf hl hW)⟩ ?_);rintro p aF ⟨h1,h2,h3,g⟩ N B hN hB;refine .of (cJ h1) (.of (ed h1) (.of (kJ hl) (.of rfl (.of rfl (.dec' (λhp=>?_) λhp=>?_)))))
 ·rcases h3.cases' with⟨r,e,h⟩|h
  ·obtain⟨e1,e2,e3⟩:=gn e;exact .of (ed h1) (.of (cJ h1) (.of (gg hl e1) (.of (Jk _ _) (.t (congrArg some BO) (.of (cJ h1) (.of rfl (.of (kz h1 _) (hN _ _ ⟨p+1,⟨rfl,trivial⟩,⟨fk h1,e2,by rw[e3];exact h,g.trans .set⟩,o5 e2 (b8 p)⟩))))))))
  ·induction ts with
   |nil=>
    have:=mQ h2 h;exact aw (bH 0x77f98281968642 hp this)
   |cons t ts=>
    refine h.head λc u ec e1 ö=>?_;have hb:vz " \t\r\n\x0b" c=false:=by
     have:=aJ.mp (yJ t) c (by rw[ec];exact .head _);simpa using this
    exact .of (ed h1) (.of (cJ h1) (.of (gg hl e1) (.of (Jk _ _) (.f (congrArg some hb) (hB _ _ (q _ g ⟨p,h1,h2,h⟩))))))
 ·have:p=line.length:=am (bH 0x1980819801 h2) (bH 0x1890819686c1 hp);subst this;refine .f (congrArg some (decide_eq_false hp)) (hB _ _ (q _ g ⟨_,h1,au _,?_⟩));rw[fJ]at h3⊢;exact(h3.inv rfl).symm▸rfl
theorem iK (hW:60001<=W) (hl:line.length<=60000) (S:String) (b:Tok->Bool) (hb:∀t:Tok,(match bn t with|c::_=>vz S c|[]=>true)=b t) (h:At k line σ d (Lx · ts))
  (q:∀aF,Go k σ aF->At k line aF d (Ti · ts)->Q (.bool (sZ b ts)) aF):MethP "Scanner" (.loc k) σ λo=>WP (C W (n+2) "Scanner.next_is" [o,.str (aa S)] σ) Q X:=by
 have⟨p0,h0,_,_⟩:=h;refine⟨k,rfl,h0,rfl,b6 rfl rfl ⟨k,rfl,h0,rfl,pF hW hl h λaF g pz=>?_⟩⟩;obtain⟨p,h1,h2,h3⟩:=pz;refine .of (cJ h1) (.of (ed h1) (.of (kJ hl) (.of rfl (.of rfl (.dec' (λz=>?_) λz=>?_)))))
 ·induction ts with
  |nil=>
   have:=mQ h2 h3;exact aw (bH 0x77f98281968642 z this)
  |cons t ts=>
   refine h3.head λc u ec e1 ö=>?_;have hb:=hb t;replace hb:=(ec)▸hb;have hb:vz S c=b t:=hb;refine .of (ed h1) (.of (cJ h1) (.of (gg hl e1) (.of (Jk _ _) ?_)));refine hb.symm▸?_;exact q _ g ⟨p,h1,h2,h3⟩
 ·induction ts with
  |nil=>
   refine(decide_eq_false z).symm▸?_;exact q _ g ⟨p,h1,h2,h3⟩
  |cons t ts=>exact h3.head λc u ec e1 e2=>absurd (bF.mpr e2) z
theorem eK (a b:Int):jF .eq (.int a) (.int b)=some (.bool (decide (a=b))):=by
 show(xw (.int a) (.int b)).map PV.bool=_;rfl
theorem sJ (hW:60001<=W) (hl:line.length<=60000) (h:At k line σ d (Lx · ts)) (q:∀aF,Go k σ aF->At k line aF d (Ti · ts)->Q (.bool ts.isEmpty) aF):
  MethP "Scanner" (.loc k) σ λo=>WP (C W (n+2) "Scanner.at_end" [o] σ) Q X:=by
 have⟨p0,h0,_,_⟩:=h;refine⟨k,rfl,h0,rfl,b6 rfl rfl ⟨k,rfl,h0,rfl,pF hW hl h λaF g pz=>?_⟩⟩;obtain⟨p,h1,h2,h3⟩:=pz;refine .of (cJ h1) (.of (ed h1) (.of (kJ hl) (.of (eK _ _) ?_)));have e:decide ((p:Int)=line.length)=ts.isEmpty:=by
  induction ts with
  |nil=>rw[mQ h2 h3];exact decide_eq_true rfl
  |cons t ts=>exact h3.head λc u ec e1 e2=>decide_eq_false (λe_=>bH 0x77f96865819812 e2 e_)
 refine e.symm▸?_;exact q _ g ⟨p,h1,h2,h3⟩
theorem E4:∀t:Tok,(match bn t with|c::_=>!vz "<|>&;()" c|[]=>true)=Bw [t]:=fi (by decide+kernel)
theorem t8 (hW:60001<=W) (hl:line.length<=60000) (h:At k line σ d (Lx · ts)) (q:∀aF,Go k σ aF->At k line aF d (Ti · ts)->Q (.bool (Bw ts)) aF):
  MethP "Scanner" (.loc k) σ λo=>WP (C W (n+3) "Scanner.is_word" [o] σ) Q X:=by
 have⟨p0,h0,_,_⟩:=h;refine⟨k,rfl,h0,rfl,b6 rfl rfl (sJ hW hl h λaF g ⟨p,h1,h2,h3⟩=>?_)⟩
 induction ts with
 |nil=>exact .of rfl (.of rfl (.f rfl (q _ g ⟨p,h1,h2,h3⟩)))
 |cons t ts=>
  refine h3.head λc u ec e1 ö=>?_;have hb:=E4 t;replace hb:=(ec)▸hb;have hb:(!vz "<|>&;()" c)=Bw (t::ts):=hb.trans (by induction t<;>rfl);refine .of rfl (.of rfl (.t rfl (.of (ed h1) (.of (cJ h1) (.of (gg hl e1) (.of (Dg _ _) ?_))))));refine hb.symm▸?_;exact q _ g ⟨p,h1,h2,h3⟩
theorem qQ {m:Nat} {P:List Nat->Prop} (h:At k line σ (30-(m:Int)) P) (q:∀m' aF,m=m'+1->Go k σ aF->At k line aF (30-(m':Int)) P->Q (.int (30-(m:Int))) aF) (qx:∀aF,m=0->Go k σ aF->X aF):
  MethP "Scanner" (.loc k) σ λo=>WP (C W (n+1) "Scanner.enter" [o] σ) Q X:=by
 obtain⟨p,h1,h2,h3⟩:=h;refine⟨k,rfl,h1,rfl,b6 rfl rfl (.of (vj h1) (.of rfl (.of (zx h1 _) (.of (vj (fk h1)) (.of rfl (.dec' (λz=>?_) λz=>?_))))))⟩
 ·exact .of (by kernel_rfl:_=some (aa "too deep")) (qx _ (am (cy 0x100808110861e21421e2141 z) (cy 0x180000)) .set)
 ·refine .of (vj (fk h1)) (.of rfl ?_);have e:30-(m:Int)+1-1=30-(m:Int):=aM (cy 0x1861e2141010861e2142430) (cy 0x11010861e21424861e21430);refine e.symm▸?_;refine q (m-1) _ ((ac (cy 0x181008110861e21421e21c1 z)).symm) .set ⟨p,?_,h2,h3⟩;exact(fk h1).symm▸(show 30-(m:Int)+1=30-((m-1:Nat):Int) by exact aM (bH 0x1861e21410961e21423819108221 (ac (n:=m) (m:=1) (cy 0x181008110861e21421e21c1 z))) (bH 0x110961e2142861e21437f9108221 (ac (n:=m) (m:=1) (cy 0x181008110861e21421e21c1 z)))).symm▸rfl
theorem L6 (hc:c<128):jF .eq (.str ⟨#[c]⟩) (.str (aa ">"))=some (.bool (gu c 62)):=by
 show(xw (.str ⟨#[c]⟩) (.str (aa ">"))).map PV.bool=_;rw[DV (by simp;exact cy 0x11100006181818021811 hc) (by decide+kernel)];have:aa ">"=⟨#[62]⟩:=by decide+kernel
 refine this.symm▸?_;simp only[dF,KQ.injEq]
 congr 2
 by_cases h:c=62
 ·subst h;rfl
 ·rw[decide_eq_false (by simpa using h)]
  induction hb:gu c 62 with
  |false=>rfl
  |true=>exact absurd (B4 hb) h
theorem yF:∀t:Tok,(match t with|.wd _=>true|.rd 1=>decide (bn t=[62]/\tS t=⟨#[62]⟩)|.rd 2=>decide (bn t=[62,62])|t=>(match bn t with|[c]=>decide (c<128/\gu c 62=false/\tS t=⟨#[c]⟩)|_=>false))=true:=fi (by decide+kernel)
theorem K8 (hl:line.length<=60000) (hc:bn t=[c]) (h1:c<128) (h2:gu c 62=false) (h3:tS t=⟨#[c]⟩) (h:At k line σ d (Ti · (t::ts))) (q:∀aF,Go k σ aF->At k line aF d (Lx · ts)->Q (.str (tS t)) aF):
  WP (C W (n+1) "Scanner.sign" [.loc k] σ) Q X:=by
 refine Mine.Internal.cps λζ κ=>?_;obtain⟨p,g1,g2,r,e,hr,hz⟩:=h;rw[hc]at e;obtain⟨e1,e2,e3⟩:=gn e;rw[h3]at q;refine κ ?_;exact b6 rfl rfl (.of (ed g1) (.of (cJ g1) (.of (gg hl e1) (.of (cJ g1) (.of rfl (.of (kz g1 _) (.of (L6 h1) (.of rfl (.f (congrArg some h2) (.f (congrArg some h2) (q _ .set ⟨p+1,fk g1,e2,by rw[e3];exact hr⟩)))))))))))
theorem kA (hl:line.length<=60000) {t:Tok} (ht:∀i,t≠.wd i) (h:At k line σ d (Ti · (t::ts))) (q:∀aF,Go k σ aF->At k line aF d (Lx · ts)->Q (.str (tS t)) aF):
  MethP "Scanner" (.loc k) σ λo=>WP (C W (n+1) "Scanner.sign" [o] σ) Q X:=by
 have⟨p0,h0,_,_⟩:=h;refine⟨k,rfl,h0,rfl,?_⟩;have cs:=yF t;have one:(match bn t with|[c]=>decide (c<128/\gu c 62=false/\tS t=⟨#[c]⟩)|_=>false)=true->WP (C W (n+1) "Scanner.sign" [.loc k] σ) Q X:=λz=>by
  split at z
  ·rename_i c hc;have⟨a,b,e⟩:=of_decide_eq_true z;exact K8 hl hc a b e h q
  ·contradiction
 induction t with
 |wd i=>exact absurd rfl (ht i)
 |rd j=>
  rcases j with⟨_|_|_|j,hj⟩
  ·exact one cs
  ·have⟨c1,c2⟩:=of_decide_eq_true cs;have c2:tS (.rd ⟨1,hj⟩)=⟨#[62]⟩:=c2;replace q:=(c2)▸q;refine Mine.Internal.cps λζ κ=>?_;obtain⟨p,g1,g2,r,e,hr,hz⟩:=h;replace e:=(c1)▸e;obtain⟨e1,e2,e3⟩:=gn e;have fin:=q _ .set ⟨p+1,fk g1,e2,by rw[e3];exact hr⟩;refine κ ?_;refine b6 rfl rfl (.of (ed g1) (.of (cJ g1) (.of (gg hl e1) (.of (cJ g1) (.of rfl (.of (kz g1 _) (.of (L6 (by decide)) (.of rfl (.t rfl (.of (cJ (fk g1)) (.of (ed (fk g1)) (.of (kJ hl) (.of rfl (.of rfl (.dec' (λz=>?_) λz=>?_)))))))))))))))
   ·rcases hz with rfl|⟨y,rfl⟩
    ·have:=mQ e2 e3;exact aw (bH 0x77f91082281961086242 z this)
    ·obtain⟨f1,f2,f3⟩:=gn e3;exact .of (ed (fk g1)) (.of (cJ (fk g1)) (.of (gg hl f1) (.of (L6 (by decide)) (.f rfl fin))))
   ·exact .f (congrArg some (decide_eq_false z)) fin
  ·have c1:=of_decide_eq_true cs;refine Mine.Internal.cps λζ κ=>?_;obtain⟨p,g1,g2,r,e,hr,hz⟩:=h;replace e:=(c1)▸e;obtain⟨e1,e2,e3⟩:=gn e;obtain⟨f1,f2,f3⟩:=gn e3;refine κ ?_;refine b6 rfl rfl (.of (ed g1) (.of (cJ g1) (.of (gg hl e1) (.of (cJ g1) (.of rfl (.of (kz g1 _) (.of (L6 (by decide)) (.of rfl (.t rfl (.of (cJ (fk g1)) (.of (ed (fk g1)) (.of (kJ hl) (.of rfl (.of rfl (.dec' (λz=>?_) λz=>?_)))))))))))))))
   ·exact .of (ed (fk g1)) (.of (cJ (fk g1)) (.of (gg hl f1) (.of (L6 (by decide)) (.t rfl (.of (cJ (fk g1)) (.of rfl (.of (kz (fk g1) _) (q _ (Go.set.trans .set) ⟨p+1+1,fk (fk g1),f2,by rw[f3];exact hr⟩))))))))
   ·exact aw (bH 0x7819610862c819108212 f2 z)
  ·exact absurd hj (cy 0x130101010822290)
 |_=>exact one cs
theorem tJ:jO .add (.str (aa " \t\r\n\x0b")) (.str (aa "<|>&;()"))=some (.str (aa " \t\r\n\x0b<|>&;()")):=by kernel_rfl
theorem xD:∀t:Tok,(match t with|.wd _=>(bn t).all (λc=>!vz " \t\r\n\x0b<|>&;()" c)|_=>true)=true:=fi (by decide+kernel)
inductive WoI (k:Nat) (line:List Nat) (σ:ah) (d:Int) (p m:Nat) (j:Nat) (aF:ah):Prop
 |mk:aF[k]?=some (iE line ((p+j:Nat):Int) d)->j<=m->Go k σ aF->WoI k line σ d p m j aF
noncomputable def woL (k:Nat) (line:List Nat) (σ:ah) (d:Int) (p m:Nat):Lp Nat:=⟨λö=>[("self",.loc k),("begin",.int p)],WoI k line σ d p m,λj=>line.length-(p+j)⟩
theorem sx (m p:Nat):fH m (p:Int)=min p m:=by
 show(max 0 (min (if(p:Int)<0 then _ else(p:Int)) (m:Int))).toNat=_;refine(if_neg (m7.mpr (eS p))).symm▸?_;by_cases h:p<=m
 ·rw[bS h,KD (iU.mpr h),jl (eS _),iT]
 ·have h:=Nat.le_of_not_le h;rw[c6 h,Int.min_eq_right (iU.mpr h),jl (eS _),iT]
theorem u9 (h:p<=m):fH m (p:Int)=p:=(sx m p).trans (bS h)
theorem CJ (hl:line.length<=60000) (e:line.drop p=bn (.wd i)++r) (hp:p+(bn (.wd i)).length<=line.length):pb (St line) (some (p:Int)) (some ((p+(bn (.wd i)).length:Nat):Int))=some (.str (wS i)):=by
 show(if(⟨line.toArray⟩:Str).length<=dm then some (PV.str ⟨(sliceL line.toArray.toList (some (p:Int)) (some ((p+(bn (.wd i)).length:Nat):Int))).toArray⟩)else none)=_;refine(if_pos (by show line.toArray.size<=dm;rw[bE];exact ae hl (by decide))).symm▸?_;have e2:sliceL line (some (p:Int)) (some ((p+(bn (.wd i)).length:Nat):Int))=bn (.wd i):=by
  show(line.take (fH line.length ((p+(bn (.wd i)).length:Nat):Int))).drop (fH line.length (p:Int))=_;refine(u9 hp).symm▸(u9 (bN hp)).symm▸(KB).symm▸e.symm▸?_;simp
 simp only[e2];rw[show wS i=tS (.wd i)from rfl,qX]
theorem zn (hW:60001<=W) (hl:line.length<=60000) (h:At k line σ d (Lx · (.wd i::ts))) (q:∀aF,Go k σ aF->At k line aF d (Lx · ts)->Q (.str (wS i)) aF):
  MethP "Scanner" (.loc k) σ λo=>WP (C W (n+2) "Scanner.word" [o] σ) Q X:=by
 have⟨p0,h0,_,_⟩:=h;refine⟨k,rfl,h0,rfl,b6 rfl rfl ⟨k,rfl,h0,rfl,pF hW hl h λaZ g pz=>?_⟩⟩;obtain⟨p,h1,h2,r,e,hr,hz⟩:=pz;have hlen:p+(bn (.wd i)).length+r.length=line.length:=by
  have:=congrArg gC e;replace this:=(af)▸(cV)▸this;exact am (jx 0x1ca9b22081cb8227fa92822 this (ac (n:=line.length) (m:=p) (bH 0x1980819801 h2))) (jx 0x1a9b22c07fcb82281a92822 this (ac (n:=line.length) (m:=p) (bH 0x1980819801 h2)))
 have hp:p+(bn (.wd i)).length<=line.length:=Nat.le.intro hlen;have dj:∀j,line.drop (p+j)=(bn (.wd i)++r).drop j:=λj=>by rw[<-e,vv]
 refine .of (cJ h1) (.mk (woL k line σ d p (bn (.wd i)).length) ⟨0,⟨rfl,rfl,trivial⟩,⟨h1,aL _,g⟩,bf (de _ _) (bf hl hW)⟩ ?_);rintro j aF ⟨h1,h2,g⟩ N B hN hB;have fin:j=(bn (.wd i)).length->B [("self",.loc k),("begin",.int p)] aF:=λej=>by
  subst ej;exact hB _ _ (.of (ed h1) (.of (cJ h1) (.of (CJ hl e hp) (q _ g ⟨_,h1,hp,by rw[dj,KC];exact hr⟩))))
 refine .of (cJ h1) (.of (ed h1) (.of (kJ hl) (.of rfl (.of rfl (.dec' (λz=>?_) λz=>?_)))))
 ·by_cases hj:j<(bn (.wd i)).length
  ·have e1:line.drop (p+j)=(bn (.wd i))[j]::((bn (.wd i)).drop (j+1)++r):=by
    rw[dj,List.drop_append_of_le_length h2,eX hj];rfl
   obtain⟨f1,f2,f3⟩:=gn e1;have hb:vz " \t\r\n\x0b<|>&;()" (bn (.wd i))[j]=false:=by
    have:=aJ.mp (xD (.wd i)) _ (l7 hj);simpa using this
   exact .of (ed h1) (.of (cJ h1) (.of (gg hl f1) (.of tJ (.of (Dg _ _) (.t (congrArg (λb=>some (!b)) hb) (.of (cJ h1) (.of rfl (.of (kz h1 _) (hN _ _ ⟨j+1,⟨rfl,rfl,trivial⟩,⟨fk h1,hj,g.trans .set⟩,o5 f2 (b8 (p+j))⟩)))))))))
  ·have hj:j=(bn (.wd i)).length:=am (bH 0x1980819801 h2) (bH 0x1890819891 hj);have e1:=dj j;replace e1:=(KC)▸(hj)▸e1;rcases hz with rfl|⟨y,rfl⟩
   ·have:=mQ (by exact b7 0x1a982081a98201 hp) e1;exact aw (d3 0x77fab8227fb9281a6982643 z hj this)
   ·obtain⟨f1,f2,f3⟩:=gn e1;replace f1:=(hj).symm▸f1;exact .of (ed h1) (.of (cJ h1) (.of (gg hl f1) (.of tJ (.of (Dg _ _) (.f (by kernel_rfl) (fin hj))))))
 ·exact .f (congrArg some (decide_eq_false z)) (fin (am (bH 0x1980819801 h2) (jx 0x1c9081b6c826c81ba982222 hlen z)))
open PySem
theorem B7 (h:x∈fieldsOf c/\ns.length<=100) (e:setField ns vs x v=(ns',vs')):dC (σ++[.obj c ns vs]) (.loc σ.length) x v=some (σ++[.obj c ns' vs']):=by
 rw[ux iM h e,lk]
theorem lD {Q:PV->ah->Prop} {X:ah->Prop}
  (h:∀{Q:PV->ah->Prop},Q .none (σ++[.obj c ns vs])->WP (cf ini (.loc σ.length::l) (σ++[.obj c [] []])) Q λö=>False) (q:Q (.obj c ns vs) (σ++[.dead])):WP (qg cf c true ini l σ) Q X:=by
 refine(Ok.bind (m:=cf ini (.loc σ.length::l)) (P:=λv aF=>v=.none/\aF=σ++[.obj c ns vs]) (X:=X) ?_ λa aF ⟨e1,e2⟩=>?_).toWP
 ·have:=(h (Q:=λv aF=>v=.none/\aF=σ++[.obj c ns vs]) ⟨rfl,rfl⟩).toOk;revert this;cases cf ini (.loc σ.length::l) (σ++[.obj c [] []])with
  |exc _=>exact aw
  |_=>exact id
 ·subst e1 e2;simp only[si,if_true,iM,lk];exact q
variable {W n:Nat} {σ:ah} {Q:PV->ah->Prop} {X:ah->Prop}
theorem qK {a b c d:PV} (q:Q (.obj "Redirect" ["command","path","mode","descriptor"] [a,b,c,d]) (σ++[.dead])):WP (qg (C W (n+1)) "Redirect" true "Redirect.__init__" [a,b,c,d] σ) Q X:=
 lD (λq=>b6 rfl rfl (.of (B7 (by decide) rfl) (.of (B7 (by decide) rfl) (.of (B7 (by decide) rfl) (.of (B7 (by decide) rfl) q))))) q
theorem kF (q:Q (.obj "Pair" ["sign","left","right"] [a,b,c]) (σ++[.dead])):WP (qg (C W (n+1)) "Pair" true "Pair.__init__" [a,b,c] σ) Q X:=
 lD (λq=>b6 rfl rfl (.of (B7 (by decide) rfl) (.of (B7 (by decide) rfl) (.of (B7 (by decide) rfl) q)))) q
theorem wg (q:Q (.obj "Back" ["command"] [a]) (σ++[.dead])):WP (qg (C W (n+1)) "Back" true "Back.__init__" [a] σ) Q X:=
 lD (λq=>b6 rfl rfl (.of (B7 (by decide) rfl) q)) q
theorem zR {l:List PV} (h:l.length<=dm) (q:Q (.obj "Run" ["arguments"] [.list l]) (σ++[.dead])):WP (qg (C W (n+1)) "Run" true "Run.__init__" [.list l] σ) Q X:=
 lD (λq=>b6 rfl rfl (.of (if_pos h) (.of (B7 (by decide) rfl) q))) q
theorem iZ:∀c∈[cS.dead],∀n,xk n c:=λc h n k ö p=>by
 simp only[aC]at h;subst h;rfl
noncomputable def rm (j:Nat):cS:=.obj "Run" ["arguments"] [.loc j]
theorem wf (h:∀{Q:PV->ah->Prop},Q .none τ->WP (cf ini (.loc σ.length::l) (σ++[.obj c [] []])) Q λö=>False) (q:Q (.loc σ.length) τ):WP (qg cf c false ini l σ) Q X:=by
 refine(Ok.bind (m:=cf ini (.loc σ.length::l)) (P:=λv aF=>v=.none/\aF=τ) (X:=X) ?_ λa aF ⟨e1,e2⟩=>?_).toWP
 ·have:=(h (Q:=λv aF=>v=.none/\aF=τ) ⟨rfl,rfl⟩).toOk;revert this;cases cf ini (.loc σ.length::l) (σ++[.obj c [] []])with
  |exc _=>exact aw
  |_=>exact id
 ·subst e1 e2;exact q
theorem FV (q:Q (.loc σ.length) (σ++[rm (σ.length+1),.list []])):WP (qg (C W (n+1)) "Run" false "Run.__init__mut" [.list []] σ) Q X:=by
 refine wf (λ{Q} q=>b6 rfl rfl ⟨[],rfl,by decide,?_⟩) q;refine .of (a:=σ++[rm (σ.length+1),.list []]) ?_ q;rw[aq];have h:"arguments"∈fieldsOf "Run"/\([]:List String).length<=100:=by decide
 show dC (σ++cS.obj "Run" [] []::[.list []]) _ _ _=_;rw[ux iM h rfl,lk,af];rfl
theorem Da (q:Q (.loc σ.length) (σ++[iE line 0 0])):WP (qg (C W (n+1)) "Scanner" false "Scanner.__init__" [St line] σ) Q X:=
 wf (λq=>b6 rfl rfl (.of (B7 (by decide) rfl) (.of (B7 (by decide) rfl) (.of (B7 (by decide) rfl) q)))) q
noncomputable def gv:Nat->List Tok->Option (Nat×List (Fin 3×Fin 9)×List Tok)
 |m,.rd k::.wd w::ts=>(match m with
  |0=>none
  |m+1=>(gv m ts).map λr=>(r.1,(k,w)::r.2.1,r.2.2))
 |_,.rd _::_=>none
 |m,ts=>some (m,[],ts)
termination_by structural _ ts=>ts
noncomputable def CP (v:PV) (r:Fin 3×Fin 9):PV:=.obj "Redirect" ["command","path","mode","descriptor"] [v,.str (wS r.2),.int (pT r.1),.int (t7 r.1)]
noncomputable def mx (rs:List (Fin 3×Fin 9)) (v:PV):PV:=rs.foldl CP v
variable {k:Nat} {line:List Nat} {d:Int} {ts:List Tok}
theorem At.mono {P Q:List Nat->Prop} (h:At k line σ d P) (f:∀x,P x->Q x):At k line σ d Q:=have⟨p,a,b,c⟩:=h;⟨p,a,b,f _ c⟩
theorem At.lx (h:At k line σ d (Ti · ts)):At k line σ d (Lx · ts):=h.mono λö=>Ti.lx
theorem At.app {P:List Nat->Prop} (h:At k line σ d P) (τ:ah):At k line (σ++τ) d P:=by
 obtain⟨p,a,b,c⟩:=h;exact⟨p,by rw[aR (ao.mp a).1];exact a,b,c⟩
theorem hdRd:∀t:Tok,(match bn t with|c::_=>vz "<>" c|[]=>true)=tf t:=fi (by decide+kernel)
theorem lu:∀{ts:List Tok},sZ tf ts=false->gv m ts=some (m,[],ts)
 |[],_=>rfl
 |t::ts,h=>by induction t<;>first|(cases h;done)|rfl
theorem ly (h:m=0\/∀i ts',us≠.wd i::ts'):gv m (.rd j::us)=none:=by
 induction us with
 |nil=>rfl
 |cons u us=>
  induction u with
  |wd i=>
   rcases h with h|h
   ·exact h.symm▸rfl
   ·exact absurd rfl (h i us)
  |_=>rfl
theorem xP {P:Nat->List Tok->Prop} (stop:∀m ts,sZ tf ts=false->P m ts) (bad:∀m k us,(m=0\/∀i ts',us≠.wd i::ts')->P m (.rd k::us)) (step:∀m k w ts,P m ts->P (m+1) (.rd k::.wd w::ts)) (m:Nat):∀ts,P m ts:=by
 induction m with
 |zero=>
  intro ts
  induction ts with
  |nil=>exact stop _ _ rfl
  |cons t ts=>induction t with
   |rd k=>exact bad _ _ _ (.inl rfl)
   |_=>exact stop _ _ rfl
 |succ m ih=>
  intro ts
  induction ts with
  |nil=>exact stop _ _ rfl
  |cons t ts=>induction t with
   |rd k=>induction ts with
    |nil=>exact bad _ _ _ (.inr nofun)
    |cons u ts=>induction u with
     |wd w=>exact step _ _ _ _ (ih ts)
     |_=>exact bad _ _ _ (.inr nofun)
   |_=>exact stop _ _ rfl
theorem Mo:jO .bor (.int 1) (.int 512)=some (.int 513):=by kernel_rfl
theorem bor2:jO .bor (.int 513) (.int 1024)=some (.int 1537):=by kernel_rfl
theorem bor3:jO .bor (.int 513) (.int 2048)=some (.int 2561):=by kernel_rfl
theorem lm (rs:List (Fin 3×Fin 9)) (r:Fin 3×Fin 9) (v:PV):mx (rs++[r]) v=CP (mx rs v) r:=by simp[mx]
inductive RdI (k:Nat) (line:List Nat) (σ:ah) (m:Nat) (ts:List Tok) (m':Nat) (rs:List (Fin 3×Fin 9)) (us:List Tok) (aF:ah):Prop
 |mk:Go k σ aF->At k line aF (30-(m':Int)) (Lx · us)->gv m ts=(gv m' us).map (λq=>(q.1,rs++q.2.1,q.2.2))->us.length<=60000->RdI k line σ m ts m' rs us aF
noncomputable def rdE (k:Nat) (rs:List (Fin 3×Fin 9)) (v:PV):aE:=[("scanner",.loc k),("command",mx rs v)]
noncomputable def Li (k:Nat) (line:List Nat) (σ:ah) (m:Nat) (ts:List Tok) (v:PV):Lp (Nat×List (Fin 3×Fin 9)×List Tok):=⟨λr=>rdE k r.2.1 v,λr=>RdI k line σ m ts r.1 r.2.1 r.2.2,λr=>r.2.2.length⟩
theorem IX:(gv (m+1) (.rd j::.wd i::ts)).map (λq=>(q.1,rs++q.2.1,q.2.2))=(gv m ts).map λq=>(q.1,(rs++[(j,i)])++q.2.1,q.2.2):=by
 show((gv m ts).map _).map _=_;rw[Hm]
 congr 1
 funext q;simp
theorem CQ (us:List Tok):sZ tf us=false\/∃j us',us=.rd j::us':=by
 induction us with
 |nil=>exact .inl rfl
 |cons t us=>induction t<;>first|exact .inl rfl|exact .inr ⟨_,_,rfl⟩
theorem vL (us:List Tok):(Bw us=false/\∀i ts',us≠.wd i::ts')\/∃i us',us=.wd i::us':=by
 induction us with
 |nil=>exact .inl ⟨rfl,nofun⟩
 |cons t us=>induction t<;>first|exact .inl ⟨rfl,nofun⟩|exact .inr ⟨_,_,rfl⟩
theorem Fx {N B:aE->ah->Prop} {R:PV->ah->Prop} {j:Fin 3} {i:Fin 9} {v:PV} (h:∀ρ,Sub [("scanner",.loc k),("command",CP v (j,i))] ρ->N ρ (σ++[.dead])):
  dO (C W (n+3)) W ((xv (qf fZ 0)).drop 4) [("scanner",.loc k),("command",v),("sign",.str (tS (.rd j))),("path",.str (wS i))] N B R X σ:=by
 rcases j with⟨_|_|_|j,hj⟩
 ·exact .of (pA (.rd 0) (.rd 0)) (.t rfl (qK (h _ ⟨rfl,rfl,trivial⟩)))
 ·exact .of (pA (.rd 1) (.rd 0)) (.f rfl (.of (pA (.rd 1) (.rd 1)) (.t rfl (.of Mo (.of bor2 (qK (h _ ⟨rfl,rfl,trivial⟩)))))))
 ·exact .of (pA (.rd 2) (.rd 0)) (.f rfl (.of (pA (.rd 2) (.rd 1)) (.f rfl (.of Mo (.of bor3 (qK (h _ ⟨rfl,rfl,trivial⟩)))))))
 ·exact absurd hj (cy 0x130101010822290)
theorem Fw (hW:60001<=W) (hl:line.length<=60000) {m':Nat} {v:PV} {us:List Tok} {N B:aE->ah->Prop} {R:PV->ah->Prop} (h:At k line σ (30-(m':Int)) (Lx · us))
  (hN:∀Hk j i ts' ρ aF,m'=Hk+1->us=.rd j::.wd i::ts'->Sub [("scanner",.loc k),("command",CP v (j,i))] ρ->Go k σ aF->At k line aF (30-(Hk:Int)) (Lx · ts')->N ρ aF)
  (hB:∀aF,sZ tf us=false->Go k σ aF->At k line aF (30-(m':Int)) (Ti · us)->B [("scanner",.loc k),("command",v)] aF)
  (qx:∀j us' aF,us=.rd j::us'->(m'=0\/∀i ts',us'≠.wd i::ts')->Go k σ aF->X aF):
  iC (C W (n+3)) X [("scanner",.loc k),("command",v)] (lpC (qf fZ 0)) (λc σ=>lW c (dO (C W (n+3)) W (xv (qf fZ 0)) [("scanner",.loc k),("command",v)] N B R X σ) (B [("scanner",.loc k),("command",v)] σ)) σ:=
 iK hW hl "<>" tf hdRd h λaZ g1 h1=>(CQ us).elim (λe=>.f (congrArg some e) (hB _ e g1 h1)) λ⟨j,us',eu⟩=>
  .t (by rw[eu];rfl) (qQ h1 (λm2 bK em g2 h2=>kA (t:=.rd j) (ts:=us') hl (by intro i;exact nofun) (eu▸h2) λgw g3 h3=>t8 hW hl h3 λfq g4 h4=>(vL us').elim
   (λe=>.of rfl (.t (by rw[e.1];rfl) (.of (by kernel_rfl:_=some (aa "missing file for redirection")) (qx j us' _ eu (.inr e.2) (((g1.trans g2).trans g3).trans g4)))))
   λ⟨i,ts',ew⟩=>.of rfl (.f (by rw[ew];rfl) (zn (i:=i) (ts:=ts') hW hl (ew▸h4.lx) λkQ g5 h5=>Fx λρ hρ=>hN m2 j i ts' ρ _ em (ew▸eu) hρ (((((g1.trans g2).trans g3).trans g4).trans g5).trans (.app iZ)) (h5.app _))))
   λbK em g2=>qx j us' _ eu (.inl em) (g1.trans g2))
theorem lq (hW:60001<=W) (hl:line.length<=60000) {m:Nat} {v:PV} (h:At k line σ (30-(m:Int)) (Lx · ts)) (hn:ts.length<=60000)
  (q:∀r aF,gv m ts=some r->Go k σ aF->At k line aF (30-(r.1:Int)) (Ti · r.2.2)->Q (mx r.2.1 v) aF) (qx:∀aF,gv m ts=none->Gx k σ aF->X aF):WP (C W (n+4) "parse_redirects" [.loc k,v] σ) Q X:=
 b6 rfl rfl (.mk (Li k line σ m ts v) ⟨(m,[],ts),⟨rfl,rfl,trivial⟩,⟨.refl _ _,h,by simp,hn⟩,bf hn hW⟩ λr aF ⟨g,h,e,hn⟩ N B hN hB=>
  Fw hW hl h (λHk j i ts' ρ aF em eu hs g' h'=>hN _ _ ⟨(Hk,r.2.1++[(j,i)],ts'),by rw[<-lm]at hs;exact hs,⟨g.trans g',h',by rw[e,em,eu];exact IX,by rw[eu]at hn;exact cZ (cZ hn)⟩,by show ts'.length<r.2.2.length;rw[eu];exact gq (b8 _)⟩)
   (λaF es g' h'=>hB _ _ (q r _ (by rw[e,lu es,dF,bz]) (g.trans g') h')) λj us' aF eu hz g'=>qx _ (by rw[e,eu,ly hz];rfl) (g.trans g').gx)
open PySem
theorem Lx.len {cs:List Nat} {ts:List Tok} (h:Lx cs ts):ts.length<=cs.length:=by
 induction h with
 |nil=>exact au _
 |sp _ ih=>rw[aj];exact bH 0x1109280819801 ih
 |tok t _ _ ih=>
  have:0<(bn t).length:=o0.mpr (dG t).2.1;rw[af,aj];exact b7 0x19a21082081a001819802 ih this
variable {W n:Nat} {σ:ah} {k:Nat} {line:List Nat} {d:Int} {ts:List Tok}
theorem At.tlen (h:At k line σ d (Lx · ts)):ts.length<=line.length:=by
 obtain⟨p,_,_,h⟩:=h;have:=h.len;rw[cV]at this;exact b7 0x1a8081a90819802 this (de _ _)
theorem At.klt {P:List Nat->Prop} (h:At k line σ d P):k<σ.length:=by
 obtain⟨p,h,_⟩:=h;exact(ao.mp h).1
theorem xL:∀{ts:List Tok},sZ tf ts=false->jV m ts c=some (c,ts)
 |[],_=>rfl
 |t::ts,h=>by induction t<;>first|(cases h;done)|rfl
theorem xN (h:m=0\/∀i ts',us≠.wd i::ts'):jV m (.rd j::us) c=none:=by
 induction us with
 |nil=>rfl
 |cons u us=>
  induction u with
  |wd i=>
   rcases h with h|h
   ·exact h.symm▸rfl
   ·exact absurd rfl (h i us)
  |_=>rfl
theorem xT (h:m=0\/∀i ts',us≠.wd i::ts'):f9 m ws rs (.rd j::us)=none:=by
 induction us with
 |nil=>rfl
 |cons u us=>
  induction u with
  |wd i=>
   rcases h with h|h
   ·exact h.symm▸rfl
   ·exact absurd rfl (h i us)
  |_=>rfl
theorem xM (m:Nat) (ts:List Tok):∀c:T,jV m ts c=(gv m ts).map λr=>(fv r.2.1 c,r.2.2):=
 xP (P:=λm ts=>∀c:T,jV m ts c=(gv m ts).map λr=>(fv r.2.1 c,r.2.2)) (λm ts h c=>by rw[lu h,xL h];rfl) (λm k us h c=>by rw[ly h,xN h];rfl)
  (λm k w ts ih c=>(ih (.red c w k)).trans (by show _=((gv m ts).map _).map _;rw[Hm];rfl)) m ts
noncomputable def ij (m:Nat) (ws:List (Fin 9)) (rs:List (Fin 3×Fin 9)):List Tok->Option (T×List Tok)
 |.wd w::ts=>if ws.length=9 then none else f9 m (ws++[w]) rs ts
 |.lp::_=>none
 |.rd _::_=>none
 |ts=>some (fv rs (.run ws),ts)
theorem xS:∀{ts:List Tok},sZ tf ts=false->f9 m ws rs ts=ij m ws rs ts
 |[],_=>rfl
 |t::ts,h=>by induction t<;>first|(cases h;done)|rfl
theorem rn (m:Nat) (ts:List Tok):∀(ws:List (Fin 9)) (rs:List (Fin 3×Fin 9)),f9 m ws rs ts=(gv m ts).bind λr=>ij r.1 ws (rs++r.2.1) r.2.2:=
 xP (P:=λm ts=>∀(ws:List (Fin 9)) (rs:List (Fin 3×Fin 9)),f9 m ws rs ts=(gv m ts).bind λr=>ij r.1 ws (rs++r.2.1) r.2.2) (λm ts h ws rs=>by rw[lu h,xS h];show _=ij m ws (rs++[]) ts;rw[bz])
  (λm k us h ws rs=>by rw[ly h,xT h];rfl) (λm k w ts ih ws rs=>(ih ws (rs++[(k,w)])).trans (by
   show _=((gv m ts).map _).bind _;cases gv m ts with
   |none=>rfl
   |some r=>exact congrArg (λz=>ij r.1 ws z r.2.2) (aq rs [(k,w)] r.2.1))) m ts
theorem zD (c:T):∀rs:List (Fin 3×Fin 9),pv (fv rs c)=mx rs (pv c):=by
 refine jU rfl λrs r ih=>?_;rw[dT,lm,<-ih];rfl
theorem pN (j:Nat) (p v:PV):∀rs:List (Fin 3×Fin 9),PV.subst j p (mx rs v)=mx rs (PV.subst j p v):=by
 refine jU rfl λrs r ih=>?_;rw[lm,lm,<-ih];simp only[CP,cn,bU,cj,cq,cm,cr,dh,di]
noncomputable def qy (ws:List (Fin 9)):List PV:=ws.map λw=>.str (wS w)
theorem kY (j:Nat) (p:PV):∀ws,PV.substs j p (qy ws)=qy ws
 |[]=>rfl
 |w::ws=>by
  show PV.subst j p (.str (wS w))::PV.substs j p (qy ws)=_;rw[kY j p ws];simp only[cn,bU,cj,cq,cm,cr];rfl
structure Pc (k:Nat) (σ₀:ah) (q:Nat) (ws:List (Fin 9)) (σ:ah):Prop where
 len:σ₀.length<=q
 old:∀j,j<σ₀.length->j≠k->σ[j]?=σ₀[j]?
 run:σ[q]?=some (rm (q+1))
 lst:σ[q+1]?=some (.list (qy ws))
 new:∀(j:Nat) (c:cS),σ[j]?=some c->j=q\/(∀n,xk n c)\/σ₀[j]?=some c
variable {σ₀ aZ:ah} {q:Nat} {ws:List (Fin 9)}
theorem Pc.go (h:Pc k σ₀ q ws σ) (hk:k<σ₀.length) (g:Go k σ aZ):Pc k σ₀ q ws aZ:=by
 have l1:=(ao.mp h.run).1;have:=h.len;refine⟨h.len,λj hj e=>(g.old j (d3 0x19b181ab1818a0819813 l1 this hj) e).trans (h.old j hj e),(g.old q l1 (λe_=>b7 0x7818a281a90819813 hk this e_)).trans h.run,(g.old _ ((ao.mp h.lst).1) (λe_=>b7 0x781810a2281a90819813 hk this e_)).trans h.lst,λj c e=>?_⟩;rcases g.new j c e with z|z
 ·exact .inr (.inl z)
 ·exact h.new j c z
theorem zZ (ws:List (Fin 9)) (n:Nat):xk n (.list (qy ws)):=λk ö p=>by simp only[cS.subst,kY]
theorem Pc.push (h:Pc k σ₀ q ws σ) (w:Fin 9):Pc k σ₀ q (ws++[w]) (σ.set (q+1) (.list (qy (ws++[w])))):=by
 have l2:=(ao.mp h.lst).1;have:=h.len;refine⟨h.len,λj hj e=>?_,?_,by rw[bX l2],λj c e=>?_⟩
 ·rw[bw (by exact λe_=>b7 0x781a10922818a1819803 this hj e_)];exact h.old j hj e
 ·rw[bw (by exact λe_=>cy 0x7818108221 e_)];exact h.run
 ·by_cases z:q+1=j
  ·subst z;rw[bX l2]at e
   (injection e;subst_vars)
   exact .inr (.inl (zZ _))
  ·rw[bw z]at e;exact h.new j c e
theorem Pc.gx (h:Pc k σ₀ q ws σ):Gx k σ₀ σ:=by
 have l1:=(ao.mp h.run).1;have l2:=(ao.mp h.lst).1;have:=h.len;refine⟨b7 0x19a0818a0819812 l1 this,h.old,λz c hc=>?_⟩;obtain⟨j,hj⟩:=dS.mp hc;rcases h.new j c hj with rfl|e|e
 ·rw[h.run]at hj
  (injection hj;subst_vars)
  intro i hi p;simp only[rm,cS.subst,dh,di,cn,bU,cj,cq,cm,cr];rw[if_neg (by exact λe_=>b7 0x77fa1082281a90819108213 l2 hi e_)]
 ·exact e _
 ·exact(z c (ci e)).mono (b7 0x19a0818a0819812 l1 this)
noncomputable def BA (q:Nat) (ws:List (Fin 9)) (σ:ah):ah:=
 ((((σ.set (q+1) .dead).map (cS.subst (q+1) (.list (qy ws)))).set q .dead).map (cS.subst q (.obj "Run" ["arguments"] [.list (qy ws)])))
theorem Pc.froz_at (h:Pc k σ₀ q ws σ) (hc:kP σ₀) (j:Nat):(BA q ws σ)[j]?=if j=q\/j=q+1 then some .dead else σ[j]?:=by
 have l1:=(ao.mp h.run).1;have l2:=(ao.mp h.lst).1;have hl:=h.len;unfold BA;refine(df).symm▸?_;by_cases z:j=q
 ·subst z;rw[bX (by simpa using l1),if_pos (.inl rfl)];rfl
 ·refine(bw (Ne.symm z)).symm▸(df).symm▸?_;by_cases y:j=q+1
  ·subst y;rw[bX l2,if_pos (.inr rfl)];rfl
  ·rw[bw (Ne.symm y),if_neg (by omega)]
   induction hj:σ[j]? with
   |none=>rfl
   |some c=>
    simp only[dF,Option.some.injEq];rcases h.new j c hj with e|e|e
    ·exact absurd e z
    ·rw[e 0 (q+1) (cy 0x110820000),e 0 q (cy 0x180000)]
    ·have:=hc c (ci e);rw[this (q+1) (bH 0x1109280819801 hl),this q (bH 0x1980819801 hl)]
theorem Pc.froz_go (h:Pc k σ₀ q ws σ) (hc:kP σ₀):Go k σ₀ (BA q ws σ):=by
 have hl:=h.len;refine⟨by simp only[BA,ar,dH];exact b7 0x19a0818a0819812 ((ao.mp h.run).1) hl,λj hj e=>?_,λj c e=>?_⟩
 ·rw[h.froz_at hc,if_neg (by omega)];exact h.old j hj e
 ·rw[h.froz_at hc]at e;split at e
  ·(injection e;subst_vars)
   exact .inl (iZ _ (.head _))
  ·rename_i z;rcases h.new j c e with y|y|y
   ·exact absurd (.inl y) z
   ·exact .inl y
   ·exact .inr y
theorem Pc.froz_scan (h:Pc k σ₀ q ws σ) (hc:kP σ₀) (hk:k<σ₀.length) {P:List Nat->Prop} (a:At k line σ d P):At k line (BA q ws σ) d P:=by
 obtain⟨p,a,b,c⟩:=a;have hl:=h.len;exact⟨p,by rw[h.froz_at hc,if_neg (by omega)];exact a,b,c⟩
open PySem
variable {W n:Nat} {σ:ah} {k:Nat} {line:List Nat} {d:Int} {ts:List Tok}
noncomputable def iN (k:Nat) (line:List Nat) (W n m:Nat) (b:Bool) (f:String):Prop:=∀{σ:ah} {ts:List Tok} {Q:PV->ah->Prop} {X:ah->Prop},kP σ->At k line σ (30-(m:Int)) (Lx · ts)->
 (∀r aF,pp m b ts=some r->Go k σ aF->At k line aF (30-(m:Int)) (Ti · r.2)->Q (pv r.1) aF)->(∀aF,pp m b ts=none->Gx k σ aF->X aF)->WP (C W n f [.loc k] σ) Q X
noncomputable def t9 (u t:Tok):Bool:=gu (o4 t) (o4 u)
theorem hdAm:∀t:Tok,(match bn t with|c::_=>vz "&" c|[]=>true)=t9 .amp t:=fi (by decide+kernel)
theorem hdSe:∀t:Tok,(match bn t with|c::_=>vz ";" c|[]=>true)=t9 .semi t:=fi (by decide+kernel)
theorem hdBa:∀t:Tok,(match bn t with|c::_=>vz "|" c|[]=>true)=t9 .bar t:=fi (by decide+kernel)
theorem hdLp:∀t:Tok,(match bn t with|c::_=>vz "(" c|[]=>true)=t9 .lp t:=fi (by decide+kernel)
theorem hdRp:∀t:Tok,(match bn t with|c::_=>vz ")" c|[]=>true)=t9 .rp t:=fi (by decide+kernel)
noncomputable def rS:Tok->Bool
 |.bar|.rp|.amp|.semi=>true
 |_=>false
theorem hdEn:∀t:Tok,(match bn t with|c::_=>vz "|)&;" c|[]=>true)=rS t:=fi (by decide+kernel)
theorem Jw (hu:Nat.ble (o4 u) 4=true) (h:t9 u t=true):t=u:=by
 have:=B4 h
 induction u<;>induction t<;>first|rfl|(simp[o4]at this;done)|(simp[o4]at hu;done)
theorem kK (hu:Nat.ble (o4 u) 4=true) (us:List Tok):sZ (t9 u) us=false\/∃vs,us=u::vs:=by
 induction us with
 |nil=>exact .inl rfl
 |cons t us=>
  induction h:t9 u t with
  |false=>exact .inl h
  |true=>exact .inr ⟨us,by rw[Jw hu h]⟩
theorem rL (hl:line.length<=60000) (h:At k line σ d (Lx · ts)):ts.length<=60000:=ae h.tlen hl
theorem Eh (e:pp m true ts=none):jo (pp m true) m (.lp::ts)=none:=by simp only[jo,e];rfl
theorem Eg (e:pp m true ts=some r) (z:sZ (t9 .rp) r.2=false):jo (pp m true) m (.lp::ts)=none:=by
 obtain⟨t,us⟩:=r;simp only[jo,e,aY]
 induction us with
 |nil=>rfl
 |cons u us=>induction u<;>first|rfl|cases z
theorem wX (e:pp m true ts=some r) (z:r.2=.rp::us):jo (pp m true) m (.lp::ts)=(gv m us).map λq=>(fv q.2.1 r.1,q.2.2):=by
 obtain⟨t,us'⟩:=r;have z:us'=.rp::us:=z;subst z;simp only[jo,e,aY];exact xM _ _ _
variable {Q:PV->ah->Prop} {X:ah->Prop}
theorem Ef (hW:60001<=W) (hl:line.length<=60000) (hline:iN k line W (n+4) m true "parse_line") (hc:kP σ) (h:At k line σ (30-(m:Int)) (Ti · (.lp::ts)))
  (q:∀r aF d,jo (pp m true) m (.lp::ts)=some r->Go k σ aF->At k line aF d (Ti · r.2)->Q (pv r.1) aF) (qx:∀aF,jo (pp m true) m (.lp::ts)=none->Gx k σ aF->X aF):
  WP (C W (n+5) "parse_block" [.loc k] σ) Q X:=
 b6 rfl rfl (kA hl (by intro i;exact nofun) h λaZ g1 h1=>hline (g1.gx.cls hc) h1
  (λr bK e2 g2 h2=>iK hW hl ")" (t9 .rp) hdRp h2.lx λgw g3 h3=>(kK (u:=.rp) rfl r.2).elim
   (λz=>.of rfl (.t (by rw[z];rfl) (.of (by kernel_rfl:_=some (aa "missing )")) (qx _ (Eg e2 z) ((g1.trans g2).trans g3).gx))))
   λ⟨us,eu⟩=>.of rfl (.f (by rw[eu];rfl) (kA hl (by intro i;exact nofun) (eu▸h3) λfq g4 h4=>lq (n:=n) hW hl h4 (rL hl h4)
    (λr' kQ e5 g5 h5=>zD r.1 r'.2.1▸q (fv r'.2.1 r.1,r'.2.2) _ _ (by rw[wX e2 eu,e5];rfl) ((((g1.trans g2).trans g3).trans g4).trans g5) h5)
    λkQ e5 g5=>qx _ (by rw[wX e2 eu,e5];rfl) ((((g1.trans g2).trans g3).trans g4).gx.trans g5))))
  λbK e2 g2=>qx _ (Eh e2) (g1.gx.trans g2))
theorem uT (h:σ[j]?=some (.list l)) (hl:l.length<=dm):sE σ "len" [.loc j]=some (.int l.length):=by
 show(listAt σ j).bind (λl=>if l.length<=dm then some (PV.int l.length)else none)=_;exact(listE h).symm▸if_pos hl
theorem vk (h:σ[q]?=some (rm j)):j6 σ (.loc q) "arguments"=some (.loc j):=AE h
theorem Bf {m:Nat} {ws:List (Fin 9)} {rs:List (Fin 3×Fin 9)} {ts:List Tok} (h:ts=[]\/sZ rS ts=true):ij m ws rs ts=some (fv rs (.run ws),ts):=by
 induction ts with
 |nil=>rfl
 |cons t ts=>
  rcases h with h|h
  ·contradiction
  ·induction t<;>first|rfl|(cases h;done)
theorem xU {m:Nat} {ws:List (Fin 9)} {rs:List (Fin 3×Fin 9)} {ts:List Tok} (h:sZ rS ts=false) (h0:ts≠[]) (h2:Bw ts=false):ij m ws rs ts=none:=by
 induction ts with
 |nil=>exact absurd rfl h0
 |cons t ts=>
  induction t<;>first|rfl|(cases h;done)|(cases h2;done)
theorem kZ (ws:List (Fin 9)):(qy ws).length=ws.length:=ar ..
inductive Pr (k:Nat) (line:List Nat) (σ₀:ah) (q:Nat) (R:Option (T×List Tok)) (a:Nat×List (Fin 9)×List (Fin 3×Fin 9)×List Tok) (σ:ah):Prop
 |mk:Pc k σ₀ q a.2.1 σ->At k line σ (30-(a.1:Int)) (Lx · a.2.2.2)->R=ij a.1 a.2.1 a.2.2.1 a.2.2.2->a.2.1.length<=9->Pr k line σ₀ q R a σ
noncomputable def C2 (k q:Nat) (rs:List (Fin 3×Fin 9)):aE:=[("scanner",.loc k),("program",.loc q),("found",mx rs (.loc q))]
noncomputable def pgL (k:Nat) (line:List Nat) (σ₀:ah) (q:Nat) (R:Option (T×List Tok)):Lp (Nat×List (Fin 9)×List (Fin 3×Fin 9)×List Tok):=⟨λa=>C2 k q a.2.2.1,Pr k line σ₀ q R,λa=>a.2.2.2.length⟩
theorem At.set_ne {P:List Nat->Prop} (h:At k line σ d P) (hj:j≠k) (c:cS):At k line (σ.set j c) d P:=by
 obtain⟨p,a,b,e⟩:=h;exact⟨p,by rw[bw hj];exact a,b,e⟩
theorem A6 (m:Nat) (ts:List Tok):∀r:Nat×List (Fin 3×Fin 9)×List Tok,gv m ts=some r->r.2.2.length<=ts.length:=
 xP (P:=λm ts=>∀r:Nat×List (Fin 3×Fin 9)×List Tok,gv m ts=some r->r.2.2.length<=ts.length) (λm ts h r e=>by rw[lu h]at e;cases e;exact au _) (λm k us h r e=>by rw[ly h]at e;cases e) (λm k w ts ih r e=>by
  obtain⟨r',h1,h2⟩:=aS.mp (show(gv m ts).map _=some r from e);exact h2▸bP (bP (ih r' h1))) m ts
variable {N B:aE->ah->Prop} {R:PV->ah->Prop} {aF:ah} {m:Nat} {ws:List (Fin 9)} {rs:List (Fin 3×Fin 9)} {us:List Tok}
theorem GH (q:Nat):PV.subst q (.obj "Run" ["arguments"] [.list (qy ws)]) (PV.subst (q+1) (.list (qy ws)) (mx rs (.loc q)))=pv (fv rs (.run ws)):=by
 rw[pN,pN,zD]
 congr 1
 simp only[cn,bU,cj,cq,cm,cr];rw[if_neg (dr (b8 q))];simp only[cn,bU,cj,cq,cm,cr,if_true];rfl
theorem DL (q:Nat):PV.subst (q+1) (.list (qy ws)) (.loc q)=.loc q:=by
 simp only[cn,bU,cj,cq,cm,cr];exact(if_neg (dr (b8 q))).symm▸rfl
theorem DK (h:Pc k σ q ws aF):((((aF.set (q+1) .dead).map (cS.subst (q+1) (.list (qy ws))))[q]?).bind cS.pv?)=some (.obj "Run" ["arguments"] [.list (qy ws)]):=by
 rw[df,bw (f0 (b8 q)),h.run];simp only[rm,dF,cS.subst,dh,di,cn,bU,cj,cq,cm,cr,if_true,aY,cS.pv?]
theorem CX (pc:Pc k σ q ws aF) (h:R (pv (fv rs (.run ws))) (BA q ws aF)):dO (C W n) W (d6.drop 4) (C2 k q rs) N B R X aF:=
by
 rw[<-GH q]at h;exact .of (vk pc.run) (.mk (q+1) (.list (qy ws)) rfl (by rw[pc.lst];rfl) (.mk q (.obj "Run" ["arguments"] [.list (qy ws)]) (DL q) (DK pc) h))
theorem AO (us:List Tok):Bw us=false\/∃w vs,us=.wd w::vs:=(vL us).elim (λh=>.inl h.1) .inr
theorem A9 (hW:60001<=W) (hl:line.length<=60000) (hq:k<q) (hk:k<σ.length) (pc:Pc k σ q ws aF) (h:At k line aF (30-(m:Int)) (Lx · (.wd w::us))) (hn:ws.length<9)
  (hN:∀(a:Nat×List (Fin 9)×List (Fin 3×Fin 9)×List Tok) ρ bK,ij m ws rs (.wd w::us)=ij a.1 a.2.1 a.2.2.1 a.2.2.2->a.2.1.length<=9->Sub (C2 k q a.2.2.1) ρ->Pc k σ q a.2.1 bK->At k line bK (30-(a.1:Int)) (Lx · a.2.2.2)->a.2.2.2.length<us.length+1->N ρ bK)
  (qx:∀bK,ij m ws rs (.wd w::us)=none->Gx k σ bK->X bK):dO (C W (n+5)) W [] (C2 k q rs) (λρ σ=>dO (C W (n+5)) W ((xv (qf d6 3)).drop 2) ρ N B R X σ) B R X aF:=by
 have e9:ij m ws rs (.wd w::us)=(gv m us).bind λr=>ij r.1 (ws++[w]) (rs++r.2.1) r.2.2:=(if_neg (dr hn)).trans (rn _ _ _ _);refine .of (vk pc.run) ⟨(rj pc.lst).1,zn hW hl h λML g7 h7=>?_⟩;have pc7:=pc.go hk g7;refine .ok (oQ pc7.lst (by rw[kZ];exact gM hn (by decide))) ?_;refine(show qy ws++[.str (wS w)]=qy (ws++[w]) by simp[qy]).symm▸?_;have pc8:=pc7.push w;have h8:=h7.set_ne (f0 (gq hq)) (.list (qy (ws++[w])));exact lq (n:=n+1) hW hl h8 (rL hl h8) (λr H5 e10 g9 h9=>hN (r.1,ws++[w],rs++r.2.1,r.2.2) _ _ (by rw[e9,e10];rfl) (by rw[af];exact hn) ⟨rfl,rfl,by simp only[mx,List.foldl_append];rfl,trivial⟩ (pc8.go hk g9) h9.lx
  (Hn (A6 _ _ _ e10))) λH5 e10 g9=>qx _ (by rw[e9,e10];rfl) (pc8.gx.trans g9)
theorem ud {α:Type} (us:List α):us=[]\/us.isEmpty=false/\us≠[]:=by induction us<;>simp
theorem Bd (hW:60001<=W) (hl:line.length<=60000) (hq:k<q) (hk:k<σ.length) (pc:Pc k σ q ws aF) (h:At k line aF (30-(m:Int)) (Lx · us)) (hn:ws.length<=9) (he:sZ rS us=false) (h0:us≠[])
  (hN:∀(a:Nat×List (Fin 9)×List (Fin 3×Fin 9)×List Tok) ρ bK,ij m ws rs us=ij a.1 a.2.1 a.2.2.1 a.2.2.2->a.2.1.length<=9->Sub (C2 k q a.2.2.1) ρ->Pc k σ q a.2.1 bK->At k line bK (30-(a.1:Int)) (Lx · a.2.2.2)->a.2.2.2.length<us.length->N ρ bK)
  (qx:∀bK,ij m ws rs us=none->Gx k σ bK->X bK):dO (C W (n+5)) W (xv (qf d6 3)) (C2 k q rs) N B R X aF:=
 t8 hW hl h λEu g6 h6=>have pc:=pc.go hk g6
 (AO us).elim (λhw=>.of rfl (.t (by rw[hw];rfl) (.of (by kernel_rfl:_=some (aa "syntax")) (qx _ (xU he h0 hw) pc.gx))))
  λ⟨w,vs,ew⟩=>.of rfl (.f (by rw[ew];rfl) (.of (vk pc.run) (.of (uT pc.lst (by rw[kZ];exact ae hn (by decide))) (.of rfl (.of (eK _ _) (.dec'
   (λz=>.of (by kernel_rfl:_=some (aa "too many arguments")) (qx _ (by rw[ew];exact if_pos (M2.mp (kZ ws▸z))) pc.gx))
   λz=>A9 (n:=n) hW hl hq hk pc (ew▸h6.lx) (iA hn λe=>z (by rw[kZ,e];rfl)) (λa ρ bK e1 e2 e3 e4 e5 e6=>hN a ρ bK (ew▸e1) e2 e3 e4 e5 (by rw[ew];exact e6)) λbK e g=>qx bK (ew▸e) g))))))
theorem Ba (hW:60001<=W) (hl:line.length<=60000) (hq:k<q) (hk:k<σ.length) (pc:Pc k σ q ws aF) (h:At k line aF (30-(m:Int)) (Lx · us)) (hn:ws.length<=9)
  (hN:∀(a:Nat×List (Fin 9)×List (Fin 3×Fin 9)×List Tok) ρ bK,ij m ws rs us=ij a.1 a.2.1 a.2.2.1 a.2.2.2->a.2.1.length<=9->Sub (C2 k q a.2.2.1) ρ->Pc k σ q a.2.1 bK->At k line bK (30-(a.1:Int)) (Lx · a.2.2.2)->a.2.2.2.length<us.length->N ρ bK)
  (hB:∀bK,Pc k σ q ws bK->At k line bK (30-(m:Int)) (Ti · us)->us=[]\/sZ rS us=true->B (C2 k q rs) bK)
  (qx:∀bK,ij m ws rs us=none->Gx k σ bK->X bK):
  iC (C W (n+5)) X (C2 k q rs) (lpC (qf d6 3)) (λc aF=>lW c (dO (C W (n+5)) W (xv (qf d6 3)) (C2 k q rs) N B R X aF) (B (C2 k q rs) aF)) aF:=
 sJ hW hl h λfq g4 h4=>.of rfl (.of rfl ((ud us).elim
  (λe=>.f (by rw[e];rfl) (.f (by rw[e];rfl) (hB _ (pc.go hk g4) h4 (.inl e))))
  λe=>.t (by rw[e.1];rfl) (iK hW hl "|)&;" rS hdEn h4.lx λkQ g5 h5=>(Bool.eq_false_or_eq_true (sZ rS us)).elim
   (λhe=>.of rfl (.f (by rw[he];rfl) (hB _ ((pc.go hk g4).go hk g5) h5 (.inr he))))
   λhe=>.of rfl (.t (by rw[he];rfl) (Bd (n:=n) hW hl hq hk ((pc.go hk g4).go hk g5) h5.lx hn he e.2 hN qx)))))
theorem Pc.open:Pc k σ σ.length [] (σ++[rm (σ.length+1),.list []]):=by
 refine⟨au _,λj hj ö=>aR hj,iM,oP,λj c e=>?_⟩;by_cases hj:j<σ.length
 ·rw[aR hj]at e;exact .inr (.inr e)
 ·by_cases hj2:j=σ.length
  ·exact .inl hj2
  ·replace e:=(cI (du hj))▸e;have:j-σ.length=1:=by
    have:=(ao.mp e).1;simp at this
    omega
   replace e:=(this)▸e
   (injection e;subst_vars)
   exact .inr (.inl (zZ []))
theorem FC (hW:60001<=W) (hl:line.length<=60000) (hc:kP σ) (h:At k line σ (30-(m:Int)) (Ti · ts))
  (q:∀r aF d,f9 m [] [] ts=some r->Go k σ aF->At k line aF d (Ti · r.2)->R (pv r.1) aF) (qx:∀aF,f9 m [] [] ts=none->Gx k σ aF->X aF):
  dO (C W (n+5)) W (d6.drop 1) [("scanner",.loc k)] N B R X σ:=
 have hk:=h.klt;have e0:=rn m ts [] []
 .of rfl (FV (lq (n:=n+1) hW hl (h.lx.app _) (rL hl h.lx) (λr bK e3 g2 h2=>
  .mk (pgL k line σ σ.length (f9 m [] [] ts)) ⟨(r.1,[],r.2.1,r.2.2),⟨rfl,rfl,rfl,trivial⟩,⟨Pc.open.go hk g2,h2.lx,by rw[e0,e3];rfl,aL _⟩,bf (rL hl h2.lx) hW⟩
   λa gw ⟨pc,sc,eq,nine⟩ N B hN hB=>Ba (n:=n) hW hl hk hk pc sc nine (λa' ρ fq e1 e2 e3 e4 e5 e6=>hN _ _ ⟨a',e3,⟨e4,e5,eq.trans e1,e2⟩,e6⟩)
    (λfq pc sc he=>hB _ _ (CX pc (q (fv a.2.2.1 (.run a.2.1),a.2.2.2) _ _ (by rw[eq,Bf he]) (pc.froz_go hc) (pc.froz_scan hc hk sc)))) λfq e g=>qx _ (eq.trans e) g)
  λbK e3 g2=>qx _ (by rw[e0,e3];rfl) (Pc.open.gx.trans g2)))
open PySem
variable {W n m:Nat} {σ:ah} {k:Nat} {line:List Nat} {d:Int} {ts us:List Tok} {Q:PV->ah->Prop} {X:ah->Prop} {r:T×List Tok} {t:T}
theorem v5 (z:sZ (t9 .lp) ts=false):jo (pp m true) m ts=f9 m [] [] ts:=by
 induction ts with
 |nil=>rfl
 |cons t us=>induction t<;>first|rfl|cases z
theorem yA (hW:60001<=W) (hl:line.length<=60000) (hline:iN k line W (n+4) m true "parse_line") (hc:kP σ) (h:At k line σ (30-(m:Int)) (Lx · ts))
  (q:∀r aF d,jo (pp m true) m ts=some r->Go k σ aF->At k line aF d (Ti · r.2)->Q (pv r.1) aF) (qx:∀aF,jo (pp m true) m ts=none->Gx k σ aF->X aF):
  WP (C W (n+6) "parse_command" [.loc k] σ) Q X:=
 b6 rfl rfl (iK hW hl "(" (t9 .lp) hdLp h λaZ g1 h1=>(kK (u:=.lp) rfl ts).elim
  (λz=>.f (by rw[z];rfl) (FC (n:=n) hW hl (g1.gx.cls hc) h1 (λr aF d e g=>q r aF d ((v5 z).trans e) (g1.trans g)) λaF e g=>qx aF ((v5 z).trans e) (g1.gx.trans g)))
  λ⟨us,eu⟩=>.t (by rw[eu];rfl) (Ef hW hl hline (g1.gx.cls hc) (eu▸h1) (λr aF d e g=>q r aF d (eu▸e) (g1.trans g)) λaF e g=>qx aF (eu▸e) (g1.gx.trans g)))
theorem kC {P:List Nat->Prop} (h:At k line σ d P) (q:Int) {K:ah->Prop} (f:∀aF,Go k σ aF->At k line aF q P->K aF):fb (dC σ (.loc k) "deep" (.int q)) K:=
 have⟨p,a,b,c⟩:=h
 .of (zx a q) (f _ .set ⟨p,fk a,b,c⟩)
theorem Aj {P:List Nat->Prop} (h:At k line σ (30-((m+1:Nat):Int)) P) (q:∀aF,Go k σ aF->At k line aF (30-(m:Int)) P->Q (.int (30-((m+1:Nat):Int))) aF):
  MethP "Scanner" (.loc k) σ λo=>WP (C W (n+1) "Scanner.enter" [o] σ) Q X:=qQ h (λm' aF em g h=>q aF g (Nat.succ.inj em▸h)) λö em ö=>absurd em (Io m)
theorem Ak {P:List Nat->Prop} (h:At k line σ (30-((0:Nat):Int)) P) (qx:∀aF,Go k σ aF->X aF):
  MethP "Scanner" (.loc k) σ λo=>WP (C W (n+1) "Scanner.enter" [o] σ) Q X:=qQ h (λm' aF em g h=>absurd em.symm (Io m')) λaF ö=>qx aF
theorem An:30-((m+1:Nat):Int)+1=30-(m:Int):=aM (cy 0x1861e21410108261e214230) (cy 0x110108261e2142861e21430)
theorem FG (e:jo (pp m true) m ts=none):pp (m+1) false ts=none:=by simp only[mB,mz,my,e];rfl
theorem FE (e:jo (pp m true) m ts=some r) (z:sZ (t9 .bar) r.2=false):pp (m+1) false ts=some r:=by
 obtain⟨t,us⟩:=r;simp only[mB,mz,my,e,aY]
 induction us with
 |nil=>rfl
 |cons u us=>induction u<;>first|rfl|cases z
theorem CZ (e:jo (pp m true) m ts=some r) (z:r.2=.bar::us):pp (m+1) false ts=(pp m false us).map λz=>(.pair false r.1 z.1,z.2):=by simp only[mB,mz,my,e,aY,z]
theorem FJ (hW:60001<=W) (hl:line.length<=60000) (hline:iN k line W (n+4) m true "parse_line") (hpipe:iN k line W (n+6) m false "parse_pipe"):iN k line W (n+7) (m+1) false "parse_pipe":=λhc h q qx=>
 b6 rfl rfl (Aj h λaZ g1 h1=>yA (n:=n) hW hl hline (g1.gx.cls hc) h1 (λr bK d e2 g2 h2=>iK hW hl "|" (t9 .bar) hdBa h2.lx λgw g3 h3=>have G:=(g1.trans g2).trans g3
  (kK (u:=.bar) rfl r.2).elim
   (λz=>.f (by rw[z];rfl) (kC h3 (30-((m+1:Nat):Int)) λfq g4 h4=>q r _ (FE e2 z) (G.trans g4) h4))
   λ⟨us,eu⟩=>.t (by rw[eu];rfl) (kA hl (by intro i;exact nofun) (eu▸h3) λfq g4 h4=>.of rfl (kC h4 _ λkQ g5 h5=>have G:=(G.trans g4).trans g5
    hpipe (G.gx.cls hc) (An▸h5) (λz Eu e6 g6 h6=>kF (kC (h6.app [.dead]) (30-((m+1:Nat):Int)) λH6 g8 h8=>
     q (.pair false r.1 z.1,z.2) _ (by rw[CZ e2 eu,e6];rfl) (((G.trans g6).trans (.app iZ)).trans g8) h8)) λEu e6 g6=>qx _ (by rw[CZ e2 eu,e6];rfl) (G.gx.trans g6))))
  λbK e2 g2=>qx _ (FG e2) (g1.gx.trans g2))
theorem Ep (z:sZ (t9 .amp) us=false):i5 m us t=some (t,us):=(pJ (λr e=>by
 replace z:=(e)▸z;contradiction)) m t
theorem J8:i5 0 (.amp::us) t=none:=rfl
theorem J7:i5 (m+1) (.amp::us) t=i5 m us (.back t):=rfl
theorem Ge (e:pp m false ts=none):pp (m+1) true ts=none:=by simp only[mB,mz,my,e];rfl
theorem Jm (e:pp m false ts=some r) (a:i5 m r.2 r.1=none):pp (m+1) true ts=none:=by simp only[mB,mz,my,e,a,aY];rfl
theorem Gd {p:T×List Tok} (e:pp m false ts=some r) (a:i5 m r.2 r.1=some p) (z:sZ (t9 .semi) p.2=false):pp (m+1) true ts=some p:=by
 obtain⟨t,us⟩:=p;simp only[mB,mz,my,e,a,aY]
 induction us with
 |nil=>rfl
 |cons u us=>induction u<;>first|rfl|cases z
theorem z0 {p:T×List Tok} (e:pp m false ts=some r) (a:i5 m r.2 r.1=some p) (z:p.2=.semi::us):pp (m+1) true ts=(pp m true us).map λz=>(.pair true p.1 z.1,z.2):=by
 simp only[mB,mz,my,e,a,aY,z]
inductive LnI (k:Nat) (line:List Nat) (σ:ah) (A:Option (T×List Tok)) (a:Nat×T×List Tok) (aF:ah):Prop
 |mk:Go k σ aF->At k line aF (30-(a.1:Int)) (Lx · a.2.2)->A=i5 a.1 a.2.2 a.2.1->LnI k line σ A a aF
noncomputable def Jn (k m:Nat) (t:T):aE:=[("scanner",.loc k),("deep",.int (30-((m+1:Nat):Int))),("found",pv t)]
noncomputable def lnL (k:Nat) (line:List Nat) (σ:ah) (m:Nat) (A:Option (T×List Tok)):Lp (Nat×T×List Tok):=⟨λa=>Jn k m a.2.1,LnI k line σ A,λa=>a.2.2.length⟩
variable {N B:aE->ah->Prop} {R:PV->ah->Prop}
theorem Dn (hW:60001<=W) (hl:line.length<=60000) (hline:iN k line W (n+7) m true "parse_line") (hc:kP σ) (h:At k line σ d (Lx · us))
  (q1:∀aF,sZ (t9 .semi) us=false->Go k σ aF->At k line aF (30-((m+1:Nat):Int)) (Ti · us)->R (pv t) aF)
  (q2:∀vs z aF,us=.semi::vs->pp m true vs=some z->Go k σ aF->At k line aF (30-((m+1:Nat):Int)) (Ti · z.2)->R (pv (.pair true t z.1)) aF)
  (qx:∀vs aF,us=.semi::vs->pp m true vs=none->Gx k σ aF->X aF):dO (C W (n+7)) W (jt.drop 3) (Jn k m t) N B R X σ:=
 iK hW hl ";" (t9 .semi) hdSe h λaZ g1 h1=>(kK (u:=.semi) rfl us).elim
  (λz=>.f (by rw[z];rfl) (kC h1 (30-((m+1:Nat):Int)) λbK g2 h2=>q1 _ z (g1.trans g2) h2))
  λ⟨vs,eu⟩=>.t (by rw[eu];rfl) (kA hl (by intro i;exact nofun) (eu▸h1) λbK g2 h2=>.of rfl (kC h2 _ λgw g3 h3=>have G:=(g1.trans g2).trans g3
   hline (G.gx.cls hc) (An▸h3) (λz fq e4 g4 h4=>kF (kC (h4.app [.dead]) (30-((m+1:Nat):Int)) λkQ g5 h5=>q2 vs z _ eu e4 (((G.trans g4).trans (.app iZ)).trans g5) h5))
    λfq e4 g4=>qx vs _ eu e4 (G.gx.trans g4)))
theorem Bq (hW:60001<=W) (hl:line.length<=60000) {m2:Nat} (h:At k line σ (30-(m2:Int)) (Lx · us))
  (hN:∀m3 vs ρ aF,m2=m3+1->us=.amp::vs->Sub (Jn k m (.back t)) ρ->Go k σ aF->At k line aF (30-(m3:Int)) (Lx · vs)->N ρ aF)
  (hB:∀aF,sZ (t9 .amp) us=false->Go k σ aF->At k line aF (30-(m2:Int)) (Lx · us)->B (Jn k m t) aF)
  (qx:∀vs aF,m2=0->us=.amp::vs->Gx k σ aF->X aF):
  iC (C W (n+7)) X (Jn k m t) (lpC (qf jt 2)) (λc σ=>lW c (dO (C W (n+7)) W (xv (qf jt 2)) (Jn k m t) N B R X σ) (B (Jn k m t) σ)) σ:=
 iK hW hl "&" (t9 .amp) hdAm h λaZ g1 h1=>(kK (u:=.amp) rfl us).elim (λz=>.f (by rw[z];rfl) (hB _ z g1 h1.lx))
  λ⟨vs,eu⟩=>.t (by rw[eu];rfl) (kA hl (by intro i;exact nofun) (eu▸h1) λbK g2 h2=>qQ h2
   (λm3 gw em g3 h3=>wg (hN m3 vs _ _ em eu ⟨rfl,rfl,rfl,trivial⟩ (((g1.trans g2).trans g3).trans (.app iZ)) (h3.app _)))
   λgw em g3=>qx vs _ em eu ((g1.trans g2).trans g3).gx)
theorem Gg (hW:60001<=W) (hl:line.length<=60000) (hpipe:iN k line W (n+7) m false "parse_pipe") (hline:iN k line W (n+7) m true "parse_line"):iN k line W (n+8) (m+1) true "parse_line":=λ{σ ts Q X} hc h q qx=>
 b6 rfl rfl (Aj h λaZ g1 h1=>hpipe (g1.gx.cls hc) h1 (λr bK e2 g2 h2=>
  .mk (lnL k line σ m (i5 m r.2 r.1)) ⟨(m,r.1,r.2),⟨rfl,rfl,rfl,trivial⟩,⟨g1.trans g2,h2.lx,rfl⟩,bf (rL hl h2.lx) hW⟩ λa gw ⟨g3,h3,ea⟩ N B hN hB=>
   Bq (n:=n) hW hl h3
    (λm3 vs ρ fq em eu es g4 h4=>hN _ _ ⟨(m3,.back a.2.1,vs),es,⟨g3.trans g4,h4,by rw[ea,em,eu];exact J7⟩,by show vs.length<a.2.2.length;rw[eu];exact b8 _⟩)
    (λfq ez g4 h4=>hB _ _ (have G:=g3.trans g4
     have e3:i5 m r.2 r.1=some (a.2.1,a.2.2):=by rw[ea,Ep ez]
     Dn (n:=n) hW hl hline (G.gx.cls hc) h4 (λkQ ez g5 h5=>q _ _ (Gd e2 e3 ez) (G.trans g5) h5)
      (λvs z kQ eu e5 g5 h5=>q (.pair true a.2.1 z.1,z.2) _ (by rw[z0 e2 e3 eu,e5];rfl) (G.trans g5) h5) λvs kQ eu e5 g5=>qx _ (by rw[z0 e2 e3 eu,e5];rfl) (G.gx.trans g5)))
    λvs fq em eu g4=>qx _ (Jm e2 (by rw[ea,em,eu];exact J8)) (g3.gx.trans g4))
  λbK e2 g2=>qx _ (Ge e2) (g1.gx.trans g2))
theorem Iu:iN k line W (n+2) 0 true "parse_line":=λhc h q qx=>b6 rfl rfl (Ak h λaF g=>qx _ (by simp only[mB,mz,my]) g.gx)
theorem It:iN k line W (n+2) 0 false "parse_pipe":=λhc h q qx=>b6 rfl rfl (Ak h λaF g=>qx _ (by simp only[mB,mz,my]) g.gx)
theorem GX (hW:60001<=W) (hl:line.length<=60000) (m:Nat):∀n,3*m<=n->iN k line W (n+8) m true "parse_line"/\iN k line W (n+8) m false "parse_pipe":=by
 induction m with
 |zero=>exact λn ö=>⟨Iu,It⟩
 |succ m ih=>
  intro n h;obtain⟨n',e⟩:=aP (jc (n:=3) h);subst e;have h:3*m<=n':=gD (b:=3) h;have h2:=ae h (bG n' 2);exact⟨Gg (n:=n'+3) hW hl (ih (n'+2) h2).2 (ih (n'+2) h2).1,FJ (n:=n'+4) hW hl (ih n' h).1 (ih (n'+2) h2).2⟩
open PySem
variable {W n:Nat} {σ:ah} {ts:List Tok}
theorem jT:∀t:T,sz t<=2*(fA t).length+1
 |.run ws=>by simp only[i9,ja,gJ,gK,eA,dK,dz,dA,ar];exact cy 0x11082032108200
 |.red c p k=>by have:=jT c;simp only[i9,ja,gJ,gK,eA,dK,dz,dA,af,aj,bc];exact bH 0x1101010002292203220820811092032801 this
 |.pair s l r=>by have:=jT l;have:=jT r;simp only[i9,ja,gJ,gK,eA,dK,dz,dA,af,aj];exact d3 0x11010b292203210a82208110b2032a0811092032802 ‹_› this
 |.back c=>by have:=jT c;simp only[i9,ja,gJ,gK,eA,dK,dz,dA,af,aj,bc];exact bH 0x1101000292203210820811092032801 this
theorem iX:∀t:T,jN t<=(fA t).length
 |.run ws=>aL _
 |.red c p k=>by have:=iX c;simp only[uY,rU,rV,eA,dK,dz,dA,af,aj,bc];exact bH 0x1101000229210820819801 this
 |.pair s l r=>by have:=iX l;have:=iX r;simp only[uY,rU,rV,eA,dK,dz,dA,af,aj];exact(aN (jN l) (jN r)).elim (λw0=>d3 0x11092b210a20818a2819802 this (cW w0)) (λw0=>d3 0x110b29210a20818a2819802 ‹_› (fe w0))
 |.back c=>by have:=iX c;simp only[uY,rU,rV,eA,dK,dz,dA,af,aj,bc];exact bH 0x1100029210820819801 this
theorem Ka (h:a.length+b.length<=dm):∃c,jO .add (.str a) (.str b)=some (.str c)/\c.length=a.length+b.length:=by
 refine⟨⟨a.cps++b.cps⟩,?_,by simp[Str.length]⟩;exact if_pos (by show(a.cps++b.cps).size<=dm;rw[kT];exact h)
theorem IL (h:cs.length<=dm) (p:Int):∃c:Str,pb (St cs) (some p) none=some (.str c)/\c.length<=cs.length:=by
 refine⟨⟨(sliceL cs (some p) none).toArray⟩,?_,?_⟩
 ·show(if(⟨cs.toArray⟩:Str).length<=dm then some (PV.str ⟨(sliceL cs.toArray.toList (some p) none).toArray⟩)else none)=_;rw[if_pos (by show cs.toArray.size<=dm;simpa using h)]
 ·show((cs.take _).drop _).toArray.size<=_;simp;exact b7 0x1a9280819801 (gL _ _)
theorem Fz (h:s.length<=dm):((PV.str s).str?.bind λs=>if s.length<=dm then some s else none)=some s:=if_pos h
theorem tV (cs:List Nat) (p d:Int) (n:Nat):∀c∈[iE cs p d],xk n c:=λc hc=>by
 refine(aC.mp hc).symm▸?_;exact tW _ _ _ _
theorem Gx.kp (g:Gx σ.length (σ++[iE cs 0 0]) aF):Kp σ aF:=by
 have l:σ.length+1<=aF.length:=by have:=g.len;rw[af]at this;exact this
 exact⟨cZ l,λj hj=>(g.old j (by rw[af];exact gq hj) (dr hj)).trans (aR hj),λq=>g.cls (q.app (tV _ _ _ _))⟩
noncomputable def JZ:PV->Bool
 |.str s=>decide ((s.cps.toList.headD 0:Int)>255)
 |_=>false
theorem Jg (h:Lx cs ts):((m0 ⟨cs.toArray⟩).filter JZ).map id=[]:=by
 rw[n6,zd];intro v hv;obtain⟨c,hc,rfl⟩:=bv.mp hv;have:=aJ.mp h.ascii c (by simpa using hc);simp only[decide_eq_true_eq]at this;simp[JZ];exact cy 0x1ff21863818021811 this
theorem Dq:(aa "leftovers: ").length=11:=by decide+kernel
variable {N B:aE->ah->Prop} {R Q:PV->ah->Prop} {X:ah->Prop} {us:List Tok} {d:Int} {k:Nat} {cs:List Nat}
theorem Bi (hW:60001<=W) (hl:cs.length<=60000) (h:At k cs σ d (Lx · us)) (q:∀aF,us=[]->Go k σ aF->R v aF) (qx:∀aF,us≠[]->Go k σ aF->X aF):
  dO (C W (n+2)) W (AC.drop 4) [("line",St cs),("scanner",.loc k),("found",v)] N B R X σ:=
 sJ hW hl h λaZ g1 h1=>(ud us).elim (λe=>.of rfl (.f (by rw[e];rfl) (q _ e g1))) λe=>
  have⟨p,h2,_,_⟩:=h1;have⟨s1,f1,f2⟩:=IL (cs:=cs) (ae hl (by decide)) p;have f5:(aa "leftovers: ").length+s1.length<=dm:=ae (KS (bZ Dq) (ae f2 hl)) (by decide);have⟨s2,f3,f4⟩:=Ka f5
  .of rfl (.t (by rw[e.1];rfl) (.of (ed h2) (.of (cJ h2) (.of f1 (.of f3 (.of (Fz (f4▸f5)) (qx _ e.2 g1)))))))
theorem v6 (hW:60001<=W) (hc:kP σ) (h:Tx v ts) (hl:ts.length<=10000) (hn:98<=n) (q:∀t aF,ik ts=some t->Kp σ aF->Q (pv t) aF) (qx:∀aF,ik ts=none->Kp σ aF->X aF):
  WP (C W (n+1) "parse" [v] σ) Q X:=by
 refine h.le hl λcs e h2 h3 h4=>?_;subst e;obtain⟨n,rfl⟩:=aP (ae (by decide:8<=98) hn);have hl:cs.length<=60000:=ae h4 (by decide);have h0:At σ.length cs (σ++[iE cs 0 0]) (30-((30:Nat):Int)) (Lx · ts):=⟨0,iM,aL _,h2⟩;have hc1:kP (σ++[iE cs 0 0]):=hc.app (tV _ _ _ _);refine b6 rfl rfl (.of rfl (.f rfl (.of rfl (ie JZ id (λv hv=>?_) ?_))))
 ·obtain⟨c,hc,rfl⟩:=bv.mp hv;exact⟨_,rfl,λQ hQ=>.of rfl (.of rfl hQ),λö Q hQ=>hQ⟩
 ·refine(Jg h2).symm▸?_;exact⟨by simp[m0];exact ae hl (by decide),.of rfl (.of rfl (.of (a:=.bool false) (by kernel_rfl) (.f rfl (Da ((GX hW hl 30 n (gD (b:=8) hn)).1 hc1 h0
   (λr bK e2 g2 h2=>Bi (n:=n+6) hW hl h2.lx (λgw e g=>q r.1 _ (by obtain⟨t,us⟩:=r;have e:us=[]:=e;rw[ik,e2,e]) (g2.trans g).gx.kp)
    λgw e g=>qx _ (by obtain⟨t,us⟩:=r;rw[ik,e2];induction us with|nil=>exact absurd rfl e|cons _ _=>rfl) (g2.trans g).gx.kp)
   λbK e2 g2=>qx _ (by rw[ik,e2]) g2.kp)))))⟩
theorem rB (h:ik ts=some t):jN t<=(ts.filter np).length/\sz t<=2*(ts.filter np).length+1:=by
 have e:=(jX h).perm.length_eq;have:=iX t;have:=jT t;exact⟨b7 0x18a0819a07f9822 e ‹_›,b7 0x11082032a0811092032a07e9822 e this⟩
theorem uD (hW:60001<=W) (hc:kP σ) (h:Tx v ts) (hl:ts.length<=4000) (hn:98<=n) (hm:(ts.filter np).length+1<=n) (q:∀aF,Kp σ aF->Q (kD (ik ts)) aF):WP (C W (n+2) "_law_read" [v] σ) Q vA:=
 b6 rfl rfl (v6 hW hc h (ae hl (by decide)) hn (λt aZ e k=>have⟨s1,s2⟩:=rB e
  Ae t (n:=n+1) (bP (ae (aK s1) hm)) (ae s2 (bH 0x1271041109203208289082fa031802 hl (eR np ts))) (by rw[e]at q;exact q _ k)) λaZ e k=>by rw[e]at q;exact q _ k)
open PySem
variable {W n:Nat} {σ:ah}
noncomputable def oI (l s:Int):cS:=.list [.int l,.int s]
inductive Bx (σ:ah):Prop
 |mk (l s:Int):σ[0]?=some (oI l s)->Bx σ
structure Kb (σ aF:ah):Prop where
 len:σ.length<=aF.length
 old:∀j,j<σ.length->j≠0->aF[j]?=σ[j]?
 cls:kP σ->kP aF
 bx:Bx aF
theorem Kb.trans {a b c:ah} (h:Kb a b) (g:Kb b c):Kb a c:=⟨ae h.len g.len,λi hi hk=>(g.old i (aO hi h.len) hk).trans (h.old i hi hk),λq=>g.cls (h.cls q),g.bx⟩
theorem Kp.kb (h:Kp a b) (x:Bx a):Kb a b:=⟨h.len,λj hj ö=>h.old j hj,h.cls,have⟨l,s,e⟩:=x;⟨l,s,(h.old 0 (ao.mp e).1).trans e⟩⟩
theorem Kp.dead (σ:ah):Kp σ (σ++[.dead]):=Kp.app σ λc hc=>iZ c hc _
theorem Kb.dead {a b:ah} (h:Kb a b):Kb a (b++[.dead]):=h.trans ((Kp.dead b).kb h.bx)
theorem Bx.dead (h:Bx σ):Kb σ (σ++[.dead]):=(Kp.dead σ).kb h
theorem Kb.box {a b l s:Int} (h:σ[0]?=some (oI l s)):Kb σ (σ.set 0 (oI a b)):=by
 refine⟨by simp,λj hj e=>by rw[bw (Ne.symm e)],λq c hc=>?_,a,b,by rw[bX (ao.mp h).1]⟩;refine(dH).symm▸?_;rcases kS hc with z|z
 ·exact q c z
 ·intro i _ p;refine z.symm▸?_;simp only[oI,cS.subst,dh,di,cn,bU,cj,cq,cm,cr]
theorem ye {l:List PV} {i:Nat} {x:PV} (hx:l[i]?=some x) (hi:i<1000000) {σ:ah}:nR σ (.list l) (.int i)=some x:=by
 have hl:=(ao.mp hx).1;have e:jf l.length (i:Int)=some i:=by
  unfold jf;rw[if_pos (by omega),if_pos (by exact cy 0x1860030),if_pos (by exact bH 0x196864819811 hl)];simp
 show(jf l.length (i:Int)).bind (λk=>l[k]?)=_;exact e.symm▸hx
theorem uX {k i:Nat} {l:List PV} {x:PV} (h:σ[k]?=some (.list l)) (hx:l[i]?=some x) (hi:i<1000000):nR σ (.loc k) (.int i)=some x:=by
 show(listAt σ k).bind (λl=>(jf l.length (i:Int)).bind λk=>l[k]?)=_;refine(listE h).symm▸?_;exact ye hx hi (σ:=σ)
theorem vQ (h:σ[k]?=some (.list l)) (hi:i<l.length) (hl:l.length<=dm):oj σ (.loc k) (.int i) x=some (σ.set k (.list (l.set i x))):=by
 show(listAt σ k).bind _=_;refine(listE h).symm▸?_;exact if_pos ⟨cy 0x1860030,bH 0x196864819811 hi,hl⟩
theorem sj {a b:Int} (h:0<b):∃r:Nat,a%b=r/\(r:Int)<b:=⟨(a%b).toNat,(bM (KF a (m8 h))).symm,by rw[bM (KF a (m8 h))];exact Int.emod_lt_of_pos a h⟩
variable {Q:PV->ah->Prop} {X:ah->Prop}
theorem qW (hb:Bx σ) {many:Int} (h0:0<many) (h1:many<1000000) (q:∀(r:Nat) aF,(r:Int)<many->Kb σ aF->aF.length=σ.length->Q (.int r) aF):WP (C W (n+1) "_law_take" [.loc 0,.int many] σ) Q X:=by
 obtain⟨l,s,e⟩:=hb;refine b6 rfl rfl (.of (uX (i:=0) e rfl (by decide)) (.of rfl (.dec' (λö=>?_) λö=>?_)))
 ·obtain⟨r,e1,e2⟩:=sj (a:=l) h0;exact .of (uX (i:=0) e rfl (by decide)) (.of (if_pos ⟨h0,by omega⟩) (.of (vQ (i:=0) e (by show 0<2;decide) (by show 2<=1000000;decide)) (e1▸q r _ e2 (.box e) dH)))
 ·refine .of (uX (i:=1) e rfl (by decide)) (.of (F2 (by decide)) (.of rfl (.of rfl (.of (vQ (i:=1) e (by show 1<2;decide) (by show 2<=1000000;decide)) ?_))));have e':(σ.set 0 (oI l ((s*16807+12345)%2147483647)))[0]?=some (oI l ((s*16807+12345)%2147483647)):=by
   exact(bX (ao.mp e).1).symm▸rfl
  obtain⟨r,e1,e2⟩:=sj (a:=(s*16807+12345)%2147483647/64) h0;exact .of (uX (i:=1) e' rfl (by decide)) (.of rfl (.of (if_pos h0) (e1▸q r _ e2 (.box e) dH)))
theorem dP (hb:Bx σ) {many:Int} (h0:0<many) (h1:many<1000000) (q:∀(r:Nat) aF,(r:Int)<many->Kb σ aF->Q (.int r) aF):WP (C W (n+1) "_law_take" [.loc 0,.int many] σ) Q X:=qW hb h0 h1 λr aF h k ö=>q r aF h k
noncomputable def fl (t:T):Nat:=(fA t).length
noncomputable def J6 (way a b:Nat):Nat:=if way=0 then a+2 else if way=1 then a+1 else a+b+1
theorem DQ {t:T} {p:Fin 9} {k:Fin 3}:fl (.red t p k)=fl t+2:=by simp[fl,eA,dK,dz,dA]
theorem Af:fl (.back t)=fl t+1:=by simp[fl,eA,dK,dz,dA]
theorem j3:fl (.pair s a b)=fl a+fl b+1:=by simp[fl,eA,dK,dz,dA];exact am (bH 0x110982210928200) (bH 0x110928210982200)
theorem Lr {r:Nat} (h:(r:Int)<2):∃p:Fin 9,nR σ (.list [.str (aa "f"),.str (aa "../g")]) (.int r)=some (.str (wS p)):=match r,h with
 |0,_=>⟨7,rfl⟩
 |1,_=>⟨8,rfl⟩
 |r+2,h=>aw (cy 0x781202082641 h)
theorem Lq {r:Nat} (h:(r:Int)<3):∃k:Fin 3,nR σ (.list [.int 0,.int 1537,.int 2561]) (.int r)=some (.int (pT k))/\sE σ "min" [.int 1,.int r]=some (.int (t7 k)):=match r,h with
 |0,_=>⟨0,rfl,rfl⟩
 |1,_=>⟨1,rfl,rfl⟩
 |2,_=>⟨2,rfl,rfl⟩
 |r+3,h=>aw (cy 0x781303082641 h)
theorem gZ (hb:Bx σ) {way:Nat} (hw:way<=5) {t o:T} (ht:bT t) (ho:bT o) (q:∀t' aF,Kb σ aF->bT t'->fl t'<=J6 way (fl t) (fl o)->fl t+1<=fl t'->Q (pv t') aF):
  WP (C W (n+2) "_law_around" [.loc 0,.int way,pv t,pv o] σ) Q X:=
 have l1:=c4 (fl t+1) (fl o);have l2:=aK (bG (fl t) (fl o));have s1:fl o+fl t+1=fl t+fl o+1:=congrArg Nat.succ (m5 _ _)
 match way,hw,q with
 |0,_,q=>b6 rfl rfl (.of (eK _ _) (.t rfl (.of rfl (dP hb (by decide) (by decide) λr aZ hr k1=>have⟨p,hp⟩:=Lr hr
  .of hp (dP k1.bx (by decide) (by decide) λr2 bK hr2 k2=>have⟨k,e1,e2⟩:=Lq hr2
   .of rfl (.of e1 (.of e2 (qK (q (.red t p k) _ (k1.trans k2).dead ht (bZ DQ) (by rw[DQ];exact iD _))))))))))
 |1,_,q=>b6 rfl rfl (.of (eK _ _) (.f rfl (.of (eK _ _) (.t rfl (wg (q (.back t) _ hb.dead ht (bZ Af) (bZ Af.symm)))))))
 |2,_,q=>b6 rfl rfl (.of (eK _ _) (.f rfl (.of (eK _ _) (.f rfl (.of rfl (.t rfl (.of rfl (.of (eK _ _) (.t rfl (kF (q (.pair true o t) _ hb.dead ⟨ho,ht⟩ (bZ (j3.trans s1)) (by rw[j3];exact l1))))))))))))
 |3,_,q=>b6 rfl rfl (.of (eK _ _) (.f rfl (.of (eK _ _) (.f rfl (.of rfl (.t rfl (.of rfl (.of (eK _ _) (.f rfl (kF (q (.pair true t o) _ hb.dead ⟨ht,ho⟩ (bZ j3) (by rw[j3];exact l2))))))))))))
 |4,_,q=>b6 rfl rfl (.of (eK _ _) (.f rfl (.of (eK _ _) (.f rfl (.of rfl (.f rfl (.of rfl (.of (eK _ _) (.t rfl (kF (q (.pair false o t) _ hb.dead ⟨ho,ht⟩ (bZ (j3.trans s1)) (by rw[j3];exact l1))))))))))))
 |5,_,q=>b6 rfl rfl (.of (eK _ _) (.f rfl (.of (eK _ _) (.f rfl (.of rfl (.f rfl (.of rfl (.of (eK _ _) (.f rfl (kF (q (.pair false t o) _ hb.dead ⟨ht,ho⟩ (bZ j3) (by rw[j3];exact l2))))))))))))
 |w+6,h,_=>aw (cy 0x78150608201 h)
open PySem
variable {W n:Nat} {σ:ah}
variable {Q:PV->ah->Prop} {X:ah->Prop}
theorem xB {we wc:aE->(PV->ah->Prop)->ah->Prop} {x:String} {σ₀:ah} (hc:∀b (Q:PV->ah->Prop) σ,Q (.bool true) σ->wc b Q σ)
  (he:∀v (Q:PV->ah->Prop) σ,Bx σ->(∀(w:Fin 9) aF,Kb σ aF->Q (.str (wS w)) aF)->we [(x,v)] Q σ) (l:List PV):
  ∀{Q:List PV->ah->Prop} {σ:ah},Kb σ₀ σ->(∀(ws:List (Fin 9)) aF,ws.length=l.length->Kb σ₀ aF->Q (qy ws) aF)->IA wc we [x] l Q σ:=by
 induction l with
 |nil=>exact λk h=>h [] _ rfl k
 |cons v l ih=>exact λk h=>.of rfl (hc _ _ _ (.t rfl (he _ _ _ k.bx λw aF k'=>ih (k.trans k') λws σ'' hl k''=>h (w::ws) σ'' (congrArg Nat.succ hl) k'')))
theorem fP {i:Int} (h:i.natAbs<=dm):pU "range" (.int i)=some (fE i):=if_pos h
theorem gm (i:Int):(fE i).length=i.toNat:=by simp[fE]
theorem HC {L:List PV} {p:PV->Bool} (ha:L.all p=true) {r:Nat} (hr:r<L.length) (hl:L.length<=100):∃v,p v=true/\nR σ (.list L) (.int r)=some v:=
 ⟨L[r],aJ.mp ha _ (l7 hr),ye (b5 hr) (aO hr (ae hl (by decide)))⟩
noncomputable def isI:PV->Bool
 |.int i=>decide (0<=i/\i<=9)
 |_=>false
theorem Jx {v:PV} (h:isI v=true):∃m:Nat,m<=9/\v=.int m:=by
 cases v with
 |int i=>have⟨a,b⟩:=of_decide_eq_true h;exact⟨i.toNat,f6.mpr b,by rw[bM a]⟩
 |_=>contradiction
noncomputable def isW:PV->Bool
 |.str s=>decide (∃w:Fin 9,s=wS w)
 |_=>false
theorem Jv {v:PV} (h:isW v=true):∃w:Fin 9,v=.str (wS w):=by
 cases v with
 |str s=>have⟨w,e⟩:=of_decide_eq_true h;exact⟨w,congrArg PV.str e⟩
 |_=>contradiction
theorem DP {ws:List (Fin 9)}:fl (.run ws)=ws.length:=by simp[fl,eA,dK,dz,dA]
theorem qM (hb:Bx σ) (q:∀t aF,Kb σ aF->bT t->fl t<=11->Q (pv t) aF):WP (C W (n+3) "_law_leaf" [.loc 0] σ) Q X:=
 b6 rfl rfl (.of rfl (dP hb (by decide) (by decide) λr aZ hr k1=>have⟨v,hv,e⟩:=HC (σ:=aZ) (L:=[.int 1,.int 0,.int 2,.int 1,.int 1,.int 1,.int 1,.int 0,.int 1,.int 2,.int 3,.int 9]) (p:=isI) rfl (bF.mp hr) (by decide)
  have⟨m,hm,ev⟩:=Jx hv
  .of (e.trans (congrArg some ev)) (.of (fP (show m<=dm from ae hm (by decide))) (xB (σ₀:=σ) (λb Q σ h=>h)
   (λv Q σ hb hQ=>.of rfl (dP hb (by decide) (by decide) λr aZ hr k1=>have⟨v,hv,e⟩:=HC (σ:=aZ) (L:=[.str (aa "a"),.str (aa "bc"),.str (aa "-d"),.str (aa "e.f"),.str (aa "/"),.str (aa "'g'")]) (p:=isW) (by kernel_rfl) (bF.mp hr) (by decide)
    have⟨p,ep⟩:=Jv hv
    .of (e.trans (congrArg some ep)) (hQ p _ k1)))
   _ k1 λws bK hl k2=>
    have hl:ws.length<=9:=by rw[hl,gm];exact hm
    have w9:bT (.run ws):=hl;have hf:fl (.run ws)<=9:=DP.symm▸hl
    ⟨(gm m).symm▸ae hm (by decide),.of (if_pos ((kZ ws).symm▸ae hl (by decide))) (zR ((kZ ws).symm▸ae hl (by decide)) (dP k2.dead.bx (by decide) (by decide) λr fq hr k4=>
     .of (eK _ _) (.dec' (λö=>gZ (n:=n) (t:=.run ws) (o:=.run ws) k4.bx (way:=0) (by decide) w9 w9 λt kQ k5 h1 h2 ö=>q t _ ((k2.dead.trans k4).trans k5) h1 (ae h2 (gE hf 2)))
      λö=>q (.run ws) _ (k2.dead.trans k4) w9 (ae hf (by decide)))))⟩))))
theorem mulE {r:Nat} (h:(r:Int)<2):∃ws:List (Fin 9),ws.length<=1/\jO .mul (.list [.str (aa "e")]) (.int r)=some (.list (qy ws)):=match r,h with
 |0,_=>⟨[],by decide,by kernel_rfl⟩
 |1,_=>⟨[6],by decide,by kernel_rfl⟩
 |r+2,h=>aw (cy 0x781202082641 h)
structure Lo (B M:Int) (s:DS):Prop where
 f:s.first<=B
 l:s.level<=B
 m:s.more<=M
 h:∀p∈s.held,p.1<=B/\p.2<=B
 t:s.most<=B+M
 z:2<=s.most/\0<=M
set_option tactic.hygienic true in
theorem Lo.step {B M:Int} {s s':DS} {t:Tok} (h:Lo B M s) (e:iY s t=some s'):Lo (B+2) (M+1) s':=by
 obtain⟨hf,hl,hm,hh,ht,hz⟩:=h;have hh':∀p∈s.held,p.1<=B+2/\p.2<=B+2:=λp hp=>by have:=hh p hp;exact⟨iF 0x1209283819831 this.1,iF 0x1209283819831 this.2⟩
 induction t with
 |lp=>
  (injection e;subst_vars)
  refine⟨by simp only[ce];exact iF 0x1209220823819831 hl,by simp only[ce];exact iF 0x1209220823819831 hl,by simp only[ce];exact gR 0x110820038180031 hz.2,λp hp=>?_,by simp only[ce];exact bh.mpr ⟨wJ 0x110a2209228381a92831 ht,wJ 0x110a2209220020822381a003819832 hl hz.2⟩,by simp only[ce];exact⟨iF 0x19203819838182032 hz.1 (aB _ _),gR 0x110820038180031 hz.2⟩⟩;rcases aH.mp hp with rfl|hp
  ·exact⟨by show s.first<=_;exact iF 0x1209283819831 hf,by show s.level<=_;exact iF 0x1209283819831 hl⟩
  ·exact hh' p hp
 |rp=>
  simp only[iY]at e;split at e
  ·rename_i f l H eH
   (injection e;subst_vars)
   have:=hh (f,l) (by rw[eH];exact .head _);simp only at this;exact⟨by simp only[ce];exact iF 0x1209283819831 this.1,by simp only[ce];exact iF 0x1209283819831 this.2,by simp only[ce];exact gR 0x110820038180031 hz.2,λp hp=>hh' p (by rw[eH];exact .tail _ hp),by simp only[ce];exact bh.mpr ⟨wJ 0x110a2209228381a92831 ht,wJ 0x1108220a220092381a938180032 hz.2 this.2⟩,by simp only[ce];exact⟨iF 0x19203819838182032 hz.1 (aB _ _),gR 0x110820038180031 hz.2⟩⟩
  ·contradiction
 |amp=>
  (injection e;subst_vars)
  refine⟨by simp only[ce];exact iF 0x1209283819831 hf,by simp only[ce];exact iF 0x1209210843819831 hf,?_,λp hp=>hh' p hp,?_,by simp only[ce];exact⟨iF 0x19203819838182032 hz.1 (aB _ _),gR 0x110820038180031 hz.2⟩⟩
  ·simp only[ce];split
   ·exact iF 0x1109281023819831 hm
   ·exact gR 0x110820010238180031 hz.2
  ·simp only[ce];split
   ·exact bh.mpr ⟨wJ 0x110a2209228381a92831 ht,JI 0x110b220922a10210842381ba3819832 hf hm⟩
   ·exact bh.mpr ⟨wJ 0x110a2209228381a92831 ht,wJ 0x110a2209220010210842381a003819832 hf hz.2⟩
 |bar=>
  (injection e;subst_vars)
  exact⟨by simp only[ce];exact iF 0x1209283819831 hf,by simp only[ce];exact iF 0x1209210823819831 hl,by simp only[ce];exact gR 0x110820038180031 hz.2,λp hp=>hh' p hp,by simp only[ce];exact bh.mpr ⟨wJ 0x110a2209228381a92831 ht,wJ 0x110a2209220010822381a003819832 hl hz.2⟩,by simp only[ce];exact⟨iF 0x19203819838182032 hz.1 (aB _ _),gR 0x110820038180031 hz.2⟩⟩
 |semi=>
  (injection e;subst_vars)
  exact⟨by simp only[ce];exact iF 0x1209210823819831 hf,by simp only[ce];exact iF 0x1209210823819831 hf,by simp only[ce];exact gR 0x110820038180031 hz.2,λp hp=>hh' p hp,by simp only[ce];exact bh.mpr ⟨wJ 0x110a2209228381a92831 ht,wJ 0x110a2209220010822381a003819832 hf hz.2⟩,by simp only[ce];exact⟨iF 0x19203819838182032 hz.1 (aB _ _),gR 0x110820038180031 hz.2⟩⟩
 |wd _=>
  (injection e;subst_vars)
  exact⟨by simp only[ce];exact iF 0x1209283819831 hf,by simp only[ce];exact iF 0x1209283819831 hl,by simp only[ce];exact iF 0x1109283819831 hm,λp hp=>hh' p hp,by simp only[ce];exact bh.mpr ⟨wJ 0x110a2209228381a92831 ht,JI 0x110b220922a82381ba3819832 hl hm⟩,by simp only[ce];exact⟨iF 0x19203819838182032 hz.1 (aB _ _),gR 0x110820038180031 hz.2⟩⟩
 |rd _=>
  (injection e;subst_vars)
  exact⟨by simp only[ce];exact iF 0x1209283819831 hf,by simp only[ce];exact iF 0x1209283819831 hl,by simp only[ce];exact iF 0x1109210823819831 hm,λp hp=>hh' p hp,by simp only[ce];exact bh.mpr ⟨wJ 0x110a2209228381a92831 ht,JI 0x110b22092210a282381ba3819832 hl hm⟩,by simp only[ce];exact⟨iF 0x19203819838182032 hz.1 (aB _ _),gR 0x110820038180031 hz.2⟩⟩
theorem Lo.run:∀{ts:List Tok} {B M:Int} {s s':DS},Lo B M s->lV ts s=some s'->Lo (B+2*ts.length) (M+ts.length) s'
 |[],B,M,s,s',h,e=>by
  (injection e;subst_vars)
  simpa using h
 |t::ts,B,M,s,s',h,e=>by
  simp only[gS,gU]at e;refine fm e λs1 e1 e2=>?_;have:=(h.step e1).run e2;simp only[aj]at*;refine(show B+2*((ts.length+1:Nat):Int)=B+2+2*ts.length by exact aM (n9 0x18620320822108262038230) (n9 0x11082620382862032082230)).symm▸(show M+((ts.length+1:Nat):Int)=M+1+ts.length by exact aM (n9 0x18610822108268230) (n9 0x11082682861082230)).symm▸?_;exact this
theorem yw (e:wM ts=some h):2<=h/\h<=2+3*ts.length:=by
 refine lT e λs e1 e2=>?_;have:=Lo.run (B:=2) (M:=0) (s:=⟨2,2,0,2,[]⟩) ⟨eI _,eI _,eI _,(by simp),by decide,by decide,by decide⟩ e1;have h2:=this.z;refine e2▸?_;exact⟨gR 0x182038182031 h2.1,n9 0x186303202838186002862032022831 this.t⟩
open PySem
variable {W n:Nat} {σ:ah}
theorem D.wr (h:D (own t) (body t) t) (hk:k<=3):D k (wr k t) t:=by
 unfold Mine.Internal.wr;split
 ·rename_i q;exact h.ups q (rC t)
 ·exact((h.ups (aL _) (rC t)).brk).ups hk (au _)
theorem nW:∀t:T,bT t->D (own t) (body t) t
 |.run ws,h=>by
  have:=lI.nil.words ws;exact D.prog (rs:=[]) (by simpa[sB]using this) h
 |.red c p k,h=>by rw[i3];exact((nW c h).wr (au _)).app k p
 |.back c,h=>by rw[gX];exact .amp ((nW c h).wr (by decide))
 |.pair true l r,h=>by rw[fS];exact .semi ((nW l h.1).wr (by decide)) ((nW r h.2).wr (by decide))
 |.pair false l r,h=>by rw[fS];exact .bar ((nW l h.1).wr (by decide)) ((nW r h.2).wr (by decide))
theorem vb (h:bT t):D 0 (body t) t:=(nW t h).ups (aL _) (rC t)
theorem va (t:T):(body t).length<=6*fl t+1:=by
 have:=oG t;have:=jT t;unfold fl;exact b7 0x110a6032808310a203290819303208202 ‹_› this
theorem BE (h:fl t=0) (e:wM (body t)=some d):d=2:=by
 induction t with
 |run ws=>
  have:ws=[]:=by simpa[fl,eA,dK,dz,dA]using h
  subst this
  (injection e;subst_vars)
  rfl
 |_=>simp[fl,eA,dK,dz,dA]at h
inductive OkN (z:Prop):PV->Prop
 |mk (N:Int):-1000<=N->N<=30->(z->1<=N)->OkN z (.int N)
variable {Q:PV->ah->Prop} {X:ah->Prop}
inductive DpI (σ:ah) (b:Nat) (t:T) (l:List PV) (aF:ah):Prop
 |mk:Kb σ aF->bT t->fl t+2*l.length<=b->1<=fl t+l.length->DpI σ b t l aF
noncomputable def dpFo (σ:ah) (r:Int) (b:Nat):Fo T:=⟨λt=>[("box",.loc 0),("tree",pv t),("way",.int r)],DpI σ b⟩
theorem J5 (h:b<=1):J6 w a b<=a+2:=by unfold J6;split;exact au _;split;exact cy 0x12082108200;exact bH 0x1209210892208110801 h
theorem qS (h:2<=w):J6 w a b=a+b+1:=by unfold J6;rw[if_neg (by exact λe_=>cy 0x78100828182002 h e_),if_neg (by exact λe_=>cy 0x78110828182002 h e_)]
theorem JM {z:Prop} (h0:0<=g) (h1:g<4) (h2:2<=h) (h3:h<=900) (hz:z->h=2):
  ∀v∈[PV.int (28+g-2),.int (28+g-1),.int (28+g-h),.int ((28+g-h+2)/2),.int (28+g-h),.int ((28+g-h+2)/2)],OkN z v:=
 have c1:OkN z (.int (28+g-h)):=⟨_,iF 0x1981c21243e831538138431938180032 h0 h3,iF 0x11e21981c212438192038140842 h1 h2,λq=>by have:=hz q;exact iF 0x24981c2124103a32095813843193a480033 h0 h3 this⟩;have c2:OkN z (.int ((28+g-h+2)/2)):=⟨_,by omega,by omega,λq=>by have:=hz q;omega⟩
 bo.2 ⟨⟨_,gR 0x12081c21243e831538180031 h0,gR 0x11e212081c212438140841 h1,λö=>gR 0x12081c21241038180031 h0⟩,bo.2 ⟨⟨_,gR 0x11081c21243e831538180031 h0,gR 0x11e211081c212438140841 h1,λö=>gR 0x11081c21241038180031 h0⟩,bo.2 ⟨c1,bo.2 ⟨c2,bo.2 ⟨c1,bo.2 ⟨c2,nofun⟩⟩⟩⟩⟩⟩
theorem Ln {p:PV->Prop} {L:List PV} (ha:∀v∈L,p v) {r:Nat} (hr:r<L.length) (hl:L.length<=100):∃v,p v/\nR σ (.list L) (.int r)=some v:=
 ⟨L[r],ha _ (l7 hr),ye (b5 hr) (aO hr (ae hl (by decide)))⟩
theorem CT {N:Int} (h0:-1000<=N) (h1:N<=30):pU "range" (.int N)=some (fE N)/\(fE N).length<=30/\N<=(fE N).length:=by
 refine⟨fP (by simp only[dm];exact ou (gR 0x18f424051538183e831531 h0) (gR 0x1f42405183811e21831 h1)),by rw[gm];exact f6.mpr (gR 0x11e21683811e21831 h1),by rw[gm];exact n9 0x186838186831 (Hr _)⟩
theorem wL {t:T} (hb:Bx σ) (ht:bT t) (hf:fl t<=35) (hn:80<=n) (q:∀t' aF,Kb σ aF->bT t'->fl t'<=fl t+60->1<=fl t'->Q (pv t') aF):WP (C W (n+3) "_law_deepened" [.loc 0,pv t] σ) Q X:=
 have hbl:(body t).length<=10000:=ae (va t) (cy 0x127104110860320862321801 hf);have⟨h,hd,_⟩:=(vb ht).read;have⟨d1,d2⟩:=yw hd
 b6 rfl rfl (dP hb (by decide) (by decide) λr aZ hr k1=>dP k1.bx (by decide) (by decide) λg bK hg k2=>.of rfl
  (uu t (n:=n+2) (by have:jN t<=fl t:=iX t;exact b7 0x33209210a20320e68a0ac950210e62321803 hf hn this) hbl λv hx=>re hx hbl (nU hd hbl λkQ k5=>have k:=(k1.trans k2).trans (k5.kb k2.bx)
   have⟨v,hv,e⟩:=Ln (σ:=kQ) (JM (z:=fl t=0) (eS g) hg d1 (by have:=va t;omega) λz=>BE z hd) (bF.mp hr) (by decide:6<=100)
   .of rfl (.of rfl (.of rfl (.of rfl (.of rfl (.of rfl (.of rfl (.of rfl (.of e (match v,hv with
    |_,.mk N h0 h1 hz=>have⟨e,l1,l2⟩:=CT h0 h1
     .of e (.mk (dpFo σ r (fl t+60)) ⟨t,⟨rfl,rfl,rfl,trivial⟩,k,ht,hG (Nat.mul_le_mul_left 2 l1) _,by omega⟩
      (λt' v l aF ⟨k',w',f',f''⟩ N B hN _=>.of rfl (.of rfl (dP k'.bx (by decide) (by decide) λr6 Eu hr6 k6=>have⟨ws,hws,hm⟩:=mulE hr6
       .of hm (zR ((kZ ws).symm▸ae hws (by decide)) (gZ (n:=n) (t:=t') (o:=.run ws) k6.dead.bx (gr (bF.mp hr)) w' (ae hws (by decide))
        λu H6 k8 wu fu fg=>have fu:=ae fu (J5 (DP.symm▸hws))
         hN _ _ ⟨u,⟨rfl,rfl,rfl,trivial⟩,(k'.trans k6.dead).trans k8,wu,by rw[aj]at f';exact d3 0x13c21a29203b20812082b0813c21a210922038202 f' fu,by rw[aj]at f'';exact b7 0x1a92100819108201 fg⟩)))))
      λt' aF ⟨k',w',f',f''⟩=>q t' aF k' w' f' f'')))))))))))))
open PySem
variable {W n:Nat} {σ:ah}
noncomputable def sY (t:T) (as:List T):Nat:=fl t+(as.map λa=>fl a+1).sum
theorem LW (h:l.length<=1000):nR σ (.list (l++[a])) (.int (-1))=some a:=by
 have e:jf (l++[a]).length (-1)=some l.length:=by
  unfold jf;rw[if_pos (by decide),if_neg (by decide),if_pos (by simp;exact cy 0x11086210520030)];simp;exact am (f6.mpr (cy 0x18610862105230)) (bH 0x18907f1096210528651 (bM (cy 0x11086210520030)))
 show(jf (l++[a]).length (-1)).bind (λk=>(l++[a])[k]?)=_;rw[e];show(l++[a])[l.length]?=_;simp
theorem LZ (h:l.length<=1000):pb (.list (l++[a])) none (some (-1))=some (.list l):=by
 show(if(l++[a]).length<=dm then some (PV.list (sliceL (l++[a]) none (some (-1))))else none)=_;rw[if_pos (by simp[dm];exact cy 0x1f423f5180813e831801 h)];have:sliceL (l++[a]) none (some (-1))=l:=by
  show(List.take (fH (l++[a]).length (-1)) (l++[a])).drop 0=l;have e:fH (l++[a]).length (-1)=l.length:=by
   have h:(-1:Int)+((l++[a]).length:Int)=(l.length:Int):=by rw[af];show(-1:Int)+((l.length+1:Nat):Int)=(l.length:Int);omega
   show(max 0 (min (-1+((l++[a]).length:Int)) ((l++[a]).length:Int))).toNat=_;rw[h,KD (by rw[af];exact iU.mpr (bG ..)),jl (eS _),iT]
  refine e.symm▸?_;simp
 exact this.symm▸rfl
theorem HI (as:List T):jF .ne (.list (as.map pv)) (.list [])=some (.bool !as.isEmpty):=by
 induction as with
 |nil=>kernel_rfl
 |cons a as=>rfl
theorem vN (t a:T) (as:List T):sY t (as++[a])=sY t as+fl a+1:=by
 simp only[sY,ca,List.sum_append,bq,qt,xn,List.sum_nil];exact am (b7 0x110a982220010a22928200) (b7 0x10010a22928210a9822200)
theorem Cr (t a:T) (as:List T):sY t (a::as)=sY t as+fl a+1:=by simp only[sY,bq,xn];exact am (b7 0x1109a8222a109228200) (b7 0x1910a228210a9822200)
theorem mm (t u:T) (as:List T):sY u as+fl t=sY t as+fl u:=by unfold sY;exact am (b7 0x189a22a982200) (b7 0x189a22a982200)
variable {N B:aE->ah->Prop} {R Q:PV->ah->Prop} {X:ah->Prop} {σ₀:ah} {t:T} {as:List T} {dp sm:Bool}
noncomputable def GrQ (σ₀:ah) (R:PV->ah->Prop):Prop:=∀t aF,Kb σ₀ aF->bT t->fl t<=107->1<=fl t->R (pv t) aF
theorem way4 {r:Nat} (h:(r:Int)<4):∃w:Nat,w<=5/\nR σ (.list [.int 5,.int 0,.int 3,.int 4]) (.int r)=some (.int w):=match r,h with
 |0,_=>⟨5,by decide,rfl⟩
 |1,_=>⟨0,by decide,rfl⟩
 |2,_=>⟨3,by decide,rfl⟩
 |3,_=>⟨4,by decide,rfl⟩
 |r+4,h=>aw (cy 0x781404082641 h)
theorem Eo {w a b:Nat} (h:¬(w:Int)>1):J6 w a b<=a+2:=by unfold J6;split;exact au _;rw[if_pos (by omega)];exact cy 0x12082108200
theorem Jz (k0:Kb σ₀ σ) (ht:bT t) (hn:80<=n) (hf:fl t<=95) (hd:dp=true->fl t<=35) (q:GrQ σ₀ R):
  dO (C W (n+3)) W (ek.drop 3) [("box",.loc 0),("tree",pv t),("is_deep",.bool dp)] N B R X σ:=match dp,hd with
 |true,hd=>.t rfl (wL k0.bx ht (hd rfl) hn λu aZ k1 w f fg=>q u _ (k0.trans k1) w (ae f (gE (ae (hd rfl) (by decide:35<=47)) 60)) fg)
 |false,_=>.f rfl (.of rfl (dP k0.bx (by decide) (by decide) λr aZ hr k1=>have⟨way,hw,e⟩:=way4 hr
  .of e (.of rfl (.dec' (λz=>qM k1.bx λo bK k2 wo fo=>gZ (n:=n+1) (t:=t) (o:=o) k2.bx hw ht wo λu gw k3 wu fu fg=>
    q u _ (((k0.trans k1).trans k2).trans k3) wu (by rw[qS (bF.mp z)]at fu;exact b7 0x16b21a081109822a081b090815f21803 hf fo fu) (ae (c4 1 _) fg))
   λz=>gZ (n:=n+1) (t:=t) (o:=t) k1.bx hw ht ht λu gw k3 wu fu fg=>q u _ ((k0.trans k1).trans k3) wu (ae fu (ae (Eo z) (cy 0x16b2120820815f21801 hf))) (ae (c4 1 _) fg)))))
inductive G3 (σ₀:ah) (dp:Bool) (t:T) (l:List PV) (σ:ah):Prop
 |mk (as:List T):l=as.map pv->Kb σ₀ σ->bT t->(∀a∈as,bT a)->sY t as<=95->(dp=true->sY t as<=35)->G3 σ₀ dp t l σ
noncomputable def g3L (σ₀:ah) (dp:Bool):Fo T:=⟨λt=>[("box",.loc 0),("tree",pv t),("is_deep",.bool dp)],G3 σ₀ dp⟩
theorem E6 (r:Nat):PV.int (2+(r:Int))=.int ((2+r:Nat):Int):=rfl
theorem vM (h:fl u<=fl t+fl a+1):sY u as<=sY t (a::as):=by rw[Cr];have:=mm t u as;exact jx 0x110ac22b0818c29b228110a922802 h this
theorem GF (k:Kb σ₀ σ) (ht:bT t) (ha:bT a) (hN:∀u ρ aF,Sub [("box",.loc 0),("tree",pv u),("is_deep",.bool dp)] ρ->Kb σ₀ aF->bT u->fl u<=fl t+fl a+1->N ρ aF):
  dO (C W (n+3)) W (xv (qf ek 2)) [("box",.loc 0),("tree",pv t),("is_deep",.bool dp),("other",pv a)] N B R X σ:=
 dP k.bx (by decide) (by decide) λr aZ hr k1=>.of rfl (by
  rw[E6];exact gZ (n:=n+1) (t:=t) (o:=a) k1.bx (cy 0x1508202081408641 hr) ht ha λu bK k2 wu fu fg=>hN u _ _ ⟨rfl,rfl,rfl,trivial⟩ ((k.trans k1).trans k2) wu (qS (bG 2 r)▸fu))
theorem JC (k0:Kb σ₀ σ) (ht:bT t) (has:∀a∈as,bT a) (hn:80<=n) (hf:sY t as<=95) (hd:dp=true->sY t as<=35) (q:GrQ σ₀ R):
  dO (C W (n+3)) W (ek.drop 2) [("box",.loc 0),("is_small",.bool sm),("tree",pv t),("aside",.list (as.map pv)),("is_deep",.bool dp)] N B R X σ:=
 .of rfl (.mk (g3L σ₀ dp) ⟨t,⟨rfl,rfl,rfl,trivial⟩,as,rfl,k0,ht,has,hf,hd⟩
  (λt v l aF ⟨as,e,k,w,wa,f,d⟩ N B hN _=>have⟨a,as',e1,e2,e3⟩:=jw.mp e.symm
   .of rfl (e2▸GF (n:=n) (a:=a) k w (wa a (e1▸.head _)) λu ρ bK hs k2 wu fu=>hN _ _ ⟨u,hs,as',e3.symm,k2,wu,λx hx=>wa x (e1▸.tail _ hx),ae (vM fu) (e1▸f),λz=>ae (vM fu) (e1▸d z)⟩))
  λt aF ⟨as,e,k,w,_,f,d⟩=>have e:as=[]:=oY.mp e.symm
   have e:sY t as=fl t:=by rw[e];rfl
   Jz k w hn (e▸f) (e▸d) q)
inductive G2 (σ₀:ah) (m:Nat) (a:T×List T) (l:List PV) (σ:ah):Prop
 |mk:Kb σ₀ σ->bT a.1->(∀x∈a.2,bT x)->sY a.1 a.2+12*l.length<=11+12*m->a.2.length+l.length<=7->G2 σ₀ m a l σ
noncomputable def g2E (sm dp:Bool) (t:T) (as:List T):aE:=[("box",.loc 0),("is_small",.bool sm),("tree",pv t),("aside",.list (as.map pv)),("is_deep",.bool dp)]
noncomputable def g2L (σ₀:ah) (sm dp:Bool) (m:Nat):Fo (T×List T):=⟨λa=>g2E sm dp a.1 a.2,G2 σ₀ m⟩
noncomputable def KJ:MS->List MS
 |.ifs _ _ b=>b
 |_=>[]
noncomputable def g2N (σ₀:ah) (sm dp:Bool) (t:T) (as:List T) (N:aE->ah->Prop):Prop:=∀u bs ρ aF,Sub (g2E sm dp u bs) ρ->Kb σ₀ aF->bT u->(∀x∈bs,bT x)->sY u bs<=sY t as+12->bs.length<=as.length+1->N ρ aF
noncomputable def g2F (sm dp:Bool) (t:T) (as:List T) (v:PV) (r:Nat):aE:=[("box",.loc 0),("is_small",.bool sm),("tree",pv t),("aside",.list (as.map pv)),("is_deep",.bool dp),("turn",v),("way",.int r)]
theorem wF {v:PV} {r:Nat} (k:Kb σ₀ σ) (w:bT t) (wa:∀x∈as,bT x) (hr:r<=5) (hN:g2N σ₀ sm dp t as N):
  dO (C W (n+3)) W (KJ (qf (KJ (qf (xv (qf ek 1)) 1)) 0)) (g2F sm dp t as v r) N B R X σ:=
 .of rfl (.dec' (λz=>qM k.bx λo bK k2 wo fo=>gZ (n:=n+1) (t:=t) (o:=o) k2.bx hr w wo λu gw k3 wu fu fg=>
   hN u as _ _ ⟨rfl,rfl,rfl,rfl,rfl,trivial⟩ ((k.trans k2).trans k3) wu wa (by rw[qS (bF.mp z)]at fu;have:=mm t u as;exact jx 0x1c0c2b0819c2ab2281108a229081b0803 fo fu this) (iD _))
  λz=>gZ (n:=n+1) (t:=t) (o:=t) k.bx hr w w λu gw k3 wu fu fg=>hN u as _ _ ⟨rfl,rfl,rfl,rfl,rfl,trivial⟩ (k.trans k3) wu wa (by have:=ae fu (Eo z);have:=mm t u as;exact d3 0x1c0b2a0818b29a22812092802 ‹_› this) (iD _))
theorem Bz {a:T} {v:PV} {r:Nat} (k:Kb σ₀ σ) (w:bT t) (wa:∀x∈as,bT x) (ha:bT a) (hr:r<=5) (hr2:(r:Int)>1) (hl:as.length<=1000) (hN:g2N σ₀ sm dp t (as++[a]) N):
  dO (C W (n+3)) W (KJ (qf (xv (qf ek 1)) 1)) (g2F sm dp t (as++[a]) v r) N B R X σ:=by
 have hl:(as.map pv).length<=1000:=by rw[ar];exact hl
 have e3:(as++[a]).map pv=as.map pv++[pv a]:=ca;have e:(as++[a]).isEmpty=false:=by induction as<;>rfl
 refine .of rfl (.of rfl (.t (congrArg some (decide_eq_true hr2)) (.of rfl (.of (HI _) (.t (congrArg (λb=>some !b) e) ?_)))));refine .of (a:=pv a) (by rw[e3];exact LW hl) (gZ (n:=n+1) (t:=t) (o:=a) k.bx hr w ha λu gw k3 wu fu fg=>.of (a:=.list (as.map pv)) (by rw[e3];exact LZ hl)
  (hN u as _ _ ⟨rfl,rfl,rfl,rfl,rfl,trivial⟩ (k.trans k3) wu wa (by rw[vN];rw[qS (bF.mp hr2)]at fu;have:=mm t u as;exact jx 0x1c010ac222b0818c29b228110a922802 fu this) (by rw[af];exact bH 0x1109822800)))
theorem GG (k:Kb σ₀ σ) (w:bT t) (wa:∀x∈as,bT x) (hl:as.length<=1000) (hN:g2N σ₀ sm dp t as N):
  dO (C W (n+3)) W (xv (qf ek 1)) [("box",.loc 0),("is_small",.bool sm),("tree",pv t),("aside",.list (as.map pv)),("is_deep",.bool dp),("turn",v)] N B R X σ:=
 dP k.bx (by decide) (by decide) λr aZ hr k1=>.of rfl (.dec'
  (λz=>.of rfl (.of (oR (a:=as.map pv) (b:=[pv t]) (by simp[dm];exact cy 0x1f423f5180813e831801 hl)) (qM k1.bx λo bK k2 wo fo=>
   hN o (as++[t]) _ _ ⟨rfl,rfl,rfl,by rw[ca];rfl,rfl,trivial⟩ ((k.trans k1).trans k2) wo (λx hx=>(cD.mp hx).elim (wa x) λhx=>aC.mp hx▸w) (by rw[vN];have:=mm t o as;exact d3 0x1c0b210a9220818b2a92281b0802 fo this) (by rw[af];exact au _))))
  λz=>have hr5:r<=5:=cy 0x15080818650c1 z
   if h2:(r:Int)>1 then match nu as with
    |.inl e=>.of rfl (.of rfl (.t (congrArg some (decide_eq_true h2)) (.of rfl (.of (HI as) (.f (by rw[e];rfl) (wF (n:=n) (k.trans k1) w wa hr5 hN))))))
    |.inr ⟨bs,a,e⟩=>by
     replace e:=(nv)▸e;rw[e]at wa hl hN⊢;exact Bz (n:=n) (k.trans k1) w (λx hx=>wa x (jv _ hx)) (wa a (by simp)) hr5 h2 (by rw[af]at hl;exact bH 0x13e83180813e83198201 hl) hN
   else .of rfl (.of rfl (.f (congrArg some (decide_eq_false h2)) (.f (congrArg some (decide_eq_false h2)) (wF (n:=n) (k.trans k1) w wa hr5 hN)))))
theorem ym (k0:Kb σ₀ σ) (ht:bT t) (hn:80<=n) (hf:fl t<=11) {m:Nat} (hm:m<=7) (hd:dp=true->m<=2) (q:GrQ σ₀ R) {K J:(α:Type)->Fo α->Prop}
  (hK:(∀a v l σ,G2 σ₀ m a (v::l) σ->∀N' B':aE->ah->Prop,(∀ρ σ,xi (g2L σ₀ sm dp m) ρ l σ->N' ρ σ)->(∀ρ σ,dO (C W (n+3)) W (ek.drop 2) ρ N B R X σ->B' ρ σ)->fb (i4 ["turn"] v) λbs=>tY (g2E sm dp a.1 a.2) bs λρ=>dO (C W (n+3)) W (xv (qf ek 1)) ρ N' B' R X σ)->K _ (g2L σ₀ sm dp m))
  (hJ:(∀a σ,G2 σ₀ m a [] σ->dO (C W (n+3)) W (ek.drop 2) (g2E sm dp a.1 a.2) N B R X σ)->J _ (g2L σ₀ sm dp m)):
  MD [("box",.loc 0),("is_small",.bool sm),("tree",pv t),("aside",.list []),("is_deep",.bool dp)] (fE m) σ K J:=
 .mk (g2L σ₀ sm dp m) ⟨(t,[]),⟨rfl,rfl,rfl,rfl,rfl,trivial⟩,k0,ht,nofun,by rw[gm];simp[sY];exact cy 0x1b08081b0801 hf,by rw[gm];simpa using hm⟩
  (hK λa v l σ ⟨k,w,wa,f,hl⟩ N B hN _=>.of rfl (GG (n:=n) k w wa (ae (bG _ _) (ae hl (by decide)))
   λu bs ρ aF hs k' wu wb f' hl'=>hN _ _ ⟨(u,bs),hs,k',wu,wb,by rw[aj]at f;show sY u bs+_<=_;exact d3 0x1ac03b029c03b2081c082b081ac03b021092c038202 f f',by rw[aj]at hl;show bs.length+_<=_;exact b7 0x1709a20811082a0817010928202 hl hl'⟩))
  (hJ λa σ ⟨k,w,wa,f,_⟩=>have f:sY a.1 a.2<=11+12*m:=f
   JC k w wa hn (bH 0x15f2190818c03b02908c70802 hm f) (λz=>by have:=hd z;exact bH 0x12321808c2090819c03b02802 f this) q)
theorem DE (hb:Bx σ) (hn:80<=n) (q:GrQ σ Q):WP (C W (n+4) "_law_grown" [.loc 0,.bool sm] σ) Q X:=
 b6 rfl rfl (qM hb λt aZ k1 wt ft=>.of rfl (match sm with
  |true=>.of rfl (.of rfl (.f rfl (.t rfl (.of (fP (by decide)) (ym (n:=n) (m:=2) (dp:=false) k1 wt hn ft (by decide) nofun q id id)))))
  |false=>.of rfl (.of rfl (.t rfl (dP k1.bx (by decide) (by decide) λr bK hr k2=>.of (eK _ _) (.f rfl (.dec'
   (λz=>dP k2.bx (by decide) (by decide) λr3 gw hr3 k3=>.of (fP (by simp only[dm];exact ou (cy 0x186f424051530) (cy 0x1f42405186381308641 hr3))) (ym (n:=n) (m:=r3) ((k1.trans k2).trans k3) wt hn ft (cy 0x1708081308641 hr3) (λö=>cy 0x1208081308641 hr3) q id id))
   λz=>dP k2.bx (by decide) (by decide) λr3 gw hr3 k3=>.of rfl (.of (fP (by simp only[dm];exact ou (cy 0x186102f424051530) (cy 0x1f42405186102381708641 hr3))) (ym (n:=n) (m:=1+r3) (dp:=decide ((r:Int)=0)) ((k1.trans k2).trans k3) wt hn ft (by exact cy 0x1708102081708641 hr3) (λh=>absurd (of_decide_eq_true h) z) q id id)))))))))
open PySem
variable {W n:Nat} {σ:ah}
theorem WB.le (t:T) {n:Nat} {ms:List AT} {last:Nat} {ps:List (Nat×Bool)} (h:WB t n ms last ps):last<=ms.length:=by
 induction t with
 |run ws=>obtain⟨_,e,_⟩:=h;exact e▸aL _
 |red c p k=>
  obtain⟨ms1,l1,pos,_,h1,h2,e1,e2⟩:=h;refine e1.symm▸e2.symm▸(af).symm▸(af).symm▸(dW).symm▸(cV).symm▸?_;show pos+2<=min pos ms1.length+2+(ms1.length-pos);refine(bS h2).symm▸?_;exact bG _ _
 |back c=>obtain⟨_,_,_,_,e⟩:=h;exact e▸aL _
 |pair s l r=>obtain⟨_,_,_,_,_,_,_,_,_,e,_⟩:=h;exact e▸aL _
noncomputable def mv:AT->PV
 |.tok t=>.str (tS t)
 |.lp i=>.tup [.str (aa "("),.int i]
 |.rp i=>.tup [.str (aa ")"),.int i]
noncomputable def rt (p:Nat×Bool):PV:=.tup [.int p.1,.bool p.2]
theorem rr (j:Nat) (q:PV):∀ps:List (Nat×Bool),PV.substs j q (ps.map rt)=ps.map rt
 |[]=>rfl
 |p::ps=>by
  show PV.subst j q (rt p)::PV.substs j q (ps.map rt)=_;rw[rr j q ps];simp only[rt,cn,bU,cj,cq,cm,cr,dh,di];rfl
noncomputable def jg (ps:List (Nat×Bool)):cS:=.list (ps.map rt)
theorem tZ (ps:List (Nat×Bool)) (m:Nat):xk m (jg ps):=λj ö q=>by simp only[jg,cS.subst,rr]
structure Kw (c:Nat) (σ aF:ah):Prop where
 len:aF.length=σ.length
 old:∀j,j<σ.length->j≠0->j≠c->aF[j]?=σ[j]?
 cls:kP σ->kP aF
theorem Kw.refl (c:Nat) (σ:ah):Kw c σ σ:=⟨rfl,λö ö ö ö=>rfl,id⟩
theorem Kw.trans {k:Nat} {a b c:ah} (h:Kw k a b) (g:Kw k b c):Kw k a c:=⟨g.len.trans h.len,λi hi h0 hk=>(g.old i (by rw[h.len];exact hi) h0 hk).trans (h.old i hi h0 hk),λq=>g.cls (h.cls q)⟩
theorem Kb.kw {c:Nat} {a b:ah} (h:Kb a b) (e:b.length=a.length):Kw c a b:=⟨e,λj hj h0 ö=>h.old j hj h0,h.cls⟩
theorem Kb.keep {c:Nat} {a b:ah} (h:Kb a b) (h0:c≠0) {x:cS} (e:a[c]?=some x):b[c]?=some x:=(h.old c (ao.mp e).1 h0).trans e
theorem Kw.set (ps:List (Nat×Bool)):Kw c σ (σ.set c (jg ps)):=by
 refine⟨by simp,λj hj h0 e=>by rw[bw (Ne.symm e)],λq x hx=>?_⟩;refine(dH).symm▸?_;rcases kS hx with z|rfl
 ·exact q x z
 ·exact tZ _ _
inductive WrI (c:Nat) (σ:ah) (t:T) (place:Nat) (ps0:List (Nat×Bool)) (ms:List AT) (last:Nat) (ps:List (Nat×Bool)) (aF:ah):Prop
 |mk:Kw c σ aF->Bx aF->WW (WB t) (own t) ps0.length place ms last ps->aF[c]?=some (jg (ps0++ps))->ps.length<=3*sz t->ms.length<=sz t+2*ps.length->last<=ms.length->WrI c σ t place ps0 ms last ps aF
noncomputable def wrV (ms:List AT) (last:Nat):PV:=.tup [.list (ms.map mv),.int last]
noncomputable def KM (c:Nat) (σ:ah) (t:T) (place:Nat) (ps0:List (Nat×Bool)) (Q:PV->ah->Prop):Prop:=∀ms last ps aF,WrI c σ t place ps0 ms last ps aF->Q (wrV ms last) aF
theorem ku (i:Nat):∀(q:Nat) (ms:List AT),(jR i q ms).length=ms.length+2*q
 |0,ms=>rfl
 |q+1,ms=>by simp only[zk,aj,af,bc,ku i q ms];exact am (bH 0x110922038210100029203822200) (bH 0x110100029203822210922038200)
inductive TlI (c:Nat) (σ₀:ah) (ps0:List (Nat×Bool)) (t:T) (ms0:List AT) (l0:Nat) (ps1:List (Nat×Bool)) (σ:ah):Prop
 |mk:Kw c σ₀ σ->Bx σ->σ[c]?=some (jg (ps0++ps1))->WB t ps0.length ms0 l0 ps1->ps1.length+3<=3*sz t->ms0.length<=sz t+2*ps1.length->TlI c σ₀ ps0 t ms0 l0 ps1 σ
variable {N B:aE->ah->Prop} {R Q:PV->ah->Prop} {X:ah->Prop} {σ₀:ah} {t:T} {c place l0:Nat} {ps0 ps1 ps:List (Nat×Bool)} {ms0:List AT} {ρ:aE}
noncomputable def Ix (c place:Nat) (t:T) (node:Nat) (ms0:List AT) (l0 q:Nat):aE:=
 [("place",.int place),("pairs",.loc c),("own",.int (own t)),("node",.int node),("marks",.list ((jR node q ms0).map mv)),("last",.int ((if q=0 then l0 else(jR node q ms0).length:Nat):Int))]
inductive WpI (c:Nat) (σ₀:ah) (ps:List (Nat×Bool)) (d:Bool) (m:Nat) (q:Nat) (l:List PV) (σ:ah):Prop
 |mk:Kw c σ₀ σ->Bx σ->σ[c]?=some (jg (ps++c3 q (ps.length,d)))->q+l.length=m->WpI c σ₀ ps d m q l σ
noncomputable def wpL (c place:Nat) (t:T) (ms0:List AT) (l0:Nat) (σ₀:ah) (ps:List (Nat×Bool)) (m:Nat):Fo Nat:=⟨Ix c place t ps.length ms0 l0,WpI c σ₀ ps (decide (own t<place)) m⟩
theorem Bx.set (h:Bx σ) (hc:c≠0) (x:cS):Bx (σ.set c x):=have⟨l,s,e⟩:=h;⟨l,s,by rw[bw hc];exact e⟩
theorem IB {q:Nat} {d:Bool}:((ps++c3 q (ps.length,d)).map rt).length=ps.length+q:=by simp
theorem yl {a b:Nat}:decide ((b:Int)>(a:Int))=decide (a<b):=by
 by_cases z:a<b
 ·rw[decide_eq_true z,decide_eq_true (by exact bH 0x196864819811 z)]
 ·rw[decide_eq_false z,decide_eq_false (by exact bH 0x19686c819891 z)]
theorem E2 {q:Nat} {d:Bool}:(ps++c3 q (ps.length,d)).map rt++[.tup [.int (ps.length:Nat),.bool d]]=(ps++c3 (q+1) (ps.length,d)).map rt:=by
 rw[List.replicate_succ',<-aq];simp only[ca];rfl
theorem EV (i q:Nat) (ms:List AT):[PV.tup [.str (aa "("),.int (i+q:Nat)]]++(jR i q ms).map mv++[.tup [.str (aa ")"),.int (i+q:Nat)]]=(jR i (q+1) ms).map mv:=by
 simp only[zk,bq,ca,qt,mv];rfl
theorem gA {a:Nat} (h:a<=30000):a<=dm:=ae h (by decide)
theorem wp_step {v:PV} {q:Nat} (hp:ps.length<=5000) (hm:ms0.length<=12000) (hq:q<3) (e:σ[c]?=some (jg (ps++c3 q (ps.length,decide (own t<place)))))
  (hN:∀ρ,Sub (Ix c place t ps.length ms0 l0 (q+1)) ρ->N ρ (σ.set c (jg (ps++c3 (q+1) (ps.length,decide (own t<place)))))):
  dO (C W n) W (xv (qf ei 3)) (Ix c place t ps.length ms0 l0 q++[("k",v)]) N B R X σ:=by
 have l1:=IB (ps:=ps) (q:=q) (d:=decide (own t<place));have l2:((jR ps.length q ms0).map mv).length=ms0.length+2*q:=by rw[ar,ku]
 have l3:((jR ps.length (q+1) ms0).map mv).length=ms0.length+2*(q+1):=by rw[ar,ku]
 refine .of (uT e (by rw[l1];exact gA (bH 0x1753041982081309181138841802 hp hq))) (.of rfl (.of (oR (by simp only[aj,bc,l2];exact gA (bH 0x17530419203821000220823091812ee041802 hm hq))) (.of (uT e (by rw[l1];exact gA (bH 0x1753041982081309181138841802 hp hq))) (.of rfl (.of (oR (by simp only[af,aj,bc,l2];exact gA (bH 0x17530411000292038210002220823091812ee041802 hm hq))) ?_)))));refine⟨(rj e).1,.of rfl (.ok (oQ e (by rw[l1];exact aO (by exact bH 0x1753041982181309181138841802 hp hq:_<30000) (by decide))) ?_)⟩;rw[l1,yl,E2,EV];refine .of (ni (by rw[l3];exact gA (bH 0x17530411092203820823091812ee041802 hm hq))) ?_;rw[ar];exact hN _ ⟨rfl,rfl,rfl,rfl,rfl,rfl,trivial⟩
theorem zj (hc:c≠0) (h:TlI c σ₀ ps0 t ms0 l0 ps1 σ) (hbig:ps0.length+3*sz t<=5000) {m:Nat} (h3:m<=3) (h1:own t<place->1<=m) (hρ:Sub (Ix c place t (ps0++ps1).length ms0 l0 0) ρ) (q:KM c σ₀ t place ps0 R)
  {K J:(α:Type)->Fo α->Prop}
  (hK:(∀a v l σ,WpI c σ₀ (ps0++ps1) (decide (own t<place)) m a (v::l) σ->∀N' B':aE->ah->Prop,(∀ρ σ,xi (wpL c place t ms0 l0 σ₀ (ps0++ps1) m) ρ l σ->N' ρ σ)->(∀ρ σ,dO (C W n) W (ei.drop 4) ρ N B R X σ->B' ρ σ)->fb (i4 ["k"] v) λbs=>tY (Ix c place t (ps0++ps1).length ms0 l0 a) bs λρ=>dO (C W n) W (xv (qf ei 3)) ρ N' B' R X σ)->K _ (wpL c place t ms0 l0 σ₀ (ps0++ps1) m))
  (hJ:(∀a σ,WpI c σ₀ (ps0++ps1) (decide (own t<place)) m a [] σ->dO (C W n) W (ei.drop 4) (Ix c place t (ps0++ps1).length ms0 l0 a) N B R X σ)->J _ (wpL c place t ms0 l0 σ₀ (ps0++ps1) m)):
  MD ρ (fE m) σ K J:=
 have⟨k0,b0,hp,hw,hs,hm⟩:=h;have lp:(ps0++ps1).length<=5000:=by rw[af];exact b7 0x1138841a82081930330a208113884193038202 hbig hs
 .mk (wpL c place t ms0 l0 σ₀ (ps0++ps1) m) ⟨0,hρ,k0,b0,by rw[List.replicate_zero,bz];exact hp,by rw[gm];exact aV m⟩
  (hK λa v l σ ⟨k,b,e,hl⟩ N B hN _=>.of rfl (wp_step (n:=n) lp (d3 0x32ee041b083a20392b086930330a208713884193038203 hbig hs hm) (by rw[aj]at hl;exact b7 0x1309181810a29228130802 h3 hl) e λρ hs=>hN _ _ ⟨a+1,hs,k.trans (.set _),b.set hc _,by rw[bX (ao.mp e).1],by rw[aj]at hl;exact am (b7 0x1a910822081a10928221 hl) (b7 0x1910822a07fa10928221 hl)⟩))
  (hJ λa σ pz=>by
   obtain⟨k,b,e,hl⟩:=pz;have hl:a=m:=hl;subst hl;refine q _ _ (ps1++c3 a ((ps0++ps1).length,decide (own t<place))) _ ⟨k,b,?_,by rw[<-aq];exact e,by simp;exact b7 0x19303a8208130a0819303308202 hs h3,by rw[ku];simp;exact d3 0x1ba220392b20382081a20392801 hm,?_⟩
   ·refine(af).symm▸?_;exact⟨ms0,l0,ps1,a,hw,h1,rfl,rfl,rfl⟩
   ·have:=WB.le t hw;rw[ku];split
    ·exact b7 0x1a2039280819801 this
    ·exact bH 0x192038292038200)
theorem lg (cf:String->List PV->MM PV) (X:ah->Prop) {ρ:aE} {x:String} {v:PV} {Q:PV->ah->Prop} (h:ρ.lookup x=some v) (q:Q v σ):iC cf X ρ (.var x) Q σ:=by
 show(match ρ.lookup x with|some v=>Q v σ|none=>False);exact h.symm▸q
theorem uG:∀{ρ:aE} {x:String} {v:PV} {k:aE->Prop},k (put ρ x v)->uH ρ x v k
 |[],_,_,_,h=>h
 |(y,w)::ρ,x,v,k,h=>by
  show(match y==x with|true=>k ((x,v)::ρ)|false=>uH ρ x v λρ=>k ((y,w)::ρ));simp only[zE,zF]at h
  induction q:y==x with
  |true=>rw[q]at h;exact h
  |false=>rw[q]at h;exact uG (k:=λρ=>k ((y,w)::ρ)) h
theorem ji (h:ρ.lookup y=some w) (e:(y==x)=false):(put ρ x v).lookup y=some w:=by
 exact nN.symm▸e.symm▸h
theorem Dl:(put ρ x v).lookup x=some v:=by
 rw[nN];simp
noncomputable def tlE (rare:Int) (c place:Nat) (t:T) (ms0:List AT) (l0:Nat):aE:=[("box",.loc 0),("rare",.int rare),("place",.int place),("pairs",.loc c),("last",.int l0),("own",.int (own t)),("marks",.list (ms0.map mv))]
theorem vP {b:Bool} {a:Int} (h0:0<=a) (h1:a<=2):∃m:Nat,(if b then(1:Int)else 0)+a=m/\m<=3/\(b=true->1<=m):=⟨((if b then(1:Int)else 0)+a).toNat,by split;exact aM (n9 0x186810237f81028651 (bM (gR 0x181020038180031 h0))) (n9 0x181028638181028651 (bM (gR 0x181020038180031 h0)));exact aM (n9 0x186800237f80028651 (bM (gR 0x180020038180031 h0))) (n9 0x180028638180028651 (bM (gR 0x180020038180031 h0))),by split;exact f6.mpr (gR 0x1306810238120831 h1);exact f6.mpr (gR 0x1306800238120831 h1),λe=>by rw[if_pos e];exact n9 0x181007f81028658180032 h0 (bM (gR 0x181020038180031 h0))⟩
theorem zq (hc:c≠0) (h:TlI c σ₀ ps0 t ms0 l0 ps1 σ) (hbig:ps0.length+3*sz t<=5000) {rare:Int} (hr1:1<=rare) (hr2:rare<=40) (hρ:Sub (tlE rare c place t ms0 l0) ρ) (q:KM c σ₀ t place ps0 R):
  dO (C W (n+1)) W (ei.drop 2) ρ N B R X σ:=by
 refine Mine.Internal.cps λζ κ=>?_;obtain⟨r1,r2,r3,r4,r5,r6,r7,_⟩:=hρ;obtain⟨k0,b0,hp,hw,hs,hm⟩:=h;have lenp:((ps0++ps1).map rt).length=(ps0++ps1).length:=ar ..;refine κ ?_;refine lg (C W (n+1)) X r4 (.of (uT hp (by rw[lenp,af];exact gA (b7 0x1753041a82081930330a208113884193038202 hbig hs))) (lg (C W (n+1)) X r1 (lg (C W (n+1)) X r2 (qW b0 (gR 0x180048181031 hr1) (gR 0x1f42405184812821831 hr2) λr aZ hr k1 el=>?_))));refine lg (C W (n+1)) X r2 (.of rfl (.of rJ (.of rfl (.of rJ (uG (uG ?_))))));refine lenp.symm▸?_;refine lg (C W (n+1)) X (ji (ji r3 rfl) rfl) (lg (C W (n+1)) X (ji (ji r6 rfl) rfl) (.of rfl (.of rfl (lg (C W (n+1)) X (ji Dl rfl) (.of rfl ?_)))));have h':TlI c σ₀ ps0 t ms0 l0 ps1 aZ:=⟨k0.trans (k1.kw el),k1.bx,k1.keep hc hp,hw,hs,hm⟩;have sub:Sub (Ix c place t (ps0++ps1).length ms0 l0 0) (put (put ρ "node" (.int ((ps0++ps1).length:Nat))) "many" (.int (max 0 ((r:Int)-max 5 (rare-3))))):=
  ⟨ji (ji r3 rfl) rfl,ji (ji r4 rfl) rfl,ji (ji r6 rfl) rfl,ji Dl rfl,ji (ji r7 rfl) rfl,ji (ji r5 rfl) rfl,trivial⟩
 refine .dec' (λz=>?_) λz=>?_
 ·obtain⟨m,e1,e2,e3⟩:=vP (b:=decide ((place:Int)>(own t:Int))) (a:=max 0 ((r:Int)-max 5 (rare-3))) (gR 0x180038180031 (aB _ _)) (bh.mpr ⟨by decide,HT 0x12098643819308438188642 hr (aD _ _)⟩);refine lg (C W (n+1)) X Dl (.of rfl ?_);refine e1.symm▸?_;exact .of (fP (by simp only[dm];exact ou (cy 0x186f424051530) (cy 0x1f4240518638130801 e2))) (zj hc h' hbig e2 (λz=>e3 (yl.trans (decide_eq_true z))) sub q id id)
 ·obtain⟨m,e1,e2,e3⟩:=vP (b:=decide ((place:Int)>(own t:Int))) (a:=0) (by decide) (by decide);refine .of rfl ?_;refine e1.symm▸?_;exact .of (fP (by simp only[dm];exact ou (cy 0x186f424051530) (cy 0x1f4240518638130801 e2))) (zj hc h' hbig e2 (λz=>e3 (yl.trans (decide_eq_true z))) sub q id id)
open PySem
variable {W n:Nat} {σ:ah}
theorem K7 {cf:String->List PV->MM PV} {X:ah->Prop} {ρ:aE} {e:ME} {c:T} {p:Fin 9} {k:Fin 3} {Q:PV->ah->Prop} (he:∀Q:PV->ah->Prop,Q (pv (.red c p k)) σ->iC cf X ρ e Q σ) (hQ:Q (.str (tS (.rd k))) σ):
  iC cf X ρ (.ite (.cmp .eq (.attr e "mode") (.cint 0)) (.cstr "<") (.ite (.cmp .eq (.attr e "mode") (.cint 1537)) (.cstr ">") (.cstr ">>"))) Q σ:=match k,he,hQ with
 |0,he,hQ=>he _ (.of rfl (.of (eK _ _) (.t rfl hQ)))
 |1,he,hQ=>he _ (.of rfl (.of (eK _ _) (.f rfl (he _ (.of rfl (.of (eK _ _) (.t rfl hQ)))))))
 |2,he,hQ=>he _ (.of rfl (.of (eK _ _) (.f rfl (he _ (.of rfl (.of (eK _ _) (.f rfl hQ)))))))
theorem zz {l:List PV} {p:Nat} (hl:l.length<=dm) (h:p<=l.length):pb (.list l) none (some (p:Int))=some (.list (l.take p)):=by
 show(if l.length<=dm then some (PV.list (sliceL l none (some (p:Int))))else none)=_;refine(if_pos hl).symm▸?_;have:sliceL l none (some (p:Int))=l.take p:=by
  show(l.take (fH l.length (p:Int))).drop 0=_;exact(u9 h).symm▸(kn).symm▸rfl
 exact this.symm▸rfl
theorem Fi {l:List PV} {p:Nat} (hl:l.length<=dm) (h:p<=l.length):pb (.list l) (some (p:Int)) none=some (.list (l.drop p)):=by
 show(if l.length<=dm then some (PV.list (sliceL l (some (p:Int)) none))else none)=_;refine(if_pos hl).symm▸?_;have:sliceL l (some (p:Int)) none=l.drop p:=by
  show(l.take l.length).drop (fH l.length (p:Int))=_;exact(u9 h).symm▸(eG).symm▸rfl
 exact this.symm▸rfl
variable {N B:aE->ah->Prop} {R Q:PV->ah->Prop} {X:ah->Prop} {σ₀:ah} {t l r:T} {c place last l0:Nat} {ps0 ps1 ps:List (Nat×Bool)} {ms ms0:List AT} {ρ:aE} {rare:Int}
noncomputable def Er (c:Nat) (rare:Int) (W:Nat) (t:T):Prop:=∀{n place:Nat} {σ:ah} {ps0:List (Nat×Bool)} {Q:PV->ah->Prop} {X:ah->Prop},jN t+2<=n->Bx σ->σ[c]?=some (jg ps0)->ps0.length+3*sz t<=5000->KM c σ t place ps0 Q->
 WP (C W n "_law_written" [.loc 0,.int rare,pv t,.int place,.loc c] σ) Q X
theorem WrI.ml {aF:ah} (h:WrI c σ t place ps0 ms last ps aF) (hb:ps0.length+3*sz t<=5000):(ms.map mv).length<=12000/\last<=ms.length:=by
 obtain⟨_,_,_,_,h1,h2,h3⟩:=h;rw[ar];exact⟨d3 0x32ee041b083a20392b0869303a08713884193038203 hb h1 h2,h3⟩
theorem Iv {ws:List (Fin 9)}:(ws.map λw=>PV.str (wS w))=((ws.map Tok.wd).map AT.tok).map mv:=by simp[mv];intro a _;rfl
theorem Iw (hc:c≠0) (hr1:1<=rare) (hr2:rare<=40) {d:T} {p:Fin 9} {k:Fin 3} (ih:Er c rare W d) (hn:jN d+2<=n+1) (hb:Bx σ) (hp:σ[c]?=some (jg ps0)) (hbig:ps0.length+3*sz (.red d p k)<=5000) (q:KM c σ (.red d p k) place ps0 Q):
  WP (C W (n+2) "_law_written" [.loc 0,.int rare,pv (.red d p k),.int place,.loc c] σ) Q X:=
 have hs:sz (.red d p k)=sz d+2:=rfl
 b6 rfl rfl (.f rfl (.t rfl (.of rfl (ih (n:=n+1) (place:=3) hn hb hp (b7 0x1138841a3038207d20a2928113884193038202 hbig hs) λms last ps aZ h=>by
  obtain⟨m1,m2⟩:=h.ml (b7 0x1138841a3038207d20a2928113884193038202 hbig hs);obtain⟨k1,b1,hw,hp1,hs1,hm,hl⟩:=h;refine .of (ni (gA (cy 0x175304180812ee041801 m1))) (.of rfl (.of rfl (qW b1 (by rw[ar];exact bH 0x110869642004819801 m2) (bH 0x1f424051109686424812ee041801 m1) λr bK hr k2 el=>.of rfl (K7 (λQ h=>h) ?_))));rw[show(last:Int)+(r:Int)=((last+r:Nat):Int)from rfl];rw[ar]at hr;have hpos:last+r<=(ms.map mv).length:=by rw[ar];exact b7 0x198a208110a696428641 hr
  refine .of (zz (gA (cy 0x175304180812ee041801 m1)) hpos) (.of rfl (.of rfl (.of (oR (by rw[dW];simp only[aj,bc];exact gA (bH 0x17530411010002292081890812ee041802 m1 (gL _ _)))) (.of (Fi (gA (cy 0x175304180812ee041801 m1)) hpos) (.of (oR (by simp only[af,dW,cV,aj,bc];exact gA (jx 0x1753041c101000229220818ba2c2281ba290812ee041803 m1 (f8 _ _) (ac (n:=(iR mv ms).length) (m:=last+r) (b7 0x1a982081a98201 hpos))))) (.of rfl ?_))))));refine zq (ρ:=[("box",.loc 0),("rare",.int rare),("tree",pv (.red d p k)),("place",.int place),("pairs",.loc c),("last",.int ((last+r:Nat)+2)),("own",.int 3),("marks",.list ((ms.map mv).take (last+r)++[.str (tS (.rd k)),.str (wS p)]++(ms.map mv).drop (last+r))),("sign",.str (tS (.rd k)))]) (ps1:=ps) (ms0:=ms.take (last+r)++[.tok (.rd k),.tok (.wd p)]++ms.drop (last+r)) (l0:=last+r+2) (t:=.red d p k) hc ⟨k1.trans (k2.kw el),k2.bx,k2.keep hc hp1,⟨ms,last,last+r,hw,bG _ _,by rw[ar]at hpos;exact hpos,rfl,rfl⟩,b7 0x1830330a20819303a07d2092822 hs hs1,by
   simp only[af,dW,cV,aj,bc];exact HU 0x1b20382f10100022c22081aed2f2281ed2c081b20392a07f2092824 hs hm (f8 _ _) (ac (n:=ms.length) (m:=last+r) (b7 0x198a208110a696428641 hr))⟩ hbig hr1 hr2 ⟨rfl,rfl,rfl,rfl,rfl,rfl,?_,trivial⟩ q
  simp only[ca,xo,xq];rfl))))
theorem EX (hc:c≠0) (hr1:1<=rare) (hr2:rare<=40) {d:T} (ih:Er c rare W d) (hn:jN d+2<=n+1) (hb:Bx σ) (hp:σ[c]?=some (jg ps0)) (hbig:ps0.length+3*sz (.back d)<=5000) (q:KM c σ (.back d) place ps0 Q):
  WP (C W (n+2) "_law_written" [.loc 0,.int rare,pv (.back d),.int place,.loc c] σ) Q X:=
 have hs:sz (.back d)=sz d+1:=rfl
 b6 rfl rfl (.f rfl (.f rfl (.t rfl (.of rfl (ih (n:=n+1) (place:=1) hn hb hp (b7 0x1138841a3038207d10a2928113884193038202 hbig hs) λms last ps aZ h=>by
  obtain⟨m1,m2⟩:=h.ml (b7 0x1138841a3038207d10a2928113884193038202 hbig hs);obtain⟨k1,b1,hw,hp1,hs1,hm,hl⟩:=h;refine .of rfl (.of rfl (.of (oR (gA (ae (aK m1) (by decide)))) ?_));refine zq (ρ:=[("box",.loc 0),("rare",.int rare),("tree",pv (.back d)),("place",.int place),("pairs",.loc c),("last",.int 0),("own",.int 1),("marks",.list (ms.map mv++[.str (aa "&")]))]) (ps1:=ps) (ms0:=ms++[.tok .amp]) (l0:=0) (t:=.back d) hc ⟨k1,b1,hp1,⟨ms,last,hw,rfl,rfl⟩,b7 0x1830330a20819303a07d1092822 hs hs1,by rw[af];simp only[aj,bc];exact d3 0x1b2038210002a2081b20392a07f1092822 hs hm⟩ hbig hr1 hr2 ⟨rfl,rfl,rfl,rfl,rfl,rfl,?_,trivial⟩ q;simp only[ca];rfl)))))
noncomputable def CG (s:Bool):Nat:=if s then 1 else 3
noncomputable def HD (rare:Int) (c place:Nat) (s:Bool) (l r:T):aE:=[("box",.loc 0),("rare",.int rare),("tree",pv (.pair s l r)),("place",.int place),("pairs",.loc c),("last",.int 0),("own",.int (own (.pair s l r))),("spot",.int (CG s))]
theorem AV (s:Bool):(CG s:Int)-1=((if s then 0 else 2:Nat):Int):=by induction s<;>rfl
theorem Bj (hc:c≠0) (hr1:1<=rare) (hr2:rare<=40) {s:Bool} (ihl:Er c rare W l) (ihr:Er c rare W r) (hnl:jN l+2<=n+1) (hnr:jN r+2<=n+1) (hb:Bx σ) (hp:σ[c]?=some (jg ps0)) (hbig:ps0.length+3*sz (.pair s l r)<=5000) (q:KM c σ (.pair s l r) place ps0 R):
  dO (C W (n+1)) W ((KJ (qf (KJ (qf (KJ (qf ei 1)) 0)) 0)).drop 1) (HD rare c place s l r) (λρ σ=>dO (C W (n+1)) W (ei.drop 2) ρ N B R X σ) B R X σ:=by
 have hs:sz (.pair s l r)=sz l+sz r+1:=rfl;refine .of rfl (ihl (n:=n+1) (place:=CG s) hnl hb hp (d3 0x1138841a3038207d10ba22928113884193038202 hbig hs) λms last ps aZ h=>?_);obtain⟨m1,m2⟩:=h.ml (d3 0x1138841a3038207d10ba22928113884193038202 hbig hs);obtain⟨k1,b1,hw,hp1,hs1,hm,hl⟩:=h;refine .of rfl (.of rfl (.of rfl (.of (oR (gA (ae (aK m1) (by decide)))) (.of rfl (.of rfl ?_)))));rw[AV];have hb2:(ps0++ps).length+3*sz r<=5000:=by rw[af];exact jx 0x1138841b303c822081a303c07d10ba22928113884193038203 hbig hs hs1
 refine ihr (n:=n+1) (place:=if s then 0 else 2) hnr b1 hp1 hb2 λms2 last2 ps2 bK h2=>?_;obtain⟨m3,m4⟩:=h2.ml hb2;obtain⟨k2,b2,hw2,hp2,hs2,hm2,hl2⟩:=h2;replace hw2:=(af)▸hw2;refine .of rfl (.of (oR (gA (by rw[af];exact ae (KS (aK m1) m3) (by decide)))) ?_);refine zq (ρ:=HD rare c place s l r++[("marks",.list (ms.map mv++[.str (Hy s)]++ms2.map mv))]) (ps1:=ps++ps2) (ms0:=ms++.tok (qe s)::ms2) (l0:=0) (t:=.pair s l r) hc ⟨k1.trans k2,b2,by rw[<-aq];exact hp2,⟨ms,last,ps,ms2,last2,ps2,hw,hw2,rfl,rfl,rfl⟩,by rw[af];exact jx 0x1830330cb22081a303c0819303b07d10a922823 hs hs1 hs2,by
  simp only[af,aj];exact yt 0x1ec22038210d2b2081e203a2d081c20392b07f10a922823 hs hm hm2⟩ hbig hr1 hr2 ⟨rfl,rfl,rfl,rfl,rfl,rfl,?_,trivial⟩ q
 refine(show ms++AT.tok (qe s)::ms2=ms++[.tok (qe s)]++ms2 by simp).symm▸?_;simp only[ca]
 induction s<;>rfl
theorem xA (hc:c≠0) (hr1:1<=rare) (hr2:rare<=40) (t:T):Er c rare W t:=by
 induction t with
 |run ws=>
  intro n place σ ps0 Q X hn hb hp hbig q;obtain⟨m,e⟩:=aP hn;have hs:sz (.run ws)=ws.length+1:=rfl;refine e.symm▸?_;exact b6 rfl rfl (.t rfl (.of rfl (.of (if_pos (by rw[ar];exact gA (b7 0x3753041a07d10a2928113884193038202 hbig hs))) (zq (ρ:=[("box",.loc 0),("rare",.int rare),("tree",pv (.run ws)),("place",.int place),("pairs",.loc c),("last",.int 0),("own",.int 3),("marks",.list (ws.map λw=>.str (wS w)))]) (ps1:=[]) (ms0:=(ws.map Tok.wd).map .tok) (l0:=0) (t:=.run ws) hc ⟨.refl _ _,hb,by rw[bz];exact hp,⟨rfl,rfl,rfl⟩,by rw[hs];simp;exact cy 0x110823033000,by rw[hs];simp⟩ hbig hr1 hr2
   ⟨rfl,rfl,rfl,rfl,rfl,rfl,by rw[<-Iv];rfl,trivial⟩ q))))
 |red d p k ih=>
  intro n place σ ps0 Q X hn hb hp hbig q;obtain⟨m,e⟩:=aP hn;have hh:jN (.red d p k)=jN d+1:=rfl;have e:n=m+jN d+1+2:=am (d3 0x12010b9222808110b2a28120a292822 e hh) (d3 0x182010b922207f10b2a27f20a292822 e hh);refine e.symm▸?_;exact Iw hc hr1 hr2 ih (bH 0x1101089222208200) hb hp hbig q
 |back d ih=>
  intro n place σ ps0 Q X hn hb hp hbig q;obtain⟨m,e⟩:=aP hn;have hh:jN (.back d)=jN d+1:=rfl;have e:n=m+jN d+1+2:=am (d3 0x12010b9222808110b2a28120a292822 e hh) (d3 0x182010b922207f10b2a27f20a292822 e hh);refine e.symm▸?_;exact EX hc hr1 hr2 ih (bH 0x1101089222208200) hb hp hbig q
 |pair s l r ihl ihr=>
  intro n place σ ps0 Q X hn hb hp hbig q;obtain⟨m,e⟩:=aP hn;have hh:jN (.pair s l r)=max (jN l) (jN r)+1:=rfl;have e:n=m+max (jN l) (jN r)+1+2:=am (d3 0x12010b9222808110b2a28120a292822 e hh) (d3 0x182010b922207f10b2a27f20a292822 e hh);refine e.symm▸?_;have rest:=@Bj W (m+max (jN l) (jN r)+1) σ (λö σ=>Q .none σ) (λö ö=>False) Q X l r c place ps0 rare hc hr1 hr2 s ihl ihr (b7 0x110109a22220820819801 (cG _ _)) (b7 0x110109a22220820819801 (bQ _ _)) hb hp hbig q;exact b6 rfl rfl (.f rfl (.f rfl (.f rfl (.of rfl (.of (qA s) (match s,rest with
   |true,rest=>.t rfl rest
   |false,rest=>.f rfl rest))))))
open PySem
variable {W n:Nat} {σ:ah}
noncomputable def KI (gs:List Nat):PV:=.list (gs.map lU)
theorem ints_map (gs:List Nat):mH (gs.map lU)=some (gs.map λi:Nat=>(i:Int)):=by
 unfold mH
 induction gs with
 |nil=>rfl
 |cons g gs ih=>rw[bq,n7,ih];rfl
theorem uK (i:Nat) (gs:List Nat):jF .notin (.int i) (KI gs)=some (.bool !(decide (i∈gs))):=by
 show((mH (gs.map lU)).map λl=>decide ((i:Int)∈l)).map (λb=>PV.bool !b)=_;rw[ints_map];simp only[dF,bv]
 congr 3
 by_cases h:i∈gs
 ·rw[decide_eq_true h,decide_eq_true ⟨i,h,rfl⟩]
 ·rw[decide_eq_false h,decide_eq_false];rintro⟨j,hj,e⟩;have:j=i:=am (bH 0x198081968651 e) (bH 0x18907f968651 e);exact h (this▸hj)
theorem u0 {σ₀ aZ:ah} (h:Kw σ₀.length (σ₀++[jg []]) aZ) (hc:kP σ₀) (hb:Bx aZ) (p:PV):(aZ.set σ₀.length .dead).map (cS.subst σ₀.length p)=aZ.set σ₀.length .dead:=by
 refine Aw (λc hcm=>?_) p;obtain⟨j,hj⟩:=dS.mp hcm;have hl:=h.len;simp at hl;by_cases z:j=σ₀.length
 ·subst z;replace hj:=(bX (by exact bH 0x18917f1092821 hl))▸hj
  (injection hj;subst_vars)
  exact iZ _ (.head _) _
 ·replace hj:=(bw (Ne.symm z))▸hj;have hjl:=(ao.mp hj).1;by_cases y:j=0
  ·subst y;obtain⟨l,s,e⟩:=hb;replace hj:=(e)▸hj
   (injection hj;subst_vars)
   intro i _ q;simp only[oI,cS.subst,dh,di,cn,bU,cj,cq,cm,cr]
  ·rw[h.old j (by simp;exact b7 0x11092a1818a1811092822 hl hjl) y z,aR (by omega)]at hj;exact hc c (ci hj)
theorem Bg (ps:List (Nat×Bool)) (n:Nat):∀c∈[jg ps],xk n c:=λc hc=>by
 refine(aC.mp hc).symm▸?_;exact tZ _ _
theorem GI {σ₀ aZ:ah} (h:Kw σ₀.length (σ₀++[jg []]) aZ) (hc:kP σ₀) (h0:0<σ₀.length) (hb:Bx aZ):Kb σ₀ (aZ.set σ₀.length .dead):=by
 have hl:aZ.length=σ₀.length+1:=by have:=h.len;rw[af]at this;exact this
 refine⟨by rw[dH,hl];exact iD _,λj hj z=>?_,λö c hcm=>?_,hb.set (f0 h0) _⟩
 ·exact(bw (f0 hj)).symm▸(h.old j (by rw[af];exact gq hj) z (dr hj)).symm▸(aR hj).symm▸rfl
 ·skip;refine(dH).symm▸?_;rcases kS hcm with z|z
  ·exact(h.cls (hc.app (Bg _ _))) c z
  ·exact z▸iZ _ (.head _) _
noncomputable def t6 (gs:List Nat):PV->Bool
 |.str _=>true
 |.tup [_,.int i]=>!(decide (i.toNat∈gs))
 |_=>false
noncomputable def z7:PV->PV
 |.tup [x,_]=>x
 |v=>v
noncomputable def qO (gs:List Nat) (i:Nat):Bool:=decide (i∈gs)
theorem z6 {gs:List Nat} {i:Nat} (h:i∈gs):¬(!decide (i∈gs))=true:=by rw[decide_eq_true h];nofun
theorem wA {gs:List Nat} {i:Nat} (h:i∉gs):(!decide (i∈gs))=true:=by rw[decide_eq_false h];rfl
theorem rP (gs:List Nat):∀ms:List AT,((ms.map mv).filter (t6 gs)).map z7=bV (strip (qO gs) ms)
 |[]=>rfl
 |a::ms=>by
  have ih:=rP gs ms;refine(bq).symm▸?_
  induction a with
  |tok t=>
   rw[bb rfl,bq,ih];rfl
  |lp i=>
   by_cases h:i∈gs
   ·have e:strip (qO gs) (.lp i::ms)=strip (qO gs) ms:=xt (by simp[nH,qO,h]);exact(bB (p:=t6 gs) (a:=mv (.lp i)) (z6 h)).symm▸ih.symm▸e.symm▸rfl
   ·have e:strip (qO gs) (.lp i::ms)=.lp::strip (qO gs) ms:=xr (by simp[nH,qO,h]);refine(bb (p:=t6 gs) (a:=mv (.lp i)) (wA h)).symm▸(bq).symm▸ih.symm▸e.symm▸?_;rfl
  |rp i=>
   by_cases h:i∈gs
   ·have e:strip (qO gs) (.rp i::ms)=strip (qO gs) ms:=xt (by simp[nH,qO,h]);exact(bB (p:=t6 gs) (a:=mv (.rp i)) (z6 h)).symm▸ih.symm▸e.symm▸rfl
   ·have e:strip (qO gs) (.rp i::ms)=.rp::strip (qO gs) ms:=xr (by simp[nH,qO,h]);refine(bb (p:=t6 gs) (a:=mv (.rp i)) (wA h)).symm▸(bq).symm▸ih.symm▸e.symm▸?_;rfl
noncomputable def jZ (gs:List Nat) (ps:List (Nat×Bool)):List Nat:=((iy ps.length).filter λk=>!(decide (k∈gs))).map λk=>((ps[k]?).map (·.1)).getD 0
noncomputable def z5 (gs:List Nat):PV->Bool
 |.int i=>!(decide (i.toNat∈gs))
 |_=>false
noncomputable def wz (ps:List (Nat×Bool)):PV->PV
 |.int i=>.int (((ps[i.toNat]?).map (·.1)).getD 0:Nat)
 |v=>v
theorem Gq (gs:List Nat) (ps:List (Nat×Bool)):((fE (ps.length:Int)).filter (z5 gs)).map (wz ps)=(jZ gs ps).map lU:=by
 unfold fE jZ;rw[iT,jK,eB,eB];have e1:(z5 gs∘λk:Nat=>PV.int (Int.ofNat k))=λk=>!(decide (k∈gs)):=by funext k;simp[z5]
 rw[e1];refine oZ λk ö=>?_;simp[wz,lU]
noncomputable def yM (gs:List Nat) (ps:List (Nat×Bool)):List (Nat×Bool):=ps.filter λp=>p.2&&!(decide (p.1∈jZ gs ps))
theorem AB (gs:List Nat) (ps:List (Nat×Bool)):yM gs ps=[]↔xg (qO gs) 0 ps:=by
 have mem:∀node,node∈jZ gs ps↔∃(j:Nat) (b:Bool),ps[j]?=some (node,b)/\qO gs (0+j)=false:=by
  intro node;unfold jZ;simp only[bv,hZ,eQ,bl,decide_eq_false_iff_not,qO,aV];constructor
  ·rintro⟨k,⟨hk,hg⟩,e⟩;refine⟨k,(ps[k]).2,?_,by simpa using hg⟩;rw[b5 hk]at e⊢;simp only[dF,Option.getD_some]at e;exact e▸rfl
  ·rintro⟨j,b,e,hg⟩;exact⟨j,⟨(ao.mp e).1,by simpa using hg⟩,by rw[e];rfl⟩
 unfold yM xg;rw[zd];constructor
 ·intro h i node hi;rw[<-mem];have:=h (node,true) (ci hi);simpa using this
 ·rintro h ⟨node,b⟩ hp;obtain⟨i,hi⟩:=dS.mp hp
  induction b with
  |false=>simp
  |true=>
   have:=(mem node).mpr (h i node hi);simp[this]
noncomputable def J3 (ks:List Nat):PV->Bool
 |.tup [.int i,.bool b]=>b&&!(decide (i.toNat∈ks))
 |_=>false
theorem J2 (gs:List Nat) (ps:List (Nat×Bool)):((ps.map rt).filter (J3 (jZ gs ps))).map z7=(yM gs ps).map λp=>.int p.1:=by
 unfold yM;refine(jK).symm▸(eB).symm▸?_;have e1:(J3 (jZ gs ps)∘rt)=λp=>p.2&&!(decide (p.1∈jZ gs ps)):=rfl;refine e1.symm▸?_;rfl
theorem Ji (l:List (Nat×Bool)):jF .ne (.list (l.map λp=>.int p.1)) (.list [])=some (.bool !(decide (l=[]))):=by
 show(xw (.list (l.map λp=>PV.int p.1)) (.list [])).map (λb=>PV.bool !b)=_;obtain⟨d,h1,h2⟩:=JK (a:=l.map λp=>PV.int p.1) (b:=[]) (λv hv=>by obtain⟨p,_,rfl⟩:=bv.mp hv;exact .int _) (λv hv=>by contradiction);rw[h1];simp only[dF]
 congr 3
 rw[oY]at h2
 induction d with
 |true=>rw[decide_eq_true (h2.mp rfl)]
 |false=>rw[decide_eq_false λq=>by have:=h2.mpr q;contradiction]
open PySem
variable {W n:Nat} {σ:ah}
theorem eqR (a b:Option T):jF .eq (kD a) (kD b)=some (.bool (decide (a=b))):=by
 show(xw (kD a) (kD b)).map PV.bool=_;rw[DW];rfl
theorem neR (a b:Option T):jF .ne (kD a) (kD b)=some (.bool !(decide (a=b))):=by
 show(xw (kD a) (kD b)).map (λb=>PV.bool !b)=_;rw[DW];rfl
variable {N B:aE->ah->Prop} {R Q:PV->ah->Prop} {X:ah->Prop} {σ₀:ah} {t:T} {last:Nat} {ps:List (Nat×Bool)} {ms:List AT} {gs:List Nat}
noncomputable def Ke (σ:ah) (R:PV->ah->Prop):Prop:=∀ts aF,Kb σ aF->ts.length<=10000->R (.list (bV ts)) aF
theorem DA (hk:k<ps.length) (hp:ps.length<=700):nR σ (.list (ps.map rt)) (.int (k:Int))=some (rt ps[k]):=
 ye (by rw[df,b5 hk];rfl) (gM (aO hk hp) (by decide))
theorem Dv (hk:k<ps.length):wz ps (.int (Int.ofNat k))=.int (ps[k].1:Nat):=by simp[wz,hk]
theorem Du:(jZ gs ps).length<=ps.length:=by
 unfold jZ;rw[ar];exact ae (eR _ _) (bZ qw)
theorem iW (h:a<=2000):a<=dm:=ae h (by decide)
noncomputable def thE (t:T) (ps:List (Nat×Bool)) (gs:List Nat) (ts:List Tok) (rare w:PV):aE:=
 [("box",.loc 0),("tree",pv t),("flat",.list (dU t)),("rare",rare),("pairs",.list (ps.map rt)),("gone",KI gs),("marks",.list (bV ts)),("way",w),("kept",KI (jZ gs ps)),("found",kD (ik ts))]
variable {rare w:PV}
theorem ID (ht:bT t) (hw:WW (WB t) (own t) 0 0 ms last ps) (k0:Kb σ₀ σ) (hm:(strip (qO gs) ms).length<=2000) (hbad:yM gs ps=[]) (q:Ke σ₀ R):
  dO (C W (n+2)) W (gY.drop 9) (thE t ps gs (strip (qO gs) ms) rare w) N B R X σ:=
 have hm:=ae hm (by decide:2000<=10000);have⟨h,hd,hr⟩:=(vE ht hw ((AB gs ps).mp hbad)).read
 nU (n:=n+1) hd hm λbK k2=>have fin:=q _ _ (k0.trans (k2.kb k0.bx)) hm
  .of rfl (.dec' (λz=>.of (eqR _ (some t)) (.t (by rw[hr,if_pos z];simp[iH]) fin)) λz=>.of (eqR _ none) (.t (by rw[hr,if_neg z];simp[iH]) fin))
theorem IE (k0:Kb σ₀ σ) (ht:bT t) (hw:WW (WB t) (own t) 0 0 ms last ps) (hm:(strip (qO gs) ms).length<=2000) (hp:ps.length<=700) (q:Ke σ₀ R):
  dO (C W (n+2)) W (gY.drop 8) (thE t ps gs (strip (qO gs) ms) rare w) N B R X σ:=by
 have hpl:(ps.map rt).length=ps.length:=ar ..;refine .of rfl (ie (J3 (jZ gs ps)) z7 (λv hv=>?_) ?_)
 ·obtain⟨⟨node,b⟩,ha,rfl⟩:=bv.mp hv;refine⟨_,rfl,λQ hQ=>?_,λö Q hQ=>hQ⟩
  induction b with
  |true=>exact .of rfl (.t rfl (.of (uK node (jZ gs ps)) hQ))
  |false=>exact .of rfl (.f rfl hQ)
 rw[J2];have hbl:(yM gs ps).length<=ps.length:=eR _ _;refine⟨by rw[hpl];exact iW (ae hp (by decide)),.of (if_pos (by rw[ar];exact iW (ae hbl (ae hp (by decide))))) (.of rfl (.of (Ji _) (.dec (λe=>?_) λe=>?_)))⟩
 ·have hbad:yM gs ps≠[]:=λz=>by rw[decide_eq_true z]at e;contradiction
  exact .of (neR _ (some t)) (.t (congrArg (λb=>some !b) (decide_eq_false λq=>hbad ((AB gs ps).mpr (vF hw q)))) (q _ _ k0 (ae hm (by decide))))
 ·exact ID ht hw k0 hm (Decidable.of_not_not λz=>by rw[decide_eq_false z]at e;contradiction) q
theorem ut (hW:60001<=W) (hc:kP σ) (k0:Kb σ₀ σ) (ht:bT t) (hf:fl t<=107) (hn:108<=n) (hw:WW (WB t) (own t) 0 0 ms last ps) (hp:ps.length<=700) (hm:ms.length<=2000) (q:Ke σ₀ R):
  dO (C W (n+2)) W (gY.drop 5) [("box",.loc 0),("tree",pv t),("flat",.list (dU t)),("rare",rare),("pairs",.list (ps.map rt)),("gone",KI gs),("marks",.list (ms.map mv)),("way",w)] N B R vA σ:=by
 have hsl:(strip (qO gs) ms).length<=2000:=ae (List.length_filterMap_le _ _) hm;have hnp:((strip (qO gs) ms).filter np).length<=107:=by rw[(hw.bal (qO gs)).2];exact hf
 have hpl:(ps.map rt).length=ps.length:=ar ..;refine .of rfl (ie (t6 gs) z7 (λv hv=>?_) ?_)
 ·obtain⟨a,ha,rfl⟩:=bv.mp hv
  induction a with
  |tok t=>exact⟨_,rfl,λQ hQ=>.of rfl (.t rfl hQ),λö Q hQ=>.t rfl hQ⟩
  |lp i=>exact⟨_,rfl,λQ hQ=>.of rfl (.f rfl (.of rfl (.of (uK i gs) hQ))),λö Q hQ=>.f rfl (.of rfl hQ)⟩
  |rp i=>exact⟨_,rfl,λQ hQ=>.of rfl (.f rfl (.of rfl (.of (uK i gs) hQ))),λö Q hQ=>.f rfl (.of rfl hQ)⟩
 rw[rP];refine⟨by rw[ar];exact iW hm,.of (if_pos (by rw[cQ];exact iW hsl)) (.of (ni (by rw[hpl];exact iW (ae hp (by decide)))) ?_)⟩;rw[hpl];refine .of (fP (show ps.length<=dm from iW (ae hp (by decide)))) (ie (z5 gs) (wz ps) (λv hv=>?_) ?_)
 ·obtain⟨k,hk,rfl⟩:=bv.mp hv;rw[eQ,iT]at hk;refine⟨_,rfl,λQ hQ=>.of (uK k gs) hQ,λö Q hQ=>.of (DA hk hp) (.of rfl ?_)⟩;rw[Dv hk]at hQ;exact hQ
 rw[Gq];refine⟨by rw[gm];exact iW (ae hp (by decide)),.of (a:=KI (jZ gs ps)) (if_pos (by rw[ar];exact iW (ae Du (ae hp (by decide))))) ?_⟩;exact⟨rfl,qN (ts:=strip (qO gs) ms) (ae hsl (by decide)) λv hx=>uD (n:=n) hW hc hx (ae hsl (by decide)) (ae (by decide) hn) (ae (aK hnp) hn) λaZ k1=>
  IE (n:=n) (k0.trans (k1.kb k0.bx)) ht hw hsl hp q⟩
open PySem
variable {W n:Nat} {σ:ah}
variable {N B:aE->ah->Prop} {R Q:PV->ah->Prop} {X:ah->Prop} {σ₀:ah} {t:T} {last:Nat} {ps:List (Nat×Bool)} {ms:List AT} {gs:List Nat} {rare w:PV}
theorem By {wc we:aE->(PV->ah->Prop)->ah->Prop} (hc:∀v (Q:PV->ah->Prop) σ,Bx σ->(∀(b:Bool) aF,Kb σ aF->Q (.bool b) aF)->wc [("k",v)] Q σ) (he:∀v (Q:PV->ah->Prop) σ,Q v σ->we [("k",v)] Q σ) (l:List Nat):
  ∀{Q:List PV->ah->Prop} {σ:ah},Kb σ₀ σ->(∀(gs:List Nat) aF,gs.length<=l.length->Kb σ₀ aF->Q (gs.map lU) aF)->IA wc we ["k"] (l.map λk=>.int (Int.ofNat k)) Q σ:=by
 induction l with
 |nil=>exact λk h=>h [] _ (au _) k
 |cons i l ih=>exact λk h=>.of rfl (hc _ _ _ k.bx λt aF k'=>.dec (λö=>he _ _ _ (ih (k.trans k') λgs σ'' hl k''=>h (i::gs) σ'' (aK hl) k'')) λö=>ih (k.trans k') λgs σ'' hl k''=>h gs σ'' (bP hl) k'')
theorem FY (ps:List (Nat×Bool)):jF .ne (.list (ps.map rt)) (.list [])=some (.bool !(decide (ps=[]))):=by
 induction ps with
 |nil=>kernel_rfl
 |cons p ps=>rfl
theorem IF (hW:60001<=W) (hc:kP σ) (k0:Kb σ₀ σ) (ht:bT t) (hf:fl t<=107) (hn:108<=n) (hw:WW (WB t) (own t) 0 0 ms last ps) (hp:ps.length<=700) (hm:ms.length<=2000) (q:Ke σ₀ R):
  dO (C W (n+2)) W (gY.drop 3) [("box",.loc 0),("tree",pv t),("flat",.list (dU t)),("rare",rare),("pairs",.list (ps.map rt)),("gone",.list []),("marks",.list (ms.map mv))] N B R vA σ:=by
 have hpl:(ps.map rt).length=ps.length:=ar ..;have hlim:(ps.map rt).length<=dm:=by rw[hpl];exact iW (ae hp (by decide))
 refine .of rfl (.of (FY ps) (.dec (λhe=>dP k0.bx (by decide) (by decide) λr aZ hr k1=>?_) λö=>.of rfl (.f rfl (.of rfl (.f rfl (ut (n:=n) (gs:=[]) hW hc k0 ht hf hn hw hp hm q))))));refine .of (eK _ _) (.dec' (λö=>.of (ni hlim) ?_) λö=>.of (eK _ _) (.dec' (λö=>.of (ni hlim) ?_) λö=>ut (n:=n) (gs:=[]) hW (k1.cls hc) (k0.trans k1) ht hf hn hw hp hm q))
 ·have h0:0<ps.length:=o0.mpr λz=>by rw[decide_eq_true z]at he;contradiction
  exact dP k1.bx (by rw[hpl];exact bF.mpr h0) (by rw[hpl];exact bF.mpr (bf hp (by decide:700<1000000))) λg bK hg k2=>.of rfl (ut (n:=n) (gs:=[g]) hW ((k1.trans k2).cls hc) ((k0.trans k1).trans k2) ht hf hn hw hp hm q)
 ·rw[hpl];exact .of (fP (show ps.length<=dm from hpl▸hlim)) (By (σ₀:=σ) (λv Q σ hb hQ=>dP hb (by decide) (by decide) λr aZ hr k1=>.of (eK _ _) (hQ _ _ k1)) (λv Q σ h=>h) _ k1 λgs bK hl k2=>
   ⟨by rw[gm];exact hpl▸hlim,.of (a:=KI gs) (if_pos (by rw[ar];rw[qw]at hl;exact iW (ae hl (ae hp (by decide))))) (ut (n:=n) (gs:=gs) hW (k2.cls hc) (k0.trans k2) ht hf hn hw hp hm q)⟩)
theorem mq (j:Nat) (q:PV):∀t:T,PV.subst j q (pv t)=pv t
 |.run ws=>by
  simp only[uE,uF,qC,qD,cn,bU,cj,cq,cm,cr,dh,di];have:=kY j q ws;unfold qy at this;exact this.symm▸rfl
 |.red c p k=>by simp only[uE,uF,qC,qD,cn,bU,cj,cq,cm,cr,dh,di,mq j q c]
 |.back c=>by simp only[uE,uF,qC,qD,cn,bU,cj,cq,cm,cr,dh,di,mq j q c]
 |.pair s l r=>by simp only[uE,uF,qC,qD,cn,bU,cj,cq,cm,cr,dh,di,mq j q l,mq j q r]
theorem qY (j:Nat) (q:PV):∀a b:List PV,PV.substs j q (a++b)=PV.substs j q a++PV.substs j q b
 |[],_=>rfl
 |v::a,b=>by simp only[bC,dh,di,qY j q a b]
theorem iV (j:Nat) (q:PV):∀t:T,PV.substs j q (dU t)=dU t
 |.run ws=>by
  have:=kY j q ws;unfold qy at this;simp only[c7,c8,cT,cU,cn,bU,cj,cq,cm,cr,dh,di,this]
 |.red c p k=>by simp only[c7,c8,cT,cU,cn,bU,cj,cq,cm,cr,dh,di,iV j q c]
 |.back c=>by simp only[c7,c8,cT,cU,cn,bU,cj,cq,cm,cr,dh,di,iV j q c]
 |.pair s l r=>by simp only[c7,c8,cT,cU,cn,bU,cj,cq,cm,cr,dh,di,qY,iV j q l,iV j q r]
theorem tR (j:Nat) (q:PV):∀ms:List AT,PV.substs j q (ms.map mv)=ms.map mv
 |[]=>rfl
 |a::ms=>by induction a<;>simp only[bq,mv,cn,bU,cj,cq,cm,cr,dh,di,tR j q ms]
theorem JL {P:aE->ah->Prop} {ρ f7:aE} {σ aF:ah} (k:P f7 aF) (h:ρ=f7) (hs:σ=aF):P ρ σ:=by rw[h,hs];exact k
theorem Lj {r:Nat} (h:(r:Int)<3):∃i:Int,1<=i/\i<=40/\nR σ (.list [.int 8,.int 40,.int 1]) (.int r)=some (.int i):=match r,h with
 |0,_=>⟨8,by decide,by decide,rfl⟩
 |1,_=>⟨40,by decide,by decide,rfl⟩
 |2,_=>⟨1,by decide,by decide,rfl⟩
 |r+3,h=>aw (cy 0x781303082641 h)
theorem Bx.pos (h:Bx σ):0<σ.length:=have⟨_,_,e⟩:=h;(ao.mp e).1
theorem Bx.app (h:Bx σ) (τ:ah):Bx (σ++τ):=have⟨l,s,e⟩:=h;⟨l,s,by rw[aR h.pos];exact e⟩
theorem AP {j:Nat} {p:PV} (hj:j≠0):([("box",PV.loc 0),("tree",pv t),("flat",.list (dU t)),("rare",.int i),("pairs",.loc j),("gone",.list []),("marks",.list (ms.map mv))]:aE).map (λq=>(q.1,PV.subst j p q.2))=
  [("box",.loc 0),("tree",pv t),("flat",.list (dU t)),("rare",.int i),("pairs",p),("gone",.list []),("marks",.list (ms.map mv))]:=by
 simp only[bq,qt,cn,bU,cj,cq,cm,cr,dh,di,mq,iV,tR,if_true];rw[if_neg (Ne.symm hj)]
theorem Cv (hW:60001<=W) (hb:Bx σ) (hc:kP σ) (ht:bT t) (hf:fl t<=107) (hn:108<=n) (q:Ke σ Q):WP (C W (n+3) "_law_thick" [.loc 0,pv t,.list (dU t)] σ) Q vA:=
 have hs:=jT t;have hf':(fA t).length<=107:=hf
 b6 rfl rfl (.of rfl (dP hb (by decide) (by decide) λr aZ hr k1=>have⟨i,h1,h2,e⟩:=Lj hr
  have h0:=k1.bx.pos;have hc1:=k1.cls hc
  .of e ⟨by decide,.of rfl (xA (c:=aZ.length) (f0 h0) h1 h2 t (n:=n+2) (place:=0) (ps0:=[]) (σ:=aZ++[jg []]) (b7 0x3c208220920bc6b21a0bca90bb86c2103 hn (iX t) hf') (k1.bx.app _) iM (by simp;exact bH 0x113884183030866b2190831092032802 hs hf') λms last ps bK h=>have⟨k2,b2,hw,hp,hs2,hm,hl⟩:=h
   .of rfl (.mk aZ.length (.list (ps.map rt)) rfl (by rw[hp];rfl) (by
    have k3:=GI k2 hc1 h0 b2;exact JL (P:=λρ aF=>dO (C W (n+2)) W (gY.drop 3) ρ (λö σ=>Q .none σ) (λö ö=>False) Q vA aF) (IF (n:=n) (rare:=.int i) hW (k3.cls hc1) (k1.trans k3) ht hf hn hw (b7 0x12bc31a0818303a0866b2190831092032803 hs hf' hs2) (d3 0x17d031b081a20382b0828303a08e6b2190871092032804 hs hf' hs2 hm) q) (AP (f0 h0)) (u0 k2 hc1 b2 _))))⟩))
open PySem
variable {W n:Nat} {σ:ah}
theorem D1 {α:Type} (l:List α) (p:Nat):l.drop (min p l.length)=l.drop p:=by
 by_cases h:p<=l.length
 ·rw[bS h]
 ·rw[c6 (by exact bH 0x1890819881 h),fJ,zg (by exact bH 0x1890819881 h)]
theorem vO {α:Type} (l:List α) (p:Nat):l.take (min p l.length)=l.take p:=by
 by_cases h:p<=l.length
 ·rw[bS h]
 ·rw[c6 (by exact bH 0x1890819881 h),eG,iQ (by exact bH 0x1890819881 h)]
theorem CM {l:List PV} (p:Nat) (hl:l.length<=dm):pb (.list l) (some (p:Int)) none=some (.list (l.drop p)):=by
 show(if l.length<=dm then some (PV.list (sliceL l (some (p:Int)) none))else none)=_;refine(if_pos hl).symm▸?_;have:sliceL l (some (p:Int)) none=l.drop p:=by
  show(l.take l.length).drop (fH l.length (p:Int))=_;rw[sx,eG,D1]
 exact this.symm▸rfl
theorem IK {l:List PV} (p q:Nat) (hp:p<=l.length) (hl:l.length<=dm):pb (.list l) (some (p:Int)) (some (q:Int))=some (.list ((l.take q).drop p)):=by
 show(if l.length<=dm then some (PV.list (sliceL l (some (p:Int)) (some (q:Int))))else none)=_;rw[if_pos hl];have:sliceL l (some (p:Int)) (some (q:Int))=(l.take q).drop p:=by
  show(l.take (fH l.length (q:Int))).drop (fH l.length (p:Int))=_;rw[sx,sx,vO,bS hp]
 rw[this]
theorem HJ (a b:Int):jF .ne (.int a) (.int b)=some (.bool !(decide (a=b))):=by
 rfl
noncomputable def BK (ts:List Tok) (a:Nat) (x:Tok) (r:Nat):List Tok:=
 ts.take a++(if r=0 then[]else if r=1 then[x,x]else((ts.take (a+2)).drop a).reverse)++ts.drop (a+if r=2 then 2 else 1)
theorem JW {ts:List Tok} {a r:Nat} {x:Tok} (hx:ts[a]?=some x) (hr:r<=2):((BK ts a x r).filter np).length<=(ts.filter np).length+1/\(BK ts a x r).length<=ts.length+1:=by
 have ha:=(ao.mp hx).1;have e1:ts=ts.take a++ts.drop a:=(dR a ts).symm;have e2:ts.drop a=x::ts.drop (a+1):=by
  refine(eX ha).symm▸?_;replace hx:=(b5 ha)▸hx
  (injection hx;subst_vars);rfl
 have e3:ts.drop a=(ts.drop a).take 2++ts.drop (a+2):=by
  exact vv▸(dR 2 _).symm
 have fa:∀a b:List Tok,((a++b).filter np).length=(a.filter np).length+(b.filter np).length:=λa b=>by rw[bp,af]
 have fc:∀(y:Tok) (b:List Tok),((y::b).filter np).length=(if np y then 1 else 0)+(b.filter np).length:=λy b=>by
  rw[je];split<;>simp<;>exact am (cy 0x18102108200) (cy 0x11082810200)
 have n1:(ts.filter np).length=((ts.take a).filter np).length+((ts.drop a).filter np).length:=by rw[<-fa,<-e1]
 have l1:ts.length=(ts.take a).length+(ts.drop a).length:=by rw[<-af,<-e1]
 have n2:((ts.drop a).filter np).length=(if np x then 1 else 0)+((ts.drop (a+1)).filter np).length:=by rw[e2,fc]
 have l2:(ts.drop a).length=(ts.drop (a+1)).length+1:=by rw[e2];rfl
 have hx1:(if np x then 1 else 0)<=1:=by split<;>decide
 obtain rfl|rfl|rfl:r=0\/r=1\/r=2:=by omega
 ·have e:BK ts a x 0=ts.take a++ts.drop (a+1):=by simp[BK]
  rw[e,fa,af];exact⟨jx 0x11082c9207fcb2a27fa92822 n1 n2,d3 0x11082b9207f10b2a27fa92822 l1 l2⟩
 ·have e:BK ts a x 1=ts.take a++(x::x::ts.drop (a+1)):=by simp[BK]
  rw[e,fa,fc,fc,af];simp only[aj];exact⟨jx 0x11082cb2b29208110b07fcb2a27fa92823 n1 n2 hx1,d3 0x110821010b229207f10b2a27fa92822 l1 l2⟩
 ·have e:BK ts a x 2=ts.take a++(((ts.drop a).take 2).reverse++ts.drop (a+2)):=by simp[BK,List.take_drop,m5]
  have n3:((ts.drop a).filter np).length=(((ts.drop a).take 2).filter np).length+((ts.drop (a+2)).filter np).length:=by rw[<-fa,<-e3]
  have l3:(ts.drop a).length=((ts.drop a).take 2).length+(ts.drop (a+2)).length:=by rw[<-af,<-e3]
  rw[e,fa,fa,af,af,List.filter_reverse,cz,cz];exact⟨jx 0x11082cb29207fcb2a27fa92822 n1 n3,jx 0x11082cb29207fcb2a27fa92822 l1 l3⟩
theorem Cn (h:(ts.filter np).Perm (fA t)):o7 (body t)=o7 ts:=by
 unfold o7;rw[j5,AY (h.map tS)]
theorem FW (l:List PV) (h:∀v∈l,FI v):jF .ne (.list l) (.list l)=some (.bool false):=by
 show(xw (.list l) (.list l)).map (λb=>PV.bool !b)=_;obtain⟨d,h1,h2⟩:=JK h h;exact h1.symm▸(h2.mpr rfl).symm▸rfl
variable {N B:aE->ah->Prop} {R Q:PV->ah->Prop} {X:ah->Prop} {σ₀:ah} {ts:List Tok}
theorem Ec (hW:60001<=W) (hc:kP σ) (k0:Kb σ₀ σ) (hl:ts.length<=900) (hm:(ts.filter np).length<=108) (hn:216<=n) {a w p:PV} (q:Ke σ₀ R):
  dO (C W (n+1)) W (nE.drop 3) [("box",.loc 0),("marks",.list (bV ts)),("at",a),("way",w),("part",p)] N B R vA σ:=
 have hl':ts.length<=10000:=ae hl (by decide)
 ⟨rfl,qN hl' λv hx=>v6 hW hc hx hl' (ae (by decide) hn) (λt aZ e1 k1=>by
  have d:=jX e1;have s1:=ae (rB e1).1 hm;have hbl:=d.len;rw[lb]at hbl;have hb':=ae hbl hl';have fin:=q ts _ (k0.trans (k1.kb k0.bx)) hl';refine uu t (n:=n+1) (bH 0x1108210920320826c2190818d82102 hn s1) hb' λv hx=>re hx hb' (.of (ni (by rw[cQ];exact ae hb' (by decide))) (wx t (n:=n+1) (bH 0x2108210920826c2190818d82102 hn s1) (ae hbl (ae hl (by decide)))
   (.of rfl (.of (HJ _ _) (.of rfl (.f ?_ (.of (ni (by rw[cQ];exact ae hb' (by decide))) (.of (ni (by rw[cQ];exact ae hl' (by decide))) (.of rfl (.of rfl (.f ?_ (vH (n:=n) hb' (by rw[j5,<-d.perm.length_eq];exact ae hm (by decide))
    (vH (n:=n) hl' (ae hm (by decide)) ?_)))))))))))))
  ·rw[cQ,lw,lb];simp[iH]
  ·rw[cQ,cQ];exact congrArg some (decide_eq_false (bH 0x18696c819801 hbl))
  ·rw[Cn d.perm];exact .of (FW _ (vI ts)) (.f rfl fin)) λaZ ö k1=>q ts _ (k0.trans (k1.kb k0.bx)) hl'⟩
open PySem
variable {W n:Nat} {σ:ah}
theorem wm {ts:List Tok} {i:Nat} {x:Tok} (h:ts[i]?=some x):(bV ts)[i]?=some (.str (tS x)):=by
 unfold bV;exact(df).symm▸h.symm▸rfl
variable {Q:PV->ah->Prop} {X:ah->Prop} {ts:List Tok} {a r:Nat} {x:Tok}
theorem pi (h:ts.length<=890):(bV ts).length<=dm:=by rw[cQ];exact ae h (by decide)
theorem CK (h:ts.length<=890) (ha:a<=ts.length):pb (.list (bV ts)) none (some (a:Int))=some (.list (bV (ts.take a))):=by
 rw[zz (pi h) (by rw[cQ];exact ha)];unfold bV;rw[xo]
theorem vW (p:Nat) (h:ts.length<=890):pb (.list (bV ts)) (some (p:Int)) none=some (.list (bV (ts.drop p))):=by
 rw[CM p (pi h)];unfold bV;rw[xq]
theorem J' {u v:List Tok} (h:u.length+v.length<=30000):jO .add (.list (bV u)) (.list (bV v))=some (.list (bV (u++v))):=by
 rw[oR (by rw[cQ,cQ];exact gA h)];unfold bV;rw[ca]
noncomputable def Hz (ts:List Tok) (a:Nat) (x:Tok) (r:Nat):List Tok:=if r=0 then[]else if r=1 then[x,x]else((ts.take (a+2)).drop a).reverse
theorem FB:(Hz ts a x r).length<=2:=by
 unfold Hz;split
 ·decide
 ·split
  ·exact au _
  ·rw[cz,cV,dW];exact(aN (min (a+2) ts.length) (a)).elim (λw0=>cy 0x120808100821 (br w0)) (λw0=>b7 0x12080812092a081a98222 (ac w0) (f8 _ _))
theorem F5:(((bV ts).take (a+2)).drop a).length<=2:=by rw[cV,dW];exact(aN (min (a+2) (bV ts).length) (a)).elim (λw0=>cy 0x120808100821 (br w0)) (λw0=>b7 0x12080812092a081a98222 (ac w0) (f8 _ _))
theorem I4 (hr:(r:Int)<3):nR σ (.list [.list [],.list [.str (tS x),.str (tS x)],.list (((bV ts).take (a+2)).drop a).reverse]) (.int r)=some (.list (bV (Hz ts a x r))):=match r,hr with
 |0,_=>rfl
 |1,_=>rfl
 |2,_=>by
  refine congrArg (λl=>some (PV.list l)) ?_;show(((ts.map λt=>PV.str (tS t)).take (a+2)).drop a).reverse=(((ts.take (a+2)).drop a).reverse).map λt=>.str (tS t);rw[Hq,xq,xo]
 |r+3,h=>aw (cy 0x781303082641 h)
theorem yH (hW:60001<=W) (hb:Bx σ) (hc:kP σ) (h0:ts≠[]) (hl:ts.length<=890) (hm:(ts.filter np).length<=107) (hn:216<=n) (q:Ke σ Q):WP (C W (n+2) "_law_changed" [.loc 0,.list (bV ts)] σ) Q vA:=
 have hml:=pi hl
 b6 rfl rfl (.of (ni hml) (dP hb (by rw[cQ];exact bF.mpr (o0.mpr h0)) (by rw[cQ];exact bF.mpr (bf hl (by decide:890<1000000))) λa aZ ha k1=>dP k1.bx (by decide) (by decide) λr bK hr k2=>by
  have ha:a<ts.length:=by rw[cQ]at ha;exact bF.mp ha
  have hx:ts[a]?=some ts[a]:=b5 ha;have ha6:a<1000000:=gM ha (bf hl (by decide));obtain⟨c1,c2⟩:=JW (r:=r) hx (gr (bF.mp hr));have l3:=FB (ts:=ts) (a:=a) (x:=ts[a]) (r:=r);have two:=λ{p:PV}=>Ec (n:=n) (ts:=BK ts a ts[a] r) (a:=.int a) (w:=.int r) (p:=p) (N:=λö σ=>Q .none σ) (B:=λö ö=>False) hW ((k1.trans k2).cls hc) (k1.trans k2) (ae c2 (ae (aK hl) (by decide))) (ae c1 (aK hm)) hn q;refine .of rfl (.of (ye (wm hx) ha6) (.of (ye (wm hx) ha6) (.of rfl (.of rfl (.of (IK a (a+2) (by rw[cQ];exact cu ha) hml) ⟨_,rfl,ae F5 (by decide),.of rfl (.of (I4 hr) (.of (CK hl (cu ha)) (.of (J' (by rw[dW];exact b7 0x17530419a20818a08120908137a31803 hl l3 (gL _ _))) ?_)))⟩)))));have l4:(ts.take a++Hz ts a ts[a] r).length<=1000:=by rw[af,dW];exact b7 0x13e8319a20818a08120908137a31803 hl l3 (gL _ _)
  refine .of (eK _ _) (.dec' (λz=>.of rfl (.of (vW (a+2) hl) (.of (J' (by rw[cV];exact b7 0x1753041a920818a0813e831908137a31803 hl l4 (de _ _))) ?_))) λz=>.of rfl (.of (vW (a+1) hl) (.of (J' (by rw[cV];exact d3 0x1753041a92081810b2a22813e831908137a31803 hl l4 (ac (n:=ts.length) (m:=a+1) (bH 0x1910820819811 ha)))) ?_)))
  ·have z:r=2:=M2.mp z;have e:BK ts a ts[a] r=ts.take a++Hz ts a ts[a] r++ts.drop (a+2):=by unfold BK Hz;rw[if_pos z]
   refine e▸?_;exact two
  ·have z:r≠2:=λe=>z (congrArg Int.ofNat e);have e:BK ts a ts[a] r=ts.take a++Hz ts a ts[a] r++ts.drop (a+1):=by unfold BK Hz;rw[if_neg z]
   refine e▸?_;exact two))
inductive BxI (l:List PV) (σ:ah):Prop
 |mk (is:List Int):σ=[]->l=is.map .int->BxI l σ
noncomputable def bxL:Fo (Int×Int):=⟨λa=>[("left",.int a.1),("seed",.int a.2)],λö=>BxI⟩
theorem K6 {script:List Int} (hs:script.length<=63):pb (.arg (script.map .int)) none (some 63)=some (.list (script.map .int)):=by
 show(if(script.map PV.int).length<=dm then some (PV.list (sliceL (script.map PV.int) none (some 63)))else none)=_;rw[if_pos (by rw[ar];exact ae hs (by decide))];have:sliceL (script.map PV.int) none (some 63)=script.map PV.int:=by
  show((script.map PV.int).take (fH (script.map PV.int).length ((63:Nat):Int))).drop 0=_;rw[sx,vO,kn,iQ (by rw[ar];exact hs)]
 exact this.symm▸rfl
theorem GW (l s:Int):kP [oI l s]:=λc hc i ö q=>by
 refine(aC.mp hc).symm▸?_;simp only[oI,cS.subst,dh,di,cn,bU,cj,cq,cm,cr]
theorem JY (script:List Int) (hs:script.length<=63) (q:∀aF,Bx aF->kP aF->Q (.loc 0) aF):WP (C W (n+1) "_law_box" [.arg (script.map .int)] []) Q X:=
 b6 rfl rfl (.of (K6 hs) (.of rfl (.mk bxL ⟨(0,101),⟨rfl,rfl,trivial⟩,script,rfl,rfl⟩
  (λa v l σ pz N B hN ö=>by
   refine Mine.Internal.cps λζ κ=>?_;obtain⟨is,e,e2⟩:=pz;obtain⟨i,is,_,e3,e4⟩:=jw.mp e2.symm;refine κ ?_;refine e3▸?_;refine .of rfl (.of (F2 (by decide)) (.of (F2 (by decide)) (.of rfl (.of rfl (.of rfl (.of (eK _ _) (.of rfl (.dec' (λz=>.of rfl (.of rfl (.of rfl (.dec' (λz'=>?_) λz'=>?_)))) λz=>.f (congrArg some (decide_eq_false z)) ?_))))))))
   ·exact .of rfl (.of (a:=.int (10^120)) (by kernel_rfl) (.of (if_pos (by decide+kernel)) (hN _ _ ⟨(_,_),⟨rfl,rfl,trivial⟩,is,e,e4.symm⟩)))
   ·exact hN _ _ ⟨(a.1,(a.2*30011+i*9176+7)%2147483629),⟨rfl,rfl,trivial⟩,is,e,e4.symm⟩
   ·exact hN _ _ ⟨(a.1,(a.2*30011+i*9176+7)%2147483629),⟨rfl,rfl,trivial⟩,is,e,e4.symm⟩)
  λa σ pz=>by
   obtain⟨is,e,_⟩:=pz;subst e;exact⟨by show 2<=1000000;decide,q _ ⟨a.1,a.2,rfl⟩ (GW _ _)⟩)))
open PySem
variable {W n:Nat} {σ:ah}
theorem Jr (l:List PV) (h:l.length<=dm):sE σ "len" [.arg l]=some (.int l.length):=by
 exact if_pos h
theorem Iy {cf:String->List PV->MM PV} {X:ah->Prop} {ρ:aE} {c a b:ME} {Q:PV->ah->Prop} (h:iC cf X ρ c (λx σ=>lW x (iC cf X ρ a Q σ) (iC cf X ρ b Q σ)) σ):iC cf X ρ (.ite c a b) Q σ:=h
variable {N B:aE->ah->Prop} {R Q:PV->ah->Prop} {X:ah->Prop} {t:T} {ρ:aE} {sm:Bool} {sp bg:Int} {F:List (Nat×Nat)}
inductive MA (l:List PV) (m:Nat) (σ:ah):Prop
 |mk (ks:List Nat):Bx σ->kP σ->l=ks.map (λk=>.int (Int.ofNat k))->(ks≠[]->0<m)->MA l m σ
noncomputable def Jt (t:T) (sp:Int):aE:=[("box",.loc 0),("tree",pv t),("flat",.list (dU t)),("marks",.list (bV (body t))),("spent",.int sp)]
noncomputable def l9L (t:T):Fo Int:=⟨Jt t,λö l=>MA l 1⟩
theorem oH (hf:fl t<=107):(body t).length<=700:=ae (va t) (cy 0x12bc3110860320866b21801 hf)
theorem GY (hz:1<=fl t):body t≠[]:=λq=>by
 have:=j5 t;replace this:=(q)▸this;unfold fl at hz;replace hz:=(this).symm▸hz;simp at hz
theorem sC (hf:fl t<=107):((body t).filter np).length<=107:=by rw[j5];exact hf
theorem Gm (hW:60001<=W) (hb:Bx σ) (hc:kP σ) (ht:bT t) (hf:fl t<=107) (hz:1<=fl t) {k:Int} (hN:∀sp' ρ aF,Sub (Jt t sp') ρ->Bx aF->kP aF->N ρ aF) (hB:∀ρ aF,B ρ aF):
  dO (C W 218) W (xv (qf oJ 8)) (Jt t sp++[("turn",.int k)]) N B R vA σ:=
 .of rfl (.dec' (λö=>hB _ _) λö=>.of rfl (.of (eK _ _) (.dec'
  (λö=>Cv (n:=215) hW hb hc ht hf (by decide) λus aZ k1 hl=>.of rfl (.f rfl (mV (n:=217) hl λw=>.of rfl (hN (sp+w) _ _ ⟨rfl,rfl,rfl,rfl,rfl,trivial⟩ k1.bx (k1.cls hc)))))
  λö=>yH (n:=216) hW hb hc (GY hz) (ae (oH hf) (by decide)) (sC hf) (by decide) λus aZ k1 hl=>.of rfl (.f rfl (mV (n:=217) hl λw=>.of rfl (hN (sp+w) _ _ ⟨rfl,rfl,rfl,rfl,rfl,trivial⟩ k1.bx (k1.cls hc)))))))
theorem z3 (hW:60001<=W) (hb:Bx σ) (hc:kP σ) (ht:bT t) (hf:fl t<=107) (hz:1<=fl t) (hρ:Sub (Jt t sp) ρ) (q:∀σ,R (.bool true) σ) {m:Int} {K J:(α:Type)->Fo α->Prop}
  (hK:(∀a v l σ,MA (v::l) 1 σ->∀N' B':aE->ah->Prop,(∀ρ σ,xi (l9L t) ρ l σ->N' ρ σ)->(∀ρ σ,dO (C W 218) W (oJ.drop 9) ρ N B R vA σ->B' ρ σ)->fb (i4 ["turn"] v) λbs=>tY (Jt t a) bs λρ=>dO (C W 218) W (xv (qf oJ 8)) ρ N' B' R vA σ)->K _ (l9L t))
  (hJ:(∀a σ,MA [] 1 σ->dO (C W 218) W (oJ.drop 9) (Jt t a) N B R vA σ)->J _ (l9L t)):MD ρ (fE m) σ K J:=
 .mk (l9L t) ⟨sp,hρ,_,hb,hc,rfl,λö=>tE⟩
  (hK λa v l σ ⟨ks,b,c,e,_⟩ N B hN hB=>have⟨k,ks',_,e2,e3⟩:=jw.mp e.symm
   .of rfl (e2▸Gm hW b c ht hf hz (λsp' ρ aF hs b c=>hN _ _ ⟨sp',hs,ks',b,c,e3.symm,λö=>tE⟩) λρ aF=>hB _ _ (q aF)))
  (hJ λa σ ö=>q σ)
theorem LU (hW:60001<=W) (hb:Bx σ) (hc:kP σ) (ht:bT t) (hf:fl t<=107) (hz:1<=fl t) (r2:ρ.lookup "is_small"=some (.bool sm)) (hρ:Sub (Jt t sp) ρ) (q:∀σ,R (.bool true) σ):dO (C W 218) W (oJ.drop 8) ρ N B R vA σ:=by
 refine Iy (cf:=C W 218) (X:=vA) (ρ:=ρ) (c:=.var "is_small") (a:=.cint 2) (b:=.cint 5) (lg (C W 218) vA r2 ?_);cases sm with
 |true=>exact .t rfl (.of (fP (by decide)) (z3 (m:=2) hW hb hc ht hf hz hρ q id id))
 |false=>exact .f rfl (.of (fP (by decide)) (z3 (m:=5) hW hb hc ht hf hz hρ q id id))
noncomputable def HW (ts:List Tok) (p:Nat×Nat):List Tok:=(ts.zipIdx.filter λq=>!(decide (q.2=p.1\/q.2=p.2))).map (·.1)
noncomputable def JQ (p:Nat×Nat):PV->Bool
 |.tup [.int i,_]=>!(decide (i.toNat=p.1\/i.toNat=p.2))
 |_=>false
noncomputable def Mc:PV->PV
 |.tup [_,x]=>x
 |v=>v
theorem JP (ts:List Tok) (p:Nat×Nat):((nD ts 0).filter (JQ p)).map Mc=bV (HW ts p):=by
 unfold nD HW bV;rw[jK,eB,eB];have e:(JQ p∘λq:Tok×Nat=>PV.tup [.int (q.2:Int),.str (tS q.1)])=λq=>!(decide (q.2=p.1\/q.2=p.2)):=rfl;rw[e];rfl
theorem Ao (ts:List Tok) (p:Nat×Nat):(HW ts p).Sublist ts:=by
 unfold HW;have:=(List.filter_sublist (p:=λq:Tok×Nat=>!(decide (q.2=p.1\/q.2=p.2))) (l:=ts.zipIdx)).map (·.1)
 rwa [List.zipIdx_map_fst]at this
theorem JO (h:p.1<ts.length):(HW ts p).length<ts.length:=by
 unfold HW;rw[ar];have e:ts.length=ts.zipIdx.length:=by simp
 rw[e];refine List.length_filter_lt_length_iff_exists.mpr ⟨(ts[p.1],p.1),?_,by simp⟩;rw[List.mk_mem_zipIdx_iff_getElem?];exact b5 h
theorem Jf (i:Nat) (p:Nat×Nat):jF .notin (.int i) (jh p)=some (.bool !(decide (i=p.1\/i=p.2))):=by
 show(uP (.int i) (.tup [.int p.1,.int p.2])).map (λb=>PV.bool !b)=_;have:uP (.int i) (.tup [.int p.1,.int p.2])=some (decide ((i:Int)∈[(p.1:Int),(p.2:Int)])):=rfl;rw[this];simp only[dF];have e1:∀a b:Nat,decide ((a:Int)=b)=decide (a=b):=λa b=>by
  by_cases h:a=b
  ·subst h;simp
  ·rw[decide_eq_false h,decide_eq_false (by omega)]
 congr 3
 simp[e1]
noncomputable def l8E (t:T) (sm:Bool) (F:List (Nat×Nat)) (bg sp:Int):aE:=[("box",.loc 0),("is_small",.bool sm),("tree",pv t),("flat",.list (dU t)),("marks",.list (bV (body t))),("pairs",.list (F.map jh)),("spent",.int sp),("begin",.int bg)]
noncomputable def l8L (t:T) (sm:Bool) (F:List (Nat×Nat)) (bg:Int):Fo Int:=⟨l8E t sm F bg,λö l=>MA l F.length⟩
theorem D4 (hf:fl t<=107) (hp:p.1<p.2/\p.2<(body t).length):ik (HW (body t) p)≠some t:=λq=>by
 have h1:=(jX q).len;rw[lb]at h1;exact pL _ (bf h1 (JO (gM hp.1 hp.2)))
theorem DZ:(nD (body t) 0).length=(body t).length:=by simp[nD]
theorem Gn (hW:60001<=W) (hb:Bx σ) (hc:kP σ) (hf:fl t<=107) (hF:∀p∈F,p.1<p.2/\p.2<(body t).length) (hl:F.length<=700) (h0:0<F.length) {k:Int}
  (hN:∀sp' ρ aF,Sub (l8E t sm F bg sp') ρ->Bx aF->kP aF->N ρ aF) (hB:∀x,B (l8E t sm F bg sp++[("k",.int k),("gone",x)]) σ):
  dO (C W 218) W (xv (qf oJ 7)) (l8E t sm F bg sp++[("k",.int k)]) N B R vA σ:=by
 have hpl:(F.map jh).length=F.length:=ar ..;obtain⟨i,hi,hiF⟩:=sj (a:=bg+k) (bF.mpr h0);have hiF:i<F.length:=bF.mp hiF;have hg:(F.map jh)[i]?=some (jh F[i]):=by rw[df,b5 hiF];rfl
 have hbl:=oH hf;have hs:=(Ao (body t) F[i]).length_le;have hs2:=ae ((Ao (body t) F[i]).filter np).length_le (sC hf);refine .of rfl (.of (ni (by rw[hpl];exact iW (ae hl (by decide)))) (.of (a:=.int i) ?_ (.of (ye hg (gM (aO hiF hl) (by decide))) (.of rfl (.dec' (λö=>hB _) λö=>?_)))))
 ·rw[hpl];show(if 0<(F.length:Int)then some (PV.int ((bg+k)%(F.length:Int)))else none)=_;rw[if_pos (show(0:Int)<F.length from bF.mpr h0),hi]
 refine⟨rfl,.of (congrArg some (sf _)) (ie (JQ F[i]) Mc (λv hv=>?_) ?_)⟩
 ·obtain⟨⟨t',j⟩,hj,rfl⟩:=bv.mp hv;exact⟨_,rfl,λQ hQ=>.of (Jf j F[i]) hQ,λö Q hQ=>hQ⟩
 rw[JP];exact⟨by rw[DZ];exact iW (ae hbl (by decide)),.of (if_pos (by rw[cQ];exact iW (ae hs (ae hbl (by decide))))) (qN (ts:=HW (body t) F[i]) (ae hs (ae hbl (by decide))) λv hx=>
  uD (n:=216) hW hc hx (ae hs (ae hbl (by decide))) (by decide) (ae (aK hs2) (by decide)) λaZ k1=>.of (eqR _ (some t)) (.f (congrArg some (decide_eq_false (D4 hf (hF F[i] (l7 hiF)))))
   (mV (n:=217) (ae hbl (by decide)) λw=>.of rfl (hN (sp+w) _ _ ⟨rfl,rfl,rfl,rfl,rfl,rfl,rfl,rfl,trivial⟩ (k1.kb hb).bx (k1.cls hc)))))⟩
theorem law8 (hW:60001<=W) (hb:Bx σ) (hc:kP σ) (ht:bT t) (hf:fl t<=107) (hz:1<=fl t) (hF:∀p∈F,p.1<p.2/\p.2<(body t).length) (hl:F.length<=700) (q:∀σ,R (.bool true) σ) {s l:PV}:
  dO (C W 218) W (oJ.drop 7) [("script",s),("box",.loc 0),("is_small",.bool sm),("tree",pv t),("line",l),("flat",.list (dU t)),("marks",.list (bV (body t))),("pairs",.list (F.map jh)),("spent",.int sp),("begin",.int bg)] N B R vA σ:=by
 have hpl:(F.map jh).length=F.length:=ar ..;have hlim:F.length<=dm:=iW (ae hl (by decide));refine .of (ni (by rw[hpl];exact hlim)) ?_;refine hpl.symm▸?_;exact .of (fP hlim) (.mk (l8L t sm F bg) ⟨sp,⟨rfl,rfl,rfl,rfl,rfl,rfl,rfl,rfl,trivial⟩,iy F.length,hb,hc,rfl,λz=>ER λe=>z (by rw[e];rfl)⟩
  (λa v l σ ⟨ks,b,c,e,h0⟩ N B hN hB=>have⟨k,ks',e1,e2,e3⟩:=jw.mp e.symm
   have h0:=h0 (by rw[e1];exact List.cons_ne_nil _ _)
   .of rfl (e2▸Gn hW b c hf hF hl h0 (λsp' ρ aF hs b c=>hN _ _ ⟨sp',hs,ks',b,c,e3.symm,λö=>h0⟩) λx=>hB _ _ (LU (sp:=a) (sm:=sm) hW b c ht hf hz rfl ⟨rfl,rfl,rfl,rfl,rfl,trivial⟩ q)))
  λa σ ⟨_,b,c,_,_⟩=>LU (sp:=a) (sm:=sm) hW b c ht hf hz rfl ⟨rfl,rfl,rfl,rfl,rfl,trivial⟩ q)
theorem LV (hW:60001<=W) (hb:Bx σ) (hc:kP σ) (ht:bT t) (hf:fl t<=107) (hz:1<=fl t) (q:∀σ,R (.bool true) σ) {s l:PV}:
  dO (C W 218) W (oJ.drop 5) [("script",s),("box",.loc 0),("is_small",.bool sm),("tree",pv t),("line",l),("flat",.list (dU t)),("marks",.list (bV (body t)))] N B R vA σ:=
 have hbl:=oH hf
 C3 (n:=217) hc (vb ht).bal (ae hbl (by decide)) λF H5 k9 hF hFl=>mV (n:=217) (ae hbl (by decide)) λw=>
  have hFl:=ae hFl hbl;have b9:=(k9.kb hb).bx
  .of (ni (by rw[ar];exact iW (ae hFl (by decide)))) (.of rJ (dP b9 (Int.lt_of_lt_of_le (by decide) (aB _ _)) (by rw[ar];exact(Int.le_total (1) (↑F.length)).elim (λw0=>n9 0x1f42405184818685812bc31802 hFl (jl w0)) (λw0=>gR 0x1f424051848110851 (KE w0))) λr τ ö kt=>
   law8 hW kt.bx (kt.cls (k9.cls hc)) ht hf hz hF hFl q))
theorem Js (hW:60001<=W) (script:List Int) (hs:script.length<=63) (q:∀σ,Q (.bool true) σ):WP (C W 219 "law" [.arg (script.map .int)] []) Q vA:=
 b6 rfl rfl (JY (n:=217) script hs λaZ b1 c1=>.of (Jr _ (by rw[ar];exact iW (ae hs (by decide)))) (.of rfl (DE (n:=214) b1 (by decide) λt bK k2 wt ft zt=>by
  have hbl:=oH ft;have h1:=ae hbl (by decide:700<=10000);have hh:jN t<=107:=ae (iX t) ft;obtain⟨h,hd,hr⟩:=(vb wt).read;refine uu t (n:=218) (cy 0x1da2110820320826b21801 hh) h1 λv hx=>Ae t (n:=218) (cy 0x1da2110820816b21801 hh) (by have:=jT t;have:(fA t).length<=107:=ft;exact bH 0x127104180826b2190811092032802 ‹_› this) (re (n:=217) hx h1 (.of (ni (by rw[cQ];exact iW (ae hbl (by decide)))) (wx t (n:=218) (cy 0x1da2110820816b21801 hh) (ae hbl (by decide))
   (.of rfl (.of (HJ _ _) (.of rfl (.f (by rw[cQ,lw,lb];simp[iH]) (uD (n:=216) hW (k2.cls c1) hx (ae hbl (by decide)) (by decide) (ae (aK (sC ft)) (by decide)) λML k7=>nU (n:=217) hd h1 λH6 k8=>.of rfl (.dec' (λz=>.of (neR _ (some t)) (.f ?_ ?_)) λz=>.of (neR _ none) (.f ?_ ?_))))))))))
  ·rw[hr,if_pos z];simp[iH]
  ·exact LV hW ((k7.trans k8).kb k2.bx).bx ((k7.trans k8).cls (k2.cls c1)) wt ft zt q
  ·rw[hr,if_neg z];simp[iH]
  ·exact LV hW ((k7.trans k8).kb k2.bx).bx ((k7.trans k8).cls (k2.cls c1)) wt ft zt q)))
theorem law_true (script:List Int) (hs:script.length<=63):∃σ,kN prog 60001 219 "law" [.arg (script.map .int)] []=.ok (.bool true) σ:=
 match Js (Q:=λv ö=>v=.bool true) (au 60001) script hs λö=>rfl with
 |.ok (a:=a) (σ:=σ) h e=>⟨σ,e▸h⟩
 |.exc _ h=>h.elim
end Mine.Internal
set_option maxHeartbeats 4000000 in
theorem PySem.Challenge.cw_up0076_01_holds : PySem.Challenge.rw_up0076_01.Holds :=
  Mine.Internal.of_mini (W := 60001) Mine.Internal.law_true
