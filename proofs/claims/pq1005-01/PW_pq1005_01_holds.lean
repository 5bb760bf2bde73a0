import PyProof.Rows.All
import Wide.All
import OpenK.AllK
import Wide.FinOn
import KE.KNestM
import Lean
import PySem.Challenge.RW_pq1005_01
open PySem PySem.W PyProof.Rows PySem.Calls
open List (not_mem_nil mem_append_left mem_append_right length_append length_map size_toArray mem_of_mem_take append_assoc perm_append_comm Perm Sublist sublist_append_right append_nil map_cons nodup_cons map_append nodup_append mem_map_of_mem mem_cons_self mem_of_getElem? zip_cons_cons lookup_cons of_mem_zip mem_cons_of_mem getElem?_eq_getElem zipIdx_cons getElem?_of_mem map_map getElem?_map zipWith getElem?_set_self getElem?_set_ne zipWith_cons_cons length_set nodup_nil perm_middle length_cons perm_append_comm_assoc getElem_mem getElem?_eq_none getElem?_range length_range find?_cons any_cons mem_cons reverse_cons replicate filter filter_cons find?_some take_nil drop_nil drop_zero take_of_length_le length_drop length_take toArray map_congr_left getD_eq_getElem?_getD ext_getElem? zip_append take_length take_add_one foldl_append mem_or_eq_of_mem_set reverse_perm length_reverse length_replicate find? find?_append range_succ map_take length_zip map_set getElem?_set)
open Bool (false_eq_true not_eq_true')
open Array (getElem?_toList length_toList any_toList toList_append toList_map)
open Int (add_assoc zero_add add_zero mul_add add_comm le_of_lt natCast_mul mul_comm natCast_nonneg mul_nonneg fmod toNat_natCast fdiv_eq_ediv_of_nonneg mul_le_mul le_refl fmod_eq_emod_of_nonneg emod_eq_of_lt)
open Nat (blt beq lt_irrefl ne_of_lt ble le_trans le_of_eq sub_zero zero_le)
open Heap (ExtBut SameBut get?_push_of_some lt_size get?_push_size get?_update_self size_push get?_push_ne)
set_option Elab.async false
set_option maxRecDepth 100000
set_option genSizeOf false
set_option genInjectivity false
set_option linter.all false
set_option bootstrap.genMatcherCode false
set_option tactic.hygienic false
local macro_rules | `(tactic| mg_lt) => `(tactic| (rw [typeLookup_type, builtinLookup_eq_fast]; kernel_rfl))
local macro_rules | `(tactic| x_go) => `(tactic| kernel_rfl)
local macro_rules | `(tactic| z_go) => `(tactic| decide +kernel)
set_option hygiene false
local macro_rules | `(tactic| lk) => `(tactic| (refine Mine.Internal.Q7 ?_; intro zg))
set_option hygiene true
namespace Mine.Internal
noncomputable section
noncomputable abbrev SP:=Shared->Prop
noncomputable abbrev By:=List UInt8
noncomputable abbrev VS:=Value->SP
noncomputable abbrev LB:=List By
noncomputable abbrev LV:=List Value
theorem tB{a b:Bool}(h:(a&&b)=true):a=true/\b=true:=Bool.and_eq_true_iff.mp h
theorem gS{α:Type _}{l:List α}{i:Nat}{a:α}(h:l[i]?=some a):∃h:i<l.length,l[i]=a:=List.getElem?_eq_some_iff.mp h
theorem gE{α:Type _}{l:List α}{i:Nat}(h:i<l.length):l[i]?=some l[i]:=List.getElem?_eq_getElem h
theorem wP{α:Type}{M:Model}{A:Around}{E:VS}{s:Shared}{a:α}{Q:α->SP}(h:Q a s):wpAny M A (pure a) Q E s:=PySem.wpAny_pure h
set_option genCtorIdx false
namespace A
mutual
inductive N
 |v(i:Nat)|k (n:Nat)|a (x y:N)|m (n:Nat) (x:N)|w (x:N) (n:Nat)|s (x y:N)|t (z:Z)|b (z:Z)
inductive Z
 |v(i:Nat)|k (n:Int)|a (x y:Z)|m (n:Int) (x:Z)|w (x:Z) (n:Int)|s (x y:Z)|n (x:Z)|c (x:N)
end
inductive F
 |ln(x y:N)|tn (x y:N)|en (x y:N)|lz (x y:Z)|tz (x y:Z)|ez (x y:Z)|no (f:F)|an (f g:F)|oo (f g:F)|ff
noncomputable def F.aJ (i j:Nat):F:=.tn (.v i) (.k j)
noncomputable def F.aS (i j:Nat):F:=.ln (.v i) (.k j)
noncomputable def F.aA (i j:Nat):F:=.en (.v i) (.v j)
noncomputable def F.bg (i j:Nat):F:=.tn (.v i) (.v j)
noncomputable def F.bY (i j:Nat):F:=.ln (.v i) (.v j)
noncomputable def F.d7 (i j:Nat):F:=.en (.v i) (.k j)
noncomputable def F.gj (i j:Nat):F:=.ln (.k i) (.v j)
noncomputable def F.lh (i j:Nat):F:=.tn (.k i) (.v j)
noncomputable def F.ak (i:Int) (j:Nat):F:=.lz (.k i) (.v j)
noncomputable def F.aL (i:Nat) (j:Int):F:=.lz (.v i) (.k j)
noncomputable def F.bh (i:Nat) (j:Int):F:=.tz (.v i) (.k j)
noncomputable def F.dP (i j:Nat):F:=.ez (.c (.v i)) (.v j)
noncomputable def F.cj (i j:Nat):F:=.tz (.v i) (.v j)
noncomputable def F.be (i:Nat) (j:Int):F:=.ez (.v i) (.k j)
noncomputable def F.c_ (i:Int) (j:Nat):F:=.tz (.k i) (.v j)
noncomputable def F.pI (i:Int) (j:Nat):F:=.lz (.k i) (.c (.v j))
noncomputable def F.fp (i:Nat) (j:Int):F:=.tz (.c (.v i)) (.k j)
noncomputable def F.eJ (i j:Nat):F:=.tz (.v i) (.c (.v j))
noncomputable def F.fg (i j:Nat):F:=.ez (.v i) (.c (.v j))
noncomputable def F.bS (i j:Nat):F:=.lz (.v i) (.v j)
noncomputable def F.iC (i j:Nat):F:=.tz (.c (.v i)) (.v j)
noncomputable def F.dF (i j:Nat):F:=.lz (.v i) (.c (.v j))
noncomputable def F.bM (i j:Nat):F:=.ez (.v i) (.v j)
noncomputable def F.lj (i j:Nat):F:=.ez (.c (.v i)) (.c (.v j))
noncomputable def F.i9 (i j:Nat):F:=.tz (.c (.v i)) (.c (.v j))
noncomputable def F.pJ (i:Nat) (j:Int):F:=.lz (.c (.v i)) (.k j)
noncomputable def F.f6 (i j:Nat):F:=.lz (.c (.v i)) (.v j)
noncomputable def N.aj (i j:Nat):N:=.a (.v i) (.k j)
noncomputable def N.cA (i j:Nat):N:=.a (.v i) (.v j)
noncomputable def N.dK (i j:Nat):N:=.s (.v i) (.k j)
noncomputable def N.eU (i j:Nat):N:=.a (.k i) (.v j)
noncomputable def N.ee (i j:Nat):N:=.s (.v i) (.v j)
noncomputable def Z.aj (i:Nat) (j:Int):Z:=.a (.v i) (.k j)
noncomputable def Z.cA (i j:Nat):Z:=.a (.v i) (.v j)
noncomputable def Z.dK (i:Nat) (j:Int):Z:=.s (.v i) (.k j)
noncomputable def Z.eU (i:Int) (j:Nat):Z:=.a (.k i) (.v j)
noncomputable def Z.ee (i j:Nat):Z:=.s (.v i) (.v j)
noncomputable def Z.mv (i:Nat) (j:Int):Z:=.s (.c (.v i)) (.k j)
noncomputable def N.v0:N:=.v 0
noncomputable def Z.v0:Z:=.v 0
noncomputable def N.v1:N:=.v 1
noncomputable def Z.v1:Z:=.v 1
noncomputable def N.v2:N:=.v 2
noncomputable def Z.v2:Z:=.v 2
noncomputable def N.v3:N:=.v 3
noncomputable def Z.v3:Z:=.v 3
noncomputable def N.v4:N:=.v 4
noncomputable def Z.v4:Z:=.v 4
noncomputable def N.v5:N:=.v 5
noncomputable def Z.v5:Z:=.v 5
noncomputable def Z.c2:Z:=.c (.v 2)
noncomputable def Z.c3:Z:=.c (.v 3)
noncomputable def Z.v6:Z:=.v 6
noncomputable def Z.c0:Z:=.c (.v 0)
noncomputable def Z.c1:Z:=.c (.v 1)
noncomputable def ll {α:Type} (d:α):List α->Nat->α
 |[],_=>d
 |x::_,0=>x
 |_::l,i+1=>ll d l i
mutual
noncomputable def N.d (n:List Nat) (z:List Int):N->Nat
 |.v i=>ll 0 n i
 |.k c=>c
 |.a x y=>x.d n z+y.d n z
 |.m k x=>k*x.d n z
 |.w x k=>x.d n z*k
 |.s x y=>x.d n z-y.d n z
 |.t x=>(x.d n z).toNat
 |.b x=>(x.d n z).natAbs
noncomputable def Z.d (n:List Nat) (z:List Int):Z->Int
 |.v i=>ll 0 z i
 |.k c=>c
 |.a x y=>x.d n z+y.d n z
 |.m k x=>k*x.d n z
 |.w x k=>x.d n z*k
 |.s x y=>x.d n z-y.d n z
 |.n x=>-x.d n z
 |.c x=>(x.d n z:Nat)
end
noncomputable def F.d (n:List Nat) (z:List Int):F->Prop
 |.ln x y=>x.d n z<=y.d n z
 |.tn x y=>x.d n z<y.d n z
 |.en x y=>x.d n z=y.d n z
 |.lz x y=>x.d n z<=y.d n z
 |.tz x y=>x.d n z<y.d n z
 |.ez x y=>x.d n z=y.d n z
 |.no f=>¬f.d n z
 |.an f g=>f.d n z/\g.d n z
 |.oo f g=>f.d n z\/g.d n z
 |.ff=>False
noncomputable abbrev L:=Int×List Int
noncomputable def f7:List Int->List Int->Int
 |x::l,e::v=>x*e+f7 l v
 |_,_=>0
noncomputable def L.d (v:List Int) (l:L):Int:=l.1+f7 l.2 v
noncomputable def pK:List Int->List Int->List Int
 |[],m=>m
 |l,[]=>l
 |x::l,y::m=>(x+y)::pK l m
noncomputable def rE (k:Int):List Int->List Int
 |[]=>[]
 |x::l=>(k*x)::rE k l
noncomputable def ad (l m:L):L:=(l.1+m.1,pK l.2 m.2)
noncomputable def sc (k:Int) (l:L):L:=(k*l.1,rE k l.2)
noncomputable def sb (l m:L):L:=ad l (sc (-1) m)
noncomputable def un:Nat->List Int
 |0=>[1]
 |i+1=>0::un i
theorem GX(a b c d:Int):a+b+(c+d)=a+c+(b+d):=by rw[add_assoc,add_assoc,Int.add_left_comm b]
theorem CT:∀l m v,f7 (pK l m) v=f7 l v+f7 m v
 |[],m,v=>(zero_add _).symm
 |x::l,[],v=>(add_zero _).symm
 |x::l,y::m,[]=>by rfl
 |x::l,y::m,e::v=>by show(x+y)*e+f7 (pK l m) v=x*e+f7 l v+(y*e+f7 m v);rw[CT l m v,Int.add_mul];exact GX _ _ _ _
theorem CU(k:Int):∀l v,f7 (rE k l) v=k*f7 l v
 |[],v=>(Int.mul_zero k).symm
 |x::l,[]=>(Int.mul_zero k).symm
 |x::l,e::v=>by show k*x*e+f7 (rE k l) v=k*(x*e+f7 l v);rw[CU k l v,mul_add,Int.mul_assoc]
theorem DJ:∀i v,f7 (un i) v=ll 0 v i
 |0,[]=>rfl
 |i+1,[]=>rfl
 |0,e::v=>(add_zero _).trans (Int.one_mul e)
 |i+1,e::v=>(congrArg (· +_) (Int.zero_mul e)).trans ((zero_add _).trans (DJ i v))
theorem nj(v l m):(ad l m).d v=l.d v+m.d v:=by show l.1+m.1+f7 (pK l.2 m.2) v=_;rw[CT];exact GX _ _ _ _
theorem kZ(k v l):(sc k l).d v=k*l.d v:=by show k*l.1+f7 (rE k l.2) v=k*(l.1+f7 l.2 v);rw[CU,mul_add]
theorem j'(v l m):(sb l m).d v=l.d v -m.d v:=by rw[sb,nj,kZ,Int.neg_one_mul];rfl
noncomputable abbrev Cs (α:Type):=List (List L×α)
noncomputable def ok (v:List Int) (g:List L):Prop:=∀l∈g,0<=l.d v
noncomputable def Is (v:List Int) (c:Cs L) (x:Int):Prop:=∃p∈c,ok v p.1/\p.2.d v=x
noncomputable def kq (f:L->Cs L) (c:Cs L):Cs L:=c.flatMap λp=>(f p.2).map λr=>(p.1++r.1,r.2)
noncomputable def bi (f:L->L->Cs L) (c d:Cs L):Cs L:=kq (λx=>kq (f x) d) c
theorem Is.un{v c x y:_}{f:L->Cs L}(h:Is v c x)(k:∀l:L,l.d v=x->Is v (f l) y):Is v (kq f c) y:=by obtain⟨p,hp,hg,e⟩:=h;obtain⟨q,hq,y',e2⟩:=k _ e;exact⟨_,List.mem_flatMap.mpr ⟨p,hp,List.mem_map.mpr ⟨q,hq,rfl⟩⟩,λl hl=>(List.mem_append.mp hl).elim (hg l) (y' l),e2⟩
theorem Is.bi{v c d x y z:_}{f:L->L->Cs L}(h:Is v c x)(h2:Is v d y)(k:∀l m:L,l.d v=x->m.d v=y->Is v (f l m) z):Is v (bi f c d) z:=h.un λl e=>h2.un λm e2=>k l m e e2
theorem Is.one{v x:_}{l:L}(h:l.d v=x):Is v [([],l)] x:=⟨_,.head _,λU h=>(not_mem_nil h).elim,h⟩
theorem qD{v}{g:L}(h:0<=g.d v):ok v [g]:=λl m=>by cases m with|head=>exact h|tail _ m=>cases m
theorem Is.two{v x:_}{l l' g g':L}(h:(0<=g.d v/\l.d v=x)\/(0<=g'.d v/\l'.d v=x)):Is v [([g],l),([g'],l')] x:=h.elim (λh=>⟨_,.head _,qD h.1,h.2⟩) (λh=>⟨_,.tail _ (.head _),qD h.1,h.2⟩)
noncomputable def lm (k:Int):L:=(k,[])
theorem lV(v k):(lm k).d v=k:=add_zero k
noncomputable def y_ (l:L):Cs L:=[([l],l),([sb (lm (-1)) l],lm 0)]
noncomputable def GY (l:L):Cs L:=[([l],l),([sb (lm (-1)) l],sc (-1) l)]
mutual
noncomputable def N.l (o:Nat):N->Cs L
 |.v i=>[([],(0,un i))]
 |.k c=>[([],lm c)]
 |.a x y=>bi (λl m=>[([],ad l m)]) (x.l o) (y.l o)
 |.m k x=>kq (λl=>[([],sc k l)]) (x.l o)
 |.w x k=>kq (λl=>[([],sc k l)]) (x.l o)
 |.s x y=>bi (λl m=>y_ (sb l m)) (x.l o) (y.l o)
 |.t x=>kq y_ (x.l o)
 |.b x=>kq GY (x.l o)
noncomputable def Z.l (o:Nat):Z->Cs L
 |.v i=>[([],(0,un (o+i)))]
 |.k c=>[([],lm c)]
 |.a x y=>bi (λl m=>[([],ad l m)]) (x.l o) (y.l o)
 |.m k x=>kq (λl=>[([],sc k l)]) (x.l o)
 |.w x k=>kq (λl=>[([],sc k l)]) (x.l o)
 |.s x y=>bi (λl m=>[([],sb l m)]) (x.l o) (y.l o)
 |.n x=>kq (λl=>[([],sc (-1) l)]) (x.l o)
 |.c x=>x.l o
end
theorem xz(v i):L.d v (0,un i)=ll 0 v i:=(zero_add _).trans (DJ i v)
theorem za{x y:Int}(h:x<=y):0<=y-x:=Int.sub_nonneg_of_le h
theorem zb{x y:Int}(h:x<y):0<=y-(1+x):=Int.sub_nonneg_of_le (by rw[add_comm];exact h)
theorem GZ{x:Int}(h:¬0<=x):0<=-1-x:=Int.sub_nonneg_of_le (Int.le_sub_one_of_lt (Int.not_le.mp h))
theorem DK{v l x:_}(h:L.d v l=x):Is v (y_ l) (x.toNat:Int):=Is.two<|by
 rw[j',lV,lV,h];by_cases hx:0<=x
 ·exact .inl ⟨hx,(Int.toNat_of_nonneg hx).symm⟩
 ·exact .inr ⟨GZ hx,by rw[Int.toNat_of_nonpos (le_of_lt (Int.not_le.mp hx))];rfl⟩
theorem NX{v l x:_}(h:L.d v l=x):Is v (GY l) (x.natAbs:Int):=Is.two<|by
 rw[j',lV,kZ,h];by_cases hx:0<=x
 ·exact .inl ⟨hx,(Int.natAbs_of_nonneg hx).symm⟩
 ·exact .inr ⟨GZ hx,by rw[Int.ofNat_natAbs_of_nonpos (le_of_lt (Int.not_le.mp hx)),Int.neg_one_mul]⟩
noncomputable def env (n:List Nat) (z:List Int):List Int:=n.map Int.ofNat++z
theorem xe:∀(n:List Nat)(z:List Int)(i:Nat),i<n.length->ll 0 (env n z) i=(ll 0 n i:Nat)
 |x::n,z,0,_=>rfl
 |x::n,z,i+1,h=>xe n z i (Nat.lt_of_succ_lt_succ h)
theorem DL:∀(n:List Nat)(z:List Int)(i:Nat),ll 0 (env n z) (n.length+i)=ll 0 z i
 |[],z,i=>by rw[show([]:List Nat).length+i=i from Nat.zero_add i];rfl
 |x::n,z,i=>by rw[show(x::n).length+i=(n.length+i)+1 from Nat.add_right_comm ..];exact DL n z i
mutual
noncomputable def N.w' (o:Nat):N->Bool
 |.v i=>i.blt o
 |.k _=>true
 |.a x y=>x.w' o&&y.w' o
 |.m _ x=>x.w' o
 |.w x _=>x.w' o
 |.s x y=>x.w' o&&y.w' o
 |.t x=>x.w' o
 |.b x=>x.w' o
noncomputable def Z.w' (o:Nat):Z->Bool
 |.v _=>true
 |.k _=>true
 |.a x y=>x.w' o&&y.w' o
 |.m _ x=>x.w' o
 |.w x _=>x.w' o
 |.s x y=>x.w' o&&y.w' o
 |.n x=>x.w' o
 |.c x=>x.w' o
end
mutual
theorem N.ok(n:List Nat)(z:List Int):∀x:N,x.w' n.length=true->Is (env n z) (x.l n.length) (x.d n z:Nat)
 |.v i,h=>.one ((xz _ _).trans (xe n z i (Nat.blt_eq.mp h)))
 |.k _,_=>.one (lV _ _)
 |.a x y,h=>by obtain⟨a,b⟩:=tB (h:(x.w' _&&y.w' _)=true);exact(N.ok n z x a).bi (N.ok n z y b) λl m e e2=>.one (by rw[nj,e,e2];rfl)
 |.m k x,h=>(N.ok n z x h).un λl e=>.one (by rw[kZ,e];exact(natCast_mul k _).symm)
 |.w x k,h=>(N.ok n z x h).un λl e=>.one (by rw[kZ,e,mul_comm];exact(natCast_mul _ k).symm)
 |.s x y,h=>by obtain⟨a,b⟩:=tB (h:(x.w' _&&y.w' _)=true);refine(N.ok n z x a).bi (N.ok n z y b) λl m e e2=>?_;have:=DK (v:=env n z) (l:=sb l m) rfl;rw[j',e,e2] at this;show Is _ _ ((x.d n z-y.d n z:Nat):Int);rwa [←Int.toNat_sub]
 |.t x,h=>(Z.ok n z x h).un λl e=>DK e
 |.b x,h=>(Z.ok n z x h).un λl e=>NX e
theorem Z.ok(n:List Nat)(z:List Int):∀x:Z,x.w' n.length=true->Is (env n z) (x.l n.length) (x.d n z)
 |.v i,h=>.one ((xz _ _).trans (DL n z i))
 |.k _,_=>.one (lV _ _)
 |.a x y,h=>by obtain⟨a,b⟩:=tB (h:(x.w' _&&y.w' _)=true);exact(Z.ok n z x a).bi (Z.ok n z y b) λl m e e2=>.one (by rw[nj,e,e2];rfl)
 |.m k x,h=>(Z.ok n z x h).un λl e=>.one (by rw[kZ,e];rfl)
 |.w x k,h=>(Z.ok n z x h).un λl e=>.one (by rw[kZ,e,mul_comm];rfl)
 |.s x y,h=>by obtain⟨a,b⟩:=tB (h:(x.w' _&&y.w' _)=true);exact(Z.ok n z x a).bi (Z.ok n z y b) λl m e e2=>.one (by rw[j',e,e2];rfl)
 |.n x,h=>(Z.ok n z x h).un λl e=>.one (by rw[kZ,e,Int.neg_one_mul];rfl)
 |.c x,h=>N.ok n z x h
end
noncomputable def gV (v:List Int) (c:List (List L)):Prop:=∃g∈c,ok v g
noncomputable def cmp (f:L->L->List (List L)) (c d:Cs L):List (List L):=c.flatMap λp=>d.flatMap λq=>(f p.2 q.2).map λr=>r++(p.1++q.1)
theorem ug{v c d x y:_}{f:L->L->List (List L)}(h:Is v c x)(h2:Is v d y)(k:∀l m:L,l.d v=x->m.d v=y->gV v (f l m)):gV v (cmp f c d):=by obtain⟨p,hp,hg,e⟩:=h;obtain⟨q,hq,y',e2⟩:=h2;obtain⟨r,hr,Sv⟩:=k _ _ e e2;exact⟨_,List.mem_flatMap.mpr ⟨p,hp,List.mem_flatMap.mpr ⟨q,hq,List.mem_map.mpr ⟨r,hr,rfl⟩⟩⟩,λl hl=>(List.mem_append.mp hl).elim (Sv l) λhl=>(List.mem_append.mp hl).elim (hg l) (y' l)⟩
noncomputable def lp (l m:L):List (List L):=[[sb m l]]
noncomputable def lt' (l m:L):List (List L):=[[sb m (ad (lm 1) l)]]
noncomputable def zc (l m:L):List (List L):=[[sb m l,sb l m]]
noncomputable def zd (l m:L):List (List L):=[[sb m (ad (lm 1) l)],[sb l (ad (lm 1) m)]]
noncomputable def pr (c d:List (List L)):List (List L):=c.flatMap λg=>d.map λr=>g++r
noncomputable def F.l (o:Nat):Bool->F->List (List L)
 |true,.ln x y=>cmp lp (x.l o) (y.l o)
 |true,.tn x y=>cmp lt' (x.l o) (y.l o)
 |true,.en x y=>cmp zc (x.l o) (y.l o)
 |true,.lz x y=>cmp lp (x.l o) (y.l o)
 |true,.tz x y=>cmp lt' (x.l o) (y.l o)
 |true,.ez x y=>cmp zc (x.l o) (y.l o)
 |false,.ln x y=>cmp lt' (y.l o) (x.l o)
 |false,.tn x y=>cmp lp (y.l o) (x.l o)
 |false,.en x y=>cmp zd (x.l o) (y.l o)
 |false,.lz x y=>cmp lt' (y.l o) (x.l o)
 |false,.tz x y=>cmp lp (y.l o) (x.l o)
 |false,.ez x y=>cmp zd (x.l o) (y.l o)
 |b,.no f=>f.l o (!b)
 |true,.an f g=>pr (f.l o true) (g.l o true)
 |false,.an f g=>f.l o false++g.l o false
 |true,.oo f g=>f.l o true++g.l o true
 |false,.oo f g=>pr (f.l o false) (g.l o false)
 |true,.ff=>[]
 |false,.ff=>[[]]
noncomputable def F.w' (o:Nat):F->Bool
 |.ln x y|.tn x y|.en x y=>x.w' o&&y.w' o
 |.lz x y|.tz x y|.ez x y=>x.w' o&&y.w' o
 |.no f=>f.w' o
 |.an f g|.oo f g=>f.w' o&&g.w' o
 |.ff=>true
theorem DM{v}{l:L}(h:0<=l.d v):gV v [[l]]:=⟨_,.head _,qD h⟩
theorem uh{v c d}(h:gV v c)(h2:gV v d):gV v (pr c d):=by obtain⟨g,hg,a⟩:=h;obtain⟨r,hr,b⟩:=h2;exact⟨_,List.mem_flatMap.mpr ⟨g,hg,List.mem_map.mpr ⟨r,hr,rfl⟩⟩,λl hl=>(List.mem_append.mp hl).elim (a l) (b l)⟩
theorem FD{v c}(d)(h:gV v c):gV v (c++d):=by obtain⟨g,hg,a⟩:=h;exact⟨g,mem_append_left _ hg,a⟩
theorem FE{v d}(c)(h:gV v d):gV v (c++d):=by obtain⟨g,hg,a⟩:=h;exact⟨g,mem_append_right _ hg,a⟩
section
variable{v:List Int}{c d:Cs L}{x y:Int}(h:Is v c x)(h2:Is v d y)
include h h2
theorem u8(q:x<=y):gV v (cmp lp c d):=ug h h2 λl m e e2=>DM (by rw[j',e,e2];exact za q)
theorem u9(q:x<y):gV v (cmp lt' c d):=ug h h2 λl m e e2=>DM (by rw[j',nj,lV,e,e2];exact zb q)
theorem G1(q:x=y):gV v (cmp zc c d):=ug h h2 λl m e e2=>⟨_,.head _,λr hr=>by
 cases hr with
 |head=>exact(show 0<=(sb m l).d v by rw[j',e,e2];exact za (Int.le_of_eq q))
 |tail _ hr=>cases hr with
  |head=>exact(show 0<=(sb l m).d v by rw[j',e,e2];exact za (Int.le_of_eq q.symm))
  |tail _ hr=>cases hr⟩
theorem G2(q:¬x=y):gV v (cmp zd c d):=ug h h2 λl m e e2=>by
 by_cases hl:x<y
 ·exact⟨_,.head _,qD (by rw[j',nj,lV,e,e2];exact zb hl)⟩
 ·exact⟨_,.tail _ (.head _),qD (by rw[j',nj,lV,e,e2];exact zb (Int.lt_iff_le_and_ne.mpr ⟨Int.not_lt.mp hl,λx=>q x.symm⟩))⟩
end
theorem F.ok(n:List Nat)(z:List Int):∀(b:Bool)(f:F),f.w' n.length=true->(if b then f.d n z else¬f.d n z)->gV (env n z) (f.l n.length b)
 |b,.ln x y,h,q=>by
  obtain⟨p1,p2⟩:=tB (show(x.w' _&&y.w' _)=true from h)
  cases b with
  |true=>exact u8 (x.ok n z p1) (y.ok n z p2) (Int.ofNat_le.mpr q)
  |false=>exact u9 (y.ok n z p2) (x.ok n z p1) (Int.ofNat_lt.mpr (Nat.lt_of_not_le q))
 |b,.tn x y,h,q=>by
  obtain⟨p1,p2⟩:=tB (show(x.w' _&&y.w' _)=true from h)
  cases b with
  |true=>exact u9 (x.ok n z p1) (y.ok n z p2) (Int.ofNat_lt.mpr q)
  |false=>exact u8 (y.ok n z p2) (x.ok n z p1) (Int.ofNat_le.mpr (Nat.le_of_not_lt q))
 |b,.en x y,h,q=>by
  obtain⟨p1,p2⟩:=tB (show(x.w' _&&y.w' _)=true from h)
  cases b with
  |true=>exact G1 (x.ok n z p1) (y.ok n z p2) (congrArg _ q)
  |false=>exact G2 (x.ok n z p1) (y.ok n z p2) λe=>q (Int.ofNat.inj e)
 |b,.lz x y,h,q=>by
  obtain⟨p1,p2⟩:=tB (show(x.w' _&&y.w' _)=true from h)
  cases b with
  |true=>exact u8 (x.ok n z p1) (y.ok n z p2) q
  |false=>exact u9 (y.ok n z p2) (x.ok n z p1) (Int.lt_of_not_ge q)
 |b,.tz x y,h,q=>by
  obtain⟨p1,p2⟩:=tB (show(x.w' _&&y.w' _)=true from h)
  cases b with
  |true=>exact u9 (x.ok n z p1) (y.ok n z p2) q
  |false=>exact u8 (y.ok n z p2) (x.ok n z p1) (Int.not_lt.mp q)
 |b,.ez x y,h,q=>by
  obtain⟨p1,p2⟩:=tB (show(x.w' _&&y.w' _)=true from h)
  cases b with
  |true=>exact G1 (x.ok n z p1) (y.ok n z p2) q
  |false=>exact G2 (x.ok n z p1) (y.ok n z p2) q
 |b,.no f,h,q=>by
  cases b with
  |true=>exact F.ok n z false f h q
  |false=>exact F.ok n z true f h (Classical.not_not.mp q)
 |b,.an f g,h,q=>by
  obtain⟨p1,p2⟩:=tB (show(f.w' _&&g.w' _)=true from h)
  cases b with
  |true=>exact uh (F.ok n z true f p1 q.1) (F.ok n z true g p2 q.2)
  |false=>
   rcases Classical.not_and_iff_not_or_not.mp q with q|q
   ·exact FD _ (F.ok n z false f p1 q)
   ·exact FE _ (F.ok n z false g p2 q)
 |b,.oo f g,h,q=>by
  obtain⟨p1,p2⟩:=tB (show(f.w' _&&g.w' _)=true from h)
  cases b with
  |true=>
   rcases q with q|q
   ·exact FD _ (F.ok n z true f p1 q)
   ·exact FE _ (F.ok n z true g p2 q)
  |false=>exact uh (F.ok n z false f p1 λe=>q (.inl e)) (F.ok n z false g p2 λe=>q (.inr e))
 |true,.ff,_,q=>q.elim
 |false,.ff,_,_=>⟨_,.head _,λU h=>(not_mem_nil h).elim⟩
noncomputable def neg:Int->Bool
 |.ofNat _=>false
 |.negSucc _=>true
noncomputable def zero:Int->Bool
 |.ofNat 0=>true
 |_=>false
noncomputable def part:List L->List L×List L×List L
 |[]=>([],[],[])
 |(k,[])::r=>let q:=part r;((k,[])::q.1,q.2)
 |(k,c::l)::r=>let q:=part r;bif zero c then((k,l)::q.1,q.2) else bif neg c then(q.1,q.2.1,(k,c::l)::q.2.2) else(q.1,(k,c::l)::q.2.1,q.2.2)
noncomputable def tl (l:L):L:=(l.1,l.2.tail)
noncomputable def hd (l:L):Int:=l.2.headD 0
noncomputable def nP (p q:L):L:=ad (sc (-(hd q)) (tl p)) (sc (hd p) (tl q))
noncomputable def yh:List Int->Bool
 |[]=>true
 |x::l=>zero x&&yh l
noncomputable def drop (g:List L):List L:=g.filter λl=>neg l.1||!yh l.2
noncomputable def yi (x y:L):Bool:=zero (x.1+y.1)&&yh (pK x.2 y.2)
noncomputable def uj (n p:List L):List L->List L
 |[]=>p.flatMap λx=>n.map λy=>nP x y
 |x::r=>match n.find? (yi x) with
  |some y=>(n.map λz=>nP x z)++p.map λz=>nP z y
  |none=>uj n p r
noncomputable def elim:Nat->List L->Bool
 |0,g=>g.any λl=>neg l.1
 |n+1,g=>let q:=part g;elim n (q.1++drop (uj q.2.2 q.2.1 q.2.1))
theorem DN{x:Int}(h:neg x=true):x<0:=by cases x with|ofNat=>cases h|negSucc=>exact Int.negSucc_lt_zero _
theorem Mp{x:Int}(h:zero x=true):x=0:=by
 cases x with
 |ofNat n=>cases n with|zero=>rfl|succ=>cases h
 |negSucc=>cases h
theorem Mq{x:Int}(h:neg x=false):0<=x:=by cases x with|ofNat=>exact natCast_nonneg _|negSucc=>cases h
structure Part(e:Int)(v:List Int)(q:List L×List L×List L):Prop where
 z:ok v q.1
 p:∀l∈q.2.1,0<=hd l/\0<=hd l*e+(tl l).d v
 n:∀l∈q.2.2,hd l<=0/\0<=hd l*e+(tl l).d v
theorem wO{v l g}(h:0<=L.d v l)(h2:ok v g):ok v (l::g):=λm hm=>by
 cases hm with
 |head=>exact h
 |tail _ hm=>exact h2 m hm
theorem B4{p:L->Prop}{l:L}{g:List L}(h:p l)(h2:∀m∈g,p m):∀m∈l::g,p m:=λm hm=>by
 cases hm with
 |head=>exact h
 |tail _ hm=>exact h2 m hm
theorem wQ(e:Int)(v:List Int):∀g,ok (e::v) g->Part e v (part g)
 |[],_=>⟨λU h=>(not_mem_nil h).elim,λU h=>(not_mem_nil h).elim,λU h=>(not_mem_nil h).elim⟩
 |(k,[])::r,h=>by have q:=wQ e v r λl hl=>h l (.tail _ hl);have:=h _ (.head _);exact⟨wO (by unfold L.d at this⊢;cases v<;>exact this) q.z,q.p,q.n⟩
 |(k,c::l)::r,h=>by
  have q:=wQ e v r λl hl=>h l (.tail _ hl);have e1:0<=k+(c*e+f7 l v):=h _ (.head _);show Part e v (bif zero c then((k,l)::(part r).1,(part r).2) else bif neg c then((part r).1,(part r).2.1,(k,c::l)::(part r).2.2) else((part r).1,(k,c::l)::(part r).2.1,(part r).2.2))
  cases hz:zero c with
  |true=>rw[Mp hz,Int.zero_mul,zero_add] at e1;exact⟨wO e1 q.z,q.p,q.n⟩
  |false=>
   have e2:0<=c*e+(k+f7 l v):=by rw[Int.add_left_comm];exact e1
   cases hn:neg c with
   |true=>exact⟨q.z,q.p,B4 ⟨le_of_lt (DN hn),e2⟩ q.n⟩
   |false=>exact⟨q.z,B4 ⟨Mq hn,e2⟩ q.p,q.n⟩
theorem NY{a b e x y:Int}(a0:0<=a)(b0:b<=0)(h:0<=a*e+x)(h2:0<=b*e+y):0<=-b*x+a*y:=by
 have:=Int.add_nonneg (mul_nonneg (Int.neg_nonneg_of_nonpos b0) h) (mul_nonneg a0 h2)
 have e1:-b*(a*e+x)+a*(b*e+y)=-b*x+a*y:=by rw[mul_add,mul_add,Int.neg_mul b (a*e),Int.mul_left_comm b a e,add_comm (-_),add_assoc,Int.neg_add_cancel_left]
 rwa [e1] at this
theorem B5{n p:List L}{l:L}:∀{r:List L},(∀x∈r,x∈p)->l∈uj n p r->∃x∈p,∃y∈n,nP x y=l
 |[],_,hl=>by obtain⟨x,hx,hl⟩:=List.mem_flatMap.mp hl;obtain⟨y,hy,e⟩:=List.mem_map.mp hl;exact⟨x,hx,y,hy,e⟩
 |x::r,h,hl=>by
  have hl:l∈(match n.find? (yi x) with|some y=>(n.map λz=>nP x z)++p.map λz=>nP z y|none=>uj n p r):=hl
  cases hf:n.find? (yi x) with
  |none=>rw[hf] at hl;exact B5 (λy hy=>h y (.tail _ hy)) hl
  |some y=>
   rw[hf] at hl;rcases List.mem_append.mp hl with hl|hl
   ·obtain⟨z,hz,e⟩:=List.mem_map.mp hl;exact⟨x,h x (.head _),z,hz,e⟩
   ·obtain⟨z,hz,e⟩:=List.mem_map.mp hl;exact⟨z,hz,y,List.mem_of_find?_eq_some hf,e⟩
theorem CV:∀(v:List Int)(g:List L),elim v.length g=true->ok v g->False
 |[],g,h,q=>by obtain⟨l,hl,hn⟩:=List.any_eq_true.mp (show(g.any λl=>neg l.1)=true from h);have:=q l hl;have hn:=DN hn;unfold L.d at this;rw[(show f7 l.2 []=0 by cases l.2<;>rfl),add_zero] at this;exact absurd this (Int.not_le.mpr hn)
 |e::v,g,h,q=>CV v _ h λl hl=>by
  have P:=wQ e v g q;rcases List.mem_append.mp hl with hl|hl
  ·exact P.z l hl
  ·have hl:=(List.mem_filter.mp hl).1;obtain⟨x,hx,y,hy,rfl⟩:=B5 (λU h=>h) hl;have hp:=P.p x hx;have hn:=P.n y hy;unfold nP;rw[nj,kZ,kZ];exact NY hp.1 hn.1 hp.2 hn.2
noncomputable def yj:Nat->List L
 |0=>[]
 |n+1=>(0,un n)::yj n
structure P where
 n:Nat
 z:Nat
 h:List F
 g:F
noncomputable def yk (o:Nat):List F->List (List L)
 |[]=>[[]]
 |f::r=>pr (f.l o true) (yk o r)
noncomputable def P.ie (p:P):Bool:=p.h.all (·.w' p.n)&&p.g.w' p.n&&(pr (p.g.l p.n false) (yk p.n p.h)).all λc=>elim (p.n+p.z) (c++yj p.n)
noncomputable def imp (n:List Nat) (z:List Int) (q:Bool) (g:F):List F->Prop
 |[]=>(_:q=true:=by x_go)->g.d n z
 |f::r=>f.d n z->imp n z q g r
noncomputable def ze (k:List Int->Prop):Nat->Prop
 |0=>k []
 |n+1=>∀{x:Int},ze (λl=>k (x::l)) n
noncomputable def zf (k:List Nat->Prop):Nat->Prop
 |0=>k []
 |n+1=>∀{x:Nat},zf (λl=>k (x::l)) n
noncomputable def P.D (p:P):Prop:=zf (λn=>ze (λz=>imp n z p.ie p.g p.h) p.z) p.n
theorem DO{k:List Nat->Prop}:∀{n:Nat},(∀l,l.length=n->k l)->zf k n
 |0,h=>h [] rfl
 |n+1,h=>DO λl e=>h (_::l) (congrArg (· +1) e)
theorem DP{k:List Int->Prop}:∀{n:Nat},(∀l,l.length=n->k l)->ze k n
 |0,h=>h [] rfl
 |n+1,h=>DP λl e=>h (_::l) (congrArg (· +1) e)
theorem DQ{n z q g:_}:∀{h:List F},(q=true->(∀f∈h,f.d n z)->g.d n z)->imp n z q g h
 |[],k=>λe=>k e λU h=>(not_mem_nil h).elim
 |f::r,k=>λhf=>DQ λe hr=>k e λx hx=>by
  cases hx with
  |head=>exact hf
  |tail _ hx=>exact hr x hx
theorem CW{n:List Nat}{z:List Int}:∀{h:List F},(h.all (·.w' n.length))=true->(∀f∈h,f.d n z)->gV (env n z) (yk n.length h)
 |[],_,_=>⟨_,.head _,λU h=>(not_mem_nil h).elim⟩
 |f::r,w,q=>by obtain⟨w1,w2⟩:=tB (show(f.w' n.length&&r.all (·.w' n.length))=true from w);exact uh (F.ok n z true f w1 (q f (.head _))) (CW w2 λx hx=>q x (.tail _ hx))
theorem CX{n:List Nat}{z:List Int}:∀k,k<=n.length->ok (env n z) (yj k)
 |0,_=>λU h=>(not_mem_nil h).elim
 |k+1,h=>wO (by rw[xz,xe n z k h];exact natCast_nonneg _) (CX k (Nat.le_of_succ_le h))
theorem Q8(p:P):p.D:=DO λn en=>DP λz ez=>DQ λe h=>by obtain⟨e,e3⟩:=tB e;obtain⟨e1,e2⟩:=tB e;rw[←en] at e1 e2 e3;apply Classical.byContradiction;intro hg;obtain⟨c,hc,q⟩:=uh (F.ok n z false p.g e2 hg) (CW e1 h);have:=List.all_eq_true.mp e3 c hc;refine CV (env n z) _ ?_ λl hl=>(List.mem_append.mp hl).elim (q l) (CX n.length (Nat.le_refl _) l);rw[←ez] at this;unfold env;rw[length_append,length_map];exact this
end A
noncomputable abbrev LP:=A.P
theorem aa(p:A.P):p.D:=A.Q8 p
set_option genCtorIdx true
theorem io{α:Type}{c:Prop}{d:Decidable c}{a b:α}:(c/\ite c a b=a)\/(¬c/\ite c a b=b):=match d with
 |.isTrue h=>.inl ⟨h,rfl⟩
 |.isFalse h=>.inr ⟨h,rfl⟩
theorem eK{a b:Nat}:(a<=b/\min a b=a)\/(¬a<=b/\min a b=b):=io
theorem pL{a b:Int}:(a<=b/\min a b=a)\/(¬a<=b/\min a b=b):=io
theorem nQ{a b:Int}:(a<=b/\max a b=b)\/(¬a<=b/\max a b=a):=io
theorem pM{a k:Int}(h:0<k):0<=a%k/\a%k<k/\k*(a/k)+a%k=a:=⟨Int.emod_nonneg _ (Int.ne_of_gt h),Int.emod_lt_of_pos _ h,Int.mul_ediv_add_emod a k⟩
theorem uu{α:Sort _}{a b:α}{P:α->Prop}(h:a=b)(k:P b):P a:=h▸k
theorem xA{p q g:Prop}(h:p/\q)(k:p->q->g):g:=k h.1 h.2
theorem fq{p q r g:Prop}(h:p/\q/\r)(k:p->q->r->g):g:=k h.1 h.2.1 h.2.2
theorem yl{p q r s g:Prop}(h:p/\q/\r/\s)(k:p->q->r->s->g):g:=k h.1 h.2.1 h.2.2.1 h.2.2.2
theorem Eu{p q r s t g:Prop}(h:p/\q/\r/\s/\t)(k:p->q->r->s->t->g):g:=k h.1 h.2.1 h.2.2.1 h.2.2.2.1 h.2.2.2.2
theorem xE{α:Sort _}{p:α->Prop}{g:Prop}(h:∃a,p a)(k:∀a,p a->g):g:=by obtain⟨a0,a1⟩:=h;exact k a0 a1
theorem ai{α:Sort _}{p q:α->Prop}{g:Prop}(h:∃a,p a/\q a)(k:∀a,p a->q a->g):g:=by obtain⟨a0,a1,a2⟩:=h;exact k a0 a1 a2
theorem dD{α:Sort _}{p q r:α->Prop}{g:Prop}(h:∃a,p a/\q a/\r a)(k:∀a,p a->q a->r a->g):g:=by obtain⟨a0,a1,a2,a3⟩:=h;exact k a0 a1 a2 a3
theorem xB{α:Sort _}{p q r s:α->Prop}{g:Prop}(h:∃a,p a/\q a/\r a/\s a)(k:∀a,p a->q a->r a->s a->g):g:=by obtain⟨a0,a1,a2,a3,a4⟩:=h;exact k a0 a1 a2 a3 a4
theorem NZ{α:Sort _}{p q r s t:α->Prop}{g:Prop}(h:∃a,p a/\q a/\r a/\s a/\t a)(k:∀a,p a->q a->r a->s a->t a->g):g:=by obtain⟨a0,a1,a2,a3,a4,a5⟩:=h;exact k a0 a1 a2 a3 a4 a5
theorem i_{α β:Sort _}{p:α->β->Prop}{g:Prop}(h:∃a b,p a b)(k:∀a b,p a b->g):g:=by obtain⟨a0,a1,a2⟩:=h;exact k a0 a1 a2
theorem dn{α β:Sort _}{p q:α->β->Prop}{g:Prop}(h:∃a b,p a b/\q a b)(k:∀a b,p a b->q a b->g):g:=by obtain⟨a0,a1,a2,a3⟩:=h;exact k a0 a1 a2 a3
theorem j0{α β:Sort _}{p q r:α->β->Prop}{g:Prop}(h:∃a b,p a b/\q a b/\r a b)(k:∀a b,p a b->q a b->r a b->g):g:=by obtain⟨a0,a1,a2,a3,a4⟩:=h;exact k a0 a1 a2 a3 a4
theorem gK{α β:Sort _}{p q r s:α->β->Prop}{g:Prop}(h:∃a b,p a b/\q a b/\r a b/\s a b)(k:∀a b,p a b->q a b->r a b->s a b->g):g:=by obtain⟨a0,a1,a2,a3,a4,a5⟩:=h;exact k a0 a1 a2 a3 a4 a5
theorem K3{α β:Sort _}{p q r s t u:α->β->Prop}{g:Prop}(h:∃a b,p a b/\q a b/\r a b/\s a b/\t a b/\u a b)(k:∀a b,p a b->q a b->r a b->s a b->t a b->u a b->g):g:=by obtain⟨a0,a1,a2,a3,a4,a5,a6,a7⟩:=h;exact k a0 a1 a2 a3 a4 a5 a6 a7
theorem Q9{α β γ:Sort _}{p:α->β->γ->Prop}{g:Prop}(h:∃a b c,p a b c)(k:∀a b c,p a b c->g):g:=by obtain⟨a0,a1,a2,a3⟩:=h;exact k a0 a1 a2 a3
theorem xC{α β γ:Sort _}{p q:α->β->γ->Prop}{g:Prop}(h:∃a b c,p a b c/\q a b c)(k:∀a b c,p a b c->q a b c->g):g:=by obtain⟨a0,a1,a2,a3,a4⟩:=h;exact k a0 a1 a2 a3 a4
theorem dJ{α β γ:Sort _}{p q r:α->β->γ->Prop}{g:Prop}(h:∃a b c,p a b c/\q a b c/\r a b c)(k:∀a b c,p a b c->q a b c->r a b c->g):g:=by obtain⟨a0,a1,a2,a3,a4,a5⟩:=h;exact k a0 a1 a2 a3 a4 a5
theorem ew{α β γ:Sort _}{p q r s:α->β->γ->Prop}{g:Prop}(h:∃a b c,p a b c/\q a b c/\r a b c/\s a b c)(k:∀a b c,p a b c->q a b c->r a b c->s a b c->g):g:=by obtain⟨a0,a1,a2,a3,a4,a5,a6⟩:=h;exact k a0 a1 a2 a3 a4 a5 a6
theorem N0{α β γ δ:Sort _}{p q:α->β->γ->δ->Prop}{g:Prop}(h:∃a b c d,p a b c d/\q a b c d)(k:∀a b c d,p a b c d->q a b c d->g):g:=by obtain⟨a0,a1,a2,a3,a4,a5⟩:=h;exact k a0 a1 a2 a3 a4 a5
theorem qC{α β γ δ:Sort _}{p q r:α->β->γ->δ->Prop}{g:Prop}(h:∃a b c d,p a b c d/\q a b c d/\r a b c d)(k:∀a b c d,p a b c d->q a b c d->r a b c d->g):g:=by obtain⟨a0,a1,a2,a3,a4,a5,a6⟩:=h;exact k a0 a1 a2 a3 a4 a5 a6
theorem lL{α β γ δ:Sort _}{p q r s:α->β->γ->δ->Prop}{g:Prop}(h:∃a b c d,p a b c d/\q a b c d/\r a b c d/\s a b c d)(k:∀a b c d,p a b c d->q a b c d->r a b c d->s a b c d->g):g:=by obtain⟨a0,a1,a2,a3,a4,a5,a6,a7⟩:=h;exact k a0 a1 a2 a3 a4 a5 a6 a7
theorem bW{aq:Sort _}{p1:Prop}{p2 p3:aq->Prop}{g:Prop}(h:p1/\∃v0,p2 v0/\p3 v0)(k:p1->∀v0,p2 v0->p3 v0->g):g:=by obtain⟨a0,a1,a2,a3⟩:=h;exact k a0 a1 a2 a3
theorem xD{aq:Sort _}{p1:Prop}{p2 p3 p4:aq->Prop}{g:Prop}(h:p1/\∃v0,p2 v0/\p3 v0/\p4 v0)(k:p1->∀v0,p2 v0->p3 v0->p4 v0->g):g:=by obtain⟨a0,a1,a2,a3,a4⟩:=h;exact k a0 a1 a2 a3 a4
theorem B6{aq:Sort _}{p1:Prop}{p2 p3 p4 p5 p6 p7:aq->Prop}{g:Prop}(h:p1/\∃v0,p2 v0/\p3 v0/\p4 v0/\p5 v0/\p6 v0/\p7 v0)(k:p1->∀v0,p2 v0->p3 v0->p4 v0->p5 v0->p6 v0->p7 v0->g):g:=by obtain⟨a0,a1,a2,a3,a4,a5,a6,a7⟩:=h;exact k a0 a1 a2 a3 a4 a5 a6 a7
theorem Br{aq aD aY:Sort _}{p1:Prop}{p2 p3 p4:aq->Prop}{p5 p6:aq->aD->aY->Prop}{g:Prop}(h:p1/\∃v0,p2 v0/\p3 v0/\p4 v0/\∃v1,∃v2,p5 v0 v1 v2/\p6 v0 v1 v2)(k:p1->∀v0,p2 v0->p3 v0->p4 v0->∀v1,∀v2,p5 v0 v1 v2->p6 v0 v1 v2->g):g:=by obtain⟨a0,a1,a2,a3,a4,a5,a6,a7,a8⟩:=h;exact k a0 a1 a2 a3 a4 a5 a6 a7 a8
theorem sK{aq aD aY:Sort _}{p1:Prop}{p2 p3 p4:aq->Prop}{p5 p6 p7:aq->aD->aY->Prop}{g:Prop}(h:p1/\∃v0,p2 v0/\p3 v0/\p4 v0/\∃v1,∃v2,p5 v0 v1 v2/\p6 v0 v1 v2/\p7 v0 v1 v2)(k:p1->∀v0,p2 v0->p3 v0->p4 v0->∀v1,∀v2,p5 v0 v1 v2->p6 v0 v1 v2->p7 v0 v1 v2->g):g:=by obtain⟨a0,a1,a2,a3,a4,a5,a6,a7,a8,a9⟩:=h;exact k a0 a1 a2 a3 a4 a5 a6 a7 a8 a9
theorem to{aq aD:Sort _}{p1:Prop}{p2 p3:aq->Prop}{p4 p5:aq->aD->Prop}{g:Prop}(h:p1/\∃v0,p2 v0/\p3 v0/\∃v1,p4 v0 v1/\p5 v0 v1)(k:p1->∀v0,p2 v0->p3 v0->∀v1,p4 v0 v1->p5 v0 v1->g):g:=by obtain⟨a0,a1,a2,a3,a4,a5,a6⟩:=h;exact k a0 a1 a2 a3 a4 a5 a6
theorem N1{aq aD:Sort _}{p1:Prop}{p2:aq->Prop}{p3 p4:aq->aD->Prop}{g:Prop}(h:p1/\∃v0,p2 v0/\∃v1,p3 v0 v1/\p4 v0 v1)(k:p1->∀v0,p2 v0->∀v1,p3 v0 v1->p4 v0 v1->g):g:=by obtain⟨a0,a1,a2,a3,a4,a5⟩:=h;exact k a0 a1 a2 a3 a4 a5
theorem K4{aq aD aY:Sort _}{p1:Prop}{p2:aq->Prop}{p3:aq->aD->Prop}{p4 p5:aq->aD->aY->Prop}{g:Prop}(h:p1/\∃v0,p2 v0/\∃v1,p3 v0 v1/\∃v2,p4 v0 v1 v2/\p5 v0 v1 v2)(k:p1->∀v0,p2 v0->∀v1,p3 v0 v1->∀v2,p4 v0 v1 v2->p5 v0 v1 v2->g):g:=by obtain⟨a0,a1,a2,a3,a4,a5,a6,a7⟩:=h;exact k a0 a1 a2 a3 a4 a5 a6 a7
theorem dI{aq aD aY:Sort _}{p1:Prop}{p2:aq->Prop}{p3 p4:aq->aD->aY->Prop}{g:Prop}(h:p1/\∃v0,p2 v0/\∃v1,∃v2,p3 v0 v1 v2/\p4 v0 v1 v2)(k:p1->∀v0,p2 v0->∀v1,∀v2,p3 v0 v1 v2->p4 v0 v1 v2->g):g:=by obtain⟨a0,a1,a2,a3,a4,a5,a6⟩:=h;exact k a0 a1 a2 a3 a4 a5 a6
theorem Ev{aq aD:Sort _}{p1:Prop}{p2 p3:aq->aD->Prop}{g:Prop}(h:p1/\∃v0,∃v1,p2 v0 v1/\p3 v0 v1)(k:p1->∀v0,∀v1,p2 v0 v1->p3 v0 v1->g):g:=by obtain⟨a0,a1,a2,a3,a4⟩:=h;exact k a0 a1 a2 a3 a4
theorem kP{aq aD:Sort _}{p1:Prop}{p2 p3 p4:aq->aD->Prop}{g:Prop}(h:p1/\∃v0,∃v1,p2 v0 v1/\p3 v0 v1/\p4 v0 v1)(k:p1->∀v0,∀v1,p2 v0 v1->p3 v0 v1->p4 v0 v1->g):g:=by obtain⟨a0,a1,a2,a3,a4,a5⟩:=h;exact k a0 a1 a2 a3 a4 a5
theorem Bt{aq aD aY bZ:Sort _}{p1:Prop}{p2 p3 p4:aq->aD->Prop}{p5:aq->aD->aY->bZ->Prop}{g:Prop}(h:p1/\∃v0,∃v1,p2 v0 v1/\p3 v0 v1/\p4 v0 v1/\∃v2,∃v3,p5 v0 v1 v2 v3)(k:p1->∀v0,∀v1,p2 v0 v1->p3 v0 v1->p4 v0 v1->∀v2,∀v3,p5 v0 v1 v2 v3->g):g:=by obtain⟨a0,a1,a2,a3,a4,a5,a6,a7,a8⟩:=h;exact k a0 a1 a2 a3 a4 a5 a6 a7 a8
theorem Bu{aq aD aY:Sort _}{p1:Prop}{p2 p3 p4 p5 p6:aq->aD->aY->Prop}{g:Prop}(h:p1/\∃v0,∃v1,∃v2,p2 v0 v1 v2/\p3 v0 v1 v2/\p4 v0 v1 v2/\p5 v0 v1 v2/\p6 v0 v1 v2)(k:p1->∀v0,∀v1,∀v2,p2 v0 v1 v2->p3 v0 v1 v2->p4 v0 v1 v2->p5 v0 v1 v2->p6 v0 v1 v2->g):g:=by obtain⟨a0,a1,a2,a3,a4,a5,a6,a7,a8⟩:=h;exact k a0 a1 a2 a3 a4 a5 a6 a7 a8
theorem AR{aq aD aY bZ fS:Sort _}{p1:Prop}{p2 p3 p4 p5:aq->aD->aY->bZ->Prop}{p6:aq->aD->aY->bZ->fS->Prop}{g:Prop}(h:p1/\∃v0,∃v1,∃v2,∃v3,p2 v0 v1 v2 v3/\p3 v0 v1 v2 v3/\p4 v0 v1 v2 v3/\p5 v0 v1 v2 v3/\∃v4,p6 v0 v1 v2 v3 v4)(k:p1->∀v0,∀v1,∀v2,∀v3,p2 v0 v1 v2 v3->p3 v0 v1 v2 v3->p4 v0 v1 v2 v3->p5 v0 v1 v2 v3->∀v4,p6 v0 v1 v2 v3 v4->g):g:=by obtain⟨a0,a1,a2,a3,a4,a5,a6,a7,a8,a9,zh⟩:=h;exact k a0 a1 a2 a3 a4 a5 a6 a7 a8 a9 zh
theorem PU{aq aD:Sort _}{p1 p2:aq->Prop}{p3:aq->aD->Prop}{g:Prop}(h:∃v0,p1 v0/\p2 v0/\∃v1,p3 v0 v1)(k:∀v0,p1 v0->p2 v0->∀v1,p3 v0 v1->g):g:=by obtain⟨a0,a1,a2,a3,a4⟩:=h;exact k a0 a1 a2 a3 a4
theorem Jm{aq aD:Sort _}{p1 p2:aq->Prop}{p3 p4 p5 p6 p7 p8:aq->aD->Prop}{g:Prop}(h:∃v0,p1 v0/\p2 v0/\∃v1,p3 v0 v1/\p4 v0 v1/\p5 v0 v1/\p6 v0 v1/\p7 v0 v1/\p8 v0 v1)(k:∀v0,p1 v0->p2 v0->∀v1,p3 v0 v1->p4 v0 v1->p5 v0 v1->p6 v0 v1->p7 v0 v1->p8 v0 v1->g):g:=by obtain⟨a0,a1,a2,a3,a4,a5,a6,a7,a8,a9⟩:=h;exact k a0 a1 a2 a3 a4 a5 a6 a7 a8 a9
theorem vX{aq aD aY bZ:Sort _}{p1:aq->Prop}{p2 p3 p4:aq->aD->Prop}{p5 p6:aq->aD->aY->bZ->Prop}{g:Prop}(h:∃v0,p1 v0/\∃v1,p2 v0 v1/\p3 v0 v1/\p4 v0 v1/\∃v2,∃v3,p5 v0 v1 v2 v3/\p6 v0 v1 v2 v3)(k:∀v0,p1 v0->∀v1,p2 v0 v1->p3 v0 v1->p4 v0 v1->∀v2,∀v3,p5 v0 v1 v2 v3->p6 v0 v1 v2 v3->g):g:=by obtain⟨a0,a1,a2,a3,a4,a5,a6,a7,a8,a9⟩:=h;exact k a0 a1 a2 a3 a4 a5 a6 a7 a8 a9
theorem sT{aq aD aY:Sort _}{p1 p2 p3 p4 p5 p6:aq->aD->aY->Prop}{g:Prop}(h:∃v0,∃v1,∃v2,p1 v0 v1 v2/\p2 v0 v1 v2/\p3 v0 v1 v2/\p4 v0 v1 v2/\p5 v0 v1 v2/\p6 v0 v1 v2)(k:∀v0,∀v1,∀v2,p1 v0 v1 v2->p2 v0 v1 v2->p3 v0 v1 v2->p4 v0 v1 v2->p5 v0 v1 v2->p6 v0 v1 v2->g):g:=by obtain⟨a0,a1,a2,a3,a4,a5,a6,a7,a8⟩:=h;exact k a0 a1 a2 a3 a4 a5 a6 a7 a8
theorem IX{aq aD aY:Sort _}{p1 p2 p3 p4 p5 p6 p7 p8:aq->aD->aY->Prop}{g:Prop}(h:∃v0,∃v1,∃v2,p1 v0 v1 v2/\p2 v0 v1 v2/\p3 v0 v1 v2/\p4 v0 v1 v2/\p5 v0 v1 v2/\p6 v0 v1 v2/\p7 v0 v1 v2/\p8 v0 v1 v2)(k:∀v0,∀v1,∀v2,p1 v0 v1 v2->p2 v0 v1 v2->p3 v0 v1 v2->p4 v0 v1 v2->p5 v0 v1 v2->p6 v0 v1 v2->p7 v0 v1 v2->p8 v0 v1 v2->g):g:=by obtain⟨a0,a1,a2,a3,a4,a5,a6,a7,a8,a9,zh⟩:=h;exact k a0 a1 a2 a3 a4 a5 a6 a7 a8 a9 zh
theorem B7{aq aD aY bZ:Sort _}{p1 p2 p3:aq->aD->aY->Prop}{p4:aq->aD->aY->bZ->Prop}{g:Prop}(h:∃v0,∃v1,∃v2,p1 v0 v1 v2/\p2 v0 v1 v2/\p3 v0 v1 v2/\∃v3,p4 v0 v1 v2 v3)(k:∀v0,∀v1,∀v2,p1 v0 v1 v2->p2 v0 v1 v2->p3 v0 v1 v2->∀v3,p4 v0 v1 v2 v3->g):g:=by obtain⟨a0,a1,a2,a3,a4,a5,a6,a7⟩:=h;exact k a0 a1 a2 a3 a4 a5 a6 a7
theorem Mr{aq aD aY bZ:Sort _}{p1:aq->aD->aY->Prop}{p2 p3:aq->aD->aY->bZ->Prop}{g:Prop}(h:∃v0,∃v1,∃v2,p1 v0 v1 v2/\∃v3,p2 v0 v1 v2 v3/\p3 v0 v1 v2 v3)(k:∀v0,∀v1,∀v2,p1 v0 v1 v2->∀v3,p2 v0 v1 v2 v3->p3 v0 v1 v2 v3->g):g:=by obtain⟨a0,a1,a2,a3,a4,a5,a6⟩:=h;exact k a0 a1 a2 a3 a4 a5 a6
theorem J_{aq aD aY bZ:Sort _}{p1 p2 p3 p4 p5:aq->aD->aY->bZ->Prop}{g:Prop}(h:∃v0,∃v1,∃v2,∃v3,p1 v0 v1 v2 v3/\p2 v0 v1 v2 v3/\p3 v0 v1 v2 v3/\p4 v0 v1 v2 v3/\p5 v0 v1 v2 v3)(k:∀v0,∀v1,∀v2,∀v3,p1 v0 v1 v2 v3->p2 v0 v1 v2 v3->p3 v0 v1 v2 v3->p4 v0 v1 v2 v3->p5 v0 v1 v2 v3->g):g:=by obtain⟨a0,a1,a2,a3,a4,a5,a6,a7,a8⟩:=h;exact k a0 a1 a2 a3 a4 a5 a6 a7 a8
theorem Jn{aq aD aY bZ fS:Sort _}{p1 p2 p3 p4 p5:aq->aD->aY->bZ->fS->Prop}{g:Prop}(h:∃v0,∃v1,∃v2,∃v3,∃v4,p1 v0 v1 v2 v3 v4/\p2 v0 v1 v2 v3 v4/\p3 v0 v1 v2 v3 v4/\p4 v0 v1 v2 v3 v4/\p5 v0 v1 v2 v3 v4)(k:∀v0,∀v1,∀v2,∀v3,∀v4,p1 v0 v1 v2 v3 v4->p2 v0 v1 v2 v3 v4->p3 v0 v1 v2 v3 v4->p4 v0 v1 v2 v3 v4->p5 v0 v1 v2 v3 v4->g):g:=by obtain⟨a0,a1,a2,a3,a4,a5,a6,a7,a8,a9⟩:=h;exact k a0 a1 a2 a3 a4 a5 a6 a7 a8 a9
theorem wr{aq aD aY bZ fS nS:Sort _}{p1 p2:aq->aD->aY->bZ->fS->nS->Prop}{g:Prop}(h:∃v0,∃v1,∃v2,∃v3,∃v4,∃v5,p1 v0 v1 v2 v3 v4 v5/\p2 v0 v1 v2 v3 v4 v5)(k:∀v0,∀v1,∀v2,∀v3,∀v4,∀v5,p1 v0 v1 v2 v3 v4 v5->p2 v0 v1 v2 v3 v4 v5->g):g:=by obtain⟨a0,a1,a2,a3,a4,a5,a6,a7⟩:=h;exact k a0 a1 a2 a3 a4 a5 a6 a7
theorem Q_{l h b d m:Nat}(e:l+d=h)(h2:h<=b)(h3:b<=m):min (l:Int).toNat b-0+d+(min b b-(h:Int).toNat)<=m:=aa ⟨7,0,[.en (.cA 0 1) .v2,.bY 2 3,.bY 3 4,.oo (.an (.ln (.t .c0) .v3) (.en .v5 (.t .c0))) (.an (.no (.ln (.t .c0) .v3)) (.aA 5 3)),.oo (.an (.bY 3 3) (.aA 6 3)) (.an (.no (.bY 3 3)) (.aA 6 3))],.ln (.a (.a (.dK 5 0) .v1) (.s (.v 6) (.t .c2))) .v4⟩ e h2 h3 eK eK
theorem Sw{k:Int}{n:Nat}:max 0 (min k (n:Int))=((min k.toNat n:Nat):Int):=aa ⟨2,3,[.oo (.an (.ak 0 0) (.bM 1 0)) (.an (.no (.ak 0 0)) (.be 1 0)),.oo (.an (.dF 2 0) (.bM 0 2)) (.an (.no (.dF 2 0)) (.fg 0 0)),.oo (.an (.ln (.t .v2) .v0) (.en .v1 (.t .v2))) (.an (.no (.ln (.t .v2) .v0)) (.aA 1 0))],.fg 1 1⟩ nQ pL eK
@[elab_as_elim] theorem av {α:Sort _} {P:α->Prop} {a a':α} (h1:a=a') (k:P a'):P a:=by subst h1;exact k
@[elab_as_elim] theorem k4 {α β:Sort _} {P:α->β->Prop} {a a':α} {b b':β} (h1:a=a') (h2:b=b') (k:P a' b'):P a b:=by subst h1;subst h2;exact k
@[elab_as_elim] theorem Ra {α β γ:Sort _} {P:α->β->γ->Prop} {a a':α} {b b':β} {c c':γ} (h1:a=a') (h2:b=b') (h3:c=c') (k:P a' b' c'):P a b c:=by subst h1;subst h2;subst h3;exact k
theorem bj{p1 p2 p3:Prop}(h1:p1)(h2:p2)(h3:p3):p1/\p2/\p3:=⟨h1,h2,h3⟩
theorem l7{p1 p2 p3 p4:Prop}(h1:p1)(h2:p2)(h3:p3)(h4:p4):p1/\p2/\p3/\p4:=⟨h1,h2,h3,h4⟩
theorem mW{aq aD:Sort _}{p1 p2:Prop}{p3 p4:aq->aD->Prop}(h1:p1)(h2:p2)(v0:aq)(v1:aD)(h3:p3 v0 v1)(h4:p4 v0 v1):p1/\p2/\∃v0,∃v1,p3 v0 v1/\p4 v0 v1:=⟨h1,h2,v0,v1,h3,h4⟩
theorem tr{aq aD:Sort _}{p1 p2:Prop}{p3 p4 p5:aq->aD->Prop}(h1:p1)(h2:p2)(v0:aq)(v1:aD)(h3:p3 v0 v1)(h4:p4 v0 v1)(h5:p5 v0 v1):p1/\p2/\∃v0,∃v1,p3 v0 v1/\p4 v0 v1/\p5 v0 v1:=⟨h1,h2,v0,v1,h3,h4,h5⟩
theorem dc{aq:Sort _}{p1:Prop}{p2 p3:aq->Prop}(h1:p1)(v0:aq)(h2:p2 v0)(h3:p3 v0):p1/\∃v0,p2 v0/\p3 v0:=⟨h1,v0,h2,h3⟩
theorem m_{aq:Sort _}{p1:Prop}{p2 p3 p4:aq->Prop}(h1:p1)(v0:aq)(h2:p2 v0)(h3:p3 v0)(h4:p4 v0):p1/\∃v0,p2 v0/\p3 v0/\p4 v0:=⟨h1,v0,h2,h3,h4⟩
theorem lP{aq aD:Sort _}{p1:Prop}{p2 p3 p4:aq->aD->Prop}(h1:p1)(v0:aq)(v1:aD)(h2:p2 v0 v1)(h3:p3 v0 v1)(h4:p4 v0 v1):p1/\∃v0,∃v1,p2 v0 v1/\p3 v0 v1/\p4 v0 v1:=⟨h1,v0,v1,h2,h3,h4⟩
theorem Bv{aq aD aY bZ:Sort _}{p1:Prop}{p2 p3 p4:aq->aD->Prop}{p5:aq->aD->aY->bZ->Prop}(h1:p1)(v0:aq)(v1:aD)(h2:p2 v0 v1)(h3:p3 v0 v1)(h4:p4 v0 v1)(v2:aY)(v3:bZ)(h5:p5 v0 v1 v2 v3):p1/\∃v0,∃v1,p2 v0 v1/\p3 v0 v1/\p4 v0 v1/\∃v2,∃v3,p5 v0 v1 v2 v3:=⟨h1,v0,v1,h2,h3,h4,v2,v3,h5⟩
theorem iV{aq aD aY:Sort _}{p1:Prop}{p2 p3:aq->aD->aY->Prop}(h1:p1)(v0:aq)(v1:aD)(v2:aY)(h2:p2 v0 v1 v2)(h3:p3 v0 v1 v2):p1/\∃v0,∃v1,∃v2,p2 v0 v1 v2/\p3 v0 v1 v2:=⟨h1,v0,v1,v2,h2,h3⟩
theorem vO{aq aD aY bZ fS:Sort _}{p1:Prop}{p2 p3 p4 p5:aq->aD->aY->bZ->Prop}{p6:aq->aD->aY->bZ->fS->Prop}(h1:p1)(v0:aq)(v1:aD)(v2:aY)(v3:bZ)(h2:p2 v0 v1 v2 v3)(h3:p3 v0 v1 v2 v3)(h4:p4 v0 v1 v2 v3)(h5:p5 v0 v1 v2 v3)(v4:fS)(h6:p6 v0 v1 v2 v3 v4):p1/\∃v0,∃v1,∃v2,∃v3,p2 v0 v1 v2 v3/\p3 v0 v1 v2 v3/\p4 v0 v1 v2 v3/\p5 v0 v1 v2 v3/\∃v4,p6 v0 v1 v2 v3 v4:=⟨h1,v0,v1,v2,v3,h2,h3,h4,h5,v4,h6⟩
theorem iE{aq:Sort _}{p1:aq->Prop}(v0:aq)(h1:p1 v0):∃v0,p1 v0:=⟨v0,h1⟩
theorem ah{aq:Sort _}{p1 p2:aq->Prop}(v0:aq)(h1:p1 v0)(h2:p2 v0):∃v0,p1 v0/\p2 v0:=⟨v0,h1,h2⟩
theorem cz{aq:Sort _}{p1 p2 p3:aq->Prop}(v0:aq)(h1:p1 v0)(h2:p2 v0)(h3:p3 v0):∃v0,p1 v0/\p2 v0/\p3 v0:=⟨v0,h1,h2,h3⟩
theorem Ms{aq:Sort _}{p1 p2 p3 p4 p5 p6:aq->Prop}(v0:aq)(h1:p1 v0)(h2:p2 v0)(h3:p3 v0)(h4:p4 v0)(h5:p5 v0)(h6:p6 v0):∃v0,p1 v0/\p2 v0/\p3 v0/\p4 v0/\p5 v0/\p6 v0:=⟨v0,h1,h2,h3,h4,h5,h6⟩
theorem eA{aq aD:Sort _}{p1 p2:aq->Prop}{p3:aq->aD->Prop}(v0:aq)(h1:p1 v0)(h2:p2 v0)(v1:aD)(h3:p3 v0 v1):∃v0,p1 v0/\p2 v0/\∃v1,p3 v0 v1:=⟨v0,h1,h2,v1,h3⟩
theorem Ka{aq aD:Sort _}{p1 p2:aq->Prop}{p3 p4 p5 p6 p7:aq->aD->Prop}(v0:aq)(h1:p1 v0)(h2:p2 v0)(v1:aD)(h3:p3 v0 v1)(h4:p4 v0 v1)(h5:p5 v0 v1)(h6:p6 v0 v1)(h7:p7 v0 v1):∃v0,p1 v0/\p2 v0/\∃v1,p3 v0 v1/\p4 v0 v1/\p5 v0 v1/\p6 v0 v1/\p7 v0 v1:=⟨v0,h1,h2,v1,h3,h4,h5,h6,h7⟩
theorem xF{aq aD:Sort _}{p1:aq->Prop}{p2 p3:aq->aD->Prop}(v0:aq)(h1:p1 v0)(v1:aD)(h2:p2 v0 v1)(h3:p3 v0 v1):∃v0,p1 v0/\∃v1,p2 v0 v1/\p3 v0 v1:=⟨v0,h1,v1,h2,h3⟩
theorem wg{aq aD aY bZ:Sort _}{p1:aq->Prop}{p2 p3 p4 p5:aq->aD->aY->bZ->Prop}(v0:aq)(h1:p1 v0)(v1:aD)(v2:aY)(v3:bZ)(h2:p2 v0 v1 v2 v3)(h3:p3 v0 v1 v2 v3)(h4:p4 v0 v1 v2 v3)(h5:p5 v0 v1 v2 v3):∃v0,p1 v0/\∃v1,∃v2,∃v3,p2 v0 v1 v2 v3/\p3 v0 v1 v2 v3/\p4 v0 v1 v2 v3/\p5 v0 v1 v2 v3:=⟨v0,h1,v1,v2,v3,h2,h3,h4,h5⟩
theorem AF{aq aD aY bZ fS nS:Sort _}{p1:aq->Prop}{p2 p3 p4 p5 p6:aq->aD->aY->bZ->fS->nS->Prop}(v0:aq)(h1:p1 v0)(v1:aD)(v2:aY)(v3:bZ)(v4:fS)(v5:nS)(h2:p2 v0 v1 v2 v3 v4 v5)(h3:p3 v0 v1 v2 v3 v4 v5)(h4:p4 v0 v1 v2 v3 v4 v5)(h5:p5 v0 v1 v2 v3 v4 v5)(h6:p6 v0 v1 v2 v3 v4 v5):∃v0,p1 v0/\∃v1,∃v2,∃v3,∃v4,∃v5,p2 v0 v1 v2 v3 v4 v5/\p3 v0 v1 v2 v3 v4 v5/\p4 v0 v1 v2 v3 v4 v5/\p5 v0 v1 v2 v3 v4 v5/\p6 v0 v1 v2 v3 v4 v5:=⟨v0,h1,v1,v2,v3,v4,v5,h2,h3,h4,h5,h6⟩
theorem mw{aq aD:Sort _}{p1:aq->aD->Prop}(v0:aq)(v1:aD)(h1:p1 v0 v1):∃v0,∃v1,p1 v0 v1:=⟨v0,v1,h1⟩
theorem co{aq aD:Sort _}{p1 p2:aq->aD->Prop}(v0:aq)(v1:aD)(h1:p1 v0 v1)(h2:p2 v0 v1):∃v0,∃v1,p1 v0 v1/\p2 v0 v1:=⟨v0,v1,h1,h2⟩
theorem jo{aq aD:Sort _}{p1 p2 p3 p4:aq->aD->Prop}(v0:aq)(v1:aD)(h1:p1 v0 v1)(h2:p2 v0 v1)(h3:p3 v0 v1)(h4:p4 v0 v1):∃v0,∃v1,p1 v0 v1/\p2 v0 v1/\p3 v0 v1/\p4 v0 v1:=⟨v0,v1,h1,h2,h3,h4⟩
theorem IN{aq aD aY bZ fS:Sort _}{p1:aq->aD->Prop}{p2 p3 p4 p5 p6 p7:aq->aD->aY->bZ->fS->Prop}(v0:aq)(v1:aD)(h1:p1 v0 v1)(v2:aY)(v3:bZ)(v4:fS)(h2:p2 v0 v1 v2 v3 v4)(h3:p3 v0 v1 v2 v3 v4)(h4:p4 v0 v1 v2 v3 v4)(h5:p5 v0 v1 v2 v3 v4)(h6:p6 v0 v1 v2 v3 v4)(h7:p7 v0 v1 v2 v3 v4):∃v0,∃v1,p1 v0 v1/\∃v2,∃v3,∃v4,p2 v0 v1 v2 v3 v4/\p3 v0 v1 v2 v3 v4/\p4 v0 v1 v2 v3 v4/\p5 v0 v1 v2 v3 v4/\p6 v0 v1 v2 v3 v4/\p7 v0 v1 v2 v3 v4:=⟨v0,v1,h1,v2,v3,v4,h2,h3,h4,h5,h6,h7⟩
theorem Ew{aq aD aY:Sort _}{p1 p2:aq->aD->aY->Prop}(v0:aq)(v1:aD)(v2:aY)(h1:p1 v0 v1 v2)(h2:p2 v0 v1 v2):∃v0,∃v1,∃v2,p1 v0 v1 v2/\p2 v0 v1 v2:=⟨v0,v1,v2,h1,h2⟩
theorem t3{aq aD aY:Sort _}{p1 p2 p3:aq->aD->aY->Prop}(v0:aq)(v1:aD)(v2:aY)(h1:p1 v0 v1 v2)(h2:p2 v0 v1 v2)(h3:p3 v0 v1 v2):∃v0,∃v1,∃v2,p1 v0 v1 v2/\p2 v0 v1 v2/\p3 v0 v1 v2:=⟨v0,v1,v2,h1,h2,h3⟩
theorem gI{aq aD aY:Sort _}{p1 p2 p3 p4:aq->aD->aY->Prop}(v0:aq)(v1:aD)(v2:aY)(h1:p1 v0 v1 v2)(h2:p2 v0 v1 v2)(h3:p3 v0 v1 v2)(h4:p4 v0 v1 v2):∃v0,∃v1,∃v2,p1 v0 v1 v2/\p2 v0 v1 v2/\p3 v0 v1 v2/\p4 v0 v1 v2:=⟨v0,v1,v2,h1,h2,h3,h4⟩
theorem Bw{aq aD aY:Sort _}{p1 p2 p3 p4 p5 p6:aq->aD->aY->Prop}(v0:aq)(v1:aD)(v2:aY)(h1:p1 v0 v1 v2)(h2:p2 v0 v1 v2)(h3:p3 v0 v1 v2)(h4:p4 v0 v1 v2)(h5:p5 v0 v1 v2)(h6:p6 v0 v1 v2):∃v0,∃v1,∃v2,p1 v0 v1 v2/\p2 v0 v1 v2/\p3 v0 v1 v2/\p4 v0 v1 v2/\p5 v0 v1 v2/\p6 v0 v1 v2:=⟨v0,v1,v2,h1,h2,h3,h4,h5,h6⟩
theorem B8{aq aD aY bZ:Sort _}{p1 p2 p3:aq->aD->aY->Prop}{p4:aq->aD->aY->bZ->Prop}(v0:aq)(v1:aD)(v2:aY)(h1:p1 v0 v1 v2)(h2:p2 v0 v1 v2)(h3:p3 v0 v1 v2)(v3:bZ)(h4:p4 v0 v1 v2 v3):∃v0,∃v1,∃v2,p1 v0 v1 v2/\p2 v0 v1 v2/\p3 v0 v1 v2/\∃v3,p4 v0 v1 v2 v3:=⟨v0,v1,v2,h1,h2,h3,v3,h4⟩
theorem CY{aq aD aY bZ:Sort _}{p1:aq->aD->aY->Prop}{p2 p3:aq->aD->aY->bZ->Prop}(v0:aq)(v1:aD)(v2:aY)(h1:p1 v0 v1 v2)(v3:bZ)(h2:p2 v0 v1 v2 v3)(h3:p3 v0 v1 v2 v3):∃v0,∃v1,∃v2,p1 v0 v1 v2/\∃v3,p2 v0 v1 v2 v3/\p3 v0 v1 v2 v3:=⟨v0,v1,v2,h1,v3,h2,h3⟩
theorem wR{aq aD aY bZ:Sort _}{p1 p2 p3:aq->aD->aY->bZ->Prop}(v0:aq)(v1:aD)(v2:aY)(v3:bZ)(h1:p1 v0 v1 v2 v3)(h2:p2 v0 v1 v2 v3)(h3:p3 v0 v1 v2 v3):∃v0,∃v1,∃v2,∃v3,p1 v0 v1 v2 v3/\p2 v0 v1 v2 v3/\p3 v0 v1 v2 v3:=⟨v0,v1,v2,v3,h1,h2,h3⟩
theorem wt{aq aD aY bZ:Sort _}{p1 p2 p3 p4:aq->aD->aY->bZ->Prop}(v0:aq)(v1:aD)(v2:aY)(v3:bZ)(h1:p1 v0 v1 v2 v3)(h2:p2 v0 v1 v2 v3)(h3:p3 v0 v1 v2 v3)(h4:p4 v0 v1 v2 v3):∃v0,∃v1,∃v2,∃v3,p1 v0 v1 v2 v3/\p2 v0 v1 v2 v3/\p3 v0 v1 v2 v3/\p4 v0 v1 v2 v3:=⟨v0,v1,v2,v3,h1,h2,h3,h4⟩
theorem Bx{aq aD aY bZ:Sort _}{p1 p2 p3 p4 p5:aq->aD->aY->bZ->Prop}(v0:aq)(v1:aD)(v2:aY)(v3:bZ)(h1:p1 v0 v1 v2 v3)(h2:p2 v0 v1 v2 v3)(h3:p3 v0 v1 v2 v3)(h4:p4 v0 v1 v2 v3)(h5:p5 v0 v1 v2 v3):∃v0,∃v1,∃v2,∃v3,p1 v0 v1 v2 v3/\p2 v0 v1 v2 v3/\p3 v0 v1 v2 v3/\p4 v0 v1 v2 v3/\p5 v0 v1 v2 v3:=⟨v0,v1,v2,v3,h1,h2,h3,h4,h5⟩
theorem Jo{aq aD aY bZ fS:Sort _}{p1 p2 p3 p4 p5:aq->aD->aY->bZ->fS->Prop}(v0:aq)(v1:aD)(v2:aY)(v3:bZ)(v4:fS)(h1:p1 v0 v1 v2 v3 v4)(h2:p2 v0 v1 v2 v3 v4)(h3:p3 v0 v1 v2 v3 v4)(h4:p4 v0 v1 v2 v3 v4)(h5:p5 v0 v1 v2 v3 v4):∃v0,∃v1,∃v2,∃v3,∃v4,p1 v0 v1 v2 v3 v4/\p2 v0 v1 v2 v3 v4/\p3 v0 v1 v2 v3 v4/\p4 v0 v1 v2 v3 v4/\p5 v0 v1 v2 v3 v4:=⟨v0,v1,v2,v3,v4,h1,h2,h3,h4,h5⟩
theorem K5{aq aD aY bZ fS nS:Sort _}{p1 p2:aq->aD->aY->bZ->fS->nS->Prop}(v0:aq)(v1:aD)(v2:aY)(v3:bZ)(v4:fS)(v5:nS)(h1:p1 v0 v1 v2 v3 v4 v5)(h2:p2 v0 v1 v2 v3 v4 v5):∃v0,∃v1,∃v2,∃v3,∃v4,∃v5,p1 v0 v1 v2 v3 v4 v5/\p2 v0 v1 v2 v3 v4 v5:=⟨v0,v1,v2,v3,v4,v5,h1,h2⟩
section
open PySem.Sem (wp)
noncomputable def eF:LP:=⟨1,0,[],.pI 0 0⟩
noncomputable def f8:LP:=⟨1,0,[.aJ 0 1000000],.aS 0 16777216⟩
noncomputable def gW:LP:=⟨0,1,[.ak 1 0],.ak 0 0⟩
noncomputable def jF:LP:=⟨1,0,[.aJ 0 900],.aJ 0 1000000⟩
noncomputable def jG:LP:=⟨1,0,[.aS 0 3],.aJ 0 1000000⟩
noncomputable def kr:LP:=⟨3,0,[.aA 0 1,.bg 2 0],.bg 2 1⟩
noncomputable def lq:LP:=⟨1,1,[.dP 0 0,.aL 0 16],.aJ 0 900⟩
noncomputable def mx:LP:=⟨2,1,[.aL 0 16,.fg 0 0],.ln (.a (.a (.aj 1 1) .v0) (.k 1)) (.aj 1 20)⟩
noncomputable def nT:LP:=⟨1,1,[.aL 0 16,.dP 0 0],.aJ 0 1000000⟩
noncomputable def pN:LP:=⟨0,1,[.ak 0 0],.no (.bh 0 0)⟩
noncomputable def o_:LP:=⟨2,0,[.aS 0 4,.aA 1 0],.aS 1 4⟩
noncomputable def ra:LP:=⟨3,0,[.bg 0 1,.aA 1 2],.bg 0 2⟩
noncomputable def rc:LP:=⟨1,0,[],.no (.fp 0 0)⟩
noncomputable def re:LP:=⟨1,0,[.aJ 0 64],.aS 0 16777216⟩
noncomputable def rf:LP:=⟨1,0,[.no (.aJ 0 2)],.gj 2 0⟩
noncomputable def rg:LP:=⟨2,0,[],.en (.a (.aj 0 1) .v1) (.a .v0 (.aj 1 1))⟩
noncomputable def rh:LP:=⟨1,1,[.an (.ak 0 0) (.eJ 0 0)],.tn (.t .v0) .v0⟩
noncomputable def ri:LP:=⟨0,1,[.aL 0 3],.bh 0 1000000000000⟩
noncomputable def rj:LP:=⟨1,1,[.dP 0 0,.an (.ak 1 0) (.aL 0 4)],.gj 1 0⟩
noncomputable def rk:LP:=⟨0,1,[.aL 0 16],.bh 0 1000⟩
noncomputable def uv:LP:=⟨3,0,[.en (.cA 0 1) .v2,.bg 1 2],.tn (.dK 0 1) .v0⟩
noncomputable def uw:LP:=⟨3,0,[.en (.cA 0 1) .v2,.bg 1 2],.en (.a (.dK 0 1) (.aj 1 1)) .v2⟩
noncomputable def ux:LP:=⟨2,0,[.bg 0 1],.tn (.dK 0 1) .v1⟩
noncomputable def uy:LP:=⟨0,1,[.ak 1 0],.lz (.k 0) (.aj 0 1)⟩
noncomputable def uz:LP:=⟨1,0,[],.tz (.k (-1000000000000)) .c0⟩
noncomputable def uA:LP:=⟨0,1,[.no (.bh 0 0)],.ak 0 0⟩
noncomputable def uB:LP:=⟨1,0,[.aS 0 4],.pJ 0 4⟩
noncomputable def uC:LP:=⟨2,1,[.dP 0 0,.dP 1 0],.aA 1 0⟩
noncomputable def uD:LP:=⟨0,1,[.aL 0 3],.ln (.t .v0) (.k 3)⟩
noncomputable def uE:LP:=⟨0,1,[.ak 1 0],.ez .v0 (.c (.t .v0))⟩
noncomputable def uF:LP:=⟨3,0,[.bg 0 1,.aA 2 1],.bg 0 2⟩
noncomputable def uG:LP:=⟨0,1,[.ak 1 0],.c_ (-1000000000000) 0⟩
noncomputable def uH:LP:=⟨2,0,[.no (.bg 0 1)],.bY 1 0⟩
noncomputable def uI:LP:=⟨1,1,[.dP 0 0,.aL 0 16],.aJ 0 1000000⟩
noncomputable def uJ:LP:=⟨3,0,[.d7 0 3,.d7 1 3,.bg 2 0],.bg 2 1⟩
noncomputable def ym:LP:=⟨3,0,[.tn (.a (.a .v0 (.m 8 .v1)) (.k 20)) .v2],.tn (.aj 0 1) .v2⟩
noncomputable def yn:LP:=⟨2,0,[.tn (.cA 0 1) (.k 1000000)],.ln (.cA 0 1) (.k 16777216)⟩
noncomputable def yo:LP:=⟨0,1,[.ak 0 0],.c_ (-1000000000000) 0⟩
noncomputable def yp:LP:=⟨1,1,[.dP 0 0,.be 0 4],.aJ 0 900⟩
noncomputable def yq:LP:=⟨2,0,[.aA 0 1],.lj 0 1⟩
noncomputable def yr:LP:=⟨1,1,[.dP 0 0,.an (.ak 1 0) (.aL 0 4)],.aS 0 4⟩
noncomputable def yt:LP:=⟨1,3,[.an (.ak 0 0) (.an (.cj 0 1) (.dP 0 2)),.aL 1 3],.an (.ak 0 0) (.tz .v0 (.c (.k 3)))⟩
noncomputable def yu:LP:=⟨1,0,[.aS 0 3],.aJ 0 900⟩
noncomputable def yv:LP:=⟨1,0,[.aS 0 3],.aS 0 3⟩
noncomputable def yw:LP:=⟨0,1,[.ak 0 0],.lz (.k 0) (.aj 0 1)⟩
noncomputable def yx:LP:=⟨0,1,[.c_ 0 0],.no (.be 0 0)⟩
noncomputable def yy:LP:=⟨2,0,[.aS 0 4,.aA 1 0],.aS 1 20⟩
noncomputable def yz:LP:=⟨1,0,[.aS 0 4],.aJ 0 1000000⟩
noncomputable def yA:LP:=⟨1,1,[.aL 0 16,.fg 0 0],.aS 0 16⟩
noncomputable def yB:LP:=⟨1,0,[.aJ 0 0],.ff⟩
noncomputable def yC:LP:=⟨0,2,[.aL 0 16,.oo (.an (.be 1 16) (.aL 0 8)) (.an (.be 1 24) (.c_ 8 0))],.cj 0 1⟩
noncomputable def yD:LP:=⟨2,0,[.lj 0 1],.aA 0 1⟩
noncomputable def yE:LP:=⟨3,0,[.aS 0 4,.ln .v1 (.m 12 .v2),.aA 2 0],.aS 1 48⟩
noncomputable def yF:LP:=⟨1,0,[.aJ 0 600000],.tn (.a (.aj 0 1) (.k 1)) (.k 800000)⟩
noncomputable def FF:LP:=⟨3,0,[.tn (.a .v0 (.m 3 (.aj 1 1))) .v2],.tn (.a (.aj 0 1) (.m 3 .v1)) .v2⟩
noncomputable def FG:LP:=⟨3,0,[.en (.cA 0 1) .v2,.no (.bg 1 2)],.aA 1 2⟩
noncomputable def FH:LP:=⟨3,0,[.en (.cA 0 1) .v2,.bY 2 1],.aA 1 2⟩
noncomputable def FI:LP:=⟨1,0,[.aS 0 100],.ln .v0 (.a (.k 16777216) (.k 1))⟩
noncomputable def FJ:LP:=⟨2,3,[.oo (.an (.ak 0 0) (.bM 1 0)) (.an (.no (.ak 0 0)) (.be 1 0)),.oo (.an (.dF 2 0) (.bM 0 2)) (.an (.no (.dF 2 0)) (.fg 0 0)),.oo (.an (.ln (.t .v2) .v0) (.en .v1 (.t .v2))) (.an (.no (.ln (.t .v2) .v0)) (.aA 1 0))],.en (.t .v1) .v1⟩
noncomputable def FK:LP:=⟨2,0,[.bg 0 1],.no (.aA 0 1)⟩
noncomputable def FL:LP:=⟨1,1,[.dF 0 0],.ln (.t .v0) .v0⟩
noncomputable def FM:LP:=⟨2,0,[.bY 0 1],.ln .v0 (.aj 1 1)⟩
noncomputable def FN:LP:=⟨3,0,[.en (.aj 0 1) .v1,.bg 1 2],.bg 0 2⟩
noncomputable def FO:LP:=⟨3,0,[.tn (.a (.a .v0 (.m 8 .v1)) (.k 20)) .v2],.tn (.a (.aj 0 1) (.k 5)) .v2⟩
noncomputable def FP:LP:=⟨0,1,[.an (.ak 8 0) (.bh 0 2000)],.no (.be 0 0)⟩
noncomputable def FQ:LP:=⟨0,1,[.ak 1 0],.lz (.m 1 (.k 8)) (.aj 0 7)⟩
noncomputable def FR:LP:=⟨0,1,[.aL 0 16],.tz (.aj 0 7) (.m 3 (.k 8))⟩
noncomputable def FS:LP:=⟨0,1,[.ak 1 0,.bh 0 1],.ff⟩
noncomputable def FT:LP:=⟨1,0,[],.lz (.k 0) (.m 8 .c0)⟩
noncomputable def FU:LP:=⟨0,1,[.ak 0 0,.no (.ak 0 0)],.ff⟩
noncomputable def FV:LP:=⟨1,1,[.dP 0 0,.lz .v0 (.m 4 (.k 3))],.aJ 0 900⟩
noncomputable def FW:LP:=⟨0,1,[.aL 0 3],.ln (.t .v0) (.k 1000)⟩
noncomputable def FX:LP:=⟨0,1,[.ak 1 0],.c_ 0 0⟩
noncomputable def FY:LP:=⟨1,0,[.gj 1 0],.lz (.k 0) (.mv 0 1)⟩
noncomputable def FZ:LP:=⟨2,0,[.aS 0 4,.aA 1 0],.aJ 1 1000000⟩
noncomputable def F0:LP:=⟨1,3,[.aL 0 3,.an (.ak 0 1) (.an (.cj 1 0) (.dP 0 2))],.an (.ak 0 1) (.tz .v1 (.c (.k 3)))⟩
noncomputable def F1:LP:=⟨1,1,[.eJ 0 0],.dF 0 0⟩
noncomputable def F2:LP:=⟨0,1,[.ak 0 0,.no (.be 0 0)],.lz (.k 0) (.dK 0 1)⟩
noncomputable def F3:LP:=⟨1,1,[.f6 0 0,.aL 0 3],.aJ 0 900⟩
noncomputable def F4:LP:=⟨2,3,[.eJ 0 0,.an (.ak 0 0) (.an (.cj 0 1) (.dP 1 2))],.tn (.t .v0) .v0⟩
noncomputable def F5:LP:=⟨0,1,[.ak 1 0],.lz (.c (.k 0)) .v0⟩
noncomputable def F6:LP:=⟨0,1,[.aL 0 3],.aL 0 3⟩
noncomputable def F7:LP:=⟨0,1,[.ak 0 0],.ak 0 0⟩
noncomputable def F8:LP:=⟨0,1,[.ak 1 0],.no (.ez (.aj 0 1) (.k 0))⟩
noncomputable def F9:LP:=⟨0,3,[.ak 0 0,.oo (.an (.bM 0 1) (.be 2 0)) (.an (.no (.bM 0 1)) (.ez .v2 (.aj 0 1)))],.ak 0 2⟩
noncomputable def F_:LP:=⟨1,0,[.pJ 0 4],.aJ 0 900⟩
noncomputable def Ga:LP:=⟨2,0,[.bY 0 1,.no (.aA 0 1)],.bg 0 1⟩
noncomputable def Gb:LP:=⟨0,1,[.c_ 0 0],.ak 0 0⟩
noncomputable def Gc:LP:=⟨1,0,[.lh 0 0],.tz (.k 0) .c0⟩
noncomputable def Ge:LP:=⟨1,0,[.aJ 0 900000],.aJ 0 1000000⟩
noncomputable def Gf:LP:=⟨0,1,[.ak 0 0],.lz (.k 1) (.eU 1 0)⟩
noncomputable def Gg:LP:=⟨0,1,[.ak 1 0],.ez (.c (.t .v0)) .v0⟩
noncomputable def Gh:LP:=⟨0,1,[.ak 1 0],.tz (.k 0) (.aj 0 1)⟩
noncomputable def Gi:LP:=⟨0,1,[.aL 0 3],.tz (.aj 0 1) (.k 1000000)⟩
noncomputable def Gj:LP:=⟨2,0,[.ln (.aj 0 1) .v1],.bY 0 1⟩
noncomputable def Gk:LP:=⟨2,0,[.bg 0 1],.i9 0 1⟩
noncomputable def Gl:LP:=⟨1,0,[.aJ 0 800000],.aJ 0 900000⟩
noncomputable def Gm:LP:=⟨1,0,[.aJ 0 800000],.tn (.aj 0 1) (.k 900000)⟩
noncomputable def Gn:LP:=⟨2,1,[.aJ 0 800000,.aL 0 16,.fg 0 1],.tn (.a (.aj 0 1) .v1) (.k 1000000)⟩
noncomputable def Go:LP:=⟨0,2,[.ak 0 0,.no (.bh 1 0)],.en (.t (.a (.w .v1 4) .v0)) (.a (.w (.t .v1) 4) (.t .v0))⟩
noncomputable def Ex:LP:=⟨2,0,[.tn .v0 (.aj 1 1),.no (.bg 0 1)],.aA 0 1⟩
noncomputable def Ey:LP:=⟨3,0,[.d7 0 3,.d7 1 3,.oo (.an (.bY 0 1) (.aA 2 0)) (.an (.no (.bY 0 1)) (.aA 2 1))],.d7 2 3⟩
noncomputable def Ez:LP:=⟨1,1,[.aL 0 3,.iC 0 0],.pJ 0 3⟩
noncomputable def EB:LP:=⟨1,0,[.d7 0 3],.aS 0 3⟩
noncomputable def EC:LP:=⟨0,2,[.cj 0 1,.bM 1 0],.ff⟩
noncomputable def ED:LP:=⟨0,0,[],.ln (.k 0) (.k 3)⟩
noncomputable def EE:LP:=⟨2,0,[.no (.aA 0 1)],.no (.lj 0 1)⟩
noncomputable def EF:LP:=⟨0,1,[.oo (.be 0 16) (.be 0 24)],.c_ 0 0⟩
noncomputable def EG:LP:=⟨0,2,[.ak 0 0,.cj 0 1],.ak 0 1⟩
noncomputable def EH:LP:=⟨0,2,[.oo (.an (.be 0 16) (.aL 1 8)) (.an (.be 0 24) (.c_ 8 1))],.oo (.be 0 16) (.be 0 24)⟩
noncomputable def EI:LP:=⟨0,3,[.cj 0 1,.cj 1 2],.cj 0 2⟩
noncomputable def EJ:LP:=⟨0,2,[],.ez (.s (.cA 0 1) .v0) .v1⟩
noncomputable def EK:LP:=⟨1,0,[.d7 0 1],.aJ 0 1000000⟩
noncomputable def EL:LP:=⟨1,0,[],.tn .v0 (.aj 0 1)⟩
noncomputable def EM:LP:=⟨1,0,[.aJ 0 12],.fp 0 12⟩
noncomputable def EN:LP:=⟨2,0,[.i9 0 1],.bg 0 1⟩
noncomputable def EO:LP:=⟨1,0,[.aS 0 48],.aJ 0 1000000⟩
noncomputable def EP:LP:=⟨2,0,[.tz .c0 (.mv 1 1)],.bg 0 1⟩
noncomputable def EQ:LP:=⟨2,0,[.tz .c0 (.mv 1 1)],.tn (.aj 0 1) .v1⟩
noncomputable def ER:LP:=⟨4,0,[.aS 0 4,.bY 1 0,.oo (.an (.bY 2 1) (.aA 3 2)) (.an (.no (.bY 2 1)) (.aA 3 1))],.aJ 3 1000⟩
noncomputable def ET:LP:=⟨1,0,[],.ln (.a (.a (.aj 0 1) (.k 1)) (.k 20)) (.aj 0 70)⟩
noncomputable def EU:LP:=⟨2,0,[.aJ 0 500000,.fp 1 10],.tn (.a .v0 (.m 70 .v1)) (.k 600000)⟩
noncomputable def EV:LP:=⟨1,0,[.fp 0 10],.ln (.aj 0 1) (.k 10)⟩
noncomputable def EW:LP:=⟨0,0,[],.ln (.k 0) (.k 4)⟩
noncomputable def EX:LP:=⟨3,0,[.aS 0 4,.aA 0 1,.aA 2 1],.aS 2 4⟩
theorem gT{g:Prop}(h:∀P:Prop,(g->P)->P):g:=h g id
theorem Q7{P:Prop}(h:let g:=P;g):P:=h
noncomputable abbrev aH:Program:=PySem.Challenge.pw_pq1005_01
noncomputable def gf:Code->Bool
 |.builtin id _=>Builtin.Bytes.decodersThatHold.contains id
 |_=>false
def Nd(Γ:Ctx):Prop:=gf Γ.code=false/\∀c∈Γ.below,gf c.1=false
def ag{α:Type}(w:World)(A:Around)(t:Sem α)(Q:α->SP)(E:VS)(s:Shared):Prop:=∀Γ p,Γ.In A->Nd Γ->wp (model aH w) Γ t (λa U s'=>Q a s') (λe U s'=>E e s') p s
def cw(w:World)(A:Around)(c:Code)(R:Result->SP)(s:Shared):Prop:=∀Γ p,Γ.code=c->Γ.Below A->Nd Γ->wpCode (model aH w) Γ R p s
section
variable{α β:Type}{w:World}{A:Around}{E:VS}{s:Shared}
def wK{α β:Type}(M:Model)(A:Around)(f:α->Sem β)(Q:β->SP)(E:VS):α->SP:=λa s'=>wpAny M A (f a) Q E s'
theorem wB{α β:Type}{M:Model}{A:Around}{m:Sem α}{f:α->Sem β}{Q:β->SP}{E:VS}{s:Shared}(h:wpAny M A m (wK M A f Q E) E s):wpAny M A (m>>=f) Q E s:=wpAny_bind h
theorem wF{α:Type}{M:Model}{A:Around}{c:Prop}{i:Decidable c}{a b:Sem α}{Q:α->SP}{E:VS}{s:Shared}(hc:¬c)(h:wpAny M A b Q E s):wpAny M A (ite c a b) Q E s:=by rw[if_neg hc];exact h
theorem wT{α:Type}{M:Model}{A:Around}{c:Prop}{i:Decidable c}{a b:Sem α}{Q:α->SP}{E:VS}{s:Shared}(hc:c)(h:wpAny M A a Q E s):wpAny M A (ite c a b) Q E s:=by rw[if_pos hc];exact h
theorem aP{t:Sem α}{Q:α->SP}(h:wpAny (model aH w) A t Q E s):ag w A t Q E s:=λΓ p cQ U=>h Γ p cQ
theorem zi{c:Code}{R:Result->SP}(h:codeAny (model aH w) A c R s):cw w A c R s:=λΓ p hc cQ U=>h Γ p hc cQ
theorem ay{t:Sem α}{Q Q':α->SP}{E':VS}(h:ag w A t Q E s)(hQ:∀a s,Q a s->Q' a s)(hE:∀e s,E e s->E' e s):ag w A t Q' E' s:=λΓ p cQ hn=>Sem.wp_mono _ Γ t (λa U s=>hQ a s) (λe U s=>hE e s) p s (h Γ p cQ hn)
theorem aO{a:α}{Q:α->SP}(h:Q a s):ag w A (pure a) Q E s:=λU U U U=>h
theorem ja{t:Sem α}{a:α}{Q:α->SP}(h:t=pure a)(hQ:Q a s):ag w A t Q E s:=h▸aO hQ
theorem cg{m:Sem α}{f:α->Sem β}{Q:β->SP}(h:ag w A m (λa s'=>ag w A (f a) Q E s') E s):ag w A (m>>=f) Q E s:=λΓ p cQ hn=>by simp only[Sem.wp_bind'];exact Sem.wp_mono _ Γ m (λa p' s' h'=>h' Γ p' cQ hn) (λU U U h'=>h') p s (h Γ p cQ hn)
def nK(w:World)(A:Around)(f:α->Sem β)(Q:β->SP)(E:VS):α->SP:=λa s'=>ag w A (f a) Q E s'
theorem nB{m:Sem α}{f:α->Sem β}{Q:β->SP}(h:ag w A m (nK w A f Q E) E s):ag w A (m>>=f) Q E s:=cg h
theorem mX{m:Sem α}{k:Value->Sem Unit}{Q:α->SP}(h:ag w A m Q (λe s'=>ag w A (k e) (λU eg=>E e eg) E s') s):ag w A (m.onRaise k) Q E s:=λΓ p cQ hn=>by simp only[Sem.wp_onRaise];exact Sem.wp_mono _ Γ m (λU U U h'=>h') (λe p' s' h'=>h' Γ p' cQ hn) p s (h Γ p cQ hn)
theorem wu{m:Sem α}{Q:Except Value α->SP}(h:ag w A m (λa=>Q (.ok a)) (λe=>Q (.error e)) s):ag w A m.attempt Q E s:=λΓ p cQ hn=>by rw[Sem.wp_attempt];exact h Γ p cQ hn
theorem b9{vs:LV}{m:Sem α}{Q:α->SP}(h:ag w A m Q E s):ag w A (holding vs m) Q E s:=λΓ p cQ hn=>by rw[Sem.wp_holding];exact h Γ p cQ hn
theorem jp{pos:Pos}{Q:Unit->SP}(h:Q () s):ag w A (standAt pos) Q E s:=aP (wpAny_standAt h)
theorem Nd.enter{Γ:Ctx}{c:Code}{h:Option Value}{p:Pos}(hn:Nd Γ)(hc:gf c=false):Nd (Γ.enter c h p):=⟨hc,λx hx=>by
 rcases List.mem_cons.mp hx with rfl|hx
 ·exact hn.1
 ·exact hn.2 x hx⟩
theorem Nd.goto{Γ:Ctx}{c:Code}(hn:Nd Γ)(hc:gf c=false):Nd (Γ.goto c):=⟨hc,hn.2⟩
theorem uK{c:Code}{h:Option Value}{Q:Flow->SP}(hc:cw w (A.mark h) c (λr s'=>match r with|.ok f=>Q f s'|.error e=>E e s') s)(hd:gf c=false)(pO:h≠some byPass):
  ag w A (run c h) Q E s:=λΓ p cQ hn=>by
 rw[Sem.wp_run];exact hc _ p rfl (cQ.enter c h p pO) (hn.enter hd)
theorem Kb{c:Code}{Q:VS}(hc:cw w A c (λr s'=>match r with|.ok (.ret v)=>Q v s'|.ok _=>False|.error e=>E e s') s)(hd:gf c=false:=by rfl):ag w A (runValue c) Q E s:=λΓ p cQ hn=>by rw[Sem.wp_runValue];exact hc _ p rfl (cQ.enter c none p (by intro x;cases x)) (hn.enter hd)
theorem j3{f:Value}{pos:LV}{kw:List (Str×Value)}{Q:VS}(hc:cw w A (.call f ⟨pos,kw⟩) (λr s'=>match r with|.ok (.ret v)=>Q v s'|.ok _=>False|.error e=>E e s') s):ag w A (call f pos kw) Q E s:=Kb hc
theorem j4{c:Code}{R R':Result->SP}(h:cw w A c R s)(hR:∀r s,R r s->R' r s):cw w A c R' s:=λΓ p hc cQ hn=>wpCode_mono hR (h Γ p hc cQ hn)
theorem hU{c:Code}{R:Result->SP}(h:ag w (A.under c) ((model aH w).den c) (λfin s'=>match fin with|.done f=>R (.ok f) s'|.again c'=>gf c'=false/\c'.quiet=true/\cw w A c' R s') (λe s'=>R (.error e) s') s):cw w A c R s:=λΓ p hc cQ hn=>by
 rw[wpCode_iff_wp,hc];refine Sem.wp_mono _ Γ _ (λfin p' s' h'=>?_) (λU U U h'=>h') p s (h Γ p (hc▸cQ.in) hn)
 cases fin with
 |done f=>exact h'
 |again c'=>exact⟨h'.2.1,h'.2.2 (Γ.goto c') p' rfl (cQ.goto c') (hn.goto h'.1)⟩
theorem EY{c:Code}{R:Result->SP}(hq:c.quiet=true)(hd:gf c=false)(I:Nat->SP)
  (eB:∀n s,I n s->ag w (A.under c) ((model aH w).den c) (λfin s'=>match fin with|.done f=>R (.ok f) s'|.again c'=>c'=c/\∃m,m<n/\I m s') (λe s'=>R (.error e) s') s)
  (n:Nat)(h:I n s):cw w A c R s:=by
 induction n using Nat.strongRecOn generalizing s with
 |ind n ih=>
  refine hU (ay (eB n s h) (λfin s' hf=>?_) λU U h'=>h')
  cases fin with
  |done f=>exact hf
  |again c'=>obtain⟨rfl,m,hm,hI⟩:=hf;exact(bj hd hq (ih m hm hI))
theorem oR{env:Env}{m:Sem α}{Q:α->SP}(h:ag w A m Q (notedBy (model aH w) A env E) s):ag w A (m.onRaise λx=>do noteFrame x env;theTreesLotGoes x) Q E s:=mX (ay h (λU U q=>q) λU U hx=>aP (wB (wpAny_mono hx (λU U e=>wpAny_theTreesLotGoes e) λU U e=>e)))
theorem PV{body:List Stmt}{env:Env}{R:Result->SP}(h:ag w (A.deeper env) (execs body env) (λf s'=>R (.ok (.ret (match f with|.ret v=>v|_=>.none))) s')
   (λe s'=>wpAny (model aH w) (A.deeper env) (leaving env e) (λU eg=>R (.error e) eg) (λe' eg=>R (.error e') eg) s') s):cw w A (.func body env) R s:=by
 refine hU ?_;refine nB (aP (wpAny_point (nB (mX (ay h (λf s' h'=>?_) λU U h'=>aP h')))))
 cases f<;>exact aO h'
noncomputable def G3 (b:FuncBody) (env:Env):Code:=match b with
 |.stmts b=>.func b env
 |.expr e=>.expr e env
theorem CZ{a:Addr}{args:Args}{o:Obj}{fd:FuncData}{body:Env->Code}{R:Result->SP}(xG:A.depth<recursionLimit)(ho:s.heap.get? a=some o)
  (ei:o.data=.func fd)(Sx:fd.scope.isCoroutine=false)(Rb:fd.scope.isGenerator=false)(PW:∀env,G3 fd.body env=body env)(rF:s.heap.CodeRec fd.code fd.qualname)
  (h:wpAny (model aH w) A.in1 (bindArgs fd args) (λEZ am=>wpAny (model aH w) A.in1 (newFunctionEnv fd.scope fd.globals fd.closure EZ (fd.qualname++".<locals>.") (some a) fd.code none fd.builtins)
    (λenv bn=>bn.heap.NoLimit/\cw w A (body env) R bn) (λe s'=>R (.error e) s') am) (λe s'=>R (.error e) s') s):
  cw w A (.call (.ref a) args) R s:=by
 refine hU ?_;refine aP ?_;refine wpAny_bind (wpAny_load ho ?_);refine lL rF λc oc vs tq hc rG Sy hq=>?_;rw[ei];dsimp only;unfold callFunction;rw[Sx,Rb,hc];rw[hc] at h;refine wpAny_bind (m:=field (.ref c) 1) (wpAny_field rG Sy hq (wpAny_bind (wP ?_)))
 exact wB (wpAny_mono h (λEZ am aW=>wB (wpAny_mono aW (λenv bn b_=>wB (wpAny_enterFrame b_.1 xG
  (wP (bj (by cases fd.body<;>rfl) (by cases fd.body<;>rfl) (show cw w A (G3 fd.body env) R _ by rw[PW];exact b_.2))))) λU U h'=>h')) λU U h'=>h')
end
end
section
open PySem.Sem (wp)
section
variable{α β:Type}{w:World}{A:Around}{E:VS}{s:Shared}{env:Env}
theorem bJ{m:Sem α}{f:α->Sem β}{Q:β->SP}{Q1:α->SP}(h:ag w A m Q1 E s)(k:∀a s',Q1 a s'->ag w A (f a) Q E s'):ag w A (m>>=f) Q E s:=cg (ay h k λU U x=>x)
theorem dh{pos:Pos}{f:Unit->Sem α}{Q:α->SP}(h:ag w A (f ()) Q E s):ag w A (standAt pos>>=f) Q E s:=nB (jp h)
theorem qt{vs:LV}{m:Sem Value}{Q:VS}(h:ag w A m Q E s):ag w A (operate vs m) Q E s:=λΓ p cQ hn=>by rw[Sem.wp_operate];exact h Γ p cQ hn
theorem B9{vs keep:LV}{Q:Unit->SP}(h:Q () s):ag w A (release vs keep) Q E s:=λΓ p U U=>by rw[Sem.wp_release];exact h
theorem wh{x:Str}{v:Value}{Q:Unit->SP}(h:ag w A (storeName env x v) Q E s):ag w A (bindName env x v) Q E s:=λΓ p cQ hn=>by rw[Sem.wp_bindName];exact h Γ p cQ hn
theorem PX{x:Str}{pos:Pos}{Q:VS}(h:ag w A (loadName env x) Q E s)(hd:(x==("__debug__":Str))=false):ag w A (eval (.Name x pos) env) Q E s:=by rw[eval_Name env x pos hd];exact dh h
theorem N2{d0:List Expr}{k:Nat}{pos:Pos}{Q:VS}(h:ag w A (spliced (backTo pos (starEach d0 env))) (λvs am=>vs.length<=sizeLine/\Q (.ref am.heap.objs.size) {am with heap:=am.heap.push {cls:=.type "tuple",data:=.seq vs.toArray}}) E s):
  ag w A (eval (.Tuple d0 k pos) env) Q E s:=by
 exact dh (bJ h λvs am aW=>aP (wpAny_newObj_type aW.2 (by show vs.toArray.size<=sizeLine;rw[size_toArray];exact aW.1)))
theorem PY{d0:List Expr}{pos:Pos}{Q:VS}(h:ag w A (spliced (backTo pos (starEach d0 env))) (λvs am=>vs.length<=sizeLine/\Q (.ref am.heap.objs.size) {am with heap:=am.heap.push {cls:=.type "list",data:=.seq vs.toArray}}) E s):
  ag w A (eval (.List d0 pos) env) Q E s:=by
 exact dh (bJ h λvs am aW=>aP (wpAny_newObj_type aW.2 (by show vs.toArray.size<=sizeLine;rw[size_toArray];exact aW.1)))
theorem PZ{e:Expr}{rest:List Expr}{pos:Pos}{Q:LV->SP}(h:ag w A (eval e env) (λv am=>ag w A (spliced (backTo pos (starEach rest env))) (λvs bn=>Q (v::vs) bn) E am) E s)
  (he:starEach (e::rest) env=(false,eval e env)::starEach rest env):ag w A (spliced (backTo pos (starEach (e::rest) env))) Q E s:=by
 rw[he];show ag w A (spliced ((false,eval e env)::backTo pos (starEach rest env))) Q E s;rw[spliced];refine bJ h λv am aW=>?_;exact nB (aO (nB (b9 (ay aW (λvs bn b_=>aO b_) λU U x=>x))))
theorem N3{qN qO step:Option Expr}{p:Pos}{Q:VS}(h:ag w A (evalPart qN env) (λl am=>ag w A (evalPart qO env) (λu bn=>ag w A (evalPart step env) (λst cL=>Q (.ref cL.heap.objs.size) {cL with heap:=cL.heap.push {cls:=.type "slice",data:=.fields #[l,u,st]}}) E bn) E am) E s):ag w A (eval (.Slice qN qO step p) env) Q E s:=by
 exact bJ h λl am aW=>bJ (b9 aW) λu bn b_=>bJ (b9 b_) λst cL eS=>aP (wpAny_newObj_type eS)
theorem N4{hZ body gc:Expr}{pos:Pos}{Q:VS}(h:ag w A (isTrue hZ env (eval hZ env)) (λb am=>if b then ag w A (eval body env) Q E am else ag w A (eval gc env) Q E am) E s):ag w A (eval (.IfExp hZ body gc pos) env) Q E s:=by
 simp only[arm_eval_IfExp];refine bJ h λb am aW=>?_
 cases b<;>exact aW
theorem DS{op:UnaryOp}{x:Expr}{pos:Pos}{Q:VS}(h:ag w A (eval x env) (λv am=>ag w A (unaryOp op v) Q E am) E s):ag w A (eval (.UnaryOp op x pos) env) Q E s:=by exact bJ h λv am aW=>dh (b9 aW)
theorem Rc{l:Expr}{op:Operator}{r:Expr}{pos:Pos}{Q:VS}(h:ag w A (eval l env) (λa am=>ag w A (eval r env) (λb bn=>ag w A (binaryOp op a b) Q E bn) E am) E s):ag w A (eval (.BinOp l op r pos) env) Q E s:=by exact bJ h λa am aW=>bJ (b9 aW) λb bn b_=>dh (qt b_)
theorem Kc{l:Expr}{op:CmpOp}{r:Expr}{pos:Pos}{Q:VS}(h:ag w A (eval l env) (λa am=>ag w A (eval r env) (λb bn=>ag w A (compareOp op a b) Q E bn) E am) E s)(hm:behindInMarks op r=false):ag w A (eval (.Compare l [op] [r] pos) env) Q E s:=by rw[eval_Compare1,markedBehindIn_of_false hm];exact bJ h λa am aW=>bJ (b9 aW) λb bn b_=>dh (qt b_)
theorem K6{x:Expr}{pos:Pos}{fM:Sem Value}{Q:Bool->SP}(h:ag w A (isTrue x env (eval x env)) (λb am=>Q (!b) am) E s):ag w A (isTrue (.UnaryOp .Not x pos) env fM) Q E s:=by exact bJ h λb am aW=>aO aW
theorem ID{l:Expr}{op:CmpOp}{r:Expr}{pos:Pos}{fM:Sem Value}{Q:Bool->SP}(h:ag w A (eval l env) (λa am=>ag w A (eval r env) (λb bn=>ag w A (compareOp op a b) (λc cL=>ag w A (truthy c) Q E cL) E bn) E am) E s)(hm:behindInMarks op r=false):
  ag w A (isTrue (.Compare l [op] [r] pos) env fM) Q E s:=by
 rw[isTrue_Compare1,markedBehindIn_of_false hm];exact bJ h λa am aW=>bJ (b9 aW) λb bn b_=>dh (bJ (qt b_) λc cL eS=>b9 eS)
theorem B'{x:Expr}{rest:List Expr}{pos:Pos}{fM:Sem Value}{Q:Bool->SP}(h:ag w A (isTrue x env (eval x env)) (λc s'=>if c then ag w A (isTrue (.BoolOp .And rest pos) env fM) Q E s' else Q false s') E s):ag w A (isTrue (.BoolOp .And (x::rest) pos) env fM) Q E s:=by
 show ag w A (do
  match BoolOp.And,←isTrue x env (eval x env) with
  |.And,false=>pure false
  |.Or,true=>pure true
  |_,_=>allTrue .And rest env) Q E s
 refine bJ h λc s' h'=>?_
 cases c with
 |false=>exact aO h'
 |true=>exact h'
theorem C1{x:Expr}{rest:List Expr}{pos:Pos}{fM:Sem Value}{Q:Bool->SP}(h:ag w A (isTrue x env (eval x env)) (λc s'=>if c then Q true s' else ag w A (isTrue (.BoolOp .Or rest pos) env fM) Q E s') E s):ag w A (isTrue (.BoolOp .Or (x::rest) pos) env fM) Q E s:=by
 show ag w A (do
  match BoolOp.Or,←isTrue x env (eval x env) with
  |.And,false=>pure false
  |.Or,true=>pure true
  |_,_=>allTrue .Or rest env) Q E s
 refine bJ h λc s' h'=>?_
 cases c with
 |false=>exact h'
 |true=>exact aO h'
theorem Re{v:Value}{Q:VS}(h:ag w A (truthy v) (λc s'=>Q (.bool (!c)) s') E s):ag w A (unaryOp .Not v) Q E s:=by refine b9 ?_;exact bJ (m:=truthy v) h λc s' h'=>aO h'
theorem G4{hZ:Expr}{body gc:List Stmt}{pos:Pos}{Q:Flow->SP}(h:ag w A (isTrue hZ env (eval hZ env)) (λb bn=>if b then ag w A (execs body env) Q E bn else ag w A (execs gc env) Q E bn) E s):ag w A (exec (.If hZ body gc pos) env) Q E s:=by
 refine dh (bJ h λb bn b_=>?_)
 cases b<;>exact b_
theorem xf{st:Stmt}{rest:List Stmt}{Q:Flow->SP}(h:ag w A (exec st env) (λf s'=>match f with|.next=>ag w A (execs rest env) Q E s'|f=>Q f s') E s):ag w A (execs (st::rest) env) Q E s:=by
 rw[execs_cons];refine bJ h λf s' h'=>?_
 cases f with
 |next=>exact h'
 |_=>exact aO h'
theorem P1{e:Expr}{pos:Pos}{Q:Flow->SP}(h:ag w A (eval e env) (λU=>Q .next) E s)(hi:interactive env=false)(hs:swapsWith e none pos.line env=pure false):ag w A (exec (.Expr e pos) env) Q E s:=by rw[exec_Expr env e pos hi hs];exact dh (bJ h λv s' h'=>aP (wpAny_dropValue h'))
theorem C2{e:Expr}{pos:Pos}{Q:Flow->SP}(h:ag w A (eval e env) (λv=>Q (.ret v)) E s):ag w A (exec (.Return (some e) pos) env) Q E s:=by simp only[exec_Return_some];exact dh (bJ h λv s' h'=>aO h')
theorem AS{x:Str}{jz:Pos}{value:Expr}{pos:Pos}{Q:Flow->SP}(h:ag w A (eval value env) (λv am=>ag w A (storeName env x v) (λU=>Q .next) E am) E s)(hs:swapsWith value (some (.Name x jz)) pos.line env=pure false):
  ag w A (exec (.Assign [.Name x jz] value pos) env) Q E s:=by
 rw[exec_Assign_Name env x jz value pos hs];exact dh (bJ h λv am aW=>dh (bJ (wh aW) λU U q=>aO q))
theorem IY{o:Expr}{i4:Str}{jz:Pos}{value:Expr}{pos:Pos}{Q:Flow->SP}(h:ag w A (eval value env) (λv am=>ag w A (eval o env) (λov bn=>ag w A (setAttr ov i4 v) (λU=>Q .next) E bn) E am) E s)
  (hs:swapsWith value (some (.Attribute o i4 jz)) pos.line env=pure false):ag w A (exec (.Assign [.Attribute o i4 jz] value pos) env) Q E s:=by
 rw[plainObj_exec_Assign_Attribute o i4 jz value pos hs];refine dh (bJ h λv am aW=>?_);exact nB (bJ (b9 aW) λov bn b_=>dh (bJ (b9 b_) λU U q=>B9 (aO q)))
theorem vY{o i:Expr}{jz:Pos}{value:Expr}{pos:Pos}{Q:Flow->SP}(h:ag w A (eval value env) (λv am=>ag w A (eval o env) (λov bn=>ag w A (eval i env) (λiv cL=>ag w A (setItem ov iv v) (λU=>Q .next) E cL) E bn) E am) E s)
  (hs:swapsWith value (some (.Subscript o i jz)) pos.line env=pure false):ag w A (exec (.Assign [.Subscript o i jz] value pos) env) Q E s:=by
 rw[exec_Assign_Subscript o i jz value pos hs];refine dh (bJ h λv am aW=>?_);rw[assign_Subscript];exact nB (bJ (b9 aW) λov bn b_=>bJ (b9 b_) λiv cL eS=>dh (bJ (b9 eS) λU U q=>B9 (aO q)))
theorem wv{x:Str}{pos:Pos}{v:Value}{Q:Unit->SP}(h:ag w A (storeName env x v) Q E s):ag w A (assign (.Name x pos) env v) Q E s:=by rw[arm_assign_Name];exact dh (wh h)
theorem B_{t:Value->Sem Unit}{ts:List (Value->Sem Unit)}{x:Value}{xs:LV}{Q:Unit->SP}(h:ag w A (t x) (λU am=>ag w A (assignInOrder ts xs) Q E am) E s):ag w A (assignInOrder (t::ts) (x::xs)) Q E s:=nB (b9 h)
theorem N5{hZ:Expr}{body gc:List Stmt}{pos:Pos}{Q:Flow->SP}(h:cw w A (.whileLoop hZ body gc env) (λr s'=>match r with|.ok f=>Q f s'|.error e=>cameBackBy (model aH w) A env E e s') s):ag w A (exec (.While hZ body gc pos) env) Q E s:=by refine dh ?_;exact mX (ay (uK h rfl nofun) (λU U x=>x) λU U x=>aP x)
theorem Rf{eI iter:Expr}{body gc:List Stmt}{pos:Pos}{Q:Flow->SP}(h:ag w A (eval iter env) (λx am=>ag w A (pyIter x) (λit bn=>cw w A (.forLoop eI it body gc env) (λr s'=>match r with|.ok f=>Q f s'|.error e=>cameBackBy (model aH w) A env E e s') bn) E am) E s)(hs:∀x,foldedSetIterable iter env x=pure x):ag w A (exec (.For eI iter body gc pos) env) Q E s:=by
 refine dh (bJ h λx am aW=>nB (ja (hs x) (dh (bJ (b9 aW) λit bn b_=>?_))));exact mX (ay (uK b_ rfl nofun) (λU U x=>x) λU U x=>aP x)
end
end
section
open PySem.Sem (wp)
section
variable{α β:Type}{w:World}{A:Around}{E:VS}{s:Shared}{env:Env}
theorem P2{value:Expr}{i4:Str}{pos:Pos}{Q:VS}
  (h:ag w A (eval value env) (λo am=>ag w A (getAttr o i4 true) Q E am) E s)
  (he:eval (.Attribute value i4 pos) env=(do
   let o ←eval value env
   standAt pos.atName
   let r ←holding [o] (getAttr o i4 true)
   letTemporaryGo value o r
   pure r)):ag w A (eval (.Attribute value i4 pos) env) Q E s:=by
 rw[he];exact bJ h λo am aW=>dh (bJ (b9 aW) λr bn b_=>nB (aP (wpAny_letTemporaryGo (aO b_))))
theorem uL{value slice pos}{Q:VS}
  (h:ag w A (eval value env) (λo am=>ag w A (eval slice env) (λi bn=>ag w A (subscriptTail value slice o i) Q E bn) E am) E s):
  ag w A (eval (.Subscript value slice pos) env) Q E s:=by
 exact bJ h λo am aW=>bJ (b9 aW) λi bn b_=>dh b_
theorem xg{func:Expr}{args:List Expr}{pos:Pos}{Q:VS}
  (h:ag w A (eval func env) (λf am=>ag w A (callWith pos f [] (backTo pos (starEach args env)) []) Q E am) E s)
  (he:eval (.Call func args [] pos) env=(do callWith pos (←eval func env) [] (backTo pos (starEach args env)) (backToKw pos (keywordEach [] env)))):
  ag w A (eval (.Call func args [] pos) env) Q E s:=by
 rw[he];exact nB h
theorem Mt{o:Expr}{name:Str}{g5 pos:Pos}{args:List Expr}{pl:Sem Bool}{Q:VS}
  (h:ag w A (eval o env) (λov am=>ag w A (getMethod ov name pl) (λfx bn=>ag w A (callWith pos fx.1 fx.2 (backTo pos (starEach args env)) []) Q E bn) E am) E s)
  (he:eval (.Call (.Attribute o name g5) args [] pos) env=(do
   let ov ←eval o env
   standAt g5.atName
   let(f,first) ←holding [ov] (getMethod ov name pl)
   callWith pos f first (backTo pos (starEach args env)) [])):
  ag w A (eval (.Call (.Attribute o name g5) args [] pos) env) Q E s:=by
 rw[he];exact bJ h λov am aW=>dh (bJ (b9 aW) λfx bn b_=>b_)
theorem qo{f:Value}{trees:List (Bool×Sem Value)}{Q:Args->SP}(hp:trees.any (·.1)=false)
  (h:ag w A (spliced trees) (λvs am=>Q ⟨vs,[]⟩ am) E s):ag w A (evalArgs f true trees []) Q E s:=by
 cases trees with
 |nil=>refine bJ h λvs am aW=>nB (aO (b9 ?_));exact nB (aO (nB (aO (aO aW))))
 |cons p r=>
  obtain⟨b,x⟩:=p
  cases b with
  |true=>cases hp
  |false=>refine bJ h λvs s' h'=>b9 ?_;exact nB (aO (nB (aO (aO h'))))
theorem qP{t:Sem Value}{Q:VS}(ht:ag w A t Q E s):ag w A (t>>=λr=>holding [r] point>>=λU=>pure r) Q E s:=bJ ht λr bn hr=>nB (b9 (aP (wpAny_point (aO hr))))
theorem P3{vs:LV}{m:Sem α}{Q:α->SP}(h:ag w A m Q E s):ag w A (m.keep vs) Q E s:=λΓ p cQ hn=>by rw[Sem.wp_keep];exact h Γ p cQ hn
theorem vZ{P:Heap->Prop}{f:Value}{first:LV}{pos:Pos}{Q:VS}{args:List (Bool×Sem Value)}{qu:List (Option Str×Sem Value)}(qF:(args.any (·.1)||qu.any (·.1.isNone))=false)
  (hk:∀h,P h->∃k,(k=Keeper.frame\/k=Keeper.machine\/k=Keeper.boundFrame)/\Looks (model aH w) h (keeperOf f) k)
  (h:ag w A (evalArgs f true args qu) (λa am=>P am.heap/\ag w A (call f (first++a.pos) a.kw) Q E am) E s):ag w A (callWith pos f first args qu) Q E s:=by
 refine bJ (b9 h) λa am aW=>dh ?_;refine ai (hk _ aW.1) λk jH L=>?_;rw[qF];refine cg (aP (L.here ?_));have marked (mk:Value):ag w A (callMarked mk f (first++a.pos) a.kw) Q E am:=by unfold callMarked;exact P3 aW.2
 have o (mk:Value):ag w A (if args.length+2*qu.length>30 then(call f (first++a.pos) a.kw>>=λr=>holding [r] point>>=λU=>pure r) else(callMarked mk f (first++a.pos) a.kw>>=λr=>holding [r] point>>=λU=>pure r)) Q E am:=by
  by_cases c:args.length+2*qu.length>30
  ·rw[if_pos c];exact qP aW.2
  ·rw[if_neg c];exact qP (marked _)
 rcases jH with rfl|rfl|rfl<;>first|exact qP aW.2|exact o _
theorem Jp{pos:Pos}{id:String}{first:LV}{args:List (Bool×Sem Value)}{Q:VS}(qF:args.any (·.1)=false)
  (h:ag w A (evalArgs (.builtin id) true args []) (λa am=>ag w A (call (.builtin id) (first++a.pos) a.kw) Q E am) E s):
  ag w A (callWith pos (.builtin id) first args []) Q E s:=by
 refine bJ (b9 h) λa am aW=>dh ?_;rw[qF];exact nB (aO (qP aW))
theorem Jq{pos:Pos}{T:String}{first:LV}{args:List (Bool×Sem Value)}{Q:VS}(qF:args.any (·.1)=false)
  (h:ag w A (evalArgs (.type T) true args []) (λa am=>ag w A (call (.type T) (first++a.pos) a.kw) Q E am) E s):
  ag w A (callWith pos (.type T) first args []) Q E s:=by
 refine bJ (b9 h) λa am aW=>dh ?_;rw[qF];exact nB (aO (qP aW))
theorem N6{l jt ju em r₁ r₂ rs pos}{Q:VS}
  (h:ag w A (eval l env) (λa am=>ag w A (compareChain pos a (jt::ju::em) (eval r₁ env::eval r₂ env::evalEach rs env)) Q E am) E s)
  (hm:lastMarks (jt::ju::em) (r₁::r₂::rs)=false):
  ag w A (eval (.Compare l (jt::ju::em) (r₁::r₂::rs) pos) env) Q E s:=by
 show ag w A (do compareChain pos (←eval l env) (jt::ju::em) (markedEach (jt::ju::em) (r₁::r₂::rs) (evalEach (r₁::r₂::rs) env))) Q E s;refine(markedEach_of_false _ _ _ hm)▸?_;exact nB h
theorem Jr{l jt ju em r₁ r₂ rs pos fM}{Q:Bool->SP}
  (h:ag w A (eval l env) (λa am=>ag w A (testChain pos a (jt::ju::em) (eval r₁ env::eval r₂ env::evalEach rs env)) Q E am) E s)
  (hm:lastMarks (jt::ju::em) (r₁::r₂::rs)=false):
  ag w A (isTrue (.Compare l (jt::ju::em) (r₁::r₂::rs) pos) env fM) Q E s:=by
 show ag w A (do testChain pos (←eval l env) (jt::ju::em) (markedEach (jt::ju::em) (r₁::r₂::rs) (evalEach (r₁::r₂::rs) env))) Q E s;refine(markedEach_of_false _ _ _ hm)▸?_;exact nB h
theorem Js{pos:Pos}{a:Value}{op:CmpOp}{r:Sem Value}{Q:VS}
  (h:ag w A r (λb am=>ag w A (compareOp op a b) Q E am) E s):ag w A (compareChain pos a [op] [r]) Q E s:=by
 show ag w A (do
  let rv ←holding [a] r
  standAt pos
  operate [a,rv] (compareOp op a rv)) Q E s
 exact bJ (b9 h) λb am aW=>dh (qt aW)
theorem Kd{pos fM}{Q:Bool->SP}(h:Q true s):ag w A (isTrue (.BoolOp .And [] pos) env fM) Q E s:=aO (a:=true) h
theorem K7{pos fM}{Q:Bool->SP}(h:Q false s):ag w A (isTrue (.BoolOp .Or [] pos) env fM) Q E s:=aO (a:=false) h
end
end
section
open PySem.Sem (wp)
section
variable{α β:Type}{w:World}{A:Around}{E:VS}{s:Shared}{env:Env}{R:Result->SP}
theorem Jt{hZ body gc env}(I:Nat->SP)
  (eB:∀n s,I n s->
   ag w A (isTrue hZ env (eval hZ env)) (λb bn=>
    if b then ag w A (execs body env) (λf cL=>match f with
      |.next|.cont=>∃m,m<n/\I m cL
      |.brk=>R (.ok .next) cL
      |.ret v=>R (.ok (.ret v)) cL) (notedBy (model aH w) A env λe s'=>R (.error e) s') bn
    else ag w A (execs gc env) (λf cL=>R (.ok f) cL) (notedBy (model aH w) A env λe s'=>R (.error e) s') bn)
    (notedBy (model aH w) A env λe s'=>R (.error e) s') s)
  (n:Nat)(h:I n s):cw w A (.whileLoop hZ body gc env) R s:=by
 refine EY rfl rfl I (λn s hI=>?_) n h;refine oR ?_;simp only[whileTurn];refine bJ (eB n s hI) λb bn b_=>?_
 lk
 cases b with
 |false=>simp only[false_eq_true,if_false] at b_⊢;exact bJ b_ λf cL eS=>aO eS
 |true=>
  simp only[if_true] at b_⊢;refine bJ b_ λf cL eS=>?_
  cases f with
  |next=>exact aO ⟨rfl,eS⟩
  |cont=>exact aO ⟨rfl,eS⟩
  |brk=>exact aO eS
  |ret v=>exact aO eS
theorem N7{c:Code}{R:Result->SP}(hq:c.quiet=true)(hd:gf c=false)(I:Nat->SP)
  (eB:∀n s,I n s->ag w (A.under c) ((model aH w).den c) (λfin s'=>match fin with|.done f=>R (.ok f) s'|.again c'=>(c'=c/\∃m,m<n/\I m s')\/(gf c'=false/\c'.quiet=true/\cw w A c' R s')) (λe s'=>R (.error e) s') s)
  (n:Nat)(h:I n s):cw w A c R s:=by
 induction n using Nat.strongRecOn generalizing s with
 |ind n ih=>
  refine hU (ay (eB n s h) (λfin s' hf=>?_) λU U h'=>h')
  cases fin with
  |done f=>exact hf
  |again c'=>
   lk
   rcases hf with⟨rfl,m,hm,hI⟩|hf
   ·exact(bj hd hq (ih m hm hI))
   ·exact hf
theorem N8{stmts:List Stmt}{env:Env}{R:Result->SP}
  (h:ag w A (execs stmts env) (λf s'=>R (.ok f) s') (notedBy (model aH w) A env λe s'=>R (.error e) s') s):cw w A (.block stmts env) R s:=by
 refine hU ?_;exact nB (oR (ay h (λf s' h'=>aO h') λU U h'=>h'))
theorem K8{eI it body gc env}(I:Nat->SP)
  (eB:∀n s,I n s->ag w A (pyNext it) (λr am=>match r with
   |none=>ag w A (execs gc env) (λf cL=>R (.ok f) cL) (notedBy (model aH w) A env λe s'=>R (.error e) s') am
   |some v=>ag w A (letOwnedTupleGo eI it v) (λU E0=>
     ag w A (assign eI env v) (λU bn=>ag w A (execs body env) (λf cL=>match f with
      |.next|.cont=>∃m,m<n/\I m cL
      |.brk=>R (.ok .next) cL
      |.ret v=>R (.ok (.ret v)) cL) (notedBy (model aH w) A env λe s'=>R (.error e) s') bn) (notedBy (model aH w) A env λe s'=>R (.error e) s') E0) (notedBy (model aH w) A env λe s'=>R (.error e) s') am) (notedBy (model aH w) A env λe s'=>R (.error e) s') s)
  (n:Nat)(h:I n s):cw w A (.forLoop eI it body gc env) R s:=by
 refine N7 rfl rfl I (λn s hI=>?_) n h;refine(?_:ag _ A ((forTurn eI it body gc env).onRaise (λx=>do noteFrame x env;theTreesLotGoes x)) _ _ s);refine oR ?_;simp only[forTurn];refine dh (cg (mX (ay (eB n s hI) (λr am aW=>?_) λU U h'=>jp h')))
 cases r with
 |none=>exact aO (.inr (bj rfl rfl (N8 aW)))
 |some v=>
  refine bJ aW λU E0 P4=>bJ P4 λU bn b_=>bJ b_ λf cL eS=>?_
  cases f with
  |next=>exact aO (.inl ⟨rfl,eS⟩)
  |cont=>exact aO (.inl ⟨rfl,eS⟩)
  |brk=>exact aO eS
  |ret v=>exact aO eS
theorem Mu{t:Addr}{items:Array Value}{tt:List (Bool×(Value->Sem Unit))}{Q:Unit->SP}(hh:A.handled=none)(ht:s.heap.IsTuple t items)
  (hn:tt.length=items.size)(uk:tt.findIdx? (·.1)=none)
  (h:∀h',ExtBut s.heap.objs.size s.heap h'->ag w A (assignInOrder (tt.map (·.2)) items.toList) Q E {s with heap:=h'}):
  ag w A (unpack (.ref t) tt) Q E s:=by
 unfold unpack;refine(hn)▸?_;refine(uk)▸?_;exact nB (b9 (aP (PySem.wpAny_unpackItems_tuple hh ht h)))
theorem K9{d0:List Expr}{x1}{pos:Pos}{t:Addr}{items:Array Value}{Q:Unit->SP}(hh:A.handled=none)(ht:s.heap.IsTuple t items)
  (hn:(assignEach d0 env).length=items.size)(uk:(assignEach d0 env).findIdx? (·.1)=none)
  (h:∀h',ExtBut s.heap.objs.size s.heap h'->ag w A (assignInOrder ((assignEach d0 env).map (·.2)) items.toList) Q E {s with heap:=h'}):
  ag w A (assign (.Tuple d0 x1 pos) env (.ref t)) Q E s:=by
 exact dh (Mu hh ht hn uk h)
theorem Ju{d0 k k7 value pos:_}{Q:Flow->SP}
  (h:ag w A (eval value env) (λv am=>ag w A (assign (.Tuple d0 k k7) env v) (λU=>Q .next) E am) E s)
  (hs:swapsWithSole [.Tuple d0 k k7] value pos.line env=pure false)(hw:swappedStores [.Tuple d0 k k7] value env=pure none):
  ag w A (exec (.Assign [.Tuple d0 k k7] value pos) env) Q E s:=by
 refine dh ?_;rw[hs];refine cg (aO ?_);rw[if_neg (by decide)];refine bJ h λv am aW=>?_;rw[hw];refine nB (aO ?_);exact bJ (m:=assignAll v [assign (.Tuple d0 k k7) env]) aW λU U x=>aO x
theorem IZ{d0 k k7 value pos:_}{names:List Str}{Q:Flow->SP}
  (h:ag w A (eval value env) (λv am=>ag w A (unpackItems v names.length none) (λitems bn=>ag w A (assignInOrder (names.reverse.map λn=>bindName env n) items.reverse) (λU=>Q .next) E bn) E am) E s)
  (hs:swapsWithSole [.Tuple d0 k k7] value pos.line env=pure false)(hw:swappedStores [.Tuple d0 k k7] value env=pure (some names)):
  ag w A (exec (.Assign [.Tuple d0 k k7] value pos) env) Q E s:=by
 refine dh ?_;rw[hs];refine cg (aO ?_);rw[if_neg (by decide)];refine bJ h λv am aW=>?_;rw[hw];refine nB (aO ?_);exact nB (aP (wpAny_rule (bJ aW λitems bn b_=>bJ b_ λU U x=>aO x)))
theorem K'{c:Prop}[Decidable c]{pos:Pos}{k:PUnit->Sem α}{Q:α->SP}(h:ag w A (k ()) Q E s):ag w A (if c then(standAt pos>>=k) else k ()) Q E s:=by
 split
 ·exact dh h
 ·exact h
def E1(w:World)(A:Around)(E:VS)(use:Option (Value->Sem Unit))(Q:VS)(acc:Value)(C:Addr)(r:Result)(s':Shared):Prop:=
 match r,use with
 |.ok _,none=>∃m,s'.heap.Ns C m/\∀h',SameBut C s'.heap h'->Q acc {s' with heap:=h'}
 |.ok _,some u=>ag w A (u acc) (λU eg=>∃m,eg.heap.Ns C m/\∀h',SameBut C eg.heap h'->Q .none {eg with heap:=h'}) E s'
 |.error x,_=>∃m,s'.heap.Ns C m/\∀h',SameBut C s'.heap h'->∀cenv:Env,cenv.locals=C->wpAny (model aH w) A (passOn "comprehension.variables-let-go" x cenv:Sem Value) (λU U=>False) E {s' with heap:=h'}
theorem Bz{e:Expr}{scope:Scope}{pos:Pos}{DT first:Sem Value}{g:Comprehension}{gs:List Comprehension}{cl:List (Str×Addr)}{use:Option (Value->Sem Unit)}
  {Q:VS}
  (fh:clausesOf e=g::gs)(hs:∀x,foldedSetIterable g.iter env x=pure x)(P5:closureFor scope env=pure cl)
  (xH:scope.kind=.function)(N9:∀x∈scope.names,x.2=.local->scope.names.lookup x.1=some .local)
  (h:ag w A first (λx am=>ag w A (pyIter x) (λit bn=>ag w A DT (λacc cL=>
   ag w A (newFunctionEnv scope env.globals cl [] env.qual none .none (some env)) (λcenv nk=>cw w A (.compStart e 0 it acc {cenv with scope:=relabel scope env}) (E1 w A E use Q acc cenv.locals) nk) E cL) E bn) E am) E s):
  ag w A (comprehension e scope env pos DT false first use) Q E s:=by
 unfold comprehension;refine(P5)▸?_;refine(fh)▸?_
 refine bJ h λx am aW=>dh (nB (ja (hs x) (nB (b9 (ay aW (λit bn b_=>K' (bJ b_ λacc cL eS=>nB (aO (bJ eS λcenv nk yG=>?_)))) λU U h'=>h')))))
 dsimp only
 have hv:∀x∈(scope.names.filter λx=>(x.2==.local||x.2==.cell)&&x.1 != (".0":Str)).reverse,x.2=.local->
   Env.kindOf {cenv with scope:=relabel scope env} x.1=some .local:=λx hx hl=>lookup_relabel_local (N9 x (List.mem_filter.mp (List.mem_reverse.mp hx)).1 hl)
 have zj:∀x∈(scope.names.filter λx=>(x.2==.local||x.2==.cell)&&x.1 != (".0":Str)).reverse.drop 1++(scope.names.filter λx=>(x.2==.local||x.2==.cell)&&x.1 != (".0":Str)).reverse.take 1,
   x.2=.local->Env.kindOf {cenv with scope:=relabel scope env} x.1=some .local:=λx hx hl=>by
  lk
  rcases List.mem_append.mp hx with h1|h1
  ·exact hv x (List.mem_of_mem_drop h1) hl
  ·exact hv x (mem_of_mem_take h1) hl
 refine b9 (nB (wu (b9 (uK (j4 yG λr s' hr=>?_) rfl nofun))))
 cases r with
 |ok f=>
  cases use with
  |none=>refine ai hr λm hn hr=>?_;exact nB (b9 (aP (wpAny_comp_letGo (cenv:={cenv with scope:=relabel scope env}) xH _ s' m hv hn λh' m' U fG=>aO (hr h' fG))))
  |some u=>refine nB (aP (wpAny_rule (nB (b9 (ay hr (λU eg rH=>?_) λU U h'=>h')))));refine ai rH λm hn rH=>?_;exact nB (aP (wpAny_comp_letGo (cenv:={cenv with scope:=relabel scope env}) xH _ eg m zj hn λh' m' U fG=>aO (rH h' fG)))
 |error x=>
  have rH:∃m,s'.heap.Ns cenv.locals m/\∀h',SameBut cenv.locals s'.heap h'->∀E3:Env,E3.locals=cenv.locals->wpAny (model aH w) A (passOn "comprehension.variables-let-go" x E3:Sem Value) (λU U=>False) E {s' with heap:=h'}:=by cases use<;>exact hr
  lk
  refine ai rH λm hn hr=>?_;exact nB (b9 (aP (wpAny_comp_letGo (cenv:={cenv with scope:=relabel scope env}) xH _ s' m hv hn λh' m' U fG=>aP (wpAny_mono (hr h' fG _ rfl) (λU U f=>f.elim) λU U y=>y))))
theorem Jv{dy eI iter er rest scope pos it acc env}
  (h0:cw w A (.compLoop (.ListComp dy (⟨eI,iter,er,0⟩::rest) scope pos) 0 it acc env) R s)
  (h:wpAny (model aH w) A (pyIter it) (λnU s'=>cw w A (.compLoop (.ListComp dy (⟨eI,iter,er,0⟩::rest) scope pos) 0 nU acc env) R s')
   (notedBy (model aH w) A env λx s'=>R (.error x) s') s):
  cw w A (.compStart (.ListComp dy (⟨eI,iter,er,0⟩::rest) scope pos) 0 it acc env) R s:=by
 refine hU (aP ?_);refine wpAny_notedAt ?_;refine wB (wpAny_askSetting (wpAny_ite ?_))
 split
 ·first
   |exact wB (wP (wP (bj rfl rfl h0)))
   |exact wP ⟨rfl,rfl,h0⟩
 ·first
   |exact wB (wpAny_rule (wB (wpAny_standAt (wB (wpAny_mono h (λnU s' h'=>wP (bj rfl rfl h')) λU U x=>x)))))
   |(refine wB (wpAny_rule ?_);show wpAny _ _ (standAt iter.pos>>=_) _ _ s;exact wB (wpAny_standAt (wB (wpAny_mono h (λnU s' h'=>wP ⟨rfl,rfl,h'⟩) λU U x=>x))))
end
end
section
open PySem.Sem (wp)
section
variable{w:World}{A:Around}{C:Addr}{R:Result->SP}{h:Heap}{g:Array GenState}{d:Drawn}{t:Nat}{os:OsState}
theorem jv{α:Type}{A:Around}{t:Sem α}{r:α}{Q:α->SP}{E:VS}{h:Heap}{g d tk os}(x:Looks (model aH w) h t r)(q:Q r ⟨h,g,d,tk,os⟩):ag w A t Q E ⟨h,g,d,tk,os⟩:=aP (x.at q)
theorem tu(id:String)(args:Args):gf (.builtin id args)=Builtin.Bytes.decodersThatHold.contains id:=rfl
theorem wS(args:Args):gf (.builtin "type.__call__" args)=false:=by
 rw[tu]
 z_go
theorem qv{id:String}{args:Args}{b:Builtin}{R:Result->SP}{s:Shared}(hb:entryFor table id=some b)(h:ag w (A.under (.builtin id args)) (b args) (λfin s'=>match fin with|.done f=>R (.ok f) s'|.again c'=>gf c'=false/\c'.quiet=true/\cw w A c' R s') (λe s'=>R (.error e) s') s):cw w A (.builtin id args) R s:=by
 refine hU ?_;refine(?_:ag _ _ (match entryFor table id with|some b=>b args|none=>unsupported ((withoutEnding? id "#data").getD id)) _ _ s)
 refine(hb)▸?_;exact h
theorem t4{id:String}{args:Args}{R:Result->SP}{s:Shared}(hq:(Code.builtin id args).quiet=true)(hd:gf (.builtin id args)=false)
  (h:ag w A.in1 (checkBuiltinCall id args) (λU am=>cw w A (.builtin id args) R am) (λe s'=>R (.error e) s') s):cw w A (.call (.builtin id) args) R s:=by
 refine hU ?_;exact bJ h λU am aW=>aO (bj hd hq aW)
theorem de{α:Type}{A:Around}{c:Bool}{a b:Sem α}{Q:α->SP}{E:VS}{s:Shared}(h:ag w A b Q E s)(hc:c=false:=by rfl):ag w A (if c=true then a else b) Q E s:=by subst hc;exact h
theorem P6{rest:LV}{kw:List (Str×Value)}{init:Value}(Y:Makes (model aH w) h C)(hi:Looks (model aH w) h (typeLookup (.ref C) "__init__") (some init))
  (hb:∀self,Looks (model aH w) h (bindSpecial init self) (init,[self]))(dj:(some init != some (Value.builtin "object.__init__"))=true\/(rest=[]/\kw=[]))
  (hq:cw w (A.under (.builtin "type.__call__" ⟨.ref C::rest,kw⟩)) (.call init ⟨.ref (h.objs.size+1)::rest,kw⟩) (InitBack (h.objs.size+1) R) ⟨(h.push emptyDict).push (instObj C h.objs.size),g,d,t,os⟩):
  cw w A (.call (.ref C) ⟨rest,kw⟩) R ⟨h,g,d,t,os⟩:=by
 have Y':=Y
 lk
 obtain⟨⟨oc,od,cd,sl,hC,e1,e2,e4⟩,made,base,self,UO,call,Sz⟩:=Y;refine hU (aP ?_);refine nd_load hC ?_;refine(?_:wpAny _ _ (callAny.viaDunder (.ref C) _) _ _ _);unfold callAny.viaDunder;refine wpAny_bind (call.at ?_);dsimp only;rw[tc_bind];refine wB (wP (wB (wP ?_)));refine wP (a:=Fin.again (.call (.builtin "type.__call__") ⟨.ref C::rest,kw⟩)) (bj rfl rfl (t4 (Code.quiet_builtin _ (by z_go)) (wS _) (aP (check_slot (s:=⟨h,g,d,t,os⟩) tc_kind tc_split Sz (tc_args _ _ _) (qv entry_typeCall ?_)))))
 unfold Builtin.«type.__call__»;refine de ?_;refine nB (jv (((Looks.ld (part:=none) hC).andThen .now).andThen .now:Looks (model aH w) h (mroOf (.ref C)) cd.mro) ?_);refine de ?_ e4;refine nB (jv made ?_);refine nB (aO ?_);refine nB (b9 (j3 ?_));refine zi (new_K Y' hi dj ?_);have k:∀b o,h.get? b=some o->((h.push emptyDict).push (instObj C h.objs.size)).get? b=some o:=λb o e=>get?_push_of_some _ (get?_push_of_some _ e);have t1:Looks (model aH w) ((h.push emptyDict).push (instObj C h.objs.size)) (typeOf (.ref (h.objs.size+1))) (.ref C):=(Looks.ld (show((h.push emptyDict).push (instObj C h.objs.size)).get? (h.objs.size+1)=some (instObj C h.objs.size) by heap_get)).andThen .now;dsimp only;refine nB (m:=isInstance _ _) ?_;unfold isInstance;refine nB (jv t1 (jv (self.keeps k) ?_));refine de ?_;refine nB (b9 ?_);unfold callSpecial? specialOf;refine nB (nB (jv t1 (jv (hi.keeps k) ?_)));refine b9 (nB (jv ((hb (.ref (h.objs.size+1))).keeps k) ?_));refine nB (j3 ?_);refine j4 hq λr s' z=>?_;rcases r with e|(v|_|_|_)<;>first|exact z|exact z.elim|skip
 obtain⟨rfl,z⟩:=z;exact aO (aO z)
end
end
inductive V:Type where
 |none|bool (b:Bool)|int (i:Int)|str (s:Str)|bytes (b:List UInt8)|ref (a:Addr)|type (n:String)|bi (n:String)|eL (lo hi:Int)|tup (xs:List V)
abbrev Zt:=Addr->Option Obj
def Zt.Le(Z Z':Zt):Prop:=∀a o,Z a=some o->Z' a=some o
theorem Zt.Le.refl(Z:Zt):Zt.Le Z Z:=λU U h=>h
theorem Zt.Le.trans{Z Z' u_:Zt}(h:Zt.Le Z Z')(h':Zt.Le Z' u_):Zt.Le Z u_:=λa o e=>h' a o (h a o e)
noncomputable abbrev gL (vs:Array Value) (n:Nat):Obj:={cls:=.type "tuple",data:=.seq vs n}
noncomputable abbrev DU (lo hi st:Value):Obj:={cls:=.type "range",data:=.fields #[lo,hi,st]}
inductive Is(Z:Zt):V->Value->Prop
 |none:Is Z .none .none
 |bool{b}:Is Z (.bool b) (.bool b)
 |int{i t:_}:Is Z (.int i) (.int i t)
 |str{i t:_}:Is Z (.str i) (.str i t)
 |bytes{b t:_}:Is Z (.bytes b) (.bytes b.toArray t)
 |ref{a:_}:Is Z (.ref a) (.ref a)
 |type{n:_}:Is Z (.type n) (.type n)
 |bi{n:_}:Is Z (.bi n) (.builtin n)
 |eL{lo hi a t u v:_}:Z a=some (DU (.int lo t) (.int hi u) (.int 1 v))->Is Z (.eL lo hi) (.ref a)
 |tup{xs vs a n:_}:Z a=some (gL vs n)->vs.toList.length=xs.length->(∀(i:Nat) x v,xs[i]?=some x->vs.toList[i]?=some v->Is Z x v)->Is Z (.tup xs) (.ref a)
theorem Is.mono{Z Z':Zt}(h:Zt.Le Z Z'){x v:_}(i:Is Z x v):Is Z' x v:=by
 induction i with
 |none=>exact .none
 |bool=>exact .bool
 |int=>exact .int
 |str=>exact .str
 |bytes=>exact .bytes
 |ref=>exact .ref
 |type=>exact .type
 |bi=>exact .bi
 |eL e=>exact .eL (h _ _ e)
 |tup e l _ ih=>exact .tup (h _ _ e) l ih
section
variable{Z:Zt}{v:Value}
theorem Is.qQ(h:Is Z .none v):v=.none:=by cases h;rfl
theorem Is.xI{b:Bool}(h:Is Z (.bool b) v):v=.bool b:=by cases h;rfl
theorem Is.e_{i:Int}(h:Is Z (.int i) v):∃t,v=.int i t:=by cases h;exact(iE _ rfl)
theorem Is.rn{i:Str}(h:Is Z (.str i) v):∃t,v=.str i t:=by cases h;exact(iE _ rfl)
theorem Is.kQ{b:By}(h:Is Z (.bytes b) v):∃t,v=.bytes b.toArray t:=by cases h;exact(iE _ rfl)
theorem Is.ce{a:Addr}(h:Is Z (.ref a) v):v=.ref a:=by cases h;rfl
end
inductive aZ(Z:Zt):List V->List Value->Prop
 |nil:aZ Z [] []
 |cons{x v xs vs:_}:Is Z x v->aZ Z xs vs->aZ Z (x::xs) (v::vs)
theorem aZ.mono{Z Z':Zt}(h:Zt.Le Z Z'){x v:_}(i:aZ Z x v):aZ Z' x v:=by
 induction i with
 |nil=>exact .nil
 |cons a _ ih=>exact .cons (a.mono h) ih
inductive aZ.C(Z:Zt)(x:V)(xs:List V):List Value->Prop
 |mk{v vs:_}:Is Z x v->aZ Z xs vs->aZ.C Z x xs (v::vs)
theorem aZ.dN{Z:Zt}{vs:LV}(h:aZ Z [] vs):vs=[]:=by cases h;rfl
theorem aZ.e7{Z:Zt}{x:V}{xs:List V}{vs:LV}(h:aZ Z (x::xs) vs):aZ.C Z x xs vs:=by cases h with|cons a b=>exact⟨a,b⟩
theorem aZ.length{Z}{xs vs:_}(h:aZ Z xs vs):vs.length=xs.length:=by
 induction h with
 |nil=>rfl
 |cons _ _ ih=>exact congrArg (· +1) ih
theorem aZ.get{Z}{xs:List V}{vs:LV}(h:aZ Z xs vs):∀{x:V}{i:Nat},xs[i]?=some x->∃v,vs[i]?=some v/\Is Z x v:=by
 induction h with
 |nil=>intro x i h;cases h
 |cons a _ ih=>
  intro x i h
  cases i with
  |zero=>cases h;exact(ah _ rfl a)
  |succ i=>exact ih h
theorem aZ.append{Z}{xs vs:_}(h:aZ Z xs vs){ys us}(h':aZ Z ys us):aZ Z (xs++ys) (vs++us):=by
 induction h with
 |nil=>exact h'
 |cons a _ ih=>exact .cons a ih
theorem aZ.one{Z}{x:V}{v:Value}(h:Is Z x v):aZ Z [x] [v]:=.cons h .nil
theorem aZ.of{Z}:∀(xs:List V)(vs:LV),vs.length=xs.length->(∀(i:Nat) x v,xs[i]?=some x->vs[i]?=some v->Is Z x v)->aZ Z xs vs:=by
 intro xs
 induction xs with
 |nil=>
  intro vs h _
  cases vs with
  |nil=>exact .nil
  |cons=>cases h
 |cons x xs ih=>
  intro vs h k
  cases vs with
  |nil=>cases h
  |cons v vs=>exact .cons (k 0 x v rfl rfl) (ih vs (Nat.succ.inj h) λi x v a b=>k (i+1) x v a b)
theorem Is.o3{Z}{xs:List V}{vs:Array Value}{a n:_}(e:Z a=some (gL vs n))(h:aZ Z xs vs.toList):Is Z (.tup xs) (.ref a):=.tup e h.length λi x v hx hv=>by obtain⟨u,hu,q⟩:=h.get hx;rw[hv] at hu;cases hu;exact q
theorem Is.cy{Z}{xs:List V}{v:Value}(h:Is Z (.tup xs) v):∃a vs n,v=.ref a/\Z a=some (gL vs n)/\aZ Z xs vs.toList:=by
 lk
 cases h with
 |tup e l k=>exact(t3 _ _ _ rfl e (.of _ _ l k))
inductive fZ(Z:Zt)(P:Params):List (Str×V)->List DictEntry->Prop
 |nil:fZ Z P [] []
 |cons{n x v r es t:_}:Is Z x v->fZ Z P r es->fZ Z P ((n,x)::r) (⟨PyData.keyHash P n,.str n t,v⟩::es)
noncomputable def xJ (P:Params):V->Int
 |.int i=>hashInt i
 |.str s=>PyData.keyHash P s
 |.tup xs=>reduceHash (Builtin.Tuple.tupleHashOf (xs.map λ|.int i=>hashInt i|_=>0))
 |_=>0
inductive f9(Z:Zt)(P:Params):List (V×V)->List DictEntry->Prop
 |nil:f9 Z P [] []
 |cons{k x key v r l:_}:Is Z k key->Is Z x v->f9 Z P r l->f9 Z P ((k,x)::r) (⟨xJ P k,key,v⟩::l)
inductive P0:Type where
 |inst(C d:Addr)
 |d_(attrs:List (Str×V))
 |list(xs:List V)
 |dict(es:List (V×V))(n:Nat)
 |ba(bs:List UInt8)
 |frame(ns:List Str)(vs:List (Option V))
 |cY(v:Option V)
 |raw(p:Zt->Params->Obj->Prop)
noncomputable def lM:List Str->List (Option V)->Str->Option V
 |n::l,v::vs,x=>if x=n then v else lM l vs x
 |_,_,_=>none
def oS(Z:Zt):Option V->Option Value->Prop
 |some v,r=>∃u,r=some u/\Is Z v u
 |none,r=>r=none
def P0.is(Z:Zt)(P:Params):P0->Obj->Prop
 |.inst C d,o=>o=instObj C d
 |.d_ attrs,o=>(attrs.map (·.1)).Nodup/\attrs.length<=100/\∃es n,o=dictOf es n/\fZ Z P attrs es
 |.list xs,o=>∃vs n,o=listOf vs n/\aZ Z xs vs.toList
 |.dict es n,o=>(es.map (·.1)).Nodup/\∃(l:List DictEntry),o=dictOf l n/\f9 Z P es l
 |.ba bs,o=>o=({cls:=.type "bytearray",data:=.bytearray bs.toArray 0}:Obj)
 |.frame names vs,o=>names.length=vs.length/\names.Nodup/\∃es ep,o.data=.dict es ep/\StrKeys es/\∀x,oS Z (lM names vs x) (nsFind es x)
 |.cY v,o=>∃u,o.data=.cell u/\oS Z v u
 |.raw p,o=>(∀Z',Zt.Le Z Z'->p Z' P o)
theorem oS.mono{Z Z':Zt}(h:Zt.Le Z Z'){x v:_}(i:oS Z x v):oS Z' x v:=by
 cases x with
 |none=>exact i
 |some x=>obtain⟨u,e,i⟩:=i;exact(ah u e (i.mono h))
theorem fZ.mono{Z Z':Zt}{P:Params}(h:Zt.Le Z Z'){l es}(x:fZ Z P l es):fZ Z' P l es:=by
 induction x with
 |nil=>exact .nil
 |cons a _ ih=>exact .cons (a.mono h) ih
theorem f9.mono{Z Z':Zt}{P:Params}(h:Zt.Le Z Z'){l es}(x:f9 Z P l es):f9 Z' P l es:=by
 induction x with
 |nil=>exact .nil
 |cons a b _ ih=>exact .cons (a.mono h) (b.mono h) ih
theorem P0.is.mono{Z Z':Zt}{P:Params}(h:Zt.Le Z Z'){c:P0}{o:Obj}(x:c.is Z P o):c.is Z' P o:=by
 lk
 cases c with
 |inst=>exact x
 |d_=>obtain⟨a,b,es,n,e,i⟩:=x;exact(mW a b es n e (i.mono h))
 |list=>obtain⟨vs,n,e,i⟩:=x;exact(co vs n e (i.mono h))
 |dict=>obtain⟨a,es,e,i⟩:=x;exact(dc a es e (i.mono h))
 |ba=>exact x
 |frame=>obtain⟨a,b,es,ep,c,d,i⟩:=x;exact(tr a b es ep c d (λx=>(i x).mono h))
 |cY=>obtain⟨u,e,i⟩:=x;exact(ah u e (i.mono h))
 |raw=>exact λu_ q=>x u_ (h.trans q)
abbrev bF:=List (Addr×P0)
structure Gd where
 w:World
 h₀:Heap
 os:OsState
 exc:Addr->bF->Prop
noncomputable def P0.isFrame:P0->Bool
 |.frame ..=>true
 |_=>false
def uM(o:Obj):Prop:=∀vs,o.data≠.fields vs
def i5(A:Around)(Z:Zt)(h:Heap)(L:bF):Prop:=∃l,A.frames=some l/\∀env∈l,env.scope.kind=.function/\∃f o,env.frame=some f/\(h.get? f=some o/\uM o/\Z f=none)/\∀p∈L,p.1=f->p.2.isFrame=true
theorem i5.mono{A:Around}{Z Z':Zt}{h h':Heap}{L L':bF}(x:i5 A Z h L)(k:∀a o,(h.get? a=some o/\uM o/\Z a=none)->(∀p∈L,p.1=a->p.2.isFrame=true)->(∃o',h'.get? a=some o'/\uM o'/\Z' a=none)/\∀p∈L',p.1=a->p.2.isFrame=true):i5 A Z' h' L':=by
 refine ai x λl e q=>?_;refine(ah l e (λenv he=>?_))
 lk
 refine kP (q env he) λhk f o e1 e2 e3=>?_
 lk
 obtain⟨⟨o',e4⟩,e5⟩:=k f o e2 e3;exact(lP hk f o' e1 e4 e5)
theorem i5.sub{A:Around}{Z:Zt}{h:Heap}{L L':bF}(x:i5 A Z h L)(k:∀p∈L',p∈L):i5 A Z h L':=x.mono λa o e q=>⟨⟨o,e⟩,λp hp=>q p (k p hp)⟩
theorem P0.is.Rg{Z:Zt}{P:Params}{c:P0}{o:Obj}(h:c.is Z P o)(hf:c.isFrame=true):uM o:=by
 cases c with
 |frame=>obtain⟨_,_,es,ep,e,_⟩:=h;intro vs q;rw[e] at q;cases q
 |_=>cases hf
structure St(G:Gd)(A:Around)(Z:Zt)(L:bF)(s:Shared):Prop where
 base:∀b o,G.h₀.get? b=some o->Z b=some o
 keep:∀b o,Z b=some o->s.heap.get? b=some o
 nd:(L.map (·.1)).Nodup
 cells:∀p∈L,Z p.1=none/\∃o,s.heap.get? p.1=some o/\p.2.is Z G.w.params o
 frames:i5 A Z s.heap L
 gens:s.gens=#[]
 os:s.os=G.os
theorem St.toks{G A Z L s t:_}(S:St G A Z L s):St G A Z L {s with toks:=t}:=⟨S.base,S.keep,S.nd,S.cells,S.frames,S.gens,S.os⟩
theorem St.sub{G A Z L L' s:_}(S:St G A Z L s)(h:L'.Sublist L):St G A Z L' s:=⟨S.base,S.keep,(h.map _).nodup S.nd,λq hq=>S.cells q (h.mem hq),S.frames.sub λU=>h.mem,S.gens,S.os⟩
theorem St.perm{G A Z L L' s:_}(S:St G A Z L s)(p:L.Perm L'):St G A Z L' s:=⟨S.base,S.keep,(p.map _).nodup_iff.mp S.nd,λq hq=>S.cells q (p.mem_iff.mpr hq),S.frames.sub λU=>p.mem_iff.mpr,S.gens,S.os⟩
theorem St.h0{G A Z L s:_}(S:St G A Z L s):∀b o,G.h₀.get? b=some o->s.heap.get? b=some o:=λb o e=>S.keep b o (S.base b o e)
inductive Cl:Type where
 |p(c:P0)
 |obj(C:Addr)(attrs:List (Str×V))
 |own(P:Addr->bF->Prop)
noncomputable abbrev Cl.list (xs:List V):Cl:=.p (.list xs)
noncomputable abbrev Cl.dict (xs:List (V×V)) (n:Nat):Cl:=.p (.dict xs n)
noncomputable abbrev Cl.ba (xs:By):Cl:=.p (.ba xs)
def Cl.exp:Addr->Cl->bF->Prop
 |a,.p c,L=>L=[(a,c)]
 |a,.obj C attrs,L=>∃d,L=[(a,.inst C d),(d,.d_ attrs)]
 |a,.own P,L=>P a L
abbrev HL:=List (Addr×Cl)
noncomputable abbrev HP:=HL->Prop
noncomputable abbrev VP:=V->HP
noncomputable abbrev SV:=List (Str×V)
inductive cR:HL->bF->Prop
 |nil:cR [] []
 |cons{a c L L1 L2:_}:Cl.exp a c L1->cR L L2->cR ((a,c)::L) (L1++L2)
def au(G:Gd)(A:Around)(Z:Zt)(L:HL)(H:bF)(s:Shared):Prop:=∃L0,cR L L0/\St G A Z (L0++H) s
theorem cR.append{L L':HL}{a b:bF}(h:cR L a)(h':cR L' b):cR (L++L') (a++b):=by
 induction h with
 |nil=>exact h'
 |cons x _ ih=>rw[append_assoc];exact .cons x ih
theorem cR.split{L L':HL}{c:bF}:cR (L++L') c->∃a b,c=a++b/\cR L a/\cR L' b:=by
 intro h
 induction L generalizing c with
 |nil=>exact⟨[],c,rfl,.nil,h⟩
 |cons p L ih=>
  lk
  cases h with
  |cons x r=>refine j0 (ih r) λa b e h1 h2=>?_;subst e;exact⟨_++a,b,by rw[append_assoc],.cons x h1,h2⟩
theorem cR.perm{L L':HL}(p:L.Perm L'):∀{c:bF},cR L c->∃c',cR L' c'/\c.Perm c':=by
 induction p with
 |nil=>intro c h;exact(ah c h (.refl _))
 |cons x _ ih=>
  intro c h
  cases h with
  |cons y r=>refine ai (ih r) λc' h1 h2=>?_;exact(ah _ (.cons y h1) (.append_left _ h2))
 |swap x y l=>
  intro c h
  cases h with
  |cons a r=>
   cases r with
   |cons b r=>refine(ah _ (.cons b (.cons a r)) ?_);rw[←append_assoc,←append_assoc];exact .append_right _ perm_append_comm
 |trans _ _ zl vb=>
  intro c h
  lk
  refine ai (zl h) λc1 h1 p1=>?_;refine ai (vb h1) λc2 h2 p2=>?_;exact(ah c2 h2 (p1.trans p2))
theorem au.perm{G A Z L L' H s:_}(p:Perm L L')(S:au G A Z L H s):au G A Z L' H s:=by
 lk
 refine ai S λc h S=>?_;refine ai (h.perm p) λc' h' q=>?_;exact(ah c' h' (S.perm (.append_right _ q)))
theorem cR.sub{L L':HL}(p:Sublist L' L):∀{c:bF},cR L c->∃c',cR L' c'/\c'.Sublist c:=by
 induction p with
 |slnil=>intro c h;exact(ah c h (.refl _))
 |cons a _ ih=>intro c h;cases h with|cons x r=>obtain⟨c',h',q⟩:=ih r;exact(ah c' h' (q.trans (sublist_append_right ..)))
 |cons_cons a _ ih=>intro c h;cases h with|cons x r=>obtain⟨c',h',q⟩:=ih r;exact(ah _ (.cons x h') (.append_left q _))
theorem au.sub{G A Z L L' H s:_}(p:Sublist L' L)(S:au G A Z L H s):au G A Z L' H s:=by
 lk
 refine ai S λc h S=>?_;refine ai (h.sub p) λc' h' q=>?_;exact(ah c' h' (S.sub (.append_right q _)))
theorem au.toks{G A Z L H s t:_}(S:au G A Z L H s):au G A Z L H {s with toks:=t}:=by obtain⟨c,h,S⟩:=S;exact(ah c h S.toks)
theorem au.h0{G A Z L H s:_}(S:au G A Z L H s):∀b o,G.h₀.get? b=some o->s.heap.get? b=some o:=by obtain⟨_,_,S⟩:=S;exact S.h0
theorem au.keep{G A Z L H s:_}(S:au G A Z L H s):∀b o,Z b=some o->s.heap.get? b=some o:=by obtain⟨_,_,S⟩:=S;exact S.keep
theorem au.hide{G A Z L L' H s:_}(S:au G A Z (L++L') H s):∃K,cR L' K/\au G A Z L (K++H) s:=by
 lk
 refine ai S λc h S=>?_
 lk
 refine j0 h.split λa b e h1 h2=>?_;subst e;exact(xF b h2 a h1 (by rw[append_assoc] at S;exact S))
theorem au.xh{G A Z L L' H K s:_}(e:cR L' K)(S:au G A Z L (K++H) s):au G A Z (L++L') H s:=by refine ai S λc h S=>?_;exact(ah (c++K) (h.append e) (by rw[append_assoc];exact S))
set_option genCtorIdx false
section
open PySem.Sem (wp)
def jb{α:Type}(prog:Program)(w:World)(A:Around)(t:Sem α)(Q:α->SP)(E:VS)(s:Shared):Prop:=∀Γ p,Γ.In A->Nd Γ->wp (model prog w) Γ t (λa U s'=>Q a s') (λe U s'=>E e s') p s
theorem ul{α:Type}{prog:Program}{w:World}{A:Around}{t:Sem α}{Q Q':α->SP}{E E':VS}{s:Shared}(h:jb prog w A t Q E s)(hQ:∀a s,Q a s->Q' a s)(hE:∀e s,E e s->E' e s):jb prog w A t Q' E' s:=λΓ p cQ hn=>Sem.wp_mono _ Γ t (λa U s=>hQ a s) (λe U s=>hE e s) p s (h Γ p cQ hn)
theorem E4{α β:Type}{prog:Program}{w:World}{A:Around}{m:Sem α}{f:α->Sem β}{Q:β->SP}{E:VS}{s:Shared}(h:jb prog w A m (λa s'=>jb prog w A (f a) Q E s') E s):jb prog w A (m>>=f) Q E s:=λΓ p cQ hn=>by simp only[Sem.wp_bind'];exact Sem.wp_mono _ Γ m (λa p' s' h'=>h' Γ p' cQ hn) (λU U U h'=>h') p s (h Γ p cQ hn)
theorem G5{α:Type}{prog:Program}{w:World}{A:Around}{t:Sem α}{Q:α->SP}{E:VS}{s:Shared}(h:wpAny (model prog w) A t Q E s):jb prog w A t Q E s:=λΓ p cQ U=>h Γ p cQ
theorem Ke:Nd (⟨.builtin "claim.caller" {},none,none,[],none⟩:Ctx):=⟨by rw[tu];z_go,λU h=>by cases h⟩
theorem Mv{prog:Program}{w:World}{t:Sem Fin}{s:Shared}{R:Result->SP}(Rh:s.asleep)
  (h:jb prog w callerA t (λfin s'=>∃f,fin=.done f/\(R (.ok f) s'/\leftWithCleanup s'.gens=false)) (λe s'=>R (.error e) s'/\leftWithCleanup s'.gens=false) s):
  ∃n r s' eg,runN (denote table) prog w n s ⟨t,.builtin "claim.caller" {},default,[]⟩=.halted (outcomeOf r) s'/\
   schedN (denote table) prog w n (.single s ⟨t,.builtin "claim.caller" {},default,[]⟩)=.halted (outcomeOf r) s'/\s'.forget=eg.forget/\R r eg:=by
 have h1:wp (model prog w) ⟨.builtin "claim.caller" {},none,none,[],none⟩ t (Sem.finPost (model prog w) ⟨.builtin "claim.caller" {},none,none,[],none⟩ λr s'=>R r s'/\leftWithCleanup s'.gens=false) (λe U s'=>R (.error e) s'/\leftWithCleanup s'.gens=false) default s:=Sem.wp_mono _ _ t (λfin p' s' h'=>by obtain⟨f,rfl,hf⟩:=h';exact hf) (λU U U h'=>h') default s (h _ default caller_in Ke)
 refine lL (wp_halts_full (M:=model prog w) (R:=R) Rh h1) λn r am bn hs hn pP hR=>?_;exact(wt n r bn am hn hs pP hR)
theorem Kf{c:ClaimW}{tree:LV->Sem Fin}{w:World}{s:Shared}{free:Addr->Prop}{gens:Prop}{l8:Heap->Prop}(hz:s.asleep)(o4:s.gens=#[])
  (P7:∀args,c.pre args=true->WData.layableAll args=true->
   ∀ord:List DictEntry->List DictEntry,(∀l,(ord l).Perm l)->
   ∃vs am,layAllW c.records (classAt s.heap) w.params ord args s=some (vs,am)/\
    jb c.prog w callerA (tree vs) (λfin s'=>∃f,fin=.done f/\(c.Ends s args vs am (.ok f) s'/\s'.os=s.os/\AllBare s'.gens/\l8 s'.heap))
     (λe s'=>c.Ends s args vs am (.error e) s'/\s'.os=s.os/\AllBare s'.gens/\l8 s'.heap) am):
  c.CallFrom (λvs=>⟨tree vs,.builtin "claim.caller" {},default,[]⟩) w free gens l8 s:=by
 intro args pb pc ord uN
 lk
 refine dn (P7 args pb pc ord uN) λvs am lW qR=>?_;have cB:=layAllW_rest _ _ _ lW
 lk
 obtain⟨k,r,s',eg,Ri,N_,pP,xK,nV,rI⟩:=Mv (prog:=c.prog) (w:=w) (t:=tree vs) (s:=am)
  (R:=λr s'=>c.Ends s args vs am r s'/\s'.os=s.os/\l8 s'.heap)
  (Shared.asleep_of_life cB.2.2.2 hz)
  (ul qR (by
   intro fin s' zz;refine NZ zz λf e h1 h2 h3 h4=>?_;exact(cz f e (bj h1 h2 h4) (leftWithCleanup_false_of_bare h3))) (by
   intro e s' zz;refine yl zz λh1 h2 h3 h4=>?_;exact⟨(bj h1 h2 h4),leftWithCleanup_false_of_bare h3⟩))
 refine Eu (Shared.forget_eq pP) λeh U U eo U=>?_;have xK:=xK.congr eh;rw[←eo] at nV;refine(IN vs am lW k _ s' N_ ?_ (λU i x hx=>by rw[o4] at hx;simp at hx) (show l8 s'.heap by first|exact eh▸rI|(rw[eh] at rI;exact rI)|(rw[←eh] at rI;exact rI)) (by rw[((runN_life _ _ _ Ri).trans cB.2.2.2:s'.heap.life=s.heap.life)]) (Shared.rest_eq nV))
 lk
 rcases xK with⟨v,rfl,d1,d2,d3,d4,d5⟩|⟨e,ob,cls,rfl,d1,d2,d3,d4,d5⟩
 ·exact .inl (Ms v rfl d1 d2 d3 (λb o y U=>d4 b o y) d5)
 ·exact .inr (Bw e ob cls rfl d1 d2 d3 d4 (λb o y U=>d5 b o y))
theorem K_{r:RowW}{run:Value->LV->Sem Value}{tree:LV->Sem Fin}{q:Program}{loose Gp zm:List Str}{writes:Bool}{Xt:Shared->Bool}{XP:(Str->Option Value)->Heap->Prop}{α:Type}{Yf:Shared->α}{Ya:World->α}{YP:World->Heap->Prop}{N:Nat}
  (left:LeftO r.prog q loose Xt Yf Ya N)(hY:∀w s,Yf s=Ya w->YP w s.heap)(zn:∀w h h',YP w h->(∀b o,h.get? b=some o->h'.get? b=some o)->YP w h')(hX:∀s,Xt s=true->XP (s.heap.nsMap mainGlobals) s.heap)(zo:∀mg h h',XP mg h->(∀b o,h.get? b=some o->h'.get? b=some o)->XP mg h')
  (zp:∀s,Xt s=true->RecFacts r.records s.heap)(vc:(!writes||r.records.isEmpty)=true)(ok:(chainsOk q&&opensWell r.prog&&(frees r&&r.within.isEmpty))=true)(hb:r.prog.bare)(hw:r.promised)
  (ht:∀vs(w:World)(s:Shared) mg f(Q:Fin->SP)(E:VS),s.heap.Ns mainGlobals mg->mg r.name=some f->jb r.prog w callerA (run f vs) (λv s'=>Q (.done (.ret v)) s') E s->jb r.prog w callerA (tree vs) Q E s)
  (SA:∀w s,s.heap.isNs mainGlobals=true->Ground q loose [] XP w s (s.heap.nsMap mainGlobals) (s.heap.nsMap builtinsNs) s.heap->∀n∈Gp,isTheDefsW r.prog s.heap n)
  (call:∀(w:World)(fm am:Shared)(mg mb:Str->Option Value),Ground q loose r.records XP w fm mg mb am.heap->YP w am.heap->∀(args:List WData)(vs:LV)(as:List Addr),
   r.claim.pre args=true->WData.layableAll args=true->Laid r.records w fm am args vs as->sysModules<fm.heap.objs.size->∃f,mg r.name=some f/\
    jb r.prog w callerA (run f vs) (λv s'=>GoodWG r.claim (classAt fm.heap) (ExcName.means fm.heap) args am (.ok (.ret v)) s')
     (λe s'=>GoodWG r.claim (classAt fm.heap) (ExcName.means fm.heap) args am (.error e) s') am):r.claim.HoldsOpenBy (λvs=>⟨tree vs,.builtin "claim.caller" {},default,[]⟩) Gp zm writes:=by
 lk
 obtain⟨ok,k5⟩:=tB ok
 lk
 obtain⟨G6,o1⟩:=tB ok
 lk
 obtain⟨k5,k6⟩:=tB k5;refine Eu (frees_parts k5) λE5 hu ha nW hm=>?_;refine(bj (bj hb o1 (by show r.makers.map _=[];rw[hm];rfl)) hw.witness (λw=>⟨(left.behind hX G6 w).1,λs' fG=>?_⟩))
 lk
 refine Jm ((left.behind (XP:=λmg h=>XP mg h/\RecFacts r.records h) (λs hs=>⟨hX s hs,zp s hs⟩) G6 w).2 s' fG) λfm hf SB s hT hz o4 hg iD y=>?_;have G0:Ground q loose [] XP w s (s.heap.nsMap mainGlobals) (s.heap.nsMap builtinsNs) s.heap:=⟨iD.T,iD.B,iD.D,iD.TE,iD.TD,iD.W,iD.X.1,iD.cls,iD.has,iD.apart,iD.once,iD.K⟩;have RF:=iD.X.2;have G7:=hT;refine(Ka fm hf SB s hT (SA w s hg G0) RF.1 RF.2.1 ?_);have o4:s.gens=#[]:=Array.eq_empty_of_size_eq_zero (beq_iff_eq.mp o4);have G:Ground q loose r.records XP w s _ _ s.heap:=RF.ground G0;refine Kf (c:=r.claim) hz o4 λargs pb pc ord uN=>?_
 lk
 obtain⟨⟨vs,am⟩,lW⟩:=Option.isSome_iff_exists.mp (layAllW_isSome (P:=w.params) (ord:=ord) G.has args r.args s (pre_splitW pb).1);have keeps:=layAllW_keeps _ _ _ lW;have cB:=layAllW_rest _ _ _ lW
 lk
 refine dD (reads_layAllW uN _ _ _ lW pc am.heap (λU U e=>e)) λas SC vd hold=>?_;have L:Laid r.records w s am args vs as:=⟨(ah ord uN lW),SC,vd,hold,keeps,cB.1.trans o4,cB.2.2.1⟩;have Gq:=G.keeps zo keeps;refine ai (call w s am _ _ Gq (zn _ _ _ (hY w s y) keeps) args vs as pb pc L G.low) λf hf h=>?_;have hi:=ident_freeW hu ha nW;have G8:r.claim.within=[]:=List.isEmpty_iff.mp k6;exact(co vs am lW (ht vs w am _ f _ _ Gq.T.g hf (ul h (λv s' g=>(ah _ rfl (have z:=g.laid (c:=r.claim) E5 G8 hi L;(l7 z.1 z.2.1 z.2.2 (λq=>⟨namesKept_of G7 hg zm keeps g.2.1.old,noTable vc q⟩))))) λe s' g=>have z:=g.laid (c:=r.claim) E5 G8 hi L;(l7 z.1 z.2.1 z.2.2 (λq=>⟨namesKept_of G7 hg zm keeps g.2.1.old,noTable vc q⟩)))))
theorem PySem.W.holds_open{r:OpenRow}{q:Program}{loose:List Str}{Xt:Shared->Bool}{XP:(Str->Option Value)->Heap->Prop}{α:Type}{Yf:Shared->α}{Ya:World->α}{YP:World->Heap->Prop}{d:DefRec}{pQ:List (Str×Expr)}{N:Nat}
  (left:LeftO r.prog q loose Xt Yf Ya N)(hY:∀w s,Yf s=Ya w->YP w s.heap)(zn:∀w h h',YP w h->(∀b o,h.get? b=some o->h'.get? b=some o)->YP w h')
  (hX:∀s,Xt s=true->XP (s.heap.nsMap mainGlobals) s.heap)(zo:∀mg h h',XP mg h->(∀b o,h.get? b=some o->h'.get? b=some o)->XP mg h')
  (nl:defOf q r.name=some (d,pQ))(hp:r.prog.theDef r.name=some (d.params,d.body,d.scope))(hk:kwWritten? d.params.kwonlyargs d.params.kw_defaults=some pQ)(zp:∀s,Xt s=true->RecFacts r.records s.heap)(vc:(!r.writes||r.records.isEmpty)=true)
  (k1:r.wellSaid=true)(ok:(chainsOk q&&opensWell r.prog&&(frees r.toRowW&&r.within.isEmpty))=true)(hb:r.prog.bare)(hw:r.toRowW.promised)
  (call:∀(w:World)(fm am:Shared)(mg mb:Str->Option Value),Ground q loose r.records XP w fm mg mb am.heap->YP w am.heap->∀(a:Addr)(o:Obj)(pm cd nX dV kV:Value),am.heap.get? a=some o->
   o.data=.func {docDef d.name d.params d.body d.scope pm cd nX with defaults:=dV,kwdefaults:=kV}->am.heap.CodeRec cd d.name->Dflts mg am.heap d.params pQ dV kV->mg d.name=some (.ref a)->am.gens=#[]->
   ∀(args:List WData)(vals:LV)(as:List Addr),r.toRowW.claim.pre args=true->WData.layableAll args=true->ReadsAllW r.records (classAt fm.heap) am.heap vals args as->WellAll w.params am.heap vals args->(∀a∈as,(a==sysModules)=false)->
    jb r.prog w callerA (PySem.call (.ref a) vals) (λv s'=>GoodWG r.toRowW.claim (classAt fm.heap) (ExcName.means fm.heap) args am (.ok (.ret v)) s')
     (λe s'=>GoodWG r.toRowW.claim (classAt fm.heap) (ExcName.means fm.heap) args am (.error e) s') am):r.Holds:=by
 refine(bj k1 hw (K_ (r:=r.toRowW) (run:=λf vs=>PySem.call f vs) (tree:=λvs=>do match←nsGet mainNs r.name with
   |some f=>do ret (←PySem.call f vs)
   |none=>unsupported "claim.caller:no-such-global") left hY zn hX zo zp vc ok hb hw
  (λvs w s mg f Q E hg hf h=>E4 (G5 (wpAny_nsGet hg (by rw[hf];exact E4 (ul h (λU U x=>G5 (wP x)) λU U x=>x)))))
  (λw s hg G n hn=>?_) λw fm am mg mb G Y args vs as pb pc L low=>?_))
 ·obtain rfl:n=r.name:=by split at hn<;>simp_all
  exact pinned_of_view hg G nl hp hk
 ·lk
  obtain⟨a,o,pm,cd,nX,dV,kV,h1,h2,h3,h4,h5⟩:=G.fn nl;exact(ah (.ref a) h1 (call w fm am mg mb G Y a o pm cd nX dV kV h2 h3 h4 h5 (defOf_name nl▸h1) L.gens args vs as pb pc L.reads L.well (L.low low)))
end
noncomputable def ec:=PySem.Challenge.pw_pq1005_01
noncomputable def Rj (P:Params):BT:=([boot_o_0 P,boot_o_1 P,boot_o_2 P,boot_o_3 P,boot_o_4 P,boot_o_5 P,boot_o_6 P,boot_o_7 P,boot_o_8 P,boot_o_9 P,boot_o_10 P].foldl (λx o=>(x.1.ins x.2 o,x.2+1)) (BT.nil,0)).1
def nq:Env:=({scope:=ec.main.scope,locals:=mainNs,globals:=mainNs,cells:=[],code:=.ref 13,frame:=some 14}:Env)
def nu(w:World)(os:OsState):SharedT:=((segGoT treeTable ec w 11 (some (.ref 6)) 0 12 ⟨Rj w.params,11,{},#[],{},boot_toks,os⟩ (topStub ec)).map (·.1)).getD ⟨.nil,0,{},#[],{},0,os⟩
def pe:List Stmt:=behindTheImports ec
def j_:Code:=.body pe nq
def fO:Program:=view ec [0,2,3,4,5,6,8,9,10,12,13,14,15,16,17,18,19,20,21,22,23,24,26,27,28,29,30,31,32,33,34,35,36,37,38,39,40,41,42,43,45,46,47,48,49,50,51,53,54,56,57,58,59,60,61,62,63,64,65,66,67,68,69,70]
noncomputable def dO:List Str:=[.ofString "GateError",.ofString "ArrayMap",.ofString "HashMap"]
theorem Oa:∀w:World,(fencedOpening treeTable ec w (12+(1+(7000+2))+1985)).map (λs=>(s.heap,s.gens,s.drawn,s.toks))=some (boot_heap w.params,Array.mk [],boot_drawn,boot_toks):=boot_open (by x_go) (by x_go) (λs=>by x_go)
theorem Ob(w:World):((boot_heap w.params).isNs mainGlobals&&(#[]:Array GenState).size==0,(boot_heap w.params).objs.size,(boot_heap w.params).nsMap mainGlobals "__annotations__")=(true,11,some (.ref 6)):=by x_go
noncomputable def l9 (s:SharedT) (a:Addr):Option Obj:=match blt a s.n with
 |true=>alive ((s.tree.get a).getD default)
 |false=>none
theorem Mw(s:SharedT)(a:Addr):s.abs.heap.get? a=l9 s a:=by
 show(absHeap s.tree s.n s.life).get? a=l9 s a;unfold l9
 cases e:blt a s.n with
 |false=>exact abs_get_none λq=>by rw[show blt a s.n=true from Nat.ble_eq_true_of_le q] at e;cases e
 |true=>
  unfold Heap.get?;rw[absHeap_at,if_pos (show a<s.n from Nat.le_of_ble_eq_true e)];show(match some ((s.tree.get a).getD default) with|some ⟨_,_,.freed,_⟩=>none|o=>o)=alive _;obtain⟨c,d,dt,sl⟩:=(s.tree.get a).getD default
  cases dt<;>rfl
section
variable{p q:Program}{dO:List Str}{Xt:Shared->Bool}{S:World->OsState->SharedT}{b:List Stmt}{e:Env}{c:Code}{w:World}{os:OsState}{nv:Params->Heap}{gs:Array GenState}{d:Drawn}{k gg N n₁ k8 ro N':Nat}{gk:Option Value}
noncomputable def k9 (p:Program) (w:World) (gg:Nat) (gk:Option Value) (n:Nat) (s:SharedT) (b:List Stmt) (e:Env) (c:Code):=Fast.tw10110043849684766642 Fast.tw14364793385576792824 p w gg gk 1 n s (piecesOf b e c default [topFrame default])
noncomputable def yH (p:Program) (h:Heap) (s:Shared):Bool:=staticsOk (importedModules p.main.body) h s.heap&&namesBound p s.heap&&gensDone s&&laidKept h s.heap
noncomputable def gh (p q:Program) (dO:List Str) (Xt:Shared->Bool) (s:SharedT):=openSeen q dO (importedModules p.main.body) Xt true s.abs
theorem Oc{s:Shared}{t s':SharedT}{r':Pos}(pre:topGo treeTable p w gg gk n₁ s (topStub p)=some (t.abs,⟨denote treeTable (.body b e),c,default,[topFrame default]⟩))
  (block:segRun treeTable p w gg gk 1 1 t.abs (blockOf b e c default [topFrame default])=some (.next,t.abs,c,default))
  (fin:topRun treeTable p w gg gk ro s'.abs (restOf [] e c r' [topFrame default])=some s'.abs)
  (r:k9 p w gg gk k8 t b e c=some (.next,s',c,r')):topRun treeTable p w gg gk (n₁+(1+(k8+ro))+N') s (topStub p)=some s'.abs:=
 have r:Fast.tw10110043849684766642 Fast.tw14364793385576792824 p w gg gk 1 k8 t (piecesOf b e c default [topFrame default])=some (.next,s',c,r'):=r
 topRun_mono N' _ _ _ _ (go_top pre (piece_block block (append_nil b▸piece_app (rest:=[]) (segRun_of (Fast.te10110043849684766642▸Fast.te14364793385576792824▸r)) fin)))
theorem Od{s s':Shared}(z1:(s.heap.isNs mainGlobals&&s.gens.size==0)=true)(z2:s.heap.objs.size=gg)(z3:s.heap.nsMap mainGlobals "__annotations__"=gk)
  (r:topRun treeTable p w gg gk N s (topStub p)=some s')(l:yH p s.heap s'=true):topFrom treeTable p w N s=some s':=by
 unfold topFrom;rw[z1,z2,z3];exact(congrArg (λo=>Option.bind o _) r).trans (congrArg (λb:Bool=>match b with|true=>some s'|false=>none) l)
theorem Mx{o:Option Shared}{h:Heap}(op:o.map (λs=>(s.heap,s.gens,s.drawn,s.toks))=some (h,gs,d,k)):∃os,o=some ⟨h,gs,d,k,os⟩:=by
 obtain⟨⟨hp,gs,d,k,os⟩,e,h⟩:=Option.map_eq_some_iff.mp op
 cases h
 exact⟨os,e⟩
theorem yI{α β:Type}{o:Option α}{x:α}{F:α->β}{y:β}(e:o=some x)(h:o.map F=some y):F x=y:=by subst e;exact Option.some.inj h
theorem My{α:Type}{Yf:Shared->α}{Ya:World->α}{YT:SharedT->α}(y:∀s,Yf s.abs=YT s)(op:∀w:World,(fencedOpening treeTable p w (n₁+(1+(k8+ro))+N')).map (λs=>(s.heap,s.gens,s.drawn,s.toks))=some (nv w.params,gs,d,k))
  (size:∀w:World,((nv w.params).isNs mainGlobals&&gs.size==0,(nv w.params).objs.size,(nv w.params).nsMap mainGlobals "__annotations__")=(true,gg,gk))
  (pre:∀w os,topGo treeTable p w gg gk n₁ ⟨nv w.params,gs,d,k,os⟩ (topStub p)=some ((S w os).abs,⟨denote treeTable (.body b e),c,default,[topFrame default]⟩))
  (block:∀w os,segRun treeTable p w gg gk 1 1 (S w os).abs (blockOf b e c default [topFrame default])=some (.next,(S w os).abs,c,default))
  (fin:∀w s r,topRun treeTable p w gg gk ro s (restOf [] e c r [topFrame default])=some s)
  (h2:∀w os,(k9 p w gg gk k8 (S w os) b e c).map (λx=>((gh p q dO Xt x.2.1).2.2.1,(gh p q dO Xt x.2.1).2.2.2.2.1,(gh p q dO Xt x.2.1).2.2.2.2.2.2.2.2))=some (true,pinGoodD (drecsOf q),clsGoodW q dO))
  (h3:∀w os,(k9 p w gg gk k8 (S w os) b e c).map (λx=>((gh p q dO Xt x.2.1).2.2.2.1,(gh p q dO Xt x.2.1).2.2.2.2.2.2.2.1))=some (true,wideGood q))
  (h4:∀w os,(k9 p w gg gk k8 (S w os) b e c).map (λx=>((gh p q dO Xt x.2.1).2.2.2.2.2.1,(gh p q dO Xt x.2.1).2.2.2.2.2.2.1))=some (plainGoodE q (looseW q dO),plainGoodD q dO))
  (h1:∀w os,(k9 p w gg gk k8 (S w os) b e c).map (λx=>(x.1,x.2.2.1,yH p (nv w.params) x.2.1.abs,(gh p q dO Xt x.2.1).1,(gh p q dO Xt x.2.1).2.1,YT x.2.1))=some (Flow.next,c,true,expectedOf q,bltViewBooted,Ya w)):LeftO p q dO Xt Yf Ya (n₁+(1+(k8+ro))+N') true:=λw=>by
 refine(Mx (op w)).elim λos eo=>?_;refine(Option.map_eq_some_iff.mp (h1 w os)).elim λx hx=>?_;have u1:=Prod.mk.inj hx.2;have u2:=Prod.mk.inj u1.2;have u3:=Prod.mk.inj u2.2;have u4:=Prod.mk.inj u3.2;have u5:=Prod.mk.inj u4.2;have m2:=yI hx.1 (h2 w os);have m3:=yI hx.1 (h3 w os);have m4:=yI hx.1 (h4 w os);have m2:=Prod.mk.inj m2;have G9:=Prod.mk.inj m2.2;have m3:=Prod.mk.inj m3;have m4:=Prod.mk.inj m4;have r:=hx.1.trans (congrArg some (Prod.ext u1.1 (Prod.ext rfl (Prod.ext u2.1 rfl)):x=(.next,x.2.1,c,x.2.2.2)));have z:=Prod.mk.inj (size w);have z2:=Prod.mk.inj z.2;refine(congrArg (λo=>(Option.bind o (topFrom treeTable p w _)).map _) eo).trans ?_;refine(congrArg (Option.map _) (Od (s:=⟨nv w.params,gs,_,_,os⟩) z.1 z2.1 z2.2 (Oc (pre w os) (block w os) (fin w _ _) r) u3.1)).trans ?_;exact congrArg some (Prod.ext (Prod.ext u4.1 (Prod.ext u5.1 (Prod.ext m2.1 (Prod.ext m3.1 (Prod.ext G9.1 (Prod.ext m4.1 (Prod.ext m4.2 (Prod.ext m3.2 G9.2)))))))) ((y _).trans u5.2))
end
theorem P8(w:World)(os:OsState):topGo treeTable ec w 11 (some (.ref 6)) 12 ⟨boot_heap w.params,Array.mk [],boot_drawn,boot_toks,os⟩ (topStub ec)=some ((nu w os).abs,⟨denote treeTable j_,j_,default,[topFrame default]⟩):=by x_go
theorem Mz(w:World)(os:OsState):segRun treeTable ec w 11 (some (.ref 6)) 1 1 (nu w os).abs (blockOf pe nq j_ default [topFrame default])=some (.next,(nu w os).abs,j_,default):=by x_go
theorem P9(w:World)(s:Shared)(p:Pos):topRun treeTable ec w 11 (some (.ref 6)) 2 s (restOf [] nq j_ p [topFrame default])=some s:=by x_go
def jA:Shared->Bool:=λs=>xlAt fO [] s&&recOk (RowW.records PySem.Challenge.rw_pq1005_01.row.toRowW) s
theorem SD(w:World)(os:OsState):(k9 ec w 11 (some (.ref 6)) 7000 (nu w os) pe nq j_).map (λx=>((gh ec fO dO jA x.2.1).2.2.1,(gh ec fO dO jA x.2.1).2.2.2.2.1,(gh ec fO dO jA x.2.1).2.2.2.2.2.2.2.2))=some (true,pinGoodD (drecsOf fO),clsGoodW fO dO):=by x_go
theorem SE(w:World)(os:OsState):(k9 ec w 11 (some (.ref 6)) 7000 (nu w os) pe nq j_).map (λx=>((gh ec fO dO jA x.2.1).2.2.2.1,(gh ec fO dO jA x.2.1).2.2.2.2.2.2.2.1))=some (true,wideGood fO):=by x_go
theorem SG(w:World)(os:OsState):(k9 ec w 11 (some (.ref 6)) 7000 (nu w os) pe nq j_).map (λx=>((gh ec fO dO jA x.2.1).2.2.2.2.2.1,(gh ec fO dO jA x.2.1).2.2.2.2.2.2.1))=some (plainGoodE fO (looseW fO dO),plainGoodD fO dO):=by x_go
noncomputable def tS (s:String) (t:Nat):Value:=.str (.ofString s) t
noncomputable def tD (P:Params) (s:String) (t:Nat) (v:Value):DictEntry:=⟨PyData.keyHash P (.ofString s),.str (.ofString s) t,v⟩
def tC(n q:Str)(a t k l g:Nat):Obj:=Obj.mk (.type "code") none (.fields #[.str n t,.str q (t+1),tS "/claim/cut.py" (t+2),.int l 0,.int g 0,.int 0 0,.int 0 0,.int 3 0,.ref (a-match beq k 4 with|true=>4|false=>6),.bool true,.int 181 0,.ref (a-match beq k 4 with|true=>3|false=>5),.none,
 (match beq k 4 with|true=>.none|false=>.ref (a-4)),(match beq k 4 with|true=>.none|false=>.ref (a-3)),.ref (a-2),.int (Int.ofNat (t+k-1)) 0,.int l 0,tS "/claim/cut.py" (t+k)]) #[]
def tO(q:Str->Str)(m:Value)(d:Bool)(a t k:Nat)(s:Option Stmt):Frag:=match s with
 |some (.FunctionDef n p b _ _ _ s _ _ o)=>[(a,{cls:=.type "function",data:=.func {name:=n,qualname:=q n,params:=p,body:=.stmts b,scope:=s,globals:=3,closure:=[],defaults:=match d with|true=>.ref (a-7)|false=>.none,kwdefaults:=.none,pyModule:=m,code:=.ref (a-1)}}),(a-1,tC n (q n) a t k o.line p.args.length)]
 |_=>[]
def tF(m:Value)(l:List (Nat×Nat×Nat×Nat)):Frag:=l.flatMap λx=>tO id m false x.1 x.2.1 x.2.2.1 ec.main.body[x.2.2.2]?
def tM(m:Value)(d:Bool)(l:List (Nat×Nat×Nat×Nat×Nat)):Frag:=l.flatMap λx=>match(ec.main.body[x.2.2.2.1]?:Option Stmt) with
 |some (.ClassDef c _ _ b _ _ _ _ _ _ _)=>tO (λn=>⟨(c.cps.toList++46::n.cps.toList).toArray⟩) m d x.1 x.2.1 x.2.2.1 b[x.2.2.2.2]?
 |_=>[]
noncomputable def tR (P:Params) (s:String) (t a:Nat):DictEntry:=tD P s t (.ref a)
def KK(P:Params):Frag:=[(2,Obj.mk .none none (.dict #[tD P "type.__subclasses__.Exception.0" 230 (.int 46 0),tD P "type.__subclasses__.Exception.n" 231 (.int 1 0)] 2) #[]),
 (3,Obj.mk (.type "dict") none (.dict #[tD P "__name__" 165 (tS "law_pq1005_01" 1460),tD P "__doc__" 166 .none,tD P "__package__" 167 .none,tD P "__loader__" 168 (.builtin "__main__.__loader__#opaque"),tD P "__spec__" 169 .none,tR P "__annotations__" 170 6,tR P "__builtins__" 171 4,tD P "__file__" 173 (tS "/claim/cut.py" 172),tD P "__cached__" 174 .none,tR P "_wall" 193 21,tR P "GateError" 233 46,tR P "MapError" 249 59,tR P "Fault" 265 71,tR P "little" 271 78,tR P "from_little" 280 85,tR P "copied_maps" 291 92,tR P "told_maps" 297 97,tR P "map_at" 307 104,tD P "CONTEXT" 311 (.int 65536 310),tD P "PACKET" 313 (.int 131072 312),tD P "STACK" 315 (.int 262144 314),tD P "ROOM" 317 (.int 524288 316),tD P "VALUES" 319 (.int 16777216 318),tD P "MAP_STEP" 321 (.int 1048576 320),tD P "BEYOND" 323 (.int 1879048192 322),tR P "Region" 381 142,tR P "stride_of" 388 153,tR P "value_place" 397 160,tR P "value_slot" 407 167,tR P "area_of" 418 174,tR P "Memory" 562 274,tD P "ENOENT" 566 (.int 2 565),tD P "E2BIG" 568 (.int 7 567),tD P "EEXIST" 570 (.int 17 569),tD P "EINVAL" 572 (.int 22 571),tD P "MOST_MAPS" 574 (.int 64 573),tD P "MOST_KEY" 576 (.int 512 575),tD P "PROCESSORS" 578 (.int 4 577),tD P "ANY" 580 (.int 0 579),tD P "NO_SUCH" 582 (.int 1 581),tD P "ONE_THERE" 584 (.int 2 583),tD P "KINDS" 586 (tS "array hash lru rows queue stack trie ring" 585),tR P "is_power" 593 285,tR P "check_key_width" 601 292,tR P "check_widths" 611 299,tR P "Map" 851 484,tR P "flags_answer" 859 495,tR P "ArrayMap" 969 575,tR P "RowsMap" 1020 618,tD P "FNV_BASIS" 1024 (.int 2166136261 1023),tD P "FNV_PRIME" 1026 (.int 16777619 1025),tD P "LOW_32" 1028 (.int 4294967295 1027),tR P "hash_of" 1037 627,tR P "bucket_count" 1045 634,tR P "HashMap" 1211 766,tR P "LruMap" 1298 837,tD P "REPLACE" 1302 (.int 2 1301),tR P "QueueMap" 1459 973,tR P "_law_pen" 1470 982,tR P "_law_draw" 1479 989,tR P "_law_pick" 1487 996,tR P "_law_row" 1496 1003,tR P "_law_made" 1508 1010,tR P "_law_key" 1516 1017,tR P "_law_octets" 1522 1022,tR P "_law_rooms" 1532 1029,tR P "_law_deed" 1545 1036,tR P "_law_processor_right" 1560 1043,tR P "_law_load_right" 1566 1048,tR P "_law_places_right" 1572 1053,tR P "_law_refused" 1579 1060,tR P "_law_turn_right" 1585 1065,tR P "law" 1591 1070] 73) #[]),
 (29,Obj.mk (.type "tuple") none (.seq #[.none] 0) #[]),
 (45,Obj.mk (.type "dict") none (.dict #[tD P "__module__" 203 (tS "ringgate.basics" 194),tD P "__firstlineno__" 207 (.int 5 206),tR P "__init__" 216 36,tR P "told" 223 43,tR P "__static_attributes__" 226 44,tR P "__weakref__" 228 47,tD P "__doc__" 229 .none] 3) #[]),
 (46,Obj.mk (.type "type") none (.cls {name:="GateError",bases:=[(.type "Exception")],mro:=[(.ref 46),(.type "Exception"),(.type "BaseException"),(.type "object")],ns:=45,qualname:="GateError",subclasses:=[(.ref 59),(.ref 71)]}) #[some (.ref 22),none,some (tS "GateError" 196),some (tS "GateError" 204),some (.builtin "Exception.__new__"),some (.bool true)]),
 (47,Obj.mk (.type "getset_descriptor") none (.fields #[(tS "__weakref__" 227),(.ref 46),(.builtin "ExceptionGroup.__weakref__"),.none]) #[]),
 (58,Obj.mk (.type "dict") none (.dict #[tD P "__module__" 241 (tS "ringgate.basics" 194),tD P "__firstlineno__" 245 (.int 14 244),tR P "__static_attributes__" 246 57,tD P "__doc__" 247 .none] 2) #[]),
 (59,Obj.mk (.type "type") none (.cls {name:="MapError",bases:=[(.ref 46)],mro:=[(.ref 59),(.ref 46),(.type "Exception"),(.type "BaseException"),(.type "object")],ns:=58,qualname:="MapError",subclasses:=[]}) #[some (.ref 50),none,some (tS "MapError" 234),some (tS "MapError" 242),some (.builtin "Exception.__new__"),some (.bool true)]),
 (70,Obj.mk (.type "dict") none (.dict #[tD P "__module__" 257 (tS "ringgate.basics" 194),tD P "__firstlineno__" 261 (.int 16 260),tR P "__static_attributes__" 262 69,tD P "__doc__" 263 .none] 2) #[]),
 (71,Obj.mk (.type "type") none (.cls {name:="Fault",bases:=[(.ref 46)],mro:=[(.ref 71),(.ref 46),(.type "Exception"),(.type "BaseException"),(.type "object")],ns:=70,qualname:="Fault",subclasses:=[]}) #[some (.ref 62),none,some (tS "Fault" 250),some (tS "Fault" 258),some (.builtin "Exception.__new__"),some (.bool true)]),
 (141,Obj.mk (.type "dict") none (.dict #[tD P "__module__" 331 (tS "ringgate.memory" 308),tD P "__firstlineno__" 335 (.int 47 334),tR P "__init__" 346 118,tR P "end" 353 125,tR P "holds" 362 132,tR P "told" 369 139,tR P "__static_attributes__" 374 140,tR P "__dict__" 376 143,tR P "__weakref__" 378 144,tD P "__doc__" 379 .none] 4) #[]),
 (142,Obj.mk (.type "type") none (.cls {name:="Region",bases:=[(.type "object")],mro:=[(.ref 142),(.type "object")],ns:=141,qualname:="Region",subclasses:=[]}) #[none,none,some (tS "Region" 324),some (tS "Region" 332),some (.builtin "object.__new__"),some (.bool true)]),
 (143,Obj.mk (.type "getset_descriptor") none (.fields #[(tS "__dict__" 375),(.ref 142),(.builtin "function.__dict__"),(.builtin "function.__dict__#set")]) #[]),
 (144,Obj.mk (.type "getset_descriptor") none (.fields #[(tS "__weakref__" 377),(.ref 142),(.builtin "ExceptionGroup.__weakref__"),.none]) #[]),
 (182,Obj.mk (.type "tuple") none (.seq #[.none] 0) #[]),
 (273,Obj.mk (.type "dict") none (.dict #[tD P "__module__" 426 (tS "ringgate.memory" 308),tD P "__firstlineno__" 430 (.int 79 429),tR P "__init__" 438 189,tR P "add" 446 196,tR P "drop" 454 203,tR P "named" 462 210,tR P "value_region" 474 217,tR P "region_at" 485 224,tR P "find" 495 231,tR P "is_there" 505 238,tR P "octets" 516 245,tR P "lay" 527 252,tR P "read" 536 259,tR P "write" 546 266,tR P "told" 552 271,tR P "__static_attributes__" 555 272,tR P "__dict__" 557 275,tR P "__weakref__" 559 276,tD P "__doc__" 560 .none] 4) #[]),
 (274,Obj.mk (.type "type") none (.cls {name:="Memory",bases:=[(.type "object")],mro:=[(.ref 274),(.type "object")],ns:=273,qualname:="Memory",subclasses:=[]}) #[none,none,some (tS "Memory" 419),some (tS "Memory" 427),some (.builtin "object.__new__"),some (.bool true)]),
 (275,Obj.mk (.type "getset_descriptor") none (.fields #[(tS "__dict__" 556),(.ref 274),(.builtin "function.__dict__"),(.builtin "function.__dict__#set")]) #[]),
 (276,Obj.mk (.type "getset_descriptor") none (.fields #[(tS "__weakref__" 558),(.ref 274),(.builtin "ExceptionGroup.__weakref__"),.none]) #[]),
 (328,Obj.mk (.type "tuple") none (.seq #[(.int 0 652)] 0) #[]),
 (336,Obj.mk (.type "tuple") none (.seq #[(.int 0 662)] 0) #[]),
 (483,Obj.mk (.type "dict") none (.dict #[tD P "__module__" 619 (tS "ringgate.maps" 563),tD P "__firstlineno__" 623 (.int 183 622),tR P "__init__" 635 313,tR P "check_key" 643 320,tR P "check_value" 651 327,tR P "lookup" 661 335,tR P "update" 673 343,tR P "lookup_on" 682 350,tR P "update_on" 693 357,tR P "delete" 701 364,tR P "push" 710 371,tR P "pop" 717 378,tR P "peek" 724 385,tR P "keys" 731 392,tR P "next_key" 739 399,tR P "peer" 747 406,tR P "value" 756 413,tR P "stride" 763 420,tR P "slot_count" 770 427,tR P "place_of" 778 434,tR P "slot_at" 789 441,tR P "lay" 798 448,tR P "load" 808 455,tR P "twin" 815 462,tR P "copy" 824 469,tR P "parts" 830 474,tR P "told" 837 481,tR P "__static_attributes__" 844 482,tR P "__dict__" 846 485,tR P "__weakref__" 848 486,tD P "__doc__" 849 .none] 4) #[]),
 (484,Obj.mk (.type "type") none (.cls {name:="Map",bases:=[(.type "object")],mro:=[(.ref 484),(.type "object")],ns:=483,qualname:="Map",subclasses:=[(.ref 575),(.ref 766),(.ref 973)]}) #[none,none,some (tS "Map" 612),some (tS "Map" 620),some (.builtin "object.__new__"),some (.bool true)]),
 (485,Obj.mk (.type "getset_descriptor") none (.fields #[(tS "__dict__" 845),(.ref 484),(.builtin "function.__dict__"),(.builtin "function.__dict__#set")]) #[]),
 (486,Obj.mk (.type "getset_descriptor") none (.fields #[(tS "__weakref__" 847),(.ref 484),(.builtin "ExceptionGroup.__weakref__"),.none]) #[]),
 (531,Obj.mk (.type "tuple") none (.seq #[(.int 0 912)] 0) #[]),
 (539,Obj.mk (.type "tuple") none (.seq #[(.int 0 923)] 0) #[]),
 (574,Obj.mk (.type "dict") none (.dict #[tD P "__module__" 867 (tS "ringgate.maps" 563),tD P "__firstlineno__" 871 (.int 293 870),tR P "__init__" 884 509,tR P "index" 893 516,tR P "slot" 902 523,tR P "peer" 911 530,tR P "lookup" 922 538,tR P "update" 936 546,tR P "delete" 944 553,tR P "keys" 950 558,tR P "next_key" 958 565,tR P "twin" 965 572,tR P "__static_attributes__" 966 573,tD P "__doc__" 967 .none] 2) #[]),
 (575,Obj.mk (.type "type") none (.cls {name:="ArrayMap",bases:=[(.ref 484)],mro:=[(.ref 575),(.ref 484),(.type "object")],ns:=574,qualname:="ArrayMap",subclasses:=[(.ref 618)]}) #[some (.ref 496),none,some (tS "ArrayMap" 860),some (tS "ArrayMap" 868),some (.builtin "object.__new__"),some (.bool true)]),
 (617,Obj.mk (.type "dict") none (.dict #[tD P "__module__" 977 (tS "ringgate.maps" 563),tD P "__firstlineno__" 981 (.int 338 980),tR P "slot_count" 988 591,tR P "slot" 997 598,tR P "row" 1003 603,tR P "parts" 1009 608,tR P "twin" 1016 615,tR P "__static_attributes__" 1017 616,tD P "__doc__" 1018 .none] 2) #[]),
 (618,Obj.mk (.type "type") none (.cls {name:="RowsMap",bases:=[(.ref 575)],mro:=[(.ref 618),(.ref 575),(.ref 484),(.type "object")],ns:=617,qualname:="RowsMap",subclasses:=[]}) #[some (.ref 578),none,some (tS "RowsMap" 970),some (tS "RowsMap" 978),some (.builtin "object.__new__"),some (.bool true)]),
 (661,Obj.mk (.type "tuple") none (.seq #[(.int 0 1082)] 0) #[]),
 (697,Obj.mk (.type "tuple") none (.seq #[(.int 0 1123)] 0) #[]),
 (765,Obj.mk (.type "dict") none (.dict #[tD P "__module__" 1053 (tS "ringgate.hashes" 1021),tD P "__firstlineno__" 1057 (.int 373 1056),tR P "__init__" 1063 646,tR P "bucket" 1071 653,tR P "peer" 1081 660,tR P "lookup" 1092 668,tR P "used" 1100 675,tR P "count" 1107 682,tR P "free_slot" 1115 689,tR P "room" 1122 696,tR P "update" 1137 704,tR P "link" 1146 711,tR P "unlink" 1155 718,tR P "delete" 1164 725,tR P "keys" 1170 730,tR P "in_order" 1177 737,tR P "next_key" 1185 744,tR P "twin" 1192 751,tR P "copy" 1198 756,tR P "longest" 1205 763,tR P "__static_attributes__" 1208 764,tD P "__doc__" 1209 .none] 2) #[]),
 (766,Obj.mk (.type "type") none (.cls {name:="HashMap",bases:=[(.ref 484)],mro:=[(.ref 766),(.ref 484),(.type "object")],ns:=765,qualname:="HashMap",subclasses:=[(.ref 837)]}) #[some (.ref 635),none,some (tS "HashMap" 1046),some (tS "HashMap" 1054),some (.builtin "object.__new__"),some (.bool true)]),
 (836,Obj.mk (.type "dict") none (.dict #[tD P "__module__" 1219 (tS "ringgate.hashes" 1021),tD P "__firstlineno__" 1223 (.int 462 1222),tR P "__init__" 1235 782,tR P "used" 1243 789,tR P "room" 1251 796,tR P "eldest" 1258 803,tR P "unlink" 1266 810,tR P "by_age" 1272 815,tR P "parts" 1278 820,tR P "twin" 1285 827,tR P "copy" 1293 834,tR P "__static_attributes__" 1295 835,tD P "__doc__" 1296 .none] 2) #[]),
 (837,Obj.mk (.type "type") none (.cls {name:="LruMap",bases:=[(.ref 766)],mro:=[(.ref 837),(.ref 766),(.ref 484),(.type "object")],ns:=836,qualname:="LruMap",subclasses:=[]}) #[some (.ref 769),none,some (tS "LruMap" 1212),some (tS "LruMap" 1220),some (.builtin "object.__new__"),some (.bool true)]),
 (972,Obj.mk (.type "dict") none (.dict #[tD P "__module__" 1310 (tS "ringgate.queues" 1299),tD P "__firstlineno__" 1314 (.int 504 1313),tR P "__init__" 1325 853,tR P "room" 1332 860,tR P "onward" 1340 867,tR P "back" 1348 874,tR P "count" 1355 881,tR P "is_empty" 1362 888,tR P "is_full" 1369 895,tR P "push" 1379 902,tR P "next_slot" 1386 909,tR P "peek" 1394 916,tR P "pop" 1402 923,tR P "slots_in_turn" 1411 930,tR P "entries" 1417 935,tR P "slots" 1424 942,tR P "slot_count" 1431 949,tR P "twin" 1438 956,tR P "copy" 1446 963,tR P "parts" 1453 970,tR P "__static_attributes__" 1456 971,tD P "__doc__" 1457 .none] 2) #[]),
 (973,Obj.mk (.type "type") none (.cls {name:="QueueMap",bases:=[(.ref 484)],mro:=[(.ref 973),(.ref 484),(.type "object")],ns:=972,qualname:="QueueMap",subclasses:=[]}) #[some (.ref 840),none,some (tS "QueueMap" 1303),some (tS "QueueMap" 1311),some (.builtin "object.__new__"),some (.bool true)])]++((tF (tS "__main__" 164) [(21,187,5,0)])++(tM (tS "ringgate.basics" 194) true [(36,208,7,2,0)])++(tM (tS "ringgate.basics" 194) false [(43,217,5,2,1)])++(tF (tS "ringgate.basics" 194) [(78,266,4,5),(85,272,7,6)])++(tF (tS "ringgate.mapmake" 281) [(92,283,7,8),(97,292,4,9),(104,298,8,10)])++(tM (tS "ringgate.memory" 308) false [(118,336,9,19,0),(125,347,5,19,1),(132,354,7,19,2),(139,363,5,19,3),(196,439,6,24,1),(203,447,6,24,2),(210,455,6,24,3),(217,463,10,24,4),(224,475,9,24,5),(231,486,8,24,6),(238,496,8,24,7),(245,506,9,24,8),(252,517,9,24,9),(259,528,7,24,10),(266,537,8,24,11),(271,547,4,24,12)])++(tF (tS "ringgate.memory" 308) [(153,382,5,20),(160,389,7,21),(167,398,8,22),(174,408,9,23)])++(tM (tS "ringgate.memory" 308) true [(189,431,6,24,0)])++(tF (tS "ringgate.maps" 563) [(285,587,5,37),(292,594,6,38),(299,602,8,39),(495,852,6,41)])++(tM (tS "ringgate.maps" 563) false [(313,624,10,40,0),(320,636,6,40,1),(327,644,6,40,2),(350,674,7,40,5),(357,683,9,40,6),(364,694,6,40,7),(371,702,7,40,8),(378,711,5,40,9),(385,718,5,40,10),(392,725,5,40,11),(399,732,6,40,12),(406,740,6,40,13),(413,748,7,40,14),(420,757,5,40,15),(427,764,5,40,16),(434,771,6,40,17),(441,779,9,40,18),(448,790,7,40,19),(455,799,8,40,20),(462,809,5,40,21),(469,816,7,40,22),(474,825,4,40,23),(481,831,5,40,24),(509,872,11,42,0),(516,885,7,42,1),(523,894,7,42,2),(530,903,7,42,3),(553,937,6,42,6),(558,945,4,42,7),(565,951,6,42,8),(572,959,5,42,9),(591,982,5,43,0),(598,989,7,43,1),(603,998,4,43,2),(608,1004,4,43,3),(615,1010,5,43,4)])++(tM (tS "ringgate.maps" 563) true [(335,653,7,40,3),(343,663,9,40,4),(538,913,8,42,4),(546,924,11,42,5)])++(tF (tS "ringgate.hashes" 1021) [(627,1029,7,48),(634,1038,6,49)])++(tM (tS "ringgate.hashes" 1021) false [(646,1058,4,50,0),(653,1064,6,50,1),(660,1072,8,50,2),(675,1093,6,50,4),(682,1101,5,50,5),(689,1108,6,50,6),(696,1116,5,50,7),(711,1138,7,50,9),(718,1147,7,50,10),(725,1156,7,50,11),(730,1165,4,50,12),(737,1171,5,50,13),(744,1178,6,50,14),(751,1186,5,50,15),(756,1193,4,50,16),(763,1199,5,50,17),(782,1224,10,51,0),(789,1236,6,51,1),(796,1244,6,51,2),(803,1252,5,51,3),(810,1259,6,51,4),(815,1267,4,51,5),(820,1273,4,51,6),(827,1279,5,51,7),(834,1286,6,51,8)])++(tM (tS "ringgate.hashes" 1021) true [(668,1083,8,50,3),(704,1124,12,50,8)])++(tM (tS "ringgate.queues" 1299) false [(853,1315,9,54,0),(860,1326,5,54,1),(867,1333,6,54,2),(874,1341,6,54,3),(881,1349,5,54,4),(888,1356,5,54,5),(895,1363,5,54,6),(902,1370,8,54,7),(909,1380,5,54,8),(916,1387,6,54,9),(923,1395,6,54,10),(930,1403,7,54,11),(935,1412,4,54,12),(942,1418,5,54,13),(949,1425,5,54,14),(956,1432,5,54,15),(963,1439,6,54,16),(970,1447,5,54,17)])++(tF (tS "law_pq1005_01" 1460) [(982,1462,7,56),(989,1471,7,57),(996,1480,6,58),(1003,1488,7,59),(1010,1497,10,60),(1017,1509,6,61),(1022,1517,4,62),(1029,1523,8,63),(1036,1533,11,64),(1043,1546,13,65),(1048,1561,4,66),(1053,1567,4,67),(1060,1573,5,68),(1065,1580,4,69),(1070,1586,4,70)]))
noncomputable def Pz:Params:={strHash:=λU=>0,shareClass:=λU=>0,mergeTok:=λt=>t,idOf:=λU=>0,idOfShared:=λU U=>0,followText:=λU=>true,idOfImm:=λU=>0}
def yJ:List Addr:=(KK Pz).map Prod.fst
def nx:Hook:=kmHook KK yJ (λU=>by x_go) [1050]
def Gr(s:SharedT):List (Option Obj)×List (Option Obj):=(yJ.map (l9 s),[1050].map (l9 s))
theorem MA(s:SharedT):nx.obs s.abs=Gr s:=by show(yJ.map s.abs.heap.get?,[1050].map s.abs.heap.get?)=_;rw[(funext (Mw s):s.abs.heap.get?=l9 s)];rfl
theorem SH(w:World)(os:OsState):(k9 ec w 11 (some (.ref 6)) 7000 (nu w os) pe nq j_).map (λx=>(x.1,x.2.2.1,yH ec (boot_heap w.params) x.2.1.abs,(gh ec fO dO jA x.2.1).1,(gh ec fO dO jA x.2.1).2.1,Gr x.2.1))=some (Flow.next,j_,true,expectedOf fO,bltViewBooted,nx.val w):=by x_go
theorem Oe:LeftO ec fO dO jA nx.obs nx.val (12+(1+(7000+2))+1985) true:=My MA Oa Ob P8 Mz P9 SD SE SG SH
theorem Rk:PySem.Challenge.rw_pq1005_01.row.wellSaid=true:=by x_go
theorem hd:PySem.Challenge.rw_pq1005_01.wellSaid=true:=by
 delta OpenLaw.wellSaid
 rw[Rk]
 x_go
section
variable{G:Gd}{A:Around}{Z:Zt}{L:bF}{s:Shared}
theorem St.gU(S:St G A Z L s):Z s.heap.objs.size=none:=by
 cases h:Z s.heap.objs.size with
 |none=>rfl
 |some o=>exact absurd (lt_size (S.keep _ _ h)) (lt_irrefl _)
theorem St.low(S:St G A Z L s){p:Addr×P0}(hp:p∈L):p.1<s.heap.objs.size:=by
 lk
 refine bW (S.cells p hp) λU o h1 U=>?_;exact lt_size h1
theorem St.push(S:St G A Z L s)(o:Obj)(t:Nat):St G A Z L {s with heap:=s.heap.push o,toks:=t}:=
 ⟨S.base,λb o' e=>get?_push_of_some _ (S.keep b o' e),S.nd,λp hp=>by
  lk
  refine bW (S.cells p hp) λz o' h1 h2=>?_;exact(dc z o' (get?_push_of_some _ h1) h2),S.frames.mono λb ob e q=>⟨(ah ob (get?_push_of_some _ e.1) e.2),q⟩,S.gens,S.os⟩
theorem St.new{c:P0}{o:Obj}(S:St G A Z L s)(hf:o.isFreed=false)(hc:c.is Z G.w.params o)(t:Nat):St G A Z ((s.heap.objs.size,c)::L) {s with heap:=s.heap.push o,toks:=t}:=by
 have S':=S.push o t;refine⟨S'.base,S'.keep,?_,λq hq=>?_,S.frames.mono λb ob e q=>⟨(ah ob (get?_push_of_some _ e.1) e.2),λp hp hb=>?_⟩,S'.gens,S'.os⟩
 ·rw[map_cons,nodup_cons];refine⟨λhm=>?_,S.nd⟩;refine ai (List.mem_map.mp hm) λp hp e=>?_;exact absurd (S.low hp) (by rw[e];exact lt_irrefl _)
 ·rcases List.mem_cons.mp hq with rfl|hq
  ·exact(dc S.gU o (get?_push_size _ hf) hc)
  ·exact S'.cells q hq
 ·rcases List.mem_cons.mp hp with rfl|hp
  ·exact absurd (lt_size e.1) (hb▸lt_irrefl _)
  ·exact q p hp hb
noncomputable def Zt.put (Z:Zt) (a:Addr) (o:Obj):Zt:=λb=>if b=a then some o else Z b
theorem Zt.lQ(Z:Zt){a:Addr}{o:Obj}(h:Z a=none):Zt.Le Z (Z.put a o):=λb o' e=>by
 unfold Zt.put;by_cases q:b=a
 ·subst q;rw[h] at e;cases e
 ·rw[if_neg q];exact e
theorem Zt.mY(Z:Zt)(a:Addr)(o:Obj):Z.put a o a=some o:=if_pos rfl
theorem St.lr{o:Obj}(S:St G A Z L s)(hf:o.isFreed=false)(t:Nat):St G A (Z.put s.heap.objs.size o) L {s with heap:=s.heap.push o,toks:=t}:=by
 have S':=S.push o t;have ku:=Z.lQ (o:=o) S.gU;refine⟨λb o' e=>ku _ _ (S.base b o' e),λb o' e=>?_,S'.nd,λq hq=>?_,S.frames.mono λb ob e q=>⟨(cz ob (get?_push_of_some _ e.1) e.2.1 ((if_neg (ne_of_lt (lt_size e.1))).trans e.2.2)),q⟩,S'.gens,S'.os⟩
 ·unfold Zt.put at e;by_cases q:b=s.heap.objs.size
  ·subst q;rw[if_pos rfl] at e;cases e;exact get?_push_size _ hf
  ·rw[if_neg q] at e;exact S'.keep _ _ e
 ·lk
  refine bW (S'.cells q hq) λz o' h1 h2=>?_;refine(dc ?_ o' h1 (h2.mono ku));have:=S.low hq;unfold Zt.put;rw[if_neg (ne_of_lt this)];exact z
theorem St.l_{pre post:bF}{a:Addr}{c c':P0}{h':Heap}{o:Obj}(S:St G A Z (pre++(a,c)::post) s)(hs:ExtBut a s.heap h')(ho:h'.get? a=some o)(hc:c'.is Z G.w.params o)(t:Nat)(hf:c'.isFrame=c.isFrame:=by rfl):
  St G A Z (pre++(a,c')::post) {s with heap:=h',toks:=t}:=by
 refine bW (S.cells (a,c) (by simp)) λhz UL UJ U=>?_;refine⟨S.base,λb ob e=>?_,by rw[(show((pre++(a,c')::post).map (·.1))=((pre++(a,c)::post).map (·.1)) by simp)];exact S.nd,λq hq=>?_,S.frames.mono λb ob e k=>?_,S.gens,S.os⟩
 ·have hb:b≠a:=λq=>by subst q;rw[hz] at e;cases e
  exact hs b ob hb (S.keep b ob e)
 ·lk
  by_cases e:q.1=a
  ·have Gu:=S.nd
   have:q=(a,c'):=by
    rw[map_append,map_cons,nodup_append] at Gu;refine fq Gu λU h2 h3=>?_;rcases List.mem_append.mp hq with hq|hq
    ·exact absurd rfl (h3 q.1 (mem_map_of_mem hq) q.1 (e▸mem_cons_self))
    ·rcases List.mem_cons.mp hq with hq|hq
     ·exact hq
     ·exact absurd (List.mem_map.mpr (ah q hq e)) (List.nodup_cons.mp h2).1
   subst this;exact(dc hz o ho hc)
  ·have SI:q∈pre++(a,c)::post:=by
    rcases List.mem_append.mp hq with hq|hq
    ·exact mem_append_left _ hq
    ·rcases List.mem_cons.mp hq with hq|hq
     ·exact absurd (by rw[hq]) e
     ·exact mem_append_right _ (.tail _ hq)
   lk
   refine bW (S.cells q SI) λz o' h1 h2=>?_;exact(dc z o' (hs q.1 o' e h1) h2)
 ·refine⟨?_,λp hp e'=>?_⟩
  ·by_cases hb:b=a
   ·subst hb;exact(cz o ho (hc.Rg (hf.trans (k (b,c) (by simp) rfl))) e.2.2)
   ·exact(ah ob (hs b ob hb e.1) e.2)
  ·rcases List.mem_append.mp hp with hp|hp
   ·exact k p (mem_append_left _ hp) e'
   ·rcases List.mem_cons.mp hp with rfl|hp
    ·exact hf.trans (k (a,c) (by simp) e')
    ·exact k p (mem_append_right _ (.tail _ hp)) e'
theorem St.put{pre post:bF}{a:Addr}{c c':P0}{h':Heap}{o:Obj}(S:St G A Z (pre++(a,c)::post) s)(hs:SameBut a s.heap h')(ho:h'.get? a=some o)(hc:c'.is Z G.w.params o)(t:Nat)(hf:c'.isFrame=c.isFrame:=by rfl):
  St G A Z (pre++(a,c')::post) {s with heap:=h',toks:=t}:=S.l_ hs.extBut ho hc t hf
theorem St.around{A':Around}(S:St G A Z L s)(h:A'.frames=A.frames):St G A' Z L s:=⟨S.base,S.keep,S.nd,S.cells,by obtain⟨l,e,q⟩:=S.frames;exact(ah l (h.trans e) q),S.gens,S.os⟩
end
section
variable{G:Gd}{A:Around}{Z:Zt}{L:HL}{H:bF}{s:Shared}
theorem au.around{A':Around}(S:au G A Z L H s)(h:A'.frames=A.frames):au G A' Z L H s:=by obtain⟨c,e,S⟩:=S;exact(ah c e (S.around h))
theorem au.new{c:P0}{o:Obj}(S:au G A Z L H s)(hf:o.isFreed=false)(hc:c.is Z G.w.params o)(t:Nat):au G A Z ((s.heap.objs.size,.p c)::L) H {s with heap:=s.heap.push o,toks:=t}:=by obtain⟨l,e,S⟩:=S;exact(ah _ (.cons (a:=s.heap.objs.size) (c:=.p c) rfl e) (S.new hf hc t))
theorem au.ed{c:P0}{o:Obj}(S:au G A Z L H s)(hf:o.isFreed=false)(hc:c.is Z G.w.params o)(t:Nat):au G A Z L ((s.heap.objs.size,c)::H) {s with heap:=s.heap.push o,toks:=t}:=by obtain⟨l,e,S⟩:=S;exact(ah _ e ((S.new hf hc t).perm List.perm_middle.symm))
theorem au.lr{o:Obj}(S:au G A Z L H s)(hf:o.isFreed=false)(t:Nat):au G A (Z.put s.heap.objs.size o) L H {s with heap:=s.heap.push o,toks:=t}:=by obtain⟨c,e,S⟩:=S;exact(ah c e (S.lr hf t))
theorem au.gU(S:au G A Z L H s):Z s.heap.objs.size=none:=by obtain⟨c,e,S⟩:=S;exact S.gU
inductive ap:HL->Addr->Cl->Prop
 |head{a c L:_}:ap ((a,c)::L) a c
 |tail{p L a c:_}:ap L a c->ap (p::L) a c
inductive bK:HL->Addr->Cl->Cl->HL->Prop
 |head{a c c' L:_}:bK ((a,c)::L) a c c' ((a,c')::L)
 |tail{p L L' a c c':_}:bK L a c c' L'->bK (p::L) a c c' (p::L')
theorem bK.split{L:HL}{a:Addr}(h:bK L a c c' L'):∃pre post,L=pre++(a,c)::post/\L'=pre++(a,c')::post:=by
 induction h with
 |head=>exact(co ([]) _ rfl rfl)
 |tail _ ih=>obtain⟨pre,post,rfl,rfl⟩:=ih;exact(co (_::pre) post rfl rfl)
theorem ap.split{L:HL}{a:Addr}(h:ap L a c):∃pre post,L=pre++(a,c)::post:=by
 induction h with
 |head=>exact(mw ([]) _ rfl)
 |tail _ ih=>obtain⟨pre,post,rfl⟩:=ih;exact(mw (_::pre) post rfl)
theorem bK.pick{L:HL}{a:Addr}(h:bK L a c c' L'):ap L a c:=by
 induction h with
 |head=>exact .head
 |tail _ ih=>exact .tail ih
theorem ap.bE{L:HL}{a:Addr}(h:ap L' a c):ap (L++L') a c:=by
 induction L with
 |nil=>exact h
 |cons p L ih=>exact .tail ih
theorem ap.gi{L L':HL}{a:Addr}(h:ap L a c):ap (L++L') a c:=by
 induction h with
 |head=>exact .head
 |tail _ ih=>exact .tail ih
theorem bK.bE{L:HL}{a:Addr}(h:bK L1 a c c' L2):bK (L++L1) a c c' (L++L2):=by
 induction L with
 |nil=>exact h
 |cons p L ih=>exact .tail ih
theorem bK.gi{L:HL}{a:Addr}(h:bK L1 a c c' L2):bK (L1++L) a c c' (L2++L):=by
 induction h with
 |head=>exact .head
 |tail _ ih=>exact .tail ih
theorem cR.at{pre post:HL}{a:Addr}{c:Cl}(h:cR (pre++(a,c)::post) l):∃l1 l2 l3,l=l1++(l2++l3)/\cR pre l1/\c.exp a l2/\cR post l3:=by
 lk
 refine j0 h.split λx y e h1 h2=>?_
 cases h2 with
 |cons q r=>exact(gI x _ _ e h1 q r)
theorem au.cell{a:Addr}{c:P0}(S:au G A Z L H s)(h:ap L a (.p c)):Z a=none/\∃o,s.heap.get? a=some o/\c.is Z G.w.params o:=by
 lk
 obtain⟨l,e,S⟩:=S
 lk
 refine i_ h.split λpre post aw=>?_;subst aw
 lk
 refine ew e.at λl1 l2 l3 aE U q U=>?_;subst aE;have q':l2=[(a,c)]:=q;subst q';exact S.cells (a,c) (by simp)
theorem au.iY{a:Addr}{c:P0}(S:au G A Z L ((a,c)::H) s):Z a=none/\∃o,s.heap.get? a=some o/\c.is Z G.w.params o:=by refine ai S λl e S=>?_;exact S.cells (a,c) (by simp)
theorem au.inst{a C:Addr}{attrs:SV}(S:au G A Z L H s)(h:ap L a (.obj C attrs)):∃d,s.heap.get? a=some (instObj C d)/\∃o,s.heap.get? d=some o/\(P0.d_ attrs).is Z G.w.params o:=by
 lk
 obtain⟨l,e,S⟩:=S
 lk
 refine i_ h.split λpre post aw=>?_;subst aw
 lk
 refine ew e.at λl1 l2 l3 aE U q U=>?_;subst aE
 lk
 obtain⟨d,rfl⟩:=q
 lk
 refine bW (S.cells (a,.inst C d) (by simp)) λU o h1 h2=>?_;have kx:o=instObj C d:=h2
 lk
 subst kx
 lk
 refine bW (S.cells (d,.d_ attrs) (by simp)) λU o' h3 h4=>?_;exact(xF d h1 o' h3 h4)
theorem St.ma{H':bF}{l:bF}{a:Addr}{c c':P0}{h':Heap}(S:St G A Z (l++(a,c)::H') s)(hs:SameBut a s.heap h')(ho:h'.get? a=some o)(hc:c'.is Z G.w.params o)(t:Nat)(hf:c'.isFrame=c.isFrame:=by rfl):
  St G A Z (l++(a,c')::H') {s with heap:=h',toks:=t}:=S.put hs ho hc t hf
theorem au.ma{a:Addr}{c c':P0}{h':Heap}(S:au G A Z L ((a,c)::H) s)(hs:SameBut a s.heap h')(ho:h'.get? a=some o)(hc:c'.is Z G.w.params o)(t:Nat)(hf:c'.isFrame=c.isFrame:=by rfl):
  au G A Z L ((a,c')::H) {s with heap:=h',toks:=t}:=by
 refine ai S λl e S=>?_;exact(ah l e (S.ma hs ho hc t hf))
theorem au.l_{a:Addr}{c c':P0}{h':Heap}(S:au G A Z L H s)(p:bK L a (.p c) (.p c') L')(hs:ExtBut a s.heap h')(ho:h'.get? a=some o)(hc:c'.is Z G.w.params o)(t:Nat)(hf:c'.isFrame=c.isFrame:=by rfl):
  au G A Z L' H {s with heap:=h',toks:=t}:=by
 lk
 refine ai S λl e S=>?_
 lk
 refine dn p.split λpre post aw aE=>?_;subst aw;subst aE
 lk
 refine ew e.at λl1 l2 l3 aE x1 q x3=>?_;subst aE;have q':l2=[(a,c)]:=q;subst q';refine(ah (l1++([(a,c')]++l3)) (x1.append (.cons (c:=.p c') rfl x3)) ?_);have:l1++([(a,c')]++l3)++H=l1++(a,c')::(l3++H):=by simp
 rw[this];refine St.l_ (c:=c) ?_ hs ho hc t hf;have:l1++([(a,c)]++l3)++H=l1++(a,c)::(l3++H):=by simp
 rw[this] at S;exact S
theorem au.put{a:Addr}{c c':P0}{h':Heap}(S:au G A Z L H s)(p:bK L a (.p c) (.p c') L')(hs:SameBut a s.heap h')(ho:h'.get? a=some o)(hc:c'.is Z G.w.params o)(t:Nat)(hf:c'.isFrame=c.isFrame:=by rfl):
  au G A Z L' H {s with heap:=h',toks:=t}:=S.l_ p hs.extBut ho hc t hf
theorem au.Rl{a C d:Addr}{attrs attrs':SV}{h':Heap}(S:au G A Z L H s)(p:bK L a (.obj C attrs) (.obj C attrs') L')(hd:s.heap.get? a=some (instObj C d))(hs:SameBut d s.heap h')(ho:h'.get? d=some o)(hc:(P0.d_ attrs').is Z G.w.params o)(t:Nat):
  au G A Z L' H {s with heap:=h',toks:=t}:=by
 lk
 obtain⟨l,e,S⟩:=S
 lk
 refine dn p.split λpre post aw aE=>?_;subst aw;subst aE
 lk
 refine ew e.at λl1 l2 l3 aE x1 q x3=>?_;subst aE
 lk
 obtain⟨d',rfl⟩:=q
 lk
 refine bW (S.cells (a,.inst C d') (by simp)) λU o2 h1 h2=>?_;have kx:o2=instObj C d':=h2;subst kx;rw[hd] at h1;have:d=d':=Option.some.inj (congrArg Obj.dict (Option.some.inj h1));subst this;refine(ah (l1++([(a,.inst C d),(d,.d_ attrs')]++l3)) (x1.append (.cons (c:=.obj C attrs') (iE d rfl) x3)) ?_);have:l1++([(a,.inst C d),(d,.d_ attrs')]++l3)++H=(l1++[(a,.inst C d)])++(d,.d_ attrs')::(l3++H):=by simp
 simp only[this];refine St.put (c:=.d_ attrs) ?_ hs ho hc t;have:l1++([(a,.inst C d),(d,.d_ attrs)]++l3)++H=(l1++[(a,.inst C d)])++(d,.d_ attrs)::(l3++H):=by simp
 rw[this] at S;exact S
end
inductive PE(G:Gd)(A:Around)(Z:Zt)(H:bF)(E:HL->Prop)(e:Value)(s':Shared):Prop where
 |mk(Z':Zt)(L':HL)(a:Addr)(le:Zt.Le Z Z')(he:e=.ref a)(S:au G A Z' ((a,.own G.exc)::L') H s')(q:E L')
inductive PQ{α β:Type}(R:Zt->β->α->Prop)(G:Gd)(A:Around)(Z:Zt)(H:bF)(Q:β->HL->Prop)(v:α)(s':Shared):Prop where
 |mk(Z':Zt)(L':HL)(x:β)(le:Zt.Le Z Z')(S:au G A Z' L' H s')(r:R Z' x v)(q:Q x L')
@[irreducible] def JR {α β:Type} (R:Zt->β->α->Prop) (G:Gd) (A:Around) (Z:Zt) (H:bF) (L:HL) (t:Sem α) (Q:β->HP) (E:HP):Prop:=∀s,au G A Z L H s->ag G.w A t (PQ R G A Z H Q) (PE G A Z H E) s
abbrev J:=@JR Value V Is
def ve{α:Type}(_:Zt)(x y:α):Prop:=y=x
abbrev JP(α:Type):=@JR α α ve
abbrev JL:=@JR LV (List V) aZ
section
variable{α β γ δ:Type}{R:Zt->β->α->Prop}{R':Zt->δ->γ->Prop}{G:Gd}{A:Around}{Z:Zt}{L:HL}{H:bF}{E:HP}
theorem JR.bP{t:Sem α}{Q:β->HP}(h:∀s,au G A Z L H s->ag G.w A t (PQ R G A Z H Q) (PE G A Z H E) s):JR R G A Z H L t Q E:=by unfold JR;exact h
theorem JR.mk{t:Sem α}{Q:β->HP}(h:∀s,au G A Z L H s->wpAny (model aH G.w) A t (PQ R G A Z H Q) (PE G A Z H E) s):JR R G A Z H L t Q E:=.bP λs S=>aP (h s S)
theorem JR.run{t:Sem α}{Q:β->HP}(h:JR R G A Z H L t Q E):∀s,au G A Z L H s->ag G.w A t (PQ R G A Z H Q) (PE G A Z H E) s:=by unfold JR at h;exact h
theorem PE.le(h:Zt.Le Z Z'):PE G A Z' H E e s->PE G A Z H E e s:=λ⟨Z2,L',a,h1,h2,h3,h4⟩=>⟨Z2,L',a,h.trans h1,h2,h3,h4⟩
theorem PQ.le(h:Zt.Le Z Z'){Q:β->HP}{v:α}:PQ R G A Z' H Q v s->PQ R G A Z H Q v s:=λ⟨Z2,L',a,h1,h2,h3,h4⟩=>⟨Z2,L',a,h.trans h1,h2,h3,h4⟩
theorem JR.mono{t:Sem α}{Q Q':β->HP}{E':HP}(h:JR R G A Z H L t Q E)(k:∀x L,Q x L->Q' x L)(k':∀L,E L->E' L):JR R G A Z H L t Q' E':=.bP λs S=>ay (h.run s S) (λU U ⟨Z',L',x,a,b,c,d⟩=>⟨Z',L',x,a,b,c,k _ _ d⟩) (λU U ⟨Z',L',x,a,b,c,d⟩=>⟨Z',L',x,a,b,c,k' _ d⟩)
theorem JR.ig{a:α}{x:β}{Q:β->HP}(hr:R Z x a)(h:Q x L):JR R G A Z H L (pure a) Q E:=.mk λU S=>wP ⟨Z,L,x,.refl _,S,hr,h⟩
theorem JR.ii{m:Sem γ}{f:γ->Sem α}{Q:β->HP}{Q1:δ->HP}(h:JR R' G A Z H L m Q1 E)(k:∀Z' v x L',Zt.Le Z Z'->R' Z' x v->Q1 x L'->JR R G A Z' H L' (f v) Q E):JR R G A Z H L (m>>=f) Q E:=.bP λs S=>nB (ay (h.run s S) (λv s' ⟨Z',L',x,a,b,c,d⟩=>ay ((k Z' v x L' a c d).run s' b) (λU U=>PQ.le a) (λU U=>PE.le a)) (λU U x=>x))
theorem JR.hold{vs:LV}{m:Sem α}{Q:β->HP}(h:JR R G A Z H L m Q E):JR R G A Z H L (holding vs m) Q E:=.bP λs S=>b9 (h.run s S)
theorem JR.qS{f:Unit->Sem α}{Q:β->HP}(h:JR R G A Z H L (f ()) Q E):JR R G A Z H L (standAt pos>>=f) Q E:=.bP λs S=>nB (jp (h.run s S))
theorem JR.lift{T:Sem α}{a:α}{x:β}{Q:β->HP}(r:∀(Q':α->SP)(E':VS) s,(∀t,Q' a {s with toks:=t})->wpAny (model aH G.w) A T Q' E' s)(hr:R Z x a)(h:Q x L):JR R G A Z H L T Q E:=.mk λs S=>r _ _ s λt=>⟨Z,L,x,.refl _,S.toks,hr,h⟩
theorem JR.liftT{T:Sem α}{f:Tok->α}{x:β}{Q:β->HP}(r:∀(Q':α->SP)(E':VS) s,(∀t u,Q' (f t) {s with toks:=u})->wpAny (model aH G.w) A T Q' E' s)(hr:∀t,R Z x (f t))(h:Q x L):JR R G A Z H L T Q E:=.mk λs S=>r _ _ s λt U=>⟨Z,L,x,.refl _,S.toks,hr t,h⟩
end
theorem mK:∀{ns:List Str}{vs:LV},ns.Nodup->∀{i:Nat}{n:Str}{v:Value},ns[i]?=some n->vs[i]?=some v->(ns.zip vs).lookup n=some v
 |[],_,_,i,_,_,h,_=>by simp at h
 |a::ns,[],_,i,_,_,_,h=>by simp at h
 |a::ns,w::vs,hn,0,n,v,h,h'=>by simp at h h';subst h h';simp
 |a::ns,w::vs,hn,i+1,n,v,h,h'=>by
  have:(n==a)=false:=by
   have:n≠a:=by rintro rfl;exact(List.nodup_cons.mp hn).1 (mem_of_getElem? (i:=i) (by simpa using h):n∈ns)
   simpa using this
  simp only[zip_cons_cons,lookup_cons,this];exact mK (List.nodup_cons.mp hn).2 (by simpa using h) (by simpa using h')
theorem vI(n:Nat):∀(names:List (Str×NameKind))(k:Nat)(acc:List (Str×Addr)),
  cellsFrom (n+k) names (acc.map λp=>(p.1,n+p.2))=(cellsFrom k names acc).map λp=>(p.1,n+p.2)
 |[],_,_=>rfl
 |(x,kd)::r,k,acc=>by
  unfold cellsFrom
  split
  ·have:=vI n r (k+1) ((x,k)::acc);rw[←Nat.add_assoc] at this;exact this
  ·exact vI n r k acc
theorem At(f:Addr->Addr)(x:Str):∀l:List (Str×Addr),(l.map λp=>(p.1,f p.2)).lookup x=(l.lookup x).map f
 |[]=>rfl
 |(y,a)::r=>by
  rw[map_cons,lookup_cons,lookup_cons]
  cases x==y with
  |true=>rfl
  |false=>exact At f x r
theorem ww{names:List (Str×NameKind)}{j:Nat}(h:(cellsFrom 1 names []).lookup x=some (1+j))(n:Nat):(cellsFrom (n+1) names []).lookup x=some (n+(1+j)):=by have:=vI n names 1 [];rw[List.map_nil] at this;rw[this,At,h];rfl
structure Bs(G:Gd)(K:Frag):Prop where
 fu:K.In G.h₀
 nolimit:G.h₀.NoLimit
 Rn:∃o,G.h₀.get? sysModules=some o
 names:∃mg mb,G.h₀.Ns mainGlobals mg/\G.h₀.Ns builtinsNs mb/\∀x:Str,x≠"__name__"->mb x=bootBuiltins x
noncomputable abbrev xL (fd:FuncData):Obj:={cls:=.type "function",data:=.func fd}
noncomputable def qT (K:Frag) (fd:FuncData) (params:List Str) (locs dq:List (Str×Option Nat)) (gs:List Str):Bool:=
 decide params.Nodup&&codeIn K fd.code fd.qualname&&fd.scope.kind==.function&&!fd.scope.isGenerator&&!fd.scope.isCoroutine&&
 fd.closure.isEmpty&&fd.globals==mainGlobals&&fd.builtins==builtinsNs&&
 locs.all (λp=>fd.scope.names.lookup p.1==some .local&&p.2==params.idxOf? p.1)&&decide (locs.map (·.1)).Nodup&&
 dq.zipIdx.all (λp=>fd.scope.names.lookup p.1.1==some .cell&&p.1.2==params.idxOf? p.1.1&&(cellsFrom 1 fd.scope.names []).lookup p.1.1==some (1+p.2))&&
 params.all (λn=>locs.any (·.1==n)||dq.any (·.1==n))&&
 gs.all (λn=>fd.scope.names.lookup n==some .globalImplicit)
noncomputable def gv (fd:FuncData) (f fr:Addr):Env:=newEnv fd.scope fr fd.globals (cellsFrom (fr+1) fd.scope.names []) (fd.qualname++".<locals>.") (some f) fd.code none fd.builtins
noncomputable def t5 (fr:Addr) (dq:List (Str×Option Nat)) (xs:List V):bF:=dq.zipIdx.map λp=>(fr+(1+p.2),.cY (p.1.2.bind (xs[·]?)))
theorem BA(kd:Str->Option NameKind)(x:Str):∀(ns:List Str)(vs:LV)(m:Str->Option Value),ns.Nodup->
  bindL kd (ns.zip vs) m x=if kd x=some .local then(match(ns.zip vs).lookup x with|some v=>some v|none=>m x) else m x
 |[],vs,m,_=>(ite_self _).symm
 |n::ns,[],m,_=>(ite_self _).symm
 |n::ns,v::vs,m,h=>by
  obtain⟨h1,h2⟩:=List.nodup_cons.mp h;refine(BA kd x ns vs _ h2).trans ?_;rw[zip_cons_cons,lookup_cons];by_cases e:x=n
  ·subst e
   have:(ns.zip vs).lookup x=none:=by
    cases q:(ns.zip vs).lookup x with
    |none=>rfl
    |some u=>exact absurd (of_mem_zip (mem_of_lookup q)).1 h1
   rw[this];by_cases k:kd x=some .local<;>simp[k]
  ·have e':(x==n)=false:=by simpa using e
   rw[e'];by_cases k:kd x=some .local
   ·rw[if_pos k,if_pos k]
    cases (ns.zip vs).lookup x with
    |some u=>rfl
    |none=>by_cases kn:kd n=some .local<;>simp[kn,e]
   ·rw[if_neg k,if_neg k];by_cases kn:kd n=some .local<;>simp[kn,e]
theorem BB(kd:Str->Option NameKind)(x:Str):∀(ns:List Str)(vs:LV)(m:Str->Option Value),ns.Nodup->
  bindC kd (ns.zip vs) m x=if kd x=some .local then m x else(match(ns.zip vs).lookup x with|some v=>some v|none=>m x)
 |[],vs,m,_=>(ite_self _).symm
 |n::ns,[],m,_=>(ite_self _).symm
 |n::ns,v::vs,m,h=>by
  obtain⟨h1,h2⟩:=List.nodup_cons.mp h;refine(BB kd x ns vs _ h2).trans ?_;rw[zip_cons_cons,lookup_cons];by_cases e:x=n
  ·subst e
   have:(ns.zip vs).lookup x=none:=by
    cases q:(ns.zip vs).lookup x with
    |none=>rfl
    |some u=>exact absurd (of_mem_zip (mem_of_lookup q)).1 h1
   rw[this];by_cases k:kd x=some .local<;>simp[k]
  ·have e':(x==n)=false:=by simpa using e
   rw[e'];by_cases k:kd x=some .local
   ·rw[if_pos k,if_pos k];by_cases kn:kd n=some .local<;>simp[kn,e]
   ·rw[if_neg k,if_neg k]
    cases (ns.zip vs).lookup x with
    |some u=>rfl
    |none=>by_cases kn:kd n=some .local<;>simp[kn,e]
theorem oB:∀{ns:List Str}{vs:List (Option V)},ns.Nodup->∀{i:Nat}{n:Str}{v:Option V},ns[i]?=some n->vs[i]?=some v->lM ns vs n=v
 |[],_,_,i,_,_,h,_=>by simp at h
 |a::ns,[],_,i,_,_,_,h=>by simp at h
 |a::ns,w::vs,hn,0,n,v,h,h'=>by simp at h h';subst h h';exact if_pos rfl
 |a::ns,w::vs,hn,i+1,n,v,h,h'=>by
  have:n≠a:=by rintro rfl;exact(List.nodup_cons.mp hn).1 (mem_of_getElem? (i:=i) (by simpa using h):n∈ns)
  exact(if_neg this).trans<|oB (List.nodup_cons.mp hn).2 (by simpa using h) (by simpa using h')
theorem sB{x:Str}:∀{ns:List Str}{vs:List (Option V)},x∉ns->lM ns vs x=none
 |[],_,_=>by rfl
 |a::ns,[],_=>by rfl
 |a::ns,w::vs,h=>by exact(if_neg (λe=>h (e▸mem_cons_self):x≠a)).trans<|sB λq=>h (mem_cons_of_mem _ q)
theorem Aw{xs:List V}{vs:LV}(hv:aZ Z xs vs){params:List Str}(hn:params.Nodup)(hl:params.length=xs.length)(x:Str):
  oS Z ((params.idxOf? x).bind (xs[·]?)) ((params.zip vs).lookup x):=by
 cases q:params.idxOf? x with
 |none=>
  have hx:x∉params:=by simpa [List.idxOf?_eq_none_iff] using q
  show _=none
  cases q':(params.zip vs).lookup x with
  |none=>rfl
  |some u=>exact absurd (of_mem_zip (mem_of_lookup q')).1 hx
 |some i=>
  have hi:params[i]?=some x:=by rw[List.idxOf?,List.findIdx?_eq_some_iff_getElem] at q;refine ai q λh e U=>?_;rw[gE h];exact congrArg some (beq_iff_eq.mp e)
  have aT:i<xs.length:=hl▸(gS hi).1;have vf:=gE aT;refine ai (hv.get vf) λt ht hI=>?_;simp only[Option.bind_some,vf];exact(ah t (mK hn hi ht) hI)
theorem E6(n j:Nat):n+(1+j)≠n:=aa ⟨2,0,[],.no (.en (.a .v0 (.eU 1 1)) .v0)⟩
theorem DV{n a:Nat}(j:Nat)(h:a<n):n+(1+j)≠a:=aa ⟨3,0,[.bg 0 1],.no (.en (.a .v1 (.eU 1 2)) .v0)⟩ h
theorem MD{α:Type}(l:List α)(k:Nat):(l.zipIdx k).map Prod.snd=List.range' k l.length:=by
 induction l generalizing k with
 |nil=>rfl
 |cons a l ih=>rw[zipIdx_cons,map_cons,ih];rfl
theorem enter{G:Gd}{K:Frag}{A:Around}{s:Shared}{R:Result->SP}{fd:FuncData}{body:List Stmt}{f:Addr}{params:List Str}{locs dq:List (Str×Option Nat)}{xs:List V}{vs us:LV}
  {names:List Str}{m0:List (Option V)}{gs:List Str}
  (B:Bs G K)(S:St G A Z L s)(xG:A.depth<recursionLimit)(ho:K.lookup f=some (xL fd))(ck:qT K fd params locs dq gs=true)(xM:BindsTo s fd ⟨vs,[]⟩ (params.zip us))(hb:fd.body=.stmts body)
  (hv:aZ Z xs us)(hl:params.length=xs.length)
  (e1:locs.map (·.1)=names)(e2:locs.map (λp=>p.2.bind (xs[·]?))=m0)
  (h:∀fr s',St G (A.deeper (gv fd f fr)) Z ((fr,.frame names m0)::(t5 fr dq xs++L)) s'->
   ag G.w (A.deeper (gv fd f fr)) (execs body (gv fd f fr)) (λfl s'=>R (.ok (.ret (match fl with|.ret v=>v|_=>.none))) s')
    (λe s'=>wpAny (model aH G.w) (A.deeper (gv fd f fr)) (leaving (gv fd f fr) e) (λU eg=>R (.error e) eg) (λe' eg=>R (.error e') eg) s') s'):
  cw G.w A (.call (.ref f) ⟨vs,[]⟩) R s:=by
 lk
 subst e1 e2;unfold qT at ck
 lk
 obtain⟨ck,zq⟩:=tB ck
 lk
 obtain⟨ck,rJ⟩:=tB ck
 lk
 obtain⟨ck,my⟩:=tB ck
 lk
 obtain⟨ck,rK⟩:=tB ck
 lk
 obtain⟨ck,nY⟩:=tB ck
 lk
 obtain⟨ck,c9⟩:=tB ck
 lk
 obtain⟨ck,c8⟩:=tB ck
 lk
 obtain⟨ck,c7⟩:=tB ck
 lk
 obtain⟨ck,c6⟩:=tB ck
 lk
 obtain⟨ck,c5⟩:=tB ck;obtain⟨ck,c4⟩:=tB ck;obtain⟨c2,c3⟩:=tB ck;clear ck zq
 replace rJ:∀n∈params,(∃p,p∈locs/\p.1=n)\/(∃p,p∈dq/\p.1=n):=λn hn=>(Bool.or_eq_true_iff.mp (List.all_eq_true.mp rJ n hn)).imp
  (λh=>(List.any_eq_true.mp h).imp λU h=>⟨h.1,eq_of_beq h.2⟩) (λh=>(List.any_eq_true.mp h).imp λU h=>⟨h.1,eq_of_beq h.2⟩)
 replace my:∀p∈dq.zipIdx,(fd.scope.names.lookup p.1.1=some .cell/\p.1.2=params.idxOf? p.1.1)/\(cellsFrom 1 fd.scope.names []).lookup p.1.1=some (1+p.2):=λp hp=>by refine xA (tB (List.all_eq_true.mp my p hp)) λh h3=>?_;refine xA (tB h) λh1 h2=>?_;exact⟨⟨eq_of_beq h1,eq_of_beq h2⟩,eq_of_beq h3⟩
 replace rK:=of_decide_eq_true rK
 replace nY:∀p∈locs,fd.scope.names.lookup p.1=some .local/\p.2=params.idxOf? p.1:=λp hp=>by refine xA (tB (List.all_eq_true.mp nY p hp)) λh1 h2=>?_;exact⟨eq_of_beq h1,eq_of_beq h2⟩
 replace c7:=List.isEmpty_iff.mp c7
 replace c6:fd.scope.isCoroutine=false:=(not_eq_true' _).mp c6
 replace c5:fd.scope.isGenerator=false:=(not_eq_true' _).mp c5
 replace c4:fd.scope.kind=.function:=eq_of_beq c4
 replace c2:=of_decide_eq_true c2
 have KX:=B.fu.keeps S.h0;have rF:=codeRec_of KX c3;refine CZ (fd:=fd) (body:=.func _) xG (KX _ _ ho) rfl c6 c5 (λU=>by rw[hb];rfl) rF ?_;refine xM _ _ _ _ ?_;refine(c7)▸?_
 have Of:∀x∈params.zip us,fd.scope.names.lookup x.1=some .local\/(fd.scope.names.lookup x.1=some .cell/\((cellsFrom (s.heap.objs.size+1) fd.scope.names []).lookup x.1).isSome=true):=by
  intro x hx;have hp:=(of_mem_zip hx).1
  lk
  rcases rJ x.1 hp with⟨p,hm,e⟩|⟨p,hm,e⟩
  ·exact .inl (e▸(nY p hm).1)
  ·refine xE (getElem?_of_mem hm) λi hi=>?_
   have hz:(p,i)∈dq.zipIdx:=by rw[List.mem_zipIdx_iff_getElem?];exact hi
   have z:=my (p,i) hz;refine .inr ⟨e▸z.1.1,?_⟩;rw[←e,ww z.2];rfl
 refine wpAny_newFunctionEnv_cells c4 Of λenv he s' x=>?_;have hE:env=gv fd f s.heap.objs.size:=by rw[he];rfl
 subst hE;refine i_ x.toInCall.same λhs tk aw=>?_;subst aw;have um:∀b o,s.heap.get? b=some o->hs.get? b=some o:=x.toInCall.keep;refine⟨(B.nolimit.keeps S.h0).keeps um,PV ?_⟩;refine h s.heap.objs.size {s with heap:=hs,toks:=tk} ?_;have nZ:(gv fd f s.heap.objs.size).locals=s.heap.objs.size:=rfl;have xi:(gv fd f s.heap.objs.size).cells=cellsFrom (s.heap.objs.size+1) fd.scope.names []:=rfl;have G':∀y,(gv fd f s.heap.objs.size).kindOf y=fd.scope.names.lookup y:=λU=>rfl
 have zr:∀(c:Str×Option Nat)(j:Nat),(c,j)∈dq.zipIdx->(gv fd f s.heap.objs.size).cells.lookup c.1=some (s.heap.objs.size+(1+j)):=λc j hz=>by rw[xi];exact ww (my (c,j) hz).2 _
 have qw:∀p∈t5 s.heap.objs.size dq xs,∃c j,(c,j)∈dq.zipIdx/\p=(s.heap.objs.size+(1+j),.cY (c.2.bind (xs[·]?))):=λp hp=>by refine ai (List.mem_map.mp hp) λrL hz aw=>?_;obtain⟨c,j⟩:=rL;refine av (Eq.symm aw) ?_;exact(co c j hz rfl)
 have md:∀p∈L,p.1<s.heap.objs.size:=λp hp=>S.low hp
 have G_:∀j,Z (s.heap.objs.size+j)=none:=λj=>by
  cases q:Z (s.heap.objs.size+j) with
  |none=>rfl
  |some o=>exact absurd (lt_size (S.keep _ _ q)) (Nat.not_lt.mpr (Nat.le_add_right _ _))
 have fw:=x.toInCall.ns;refine⟨S.base,λb o e=>um b o (S.keep b o e),?_,?_,?_,S.gens,S.os⟩
 ·rw[map_cons,map_append,nodup_cons];refine⟨λhm=>?_,?_⟩
  ·lk
   rcases List.mem_append.mp hm with hm|hm
   ·obtain⟨p,hp,e⟩:=List.mem_map.mp hm;refine dn (qw p hp) λc j U aE=>?_;subst aE;exact E6 _ _ e
   ·refine ai (List.mem_map.mp hm) λp hp e=>?_;exact ne_of_lt (md p hp) e
  ·rw[nodup_append];refine(bj ?_ S.nd ?_)
   ·unfold t5;rw[map_map];show(List.map (λp:(Str×Option Nat)×Nat=>s.heap.objs.size+(1+p.2)) dq.zipIdx).Nodup;rw[show(λp:(Str×Option Nat)×Nat=>s.heap.objs.size+(1+p.2))=(λn=>s.heap.objs.size+(1+n))∘Prod.snd from rfl,←map_map,MD];exact List.Pairwise.map _ (λa b(h:a≠b) e=>h (Nat.add_left_cancel (Nat.add_left_cancel e))) (List.nodup_range' (s:=0) (n:=dq.length))
   ·intro a ha b hb e;refine ai (List.mem_map.mp ha) λp hp aw=>?_;subst aw;refine ai (List.mem_map.mp hb) λq hq aw=>?_;subst aw;refine dn (qw p hp) λc j U aE=>?_;subst aE;exact DV j (md q hq) e
 ·intro p hp
  lk
  rcases List.mem_cons.mp hp with rfl|hp
  ·refine ew fw λo es ep zs SJ hk hm=>?_;refine⟨G_ 0,o,zs,by simp,rK,es,ep,SJ,hk,λy=>?_⟩;rw[hm y,BA _ _ _ _ _ c2,G'];by_cases hy:y∈locs.map (·.1)
   ·refine ai (List.mem_map.mp hy) λq hq aw=>?_;refine av (Eq.symm aw) ?_;obtain⟨i,hi⟩:=getElem?_of_mem hq;rw[if_pos (nY q hq).1,oB rK (i:=i) (v:=q.2.bind (xs[·]?)) (by rw[getElem?_map,hi];rfl) (by rw[getElem?_map,hi];rfl),(nY q hq).2];have:=Aw hv c2 hl q.1
    revert this
    generalize ((params.zip us).lookup q.1)=u
    intro this
    cases u<;>exact this
   ·rw[sB hy];show _=none;by_cases jH:fd.scope.names.lookup y=some .local
    ·rw[if_pos jH]
     have:(params.zip us).lookup y=none:=by
      cases q:(params.zip us).lookup y with
      |none=>rfl
      |some u=>
       have hp:=(of_mem_zip (mem_of_lookup q)).1
       lk
       rcases rJ y hp with⟨p,hm,e⟩|⟨p,hm,e⟩
       ·exact absurd (List.mem_map.mpr (ah p hm e)) hy
       ·obtain⟨i,hi⟩:=getElem?_of_mem hm;have hz:(p,i)∈dq.zipIdx:=by rw[List.mem_zipIdx_iff_getElem?];exact hi
        have z:=(my (p,i) hz).1.1;rw[e,jH] at z;cases z
     rw[this]
    ·rw[if_neg jH]
  ·lk
   rcases List.mem_append.mp hp with hp|hp
   ·lk
    refine dn (qw p hp) λc j hz aE=>?_;subst aE;refine ai (x.cell c.1 _ (zr c j hz)) λo ho ei=>?_;refine⟨G_ _,o,ho,_,ei,?_⟩;have z:=(my (c,j) hz).1;rw[BB _ _ _ _ _ c2,G',if_neg (by rw[z.1];decide),z.2];have:=Aw hv c2 hl c.1
    revert this
    generalize ((params.zip us).lookup c.1)=u
    intro this
    cases u<;>exact this
   ·refine bW (S.cells p hp) λz o ho hc=>?_;exact(dc z o (um _ _ ho) hc)
 ·refine ai S.frames λl e q=>?_;refine(ah (gv fd f s.heap.objs.size::l) (by rw[show(A.deeper (gv fd f s.heap.objs.size)).frames=A.frames.map (gv fd f s.heap.objs.size::·) from rfl,e];rfl) (λenv he=>?_))
  lk
  rcases List.mem_cons.mp he with rfl|he
  ·refine dJ fw λo es ep zs fT U=>?_;refine(lP c4 s.heap.objs.size o rfl (bj zs (λvs q=>by rw[fT] at q;cases q) S.gU) (λp hp e=>?_));rcases List.mem_cons.mp hp with rfl|hp
   ·rfl
   ·rcases List.mem_append.mp hp with hp|hp
    ·refine dn (qw p hp) λc j hz aE=>?_;subst aE;exact absurd e (E6 _ _)
    ·exact absurd (md p hp) (e▸lt_irrefl _)
  ·lk
   refine kP (q env he) λhk f' o e1 e2 e3=>?_;refine(lP hk f' o e1 ⟨um _ _ e2.1,e2.2⟩ (λp hp e=>?_));have aT:=lt_size e2.1;rcases List.mem_cons.mp hp with rfl|hp
   ·rfl
   ·rcases List.mem_append.mp hp with hp|hp
    ·refine dn (qw p hp) λc j hz aE=>?_;subst aE;exact absurd e (DV j aT)
    ·exact e3 p hp e
structure Rm(A:Around)(d:Nat):Prop where
 depth:A.depth+3*d<recursionLimit
 units:A.units+8*d+20<cLine
 handled:A.handled=none
 guards:A.guards=some []
section
variable{A:Around}{d e:Nat}
theorem Rm.deeper(h:Rm A (d+1)):Rm (A.deeper env) d:=by
 refine⟨?_,?_,h.handled,h.guards⟩
 ·have:=h.depth;show A.depth+1+3*d<_;exact aa FF this
 ·have:=h.units;show A.units+3+8*d+20<_;exact aa ⟨3,0,[.tn (.a (.a .v0 (.m 8 (.aj 1 1))) (.k 20)) .v2],.tn (.a (.a (.aj 0 3) (.m 8 .v1)) (.k 20)) .v2⟩ this
theorem Rm.room(h:Rm A d):A.depth<recursionLimit:=by have:=h.depth;exact aa ⟨3,0,[.tn (.a .v0 (.m 3 .v1)) .v2],.bg 0 2⟩ this
theorem Rm.u0(h:Rm A d):A.units<cLine:=by have:=h.units;exact aa ⟨3,0,[.tn (.a (.a .v0 (.m 8 .v1)) (.k 20)) .v2],.bg 0 2⟩ this
theorem Rm.u1(h:Rm A d):A.in1.units<cLine:=by have:=h.units;show A.units+1<_;exact aa ym this
end
def Back(G:Gd)(A:Around)(Z:Zt)(H:bF)(Q:VP)(E:HP)(r:Result)(s':Shared):Prop:=match r with
 |.ok (.ret v)=>PQ Is G A Z H Q v s'
 |.ok _=>False
 |.error e=>PE G A Z H E e s'
structure Sp(G:Gd)(f:Addr)(d:Nat)(xs:List V)(L:HL)(Q:V->HL->Prop)(E:HL->Prop:=λU=>False):Prop where
 run:∀A Z H vs s,Rm A d->aZ Z xs vs->au G A Z L H s->cw G.w A (.call (.ref f) ⟨vs,[]⟩) (Back G A Z H Q E) s
theorem Back.mono{G A Z H Q Q' E E' r s:_}(k:∀x L,Q x L->Q' x L)(k':∀L,E L->E' L)(h:Back G A Z H Q E r s):Back G A Z H Q' E' r s:=by
 cases r with
 |ok fl=>
  cases fl with
  |ret v=>cases h with|mk Z' L' x a b c d=>exact⟨Z',L',x,a,b,c,k _ _ d⟩
  |_=>exact h
 |error e=>cases h with|mk Z' L' x a b c d=>exact⟨Z',L',x,a,b,c,k' _ d⟩
theorem Sp.mono{G f d xs L Q Q' E E':_}(h:Sp G f d xs L Q E)(k:∀x L,Q x L->Q' x L)(k':∀L,E L->E' L):Sp G f d xs L Q' E':=⟨λA Z H vs s hR hv S=>j4 (h.run A Z H vs s hR hv S) λU U=>Back.mono k k'⟩
theorem Sp.call{f:Addr}{d:Nat}{xs:List V}{vs:LV}{Q:VP}{E:HP}
  (h:Sp G f d xs L Q E)(hR:Rm A d)(hv:aZ Z xs vs):J G A Z H L (call (.ref f) vs []) Q E:=.bP λs S=>
 j3 (j4 (h.run A Z H vs s hR hv S) λr s' hr=>by
  match r,hr with
  |.ok (.ret v),q=>exact q
  |.error e,q=>exact q)
structure Lo where
 l:List (Option V)
 c:List (Option V)
structure Fn where
 env:Env
 fr:Addr
 names:List Str
 cells:List (Option Str×Addr)
 globs:SV
 gw:Bool:=true
def oU(G:Gd)(x:Str)(v:V):Prop:=∀A Z H L env Q E,env.globals=mainGlobals->env.builtins=builtinsNs->Q v L->J G A Z H L (loadGlobal env x) Q E
structure bv(G:Gd)(F:Fn):Prop where
 kind:F.env.scope.kind=.function
 loc:F.env.locals=F.fr
 gl:F.env.globals=mainGlobals
 bu:F.env.builtins=builtinsNs
 names:∀x∈F.names,F.env.kindOf x=some .local/\(x==("__debug__":Str))=false
 cells:∀x c,(some x,c)∈F.cells->((F.env.kindOf x=some .cell\/F.env.kindOf x=some .free)/\(x==("__debug__":Str))=false/\(x==("__classdict__":Str))=false)/\F.env.cells.lookup x=some c
 gw:F.gw=true->∀x c,(some x,c)∈F.cells->F.env.kindOf x=some .cell
 globs:∀p∈F.globs,F.env.kindOf p.1=some .globalImplicit/\(p.1==("__debug__":Str))=false/\oU G p.1 p.2
noncomputable def Fn.own (F:Fn) (σ:Lo):bF:=(F.fr,.frame F.names σ.l)::zipWith (λ(p:Option Str×Addr) v=>(p.2,.cY v)) F.cells σ.c
inductive Fl where
 |next|brk|cont|ret (v:V)
inductive ny(Z:Zt):Fl->Flow->Prop
 |next:ny Z .next .next
 |brk:ny Z .brk .brk
 |cont:ny Z .cont .cont
 |ret{x v:_}:Is Z x v->ny Z (.ret x) (.ret v)
inductive PS{α β:Type}(R:Zt->β->α->Prop)(F:Fn)(G:Gd)(A:Around)(Z:Zt)(H:bF)(Q:β->Lo->HL->Prop)(f:α)(s':Shared):Prop where
 |mk(Z':Zt)(σ':Lo)(L':HL)(fl:β)(le:Zt.Le Z Z')(S:au G A Z' L' (F.own σ'++H) s')(r:R Z' fl f)(q:Q fl σ' L')
inductive dz(F:Fn)(G:Gd)(A:Around)(Z:Zt)(H:bF)(E:Lo->HL->Prop)(e:Value)(s':Shared):Prop where
 |mk(Z':Zt)(σ':Lo)(L':HL)(a:Addr)(le:Zt.Le Z Z')(he:e=.ref a)(S:au G A Z' ((a,.own G.exc)::L') (F.own σ'++H) s')(q:E σ' L')
@[irreducible] def ky {α β:Type} (R:Zt->β->α->Prop) (F:Fn) (G:Gd) (A:Around) (Z:Zt) (H:bF) (σ:Lo) (L:HL) (t:Sem α) (Q:β->Lo->HP) (E:Lo->HP):Prop:=∀s,au G A Z L (F.own σ++H) s->ag G.w A t (PS R F G A Z H Q) (dz F G A Z H E) s
abbrev JS:=@ky Flow Fl ny
abbrev JU:=@ky Unit Unit ve
section
variable{α β γ δ:Type}{R:Zt->β->α->Prop}{R':Zt->δ->γ->Prop}{F:Fn}{G:Gd}{A:Around}{Z:Zt}{H:bF}{σ:Lo}{L:HL}{t:Sem α}{Q Q':β->Lo->HP}{E E':Lo->HP}
theorem ky.bP(h:∀s,au G A Z L (F.own σ++H) s->ag G.w A t (PS R F G A Z H Q) (dz F G A Z H E) s):ky R F G A Z H σ L t Q E:=by unfold ky;exact h
theorem ky.mk(h:∀s,au G A Z L (F.own σ++H) s->wpAny (model aH G.w) A t (PS R F G A Z H Q) (dz F G A Z H E) s):ky R F G A Z H σ L t Q E:=.bP λs S=>aP (h s S)
theorem ky.run(h:ky R F G A Z H σ L t Q E):∀s,au G A Z L (F.own σ++H) s->ag G.w A t (PS R F G A Z H Q) (dz F G A Z H E) s:=by unfold ky at h;exact h
theorem PS.le(h:Zt.Le Z Z'){f s:_}:PS R F G A Z' H Q f s->PS R F G A Z H Q f s:=λ⟨Z2,a,b,c,h1,h2,h3,h4⟩=>⟨Z2,a,b,c,h.trans h1,h2,h3,h4⟩
theorem dz.le(h:Zt.Le Z Z'){e s:_}:dz F G A Z' H E e s->dz F G A Z H E e s:=λ⟨Z2,a,b,c,h1,h2,h3,h4⟩=>⟨Z2,a,b,c,h.trans h1,h2,h3,h4⟩
end
theorem IP{ns:List Str}(hn:ns.Nodup){i:Nat}{x:Str}(hi:ns[i]?=some x)(v:V)(y:Str):∀{vs:List (Option V)},ns.length=vs.length->lM ns (vs.set i (some v)) y=if y=x then some v else lM ns vs y:=by
 intro vs hl;by_cases e:y=x
 ·refine av e ?_;rw[if_pos rfl];have aT:i<vs.length:=hl▸(gS hi).1;exact oB hn hi (by rw[getElem?_set_self aT])
 ·rw[if_neg e];by_cases hy:y∈ns
  ·refine xE (getElem?_of_mem hy) λj hj=>?_;have aT:j<vs.length:=hl▸(gS hj).1;have zt:i≠j:=by rintro rfl;rw[hi] at hj;exact e (Option.some.inj hj).symm
   have:=gE aT;rw[oB hn hj this,oB hn hj (by rw[getElem?_set_ne zt];exact this)]
  ·rw[sB hy,sB hy]
section
variable{F:Fn}{G:Gd}{A:Around}{Z:Zt}{H:bF}{σ:Lo}{L:HL}
theorem J.name{i:Nat}{Q:VP}{E:HP}(ok:bv G F)(hi:F.names[i]?=some x)(hv:σ.l[i]?=some (some v))(k:Q v L):
  J G A Z (F.own σ++H) L (eval (.Name x pos) F.env) Q E:=.mk λs S=>by
 lk
 refine sK S.iY λU o ho hl hn es ep hd hk hm=>?_;have hf:=hm x;rw[oB hn hi hv] at hf;refine ai hf λu ht hI=>?_;have hx:=ok.names x (mem_of_getElem? hi);exact wpAny_Name (wpAny_loadName_local ok.kind hx.1 (m:=nsFind es) (gI o es ep (ok.loc.symm▸ho) hd hk (λU=>rfl)) ht ⟨Z,L,v,.refl _,S,hI,k⟩) hx.2
theorem J.xN{x:Str}{v:V}{Q:VP}{E:HP}(ok:bv G F)(hm:(x,v)∈F.globs)(k:Q v L):J G A Z H L (eval (.Name x pos) F.env) Q E:=.bP λs S=>by refine fq (ok.globs _ hm) λh1 h2 h3=>?_;refine PX ?_ h2;unfold loadName Env.blockKind;rw[ok.kind,h1];exact(h3 A Z H L F.env Q E ok.gl ok.bu k).run s S
theorem Ca{j:Nat}{x:Option Str}{c:Addr}{v:Option V}(hj:F.cells[j]?=some (x,c))(hv:σ.c[j]?=some v):∃pre post,F.own σ=pre++(c,.cY v)::post/\
  ∀v',F.own {σ with c:=σ.c.set j v'}=pre++(c,.cY v')::post:=by
 have key:∀(cs:List (Option Str×Addr))(vs:List (Option V))(j:Nat),cs[j]?=some (x,c)->vs[j]?=some v->∃pre post,zipWith (λ(p:Option Str×Addr) v=>(p.2,P0.cY v)) cs vs=pre++(c,.cY v)::post/\
   ∀v',zipWith (λ(p:Option Str×Addr) v=>(p.2,P0.cY v)) cs (vs.set j v')=pre++(c,.cY v')::post:=by
  intro cs
  induction cs with
  |nil=>intro vs j h;simp at h
  |cons p cs ih=>
   intro vs j h1 h2
   cases vs with
   |nil=>simp at h2
   |cons w vs=>
    cases j with
    |zero=>simp at h1 h2;subst h1 h2;exact(co ([]) _ rfl (λv'=>rfl))
    |succ j=>
     refine dn (ih vs j (by simpa using h1) (by simpa using h2)) λpre post e e'=>?_;refine(co ((p.2,.cY w)::pre) post ?_ (λv'=>?_))
     ·rw[zipWith_cons_cons,e];rfl
     ·rw[List.set_cons_succ,zipWith_cons_cons,e'];rfl
 refine dn (key _ _ j hj hv) λpre post e e'=>?_;exact(co ((F.fr,.frame F.names σ.l)::pre) post (by unfold Fn.own;rw[e];rfl) (λv'=>by unfold Fn.own;rw[e'];rfl))
theorem J.P'{j:Nat}{c:Addr}{Q:VP}{E:HP}(ok:bv G F)(hj:F.cells[j]?=some (some x,c))(hv:σ.c[j]?=some (some v))(k:Q v L):
  J G A Z (F.own σ++H) L (eval (.Name x pos) F.env) Q E:=.mk λs S=>by
 lk
 obtain⟨⟨h1,h2,kx⟩,h3⟩:=ok.cells _ _ (mem_of_getElem? hj)
 lk
 refine dn (Ca (σ:=σ) hj hv) λpre post e U=>?_;have S0:=S
 lk
 refine ai S λl U S1=>?_;rw[e] at S1
 lk
 refine K4 (S1.cells (c,.cY (some v)) (by simp)) λU o ho u hd u' rM hI=>?_;subst rM;refine wpAny_Name ?_ h2;rcases h1 with h1|h1
 ·exact wpAny_loadName_cell ok.kind h1 h3 (ah o ho hd) ⟨Z,L,v,.refl _,S0,hI,k⟩
 ·exact wpAny_loadName_free ok.kind h1 h3 (ah o ho hd) ⟨Z,L,v,.refl _,S0,hI,k⟩ kx
inductive Tg where
 |var(i:Nat)|ao (i:Nat)
noncomputable def Fn.at (F:Fn):Tg->Option Str
 |.var i=>F.names[i]?
 |.ao i=>(F.cells[i]?).bind λp=>p.1
noncomputable def Lo.set (σ:Lo):Tg->V->Lo
 |.var i,v=>{σ with l:=σ.l.set i (some v)}
 |.ao i,v=>{σ with c:=σ.c.set i (some v)}
def Lo.has(σ:Lo):Tg->Prop
 |.var _=>True
 |.ao i=>i<σ.c.length
noncomputable def Fn.may (F:Fn):Tg->Bool
 |.var _=>true
 |.ao _=>F.gw
theorem JU.store{g:Tg}{Q:Unit->Lo->HP}{E:Lo->HP}(ok:bv G F)(hx:F.at g=some x)(hs:σ.has g)(hF:F.may g=true)(hv:Is Z v u)(k:Q () (σ.set g v) L):
  JU F G A Z H σ L (storeName F.env x u) Q E:=.mk λs S=>by
 lk
 cases g with
 |var i=>
  have hi:F.names[i]?=some x:=hx
  lk
  refine sK S.iY λU o ho hl hn es ep hd hk hm=>?_;refine wpAny_storeName_local (ok.names x (mem_of_getElem? hi)).1 (m:=nsFind es) (gI o es ep (ok.loc.symm▸ho) hd hk (λU=>rfl)) (λh' pR fG=>?_) (by rw[ok.kind];rfl);refine ew pR λo' ij SK q0 q1 q2 q3=>?_;refine⟨Z,σ.set (.var i) v,L,(),.refl _,?_,rfl,k⟩;refine au.ma (c':=.frame F.names (σ.l.set i (some v))) (h':=h') S (ok.loc▸fG) (o:=o') (ok.loc▸q0) (tr (by rw[length_set];exact hl) hn ij SK q1 q2 (λy=>?_)) (s.toks+1);have q:nsFind ij y=if y=x then some u else nsFind es y:=q3 y
  rw[IP hn hi v y hl];by_cases e:y=x
  ·rw[if_pos e];rw[q];exact(ah u (if_pos e) hv)
  ·rw[if_neg e];have:=hm y;rw[q,if_neg e];exact this
 |ao j=>
  have cr:(F.cells[j]?).bind (λp=>p.1)=some x:=hx
  lk
  cases hj:F.cells[j]? with
  |none=>rw[hj] at cr;cases cr
  |some p=>
   rw[hj] at cr
   lk
   lk
   obtain⟨x',c⟩:=p;have:x'=some x:=cr
   lk
   subst this
   lk
   obtain⟨⟨h1,h2,kx⟩,h3⟩:=ok.cells _ _ (mem_of_getElem? hj)
   lk
   refine dn (Ca (σ:=σ) hj (gE (hs:j<σ.c.length))) λpre post e e'=>?_
   lk
   refine ai S λl hl S1=>?_;rw[e] at S1
   lk
   refine N1 (S1.cells (c,.cY σ.c[j]) (by simp)) λU o ho w hd U=>?_;refine wpAny_storeName_cell ok.kind (ok.gw hF _ _ (mem_of_getElem? hj)) h3 (ah o ho hd) λh' hc fG=>?_;refine ai hc λo' cI ei=>?_;refine⟨Z,σ.set (.ao j) v,L,(),.refl _,(ah l hl ?_),rfl,k⟩;refine(e' (some v))▸?_;have:l++(pre++(c,.cY (some v))::post++H)=(l++pre)++(c,.cY (some v))::(post++H):=by simp
   simp only[this];have:l++(pre++(c,.cY σ.c[j])::post++H)=(l++pre)++(c,.cY σ.c[j])::(post++H):=by simp
   rw[this] at S1;exact S1.put (c':=.cY (some v)) fG cI (xF _ ei _ rfl hv) s.toks
end
section
variable{α β γ δ ε ζ:Type}{R:Zt->β->α->Prop}{R':Zt->δ->γ->Prop}{R2:Zt->ε->ζ->Prop}{G:Gd}{A:Around}{Z:Zt}{L:HL}{H:bF}{E:HP}{env:Env}
theorem JR.P_{T:Sem α}{t:Sem γ}{f:γ->α}{g:δ->β}{Q:β->HP}(r:∀(Q':α->SP)(E':VS) s,ag G.w A t (λa s'=>Q' (f a) s') E' s->ag G.w A T Q' E' s)
  (h:JR R' G A Z H L t (λx L=>Q (g x) L) E)(k:∀Z x v,R' Z x v->R Z (g x) (f v)):JR R G A Z H L T Q E:=
 .bP λs S=>r _ _ s (ay (h.run s S) (λU U ⟨Z',L',x,a,b,c,d⟩=>⟨Z',L',g x,a,b,k _ _ _ c,d⟩) λU U x=>x)
theorem JR.na{T:Sem α}{t:Sem γ}{u:γ->Sem α}{Q:β->HP}{Q1:δ->HP}(r:∀(Q':α->SP)(E':VS) s,ag G.w A t (λa s'=>ag G.w A (u a) Q' E' s') E' s->ag G.w A T Q' E' s)
  (h:JR R' G A Z H L t Q1 E)(k:∀Z' v x L',Zt.Le Z Z'->R' Z' x v->Q1 x L'->JR R G A Z' H L' (u v) Q E):JR R G A Z H L T Q E:=
 .bP λs S=>r _ _ s (ay (h.run s S) (λv s' ⟨Z',L',x,a,b,c,d⟩=>ay ((k Z' v x L' a c d).run s' b) (λU U=>PQ.le a) (λU U=>PE.le a)) (λU U x=>x))
theorem JR.nb{T:Sem α}{t:Sem γ}{u:γ->Sem ζ}{w:γ->ζ->Sem α}{Q:β->HP}{Q1:δ->HP}{Q2:δ->ε->HP}
  (r:∀(Q':α->SP)(E':VS) s,ag G.w A t (λa s'=>ag G.w A (u a) (λb s'=>ag G.w A (w a b) Q' E' s') E' s') E' s->ag G.w A T Q' E' s)
  (h:JR R' G A Z H L t Q1 E)(k:∀Z' v x L',Zt.Le Z Z'->R' Z' x v->Q1 x L'->JR R2 G A Z' H L' (u v) (Q2 x) E)
  (k2:∀Z0 Z' v x y z L',Zt.Le Z Z0->Zt.Le Z0 Z'->R' Z0 x v->R2 Z' y z->Q2 x y L'->JR R G A Z' H L' (w v z) Q E):JR R G A Z H L T Q E:=
 .bP λs S=>r _ _ s (ay (h.run s S) (λv s' ⟨Z',L',x,a,b,c,d⟩=>ay ((k Z' v x L' a c d).run s' b)
  (λz s2 ⟨Z2,L2,y,a2,b2,c2,d2⟩=>ay ((k2 Z' Z2 v x y z L2 a a2 c c2 d2).run s2 b2) (λU U=>PQ.le (a.trans a2)) (λU U=>PE.le (a.trans a2))) (λU U=>PE.le a)) (λU U x=>x))
theorem PQ.mk'{v:α}{x:β}{Q:β->HP}(S:au G A Z L' H s')(hr:R Z x v)(h:Q x L'):PQ R G A Z H Q v s':=⟨Z,L',x,.refl _,S,hr,h⟩
theorem PQ.lu{v:α}{x:β}{Q:β->HP}(hz:Zt.Le Z Z')(S:au G A Z' L' H s')(hr:R Z' x v)(h:Q x L'):PQ R G A Z H Q v s':=⟨Z',L',x,hz,S,hr,h⟩
theorem J.int{i k pos:_}{Q:VP}(h:Q (.int i) L):J G A Z H L (eval (.Constant (.int i) k pos) env) Q E:=.liftT (λU U U h=>wpAny_Constant_int (h _ _)) (λU=>.int) h
theorem J.str{i k pos:_}{Q:VP}(h:Q (.str i) L):J G A Z H L (eval (.Constant (.str i) k pos) env) Q E:=.liftT (λU U U h=>wpAny_Constant_str (h _ _)) (λU=>.str) h
theorem J.Qb{k pos:_}{Q:VP}(h:Q .none L):J G A Z H L (eval (.Constant .none k pos) env) Q E:=.lift (λU U s h=>wpAny_Constant_none (h s.toks)) .none h
theorem J.E7{b k pos:_}{Q:VP}(h:Q (.bool b) L):J G A Z H L (eval (.Constant (.bool b) k pos) env) Q E:=.lift (λU U s h=>wpAny_Constant_bool (h s.toks)) .bool h
theorem J.add{a b:Int}{t u:Tok}{Q:VP}(h:Q (.int (a+b)) L):J G A Z H L (binaryOp .Add (.int a t) (.int b u)) Q E:=.liftT (f:=λt=>.int (a+b) t) (λU U U h=>by with_reducible exact add_int (h _ _)) (λU=>.int) h
theorem J.sub{a b:Int}{t u:Tok}{Q:VP}(h:Q (.int (a-b)) L):J G A Z H L (binaryOp .Sub (.int a t) (.int b u)) Q E:=.liftT (f:=λt=>.int (a-b) t) (λU U U h=>by with_reducible exact sub_int (h _ _)) (λU=>.int) h
theorem J.mul{a b:Int}{t u:Tok}{Q:VP}(ok:IntMulOk a b)(h:Q (.int (a*b)) L):J G A Z H L (binaryOp .Mult (.int a t) (.int b u)) Q E:=.liftT (f:=λt=>.int (a*b) t) (λU U U h=>by with_reducible exact mul_int (h _ _) ok) (λU=>.int) h
theorem J.mod{a b:Int}{t u:Tok}{Q:VP}(hb:b≠0)(h:Q (.int (fmod a b)) L):J G A Z H L (binaryOp .Mod (.int a t) (.int b u)) Q E:=.liftT (f:=λt=>.int (fmod a b) t) (λU U U h=>by with_reducible exact mod_int' hb (h _ _)) (λU=>.int) h
theorem J.fdiv{a b:Int}{t u:Tok}{Q:VP}(hb:b≠0)(hp:Builtin.divisionGoesByPylong a b=false)(h:Q (.int (Int.fdiv a b)) L):J G A Z H L (binaryOp .FloorDiv (.int a t) (.int b u)) Q E:=.liftT (f:=λt=>.int (Int.fdiv a b) t) (λU U s h=>floordiv_int hb (h s.toks (s.toks+1)) (.inl hp)) (λU=>.int) h
theorem J.and{a b:Int}{t u:Tok}{Q:VP}(h:Q (.int (Builtin.bitAnd a b)) L):J G A Z H L (binaryOp .BitAnd (.int a t) (.int b u)) Q E:=.liftT (f:=λt=>.int (Builtin.bitAnd a b) t) (λU U U h=>by with_reducible exact and_int (h _ _)) (λU=>.int) h
theorem J.xor{a b:Int}{t u:Tok}{Q:VP}(h:Q (.int (Builtin.bitXor a b)) L):J G A Z H L (binaryOp .BitXor (.int a t) (.int b u)) Q E:=.liftT (f:=λt=>.int (Builtin.bitXor a b) t) (λU U U h=>by with_reducible exact xor_int (h _ _)) (λU=>.int) h
theorem J.shl{a n:Int}{t u:Tok}{Q:VP}(h0:0<=n)(h1:n<=1000000)(ha:a.natAbs<2^64)(h:Q (.int (a*2^n.toNat)) L):J G A Z H L (binaryOp .LShift (.int a t) (.int n u)) Q E:=.liftT (f:=λt=>.int (a*2^n.toNat) t) (λU U s h=>lshift_int_small h0 h1 ha (h s.toks (s.toks+1))) (λU=>.int) h
theorem J.shr{a n:Int}{t u:Tok}{Q:VP}(h0:0<=n)(h:Q (.int (a.fdiv (2^n.toNat))) L):J G A Z H L (binaryOp .RShift (.int a t) (.int n u)) Q E:=.liftT (f:=λt=>.int (a.fdiv (2^n.toNat)) t) (λU U s h=>rshift_int h0 (h s.toks (s.toks+1))) (λU=>.int) h
theorem J.pow{a n:Int}{t u:Tok}{Q:VP}(h0:0<=n)(h1:n<=1000000)(ha:a.natAbs<2^64)(h:Q (.int (a^n.toNat)) L):J G A Z H L (binaryOp .Pow (.int a t) (.int n u)) Q E:=.liftT (f:=λt=>.int (a^n.toNat) t) (λU U s h=>pow_int_small h0 h1 ha (h s.toks (s.toks+1))) (λU=>.int) h
theorem J.neg{i:Int}{t:Tok}{Q:VP}(h:Q (.int (-i)) L):J G A Z H L (unaryOp .USub (.int i t)) Q E:=.liftT (f:=λt=>.int (-i) t) (λU U U h=>by with_reducible exact neg_int (h _ _)) (λU=>.int) h
theorem J.SL{a b:Int}{t u:Tok}{Q:VP}(h:Q (.bool (a==b)) L):J G A Z H L (compareOp .Eq (.int a t) (.int b u)) Q E:=.lift (λU U s h=>by with_reducible exact eq_int (h s.toks)) .bool h
theorem J.SM{a b:Int}{t u:Tok}{Q:VP}(h:Q (.bool (a != b)) L):J G A Z H L (compareOp .NotEq (.int a t) (.int b u)) Q E:=.lift (λU U s h=>by with_reducible exact ne_int (h s.toks)) .bool h
theorem J.ltI{a b:Int}{t u:Tok}{Q:VP}(h:Q (.bool (decide (a<b))) L):J G A Z H L (compareOp .Lt (.int a t) (.int b u)) Q E:=.lift (λU U s h=>by with_reducible exact lt_int (h s.toks)) .bool h
theorem J.pS{a b:Int}{t u:Tok}{Q:VP}(h:Q (.bool (decide (a<=b))) L):J G A Z H L (compareOp .LtE (.int a t) (.int b u)) Q E:=.lift (λU U s h=>by with_reducible exact le_int (h s.toks)) .bool h
theorem J.SN{a b:Int}{t u:Tok}{Q:VP}(h:Q (.bool (decide (b<a))) L):J G A Z H L (compareOp .Gt (.int a t) (.int b u)) Q E:=.lift (λU U s h=>by with_reducible exact gt_int (h s.toks)) .bool h
theorem J.SO{a b:Int}{t u:Tok}{Q:VP}(h:Q (.bool (decide (b<=a))) L):J G A Z H L (compareOp .GtE (.int a t) (.int b u)) Q E:=.lift (λU U s h=>by with_reducible exact ge_int (h s.toks)) .bool h
theorem J.SQ{a b:Str}{t u:Tok}{Q:VP}(h:Q (.bool (a==b)) L):J G A Z H L (compareOp .Eq (.str a t) (.str b u)) Q E:=.lift (λU U s h=>by with_reducible exact eq_str (h s.toks)) .bool h
theorem J.SR{Q:VP}(hp:PySem.plainIs a b=true)(h:Q (.bool (a==b)) L):J G A Z H L (compareOp .Is a b) Q E:=.lift (λU U s h=>by with_reducible exact wpAny_is_plain hp (h s.toks)) .bool h
theorem J.Og{Q:VP}(hp:PySem.plainIs a b=true)(h:Q (.bool (!(a==b))) L):J G A Z H L (compareOp .IsNot a b) Q E:=.lift (λU U s h=>by with_reducible exact wpAny_isNot_plain hp (h s.toks)) .bool h
theorem J.Oh{b:Bool}{Q:Bool->HP}(h:Q b L):JP Bool G A Z H L (truthy (.bool b)) Q E:=.lift (λU U s h=>by with_reducible exact wpAny_truthy_bool (h s.toks)) rfl h
theorem J.Oi{Q:Bool->HP}(h:Q false L):JP Bool G A Z H L (truthy .none) Q E:=.lift (λU U s h=>by with_reducible exact truthy_none (h s.toks)) rfl h
theorem J.Oj{a:Int}{t:Tok}{Q:Bool->HP}(h:Q (a != 0) L):JP Bool G A Z H L (truthy (.int a t)) Q E:=.lift (λU U s h=>by with_reducible exact truthy_int (h s.toks)) rfl h
end
section
variable{G:Gd}{A:Around}{Z:Zt}{L:HL}{H:bF}{E:HP}{env:Env}
theorem J.tup{d0:List Expr}{k:Nat}{Q:VP}(h:JL G A Z H L (spliced (backTo pos (starEach d0 env))) (λxs L=>xs.length<=sizeLine/\Q (.tup xs) L) E):J G A Z H L (eval (.Tuple d0 k pos) env) Q E:=
 .bP λs S=>N2 (ay (h.run s S) (λvs s' ⟨Z',L',xs,a,b,c,d1,d2⟩=>⟨by rw[c.length];exact d1,by have hz:=Z'.lQ (o:=gL vs.toArray 0) b.gU;exact PQ.lu (a.trans hz) (b.lr rfl s'.toks) (.o3 (n:=0) (vs:=vs.toArray) (Zt.mY ..) (c.mono hz)) d2⟩) λU U x=>x)
theorem J.lst{d0:List Expr}{Q:VP}(h:JL G A Z H L (spliced (backTo pos (starEach d0 env))) (λxs L=>xs.length<=sizeLine/\∀a,Q (.ref a) ((a,.list xs)::L)) E):J G A Z H L (eval (.List d0 pos) env) Q E:=
 .bP λs S=>PY (ay (h.run s S) (λvs s' ⟨Z',L',xs,a,b,c,d1,d2⟩=>⟨by rw[c.length];exact d1,
  PQ.lu a (b.new (c:=.list xs) rfl (co vs.toArray 0 rfl (by simpa using c)) s'.toks) .ref (d2 _)⟩) λU U x=>x)
theorem J.Qc{Q:VP}(h:∀a,Q (.ref a) ((a,.dict [] 0)::L)):J G A Z H L (eval (.Dict [] [] pos) env) Q E:=.mk λs S=>wpAny_Dict_empty (PQ.mk' (S.new (c:=.dict [] 0) rfl (dc nodup_nil ([]) rfl .nil) s.toks) .ref (h _))
theorem JL.nil{pos}{Q:List V->HP}(h:Q [] L):JL G A Z H L (spliced (backTo pos (starEach [] env))) Q E:=.lift (λU U s h=>args_nil (h s.toks)) .nil h
theorem JL.cons{e rest pos}{Q:List V->HP}{Q1:VP}(h:J G A Z H L (eval e env) Q1 E)(k:∀Z' x L',Zt.Le Z Z'->Q1 x L'->JL G A Z' H L' (spliced (backTo pos (starEach rest env))) (λvs L=>Q (x::vs) L) E)
  (he:starEach (e::rest) env=(false,eval e env)::starEach rest env:=by rfl):JL G A Z H L (spliced (backTo pos (starEach (e::rest) env))) Q E:=.bP λs S=>
 PZ (ay (h.run s S) (λv s' ⟨Z',L',x,a,b,c,d⟩=>ay ((k Z' x L' a d).run s' b) (λvs s2 ⟨Z2,L2,xs,a2,b2,c2,d2⟩=>⟨Z2,L2,x::xs,a.trans a2,b2,.cons (c.mono a2) c2,d2⟩) λU U=>PE.le a) λU U x=>x) he
noncomputable def fa (a b c:V):P0:=.raw (λZ U o=>∃l u t,o=({cls:=.type "slice",data:=.fields #[l,u,t]}:Obj)/\Is Z a l/\Is Z b u/\Is Z c t)
theorem J.slice{qN qO step:Option Expr}{Q:VP}{Q1:VP}{Q2:V->VP}
  (h:J G A Z H L (evalPart qN env) Q1 E)(k:∀Z' x L',Zt.Le Z Z'->Q1 x L'->J G A Z' H L' (evalPart qO env) (Q2 x) E)
  (k2:∀Z' x y L',Zt.Le Z Z'->Q2 x y L'->J G A Z' H L' (evalPart step env) (λst L=>∀a,Q (.ref a) ((a,.p (fa x y st))::L)) E):
  J G A Z H L (eval (.Slice qN qO step p) env) Q E:=.bP λs S=>N3 (ay (h.run s S) (λl s1 ⟨Z1,L1,x,a1,b1,c1,d1⟩=>ay ((k Z1 x L1 a1 d1).run s1 b1)
   (λu s2 ⟨Z2,L2,y,a2,b2,c2,d2⟩=>ay ((k2 Z2 x y L2 (a1.trans a2) d2).run s2 b2) (λt s3 ⟨Z3,L3,z,a3,b3,c3,d3⟩=>
    PQ.lu (a1.trans (a2.trans a3)) (b3.new (c:=fa x y z) (o:={cls:=.type "slice",data:=.fields #[l,u,t]}) rfl
     (λZ' hz=>(gI l u t rfl (c1.mono (a2.trans (a3.trans hz))) (c2.mono (a3.trans hz)) (c3.mono hz))) s3.toks) .ref (d3 _)) λU U=>PE.le (a1.trans a2)) λU U=>PE.le a1) λU U x=>x)
end
def yK(e:Expr):Prop:=∃d0 k pos,e=.Tuple d0 k pos
structure jc(pr:Bool)(G:Gd)(xs:List V)(Ok:HL->Prop)(I:Addr)(K:Nat->bF):Prop where
 self:∀(A:Around) Z L H(i:Nat) s(Q:VS) E,au G A Z L (K i++H) s->Q (.ref I) s->wpAny (model aH G.w) A (pyIter (.ref I)) Q E s
 next:∀(A:Around) Z L H(i:Nat) s(eI:Expr),A.handled=none->(pr=true->yK eI)->Ok L->au G A Z L (K i++H) s->
  wpAny (model aH G.w) A (pyNext (.ref I)) (λr s1=>match r with
   |none=>xs[i]?=none/\au G A Z L H s1
   |some v=>wpAny (model aH G.w) A (letOwnedTupleGo eI (.ref I) v) (λU s2=>∃Z' x,Zt.Le Z Z'/\xs[i]?=some x/\Is Z' x v/\au G A Z' L (K (i+1)++H) s2) (λU U=>False) s1) (λU U=>False) s
structure Cx where
 G:Gd
 K:Frag
 d:Nat
structure bx(pr:Bool)(C:Cx)(v:V)(L:HL)(xs:List V)(L0:HL)(Ok:HL->Prop):Prop where
 run:∀A Z H s x,A.handled=none->Is Z v x->au C.G A Z L H s->wpAny (model aH C.G.w) A (pyIter x) (λit s'=>∃I K Z',it=.ref I/\Zt.Le Z Z'/\jc pr C.G xs Ok I K/\au C.G A Z' L0 (K 0++H) s') (λU U=>False) s
section em
variable(C:Cx)
structure SU(v:V)(L:HL)(Q:Bool->HL->Prop)(E:HL->Prop):Prop where
 run:∀A Z H x,Rm A C.d->Is Z v x->JP Bool C.G A Z H L (truthy x) Q E
structure da(op:Operator)(a b:V)(L:HL)(Q:V->HL->Prop)(E:HL->Prop):Prop where
 run:∀A Z H x y,Rm A C.d->Is Z a x->Is Z b y->J C.G A Z H L (binaryOp op x y) Q E
structure aV(op:CmpOp)(a b:V)(L:HL)(Q:V->HL->Prop)(E:HL->Prop):Prop where
 run:∀A Z H x y,Rm A C.d->Is Z a x->Is Z b y->J C.G A Z H L (compareOp op x y) Q E
structure Ha(op:UnaryOp)(a:V)(L:HL)(Q:V->HL->Prop)(E:HL->Prop):Prop where
 run:∀A Z H x,Rm A C.d->Is Z a x->J C.G A Z H L (unaryOp op x) Q E
structure dG(o:V)(n:Str)(L:HL)(Q:V->HL->Prop)(E:HL->Prop):Prop where
 run:∀A Z H x,Rm A C.d->Is Z o x->J C.G A Z H L (getAttr x n true) Q E
structure a_(o i:V)(L:HL)(Q:V->HL->Prop)(E:HL->Prop):Prop where
 run:∀A Z H x y value slice,Rm A C.d->Is Z o x->Is Z i y->(∃em,subscripted slice false x y=operate em (getItem x y))->J C.G A Z H L (subscriptTail value slice x y) Q E
structure br(n:String)(xs:List V)(L:HL)(Q:V->HL->Prop)(E:HL->Prop):Prop where
 run:∀A Z H vs,Rm A C.d->aZ Z xs vs->J C.G A Z H L (call (.builtin n) vs []) Q E
structure bd(n:String)(xs:List V)(L:HL)(Q:V->HL->Prop)(E:HL->Prop):Prop where
 run:∀A Z H vs,Rm A C.d->aZ Z xs vs->J C.G A Z H L (call (.type n) vs []) Q E
def lv(f:V)(xs:List V)(L:HL)(Q:VP)(E:HP):Prop:=match f with
 |.ref a=>Sp C.G a C.d xs L Q E
 |.bi n=>br C n xs L Q E
 |.type n=>bd C n xs L Q E
 |_=>False
def jd(f:V):Prop:=match f with
 |.ref a=>keepIn C.K (.ref a)=true
 |.bi _=>True
 |.type _=>True
 |_=>False
def RM(Z:Zt)(x:V×List V)(v:Value×LV):Prop:=Is Z x.1 v.1/\aZ Z x.2 v.2
structure ax(o:V)(n:Str)(L:HL)(Q:V×List V->HL->Prop)(E:HL->Prop):Prop where
 run:∀A Z H x pl,Rm A C.d->Is Z o x->JR RM C.G A Z H L (getMethod x n pl) Q E
def mZ(v:V)(L:HL)(Q:Bool->HP)(E:HP):Prop:=match v with
 |.bool b=>Q b L
 |.none=>Q false L
 |.int i=>Q (i != 0) L
 |v=>SU C v L Q E
def binI(op:Operator)(a b:Int)(L:HL)(Q:VP)(E:HP):Prop:=match op with
 |.Add=>Q (.int (a+b)) L
 |.Sub=>Q (.int (a-b)) L
 |.Mult=>IntMulOk a b/\Q (.int (a*b)) L
 |.Mod=>b≠0/\Q (.int (fmod a b)) L
 |.FloorDiv=>b≠0/\Builtin.divisionGoesByPylong a b=false/\Q (.int (Int.fdiv a b)) L
 |.BitAnd=>Q (.int (Builtin.bitAnd a b)) L
 |.BitXor=>Q (.int (Builtin.bitXor a b)) L
 |op=>da C op (.int a) (.int b) L Q E
def Gv(op:Operator)(a b:V)(L:HL)(Q:VP)(E:HP):Prop:=match a with
 |.int x=>(match b with
  |.int y=>binI C op x y L Q E
  |b=>da C op a b L Q E)
 |a=>da C op a b L Q E
def Ro(op:CmpOp)(a b:Int)(L:HL)(Q:VP)(E:HP):Prop:=match op with
 |.Eq=>Q (.bool (a==b)) L
 |.NotEq=>Q (.bool (a != b)) L
 |.Lt=>Q (.bool (decide (a<b))) L
 |.LtE=>Q (.bool (decide (a<=b))) L
 |.Gt=>Q (.bool (decide (b<a))) L
 |.GtE=>Q (.bool (decide (b<=a))) L
 |op=>aV C op (.int a) (.int b) L Q E
noncomputable def isNone:V->Bool
 |.none=>true
 |_=>false
noncomputable def yL:V->Bool
 |.bi _=>true
 |_=>false
def uO(op:CmpOp)(a b:V)(L:HL)(Q:VP)(E:HP):Prop:=match b with
 |.none=>(match yL a with
  |false=>(match op with
   |.Is=>Q (.bool (isNone a)) L
   |.IsNot=>Q (.bool (!isNone a)) L
   |op=>aV C op a b L Q E)
  |true=>aV C op a b L Q E)
 |b=>aV C op a b L Q E
def uP(op:CmpOp)(a b:V)(L:HL)(Q:VP)(E:HP):Prop:=match a with
 |.int x=>(match b with
  |.int y=>Ro C op x y L Q E
  |b=>uO C op a b L Q E)
 |.str x=>(match b with
  |.str y=>(match op with
   |.Eq=>Q (.bool (x==y)) L
   |op=>aV C op a b L Q E)
  |b=>aV C op a b L Q E)
 |a=>uO C op a b L Q E
def yM(op:UnaryOp)(a:V)(L:HL)(Q:VP)(E:HP):Prop:=match op with
 |.USub=>(match a with
  |.int x=>Q (.int (-x)) L
  |a=>Ha C op a L Q E)
 |.Not=>mZ C a L (λb L=>Q (.bool (!b)) L) E
 |op=>Ha C op a L Q E
end em
structure CI where
 dQ:List Str
 pair:Bool
 acc:List Bool
 globs:SV
inductive Tm where
 |none|bool (b:Bool)|int (i:Int)|str (s:Str)
 |var(i:Nat)|ao (i:Nat)|dA (i:Nat)
 |bin(op:Operator)(l r:Tm)
 |d8(op:UnaryOp)(x:Tm)
 |cmp(op:CmpOp)(l r:Tm)
 |ik(op dR:CmpOp)(l m r:Tm)
 |bo(op:BoolOp)(args:Tm)
 |fy(c a b:Tm)
 |aG(o:Tm)(n:Str)
 |sub(o i:Tm)
 |iG(o lo:Tm)|je (o hi:Tm)|rev (o:Tm)
 |yes
 |call(f args:Tm)
 |aC(o:Tm)(n:Str)(args:Tm)
 |bT|ae (x xs:Tm)
 |tup(args:Tm)|lst (args:Tm)|g7
 |lc(ci:CI)(iter cond dy:Tm)
 |sp(P:Cx->List (Str×V)->Lo->HL->(V->HL->Prop)->(HL->Prop)->Prop)
noncomputable abbrev af:Tm:=.var 0
noncomputable abbrev aB:Tm:=.var 1
noncomputable abbrev aX:Tm:=.var 2
noncomputable abbrev bC:Tm:=.var 3
noncomputable abbrev dL:Tm:=.var 4
noncomputable abbrev d9:Tm:=.var 5
noncomputable abbrev il:Tm:=.var 6
noncomputable abbrev n4:Tm:=.var 7
noncomputable abbrev SW:Tm:=.var 8
noncomputable abbrev Hb:Tm:=.var 9
noncomputable abbrev aM:Tm:=.dA 0
noncomputable abbrev cf:Tm:=.dA 1
noncomputable abbrev eM:Tm:=.dA 2
noncomputable abbrev iH:Tm:=.dA 3
noncomputable abbrev jf:Tm:=.dA 4
noncomputable abbrev kz:Tm:=.dA 5
noncomputable abbrev jI:Tm:=.dA 6
noncomputable abbrev mz:Tm:=.dA 7
noncomputable abbrev zu:Tm:=.dA 8
noncomputable abbrev vg:Tm:=.dA 9
noncomputable abbrev wa (x:Tm):Tm:=.ae x .bT
inductive Md where
 |ev|ts|bo (op:BoolOp) (t:Bool)
structure Nm where
 names:List Str
 cells:List (Option Str)
 globs:List Str
noncomputable def Fn.nm (F:Fn):Nm:=⟨F.names,F.cells.map (·.1),F.globs.map (·.1)⟩
noncomputable def ka:BoolOp->Bool
 |.And=>true
 |.Or=>false
noncomputable def j5 (pair:Bool) (x:V):Option (List (Option V)):=match pair,x with
 |false,x=>some [some x]
 |true,.tup [a,b]=>some [some a,some b]
 |_,_=>.none
section
variable(C:Cx)
noncomputable def cy (xs:List V) (k:Int):Option V:=if 0<=k/\k<1000000 then xs[k.toNat]? else .none
def Gw(o i:V)(L:HL)(Q:VP)(E:HP):Prop:=match o,i with
 |.tup xs,.int k=>∃v,cy xs k=some v/\Q v L
 |o,i=>a_ C o i L Q E
def Qd(f:V)(xs:V)(first:List V)(L:HL)(Q:VP)(E:HP):Prop:=match xs with
 |.tup l=>lv C f (first++l) L Q E
 |_=>False
abbrev W1:=HL->(VP)->(HP)->Prop
def SX(Q:VP):Bool->HP:=λb L=>Q (.bool b) L
def Rp(Q:VP)(E:HP):VP:=λv L=>mZ C v L (SX Q) E
def eC(m:Md)(Q:VP)(E:HP):VP:=match m with
 |.ts=>Rp C Q E
 |_=>Q
section
variable(Q:VP)(E:HP)
def Qe(op:Operator)(a:V):VP:=λb L=>Gv C op a b L Q E
def Rq(op:Operator)(r:W1):VP:=λa L=>r L (Qe C Q E op a) E
def Rr:VP:=λv L=>match v with|.bool b=>Q (.bool (!b)) L|_=>False
def Rs(op:UnaryOp):VP:=λa L=>yM C op a L Q E
def Qf(op:CmpOp)(a:V):VP:=λb L=>uP C op a b L Q E
def Rt(op:CmpOp)(r:W1):VP:=λa L=>r L (Qf C Q E op a) E
def SY(dR:CmpOp)(m:Md)(b:V):VP:=λe L=>uP C dR b e L (eC C m Q E) E
def SZ(dR:CmpOp)(r:W1)(m:Md)(b c:V):Bool->HP:=λz L=>(z=true->r L (SY C Q E dR m b) E)/\(z=false->match m with|.ts=>Q (.bool false) L|_=>Q c L)
def S_(dR:CmpOp)(r:W1)(m:Md)(b:V):VP:=λc L=>mZ C c L (SZ C Q E dR r m b c) E
def Ta(op dR:CmpOp)(r:W1)(m:Md)(a:V):VP:=λb L=>uP C op a b L (S_ C Q E dR r m b) E
def Tc(op dR:CmpOp)(x r:W1)(m:Md):VP:=λa L=>x L (Ta C Q E op dR r m a) E
def Ru(a b:W1):VP:=λz L=>match z with|.bool z=>(z=true->a L Q E)/\(z=false->b L Q E)|_=>False
def Rv(n:Str):VP:=λv L=>dG C v n L Q E
def Qg(a:V):VP:=λb L=>Gw C a b L Q E
def Rw(i:W1):VP:=λa L=>i L (Qg C Q E a) E
def Qh(a:V):VP:=λx L=>∀i,a_ C a (.ref i) ((i,.p (fa x .none .none))::L) Q E
def Rx(lo:W1):VP:=λa L=>lo L (Qh C Q E a) E
def Qi(a:V):VP:=λx L=>∀i,a_ C a (.ref i) ((i,.p (fa .none x .none))::L) Q E
def Ry(lo:W1):VP:=λa L=>lo L (Qi C Q E a) E
def Rz:VP:=λa L=>∀i,a_ C a (.ref i) ((i,.p (fa .none .none (.int (-1))))::L) Q E
def DW(f:V)(first:List V):VP:=λxs L=>Qd C f xs first L Q E
def mA(f:V)(P:Prop):Prop:=match f with
 |.ref a=>keepIn C.K (.ref a)=true/\P
 |.bi _=>P
 |.type _=>P
 |_=>False
theorem mA.ok{C:Cx}{P:Prop}(h:mA C f P):jd C f/\P:=by
 cases f with
 |ref a=>exact h
 |bi n=>exact⟨trivial,h⟩
 |type n=>exact⟨trivial,h⟩
 |_=>exact h.elim
def mf(l:List V)(P:Prop):Prop:=match ble l.length 1000 with
 |true=>P
 |false=>False
theorem mf.ok{l:List V}{P:Prop}(h:mf l P):l.length<=1000/\P:=by
 unfold mf at h
 cases e:ble l.length 1000 with
 |true=>rw[e] at h;exact⟨Nat.le_of_ble_eq_true e,h⟩
 |false=>rw[e] at h;exact h.elim
theorem mf.mk{l:List V}{P:Prop}(h:l.length<=1000)(p:P):mf l P:=by unfold mf;rw[Nat.ble_eq_true_of_le h];exact p
def Qj(args:W1):VP:=λf L=>mA C f (args L (DW C Q E f []) E)
def Ol(args:W1):V×List V->HP:=λf L=>mA C f.1 (args L (DW C Q E f.1 f.2) E)
def Qk(n:Str)(args:W1):VP:=λo L=>ax C o n L (Ol C Q E args) E
def Om(v:V):VP:=λvs L=>match vs with|.tup l=>Q (.tup (v::l)) L|_=>False
def Ql(xs:W1):VP:=λv L=>xs L (Om Q v) E
def RA(op:BoolOp)(xs:W1):VP:=λz L=>match z with
 |.bool z=>(z=ka op->xs L Q E)/\(z=(!ka op)->Q (.bool z) L)
 |_=>False
def Qm(op:BoolOp)(xs:W1)(v:V):Bool->HP:=λz L=>(z=ka op->xs L Q E)/\(z=(!ka op)->Q v L)
def RC(op:BoolOp)(xs:W1):VP:=λv L=>mZ C v L (Qm Q E op xs v) E
def RD:VP:=λvs L=>match vs with|.tup l=>mf l (Q (.tup l) L)|_=>False
def RE:VP:=λvs L=>match vs with|.tup l=>mf l (∀a,Q (.ref a) ((a,.list l)::L))|_=>False
def xO(I:Nat->List V->HP)(i:Nat)(acc:List V):VP:=λv L=>acc.length<1000/\I (i+1) (acc++[v]) L
def qG(I:Nat->List V->HP)(i:Nat)(acc:List V)(dy:W1):VP:=λz L=>match z with
 |.bool z=>(z=true->dy L (xO I i acc) λU=>False)/\(z=false->I (i+1) acc L)
 |_=>False
inductive pT(ci:CI)(cond dy:List (Option V)->W1)(it:V)(L:HL):Prop
 |mk(xs:List V)(L0:HL)(Ok:HL->Prop)(g8:bx ci.pair C it L xs L0 Ok)(I:Nat->List V->HL->Prop)(h0:I 0 [] L0)
   (eB:∀i acc L x,xs[i]?=some x->I i acc L->Ok L/\match j5 ci.pair x with
    |some l'=>cond l' L (qG I i acc (dy l')) λU=>False
    |.none=>False)
   (fin:∀acc L,I xs.length acc L->Ok L/\∀a,Q (.ref a) ((a,.list acc)::L)):pT ci cond dy it L
end
noncomputable def wp (C:Cx):Tm->(gl:SV)->(σ:Lo)->Md->HL->(VP)->(HP)->Prop
 |.none,_,_,m,L,Q,E=>eC C m Q E .none L
 |.bool b,_,_,m,L,Q,E=>eC C m Q E (.bool b) L
 |.int i,_,_,m,L,Q,E=>eC C m Q E (.int i) L
 |.str s,_,_,m,L,Q,E=>eC C m Q E (.str s) L
 |.var i,_,σ,m,L,Q,E=>match σ.l[i]? with|some (some v)=>eC C m Q E v L|_=>False
 |.ao i,_,σ,m,L,Q,E=>match σ.c[i]? with|some (some v)=>eC C m Q E v L|_=>False
 |.dA i,gl,_,m,L,Q,E=>match gl[i]? with|some (_,v)=>eC C m Q E v L|_=>False
 |.bin op l r,gl,σ,m,L,Q,E=>wp C l gl σ .ev L (Rq C (eC C m Q E) E op (wp C r gl σ .ev)) E
 |.d8 op x,gl,σ,m,L,Q,E=>match op,m with
  |.Not,.ts=>wp C x gl σ .ts L (Rr Q) E
  |op,m=>wp C x gl σ .ev L (Rs C (eC C m Q E) E op) E
 |.cmp op l r,gl,σ,m,L,Q,E=>wp C l gl σ .ev L (Rt C (eC C m Q E) E op (wp C r gl σ .ev)) E
 |.ik op dR l x r,gl,σ,m,L,Q,E=>wp C l gl σ .ev L (Tc C Q E op dR (wp C x gl σ .ev) (wp C r gl σ .ev) m) E
 |.bo op args,gl,σ,m,L,Q,E=>wp C args gl σ (.bo op (match m with|.ts=>true|_=>false)) L Q E
 |.fy c a b,gl,σ,m,L,Q,E=>wp C c gl σ .ts L (Ru Q E (wp C a gl σ m) (wp C b gl σ m)) E
 |.aG o n,gl,σ,m,L,Q,E=>wp C o gl σ .ev L (Rv C (eC C m Q E) E n) E
 |.sub o i,gl,σ,m,L,Q,E=>wp C o gl σ .ev L (Rw C (eC C m Q E) E (wp C i gl σ .ev)) E
 |.iG o lo,gl,σ,m,L,Q,E=>wp C o gl σ .ev L (Rx C (eC C m Q E) E (wp C lo gl σ .ev)) E
 |.je o hi,gl,σ,m,L,Q,E=>wp C o gl σ .ev L (Ry C (eC C m Q E) E (wp C hi gl σ .ev)) E
 |.rev o,gl,σ,m,L,Q,E=>wp C o gl σ .ev L (Rz C (eC C m Q E) E) E
 |.yes,_,_,_,L,Q,_=>Q (.bool true) L
 |.call f args,gl,σ,m,L,Q,E=>wp C f gl σ .ev L (Qj C (eC C m Q E) E (wp C args gl σ .ev)) E
 |.aC o n args,gl,σ,m,L,Q,E=>wp C o gl σ .ev L (Qk C (eC C m Q E) E n (wp C args gl σ .ev)) E
 |.bT,_,_,m,L,Q,_=>match m with
  |.ev=>Q (.tup []) L
  |_=>False
 |.ae x xs,gl,σ,m,L,Q,E=>match m with
  |.ev=>wp C x gl σ .ev L (Ql Q E (wp C xs gl σ .ev)) E
  |.ts=>False
  |.bo op true=>match xs with
   |.bT=>wp C x gl σ .ts L Q E
   |xs=>wp C x gl σ .ts L (RA Q E op (wp C xs gl σ (.bo op true))) E
  |.bo op false=>match xs with
   |.bT=>wp C x gl σ .ev L Q E
   |xs=>wp C x gl σ .ev L (RC C Q E op (wp C xs gl σ (.bo op false))) E
 |.tup args,gl,σ,m,L,Q,E=>wp C args gl σ .ev L (RD (eC C m Q E)) E
 |.lst args,gl,σ,m,L,Q,E=>wp C args gl σ .ev L (RE (eC C m Q E)) E
 |.g7,_,_,m,L,Q,E=>∀a,eC C m Q E (.ref a) ((a,.dict [] 0)::L)
 |.sp P,gl,σ,m,L,Q,E=>P C gl σ L (eC C m Q E) E
 |.lc ci iter cond dy,gl,σ,m,L,Q,E=>wp C iter gl σ .ev L (pT C (eC C m Q E) ci (λl'=>wp C cond ci.globs ⟨l',σ.c⟩ .ts) (λl'=>wp C dy ci.globs ⟨l',σ.c⟩ .ev)) E
end
def m5(a:Expr):Prop:=∀n env w,attributeBase a n env w=w
def xj(a:Expr):Prop:=∀es p env,eval (.Call a es [] p) env=(do callWith p (←eval a env) [] (backTo p (starEach es env)) (backToKw p (keywordEach [] env)))
def xP(b:Expr):Prop:=∀x y,subscripted b false x y=operate [x,y] (getItem x y)
def RB(_:Zt)(x:V)(b:Bool):Prop:=x=.bool b
abbrev JB:=@JR Bool V RB
section
variable{C:Cx}{A:Around}{Z:Zt}{L:HL}{H:bF}{E:HP}{env:Env}
theorem JR.rb{t:Sem Bool}{Q:Bool->HP}{Q':VP}(h:JP Bool C.G A Z H L t Q E)(k:∀b L,Q b L->Q' (.bool b) L):JB C.G A Z H L t Q' E:=.bP λs S=>ay (h.run s S) (λU U ⟨Z',L',x,a,b,c,d⟩=>⟨Z',L',.bool x,a,b,by subst c;rfl,k _ _ d⟩) λU U x=>x
theorem mN{Q:Bool->HP}(hR:Rm A C.d)(hx:Is Z v x)(h:mZ C v L Q E):JP Bool C.G A Z H L (truthy x) Q E:=by
 lk
 cases v with
 |bool b=>cases hx;exact J.Oh h
 |none=>cases hx;exact J.Oi h
 |int i=>cases hx;exact J.Oj h
 |_=>exact h.run A Z H x hR hx
theorem On{op:UnaryOp}{Q:VP}(hR:Rm A C.d)(hx:Is Z a x)(h:yM C op a L Q E):J C.G A Z H L (unaryOp op x) Q E:=by
 cases op with
 |Not=>
  refine .bP λs S=>Re (ay ((mN hR hx h).run s S) (λb s' q=>?_) λU U x=>x)
  lk
  cases q with|mk Z' L' b' le S r q=>cases r;exact⟨Z',L',_,le,S,.bool,q⟩
 |USub=>
  lk
  cases a with
  |int i=>cases hx;exact J.neg h
  |_=>exact h.run A Z H x hR hx
 |_=>exact h.run A Z H x hR hx
theorem Oo{op:Operator}{Q:VP}(hR:Rm A C.d)(hx:Is Z a x)(hy:Is Z b y)(h:Gv C op a b L Q E):J C.G A Z H L (binaryOp op x y) Q E:=by
 cases a with
 |int i=>
  cases b with
  |int j=>
   obtain⟨s,rfl⟩:=hx.e_;obtain⟨t,rfl⟩:=hy.e_
   cases op with
   |Add=>exact J.add h
   |Sub=>exact J.sub h
   |Mult=>exact J.mul h.1 h.2
   |Mod=>exact J.mod h.1 h.2
   |FloorDiv=>exact J.fdiv h.1 h.2.1 h.2.2
   |BitAnd=>exact J.and h
   |BitXor=>exact J.xor h
   |_=>exact h.run A Z H _ _ hR hx hy
  |_=>exact h.run A Z H x y hR hx hy
 |_=>exact h.run A Z H x y hR hx hy
theorem Kg(hx:Is Z a x)(hy:Is Z .none y)(hb:yL a=false):(x==y)=isNone a/\PySem.plainIs x y=true:=by
 obtain rfl:=hy.qQ
 cases hx with
 |bi=>cases hb
 |_=>exact⟨rfl,rfl⟩
theorem C3{op:CmpOp}{Q:VP}(hR:Rm A C.d)(hx:Is Z a x)(hy:Is Z b y)(h:uO C op a b L Q E):J C.G A Z H L (compareOp op x y) Q E:=by
 cases b with
 |none=>
  unfold uO at h;dsimp only at h
  cases hb:yL a with
  |true=>rw[hb] at h;exact h.run A Z H x y hR hx hy
  |false=>
   rw[hb] at h;obtain⟨e,p⟩:=Kg hx hy hb
   cases op with
   |Is=>exact .SR p (by rw[e];exact h)
   |IsNot=>exact .Og p (by rw[e];exact h)
   |_=>exact h.run A Z H x y hR hx hy
 |_=>exact h.run A Z H x y hR hx hy
theorem oV{op:CmpOp}{Q:VP}(hR:Rm A C.d)(hx:Is Z a x)(hy:Is Z b y)(h:uP C op a b L Q E):J C.G A Z H L (compareOp op x y) Q E:=by
 cases a with
 |int i=>
  cases b with
  |int j=>
   obtain⟨s,rfl⟩:=hx.e_;obtain⟨t,rfl⟩:=hy.e_
   cases op with
   |Eq=>exact J.SL h
   |NotEq=>exact J.SM h
   |Lt=>exact J.ltI h
   |LtE=>exact J.pS h
   |Gt=>exact J.SN h
   |GtE=>exact J.SO h
   |_=>exact h.run A Z H _ _ hR hx hy
  |_=>exact C3 hR hx hy h
 |str i=>
  cases b with
  |str j=>
   obtain⟨s,rfl⟩:=hx.rn;obtain⟨t,rfl⟩:=hy.rn
   cases op with
   |Eq=>exact J.SQ h
   |_=>exact h.run A Z H _ _ hR hx hy
  |_=>exact h.run A Z H x y hR hx hy
 |_=>exact C3 hR hx hy h
theorem Op{Q:VP}(hR:Rm A C.d)(hx:Is Z a x)(hy:Is Z b y)(hs:∃em,subscripted slice false x y=operate em (getItem x y))(h:Gw C a b L Q E):J C.G A Z H L (subscriptTail value slice x y) Q E:=by
 lk
 cases a with
 |tup xs=>
  lk
  cases b with
  |int k=>
   lk
   refine ai h λv h1 h2=>?_
   lk
   refine dJ hx.cy λa vs n aE hz hv=>?_;subst aE;obtain⟨_,rfl⟩:=hy.e_;unfold cy at h1
   split at h1
   ·rename_i hk
    refine ai (hv.get h1) λu hu hi=>?_;refine xE hs λem hs=>?_
    have hj:seqIndex? k vs.size=some k.toNat:=by
     unfold seqIndex?;dsimp only;rw[if_neg (show¬k<0 by exact aa ⟨0,1,[.an (.ak 0 0) (.bh 0 1000000)],.no (.bh 0 0)⟩ hk),if_pos];rw[decide_eq_true hk.1,decide_eq_true]
     ·rfl
     ·have:vs.toList.length=vs.size:=rfl;exact aa ⟨2,1,[.tn (.t .v0) .v0,.aA 0 1],.eJ 0 1⟩ ((gS hu).1) this
    refine .mk λs S=>?_;have ht:IsTup s.heap a vs:=(eA _ (S.keep _ _ hz) rfl n rfl);exact tail_any ht.typeIs slot_tuple_getitem.lookup (PyProof.Rows.getItem_tuple ht (aa ⟨0,1,[.an (.ak 0 0) (.bh 0 1000000)],.lz (.n (.k 9223372036854775808)) .v0⟩ hk) (aa ⟨0,1,[.an (.ak 0 0) (.bh 0 1000000)],.bh 0 9223372036854775808⟩ hk) hj (by rw[←getElem?_toList];exact hu) (PQ.mk' S hi h2)) hs
   ·as_aux_lemma=>
    cases h1
  |_=>exact h.run A Z H x y _ _ hR hx hy hs
 |_=>exact h.run A Z H x y _ _ hR hx hy hs
theorem lv.run{xs:List V}{vs:LV}{Q:VP}(hR:Rm A C.d)(hf:Is Z f fv)(hv:aZ Z xs vs)(h:lv C f xs L Q E):J C.G A Z H L (call fv vs []) Q E:=by
 lk
 cases f with
 |ref a=>cases hf;exact Sp.call h hR hv
 |bi n=>cases hf;exact br.run h A Z H vs hR hv
 |type n=>cases hf;exact bd.run h A Z H vs hR hv
 |_=>exact h.elim
theorem J.callWith{first:List V}{fs:LV}{es:List Expr}{Q:VP}{Qa:List V->HP}(B:Bs C.G C.K)(hR:Rm A C.d)(hf:Is Z f fv)(Td:aZ Z first fs)(hk:jd C f)
  (hp:(backTo pos (starEach es env)).any (·.1)=false)
  (h:JL C.G A Z H L (spliced (backTo pos (starEach es env))) Qa E)(k:∀xs L,Qa xs L->lv C f (first++xs) L Q E):
  J C.G A Z H L (callWith pos fv fs (backTo pos (starEach es env)) []) Q E:=.bP λs S=>by
 have key:∀(vs:LV)(s':Shared),PQ aZ C.G A Z H Qa vs s'->ag C.G.w A (call fv (fs++vs) []) (PQ Is C.G A Z H Q) (PE C.G A Z H E) s':=by
  intro vs s' q
  lk
  cases q with|mk Z' L' xs a b c d=>
  exact ay ((lv.run hR (hf.mono a) ((Td.mono a).append c) (k _ _ d)).run s' b) (λU U=>PQ.le a) (λU U=>PE.le a)
 lk
 cases f with
 |ref a=>
  lk
  obtain rfl:=hf.ce;exact vZ (by rw[hp];rfl) (keeps_K hk) (qo hp (ay (h.run s S) (λvs s' q=>⟨B.fu.keeps (by cases q with|mk _ _ _ _ S'=>exact S'.h0),key vs s' q⟩) λU U x=>x))
 |bi n=>
  cases hf
  exact Jp hp (qo hp (ay (h.run s S) (λvs s' q=>key vs s' q) λU U x=>x))
 |type n=>
  cases hf
  exact Jq hp (qo hp (ay (h.run s S) (λvs s' q=>key vs s' q) λU U x=>x))
 |_=>exact hk.elim
end
theorem Kh{pos:Pos}(h:m5 o):eval (.Attribute o n pos) env=(do
   let ov ←eval o env
   standAt pos.atName
   let r ←holding [ov] (getAttr ov n true)
   letTemporaryGo o ov r
   pure r):=by
 show(do let ov ←attributeBase o n env (eval o env);standAt pos.atName;let r ←holding [ov] (getAttr ov n true);letTemporaryGo o ov r;pure r)=_;rw[h]
theorem Ki{g5 pos:Pos}{args:List Expr}(h:m5 o)(hl:(g5.endLine==pos.line)=true)
  (hf:methodCallForm args.length (backTo pos (starEach args env)) []=true):eval (.Call (.Attribute o n g5) args [] pos) env=(do
   let ov ←eval o env
   standAt g5.atName
   let(f,first) ←holding [ov] (getMethod ov n (do return (←importBound o env).getD true))
   callWith pos f first (backTo pos (starEach args env)) []):=by
 show(do let ov ←attributeBase o n env (eval o env);standAt g5.atName;methodCall o n g5 pos env ov (args.length+0) (backTo pos (starEach args env)) (backToKw pos (keywordEach [] env)))=_;rw[h];refine congrArg (λx=>Sem.bind (eval o env) x) (funext λov=>congrArg (λx=>Sem.bind (standAt g5.atName) x) (funext λU=>?_))
 show(do
  let(f,first) ←holding [ov] (calleeOf (methodCallForm args.length (backTo pos (starEach args env)) []) o env ov n)
  let ME ←methodCallPos (methodCallForm args.length (backTo pos (starEach args env)) []) o env g5 pos
  callWith ME f first (backTo pos (starEach args env)) [])=_
 rw[hf]
 have:methodCallPos true o env g5 pos=pure pos:=by unfold methodCallPos;rw[hl];rfl
 rw[this]
 rfl
theorem JR.Qn{α β γ δ ε ζ η θ:Type}{R:Zt->β->α->Prop}{R':Zt->δ->γ->Prop}{R2:Zt->ε->ζ->Prop}{R3:Zt->θ->η->Prop}{G:Gd}{E:HP}
  {T:Sem α}{t:Sem γ}{u:γ->Sem ζ}{w:γ->ζ->Sem η}{x:η->Sem α}{Q:β->HP}{Q1:δ->HP}{Q2:δ->ε->HP}{Q3:θ->HP}
  (r:∀(Q':α->SP)(E':VS) s,ag G.w A t (λa s'=>ag G.w A (u a) (λb s'=>ag G.w A (w a b) (λc s'=>ag G.w A (x c) Q' E' s') E' s') E' s') E' s->ag G.w A T Q' E' s)
  (h:JR R' G A Z H L t Q1 E)(k:∀Z' v x L',Zt.Le Z Z'->R' Z' x v->Q1 x L'->JR R2 G A Z' H L' (u v) (Q2 x) E)
  (k2:∀Z0 Z' v x y z L',Zt.Le Z Z0->Zt.Le Z0 Z'->R' Z0 x v->R2 Z' y z->Q2 x y L'->JR R3 G A Z' H L' (w v z) Q3 E)
  (k3:∀Z' c y L',R3 Z' y c->Q3 y L'->JR R G A Z' H L' (x c) Q E):JR R G A Z H L T Q E:=
 .bP λs S=>r _ _ s (ay (h.run s S) (λv s' q=>by
  cases q with|mk Z' L' x a b c d=>
  exact ay ((k Z' v x L' a c d).run s' b) (λz s2 q=>by
   cases q with|mk Z2 L2 y a2 b2 c2 d2=>
   exact ay ((k2 Z' Z2 v x y z L2 a a2 c c2 d2).run s2 b2) (λc s3 q=>by
    cases q with|mk Z3 L3 y3 a3 b3 c3 d3=>
    exact ay ((k3 Z3 c y3 L3 c3 d3).run s3 b3) (λU U=>PQ.le (a.trans (a2.trans a3))) λU U=>PE.le (a.trans (a2.trans a3))) (λU U=>PE.le (a.trans a2))) (λU U=>PE.le a)) (λU U x=>x))
structure ES(C:Cx)(F:Fn)(σ:Lo)(tm:Tm)(e:Expr):Prop where
 ev:∀A Z H L Q E,Rm A C.d->wp C tm F.globs σ .ev L Q E->J C.G A Z (F.own σ++H) L (eval e F.env) Q E
 ts:∀A Z H L Q E,Rm A C.d->wp C tm F.globs σ .ts L Q E->JB C.G A Z (F.own σ++H) L (isTrue e F.env (eval e F.env)) Q E
structure EA(C:Cx)(F:Fn)(σ:Lo)(tm:Tm)(es:List Expr):Prop where
 st:∀pos,(backTo pos (starEach es F.env)).any (·.1)=false
 ar:∀pos A Z H L Q E,Rm A C.d->wp C tm F.globs σ .ev L Q E->JL C.G A Z (F.own σ++H) L (spliced (backTo pos (starEach es F.env))) (λxs L=>Q (.tup xs) L) E
 bo:∀op pos A Z H L Q E,Rm A C.d->wp C tm F.globs σ (.bo op false) L Q E->J C.G A Z (F.own σ++H) L (eval (.BoolOp op es pos) F.env) Q E
 bt:∀op pos fM A Z H L Q E,Rm A C.d->wp C tm F.globs σ (.bo op true) L Q E->JB C.G A Z (F.own σ++H) L (isTrue (.BoolOp op es pos) F.env fM) Q E
section
variable{C:Cx}{F:Fn}{σ:Lo}{e:Expr}
theorem ES.leaf
  (rN:∀A Z H L Q E,Rm A C.d->wp C tm F.globs σ .ev L Q E->J C.G A Z (F.own σ++H) L (eval e F.env) Q E)
  (Te:∀L Q E,wp C tm F.globs σ .ts L Q E->wp C tm F.globs σ .ev L (λv L=>mZ C v L (λb L=>Q (.bool b) L) E) E)
  (he:isTrue e F.env (eval e F.env)=(do let v ←eval e F.env;standAt e.pos;holding [v] (truthy v))):ES C F σ tm e:=
 ⟨rN,λA Z H L Q E hR h=>by rw[he];exact .ii (rN A Z H L _ E hR (Te _ _ _ h)) λZ' v x L' a c d=>.qS (.hold (JR.rb (mN hR c d) λU U x=>x))⟩
theorem DX{l:List (Option V)}{i:Nat}{f g:V->Prop}(h:match l[i]? with|some (some v)=>f v|_=>False)(k:∀v,f v->g v):match l[i]? with|some (some v)=>g v|_=>False:=by
 cases q:l[i]? with
 |none=>rw[q] at h;exact h
 |some o=>
  rw[q] at h
  cases o with
  |none=>exact h
  |some v=>exact k v h
theorem E8{l:List (Option V)}{i:Nat}{f:V->Prop}(h:match l[i]? with|some (some v)=>f v|_=>False):∃v,l[i]?=some (some v)/\f v:=by
 cases q:l[i]? with
 |none=>rw[q] at h;exact h.elim
 |some o=>
  rw[q] at h
  cases o with
  |none=>exact h.elim
  |some v=>exact(ah v rfl h)
theorem Oq(ok:bv C.G F){i x p:_}(h:F.names[i]?=some x):ES C F σ (.var i) (.Name x p):=.leaf (λA Z H L Q E hR hw=>by refine ai (E8 hw) λv h1 h2=>?_;exact J.name ok h h1 h2) (λL Q E h=>DX h λU x=>x) rfl
theorem Os(ok:bv C.G F){i x p:_}(h:(F.cells.map (·.1))[i]?=some (some x)):ES C F σ (.ao i) (.Name x p):=.leaf (λA Z H L Q E hR hw=>by
 refine ai (E8 hw) λv h1 h2=>?_;rw[getElem?_map] at h
 lk
 cases hc:F.cells[i]? with
 |none=>rw[hc] at h;cases h
 |some q=>rw[hc] at h;obtain⟨y,c⟩:=q;have:y=some x:=Option.some.inj h;subst this;exact J.P' ok hc h1 h2) (λL Q E h=>DX h λU x=>x) rfl
theorem Ot(ok:bv C.G F){i x p:_}(h:(F.globs.map (·.1))[i]?=some x):ES C F σ (.dA i) (.Name x p):=.leaf (λA Z H L Q E hR hw=>by
 have Hc:(match F.globs[i]? with|some (_,v)=>Q v L|_=>False):=hw;rw[getElem?_map] at h
 lk
 cases hc:F.globs[i]? with
 |none=>rw[hc] at h;cases h
 |some q=>
  rw[hc] at h Hc;obtain⟨y,v⟩:=q
  cases h
  exact J.xN ok (mem_of_getElem? hc) Hc) (λL Q E h=>by
  have h':(match F.globs[i]? with|some (_,v)=>eC C .ts Q E v L|_=>False):=h;refine(?_:(match F.globs[i]? with|some (_,v)=>eC C .ev _ E v L|_=>False))
  cases hc:F.globs[i]? with
  |none=>rw[hc] at h';exact h'
  |some q=>rw[hc] at h';exact h') rfl
theorem Ou{op l r a b p:_}(h1:ES C F σ l a)(h2:ES C F σ r b):ES C F σ (.bin op l r) (.BinOp a op b p):=.leaf (λA Z H L Q E hR hw=>
 .nb (λU U U h=>Rc h) (h1.ev A Z H L _ E hR hw) (λZ' v x L' U U q=>h2.ev A Z' H L' _ E hR q)
    (λZ0 Z' v x y z L' U hz i j q=>Oo hR (i.mono hz) j q)) (λU U U h=>h) rfl
theorem xk{op x a p:_}(h1:ES C F σ x a):ES C F σ (.d8 op x) (.UnaryOp op a p):=by
 have rN:∀A Z H L Q E,Rm A C.d->wp C x F.globs σ .ev L (λa L=>yM C op a L Q E) E->J C.G A Z (F.own σ++H) L (eval (.UnaryOp op a p) F.env) Q E:=λA Z H L Q E hR hw=>.na (λU U U h=>DS h) (h1.ev A Z H L _ E hR hw) λZ' v x L' U i q=>On hR i q
 cases op with
 |Not=>
  exact⟨rN,λA Z H L Q E hR hw=>.bP λs S=>K6 (ay ((h1.ts A Z H L _ E hR hw).run s S) (λb s' q=>by
   lk
   cases q with|mk Z' L' x a b' c d=>
   have c':x=.bool b:=c;subst c';exact⟨Z',L',.bool (!b),a,b',rfl,d⟩) λU U x=>x)⟩
 |_=>exact .leaf rN (λU U U h=>h) rfl
theorem Ov{op l r a b p:_}(h1:ES C F σ l a)(h2:ES C F σ r b)(hb:behindInMarks op b=false):ES C F σ (.cmp op l r) (.Compare a [op] [b] p):=
 ⟨λA Z H L Q E hR hw=>.nb (λU U U h=>Kc h hb) (h1.ev A Z H L _ E hR hw) (λZ' v x L' U U q=>h2.ev A Z' H L' _ E hR q)
     (λZ0 Z' v x y z L' U hz i j q=>oV hR (i.mono hz) j q),
  λA Z H L Q E hR hw=>.Qn (λU U U h=>ID h hb) (h1.ev A Z H L _ E hR hw) (λZ' v x L' U U q=>h2.ev A Z' H L' _ E hR q)
     (λZ0 Z' v x y z L' U hz i j q=>oV hR (i.mono hz) j q) λZ2 c w L2 k q=>JR.rb (mN hR k q) λU U x=>x⟩
theorem Ow{op dR l m r a b c p:_}(h1:ES C F σ l a)(h2:ES C F σ m b)(h3:ES C F σ r c)(hb:behindInMarks dR c=false):ES C F σ (.ik op dR l m r) (.Compare a [op,dR] [b,c] p):=by
 refine⟨λA Z H L Q E hR hw=>.na (λU U U h=>N6 h (show lastMarks [op,dR] [b,c]=false from hb)) (h1.ev A Z H L _ E hR hw) λZ' v x L' U i q=>?_,
  λA Z H L Q E hR hw=>.na (λU U U h=>Jr h (show lastMarks [op,dR] [b,c]=false from hb)) (h1.ev A Z H L _ E hR hw) λZ' v x L' U i q=>?_⟩
 ·show J C.G A Z' _ _ (do
   let rv ←holding [v] (eval b F.env)
   standAt p
   let c' ←holding [v,rv] (compareOp op v rv)
   release [v,rv] [c']
   if←holding [c',rv] (truthy c') then compareChain p rv [dR] [eval c F.env] else pure c') Q E
  refine .ii (.hold (h2.ev A Z' H L' _ E hR q)) λZ2 w y L2 z2 j q=>.qS (.ii (.hold (oV hR (i.mono z2) j q)) λZ3 cv cc L3 z3 k q=>?_);refine .ii (R':=ve) (Q1:=λU M=>M=L3) (.lift (a:=()) (λU U s h=>wpAny_release' (h s.toks)) rfl rfl) λZ4 U U L4 z4 U e=>?_;refine av e ?_;refine .ii (.hold (mN hR (k.mono z4) q)) λZ5 bb z L5 z5 ez q=>?_
  cases ez
  cases bb with
  |false=>exact .ig ((k.mono z4).mono z5) (q.2 rfl)
  |true=>refine(?_:J C.G A Z5 _ _ (compareChain p w [dR] [eval c F.env]) Q E);exact .na (λU U U h=>by with_reducible exact Js h) (h3.ev A Z5 H L5 _ E hR (q.1 rfl)) λZ6 U U L6 z6 n q=>oV hR (j.mono (z3.trans (z4.trans (z5.trans z6)))) n q
 ·show JB C.G A Z' _ _ (do
   let rv ←holding [v] (eval b F.env)
   standAt p
   let c' ←holding [v,rv] (compareOp op v rv)
   release [v,rv] [c']
   if←holding [c',rv] (truthy c') then testChain p rv [dR] [eval c F.env] else pure false) Q E
  refine .ii (.hold (h2.ev A Z' H L' _ E hR q)) λZ2 w y L2 z2 j q=>.qS (.ii (.hold (oV hR (i.mono z2) j q)) λZ3 cv cc L3 z3 k q=>?_);refine .ii (R':=ve) (Q1:=λU M=>M=L3) (.lift (a:=()) (λU U s h=>wpAny_release' (h s.toks)) rfl rfl) λZ4 U U L4 z4 U e=>?_;refine av e ?_;refine .ii (.hold (mN hR (k.mono z4) q)) λZ5 bb z L5 z5 ez q=>?_
  cases ez
  cases bb with
  |false=>exact .ig rfl (q.2 rfl)
  |true=>
   show JB C.G A Z5 _ _ (do
    let rv ←holding [w] (eval c F.env)
    standAt p
    let c' ←operate [w,rv] (compareOp dR w rv)
    holding [c'] (truthy c')) Q E
   refine .ii (.hold (h3.ev A Z5 H L5 _ E hR (q.1 rfl))) λZ6 u x3 L6 z6 n q=>.qS ?_;refine .ii (.P_ (f:=id) (g:=id) (Q:=eC C .ts Q E) (λU U U h=>qt h) (oV hR (j.mono (z3.trans (z4.trans (z5.trans z6)))) n q) λU U U x=>x) λZ7 U U L7 U o q=>?_;exact .hold (JR.rb (mN hR o q) λU U x=>x)
end
section
variable{C:Cx}{F:Fn}{σ:Lo}{e:Expr}
theorem DY:EA C F σ .bT []:=⟨λU=>rfl,λpos A Z H L Q E U h=>.nil h,λU U U U U U U U U h=>h.elim,λU U U U U U U U U U h=>h.elim⟩
theorem MF{op x y ys gl L Q E:_}(h:wp C (.ae x (.ae y ys)) gl σ (.bo op true) L Q E):wp C x gl σ .ts L (λz L=>match z with
    |.bool z=>(z=ka op->wp C (.ae y ys) gl σ (.bo op true) L Q E)/\(z=(!ka op)->Q (.bool z) L)
    |_=>False) E:=h
theorem wU{x xs es:_}(h1:ES C F σ x e)(h2:EA C F σ xs es)(hx:xs=.bT/\es=[]\/∃y ys e' ij,xs=.ae y ys/\es=e'::ij)(hb:∀rest env,starEach (e::rest) env=(false,eval e env)::starEach rest env):EA C F σ (.ae x xs) (e::es):=by
 refine⟨λpos=>?_,λpos A Z H L Q E hR hw=>?_,λop pos A Z H L Q E hR hw=>?_,λop pos fM A Z H L Q E hR hw=>?_⟩
 ·rw[hb];exact h2.st pos
 ·refine .cons (h1.ev A Z H L _ E hR hw) (λZ' x L' U q=>(h2.ar pos A Z' H L' _ E hR q).mono (λvs L q=>?_) λU x=>x) (hb _ _);exact q
 ·lk
  rcases hx with⟨rfl,rfl⟩|⟨y,ys,e',ij,rfl,rfl⟩
  ·exact h1.ev A Z H L Q E hR hw
  ·have hw:wp C x F.globs σ .ev L (λv L=>mZ C v L (λz L=>(z=ka op->wp C (.ae y ys) F.globs σ (.bo op false) L Q E)/\(z=(!ka op)->Q v L)) E) E:=hw
   show J C.G A Z _ _ (do
    let v ←eval e F.env
    standAt pos
    let t ←holding [v] (truthy v)
    match op,t with
    |.And,false|.Or,true=>pure v
    |_,_=>boolOp pos op (evalEach (e'::ij) F.env)) Q E
   refine .ii (h1.ev A Z H L _ E hR hw) λZ2 v w L2 U i q=>.qS (.ii (.hold (mN hR i q)) λZ3 t z L3 z3 et q=>?_)
   cases et
   cases op<;>cases t
   ·exact .ig (i.mono z3) (q.2 rfl)
   ·exact h2.bo .And pos A Z3 H L3 Q E hR (q.1 rfl)
   ·exact h2.bo .Or pos A Z3 H L3 Q E hR (q.1 rfl)
   ·exact .ig (i.mono z3) (q.2 rfl)
 ·rcases hx with⟨rfl,rfl⟩|⟨y,ys,e',ij,rfl,rfl⟩
  ·cases op with
   |And=>exact .bP λs S=>B' (ay ((h1.ts A Z H L Q E hR hw).run s S) (λc s' q=>by
     cases c with
     |true=>exact Kd q
     |false=>exact q) λU U x=>x)
   |Or=>exact .bP λs S=>C1 (ay ((h1.ts A Z H L Q E hR hw).run s S) (λc s' q=>by
     cases c with
     |true=>exact q
     |false=>exact K7 q) λU U x=>x)
  ·have hw:=MF hw
   cases op with
   |And=>exact .bP λs S=>B' (ay ((h1.ts A Z H L _ E hR hw).run s S) (λc s' q=>by
     cases q with|mk Z' L' x a b r q=>
     have r':x=.bool c:=r;subst r'
     cases c with
     |true=>exact ay ((h2.bt .And pos fM A Z' H L' Q E hR (q.1 rfl)).run s' b) (λU U=>PQ.le a) (λU U=>PE.le a)
     |false=>exact⟨Z',L',_,a,b,rfl,q.2 rfl⟩) λU U x=>x)
   |Or=>exact .bP λs S=>C1 (ay ((h1.ts A Z H L _ E hR hw).run s S) (λc s' q=>by
     cases q with|mk Z' L' x a b r q=>
     have r':x=.bool c:=r;subst r'
     cases c with
     |true=>exact⟨Z',L',_,a,b,rfl,q.2 rfl⟩
     |false=>exact ay ((h2.bt .Or pos fM A Z' H L' Q E hR (q.1 rfl)).run s' b) (λU U=>PQ.le a) (λU U=>PE.le a)) λU U x=>x)
theorem E9{op args es p:_}(h:EA C F σ args es):ES C F σ (.bo op args) (.BoolOp op es p):=⟨λA Z H L Q E hR hw=>h.bo op p A Z H L Q E hR hw,λA Z H L Q E hR hw=>h.bt op p _ A Z H L Q E hR hw⟩
theorem Ox{c a b c' a' b' p:_}(h1:ES C F σ c c')(h2:ES C F σ a a')(h3:ES C F σ b b'):ES C F σ (.fy c a b) (.IfExp c' a' b' p):=by
 refine⟨λA Z H L Q E hR hw=>.bP λs S=>N4 (ay ((h1.ts A Z H L _ E hR hw).run s S) (λb s' q=>?_) λU U x=>x),λA Z H L Q E hR hw=>?_⟩
 ·lk
  cases q with|mk Z' L' x a b1 r q=>
  have r':x=.bool b:=r;subst r'
  cases b with
  |true=>exact ay ((h2.ev A Z' H L' Q E hR (q.1 rfl)).run s' b1) (λU U=>PQ.le a) (λU U=>PE.le a)
  |false=>exact ay ((h3.ev A Z' H L' Q E hR (q.2 rfl)).run s' b1) (λU U=>PQ.le a) (λU U=>PE.le a)
 ·refine(?_:JB C.G A Z _ _ (do if←isTrue c' F.env (eval c' F.env) then isTrue a' F.env (eval a' F.env) else isTrue b' F.env (eval b' F.env)) Q E);refine .ii (h1.ts A Z H L _ E hR hw) λZ' v x L' U r q=>?_;have r':x=.bool v:=r;subst r'
  cases v with
  |true=>exact h2.ts A Z' H L' Q E hR (q.1 rfl)
  |false=>exact h3.ts A Z' H L' Q E hR (q.2 rfl)
theorem Oy{o n a p:_}(h1:ES C F σ o a)(hb:m5 a):ES C F σ (.aG o n) (.Attribute a n p):=.leaf (λA Z H L Q E hR hw=>.na (λU U U h=>P2 h (Kh hb)) (h1.ev A Z H L _ E hR hw) λZ' v x L' U i q=>q.run A Z' _ v hR i) (λU U U h=>h) rfl
theorem Oz{o i a b p:_}(h1:ES C F σ o a)(h2:ES C F σ i b)(hb:xP b):ES C F σ (.sub o i) (.Subscript a b p):=.leaf (λA Z H L Q E hR hw=>
 .nb (λU U U h=>uL h) (h1.ev A Z H L _ E hR hw) (λZ' v x L' U U q=>h2.ev A Z' H L' _ E hR q)
    (λZ0 Z' v x y z L' U hz i j q=>Op hR (i.mono hz) j ⟨_,hb _ _⟩ q)) (λU U U h=>h) rfl
theorem OA{o i a b p q:_}(h1:ES C F σ o a)(h2:ES C F σ i b):ES C F σ (.iG o i) (.Subscript a (.Slice (some b) .none .none q) p):=.leaf (λA Z H L Q E hR hw=>
 .nb (Q2:=λx i M=>a_ C x i M Q E) (λU U U h=>uL h) (h1.ev A Z H L _ E hR hw) (λZ' v o L' U U q=>J.slice (Q2:=λx y M=>y=V.none/\∀i,a_ C o (.ref i) ((i,.p (fa x .none .none))::M) Q E) (h2.ev A Z' _ L' _ E hR q)
   (λZ2 x M U q=>.ig .none ⟨rfl,q⟩) (λZ2 x y M U q=>by obtain⟨rfl,q⟩:=q;exact .ig .none q))
    (λZ0 Z' v x y z L' U hz i j q=>q.run A Z' _ v z _ _ hR (i.mono hz) j (iE _ rfl))) (λU U U h=>h) rfl
theorem OB{o i a b p q:_}(h1:ES C F σ o a)(h2:ES C F σ i b):ES C F σ (.je o i) (.Subscript a (.Slice .none (some b) .none q) p):=.leaf (λA Z H L Q E hR hw=>
 .nb (Q2:=λx i M=>a_ C x i M Q E) (λU U U h=>uL h) (h1.ev A Z H L _ E hR hw) (λZ' v o L' U U q=>J.slice (Q1:=λx M=>x=V.none/\M=L') (Q2:=λx y M=>x=V.none/\∀i,a_ C o (.ref i) ((i,.p (fa .none y .none))::M) Q E) (.ig .none ⟨rfl,rfl⟩)
   (λZ2 x M hz e=>by obtain⟨rfl,rfl⟩:=e;exact JR.mono (h2.ev A Z2 _ _ _ E hR q) (λU U q=>⟨rfl,q⟩) λU x=>x) (λZ2 x y M U q=>by obtain⟨rfl,q⟩:=q;exact .ig .none q))
    (λZ0 Z' v x y z L' U hz i j q=>q.run A Z' _ v z _ _ hR (i.mono hz) j (iE _ rfl))) (λU U U h=>h) rfl
theorem OC{o a p q k p1 p2:_}(h1:ES C F σ o a):ES C F σ (.rev o) (.Subscript a (.Slice .none .none (some (.UnaryOp .USub (.Constant (.int 1) k p1) p2)) q) p):=.leaf (λA Z H L Q E hR hw=>
 .nb (Q2:=λx i M=>a_ C x i M Q E) (λU U U h=>uL h) (h1.ev A Z H L _ E hR hw) (λZ' v o L' U U q=>J.slice (Q1:=λx M=>x=V.none/\M=L') (Q2:=λx y M=>x=V.none/\y=V.none/\M=L') (.ig .none ⟨rfl,rfl⟩) (λZ2 x M hz e=>by obtain⟨rfl,rfl⟩:=e;exact .ig .none (bj rfl rfl rfl))
   (λZ2 x y M U e=>by
    obtain⟨rfl,rfl,rfl⟩:=e;refine JR.na (R':=Is) (Q1:=λx N=>x=V.int 1/\N=M) (λU U U h=>DS h) (J.int ⟨rfl,rfl⟩) λZ' v x L' U i e=>?_
    lk
    obtain⟨rfl,rfl⟩:=e;obtain⟨_,rfl⟩:=i.e_;exact J.neg q))
    (λZ0 Z' v x y z L' U hz i j q=>q.run A Z' _ v z _ _ hR (i.mono hz) j (iE _ rfl))) (λU U U h=>h) rfl
theorem MG(B:Bs C.G C.K){f args a es p:_}(h1:ES C F σ f a)(h2:EA C F σ args es)(hb:xj a):ES C F σ (.call f args) (.Call a es [] p):=.leaf (λA Z H L Q E hR hw=>.na (u:=λfv=>callWith p fv [] (backTo p (starEach es F.env)) []) (λU U U h=>xg h (hb _ _ _)) (h1.ev A Z H L _ E hR hw) λZ' v x L' U i q=>J.callWith B hR i .nil q.ok.1 (h2.st p) (h2.ar p A Z' H L' _ E hR q.ok.2) λxs L q=>q) (λU U U h=>h) rfl
theorem MI(B:Bs C.G C.K){o n args a es p q:_}(h1:ES C F σ o a)(h2:EA C F σ args es)(hb:m5 a)(hl:(q.endLine==p.line)=true)(hn:es.length<30):ES C F σ (.aC o n args) (.Call (.Attribute a n q) es [] p):=.leaf (λA Z H L Q E hR hw=>
 .nb (R2:=RM) (u:=λov=>getMethod ov n (do return (←importBound a F.env).getD true)) (w:=λU fx=>callWith p fx.1 fx.2 (backTo p (starEach es F.env)) [])
  (λU U U h=>Mt h (Ki hb hl (by unfold methodCallForm;rw[List.all_eq_not_any_not];simp only[Bool.not_not];rw[h2.st p];simpa using hn))) (h1.ev A Z H L _ E hR hw) (λZ' v x L' U i q=>q.run A Z' _ v _ hR i)
  λZ0 Z' v x y z L' U U i j q=>J.callWith B hR j.1 j.2 q.ok.1 (h2.st p) (h2.ar p A Z' H L' _ E hR q.ok.2) λxs L q=>q) (λU U U h=>h) rfl
theorem OD{args es k p:_}(h:EA C F σ args es):ES C F σ (.tup args) (.Tuple es k p):=.leaf (λA Z H L Q E hR hw=>.tup ((h.ar p A Z H L _ E hR hw).mono (λxs L q=>⟨le_trans q.ok.1 (by rw[sizeLine_eq];decide),q.ok.2⟩) λU x=>x)) (λU U U h=>h) rfl
theorem OE{args es p:_}(h:EA C F σ args es):ES C F σ (.lst args) (.List es p):=.leaf (λA Z H L Q E hR hw=>.lst ((h.ar p A Z H L _ E hR hw).mono (λxs L q=>⟨le_trans q.ok.1 (by rw[sizeLine_eq];decide),q.ok.2⟩) λU x=>x)) (λU U U h=>h) rfl
theorem OF{p:_}:ES C F σ .g7 (.Dict [] [] p):=.leaf (λA Z H L Q E hR hw=>.Qc hw) (λU U U h=>h) rfl
end
def aK(C:Cx)(N:Nm)(tm:Tm)(e:Expr):Prop:=∀F σ,bv C.G F->Bs C.G C.K->F.nm=N->ES C F σ tm e
def jB(C:Cx)(N:Nm)(xs:Tm)(es:List Expr):Prop:=(xs=.bT/\es=[]\/∃y ys e' ij,xs=.ae y ys/\es=e'::ij)/\∀F σ,bv C.G F->Bs C.G C.K->F.nm=N->EA C F σ xs es
theorem ey{C:Cx}{F:Fn}(ok:bv C.G F)(B:Bs C.G C.K){tm e}(h:aK C F.nm tm e):ES C F σ tm e:=h F σ ok B rfl
section
variable{C:Cx}{N:Nm}
theorem aK.none{k p:_}:aK C N .none (.Constant .none k p):=λU U U U U=>.leaf (λU U U U U U U h=>.Qb h) (λU U U h=>h) rfl
theorem aK.bool{b k p:_}:aK C N (.bool b) (.Constant (.bool b) k p):=λU U U U U=>.leaf (λU U U U U U U h=>.E7 h) (λU U U h=>h) rfl
theorem aK.int{b k p:_}:aK C N (.int b) (.Constant (.int b) k p):=λU U U U U=>.leaf (λU U U U U U U h=>.int h) (λU U U h=>h) rfl
theorem aK.str{b k p:_}:aK C N (.str b) (.Constant (.str b) k p):=λU U U U U=>.leaf (λU U U U U U U h=>.str h) (λU U U h=>h) rfl
theorem aK.var{i x p:_}(h:N.names[i]?=some x):aK C N (.var i) (.Name x p):=λU U ok U e=>Oq ok (by subst e;exact h)
theorem aK.ao{i x p:_}(h:N.cells[i]?=some (some x)):aK C N (.ao i) (.Name x p):=λU U ok U e=>Os ok (by subst e;exact h)
theorem aK.dA{i x p:_}(h:N.globs[i]?=some x):aK C N (.dA i) (.Name x p):=λU U ok U e=>Ot ok (by subst e;exact h)
theorem aK.bin{op l r a b p:_}(h1:aK C N l a)(h2:aK C N r b):aK C N (.bin op l r) (.BinOp a op b p):=λF σ ok B e=>Ou (h1 F σ ok B e) (h2 F σ ok B e)
theorem aK.d8{op x a p:_}(h1:aK C N x a):aK C N (.d8 op x) (.UnaryOp op a p):=λF σ ok B e=>xk (h1 F σ ok B e)
theorem aK.cmp{op l r a b p:_}(h1:aK C N l a)(h2:aK C N r b)(hb:behindInMarks op b=false):aK C N (.cmp op l r) (.Compare a [op] [b] p):=λF σ ok B e=>Ov (h1 F σ ok B e) (h2 F σ ok B e) hb
theorem aK.ik{op dR l m r a b c p:_}(h1:aK C N l a)(h2:aK C N m b)(h3:aK C N r c)(hb:behindInMarks dR c=false):aK C N (.ik op dR l m r) (.Compare a [op,dR] [b,c] p):=λF σ ok B e=>Ow (h1 F σ ok B e) (h2 F σ ok B e) (h3 F σ ok B e) hb
theorem aK.bo{op args es p:_}(h1:jB C N args es):aK C N (.bo op args) (.BoolOp op es p):=λF σ ok B e=>E9 (h1.2 F σ ok B e)
theorem aK.fy{c a b c' a' b' p:_}(h1:aK C N c c')(h2:aK C N a a')(h3:aK C N b b'):aK C N (.fy c a b) (.IfExp c' a' b' p):=λF σ ok B e=>Ox (h1 F σ ok B e) (h2 F σ ok B e) (h3 F σ ok B e)
theorem aK.aG{o n a p:_}(h1:aK C N o a)(hb:m5 a):aK C N (.aG o n) (.Attribute a n p):=λF σ ok B e=>Oy (h1 F σ ok B e) hb
theorem aK.sub{o i a b p:_}(h1:aK C N o a)(h2:aK C N i b)(hb:xP b):aK C N (.sub o i) (.Subscript a b p):=λF σ ok B e=>Oz (h1 F σ ok B e) (h2 F σ ok B e) hb
theorem aK.iG{o i a b p q:_}(h1:aK C N o a)(h2:aK C N i b):aK C N (.iG o i) (.Subscript a (.Slice (some b) .none .none q) p):=λF σ ok B e=>OA (h1 F σ ok B e) (h2 F σ ok B e)
theorem aK.je{o i a b p q:_}(h1:aK C N o a)(h2:aK C N i b):aK C N (.je o i) (.Subscript a (.Slice .none (some b) .none q) p):=λF σ ok B e=>OB (h1 F σ ok B e) (h2 F σ ok B e)
theorem aK.rev{o a p q k p1 p2:_}(h1:aK C N o a):aK C N (.rev o) (.Subscript a (.Slice .none .none (some (.UnaryOp .USub (.Constant (.int 1) k p1) p2)) q) p):=λF σ ok B e=>OC (h1 F σ ok B e)
theorem aK.call{f args a es p:_}(h1:aK C N f a)(h2:jB C N args es)(hb:xj a):aK C N (.call f args) (.Call a es [] p):=λF σ ok B e=>MG B (h1 F σ ok B e) (h2.2 F σ ok B e) hb
theorem aK.aC{o n args a es p q:_}(h1:aK C N o a)(h2:jB C N args es)(hb:m5 a)(hl:(q.endLine==p.line)=true)(hn:es.length<30):aK C N (.aC o n args) (.Call (.Attribute a n q) es [] p):=λF σ ok B e=>MI B (h1 F σ ok B e) (h2.2 F σ ok B e) hb hl hn
theorem aK.tup{args es k p:_}(h1:jB C N args es):aK C N (.tup args) (.Tuple es k p):=λF σ ok B e=>OD (h1.2 F σ ok B e)
theorem aK.lst{args es p:_}(h1:jB C N args es):aK C N (.lst args) (.List es p):=λF σ ok B e=>OE (h1.2 F σ ok B e)
theorem aK.g7{p:_}:aK C N .g7 (.Dict [] [] p):=λU U U U U=>OF
theorem aK.Hd{tm e}(h:∀F σ,bv C.G F->Bs C.G C.K->F.nm=N->ES C F σ tm e):aK C N tm e:=h
theorem jB.nil:jB C N .bT []:=⟨.inl ⟨rfl,rfl⟩,λU U U U U=>DY⟩
theorem jB.cons{x xs e es:_}(h1:aK C N x e)(h2:jB C N xs es)(hb:∀rest env,starEach (e::rest) env=(false,eval e env)::starEach rest env):jB C N (.ae x xs) (e::es):=⟨.inr ⟨_,_,_,_,rfl,rfl⟩,λF σ ok B e=>wU (h1 F σ ok B e) (h2.2 F σ ok B e) h2.1 hb⟩
end
structure lw(G:Gd):Prop where
 xQ:∀(F:Fn)(A:Around) Z H σ L a s E,bv G F->(∃l,A.frames=some (F.env::l))->A.handled=none->E σ L->au G A Z ((a,.own G.exc)::L) (F.own σ++H) s->notedBy (model aH G.w) A F.env (λe s'=>cameBackBy (model aH G.w) A F.env (dz F G A Z H E) e s') (.ref a) s
 left:∀(F:Fn)(A:Around) Z H σ L a s,bv G F->(∃l,A.frames=some (F.env::l))->A.handled=none->au G A Z ((a,.own G.exc)::L) (F.own σ++H) s->
  wpAny (model aH G.w) A (leaving F.env (.ref a)) (λU s'=>∃Z',Zt.Le Z Z'/\au G A Z' ((a,.own G.exc)::L) (F.own σ++H) s') (λU U=>False) s
inductive Sm where
 |nil|seq (a rest:Sm)
 |ex(e:Tm)|asg (t:Tg) (e:Tm)|du (o:Tm) (n:Str) (e:Tm)|f0 (o i e:Tm)|pf (o e:Tm)|pg (o lo hi e:Tm)|fi (ts:List Tg) (e:Tm)
 |ret(e:Tm)|ph|pass|brk|no
 |ite(c:Tm)(a b:Sm)
 |for(ts:List Tg)(pair:Bool)(it:Tm)(body:Sm)
 |mB(c:Tm)(body:Sm)
 |sp(P:List (Str×V)->Lo->HL->(Fl->Lo->HL->Prop)->(Lo->HL->Prop)->Prop)
noncomputable def sq:List Sm->Sm
 |[]=>.nil
 |a::l=>.seq a (sq l)
noncomputable def Lo.iW (σ:Lo):List Tg->List V->Option Lo
 |[],[]=>some σ
 |t::ts,x::xs=>(σ.set t x).iW ts xs
 |_,_=>none
def nA(x:V)(ts:List Tg)(σ:Lo):Option Lo:=match x with
 |.tup xs=>σ.iW ts xs
 |_=>none
def nc(pair:Bool)(ts:List Tg)(x:V)(σ:Lo):Option Lo:=match pair with
 |true=>nA x ts σ
 |false=>σ.iW ts [x]
structure dC(C:Cx)(o i v:V)(L:HL)(Q:HL->Prop)(E:HL->Prop):Prop where
 run:∀A Z H x y z,Rm A C.d->Is Z o x->Is Z i y->Is Z v z->JP Unit C.G A Z H L (setItem x y z) (λU=>Q) E
structure db(C:Cx)(o:V)(n:Str)(v:V)(L:HL)(Q:HL->Prop)(E:HL->Prop):Prop where
 run:∀A Z H x z,Rm A C.d->Is Z o x->Is Z v z->JP Unit C.G A Z H L (setAttr x n z) (λU=>Q) E
def qU(Q:Fl->Lo->HP)(next:Lo->HP)(f:Fl)(σ:Lo)(L:HL):Prop:=match f with
 |.next=>next σ L
 |.cont=>next σ L
 |.brk=>Q .next σ L
 |.ret v=>Q (.ret v) σ L
def yN(Q:Fl->Lo->HP)(next:Lo->HP)(f:Fl)(σ:Lo)(L:HL):Prop:=match f with
 |.next=>next σ L
 |f=>Q f σ L
def Qo(f:Lo->HL->(Fl->Lo->HP)->(Lo->HP)->Prop)(Q:Fl->Lo->HP)(E:Lo->HP)(σ:Lo)(L:HL):Prop:=f σ L Q E
section
variable(C:Cx)(Q:Fl->Lo->HP)(E:Lo->HP)(σ:Lo)
def Tf:VP:=λU L=>Q .next σ L
def vh:HP:=λL=>Q .next σ L
def RG(t:Tg):VP:=λv L=>Q .next (σ.set t v) L
def OG(n:Str)(v:V):VP:=λo L=>db C o n v L (vh Q σ) (E σ)
def Qp(o:W1)(n:Str):VP:=λv L=>o L (OG C Q E σ n v) (E σ)
def OH(o v:V):VP:=λi L=>dC C o i v L (vh Q σ) (E σ)
def OI(i:W1)(v:V):VP:=λo L=>i L (OH C Q E σ o v) (E σ)
def Qq(o i:W1):VP:=λv L=>o L (OI C Q E σ i v) (E σ)
def OJ(v:V):VP:=λo L=>∀i,dC C o (.ref i) v ((i,.p (fa .none .none .none))::L) (vh Q σ) (E σ)
def Qr(o:W1):VP:=λv L=>o L (OJ C Q E σ v) (E σ)
def OK(o v x:V):VP:=λy L=>∀i,dC C o (.ref i) v ((i,.p (fa x y .none))::L) (vh Q σ) (E σ)
def OL(hi:W1)(o v:V):VP:=λx L=>hi L (OK C Q E σ o v x) (E σ)
def OM(lo hi:W1)(v:V):VP:=λo L=>lo L (OL C Q E σ hi o v) (E σ)
def Qs(o lo hi:W1):VP:=λv L=>o L (OM C Q E σ lo hi v) (E σ)
def RH(ts:List Tg):VP:=λv L=>match nA v ts σ with|some σ'=>Q .next σ' L|none=>False
def RI:VP:=λv L=>Q (.ret v) σ L
def RJ(a b:Lo->HL->(Fl->Lo->HP)->(Lo->HP)->Prop):VP:=λz L=>match z with|.bool z=>(z=true->a σ L Q E)/\(z=false->b σ L Q E)|_=>False
inductive rp(pair:Bool)(ts:List Tg)(body:Lo->HL->(Fl->Lo->HL->Prop)->(Lo->HL->Prop)->Prop)(v:V)(L:HL):Prop
 |mk(xs:List V)(L0:HL)(Ok:HL->Prop)(g8:bx pair C v L xs L0 Ok)(I:Nat->Lo->HL->Prop)(h0:I 0 σ L0)
   (eB:∀i σ L x,xs[i]?=some x->I i σ L->Ok L/\match nc pair ts x σ with
    |some σ'=>body σ' L (qU Q (I (i+1))) E
    |none=>False)
   (fin:∀σ L,I xs.length σ L->Ok L/\Q .next σ L):rp pair ts body v L
def MJ(I:Nat->Lo->HP)(n:Nat):Lo->HP:=λσ L=>∃m,m<n/\I m σ L
def RK(body:Lo->HL->(Fl->Lo->HP)->(Lo->HP)->Prop)(I:Nat->Lo->HP)(n:Nat):VP:=λz L=>match z with
   |.bool z=>(z=true->body σ L (qU Q (MJ I n)) E)/\(z=false->Q .next σ L)
   |_=>False
inductive Gx(c:Lo->W1)(body:Lo->HL->(Fl->Lo->HL->Prop)->(Lo->HL->Prop)->Prop)(L:HL):Prop
 |mk(I:Nat->Lo->HL->Prop)(h0:∃n,I n σ L)(eB:∀n σ L,I n σ L->c σ L (RK Q E σ body I n) (E σ)):Gx c body L
end
noncomputable def wpS (C:Cx):Sm->(gl:SV)->Lo->HL->(Fl->Lo->HP)->(Lo->HP)->Prop
 |.nil,_,σ,L,Q,_=>Q .next σ L
 |.seq a b,gl,σ,L,Q,E=>wpS C a gl σ L (yN Q (Qo (wpS C b gl) Q E)) E
 |.ex e,gl,σ,L,Q,E=>wp C e gl σ .ev L (Tf Q σ) (E σ)
 |.asg t e,gl,σ,L,Q,E=>wp C e gl σ .ev L (RG Q σ t) (E σ)
 |.du o n e,gl,σ,L,Q,E=>wp C e gl σ .ev L (Qp C Q E σ (wp C o gl σ .ev) n) (E σ)
 |.f0 o i e,gl,σ,L,Q,E=>wp C e gl σ .ev L (Qq C Q E σ (wp C o gl σ .ev) (wp C i gl σ .ev)) (E σ)
 |.pf o e,gl,σ,L,Q,E=>wp C e gl σ .ev L (Qr C Q E σ (wp C o gl σ .ev)) (E σ)
 |.pg o lo hi e,gl,σ,L,Q,E=>wp C e gl σ .ev L (Qs C Q E σ (wp C o gl σ .ev) (wp C lo gl σ .ev) (wp C hi gl σ .ev)) (E σ)
 |.fi ts e,gl,σ,L,Q,E=>wp C e gl σ .ev L (RH Q σ ts) (E σ)
 |.ret e,gl,σ,L,Q,E=>wp C e gl σ .ev L (RI Q σ) (E σ)
 |.ph,_,σ,L,Q,_=>Q (.ret .none) σ L
 |.pass,_,σ,L,Q,_=>Q .next σ L
 |.brk,_,σ,L,Q,_=>Q .brk σ L
 |.no,_,_,_,_,_=>False
 |.ite c a b,gl,σ,L,Q,E=>wp C c gl σ .ts L (RJ Q E σ (wpS C a gl) (wpS C b gl)) (E σ)
 |.for ts pair it body,gl,σ,L,Q,E=>wp C it gl σ .ev L (rp C Q E σ pair ts (wpS C body gl)) (E σ)
 |.mB c body,gl,σ,L,Q,E=>Gx Q E σ (λσ=>wp C c gl σ .ts) (wpS C body gl) L
 |.sp P,gl,σ,L,Q,E=>P gl σ L Q E
def SS(C:Cx)(F:Fn)(sm:Sm)(b:List Stmt):Prop:=∀A Z H σ L Q E,(∃l,A.frames=some (F.env::l))->Rm A C.d->σ.c.length=F.cells.length->wpS C sm F.globs σ L Q E->
 JS F C.G A Z H σ L (execs b F.env) (λf σ L=>σ.c.length=F.cells.length/\Q f σ L) E
def S1(C:Cx)(F:Fn)(sm:Sm)(b:Stmt):Prop:=∀A Z H σ L Q E,(∃l,A.frames=some (F.env::l))->Rm A C.d->σ.c.length=F.cells.length->wpS C sm F.globs σ L Q E->
 JS F C.G A Z H σ L (exec b F.env) (λf σ L=>σ.c.length=F.cells.length/\Q f σ L) E
section
variable{C:Cx}{F:Fn}
theorem lR:SS C F .nil []:=λA Z H σ L Q E U U hc h=>.mk λs S=>wpAny_execs_nil ⟨Z,σ,L,.next,.refl _,S,.next,hc,h⟩
theorem cC{a b st rest:_}(h1:S1 C F a st)(h2:SS C F b rest):SS C F (.seq a b) (st::rest):=λA Z H σ L Q E hA hR hc h=>.bP λs S=>
 xf (ay ((h1 A Z H σ L _ E hA hR hc h).run s S) (λf s' q=>by
  cases q with|mk Z' σ' L' fl a b r q=>
  cases r with
  |next=>exact ay ((h2 A Z' H σ' L' Q E hA hR q.1 q.2).run s' b) (λU U=>PS.le a) (λU U=>dz.le a)
  |brk=>exact⟨Z',σ',L',_,a,b,.brk,q⟩
  |cont=>exact⟨Z',σ',L',_,a,b,.cont,q⟩
  |ret i=>exact⟨Z',σ',L',_,a,b,.ret i,q⟩) λU U x=>x)
theorem PE.toS{G A Z H E F σ e s:_}(h:PE G A Z (Fn.own F σ++H) (E σ) e s):dz F G A Z H E e s:=by cases h with|mk Z' L' a le he S q=>exact⟨Z',σ,L',a,le,he,S,q⟩
theorem xR(ok:bv C.G F)(B:Bs C.G C.K){tm e pos}(h1:aK C F.nm tm e)(hi:interactive F.env=false)(hs:swapsWith e none pos.line F.env=pure false):S1 C F (.ex tm) (.Expr e pos):=λA Z H σ L Q E hA hR hc h=>.bP λs S=>
 P1 (ay (((ey ok B h1).ev A Z H L _ _ hR h).run s S) (λf s' q=>by cases q with|mk Z' L' x a b r q=>exact⟨Z',σ,L',.next,a,b,.next,hc,q⟩) λU U=>PE.toS) hi hs
theorem ON(ok:bv C.G F)(B:Bs C.G C.K){tm e pos}(h1:aK C F.nm tm e):S1 C F (.ret tm) (.Return (some e) pos):=λA Z H σ L Q E hA hR hc h=>.bP λs S=>
 C2 (ay (((ey ok B h1).ev A Z H L _ _ hR h).run s S) (λf s' q=>by cases q with|mk Z' L' x a b r q=>exact⟨Z',σ,L',.ret x,a,b,.ret r,hc,q⟩) λU U=>PE.toS)
theorem MK{pos}:S1 C F .ph (.Return none pos):=λA Z H σ L Q E hA hR hc h=>.mk λs S=>wpAny_Return_none ⟨Z,σ,L,.ret .none,.refl _,S,.ret .none,hc,h⟩
theorem ML{pos}:S1 C F .pass (.Pass pos):=λA Z H σ L Q E hA hR hc h=>.mk λs S=>wpAny_Pass ⟨Z,σ,L,.next,.refl _,S,.next,hc,h⟩
theorem OO{pos}:S1 C F .brk (.Break pos):=λA Z H σ L Q E hA hR hc h=>.mk λs S=>wpAny_Break ⟨Z,σ,L,.brk,.refl _,S,.brk,hc,h⟩
theorem DZ(ok:bv C.G F)(B:Bs C.G C.K){c a b c' a' b' pos:_}(h1:aK C F.nm c c')(h2:SS C F a a')(h3:SS C F b b'):S1 C F (.ite c a b) (.If c' a' b' pos):=λA Z H σ L Q E hA hR hc h=>.bP λs S=>
 G4 (ay (((ey ok B h1).ts A Z H L _ _ hR h).run s S) (λz s' q=>by
  lk
  cases q with|mk Z' L' x a b r q=>
  have r':x=.bool z:=r;subst r'
  cases z with
  |true=>exact ay ((h2 A Z' H σ L' Q E hA hR hc (q.1 rfl)).run s' b) (λU U=>PS.le a) (λU U=>dz.le a)
  |false=>exact ay ((h3 A Z' H σ L' Q E hA hR hc (q.2 rfl)).run s' b) (λU U=>PS.le a) (λU U=>dz.le a)) λU U=>PE.toS)
theorem tx{σ:Lo}{t:Tg}:(σ.set t v).c.length=σ.c.length:=by
 cases t with
 |var=>rfl
 |ao=>exact length_set
def mh(F:Fn)(t:Tg)(x:Str):Prop:=F.at t=some x/\F.may t=true
theorem Fn.xl{F:Fn}{t:Tg}{σ:Lo}(h:F.at t=some x)(hc:σ.c.length=F.cells.length):σ.has t:=by
 cases t with
 |var=>trivial
 |ao j=>
  have h:(F.cells[j]?).bind (λp=>p.1)=some x:=h
  cases hj:F.cells[j]? with
  |none=>rw[hj] at h;cases h
  |some p=>show j<σ.c.length;rw[hc];exact(gS hj).1
theorem D0(ok:bv C.G F)(B:Bs C.G C.K){t tm x p' e pos:_}(h1:aK C F.nm tm e)(ht:mh F t x)(hs:swapsWith e (some (.Name x p')) pos.line F.env=pure false):S1 C F (.asg t tm) (.Assign [.Name x p'] e pos):=λA Z H σ L Q E hA hR hc h=>.bP λs S=>
 AS (ay (((ey ok B h1).ev A Z H L _ _ hR h).run s S) (λf s' q=>by
  cases q with|mk Z' L' v a b r q=>
  exact ay ((JU.store (Q:=λU σ L=>σ.c.length=F.cells.length/\Q .next σ L) (E:=E) ok ht.1 (Fn.xl ht.1 hc) ht.2 r ⟨by rw[tx];exact hc,q⟩).run s' b) (λU U q=>by cases q with|mk Z2 σ2 L2 u a2 b2 _ q2=>exact⟨Z2,σ2,L2,.next,a.trans a2,b2,.next,q2⟩) (λU U=>dz.le a)) λU U=>PE.toS) hs
theorem MN(ok:bv C.G F)(B:Bs C.G C.K){o n tm a e pos g5:_}(h1:aK C F.nm tm e)(h2:aK C F.nm o a)(hs:swapsWith e (some (.Attribute a n g5)) pos.line F.env=pure false):S1 C F (.du o n tm) (.Assign [.Attribute a n g5] e pos):=λA Z H σ L Q E hA hR hc h=>.bP λs S=>
 IY (ay (((ey ok B h1).ev A Z H L _ _ hR h).run s S) (λf s' q=>by
  cases q with|mk Z' L' v a b r q=>
  exact ay (((ey ok B h2).ev A Z' H L' _ _ hR q).run s' b) (λU s2 q=>by
   cases q with|mk Z2 L2 w a2 b2 r2 q2=>
   exact ay ((q2.run A Z2 (F.own σ++H) _ _ hR r2 (r.mono a2)).run s2 b2) (λU U q=>by cases q with|mk Z3 L3 u a3 b3 r3 q3=>exact⟨Z3,σ,L3,.next,a.trans (a2.trans a3),b3,.next,hc,q3⟩) (λU U q=>(PE.toS q).le (a.trans a2))) (λU U q=>(PE.toS q).le a)) λU U=>PE.toS) hs
theorem MO(ok:bv C.G F)(B:Bs C.G C.K){o i tm a b e pos mi:_}(h1:aK C F.nm tm e)(h2:aK C F.nm o a)(h3:aK C F.nm i b)(hs:swapsWith e (some (.Subscript a b mi)) pos.line F.env=pure false):S1 C F (.f0 o i tm) (.Assign [.Subscript a b mi] e pos):=λA Z H σ L Q E hA hR hc h=>.bP λs S=>
 vY (ay (((ey ok B h1).ev A Z H L _ _ hR h).run s S) (λf s' q=>by
  cases q with|mk Z' L' v a b r q=>
  exact ay (((ey ok B h2).ev A Z' H L' _ _ hR q).run s' b) (λU s2 q=>by
   cases q with|mk Z2 L2 w a2 b2 r2 q2=>
   exact ay (((ey ok B h3).ev A Z2 H L2 _ _ hR q2).run s2 b2) (λU s3 q=>by
    cases q with|mk Z3 L3 w3 a3 b3 r3 q3=>
    exact ay ((q3.run A Z3 (F.own σ++H) _ _ _ hR (r2.mono a3) r3 (r.mono (a2.trans a3))).run s3 b3) (λU U q=>by cases q with|mk Z4 L4 u a4 b4 r4 q4=>exact⟨Z4,σ,L4,.next,a.trans (a2.trans (a3.trans a4)),b4,.next,hc,q4⟩) (λU U q=>(PE.toS q).le (a.trans (a2.trans a3)))) (λU U q=>(PE.toS q).le (a.trans a2))) (λU U q=>(PE.toS q).le a)) λU U=>PE.toS) hs
theorem MP(ok:bv C.G F)(B:Bs C.G C.K){o tm a e pos mi sp:_}(h1:aK C F.nm tm e)(h2:aK C F.nm o a)(hs:swapsWith e (some (.Subscript a (.Slice none none none sp) mi)) pos.line F.env=pure false):S1 C F (.pf o tm) (.Assign [.Subscript a (.Slice none none none sp) mi] e pos):=λA Z H σ L Q E hA hR hc h=>.bP λs S=>
 vY (ay (((ey ok B h1).ev A Z H L _ _ hR h).run s S) (λf s' q=>by
  cases q with|mk Z' L' v a b r q=>
  exact ay (((ey ok B h2).ev A Z' H L' _ _ hR q).run s' b) (λU s2 q=>by
   cases q with|mk Z2 L2 w a2 b2 r2 q2=>
   exact ay ((J.slice (A:=A) (E:=E σ) (Q:=λi M=>dC C w i v M (λL=>Q .next σ L) (E σ)) (Q1:=λx M=>x=V.none/\M=L2) (Q2:=λx y M=>x=V.none/\y=V.none/\M=L2) (.ig .none ⟨rfl,rfl⟩) (λZ3 x M hz e=>by obtain⟨rfl,rfl⟩:=e;exact .ig .none ⟨rfl,rfl,rfl⟩) (λZ3 x y M U e=>by obtain⟨rfl,rfl,rfl⟩:=e;exact .ig .none q2)).run s2 b2) (λU s3 q=>by
    cases q with|mk Z3 L3 w3 a3 b3 r3 q3=>
    exact ay ((q3.run A Z3 (F.own σ++H) _ _ _ hR (r2.mono a3) r3 (r.mono (a2.trans a3))).run s3 b3) (λU U q=>by cases q with|mk Z4 L4 u a4 b4 r4 q4=>exact⟨Z4,σ,L4,.next,a.trans (a2.trans (a3.trans a4)),b4,.next,hc,q4⟩) (λU U q=>(PE.toS q).le (a.trans (a2.trans a3)))) (λU U q=>(PE.toS q).le (a.trans a2))) (λU U q=>(PE.toS q).le a)) λU U=>PE.toS) hs
theorem MR(ok:bv C.G F)(B:Bs C.G C.K){o lo hi tm a e b c pos mi sp:_}(h1:aK C F.nm tm e)(h2:aK C F.nm o a)(h3:aK C F.nm lo b)(h4:aK C F.nm hi c)(hs:swapsWith e (some (.Subscript a (.Slice (some b) (some c) none sp) mi)) pos.line F.env=pure false):S1 C F (.pg o lo hi tm) (.Assign [.Subscript a (.Slice (some b) (some c) none sp) mi] e pos):=λA Z H σ L Q E hA hR hc h=>.bP λs S=>
 vY (ay (((ey ok B h1).ev A Z H L _ _ hR h).run s S) (λf s' q=>by
  cases q with|mk Z' L' v a b r q=>
  exact ay (((ey ok B h2).ev A Z' H L' _ _ hR q).run s' b) (λU s2 q=>by
   cases q with|mk Z2 L2 w a2 b2 r2 q2=>
   exact ay ((J.slice (A:=A) (E:=E σ) (Q:=λi M=>dC C w i v M (λL=>Q .next σ L) (E σ)) (Q2:=λx y M=>∀i,dC C w (.ref i) v ((i,.p (fa x y .none))::M) (λL=>Q .next σ L) (E σ)) ((ey ok B h3).ev A Z2 H L2 _ _ hR q2) (λZ3 x M hz q=>(ey ok B h4).ev A Z3 H M _ _ hR q) (λZ3 x y M U q=>.ig .none q)).run s2 b2) (λU s3 q=>by
    cases q with|mk Z3 L3 w3 a3 b3 r3 q3=>
    exact ay ((q3.run A Z3 (F.own σ++H) _ _ _ hR (r2.mono a3) r3 (r.mono (a2.trans a3))).run s3 b3) (λU U q=>by cases q with|mk Z4 L4 u a4 b4 r4 q4=>exact⟨Z4,σ,L4,.next,a.trans (a2.trans (a3.trans a4)),b4,.next,hc,q4⟩) (λU U q=>(PE.toS q).le (a.trans (a2.trans a3)))) (λU U q=>(PE.toS q).le (a.trans a2))) (λU U q=>(PE.toS q).le a)) λU U=>PE.toS) hs
theorem OP(X:lw C.G)(ok:bv C.G F)(B:Bs C.G C.K){c c' body qV pos:_}(h1:aK C F.nm c c')(h2:SS C F body qV):S1 C F (.mB c body) (.While c' qV [] pos):=λA Z H σ L Q E hA hR hc h=>.bP λs S=>by
 lk
 obtain⟨I,⟨n,h0⟩,hI⟩:=h
 have uo:∀Z1,Zt.Le Z Z1->∀e s',dz F C.G A Z1 H E e s'->notedBy (model aH C.G.w) A F.env (λe s'=>cameBackBy (model aH C.G.w) A F.env (dz F C.G A Z H E) e s') e s':=by
  intro Z1 hz e s' q
  cases q with|mk Z2 σ2 L2 a le he S q=>
  refine av he ?_;exact wpAny_mono (X.xQ F A Z2 H σ2 L2 a s' E ok hA hR.handled q S) (λU eg q=>wpAny_mono q (λU U=>dz.le (hz.trans le)) (λU U=>dz.le (hz.trans le))) (λU eg q=>wpAny_mono q (λU U=>dz.le (hz.trans le)) (λU U=>dz.le (hz.trans le)))
 refine N5 (Jt (λn s=>∃Z1 iI L1,Zt.Le Z Z1/\au C.G A Z1 L1 (F.own iI++H) s/\iI.c.length=F.cells.length/\I n iI L1) (λn s hs=>?_) n (gI Z σ L (.refl _) S hc h0));refine ew hs λZ1 iI L1 hz S hc hi=>?_;refine ay (((ey ok B h1).ts A Z1 H L1 _ _ hR (hI n iI L1 hi)).run s S) (λz s' q=>?_) (λe s' q=>uo Z1 hz e s' (PE.toS q))
 lk
 cases q with|mk Z' L' x a b r q=>
 have r':x=.bool z:=r;subst r'
 cases z with
 |true=>
  refine ay ((h2 A Z' H iI L' _ E hA hR hc (q.1 rfl)).run s' b) (λf s3 q=>?_) (λe s' q=>uo Z' (hz.trans a) e s' q)
  cases q with|mk Z3 gz L3 fl a3 b3 r3 q3=>
  cases r3 with
  |next=>obtain⟨m,hm,q⟩:=q3.2;exact(wg m hm Z3 gz L3 (hz.trans (a.trans a3)) b3 q3.1 q)
  |cont=>obtain⟨m,hm,q⟩:=q3.2;exact(wg m hm Z3 gz L3 (hz.trans (a.trans a3)) b3 q3.1 q)
  |brk=>exact⟨Z3,gz,L3,.next,hz.trans (a.trans a3),b3,.next,q3⟩
  |ret i=>exact⟨Z3,gz,L3,_,hz.trans (a.trans a3),b3,.ret i,q3⟩
 |false=>exact aP (wpAny_execs_nil ⟨Z',iI,L',.next,hz.trans a,b,.next,hc,q.2 rfl⟩)
end
section
variable{G:Gd}{A:Around}{Z:Zt}{L:HL}{H H':bF}{s:Shared}
theorem au.e8(p:Perm H H')(S:au G A Z L H s):au G A Z L H' s:=by refine ai S λl e S=>?_;exact(ah l e (S.perm (.append_left _ p)))
theorem au.k_(p:Sublist H' H)(S:au G A Z L H s):au G A Z L H' s:=by refine ai S λl e S=>?_;exact(ah l e (S.sub (.append_left p _)))
theorem St.ext{L:bF}{h':Heap}{t:Nat}(S:St G A Z L s)(e:∀b o,s.heap.get? b=some o->h'.get? b=some o):St G A Z L {s with heap:=h',toks:=t}:=⟨S.base,λb o q=>e b o (S.keep b o q),S.nd,λp hp=>by obtain⟨z,o,h1,h2⟩:=S.cells p hp;exact(dc z o (e _ _ h1) h2),S.frames.mono λa o q k=>⟨(ah o (e a o q.1) q.2),k⟩,S.gens,S.os⟩
theorem au.ext{h':Heap}{t:Nat}(S:au G A Z L H s)(e:∀b o,s.heap.get? b=some o->h'.get? b=some o):au G A Z L H {s with heap:=h',toks:=t}:=by refine ai S λl q S=>?_;exact(ah l q (S.ext e))
theorem au.pi{a:Addr}{c:P0}{t:Nat}(S:au G A Z L ((a,c)::H) s)(e:ExtBut a s.heap h')(hf:c.isFrame=false:=by rfl):au G A Z L H {s with heap:=h',toks:=t}:=by
 lk
 refine ai S λl q S=>?_;have S:=S.perm perm_middle
 lk
 refine bW (S.cells (a,c) (.head _)) λhz o0 h0 U=>?_;have gA:=List.nodup_cons.mp S.nd;refine(ah l q ⟨S.base,λb o q=>e b o (λx=>by subst x;rw[hz] at q;cases q) (S.keep b o q),gA.2,λp hp=>?_,?_,S.gens,S.os⟩)
 ·lk
  refine bW (S.cells p (.tail _ hp)) λz o h1 h2=>?_;exact(dc z o (e _ _ (λx=>gA.1 (List.mem_map.mpr (ah p hp x))) h1) h2)
 ·refine S.frames.mono λb o q k=>⟨(ah o (e b o (λx=>?_) q.1) q.2),λp hp=>k p (.tail _ hp)⟩;have:=k (a,c) (.head _) x.symm;rw[show P0.isFrame (a,c).2=c.isFrame from rfl,hf] at this;cases this
end
section
variable{C:Cx}{F:Fn}{A:Around}{Z:Zt}{L:HL}{H:bF}{σ σ':Lo}
noncomputable def jw (F:Fn):List Tg->List Expr->Prop
 |[],[]=>True
 |t::ts,e::es=>(∃x p,e=.Name x p/\mh F t x)/\jw F ts es
 |_,_=>False
theorem sL:∀{ts xs}{σ σ':Lo},σ.iW ts xs=some σ'->σ'.c.length=σ.c.length:=by
 intro ts
 induction ts with
 |nil=>
  intro xs σ σ' h
  cases xs with
  |nil=>cases h;rfl
  |cons=>cases h
 |cons t ts ih=>
  intro xs σ σ' h
  cases xs with
  |nil=>cases h
  |cons x xs=>rw[ih (show(σ.set t x).iW ts xs=some σ' from h),tx]
theorem MS{t t':Tg}(h:σ.has t'):(σ.set t x).has t':=by
 cases t' with
 |var=>trivial
 |ao i=>exact Nat.lt_of_lt_of_eq h tx.symm
theorem jw.has(hc:σ.c.length=F.cells.length):∀{ts es},jw F ts es->∀t∈ts,σ.has t:=by
 intro ts
 induction ts with
 |nil=>intro es _ t h;cases h
 |cons t ts ih=>
  intro es ht t' h
  lk
  cases es with
  |nil=>exact ht.elim
  |cons e es=>
   obtain⟨⟨y,p,rfl,vi⟩,zv⟩:=ht
   cases h with
   |head=>exact Fn.xl vi.1 hc
   |tail _ h=>exact ih zv _ h
theorem JU.MU(ok:bv C.G F){Q:Lo->HP}{E:Lo->HP}:∀{ts es xs}{vs:LV}{Z σ},jw F ts es->σ.iW ts xs=some σ'->aZ Z xs vs->(∀t∈ts,σ.has t)->Q σ' L->
  JU F C.G A Z H σ L (assignInOrder ((assignEach es F.env).map (·.2)) vs) (λU=>Q) E:=by
 intro ts
 induction ts with
 |nil=>
  intro es xs vs Z σ ht hs hv hc q
  lk
  cases es with
  |cons=>exact ht.elim
  |nil=>
   lk
   cases xs with
   |cons=>cases hs
   |nil=>
    cases hs
    refine av hv.dN ?_;exact .mk λs S=>wpAny_assignInOrder_none ⟨Z,_,L,(),.refl _,S,rfl,q⟩
 |cons t ts ih=>
  intro es xs vs Z σ ht hs hv hc q
  lk
  cases es with
  |nil=>exact ht.elim
  |cons e es=>
   lk
   cases xs with
   |nil=>cases hs
   |cons x xs=>
    lk
    cases hv with
    |cons i hv=>
    obtain⟨⟨y,p,rfl,vi⟩,zv⟩:=ht;refine .bP λs S=>B_ (wv (ay ((JU.store (Q:=λU σ2 L2=>σ2=σ.set t x/\L2=L) (E:=E) ok vi.1 (hc _ (.head _)) vi.2 i ⟨rfl,rfl⟩).run s S) (λU s2 q2=>?_) λU U x=>x))
    lk
    cases q2 with|mk Z2 σ2 L2 u a2 b2 _ q2=>
    lk
    obtain⟨rfl,rfl⟩:=q2;exact ay ((ih zv hs (hv.mono a2) (λt' h=>MS (hc _ (.tail _ h))) q).run s2 b2) (λU U=>PS.le a2) (λU U=>dz.le a2)
theorem MV:∀{ts es},jw F ts es->ts.length=es.length/\(assignEach es F.env).length=es.length/\(assignEach es F.env).findIdx? (·.1)=none:=by
 intro ts
 induction ts with
 |nil=>
  intro es h
  cases es with
  |cons=>exact h.elim
  |nil=>exact(bj rfl rfl rfl)
 |cons t ts ih=>
  intro es h
  cases es with
  |nil=>exact h.elim
  |cons e es=>
   lk
   obtain⟨⟨x,p,rfl,_⟩,h⟩:=h;refine fq (ih h) λa b c=>?_;have hc:assignEach (.Name x p::es) F.env=(false,assign (.Name x p) F.env)::assignEach es F.env:=rfl;refine(bj (by rw[length_cons,length_cons,a]) (by rw[hc,length_cons,length_cons,b]) ?_);rw[hc,List.findIdx?_cons,c];rfl
theorem wi:∀{ts xs}{σ σ':Lo},σ.iW ts xs=some σ'->xs.length=ts.length:=by
 intro ts
 induction ts with
 |nil=>
  intro xs σ σ' h
  cases xs with
  |nil=>rfl
  |cons=>cases h
 |cons t ts ih=>
  intro xs σ σ' h
  cases xs with
  |nil=>cases h
  |cons x xs=>rw[length_cons,length_cons,ih (show(σ.set t x).iW ts xs=some σ' from h)]
theorem tA{ts σ σ'}(h:nA x ts σ=some σ'):∃xs,x=.tup xs/\σ.iW ts xs=some σ':=by
 lk
 cases x with
 |tup xs=>exact(ah xs rfl h)
 |_=>cases h
theorem JU.unpack(ok:bv C.G F)(hh:A.handled=none){Q:Lo->HP}{E:Lo->HP}{ts es}{k p:_}(ht:jw F ts es)(hx:nA x ts σ=some σ')(hv:Is Z x v)(hc:∀t∈ts,σ.has t)(q:Q σ' L):
  JU F C.G A Z H σ L (assign (.Tuple es k p) F.env v) (λU=>Q) E:=.bP λs S=>by
 lk
 refine ai (tA hx) λxs cS hs=>?_;subst cS;refine dJ hv.cy λa vs n aE hz hi=>?_;subst aE;refine fq (MV (F:=F) ht) λh1 h2 h3=>?_;have hl:=wi hs;refine K9 hh (items:=vs) (eA _ (S.keep _ _ hz) rfl n rfl) ?_ h3 λh' he=>?_
 ·have:=hi.length;rw[h2,←h1,←hl,←this];exact length_toList
 ·exact(JU.MU ok (H:=H) (E:=E) ht hs hi hc q).run {s with heap:=h',toks:=s.toks} (S.ext λb o e=>he b o (ne_of_lt (lt_size e)) e)
def pk(F:Fn)(pair:Bool)(ts:List Tg)(e:Expr):Prop:=match pair with
 |true=>∃es k p,e=.Tuple es k p/\jw F ts es
 |false=>jw F ts [e]
theorem pk.tup{pair ts e}(ht:pk F pair ts e):pair=true->yK e:=λh=>by subst h;refine xC ht λes k p aE U=>?_;refine uu aE ?_;exact⟨es,k,p,rfl⟩
theorem pk.has{pair ts e}(ht:pk F pair ts e)(hc:σ.c.length=F.cells.length):∀t∈ts,σ.has t:=by
 lk
 cases pair with
 |true=>obtain⟨es,k,p,rfl,ht⟩:=ht;exact ht.has hc
 |false=>exact jw.has hc (es:=[e]) ht
theorem JU.bind(ok:bv C.G F)(hh:A.handled=none){Q:Lo->HP}{E:Lo->HP}{pair ts e}(ht:pk F pair ts e)(hx:nc pair ts x σ=some σ')(hv:Is Z x v)(hc:∀t∈ts,σ.has t)(q:Q σ' L):
  JU F C.G A Z H σ L (assign e F.env v) (λU=>Q) E:=by
 lk
 cases pair with
 |true=>obtain⟨es,k,p,rfl,ht⟩:=ht;exact .unpack ok hh ht hx hv hc q
 |false=>
  cases ts with
  |nil=>exact ht.elim
  |cons t ts=>
   cases ts with
   |cons=>exact ht.2.elim
   |nil=>obtain⟨⟨y,p,rfl,ht⟩,_⟩:=ht;have hx:σ.set t x=σ':=Option.some.inj hx;subst hx;exact .bP λs S=>wv ((JU.store ok ht.1 (hc _ (.head _)) ht.2 hv q).run s S)
theorem Kj{pair ts}{σ σ':Lo}(h:nc pair ts x σ=some σ'):σ'.c.length=σ.c.length:=by
 lk
 cases pair with
 |true=>obtain⟨xs,rfl,hs⟩:=tA h;exact sL hs
 |false=>exact sL h
theorem D3(X:lw C.G)(ok:bv C.G F)(B:Bs C.G C.K){pair ts e it nU body qV pos}(h1:aK C F.nm it nU)(h2:SS C F body qV)(ht:pk F pair ts e)(hs:∀x,foldedSetIterable nU F.env x=pure x):S1 C F (.for ts pair it body) (.For e nU qV [] pos):=λA Z H σ L Q E hA hR hc h=>.bP λs S=>by
 have uo:∀Z1 K,Zt.Le Z Z1->∀e s',dz F C.G A Z1 (K++H) E e s'->notedBy (model aH C.G.w) A F.env (λe s'=>cameBackBy (model aH C.G.w) A F.env (dz F C.G A Z H E) e s') e s':=by
  intro Z1 K hz e s' q
  cases q with|mk Z2 σ2 L2 a le he S q=>
  refine av he ?_;have S':au C.G A Z2 ((a,.own C.G.exc)::L2) (F.own σ2++H) s':=S.k_ (.append_left (sublist_append_right ..) _);exact wpAny_mono (X.xQ F A Z2 H σ2 L2 a s' E ok hA hR.handled q S') (λU eg q=>wpAny_mono q (λU U=>dz.le (hz.trans le)) (λU U=>dz.le (hz.trans le))) (λU eg q=>wpAny_mono q (λU U=>dz.le (hz.trans le)) (λU U=>dz.le (hz.trans le)))
 refine Rf (ay (((ey ok B h1).ev A Z H L _ _ hR h).run s S) (λv s1 q=>?_) λU U=>PE.toS) hs
 lk
 cases q with|mk Z1 L1 x fH S1 i1 q=>
 obtain⟨xs,L0,Ok,rq,I,h0,kT,kc⟩:=q;refine ay (aP (rq.run A Z1 _ s1 v hR.handled i1 S1)) (λHe s2 q=>?_) (λU U x=>x.elim);refine ew q λit K Z2 aE gm W S2=>?_;refine av aE ?_;have S2:au C.G A Z2 L0 (F.own σ++(K 0++H)) s2:=S2.e8 (perm_append_comm_assoc ..);refine K8 (λn s=>∃Z3 i gz L3,Zt.Le Z Z3/\n+i=xs.length/\au C.G A Z3 L3 (F.own gz++(K i++H)) s/\gz.c.length=F.cells.length/\I i gz L3) (λn s3 Th=>?_) xs.length (Bx Z2 0 σ L0 (fH.trans gm) rfl S2 hc h0)
 lk
 refine J_ Th λZ3 i gz L3 fU hn S3 zw hI=>?_
 have hok:Ok L3:=by
  by_cases aT:i<xs.length
  ·exact(kT i gz L3 _ (gE aT) hI).1
  ·have:i=xs.length:=aa FG hn aT;subst this;exact(kc gz L3 hI).1
 refine ay (aP (W.next A Z3 L3 (F.own gz++H) i s3 e hR.handled (ht.tup) hok (S3.e8 (perm_append_comm_assoc ..)))) (λr s4 q=>?_) (λU U x=>x.elim)
 cases r with
 |none=>
  lk
  obtain⟨hx,S4⟩:=q
  have:i=xs.length:=by have:=List.getElem?_eq_none_iff.mp hx;exact aa FH hn this
  subst this;exact aP (wpAny_execs_nil ⟨Z3,gz,L3,.next,fU,S4,.next,zw,(kc gz L3 hI).2⟩)
 |some v=>
  refine ay (aP q) (λU s5 q=>?_) (λU U x=>x.elim)
  lk
  refine gK q λZ5 x rO hx hv S5=>?_
  lk
  refine xA (kT i gz L3 x hx hI) λU hb=>?_
  cases iJ:nc pair ts x gz with
  |none=>rw[iJ] at hb;exact hb.elim
  |some Hf=>
   rw[iJ] at hb;have S5:au C.G A Z5 L3 (F.own gz++(K (i+1)++H)) s5:=S5.e8 (perm_append_comm_assoc ..);refine ay ((JU.bind ok hR.handled (Q:=λzx L5=>zx=Hf/\L5=L3) (E:=λU U=>False) ht iJ hv (ht.has zw) ⟨rfl,rfl⟩).run s5 S5) (λU s6 q=>?_) (λU U q=>by cases q with|mk _ _ _ _ _ _ _ q=>exact q.elim)
   lk
   cases q with|mk Z6 zx L5 u n5 S6 _ q=>
   lk
   obtain⟨rfl,rfl⟩:=q;refine ay ((h2 A Z6 (K (i+1)++H) zx L5 _ E hA hR (by rw[Kj iJ];exact zw) hb).run s6 S6) (λf s7 q=>?_) (λe s7 q=>uo Z6 _ (fU.trans (rO.trans n5)) e s7 q)
   lk
   cases q with|mk Z7 vj L7 fl vk S7 r7 q=>
   have pU:=fU.trans (rO.trans (n5.trans vk));have aT:=(gS hx).1
   cases r7 with
   |next=>exact⟨n-1,aa uv hn aT,Z7,i+1,vj,L7,pU,aa uw hn aT,S7,q.1,q.2⟩
   |cont=>exact⟨n-1,aa uv hn aT,Z7,i+1,vj,L7,pU,aa uw hn aT,S7,q.1,q.2⟩
   |brk=>exact⟨Z7,vj,L7,.next,pU,S7.k_ (.append_left (sublist_append_right ..) _),.next,q⟩
   |ret i=>exact⟨Z7,vj,L7,_,pU,S7.k_ (.append_left (sublist_append_right ..) _),.ret i,q⟩
end
structure Df where
 f:Addr
 fd:FuncData
 body:List Stmt
 params:List Str
 locs:List (Str×Option Nat)
 dq:List (Str×Option Nat)
 globs:SV
def Df.fn(D:Df)(fr:Addr):Fn where
 env:=gv D.fd D.f fr
 fr:=fr
 names:=D.locs.map (·.1)
 cells:=D.dq.zipIdx.map λp=>(some p.1.1,fr+(1+p.2))
 globs:=D.globs
noncomputable def Df.at (D:Df) (xs:List V):Lo:=⟨D.locs.map λp=>p.2.bind (xs[·]?),D.dq.map λp=>p.2.bind (xs[·]?)⟩
def Df.ie(D:Df)(K:Frag):Bool:=qT K D.fd D.params D.locs D.dq (D.globs.map (·.1))&&
 (D.locs.map (·.1)++(D.dq.map (·.1)++D.globs.map (·.1))).all (λn=>!(n==("__debug__":Str)))&&D.dq.all (λp=>!(p.1==("__classdict__":Str)))
noncomputable def ir (G:Gd):SV->Prop
 |[]=>True
 |p::r=>oU G p.1 p.2/\ir G r
theorem ir.mem:∀{l:SV},ir G l->∀p∈l,oU G p.1 p.2:=by
 intro l
 induction l with
 |nil=>intro _ p hp;cases hp
 |cons q l ih=>
  intro h p hp
  cases hp with
  |head=>exact h.1
  |tail _ hp=>exact ih h.2 p hp
structure uQ(G:Gd)(K:Frag)(D:Df):Prop where
 obj:K.lookup D.f=some (xL D.fd)
 body:D.fd.body=.stmts D.body
 ie:D.ie K=true
 globs:ir G D.globs
theorem OQ(D:Df)(fr:Addr)(xs:List V):(D.fn fr).own (D.at xs)=(fr,.frame (D.locs.map (·.1)) (D.locs.map λp=>p.2.bind (xs[·]?)))::t5 fr D.dq xs:=by
 have key:∀(l:List (Str×Option Nat))(k:Nat),zipWith (λ(p:Option Str×Addr) v=>(p.2,P0.cY v)) ((l.zipIdx k).map λp=>(some p.1.1,fr+(1+p.2))) (l.map λp=>p.2.bind (xs[·]?))=(l.zipIdx k).map λp=>(fr+(1+p.2),P0.cY (p.1.2.bind (xs[·]?))):=by
  intro l
  induction l with
  |nil=>intro k;rfl
  |cons a l ih=>intro k;rw[zipIdx_cons,map_cons,map_cons,zipWith_cons_cons,ih,map_cons]
 show _::zipWith _ _ _=_::_;simp only[show(D.fn fr).cells=D.dq.zipIdx.map λp=>(some p.1.1,fr+(1+p.2)) from rfl,show(D.at xs).c=D.dq.map λp=>p.2.bind (xs[·]?) from rfl,key]
 rfl
theorem uQ.pV{G K D:_}(h:uQ G K D)(fr:Addr):bv G (D.fn fr):=by
 have c:=h.ie;unfold Df.ie at c
 lk
 obtain⟨c,d2⟩:=tB c
 lk
 obtain⟨c,d1⟩:=tB c;unfold qT at c
 lk
 obtain⟨ck,zq⟩:=tB c
 lk
 obtain⟨ck,rJ⟩:=tB ck
 lk
 obtain⟨ck,my⟩:=tB ck
 lk
 obtain⟨ck,rK⟩:=tB ck
 lk
 obtain⟨ck,nY⟩:=tB ck
 lk
 obtain⟨ck,c9⟩:=tB ck
 lk
 obtain⟨ck,c8⟩:=tB ck
 lk
 obtain⟨ck,c7⟩:=tB ck;obtain⟨ck,c6⟩:=tB ck;obtain⟨ck,c5⟩:=tB ck;obtain⟨ck,c4⟩:=tB ck;have xS:∀n,n∈D.locs.map (·.1)++(D.dq.map (·.1)++D.globs.map (·.1))->(n==("__debug__":Str))=false:=λn hn=>(not_eq_true' _).mp (List.all_eq_true.mp d1 n hn)
 have cellAt:∀x c,(some x,c)∈(D.fn fr).cells->∃(p:Str×Option Nat)(j:Nat),(p,j)∈D.dq.zipIdx/\p.1=x/\c=fr+(1+j):=λx c hm=>by
  refine ai (List.mem_map.mp hm) λrL hz e=>?_;obtain⟨p,j⟩:=rL
  cases e
  exact⟨p,j,hz,rfl,rfl⟩
 have E_:∀p∈D.dq.zipIdx,D.fd.scope.names.lookup p.1.1=some .cell/\(cellsFrom 1 D.fd.scope.names []).lookup p.1.1=some (1+p.2):=λp hp=>by refine xA (tB (List.all_eq_true.mp my p hp)) λh h3=>?_;refine xA (tB h) λh1 h2=>?_;exact⟨eq_of_beq h1,eq_of_beq h3⟩
 refine⟨eq_of_beq c4,rfl,eq_of_beq c8,eq_of_beq c9,λx hx=>?_,λx c hm=>?_,λU x c hm=>?_,λp hp=>?_⟩
 ·refine ai (List.mem_map.mp hx) λp hp aw=>?_;subst aw;exact⟨eq_of_beq (tB (List.all_eq_true.mp nY p hp)).1,xS _ (mem_append_left _ hx)⟩
 ·refine j0 (cellAt x c hm) λp j hz aE g9=>?_;refine av (Eq.symm aE) ?_;subst g9;obtain⟨h1,h2⟩:=E_ _ hz;have hp:p∈D.dq:=(List.mem_zipIdx hz).2.2▸getElem_mem _;exact⟨(bj (.inl h1) (xS _ (mem_append_right _ (mem_append_left _ (mem_map_of_mem hp)))) ((not_eq_true' _).mp (List.all_eq_true.mp d2 p hp))),ww h2 fr⟩
 ·refine j0 (cellAt x c hm) λp j hz aE g9=>?_;refine av (Eq.symm aE) ?_;refine av (Eq.symm g9) ?_;exact(E_ _ hz).1
 ·exact(bj (eq_of_beq (List.all_eq_true.mp zq _ (mem_map_of_mem hp))) (xS _ (mem_append_right _ (mem_append_right _ (mem_map_of_mem hp)))) (h.globs.mem p hp))
theorem i5.tail{A:Around}{L}(x:i5 (A.deeper env) Z h L):i5 A Z h L:=by
 lk
 refine ai x λl e q=>?_;have e':A.frames.map (env::·)=some l:=e
 cases hf:A.frames with
 |none=>rw[hf] at e';cases e'
 |some l'=>rw[hf] at e';cases e';exact(ah l' hf (λyO he=>q yO (.tail _ he)))
theorem au.leave{G A env Z L H s:_}(S:au G (Around.deeper A env) Z L H s):au G A Z L H s:=by refine ai S λl e S=>?_;exact(ah l e ⟨S.base,S.keep,S.nd,S.cells,S.frames.tail,S.gens,S.os⟩)
theorem i5.some{A Z h L:_}(x:i5 A Z h L):∃l,A.frames=.some l:=by obtain⟨l,e,_⟩:=x;exact⟨l,e⟩
noncomputable def RL:Fl->V
 |.ret v=>v
 |_=>.none
def gC(Q:VP)(f:Fl)(_:Lo)(L:HL):Prop:=Q (RL f) L
theorem Sp.of{K:Frag}{d:Nat}{D:Df}(B:Bs G K)(X:lw G)(ok:uQ G K D)(hs:∀fr,SS ⟨G,K,d⟩ (D.fn fr) sm D.body){xs us:List V}{Q:VP}{E:HP}
  (hl:D.params.length=us.length)
  (xM:∀Z H A vs s,au G A Z L H s->aZ Z xs vs->∃rP,aZ Z us rP/\BindsTo s D.fd ⟨vs,[]⟩ (D.params.zip rP))
  (h:wpS ⟨G,K,d⟩ sm D.globs (D.at us) L (gC Q) (λU=>E)):Sp G D.f (d+1) xs L Q E:=by
 refine⟨λA Z H vs s hR hv S=>?_⟩
 lk
 refine ai (xM Z H A vs s S hv) λrP zj hb=>?_;refine ai S λl el S=>?_
 have Ti:qT K D.fd D.params D.locs D.dq (D.globs.map (·.1))=true:=by have c:=ok.ie;unfold Df.ie at c;exact(tB (tB c).1).1
 refine enter B S hR.room ok.obj Ti hb ok.body zj hl rfl rfl λfr s' S'=>?_
 have S2:au G (A.deeper (gv D.fd D.f fr)) Z L ((D.fn fr).own (D.at us)++H) s':=(ah l el (S'.perm (by simp only[OQ];exact((perm_append_comm_assoc ..).cons _).trans List.perm_middle.symm)))
 have hA:∃l,(A.deeper (gv D.fd D.f fr)).frames=some ((D.fn fr).env::l):=by refine xE S.frames.some λl' e=>?_;exact(iE l' (by show A.frames.map _=_;rw[e];rfl))
 have Hg:Rm (A.deeper (gv D.fd D.f fr)) d:=hR.deeper;refine ay ((hs fr _ Z H (D.at us) L _ _ hA Hg ?_ h).run s' S2) (λfl s2 q=>?_) (λe s2 q=>?_)
 ·refine(?_:(D.dq.map _).length=(D.dq.zipIdx.map _).length);simp only[length_map,length_map,List.length_zipIdx]
 ·cases q with|mk Z' σ' L' UP le S3 r q=>
  have S4:au G A Z' L' H s2:=(S3.k_ (sublist_append_right ..)).leave
  cases r with
  |next=>exact⟨Z',L',_,le,S4,.none,q.2⟩
  |brk=>exact⟨Z',L',_,le,S4,.none,q.2⟩
  |cont=>exact⟨Z',L',_,le,S4,.none,q.2⟩
  |ret i=>exact⟨Z',L',_,le,S4,i,q.2⟩
 ·cases q with|mk Z' σ' L' a le he S3 q=>
  refine av he ?_;refine wpAny_mono (X.left (D.fn fr) _ Z' H σ' L' a s2 (ok.pV fr) hA Hg.handled S3) (λU s3 q3=>?_) (λU U x=>x.elim);refine ai q3 λZ3 fU S5=>?_;exact⟨Z3,L',a,le.trans fU,rfl,(S5.k_ (sublist_append_right ..)).leave,q⟩
section
variable{C:Cx}{L L':HL}{Q:VP}{E:HP}{a:Addr}{xs:List V}{k:Int}{v:V}
theorem tE{vs:Array Value}(h:aZ Z xs vs.toList){i:Nat}(hx:xs[i]?=some v):∃u,vs[i]?=some u/\Is Z v u:=by refine ai (h.get hx) λu h1 h2=>?_;exact(ah u (by rw[←getElem?_toList];exact h1) h2)
theorem La(h:cy xs k=some v):0<=k/\k<1000000/\xs[k.toNat]?=some v:=by
 unfold cy at h
 split at h
 ·rename_i hk;exact(bj hk.1 hk.2 h)
 ·as_aux_lemma=>
  lk
  cases h
theorem a_.list(h:ap L a (.list xs))(hx:cy xs k=some v)(q:Q v L):a_ C (.ref a) (.int k) L Q E:=⟨λA Z H x y value slice hR cr hy hs=>by
 lk
 obtain rfl:=cr.ce;obtain⟨_,rfl⟩:=hy.e_
 lk
 refine fq (La hx) λh0 h1 hx=>?_;obtain⟨em,hs⟩:=hs;refine .mk λs S=>?_
 lk
 refine dI (S.cell h) λU o ho vs n aN hv=>?_;subst aN;refine ai (tE hv hx) λu hu hi=>?_;have hl:s.heap.IsList a vs:=(eA _ ho rfl n rfl);exact tail_any hl.typeIs slot_list_getitem.lookup (wpAny_getItem_list hl h0 (by lia) hu (PQ.mk' S hi q)) hs⟩
theorem MW:∀{xs:List V}{vs:LV}{i:Nat}{u:Value},aZ Z xs vs->Is Z v u->aZ Z (xs.set i v) (vs.set i u):=by
 intro xs
 induction xs with
 |nil=>intro vs i u h _;obtain rfl:=h.dN;exact .nil
 |cons x xs ih=>
  intro vs i u h hu
  cases h with
  |cons a r=>
   cases i with
   |zero=>exact .cons hu r
   |succ i=>exact .cons a (ih r hu)
theorem dC.list{Q:HP}(h:bK L a (.list xs) (.list (xs.set k.toNat v)) L')(hk:0<=k/\k<xs.length/\k<1000000)(q:Q L'):dC C (.ref a) (.int k) v L Q E:=⟨λA Z H x y z hR hx hy hz=>by
 lk
 obtain rfl:=hx.ce;obtain⟨_,rfl⟩:=hy.e_;refine .mk λs S=>?_
 lk
 refine dI (S.cell h.pick) λU o ho vs n aN hv=>?_;subst aN;refine ki_setAt ho hk.1 (aa ⟨1,1,[.an (.ak 0 0) (.an (.eJ 0 0) (.bh 0 1000000))],.bh 0 9223372036854775808⟩ hk) (aa ⟨3,1,[.an (.ak 0 0) (.an (.eJ 0 0) (.bh 0 1000000)),.aA 1 0,.aA 1 2],.eJ 0 2⟩ hk hv.length (length_toList:vs.toList.length=vs.size)) (PQ.mk' (x:=()) (S.put h (Heap.SameBut.update ..) (get?_update_self _ ho rfl) (co (vs.setIfInBounds k.toNat z) _ rfl ?_) s.toks) rfl q);rw[Array.toList_setIfInBounds];exact MW hv hz⟩
theorem da.pow{x n:Int}(h0:0<=n)(h1:n<=1000000)(ha:x.natAbs<2^64)(q:Q (.int (x^n.toNat)) L):da C .Pow (.int x) (.int n) L Q E:=⟨λA Z H x y U hx hy=>by
 lk
 obtain⟨_,rfl⟩:=hx.e_;obtain⟨_,rfl⟩:=hy.e_;exact J.pow h0 h1 ha q⟩
theorem da.shl{x n:Int}(h0:0<=n)(h1:n<=1000000)(ha:x.natAbs<2^64)(q:Q (.int (x*2^n.toNat)) L):da C .LShift (.int x) (.int n) L Q E:=⟨λA Z H x y U hx hy=>by
 lk
 obtain⟨_,rfl⟩:=hx.e_;obtain⟨_,rfl⟩:=hy.e_;exact J.shl h0 h1 ha q⟩
theorem da.shr{x n:Int}(h0:0<=n)(q:Q (.int (x.fdiv (2^n.toNat))) L):da C .RShift (.int x) (.int n) L Q E:=⟨λA Z H x y U hx hy=>by
 lk
 obtain⟨_,rfl⟩:=hx.e_;obtain⟨_,rfl⟩:=hy.e_;exact J.shr h0 q⟩
end
noncomputable def gD (n:String) (fs:Array Value->Prop):P0:=.raw λU U o=>o.cls=.type n/\∃vs,o.data=.fields vs/\fs vs
noncomputable def D4:List String:=["enumerate","zip","dict_itemiterator","dict_reverseitemiterator","odict_iterator","itertools.zip_longest","itertools.pairwise"]
theorem sG{G:Gd}{s:Shared}{E:VS}{I:Addr}{n:String}{o:Obj}{vs:Array Value}{Q:Unit->SP}(ho:s.heap.get? I=some o)(hc:o.cls=.type n)(hd:o.data=.fields vs)(hn:D4.contains n=false)(h:Q () s):
  wpAny (model aH G.w) A (letOwnedTupleGo eI (.ref I) v) Q E s:=by
 have key:wpAny (model aH G.w) A (do
   let(.ref r,.ref a):=(Value.ref I,v)|return
   let o ←load r
   match o.cls,o.data with
   |.type n,.fields vs=>
    if D4.contains n&&vs[0]?==some (rawInt a) then
     rule "for.unpacks-the-owned-tuple"
     updateField r 0 .none
   |_,_=>pure ()) Q E s:=by
  cases v with
  |ref a=>refine wpAny_bind (wpAny_load ho ?_);rw[hc,hd];dsimp only;rw[hn,Bool.false_and,if_neg Bool.false_ne_true];exact wP h
  |_=>exact wP h
 cases eI with
 |Tuple=>exact key
 |List=>exact key
 |_=>exact wP h
section
variable{C:Cx}{Z:Zt}{L:HL}{H:bF}{A:Around}{s:Shared}
theorem kS{n fs I:_}(S:au C.G A Z L ((I,gD n fs)::H) s):∃o vs,s.heap.get? I=some o/\o.cls=.type n/\o.data=.fields vs/\fs vs:=by
 lk
 refine bW S.iY λU o ho hp=>?_;refine bW (hp Z (.refl _)) λhc vs hd hf=>?_;exact(jo o vs ho hc hd hf)
theorem tG{n fs fs' I:_}{h':Heap}{o:Obj}{vs:Array Value}{t:Nat}(S:au C.G A Z L ((I,gD n fs)::H) s)(hs:SameBut I s.heap h')(ho:h'.get? I=some o)(hc:o.cls=.type n)(hd:o.data=.fields vs)(hf:fs' vs):
  au C.G A Z L ((I,gD n fs')::H) {s with heap:=h',toks:=t}:=S.ma (c':=gD n fs') hs ho (λU U=>(dc hc vs hd hf)) t
theorem tH{n:String}{fs:Array Value->Prop}{vs:Array Value}{t:Nat}(S:au C.G A Z L H s)(hf:fs vs):au C.G A Z L ((s.heap.objs.size,gD n fs)::H) {s with heap:=s.heap.push {cls:=.type n,data:=.fields vs},toks:=t}:=S.ed (c:=gD n fs) rfl (λU U=>(dc rfl vs rfl hf)) t
theorem jc.list{pr:Bool}{a I:Addr}{xs:List V}:jc pr C.G xs (λM=>ap M a (.list xs)) I (λi=>[(I,gD "list_iterator" λvs=>vs=#[.ref a,.int i 0])]):=⟨λA Z L H i s Q E S h=>by
 lk
 lk
 refine gK (kS S) λo fv ho hc hd aN=>?_;subst aN;exact wpAny_pyIter_listiter (cz o ho hc hd) h,λA Z L H i s eI hh U hok S=>by
 lk
 refine gK (kS S) λo fv ho hc hd aN=>?_;subst aN
 lk
 refine dI (S.cell hok) λU ol fj vs n aN hv=>?_;subst aN;have eV:s.heap.IsListIter I a i:=(cz o ho hc hd);have hl:s.heap.IsList a vs:=(eA _ fj rfl n rfl)
 lk
 cases hx:vs[i]? with
 |none=>refine wpAny_pyNext_list_end hh eV hl hx λh' he=>⟨?_,S.pi he⟩;have:=hv.length;have h2:=Array.getElem?_eq_none_iff.mp hx;refine getElem?_eq_none (le_trans (le_of_eq this.symm) ?_);rw[length_toList];exact h2
 |some v=>
  refine wpAny_pyNext_list_item eV hl hx λh' ke hs=>?_
  lk
  refine dD ke λo' cI n6 ei=>?_;have aT:=(Array.getElem?_eq_some_iff.mp hx).1;have hl:=hv.length;rw[length_toList] at hl;have jJ:=gE (l:=xs) (i:=i) (aa ra aT hl)
  lk
  refine ai (tE hv jJ) λu hu hi=>?_;rw[hx] at hu
  lk
  cases hu
  exact sG cI n6 ei (by decide) (jo Z _ (.refl _) jJ hi (tG S hs cI n6 ei rfl))⟩
theorem bx.list{pr:Bool}{a:Addr}{xs:List V}(h:ap L a (.list xs)):bx pr C (.ref a) L xs L λM=>ap M a (.list xs):=⟨λA Z H s x hh hx S=>by
 refine av hx.ce ?_
 lk
 refine dI (S.cell h) λU ol fj vs n aN hv=>?_;subst aN;exact wpAny_pyIter_list (eA _ fj rfl n rfl) (gI _ _ Z rfl (.refl _) .list (tH S rfl))⟩
theorem OR{lo hi:Int}{i:Nat}(aT:i<(hi-lo).toNat):((List.range (hi-lo).toNat).map λi=>V.int (lo+(i:Nat)))[i]?=some (V.int (lo+(i:Nat))):=by rw[getElem?_map,getElem?_range aT];rfl
noncomputable def xT (x left:Int):P0:=.raw λU U o=>o={cls:=.type "range_iterator",data:=.fields #[rawInt x,rawInt left,rawInt 1]}
theorem jc.eL{pr:Bool}{I:Addr}{lo hi:Int}:jc pr C.G ((List.range (hi-lo).toNat).map λi=>V.int (lo+(i:Nat))) (λU=>True) I (λi=>[(I,xT (lo+(i:Nat)) ((hi-lo).toNat-(i:Nat)))]):=⟨λA Z L H i s Q E S h=>by
 lk
 lk
 obtain⟨_,o,ho,hp⟩:=S.iY;have e:=hp Z (.refl _)
 lk
 subst e;exact wpAny_pyIter_rangeiter ho h,λA Z L H i s eI hh U hok S=>by
 lk
 obtain⟨_,o,ho,hp⟩:=S.iY;have e:=hp Z (.refl _)
 lk
 subst e;by_cases aT:i<(hi-lo).toNat
 ·refine wpAny_pyNext_range_item ho (aa ⟨1,2,[.tn .v0 (.t (.ee 0 1))],.tz (.k 0) (.s (.c (.t (.ee 0 1))) .c0)⟩ aT) λh' ke hs=>?_;refine sG ke rfl rfl (by decide) (jo Z _ (.refl _) (OR aT) .int (S.ma (c':=xT _ _) hs ke (λU U=>?_) _));have e1:lo+(i:Int)+1=lo+((i+1:Nat):Int):=aa ⟨1,1,[],.ez (.a (.a .v0 .c0) (.k 1)) (.a .v0 (.c (.aj 0 1)))⟩;have e2:((hi-lo).toNat:Int)-i-1=((hi-lo).toNat:Int)-((i+1:Nat):Int):=aa ⟨1,2,[],.ez (.s (.s (.c (.t (.ee 0 1))) .c0) (.k 1)) (.s (.c (.t (.ee 0 1))) (.c (.aj 0 1)))⟩;simp only[e1,e2]
 ·exact wpAny_pyNext_range_end hh ho (aa ⟨1,2,[.no (.tn .v0 (.t (.ee 0 1)))],.lz (.s (.c (.t (.ee 0 1))) .c0) (.k 0)⟩ aT) λh' he=>⟨getElem?_eq_none (by rw[length_map,length_range];exact aa ⟨1,2,[.no (.tn .v0 (.t (.ee 0 1)))],.ln (.t (.ee 0 1)) .v0⟩ aT),S.pi he⟩⟩
theorem Lb{hi:Int}(h:hi<1000000000000)(h':-1000000000000<hi):Builtin.Range.small 0 hi 1=true/\Builtin.Range.rangeSize 0 hi 1=(hi-0).toNat:=by
 have e:Builtin.Range.rangeSize 0 hi 1=(hi-0).toNat:=by
  unfold Builtin.Range.rangeSize;rw[if_pos (by decide)]
  split
  ·rw[Int.ediv_one];exact aa ⟨0,1,[.c_ 0 0],.ez (.a (.s (.dK 0 0) (.k 1)) (.k 1)) (.c (.t (.dK 0 0)))⟩ (by assumption)
  ·exact aa ⟨0,1,[.no (.c_ 0 0)],.ez (.k 0) (.c (.t (.dK 0 0)))⟩ (by assumption)
 refine⟨?_,e⟩
 have f:∀x:Int,-1000000000001<x->x<1000000000001->Builtin.Range.rangeFitsLong x=true:=λx a b=>by unfold Builtin.Range.rangeFitsLong;rw[decide_eq_true (by exact aa ⟨0,1,[.c_ (-1000000000001) 0],.lz (.n (.k 9223372036854775808)) .v0⟩ a),decide_eq_true (by exact aa ⟨0,1,[.bh 0 1000000000001],.bh 0 9223372036854775808⟩ b)];rfl
 unfold Builtin.Range.small;rw[e,f 0 (by decide) (by decide),f hi (by exact aa ⟨0,1,[.c_ (-1000000000000) 0],.c_ (-1000000000001) 0⟩ h') (by exact aa ⟨0,1,[.bh 0 1000000000000],.bh 0 1000000000001⟩ h),f 1 (by decide) (by decide),f _ (by exact aa ⟨0,1,[],.tz (.k (-1000000000001)) (.c (.t (.dK 0 0)))⟩) (by exact aa ⟨0,1,[.bh 0 1000000000000],.tz (.c (.t (.dK 0 0))) (.k 1000000000001)⟩ h),if_pos (by decide),f _ (by exact aa ⟨0,1,[.c_ (-1000000000000) 0],.tz (.k (-1000000000001)) (.a .v0 (.s (.k 1) (.k 1)))⟩ h') (by exact aa ⟨0,1,[.bh 0 1000000000000],.tz (.a .v0 (.s (.k 1) (.k 1))) (.k 1000000000001)⟩ h),Bool.or_true]
 rfl
theorem bx.eL{pr:Bool}{hi:Int}(h:hi<1000000000000)(h':-1000000000000<hi):bx pr C (.eL 0 hi) L ((List.range (hi-0).toNat).map λi=>V.int (0+(i:Nat))) L λU=>True:=⟨λA Z H s x hh hx S=>by
 lk
 cases hx with
 |eL hz=>
 lk
 refine xA (Lb h h') λhs e=>?_;refine wpAny_pyIter_range (S.keep _ _ hz) hs (gI _ _ Z rfl (.refl _) .eL (S.ed (c:=xT _ _) rfl (λU U=>?_) s.toks));rw[e];rw[show(0:Int)+((0:Nat):Int)=0 by decide,show((hi-0).toNat:Int)-((0:Nat):Int)=((hi-0).toNat:Int) by exact aa ⟨0,1,[],.ez (.s (.c (.t (.dK 0 0))) (.c (.k 0))) (.c (.t (.dK 0 0)))⟩]⟩
theorem jc.bytes{pr:Bool}{I:Addr}{bs:By}{t:Tok}:jc pr C.G (bs.map λb=>V.int b.toNat) (λU=>True) I (λi=>[(I,gD "bytes_iterator" λvs=>vs=#[.bytes bs.toArray t,.int i 0])]):=⟨λA Z L H i s Q E S h=>by
 lk
 lk
 refine gK (kS S) λo fv ho hc hd aN=>?_;subst aN;exact KBw.pyIter_self (b:=bs.toArray) (t:=t) (i:=i) (cz o ho hc hd) h,λA Z L H i s eI hh U hok S=>by
 lk
 refine gK (kS S) λo fv ho hc hd aN=>?_;subst aN;have eV:KBw.IsBytesIter s.heap I bs.toArray t i:=(cz o ho hc hd)
 lk
 cases hx:bs.toArray[i]? with
 |none=>refine KBw.next_end hh eV hx λh' he=>⟨?_,S.pi he⟩;rw[List.getElem?_toArray] at hx;rw[getElem?_map,hx];rfl
 |some v=>refine KBw.next_item eV hx λh' ke hs=>?_;refine dD ke λo' cI n6 ei=>?_;rw[List.getElem?_toArray] at hx;exact sG cI n6 ei (by decide) (jo Z _ (.refl _) (by rw[getElem?_map,hx];rfl) .int (tG S hs cI n6 ei rfl))⟩
theorem bx.bytes{pr:Bool}{bs:By}:bx pr C (.bytes bs) L (bs.map λb=>V.int b.toNat) L λU=>True:=⟨λA Z H s x hh hx S=>by obtain⟨_,rfl⟩:=hx.kQ;exact KBw.pyIter_bytes (gI _ _ Z rfl (.refl _) .bytes (tH S rfl))⟩
end
structure hV(K:Frag)(C:Addr):Prop where
 get:findIn K (.ref C) "__getattribute__"=some (some (.builtin "object.__getattribute__"))
 RN:findIn K (.ref C) "__getattr__"=some none
 Gy:hasDictIn K C=true
 set:findIn K (.ref C) "__setattr__"=some (some (.builtin "object.__setattr__"))
 over:plainOver K C=true
 Qt:specialIn K (.ref C) "__getattribute__"=some (some (.builtin "type.__getattribute__"))
 reads:readsIn K C (.type "type")=true
 make:makesIn K C=true
def jg(K:Frag)(C:Addr)(n:Str):Prop:=findIn K (.ref C) n=some none/\takerIn K C n=some none
def cV(K:Frag)(C:Addr)(n:Str)(f:Addr):Prop:=findIn K (.ref C) n=some (some (.ref f))/\typeIn K (.ref f)=some (.type "function")
inductive nC{β:Type}:List (Str×β)->Str->β->Prop
 |head{n c r:_}:nC ((n,c)::r) n c
 |tail{p r n c:_}:nC r n c->nC (p::r) n c
theorem nC.mem{β:Type}{l:List (Str×β)}{c:β}(h:nC l n c):(n,c)∈l:=by
 induction h with
 |head=>exact .head _
 |tail _ ih=>exact .tail _ ih
section
variable{Z:Zt}{P:Params}
theorem fZ.isStr{l:SV}{es:List DictEntry}(h:fZ Z P l es)(hn:(l.map (·.1)).Nodup)(hm:nC l n x):∃v,getL n es=some (some v)/\Is Z x v:=by
 induction h with
 |nil=>cases hm
 |@cons m y v r es t i h ih=>
  lk
  cases hm with
  |head=>exact(ah v (by unfold getL;rw[find?_cons];simp[Value.isStr]) i)
  |tail hm=>
   obtain⟨h1,h2⟩:=List.nodup_cons.mp hn;refine ai (ih h2 hm) λu hu hi=>?_
   have dj:(m==n)=false:=by
    have:m≠n:=by rintro rfl;exact h1 (List.mem_map.mpr (ah _ hm.mem rfl))
    simpa using this
   refine(ah u ?_ hi);unfold getL at hu⊢;rw[find?_cons,show(DictEntry.key ⟨PyData.keyHash P m,.str m t,v⟩).isStr n=false from dj];rw[←hu,any_cons];have:DictEntry.refKey ⟨PyData.keyHash P m,.str m t,v⟩=false:=rfl;rw[this,Bool.false_or]
theorem fZ.Qu{n:Str}{l:SV}{es:List DictEntry}(h:fZ Z P l es)(hn:n∉l.map (·.1)):getL n es=some none:=by
 induction h with
 |nil=>rfl
 |@cons m y v r es t i h ih=>
  have dj:(m==n)=false:=by
   have:m≠n:=by rintro rfl;exact hn mem_cons_self
   simpa using this
  have ih:=ih λh=>hn (mem_cons_of_mem _ h);unfold getL at ih⊢;rw[find?_cons,show(DictEntry.key ⟨PyData.keyHash P m,.str m t,v⟩).isStr n=false from dj];rw[any_cons];have:DictEntry.refKey ⟨PyData.keyHash P m,.str m t,v⟩=false:=rfl;rw[this,Bool.false_or];exact ih
theorem fZ.length{l:SV}{es:List DictEntry}(h:fZ Z P l es):es.length=l.length:=by
 induction h with
 |nil=>rfl
 |cons _ _ ih=>exact congrArg (· +1) ih
theorem fZ.noRef{l:SV}{es:List DictEntry}(h:fZ Z P l es):es.any (·.refKey)=false:=by
 induction h with
 |nil=>rfl
 |cons _ _ ih=>rw[any_cons,ih];rfl
end
inductive h8:List (Str×V)->Str->V->List (Str×V)->Prop
 |nil{n v:_}:h8 [] n v [(n,v)]
 |head{n u v r:_}:h8 ((n,u)::r) n v ((n,v)::r)
 |tail{p r n v r':_}:(p.1==n)=false->h8 r n v r'->h8 (p::r) n v (p::r')
theorem h8.names{l l':SV}(h:h8 l n v l'):∀m,m∈l'.map (·.1)->m∈l.map (·.1)\/m=n:=by
 induction h with
 |nil=>intro m hm;right;simpa using hm
 |head=>intro m hm;left;exact hm
 |tail _ _ ih=>
  intro m hm;rw[map_cons,mem_cons] at hm⊢;rcases hm with rfl|hm
  ·exact .inl (.inl rfl)
  ·rcases ih m hm with h|h
   ·exact .inl (.inr h)
   ·exact .inr h
theorem h8.nodup{l l':SV}(h:h8 l n v l')(hn:(l.map (·.1)).Nodup):(l'.map (·.1)).Nodup:=by
 induction h with
 |nil=>exact List.nodup_cons.mpr ⟨not_mem_nil,nodup_nil⟩
 |head=>exact hn
 |tail dj h ih=>
  rw[map_cons,nodup_cons] at hn⊢;refine⟨λhm=>?_,ih hn.2⟩;rcases h.names _ hm with h|h
  ·exact hn.1 h
  ·rw[h,beq_self_eq_true] at dj;cases dj
theorem h8.put{l l':SV}(h:h8 l n x l'):∀{es:List DictEntry}(tk:Tok),Is Z x v->fZ Z P l es->fZ Z P l' (putL n (PyData.keyHash P n) (.str n tk) v es):=by
 induction h with
 |nil=>intro es tk hv h;cases h;exact .cons hv .nil
 |head=>intro es tk hv h;cases h with|cons _ r=>unfold putL;simp only[Value.isStr,BEq.rfl,if_true];exact .cons hv r
 |tail dj _ ih=>intro es tk hv h;cases h with|cons i r=>unfold putL;simp only[Value.isStr,dj,false_eq_true,if_false];exact .cons i (ih tk hv r)
def V.plain:V->Prop
 |.bi _=>False
 |_=>True
theorem Is.handed{Z x v:_}(h:Is Z x v)(hp:x.plain):handedIn v=true:=by
 cases h with
 |bi=>exact hp.elim
 |_=>rfl
section
variable{C:Cx}{L L':HL}{E:HP}{a c:Addr}{attrs attrs':SV}{n:Str}{v:V}
theorem dG.obj{Q:VP}(B:Bs C.G C.K)(h:ap L a (.obj c attrs))(ha:nC attrs n v)(hc:hV C.K c)(hn:jg C.K c n)(hv:v.plain)(q:Q v L):dG C (.ref a) n L Q E:=⟨λA Z H x hR hx=>by
 refine av hx.ce ?_;refine .mk λs S=>?_
 lk
 refine vX (S.inst h) λd h1 o h2 gA hl es k iK fw=>?_;subst iK;refine ai (fw.isStr gA ha) λu hu hi=>?_;exact get_value (B.fu.keeps S.h0) (⟨h1,rfl,rfl,h2⟩:InstAt s.heap a (instObj c d) c (some (dictOf es k))) hc.get (findObj_own hc.Gy hn.1 rfl hu) (hi.handed hv) (PQ.mk' S.toks hi q)⟩
theorem ax.inst{Q:V×List V->HP}{f:Addr}(B:Bs C.G C.K)(h:ap L a (.obj c attrs))(hc:hV C.K c)(hm:cV C.K c n f)(ha:n∉attrs.map (·.1))(q:Q (.ref f,[.ref a]) L):ax C (.ref a) n L Q E:=⟨λA Z H x pl hR hx=>by
 refine av hx.ce ?_;refine .mk λs S=>?_
 lk
 refine vX (S.inst h) λd h1 o h2 gA hl es k iK fw=>?_;subst iK;refine method_fn (B.fu.keeps S.h0) (⟨h1,rfl,rfl,h2⟩:InstAt s.heap a (instObj c d) c (some (dictOf es k))) hc.get hc.RN hm.1 hm.2 ?_ (PQ.mk' S ⟨.ref,.one .ref⟩ q);show(lookIn n (dictOf es k)).map _=_;rw[lookIn_dict,fw.Qu ha];rfl⟩
theorem ax.cls{Q:V×List V->HP}{f:Addr}(B:Bs C.G C.K)(hc:hV C.K c)(e:findCls C.K (.ref c) (.type "type") n=some (.val (.ref f)))(q:Q (.ref f,[]) L):ax C (.ref c) n L Q E:=⟨λA Z H x pl hR hx=>by refine av hx.ce ?_;refine .mk λs S=>method_cls (B.fu.keeps S.h0) hc.Qt (cls_value (B.fu.keeps S.h0) hc.reads e rfl (PQ.mk' (S.toks) ⟨.ref,.nil⟩ q))⟩
theorem db.obj{Q:HP}(B:Bs C.G C.K)(ha:h8 attrs n v attrs')(h:bK L a (.obj c attrs) (.obj c attrs') L')(hc:hV C.K c)(hn:jg C.K c n)(hl:attrs'.length<=100)(q:Q L'):db C (.ref a) n v L Q E:=⟨λA Z H x z hR hx hz=>by
 refine av hx.ce ?_;refine .mk λs S=>?_
 lk
 refine vX (S.inst h.pick) λd h1 o h2 gA U es k iK fw=>?_;subst iK;have X:=B.fu.keeps S.h0;have I:InstAt s.heap a (instObj c d) c (some (dictOf es k)):=⟨h1,rfl,rfl,h2⟩;obtain⟨hh,g,dr,tk,os⟩:=s;refine set_plain X I hc.set ?_;refine osa_open (s:=⟨hh,g,dr,tk+1,os⟩) X I hc.over hn.2 λb=>?_;refine ai (any_some hc.Gy) λcd rF ei=>?_;have L0:=looks_clsIn (M:=model aH C.G.w) X rF;dsimp only at L0 h1 h2;refine wB (wP (wB (wB (wpAny_loadPart h1 (wpAny_bind (L0.at ?_))))));rw[ei];refine wP (a:=some d) (wB (wP (wB ?_)));refine wB (wB (wpAny_askSetting (wP (wB (wpAny_mkText (wpAny_bind (wpAny_loadPart h2 ?_)))))));dsimp only
 have cc:(!(es.toArray).any (·.key.isStr n)&&(es.toArray).any (·.refKey))=false:=by rw[show(es.toArray).any (·.refKey)=false by rw[←any_toList];exact fw.noRef,Bool.and_false]
 rw[aRefKeyMayBeTheName_at,cc];have P:=putName_dict n (PyData.keyHash C.G.w.params n) (.str n (tk+1)) z es k;have la:=ha.put (tk+1) hz fw
 have gx:(hh.update d (Obj.putName n (PyData.keyHash C.G.w.params n) (.str n (tk+1)) z)).get? d=some (dictOf (putL n (PyData.keyHash C.G.w.params n) (.str n (tk+1)) z es) (putN n es k)):=by rw[←P];exact get?_update_self _ h2 (by rw[P];rfl)
 refine wpAny_updatePart h2 ?_;refine wB (wpAny_lookBehind gx (pastItsLine_dict (by rw[size_toArray,sizeLine_eq];exact aa FI (show(putL n (PyData.keyHash C.G.w.params n) (.str n (tk+1)) z es).length<=100 by rw[la.length];exact hl))) ?_);refine wP ?_;exact PQ.mk' (x:=()) (S.Rl h h1 (Heap.SameBut.update ..) gx (mW (ha.nodup gA) hl _ _ rfl la) _) rfl q⟩
end
noncomputable abbrev jY (C:Addr) (vs:LV):Code:=.builtin "type.__call__" ⟨.ref C::vs,[]⟩
theorem Kk(C:Addr)(vs:LV):(jY C vs).weight=1:=by x_go
theorem Lc(C:Addr)(vs:LV):(jY C vs).cUnits=1:=by x_go
theorem MX(C:Addr)(vs:LV):(jY C vs).envs=[]:=by x_go
theorem Kl(C:Addr)(vs:LV):(jY C vs).guards=[]:=by x_go
theorem oD(A:Around)(C:Addr)(vs:LV):(A.under (jY C vs)).frames=A.frames:=by show pushEnvs (jY C vs).envs A.frames=_;rw[MX];rfl
theorem Rm.make{A:Around}{d:Nat}{C:Addr}{vs:LV}(h:Rm A (d+1)):Rm (A.under (jY C vs)) d:=by
 refine⟨?_,?_,h.handled,by show pushGuards (jY C vs).guards A.guards=_;rw[Kl,h.guards];rfl⟩
 ·have:=h.depth;show A.depth+(jY C vs).weight+3*d<_;rw[Kk];exact aa FF this
 ·have:=h.units;show A.units+(jY C vs).cUnits+8*d+20<_;rw[Lc];exact aa ⟨3,0,[.tn (.a (.a .v0 (.m 8 (.aj 1 1))) (.k 20)) .v2],.tn (.a (.a (.aj 0 1) (.m 8 .v1)) (.k 20)) .v2⟩ this
theorem Sp.make{K:Frag}{c fI:Addr}{xs:List V}{n:Nat}{L:HL}{Q:VP}{E:HP}(B:Bs G K)(hc:hV K c)(hi:cV K c "__init__" fI)
  (h:∀x,Sp G fI n (.ref x::xs) ((x,.obj c [])::L) (λv L'=>v=.none/\Q (.ref x) L') E):Sp G c (n+1) xs L Q E:=⟨λA Z H vs s hR hv S=>by
 have X:=B.fu.keeps S.h0;obtain⟨hh,g,d,t,os⟩:=s;refine ai S λl e S=>?_;have S2:=(S.new (c:=.d_ []) (o:=emptyDict) rfl (mW nodup_nil (by simp) ([]) 0 rfl .nil) t).new (c:=.inst c hh.objs.size) (o:=instObj c hh.objs.size) rfl rfl t;dsimp only at S2;rw[size_push] at S2;have S3:au G A Z ((hh.objs.size+1,.obj c [])::L) H ⟨(hh.push emptyDict).push (instObj c hh.objs.size),g,d,t,os⟩:=(ah _ (.cons (iE hh.objs.size rfl) e) S2);refine P6 (makes_of X hc.make) (looks_findIn X hi.1) (λself=>bind_fn X self hi.2) (.inl rfl) ?_;refine j4 ((h (hh.objs.size+1)).run _ Z H (.ref (hh.objs.size+1)::vs) _ hR.make (.cons .ref hv) (S3.around (oD ..))) λr s' q=>?_
 cases r with
 |ok fl=>
  cases fl with
  |ret v=>
   lk
   cases q with|mk Z' L' x le S' i q=>
   lk
   obtain⟨rfl,q⟩:=q;obtain rfl:=i.qQ;exact⟨rfl,Z',L',_,le,S'.around (oD ..).symm,.ref,q⟩
  |_=>exact q.elim
 |error e=>cases q with|mk Z' L' x le he S' q=>exact⟨Z',L',x,le,he,S'.around (oD ..).symm,q⟩⟩
noncomputable def kU (cells:List (Option Str)) (acc:List Bool):List (Option Str):=zipWith (λo b=>if b then o else none) cells acc
def rQ(cells:List (Option Str))(ci:CI)(scope:Scope):Bool:=
 scope.kind==.function&&
 scope.names.all (λp=>p.2 != .cell&&(p.2 != .local||scope.names.lookup p.1==some .local)&&(p.2 != .free||(kU cells ci.acc).contains (some p.1)))&&
 ci.dQ.all (λt=>scope.names.lookup t==some .local&&!(t==("__debug__":Str)))&&decide ci.dQ.Nodup&&ci.acc.length==cells.length&&
 (kU cells ci.acc).all (λo=>match o with
  |some x=>scope.names.lookup x==some .free&&!(x==("__debug__":Str))&&!(x==("__classdict__":Str))
  |none=>true)&&
 ci.globs.all (λp=>scope.names.lookup p.1==some .globalImplicit&&!(p.1==("__debug__":Str)))
noncomputable def Fn.comp (F:Fn) (ci:CI) (scope:Scope) (cl:List (Str×Addr)) (a:Addr):Fn where
 env:=compEnvC scope cl a F.env
 fr:=a
 names:=ci.dQ
 cells:=zipWith (λp b=>(if b then p.1 else none,p.2)) F.cells ci.acc
 globs:=ci.globs
 gw:=false
def Nm.comp(N:Nm)(ci:CI):Nm:=⟨ci.dQ,kU N.cells ci.acc,ci.globs.map (·.1)⟩
theorem MY{F:Fn}{scope cl a:_}:(F.comp ci scope cl a).nm=F.nm.comp ci:=by
 have:∀(cs:List (Option Str×Addr))(bs:List Bool),(zipWith (λ(p:Option Str×Addr) b=>(if b then p.1 else none,p.2)) cs bs).map (·.1)=kU (cs.map (·.1)) bs:=by
  intro cs
  induction cs with
  |nil=>intro bs;rfl
  |cons p cs ih=>
   intro bs
   cases bs with
   |nil=>rfl
   |cons b bs=>
    refine(?_:_::_=_::_);rw[ih]
    cases b<;>rfl
 exact congrArg (λx=>Nm.mk ci.dQ x (ci.globs.map (·.1))) (this _ _)
theorem Ld{F:Fn}{ci:CI}{scope cl a:_}{l:List (Option V)}{σ:Lo}(h:ci.acc.length=F.cells.length):(F.comp ci scope cl a).own ⟨l,σ.c⟩=(a,.frame ci.dQ l)::(F.own σ).tail:=by
 have:∀(cs:List (Option Str×Addr))(bs:List Bool)(vs:List (Option V)),bs.length=cs.length->
   zipWith (λ(p:Option Str×Addr) v=>(p.2,P0.cY v)) (zipWith (λ(p:Option Str×Addr) b=>(if b then p.1 else none,p.2)) cs bs) vs=zipWith (λ(p:Option Str×Addr) v=>(p.2,P0.cY v)) cs vs:=by
  intro cs
  induction cs with
  |nil=>intro bs vs _;cases bs<;>rfl
  |cons p cs ih=>
   intro bs vs hl
   cases bs with
   |nil=>cases hl
   |cons b bs=>
    cases vs with
    |nil=>rfl
    |cons v vs=>refine(?_:_::_=_::_);rw[ih bs vs (Nat.succ.inj hl)]
 exact congrArg (λx=>(a,P0.frame ci.dQ l)::x) (this _ _ _ h)
noncomputable def gN (names:List (Str×NameKind)) (g:Str->Addr) (acc:List (Str×Addr)):List (Str×Addr):=names.foldl (λcs p=>if p.2==.free then(p.1,g p.1)::cs else cs) acc
theorem Ax{scope:Scope}{env:Env}{g:Str->Addr}(h:∀n,(n,NameKind.free)∈scope.names->env.cells.lookup n=some (g n)):closureFor scope env=pure (gN scope.names g []):=by
 have key:∀(l:List (Str×NameKind))(acc:List (Str×Addr)),(∀n,(n,NameKind.free)∈l->env.cells.lookup n=some (g n))->
   (forIn l acc λx cs=>match x with
    |(name,kind)=>if(kind==.free)=true then do let a ←cellOf env name;pure (ForInStep.yield ((name,a)::cs)) else pure (ForInStep.yield cs):Sem _)=pure (gN l g acc):=by
  intro l
  induction l with
  |nil=>intro acc _;rfl
  |cons p l ih=>
   intro acc hl;rw[List.forIn_cons];obtain⟨n,k⟩:=p;by_cases hk:k=.free
   ·subst hk;have:=hl n (.head _);refine(?_:((cellOf env n>>=λa=>pure (ForInStep.yield ((n,a)::acc)))>>=_)=_);refine((show cellOf env n=pure (g n) by unfold cellOf;rw[this]))▸?_;exact ih _ λn h=>hl n (.tail _ h)
   ·have hb:(k==NameKind.free)=false:=by simpa using hk
    show((if(k==NameKind.free)=true then _ else pure (ForInStep.yield acc))>>=_)=_;refine(hb)▸?_;refine(ih acc λn h=>hl n (.tail _ h)).trans ?_;show _=pure (List.foldl _ (if(k==NameKind.free)=true then _ else acc) l);rw[hb];rfl
 show(forIn scope.names [] _>>=pure)=_;rw[key scope.names [] h]
 rfl
theorem Lf{g:Str->Addr}{x:Str}:∀(l:List (Str×NameKind))(acc:List (Str×Addr)),((x,NameKind.free)∈l\/acc.lookup x=some (g x))->(gN l g acc).lookup x=some (g x):=by
 intro l
 induction l with
 |nil=>intro acc h;exact h.resolve_left not_mem_nil
 |cons p l ih=>
  intro acc h;refine ih _ ?_;obtain⟨n,k⟩:=p;by_cases hx:x=n
  ·subst hx;by_cases hk:k=.free
   ·subst hk;refine .inr ?_;show List.lookup x ((x,g x)::acc)=_;simp only[lookup_cons,beq_self_eq_true]
   ·have hb:(k==NameKind.free)=false:=by simpa using hk
    refine(?_:_\/List.lookup x (if(k==NameKind.free)=true then _ else acc)=_);refine(hb)▸?_
    lk
    rcases h with h|h
    ·lk
     cases h with
     |head=>exact absurd rfl hk
     |tail _ h=>exact .inl h
    ·exact .inr h
  ·lk
   rcases h with h|h
   ·lk
    cases h with
    |head=>exact absurd rfl hx
    |tail _ h=>exact .inl h
   ·refine .inr ?_;show List.lookup x (if(k==NameKind.free)=true then(n,g n)::acc else acc)=_
    cases hb:(k==NameKind.free) with
    |false=>exact h
    |true=>refine(?_:List.lookup x ((n,g n)::acc)=_);rw[lookup_cons,show(x==n)=false by simpa using hx];exact h
theorem v7{env:Env}{x:Str}{k:NameKind}:∀{names:List (Str×NameKind)},names.lookup x=some k->
  (names.map λ(n,k)=>if(k==NameKind.free&&env.scope.kind==.function&&env.kindOf n==some .cell) then(n,NameKind.cell) else(n,k)).lookup x=some (if(k==NameKind.free&&env.scope.kind==.function&&env.kindOf x==some .cell) then .cell else k):=by
 intro names
 induction names with
 |nil=>intro h;cases h
 |cons p r ih=>
  intro h;obtain⟨n,k'⟩:=p;rw[lookup_cons] at h;refine(?_:List.lookup x ((if(k'==NameKind.free&&env.scope.kind==.function&&env.kindOf n==some .cell)=true then(n,NameKind.cell) else(n,k'))::_)=_)
  cases hx:x==n with
  |true=>
   rw[hx] at h
   cases h
   have:=eq_of_beq hx;refine av (Eq.symm this) ?_
   cases (k==NameKind.free&&env.scope.kind==.function&&env.kindOf x==some .cell)<;>(rw[lookup_cons];show(match x==x with|true=>_|false=>_)=_;rw[beq_self_eq_true];rfl)
  |false=>
   rw[hx] at h
   cases (k'==NameKind.free&&env.scope.kind==.function&&env.kindOf n==some .cell)<;>(rw[lookup_cons];show(match x==n with|true=>_|false=>_)=_;rw[hx];exact ih h)
theorem MZ{iter:Expr}{er:List Expr}{acc:Value}{R:Result->SP}(I:Nat->SP)
  (eB:∀n s,I n s->ag w A (pyNext it) (λr am=>match r with
   |none=>R (.ok .next) am
   |some v=>ag w A (letOwnedTupleGo eI it v) (λU fm=>ag w A (assign eI env v) (λU bn=>
     ag w A (forIn er true λc r=>if r=true then do let ok ←isTrue c env (eval c env);pure (ForInStep.yield ok) else pure (ForInStep.yield r)) (λok cL=>
      if ok=true then ag w A (eval dy env) (λx nk=>ag w A (call (.builtin "list.append") [acc,x]) (λU Gz=>∃m,m<n/\I m Gz) (λU U=>False) nk) (λU U=>False) cL
      else∃m,m<n/\I m cL) (λU U=>False) bn) (λU U=>False) fm) (λU U=>False) am) (λU U=>False) s)
  (n:Nat)(h:I n s):cw w A (.compLoop (.ListComp dy [⟨eI,iter,er,0⟩] scope pos) 0 it acc env) R s:=by
 refine EY rfl rfl I (λn s hI=>?_) n h;refine(?_:ag _ A ((compTurn (.ListComp dy [⟨eI,iter,er,0⟩] scope pos) 0 it acc env).onRaise (λx=>do noteFrame x env;theTreesLotGoes x)) _ _ s);refine oR ?_;rw[compTurn_list];refine dh (nB (ay (eB n s hI) (λr am aW=>?_) λU U h'=>h'.elim))
 cases r with
 |none=>exact aO aW
 |some v=>
  refine nB (ay aW (λU fm h₀=>?_) λU U h'=>h'.elim);refine nB (ay h₀ (λU bn b_=>nB (ay b_ (λok cL eS=>?_) λU U h'=>h'.elim)) λU U h'=>h'.elim)
  cases ok with
  |false=>exact aO ⟨rfl,eS⟩
  |true=>exact nB (nB (ay eS (λx nk yG=>nB (ay yG (λU Gz RO=>aO (aO ⟨rfl,RO⟩)) λU U h'=>h'.elim)) λU U h'=>h'.elim))
section
variable{G:Gd}{A:Around}{Z:Zt}{L:HL}{H:bF}{s:Shared}
def xU(A:Around)(a:Addr):Prop:=∀l,A.frames=some l->∀env∈l,env.frame≠some a
theorem au.Qv(S:au G A Z L H s){a:Addr}(h:s.heap.objs.size<=a):xU A a:=by refine ai S λU U S=>?_;refine ai S.frames λl e q=>?_;intro l' e' env he hf;rw[e] at e';cases e';refine kP (q env he) λU f o e1 e2 U=>?_;rw[e1] at hf;cases hf;exact absurd (lt_size e2.1) (Nat.not_lt.mpr h)
theorem au.GA{a:Addr}{c:P0}{t:Nat}(S:au G A Z L ((a,c)::H) s)(e:ExtBut a s.heap h')(hf:xU A a):au G A Z L H {s with heap:=h',toks:=t}:=by
 lk
 refine ai S λl q S=>?_;have S:=S.perm perm_middle
 lk
 refine bW (S.cells (a,c) (.head _)) λhz o0 h0 U=>?_;have gA:=List.nodup_cons.mp S.nd;refine(ah l q ⟨S.base,λb o q=>e b o (λx=>by subst x;rw[hz] at q;cases q) (S.keep b o q),gA.2,λp hp=>?_,?_,S.gens,S.os⟩)
 ·lk
  refine bW (S.cells p (.tail _ hp)) λz o h1 h2=>?_;exact(dc z o (e _ _ (λx=>gA.1 (List.mem_map.mpr (ah p hp x))) h1) h2)
 ·refine ai S.frames λl' e' q'=>?_;refine(ah l' e' (λenv he=>?_))
  lk
  refine kP (q' env he) λhk f o e1 e2 e3=>?_;exact(lP hk f o e1 ⟨e f o (λx=>hf l' e' env he (x▸e1)) e2.1,e2.2⟩ (λp hp=>e3 p (.tail _ hp)))
theorem au.gw{a:Addr}{c:P0}(S:au G A Z L ((a,c)::H) s):au G A Z ((a,.p c)::L) H s:=by refine ai S λl e S=>?_;exact(ah _ (.cons (a:=a) (c:=.p c) rfl e) (S.perm perm_middle))
end
theorem Au:∀(ns:List Str)(x:Str),lM ns (ns.map λU=>none) x=none
 |[],_=>rfl
 |n::ns,x=>by refine(?_:(if x=n then none else lM ns (ns.map λU=>none) x)=none);rw[Au ns x];exact ite_self _
section
variable{C:Cx}{F:Fn}{σ:Lo}{ci:CI}{scope:Scope}
structure vm(N:List (Option Str))(ci:CI)(scope:Scope):Prop where
 kind:scope.kind=.function
 cell:∀y∈scope.names,y.2≠.cell
 loc:∀y∈scope.names,y.2=.local->scope.names.lookup y.1=some .local
 free:∀n,(n,NameKind.free)∈scope.names->some n∈kU N ci.acc
 dQ:∀t∈ci.dQ,scope.names.lookup t=some .local/\(t==("__debug__":Str))=false
 nd:ci.dQ.Nodup
 len:ci.acc.length=N.length
 Tj:∀x,some x∈kU N ci.acc->scope.names.lookup x=some .free/\(x==("__debug__":Str))=false/\(x==("__classdict__":Str))=false
 gl:∀p∈ci.globs,scope.names.lookup p.1=some .globalImplicit/\(p.1==("__debug__":Str))=false
theorem mM{α:Type}[BEq α][LawfulBEq α]{a b:α}(h:(a != b)=true):a≠b:=λe=>by rw[e,bne_self_eq_false] at h;cases h
theorem nt{b:Bool}(h:(!b)=true):b=false:=(not_eq_true' _).mp h
theorem D5{N:List (Option Str)}(h:rQ N ci scope=true):vm N ci scope:=by
 unfold rQ at h
 lk
 obtain⟨h,h7⟩:=tB h;obtain⟨h,h6⟩:=tB h;obtain⟨h,h5⟩:=tB h;obtain⟨h,h4⟩:=tB h;obtain⟨h,h3⟩:=tB h;obtain⟨h1,h2⟩:=tB h;have a2:=λy hy=>tB (List.all_eq_true.mp h2 y hy);refine⟨eq_of_beq h1,λy hy=>mM (tB (a2 y hy).1).1,λy hy e=>?_,λn hn=>?_,λt ht=>?_,of_decide_eq_true h4,eq_of_beq h5,λx hx=>?_,λp hp=>?_⟩
 ·rcases Bool.or_eq_true_iff.mp (tB (a2 y hy).1).2 with h|h
  ·exact absurd e (mM h)
  ·exact eq_of_beq h
 ·rcases Bool.or_eq_true_iff.mp (a2 _ hn).2 with h|h
  ·exact absurd rfl (mM h)
  ·exact List.contains_iff_mem.mp h
 ·obtain⟨a,b⟩:=tB (List.all_eq_true.mp h3 t ht);exact⟨eq_of_beq a,nt b⟩
 ·obtain⟨a,c⟩:=tB (List.all_eq_true.mp h6 _ hx);refine xA (tB a) λa b=>?_;exact(bj (eq_of_beq a) (nt b) (nt c))
 ·obtain⟨a,b⟩:=tB (List.all_eq_true.mp h7 p hp);exact⟨eq_of_beq a,nt b⟩
theorem Jw{k:NameKind}:∀{l:List (Str×NameKind)},l.lookup x=some k->(x,k)∈l:=by
 intro l
 induction l with
 |nil=>intro h;cases h
 |cons p l ih=>
  intro h;rw[lookup_cons] at h
  cases hx:x==p.1 with
  |true=>rw[hx] at h;cases h;rw[eq_of_beq hx];exact .head _
  |false=>rw[hx] at h;exact .tail _ (ih h)
theorem M0{cs:List (Option Str×Addr)}{c:Addr}:∀{bs:List Bool},(some x,c)∈zipWith (λ(p:Option Str×Addr) b=>(if b then p.1 else none,p.2)) cs bs->(some x,c)∈cs/\some x∈kU (cs.map (·.1)) bs:=by
 induction cs with
 |nil=>intro bs h;cases bs<;>cases h
 |cons p cs ih=>
  intro bs h
  cases bs with
  |nil=>cases h
  |cons b bs=>
   have h:(some x,c)∈(if b then p.1 else none,p.2)::zipWith (λ(p:Option Str×Addr) b=>(if b then p.1 else none,p.2)) cs bs:=h;rcases List.mem_cons.mp h with h|h
   ·cases b with
    |true=>obtain⟨p1,p2⟩:=p;have e1:some x=p1:=congrArg Prod.fst h;have e2:c=p2:=congrArg Prod.snd h;subst e1 e2;exact⟨.head _,.head _⟩
    |false=>cases congrArg Prod.fst h
   ·refine xA (ih h) λh1 h2=>?_;exact⟨.tail _ h1,.tail _ h2⟩
noncomputable def Fn.cl (F:Fn) (n:Str):Addr:=(F.env.cells.lookup n).getD 0
theorem M1(ok:bv C.G F)(h:vm F.nm.cells ci scope)(hg:ir C.G ci.globs)(a:Addr):bv C.G (F.comp ci scope (gN scope.names F.cl []) a):=by
 refine⟨h.kind,rfl,ok.gl,ok.bu,λx hx=>?_,λx c hc=>?_,(λh=>by cases h),λp hp=>?_⟩
 ·exact⟨v7 (h.dQ x hx).1,(h.dQ x hx).2⟩
 ·obtain⟨h1,h2⟩:=M0 hc;refine fq (h.Tj x h2) λq1 q2 q3=>?_;refine⟨(bj ?_ q2 q3),?_⟩
  ·have:(F.comp ci scope (gN scope.names F.cl []) a).env.kindOf x=_:=v7 (env:=F.env) q1;rw[this]
   cases (NameKind.free==NameKind.free&&F.env.scope.kind==.function&&F.env.kindOf x==some .cell)
   ·exact .inr rfl
   ·exact .inl rfl
  ·have e:=(ok.cells x c h1).2;have:=Lf (g:=F.cl) (x:=x) scope.names [] (.inl (Jw q1));refine this.trans ?_;unfold Fn.cl;rw[e];rfl
 ·exact(bj (v7 (h.gl p hp).1) ((h.gl p hp).2) (hg.mem p hp))
theorem C4(ok:bv C.G F)(h:vm F.nm.cells ci scope):closureFor scope F.env=pure (gN scope.names F.cl []):=Ax λn hn=>by
 have:∀(cs:List (Option Str×Addr))(bs:List Bool),some n∈kU (cs.map (·.1)) bs->∃c,(some n,c)∈cs:=by
  intro cs
  induction cs with
  |nil=>intro bs h;cases bs<;>cases h
  |cons p cs ih=>
   intro bs h
   cases bs with
   |nil=>cases h
   |cons b bs=>
    have h:some n∈(if b then p.1 else none)::kU (cs.map (·.1)) bs:=h;rcases List.mem_cons.mp h with h|h
    ·cases b with
     |true=>obtain⟨p1,p2⟩:=p;have h:some n=p1:=h;subst h;exact⟨p2,.head _⟩
     |false=>cases h
    ·obtain⟨c,h⟩:=ih bs h;exact⟨c,.tail _ h⟩
 obtain⟨c,hc⟩:=this _ _ (h.free n hn);have:=(ok.cells n c hc).2;unfold Fn.cl;rw[this];rfl
end
theorem Km{E:VS}{c:Expr}{Q:Bool->SP}(h:ag w A (isTrue c env (eval c env)) Q E s):
  ag w A (forIn [c] true λc r=>if r=true then do let ok ←isTrue c env (eval c env);pure (ForInStep.yield ok) else pure (ForInStep.yield r)) Q E s:=by
 exact nB (nB (ay h (λb s' hb=>aO (aO hb)) λU U x=>x))
section
variable{C:Cx}{F:Fn}{σ:Lo}{ci:CI}{scope:Scope}{A:Around}{Z:Zt}{L:HL}{H:bF}
def kA(ci:CI)(e:Expr):Prop:=match ci.pair with
 |true=>∃a b p q k r,ci.dQ=[a,b]/\e=.Tuple [.Name a p,.Name b q] k r
 |false=>∃a p,ci.dQ=[a]/\e=.Name a p
theorem M2{ci:CI}{e}(h:kA ci e):ci.pair=true->yK e:=λhp=>by unfold kA at h;rw[hp] at h;refine wr h λa b p q k r U jK=>?_;refine uu jK ?_;exact⟨_,_,_,rfl⟩
def rR(C:Cx)(N:Nm)(c:Tm)(er:List Expr):Prop:=match er with
 |[]=>c=.yes
 |[e]=>aK C N c e
 |_=>False
theorem Lh{er c}(ok:bv C.G F)(B:Bs C.G C.K)(h:rR C F.nm c er){Q:VP}{E:HP}(hR:Rm A C.d)(hw:wp C c F.globs σ .ts L Q E):
  JB C.G A Z (F.own σ++H) L (forIn er true λc r=>if r=true then do let ok ←isTrue c F.env (eval c F.env);pure (ForInStep.yield ok) else pure (ForInStep.yield r)) Q E:=.bP λs S=>by
 match er,h with
 |[],h=>
  lk
  cases h
  exact aP (wpAny_tests_nil ⟨Z,L,.bool true,.refl _,S,rfl,hw⟩)
 |[e],h=>exact Km (((ey ok B h).ts A Z H L Q E hR hw).run s S)
theorem A5{l'}(h:j5 true x=some l'):∃y z,x=.tup [y,z]/\l'=[some y,some z]:=by
 cases x with
 |tup xs=>
  match xs,h with
  |[a,b],h=>exact(co a b rfl ((Option.some.inj h).symm))
  |[],h=>cases h
  |[_],h=>cases h
  |_::_::_::_,h=>cases h
 |_=>cases h
theorem M3(ok:bv C.G F)(hh:A.handled=none)(ht:kA ci e)(hn:F.names=ci.dQ){l l' c}(hx:j5 ci.pair x=some l')(hl:l.length=ci.dQ.length)(hv:Is Z x v):
  JU F C.G A Z H ⟨l,c⟩ L (assign e F.env v) (λU iI L1=>iI=⟨l',c⟩/\L1=L) λU U=>False:=by
 unfold kA at ht
 cases hp:ci.pair with
 |false=>
  rw[hp] at ht hx
  lk
  obtain⟨a,p,e1,rfl⟩:=ht
  cases hx
  have mC:mh F (.var 0) a:=⟨by show F.names[0]?=_;rw[hn,e1];rfl,rfl⟩;refine JU.bind (pair:=false) (ts:=[.var 0]) (σ':=⟨[some x],c⟩) ok hh ⟨(co a p rfl mC),trivial⟩ ?_ hv (λt h=>?_) ⟨rfl,rfl⟩
  ·rw[e1] at hl
   match l,hl with
   |[_],_=>rfl
  ·cases h with
   |head=>trivial
   |tail _ h=>cases h
 |true=>
  rw[hp] at ht hx
  lk
  refine wr ht λa b p q k r e1 jK=>?_
  lk
  subst jK;have mC:mh F (.var 0) a:=⟨by show F.names[0]?=_;rw[hn,e1];rfl,rfl⟩;have Tk:mh F (.var 1) b:=⟨by show F.names[1]?=_;rw[hn,e1];rfl,rfl⟩;refine dn (A5 hx) λy z aw aE=>?_;subst aw;subst aE;refine JU.bind (pair:=true) (ts:=[.var 0,.var 1]) (σ':=⟨[some y,some z],c⟩) ok hh ⟨_,_,_,rfl,(co a p rfl mC),(co b q rfl Tk),trivial⟩ ?_ hv (λt h=>?_) ⟨rfl,rfl⟩
  ·rw[e1] at hl
   match l,hl with
   |[_,_],_=>rfl
  ·cases h with
   |head=>trivial
   |tail _ h=>cases h with
    |head=>trivial
    |tail _ h=>cases h
theorem Kn{pair x l':_}{ts:List Str}{e}(h:j5 pair x=some l')(ht:kA ⟨ts,pair,acc,gl⟩ e):l'.length=ts.length:=by
 cases pair with
 |false=>obtain⟨a,p,e1,_⟩:=ht;cases h;cases e1;rfl
 |true=>
  refine wr ht λa b p q k r e1 U=>?_;have e1:ts=_:=e1;refine av e1 ?_;refine dn (A5 h) λy z U aE=>?_;refine av aE ?_
  rfl
theorem C5(ok:bv C.G F)(B:Bs C.G C.K){cond:Tm}{iter:Expr}{er:List Expr}(h:vm F.nm.cells ci scope)(hg:ir C.G ci.globs)(ht:kA ci jL)(hi:rR C (F.nm.comp ci) cond er)(he:aK C (F.nm.comp ci) dy kf)
 {xs:List V}{Ok:HP}{it:Addr}{K:Nat->bF}{I:Nat->List V->HP}(hR:Rm A C.d)(W:jc ci.pair C.G xs Ok it K)(h0:I 0 [] L0)
  (kT:∀i acc L x,xs[i]?=some x->I i acc L->Ok L/\match j5 ci.pair x with
    |some l'=>wp C cond ci.globs ⟨l',σ.c⟩ .ts L (λz L=>match z with
     |.bool z=>(z=true->wp C dy ci.globs ⟨l',σ.c⟩ .ev L (λv L=>acc.length<1000/\I (i+1) (acc++[v]) L) λU=>False)/\(z=false->I (i+1) acc L)
     |_=>False) λU=>False
    |.none=>False)
  (kc:∀acc L,I xs.length acc L->Ok L){RR:Value->Addr->Result->SP}{E:VS}(S2:au C.G A Z L0 (K 0++(F.own σ++H)) s2)
  (Tl:∀Z' L' acc D Cc l s',Zt.Le Z Z'->I xs.length acc L'->xU A Cc->au C.G A Z' L' ((Cc,.frame ci.dQ l)::(F.own σ++((D,.list acc)::H))) s'->RR (.ref D) Cc (.ok .next) s'):
  ag C.G.w A (newList []) (λacc cL=>ag C.G.w A (newFunctionEnv scope F.env.globals (gN scope.names F.cl []) [] F.env.qual none .none (some F.env)) (λcenv nk=>cw C.G.w A (.compStart (.ListComp kf [⟨jL,iter,er,0⟩] scope pos) 0 (.ref it) acc {cenv with scope:=relabel scope F.env}) (RR acc cenv.locals) nk) E cL) E s2:=by
 refine aP (wpAny_newObj_type (aP (wpAny_newFunctionEnv h.cell (λy hy=>by cases hy) (λaW fw vn=>?_) h.kind)));have S3:=S2.ed (c:=.list []) (o:={cls:=.type "list",dict:=none,data:=.seq ([]:LV).toArray}) rfl (co (#[]) 0 rfl .nil) s2.toks
 have off:=S3.Qv (Nat.le_refl _);refine ew fw λo es ep ho hd hk hm=>?_;have S5:=(S3.ed (c:=.frame [] []) (o:={cls:=.type "dict",data:=.dict #[]}) rfl (tr rfl nodup_nil (#[]) 0 rfl (λe h=>(Array.not_mem_empty _ h).elim) (λU=>rfl)) s2.toks).ma (c':=.frame ci.dQ (ci.dQ.map λU=>none)) vn ho (tr (length_map ..|>.symm) h.nd es ep hd hk (λx=>by rw[Au];exact hm x)) s2.toks
 dsimp only at S5 off⊢
 generalize (s2.heap.push _).objs.size=Cc at S5 off⊢
 generalize s2.heap.objs.size=D at S5⊢
 have vo:=M1 ok h hg Cc;have pR:(F.comp ci scope (gN scope.names F.cl []) Cc).names=ci.dQ:=rfl;have zy:(F.comp ci scope (gN scope.names F.cl []) Cc).nm=F.nm.comp ci:=MY;have zA:∀l,(F.comp ci scope (gN scope.names F.cl []) Cc).own ⟨l,σ.c⟩=(Cc,.frame ci.dQ l)::(F.own σ).tail:=λl=>Ld (h.len.trans (length_map ..));have pP:F.own σ=(F.fr,.frame F.names σ.l)::(F.own σ).tail:=rfl;have Hh:(F.comp ci scope (gN scope.names F.cl []) Cc).globs=ci.globs:=rfl;have GB:(F.comp ci scope (gN scope.names F.cl []) Cc).env=compEnvC scope (gN scope.names F.cl []) Cc F.env:=rfl
 generalize (F.comp ci scope (gN scope.names F.cl []) Cc)=F' at vo pR zy zA Hh GB
 have S6:au C.G A Z L0 (K 0++(F'.own ⟨ci.dQ.map λU=>none,σ.c⟩++((D,.list [])::(F.fr,.frame F.names σ.l)::H))) {s2 with heap:=aW,toks:=s2.toks}:=S5.e8 (by rw[zA,pP];refine List.Perm.trans ?_ (perm_append_comm_assoc ..);refine List.Perm.cons _ ?_;refine List.Perm.trans ?_ (perm_append_comm_assoc ..);refine List.Perm.trans ?_ (List.Perm.append_left (K 0) List.perm_middle.symm);refine List.Perm.trans ?_ List.perm_middle.symm;refine List.Perm.cons _ (List.Perm.append_left (K 0) ?_);exact List.perm_middle.symm)
 have Hi:∀s',s'={s2 with heap:=aW,toks:=s2.toks}->cw C.G.w A (.compLoop (.ListComp kf [⟨jL,iter,er,0⟩] scope pos) 0 (.ref it) (.ref D) (compEnvC scope (gN scope.names F.cl []) Cc F.env)) (RR (.ref D) Cc) s':=by
  rintro s' rfl
  refine MZ (λn s=>∃Z3 i acc l L3,Zt.Le Z Z3/\n+i=xs.length/\au C.G A Z3 L3 (K i++(F'.own ⟨l,σ.c⟩++((D,.list acc)::(F.fr,.frame F.names σ.l)::H))) s/\l.length=ci.dQ.length/\I i acc L3) (λn s hs=>?_) xs.length (Jo Z 0 ([]) _ L0 (.refl _) rfl S6 (length_map ..) h0)
  lk
  lk
  refine Jn hs λZ3 i acc l L3 fU hn S hl hI=>?_
  have hok:Ok L3:=by
   by_cases aT:i<xs.length
   ·exact(kT i acc L3 _ (gE aT) hI).1
   ·have:i=xs.length:=aa FG hn aT;subst this;exact kc acc L3 hI
  refine ay (aP (W.next A Z3 L3 _ i s jL hR.handled (M2 ht) hok S)) (λr s1 q=>?_) λU U x=>x.elim
  cases r with
  |none=>
   lk
   obtain⟨hx,S1⟩:=q
   have:i=xs.length:=by have:=List.getElem?_eq_none_iff.mp hx;exact aa FH hn this
   subst this;refine Tl Z3 L3 acc D Cc l s1 fU hI off (S1.e8 ?_);rw[zA,pP];refine List.Perm.cons _ ?_;refine List.Perm.trans (List.Perm.append_left _ (List.Perm.swap ..)) ?_;exact perm_middle
  |some v=>
   refine ay (aP q) (λU s4 q=>?_) λU U x=>x.elim;refine gK q λZ5 x rO hx hv S5=>?_;refine xA (kT i acc L3 x hx hI) λU hb=>?_
   cases iJ:j5 ci.pair x with
   |none=>rw[iJ] at hb;exact hb.elim
   |some l'=>
    rw[iJ] at hb;refine(GB)▸?_;refine ay ((M3 vo hR.handled ht pR iJ hl hv).run s4 (S5.e8 (perm_append_comm_assoc ..))) (λU s6 q=>?_) (λU U q=>by cases q with|mk _ _ _ _ _ _ _ q=>exact q.elim)
    lk
    cases q with|mk Z6 Tn L6 u n5 S6 _ q=>
    lk
    refine xA q λiL cS=>?_
    cases iL
    cases cS
    rw[←Hh] at hb;refine ay ((Lh vo B (zy▸hi) hR hb).run s6 S6) (λz s7 q=>?_) (λU U q=>by cases q with|mk _ _ _ _ _ _ q=>exact q.elim)
    cases q with|mk Z7 L7 x7 vk S7 r q=>
    have r':x7=.bool z:=r;subst r';have vp:l'.length=ci.dQ.length:=Kn iJ ht;have aT:=(gS hx).1
    cases z with
    |false=>rw[if_neg Bool.false_ne_true];exact(AF (n-1) (aa uv hn aT) Z7 (i+1) acc l' L7 (fU.trans (rO.trans (n5.trans vk))) (aa uw hn aT) (S7.e8 (perm_append_comm_assoc ..)) vp (q.2 rfl))
    |true=>
     have q:=q.1 rfl;rw[if_pos rfl];refine ay (((ey vo B (zy▸he)).ev A Z7 _ L7 _ _ hR q).run s7 S7) (λy s8 q=>?_) (λU U q=>by cases q with|mk _ _ _ _ _ _ q=>exact q.elim)
     lk
     cases q with|mk Z8 L8 x8 pU S8 i8 q=>
     have pd:∀acc:List V,Perm ((F'.own ⟨l',σ.c⟩)++(K (i+1)++((D,P0.list acc)::(F.fr,.frame F.names σ.l)::H))) ((D,.list acc)::((F'.own ⟨l',σ.c⟩)++(K (i+1)++((F.fr,.frame F.names σ.l)::H)))):=λacc=>(List.Perm.append_left _ perm_middle).trans perm_middle
     have S9:=S8.e8 (pd acc)
     lk
     refine dI S9.iY λU o ho vs n9 aN Hj=>?_;subst aN;have bz:=Hj.length;rw[length_toList] at bz
     refine aP (wpAny_list_append_plain (iE n9 ho) (λh' lx fG=>?_) (by refine av bz ?_;exact Nat.le_of_lt (Nat.lt_trans q.1 (by decide))))
     obtain⟨To,cI⟩:=lx;exact(AF (n-1) (aa uv hn aT) Z8 (i+1) (acc++[x8]) l' L8 (fU.trans (rO.trans (n5.trans (vk.trans pU)))) (aa uw hn aT) (((S9.ma (c':=.list (acc++[x8])) fG cI (co _ To rfl (by rw[Array.toList_push];exact(Hj.append (.one i8)))) s8.toks).e8 (pd _).symm).e8 (perm_append_comm_assoc ..)) vp q.2)
 exact Jv (Hi _ rfl) (W.self A Z L0 _ 0 _ _ _ S6 (Hi _ rfl))
theorem Qw{N:Nm}(ok:bv C.G F)(B:Bs C.G C.K)(hF:F.nm=N){iter cond:Tm}{er:List Expr}(eV:aK C N iter kW)(hi:rR C (N.comp ci) cond er)(he:aK C (N.comp ci) dy kf)
  (h:rQ N.cells ci scope=true)(ht:kA ci jL)(hg:ir C.G ci.globs)(hs:∀x,foldedSetIterable kW F.env x=pure x)
  (hp:isTrue (.ListComp kf [⟨jL,kW,er,0⟩] scope pos) F.env (eval (.ListComp kf [⟨jL,kW,er,0⟩] scope pos) F.env)=(do let v ←eval (.ListComp kf [⟨jL,kW,er,0⟩] scope pos) F.env;standAt pos;holding [v] (truthy v))):
  ES C F σ (.lc ci iter cond dy) (.ListComp kf [⟨jL,kW,er,0⟩] scope pos):=by
 subst hF;have hc:=D5 h;refine .leaf (λA Z H L Q E hR hw=>.bP λs S=>?_) (λL Q E hw=>?_) hp
 ·simp only[eval_ListComp];refine Bz (use:=none) rfl hs (C4 ok hc) hc.kind hc.loc (ay (((ey ok B eV).ev A Z H L _ _ hR hw).run s S) (λv s1 q=>?_) λU U x=>x)
  lk
  cases q with|mk Z1 L1 x fH S1 i1 q=>
  obtain⟨xs,L0,Ok,rq,I,h0,kT,kc⟩:=q;refine ay (aP (rq.run A Z1 _ s1 v hR.handled i1 S1)) (λHe s2 q=>?_) (λU U x=>x.elim);refine ew q λit K Z2 aE gm W S2=>?_;refine av aE ?_;refine C5 ok B hc hg ht hi he hR W h0 kT (λacc L h=>(kc acc L h).1) S2 ?_;intro Z' L' acc D Cc l s' lp hI off S'
  lk
  refine sK S'.iY λU o ho U U es ep hd hk U=>?_;refine(ah (nsFind es) (gI o es ep ho hd hk (λU=>rfl)) (λh' fG=>?_));exact⟨Z',_,.ref D,fH.trans (gm.trans lp),((S'.GA (t:=s'.toks) fG.extBut off).e8 perm_middle).gw,.ref,(kc acc L' hI).2 D⟩
 ·refine hw
theorem wV{t:Tg}{x:Str}{pos:Pos}(ok:bv C.G F)(B:Bs C.G C.K){iter cond:Tm}{er:List Expr}(eV:aK C F.nm iter kW)(hi:rR C (F.nm.comp ci) cond er)(he:aK C (F.nm.comp ci) dy kf)
  (h:rQ F.nm.cells ci scope=true)(hT:kA ci jL)(hg:ir C.G ci.globs)(hs:∀x,foldedSetIterable kW F.env x=pure x)(ht:mh F t x)
  (hw:swapsWith (.ListComp kf [⟨jL,kW,er,0⟩] scope RP) (some (.Name x p')) pos.line F.env=pure true):
  S1 C F (.asg t (.lc ci iter cond dy)) (.Assign [.Name x p'] (.ListComp kf [⟨jL,kW,er,0⟩] scope RP) pos):=λA Z H σ L Q E hA hR fh Tp=>.bP λs S=>by
 have hc:=D5 h;refine(exec_Assign_Name_used _ _ _ _ hw)▸?_;refine dh (nB ?_)
 refine nB (ay (Bz (use:=some (assign (.Name x p') F.env)) (Q:=λU s'=>PS ny F C.G A Z H (λf σ L=>σ.c.length=F.cells.length/\Q f σ L) .next s') (E:=dz F C.G A Z H E) rfl hs (C4 ok hc) hc.kind hc.loc
  (ay (((ey ok B eV).ev A Z H L _ _ hR Tp).run s S) (λv s1 q=>?_) λU U=>PE.toS)) (λU s' hq=>aO (aO hq)) λU U e=>e)
 lk
 cases q with|mk Z1 L1 x1 fH S1 i1 q=>
 obtain⟨xs,L0,Ok,rq,I,h0,kT,kc⟩:=q;refine ay (aP (rq.run A Z1 _ s1 v hR.handled i1 S1)) (λHe s2 q=>?_) (λU U x=>x.elim);refine ew q λit K Z2 aE gm W S2=>?_;refine av aE ?_;refine C5 (RR:=λacc C0=>E1 C.G.w A (dz F C.G A Z H E) (some (assign (.Name x p') F.env)) (λU s'=>PS ny F C.G A Z H (λf σ L=>σ.c.length=F.cells.length/\Q f σ L) .next s') acc C0) ok B hc hg hT hi he hR W h0 kT (λacc L h=>(kc acc L h).1) S2 ?_;intro Z' L' acc D Cc l s' lp hI off S';refine wv (ay ((JU.store (Q:=λU σ2 L2=>σ2=σ.set t (.ref D)/\L2=L') (E:=λU U=>False) ok ht.1 (Fn.xl ht.1 fh) ht.2 (.ref (a:=D)) ⟨rfl,rfl⟩).run s' (S'.e8 List.perm_middle.symm:au C.G A Z' L' (F.own σ++((Cc,.frame ci.dQ l)::(D,.list acc)::H)) s')) (λU s3 q=>?_) (λU U q=>by cases q with|mk _ _ _ _ _ _ _ q=>exact q.elim))
 lk
 cases q with|mk Z4 Hf L4 u Tq S4 _ q=>
 lk
 obtain⟨rfl,rfl⟩:=q;have S5:=S4.e8 perm_middle
 lk
 refine sK S5.iY λU o ho U U es ep hd hk U=>?_;refine(ah (nsFind es) (gI o es ep ho hd hk (λU=>rfl)) (λh' fG=>?_));exact⟨Z4,_,_,.next,fH.trans (gm.trans (lp.trans Tq)),((S5.GA (t:=s3.toks) fG.extBut off).e8 perm_middle).gw,.next,by rw[tx];exact fh,(kc acc _ hI).2 D⟩
end
section
variable{C:Cx}{F:Fn}
theorem Cb{ts σ}{P:Lo->Prop}(h:match nA v ts σ with|some σ'=>P σ'|none=>False):∃σ',nA v ts σ=some σ'/\P σ':=by
 cases hx:nA v ts σ with
 |none=>rw[hx] at h;exact h.elim
 |some σ'=>rw[hx] at h;exact(ah σ' rfl h)
theorem qH(ok:bv C.G F)(B:Bs C.G C.K){ts tm es k tp e pos:_}(h1:aK C F.nm tm e)(ht:jw F ts es)(hs:swapsWithSole [.Tuple es k tp] e pos.line F.env=pure false)(hw:swappedStores [.Tuple es k tp] e F.env=pure none):
  S1 C F (.fi ts tm) (.Assign [.Tuple es k tp] e pos):=λA Z H σ L Q E hA hR hc h=>.bP λs S=>
 Ju (ay (((ey ok B h1).ev A Z H L _ _ hR h).run s S) (λf s' q=>by
  lk
  cases q with|mk Z' L' v a b r q=>
  refine ai (Cb (P:=λσ'=>Q .next σ' L') q) λσ' hu q=>?_
  exact ay ((JU.unpack (Q:=λσ2 L2=>σ2.c.length=F.cells.length/\Q .next σ2 L2) (E:=E) ok hR.handled ht hu r (ht.has hc) ⟨by obtain⟨xs,rfl,rS⟩:=tA hu;exact(sL rS).trans hc,q⟩).run s' b) (λU U q=>by cases q with|mk Z2 σ2 L2 u a2 b2 _ q2=>exact⟨Z2,σ2,L2,.next,a.trans a2,b2,.next,q2⟩) (λU U=>dz.le a)) λU U=>PE.toS) hs hw
noncomputable def wW (F:Fn):List Nat->List Str->Prop
 |[],[]=>True
 |i::is,x::xs=>F.names[i]?=some x/\wW F is xs
 |_,_=>False
theorem JU.names(ok:bv C.G F){Q:Lo->HP}{E:Lo->HP}:∀{is ns xs}{vs:LV}{Z σ},wW F is ns->σ.iW (is.map .var) xs=some σ'->aZ Z xs vs->Q σ' L->
  JU F C.G A Z H σ L (assignInOrder (ns.map λn=>bindName F.env n) vs) (λU=>Q) E:=by
 intro is
 induction is with
 |nil=>
  intro ns xs vs Z σ ht hs hv q
  lk
  cases ns with
  |cons=>exact ht.elim
  |nil=>
   lk
   cases xs with
   |cons=>cases hs
   |nil=>
    cases hs
    refine av hv.dN ?_;exact .mk λs S=>wpAny_assignInOrder_none ⟨Z,_,L,(),.refl _,S,rfl,q⟩
 |cons t ts ih=>
  intro ns xs vs Z σ ht hs hv q
  cases ns with
  |nil=>exact ht.elim
  |cons e es=>
   lk
   cases xs with
   |nil=>cases hs
   |cons x xs=>
    cases hv with
    |cons i hv=>
    refine .bP λs S=>B_ (wh (ay ((JU.store (g:=.var t) (Q:=λU σ2 L2=>σ2=σ.set (.var t) x/\L2=L) (E:=E) ok ht.1 trivial rfl i ⟨rfl,rfl⟩).run s S) (λU s2 q2=>?_) λU U x=>x))
    lk
    cases q2 with|mk Z2 σ2 L2 u a2 b2 _ q2=>
    lk
    obtain⟨rfl,rfl⟩:=q2;exact ay ((ih ht.2 hs (hv.mono a2) q).run s2 b2) (λU U=>PS.le a2) (λU U=>dz.le a2)
theorem sU{σ:Lo}{i j:Nat}(h:i≠j):(σ.set (.var i) x).set (.var j) y=(σ.set (.var j) y).set (.var i) x:=by show Lo.mk ((σ.l.set i (some x)).set j (some y)) σ.c=Lo.mk ((σ.l.set j (some y)).set i (some x)) σ.c;rw[List.set_comm _ _ h]
theorem C6{Z xs vs:_}(h:aZ Z xs vs):aZ Z xs.reverse vs.reverse:=by
 induction h with
 |nil=>exact .nil
 |cons a _ ih=>rw[reverse_cons,reverse_cons];exact ih.append (.one a)
noncomputable def GC:List Nat->Bool
 |[i,j]=>i != j
 |[i,j,k]=>i != j&&i != k&&j != k
 |_=>false
theorem Ko{is:List Nat}{xs:List V}{σ:Lo}(h:GC is=true)(hs:σ.iW (is.map .var) xs=some σ'):σ.iW (is.reverse.map .var) xs.reverse=some σ':=by
 match is,h,xs,(wi hs) with
 |[i,j],h,[x,y],_=>refine(?_:some ((σ.set (.var j) y).set (.var i) x)=_);rw[←sU (mM h)];exact(hs:some ((σ.set (.var i) x).set (.var j) y)=some σ')
 |[i,j,k],h,[x,y,z],_=>
  lk
  obtain⟨h,h3⟩:=tB h;obtain⟨h1,h2⟩:=tB h;have hs:some (((σ.set (.var i) x).set (.var j) y).set (.var k) z)=some σ':=hs;refine(?_:some (((σ.set (.var k) z).set (.var j) y).set (.var i) x)=_);rw[←hs,sU (mM h1),sU (mM h2),sU (mM h3)]
theorem mS(ok:bv C.G F)(B:Bs C.G C.K){is:List Nat}{names:List Str}{tm es k tp e pos:_}(h1:aK C F.nm tm e)(ht:wW F is.reverse names.reverse)(hl:names.length=is.length)(hi:GC is=true)(hs:swapsWithSole [.Tuple es k tp] e pos.line F.env=pure false)(hw:swappedStores [.Tuple es k tp] e F.env=pure (some names)):
  S1 C F (.fi (is.map .var) tm) (.Assign [.Tuple es k tp] e pos):=λA Z H σ L Q E hA hR hc h=>.bP λs S=>
 IZ (ay (((ey ok B h1).ev A Z H L _ _ hR h).run s S) (λf s' q=>by
  cases q with|mk Z' L' v a b r q=>
  refine gT λzP zk=>?_;refine ai (Cb (P:=λσ'=>Q .next σ' L') q) λσ' hu q1=>?_;refine ai (tA hu) λxs cS rS=>?_;subst cS;refine dJ r.cy λt vs n aE hz hv=>?_;subst aE;have go:=hv.length;refine zk ?_;rw[length_toList] at go;rw[(show names.length=vs.size by rw[go,(wi rS),length_map];exact hl)];refine aP<|PySem.wpAny_unpackItems_tuple hR.handled (eA _ (b.keep _ _ hz) rfl n rfl) λh' he=>?_
  exact ay ((JU.names (Q:=λσ2 L2=>σ2.c.length=F.cells.length/\Q .next σ2 L2) (E:=E) ok ht (Ko hi rS) (C6 hv) ⟨(sL rS).trans hc,q1⟩).run _ (b.ext (t:=s'.toks) λb o e=>he b o (ne_of_lt (lt_size e)) e)) (λU U q=>by cases q with|mk Z2 σ2 L2 u a2 b2 _ q2=>exact⟨Z2,σ2,L2,.next,a.trans a2,b2,.next,q2⟩) (λU U=>dz.le a)) λU U=>PE.toS) hs hw
end
noncomputable def cE (T:Addr):P0:=.raw λU U o=>o.cls=.ref 59/\∃vs,o.data=.fields vs/\vs[1]?=some (.ref T)
noncomputable def cT:P0:=.raw λU U o=>∃ts fl,o.data=.fields ts/\ts[3]?=some fl
noncomputable def cN:P0:=.raw λU U o=>o.cls=.ref 59/\∃vs,o.data=.fields vs/\vs[1]?=some .none
def jC(e:Addr)(l:bF):Prop:=l=[(e,cN)]\/∃T,l=[(e,cE T),(T,cT)]
section
variable{G:Gd}{A:Around}{Z:Zt}{L:bF}{s:Shared}
theorem St.slots{l:List Env}(S:St G A Z L s)(hl:A.frames=some l)(hs:Heap.SlotsOnly (l.filterMap (·.frame)) s.heap h'):St G A Z L {s with heap:=h'}:=by
 have nZ:∀b,b∈l.filterMap (·.frame)->Z b=none/\∀p∈L,p.1=b->p.2.isFrame=true:=λb hb=>by
  lk
  refine ai (List.mem_filterMap.mp hb) λenv he hf=>?_
  lk
  refine ai S.frames λl' e q=>?_;rw[hl] at e;cases e
  lk
  refine kP (q env he) λU f o e1 e2 e3=>?_;have:some f=some b:=e1.symm.trans hf
  lk
  cases this
  exact⟨e2.2.2,e3⟩
 refine⟨S.base,λb o e=>?_,S.nd,λp hp=>?_,S.frames.mono λa o e q=>⟨?_,q⟩,S.gens,S.os⟩
 ·have hb:b∉l.filterMap (·.frame):=λhb=>by have:=(nZ b hb).1;rw[e] at this;cases this
  exact(hs.2.1 b hb).trans (S.keep b o e)
 ·lk
  refine bW (S.cells p hp) λz o h1 h2=>?_;by_cases hb:p.1∈l.filterMap (·.frame)
  ·refine xE (hs.2.2 _ _ h1) λsl h3=>?_;refine(dc z _ h3 ?_);have hf:=(nZ _ hb).2 p hp rfl
   revert h2 hf
   generalize p.2=c
   intro h2 hf
   lk
   cases c with
   |frame=>exact h2
   |_=>cases hf
  ·exact(dc z o ((hs.2.1 _ hb).trans h1) h2)
 ·refine xE (hs.2.2 _ _ e.1) λsl h3=>?_;exact(cz _ h3 e.2.1 e.2.2)
theorem St.Kp(S:St G A Z L s){l:List Env}(hl:A.frames=some l):s.heap.FunFrames {} l:=by
 lk
 refine ai S.frames λl' e q=>?_;rw[hl] at e;cases e;clear hl
 induction l with
 |nil=>trivial
 |cons env l ih=>refine kP (q env (.head _)) λhk f o e1 e2 e3=>?_;exact(bj (by rw[hk];intro x;cases x) (jo f o e1 rfl e2.1 e2.2.1) (ih λenv he=>q env (.tail _ he)))
theorem v8{h:Heap}{a:Addr}{o:Obj}{vs:Array Value}(f:Array Value->Array Value)(ho:h.get? a=some o)(hd:o.data=.fields vs):(h.update a (Obj.mapFields f)).get? a=some (o.mapFields f):=get?_update_self _ ho (Obj.isFreed_of_fields (Obj.data_mapFields hd f))
theorem St.yP{pre post:bF}{a:Addr}{c c':P0}{i:Nat}{o:Obj}{vs:Array Value}(S:St G A Z (pre++(a,c)::post) s)(ho:s.heap.get? a=some o)(hd:o.data=.fields vs)(hi:i<vs.size)(hc:c'.is Z G.w.params (o.mapFields (·.setIfInBounds i x)))
  (hf:c'.isFrame=c.isFrame){Q:Unit->SP}{E:VS}(k:∀s',St G A Z (pre++(a,c')::post) s'->Q () s'):wpAny (model aH G.w) A (setField (.ref a) i x) Q E s:=
 wpAny_setField ho hd hi (k _ (S.put (Heap.SameBut.update ..) (v8 _ ho hd) hc s.toks hf))
theorem Fa{T:Addr}(S:St G A Z L s)(h:(T,cT)∈L):∃o ts fl,s.heap.get? T=some o/\o.data=.fields ts/\ts[3]?=some fl:=by
 lk
 refine bW (S.cells _ h) λU o ho hp=>?_;refine dn (hp Z (.refl _)) λts fl h1 h2=>?_;exact(t3 o ts fl ho h1 h2)
theorem qW{e T:Addr}(S:St G A Z L s)(h:(e,cE T)∈L):∃o vs,s.heap.get? e=some o/\o.cls=.ref 59/\o.data=.fields vs/\vs[1]?=some (.ref T):=by
 lk
 refine bW (S.cells _ h) λU o ho hp=>?_;refine bW (hp Z (.refl _)) λhc vs h1 h2=>?_;exact(jo o vs ho hc h1 h2)
theorem D6{o:Obj}{ts:Array Value}{Z:Zt}(hd:o.data=.fields ts)(h3:ts[3]?=some fl):cT.is Z P (o.mapFields (·.setIfInBounds 3 x)):=λU U=>(co _ x (Obj.data_mapFields hd _) (by rw[Array.getElem?_setIfInBounds_self,if_pos (Array.getElem?_eq_some_iff.mp h3).1]))
theorem Fb(T:Addr):(Value.ref T != Value.none)=true:=rfl
theorem wj{e T:Addr}{fr:Option Addr}{pre:bF}(S:St G A Z (pre++(e,cE T)::(T,cT)::L) s){Q:Unit->SP}{E:VS}(k:∀s',St G A Z (pre++(e,cE T)::(T,cT)::L) s'->Q () s'):wpAny (model aH G.w) A (setFlight (.ref e) fr) Q E s:=by refine gK (qW S (mem_append_right _ (.head _))) λo vs ho U hd h1=>?_;refine dJ (Fa S (mem_append_right _ (.tail _ (.head _)))) λoT ts fl hT pW h3=>?_;refine wpAny_bind (wpAny_field ho hd h1 ?_);rw[if_pos (Fb T)];rw[(show pre++(e,cE T)::(T,cT)::L=(pre++[(e,cE T)])++(T,cT)::L by rw[append_assoc];rfl)] at S k;exact S.yP hT pW (Array.getElem?_eq_some_iff.mp h3).1 (D6 pW h3) rfl k
theorem uq{e:Addr}(S:St G A Z L s)(h:(e,cN)∈L):∃o vs,s.heap.get? e=some o/\o.cls=.ref 59/\o.data=.fields vs/\vs[1]?=some .none:=by
 lk
 refine bW (S.cells _ h) λU o ho hp=>?_;refine bW (hp Z (.refl _)) λhc vs h1 h2=>?_;exact(jo o vs ho hc h1 h2)
theorem Cd{e L0:Addr}{c:P0}{b:Bool}{env:Env}{pre:bF}{l:List Env}(S:St G A Z (pre++(e,c)::L) s)(hc:∀L' s',St G A Z L' s'->(e,c)∈L'->∃o vs x,s'.heap.get? e=some o/\o.cls=.ref 59/\o.data=.fields vs/\vs[1]?=some x)(hf:c.isFrame=false)(hA:A.frames=some (env::l))(nZ:env.frame=some L0){Q:Unit->SP}{E:VS}(k:∀T' s',St G A Z (pre++(e,cE T')::(T',cT)::L) s'->Q () s'):
  wpAny (model aH G.w) A (do let a ←frameOf env;let pl ←entryPlaceOf L0 b;let t ←EntryCells.newEntry head a .none (rawInt L0) .none pl;setField (.ref e) 1 t) Q E s:=by
 refine wpAny_bind (wpAny_frameOf_fun hA (S.Kp hA) nZ λaW Qx=>?_);refine wpAny_bind (wpAny_entryPlaceOf λpl lx=>?_);refine wpAny_bind (wpAny_newObj_type ?_ (lx.sizeOk5 _ _ _ _ _));have S2:=(S.slots hA Qx).new (c:=cT) (o:={cls:=.type "traceback",dict:=none,data:=.fields ([head,.ref L0,.none,rawInt L0,.none]++(if pl.isEmpty then replicate 6 Value.none else pl)).toArray}) rfl (λU U=>(co _ (rawInt L0) rfl rfl)) s.toks
 dsimp only at S2⊢
 generalize aW.objs.size=T' at S2⊢
 generalize aW.push _=b_ at S2⊢
 have S3:St G A Z (((T',cT)::pre)++(e,c)::L) {s with heap:=b_}:=S2;refine ew (hc _ _ S3 (mem_append_right _ (.head _))) λo vs x ho fh hd h1=>?_;refine S3.yP (c':=cE T') ho hd (Array.getElem?_eq_some_iff.mp h1).1 (λU U=>(dc ((Obj.cls_mapFields ..).trans fh) _ (Obj.data_mapFields hd _) ?_)) (by rw[hf];rfl) λs' S4=>k T' s' (S4.perm ?_)
 ·rw[Array.getElem?_setIfInBounds_self,if_pos (Array.getElem?_eq_some_iff.mp h1).1]
 ·refine List.Perm.trans ?_ (List.Perm.append_left pre (List.Perm.swap ..));exact List.perm_middle.symm
theorem M4{e T:Addr}{env:Env}{pre:bF}{l:List Env}(S:St G A Z (pre++(e,cE T)::(T,cT)::L) s)(hA:A.frames=some (env::l)){Q:Unit->SP}{E:VS}(k:∀T' s',St G A Z (pre++(e,cE T')::(T',cT)::L) s'->Q () s'):
  wpAny (model aH G.w) A (noteFrame (.ref e) env) Q E s:=by
 refine ai S.frames λl' e' q=>?_;rw[hA] at e';cases e';refine Ev (q env (.head _)) λhk f U hf U=>?_;refine gK (qW S (mem_append_right _ (.head _))) λo vs ho U hd h1=>?_;refine dJ (Fa S (mem_append_right _ (.tail _ (.head _)))) λoT ts fl hT pW h3=>?_;unfold noteFrame;simp only[hf];refine wpAny_bind (wpAny_field ho hd h1 ?_);rw[if_pos (Fb T)];refine wpAny_bind (wpAny_field hT pW h3 ?_);by_cases rT:(fl==rawInt f)=true
 ·rw[if_pos rT];exact wP (k T s S)
 ·rw[if_neg rT];have e1:pre++(e,cE T)::(T,cT)::L=(pre++[(e,cE T)])++(T,cT)::L:=by rw[append_assoc];rfl
  rw[e1] at S;refine wB (S.yP (c':=cT) hT pW (Array.getElem?_eq_some_iff.mp h3).1 (D6 pW h3) rfl λs2 S2=>?_);rw[←e1] at S2;exact Cd (S2.sub (.append_left (.cons_cons _ (.cons _ (.refl _))) _):St G A Z (pre++(e,cE T)::L) s2) (λL' s' S' h=>by obtain⟨o,vs,a,b,c,d⟩:=qW S' h;exact(gI o vs _ a b c d)) rfl hA hf k
theorem Li{e:Addr}{env:Env}{pre:bF}{l:List Env}(S:St G A Z (pre++(e,cN)::L) s)(hA:A.frames=some (env::l)){Q:Unit->SP}{E:VS}(k:∀T' s',St G A Z (pre++(e,cE T')::(T',cT)::L) s'->Q () s'):
  wpAny (model aH G.w) A (noteFrame (.ref e) env) Q E s:=by
 refine ai S.frames λl' e' q=>?_;rw[hA] at e';cases e';refine Ev (q env (.head _)) λhk f U hf U=>?_;refine gK (uq S (mem_append_right _ (.head _))) λo vs ho U hd h1=>?_;unfold noteFrame;simp only[hf];refine wpAny_bind (wpAny_field ho hd h1 ?_);rw[if_neg (by decide)];exact Cd S (λL' s' S' h=>by obtain⟨o,vs,a,b,c,d⟩:=uq S' h;exact(gI o vs _ a b c d)) rfl hA hf k
end
theorem xm{G:Gd}(hG:G.exc=jC){A Z a L H s:_}(S:au G A Z ((a,.own G.exc)::L) H s):∃l,cR L l/\(St G A Z ([]++(a,cN)::(l++H)) s\/∃T,St G A Z ([]++(a,cE T)::(T,cT)::(l++H)) s):=by
 lk
 refine ai S λl e S=>?_
 cases e with
 |cons x r=>
  have x:G.exc _ _:=x;rw[hG] at x;rcases x with rfl|⟨T,rfl⟩
  ·exact(ah _ r (.inl S))
  ·exact(ah _ r (.inr (iE T S)))
theorem xn{G:Gd}(hG:G.exc=jC){A Z a L H s T l:_}(e:cR L l)(S:St G A Z ([]++(a,cE T)::(T,cT)::(l++H)) s):au G A Z ((a,.own G.exc)::L) H s:=(ah ([(a,cE T),(T,cT)]++l) (.cons (c:=.own G.exc) (show G.exc a _ by rw[hG];exact .inr (iE T rfl)) e) S)
theorem C7{G:Gd}(hG:G.exc=jC){A Z a L H s l:_}(e:cR L l)(S:St G A Z ((a,cN)::(l++H)) s):au G A Z ((a,.own G.exc)::L) H s:=(ah ([(a,cN)]++l) (.cons (c:=.own G.exc) (show G.exc a _ by rw[hG];exact .inl rfl) e) S)
theorem Ce{G:Gd}(hG:G.exc=jC){A Z a L H s env:_}(hA:∃l,A.frames=some (env::l))(S:au G A Z ((a,.own G.exc)::L) H s){Q:Unit->SP}{E:VS}(k:∀T l s',cR L l->St G A Z ([]++(a,cE T)::(T,cT)::(l++H)) s'->Q () s'):wpAny (model aH G.w) A (noteFrame (.ref a) env) Q E s:=by
 lk
 refine xE hA λl hA=>?_;obtain⟨l0,e,S|⟨T,S⟩⟩:=xm hG S
 ·exact Li S hA λT' s' S'=>k T' l0 s' e S'
 ·exact M4 S hA λT' s' S'=>k T' l0 s' e S'
theorem Tr{G:Gd}(hG:G.exc=jC):lw G where
 xQ F A Z H σ L a s E _ hA _ q S:=Ce hG hA S λT l s' e S'=>by refine gK (qW S' (.head _)) λo vs ho U hd h1=>?_;refine wpAny_bind (wpAny_field ho hd h1 ?_);refine(if_neg (show¬((Value.ref T==Value.none)=true) from Bool.false_ne_true))▸?_;exact wj S' λs' S'=>⟨Z,σ,L,a,.refl _,rfl,xn hG e S',q⟩
 left F A Z H σ L a s _ hA _ S:=wB (Ce hG hA S λT l s' e S'=>wj S' λs2 S2=>(ah Z (.refl _) (xn hG e S2)))
section
variable{C:Cx}{L L':HL}{Q:VP}{E:HP}{a:Addr}{xs:List V}{v:V}
theorem br.pn(h:ap L a (.list xs))(hn:xs.length<1000000)(q:Q (.int xs.length) L):br C "len" [.ref a] L Q E:=⟨λA Z H vs hR hv=>by
 lk
 obtain⟨i,r⟩:=hv.e7
 lk
 obtain rfl:=r.dN
 lk
 obtain rfl:=i.ce;refine .mk λs S=>?_
 lk
 refine dI (S.cell h) λU o ho ws n aN hw=>?_;subst aN;have hl:=hw.length;simp only[length_toList] at hl;refine call_len_list ⟨_,ho,rfl,n,rfl⟩ (by exact aa ⟨2,0,[.aJ 0 1000000,.aA 1 0],.fp 1 9223372036854775808⟩ hn hl) (PQ.mk' S.toks (x:=.int xs.length) (by rw[hl];exact .int) q)⟩
theorem br.po{b:By}(hn:b.length<1000000)(q:Q (.int b.length) L):br C "len" [.bytes b] L Q E:=⟨λA Z H vs hR hv=>by
 lk
 obtain⟨i,r⟩:=hv.e7
 lk
 obtain rfl:=r.dN
 lk
 obtain⟨_,rfl⟩:=i.kQ;refine .mk λs S=>?_;have hl:b.toArray.size=b.length:=size_toArray;exact len_bytes (by exact aa ⟨2,0,[.aJ 0 1000000,.aA 1 0],.aS 1 1099511627776⟩ hn hl) (PQ.mk' S.toks (x:=.int b.length) (by rw[hl];exact .int) q)⟩
theorem bd.range{n:Int}(q:Q (.eL 0 n) L):bd C "range" [.int n] L Q E:=⟨λA Z H vs hR hv=>by
 lk
 obtain⟨i,r⟩:=hv.e7
 lk
 obtain rfl:=r.dN
 lk
 cases i with|@int _ t=>
 refine .mk λs S=>?_;exact call_range_1 (PQ.lu (Zt.lQ Z (o:=DU (.int 0 s.toks) (.int n t) (.int 1 (s.toks+1))) S.gU) (S.lr rfl _) (.eL (Zt.mY ..)) q)⟩
theorem br.abs{n:Int}(q:Q (.int n.natAbs) L):br C "abs" [.int n] L Q E:=⟨λA Z H vs hR hv=>by
 lk
 obtain⟨i,r⟩:=hv.e7
 lk
 obtain rfl:=r.dN
 lk
 obtain⟨_,rfl⟩:=i.e_;refine .mk λs S=>?_;refine call_abs_int λu tk=>PQ.mk' S.toks (x:=.int n.natAbs) ?_ q;have:(if n<0 then -n else n)=(n.natAbs:Int):=aa ⟨0,2,[.oo (.an (.bh 0 0) (.ez .v1 (.n .v0))) (.an (.no (.bh 0 0)) (.bM 1 0))],.ez .v1 (.c (.b .v0))⟩ io;rw[this];exact .int⟩
theorem bd.RQ{n:Int}(q:Q (.int n) L):bd C "int" [.int n] L Q E:=⟨λA Z H vs hR hv=>by
 lk
 obtain⟨i,r⟩:=hv.e7
 lk
 obtain rfl:=r.dN
 lk
 obtain⟨_,rfl⟩:=i.e_;exact .mk λs S=>call_int_int (PQ.mk' S .int q)⟩
theorem bd.RS{b:Bool}(q:Q (.int (if b then 1 else 0)) L):bd C "int" [.bool b] L Q E:=⟨λA Z H vs hR hv=>by
 lk
 obtain⟨i,r⟩:=hv.e7
 lk
 obtain rfl:=r.dN
 lk
 obtain rfl:=i.xI;exact .mk λs S=>call_int_bool (PQ.mk' S.toks .int q)⟩
theorem bd.mj(h:ap L a (.list xs))(hn:xs.length<1000000)(q:Q (.tup xs) L):bd C "tuple" [.ref a] L Q E:=⟨λA Z H vs hR hv=>by
 lk
 obtain⟨i,r⟩:=hv.e7
 lk
 obtain rfl:=r.dN
 lk
 obtain rfl:=i.ce;refine .mk λs S=>?_
 lk
 refine dI (S.cell h) λU o ho ws n aN hw=>?_;subst aN;have hl:=hw.length;simp only[length_toList] at hl;refine call_tuple_list ⟨_,ho,rfl,n,rfl⟩ (λh' hk=>?_) (by rw[hl,sizeLine_eq];exact aa f8 hn);have S1:=S.ext (t:=s.toks) hk;have hz:=Zt.lQ Z (o:=gL ws 0) S1.gU;exact PQ.lu hz (S1.lr rfl s.toks) (.o3 (Zt.mY ..) (hw.mono hz)) q⟩
end
structure KV(w:World){K:Type}[DecidableEq K](knd:KeyKind aH w K)(tv:K->V):Prop where
 is:∀Z k v,Is Z (tv k) v↔knd.is k v=true
 hash:∀k,xJ w.params (tv k)=knd.hash k
 inj:∀a b,tv a=tv b->a=b
theorem dX(w:World):KV w (intKind aH w) V.int:=⟨λZ k v=>by
 constructor
 ·intro h;cases h with|@int _ t=>exact(by simp[intKind,Value.isInt]:(intKind aH w).is k (.int k t)=true)
 ·intro h;obtain⟨t,rfl⟩:=Value.isInt_shape h;exact .int,λU=>rfl,λa b h=>by cases h;rfl⟩
theorem xV(w:World):KV w (strKind aH w) V.str:=⟨λZ k v=>by
 constructor
 ·intro h;cases h with|@str _ t=>exact strKind_is aH w k t
 ·intro h;obtain⟨t,rfl⟩:=Value.isStrOf_shape h;exact .str,λU=>rfl,λa b h=>by cases h;rfl⟩
section
variable{K:Type}[DecidableEq K]
noncomputable def cD (tv:K->V) (kvs:List (K×V)):List (V×V):=kvs.map λp=>(tv p.1,p.2)
abbrev Cl.dk(tv:K->V)(kvs:List (K×V))(n:Nat):Cl:=.dict (cD tv kvs) n
abbrev Cl.di(kvs:List (Int×V))(n:Nat):Cl:=Cl.dk V.int kvs n
abbrev Cl.ds(kvs:SV)(n:Nat):Cl:=Cl.dk V.str kvs n
noncomputable def bL (kvs:List (K×V)) (k:K):Option V:=(kvs.find? λp=>p.1=k).map (·.2)
noncomputable def df (kvs:List (K×V)) (k:K) (v:V):List (K×V):=if kvs.any (λp=>p.1=k) then kvs.map (λp=>if p.1=k then(p.1,v) else p) else kvs++[(k,v)]
noncomputable def pp (kvs:List (K×V)) (k:K):List (K×V):=kvs.filter λp=>!(p.1=k)
inductive dm(Z:Zt):List (K×V)->List (K×Value)->Prop
 |nil:dm Z [] []
 |cons{k x v r us:_}:Is Z x v->dm Z r us->dm Z ((k,x)::r) ((k,v)::us)
theorem dm.keys{Z}{kvs:List (K×V)}{us}(h:dm Z kvs us):us.map (·.1)=kvs.map (·.1):=by
 induction h with
 |nil=>rfl
 |cons _ _ ih=>rw[map_cons,map_cons,ih]
theorem dm.len{Z}{kvs:List (K×V)}{us}(h:dm Z kvs us):us.length=kvs.length:=by rw[←length_map (f:=(·.1)),h.keys,length_map]
theorem dm.get{Z}{kvs:List (K×V)}{us:List (K×Value)}(h:dm Z kvs us)(k:K):match bL kvs k with
  |some x=>∃v,valueAt us k=some v/\Is Z x v
  |none=>valueAt us k=none:=by
 induction h with
 |nil=>rfl
 |@cons k' x v r us i _ ih=>
  unfold bL valueAt;simp only[find?_cons,find?_cons];by_cases e:k'=k
  ·subst e;simp only[decide_true];exact(ah v rfl i)
  ·simp only[e,decide_false];exact ih
theorem dm.RT{Z}{kvs:List (K×V)}{us:List (K×Value)}{f:K×V->K×V}{g:K×Value->K×Value}(h:dm Z kvs us)(Ts:∀k x v,Is Z x v->(f (k,x)).1=(g (k,v)).1/\Is Z (f (k,x)).2 (g (k,v)).2):dm Z (kvs.map f) (us.map g):=by
 induction h with
 |nil=>exact .nil
 |@cons k x v r us i _ ih=>
  simp only[map_cons,map_cons];refine xA (Ts k x v i) λh1 h2=>?_
  revert h1 h2
  generalize f (k,x)=p
  generalize g (k,v)=q
  obtain⟨p1,p2⟩:=p;obtain⟨q1,q2⟩:=q;intro h1 h2;have h1:p1=q1:=h1;refine av h1 ?_;exact .cons h2 ih
theorem dm.append{Z}{kvs GD:List (K×V)}{us zB:List (K×Value)}(h:dm Z kvs us)(h':dm Z GD zB):dm Z (kvs++GD) (us++zB):=by
 induction h with
 |nil=>exact h'
 |cons i _ ih=>exact .cons i ih
theorem dm.any{Z}{kvs:List (K×V)}{us:List (K×Value)}(h:dm Z kvs us)(p:K->Bool):us.any (λq=>p q.1)=kvs.any λq=>p q.1:=by
 induction h with
 |nil=>rfl
 |cons _ _ ih=>rw[any_cons,any_cons,ih]
theorem dm.set{Z}{kvs:List (K×V)}{us:List (K×Value)}{k:K}(h:dm Z kvs us)(i:Is Z x v):dm Z (df kvs k x) (PySem.stored us k v):=by
 unfold df PySem.stored;rw[h.any λq=>q=k]
 split
 ·refine h.RT λk' y u j=>?_;by_cases e:k'=k
  ·simp only[e,if_true];exact⟨trivial,i⟩
  ·simp only[e,if_false];exact⟨trivial,j⟩
 ·exact h.append (.cons i .nil)
variable{w:World}{knd:KeyKind aH w K}{tv:K->V}
theorem f9.pairs(T:KV w knd tv){l:List DictEntry}:∀{kvs:List (K×V)},f9 Z w.params (cD tv kvs) l->KeysOf knd l.toArray/\∃us,Pairs knd l us/\dm Z kvs us:=by
 have:∀{l:List DictEntry}{kvs:List (K×V)},f9 Z w.params (cD tv kvs) l->(∀e∈l,∃k,knd.is k e.key=true/\e.hash=knd.hash k)/\∃us,Pairs knd l us/\dm Z kvs us:=by
  intro l kvs
  induction kvs generalizing l with
  |nil=>intro h;cases h;exact(dc (λe h=>by cases h) ([]) .nil .nil)
  |cons p kvs ih=>
   intro h
   lk
   obtain⟨k,x⟩:=p;have h:f9 Z w.params ((tv k,x)::cD tv kvs) l:=h
   lk
   cases h with
   |cons i j r=>
    lk
    refine bW (ih r) λh1 us h2 h3=>?_;have hk:=(T.is _ _ _).mp i;refine(dc (λe he=>?_) _ (.cons hk rfl h2) (.cons j h3))
    lk
    cases he with
    |head=>exact(ah k hk (T.hash k))
    |tail _ he=>exact h1 e he
 intro kvs h;obtain⟨h1,h2⟩:=this h;exact⟨λe he=>h1 e (by simpa using he),h2⟩
theorem f9.M5(T:KV w knd tv){l:List DictEntry}{us:List (K×Value)}(hp:Pairs knd l us):∀{kvs:List (K×V)},dm Z kvs us->(∀e∈l,∃k,knd.is k e.key=true/\e.hash=knd.hash k)->f9 Z w.params (cD tv kvs) l:=by
 induction hp with
 |nil=>intro kvs h _;cases h;exact .nil
 |@cons e kv es us h1 h2 _ ih=>
  intro kvs h hk
  cases h with
  |@cons k x v r us i q=>refine ai (hk e (.head _)) λk' h3 h4=>?_;have:=knd.inj _ _ _ h1 h3;subst this;obtain⟨eh,ek,ev⟩:=e;have h2:ev=v:=h2;subst h2;have h4:eh=_:=h4;subst h4;rw[←T.hash];exact .cons ((T.is _ _ _).mpr h1) i (ih q λe he=>hk e (.tail _ he))
theorem C8(T:KV w knd tv){kvs:List (K×V)}:((cD tv kvs).map (·.1)).Nodup↔(kvs.map (·.1)).Nodup:=by
 have:(cD tv kvs).map (·.1)=(kvs.map (·.1)).map tv:=by unfold cD;rw[map_map,map_map];rfl
 rw[this];constructor
 ·exact λh=>(List.pairwise_map.mp h).imp λa e=>a (congrArg tv e)
 ·exact λh=>List.pairwise_map.mpr (h.imp λa e=>a (T.inj _ _ e))
theorem kN{G:Gd}(T:KV w knd tv)(hw:G.w=w){h:Heap}{d:Addr}{kvs:List (K×V)}{n:Nat}(ho:h.get? d=some o)(hp:(P0.dict (cD tv kvs) n).is Z G.w.params o):∃us,dm Z kvs us/\h.DictOf knd d us/\h.DictAt knd d us n:=by
 subst hw
 lk
 refine bW hp λgA l aw hd=>?_;subst aw;refine bW (hd.pairs T) λh1 us h2 h3=>?_;have hn:(us.map (·.1)).Nodup:=by rw[h3.keys];exact(C8 T).mp gA
 exact(cz us h3 (Bw _ _ _ ho (bj rfl rfl rfl) rfl h1 (by simpa using h2) hn) ⟨_,_,ho,bj rfl rfl rfl,rfl,h1,by simpa using h2,hn⟩)
theorem sV{G:Gd}(T:KV w knd tv)(hw:G.w=w){h:Heap}{d:Addr}{kvs:List (K×V)}{us:List (K×Value)}(hd:h.DictOf knd d us)(hu:dm Z kvs us):∃o n,h.get? d=some o/\(P0.dict (cD tv kvs) n).is Z G.w.params o:=by
 lk
 subst hw
 lk
 refine sT hd λo es ep ho hx nE hk hp hn=>?_;refine⟨o,ep,ho,(C8 T).mpr (by rw[←hu.keys];exact hn),es.toList,?_,.M5 T hp hu λe he=>hk e (by simpa using he)⟩;obtain⟨c,d,dt,sl⟩:=o;obtain⟨h1,h2,h3⟩:=hx;have h1:c=_:=h1;have h2:d=_:=h2;have h3:sl=_:=h3;have nE:dt=_:=nE;subst h1 h2 h3 nE
 rfl
end
section
variable{C:Cx}{L:HL}{Q:VP}{E:HP}{a d:Addr}{xs:List V}{v:V}
theorem jq{G K A Z H s c:_}(B:Bs G K)(S:au G A Z L H s)(h:ap L d (.p c)):(d==sysModules)=false:=by refine xE B.Rn λo ho=>?_;have hz:=(S.cell h).1;refine ai S λU U S=>?_;have:=S.base _ _ ho;refine beq_eq_false_iff_ne.mpr λe=>?_;rw[e,this] at hz;cases hz
theorem ax.xW{id:String}{name:Str}{Q:V×List V->HP}(h:ap L a (.list xs))(slot:Slot "list" name id)(ty:typeOf (.builtin id)=pure (.type "method_descriptor"))(q:Q (.bi id,[.ref a]) L):ax C (.ref a) name L Q E:=⟨λA Z H x pl hR hx=>by
 lk
 obtain rfl:=hx.ce;refine .mk λs S=>?_
 lk
 refine dI (S.cell h) λU o ho ws n aN hw=>?_;subst aN;exact getMethod_builtin (ah _ ho rfl) PySem.F.plainAttrs_list slot ty (λb e=>by cases e;exact(ah _ ho rfl)) (PQ.mk' S ⟨.bi,.one .ref⟩ q)⟩
theorem ax.Fc{id:String}{name:Str}{es:List (V×V)}{n:Nat}{Q:V×List V->HP}(h:ap L a (.dict es n))(slot:Slot "dict" name id)(ty:typeOf (.builtin id)=pure (.type "method_descriptor"))(q:Q (.bi id,[.ref a]) L):ax C (.ref a) name L Q E:=⟨λA Z H x pl hR hx=>by
 lk
 obtain rfl:=hx.ce;refine .mk λs S=>?_
 lk
 refine to (S.cell h) λU o ho U l aN U=>?_;subst aN;exact getMethod_builtin (ah _ ho rfl) PySem.F.plainAttrs_dict slot ty (λb e=>by cases e;exact(ah _ ho rfl)) (PQ.mk' S ⟨.bi,.one .ref⟩ q)⟩
variable{K:Type}[DecidableEq K]{knd:KeyKind aH C.G.w K}{tv:K->V}{kvs:List (K×V)}{n:Nat}{k:K}
theorem a_.dk(T:KV C.G.w knd tv)(h:ap L d (.dk tv kvs n))(hx:bL kvs k=some v)(q:Q v L):a_ C (.ref d) (tv k) L Q E:=⟨λA Z H x y value slice hR cr hy hs=>by
 lk
 obtain rfl:=cr.ce;obtain⟨em,hs⟩:=hs;refine .mk λs S=>?_
 lk
 refine bW (S.cell h) λU o ho hp=>?_;refine dD (kN T rfl ho hp) λus hu hd U=>?_;have hg:=hu.get k;rw[hx] at hg
 lk
 refine ai hg λu h1 h2=>?_;exact tail_any (T:="dict") (hd.mapOf.typeIs) slot_dict_getitem.lookup (wpAny_getItem_of ((T.is _ _ _).mp hy) hd.mapOf h1 (PQ.mk' S.toks h2 q)) hs⟩
theorem dC.dk{L':Nat->HL}{Q:HP}(T:KV C.G.w knd tv)(h:∀n',bK L d (.dk tv kvs n) (.dk tv (df kvs k v) n') (L' n'))(hl:kvs.length<1000000)(q:∀n',Q (L' n')):dC C (.ref d) (tv k) v L Q E:=⟨λA Z H x y z hR hx hy hz=>by
 lk
 obtain rfl:=hx.ce;refine .mk λs S=>?_
 lk
 refine bW (S.cell (h 0).pick) λU o ho hp=>?_;refine dD (kN T rfl ho hp) λus hu hd U=>?_;refine wpAny_setItem_pairs (hsz:=by rw[hu.len,sizeLine_eq];exact aa f8 hl) ((T.is _ _ _).mp hy) hd λh' ei hs=>?_
 lk
 refine dn (sV T rfl ei (hu.set hz)) λo' n' cI iM=>?_;exact PQ.mk' (x:=()) (S.put (h n') hs cI iM _) rfl (q n')⟩
theorem aV.inD(B:Bs C.G C.K)(T:KV C.G.w knd tv)(h:ap L d (.dk tv kvs n))(q:Q (.bool (bL kvs k).isSome) L):aV C .In (tv k) (.ref d) L Q E:=⟨λA Z H x y hR hx hy=>by
 lk
 obtain rfl:=hy.ce;refine .mk λs S=>?_
 lk
 refine bW (S.cell h) λU o ho hp=>?_;refine dD (kN T rfl ho hp) λus hu hd U=>?_;have hg:=hu.get k;refine wpAny_in_of ((T.is _ _ _).mp hx) (jq B S h) hd.mapOf (PQ.mk' S.toks (x:=.bool (bL kvs k).isSome) ?_ q)
 cases im:bL kvs k with
 |none=>rw[im] at hg;rw[show valueAt us k=none from hg];exact .bool
 |some x=>rw[im] at hg;obtain⟨u,h1,_⟩:=hg;rw[h1];exact .bool⟩
theorem aV.D7(B:Bs C.G C.K)(T:KV C.G.w knd tv)(h:ap L d (.dk tv kvs n))(q:Q (.bool (!(bL kvs k).isSome)) L):aV C .NotIn (tv k) (.ref d) L Q E:=⟨λA Z H x y hR hx hy=>by
 lk
 obtain rfl:=hy.ce;refine .mk λs S=>?_
 lk
 refine bW (S.cell h) λU o ho hp=>?_;refine dD (kN T rfl ho hp) λus hu hd U=>?_;have hg:=hu.get k;refine wpAny_notIn_of ((T.is _ _ _).mp hx) (jq B S h) hd.mapOf (PQ.mk' S.toks (x:=.bool (!(bL kvs k).isSome)) ?_ q)
 cases im:bL kvs k with
 |none=>rw[im] at hg;rw[show valueAt us k=none from hg];exact .bool
 |some x=>rw[im] at hg;obtain⟨u,h1,_⟩:=hg;rw[h1];exact .bool⟩
theorem br.getD(B:Bs C.G C.K)(T:KV C.G.w knd tv)(h:ap L d (.dk tv kvs n))(q:Q ((bL kvs k).getD .none) L):br C "dict.get" [.ref d,tv k] L Q E:=⟨λA Z H vs hR hv=>by
 lk
 obtain⟨i,r⟩:=hv.e7
 lk
 cases r with|cons j r=>
 lk
 obtain rfl:=r.dN
 lk
 obtain rfl:=i.ce;refine .mk λs S=>?_
 lk
 refine bW (S.cell h) λU o ho hp=>?_;refine dD (kN T rfl ho hp) λus hu hd U=>?_;have hg:=hu.get k;refine call_meetsIn PySem.F.slot_dict_get hd.mapOf.typeIs PySem.F.entry_dict_get (PySem.F.args_dict_get_2 _ _) (meets_dict_get knd d ((T.is _ _ _).mp j) (jq B S h)) (ah _ hd.mapOf (PQ.mk' S.toks (x:=(bL kvs k).getD .none) ?_ q))
 cases im:bL kvs k with
 |none=>rw[im] at hg;rw[show valueAt us k=none from hg];exact .none
 |some x=>rw[im] at hg;obtain⟨u,h1,h2⟩:=hg;rw[h1];exact h2⟩
theorem dm.without{us:List (K×Value)}(h:dm Z kvs us)(k:K):dm Z (pp kvs k) (PySem.without us k):=by
 induction h with
 |nil=>exact .nil
 |@cons k' x v r us i _ ih=>
  refine(?_:dm Z (filter _ (_::_)) (filter _ (_::_)));rw[filter_cons,filter_cons];by_cases e:k'=k
  ·simp[e];simpa [pp,PySem.without] using ih
  ·simp[e];exact .cons i (by simpa [pp,PySem.without] using ih)
theorem br.RU{L':Nat->HL}(T:KV C.G.w knd tv)(Qy:∀Z key,Is Z (tv k) key->(keyPart key).isSome=true)(h:∀n',bK L d (.dk tv kvs n) (.dk tv (pp kvs k) n') (L' n'))(hl:kvs.length<1000000)(hx:bL kvs k=some v)(q:∀n',Q v (L' n')):br C "dict.pop" [.ref d,tv k] L Q E:=⟨λA Z H vs hR hv=>by
 lk
 obtain⟨i,r⟩:=hv.e7
 lk
 cases r with|cons j r=>
 lk
 obtain rfl:=r.dN
 lk
 obtain rfl:=i.ce;refine .mk λs S=>?_
 lk
 refine bW (S.cell (h 0).pick) λU o ho hp=>?_;refine dD (kN T rfl ho hp) λus hu hd U=>?_;have hg:=hu.get k;rw[hx] at hg
 lk
 refine ai hg λu h1 h2=>?_;refine call_meetsIn PySem.F.slot_dict_pop hd.mapOf.typeIs PySem.F.entry_dict_pop (PySem.F.args_dict_pop_2 _ _) (meets_dict_pop_there knd d ((T.is _ _ _).mp j) [] (.inl rfl) (Qy Z _ j)) (jo us u hd (by rw[hu.len,sizeLine_eq];exact aa f8 hl) h1 (λh' ei hs=>?_))
 lk
 refine dn (sV T rfl ei (hu.without k)) λo' n' cI iM=>?_;exact PQ.mk' (S.put (h n') hs cI iM _) h2 (q n')⟩
end
section
variable{w:World}{A:Around}{E:VS}{s:Shared}
theorem Lj{it d:Addr}{i ep:Nat}{o:Obj}{es:Array DictEntry}{od:Obj}(ho:s.heap.get? it=some o)(hc:o.cls=.type "dict_keyiterator")(hd:o.data=.fields #[.ref d,.int i 0,.int es.size 0,.int ep 0])
  (fT:s.heap.get? d=some od)(rU:od.data=.dict es ep)(hh:A.handled=none){Q:Option Value->SP}
  (hs:∀e h',es[i]?=some e->h'.get? it=some (o.mapFields (·.setIfInBounds 1 (rawInt ((i:Int)+1))))->SameBut it s.heap h'->Q (some e.key) {s with heap:=h'})
  (hn:∀h',es[i]?=none->ExtBut it s.heap h'->Q none {s with heap:=h'}):
  wpAny (model aH w) A (pyNext (.ref it)) Q E s:=by
 have eV:s.TypeIs (.ref it) "dict_keyiterator":=(ah o ho hc)
 refine wpAny_bind (wpAny_attempt (wpAny_callSpecial?_slot (name:=Str.ofString "__next__") eV PySem.F.slot_dict_keyiterator_next
  (wpAny_call_entry PySem.F.slot_dict_keyiterator_next eV PySem.F.entry_dict_keyiterator_next ?_ (PySem.F.args_dict_keyiterator_next_1 _))))
 refine wpAny_bind (wP ?_);refine wpAny_bind ?_;refine wpAny_bind ?_
 first|refine wpAny_bind (wpAny_typeNameOfWhole_keyiter eV (wP ?_))|refine wpAny_bind (wpAny_typeNameOf_keyiter eV (wP ?_))
 refine wpAny_bind (wpAny_fieldsOf ho hd ?_);show wpAny _ _ (if(Value.ref d==Value.none)=true then _ else _) _ _ s;rw[if_neg (show¬((Value.ref d==Value.none)=true) from Bool.false_ne_true)];refine wpAny_bind (wP ?_);refine wpAny_bind (wpAny_dictEntries fT rU ?_);rw[if_neg (by simp)];refine wpAny_bind (wP ?_);refine wpAny_bind (wpAny_dictEpoch fT rU ?_);rw[if_neg (by simp)];refine wP ?_
 cases hx:es[i]? with
 |some e=>
  simp only[show¬((i:Int)<0) from aa rc,if_false,toNat_natCast,hx];refine wpAny_bind ?_
  first|refine wpAny_bind (wpAny_typeNameOfWhole_keyiter eV (wP ?_))|refine wpAny_bind (wpAny_typeNameOf_keyiter eV (wP ?_))
  refine wpAny_bind (wpAny_isOneOf_keyiter eV ?_);refine(?_:wpAny _ _ (setField (.ref it) 1 (rawInt ((i:Int)+1))>>=_) _ _ s);refine wpAny_bind (wpAny_setField ho hd (by simp) ?_);have hg:=v8 (·.setIfInBounds 1 (rawInt ((i:Int)+1))) ho hd;refine wpAny_bind (wpAny_holding ?_);refine wpAny_bind (wpAny_isOneOf_keyiter (s:={s with heap:=s.heap.update it (Obj.mapFields (·.setIfInBounds 1 (rawInt ((i:Int)+1))))}) (ah _ hg ((Obj.cls_mapFields ..).trans hc)) ?_);exact wP (wP (ah _ rfl (wP (hs e _ hx hg (Heap.SameBut.update ..)))))
 |none=>
  simp only[show¬((i:Int)<0) from aa rc,if_false,toNat_natCast,hx];refine wpAny_bind ?_
  first|refine wpAny_bind (wpAny_typeNameOfWhole_keyiter eV (wP ?_))|refine wpAny_bind (wpAny_typeNameOf_keyiter eV (wP ?_))
  refine(?_:wpAny _ _ (setField (.ref it) 0 .none>>=_) _ _ s);refine wpAny_bind (wpAny_setField ho hd (by simp) ?_);refine wpAny_bind ?_;refine wpAny_bind (wpAny_newObj_type ?_ (by size_fits));refine wpAny_bind (m:=firstArgMember _ _) (wpAny_of_eq (a:=Value.none) (by first|rfl|(simp only[firstArgMember];rfl)) ?_);refine wpAny_newObj_type ?_ (by size_fits);refine wpAny_bind (wpAny_handled ?_);rw[show A.in1.handled=none from hh];refine wpAny_bind (wP (wpAny_throw ?_));refine wpAny_bind (wpAny_isInstance (T:="StopIteration") (b:=true) (ah _ (get?_push_size _ rfl) rfl) isSubtype_stop ?_)
  exact wP (hn _ hx (((Heap.SameBut.update ..).extBut.push _).push _))
theorem Lk{d:Addr}{es:Array DictEntry}{ep:Nat}{od:Obj}{Q:VS}(hd:(d==sysModules)=false)(fT:s.heap.get? d=some od)(hc:od.cls=.type "dict")(rU:od.data=.dict es ep)
  (hQ:Q (.ref s.heap.objs.size) {s with heap:=s.heap.push {cls:=.type "dict_keyiterator",data:=.fields #[.ref d,.int 0 0,.int es.size 0,.int ep 0]}}):
  wpAny (model aH w) A (pyIter (.ref d)) Q E s:=by
 have hT:s.TypeIs (.ref d) "dict":=(ah od fT hc)
 refine wpAny_pyIter_slot hT PySem.F.slot_dict_iter (wpAny_call_entry PySem.F.slot_dict_iter hT PySem.F.entry_dict_iter ?_ (PySem.F.args_dict_iter_1 _));unfold Builtin.«dict.__iter__»;refine wB ?_;unfold Builtin.Dict.dictSlotNone;refine wB (wpAny_notOrdered_dict hT ?_);refine(?_:wpAny _ _ (pure (Value.ref d)) _ _ s);refine wP ?_;refine(?_:wpAny _ _ (Builtin.Dict.showsAll d>>=_) _ _ s);unfold Builtin.Dict.showsAll;rw[if_neg (by rw[hd];exact Bool.false_ne_true)];refine wB (wP ?_);refine wB (wpAny_dictEntries fT rU ?_);refine wB (wpAny_dictEpoch fT rU ?_);refine wB (wpAny_newObj_type (wP ⟨_,rfl,"dict_keyiterator",_,ah _ (get?_push_size _ rfl) rfl,PySem.F.slot_dict_keyiterator_next.lookup,?_⟩))
 exact hQ
end
theorem f9.get:∀{es:List (V×V)}{l:List DictEntry},f9 Z P es l->l.length=es.length/\∀(i:Nat) e,l[i]?=some e->∃x,es[i]?=some x/\Is Z x.1 e.key/\Is Z x.2 e.val:=by
 intro es l h
 induction h with
 |nil=>exact⟨rfl,λi e h=>by cases h⟩
 |cons i j _ ih=>
  refine⟨congrArg (· +1) ih.1,λn e h=>?_⟩
  cases n with
  |zero=>cases h;exact(cz _ rfl i j)
  |succ n=>exact ih.2 n e h
section
variable{C:Cx}{L:HL}{Q:VP}{E:HP}{d I:Addr}{es:List (V×V)}{n:Nat}
theorem jc.dict{pr:Bool}:jc pr C.G (es.map (·.1)) (λM=>ap M d (.dict es n)) I (λi=>[(I,gD "dict_keyiterator" λvs=>vs=#[.ref d,.int i 0,.int es.length 0,.int n 0])]):=⟨λA Z L H i s Q E S h=>by
 lk
 lk
 refine gK (kS S) λo fv ho hc hd aN=>?_;subst aN;exact wpAny_pyIter_keyiter (n:=es.length) (cz o ho hc hd) h,λA Z L H i s eI hh U hok S=>by
 lk
 refine gK (kS S) λo fv ho hc hd aN=>?_;subst aN
 lk
 refine to (S.cell hok) λU od fT U l aN hp=>?_;subst aN;obtain⟨hl,hg⟩:=hp.get;have hsz:l.toArray.size=es.length:=by rw[size_toArray,hl]
 refine Lj (es:=l.toArray) (ep:=n) ho hc (by rw[hsz];exact hd) fT rfl hh (λe h' hx cI hs=>?_) (λh' hx he=>⟨?_,S.pi he⟩)
 ·refine dD (hg i e (by simpa using hx)) λx h1 h2 U=>?_
  exact sG cI ((Obj.cls_mapFields ..).trans hc) (Obj.data_mapFields hd _) (by decide) (jo Z x.1 (.refl _) (by rw[getElem?_map,h1];rfl) h2
   (tG S hs cI ((Obj.cls_mapFields ..).trans hc) (Obj.data_mapFields hd _) rfl))
 ·refine getElem?_eq_none ?_;rw[length_map,←hsz];exact Array.getElem?_eq_none_iff.mp hx⟩
theorem bx.dict{pr:Bool}(B:Bs C.G C.K)(h:ap L d (.dict es n)):bx pr C (.ref d) L (es.map (·.1)) L λM=>ap M d (.dict es n):=⟨λA Z H s x hh hx S=>by
 refine av hx.ce ?_
 lk
 refine to (S.cell h) λU od fT U l aN hp=>?_;subst aN;exact Lk (jq B S h) fT rfl rfl (gI _ _ Z rfl (.refl _) .dict (tH S (by rw[(show l.toArray.size=es.length by rw[size_toArray,hp.get.1])];rfl)))⟩
end
noncomputable abbrev eG (ks:List Int):V:=.tup (ks.map .int)
abbrev Cl.dt(kvs:List (List Int×V))(n:Nat):Cl:=.dict (cD eG kvs) n
abbrev tk(w:World):=tupleKind (intKind aH w)
inductive eW(Z:Zt):List (List Int×V)->List (List Int×Addr×Value)->Prop
 |nil:eW Z [] []
 |cons{k x a v r us:_}:Is Z (eG k) (.ref a)->Is Z x v->eW Z r us->eW Z ((k,x)::r) ((k,a,v)::us)
theorem Ll{ks:List Int}{vs:LV}:aZ Z (ks.map .int) vs->ItemsAre (intKind aH w) ks vs:=by
 induction ks generalizing vs with
 |nil=>intro h;cases h;exact .nil
 |cons k ks ih=>
  intro h;have h:aZ Z (.int k::ks.map .int) vs:=h
  lk
  cases h with|cons i r=>exact .cons (((dX w).is _ _ _).mp i) (ih r)
theorem qX{s:Shared}(S:au G A Z L H s){ks:List Int}(h:Is Z (eG ks) v):∃a,v=.ref a/\(tk w).is s.heap ks a:=by refine dJ h.cy λa vs n aE hz hi=>?_;refine av aE ?_;exact(wg a rfl _ vs n (S.keep _ _ hz) rfl rfl (Ll hi))
theorem C9{w:World}(ks:List Int):xJ w.params (eG ks)=(tk w).hash ks:=by show reduceHash (Builtin.Tuple.tupleHashOf ((ks.map V.int).map _))=reduceHash (Builtin.Tuple.tupleHashOf (ks.map _));rw[map_map];rfl
noncomputable def V.items:V->List V
 |.tup xs=>xs
 |_=>[]
theorem I0{a b:List Int}(h:a.map V.int=b.map V.int):a=b:=by
 induction a generalizing b with
 |nil=>cases b with
  |nil=>rfl
  |cons=>cases h
 |cons x a ih=>cases b with
  |nil=>cases h
  |cons y b=>
   have h:V.int x::a.map .int=V.int y::b.map .int:=h;injection h with h1 h2
   cases h1
   refine(ih h2)▸?_
   rfl
theorem OS{a b:List Int}(h:eG a=eG b):a=b:=I0 (congrArg V.items h)
theorem Cf{kvs:List (List Int×V)}:((cD eG kvs).map (·.1)).Nodup↔(kvs.map (·.1)).Nodup:=by
 have:(cD eG kvs).map (·.1)=(kvs.map (·.1)).map eG:=by unfold cD;rw[map_map,map_map];rfl
 rw[this];constructor
 ·exact λh=>(List.pairwise_map.mp h).imp λa e=>a (congrArg eG e)
 ·exact λh=>List.pairwise_map.mpr (h.imp λa e=>a (OS e))
theorem eW.keys{Z kvs us}(h:eW Z kvs us):us.map (·.1)=kvs.map (·.1):=by
 induction h with
 |nil=>rfl
 |cons _ _ _ ih=>rw[map_cons,map_cons,ih]
theorem eW.len{Z kvs us}(h:eW Z kvs us):us.length=kvs.length:=by rw[←length_map (f:=(·.1)),h.keys,length_map]
theorem eW.get{Z kvs us}(h:eW Z kvs us)(k:List Int):match bL kvs k with
  |some x=>∃p,atKey us k=some p/\Is Z x p.2
  |none=>atKey us k=none:=by
 induction h with
 |nil=>rfl
 |@cons k' x a v r us _ i _ ih=>
  unfold bL atKey;simp only[find?_cons,find?_cons];by_cases e:k'=k
  ·subst e;simp only[decide_true];exact(ah (a,v) rfl i)
  ·simp only[e,decide_false];exact ih
theorem eW.set{Z kvs us}{k:List Int}{a:Addr}(h:eW Z kvs us)(hk:Is Z (eG k) (.ref a))(i:Is Z x v):eW Z (df kvs k x) (storedH us k a v):=by
 have pq:kvs.any (λp=>p.1=k)=(atKey us k).isSome:=by
  have hg:=h.get k;unfold bL at hg;rw[Bool.eq_iff_iff,List.any_eq_true];constructor
  ·intro zz;refine ai zz λp hp Tt=>?_
   cases hf:kvs.find? (λp=>decide (p.1=k)) with
   |none=>exact absurd Tt (by have:=List.find?_eq_none.mp hf p hp;exact this)
   |some q=>rw[hf] at hg;obtain⟨p',h1,_⟩:=hg;rw[h1];rfl
  ·intro hs
   lk
   cases hf:kvs.find? (λp=>decide (p.1=k)) with
   |none=>rw[hf] at hg;rw[show atKey us k=none from hg] at hs;cases hs
   |some q=>exact(ah q (List.mem_of_find?_eq_some hf) (by have:=find?_some hf;exact this))
 unfold df storedH;rw[pq]
 split<;>rename_i Fd
 ·clear pq Fd
  induction h with
  |nil=>exact .nil
  |@cons k' y b u r us j1 j2 _ ih=>
   rw[map_cons,map_cons];unfold putAt;by_cases e:k'=k
   ·simp only[e,if_true];exact .cons (e▸j1) i ih
   ·simp only[e,if_false];exact .cons j1 j2 ih
 ·clear pq Fd
  induction h with
  |nil=>exact .cons hk i .nil
  |cons j1 j2 _ ih=>exact .cons j1 j2 ih
section
variable{G:Gd}{A:Around}{Z:Zt}{L:HL}{H:bF}{s:Shared}{d:Addr}{kvs:List (List Int×V)}{n:Nat}
theorem Ln{w:World}{l:List DictEntry}:∀{kvs:List (List Int×V)},f9 Z w.params (cD eG kvs) l->∃us,l=us.map (entryOfKey (tk w))/\eW Z kvs us:=by
 intro kvs
 induction kvs generalizing l with
 |nil=>intro h;cases h;exact(ah ([]) rfl .nil)
 |cons p kvs ih=>
  intro h
  lk
  obtain⟨k,x⟩:=p;have h:f9 Z w.params ((eG k,x)::cD eG kvs) l:=h
  lk
  cases h with
  |cons i j r=>
   lk
   refine ai (ih r) λus cS hu=>?_;subst cS;refine dJ i.cy λa vs m aE hz hi=>?_;subst aE;refine(ah ((k,a,_)::us) ?_ (.cons i j hu));rw[C9];rfl
theorem eW.entries{w:World}{us}:∀{kvs:List (List Int×V)},eW Z kvs us->f9 Z w.params (cD eG kvs) (us.map (entryOfKey (tk w))):=by
 intro kvs h
 induction h with
 |nil=>exact .nil
 |cons i j _ ih=>have:=f9.cons (P:=w.params) i j ih;rw[C9] at this;exact this
theorem eW.isAll{us}(S:au G A Z L H s)(h:eW Z kvs us):∀x∈us,(tk G.w).is s.heap x.1 x.2.1:=by
 induction h with
 |nil=>intro x h;cases h
 |cons i j _ ih=>
  intro x h
  lk
  cases h with
  |head=>obtain⟨a,e,hk⟩:=qX (w:=G.w) S i;cases e;exact hk
  |tail _ h=>exact ih x h
theorem lN(S:au G A Z L H s)(h:ap L d (.dt kvs n)):∃us,eW Z kvs us/\s.heap.DictOfH (tk G.w) d us:=by
 lk
 refine to (S.cell h) λU o ho gA l aN hp=>?_;subst aN
 lk
 refine ai (Ln hp) λus cS hu=>?_;subst cS;exact⟨us,hu,_,_,_,ho,bj rfl rfl rfl,rfl,by rfl,hu.isAll S,by rw[hu.keys];exact Cf.mp gA⟩
theorem Jx{h:Heap}{us}(hd:h.DictOfH (tk G.w) d us)(hu:eW Z kvs us):∃o n,h.get? d=some o/\(P0.dict (cD eG kvs) n).is Z G.w.params o:=by
 lk
 refine sT hd λo es ep ho hx nE he U hn=>?_;refine⟨o,ep,ho,Cf.mpr (by rw[←hu.keys];exact hn),es.toList,?_,by rw[he];exact hu.entries⟩;obtain⟨c,d,dt,sl⟩:=o;obtain⟨h1,h2,h3⟩:=hx;have h1:c=_:=h1;have h2:d=_:=h2;have h3:sl=_:=h3;have nE:dt=_:=nE;subst h1 h2 h3 nE
 rfl
end
section
variable{C:Cx}{L:HL}{Q:VP}{E:HP}{d:Addr}{kvs:List (List Int×V)}{n:Nat}{k:List Int}{v:V}
theorem a_.dt(h:ap L d (.dt kvs n))(hx:bL kvs k=some v)(q:Q v L):a_ C (.ref d) (eG k) L Q E:=⟨λA Z H x y value slice hR cr hy hs=>by
 obtain rfl:=cr.ce;obtain⟨em,hs⟩:=hs;refine .mk λs S=>?_
 lk
 refine ai (lN S h) λus hu hd=>?_
 lk
 refine ai (qX (w:=C.G.w) S hy) λa cS hk=>?_;subst cS;have hg:=hu.get k;rw[hx] at hg;refine ai hg λp h1 h2=>?_;exact tail_any (T:="dict") hd.typeIs slot_dict_getitem.lookup (wpAny_getItem_heap hR.u1 hk hd h1 (PQ.mk' S.toks h2 q)) hs⟩
theorem dC.dt{L':Nat->HL}{Q:HP}(h:∀n',bK L d (.dt kvs n) (.dt (df kvs k v) n') (L' n'))(hl:kvs.length<1000000)(q:∀n',Q (L' n')):dC C (.ref d) (eG k) v L Q E:=⟨λA Z H x y z hR hx hy hz=>by
 refine av hx.ce ?_;refine .mk λs S=>?_
 lk
 refine ai (lN S (h 0).pick) λus hu hd=>?_;refine ai (qX (w:=C.G.w) S hy) λa cS hk=>?_;subst cS;refine wpAny_setItem_heap (hsz:=by rw[hu.len,sizeLine_eq];exact aa f8 hl) hR.u1 hk hd λh' ei hs=>?_;refine dn (Jx ei (hu.set hy hz)) λo' n' cI iM=>?_;exact PQ.mk' (x:=()) (S.put (h n') hs cI iM _) rfl (q n')⟩
theorem aV.OT(B:Bs C.G C.K)(h:ap L d (.dt kvs n))(q:Q (.bool (!(bL kvs k).isSome)) L):aV C .NotIn (eG k) (.ref d) L Q E:=⟨λA Z H x y hR hx hy=>by
 refine av hy.ce ?_;refine .mk λs S=>?_;refine ai (lN S h) λus hu hd=>?_;refine ai (qX (w:=C.G.w) S hx) λa cS hk=>?_;refine av cS ?_;have hg:=hu.get k;refine wpAny_notIn_heap hR.u1 hk (jq B S h) hd (PQ.mk' S.toks (x:=.bool (!(bL kvs k).isSome)) ?_ q)
 cases im:bL kvs k with
 |none=>rw[im] at hg;rw[show atKey us k=none from hg];exact .bool
 |some x=>rw[im] at hg;obtain⟨p,h1,_⟩:=hg;rw[h1];exact .bool⟩
theorem br.l9(B:Bs C.G C.K)(h:ap L d (.dt kvs n))(q:Q ((bL kvs k).getD .none) L):br C "dict.get" [.ref d,eG k] L Q E:=⟨λA Z H vs hR hv=>by
 obtain⟨i,r⟩:=hv.e7
 lk
 cases r with|cons j r=>
 obtain rfl:=r.dN;obtain rfl:=i.ce;refine .mk λs S=>?_;refine ai (lN S h) λus hu hd=>?_;refine ai (qX (w:=C.G.w) S j) λa cS hk=>?_;subst cS;have hg:=hu.get k;refine call_meetsIn PySem.F.slot_dict_get hd.typeIs PySem.F.entry_dict_get (PySem.F.args_dict_get_2 _ _) (meetsH_dict_get (tk C.G.w) d a (jq B S h)) (lP hR.u1 k us hk hd (PQ.mk' S.toks (x:=(bL kvs k).getD .none) ?_ q))
 cases im:bL kvs k with
 |none=>rw[im] at hg;rw[show atKey us k=none from hg];exact .none
 |some x=>rw[im] at hg;obtain⟨p,h1,h2⟩:=hg;rw[h1];exact h2⟩
end
section
variable{G:Gd}{A:Around}{Z:Zt}{L:HL}{H:bF}{s:Shared}
theorem au.fresh{c:P0}{o:Obj}{h':Heap}(S:au G A Z L H s)(hk:∀b o,s.heap.get? b=some o->h'.get? b=some o)(ho:h'.get? s.heap.objs.size=some o)(hc:c.is Z G.w.params o)(t:Nat):au G A Z ((s.heap.objs.size,.p c)::L) H {s with heap:=h',toks:=t}:=by
 refine ai S λl e S=>?_;have S1:=S.ext (t:=t) hk;refine(ah _ (.cons (a:=s.heap.objs.size) (c:=.p c) rfl e) ⟨S1.base,S1.keep,?_,λq hq=>?_,S.frames.mono λb ob e q=>⟨(ah ob (hk _ _ e.1) e.2),λp hp hb=>?_⟩,S1.gens,S1.os⟩)
 ·show(s.heap.objs.size::_).Nodup;refine List.nodup_cons.mpr ⟨λhm=>?_,S.nd⟩;refine ai (List.mem_map.mp hm) λp hp e=>?_;exact absurd (S.low hp) (by rw[e];exact lt_irrefl _)
 ·rcases List.mem_cons.mp hq with rfl|hq
  ·exact(dc S.gU o ho hc)
  ·exact S1.cells q hq
 ·rcases List.mem_cons.mp hp with rfl|hp
  ·exact absurd (lt_size e.1) (hb▸lt_irrefl _)
  ·exact q p hp hb
end
section
variable{C:Cx}{L L':HL}{Q:VP}{E:HP}{a b:Addr}{xs ys:List V}{v:V}
theorem br.append(h:bK L a (.list xs) (.list (xs++[v])) L')(hn:xs.length<1000000)(q:Q .none L'):br C "list.append" [.ref a,v] L Q E:=⟨λA Z H vs hR hv=>by
 obtain⟨i,r⟩:=hv.e7
 lk
 cases r with|cons j r=>
 obtain rfl:=r.dN;obtain rfl:=i.ce;refine .mk λs S=>?_
 lk
 refine dI (S.cell h.pick) λU o ho ws n aN hw=>?_;subst aN;have hl:=hw.length;rw[length_toList] at hl;refine wpAny_list_append_plain (iE n ho) (λh' hp hs=>?_) (by rw[hl,sizeLine_eq];exact aa f8 hn);refine xE hp λn' cI=>?_;exact PQ.mk' (S.put h hs cI (co _ n' rfl (by rw[Array.toList_push];exact hw.append (.one j))) s.toks) .none q⟩
theorem br.M6(h:bK L a (.list xs) (.list (v::xs)) L')(hn:xs.length<1000000)(q:Q .none L'):br C "list.insert" [.ref a,.int 0,v] L Q E:=⟨λA Z H vs hR hv=>by
 lk
 obtain⟨i,r⟩:=hv.e7
 lk
 cases r with|cons j r=>
 lk
 cases r with|@cons _ u _ _ k r=>
 obtain rfl:=r.dN;obtain rfl:=i.ce;obtain⟨_,rfl⟩:=j.e_;refine .mk λs S=>?_
 lk
 refine dI (S.cell h.pick) λU o ho ws n aN hw=>?_;subst aN;have hl:=hw.length;rw[length_toList] at hl;refine call_meets PySem.F.slot_list_insert (ah _ ho rfl) PySem.F.entry_list_insert (PySem.F.args_list_insert_3 _ _ _) (PySem.AutoSeq1.list_insert_list_int_val_1 a ws n 0 _ _ (by decide) (by rw[hl,sizeLine_eq];exact aa f8 hn)) ⟨ho,?_⟩;refine PQ.mk' (S.put h (Heap.SameBut.update ..) (IsL.update ho _) (co _ _ rfl ?_) s.toks) .none q
 have:(((ws.extract 0 (min (0:Int).toNat ws.size)).push u++ws.extract (min (0:Int).toNat ws.size)).toList)=u::ws.toList:=by simp
 show aZ Z (v::xs) ((ws.extract 0 (min (0:Int).toNat ws.size)).push u++ws.extract (min (0:Int).toNat ws.size)).toList;rw[this];exact .cons k hw⟩
theorem bd.Fe(h:ap L b (.list xs))(hn:xs.length<1000000)(q:∀a,Q (.ref a) ((a,.list xs)::L)):bd C "list" [.ref b] L Q E:=⟨λA Z H vs hR hv=>by
 obtain⟨i,r⟩:=hv.e7;refine av r.dN ?_;refine av i.ce ?_;refine .mk λs S=>?_
 lk
 refine dI (S.cell h) λU o ho ws n aN hw=>?_;subst aN;have hl:=hw.length;rw[length_toList] at hl;exact call_list_seq (hsz:=by rw[hl,sizeLine_eq];exact aa f8 hn) b (.inl rfl) ho rfl rfl λh' c' hk hD=>PQ.mk' (S.fresh (c:=.list xs) hk hD (co ws c' rfl hw) s.toks) .ref (q _)⟩
theorem ints_of{ns:List Int}{vs:LV}:aZ Z (ns.map .int) vs->IntsAre vs ns:=by
 induction ns generalizing vs with
 |nil=>intro h;cases h;exact .nil
 |cons n ns ih=>
  intro h;have h:aZ Z (.int n::ns.map .int) vs:=h
  lk
  cases h with|cons i r=>cases i;exact .cons _ _ (ih r)
theorem Kq:∀{l₁ l₂:List V}{x:V}{vs:LV},aZ Z (l₁++x::l₂) vs->aZ Z (l₁++l₂) (vs.eraseIdx l₁.length):=by
 intro l₁
 induction l₁ with
 |nil=>intro l₂ x vs h;cases h with|cons i r=>exact r
 |cons y l₁ ih=>intro l₂ x vs h;cases h with|cons i r=>exact .cons i (ih r)
theorem br.wX{ns:List Int}{k:Int}(h:bK L a (.list (ns.map .int)) (.list ((ns.erase k).map .int)) L')(hm:k∈ns)(hn:ns.length<1000000)(q:Q .none L'):br C "list.remove" [.ref a,.int k] L Q E:=⟨λA Z H vs hR hv=>by
 lk
 obtain⟨i,r⟩:=hv.e7
 lk
 cases r with|cons j r=>
 obtain rfl:=r.dN;obtain rfl:=i.ce
 lk
 cases j with|@int _ t=>
 refine .mk λs S=>?_
 lk
 refine dI (S.cell h.pick) λU o ho ws n aN hw=>?_;subst aN;have hl:=hw.length;rw[length_toList,length_map] at hl
 lk
 refine j0 (List.exists_erase_eq hm) λl₁ l₂ h1 h2 h3=>?_;rw[h3] at h;subst h2
 have mC:∀(m:Nat)(hm:m<ws.size),isInt k ws[m]=((l₁++k::l₂)[m]'(by omega)==k):=λm hm=>by
  refine ai (hw.get (x:=.int ((l₁++k::l₂)[m]'(aa kr hl hm))) (i:=m) (by rw[getElem?_map,gE (by exact aa kr hl hm)];rfl)) λu hu hz=>?_;have:ws[m]=u:=by rw[getElem?_toList,Array.getElem?_eq_getElem hm] at hu;exact Option.some.inj hu
  refine(this)▸?_
  lk
  cases hz;rfl
 have hj:l₁.length<ws.size:=by rw[hl,length_append,length_cons];exact aa ⟨2,0,[],.tn .v0 (.a .v0 (.aj 1 1))⟩
 refine call_meets PySem.F.slot_list_remove (ah _ ho rfl) PySem.F.entry_list_remove (PySem.F.args_list_remove_2 _ _)
  (MeetsSeq.list_remove a ws n (.int k t) (isInt k) (λy hy=>eq_isInt k t (ints_of hw) y (by simpa using hy)) l₁.length hj ?_ ?_ (by rw[hl,sizeLine_eq];exact aa f8 hn)) ⟨ho,?_⟩
 ·rw[mC _ hj,List.getElem_append_right (Nat.le_refl _)];simp
 ·intro m hm aT;rw[mC m hm,List.getElem_append_left aT];exact beq_eq_false_iff_ne.mpr λe=>h1 (e▸getElem_mem _)
 ·refine PQ.mk' (S.put h (Heap.SameBut.update ..) (IsL.update ho _) (co _ _ rfl ?_) s.toks) .none q;simp only[Array.toList_eraseIdxIfInBounds,map_append];rw[map_append,map_cons] at hw;have:=Kq hw;rwa [length_map] at this⟩
theorem da.RV(ha:ap L a (.list xs))(hb:ap L b (.list ys))(hn:xs.length+ys.length<1000000)(q:∀d,Q (.ref d) ((d,.list (xs++ys))::L)):da C .Add (.ref a) (.ref b) L Q E:=⟨λA Z H x y hR hx hy=>by
 refine av hx.ce ?_;refine av hy.ce ?_;refine .mk λs S=>?_
 lk
 refine dI (S.cell ha) λU o ho ws n aN hw=>?_;subst aN
 lk
 refine dI (S.cell hb) λU o2 dM eN n2 aN eO=>?_;subst aN;have hl:=hw.length;have gF:=eO.length;rw[length_toList] at hl gF;refine concat_meets (ah _ ho rfl) (ah _ dM rfl) noFill_list_add seq_list_add PySem.F.slot_list_add PySem.F.entry_list_add (PySem.F.args_list_add_2 _ _) (list_addW a b ws eN n n2 none none #[] #[] (by rw[hl,gF,sizeLine_eq];exact aa yn hn)) (bj ho dM ?_);exact PQ.mk' (S.new (c:=.list (xs++ys)) rfl (co (ws++eN) 0 rfl (by rw[toList_append];exact hw.append eO)) s.toks) .ref (q _)⟩
theorem da.GE{b c:By}(hn:b.length+c.length<1000000)(q:Q (.bytes (b++c)) L):da C .Add (.bytes b) (.bytes c) L Q E:=⟨λA Z H x y hR hx hy=>by obtain⟨_,rfl⟩:=hx.kQ;obtain⟨_,rfl⟩:=hy.kQ;refine .mk λs S=>?_;refine KBy.add_bytes (by rw[size_toArray,size_toArray];exact aa yn hn) λt' k=>PQ.mk' S.toks (x:=.bytes (b++c)) ?_ q;rw[List.append_toArray];exact .bytes⟩
theorem da.RW(h1:xs≠[])(h2:ys≠[])(hn:xs.length+ys.length<1000000)(q:Q (.tup (xs++ys)) L):da C .Add (.tup xs) (.tup ys) L Q E:=⟨λA Z H x y hR hx hy=>by
 lk
 refine dJ hx.cy λa ws n aE hz hw=>?_;subst aE;refine dJ hy.cy λb eN n2 aE jM eO=>?_;subst aE;refine .mk λs S=>?_;have hl:=hw.length;have gF:=eO.length;rw[length_toList] at hl gF
 have e1:∀{xs:List V}{ws:Array Value},xs≠[]->ws.size=xs.length->¬ws.isEmpty=true:=λ{xs ws} h e h'=>by
  have:ws.size=0:=by simpa using h'
  exact h (List.eq_nil_of_length_eq_zero (aa ⟨2,0,[.aA 0 1,.d7 0 0],.d7 1 0⟩ e this))
 have le:=Zt.lQ Z (o:=gL (ws++eN) 0) S.gU;exact PySem.P.add_tuple (hsz:=by rw[hl,gF,sizeLine_eq];exact aa yn hn) (S.keep _ _ hz) (S.keep _ _ jM) (e1 h1 hl) (e1 h2 gF) (PQ.lu le (S.lr rfl s.toks) (.o3 (n:=0) (Zt.mY ..) (by rw[toList_append];exact(hw.append eO).mono le)) q)⟩
end
section
open PySem.SeqAt (EqAt RcAt RcNeAt)
noncomputable def Pl:Nat->V->Prop
 |n+1,.tup xs=>∀x∈xs,Pl n x
 |_,.none=>True
 |_,.bool _=>True
 |_,.int _=>True
 |_,.str _=>True
 |_,.bytes _=>True
 |_,_=>False
theorem Pl.cases{n:Nat}{x:V}(h:Pl n x){P:V->Prop}(h1:P .none)(h2:∀b,P (.bool b))(h3:∀i,P (.int i))(h4:∀s,P (.str s))(h5:∀b,P (.bytes b))(h6:∀m xs,n=m+1->(∀x∈xs,Pl m x)->P (.tup xs)):P x:=by
 lk
 cases x with
 |none=>exact h1
 |bool=>exact h2 _
 |int=>exact h3 _
 |str=>exact h4 _
 |bytes=>exact h5 _
 |tup xs=>
  cases n with
  |zero=>exact(show False from h).elim
  |succ m=>exact h6 m xs rfl h
 |_=>cases n<;>exact(show False from h).elim
section
variable{Z:Zt}{s:Shared}
theorem qp(n:Nat):(List.range n).all (λU=>true)=true:=List.all_eq_true.mpr λU U=>rfl
theorem Cg{xs:List V}{ws eN:Array Value}(hw:aZ Z xs ws.toList)(eO:aZ Z xs eN.toList):ws.size=eN.size/\∀j(h1:j<ws.size)(h2:j<eN.size),∃x,x∈xs/\Is Z x ws[j]/\Is Z x eN[j]:=by
 have hl:=hw.length;have gF:=eO.length;rw[length_toList] at hl gF;refine⟨aa ⟨3,0,[.aA 0 1,.aA 2 1],.aA 0 2⟩ hl gF,λj h1 h2=>?_⟩;have hx:=gE (l:=xs) (i:=j) (aa kr hl h1)
 lk
 refine ai (hw.get hx) λu hu i=>?_
 lk
 refine ai (eO.get hx) λv hv k=>?_;rw[getElem?_toList,Array.getElem?_eq_getElem h1] at hu;rw[getElem?_toList,Array.getElem?_eq_getElem h2] at hv
 lk
 cases hu;cases hv
 exact(cz _ (getElem_mem _) i k)
theorem C'(hk:∀b o,Z b=some o->s.heap.get? b=some o){n:Nat}(ih:∀m,n=m+1->∀{x:V},Pl m x->∀{A:Around}{u v:Value},Is Z x u->Is Z x v->A.units+m<cLine->EqAt A s u v true){x:V}(h:Pl n x){A:Around}{u v:Value}(hA:A.units+n<cLine):
  Is Z x u->Is Z x v->EqAt A s u v true:=by
 refine h.cases (P:=λx=>Is Z x u->Is Z x v->EqAt A s u v true) ?_ ?_ ?_ ?_ ?_ ?_
 ·intro hu hv;cases hu;cases hv;exact .same _
 ·intro b hu hv;cases hu;cases hv;exact .same _
 ·intro i hu hv;cases hu with|@int _ t1=>cases hv with|@int _ t2=>
  have:=EqAt.int_int (A:=A) (s:=s) i t1 i t2;rwa [beq_self_eq_true] at this
 ·intro i hu hv;cases hu with|@str _ t1=>cases hv with|@str _ t2=>
  have:=EqAt.str_str (A:=A) (s:=s) i t1 i t2;rwa [beq_self_eq_true] at this
 ·intro i hu hv;cases hu;cases hv;exact λprog w E Q hq=>eqBool_bytes (by rw[decide_eq_true rfl];exact hq)
 ·intro m xs e RX hu hv;refine dJ hu.cy λa ws k1 aE hz hw=>?_;refine av aE ?_;refine dJ hv.cy λb eN k2 aE jM eO=>?_;refine av aE ?_;by_cases vq:a=b
  ·subst vq;exact .same _
  ·refine xA (Cg hw eO) λhs hi=>?_
   have:=RcAt.tuples (A:=A) (s:=s) (e:=λU=>true) (eA _ (hk _ _ hz) rfl k1 rfl) (eA _ (hk _ _ jM) rfl k2 rfl) (aa ⟨3,0,[.tn (.cA 0 1) .v2],.bg 0 2⟩ hA) λj h1 h2=>by refine dD (hi j h1 h2) λx hx p q=>?_;exact ih m e (RX x hx) p q (by show A.units+1+m<_;exact aa ⟨4,0,[.tn (.cA 0 1) .v2,.en .v1 (.aj 3 1)],.tn (.a (.aj 0 1) .v3) .v2⟩ hA e)
   rw[qp,hs,beq_self_eq_true] at this;exact .of_refs vq this
theorem C_(hk:∀b o,Z b=some o->s.heap.get? b=some o):∀{n:Nat}{x:V},Pl n x->∀{A:Around}{u v:Value},Is Z x u->Is Z x v->A.units+n<cLine->EqAt A s u v true:=by
 intro n
 induction n with
 |zero=>intro x h A u v hu hv hA;exact C' hk (λm e=>by cases e) h hA hu hv
 |succ n ih=>intro x h A u v hu hv hA;exact C' hk (λm e=>by cases e;exact ih) h hA hu hv
theorem tc(hk:∀b o,Z b=some o->s.heap.get? b=some o){n:Nat}{xs:List V}(h:∀x∈xs,Pl n x){A:Around}{ws eN:Array Value}(hw:aZ Z xs ws.toList)(eO:aZ Z xs eN.toList)(hA:A.units+1+n<cLine):
  ws.size=eN.size/\∀j(h1:j<ws.size)(h2:j<eN.size),EqAt A.in1 s ws[j] eN[j] true:=by
 refine xA (Cg hw eO) λhs hi=>?_
 exact⟨hs,λj h1 h2=>by refine dD (hi j h1 h2) λx hx p q=>?_;exact C_ hk (h x hx) p q hA⟩
end
section
variable{C:Cx}{L:HL}{Q:VP}{E:HP}{a b:Addr}{xs ys:List V}{x:V}{n:Nat}
theorem Rm.un{A:Around}{d:Nat}(h:Rm A d){n:Nat}(hn:n<=10):A.units+1+n<cLine:=by have:=h.units;exact aa ⟨4,0,[.aS 0 10,.tn (.a (.a .v1 (.m 8 .v2)) (.k 20)) .v3],.tn (.a (.aj 1 1) .v0) .v3⟩ hn this
theorem aV.eqT(h:∀x∈xs,Pl 9 x)(q:Q (.bool true) L):aV C .Eq (.tup xs) (.tup xs) L Q E:=⟨λA Z H x y hR hx hy=>by
 lk
 refine dJ hx.cy λa ws k1 aE hz hw=>?_;subst aE;refine dJ hy.cy λb eN k2 aE jM eO=>?_;subst aE;refine .mk λs S=>?_;obtain⟨hs,hi⟩:=tc S.keep h hw eO (hR.un (by decide));have:=RcAt.tuples (A:=A) (s:=s) (e:=λU=>true) (eA _ (S.keep _ _ hz) rfl k1 rfl) (eA _ (S.keep _ _ jM) rfl k2 rfl) hR.u0 hi;rw[qp,hs,beq_self_eq_true] at this;exact this _ _ _ _ (PQ.mk' S .bool q)⟩
theorem aV.neT(h:∀x∈xs,Pl 9 x)(q:Q (.bool false) L):aV C .NotEq (.tup xs) (.tup xs) L Q E:=⟨λA Z H x y hR hx hy=>by
 lk
 refine dJ hx.cy λa ws k1 aE hz hw=>?_;subst aE;refine dJ hy.cy λb eN k2 aE jM eO=>?_;subst aE;refine .mk λs S=>?_;obtain⟨hs,hi⟩:=tc S.keep h hw eO (hR.un (by decide));have:=RcNeAt.tuples (A:=A) (s:=s) (e:=λU=>true) ⟨_,S.keep _ _ hz,rfl,k1,rfl⟩ ⟨_,S.keep _ _ jM,rfl,k2,rfl⟩ hR.u0 hi;rw[qp,hs,beq_self_eq_true] at this;exact this _ _ _ _ (PQ.mk' S .bool q)⟩
theorem aV.zC(ha:ap L a (.list xs))(hb:ap L b (.list xs))(h:∀x∈xs,Pl 9 x)(q:Q (.bool true) L):aV C .Eq (.ref a) (.ref b) L Q E:=⟨λA Z H x y hR hx hy=>by
 lk
 cases hx;cases hy
 refine .mk λs S=>?_
 lk
 refine dI (S.cell ha) λU o ho ws k1 aN hw=>?_;subst aN
 lk
 refine dI (S.cell hb) λU o2 dM eN k2 aN eO=>?_;subst aN;obtain⟨hs,hi⟩:=tc S.keep h hw eO (hR.un (by decide));have:=RcAt.lists (A:=A) (s:=s) (e:=λU=>true) (eA _ ho rfl k1 rfl) (eA _ dM rfl k2 rfl) hs hR.u0 hi;rw[qp] at this;exact this _ _ _ _ (PQ.mk' S .bool q)⟩
theorem aV.zD(ha:ap L a (.list xs))(hb:ap L b (.list xs))(h:∀x∈xs,Pl 9 x)(q:Q (.bool false) L):aV C .NotEq (.ref a) (.ref b) L Q E:=⟨λA Z H x y hR hx hy=>by
 lk
 cases hx;cases hy
 refine .mk λs S=>?_
 lk
 refine dI (S.cell ha) λU o ho ws k1 aN hw=>?_;subst aN
 lk
 refine dI (S.cell hb) λU o2 dM eN k2 aN eO=>?_;subst aN;obtain⟨hs,hi⟩:=tc S.keep h hw eO (hR.un (by decide));have:=RcNeAt.lists (A:=A) (s:=s) (e:=λU=>true) (eA _ ho rfl k1 rfl) (eA _ dM rfl k2 rfl) hs hR.u0 hi;rw[qp] at this;exact this _ _ _ _ (PQ.mk' S .bool q)⟩
theorem aV.Ff(ha:ap L a (.list xs))(hb:ap L b (.list ys))(h:xs.length≠ys.length)(q:Q (.bool false) L):aV C .Eq (.ref a) (.ref b) L Q E:=⟨λA Z H x y hR hx hy=>by
 lk
 cases hx;cases hy
 refine .mk λs S=>?_
 lk
 refine dI (S.cell ha) λU o ho ws k1 aN hw=>?_;subst aN
 lk
 refine dI (S.cell hb) λU o2 dM eN k2 aN eO=>?_;subst aN;have hl:=hw.length;have gF:=eO.length;rw[length_toList] at hl gF;exact RcAt.lists_lengths (A:=A) (s:=s) (eA _ ho rfl k1 rfl) (eA _ dM rfl k2 rfl) (by simp;exact aa ⟨4,0,[.no (.aA 0 1),.aA 2 0,.aA 3 1],.no (.aA 2 3)⟩ h hl gF) hR.u0 _ _ _ _ (PQ.mk' S .bool q)⟩
theorem aV.eqB{b c:By}(q:Q (.bool (b==c)) L):aV C .Eq (.bytes b) (.bytes c) L Q E:=⟨λA Z H x y hR hx hy=>by
 lk
 cases hx;cases hy
 exact .mk λs S=>eq_bytes (PQ.mk' S (x:=.bool (b==c)) .bool q)⟩
theorem aV.Tu{b c:By}(q:Q (.bool (b != c)) L):aV C .NotEq (.bytes b) (.bytes c) L Q E:=⟨λA Z H x y hR hx hy=>by
 lk
 cases hx;cases hy
 exact .mk λs S=>ne_bytes (PQ.mk' S (x:=.bool (b != c)) .bool q)⟩
theorem aV.zE{b c:Str}(q:Q (.bool (!(b==c))) L):aV C .NotEq (.str b) (.str c) L Q E:=⟨λA Z H x y hR hx hy=>by
 lk
 cases hx;cases hy
 exact .mk λs S=>RcNeAt.str_str (A:=A) (s:=s) b _ c _ _ _ _ _ (PQ.mk' S .bool q)⟩
noncomputable def kg (k:Str):List V->Option Bool
 |[]=>some false
 |.str i::r=>(kg k r).map ((i==k)||·)
 |_::_=>none
noncomputable def nG (k:Int):List V->Option Bool
 |[]=>some false
 |.int i::r=>(nG k r).map ((i==k)||·)
 |_::_=>none
theorem wx(k:Int)(ns:List Int):nG k (ns.map .int)=some (ns.any (· ==k)):=by
 induction ns with
 |nil=>rfl
 |cons n ns ih=>show(nG k (ns.map .int)).map _=_;rw[ih];rfl
theorem Da:∀{xs:List V}{b:Bool}{vs:LV},kg k xs=some b->aZ Z xs vs->∃ss,StrsAre vs ss/\b=ss.any (· ==k):=by
 intro xs
 induction xs with
 |nil=>intro b vs h hv;cases h;cases hv;exact(ah ([]) .nil rfl)
 |cons x xs ih=>
  intro b vs h hv
  lk
  cases hv with|cons i r=>
  cases i with
  |str=>refine ai (Option.map_eq_some_iff.mp (show(kg k xs).map _=some b from h)) λc hc aw=>?_;subst aw;refine ai (ih hc r) λss h1 aw=>?_;subst aw;exact(ah (_::ss) (.cons _ _ h1) rfl)
  |_=>cases h
theorem Db{k:Int}:∀{xs:List V}{b:Bool}{vs:LV},nG k xs=some b->aZ Z xs vs->∃ss,IntsAre vs ss/\b=ss.any (· ==k):=by
 intro xs
 induction xs with
 |nil=>intro b vs h hv;cases h;cases hv;exact(ah ([]) .nil rfl)
 |cons x xs ih=>
  intro b vs h hv
  lk
  cases hv with|cons i r=>
  cases i with
  |int=>refine ai (Option.map_eq_some_iff.mp (show(nG k xs).map _=some b from h)) λc hc aw=>?_;subst aw;refine ai (ih hc r) λss h1 aw=>?_;subst aw;exact(ah (_::ss) (.cons _ _ h1) rfl)
  |_=>cases h
theorem tI(p:Value->Bool)(ws:Array Value):ws.any p=ws.toList.any p:=by rw[←any_toList]
theorem any_ints(k:Int){vs:LV}{ns:List Int}(h:IntsAre vs ns):vs.any (isInt k)=ns.any (· ==k):=by
 induction h with
 |nil=>rfl
 |cons n t _ ih=>rw[any_cons,any_cons,ih];rfl
theorem aV.fP{r:Bool}(h:kg k xs=some r)(q:Q (.bool r) L):aV C .In (.str k) (.tup xs) L Q E:=⟨λA Z H x y hR hx hy=>by
 obtain⟨_,rfl⟩:=hx.rn
 lk
 refine dJ hy.cy λa ws k1 aE hz hw=>?_;subst aE
 lk
 refine ai (Da h hw) λss h1 aw=>?_;subst aw;refine .mk λs S=>SeqRoads2.in_tuple (isStrOf k) (λy hy=>eq_isStrOf k _ h1 y (by simpa using hy)) (S.keep _ _ hz) ?_;rw[tI,any_isStrOf k h1];exact PQ.mk' S .bool q⟩
theorem aV.M7{r:Bool}(hp:ap L a (.list xs))(h:kg k xs=some r)(q:Q (.bool (!r)) L):aV C .NotIn (.str k) (.ref a) L Q E:=⟨λA Z H x y hR hx hy=>by
 lk
 cases hx;cases hy
 refine .mk λs S=>?_
 lk
 refine dI (S.cell hp) λU o ho ws k1 aN hw=>?_;subst aN
 lk
 refine ai (Da h hw) λss h1 aw=>?_;subst aw;refine SeqRoads2.notIn_list (isStrOf k) (λy hy=>eq_isStrOf k _ h1 y (by simpa using hy)) ho ?_;rw[tI,any_isStrOf k h1];exact PQ.mk' S .bool q⟩
theorem aV.Dc{k:Int}{r:Bool}(h:nG k xs=some r)(q:Q (.bool (!r)) L):aV C .NotIn (.int k) (.tup xs) L Q E:=⟨λA Z H x y hR hx hy=>by
 obtain⟨_,rfl⟩:=hx.e_
 lk
 refine dJ hy.cy λa ws k1 aE hz hw=>?_;subst aE
 lk
 refine ai (Db h hw) λss h1 aw=>?_;subst aw;refine .mk λs S=>SeqRoads2.notIn_tuple (isInt k) (λy hy=>eq_isInt k _ h1 y (by simpa using hy)) (S.keep _ _ hz) ?_;rw[tI,any_ints k h1];exact PQ.mk' S .bool q⟩
theorem aV.yQ{k:Int}{r:Bool}(hp:ap L a (.list xs))(h:nG k xs=some r)(q:Q (.bool r) L):aV C .In (.int k) (.ref a) L Q E:=⟨λA Z H x y hR hx hy=>by
 lk
 cases hx;cases hy
 refine .mk λs S=>?_
 lk
 refine dI (S.cell hp) λU o ho ws k1 aN hw=>?_;subst aN
 lk
 refine ai (Db h hw) λss h1 aw=>?_;subst aw;refine SeqRoads2.in_list (isInt k) (λy hy=>eq_isInt k _ h1 y (by simpa using hy)) ho ?_;rw[tI,any_ints k h1];exact PQ.mk' S .bool q⟩
end
end
section
variable{G:Gd}{A:Around}{Z:Zt}{L:HL}{H:bF}{s:Shared}{i:Addr}
theorem qI(S:au G A Z L H s)(h:ap L i (.p (fa l u t))):∃vl vu vt,s.heap.IsSliceOf i vl vu vt/\Is Z l vl/\Is Z u vu/\Is Z t vt:=by
 lk
 refine bW (S.cell h) λU o ho hp=>?_
 lk
 refine ew (hp Z (.refl _)) λvl vu vt aE h1 h2 h3=>?_;subst aE;exact(gI vl vu vt (cz _ ho rfl rfl) h1 h2 h3)
theorem oG{k:Int}(h:Is Z (.int k) v):IsPart v (some k):=by cases h;exact .int _ _
theorem lJ(h:Is Z .none v):IsPart v none:=by cases h;exact .none
theorem wy{xs:List V}{vs:LV}(n:Nat)(h:aZ Z xs vs):aZ Z (xs.take n) (vs.take n):=by
 induction h generalizing n with
 |nil=>rw[take_nil,take_nil];exact .nil
 |cons a _ ih=>cases n with
  |zero=>exact .nil
  |succ n=>exact .cons a (ih n)
theorem Lp{xs:List V}{vs:LV}(n:Nat)(h:aZ Z xs vs):aZ Z (xs.drop n) (vs.drop n):=by
 induction h generalizing n with
 |nil=>rw[drop_nil,drop_nil];exact .nil
 |cons a r ih=>cases n with
  |zero=>exact .cons a r
  |succ n=>exact ih n
theorem Dd(items:Array Value){k:Int}(h:0<=k):slicePick items none (some k) none=(items.toList.take k.toNat).toArray:=by
 have e:sliceBounds none (some k) none items.size=(((0:Nat):Int),((min k.toNat items.size:Nat):Int),1):=by simp only[sliceBounds,Option.getD_none,show(1:Int)>0 by decide,if_true,if_neg (show¬(k<0) by exact aa pN h)];rw[Sw];rfl
 simp only[kmk_pick_nat _ e,drop_zero,sub_zero,←length_toList,kmk_take_min]
end
section
variable{C:Cx}{L:HL}{Q:VP}{E:HP}{a i:Addr}{xs:List V}{k:Int}
theorem iG{lo hi st:Option Int}{ys:List V}(h:ap L a (.list xs))(zF:ap L i (.p (fa l u t)))(hn:xs.length<1000000)(h0:st≠some 0)
  (pl:∀Z v,Is Z l v->IsPart v lo)(pu:∀Z v,Is Z u v->IsPart v hi)(pt:∀Z v,Is Z t v->IsPart v st)(hy:∀Z(vs:Array Value),aZ Z xs vs.toList->aZ Z ys (slicePick vs lo hi st).toList)(q:∀d,Q (.ref d) ((d,.list ys)::L)):a_ C (.ref a) (.ref i) L Q E:=⟨λA Z H x y value slice hR hx ly hs=>by
 lk
 cases hx;cases ly
 obtain⟨em,hs⟩:=hs;refine .mk λs S=>?_
 lk
 refine dI (S.cell h) λU o ho ws n aN hw=>?_;subst aN;refine ew (qI S zF) λvl vu vt fV h1 h2 h3=>?_;have hl:=hw.length;rw[length_toList] at hl;have hL:s.heap.IsList a ws:=(eA _ ho rfl n rfl);exact tail_any hL.typeIs slot_list_getitem.lookup (wpAny_getItem_list_slice hL fV (pl Z _ h1) (pu Z _ h2) (pt Z _ h3) h0 (PQ.mk' (S.new (c:=.list ys) rfl (co _ 0 rfl (hy Z ws hw)) s.toks) .ref (q _)) (by rw[hl,sizeLine_eq];exact aa f8 hn)) hs⟩
theorem a_.Tv(h:ap L a (.list xs))(hi:ap L i (.p (fa .none (.int k) .none)))(hn:xs.length<1000000)(hk:0<=k)(q:∀d,Q (.ref d) ((d,.list (xs.take k.toNat))::L)):a_ C (.ref a) (.ref i) L Q E:=iG h hi hn (by decide) (λU U=>lJ) (λU U=>oG) (λU U=>lJ) (λZ vs hv=>by rw[Dd _ hk];exact wy _ hv) q
theorem a_.RY(h:ap L a (.list xs))(hi:ap L i (.p (fa .none .none (.int (-1)))))(hn:xs.length<1000000)(q:∀d,Q (.ref d) ((d,.list xs.reverse)::L)):a_ C (.ref a) (.ref i) L Q E:=iG h hi hn (by decide) (λU U=>lJ) (λU U=>lJ) (λU U=>oG) (λZ vs hv=>by rw[krv_pick];exact C6 hv) q
theorem Hk{lo hi:Option Int}{b c:By}(zF:ap L i (.p (fa l u .none)))(hn:b.length<1000000)
  (pl:∀Z v,Is Z l v->IsPart v lo)(pu:∀Z v,Is Z u v->IsPart v hi)(hc:(KBy.picked b.toArray lo hi)=c.toArray)(q:Q (.bytes c) L):a_ C (.bytes b) (.ref i) L Q E:=⟨λA Z H x y value slice hR hx ly hs=>by
 lk
 cases hx with|@bytes _ t=>
 obtain rfl:=ly.ce;obtain⟨em,hs⟩:=hs;refine .mk λs S=>?_
 lk
 refine ew (qI S zF) λvl vu vt fV h1 h2 h3=>?_;obtain rfl:=h3.qQ;have hT:=typeIs_bytes s b.toArray t;have UQ:s.TypeIs (.ref i) "slice":=by obtain⟨o,h1,h2,_⟩:=fV;exact(ah o h1 h2)
 refine tail_any hT FB.slot_bytes_getitem.lookup ?_ hs;unfold getItem
 try with_reducible refine wpAny_holding ?_
 refine wpAny_bind (wpAny_sequenceKey hT (by decide) ?_);refine wpAny_bind (wpAny_callSpecial?_slot (name:=Str.ofString "__getitem__") hT FB.slot_bytes_getitem (call_meets FB.slot_bytes_getitem hT FB.entry_bytes_getitem (FB.args_bytes_getitem_2 _ _) (KBc.meets_slice2 b.toArray t i (pl Z _ h1) (pu Z _ h2)) (bj fV ?_ (λt' k=>?_))))
 ·exact le_trans (KBc.size_picked_le ..) (by rw[size_toArray,sizeLine_eq];exact aa f8 hn)
 ·simp only[hc];exact wP (PQ.mk' S.toks .bytes q)⟩
theorem a_.Tw{b:By}(hi:ap L i (.p (fa .none (.int k) .none)))(hn:b.length<1000000)(hk:0<=k)(q:Q (.bytes (b.take k.toNat)) L):a_ C (.bytes b) (.ref i) L Q E:=
 Hk hi hn (λU U=>lJ) (λU U=>oG) (by
  rw[KBc.picked_eq];show((b.drop 0).take (clipAt b.toArray.size k-0)).toArray=_;rw[drop_zero,sub_zero,size_toArray];have:clipAt b.length k=min k.toNat b.length:=by unfold clipAt;rw[if_neg (by exact aa pN hk)];exact aa FJ nQ pL eK
  rw[this,kmk_take_min]) q
theorem a_.Tx{b:By}(hi:ap L i (.p (fa (.int k) .none .none)))(hn:b.length<1000000)(hk:0<=k)(q:Q (.bytes (b.drop k.toNat)) L):a_ C (.bytes b) (.ref i) L Q E:=
 Hk hi hn (λU U=>oG) (λU U=>lJ) (by
  rw[KBc.picked_eq];show((b.drop (clipAt b.toArray.size k)).take (b.toArray.size-clipAt b.toArray.size k)).toArray=_;refine(size_toArray)▸?_;have:clipAt b.length k=min k.toNat b.length:=by unfold clipAt;rw[if_neg (by exact aa pN hk)];exact aa FJ nQ pL eK
  rw[this,kmk_drop_min,take_of_length_le (by rw[length_drop];exact aa ⟨2,1,[.oo (.an (.ln (.t .v0) .v0) (.en .v1 (.t .v0))) (.an (.no (.ln (.t .v0) .v0)) (.aA 1 0))],.ln (.s .v0 (.t .v0)) (.ee 0 1)⟩ eK)]) q
theorem Lq{E:VS}{s:Shared}{t sl:Addr}{items:Array Value}{a:Nat}{Q:VS}(ht:IsTup s.heap t items)(hs:s.heap.IsSliceOf sl .none vt .none)(hv:IsPart vt (some (a:Int)))(ha:a<items.size)
  (h:Q (.ref s.heap.objs.size) {s with heap:=s.heap.push {cls:=.type "tuple",data:=.seq (items.toList.take a).toArray}})(hsz:items.size<=sizeLine):wpAny (model aH w) A (getItem (.ref t) (.ref sl)) Q E s:=by
 have hok:sizeOk (.seq (items.toList.take a).toArray):=by
  show(items.toList.take a).toArray.size<=sizeLine;simp only[size_toArray,length_take,length_toList]
  omega
 cases hv with|int _ u=>
 refine dD (id hs) λos nV jN zG=>?_;unfold getItem
 try with_reducible refine wpAny_holding ?_
 first|refine wB (wP ?_)|skip
 refine wB (wpAny_sequenceKey ht.typeIs (by decide) ?_)
 refine wB (wpAny_callSpecial?_slot (name:=Str.ofString "__getitem__") ht.typeIs slot_tuple_getitem
  (wpAny_call_entry slot_tuple_getitem ht.typeIs entry_tuple_getitem ?_ (args_tuple_getitem _ _)))
 refine(?_:wpAny _ _ (Builtin.Tuple.tupleItemsOf (.ref t)>>=_) _ _ s);refine wB (tupleItemsOf_ ht ?_);refine wpAny_bind (wpAny_typeOf ((ah os nV jN):s.TypeIs (.ref sl) "slice") ?_)
 rw[if_pos (by decide)];refine wB ?_;refine wB (wB (wpAny_field nV zG (x:=.none) rfl (wB (wpAny_field nV zG (x:=.int a u) rfl (wB (wpAny_field nV zG (x:=.none) rfl (wP ?_)))))));refine wpAny_bind (slicePart_none ?_);rw[if_neg (by decide)];refine wB (slicePart_none (wB (slicePart_int (wB (wP ?_)))));refine(?_:wpAny _ _ (match Builtin.Slice.sliceAdjust none (some (a:Int)) 1 (items.size:Int) with|(lo,hi)=>pure (lo,(1:Int),Builtin.Slice.slicePlaces lo hi 1)) _ _ s)
 have e1:Builtin.Slice.sliceAdjust none (some (a:Int)) 1 (items.size:Int)=(0,(a:Int)):=by
  unfold Builtin.Slice.sliceAdjust;simp only[(aa ⟨0,0,[],.no (.tz (.k 1) (.k 0))⟩:¬((1:Int)<0)),(aa rc:¬((a:Int)<0)),if_false]
  congr 1
  exact aa ⟨2,1,[.bg 0 1,.oo (.an (.lz .c0 .c1) (.fg 0 0)) (.an (.no (.lz .c0 .c1)) (.fg 0 1))],.fg 0 0⟩ ha pL
 have e2:Builtin.Slice.slicePlaces 0 (a:Int) 1=a:=by unfold Builtin.Slice.slicePlaces;simp only[(aa ⟨0,0,[],.tz (.k 0) (.k 1)⟩:(1:Int)>0),if_true,Int.ediv_one];exact aa ⟨1,1,[.oo (.an (.tz (.k 0) .c0) (.ez .v0 (.a (.s (.mv 0 0) (.k 1)) (.k 1)))) (.an (.no (.tz (.k 0) .c0)) (.be 0 0))],.en (.t .v0) .v0⟩ io
 rw[e1];show wpAny _ _ (pure ((0:Int),(1:Int),Builtin.Slice.slicePlaces 0 (a:Int) 1)) _ _ s;rw[e2];refine wP ?_
 have jO:¬(((0:Int)==0&&(1:Int)==1&&a==items.size)=true):=by
  have:(a==items.size)=false:=by rw[beq_eq_false_iff_ne];exact aa FK ha
  rw[this];simp
 have e3:((List.range a).filterMap λ(k:Nat)=>items[((0:Int)+(k:Int)*1).toNat]?).toArray=(items.toList.take a).toArray:=by
  have e:(λ(k:Nat)=>items[((0:Int)+(k:Int)*1).toNat]?)=λk=>items[0+k]?:=by
   funext k
   have:((0:Int)+(k:Int)*1).toNat=0+k:=aa ⟨1,0,[],.en (.t (.a (.k 0) (.w .c0 1))) (.eU 0 0)⟩;rw[this]
  rw[e];have:=pick_run items 0 a;rw[List.filterMap_map] at this;have e2:((λx=>items[x]?)∘λx=>0+x)=λk=>items[0+k]?:=rfl;rw[e2] at this;simp only[this,drop_zero]
 refine(?_:wpAny _ _ (if((0:Int)==0&&(1:Int)==1&&a==items.size)=true then _ else _) _ _ s);rw[if_neg jO,e3]
 first
  |exact wB (m:=Builtin.Tuple.tupleExact _) (wpAny_newObj_type (wP (ah _ rfl (wP h))) hok)
  |exact wB (m:=Builtin.Tuple.tupleExact _) (wpAny_newObj_type (wB (wP (wP ⟨_,rfl,wP h⟩))) hok)
  |exact wB (wB (m:=Builtin.Tuple.tupleExact _) (wpAny_newObj_type (wP (wP ⟨_,rfl,wP h⟩)) hok))
  |exact wB (wB (m:=Builtin.Tuple.tupleExact _) (wpAny_newObj_type (wP ⟨_,rfl,wP h⟩) hok))
theorem a_.toT(hi:ap L i (.p (fa .none (.int k) .none)))(hn:xs.length<1000000)(hk:0<=k/\k<xs.length)(q:Q (.tup (xs.take k.toNat)) L):a_ C (.tup xs) (.ref i) L Q E:=⟨λA Z H x y value slice hR hx ly hs=>by
 lk
 refine dJ hx.cy λa ws n aE hz hw=>?_;subst aE;obtain rfl:=ly.ce;obtain⟨em,hs⟩:=hs;refine .mk λs S=>?_
 lk
 refine ew (qI S hi) λvl vu vt fV h1 h2 h3=>?_
 lk
 cases h1;cases h3
 have hl:=hw.length;rw[length_toList] at hl;have ht:IsTup s.heap a ws:=(eA _ (S.keep _ _ hz) rfl n rfl);obtain⟨m,hm⟩:=Int.eq_ofNat_of_zero_le hk.1;subst hm;have le:=Zt.lQ Z (o:=gL (ws.toList.take m).toArray 0) S.gU;exact tail_any ht.typeIs slot_tuple_getitem.lookup (Lq ht fV (oG h2) (aa ⟨3,0,[.aA 0 1,.an (.pI 0 2) (.i9 2 1)],.bg 2 0⟩ hl hk) (PQ.lu le (S.lr rfl s.toks) (.o3 (n:=0) (Zt.mY ..) (wy _ (hw.mono le))) q) (by rw[hl,sizeLine_eq];exact aa f8 hn)) hs⟩
theorem a_.Tz(hi:ap L i (.p (fa (.int k) .none .none)))(hn:xs.length<1000000)(hk:1<=k/\k<=xs.length)(q:Q (.tup (xs.drop k.toNat)) L):a_ C (.tup xs) (.ref i) L Q E:=⟨λA Z H x y value slice hR hx ly hs=>by
 lk
 refine dJ hx.cy λa ws n aE hz hw=>?_;subst aE;obtain rfl:=ly.ce;obtain⟨em,hs⟩:=hs;refine .mk λs S=>?_
 lk
 refine ew (qI S hi) λvl vu vt fV h1 h2 h3=>?_
 lk
 cases h2;cases h3
 have hl:=hw.length;rw[length_toList] at hl;have ht:IsTup s.heap a ws:=⟨_,S.keep _ _ hz,rfl,n,rfl⟩
 lk
 obtain⟨m,hm⟩:=Int.eq_ofNat_of_zero_le (show 0<=k by exact aa ⟨1,1,[.an (.ak 1 0) (.dF 0 0)],.ak 0 0⟩ hk)
 lk
 subst hm;obtain⟨_,rfl⟩:=h1.e_;have le:=Zt.lQ Z (o:=gL (ws.toList.drop m).toArray 0) S.gU;exact tail_any ht.typeIs slot_tuple_getitem.lookup (getItem_tuple_from ht fV (aa ⟨2,0,[.an (.pI 1 0) (.lz .c0 .c1)],.gj 1 0⟩ hk) (aa ⟨3,0,[.aA 0 1,.an (.pI 1 2) (.lz .c2 .c1)],.bY 2 0⟩ hl hk) (PQ.lu le (S.lr rfl s.toks) (.o3 (n:=0) (Zt.mY ..) (Lp _ (hw.mono le))) q) (by rw[hl,sizeLine_eq];exact aa f8 hn)) hs⟩
end
section
open PySem.Sem (wp)
theorem OU{A:Around}{E:VS}{Q:List (Code×Pos)->SP}(hg:A.guards=some [])(h:∀st:List (Code×Pos),(∀c∈st,gf c.1=false/\c.1.isGuard=false)->Q st s):ag w A stack Q E s:=λΓ p cQ hn=>by
 refine h _ λc hc=>⟨?_,?_⟩
 ·rcases List.mem_cons.mp hc with rfl|hc
  ·exact hn.1
  ·exact hn.2 c hc
 ·have e:guardsOf ((Γ.code,p)::Γ.below)=[]:=by rw[guardsOf_cons];exact cQ.2.2.2.1 [] hg
  unfold guardsOf at e;have:=List.filter_eq_nil_iff.mp e c.1 (List.mem_map.mpr (ah c hc rfl))
  simpa using this
theorem Jy(id:String)(args:Args):(Code.builtin id args).isGuard=guardIds.contains id:=rfl
theorem Kr{A:Around}{E:VS}{Q:Bool->SP}(hg:A.guards=some [])(h:Q false s):ag w A (Builtin.Bytes.exported v) Q E s:=by
 refine nB (OU hg λst jh=>?_);refine aO ?_
 have:∀(f:Code×Pos->Bool),(∀c p,gf c=false->c.isGuard=false->f (c,p)=false)->st.any f=false:=λf hf=>List.any_eq_false.mpr λx hx=>by have:=jh x hx;rw[hf x.1 x.2 this.1 this.2];exact Bool.false_ne_true
 rw[this _ λc p hd hi=>?_]
 ·exact h
 ·cases c with
  |builtin id args=>
   have ne:∀i:String,guardIds.contains i=true->id≠i:=λi h e=>by rw[Jy,e,h] at hi;cases hi
   obtain⟨pos,kw⟩:=args;unfold Builtin.Bytes.exported.match_1;refine(dif_neg (ne "bytearray.__contains__" (by z_go))).trans ((dif_neg (ne "bytearray.__mod__" (by z_go))).trans ((dif_neg (ne "bytearray.__rmod__" (by z_go))).trans ((dif_neg (ne "_struct.pack_into.held" (by z_go))).trans ((dif_neg (ne "bytearray.find.held" (by z_go))).trans ?_))))
   cases pos with
   |nil=>rfl
   |cons v tl=>rw[tu] at hd;show(_&&_)=false;rw[hd,Bool.and_false]
  |_=>rfl
end
section
open PySem.Sem (wp)
theorem D8:mroOf (.type "bytearray")=pure [.type "bytearray",.type "object"]:=by rw[mroOf_type];x_go
theorem IE:typeLookup (.type "bytearray") "__new__"=pure (some (.builtin "bytearray.__new__")):=by mg_lt
theorem IQ:Slot "bytearray" "__init__" "bytearray.__init__":=
 .of (owner:="bytearray") (n:="__init__") (by mg_lt) (by z_go) (by z_go) (by z_go)
  (by first|exact .inl (by z_go)|exact .inr (by z_go)) (by rw[isSubtype_type];x_go)
theorem t6:isSubtype (.type "bytearray") (.type "bytearray")=pure true:=by rw[isSubtype_type];x_go
theorem BC:TypeCalled "bytearray" "bytearray.__new__" "bytearray.__init__":=⟨by z_go,by z_go,(mw _ _ D8),madeBy_type D8 IE (by z_go),by z_go,t6,IQ⟩
theorem AT(a:Value):checkTypeCall "bytearray" ⟨[a],[]⟩=pure ():=by x_go
theorem Jz(a:Value):checkBuiltinCall "bytearray.__new__" ⟨[.type "bytearray",a],[]⟩=pure ():=by x_go
theorem AG:plainId "bytearray.__new__"=true:=by z_go
theorem IR:entryFor table "bytearray.__new__"=some Builtin.«list.__new__»:=entryFor_alias (id':="list.__new__") (by x_go) (by first|rfl|z_go|(unfold String.splitOn;simp+decide [String.splitOnAux])) (by z_go) (by x_go)
theorem Ay:entryFor table "bytearray.__init__"=some Builtin.«bytearray.__init__»:=by
 first
  |exact entryFor_of_fast (by x_go)
  |exact entryFor_of_tree (by x_go)
set_option maxHeartbeats 4000000 in
theorem Lr:("bytearray.__new__".splitOn ".__new__").headD ""="bytearray":=by simp+decide [String.splitOn,String.splitOnAux]
theorem D9{E:VS}{s:Shared}(a:Value){Q₁:VS}
  (h:Q₁ (.ref s.heap.objs.size) {s with heap:=s.heap.push {cls:=.type "bytearray",data:=.bytearray #[]}}):
  codeAny (model prog w) A (.call (.builtin "bytearray.__new__") ⟨[.type "bytearray",a],[]⟩) (wants Q₁ E) s:=by
 refine codeAny_of_tree ?_;refine wB (wpAny_of_eq (Jz a) (wP ⟨plainId_quiet AG _,codeAny_builtin_stack IR rfl λp st=>?_⟩));refine(Around.under_plainId AG _)▸?_;have UM:=t6;obtain⟨hp,g,d,tk,os⟩:=s;dsimp only;rw[Lr]
 wp_walk
 exact h
end
section
open PySem.Sem (wp)
section
variable{w:World}{A:Around}{E:VS}{s:Shared}
theorem A6{id:String}(h:Builtin.Bytes.decodersThatHold.contains id=false)(args:Args):gf (.builtin id args)=false:=by rw[tu];exact h
theorem BD{T Fg t7:String}{Bi:Builtin}{args:LV}{Q Q₁:VS}(ft:TypeCalled T Fg t7)
  (TA:checkTypeCall T ⟨args,[]⟩=pure ())(OV:entryFor table t7=some Bi)(hd:Builtin.Bytes.decodersThatHold.contains t7=false)
  (pv:codeAny (model aH w) A.in1 (.call (.builtin Fg) ⟨.type T::args,[]⟩) (wants Q₁ E) s)
  (Qz:∀obj am,Q₁ obj am->am.TypeIs obj T/\argsOk t7 ⟨obj::args,[]⟩/\
   ag w A.in1.in1 (Bi ⟨obj::args,[]⟩) (λfin s'=>∃v,fin=.done (.ret v)/\v=.none/\Q obj s') E am):
  ag w A (call (.type T) args) Q E s:=by
 refine i_ ft.mro λc tl RZ=>?_;refine j3 (hU (aP ?_));refine wP (bj (wS _) (Code.quiet_builtin _ (by z_go)) (qv F.entry_type_call ?_));refine(Around.under_plain (weight_type_call_type T args []) rfl)▸?_;refine de ?_ ft.notType;refine de ?_ ft.canCreate;refine nB (ja TA ?_);refine nB (ja RZ ?_);refine de ?_;refine nB (ja ft.made ?_);refine nB (aO ?_);refine nB (b9 (j3 (j4 (zi pv) λr am hr=>?_)))
 cases r with
 |error e=>exact hr
 |ok fl=>
  cases fl with
  |ret obj=>refine fq (Qz _ _ hr) λhT hok TB=>?_;refine nB (aP (wpAny_isInstance hT ft.sub ?_));refine de ?_;refine nB (b9 ?_);refine nB (aP (wpAny_specialOf hT ft.init.lookup ?_));refine b9 (nB (ja (ft.init.bind obj) (nB (j3 ?_))));refine t4 (plainId_quiet ft.init.plain _) (A6 hd _) (aP (ft.init.check _ _ _ _ _ _ _ _ hT hok ?_));refine qv OV ?_;rw[Around.under_plainId ft.init.plain _];refine ay TB (λfin s' h'=>?_) λU U h'=>h';refine dD h' λv cS aw hq=>?_;refine av cS ?_;refine av aw ?_;exact aO (aO hq)
  |_=>exact hr.elim
end
end
section
open PySem.Sem (wp)
theorem OW:typeLookup (.type "bytearray") "__release_buffer__"=pure (some (.builtin "bytearray.__release_buffer__")):=by mg_lt
theorem OX:typeLookup (.type "bytes") "__release_buffer__"=pure none:=by mg_lt
theorem xo:typeLookup (.type "bytearray") "__buffer__"=pure (some (.builtin "bytearray.__buffer__")):=by mg_lt
theorem xp:typeLookup (.type "bytes") "__buffer__"=pure (some (.builtin "bytes.__buffer__")):=by mg_lt
theorem D':typeLookup (.type "bytearray") "__index__"=pure none:=by mg_lt
theorem D_:typeLookup (.type "bytes") "__index__"=pure none:=by mg_lt
theorem Ea:typeLookup (.type "int") "__index__"=pure (some (.builtin "int.__index__")):=by mg_lt
theorem OY:isSubtype (.type "bytes") (.type "bytes")=pure true:=by rw[isSubtype_type];x_go
theorem wY(v:Value):Builtin.Bytes.bindOptional "bytearray.__init__" "bytearray" ["source","encoding","errors"] [v] []=pure [some v,none,none]:=by x_go
theorem M8:("bytearray.__release_buffer__".endsWith ("."++"__release_buffer__"))=true:=by z_go
theorem Ls:"bytearray.__release_buffer__".dropRight ("__release_buffer__".length+1)="bytearray":=by z_go
theorem M9:("bytearray.__buffer__".endsWith ("."++"__buffer__"))=true:=by z_go
theorem Lu:"bytearray.__buffer__".dropRight ("__buffer__".length+1)="bytearray":=by z_go
theorem M_:("bytes.__buffer__".endsWith ("."++"__buffer__"))=true:=by z_go
theorem Lv:"bytes.__buffer__".dropRight ("__buffer__".length+1)="bytes":=by z_go
noncomputable abbrev dY (b:Array UInt8):Obj:={cls:=.type "bytearray",data:=.bytearray b 0}
section
variable{prog:Program}{w:World}{A:Around}{E:VS}{s:Shared}
theorem wz{T:String}{name:String}{id:String}{Q:Bool->SP}(hT:s.TypeIs v T)(hl:typeLookup (.type T) (name:Str)=pure (some (.builtin id)))(he:id.endsWith ("."++name)=true)
  (hd:id.dropRight (name.length+1)=T)(hs:isSubtype (.type T) (.type T)=pure true)(h:Q true s):wpAny (model prog w) A (Builtin.Bytes.slotIsOwn v name) Q E s:=by
 refine wpAny_bind (wpAny_specialOf hT hl ?_);dsimp only;rw[he,hd];exact wpAny_isInstance hT hs h
theorem Ks{T:String}{name:String}{Q:Bool->SP}(hT:s.TypeIs v T)(hl:typeLookup (.type T) (name:Str)=pure none)(h:Q true s):wpAny (model prog w) A (Builtin.Bytes.slotIsOwn v name) Q E s:=by exact wB (wpAny_specialOf hT hl (wP h))
theorem sC{Q:Bool->SP}(hT:s.TypeIs v "bytearray")(h:Q false s):wpAny (model prog w) A (Builtin.Bytes.ownRelease v) Q E s:=wB (wz hT OW M8 Ls t6 (wP h))
theorem IF{Q:Bool->SP}(hT:s.TypeIs v "bytes")(h:Q false s):wpAny (model prog w) A (Builtin.Bytes.ownRelease v) Q E s:=wB (Ks hT OX (wP h))
theorem Kt{id:String}{b:Array UInt8}{t:Tok}{yR:Bool}{Q:Option (Array UInt8)->SP}(h:Q (some b) s):wpAny (model prog w) A (Builtin.Bytes.buffer? id (.bytes b t) yR) Q E s:=by
 have hT:s.TypeIs (.bytes b t) "bytes":=PySem.W.typeIs_bytes _ _ _
 refine wB (wpAny_specialOf hT xp ?_);refine wB (wz hT xp M_ Lv OY ?_);refine bm_if_false rfl ?_;refine wB (wpAny_specialOf hT xp ?_);refine wB (IF hT ?_);refine bm_if_false rfl ?_;exact wB (wB (wP (wP (wP h))))
theorem kK{a:Addr}{b:Array UInt8}(h:s.heap.get? a=some (dY b)):s.TypeIs (.ref a) "bytearray":=(ah _ h rfl)
theorem BE{id:String}{a:Addr}{b:Array UInt8}{yR:Bool}{Q:Option (Array UInt8)->SP}(ho:s.heap.get? a=some (dY b))(h:Q (some b) s):wpAny (model prog w) A (Builtin.Bytes.buffer? id (.ref a) yR) Q E s:=by have hT:=kK ho;refine wB (wpAny_specialOf hT xo ?_);refine wB (wz hT xo M9 Lu t6 ?_);refine bm_if_false rfl ?_;refine wB (wpAny_specialOf hT xo ?_);refine wB (sC hT ?_);refine bm_if_false rfl ?_;exact wB (wB (wB (wpAny_load ho (wP (wP (wP h))))))
theorem mO{a:Addr}{b b':Array UInt8}{f:Array UInt8->Array UInt8}{Q:Unit->SP}(h:s.heap.get? a=some (dY b))(hf:f b=b')(hz:b'.size<=sizeLine)
  (k:Q () {s with heap:=s.heap.update a (Obj.mapBytearray f)}):wpAny (model prog w) A (Builtin.Bytes.write (.ref a) f) Q E s:=by
 refine wB (wpAny_load h ?_);refine wB (wpAny_update h ?_);have h2:(s.heap.update a (Obj.mapBytearray f)).get? a=some (dY b'):=by rw[←hf];exact get?_update_self (Obj.mapBytearray f) h rfl
 refine wpAny_lookBehind h2 ?_ k;show(if b'.size>sizeLine then some "bytearray:memory" else none)=none
 refine(if_neg (Nat.not_lt.mpr hz))▸?_
 rfl
end
end
section
open PySem.Sem (wp)
section
variable{w:World}{A:Around}{E:VS}{s:Shared}
theorem QA{α:Type}{A:Around}{c:Prop}[Decidable c]{a b:Sem α}{Q:α->SP}{E:VS}{s:Shared}(hc:¬c)(h:ag w A b Q E s):ag w A (if c then a else b) Q E s:=by rw[if_neg hc];exact h
theorem qY{α:Type}{A:Around}{c:Prop}[Decidable c]{a b:Sem α}{Q:α->SP}{E:VS}{s:Shared}(hc:c)(h:ag w A a Q E s):ag w A (if c then a else b) Q E s:=by rw[if_pos hc];exact h
theorem v9{a:Addr}{b:Array UInt8}{Q:Bool->SP}(hg:A.guards=some [])(ho:s.heap.get? a=some (dY b))(h:Q false s):
  ag w A (Builtin.Bytes.exported (.ref a) <||> (do return decide ((←Builtin.Bytes.exportsOf (.ref a))>0))) Q E s:=by
 refine cg (Kr hg ?_);refine cg ?_;exact aP (wpAny_bind (wpAny_load ho (wP (aP (wP h)))))
theorem mT{a:Addr}{b:Array UInt8}{f:Array UInt8->Array UInt8}(h:Heap)(ho:h.get? a=some (dY b)):SameBut a h (h.update a (Obj.mapBytearray f))/\(h.update a (Obj.mapBytearray f)).get? a=some (dY (f b)):=⟨Heap.SameBut.update ..,get?_update_self (Obj.mapBytearray f) ho rfl⟩
theorem Az{a:Addr}{b:Array UInt8}{t:Tok}{Q:VS}(hg:A.guards=some [])(ho:s.heap.get? a=some (dY #[]))(hz:b.size<=sizeLine)
  (h:∀h',SameBut a s.heap h'->h'.get? a=some (dY b)->Q .none {s with heap:=h'}):
  ag w A (Builtin.«bytearray.__init__» ⟨[.ref a,.bytes b t],[]⟩) (λfin s'=>∃v,fin=.done (.ret v)/\v=.none/\Q .none s') E s:=by
 refine cg (aP (sC (kK ho) ?_));refine de ?_;refine cg (ja (wY _) ?_);refine cg (aO ?_);refine cg (aO ?_);refine cg (v9 hg ho ?_);refine de ?_;refine gT λzP zk=>?_
 lk
 refine xA (mT (f:=λU=>#[]) s.heap ho) λjP f_=>?_;refine zk ?_;refine cg (aP (mO ho rfl (zero_le _) ?_));refine cg (aO ?_);refine de ?_;refine cg (de (de (aO ?_)));refine cg (aP (wpAny_specialOf (PySem.W.typeIs_bytes _ _ _) D_ ?_));refine de ?_;refine cg (aP (Kt ?_));refine cg (aP (wpAny_rule ?_));refine xA (mT (f:=λU=>b) _ f_) λiN dM=>?_;refine cg (aP (mO f_ rfl hz ?_));exact aO (cz _ rfl rfl (h _ (jP.trans iN) dM))
theorem JA{a c:Addr}{b:Array UInt8}{Q:VS}(hg:A.guards=some [])(ho:s.heap.get? a=some (dY #[]))(hc:s.heap.get? c=some (dY b))(TC:c≠a)(hz:b.size<=sizeLine)
  (h:∀h',SameBut a s.heap h'->h'.get? a=some (dY b)->Q .none {s with heap:=h'}):
  ag w A (Builtin.«bytearray.__init__» ⟨[.ref a,.ref c],[]⟩) (λfin s'=>∃v,fin=.done (.ret v)/\v=.none/\Q .none s') E s:=by
 refine cg (aP (sC (kK ho) ?_));refine de ?_;refine cg (ja (wY _) ?_);refine cg (aO ?_);refine cg (aO ?_);refine cg (v9 hg ho ?_);refine de ?_
 lk
 refine xA (mT (f:=λU=>#[]) s.heap ho) λjP f_=>?_;refine cg (aP (mO ho rfl (zero_le _) ?_));have mD:(s.heap.update a (Obj.mapBytearray λU=>#[])).get? c=some (dY b):=jP.extBut c _ TC hc;have hT:({s with heap:=s.heap.update a (Obj.mapBytearray λU=>#[])}:Shared).TypeIs (.ref c) "bytearray":=(ah _ mD rfl)
 refine cg ?_;refine aP (wpAny_bind (wpAny_load mD (wP ?_)));refine de ?_;refine cg (de (de (aO ?_)));refine cg (aP (wpAny_specialOf hT D' ?_));refine de ?_;refine cg (aP (BE mD ?_));refine cg (aP (wpAny_rule ?_));refine xA (mT (f:=λU=>b) _ f_) λiN dM=>?_;refine cg (aP (mO f_ rfl hz ?_));exact aO (cz _ rfl rfl (h _ (jP.trans iN) dM))
theorem I3{a:Addr}{n:Int}{t:Tok}{Q:VS}(hg:A.guards=some [])(ho:s.heap.get? a=some (dY #[]))(h0:0<n)(h1:n<1000000)
  (h:∀h',SameBut a s.heap h'->h'.get? a=some (dY (Array.replicate n.toNat 0))->Q .none {s with heap:=h'}):
  ag w A (Builtin.«bytearray.__init__» ⟨[.ref a,.int n t],[]⟩) (λfin s'=>∃v,fin=.done (.ret v)/\v=.none/\Q .none s') E s:=by
 refine cg (aP (sC (kK ho) ?_));refine de ?_;refine cg (ja (wY _) ?_);refine cg (aO ?_);refine cg (aO ?_);refine cg (v9 hg ho ?_);refine de ?_;refine gT λzP zk=>?_
 lk
 refine xA (mT (f:=λU=>#[]) s.heap ho) λjP f_=>?_;refine zk ?_;refine cg (aP (mO ho rfl (zero_le _) ?_));refine cg (aO ?_);refine de ?_;refine cg (de (de (aO ?_)));refine cg (aP (wpAny_specialOf (typeIs_int _ _ _) Ea ?_));refine qY rfl ?_;refine cg (wu (ja (rfl:asIndex (.int n t)=pure n) ?_))
 refine de ?_ (by unfold Builtin.Bytes.fitsIndex;simp only[Bool.not_eq_false',Bool.and_eq_true];exact⟨decide_eq_true (aa ⟨0,1,[.c_ 0 0],.lz (.n (.k 9223372036854775808)) .v0⟩ h0),decide_eq_true (aa ⟨0,1,[.bh 0 1000000],.bh 0 9223372036854775808⟩ h1)⟩)
 refine QA (aa ⟨0,1,[.c_ 0 0],.no (.bh 0 0)⟩ h0) ?_;refine de ?_ (beq_eq_false_iff_ne.mpr (aa ⟨0,1,[.bh 0 1000000],.no (.ez .v0 (.s (.k 9223372036854775808) (.k 1)))⟩ h1));have hsz:n.toNat<=sizeLine:=by rw[sizeLine_eq];exact aa ⟨0,1,[.bh 0 1000000],.ln (.t .v0) (.k 16777216)⟩ h1
 refine de ?_ (by exact decide_eq_false (aa ⟨1,1,[.ln (.t .v0) .v0],.no (.tn .v0 (.t .v0))⟩ hsz));refine cg (aP (wpAny_rule ?_));refine qY (aa ⟨0,1,[.c_ 0 0],.c_ 0 0⟩ h0) ?_;refine xA (mT (f:=λU=>Array.replicate n.toNat 0) _ f_) λiN dM=>?_;refine cg (aP (mO f_ rfl (by rw[Array.size_replicate];exact hsz) ?_));exact aO (cz _ rfl rfl (h _ (jP.trans iN) dM))
end
end
section
open PySem.Sem (wp)
inductive lA:Option Int->Value->Prop
 |none:lA none .none
 |some{i t:_}:lA (some i) (.int i t)
noncomputable abbrev Fh (l u:Value):Obj:={cls:=.type "slice",data:=.fields #[l,u,.none]}
theorem ql:Slot "bytearray" "__setitem__" "bytearray.__setitem__":=
 .of (owner:="bytearray") (n:="__setitem__") (by mg_lt) (by z_go) (by z_go) (by z_go)
  (by first|exact .inl (by z_go)|exact .inr (by z_go)) (by rw[isSubtype_type];x_go)
theorem IS:entryFor table "bytearray.__setitem__"=some Builtin.«bytearray.__setitem__»:=by
 first
  |exact entryFor_of_fast (by x_go)
  |exact entryFor_of_tree (by x_go)
theorem I4(o i v:Value):argsOk "bytearray.__setitem__" ⟨[o,i,v],[]⟩:=by x_go
theorem OZ:typeLookup (.type "slice") "__index__"=pure none:=by mg_lt
theorem O0:typeLookup (.type "bytes") "__int__"=pure none:=by mg_lt
theorem O1:typeLookup (.type "bytes") "__float__"=pure none:=by mg_lt
theorem O2:isSubtype (.type "bytes") (.type "complex")=pure false:=by rw[isSubtype_type];x_go
theorem O3:isSubtype (.type "bytes") (.type "bytearray")=pure false:=by rw[isSubtype_type];x_go
section
variable{prog:Program}{w:World}{A:Around}{E:VS}{s:Shared}
theorem wZ{li:Option Int}{Q:VS}(hl:lA li l)(h:Q (rawPart li) s):
  wpAny (model prog w) A (do
   if l==Value.none then return Value.none
   if(←specialOf l "__index__").isNone then
    rule "bytes.slice.part-no-index";raiseError "TypeError" "slice indices must be integers or None or have an __index__ method"
   return rawInt (←asIndex l)) Q E s:=by
 cases hl with
 |none=>exact bm_if_true rfl (wP h)
 |@some i t=>refine bm_if_false rfl ?_;refine wB (wpAny_specialOf (typeIs_int _ _ _) Ea ?_);refine bm_if_false rfl ?_;exact wB (wpAny_of_eq (rfl:asIndex (.int i t)=pure i) (wP h))
theorem Ci{x:Addr}{li ui:Option Int}{Q:Value×Value×Value->SP}(ho:s.heap.get? x=some (Fh l u))(hl:lA li l)(hu:lA ui u)(h:Q (rawPart li,rawPart ui,.none) s):
  wpAny (model prog w) A (Builtin.Bytes.sliceParts (.ref x)) Q E s:=by
 refine wB (wpAny_field ho rfl (i:=2) (x:=.none) rfl ?_);refine wB (wZ .none ?_);refine bm_if_false rfl ?_;refine wB (wpAny_field ho rfl (i:=0) (x:=l) rfl ?_);refine wB (wZ hl ?_);refine wB (wpAny_field ho rfl (i:=1) (x:=u) rfl ?_);refine wB (wZ hu ?_);exact wP h
end
end
section
open PySem.Sem (wp)
section
variable{w:World}{A:Around}{E:VS}{s:Shared}
theorem yS{m k:Sem Bool}{Q:Bool->SP}(h:ag w A m (λb s'=>b=false/\ag w A k Q E s') E s):ag w A (m <||> k) Q E s:=by refine nB (ay h (λb s' q=>?_) λU U x=>x);obtain⟨rfl,q⟩:=q;exact q
theorem yT{T:String}{Q:Bool->SP}(hT:s.TypeIs v T)(hl:typeLookup (.type T) n=pure none)(h:Q false s):ag w A (do return (←specialOf v n).isSome) Q E s:=nB (aP (wpAny_specialOf hT hl (aO h)))
theorem De(o v:Value):argsOk "bytearray.__init__" ⟨[o,v],[]⟩:=by x_go
theorem Lw{d:Array UInt8}{t:Tok}{Q:VS}(hg:A.guards=some [])(hz:d.size<=sizeLine)
  (h:∀h',(∀b o,s.heap.get? b=some o->h'.get? b=some o)->h'.get? s.heap.objs.size=some (dY d)->Q (.ref s.heap.objs.size) {s with heap:=h'}):ag w A (call (.type "bytearray") [.bytes d t]) Q E s:=by
 refine BD (Q₁:=λobj s1=>obj=.ref s.heap.objs.size/\s1={s with heap:=s.heap.push (dY #[])}) BC (AT _) Ay (by z_go) (D9 _ ⟨rfl,rfl⟩) λobj s1 hq=>?_;obtain⟨rfl,rfl⟩:=hq;have ho:(s.heap.push (dY #[])).get? s.heap.objs.size=some (dY #[]):=get?_push_size _ rfl;refine(bj (ah _ ho rfl) (De _ _) ?_);exact Az (Q:=λU s'=>Q (.ref s.heap.objs.size) s') hg ho hz λh' hs cI=>h h' (λb o e=>hs.extBut b o (ne_of_lt (lt_size e)) (get?_push_of_some _ e)) cI
theorem O4{a x:Addr}{b d:Array UInt8}{li ui:Option Int}{t:Tok}{Q:Unit->SP}(hg:A.guards=some [])(ho:s.heap.get? a=some (dY b))(hx:s.heap.get? x=some (Fh l u))(hl:lA li l)(hu:lA ui u)(hz:d.size<=sizeLine)
  (lo hi:Nat)(hb:sliceBounds li ui none b.size=((lo:Int),(hi:Int),1))(zH:lo+d.size=hi)(TF:hi<=b.size)(TG:b.size<=sizeLine)
  (h:∀h' k,ExtBut a s.heap h'->h'.get? a=some (dY (b.extract 0 lo++d++b.extract hi b.size))->Q () {s with heap:=h',toks:=k}):
  ag w A (setItem (.ref a) (.ref x) (.bytes d t)) Q E s:=by
 have hT:s.TypeIs (.ref a) "bytearray":=kK ho
 unfold setItem;refine b9 (nB (aP (wpAny_sequenceKey hT (by decide) ?_)));refine nB ?_;unfold callSpecial?;refine nB (aP (wpAny_specialOf hT ql.lookup ?_));refine b9 (nB (ja (ql.bind _) (nB (j3 ?_))));refine t4 (plainId_quiet ql.plain _) (A6 (by z_go) _) (aP (ql.check _ _ _ _ _ _ _ _ hT (I4 _ _ _) (qv IS ?_)));refine(Around.under_plainId ql.plain _)▸?_;unfold Builtin.«bytearray.__setitem__»;refine de ?_;dsimp only;refine cg ?_;unfold Builtin.Bytes.subscript?;refine cg (aP (wpAny_specialOf (ah _ hx rfl) OZ ?_));refine qY rfl (aO ?_);dsimp only;refine nB (aP (wpAny_typeOf (ah _ hx rfl) ?_));refine de ?_;refine nB (aP (Ci hx hl hu ?_));refine nB (m:=(if Builtin.Bytes.sameRef (.ref a) (.bytes d t)=true then pure false else isInstance (.bytes d t) (.type "bytearray"))) (de (aP (wpAny_isInstance (PySem.W.typeIs_bytes _ _ _) O3 ?_)))
 refine qY rfl ?_;have vr:s.TypeIs (.bytes d t) "bytes":=PySem.W.typeIs_bytes _ _ _
 refine nB (yS (yT vr D_ ⟨rfl,yS (yT vr O0 ⟨rfl,yS (yT vr O1 ⟨rfl,aP (wpAny_isInstance vr O2 ?_)⟩)⟩)⟩));refine nB (aO ?_);refine de ?_;refine nB (aP (wpAny_rule ?_));refine nB (Lw hg hz λh1 mE TH=>?_);refine nB (b9 (aP (Ci (mE _ _ hx) hl hu ?_)));refine nB ?_;unfold Builtin.Bytes.payload Builtin.Bytes.payload?;refine aP (wB (wB (wpAny_load TH (wP (wP ?_)))));refine nB (aP (wB (wB (wpAny_load (mE _ _ ho) (wP (wP ?_))))));refine nB (ja (sliceIndices_raw li ui none b.size (by nofun)) ?_);refine(hb)▸?_;refine qY rfl ?_;refine nB (aP (wpAny_rule ?_));have hm:max (lo:Int) (hi:Int)=hi:=aa ⟨3,1,[.en (.cA 0 1) .v2,.oo (.an (.lz .c0 .c2) (.fg 0 2)) (.an (.no (.lz .c0 .c2)) (.fg 0 0))],.fg 0 2⟩ zH nQ;dsimp only;rw[hm];refine de ?_ (by rw[bne_eq_false_iff_eq];exact aa ⟨3,0,[.en (.cA 0 1) .v2],.ez .c1 (.s .c2 .c0)⟩ zH)
 lk
 refine xA (mT (f:=λb=>b.extract 0 (lo:Int).toNat++d++b.extract (hi:Int).toNat b.size) h1 (mE _ _ ho)) λiN dM=>?_;refine nB (aP (mO (mE _ _ ho) rfl ?_ ?_))
 ·rw[Array.size_append,Array.size_append,Array.size_extract,Array.size_extract];exact Q_ zH TF TG
 exact aO (aO (aO (h _ _ (λc o hc e=>iN.extBut c o hc (mE _ _ e)) dM)))
end
end
section
variable{C:Cx}{L L':HL}{Q:VP}{E:HP}{a b:Addr}{xs ys:List V}{v:V}
theorem bd.yU{v:V}{b:By}(h:∀(A:Around)(Z:Zt)(H:bF)(x:Value)(s s1:Shared)(Q':VS) E',A.guards=some []->Is Z v x->au C.G A Z L H s->s1={s with heap:=s.heap.push (dY #[])}->
   (∀h',SameBut s.heap.objs.size s1.heap h'->h'.get? s.heap.objs.size=some (dY b.toArray)->Q' .none {s1 with heap:=h'})->
   ag C.G.w A (Builtin.«bytearray.__init__» ⟨[.ref s.heap.objs.size,x],[]⟩) (λfin s'=>∃v,fin=.done (.ret v)/\v=.none/\Q' .none s') E' s1)
  (q:∀a,Q (.ref a) ((a,.ba b)::L)):bd C "bytearray" [v] L Q E:=⟨λA Z H vs hR hv=>by
 cases hv with|@cons _ x _ _ i r=>
 refine av r.dN ?_;refine .bP λs S=>?_;refine BD (Q₁:=λobj s1=>obj=.ref s.heap.objs.size/\s1={s with heap:=s.heap.push (dY #[])}) BC (AT _) Ay (by z_go) (D9 _ ⟨rfl,rfl⟩) λobj s1 hq=>?_;obtain⟨rfl,rfl⟩:=hq;have ho:(s.heap.push (dY #[])).get? s.heap.objs.size=some (dY #[]):=get?_push_size _ rfl;refine(bj (ah _ ho rfl) (De _ _) ?_);refine h A.in1.in1 Z H x s _ (λU s'=>PQ Is C.G A Z H Q (.ref s.heap.objs.size) s') _ hR.guards i (S.around rfl) rfl λh' hs cI=>?_;have S1:=S.new (c:=.ba []) (o:=dY #[]) rfl rfl s.toks;exact PQ.mk' (S1.put .head hs cI (c':=.ba b) rfl s.toks) .ref (q _)⟩
theorem bd.TI{n:Int}(h0:0<n)(h1:n<1000000)(q:∀a,Q (.ref a) ((a,.ba (replicate n.toNat 0))::L)):bd C "bytearray" [.int n] L Q E:=
 .yU (λA Z H x s s1 Q' E' hg i S e k=>by subst e;obtain⟨_,rfl⟩:=i.e_;refine I3 hg (get?_push_size _ rfl) h0 h1 λh' hs ho=>k h' hs ?_;rw[ho,List.toArray_replicate]) q
theorem bd.TJ{b:By}(h1:b.length<1000000)(q:∀a,Q (.ref a) ((a,.ba b)::L)):bd C "bytearray" [.bytes b] L Q E:=
 .yU (λA Z H x s s1 Q' E' hg i S e k=>by subst e;obtain⟨_,rfl⟩:=i.kQ;exact Az hg (get?_push_size _ rfl) (by rw[size_toArray,sizeLine_eq];exact aa f8 h1) k) q
theorem bd.TK{c:Addr}{b:By}(h:ap L c (.ba b))(h1:b.length<1000000)(q:∀a,Q (.ref a) ((a,.ba b)::L)):bd C "bytearray" [.ref c] L Q E:=
 .yU (λA Z H x s s1 Q' E' hg i S e k=>by
  lk
  subst e;obtain rfl:=i.ce
  lk
  refine bW (S.cell h) λU o ho aE=>?_;subst aE;exact JA hg (get?_push_size _ rfl) (get?_push_of_some _ ho) (ne_of_lt (lt_size ho)) (by rw[size_toArray,sizeLine_eq];exact aa f8 h1) k) q
end
theorem QB:typeLookup (.type "bytes") "__bytes__"=pure (some (.builtin "bytes.__bytes__")):=by mg_lt
theorem QC:typeLookup (.type "bytearray") "__bytes__"=pure none:=by mg_lt
section
variable{prog:Program}{w:World}{A:Around}{E:VS}{s:Shared}
theorem Dg{v:Value}{b:Array UInt8}{Q:VS}(hq:∀t k,Q (.bytes b t) {s with toks:=k})
  (h:∀(A':Around)(R:VS),(∀t k,R (.bytes b t) {s with toks:=k})->wpAny (model prog w) A' (Builtin.«bytes.__new__» ⟨[.type "bytes",v],[]⟩) (λfin s'=>∃r,fin=.done (.ret r)/\R r s') E s):
  wpAny (model prog w) A (call (.type "bytes") [v]) Q E s:=by
 refine callType_codes (Q₁:=λobj am=>am.TypeIs obj "bytes"/\Q obj am) F.bm_called (F.bm_typeCall _) F.entry_object_init ?_ λobj am aW=>?_
 ·refine codeAny_of_tree ?_;refine wB (wpAny_of_eq (F.bm_newCall _) (wP ⟨plainId_quiet F.bm_plain _,codeAny_builtin F.bm_entry ?_⟩));refine wpAny_mono (h _ (λr s'=>s'.TypeIs r "bytes"/\Q r s') λt k=>⟨PySem.W.typeIs_bytes _ _ _,hq t k⟩) (λfin s' q=>?_) λU U x=>x
  obtain⟨r,rfl,q⟩:=q;exact q
 ·exact(bj aW.1 (F.args_object_init_2 obj _) (object_init_meets F.bm_called.init.lookup F.bm_called.made (by decide) prog w A.in1 _ am (bj aW.1 rfl aW.2)))
theorem Lx{b:Array UInt8}{t:Tok}{Q:VS}(hq:∀t k,Q (.bytes b t) {s with toks:=k}):wpAny (model prog w) A (call (.type "bytes") [.bytes b t]) Q E s:=by refine Dg hq λA' R hr=>?_;refine wB (wpAny_of_eq (a:=true) rfl ?_);refine bm_if_false rfl ?_;refine wB (wpAny_of_eq F.bm_sub ?_);refine bm_if_false rfl ?_;refine wB (wpAny_of_eq (F.bm_bind _) ?_);refine wB (wpAny_of_eq (a:=()) rfl ?_);refine wB (wpAny_of_eq (a:=()) rfl ?_);refine bm_if_false rfl ?_;refine wB (wpAny_specialOf (PySem.W.typeIs_bytes _ _ _) QB ?_);refine wB (wpAny_rule ?_);refine wB (wpAny_typeOf (PySem.W.typeIs_bytes _ _ _) ?_);refine bm_if_true rfl ?_;exact wP (ah _ rfl (hr t s.toks))
theorem QD{a:Addr}{b:Array UInt8}{Q:VS}(ho:s.heap.get? a=some (dY b))(hz:b.size<=sizeLine)(hq:∀t k,Q (.bytes b t) {s with toks:=k}):wpAny (model prog w) A (call (.type "bytes") [.ref a]) Q E s:=by refine Dg hq λA' R hr=>?_;refine wB (wpAny_of_eq (a:=true) rfl ?_);refine bm_if_false rfl ?_;refine wB (wpAny_of_eq F.bm_sub ?_);refine bm_if_false rfl ?_;refine wB (wpAny_of_eq (F.bm_bind _) ?_);refine wB (wpAny_of_eq (a:=()) rfl ?_);refine wB (wpAny_of_eq (a:=()) rfl ?_);refine bm_if_false rfl ?_;refine wB (wpAny_specialOf (kK ho) QC ?_);refine wB (wB ?_);refine wB (wpAny_load ho (wP (wP ?_)));refine bm_if_false rfl ?_;refine wB (wpAny_specialOf (kK ho) D' ?_);refine bm_if_true rfl ?_;refine wpAny_bind (BE ho ?_);refine wB (wpAny_rule ?_);refine wB (wpAny_mkBytes ?_ hz);exact wP (ah _ rfl (hr _ _))
end
noncomputable def gy (ns:List Int):By:=ns.map λn=>n.toNat.toUInt8
section
variable{C:Cx}{L L':HL}{Q:VP}{E:HP}{a:Addr}{xs:List V}{v:V}
theorem bd.n7{ns:List Int}(h:ap L a (.list (ns.map V.int)))(hr:∀n∈ns,0<=n/\n<256)(hn:ns.length<1000000)(q:Q (.bytes (gy ns)) L):bd C "bytes" [.ref a] L Q E:=⟨λA Z H vs hR hv=>by
 obtain⟨i,r⟩:=hv.e7;refine av r.dN ?_;refine av i.ce ?_;refine .mk λs S=>?_
 lk
 refine dI (S.cell h) λU o ho ws n aN hw=>?_;subst aN;have hi:=ints_of hw;exact call_bytes_ints (show s.heap.IsList a ws.toList.toArray by rw[Array.toArray_toList];exact(eA _ ho rfl n rfl)) hi hr (by rw[(hi.length:ws.toList.length=ns.length),sizeLine_eq];exact aa f8 hn) hR.handled λh' t k hk=>PQ.mk' (S.ext hk) .bytes q⟩
theorem bd.zI{b:By}(q:Q (.bytes b) L):bd C "bytes" [.bytes b] L Q E:=⟨λA Z H vs hR hv=>by obtain⟨i,r⟩:=hv.e7;refine av r.dN ?_;obtain⟨_,rfl⟩:=i.kQ;exact .mk λs S=>Lx λt k=>PQ.mk' S.toks .bytes q⟩
theorem bd.n8{b:By}(h:ap L a (.ba b))(hn:b.length<1000000)(q:Q (.bytes b) L):bd C "bytes" [.ref a] L Q E:=⟨λA Z H vs hR hv=>by
 obtain⟨i,r⟩:=hv.e7;refine av r.dN ?_;refine av i.ce ?_;refine .mk λs S=>?_
 lk
 refine bW (S.cell h) λU o ho aE=>?_;subst aE;exact QD ho (by rw[size_toArray,sizeLine_eq];exact aa f8 hn) λt k=>PQ.mk' S.toks .bytes q⟩
end
theorem AU:Slot "bytearray" "__len__" "bytearray.__len__":=
 .of (owner:="bytearray") (n:="__len__") (by mg_lt) (by z_go) (by z_go) (by z_go)
  (by first|exact .inl (by z_go)|exact .inr (by z_go)) (by rw[isSubtype_type];x_go)
theorem IT:entryFor table "bytearray.__len__"=some Builtin.«bytearray.__len__»:=by
 first
  |exact entryFor_of_fast (by x_go)
  |exact entryFor_of_tree (by x_go)
theorem I5(o:Value):argsOk "bytearray.__len__" ⟨[o],[]⟩:=by x_go
theorem O5{E:VS}{s:Shared}{a:Addr}{b:Array UInt8}{Q:VS}(ho:s.heap.get? a=some (dY b))(hz:b.size<1000000)(h:Q (.int b.size (s.toks+1)) {s with toks:=s.toks+1+1}):
  wpAny (model prog w) A (call (.builtin "len") [.ref a]) Q E s:=by
 refine call_function_entry kind_len plain_len entry_len (args_len1 _) ?_;refine wB (m:=oneArg "len" _) (wP ?_)
 refine wB (m:=callSpecial? (.ref a) (Str.ofString "__len__")) (wpAny_callSpecial?_slot (name:=Str.ofString "__len__") (kK ho) AU
  (wpAny_call_entry AU (kK ho) IT ?_ (I5 _)))
 refine wB (wP ?_);refine wB ?_;refine wB (wB (wpAny_load ho (wP (wP ?_))));refine wB (wpAny_mkInt (wP (ah _ rfl ?_)));refine wB (wpAny_holding (wP ?_));refine wB (wpAny_letGo ?_);rw[if_neg (by exact aa rc)];rw[if_neg (by exact aa ⟨1,0,[.aJ 0 1000000],.no (.pI 9223372036854775808 0)⟩ hz)];exact wB (wpAny_mkInt (wP (ah _ rfl h)))
section
variable{C:Cx}{L L':HL}{Q:VP}{E:HP}{a:Addr}{xs:List V}{v:V}
theorem br.R1{b:By}(h:ap L a (.ba b))(hn:b.length<1000000)(q:Q (.int b.length) L):br C "len" [.ref a] L Q E:=⟨λA Z H vs hR hv=>by
 obtain⟨i,r⟩:=hv.e7;refine av r.dN ?_;refine av i.ce ?_;refine .mk λs S=>?_
 lk
 refine bW (S.cell h) λU o ho aE=>?_;subst aE;have hl:b.toArray.size=b.length:=size_toArray;exact O5 ho (aa ⟨2,0,[.aJ 0 1000000,.aA 1 0],.aJ 1 1000000⟩ hn hl) (PQ.mk' S.toks (x:=.int b.length) (by rw[hl];exact .int) q)⟩
theorem Dh{Q:HP}{i:Addr}{b d r:By}{li ui:Option Int}(hi:ap L i (.p (fa vl vu .none)))(hl:∀Z x,Is Z vl x->lA li x)(hu:∀Z x,Is Z vu x->lA ui x)(h:bK L a (.ba b) (.ba r) L')(lo up:Nat)
  (hb:sliceBounds li ui none b.length=((lo:Int),(up:Int),1))(Hl:lo+d.length=up)(n_:up<=b.length)(hr:b.take lo++d++b.drop up=r)(hn:b.length<1000000)(q:Q L'):dC C (.ref a) (.ref i) (.bytes d) L Q E:=⟨λA Z H x y z hR hx hy hz=>by
 lk
 cases hx;cases hy;cases hz
 refine .bP λs S=>?_
 lk
 refine bW (S.cell h.pick) λU o ho aE=>?_;subst aE
 lk
 refine bW (S.cell hi) λU ox TL hx=>?_
 lk
 refine ew (hx Z (.refl _)) λl u t aE i1 i2 i3=>?_;subst aE;obtain rfl:=i3.qQ;have hs:b.toArray.size=b.length:=size_toArray;have hd:d.toArray.size=d.length:=size_toArray;refine O4 hR.guards ho TL (hl _ _ i1) (hu _ _ i2) (by rw[hd,sizeLine_eq];exact aa ⟨4,0,[.en (.cA 0 1) .v2,.bY 2 3,.aJ 3 1000000],.aS 1 16777216⟩ Hl n_ hn) lo up (by rw[hs];exact hb) (by rw[hd];exact Hl) (by rw[hs];exact n_) (by rw[hs,sizeLine_eq];exact aa f8 hn) λh' k hk cI=>?_
 have e:b.toArray.extract 0 lo++d.toArray++b.toArray.extract up b.toArray.size=r.toArray:=by rw[←hr];apply Array.toList_inj.mp;simp only[toList_append,Array.toList_extract,List.extract_eq_drop_take,drop_zero,sub_zero];rw[size_toArray,take_of_length_le (l:=b.drop up) (by rw[length_drop];exact Nat.le_refl _)]
 rw[e] at cI;exact PQ.mk' (x:=()) (S.l_ h hk cI (c':=.ba r) rfl k) rfl q⟩
theorem dC.ch{Q:HP}{i:Addr}{b d:By}(hi:ap L i (.p (fa .none .none .none)))(h:bK L a (.ba b) (.ba d) L')(hl:d.length=b.length)(hn:b.length<1000000)(q:Q L'):dC C (.ref a) (.ref i) (.bytes d) L Q E:=Dh (li:=none) (ui:=none) hi (λU U i=>by cases i;exact .none) (λU U i=>by cases i;exact .none) h 0 b.length rfl (aa ⟨2,0,[.aA 0 1],.en (.eU 0 0) .v1⟩ hl) (Nat.le_refl _) (by rw[List.take_zero,List.drop_length,List.nil_append,append_nil]) hn q
theorem dC.TM{Q:HP}{i:Addr}{b d:By}{lo up:Int}(hi:ap L i (.p (fa (.int lo) (.int up) .none)))(h:bK L a (.ba b) (.ba (b.take lo.toNat++d++b.drop up.toNat)) L')(h0:0<=lo)(hl:lo+d.length=up)(hu:up<=b.length)(hn:b.length<1000000)(q:Q L'):dC C (.ref a) (.ref i) (.bytes d) L Q E:=
 Dh (li:=some lo) (ui:=some up) hi (λU U i=>by cases i;exact .some) (λU U i=>by cases i;exact .some) h lo.toNat up.toNat (by
  unfold sliceBounds;simp only[Option.getD_none];have e1:¬lo<0:=aa pN h0;have e2:¬up<0:=aa ⟨1,2,[.ak 0 0,.ez (.a .v0 .c0) .v1],.no (.bh 1 0)⟩ h0 hl;have e3:((1:Int)>0):=by decide
  simp only[if_neg e1,if_neg e2,if_pos e3];have e4:max 0 (min lo (b.length:Int))=(lo.toNat:Int):=aa ⟨2,4,[.ez (.a .v0 .c0) .v1,.dF 1 1,.oo (.an (.ak 0 2) (.bM 3 2)) (.an (.no (.ak 0 2)) (.be 3 0)),.oo (.an (.dF 0 1) (.bM 2 0)) (.an (.no (.dF 0 1)) (.fg 2 1))],.ez .v3 (.c (.t .v0))⟩ hl hu nQ pL;have e5:max 0 (min up (b.length:Int))=(up.toNat:Int):=aa ⟨1,3,[.dF 0 0,.oo (.an (.ak 0 1) (.bM 2 1)) (.an (.no (.ak 0 1)) (.be 2 0)),.oo (.an (.dF 0 0) (.bM 1 0)) (.an (.no (.dF 0 0)) (.fg 1 0))],.ez .v2 (.c (.t .v0))⟩ hu nQ pL;rw[e4,e5]) (aa ⟨1,2,[.ak 0 0,.ez (.a .v0 .c0) .v1],.en (.a (.t .v0) .v0) (.t .v1)⟩ h0 hl) (aa FL hu) rfl hn q
end
section
variable{C:Cx}{L L':HL}{Q:VP}{E:HP}{a:Addr}{xs:List V}{v:V}
theorem a_.TN{b:By}{k:Int}(h0:0<=k)(h1:k<b.length)(hn:b.length<1000000)(q:Q (.int (b.getD k.toNat 0).toNat) L):a_ C (.bytes b) (.int k) L Q E:=⟨λA Z H x y value slice hR hx hy hs=>by
 lk
 cases hx;cases hy
 obtain⟨em,hs⟩:=hs;refine .mk λs S=>?_;exact tail_any (PySem.W.typeIs_bytes _ _ _) FB.slot_bytes_getitem.lookup (getItem_bytes (aa ⟨1,0,[.aJ 0 1000000],.aS 0 1099511627776⟩ hn) h0 h1 (PQ.mk' S.toks .int q)) hs⟩
theorem Di{xs:List V}{vs:LV}(h:aZ Z xs vs):∀n,aZ Z (replicate n xs).flatten (replicate n vs).flatten
 |0=>.nil
 |n+1=>h.append (Di h n)
theorem da.mulL{k:Int}(h:ap L a (.list xs))(hk:k<=1000)(hn:xs.length<=1000)(q:∀d,Q (.ref d) ((d,.list (replicate k.toNat xs).flatten)::L))(TO:-1000<=k):da C .Mult (.ref a) (.int k) L Q E:=⟨λA Z H x y hR hx hy=>by
 refine av hx.ce ?_
 lk
 cases hy with|@int _ u=>
 refine .mk λs S=>?_
 lk
 refine dI (S.cell h) λU o ho ws n aN hw=>?_;subst aN;have hl:=hw.length;rw[length_toList] at hl
 have hz:ws.size*k.toNat<=1000000:=by have h1:ws.size<=1000:=aa ⟨2,0,[.aS 0 1000,.aA 1 0],.aS 1 1000⟩ hn hl;have h2:k.toNat<=1000:=aa ⟨0,1,[.aL 0 1000],.ln (.t .v0) (.k 1000)⟩ hk;exact Nat.mul_le_mul h1 h2
 refine wpAny_binaryOp_repeat_ref (T:="list") (U:="int") (by decide) (ah _ ho rfl) (λs'=>typeIs_int s' k u) noFill_list_mul F.fills_int_mul F.slot_int_rmul repeat_list F.slot_int_index.lookup
  (call_meets F.slot_int_rmul (typeIs_int s k u) F.entry_int_rmul (F.args_int_rmul_2 _ _) (lm_int_rmul_list_any k u a ws n none #[]) ⟨ho,?_⟩)
 refine(bj rfl (ah _ ho rfl) (call_meets F.slot_list_mul (ah _ ho rfl) F.entry_list_mul (F.args_list_mul_2 _ _)
    (lm_list_mul_any a ws n none #[] k u (by simp[Builtin.List.listFitsIndex];exact aa ⟨0,1,[.aL 0 1000,.ak (-1000) 0],.an (.ak (-9223372036854775808) 0) (.bh 0 9223372036854775808)⟩ hk TO) (by omega) (by simp[Builtin.List.listTooLong,sizeLine];exact aa ⟨1,0,[.aS 0 1000000],.aS 0 16777216⟩ hz)) ⟨ho,?_⟩))
 rw[listMul_foldl_if];exact PQ.mk' (S.new (c:=.list (replicate k.toNat xs).flatten) rfl (co _ 0 rfl (Di hw _)) s.toks) .ref (q _)⟩
end
section
variable{C:Cx}{G:Gd}{Z:Zt}{L:HL}{H:bF}{A:Around}{s:Shared}
noncomputable abbrev o5 (it:Addr) (i:Int) (old:Value):Obj:={cls:=.type "enumerate",dict:=none,data:=.fields #[.none,.bool false,.ref it,rawInt i,.none,old],slots:=#[]}
noncomputable def og (it:Addr) (i:Nat):P0:=.raw λU U o=>∃old,o=o5 it i old
theorem au.QE{a b:Addr}{c c' d d':P0}{h':Heap}{o:Obj}(S:au G A Z L ((a,c)::(b,d)::H) s)(dj:a≠b)(hk:∀x u,x≠a->x≠b->s.heap.get? x=some u->h'.get? x=some u)(ha:h'.get? a=some o)(hb:h'.get? b=some o')
  (hc:c'.is Z G.w.params o)(hd:d'.is Z G.w.params o')(TP:o.isFreed=false)(t:Nat)(hf:c'.isFrame=c.isFrame:=by rfl)(TQ:d'.isFrame=d.isFrame:=by rfl):au G A Z L ((a,c')::(b,d')::H) {s with heap:=h',toks:=t}:=by
 lk
 refine ai S λl e S=>?_;refine bW (S.cells (a,c) (by simp)) λU oa TR U=>?_;have g1:(s.heap.update a λU=>o).get? a=some o:=get?_update_self (λU=>o) TR TP;have S1:=S.put (c':=c') (h':=s.heap.update a λU=>o) (Heap.SameBut.update ..) g1 hc s.toks hf;refine(ah l e ?_);rw[(show l++(a,c')::(b,d)::H=(l++[(a,c')])++(b,d)::H by simp)] at S1;rw[(show l++(a,c')::(b,d')::H=(l++[(a,c')])++(b,d')::H by simp)];refine S1.l_ (c':=d') (h':=h') (λx u hx g=>?_) hb hd t TQ;by_cases zJ:x=a
 ·subst zJ;rw[g1] at g;cases g;exact ha
 ·exact hk x u zJ hx ((Heap.get?_update_other _ _ (Ne.symm zJ)).symm.trans g)
noncomputable def jX (xs:List V):List V:=xs.zipIdx.map λp=>.tup [.int p.2,p.1]
theorem sM{xs:List V}{i:Nat}:(jX xs)[i]?=xs[i]?.map λx=>.tup [.int i,x]:=by
 unfold jX;simp only[getElem?_map,List.getElem?_zipIdx]
 cases xs[i]? with
 |none=>rfl
 |some x=>simp
theorem jc.enum{a e it:Addr}{xs:List V}(dj:e≠it):jc true C.G (jX xs) (λM=>ap M a (.list xs)) e (λi=>[(e,og it i),(it,gD "list_iterator" λvs=>vs=#[.ref a,.int i 0])]):=⟨λA Z L H i s Q E S h=>by
 lk
 lk
 obtain⟨_,o,ho,hp⟩:=S.iY
 lk
 obtain⟨old,rfl⟩:=hp Z (.refl _);exact wpAny_pyIter_enum (i:=(i:Int)) ho h,λA Z L H i s eI hh ht hok S=>by
 lk
 obtain⟨_,o,ho,hp⟩:=S.iY
 lk
 obtain⟨old,rfl⟩:=hp Z (.refl _)
 lk
 refine gK (kS (C:=C) (S.e8 (List.Perm.swap ..))) λoi fv vw oh rV aN=>?_;subst aN
 lk
 refine dI (S.cell hok) λU ol fj vs n aN hv=>?_;subst aN;have eV:s.heap.IsListIter it a i:=(cz oi vw oh rV);have hl:s.heap.IsList a vs:=(eA _ fj rfl n rfl);refine Q9 (ht rfl) λd0 k pos aE=>?_;subst aE
 lk
 cases hx:vs[i]? with
 |none=>
  refine wpAny_pyNext_enum_end hh ho eV hl hx λh' he=>⟨?_,?_⟩
  ·rw[sM];have:=hv.length;rw[getElem?_eq_none (le_trans (le_of_eq this.symm) (by rw[length_toList];exact(Array.getElem?_eq_none_iff.mp hx)))];rfl
  ·exact(S.e8 (List.Perm.swap ..)).pi he|>.k_ (List.sublist_cons_self ..)
 |some v=>
  refine wpAny_pyNext_enum_item ho eV hl hx dj λh' TS ke hT hsz hk=>?_;refine wpAny_letOwnedTupleGo_enum TS λh2 TT iN=>?_;have aT:=(Array.getElem?_eq_some_iff.mp hx).1;have hl:=hv.length;rw[length_toList] at hl;have jJ:=gE (l:=xs) (i:=i) (aa ra aT hl)
  lk
  refine ai (tE hv jJ) λu hu hi=>?_;rw[hx] at hu
  lk
  cases hu
  have S1:=S.lr (o:=gL #[.int i s.toks,v] 0) rfl s.toks;have hz:=Zt.lQ Z (o:=gL #[.int i s.toks,v] 0) S.gU;have TU:e<s.heap.objs.size:=lt_size ho;have UN:it<s.heap.objs.size:=lt_size vw;refine dD ke λUR R4 R5 R6=>?_;have TV:h2.get? s.heap.objs.size=some (gL #[.int i s.toks,v] 0):=(iN.2 _ (Nat.ne_of_gt TU)).trans hT;refine(jo _ (.tup [.int i,xs[i]]) hz (by rw[sM,jJ];rfl) (.o3 (Zt.mY ..) (.cons .int (.one (hi.mono hz)))) ?_);refine S1.QE (c':=og it (i+1)) (d':=gD "list_iterator" λvs=>vs=#[.ref a,.int ((i+1:Nat):Int) 0]) dj (λx u Hm vf g=>?_) TT ((iN.2 it (Ne.symm dj)).trans R4) (λU U=>(iE v (by rw[Int.natCast_add];rfl))) (λU U=>(dc R5 _ R6 rfl)) rfl _
  by_cases Hn:x=s.heap.objs.size
  ·subst Hn;have g':(s.heap.push (gL #[.int i s.toks,v] 0)).get? s.heap.objs.size=some u:=g;rw[get?_push_size _ rfl] at g'
   cases g';exact TV
  ·have g':(s.heap.push (gL #[.int i s.toks,v] 0)).get? x=some u:=g;rw[get?_push_ne _ _ _ Hn] at g';exact(iN.2 x Hm).trans (hk x u Hm vf g')⟩
def tJ(a:Addr)(e:Addr)(l:bF):Prop:=∃it,e≠it/\l=[(e,og it 0),(it,gD "list_iterator" λvs=>vs=#[.ref a,.int ((0:Nat):Int) 0])]
theorem bx.enum{a e:Addr}{xs:List V}:bx true C (.ref e) ((e,.own (tJ a))::L) (jX xs) L λM=>ap M a (.list xs):=⟨λA Z H s x hh hx S=>by
 lk
 obtain rfl:=hx.ce
 lk
 refine ai S λl ex S=>?_
 cases ex with
 |cons x r=>
  obtain⟨it,dj,rfl⟩:=x
  have S1:au C.G A Z L ((e,og it 0)::(it,gD "list_iterator" λvs=>vs=#[.ref a,.int ((0:Nat):Int) 0])::H) s:=(ah _ r (S.perm (by refine List.Perm.trans ?_ List.perm_middle.symm;exact List.Perm.cons _ (perm_middle (l₁:=_)).symm)))
  refine bW S1.iY λU o ho hp=>?_;obtain⟨old,rfl⟩:=hp Z (.refl _);exact wpAny_pyIter_enum (i:=((0:Nat):Int)) ho (gI e _ Z rfl (.refl _) (.enum dj) S1)⟩
theorem bd.enum{Q:VP}{E:HP}{a:Addr}{xs:List V}(h:ap L a (.list xs))(q:∀e,Q (.ref e) ((e,.own (tJ a))::L)):bd C "enumerate" [.ref a] L Q E:=⟨λA Z H vs hR hv=>by
 obtain⟨i,r⟩:=hv.e7;refine av r.dN ?_;refine av i.ce ?_;refine .mk λs S=>?_
 lk
 refine dI (S.cell h) λU o ho ws n aN hw=>?_
 lk
 subst aN;refine call_enumerate_list (eA _ ho rfl n rfl) λh' he eV hz hk=>?_
 lk
 refine dD eV λoi vw oh rV=>?_;have S2:=(S.ed (c:=gD "list_iterator" λvs=>vs=#[.ref a,.int ((0:Nat):Int) 0]) (o:=oi) (by cases oi;cases rV;rfl) (λU U=>(dc oh _ rV rfl)) s.toks).ed (c:=og s.heap.objs.size 0) (o:=o5 s.heap.objs.size 0 .none) rfl (λU U=>(iE .none rfl)) s.toks
 dsimp only at S2;rw[size_push] at S2;have S3:au C.G A Z L ((s.heap.objs.size+1,og s.heap.objs.size 0)::(s.heap.objs.size,gD "list_iterator" λvs=>vs=#[.ref a,.int ((0:Nat):Int) 0])::H) {s with heap:=h',toks:=s.toks}:=S2.ext λb u g=>?_
 ·refine ai S3 λl ex S3=>?_;refine PQ.mk' (L':=(s.heap.objs.size+1,.own (tJ a))::L) (ah ([(s.heap.objs.size+1,og s.heap.objs.size 0),(s.heap.objs.size,gD "list_iterator" λvs=>vs=#[.ref a,.int ((0:Nat):Int) 0])]++l) (.cons (c:=.own (tJ a)) (ah _ (Nat.succ_ne_self _) rfl) ex) (S3.perm ?_)) .ref (q _)
  refine List.Perm.trans perm_middle ?_;exact List.Perm.cons _ perm_middle
 ·as_aux_lemma=>
  by_cases h1:b=s.heap.objs.size+1
  ·subst h1
   have:((s.heap.push oi).push (o5 s.heap.objs.size 0 .none)).get? (s.heap.objs.size+1)=some (o5 s.heap.objs.size 0 .none):=by have:=get?_push_size (s.heap.push oi) (o:=o5 s.heap.objs.size 0 .none) rfl;rwa [size_push] at this
   rw[show _=_ from this] at g
   cases g;exact he
  ·as_aux_lemma=>
   have g1:((s.heap.push oi).push (o5 s.heap.objs.size 0 .none)).get? b=some u:=g;rw[get?_push_ne _ _ _ (by rw[size_push];exact h1)] at g1;by_cases h2:b=s.heap.objs.size
   ·as_aux_lemma=>
    subst h2;rw[get?_push_size _ (by cases oi;cases rV;rfl)] at g1
    cases g1;exact vw
   ·rw[get?_push_ne _ _ _ h2] at g1;exact hk b u g1⟩
end
section
variable{C:Cx}{L L':HL}{E:HP}{a:Addr}{xs:List V}{v:V}{x y:Str}
noncomputable def oW (x y:Str):List Str:=Builtin.Str.partsBetween x (Builtin.Str.occurrences x y 0 x.length (x.length+1)) y.length
theorem Cj:∀(k:Nat)(ss:List Str),aZ Z (ss.map V.str) (strsFrom k ss)
 |_,[]=>.nil
 |k,s::r=>.cons .str (Cj (k+1) r)
theorem ax.split{Q:V×List V->HP}(q:Q (.bi "str.split",[.str x]) L):ax C (.str x) "split" L Q E:=⟨λA Z H u pl hR hu=>by obtain⟨_,rfl⟩:=hu.rn;exact .mk λs S=>GM.split (PQ.mk' S ⟨.bi,.one .str⟩ q)⟩
theorem br.split{Q:VP}(h1:(decide (x.length<y.length)||decide (Builtin.Str.strKind x<Builtin.Str.strKind y))=false)(hy:(y.length==0)=false)(hf:(Builtin.Str.occurrences x y 0 x.length (x.length+1)).isEmpty=false)(hx:x.length<1000000)
  (hn:(oW x y).length<1000000)(q:∀d,Q (.ref d) ((d,.list ((oW x y).map V.str))::L)):br C "str.split" [.str x,.str y] L Q E:=⟨λA Z H vs hR hv=>by
 lk
 obtain⟨i,r⟩:=hv.e7
 lk
 cases r with|cons j r=>
 obtain rfl:=r.dN
 lk
 cases i with|@str _ t=>
 lk
 cases j with|@str _ u=>
 refine .mk λs S=>?_;refine call_meets F.slot_str_split (typeIs_str _ _ _) F.entry_str_split (F.args_str_split_2 _ _) (meets_str_split_sep x y t u h1 hy hf (by rw[sizeLine_eq];exact aa f8 hx) (by rw[sizeLine_eq];exact Nat.le_of_lt (Nat.lt_trans hn (by decide)))) ?_;exact PQ.mk' (S.new (c:=.list ((oW x y).map V.str)) rfl (co _ 0 rfl (Cj _ _)) _) .ref (q _)⟩
end
theorem IU:typeLookup (.type "list") "keys"=pure none:=by mg_lt
theorem Ku{A:Around}{E:VS}{s:Shared}{a:Addr}{xs:Array Value}{k:Nat}{Q:Option Value->SP}(hA:A.handled=none)(hx:s.heap.get? a=some (listOf xs k))
  (h:∀h' tk,(∀b o,s.heap.get? b=some o->h'.get? b=some o)->Q none {s with heap:=h',toks:=tk}):wpAny (model prog w) A (getAttr? (.ref a) "keys") Q E s:=by
 obtain⟨hp,g,d,tk,os⟩:=s;have hT:∀vx,(⟨hp,g,d,vx,os⟩:Shared).TypeIs (.ref a) "list":=λU=>(ah _ hx rfl)
 have f1:=sub_AttributeError;have f3:=F.slot_list_getattribute.lookup;have f4:=F.slot_list_getattribute.bind (.ref a);have f5:=am_list_getattr_none
 repeat (any_goals (first|assumption|exact hT _|((with_reducible show wpAny _ _ (call (Value.builtin "list.__getattribute__") _ _) _ _ _);refine call_meets F.slot_list_getattribute (hT _) am_entry_list_getattribute (F.args_list_getattribute_2 _ _) (meets_getattribute_miss_list a xs k #[] "keys" _ IU (by z_go) (by z_go)) (bj hx hA (λh' vx e cr=>?_)))|wp_step))
 lk
 refine i_ cr.there λt' u' he=>?_;show wpAny _ _ (getattributeRaised _ _ _ _ _ _ _) _ _ _;unfold getattributeRaised
 repeat (any_goals (first|assumption|wp_step))
 exact h _ _ cr.keeps
theorem td:plainId "dict.update.loop"=true:=by z_go
theorem Ck:entryFor table "dict.update.loop"=some Builtin.«dict.update.loop»:=by
 first
  |exact entryFor_of_fast (by x_go)
  |exact entryFor_of_tree (by x_go)
noncomputable def lX (p:Int×V):V:=.tup [.int p.1,p.2]
abbrev TW(a:Addr)(i:Nat):P0:=gD "list_iterator" λvs=>vs=#[.ref a,.int i 0]
section
variable{C:Cx}{L L':HL}{H:bF}{A:Around}{a I d:Addr}{R:Result->SP}
theorem Ly{kvs:List (Int×V)}(hh:A.handled=none)(h:ap L a (.list (kvs.map lX)))(hl:kvs.length<1000000):∀(m i:Nat)(oj:List (Int×V))(n:Nat)(Z:Zt)(s:Shared),m+i=kvs.length->oj.length<=i->
  au C.G A Z L ((I,TW a i)::(d,.dict (cD V.int oj) n)::H) s->
  (∀Z' n' s',Zt.Le Z Z'->au C.G A Z' L ((d,.dict (cD V.int ((kvs.drop i).foldl (λm p=>df m p.1 p.2) oj)) n')::H) s'->R (.ok (.ret .none)) s')->
  codeAny (model aH C.G.w) A (.builtin "dict.update.loop" ⟨[.ref d,.ref I,.int i 0,.none],[]⟩) R s:=by
 intro m
 induction m with
 |zero=>
  intro i oj n Z s hm hc S k;refine codeAny_builtin Ck ?_;rw[Around.under_plainId td];refine gT λzP zk=>?_;refine gK (kS S) λo fv ho oh hd aN=>?_;subst aN
  lk
  lk
  refine dI (S.cell h) λU ol fj vs n' aN hv=>?_;subst aN;have bz:=hv.length;refine zk ?_;rw[length_map,length_toList] at bz;refine wB (wpAny_pyNext_list_end hh (cz o ho oh hd) (eA _ fj rfl n' rfl) (Array.getElem?_eq_none (aa ⟨3,0,[.en (.eU 0 0) .v1,.aA 2 1],.bY 2 0⟩ hm bz)) λh' he=>?_);refine wB (wP (wP (k Z n _ (.refl _) ?_)));refine(List.drop_eq_nil_of_le (by exact aa ⟨2,0,[.en (.eU 0 0) .v1],.bY 1 0⟩ hm))▸?_;exact S.pi he
 |succ m ih=>
  intro i oj n Z s hm hc S k;refine codeAny_builtin Ck ?_;rw[Around.under_plainId td];refine gK (kS S) λo fv ho oh hd aN=>?_;subst aN;refine gT λzP zk=>?_;refine dI (S.cell h) λU ol fj vs n' aN hv=>?_;subst aN;refine zk ?_;have bz:=hv.length;rw[length_map,length_toList] at bz;have aT:i<kvs.length:=aa ⟨3,0,[.en (.a (.aj 0 1) .v1) .v2],.bg 1 2⟩ hm;have hx:vs[i]?=some vs[i]:=Array.getElem?_eq_getElem (aa ⟨4,0,[.en (.a (.aj 0 1) .v1) .v2,.aA 3 2],.bg 1 3⟩ hm bz);refine ai (tE hv (show(kvs.map lX)[i]?=some (lX kvs[i]) by rw[getElem?_map,gE aT];rfl)) λu hu hi=>?_;rw[hx] at hu
  cases hu
  refine wB (wpAny_pyNext_list_item (cz o ho oh hd) (eA _ fj rfl n' rfl) hx λh' ke hs=>?_);refine gT λzP zk=>?_;refine dD ke λo' cI n6 ei=>?_;have S1:=tG (fs':=λvs=>vs=#[.ref a,.int ((i+1:Nat):Int) 0]) (t:=s.toks) S hs cI n6 ei rfl;refine dJ hi.cy λt ws nt et hz hw=>?_;obtain⟨ws⟩:=ws;have hT:=S1.keep _ _ hz;refine zk ?_
  cases hw with|@cons _ w1 _ _ i1 r=>
  cases r with|@cons _ w2 _ _ i2 r=>
  obtain rfl:=r.dN
  cases i1 with|@int _ tk=>
  rw[et];have TX:({s with heap:=h'}:Shared).TypeIs (.ref t) "tuple":=(ah _ hT rfl)
  refine wB (wpAny_holding (wB (wpAny_tryCatch ?_)));refine wB (wpAny_typeOf TX ?_);refine bm_if_true rfl ?_;refine wB (wpAny_seqItems hT rfl (wP ?_));refine wpAny_holding ?_;have S2:=S1.e8 (List.Perm.swap ..)
  lk
  refine bW S2.iY λU od fT TY=>?_;refine dD (kN (dX C.G.w) rfl fT TY) λus Ho TZ U=>?_;refine wpAny_dictSet_pairs (hsz:=by rw[Ho.len,sizeLine_eq];exact aa ⟨4,0,[.aJ 0 1000000,.en (.a (.aj 1 1) .v2) .v0,.bY 3 2],.aS 3 16777216⟩ hl hm hc) (((dX C.G.w).is Z kvs[i].1 (.int kvs[i].1 tk)).mp .int) TZ λh2 rW iN=>?_;refine dn (sV (dX C.G.w) rfl rW (Ho.set i2)) λo2 n2 dM om=>?_;refine wP ⟨plainId_quiet td _,?_⟩;refine ih (i+1) (df oj kvs[i].1 kvs[i].2) n2 Z _ (aa ⟨3,0,[.en (.a (.aj 0 1) .v1) .v2],.en (.a .v0 (.aj 1 1)) .v2⟩ hm) ?_ ((S2.ma iN dM om (s.toks+1)).e8 (List.Perm.swap ..)) λZ' n' s' zK S4=>k Z' n' s' zK ?_
  ·unfold df
   split
   ·rw[length_map];exact aa FM hc
   ·rw[length_append];show oj.length+1<=_;exact aa ⟨2,0,[.bY 0 1],.ln (.aj 0 1) (.aj 1 1)⟩ hc
  ·refine(List.drop_eq_getElem_cons aT)▸?_;refine(List.foldl_cons)▸?_;exact S4
theorem bd.QF{Q:VP}{E:HP}{kvs:List (Int×V)}(h:ap L a (.list (kvs.map lX)))(hl:kvs.length<1000000)(q:∀d n,Q (.ref d) ((d,.di (kvs.foldl (λm p=>df m p.1 p.2) []) n)::L)):bd C "dict" [.ref a] L Q E:=⟨λA Z H vs hR hv=>by
 obtain⟨i,r⟩:=hv.e7;refine av r.dN ?_;refine av i.ce ?_;refine .mk λs S=>?_;refine callType_codes (Q₁:=λobj am=>obj=.ref s.heap.objs.size/\am={s with heap:=s.heap.push {cls:=.type "dict",data:=.dict #[]}}) F.kt_called_dict (F.kt_typeCall_dict_1 _) F.entry_dict_init (kt_code_dict_new _ ⟨rfl,rfl⟩) ?_
 rintro obj am ⟨rfl,rfl⟩
 have S1:=S.ed (c:=.dict [] 0) (o:={cls:=.type "dict",data:=.dict #[]}) rfl (dc nodup_nil ([]) rfl .nil) s.toks
 have pv:(s.heap.push {cls:=.type "dict",data:=.dict #[]}).DictOf (intKind aH C.G.w) s.heap.objs.size []:=Heap.DictOf.new s.heap
 refine(bj pv.typeIs (F.args_dict_init_2 _ _) ?_);refine gT λzP zk=>?_;refine dI (S1.cell h) λU ol fj ws n' aN hw=>?_;subst aN;have fj:(s.heap.push {cls:=.type "dict",data:=.dict #[]}).get? a=some (listOf ws n'):=fj
 refine zk ?_;refine wB ?_;refine wB (wpAny_notOrdered_dict pv.typeIs ?_);refine wP ?_;refine wB (wpAny_typeOf (T:="list") (ah _ fj rfl) ?_)
 refine bm_if_true rfl ?_;refine wB (Ku hR.handled fj λh2 tk hk=>?_);refine bm_if_true rfl ?_;refine wB (wpAny_rule ?_);refine wB (wpAny_pyIter_list (eA _ (hk _ _ fj) rfl n' rfl) ?_);refine wP ⟨plainId_quiet td _,?_⟩;refine Ly (A:=A.in1) (C:=C) (L:=L) (H:=H) hR.handled h hl kvs.length 0 [] 0 Z _ rfl (Nat.le_refl _) ((tH (fs:=λvs=>vs=#[.ref a,.int ((0:Nat):Int) 0]) (n:="list_iterator") (t:=tk) (S1.ext (t:=tk) hk) rfl).around rfl) λZ' n2 s' hz S4=>⟨rfl,?_⟩
 exact PQ.lu hz (au.around (A':=A) S4.gw rfl) .ref (q _ n2)⟩
end
noncomputable abbrev XB:LV:=[.ref 46,.type "Exception",.type "BaseException",.type "object"]
noncomputable abbrev iu (dd:Option Addr) (t:Addr):Obj:={cls:=.ref 59,dict:=dd,data:=.fields #[.ref t,.none,.none,.none,.bool false,.none]}
section
variable{w:World}{A:Around}{R:Result->SP}{h:Heap}{g:Array GenState}{d:Drawn}{t:Nat}{os:OsState}
variable{nm q:Str}{N:Addr}{bs:LV}{pw:Bool}{sn:List Str}{sub:LV}{ab:Bool}{col:Option Bool}{dd:Option Addr}{k0 k1 k2 k3 k5:Option Value}
theorem I6{E:VS}{rest:LV}{Q:Unit->SP}(hC:h.get? 59=some (excClassObj nm q 59 N bs XB pw sn sub ab col dd k0 k1 k2 k3 k5 "Exception.__new__"))
  (hq:Q () ⟨h,g,d,t,os⟩):wpAny M A (checkBuiltinCall "Exception.__new__" ⟨.ref 59::rest,[]⟩) Q E ⟨h,g,d,t,os⟩:=by
 have F:=PySem.F.excBase_Exception;have QG:(Value.ref 59::XB).contains (.type "Exception")=true:=by z_go
 have uk:=F.noStar;simp only[checkBuiltinCall,F.newKind,F.newSplit,F.newRow]
 repeat (first|refine wpAny_loadPart_at hC ?_|(refine wpAny_isSubtype_exc hC ?_;rw[QG])|refine wpAny_staticBase_exc hC ?_|refine wpAny_madeBy_exc hC ?_|simp only[bne_self_eq_false,false_eq_true,if_false]|wp_step)
 exact hq
theorem QH{rest:LV}(hC:h.get? 59=some (excClassObj nm q 59 N bs XB pw sn sub ab col dd k0 k1 k2 k3 k5 "Exception.__new__"))
  (hq:R (.ok (.ret (.ref (h.objs.size+1)))) ⟨(h.push {cls:=.type "tuple",data:=.seq rest.toArray}).push (iu none h.objs.size),g,d,t,os⟩)(Fi:rest.length<=sizeLine):
  codeAny (model aH w) A (.builtin "Exception.__new__" ⟨.ref 59::rest,[]⟩) R ⟨h,g,d,t,os⟩:=by
 have F:=PySem.F.excBase_Exception;have UK:=F.ends;have T3:(Value.ref 59::XB).contains (.type "Exception")=true:=by z_go
 have T4:(Value.ref 59::XB).contains (.type "AttributeError")=false:=by z_go
 have T5:(Value.ref 59::XB).contains (.type "NameError")=false:=by z_go
 refine codeAny_builtinAt F.entry ?_;unfold Builtin.«BaseException.__new__»;refine PySem.wpAt_bind ?_;refine PySem.wpAt_bind (PySem.wpAt_stack λp below=>PySem.wpAt_of_wpAny ?_)
 wp_walk
 refine PySem.wpAt_of_wpAny ?_;refine(F.owner)▸?_
 repeat (first|with_reducible refine wpAny_madeHere_exc F.canon hC ?_|with_reducible refine wpAny_loadPart_at hC ?_|(with_reducible refine wpAny_isSubtype_exc hC ?_;first|rw[T3]|rw[T4]|rw[T5])|wp_step)
 refine(?_:R _ _);rw[size_push];exact hq
theorem O6{rest:LV}(hC:h.get? 59=some (excClassObj nm q 59 N bs XB pw sn sub ab col dd k0 k1 k2 k3 k5 "Exception.__new__"))(hi:Looks (model aH w) h (typeLookup (.ref 59) "__init__") (some init))
  (hb:∀self,Looks (model aH w) h (bindSpecial init self) (init,[self]))(Fi:rest.length<=sizeLine)
  (hq:cw w (A.under (.builtin "type.__call__" ⟨.ref 59::rest,[]⟩)) (.call init ⟨.ref (h.objs.size+1)::rest,[]⟩) (InitBack (h.objs.size+1) R) ⟨(h.push {cls:=.type "tuple",data:=.seq rest.toArray}).push (iu none h.objs.size),g,d,t,os⟩):
  cw w A (.call (.ref 59) ⟨rest,[]⟩) R ⟨h,g,d,t,os⟩:=by
 have f1:=tc_lookup;have f2:=tc_bind (.ref 59);refine hU (aP ?_)
 repeat (any_goals (first|assumption|with_reducible refine wpAny_loadPart_at hC ?_|wp_step))
 refine(bj rfl rfl (t4 (Code.quiet_builtin _ (by z_go)) (wS _) (aP (wpAny_check_type_call_sub hC (qv entry_typeCall ?_)))));unfold Builtin.«type.__call__»;refine de ?_;refine nB (aP (wpAny_mroOf_exc hC ?_));refine de ?_;refine nB (aP (wpAny_madeBy_exc hC ?_));refine nB (aO ?_);refine nB (b9 (j3 ?_));refine zi (codeAny_call_builtin_code (Code.quiet_builtin _ (by z_go)) (I6 hC (QH hC ?_ Fi)));have k:∀b o,h.get? b=some o->((h.push {cls:=.type "tuple",data:=.seq rest.toArray}).push (iu none h.objs.size)).get? b=some o:=λb o e=>get?_push_of_some _ (get?_push_of_some _ e)
 have hx:((h.push {cls:=.type "tuple",data:=.seq rest.toArray}).push (iu none h.objs.size)).get? (h.objs.size+1)=some (iu none h.objs.size):=by heap_get
 have t1:Looks (model aH w) ((h.push {cls:=.type "tuple",data:=.seq rest.toArray}).push (iu none h.objs.size)) (typeOf (.ref (h.objs.size+1))) (.ref 59):=(Looks.ld hx).andThen .now
 dsimp only;refine nB (m:=isInstance _ _) ?_;unfold isInstance;refine nB (jv t1 (aP (wpAny_isSubtype_exc (k _ _ hC) ?_)));rw[(show(Value.ref 59::XB).contains (.ref 59)=true by z_go)];refine de ?_;refine nB (b9 ?_);unfold callSpecial? specialOf;refine nB (nB (jv t1 (jv (hi.keeps k) ?_)));refine b9 (nB (jv ((hb (.ref (h.objs.size+1))).keeps k) ?_));refine nB (j3 ?_);refine j4 hq λr s' z=>?_;rcases r with e|(v|_|_|_)<;>first|exact z|exact z.elim|skip
 obtain⟨rfl,z⟩:=z;exact aO (aO z)
end
structure kh(K:Frag)(nm q:Str)(N:Addr)(bs:List Value)(sn:List Str)(sub:List Value)(ab:Bool)(col:Option Bool)(dd:Option Addr)(k0 k1 k2 k3 k5:Option Value):Prop where
 obj:K.lookup 59=some (excClassObj nm q 59 N bs XB true sn sub ab col dd k0 k1 k2 k3 k5 "Exception.__new__")
 init:cV K 59 "__init__" 36
 set:findIn K (.ref 59) "__setattr__"=some (some (.builtin "object.__setattr__"))
noncomputable def gG:P0:=.raw λU U o=>∃t,o=iu none t
noncomputable def jQ (d:Addr):P0:=.raw λU U o=>∃t,o=iu (some d) t
def lB(attrs:SV)(a:Addr)(l:bF):Prop:=∃d,l=[(a,jQ d),(d,.d_ attrs)]
section
variable{w:World}{A:Around}{E:VS}{h:Heap}{g:Array GenState}{d:Drawn}{t:Nat}{os:OsState}
variable{nm q:Str}{N:Addr}{bs:LV}{pw:Bool}{sn:List Str}{sub:LV}{ab:Bool}{col:Option Bool}{dd:Option Addr}{k0 k1 k2 k3 k5:Option Value}
theorem O7{a:Addr}{oe:Obj}{rest:LV}{Q:Unit->SP}
  (hC:h.get? 59=some (excClassObj nm q 59 N bs XB pw sn sub ab col dd k0 k1 k2 k3 k5 "Exception.__new__"))(he:h.get? a=some oe)(R7:oe.cls=.ref 59)(hq:Q () ⟨h,g,d,t,os⟩):
  wpAny M A (checkBuiltinCall "Exception.__init__" ⟨.ref a::rest,[]⟩) Q E ⟨h,g,d,t,os⟩:=by
 have F:=PySem.F.excBase_Exception;have UI:=F.noStar;simp only[checkBuiltinCall,F.initKind,F.initSplit,F.initRow]
 repeat (first|(with_reducible refine wpAny_loadPart_at he ?_;rw[R7])|with_reducible refine wpAny_loadPart_at hC ?_|(with_reducible refine wpAny_isSubtype_exc hC ?_;rw[(show(Value.ref 59::XB).contains (.type "Exception")=true by z_go)])|wp_step)
 refine wpAny_onRaise ?_
 rw[show∀(a b:String)(n:Nat),Bind.check ⟨.positional,"*","Exception",.self,[⟨"args",.varPos,false⟩]⟩ a b n (List.map (λx=>x.fst) ({pos:=Value.ref 0::rest}:Args).kw)=pure () from
  λa b n=>check_star_args _ _ _ _ _ _]
 exact wP hq
theorem JC{a t0:Addr}{dx:Option Addr}{v:Value}{Q:VS}
  (hC:h.get? 59=some (excClassObj nm q 59 N bs XB pw sn sub ab col dd k0 k1 k2 k3 k5 "Exception.__new__"))(he:h.get? a=some (iu dx t0))
  (hq:Q .none ⟨(h.push {cls:=.type "tuple",data:=.seq #[v]}).update a (Obj.mapFields (·.setIfInBounds 0 (.ref h.objs.size))),g,d,t,os⟩):
  wpAny (model aH w) A (call (.builtin "Exception.__init__") [.ref a,v]) Q E ⟨h,g,d,t,os⟩:=by
 have F:=PySem.F.excBase_Exception;refine wpAny_call (codeAny_call_builtin F.init.plain F.initEntry (O7 hC he rfl ?_));unfold Builtin.«BaseException.__init__»;dsimp only;rw[if_neg (by simp)];have Fj:=get?_push_of_some (h:=h) {cls:=.type "tuple",data:=.seq #[v]} he
 refine wB (wpAny_newObj_type (wB (wB (wpAny_field Fj rfl rfl (wB (wpAny_setField Fj rfl (by show 0<6;decide) ?_))))) (by show 1<=sizeLine;rw[sizeLine_eq];decide));exact wpAny_letGo (wP hq)
end
section
variable{C:Cx}{L L':HL}{E:HP}{a:Addr}
variable{nm q:Str}{N:Addr}{bs:LV}{sn:List Str}{sub:LV}{ab:Bool}{col:Option Bool}{dd:Option Addr}{k0 k1 k2 k3 k5:Option Value}
theorem Na:findCls [] (.type "Exception") (.type "type") "__init__"=some (.val (.builtin "Exception.__init__")):=by rfl
theorem ax.xX{Q:V×List V->HP}(q:Q (.bi "Exception.__init__",[]) L):ax C (.type "Exception") "__init__" L Q E:=⟨λA Z H x pl hR hx=>by
 lk
 cases hx
 refine .mk λs S=>?_;have X:Frag.In [] s.heap:=λU U e=>by cases e
 have hs:Manifest.isStub "Exception"=false:=by z_go
 have QI:opaqueClassAbove (.type "Exception")=pure none:=by unfold opaqueClassAbove;dsimp only;rw[hs];rfl
 have L0:Looks (model aH C.G.w) s.heap (typeOf (.type "Exception")) (.type "type"):=Looks.of_pure (by x_go)
 refine wpAny_bind (wpAny_bind (L0.here ((looks_findIn X type_tga).here ?_)));dsimp only;refine(if_pos canon_tga)▸?_;refine wpAny_bind (wpAny_mono (Q:=λv=>PQ RM C.G A Z H Q (v,[])) (E:=PE C.G A Z H E) ?_ (λU U z=>wP z) λU U z=>z)
 refine cls_open X (Looks.of_pure QI:Looks (model aH C.G.w) s.heap (opaqueClassAbove (.type "Exception")) none) L0 type_tga (looks_hook X (r:=none) (by rfl)) (by show subIn [] _ _=_;rfl) Na
  (wP (by show wpAny _ _ (handedOut _) _ _ _;rw[handedOut_of (by z_go)];exact wP (PQ.mk' S.toks ⟨.bi,.nil⟩ q)))⟩
theorem br.xX{Q:VP}{v:V}(B:Bs C.G C.K)(X:kh C.K nm q N bs sn sub ab col dd k0 k1 k2 k3 k5)(h:ap L a (.p gG))(qq:Q .none L):br C "Exception.__init__" [.ref a,v] L Q E:=⟨λA Z H vs hR hx=>by
 lk
 cases hx with|@cons _ v1 _ _ i1 r1=>
 lk
 cases r1 with|@cons _ v' _ _ i2 r2=>
 obtain rfl:=r2.dN;obtain rfl:=i1.ce;refine .mk λs S=>?_
 lk
 refine i_ h.split λpre post aw=>?_;subst aw
 lk
 obtain⟨l,e,S⟩:=S
 lk
 refine ew e.at λl1 l2 l3 aE x1 hq x3=>?_;subst aE;have hq:l2=[(a,gG)]:=hq
 lk
 subst hq
 lk
 refine bW (S.cells (a,gG) (by simp)) λhz o ho hp=>?_;obtain⟨t0,rfl⟩:=hp Z (.refl _);obtain⟨hh,g,dr,tk,os⟩:=s;dsimp only at ho;refine JC (B.fu.keeps S.h0 _ _ X.obj) ho ?_;have e1:l1++([(a,gG)]++l3)++H=l1++(a,gG)::(l3++H):=by simp
 have S1:St C.G A Z (l1++([(a,gG)]++l3)++H) ⟨hh.push {cls:=.type "tuple",data:=.seq #[v']},g,dr,tk,os⟩:=S.push _ tk
 rw[e1] at S1;have S2:=S1.put (c':=gG) (Heap.SameBut.update ..) (v8 (·.setIfInBounds 0 (.ref hh.objs.size)) (get?_push_of_some (h:=hh) {cls:=.type "tuple",data:=.seq #[v']} ho) rfl) (λU U=>(iE _ rfl)) tk
 rw[←e1] at S2;exact⟨Z,_,_,.refl _,(ah _ (x1.append (.cons (c:=.p gG) rfl x3)) S2),.none,qq⟩⟩
end
section
open PySem.Builtin PySem.Builtin.ObjectAttr
section
variable{w:World}{A:Around}{E:VS}{g:Array GenState}{dr:Drawn}{tk:Nat}{os:OsState}{hh:Heap}{d a:Addr}{K:Frag}
variable{nm q:Str}{N:Addr}{bs:LV}{sn:List Str}{sub:LV}{ab:Bool}{col:Option Bool}{dd:Option Addr}{k0 k1 k2 k3 k5:Option Value}
theorem Dj{es:List DictEntry}{k:Nat}{attrs attrs':SV}{rX:Tok}{Q:Fin->SP}(h2:hh.get? d=some (dictOf es k))(fw:fZ Z w.params attrs es)(ha:h8 attrs n v attrs')(hz:Is Z v z)(hl:attrs'.length<=100)
  (qq:∀h' ij k',SameBut d hh h'->h'.get? d=some (dictOf ij k')->fZ Z w.params attrs' ij->Q (.done (.ret .none)) ⟨h',g,dr,tk+1,os⟩):wpAny (model aH w) A (storeInDict d (.str n rX) n z) Q E ⟨hh,g,dr,tk,os⟩:=by
 refine wB (wP (wB ?_));refine wB (wB (wpAny_askSetting (wP (wB (wpAny_mkText (wpAny_bind (wpAny_loadPart h2 ?_)))))));dsimp only
 have cc:(!(es.toArray).any (·.key.isStr n)&&(es.toArray).any (·.refKey))=false:=by rw[show(es.toArray).any (·.refKey)=false by rw[←any_toList];exact fw.noRef,Bool.and_false]
 rw[aRefKeyMayBeTheName_at,cc];have P:=putName_dict n (PyData.keyHash w.params n) (.str n tk) z es k;have la:=ha.put tk hz fw
 have gx:(hh.update d (Obj.putName n (PyData.keyHash w.params n) (.str n tk) z)).get? d=some (dictOf (putL n (PyData.keyHash w.params n) (.str n tk) z es) (putN n es k)):=by rw[←P];exact get?_update_self _ h2 (by rw[P];rfl)
 refine wpAny_updatePart h2 ?_;refine wB (wpAny_lookBehind gx (pastItsLine_dict (by rw[size_toArray,sizeLine_eq];exact aa FI (show(putL n (PyData.keyHash w.params n) (.str n tk) z es).length<=100 by rw[la.length];exact hl))) ?_);exact wP (qq _ _ _ (Heap.SameBut.update ..) gx la)
theorem kh.cl(h:kh K nm q N bs sn sub ab col dd k0 k1 k2 k3 k5):clsIn K 59=some {name:=nm,bases:=bs,mro:=.ref 59::XB,ns:=N,qualname:=q,hasDict:=true,slotNames:=sn,subclasses:=sub,abstract:=ab,collection:=col,hasDel:=false}:=by unfold clsIn;rw[h.obj]
theorem Fk{od:Option Obj}{Q:Unit->SP}(X:K.In hh)(hc:kh K nm q N bs sn sub ab col dd k0 k1 k2 k3 k5)(I:InstAt hh a ox 59 od)(ht:takerIn K 59 name=some none)
  (h:∀b rX,wpAny (model aH w) A.in1 (storeInOwnDict (.ref a) (.ref 59) (.str name rX) name v b) (λfin s'=>match fin with|.done (.ret _)=>Q () s'|_=>False) (λe s'=>E e s') ⟨hh,g,dr,tk+1,os⟩):wpAny (model aH w) A (setAttr (.ref a) name v) Q E ⟨hh,g,dr,tk,os⟩:=by
 refine set_plain (s:=⟨hh,g,dr,tk,os⟩) X I hc.set ?_;have SF:=PySem.F.store_object;have fh:=hc.cl;refine codeAny_call_builtin SF.slot.plain SF.entry (@check_slot (model aH w) _ _ ⟨hh,g,dr,tk+1,os⟩ "object.__setattr__" "object" "__setattr__" (.ref a) [.str name tk,v] [] _ SF.kind SF.split (I.type.andThen (looks_mroIn X (by unfold mroIn;rw[fh,Option.bind_some,if_neg (by intro x;cases x)];rfl)):Looks (model aH w) hh (isInstance (.ref a) (.type "object")) true) (SF.args (.ref a) (.str name tk) v) ?_)
 refine ai (Option.bind_eq_some_iff.mp ht) λi4 ha hr=>?_
 have L3:Looks (model aH w) hh (storeTaker? i4) none:=by
  cases i4 with
  |none=>exact .now
  |some a=>
   refine ai (Option.map_eq_some_iff.mp hr) λb hb hr=>?_;refine(looks_takesIn X hb).andThen ?_
   cases b<;>cases hr
   exact .now
 rw[osa_eq,refuse_eq];refine wB (wB (I.type.here (wpAny_bind (((looks_clsIn X fh).andThen .now:Looks (model aH w) hh (mroOf (.ref 59)) (.ref 59::XB)).here ?_))));rw[refuseLoop_ref,refuseLoop_ref,PySem.F.store_Exception.passes];refine wP (wB (I.type.here (wB ((looks_findIn X ha).here (wB (L3.here ?_))))));refine wpAny_mono (h _ _) (λfin s' z=>?_) (λU U z=>z)
 cases fin with
 |again=>exact z.elim
 |done f=>cases f<;>first|exact z|exact z.elim
end
section
variable{C:Cx}{L L':HL}{E:HP}{a:Addr}
variable{nm q:Str}{N:Addr}{bs:LV}{sn:List Str}{sub:LV}{ab:Bool}{col:Option Bool}{dd:Option Addr}{k0 k1 k2 k3 k5:Option Value}
theorem db.exc{attrs attrs':SV}{Q:HP}(B:Bs C.G C.K)(X:kh C.K nm q N bs sn sub ab col dd k0 k1 k2 k3 k5)(ht:takerIn C.K 59 n=some none)(ha:h8 attrs n v attrs')(h:bK L a (.own (lB attrs)) (.own (lB attrs')) L')(hl:attrs'.length<=100)(qq:Q L'):db C (.ref a) n v L Q E:=⟨λA Z H x z hR hx hz=>by
 obtain rfl:=hx.ce;refine .mk λs S=>?_
 lk
 refine dn h.split λpre post aw aE=>?_;subst aw;subst aE
 lk
 obtain⟨l,e,S⟩:=S
 lk
 refine ew e.at λl1 l2 l3 aE x1 hq x3=>?_;subst aE
 lk
 obtain⟨dx,rfl⟩:=hq
 lk
 refine bW (S.cells (a,jQ dx) (by simp)) λU o ho hp=>?_
 lk
 obtain⟨t0,rfl⟩:=hp Z (.refl _)
 lk
 refine Br (S.cells (dx,.d_ attrs) (by simp)) λU od fT gA ku es k jK fw=>?_;subst jK;obtain⟨hh,g,dr,tk,os⟩:=s;have KX:=B.fu.keeps S.h0;have L0:=looks_clsIn (M:=model aH C.G.w) KX X.cl;refine Fk KX X (⟨ho,rfl,rfl,fT⟩:InstAt hh a (iu (some dx) t0) 59 (some (dictOf es k))) ht λb rX=>?_;dsimp only at L0 ho fT;refine wB (wP (wB (wB (wpAny_loadPart ho (wB (L0.at ?_))))));refine wP (a:=some dx) (Dj fT fw ha hz hl λh' ij k' hs ei la=>?_);rw[(show l1++([(a,jQ dx),(dx,.d_ attrs)]++l3)++H=(l1++[(a,jQ dx)])++(dx,.d_ attrs)::(l3++H) by simp)] at S;have S2:=S.put (c':=.d_ attrs') hs ei (mW (ha.nodup gA) hl _ _ rfl la) (tk+1+1);rw[←(show l1++([(a,jQ dx),(dx,.d_ attrs')]++l3)++H=(l1++[(a,jQ dx)])++(dx,.d_ attrs')::(l3++H) by simp)] at S2;exact⟨Z,_,(),.refl _,(ah _ (x1.append (.cons (c:=.own (lB attrs')) (iE dx rfl) x3)) S2),rfl,qq⟩⟩
theorem db.R8{n:Str}{v:V}{Q:HP}(B:Bs C.G C.K)(X:kh C.K nm q N bs sn sub ab col dd k0 k1 k2 k3 k5)(ht:takerIn C.K 59 n=some none)(h:bK L a (.p gG) (.own (lB [(n,v)])) L')(qq:Q L'):db C (.ref a) n v L Q E:=⟨λA Z H x z hR hx hz=>by
 obtain rfl:=hx.ce;refine .mk λs S=>?_
 lk
 refine dn h.split λpre post aw aE=>?_;subst aw;subst aE
 lk
 obtain⟨l,e,S⟩:=S
 lk
 refine ew e.at λl1 l2 l3 aE x1 hq x3=>?_;subst aE;have hq:l2=[(a,gG)]:=hq
 lk
 subst hq
 lk
 refine bW (S.cells (a,gG) (by simp)) λU o ho hp=>?_;obtain⟨t0,rfl⟩:=hp Z (.refl _);obtain⟨hh,g,dr,tk,os⟩:=s;have KX:=B.fu.keeps S.h0;have L0:=looks_clsIn (M:=model aH C.G.w) KX X.cl;refine Fk KX X (⟨ho,rfl,rfl,trivial⟩:InstAt hh a (iu none t0) 59 none) ht λb rX=>?_;dsimp only at L0 ho;refine wB (wP (wB (wB (wpAny_loadPart ho (wB (L0.at ?_))))));rw[(show l1++([(a,gG)]++l3)++H=l1++(a,gG)::(l3++H) by simp)] at S;have S1:=S.new (c:=.d_ []) (o:=emptyDict) rfl (mW nodup_nil (by simp) ([]) 0 rfl .nil) (tk+1);have dj:hh.objs.size≠a:=Nat.ne_of_gt (lt_size ho);have f_:=get?_push_of_some (h:=hh) emptyDict ho;dsimp only at S1;have S2:=St.put (pre:=(hh.objs.size,.d_ [])::l1) (c':=jQ hh.objs.size) (s:=⟨hh.push emptyDict,g,dr,tk+1,os⟩) S1 (Heap.SameBut.update (hh.push emptyDict) a λo=>{o with dict:=some hh.objs.size}) (get?_update_self _ f_ rfl) (λU U=>(iE t0 rfl)) (tk+1);refine wB (wpAny_alloc' (wB (wpAny_update' f_ ?_)));refine wP (a:=some hh.objs.size) ?_
 lk
 refine Br (S2.cells (hh.objs.size,.d_ []) (by simp)) λU od fT gA ku es k jK fw=>?_;subst jK;refine Dj fT fw (h8.nil (n:=n) (v:=v)) hz (by simp) λh' ij k' hs ei la=>?_;refine⟨Z,_,(),.refl _,(ah _ (x1.append (.cons (c:=.own (lB [(n,v)])) (iE hh.objs.size rfl) x3)) ((St.put (pre:=[]) (c':=.d_ [(n,v)]) S2 hs ei (mW (by simp) (by simp) _ _ rfl la) (tk+1+1)).perm ?_)),rfl,qq⟩;simp only[(show l1++([(a,jQ hh.objs.size),(hh.objs.size,.d_ [(n,v)])]++l3)++H=(l1++[(a,jQ hh.objs.size)])++(hh.objs.size,.d_ [(n,v)])::(l3++H) by simp)];refine List.Perm.trans (l₂:=(hh.objs.size,.d_ [(n,v)])::((l1++[(a,jQ hh.objs.size)])++(l3++H))) ?_ List.perm_middle.symm;simp⟩
end
end
section
open PySem.Builtin PySem.Builtin.ObjectAttr
section
variable{nm q:Str}{N:Addr}{bs:LV}{sn:List Str}{sub:LV}{ab:Bool}{col:Option Bool}{dd:Option Addr}{k0 k1 k2 k3 k5:Option Value}
theorem Sp.QJ{K:Frag}{v:V}{n:Nat}{L:HL}{Q:VP}{E:HP}(B:Bs G K)(hc:kh K nm q N bs sn sub ab col dd k0 k1 k2 k3 k5)
  (h:∀x,Sp G 36 n [.ref x,v] ((x,.p gG)::L) (λv L'=>v=.none/\Q (.ref x) L') E):Sp G 59 (n+1) [v] L Q E:=⟨λA Z H vs s hR hv S=>by
 have X:=B.fu.keeps S.h0;obtain⟨hh,g,d,t,os⟩:=s;refine ai S λl e S=>?_;have S1:=(S.push {cls:=.type "tuple",data:=.seq vs.toArray} t).new (c:=gG) (o:=iu none hh.objs.size) rfl (λU U=>(iE _ rfl)) t
 dsimp only at S1;rw[size_push] at S1;have S3:au G A Z ((hh.objs.size+1,.p gG)::L) H ⟨(hh.push {cls:=.type "tuple",data:=.seq vs.toArray}).push (iu none hh.objs.size),g,d,t,os⟩:=(ah _ (.cons (c:=.p gG) rfl e) S1)
 refine O6 (X _ _ hc.obj) (looks_findIn X hc.init.1) (λself=>bind_fn X self hc.init.2) (by rw[hv.length,sizeLine_eq];show 1<=16777216;decide) ?_;refine j4 ((h (hh.objs.size+1)).run _ Z H (.ref (hh.objs.size+1)::vs) _ hR.make (.cons .ref hv) (S3.around (oD ..))) λr s' q=>?_
 cases r with
 |ok fl=>
  cases fl with
  |ret v=>
   lk
   cases q with|mk Z' L' x le S' i q=>
   lk
   obtain⟨rfl,q⟩:=q;obtain rfl:=i.qQ;exact⟨rfl,Z',L',_,le,S'.around (oD ..).symm,.ref,q⟩
  |_=>exact q.elim
 |error e=>cases q with|mk Z' L' x le he S' q=>exact⟨Z',L',x,le,he,S'.around (oD ..).symm,q⟩⟩
def xq(C:Cx)(tm:Tm)(gl:SV)(σ:Lo)(L:HL)(_:Fl->Lo->HP)(E:Lo->HP):Prop:=wp C tm gl σ .ev L (λv L=>∃a L0 attrs,v=.ref a/\Perm L ((a,.own (lB attrs))::L0)/\E σ L0) (E σ)
theorem Cm{C:Cx}{F:Fn}(hG:C.G.exc=jC)(ok:bv C.G F)(B:Bs C.G C.K)(X:kh C.K nm q N bs sn sub ab col dd k0 k1 k2 k3 k5){tm e pos}(h1:aK C F.nm tm e):S1 C F (.sp (xq C tm)) (.Raise (some e) none pos):=λA Z H σ L Q E hA hR hc h=>.bP λs S=>by
 show ag C.G.w A (do standAt pos;raiseStmt F.env (some (do let v ←eval e F.env;standAt pos;pure v)) none) _ _ s;refine nB (jp ?_);refine nB (nB (ay (((ey ok B h1).ev A Z H L _ _ hR h).run s S) (λv s1 q=>?_) λU U=>PE.toS));refine nB (jp (aO (aP ?_)))
 lk
 cases q with|mk Z1 L1 x le S1 i q=>
 lk
 refine dJ q λa L0 attrs aE hp qE=>?_;subst aE
 lk
 obtain rfl:=i.ce
 lk
 refine ai (S1.perm hp) λl e S1=>?_
 lk
 cases e with|cons hq e2=>
 lk
 obtain⟨dx,rfl⟩:=hq
 lk
 refine bW (S1.cells (a,jQ dx) (.head _)) λU o ho hp=>?_;obtain⟨t0,rfl⟩:=hp Z1 (.refl _);have hC:=B.fu.keeps S1.h0 _ _ X.obj
 have fin:dz F C.G A Z H E (.ref a) s1:=by refine⟨Z1,σ,L0,a,le,rfl,C7 hG e2 ?_,qE⟩;exact(St.put (pre:=[]) (c':=cN) S1 (Heap.SameBut.refl _ _) ho (λU U=>(dc rfl _ rfl rfl)) s1.toks).sub (.cons_cons _ (.cons _ (.refl _)))
 obtain⟨hp,g,d,tk,os⟩:=s1;dsimp only at ho hC
 repeat (first|with_reducible refine wpAny_loadPart_at ho ?_|with_reducible refine wpAny_loadPart_at hC ?_|(with_reducible refine wpAny_isSubtype_exc hC ?_;rw[(show(Value.ref 59::XB).contains (.type "BaseException")=true by z_go)])|wp_step)
 exact wpAny_raiseNew_none hR.handled fin
end
end
section
open PySem.Builtin PySem.Builtin.ObjectAttr
section
variable{w:World}{A:Around}{s:Shared}{env:Env}
theorem Lz{body:Sem Flow}{h₀:ExceptHandler}{Q:Flow->SP}{E:VS}
  (h:ag w A body Q (λe am=>ag w A (leaving env e) (λU cL=>ag w A (handleBy e env [h₀]) Q E cL) E am) s):
  ag w A (tryStmt false body [h₀] (execs [] env) [] env) Q E s:=by
 refine nB (wu (ay h (λf am aW=>?_) λe am aW=>?_))
 ·cases f<;>first|exact aO aW|exact aP (wpAny_execs_nil aW)
 ·refine(?_:ag w A (do noteFrame e env;setFlight e none;handleBy e env [h₀]) Q E am);unfold leaving at aW;rw[(show(do noteFrame e env;setFlight e none;handleBy e env [h₀])=((do noteFrame e env;setFlight e none:Sem Unit)>>=λU=>handleBy e env [h₀]) by rw[bind_assoc])];exact nB aW
theorem QK{R:Result->SP}
  (h:ag w A (eval t env) (λc am=>ag w A (excMatches e c) (λb bn=>R (.ok (if b then .brk else .next)) bn) (notedBy (model aH w) A env λx bn=>R (.error x) bn) am)
   (notedBy (model aH w) A env λx am=>R (.error x) am) s):
  cw w A (.handlers e [.ExceptHandler (some t) none [] pos] env) R s:=by
 refine hU ?_;refine(?_:ag _ A (do return Fin.done (←(handleWith e env [.ExceptHandler (some t) none [] pos]).onRaise (λx=>do noteFrame x env;theTreesLotGoes x))) _ _ s);refine nB (oR ?_);refine nB (jp (nB (ay h (λc am aW=>nB (jp (nB (ay aW (λb bn b_=>aO (aO ?_)) λU U x=>x)))) λU U x=>x)));exact b_
theorem O8{rt:Stmt}{R:Result->SP}
  (h:ag w A (setFlight e none) (λU am=>ag w A (execs [rt] env) (λf bn=>R (.ok f) bn) (notedBy (model aH w) A env λx bn=>R (.error x) bn) am) (notedBy (model aH w) A env λx am=>R (.error x) am) s):
  cw w A (.handlers e [.ExceptHandler none none [rt] pos] env) R s:=by
 refine hU ?_;refine nB (oR ?_);unfold handleWith;exact nB (jp (nB (ay h (λU am aW=>ay aW (λf bn b_=>aO b_) λU U x=>x) λU U x=>x)))
theorem Dk{h:Option Value}{Q:Flow->SP}{E:VS}
  (hc:cw w (A.mark h) c (λr s'=>match r with|.ok f=>Q f s'|.error e=>cameBackBy (model aH w) A env E e s') s)(hd:gf c=false)(pO:h≠some byPass):
  ag w A (runOwn c env h) Q E s:=by
 unfold runOwn;exact mX (ay (uK hc hd pO) (λU U q=>q) λU U q=>aP q)
theorem Nb{a:Addr}{rt:Stmt}{Q:Flow->SP}{E:VS}
  (h:ag w (A.mark (some (.ref a))) (eval t env) (λc am=>ag w (A.mark (some (.ref a))) (excMatches (.ref a) c) (λb bn=>b=true/\ag w (A.mark (some (.ref a))) (setFlight (.ref a) none) (λU s3=>ag w (A.mark (some (.ref a))) (execs [rt] env) Q (λU U=>False) s3) (λU U=>False) bn) (λU U=>False) am) (λU U=>False) s):
  ag w A (handleBy (.ref a) env [.ExceptHandler (some t) none [rt] pos]) Q E s:=by
 have pO:(some (.ref a):Option Value)≠some byPass:=λx=>by cases x
 rw[handleBy];refine nB (b9 (Dk (QK (ay h (λc am aW=>?_) λU U x=>x.elim)) rfl pO));refine ay aW (λb bn b_=>?_) λU U x=>x.elim;obtain⟨rfl,b_⟩:=b_;refine nB (aO ?_);refine nB (b9 (Dk (O8 (ay b_ (λU s3 h3=>?_) λU U x=>x.elim)) rfl pO));exact ay h3 (λf s4 h4=>aO h4) λU U x=>x.elim
end
def rY(F:Fn)(st:Stmt)(fl:Fl)(up:Lo->Lo):Prop:=∀G A Z H σ L,bv G F->JS F G A Z H σ L (execs [st] F.env) (λf σ' L'=>f=fl/\σ'=up σ/\L'=L) (λU U=>False)
theorem rY.store{F:Fn}{i:Nat}{p k:_}{pos:Pos}(ht:mh F (.var i) x)(hs:swapsWith (.Constant (.str v) k cp) (some (.Name x p)) pos.line F.env=pure false):rY F (.Assign [.Name x p] (.Constant (.str v) k cp) pos) .next (λσ=>σ.set (.var i) (.str v)):=λG A Z H σ L ok=>.bP λs S=>
 xf (ay (AS (Q:=λf s'=>f=.next/\∃Z',Zt.Le Z Z'/\au G A Z' L (F.own (σ.set (.var i) (.str v))++H) s') (E:=λU U=>False) (ay ((J.str (Q:=λx M=>x=.str v/\M=L) (E:=λU=>False) ⟨rfl,rfl⟩).run s S) (λu s1 q=>by
  cases q with|mk Z1 L1 y le S1 r q=>
  obtain⟨rfl,rfl⟩:=q
  exact ay ((JU.store (g:=.var i) (Q:=λU σ2 L2=>σ2=σ.set (.var i) (.str v)/\L2=L1) (E:=λU U=>False) ok ht.1 trivial ht.2 r ⟨rfl,rfl⟩).run s1 S1) (λU s2 q=>by
   lk
   cases q with|mk Z2 σ2 L2 u gm S2 _ q=>
   obtain⟨rfl,rfl⟩:=q;exact(dc rfl Z2 (le.trans gm) S2)) (λU U q=>by cases q with|mk _ _ _ _ _ _ _ q=>exact q.elim)) (λU U q=>by cases q with|mk _ _ _ _ _ _ q=>exact q.elim)) hs)
  (λf s1 q=>by refine bW q λiL Z1 le S1=>?_;refine av iL ?_;exact aP (wpAny_execs_nil ⟨Z1,_,_,.next,le,S1,.next,rfl,rfl,rfl⟩)) (λU U q=>q.elim))
theorem rY.ret{k:_}{v:Bool}:rY F (.Return (some (.Constant (.bool v) k cp)) pos) (.ret (.bool v)) id:=λG A Z H σ L ok=>.bP λs S=>
 xf (ay (C2 (Q:=λf s'=>f=.ret (.bool v)/\∃Z',Zt.Le Z Z'/\au G A Z' L (F.own σ++H) s') (E:=λU U=>False) (ay ((J.E7 (Q:=λx M=>x=.bool v/\M=L) (E:=λU=>False) ⟨rfl,rfl⟩).run s S) (λu s1 q=>by
  cases q with|mk Z1 L1 y le S1 r q=>
  obtain⟨rfl,rfl⟩:=q;refine av r.xI ?_;exact(dc rfl Z1 le S1)) (λU U q=>by cases q with|mk _ _ _ _ _ _ q=>exact q.elim)))
  (λf s1 q=>by refine bW q λiL Z1 le S1=>?_;refine av iL ?_;exact⟨Z1,_,_,_,le,S1,.ret .bool,rfl,rfl,rfl⟩) (λU U q=>q.elim))
section
variable{C:Cx}{F:Fn}{nm q:Str}{N:Addr}{bs:LV}{sn:List Str}{sub:LV}{ab:Bool}{col:Option Bool}{dd:Option Addr}{k0 k1 k2 k3 k5:Option Value}
def uR(C:Cx)(n:Nat)(sm:Sm)(fl:Fl)(up:Lo->Lo)(gl:SV)(σ:Lo)(L:HL)(Q:Fl->Lo->HP)(_:Lo->HP):Prop:=wpS C sm gl σ L Q (λσ L=>σ.c.length=n/\Q fl (up σ) L)
theorem Nc{h:Heap}{g d t os:_}{E:VS}{Q:Bool->SP}{a:Addr}{o:Obj}(hC:h.get? 59=some (excClassObj nm q 59 N bs XB true sn sub ab col dd k0 k1 k2 k3 k5 "Exception.__new__"))(he:h.get? a=some o)(hc:o.cls=.ref 59)
  (hq:Q true ⟨h,g,d,t,os⟩):wpAny (model aH w) A (excMatches (.ref a) (.ref 59)) Q E ⟨h,g,d,t,os⟩:=by
 have h3:isSubtype (.type "type") (.type "tuple")=pure false:=by rw[isSubtype_type];x_go
 have hT:(⟨h,g,d,t,os⟩:Shared).TypeIs (.ref 59) "type":=(ah _ hC rfl)
 unfold excMatches
 repeat (any_goals (first|assumption|(with_reducible refine wpAny_loadPart_at he ?_;rw[hc])|with_reducible refine wpAny_loadPart_at hC ?_|(with_reducible refine wpAny_isSubtype_exc hC ?_;first|rw[(show(Value.ref 59::XB).contains (.type "BaseException")=true by z_go)]|rw[(show(Value.ref 59::XB).contains (.ref 59)=true by z_go)])|wp_step))
theorem Nf{G:Gd}(hG:G.exc=jC){A Z a L H s:_}(S:au G A Z ((a,.own G.exc)::L) H s):∃o,s.heap.get? a=some o/\o.cls=.ref 59:=by
 lk
 obtain⟨l0,e,S|⟨T,S⟩⟩:=xm hG S
 ·obtain⟨o,vs,ho,hc,_⟩:=uq S (.head _);exact(ah o ho hc)
 ·obtain⟨o,vs,ho,hc,_⟩:=qW S (.head _);exact(ah o ho hc)
theorem JD{G:Gd}(hG:G.exc=jC){A Z a L H s:_}(S:au G A Z ((a,.own G.exc)::L) H s){Q:Unit->SP}{E:VS}(k:∀s',au G A Z ((a,.own G.exc)::L) H s'->Q () s'):wpAny (model aH G.w) A (setFlight (.ref a) none) Q E s:=by
 obtain⟨l0,e,S|⟨T,S⟩⟩:=xm hG S
 ·refine gK (uq S (.head _)) λo vs ho hc hd h1=>?_;refine wpAny_bind (wpAny_field ho hd h1 ?_);refine(if_neg (show¬((Value.none != Value.none)=true) by decide))▸?_;exact wP (k _ (C7 hG e S))
 ·exact wj S λs' S'=>k s' (xn hG e S')
theorem Eb(hG:C.G.exc=jC)(Xk:lw C.G)(ok:bv C.G F)(B:Bs C.G C.K)(X:kh C.K nm q N bs sn sub ab col dd k0 k1 k2 k3 k5){body:List Stmt}{x:Str}{st:Stmt}{fl:Fl}{up:Lo->Lo}
  (n_:∀σ:Lo,(up σ).c.length=σ.c.length)(h1:SS C F sm body)(hx:(x,V.ref 59)∈F.globs)(hh:rY F st fl up):S1 C F (.sp (uR C F.cells.length sm fl up)) (.Try body [.ExceptHandler (some (.Name x np)) none [st] uS] [] [] pos):=λA Z H σ L Q E hA hR hc h=>.bP λs S=>by
 refine nB (jp (Lz ?_));refine ay ((h1 A Z H σ L Q _ hA hR hc h).run s S) (λU U q=>q) (λe s1 q=>?_)
 lk
 cases q with|mk Z1 iI L1 a le he S1 q=>
 obtain⟨hl,q⟩:=q;subst he;refine ay (aP (Xk.left F A Z1 H iI L1 a s1 ok hA hR.handled S1)) (λU s2 q2=>?_) (λU U x=>x.elim);refine ai q2 λZ2 gm S2=>?_;refine Nb ?_;refine ay ((J.xN (E:=λU=>False) (Q:=λv M=>v=.ref 59/\M=(a,.own C.G.exc)::L1) ok hx ⟨rfl,rfl⟩).run s2 (S2.around rfl:au C.G (A.mark (some (.ref a))) Z2 ((a,.own C.G.exc)::L1) (F.own iI++H) s2)) (λv s3 q3=>?_) (λU U q=>by cases q with|mk _ _ _ _ _ _ q=>exact q.elim)
 lk
 cases q3 with|mk Z3 L3 y fU S4 i q3=>
 lk
 obtain⟨rfl,rfl⟩:=q3;obtain rfl:=i.ce;refine ai (Nf hG S4) λo ho fh=>?_;obtain⟨hp,g,d,tk,os⟩:=s3;refine aP (Nc (B.fu.keeps S4.h0 _ _ X.obj) ho fh ⟨rfl,aP (JD hG S4 λs5 S5=>?_)⟩);refine ay ((hh C.G _ Z3 H iI L1 ok).run s5 (S5.sub (.cons _ (.refl _)))) (λf s6 q6=>?_) (λU U q=>by cases q with|mk _ _ _ _ _ _ _ q=>exact q.elim)
 lk
 cases q6 with|mk Z6 Tn L6 US n5 S6 r q6=>
 lk
 obtain⟨rfl,rfl,rfl⟩:=q6;exact⟨Z6,_,_,_,le.trans (gm.trans (fU.trans n5)),S6.around rfl,r,by rw[n_];exact hl,q⟩
end
end
noncomputable def eD {α:Type} (ans:Nat->Nat->Bool):KasT α->α
 |.ret a=>a
 |.ask i j k=>eD ans (k (ans i j))
noncomputable def ga {α:Type} (ans:Nat->Nat->Bool) (R:Nat->Nat->Prop):KasT α->Prop
 |.ret _=>True
 |.ask i j k=>R i j/\ga ans R (k (ans i j))
theorem Dl{α:Type}{cmp:Nat->Nat->(Bool->SP)->SP}{ans:Nat->Nat->Bool}{R:Nat->Nat->Prop}{P:Heap->Prop}{Q:α->SP}
  (hc:∀i j C s,R i j->P s.heap->(∀tk,C (ans i j) {s with toks:=tk})->cmp i j C s):∀(t:KasT α)(s:Shared),ga ans R t->P s.heap->(∀tk,Q (eD ans t) {s with toks:=tk})->t.kasWp cmp Q s
 |.ret _,s,_,_,q=>q s.toks
 |.ask i j k,s,h,hp,q=>hc i j _ s h.1 hp λtk=>Dl hc (k (ans i j)) {s with toks:=tk} h.2 hp λvx=>q vx
theorem wl{α β:Type}{ans:Nat->Nat->Bool}{f:α->KasT β}:∀t:KasT α,eD ans (t.bind f)=eD ans (f (eD ans t))
 |.ret _=>rfl
 |.ask i j k=>wl (k (ans i j))
theorem wA{α β:Type}{ans:Nat->Nat->Bool}{R:Nat->Nat->Prop}{f:α->KasT β}:∀t:KasT α,ga ans R t->ga ans R (f (eD ans t))->ga ans R (t.bind f)
 |.ret _,_,h=>h
 |.ask i j k,h,h'=>⟨h.1,wA (k (ans i j)) h.2 h'⟩
def px(n i j:Nat):Prop:=j+1=i/\i<n
def uT(n i j:Nat):Prop:=i<n/\j<n
theorem range_getD{n k:Nat}(h:k<n):(toArray (List.range n)).getD k 0=k:=by simp[Array.getD,h]
theorem O9{α:Type}{ans:Nat->Nat->Bool}{R:Nat->Nat->Prop}{a b i j:Nat}{t:Bool->KasT α}{x:α}(ea:a=i)(eb:b=j)(no:ans i j=false)(h:eD ans (t false)=x/\ga ans R (t false))(r:R i j):eD ans (.ask a b t)=x/\ga ans R (.ask a b t):=by show eD ans (t (ans a b))=x/\R a b/\ga ans R (t (ans a b));rw[ea,eb,no];exact⟨h.1,r,h.2⟩
theorem Dm{ans:Nat->Nat->Bool}{n:Nat}(ha:∀i,1<=i->i<n->ans i (i-1)=false):∀f k,1<=k->k+f=n->eD ans (kas_asc (toArray (List.range n)) f k)=n/\ga ans (px n) (kas_asc (toArray (List.range n)) f k)
 |0,k,_,e=>⟨e,trivial⟩
 |f+1,k,h1,e=>by have hk:k<n:=aa ⟨3,0,[.en (.a .v0 (.aj 1 1)) .v2],.bg 0 2⟩ e;have mE:k-1<n:=aa ux hk;exact O9 (range_getD hk) (range_getD mE) (ha k h1 hk) (Dm ha f (k+1) (aa ⟨1,0,[],.ln (.k 1) (.aj 0 1)⟩) (aa ⟨3,0,[.en (.a .v0 (.aj 1 1)) .v2],.en (.a (.aj 0 1) .v1) .v2⟩ e)) ⟨aa ⟨1,0,[.gj 1 0],.en (.a (.dK 0 1) (.k 1)) .v0⟩ h1,hk⟩
theorem Cn{ans:Nat->Nat->Bool}{n:Nat}(h1:1<=n)(ha:∀i,1<=i->i<n->ans i (i-1)=false):eD ans (kas_sort n)=toArray (List.range n)/\ga ans (px n) (kas_sort n):=by
 refine xA (Dm ha (n-1) 1 (Nat.le_refl _) (aa ⟨1,0,[.gj 1 0],.en (.a (.k 1) (.dK 0 1)) .v0⟩ h1)) λr1 r2=>?_
 have c1:eD ans (kas_count n (toArray (List.range n)))=(n,toArray (List.range n))/\ga ans (px n) (kas_count n (toArray (List.range n))):=by
  unfold kas_count;rw[wl,r1,if_pos (by simp)];refine⟨rfl,wA _ r2 ?_⟩;rw[r1,if_pos (by simp)]
  trivial
 unfold kas_sort;rw[wl,c1.1];rw[if_neg (lt_irrefl n)];refine⟨rfl,wA _ c1.2 ?_⟩;rw[c1.1];rw[if_neg (lt_irrefl n)]
 trivial
noncomputable def rZ (n:Nat):Nat->KasT (Array Nat)->Bool
 |_,.ret p=>p.toList.isPerm (List.range n)
 |0,.ask ..=>false
 |f+1,.ask i j k=>decide (i<n)&&(decide (j<n)&&(rZ n f (k true)&&rZ n f (k false)))
theorem tK{ans:Nat->Nat->Bool}{n:Nat}:∀(f:Nat)(t:KasT (Array Nat)),rZ n f t=true->ga ans (uT n) t/\(eD ans t).toList.Perm (List.range n)
 |_,.ret p,h=>⟨trivial,List.isPerm_iff.mp (by cases ‹Nat›<;>exact h)⟩
 |0,.ask ..,h=>by cases h
 |f+1,.ask i j k,h=>by
  lk
  obtain⟨h1,h⟩:=tB h;obtain⟨h2,h⟩:=tB h;obtain⟨h3,h4⟩:=tB h
  have:ga ans (uT n) (k (ans i j))/\(eD ans (k (ans i j))).toList.Perm (List.range n):=by
   cases ans i j with
   |true=>exact tK f _ h3
   |false=>exact tK f _ h4
  exact⟨⟨⟨of_decide_eq_true h1,of_decide_eq_true h2⟩,this.1⟩,this.2⟩
theorem R9:rZ 2 10 (kas_sort 2)=true:=by z_go
theorem R_:rZ 3 10 (kas_sort 3)=true:=by z_go
theorem sN{ans:Nat->Nat->Bool}{n:Nat}(h2:2<=n)(h3:n<=3):ga ans (uT n) (kas_sort n)/\(eD ans (kas_sort n)).toList.Perm (List.range n):=by
 have:n=2\/n=3:=aa ⟨1,0,[.gj 2 0,.aS 0 3],.oo (.d7 0 2) (.d7 0 3)⟩ h2 h3;rcases this with rfl|rfl
 ·exact tK _ _ R9
 ·exact tK _ _ R_
section
variable{w:World}{A:Around}{E:VS}{s:Shared}{a:Addr}{vs:LV}
theorem I7{κ:SortKind}{ans:Nat->Nat->Bool}{R:Nat->Nat->Prop}{HP:Heap->Prop}{n:Nat}{P:PySem.Fin->SP}(ho:s.heap.get? a=some (seqObj "list" vs.toArray n))(iO:vs.length<64)
  (Hp:∀h',ExtBut a s.heap h'->HP h')
  (kind:∀s'(Q:SortKind->SP),2<=vs.length->HP s'.heap->Q κ s'->wpAny (model aH w) A (keyKind' vs.toArray) Q E s')
  (hc:∀i j(C:Bool->SP) s',R i j->HP s'.heap->(∀tk,C (ans i j) {s' with toks:=tk})->kas_ask aH w A κ vs i j C s')
  (ok:2<=vs.length->ga ans R (kas_sort vs.length))
  (k:∀h' c tk,ExtBut a s.heap h'->h'.get? a=some (listOf (toArray (if vs.length<2 then vs else(eD ans (kas_sort vs.length)).toList.map λi=>vs.getD i Value.none)) c)->P (.done (.ret .none)) {s with heap:=h',toks:=tk}):
  wpAny (model aH w) A (Builtin.«list.sort» ⟨[.ref a],[]⟩) P E s:=by
 have ha:a<s.heap.objs.size:=lt_size ho;obtain⟨e1,f_⟩:∃e1,(s.heap.update a (Obj.mapSeq λU=>(#[]:Array Value))).get? a=some (seqObj "list" #[] e1):=(iE _ (get?_update_seq ho λU=>#[]))
 have X3:ExtBut a s.heap (((s.heap.update a (Obj.mapSeq λU=>(#[]:Array Value))).push (seqObj "tuple" vs.toArray 0)).push (seqObj "list" #[] 0)):=λb o hb e=>get?_push_of_some _ (get?_push_of_some _ (((Heap.SameBut.update s.heap a (Obj.mapSeq λU=>(#[]:Array Value))).2 b hb).trans e))
 have oq:(((s.heap.update a (Obj.mapSeq λU=>(#[]:Array Value))).push (seqObj "tuple" vs.toArray 0)).push (seqObj "list" #[] 0)).get? a=some (seqObj "list" #[] e1):=get?_push_of_some _ (get?_push_of_some _ f_)
 rw[list_sort_plain];refine wB (listItems_at ho rfl ?_);refine wB (listUpdate_at ho rfl ?_ (by rw[size_toArray,sizeLine_eq];exact aa re iO) (zero_le _));refine wB (seqEpoch_at f_ rfl ?_);refine wB (wpAny_newTuple ?_ (by show vs.length<=_;rw[sizeLine_eq];exact aa re iO));refine wB (wpAny_newList ?_ (zero_le _));refine wpAny_holding ?_
 generalize UT:((s.heap.update a (Obj.mapSeq λU=>(#[]:Array Value))).push (seqObj "tuple" vs.toArray 0)).push (seqObj "list" #[] 0)=h3 at X3 oq⊢
 have fin:∀(mG:LV)(tk:Nat),mG=(if vs.length<2 then vs else(eD ans (kas_sort vs.length)).toList.map λi=>vs.getD i Value.none)->mG.length<=1000->
   wpAny (model aH w) A (Builtin.List.listUpdate (.ref a) λU=>mG.toArray) (λU s'=>P (.done (.ret .none)) s') E {s with heap:=h3,toks:=tk}:=λmG tk e hl=>by
  obtain⟨c2,T6⟩:∃c2,(h3.update a (Obj.mapSeq λU=>mG.toArray)).get? a=some (seqObj "list" mG.toArray c2):=(iE _ (get?_update_seq oq λU=>mG.toArray))
  refine listUpdate_at oq rfl ?_ (zero_le _) (by rw[size_toArray,sizeLine_eq];exact aa ⟨1,0,[.aS 0 1000],.ln .v0 (.a (.k 16777216) (.k 1))⟩ hl);exact k _ c2 tk (λb o hb e=>((Heap.SameBut.update h3 a (Obj.mapSeq λU=>mG.toArray)).2 b hb).trans (X3 b o hb e)) (by rw[←e];exact T6)
 by_cases h2:vs.length<2
 ·have r5:vs.toArray.size<2:=by rw[size_toArray];exact h2
  rw[if_pos r5,if_pos r5];refine wB (wP (wpAny_bind ?_));refine wP (a:=((),SortSt.mk' general' (vs.toArray.zip vs.toArray) #[] 7 none)) ?_;refine wB (seqEpoch_at oq rfl ?_)
  have e2:((vs.toArray.zip vs.toArray).map (·.2))=vs.toArray:=by apply Array.toList_inj.mp;rw[toList_map,Array.toList_zip];exact List.map_snd_zip (Nat.le_refl _)
  rw[e2];refine wB (wpAny_mono (fin vs s.toks (by rw[if_pos h2]) (aa ⟨1,0,[.aJ 0 2],.aS 0 1000⟩ h2)) (λU s' h=>?_) λU U e=>e);simp only[bne_self_eq_false,false_eq_true,if_false];exact wP h
 ·have kx:2<=vs.length:=aa rf h2;have r5:¬vs.toArray.size<2:=by rw[size_toArray];exact aa ⟨1,0,[.no (.aJ 0 2)],.no (.aJ 0 2)⟩ h2
  rw[if_neg r5,if_neg r5];refine wB (kind {s with heap:=h3} _ kx (Hp _ X3) ?_)
  have T7:SortSt.mk' κ (vs.toArray.zip vs.toArray) #[] 7 none=kas_st κ (pairsOf vs) (toArray (List.range vs.length)):=by have e:=kas_range (pairsOf vs);rw[pairsOf_size] at e;refine(?_:SortSt.mk' κ (pairsOf vs) #[] 7 none=SortSt.mk' κ ((toArray (List.range vs.length)).map (kas_item (pairsOf vs))) #[] 7 none);rw[e]
  have ask:(kas_sort vs.length).kasWp (kas_ask aH w A κ vs) (λp s'=>p=eD ans (kas_sort vs.length)/\∃tk,s'={s with heap:=h3,toks:=tk}) {s with heap:=h3}:=Dl (P:=HP) hc (kas_sort vs.length) {s with heap:=h3} (ok kx) (Hp _ X3) λtk=>⟨rfl,tk,rfl⟩
  rw[kas_ask_eq] at ask
  have run:=kas_runs (E:=E) (Q:=λU r6 s'=>∃p:Array Nat,p.size=vs.length/\arrOf r6=p.map (kas_item (pairsOf vs))/\failedOf r6=none/\p=eD ans (kas_sort vs.length)/\∃tk,s'={s with heap:=h3,toks:=tk})
   kx iO (λp' r6 s' a1 a2 a3 a4=>⟨p',a1,a2,a3,a4.1,a4.2⟩) ask
  rw[←T7] at run;refine wpAny_bind (wpAny_mono run ?_ λU U e=>e)
  rintro⟨⟨⟩,r6⟩ s' ⟨p,hp,T8,hf,rfl,tk,rfl⟩
  dsimp only
  have Sa:(arrOf r6).map (·.2)=toArray ((eD ans (kas_sort vs.length)).toList.map λi=>vs.getD i Value.none):=by apply Array.toList_inj.mp;rw[T8,Array.map_map,toList_map];exact map_congr_left λi U=>by show(kas_item (pairsOf vs) i).2=_;rw[kas_item_eq]
  refine(Sa)▸?_;refine wB (seqEpoch_at oq rfl ?_);refine wB (wpAny_mono (fin _ tk (by rw[if_neg h2]) (by rw[length_map,length_toList,hp];exact aa ⟨1,0,[.aJ 0 64],.aS 0 1000⟩ iO)) (λU s' h=>?_) λU U e=>e);rw[hf];simp only[bne_self_eq_false,false_eq_true,if_false];exact wP h
end
structure ji(xs:List V)(κ:SortKind)(ans:Nat->Nat->Bool)(R:Nat->Nat->Prop):Prop where
 kind:∀(w:World)(A:Around)(E:VS) Z vs s(Q:SortKind->SP),aZ Z xs vs->(∀b o,Z b=some o->s.heap.get? b=some o)->2<=vs.length->Q κ s->wpAny (model aH w) A (keyKind' vs.toArray) Q E s
 cmp:∀(w:World)(A:Around) Z vs i j(C:Bool->SP) s,aZ Z xs vs->(∀b o,Z b=some o->s.heap.get? b=some o)->R i j->(∀tk,C (ans i j) {s with toks:=tk})->kas_ask aH w A κ vs i j C s
def jZ(xs:List V)(ans:Nat->Nat->Bool):List V:=if xs.length<2 then xs else(eD ans (kas_sort xs.length)).toList.map λi=>xs.getD i V.none
theorem aZ.pick{xs:List V}{vs:LV}(h:aZ Z xs vs):∀l:List Nat,(∀i∈l,i<xs.length)->aZ Z (l.map λi=>xs.getD i V.none) (l.map λi=>vs.getD i Value.none)
 |[],_=>.nil
 |i::l,hl=>by have hi:=hl i (.head _);refine ai (h.get (gE hi)) λv hv hI=>?_;refine .cons ?_ (h.pick l λj hj=>hl j (.tail _ hj));simp only[getD_eq_getElem?_getD,getD_eq_getElem?_getD,hv,gE hi];exact hI
section
variable{C:Cx}{L:HL}{Q:VP}{E:HP}{l:Addr}{xs:List V}{κ:SortKind}{ans:Nat->Nat->Bool}{R:Nat->Nat->Prop}
theorem A7{G:Gd}{s:Shared}{E':VS}{vs:LV}{P:PySem.Fin->SP}(S:au G A Z L H s)(hv:aZ Z xs vs)(hs:ji xs κ ans R)(iO:xs.length<64)(ok:2<=xs.length->ga ans R (kas_sort xs.length)/\∀i∈(eD ans (kas_sort xs.length)).toList,i<xs.length)
  (k:∀D s',au G A Z ((D,.list (jZ xs ans))::L) H s'->P (.done (.ret (.ref D))) s'):
  wpAny (model aH G.w) A (do let l ←newList vs;let _ ←holding [l] (call (.builtin "list.sort") [l] []);ret l) P E' s:=by
 have hl:=hv.length;refine wB (wpAny_newList ?_ (by rw[hl,sizeLine_eq];exact aa re iO));have S1:=S.new (c:=.list xs) (o:=seqObj "list" vs.toArray 0) rfl (co _ _ rfl (by simpa using hv)) s.toks
 have ho:(s.heap.push (seqObj "list" vs.toArray 0)).get? s.heap.objs.size=some (seqObj "list" vs.toArray 0):=get?_push_size _ rfl
 refine wB (wpAny_holding (wpAny_call_entry slot_list_sort (ah _ ho rfl) entry_list_sort ?_ (args_list_sort _)));refine I7 (s:={s with heap:=s.heap.push (seqObj "list" vs.toArray 0)}) (κ:=κ) (ans:=ans) (R:=R) (HP:=λh'=>∀b o,Z b=some o->h'.get? b=some o) ho (by rw[hl];exact iO) (λh' hx b o e=>hx b o (λq=>?_) (S1.keep b o e)) (λs' Q h2 hp q=>hs.kind _ _ _ Z vs s' Q hv hp h2 q) (λi j C s' hr hp q=>hs.cmp _ _ Z vs i j C s' hv hp hr q) (λh2=>by rw[hl] at h2⊢;exact(ok h2).1) (λh' c tk hx hd=>(ah _ rfl ?_))
 ·subst q;rw[S.gU] at e;cases e
 ·refine wP (k _ _ (S1.l_ (c':=.list (jZ xs ans)) .head hx hd (co _ _ rfl ?_) tk));unfold jZ;rw[hl];by_cases h2:xs.length<2
  ·rw[if_pos h2,if_pos h2];exact hv
  ·rw[if_neg h2,if_neg h2];exact hv.pick _ (ok (aa rf h2)).2
theorem br.Dn(h:ap L l (.list xs))(hs:ji xs κ ans R)(iO:xs.length<64)(ok:2<=xs.length->ga ans R (kas_sort xs.length)/\∀i∈(eD ans (kas_sort xs.length)).toList,i<xs.length)(q:∀D,Q (.ref D) ((D,.list (jZ xs ans))::L)):br C "sorted" [.ref l] L Q E:=⟨λA Z H us hR hx=>by
 obtain⟨i1,r1⟩:=hx.e7;refine av r1.dN ?_;refine av i1.ce ?_;refine .mk λs S=>?_
 lk
 refine dI (S.cell h) λU o ho vs n aN hv=>?_;subst aN;refine Calls.call_function_entry kind_sorted plain_sorted entry_sorted (args_sorted1 _) ?_;refine wB (m:=checkCount "sorted" 1 1 _) (wP ?_)
 refine wB (collect_list (vs:=vs.toList) (eA _ ho rfl n (by rfl)) ?_ (by rw[hv.length,sizeLine_eq];exact aa re iO));have S1:au C.G A Z L H {s with heap:=(s.heap.push (seqObj "list" #[] 0)).update s.heap.objs.size (Obj.mapSeq (· ++vs.toList.toArray))}:=S.ext (t:=s.toks) λb o e=>(Heap.get?_update_ne _ _ _ _ (ne_of_lt (lt_size e))).trans (get?_push_of_some _ e)
 exact A7 (S1.around (A':=A.in1) rfl) hv hs iO ok λD s' S3=>(ah _ rfl ⟨Z,_,_,.refl _,S3.around rfl,.ref,q D⟩)⟩
theorem br.Ng{d:Addr}{n:Nat}{kvs:List (Int×V)}(B:Bs C.G C.K)(h:ap L d (.di kvs n))(hs:ji (kvs.map λp=>.int p.1) κ ans R)(iO:kvs.length<64)(ok:2<=kvs.length->ga ans R (kas_sort kvs.length)/\∀i∈(eD ans (kas_sort kvs.length)).toList,i<kvs.length)(q:∀D,Q (.ref D) ((D,.list (jZ (kvs.map λp=>.int p.1) ans))::L)):br C "sorted" [.ref d] L Q E:=⟨λA Z H us hR hx=>by
 obtain⟨i1,r1⟩:=hx.e7;refine av r1.dN ?_;refine av i1.ce ?_;refine .mk λs S=>?_
 lk
 refine bW (S.cell h) λU o ho hp=>?_;refine dD (kN (dX C.G.w) rfl ho hp) λus hu Hq mC=>?_;have bz:=hu.len;refine Calls.call_function_entry kind_sorted plain_sorted entry_sorted (args_sorted1 _) ?_;refine wB (m:=checkCount "sorted" 1 1 _) (wP ?_)
 refine wB (kdu_collect (A:=A.in1) (kdl_dict (knd:=intKind aH C.G.w) (kvs:=us) (ep:=n) (jq B S h)) hR.handled mC (by rw[bz,sizeLine_eq];exact aa re iO) λh' tk acc hk GF=>?_);have S1:au C.G A.in1 Z L H {s with heap:=h',toks:=tk}:=(S.ext hk).around rfl
 have hv:aZ Z (kvs.map λp=>V.int p.1) acc.toList:=by
  refine .of _ _ (by rw[length_toList,GF.1,bz,length_map]) λi x v hx hv=>?_;refine dn (GF.2 i v (by rw[←getElem?_toList];exact hv)) λk u h1 h2=>?_;have e:(us.map (·.1))[i]?=some k:=by rw[getElem?_map,h1];rfl
  rw[hu.keys,getElem?_map] at e;rw[getElem?_map] at hx;refine ai (Option.map_eq_some_iff.mp e) λp T9 om=>?_;rw[T9] at hx
  cases hx
  subst om;exact((dX C.G.w).is Z p.1 v).mpr h2
 exact A7 S1 hv hs (by rw[length_map];exact iO) (by rw[length_map];exact ok) λD s' S3=>(ah _ rfl ⟨Z,_,_,.refl _,S3.around rfl,.ref,q D⟩)⟩
end
theorem A8{xs:List V}{ans:Nat->Nat->Bool}(ha:∀i,1<=i->i<xs.length->ans i (i-1)=false):jZ xs ans=xs/\(2<=xs.length->ga ans (px xs.length) (kas_sort xs.length)/\∀i∈(eD ans (kas_sort xs.length)).toList,i<xs.length):=by
 constructor
 ·unfold jZ;by_cases h:xs.length<2
  ·rw[if_pos h]
  ·rw[if_neg h,(Cn (by exact aa ⟨1,0,[.no (.aJ 0 2)],.gj 1 0⟩ h) ha).1];refine ext_getElem? λi=>?_;rw[getElem?_map];by_cases hi:i<xs.length
   ·simp only[gE (by simpa using hi),gE hi,Option.map_some];simp[getD_eq_getElem?_getD,hi]
   ·rw[getElem?_eq_none (by simpa using hi),getElem?_eq_none (by simpa using hi)];rfl
 ·intro h;refine xA (Cn (n:=xs.length) (aa ⟨1,0,[.gj 2 0],.gj 1 0⟩ h) ha) λh1 h2=>?_;exact⟨h2,by rw[h1];intro i hi;simpa using hi⟩
theorem oK{vs:LV}{i:Nat}(h:vs[i]?=some v):vs.getD i Value.none=v:=by rw[getD_eq_getElem?_getD,h];rfl
theorem ji.ints{ns:List Int}:ji (ns.map V.int) oneType' (λi j=>decide (ns.getD i 0<ns.getD j 0)) (px ns.length) where
 kind w A E Z vs s Q hv hk h2 q:=kas_kind (T:=.type "int") h2 (λv hm=>by
  obtain⟨i,hi⟩:=getElem?_of_mem hm;have aT:i<(ns.map V.int).length:=by rw[←hv.length];exact(gS hi).1
  lk
  refine ai (hv.get (gE aT)) λu hu hI=>?_;rw[hi] at hu
  cases hu
  rw[List.getElem_map] at hI;obtain⟨_,rfl⟩:=hI.e_;exact .now) (by decide) (by decide) q
 cmp w A Z vs i j C s hv hk hr q:=by obtain⟨h1,h2⟩:=hr;have hi:i<ns.length:=h2;have hj:j<ns.length:=aa FN h1 h2;refine ai (hv.get (x:=.int ns[i]) (i:=i) (by rw[getElem?_map,gE hi];rfl)) λu hu hI=>?_;refine ai (hv.get (x:=.int ns[j]) (i:=j) (by rw[getElem?_map,gE hj];rfl)) λu' r8 r9=>?_;obtain⟨_,rfl⟩:=hI.e_;obtain⟨_,rfl⟩:=r9.e_;unfold kas_ask;refine(oK hu)▸?_;refine(oK r8)▸?_;refine kat_lt_int ?_;have q:=q s.toks;rw[show ns.getD i 0=ns[i] by simp[getD_eq_getElem?_getD,hi],show ns.getD j 0=ns[j] by simp[getD_eq_getElem?_getD,hj]] at q;exact q
theorem A9:Slot "bytes" (Str.ofString "__lt__") "bytes.__lt__":=
 .of (owner:="bytes") (n:="__lt__") (by mg_lt) (by z_go) (by z_go) (by z_go)
  (by first|exact .inl (by z_go)|exact .inr (by z_go)) (by rw[isSubtype_type];x_go)
theorem I8:entryFor table "bytes.__lt__"=some Builtin.«bytes.__lt__»:=entryFor_of_fast (by x_go)
theorem JE(a b:Value):argsOk "bytes.__lt__" ⟨[a,b],[]⟩:=by x_go
noncomputable def uU (a b:By):Bool:=Builtin.Bytes.holds "__lt__" (Builtin.Bytes.order a b)
theorem QL{E:VS}{a b:Array UInt8}{t u:Tok}{Q:Bool->SP}(h:Q (uU a.toList b.toList) s):wpAny (model aH w) A (keyLt' oneType' (.bytes a t) (.bytes b u)) Q E s:=by
 refine wB (wpAny_cRoomFor_byValue rfl ?_);refine wB (wpAny_callSpecialIfBound?_slot (typeIs_bytes s a t) A9 (wpAny_call_entry A9 (typeIs_bytes s a t) I8 ?_ (JE _ _)));refine(?_:wpAny _ _ (isInstance (.bytes b u) (.type "bytes")>>=λr=>_) _ _ s)
 refine wB (wpAny_isInstance (typeIs_bytes s b u) F.sub_bytes_bytes ?_);refine wP (ah _ rfl ?_);exact wpAny_truthy_bool h
theorem ji.bytes{bs:LB}:ji (bs.map V.bytes) oneType' (λi j=>uU (bs.getD i []) (bs.getD j [])) (uT bs.length) where
 kind w A E Z vs s Q hv hk h2 q:=kas_kind (T:=.type "bytes") h2 (λv hm=>by
  lk
  refine xE (getElem?_of_mem hm) λi hi=>?_;have aT:i<(bs.map V.bytes).length:=by rw[←hv.length];exact(gS hi).1
  lk
  refine ai (hv.get (gE aT)) λu hu hI=>?_;rw[hi] at hu
  lk
  cases hu
  rw[List.getElem_map] at hI;obtain⟨_,rfl⟩:=hI.kQ;exact .now) (by decide) (by decide) q
 cmp w A Z vs i j C s hv hk hr q:=by refine gT λzP zk=>?_;obtain⟨hi,hj⟩:=hr;refine ai (hv.get (x:=.bytes bs[i]) (i:=i) (by rw[getElem?_map,gE hi];rfl)) λu hu hI=>?_;refine ai (hv.get (x:=.bytes bs[j]) (i:=j) (by rw[getElem?_map,gE hj];rfl)) λu' r8 r9=>?_;refine zk ?_;obtain⟨_,rfl⟩:=hI.kQ;obtain⟨_,rfl⟩:=r9.kQ;unfold kas_ask;rw[oK hu,oK r8];refine QL ?_;have q:=q s.toks;rw[show bs.getD i []=bs[i] by simp[getD_eq_getElem?_getD,hi],show bs.getD j []=bs[j] by simp[getD_eq_getElem?_getD,hj]] at q;exact q
theorem aZ.Do{z:Int}{r:List V}{l:LV}(h:aZ Z (.int z::r) l):∃t l',l=.int z t::l':=by
 lk
 cases h with|cons i _=>cases i;exact(mw _ _ rfl)
noncomputable abbrev hW (p:Int×List V):V:=.tup (.int p.1::p.2)
theorem ji.spans{ts:List (Int×List V)}(hd:∀i,1<=i->i<ts.length->(ts.getD i (0,[])).1≠(ts.getD (i-1) (0,[])).1):ji (ts.map hW) (tuples' (Value.type "int" != Value.type "tuple")) (λi j=>decide ((ts.getD i (0,[])).1<(ts.getD j (0,[])).1)) (px ts.length) where
 kind w A E Z vs s Q hv hk h2 q:=by
  have key:∀(ts:List (Int×List V))(vs:LV),aZ Z (ts.map hW) vs->∃fs,KatTups s.heap vs fs/\fs.length=ts.length/\∀v∈fs,∃z t,v=Value.int z t:=by
   intro ts
   induction ts with
   |nil=>intro vs h;cases h;exact(cz ([]) trivial rfl (λv h=>by cases h))
   |cons p r ih=>
    intro vs h
    lk
    cases h with|@cons _ v _ vs i h=>
    lk
    refine dD (ih vs h) λfs f1 f2 f3=>?_
    lk
    refine dJ i.cy λa us n aE hz hi=>?_;subst aE
    lk
    refine ai (hi.get (x:=.int p.1) (i:=0) rfl) λu hu hI=>?_
    lk
    cases hI with|@int _ t=>
    exact(cz (.int p.1 t::fs) (.cons (hk _ _ hz) rfl rfl (by rw[←getElem?_toList];exact hu) f1) (congrArg (· +1) f2) (λv hm=>by
     rcases List.mem_cons.mp hm with rfl|hm
     ·exact(mw _ _ rfl)
     ·exact f3 v hm))
  refine dD (key ts vs hv) λfs f1 f2 f3=>?_;exact kat_kind (T:=.type "int") f1 (aa ⟨3,0,[.gj 2 0,.aA 1 2,.aA 0 2],.lh 0 1⟩ h2 f2 (show vs.length=ts.length by rw[hv.length,length_map])) (λv hm=>by obtain⟨z,t,rfl⟩:=f3 v hm;exact .now) (by decide) q
 cmp w A Z vs i j C s hv hk hr q:=by obtain⟨h1,h2⟩:=hr;have hi:i<ts.length:=h2;have hj:j<ts.length:=aa FN h1 h2;have dj:=hd i (aa ⟨2,0,[.en (.aj 0 1) .v1],.gj 1 1⟩ h1) hi;have ej:i-1=j:=aa ⟨2,0,[.en (.aj 0 1) .v1],.en (.dK 1 1) .v0⟩ h1;rw[ej] at dj;refine ai (hv.get (x:=hW ts[i]) (i:=i) (by rw[getElem?_map,gE hi];rfl)) λu hu hI=>?_;refine ai (hv.get (x:=hW ts[j]) (i:=j) (by rw[getElem?_map,gE hj];rfl)) λu' r8 r9=>?_;refine dJ hI.cy λa us n aE hz hs=>?_;subst aE;refine dJ r9.cy λa' zB n' aE zK fG=>?_;subst aE;have q:=q s.toks;rw[(show ts.getD i (0,[])=ts[i] by simp[getD_eq_getElem?_getD,hi]),(show ts.getD j (0,[])=ts[j] by simp[getD_eq_getElem?_getD,hj])] at q dj;refine i_ hs.Do λt1 l1 e1=>?_;refine i_ fG.Do λt2 l2 e2=>?_;unfold kas_ask;refine(oK hu)▸?_;refine(oK r8)▸?_;refine kat_lt (hk _ _ hz) rfl (hk _ _ zK) rfl ?_;simp only[e1,e2,zip_cons_cons];refine kat_cons (wpAny_eqBool_int ?_);simp only[show(ts[i].1==ts[j].1)=false by simpa using dj];exact kat_no (oneLt_int q)
section
open PySem.SeqAt (EqAt RcAt RcNeAt)
section
variable{w:World}{A:Around}{E:VS}{s:Shared}{d1 d2:Addr}{fz fJ:List (List Int×Addr×Value)}
theorem A_{nm:String}{Q:Bool->SP}(hu:A.units<cLine)(h1:s.heap.DictOfH (tk w) d1 fz)(h2:s.heap.DictOfH (tk w) d2 fJ)(n1:(d1==sysModules)=false)(n2:(d2==sysModules)=false)
  (hk:fz.map (·.1)=fJ.map (·.1))(he:∀(i:Nat) x y,fz[i]?=some x->fJ[i]?=some y->EqAt A s x.2.2 y.2.2 true)(q:Q true s):wpAny (model aH w) A (Builtin.Dict.samePairs nm d1 d2) Q E s:=by
 refine gT λzP zk=>?_;refine sT (id h1) λo1 Hr UU f_ U vy e1 T_ UV=>?_;refine sT (id h2) λo2 Hs UW dM U rW e2 Ua Ht=>?_;have hl:fz.length=fJ.length:=by rw[←length_map (f:=(·.1)) (as:=fz),hk,length_map]
 have jP:Hr.size=fz.length:=size_of_entries e1;refine zk ?_;unfold Builtin.Dict.samePairs Builtin.Dict.showsAll;rw[if_neg (by rw[n1];exact Bool.false_ne_true),if_neg (by rw[n2];exact Bool.false_ne_true)];refine wB (wP (wB (wP ?_)));refine wB (wpAny_dictEntries f_ vy ?_);refine wpAny_bind (wpAny_dictEntries dM rW ?_);rw[if_neg (by rw[jP,(size_of_entries e2:Hs.size=fJ.length),hl];simp)];refine wpAny_bind (wpAny_dictEpoch f_ vy ?_)
 have key:∀l:List Nat,(∀x∈l,x<fz.length)->∀(f:Nat->Option Bool×Unit->Sem (ForInStep (Option Bool×Unit)))(Q':Option Bool×Unit->SP),
   (∀(i:Nat)(x y:List Int×Addr×Value)(Q2:ForInStep (Option Bool×Unit)->SP),fz[i]?=some x->fJ[i]?=some y->Q2 (.yield (none,())) s->wpAny (model aH w) A (f i (none,())) Q2 E s)->
   Q' (none,()) s->wpAny (model aH w) A (forIn l (none,()) f) Q' E s:=by
  intro l hm f Q' hf hq;refine wpAny_forIn_list f (λl b s'=>b=(none,())/\s'=s/\∀x∈l,x<fz.length) Q' (λx rest b s' h=>?_) (λb s' h=>by obtain⟨rfl,rfl,_⟩:=h;exact hq) l _ (bj rfl rfl hm);refine fq h λiL cS hx=>?_
  cases iL
  cases cS
  have aT:=hx x (.head _);exact hf x _ _ _ (gE aT) (gE (aa kr hl aT)) (bj rfl rfl (λy hy=>hx y (.tail _ hy)))
 rw[Std.Legacy.Range.forIn_eq_forIn_range'];refine wB (key _ (λx hx=>?_) _ _ (λi x y Q2 hx hy hq=>?_) (wP q))
 ·have:=List.mem_range'_1.mp hx;simp[Std.Legacy.Range.size] at this;exact aa kr jP this
 ·have g1:Hr[i]?=some (entryOfKey (tk w) x):=by rw[entry_at e1,hx];rfl
  have g2:Hs[i]?=some (entryOfKey (tk w) y):=by rw[entry_at e2,hy];rfl
  have Hu:x.1=y.1:=by
   have a1:(fz.map (·.1))[i]?=some x.1:=by rw[getElem?_map,hx];rfl
   rw[hk,(show(fJ.map (·.1))[i]?=some y.1 by rw[getElem?_map,hy];rfl)] at a1;exact(Option.some.inj a1).symm
  refine wpAny_bind (wpAny_dictEntries f_ vy ?_);rw[g1];refine wpAny_bind (wpAny_holding (wpAny_bind ?_));refine wpAny_dictFind_heap (knd:=tk w) (k:=x.1) hu (T_ x (mem_of_getElem? hx)) dM rW e2 Ua Ht (λjO=>absurd (by rw[hy,Hu]) (jO i y.2)) (λj p hj=>?_)
  have zL:j=i:=by
   have a2:(fJ.map (·.1))[j]?=some x.1:=by rw[getElem?_map,hj];rfl
   exact(List.getElem?_inj (gS a2).1 Ht).mp (a2.trans (show(fJ.map (·.1))[i]?=some x.1 by rw[getElem?_map,hy,Hu];rfl).symm)
  subst zL;refine wpAny_bind (wpAny_dictEntries dM rW ?_);rw[g2];refine wpAny_holding (he j x y hx hy _ _ _ _ ?_);refine wpAny_bind (wpAny_dictEpoch f_ vy ?_);rw[if_neg (by simp)];exact wP hq
end
theorem BF:Slot "dict" (cmpInfo .NotEq).2.1 "dict.__ne__":=
 .of (owner:="dict") (n:="__ne__") (by mg_lt) (by z_go) (by z_go) (by z_go)
  (by first|exact .inl (by z_go)|exact .inr (by z_go)) (by rw[isSubtype_type];x_go)
theorem JF:entryFor table "dict.__ne__"=some Builtin.«dict.__ne__»:=entryFor_of_fast (by x_go)
theorem Kv(a b:Value):argsOk "dict.__ne__" ⟨[a,b],[]⟩:=by x_go
theorem Ec:isSubtype (.type "dict") (.type "dict")=pure true:=by rw[isSubtype_type];x_go
section
variable{w:World}{A:Around}{E:VS}{s:Shared}{d1 d2:Addr}{fz fJ:List (List Int×Addr×Value)}
theorem LA{Q:VS}(hu:A.units<cLine)(zM:A.in1.units<cLine)(h1:s.heap.DictOfH (tk w) d1 fz)(h2:s.heap.DictOfH (tk w) d2 fJ)(n1:(d1==sysModules)=false)(n2:(d2==sysModules)=false)
  (hk:fz.map (·.1)=fJ.map (·.1))(he:∀(i:Nat) x y,fz[i]?=some x->fJ[i]?=some y->EqAt A.in1 s x.2.2 y.2.2 true)(q:Q (.bool true) s):wpAny (model aH w) A (compareOp .Eq (.ref d1) (.ref d2)) Q E s:=by
 refine wpAny_richCompare_same_room (op:=.Eq) h1.typeIs h2.typeIs PySem.F.slot_dict_eq (wpAny_call_entry PySem.F.slot_dict_eq h1.typeIs PySem.F.entry_dict_eq ?_ (PySem.F.args_dict_eq_2 _ _)) hu;refine(?_:wpAny _ _ (isInstance (.ref d2) (.type "dict")>>=λr=>_) _ _ s)
 refine wpAny_bind (wpAny_isInstance h2.typeIs Ec ?_);refine wB (wP (wB (wP (wB (A_ (w:=w) zM h1 h2 n1 n2 hk he ?_)))));exact wP (cz _ rfl (λx=>nomatch x) q)
theorem LC{Q:VS}(hu:A.units<cLine)(zM:A.in1.units<cLine)(h1:s.heap.DictOfH (tk w) d1 fz)(h2:s.heap.DictOfH (tk w) d2 fJ)(n1:(d1==sysModules)=false)(n2:(d2==sysModules)=false)
  (hk:fz.map (·.1)=fJ.map (·.1))(he:∀(i:Nat) x y,fz[i]?=some x->fJ[i]?=some y->EqAt A.in1 s x.2.2 y.2.2 true)(q:Q (.bool false) s):wpAny (model aH w) A (compareOp .NotEq (.ref d1) (.ref d2)) Q E s:=by
 refine wpAny_richCompare_same_room (op:=.NotEq) h1.typeIs h2.typeIs BF (wpAny_call_entry BF h1.typeIs JF ?_ (Kv _ _)) hu;refine(?_:wpAny _ _ (isInstance (.ref d2) (.type "dict")>>=λr=>_) _ _ s)
 refine wpAny_bind (wpAny_isInstance h2.typeIs Ec ?_);refine wB (wP (wB (wP (wB (A_ (w:=w) zM h1 h2 n1 n2 hk he ?_)))));exact wP (cz _ rfl (λx=>nomatch x) q)
end
section
variable{C:Cx}{L:HL}{Q:VP}{E:HP}{d1 d2:Addr}{kvs:List (List Int×V)}{n1 n2:Nat}
theorem eW.at{kvs:List (List Int×V)}{us}(h:eW Z kvs us):∀(i:Nat)(x:List Int×Addr×Value),us[i]?=some x->∃p,kvs[i]?=some p/\Is Z p.2 x.2.2:=by
 induction h with
 |nil=>intro i x h;cases h
 |cons _ j _ ih=>
  intro i x h
  cases i with
  |zero=>cases h;exact(ah _ rfl j)
  |succ i=>exact ih i x h
theorem eW.Hv{Z:Zt}{A:Around}{s:Shared}(hk:∀b o,Z b=some o->s.heap.get? b=some o){fz fJ}(h1:eW Z kvs fz)(h2:eW Z kvs fJ)(hp:∀p∈kvs,Pl 5 p.2)(hA:A.units+5<cLine):∀(i:Nat) x y,fz[i]?=some x->fJ[i]?=some y->EqAt A s x.2.2 y.2.2 true:=λi x y hx hy=>by
 lk
 refine ai (h1.at i x hx) λp e1 i1=>?_
 lk
 refine ai (h2.at i y hy) λp' e2 i2=>?_;rw[e1] at e2;cases e2;exact C_ hk (hp p (mem_of_getElem? e1)) i1 i2 hA
theorem aV.Sb(B:Bs C.G C.K)(h1:ap L d1 (.dt kvs n1))(h2:ap L d2 (.dt kvs n2))(hp:∀p∈kvs,Pl 5 p.2)(q:Q (.bool true) L):aV C .Eq (.ref d1) (.ref d2) L Q E:=⟨λA Z H x y hR hx hy=>by
 lk
 cases hx;cases hy
 refine .mk λs S=>?_
 lk
 refine ai (lN S h1) λfz u1 D1=>?_;refine ai (lN S h2) λfJ u2 D2=>?_;exact LA hR.u0 (by have:=hR.units;show A.units+1<_;exact aa ym this) D1 D2 (jq B S h1) (jq B S h2) (u1.keys.trans u2.keys.symm) (u1.Hv S.keep u2 hp (by have:=hR.units;show A.units+1+5<_;exact aa FO this)) (PQ.mk' S .bool q)⟩
theorem aV.Sc(B:Bs C.G C.K)(h1:ap L d1 (.dt kvs n1))(h2:ap L d2 (.dt kvs n2))(hp:∀p∈kvs,Pl 5 p.2)(q:Q (.bool false) L):aV C .NotEq (.ref d1) (.ref d2) L Q E:=⟨λA Z H x y hR hx hy=>by
 lk
 cases hx;cases hy
 refine .mk λs S=>?_
 lk
 refine ai (lN S h1) λfz u1 D1=>?_;refine ai (lN S h2) λfJ u2 D2=>?_;exact LC hR.u0 (by have:=hR.units;show A.units+1<_;exact aa ym this) D1 D2 (jq B S h1) (jq B S h2) (u1.keys.trans u2.keys.symm) (u1.Hv S.keep u2 hp (by have:=hR.units;show A.units+1+5<_;exact aa FO this)) (PQ.mk' S .bool q)⟩
end
end
inductive pX(Z:Zt):List (Str×V)->List (Value×Value)->Prop
 |nil:pX Z [] []
 |cons{k t x v r us:_}:Is Z x v->pX Z r us->pX Z ((k,x)::r) ((.str k t,v)::us)
inductive DR(C:Cx)(F:Fn)(σ:Lo):List Str->Tm->List (Sem Value×Sem Value)->Prop
 |nil:DR C F σ [] .bT []
 |cons{k ks tm xs e ps kk kp pos:_}(h:ES C F σ tm e)(r:DR C F σ ks xs ps):DR C F σ (k::ks) (.ae tm xs) ((eval (.Constant (.str k) kk kp) F.env,do let x ←eval e F.env;standAt pos;pure x)::ps)
section
variable{C:Cx}{F:Fn}{σ:Lo}
theorem JG{E:VS}{Q:List (Value×Value)->SP}(h:Q [] s):ag w A (evalPairs []) Q E s:=aO h
theorem I9{E:VS}{k v:Sem Value}{rest:List (Sem Value×Sem Value)}{Q:List (Value×Value)->SP}
  (h:ag w A k (λkv am=>ag w A v (λvv bn=>ag w A (evalPairs rest) (λvs cL=>Q ((kv,vv)::vs) cL) E bn) E am) E s):ag w A (evalPairs ((k,v)::rest)) Q E s:=by
 refine nB (ay h (λkv am aW=>?_) λU U e=>e);refine nB (b9 (ay aW (λvv bn b_=>?_) λU U e=>e));exact nB (b9 (ay b_ (λvs cL eS=>aO eS) λU U e=>e))
theorem LD{ks tm ps}(h:DR C F σ ks tm ps):∀{A Z H L}{Q:VP}{E},Rm A C.d->wp C tm F.globs σ .ev L Q E->JR pX C.G A Z (F.own σ++H) L (evalPairs ps) (λkvs L=>kvs.map (·.1)=ks/\Q (.tup (kvs.map (·.2))) L) E:=by
 induction h with
 |nil=>intro A Z H L Q E hR hw;exact .bP λs S=>JG ⟨Z,L,[],.refl _,S,.nil,rfl,hw⟩
 |@cons k ks tm xs e ps kk kp pos h r ih=>
  intro A Z H L Q E hR hw;refine .bP λs S=>I9 (ay ((J.str (Q:=λx M=>x=.str k/\M=L) (E:=E) ⟨rfl,rfl⟩).run s S) (λkv s1 q=>?_) (λU U q=>q))
  cases q with|mk Z1 L1 x1 fH S1 i1 q1=>
  obtain⟨rfl,rfl⟩:=q1;obtain⟨_,rfl⟩:=i1.rn;refine nB (ay ((h.ev A Z1 H _ _ E hR hw).run s1 S1) (λv s2 q=>?_) (λU U=>PE.le fH))
  cases q with|mk Z2 L2 x2 gm S2 i2 q2=>
  refine nB (jp (aO ?_));refine ay ((ih (Q:=λvs L=>match vs with|.tup l=>Q (.tup (x2::l)) L|_=>False) hR q2).run s2 S2) (λvs s3 q=>?_) (λU U=>PE.le (fH.trans gm))
  cases q with|mk Z3 L3 x3 fU S3 i3 q3=>
  obtain⟨rfl,q3⟩:=q3;exact⟨Z3,L3,(k,x2)::x3,fH.trans (gm.trans fU),S3,.cons (i2.mono fU) i3,rfl,q3⟩
theorem DR.len{ks tm ps}(h:DR C F σ ks tm ps):ps.length=ks.length:=by
 induction h with
 |nil=>rfl
 |cons _ _ ih=>exact congrArg (· +1) ih
theorem pX.Nh{kvs us}(h:pX Z kvs us):∃ws,Carries (strKind aH w) us ws/\dm Z kvs ws/\us.length=kvs.length:=by
 induction h with
 |nil=>exact(cz ([]) trivial .nil rfl)
 |@cons k t x v r us i _ ih=>refine dD ih λws h1 h2 h3=>?_;exact(cz ((k,v)::ws) (bj (strKind_is aH w k t) rfl h1) (.cons i h2) (congrArg (· +1) h3))
noncomputable def nH (acc:SV):SV->SV
 |[]=>acc
 |(k,x)::r=>nH (df acc k x) r
theorem dm.nH{kvs ws}(h:dm Z kvs ws):∀{acc us},dm Z acc us->dm Z (Mine.Internal.nH acc kvs) (merged us ws):=by
 induction h with
 |nil=>intro acc us h;exact h
 |cons i _ ih=>intro acc us h;exact ih (h.set i)
def GG(ks:List Str)(args:Tm):Cx->SV->Lo->HL->(VP)->(HP)->Prop:=λC gl σ L Q E=>wp C args gl σ .ev L (λvs L=>match vs with|.tup l=>∀a n,Q (.ref a) ((a,.ds (nH [] (ks.zip l)) n)::L)|_=>False) E
theorem Co:∀l:SV,(l.map (·.1)).zip (l.map (·.2))=l
 |[]=>rfl
 |p::l=>by rw[map_cons,map_cons,zip_cons_cons,Co l]
theorem O'{ks args keys values pos ps}(hd:DR C F σ ks args ps)(O_:(evalEachOpt keys F.env).zip ((evalEach values F.env).map λv=>do let x ←v;standAt pos;pure x)=ps.map λp=>(some p.1,p.2))(h0:ps≠[])(hl:ps.length<=15):ES C F σ (.sp (GG ks args)) (.Dict keys values pos):=.leaf (λA Z H L Q E hR hw=>.bP λs S=>by
 simp only[arm_eval_Dict,O_,dictDisplay_pairs ps h0 (aa ⟨1,0,[.aS 0 15],.aJ 0 17⟩ hl)];unfold subDict;refine nB (jp (nB (nB (aP (wpAny_alloc ?_)))));have S1:=S.ed (c:=.dict [] 0) (o:=emptyDict) rfl (dc nodup_nil ([]) rfl .nil) s.toks;have S2:=S1.e8 (H':=F.own σ++((s.heap.objs.size,.dict [] 0)::H)) List.perm_middle.symm
 generalize s.heap.objs.size=D at S2⊢
 refine nB (b9 ?_);refine(if_pos hl)▸?_;refine nB (ay ((LD hd hR hw).run _ S2) (λvs s1 q=>?_) (λe s1 q=>?_))
 ·lk
  cases q with|mk Z1 L1 kvs fH S1 i1 q1=>
  lk
  obtain⟨rfl,q1⟩:=q1
  lk
  refine dD (i1.Nh (w:=C.G.w)) λws c1 c2 c3=>?_;have S4:au C.G A Z1 ((D,.dict [] 0)::L1) (F.own σ++H) s1:=(au.xh (L':=[(D,.dict [] 0)]) (.cons (c:=.dict [] 0) rfl .nil) (S1.e8 (H':=[(D,.dict [] 0)]++(F.own σ++H)) perm_middle)).perm perm_append_comm
  lk
  refine bW (S4.cell .head) λU o ho hp=>?_
  lk
  refine dD (kN (kvs:=[]) (xV C.G.w) rfl ho hp) λus hu Hq U=>?_
  lk
  cases hu
  have go:vs.length<=15:=by have:=hd.len;rw[length_map] at this;exact aa ⟨3,0,[.aS 0 15,.aA 1 2,.aA 0 2],.aS 1 15⟩ hl c3 this
  refine b9 (aP (wB (wpAny_storeAll (knd:=strKind aH C.G.w) vs ws [] s1 _ c1 Hq (by rw[sizeLine_eq,List.length_nil];exact aa ⟨2,0,[.aA 0 1,.aS 1 15],.ln (.eU 0 0) (.k 16777216)⟩ (c1.length:ws.length=vs.length) go) λh' vz fG=>wP (aO (aO ?_)))));refine dn (sV (xV C.G.w) rfl vz (c2.nH .nil)) λo' n' cI iM=>?_;have q2:Q (.ref D) ((D,Cl.ds (nH [] ((kvs.map (·.1)).zip (kvs.map (·.2)))) n')::L1):=q1 D n';rw[Co] at q2;exact⟨Z1,_,_,fH,S4.put .head fG cI iM _,.ref,q2⟩
 ·cases q with|mk Z1 L1 a fH he S1 q1=>
  exact⟨Z1,L1,a,fH,he,S1.k_ (.append_left (.cons _ (.refl _)) _),q1⟩) (λU U U h=>h) rfl
end
structure Lm where
 qual:Str
 params:Arguments
 body:Expr
 scope:Scope
noncomputable abbrev Lm.obj (l:Lm) (eT:List (Str×Addr)) (pm:Value) (c:Addr) (ct:Value):Obj:=kla_obj "<lambda>" l.qual l.params l.body l.scope eT pm c ct
def ml(l:Lm)(eT:List (Str×Addr))(f:Addr)(h:bF):Prop:=∃c,h=[(f,.raw λU U o=>∃pm ct,o=l.obj eT pm c ct),(c,.raw λU U o=>∃vs t,o.data=.fields vs/\vs[1]?=some (.str l.qual t))]
noncomputable def uV (cs:List Addr) (vs:List (Option V)):HL:=zipWith (λc v=>(c,Cl.p (.cY v))) cs vs
noncomputable def lY (cs:List Addr) (vs:List (Option V)):bF:=zipWith (λc v=>(c,P0.cY v)) cs vs
theorem cR.py:∀(cs:List Addr)(vs:List (Option V)),cR (uV cs vs) (lY cs vs)
 |[],_=>.nil
 |_::_,[]=>.nil
 |c::cs,v::vs=>.cons (L1:=[(c,.cY v)]) rfl (cR.py cs vs)
theorem cR.xY:∀(cs:List Addr)(vs:List (Option V)){l:bF},cR (uV cs vs) l->l=lY cs vs
 |[],_,_,h=>by cases h;rfl
 |_::_,[],_,h=>by cases h;rfl
 |c::cs,v::vs,_,h=>by
  cases h with|cons x r=>
  have x:_=[(c,P0.cY v)]:=x;refine av x ?_;rw[cR.xY cs vs r];rfl
noncomputable def Lm.env (l:Lm) (eT:List (Str×Addr)) (f c fr:Addr):Env:=newEnv l.scope fr mainGlobals eT (l.qual++".<locals>.") (some f) (.ref c) none builtinsNs
def Lm.fn(l:Lm)(eT:List (Str×Addr))(globs:SV)(f c fr:Addr):Fn:=⟨l.env eT f c fr,fr,[],eT.map λp=>(some p.1,p.2),globs,false⟩
noncomputable def Lm.ie (l:Lm) (ns:List Str) (gs:List Str):Bool:=l.scope.kind==.function&&!l.scope.isGenerator&&!l.scope.isCoroutine&&l.scope.names.all (λp=>p.2 != .cell)&&
 ns.all (λn=>l.scope.names.lookup n==some .free&&!(n==("__debug__":Str))&&!(n==("__classdict__":Str)))&&decide ns.Nodup&&gs.all (λn=>l.scope.names.lookup n==some .globalImplicit&&!(n==("__debug__":Str)))
theorem As:∀(ns:List Str)(cs:List Addr),ns.Nodup->∀x c,(x,c)∈ns.zip cs->(ns.zip cs).lookup x=some c
 |[],_,_,_,_,h=>by cases h
 |_::_,[],_,_,_,h=>by cases h
 |n::ns,a::cs,hn,x,c,h=>by
  obtain⟨h1,h2⟩:=List.nodup_cons.mp hn;rw[zip_cons_cons] at h⊢;rw[lookup_cons]
  cases h with
  |head=>simp
  |tail _ h=>have:x≠n:=λe=>h1 (e▸(of_mem_zip h).1);rw[show(x==n)=false by simpa using this];exact As ns cs h2 x c h
theorem Lm.pV{l:Lm}{ns:List Str}{cs:List Addr}{globs:SV}(hc:l.ie ns (globs.map (·.1))=true)(hg:ir G globs)(f c fr:Addr):bv G (l.fn (ns.zip cs) globs f c fr):=by
 unfold Lm.ie at hc
 lk
 obtain⟨hc,c7⟩:=tB hc
 lk
 obtain⟨hc,c6⟩:=tB hc
 lk
 obtain⟨hc,c5⟩:=tB hc
 lk
 obtain⟨hc,c4⟩:=tB hc;obtain⟨hc,c3⟩:=tB hc;obtain⟨c1,c2⟩:=tB hc
 have mem:∀x a,(some x,a)∈(l.fn (ns.zip cs) globs f c fr).cells->(x,a)∈ns.zip cs:=λx a h=>by
  refine ai (List.mem_map.mp h) λp hp e=>?_
  cases e
  exact hp
 refine⟨eq_of_beq c1,rfl,rfl,rfl,(λx hx=>by cases hx),λx a hx=>?_,(λh=>by cases h),λp hp=>?_⟩
 ·have hm:=mem x a hx;have h:=List.all_eq_true.mp c5 x (of_mem_zip hm).1
  lk
  obtain⟨h,h3⟩:=tB h;obtain⟨h1,h2⟩:=tB h;exact⟨(bj (.inr (eq_of_beq h1)) ((not_eq_true' _).mp h2) ((not_eq_true' _).mp h3)),As ns cs (of_decide_eq_true c6) x a hm⟩
 ·have h:=List.all_eq_true.mp c7 p.1 (mem_map_of_mem hp);obtain⟨h1,h2⟩:=tB h;exact(bj (eq_of_beq h1) ((not_eq_true' _).mp h2) (hg.mem p hp))
theorem Ed(l:Lm)(ns:List Str)(cs:List Addr)(globs:SV)(f c fr:Addr)(vs:List (Option V))(hl:cs.length=ns.length):(l.fn (ns.zip cs) globs f c fr).own ⟨[],vs⟩=(fr,.frame [] [])::lY cs vs:=by
 have key:∀(ns:List Str)(cs:List Addr)(vs:List (Option V)),cs.length=ns.length->zipWith (λ(p:Option Str×Addr) v=>(p.2,P0.cY v)) ((ns.zip cs).map λp=>(some p.1,p.2)) vs=lY cs vs:=by
  intro ns
  induction ns with
  |nil=>intro cs vs h;cases cs with
   |nil=>rfl
   |cons=>cases h
  |cons n ns ih=>
   intro cs vs h
   cases cs with
   |nil=>cases h
   |cons c cs=>
    cases vs with
    |nil=>rfl
    |cons v vs=>rw[zip_cons_cons,map_cons,zipWith_cons_cons,ih cs vs (Nat.succ.inj h)];rfl
 rw[←key ns cs vs hl];rfl
theorem QM{A:Around}{R:Result->SP}
  (h:ag w (A.deeper env) (eval e env) (λv s'=>R (.ok (.ret v)) s')
   (λe' s'=>wpAny (model aH w) (A.deeper env) (leaving env e') (λU eg=>R (.error e') eg) (λUb eg=>R (.error Ub) eg) s') s):
  cw w A (.expr e env) R s:=by
 refine hU ?_;show ag _ (A.deeper env) (do point;ret (←(eval e env).onRaise (leaving env))) _ _ s;exact nB (aP (wpAny_point (nB (mX (ay h (λv s' h'=>aO h') λU U h'=>aP h')))))
theorem St.Pb{A:Around}{s:Shared}{h':Heap}{t:Nat}{env:Env}(S:St G A Z L s)(hk:env.scope.kind=.function)(hf:env.frame=some s.heap.objs.size)(fw:h'.Ns s.heap.objs.size (λU=>none))(ru:∀b o,s.heap.get? b=some o->h'.get? b=some o):
  St G (A.deeper env) Z ((s.heap.objs.size,.frame [] [])::L) {s with heap:=h',toks:=t}:=by
 have md:∀p∈L,p.1<s.heap.objs.size:=λp hp=>S.low hp;refine ew fw λo es ep ho hd Uc hm=>?_;refine⟨S.base,λb o e=>ru b o (S.keep b o e),?_,λp hp=>?_,?_,S.gens,S.os⟩
 ·rw[map_cons,nodup_cons];refine⟨λh=>?_,S.nd⟩;refine ai (List.mem_map.mp h) λp hp e=>?_;exact ne_of_lt (md p hp) e
 ·lk
  rcases List.mem_cons.mp hp with rfl|hp
  ·exact⟨S.gU,o,ho,rfl,nodup_nil,es,ep,hd,Uc,λx=>hm x⟩
  ·lk
   lk
   refine bW (S.cells p hp) λz o h1 h2=>?_;exact(dc z o (ru _ _ h1) h2)
 ·refine ai S.frames λl e q=>?_;refine(ah (env::l) (by show A.frames.map (env::·)=_;rw[e];rfl) (λyO he=>?_))
  lk
  rcases List.mem_cons.mp he with rfl|he
  ·refine(lP hk _ o hf (bj ho (λvs q=>by rw[hd] at q;cases q) S.gU) (λp hp e=>?_));rcases List.mem_cons.mp hp with rfl|hp
   ·rfl
   ·exact absurd (md p hp) (e▸lt_irrefl _)
  ·lk
   refine kP (q yO he) λhk f' o e1 e2 e3=>?_;refine(lP hk f' o e1 ⟨ru _ _ e2.1,e2.2⟩ (λp hp e=>?_));rcases List.mem_cons.mp hp with rfl|hp
   ·rfl
   ·exact e3 p hp e
def fN(l:Lm)(eT:List (Str×Addr))(f:Addr)(cs:List Addr)(vs:List (Option V)):HL:=(f,.own (ml l eT))::uV cs vs
theorem Sp.lam{K:Frag}{d:Nat}{l:Lm}{ns:List Str}{cs:List Addr}{globs:SV}{f:Addr}{vs:List (Option V)}{Q:VP}{E:HP}(B:Bs G K)(X:lw G)
  (hc:l.ie ns (globs.map (·.1))=true)(hg:ir G globs)(hl:cs.length=ns.length)
  (hp:∀pm c ct,bindArgs (kla_fn "<lambda>" l.qual l.params l.body l.scope (ns.zip cs) pm (.ref c) ct) ⟨[],[]⟩=pure [])
  (hr:∀f c fr,aK ⟨G,K,d⟩ (l.fn (ns.zip cs) globs f c fr).nm tm l.body)(h:wp ⟨G,K,d⟩ tm globs ⟨[],vs⟩ .ev L Q E):
  Sp G f (d+1) [] (L++fN l (ns.zip cs) f cs vs) (λv M=>∃M',M=M'++fN l (ns.zip cs) f cs vs/\Q v M') (λM=>∃M',M=M'++fN l (ns.zip cs) f cs vs/\E M'):=⟨λA Z H us s hR hv S=>by
 lk
 obtain rfl:=hv.dN;have Ud:=hc;unfold Lm.ie at hc
 lk
 obtain⟨hc,_⟩:=tB hc
 lk
 obtain⟨hc,_⟩:=tB hc
 lk
 obtain⟨hc,_⟩:=tB hc
 lk
 obtain⟨hc,c4⟩:=tB hc
 lk
 obtain⟨hc,c3⟩:=tB hc
 lk
 obtain⟨c1,c2⟩:=tB hc
 lk
 refine ai S.hide λK0 e S=>?_;have e0:=e
 lk
 cases e with|cons hq e2=>
 lk
 obtain⟨c,rfl⟩:=hq
 lk
 obtain rfl:=cR.xY cs vs e2
 lk
 refine ai S λl0 el S=>?_
 lk
 refine bW (S.cells (f,_) (mem_append_right _ (mem_append_left _ (mem_append_left _ (.head _))))) λU o ho hq=>?_
 lk
 refine i_ (hq Z (.refl _)) λpm ct aw=>?_;subst aw
 lk
 refine bW (S.cells (c,_) (mem_append_right _ (mem_append_left _ (mem_append_left _ (.tail _ (.head _)))))) λU oc rG hq=>?_;refine dn (hq Z (.refl _)) λws t hd hw=>?_;refine CZ (body:=.expr _) hR.room ho rfl ((not_eq_true' _).mp c3) ((not_eq_true' _).mp c2) (λU=>rfl) (wt c oc ws t rfl rG hd hw) ?_;simp only[hp];refine wP (wpAny_newFunctionEnv (λx hx=>?_) (λx hx=>by cases hx) (λh' fw vn=>⟨?_,QM ?_⟩) (eq_of_beq c1))
 ·have:=List.all_eq_true.mp c4 x hx
  simpa using this
 ·exact(B.nolimit.keeps S.h0).keeps λb o q=>(vn.2 b (ne_of_lt (lt_size q))).trans (get?_push_of_some _ q)
 ·have ru:∀b o,s.heap.get? b=some o->h'.get? b=some o:=λb o q=>(vn.2 b (ne_of_lt (lt_size q))).trans (get?_push_of_some _ q);have S1:=St.Pb (env:=l.env (ns.zip cs) f c s.heap.objs.size) (t:=s.toks) S (eq_of_beq c1) rfl fw ru;have nZ:=S.frames.some
  generalize s.heap.objs.size=fr at S1⊢
  have S2:au G (A.deeper (l.env (ns.zip cs) f c fr)) Z L ((l.fn (ns.zip cs) globs f c fr).own ⟨[],vs⟩++([(f,.raw λU U o=>∃pm ct,o=l.obj (ns.zip cs) pm c ct),(c,.raw λU U o=>∃vs t,o.data=.fields vs/\vs[1]?=some (.str l.qual t))]++H)) {s with heap:=h',toks:=s.toks}:=by refine(ah l0 el (S1.perm ?_));rw[Ed _ _ _ _ _ _ _ _ hl];refine List.Perm.trans List.perm_middle.symm (List.Perm.append_left l0 (.cons _ ?_));rw[append_assoc];exact perm_append_comm_assoc ..
  have hA:∃l',(A.deeper (l.env (ns.zip cs) f c fr)).frames=some ((l.fn (ns.zip cs) globs f c fr).env::l'):=by refine xE nZ λl' e=>?_;exact(iE l' (by show A.frames.map _=_;rw[e];rfl))
  have ok:=Lm.pV (f:=f) (c:=c) (fr:=fr) Ud hg (cs:=cs)
  have lb:∀{Z' L' s'},au G (A.deeper (l.env (ns.zip cs) f c fr)) Z' L' ((l.fn (ns.zip cs) globs f c fr).own ⟨[],vs⟩++([(f,.raw λU U o=>∃pm ct,o=l.obj (ns.zip cs) pm c ct),(c,.raw λU U o=>∃vs t,o.data=.fields vs/\vs[1]?=some (.str l.qual t))]++H)) s'->au G A Z' (L'++fN l (ns.zip cs) f cs vs) H s':=λ{Z' L' s'} S'=>by rw[Ed _ _ _ _ _ _ _ _ hl] at S';refine au.xh (L':=fN l (ns.zip cs) f cs vs) e0 (au.e8 ?_ (S'.k_ (List.sublist_cons_self ..)).leave);exact perm_append_comm_assoc ..
  refine ay (((ey (C:=⟨G,K,d⟩) (σ:=⟨[],vs⟩) ok B (hr f c fr)).ev _ Z _ L Q E hR.deeper h).run _ S2) (λv s' q=>?_) (λe s' q=>?_)
  ·lk
   cases q with|mk Z' L' x le S3 i q=>exact⟨Z',_,x,le,lb S3,i,L',rfl,q⟩
  ·cases q with|mk Z' L' a le he S3 q=>
   refine av he ?_;refine wpAny_mono (X.left (l.fn (ns.zip cs) globs f c fr) _ Z' _ ⟨[],vs⟩ L' a s' ok hA hR.deeper.handled S3) (λU s3 q3=>?_) (λU U x=>x.elim);refine ai q3 λZ3 fU S5=>?_;exact⟨Z3,_,a,le.trans fU,rfl,lb S5,L',rfl,q⟩⟩
structure BMain(G:Gd):Prop where
 ex:∃mg bm ob,G.h₀.Ns mainGlobals mg/\mg "__builtins__"=some (.ref bm)/\bm≠builtinsNs/\bm≠mainGlobals/\G.h₀.get? bm=some ob/\ob.cls=.type "module"/\ob.dict=some builtinsNs/\ob.data=.plain
section
variable{G:Gd}{A:Around}{Z:Zt}{L0:bF}{s:Shared}
theorem St.adopt{c:P0}{a:Addr}{o:Obj}{n:Nat}(S:St G A Z L0 s)(hz:∀b o,Z b=some o->b<n)(hL:∀p∈L0,p.1<n)(hF:∀l,A.frames=some l->∀env∈l,∀f,env.frame=some f->f<n)(ha:n<=a)(ho:s.heap.get? a=some o)(hc:c.is Z G.w.params o):St G A Z ((a,c)::L0) s:=by
 refine⟨S.base,S.keep,?_,λp hp=>?_,?_,S.gens,S.os⟩
 ·rw[map_cons,nodup_cons];refine⟨λh=>?_,S.nd⟩
  lk
  refine ai (List.mem_map.mp h) λp hp e=>?_;have h1:p.1<n:=hL p hp;have e:p.1=a:=e;rw[e] at h1;exact Nat.not_lt.mpr ha h1
 ·rcases List.mem_cons.mp hp with rfl|hp
  ·refine(dc ?_ o ho hc)
   cases q:Z a with
   |none=>rfl
   |some o=>exact absurd (hz _ _ q) (Nat.not_lt.mpr ha)
  ·exact S.cells p hp
 ·refine ai S.frames λl e q=>?_;refine(ah l e (λenv he=>?_))
  lk
  refine kP (q env he) λhk f o' e1 e2 e3=>?_;refine(lP hk f o' e1 e2 (λp hp ep=>?_));rcases List.mem_cons.mp hp with rfl|hp
  ·have h1:=hF l e env he f e1;have ep:a=f:=ep;rw[←ep] at h1;exact absurd h1 (Nat.not_lt.mpr ha)
  ·exact e3 p hp ep
end
section
variable{C:Cx}{F:Fn}{A:Around}{Z:Zt}{L L':HL}{H:bF}{E:HP}{l:Lm}{pos:Pos}{eT:List (Str×Addr)}{c P:Addr}{t t':P0}
theorem J.lam{Q:VP}(hB:BMain C.G)(Ch:CodeHd C.G.h₀ c P)(qR:F.env.code=.ref c)(ok:bv C.G F)(hq:l.qual=F.env.qual++"<lambda>")(nl:defaultsOf l.params F.env=([],[]))(fh:closureFor l.scope F.env=pure eT)
  (ht:∀Z w o,t.is Z w o->∃ps,o=tabObj ps/\TriplesOk ps.toList/\codeAmong pos ps.toList=none/\∀c',t'.is Z w (tabObj (ps++#[rawInt pos.line,rawInt pos.col,.ref c'])))(hf:t'.isFrame=t.isFrame)(hp:bK L P (.p t) (.p t') L')(k:∀f,Q (.ref f) ((f,.own (ml l eT))::L')):
  J C.G A Z H L (eval (.Lambda l.params l.body l.scope pos) F.env) Q E:=.mk λs S=>by
 lk
 refine IX hB.ex λmg bm ob b1 b2 b3 b4 b5 b6 b7 b8=>?_
 lk
 refine bW (S.cell hp.pick) λhz oP Hw hP=>?_
 lk
 refine xB (ht _ _ _ hP) λps cS r_ hn pv=>?_;subst cS
 have old:∀b o,C.G.h₀.get? b=some o->b≠P:=λb o e q=>by
  subst q;refine ai S λU U S'=>?_;rw[S'.base _ _ e] at hz
  cases hz
 have gP:mainGlobals≠P:=by refine xC b1 λo U U e U=>?_;exact old _ _ e
 refine kla_eval nl ?_;refine(hq)▸?_;refine kla_makeFunction (mg:=mg) fh ok.gl (b1.keeps S.h0) qR (Ch.keeps S.h0) Hw r_ hn gP ⟨bm,ob,b2,b3,b4,old _ _ b5,S.h0 _ _ b5,b6,b7,b8⟩ λc' Ue h' tk hx kC aT Sd Uf=>?_
 lk
 refine lL Sd λc2 oc vs tq e2 rG hd hv=>?_
 lk
 cases e2
 lk
 obtain⟨l0,el,S0⟩:=S
 lk
 refine dn hp.split λpre post aw aE=>?_;subst aw;subst aE
 lk
 refine ew el.at λx1 x2 x3 aE y1 y2 y3=>?_;subst aE;have y2:x2=[(P,t)]:=y2;subst y2;have e1:x1++([(P,t)]++x3)++H=x1++(P,t)::(x3++H):=by simp
 rw[e1] at S0
 have md:∀p∈x1++(P,t')::(x3++H),p.1<s.heap.objs.size:=λp hp=>by
  rcases List.mem_append.mp hp with hp|hp
  ·exact S0.low (mem_append_left _ hp)
  ·rcases List.mem_cons.mp hp with rfl|hp
   ·exact lt_size Hw
   ·exact S0.low (mem_append_right _ (.tail _ hp))
 have Se:∀l,A.frames=some l->∀env∈l,∀f,env.frame=some f->f<s.heap.objs.size:=λl e env he f ef=>by
  lk
  refine ai S0.frames λl' e' q=>?_;rw[e] at e';cases e';refine kP (q env he) λU f' o e1 e2 U=>?_;rw[ef] at e1;cases e1;exact lt_size e2.1
 have S3:=(St.adopt (c:=.raw λU U o=>∃vs t,o.data=.fields vs/\vs[1]?=some (.str l.qual t)) (S0.l_ hx Uf (pv c') tk hf) (λb o e=>lt_size (S0.keep b o e):∀b o,Z b=some o->b<s.heap.objs.size) md Se kC rG (λU U=>(co vs tq hd hv))).new (c:=.raw λU U o=>∃pm ct,o=l.obj eT pm c' ct) (o:=l.obj eT ((mg "__name__").getD .none) c' Ue) rfl (λU U=>(mw _ _ rfl)) tk
 dsimp only at S3;refine⟨Z,_,_,.refl _,(ah _ (.cons (c:=.own (ml l eT)) (iE c' rfl) (y1.append (.cons (c:=.p t') rfl y3))) (S3.perm ?_)),.ref,k _⟩;simp
end
def yV(g:Addr)(l:Lm)(uW:Addr)(t t':P0)(ns:List Str)(dH:(A:Type)->A->A->A->List A):Cx->SV->Lo->HL->(VP)->(HP)->Prop:=λC U σ L Q E=>
 ∃v0 v1 v2,σ.c=[v0,v1,v2]/\∃L1,bK L uW (.p t) (.p t') L1/\∀(c0 c1 c2 f:Addr),
  Sp C.G g C.d [.ref f] (L1++fN l (ns.zip (dH _ c0 c1 c2)) f (dH _ c0 c1 c2) (dH _ v0 v1 v2)) (λv M=>∃M',M=M'++fN l (ns.zip (dH _ c0 c1 c2)) f (dH _ c0 c1 c2) (dH _ v0 v1 v2)/\Q v M')
   (λM=>∃M',M=M'++fN l (ns.zip (dH _ c0 c1 c2)) f (dH _ c0 c1 c2) (dH _ v0 v1 v2)/\E M')
structure xZ(dH:(A:Type)->A->A->A->List A):Prop where
 zip:∀(c0 c1 c2:Addr)(v0 v1 v2:Option V),∃rest:bF,Perm [(c0,P0.cY v0),(c1,.cY v1),(c2,.cY v2)] (lY (dH _ c0 c1 c2) (dH _ v0 v1 v2)++rest)
noncomputable def Fm (A:Type) (x y _:A):List A:=[x,y]
noncomputable def Fo (A:Type) (x _ z:A):List A:=[z,x]
theorem LF:xZ Fm:=⟨λc0 c1 c2 v0 v1 v2=>⟨[(c2,.cY v2)],.refl _⟩⟩
theorem LG:xZ Fo:=⟨λc0 c1 c2 v0 v1 v2=>⟨[(c1,.cY v1)],by exact(perm_append_comm (l₁:=[(c0,P0.cY v0),(c1,P0.cY v1)]) (l₂:=[(c2,P0.cY v2)]))⟩⟩
theorem Ba{C:Cx}{F:Fn}{l:Lm}{c uW g:Addr}{t t':P0}{gn:Str}{pos:Pos}{ns:List Str}{dH:(A:Type)->A->A->A->List A}{c0 c1 c2:Addr}(B:Bs C.G C.K)(ok:bv C.G F)(hB:BMain C.G)(Ch:CodeHd C.G.h₀ c uW)
  (qR:F.env.code=.ref c)(hq:l.qual=F.env.qual++"<lambda>")(nl:defaultsOf l.params F.env=([],[]))(xi:F.cells=[(some n0,c0),(some n1,c1),(some n2,c2)])(fh:closureFor l.scope F.env=pure (ns.zip (dH _ c0 c1 c2)))(Sf:xZ dH)
  (ht:∀Z w o,t.is Z w o->∃ps,o=tabObj ps/\TriplesOk ps.toList/\codeAmong pos ps.toList=none/\∀c',t'.is Z w (tabObj (ps++#[rawInt pos.line,rawInt pos.col,.ref c'])))(hf:t'.isFrame=t.isFrame)
  (hg:(gn,V.ref g)∈F.globs)(hk:keepIn C.K (.ref g)=true):
  ES C F σ (.sp (yV g l uW t t' ns dH)) (.Call (.Name gn gp) [.Lambda l.params l.body l.scope pos] [] p):=.leaf (λA Z H L Q E hR hw=>.bP λs S=>by
 lk
 refine Mr hw λv0 v1 v2 iJ L1 rx zN=>?_;refine xg (ay ((J.xN (E:=E) (Q:=λv M=>v=.ref g/\M=L) ok hg ⟨rfl,rfl⟩).run s S) (λfv s1 q=>?_) λU U q=>q) rfl
 lk
 cases q with|mk Z1 Ug x fH S1 i q=>
 lk
 obtain⟨rfl,rfl⟩:=q;obtain rfl:=i.ce;have jh:(backTo p (starEach [Expr.Lambda l.params l.body l.scope pos] F.env)).any (·.1)=false:=rfl
 have args:JL C.G A Z1 (F.own σ++H) Ug (spliced (backTo p (starEach [Expr.Lambda l.params l.body l.scope pos] F.env))) (λxs M=>∃f,xs=[.ref f]/\M=(f,.own (ml l (ns.zip (dH _ c0 c1 c2))))::L1) E:=
  .cons (Q1:=λx M=>∃f,x=.ref f/\M=(f,.own (ml l (ns.zip (dH _ c0 c1 c2))))::L1) (J.lam hB Ch qR ok hq nl fh ht hf rx λf=>(ah f rfl rfl)) λZ' x M U q=>by obtain⟨f,rfl,rfl⟩:=q;exact .nil (ah f rfl rfl)
 refine vZ (by rw[jh];rfl) (keeps_K hk) (qo jh (ay (args.run s1 S1) (λvs s2 q=>?_) λU U=>PE.le fH))
 lk
 cases q with|mk Z2 M xs gm S2 i q=>
 lk
 obtain⟨f,rfl,rfl⟩:=q;refine⟨B.fu.keeps S2.h0,?_⟩;refine xE (Sf.zip c0 c1 c2 v0 v1 v2) λrest QN=>?_
 have GH:(F.own σ).Perm (lY (dH _ c0 c1 c2) (dH _ v0 v1 v2)++((F.fr,.frame F.names σ.l)::rest)):=by show Perm (_::zipWith _ F.cells σ.c) _;simp only[xi,iJ];exact(QN.cons _).trans List.perm_middle.symm
 have S3:=S2.e8 (H':=lY (dH _ c0 c1 c2) (dH _ v0 v1 v2)++(((F.fr,.frame F.names σ.l)::rest)++H)) (by rw[←append_assoc];exact GH.append_right H)
 have lb:∀{Z':Zt}{L':HL}{s':Shared},au C.G A Z' (L'++fN l (ns.zip (dH _ c0 c1 c2)) f (dH _ c0 c1 c2) (dH _ v0 v1 v2)) (((F.fr,.frame F.names σ.l)::rest)++H) s'->au C.G A Z' L' (F.own σ++H) s':=λ{Z' L' s'} S'=>by
  lk
  refine ai S'.hide λK0 e S'=>?_
  lk
  cases e with|cons hq e2=>
  obtain⟨cc,rfl⟩:=hq;obtain rfl:=cR.xY _ _ e2
  have S6:=S'.k_ (H':=lY (dH _ c0 c1 c2) (dH _ v0 v1 v2)++(((F.fr,.frame F.names σ.l)::rest)++H)) (by rw[append_assoc];exact sublist_append_right ..)
  exact S6.e8 (by rw[←append_assoc];exact(GH.append_right H).symm)
 refine ay ((Sp.call (zN c0 c1 c2 f) hR i).run s2 ((au.xh (L':=uV (dH _ c0 c1 c2) (dH _ v0 v1 v2)) (.py _ _) S3).perm List.perm_middle.symm:au C.G A Z2 (L1++fN l (ns.zip (dH _ c0 c1 c2)) f (dH _ c0 c1 c2) (dH _ v0 v1 v2)) (((F.fr,.frame F.names σ.l)::rest)++H) s2)) (λv s3 q=>?_) (λe s3 q=>?_)
 ·cases q with|mk Z3 M x fU S6 i q=>
  obtain⟨M',rfl,q⟩:=q;exact⟨Z3,M',x,fH.trans (gm.trans fU),lb S6,i,q⟩
 ·cases q with|mk Z3 M a fU he S6 q=>
  obtain⟨M',rfl,q⟩:=q;exact⟨Z3,M',a,fH.trans (gm.trans fU),he,lb (L':=(a,.own C.G.exc)::M') S6,q⟩) (λU U U h=>h) rfl
def GI(i:Nat):Cx->SV->Lo->HL->(VP)->(HP)->Prop:=λC U σ L Q E=>∃f l eT,σ.l[i]?=some (some (.ref f))/\ap L f (.own (ml l eT))/\Sp C.G f C.d [] L Q E
theorem Pc{s:Shared}{f:Addr}{l:Lm}{eT:List (Str×Addr)}(S:au G A Z L H s)(x5:ap L f (.own (ml l eT))):∃o fd,s.heap.get? f=some o/\o.data=.func fd:=by
 lk
 refine i_ x5.split λpre post aw=>?_;subst aw
 lk
 refine ai S λl0 e S0=>?_
 lk
 refine ew e.at λx1 x2 x3 aE U hq U=>?_;subst aE
 lk
 obtain⟨c,rfl⟩:=hq
 lk
 refine bW (S0.cells (f,_) (mem_append_left _ (mem_append_right _ (mem_append_left _ (.head _))))) λU o ho hq=>?_
 lk
 refine i_ (hq Z (.refl _)) λpm ct aw=>?_;subst aw;exact(co _ _ ho rfl)
theorem Pd{C:Cx}{F:Fn}{i:Nat}(ok:bv C.G F)(hx:F.names[i]?=some x):ES C F σ (.sp (GI i)) (.Call (.Name x np) [] [] p):=.leaf (λA Z H L Q E hR hw=>.bP λs S=>by
 refine dJ hw λf l eT iJ x5 zN=>?_;refine xg (ay ((J.name (E:=E) (Q:=λv M=>v=.ref f/\M=L) ok hx iJ ⟨rfl,rfl⟩).run s S) (λfv s1 q=>?_) λU U q=>q) rfl
 lk
 cases q with|mk Z1 L1 y fH S1 i q=>
 lk
 obtain⟨rfl,rfl⟩:=q;obtain rfl:=i.ce;have jh:(backTo p (starEach [] F.env)).any (·.1)=false:=rfl;refine vZ (P:=λh=>∃o fd,h.get? f=some o/\o.data=.func fd) (by rw[jh];rfl) (λh ho=>(ah .frame (.inl rfl) ?_)) (qo jh (ay ((JL.nil (E:=E) (Q:=λxs M=>xs=[]/\M=L1) ⟨rfl,rfl⟩).run s1 S1) (λvs s2 q=>?_) λU U=>PE.le fH))
 ·refine dn ho λo fd ho hd=>?_;refine(Looks.ld (part:=none) ho).andThen ?_;refine(hd)▸?_;exact .now
 ·lk
  cases q with|mk Z2 M xs gm S2 i q=>
  lk
  obtain⟨rfl,rfl⟩:=q;refine⟨Pc S2 x5,?_⟩;exact ay ((Sp.call zN hR i).run s2 S2) (λU U=>PQ.le (fH.trans gm)) (λU U=>PE.le (fH.trans gm))) (λU U U h=>h) rfl
theorem xr:∀(l:List Str)(ws:LV)(f:Str->Option (Str×Value)),ws.length=l.length->(∀(i:Nat) n v,l[i]?=some n->ws[i]?=some v->f n=some (n,v))->l.filterMap f=l.zip ws
 |[],_,_,_,_=>rfl
 |n::l,[],_,h,_=>by cases h
 |n::l,w::ws,f,h,hf=>by simp only[List.filterMap_cons,hf 0 n w rfl rfl,zip_cons_cons,xr l ws f (Nat.succ.inj h) λi m v a b=>hf (i+1) m v a b]
noncomputable def oH (fd:FuncData) (names:List Str):Bool:=fd.params.posonlyargs.isEmpty&&(fd.params.args.map (·.arg)==names)&&fd.params.vararg.isNone&&fd.params.kwonlyargs.isEmpty&&fd.params.kwarg.isNone&&decide names.Nodup
noncomputable def sa (o:Option (Array Value)) (n:Nat):LV:=((o.getD #[]).toList).drop (((o.getD #[]).toList).length-n)
structure Fills(M:Model)(A:Around)(E:Value->Shared->Prop)(s:Shared)(ns:List Str)(vs:List Value)(o:Option (Array Value))(sl:List (Str×Value)):Prop where
 le:vs.length<=ns.length
 all:((ns.take (ns.length-(sa o ns.length).length)).filter λn=>((ns.zip vs).lookup n).isNone)=[]
 loop:∀Q:List (Str×Value)->SP,Q sl s->wpAny M A (forIn ((ns.drop (ns.length-(sa o ns.length).length)).zip (sa o ns.length)) (ns.zip vs) λx r=>if(r.lookup x.1).isNone=true then pure (ForInStep.yield (r++[(x.1,x.2)])) else pure (ForInStep.yield r)) Q E s
section
variable{M:Model}{A:Around}{E:VS}{Q:List (Str×Value)->SP}{s:Shared}
theorem LH{nm qn:Str}{as:List Arg}{kd:List (Option Expr)}{dl:List Expr}{body sc gl Hx zO pQ nX pm an cd ct bu}{names:List Str}{vs:LV}{o:Option (Array Value)}{sl:List (Str×Value)}(e:as.map (·.arg)=names)
  (h:∀Q:Option (Array Value)->SP,Q o s->wpAny M A (seqItems? zO) Q E s)(F:Fills M A E s names vs o sl)(q:Q ((names++[]).filterMap λn=>(sl.lookup n).map (n,·)) s):
  wpAny M A (bindArgs ⟨nm,qn,⟨[],as,none,[],kd,none,dl⟩,body,sc,gl,Hx,zO,pQ,nX,pm,an,cd,ct,bu⟩ ⟨vs,[]⟩) Q E s:=by
 subst e;refine wB (m:=forIn [] _ _) (wP ?_);refine wB (h _ ?_);refine wF (λx=>absurd F.le (Nat.not_le.mpr (of_decide_eq_true (tB x).1))) ?_;refine wF (λx=>Bool.noConfusion ((congrArg (λl:List Str=>!l.isEmpty) F.all).symm.trans x)) ?_;refine wB (F.loop _ ?_);refine wB (m:=forIn [] _ _) (wP ?_);refine wF Bool.false_ne_true ?_;exact wP q
theorem Bb{fd:FuncData}{names:List Str}{vs:LV}{o:Option (Array Value)}{sl:List (Str×Value)}(h:oH fd names=true)
  (hs:∀Q:Option (Array Value)->SP,Q o s->wpAny M A (seqItems? fd.defaults) Q E s)(F:names.Nodup->Fills M A E s names vs o sl)(q:names.Nodup->Q ((names++[]).filterMap λn=>(sl.lookup n).map (n,·)) s):wpAny M A (bindArgs fd ⟨vs,[]⟩) Q E s:=by
 obtain⟨nm,qn,⟨pa,as,va,ko,kd,kw,dl⟩,body,sc,gl,Hx,zO,pQ,nX,pm,an,cd,ct,bu⟩:=fd;unfold oH at h;have h6:=tB h;have h5:=tB h6.1;have h4:=tB h5.1;have h3:=tB h4.1;have h2:=tB h3.1;have hn:=of_decide_eq_true h6.2;have e1:=List.isEmpty_iff.mp h2.1;have e2:=Option.isNone_iff_eq_none.mp h3.2;have e3:=List.isEmpty_iff.mp h4.2;have e4:=Option.isNone_iff_eq_none.mp h5.2;have e5:=eq_of_beq h2.2;clear h h6 h5 h4 h3 h2;dsimp only at e1 e2 e3 e4 e5;subst e1 e2 e3 e4;exact LH e5 hs (F hn) (q hn)
theorem Kw{fd:FuncData}{names:List Str}{vs:LV}(h:oH fd names=true)(hd:fd.defaults=.none)(hl:vs.length=names.length)(q:Q (names.zip vs) s):wpAny M A (bindArgs fd ⟨vs,[]⟩) Q E s:=by
 have e0:sa none names.length=[]:=drop_nil;refine Bb (o:=none) (sl:=names.zip vs) h (λQ' h'=>by rw[hd];exact wP h') (λh6=>⟨le_of_eq hl,?_,λQ' h'=>?_⟩) λh6=>?_
 ·rw[e0,List.filter_eq_nil_iff];intro n hn;refine xE (getElem?_of_mem (mem_of_mem_take hn)) λi hi=>?_;rw[mK h6 hi (gE (Nat.lt_of_lt_of_eq (gS hi).1 hl.symm))];exact Bool.false_ne_true
 ·rw[e0,List.zip_nil_right];exact wP h'
 ·rw[append_nil,xr names vs _ hl λi n v a b=>by rw[mK h6 a b];rfl];exact q
theorem Cp{fd:FuncData}{ns:List Str}{fb:Str}{vs us:LV}{d:Value}{T:Addr}{n:Nat}(h:oH fd (ns++[fb])=true)(hd:fd.defaults=.ref T)(ho:s.heap.get? T=some (gL #[d] n))
  (hu:(vs=us/\vs.length=ns.length+1)\/(us=vs++[d]/\vs.length=ns.length))(q:Q ((ns++[fb]).zip us) s):wpAny M A (bindArgs fd ⟨vs,[]⟩) Q E s:=by
 have hn:(ns++[fb]).length=ns.length+1:=length_append;have e0:sa (some #[d]) (ns++[fb]).length=[d]:=by rw[hn];show [d].drop (0+1-(ns.length+1))=_;rw[Nat.add_sub_add_right,Nat.zero_sub];rfl
 have e1:(ns++[fb]).length-[d].length=ns.length:=by rw[hn];rfl
 have go:vs.length=ns.length+1\/vs.length=ns.length:=hu.imp (·.2) (·.2);have kC:ns.length<=vs.length:=go.elim (λe=>e▸Nat.le_succ _) λe=>le_of_eq e.symm;have ku:vs.length<=ns.length+1:=go.elim (λe=>le_of_eq e) λe=>e▸Nat.le_succ _;have Uh:us.length=ns.length+1:=hu.elim (λe=>e.1▸e.2) λe=>by rw[e.1,length_append,e.2];rfl
 refine Bb (o:=some #[d]) (sl:=(ns++[fb]).zip us) h (λQ' h'=>by rw[hd];exact wpAny_seqItems ho rfl h') (λh6=>⟨by rw[hn];exact ku,?_,λQ' h'=>?_⟩) λh6=>?_
 ·rw[e0,e1,List.take_left',List.filter_eq_nil_iff]
  ·intro n hn;refine xE (getElem?_of_mem hn) λi hi=>?_;have aT:=(gS hi).1;rw[mK h6 (by rw[List.getElem?_append_left aT];exact hi) (gE (Nat.lt_of_lt_of_le aT kC))];exact Bool.false_ne_true
  ·rfl
 ·rw[e0,e1,List.drop_left' rfl];refine wB ?_;rcases hu with⟨e,hl⟩|⟨e,hl⟩
  ·have hk:((ns++[fb]).zip vs).lookup fb=some vs[ns.length]:=mK h6 (i:=ns.length) (by rw[List.getElem?_append_right (Nat.le_refl _),Nat.sub_self];rfl) (gE (hl▸Nat.lt_succ_self _));refine wF (by rw[hk];exact Bool.false_ne_true) (wP (wP ?_));rw[e];exact h'
  ·have hz:(ns++[fb]).zip vs=ns.zip vs:=by have:=zip_append (r₁:=[fb]) (r₂:=[]) hl.symm;rw[append_nil,List.zip_nil_right,append_nil] at this;exact this
   have hk:(ns.zip vs).lookup fb=none:=by
    cases q':(ns.zip vs).lookup fb with
    |none=>rfl
    |some u=>exact absurd rfl ((List.nodup_append.mp h6).2.2 fb (of_mem_zip (mem_of_lookup q')).1 fb (List.mem_singleton_self _))
   refine wT (by rw[hz];exact congrArg Option.isNone hk) (wP (wP ?_));rw[hz];rw[e,zip_append hl.symm] at h';exact h'
 ·rw[append_nil,xr (ns++[fb]) us _ (by rw[hn];exact Uh) λi n v a b=>by rw[mK h6 a b];rfl];exact q
end
noncomputable def ki (K:Frag) (a:Addr):FuncData:=match K.lookup a with
 |some ⟨_,_,.func fd,_⟩=>fd
 |_=>default
def QO(i:Nat):List Stmt:=match aH.main.body[i]? with
 |some (.FunctionDef _ _ b _ _ _ _ _ _ _)=>b
 |_=>[]
theorem oX{C:Cx}{F:Fn}{N:Nm}(ok:bv C.G F)(B:Bs C.G C.K)(hF:F.nm=N){tm e}(h:aK C N tm e):ES C F σ tm e:=by subst hF;exact ey ok B h
theorem wC{F:Fn}(ok:bv G F):interactive F.env=false:=by unfold interactive;rw[ok.kind];rfl
theorem Pe{F:Fn}{N:Nm}{i:Nat}(hF:F.nm=N)(h:N.names[i]?=some x):F.names[i]?=some x:=by rw[←hF] at h;exact h
noncomputable abbrev gJ:Str×V:=("bytes",.type "bytes")
noncomputable abbrev iU:Str×V:=("range",.type "range")
noncomputable abbrev jx:Str×V:=("len",.bi "len")
noncomputable abbrev mU:Str×V:=("tuple",.type "tuple")
noncomputable abbrev qx:Str×V:=("sorted",.bi "sorted")
noncomputable abbrev jm:Str×V:=("MapError",.ref 59)
noncomputable abbrev qy:Str×V:=("VALUES",.int 16777216)
noncomputable abbrev sO:Str×V:=("MAP_STEP",.int 1048576)
noncomputable abbrev vP:Str×V:=("stride_of",.ref 153)
noncomputable abbrev Cq:Str×V:=("BEYOND",.int 1879048192)
noncomputable abbrev AH:Str×V:=("value_slot",.ref 167)
noncomputable abbrev AA:Str×V:=("value_place",.ref 160)
noncomputable abbrev Dp:Str×V:=("Fault",.ref 71)
noncomputable abbrev Cr:Str×V:=("little",.ref 78)
noncomputable abbrev sE:Str×V:=("PROCESSORS",.int 4)
noncomputable abbrev vQ:Str×V:=("bytearray",.type "bytearray")
noncomputable abbrev x6:Str×V:=("ANY",.int 0)
noncomputable abbrev BG:Str×V:=("NO_SUCH",.int 1)
noncomputable abbrev AV:Str×V:=("ONE_THERE",.int 2)
noncomputable abbrev qz:Str×V:=("EINVAL",.int 22)
noncomputable abbrev Ct:Str×V:=("EEXIST",.int 17)
noncomputable abbrev Cu:Str×V:=("ENOENT",.int 2)
noncomputable abbrev qZ:Str×V:=("Map",.ref 484)
noncomputable abbrev tL:Str×V:=("E2BIG",.int 7)
noncomputable abbrev Bc:Str×V:=("ArrayMap",.ref 575)
noncomputable abbrev BH:Str×V:=("RowsMap",.ref 618)
noncomputable abbrev qr:Str×V:=("HashMap",.ref 766)
noncomputable abbrev Ee:Str×V:=("list",.type "list")
noncomputable abbrev Cv:Str×V:=("LruMap",.ref 837)
noncomputable abbrev BI:Str×V:=("REPLACE",.int 2)
noncomputable abbrev Bd:Str×V:=("QueueMap",.ref 973)
noncomputable abbrev jW:Str×V:=("_law_draw",.ref 989)
noncomputable abbrev v_:Str×V:=("_law_pick",.ref 996)
noncomputable abbrev BJ:Str×V:=("_law_key",.ref 1017)
noncomputable abbrev vN:Str×V:=("_law_octets",.ref 1022)
noncomputable abbrev AW:Str×V:=("enumerate",.type "enumerate")
noncomputable abbrev vR:Str×V:=("_law_rooms",.ref 1029)
noncomputable abbrev mP:Str×V:=("map_at",.ref 104)
noncomputable abbrev AX:Str×V:=("told_maps",.ref 97)
structure Pa where
 a:Expr
 b:Expr
 c:Expr
 l:List Expr
 k:Nat
 s:Scope
 p:Pos
noncomputable def dE:Expr:=.Constant .none 0 default
def p0(p:Pos):Pa:=⟨dE,dE,dE,[],0,default,p⟩
def pa(e:Expr):Pa:=match e with
 |.Name _ p=>p0 p
 |.Constant _ k p=>{p0 p with k:=k}
 |.BinOp a _ b p=>{p0 p with a:=a,b:=b}
 |.UnaryOp _ a p=>{p0 p with a:=a}
 |.BoolOp _ l p=>{p0 p with l:=l}
 |.Compare a _ l p=>{p0 p with a:=a,l:=l}
 |.IfExp a b c p=>{p0 p with a:=a,b:=b,c:=c}
 |.Call a l _ p=>{p0 p with a:=a,l:=l}
 |.Attribute a _ p=>{p0 p with a:=a}
 |.Subscript a b p=>{p0 p with a:=a,b:=b}
 |.Slice a b c p=>{p0 p with a:=a.getD dE,b:=b.getD dE,c:=c.getD dE}
 |.Tuple l k p=>{p0 p with l:=l,k:=k}
 |.List l p=>{p0 p with l:=l}
 |.Dict _ _ p=>p0 p
 |.ListComp a [⟨t,i,f,_⟩] s p=>{p0 p with a:=a,b:=t,c:=i,l:=f,s:=s}
 |.Lambda _ a s p=>{p0 p with a:=a,s:=s}
 |_=>p0 default
def fst(l:List Expr):Expr:=l.headD dE
def yW(ci:CI)(e:Expr):Expr:=match ci.pair with
 |true=>.Tuple [.Name (ci.dQ.getD 0 default) (pa (fst (pa e).l)).p,.Name (ci.dQ.getD 1 default) (pa (fst (pa e).l.tail)).p] (pa e).k (pa e).p
 |false=>.Name (ci.dQ.getD 0 default) (pa e).p
noncomputable def iP:Tm->Nat
 |.var _|.ao _|.dA _=>1
 |.aG ..|.sub ..|.aC ..|.str _=>2
 |.yes=>4
 |_=>0
noncomputable def nz:Tm->Nm->List Expr->List Expr
 |.none,N,es=>[.Constant .none (pa (fst es)).k (pa (fst es)).p]
 |.bool b,N,es=>[.Constant (.bool b) (pa (fst es)).k (pa (fst es)).p]
 |.int b,N,es=>[.Constant (.int b) (pa (fst es)).k (pa (fst es)).p]
 |.str b,N,es=>[.Constant (.str b) (pa (fst es)).k (pa (fst es)).p]
 |.var i,N,es=>[.Name (N.names.getD i default) (pa (fst es)).p]
 |.ao i,N,es=>[.Name ((N.cells.getD i .none).getD default) (pa (fst es)).p]
 |.dA i,N,es=>[.Name (N.globs.getD i default) (pa (fst es)).p]
 |.bin op l r,N,es=>[.BinOp (fst (nz l N [(pa (fst es)).a])) op (fst (nz r N [(pa (fst es)).b])) (pa (fst es)).p]
 |.d8 op x,N,es=>[.UnaryOp op (fst (nz x N [(pa (fst es)).a])) (pa (fst es)).p]
 |.cmp op l r,N,es=>[.Compare (fst (nz l N [(pa (fst es)).a])) [op] [fst (nz r N (pa (fst es)).l)] (pa (fst es)).p]
 |.ik op dR l m r,N,es=>[.Compare (fst (nz l N [(pa (fst es)).a])) [op,dR] [fst (nz m N (pa (fst es)).l),fst (nz r N (pa (fst es)).l.tail)] (pa (fst es)).p]
 |.bo op args,N,es=>[.BoolOp op (nz args N (pa (fst es)).l) (pa (fst es)).p]
 |.fy c a b,N,es=>[.IfExp (fst (nz c N [(pa (fst es)).a])) (fst (nz a N [(pa (fst es)).b])) (fst (nz b N [(pa (fst es)).c])) (pa (fst es)).p]
 |.aG o n,N,es=>[.Attribute (fst (nz o N [(pa (fst es)).a])) n (pa (fst es)).p]
 |.sub o i,N,es=>[.Subscript (fst (nz o N [(pa (fst es)).a])) (fst (nz i N [(pa (fst es)).b])) (pa (fst es)).p]
 |.iG o i,N,es=>[.Subscript (fst (nz o N [(pa (fst es)).a])) (.Slice (some (fst (nz i N [(pa (pa (fst es)).b).a]))) .none .none (pa (pa (fst es)).b).p) (pa (fst es)).p]
 |.je o i,N,es=>[.Subscript (fst (nz o N [(pa (fst es)).a])) (.Slice .none (some (fst (nz i N [(pa (pa (fst es)).b).b]))) .none (pa (pa (fst es)).b).p) (pa (fst es)).p]
 |.rev o,N,es=>[.Subscript (fst (nz o N [(pa (fst es)).a])) (.Slice .none .none (some (.UnaryOp .USub (.Constant (.int 1) (pa (pa (pa (pa (fst es)).b).c).a).k (pa (pa (pa (pa (fst es)).b).c).a).p) (pa (pa (pa (fst es)).b).c).p)) (pa (pa (fst es)).b).p) (pa (fst es)).p]
 |.call f args,N,es=>[.Call (fst (nz f N [(pa (fst es)).a])) (nz args N (pa (fst es)).l) [] (pa (fst es)).p]
 |.aC o n args,N,es=>[.Call (.Attribute (fst (nz o N [(pa (pa (fst es)).a).a])) n (pa (pa (fst es)).a).p) (nz args N (pa (fst es)).l) [] (pa (fst es)).p]
 |.tup args,N,es=>[.Tuple (nz args N (pa (fst es)).l) (pa (fst es)).k (pa (fst es)).p]
 |.lst args,N,es=>[.List (nz args N (pa (fst es)).l) (pa (fst es)).p]
 |.g7,N,es=>[.Dict [] [] (pa (fst es)).p]
 |.lc ci iter lC dy,N,es=>[.ListComp (fst (nz dy (N.comp ci) [(pa (fst es)).a])) [⟨yW ci (pa (fst es)).b,fst (nz iter N [(pa (fst es)).c]),(bif iP lC==4 then [] else [fst (nz lC (N.comp ci) (pa (fst es)).l)]),0⟩] (pa (fst es)).s (pa (fst es)).p]
 |.ae x xs,N,es=>fst (nz x N es)::nz xs N es.tail
 |_,_,_=>[]
noncomputable def zQ (ci:CI):Bool:=match ci.pair with
 |true=>ci.dQ.length==2
 |false=>ci.dQ.length==1
noncomputable def cU (g:SV->Bool):Tm->Bool->Nm->List Expr->Bool
 |.none,m,N,es|.bool _,m,N,es|.int _,m,N,es|.str _,m,N,es|.g7,m,N,es=>cond m false true
 |.var i,m,N,es=>cond m false (decide (i<N.names.length))
 |.ao i,m,N,es=>cond m false ((N.cells.getD i .none).isSome)
 |.dA i,m,N,es=>cond m false (decide (i<N.globs.length))
 |.bin op l r,m,N,es=>cond m false ((cU g l false N [(pa (fst es)).a]&&cU g r false N [(pa (fst es)).b]))
 |.d8 op x,m,N,es=>cond m false (cU g x false N [(pa (fst es)).a])
 |.cmp op l r,m,N,es=>cond m false ((cU g l false N [(pa (fst es)).a]&&cU g r false N (pa (fst es)).l))
 |.ik op dR l k r,m,N,es=>cond m false ((cU g l false N [(pa (fst es)).a]&&(cU g k false N (pa (fst es)).l&&cU g r false N (pa (fst es)).l.tail)))
 |.bo op args,m,N,es=>cond m false (cU g args true N (pa (fst es)).l)
 |.fy c a b,m,N,es=>cond m false ((cU g c false N [(pa (fst es)).a]&&(cU g a false N [(pa (fst es)).b]&&cU g b false N [(pa (fst es)).c])))
 |.aG o n,m,N,es=>cond m false ((cU g o false N [(pa (fst es)).a]&&(iP o==1||iP o==2)))
 |.sub o i,m,N,es=>cond m false ((cU g o false N [(pa (fst es)).a]&&cU g i false N [(pa (fst es)).b]))
 |.iG o i,m,N,es=>cond m false ((cU g o false N [(pa (fst es)).a]&&cU g i false N [(pa (pa (fst es)).b).a]))
 |.je o i,m,N,es=>cond m false ((cU g o false N [(pa (fst es)).a]&&cU g i false N [(pa (pa (fst es)).b).b]))
 |.rev o,m,N,es=>cond m false (cU g o false N [(pa (fst es)).a])
 |.call f args,m,N,es=>cond m false ((cU g f false N [(pa (fst es)).a]&&(cU g args true N (pa (fst es)).l&&iP f==1)))
 |.aC o n args,m,N,es=>cond m false (((cU g o false N [(pa (pa (fst es)).a).a]&&(iP o==1||iP o==2))&&(cU g args true N (pa (fst es)).l&&((pa (pa (fst es)).a).p.endLine==(pa (fst es)).p.line&&decide ((nz args N (pa (fst es)).l).length<30)))))
 |.tup args,m,N,es=>cond m false (cU g args true N (pa (fst es)).l)
 |.lst args,m,N,es=>cond m false (cU g args true N (pa (fst es)).l)
 |.lc ci iter lC dy,m,N,es=>cond m false ((cU g iter false N [(pa (fst es)).c]&&((iP lC==4||cU g lC false (N.comp ci) (pa (fst es)).l)&&(cU g dy false (N.comp ci) [(pa (fst es)).a]&&(rQ N.cells ci (pa (fst es)).s&&(zQ ci&&g ci.globs))))))
 |.bT,m,N,es=>m
 |.ae x xs,m,N,es=>cond m ((cU g x false N es&&cU g xs true N es.tail)) false
 |_,_,_,_=>false
theorem bf{P:Prop}(h:false=true):P:=Bool.noConfusion h
theorem two{a b:Bool}(h:(a&&b)=true):a=true/\b=true:=tB h
section
variable{C:Cx}{g:SV->Bool}{N:Nm}{es:List Expr}
structure Plain(e:Expr):Prop where
 star:∀rest env,starEach (e::rest) env=(false,eval e env)::starEach rest env
 sub:xP e
 fold:∀env x,foldedSetIterable e env x=pure x
 cmp:∀op,behindInMarks op e=false
theorem oI(h:cU g tm false N es=true):Plain (fst (nz tm N es)):=by
 cases tm with
 |bT=>exact bf h
 |ae=>exact bf h
 |yes=>exact bf h
 |sp=>exact bf h
 |_=>exact⟨λU U=>rfl,λU U=>rfl,λU U=>rfl,λU=>rfl⟩
theorem Ni(h:(iP tm==1)=true):xj (fst (nz tm N es)):=by
 cases tm with
 |var=>exact λU U U=>rfl
 |ao=>exact λU U U=>rfl
 |dA=>exact λU U U=>rfl
 |_=>exact bf h
theorem Dq(h:(iP tm==1||iP tm==2)=true)(h':cU g tm false N es=true):m5 (fst (nz tm N es)):=by
 cases tm with
 |var=>exact λU U U=>rfl
 |ao=>exact λU U U=>rfl
 |dA=>exact λU U U=>rfl
 |aG=>exact λU U U=>rfl
 |sub=>exact λU U U=>rfl
 |aC=>exact λU U U=>rfl
 |str=>exact λU U U=>rfl
 |_=>exact bf h
theorem Nj(h:(iP tm==4)=true):tm=.yes:=by
 cases tm with
 |yes=>rfl
 |_=>exact bf h
theorem getD_at{α:Type}{l:List α}{i:Nat}{d:α}(h:i<l.length):l[i]?=some (l.getD i d):=by rw[getD_eq_getElem?_getD,gE h];rfl
theorem Sh{α:Type}:∀{l:List α},l.length=2->∃a b,l=[a,b]
 |[a,b],_=>(mw a b rfl)
theorem Pf(h:zQ ci=true):kA ci (yW ci e):=by
 unfold kA yW;unfold zQ at h
 cases hp:ci.pair with
 |true=>rw[hp] at h;refine i_ (Sh (eq_of_beq h)) λa b e1=>?_;refine(e1)▸?_;exact(K5 a b _ _ _ _ rfl rfl)
 |false=>rw[hp] at h;refine gT λzP zk=>?_;obtain⟨a,e1⟩:=List.length_eq_one_iff.mp (eq_of_beq h);refine zk ?_;refine(e1)▸?_;exact(co a _ rfl rfl)
theorem Ef(hg:∀l,g l=true->ir C.G l):∀(tm:Tm)(N:Nm)(es:List Expr),(cU g tm false N es=true->aK C N tm (fst (nz tm N es)))/\(cU g tm true N es=true->jB C N tm (nz tm N es)):=by
 intro tm
 induction tm with
 |none=>exact λN es=>⟨λU=>.none,λh=>bf h⟩
 |bool=>exact λN es=>⟨λU=>.bool,λh=>bf h⟩
 |int=>exact λN es=>⟨λU=>.int,λh=>bf h⟩
 |str=>exact λN es=>⟨λU=>.str,λh=>bf h⟩
 |var i=>exact λN es=>⟨λh=>.var (getD_at (of_decide_eq_true h)),λh=>bf h⟩
 |ao i=>exact λN es=>⟨λh=>.ao (by
   have h:(N.cells.getD i .none).isSome=true:=h;rw[getD_eq_getElem?_getD] at h⊢
   cases hc:N.cells[i]? with
   |none=>rw[hc] at h;cases h
   |some o=>
    rw[hc] at h
    cases o with
    |none=>cases h
    |some x=>rfl),λh=>bf h⟩
 |dA i=>exact λN es=>⟨λh=>.dA (getD_at (of_decide_eq_true h)),λh=>bf h⟩
 |bin op l r i1 i2=>exact λN es=>⟨λh=>.bin ((i1 _ _).1 (two h).1) ((i2 _ _).1 (two h).2),λh=>bf h⟩
 |d8 op x i1=>exact λN es=>⟨λh=>.d8 ((i1 _ _).1 h),λh=>bf h⟩
 |cmp op l r i1 i2=>exact λN es=>⟨λh=>.cmp ((i1 _ _).1 (two h).1) ((i2 _ _).1 (two h).2) ((oI (two h).2).cmp _),λh=>bf h⟩
 |ik op dR l k r i1 i2 i3=>exact λN es=>⟨λh=>.ik ((i1 _ _).1 (two h).1) ((i2 _ _).1 (two (two h).2).1) ((i3 _ _).1 (two (two h).2).2) ((oI (two (two h).2).2).cmp _),λh=>bf h⟩
 |bo op args i1=>exact λN es=>⟨λh=>.bo ((i1 _ _).2 h),λh=>bf h⟩
 |fy c a b i1 i2 i3=>exact λN es=>⟨λh=>.fy ((i1 _ _).1 (two h).1) ((i2 _ _).1 (two (two h).2).1) ((i3 _ _).1 (two (two h).2).2),λh=>bf h⟩
 |aG o n i1=>exact λN es=>⟨λh=>.aG ((i1 _ _).1 (two h).1) (Dq (two h).2 (two h).1),λh=>bf h⟩
 |sub o i i1 i2=>exact λN es=>⟨λh=>.sub ((i1 _ _).1 (two h).1) ((i2 _ _).1 (two h).2) (oI (two h).2).sub,λh=>bf h⟩
 |iG o i i1 i2=>exact λN es=>⟨λh=>.iG ((i1 _ _).1 (two h).1) ((i2 _ _).1 (two h).2),λh=>bf h⟩
 |je o i i1 i2=>exact λN es=>⟨λh=>.je ((i1 _ _).1 (two h).1) ((i2 _ _).1 (two h).2),λh=>bf h⟩
 |rev o i1=>exact λN es=>⟨λh=>.rev ((i1 _ _).1 h),λh=>bf h⟩
 |call f args i1 i2=>exact λN es=>⟨λh=>.call ((i1 _ _).1 (two h).1) ((i2 _ _).2 (two (two h).2).1) (Ni (two (two h).2).2),λh=>bf h⟩
 |aC o n args i1 i2=>exact λN es=>⟨λh=>by
   lk
   refine xA (two h) λh1 h2=>?_;obtain⟨h3,h4⟩:=two h2;obtain⟨h5,h6⟩:=two h4;exact .aC ((i1 _ _).1 (two h1).1) ((i2 _ _).2 h3) (Dq (two h1).2 (two h1).1) h5 (of_decide_eq_true h6),λh=>bf h⟩
 |tup args i1=>exact λN es=>⟨λh=>.tup ((i1 _ _).2 h),λh=>bf h⟩
 |lst args i1=>exact λN es=>⟨λh=>.lst ((i1 _ _).2 h),λh=>bf h⟩
 |g7=>exact λN es=>⟨λU=>.g7,λh=>bf h⟩
 |lc ci iter lC dy i1 i2 i3=>exact λN es=>⟨λh=>by
   lk
   refine xA (two h) λh1 h=>?_;obtain⟨h2,h⟩:=two h;obtain⟨h3,h⟩:=two h;obtain⟨h4,h⟩:=two h;obtain⟨h5,h6⟩:=two h;refine λF σ ok B hF=>Qw ok B hF ((i1 _ _).1 h1) ?_ ((i3 _ _).1 h3) h4 ?_ (hg _ h6) (λU=>(oI h1).fold _ _) rfl
   ·show rR C (N.comp ci) lC (bif iP lC==4 then [] else [_])
    cases e:(iP lC==4) with
    |true=>exact Nj e
    |false=>rw[e] at h2;exact(i2 _ _).1 h2
   ·exact Pf h5,λh=>bf h⟩
 |bT=>exact λN es=>⟨λh=>(bf h),λU=>.nil⟩
 |ae x xs i1 i2=>exact λN es=>⟨λh=>(bf h),λh=>.cons ((i1 _ _).1 (two h).1) ((i2 _ _).2 (two h).2) (oI (two h).1).star⟩
 |yes=>exact λN es=>⟨λh=>(bf h),λh=>bf h⟩
 |sp=>exact λN es=>⟨λh=>(bf h),λh=>bf h⟩
end
structure Ps where
 e:Expr
 t:Expr
 b:List Stmt
 c:List Stmt
 p:Pos
def ps(s:Stmt):Ps:=match s with
 |.Expr e p=>⟨e,dE,[],[],p⟩
 |.Return e p=>⟨e.getD dE,dE,[],[],p⟩
 |.Assign ts e p=>⟨e,fst ts,[],[],p⟩
 |.If e b c p=>⟨e,dE,b,c,p⟩
 |.For t e b _ p=>⟨e,t,b,[],p⟩
 |.While e b _ p=>⟨e,dE,b,[],p⟩
 |.Pass p=>⟨dE,dE,[],[],p⟩
 |.Break p=>⟨dE,dE,[],[],p⟩
 |_=>⟨dE,dE,[],[],default⟩
def hS(l:List Stmt):Ps:=ps (l.headD (.Pass default))
def n1(tm:Tm)(N:Nm)(e:Expr):Expr:=fst (nz tm N [e])
noncomputable def zR (N:Nm):Tg->Str
 |.var i=>N.names.getD i default
 |.ao i=>(N.cells.getD i .none).getD default
noncomputable def pz (N:Nm):List Tg->List Expr->List Expr
 |[],_=>[]
 |t::ts,l=>.Name (zR N t) (pa (fst l)).p::pz N ts l.tail
def Si(N:Nm)(pair:Bool)(ts:List Tg)(e:Expr):Expr:=match pair with
 |true=>.Tuple (pz N ts (pa e).l) (pa e).k (pa e).p
 |false=>fst (pz N ts [e])
noncomputable def jj (N:Nm):Sm->List Stmt->List Stmt
 |.seq a r,l=>(jj N a l).headD (.Pass default)::jj N r l.tail
 |.ex e,l=>[.Expr (n1 e N (hS l).e) (hS l).p]
 |.ret e,l=>[.Return (some (n1 e N (hS l).e)) (hS l).p]
 |.ph,l=>[.Return .none (hS l).p]
 |.pass,l=>[.Pass (hS l).p]
 |.brk,l=>[.Break (hS l).p]
 |.no,l=>l
 |.ite c a b,l=>[.If (n1 c N (hS l).e) (jj N a (hS l).b) (jj N b (hS l).c) (hS l).p]
 |.asg t e,l=>[.Assign [.Name (zR N t) (pa (hS l).t).p] (n1 e N (hS l).e) (hS l).p]
 |.du o n e,l=>[.Assign [.Attribute (n1 o N (pa (hS l).t).a) n (pa (hS l).t).p] (n1 e N (hS l).e) (hS l).p]
 |.f0 o i e,l=>[.Assign [.Subscript (n1 o N (pa (hS l).t).a) (n1 i N (pa (hS l).t).b) (pa (hS l).t).p] (n1 e N (hS l).e) (hS l).p]
 |.pf o e,l=>[.Assign [.Subscript (n1 o N (pa (hS l).t).a) (.Slice .none .none .none (pa (pa (hS l).t).b).p) (pa (hS l).t).p] (n1 e N (hS l).e) (hS l).p]
 |.pg o lo hi e,l=>[.Assign [.Subscript (n1 o N (pa (hS l).t).a) (.Slice (some (n1 lo N (pa (pa (hS l).t).b).a)) (some (n1 hi N (pa (pa (hS l).t).b).b)) .none (pa (pa (hS l).t).b).p) (pa (hS l).t).p] (n1 e N (hS l).e) (hS l).p]
 |.fi ts e,l=>[.Assign [.Tuple (pz N ts (pa (hS l).t).l) (pa (hS l).t).k (pa (hS l).t).p] (n1 e N (hS l).e) (hS l).p]
 |.for ts pair it body,l=>[.For (Si N pair ts (hS l).t) (n1 it N (hS l).e) (jj N body (hS l).b) [] (hS l).p]
 |.mB c body,l=>[.While (n1 c N (hS l).e) (jj N body (hS l).b) [] (hS l).p]
 |_,_=>[]
def o1(g:SV->Bool)(tm:Tm)(N:Nm)(e:Expr):Bool:=cU g tm false N [e]
noncomputable def ry (N:Nm):Tg->Bool
 |.var i=>decide (i<N.names.length)
 |.ao i=>(N.cells.getD i .none).isSome
noncomputable def jR:Tm->Nat
 |.lc ..=>1
 |.tup _=>2
 |_=>0
noncomputable def jk (g:SV->Bool) (N:Nm):Sm->Bool->List Stmt->Bool
 |.nil,m,l=>m
 |.seq a r,m,l=>cond m (jk g N a false l&&jk g N r true l.tail) false
 |.ex e,m,l=>cond m false (o1 g e N (hS l).e&&jR e != 1)
 |.ret e,m,l=>cond m false (o1 g e N (hS l).e)
 |.ph,m,l|.pass,m,l|.brk,m,l|.no,m,l=>cond m false true
 |.ite c a b,m,l=>cond m false (o1 g c N (hS l).e&&(jk g N a true (hS l).b&&jk g N b true (hS l).c))
 |.asg t e,m,l=>cond m false (ry N t&&(o1 g e N (hS l).e&&jR e != 1))
 |.du o n e,m,l=>cond m false (o1 g o N (pa (hS l).t).a&&o1 g e N (hS l).e)
 |.f0 o i e,m,l=>cond m false (o1 g o N (pa (hS l).t).a&&(o1 g i N (pa (hS l).t).b&&(o1 g e N (hS l).e&&jR e != 1)))
 |.pf o e,m,l=>cond m false (o1 g o N (pa (hS l).t).a&&(o1 g e N (hS l).e&&jR e != 1))
 |.pg o lo hi e,m,l=>cond m false (o1 g o N (pa (hS l).t).a&&(o1 g lo N (pa (pa (hS l).t).b).a&&(o1 g hi N (pa (pa (hS l).t).b).b&&(o1 g e N (hS l).e&&jR e != 1))))
 |.fi ts e,m,l=>cond m false (ts.all (ry N)&&(o1 g e N (hS l).e&&jR e==0))
 |.for ts pair it body,m,l=>cond m false (o1 g it N (hS l).e&&(jk g N body true (hS l).b&&(ts.all (ry N)&&(pair||ts.length==1))))
 |.mB c body,m,l=>cond m false (o1 g c N (hS l).e&&jk g N body true (hS l).b)
 |_,_,_=>false
section
variable{C:Cx}{F:Fn}{g:SV->Bool}{N:Nm}
theorem oL{N:Nm}{es:List Expr}(h:cU g tm false N es=true)(h':(jR tm != 1)=true)(t l env):swapsWith (fst (nz tm N es)) t l env=pure false:=by
 cases tm with
 |bT=>exact bf h
 |ae=>exact bf h
 |yes=>exact bf h
 |sp=>exact bf h
 |lc=>exact bf h'
 |_=>rfl
theorem LI{N:Nm}{es:List Expr}(h:cU g tm false N es=true)(a n p l env):swapsWith (fst (nz tm N es)) (some (.Attribute a n p)) l env=pure false:=by
 cases tm with
 |bT=>exact bf h
 |ae=>exact bf h
 |yes=>exact bf h
 |sp=>exact bf h
 |_=>rfl
theorem Nk{N:Nm}{es:List Expr}(h:cU g tm false N es=true)(h':(jR tm==0)=true)(l k p env):swappedStores [.Tuple l k p] (fst (nz tm N es)) env=pure none:=by
 cases tm with
 |bT=>exact bf h
 |ae=>exact bf h
 |yes=>exact bf h
 |sp=>exact bf h
 |tup=>exact bf h'
 |_=>rfl
theorem Pg(h:(jR tm==0)=true):(jR tm != 1)=true:=by
 cases e:jR tm with
 |zero=>rfl
 |succ n=>rw[e] at h;exact bf h
theorem Dr(hm:F.gw=true){t:Tg}(h:ry F.nm t=true):mh F t (zR F.nm t):=by
 cases t with
 |var i=>exact⟨getD_at (of_decide_eq_true h),rfl⟩
 |ao i=>
  refine⟨?_,hm⟩;have h:(F.nm.cells.getD i .none).isSome=true:=h;refine(?_:(F.cells[i]?).bind (λp=>p.1)=some ((F.nm.cells.getD i .none).getD default));have e:F.nm.cells[i]?=(F.cells[i]?).map (·.1):=getElem?_map ..;rw[getD_eq_getElem?_getD,e] at h⊢
  cases hc:F.cells[i]? with
  |none=>rw[hc] at h;exact bf h
  |some o=>
   rw[hc] at h;obtain⟨o,a⟩:=o
   cases o with
   |none=>exact bf h
   |some x=>rfl
theorem Ds(hm:F.gw=true):∀{ts:List Tg}{es:List Expr},ts.all (ry F.nm)=true->jw F ts (pz F.nm ts es):=by
 intro ts
 induction ts with
 |nil=>exact λU=>trivial
 |cons t ts ih=>exact λh=>⟨(co _ _ rfl (Dr hm (two h).1)),ih (two h).2⟩
theorem Eg(hg:∀l,g l=true->ir C.G l)(ok:bv C.G F)(X:lw C.G)(B:Bs C.G C.K)(hm:F.gw=true):∀(sm:Sm)(l:List Stmt),(jk g F.nm sm false l=true->S1 C F sm ((jj F.nm sm l).headD (.Pass default)))/\(jk g F.nm sm true l=true->SS C F sm (jj F.nm sm l)):=by
 have R:∀{tm e},o1 g tm F.nm e=true->aK C F.nm tm (n1 tm F.nm e):=λh=>(Ef hg _ _ _).1 h;intro sm
 induction sm with
 |nil=>exact λl=>⟨λh=>bf h,λU=>lR⟩
 |seq a r i1 i2=>exact λl=>⟨λh=>bf h,λh=>cC ((i1 _).1 (two h).1) ((i2 _).2 (two h).2)⟩
 |ex e=>exact λl=>⟨λh=>xR ok B (R (two h).1) (wC ok) (oL (two h).1 (two h).2 ..),λh=>bf h⟩
 |ret e=>exact λl=>⟨λh=>ON ok B (R h),λh=>bf h⟩
 |ph=>exact λl=>⟨λU=>MK,λh=>bf h⟩
 |pass=>exact λl=>⟨λU=>ML,λh=>bf h⟩
 |brk=>exact λl=>⟨λU=>OO,λh=>bf h⟩
 |no=>exact λl=>⟨λU U U U U U U U U U U h=>h.elim,λh=>bf h⟩
 |ite c a b i1 i2=>exact λl=>⟨λh=>DZ ok B (R (two h).1) ((i1 _).2 (two (two h).2).1) ((i2 _).2 (two (two h).2).2),λh=>bf h⟩
 |asg t e=>exact λl=>⟨λh=>D0 ok B (R (two (two h).2).1) (Dr hm (two h).1) (oL (two (two h).2).1 (two (two h).2).2 ..),λh=>bf h⟩
 |du o n e=>exact λl=>⟨λh=>MN ok B (R (two h).2) (R (two h).1) (LI (two h).2 ..),λh=>bf h⟩
 |f0 o i e=>exact λl=>⟨λh=>MO ok B (R (two (two (two h).2).2).1) (R (two h).1) (R (two (two h).2).1) (oL (two (two (two h).2).2).1 (two (two (two h).2).2).2 ..),λh=>bf h⟩
 |pf o e=>exact λl=>⟨λh=>MP ok B (R (two (two h).2).1) (R (two h).1) (oL (two (two h).2).1 (two (two h).2).2 ..),λh=>bf h⟩
 |pg o lo hi e=>exact λl=>⟨λh=>by
   lk
   refine xA (two h) λh1 h=>?_
   lk
   refine xA (two h) λh2 h=>?_;refine xA (two h) λh3 h=>?_;exact MR ok B (R (two h).1) (R h1) (R h2) (R h3) (oL (two h).1 (two h).2 ..),λh=>bf h⟩
 |fi ts e=>exact λl=>⟨λh=>qH ok B (R (two (two h).2).1) (Ds hm (two h).1) (oL (two (two h).2).1 (Pg (two (two h).2).2) (some (.Tuple (pz F.nm ts (pa (hS l).t).l) (pa (hS l).t).k (pa (hS l).t).p)) (hS l).p.line F.env) (Nk (two (two h).2).1 (two (two h).2).2 ..),λh=>bf h⟩
 |«for» ts pair it body i1=>exact λl=>⟨λh=>by
   refine xA (two h) λh1 h=>?_;refine xA (two h) λh2 h=>?_;refine xA (two h) λh3 h4=>?_;refine D3 X ok B (R h1) ((i1 _).2 h2) ?_ λU=>(oI h1).fold _ _;have h5:=Ds hm h3 (es:=bif pair then(pa (hS l).t).l else [(hS l).t])
   cases pair with
   |true=>exact(Ew _ _ _ rfl h5)
   |false=>obtain⟨t,rfl⟩:=List.length_eq_one_iff.mp (eq_of_beq h4);exact h5,λh=>bf h⟩
 |mB c body i1=>exact λl=>⟨λh=>OP X ok B (R (two h).1) ((i1 _).2 (two h).2),λh=>bf h⟩
 |sp=>exact λl=>⟨λh=>bf h,λh=>bf h⟩
end
noncomputable abbrev kG (G:Gd):Frag:=KK G.w.params
noncomputable abbrev dS (s:Str):Str×Option Nat:=(s,some 0)
noncomputable abbrev bI (s:Str):Str×Option Nat:=(s,some 1)
noncomputable abbrev dT (s:Str):Str×Option Nat:=(s,some 2)
noncomputable abbrev jl (s:Str):Str×Option Nat:=(s,some 3)
noncomputable abbrev lD (s:Str):Str×Option Nat:=(s,some 4)
noncomputable abbrev vA (s:Str):Str×Option Nat:=(s,some 5)
noncomputable abbrev aI (s:Str):Str×Option Nat:=(s,none)
noncomputable abbrev sf:Str×Option Nat:=("self",some 0)
structure PG(G:Gd):Prop where
 B:Bs G (kG G)
 exc:G.exc=jC
 main:BMain G
 code:CodeHd G.h₀ 1052 1050
theorem PG.X(W:PG G):lw G:=Tr W.exc
abbrev cx(G:Gd)(d:Nat):Cx:=⟨G,KK G.w.params,d⟩
section
variable{G:Gd}{K:Frag}{x:Str}
theorem LJ(B:Bs G K)(h:nsIn K mainGlobals x=some (some u))(hi:∀Z,Is Z v u):oU G x v:=λA Z H L env Q E hg hb q=>.mk λs S=>by unfold loadGlobal;refine(hg)▸?_;refine wpAny_bind ((looks_nsIn (B.fu.keeps S.h0) h).here ?_);exact wP (PQ.mk' S (hi Z) q)
theorem Nl(B:Bs G K)(h:nsIn K mainGlobals x=some none)(hb:bootBuiltins x=some u)(hx:x≠"__name__")(hi:∀Z,Is Z v u):oU G x v:=λA Z H L env Q E hg Ui q=>.mk λs S=>by refine j0 B.names λmg mb U n2 n3=>?_;unfold loadGlobal;refine(hg)▸?_;refine wpAny_bind ((looks_nsIn (B.fu.keeps S.h0) h).here ?_);refine(Ui)▸?_;refine wpAny_bind (wpAny_nsGet (n2.keeps S.h0) ?_);refine(n3 x hx)▸?_;refine(hb)▸?_;exact wP (PQ.mk' S (hi Z) q)
noncomputable def vB (v:V) (u:Value):Bool:=match v with
 |.int i=>(match u with|.int j _=>i==j|_=>false)
 |.str i=>(match u with|.str j _=>i==j|_=>false)
 |.ref a=>(match u with|.ref b=>a==b|_=>false)
 |.type a=>(match u with|.type b=>a==b|_=>false)
 |.bi a=>(match u with|.builtin b=>a==b|_=>false)
 |_=>false
theorem Eh(h:vB v u=true)(Z:Zt):Is Z v u:=by
 cases v with
 |int i=>cases u with
  |int j t=>exact eq_of_beq h▸.int
  |_=>exact bf h
 |str i=>cases u with
  |str j t=>exact eq_of_beq h▸.str
  |_=>exact bf h
 |ref i=>cases u with
  |ref j=>exact eq_of_beq h▸.ref
  |_=>exact bf h
 |type i=>cases u with
  |type j=>exact eq_of_beq h▸.type
  |_=>exact bf h
 |bi i=>cases u with
  |builtin j=>exact eq_of_beq h▸.bi
  |_=>exact bf h
 |_=>exact bf h
def zS(K:Frag)(p:Str×V):Bool:=match nsIn K mainGlobals p.1 with
 |some (some u)=>vB p.2 u
 |some none=>(match bootBuiltins p.1 with
  |some u=>vB p.2 u&&!(p.1==("__name__":Str))
  |none=>false)
 |none=>false
theorem Ph(B:Bs G K){p:Str×V}(h:zS K p=true):oU G p.1 p.2:=by
 unfold zS at h
 lk
 cases e:nsIn K mainGlobals p.1 with
 |none=>rw[e] at h;exact bf h
 |some o=>
  rw[e] at h
  cases o with
  |some u=>exact LJ B e (Eh h)
  |none=>
   have h:(match bootBuiltins p.1 with|some u=>vB p.2 u&&!(p.1==("__name__":Str))|none=>false)=true:=h
   cases e2:bootBuiltins p.1 with
   |none=>rw[e2] at h;exact bf h
   |some u=>rw[e2] at h;exact Nl B e e2 (λq=>by rw[q] at h;exact bf ((two h).2.symm.trans (by decide)).symm) (Eh (two h).1)
def gB(K:Frag)(l:SV):Bool:=l.all (zS K)
theorem kX(B:Bs G K):∀{l:SV},gB K l=true->ir G l:=by
 intro l
 induction l with
 |nil=>exact λU=>trivial
 |cons p l ih=>exact λh=>⟨Ph B (two h).1,ih (two h).2⟩
end
noncomputable def t8 (fd:FuncData):List Stmt:=match fd.body with
 |.stmts b=>b
 |_=>[]
def dB(K:Frag)(f:Addr)(ps:List Str)(ls cs:List (Str×Option Nat))(gs:SV):Df:=⟨f,ki K f,t8 (ki K f),ps,ls,cs,gs⟩
noncomputable def Df.nm (D:Df):Nm:=⟨D.locs.map (·.1),D.dq.map λp=>some p.1,D.globs.map (·.1)⟩
theorem QP(D:Df)(fr:Addr):(D.fn fr).nm=D.nm:=by
 have:∀(l:List (Str×Option Nat))(k:Nat),((l.zipIdx k).map λp=>(some p.1.1,fr+(1+p.2))).map (·.1)=l.map λp=>some p.1:=by
  intro l
  induction l with
  |nil=>exact λU=>rfl
  |cons p l ih=>exact λk=>by rw[zipIdx_cons,map_cons,map_cons,map_cons,ih]
 show Nm.mk _ (((D.dq.zipIdx 0).map _).map _) _=_;rw[this];rfl
structure Wk(C:Cx)(F:Fn):Prop where
 ok:bv C.G F
 X:lw C.G
 B:Bs C.G C.K
 gw:F.gw=true
section
variable{C:Cx}{F:Fn}
theorem fK(w:Wk C F){sm b}(h:(jj F.nm sm b,jk (gB C.K) F.nm sm true b)=(b,true)):SS C F sm b:=by refine xA (Prod.mk.inj h) λh1 h2=>?_;refine(h1)▸?_;exact(Eg (λU=>kX w.B) w.ok w.X w.B w.gw sm b).2 h2
theorem g_(w:Wk C F){sm st}(h:(jj F.nm sm [st],jk (gB C.K) F.nm sm false [st])=([st],true)):S1 C F sm st:=by refine xA (Prod.mk.inj h) λh1 h2=>?_;have:=(Eg (λU=>kX w.B) w.ok w.X w.B w.gw sm [st]).1 h2;rw[h1] at this;exact this
theorem fQ(w:Wk C F){tm e}(h:(n1 tm N e,o1 (gB C.K) tm N e)=(e,true)):aK C N tm e:=by refine xA (Prod.mk.inj h) λh1 h2=>?_;have:=(Ef (λU=>kX w.B) tm N [e]).1 h2;rw[show fst (nz tm N [e])=e from h1] at this;exact this
end
section
variable{G:Gd}{d:Nat}{f:Addr}{ps:List Str}{ls cs:List (Str×Option Nat)}{gs:SV}{S:Sm}{xs:List V}{L:HL}{Q:VP}{E:HP}
theorem PG.wk(W:PG G){F:Fn}(ok:bv G F)(hm:F.gw=true):Wk (cx G d) F:=⟨ok,W.X,W.B,hm⟩
def Wp(G:Gd)(d:Nat)(D:Frag->Df)(S:Sm)(xs:List V)(L:HL)(Q:VP)(E:HP):Prop:=wpS (cx G d) S (D (kG G)).globs ((D (kG G)).at xs) L (gC Q) λU=>E
def Look(K:Frag)(D:Df):Option Obj×FuncBody×Bool:=(K.lookup D.f,D.fd.body,D.ie K&&(gB K D.globs&&oH D.fd D.params))
def pA(D:Df):Option Obj×FuncBody×Bool:=(some (xL D.fd),.stmts D.body,true)
theorem w4{K:Frag}{D:Df}(B:Bs G K)(h:Look K D=pA D):uQ G K D/\oH D.fd D.params=true:=by refine xA (Prod.mk.inj h) λh1 h=>?_;obtain⟨h2,h3⟩:=Prod.mk.inj h;exact⟨⟨h1,h2,(two h3).1,kX B (two (two h3).2).1⟩,(two (two h3).2).2⟩
theorem ip{D:Frag->Df}(W:PG G)(h:(Look (kG G) (D (kG G)),(D (kG G)).fd.defaults)=(pA (D (kG G)),.none))
  (hs:∀fr,bv G ((D (kG G)).fn fr)->SS (cx G d) ((D (kG G)).fn fr) S (D (kG G)).body)(hl:(D (kG G)).params.length=xs.length)(hw:Wp G d D S xs L Q E):Sp G (D (kG G)).f (d+1) xs L Q E:=by
 refine xA (Prod.mk.inj h) λh1 hd=>?_;obtain⟨ok,nI⟩:=w4 W.B h1;exact Sp.of W.B W.X ok (λfr=>hs fr (ok.pV fr)) hl (λZ H A vs s S hv=>(ah vs hv (λM A E Q q=>Kw nI hd (by rw[hv.length];exact hl.symm) q))) hw
theorem ot{D:Frag->Df}(W:PG G)(h:(Look (kG G) (D (kG G)),(D (kG G)).fd.defaults,jj (D (kG G)).nm S (D (kG G)).body,jk (gB (kG G)) (D (kG G)).nm S true (D (kG G)).body)=(pA (D (kG G)),.none,(D (kG G)).body,true))
  (hl:(D (kG G)).params.length=xs.length)(hw:Wp G d D S xs L Q E):Sp G (D (kG G)).f (d+1) xs L Q E:=by
 refine xA (Prod.mk.inj h) λh1 h=>?_;refine xA (Prod.mk.inj h) λh2 h3=>?_;exact ip W (by rw[h1,h2]) (λfr ok=>fK (W.wk ok rfl) (by rw[QP];exact h3)) hl hw
theorem gO(f:Addr)(ps:List Str)(ls cs:List (Str×Option Nat))(gs:SV)(S:Sm)(W:PG G)(hw:Wp G d (dB · f ps ls cs gs) S xs L Q E)(h:((Look (kG G) (dB (kG G) f ps ls cs gs),(ki (kG G) f).defaults,jj (dB (kG G) f ps ls cs gs).nm S (t8 (ki (kG G) f)),jk (gB (kG G)) (dB (kG G) f ps ls cs gs).nm S true (t8 (ki (kG G) f))),ps.length)=((pA (dB (kG G) f ps ls cs gs),.none,t8 (ki (kG G) f),true),xs.length):=by x_go):Sp G f (d+1) xs L Q E:=ot (D:=(dB · f ps ls cs gs)) W (Prod.mk.inj h).1 (Prod.mk.inj h).2 hw
section
variable{D:Frag->Df}{ns:List Str}{fb:Str}{T:Addr}{dv:Value}{n:Nat}
theorem zT(ns:List Str)(fb:Str)(T:Addr)(dv:Value)(W:PG G)(h:(Look (kG G) (D (kG G)),(D (kG G)).fd.defaults,(kG G).lookup T)=(pA (D (kG G)),.ref T,some (gL #[dv] 0)))
  (hn:(D (kG G)).params=ns++[fb])(hs:∀fr,bv G ((D (kG G)).fn fr)->SS (cx G d) ((D (kG G)).fn fr) S (D (kG G)).body)(hl:(D (kG G)).params.length=xs.length)(hw:Wp G d D S xs L Q E):Sp G (D (kG G)).f (d+1) xs L Q E:=by
 lk
 refine xA (Prod.mk.inj h) λh1 h=>?_;obtain⟨hd,hT⟩:=Prod.mk.inj h;obtain⟨ok,nI⟩:=w4 W.B h1;refine Sp.of W.B W.X ok (λfr=>hs fr (ok.pV fr)) hl (λZ H A vs s S hv=>(ah vs hv (λM A E Q q=>?_))) hw;rw[hn] at nI hl q;refine Cp nI hd (W.B.fu.keeps S.h0 _ _ hT) (.inl ⟨rfl,?_⟩) q;rw[hv.length,←hl];simp
theorem sd(ns:List Str)(fb:Str)(T:Addr)(dv:Value)(W:PG G)(h:(Look (kG G) (D (kG G)),(D (kG G)).fd.defaults,(kG G).lookup T)=(pA (D (kG G)),.ref T,some (gL #[dv] 0)))
  (hn:(D (kG G)).params=ns++[fb])(hs:∀fr,bv G ((D (kG G)).fn fr)->SS (cx G d) ((D (kG G)).fn fr) S (D (kG G)).body)(hx:∀Z,Is Z dx dv)(hl:ns.length=xs.length)(hw:Wp G d D S (xs++[dx]) L Q E):Sp G (D (kG G)).f (d+1) xs L Q E:=by
 lk
 refine xA (Prod.mk.inj h) λh1 h=>?_;obtain⟨hd,hT⟩:=Prod.mk.inj h;obtain⟨ok,nI⟩:=w4 W.B h1;refine Sp.of W.B W.X ok (λfr=>hs fr (ok.pV fr)) (us:=xs++[dx]) (by rw[hn];simp[hl]) (λZ H A vs s S hv=>(ah (vs++[dv]) (hv.append (.one (hx Z))) (λM A E Q q=>?_))) hw;rw[hn] at nI q;exact Cp nI hd (W.B.fu.keeps S.h0 _ _ hT) (.inr ⟨rfl,by rw[hv.length];exact hl.symm⟩) q
end
end
def kR(P:Params)(a:Addr):Bool:=keepIn (KK P) (.ref a)
theorem kF{G:Gd}{d:Nat}{a:Addr}(h:true=kR G.w.params a:=by x_go):jd ⟨G,KK G.w.params,d⟩ (.ref a):=h.symm
noncomputable def mL (f:Addr):Option (Option Value)×Option Value:=(some (some (.ref f)),some (.type "function"))
def mR(P:Params)(c:Addr)(n:Str)(f:Addr):Option (Option Value)×Option Value:=(findIn (KK P) (.ref c) n,typeIn (KK P) (.ref f))
theorem mF{c:Addr}(f:Addr)(h:mL f=mR P c n f:=by x_go):cV (KK P) c n f:=⟨(congrArg Prod.fst h).symm,(congrArg Prod.snd h).symm⟩
def aR(P:Params)(c:Addr)(n:Str):=(findIn (KK P) (.ref c) n,takerIn (KK P) c n)
theorem aF{c:Addr}(h:(some none,some none)=aR P c n:=by x_go):jg (KK P) c n:=⟨(congrArg Prod.fst h).symm,(congrArg Prod.snd h).symm⟩
theorem iq:hV (KK P) 142:=⟨by x_go,by x_go,by x_go,by x_go,by x_go,by x_go,by x_go,by x_go⟩
theorem kL:hV (KK P) 274:=⟨by x_go,by x_go,by x_go,by x_go,by x_go,by x_go,by x_go,by x_go⟩
theorem q5:hV (KK P) 484:=⟨by x_go,by x_go,by x_go,by x_go,by x_go,by x_go,by x_go,by x_go⟩
theorem JH:hV (KK P) 575:=⟨by x_go,by x_go,by x_go,by x_go,by x_go,by x_go,by x_go,by x_go⟩
theorem Kx:hV (KK P) 618:=⟨by x_go,by x_go,by x_go,by x_go,by x_go,by x_go,by x_go,by x_go⟩
theorem sW:hV (KK P) 766:=⟨by x_go,by x_go,by x_go,by x_go,by x_go,by x_go,by x_go,by x_go⟩
theorem LK:hV (KK P) 837:=⟨by x_go,by x_go,by x_go,by x_go,by x_go,by x_go,by x_go,by x_go⟩
theorem JI:hV (KK P) 973:=⟨by x_go,by x_go,by x_go,by x_go,by x_go,by x_go,by x_go,by x_go⟩
theorem vS:findCls (KK P) (.ref 484) (.type "type") "__init__"=some (.val (.ref 313)):=by x_go
theorem AY:findCls (KK P) (.ref 484) (.type "type") "copy"=some (.val (.ref 469)):=by x_go
theorem Iu:findCls (KK P) (.ref 766) (.type "type") "__init__"=some (.val (.ref 646)):=by x_go
theorem Ic:findCls (KK P) (.ref 766) (.type "type") "unlink"=some (.val (.ref 718)):=by x_go
theorem Iv:findCls (KK P) (.ref 766) (.type "type") "copy"=some (.val (.ref 756)):=by x_go
theorem mm:kh (KK P) "MapError" "MapError" 58 [.ref 46] [] [] false none none (some (.ref 50)) none (some (.str "MapError" 234)) (some (.str "MapError" 242)) (some (.bool true)):=⟨by x_go,⟨by x_go,by x_go⟩,by x_go⟩
theorem Pi:takerIn (KK P) 59 "what"=some none:=by x_go
theorem Sj:takerIn (KK P) 59 "at"=some none:=by x_go
def yX(k:Nat):Expr:=(pa ((pa (ps ((QO 67)[9]?.getD (.Pass default))).e).l.getD k dE)).a
noncomputable def yY (k:Nat):Pa:=pa (fst (pa (yX k)).l)
def iZ(k:Nat):Lm:=⟨"_law_places_right.<locals>.<lambda>",⟨[],[],none,[],[],none,[]⟩,(yY k).a,(yY k).s⟩
def t9(k:Nat):Pos:=(yY k).p
noncomputable def fc:P0:=.raw λU U o=>o=tabObj #[]
noncomputable def GJ:P0:=.raw λU U o=>∃c,o=tabObj #[rawInt (t9 0).line,rawInt (t9 0).col,.ref c]
noncomputable def GK:P0:=.raw λU U o=>∃ps,o=tabObj ps
noncomputable def Fp:Tm:=.sp (yV 1060 (iZ 0) 1050 fc GJ ["maps","end"] Fm)
noncomputable def Fq:Tm:=.sp (yV 1060 (iZ 1) 1050 GJ GK ["spans","maps"] Fo)
def QQ:Tm:=.bo .Or (.ae (.d8 .Not Fp) (wa (.d8 .Not Fq)))
theorem Nn{c a b c' a' b' pos:_}(h1:∀σ,ES C F σ c c')(h2:SS C F a a')(h3:SS C F b b'):S1 C F (.ite c a b) (.If c' a' b' pos):=λA Z H σ L Q E hA hR hc h=>.bP λs S=>
 G4 (ay (((h1 σ).ts A Z H L _ _ hR h).run s S) (λz s' q=>by
  cases q with|mk Z' L' x a b r q=>
  have r':x=.bool z:=r;subst r'
  cases z with
  |true=>exact ay ((h2 A Z' H σ L' Q E hA hR hc (q.1 rfl)).run s' b) (λU U=>PS.le a) (λU U=>dz.le a)
  |false=>exact ay ((h3 A Z' H σ L' Q E hA hR hc (q.2 rfl)).run s' b) (λU U=>PS.le a) (λU U=>dz.le a)) λU U=>PE.toS)
theorem Fs{scope:Scope}{env:Env}{a b:Str}{ca cb:Addr}{r:List (Str×Addr)}(h:scope.names.all (λp=>p.2 != .free||(p.1==a||p.1==b))=true)(ha:env.cells.lookup a=some ca)(hb:env.cells.lookup b=some cb)(hr:gN scope.names (λn=>if n==a then ca else cb) []=r):closureFor scope env=pure r:=by
 rw[←hr];refine Ax λn hn=>?_;have:=List.all_eq_true.mp h _ hn;have e:(n==a||n==b)=true:=this;rcases Bool.or_eq_true_iff.mp e with e|e
 ·rw[if_pos e,eq_of_beq e];exact ha
 ·by_cases e2:(n==a)=true
  ·rw[if_pos e2,eq_of_beq e2];exact ha
  ·rw[if_neg e2,eq_of_beq e];exact hb
def An(K:Frag):Df:=dB K 36 ["self","what","at"] [sf,bI "what",dT "at"] [] [("Exception",.type "Exception")]
noncomputable def Io:Sm:=(sq [.ex (.aC aM "__init__" (.ae af (wa aB))),.du af "what" (.var 1),.du af "at" (.var 2)])
def tf(K:Frag):Df:=dB K 104 ["maps","place"] [dS "maps",bI "place",aI "number",aI "found"] [] [qx,jm]
noncomputable def Cw (C:Cx):Sm:=(sq [.for [(.var 2)] false (.call aM (wa af)) (sq [.asg (.var 3) (.aC (.sub af (.var 2)) "slot_at" (wa aB)),.ite (.cmp .IsNot bC .none) (sq [.ret (.tup (.ae (.sub af (.var 2)) (.ae (.sub bC (.int 0)) (wa (.sub bC (.int 1))))))]) .nil]),.sp (xq C (.call cf (wa (.str "no value there"))))])
def sF(K:Frag):Df:=dB K 167 ["place","width"] [dS "place",bI "width",aI "number",aI "rest"] [] [qy,sO,vP]
noncomputable def AI:Sm:=(sq [.fi ([2,3].map .var) (.tup (.ae (.bin .FloorDiv (.bin .Sub af aM) cf) (wa (.bin .Mod (.bin .Sub af aM) cf)))),.ret (.tup (.ae aX (.ae (.bin .FloorDiv bC (.call eM (wa aB))) (wa (.bin .Mod bC (.call eM (wa aB)))))))])
def AB(K:Frag):Df:=dB K 189 ["self","maps"] [sf,bI "maps"] [] []
noncomputable def IG:Sm:=(sq [.du af "regions" (.lst .bT),.du af "maps" (.fy (.cmp .Is aB .none) .g7 (.var 1))])
def sz(K:Frag):Df:=dB K 224 ["self","place"] [sf,bI "place",aI "low",aI "high",aI "middle"] [] [qy,Cq,jx]
noncomputable def Ak:Sm:=(sq [.ite (.ik .LtE .Lt aM (.var 1) cf) (sq [.ret (.aC af "value_region" (wa aB))]) .nil,.fi ([2,3].map .var) (.tup (.ae (.int 0) (wa (.call eM (wa (.aG af "regions")))))),.mB (.cmp .Lt aX (.var 3)) (sq [.asg (.var 4) (.bin .FloorDiv (.bin .Add aX (.var 3)) (.int 2)),.ite (.cmp .LtE (.aG (.sub (.aG af "regions") (.var 4)) "base") (.var 1)) (sq [.asg (.var 2) (.bin .Add dL (.int 1))]) (sq [.asg (.var 3) (.var 4)])]),.ret (.fy (.cmp .Gt aX (.int 0)) (.sub (.aG af "regions") (.bin .Sub aX (.int 1))) .none)])
def Ie(K:Frag):Df:=dB K 292 ["kind","key_width"] [dS "kind",bI "key_width"] [] [jm,("MOST_KEY",.int 512)]
noncomputable def Ig:Sm:=(sq [.ite (.cmp .In af (.tup (.ae (.str "queue") (.ae (.str "stack") (wa (.str "ring")))))) (sq [.ite (.cmp .NotEq aB (.int 0)) (sq [.no]) .nil]) (sq [.ite (.cmp .Eq af (.str "trie")) (sq [.ite (.d8 .Not (.ik .LtE .LtE (.int 5) (.var 1) (.int 20))) (sq [.no]) .nil]) (sq [.ite (.cmp .In af (.tup (.ae (.str "array") (wa (.str "rows"))))) (sq [.ite (.cmp .NotEq aB (.int 4)) (sq [.no]) .nil]) (sq [.ite (.d8 .Not (.ik .LtE .LtE (.int 1) (.var 1) cf)) (sq [.no]) .nil])])])])
def I_(K:Frag):Df:=dB K 413 ["self","key"] [sf,bI "key",aI "slot"] [] [gJ]
noncomputable def Ja:Sm:=(sq [.asg (.var 2) (.aC af "peer" (wa aB)),.ret (.fy (.cmp .Is aX .none) .none (.call aM (wa (.sub (.aG af "values") (.var 2)))))])
def sP(K:Frag):Df:=dB K 455 ["self","rows"] [sf,bI "rows",aI "key",aI "octets"] [] [x6,jm]
noncomputable def Be (C:Cx):Sm:=(sq [.for [(.var 2),(.var 3)] true (.var 1) (sq [.ite (.cmp .NotEq (.aC af "update" (.ae aX (.ae bC (wa aM)))) (.int 0)) (sq [.sp (xq C (.call cf (wa (.str "refused"))))]) .nil])])
def Jb(K:Frag):Df:=dB K 474 ["self"] [] [sf] [mU]
def Jc:Sm:=(sq [.ret (.call aM (wa (.lc ⟨["key"],false,[true],[]⟩ (.aC (.ao 0) "keys" .bT) .yes (.tup (.ae af (wa (.aC (.ao 0) "value" (wa af))))))))])
def JJ(K:Frag):Df:=dB K 481 ["self"] [sf] [] []
noncomputable def JK:Sm:=(sq [.ret (.tup (.ae (.aG af "kind") (.ae (.aG af "number") (.ae (.aG af "key_width") (.ae (.aG af "value_width") (.ae (.aG af "most") (wa (.aC af "parts" .bT))))))))])
def oA(K:Frag):Df:=dB K 538 ["self","key","processor"] [sf,bI "key",dT "processor",aI "index"] [] []
noncomputable def vH:Sm:=(sq [.asg (.var 3) (.aC af "index" (wa aB)),.ret (.fy (.cmp .Lt bC (.int 0)) .none (.aC af "slot" (.ae bC (wa aX))))])
def kI(K:Frag):Df:=dB K 546 ["self","key","octets","flags","processor"] [sf,bI "key",dT "octets",jl "flags",lD "processor",aI "index",aI "told"] [] [x6,BG,AV,qz,tL,Ct]
noncomputable def sA:Sm:=(sq [.fi ([5,6].map .var) (.tup (.ae (.aC af "index" (wa aB)) (wa (.aC af "check_value" (wa aX))))),.ite (.cmp .NotIn bC (.tup (.ae aM (.ae cf (wa eM))))) (sq [.ret (.bin .Sub (.int 0) iH)]) .nil,.ite (.cmp .Lt d9 (.int 0)) (sq [.ret (.bin .Sub (.int 0) jf)]) .nil,.ite (.cmp .Eq bC cf) (sq [.ret (.bin .Sub (.int 0) kz)]) .nil,.ex (.aC af "lay" (.ae (.aC af "slot" (.ae d9 (wa dL))) (wa il))),.ret (.int 0)])
def Ao(K:Frag):Df:=dB K 668 ["self","key","processor"] [sf,bI "key",dT "processor",aI "slot"] [] []
noncomputable def Ip:Sm:=(sq [.asg (.var 3) (.aC af "peer" (wa aB)),.ite (.cmp .IsNot bC .none) (sq [.ex (.aC af "used" (wa bC))]) .nil,.ret bC])
def qk(K:Frag):Df:=dB K 704 ["self","key","octets","flags","processor"] [sf,bI "key",dT "octets",jl "flags",lD "processor",aI "told",aI "slot",aI "answer"] [] [("flags_answer",.ref 495),tL,gJ]
noncomputable def Ap:Sm:=(sq [.fi ([5,6].map .var) (.tup (.ae (.aC af "check_value" (wa aX)) (wa (.aC af "peer" (wa aB))))),.asg (.var 7) (.call aM (.ae bC (wa (.cmp .IsNot il .none)))),.ite (.cmp .NotEq n4 (.int 0)) (sq [.ret n4]) .nil,.ite (.cmp .Is il .none) (sq [.asg (.var 6) (.aC af "room" .bT),.ite (.cmp .Is il .none) (sq [.ret (.bin .Sub (.int 0) cf)]) .nil,.ex (.aC af "link" (.ae (.call eM (wa aB)) (wa il)))]) .nil,.ex (.aC af "lay" (.ae il (wa d9))),.ex (.aC af "used" (wa il)),.ret (.int 0)])
def Iw(K:Frag):Df:=dB K 902 ["self","octets","flags"] [sf,bI "octets",dT "flags",aI "told"] [] [BI,qz,tL]
noncomputable def Ix:Sm:=(sq [.asg (.var 3) (.aC af "check_value" (wa aB)),.ite (.bo .And (.ae (.cmp .NotEq aX (.int 0)) (wa (.cmp .NotEq aX aM)))) (sq [.ret (.d8 .USub cf)]) .nil,.ite (.aC af "is_full" .bT) (sq [.ite (.cmp .NotEq aX aM) (sq [.ret (.d8 .USub eM)]) .nil,.du af "tail" (.aC af "onward" (wa (.aG af "tail")))]) .nil,.ex (.aC af "lay" (.ae (.aG af "head") (wa bC))),.du af "head" (.aC af "onward" (wa (.aG af "head"))),.ret (.int 0)])
def H3(K:Frag):Df:=dB K 909 ["self"] [sf] [] []
noncomputable def H4:Sm:=(sq [.ite (.aC af "is_empty" .bT) (sq [.ret .none]) .nil,.ret (.fy (.cmp .Eq (.aG af "kind") (.str "queue")) (.aG af "tail") (.aC af "back" (wa (.aG af "head"))))])
def sv(K:Frag):Df:=dB K 930 ["self"] [sf,aI "found",aI "slot"] [] []
noncomputable def Ae:Sm:=(sq [.fi ([1,2].map .var) (.tup (.ae (.lst .bT) (wa (.aG af "tail")))),.mB (.cmp .NotEq aX (.aG af "head")) (sq [.ex (.aC aB "append" (wa aX)),.asg (.var 2) (.aC af "onward" (wa aX))]),.ret (.fy (.cmp .Eq (.aG af "kind") (.str "queue")) (.var 1) (.rev aB))])
def JM(K:Frag):Df:=dB K 989 ["pen","many"] [dS "pen",bI "many",aI "digit"] [] []
noncomputable def JN:Sm:=(sq [.ite (.cmp .Eq (.sub af (.int 0)) (.int 0)) (sq [.f0 af (.int 1) (.bin .Add (.sub af (.int 1)) (.int 1)),.f0 af (.int 0) (.bin .Pow (.bin .Add (.bin .Mult (.int 2038) (.sub af (.int 1))) (.int 7013)) (.int 9))]) .nil,.asg (.var 2) (.bin .Mod (.sub af (.int 0)) (.var 1)),.f0 af (.int 0) (.bin .FloorDiv (.sub af (.int 0)) (.var 1)),.ret aX])
def sX(K:Frag):Df:=dB K 1003 ["pen"] [dS "pen",aI "kind",aI "widths"] [] [v_,jW]
noncomputable def BK:Sm:=(sq [.asg (.var 1) (.call aM (.ae af (wa (.lst (.ae (.str "rows") (.ae (.str "hash") (.ae (.str "array") (.ae (.str "lru") (.ae (.str "queue") (wa (.str "stack"))))))))))),.asg (.var 2) (.sp (GG ["rows","array","hash","lru","queue","stack"] (.ae (.int 4) (.ae (.int 4) (.ae (.bin .Add (.int 1) (.call cf (.ae af (wa (.int 2))))) (.ae (.int 2) (.ae (.int 0) (wa (.int 0))))))))),.ret (.tup (.ae aB (.ae (.sub aX (.var 1)) (.ae (.call aM (.ae af (wa (.lst (.ae (.int 1) (.ae (.int 7) (.ae (.int 8) (.ae (.int 9) (wa (.int 16)))))))))) (wa (.bin .Add (.int 1) (.call cf (.ae af (wa (.int 3))))))))))])
def JO(K:Frag):Df:=dB K 1010 ["row","number"] [dS "row",bI "number",aI "kind",aI "key_size",aI "size",aI "most"] [] [Bd,qr,Cv,Bc,BH]
noncomputable def JQ:Sm:=(sq [.fi [(.var 2),(.var 3),(.var 4),(.var 5)] (.var 0),.ite (.cmp .In aX (.tup (.ae (.str "queue") (wa (.str "stack"))))) (sq [.ret (.call aM (.ae aX (.ae aB (.ae dL (wa d9)))))]) .nil,.ite (.cmp .Eq aX (.str "hash")) (sq [.ret (.call cf (.ae aX (.ae aB (.ae bC (.ae dL (wa d9))))))]) .nil,.ite (.cmp .Eq aX (.str "lru")) (sq [.ret (.call eM (.ae aX (.ae aB (.ae bC (.ae dL (wa d9))))))]) .nil,.ret (.fy (.cmp .Eq aX (.str "array")) (.call iH (.ae aX (.ae aB (.ae bC (.ae dL (wa d9)))))) (.call jf (.ae aX (.ae aB (.ae bC (.ae dL (wa d9)))))))])
def sQ(K:Frag):Df:=dB K 1036 ["pen","one","row"] [dS "pen",bI "one",dT "row",aI "kind",aI "key",aI "octets",aI "way"] [] [BJ,vN,jW,v_]
noncomputable def Bf:Sm:=(sq [.fi ([3,4,5].map .var) (.tup (.ae (.sub aX (.int 0)) (.ae (.call aM (.ae af (wa aX))) (wa (.call cf (.ae af (wa (.sub aX (.int 2))))))))),.asg (.var 6) (.call eM (.ae af (wa (.int 4)))),.ite (.bo .And (.ae (.cmp .In bC (.tup (.ae (.str "queue") (wa (.str "stack"))))) (wa (.cmp .Lt il (.int 3))))) (sq [.ex (.aC aB "push" (.ae d9 (wa (.call iH (.ae af (wa (.lst (.ae (.int 0) (wa (.int 2))))))))))]) (sq [.ite (.cmp .In bC (.tup (.ae (.str "queue") (wa (.str "stack"))))) (sq [.ex (.aC aB "pop" .bT)]) (sq [.ite (.cmp .Lt il (.int 2)) (sq [.ex (.aC aB "update" (.ae dL (.ae d9 (wa (.int 0)))))]) (sq [.ite (.cmp .Eq il (.int 2)) (sq [.ex (.aC aB "delete" (wa dL))]) (sq [.ex (.aC aB "lookup" (wa dL))])])])])])
def sw(K:Frag):Df:=dB K 1043 ["pen","one","row"] [dS "pen",bI "one",dT "row",aI "key",aI "octets",aI "processor",aI "before",aI "answer",aI "due"] [] [BJ,vN,jW,gJ]
noncomputable def Af:Sm:=(sq [.fi ([3,4,5].map .var) (.tup (.ae (.call aM (.ae af (wa aX))) (.ae (.call cf (.ae af (wa (.sub aX (.int 2))))) (wa (.call eM (.ae af (wa (.int 4)))))))),.asg (.var 6) (.aC aB "row" (wa bC)),.asg (.var 7) (.aC aB "update_on" (.ae bC (.ae dL (.ae (.int 0) (wa d9))))),.ite (.cmp .Is il .none) (sq [.ret (.bo .And (.ae (.cmp .Eq n4 (.d8 .USub (.int 7))) (.ae (.cmp .Is (.aC aB "row" (wa bC)) .none) (wa (.cmp .Is (.aC aB "lookup_on" (.ae bC (wa d9))) .none)))))]) .nil,.asg (.var 8) (.bin .Add (.bin .Add (.je il (.var 5)) (.tup (wa dL))) (.iG il (.bin .Add d9 (.int 1)))),.ret (.bo .And (.ae (.cmp .Eq n4 (.int 0)) (.ae (.cmp .Eq (.aC aB "row" (wa bC)) (.var 8)) (wa (.cmp .Eq (.call iH (wa (.sub (.aG aB "values") (.aC aB "lookup_on" (.ae bC (wa d9)))))) (.var 4))))))])
def sx:CI:=⟨["number"],false,[false,true,false,false],[gJ]⟩
noncomputable def sy:CI:=⟨["number"],false,[false,false,false,true],[]⟩
def mJ(K:Frag):Df:=dB K 1048 ["pen","one","row"] [aI "keys",aI "key",aI "pairs",aI "number",aI "spot",aI "told"] [dS "pen",bI "one",dT "row",aI "due"] [iU,gJ,AW,jm]
def Aq(C:Cx):Sm:=(sq [.asg (.var 0) (.lc ⟨["turn"],false,[true,false,true,false],[jW]⟩ (.call aM (wa (.int 3))) .yes (.call aM (.ae (.ao 0) (wa (.bin .Add (.sub (.ao 2) (.int 3)) (.int 1)))))),.fi [(.var 2),(.ao 3)] (.tup (.ae (.lc ⟨["key"],false,[true,false,true,false],[gJ,vN]⟩ (.var 0) .yes (.tup (.ae (.call aM (wa (.lst (.ae af (.ae (.int 0) (.ae (.int 0) (wa (.int 0)))))))) (wa (.call cf (.ae (.ao 0) (wa (.sub (.ao 2) (.int 2))))))))) (wa .g7))),.for [(.var 3)] false (.call aM (wa (.sub (.ao 2) (.int 3)))) (sq [.f0 (.ao 3) (.var 3) (.aC (.ao 1) "value" (wa (.call cf (wa (.lst (.ae bC (.ae (.int 0) (.ae (.int 0) (wa (.int 0))))))))))]),.for [(.var 4),(.var 1)] true (.call eM (wa af)) (sq [.ite (.cmp .Eq aB (.sub (.ao 2) (.int 3))) (sq [.brk]) .nil,.f0 (.ao 3) (.var 1) (.sub (.sub aX (.var 4)) (.int 1))]),.sp (uR C 4 (sq [.ex (.aC (.ao 1) "load" (wa aX)),.asg (.var 5) (.str "ALL")]) .next (λσ=>σ.set (.var 5) (.str "REFUSED"))),.ite (.cmp .NotEq d9 (.fy (.cmp .In (.sub (.ao 2) (.int 3)) (.var 0)) (.str "REFUSED") (.str "ALL"))) (sq [.ret (.bool false)]) .nil,.ret (.cmp .Eq (.lc sx (.call aM (wa (.sub (.ao 2) (.int 3)))) .yes (.aC (.ao 1) "value" (wa (.call aM (wa (.lst (.ae af (.ae (.int 0) (.ae (.int 0) (wa (.int 0))))))))))) (.lc sy (.call aM (wa (.sub (.ao 2) (.int 3)))) .yes (.sub (.ao 3) (.var 0))))])
def sD(K:Frag):Df:=dB K 1060 ["ask"] [dS "ask"] [] [jm]
noncomputable def AC (C:Cx):Sm:=(sq [.sp (uR C 0 (sq [.ex (.sp (GI 0))]) (.ret (.bool true)) id),.ret (.bool false)])
noncomputable def Ah:CI:=⟨["room"],false,[false,true,true,false],[]⟩
noncomputable def Ai:CI:=⟨["room"],false,[false,true,true,true],[]⟩
noncomputable def Aj:CI:=⟨["at"],false,[true,false,false,false],[]⟩
def jV(K:Frag):Df:=dB K 1065 ["pen","maps","rows","copies"] [dS "pen",dT "rows",jl "copies",aI "way",aI "others",aI "before",aI "kept",aI "is_right"] [bI "maps",aI "number",aI "rooms",aI "now"] [jW,jx,iU,vR,AX,("_law_processor_right",.ref 1043),("_law_load_right",.ref 1048),("_law_deed",.ref 1036)]
def Ar:Sm:=(sq [.fi [(.ao 1),(.var 3)] (.tup (.ae (.call aM (.ae af (wa (.call cf (wa aB))))) (wa (.call aM (.ae af (wa (.int 4))))))),.asg (.var 4) (.lc ⟨["at"],false,[false,true,false,false],[]⟩ (.call eM (wa (.call cf (wa aB)))) (.cmp .NotEq af (.ao 1)) (.var 0)),.fi [(.var 5),(.ao 2),(.var 6)] (.tup (.ae (.lc ⟨["at"],false,[true,false,false,false],[]⟩ (.var 4) .yes (.aC (.sub (.ao 0) (.var 0)) "told" .bT)) (.ae (.call iH (wa (.ao 0))) (wa (.call jf (wa aX)))))),.asg (.var 7) (.bool true),.ite (.bo .And (.ae (.cmp .Eq bC (.int 0)) (wa (.cmp .Eq (.sub (.sub aB (.ao 1)) (.int 0)) (.str "rows"))))) (sq [.asg (.var 7) (.call kz (.ae af (.ae (.sub (.ao 0) (.ao 1)) (wa (.sub aB (.ao 1))))))]) (sq [.ite (.bo .And (.ae (.cmp .Eq bC (.int 0)) (wa (.cmp .Eq (.sub (.sub aB (.ao 1)) (.int 0)) (.str "array"))))) (sq [.asg (.var 7) (.call jI (.ae af (.ae (.sub (.ao 0) (.ao 1)) (wa (.sub aB (.ao 1))))))]) (sq [.ex (.call mz (.ae af (.ae (.sub (.ao 0) (.ao 1)) (wa (.sub aB (.ao 1))))))])]),.ite (.bo .Or (.ae (.d8 .Not n4) (.ae (.cmp .NotEq (.lc Aj (.var 4) .yes (.aC (.sub (.ao 0) (.var 0)) "told" .bT)) (.var 5)) (wa (.cmp .NotEq (.call jf (wa aX)) (.var 6)))))) (sq [.ret (.bool false)]) .nil,.asg (.ao 3) (.call iH (wa (.ao 0))),.ite (.cmp .NotEq (.lc Ai (.ao 2) (.bo .And (.ae (.cmp .NotEq (.sub af (.int 0)) (.ao 1)) (wa (.cmp .NotEq (.aC (.ao 3) "get" (wa af)) (.sub (.ao 2) (.var 0)))))) (.int 1)) (.lst .bT)) (sq [.ret (.bool false)]) .nil,.ret (.cmp .Eq (.lc Ah (.ao 3) (.bo .And (.ae (.cmp .NotEq (.sub af (.int 0)) (.ao 1)) (wa (.cmp .NotIn af (.ao 2))))) (.int 1)) (.lst .bT))])
noncomputable def wD:CI:=⟨["at"],false,[false,true],[]⟩
def ng(K:Frag):Df:=dB K 1070 ["script"] [dS "script",aI "turn",aI "rows",aI "copies"] [aI "pen",aI "maps"] [("_law_pen",.ref 982),iU,jW,("dict",.type "dict"),AW,("copied_maps",.ref 92),AX,vR,("_law_turn_right",.ref 1065),mU,jx,("_law_places_right",.ref 1053)]
def Ft:Sm:=(sq [.asg (.ao 0) (.call aM (wa af)),.asg (.var 2) (.lc ⟨["turn"],false,[true,false],[("_law_row",.ref 1003)]⟩ (.call cf (wa (.bin .Add (.int 1) (.call eM (.ae (.ao 0) (wa (.int 4))))))) .yes (.call aM (wa (.ao 0)))),.asg (.ao 1) (.call iH (wa (.lc ⟨["at","row"],true,[false,false],[("_law_made",.ref 1010)]⟩ (.call jf (wa aX)) .yes (.tup (.ae af (wa (.call aM (.ae aB (wa af))))))))),.asg (.var 3) (.call kz (wa (.ao 1))),.for [(.var 1)] false (.call cf (wa (.int 10))) (sq [.ite (.cmp .Eq aB (.int 5)) (sq [.asg (.var 3) (.call kz (wa (.ao 1))),.ite (.bo .Or (.ae (.cmp .NotEq (.call jI (wa bC)) (.call jI (wa (.ao 1)))) (wa (.cmp .NotEq (.call mz (wa bC)) (.call mz (wa (.ao 1))))))) (sq [.ret (.bool false)]) .nil]) .nil,.ite (.d8 .Not (.call zu (.ae (.ao 0) (.ae (.ao 1) (.ae aX (wa bC)))))) (sq [.ret (.bool false)]) .nil]),.ret (.bo .And (.ae (.cmp .Eq (.call jI (wa (.ao 1))) (.call vg (wa (.lc wD (.call cf (wa (.call (.dA 10) (wa aX)))) .yes (.aC (.sub (.ao 1) (.var 0)) "told" .bT))))) (wa (.call (.dA 11) (.ae (.ao 0) (.ae (.ao 1) (wa aX)))))))])
def lI(K:Frag):Df:=dB K 1053 ["pen","maps","rows"] [dS "pen",dT "rows",aI "rooms",aI "number",aI "slot",aI "place",aI "begin",aI "one",aI "told_slot",aI "offset",aI "octet"] [bI "maps",aI "end",aI "spans"] [vR,jx,qx,iU,v_,jW,mP,("area_of",.ref 174),("_law_refused",.ref 1060),("Memory",.ref 274),gJ]
def Al:Sm:=(sq [.fi [(.ao 2),(.var 2)] (.tup (.ae (.lst .bT) (wa (.call aM (wa (.ao 0)))))),.for [(.var 3),(.var 4)] true (.var 2) (sq [.asg (.var 5) (.bin .Add (.bin .Add (.int 16777216) (.bin .Mult (.int 1048576) (.var 3))) (.bin .Mult dL (.bin .Add (.bin .Mult (.bin .FloorDiv (.bin .Add (.sub (.sub aB (.var 3)) (.int 2)) (.int 7)) (.int 8)) (.int 8)) (.int 8)))),.ite (.cmp .NotEq (.aC (.sub (.ao 0) (.var 3)) "place_of" (wa dL)) (.var 5)) (sq [.ret (.bool false)]) .nil,.ex (.aC (.ao 2) "append" (wa (.tup (.ae d9 (.ae (.bin .Add d9 (.call cf (wa (.sub aX (.tup (.ae bC (wa dL))))))) (.ae bC (wa dL)))))))]),.asg (.ao 2) (.call eM (wa (.ao 2))),.ite (.cmp .NotEq (.lc ⟨["at"],false,[false,false,true],[]⟩ (.call iH (wa (.bin .Sub (.call cf (wa (.ao 2))) (.int 1)))) (.cmp .GtE (.sub (.sub (.ao 2) (.var 0)) (.int 1)) (.sub (.sub (.ao 2) (.bin .Add af (.int 1))) (.int 0))) (.var 0)) (.lst .bT)) (sq [.ret (.bool false)]) .nil,.ite (.cmp .Eq (.ao 2) (.lst .bT)) (sq [.ret (.bool true)]) .nil,.fi [(.var 6),(.ao 1),(.var 3),(.var 4)] (.call jf (.ae af (wa (.ao 2)))),.asg (.var 5) (.bin .Add il (.call kz (.ae af (wa (.bin .Sub (.ao 1) (.var 6)))))),.fi [(.var 7),(.var 8),(.var 9)] (.call jI (.ae (.ao 0) (wa d9))),.ite (.bo .Or (.ae (.cmp .NotEq (.aG n4 "number") (.var 3)) (.ae (.cmp .NotEq SW (.var 4)) (.ae (.cmp .NotEq Hb (.bin .Sub d9 (.var 6))) (wa (.cmp .NotEq (.call mz (wa d9)) (.str "values"))))))) (sq [.ret (.bool false)]) .nil,.ite QQ (sq [.ret (.bool false)]) .nil,.asg (.var 10) (.call kz (.ae af (wa (.int 256)))),.ex (.aC (.call vg (wa (.ao 0))) "write" (.ae d9 (.ae (.int 1) (wa (.var 10))))),.f0 aX (.tup (.ae bC (wa dL))) (.bin .Add (.bin .Add (.je (.sub aX (.tup (.ae bC (wa dL)))) (.var 9)) (.call (.dA 10) (wa (.lst (wa (.var 10)))))) (.iG (.sub aX (.tup (.ae bC (wa dL)))) (.bin .Add Hb (.int 1)))),.ret (.cmp .Eq (.call aM (wa (.ao 0))) (.var 2))])
section
variable{G:Gd}{d:Nat}{L:HL}{Q:VP}{E:HP}
theorem No(W:PG G){fr:Addr}(ok:bv G ((lI (kG G)).fn fr))(σ:Lo):ES (cx G d) ((lI (kG G)).fn fr) σ Fp (yX 0):=by
 refine Ba (c:=1052) (pos:=t9 0) (c0:=fr+(1+0)) (c1:=fr+(1+1)) (c2:=fr+(1+2)) W.B ok W.main W.code (by x_go) ?_ rfl rfl (Fs (a:="maps") (b:="end") (ca:=fr+(1+0)) (cb:=fr+(1+1)) rfl (ok.cells _ _ (.head _)).2 (ok.cells _ _ (.tail _ (.head _))).2 rfl) LF (λZ w o h=>?_) rfl (.tail _ (.tail _ (.tail _ (.tail _ (.tail _ (.tail _ (.tail _ (.tail _ (.head _))))))))) kF
 ·show _=((ki (kG G) 1053).qualname++".<locals>.")++"<lambda>"
  rw[show(ki (kG G) 1053).qualname=("_law_places_right":Str) by x_go];rfl
 ·obtain rfl:=h Z (.refl _);exact⟨_,rfl,trivial,rfl,λc' U U=>⟨c',rfl⟩⟩
theorem Np(W:PG G){fr:Addr}(ok:bv G ((lI (kG G)).fn fr))(σ:Lo):ES (cx G d) ((lI (kG G)).fn fr) σ Fq (yX 1):=by
 refine Ba (c:=1052) (pos:=t9 1) (c0:=fr+(1+0)) (c1:=fr+(1+1)) (c2:=fr+(1+2)) W.B ok W.main W.code (by x_go) ?_ rfl rfl (Fs (a:="maps") (b:="spans") (ca:=fr+(1+0)) (cb:=fr+(1+2)) rfl (ok.cells _ _ (.head _)).2 (ok.cells _ _ (.tail _ (.tail _ (.head _)))).2 rfl) LG (λZ w o h=>?_) rfl (.tail _ (.tail _ (.tail _ (.tail _ (.tail _ (.tail _ (.tail _ (.tail _ (.head _))))))))) kF
 ·show _=((ki (kG G) 1053).qualname++".<locals>.")++"<lambda>"
  rw[show(ki (kG G) 1053).qualname=("_law_places_right":Str) by x_go];rfl
 ·obtain⟨c,rfl⟩:=h Z (.refl _);exact⟨_,rfl,trivial,rfl,λc' U U=>⟨_,rfl⟩⟩
theorem Ih{x0 x1:V}(W:PG G)(h:Wp G d An Io [x0,x1,.none] L Q E):Sp G 36 (d+1) [x0,x1] L Q E:=sd (D:=An) ["self","what"] "at" 29 .none (dx:=.none) W (by x_go) rfl (λfr ok=>fK (W.wk ok rfl) (by x_go)) (λU=>.none) rfl h
theorem LL{fr:Addr}(W:PG G)(ok:bv G ((tf (kG G)).fn fr)):SS (cx G d) ((tf (kG G)).fn fr) (Cw (cx G d)) (tf (kG G)).body:=
 have w:=W.wk ok rfl
 (cC (g_ w (by x_go)) (cC (Cm W.exc ok W.B mm (fQ w (by x_go))) lR))
theorem BL{x0 x1:V}(W:PG G)(h:Wp G d tf (Cw (cx G d)) [x0,x1] L Q E):Sp G 104 (d+1) [x0,x1] L Q E:=ip W (by x_go) (λfr ok=>LL W ok) rfl h
theorem IV{fr:Addr}(W:PG G)(ok:bv G ((sF (kG G)).fn fr)):SS (cx G d) ((sF (kG G)).fn fr) AI (sF (kG G)).body:=
 have w:=W.wk ok rfl
 (cC (mS ok W.B (names:=["number","rest"]) (fQ w (by x_go)) ⟨rfl,⟨rfl,trivial⟩⟩ rfl rfl rfl (by x_go)) (fK w (by x_go)))
theorem IH{x0 x1:V}(W:PG G)(h:Wp G d sF AI [x0,x1] L Q E):Sp G 167 (d+1) [x0,x1] L Q E:=ip W (by x_go) (λfr ok=>IV W ok) rfl h
theorem Iy{x0 x1:V}(W:PG G)(h:Wp G d AB IG [x0,x1] L Q E):Sp G 189 (d+1) [x0,x1] L Q E:=zT (D:=AB) ["self"] "maps" 182 .none W (by x_go) rfl (λfr ok=>fK (W.wk ok rfl) (by x_go)) rfl h
theorem H7{fr:Addr}(W:PG G)(ok:bv G ((sz (kG G)).fn fr)):SS (cx G d) ((sz (kG G)).fn fr) Ak (sz (kG G)).body:=
 have w:=W.wk ok rfl
 (cC (g_ w (by x_go)) (cC (mS ok W.B (names:=["low","high"]) (fQ w (by x_go)) ⟨rfl,⟨rfl,trivial⟩⟩ rfl rfl rfl (by x_go)) (fK w (by x_go))))
theorem H5{x0 x1:V}(W:PG G)(h:Wp G d sz Ak [x0,x1] L Q E):Sp G 224 (d+1) [x0,x1] L Q E:=ip W (by x_go) (λfr ok=>H7 W ok) rfl h
theorem oz{x0 x1:V}(W:PG G)(h:Wp G d Ie Ig [x0,x1] L Q E):Sp G 292 (d+1) [x0,x1] L Q E:=ot W (by x_go) rfl h
theorem AJ{x0 x1:V}(W:PG G)(h:Wp G d I_ Ja [x0,x1] L Q E):Sp G 413 (d+1) [x0,x1] L Q E:=ot W (by x_go) rfl h
theorem JT{fr:Addr}(W:PG G)(ok:bv G ((sP (kG G)).fn fr)):SS (cx G d) ((sP (kG G)).fn fr) (Be (cx G d)) (sP (kG G)).body:=
 have w:=W.wk ok rfl
 (cC (D3 W.X ok W.B (.var rfl) (cC (DZ ok W.B (.cmp (.aC (.var rfl) (.cons (.var rfl) (.cons (.var rfl) (.cons (.dA rfl) .nil (λU U=>rfl)) (λU U=>rfl)) (λU U=>rfl)) (λU U U=>rfl) rfl (by decide)) .int rfl) (cC (Cm W.exc ok W.B mm (fQ w (by x_go))) lR) lR) lR) (pair:=true) ⟨_,_,_,rfl,⟨⟨_,_,rfl,rfl,rfl⟩,⟨⟨_,_,rfl,rfl,rfl⟩,trivial⟩⟩⟩ (λU=>rfl)) lR)
theorem Jd{x0 x1:V}(W:PG G)(h:Wp G d sP (Be (cx G d)) [x0,x1] L Q E):Sp G 455 (d+1) [x0,x1] L Q E:=ip W (by x_go) (λfr ok=>JT W ok) rfl h
theorem AL{x0:V}(W:PG G)(h:Wp G d Jb Jc [x0] L Q E):Sp G 474 (d+1) [x0] L Q E:=ot W (by x_go) rfl h
theorem vT{x0:V}(W:PG G)(h:Wp G d JJ JK [x0] L Q E):Sp G 481 (d+1) [x0] L Q E:=ot W (by x_go) rfl h
theorem H8{x0 x1 x2:V}(W:PG G)(h:Wp G d oA vH [x0,x1,x2] L Q E):Sp G 538 (d+1) [x0,x1,x2] L Q E:=zT (D:=oA) ["self","key"] "processor" 531 (.int 0 912) W (by x_go) rfl (λfr ok=>fK (W.wk ok rfl) (by x_go)) rfl h
theorem H9{x0 x1:V}(W:PG G)(h:Wp G d oA vH [x0,x1,.int 0] L Q E):Sp G 538 (d+1) [x0,x1] L Q E:=sd (D:=oA) ["self","key"] "processor" 531 (.int 0 912) (dx:=.int 0) W (by x_go) rfl (λfr ok=>fK (W.wk ok rfl) (by x_go)) (λU=>.int) rfl h
theorem Am{fr:Addr}(W:PG G)(ok:bv G ((kI (kG G)).fn fr)):SS (cx G d) ((kI (kG G)).fn fr) sA (kI (kG G)).body:=
 have w:=W.wk ok rfl
 (cC (mS ok W.B (names:=["index","told"]) (fQ w (by x_go)) ⟨rfl,⟨rfl,trivial⟩⟩ rfl rfl rfl (by x_go)) (fK w (by x_go)))
theorem H_{x0 x1 x2 x3 x4:V}(W:PG G)(h:Wp G d kI sA [x0,x1,x2,x3,x4] L Q E):Sp G 546 (d+1) [x0,x1,x2,x3,x4] L Q E:=zT (D:=kI) ["self","key","octets","flags"] "processor" 539 (.int 0 923) W (by x_go) rfl (λfr ok=>Am W ok) rfl h
theorem Ia{x0 x1 x2 x3:V}(W:PG G)(h:Wp G d kI sA [x0,x1,x2,x3,.int 0] L Q E):Sp G 546 (d+1) [x0,x1,x2,x3] L Q E:=sd (D:=kI) ["self","key","octets","flags"] "processor" 539 (.int 0 923) (dx:=.int 0) W (by x_go) rfl (λfr ok=>Am W ok) (λU=>.int) rfl h
theorem Ii{x0 x1:V}(W:PG G)(h:Wp G d Ao Ip [x0,x1,.int 0] L Q E):Sp G 668 (d+1) [x0,x1] L Q E:=sd (D:=Ao) ["self","key"] "processor" 661 (.int 0 1082) (dx:=.int 0) W (by x_go) rfl (λfr ok=>fK (W.wk ok rfl) (by x_go)) (λU=>.int) rfl h
theorem Iq{fr:Addr}(W:PG G)(ok:bv G ((qk (kG G)).fn fr)):SS (cx G d) ((qk (kG G)).fn fr) Ap (qk (kG G)).body:=
 have w:=W.wk ok rfl
 (cC (mS ok W.B (names:=["told","slot"]) (fQ w (by x_go)) ⟨rfl,⟨rfl,trivial⟩⟩ rfl rfl rfl (by x_go)) (fK w (by x_go)))
theorem Ij{x0 x1 x2 x3:V}(W:PG G)(h:Wp G d qk Ap [x0,x1,x2,x3,.int 0] L Q E):Sp G 704 (d+1) [x0,x1,x2,x3] L Q E:=sd (D:=qk) ["self","key","octets","flags"] "processor" 697 (.int 0 1123) (dx:=.int 0) W (by x_go) rfl (λfr ok=>Iq W ok) (λU=>.int) rfl h
theorem Ag{x0:V}(W:PG G)(h:Wp G d H3 H4 [x0] L Q E):Sp G 909 (d+1) [x0] L Q E:=ot W (by x_go) rfl h
theorem H0{fr:Addr}(W:PG G)(ok:bv G ((sv (kG G)).fn fr)):SS (cx G d) ((sv (kG G)).fn fr) Ae (sv (kG G)).body:=
 have w:=W.wk ok rfl
 (cC (mS ok W.B (names:=["found","slot"]) (fQ w (by x_go)) ⟨rfl,⟨rfl,trivial⟩⟩ rfl rfl rfl (by x_go)) (fK w (by x_go)))
theorem HZ{x0:V}(W:PG G)(h:Wp G d sv Ae [x0] L Q E):Sp G 930 (d+1) [x0] L Q E:=ip W (by x_go) (λfr ok=>H0 W ok) rfl h
theorem Ky{fr:Addr}(W:PG G)(ok:bv G ((sX (kG G)).fn fr)):SS (cx G d) ((sX (kG G)).fn fr) BK (sX (kG G)).body:=
 have w:=W.wk ok rfl
 (cC (g_ w (by x_go)) (cC (D0 ok W.B (.Hd λF σ ok B hF=>O' (.cons (kk:=0) (kp:=⟨603,14,603,20⟩) (oX ok W.B hF .int) (.cons (kk:=0) (kp:=⟨603,25,603,32⟩) (oX ok W.B hF .int) (.cons (kk:=0) (kp:=⟨603,37,603,43⟩) (oX ok W.B hF (.bin .int (.call (.dA rfl) (.cons (.var rfl) (.cons .int .nil (λU U=>rfl)) (λU U=>rfl)) (λU U U=>rfl)))) (.cons (kk:=0) (kp:=⟨603,68,603,73⟩) (oX ok W.B hF .int) (.cons (kk:=0) (kp:=⟨603,78,603,85⟩) (oX ok W.B hF .int) (.cons (kk:=0) (kp:=⟨603,90,603,97⟩) (oX ok W.B hF .int) .nil)))))) rfl (λh=>by cases h) (Nat.le_of_ble_eq_true rfl)) ⟨rfl,rfl⟩ rfl) (fK w (by x_go))))
theorem JV{x0:V}(W:PG G)(h:Wp G d sX BK [x0] L Q E):Sp G 1003 (d+1) [x0] L Q E:=ip W (by x_go) (λfr ok=>Ky W ok) rfl h
theorem oC{x0 x1:V}(W:PG G)(h:Wp G d JO JQ [x0,x1] L Q E):Sp G 1010 (d+1) [x0,x1] L Q E:=ot W (by x_go) rfl h
theorem JW{fr:Addr}(W:PG G)(ok:bv G ((sQ (kG G)).fn fr)):SS (cx G d) ((sQ (kG G)).fn fr) Bf (sQ (kG G)).body:=
 have w:=W.wk ok rfl
 (cC (mS ok W.B (names:=["kind","key","octets"]) (fQ w (by x_go)) ⟨rfl,⟨rfl,⟨rfl,trivial⟩⟩⟩ rfl rfl rfl (by x_go)) (fK w (by x_go)))
theorem Je{x0 x1 x2:V}(W:PG G)(h:Wp G d sQ Bf [x0,x1,x2] L Q E):Sp G 1036 (d+1) [x0,x1,x2] L Q E:=ip W (by x_go) (λfr ok=>JW W ok) rfl h
theorem H2{fr:Addr}(W:PG G)(ok:bv G ((sw (kG G)).fn fr)):SS (cx G d) ((sw (kG G)).fn fr) Af (sw (kG G)).body:=
 have w:=W.wk ok rfl
 (cC (mS ok W.B (names:=["key","octets","processor"]) (fQ w (by x_go)) ⟨rfl,⟨rfl,⟨rfl,trivial⟩⟩⟩ rfl rfl rfl (by x_go)) (fK w (by x_go)))
theorem H1{x0 x1 x2:V}(W:PG G)(h:Wp G d sw Af [x0,x1,x2] L Q E):Sp G 1043 (d+1) [x0,x1,x2] L Q E:=ip W (by x_go) (λfr ok=>H2 W ok) rfl h
theorem Ir{fr:Addr}(W:PG G)(ok:bv G ((mJ (kG G)).fn fr)):SS (cx G d) ((mJ (kG G)).fn fr) (Aq (cx G d)) (mJ (kG G)).body:=
 have w:=W.wk ok rfl
 (cC (wV ok W.B (fQ w (by x_go)) rfl (fQ w (by x_go)) rfl ⟨_,_,rfl,rfl⟩ (kX W.B (by x_go)) (λU=>rfl) ⟨rfl,rfl⟩ (by x_go)) (cC (qH ok W.B (fQ w (by x_go)) ⟨⟨_,_,rfl,rfl,rfl⟩,⟨⟨_,_,rfl,rfl,rfl⟩,trivial⟩⟩ rfl (by x_go)) (cC (g_ w (by x_go)) (cC (g_ w (by x_go)) (cC (Eb W.exc W.X ok W.B mm (λU=>rfl) (fK w (by x_go)) (.tail _ (.tail _ (.tail _ (.head _)))) (.store ⟨rfl,rfl⟩ rfl)) (fK w (by x_go)))))))
theorem Ik{x0 x1 x2:V}(W:PG G)(h:Wp G d mJ (Aq (cx G d)) [x0,x1,x2] L Q E):Sp G 1048 (d+1) [x0,x1,x2] L Q E:=ip W (by x_go) (λfr ok=>Ir W ok) rfl h
theorem Ib{fr:Addr}(W:PG G)(ok:bv G ((lI (kG G)).fn fr)):SS (cx G d) ((lI (kG G)).fn fr) Al (lI (kG G)).body:=
 have w:=W.wk ok rfl;have Hy:=No (d:=d) W ok;have Uj:=Np (d:=d) W ok
 (cC (qH ok W.B (fQ w (by x_go)) ⟨⟨_,_,rfl,rfl,rfl⟩,⟨⟨_,_,rfl,rfl,rfl⟩,trivial⟩⟩ rfl (by x_go)) (cC (g_ w (by x_go)) (cC (g_ w (by x_go)) (cC (g_ w (by x_go)) (cC (g_ w (by x_go)) (cC (g_ w (by x_go)) (cC (g_ w (by x_go)) (cC (g_ w (by x_go)) (cC (g_ w (by x_go)) (cC (Nn (λσ=>E9 (wU (xk (Hy σ)) (wU (xk (Uj σ)) DY (.inl ⟨rfl,rfl⟩) (λU U=>rfl)) (.inr ⟨_,_,_,_,rfl,rfl⟩) (λU U=>rfl))) (fK w (by x_go)) lR) (cC (g_ w (by x_go)) (cC (xR ok W.B (.aC (.call (.dA rfl) (.cons (.ao rfl) .nil (λU U=>rfl)) (λU U U=>rfl)) (.cons (.var rfl) (.cons .int (.cons (.var rfl) .nil (λU U=>rfl)) (λU U=>rfl)) (λU U=>rfl)) (λU U U=>rfl) rfl (by decide)) (wC ok) rfl) (fK w (by x_go))))))))))))))
theorem H6{x0 x1 x2:V}(W:PG G)(h:Wp G d lI Al [x0,x1,x2] L Q E):Sp G 1053 (d+1) [x0,x1,x2] L Q E:=ip W (by x_go) (λfr ok=>Ib W ok) rfl h
theorem II{fr:Addr}(W:PG G)(ok:bv G ((sD (kG G)).fn fr)):SS (cx G d) ((sD (kG G)).fn fr) (AC (cx G d)) (sD (kG G)).body:=
 have w:=W.wk ok rfl
 (cC (Eb W.exc W.X ok W.B mm (λU=>rfl) (cC (xR ok W.B (.Hd λF σ ok B hF=>Pd ok (Pe hF rfl)) (wC ok) rfl) lR) (.head _) .ret) (fK w (by x_go)))
theorem Iz{x0:V}(W:PG G)(h:Wp G d sD (AC (cx G d)) [x0] L Q E):Sp G 1060 (d+1) [x0] L Q E:=ip W (by x_go) (λfr ok=>II W ok) rfl h
theorem It{fr:Addr}(W:PG G)(ok:bv G ((jV (kG G)).fn fr)):SS (cx G d) ((jV (kG G)).fn fr) Ar (jV (kG G)).body:=
 have w:=W.wk ok rfl
 (cC (qH ok W.B (fQ w (by x_go)) ⟨⟨_,_,rfl,rfl,rfl⟩,⟨⟨_,_,rfl,rfl,rfl⟩,trivial⟩⟩ rfl (by x_go)) (cC (wV ok W.B (fQ w (by x_go)) (fQ w (by x_go)) (fQ w (by x_go)) rfl ⟨_,_,rfl,rfl⟩ (kX W.B (by x_go)) (λU=>rfl) ⟨rfl,rfl⟩ (by x_go)) (cC (qH ok W.B (fQ w (by x_go)) ⟨⟨_,_,rfl,rfl,rfl⟩,⟨⟨_,_,rfl,rfl,rfl⟩,⟨⟨_,_,rfl,rfl,rfl⟩,trivial⟩⟩⟩ rfl (by x_go)) (fK w (by x_go)))))
theorem Il{x0 x1 x2 x3:V}(W:PG G)(h:Wp G d jV Ar [x0,x1,x2,x3] L Q E):Sp G 1065 (d+1) [x0,x1,x2,x3] L Q E:=ip W (by x_go) (λfr ok=>It W ok) rfl h
theorem QR{fr:Addr}(W:PG G)(ok:bv G ((ng (kG G)).fn fr)):SS (cx G d) ((ng (kG G)).fn fr) Ft (ng (kG G)).body:=
 have w:=W.wk ok rfl
 (cC (g_ w (by x_go)) (cC (wV ok W.B (fQ w (by x_go)) rfl (fQ w (by x_go)) rfl ⟨_,_,rfl,rfl⟩ (kX W.B (by x_go)) (λU=>rfl) ⟨rfl,rfl⟩ (by x_go)) (fK w (by x_go))))
theorem Pj{x0:V}(W:PG G)(h:Wp G d ng Ft [x0] L Q E):Sp G 1070 (d+1) [x0] L Q E:=ip W (by x_go) (λfr ok=>QR W ok) rfl h
end
def bQ(L L':HL):Prop:=∀l,cR L l->∃l' r,cR L' l'/\l.Perm (l'++r)
theorem bQ.refl(L:HL):bQ L L:=λl h=>(co l ([]) h (by rw[append_nil]))
variable{L':HL}
theorem bQ.trans(h:bQ L L')(h':bQ L' Uk):bQ L Uk:=λl e=>by
 lk
 refine dn (h l e) λl1 r1 e1 p1=>?_;refine dn (h' l1 e1) λl2 r2 e2 p2=>?_;exact(co l2 (r2++r1) e2 (p1.trans (by rw[←append_assoc];exact p2.append_right r1)))
theorem bQ.perm{L:HL}(p:L.Perm L'):bQ L L':=λl e=>by refine ai (e.perm p) λl' e' q=>?_;exact(co l' ([]) e' (by rw[append_nil];exact q))
theorem bQ.sub(p:L'.Sublist L):bQ L L':=by
 induction p with
 |slnil=>exact .refl _
 |cons a _ ih=>
  intro l e
  cases e with|@cons _ _ _ L1 L2 x r=>
  refine dn (ih _ r) λl' r' e' q=>?_;exact(co l' (r'++L1) e' ((List.Perm.append_left L1 q).trans (by rw[←append_assoc l' r' L1];exact perm_append_comm)))
 |cons_cons a _ ih=>
  intro l e
  cases e with|cons x r=>
  refine dn (ih _ r) λl' r' e' q=>?_;exact(co _ r' (.cons x e') (by rw[append_assoc];exact List.Perm.append_left _ q))
theorem au.ent{G A Z L L' H s:_}(h:bQ L L')(S:au G A Z L H s):au G A Z L' H s:=by
 lk
 refine ai S λl e S=>?_;refine dn (h l e) λl' r e' q=>?_;refine(ah l' e' ?_);exact(S.perm (q.append_right H)).sub (by rw[append_assoc];exact List.Sublist.append_left (sublist_append_right ..) _)
theorem bQ.exc{p:_}(h:bQ L L'):bQ (p::L) (p::L'):=λl e=>by
 lk
 cases e with|cons x r=>
 refine dn (h _ r) λl' r' e' q=>?_;exact(co _ r' (.cons x e') (by rw[append_assoc];exact List.Perm.append_left _ q))
theorem Sp.ent{G f d xs L L0 Q E:_}(h0:bQ L L0)(h:Sp G f d xs L0 (λv M=>∃M',bQ M M'/\Q v M') (λM=>∃M',bQ M M'/\E M')):Sp G f d xs L Q E:=⟨λA Z H vs s hR hv S=>by
 refine j4 (h.run A Z H vs s hR hv (S.ent h0)) λr s' hr=>?_
 cases r with
 |ok fl=>
  cases fl with
  |ret v=>cases hr with|mk Z' M x a b c d=>obtain⟨M',e,q⟩:=d;exact⟨Z',M',x,a,b.ent e,c,q⟩
  |_=>exact hr
 |error _=>cases hr with|mk Z' M x a b c d=>obtain⟨M',e,q⟩:=d;exact⟨Z',M',x,a,b,c.ent e.exc,q⟩⟩
theorem no{b:Bool}{P:Prop}(h:b=true)(e:b=false:=by rfl):P:=by rw[e] at h;cases h
theorem Ul{b:Bool}{P:Prop}(h:b=false)(e:b=true:=by rfl):P:=by rw[e] at h;cases h
theorem iT{b:Bool}{P R:Prop}(k:P)(e:b=true:=by rfl):(b=true->P)/\(b=false->R):=⟨λU=>k,λh=>Ul h e⟩
theorem iF{b:Bool}{P R:Prop}(k:R)(e:b=false:=by rfl):(b=true->P)/\(b=false->R):=⟨λh=>no h e,λU=>k⟩
variable{α:Type}{C:Cx}{Q:VP}{i:Nat}{xs:List V}{T0:Type}
section
variable{ci:CI}{cond dy:List (Option V)->W1}{it:V}{L L0:HL}{Ok:HP}
def zU(ys:List α)(f:α->V)(L0:HL)(i:Nat)(acc:List V)(M:HL):Prop:=M=L0/\acc=(ys.take i).map f
theorem kD{ys:List α}{g:α->V}(f:α->V)(R:List V)(hR:ys.map f=R)(g8:bx ci.pair C it L (ys.map g) L0 Ok)(eB:∀i y,ys[i]?=some y->Ok L0/\match j5 ci.pair (g y) with
  |some l'=>cond l' L0 (qG (zU ys f L0) i ((ys.take i).map f) (dy l')) λU=>False
  |none=>False)(fin:Ok L0/\∀a,Q (.ref a) ((a,.list R)::L0)):pT C Q ci cond dy it L:=⟨_,L0,Ok,g8,zU ys f L0,⟨rfl,rfl⟩,λi acc M x hx hI=>by
 refine ai (Option.map_eq_some_iff.mp (List.getElem?_map.symm.trans hx)) λy hy e=>?_;refine Ra hI.1 hI.2 e.symm ?_;exact eB i y hy,λacc M hI=>by
 refine k4 hI.1 (show acc=R by refine hI.2.trans (Eq.trans ?_ hR);rw[length_map,take_length]) ?_;exact fin⟩
theorem kE{ys:List α}{f:α->V}{y:α}{v:V}(hy:ys[i]?=some y)(hl:ys.length<=1000)(e:v=f y:=by rfl):xO (zU ys f L0) i ((ys.take i).map f) v L0:=by
 have h:=(gS hy).1;refine(bj ?_ rfl ?_)
 ·rw[length_map,length_take,Nat.min_eq_left (Nat.le_of_lt h)];exact Nat.lt_of_lt_of_le h hl
 ·rw[take_add_one,hy,map_append,e];rfl
def pS(B:Nat->List V)(L0:HL)(i:Nat)(acc:List V)(M:HL):Prop:=M=L0/\acc=B i
theorem se(g8:bx ci.pair C it L xs L0 Ok)(B:Nat->List V)(b0:[]=B 0)(eB:∀i x,xs[i]?=some x->Ok L0/\match j5 ci.pair x with
  |some l'=>cond l' L0 (qG (pS B L0) i (B i) (dy l')) λU=>False
  |none=>False)(fin:Ok L0/\∀a,Q (.ref a) ((a,.list (B xs.length))::L0)):pT C Q ci cond dy it L:=⟨_,L0,Ok,g8,pS B L0,⟨rfl,b0⟩,λi acc M x hx hI=>by
 refine k4 hI.1 hI.2 ?_;exact eB i x hx,λacc M hI=>by
 refine k4 hI.1 hI.2 ?_;exact fin⟩
theorem UX{B:Nat->List V}{v:V}(hl:(B i).length<1000)(e:B i++[v]=B (i+1)):xO (pS B L0) i (B i) v L0:=⟨hl,rfl,e⟩
theorem UY{B:Nat->List V}(e:B i=B (i+1)):pS B L0 (i+1) (B i) L0:=⟨rfl,e⟩
def Hz(L0:HL)(i:Nat)(acc:List V)(M:HL):Prop:=M=L0/\acc=[]
theorem zV(g8:bx ci.pair C it L xs L0 Ok)(eB:∀i x,xs[i]?=some x->Ok L0/\match j5 ci.pair x with
  |some l'=>cond l' L0 (qG (Hz L0) i [] (dy l')) λU=>False
  |none=>False)(fin:Ok L0/\∀a,Q (.ref a) ((a,.list [])::L0)):pT C Q ci cond dy it L:=⟨_,L0,Ok,g8,Hz L0,⟨rfl,rfl⟩,λi acc M x hx hI=>by
 refine k4 hI.1 hI.2 ?_;exact eB i x hx,λacc M hI=>by
 refine k4 hI.1 hI.2 ?_;exact fin⟩
section
def HB(Pr:Nat->T0->Prop)(Lg:Nat->T0->HL)(Ac:Nat->T0->List V)(i:Nat)(acc:List V)(M:HL):Prop:=∃t0,Pr i t0/\M=Lg i t0/\acc=Ac i t0
theorem pB(g8:bx ci.pair C it L xs L0 Ok)(Pr:Nat->T0->Prop)(Lg:Nat->T0->HL)(Ac:Nat->T0->List V)(a0:T0)(p0:Pr 0 a0)(h0:L0=Lg 0 a0)(h1:[]=Ac 0 a0)
  (eB:∀i t0 x,xs[i]?=some x->Pr i t0->Ok (Lg i t0)/\match j5 ci.pair x with
   |some l'=>cond l' (Lg i t0) (qG (HB Pr Lg Ac) i (Ac i t0) (dy l')) λU=>False
   |none=>False)(fin:∀t0,Pr xs.length t0->Ok (Lg xs.length t0)/\∀a,Q (.ref a) ((a,.list (Ac xs.length t0))::Lg xs.length t0)):pT C Q ci cond dy it L:=⟨_,L0,Ok,g8,HB Pr Lg Ac,⟨a0,p0,h0,h1⟩,λi acc M x hx hI=>by
 refine dD hI λt0 p h1 h2=>?_;refine k4 h1 h2 ?_;exact eB i t0 x hx p,λacc M hI=>by
 refine dD hI λt0 p h1 h2=>?_;refine k4 h1 h2 ?_;exact fin t0 p⟩
variable{Q2:Fl->Lo->HP}{E2:Lo->HP}{σ:Lo}{pair:Bool}{ts:List Tg}{body:Lo->HL->(Fl->Lo->HP)->(Lo->HP)->Prop}
def vC(Pr:Nat->T0->Prop)(Lg:Nat->T0->HL)(Sg:Nat->T0->Lo)(i:Nat)(σ:Lo)(M:HL):Prop:=∃t0,Pr i t0/\M=Lg i t0/\σ=Sg i t0
theorem pC(g8:bx pair C it L xs L0 Ok)(Pr:Nat->T0->Prop)(Lg:Nat->T0->HL)(Sg:Nat->T0->Lo)(a0:T0)(p0:Pr 0 a0)(h0:L0=Lg 0 a0)(h1:σ=Sg 0 a0)
  (eB:∀i t0 x,xs[i]?=some x->Pr i t0->Ok (Lg i t0)/\match nc pair ts x (Sg i t0) with
   |some σ'=>body σ' (Lg i t0) (qU Q2 (vC Pr Lg Sg (i+1))) E2
   |none=>False)(fin:∀t0,Pr xs.length t0->Ok (Lg xs.length t0)/\Q2 .next (Sg xs.length t0) (Lg xs.length t0)):rp C Q2 E2 σ pair ts body it L:=⟨xs,L0,Ok,g8,vC Pr Lg Sg,⟨a0,p0,h0,h1⟩,λi σ M x hx hI=>by
 refine dD hI λt0 p h1 h2=>?_;refine k4 h1 h2 ?_;exact eB i t0 x hx p,λσ M hI=>by
 refine dD hI λt0 p h1 h2=>?_;refine k4 h1 h2 ?_;exact fin t0 p⟩
theorem rz{T1:Type}(g8:bx pair C it L xs L0 Ok)(Pr:Nat->T0->T1->Prop)(Lg:Nat->T0->T1->HL)(Sg:Nat->T0->T1->Lo)(a0:T0)(a1:T1)(p0:Pr 0 a0 a1)(h0:L0=Lg 0 a0 a1)(h1:σ=Sg 0 a0 a1)
  (eB:∀i t0 t1 x,xs[i]?=some x->Pr i t0 t1->Ok (Lg i t0 t1)/\match nc pair ts x (Sg i t0 t1) with
   |some σ'=>body σ' (Lg i t0 t1) (qU Q2 (vC (λi(t:T0×T1)=>Pr i t.1 t.2) (λi(t:T0×T1)=>Lg i t.1 t.2) (λi(t:T0×T1)=>Sg i t.1 t.2) (i+1))) E2
   |none=>False)(fin:∀t0 t1,Pr xs.length t0 t1->Ok (Lg xs.length t0 t1)/\Q2 .next (Sg xs.length t0 t1) (Lg xs.length t0 t1)):rp C Q2 E2 σ pair ts body it L:=
 pC g8 _ _ _ (a0,a1) p0 h0 h1 (λi t=>eB i t.1 t.2) λt=>fin t.1 t.2
theorem pD{T1 T2:Type}(g8:bx pair C it L xs L0 Ok)(Pr:Nat->T0->T1->T2->Prop)(Lg:Nat->T0->T1->T2->HL)(Sg:Nat->T0->T1->T2->Lo)(a0:T0)(a1:T1)(a2:T2)(p0:Pr 0 a0 a1 a2)(h0:L0=Lg 0 a0 a1 a2)(h1:σ=Sg 0 a0 a1 a2)
  (eB:∀i t0 t1 t2 x,xs[i]?=some x->Pr i t0 t1 t2->Ok (Lg i t0 t1 t2)/\match nc pair ts x (Sg i t0 t1 t2) with
   |some σ'=>body σ' (Lg i t0 t1 t2) (qU Q2 (vC (λi(t:T0×T1×T2)=>Pr i t.1 t.2.1 t.2.2) (λi(t:T0×T1×T2)=>Lg i t.1 t.2.1 t.2.2) (λi(t:T0×T1×T2)=>Sg i t.1 t.2.1 t.2.2) (i+1))) E2
   |none=>False)(fin:∀t0 t1 t2,Pr xs.length t0 t1 t2->Ok (Lg xs.length t0 t1 t2)/\Q2 .next (Sg xs.length t0 t1 t2) (Lg xs.length t0 t1 t2)):rp C Q2 E2 σ pair ts body it L:=
 pC g8 _ _ _ (a0,a1,a2) p0 h0 h1 (λi t=>eB i t.1 t.2.1 t.2.2) λt=>fin t.1 t.2.1 t.2.2
end
theorem bx.rA{pr:Bool}{hi:Int}(h:hi<1000000000000)(h':-1000000000000<hi):bx pr C (.eL 0 hi) L ((List.range hi.toNat).map λi=>V.int (i:Nat)) L λU=>True:=by have:=bx.eL (C:=C) (L:=L) (pr:=pr) h h';simp only[Int.sub_zero,zero_add] at this;exact this
theorem yZ{n:Int}{y:Nat}(h:(List.range n.toNat)[i]?=some y):(y:Int)<n:=by have:=List.mem_range.mp (mem_of_getElem? h);exact aa ⟨1,1,[.tn .v0 (.t .v0)],.iC 0 0⟩ this
end
theorem Ei{b:Int}(h:b.natAbs<18446744073709551616):Builtin.Int.intBits b<=64:=by
 unfold Builtin.Int.intBits
 split
 ·decide
 ·rename_i hb
  have:b.natAbs.log2<64:=(Nat.log2_lt (show b.natAbs≠0 by intro e;exact hb (by simpa using e))).mpr (aa ⟨0,1,[.tn (.b .v0) (.k 18446744073709551616)],.tn (.b .v0) (.k 18446744073709551616)⟩ h);exact aa ⟨1,0,[.aJ 0 64],.ln (.aj 0 1) (.k 64)⟩ this
theorem kj{a b:Int}(h:b.natAbs<18446744073709551616):IntMulOk a b:=.of_right (Ei h)
theorem mulL{a b:Int}(h:a.natAbs<18446744073709551616):IntMulOk a b:=.of_left (Ei h)
theorem pY{a b:Int}(h:b.natAbs<1073741824):Builtin.divisionGoesByPylong a b=false:=PyProof.noPylong_small h
variable{n:Nat}
theorem d6{l:List α}(h:ble l.length n=true):l.length<=n:=Nat.le_of_ble_eq_true h
variable{G:Gd}{E:HP}{w cK:Int}
section
variable{d:Nat}{L:HL}
noncomputable def cX (w:Int):Int:=Int.fdiv (w+7) 8*8+8
theorem sH(W:PG G)(q:Q (.int (cX w)) L):Sp G 153 (d+1) [.int w] L Q E:=gO 153 ["width"] [dS "width"] [] [] (sq [.ret (.bin .Add (.bin .Mult (.bin .FloorDiv (.bin .Add af (.int 7)) (.int 8)) (.int 8)) (.int 8))]) W (l7 (by decide) (pY (by decide)) (kj (by decide)) q)
def bD(number slot w:Int):Int:=16777216+1048576*number+slot*cX w
theorem AM(h0:0<=w)(h1:w<1000):8<=cX w/\cX w<2000:=by unfold cX;rw[fdiv_eq_ediv_of_nonneg _ (by decide)];exact aa ⟨0,3,[.ak 0 0,.bh 0 1000,.an (.ak 0 1) (.an (.bh 1 8) (.ez (.a (.m 8 .v2) .v1) (.aj 0 7)))],.an (.lz (.k 8) (.a (.w .v2 8) (.k 8))) (.tz (.a (.w .v2 8) (.k 8)) (.k 2000))⟩ h0 h1 (pM (by decide))
theorem AD(W:PG G){number slot:Int}(h0:0<=w)(h1:w<1000)(q:Q (.int (bD number slot w)) L):Sp G 160 (d+2) [.int number,.int slot,.int w] L Q E:=by exact gO 160 ["number","slot","width"] [dS "number",bI "slot",dT "width"] [] [qy,sO,vP] (sq [.ret (.bin .Add (.bin .Add aM (.bin .Mult cf (.var 0))) (.bin .Mult aB (.call eM (wa aX))))]) W (bj (mulL (by decide)) kF (sH W ⟨kj (aa ⟨0,1,[.an (.ak 8 0) (.bh 0 2000)],.tn (.b .v0) (.k 18446744073709551616)⟩ (AM h0 h1)),q⟩))
noncomputable def kY (cK:Int):Int:=Int.fdiv (cK-16777216) 1048576
def ix(cK w:Int):Int:=Int.fdiv (fmod (cK-16777216) 1048576) (cX w)
def q7(cK w:Int):Int:=fmod (fmod (cK-16777216) 1048576) (cX w)
theorem AN(W:PG G)(h0:0<=w)(h1:w<1000)(q:Q (.tup [.int (kY cK),.int (ix cK w),.int (q7 cK w)]) L):Sp G 167 (d+2) [.int cK,.int w] L Q E:=by have hs:=AM h0 h1;exact IH W ⟨by decide,pY (by decide),by decide,kF,sH W (l7 (aa FP hs) (pY (aa ⟨0,1,[.an (.ak 8 0) (.bh 0 2000)],.tn (.b .v0) (.k 1073741824)⟩ hs)) kF (sH W ⟨aa FP hs,q⟩))⟩
theorem Kz(W:PG G)(h0:16777216<=cK)(h1:cK<1879048192)(q:∀a,Q (.str "values") ((a,.list [.tup [.str "none",.int 0],.tup [.str "context",.int 65536],.tup [.str "packet",.int 131072],.tup [.str "stack",.int 262144],.tup [.str "room",.int 524288],.tup [.str "values",.int 16777216]])::L)):Sp G 174 (d+1) [.int cK] L Q E:=by
 refine gO 174 ["place"] [dS "place",aI "bounds",aI "found",aI "name",aI "base"] [] [Cq,("CONTEXT",.int 65536),("PACKET",.int 131072),("STACK",.int 262144),("ROOM",.int 524288),qy] (sq [.ite (.cmp .GtE af aM) (sq [.ret (.str "beyond")]) .nil,.asg (.var 1) (.lst (.ae (.tup (.ae (.str "none") (wa (.int 0)))) (.ae (.tup (.ae (.str "context") (wa cf))) (.ae (.tup (.ae (.str "packet") (wa eM))) (.ae (.tup (.ae (.str "stack") (wa iH))) (.ae (.tup (.ae (.str "room") (wa jf))) (wa (.tup (.ae (.str "values") (wa kz)))))))))),.asg (.var 2) (.str "none"),.for [(.var 3),(.var 4)] true (.var 1) (sq [.ite (.cmp .GtE af (.var 4)) (sq [.asg (.var 2) (.var 3)]) .nil]),.ret aX]) W ⟨λhz=>?_,λU=>?_⟩
 ·have:=of_decide_eq_true hz;exact(aa ⟨0,1,[.bh 0 1879048192,.ak 1879048192 0],.ff⟩ h1 this).elim
 ·refine λa=>?_;refine⟨_,_,_,bx.list .head,λi σ M=>M=((a,.list [.tup [.str "none",.int 0],.tup [.str "context",.int 65536],.tup [.str "packet",.int 131072],.tup [.str "stack",.int 262144],.tup [.str "room",.int 524288],.tup [.str "values",.int 16777216]])::L)/\∃f u v,σ=⟨[some (.int cK),some (.ref a),some (.str f),u,v],[]⟩/\(i=6->f="values"),(iV rfl _ _ _ rfl (by decide)),?_,?_⟩
  ·rintro i σ M x hx ⟨rfl,f,u,v,rfl,hf⟩
   refine⟨.head,?_⟩
   match i,hx with
   |0,hx=>cases hx;exact⟨λU=>(iV rfl _ _ _ rfl (λh=>absurd h (by decide))),λU=>(iV rfl _ _ _ rfl (λh=>absurd h (by decide)))⟩
   |1,hx=>cases hx;exact⟨λU=>(iV rfl _ _ _ rfl (λh=>absurd h (by decide))),λU=>(iV rfl _ _ _ rfl (λh=>absurd h (by decide)))⟩
   |2,hx=>cases hx;exact⟨λU=>(iV rfl _ _ _ rfl (λh=>absurd h (by decide))),λU=>(iV rfl _ _ _ rfl (λh=>absurd h (by decide)))⟩
   |3,hx=>cases hx;exact⟨λU=>(iV rfl _ _ _ rfl (λh=>absurd h (by decide))),λU=>(iV rfl _ _ _ rfl (λh=>absurd h (by decide)))⟩
   |4,hx=>cases hx;exact⟨λU=>(iV rfl _ _ _ rfl (λh=>absurd h (by decide))),λU=>(iV rfl _ _ _ rfl (λh=>absurd h (by decide)))⟩
   |5,hx=>
    cases hx
    refine⟨λU=>(iV rfl _ _ _ rfl (λU=>rfl)),λhz=>?_⟩;have:=of_decide_eq_false hz;exact(aa ⟨0,1,[.ak 16777216 0,.no (.ak 16777216 0)],.ff⟩ h0 this).elim
   |n+6,hx=>cases hx
  ·rintro σ M ⟨rfl,f,u,v,rfl,hf⟩
   refine av (hf rfl) ?_;exact⟨.head,q a⟩
end
variable{kw most:Int}
section
variable{d:Nat}{L:HL}
def gM(k:Str)(kw:Int):Prop:=(k="rows"/\kw=4)\/(k="array"/\kw=4)\/(k="hash"/\1<=kw/\kw<=2)\/(k="lru"/\kw=2)\/(k="queue"/\kw=0)\/(k="stack"/\kw=0)
theorem Im(W:PG G)(hk:gM k kw)(q:Q .none L):Sp G 292 (d+1) [.str k,.int kw] L Q E:=by
 lk
 rcases hk with⟨rfl,rfl⟩|⟨rfl,rfl⟩|⟨rfl,h1,h2⟩|⟨rfl,rfl⟩|⟨rfl,rfl⟩|⟨rfl,rfl⟩
 ·exact oz W (aV.fP (r:=false) rfl (iF (iF (aV.fP (r:=true) rfl (iT (iF q))))))
 ·exact oz W (aV.fP (r:=false) rfl (iF (iF (aV.fP (r:=true) rfl (iT (iF q))))))
 ·refine oz W (aV.fP (r:=false) rfl (iF (iF (aV.fP (r:=false) rfl (iF ⟨λz=>⟨λh=>?_,λU=>q⟩,λz=>?_⟩)))))
  ·rw[show decide (kw<=512)=true from decide_eq_true (aa ⟨0,1,[.aL 0 2],.aL 0 512⟩ h2)] at h;cases h
  ·have:=of_decide_eq_false z;exact(aa ⟨0,1,[.ak 1 0,.no (.ak 1 0)],.ff⟩ h1 this).elim
 ·exact oz W (aV.fP (r:=false) rfl (iF (iF (aV.fP (r:=false) rfl (iF (iT (iF q)))))))
 ·exact oz W (aV.fP (r:=true) rfl (iT (iF q)))
 ·exact oz W (aV.fP (r:=true) rfl (iT (iF q)))
theorem gM.le(h:gM k kw):0<=kw/\kw<=4:=by rcases h with h|h|h|h|h|h<;>exact⟨by have:=h.2;omega,by have:=h.2;omega⟩
theorem gM.mem(h:gM k kw):kg k ((oW "array hash lru rows queue stack trie ring" " ").map V.str)=some true:=by
 lk
 rcases h with⟨rfl,_⟩|⟨rfl,_⟩|⟨rfl,_⟩|⟨rfl,_⟩|⟨rfl,_⟩|⟨rfl,_⟩<;>x_go
theorem gM.ring(h:gM k kw):(k==("ring":Str))=false:=by rcases h with⟨rfl,_⟩|⟨rfl,_⟩|⟨rfl,_⟩|⟨rfl,_⟩|⟨rfl,_⟩|⟨rfl,_⟩<;>rfl
theorem split_len:(oW "array hash lru rows queue stack trie ring" " ").length<1000000:=by
 have:(oW "array hash lru rows queue stack trie ring" " ").length=8:=by x_go
 exact aa ⟨1,0,[.d7 0 8],.aJ 0 1000000⟩ this
theorem IA(W:PG G)(hk:gM k kw)(w0:1<=w)(w1:w<=16)(m0:1<=most)(m1:most<=3)(q:Q .none L):Sp G 299 (d+2) [.str k,.int kw,.int w,.int most] L Q E:=by
 have hs:8<=cX w/\cX w<=24:=by unfold cX;rw[fdiv_eq_ediv_of_nonneg _ (by decide)];exact aa ⟨0,1,[.ak 1 0,.bh 0 3],.an (.lz (.k 8) (.a (.w .v0 8) (.k 8))) (.lz (.a (.w .v0 8) (.k 8)) (.k 24))⟩ (Int.le_ediv_of_mul_le (by decide) (aa FQ w0):1<=(w+7)/8) (Int.ediv_lt_of_lt_mul (by decide) (aa FR w1):(w+7)/8<3)
 have hp:cX w*(most+1)<=24*4:=mul_le_mul hs.2 (aa ⟨0,1,[.aL 0 3],.lz (.aj 0 1) (.k 4)⟩ m1) (aa uy m0) (by decide);have sg:0<=cX w*(most+1):=mul_nonneg (aa ⟨0,1,[.an (.ak 8 0) (.aL 0 24)],.ak 0 0⟩ hs) (aa uy m0);refine Sp.ent (.refl _) (gO 299 ["kind","key_width","value_width","most"] [dS "kind",bI "key_width",dT "value_width",jl "most"] [] [("KINDS",.str "array hash lru rows queue stack trie ring"),jm,("check_key_width",.ref 292),("is_power",.ref 285),sO,vP,sE] (sq [.ite (.cmp .NotIn af (.aC aM "split" (wa (.str " ")))) (sq [.no]) .nil,.ex (.call eM (.ae af (wa aB))),.ite (.cmp .Eq af (.str "ring")) (sq [.ite (.cmp .NotEq aX (.int 0)) (sq [.no]) .nil,.ite (.bo .Or (.ae (.d8 .Not (.call iH (wa bC))) (wa (.d8 .Not (.ik .LtE .LtE (.int 8) (.var 3) jf))))) (sq [.no]) .nil,.ph]) .nil,.ite (.cmp .Lt aX (.int 1)) (sq [.no]) .nil,.ite (.bo .Or (.ae (.cmp .Lt bC (.int 1)) (wa (.cmp .Gt (.bin .Mult (.bin .Mult (.call kz (wa aX)) (.bin .Add bC (.int 1))) (.fy (.cmp .Eq af (.str "rows")) jI (.int 1))) jf)))) (sq [.no]) .nil]) W (ax.split (br.split (by x_go) (by x_go) (by x_go) (by decide) split_len λa=>aV.M7 (r:=true) .head hk.mem (iF ⟨kF,Im W hk ⟨λh=>?_,λU=>⟨λh=>?_,λU=>⟨λh=>⟨kF,sH W ⟨mulL (aa ⟨0,1,[.an (.ak 8 0) (.aL 0 24)],.tn (.b .v0) (.k 18446744073709551616)⟩ hs),⟨λU=>⟨kj (by decide),?_⟩,λU=>⟨kj (by decide),?_⟩⟩⟩⟩,λh=>?_⟩⟩⟩⟩))))
 ·rw[hk.ring] at h;cases h
 ·have:=of_decide_eq_true h;exact(aa FS w0 this).elim
 ·refine⟨λh=>?_,λU=>(ah L (.sub (.cons _ (.refl _))) q)⟩;have:=of_decide_eq_true h;exact(aa ⟨0,1,[.lz .v0 (.m 24 (.k 4)),.tz (.k 1048576) (.w .v0 4)],.ff⟩ hp this).elim
 ·refine⟨λh=>?_,λU=>(ah L (.sub (.cons _ (.refl _))) q)⟩;have:=of_decide_eq_true h;exact(aa ⟨0,1,[.lz .v0 (.m 24 (.k 4)),.tz (.k 1048576) (.w .v0 1)],.ff⟩ hp this).elim
 ·have:decide (most<1)=true:=h;have:=of_decide_eq_true this;exact(aa FS m0 this).elim
theorem Av(W:PG G){there:Bool}(q:Q (.int 0) L):Sp G 495 (d+1) [.int 0,.bool there] L Q E:=gO 495 ["flags","is_there"] [dS "flags",bI "is_there"] [] [x6,BG,AV,qz,Ct,Cu] (sq [.ite (.cmp .NotIn af (.tup (.ae aM (.ae cf (wa eM))))) (sq [.ret (.bin .Sub (.int 0) iH)]) .nil,.ite (.bo .And (.ae (.cmp .Eq af cf) (wa aB))) (sq [.ret (.bin .Sub (.int 0) jf)]) .nil,.ite (.bo .And (.ae (.cmp .Eq af eM) (wa (.d8 .Not aB)))) (sq [.ret (.bin .Sub (.int 0) kz)]) .nil,.ret (.int 0)]) W (aV.Dc (r:=true) rfl (iF (iF (iF (iF (iF q))))))
end
theorem w5(x:Int){y:Int}(hy:0<=y):0<=Builtin.bitAnd x y/\Builtin.bitAnd x y<=y:=by
 unfold Builtin.bitAnd;rw[decide_eq_true hy];by_cases hx:0<=x
 ·rw[decide_eq_true hx];have:=Nat.and_le_right (n:=x.toNat) (m:=y.toNat);exact aa ⟨1,1,[.ak 0 0,.ln .v0 (.t .v0)],.an (.pI 0 0) (.f6 0 0)⟩ hy this
 ·rw[decide_eq_false hx];have:=Nat.and_le_left (n:=y.toNat) (m:=(Builtin.bitNot x).toNat);exact aa ⟨1,1,[.ak 0 0,.ln .v0 (.t .v0)],.an (.lz (.k 0) (.s .v0 .c0)) (.lz (.s .v0 .c0) .v0)⟩ hy this
theorem i6{n:Int}(h:((List.range (n-0).toNat).map λi=>V.int (0+(i:Nat)))[i]?=some x):x=.int i/\(i:Int)<n:=by rw[getElem?_map] at h;refine ai (Option.map_eq_some_iff.mp h) λj hj aw=>?_;refine av (Eq.symm aw) ?_;obtain⟨h1,h2⟩:=gS hj;rw[List.getElem_range] at h2;rw[length_range] at h1;refine av (Eq.symm h2) ?_;exact⟨by rw[zero_add],aa ⟨1,1,[.tn .v0 (.t (.dK 0 0))],.iC 0 0⟩ h1⟩
theorem gq{n:Int}:((List.range (n-0).toNat).map λi=>V.int (0+(i:Nat))).length=n.toNat:=by simp
section
variable{d:Nat}{L:HL}
noncomputable def pZ (w:Int) (i:Nat):Int:=Builtin.bitAnd (Int.fdiv w (2^(8*(i:Int)).toNat)) 255
def ou(w:Int)(n:Nat):By:=gy ((List.range n).map (pZ w))
theorem Cy(W:PG G){n:Int}(h0:0<=n)(h1:n<900)(q:Q (.bytes (ou w n.toNat)) L):Sp G 78 (d+1) [.int w,.int n] L Q E:=by
 refine Sp.ent (.refl _) (gO 78 ["worth","width"] [bI "width"] [dS "worth"] [gJ,iU] (sq [.ret (.call aM (wa (.lc ⟨["at"],false,[true],[]⟩ (.call cf (wa af)) .yes (.bin .BitAnd (.bin .RShift (.ao 0) (.bin .Mult (.int 8) (.var 0))) (.int 255)))))]) W ((bd.range (kD (λj=>.int (pZ w j)) (((List.range n.toNat).map (pZ w)).map V.int) List.map_map.symm (bx.rA (aa ⟨0,1,[.bh 0 900],.bh 0 1000000000000⟩ h1) (aa yo h0)) ?_ ?_))))
 ·exact λi j hj=>⟨trivial,iT ⟨mulL (by decide),da.shr (aa FT) (kE hj (by rw[length_range];exact aa ⟨0,1,[.bh 0 900],.ln (.t .v0) (.k 1000)⟩ h1))⟩⟩
 ·refine⟨trivial,λa=>bd.n7 (ns:=(List.range n.toNat).map (pZ w)) .head (λm hm=>?_) (by simp;exact aa ⟨0,1,[.bh 0 900],.bh 0 1000000⟩ h1) (ah L (.sub (.cons _ (.refl _))) q)⟩;refine ai (List.mem_map.mp hm) λj U aw=>?_;refine av (Eq.symm aw) ?_;have:=w5 (Int.fdiv w (2^(8*(j:Int)).toNat)) (y:=255) (by decide);exact aa ⟨0,1,[.an (.ak 0 0) (.aL 0 255)],.an (.ak 0 0) (.bh 0 256)⟩ this
noncomputable def t_ (b:By):Nat->Int
 |0=>0
 |i+1=>t_ b i+((b.getD i 0).toNat:Int)*2^(8*(i:Int)).toNat
def q8(b:By):Int:=t_ b b.length
theorem IJ(W:PG G){b:By}(h1:b.length<900)(q:Q (.int (q8 b)) L):Sp G 85 (d+1) [.bytes b] L Q E:=by
 refine gO 85 ["octets"] [dS "octets",aI "worth",aI "at"] [] [iU,jx] (sq [.asg (.var 1) (.int 0),.for [(.var 2)] false (.call aM (wa (.call cf (wa af)))) (sq [.asg (.var 1) (.bin .Add aB (.bin .LShift (.sub af (.var 2)) (.bin .Mult (.int 8) (.var 2))))]),.ret aB]) W (br.po (aa jF h1) (bd.range (pC (bx.eL (aa ⟨1,0,[.aJ 0 900],.fp 0 1000000000000⟩ h1) (aa uz)) (λU U=>True) (λU U=>L) (λi v=>⟨[some (.bytes b),some (.int (t_ b i)),v],[]⟩) _ trivial rfl rfl ?_ ?_)))
 ·intro i v x hx _;obtain⟨rfl,hi⟩:=i6 hx;refine⟨trivial,a_.TN (aa eF) hi (aa jF h1) ⟨mulL (by decide),da.shl (aa FT) (aa ⟨2,0,[.aJ 0 900,.i9 1 0],.lz (.m 8 .c1) (.k 1000000)⟩ h1 hi) ?_ ⟨_,trivial,rfl,rfl⟩⟩⟩;have:=UInt8.toNat_lt (b.getD (i:Int).toNat 0);exact aa ⟨1,0,[.aJ 0 256],.tn (.b .c0) (.k 18446744073709551616)⟩ this
 ·intro v _;refine av (gq (n:=b.length)) ?_;exact⟨trivial,q⟩
noncomputable def lZ (b:By):Int:=b.foldl (λh o=>Builtin.bitAnd (Builtin.bitXor h o.toNat*16777619) 4294967295) 2166136261
theorem KA(W:PG G){b:By}(q:Q (.int (lZ b)) L):Sp G 627 (d+1) [.bytes b] L Q E:=by
 refine gO 627 ["key"] [dS "key",aI "found",aI "octet"] [] [("FNV_BASIS",.int 2166136261),("FNV_PRIME",.int 16777619),("LOW_32",.int 4294967295)] (sq [.asg (.var 1) aM,.for [(.var 2)] false (.var 0) (sq [.asg (.var 1) (.bin .BitAnd (.bin .Mult (.bin .BitXor aB (.var 2)) cf) eM)]),.ret aB]) W (pC bx.bytes (λU U=>True) (λU U=>L) (λi v=>⟨[some (.bytes b),some (.int (lZ (b.take i))),v],[]⟩) _ trivial rfl rfl ?_ ?_)
 ·intro i v x hx _;rw[getElem?_map] at hx;refine ai (Option.map_eq_some_iff.mp hx) λo ho aw=>?_;refine av (Eq.symm aw) ?_;refine⟨trivial,kj (by decide),cz (some (.int o.toNat)) trivial rfl ?_⟩
  have:lZ (b.take (i+1))=Builtin.bitAnd (Builtin.bitXor (lZ (b.take i)) o.toNat*16777619) 4294967295:=by unfold lZ;rw[take_add_one,ho,foldl_append];rfl
  dsimp only;rw[this];rfl
 ·intro v _;refine⟨trivial,?_⟩;rw[length_map,take_length];exact q
noncomputable def fA (most:Int):Int:=if most<=1 then 1 else if most<=2 then 2 else 4
theorem IB(W:PG G)(m1:most<=3)(q:Q (.int (fA most)) L):Sp G 634 (d+1) [.int most] L Q E:=by
 refine gO 634 ["most"] [dS "most",aI "count"] [] [] (sq [.asg (.var 1) (.int 1),.mB (.cmp .Lt aB (.var 0)) (sq [.asg (.var 1) (.bin .Add aB (.var 1))]),.ret aB]) W ⟨λn σ M=>M=L/\∃c:Int,σ=⟨[some (.int most),some (.int c)],[]⟩/\n=4-c.toNat/\((c=1)\/(c=2/\1<most)\/(c=4/\2<most)),⟨3,rfl,1,rfl,by decide,.inl rfl⟩,?_⟩
 intro n σ M zz;refine xD zz λiL c aw hn hc=>?_;refine av iL ?_;refine av aw ?_;refine⟨λh=>?_,λh=>?_⟩
 ·have h:=of_decide_eq_true h;exact⟨4-(c+c).toNat,aa ⟨1,2,[.aL 0 3,.en .v0 (.s (.k 4) (.t .v1)),.oo (.be 1 1) (.oo (.an (.be 1 2) (.c_ 1 0)) (.an (.be 1 4) (.c_ 2 0))),.cj 1 0],.tn (.s (.k 4) (.t (.cA 1 1))) .v0⟩ m1 hn hc h,rfl,c+c,rfl,rfl,aa ⟨0,2,[.aL 0 3,.oo (.be 1 1) (.oo (.an (.be 1 2) (.c_ 1 0)) (.an (.be 1 4) (.c_ 2 0))),.cj 1 0],.oo (.ez (.cA 1 1) (.k 1)) (.oo (.an (.ez (.cA 1 1) (.k 2)) (.c_ 1 0)) (.an (.ez (.cA 1 1) (.k 4)) (.c_ 2 0)))⟩ m1 hc h⟩
 ·have h:=of_decide_eq_false h;have:c=fA most:=by exact aa ⟨0,4,[.oo (.be 0 1) (.oo (.an (.be 0 2) (.c_ 1 1)) (.an (.be 0 4) (.c_ 2 1))),.no (.cj 0 1),.oo (.an (.aL 1 1) (.be 2 1)) (.an (.no (.aL 1 1)) (.bM 2 3)),.oo (.an (.aL 1 2) (.be 3 2)) (.an (.no (.aL 1 2)) (.be 3 4))],.bM 0 2⟩ hc h io io
  rw[this];exact q
end
structure MB where
 kind:Str
 number:Int
 kw:Int
 size:Int
 most:Int
 vals:LB
noncomputable def bp (m:MB) (d:Addr) (ext:SV):SV:=("kind",.str m.kind)::("number",.int m.number)::("key_width",.int m.kw)::("value_width",.int m.size)::("most",.int m.most)::("values",.ref d)::ext
noncomputable def Cz:List Str:=["buckets","key_by_slot","order","head","tail"]
def o6(ext:SV):Prop:=∀p∈ext,Cz.contains p.1=true
noncomputable def BM:List Str:=["kind","number","key_width","value_width","most","values"]
variable{m:MB}
theorem aQ{d:Addr}{ext:SV}(h:o6 ext){n:Str}(h1:BM.contains n=false)(h2:Cz.contains n=false):n∉(bp m d ext).map (·.1):=λhm=>by
 have hm:n∈BM++ext.map (·.1):=hm;rcases List.mem_append.mp hm with hm|hm
 ·rw[List.contains_iff_mem.mpr hm] at h1;cases h1
 ·refine ai (List.mem_map.mp hm) λp hp aw=>?_;subst aw;rw[h p hp] at h2;cases h2
structure MC(P:Params)(c:Addr):Prop where
 cls:hV (KK P) c
 kind:jg (KK P) c "kind"
 number:jg (KK P) c "number"
 BN:jg (KK P) c "key_width"
 AZ:jg (KK P) c "value_width"
 most:jg (KK P) c "most"
 values:jg (KK P) c "values"
noncomputable def iQ (i:Nat):List Addr->List (Int×V)
 |[]=>[]
 |b::bs=>((i:Int),.ref b)::iQ (i+1) bs
def vK(bs:List Addr):List (Int×V):=iQ 0 bs
def ch(bs:List Addr)(vals:LB):HL:=zipWith (λb v=>(b,Cl.ba v)) bs vals
theorem Dt:∀(bs:List Addr)(i:Nat)(k:Int),bL (iQ i bs) k=if(i:Int)<=k then(bs[(k-i).toNat]?).map V.ref else none
 |[],i,k=>(ite_self none).symm
 |b::bs,i,k=>by
  have ih:=Dt bs (i+1) k;rw[show iQ i (b::bs)=((i:Int),V.ref b)::iQ (i+1) bs from rfl];unfold bL at ih⊢;rw[find?_cons];by_cases e:(i:Int)=k
  ·subst e;simp
  ·simp only[e,decide_false];rw[ih];by_cases h:(i:Int)<=k
   ·rw[if_pos h,if_pos (show((i+1:Nat):Int)<=k by exact aa ⟨1,1,[.no (.dP 0 0),.f6 0 0],.lz (.c (.aj 0 1)) .v0⟩ e h)];have:(k-(i:Int)).toNat=(k-((i+1:Nat):Int)).toNat+1:=aa ⟨1,1,[.no (.dP 0 0),.f6 0 0],.en (.t (.s .v0 .c0)) (.a (.t (.s .v0 (.c (.aj 0 1)))) (.k 1))⟩ e h;simp only[this,List.getElem?_cons_succ]
   ·rw[if_neg h,if_neg (show¬((i+1:Nat):Int)<=k by exact aa ⟨1,1,[.no (.f6 0 0)],.no (.lz (.c (.aj 0 1)) .v0)⟩ h)]
theorem lS(bs:List Addr)(k:Int):bL (vK bs) k=if 0<=k then(bs[k.toNat]?).map V.ref else none:=by
 have:=Dt bs 0 k;unfold vK
 simpa using this
theorem tN:∀(bs:List Addr)(i:Nat)(b:Addr),iQ i (bs++[b])=iQ i bs++[(((i+bs.length:Nat):Int),V.ref b)]
 |[],i,b=>by rfl
 |x::bs,i,b=>by show((i:Int),V.ref x)::iQ (i+1) (bs++[b])=((i:Int),V.ref x)::(iQ (i+1) bs++[(((i+(bs.length+1):Nat):Int),V.ref b)]);rw[tN bs (i+1) b,show i+1+bs.length=i+(bs.length+1) from aa rg]
theorem Du:∀(bs:List Addr)(i:Nat) p,p∈iQ i bs->p.1<((i+bs.length:Nat):Int)
 |[],_,_,h=>by cases h
 |b::bs,i,p,h=>by
  rcases List.mem_cons.mp h with rfl|h
  ·show(i:Int)<_;rw[length_cons];exact aa ⟨2,0,[],.tz .c0 (.c (.a .v0 (.aj 1 1)))⟩
  ·have:=Du bs (i+1) p h;rw[length_cons];exact aa ⟨2,1,[.tz .v0 (.c (.a (.aj 0 1) .v1))],.tz .v0 (.c (.a .v0 (.aj 1 1)))⟩ this
theorem qJ(bs:List Addr)(b:Addr):df (vK bs) bs.length (.ref b)=vK (bs++[b]):=by
 unfold df;rw[if_neg]
 ·unfold vK;rw[tN];simp
 ·intro h;refine ai (List.any_eq_true.mp h) λp hp e=>?_;have:=Du bs 0 p hp;have e:=of_decide_eq_true e;exact aa ⟨1,1,[.tz .v0 (.c (.eU 0 0)),.fg 0 0],.ff⟩ this e
theorem jr(bs:List Addr):(vK bs).length=bs.length:=by
 have:∀(bs:List Addr) i,(iQ i bs).length=bs.length:=by
  intro bs
  induction bs with
  |nil=>intro i;rfl
  |cons b bs ih=>intro i;exact congrArg (· +1) (ih _)
 exact this bs 0
theorem oM:∀{bs:List Addr}{vals:LB}{i:Nat}{b:Addr}{v w:By},bs[i]?=some b->vals[i]?=some v->bK (ch bs vals) b (.ba v) (.ba w) (ch bs (vals.set i w))
 |[],_,_,_,_,_,h,_=>by cases h
 |_::_,[],_,_,_,_,_,h=>by cases h
 |b::bs,v::vals,0,_,_,_,h,h'=>by cases h;cases h';exact .head
 |b::bs,v::vals,i+1,_,_,_,h,h'=>.tail (oM (bs:=bs) (vals:=vals) h h')
variable{bs:List Addr}{vals:LB}
theorem CA{b:Addr}{v:By}(h:bs[i]?=some b)(h':vals[i]?=some v):ap (ch bs vals) b (.ba v):=(oM (w:=v) h h').pick
theorem Nq(h:bs.length=vals.length)(b:Addr)(v:By):ch (bs++[b]) (vals++[v])=ch bs vals++[(b,.ba v)]:=by unfold ch;rw[List.zipWith_append h];rfl
noncomputable def eE (vals:LB) (i:Nat) (o:By):LB:=if i<vals.length then vals.set i o else vals++[o]
def bA(a c:Addr)(m:MB)(ext:SV)(d:Addr)(bs:List Addr)(n:Nat):HL:=(a,.obj c (bp m d ext))::(d,.di (vK bs) n)::ch bs m.vals
variable{a:Addr}{dp:Nat}{R:HL}{o:By}
section
variable{L:HL}{c d:Addr}{ext:SV}
theorem js(W:PG G)(M:MC G.w.params c)(h:ap L a (.obj c (bp m d ext)))(q:Q (.str m.kind) L):dG (cx G dp) (.ref a) "kind" L Q E:=dG.obj W.B h .head M.cls M.kind trivial q
theorem jn(W:PG G)(M:MC G.w.params c)(h:ap L a (.obj c (bp m d ext)))(q:Q (.int m.number) L):dG (cx G dp) (.ref a) "number" L Q E:=dG.obj W.B h (.tail .head) M.cls M.number trivial q
theorem mn(W:PG G)(M:MC G.w.params c)(h:ap L a (.obj c (bp m d ext)))(q:Q (.int m.kw) L):dG (cx G dp) (.ref a) "key_width" L Q E:=dG.obj W.B h (.tail (.tail .head)) M.cls M.BN trivial q
theorem gZ(W:PG G)(M:MC G.w.params c)(h:ap L a (.obj c (bp m d ext)))(q:Q (.int m.size) L):dG (cx G dp) (.ref a) "value_width" L Q E:=dG.obj W.B h (.tail (.tail (.tail .head))) M.cls M.AZ trivial q
theorem hH(W:PG G)(M:MC G.w.params c)(h:ap L a (.obj c (bp m d ext)))(q:Q (.int m.most) L):dG (cx G dp) (.ref a) "most" L Q E:=dG.obj W.B h (.tail (.tail (.tail (.tail .head)))) M.cls M.most trivial q
theorem fY(W:PG G)(M:MC G.w.params c)(h:ap L a (.obj c (bp m d ext)))(q:Q (.ref d) L):dG (cx G dp) (.ref a) "values" L Q E:=dG.obj W.B h (.tail (.tail (.tail (.tail (.tail .head))))) M.cls M.values trivial q
theorem vU(W:PG G)(M:MC G.w.params c)(h:ap L a (.obj c (bp m d ext))){k:By}(hk:(k.length:Int)=m.kw)(hl:k.length<900)(q:Q (.bytes k) L):Sp G 320 (dp+1) [.ref a,.bytes k] L Q E:=gO 320 ["self","key"] [sf,bI "key"] [] [jx,jm,gJ] (sq [.ite (.cmp .NotEq (.call aM (wa aB)) (.aG af "key_width")) (sq [.no]) .nil,.ret (.call eM (wa aB))]) W (br.po (aa jF hl) (mn W M h ⟨λhz=>by rw[hk] at hz;simp[bne] at hz,λU=>(bd.zI q)⟩))
theorem vJ(W:PG G)(M:MC G.w.params c)(h:ap L a (.obj c (bp m d ext))){k:By}(hk:(k.length:Int)=m.size)(hl:k.length<900)(q:Q (.bytes k) L):Sp G 327 (dp+1) [.ref a,.bytes k] L Q E:=gO 327 ["self","octets"] [sf,bI "octets"] [] [jx,jm,gJ] (sq [.ite (.cmp .NotEq (.call aM (wa aB)) (.aG af "value_width")) (sq [.no]) .nil,.ret (.call eM (wa aB))]) W (br.po (aa jF hl) (gZ W M h ⟨λhz=>by rw[hk] at hz;simp[bne] at hz,λU=>(bd.zI q)⟩))
theorem JX(W:PG G)(M:MC G.w.params c)(h:ap L a (.obj c (bp m d ext))){slot:Int}(h0:0<=m.size)(h1:m.size<1000)(q:Q (.int (bD m.number slot m.size)) L):Sp G 434 (dp+3) [.ref a,.int slot] L Q E:=gO 434 ["self","slot"] [sf,bI "slot"] [] [AA] (sq [.ret (.call aM (.ae (.aG af "number") (.ae aB (wa (.aG af "value_width")))))]) W ⟨kF,jn W M h (gZ W M h (AD W h0 h1 q))⟩
def gu(m:MB)(cK:Int):V:=if kY cK=m.number/\0<=ix cK m.size/\ix cK m.size<m.vals.length/\q7 cK m.size<m.size then .tup [.int (ix cK m.size),.int (q7 cK m.size)] else .none
theorem BO(W:PG G)(M:MC G.w.params c)(h:ap L a (.obj c (bp m d ext)))(hd:ap L d (.di (vK bs) n))(hb:bs.length=m.vals.length)(h0:0<=m.size)(h1:m.size<1000)(q:Q (gu m cK) L):Sp G 441 (dp+3) [.ref a,.int cK] L Q E:=by
 have vd:(bL (vK bs) (ix cK m.size)).isSome=true↔0<=ix cK m.size/\ix cK m.size<m.vals.length:=by
  rw[lS];by_cases h:0<=ix cK m.size
  ·rw[if_pos h,Option.isSome_map];constructor
   ·intro e;refine xE (Option.isSome_iff_exists.mp e) λx hx=>?_;have:=(gS hx).1;exact aa ⟨2,1,[.aA 0 1,.ak 0 0,.tn (.t .v0) .v0],.an (.ak 0 0) (.eJ 0 1)⟩ hb h this
   ·intro e;rw[gE (by exact aa ⟨2,1,[.aA 0 1,.an (.ak 0 0) (.eJ 0 1)],.tn (.t .v0) .v0⟩ hb e)];rfl
  ·rw[if_neg h];simp[h]
 refine gO 441 ["self","place"] [sf,bI "place",aI "number",aI "slot",aI "offset"] [] [AH] (sq [.fi [(.var 2),(.var 3),(.var 4)] (.call aM (.ae aB (wa (.aG af "value_width")))),.ite (.bo .And (.ae (.cmp .Eq aX (.aG af "number")) (.ae (.cmp .In bC (.aG af "values")) (wa (.cmp .Lt dL (.aG af "value_width")))))) (sq [.ret (.tup (.ae bC (wa dL)))]) .nil,.ret .none]) W ⟨kF,gZ W M h (AN W h0 h1 (jn W M h ⟨λe1=>fY W M h (aV.inD W.B (dX _) hd ⟨λe2=>gZ W M h ⟨λe3=>?_,λe3=>?_⟩,λe2=>⟨λh=>no h e2,λU=>?_⟩⟩),λe1=>⟨λh=>no h e1,λU=>?_⟩⟩))⟩
 ·have e1:kY cK=m.number:=by simpa [ka] using e1
  have e2:=vd.mp e2;unfold gu at q;rw[if_pos (l7 e1 e2.1 e2.2 (of_decide_eq_true e3))] at q;exact(q)
 ·have e3:=of_decide_eq_false e3;unfold gu at q;rw[if_neg (λz=>e3 z.2.2.2)] at q;exact q
 ·have e2:(bL (vK bs) (ix cK m.size)).isSome=false:=e2;unfold gu at q;rw[if_neg (λz=>by rw[vd.mpr ⟨z.2.1,z.2.2.1⟩] at e2;cases e2)] at q;exact q
 ·have e1:¬kY cK=m.number:=by simpa [ka] using e1
  unfold gu at q;rw[if_neg (λz=>e1 z.1)] at q;exact q
theorem x9(W:PG G)(M:MC G.w.params c)(hb:bs.length=m.vals.length)(hsz:m.vals.length<900)(hi:i<=m.vals.length)(ho:o.length<900)(hv:∀v∈m.vals,v.length=o.length)(q:∀aU n',aU.length=(eE m.vals i o).length->Q .none (bA a c {m with vals:=eE m.vals i o} ext d aU n'++R)):Sp G 448 (dp+1) [.ref a,.int i,.bytes o] (bA a c m ext d bs n++R) Q E:=by
 refine Sp.ent (.refl _) (gO 448 ["self","slot","octets"] [sf,bI "slot",dT "octets"] [] [vQ] (sq [.ite (.cmp .In aB (.aG af "values")) (sq [.pf (.sub (.aG af "values") (.var 1)) (.var 2)]) (sq [.f0 (.aG af "values") (.var 1) (.call aM (wa aX))])]) W (fY W M .head (aV.inD W.B (dX _) (.tail .head) ⟨λe=>?_,λe=>?_⟩)))
 ·rw[lS,if_pos (natCast_nonneg i),toNat_natCast,Option.isSome_map] at e;refine gT λzP zk=>?_;obtain⟨b,zW⟩:=Option.isSome_iff_exists.mp e;refine zk ?_;have aT:i<m.vals.length:=by have:=(gS zW).1;exact aa kr hb this
  have Um:=gE aT;refine fY W M .head (a_.dk (dX _) (.tail .head) (v:=.ref b) (by rw[lS,if_pos (natCast_nonneg i),toNat_natCast,zW];rfl) λs=>dC.ch .head (.tail (.tail (.tail (.gi (oM zW Um))))) (hv _ (getElem_mem _)).symm (by rw[hv _ (getElem_mem _)];exact aa jF ho) ?_);have e2:eE m.vals i o=m.vals.set i o:=by unfold eE;rw[if_pos aT]
  exact(ah _ (.sub (.cons _ (.refl _))) (e2▸q bs n (by rw[e2,length_set];exact hb)))
 ·rw[lS,if_pos (natCast_nonneg i),toNat_natCast,Option.isSome_map] at e
  have kC:bs.length<=i:=by have:=Option.not_isSome_iff_eq_none.mp (by rw[e];exact Bool.false_ne_true);exact List.getElem?_eq_none_iff.mp this
  have Un:i=bs.length:=aa ⟨3,0,[.aA 0 1,.bY 2 1,.bY 0 2],.aA 2 0⟩ hb hi kC;subst Un;refine(bd.TJ (aa jF ho) λb=>fY W M (.tail .head) (dC.dk (dX _) (L':=λn'=>(b,.ba o)::(a,.obj c (bp m d ext))::(d,.di (df (vK bs) bs.length (.ref b)) n')::(ch bs m.vals++R)) (λn'=>.tail (.tail .head)) (by rw[jr];exact aa ⟨2,0,[.aA 0 1,.aJ 1 900],.aJ 0 1000000⟩ hb hsz) λn'=>?_));have e2:eE m.vals bs.length o=m.vals++[o]:=by unfold eE;rw[if_neg (by exact aa ⟨2,0,[.aA 0 1],.no (.bg 0 1)⟩ hb)]
  refine(ah _ (.perm ?_) (e2▸q (bs++[b]) n' (by rw[e2,length_append,length_append,hb];rfl)));rw[qJ];show Perm ((b,.ba o)::([(a,.obj c (bp m d ext)),(d,.di (vK (bs++[b])) n')]++(ch bs m.vals++R))) ([(a,.obj c (bp m d ext)),(d,.di (vK (bs++[b])) n')]++(ch (bs++[b]) (m.vals++[o])++R));rw[Nq hb,append_assoc (ch bs m.vals)];refine List.Perm.trans List.perm_middle.symm (List.Perm.append_left _ ?_);exact List.perm_middle.symm
end
set_option genCtorIdx true
inductive AK where
 |arr|rows
noncomputable def AK.c:AK->Addr
 |.arr=>575
 |.rows=>618
noncomputable def AK.kind:AK->Str
 |.arr=>"array"
 |.rows=>"rows"
noncomputable def AK.cnt:AK->Nat
 |.arr=>1
 |.rows=>4
noncomputable def AK.slot (k:AK) (sh p:Int):Int:=match k with
 |.arr=>sh
 |.rows=>sh*4+p
noncomputable def AK.x_:AK->Addr
 |.arr=>523
 |.rows=>598
section
variable{P:Params}(k:AK)
theorem AK.mc:MC P k.c:=by
 cases k
 ·exact⟨JH,aF,aF,aF,aF,aF,aF⟩
 ·exact⟨Kx,aF,aF,aF,aF,aF,aF⟩
theorem AK.sI:cV (KK P) k.c "check_key" 320:=by cases k;exact mF 320;exact mF 320
theorem AK.vM:cV (KK P) k.c "check_value" 327:=by cases k;exact mF 327;exact mF 327
theorem AK.ur:cV (KK P) k.c "lay" 448:=by cases k;exact mF 448;exact mF 448
theorem AK.tP:cV (KK P) k.c "index" 516:=by cases k;exact mF 516;exact mF 516
theorem AK.oY:cV (KK P) k.c "peer" 530:=by cases k;exact mF 530;exact mF 530
theorem AK.tg:cV (KK P) k.c "lookup" 538:=by cases k;exact mF 538;exact mF 538
theorem AK.qA:cV (KK P) k.c "update" 546:=by cases k;exact mF 546;exact mF 546
theorem AK.wE:cV (KK P) k.c "delete" 553:=by cases k;exact mF 553;exact mF 553
theorem AK.m_keys:cV (KK P) k.c "keys" 558:=by cases k;exact mF 558;exact mF 558
theorem AK.oN:cV (KK P) k.c "value" 413:=by cases k;exact mF 413;exact mF 413
theorem AK.ua:cV (KK P) k.c "slot" k.x_:=by cases k;exact mF 523;exact mF 598
theorem AK.xt{d:Nat}:jd (cx G d) (.ref k.x_):=by cases k;exact kF;exact kF
end
theorem cZ:o6 []:=λp h=>by cases h
structure cM(k:AK)(m:MB):Prop where
 kind:m.kind=k.kind
 kw:m.kw=4
 s0:1<=m.size
 s1:m.size<=16
 m0:1<=m.most
 m1:m.most<=3
 n0:0<=m.number
 n1:m.number<64
 len:(m.vals.length:Int)=k.cnt*m.most
 each:∀v∈m.vals,(v.length:Int)=m.size
def bX(m:MB)(key:By):Int:=if q8 key<m.most then q8 key else -1
theorem IW(b:By):0<=q8 b:=by
 have:∀i,0<=t_ b i:=by
  intro i
  induction i with
  |zero=>exact le_refl 0
  |succ i ih=>have:(0:Int)<=((b.getD i 0).toNat:Int)*2^(8*(i:Int)).toNat:=mul_nonneg (natCast_nonneg _) (Int.pow_nonneg (by decide));exact aa ⟨0,2,[.ak 0 0,.ak 0 1],.lz (.k 0) (.cA 0 1)⟩ ih this
 exact this _
theorem JY(m:MB)(key:By):(0<=bX m key/\bX m key<m.most)\/bX m key=-1:=by have:=IW key;exact aa ⟨0,3,[.ak 0 0,.oo (.an (.cj 0 1) (.bM 2 0)) (.an (.no (.cj 0 1)) (.be 2 (-1)))],.oo (.an (.ak 0 2) (.cj 2 1)) (.be 2 (-1))⟩ this io
variable{key:By}
section
variable{L:HL}{d:Addr}{k:AK}
theorem tQ(W:PG G)(h:ap L a (.obj k.c (bp m d [])))(hk:(key.length:Int)=m.kw)(hw:m.kw=4)(q:Q (.int (bX m key)) L):Sp G 516 (dp+2) [.ref a,.bytes key] L Q E:=by
 refine gO 516 ["self","key"] [sf,bI "key",aI "index"] [] [("from_little",.ref 85)] (sq [.asg (.var 2) (.call aM (wa (.aC af "check_key" (wa aB)))),.ret (.fy (.cmp .Lt aX (.aG af "most")) (.var 2) (.d8 .USub (.int 1)))]) W ⟨kF,ax.inst W.B h k.mc.cls k.sI (aQ cZ rfl rfl) ⟨kF,vU W k.mc h hk (aa yp hk hw) (IJ W (aa yp hk hw) (hH W k.mc h ⟨λe=>?_,λe=>?_⟩))⟩⟩
 ·have e:=of_decide_eq_true e;unfold bX at q;rw[if_pos e] at q;exact q
 ·have e:=of_decide_eq_false e;unfold bX at q;rw[if_neg e] at q;exact q
theorem ub(W:PG G){sh p:Int}(h0:0<=p)(h1:p<4)(q:Q (.int (k.slot sh p)) L):Sp G k.x_ (dp+1) [.ref a,.int sh,.int p] L Q E:=by
 cases k
 ·exact gO 523 ["self","index","processor"] [sf,bI "index",dT "processor"] [] [] (sq [.ret aB]) W q
 ·refine gO 598 ["self","index","processor"] [sf,bI "index",dT "processor"] [] [sE,jm] (sq [.ite (.d8 .Not (.ik .LtE .Lt (.int 0) (.var 2) aM)) (sq [.no]) .nil,.ret (.bin .Add (.bin .Mult aB aM) (.var 2))]) W ⟨λU=>⟨λe=>?_,λU=>⟨kj (by decide),q⟩⟩,λe=>?_⟩
  ·rw[decide_eq_true h1] at e;cases e
  ·have:=of_decide_eq_false e;exact(aa FU h0 this).elim
theorem tT(I:cM k m){p:Int}(h0:0<=p)(h1:p<4)(hi:0<=bX m key):0<=k.slot (bX m key) p/\k.slot (bX m key) p<m.vals.length:=by
 have h2:=I.len;have h3:=(JY m key).resolve_right (aa ⟨0,1,[.ak 0 0],.no (.be 0 (-1))⟩ hi);have hc:k=.arr\/k=.rows:=by cases k;exact .inl rfl;exact .inr rfl
 rcases hc with rfl|rfl
 ·have h2:(m.vals.length:Int)=1*m.most:=h2;exact aa ⟨1,2,[.an (.ak 0 0) (.cj 0 1),.ez .c0 (.m 1 .v1)],.an (.ak 0 0) (.eJ 0 0)⟩ h3 h2
 ·have h2:(m.vals.length:Int)=4*m.most:=h2;exact aa ⟨1,3,[.ak 0 0,.bh 0 4,.an (.ak 0 1) (.cj 1 2),.ez .c0 (.m 4 .v2)],.an (.lz (.k 0) (.a (.w .v1 4) .v0)) (.tz (.a (.w .v1 4) .v0) .c0)⟩ h0 h1 h3 h2
def dg(k:AK)(m:MB)(key o:By)(p:Int):MB:=if bX m key<0 then m else {m with vals:=m.vals.set (k.slot (bX m key) p).toNat o}
theorem CB{p:Int}:(dg k m key o p).vals.length=m.vals.length:=by unfold dg;split<;>simp
theorem CC(I:cM k m){p:Int}(ho:(o.length:Int)=m.size):cM k (dg k m key o p):=by
 unfold dg
 split
 ·exact I
 ·refine⟨I.kind,I.kw,I.s0,I.s1,I.m0,I.m1,I.n0,I.n1,?_,λv hv=>?_⟩
  ·rw[length_set];exact I.len
  ·rcases mem_or_eq_of_mem_set hv with hv|rfl
   ·exact I.each v hv
   ·exact ho
theorem Bg(W:PG G)(I:cM k m)(hb:bs.length=m.vals.length){p:Int}(h0:0<=p)(h1:p<4)(hk:(key.length:Int)=4)(ho:(o.length:Int)=m.size)(q:∀aU n',aU.length=(dg k m key o p).vals.length->Q (.int (if bX m key<0 then -7 else 0)) (bA a k.c (dg k m key o p) [] d aU n'++R)):
  wpS (cx G (dp+3)) sA (kI (kG G)).globs ((kI (kG G)).at [.ref a,.bytes key,.bytes o,.int 0,.int p]) (bA a k.c m [] d bs n++R) (gC Q) (λU=>E):=by
 have hs:=I.s1;refine ax.inst W.B .head k.mc.cls k.tP (aQ cZ rfl rfl) ⟨kF,tQ W .head (by rw[I.kw];exact hk) I.kw (ax.inst W.B .head k.mc.cls k.vM (aQ cZ rfl rfl) ⟨kF,vJ W k.mc .head ho (aa lq ho hs) (aV.Dc (r:=true) rfl (iF ⟨λe=>?_,λe=>iF ?_⟩))⟩)⟩
 ·have e:=of_decide_eq_true e;rw[(show dg k m key o p=m by unfold dg;rw[if_pos e]),if_pos e] at q;exact q bs n hb
 ·have e:=of_decide_eq_false e;have hl:=tT (key:=key) I h0 h1 (aa uA e);refine ax.inst W.B .head k.mc.cls k.ur (aQ cZ rfl rfl) ⟨kF,ax.inst W.B .head k.mc.cls k.ua (aQ cZ rfl rfl) ⟨k.xt,ub W h0 h1 ?_⟩⟩;have e3:k.slot (bX m key) p=((k.slot (bX m key) p).toNat:Int):=aa ⟨1,1,[.an (.ak 0 0) (.eJ 0 0)],.ez .v0 (.c (.t .v0))⟩ hl;have e2:dg k m key o p={m with vals:=eE m.vals (k.slot (bX m key) p).toNat o}:=by unfold dg eE;rw[if_neg e,if_pos (by exact aa rh hl)]
  rw[e2,if_neg e] at q
  have iz:Sp G 448 (dp+3) [.ref a,.int (k.slot (bX m key) p),.bytes o] (bA a k.c m [] d bs n++R) (λU M=>Q (.int 0) M) E:=by rw[e3];exact x9 W k.mc hb (by have:=I.len;have:=I.m1;have:k.cnt<=4:=(by cases k<;>decide);exact aa FV (by assumption) (mul_le_mul (aa uB this) I.m1 (by have:=I.m0;exact aa gW this) (by decide):(k.cnt:Int)*m.most<=4*3)) (aa ⟨1,1,[.an (.ak 0 0) (.eJ 0 0)],.ln (.t .v0) .v0⟩ hl) (aa lq ho hs) (λv hv=>by have:=I.each v hv;exact aa uC ho this) λaU n' h=>q aU n' h
  exact iz
end
set_option genCtorIdx false
structure Rd(L:HL)(a c:Addr)(m:MB)(ext:List (Str×V))(d:Addr)(bs:List Addr)(n:Nat):Prop where
 obj:ap L a (.obj c (bp m d ext))
 dict:ap L d (.di (vK bs) n)
 bas:∀(i:Nat) b v,bs[i]?=some b->m.vals[i]?=some v->ap L b (.ba v)
 len:bs.length=m.vals.length
theorem Rd.base{c:Addr}{ext:SV}{d:Addr}(h:bs.length=m.vals.length):Rd (bA a c m ext d bs n++R) a c m ext d bs n:=⟨.head,.tail .head,λi b v h1 h2=>.tail (.tail (.gi (CA h1 h2))),h⟩
theorem Rd.cons{c:Addr}{ext:SV}{d:Addr}{p:_}(h:Rd L a c m ext d bs n):Rd (p::L) a c m ext d bs n:=⟨.tail h.obj,.tail h.dict,λi b v h1 h2=>.tail (h.bas i b v h1 h2),h.len⟩
theorem Rd.app{c:Addr}{ext:SV}{d:Addr}(h:Rd L a c m ext d bs n):Rd (L'++L) a c m ext d bs n:=⟨.bE h.obj,.bE h.dict,λi b v h1 h2=>.bE (h.bas i b v h1 h2),h.len⟩
def pE(bs:LB)(i j:Nat):Bool:=uU (bs.getD i []) (bs.getD j [])
def gQ(bs:LB):LB:=if bs.length<2 then bs else(eD (pE bs) (kas_sort bs.length)).toList.map λi=>bs.getD i []
theorem BP{bs:LB}(h:bs.length<=3):∀x∈gQ bs,x∈bs:=λx hx=>by
 unfold gQ at hx
 split at hx
 ·exact hx
 ·refine ai (List.mem_map.mp hx) λi hi aw=>?_;subst aw;have:=List.mem_range.mp (((sN (ans:=pE bs) (n:=bs.length) (aa rf (by assumption)) h).2).mem_iff.mp hi);simp only[getD_eq_getElem?_getD,gE this];exact getElem_mem _
theorem BQ{bs:LB}(h:bs.length<=3):(gQ bs).length=bs.length:=by
 unfold gQ
 split
 ·rfl
 ·have hp:=(sN (ans:=pE bs) (n:=bs.length) (aa rf (by assumption)) h).2;simp only[length_map,hp.length_eq,length_range]
theorem KB{bs:LB}:jZ (bs.map V.bytes) (pE bs)=(gQ bs).map V.bytes\/3<bs.length:=by
 by_cases h:bs.length<=3
 ·left
  unfold jZ gQ;rw[length_map]
  split
  ·rfl
  ·have hp:=(sN (ans:=pE bs) (n:=bs.length) (aa rf (by assumption)) h).2;simp only[map_map];refine map_congr_left λi hi=>?_;have:=List.mem_range.mp (hp.mem_iff.mp hi);simp[getD_eq_getElem?_getD,this]
 ·right;exact aa ⟨1,0,[.no (.aS 0 3)],.lh 3 0⟩ h
theorem br.Dv{l:Addr}{bs:LB}(h:ap L l (.list (bs.map V.bytes)))(h3:bs.length<=3)(q:∀D,Q (.ref D) ((D,.list ((gQ bs).map V.bytes))::L)):br C "sorted" [.ref l] L Q E:=by
 refine br.Dn h ji.bytes (by rw[length_map];exact aa ⟨1,0,[.aS 0 3],.aJ 0 64⟩ h3) (λh2=>?_) λD=>?_
 ·rw[length_map] at h2⊢;refine xA (sN (ans:=pE bs) (n:=bs.length) h2 h3) λh1 hp=>?_;exact⟨h1,λi hi=>List.mem_range.mp (hp.mem_iff.mp hi)⟩
 ·have:=KB.resolve_right (show¬3<bs.length by exact aa ⟨1,0,[.aS 0 3],.no (.lh 3 0)⟩ h3);have e:jZ (bs.map V.bytes) (λi j=>uU (bs.getD i []) (bs.getD j []))=(gQ bs).map V.bytes:=this;rw[e];exact q D
variable{s:Int}
section
variable{L:HL}{d:Addr}{k:AK}
theorem KC(W:PG G)(I:cM k m)(hb:bs.length=m.vals.length){p:Int}(h0:0<=p)(h1:p<4)(hk:(key.length:Int)=4)(ho:(o.length:Int)=m.size)(q:∀aU n',aU.length=(dg k m key o p).vals.length->Q (.int (if bX m key<0 then -7 else 0)) (bA a k.c (dg k m key o p) [] d aU n'++R)):Sp G 546 (dp+4) [.ref a,.bytes key,.bytes o,.int 0,.int p] (bA a k.c m [] d bs n++R) Q E:=H_ W (Bg W I hb h0 h1 hk ho q)
theorem Bh(W:PG G)(I:cM k m)(hb:bs.length=m.vals.length)(hk:(key.length:Int)=4)(ho:(o.length:Int)=m.size)(q:∀aU n',aU.length=(dg k m key o 0).vals.length->Q (.int (if bX m key<0 then -7 else 0)) (bA a k.c (dg k m key o 0) [] d aU n'++R)):Sp G 546 (dp+4) [.ref a,.bytes key,.bytes o,.int 0] (bA a k.c m [] d bs n++R) Q E:=Ia W (Bg W I hb (by decide) (by decide) hk ho q)
def g3(k:AK)(m:MB)(key:By)(p:Int):V:=if bX m key<0 then .none else .int (k.slot (bX m key) p)
theorem Bj(W:PG G)(h:ap L a (.obj k.c (bp m d [])))(hk:(key.length:Int)=m.kw)(hw:m.kw=4){p:Int}(h0:0<=p)(h1:p<4)(q:Q (g3 k m key p) L):wpS (cx G (dp+2)) vH (oA (kG G)).globs ((oA (kG G)).at [.ref a,.bytes key,.int p]) L (gC Q) (λU=>E):=by
 refine ax.inst W.B h k.mc.cls k.tP (aQ cZ rfl rfl) ⟨kF,tQ W h hk hw ⟨λe=>?_,λe=>?_⟩⟩
 ·have e:=of_decide_eq_true e;unfold g3 at q;rw[if_pos e] at q;exact q
 ·have e:=of_decide_eq_false e;unfold g3 at q;rw[if_neg e] at q;exact ax.inst W.B h k.mc.cls k.ua (aQ cZ rfl rfl) ⟨k.xt,ub W h0 h1 q⟩
theorem KD(W:PG G)(h:ap L a (.obj k.c (bp m d [])))(hk:(key.length:Int)=m.kw)(hw:m.kw=4){p:Int}(h0:0<=p)(h1:p<4)(q:Q (g3 k m key p) L):Sp G 538 (dp+3) [.ref a,.bytes key,.int p] L Q E:=H8 W (Bj W h hk hw h0 h1 q)
theorem JZ(W:PG G)(h:ap L a (.obj k.c (bp m d [])))(hk:(key.length:Int)=m.kw)(hw:m.kw=4)(q:Q (g3 k m key 0) L):Sp G 538 (dp+3) [.ref a,.bytes key] L Q E:=H9 W (Bj W h hk hw (by decide) (by decide) q)
theorem KE(W:PG G)(h:ap L a (.obj k.c (bp m d [])))(hk:(key.length:Int)=m.kw)(hw:m.kw=4)(q:∀i,Q (.int i) L):Sp G 553 (dp+2) [.ref a,.bytes key] L Q E:=gO 553 ["self","key"] [sf,bI "key"] [] [qz] (sq [.ex (.aC af "check_key" (wa aB)),.ret (.bin .Sub (.int 0) aM)]) W (ax.inst W.B h k.mc.cls k.sI (aQ cZ rfl rfl) ⟨kF,vU W k.mc h hk (aa yp hk hw) (q _)⟩)
theorem Nr(W:PG G)(h:ap L a (.obj k.c (bp m d [])))(hk:(key.length:Int)=m.kw)(hw:m.kw=4)(q:Q (g3 k m key 0) L):Sp G 530 (dp+3) [.ref a,.bytes key] L Q E:=by
 refine gO 530 ["self","key"] [sf,bI "key",aI "index"] [] [] (sq [.asg (.var 2) (.aC af "index" (wa aB)),.ret (.fy (.cmp .Lt aX (.int 0)) .none (.aC af "slot" (.ae aX (wa (.int 0)))))]) W (ax.inst W.B h k.mc.cls k.tP (aQ cZ rfl rfl) ⟨kF,tQ W h hk hw ⟨λe=>?_,λe=>?_⟩⟩)
 ·have e:=of_decide_eq_true e;unfold g3 at q;rw[if_pos e] at q;exact q
 ·have e:=of_decide_eq_false e;unfold g3 at q;rw[if_neg e] at q;exact ax.inst W.B h k.mc.cls k.ua (aQ cZ rfl rfl) ⟨k.xt,ub W (by decide) (by decide) q⟩
def h_(k:AK)(m:MB)(key:By):V:=if bX m key<0 then .none else .bytes (m.vals.getD (k.slot (bX m key) 0).toNat [])
theorem a_.val(W:PG G)(hC:C=cx G dp){c:Addr}{ext:SV}(h:Rd L a c m ext d bs n)(s0:0<=s)(s1:s<m.vals.length)(q:∀b,ap L b (.ba (m.vals.getD s.toNat []))->Q (.ref b) L):a_ C (.ref d) (.int s) L Q E:=by have hl:=h.len;have hb:=gE (l:=bs) (i:=s.toNat) (aa ⟨2,1,[.ak 0 0,.eJ 0 0,.aA 1 0],.tn (.t .v0) .v1⟩ s0 s1 hl);have hv:=gE (l:=m.vals) (i:=s.toNat) (aa ⟨1,1,[.ak 0 0,.eJ 0 0],.tn (.t .v0) .v0⟩ s0 s1);refine a_.dk (dX _) h.dict (v:=.ref bs[s.toNat]) (by rw[lS,if_pos s0,hb];rfl) (q _ ?_);have:=h.bas _ _ _ hb hv;simp only[getD_eq_getElem?_getD,hv];exact this
theorem wG(W:PG G)(I:cM k m)(h:Rd L a k.c m [] d bs n)(hk:(key.length:Int)=4)(q:Q (h_ k m key) L):Sp G 413 (dp+4) [.ref a,.bytes key] L Q E:=by
 have hs:=I.s1;refine AJ W (ax.inst W.B h.obj k.mc.cls k.oY (aQ cZ rfl rfl) ⟨kF,Nr W h.obj (by rw[I.kw];exact hk) I.kw ?_⟩);by_cases e:bX m key<0
 ·have e1:g3 k m key 0=.none:=if_pos e;have e2:h_ k m key=.none:=if_pos e;refine(e1)▸?_;rw[e2] at q;exact iT q
 ·have e1:g3 k m key 0=.int (k.slot (bX m key) 0):=if_neg e;have e2:h_ k m key=.bytes (m.vals.getD (k.slot (bX m key) 0).toNat []):=if_neg e;have hl:=tT (key:=key) I (p:=0) (by decide) (by decide) (aa uA e);rw[e1];rw[e2] at q;refine iF (fY W k.mc h.obj (a_.val W rfl h hl.1 hl.2 λb hb=>bd.n8 hb ?_ q))
  have hm:m.vals.getD (k.slot (bX m key) 0).toNat []∈m.vals:=by rw[getD_eq_getElem?_getD,gE (by exact aa rh hl)];exact getElem_mem _
  have:=I.each _ hm;exact aa nT hs this
end
section
variable{P:Params}(k:AK)
noncomputable def AK.m6:AK->Addr
 |.arr=>474
 |.rows=>608
theorem AK.w6:cV (KK P) k.c "parts" k.m6:=by cases k;exact mF 474;exact mF 608
theorem AK.w7{d:Nat}:jd (cx G d) (.ref k.m6):=by cases k;exact kF;exact kF
end
def jy(m:MB):LB:=(List.range m.most.toNat).map λi=>ou (i:Nat) 4
theorem sY:(jy m).length=m.most.toNat:=by unfold jy;simp
theorem Nt(w:Int)(n:Nat):(ou w n).length=n:=by unfold ou gy;simp
theorem KF{k:By}(h:k∈jy m):k.length=4:=by refine ai (List.mem_map.mp h) λi U aw=>?_;subst aw;exact Nt _ _
def jD(m:MB)(key:By):V:=if bX m key<0 then .none else .tup ((List.range 4).map λp=>.bytes (m.vals.getD (AK.rows.slot (bX m key) (p:Nat)).toNat []))
def QS(k:AK)(m:MB)(key:By):V:=match k with
 |.arr=>h_ .arr m key
 |.rows=>jD m key
def Ej(k:AK)(m:MB):V:=.tup ((gQ (jy m)).map λkey=>.tup [.bytes key,QS k m key])
def Fu(k:AK)(m:MB):V:=.tup [.str m.kind,.int m.number,.int m.kw,.int m.size,.int m.most,Ej k m]
section
variable{L:HL}{d:Addr}{k:AK}
theorem Dw(W:PG G)(m0:0<=m.most)(m1:m.most<=3)(h:ap L a (.obj k.c (bp m d [])))(q:∀D,Q (.ref D) ((D,.list ((gQ (jy m)).map V.bytes))::L)):Sp G 558 (dp+2) [.ref a] L Q E:=by
 refine Sp.ent (.refl _) (gO 558 ["self"] [sf] [] [qx,iU] (sq [.ret (.call aM (wa (.lc ⟨["index"],false,[],[Cr]⟩ (.call cf (wa (.aG af "most"))) .yes (.call aM (.ae af (wa (.int 4)))))))]) W ((hH W k.mc h (bd.range (kD (λj:Nat=>.bytes (ou j 4)) ((jy m).map V.bytes) List.map_map.symm (bx.rA (aa ri m1) (aa yo m0)) ?_ ?_)))))
 ·exact λi y hy=>⟨trivial,iT ⟨kF,Cy W (by decide) (by decide) (kE hy (by rw[length_range];exact aa FW m1))⟩⟩
 ·exact⟨trivial,λa1=>br.Dv (bs:=jy m) .head (by rw[sY];exact aa uD m1) λD=>(ah _ (.sub (.cons_cons _ (.cons _ (.refl _)))) (q D))⟩
theorem ut(W:PG G)(I:cM .rows m)(h:Rd L a AK.rows.c m [] d bs n)(hk:(key.length:Int)=4)(q:Q (jD m key) L):Sp G 603 (dp+4) [.ref a,.bytes key] L Q E:=by
 refine Sp.ent (.refl _) (gO 603 ["self","key"] [bI "key"] [sf,aI "index"] [mU,iU,sE] (sq [.asg (.ao 1) (.aC (.ao 0) "index" (wa af)),.ite (.cmp .Lt (.ao 1) (.int 0)) (sq [.ret .none]) .nil,.ret (.call aM (wa (.lc ⟨["processor"],false,[true,true],[gJ]⟩ (.call cf (wa eM)) .yes (.call aM (wa (.sub (.aG (.ao 0) "values") (.aC (.ao 0) "slot" (.ae (.ao 1) (wa af)))))))))]) W (ax.inst W.B h.obj AK.rows.mc.cls AK.rows.tP (aQ cZ rfl rfl) ⟨kF,tQ W h.obj (by rw[I.kw];exact hk) I.kw ⟨λe=>?_,λe=>?_⟩⟩))
 ·have e:=of_decide_eq_true e;unfold jD at q;rw[if_pos e] at q;exact(ah L (.refl _) q)
 ·have e:=of_decide_eq_false e;unfold jD at q;rw[if_neg e] at q;refine((bd.range (kD (λp:Nat=>.bytes (m.vals.getD (AK.rows.slot (bX m key) (p:Nat)).toNat [])) _ rfl (bx.rA (by decide) (by decide)) ?_ ?_)))
  ·intro j i hy;have hi:=yZ hy;have hl:=tT (key:=key) (k:=.rows) I (p:=(i:Nat)) (aa eF) hi (aa uA e);refine⟨trivial,iT (fY W AK.rows.mc h.obj (ax.inst W.B h.obj AK.rows.mc.cls AK.rows.ua (aQ cZ rfl rfl) ⟨kF,ub (k:=.rows) W (aa eF) hi (a_.val W rfl h hl.1 hl.2 λb hb=>bd.n8 hb ?_ (kE hy (by decide)))⟩))⟩
   ·have hm:m.vals.getD (AK.rows.slot (bX m key) (i:Nat)).toNat []∈m.vals:=by rw[getD_eq_getElem?_getD,gE (by exact aa rh hl)];exact getElem_mem _
    have:=I.each _ hm;exact aa nT I.s1 this
  ·exact⟨trivial,λa1=>bd.mj .head (by rw[length_map];decide) (ah L (.sub (.cons _ (.refl _))) q)⟩
theorem LM(W:PG G)(I:cM k m)(h:Rd L a k.c m [] d bs n)(q:Q (Ej k m) L):Sp G k.m6 (dp+5) [.ref a] L Q E:=by
 have hm:=I.m1;have si:=I.m0;have bz:(gQ (jy m)).length<=3:=by rw[BQ (by rw[sY];exact aa uD hm),sY];exact aa uD hm
 have cG:∀key∈gQ (jy m),(key.length:Int)=4:=λkey hk=>by have:=KF (BP (by rw[sY];exact aa uD hm) _ hk);exact aa ⟨1,0,[.d7 0 4],.ez .c0 (.k 4)⟩ this
 have HC:(gQ (jy m)).length<=1000:=le_trans bz (by decide);have HD:∀{f:By->V},((gQ (jy m)).map f).length<1000000:=by intro f;rw[length_map];exact Nat.lt_of_le_of_lt bz (by decide)
 have hc:k=.arr\/k=.rows:=by cases k;exact .inl rfl;exact .inr rfl
 rcases hc with rfl|rfl
 ·refine Sp.ent (.refl _) (AL W (ax.inst W.B h.obj (AK.mc _).cls (AK.m_keys _) (aQ cZ rfl rfl) ⟨kF,Dw W (aa gW si) I.m1 h.obj λD=>kD (λkey=>.tup [.bytes key,h_ .arr m key]) _ rfl (bx.list .head) ?_ ?_⟩))
  ·exact λi key hk=>⟨.head,iT (ax.inst W.B (.tail h.obj) (AK.mc _).cls (AK.oN _) (aQ cZ rfl rfl) ⟨kF,wG W I h.cons (cG _ (mem_of_getElem? hk)) (kE hk HC)⟩)⟩
  ·exact⟨.head,λa1=>bd.mj .head HD (ah L (.sub (.cons _ (.cons _ (.refl _)))) q)⟩
 ·refine Sp.ent (.refl _) (gO 608 ["self"] [] [sf] [mU] (sq [.ret (.call aM (wa (.lc ⟨["key"],false,[true],[]⟩ (.aC (.ao 0) "keys" .bT) .yes (.tup (.ae af (wa (.aC (.ao 0) "row" (wa af))))))))]) W (ax.inst W.B h.obj (AK.mc _).cls (AK.m_keys _) (aQ cZ rfl rfl) ⟨kF,Dw W (aa gW si) I.m1 h.obj λD=>kD (λkey=>.tup [.bytes key,jD m key]) _ rfl (bx.list .head) ?_ ?_⟩))
  ·exact λi key hk=>⟨.head,iT (ax.inst W.B (.tail h.obj) (AK.mc _).cls (mF 603) (aQ cZ rfl rfl) ⟨kF,ut W I h.cons (cG _ (mem_of_getElem? hk)) (kE hk HC)⟩)⟩
  ·exact⟨.head,λa1=>bd.mj .head HD (ah L (.sub (.cons _ (.cons _ (.refl _)))) q)⟩
theorem Nu(W:PG G)(I:cM k m)(h:Rd L a k.c m [] d bs n)(q:Q (Fu k m) L):Sp G 481 (dp+6) [.ref a] L Q E:=vT W (js W k.mc h.obj (jn W k.mc h.obj (mn W k.mc h.obj (gZ W k.mc h.obj (hH W k.mc h.obj (ax.inst W.B h.obj k.mc.cls k.w6 (aQ cZ rfl rfl) ⟨k.w7,LM W I h (q)⟩))))))
end
theorem Dx{vs:LB}(h:bs.length=vs.length):(ch bs vs).Perm (ch bs.reverse vs.reverse):=by unfold ch;refine(List.reverse_zipWith h)▸?_;exact(reverse_perm _).symm
section
variable{L:HL}{c d:Addr}{k:AK}
structure g4(m:MB):Prop where
 kind:gM m.kind m.kw
 s0:1<=m.size
 s1:m.size<=16
 m0:1<=m.most
 m1:m.most<=3
 n0:0<=m.number
 n1:m.number<64
theorem wb(W:PG G)(M:MC G.w.params c)(I:g4 m)(q:∀d,Q .none ((d,.dict [] 0)::(a,.obj c (bp m d []))::R)):Sp G 313 (dp+3) [.ref a,.str m.kind,.int m.number,.int m.kw,.int m.size,.int m.most] ((a,.obj c [])::R) Q E:=by
 refine gO 313 ["self","kind","number","key_width","value_width","most"] [sf,bI "kind",dT "number",jl "key_width",lD "value_width",vA "most"] [] [("check_widths",.ref 299),("MOST_MAPS",.int 64),jm] (sq [.ex (.call aM (.ae aB (.ae bC (.ae dL (wa d9))))),.ite (.d8 .Not (.ik .LtE .Lt (.int 0) (.var 2) cf)) (sq [.no]) .nil,.du af "kind" (.var 1),.du af "number" (.var 2),.du af "key_width" (.var 3),.du af "value_width" (.var 4),.du af "most" (.var 5),.du af "values" .g7]) W ⟨kF,IA W I.kind I.s0 I.s1 I.m0 I.m1 ⟨λU=>⟨λh=>?_,λU=>?_⟩,λh=>?_⟩⟩
 ·rw[decide_eq_true I.n1] at h;cases h
 ·exact db.obj W.B .nil .head M.cls M.kind (d6 rfl) (db.obj W.B (.tail rfl .nil) .head M.cls M.number (d6 rfl) (db.obj W.B (.tail rfl (.tail rfl .nil)) .head M.cls M.BN (d6 rfl) (db.obj W.B (.tail rfl (.tail rfl (.tail rfl .nil))) .head M.cls M.AZ (d6 rfl)
   (db.obj W.B (.tail rfl (.tail rfl (.tail rfl (.tail rfl .nil)))) .head M.cls M.most (d6 rfl) λd=>db.obj W.B (.tail rfl (.tail rfl (.tail rfl (.tail rfl (.tail rfl .nil))))) (.tail .head) M.cls M.values (d6 rfl) (q d)))))
 ·have:=of_decide_eq_false h;exact(aa FU I.n0 this).elim
noncomputable def AK.xu:AK->Addr
 |.arr=>427
 |.rows=>591
theorem AK.Nv(k:AK):cV (KK P) k.c "slot_count" k.xu:=by cases k;exact mF 427;exact mF 591
theorem AK.Nw{d:Nat}(k:AK):jd (cx G d) (.ref k.xu):=by cases k;exact kF;exact kF
theorem Nx(W:PG G)(h:ap L a (.obj k.c (bp m d [])))(q:Q (.int (k.cnt*m.most)) L):Sp G k.xu (dp+1) [.ref a] L Q E:=by
 have hc:k=.arr\/k=.rows:=by cases k;exact .inl rfl;exact .inr rfl
 rcases hc with rfl|rfl
 ·have q:Q (.int (((1:Nat):Int)*m.most)) L:=q;rw[show(((1:Nat):Int)*m.most)=m.most from Int.one_mul _] at q;exact gO 427 ["self"] [sf] [] [] (sq [.ret (.aG af "most")]) W (hH W (AK.mc _) h q)
 ·have q:Q (.int (((4:Nat):Int)*m.most)) L:=q;rw[show(((4:Nat):Int)*m.most)=m.most*4 from mul_comm _ _] at q;exact gO 591 ["self"] [sf] [] [sE] (sq [.ret (.bin .Mult (.aG af "most") aM)]) W (hH W (AK.mc _) h ⟨kj (by decide),q⟩)
noncomputable def l6 (m:MB):By:=replicate m.size.toNat 0
def iA(k:AK)(m:MB):MB:={m with vals:=replicate (k.cnt*m.most.toNat) (l6 m)}
theorem Ny(W:PG G)(I:g4 m)(q:∀d bs n,bs.length=(iA k m).vals.length->Q .none (bA a k.c (iA k m) [] d bs n++R)):Sp G 509 (dp+4) [.ref a,.str m.kind,.int m.number,.int m.kw,.int m.size,.int m.most] ((a,.obj k.c [])::R) Q E:=by
 have i0:=I.m0;have mE:1<=k.cnt:=by cases k<;>decide
 have GL:(k.cnt:Int)*m.most<=4*3:=mul_le_mul (aa uB (show k.cnt<=4 by cases k<;>decide)) I.m1 (aa gW i0) (by decide)
 have HE:((k.cnt:Int)*m.most).toNat=k.cnt*m.most.toNat:=by have:m.most=(m.most.toNat:Int):=aa uE i0;rw[this,←natCast_mul];rfl
 refine Sp.ent (.refl _) (gO 509 ["self","kind","number","key_width","value_width","most"] [sf,bI "kind",dT "number",jl "key_width",lD "value_width",vA "most",aI "slot"] [] [qZ,iU,vQ] (sq [.ex (.aC aM "__init__" (.ae af (.ae aB (.ae aX (.ae bC (.ae dL (wa d9))))))),.for [(.var 6)] false (.call cf (wa (.aC af "slot_count" .bT))) (sq [.f0 (.aG af "values") (.var 6) (.call eM (wa dL))])]) W (ax.cls W.B q5 vS ⟨kF,wb W k.mc I λd=>(ax.inst W.B (.tail .head) k.mc.cls k.Nv (aQ cZ rfl rfl) ⟨k.Nw,Nx W (.tail .head) (bd.range (pD (bx.eL (aa ⟨0,1,[.lz .v0 (.m 4 (.k 3))],.bh 0 1000000000000⟩ GL) (aa yo (mul_nonneg (aa eF) (aa gW i0):0<=(k.cnt:Int)*m.most))) (λi bU U U=>bU.length=i) (λi bU n' U=>ch bU (replicate i (l6 m))++((d,.di (vK bU.reverse) n')::(a,.obj k.c (bp m d []))::R)) (λU U U v=>⟨[some (.ref a),some (.str m.kind),some (.int m.number),some (.int m.kw),some (.int m.size),some (.int m.most),v],[]⟩) [] 0 _ rfl rfl rfl ?_ ?_))⟩)⟩))
 ·as_aux_lemma=>
  intro i bU n' v x hx hl
  lk
  refine xA (i6 hx) λiL hi=>?_;subst iL;refine⟨trivial,bd.TI (aa FX I.s0) (aa ⟨0,1,[.aL 0 16],.bh 0 1000000⟩ I.s1) λb=>fY W k.mc (.tail (.bE (.tail .head))) (dC.dk (dX _) (L':=λn'=>(b,.ba (l6 m))::(ch bU (replicate i (l6 m))++((d,.di (df (vK bU.reverse) (i:Nat) (.ref b)) n')::(a,.obj k.c (bp m d []))::R))) (λn'=>.tail (.bE .head)) (by rw[jr,length_reverse];exact aa ⟨2,1,[.lz .v0 (.m 4 (.k 3)),.aA 0 1,.iC 1 0],.aJ 0 1000000⟩ GL hl hi) λn2=>?_)⟩;refine(cz (b::bU,n2,_) (congrArg (· +1) hl) ?_ rfl)
  have e:df (vK bU.reverse) (i:Nat) (.ref b)=vK (b::bU).reverse:=by rw[reverse_cons,←qJ,length_reverse,hl]
  dsimp only;rw[e];rfl
 ·intro bU n' v hl;rw[gq,HE] at hl;rw[gq,HE];refine⟨trivial,bA a k.c (iA k m) [] d bU.reverse n'++R,.perm ?_,q d _ n' (by show _=(replicate _ _).length;rw[length_reverse,length_replicate];exact hl)⟩
  have p1:(ch bU (replicate (k.cnt*m.most.toNat) (l6 m))).Perm (ch bU.reverse (iA k m).vals):=by have:=Dx (bs:=bU) (vs:=replicate (k.cnt*m.most.toNat) (l6 m)) (by rw[length_replicate];exact hl);rw[List.reverse_replicate] at this;exact this
  refine(p1.append_right _).trans ?_;refine List.Perm.trans (l₂:=(ch bU.reverse (iA k m).vals++[(a,.obj k.c (bp m d [])),(d,.di (vK bU.reverse) n')])++R) ?_ (List.Perm.append_right R perm_append_comm);simp only[append_assoc];exact List.Perm.append_left _ (List.Perm.swap ..)
theorem tU(W:PG G)(I:g4 m)(q:∀a d bs n,bs.length=(iA k m).vals.length->Q (.ref a) (bA a k.c (iA k m) [] d bs n++R)):Sp G k.c (dp+5) [.str m.kind,.int m.number,.int m.kw,.int m.size,.int m.most] R Q E:=Sp.make (fI:=509) W.B k.mc.cls (by cases k;exact mF 509;exact(mF 509)) λx=>Ny W I λd bs n h=>⟨rfl,q x d bs n h⟩
end
theorem qK(h:((cD V.int (vK bs)).map (·.1))[i]?=some x):x=.int i/\i<bs.length:=by
 have key:∀(bs:List Addr)(j i:Nat)(x:V),((cD V.int (iQ j bs)).map (·.1))[i]?=some x->x=.int ((j+i:Nat):Int)/\i<bs.length:=by
  intro bs
  induction bs with
  |nil=>intro j i x h;cases h
  |cons b bs ih=>
   intro j i x h
   cases i with
   |zero=>cases h;exact⟨rfl,by simp⟩
   |succ i=>obtain⟨h1,h2⟩:=ih (j+1) i x h;refine⟨?_,by rw[length_cons];exact aa ⟨2,0,[.bg 0 1],.tn (.aj 0 1) (.aj 1 1)⟩ h2⟩;rw[h1];have:j+1+i=j+(i+1):=aa rg;rw[this]
 obtain⟨h1,h2⟩:=key bs 0 i x h;rw[Nat.zero_add] at h1;exact⟨h1,h2⟩
theorem oO:((cD V.int (vK bs)).map (·.1)).length=bs.length:=by unfold cD;rw[length_map,length_map,jr]
section
variable{L:HL}{c d:Addr}{k:AK}{ext:SV}
theorem w8{ft:Addr}{T:SV->HP}(W:PG G)(M:MC G.w.params c)(mt:cV (kG G) c "twin" ft)(kt:jd (cx G dp) (.ref ft))(he:o6 ext)(h:Rd L a c m ext d bs n)(go:m.vals.length<900)(hsz:∀v∈m.vals,v.length<900)
  (hT:∀e2 Gs,T e2 Gs->e2.length<=10)(tw:∀{Q':VP}{E':HP},(∀x d2 e2 Gs,T e2 Gs->Q' (.ref x) ((x,.obj c (bp m d2 e2))::(Gs++L)))->Sp G ft dp [.ref a] L Q' E')
  (q:∀x d3 eu n3 e2 Gs,T e2 Gs->eu.length=m.vals.length->Q (.ref x) (bA x c m e2 d3 eu n3++(Gs++L))):Sp G 469 (dp+1) [.ref a] L Q E:=by
 refine Sp.ent (.refl _) (gO 469 ["self"] [sf,aI "other",aI "slot"] [] [vQ] (sq [.asg (.var 1) (.aC af "twin" .bT),.du aB "values" .g7,.for [(.var 2)] false (.aG af "values") (sq [.f0 (.aG aB "values") (.var 2) (.call aM (wa (.sub (.aG af "values") (.var 2))))]),.ret aB]) W (ax.inst W.B h.obj M.cls mt (aQ he rfl rfl) ⟨kt,tw λx d2 e2 Gs ht d3=>db.obj W.B (attrs':=bp m d3 e2) (.tail rfl (.tail rfl (.tail rfl (.tail rfl (.tail rfl .head))))) (.tail .head) M.cls M.values (by have:=hT _ _ ht;show e2.length+6<=100;exact aa ⟨1,0,[.aS 0 10],.ln (.aj 0 6) (.k 100)⟩ this) (fY W M (.tail (.tail (.bE h.obj))) (pD (bx.dict W.B (.tail (.tail (.bE h.dict)))) (λi bU U U=>bU.length=i) (λi bU n' U=>ch bU (m.vals.take i).reverse++((d3,.di (vK bU.reverse) n')::(x,.obj c (bp m d3 e2))::(Gs++L))) (λU U U v=>⟨[some (.ref a),some (.ref x),v],[]⟩) [] 0 _ rfl rfl rfl ?_ ?_))⟩))
 ·intro i bU n' v y hy hl;obtain⟨rfl,hi⟩:=qK hy;have bz:=h.len;have zX:i<m.vals.length:=aa ra hi bz;have rd:Rd (ch bU (m.vals.take i).reverse++((d3,.di (vK bU.reverse) n')::(x,.obj c (bp m d3 e2))::(Gs++L))) a c m ext d bs n:=h.app.cons.cons.app;have hv:m.vals.getD (i:Int).toNat []=m.vals[i]:=by simp[getD_eq_getElem?_getD,zX]
  refine⟨rd.dict,fY W M rd.obj (a_.val W rfl rd (aa eF) (aa ⟨3,0,[.bg 0 1,.aA 1 2],.i9 0 2⟩ hi bz) λb0 vD=>bd.TK vD ?_ λb=>fY W M (.tail (.bE (.tail .head))) (dC.dk (dX _) (L':=λn2=>(b,.ba (m.vals.getD (i:Int).toNat []))::(ch bU (m.vals.take i).reverse++((d3,.di (df (vK bU.reverse) (i:Nat) (.ref b)) n2)::(x,.obj c (bp m d3 e2))::(Gs++L)))) (λn2=>.tail (.bE .head)) (by rw[jr,length_reverse];exact aa ⟨4,0,[.aJ 0 900,.aA 1 2,.bg 2 3,.aA 3 0],.aJ 1 1000000⟩ go hl hi bz) λn2=>(cz (b::bU,n2,_) (congrArg (· +1) hl) ?_ rfl)))⟩
  ·rw[hv];have:=hsz _ (getElem_mem zX);exact aa jF this
  ·have e:df (vK bU.reverse) (i:Nat) (.ref b)=vK (b::bU).reverse:=by rw[reverse_cons,←qJ,length_reverse,hl]
   dsimp only;rw[e,hv,take_add_one,gE zX];rw[List.reverse_append];rfl
 ·intro bU n' v hl;rw[oO,h.len] at hl;rw[oO,h.len,take_length];refine(dc (.bE (.tail (.tail (.bE h.dict)))) (bA x c m e2 d3 bU.reverse n'++(Gs++L)) (.perm ?_) (q x d3 _ n' e2 Gs ht (by rw[length_reverse];exact hl)))
  have p1:(ch bU m.vals.reverse).Perm (ch bU.reverse m.vals):=by have:=Dx (bs:=bU) (vs:=m.vals.reverse) (by rw[length_reverse];exact hl);rwa [List.reverse_reverse] at this
  refine(p1.append_right _).trans ?_;refine List.Perm.trans (l₂:=(ch bU.reverse m.vals++[(x,.obj c (bp m d3 e2)),(d3,.di (vK bU.reverse) n')])++(Gs++L)) ?_ (List.Perm.append_right _ perm_append_comm);simp only[append_assoc];exact List.Perm.append_left _ (List.Perm.swap ..)
theorem cM.new(I:cM k m):g4 m:=⟨by
 have e1:=I.kind;have e2:=I.kw
 cases k
 ·exact .inr (.inl ⟨e1,e2⟩)
 ·exact .inl ⟨e1,e2⟩,I.s0,I.s1,I.m0,I.m1,I.n0,I.n1⟩
noncomputable def AK.q9:AK->Addr
 |.arr=>572
 |.rows=>615
theorem Nz(W:PG G)(I:cM k m)(h:ap L a (.obj k.c (bp m d [])))(q:∀x d2 mH n2,mH.length=(iA k m).vals.length->Q (.ref x) (bA x k.c (iA k m) [] d2 mH n2++L)):Sp G k.q9 (dp+6) [.ref a] L Q E:=by
 have hc:k=.arr\/k=.rows:=by cases k;exact .inl rfl;exact .inr rfl
 rcases hc with rfl|rfl
 ·exact gO 572 ["self"] [sf] [] [Bc] (sq [.ret (.call aM (.ae (.aG af "kind") (.ae (.aG af "number") (.ae (.aG af "key_width") (.ae (.aG af "value_width") (wa (.aG af "most")))))))]) W ⟨kF,js W (AK.mc _) h (jn W (AK.mc _) h (mn W (AK.mc _) h (gZ W (AK.mc _) h (hH W (AK.mc _) h (tU W I.new q)))))⟩
 ·exact gO 615 ["self"] [sf] [] [BH] (sq [.ret (.call aM (.ae (.aG af "kind") (.ae (.aG af "number") (.ae (.aG af "key_width") (.ae (.aG af "value_width") (wa (.aG af "most")))))))]) W ⟨kF,js W (AK.mc _) h (jn W (AK.mc _) h (mn W (AK.mc _) h (gZ W (AK.mc _) h (hH W (AK.mc _) h (tU (k:=.rows) W I.new q)))))⟩
theorem NA(W:PG G)(I:cM k m)(h:Rd L a k.c m [] d bs n)(q:∀x d3 eu n3,eu.length=m.vals.length->Q (.ref x) (bA x k.c m [] d3 eu n3++L)):Sp G 469 (dp+7) [.ref a] L Q E:=by
 refine Sp.ent (.refl _) (w8 (ft:=k.q9) (T:=λe2 U=>e2=[]) W k.mc (by cases k;exact mF 572;exact(mF 615)) (by cases k;exact kF;exact kF) cZ h (aa FV I.len (mul_le_mul (aa uB (show k.cnt<=4 by cases k<;>decide)) I.m1 (aa gW I.m0) (by decide):(k.cnt:Int)*m.most<=4*3)) (λv hv=>by have:=I.each v hv;have:=I.s1;exact aa lq (by assumption) this) (λe2 Gs h=>by subst h;decide) (λ{Q' E'} hq=>?_) λx d3 eu n3 e2 Gs he hb=>?_)
 ·exact Nz W I h.obj λx d2 mH n2 hb=>hq x d2 [] ((d2,.di (vK mH) n2)::ch mH (iA k m).vals) rfl
 ·subst he;exact(ah _ (.sub (List.Sublist.append_left (sublist_append_right Gs L) _)) (q x d3 eu n3 hb))
end
set_option genCtorIdx true
inductive HK where
 |hash|bG
structure MH where
 b:MB
 az:List (Int×By)
 bks:List (List Int)
 order:List Int
structure HA where
 d:Addr
 bl:Addr
 kd:Addr
 ol:Addr
 bs:List Addr
 bas:List Addr
 n:Nat
 n2:Nat
noncomputable def HK.c:HK->Addr
 |.hash=>766
 |.bG=>837
noncomputable def HK.kind:HK->Str
 |.hash=>"hash"
 |.bG=>"lru"
noncomputable def HK.ext (k:HK) (x:HA):SV:=("buckets",.ref x.bl)::("key_by_slot",.ref x.kd)::(match k with|.hash=>[]|.bG=>[("order",.ref x.ol)])
theorem HK.cF(k:HK)(x:HA):o6 (k.ext x):=by
 cases k
 ·intro p h;rcases List.mem_cons.mp h with rfl|h
  ·rfl
  ·rcases List.mem_cons.mp h with rfl|h
   ·rfl
   ·lk
    cases h
 ·intro p h;rcases List.mem_cons.mp h with rfl|h
  ·rfl
  ·rcases List.mem_cons.mp h with rfl|h
   ·rfl
   ·rcases List.mem_cons.mp h with rfl|h
    ·rfl
    ·cases h
noncomputable def dw (az:List (Int×By)):List (Int×V):=az.map λp=>(p.1,V.bytes p.2)
noncomputable def bB (az:List (Int×By)) (s:Int):Option By:=(az.find? λp=>p.1=s).map (·.2)
theorem mQ(az:List (Int×By))(s:Int):bL (dw az) s=(bB az s).map V.bytes:=by
 induction az with
 |nil=>rfl
 |cons p az ih=>
  unfold dw bL bB at ih⊢;rw[map_cons,find?_cons,find?_cons];by_cases e:p.1=s
  ·simp only[e,decide_true];rfl
  ·simp only[e,decide_false];exact ih
def dU(bas:List Addr)(bks:List (List Int)):HL:=zipWith (λb l=>(b,Cl.list (l.map V.int))) bas bks
theorem tV:∀{bas:List Addr}{bks:List (List Int)}{i:Nat}{b:Addr}{v w:List Int},bas[i]?=some b->bks[i]?=some v->bK (dU bas bks) b (.list (v.map V.int)) (.list (w.map V.int)) (dU bas (bks.set i w))
 |[],_,_,_,_,_,h,_=>by cases h
 |_::_,[],_,_,_,_,_,h=>by cases h
 |b::bas,v::bks,0,_,_,_,h,h'=>by cases h;cases h';exact .head
 |b::bas,v::bks,i+1,_,_,_,h,h'=>.tail (tV (bas:=bas) (bks:=bks) h h')
theorem LN{bas:List Addr}{bks:List (List Int)}{b:Addr}{v:List Int}(h:bas[i]?=some b)(h':bks[i]?=some v):ap (dU bas bks) b (.list (v.map V.int)):=(tV (w:=v) h h').pick
def kl(k:HK)(ol:Addr)(order:List Int):HL:=match k with
 |.hash=>[]
 |.bG=>[(ol,.list (order.map V.int))]
def bR(k:HK)(a:Addr)(m:MH)(x:HA)(R:HL):HL:=(a,.obj k.c (bp m.b x.d (k.ext x)))::(x.bl,.list (x.bas.map V.ref))::(x.kd,.di (dw m.az) x.n2)::(x.d,.di (vK x.bs) x.n)::(kl k x.ol m.order++(dU x.bas m.bks++(ch x.bs m.b.vals++R)))
structure HA.Ok(x:HA)(m:MH):Prop where
 bs:x.bs.length=m.b.vals.length
 bas:x.bas.length=m.bks.length
def cH(m:MH)(key:By):Nat:=(Builtin.bitAnd (lZ key) ((m.bks.length:Int)-1)).toNat
structure iy(m:MH):Prop where
 bk:∀(i:Nat) l,m.bks[i]?=some l->l.Nodup/\∀s∈l,∃key,bB m.az s=some key/\cH m key=i
 kb:∀s key,bB m.az s=some key->(∃l,m.bks[cH m key]?=some l/\s∈l)/\0<=s/\s<m.b.most/\(key.length:Int)=m.b.kw
 kn:(m.az.map (·.1)).Nodup
structure pF(k:HK)(m:MH):Prop where
 kind:m.b.kind=k.kind
 hJ:gM m.b.kind m.b.kw
 s0:1<=m.b.size
 s1:m.b.size<=16
 m0:1<=m.b.most
 m1:m.b.most<=3
 n0:0<=m.b.number
 n1:m.b.number<64
 len:(m.b.vals.length:Int)<=m.b.most
 each:∀v∈m.b.vals,(v.length:Int)=m.b.size
 bl:(m.bks.length:Int)=fA m.b.most
structure cq(k:HK)(m:MH):Prop extends pF k m where
 core:iy m
 lt:∀s,(bB m.az s).isSome=true->s<m.b.vals.length
 ord:k=.bG->m.order.Nodup/\∀s,s∈m.order↔(bB m.az s).isSome=true
theorem w9{m:MH}(h:1<=m.bks.length)(key:By):cH m key<m.bks.length:=by have:=w5 (lZ key) (y:=(m.bks.length:Int)-1) (aa FY h);exact aa ⟨1,1,[.an (.ak 0 0) (.lz .v0 (.mv 0 1))],.tn (.t .v0) .v0⟩ this
theorem lT{n:Int}:1<=fA n/\fA n<=4:=by exact aa ⟨0,3,[.oo (.an (.aL 0 1) (.be 1 1)) (.an (.no (.aL 0 1)) (.bM 1 2)),.oo (.an (.aL 0 2) (.be 2 2)) (.an (.no (.aL 0 2)) (.be 2 4))],.an (.ak 1 1) (.aL 1 4)⟩ io io
section
variable{P:Params}(k:HK)
theorem HK.mc:MC P k.c:=by
 cases k
 ·exact⟨sW,aF,aF,aF,aF,aF,aF⟩
 ·exact⟨LK,aF,aF,aF,aF,aF,aF⟩
theorem HK.wm:jg (KK P) k.c "buckets":=by cases k;exact aF;exact aF
theorem HK.Fv:jg (KK P) k.c "key_by_slot":=by cases k;exact aF;exact aF
theorem HK.sI:cV (KK P) k.c "check_key" 320:=by cases k;exact mF 320;exact mF 320
theorem HK.vM:cV (KK P) k.c "check_value" 327:=by cases k;exact mF 327;exact mF 327
theorem HK.ur:cV (KK P) k.c "lay" 448:=by cases k;exact mF 448;exact mF 448
theorem HK.oN:cV (KK P) k.c "value" 413:=by cases k;exact mF 413;exact mF 413
theorem HK.wH:cV (KK P) k.c "bucket" 653:=by cases k;exact mF 653;exact mF 653
theorem HK.oY:cV (KK P) k.c "peer" 660:=by cases k;exact mF 660;exact mF 660
theorem HK.A0:cV (KK P) k.c "free_slot" 689:=by cases k;exact mF 689;exact mF 689
theorem HK.Pk:cV (KK P) k.c "link" 711:=by cases k;exact mF 711;exact mF 711
theorem HK.m_keys:cV (KK P) k.c "keys" 730:=by cases k;exact mF 730;exact mF 730
noncomputable def HK.ya:HK->Addr
 |.hash=>675
 |.bG=>789
theorem HK.xv:cV (KK P) k.c "used" k.ya:=by cases k;exact mF 675;exact mF 789
theorem HK.xw{d:Nat}:jd (cx G d) (.ref k.ya):=by cases k;exact kF;exact kF
noncomputable def HK.yb:HK->Addr
 |.hash=>696
 |.bG=>796
theorem HK.Pm:cV (KK P) k.c "room" k.yb:=by cases k;exact mF 696;exact mF 796
theorem HK.k_room{d:Nat}:jd (cx G d) (.ref k.yb):=by cases k;exact kF;exact kF
noncomputable def HK.w_:HK->Addr
 |.hash=>718
 |.bG=>810
theorem HK.CD:cV (KK P) k.c "unlink" k.w_:=by cases k;exact mF 718;exact mF 810
theorem HK.CE{d:Nat}:jd (cx G d) (.ref k.w_):=by cases k;exact kF;exact kF
end
structure bN(k:HK)(L:HL)(a:Addr)(m:MH)(x:HA):Prop where
 rd:Rd L a k.c m.b (k.ext x) x.d x.bs x.n
 bl:ap L x.bl (.list (x.bas.map V.ref))
 kd:ap L x.kd (.di (dw m.az) x.n2)
 ord:k=.bG->ap L x.ol (.list (m.order.map V.int))
 bks:∀(i:Nat) b v,x.bas[i]?=some b->m.bks[i]?=some v->ap L b (.list (v.map V.int))
 len:x.bas.length=m.bks.length
variable{k:HK}{x:HA}
theorem bN.base{m:MH}(h:x.Ok m):bN k (bR k a m x R) a m x:=⟨⟨.head,.tail (.tail (.tail .head)),λi b v h1 h2=>.tail (.tail (.tail (.tail (.bE (.bE (.gi (CA h1 h2))))))),h.bs⟩,.tail .head,.tail (.tail .head),λe=>by subst e;exact .tail (.tail (.tail (.tail .head))),λi b v h1 h2=>.tail (.tail (.tail (.tail (.bE (.gi (LN h1 h2)))))),h.bas⟩
theorem bN.cons{m:MH}{p:_}(h:bN k L a m x):bN k (p::L) a m x:=⟨h.rd.cons,.tail h.bl,.tail h.kd,λe=>.tail (h.ord e),λi b v h1 h2=>.tail (h.bks i b v h1 h2),h.len⟩
theorem bN.app{m:MH}(h:bN k L a m x):bN k (L'++L) a m x:=⟨h.rd.app,.bE h.bl,.bE h.kd,λe=>.bE (h.ord e),λi b v h1 h2=>.bE (h.bks i b v h1 h2),h.len⟩
section
variable{L:HL}{m:MH}
theorem wn(W:PG G)(h:bN k L a m x)(q:Q (.ref x.bl) L):dG (cx G dp) (.ref a) "buckets" L Q E:=dG.obj W.B h.rd.obj (.tail (.tail (.tail (.tail (.tail (.tail .head)))))) k.mc.cls k.wm trivial q
theorem j6(W:PG G)(h:bN k L a m x)(q:Q (.ref x.kd) L):dG (cx G dp) (.ref a) "key_by_slot" L Q E:=dG.obj W.B h.rd.obj (.tail (.tail (.tail (.tail (.tail (.tail (.tail .head))))))) k.mc.cls k.Fv trivial q
theorem wI(W:PG G)(h:bN k L a m x)(hb:1<=m.bks.length)(p9:m.bks.length<=4)(q:∀b l,x.bas[cH m key]?=some b->m.bks[cH m key]?=some l->Q (.ref b) L):Sp G 653 (dp+2) [.ref a,.bytes key] L Q E:=by
 have aT:=w9 hb key;have hl:=h.len;have h1:=gE (l:=x.bas) (i:=cH m key) (aa uF aT hl);refine gO 653 ["self","key"] [sf,bI "key"] [] [("hash_of",.ref 627),jx] (sq [.ret (.sub (.aG af "buckets") (.bin .BitAnd (.call aM (wa aB)) (.bin .Sub (.call cf (wa (.aG af "buckets"))) (.int 1))))]) W (wn W h ⟨kF,KA W (wn W h (br.pn h.bl (by rw[length_map];exact aa FZ p9 hl) (a_.list h.bl (v:=.ref x.bas[cH m key]) ?_ (q _ _ h1 (gE aT)))))⟩)
 have:=w5 (lZ key) (y:=(m.bks.length:Int)-1) (aa FY hb);have gF:(x.bas.length:Int)=(m.bks.length:Int):=aa yq hl;unfold cy;simp only[length_map,gF];rw[if_pos ⟨this.1,aa ⟨1,1,[.aS 0 4,.an (.ak 0 0) (.lz .v0 (.mv 0 1))],.bh 0 1000000⟩ p9 this⟩,getElem?_map];show Option.map V.ref x.bas[cH m key]?=_;rw[h1];rfl
def j7(m:MH)(key:By):Option Int:=(m.bks.getD (cH m key) []).find? λs=>bB m.az s=some key
def fD(m:MH)(key:By):V:=match j7 m key with
 |some s=>.int s
 |none=>.none
theorem uc(W:PG G)(I:pF k m)(I2:iy m)(h:bN k L a m x)(hk:(key.length:Int)=m.b.kw)(q:Q (fD m key) L):Sp G 660 (dp+3) [.ref a,.bytes key] L Q E:=by
 have hb:=I.bl;have gX:=lT (n:=m.b.most);refine gO 660 ["self","key"] [sf,bI "key",aI "told",aI "slot"] [] [] (sq [.asg (.var 2) (.aC af "check_key" (wa aB)),.for [(.var 3)] false (.aC af "bucket" (wa aX)) (sq [.ite (.cmp .Eq (.sub (.aG af "key_by_slot") (.var 3)) (.var 2)) (sq [.ret bC]) .nil]),.ret .none]) W (ax.inst W.B h.rd.obj k.mc.cls k.sI (aQ (k.cF x) rfl rfl) ⟨kF,vU W k.mc h.rd.obj hk (aa ⟨1,1,[.dP 0 0,.aL 0 4],.aJ 0 900⟩ hk I.hJ.le.2) (ax.inst W.B h.rd.obj k.mc.cls k.wH (aQ (k.cF x) rfl rfl) ⟨kF,wI W h (aa rj hb gX) (aa yr hb gX) λb l h1 h2=>pC (bx.list (h.bks _ _ _ h1 h2)) (λi U=>(l.take i).find? (λs=>bB m.az s=some key)=none) (λU U=>L) (λU v=>⟨[some (.ref a),some (.bytes key),some (.bytes key),v],[]⟩) _ rfl rfl rfl ?_ ?_⟩)⟩)
 ·intro i v y hy jO;rw[getElem?_map] at hy;refine ai (Option.map_eq_some_iff.mp hy) λs hs aw=>?_;refine av (Eq.symm aw) ?_;obtain⟨iz,cW,_⟩:=(I2.bk _ _ h2).2 s (mem_of_getElem? hs);refine⟨h.bks _ _ _ h1 h2,j6 W h (a_.dk (dX _) h.kd (v:=.bytes iz) (by rw[mQ,cW];rfl) (aV.eqB ⟨λe=>?_,λe=>?_⟩))⟩
  ·have e:iz=key:=eq_of_beq e;subst e
   have:fD m iz=.int s:=by
    unfold fD j7;rw[getD_eq_getElem?_getD,h2];show(match find? _ l with|some s=>V.int s|none=>V.none)=_
    have hl:l=l.take i++s::l.drop (i+1):=by rw[←((gS hs)).2,List.getElem_cons_drop,List.take_append_drop]
    rw[hl,find?_append,jO,find?_cons,cW];simp
   rw[this] at q;exact q
  ·refine(cz _ ?_ rfl rfl);dsimp only;rw[take_add_one,hs,find?_append,jO];show Option.or none (find? _ [s])=none;rw[find?_cons,cW];simp[(show¬iz=key by simpa using e)]
 ·intro v jO;rw[length_map,take_length] at jO;refine⟨h.bks _ _ _ h1 h2,?_⟩
  have:fD m key=.none:=by unfold fD j7;rw[getD_eq_getElem?_getD,h2];show(match find? _ l with|some s=>V.int s|none=>V.none)=_;rw[jO]
  rw[this] at q;exact q
end
set_option genCtorIdx false
theorem IK:Slot "list" "append" "list.append":=
 .of (owner:="list") (n:="append") (by mg_lt) (by z_go) (by z_go) (by z_go)
  (by first|exact .inl (by z_go)|exact .inr (by z_go)) (by rw[isSubtype_type];x_go)
theorem IL:Slot "list" "insert" "list.insert":=
 .of (owner:="list") (n:="insert") (by mg_lt) (by z_go) (by z_go) (by z_go)
  (by first|exact .inl (by z_go)|exact .inr (by z_go)) (by rw[isSubtype_type];x_go)
theorem IM:Slot "list" "remove" "list.remove":=
 .of (owner:="list") (n:="remove") (by mg_lt) (by z_go) (by z_go) (by z_go)
  (by first|exact .inl (by z_go)|exact .inr (by z_go)) (by rw[isSubtype_type];x_go)
theorem J0:Slot "dict" "pop" "dict.pop":=
 .of (owner:="dict") (n:="pop") (by mg_lt) (by z_go) (by z_go) (by z_go)
  (by first|exact .inl (by z_go)|exact .inr (by z_go)) (by rw[isSubtype_type];x_go)
theorem J1:Slot "dict" "get" "dict.get":=
 .of (owner:="dict") (n:="get") (by mg_lt) (by z_go) (by z_go) (by z_go)
  (by first|exact .inl (by z_go)|exact .inr (by z_go)) (by rw[isSubtype_type];x_go)
section
variable{L:HL}{Q:V×List V->HP}{es:List (V×V)}
theorem ax.append(h:ap L a (.list xs))(q:Q (.bi "list.append",[.ref a]) L):ax C (.ref a) "append" L Q E:=ax.xW h IK (by x_go) q
theorem ax.insert(h:ap L a (.list xs))(q:Q (.bi "list.insert",[.ref a]) L):ax C (.ref a) "insert" L Q E:=ax.xW h IL (by x_go) q
theorem ax.remove(h:ap L a (.list xs))(q:Q (.bi "list.remove",[.ref a]) L):ax C (.ref a) "remove" L Q E:=ax.xW h IM (by x_go) q
theorem ax.Sk(h:ap L a (.dict es n))(q:Q (.bi "dict.pop",[.ref a]) L):ax C (.ref a) "pop" L Q E:=ax.Fc h J0 (by x_go) q
theorem ax.bL(h:ap L a (.dict es n))(q:Q (.bi "dict.get",[.ref a]) L):ax C (.ref a) "get" L Q E:=ax.Fc h J1 (by x_go) q
end
theorem th(az:List (Int×By))(s t:Int)(key:By):bB (az++[(s,key)]) t=(bB az t).or (if s=t then some key else none):=by
 unfold bB;refine(find?_append)▸?_
 cases h:az.find? (λp=>p.1=t) with
 |some p=>rfl
 |none=>
  show([(s,key)].find? λp=>p.1=t).map (·.2)=_;rw[find?_cons];by_cases e:s=t
  ·rw[if_pos e];simp[e]
  ·rw[if_neg e];simp[e]
theorem wJ(az:List (Int×By))(s t:Int):bB (az.filter λp=>!(decide (p.1=s))) t=if t=s then none else bB az t:=by
 induction az with
 |nil=>unfold bB;simp
 |cons p az ih=>
  unfold bB at ih⊢;rw[filter_cons,find?_cons];by_cases e:p.1=s
  ·rw[if_neg (by simp[e]),ih];by_cases e2:t=s
   ·rw[if_pos e2,if_pos e2]
   ·rw[if_neg e2,if_neg e2];have:¬p.1=t:=λh=>e2 (by rw[←h,e]);simp only[this,decide_false]
  ·rw[if_pos (by simp[e]),find?_cons,];by_cases e2:p.1=t
   ·have:¬t=s:=λh=>e (by rw[e2,h]);simp only[e2,decide_true];rw[if_neg this]
   ·simp only[e2,decide_false];exact ih
variable{az:List (Int×By)}
theorem sZ:bB az s=none↔s∉az.map (·.1):=by
 unfold bB;rw[Option.map_eq_none_iff,List.find?_eq_none];constructor
 ·intro h hm;refine ai (List.mem_map.mp hm) λp hp aw=>?_;subst aw;exact h p hp (by simp)
 ·intro h p hp e;exact h (List.mem_map.mpr (ah p hp (of_decide_eq_true e)))
theorem CF(h:bB az s=none):df (dw az) s (.bytes key)=dw (az++[(s,key)]):=by
 unfold df;rw[if_neg]
 ·unfold dw;rw[map_append];rfl
 ·intro h2;refine ai (List.any_eq_true.mp h2) λp hp e=>?_;refine ai (List.mem_map.mp hp) λp2 om aw=>?_;subst aw;exact sZ.mp h (List.mem_map.mpr (ah p2 om (of_decide_eq_true e)))
theorem LO(az:List (Int×By))(s:Int):pp (dw az) s=dw (az.filter λp=>!(decide (p.1=s))):=by unfold pp dw;rw[List.filter_map];rfl
def fE(m:MH)(key:By)(s:Int):MH:={m with az:=m.az++[(s,key)],bks:=m.bks.set (cH m key) (s::m.bks.getD (cH m key) [])}
def gY(m:MH)(key:By)(s:Int):MH:={m with az:=m.az.filter λp=>!(decide (p.1=s)),bks:=m.bks.set (cH m key) ((m.bks.getD (cH m key) []).erase s)}
theorem s9(m:MH)(key k2:By)(s:Int):cH (fE m key s) k2=cH m k2:=by unfold cH fE;simp
theorem vV(m:MH)(key k2:By)(s:Int):cH (gY m key s) k2=cH m k2:=by unfold cH gY;simp
theorem KG{m:MH}(I:iy m)(hb:1<=m.bks.length)(hn:bB m.az s=none)(h0:0<=s)(h1:s<m.b.most)(hk:(key.length:Int)=m.b.kw):iy (fE m key s):=by
 have aT:=w9 hb key;have hg:=gE aT
 have iR:∀t k2,bB m.az t=some k2->bB (fE m key s).az t=some k2:=λt k2 h=>by show bB (m.az++[(s,key)]) t=_;rw[th,h];rfl
 have Uo:bB (fE m key s).az s=some key:=by show bB (m.az++[(s,key)]) s=_;rw[th,hn,if_pos rfl];rfl
 refine⟨λi l hl=>?_,λt k2 ht=>?_,?_⟩
 ·have hl:(m.bks.set (cH m key) (s::m.bks.getD (cH m key) []))[i]?=some l:=hl;by_cases e:cH m key=i
  ·subst e;rw[getElem?_set_self aT] at hl;refine av (Eq.symm (Option.some.inj hl)) ?_;refine(getD_eq_getElem?_getD)▸?_;refine(hg)▸?_;refine xA (I.bk _ _ hg) λh2 h3=>?_;refine⟨List.nodup_cons.mpr ⟨λhm=>?_,h2⟩,λt ht=>?_⟩
   ·refine ai (h3 s hm) λk2 cW U=>?_;rw[hn] at cW;cases cW
   ·lk
    rcases List.mem_cons.mp ht with rfl|ht
    ·exact(ah key Uo (s9 ..))
    ·refine ai (h3 t ht) λk2 cW e=>?_;exact(ah k2 (iR _ _ cW) (by rw[s9];exact e))
  ·rw[getElem?_set_ne e] at hl
   lk
   refine xA (I.bk _ _ hl) λh2 h3=>?_;refine⟨h2,λt ht=>?_⟩;refine ai (h3 t ht) λk2 cW e=>?_;exact(ah k2 (iR _ _ cW) (by rw[s9];exact e))
 ·have ht:bB (m.az++[(s,key)]) t=some k2:=ht;rw[th] at ht;rw[s9];show(∃l,(m.bks.set (cH m key) (s::m.bks.getD (cH m key) []))[cH m k2]?=some l/\t∈l)/\_
  cases h:bB m.az t with
  |some k3=>
   rw[h] at ht
   lk
   obtain rfl:k3=k2:=Option.some.inj ht;obtain⟨⟨l,hl,hm⟩,h4⟩:=I.kb _ _ h;refine⟨?_,h4⟩;by_cases e:cH m key=cH m k3
   ·rw[←e,getElem?_set_self aT];refine(ah _ rfl (mem_cons_of_mem _ ?_));rw[getD_eq_getElem?_getD,e,hl];exact hm
   ·rw[getElem?_set_ne e];exact(ah l hl hm)
  |none=>
   rw[h] at ht;have ht:(if s=t then some key else none)=some k2:=ht;by_cases e:s=t
   ·rw[if_pos e] at ht;refine av (Eq.symm (Option.some.inj ht)) ?_;refine av (Eq.symm e) ?_;rw[getElem?_set_self aT];exact(l7 (ah _ rfl (mem_cons_self ..)) h0 h1 hk)
   ·rw[if_neg e] at ht;cases ht
 ·show((m.az++[(s,key)]).map (·.1)).Nodup;rw[map_append,nodup_append];refine(bj I.kn (List.nodup_cons.mpr ⟨not_mem_nil,nodup_nil⟩) (λa ha b hb e=>?_));obtain rfl:=List.mem_singleton.mp hb;exact sZ.mp hn (e▸ha)
theorem Jf{m:MH}(I:iy m)(hb:1<=m.bks.length)(hs:bB m.az s=some key):iy (gY m key s):=by
 have aT:=w9 hb key;have hg:=gE aT;have iR:∀t,bB (gY m key s).az t=if t=s then none else bB m.az t:=λt=>wJ _ _ _
 refine⟨λi l hl=>?_,λt k2 ht=>?_,?_⟩
 ·have hl:(m.bks.set (cH m key) ((m.bks.getD (cH m key) []).erase s))[i]?=some l:=hl;by_cases e:cH m key=i
  ·subst e;rw[getElem?_set_self aT] at hl;refine av (Eq.symm (Option.some.inj hl)) ?_;refine(getD_eq_getElem?_getD)▸?_;refine(hg)▸?_;refine xA (I.bk _ _ hg) λh2 h3=>?_;refine⟨h2.erase s,λt ht=>?_⟩
   lk
   obtain⟨h4,h5⟩:=h2.mem_erase_iff.mp (ht:t∈(m.bks[cH m key]).erase s);refine ai (h3 t h5) λk2 cW e=>?_;exact(ah k2 (by rw[iR,if_neg h4];exact cW) (by rw[vV];exact e))
  ·rw[getElem?_set_ne e] at hl;obtain⟨h2,h3⟩:=I.bk _ _ hl;refine⟨h2,λt ht=>?_⟩;refine ai (h3 t ht) λk2 cW e2=>?_;refine(ah k2 ?_ (by rw[vV];exact e2));rw[iR,if_neg]
   ·exact cW
   ·rintro rfl
    rw[hs] at cW;obtain rfl:=Option.some.inj cW;exact e e2
 ·rw[iR] at ht;by_cases e:t=s
  ·rw[if_pos e] at ht;cases ht
  ·rw[if_neg e] at ht;rw[vV]
   lk
   obtain⟨⟨l,hl,hm⟩,h4⟩:=I.kb _ _ ht;refine⟨?_,h4⟩;show∃l,(m.bks.set (cH m key) ((m.bks.getD (cH m key) []).erase s))[cH m k2]?=some l/\t∈l;by_cases e2:cH m key=cH m k2
   ·rw[←e2,getElem?_set_self aT];refine(ah _ rfl ?_);rw[getD_eq_getElem?_getD,e2,hl];exact(List.mem_erase_of_ne e).mpr hm
   ·rw[getElem?_set_ne e2];exact(ah l hl hm)
 ·show((m.az.filter _).map (·.1)).Nodup;exact I.kn.sublist (List.Sublist.map _ (List.filter_sublist))
theorem oE:∀(n:Nat)(l:List Int),l.Nodup->(∀s∈l,0<=s/\s<n)->l.length<=n
 |0,l,_,h=>by
  cases l with
  |nil=>exact Nat.le_refl 0
  |cons x l=>have:=h x (mem_cons_self ..);exact aa ⟨1,1,[.an (.ak 0 0) (.tz .v0 (.c (.k 0)))],.aS 0 0⟩ this
 |n+1,l,hn,h=>by
  have ih:=oE n (l.erase (n:Int)) (hn.erase _) λs hs=>by obtain⟨h1,h2⟩:=hn.mem_erase_iff.mp hs;have:=h s h2;exact aa ⟨1,1,[.no (.fg 0 0),.an (.ak 0 0) (.tz .v0 (.c (.aj 0 1)))],.an (.ak 0 0) (.eJ 0 0)⟩ h1 this
  by_cases e:(n:Int)∈l
  ·have:=List.length_erase_of_mem e;exact aa ⟨3,0,[.bY 0 1,.en .v0 (.dK 2 1)],.ln .v2 (.aj 1 1)⟩ ih this
  ·rw[List.erase_of_not_mem e] at ih;exact aa FM ih
theorem iy.rB{m:MH}(I:iy m)(h:m.b.most<=3):m.az.length<=3:=by
 have:=oE 3 (m.az.map (·.1)) I.kn λs hs=>by
  cases e:bB m.az s with
  |none=>exact absurd hs (sZ.mp e)
  |some key=>have:=(I.kb _ _ e).2;exact aa F0 h this
 rwa [length_map] at this
theorem iy.y0{m:MH}(I:iy m)(h:m.b.most<=3){l:List Int}(hl:m.bks[i]?=some l):l.length<=3:=by
 refine xA (I.bk _ _ hl) λh1 h2=>?_
 exact oE 3 l h1 λs hs=>by refine ai (h2 s hs) λkey e U=>?_;have:=(I.kb _ _ e).2;exact aa F0 h this
section
variable{P:Params}(k:HK)
theorem HK.xa:jg (KK P) HK.bG.c "order":=aF
end
theorem KH(a b c d:α)(O K V R:List α):Perm (a::b::c::d::(O++(K++(V++R)))) (a::d::(V++(b::c::(O++(K++R))))):=by
 refine List.Perm.cons a ?_;refine List.Perm.trans (perm_middle (l₁:=[b,c]) (l₂:=O++(K++(V++R))) (a:=d)) (List.Perm.cons d ?_);show Perm ([b,c]++(O++(K++(V++R)))) (V++([b,c]++(O++(K++R))));have h1:[b,c]++(O++(K++(V++R)))=([b,c]++O++K)++(V++R):=by simp
 have h2:[b,c]++(O++(K++R))=([b,c]++O++K)++R:=by simp
 rw[h1,h2,←append_assoc,←append_assoc];exact List.Perm.append_right R perm_append_comm
section
variable{L:HL}{m:MH}
theorem kO(W:PG G)(h:bN .bG L a m x)(q:Q (.ref x.ol) L):dG (cx G dp) (.ref a) "order" L Q E:=dG.obj W.B h.rd.obj (.tail (.tail (.tail (.tail (.tail (.tail (.tail (.tail .head)))))))) HK.bG.mc.cls HK.xa trivial q
theorem A1(W:PG G)(h:bN k L a m x)(m0:1<=m.b.most)(m1:m.b.most<=3)(q:∀s:Int,0<=s->s<m.b.most->bB m.az s=none->(∀j,0<=j->j<s->(bB m.az j).isSome=true)->Q (.int s) L)(q2:(∀j,0<=j->j<m.b.most->(bB m.az j).isSome=true)->Q .none L):Sp G 689 (dp+1) [.ref a] L Q E:=by
 refine gO 689 ["self"] [sf,aI "slot"] [] [iU] (sq [.for [(.var 1)] false (.call aM (wa (.aG af "most"))) (sq [.ite (.cmp .NotIn aB (.aG af "key_by_slot")) (sq [.ret aB]) .nil]),.ret .none]) W (hH W k.mc h.rd.obj (bd.range (pC (bx.eL (aa ri m1) (aa uG m0)) (λi U=>∀j:Int,0<=j->j<i->(bB m.az j).isSome=true) (λU U=>L) (λU v=>⟨[some (.ref a),v],[]⟩) _ (λj h0 h1=>(aa ⟨0,1,[.ak 0 0,.tz .v0 (.c (.k 0))],.ff⟩ h0 h1).elim) rfl rfl ?_ ?_)))
 ·intro i v y hy hj;obtain⟨rfl,hi⟩:=i6 hy;refine⟨trivial,j6 W h (aV.D7 W.B (dX _) h.kd ⟨λe=>?_,λe=>?_⟩)⟩
  ·rw[mQ,Option.isSome_map] at e;refine q i (aa eF) hi ?_ λj h0 h1=>hj j h0 h1
   cases h2:bB m.az i with
   |none=>rfl
   |some _=>rw[h2] at e;cases e
  ·rw[mQ,Option.isSome_map] at e;refine(cz _ (λj h0 h1=>?_) rfl rfl);by_cases h3:j<i
   ·exact hj j h0 h3
   ·as_aux_lemma=>
    have:j=i:=aa ⟨1,1,[.tz .v0 (.c (.aj 0 1)),.no (.eJ 0 0)],.fg 0 0⟩ h1 h3;refine av this ?_
    cases h2:(bB m.az (i:Int)).isSome with
    |true=>rfl
    |false=>rw[h2] at e;cases e
 ·intro v hj;rw[gq] at hj;exact⟨trivial,q2 λj h0 h1=>hj j h0 (aa ⟨0,2,[.cj 0 1],.tz .v0 (.c (.t .v1))⟩ h1)⟩
noncomputable def nh (k:HK) (m:MH) (s:Int):MH:=match k with
 |.hash=>m
 |.bG=>{m with order:=m.order.erase s++[s]}
theorem xx(W:PG G)(hx:x.Ok m)(ho:k=.bG->m.order.length<900)(q:Q .none (bR k a (nh k m s) x R)):Sp G k.ya (dp+1) [.ref a,.int s] (bR k a m x R) Q E:=by
 cases k
 ·exact gO 675 ["self","slot"] [sf,bI "slot"] [] [] (sq [.ret .none]) W q
 ·have ho:=ho rfl;have rd:∀m:MH,x.Ok m->bN .bG (bR .bG a m x R) a m x:=λm h=>.base h
  have app:∀(Q':VP)(o:List Int),o.length<900->Q' .none (bR .bG a {m with order:=o++[s]} x R)->br (cx G dp) "list.append" [.ref x.ol,.int s] (bR .bG a {m with order:=o} x R) Q' E:=λQ' o ho q=>by
   refine br.append (xs:=o.map V.int) (v:=.int s) (L':=bR .bG a {m with order:=o++[s]} x R) ?_ (by rw[length_map];exact aa jF ho) q;have e:o.map V.int++[V.int s]=(o++[s]).map V.int:=by rw[map_append];rfl
   rw[e];exact .tail (.tail (.tail (.tail .head)))
  refine gO 789 ["self","slot"] [sf,bI "slot"] [] [] (sq [.ite (.cmp .In aB (.aG af "order")) (sq [.ex (.aC (.aG af "order") "remove" (wa aB))]) .nil,.ex (.aC (.aG af "order") "append" (wa aB))]) W (kO W (rd m hx) (aV.yQ ((rd m hx).ord rfl) (wx _ _) ⟨λe=>?_,λe=>?_⟩))
  ·have hm:s∈m.order:=by refine ai (List.any_eq_true.mp e) λy hy e=>?_;exact eq_of_beq e▸hy
   refine kO W (rd m hx) (ax.remove ((rd m hx).ord rfl) (br.wX (ns:=m.order) (L':=bR .bG a {m with order:=m.order.erase s} x R) (.tail (.tail (.tail (.tail .head)))) hm (aa jF ho) (kO W (rd {m with order:=m.order.erase s} ⟨hx.bs,hx.bas⟩) (ax.append ((rd {m with order:=m.order.erase s} ⟨hx.bs,hx.bas⟩).ord rfl) (app _ _ (by rw[List.length_erase_of_mem hm];exact aa ⟨1,0,[.aJ 0 900],.tn (.dK 0 1) (.k 900)⟩ ho) q)))))
  ·have hm:s∉m.order:=λhm=>by have:(m.order.any (· ==s))=true:=List.any_eq_true.mpr (ah s hm (beq_self_eq_true s));rw[this] at e;cases e
   have e2:nh .bG m s={m with order:=m.order++[s]}:=by unfold nh;rw[List.erase_of_not_mem hm]
   rw[e2] at q;exact kO W (rd m hx) (ax.append ((rd m hx).ord rfl) (app _ _ ho q))
theorem Pn(W:PG G)(hx:x.Ok m)(I:iy m)(hb:1<=m.bks.length)(p9:m.bks.length<=4)(m1:m.b.most<=3)(hn:bB m.az s=none)(q:∀n',Q .none (bR k a (fE m key s) {x with n2:=n'} R)):Sp G 711 (dp+3) [.ref a,.bytes key,.int s] (bR k a m x R) Q E:=by
 have rd:bN k (bR k a m x R) a m x:=.base hx;have hk:=I.rB m1;refine gO 711 ["self","key","slot"] [sf,bI "key",dT "slot"] [] [] (sq [.f0 (.aG af "key_by_slot") (.var 2) (.var 1),.ex (.aC (.aC af "bucket" (wa aB)) "insert" (.ae (.int 0) (wa aX)))]) W (j6 W rd (dC.dk (dX _) (kvs:=dw m.az) (n:=x.n2) (L':=λn'=>bR k a {m with az:=m.az++[(s,key)]} {x with n2:=n'} R) (λn'=>?_) (by unfold dw;rw[length_map];exact aa jG hk) λn'=>?_))
 ·rw[CF hn];exact .tail (.tail .head)
 ·have jS:bN k (bR k a {m with az:=m.az++[(s,key)]} {x with n2:=n'} R) a {m with az:=m.az++[(s,key)]} {x with n2:=n'}:=.base ⟨hx.bs,hx.bas⟩;refine ax.inst W.B jS.rd.obj k.mc.cls k.wH (aQ (k.cF _) rfl rfl) ⟨kF,wI W jS hb p9 λb l h1 h2=>?_⟩;have h2:m.bks[cH m key]?=some l:=h2;refine ax.insert (jS.bks _ _ _ h1 h2) (br.M6 (v:=.int s) (xs:=l.map V.int) (L':=bR k a (fE m key s) {x with n2:=n'} R) ?_ (by rw[length_map];have:=I.y0 m1 h2;exact aa jG this) (q n'));refine .tail (.tail (.tail (.tail (.bE (.gi ?_)))));have e:(fE m key s).bks=m.bks.set (cH m key) (s::l):=by unfold fE;rw[getD_eq_getElem?_getD,h2];rfl
  simp only[e];exact tV (w:=s::l) h1 h2
theorem BR(W:PG G)(hx:x.Ok m)(I:iy m)(hb:1<=m.bks.length)(p9:m.bks.length<=4)(m1:m.b.most<=3)(hs:bB m.az s=some key)(q:∀n',Q (.bytes key) (bR k a (gY m key s) {x with n2:=n'} R)):Sp G 718 (dp+3) [.ref a,.int s] (bR k a m x R) Q E:=by
 have rd:bN k (bR k a m x R) a m x:=.base hx;have hk:=I.rB m1;refine gO 718 ["self","slot"] [sf,bI "slot",aI "key"] [] [] (sq [.asg (.var 2) (.aC (.aG af "key_by_slot") "pop" (wa aB)),.ex (.aC (.aC af "bucket" (wa aX)) "remove" (wa aB)),.ret aX]) W (j6 W rd (ax.Sk rd.kd (br.RU (dX _) (kvs:=dw m.az) (n:=x.n2) (L':=λn'=>bR k a {m with az:=m.az.filter λp=>!(decide (p.1=s))} {x with n2:=n'} R) (λZ key h=>by cases h;rfl) (λn'=>?_) (by unfold dw;rw[length_map];exact aa jG hk) (v:=.bytes key) (by rw[mQ,hs];rfl) λn'=>?_)))
 ·rw[LO];exact .tail (.tail .head)
 ·have jS:bN k (bR k a {m with az:=m.az.filter λp=>!(decide (p.1=s))} {x with n2:=n'} R) a {m with az:=m.az.filter λp=>!(decide (p.1=s))} {x with n2:=n'}:=.base ⟨hx.bs,hx.bas⟩;refine ax.inst W.B jS.rd.obj k.mc.cls k.wH (aQ (k.cF _) rfl rfl) ⟨kF,wI W jS hb p9 λb l h1 h2=>?_⟩;have h2:m.bks[cH m key]?=some l:=h2
  have hm:s∈l:=by obtain⟨⟨l2,gF,hm⟩,_⟩:=I.kb _ _ hs;rw[h2] at gF;exact(Option.some.inj gF)▸hm
  refine ax.remove (jS.bks _ _ _ h1 h2) (br.wX (ns:=l) (L':=bR k a (gY m key s) {x with n2:=n'} R) ?_ hm (by have:=I.y0 m1 h2;exact aa jG this) (q n'));refine .tail (.tail (.tail (.tail (.bE (.gi ?_)))));have e:(gY m key s).bks=m.bks.set (cH m key) (l.erase s):=by unfold gY;rw[getD_eq_getElem?_getD,h2];rfl
  simp only[e];exact tV (w:=l.erase s) h1 h2
def rC(k:HK)(m:MH)(key:By)(s:Int):MH:=match k with
 |.hash=>gY m key s
 |.bG=>gY {m with order:=m.order.erase s} key s
theorem CG(W:PG G)(hx:x.Ok m)(I:cq k m)(hs:bB m.az s=some key)(q:∀n',Q (.bytes key) (bR k a (rC k m key s) {x with n2:=n'} R)):Sp G k.w_ (dp+4) [.ref a,.int s] (bR k a m x R) Q E:=by
 have hb:=I.bl;have gX:=lT (n:=m.b.most)
 cases k
 ·exact BR W hx I.core (aa rj hb gX) (aa yr hb gX) I.m1 hs q
 ·have rd:bN .bG (bR .bG a m x R) a m x:=.base hx;refine xA (I.ord rfl) λo1 o2=>?_;have hm:s∈m.order:=(o2 s).mpr (by rw[hs];rfl)
  have ol:m.order.length<=3:=oE 3 _ o1 λt ht=>by obtain⟨k2,cW⟩:=Option.isSome_iff_exists.mp ((o2 t).mp ht);have:=(I.core.kb _ _ cW).2;have:=I.m1;exact aa yt (by assumption) this
  refine gO 810 ["self","slot"] [sf,bI "slot"] [] [qr] (sq [.ex (.aC (.aG af "order") "remove" (wa aB)),.ret (.aC aM "unlink" (.ae af (wa aB)))]) W (kO W rd (ax.remove (rd.ord rfl) (br.wX (ns:=m.order) (L':=bR .bG a {m with order:=m.order.erase s} x R) (.tail (.tail (.tail (.tail .head)))) hm (aa jG ol) (ax.cls W.B sW Ic ⟨kF,BR (m:={m with order:=m.order.erase s}) W ⟨hx.bs,hx.bas⟩ ⟨I.core.bk,I.core.kb,I.core.kn⟩ (by show 1<=m.bks.length;exact aa rj hb gX) (by show m.bks.length<=4;exact aa yr hb gX) I.m1 hs q⟩))))
theorem Dy(I:cq k m)(hs:bB m.az s=some key):cq k (rC k m key s):=by
 have hb:=I.bl;have gX:=lT (n:=m.b.most);have iR:∀t,bB (gY m key s).az t=if t=s then none else bB m.az t:=λt=>wJ _ _ _
 have bz:((gY m key s).bks.length:Int)=fA m.b.most:=by unfold gY;rw[length_set];exact hb
 have hc:=Jf I.core (aa rj hb gX) hs
 have aT:∀t,(bB (gY m key s).az t).isSome=true->t<m.b.vals.length:=λt ht=>by
  rw[iR] at ht;by_cases e:t=s
  ·rw[if_pos e] at ht;cases ht
  ·rw[if_neg e] at ht;exact I.lt t ht
 cases k
 ·exact⟨⟨I.kind,I.hJ,I.s0,I.s1,I.m0,I.m1,I.n0,I.n1,I.len,I.each,bz⟩,hc,aT,λe=>by cases e⟩
 ·refine⟨⟨I.kind,I.hJ,I.s0,I.s1,I.m0,I.m1,I.n0,I.n1,I.len,I.each,bz⟩,⟨hc.bk,hc.kb,hc.kn⟩,aT,λU=>?_⟩;obtain⟨o1,o2⟩:=I.ord rfl;refine⟨o1.erase s,λt=>?_⟩;show t∈m.order.erase s↔(bB (gY m key s).az t).isSome=true;rw[o1.mem_erase_iff,o2,iR];by_cases e:t=s
  ·rw[if_pos e];simp[e]
  ·rw[if_neg e];simp[e]
end
def i7(m:MH)(s:Int)(o:By):MH:={m with b:={m.b with vals:=eE m.b.vals s.toNat o}}
structure mo(k:HK)(m:MH)(s:Int):Prop extends pF k m where
 core:iy m
 there:(bB m.az s).isSome=true
 le:s<=m.b.vals.length
 lt:∀t,(bB m.az t).isSome=true->t=s\/t<m.b.vals.length
 ord:k=.bG->m.order.Nodup/\∀t,(t∈m.order\/t=s)↔(bB m.az t).isSome=true
theorem wo:(eE vals i o).length=if i<vals.length then vals.length else vals.length+1:=by unfold eE;split<;>simp
theorem CH{v:By}(h:v∈eE vals i o):v∈vals\/v=o:=by
 unfold eE at h
 split at h
 ·exact mem_or_eq_of_mem_set h
 ·rcases List.mem_append.mp h with h|h
  ·exact .inl h
  ·exact .inr (List.mem_singleton.mp h)
theorem mo.fin{m:MH}(I:mo k m s)(ho:(o.length:Int)=m.b.size):cq k (nh k (i7 m s o) s):=by
 refine xE (Option.isSome_iff_exists.mp I.there) λkey ia=>?_
 have l1:((eE m.b.vals s.toNat o).length:Int)<=m.b.most:=by rw[wo];exact aa ⟨3,3,[.an (.ak 0 0) (.an (.cj 0 1) (.dP 0 2)),.f6 1 1,.oo (.an (.tn (.t .v0) .v1) (.aA 2 1)) (.an (.no (.tn (.t .v0) .v1)) (.en .v2 (.aj 1 1)))],.f6 2 1⟩ ((I.core.kb _ _ ia).2) I.len io
 have l2:∀v∈eE m.b.vals s.toNat o,(v.length:Int)=m.b.size:=λv hv=>by
  rcases CH hv with hv|rfl
  ·exact I.each v hv
  ·exact ho
 have l3:∀t,(bB m.az t).isSome=true->t<(eE m.b.vals s.toNat o).length:=λt ht=>by
  rw[wo];rcases I.lt t ht with rfl|h
  ·exact aa ⟨2,1,[.dF 0 0,.oo (.an (.tn (.t .v0) .v0) (.aA 1 0)) (.an (.no (.tn (.t .v0) .v0)) (.en .v1 (.aj 0 1)))],.eJ 0 1⟩ I.le io
  ·exact aa ⟨2,2,[.eJ 0 0,.oo (.an (.tn (.t .v1) .v0) (.aA 1 0)) (.an (.no (.tn (.t .v1) .v0)) (.en .v1 (.aj 0 1)))],.eJ 0 1⟩ h io
 have hb:=I.bl
 cases k
 ·exact⟨⟨I.kind,I.hJ,I.s0,I.s1,I.m0,I.m1,I.n0,I.n1,l1,l2,hb⟩,⟨I.core.bk,I.core.kb,I.core.kn⟩,l3,λe=>by cases e⟩
 ·refine⟨⟨I.kind,I.hJ,I.s0,I.s1,I.m0,I.m1,I.n0,I.n1,l1,l2,hb⟩,⟨I.core.bk,I.core.kb,I.core.kn⟩,l3,λU=>?_⟩;obtain⟨o1,o2⟩:=I.ord rfl;show(m.order.erase s++[s]).Nodup/\∀t,t∈m.order.erase s++[s]↔(bB m.az t).isSome=true;refine⟨List.nodup_append.mpr (bj (o1.erase s) (List.nodup_cons.mpr ⟨not_mem_nil,nodup_nil⟩) (λx hx y hy e=>?_)),λt=>?_⟩
  ·obtain rfl:=List.mem_singleton.mp hy;exact(o1.mem_erase_iff.mp hx).1 e
  ·rw[←o2,List.mem_append,o1.mem_erase_iff,List.mem_singleton];by_cases e:t=s<;>simp[e]
theorem cq.pre{m:MH}(I:cq k m)(h:(bB m.az s).isSome=true):mo k m s:=
 ⟨I.topF,I.core,h,by have:=I.lt s h;exact aa F1 this,λt ht=>.inr (I.lt t ht),λe=>⟨(I.ord e).1,λt=>by
  rw[(I.ord e).2];constructor
  ·rintro(h|rfl)
   ·exact h
   ·exact h
  ·exact .inl⟩⟩
theorem cq.link{m:MH}(I:cq k m)(hn:bB m.az s=none)(h0:0<=s)(h1:s<m.b.most)(h2:s<=m.b.vals.length)(hk:(key.length:Int)=m.b.kw):mo k (fE m key s) s:=by
 have hb:=I.bl
 have iR:∀t,(bB (fE m key s).az t).isSome=true↔(t=s\/(bB m.az t).isSome=true):=λt=>by
  show(bB (m.az++[(s,key)]) t).isSome=true↔_;rw[th];by_cases e:s=t
  ·subst e;rw[hn,if_pos rfl];simp
  ·rw[if_neg e,Option.or_none];have:¬t=s:=λh=>e h.symm;simp[this]
 refine⟨⟨I.kind,I.hJ,I.s0,I.s1,I.m0,I.m1,I.n0,I.n1,I.len,I.each,by unfold fE;rw[length_set];exact hb⟩,KG I.core (aa rj hb (lT (n:=m.b.most))) hn h0 h1 hk,(iR s).mpr (.inl rfl),h2,λt ht=>?_,λe=>⟨(I.ord e).1,λt=>?_⟩⟩
 ·rcases (iR t).mp ht with h|h
  ·exact .inl h
  ·exact .inr (I.lt t h)
 ·rw[iR];show(t∈m.order\/t=s)↔_;rw[(I.ord e).2];exact Or.comm
theorem cq.mq{m:MH}(I:cq .bG m):m.order.length<=3:=by
 refine xA (I.ord rfl) λo1 o2=>?_
 exact oE 3 _ o1 λt ht=>by obtain⟨k2,cW⟩:=Option.isSome_iff_exists.mp ((o2 t).mp ht);have:=(I.core.kb _ _ cW).2;have:=I.m1;exact aa yt (by assumption) this
theorem mo.mq{m:MH}(I:mo .bG m s):m.order.length<=3:=by
 refine xA (I.ord rfl) λo1 o2=>?_
 exact oE 3 _ o1 λt ht=>by obtain⟨k2,cW⟩:=Option.isSome_iff_exists.mp ((o2 t).mp (.inl ht));have:=(I.core.kb _ _ cW).2;have:=I.m1;exact aa yt (by assumption) this
section
variable{L:HL}{m:MH}
theorem LQ(W:PG G)(h:bN .bG L a m x){r:List Int}(ho:m.order=s::r)(hl:m.order.length<900)(q:Q (.int s) L):Sp G 803 (dp+1) [.ref a] L Q E:=by
 refine Sp.ent (.refl _) (gO 803 ["self"] [sf] [] [jm] (sq [.ite (.cmp .Eq (.aG af "order") (.lst .bT)) (sq [.no]) .nil,.ret (.sub (.aG af "order") (.int 0))]) W (kO W h (λe=>aV.Ff (.tail (h.ord rfl)) .head (by rw[ho];simp) (iF (kO W h.cons (a_.list (.tail (h.ord rfl)) (v:=.int s) ?_ ?_))))))
 ·unfold cy;rw[ho,if_pos ⟨by decide,by decide⟩];rfl
 ·exact(ah L (.sub (.cons _ (.refl _))) q)
theorem cq.same{m':MH}(I:cq k m)(I':cq k m')(e:m'.b=m.b):m'.bks.length=m.bks.length:=by have h2:=I'.bl;rw[e] at h2;exact aa uC I.bl h2
theorem Po(W:PG G)(hx:x.Ok m)(I:cq k m)(q:∀m' n' s,cq k m'->m'.b=m.b->bB m'.az s=none->0<=s->s<=m.b.vals.length->s<m.b.most->Q (.int s) (bR k a m' {x with n2:=n'} R))(q2:Q .none (bR k a m x R)):Sp G k.yb (dp+5) [.ref a] (bR k a m x R) Q E:=by
 have rd:bN k (bR k a m x R) a m x:=.base hx
 have low:∀s:Int,0<=s->(∀j,0<=j->j<s->(bB m.az j).isSome=true)->s<=m.b.vals.length:=λs h0 hj=>by
  by_cases e:s=0
  ·exact aa ⟨1,1,[.be 0 0],.dF 0 0⟩ e
  ·have:=I.lt _ (hj (s-1) (aa F2 h0 e) (aa ⟨0,1,[],.tz (.dK 0 1) .v0⟩));exact aa ⟨1,1,[.tz (.dK 0 1) .c0],.dF 0 0⟩ this
 cases k
 ·exact gO 696 ["self"] [sf] [] [] (sq [.ret (.aC af "free_slot" .bT)]) W (ax.inst W.B rd.rd.obj HK.hash.mc.cls HK.hash.A0 (aQ (HK.cF _ _) rfl rfl) ⟨kF,A1 W rd I.m0 I.m1 (λs h0 h1 hn hj=>q m x.n2 s I rfl hn h0 (low s h0 hj) h1) λU=>q2⟩)
 ·refine gO 796 ["self"] [sf,aI "slot"] [] [] (sq [.asg (.var 1) (.aC af "free_slot" .bT),.ite (.cmp .Is aB .none) (sq [.asg (.var 1) (.aC af "eldest" .bT),.ex (.aC af "unlink" (wa aB))]) .nil,.ret aB]) W (ax.inst W.B rd.rd.obj HK.bG.mc.cls HK.bG.A0 (aQ (HK.cF _ _) rfl rfl) ⟨kF,A1 W rd I.m0 I.m1 (λs h0 h1 hn hj=>iF (q m x.n2 s I rfl hn h0 (low s h0 hj) h1)) λhj=>iT ?_⟩)
  lk
  refine xA (I.ord rfl) λo1 o2=>?_;have h0:(0:Int)∈m.order:=(o2 0).mpr (hj 0 (by decide) (by have:=I.m0;exact aa FX this))
  obtain⟨s,r,ho⟩:∃s r,m.order=s::r:=by
   cases h:m.order with
   |nil=>rw[h] at h0;cases h0
   |cons s r=>exact(mw s r rfl)
  have hs:(bB m.az s).isSome=true:=(o2 s).mp (by rw[ho];exact mem_cons_self ..);obtain⟨key,ia⟩:=Option.isSome_iff_exists.mp hs;have hb:=(I.core.kb _ _ ia).2;refine ax.inst W.B rd.rd.obj HK.bG.mc.cls (f:=803) (mF 803) (aQ (HK.cF _ _) rfl rfl) ⟨kF,LQ W rd ho (aa yu I.mq) (ax.inst W.B rd.rd.obj HK.bG.mc.cls HK.bG.CD (aQ (HK.cF _ _) rfl rfl) ⟨HK.bG.CE,CG W hx I ia λn'=>q (rC .bG m key s) n' s (Dy I ia) rfl ?_ hb.1 (by have:=I.lt _ hs;exact aa F1 this) hb.2.1⟩)⟩;show bB (m.az.filter _) s=none;rw[wJ,if_pos rfl]
theorem Ek{s:_}(W:PG G)(hx:x.Ok m)(I:mo k m s)(ho:(o.length:Int)=m.b.size)(q:∀aU n',aU.length=(i7 m s o).b.vals.length->Q .none (bR k a (i7 m s o) {x with bs:=aU,n:=n'} R)):Sp G 448 (dp+1) [.ref a,.int s,.bytes o] (bR k a m x R) Q E:=by refine xE (Option.isSome_iff_exists.mp I.there) λkey ia=>?_;have hs:=(I.core.kb _ _ ia).2;have ku:=I.le;have bz:=I.len;have hm:=I.m1;have jP:=I.s1;have e:s=(s.toNat:Int):=aa ⟨1,3,[.an (.ak 0 0) (.an (.cj 0 1) (.dP 0 2))],.ez .v0 (.c (.t .v0))⟩ hs;have p0:∀(m:MH)(x:HA),(bR k a m x R).Perm (bA a k.c m.b (k.ext x) x.d x.bs x.n++((x.bl,.list (x.bas.map V.ref))::(x.kd,.di (dw m.az) x.n2)::(kl k x.ol m.order++(dU x.bas m.bks++R)))):=λm x=>KH ..;refine Sp.ent (.perm (p0 m x)) ?_;refine(e)▸?_;refine x9 W k.mc hx.bs (aa F3 bz hm) (aa FL ku) (aa lq ho jP) (λv hv=>by have:=I.each v hv;exact aa uC ho this) λaU n' hb=>(ah _ (.perm (p0 (i7 m s o) {x with bs:=aU,n:=n'}).symm) (q aU n' hb))
end
theorem sR{m:MH}(h:j7 m key=some s):bB m.az s=some key:=by unfold j7 at h;have:=find?_some h;exact of_decide_eq_true this
theorem oZ(k:HK)(m:MH)(s:Int):(nh k m s).b=m.b:=by cases k<;>rfl
theorem wL(k:HK)(m:MH)(s:Int):(nh k m s).bks=m.bks:=by cases k<;>rfl
theorem Fw(k:HK)(m:MH)(key:By)(s:Int):(rC k m key s).b=m.b:=by cases k<;>rfl
theorem NB(k:HK)(m:MH)(key:By)(s:Int):(rC k m key s).bks.length=m.bks.length:=by cases k<;>(show(List.set _ _ _).length=_;rw[length_set])
section
variable{L:HL}{m:MH}
theorem KI(W:PG G)(hx:x.Ok m)(I:cq k m)(hk:(key.length:Int)=m.b.kw)(ho:(o.length:Int)=m.b.size)(q:∀m' x' i,cq k m'->x'.Ok m'->m'.b={m.b with vals:=m'.b.vals}->Q (.int i) (bR k a m' x' R)):Sp G 704 (dp+6) [.ref a,.bytes key,.bytes o,.int 0] (bR k a m x R) Q E:=by
 have rd:bN k (bR k a m x R) a m x:=.base hx;have hb:=I.bl;have gX:=lT (n:=m.b.most);refine Ij W (ax.inst W.B rd.rd.obj k.mc.cls k.vM (aQ (k.cF _) rfl rfl) ⟨kF,vJ W k.mc rd.rd.obj ho (aa lq ho I.s1) (ax.inst W.B rd.rd.obj k.mc.cls k.oY (aQ (k.cF _) rfl rfl) ⟨kF,uc W I.topF I.core rd hk (?_)⟩)⟩)
 cases hp:j7 m key with
 |some s=>
  have hs:=sR hp;have e:fD m key=.int s:=by unfold fD;rw[hp]
  refine(e)▸?_;refine⟨kF,Av W (iF (iF ?_))⟩;refine ax.inst W.B rd.rd.obj k.mc.cls k.ur (aQ (k.cF _) rfl rfl) ⟨kF,Ek W hx (I.pre (by rw[hs];rfl)) ho λaU n' hb=>?_⟩;have jS:bN k (bR k a (i7 m s o) {x with bs:=aU,n:=n'} R) a (i7 m s o) {x with bs:=aU,n:=n'}:=.base ⟨hb,hx.bas⟩;refine ax.inst W.B jS.rd.obj k.mc.cls k.xv (aQ (k.cF _) rfl rfl) ⟨k.xw,xx (k:=k) (m:=i7 m s o) (x:={x with bs:=aU,n:=n'}) W ⟨hb,hx.bas⟩ (λe=>by subst e;have:=I.mq;show m.order.length<900;exact aa yu this) (q _ _ 0 ((I.pre (by rw[hs];rfl)).fin ho) ⟨by rw[oZ];exact hb,by rw[wL];exact hx.bas⟩ (by rw[oZ];rfl))⟩
 |none=>
  have e:fD m key=.none:=by unfold fD;rw[hp]
  rw[e];refine⟨kF,Av W (iF (iT ?_))⟩;refine ax.inst W.B rd.rd.obj k.mc.cls k.Pm (aQ (k.cF _) rfl rfl) ⟨k.k_room,Po W hx I (λm' n' s I' eH hn h0 h1 h2=>iF ?_) (iT (q m x _ I hx rfl))⟩;have cr:({x with n2:=n'}:HA).Ok m':=⟨by rw[eH];exact hx.bs,by rw[I.same I' eH];exact hx.bas⟩;have Up:bN k (bR k a m' {x with n2:=n'} R) a m' {x with n2:=n'}:=.base cr;have zY:=I'.bl;rw[eH] at zY;refine ax.inst W.B Up.rd.obj k.mc.cls k.Pk (aQ (k.cF _) rfl rfl) ⟨kF,bd.zI (Pn W cr I'.core (aa ⟨1,1,[.an (.ak 1 0) (.aL 0 4),.dP 0 0],.gj 1 0⟩ gX zY) (aa ⟨1,1,[.an (.ak 1 0) (.aL 0 4),.dP 0 0],.aS 0 4⟩ gX zY) I'.m1 hn λn2=>?_)⟩;have P:mo k (fE m' key s) s:=I'.link hn h0 (by rw[eH];exact h2) (by rw[eH];exact h1) (by rw[eH];exact hk);have jJ:({x with n2:=n2}:HA).Ok (fE m' key s):=⟨cr.bs,by unfold fE;rw[length_set];exact cr.bas⟩;have Uq:bN k (bR k a (fE m' key s) {x with n2:=n2} R) a (fE m' key s) {x with n2:=n2}:=.base jJ;have cI:(o.length:Int)=(fE m' key s).b.size:=by show _=m'.b.size;rw[eH];exact ho
  refine ax.inst W.B Uq.rd.obj k.mc.cls k.ur (aQ (k.cF _) rfl rfl) ⟨kF,Ek W jJ P cI λaU n' hb=>?_⟩;have jS:bN k (bR k a (i7 (fE m' key s) s o) {x with n2:=n2,bs:=aU,n:=n'} R) a (i7 (fE m' key s) s o) {x with n2:=n2,bs:=aU,n:=n'}:=.base ⟨hb,jJ.bas⟩;refine ax.inst W.B jS.rd.obj k.mc.cls k.xv (aQ (k.cF _) rfl rfl) ⟨k.xw,xx (k:=k) (m:=i7 (fE m' key s) s o) (x:={x with n2:=n2,bs:=aU,n:=n'}) W ⟨hb,jJ.bas⟩ (λe=>by subst e;have:=P.mq;show m'.order.length<900;exact Nat.lt_of_le_of_lt this (by decide)) (q _ _ 0 (P.fin cI) ⟨by rw[oZ];exact hb,by rw[wL];exact jJ.bas⟩ (by rw[oZ,←eH];rfl))⟩
theorem KJ(W:PG G)(hx:x.Ok m)(I:cq k m)(hk:(key.length:Int)=m.b.kw)(q:∀m' x' i,cq k m'->x'.Ok m'->m'.b={m.b with vals:=m'.b.vals}->Q (.int i) (bR k a m' x' R)):Sp G 725 (dp+5) [.ref a,.bytes key] (bR k a m x R) Q E:=by
 have rd:bN k (bR k a m x R) a m x:=.base hx;refine gO 725 ["self","key"] [sf,bI "key",aI "slot"] [] [Cu] (sq [.asg (.var 2) (.aC af "peer" (wa aB)),.ite (.cmp .Is aX .none) (sq [.ret (.bin .Sub (.int 0) aM)]) .nil,.ex (.aC af "unlink" (wa aX)),.ret (.int 0)]) W (ax.inst W.B rd.rd.obj k.mc.cls k.oY (aQ (k.cF _) rfl rfl) ⟨kF,uc W I.topF I.core rd hk ?_⟩)
 cases hp:j7 m key with
 |some s=>
  have hs:=sR hp;refine((show fD m key=.int s by unfold fD;rw[hp]))▸?_;refine iF (ax.inst W.B rd.rd.obj k.mc.cls k.CD (aQ (k.cF _) rfl rfl) ⟨k.CE,CG W hx I hs λn'=>q _ _ 0 (Dy I hs) ⟨?_,?_⟩ ?_⟩)
  ·rw[Fw];exact hx.bs
  ·rw[NB];exact hx.bas
  ·rw[Fw]
 |none=>rw[(show fD m key=.none by unfold fD;rw[hp])];exact iT (q m x _ I hx rfl)
theorem KL(I:cq k m)(h:(bB m.az s).isSome=true):cq k (nh k m s):=by
 have:=(I.pre h).fin (o:=m.b.vals.getD s.toNat []) (by
  lk
  obtain⟨key,ia⟩:=Option.isSome_iff_exists.mp h;refine I.each _ ?_;rw[getD_eq_getElem?_getD,gE (by exact aa F4 (I.lt s h) ((I.core.kb _ _ ia).2))];exact getElem_mem _)
 have e:i7 m s (m.b.vals.getD s.toNat [])=m:=by refine xE (Option.isSome_iff_exists.mp h) λkey ia=>?_;have h3:s.toNat<m.b.vals.length:=aa F4 (I.lt s h) ((I.core.kb _ _ ia).2);unfold i7 eE;refine(if_pos h3)▸?_;refine(getD_eq_getElem?_getD)▸?_;refine(gE h3)▸?_;refine(?_:({m with b:={m.b with vals:=m.b.vals.set s.toNat m.b.vals[s.toNat]}}:MH)=m);rw[List.set_getElem_self]
 rwa [e] at this
theorem KM(W:PG G)(hx:x.Ok m)(I:cq k m)(hk:(key.length:Int)=m.b.kw)(q:∀m' x' v,cq k m'->x'.Ok m'->m'.b={m.b with vals:=m'.b.vals}->Q v (bR k a m' x' R)):Sp G 668 (dp+4) [.ref a,.bytes key] (bR k a m x R) Q E:=by
 have rd:bN k (bR k a m x R) a m x:=.base hx;refine Ii W (ax.inst W.B rd.rd.obj k.mc.cls k.oY (aQ (k.cF _) rfl rfl) ⟨kF,uc W I.topF I.core rd hk ?_⟩)
 cases hp:j7 m key with
 |some s=>
  have e:fD m key=.int s:=by unfold fD;rw[hp]
  refine(e)▸?_;refine iT (ax.inst W.B rd.rd.obj k.mc.cls k.xv (aQ (k.cF _) rfl rfl) ⟨k.xw,xx (k:=k) (m:=m) (x:=x) W hx (λe=>by subst e;have:=I.mq;exact aa yu this) (q _ _ _ (KL I (by rw[(sR hp)];rfl)) ⟨by rw[oZ];exact hx.bs,by rw[wL];exact hx.bas⟩ (by rw[oZ]))⟩)
 |none=>rw[(show fD m key=.none by unfold fD;rw[hp])];exact iF (q m x _ I hx rfl)
end
theorem wM(hn:(az.map (·.1)).Nodup){p:Int×By}(h:az[i]?=some p):bB az p.1=some p.2:=by
 induction az generalizing i with
 |nil=>cases h
 |cons x az ih=>
  have hn:(x.1::az.map (·.1)).Nodup:=hn;obtain⟨h1,h2⟩:=List.nodup_cons.mp hn;unfold bB;rw[find?_cons]
  cases i with
  |zero=>cases h;simp
  |succ i=>have h:az[i]?=some p:=h;have:¬x.1=p.1:=λe=>h1 (e▸List.mem_map.mpr (ah p (mem_of_getElem? h) rfl));simp only[this,decide_false];exact ih h2 h
def o7(k:HK)(m:MH):LB:=match k with
 |.hash=>gQ (m.az.map (·.2))
 |.bG=>m.order.map λs=>(bB m.az s).getD []
def pG(m:MH)(key:By):V:=match j7 m key with
 |some s=>.bytes (m.b.vals.getD s.toNat [])
 |none=>.none
def El(k:HK)(m:MH):V:=.tup ((o7 k m).map λkey=>.tup [.bytes key,pG m key])
def Fx(k:HK)(m:MH):V:=.tup [.str m.b.kind,.int m.b.number,.int m.b.kw,.int m.b.size,.int m.b.most,El k m]
noncomputable def HK.m6:HK->Addr
 |.hash=>474
 |.bG=>820
theorem HK.w6(k:HK):cV (KK P) k.c "parts" k.m6:=by cases k;exact mF 474;exact mF 820
theorem HK.w7{d:Nat}(k:HK):jd (cx G d) (.ref k.m6):=by cases k;exact kF;exact kF
theorem LR{m:MH}(I:cq k m):(o7 k m).length<=3/\∀key∈o7 k m,(key.length:Int)=m.b.kw:=by
 have hg:∀p∈m.az,(p.2.length:Int)=m.b.kw:=λp hp=>by refine xE (getElem?_of_mem hp) λi hi=>?_;exact(I.core.kb _ _ (wM I.core.kn hi)).2.2.2
 cases k
 ·have h3:(m.az.map (·.2)).length<=3:=by rw[length_map];exact aa yv (I.core.rB I.m1)
  refine⟨?_,λkey hk=>?_⟩
  ·show(gQ (m.az.map (·.2))).length<=3;rw[BQ h3];exact h3
  ·have:=BP h3 key hk;refine ai (List.mem_map.mp this) λp hp aw=>?_;refine av (Eq.symm aw) ?_;exact hg p hp
 ·refine⟨?_,λkey hk=>?_⟩
  ·show(m.order.map _).length<=3;rw[length_map];exact I.mq
  ·refine ai (List.mem_map.mp hk) λs hs aw=>?_;refine av (Eq.symm aw) ?_;obtain⟨k2,cW⟩:=Option.isSome_iff_exists.mp (((I.ord rfl).2 s).mp hs);refine(cW)▸?_;exact(I.core.kb _ _ cW).2.2.2
section
variable{L:HL}{m:MH}
theorem CJ(W:PG G)(I:cq k m)(h:bN k L a m x)(hk:(key.length:Int)=m.b.kw)(q:Q (pG m key) L):Sp G 413 (dp+4) [.ref a,.bytes key] L Q E:=by
 have hs:=I.s1;refine AJ W (ax.inst W.B h.rd.obj k.mc.cls k.oY (aQ (k.cF _) rfl rfl) ⟨kF,uc W I.topF I.core h hk ?_⟩);unfold pG at q
 cases hp:j7 m key with
 |none=>rw[hp] at q;rw[(show fD m key=.none by unfold fD;rw[hp])];exact iT q
 |some s=>
  rw[hp] at q;have hs:=sR hp;have h0:=(I.core.kb _ _ hs).2;have h1:=I.lt s (by rw[hs];rfl);refine((show fD m key=.int s by unfold fD;rw[hp]))▸?_;refine iF (fY W k.mc h.rd.obj (a_.val W rfl h.rd h0.1 h1 λb hb=>bd.n8 hb ?_ q))
  have hm:m.b.vals.getD s.toNat []∈m.b.vals:=by rw[getD_eq_getElem?_getD,gE (by exact aa ⟨2,3,[.an (.ak 0 0) (.an (.cj 0 1) (.dP 0 2)),.eJ 0 1],.tn (.t .v0) .v1⟩ h0 h1)];exact getElem_mem _
  have:=I.each _ hm;exact aa nT (by assumption) this
theorem NC(W:PG G)(I:cq .hash m)(h:bN .hash L a m x)(q:∀D,Q (.ref D) ((D,.list ((o7 .hash m).map V.bytes))::L)):Sp G 730 (dp+1) [.ref a] L Q E:=by
 have hl:=I.core.rB I.m1;refine Sp.ent (.refl _) (gO 730 ["self"] [] [sf] [qx] (sq [.ret (.call aM (wa (.lc ⟨["slot"],false,[true],[]⟩ (.aG (.ao 0) "key_by_slot") .yes (.sub (.aG (.ao 0) "key_by_slot") (.var 0)))))]) W (j6 W h (se (bx.dict W.B h.kd) (λi=>((m.az.take i).map (·.2)).map V.bytes) rfl ?_ ?_)))
 ·intro i y hy
  have hi:∃p,m.az[i]?=some p/\y=.int p.1:=by unfold cD dw at hy;rw[map_map,map_map,getElem?_map] at hy;refine ai (Option.map_eq_some_iff.mp hy) λp hp aw=>?_;refine av (Eq.symm aw) ?_;exact(ah p hp rfl)
  refine ai hi λp hp aw=>?_;refine av aw ?_;refine⟨h.kd,iT (j6 W h (a_.dk (dX _) h.kd (v:=.bytes p.2) (by rw[mQ,wM I.core.kn hp];rfl) (bj ?_ rfl ?_)))⟩
  ·have:=(gS hp).1;simp;exact aa ⟨3,0,[.aS 0 3,.oo (.an (.bY 1 0) (.aA 2 1)) (.an (.no (.bY 1 0)) (.aA 2 0))],.aJ 2 1000⟩ hl eK
  ·show _=((m.az.take (i+1)).map (·.2)).map V.bytes;rw[take_add_one,hp,map_append,map_append];rfl
 ·have e:m.az.take ((cD V.int (dw m.az)).map (·.1)).length=m.az:=by rw[(show((cD V.int (dw m.az)).map (·.1)).length=m.az.length by unfold cD dw;simp),take_length]
  refine av e ?_;exact⟨h.kd,λa1=>br.Dv (bs:=m.az.map λ(p:Int×By)=>p.2) .head (by rw[length_map];exact aa yv hl) λD=>(ah _ (.sub (.cons_cons _ (.cons _ (.refl _)))) (q D))⟩
theorem LS(W:PG G)(I:cq .bG m)(h:bN .bG L a m x)(q:∀D,Q (.ref D) ((D,.list ((o7 .bG m).map V.bytes))::L)):Sp G 815 (dp+1) [.ref a] L Q E:=by
 have hl:=I.mq;refine gO 815 ["self"] [] [sf] [] (sq [.ret (.lc ⟨["slot"],false,[true],[]⟩ (.aG (.ao 0) "order") .yes (.sub (.aG (.ao 0) "key_by_slot") (.var 0)))]) W (kO W h (kD (λs=>.bytes ((bB m.az s).getD [])) ((o7 .bG m).map V.bytes) List.map_map.symm (bx.list (h.ord rfl)) ?_ ?_))
 ·intro i s hs;obtain⟨k2,cW⟩:=Option.isSome_iff_exists.mp (((I.ord rfl).2 s).mp (mem_of_getElem? hs));refine⟨h.ord rfl,iT (j6 W h (a_.dk (dX _) h.kd (v:=.bytes k2) (by rw[mQ,cW];rfl) (kE hs (le_trans hl (by decide)) (by rw[cW];rfl))))⟩
 ·exact⟨h.ord rfl,λD=>q D⟩
theorem LU(W:PG G)(I:cq k m)(h:bN k L a m x)(q:Q (El k m) L):Sp G k.m6 (dp+5) [.ref a] L Q E:=by
 refine xA (LR I) λbz cG=>?_;have hc:k=.hash\/k=.bG:=by cases k;exact .inl rfl;exact .inr rfl
 rcases hc with rfl|rfl
 ·refine Sp.ent (.refl _) (AL W (ax.inst W.B h.rd.obj (HK.mc _).cls (HK.m_keys _) (aQ (HK.cF _ _) rfl rfl) ⟨kF,NC W I h λD=>kD (λkey=>.tup [.bytes key,pG m key]) _ rfl (bx.list .head) ?_ ?_⟩))
  ·exact λi key hk=>⟨.head,iT (ax.inst W.B (.tail h.rd.obj) (HK.mc _).cls (HK.oN _) (aQ (HK.cF _ _) rfl rfl) ⟨kF,CJ W I h.cons (cG _ (mem_of_getElem? hk)) (kE hk (le_trans bz (by decide)))⟩)⟩
  ·exact⟨.head,λa1=>bd.mj .head (by rw[length_map];exact aa jG bz) (ah L (.sub (.cons _ (.cons _ (.refl _)))) q)⟩
 ·refine Sp.ent (.refl _) (gO 820 ["self"] [] [sf] [mU] (sq [.ret (.call aM (wa (.lc ⟨["key"],false,[true],[]⟩ (.aC (.ao 0) "by_age" .bT) .yes (.tup (.ae af (wa (.aC (.ao 0) "value" (wa af))))))))]) W (ax.inst W.B h.rd.obj (HK.mc _).cls (f:=815) (mF 815) (aQ (HK.cF _ _) rfl rfl) ⟨kF,LS W I h λD=>kD (λkey=>.tup [.bytes key,pG m key]) _ rfl (bx.list .head) ?_ ?_⟩))
  ·exact λi key hk=>⟨.head,iT (ax.inst W.B (.tail h.rd.obj) (HK.mc _).cls (HK.oN _) (aQ (HK.cF _ _) rfl rfl) ⟨kF,CJ W I h.cons (cG _ (mem_of_getElem? hk)) (kE hk (le_trans bz (by decide)))⟩)⟩
  ·exact⟨.head,λa1=>bd.mj .head (by rw[length_map];exact aa jG bz) (ah L (.sub (.cons _ (.cons _ (.refl _)))) q)⟩
theorem ND(W:PG G)(I:cq k m)(h:bN k L a m x)(q:Q (Fx k m) L):Sp G 481 (dp+6) [.ref a] L Q E:=vT W (js W k.mc h.rd.obj (jn W k.mc h.rd.obj (mn W k.mc h.rd.obj (gZ W k.mc h.rd.obj (hH W k.mc h.rd.obj (ax.inst W.B h.rd.obj k.mc.cls k.w6 (aQ (k.cF _) rfl rfl) ⟨k.w7,LU W I h (q)⟩))))))
end
noncomputable def fl (f:List (List α)):List Nat->List α
 |[]=>[]
 |[i]=>f.getD i []
 |i::j::r=>f.getD i []++fl f (j::r)
theorem yc(f:List (List α)):∀l,fl f l=l.flatMap λi=>f.getD i []
 |[]=>rfl
 |[i]=>(append_nil _).symm
 |i::j::r=>by show f.getD i []++fl f (j::r)=_;rw[yc f (j::r)];rfl
theorem j8(f:List (List α))(l l':List Nat)(h:l.isPerm l'=true):(fl f l).Perm (fl f l'):=by simp only[yc,yc];exact List.Perm.flatMap_right _ (List.isPerm_iff.mp h)
theorem bN.over{k2:HK}{b:Addr}{m m2:MH}(h:bN k L a m x):bN k (bR k2 b m2 y L) a m x:=h.app.app.app.cons.cons.cons.cons
def ed(b:MB):MH:=⟨{b with vals:=[]},[],replicate (fA b.most).toNat [],[]⟩
theorem CK{b:MB}(I:g4 b)(e:b.kind=k.kind):cq k (ed b):=by
 refine⟨⟨e,I.kind,I.s0,I.s1,I.m0,I.m1,I.n0,I.n1,?_,λv h=>(by cases h),?_⟩,⟨λi l hl=>?_,λs key h=>(by cases h),nodup_nil⟩,λs h=>(by cases h),λU=>⟨nodup_nil,λs=>⟨λh=>(by cases h),λh=>(by cases h)⟩⟩⟩
 ·have:=I.m0;show((0:Nat):Int)<=b.most;exact aa F5 this
 ·refine(?_:((replicate (fA b.most).toNat []).length:Int)=fA b.most);rw[length_replicate];exact aa ⟨0,1,[.an (.ak 1 0) (.aL 0 4)],.ez (.c (.t .v0)) .v0⟩ (lT (n:=b.most))
 ·have hl:(replicate (fA b.most).toNat ([]:List Int))[i]?=some l:=hl;rw[List.getElem?_replicate] at hl
  split at hl
  ·refine av (Eq.symm (Option.some.inj hl)) ?_;exact⟨nodup_nil,λs h=>by cases h⟩
  ·as_aux_lemma=>
   lk
   cases hl
theorem Dz{vs:List (List Int)}(h:bs.length=vs.length):(dU bs vs).Perm (dU bs.reverse vs.reverse):=by unfold dU;refine(List.reverse_zipWith h)▸?_;exact(reverse_perm _).symm
section
variable{L:HL}{b:MB}{m:MH}
def QT(k:HK)(a:Addr)(m:MH)(x:HA)(R:HL):HL:=(a,.obj k.c (bp m.b x.d (HK.hash.ext x)))::(x.bl,.list (x.bas.map V.ref))::(x.kd,.di (dw m.az) x.n2)::(x.d,.di (vK x.bs) x.n)::(dU x.bas m.bks++(ch x.bs m.b.vals++R))
theorem DA(W:PG G)(I:g4 b)(q:∀x,x.Ok (ed b)->Q .none (QT k a (ed b) x R)):Sp G 646 (dp+4) [.ref a,.str b.kind,.int b.number,.int b.kw,.int b.size,.int b.most] ((a,.obj k.c [])::R) Q E:=by
 have gX:=lT (n:=b.most);have i0:=I.m0;refine Sp.ent (.refl _) (gO 646 ["self","kind","number","key_width","value_width","most"] [sf,bI "kind",dT "number",jl "key_width",lD "value_width",vA "most"] [] [qZ,iU,("bucket_count",.ref 634)] (sq [.ex (.aC aM "__init__" (.ae af (.ae aB (.ae aX (.ae bC (.ae dL (wa d9))))))),.du af "buckets" (.lc ⟨["spot"],false,[],[]⟩ (.call cf (wa (.call eM (wa d9)))) .yes (.lst .bT)),.du af "key_by_slot" .g7]) W (ax.cls W.B q5 vS ⟨kF,wb W k.mc I λd=>⟨kF,IB W (aa F6 I.m1) (bd.range (pB (bx.eL (aa ⟨0,1,[.an (.ak 1 0) (.aL 0 4)],.bh 0 1000000000000⟩ gX) (aa ⟨0,1,[.an (.ak 1 0) (.aL 0 4)],.c_ (-1000000000000) 0⟩ gX)) (λi bU=>bU.length=i) (λi bU=>dU bU (replicate i [])++((d,.dict [] 0)::(a,.obj k.c (bp b d []))::R)) (λU bU=>bU.reverse.map V.ref) [] rfl rfl rfl ?_ ?_))⟩⟩))
 ·intro i bU y hy hl;refine xA (i6 hy) λiL hi=>?_;refine av iL ?_;refine⟨trivial,iT (λc=>(m_ ?_ (c::bU) (congrArg (· +1) hl) rfl ?_))⟩
  ·rw[length_map,length_reverse];exact aa ⟨2,1,[.an (.ak 1 0) (.aL 0 4),.aA 0 1,.iC 1 0],.aJ 0 1000⟩ gX hl hi
  ·dsimp only;rw[reverse_cons,map_append];rfl
 ·intro bU hl;rw[gq] at hl;rw[gq];refine⟨trivial,λbl=>db.obj W.B (attrs':=bp b d [("buckets",.ref bl)]) (.tail rfl (.tail rfl (.tail rfl (.tail rfl (.tail rfl (.tail rfl .nil)))))) (.tail (.bE (.tail .head))) k.mc.cls k.wm (d6 rfl) λkd=>db.obj W.B (attrs':=bp b d [("buckets",.ref bl),("key_by_slot",.ref kd)]) (.tail rfl (.tail rfl (.tail rfl (.tail rfl (.tail rfl (.tail rfl (.tail rfl .nil))))))) (.tail (.tail (.bE (.tail .head)))) k.mc.cls k.Fv (d6 rfl) ?_⟩
  refine(ah _ (.perm ?_) (q ⟨d,bl,kd,0,[],bU.reverse,0,0⟩ ⟨rfl,by show bU.reverse.length=(replicate _ _).length;rw[length_reverse,length_replicate];exact hl⟩))
  have p1:(dU bU (replicate (fA b.most).toNat [])).Perm (dU bU.reverse (ed b).bks):=by have:=Dz (bs:=bU) (vs:=replicate (fA b.most).toNat []) (by rw[length_replicate];exact hl);rw[List.reverse_replicate] at this;exact this
  refine List.Perm.trans (List.Perm.append_left ([(kd,.dict [] 0),(bl,.list (bU.reverse.map V.ref))]:HL) (p1.append_right _)) ?_;exact j8 [[(kd,.dict [] 0)],[(bl,.list (bU.reverse.map V.ref))],dU bU.reverse (ed b).bks,[(d,.dict [] 0)],[(a,.obj k.c (bp b d [("buckets",.ref bl),("key_by_slot",.ref kd)]))],R] [0,1,2,3,4,5] [4,1,0,3,2,5] rfl
noncomputable def HK.Fy:HK->Addr
 |.hash=>646
 |.bG=>782
theorem NE(W:PG G)(I:g4 b)(q:∀x,x.Ok (ed b)->Q .none (bR k a (ed b) x R)):Sp G k.Fy (dp+5) [.ref a,.str b.kind,.int b.number,.int b.kw,.int b.size,.int b.most] ((a,.obj k.c [])::R) Q E:=by
 cases k
 ·exact DA (k:=.hash) W I q
 ·refine Sp.ent (.refl _) (gO 782 ["self","kind","number","key_width","value_width","most"] [sf,bI "kind",dT "number",jl "key_width",lD "value_width",vA "most"] [] [qr] (sq [.ex (.aC aM "__init__" (.ae af (.ae aB (.ae aX (.ae bC (.ae dL (wa d9))))))),.du af "order" (.lst .bT)]) W (ax.cls W.B sW Iu ⟨kF,DA (k:=.bG) W I λx hx=>(λo=>db.obj W.B (attrs':=bp (ed b).b x.d (HK.bG.ext {x with ol:=o})) (.tail rfl (.tail rfl (.tail rfl (.tail rfl (.tail rfl (.tail rfl (.tail rfl (.tail rfl .nil)))))))) (.tail .head) HK.bG.mc.cls HK.xa (d6 rfl) (ah _ (.perm ?_) (q {x with ol:=o} ⟨hx.bs,hx.bas⟩)))⟩))
  exact j8 [[(o,.list [])],[(a,.obj HK.bG.c (bp (ed b).b x.d (HK.bG.ext {x with ol:=o})))],[(x.bl,.list (x.bas.map V.ref))],[(x.kd,.di (dw (ed b).az) x.n2)],[(x.d,.di (vK x.bs) x.n)],dU x.bas (ed b).bks,ch x.bs (ed b).b.vals,R] [0,1,2,3,4,5,6,7] [1,2,3,4,0,5,6,7] rfl
theorem tW(W:PG G)(I:g4 b)(q:∀a x,x.Ok (ed b)->Q (.ref a) (bR k a (ed b) x R)):Sp G k.c (dp+6) [.str b.kind,.int b.number,.int b.kw,.int b.size,.int b.most] R Q E:=Sp.make (fI:=k.Fy) W.B k.mc.cls (by cases k;exact mF 646;exact(mF 782)) λx=>NE W I λy h=>⟨rfl,q x y h⟩
theorem pF.new(I:pF k m):g4 m.b:=⟨I.hJ,I.s0,I.s1,I.m0,I.m1,I.n0,I.n1⟩
noncomputable def HK.q9:HK->Addr
 |.hash=>751
 |.bG=>827
theorem NF(W:PG G)(I:pF k m)(h:bN k L a m x)(q:∀a y,y.Ok (ed m.b)->Q (.ref a) (bR k a (ed m.b) y L)):Sp G k.q9 (dp+7) [.ref a] L Q E:=by
 have hc:k=.hash\/k=.bG:=by cases k;exact .inl rfl;exact .inr rfl
 rcases hc with rfl|rfl
 ·exact gO 751 ["self"] [sf] [] [qr] (sq [.ret (.call aM (.ae (.aG af "kind") (.ae (.aG af "number") (.ae (.aG af "key_width") (.ae (.aG af "value_width") (wa (.aG af "most")))))))]) W ⟨kF,js W (HK.mc _) h.rd.obj (jn W (HK.mc _) h.rd.obj (mn W (HK.mc _) h.rd.obj (gZ W (HK.mc _) h.rd.obj (hH W (HK.mc _) h.rd.obj (tW W I.new q)))))⟩
 ·exact gO 827 ["self"] [sf] [] [Cv] (sq [.ret (.call aM (.ae (.aG af "kind") (.ae (.aG af "number") (.ae (.aG af "key_width") (.ae (.aG af "value_width") (wa (.aG af "most")))))))]) W ⟨kF,js W (HK.mc _) h.rd.obj (jn W (HK.mc _) h.rd.obj (mn W (HK.mc _) h.rd.obj (gZ W (HK.mc _) h.rd.obj (hH W (HK.mc _) h.rd.obj (tW (k:=.bG) W I.new q)))))⟩
end
theorem bQ.ps(M:HL){L:HL}(p:L.Perm M)(s:L'.Sublist M):bQ L L':=.trans (.perm p) (.sub s)
def iS(m:MH)(i:Nat):MH:=⟨m.b,m.az.take i,replicate (fA m.b.most).toNat [],[]⟩
section
variable{L:HL}{b:MB}{m:MH}
theorem NG(W:PG G)(I:cq k m)(h:bN k L a m x)(q:∀c y,y.Ok (iS m 0)->Q (.ref c) (bR k c (iS m 0) y L)):Sp G 469 (dp+8) [.ref a] L Q E:=by
 refine Sp.ent (.refl _) (w8 (ft:=k.q9) (T:=λe2 Gs=>∃y:HA,y.bas.length=(fA m.b.most).toNat/\e2=k.ext y/\Gs=(y.bl,Cl.list (y.bas.map V.ref))::(y.kd,.di [] y.n2)::(y.d,.di (vK y.bs) y.n)::(kl k y.ol []++(dU y.bas (replicate (fA m.b.most).toNat [])++ch y.bs []))) W k.mc (by cases k;exact mF 751;exact(mF 827)) (by cases k;exact kF;exact kF) (k.cF _) h.rd (aa F3 I.len I.m1) (λv hv=>by have:=I.each v hv;have:=I.s1;exact aa lq (by assumption) this) (λe2 Gs h=>?_) (λ{Q' E'} hq=>?_) λc d3 eu n3 e2 Gs he hb=>?_)
 ·lk
  obtain⟨y,_,rfl,_⟩:=h
  cases k<;>exact d6 rfl
 ·refine NF W I.topF h λc y hy=>?_;have:=hq c y.d (k.ext y) _ ⟨y,by have:=hy.bas;rw[this];show(replicate _ _).length=_;rw[length_replicate],rfl,rfl⟩
  have e:((y.bl,Cl.list (y.bas.map V.ref))::(y.kd,.di [] y.n2)::(y.d,.di (vK y.bs) y.n)::(kl k y.ol []++(dU y.bas (replicate (fA m.b.most).toNat [])++ch y.bs [])))++L=(y.bl,Cl.list (y.bas.map V.ref))::(y.kd,.di [] y.n2)::(y.d,.di (vK y.bs) y.n)::(kl k y.ol []++(dU y.bas (replicate (fA m.b.most).toNat [])++(ch y.bs []++L))):=by show _::_::_::((_++(_++_))++_)=_;rw[append_assoc,append_assoc]
  rw[e] at this;exact this
 ·obtain⟨y,hy,rfl,rfl⟩:=he;refine⟨_,.ps ((c,Cl.obj k.c (bp m.b d3 (k.ext y)))::(y.bl,.list (y.bas.map V.ref))::(y.kd,.di [] y.n2)::(d3,.di (vK eu) n3)::(kl k y.ol []++(dU y.bas (replicate (fA m.b.most).toNat [])++(ch eu m.b.vals++((y.d,.di (vK y.bs) y.n)::(ch y.bs []++L)))))) ?_ ?_,q c {y with d:=d3,bs:=eu,n:=n3} ⟨hb,by show _=(replicate _ _).length;rw[length_replicate];exact hy⟩⟩
  ·have e:bA c k.c m.b (k.ext y) d3 eu n3++(((y.bl,Cl.list (y.bas.map V.ref))::(y.kd,.di [] y.n2)::(y.d,.di (vK y.bs) y.n)::(kl k y.ol []++(dU y.bas (replicate (fA m.b.most).toNat [])++ch y.bs [])))++L)=fl [[(c,Cl.obj k.c (bp m.b d3 (k.ext y)))],[(y.bl,.list (y.bas.map V.ref))],[(y.kd,.di [] y.n2)],[(d3,.di (vK eu) n3)],kl k y.ol [],dU y.bas (replicate (fA m.b.most).toNat []),ch eu m.b.vals,[(y.d,.di (vK y.bs) y.n)],ch y.bs [],L] [0,3,6,1,2,7,4,5,8,9]:=by show _::_::(_++(_::_::_::((_++(_++_))++_)))=_;rw[append_assoc,append_assoc];rfl
   simp only[e];exact j8 _ _ [0,1,2,3,4,5,6,7,8,9] rfl
  ·refine .cons_cons _ (.cons_cons _ (.cons_cons _ (.cons_cons _ (List.Sublist.append_left (List.Sublist.append_left (List.Sublist.append_left (.cons _ (sublist_append_right _ _)) _) _) _))))
theorem DB(W:PG G)(I:cq k m)(h:bN k L a m x)(q:∀c y,y.Ok m->Q (.ref c) (bR k c {m with order:=[]} y L)):Sp G 756 (dp+9) [.ref a] L Q E:=by
 have hl:=I.core.rB I.m1;refine Sp.ent (.refl _) (gO 756 ["self"] [sf,aI "other",aI "slot"] [] [qZ] (sq [.asg (.var 1) (.aC aM "copy" (wa af)),.for [(.var 2)] false (.aG af "key_by_slot") (sq [.f0 (.aG aB "key_by_slot") (.var 2) (.sub (.aG af "key_by_slot") (.var 2))]),.du aB "buckets" (.lc ⟨["bucket"],false,[],[Ee]⟩ (.aG af "buckets") .yes (.call aM (wa af))),.ret aB]) W (ax.cls W.B q5 AY ⟨kF,NG W I h λc y hy=>j6 W h.over (rz (bx.dict W.B (bN.over h).kd) (λU U U=>True) (λi n' U=>bR k c (iS m i) {y with n2:=n'} L) (λU U v=>⟨[some (.ref a),some (.ref c),v],[]⟩) y.n2 _ trivial rfl rfl ?_ ?_)⟩))
 ·intro i n' v0 v hv _
  have hi:∃p,m.az[i]?=some p/\v=.int p.1:=by unfold cD dw at hv;rw[map_map,map_map,getElem?_map] at hv;refine ai (Option.map_eq_some_iff.mp hv) λp hp aw=>?_;refine av (Eq.symm aw) ?_;exact(ah p hp rfl)
  refine ai hi λp hp aw=>?_;refine av aw ?_;have rd:bN k (bR k c (iS m i) {y with n2:=n'} L) c (iS m i) {y with n2:=n'}:=.base ⟨hy.bs,hy.bas⟩;refine⟨(bN.over h).kd,j6 W h.over (a_.dk (dX _) (bN.over h).kd (v:=.bytes p.2) (by rw[mQ,wM I.core.kn hp];rfl) (j6 W rd (dC.dk (dX _) (kvs:=dw (iS m i).az) (n:=n') (L':=λn2=>bR k c (iS m (i+1)) {y with n2:=n2} L) (λn2=>?_) (by unfold dw iS;simp;exact aa ⟨3,0,[.aS 0 3,.oo (.an (.bY 1 0) (.aA 2 1)) (.an (.no (.bY 1 0)) (.aA 2 0))],.aJ 2 1000000⟩ hl eK) λn2=>⟨(n2,_),trivial,rfl,rfl⟩)))⟩
  have jO:bB (iS m i).az p.1=none:=by refine sZ.mpr λhm=>?_;have hn:=I.core.kn;rw[(show m.az.map (·.1)=(m.az.take i).map (·.1)++(m.az.drop i).map (·.1) by rw[←map_append,List.take_append_drop])] at hn;refine(List.nodup_append.mp hn).2.2 p.1 hm p.1 ?_ rfl;rw[List.drop_eq_getElem_cons ((gS hp).1),(gS hp).2];exact mem_cons_self ..
  have e:df (dw (iS m i).az) p.1 (.bytes p.2)=dw (iS m (i+1)).az:=by rw[CF jO];show dw (m.az.take i++[(p.1,p.2)])=dw (m.az.take (i+1));rw[take_add_one,hp];rfl
  refine(e)▸?_;exact .tail (.tail .head)
 ·intro n' v _;refine av (show((cD V.int (dw m.az)).map (·.1)).length=m.az.length by unfold cD dw;simp) ?_;refine⟨(bN.over h).kd,wn W h.over (pB (bx.list (bN.over h).bl) (λi cu=>cu.length=i) (λi cu=>dU cu (m.bks.take i).reverse++bR k c (iS m m.az.length) {y with n2:=n'} L) (λU cu=>cu.reverse.map V.ref) [] rfl rfl rfl ?_ ?_)⟩
  ·intro i cu v hv hl;rw[getElem?_map] at hv;refine ai (Option.map_eq_some_iff.mp hv) λb0 vD aw=>?_;refine av (Eq.symm aw) ?_;have GN:i<m.bks.length:=by have:=h.len;exact aa ra ((gS vD).1) this
   have hg:=gE GN;refine⟨.bE (bN.over h).bl,iT (bd.Fe (.bE ((bN.over h).bks _ _ _ vD hg)) (by rw[length_map];have:=I.core.y0 I.m1 hg;exact aa jG this) λc2=>(m_ ?_ (c2::cu) (congrArg (· +1) hl) ?_ ?_))⟩
   ·rw[length_map,length_reverse];exact aa ⟨3,1,[.dP 0 0,.an (.ak 1 0) (.aL 0 4),.aA 1 2,.bg 2 0],.aJ 1 1000⟩ I.bl (lT (n:=m.b.most)) hl GN
   ·dsimp only;rw[take_add_one,hg,List.reverse_append];rfl
   ·dsimp only;rw[reverse_cons,map_append];rfl
  ·intro cu hl;rw[length_map,h.len] at hl;rw[length_map,h.len];refine⟨.bE (bN.over h).bl,λbl=>db.obj W.B (attrs':=bp m.b y.d (k.ext {y with bl:=bl})) (.tail rfl (.tail rfl (.tail rfl (.tail rfl (.tail rfl (.tail rfl .head)))))) (.tail (.bE .head)) k.mc.cls k.wm (by cases k<;>exact d6 rfl) ?_⟩;simp only[take_length];refine(ah _ (.ps ((c,Cl.obj k.c (bp m.b y.d (k.ext {y with bl:=bl})))::(bl,.list (cu.reverse.map V.ref))::(y.kd,.di (dw m.az) n')::(y.d,.di (vK y.bs) y.n)::(kl k y.ol []++(dU cu.reverse m.bks++(ch y.bs m.b.vals++((y.bl,.list (y.bas.map V.ref))::(dU y.bas (replicate (fA m.b.most).toNat [])++L)))))) ?_ ?_) (q c {y with n2:=n',bl:=bl,bas:=cu.reverse} ⟨hy.bs,by show cu.reverse.length=_;rw[length_reverse];exact hl⟩))
   ·have p1:(dU cu m.bks.reverse).Perm (dU cu.reverse m.bks):=by have:=Dz (bs:=cu) (vs:=m.bks.reverse) (by rw[length_reverse];exact hl);rwa [List.reverse_reverse] at this
    have e:(iS m m.az.length).az=m.az:=take_length;simp only[e];refine List.Perm.trans (List.Perm.append_left ([(bl,.list (cu.reverse.map V.ref))]:HL) (p1.append_right _)) ?_;exact j8 [[(c,Cl.obj k.c (bp m.b y.d (k.ext {y with bl:=bl})))],[(bl,.list (cu.reverse.map V.ref))],[(y.kd,.di (dw m.az) n')],[(y.d,.di (vK y.bs) y.n)],kl k y.ol [],dU cu.reverse m.bks,ch y.bs m.b.vals,[(y.bl,.list (y.bas.map V.ref))],dU y.bas (replicate (fA m.b.most).toNat []),L] [1,5,0,7,2,3,4,8,6,9] [0,1,2,3,4,5,6,7,8,9] rfl
   ·refine .cons_cons _ (.cons_cons _ (.cons_cons _ (.cons_cons _ (List.Sublist.append_left (List.Sublist.append_left (List.Sublist.append_left (.cons _ (sublist_append_right _ _)) _) _) _))))
noncomputable def HK.o8:HK->Addr
 |.hash=>756
 |.bG=>834
theorem NH(W:PG G)(I:cq k m)(h:bN k L a m x)(q:∀c y,y.Ok m->Q (.ref c) (bR k c m y L)):Sp G k.o8 (dp+10) [.ref a] L Q E:=by
 cases k
 ·exact DB (k:=.hash) W I h q
 ·refine Sp.ent (.refl _) (gO 834 ["self"] [sf,aI "other"] [] [qr,Ee] (sq [.asg (.var 1) (.aC aM "copy" (wa af)),.du aB "order" (.call cf (wa (.aG af "order"))),.ret aB]) W (ax.cls W.B sW Iv ⟨kF,DB (k:=.bG) W I h λc y hy=>(kO W h.over (bd.Fe ((bN.over h).ord rfl) (by rw[length_map];have:=I.mq;exact aa jG this) λo=>db.obj W.B (attrs':=bp m.b y.d (HK.bG.ext {y with ol:=o})) (.tail rfl (.tail rfl (.tail rfl (.tail rfl (.tail rfl (.tail rfl (.tail rfl (.tail rfl .head)))))))) (.tail .head) HK.bG.mc.cls HK.xa (d6 rfl) (ah _ (.ps ((c,Cl.obj HK.bG.c (bp m.b y.d (HK.bG.ext {y with ol:=o})))::(y.bl,.list (y.bas.map V.ref))::(y.kd,.di (dw m.az) y.n2)::(y.d,.di (vK y.bs) y.n)::(o,.list (m.order.map V.int))::(dU y.bas m.bks++(ch y.bs m.b.vals++((y.ol,.list [])::L)))) ?_ ?_) (q c {y with ol:=o} ⟨hy.bs,hy.bas⟩))))⟩))
  ·exact j8 [[(c,Cl.obj HK.bG.c (bp m.b y.d (HK.bG.ext {y with ol:=o})))],[(y.bl,.list (y.bas.map V.ref))],[(y.kd,.di (dw m.az) y.n2)],[(y.d,.di (vK y.bs) y.n)],[(o,.list (m.order.map V.int))],dU y.bas m.bks,ch y.bs m.b.vals,[(y.ol,.list [])],L] [4,0,1,2,3,7,5,6,8] [0,1,2,3,4,5,6,7,8] rfl
  ·refine .cons_cons _ (.cons_cons _ (.cons_cons _ (.cons_cons _ (.cons_cons _ ?_))));show(dU y.bas m.bks++(ch y.bs m.b.vals++L)).Sublist _;exact List.Sublist.append_left (List.Sublist.append_left (.cons _ (.refl _)) _) _
end
structure MQ where
 b:MB
 head:Int
 tail:Int
noncomputable def cO (m:MQ):SV:=[("head",.int m.head),("tail",.int m.tail)]
theorem eQ(m:MQ):o6 (cO m):=λp h=>by
 rcases List.mem_cons.mp h with rfl|h
 ·rfl
 ·rcases List.mem_cons.mp h with rfl|h
  ·rfl
  ·cases h
structure cm(m:MQ):Prop where
 kind:m.b.kind="queue"\/m.b.kind="stack"
 kw:m.b.kw=0
 s0:1<=m.b.size
 s1:m.b.size<=16
 m0:1<=m.b.most
 m1:m.b.most<=3
 n0:0<=m.b.number
 n1:m.b.number<64
 each:∀v∈m.b.vals,(v.length:Int)=m.b.size
 h0:0<=m.head
 h1:m.head<=m.b.most
 t0:0<=m.tail
 t1:m.tail<=m.b.most
 fill:(m.b.vals.length:Int)=m.b.most+1\/(m.tail<=m.head/\m.head<=m.b.vals.length/\(m.b.vals.length:Int)<=m.b.most)
theorem cm.len{m:MQ}(I:cm m):(m.b.vals.length:Int)<=4:=by have:=I.m1;have:=I.fill;exact aa ⟨1,3,[.aL 0 3,.oo (.ez .c0 (.aj 0 1)) (.an (.bS 1 2) (.an (.dF 2 0) (.f6 0 0)))],.pJ 0 4⟩ (by assumption) this
theorem cm.hJ{m:MQ}(I:cm m):gM m.b.kind m.b.kw:=by
 rcases I.kind with h|h
 ·exact .inr (.inr (.inr (.inr (.inl ⟨h,I.kw⟩))))
 ·exact .inr (.inr (.inr (.inr (.inr ⟨h,I.kw⟩))))
theorem cm.new{m:MQ}(I:cm m):g4 m.b:=⟨I.hJ,I.s0,I.s1,I.m0,I.m1,I.n0,I.n1⟩
noncomputable def eP (m:MB) (s:Int):Int:=fmod (s+1) (m.most+1)
noncomputable def jT (m:MB) (s:Int):Int:=fmod (s-1) (m.most+1)
theorem Pp(m0:1<=m.most)(m1:m.most<=3)(h0:0<=s)(h1:s<=m.most):eP m s=if s=m.most then 0 else s+1:=by
 unfold eP;rw[fmod_eq_emod_of_nonneg _ (by exact aa uy m0)]
 split
 ·rename_i h;rw[h,Int.emod_self]
 ·rw[emod_eq_of_lt (by exact aa yw h0) (by exact aa ⟨0,2,[.bS 0 1,.no (.bM 0 1)],.tz (.aj 0 1) (.aj 1 1)⟩ h1 (by assumption))]
theorem Pq(m0:1<=m.most)(m1:m.most<=3)(h0:0<=s)(h1:s<=m.most):jT m s=if s=0 then m.most else s-1:=by
 unfold jT;rw[fmod_eq_emod_of_nonneg _ (by exact aa uy m0)]
 split
 ·rename_i h
  subst h
  have:(0-1:Int)%(m.most+1)=(m.most)%(m.most+1):=by rw[←Int.add_emod_right];congr 1;exact aa ⟨0,1,[],.ez (.a (.s (.k 0) (.k 1)) (.aj 0 1)) .v0⟩
  rw[this,emod_eq_of_lt (by exact aa F7 h1) (by exact aa ⟨0,1,[],.tz .v0 (.aj 0 1)⟩)]
 ·rw[emod_eq_of_lt (by exact aa F2 h0 (by assumption)) (by exact aa ⟨0,2,[.bS 0 1],.tz (.dK 0 1) (.aj 1 1)⟩ h1)]
theorem cm.on{m:MQ}(I:cm m)(h0:0<=s)(h1:s<=m.b.most):eP m.b s=if s=m.b.most then 0 else s+1:=Pp I.m0 I.m1 h0 h1
theorem cm.bk{m:MQ}(I:cm m)(h0:0<=s)(h1:s<=m.b.most):jT m.b s=if s=0 then m.b.most else s-1:=Pq I.m0 I.m1 h0 h1
theorem bV:MC P 973:=⟨JI,aF,aF,aF,aF,aF,aF⟩
section
variable{L:HL}{d:Addr}{m:MQ}
theorem lU(W:PG G)(h:ap L a (.obj 973 (bp m.b d (cO m))))(q:Q (.int m.head) L):dG (cx G dp) (.ref a) "head" L Q E:=dG.obj W.B h (.tail (.tail (.tail (.tail (.tail (.tail .head)))))) bV.cls aF trivial q
theorem m7(W:PG G)(h:ap L a (.obj 973 (bp m.b d (cO m))))(q:Q (.int m.tail) L):dG (cx G dp) (.ref a) "tail" L Q E:=dG.obj W.B h (.tail (.tail (.tail (.tail (.tail (.tail (.tail .head))))))) bV.cls aF trivial q
theorem DC(W:PG G)(h:ap L a (.obj 973 (bp m.b d (cO m))))(q:Q (.int (m.b.most+1)) L):Sp G 860 (dp+1) [.ref a] L Q E:=gO 860 ["self"] [sf] [] [] (sq [.ret (.bin .Add (.aG af "most") (.int 1))]) W (hH W bV h q)
theorem qB(W:PG G)(m0:1<=m.b.most)(h:ap L a (.obj 973 (bp m.b d (cO m))))(q:Q (.int (eP m.b s)) L):Sp G 867 (dp+2) [.ref a,.int s] L Q E:=gO 867 ["self","slot"] [sf,bI "slot"] [] [] (sq [.ret (.bin .Mod (.bin .Add aB (.int 1)) (.aC af "room" .bT))]) W (ax.inst W.B h bV.cls (mF 860) (aQ (eQ m) rfl rfl) ⟨kF,DC W h ⟨aa F8 m0,q⟩⟩)
theorem Em(W:PG G)(m0:1<=m.b.most)(h:ap L a (.obj 973 (bp m.b d (cO m))))(q:Q (.int (jT m.b s)) L):Sp G 874 (dp+2) [.ref a,.int s] L Q E:=gO 874 ["self","slot"] [sf,bI "slot"] [] [] (sq [.ret (.bin .Mod (.bin .Sub aB (.int 1)) (.aC af "room" .bT))]) W (ax.inst W.B h bV.cls (mF 860) (aQ (eQ m) rfl rfl) ⟨kF,DC W h ⟨aa F8 m0,q⟩⟩)
theorem Bk(W:PG G)(h:ap L a (.obj 973 (bp m.b d (cO m))))(q:Q (.bool (m.head==m.tail)) L):Sp G 888 (dp+1) [.ref a] L Q E:=gO 888 ["self"] [sf] [] [] (sq [.ret (.cmp .Eq (.aG af "head") (.aG af "tail"))]) W (lU W h (m7 W h q))
theorem BS(W:PG G)(m0:1<=m.b.most)(h:ap L a (.obj 973 (bp m.b d (cO m))))(q:Q (.bool (eP m.b m.head==m.tail)) L):Sp G 895 (dp+3) [.ref a] L Q E:=gO 895 ["self"] [sf] [] [] (sq [.ret (.cmp .Eq (.aC af "onward" (wa (.aG af "head"))) (.aG af "tail"))]) W (ax.inst W.B h bV.cls (mF 867) (aQ (eQ m) rfl rfl) ⟨kF,lU W h (qB W m0 h (m7 W h q))⟩)
theorem LW(I:cm m)(ho:(o.length:Int)=m.b.size)(hf:eP m.b m.head≠m.tail):cm {b:={m.b with vals:=eE m.b.vals m.head.toNat o},head:=eP m.b m.head,tail:=m.tail}:=by
 have h0:=I.h0;have h1:=I.h1;have t0:=I.t0;have t1:=I.t1;have m0:=I.m0;have e:=I.on h0 h1;refine⟨I.kind,I.kw,I.s0,I.s1,m0,I.m1,I.n0,I.n1,λv hv=>?_,?_,?_,t0,t1,?_⟩
 ·rcases CH hv with hv|rfl
  ·exact I.each v hv
  ·exact ho
 ·show 0<=eP m.b m.head;rw[e];exact aa F9 h0 io
 ·show eP m.b m.head<=m.b.most;rw[e];exact aa ⟨0,4,[.bS 0 1,.ak 0 2,.bS 2 1,.oo (.an (.bM 0 1) (.be 3 0)) (.an (.no (.bM 0 1)) (.ez .v3 (.aj 0 1)))],.bS 3 1⟩ h1 t0 t1 io
 ·show((eE m.b.vals m.head.toNat o).length:Int)=m.b.most+1\/(m.tail<=eP m.b m.head/\eP m.b m.head<=((eE m.b.vals m.head.toNat o).length:Int)/\((eE m.b.vals m.head.toNat o).length:Int)<=m.b.most);rw[e,(wo:(eE m.b.vals m.head.toNat o).length=if m.head.toNat<m.b.vals.length then m.b.vals.length else m.b.vals.length+1)];rw[e] at hf;exact aa ⟨2,4,[.bS 0 1,.ak 1 1,.oo (.ez .c0 (.aj 1 1)) (.an (.bS 2 0) (.an (.dF 0 0) (.f6 0 1))),.oo (.an (.bM 0 1) (.be 3 0)) (.an (.no (.bM 0 1)) (.ez .v3 (.aj 0 1))),.oo (.an (.tn (.t .v0) .v0) (.aA 1 0)) (.an (.no (.tn (.t .v0) .v0)) (.en .v1 (.aj 0 1)))],.oo (.ez .c1 (.aj 1 1)) (.an (.bS 2 3) (.an (.dF 3 1) (.f6 1 1)))⟩ h1 m0 I.fill io io
theorem CL(I:cm m)(hf:m.head≠m.tail):cm {m with tail:=eP m.b m.tail}:=by
 have t0:=I.t0;have t1:=I.t1;have m0:=I.m0;have e2:=I.on t0 t1;refine⟨I.kind,I.kw,I.s0,I.s1,m0,I.m1,I.n0,I.n1,I.each,I.h0,I.h1,?_,?_,?_⟩
 ·show 0<=eP m.b m.tail;rw[e2];exact aa F9 t0 io
 ·show eP m.b m.tail<=m.b.most;rw[e2];exact aa ⟨0,3,[.bS 0 1,.ak 1 1,.oo (.an (.bM 0 1) (.be 2 0)) (.an (.no (.bM 0 1)) (.ez .v2 (.aj 0 1)))],.bS 2 1⟩ t1 m0 io
 ·refine(?_:(m.b.vals.length:Int)=m.b.most+1\/(eP m.b m.tail<=m.head/\m.head<=m.b.vals.length/\(m.b.vals.length:Int)<=m.b.most));rw[e2];exact aa ⟨1,4,[.no (.bM 0 1),.oo (.ez .c0 (.aj 2 1)) (.an (.bS 1 0) (.an (.dF 0 0) (.f6 0 2))),.oo (.an (.bM 1 2) (.be 3 0)) (.an (.no (.bM 1 2)) (.ez .v3 (.aj 1 1)))],.oo (.ez .c0 (.aj 2 1)) (.an (.bS 3 0) (.an (.dF 0 0) (.f6 0 2)))⟩ hf I.fill io
theorem LX(I:cm m)(hf:m.head≠m.tail):cm {m with head:=jT m.b m.head}:=by
 have h0:=I.h0;have h1:=I.h1;have t0:=I.t0;have m0:=I.m0;have e2:=I.bk h0 h1;refine⟨I.kind,I.kw,I.s0,I.s1,m0,I.m1,I.n0,I.n1,I.each,?_,?_,t0,I.t1,?_⟩
 ·show 0<=jT m.b m.head;rw[e2];exact aa ⟨0,3,[.ak 0 0,.ak 1 1,.oo (.an (.be 0 0) (.bM 2 1)) (.an (.no (.be 0 0)) (.ez .v2 (.dK 0 1)))],.ak 0 2⟩ h0 m0 io
 ·show jT m.b m.head<=m.b.most;rw[e2];exact aa ⟨0,3,[.bS 0 1,.oo (.an (.be 0 0) (.bM 2 1)) (.an (.no (.be 0 0)) (.ez .v2 (.dK 0 1)))],.bS 2 1⟩ h1 io
 ·refine(?_:(m.b.vals.length:Int)=m.b.most+1\/(m.tail<=jT m.b m.head/\jT m.b m.head<=m.b.vals.length/\(m.b.vals.length:Int)<=m.b.most));rw[e2];exact aa ⟨1,4,[.no (.bM 0 1),.ak 0 1,.oo (.ez .c0 (.aj 2 1)) (.an (.bS 1 0) (.an (.dF 0 0) (.f6 0 2))),.oo (.an (.be 0 0) (.bM 3 2)) (.an (.no (.be 0 0)) (.ez .v3 (.dK 0 1)))],.oo (.ez .c0 (.aj 2 1)) (.an (.bS 1 3) (.an (.dF 3 0) (.f6 0 2)))⟩ hf t0 I.fill io
theorem NI(I:cm m)(h:eP m.b m.head=m.tail):m.head≠m.tail:=by rw[I.on I.h0 I.h1] at h;exact aa ⟨0,4,[.bM 0 1,.ak 1 2,.oo (.an (.bM 3 2) (.be 0 0)) (.an (.no (.bM 3 2)) (.ez .v0 (.aj 3 1)))],.no (.bM 3 1)⟩ h I.m0 io
theorem Pt(I:cm m)(h:m.head≠m.tail):eP m.b m.head≠eP m.b m.tail:=by have h0:=I.h0;have t0:=I.t0;have m0:=I.m0;simp only[I.on h0 I.h1,I.on t0 I.t1];exact aa ⟨0,5,[.no (.bM 0 1),.ak 0 0,.ak 0 1,.oo (.an (.bM 0 2) (.be 3 0)) (.an (.no (.bM 0 2)) (.ez .v3 (.aj 0 1))),.oo (.an (.bM 1 2) (.be 4 0)) (.an (.no (.bM 1 2)) (.ez .v4 (.aj 1 1)))],.no (.bM 3 4)⟩ h h0 t0 io io
theorem xb(W:PG G)(I:cm m)(hb:bs.length=m.b.vals.length)(ho:(o.length:Int)=m.b.size){f:Int}(hn:eP m.b m.head≠m.tail)(q:∀m' aU n' i,cm m'->aU.length=m'.b.vals.length->m'.b={m.b with vals:=m'.b.vals}->Q (.int i) (bA a 973 m'.b (cO m') d aU n'++R)):
  wpS (cx G (dp+3)) (sq [.ex (.aC af "lay" (.ae (.aG af "head") (wa bC))),.du af "head" (.aC af "onward" (wa (.aG af "head"))),.ret (.int 0)]) (Iw (kG G)).globs ⟨[some (.ref a),some (.bytes o),some (.int f),some (.bytes o)],[]⟩ (bA a 973 m.b (cO m) d bs n++R) (gC Q) (λU=>E):=by
 have h0:=I.h0;refine ax.inst W.B .head bV.cls (mF 448) (aQ (eQ m) rfl rfl) ⟨kF,lU W .head ?_⟩;have e3:m.head=(m.head.toNat:Int):=aa ⟨0,1,[.ak 0 0],.ez .v0 (.c (.t .v0))⟩ h0
 have iz:∀{Q':VP},(∀aU n',aU.length=(eE m.b.vals m.head.toNat o).length->Q' .none (bA a 973 {m.b with vals:=eE m.b.vals m.head.toNat o} (cO m) d aU n'++R))->Sp G 448 (dp+3) [.ref a,.int m.head,.bytes o] (bA a 973 m.b (cO m) d bs n++R) Q' E:=λ{Q'} q'=>by have e4:Sp G 448 (dp+3) [.ref a,.int (m.head.toNat:Int),.bytes o] (bA a 973 m.b (cO m) d bs n++R) Q' E:=x9 W bV hb (aa F_ I.len) (aa ⟨1,3,[.bS 0 1,.oo (.ez .c0 (.aj 1 1)) (.an (.bS 2 0) (.an (.dF 0 0) (.f6 0 1)))],.ln (.t .v0) .v0⟩ I.h1 I.fill) (aa lq ho I.s1) (λv hv=>by have:=I.each v hv;exact aa uC ho this) q';rw[←e3] at e4;exact e4
 refine iz λaU n' eH=>?_;refine ax.inst W.B .head bV.cls (mF 867) (aQ (eQ m) rfl rfl) ⟨kF,lU (m:={m with b:={m.b with vals:=eE m.b.vals m.head.toNat o}}) W .head (qB (m:={m with b:={m.b with vals:=eE m.b.vals m.head.toNat o}}) W I.m0 .head (db.obj W.B (attrs':=bp m.b d [("head",.int (eP m.b m.head)),("tail",.int m.tail)]) (.tail rfl (.tail rfl (.tail rfl (.tail rfl (.tail rfl (.tail rfl .head)))))) .head bV.cls aF (d6 rfl) (q _ aU n' 0 (LW I ho hn) eH rfl)))⟩
theorem Pu(W:PG G)(I:cm m)(hb:bs.length=m.b.vals.length)(ho:(o.length:Int)=m.b.size){f:Int}(hf:f=0\/f=2)(q:∀m' aU n' i,cm m'->aU.length=m'.b.vals.length->m'.b={m.b with vals:=m'.b.vals}->Q (.int i) (bA a 973 m'.b (cO m') d aU n'++R)):Sp G 902 (dp+4) [.ref a,.bytes o,.int f] (bA a 973 m.b (cO m) d bs n++R) Q E:=by
 refine gO 902 ["self","octets","flags"] [sf,bI "octets",dT "flags",aI "told"] [] [BI,qz,tL] Ix W (ax.inst W.B .head bV.cls (mF 327) (aQ (eQ m) rfl rfl) ⟨kF,vJ W bV .head ho (aa lq ho I.s1) ?_⟩)
 rcases hf with rfl|rfl
 ·refine iF (iF (ax.inst W.B .head bV.cls (mF 895) (aQ (eQ m) rfl rfl) ⟨kF,BS W I.m0 .head ⟨λU=>iT (q m bs n _ I hb rfl),λe=>xb W I hb ho (by simpa using e) q⟩⟩))
 ·refine iT (iF (ax.inst W.B .head bV.cls (mF 895) (aQ (eQ m) rfl rfl) ⟨kF,BS W I.m0 .head ⟨λe=>iF ?_,λe=>xb W I hb ho (by simpa using e) q⟩⟩));have dj:=NI I (show eP m.b m.head=m.tail by simpa using e);exact ax.inst W.B .head bV.cls (mF 867) (aQ (eQ m) rfl rfl) ⟨kF,m7 W .head (qB W I.m0 .head (db.obj W.B (attrs':=bp m.b d [("head",.int m.head),("tail",.int (eP m.b m.tail))]) (.tail rfl (.tail rfl (.tail rfl (.tail rfl (.tail rfl (.tail rfl (.tail rfl .head))))))) .head bV.cls aF (d6 rfl) (xb (m:={m with tail:=eP m.b m.tail}) W (CL I dj) hb ho (Pt I dj) q)))⟩
def ni(m:MQ):Int:=if m.b.kind="queue" then m.tail else jT m.b m.head
theorem LY(I:cm m)(h:m.head≠m.tail):0<=ni m/\ni m<m.b.vals.length:=by
 have h0:=I.h0;have h1:=I.h1;have t0:=I.t0;have m0:=I.m0;have rT:=I.fill;unfold ni
 split
 ·exact aa ⟨1,3,[.no (.bM 0 1),.ak 0 1,.bS 1 2,.oo (.ez .c0 (.aj 2 1)) (.an (.bS 1 0) (.an (.dF 0 0) (.f6 0 2)))],.an (.ak 0 1) (.eJ 1 0)⟩ h t0 I.t1 rT
 ·rw[(I.bk h0 h1)];exact aa ⟨1,4,[.no (.bM 0 1),.ak 0 0,.bS 0 2,.ak 0 1,.oo (.ez .c0 (.aj 2 1)) (.an (.bS 1 0) (.an (.dF 0 0) (.f6 0 2))),.oo (.an (.be 0 0) (.bM 3 2)) (.an (.no (.be 0 0)) (.ez .v3 (.dK 0 1)))],.an (.ak 0 3) (.eJ 3 0)⟩ h h0 h1 t0 rT io
theorem Pv(W:PG G)(I:cm m)(h:Rd L a 973 m.b (cO m) d bs n)(q:m.head=m.tail->Q .none L)(q2:∀o,m.head≠m.tail->Q (.bytes o) L):Sp G 916 (dp+4) [.ref a] L Q E:=by
 refine gO 916 ["self"] [sf,aI "slot"] [] [gJ] (sq [.asg (.var 1) (.aC af "next_slot" .bT),.ret (.fy (.cmp .Is aB .none) .none (.call aM (wa (.sub (.aG af "values") (.var 1)))))]) W (ax.inst W.B h.obj bV.cls (mF 909) (aQ (eQ m) rfl rfl) ⟨kF,?_⟩)
 by_cases e:m.head=m.tail
 ·exact Ag W (ax.inst W.B h.obj bV.cls (mF 888) (aQ (eQ m) rfl rfl) ⟨kF,Bk W h.obj ⟨λU=>iT (q e),λh2=>by rw[e] at h2;simp at h2⟩⟩)
 ·have aT:=LY I e
  have iz:∀s,s=ni m->a_ (cx G (dp+3)) (.ref d) (.int s) L (λv L=>bd (cx G (dp+3)) "bytes" [v] L Q E) E:=λs hs=>by
   refine av hs ?_;refine a_.val W rfl h aT.1 aT.2 λb hb=>bd.n8 hb ?_ (q2 _ e)
   have hm:m.b.vals.getD (ni m).toNat []∈m.b.vals:=by rw[getD_eq_getElem?_getD,gE (by exact aa rh aT)];exact getElem_mem _
   have:=I.each _ hm;exact aa nT I.s1 this
  refine Ag W (ax.inst W.B h.obj bV.cls (mF 888) (aQ (eQ m) rfl rfl) ⟨kF,Bk W h.obj ⟨λh2=>absurd (eq_of_beq h2) e,λU=>js W bV h.obj ⟨λhk=>?_,λhk=>?_⟩⟩⟩)
  ·have hk:m.b.kind="queue":=eq_of_beq hk
   exact m7 W h.obj (iF (fY W bV h.obj (iz _ (by unfold ni;rw[if_pos hk]))))
  ·have hk:¬m.b.kind="queue":=by simpa using hk
   exact ax.inst W.B h.obj bV.cls (mF 874) (aQ (eQ m) rfl rfl) ⟨kF,lU W h.obj (Em W I.m0 h.obj (iF (fY W bV h.obj (iz _ (by unfold ni;rw[if_neg hk])))))⟩
theorem QU(W:PG G)(I:cm m)(hb:bs.length=m.b.vals.length)(q:∀m' v,cm m'->bs.length=m'.b.vals.length->m'.b={m.b with vals:=m'.b.vals}->Q v (bA a 973 m'.b (cO m') d bs n++R)):Sp G 923 (dp+5) [.ref a] (bA a 973 m.b (cO m) d bs n++R) Q E:=by
 refine gO 923 ["self"] [sf,aI "found"] [] [] (sq [.asg (.var 1) (.aC af "peek" .bT),.ite (.cmp .IsNot aB .none) (sq [.ite (.cmp .Eq (.aG af "kind") (.str "queue")) (sq [.du af "tail" (.aC af "onward" (wa (.aG af "tail")))]) (sq [.du af "head" (.aC af "back" (wa (.aG af "head")))])]) .nil,.ret aB]) W (ax.inst W.B .head bV.cls (mF 916) (aQ (eQ m) rfl rfl) ⟨kF,Pv W I (.base hb) (λU=>iF (q m .none I hb rfl)) λo e=>iT (js W bV .head ⟨λU=>?_,λU=>?_⟩)⟩)
 ·exact ax.inst W.B .head bV.cls (mF 867) (aQ (eQ m) rfl rfl) ⟨kF,m7 W .head (qB W I.m0 .head (db.obj W.B (attrs':=bp m.b d [("head",.int m.head),("tail",.int (eP m.b m.tail))]) (.tail rfl (.tail rfl (.tail rfl (.tail rfl (.tail rfl (.tail rfl (.tail rfl .head))))))) .head bV.cls aF (d6 rfl) (q _ _ (CL I e) hb rfl)))⟩
 ·exact ax.inst W.B .head bV.cls (mF 874) (aQ (eQ m) rfl rfl) ⟨kF,lU W .head (Em W I.m0 .head (db.obj W.B (attrs':=bp m.b d [("head",.int (jT m.b m.head)),("tail",.int m.tail)]) (.tail rfl (.tail rfl (.tail rfl (.tail rfl (.tail rfl (.tail rfl .head)))))) .head bV.cls aF (d6 rfl) (q _ _ (LX I e) hb rfl)))⟩
end
noncomputable def ib (m:MQ):Nat:=(if m.tail<=m.head then m.head-m.tail else m.head-m.tail+(m.b.most+1)).toNat
noncomputable def gd (m:MQ) (i:Nat):Int:=if m.tail+i<=m.b.most then m.tail+i else m.tail+i-(m.b.most+1)
noncomputable def m8 (m:MQ):List Int:=(List.range (ib m)).map λi=>gd m i
noncomputable def km (m:MQ):List Int:=if m.b.kind="queue" then m8 m else(m8 m).reverse
noncomputable def En (m:MQ):V:=.tup ((km m).map λs=>.bytes (m.b.vals.getD s.toNat []))
noncomputable def Fz (m:MQ):V:=.tup [.str m.b.kind,.int m.b.number,.int m.b.kw,.int m.b.size,.int m.b.most,En m]
section
variable{L:HL}{d:Addr}{m:MQ}{b:MB}
theorem Eo(I:cm m):ib m<=3:=by have h0:=I.h0;have t1:=I.t1;unfold ib;exact aa ⟨0,4,[.bS 0 1,.ak 0 2,.aL 1 3,.oo (.an (.bS 2 0) (.ez .v3 (.ee 0 2))) (.an (.no (.bS 2 0)) (.ez .v3 (.a (.ee 0 2) (.aj 1 1))))],.ln (.t .v3) (.k 3)⟩ I.h1 I.t0 I.m1 io
theorem CM(I:cm m)(hi:i<=ib m):0<=gd m i/\gd m i<=m.b.most/\(gd m i=m.head↔i=ib m)/\(i<ib m->gd m i<m.b.vals.length/\eP m.b (gd m i)=gd m (i+1)):=by
 have h1:=I.h1;have t1:=I.t1;have m0:=I.m0;have m1:=I.m1
 have hr:0<=gd m i/\gd m i<=m.b.most:=by unfold ib at hi;unfold gd;exact aa ⟨1,5,[.ln .v0 (.t .v0),.bS 1 2,.ak 0 3,.bS 3 2,.oo (.an (.bS 3 1) (.ez .v0 (.ee 1 3))) (.an (.no (.bS 3 1)) (.ez .v0 (.a (.ee 1 3) (.aj 2 1)))),.oo (.an (.lz (.a .v3 .c0) .v2) (.ez .v4 (.a .v3 .c0))) (.an (.no (.lz (.a .v3 .c0) .v2)) (.ez .v4 (.s (.a .v3 .c0) (.aj 2 1))))],.an (.ak 0 4) (.bS 4 2)⟩ hi h1 I.t0 t1 io io
 unfold ib at hi⊢;unfold gd at hr⊢;refine(l7 hr.1 hr.2 ⟨λh=>?_,λh=>?_⟩ (λh=>⟨?_,?_⟩))
 ·exact aa ⟨1,5,[.ln .v0 (.t .v0),.an (.ak 0 1) (.bS 1 2),.bM 1 3,.oo (.an (.bS 4 3) (.ez .v0 (.ee 3 4))) (.an (.no (.bS 4 3)) (.ez .v0 (.a (.ee 3 4) (.aj 2 1)))),.oo (.an (.lz (.a .v4 .c0) .v2) (.ez .v1 (.a .v4 .c0))) (.an (.no (.lz (.a .v4 .c0) .v2)) (.ez .v1 (.s (.a .v4 .c0) (.aj 2 1))))],.en .v0 (.t .v0)⟩ hi hr h io io
 ·exact aa ⟨1,5,[.ak 0 0,.bS 0 1,.bS 2 1,.en .v0 (.t .v3),.oo (.an (.bS 2 0) (.ez .v3 (.ee 0 2))) (.an (.no (.bS 2 0)) (.ez .v3 (.a (.ee 0 2) (.aj 1 1)))),.oo (.an (.lz (.a .v2 .c0) .v1) (.ez .v4 (.a .v2 .c0))) (.an (.no (.lz (.a .v2 .c0) .v1)) (.ez .v4 (.s (.a .v2 .c0) (.aj 1 1))))],.bM 4 0⟩ I.h0 h1 t1 h io io
 ·exact aa ⟨2,5,[.oo (.ez .c0 (.aj 0 1)) (.an (.bS 1 2) (.an (.dF 2 0) (.f6 0 0))),.an (.ak 0 3) (.bS 3 0),.tn .v1 (.t .v4),.oo (.an (.bS 1 2) (.ez .v4 (.ee 2 1))) (.an (.no (.bS 1 2)) (.ez .v4 (.a (.ee 2 1) (.aj 0 1)))),.oo (.an (.lz (.a .v1 .c1) .v0) (.ez .v3 (.a .v1 .c1))) (.an (.no (.lz (.a .v1 .c1) .v0)) (.ez .v3 (.s (.a .v1 .c1) (.aj 0 1))))],.eJ 3 0⟩ I.fill hr h io io
 ·rw[I.on hr.1 hr.2];by_cases e:m.tail+(i:Int)<=m.b.most
  ·rw[if_pos e];exact aa ⟨1,4,[.lz (.a .v0 .c0) .v1,.oo (.an (.ez (.a .v0 .c0) .v1) (.be 2 0)) (.an (.no (.ez (.a .v0 .c0) .v1)) (.ez .v2 (.a (.a .v0 .c0) (.k 1)))),.oo (.an (.lz (.a .v0 (.c (.aj 0 1))) .v1) (.ez .v3 (.a .v0 (.c (.aj 0 1))))) (.an (.no (.lz (.a .v0 (.c (.aj 0 1))) .v1)) (.ez .v3 (.s (.a .v0 (.c (.aj 0 1))) (.aj 1 1))))],.bM 2 3⟩ e io io
  ·rw[if_neg e];exact aa ⟨1,6,[.bS 0 1,.tn .v0 (.t .v2),.no (.lz (.a .v3 .c0) .v1),.oo (.an (.bS 3 0) (.ez .v2 (.ee 0 3))) (.an (.no (.bS 3 0)) (.ez .v2 (.a (.ee 0 3) (.aj 1 1)))),.oo (.an (.ez (.s (.a .v3 .c0) (.aj 1 1)) .v1) (.be 4 0)) (.an (.no (.ez (.s (.a .v3 .c0) (.aj 1 1)) .v1)) (.ez .v4 (.a (.s (.a .v3 .c0) (.aj 1 1)) (.k 1)))),.oo (.an (.lz (.a .v3 (.c (.aj 0 1))) .v1) (.ez .v5 (.a .v3 (.c (.aj 0 1))))) (.an (.no (.lz (.a .v3 (.c (.aj 0 1))) .v1)) (.ez .v5 (.s (.a .v3 (.c (.aj 0 1))) (.aj 1 1))))],.bM 4 5⟩ h1 h e io io io
theorem Pw(W:PG G)(I:cm m)(h:ap L a (.obj 973 (bp m.b d (cO m))))(q:∀D,Q (.ref D) ((D,.list ((km m).map V.int))::L)):Sp G 930 (dp+3) [.ref a] L Q E:=by
 have hc:=Eo I;refine Sp.ent (.refl _) (HZ W (λD=>m7 W (.tail h) ⟨λn σ M=>∃i,i<=ib m/\n=ib m-i/\M=(D,.list (((List.range i).map λi=>gd m i).map V.int))::L/\σ=⟨[some (.ref a),some (.ref D),some (.int (gd m i))],[]⟩,(jo (ib m) 0 (zero_le _) rfl rfl ?_),?_⟩))
 ·have:gd m 0=m.tail:=by have:=I.t1;unfold gd;rw[if_pos (by exact aa ⟨0,2,[.bS 0 1],.lz (.a .v0 (.c (.k 0))) .v1⟩ this)];simp
  rw[this];rfl
 ·intro n σ M zz;refine xB zz λi hi aw aE g9=>?_;refine av aw ?_;refine av aE ?_;refine av g9 ?_;refine yl (CM I hi) λh0 h1 h2 h3=>?_;refine lU W (.tail h) ⟨λe=>?_,λe=>?_⟩
  ·have e:gd m i≠m.head:=by simpa using e
   have aT:i<ib m:=by have:¬i=ib m:=λh=>e (h2.mpr h);exact aa Ga hi this
   refine ax.append .head (br.append (v:=.int (gd m i)) .head (by simp;exact aa ⟨2,0,[.aS 0 3,.bg 1 0],.aJ 1 1000000⟩ hc aT) (ax.inst W.B (.tail h) bV.cls (mF 867) (aQ (eQ m) rfl rfl) ⟨kF,qB W I.m0 (.tail h) ?_⟩));simp only[(h3 aT).2];refine⟨ib m-(i+1),aa ⟨2,0,[.bg 0 1],.tn (.s .v1 (.aj 0 1)) (.ee 1 0)⟩ aT,i+1,aT,rfl,?_,rfl⟩;rw[range_succ,map_append,map_append];rfl
  ·have e:gd m i=m.head:=by simpa using e
   refine av (h2.mp e) ?_;refine js W bV (.tail h) ⟨λhk=>?_,λhk=>?_⟩
   ·have hk:m.b.kind="queue":=eq_of_beq hk
    have e:km m=m8 m:=by unfold km;rw[if_pos hk]
    rw[e] at q;exact(ah _ (.refl _) (q D))
   ·have hk:¬m.b.kind="queue":=by simpa using hk
    have e:km m=(m8 m).reverse:=by unfold km;rw[if_neg hk]
    rw[e,List.map_reverse] at q;refine λi=>a_.RY (.tail .head) .head (by simp;exact aa jG hc) λD2=>(ah _ (.sub (.cons_cons _ (.cons _ (.cons _ (.refl _))))) (q D2))
theorem DD(I:cm m):(km m).length<=3/\∀s∈km m,0<=s/\s<m.b.vals.length:=by
 have h1:(m8 m).length<=3:=by unfold m8;simp;exact aa yv (Eo I)
 have h2:∀s∈m8 m,0<=s/\s<m.b.vals.length:=λs hs=>by refine ai (List.mem_map.mp hs) λi hi aw=>?_;refine av (Eq.symm aw) ?_;have hi:=List.mem_range.mp hi;have:=CM I (Nat.le_of_lt hi);exact⟨this.1,(this.2.2.2 hi).1⟩
 unfold km
 split
 ·exact⟨h1,h2⟩
 ·exact⟨by rw[length_reverse];exact h1,λs hs=>h2 s (List.mem_reverse.mp hs)⟩
theorem KN(W:PG G)(I:cm m)(h:Rd L a 973 m.b (cO m) d bs n)(q:∀D,Q (.ref D) ((D,.list ((km m).map λs=>.bytes (m.b.vals.getD s.toNat [])))::L)):Sp G 935 (dp+4) [.ref a] L Q E:=by
 refine xA (DD I) λbz cG=>?_;refine Sp.ent (.refl _) (gO 935 ["self"] [] [sf] [] (sq [.ret (.lc ⟨["slot"],false,[true],[gJ]⟩ (.aC (.ao 0) "slots_in_turn" .bT) .yes (.call aM (wa (.sub (.aG (.ao 0) "values") (.var 0)))))]) W (ax.inst W.B h.obj bV.cls (mF 930) (aQ (eQ m) rfl rfl) ⟨kF,Pw W I h.obj λD=>kD (λs=>.bytes (m.b.vals.getD s.toNat [])) _ rfl (bx.list .head) ?_ ?_⟩))
 ·intro i s hs;have hm:=cG s (mem_of_getElem? hs);refine⟨.head,iT (fY W bV (.tail h.obj) (a_.val W rfl h.cons hm.1 hm.2 λb hb=>bd.n8 hb ?_ (kE hs (le_trans bz (by decide)))))⟩
  have hm:m.b.vals.getD s.toNat []∈m.b.vals:=by rw[getD_eq_getElem?_getD,gE (by exact aa rh hm)];exact getElem_mem _
  have:=I.each _ hm;exact aa nT I.s1 this
 ·exact⟨.head,λa1=>(ah _ (.sub (.cons_cons _ (.cons _ (.refl _)))) (q a1))⟩
theorem LZ(W:PG G)(I:cm m)(h:Rd L a 973 m.b (cO m) d bs n)(q:Q (En m) L):Sp G 970 (dp+5) [.ref a] L Q E:=by refine xA (DD I) λbz cG=>?_;exact Sp.ent (.refl _) (gO 970 ["self"] [sf] [] [mU] (sq [.ret (.call aM (wa (.aC af "entries" .bT)))]) W (ax.inst W.B h.obj bV.cls (mF 935) (aQ (eQ m) rfl rfl) ⟨kF,KN W I h λD=>bd.mj .head (by rw[length_map];exact aa jG bz) (ah L (.sub (.cons _ (.refl _))) q)⟩))
theorem NJ(W:PG G)(I:cm m)(h:Rd L a 973 m.b (cO m) d bs n)(q:Q (Fz m) L):Sp G 481 (dp+6) [.ref a] L Q E:=vT W (js W bV h.obj (jn W bV h.obj (mn W bV h.obj (gZ W bV h.obj (hH W bV h.obj (ax.inst W.B h.obj bV.cls (mF 970) (aQ (eQ _) rfl rfl) ⟨kF,LZ W I h (q)⟩))))))
noncomputable def ic (b:MB):MQ:=⟨{b with vals:=[]},0,0⟩
theorem CN(I:g4 b)(hk:b.kind="queue"\/b.kind="stack")(hw:b.kw=0):cm (ic b):=by have m0:=I.m0;exact⟨hk,hw,I.s0,I.s1,I.m0,I.m1,I.n0,I.n1,λv h=>(by cases h),le_refl 0,(by show(0:Int)<=b.most;exact aa gW m0),le_refl 0,(by show(0:Int)<=b.most;exact aa gW m0),.inr (bj (le_refl 0) (le_refl 0) (by show((0:Nat):Int)<=b.most;exact aa F5 m0))⟩
theorem NK(W:PG G)(I:g4 b)(hw:b.kw=0)(q:∀d,Q .none (bA a 973 (ic b).b (cO (ic b)) d [] 0++R)):Sp G 853 (dp+4) [.ref a,.str b.kind,.int b.number,.int b.size,.int b.most] ((a,.obj 973 [])::R) Q E:=by
 have iz:∀{Q':VP}{E':HP},(∀d,Q' .none ((d,.dict [] 0)::(a,.obj 973 (bp b d []))::R))->Sp G 313 (dp+3) [.ref a,.str b.kind,.int b.number,.int 0,.int b.size,.int b.most] ((a,.obj 973 [])::R) Q' E':=λ{Q' E'} q'=>by have:=wb (E:=E') (dp:=dp) W bV I q';rw[hw] at this;exact this
 refine Sp.ent (.refl _) (gO 853 ["self","kind","number","value_width","most"] [sf,bI "kind",dT "number",jl "value_width",lD "most"] [] [qZ] (sq [.ex (.aC aM "__init__" (.ae af (.ae aB (.ae aX (.ae (.int 0) (.ae bC (wa dL))))))),.du af "head" (.int 0),.du af "tail" (.int 0)]) W (ax.cls W.B q5 vS ⟨kF,iz λd=>db.obj W.B (attrs':=bp b d [("head",.int 0)]) (.tail rfl (.tail rfl (.tail rfl (.tail rfl (.tail rfl (.tail rfl .nil)))))) (.tail .head) bV.cls aF (d6 rfl) (db.obj W.B (attrs':=bp b d (cO (ic b))) (.tail rfl (.tail rfl (.tail rfl (.tail rfl (.tail rfl (.tail rfl (.tail rfl .nil))))))) (.tail .head) bV.cls aF (d6 rfl) (ah _ (.perm (.swap _ _ _)) (q d)))⟩))
theorem xc(W:PG G)(I:g4 b)(hw:b.kw=0)(q:∀a d,Q (.ref a) (bA a 973 (ic b).b (cO (ic b)) d [] 0++R)):Sp G 973 (dp+5) [.str b.kind,.int b.number,.int b.size,.int b.most] R Q E:=Sp.make (fI:=853) W.B bV.cls (mF 853) λx=>NK W I hw λd=>⟨rfl,q x d⟩
theorem NL(W:PG G)(I:cm m)(h:ap L a (.obj 973 (bp m.b d (cO m))))(q:∀a d,Q (.ref a) (bA a 973 (ic m.b).b (cO (ic m.b)) d [] 0++L)):Sp G 956 (dp+6) [.ref a] L Q E:=gO 956 ["self"] [sf] [] [Bd] (sq [.ret (.call aM (.ae (.aG af "kind") (.ae (.aG af "number") (.ae (.aG af "value_width") (wa (.aG af "most"))))))]) W ⟨kF,js W bV h (jn W bV h (gZ W bV h (hH W bV h (xc W I.new I.kw q))))⟩
theorem NM(W:PG G)(I:cm m)(h:Rd L a 973 m.b (cO m) d bs n)(q:∀c d3 eu n3,eu.length=m.b.vals.length->Q (.ref c) (bA c 973 m.b (cO m) d3 eu n3++L)):Sp G 963 (dp+8) [.ref a] L Q E:=by
 refine Sp.ent (.refl _) (gO 963 ["self"] [sf,aI "other"] [] [qZ] (sq [.asg (.var 1) (.aC aM "copy" (wa af)),.du aB "head" (.aG af "head"),.du aB "tail" (.aG af "tail"),.ret aB]) W (ax.cls W.B q5 AY ⟨kF,w8 (ft:=956) (T:=λe2 Gs=>e2=cO (ic m.b)) W bV (mF 956) kF (eQ m) h (aa F_ I.len) (λv hv=>by have:=I.each v hv;have:=I.s1;exact aa lq (by assumption) this) (λe2 Gs h=>by subst h;exact d6 rfl) (λ{Q' E'} hq=>?_) λc d3 eu n3 e2 Gs he hb=>?_⟩))
 ·exact NL W I h.obj λx d2=>hq x d2 (cO (ic m.b)) ((d2,.di (vK []) 0)::ch [] (ic m.b).b.vals) rfl
 ·refine av he ?_;refine lU W (.bE (.bE h.obj):ap (bA c 973 m.b (cO (ic m.b)) d3 eu n3++(Gs++L)) a (.obj 973 (bp m.b d (cO m)))) (db.obj W.B (L':=bA c 973 m.b [("head",.int m.head),("tail",.int 0)] d3 eu n3++(Gs++L)) (attrs':=bp m.b d3 [("head",.int m.head),("tail",.int 0)]) (.tail rfl (.tail rfl (.tail rfl (.tail rfl (.tail rfl (.tail rfl .head)))))) .head bV.cls aF (d6 rfl) (m7 W ((λe=>.bE (.bE h.obj):∀e,ap (bA c 973 m.b e d3 eu n3++(Gs++L)) a (.obj 973 (bp m.b d (cO m)))) _) (db.obj W.B (L':=bA c 973 m.b (cO m) d3 eu n3++(Gs++L)) (attrs':=bp m.b d3 (cO m)) (.tail rfl (.tail rfl (.tail rfl (.tail rfl (.tail rfl (.tail rfl (.tail rfl .head))))))) .head bV.cls aF (d6 rfl) ?_)))
  exact(ah _ (.sub (List.Sublist.append_left (sublist_append_right Gs L) _)) (q c d3 eu n3 hb))
end
def uX{ι:Type}(ok:ι->Prop)(cells:ι->Addr->HL):Addr->bF->Prop:=λa l=>∃x,ok x/\cR (cells x a) l
variable{f:Addr}{c':Cl}
section
variable{ι:Type}{ok:ι->Prop}{cells:ι->Addr->HL}{d:Nat}{L:HL}{c:Cl}
theorem bQ.close{x:ι}(h:ok x):bQ (cells x a++R) ((a,.own (uX ok cells))::R):=λl e=>by refine j0 e.split λl1 l2 aw e1 e2=>?_;refine av aw ?_;exact(co (l1++l2) ([]) (.cons (c:=.own (uX ok cells)) (ah x h e1) e2) (by rw[append_nil]))
theorem Sp.open(h:∀x,ok x->Sp G f d xs (cells x a++R) Q E):Sp G f d xs ((a,.own (uX ok cells))::R) Q E:=⟨λA Z H vs s hR hv S=>by
 lk
 refine ai S λl e S=>?_
 lk
 cases e with
 |cons h1 e2=>refine ai h1 λx hx e1=>?_;exact(h x hx).run A Z H vs s hR hv (ah _ (e1.append e2) S)⟩
theorem Sp.put(h:bK L a c c' L'){p:V->Prop}(hd:∀R(Q':VP)(E':HP),(∀v,p v->Q' v ((a,c')::R))->Sp G f d xs ((a,c)::R) Q' E')(q:∀v,p v->Q v L'):Sp G f d xs L Q E:=by refine dn h.split λpre post aw aE=>?_;refine av aw ?_;subst aE;exact Sp.ent (.perm perm_middle) (hd (pre++post) _ _ λv hv=>(ah _ (.perm List.perm_middle.symm) (q v hv)))
end
theorem DE(a:Int){b:Int}(h:0<b):0<=fmod a b:=by rw[fmod_eq_emod_of_nonneg _ (by exact aa Gb h)];exact Int.emod_nonneg _ (aa yx h)
theorem GO{a b:V}:0<=(0:Int)/\(0:Int)<([a,b].length:Nat)/\(0:Int)<1000000:=(bj (by decide) (by show(0:Int)<((2:Nat):Int);decide) (by decide))
theorem Sl{a b:V}:0<=(1:Int)/\(1:Int)<([a,b].length:Nat)/\(1:Int)<1000000:=(bj (by decide) (by show(1:Int)<((2:Nat):Int);decide) (by decide))
def nJ(x:Int×Int)(a:Addr):HL:=[(a,.list [.int x.1,.int x.2])]
def yd(N:Nat)(x:Int×Int):Prop:=0<=x.1/\0<=x.2/\x.2<=N
noncomputable def bO (N:Nat):Cl:=.own (uX (yd N) nJ)
variable{p:Addr}{vs:Array Value}{ns:List Int}
section
variable{L:HL}{N:Nat}
theorem a_.Sn{i:Addr}{k:Int}(h:C.G.h₀.IsList a vs)(hw:∀Z,aZ Z xs vs.toList)(hi:ap L i (.p (fa .none (.int k) .none)))(hn:xs.length<1000000)(hk:0<=k)(q:∀d,Q (.ref d) ((d,.list (xs.take k.toNat))::L)):a_ C (.ref a) (.ref i) L Q E:=⟨λA Z H x y value slice hR hx ly hs=>by
 lk
 cases hx;cases ly
 obtain⟨em,hs⟩:=hs;refine .mk λs S=>?_;refine ew (qI S hi) λvl vu vt fV h1 h2 h3=>?_;have hl:=(hw Z).length;rw[length_toList] at hl;have hL:s.heap.IsList a vs:=by obtain⟨o,e,h⟩:=h;exact(ah o (S.h0 _ _ e) h)
 refine tail_any hL.typeIs slot_list_getitem.lookup (wpAny_getItem_list_slice (st:=none) hL fV (lJ h1) (oG h2) (lJ h3) (by decide) (PQ.mk' (S.new (c:=.list (xs.take k.toNat)) rfl (co _ 0 rfl ?_) s.toks) .ref (q _)) (by rw[hl,sizeLine_eq];exact aa f8 hn)) hs;rw[Dd _ hk];exact wy _ (hw Z)⟩
theorem QV(W:PG G){s:Addr}(h:G.h₀.IsList s vs)(hw:∀Z,aZ Z (ns.map V.int) vs.toList)(hl:ns.length<900)(q:∀p,Q (.ref p) ((p,bO 0)::L)):Sp G 982 (dp+1) [.ref s] L Q E:=by
 refine Sp.ent (.refl _) (gO 982 ["script"] [dS "script",aI "number",aI "cell"] [] [("abs",.bi "abs"),("int",.type "int")] (sq [.asg (.var 1) (.int 13),.for [(.var 2)] false (.je af (.int 24)) (sq [.asg (.var 1) (.bin .Add (.bin .Mult aB (.int 1019)) (.bin .Mod (.bin .Add (.bin .Mult (.int 2) (.call aM (wa (.call cf (wa aX))))) (.call cf (wa (.cmp .Lt aX (.int 0))))) (.bin .Pow (.int 10) (.int 40))))]),.ret (.lst (.ae aB (wa (.int 0))))]) W (λi=>a_.Sn (C:=cx G dp) h hw .head (by rw[length_map];exact aa jF hl) (by decide) λl=>rz (bx.list .head) (λU k U=>(0:Int)<=k) (λU U U=>_) (λU k v=>⟨[some (.ref s),some (.int k),v],[]⟩) 13 _ (by decide) rfl rfl ?_ ?_))
 ·intro i k v x hx hk;rw[←map_take,getElem?_map] at hx
  lk
  refine ai (Option.map_eq_some_iff.mp hx) λn hn aw=>?_;subst aw;refine⟨.head,kj (by decide),bd.RQ (br.abs ⟨mulL (by decide),(bd.RS (da.pow (by decide) (by decide) (by decide) ⟨by decide,cz (_,_) ?_ rfl rfl⟩))⟩)⟩;have h1:(0:Int)<=k*1019:=mul_nonneg hk (by decide);exact aa ⟨0,2,[.ak 0 0,.ak 0 1],.lz (.k 0) (.a (.w .v0 1019) .v1)⟩ hk (DE (2*(n.natAbs:Int)+if decide (n<0)=true then 1 else 0) (b:=(10:Int)^(40:Int).toNat) (by decide))
 ·intro k v hk;refine⟨.head,(λa=>(ah _ (.trans (.sub ?_) (bQ.close (ι:=Int×Int) (x:=(k,0)) (cells:=nJ) (ok:=yd 0) (a:=a) (R:=L) (bj hk (le_refl 0) (le_refl 0)))) (q a)))⟩;exact .cons_cons _ (.cons _ (.cons _ (.refl _)))
theorem iw(W:PG G)(hN:N<1000000)(h:bK L p (bO N) (bO (N+1)) L'){many:Int}(m0:0<many)(m1:many<1000000)(q:∀r,0<=r->r<many->Q (.int r) L'):Sp G 989 (dp+1) [.ref p,.int many] L Q E:=by
 refine Sp.put h (p:=λv=>∃r,v=.int r/\0<=r/\r<many) (λR Q' E' q'=>Sp.open λx hx=>Sp.ent (.refl _) ?_) λv ⟨r,hv,h0,h1⟩=>hv▸q r h0 h1;obtain⟨x,y⟩:=x
 lk
 obtain⟨h0,h1,h2⟩:0<=x/\0<=y/\y<=(N:Int):=hx
 have fin:∀x y:Int,0<=x->0<=y->y<=(N:Int)+1->wpS (cx G dp) (sq [.asg (.var 2) (.bin .Mod (.sub af (.int 0)) (.var 1)),.f0 af (.int 0) (.bin .FloorDiv (.sub af (.int 0)) (.var 1)),.ret aX]) (JM (kG G)).globs ⟨[some (.ref p),some (.int many),none],[]⟩ (nJ (x,y) p++R) (gC λv M=>∃M',bQ M M'/\Q' v M') (λU M=>∃M',bQ M M'/\E' M'):=λx y h0 h1 h2=>by refine a_.list .head (v:=.int x) rfl ⟨aa yx m0,a_.list .head (v:=.int x) rfl (bj (aa yx m0) (pY (aa ⟨0,1,[.c_ 0 0,.bh 0 1000000],.tn (.b .v0) (.k 1073741824)⟩ m0 m1)) (dC.list (L':=nJ (Int.fdiv x many,y) p++R) .head GO (ah _ (bQ.close (ι:=Int×Int) (x:=(Int.fdiv x many,y)) (cells:=nJ) (ok:=yd (N+1)) (a:=p) (R:=R) (bj (Int.fdiv_nonneg h0 (aa Gb m0)) h1 h2)) (q' _ (cz _ rfl (DE _ m0) (Int.fmod_lt_of_pos _ m0))))))⟩
 refine gO 989 ["pen","many"] [dS "pen",bI "many",aI "digit"] [] [] JN W (a_.list .head (v:=.int x) rfl ⟨λU=>?_,λU=>fin x y h0 h1 (aa ⟨1,1,[.dF 0 0],.lz .v0 (.a .c0 (.k 1))⟩ h2)⟩)
 refine a_.list .head (v:=.int y) rfl (dC.list (L':=nJ (x,y+1) p++R) .head Sl (a_.list .head (v:=.int (y+1)) rfl ⟨mulL (by decide),da.pow (by decide) (by decide) (aa ⟨1,1,[.aJ 0 1000000,.ak 0 0,.dF 0 0],.tn (.b (.a (.m 2038 (.aj 0 1)) (.k 7013))) (.k 18446744073709551616)⟩ hN h1 h2) (dC.list (L':=nJ ((2038*(y+1)+7013)^(9:Int).toNat,y+1) p++R) .head GO (fin _ _ (Int.pow_nonneg (aa ⟨0,1,[.ak 0 0],.lz (.k 0) (.a (.m 2038 (.aj 0 1)) (.k 7013))⟩ h1)) (aa yw h1) (aa ⟨1,1,[.dF 0 0],.lz (.aj 0 1) (.a .c0 (.k 1))⟩ h2)))⟩))
end
inductive MM where
 |A(k:AK)(m:MB)
 |H(k:HK)(m:MH)
 |Q(m:MQ)
inductive Tag where
 |A(k:AK)|H (k:HK)|Q
noncomputable def MM.tag:MM->Tag
 |.A k _=>.A k
 |.H k _=>.H k
 |.Q _=>.Q
noncomputable def MM.b:MM->MB
 |.A _ m=>m
 |.H _ m=>m.b
 |.Q m=>m.b
def MM.c:MM->Addr
 |.A k _=>k.c
 |.H k _=>k.c
 |.Q _=>973
def MM.ext:MM->HA->SV
 |.A _ _,_=>[]
 |.H k _,x=>k.ext x
 |.Q m,_=>cO m
def MM.Inv:MM->Prop
 |.A k m=>cM k m
 |.H k m=>cq k m
 |.Q m=>cm m
def MM.Ok:MM->HA->Prop
 |.A _ m,x=>x.bs.length=m.vals.length
 |.H _ m,x=>x.Ok m
 |.Q m,x=>x.bs.length=m.b.vals.length
def MM.jE:MM->V
 |.A k m=>Fu k m
 |.H k m=>Fx k m
 |.Q m=>Fz m
def dZ(m:MM)(a:Addr)(x:HA)(R:HL):HL:=match m with
 |.A k m=>bA a k.c m [] x.d x.bs x.n++R
 |.H k m=>bR k a m x R
 |.Q m=>bA a 973 m.b (cO m) x.d x.bs x.n++R
def uY(m:MM)(a:Addr)(x:HA):HL:=dZ m a x []
theorem kM(m:MM)(a:Addr)(x:HA)(R:HL):dZ m a x R=uY m a x++R:=by
 cases m with
 |A k m=>show _++R=(_++[])++R;rw[append_nil]
 |H k m=>refine(?_:_::_::_::_::(_++(_++(_++R)))=_::_::_::_::((_++(_++(_++[])))++R));simp only[append_nil,append_assoc,append_assoc]
 |Q m=>show _++R=(_++[])++R;rw[append_nil]
def fB(L:HL)(a:Addr)(m:MM)(x:HA):Prop:=match m with
 |.A k m=>Rd L a k.c m [] x.d x.bs x.n
 |.H k m=>bN k L a m x
 |.Q m=>Rd L a 973 m.b (cO m) x.d x.bs x.n
theorem fB.base{m:MM}(h:m.Ok x):fB (dZ m a x R) a m x:=by
 cases m with
 |A k m=>exact Rd.base h
 |H k m=>exact bN.base h
 |Q m=>exact Rd.base h
theorem fB.cons{m:MM}{p:_}(h:fB L a m x):fB (p::L) a m x:=by
 cases m with
 |A k m=>exact Rd.cons h
 |H k m=>exact bN.cons h
 |Q m=>exact Rd.cons h
theorem fB.app{m:MM}(h:fB L a m x):fB (L'++L) a m x:=by
 cases m with
 |A k m=>exact Rd.app h
 |H k m=>exact bN.app h
 |Q m=>exact Rd.app h
theorem fB.rd{m:MM}(h:fB L a m x):Rd L a m.c m.b (m.ext x) x.d x.bs x.n:=by
 cases m with
 |A k m=>exact h
 |H k m=>exact bN.rd h
 |Q m=>exact h
theorem MM.cF(m:MM)(x:HA):o6 (m.ext x):=by
 cases m with
 |A k m=>exact cZ
 |H k m=>exact k.cF x
 |Q m=>exact eQ m
structure So(P:Params)(m:MM):Prop where
 mc:MC P m.c
 jE:cV (KK P) m.c "told" 481
 DF:cV (KK P) m.c "slot_at" 441
 L9:cV (KK P) m.c "place_of" 434
theorem MM.ok(m:MM):So P m:=by
 cases m with
 |A k m=>
  refine⟨k.mc,?_,?_,?_⟩
  ·cases k;exact mF 481;exact mF 481
  ·cases k;exact mF 441;exact mF 441
  ·cases k;exact mF 434;exact mF 434
 |H k m=>
  refine⟨k.mc,?_,?_,?_⟩
  ·cases k;exact mF 481;exact mF 481
  ·cases k;exact mF 441;exact mF 441
  ·cases k;exact mF 434;exact mF 434
 |Q m=>exact⟨bV,(mF 481),(mF 441),(mF 434)⟩
def MM.o8:MM->Addr
 |.A _ _=>469
 |.H k _=>k.o8
 |.Q _=>963
theorem MM.Px(m:MM):cV (KK P) m.c "copy" m.o8:=by
 cases m with
 |A k m=>cases k;exact mF 469;exact mF 469
 |H k m=>cases k;exact mF 756;exact mF 834
 |Q m=>exact mF 963
theorem MM.Py{d:Nat}(m:MM):jd (cx G d) (.ref m.o8):=by
 cases m with
 |A k m=>exact kF
 |H k m=>cases k;exact kF;exact kF
 |Q m=>exact kF
structure nL(b:MB):Prop where
 s0:1<=b.size
 s1:b.size<=16
 m0:1<=b.most
 m1:b.most<=3
 n0:0<=b.number
 n1:b.number<64
 len:b.vals.length<=12
 each:∀v∈b.vals,(v.length:Int)=b.size
 hJ:gM b.kind b.kw
theorem MM.Inv.base{m:MM}(I:m.Inv):nL m.b:=by
 cases m with
 |A k m=>have I:cM k m:=I;exact⟨I.s0,I.s1,I.m0,I.m1,I.n0,I.n1,(by show m.vals.length<=12;exact aa ⟨1,1,[.dP 0 0,.lz .v0 (.m 4 (.k 3))],.aS 0 12⟩ I.len (mul_le_mul (aa uB (show k.cnt<=4 by cases k<;>decide)) I.m1 (by have:=I.m0;exact aa gW this) (by decide):(k.cnt:Int)*m.most<=4*3)),I.each,I.new.kind⟩
 |H k m=>have I:cq k m:=I;exact⟨I.s0,I.s1,I.m0,I.m1,I.n0,I.n1,(by show m.b.vals.length<=12;exact aa ⟨1,1,[.f6 0 0,.aL 0 3],.aS 0 12⟩ I.len I.m1),I.each,I.hJ⟩
 |Q m=>have I:cm m:=I;exact⟨I.s0,I.s1,I.m0,I.m1,I.n0,I.n1,(by show m.b.vals.length<=12;exact aa ⟨1,0,[.pJ 0 4],.aS 0 12⟩ I.len),I.each,I.hJ⟩
structure nN(m m':MM):Prop where
 tag:m'.tag=m.tag
 b:m'.b={m.b with vals:=m'.b.vals}
section
variable{L:HL}{m:MM}
theorem tX(W:PG G)(I:m.Inv)(h:fB L a m x)(q:Q m.jE L):Sp G 481 (dp+6) [.ref a] L Q E:=by
 lk
 cases m with
 |A k m=>exact Nu W I h q
 |H k m=>exact ND W I h q
 |Q m=>exact NJ W I h q
theorem L_(W:PG G)(I:m.Inv)(h:fB L a m x)(q:∀c y,m.Ok y->Q (.ref c) (dZ m c y L)):Sp G m.o8 (dp+10) [.ref a] L Q E:=by
 cases m with
 |A k m=>exact NA (dp:=dp+3) W I h λc d3 eu n3 hb=>q c ⟨d3,0,0,0,eu,[],n3,0⟩ hb
 |H k m=>exact NH W I h λc y hy=>q c y hy
 |Q m=>exact NM (dp:=dp+2) W I h λc d3 eu n3 hb=>q c ⟨d3,0,0,0,eu,[],n3,0⟩ hb
end
noncomputable def gR (kind:Str) (kw size most:Int):V:=.tup [.str kind,.int kw,.int size,.int most]
def e9(m:MM):V:=gR m.b.kind m.b.kw m.b.size m.b.most
noncomputable def ud:List Str:=["rows","hash","array","lru","queue","stack"]
def GP(w:Int):SV:=nH [] ((["rows","array","hash","lru","queue","stack"]:List Str).zip [V.int 4,V.int 4,V.int w,V.int 2,V.int 0,V.int 0])
theorem NN{kind:Str}(h:kind∈ud)(h0:1<=w)(h1:w<=2):∃kw,bL (GP w) kind=some (.int kw)/\gM kind kw:=by
 refine((show GP w=([("rows",.int 4),("array",.int 4),("hash",.int w),("lru",.int 2),("queue",.int 0),("stack",.int 0)]:SV) by x_go))▸?_
 simp only[ud,mem_cons,not_mem_nil,or_false] at h
 lk
 rcases h with rfl|rfl|rfl|rfl|rfl|rfl
 ·exact(ah 4 rfl (.inl ⟨rfl,rfl⟩))
 ·exact(ah w rfl (.inr (.inr (.inl (bj rfl h0 h1)))))
 ·exact(ah 4 rfl (.inr (.inl ⟨rfl,rfl⟩)))
 ·exact(ah 2 rfl (.inr (.inr (.inr (.inl ⟨rfl,rfl⟩)))))
 ·exact(ah 0 rfl (.inr (.inr (.inr (.inr (.inl ⟨rfl,rfl⟩))))))
 ·exact(ah 0 rfl (.inr (.inr (.inr (.inr (.inr ⟨rfl,rfl⟩))))))
section
variable{L:HL}{N:Nat}
theorem ue(W:PG G)(hN:N<1000000)(h:bK L p (bO N) (bO (N+1)) L'){l:Addr}(hl:ap L l (.list xs))(vp:ap L' l (.list xs))(h0:0<xs.length)(h1:xs.length<900)(q:∀v∈xs,Q v L'):Sp G 996 (dp+2) [.ref p,.ref l] L Q E:=by
 refine gO 996 ["pen","some"] [dS "pen",bI "some"] [] [jW,jx] (sq [.ret (.sub aB (.call aM (.ae af (wa (.call cf (wa aB))))))]) W ⟨kF,(br.pn hl (aa jF h1) (iw W hN h (aa Gc h0) (aa ⟨1,0,[.aJ 0 900],.fp 0 1000000⟩ h1) λr r0 r1=>a_.list vp (v:=xs[r.toNat]'(by omega)) ?_ (q _ (getElem_mem _))))⟩
 unfold cy;rw[if_pos ⟨r0,aa ⟨1,1,[.aJ 0 900,.eJ 0 0],.bh 0 1000000⟩ h1 r1⟩,gE]
theorem PA(W:PG G)(hN:N<900000)(q:∀kind kw size most,gM kind kw->1<=size->size<=16->1<=most->most<=3->Q (gR kind kw size most) ((p,bO (N+4))::R)):Sp G 1003 (dp+3) [.ref p] ((p,bO N)::R) Q E:=by
 refine Sp.ent (.refl _) (JV W ⟨kF,(λl=>ue W (aa Ge hN) (.tail .head) .head .head (by decide) (by decide) λv hv=>?_)⟩)
 have hv:∃kind,v=.str kind/\kind∈ud:=by have hv:v∈ud.map V.str:=hv;refine ai (List.mem_map.mp hv) λk hk aw=>?_;subst aw;exact(ah k rfl hk)
 refine ai hv λkind cS hk=>?_;refine av cS ?_;refine⟨kF,iw W (N:=N+1) (aa ⟨1,0,[.aJ 0 900000],.tn (.aj 0 1) (.k 1000000)⟩ hN) (.tail .head) (by decide) (by decide) λr r0 r1 a n=>?_⟩;refine ai (NN hk (w:=1+r) (aa Gf r0) (aa ⟨0,1,[.bh 0 2],.lz (.eU 1 0) (.k 2)⟩ r1)) λkw vE hok=>?_;refine a_.dk (xV _) .head vE ⟨kF,(λl2=>ue W (N:=N+2) (aa ⟨1,0,[.aJ 0 900000],.tn (.aj 0 2) (.k 1000000)⟩ hN) (.tail (.tail (.tail .head))) .head .head (by decide) (by decide) λv hv=>?_)⟩
 have hv:∃size,v=.int size/\1<=size/\size<=16:=by have hv:v∈([1,7,8,9,16]:List Int).map V.int:=hv;refine ai (List.mem_map.mp hv) λk hk aw=>?_;subst aw;simp only[mem_cons,not_mem_nil,or_false] at hk;exact(cz k rfl (aa ⟨0,1,[.oo (.be 0 1) (.oo (.be 0 7) (.oo (.be 0 8) (.oo (.be 0 9) (.be 0 16))))],.ak 1 0⟩ hk) (aa ⟨0,1,[.oo (.be 0 1) (.oo (.be 0 7) (.oo (.be 0 8) (.oo (.be 0 9) (.be 0 16))))],.aL 0 16⟩ hk))
 refine dD hv λsize cS s0 s1=>?_;refine av cS ?_;exact⟨kF,iw W (N:=N+3) (aa ⟨1,0,[.aJ 0 900000],.tn (.aj 0 3) (.k 1000000)⟩ hN) (.tail (.tail (.tail .head))) (by decide) (by decide) λr r0 r1=>⟨_,.sub (.cons _ (.cons _ (.cons _ (.refl _)))),(q _ _ _ _ hok s0 s1 (aa Gf r0) (aa ⟨0,1,[.bh 0 3],.lz (.eU 1 0) (.k 3)⟩ r1))⟩⟩
theorem CO{k:AK}{b:MB}(I:g4 b)(e:b.kind=k.kind)(h4:b.kw=4):cM k (iA k b):=by
 refine⟨e,h4,I.s0,I.s1,I.m0,I.m1,I.n0,I.n1,?_,λv hv=>?_⟩
 ·refine(?_:((replicate (k.cnt*b.most.toNat) (l6 b)).length:Int)=k.cnt*b.most);simp only[length_replicate,natCast_mul]
  congr 1
  exact aa Gg I.m0
 ·have hv:v∈replicate (k.cnt*b.most.toNat) (l6 b):=hv;obtain⟨_,rfl⟩:=List.mem_replicate.mp hv;have:=I.s0;refine(?_:((replicate b.size.toNat (0:UInt8)).length:Int)=b.size);rw[length_replicate];exact aa Gg this
theorem PB(W:PG G){size number:Int}(hk:gM kind kw)(s0:1<=size)(s1:size<=16)(m0:1<=most)(m1:most<=3)(n0:0<=number)(n1:number<64)(q:∀a m x,m.Inv->m.Ok x->e9 m=gR kind kw size most->m.b.number=number->Q (.ref a) (dZ m a x L)):Sp G 1010 (dp+7) [gR kind kw size most,.int number] L Q E:=by
 have I:g4 ⟨kind,number,kw,size,most,[]⟩:=⟨hk,s0,s1,m0,m1,n0,n1⟩;rcases hk with⟨rfl,rfl⟩|⟨rfl,rfl⟩|⟨rfl,h1,h2⟩|⟨rfl,rfl⟩|⟨rfl,rfl⟩|⟨rfl,rfl⟩
 ·exact oC W (aV.fP (r:=false) rfl (iF (iF (iF (iF ⟨kF,tU (k:=.rows) (dp:=dp+1) W I λa d bs n hb=>q a (.A .rows (iA .rows _)) ⟨d,0,0,0,bs,[],n,0⟩ (CO I rfl rfl) hb rfl rfl⟩)))))
 ·exact oC W (aV.fP (r:=false) rfl (iF (iF (iF (iT ⟨kF,tU (k:=.arr) (dp:=dp+1) W I λa d bs n hb=>q a (.A .arr (iA .arr _)) ⟨d,0,0,0,bs,[],n,0⟩ (CO I rfl rfl) hb rfl rfl⟩)))))
 ·exact oC W (aV.fP (r:=false) rfl (iF (iT ⟨kF,tW (k:=.hash) (dp:=dp) W I λa x hx=>q a (.H .hash (ed _)) x (CK I rfl) hx rfl rfl⟩)))
 ·exact oC W (aV.fP (r:=false) rfl (iF (iF (iT ⟨kF,tW (k:=.bG) (dp:=dp) W I λa x hx=>q a (.H .bG (ed _)) x (CK I rfl) hx rfl rfl⟩))))
 ·exact oC W (aV.fP (r:=true) rfl (iT ⟨kF,xc (dp:=dp+1) W I rfl λa d=>q a (.Q (ic _)) ⟨d,0,0,0,[],[],0,0⟩ (CN I (.inl rfl) rfl) rfl rfl rfl⟩))
 ·exact oC W (aV.fP (r:=true) rfl (iT ⟨kF,xc (dp:=dp+1) W I rfl λa d=>q a (.Q (ic _)) ⟨d,0,0,0,[],[],0,0⟩ (CN I (.inr rfl) rfl) rfl rfl rfl⟩))
theorem FA(W:PG G)(hN:N<900000)(h:bK L p (bO N) (bO (N+1)) L'){size:Int}(k0:0<=kw)(k1:kw<=4)(m0:1<=most)(m1:most<=3)(q:∀b:By,(b.length:Int)=kw->Q (.bytes b) L'):Sp G 1017 (dp+2) [.ref p,gR kind kw size most] L Q E:=by
 refine Sp.put h (p:=λv=>∃b:By,v=.bytes b/\(b.length:Int)=kw) (λR Q' E' q'=>Sp.ent (.refl _) ?_) λv ⟨b,hv,hb⟩=>hv▸q b hb;refine gO 1017 ["pen","row"] [dS "pen",bI "row"] [] [gJ,jW] (sq [.ret (.call aM (wa (.je (.bin .Add (.lst (wa (.call cf (.ae af (wa (.bin .Add (.sub aB (.int 3)) (.int 1))))))) (.bin .Mult (.lst (wa (.int 0))) (.sub aB (.int 1)))) (.sub aB (.int 1)))))]) W ⟨kF,(ah _ rfl (iw W (aa Ge hN) .head (aa Gh m0) (aa Gi m1) λr r0 r1=>(λl1=>(λl2=>(ah _ rfl (da.mulL .head (aa ⟨0,1,[.aL 0 4],.aL 0 1000⟩ k1) (by decide) (λl3=>da.RV (.tail (.tail .head)) .head ?_ λl4=>(ah _ rfl (λi=>a_.Tv (.tail .head) .head ?_ (aa F7 k0) λl5=>bd.n7 (ns:=(r::replicate kw.toNat 0).take kw.toNat) ?_ (λn hn=>?_) ?_ (ah ((p,bO (N+1))::R) (.sub (.cons _ (.cons _ (.cons _ (.cons _ (.cons _ (.cons _ (.refl _)))))))) (q' _ (ah _ rfl ?_)))))) (aa ⟨0,1,[.ak 0 0],.ak (-1000) 0⟩ k0)))))))⟩
 ·simp;exact aa ⟨0,1,[.aL 0 4],.tn (.a (.k 1) (.t .v0)) (.k 1000000)⟩ k1
 ·simp;exact aa ⟨0,1,[.aL 0 4],.tn (.a (.t .v0) (.k 1)) (.k 1000000)⟩ k1
 ·have e:([V.int r]++(replicate kw.toNat [V.int 0]).flatten).take kw.toNat=((r::replicate kw.toNat 0).take kw.toNat).map V.int:=by
   simp only[map_take,map_cons,List.map_replicate]
   congr 1
   simp only[List.singleton_append]
   congr 1
   generalize kw.toNat=n
   induction n with
   |zero=>rfl
   |succ n ih=>rw[List.replicate_succ,List.flatten_cons,ih,List.replicate_succ];rfl
  simp only[←e];exact .head
 ·have hn:=mem_of_mem_take hn;rcases List.mem_cons.mp hn with rfl|hn
  ·exact aa ⟨0,2,[.aL 0 3,.ak 0 1,.tz .v1 (.aj 0 1)],.an (.ak 0 1) (.bh 1 256)⟩ m1 r0 r1
  ·obtain⟨_,rfl⟩:=List.mem_replicate.mp hn;decide
 ·simp;exact aa ⟨0,1,[.aL 0 4],.bh 0 1000000⟩ k1
 ·unfold gy;simp;exact aa ⟨0,2,[.ak 0 0,.oo (.an (.aL 0 0) (.be 1 0)) (.an (.no (.aL 0 0)) (.bM 1 0))],.bM 1 0⟩ k0 nQ
theorem wN(W:PG G){w:Nat}(hN:N<900000)(hw:w<=16)(h:bK L p (bO N) (bO (N+w)) L')(q:∀b:By,b.length=w->Q (.bytes b) L'):Sp G 1022 (dp+2) [.ref p,.int (w:Int)] L Q E:=by
 refine Sp.put h (p:=λv=>∃b:By,v=.bytes b/\b.length=w) (λR Q' E' q'=>Sp.ent (.refl _) ?_) λv ⟨b,hv,hb⟩=>hv▸q b hb;refine gO 1022 ["pen","width"] [bI "width"] [dS "pen"] [gJ,iU] (sq [.ret (.call aM (wa (.lc ⟨["spot"],false,[true],[jW]⟩ (.call cf (wa af)) .yes (.call aM (.ae (.ao 0) (wa (.int 256)))))))]) W ((bd.range (pB (bx.eL (aa ⟨1,0,[.aS 0 16],.fp 0 1000000000000⟩ hw) (aa uz)) (λi ns=>i<=w/\ns.length=i/\∀n∈ns,0<=n/\n<256) (λi U=>(p,bO (N+i))::R) (λU(ns:List Int)=>ns.map V.int) [] ⟨zero_le _,rfl,λn h=>by cases h⟩ rfl rfl ?_ ?_)))
 ·intro i ns x hx zz;refine fq zz λU hl hn=>?_;obtain⟨rfl,hi⟩:=i6 hx;refine⟨trivial,iT ⟨kF,iw W (N:=N+i) (aa ⟨3,0,[.aJ 0 900000,.aS 1 16,.i9 2 1],.tn (.cA 0 2) (.k 1000000)⟩ hN hw hi) .head (by decide) (by decide) λr r0 r1=>(m_ ?_ (ns++[r]) ⟨aa ⟨2,0,[.i9 0 1],.ln (.aj 0 1) .v1⟩ hi,?_,λn hm=>?_⟩ rfl ?_)⟩⟩
  ·rw[length_map];exact aa ⟨3,0,[.aS 0 16,.aA 1 2,.i9 2 0],.aJ 1 1000⟩ hw hl hi
  ·rw[length_append,hl];rfl
  ·rcases List.mem_append.mp hm with hm|hm
   ·exact hn n hm
   ·obtain rfl:=List.mem_singleton.mp hm;exact⟨r0,r1⟩
  ·dsimp only;rw[map_append];rfl
 ·intro ns zz;refine fq zz λU hl hn=>?_;rw[gq,toNat_natCast] at hl;simp only[gq,toNat_natCast];exact⟨trivial,λa=>bd.n7 (ns:=ns) .head hn (aa ⟨2,0,[.aS 0 16,.aA 1 0],.aJ 1 1000000⟩ hw hl) (ah _ (.sub (.cons _ (.refl _))) (q' _ (ah _ rfl (by unfold gy;simp;exact hl))))⟩
end
noncomputable def fo (n:Nat):List Int:=(List.range n).map λ(i:Nat)=>(i:Int)
theorem tY(h:i<n):(fo n)[i]?=some (i:Int):=by unfold fo;rw[getElem?_map,getElem?_range h];rfl
theorem oJ:(fo n).length=n:=by unfold fo;simp
theorem ti{x:Int}(h:(fo n)[i]?=some x):x=i/\i<n:=by have h1:=(gS h).1;rw[oJ] at h1;rw[tY h1] at h;exact⟨(Option.some.inj h).symm,h1⟩
theorem Ep(bs:List Addr):(vK bs).map (λp=>V.int p.1)=(fo bs.length).map V.int:=by
 refine ext_getElem? λi=>?_;simp only[getElem?_map,getElem?_map];by_cases h:i<bs.length
 ·rw[tY h];have h2:i<(vK bs).length:=by rw[jr];exact h
  rw[gE h2]
  have:=qK (bs:=bs) (i:=i) (x:=V.int (vK bs)[i].1) (by unfold cD;rw[map_map,getElem?_map,gE h2];rfl)
  exact congrArg some this.1
 ·rw[getElem?_eq_none (by rw[jr];exact aa uH h),getElem?_eq_none (by rw[oJ];exact aa uH h)];rfl
theorem br.xd{d:Addr}(B:Bs C.G C.K)(h:ap L d (.di (vK bs) n))(hl:bs.length<=20)(q:∀D,Q (.ref D) ((D,.list ((fo bs.length).map V.int))::L)):br C "sorted" [.ref d] L Q E:=by
 have hu:(fo bs.length).length=bs.length:=oJ
 have ha:∀i,1<=i->i<((fo bs.length).map V.int).length->(λi j=>decide ((fo bs.length).getD i 0<(fo bs.length).getD j 0)) i (i-1)=false:=λi h1 h2=>by rw[length_map,hu] at h2;refine decide_eq_false ?_;rw[getD_eq_getElem?_getD,getD_eq_getElem?_getD,tY h2,tY (by exact aa ux h2)];exact aa ⟨1,0,[],.no (.tz .c0 (.c (.dK 0 1)))⟩
 obtain⟨h1,h2⟩:=A8 (xs:=(fo bs.length).map V.int) (ans:=λi j=>decide ((fo bs.length).getD i 0<(fo bs.length).getD j 0)) ha;refine br.Ng (n:=n) (kvs:=vK bs) (ans:=λi j=>decide ((fo bs.length).getD i 0<(fo bs.length).getD j 0)) B h (by rw[Ep];exact(ji.ints (ns:=fo bs.length))) (by rw[jr];exact aa ⟨1,0,[.aS 0 20],.aJ 0 64⟩ hl) ?_ λD=>?_
 ·rw[length_map] at h2;rw[jr]
  simpa only[hu] using h2
 ·rw[Ep,h1];exact q D
structure MT where
 a:Addr
 m:MM
 x:HA
def bw(ms:List MT)(R:HL):HL:=ms.foldr (λt R=>dZ t.m t.a t.x R) R
def MT.Ok(t:MT):Prop:=t.m.Inv/\t.m.Ok t.x
variable{t:MT}
theorem fB.over{m:MM}(h:fB L a m x):fB (dZ t.m t.a t.x L) a m x:=by rw[kM];exact h.app
variable{ms:List MT}
theorem Ma(h:∀t∈ms,t.Ok):∀t∈ms,fB (bw ms R) t.a t.m t.x:=by
 induction ms with
 |nil=>intro t ht;cases ht
 |cons u ms ih=>
  intro t ht;rcases List.mem_cons.mp ht with rfl|ht
  ·exact .base (h t (mem_cons_self ..)).2
  ·exact fB.over (ih (λt ht=>h t (mem_cons_of_mem _ ht)) t ht)
noncomputable def bq (ms:List MT):List Addr:=ms.map (·.a)
def Num(ms:List MT):Prop:=∀(i:Nat)(t:MT),ms[i]?=some t->t.m.b.number=(i:Int)
structure cP(L:HL)(D:Addr)(ms:List MT):Prop where
 dict:∃n,ap L D (.di (vK (bq ms)) n)
 has:∀t∈ms,fB L t.a t.m t.x
 ok:∀t∈ms,t.m.Inv
 len:ms.length<=4
theorem cP.cons{D:Addr}{p:_}(h:cP L D ms):cP (p::L) D ms:=⟨by obtain⟨n,h⟩:=h.dict;exact⟨n,.tail h⟩,λt ht=>(h.has t ht).cons,h.ok,h.len⟩
theorem cP.app{D:Addr}(h:cP L D ms):cP (L'++L) D ms:=⟨by obtain⟨n,h⟩:=h.dict;exact⟨n,.bE h⟩,λt ht=>(h.has t ht).app,h.ok,h.len⟩
theorem cP.over{D:Addr}(h:cP L D ms):cP (dZ t.m t.a t.x L) D ms:=by rw[kM];exact h.app
theorem cP.overs{D:Addr}(cs:List MT)(h:cP L D ms):cP (bw cs L) D ms:=by
 induction cs with
 |nil=>exact h
 |cons t cs ih=>exact cP.over ih
noncomputable def cJ (i:Nat) (v:LB):List (List Int×V):=(List.range v.length).map λ(s:Nat)=>([(i:Int),(s:Int)],V.bytes (v.getD s []))
noncomputable def eR (i:Nat):List LB->List (List Int×V)
 |[]=>[]
 |v::vv=>cJ i v++eR (i+1) vv
def bH(vv:List LB):List (List Int×V):=eR 0 vv
theorem Bl:∀(i:Nat)(vv:List LB)(v:LB),eR i (vv++[v])=eR i vv++cJ (i+vv.length) v
 |i,[],v=>append_nil _
 |i,u::vv,v=>by show cJ i u++eR (i+1) (vv++[v])=cJ i u++eR (i+1) vv++cJ (i+(vv.length+1)) v;rw[Bl (i+1) vv v,append_assoc,show i+1+vv.length=i+(vv.length+1) from aa rg]
theorem J2(i:Nat)(v:LB)(a b:Nat):bL (cJ i v) [(a:Int),(b:Int)]=if a=i then(v[b]?).map V.bytes else none:=by
 have key:∀n,n<=v.length->bL ((List.range n).map λ(s:Nat)=>([(i:Int),(s:Int)],V.bytes (v.getD s []))) [(a:Int),(b:Int)]=if a=i/\b<n then(v[b]?).map V.bytes else none:=by
  intro n
  induction n with
  |zero=>intro _;unfold bL;simp
  |succ n ih=>
   intro hn;have ih:=ih (aa Gj hn);unfold bL at ih⊢;simp only[range_succ,map_append,find?_append];by_cases h:a=i/\b<n
   ·rw[if_pos h] at ih;rw[if_pos ⟨h.1,aa ⟨4,0,[.an (.aA 0 1) (.bg 2 3)],.tn .v2 (.aj 3 1)⟩ h⟩];rw[(show(v[b]?).map V.bytes=some (V.bytes v[b]) by rw[gE (by exact aa ⟨5,0,[.ln (.aj 0 1) .v1,.an (.aA 2 3) (.bg 4 0)],.bg 4 1⟩ hn h)];rfl)] at ih⊢;refine ai (Option.map_eq_some_iff.mp ih) λp hp om=>?_;rw[hp];show some p.2=_;rw[om]
   ·rw[if_neg h] at ih;rw[Option.map_eq_none_iff.mp ih,Option.none_or,List.map_singleton,find?_cons];by_cases h2:a=i/\b<n+1
    ·rw[if_pos h2];have hb:b=n:=aa ⟨4,0,[.no (.an (.aA 0 1) (.bg 2 3)),.an (.aA 0 1) (.tn .v2 (.aj 3 1))],.aA 2 3⟩ h h2;obtain⟨rfl,_⟩:=h2;refine av hb ?_;simp only[decide_true];rw[getD_eq_getElem?_getD,gE (by exact aa ⟨2,0,[.ln (.aj 0 1) .v1],.bg 0 1⟩ hn)];rfl
    ·rw[if_neg h2]
     have:¬([(i:Int),(n:Int)]=[(a:Int),(b:Int)]):=λe=>by
      injection e with e1 e2
      injection e2 with e2 _
      exact aa ⟨4,0,[.no (.an (.aA 0 1) (.tn .v2 (.aj 3 1))),.lj 1 0,.lj 3 2],.ff⟩ h2 e1 e2
     simp only[this,decide_false];rfl
 have:=key v.length (Nat.le_refl _);unfold cJ;rw[this];by_cases h:a=i
 ·by_cases hb:b<v.length
  ·rw[if_pos ⟨h,hb⟩,if_pos h]
  ·rw[if_neg (λz=>hb z.2),if_pos h,getElem?_eq_none (by exact aa uH hb)];rfl
 ·rw[if_neg (λz=>h z.1),if_neg h]
theorem Bm:∀(vv:List LB)(i a b:Nat),bL (eR i vv) [(a:Int),(b:Int)]=if i<=a then((vv[a-i]?).bind λv=>v[b]?).map V.bytes else none
 |[],i,a,b=>(ite_self none).symm
 |v::vv,i,a,b=>by
  have h1:=J2 i v a b;have h2:=Bm vv (i+1) a b;unfold bL at h1 h2⊢;rw[show eR i (v::vv)=cJ i v++eR (i+1) vv from rfl,find?_append];by_cases e:a=i
  ·subst e;rw[if_pos rfl] at h1;rw[if_neg (by exact aa ⟨1,0,[],.no (.ln (.aj 0 1) .v0)⟩)] at h2;rw[Option.map_eq_none_iff.mp h2,Option.or_none,h1,if_pos (Nat.le_refl _),Nat.sub_self];rfl
  ·rw[if_neg e] at h1;simp only[Option.map_eq_none_iff.mp h1,Option.none_or,h2];by_cases h:i+1<=a
   ·rw[if_pos h,if_pos (by exact aa Gj h)];have:a-i=(a-(i+1))+1:=aa ⟨2,0,[.ln (.aj 0 1) .v1],.en (.ee 1 0) (.a (.s .v1 (.aj 0 1)) (.k 1))⟩ h;simp only[this,List.getElem?_cons_succ]
   ·rw[if_neg h,if_neg (by exact aa ⟨2,0,[.no (.aA 0 1),.no (.ln (.aj 1 1) .v0)],.no (.bY 1 0)⟩ e h)]
theorem qs(vv:List LB)(a b:Nat):bL (bH vv) [(a:Int),(b:Int)]=((vv[a]?).bind λv=>v[b]?).map V.bytes:=by unfold bH;rw[Bm,if_pos (zero_le _)];rfl
variable{vv:List LB}
theorem s_{k:List Int}{x:V}(h:(k,x)∈bH vv):∃(a b:Nat)(v:LB)(o:By),k=[(a:Int),(b:Int)]/\vv[a]?=some v/\v[b]?=some o/\x=.bytes o:=by
 have key:∀(vv:List LB) i,(k,x)∈eR i vv->∃(a b:Nat)(v:LB)(o:By),k=[((i+a:Nat):Int),(b:Int)]/\vv[a]?=some v/\v[b]?=some o/\x=.bytes o:=by
  intro vv
  induction vv with
  |nil=>intro i h;cases h
  |cons v vv ih=>
   intro i h
   lk
   rcases List.mem_append.mp h with h|h
   ·unfold cJ at h
    lk
    refine ai (List.mem_map.mp h) λs hs e=>?_;have hs:=List.mem_range.mp hs;injection e with e1 e2
    refine(wt 0 s v (v[s]) e1.symm rfl (gE hs) ?_);rw[←e2,getD_eq_getElem?_getD,gE hs];rfl
   ·refine qC (ih (i+1) h) λa b v2 o h1 h2 h3=>?_;refine(wR (a+1) b v2 o ?_ h2 h3);rw[h1];have:i+1+a=i+(a+1):=aa rg;rw[this]
 refine qC (key vv 0 h) λa b v o h1 h2 h3=>?_;exact(wR a b v o (by rw[h1,Nat.zero_add]) h2 h3)
variable{j:Nat}
theorem KO{v:LB}(hj:j<v.length):df (bH vv++(cJ vv.length v).take j) [(vv.length:Int),(j:Int)] (.bytes (v.getD j []))=bH vv++(cJ vv.length v).take (j+1):=by
 have bz:(cJ vv.length v).length=v.length:=by unfold cJ;simp
 unfold df;rw[if_neg]
 ·rw[append_assoc,take_add_one,gE (by exact aa uF hj bz)];have:(cJ vv.length v)[j]'(aa uF hj bz)=([(vv.length:Int),(j:Int)],V.bytes (v.getD j [])):=by unfold cJ;simp
  rw[this];rfl
 ·intro h;refine ai (List.any_eq_true.mp h) λp hp e=>?_;have e:=of_decide_eq_true e;rcases List.mem_append.mp hp with hp|hp
  ·refine qC (s_ (k:=p.1) (x:=p.2) hp) λa b u o h1 h2 U=>?_;have:=(gS h2).1;rw[e] at h1;injection h1 with h1 _
   exact aa ⟨2,0,[.bg 0 1,.lj 1 0],.ff⟩ this h1
  ·obtain⟨i,hi⟩:=getElem?_of_mem hp;rw[List.getElem?_take] at hi
   split at hi
   ·rename_i aT
    unfold cJ at hi;rw[getElem?_map,getElem?_range (by exact aa ⟨3,0,[.bg 0 1,.bg 2 0],.bg 2 1⟩ hj aT)] at hi;obtain rfl:=Option.some.inj hi;injection e with _ e
    injection e with e _
    exact aa ⟨2,0,[.bg 0 1,.lj 0 1],.ff⟩ aT e
   ·as_aux_lemma=>
    cases hi
noncomputable def bc (ms:List MT):List LB:=ms.map λt=>t.m.b.vals
theorem lK(ms:List MT)(R:HL):bw ms R=(ms.flatMap λt=>uY t.m t.a t.x)++R:=by
 induction ms with
 |nil=>rfl
 |cons t ms ih=>show dZ t.m t.a t.x (bw ms R)=_;simp only[kM,ih,List.flatMap_cons,append_assoc]
theorem vW{ms':List MT}(h:ms.Perm ms')(R:HL):(bw ms R).Perm (bw ms' R):=by simp only[lK,lK];exact(List.Perm.flatMap_right _ h).append_right R
theorem J3(ms:List MT)(p:Addr×Cl)(R:HL):(bw ms (p::R)).Perm (p::bw ms R):=by simp only[lK,lK];exact perm_middle
theorem bK.g6(ms:List MT)(h:bK L a c c' L'):bK (bw ms L) a c c' (bw ms L'):=by rw[lK,lK];exact h.bE
theorem ap.g6(ms:List MT)(h:ap L a c):ap (bw ms L) a c:=by rw[lK];exact h.bE
theorem wc{v:LB}:(cJ i v).length=v.length:=by unfold cJ;simp
theorem ta(h:∀v∈vv,v.length<=12):(bH vv).length<=12*vv.length:=by
 have key:∀(vv:List LB) i,(∀v∈vv,v.length<=12)->(eR i vv).length<=12*vv.length:=by
  intro vv
  induction vv with
  |nil=>intro i _;exact Nat.le_refl 0
  |cons v vv ih=>intro i h;show(cJ i v++eR (i+1) vv).length<=12*(vv.length+1);rw[length_append,wc];exact aa ⟨3,0,[.ln .v0 (.m 12 .v1),.aS 2 12],.ln (.cA 2 0) (.m 12 (.aj 1 1))⟩ (ih (i+1) λv hv=>h v (mem_cons_of_mem _ hv)) (h v (mem_cons_self ..))
 exact key vv 0 h
theorem cP.uZ{D:Addr}(h:cP L D ms):∀v∈bc ms,v.length<=12:=λv hv=>by refine ai (List.mem_map.mp hv) λt ht aw=>?_;refine av (Eq.symm aw) ?_;exact(h.ok t ht).base.len
theorem cP.at{D:Addr}(h:cP L D ms)(hi:ms[i]?=some t)(q:Q (.ref t.a) L):a_ C (.ref D) (.int (i:Int)) L Q E:=by refine xE h.dict λn hd=>?_;refine a_.dk (dX _) hd (v:=.ref t.a) ?_ q;rw[lS,if_pos (natCast_nonneg i),toNat_natCast];unfold bq;rw[getElem?_map,hi];rfl
section
variable{L:HL}{D:Addr}
theorem oQ(W:PG G)(h:cP L D ms)(q:∀r n,Q (.ref r) ((r,.dt (bH (bc ms)) n)::L)):Sp G 1029 (dp+1) [.ref D] L Q E:=by
 have go:=h.uZ;obtain⟨n0,hd⟩:=h.dict;have sj:(bc ms).length=ms.length:=by unfold bc;simp
 refine gO 1029 ["maps"] [dS "maps",aI "found",aI "number",aI "slot"] [] [gJ] (sq [.asg (.var 1) .g7,.for [(.var 2)] false (.var 0) (sq [.for [(.var 3)] false (.aG (.sub af (.var 2)) "values") (sq [.f0 aB (.tup (.ae aX (wa bC))) (.call aM (wa (.sub (.aG (.sub af (.var 2)) "values") (.var 3))))])]),.ret aB]) W λr=>pD (bx.dict W.B (.tail hd)) (λU U U U=>True) (λi n' U U=>(r,.dt (bH ((bc ms).take i)) n')::L) (λU U u v=>⟨[some (.ref D),some (.ref r),u,v],[]⟩) 0 _ _ trivial rfl rfl ?_ ?_
 ·intro i n' u v x hx _;obtain⟨rfl,hi⟩:=qK hx;have hi:i<ms.length:=by unfold bq at hi;rw[length_map] at hi;exact hi
  have fW:=gE hi;have cG:=getElem_mem hi;have rd:=(h.has _ cG).rd;have hv:(bc ms)[i]?=some ms[i].m.b.vals:=by unfold bc;rw[getElem?_map,fW];rfl
  have jU:((bc ms).take i).length=i:=by rw[length_take];exact aa ⟨4,0,[.aA 0 1,.bg 2 1,.oo (.an (.bY 2 0) (.aA 3 2)) (.an (.no (.bY 2 0)) (.aA 3 0))],.aA 3 2⟩ sj hi eK
  refine⟨.tail hd,(h.cons.at fW) (fY W (MM.ok _).mc (.tail rd.obj) (rz (bx.dict W.B (.tail rd.dict)) (λU U U=>True) (λj n' U=>(r,.dt (bH ((bc ms).take i)++(cJ i ms[i].m.b.vals).take j) n')::L) (λU U v=>⟨[some (.ref D),some (.ref r),some (.int (i:Int)),v],[]⟩) n' _ trivial (by rw[List.take_zero,append_nil]) rfl ?_ ?_))⟩
  ·intro j n2 v y hy _;obtain⟨rfl,hj⟩:=qK hy;have hj:j<ms[i].m.b.vals.length:=by have:=rd.len;exact aa ra hj this
   have hsz:=(h.ok _ cG).base;refine⟨.tail rd.dict,((h.cons.at fW) (fY W (MM.ok _).mc (.tail rd.obj) (a_.val W rfl rd.cons (aa eF) (aa Gk hj) λb hb=>bd.n8 hb ?_ (dC.dt (k:=[(i:Int),(j:Int)]) (kvs:=bH ((bc ms).take i)++(cJ i ms[i].m.b.vals).take j) (n:=n2) (v:=.bytes (ms[i].m.b.vals.getD (j:Int).toNat [])) (L':=λn3=>(r,.dt (bH ((bc ms).take i)++(cJ i ms[i].m.b.vals).take (j+1)) n3)::L) (λn3=>?_) ?_ λn3=>cz (n3,_) trivial rfl rfl))))⟩
   ·have hm:ms[i].m.b.vals.getD (j:Int).toNat []∈ms[i].m.b.vals:=by rw[toNat_natCast,getD_eq_getElem?_getD,gE hj];exact getElem_mem _
    have:=hsz.each _ hm;have:=hsz.s1;exact aa uI (by assumption) this
   ·have:=KO (vv:=(bc ms).take i) (v:=ms[i].m.b.vals) hj;rw[jU] at this;simp only[toNat_natCast,this];exact .head
   ·rw[length_append,length_take,wc];exact aa ⟨7,0,[.aS 0 4,.bg 1 0,.aS 2 12,.aA 3 1,.ln .v4 (.m 12 .v3),.oo (.an (.bY 5 2) (.aA 6 5)) (.an (.no (.bY 5 2)) (.aA 6 2))],.tn (.cA 4 6) (.k 1000000)⟩ h.len hi (go _ (mem_of_getElem? hv):ms[i].m.b.vals.length<=12) jU (ta (vv:=(bc ms).take i) λv hv=>go v (mem_of_mem_take hv)) eK
  ·intro n2 v _;refine⟨.tail rd.dict,cz (n2,_,_) trivial ?_ rfl⟩;rw[oO,rd.len,←wc (i:=i),take_length];have e1:(bc ms).take (i+1)=(bc ms).take i++[ms[i].m.b.vals]:=by rw[take_add_one,hv];rfl
   have e2:bH ((bc ms).take i)++cJ i ms[i].m.b.vals=bH ((bc ms).take (i+1)):=by rw[e1];unfold bH;rw[Bl,jU,Nat.zero_add]
   exact congrArg (λl=>(r,Cl.dt l n2)::L) e2
 ·intro n' u v _;refine(oO)▸?_;refine⟨.tail hd,?_⟩
  have:(bc ms).take (bq ms).length=bc ms:=by rw[take_of_length_le];unfold bq;simp[sj]
  rw[this];exact q r n'
def eZ(ms:List MT):List V:=ms.map λt=>t.m.jE
theorem qm(W:PG G)(h:cP L D ms)(q:Q (.tup (eZ ms)) L):Sp G 97 (dp+7) [.ref D] L Q E:=by
 have bz:=h.len;have cB:(bq ms).length=ms.length:=by unfold bq;simp
 obtain⟨n0,hd⟩:=h.dict;refine Sp.ent (.refl _) (gO 97 ["maps"] [] [dS "maps"] [mU,qx] (sq [.ret (.call aM (wa (.lc ⟨["number"],false,[true],[]⟩ (.call cf (wa (.ao 0))) .yes (.aC (.sub (.ao 0) (.var 0)) "told" .bT))))]) W ((br.xd W.B hd (aa yy bz cB) λS=>⟨_,_,_,bx.list .head,λi acc M=>M=(S,.list ((fo (bq ms).length).map V.int))::L/\acc=(eZ ms).take i,⟨rfl,rfl⟩,?_,?_⟩)))
 ·rintro i acc M x hx ⟨rfl,rfl⟩
  rw[getElem?_map] at hx;refine ai (Option.map_eq_some_iff.mp hx) λk hk aw=>?_;refine av (Eq.symm aw) ?_;obtain⟨rfl,hi⟩:=ti hk;have hi:i<ms.length:=aa kr cB hi;have fW:=gE hi;have cG:=getElem_mem hi;refine⟨.head,iT (h.cons.at fW (ax.inst W.B (.tail (h.has _ cG).rd.obj) (MM.ok _).mc.cls (MM.ok _).jE (aQ (MM.cF _ _) rfl rfl) ⟨kF,tX W (h.ok _ cG) (h.has _ cG).cons (bj ?_ rfl ?_)⟩))⟩
  ·rw[length_take];exact aa ⟨5,0,[.aS 0 4,.aA 1 0,.bg 2 1,.oo (.an (.bY 2 3) (.aA 4 2)) (.an (.no (.bY 2 3)) (.aA 4 3))],.aJ 4 1000⟩ bz cB (by assumption) eK
  ·simp only[take_add_one];unfold eZ;rw[getElem?_map,fW];rfl
 ·rintro acc M ⟨rfl,rfl⟩
  rw[length_map,oJ,cB];have:(eZ ms).take ms.length=eZ ms:=by rw[take_of_length_le];unfold eZ;simp
  rw[this];exact⟨.head,λa1=>bd.mj .head (by unfold eZ;simp;exact aa yz bz) (ah L (.sub (.cons _ (.cons _ (.refl _)))) q)⟩
theorem CP(W:PG G)(h:cP L D ms)(q:∀F n cs,(cs.map λt:MT=>t.m)=(ms.map λt=>t.m)->(∀t∈cs,t.Ok)->Q (.ref F) ((F,.di (vK (bq cs)) n)::bw cs L)):Sp G 92 (dp+11) [.ref D] L Q E:=by
 have bz:=h.len;have cB:(bq ms).length=ms.length:=by unfold bq;simp
 obtain⟨n0,hd⟩:=h.dict;refine Sp.ent (.refl _) (gO 92 ["maps"] [dS "maps",aI "found",aI "number"] [] [] (sq [.asg (.var 1) .g7,.for [(.var 2)] false (.var 0) (sq [.f0 aB (.var 2) (.aC (.sub af (.var 2)) "copy" .bT)]),.ret aB]) W λF=>pD (bx.dict W.B (.tail hd)) (λi cu U U=>cu.length=i/\(cu.reverse.map λt:MT=>t.m)=(ms.take i).map (λt=>t.m)/\∀t∈cu,t.Ok) (λU cu n' U=>bw cu ((F,.di (vK (bq cu.reverse)) n')::L)) (λU U U v=>⟨[some (.ref D),some (.ref F),v],[]⟩) [] 0 _ ⟨rfl,rfl,λt h=>by cases h⟩ rfl rfl ?_ ?_)
 ·intro i cu n' v x hx zz;refine fq zz λhl hm hok=>?_;obtain⟨rfl,hi⟩:=qK hx;have hi:i<ms.length:=aa kr cB hi;have fW:=gE hi;have cG:=getElem_mem hi;have hs:=(h.cons (p:=(F,.di (vK (bq cu.reverse)) n'))).overs cu;refine⟨ap.g6 cu (.tail hd),hs.at fW (ax.inst W.B (hs.has _ cG).rd.obj (MM.ok _).mc.cls (MM.Px _) (aQ (MM.cF _ _) rfl rfl) ⟨MM.Py _,L_ W (h.ok _ cG) (hs.has _ cG) λc y hy=>?_⟩)⟩;have fh:(bq cu.reverse).length=i:=by unfold bq;simp[hl]
  refine dC.dk (dX _) (kvs:=vK (bq cu.reverse)) (n:=n') (L':=λn2=>bw (⟨c,ms[i].m,y⟩::cu) ((F,.di (vK (bq (⟨c,ms[i].m,y⟩::cu).reverse)) n2)::L)) (λn2=>?_) (by rw[jr,fh];exact aa ⟨3,0,[.aS 0 4,.aA 1 0,.bg 2 1],.aJ 2 1000000⟩ bz cB (by assumption)) λn2=>(cz (⟨c,ms[i].m,y⟩::cu,n2,_) ⟨by rw[length_cons,hl],?_,?_⟩ rfl rfl)
  ·have e:df (vK (bq cu.reverse)) (i:Int) (.ref c)=vK (bq (⟨c,ms[i].m,y⟩::cu).reverse):=by have:=qJ (bq cu.reverse) c;rw[fh] at this;rw[this];unfold bq;rw[reverse_cons,map_append];rfl
   rw[e];exact bK.g6 (⟨c,ms[i].m,y⟩::cu) .head
  ·rw[reverse_cons,map_append,hm,take_add_one,fW,map_append];rfl
  ·intro t ht;rcases List.mem_cons.mp ht with rfl|ht
   ·exact⟨h.ok ms[i] cG,hy⟩
   ·exact hok t ht
 ·intro cu n' v zz;refine fq zz λhl hm hok=>?_;rw[oO,cB] at hl;rw[oO,cB,take_length] at hm;refine(dc (ap.g6 cu (.tail hd)) _ (.perm ?_) (q F n' cu.reverse hm λt ht=>hok t (List.mem_reverse.mp ht)));exact(J3 ..).trans ((vW (reverse_perm cu).symm L).cons _)
end
theorem uf{n':Nat}(h:n<=n'):bQ ((p,bO n)::R) ((p,bO n')::R):=λl e=>by
 lk
 cases e with
 |cons h1 e2=>
  lk
  refine ai h1 λx Ur hx=>?_;refine fq Ur λx0 x1 x2=>?_;exact(co _ ([]) (.cons (c:=bO n') (ah x (bj x0 x1 (aa ⟨2,1,[.bY 0 1,.dF 0 0],.dF 0 1⟩ h x2)) hx) e2) (by rw[append_nil]))
theorem bQ.app(K:HL)(h:bQ L L'):bQ (K++L) (K++L'):=λl e=>by
 lk
 refine j0 e.split λl1 l2 aw e1 e2=>?_;subst aw;refine dn (h l2 e2) λl' r e' p=>?_;exact(co (l1++l') r (e1.append e') (by rw[append_assoc];exact List.Perm.append_left _ p))
theorem bQ.nO{m:MM}(h:bQ L L'):bQ (dZ m a x L) (dZ m a x L'):=by rw[kM,kM];exact h.app _
theorem bK.nO{m:MM}(h:bK L p c c' L'):bK (dZ m a x L) p c c' (dZ m a x L'):=by rw[kM,kM];exact h.bE
noncomputable def MM.isQ:MM->Bool
 |.Q _=>true
 |_=>false
theorem MM.Inv.u6{m:MM}(I:m.Inv):kg m.b.kind [.str "queue",.str "stack"]=some m.isQ:=by
 cases m with
 |A k m=>
  refine(?_:kg m.kind _=_);refine(((I:cM k m).kind:m.kind=k.kind))▸?_
  cases k<;>rfl
 |H k m=>
  refine(?_:kg m.b.kind _=_);refine(((I:cq k m).kind:m.b.kind=k.kind))▸?_
  cases k<;>rfl
 |Q m=>
  have I:cm m:=I;refine(?_:kg m.b.kind _=_);rcases I.kind with e|e
  ·rw[e];rfl
  ·rw[e];rfl
theorem HK.qA(k:HK):cV (KK P) k.c "update" 704:=by cases k;exact mF 704;exact mF 704
theorem HK.wE(k:HK):cV (KK P) k.c "delete" 725:=by cases k;exact mF 725;exact mF 725
theorem HK.tg(k:HK):cV (KK P) k.c "lookup" 668:=by cases k;exact mF 668;exact mF 668
theorem BU{k:AK}{p:Int}:dg k m key o p={m with vals:=(dg k m key o p).vals}:=by unfold dg;split<;>rfl
section
variable{L:HL}{m:MM}{N:Nat}
theorem BV(W:PG G)(I:m.Inv)(hx:m.Ok x)(hq:m.isQ=false)(hk:(key.length:Int)=m.b.kw)(ho:(o.length:Int)=m.b.size)(q:∀m' x' i,m'.Inv->m'.Ok x'->nN m m'->Q (.int i) (dZ m' a x' R)):ax (cx G (dp+6)) (.ref a) "update" (dZ m a x R) (λf L=>mA (cx G (dp+6)) f.1 (lv (cx G (dp+6)) f.1 (f.2++[.bytes key,.bytes o,.int 0]) L Q E)) E:=by
 cases m with
 |A k m=>have I:cM k m:=I;refine ax.inst W.B .head k.mc.cls k.qA (aQ cZ rfl rfl) ⟨kF,Bh (dp:=dp+2) W I hx (by rw[←I.kw];exact hk) ho λaU n' hb=>q (.A k (dg k m key o 0)) {x with bs:=aU,n:=n'} _ (CC I ho) hb ⟨rfl,BU⟩⟩
 |H k m=>have I:cq k m:=I;exact ax.inst W.B (bN.base hx).rd.obj k.mc.cls k.qA (aQ (k.cF _) rfl rfl) ⟨kF,KI W hx I hk ho λm' x' i I' cr e=>q (.H k m') x' i I' cr ⟨rfl,e⟩⟩
 |Q m=>cases hq
theorem BW(W:PG G)(I:m.Inv)(hx:m.Ok x)(hq:m.isQ=false)(hk:(key.length:Int)=m.b.kw)(q:∀m' x' i,m'.Inv->m'.Ok x'->nN m m'->Q (.int i) (dZ m' a x' R)):ax (cx G (dp+6)) (.ref a) "delete" (dZ m a x R) (λf L=>mA (cx G (dp+6)) f.1 (lv (cx G (dp+6)) f.1 (f.2++[.bytes key]) L Q E)) E:=by
 cases m with
 |A k m=>have I:cM k m:=I;refine ax.inst W.B .head k.mc.cls k.wE (aQ cZ rfl rfl) ⟨kF,KE (dp:=dp+4) W (k:=k) .head hk I.kw λi=>q (.A k m) x i I hx ⟨rfl,rfl⟩⟩
 |H k m=>exact ax.inst W.B (bN.base hx).rd.obj k.mc.cls k.wE (aQ (k.cF _) rfl rfl) ⟨kF,KJ (dp:=dp+1) W hx (I:cq k m) hk λm' x' i I' cr e=>q (.H k m') x' i I' cr ⟨rfl,e⟩⟩
 |Q m=>cases hq
theorem BX(W:PG G)(I:m.Inv)(hx:m.Ok x)(hq:m.isQ=false)(hk:(key.length:Int)=m.b.kw)(q:∀m' x' i,m'.Inv->m'.Ok x'->nN m m'->Q i (dZ m' a x' R)):ax (cx G (dp+6)) (.ref a) "lookup" (dZ m a x R) (λf L=>mA (cx G (dp+6)) f.1 (lv (cx G (dp+6)) f.1 (f.2++[.bytes key]) L Q E)) E:=by
 cases m with
 |A k m=>have I:cM k m:=I;refine ax.inst W.B .head k.mc.cls k.tg (aQ cZ rfl rfl) ⟨kF,JZ (dp:=dp+3) W (k:=k) .head hk I.kw (q (.A k m) x _ I hx ⟨rfl,rfl⟩)⟩
 |H k m=>have I:cq k m:=I;exact ax.inst W.B (bN.base hx).rd.obj k.mc.cls k.tg (aQ (k.cF _) rfl rfl) ⟨kF,KM (dp:=dp+2) W hx I hk λm' x' i I' cr e=>q (.H k m') x' i I' cr ⟨rfl,e⟩⟩
 |Q m=>cases hq
theorem PC(W:PG G)(hN:N<800000)(I:m.Inv)(hx:m.Ok x)(q:∀m' x',m'.Inv->m'.Ok x'->nN m m'->Q .none (dZ m' a x' ((p,bO (N+20))::R))):Sp G 1036 (dp+7) [.ref p,.ref a,e9 m] (dZ m a x ((p,bO N)::R)) Q E:=by
 have b:=I.base;have b2:=b.s1;have vE:=b.hJ.le;obtain⟨w,hw⟩:∃w:Nat,m.b.size=w:=(iE m.b.size.toNat (aa uE b.s0));have fin:∀m' x' n,n<=N+20->m'.Inv->m'.Ok x'->nN m m'->∃M',bQ (dZ m' a x' ((p,bO n)::R)) M'/\Q .none M':=λm' x' n hn I' cr hs=>(ah _ (.nO (uf hn)) (q m' x' I' cr hs));rw[(show e9 m=gR m.b.kind m.b.kw (w:Int) m.b.most by unfold e9;rw[hw])];refine Sp.ent (.refl _) (Je W (cz _ rfl kF (FA W (aa Gl hN) (bK.nO .head) vE.1 vE.2 b.m0 b.m1 λkey hk=>(dc kF _ rfl (wN W (w:=w) (N:=N+1) (aa Gm hN) (aa yA b2 hw) (bK.nO .head) λo ho=>⟨kF,(iw W (N:=N+1+w) (aa Gn hN b2 hw) (bK.nO .head) (by decide) (by decide) λvF w0 w1=>?_)⟩)))));have ho:(o.length:Int)=m.b.size:=by rw[hw];exact aa yq ho
 refine(aV.fP I.u6 ?_)
 cases m with
 |A k m=>
  refine iF (iF (aV.fP (MM.Inv.u6 (m:=.A k m) I) (iF ⟨λU=>?_,λU=>⟨λU=>?_,λU=>?_⟩⟩)))
  ·exact BV (m:=.A k m) W I hx rfl hk ho λm' x' i I' cr hs=>fin m' x' _ (aa mx b2 hw) I' cr hs
  ·exact BW (m:=.A k m) W I hx rfl hk λm' x' i I' cr hs=>fin m' x' _ (aa mx b2 hw) I' cr hs
  ·exact BX (m:=.A k m) W I hx rfl hk λm' x' i I' cr hs=>fin m' x' _ (aa mx b2 hw) I' cr hs
 |H k m=>
  refine iF (iF (aV.fP (MM.Inv.u6 (m:=.H k m) I) (iF ⟨λU=>?_,λU=>⟨λU=>?_,λU=>?_⟩⟩)))
  ·exact BV (m:=.H k m) W I hx rfl hk ho λm' x' i I' cr hs=>fin m' x' _ (aa mx b2 hw) I' cr hs
  ·exact BW (m:=.H k m) W I hx rfl hk λm' x' i I' cr hs=>fin m' x' _ (aa mx b2 hw) I' cr hs
  ·exact BX (m:=.H k m) W I hx rfl hk λm' x' i I' cr hs=>fin m' x' _ (aa mx b2 hw) I' cr hs
 |Q m=>
  have I:cm m:=I
  have Us:∀n,n<=N+20->ax (cx G (dp+6)) (.ref a) "pop" (dZ (.Q m) a x ((p,bO n)::R)) (λf L=>mA (cx G (dp+6)) f.1 (lv (cx G (dp+6)) f.1 (f.2++[]) L (λU M=>∃M',bQ M M'/\Q .none M') λM=>∃M',bQ M M'/\E M')) λM=>∃M',bQ M M'/\E M':=λn hn=>ax.inst W.B .head bV.cls (mF 923) (aQ (eQ m) rfl rfl) ⟨kF,QU (dp:=dp+1) W I hx λm' v I' hb e=>fin (.Q m') x _ hn I' hb ⟨rfl,e⟩⟩
  refine iT ⟨λU=>?_,λU=>(aV.fP (MM.Inv.u6 (m:=.Q m) I) (iT (Us _ (aa mx b2 hw))))⟩;refine ax.inst W.B .head bV.cls (mF 902) (aQ (eQ m) rfl rfl) ⟨kF,kF,(λl=>ue W (N:=N+1+w+1) (aa ⟨2,1,[.aJ 0 800000,.aL 0 16,.fg 0 1],.tn (.a (.a (.aj 0 1) .v1) (.k 1)) (.k 1000000)⟩ hN b2 hw) (.tail (bK.nO (m:=.Q m) .head)) .head .head (by decide) (by decide) λv hv=>?_)⟩
  have hv:∃f:Int,v=.int f/\(f=0\/f=2):=by
   rcases List.mem_cons.mp hv with rfl|hv
   ·exact(ah 0 rfl (.inl rfl))
   ·exact(ah 2 (List.mem_singleton.mp hv) (.inr rfl))
  refine ai hv λf cS hf=>?_;subst cS;refine Sp.ent (.sub (.cons _ (.refl _))) (Pu (dp:=dp+2) (m:=m) (R:=(p,bO (N+1+w+1+1))::R) W I hx ho hf λm' aU n' i I' hb e=>?_);exact(ah _ (.refl _) (fin (.Q m') {x with bs:=aU,n:=n'} _ (aa ⟨2,1,[.aL 0 16,.fg 0 0],.ln (.a (.a (.a (.aj 1 1) .v0) (.k 1)) (.k 1)) (.aj 1 20)⟩ b2 hw) I' hb ⟨rfl,e⟩))
end
section
variable{L:HL}{ys:List V}
theorem da.QW(q:Q (.tup ys) L):da C .Add (.tup []) (.tup ys) L Q E:=⟨λA Z H x y hR hx hy=>by
 lk
 refine dJ hx.cy λa ws n aE hz hw=>?_;subst aE;refine dJ hy.cy λb eN n2 aE jM eO=>?_;subst aE;refine .mk λs S=>?_;have ho:=S.keep _ _ hz;have dM:=S.keep _ _ jM
 have he:ws.isEmpty=true:=by have:=hw.length;rw[length_toList] at this;exact Array.isEmpty_iff_size_eq_zero.mpr this
 exact concat_meets (ah _ ho rfl) (ah _ dM rfl) noFill_tuple_add seq_tuple_add PySem.F.slot_tuple_add PySem.F.entry_tuple_add (PySem.F.args_tuple_add_2 _ _)
   (tuple_addW0 a b ws eN n n2 _ _ _ _ he) (bj ho dM (PQ.mk' S hy q))⟩
theorem da.QX(h1:xs≠[])(q:Q (.tup xs) L):da C .Add (.tup xs) (.tup []) L Q E:=⟨λA Z H x y hR hx hy=>by
 lk
 refine dJ hx.cy λa ws n aE hz hw=>?_;subst aE;refine dJ hy.cy λb eN n2 aE jM eO=>?_;subst aE;refine .mk λs S=>?_;have ho:=S.keep _ _ hz;have dM:=S.keep _ _ jM
 have he:eN.isEmpty=true:=by have:=eO.length;rw[length_toList] at this;exact Array.isEmpty_iff_size_eq_zero.mpr this
 have Ut:¬ws.isEmpty=true:=λh=>by have h2:=hw.length;rw[length_toList,Array.isEmpty_iff_size_eq_zero.mp h] at h2;exact h1 (List.eq_nil_of_length_eq_zero h2.symm)
 exact concat_meets (ah _ ho rfl) (ah _ dM rfl) noFill_tuple_add seq_tuple_add PySem.F.slot_tuple_add PySem.F.entry_tuple_add (PySem.F.args_tuple_add_2 _ _)
   (tuple_addW1 a b ws eN n n2 _ _ _ _ Ut he) (bj ho dM (PQ.mk' S hx q))⟩
theorem da.FC(hn:xs.length+ys.length<1000000)(q:Q (.tup (xs++ys)) L):da C .Add (.tup xs) (.tup ys) L Q E:=by
 by_cases h1:xs=[]
 ·subst h1;exact da.QW q
 ·by_cases h2:ys=[]
  ·subst h2;rw[append_nil] at q;exact da.QX h1 q
  ·exact da.RW h1 h2 hn q
end
noncomputable def lf (vals:LB) (i:Nat):List V:=(List.range 4).map λp=>V.bytes (vals.getD (i+p) [])
theorem Mb{r:Nat}(hi:i+3<vals.length)(hr:r<4):(lf vals i).take r++[V.bytes o]++(lf vals i).drop (r+1)=lf (vals.set (i+r) o) i:=by
 have e:∀vals:LB,lf vals i=[.bytes (vals.getD i []),.bytes (vals.getD (i+1) []),.bytes (vals.getD (i+2) []),.bytes (vals.getD (i+3) [])]:=λU=>rfl
 have g:∀j,j<4->(vals.set (i+r) o).getD (i+j) []=if j=r then o else vals.getD (i+j) []:=λj hj=>by
  rw[getD_eq_getElem?_getD,getD_eq_getElem?_getD];by_cases h:j=r
  ·refine av (Eq.symm h) ?_;rw[if_pos rfl,getElem?_set_self (by exact aa ⟨3,0,[.tn (.aj 0 3) .v1,.aJ 2 4],.tn (.cA 0 2) .v1⟩ hi hj)];rfl
  ·rw[if_neg h,getElem?_set_ne (by exact aa ⟨3,0,[.no (.aA 0 1)],.no (.en (.cA 2 1) (.cA 2 0))⟩ h)]
 have g0:=g 0 (by decide);rw[Nat.add_zero] at g0;simp only[e,e,g0,g 1 (by decide),g 2 (by decide),g 3 (by decide)];have h4:r=0\/r=1\/r=2\/r=3:=aa ⟨1,0,[.aJ 0 4],.oo (.d7 0 0) (.oo (.d7 0 1) (.oo (.d7 0 2) (.d7 0 3)))⟩ hr;rcases h4 with rfl|rfl|rfl|rfl<;>rfl
theorem BY(e:bX m key<0):jD m key=.none:=by unfold jD;rw[if_pos e]
theorem BZ(e:¬bX m key<0):jD m key=.tup (lf m.vals ((bX m key).toNat*4)):=by
 unfold jD lf;rw[if_neg e]
 congr 1
 refine map_congr_left λp U=>?_;refine(?_:V.bytes (m.vals.getD (bX m key*4+(p:Int)).toNat [])=_);have:(bX m key*4+(p:Int)).toNat=(bX m key).toNat*4+p:=aa ⟨1,1,[.no (.bh 0 0)],.en (.t (.a (.w .v0 4) .c0)) (.a (.w (.t .v0) 4) .v0)⟩ e;rw[this]
section
variable{L:HL}{d:Addr}{N:Nat}
theorem Jg(W:PG G)(I:cM .rows m)(hb:bs.length=m.vals.length){r:Int}(h0:0<=r)(h1:r<4)(hk:(key.length:Int)=4)(ho:(o.length:Int)=m.size)(q:∀aU n',aU.length=(dg .rows m key o r).vals.length->Q (.int (if bX m key<0 then -7 else 0)) (bA a AK.rows.c (dg .rows m key o r) [] d aU n'++R)):Sp G 357 (dp+5) [.ref a,.bytes key,.bytes o,.int 0,.int r] (bA a AK.rows.c m [] d bs n++R) Q E:=gO 357 ["self","key","octets","flags","processor"] [sf,bI "key",dT "octets",jl "flags",lD "processor"] [] [] (sq [.ret (.aC af "update" (.ae aB (.ae aX (.ae bC (wa dL)))))]) W (ax.inst W.B .head AK.rows.mc.cls AK.rows.qA (aQ cZ rfl rfl) ⟨kF,KC W I hb h0 h1 hk ho q⟩)
theorem A2(W:PG G)(I:cM .rows m)(h:ap L a (.obj AK.rows.c (bp m d []))){r:Int}(h0:0<=r)(h1:r<4)(hk:(key.length:Int)=4)(q:Q (g3 .rows m key r) L):Sp G 350 (dp+4) [.ref a,.bytes key,.int r] L Q E:=gO 350 ["self","key","processor"] [sf,bI "key",dT "processor"] [] [] (sq [.ret (.aC af "lookup" (.ae aB (wa aX)))]) W (ax.inst W.B h AK.rows.mc.cls AK.rows.tg (aQ cZ rfl rfl) ⟨kF,KD W h (by rw[I.kw];exact hk) I.kw h0 h1 q⟩)
theorem PD(W:PG G)(hN:N<800000)(I:cM .rows m)(hb:bs.length=m.vals.length)(q:∀m' aU n',cM .rows m'->aU.length=m'.vals.length->m'={m with vals:=m'.vals}->Q (.bool true) (bA a AK.rows.c m' [] d aU n'++((p,bO (N+20))::R))):Sp G 1043 (dp+6) [.ref p,.ref a,e9 (.A .rows m)] (bA a AK.rows.c m [] d bs n++((p,bO N)::R)) Q E:=by
 have b2:=I.s1;obtain⟨w,hw⟩:∃w:Nat,m.size=w:=(iE m.size.toNat (aa uE I.s0));refine((show e9 (.A .rows m)=gR m.kind m.kw (w:Int) m.most by show gR m.kind m.kw m.size m.most=_;rw[hw]))▸?_;refine Sp.ent (.refl _) (H1 W ⟨kF,FA W (aa Gl hN) (bK.bE .head) (by rw[I.kw];decide) (by rw[I.kw];decide) I.m0 I.m1 λkey hk=>(dc kF _ rfl (wN W (w:=w) (N:=N+1) (aa Gm hN) (aa yA b2 hw) (bK.bE .head) λo ho=>⟨kF,iw W (N:=N+1+w) (aa Gn hN b2 hw) (bK.bE .head) (by decide) (by decide) λr r0 r1=>(?_)⟩))⟩);have p_:(key.length:Int)=4:=by rw[hk,I.kw]
 have dM:(o.length:Int)=m.size:=by rw[hw];exact aa yq ho
 refine ax.inst W.B .head AK.rows.mc.cls (mF 603) (aQ cZ rfl rfl) ⟨kF,ut W I (.base hb) p_ (ax.inst W.B .head AK.rows.mc.cls (mF 357) (aQ cZ rfl rfl) ⟨kF,Jg W I hb r0 r1 p_ dM λaU n' eH=>?_⟩)⟩;have I':=CC (key:=key) (p:=r) I dM;have qa:Rd (bA a AK.rows.c (dg .rows m key o r) [] d aU n'++((p,bO (N+1+w+1))::R)) a AK.rows.c (dg .rows m key o r) [] d aU n':=.base eH;have rD:bX (dg .rows m key o r) key=bX m key:=by unfold dg;split<;>rfl
 have fin:∃M',bQ (bA a AK.rows.c (dg .rows m key o r) [] d aU n'++((p,bO (N+1+w+1))::R)) M'/\Q (.bool true) M':=(ah _ (.app _ (uf (aa mx b2 hw))) (q _ aU n' I' eH BU));by_cases e:bX m key<0
 ·refine(BY e)▸?_;refine(if_pos e)▸?_;refine iT (iT (ax.inst W.B .head AK.rows.mc.cls (mF 603) (aQ cZ rfl rfl) ⟨kF,ut W I' qa p_ ?_⟩));simp only[BY (by rw[rD];exact e)];refine iT (ax.inst W.B .head AK.rows.mc.cls (mF 350) (aQ cZ rfl rfl) ⟨kF,A2 W I' .head r0 r1 p_ ?_⟩);have:g3 .rows (dg .rows m key o r) key r=.none:=by unfold g3;rw[rD,if_pos e]
  simp only[this];exact fin
 ·have fV:=tT (key:=key) I (p:=3) (by decide) (by decide) (aa uA e);have fV:bX m key*4+3<m.vals.length:=fV.2;have o9:∀vals i,(lf vals i).length=4:=λU U=>by unfold lf;rfl
  refine(BZ e)▸?_;refine(if_neg e)▸?_;refine iF (λi1=>a_.toT .head (by rw[o9];decide) (by rw[o9];exact aa ⟨0,1,[.ak 0 0,.bh 0 4],.an (.ak 0 0) (.tz .v0 (.c (.k 4)))⟩ r0 r1) (da.FC (by rw[length_take,o9];simp;exact aa ⟨1,1,[.oo (.an (.ln (.t .v0) (.k 4)) (.en .v0 (.t .v0))) (.an (.no (.ln (.t .v0) (.k 4))) (.d7 0 4))],.tn (.aj 0 1) (.k 1000000)⟩ eK) λi2=>a_.Tz .head (by rw[o9];decide) (by rw[o9];exact aa ⟨0,1,[.ak 0 0,.bh 0 4],.an (.lz (.k 1) (.aj 0 1)) (.lz (.aj 0 1) (.c (.k 4)))⟩ r0 r1) (da.FC (by simp[o9];exact aa ⟨1,1,[.oo (.an (.ln (.t .v0) (.k 4)) (.en .v0 (.t .v0))) (.an (.no (.ln (.t .v0) (.k 4))) (.d7 0 4))],.tn (.a (.aj 0 1) (.s (.k 4) (.t (.aj 0 1)))) (.k 1000000)⟩ eK) ?_)));have e1:(r+1).toNat=r.toNat+1:=aa ⟨0,1,[.ak 0 0],.en (.t (.aj 0 1)) (.a (.t .v0) (.k 1))⟩ r0;have e2:=Mb (vals:=m.vals) (i:=(bX m key).toNat*4) (r:=r.toNat) (o:=o) (aa ⟨1,1,[.no (.bh 0 0),.tz (.a (.w .v0 4) (.k 3)) .c0],.tn (.a (.w (.t .v0) 4) (.k 3)) .v0⟩ e fV) (aa ⟨0,1,[.bh 0 4],.tn (.t .v0) (.k 4)⟩ r1);refine(e1)▸?_;refine(e2)▸?_;refine iT (ax.inst W.B (.tail (.tail .head)) AK.rows.mc.cls (mF 603) (aQ cZ rfl rfl) ⟨kF,ut W I' qa.cons.cons p_ ?_⟩)
  have e3:(dg .rows m key o r).vals=m.vals.set ((bX m key).toNat*4+r.toNat) o:=by unfold dg;rw[if_neg e];show m.vals.set (bX m key*4+r).toNat o=_;have:(bX m key*4+r).toNat=(bX m key).toNat*4+r.toNat:=aa Go r0 e;rw[this]
  simp only[BZ (by rw[rD];exact e),rD,e3];refine aV.eqT (λx hx=>?_) (iT (fY W AK.rows.mc qa.cons.cons.obj (ax.inst W.B qa.cons.cons.obj AK.rows.mc.cls (mF 350) (aQ cZ rfl rfl) ⟨kF,A2 W I' qa.cons.cons.obj r0 r1 p_ ?_⟩)))
  ·unfold lf at hx;refine ai (List.mem_map.mp hx) λj U aw=>?_;refine av (Eq.symm aw) ?_
   trivial
  ·have e4:g3 .rows (dg .rows m key o r) key r=.int (bX m key*4+r):=by unfold g3;rw[rD,if_neg e];rfl
   refine(e4)▸?_;have e5:(bX m key*4+r).toNat=(bX m key).toNat*4+r.toNat:=aa Go r0 e
   have e6:(dg .rows m key o r).vals.getD (bX m key*4+r).toNat []=o:=by rw[e3,e5,getD_eq_getElem?_getD,getElem?_set_self (by exact aa ⟨1,3,[.bh 0 4,.an (.ak 0 1) (.eJ 1 0),.tz (.a (.w .v2 4) (.k 3)) .c0,.en (.t (.a (.w .v2 4) .v0)) (.a (.w (.t .v2) 4) (.t .v0))],.tn (.a (.w (.t .v2) 4) (.t .v0)) .v0⟩ r1 (by assumption) fV e5)];rfl
   refine a_.val W rfl qa.cons.cons (aa ⟨0,2,[.ak 0 0,.no (.bh 1 0)],.lz (.k 0) (.a (.w .v1 4) .v0)⟩ r0 e) (aa ⟨2,2,[.bh 0 4,.tz (.a (.w .v1 4) (.k 3)) .c0,.aA 1 0],.tz (.a (.w .v1 4) .v0) .c1⟩ r1 fV (CB:(dg .rows m key o r).vals.length=m.vals.length)) λb hb=>bd.n8 hb (by rw[e6];exact aa ⟨2,1,[.aL 0 16,.fg 0 0,.aA 1 0],.aJ 1 1000000⟩ b2 hw ho) (aV.eqB ?_);simp only[e6,beq_self_eq_true];refine ai fin λM' h1 h2=>?_;exact(ah M' (.trans (.sub (.cons _ (.cons _ (.refl _)))) h1) h2)
end
theorem B0{K:Type}[DecidableEq K](kvs:List (K×V))(k j:K)(v:V):bL (df kvs k v) j=if j=k then some v else bL kvs j:=by
 have key:∀kvs:List (K×V),bL (kvs.map λp=>if p.1=k then(p.1,v) else p) j=if j=k/\kvs.any (λp=>decide (p.1=k))=true then some v else bL kvs j:=by
  intro kvs
  induction kvs with
  |nil=>unfold bL;simp
  |cons p kvs ih=>
   unfold bL at ih⊢;simp only[map_cons,find?_cons,find?_cons,any_cons];by_cases e:p.1=k
   ·rw[if_pos e];by_cases e2:p.1=j
    ·have:j=k:=by rw[←e2,e]
     simp[e2,this]
    ·have:¬j=k:=λh=>e2 (by rw[h,e]);simp only[e2,decide_false,this,false_and,if_false];rw[ih,if_neg (λz=>this z.1)]
   ·rw[if_neg e];by_cases e2:p.1=j
    ·have:¬j=k:=λh=>e (by rw[e2,h]);simp[e2,this]
    ·simp only[e2,decide_false,e,Bool.false_or];exact ih
 unfold df;by_cases h:kvs.any (λp=>decide (p.1=k))=true
 ·rw[if_pos h,key,h];simp
 ·rw[if_neg h];by_cases e:j=k
  ·rw[if_pos e];subst e;unfold bL;rw[find?_append]
   have:kvs.find? (λp=>decide (p.1=j))=none:=by rw[List.find?_eq_none];intro p hp hc;exact h (List.any_eq_true.mpr (ah p hp hc))
   rw[this];simp
  ·rw[if_neg e];unfold bL;refine(find?_append)▸?_
   have:([(k,v)].find? λp=>decide (p.1=j))=none:=by rw[find?_cons];have:¬k=j:=λh=>e h.symm;simp[this]
   simp only[this,Option.or_none]
theorem CQ{K:Type}[DecidableEq K](kvs:List (K×V))(k:K)(v:V):(df kvs k v).length<=kvs.length+1:=by unfold df;split<;>simp
def kB(k:Int):By:=gy [k,0,0,0]
theorem Er{k:Int}(h0:0<=k)(h1:k<=3):bX m (kB k)=if k<m.most then k else -1:=by
 have:q8 (kB k)=k:=by have h:k=0\/k=1\/k=2\/k=3:=aa ⟨0,1,[.ak 0 0,.aL 0 3],.oo (.be 0 0) (.oo (.be 0 1) (.oo (.be 0 2) (.be 0 3)))⟩ h0 h1;rcases h with rfl|rfl|rfl|rfl<;>rfl
 unfold bX;rw[this]
theorem xy(k:Int):((kB k).length:Int)=4:=rfl
noncomputable def mr (v:LB) (p:Int×By):LB:=v.set p.1.toNat p.2
def fk(v:LB)(ps:List (Int×By)):LB:=ps.foldl mr v
theorem oF(ps:List (Int×By)):∀v,(fk v ps).length=v.length:=by
 induction ps with
 |nil=>intro v;rfl
 |cons p ps ih=>intro v;show(fk (mr v p) ps).length=_;rw[ih];unfold mr;rw[length_set]
theorem Bn(v:LB)(ps:List (Int×By))(p:Int×By):fk v (ps++[p])=mr (fk v ps) p:=by unfold fk;rw[foldl_append];rfl
def m9(p:Int×By):V:=.tup [.bytes (kB p.1),.bytes p.2]
theorem Mc(I:cM .arr m){p:Int×By}(hp:(p.2.length:Int)=m.size):cM .arr {m with vals:=mr m.vals p}:=by
 refine⟨I.kind,I.kw,I.s0,I.s1,I.m0,I.m1,I.n0,I.n1,?_,λv hv=>?_⟩
 ·show((mr m.vals p).length:Int)=_;unfold mr;rw[length_set];exact I.len
 ·have hv:v∈m.vals.set p.1.toNat p.2:=hv;rcases mem_or_eq_of_mem_set hv with hv|rfl
  ·exact I.each v hv
  ·exact hp
theorem wq(I:cM .arr m){ps:List (Int×By)}(hp:∀p∈ps,(p.2.length:Int)=m.size):cM .arr {m with vals:=fk m.vals ps}:=by
 induction ps generalizing m with
 |nil=>exact I
 |cons p ps ih=>exact ih (m:={m with vals:=mr m.vals p}) (Mc I (hp p (mem_cons_self ..))) λq hq=>hp q (mem_cons_of_mem _ hq)
section
variable{L:HL}{d:Addr}{N:Nat}
theorem CR(W:PG G){s:Str}(q:∀a,Q (.ref a) ((a,.own (lB [("what",.str s),("at",.none)]))::L)):Sp G 59 (dp+2) [.str s] L Q E:=Sp.QJ W.B mm λx=>Ih W (ax.xX (br.xX W.B mm .head (db.R8 (n:="what") (v:=.str s) (L':=(x,.own (lB [("what",.str s)]))::L) W.B mm Pi .head (db.exc (n:="at") (v:=.none) (attrs:=[("what",.str s)]) (attrs':=[("what",.str s),("at",.none)]) (L':=(x,.own (lB [("what",.str s),("at",.none)]))::L) W.B mm Sj (.tail rfl .nil) .head (d6 rfl) ⟨rfl,q x⟩))))
theorem PF(W:PG G)(I:cM .arr m)(hb:bs.length=m.vals.length){ps:List (Int×By)}(bz:ps.length<=3)(hp:∀p∈ps,0<=p.1/\p.1<=m.most/\(p.2.length:Int)=m.size){l:Addr}(hl:ap R l (.list (ps.map m9)))(q:(∀p∈ps,p.1<m.most)->∀aU n',aU.length=m.vals.length->Q .none (bA a AK.arr.c {m with vals:=fk m.vals ps} [] d aU n'++R))
  (qe:∀i p,ps[i]?=some p->p.1=m.most->(∀(j:Nat)(p':Int×By),j<i->ps[j]?=some p'->p'.1<m.most)->∀aU n',aU.length=m.vals.length->E (bA a AK.arr.c {m with vals:=fk m.vals (ps.take i)} [] d aU n'++R)):Sp G 455 (dp+5) [.ref a,.ref l] (bA a AK.arr.c m [] d bs n++R) Q E:=by
 refine Jd W (pD (bx.list (.bE hl)) (λi aU U U=>(∀(j:Nat)(p':Int×By),j<i->ps[j]?=some p'->p'.1<m.most)/\aU.length=m.vals.length) (λi aU n' U=>bA a AK.arr.c {m with vals:=fk m.vals (ps.take i)} [] d aU n'++R) (λU U U(u:Option V×Option V)=>⟨[some (.ref a),some (.ref l),u.1,u.2],[]⟩) bs n (_,_) ⟨λj p' h=>(aa yB h).elim,hb⟩ rfl rfl ?_ ?_)
 ·intro i HF n1 u x hx zz;refine xA zz λhj zZ=>?_;rw[getElem?_map] at hx;refine ai (Option.map_eq_some_iff.mp hx) λrL sg aw=>?_;obtain⟨k,o⟩:=rL;refine av (Eq.symm aw) ?_;refine fq (hp _ (mem_of_getElem? sg)) λk0 k1 ho=>?_;have k1:k<=m.most:=k1;have I1:cM .arr {m with vals:=fk m.vals (ps.take i)}:=wq I λq hq=>(hp q (mem_of_mem_take hq)).2.2;refine⟨.bE hl,ax.inst W.B .head AK.arr.mc.cls AK.arr.qA (aQ cZ rfl rfl) ⟨kF,Bh W I1 (by rw[zZ];exact(oF _ _).symm) (xy k) ho λmH n2 vG=>?_⟩⟩;have qb:bX {m with vals:=fk m.vals (ps.take i)} (kB k)=if k<m.most then k else -1:=Er (k0:0<=k) (aa ⟨0,2,[.aL 0 3,.bS 1 0],.aL 1 3⟩ I.m1 (by assumption))
  by_cases e:k<m.most
  ·rw[if_pos e] at qb;rw[qb,if_neg (by exact aa pN (by assumption))];refine iF (cz (mH,n2,_,_) ⟨λj p' Uu iM=>?_,?_⟩ ?_ rfl)
   ·by_cases e2:j<i
    ·exact hj j p' e2 iM
    ·have:j=i:=aa Ex Uu e2;subst this;rw[sg] at iM;refine av (Eq.symm (Option.some.inj iM)) ?_;exact e
   ·rw[CB] at vG;rw[vG];exact oF _ _
   ·have e3:dg .arr {m with vals:=fk m.vals (ps.take i)} (kB k) o 0={m with vals:=fk m.vals (ps.take (i+1))}:=by unfold dg;rw[qb,if_neg (by exact aa pN (by assumption)),take_add_one,sg];rw[show(some (k,o)).toList=[(k,o)] from rfl,Bn];rfl
    rw[e3]
  ·rw[if_neg e] at qb
   have n_:dg .arr {m with vals:=fk m.vals (ps.take i)} (kB k) o 0={m with vals:=fk m.vals (ps.take i)}:=by unfold dg;rw[if_pos (by rw[qb];decide)]
   rw[qb,n_,if_pos (by decide)];rw[n_] at vG;refine iT ⟨kF,CR W λx=>(t3 x _ _ rfl (.refl _) (qe i _ sg (by show k=m.most;exact aa ⟨0,2,[.bS 0 1,.no (.cj 0 1)],.bM 0 1⟩ (by assumption) e) hj mH n2 (by rw[vG];exact oF _ _)))⟩
 ·intro HF n1 u zz;refine xA zz λhj zZ=>?_;rw[length_map,take_length];rw[length_map] at hj;refine⟨.bE hl,q (λp hp=>?_) HF n1 zZ⟩;obtain⟨j,lE⟩:=getElem?_of_mem hp;exact hj j p (gS lE).1 lE
end
structure ye(m:MB)(vals:List (List UInt8))(kv:List (Int×V))(n:Nat):Prop where
 len:kv.length<=20
 got:∀j:Nat,j<n->bL kv (j:Int)=some (.bytes (vals.getD j []))
theorem DG(h:(j:Int)<m.most)(h3:m.most<=3):h_ .arr m (kB j)=.bytes (m.vals.getD j []):=by
 unfold h_;refine av (Er (by exact aa eF) (by exact aa ⟨1,1,[.iC 0 0,.aL 0 3],.pJ 0 3⟩ h h3)) ?_;rw[if_pos h,if_neg (by exact aa rc)]
 rfl
theorem y4{k:Int}(h0:0<=k)(h1:k<=3):∀n∈([k,0,0,0]:List Int),0<=n/\n<256:=λn hn=>by
 rcases List.mem_cons.mp hn with rfl|hn
 ·exact aa ⟨0,1,[.ak 0 0,.aL 0 3],.an (.ak 0 0) (.bh 0 256)⟩ h0 h1
 ·have:n=0:=by simpa using hn
  exact aa ⟨0,1,[.be 0 0],.an (.ak 0 0) (.bh 0 256)⟩ this
section
variable{L:HL}{d:Addr}{N:Nat}
theorem NO(W:PG G)(I:cM .arr m)(hb:bs.length=m.vals.length){ks:List Int}{os:LB}(kH:ks.length=3)(oq:os.length=3)(hk:∀k∈ks,0<=k/\k<=m.most)(ho:∀o∈os,(o.length:Int)=m.size){w:Nat}(hw:m.size=w){K P F pa:Addr}{kv:List (Int×V)}{nf:Nat}(hK:ap pre K (.list (ks.map V.int)))(hP:ap pre P (.list ((ks.zip os).map m9)))(hF:ap pre F (.di kv nf))
  (hj:∀(j:Nat)(k:Int),j<i->ks[j]?=some k->k<m.most)(hi:ks[i]?=none\/ks[i]?=some m.most)(hd:ye m (fk m.vals ((ks.zip os).take i)) kv m.most.toNat){v1 v3 v4 v5:Option V}
  (q:∀m' aU n',cM .arr m'->aU.length=m'.vals.length->m'={m with vals:=m'.vals}->∃M',bQ (bA a AK.arr.c m' [] d aU n'++R) M'/\Q (.bool true) M'):
  wpS (cx G (dp+5)) (sq [.sp (uR (cx G (dp+5)) 4 (sq [.ex (.aC (.ao 1) "load" (wa aX)),.asg (.var 5) (.str "ALL")]) .next (λσ=>σ.set (.var 5) (.str "REFUSED"))),.ite (.cmp .NotEq d9 (.fy (.cmp .In (.sub (.ao 2) (.int 3)) (.var 0)) (.str "REFUSED") (.str "ALL"))) (sq [.ret (.bool false)]) .nil,.ret (.cmp .Eq (.lc sx (.call aM (wa (.sub (.ao 2) (.int 3)))) .yes (.aC (.ao 1) "value" (wa (.call aM (wa (.lst (.ae af (.ae (.int 0) (.ae (.int 0) (wa (.int 0))))))))))) (.lc sy (.call aM (wa (.sub (.ao 2) (.int 3)))) .yes (.sub (.ao 3) (.var 0))))]) (mJ (kG G)).globs ⟨[some (.ref K),v1,some (.ref P),v3,v4,v5],[some (.ref pa),some (.ref a),some (gR m.kind m.kw (w:Int) m.most),some (.ref F)]⟩ (pre++(bA a AK.arr.c m [] d bs n++R)) (gC λv M=>∃M',bQ M M'/\Q v M') (λU M=>∃M',bQ M M'/\E M'):=by
 have hm:=I.m1;have si:=I.m0
 have r_:∀p∈ks.zip os,0<=p.1/\p.1<=m.most/\(p.2.length:Int)=m.size:=λp hp=>by refine xA (of_mem_zip hp) λh1 h2=>?_;exact(bj ((hk _ h1).1) ((hk _ h1).2) (ho _ h2))
 have qc:(ks.zip os).length=3:=by rw[length_zip];exact aa Ey kH oq eK
 have hz:∀(j:Nat)(p:Int×By),(ks.zip os)[j]?=some p->ks[j]?=some p.1:=λj p h=>by rw[List.getElem?_zip_eq_some] at h;exact h.1
 have fb:∀(m':MB)(aU:List Addr)(n':Nat)(s:Str)(b:Bool),cM .arr m'->aU.length=m'.vals.length->m'={m with vals:=m'.vals}->ye m m'.vals kv m.most.toNat->ks.any (· ==m.most)=b->s=(if b then "REFUSED" else "ALL")->
   wpS (cx G (dp+5)) (sq [.ite (.cmp .NotEq d9 (.fy (.cmp .In (.sub (.ao 2) (.int 3)) (.var 0)) (.str "REFUSED") (.str "ALL"))) (sq [.ret (.bool false)]) .nil,.ret (.cmp .Eq (.lc sx (.call aM (wa (.sub (.ao 2) (.int 3)))) .yes (.aC (.ao 1) "value" (wa (.call aM (wa (.lst (.ae af (.ae (.int 0) (.ae (.int 0) (wa (.int 0))))))))))) (.lc sy (.call aM (wa (.sub (.ao 2) (.int 3)))) .yes (.sub (.ao 3) (.var 0))))]) (mJ (kG G)).globs ⟨[some (.ref K),v1,some (.ref P),v3,v4,some (.str s)],[some (.ref pa),some (.ref a),some (gR m.kind m.kw (w:Int) m.most),some (.ref F)]⟩ (pre++(bA a AK.arr.c m' [] d aU n'++R)) (gC λv M=>∃M',bQ M M'/\Q v M') (λU M=>∃M',bQ M M'/\E M'):=by
  intro m' aU n' s b I' eH vz ei pq hs;have q_:m'.most=m.most:=by rw[vz]
  have rd:Rd (pre++(bA a AK.arr.c m' [] d aU n'++R)) a AK.arr.c m' [] d aU n':=(Rd.base eH).app
  have tail:wpS (cx G (dp+5)) (sq [.ret (.cmp .Eq (.lc sx (.call aM (wa (.sub (.ao 2) (.int 3)))) .yes (.aC (.ao 1) "value" (wa (.call aM (wa (.lst (.ae af (.ae (.int 0) (.ae (.int 0) (wa (.int 0))))))))))) (.lc sy (.call aM (wa (.sub (.ao 2) (.int 3)))) .yes (.sub (.ao 3) (.var 0))))]) (mJ (kG G)).globs ⟨[some (.ref K),v1,some (.ref P),v3,v4,some (.str s)],[some (.ref pa),some (.ref a),some (gR m.kind m.kw (w:Int) m.most),some (.ref F)]⟩ (pre++(bA a AK.arr.c m' [] d aU n'++R)) (gC λv M=>∃M',bQ M M'/\Q v M') (λU M=>∃M',bQ M M'/\E M'):=by
   refine((ah _ rfl (bd.range (pB (bx.eL (aa ri hm) (aa uG si)) (λU U=>True) (λU(Gs:HL)=>Gs++(pre++(bA a AK.arr.c m' [] d aU n'++R))) (λi U=>(List.range i).map λ(j:Nat)=>.bytes (m'.vals.getD j [])) [] trivial rfl rfl ?_ ?_))))
   ·intro i Gs x hx _;obtain⟨rfl,hi⟩:=i6 hx;refine⟨trivial,iT (ax.inst W.B (.bE rd.obj) AK.arr.mc.cls AK.arr.oN (aQ cZ rfl rfl) ⟨kF,(λl1=>bd.n7 (ns:=[(i:Int),0,0,0]) .head (y4 (aa eF) (aa Ez hm hi)) (by show(4:Nat)<1000000;decide) (wG (dp:=dp+1) W I' rd.app.cons (xy _) ⟨?_,((l1,_)::Gs),trivial,rfl,?_⟩))⟩)⟩
    ·simp;exact aa ⟨1,1,[.aL 0 3,.iC 0 0],.aJ 0 1000⟩ hm hi
    ·have:h_ .arr m' (kB i)=.bytes (m'.vals.getD i []):=DG (aa ⟨1,2,[.bM 0 1,.iC 0 1],.iC 0 0⟩ q_ hi) (aa ⟨0,2,[.aL 0 3,.bM 1 0],.aL 1 3⟩ hm q_);refine(?_:_++[h_ .arr m' (kB i)]=(List.range (i+1)).map _);refine av this ?_;rw[range_succ,map_append]
     rfl
   ·intro Gs _;rw[gq];refine⟨trivial,λl1=>((ah _ rfl (bd.range (kD (λj:Nat=>.bytes (m'.vals.getD j [])) _ rfl (bx.rA (aa ri hm) (aa uG si)) ?_ ?_))))⟩
    ·intro i' i hy;have hi:=yZ hy;refine⟨trivial,iT (a_.dk (dX _) (.tail (.bE (.gi hF))) (ei.got i (aa ⟨1,1,[.iC 0 0],.tn .v0 (.t .v0)⟩ hi)) (kE hy (by rw[length_range];exact aa FW hm)))⟩
    ·lk
     refine ai (q m' aU n' I' eH vz) λM' Uv Uw=>?_;refine⟨trivial,λl2=>aV.zC (.tail .head) .head (λx hx=>?_) (ah M' (.trans (.sub ?_) Uv) Uw)⟩
     ·obtain⟨j,_,rfl⟩:=List.mem_map.mp hx;trivial
     ·exact .cons _ (.cons _ ((sublist_append_right _ _).trans (sublist_append_right _ _)))
  lk
  cases b with
  |true=>subst hs;exact(ah _ rfl (aV.yQ (.gi hK) (wx _ _) ⟨λU=>aV.zE (iF tail),λh=>(by rw[pq] at h;cases h)⟩))
  |false=>subst hs;exact(ah _ rfl (aV.yQ (.gi hK) (wx _ _) ⟨λh=>(by rw[pq] at h;cases h),λU=>aV.zE (iF tail)⟩))
 have yf:∀(m:MB) bs n,(pre++(bA a AK.arr.c m [] d bs n++R)).Perm (bA a AK.arr.c m [] d bs n++(pre++R)):=λm bs n=>perm_append_comm_assoc ..;refine ax.inst W.B (.bE .head) AK.arr.mc.cls (f:=455) (mF 455) (aQ cZ rfl rfl) ⟨kF,Sp.ent (.perm (yf m bs n)) (PF W I hb (aa EB qc) r_ (.gi hP) (λaT aU n' eH=>(ah _ (.perm (yf _ aU n').symm) ?_)) λj pj HG q_ aT aU n' eH=>(ah _ (.perm (yf _ aU n').symm) ?_))⟩
 ·have QY:ks[i]?=none:=by
   rcases hi with h|h
   ·exact h
   ·have h1:=(gS h).1;have h3:=hz i _ (gE (aa uJ kH qc h1));rw[h] at h3;have:=Option.some.inj h3;exact(aa EC (aT (ks.zip os)[i] (getElem_mem (aa uJ kH qc h1))) this).elim
  have h3:3<=i:=by have:=List.getElem?_eq_none_iff.mp QY;exact aa ⟨2,0,[.d7 0 3,.bY 0 1],.gj 3 1⟩ kH this
  rw[(take_of_length_le (aa ⟨2,0,[.d7 0 3,.gj 3 1],.bY 0 1⟩ qc h3):(ks.zip os).take i=ks.zip os)] at hd;refine fb {m with vals:=fk m.vals (ks.zip os)} aU n' "ALL" false (wq I λp hp=>(r_ p hp).2.2) (by rw[eH];exact(oF _ _).symm) rfl ⟨hd.len,hd.got⟩ ?_ rfl
  rw[List.any_eq_false];intro k cW hc;obtain⟨j,lE⟩:=getElem?_of_mem cW;have:=eq_of_beq hc;exact aa ⟨0,2,[.cj 0 1,.bM 0 1],.ff⟩ (hj j k (aa ⟨3,0,[.d7 0 3,.gj 3 1,.bg 2 0],.bg 2 1⟩ kH h3 ((gS lE).1)) lE) this
 ·refine⟨rfl,?_⟩
  have zL:j=i:=by
   have qd:=hz j pj HG;rw[q_] at qd
   have h1:¬j<i:=λh=>by have:=hj j _ h qd;exact aa ⟨0,1,[.cj 0 0],.ff⟩ this
   have h2:¬i<j:=λh=>by
    rcases hi with h3|h3
    ·have:=List.getElem?_eq_none_iff.mp h3;have:=(gS qd).1;exact aa ⟨3,0,[.bg 0 1,.bY 2 0,.bg 1 2],.ff⟩ h (by assumption) this
    ·have h4:=(gS h3).1;have h5:=gE (l:=ks.zip os) (i:=i) (aa uJ kH qc h4);have h6:=hz i _ h5;rw[h3] at h6;have:=Option.some.inj h6;exact aa EC (aT i _ h h5) this
   exact aa ⟨2,0,[.no (.bg 0 1),.no (.bg 1 0)],.aA 0 1⟩ h1 h2
  lk
  subst zL;refine fb {m with vals:=fk m.vals ((ks.zip os).take j)} aU n' "REFUSED" true (wq I λp hp=>(r_ p (mem_of_mem_take hp)).2.2) (by rw[eH];exact(oF _ _).symm) rfl ⟨hd.len,hd.got⟩ ?_ rfl
  have qd:=hz j pj HG;rw[q_] at qd;exact List.any_eq_true.mpr (ah m.most (mem_of_getElem? qd) (beq_self_eq_true _))
end
section
variable{L:HL}{d:Addr}{N:Nat}
theorem Jh(W:PG G)(hN:N<800000)(I:cM .arr m)(hb:bs.length=m.vals.length)(q:∀m' aU n',cM .arr m'->aU.length=m'.vals.length->m'={m with vals:=m'.vals}->Q (.bool true) (bA a AK.arr.c m' [] d aU n'++((p,bO (N+60))::R))):Sp G 1048 (dp+6) [.ref p,.ref a,e9 (.A .arr m)] (bA a AK.arr.c m [] d bs n++((p,bO N)::R)) Q E:=by
 have b2:=I.s1;have m0:=I.m0;have m1:=I.m1;refine gT λzP zk=>?_;obtain⟨w,hw⟩:∃w:Nat,m.size=w:=(iE m.size.toNat (aa uE I.s0));refine zk ?_;refine((show e9 (.A .arr m)=gR m.kind m.kw (w:Int) m.most by show gR m.kind m.kw m.size m.most=_;rw[hw]))▸?_;refine Sp.ent (.refl _) (Ik W (bd.range (pB (bx.eL (aa ⟨0,0,[],.tz (.k 3) (.k 1000000000000)⟩) (aa ⟨0,0,[],.tz (.k (-1000000000000)) (.k 3)⟩)) (λi ks=>i<=3/\ks.length=i/\∀k∈ks,0<=k/\k<=m.most) (λi U=>bA a AK.arr.c m [] d bs n++((p,bO (N+i))::R)) (λU(ks:List Int)=>ks.map V.int) [] ⟨aa ED,rfl,λk h=>by cases h⟩ rfl rfl ?_ ?_)))
 ·intro i ks x hx zz;refine fq zz λU hl hk=>?_;obtain⟨rfl,hi⟩:=i6 hx;refine⟨trivial,iT (dc kF _ rfl (iw W (N:=N+i) (aa ⟨2,0,[.aJ 0 800000,.fp 1 3],.tn (.cA 0 1) (.k 1000000)⟩ hN hi) (bK.bE .head) (aa Gh m0) (aa Gi m1) λr r0 r1=>(m_ (by rw[length_map];exact aa ⟨2,0,[.aA 0 1,.fp 1 3],.aJ 0 1000⟩ hl hi) (ks++[r]) ⟨aa ⟨1,0,[.fp 0 3],.ln (.aj 0 1) (.k 3)⟩ hi,by rw[length_append,hl];rfl,λk jH=>?_⟩ rfl (by dsimp only;rw[map_append];rfl))))⟩;rcases List.mem_append.mp jH with jH|jH
  ·exact hk k jH
  ·obtain rfl:=List.mem_singleton.mp jH;exact aa ⟨0,2,[.ak 0 0,.tz .v0 (.aj 1 1)],.an (.ak 0 0) (.bS 0 1)⟩ r0 r1
 ·intro ks zz;refine fq zz λU hl hk=>?_;rw[gq] at hl;have hl:ks.length=3:=hl;refine(gq)▸?_;refine⟨trivial,λK=>⟨_,_,_,bx.list .head,λi acc M=>i<=3/\∃(Gs:HL)(os:LB)(n0:Nat),n0<=N+3+16*i/\M=Gs++((K,.list (ks.map V.int))::(bA a AK.arr.c m [] d bs n++((p,bO n0)::R)))/\acc=((ks.take i).zip os).map m9/\os.length=i/\∀o∈os,(o.length:Int)=m.size,⟨aa ED,[],[],_,Nat.le_refl _,rfl,rfl,rfl,λo h=>(by cases h)⟩,?_,?_⟩⟩
  ·intro i acc M x hx zz;refine Bu zz λU Gs os n0 qf aN rM fj ho=>?_;refine av aN ?_;refine av rM ?_;rw[getElem?_map] at hx;refine ai (Option.map_eq_some_iff.mp hx) λk lF aw=>?_;refine av (Eq.symm aw) ?_;have hi:=(gS lF).1;have cW:=hk k (mem_of_getElem? lF);refine⟨.bE .head,iT ((λl1=>bd.n7 (ns:=[k,0,0,0]) .head (y4 (aa ⟨0,2,[.an (.ak 0 0) (.bS 0 1)],.ak 0 0⟩ cW) (aa ⟨0,2,[.aL 0 3,.an (.ak 0 1) (.bS 1 0)],.aL 1 3⟩ m1 cW)) (by show(4:Nat)<1000000;decide) (dc kF _ rfl (wN W (w:=w) (N:=n0) (aa ⟨3,0,[.aJ 0 800000,.aS 1 3,.ln .v2 (.a (.aj 0 3) (.m 16 .v1))],.aJ 2 900000⟩ hN (by assumption) qf) (aa yA b2 hw) (.tail (bK.bE (.tail (bK.bE .head)))) λo Ux=>⟨?_,(aa ⟨2,0,[.d7 0 3,.bg 1 0],.ln (.aj 1 1) (.k 3)⟩ hl hi),((l1,_)::Gs),os++[o],n0+w,(aa ⟨4,1,[.aL 0 16,.fg 0 0,.ln .v1 (.a (.aj 2 3) (.m 16 .v3))],.ln (.cA 1 0) (.a (.aj 2 3) (.m 16 (.aj 3 1)))⟩ b2 hw qf),rfl,?_,(by rw[length_append,fj];rfl),λo' cI=>?_⟩))))⟩
   ·rw[length_map,length_zip,length_take];exact aa ⟨5,0,[.aS 0 3,.oo (.an (.bY 1 2) (.aA 3 1)) (.an (.no (.bY 1 2)) (.aA 3 2)),.oo (.an (.bY 0 4) (.aA 1 0)) (.an (.no (.bY 0 4)) (.aA 1 4))],.aJ 3 1000⟩ (by assumption) eK eK
   ·rw[take_add_one];refine av lF ?_;rw[zip_append (by rw[length_take];exact aa ⟨4,0,[.aA 0 1,.bg 1 2,.oo (.an (.bY 1 2) (.aA 3 1)) (.an (.no (.bY 1 2)) (.aA 3 2))],.aA 3 0⟩ fj hi eK),map_append];rfl
   ·rcases List.mem_append.mp cI with cI|cI
    ·exact ho o' cI
    ·obtain rfl:=List.mem_singleton.mp cI;exact aa ⟨2,1,[.fg 0 0,.aA 1 0],.dP 1 0⟩ hw Ux
  ·as_aux_lemma=>
   intro acc M zz;refine Bu zz λU Gs os n0 qf aN rM fj ho=>?_;refine av aN ?_;refine av rM ?_;rw[length_map,hl] at fj;rw[length_map,hl] at qf;rw[length_map,take_length];refine⟨.bE .head,λP F=>(?_)⟩;have qc:(ks.zip os).length=3:=by rw[length_zip];exact aa Ey hl fj eK
   obtain⟨T,hT⟩:∃T:HL,T=(P,Cl.list ((ks.zip os).map m9))::(Gs++[(K,Cl.list (ks.map V.int))]):=(iE _ rfl);have hK:ap T K (.list (ks.map V.int)):=hT▸.tail (.bE .head);have hP:ap T P (.list ((ks.zip os).map m9)):=hT▸.head;have hM:∀X:HL,(P,Cl.list ((ks.zip os).map m9))::(Gs++((K,Cl.list (ks.map V.int))::X))=T++X:=λX=>by rw[hT];show _=_::((Gs++_)++X);rw[append_assoc];rfl
   have hE:∀X:HL,bQ (X++((p,bO n0)::R)) (X++((p,bO (N+60))::R)):=λX=>.app _ (uf (aa ⟨2,0,[.ln .v0 (.a (.aj 1 3) (.m 16 (.k 3)))],.ln .v0 (.aj 1 60)⟩ qf));rw[hM];clear hM hT qf
   generalize ((p,bO n0)::R:HL)=R0 at hE⊢
   refine⟨_,rfl,(bd.range ⟨_,_,_,bx.eL (aa ri m1) (aa uG m0),λi σ M=>∃(lG:HL)(kv:List (Int×V))(nf:Nat),kv.length<=i/\(∀j:Nat,j<i->bL kv (j:Int)=some (.bytes (m.vals.getD j [])))/\M=lG++((F,.di kv nf)::(T++(bA a AK.arr.c m [] d bs n++R0)))/\∃v3,σ=⟨[some (.ref K),none,some (.ref P),v3,none,none],[some (.ref p),some (.ref a),some (gR m.kind m.kw (w:Int) m.most),some (.ref F)]⟩,(B8 ([]) ([]) 0 (Nat.le_refl 0) (λj h=>((aa yB h).elim)) rfl _ rfl),?_,?_⟩)⟩
   ·intro i σ M x hx zz;refine B7 zz λlG kv nf fX ow aN v3 jK=>?_;refine av aN ?_;refine av jK ?_;obtain⟨rfl,hi⟩:=i6 hx;have rd:Rd (lG++((F,.di kv nf)::(T++(bA a AK.arr.c m [] d bs n++R0)))) a AK.arr.c m [] d bs n:=(Rd.base hb).app.cons.app;refine⟨trivial,ax.inst W.B rd.obj AK.arr.mc.cls AK.arr.oN (aQ cZ rfl rfl) ⟨kF,(λl1=>bd.n7 (ns:=[(i:Int),0,0,0]) .head (y4 (aa eF) (aa Ez m1 hi)) (by show(4:Nat)<1000000;decide) (wG (dp:=dp+1) W I rd.cons (xy _) (dC.dk (dX _) (kvs:=kv) (n:=nf) (v:=h_ .arr m (kB i)) (L':=λn2=>(l1,.list [.int (i:Int),.int 0,.int 0,.int 0])::(lG++((F,.di (df kv (i:Int) (h_ .arr m (kB i))) n2)::(T++(bA a AK.arr.c m [] d bs n++R0))))) (λn2=>.tail (bK.bE .head)) (aa ⟨2,1,[.aL 0 3,.bY 0 1,.iC 1 0],.aJ 0 1000000⟩ m1 fX hi) λn2=>(B8 (_::lG) _ n2 ?_ (λj hj=>?_) rfl _ rfl))))⟩⟩
    ·have:=CQ kv (i:Int) (h_ .arr m (kB i));exact aa ⟨3,0,[.bY 0 1,.ln .v2 (.aj 0 1)],.ln .v2 (.aj 1 1)⟩ fX this
    ·rw[B0,DG (by exact aa ⟨1,1,[.iC 0 0],.iC 0 0⟩ hi) (by exact aa F6 m1)];by_cases e:j=i
     ·subst e;rw[if_pos rfl]
     ·rw[if_neg (by exact aa EE e)];exact ow j (by exact aa ⟨2,0,[.tn .v0 (.aj 1 1),.no (.aA 0 1)],.bg 0 1⟩ hj e)
   ·as_aux_lemma=>
    intro σ M zz;refine B7 zz λlG Uy Uz GQ GR aN v3 jK=>?_;refine av aN ?_;refine av jK ?_;rw[gq] at GQ GR
    have fin:=λ(i:Nat)(kv:List (Int×V))(nf:Nat)(v1 v4:Option V)(hj:∀(j:Nat)(k:Int),j<i->ks[j]?=some k->k<m.most)(hi:ks[i]?=none\/ks[i]?=some m.most)(hd:ye m (fk m.vals ((ks.zip os).take i)) kv m.most.toNat)=>NO (G:=G) (dp:=dp) (Q:=Q) (E:=E) (pa:=p) (K:=K) (P:=P) (F:=F) (i:=i) (nf:=nf) (v1:=v1) (v3:=v3) (v4:=v4) (v5:=none) (n:=n) (d:=d) (a:=a) (pre:=lG++((F,.di kv nf)::T)) (R:=R0) W I hb hl fj hk ho hw (.bE (.tail hK)) (.bE (.tail hP)) (.bE .head) hj hi hd λm' aU n' I' eH he=>(ah _ (hE _) (q m' aU n' I' eH he))
    refine⟨trivial,(bd.enum (xs:=ks.map V.int) (.bE (.tail (.gi hK))) λe=>⟨jX (ks.map V.int),_,_,bx.enum (a:=K) (xs:=ks.map V.int),λi σ M=>(∀(j:Nat)(k:Int),j<i->ks[j]?=some k->k<m.most)/\∃(kv:List (Int×V))(nf:Nat),kv.length<=3+i/\(∀j:Nat,j<m.most.toNat->bL kv (j:Int)=some (.bytes ((fk m.vals ((ks.zip os).take i)).getD j [])))/\M=lG++((F,Cl.di kv nf)::(T++(bA a AK.arr.c m [] d bs n++R0)))/\∃v1 v4,σ=⟨[some (.ref K),v1,some (.ref P),v3,v4,none],[some (.ref p),some (.ref a),some (gR m.kind m.kw (w:Int) m.most),some (.ref F)]⟩,(Bv (λj k h=>((aa yB h).elim)) Uy Uz (aa ⟨1,1,[.aL 0 3,.ln .v0 (.t .v0)],.ln .v0 (.a (.k 3) (.k 0))⟩ m1 GQ) GR rfl _ _ rfl),?_,?_⟩)⟩
    ·intro i σ M x hx zz;refine Bt zz λhj kv nf fX ow aN v1 v4 iK=>?_;refine av aN ?_;refine av iK ?_;rw[sM,getElem?_map] at hx;refine ai (Option.map_eq_some_iff.mp hx) λy hy aw=>?_;refine av (Eq.symm aw) ?_;refine ai (Option.map_eq_some_iff.mp hy) λk lF aw=>?_;refine av (Eq.symm aw) ?_;have hi:=(gS lF).1;have cW:=hk k (mem_of_getElem? lF)
     have HH:(ks.zip os)[i]?=some (k,os.getD i []):=by rw[List.getElem?_zip_eq_some];refine⟨lF,?_⟩;rw[getD_eq_getElem?_getD,gE (by exact aa uJ hl fj hi)];rfl
     refine⟨.bE (.tail (.gi hK)),_,rfl,λe=>?_,λe=>?_⟩
     ·have e:k=m.most:=eq_of_beq e;have:=fin i kv nf (some (.int k)) (some (.int (i:Int))) hj (.inr (by rw[lF,e])) ⟨aa ⟨3,0,[.d7 0 3,.ln .v1 (.eU 3 2),.bg 2 0],.aS 1 20⟩ hl fX hi,ow⟩;rw[append_assoc] at this;exact this
     ·have e:¬k=m.most:=by simpa using e
      refine a_.list (.bE (.tail (.gi hP))) (v:=m9 (k,os.getD i [])) ?_ (ah _ rfl (dC.dk (dX _) (kvs:=kv) (n:=nf) (v:=.bytes (os.getD i [])) (L':=λn2=>lG++((F,.di (df kv k (.bytes (os.getD i []))) n2)::(T++(bA a AK.arr.c m [] d bs n++R0)))) (λn2=>bK.bE .head) (aa ⟨3,0,[.d7 0 3,.ln .v1 (.eU 3 2),.bg 2 0],.aJ 1 1000000⟩ hl fX hi) λn2=>(Bv (λj k2 lE kH=>?_) _ n2 ?_ (λj lE=>?_) rfl _ _ rfl)))
      ·unfold cy;rw[if_pos ⟨aa eF,aa ⟨2,0,[.d7 0 3,.bg 1 0],.fp 1 1000000⟩ hl hi⟩,toNat_natCast,getElem?_map];refine av HH ?_
       rfl
      ·by_cases e2:j<i
       ·exact hj j k2 e2 kH
       ·have:j=i:=aa Ex lE e2;subst this;rw[lF] at kH;have:=Option.some.inj kH;exact aa ⟨0,3,[.an (.ak 0 0) (.bS 0 1),.no (.bM 0 1),.bM 0 2],.cj 2 1⟩ cW e this
      ·have:=CQ kv k (V.bytes (os.getD i []));exact aa ⟨3,0,[.ln .v0 (.eU 3 1),.ln .v2 (.aj 0 1)],.ln .v2 (.a (.k 3) (.aj 1 1))⟩ fX this
      ·rw[B0,take_add_one,HH];rw[show(some (k,os.getD i [])).toList=[(k,os.getD i [])] from rfl,Bn];show _=some (V.bytes (((fk m.vals ((ks.zip os).take i)).set k.toNat (os.getD i [])).getD j []));rw[getD_eq_getElem?_getD (l:=(fk m.vals ((ks.zip os).take i)).set k.toNat (os.getD i []))];by_cases e2:(j:Int)=k
       ·rw[if_pos e2];have:k.toNat=j:=aa ⟨1,1,[.dP 0 0],.en (.t .v0) .v0⟩ e2;refine av this ?_;rw[getElem?_set_self (by exact aa ⟨3,2,[.an (.ak 0 0) (.bS 0 1),.no (.bM 0 1),.aA 0 1,.ez .c1 (.m 1 .v1),.en (.t .v0) .v2],.bg 2 0⟩ cW e (oF ((ks.zip os).take i) m.vals) (I.len:(m.vals.length:Int)=1*m.most) this)]
        rfl
       ·rw[if_neg e2];refine av (ow j lE) ?_;rw[getElem?_set_ne (by exact aa ⟨1,2,[.an (.ak 0 0) (.bS 0 1),.no (.dP 0 0)],.no (.en (.t .v0) .v0)⟩ cW e2),getD_eq_getElem?_getD]
    ·intro σ M zz;refine Bt zz λhj kv nf fX ow aN v1 v4 iK=>?_;refine av aN ?_;refine av iK ?_;rw[(show(jX (ks.map V.int)).length=3 by unfold jX;simp[hl])] at hj fX ow;have:=fin 3 kv nf v1 v4 hj (.inl (getElem?_eq_none (aa EB hl))) ⟨aa ⟨1,0,[.ln .v0 (.a (.k 3) (.k 3))],.aS 0 20⟩ fX,ow⟩;rw[append_assoc] at this;exact⟨.bE (.tail (.gi hK)),this⟩
end
theorem kJ(h0:1<=w)(h1:w<=16):(cX w=16/\w<=8)\/(cX w=24/\8<w):=by
 unfold cX;rw[fdiv_eq_ediv_of_nonneg _ (by decide)];by_cases h:w<=8
 ·have z2:(w+7)/8<2:=Int.ediv_lt_of_lt_mul (by decide) (aa ⟨0,1,[.aL 0 8],.tz (.aj 0 7) (.m 2 (.k 8))⟩ h);exact aa ⟨0,3,[.ak 1 0,.bh 0 2,.an (.ak 0 1) (.an (.bh 1 8) (.ez (.a (.m 8 .v0) .v1) (.aj 2 7)))],.oo (.an (.ez (.a (.w .v0 8) (.k 8)) (.k 16)) (.aL 2 8)) (.an (.ez (.a (.w .v0 8) (.k 8)) (.k 24)) (.c_ 8 2))⟩ (Int.le_ediv_of_mul_le (by decide) (aa FQ h0):1<=(w+7)/8) z2 (pM (by decide))
 ·have z2:2<=(w+7)/8:=Int.le_ediv_of_mul_le (by decide) (aa ⟨0,1,[.no (.aL 0 8)],.lz (.m 2 (.k 8)) (.aj 0 7)⟩ h);exact aa ⟨0,3,[.bh 0 3,.ak 2 0,.an (.ak 0 1) (.an (.bh 1 8) (.ez (.a (.m 8 .v0) .v1) (.aj 2 7)))],.oo (.an (.ez (.a (.w .v0 8) (.k 8)) (.k 16)) (.aL 2 8)) (.an (.ez (.a (.w .v0 8) (.k 8)) (.k 24)) (.c_ 8 2))⟩ (Int.ediv_lt_of_lt_mul (by decide) (aa FR h1):(w+7)/8<3) z2 (pM (by decide))
theorem sS(h0:1<=w)(h1:w<=16):(cX w=16/\w<=8/\s*cX w=s*16)\/(cX w=24/\8<w/\s*cX w=s*24):=(kJ h0 h1).elim (λh=>.inl (bj h.1 h.2 (by rw[h.1]))) λh=>.inr (bj h.1 h.2 (by rw[h.1]))
variable{off:Int}
theorem KP{i T:Int}(s0:0<=s)(s1:s<12)(o0:0<=off)(o1:off<T)(hT:T=16\/T=24):(16777216+1048576*i+s*T+off-16777216)/1048576=i/\(16777216+1048576*i+s*T+off-16777216)%1048576/T=s/\(16777216+1048576*i+s*T+off-16777216)%1048576%T=off:=by
 have h1:0<=s*T+off/\s*T+off<1048576:=by
  rcases hT with rfl|rfl
  ·exact aa ⟨0,2,[.ak 0 0,.bh 0 12,.ak 0 1,.bh 1 16],.an (.lz (.k 0) (.a (.w .v0 16) .v1)) (.tz (.a (.w .v0 16) .v1) (.k 1048576))⟩ s0 s1 o0 o1
  ·exact aa ⟨0,2,[.ak 0 0,.bh 0 12,.ak 0 1,.bh 1 24],.an (.lz (.k 0) (.a (.w .v0 24) .v1)) (.tz (.a (.w .v0 24) .v1) (.k 1048576))⟩ s0 s1 o0 o1
 have e1:(16777216+1048576*i+s*T+off-16777216)=(s*T+off)+1048576*i:=aa ⟨0,3,[],.ez (.s (.a (.a (.a (.k 16777216) (.m 1048576 .v0)) .v1) .v2) (.k 16777216)) (.a (.cA 1 2) (.m 1048576 .v0))⟩
 have e2:(s*T+off)/T=s/\(s*T+off)%T=off:=by have z0:0<T:=aa EF hT;rw[add_comm,mul_comm,Int.add_mul_ediv_left _ _ (Int.ne_of_gt z0),Int.add_mul_emod_self_left,Int.ediv_eq_zero_of_lt o0 o1,emod_eq_of_lt o0 o1];exact⟨zero_add _,rfl⟩
 rw[e1,Int.add_mul_ediv_left _ _ (by decide),Int.add_mul_emod_self_left,Int.ediv_eq_zero_of_lt h1.1 h1.2,emod_eq_of_lt h1.1 h1.2];exact⟨aa ⟨0,1,[],.ez (.eU 0 0) .v0⟩,e2⟩
theorem sJ{i:Int}(i0:0<=i)(s0:0<=s)(s1:s<12)(h0:1<=w)(h1:w<=16)(o0:0<=off)(o1:off<cX w):kY (bD i s w+off)=i/\ix (bD i s w+off) w=s/\q7 (bD i s w+off) w=off:=by unfold kY ix q7 bD;rw[fdiv_eq_ediv_of_nonneg _ (by decide),fmod_eq_emod_of_nonneg _ (by decide),fdiv_eq_ediv_of_nonneg _ (by exact aa EG o0 o1),fmod_eq_emod_of_nonneg _ (by exact aa EG o0 o1)];exact KP s0 s1 o0 o1 (show cX w=16\/cX w=24 by have zz:=kJ h0 h1;exact aa EH zz)
theorem NP{o:Int}(h0:0<=o)(h1:o<256):ou o 1=gy [o]:=by
 have:pZ o 0=o:=by refine(?_:Builtin.bitAnd (Int.fdiv o 1) 255=o);rw[Int.fdiv_one];unfold Builtin.bitAnd;rw[decide_eq_true h0];show((o.toNat&&&255:Nat):Int)=o;have:=Nat.and_two_pow_sub_one_eq_mod o.toNat 8;rw[show(2^8-1:Nat)=255 from rfl] at this;rw[this,Nat.mod_eq_of_lt (by exact aa ⟨0,1,[.bh 0 256],.tn (.t .v0) (.k 256)⟩ h1)];exact aa ⟨0,1,[.ak 0 0],.ez (.c (.t .v0)) .v0⟩ h0
 show gy [pZ o 0]=_;rw[this]
noncomputable def MM.iX (m:MM) (s:Nat) (w:By):MM:=match m with
 |.A k m=>.A k {m with vals:=m.vals.set s w}
 |.H k m=>.H k {m with b:={m.b with vals:=m.b.vals.set s w}}
 |.Q m=>.Q {m with b:={m.b with vals:=m.b.vals.set s w}}
theorem MM.Me(m:MM)(s:Nat)(w:By):(m.iX s w).b={m.b with vals:=m.b.vals.set s w}:=by cases m<;>rfl
theorem MM.J4{m:MM}(I:m.Inv){s:Nat}{w:By}(hw:(w.length:Int)=m.b.size):(m.iX s w).Inv:=by
 have each:∀v∈m.b.vals.set s w,(v.length:Int)=m.b.size:=λv hv=>by
  rcases mem_or_eq_of_mem_set hv with hv|rfl
  ·exact I.base.each v hv
  ·exact hw
 have bz:(m.b.vals.set s w).length=m.b.vals.length:=length_set
 cases m with
 |A k m=>have I:cM k m:=I;exact⟨I.kind,I.kw,I.s0,I.s1,I.m0,I.m1,I.n0,I.n1,(by have:=I.len;show((m.vals.set s w).length:Int)=_;rw[length_set];exact this),each⟩
 |H k m=>have I:cq k m:=I;exact⟨⟨I.kind,I.hJ,I.s0,I.s1,I.m0,I.m1,I.n0,I.n1,(by have:=I.len;show((m.b.vals.set s w).length:Int)<=_;rw[length_set];exact this),each,I.bl⟩,⟨I.core.bk,I.core.kb,I.core.kn⟩,(λt ht=>by have:=I.lt t ht;show t<((m.b.vals.set s w).length:Int);rw[length_set];exact this),I.ord⟩
 |Q m=>have I:cm m:=I;exact⟨I.kind,I.kw,I.s0,I.s1,I.m0,I.m1,I.n0,I.n1,each,I.h0,I.h1,I.t0,I.t1,(by have:=I.fill;show((m.b.vals.set s w).length:Int)=_\/(_/\_<=((m.b.vals.set s w).length:Int)/\((m.b.vals.set s w).length:Int)<=_);rw[length_set];exact this)⟩
theorem MM.KQ{m:MM}(h:m.Ok x)(s:Nat)(w:By):(m.iX s w).Ok x:=by
 cases m with
 |A k m=>show x.bs.length=(m.vals.set s w).length;rw[length_set];exact h
 |H k m=>have h:x.Ok m:=h;exact⟨(by show x.bs.length=(m.b.vals.set s w).length;rw[length_set];exact HA.Ok.bs h),(show x.bas.length=m.bks.length from h.bas)⟩
 |Q m=>show x.bs.length=(m.b.vals.set s w).length;rw[length_set];exact h
theorem KR{m:MM}{s:Nat}{b:Addr}{v w:By}(hb:x.bs[s]?=some b)(hv:m.b.vals[s]?=some v):bK (dZ m a x R) b (.ba v) (.ba w) (dZ (m.iX s w) a x R):=by
 cases m with
 |A k m=>exact .tail (.tail (.gi (oM hb hv)))
 |H k m=>exact .tail (.tail (.tail (.tail (.bE (.bE (.gi (oM hb hv)))))))
 |Q m=>exact .tail (.tail (.gi (oM hb hv)))
noncomputable def u7 (base:Int) (b:Addr):SV:=[("name",.str "value"),("base",.int base),("octets",.ref b),("is_writable",.bool true)]
theorem nR{base:Int}{b:Addr}{n:Str}(h:(["name","base","octets","is_writable"]:List Str).contains n=false):n∉(u7 base b).map (·.1):=λhm=>by
 have hm:n∈(["name","base","octets","is_writable"]:List Str):=hm
 rw[List.contains_iff_mem.mpr hm] at h;cases h
noncomputable def pH (rl D:Addr):SV:=[("regions",.ref rl),("maps",.ref D)]
theorem nM{rl D:Addr}{n:Str}(h:(["regions","maps"]:List Str).contains n=false):n∉(pH rl D).map (·.1):=λhm=>by
 have hm:n∈(["regions","maps"]:List Str):=hm
 rw[List.contains_iff_mem.mpr hm] at h;cases h
variable{as:List Addr}
section
variable{L:HL}{D me rl b:Addr}{m:MM}{s:Nat}
theorem Mf(W:PG G){base:Int}(q:∀r,Q (.ref r) ((r,.obj 142 (u7 base b))::L)):Sp G 142 (dp+2) [.str "value",.int base,.ref b,.bool true] L Q E:=Sp.make (fI:=118) W.B iq (mF 118) λr=>gO 118 ["self","name","base","octets","is_writable"] [sf,bI "name",dT "base",jl "octets",lD "is_writable"] [] [] (sq [.du af "name" (.var 1),.du af "base" (.var 2),.du af "octets" (.var 3),.du af "is_writable" (.var 4)]) W (db.obj W.B .nil .head iq aF (d6 rfl) (db.obj W.B (.tail rfl .nil) .head iq aF (d6 rfl) (db.obj W.B (.tail rfl (.tail rfl .nil)) .head iq aF (d6 rfl) (db.obj W.B (.tail rfl (.tail rfl (.tail rfl .nil))) .head iq aF (d6 rfl) ⟨rfl,q r⟩))))
theorem Mg(W:PG G)(q:∀me rl,Q (.ref me) ((me,.obj 274 (pH rl D))::(rl,.list [])::L)):Sp G 274 (dp+2) [.ref D] L Q E:=Sp.make (fI:=189) W.B kL (mF 189) λme=>Sp.ent (.refl _) (Iy W (λrl=>db.obj W.B .nil (.tail .head) kL aF (d6 rfl) (iF (db.obj W.B (.tail rfl .nil) (.tail .head) kL aF (d6 rfl) (cz _ (.perm (.swap _ _ _)) rfl (q me rl))))))
theorem IC(W:PG G)(I:nL m.b)(hm:ap L me (.obj 274 (pH rl D)))(hd:ap L D (.di (vK as) n))(ha:as[i]?=some a)(rd:fB L a m x)(hi:m.b.number=(i:Int))(hs:x.bs[s]?=some b)(o0:0<=off)(o1:off<m.b.size)(q:∀r,Q (.ref r) ((r,.obj 142 (u7 (bD i s m.b.size) b))::L)):Sp G 217 (dp+3) [.ref me,.int (bD i s m.b.size+off)] L Q E:=by
 have hsz:=I.s0;have lg:=I.s1;refine fq (sJ (i:=i) (s:=s) (w:=m.b.size) (off:=off) (aa eF) (aa eF) (by have:=rd.rd.len;exact aa ⟨3,0,[.aS 0 12,.bg 1 2,.aA 2 0],.fp 1 12⟩ I.len ((gS hs).1) this) hsz lg o0 (aa EI o1 (show m.b.size<cX m.b.size by have zz:=kJ hsz lg;exact aa yC lg zz))) λp1 p2 p3=>?_
 have hg:bL (vK as) (Int.fdiv (bD i s m.b.size+off-16777216) 1048576)=some (.ref a):=by have:Int.fdiv (bD i s m.b.size+off-16777216) 1048576=i:=p1;rw[this,lS,if_pos (by exact aa eF),toNat_natCast,ha];rfl
 have HI:bL (vK x.bs) (s:Int)=some (.ref b):=by rw[lS,if_pos (by exact aa eF),toNat_natCast,hs];rfl
 refine gO 217 ["self","place"] [sf,bI "place",aI "one",aI "number",aI "slot",aI "far"] [] [qy,sO,AH,("Region",.ref 142),AA] (sq [.asg (.var 2) (.aC (.aG af "maps") "get" (wa (.bin .FloorDiv (.bin .Sub aB aM) cf))),.ite (.bo .Or (.ae (.cmp .Is aX .none) (wa (.cmp .Eq (.aG aX "value_width") (.int 0))))) (sq [.ret .none]) .nil,.fi [(.var 3),(.var 4),(.var 5)] (.call eM (.ae aB (wa (.aG aX "value_width")))),.ite (.cmp .NotIn dL (.aG aX "values")) (sq [.ret .none]) .nil,.ret (.call iH (.ae (.str "value") (.ae (.call jf (.ae bC (.ae dL (wa (.aG aX "value_width"))))) (.ae (.sub (.aG aX "values") (.var 4)) (wa (.bool true))))))]) W (dG.obj W.B hm (.tail .head) kL aF trivial (ax.bL hd ((bj (by decide) (pY (by decide)) (br.getD W.B (dX _) hd ?_)))))
 rw[hg];refine⟨λU=>gZ W (MM.ok m).mc rd.rd.obj ⟨λh=>?_,λU=>⟨kF,gZ W (MM.ok m).mc rd.rd.obj (AN W (aa gW hsz) (aa rk lg) ?_)⟩⟩,λh=>no h⟩
 ·have:=eq_of_beq h;exact(aa ⟨0,1,[.ak 1 0,.be 0 0],.ff⟩ hsz this).elim
 ·simp only[p1,p2,p3];refine fY W (MM.ok m).mc rd.rd.obj (aV.D7 W.B (dX _) rd.rd.dict ?_);rw[HI];exact iF (bj kF kF (gZ W (MM.ok m).mc rd.rd.obj (AD W (aa gW hsz) (aa rk lg) (fY W (MM.ok m).mc rd.rd.obj (a_.dk (dX _) rd.rd.dict HI (Mf W q))))))
theorem PH(W:PG G)(I:nL m.b)(hm:ap L me (.obj 274 (pH rl D)))(hd:ap L D (.di (vK as) n))(ha:as[i]?=some a)(rd:fB L a m x)(hi:m.b.number=(i:Int)){v:By}(hs:x.bs[s]?=some b)(hv:m.b.vals[s]?=some v)(o0:0<=off)(o1:off<m.b.size)(q:∀r,Q (.tup [.ref r,.int off]) ((r,.obj 142 (u7 (bD i s m.b.size) b))::L)):Sp G 231 (dp+5) [.ref me,.int (bD i s m.b.size+off),.int 1] L Q E:=by
 have hsz:=I.s0;have lg:=I.s1;have go:=I.each v (mem_of_getElem? hv)
 have lx:16777216<=bD i s m.b.size/\bD i s m.b.size<16777216+1048576*64+1000:=by exact aa ⟨4,2,[.fg 0 0,.aS 1 12,.bg 2 3,.bh 0 64,.aA 3 1,.oo (.ez .v1 (.w .c2 16)) (.ez .v1 (.w .c2 24))],.an (.lz (.k 16777216) (.a (.a (.k 16777216) (.m 1048576 .c0)) .v1)) (.tz (.a (.a (.k 16777216) (.m 1048576 .c0)) .v1) (.a (.a (.k 16777216) (.m 1048576 (.k 64))) (.k 1000)))⟩ hi I.len ((gS hs).1) I.n1 rd.rd.len ((kJ hsz lg).elim (λh=>.inl (by rw[h.1])) λh=>.inr (by rw[h.1]):s*cX m.b.size=s*16\/s*cX m.b.size=s*24)
 refine gO 231 ["self","place","width"] [sf,bI "place",dT "width",aI "region"] [] [Dp] (sq [.asg (.var 3) (.aC af "region_at" (wa aB)),.ite (.bo .Or (.ae (.cmp .Is bC .none) (wa (.d8 .Not (.aC bC "holds" (.ae aB (wa aX))))))) (sq [.no]) .nil,.ret (.tup (.ae bC (wa (.bin .Sub aB (.aG bC "base")))))]) W (ax.inst W.B hm kL (mF 224) (nM rfl) ⟨kF,H5 W ⟨λU=>⟨λU=>ax.inst W.B hm kL (mF 217) (nM rfl) ⟨kF,IC W I hm hd ha rd hi hs o0 o1 λr=>?_⟩,λh=>?_⟩,λh=>?_⟩⟩)
 ·refine⟨λU=>ax.inst W.B .head iq (mF 132) (nR rfl) ⟨kF,gO 132 ["self","place","width"] [sf,bI "place",dT "width"] [] [] (sq [.ret (.bo .And (.ae (.cmp .LtE (.aG af "base") (.var 1)) (wa (.cmp .LtE (.bin .Add aB (.var 2)) (.aC af "end" .bT)))))]) W (dG.obj W.B .head (.tail .head) iq aF trivial ⟨λU=>ax.inst W.B .head iq (mF 125) (nR rfl) ⟨kF,gO 125 ["self"] [sf] [] [jx] (sq [.ret (.bin .Add (.aG af "base") (.call aM (wa (.aG af "octets"))))]) W (dG.obj W.B .head (.tail .head) iq aF trivial (dG.obj W.B .head (.tail (.tail .head)) iq aF trivial (br.R1 (.tail (rd.rd.bas s b v hs hv:ap L b (.ba v))) (aa nT lg go) ⟨λh=>?_,λU=>dG.obj W.B .head (.tail .head) iq aF trivial (?_)⟩)))⟩,λh=>?_⟩)⟩,λh=>no h⟩
  ·have h:(!decide (bD i s m.b.size+off+1<=bD i s m.b.size+(v.length:Int)))=true:=h;rw[decide_eq_true (by exact aa ⟨1,3,[.cj 0 1,.dP 0 1],.lz (.a (.cA 2 0) (.k 1)) (.a .v2 .c0)⟩ o1 go)] at h;cases h
  ·have:bD i s m.b.size+off-bD i s m.b.size=off:=aa EJ;exact(congrArg (λz=>Q (.tup [.ref r,.int z]) _) this).mpr (q r)
  ·have h:decide (bD i s m.b.size<=bD i s m.b.size+off)=false:=h;rw[decide_eq_true (by exact aa ⟨0,2,[.ak 0 0],.lz .v1 (.cA 1 0)⟩ o0)] at h;cases h
 ·have:=of_decide_eq_false h;exact(aa ⟨0,3,[.cj 0 1,.aL 1 16,.an (.ak 16777216 2) (.tz .v2 (.a (.a (.k 16777216) (.m 1048576 (.k 64))) (.k 1000))),.no (.tz (.cA 2 0) (.k 1879048192))],.ff⟩ o1 lg lx this).elim
 ·have:=of_decide_eq_false h;exact(aa ⟨0,2,[.ak 0 0,.an (.ak 16777216 1) (.tz .v1 (.a (.a (.k 16777216) (.m 1048576 (.k 64))) (.k 1000))),.no (.lz (.k 16777216) (.cA 1 0))],.ff⟩ o0 lx this).elim
theorem PI(W:PG G)(I:nL m.b)(hm:ap L me (.obj 274 (pH rl D)))(hd:ap L D (.di (vK as) n))(ha:as[i]?=some a)(rd:fB L a m x)(hi:m.b.number=(i:Int)){v:By}(hs:x.bs[s]?=some b)(hv:m.b.vals[s]?=some v)(o0:0<=off)(o1:off<m.b.size){c:By}(hc:c.length=1)(rx:bK L b (.ba v) (.ba (v.take off.toNat++c++v.drop (off+1).toNat)) L')(q:Q .none L'):Sp G 252 (dp+6) [.ref me,.int (bD i s m.b.size+off),.bytes c] L Q E:=by
 have go:=I.each v (mem_of_getElem? hv);have mD:((c.length:Nat):Int)=1:=by rw[hc];rfl
 refine Sp.ent (.refl _) (gO 252 ["self","place","octets"] [sf,bI "place",dT "octets",aI "region",aI "offset"] [] [jx,Dp] (sq [.fi [(.var 3),(.var 4)] (.aC af "find" (.ae aB (wa (.call aM (wa aX))))),.ite (.d8 .Not (.aG bC "is_writable")) (sq [.no]) .nil,.pg (.aG bC "octets") (.var 4) (.bin .Add dL (.call aM (wa aX))) (.var 2)]) W (ax.inst W.B hm kL (mF 231) (nM rfl) ⟨kF,(br.po (aa EK hc) ?_)⟩))
 simp only[mD];refine PH W I hm hd ha rd hi hs hv o0 o1 λr=>?_;refine dG.obj W.B .head (.tail (.tail (.tail .head))) iq aF trivial (iF (dG.obj W.B .head (.tail (.tail .head)) iq aF trivial (br.po (aa EK hc) λsl=>dC.TM .head (.tail (.tail (by rw[mD];exact rx))) o0 (by rw[mD]) (by rw[mD];exact aa ⟨1,2,[.cj 0 1,.dP 0 1],.lz (.aj 0 1) .c0⟩ o1 go) (aa nT I.s1 go) (ah L' (.sub (.cons _ (.cons _ (.refl _)))) q))))
theorem NQ(W:PG G)(I:nL m.b)(hm:ap L me (.obj 274 (pH rl D)))(hd:ap L D (.di (vK as) n))(ha:as[i]?=some a)(rd:fB L a m x)(hi:m.b.number=(i:Int)){v:By}(hs:x.bs[s]?=some b)(hv:m.b.vals[s]?=some v)(o0:0<=off)(o1:off<m.b.size){o:Int}(h0:0<=o)(h1:o<256)(rx:bK L b (.ba v) (.ba (v.take off.toNat++gy [o]++v.drop (off+1).toNat)) L')(q:Q .none L'):Sp G 266 (dp+7) [.ref me,.int (bD i s m.b.size+off),.int 1,.int o] L Q E:=by
 refine gO 266 ["self","place","width","worth"] [sf,bI "place",dT "width",jl "worth"] [] [Cr] (sq [.ex (.aC af "lay" (.ae aB (wa (.call aM (.ae bC (wa aX))))))]) W (ax.inst W.B hm kL (mF 252) (nM rfl) (bj kF kF (Cy W (by decide) (by decide) ?_)))
 have e:ou o (Int.toNat 1)=gy [o]:=NP h0 h1;simp only[e];exact PI W I hm hd ha rd hi hs hv o0 o1 rfl rx q
end
def fF(p:List Int×V):Int×List V:=match p with
 |([i,s],.bytes o)=>(bD i s o.length,[.int (bD i s o.length+o.length),.int i,.int s])
 |_=>(0,[])
def mu(p:List Int×V):Int:=match p with
 |([i,s],.bytes o)=>bD i s o.length+o.length
 |_=>0
def sk(v:LB):Prop:=v.length<=12/\∃w:Int,1<=w/\w<=16/\∀o∈v,(o.length:Int)=w
theorem KS{v:LB}(h:sk v){s:Nat}(hs:s<v.length):∃w:Int,1<=w/\w<=16/\(fF ([(i:Int),(s:Int)],.bytes (v.getD s []))).1=bD i s w/\mu ([(i:Int),(s:Int)],.bytes (v.getD s []))=bD i s w+w:=by
 lk
 refine xD h λU w w0 w1 hw=>?_;have hl:((v.getD s []).length:Int)=w:=hw _ (by rw[getD_eq_getElem?_getD,gE hs];exact getElem_mem _);refine⟨w,w0,w1,?_,?_⟩
 ·show bD i s ((v.getD s []).length:Int)=_;rw[hl]
 ·show bD i s ((v.getD s []).length:Int)+((v.getD s []).length:Int)=_;rw[hl]
theorem Ji{v:LB}(h:sk v)(i:Nat):(cJ i v).Pairwise λp p'=>mu p<(fF p').1:=by
 unfold cJ;rw[List.pairwise_map];refine List.Pairwise.imp_of_mem (R:=λa b=>a<b) (λ{a b} ha hb vq=>?_) List.pairwise_lt_range
 lk
 refine xD h λU w w0 w1 hw=>?_;have hl:∀s,s<v.length->((v.getD s []).length:Int)=w:=λs hs=>hw _ (by rw[getD_eq_getElem?_getD,gE hs];exact getElem_mem _);show bD i a ((v.getD a []).length:Int)+((v.getD a []).length:Int)<bD i b ((v.getD b []).length:Int);rw[hl a (List.mem_range.mp ha),hl b (List.mem_range.mp hb)];exact aa ⟨3,4,[.bg 0 1,.aL 0 16,.oo (.an (.be 1 16) (.an (.aL 0 8) (.ez .v2 (.w .c0 16)))) (.an (.be 1 24) (.an (.c_ 8 0) (.ez .v2 (.w .c0 24)))),.oo (.an (.be 1 16) (.an (.aL 0 8) (.ez .v3 (.w .c1 16)))) (.an (.be 1 24) (.an (.c_ 8 0) (.ez .v3 (.w .c1 24))))],.tz (.a (.a (.a (.k 16777216) (.m 1048576 .c2)) .v2) .v0) (.a (.a (.k 16777216) (.m 1048576 .c2)) .v3)⟩ vq w1 (sS (s:=a) w0 w1) (sS (s:=b) w0 w1)
theorem A3:∀(vv:List LB)(i:Nat),(∀v∈vv,sk v)->(eR i vv).Pairwise (λp p'=>mu p<(fF p').1)/\∀p∈eR i vv,16777216+1048576*(i:Int)<=(fF p).1
 |[],i,_=>⟨.nil,λp h=>by cases h⟩
 |v::vv,i,h=>by
  refine xA (A3 vv (i+1) λv hv=>h v (mem_cons_of_mem _ hv)) λzl vb=>?_;have hv:=h v (mem_cons_self ..)
  have hs:∀p∈cJ i v,16777216+1048576*(i:Int)<=(fF p).1/\mu p<16777216+1048576*((i:Int)+1):=λp hp=>by unfold cJ at hp;refine ai (List.mem_map.mp hp) λs hs aw=>?_;refine av (Eq.symm aw) ?_;have hs:=List.mem_range.mp hs;refine xB (KS hv (i:=i) hs) λw w0 w1 e1 e2=>?_;simp only[e1,e2];unfold bD;exact aa ⟨3,3,[.bg 0 1,.aS 1 12,.aL 0 16,.oo (.an (.be 1 16) (.an (.aL 0 8) (.ez .v2 (.w .c0 16)))) (.an (.be 1 24) (.an (.c_ 8 0) (.ez .v2 (.w .c0 24))))],.an (.lz (.a (.k 16777216) (.m 1048576 .c2)) (.a (.a (.k 16777216) (.m 1048576 .c2)) .v2)) (.tz (.a (.a (.a (.k 16777216) (.m 1048576 .c2)) .v2) .v0) (.a (.k 16777216) (.m 1048576 (.a .c2 (.k 1)))))⟩ hs hv.1 w1 (sS (s:=s) w0 w1)
  refine⟨List.pairwise_append.mpr (bj (Ji hv i) zl (λp hp p' iM=>?_)),λp hp=>?_⟩
  ·have h1:=(hs p hp).2;exact aa ⟨1,2,[.tz .v0 (.a (.k 16777216) (.m 1048576 (.a .c0 (.k 1)))),.lz (.a (.k 16777216) (.m 1048576 (.c (.aj 0 1)))) .v1],.cj 0 1⟩ h1 (vb p' iM)
  ·rcases List.mem_append.mp hp with hp|hp
   ·exact(hs p hp).1
   ·have:=vb p hp;exact aa ⟨1,1,[.lz (.a (.k 16777216) (.m 1048576 (.c (.aj 0 1)))) .v0],.lz (.a (.k 16777216) (.m 1048576 .c0)) .v0⟩ this
theorem Es(h:∀v∈vv,sk v){p:List Int×V}(hp:p∈bH vv):(fF p).1<=mu p:=by refine lL (s_ (k:=p.1) (x:=p.2) hp) λa b v o h1 h2 h3 h4=>?_;obtain⟨k,x⟩:=p;simp only at h1 h4;subst h1;subst h4;exact aa ⟨1,1,[],.lz .v0 (.a .v0 .c0)⟩
theorem br.Mh{l:Addr}{ts:List (Int×List V)}(h:ap L l (.list (ts.map hW)))(bz:ts.length<64)(ha:ts.Pairwise λp p'=>p.1<p'.1)(q:∀D,Q (.ref D) ((D,.list (ts.map hW))::L)):br C "sorted" [.ref l] L Q E:=by
 have aT:∀i,1<=i->i<ts.length->(ts.getD (i-1) (0,[])).1<(ts.getD i (0,[])).1:=λi h1 h2=>by have:=List.pairwise_iff_getElem.mp ha (i-1) i (aa ux h2) h2 (aa ⟨1,0,[.gj 1 0],.tn (.dK 0 1) .v0⟩ h1);rw[getD_eq_getElem?_getD,getD_eq_getElem?_getD,gE h2,gE (by exact aa ux h2)];exact this
 obtain⟨h1,h2⟩:=A8 (xs:=ts.map hW) (ans:=λi j=>decide ((ts.getD i (0,[])).1<(ts.getD j (0,[])).1)) λi i1 i2=>by rw[length_map] at i2;refine decide_eq_false ?_;have:=aT i i1 i2;exact aa ⟨0,2,[.cj 0 1],.no (.cj 1 0)⟩ this
 rw[length_map] at h2;refine br.Dn h (ji.spans λi i1 i2=>by have:=aT i i1 i2;exact aa ⟨0,2,[.cj 0 1],.no (.bM 1 0)⟩ this) (by rw[length_map];exact bz) (by rw[length_map];exact h2) λD=>?_;rw[h1];exact q D
section
variable{L:HL}{D:Addr}
theorem Jj{b:MB}(h:kY cK≠b.number):gu b cK=.none:=by unfold gu;rw[if_neg λz=>h z.1]
theorem Mi(W:PG G)(h:cP L D ms)(hi:ms[i]?=some t){o:Int}(hs:gu t.m.b cK=.tup [.int s,.int o])(hj:∀(j:Nat)(t':MT),j<i->ms[j]?=some t'->gu t'.m.b cK=.none)(q:Q (.tup [.ref t.a,.int s,.int o]) L):Sp G 104 (dp+4) [.ref D,.int cK] L Q E:=by
 have cB:(bq ms).length=ms.length:=by unfold bq;simp
 obtain⟨n0,hd⟩:=h.dict;refine Sp.ent (.refl _) (BL W (br.xd W.B hd (aa yy h.len cB) λS=>rz (bx.list .head) (λk U U=>k<=i) (λU U U=>(S,.list ((fo (bq ms).length).map V.int))::L) (λU u v=>⟨[some (.ref D),some (.int cK),u,v],[]⟩) _ _ (zero_le _) rfl rfl ?_ ?_))
 ·intro k u v x hx hk;rw[getElem?_map] at hx;refine ai (Option.map_eq_some_iff.mp hx) λy hy aw=>?_;refine av (Eq.symm aw) ?_;obtain⟨rfl,fX⟩:=ti hy;have fX:k<ms.length:=aa kr cB fX;have jU:=gE fX;have cG:=getElem_mem fX;have rd:=(h.has _ cG).rd;have b:=(h.ok _ cG).base;refine⟨.head,h.cons.at jU (ax.inst W.B (.tail rd.obj) (MM.ok _).mc.cls (MM.ok _).DF (aQ (MM.cF _ _) rfl rfl) ⟨kF,BO W (MM.ok _).mc (.tail rd.obj) (.tail rd.dict) rd.len (aa gW b.s0) (aa rk b.s1) ?_⟩)⟩;by_cases e:k=i
  ·subst e;rw[jU] at hi;rw[(Option.some.inj hi)] at jU cG⊢;rw[hs];exact iT ((h.cons.at jU) ⟨_,rfl,_,rfl,L,.sub (.cons _ (.refl _)),q⟩)
  ·simp only[hj k _ (aa Ga hk e) jU];exact iF (cz (_,_) (aa ⟨2,0,[.bY 0 1,.no (.aA 0 1)],.ln (.aj 0 1) .v1⟩ hk e) rfl rfl)
 ·intro u v hk;rw[length_map,oJ] at hk;exact(aa ⟨3,0,[.aA 0 1,.bg 2 1,.bY 0 2],.ff⟩ cB ((gS hi).1) hk).elim
theorem AE(W:PG G)(h:cP L D ms)(hj:∀t∈ms,gu t.m.b cK=.none)(q:E L):Sp G 104 (dp+4) [.ref D,.int cK] L Q E:=by
 have cB:(bq ms).length=ms.length:=by unfold bq;simp
 obtain⟨n0,hd⟩:=h.dict;refine Sp.ent (.refl _) (BL W (br.xd W.B hd (aa yy h.len cB) λS=>rz (bx.list .head) (λU U U=>True) (λU U U=>(S,.list ((fo (bq ms).length).map V.int))::L) (λU u v=>⟨[some (.ref D),some (.int cK),u,v],[]⟩) _ _ trivial rfl rfl ?_ ?_))
 ·intro k u v x hx _;rw[getElem?_map] at hx;refine ai (Option.map_eq_some_iff.mp hx) λy hy aw=>?_;refine av (Eq.symm aw) ?_;obtain⟨rfl,fX⟩:=ti hy;have fX:k<ms.length:=aa kr cB fX;have jU:=gE fX;have cG:=getElem_mem fX;have rd:=(h.has _ cG).rd;have b:=(h.ok _ cG).base;refine⟨.head,h.cons.at jU (ax.inst W.B (.tail rd.obj) (MM.ok _).mc.cls (MM.ok _).DF (aQ (MM.cF _ _) rfl rfl) ⟨kF,BO W (MM.ok _).mc (.tail rd.obj) (.tail rd.dict) rd.len (aa gW b.s0) (aa rk b.s1) ?_⟩)⟩;rw[hj _ cG];exact iF ⟨(_,_),trivial,rfl,rfl⟩
 ·intro u v _;exact(bj .head kF (CR W λx=>⟨x,_,_,rfl,.refl _,L,.sub (.cons _ (.refl _)),q⟩))
end
section
variable{L:HL}{D:Addr}
theorem B1(W:PG G){l:Lm}{eT:List (Str×Addr)}(hf:ap L f (.own (ml l eT)))(h:∀(Q':VP)(E':HP),(∀M,Q (.bool true) M->E' M)->Sp G f dp [] L Q' E'):Sp G 1060 (dp+1) [.ref f] L Q E:=Iz W (t3 f l eT rfl hf (h _ _ λM q=>⟨rfl,q⟩))
noncomputable def y5:Tm:=.call aM (.ae (.ao 0) (wa (.ao 1)))
noncomputable def y6:Tm:=.call aM (.ae (.ao 1) (wa (.bin .Sub (.sub (.sub (.ao 0) (.int 0)) (.int 0)) (.int 1))))
theorem PJ(W:PG G){c0 c1:Addr}{v0 v1:Option V}(h:wp (cx G dp) y5 [mP] ⟨[],[v0,v1]⟩ .ev L Q E):Sp G f (dp+1) [] (L++fN (iZ 0) ((["maps","end"]:List Str).zip [c0,c1]) f [c0,c1] [v0,v1]) (λv M=>∃M',M=M'++fN (iZ 0) ((["maps","end"]:List Str).zip [c0,c1]) f [c0,c1] [v0,v1]/\Q v M') (λM=>∃M',M=M'++fN (iZ 0) ((["maps","end"]:List Str).zip [c0,c1]) f [c0,c1] [v0,v1]/\E M'):=Sp.lam W.B W.X (globs:=[mP]) (tm:=y5) (by x_go) (kX W.B (by x_go)) rfl (λpm c ct=>rfl) (λf c fr=>.call (.dA rfl) (.cons (.ao rfl) (.cons (.ao rfl) .nil (λU U=>rfl)) (λU U=>rfl)) (λU U U=>rfl)) h
theorem PK(W:PG G){c0 c1:Addr}{v0 v1:Option V}(h:wp (cx G dp) y6 [mP] ⟨[],[v0,v1]⟩ .ev L Q E):Sp G f (dp+1) [] (L++fN (iZ 1) ((["spans","maps"]:List Str).zip [c0,c1]) f [c0,c1] [v0,v1]) (λv M=>∃M',M=M'++fN (iZ 1) ((["spans","maps"]:List Str).zip [c0,c1]) f [c0,c1] [v0,v1]/\Q v M') (λM=>∃M',M=M'++fN (iZ 1) ((["spans","maps"]:List Str).zip [c0,c1]) f [c0,c1] [v0,v1]/\E M'):=Sp.lam W.B W.X (globs:=[mP]) (tm:=y6) (by x_go) (kX W.B (by x_go)) rfl (λpm c ct=>rfl) (λf c fr=>.call (.dA rfl) (.cons (.ao rfl) (.cons (.bin (.sub (.sub (.ao rfl) .int (λU U=>rfl)) .int (λU U=>rfl)) .int) .nil (λU U=>rfl)) (λU U=>rfl)) (λU U U=>rfl)) h
end
noncomputable def MT.iX (t:MT) (s:Nat) (w:By):MT:={t with m:=t.m.iX s w}
theorem Bo:∀{ms:List MT}{i:Nat}{t:MT}{s:Nat}{b:Addr}{v w:By}{R:HL},ms[i]?=some t->t.x.bs[s]?=some b->t.m.b.vals[s]?=some v->bK (bw ms R) b (.ba v) (.ba w) (bw (ms.set i (t.iX s w)) R)
 |[],_,_,_,_,_,_,_,h,_,_=>by cases h
 |u::ms,0,t,s,b,v,w,R,h,hb,hv=>by obtain rfl:u=t:=Option.some.inj h;exact KR hb hv
 |u::ms,i+1,t,s,b,v,w,R,h,hb,hv=>bK.nO (Bo (ms:=ms) (i:=i) h hb hv)
theorem J5{s:Nat}{v:LB}(hs:s<v.length):cJ i (v.set s o)=(cJ i v).map λp=>if p.1=[(i:Int),(s:Int)] then(p.1,V.bytes o) else p:=by
 unfold cJ;simp only[length_set,map_map];refine map_congr_left λj hj=>?_;have hj:=List.mem_range.mp hj;refine(?_:_=if [(i:Int),(j:Int)]=[(i:Int),(s:Int)] then([(i:Int),(j:Int)],V.bytes o) else([(i:Int),(j:Int)],V.bytes (v.getD j [])));rw[getD_eq_getElem?_getD];by_cases e:j=s
 ·refine av e ?_;rw[if_pos rfl,getElem?_set_self hs];rfl
 ·rw[if_neg λh=>e (by injection h with _ h;injection h with h _;exact aa yD h),getElem?_set_ne (by exact aa ⟨2,0,[.no (.aA 0 1)],.no (.aA 1 0)⟩ e),getD_eq_getElem?_getD]
theorem B2{a s:Nat}{v:LB}(h:i≠a):(cJ i v).map (λp=>if p.1=[(a:Int),(s:Int)] then(p.1,V.bytes o) else p)=cJ i v:=by unfold cJ;rw[map_map];refine map_congr_left λj hj=>?_;refine(?_:(if [(i:Int),(j:Int)]=[(a:Int),(s:Int)] then _ else _)=_);rw[if_neg λe=>h (by injection e with e _;exact aa yD e)]
theorem B3:∀(vv:List LB)(i a s:Nat)(o:By),a<i->(eR i vv).map (λp=>if p.1=[(a:Int),(s:Int)] then(p.1,V.bytes o) else p)=eR i vv
 |[],i,a,s,o,_=>rfl
 |v::vv,i,a,s,o,h=>by show List.map _ (cJ i v++eR (i+1) vv)=cJ i v++eR (i+1) vv;rw[map_append,B2 (by exact aa ⟨2,0,[.bg 0 1],.no (.aA 1 0)⟩ h),B3 vv (i+1) a s o (by exact aa ⟨2,0,[.bg 0 1],.tn .v0 (.aj 1 1)⟩ h)]
theorem Bp:∀(vv:List LB)(i a s:Nat)(v:LB)(o:By),vv[a]?=some v->s<v.length->eR i (vv.set a (v.set s o))=(eR i vv).map λp=>if p.1=[((i+a:Nat):Int),(s:Int)] then(p.1,V.bytes o) else p
 |[],i,a,s,v,o,h,_=>by cases h
 |u::vv,i,0,s,v,o,h,hs=>by obtain rfl:u=v:=Option.some.inj h;refine(?_:cJ i (u.set s o)++eR (i+1) vv=(cJ i u++eR (i+1) vv).map _);simp only[map_append,J5 hs];exact congrArg _ (B3 vv (i+1) i s o (aa EL)).symm
 |u::vv,i,a+1,s,v,o,h,hs=>by refine(?_:cJ i u++eR (i+1) (vv.set a (v.set s o))=(cJ i u++eR (i+1) vv).map _);rw[map_append,Bp vv (i+1) a s v o h hs,B2 (by exact aa ⟨2,0,[],.no (.en .v0 (.a .v0 (.aj 1 1)))⟩)];have:i+1+a=i+(a+1):=aa rg;rw[this]
theorem KT{a s:Nat}{v:LB}(h:vv[a]?=some v)(hs:s<v.length):df (bH vv) [(a:Int),(s:Int)] (.bytes o)=bH (vv.set a (v.set s o)):=by
 unfold bH;rw[Bp vv 0 a s v o h hs,Nat.zero_add];unfold df;rw[if_pos];have hg:=qs vv a s;rw[h] at hg;have hg:bL (bH vv) [(a:Int),(s:Int)]=some (.bytes v[s]):=by rw[hg];show((v[s]?).map V.bytes)=_;rw[gE hs];rfl
 unfold bL at hg;refine ai (Option.map_eq_some_iff.mp hg) λp hp U=>?_
 have hd:decide (p.1=[(a:Int),(s:Int)])=true:=by have:=find?_some hp;exact this
 exact List.any_eq_true.mpr (ah p (List.mem_of_find?_eq_some hp) hd)
theorem J6{s:Nat}{w:By}(h:ms[i]?=some t):bc (ms.set i (t.iX s w))=(bc ms).set i (t.m.b.vals.set s w):=by
 unfold bc;rw[map_set]
 congr 1
 show(t.m.iX s w).b.vals=_;rw[MM.Me]
theorem cP.HJ{D:Addr}(h:cP L D ms):∀v∈bc ms,sk v:=λv hv=>by refine ai (List.mem_map.mp hv) λt ht aw=>?_;refine av (Eq.symm aw) ?_;have b:=(h.ok t ht).base;exact(m_ b.len t.m.b.size b.s0 b.s1 b.each)
theorem mV(ok:∀t∈ms,t.m.Inv){p:List Int×V}(hp:p∈bH (bc ms)):∃(a s:Nat)(t:MT)(o:By),p=([(a:Int),(s:Int)],.bytes o)/\ms[a]?=some t/\t.m.b.vals[s]?=some o/\(o.length:Int)=t.m.b.size/\s<12:=by
 refine lL (s_ (k:=p.1) (x:=p.2) hp) λa s v o h1 h2 h3 h4=>?_;obtain⟨k,x⟩:=p;simp only at h1 h4;subst h1;subst h4;unfold bc at h2;rw[getElem?_map] at h2
 lk
 refine ai (Option.map_eq_some_iff.mp h2) λt ht aw=>?_;subst aw;have b:=(ok t (mem_of_getElem? ht)).base;exact(Bx a s t o rfl ht h3 (b.each o (mem_of_getElem? h3)) (aa ⟨2,0,[.bg 0 1,.aS 1 12],.aJ 0 12⟩ ((gS h3).1) b.len))
theorem Jk{b:MB}(B:nL b){s:Nat}(hn:b.number=i)(hs:s<b.vals.length)(o0:0<=off)(o1:off<b.size):gu b (bD i s b.size+off)=.tup [.int s,.int off]:=by have h0:=B.s0;have h1:=B.s1;refine fq (sJ (i:=i) (s:=s) (w:=b.size) (off:=off) (aa eF) (aa eF) (aa ⟨2,0,[.bg 0 1,.aS 1 12],.fp 0 12⟩ hs B.len) h0 h1 o0 (aa EI o1 (show b.size<cX b.size by have zz:=kJ h0 h1;exact aa yC h1 zz))) λp1 p2 p3=>?_;unfold gu;rw[p1,p2,p3,if_pos ⟨hn.symm,aa eF,aa Gk hs,o1⟩]
theorem J7{b:MB}(B:nL b){s:Nat}(hs:s<12):gu b (bD i s b.size+b.size)=.none:=by have h0:=B.s0;have h1:=B.s1;refine fq (sJ (i:=i) (s:=s) (w:=b.size) (off:=b.size) (aa eF) (aa eF) (aa EM hs) h0 h1 (aa gW h0) (show b.size<cX b.size by have zz:=kJ h0 h1;exact aa yC h1 zz)) λp1 p2 p3=>?_;unfold gu;rw[p3,if_neg λz=>Int.lt_irrefl _ z.2.2.2]
theorem AO(hn:Num ms){s:Nat}(hj:ms[j]?=some t)(zt:j≠i)(h0:1<=w)(h1:w<=16)(hs:s<12)(o0:0<=off)(o1:off<cX w):gu t.m.b (bD i s w+off)=.none:=by refine fq (sJ (i:=i) (s:=s) (w:=w) (off:=off) (aa eF) (aa eF) (aa EM hs) h0 h1 o0 o1) λp1 p2 p3=>?_;refine Jj ?_;simp only[p1,hn j t hj];exact aa ⟨2,0,[.no (.aA 0 1)],.no (.lj 1 0)⟩ zt
theorem lO{D:Addr}(hD:ap R D (.di (vK (bq ms)) n))(bz:ms.length<=4)(ok:∀t∈ms,t.Ok):cP (bw ms R) D ms:=⟨⟨n,hD.g6 ms⟩,Ma ok,λt ht=>(ok t ht).1,bz⟩
theorem tj{a s:Nat}(h:(o.length:Int)=w):hW (fF ([(a:Int),(s:Int)],.bytes o))=.tup [.int (bD a s w),.int (bD a s w+w),.int a,.int s]:=by show V.tup [.int (bD a s (o.length:Int)),.int (bD a s (o.length:Int)+(o.length:Int)),.int a,.int s]=_;rw[h]
theorem Mj{i x:Int}(h0:1<=w)(h1:w<=16)(e1:kY x=i)(e2:ix x w=s):bD i s w<=x:=by
 subst e1;subst e2;unfold kY ix bD;have hT:cX w=16\/cX w=24:=by have zz:=kJ h0 h1;exact aa EH zz
 generalize cX w=T at hT
 have HM:0<T:=aa EF hT;rw[fdiv_eq_ediv_of_nonneg _ (by decide),fmod_eq_emod_of_nonneg _ (by decide),fdiv_eq_ediv_of_nonneg _ (le_of_lt HM)];have z0:=pM (a:=x-16777216) (k:=1048576) (by decide);rw[mul_comm _ T];exact aa ⟨0,6,[.an (.ak 0 0) (.an (.cj 0 1) (.ez (.cA 2 0) .v3)),.an (.ak 0 3) (.an (.bh 3 1048576) (.ez (.a (.m 1048576 .v4) .v3) (.dK 5 16777216)))],.lz (.a (.a (.k 16777216) (.m 1048576 .v4)) .v2) .v5⟩ (pM (a:=(x-16777216)%1048576) (k:=T) HM) (pM (by decide))
theorem J8(ok:∀t∈ms,t.m.Inv)(hn:Num ms)(nW:(bH (bc ms)).Pairwise λp p'=>mu p<(fF p').1){p:List Int×V}(hp:(bH (bc ms))[0]?=some p):∀t∈ms,gu t.m.b ((fF p).1-1)=.none:=by
 intro t ht;refine xE (getElem?_of_mem ht) λj hj=>?_;have B:=(ok t ht).base;unfold gu;rw[if_neg];intro zz;refine yl zz λh1 h2 h3 h4=>?_;rw[hn j t hj] at h1;obtain⟨s,hs⟩:=Int.eq_ofNat_of_zero_le h2;rw[hs] at h3;have kC:=Mj B.s0 B.s1 h1 hs
 have hv:t.m.b.vals[s]?=some t.m.b.vals[s]!:=by have:s<t.m.b.vals.length:=aa EN h3;rw[gE this,List.getElem!_eq_getElem?_getD,gE this];rfl
 generalize t.m.b.vals[s]! =o at hv
 have gx:bL (bH (bc ms)) [(j:Int),(s:Int)]=some (.bytes o):=by rw[qs,(show(bc ms)[j]?=some t.m.b.vals by unfold bc;rw[getElem?_map,hj];rfl)];show((t.m.b.vals[s]?).map V.bytes)=_;rw[hv];rfl
 unfold bL at gx;refine ai (Option.map_eq_some_iff.mp gx) λpr oy hx=>?_
 have hk:decide (pr.1=[(j:Int),(s:Int)])=true:=by have:=find?_some oy;exact this
 have hb:(fF pr).1=bD j s t.m.b.size:=by rw[(show pr=([(j:Int),(s:Int)],.bytes o) by rw[←(of_decide_eq_true hk),←hx])];show bD j s (o.length:Int)=_;rw[(B.each o (mem_of_getElem? hv))]
 obtain⟨i,hi⟩:=getElem?_of_mem (List.mem_of_find?_eq_some oy);by_cases h0:i=0
 ·subst h0;rw[hp] at hi;obtain rfl:=Option.some.inj hi;exact aa ⟨0,2,[.lz .v0 (.dK 1 1),.bM 1 0],.ff⟩ kC hb
 ·have h5:=(gS hi);obtain⟨h6,h7⟩:=h5;obtain⟨h9,UA⟩:=((gS hp));have:=List.pairwise_iff_getElem.mp nW 0 i h9 h6 (aa ⟨1,0,[.no (.d7 0 0)],.lh 0 0⟩ h0);rw[h7,UA] at this
  have ku:(fF p).1<=mu p:=Es (λv hv=>by refine ai (List.mem_map.mp hv) λt' lH aw=>?_;subst aw;have b:=(ok t' lH).base;exact(m_ b.len t'.m.b.size b.s0 b.s1 b.each)) (mem_of_getElem? hp)
  exact aa ⟨0,4,[.lz .v0 (.dK 1 1),.bM 2 0,.cj 3 2,.bS 1 3],.ff⟩ kC hb this ku
inductive Tb:HL->Prop
 |head{c L}:(∀Z w o,c.is Z w o->∃ps,o=tabObj ps)->Tb ((1050,.p c)::L)
 |tail{p L:_}:Tb L->Tb (p::L)
theorem UB:∀Z w o,fc.is Z w o->∃ps,o=tabObj ps:=λZ U U h=>⟨_,h Z (.refl _)⟩
theorem UC:∀Z w o,GK.is Z w o->∃ps,o=tabObj ps:=λZ U U h=>h Z (.refl _)
variable{A:Addr}{nD:Nat}
section
variable{L:HL}{D:Addr}{N:Nat}
theorem PL(W:PG G){c0 c1:Addr}{v0 v1:Option V}(h:wp (cx G dp) y5 [mP] ⟨[],[v0,v1]⟩ .ev L (λU U=>False) (λM=>M=L))(q:Q (.bool true) L):Sp G 1060 (dp+2) [.ref f] (L++fN (iZ 0) ((["maps","end"]:List Str).zip [c0,c1]) f [c0,c1] [v0,v1]) (λv M=>∃M',M=M'++fN (iZ 0) ((["maps","end"]:List Str).zip [c0,c1]) f [c0,c1] [v0,v1]/\Q v M') E:=B1 W (.bE .head) λQ' E' hq=>(PJ (dp:=dp) W h).mono (λv M h=>by obtain⟨_,_,h⟩:=h;exact h.elim) λM h=>hq M (by obtain⟨M',qg,rfl⟩:=h;exact(ah _ qg q))
theorem PM(W:PG G){c0 c1:Addr}{v0 v1:Option V}(h:wp (cx G dp) y6 [mP] ⟨[],[v0,v1]⟩ .ev L (λU U=>False) (λM=>M=L))(q:Q (.bool true) L):Sp G 1060 (dp+2) [.ref f] (L++fN (iZ 1) ((["spans","maps"]:List Str).zip [c0,c1]) f [c0,c1] [v0,v1]) (λv M=>∃M',M=M'++fN (iZ 1) ((["spans","maps"]:List Str).zip [c0,c1]) f [c0,c1] [v0,v1]/\Q v M') E:=B1 W (.bE .head) λQ' E' hq=>(PK (dp:=dp) W h).mono (λv M h=>by obtain⟨_,_,h⟩:=h;exact h.elim) λM h=>hq M (by obtain⟨M',qg,rfl⟩:=h;exact(ah _ qg q))
theorem Mk(W:PG G)(hN:N<700000)(hD:ap R D (.di (vK (bq ms)) nD))(bz:ms.length<=4)(hn:Num ms)(ok:∀t∈ms,t.Ok)(hA:ap R A (.list (ms.map λt=>e9 t.m)))(q:∀M,Tb M->Q (.bool true) M):Sp G 1053 (dp+8) [.ref p,.ref D,.ref A] ((p,bO N)::(1050,.p fc)::bw ms R) Q E:=by
 have hM:cP (bw ms R) D ms:=lO hD bz ok
 have eX:(bH (bc ms)).length<=48:=by exact aa yE bz (ta hM.uZ) (show(bc ms).length=ms.length by unfold bc;simp)
 have nW:(bH (bc ms)).Pairwise λp p'=>mu p<(fF p').1:=(A3 (bc ms) 0 hM.HJ).1;refine H6 W (λsp=>⟨kF,oQ W hM.cons.cons.cons λr nr=>(pD (bx.dict W.B .head) (λU U U U=>True) (λk U U U=>(r,.dt (bH (bc ms)) nr)::(sp,.list ((((bH (bc ms)).take k).map fF).map hW))::(p,bO N)::(1050,.p fc)::bw ms R) (λU v3 v4 v5=>⟨[some (.ref p),some (.ref A),some (.ref r),v3,v4,v5,none,none,none,none,none],[some (.ref D),none,some (.ref sp)]⟩) _ _ _ trivial rfl rfl ?_ ?_)⟩)
 ·intro k v3 v4 v5 x hx _
  have hi:∃pr,(bH (bc ms))[k]?=some pr/\x=eG pr.1:=by unfold cD at hx;rw[map_map,getElem?_map] at hx;refine ai (Option.map_eq_some_iff.mp hx) λpr hp aw=>?_;refine av (Eq.symm aw) ?_;exact(ah pr hp rfl)
  refine gT λzP zk=>?_;obtain⟨pr,oy,rfl⟩:=hi;obtain⟨a,s,t,o,rfl,ht,hv,ho,hs⟩:=mV hM.ok (mem_of_getElem? oy);have B:=(hM.ok t (mem_of_getElem? ht)).base;have b0:=B.s0;have b1:=B.s1;have rd:=(hM.has t (mem_of_getElem? ht)).rd
  have iB:cy (ms.map λt=>e9 t.m) (a:Int)=some (e9 t.m):=by unfold cy;rw[if_pos ⟨aa eF,aa ⟨2,0,[.aS 0 4,.bg 1 0],.fp 1 1000000⟩ bz ((gS ht).1)⟩,toNat_natCast,getElem?_map,ht];rfl
  have gx:bL (bH (bc ms)) [(a:Int),(s:Int)]=some (.bytes o):=by rw[qs,(show(bc ms)[a]?=some t.m.b.vals by unfold bc;rw[getElem?_map,ht];rfl)];show((t.m.b.vals[s]?).map V.bytes)=_;rw[hv];rfl
  refine zk ?_;refine(bj .head (mulL (by decide)) (a_.list (.tail (.tail (.tail (.tail (hA.g6 ms:ap (bw ms R) A (.list (ms.map λt=>e9 t.m))))))) iB ⟨_,rfl,by decide,pY (by decide),kj (by decide),kj (by show(cX t.m.b.size).natAbs<_;exact aa ⟨0,1,[.an (.aL 0 24) (.ak 0 0)],.tn (.b .v0) (.k 18446744073709551616)⟩ (show cX t.m.b.size<=24/\0<=cX t.m.b.size by have zz:=kJ b0 b1;exact aa ⟨0,2,[.oo (.an (.be 0 16) (.aL 1 8)) (.an (.be 0 24) (.c_ 8 1))],.an (.aL 0 24) (.ak 0 0)⟩ zz)),?_⟩));refine hM.cons.cons.cons.cons.at ht (ax.inst W.B (.tail (.tail (.tail (.tail rd.obj)))) (MM.ok _).mc.cls (MM.ok _).L9 (aQ (MM.cF _ _) rfl rfl) ⟨kF,JX W (MM.ok _).mc (.tail (.tail (.tail (.tail rd.obj)))) (aa gW b0) (aa rk b1) ?_⟩);rw[hn a t ht];refine⟨λh=>?_,λU=>ax.append (.tail .head) ((a_.dt (k:=[(a:Int),(s:Int)]) .head gx (br.po (aa uI ho b1) (br.append (xs:=(((bH (bc ms)).take k).map fF).map hW) (.tail .head) (by simp;exact aa ⟨3,0,[.aS 0 48,.oo (.an (.bY 1 0) (.aA 2 1)) (.an (.no (.bY 1 0)) (.aA 2 0))],.aJ 2 1000000⟩ eX eK) ⟨(_,_,_),trivial,?_,rfl⟩))))⟩
  ·have h:(bD a s t.m.b.size != bD a s t.m.b.size)=true:=h;simp at h
  ·dsimp only;rw[take_add_one,oy,map_append,map_append];show _=_::(sp,Cl.list (_++[V.tup [.int (bD a s (o.length:Int)),.int (bD a s (o.length:Int)+(o.length:Int)),.int a,.int s]]))::_;rw[ho];rfl
 ·intro v3 v4 v5 _;refine gT λzP zk=>?_
  have Sq:((bH (bc ms)).map fF).Pairwise λp p'=>p.1<p'.1:=by rw[List.pairwise_map];refine List.Pairwise.imp_of_mem (λ{x y} hx hy h=>?_) nW;have:=Es hM.HJ hx;exact aa ⟨0,3,[.cj 0 1,.bS 2 0],.cj 2 1⟩ h this
  have qh:(((bH (bc ms)).map fF).map hW).length=(bH (bc ms)).length:=by simp
  have hT:∀(i:Nat)(pr:List Int×V),(bH (bc ms))[i]?=some pr->cy (((bH (bc ms)).map fF).map hW) (i:Int)=some (hW (fF pr)):=λi pr h=>by have:=(gS h).1;unfold cy;rw[if_pos ⟨aa eF,aa ⟨2,0,[.aS 0 48,.bg 1 0],.fp 1 1000000⟩ eX this⟩,toNat_natCast,getElem?_map,getElem?_map,h];rfl
  have ht:(bH (bc ms)).take ((cD eG (bH (bc ms))).map (·.1)).length=bH (bc ms):=by rw[(show((cD eG (bH (bc ms))).map (·.1)).length=(bH (bc ms)).length by unfold cD;simp),take_length]
  refine zk ?_;refine av ht ?_;refine⟨.head,(br.Mh (ts:=(bH (bc ms)).map fF) (.tail .head) (by simp;exact aa ⟨1,0,[.aS 0 48],.aJ 0 64⟩ eX) Sq λS=>?_)⟩;refine((br.pn .head (by rw[qh];exact aa EO eX) (bd.range (zV (bx.rA (by rw[qh];exact aa ⟨1,0,[.aS 0 48],.tz (.mv 0 1) (.k 1000000000000)⟩ eX) (aa ⟨1,0,[],.tz (.k (-1000000000000)) (.mv 0 1)⟩)) ?_ ?_))))
  ·intro j x hx;refine gT λzP zk=>?_;obtain⟨i,hy,rfl⟩:=List.mem_map.mp (mem_of_getElem? hx);have hi:(i:Int)<(((bH (bc ms)).map fF).map hW).length-1:=yZ (getElem?_range (List.mem_range.mp hy));rw[qh] at hi;have g0:=gE (l:=bH (bc ms)) (i:=i) (aa EP hi);have g1:=gE (l:=bH (bc ms)) (i:=i+1) (aa EQ hi);have aT:=List.pairwise_iff_getElem.mp nW i (i+1) (aa EP hi) (aa EQ hi) (aa EL);obtain⟨a0,s0,t0,o0,e0,-,-,h0,-⟩:=mV hM.ok (mem_of_getElem? g0);obtain⟨a1,s1,t1,o1,e1,-,-,h1,-⟩:=mV hM.ok (mem_of_getElem? g1);have qi:=hT _ _ g0;have HN:=hT _ _ g1;rw[e0,tj h0] at qi;rw[e1,tj h1] at HN
   have aT:bD a0 s0 t0.m.b.size+t0.m.b.size<bD a1 s1 t1.m.b.size:=by rw[e0,e1] at aT;have aT:bD a0 s0 (o0.length:Int)+(o0.length:Int)<bD a1 s1 (o1.length:Int):=aT;rwa [h0,h1] at aT
   refine zk ?_;refine⟨trivial,a_.list .head qi (ah _ rfl (a_.list .head HN ⟨_,rfl,λh=>?_,λU=>⟨rfl,rfl⟩⟩))⟩;have:=of_decide_eq_true h;exact(aa ⟨0,3,[.tz (.cA 0 1) .v2,.lz .v2 (.cA 0 1)],.ff⟩ aT this).elim
  ·refine⟨trivial,λl1=>(λl2=>aV.zD (xs:=[]) (.tail .head) .head (λx h=>by cases h) (iF (λl3=>?_)))⟩;by_cases HO:bH (bc ms)=[]
   ·rw[HO];exact aV.zC (xs:=[]) (.tail (.tail (.tail .head))) .head (λx h=>by cases h) (iT (q _ (by repeat first|exact .head UB|apply Tb.tail)))
   ·have uS:0<(bH (bc ms)).length:=List.length_pos_iff.mpr HO;refine aV.Ff (.tail (.tail (.tail .head))) .head (by rw[qh];show _≠0;exact aa ⟨1,0,[.lh 0 0],.no (.d7 0 0)⟩ uS) (iF ⟨kF,ue W (aa ⟨1,0,[.aJ 0 700000],.aJ 0 1000000⟩ hN) (.tail (.tail (.tail (.tail (.tail (.tail .head)))))) (.tail (.tail (.tail .head))) (.tail (.tail (.tail .head))) (by rw[qh];exact uS) (by rw[qh];exact aa ⟨1,0,[.aS 0 48],.aJ 0 900⟩ eX) λv hv=>?_⟩);refine gT λzP zk=>?_;obtain⟨u,hu,e1⟩:=List.mem_map.mp hv;obtain⟨pr,oy,e2⟩:=List.mem_map.mp hu;obtain⟨a,s,t,o,e3,ht,hv,ho,hs⟩:=mV hM.ok oy;have mI:=mem_of_getElem? ht;have B:=(hM.ok t mI).base;have b0:=B.s0;have b1:=B.s1;have rd:=(hM.has t mI).rd;have cB:=(gS ht).1;have fV:=(gS hv).1;have z7:=hn a t ht;refine zk ?_;refine av (show v=.tup [.int (bD a s t.m.b.size),.int (bD a s t.m.b.size+t.m.b.size),.int a,.int s] by rw[←e1,←e2,e3];exact tj ho) ?_;refine⟨kF,iw W (N:=N+1) (aa ⟨1,0,[.aJ 0 700000],.tn (.aj 0 1) (.k 1000000)⟩ hN) (.tail (.tail (.tail (.tail (.tail (.tail .head)))))) (aa ⟨0,2,[.ak 1 0],.tz (.k 0) (.s (.cA 1 0) .v1)⟩ b0) (aa ⟨0,2,[.aL 0 16],.tz (.s (.cA 1 0) .v1) (.k 1000000)⟩ b1) λoff o0 o1=>?_⟩;have o1:off<t.m.b.size:=aa ⟨0,3,[.tz .v0 (.s (.cA 1 2) .v1)],.cj 0 2⟩ o1;have jh:t.m.b.size<cX t.m.b.size/\cX t.m.b.size<=24:=by have zz:=kJ b0 b1;exact aa ⟨0,2,[.aL 0 16,.oo (.an (.be 1 16) (.aL 0 8)) (.an (.be 1 24) (.c_ 8 0))],.an (.cj 0 1) (.aL 1 24)⟩ b1 zz
    refine⟨kF,Mi (dp:=dp+3) W (hM.cons.cons.cons.cons.cons.cons.cons.cons) ht (Jk B z7 fV o0 o1) (λj t' hj lH=>AO hn lH (aa FK hj) b0 b1 hs o0 (aa ⟨0,3,[.cj 0 1,.an (.cj 1 2) (.aL 2 24)],.cj 0 2⟩ o1 jh)) ?_⟩;refine jn W (MM.ok t.m).mc (.tail (.tail (.tail (.tail (.tail (.tail (.tail (.tail rd.obj)))))))) ?_;rw[z7]
    have lx:16777216<=bD a s t.m.b.size/\bD a s t.m.b.size<16777216+1048576*4+1000:=by unfold bD;exact aa ⟨3,3,[.aS 0 4,.aJ 1 12,.bg 2 0,.oo (.an (.be 0 16) (.an (.aL 1 8) (.ez .v2 (.w .c1 16)))) (.an (.be 0 24) (.an (.c_ 8 1) (.ez .v2 (.w .c1 24))))],.an (.lz (.k 16777216) (.a (.a (.k 16777216) (.m 1048576 .c2)) .v2)) (.tz (.a (.a (.k 16777216) (.m 1048576 .c2)) .v2) (.a (.a (.k 16777216) (.m 1048576 (.k 4))) (.k 1000)))⟩ bz hs cB (sS (s:=s) b0 b1)
    refine⟨λU=>⟨λU=>⟨λU=>⟨kF,Kz W (aa ⟨0,2,[.ak 0 0,.an (.ak 16777216 1) (.tz .v1 (.a (.a (.k 16777216) (.m 1048576 (.k 4))) (.k 1000)))],.lz (.k 16777216) (.cA 1 0)⟩ o0 lx) (aa ⟨0,4,[.cj 0 1,.an (.cj 1 2) (.aL 2 24),.an (.ak 16777216 3) (.tz .v3 (.a (.a (.k 16777216) (.m 1048576 (.k 4))) (.k 1000)))],.tz (.cA 3 0) (.k 1879048192)⟩ o1 jh lx) λal=>aV.zE (iF ?_)⟩,λh=>?_⟩,λh=>?_⟩,λh=>?_⟩
    rotate_left
    ·have h:(off != bD a s t.m.b.size+off-bD a s t.m.b.size)=true:=h;have e:bD a s t.m.b.size+off-bD a s t.m.b.size=off:=aa EJ;rw[e] at h;simp at h
    ·have h:((s:Int) != (s:Int))=true:=h;simp at h
    ·have h:((a:Int) != (a:Int))=true:=h;simp at h
    obtain⟨UZ,UD⟩:=hM.dict;refine(CY (some (.ref D)) (some (.int (bD a s t.m.b.size+t.m.b.size))) (some (.ref S)) rfl _ (.tail (.tail (.tail (.tail (.tail (.tail (.tail (.tail .head)))))))) ?_);intro c0 c1 c2 f;refine PL (dp:=dp+5) W ⟨kF,AE (dp:=dp+1) W (hM.cons.cons.cons.cons.cons.cons.cons.cons.cons) (λt' lH=>?_) rfl⟩ ?_
    ·obtain⟨j,hj⟩:=getElem?_of_mem lH;by_cases e:j=a
     ·subst e;rw[ht] at hj;refine av (Eq.symm (Option.some.inj hj)) ?_;exact J7 B hs
     ·exact AO hn hj e b0 b1 hs (aa gW b0) jh.1
    refine⟨λU=>?_,λh=>no h⟩;refine(CY (some (.ref D)) (some (.int (bD a s t.m.b.size+t.m.b.size))) (some (.ref S)) rfl _ (.tail (.tail (.tail (.tail (.tail (.tail (.tail (.tail .head)))))))) ?_);intro c0 c1 c2 f;have g0:=gE uS;obtain⟨a0,s0,t0,HQ,e0,-,-,HR,-⟩:=mV hM.ok (mem_of_getElem? g0);have qi:=hT _ _ g0;have GS:=J8 hM.ok hn nW g0;rw[e0] at GS qi;rw[tj HR] at qi;refine PM (dp:=dp+5) W ⟨kF,a_.list (.tail (.tail (.tail (.tail .head)))) qi (ah _ rfl (AE (dp:=dp+1) W (hM.cons.cons.cons.cons.cons.cons.cons.cons.cons) (λt' lH=>?_) rfl))⟩ ?_
    ·have:=GS t' lH
     have e:(fF ([(a0:Int),(s0:Int)],.bytes HQ)).1=bD a0 s0 t0.m.b.size:=by show bD a0 s0 (HQ.length:Int)=_;rw[HR]
     rw[e] at this;exact this
    refine iF ?_;have HS:s<t.x.bs.length:=by have:=rd.len;exact aa uF fV this
    refine⟨kF,iw W (N:=N+2) (aa ⟨1,0,[.aJ 0 700000],.tn (.aj 0 2) (.k 1000000)⟩ hN) (.tail (.tail (.tail (.tail (.tail (.tail (.tail .head))))))) (by decide) (by decide) λoc HT HU=>⟨kF,Mg W λme rl=>ax.inst W.B .head kL (mF 266) (nM rfl) ⟨kF,NQ (dp:=dp) W B .head (.tail (.tail (.tail (.tail (.tail (.tail (.tail (.tail (.tail (.tail (.tail UD))))))))))) (by unfold bq;rw[getElem?_map,ht];rfl) (hM.has t mI).cons.cons.cons.cons.cons.cons.cons.cons.cons.cons.cons z7 (gE HS) hv o0 o1 HT HU (.tail (.tail (.tail (.tail (.tail (.tail (.tail (.tail (.tail (.tail (.tail (Bo ht (gE HS) hv)))))))))))) ?_⟩⟩⟩
    have gx:bL (bH (bc ms)) [(a:Int),(s:Int)]=some (.bytes o):=by rw[qs,(show(bc ms)[a]?=some t.m.b.vals by unfold bc;rw[getElem?_map,ht];rfl)];show((t.m.b.vals[s]?).map V.bytes)=_;rw[hv];rfl
    refine(a_.dt (k:=[(a:Int),(s:Int)]) (.tail (.tail (.tail (.tail (.tail (.tail (.tail .head))))))) gx λi1=>a_.Tw .head (aa uI ho b1) o0 ((λl5=>bd.n7 (ns:=[oc]) .head (λn hn=>by obtain rfl:=List.mem_singleton.mp hn;exact⟨HT,HU⟩) (by show(1:Nat)<1000000;decide) (da.GE ?_ (a_.dt (k:=[(a:Int),(s:Int)]) (.tail (.tail (.tail (.tail (.tail (.tail (.tail (.tail (.tail .head))))))))) gx λi2=>a_.Tx .head (aa uI ho b1) (aa yw o0) (da.GE ?_ (?_)))))))
    ·have h1:(gy [oc]).length=1:=rfl;rw[length_take,h1];exact aa ⟨2,3,[.dP 0 0,.an (.cj 0 1) (.aL 1 24),.oo (.an (.ln (.t .v2) .v0) (.en .v1 (.t .v2))) (.an (.no (.ln (.t .v2) .v0)) (.aA 1 0))],.tn (.aj 1 1) (.k 1000000)⟩ ho jh eK
    ·have h1:(gy [oc]).length=1:=rfl;rw[length_append,length_take,length_drop,h1];exact aa ⟨2,2,[.dP 0 0,.aL 0 16,.oo (.an (.ln (.t .v1) .v0) (.en .v1 (.t .v1))) (.an (.no (.ln (.t .v1) .v0)) (.aA 1 0))],.tn (.a (.aj 1 1) (.s .v0 (.t (.aj 1 1)))) (.k 1000000)⟩ ho b1 eK
    have GT:=KT (vv:=bc ms) (a:=a) (s:=s) (v:=t.m.b.vals) (o:=o.take off.toNat++gy [oc]++o.drop (off+1).toNat) (by unfold bc;rw[getElem?_map,ht];rfl) fV;rw[←J6 ht] at GT
    have UE:bq (ms.set a (t.iX s (o.take off.toNat++gy [oc]++o.drop (off+1).toNat)))=bq ms:=by
     unfold bq;rw[map_set];refine ext_getElem? λi=>?_;rw[getElem?_set]
     split
     ·rename_i h
      refine av (Eq.symm h) ?_;rw[if_pos (by rw[length_map];exact cB),getElem?_map,ht];rfl
     ·rfl
    have qg:cP (bw (ms.set a (t.iX s (o.take off.toNat++gy [oc]++o.drop (off+1).toNat))) R) D (ms.set a (t.iX s (o.take off.toNat++gy [oc]++o.drop (off+1).toNat))):=by
     refine lO (n:=nD) (by rw[UE];exact hD) (by rw[length_set];exact bz) λt' lH=>?_;rcases mem_or_eq_of_mem_set lH with h|rfl
     ·exact ok t' h
     ·refine⟨MM.J4 (ok t mI).1 ?_,MM.KQ (ok t mI).2 ..⟩;rw[length_append,length_append,length_take,length_drop,(rfl:(gy [oc]).length=1)];exact aa ⟨2,3,[.dP 0 0,.ak 0 1,.tz .v1 (.s (.cA 2 0) .v2),.oo (.an (.ln (.t .v1) .v0) (.en .v1 (.t .v1))) (.an (.no (.ln (.t .v1) .v0)) (.aA 1 0))],.ez (.c (.a (.aj 1 1) (.s .v0 (.t (.aj 1 1))))) .v0⟩ ho o0 (by assumption) eK
    refine dC.dt (k:=[(a:Int),(s:Int)]) (kvs:=bH (bc ms)) (n:=nr) (λn3=>.tail (.tail (.tail (.tail (.tail (.tail (.tail (.tail (.tail (.tail .head)))))))))) (aa EO eX) λn3=>?_;rw[GT];refine⟨kF,oQ W qg.cons.cons.cons.cons.cons.cons.cons.cons.cons.cons.cons.cons.cons.cons λr2 n2=>aV.Sb W.B .head (.tail (.tail (.tail (.tail (.tail (.tail (.tail (.tail (.tail (.tail (.tail .head))))))))))) (λp hp=>?_) (q _ (by repeat first|exact .head UC|apply Tb.tail))⟩;obtain⟨a',s',t',o',rfl,-⟩:=mV qg.ok hp
    trivial
end
theorem Bq:∀{l:List α}{i:Nat}{t:α},l[i]?=some t->l.Perm (t::l.eraseIdx i)
 |[],_,_,h=>by cases h
 |x::l,0,t,h=>by obtain rfl:x=t:=Option.some.inj h;exact .refl _
 |x::l,i+1,t,h=>by have:=Bq (l:=l) (i:=i) h;exact(this.cons x).trans (.swap ..)
theorem KU(h:ms[i]?=some t)(X:HL):(bw ms X).Perm (dZ t.m t.a t.x (bw (ms.eraseIdx i) X)):=vW (Bq h) X
theorem AP:∀(l:List α)(i:Nat)(t:α),(l.set i t).eraseIdx i=l.eraseIdx i
 |[],_,_=>rfl
 |x::l,0,t=>rfl
 |x::l,i+1,t=>by refine(?_:x::(l.set i t).eraseIdx i=x::l.eraseIdx i);rw[AP l i t]
theorem tb(h:ms[i]?=some t)(pre X:HL)(c:Addr×Cl):(pre++(c::bw ms X)).Perm (dZ t.m t.a t.x (c::(pre++bw (ms.eraseIdx i) X))):=by refine List.Perm.trans (List.Perm.append_left pre ((KU h X).cons c)) ?_;rw[kM t.m t.a t.x (bw _ _),kM t.m t.a t.x (c::_)];exact j8 [pre,[c],uY t.m t.a t.x,bw (ms.eraseIdx i) X] [0,1,2,3] [2,1,0,3] rfl
theorem KW(h:i<ms.length)(t:MT)(pre X:HL)(c:Addr×Cl):(dZ t.m t.a t.x (c::(pre++bw (ms.eraseIdx i) X))).Perm (pre++(c::bw (ms.set i t) X)):=by have:=tb (ms:=ms.set i t) (i:=i) (t:=t) (by rw[getElem?_set_self h]) pre X c;rw[AP] at this;exact this.symm
theorem MM.DH(m:MM):Pl 9 m.jE:=by
 have y7:∀(k:Str)(a b c d:Int)(v:V),Pl 8 v->Pl 9 (.tup [.str k,.int a,.int b,.int c,.int d,v]):=λk a b c d v h x hx=>by
  rcases List.mem_cons.mp hx with rfl|hx
  ·trivial
  rcases List.mem_cons.mp hx with rfl|hx
  ·trivial
  rcases List.mem_cons.mp hx with rfl|hx
  ·trivial
  rcases List.mem_cons.mp hx with rfl|hx
  ·trivial
  rcases List.mem_cons.mp hx with rfl|hx
  ·trivial
  refine uu (List.mem_singleton.mp hx) ?_;exact h
 have two:∀(b:By)(v:V),Pl 6 v->Pl 7 (.tup [.bytes b,v]):=λb v h x hx=>by
  rcases List.mem_cons.mp hx with rfl|hx
  ·trivial
  refine uu (List.mem_singleton.mp hx) ?_;exact h
 cases m with
 |A k m=>
  refine y7 _ _ _ _ _ _ λx hx=>?_;refine ai (List.mem_map.mp hx) λkey U aw=>?_;refine av (Eq.symm aw) ?_;refine two _ _ ?_
  cases k
  ·show Pl 6 (h_ .arr m key);unfold h_;split<;>trivial
  ·show Pl 6 (jD m key);unfold jD
   split
   ·trivial
   ·intro x hx;refine ai (List.mem_map.mp hx) λp U aw=>?_;refine av (Eq.symm aw) ?_
    trivial
 |H k m=>refine y7 _ _ _ _ _ _ λx hx=>?_;refine ai (List.mem_map.mp hx) λkey U aw=>?_;refine av (Eq.symm aw) ?_;refine two _ _ ?_;unfold pG;split<;>trivial
 |Q m=>
  refine y7 _ _ _ _ _ _ λx hx=>?_;refine ai (List.mem_map.mp hx) λkey U aw=>?_;refine av (Eq.symm aw) ?_
  trivial
theorem wd(ms:List MT):∀x∈eZ ms,Pl 9 x:=λx hx=>by refine ai (List.mem_map.mp hx) λt U aw=>?_;refine av (Eq.symm aw) ?_;exact t.m.DH
theorem MM.KY{m:MM}(I:m.Inv)(h:(m.b.kind==("rows":Str))=true):∃b,m=.A .rows b:=by
 have h:=eq_of_beq h
 cases m with
 |A k m=>
  have I:cM k m:=I;have e:k.kind="rows":=I.kind.symm.trans h
  cases k
  ·have:(AK.arr.kind==("rows":Str))=true:=by rw[e];rfl
   exact no this
  ·exact(iE m rfl)
 |H k m=>
  have e:k.kind="rows":=(I:cq k m).kind.symm.trans h
  cases k
  ·have:(HK.hash.kind==("rows":Str))=true:=by rw[e];rfl
   exact no this
  ·have:(HK.bG.kind==("rows":Str))=true:=by rw[e];rfl
   exact no this
 |Q m=>
  have I:cm m:=I;have h:m.b.kind="rows":=h
  rcases I.kind with e|e
  ·have:(("queue":Str)==("rows":Str))=true:=by rw[←e,h];rfl
   exact no this
  ·have:(("stack":Str)==("rows":Str))=true:=by rw[←e,h];rfl
   exact no this
theorem MM.J9{m:MM}(I:m.Inv)(h:(m.b.kind==("array":Str))=true):∃b,m=.A .arr b:=by
 have h:=eq_of_beq h
 cases m with
 |A k m=>
  have I:cM k m:=I;have e:k.kind="array":=I.kind.symm.trans h
  cases k
  ·exact(iE m rfl)
  ·have:(AK.rows.kind==("array":Str))=true:=by rw[e];rfl
   exact no this
 |H k m=>
  have e:k.kind="array":=(I:cq k m).kind.symm.trans h
  cases k
  ·have:(HK.hash.kind==("array":Str))=true:=by rw[e];rfl
   exact no this
  ·have:(HK.bG.kind==("array":Str))=true:=by rw[e];rfl
   exact no this
 |Q m=>
  have I:cm m:=I;have h:m.b.kind="array":=h
  rcases I.kind with e|e
  ·have:(("queue":Str)==("array":Str))=true:=by rw[←e,h];rfl
   exact no this
  ·have:(("stack":Str)==("array":Str))=true:=by rw[←e,h];rfl
   exact no this
def fC(ms:List MT)(k:Int):V:=((ms[k.toNat]?).map λt=>t.m.jE).getD .none
theorem KZ(ms:List MT)(k:Int):Pl 9 (fC ms k):=by
 unfold fC
 cases ms[k.toNat]? with
 |none=>trivial
 |some t=>exact t.m.DH
def dW(n i:Nat):List Int:=(fo n).filter λk=>k != (i:Int)
theorem we{k:Int}(h:k∈dW n i):∃j:Nat,k=j/\j<n/\j≠i:=by refine xA (List.mem_filter.mp h) λh1 h2=>?_;obtain⟨j,hj⟩:=getElem?_of_mem h1;obtain⟨rfl,hl⟩:=ti hj;refine(cz j rfl hl (λe=>?_));subst e;simp at h2
theorem wf:(dW n i).length<=n:=by exact le_trans (List.length_filter_le _ _) (by rw[oJ];exact Nat.le_refl _)
theorem A4(n i:Nat):dW (n+1) i=dW n i++(if n=i then [] else [(n:Int)]):=by
 unfold dW fo;simp only[range_succ,map_append,List.filter_append]
 congr 1
 by_cases h:n=i
 ·subst h;simp
 ·rw[if_neg h];have:((n:Int) != (i:Int))=true:=by simp;exact aa EE h
  show filter _ [(n:Int)]=_;rw[filter_cons,if_pos this];rfl
theorem J':∀k∈dW ms.length i,fC (ms.set i t) k=fC ms k:=λk hk=>by refine dD (we hk) λj cS hl dj=>?_;refine av cS ?_;unfold fC;rw[toNat_natCast,getElem?_set_ne (λh=>dj h.symm)]
def tZ:Sm:=(sq [.ite (.bo .Or (.ae (.d8 .Not n4) (.ae (.cmp .NotEq (.lc Aj (.var 4) .yes (.aC (.sub (.ao 0) (.var 0)) "told" .bT)) (.var 5)) (wa (.cmp .NotEq (.call jf (wa aX)) (.var 6)))))) (sq [.ret (.bool false)]) .nil,.asg (.ao 3) (.call iH (wa (.ao 0))),.ite (.cmp .NotEq (.lc Ai (.ao 2) (.bo .And (.ae (.cmp .NotEq (.sub af (.int 0)) (.ao 1)) (wa (.cmp .NotEq (.aC (.ao 3) "get" (wa af)) (.sub (.ao 2) (.var 0)))))) (.int 1)) (.lst .bT)) (sq [.ret (.bool false)]) .nil,.ret (.cmp .Eq (.lc Ah (.ao 3) (.bo .And (.ae (.cmp .NotEq (.sub af (.int 0)) (.ao 1)) (wa (.cmp .NotIn af (.ao 2))))) (.int 1)) (.lst .bT))])
variable{cs:List MT}
section
variable{L:HL}{D F O B rm:Addr}{N nr:Nat}{vv0:List LB}
theorem GU(h:cP L D ms)(hj:j<ms.length):fC ms j=(ms[j]'hj).m.jE:=by unfold fC;rw[toNat_natCast,gE hj];rfl
theorem NR(W:PG G)(hD:cP L D ms)(hF:cP L F cs)(hO:ap L O (.list ((dW ms.length i).map V.int)))(hB:ap L B (.list ((dW ms.length i).map (fC ms))))(so:ap L rm (.dt (bH vv0) nr))(sj:∀a,a≠i->(bc ms)[a]?=vv0[a]?)(Hy:(bH vv0).length<=48)(q:∀Gs,Q (.bool true) (Gs++L)):
  wpS (cx G (dp+7)) tZ (jV (kG G)).globs ⟨[some (.ref p),some v1,some (.ref F),some (.int w),some (.ref O),some (.ref B),some (.tup (eZ cs)),some (.bool true)],[some (.ref D),some (.int (i:Int)),some (.ref rm),none]⟩ L (gC Q) (λU=>E):=by
 have bz:=hD.len
 have eX:(bH (bc ms)).length<=48:=by exact aa yE bz (ta hD.uZ) (show(bc ms).length=ms.length by unfold bc;simp)
 have fX:∀vv:List LB,((cD eG (bH vv)).map (·.1)).length=(bH vv).length:=λvv=>by unfold cD;simp
 have ia:∀(vv:List LB)(k:Nat)(x:V),((cD eG (bH vv)).map (·.1))[k]?=some x->∃(a s:Nat)(v:LB)(o:By),x=.tup [.int a,.int s]/\vv[a]?=some v/\v[s]?=some o:=λvv k x hx=>by
  unfold cD at hx;rw[map_map,getElem?_map] at hx
  lk
  refine ai (Option.map_eq_some_iff.mp hx) λpr hp aw=>?_;subst aw;refine lL (s_ (k:=pr.1) (x:=pr.2) (mem_of_getElem? hp)) λa s v o h1 h2 h3 U=>?_;refine(wR a s v o ?_ h2 h3);show eG pr.1=_;rw[h1];rfl
 have gx:∀(vv:List LB)(a s:Nat)(v:LB)(o:By),vv[a]?=some v->v[s]?=some o->bL (bH vv) [(a:Int),(s:Int)]=some (.bytes o):=λvv a s v o h1 h2=>by rw[qs,h1];show((v[s]?).map V.bytes)=_;rw[h2];rfl
 refine⟨λU=>se (bx.list hO) (λj=>((dW ms.length i).take j).map (fC ms)) rfl ?_ ?_,λh=>no h⟩
 ·intro j x hx;rw[getElem?_map] at hx;refine ai (Option.map_eq_some_iff.mp hx) λk hk aw=>?_;refine av (Eq.symm aw) ?_;refine dD (we (mem_of_getElem? hk)) λa cS cB dj=>?_;subst cS;have z8:=gE cB;have cG:=getElem_mem cB;refine⟨hO,iT (hD.at z8 (ax.inst W.B (hD.has _ cG).rd.obj (MM.ok _).mc.cls (MM.ok _).jE (aQ (MM.cF _ _) rfl rfl) ⟨kF,tX (dp:=dp+1) W (hD.ok _ cG) (hD.has _ cG) (bj ?_ rfl ?_)⟩))⟩
  ·rw[length_map,length_take];exact aa ER bz (wf (n:=ms.length) (i:=i)) eK
  ·simp only[take_add_one,hk,map_append];show _=_++[fC ms (a:Int)];rw[GU hD cB]
 ·rw[length_map,take_length];refine⟨hO,λl1=>aV.zD .head (.tail hB) (λx hx=>?_) ⟨λU=>⟨kF,qm W hF.cons (aV.neT (wd cs) (iF ⟨kF,oQ W hD.cons λnw nn=>?_⟩))⟩,λh=>no h⟩⟩
  ·refine ai (List.mem_map.mp hx) λk U aw=>?_;refine av (Eq.symm aw) ?_;exact KZ ms k
  ·as_aux_lemma=>
   refine zV (bx.dict W.B (.tail (.tail so))) ?_ ?_
   ·intro j x hx;refine qC (ia _ _ _ hx) λa s v o g9 h1 h2=>?_;subst g9;refine⟨.tail (.tail so),_,rfl,λh=>?_,λh=>⟨λh'=>no h' h,λU=>⟨rfl,rfl⟩⟩⟩
    have dj:a≠i:=λe=>by subst e;have h:((a:Int) != (a:Int))=true:=h;simp at h
    refine ax.bL .head (br.l9 (k:=[(a:Int),(s:Int)]) W.B .head ?_);rw[(gx (bc ms) a s v o (by rw[sj a dj];exact h1) h2)];refine a_.dt (k:=[(a:Int),(s:Int)]) (.tail (.tail so)) (gx vv0 a s v o h1 h2) (aV.Tu ⟨λh=>?_,λU=>⟨rfl,rfl⟩⟩);have h:(o != o)=true:=h;simp at h
   ·refine⟨.tail (.tail so),λl2=>(λl3=>aV.zD (xs:=[]) (.tail .head) .head (λx h=>by cases h) (iF ?_))⟩;refine zV (bx.dict W.B (.tail (.tail .head))) ?_ ?_
    ·intro j x hx;refine qC (ia _ _ _ hx) λa s v o g9 h1 h2=>?_;subst g9;refine⟨.tail (.tail .head),_,rfl,λh=>?_,λh=>⟨λh'=>no h' h,λU=>⟨rfl,rfl⟩⟩⟩
     have dj:a≠i:=λe=>by subst e;have h:((a:Int) != (a:Int))=true:=h;simp at h
     refine aV.OT (k:=[(a:Int),(s:Int)]) W.B (.tail (.tail (.tail (.tail so)))) ?_;rw[gx vv0 a s v o (by rw[←sj a dj];exact h1) h2];exact iF ⟨rfl,rfl⟩
    ·exact⟨.tail (.tail .head),λl4=>(λl5=>aV.zC (xs:=[]) (.tail .head) .head (λx h=>by cases h) (q [_,_,_,_,_,_]))⟩
end
noncomputable def Ml:Sm:=(sq [.ite (.bo .And (.ae (.cmp .Eq bC (.int 0)) (wa (.cmp .Eq (.sub (.sub aB (.ao 1)) (.int 0)) (.str "array"))))) (sq [.asg (.var 7) (.call jI (.ae af (.ae (.sub (.ao 0) (.ao 1)) (wa (.sub aB (.ao 1))))))]) (sq [.ex (.call mz (.ae af (.ae (.sub (.ao 0) (.ao 1)) (wa (.sub aB (.ao 1))))))])])
structure Later(ms ms':List MT):Prop where
 ok:∀t∈ms',t.Ok
 num:Num ms'
 addrs:bq ms'=bq ms
 rows:(ms'.map λt=>e9 t.m)=ms.map λt=>e9 t.m
theorem AQ{β:Type}{f:α->β}{l:List α}{x y:α}(h:l[i]?=some x)(e:f y=f x):(l.set i y).map f=l.map f:=by
 rw[map_set];refine ext_getElem? λj=>?_;rw[getElem?_set]
 split
 ·rename_i hj
  subst hj;have:=(gS h).1;rw[if_pos (by rw[length_map];exact this),getElem?_map,h,e];rfl
 ·rfl
theorem K1{m':MM}(ok:∀t∈ms,t.Ok)(hn:Num ms)(h:ms[i]?=some t)(I:m'.Inv)(hx:m'.Ok x')(hs:nN t.m m'):Later ms (ms.set i ⟨t.a,m',x'⟩):=by
 have hb:=hs.b;refine⟨λu hu=>?_,λj u hu=>?_,?_,?_⟩
 ·rcases mem_or_eq_of_mem_set hu with hu|rfl
  ·exact ok u hu
  ·exact⟨I,hx⟩
 ·rw[getElem?_set] at hu
  split at hu
  ·rename_i hj
   subst hj
   split at hu
   ·obtain rfl:=Option.some.inj hu;rw[hb];exact hn i t h
   ·as_aux_lemma=>
    cases hu
  ·exact hn j u hu
 ·exact AQ h rfl
 ·refine AQ h ?_;unfold e9;rw[hb]
variable{nF:Nat}
section
variable{L:HL}{D F O B rm:Addr}{N nr:Nat}{vv0:List LB}
theorem Jl(W:PG G)(hN:N<600000)(hD:ap R D (.di (vK (bq ms)) nD))(hF:ap R F (.di (vK (bq cs)) nF))(hA:ap R A (.list (ms.map λt=>e9 t.m)))(h0:0<ms.length)(bz:ms.length<=4)(QZ:cs.length<=4)(hn:Num ms)(ok:∀t∈ms,t.Ok)(ok2:∀t∈cs,t.Ok)
  (q:∀ms',Later ms ms'->Q (.bool true) ((p,bO (N+70))::bw ms' (bw cs R))):Sp G 1065 (dp+8) [.ref p,.ref D,.ref A,.ref F] ((p,bO N)::bw ms (bw cs R)) Q E:=by
 have hM:cP (bw ms (bw cs R)) D ms:=lO (hD.g6 cs) bz ok;have HV:∀ms:List MT,cP (bw ms (bw cs R)) F cs:=λms=>(lO hF QZ ok2:cP (bw cs R) F cs).overs ms;have z9:ap (bw ms (bw cs R)) A (.list (ms.map λt=>e9 t.m)):=(hA.g6 cs).g6 ms
 have eX:(bH (bc ms)).length<=48:=by exact aa yE bz (ta hM.uZ) (show(bc ms).length=ms.length by unfold bc;simp)
 refine Sp.ent (.refl _) (Il W ⟨kF,(br.pn (.tail z9) (by rw[length_map];exact aa yz bz) (iw W (aa ⟨1,0,[.aJ 0 600000],.aJ 0 1000000⟩ hN) .head (by rw[length_map];exact aa Gc h0) (by rw[length_map];exact aa ⟨1,0,[.aS 0 4],.fp 0 1000000⟩ bz) λr r0 r1=>⟨kF,iw W (N:=N+1) (aa ⟨1,0,[.aJ 0 600000],.tn (.aj 0 1) (.k 1000000)⟩ hN) .head (by decide) (by decide) λvF w0 w1=>(?_)⟩))⟩);rw[length_map] at r1;refine xE (Int.eq_ofNat_of_zero_le r0) λi cS=>?_;subst cS;have hi:i<ms.length:=aa EN r1;have fW:=gE hi
 generalize ms[i]=t at fW
 have mI:=mem_of_getElem? fW;have I:=(ok t mI).1;refine((br.pn (.tail z9) (by rw[length_map];exact aa yz bz) (bd.range (se (bx.eL (by rw[length_map];exact aa ⟨1,0,[.aS 0 4],.fp 0 1000000000000⟩ bz) (aa uz)) (λj=>(dW j i).map V.int) rfl ?_ ?_))))
 ·intro j x hx;obtain⟨rfl,hj⟩:=i6 hx;rw[length_map] at hj;refine⟨trivial,λh=>(bj ?_ rfl ?_),(λh=>⟨rfl,?_⟩)⟩
  ·rw[length_map];exact aa ⟨3,0,[.aS 0 4,.i9 1 0,.bY 2 1],.aJ 2 1000⟩ bz hj (wf (n:=j) (i:=i))
  ·have dj:¬j=i:=λe=>by subst e;have h:((j:Int) != (j:Int))=true:=h;simp at h
   show _=(dW (j+1) i).map V.int;rw[A4,if_neg dj,map_append];rfl
  ·have he:j=i:=by exact aa yD (show(j:Int)=(i:Int) by simpa using (h:((j:Int) != (i:Int))=false))
   show _=(dW (j+1) i).map V.int;rw[A4,if_pos he,append_nil]
 ·rw[gq,length_map,toNat_natCast];refine⟨trivial,λO=>se (bx.list .head) (λj=>((dW ms.length i).take j).map (fC ms)) rfl ?_ ?_⟩
  ·intro j x hx;rw[getElem?_map] at hx;refine ai (Option.map_eq_some_iff.mp hx) λk hk aw=>?_;refine av (Eq.symm aw) ?_;refine dD (we (mem_of_getElem? hk)) λa cS cB dj=>?_;subst cS;have z8:=gE cB;have cG:=getElem_mem cB;refine⟨.head,iT (hM.cons.cons.at z8 (ax.inst W.B (.tail (.tail (hM.has _ cG).rd.obj)) (MM.ok _).mc.cls (MM.ok _).jE (aQ (MM.cF _ _) rfl rfl) ⟨kF,tX (dp:=dp+1) W (hM.ok _ cG) (hM.has _ cG).cons.cons (bj ?_ rfl ?_)⟩))⟩
   ·rw[length_map,length_take];exact aa ER bz (wf (n:=ms.length) (i:=i)) eK
   ·simp only[take_add_one,hk,map_append];show _=_++[fC ms (a:Int)];simp only[GU hM cB]
  ·rw[length_map,take_length];refine⟨.head,λB=>⟨kF,oQ W hM.cons.cons.cons λrm nr=>⟨kF,qm W (HV ms).cons.cons.cons.cons (?_)⟩⟩⟩
   have fin:∀(m':MM)(x':HA),m'.Inv->m'.Ok x'->nN t.m m'->wpS (cx G (dp+7)) tZ (jV (kG G)).globs ⟨[some (.ref p),some (.ref A),some (.ref F),some (.int vF),some (.ref O),some (.ref B),some (.tup (eZ cs)),some (.bool true)],[some (.ref D),some (.int (i:Int)),some (.ref rm),none]⟩ ([(rm,.dt (bH (bc ms)) nr),(B,.list ((dW ms.length i).map (fC ms))),(O,.list ((dW ms.length i).map V.int))]++((p,bO (N+70))::bw (ms.set i ⟨t.a,m',x'⟩) (bw cs R))) (gC λv M=>∃M',bQ M M'/\Q v M') (λU M=>∃M',bQ M M'/\E M'):=λm' x' I' cr hs=>by
    have hL:=K1 ok hn fW I' cr hs;have z':(ms.set i ⟨t.a,m',x'⟩).length=ms.length:=length_set;refine NR W (ms:=ms.set i ⟨t.a,m',x'⟩) (cs:=cs) (i:=i) (vv0:=bc ms) (nr:=nr) (rm:=rm) (B:=B) (O:=O) (lO (n:=nD) (by rw[hL.addrs];exact hD.g6 cs) (by rw[z'];exact bz) hL.ok:cP (bw (ms.set i ⟨t.a,m',x'⟩) (bw cs R)) D (ms.set i ⟨t.a,m',x'⟩)).cons.app (HV _).cons.app (by rw[z'];exact .tail (.tail .head)) ?_ .head (λa ha=>?_) eX λGs=>(ah _ (.sub ?_) (q _ hL))
    ·rw[z'];have:(dW ms.length i).map (fC ms)=(dW ms.length i).map (fC (ms.set i ⟨t.a,m',x'⟩)):=map_congr_left λk hk=>(J' k hk).symm;refine(this)▸?_;exact .tail .head
    ·unfold bc;simp only[getElem?_map,getElem?_map,getElem?_set_ne (λe=>ha e.symm)]
    ·exact(sublist_append_right _ _).trans (sublist_append_right _ _)
   have sr:=(ok t mI).2
   have iB:cy (ms.map λt=>e9 t.m) (i:Int)=some (e9 t.m):=by unfold cy;rw[if_pos ⟨aa eF,aa ⟨2,0,[.aS 0 4,.i9 1 0],.fp 1 1000000⟩ bz r1⟩,toNat_natCast,getElem?_map,fW];rfl
   have z_:=(hM.cons (p:=(p,bO (N+1+1)))).app (L':=[(rm,.dt (bH (bc ms)) nr),(B,.list ((dW ms.length i).map (fC ms))),(O,.list ((dW ms.length i).map V.int))]);have su:ap ([(rm,.dt (bH (bc ms)) nr),(B,.list ((dW ms.length i).map (fC ms))),(O,.list ((dW ms.length i).map V.int))]++((p,bO (N+1+1))::bw ms (bw cs R))) A (.list (ms.map λt=>e9 t.m)):=.bE (.tail z9)
   have lb:∀(m':MM)(x':HA)(n:Nat),n<=N+70->bQ (dZ m' t.a x' ((p,bO n)::([(rm,.dt (bH (bc ms)) nr),(B,.list ((dW ms.length i).map (fC ms))),(O,.list ((dW ms.length i).map V.int))]++bw (ms.eraseIdx i) (bw cs R)))) ([(rm,.dt (bH (bc ms)) nr),(B,.list ((dW ms.length i).map (fC ms))),(O,.list ((dW ms.length i).map V.int))]++((p,bO (N+70))::bw (ms.set i ⟨t.a,m',x'⟩) (bw cs R))):=λm' x' n pR=>.trans (.perm (KW hi ⟨t.a,m',x'⟩ _ _ _)) (.app _ (uf pR))
   have GV:wpS (cx G (dp+7)) (sq [.ex (.call mz (.ae af (.ae (.sub (.ao 0) (.ao 1)) (wa (.sub aB (.ao 1))))))]) (jV (kG G)).globs ⟨[some (.ref p),some (.ref A),some (.ref F),some (.int vF),some (.ref O),some (.ref B),some (.tup (eZ cs)),some (.bool true)],[some (.ref D),some (.int (i:Int)),some (.ref rm),none]⟩ ([(rm,.dt (bH (bc ms)) nr),(B,.list ((dW ms.length i).map (fC ms))),(O,.list ((dW ms.length i).map V.int))]++((p,bO (N+1+1))::bw ms (bw cs R))) (yN (gC λv M=>∃M',bQ M M'/\Q v M') λσ L=>wpS (cx G (dp+7)) tZ (jV (kG G)).globs σ L (gC λv M=>∃M',bQ M M'/\Q v M') λU M=>∃M',bQ M M'/\E M') (λU M=>∃M',bQ M M'/\E M'):=by refine⟨kF,z_.at fW (a_.list su iB (Sp.ent (.perm (tb fW _ _ _)) (PC (dp:=dp) W (aa yF hN) I sr λm' x' I' cr hs=>(ah _ (lb m' x' _ (aa ET)) (fin m' x' I' cr hs)))))⟩
   have Et:wpS (cx G (dp+7)) Ml (jV (kG G)).globs ⟨[some (.ref p),some (.ref A),some (.ref F),some (.int vF),some (.ref O),some (.ref B),some (.tup (eZ cs)),some (.bool true)],[some (.ref D),some (.int (i:Int)),some (.ref rm),none]⟩ ([(rm,.dt (bH (bc ms)) nr),(B,.list ((dW ms.length i).map (fC ms))),(O,.list ((dW ms.length i).map V.int))]++((p,bO (N+1+1))::bw ms (bw cs R))) (yN (gC λv M=>∃M',bQ M M'/\Q v M') λσ L=>wpS (cx G (dp+7)) tZ (jV (kG G)).globs σ L (gC λv M=>∃M',bQ M M'/\Q v M') λU M=>∃M',bQ M M'/\E M') (λU M=>∃M',bQ M M'/\E M'):=by
    refine⟨λh1=>a_.list su iB (ah _ rfl ⟨λh2=>?_,λU=>GV⟩),λh1=>⟨λh=>no h h1,λU=>GV⟩⟩
    lk
    refine xE (MM.J9 I h2) λb hb=>?_;refine⟨kF,z_.at fW (a_.list su iB (Sp.ent (.perm (tb fW _ _ _)) ?_))⟩;rw[hb] at I sr⊢;refine Jh (dp:=dp+1) W (aa yF hN) I sr λm' aU n' I' eH e=>(ah _ (lb (.A .arr m') {t.x with bs:=aU,n:=n'} _ (aa ⟨1,0,[],.ln (.a (.a (.aj 0 1) (.k 1)) (.k 60)) (.aj 0 70)⟩)) (fin (.A .arr m') {t.x with bs:=aU,n:=n'} I' eH ?_));rw[hb];exact⟨rfl,e⟩
   refine⟨λh1=>a_.list su iB (ah _ rfl ⟨λh2=>?_,λU=>Et⟩),λh1=>⟨λh=>no h h1,λU=>Et⟩⟩;refine xE (MM.KY I h2) λb hb=>?_;refine⟨kF,z_.at fW (a_.list su iB (Sp.ent (.perm (tb fW _ _ _)) ?_))⟩;rw[hb] at I sr⊢;refine PD (dp:=dp+1) W (aa yF hN) I sr λm' aU n' I' eH e=>(ah _ (lb (.A .rows m') {t.x with bs:=aU,n:=n'} _ (aa ET)) (fin (.A .rows m') {t.x with bs:=aU,n:=n'} I' eH ?_));rw[hb];exact⟨rfl,e⟩
end
def PN:Sm:=(sq [.for [(.var 1)] false (.call cf (wa (.int 10))) (sq [.ite (.cmp .Eq aB (.int 5)) (sq [.asg (.var 3) (.call kz (wa (.ao 1))),.ite (.bo .Or (.ae (.cmp .NotEq (.call jI (wa bC)) (.call jI (wa (.ao 1)))) (wa (.cmp .NotEq (.call mz (wa bC)) (.call mz (wa (.ao 1))))))) (sq [.ret (.bool false)]) .nil]) .nil,.ite (.d8 .Not (.call zu (.ae (.ao 0) (.ae (.ao 1) (.ae aX (wa bC)))))) (sq [.ret (.bool false)]) .nil]),.ret (.bo .And (.ae (.cmp .Eq (.call jI (wa (.ao 1))) (.call vg (wa (.lc wD (.call cf (wa (.call (.dA 10) (wa aX)))) .yes (.aC (.sub (.ao 1) (.var 0)) "told" .bT))))) (wa (.call (.dA 11) (.ae (.ao 0) (.ae (.ao 1) (wa aX)))))))])
noncomputable def PO:Sm:=(sq [.ite (.d8 .Not (.call zu (.ae (.ao 0) (.ae (.ao 1) (.ae aX (wa bC)))))) (sq [.ret (.bool false)]) .nil])
def PP:Sm:=(sq [.ret (.bo .And (.ae (.cmp .Eq (.call jI (wa (.ao 1))) (.call vg (wa (.lc wD (.call cf (wa (.call (.dA 10) (wa aX)))) .yes (.aC (.sub (.ao 1) (.var 0)) "told" .bT))))) (wa (.call (.dA 11) (.ae (.ao 0) (.ae (.ao 1) (wa aX)))))))])
def j9(ms:List MT):HL:=ms.flatMap λt=>uY t.m t.a t.x
theorem eY(ms:List MT)(R:HL):bw ms R=j9 ms++R:=lK ms R
def fL(p:Addr)(n:Nat)(ms cs:List MT)(F:Addr)(nF:Nat)(X:HL):HL:=(p,bO n)::bw ms (bw cs ((F,.di (vK (bq cs)) nF)::X))
def fe(D A:Addr)(nD:Nat)(as:List Addr)(rl:List V)(R:HL):HL:=(D,.di (vK as) nD)::(A,.list rl)::(1050,.p fc)::R
structure Good(as:List Addr)(rl:List V)(ms:List MT):Prop where
 ok:∀t∈ms,t.Ok
 num:Num ms
 addrs:bq ms=as
 rows:(ms.map λt=>e9 t.m)=rl
variable{rl:List V}
theorem Good.len(h:Good as rl ms):ms.length=as.length:=by rw[←h.addrs];unfold bq;simp
theorem NS(h:(cs.map λt:MT=>t.m)=ms.map λt=>t.m):eZ cs=eZ ms:=by
 have e:∀l:List MT,eZ l=(l.map λt=>t.m).map MM.jE:=λl=>by rw[map_map];rfl
 simp only[e,e,h]
theorem NT(h:(cs.map λt:MT=>t.m)=ms.map λt=>t.m):bc cs=bc ms:=by
 have e:∀l:List MT,bc l=(l.map λt=>t.m).map λm=>m.b.vals:=λl=>by rw[map_map];rfl
 simp only[e,e,h]
section
variable{L:HL}{D F s:Addr}{N:Nat}
theorem yg(h:Good as rl ms)(h4:as.length<=4):cP (fL p N ms cs F nF (fe D A nD as rl R)) D ms:=(lO (n:=nD) (by rw[h.addrs];exact(ap.tail .head).g6 cs) (by rw[h.len];exact h4) h.ok).cons
theorem Q0(ok:∀t∈cs,t.Ok)(h4:cs.length<=4):cP (fL p N ms cs F nF (fe D A nD as rl R)) F cs:=((lO (n:=nF) (R:=(F,.di (vK (bq cs)) nF)::fe D A nD as rl R) .head h4 ok).overs ms).cons
theorem Q4:ap (fL p N ms cs F nF (fe D A nD as rl R)) A (.list rl):=.tail (((ap.tail (.tail .head)).g6 cs).g6 ms)
theorem PR(W:PG G)(hN:N<600000)(h:Good as rl ms)(h0:0<as.length)(h4:as.length<=4){v0 v1 v3:Option V}(q:∀M,Tb M->Q (.bool true) M):wpS (cx G (dp+11)) PP (ng (kG G)).globs ⟨[v0,v1,some (.ref A),v3],[some (.ref p),some (.ref D)]⟩ (fL p N ms cs F nF (fe D A nD as rl R)) (gC Q) (λU=>E):=by
 have hM:cP (fL p N ms cs F nF (fe D A nD as rl R)) D ms:=yg h h4;have eX:rl.length=ms.length:=by rw[←h.rows];simp
 have gH:=h.len;refine⟨kF,qm (dp:=dp+4) W hM ((br.pn Q4 (aa ⟨3,0,[.aS 0 4,.aA 1 2,.aA 2 0],.aJ 1 1000000⟩ h4 eX gH) (bd.range (se (bx.eL (aa ⟨3,0,[.aS 0 4,.aA 1 2,.aA 2 0],.fp 1 1000000000000⟩ h4 eX gH) (aa uz)) (λj=>(eZ ms).take j) rfl ?_ ?_))))⟩
 ·intro j x hx;obtain⟨rfl,hj⟩:=i6 hx;have hj:j<ms.length:=aa ⟨3,0,[.aA 0 1,.i9 2 0],.bg 2 1⟩ eX hj;have HW:=gE hj;have cG:=getElem_mem hj;refine⟨trivial,iT (hM.at HW (ax.inst W.B (hM.has _ cG).rd.obj (MM.ok _).mc.cls (MM.ok _).jE (aQ (MM.cF _ _) rfl rfl) ⟨kF,tX (dp:=dp+5) W (hM.ok _ cG) (hM.has _ cG) (bj ?_ rfl ?_)⟩))⟩
  ·rw[length_take];exact aa ⟨6,0,[.aS 0 4,.aA 1 2,.aA 2 0,.i9 3 1,.oo (.an (.bY 3 4) (.aA 5 3)) (.an (.no (.bY 3 4)) (.aA 5 4))],.aJ 5 1000⟩ h4 eX gH (by assumption) eK
  ·simp only[take_add_one];unfold eZ;rw[getElem?_map,HW];rfl
 ·rw[gq,toNat_natCast,eX];rw[(show(eZ ms).take ms.length=eZ ms by rw[take_of_length_le];unfold eZ;simp)];refine⟨trivial,λl1=>bd.mj .head (by unfold eZ;simp;exact aa FZ h4 gH) (aV.eqT (wd ms) (iT ⟨kF,?_⟩))⟩;refine Sp.ent (L0:=(p,bO N)::(1050,.p fc)::bw ms ((D,.di (vK as) nD)::(A,.list rl)::R)) (.ps ((p,bO N)::(1050,.p fc)::bw ms ((D,.di (vK as) nD)::(A,.list rl)::(R++((l1,.list (eZ ms))::bw cs [(F,.di (vK (bq cs)) nF)])))) ?_ ?_) (Mk (dp:=dp+3) W (aa ⟨1,0,[.aJ 0 600000],.aJ 0 700000⟩ hN) (nD:=nD) (by rw[h.addrs];exact .head) (aa o_ h4 gH) h.num h.ok (by rw[h.rows];exact .tail .head) λM t=>(ah M (.refl _) (q M t)))
  ·unfold fL fe;rw[eY ms,eY cs,eY ms,eY cs];exact j8 ([[(l1,.list (eZ ms))],[(p,bO N)],j9 ms,j9 cs,[(F,.di (vK (bq cs)) nF)],[(D,.di (vK as) nD)],[(A,.list rl)],[(1050,.p fc)],R]:List HL) [0,1,2,3,4,5,6,7,8] [1,7,2,5,6,8,0,3,4] rfl
  ·rw[eY ms,eY ms];exact .cons_cons _ (.cons_cons _ (List.Sublist.append_left (.cons_cons _ (.cons_cons _ (List.sublist_append_left R _))) _))
end
section
variable{L:HL}{D F s:Addr}{N:Nat}
theorem DI(W:PG G)(hN:N<600000)(h:Good as rl ms)(h0:0<as.length)(h4:as.length<=4)(ok2:∀t∈cs,t.Ok)(hc4:cs.length<=4){K:Fl->Lo->HP}{v0 v1:Option V}(Gs:HL)(k:∀ms',Good as rl ms'->K .next ⟨[v0,v1,some (.ref A),some (.ref F)],[some (.ref p),some (.ref D)]⟩ (fL p (N+70) ms' cs F nF (fe D A nD as rl R))):
  wpS (cx G (dp+11)) PO (ng (kG G)).globs ⟨[v0,v1,some (.ref A),some (.ref F)],[some (.ref p),some (.ref D)]⟩ (Gs++fL p N ms cs F nF (fe D A nD as rl R)) K (λU=>E):=by
 have gH:=h.len;refine⟨kF,Sp.ent (.sub (sublist_append_right Gs _)) (Jl (dp:=dp+3) W hN (nD:=nD) (nF:=nF) (R:=(F,.di (vK (bq cs)) nF)::fe D A nD as rl R) (by rw[h.addrs];exact .tail .head) .head (by rw[h.rows];exact .tail (.tail .head)) (aa ⟨2,0,[.lh 0 0,.aA 1 0],.lh 0 1⟩ h0 gH) (aa o_ h4 gH) hc4 h.num h.ok ok2 λms' hL=>⟨_,.refl _,iF (k ms' ⟨hL.ok,hL.num,by rw[hL.addrs,h.addrs],by rw[hL.rows,h.rows]⟩)⟩)⟩
theorem Mm(W:PG G)(h:Good as rl ms)(h4:as.length<=4)(q:∀F' nF' cs',(cs'.map λt:MT=>t.m)=(ms.map λt=>t.m)->(∀t∈cs',t.Ok)->Q (.ref F') (fL p N ms cs' F' nF' (fe D A nD as rl R))):Sp G 92 (dp+11) [.ref D] (fL p N ms cs F nF (fe D A nD as rl R)) Q E:=by
 refine Sp.ent (.refl _) (CP (dp:=dp) W (yg h h4) λF' nF' cs' jN hok=>(ah (fL p N ms cs' F' nF' (fe D A nD as rl R)) (.ps ((p,bO N)::bw ms (bw cs' ((F',.di (vK (bq cs')) nF')::(D,.di (vK as) nD)::(A,.list rl)::(1050,.p fc)::(R++((F,.di (vK (bq cs)) nF)::j9 cs))))) ?_ ?_) (q F' nF' cs' jN hok)))
 ·unfold fL fe;simp only[eY cs',eY ms,eY cs,eY ms,eY cs'];exact j8 ([[(F',.di (vK (bq cs')) nF')],j9 cs',[(p,bO N)],j9 ms,j9 cs,[(F,.di (vK (bq cs)) nF)],[(D,.di (vK as) nD)],[(A,.list rl)],[(1050,.p fc)],R]:List HL) [0,1,2,3,4,5,6,7,8,9] [2,3,1,0,6,7,8,9,5,4] rfl
 ·unfold fL fe;rw[eY ms,eY cs',eY ms,eY cs'];exact .cons_cons _ (List.Sublist.append_left (List.Sublist.append_left (.cons_cons _ (.cons_cons _ (.cons_cons _ (.cons_cons _ (List.sublist_append_left R _))))) _) _)
theorem GW(h:Good as rl ms)(jN:(cs.map λt:MT=>t.m)=(ms.map λt=>t.m)):cs.length=as.length:=by have:=congrArg List.length jN;rw[length_map,length_map] at this;rw[this,h.len]
theorem PT(W:PG G)(hN:N<500000)(h:Good as rl ms)(h0:0<as.length)(h4:as.length<=4)(ok2:∀t∈cs,t.Ok)(hc4:cs.length<=4){v0 v1:Option V}(q:∀M,Tb M->Q (.bool true) M):
  wpS (cx G (dp+11)) PN (ng (kG G)).globs ⟨[v0,v1,some (.ref A),some (.ref F)],[some (.ref p),some (.ref D)]⟩ (fL p N ms cs F nF (fe D A nD as rl R)) (gC Q) (λU=>E):=by
 refine(bd.range ⟨_,_,_,bx.eL (by decide) (by decide),λj σ M=>j<=10/\∃ms cs F nF,Good as rl ms/\(∀t∈cs,t.Ok)/\cs.length<=4/\M=fL p (N+70*j) ms cs F nF (fe D A nD as rl R)/\∃v1,σ=⟨[v0,v1,some (.ref A),some (.ref F)],[some (.ref p),some (.ref D)]⟩,(vO (by decide) ms cs F nF h ok2 hc4 rfl _ rfl),?_,?_⟩)
 ·intro j σ M x hx zz;refine AR zz λU ms cs F nF h ok2 hc4 iK v1 y8=>?_;refine av iK ?_;refine av y8 ?_;obtain⟨rfl,hj⟩:=i6 hx;have hj:j<10:=aa ⟨1,0,[.fp 0 10],.aJ 0 10⟩ hj
  have next:∀(ms' cs:List MT)(F:Addr)(nF:Nat),Good as rl ms'->(∀t∈cs,t.Ok)->cs.length<=4->fL p (N+70*j+70) ms' cs F nF (fe D A nD as rl R)=fL p (N+70*(j+1)) ms' cs F nF (fe D A nD as rl R):=λms' cs F nF U U U=>by
   have:N+70*j+70=N+70*(j+1):=aa ⟨2,0,[],.en (.a (.a .v0 (.m 70 .v1)) (.k 70)) (.a .v0 (.m 70 (.aj 1 1)))⟩;refine(this)▸?_
   rfl
  refine⟨trivial,λU=>?_,(λU=>DI (dp:=dp) W (aa EU hN (by assumption)) h h0 h4 ok2 hc4 [] λms' h'=>(vO (aa EV (by assumption)) ms' cs F nF h' ok2 hc4 (next ms' cs F nF h' ok2 hc4) _ rfl))⟩;refine⟨kF,Mm (dp:=dp) W h h4 λF' nF' cs' jN hok=>?_⟩;have fh:=GW h jN;have HX:cP (fL p (N+70*j) ms cs' F' nF' (fe D A nD as rl R)) F' cs':=Q0 hok (aa o_ h4 fh);have Aa:cP (fL p (N+70*j) ms cs' F' nF' (fe D A nD as rl R)) D ms:=yg h h4;refine⟨kF,qm (dp:=dp+4) W HX ⟨kF,qm (dp:=dp+4) W Aa ?_⟩⟩;rw[NS jN];refine aV.neT (wd ms) ⟨λU=>⟨kF,oQ W HX λr1 n1=>⟨kF,oQ W Aa.cons λr2 n2=>?_⟩⟩,λh=>no h⟩;rw[NT jN];refine aV.Sc W.B (.tail .head) .head (λpr hp=>?_) (iF (DI (dp:=dp) W (aa EU hN (by assumption)) h h0 h4 hok (aa o_ h4 fh) [_,_] λms' h'=>(vO (aa EV (by assumption)) ms' cs' F' nF' h' hok (aa o_ h4 fh) (next ms' cs' F' nF' h' hok (aa o_ h4 fh)) _ rfl)));refine N0 (mV Aa.ok hp) λa' s' t' o' g9 U=>?_;refine av g9 ?_
  trivial
 ·intro σ M zz;refine AR zz λU ms cs F nF h ok2 hc4 iK v1 y8=>?_;refine av iK ?_;refine av y8 ?_;exact⟨trivial,PR (dp:=dp) W (by rw[gq];show N+70*10<_;exact aa ⟨1,0,[.aJ 0 500000],.tn (.a .v0 (.m 70 (.k 10))) (.k 600000)⟩ hN) h h0 h4 q⟩
end
structure fR where
 kind:Str
 kw:Int
 size:Int
 most:Int
def fR.v(r:fR):V:=gR r.kind r.kw r.size r.most
structure fR.Ok(r:fR):Prop where
 k:gM r.kind r.kw
 s0:1<=r.size
 s1:r.size<=16
 m0:1<=r.most
 m1:r.most<=3
theorem NU(as:List Addr):(vK as).foldl (λm p=>df m p.1 p.2) []=vK as:=by
 have key:∀(l:List Addr),(vK l.reverse).foldl (λm p=>df m p.1 p.2) []=vK l.reverse:=by
  intro l
  induction l with
  |nil=>rfl
  |cons b l ih=>
   have e:vK (b::l).reverse=vK l.reverse++[((l.reverse.length:Int),V.ref b)]:=by unfold vK;rw[reverse_cons,tN,Nat.zero_add]
   rw[e,foldl_append,ih];show df (vK l.reverse) (l.reverse.length:Int) (.ref b)=_;rw[qJ,←reverse_cons];exact e
 have:=key as.reverse;rwa [List.reverse_reverse] at this
section
variable{L:HL}{s:Addr}
theorem Q5(W:PG G)(h:G.h₀.IsList s vs)(hw:∀Z,aZ Z (ns.map V.int) vs.toList)(hl:ns.length<900)(q:∀M,Tb M->Q (.bool true) M):Sp G 1070 (dp+12) [.ref s] ((1050,.p fc)::R) Q E:=by
 refine Pj W ⟨kF,QV W h hw hl λp=>⟨kF,(iw W (N:=0) (by decide) .head (by decide) (by decide) λr r0 r1=>bd.range (pB (bx.eL (aa ⟨0,1,[.bh 0 4],.tz (.eU 1 0) (.k 1000000000000)⟩ r1) (aa ⟨0,1,[.ak 0 0],.tz (.k (-1000000000000)) (.eU 1 0)⟩ r0)) (λj rs=>j<=4/\rs.length=j/\∀r∈rs,r.Ok) (λj U=>(p,bO (1+4*j))::(1050,.p fc)::R) (λU(rs:List fR)=>rs.map fR.v) [] ⟨aa EW,rfl,λr h=>by cases h⟩ rfl rfl ?_ ?_))⟩⟩
 ·intro j rs x hx zz;refine fq zz λU eX Ab=>?_;obtain⟨rfl,hj⟩:=i6 hx;refine⟨trivial,iT ⟨kF,PA (dp:=dp+8) W (N:=1+4*j) (aa ⟨1,0,[.aS 0 4],.tn (.a (.k 1) (.m 4 .v0)) (.k 900000)⟩ (by assumption)) λkind kw size most hk s0 s1 m0 m1=>(m_ (by rw[length_map];exact aa ⟨2,0,[.aS 0 4,.aA 1 0],.aJ 1 1000⟩ (by assumption) eX) (rs++[⟨kind,kw,size,most⟩]) ⟨aa ⟨1,1,[.bh 0 4,.tz .c0 (.eU 1 0)],.ln (.aj 0 1) (.k 4)⟩ r1 hj,by rw[length_append,eX];rfl,λr hr=>?_⟩ ?_ (by dsimp only;rw[map_append];rfl))⟩⟩
  ·rcases List.mem_append.mp hr with hr|hr
   ·exact Ab r hr
   ·obtain rfl:=List.mem_singleton.mp hr;exact⟨hk,s0,s1,m0,m1⟩
  ·have:1+4*j+4=1+4*(j+1):=aa ⟨1,0,[],.en (.a (.a (.k 1) (.m 4 .v0)) (.k 4)) (.a (.k 1) (.m 4 (.aj 0 1)))⟩;exact congrArg (λn=>(p,bO n)::(1050,Cl.p fc)::R) this
 ·intro rs zz;refine fq zz λHY eX Ab=>?_;rw[gq] at eX HY;rw[gq];refine⟨trivial,λA=>((bd.enum (xs:=rs.map fR.v) .head λe=>⟨jX (rs.map fR.v),_,_,bx.enum (a:=A) (xs:=rs.map fR.v),λj acc M=>j<=4/\∃cn:List MT,cn.length=j/\acc=(vK (bq cn.reverse)).map lX/\M=bw cn ((A,.list (rs.map fR.v))::(p,bO (1+4*(1+r).toNat))::(1050,.p fc)::R)/\(∀t∈cn,t.Ok)/\Num cn.reverse/\(cn.reverse.map λt=>e9 t.m)=(rs.take j).map fR.v,⟨aa EW,[],rfl,rfl,rfl,λt h=>(by cases h),λi t h=>(by cases h),rfl⟩,?_,?_⟩))⟩
  ·intro j acc M x hx zz;refine B6 zz λU cn gH aE g9 hok y9 iB=>?_;refine av aE ?_;refine av g9 ?_;rw[sM,getElem?_map] at hx;refine ai (Option.map_eq_some_iff.mp hx) λy hy aw=>?_;refine av (Eq.symm aw) ?_;refine ai (Option.map_eq_some_iff.mp hy) λrr Ad aw=>?_;refine av (Eq.symm aw) ?_;have hr:=Ab rr (mem_of_getElem? Ad);have cB:(bq cn.reverse).length=j:=by unfold bq;simp[gH]
   refine⟨ap.g6 cn .head,iT ⟨kF,PB (dp:=dp+4) W hr.k hr.s0 hr.s1 hr.m0 hr.m1 (aa eF) (aa ⟨1,0,[.aS 0 4],.fp 0 64⟩ (by assumption)) λa m x I hx UF zr=>⟨by rw[length_map,jr,cB];exact aa ⟨1,0,[.aS 0 4],.aJ 0 1000⟩ (by assumption),aa ⟨2,1,[.ln (.t (.eU 1 0)) (.k 4),.en .v0 (.t (.eU 1 0)),.bg 1 0],.ln (.aj 1 1) (.k 4)⟩ HY eX ((gS Ad).1),⟨a,m,x⟩::cn,by rw[length_cons,gH],?_,rfl,λt ht=>?_,λi t ht=>?_,?_⟩⟩⟩
   ·have e:vK (bq (⟨a,m,x⟩::cn).reverse)=vK (bq cn.reverse)++[((j:Int),V.ref a)]:=by unfold bq vK;rw[reverse_cons,map_append];show iQ 0 (_++[a])=_;rw[tN,Nat.zero_add];unfold bq at cB;rw[cB]
    rw[e,map_append];rfl
   ·rcases List.mem_cons.mp ht with rfl|ht
    ·exact⟨I,hx⟩
    ·exact hok t ht
   ·rw[reverse_cons] at ht;by_cases h:i<cn.reverse.length
    ·rw[List.getElem?_append_left h] at ht;exact y9 i t ht
    ·rw[List.getElem?_append_right (by exact aa uH h)] at ht;rw[length_reverse,gH] at ht h
     have h0:i-j=0:=by have:=(gS ht).1;have:i-j<1:=this;exact aa ⟨2,0,[.tn (.ee 0 1) (.k 1)],.en (.ee 0 1) (.k 0)⟩ this
     rw[h0] at ht;refine av (Eq.symm (Option.some.inj ht)) ?_;refine(zr)▸?_;exact aa ⟨2,0,[.no (.bg 0 1),.en (.ee 0 1) (.k 0)],.lj 1 0⟩ h h0
   ·simp only[reverse_cons,map_append,iB,take_add_one,Ad,map_append];show _++[e9 m]=_;rw[UF];rfl
  ·intro acc M zz;refine B6 zz λU cn gH aE g9 hok y9 iB=>?_;refine av aE ?_;refine av g9 ?_;have qj:(jX (rs.map fR.v)).length=rs.length:=by unfold jX;simp
   rw[qj] at gH iB;rw[take_length] at iB;refine⟨ap.g6 cn .head,λl=>bd.QF (kvs:=vK (bq cn.reverse)) .head (by rw[jr];unfold bq;simp;exact aa ⟨3,0,[.aS 0 4,.aA 1 2,.aA 0 2],.aJ 1 1000000⟩ (by assumption) gH qj) λD nD=>?_⟩;simp only[NU];have hg:Good (bq cn.reverse) (rs.map fR.v) cn.reverse:=⟨λt ht=>hok t (List.mem_reverse.mp ht),y9,rfl,iB⟩;have cB:(bq cn.reverse).length=rs.length:=by unfold bq;simp[gH]
   have Sr:∀(F:Addr)(nF:Nat)(cs:List MT),bQ ((F,.di (vK (bq cs)) nF)::bw cs (bw cn.reverse ((D,.di (vK (bq cn.reverse)) nD)::(A,.list (rs.map fR.v))::(p,bO (1+4*(1+r).toNat))::(1050,.p fc)::R))) (fL p (1+4*(1+r).toNat) cn.reverse cs F nF (fe D A nD (bq cn.reverse) (rs.map fR.v) R)):=λF nF cs=>.perm (by unfold fL fe;simp only[eY cs,eY cn.reverse,eY cn.reverse,eY cs];exact j8 ([[(F,.di (vK (bq cs)) nF)],j9 cs,j9 cn.reverse,[(D,.di (vK (bq cn.reverse)) nD)],[(A,.list (rs.map fR.v))],[(p,bO (1+4*(1+r).toNat))],[(1050,.p fc)],R]:List HL) [0,1,2,3,4,5,6,7] [5,2,1,0,3,4,6,7] rfl)
   refine⟨kF,Sp.ent (L0:=bw cn.reverse ((D,.di (vK (bq cn.reverse)) nD)::(A,.list (rs.map fR.v))::(p,bO (1+4*(1+r).toNat))::(1050,.p fc)::R)) (.ps (bw cn.reverse ((D,.di (vK (bq cn.reverse)) nD)::(A,.list (rs.map fR.v))::(p,bO (1+4*(1+r).toNat))::(l,.list ((vK (bq cn.reverse)).map lX))::(1050,.p fc)::R)) ?_ ?_) (CP (dp:=dp) W (lO (n:=nD) .head (by rw[length_reverse];exact aa ⟨3,0,[.aS 0 4,.aA 1 2,.aA 0 2],.aS 1 4⟩ (by assumption) gH qj) hg.ok) λF nF cs jN Ss=>(ah _ (Sr F nF cs) (PT (dp:=dp) W (aa ⟨2,1,[.en .v0 (.t (.eU 1 0)),.aS 1 4,.aA 1 0],.tn (.a (.k 1) (.m 4 (.t (.eU 1 0)))) (.k 500000)⟩ eX (by assumption) qj) hg (aa ⟨2,1,[.ak 0 0,.en .v0 (.t (.eU 1 0)),.aA 1 0],.lh 0 1⟩ r0 eX cB) (aa EX (by assumption) qj cB) Ss (by rw[GW hg jN];exact aa EX (by assumption) qj cB) q)))⟩
   ·refine List.Perm.trans (l₂:=(D,.di (vK (bq cn.reverse)) nD)::(l,.list ((vK (bq cn.reverse)).map lX))::bw cn.reverse ((A,.list (rs.map fR.v))::(p,bO (1+4*(1+r).toNat))::(1050,.p fc)::R)) (((vW (reverse_perm cn).symm _).cons _).cons _) ?_;simp only[eY cn.reverse,eY cn.reverse];exact j8 ([[(D,.di (vK (bq cn.reverse)) nD)],[(l,.list ((vK (bq cn.reverse)).map lX))],j9 cn.reverse,[(A,.list (rs.map fR.v))],[(p,bO (1+4*(1+r).toNat))],[(1050,.p fc)],R]:List HL) [0,1,2,3,4,5,6] [2,0,3,4,1,5,6] rfl
   ·simp only[eY cn.reverse,eY cn.reverse];exact List.Sublist.append_left (.cons_cons _ (.cons_cons _ (.cons_cons _ (.cons _ (.refl _))))) _
end
theorem CS{R:WRecords}:∀{xs:List WData},WShape.hasItems R xs .int=true->∃ns:List Int,xs=ns.map WData.int
 |[],_=>⟨[],rfl⟩
 |d::xs,h=>by obtain⟨h1,h2⟩:=tB (h:(WShape.has R d .int&&WShape.hasItems R xs .int)=true);obtain⟨i,rfl⟩:=hasW_int h1;obtain⟨ns,rfl⟩:=CS h2;exact⟨i::ns,rfl⟩
theorem NV{R:WRecords}{cl:Str->Option Addr}(Z:Zt):∀{vs:LV}{as:List Addr},ReadsAllW R cl h vs (ns.map WData.int) as->aZ Z (ns.map V.int) vs:=by
 induction ns with
 |nil=>intro vs as r;refine av (readsAllW_nil_inv r).1 ?_;exact .nil
 |cons n ns ih=>intro vs as r;refine lL (readsAllW_cons_inv r) λv rP a b e U r1 r2=>?_;refine ai (readsW_int_inv r1) λt e2 U=>?_;refine av e ?_;refine av e2 ?_;exact .cons .int (ih r2)
theorem Ns.hide{h:Heap}{t:Addr}{m:Str->Option Value}(x:h.Ns a m)(n:a≠t):(hideAll h [t]).Ns a m:=by refine xC x λo es ep e r=>?_;exact(Ew o es ep (hideAll_get _ e (λq=>n (List.mem_singleton.mp q))) r)
noncomputable def qM (w:World) (s:Shared):Gd:=⟨w,hideAll s.heap [1050],s.os,jC⟩
theorem Mn{p:Program}{loose:List Str}{Su:ExcName->Option Value}{mg mb:Str->Option Value}{w:World}{s:Shared}(T:Top p loose Su mg mb s.heap)(X:(KK w.params).In s.heap)(hs:∃o,s.heap.get? sysModules=some o)(ht:s.heap.get? 1050=some (tabObj #[]))(hn:(KK w.params).lookup 1050=none)(hc:codeHdIn (KK w.params) 1052 1050=true):PG (qM w s):=by
 have fu:(KK w.params).In (hideAll s.heap [1050]):=λa o e=>hideAll_get _ (X a o e) λq=>by rw[List.mem_singleton.mp q,hn] at e;cases e
 have hb:∀{b o},s.heap.get? b=some o->b≠1050->(hideAll s.heap [1050]).get? b=some o:=λe n=>hideAll_get _ e λq=>n (List.mem_singleton.mp q);refine⟨⟨fu,?_,?_,mg,mb,Ns.hide T.g (by decide),Ns.hide T.b (by decide),T.builtins⟩,rfl,⟨?_⟩,codeHd_of_K fu hc⟩
 ·refine ai T.nolimit λmc h1 h2=>?_;exact(ah mc (Ns.hide h1 (by decide)) h2)
 ·obtain⟨o,ho⟩:=hs;exact(iE o (hb ho (by decide)))
 ·refine K3 T.bmain λbm ob b1 b2 b3 b4 b5 b6=>?_;refine⟨mg,bm,ob,Ns.hide T.g (by decide),b1,b2,?_,hb b3 ?_,b4,b5,b6⟩
  ·rintro rfl
   refine dJ T.g λo es ep e d U=>?_;rw[b3] at e;cases e;rw[b6] at d;cases d
  ·rintro rfl
   rw[ht] at b3;cases b3
   cases b6
theorem old_kept{w:World}{s s':Shared}{A Z M:_}(X:(KK w.params).In s.heap)(ht:s.heap.get? 1050=some (tabObj #[]))(hc:codeHdIn (KK w.params) 1052 1050=true)(S:au (qM w s) A Z M [] s')(t:Tb M):OldK s.heap s'.heap:=by
 have hP:∃ps,s'.heap.get? 1050=some (tabObj ps):=by
  have:∃c,ap M 1050 (.p c)/\∀Z w o,c.is Z w o->∃ps,o=tabObj ps:=by
   clear S
   induction t with
   |head h=>exact(ah _ .head h)
   |tail _ ih=>obtain⟨c,h,q⟩:=ih;exact(ah c (.tail h) q)
  lk
  refine ai this λc h q=>?_;refine bW (S.cell h) λU o ho hi=>?_;obtain⟨ps,rfl⟩:=q _ _ _ hi;exact(iE ps ho)
 obtain⟨ps,hP⟩:=hP;have l8:∀b o,s.heap.get? b=some o->b≠1050->s'.heap.get? b=some o:=λb o e n=>S.h0 b o (hideAll_get _ e λq=>n (List.mem_singleton.mp q));refine⟨λb o e=>?_,λb o e=>?_⟩
 ·by_cases n:b=1050
  ·subst n;rw[ht] at e;cases e
   lk
   obtain⟨o,vs,_,_,_,_,_,_,_,e1,e2,e3,e4,_⟩:=codeHd_of_K X hc;exact .inr (.inl (mW (gI _ o vs e1 e2 e3 e4) rfl (#[]) ps rfl (by rw[hP];simp[tabObj])))
  ·exact .inl (l8 b o e n)
 ·by_cases n:b=1050
  ·subst n;exact(iE _ hP)
  ·exact(iE _ (l8 b o e n))
theorem K2{w:World}{s:Shared}(W:PG (qM w s))(X:(KK w.params).In s.heap)(ht:s.heap.get? 1050=some (tabObj #[]))(hc:codeHdIn (KK w.params) 1052 1050=true)(hg:s.gens=#[])
  (hL:s.heap.IsList a vs)(hw:∀Z,aZ Z (ns.map V.int) vs.toList)(hl:ns.length<900):ag w callerA (call (.ref 1070) [.ref a]) (λv s'=>v=.bool true/\OldK s.heap s'.heap/\s'.os=s.os/\AllBare s'.gens) (λU U=>False) s:=by
 have UG:(qM w s).h₀.IsList a vs:=by
  lk
  refine PU hL λo e h1 n h2=>?_;refine(eA o (hideAll_get _ e λq=>?_) h1 n h2);rw[List.mem_singleton.mp q,ht] at e;cases e
  cases h2
 have S:au (qM w s) callerA (λb=>(hideAll s.heap [1050]).get? b) [(1050,.p fc)] [] s:=by refine(ah ([(1050,fc)]) (.cons (c:=.p fc) rfl .nil) ⟨λU U e=>e,λU U e=>of_hideAll _ e,by simp,λp hp=>?_,(ah ([]) rfl (λU h=>(by cases h))),hg,rfl⟩);refine av (List.mem_singleton.mp hp) ?_;exact(dc (hideAll_none _ (.head _)) _ ht (λU U=>rfl))
 refine j3 (j4 ((Q5 (R:=[]) (E:=λU=>False) (Q:=λv M=>v=.bool true/\Tb M) (dp:=0) W UG hw hl (λM t=>⟨rfl,t⟩)).run callerA _ [] [.ref a] s (⟨by z_go,by z_go,rfl,rfl⟩:Rm callerA 12) (.one .ref) S) λr s' hr=>?_)
 match r,hr with
 |.ok (.ret v),q=>
  cases q with|mk Z' M x le S' r' q=>
  obtain⟨rfl,t⟩:=q;refine av ((r':Is Z' (.bool true) v).xI) ?_;refine(l7 rfl (old_kept X ht hc S' t) ?_ ?_)
  ·obtain⟨_,_,S'⟩:=S';exact S'.os
  ·obtain⟨_,_,S'⟩:=S';exact .of_eq S'.gens
 |.error e,q=>cases q with|mk _ _ _ _ _ _ q=>exact q
theorem NW{args:List WData}(h:PySem.Challenge.rw_pq1005_01.row.claim.pre args=true):∃ns:List Int,args=[.list (ns.map WData.int)]/\ns.length<900:=by
 lk
 refine xA (pre_splitW (r:=PySem.Challenge.rw_pq1005_01.row.toRowW) h) λh1 h2=>?_;refine j0 (hasAllW_cons h1) λd r aw h3 h4=>?_;subst aw;obtain rfl:=hasAllW_nil h4;refine ai (hasW_list h3) λxs cS h5=>?_;subst cS;obtain⟨ns,rfl⟩:=CS h5;refine(ah ns rfl ?_);refine Nat.lt_of_not_le λkC=>?_;have h2:WTm.holds [] (.and (.not (.lt (.lit (.int ((63:Nat):Int))) (.len (.arg 0)))) (.lit (.bool true))) {args:=[.list (ns.map WData.int)]}=true:=h2
 have e:less? (WData.int 63) (WData.int (ns.length:Int))=some true:=by show some (decide ((63:Int)<(ns.length:Int)))=some true;rw[decide_eq_true (by exact aa ⟨1,0,[.gj 900 0],.tz (.k 63) .c0⟩ kC)]
 simp[WTm.holds,WTm.value,e] at h2
theorem Mo(l:List WData):PySem.Challenge.rw_pq1005_01.row.claim.post l (.bool true) l=true:=by x_go
theorem Q6(ok:PySem.Challenge.rw_pq1005_01.row.wellSaid=true):PySem.Challenge.rw_pq1005_01.row.Holds:=by
 refine PySem.W.holds_open (r:=PySem.Challenge.rw_pq1005_01.row) (q:=fO) (loose:=dO) (Xt:=jA) (XP:=XL fO []) (YP:=nx.says) Oe nx.of nx.keeps (λs e=>xl_of s (tB e).1) XL.keeps (by rfl) (by rfl) (by rfl) (λs e=>recFacts_of (tB e).2) (by rfl) ok (by z_go) ⟨rfl,rfl,rfl,rfl,rfl,by z_go⟩ ?hw ?hc
 case hw=>w_witness2
 intro w fm am mg mb gr hk a o pm cd nX dV kV h1 h2 h3 h4 h5 h6 args vals as p1 p2 p3 p4 p5;clear h1 h2 h3 h4 p2 p4 p5;have X:(KK w.params).In am.heap:=hk.1;have ht:am.heap.get? 1050=some (tabObj #[]):=hk.2 1050 (.head _);have T:=gr.T;have h5:mg (Str.ofString "law")=some (.ref a):=h5
 lk
 refine Exists.elim (T.seer (by x_go)).mods λU hs=>?_;have hc:codeHdIn (KK w.params) 1052 1050=true:=by x_go
 have W:=Mn T X (hs.1.elim λo q=>q.elim λU q=>q.elim λU q=>⟨o,q.1⟩) ht (by x_go) hc;refine Exists.elim (NW p1) λns hn=>?_;have e:Value.ref 1070=.ref a:=Option.some.inj ((mg_of (n:=Str.ofString "law") (v:=.ref 1070) X T.g (by x_go)).symm.trans h5)
 have p3:=hn.1▸p3;refine lL (readsAllW_cons_inv p3) λv rP a' b ev U r1 r2=>?_;refine ew (readsW_list_inv r1) λal vL U0 ea hL hr U=>?_;have h:=K2 W X ht hc h6 hL (λZ=>NV Z hr) hn.2;have en:vals=[.ref al]:=ev.trans (by rw[ea,(readsAllW_nil_inv r2).1]);refine ul (av en (av e.symm h):ag w callerA (call (.ref a) vals) _ _ am) (λv s' q=>?_) (λU U q=>q.elim);obtain⟨rfl,ok,os,gb⟩:=q;exact⟨.inl ⟨.bool true,.bool true,[],rfl,λU=>rfl,.bool _,Mo _,λU=>⟨.nil,λU h=>(by cases h)⟩⟩,ok,os,gb⟩
end
end Mine.Internal
theorem PySem.Challenge.cw_pq1005_01_holds : PySem.Challenge.rw_pq1005_01.Holds := by
 exact PySem.W.holds_law Mine.Internal.hd Mine.Internal.Q6
