import PyProof.Rows.All
import Wide.All
import OpenK.AllK
import Wide.FinOn
import KE.KDictLaws
import OpenK.KMake
import PyProof.Rows.TupDisplay
import PyProof.CompUse
import KE.KSortAsk
import KE.KDictOf
import PyProof.ListNew
import PyProof.AttrMissSeq
import KE.KDictSum
import KE.KSortTup
import Lean
import PySem.Challenge.RW_sf0020_01
set_option linter.all false
set_option genSizeOf false
set_option genInjectivity false
set_option bootstrap.genMatcherCode false
set_option Elab.async false
set_option tactic.hygienic false
noncomputable section
namespace Mine.Internal
section
open PySem PySem.W PyProof.Rows
def Y:=@rfl
def aa:=@Nat.le_trans
def ae:=@List.length_append
def ag:=@List.length_map
def aj:=@List.append_assoc
def ak:=@Option.some.inj
def ao:=@wpAny_bind
def aq:=@decide_eq_true
def ar:=@List.mem_append_right
def au:=@if_pos
def aw:=@Nat.le_add_right
def ay:=@wpAny_pure
def az:=@if_neg
def aB:=@of_decide_eq_true
def aC:=@List.append_nil
def aF:=@decide_eq_false
def aG:=@Nat.le_of_eq
def aJ:=@Nat.lt_of_lt_of_le
def aK:=@Nat.le_of_lt_succ
def aN:=@List.mem_of_getElem?
def aO:=@List.length_range
def aP:=@Heap.get?_push_of_some
def aQ:=@Nat.lt_of_le_of_lt
def aR:=@List.map_append
def aS:=@Nat.le_refl
def aW:=@List.getElem?_eq_getElem
def aX:=@List.map_congr_left
def aY:=@wpAny_mono
def aZ:=@List.map_cons
def a6:=@Nat.lt_succ_self
def a9:=@Nat.sub_add_cancel
def ba:=@Heap.get?_push_size
def bf:=@Nat.zero_le
def bh:=@List.nodup_nil
def bj:=@List.length_cons
def bl:=@List.mem_append_left
def bq:=@Nat.succ_le_succ
def br:=@List.getElem?_append_right
def bu:=@Nat.zero_add
def bx:=@Nat.le_of_lt
def bB:=@Nat.add_assoc
def bC:=@Nat.le_of_ble_eq_true
def bD:=@wpAny_holding
def bE:=@List.length_set
def bF:=@List.size_toArray
def bH:=@Nat.le_antisymm
def bJ:=@List.map_map
def bN:=@List.length_filter_le
def bO:=@Nat.succ_pos
def bP:=@List.take_of_length_le
def bQ:=@Exists.elim
def bW:=@List.getElem?_append_left
def bX:=@Nat.lt_add_of_pos_right
def bY:=@Nat.add_sub_cancel_left
def b0:=@Nat.le_succ
def b4:=@List.fst_mem_of_mem_zipIdx
def b9:=@List.idxOf_lt_length_of_mem
def cc:=@Nat.add_lt_add_left
def cj:=@Nat.min_eq_left
def ck:=@Nat.add_comm
def cq:=@Nat.lt_succ_of_le
def cu:=@Nat.lt_irrefl
def cw:=@List.cons.inj
def cy:=@decide_eq_true_eq
def cA:=@Nat.zero_mul
def cE:=@List.getElem?_map
def cF:=@Bool.and_eq_true
def cI:=@Nat.mul_le_mul_left
def cJ:=@Nat.le_add_left
def cL:=@List.length_take
def cM:=@List.length_replicate
def cO:=@List.getElem?_eq_none
def cP:=@Nat.sub_le
def cQ:=@List.length_zipIdx
def cU:=@Nat.add_sub_cancel'
def cV:=@Nat.add_le_add_left
def cW:=@List.mem_map_of_mem
def cX:=@List.flatMap_append
def cZ:=@Heap.lt_size
def c7:=@Nat.mul_le_mul_right
def c8:=@Nat.add_le_add_right
def c9:=@Nat.le_of_not_lt
def df:=@List.filter_cons
def dm:=@List.filter_append
def dA:=@List.lookup_cons
def dC:=@Nat.sub_self
def dF:=@Int.natCast_nonneg
def dG:=@List.length_singleton
def dH:=@Nat.ne_of_lt
def dI:=@List.getElem?_range
def dJ:=@Heap.SameBut.update
def dU:=@Nat.lt_of_lt_of_eq
def dW:=@List.getElem?_set_self
def dX:=@List.flatMap_singleton
def dY:=@Nat.not_lt_zero
def dZ:=@List.nodup_cons
def d4:=@wpAny_standAt
def ee:=@Nat.lt_of_succ_lt
def ef:=@Int.le_trans
def ej:=@Nat.exists_eq_add_of_le
def et:=@List.getElem?_take
def ew:=@List.getElem?_set_ne
def ey:=@Int.lt_of_le_of_lt
def eC:=@Nat.le_mul_of_pos_left
def eE:=@List.drop_eq_getElem_cons
def eJ:=@Nat.le_of_succ_le
def eK:=@List.take_sublist
def eM:=@List.eq_nil_of_length_eq_zero
def eN:=@Nat.eq_of_beq_eq_true
def eO:=@Nat.add_le_add
def eQ:=@Nat.lt_trans
def eR:=@Nat.add_zero
def eU:=@List.mem_singleton
def eX:=@wpAny_call_entry
def eY:=@congrFun
def eZ:=@List.getElem_mem
def fa:=@List.cons_append
def fb:=@List.append_cancel_left
def fh:=@List.sum_cons
def fk:=@wpAny_newObj_type
def fo:=@wpAny_dictEntries
def fp:=@Nat.le_succ_of_le
def fq:=@List.perm_ext_iff_of_nodup
def ft:=@List.foldl_append
def fu:=@List.drop_eq_nil_of_le
def fv:=@List.sum_append_nat
def fx:=@List.filter_sublist
def fC:=@List.take_append_drop
def fJ:=@List.Nodup.sublist
def fN:=@wpAny_typeNameOfWhole_keyiter
def fO:=@Nat.pow_le_pow_right
def fS:=@wpAny_truthy_bool
def fT:=@Nat.lt_succ_of_lt
def fU:=@Nat.add_sub_of_le
def fY:=@Nat.min_le_left
def fZ:=@List.mem_append
def f6:=@F.slot_dict_keyiterator_next
def gg:=@List.length_flatMap
def gq:=@Nat.lt_of_succ_lt_succ
def gr:=@Nat.le_of_succ_le_succ
def gw:=@Value.ref.inj
def gy:=@Nat.mul_add
def gA:=@Nat.min_eq_right
def gB:=@List.cons_ne_nil
def gC:=@List.Sublist.map
def gJ:=@Nat.pos_of_ne_zero
def gK:=@List.nodup_iff_pairwise_ne
def gL:=@Heap.size_push
def gM:=@Nat.sub_eq_zero_of_le
def gN:=@List.set_append_right
def gQ:=@Classical.byContradiction
def gW:=@getMethod_builtin
def gX:=@Nat.not_succ_le_zero
def gY:=@Nat.mul_comm
def gZ:=@Int.toNat_natCast
def hH:=@wpAny_typeNameOf_keyiter
def hU:=@Nat.succ_add_eq_add_succ
def hX:=@Nat.add_left_cancel
def ip:=@Nat.lt_of_not_le
def iq:=@List.nodup_range
def ir:=@List.getElem_map
def iu:=@List.drop_drop
def iw:=@List.Nodup.length_le_of_subset
def iB:=@Nat.mul_one
def iD:=@bind_congr
def iE:=@List.getElem_idxOf
def iF:=@Int.le_of_lt
def iO:=@Nat.add_sub_self_left
def iS:=@wpAny_richCompare_same_room
def iT:=@bne_self_eq_false
def iU:=@Option.bind_assoc
def iV:=@Nat.lt_trichotomy
def iW:=@List.reverse_cons
def iX:=@List.flatMap_cons
def i6:=@Nat.pow_pos
def i7:=@Nat.one_mul
def i8:=@Nat.add_lt_add_of_lt_of_le
def i9:=@List.take_take
def je:=@beq_self_eq_true
def jf:=@Nat.ne_of_gt
def jg:=@Nat.min_le_right
def jh:=@List.getElem_inj
def ji:=@List.append_cons
def jj:=@Iff.rfl
def js:=@Int.toNat_of_nonneg
def jy:=@List.mem_cons
def jA:=@wpAny_dictEpoch
def jB:=@List.forIn_cons
def jC:=@List.drop_left'
def jH:=@wpAny_rule
def jI:=@call_meets
def jJ:=@Nat.lt_or_eq_of_le
def jK:=@Nat.eq_zero_or_pos
def jL:=@List.getElem_range
def jM:=@List.getElem?_drop
def kg:=@codeAny_mono
def kh:=@Nat.sub_zero
def kj:=@List.set_set
def kl:=@Int.le_of_eq
def km:=@Bool.and_false
def kQ:=@beq_iff_eq
end
section
open Classical PySem
@[elab_as_elim] def J{P:U->Prop}(h:a=b)(e:P b):P a:=h▸e
@[elab_as_elim] def jn{P:U->Prop}(h:a=b)(e:P a):P b:=h▸e
@[elab_as_elim] def bV{P:O->U->Prop}(h:a=b)(k:c=d)(e:P b d):P a c:=J h<|J k e
@[elab_as_elim] def wo{P:M->O->U->Prop}(h:a=b)(k:c=d)(l:x=y)(e:P b d y):P a c x:=bV h k<|J l e
def mS{U:Type _}{a b:U}(h:a∈[b]):a=b:=List.mem_singleton.mp h
def mO{U:Type _}{a b:U}{l:List U}(h:a∈b::l):a=b\/a∈l:=List.mem_cons.mp h
@[elab_as_elim] def mE{U:Type _}{a b:U}{l:List U}{P:U->Prop}(h:a∈b::l)(c:P b)(d:a∈l->P a):P a:=(mO h).elim (λe=>e▸c) d
def mM{O U:Type _}{l:List O}{f:O->U}{y:U}(h:y∈l.map f):∃a,a∈l/\f a=y:=List.mem_map.mp h
def GL{O U:Type _}{l:List O}{f:O->U}{y:U}(h:∃a,a∈l/\f a=y):y∈l.map f:=List.mem_map.mpr h
def mA{U:Type _}{a:U}{l m:List U}(h:a∈l++m):a∈l\/a∈m:=List.mem_append.mp h
def mR{n k:Nat}(h:n∈List.range k):n<k:=List.mem_range.mp h
def Ii{n k:Nat}(h:n<k):n∈List.range k:=List.mem_range.mpr h
def mF{U:Type _}{a:U}{l:List U}{p:U->Bool}(h:a∈l.filter p):a∈l/\p a=true:=List.mem_filter.mp h
def aT{U:Type _}{l:List U}{p:U->Bool}(h:l.all p=true):∀x,x∈l->p x=true:=List.all_eq_true.mp h
def NF{U:Type _}{l:List U}{p:U->Bool}(h:∀x,x∈l->p x=true):l.all p=true:=List.all_eq_true.mpr h
def nC{U:Type _}{a:U}{l:List U}(h:(a::l).Nodup):a∉l/\l.Nodup:=List.nodup_cons.mp h
def Ma{U:Type _}{a:U}{l:List U}(h:a∉l/\l.Nodup):(a::l).Nodup:=List.nodup_cons.mpr h
def nA{U:Type _}{l m:List U}(h:(l++m).Nodup):l.Nodup/\m.Nodup/\∀a,a∈l->∀b,b∈m->a≠b:=List.nodup_append.mp h
def dD{p q:Prop}{i:Decidable p}{j:Decidable q}(h:p↔q):decide p=decide q:=decide_eq_decide.mpr h
def J5{a b:Bool}(h:a=true/\b=true):(a&&b)=true:=Bool.and_eq_true_iff.mpr h
inductive Ln|v(i:Nat)|c(k:Nat)|s(x:Ln)|a(x y:Ln)|m(k:Nat)(x:Ln)|n(x:Ln)(k:Nat)
inductive Lh|e(k:Nat)(l r:Ln)|q(k:Nat)(l r:Ln)|p(k:Nat)(l r:Ln)|n(k:Nat)(l r:Ln)
noncomputable abbrev ax:Ln:=.v 0
noncomputable abbrev aE:Ln:=.v 1
noncomputable abbrev a7:Ln:=.v 2
noncomputable abbrev cz:Ln:=.v 3
noncomputable abbrev g7:Ln:=.v 4
noncomputable abbrev wG:Ln:=.v 5
noncomputable abbrev Mg:Ln:=.v 6
noncomputable abbrev aH:Ln->Ln->Lh:=.e 1
noncomputable def Ve(s:List Nat):Nat->Nat:=s.rec (λU=>0) λa _ f i=>i.rec a λi _=>f i
def Ln.d(s:List Nat)(t:Ln):Nat:=t.rec (Ve s) id (λU x=>x+1) (λU U x y=>x+y) (λk U x=>k*x) λU k x=>x*k
noncomputable def mQ(s:List Nat):List Nat->Nat:=s.rec (λO=>0) λa _ f l=>l.rec 0 λb U _=>a*b+f U
noncomputable def q7(x:List Nat):List Nat->List Nat:=x.rec id λa O f y=>y.rec (a::O) λb U M=>(a+b)::f U
noncomputable def U7(i:Nat):List Nat:=i.rec [1] λU x=>0::x
noncomputable def sj(k:Nat)(x:List Nat):List Nat:=x.map (k* ·)
def Ln.z(t:Ln):List Nat:=t.rec (λi=>U7<|i+1) (λk=>[k]) (λU x=>q7 [1] x) (λU U x y=>q7 x y) (λk U x=>sj k x) λU k x=>sj k x
noncomputable def Zm(x:List Nat):List Nat->Bool:=x.rec (λU=>true) λa U f y=>y.rec (Nat.ble a 0&&f []) λb O U=>Nat.ble a b&&f O
def X1(h:List Lh):List Nat->List Nat->Bool:=h.rec Zm λq U f a b=>
 q.rec (λk l r=>f (q7 a<|sj k r.z)<|q7 b<|sj k l.z) (λk l r=>f (q7 a<|sj k r.z)<|q7 b<|sj k l.z) (λk l r=>f (q7 a<|sj k l.z)<|q7 b<|sj k r.z) λk l r=>f (q7 a<|sj k l.z)<|q7 b<|sj k r.s.z
def X0(s:List Nat)(h:List Lh)(g:Prop):Prop:=h.rec g λq U p=>q.rec (λU l r=>l.d s<=r.d s) (λU l r=>l.d s=r.d s) (λU l r=>l.d s=r.d s) (λU l r=>¬l.d s<=r.d s)->p
def oM(s:List Nat):mQ s []=0:=by induction s<;>rfl
def rn(s:List Nat):∀x y:List Nat,mQ s (q7 x y)=mQ s x+mQ s y:=s.rec (by intro x y;exact rfl) λa s U x y=>x.casesOn ((bu _).symm) λb x=>y.casesOn Y λc y=>by show a*(b+c)+mQ s (q7 x y)=(a*b+mQ s x)+(a*c+mQ s y);rw [U];exact J (gy ..)<|Nat.add_add_add_comm ..
def rm(k:Nat)(s:List Nat):∀x:List Nat,mQ s (sj k x)=k*mQ s x:=s.rec (by intro x;exact rfl) λa s U x=>x.casesOn Y λb x=>((congrArg (a*(k*b)+ ·)<|U x).trans (congrArg (· +k*mQ s x)<|Nat.mul_left_comm a k b)).trans (gy k ..).symm
def It(s:List Nat):∀i:Nat,mQ s (U7 i)=Ve s i:=s.rec (by intro i;exact rfl) λa s U i=>i.casesOn ((congrArg (a*1+ ·)<|oM s).trans<|iB a) λi=>(congrArg (a*0+ ·)<|U i).trans<|bu _
def DJ(s:List Nat)(t:Ln):mQ (1::s) t.z=t.d s:=t.rec (λi=>It (1::s)<|i+1) (λk=>(congrArg (1*k+ ·)<|oM s).trans<|i7 k) (λx U=>(rn ..).trans ((congrArg (mQ (1::s) [1]+ ·) U).trans ((congrArg (· +x.d s) (congrArg (1+ ·)<|oM s)).trans<|ck ..))) (λx y M O=>(rn ..).trans<|congr (congrArg _ M) O) (λk x h=>(rm ..).trans<|congrArg _ h) λx k h=>(rm ..).trans<|(congrArg _ h).trans<|gY ..
def Qs(s:List Nat):∀x y:List Nat,Zm x y=true->mQ s x<=mQ s y:=s.rec (by intro x y _;exact aS 0) λa s M=>by
  intro x y h;cases x with
  |nil=>exact bf _
  |cons b x=>
   induction y with
   |nil=>exact(Bool.and_eq_true_iff.mp h).elim λO U=>eO (cI a<|bC O)<|aa (M x [] U)<|aG<|oM s
   |cons c y=>exact(Bool.and_eq_true_iff.mp h).elim λO U=>eO (cI a<|bC O)<|M x y U
def DN{u v:Ln}{P:Prop}(h:u.d s<=v.d s)(f:mQ (1::s) x<=mQ (1::s) y->P)(e:mQ (1::s) (q7 x<|sj k v.z)<=mQ (1::s) (q7 y<|sj k u.z)):P:=by rw [rn,rn,rm,rm,DJ,DJ] at e;exact f<|Nat.le_of_add_le_add_right<|aa e<|cV (cI k h) _
def Vc(s:List Nat)(h:List Lh):∀a b:List Nat,X1 h a b=true->(mQ (1::s) a<=mQ (1::s) b->P)->X0 s h P:=h.rec (by intro a b h f;exact f<|Qs _ a b h) λq h U=>by
  intro a b e f;induction q with
  |e k l r=>exact λu=>U _ _ e<|DN u f
  |q k l r=>exact λu=>U _ _ e<|DN (aG u) f
  |p k l r=>exact λu=>U _ _ e<|DN (aG u.symm) f
  |n k l r=>exact λu=>U _ _ e<|DN (ip u) f
def lq(s:List Nat)(h:List Lh)(a b:Ln)(e:X1 h a.z b.z=true):X0 s h (a.d s<=b.d s):=Vc s h _ _ e λh=>by rwa [DJ,DJ] at h
def tH(s:List Nat)(h:List Lh)(e:X1 h [1] []=true):X0 s h P:=Vc s h _ _ e λh=>absurd (aa (aw 1<|mQ s [])<|aa h<|aG<|oM _)<|gX _
def wB(x y:Nat):x<=x-y+y:=Nat.le_add_of_sub_le .refl
end
section
open Classical PyProof.Rows PySem PySem.W
def cps{G:Prop}(h:∀P:Prop,(G->P)->P):G:=h G id
section
variable{P:Prop}
def eg(e:none=some x):P:=nomatch e
def sm{P:U->Prop}(e:some x=some y)(k:P x):P y:=ak e▸k
def NX{P:N->M->Prop}(e:some (x,y)=(O,U))(k:P x y):P O U:=by cases e;exact k
@[elab_as_elim] def LS{P:N->M->Prop}(e:(x,y)=(O,U))(k:P x y):P O U:=by cases e;exact k
def dj{f:α->Option U}(e:x.bind f=some r)(k:∀y,x=some y->f y=some r->P):P:=by
 induction x with
 |none=>exact eg e
 |some y=>exact k y Y e
def lT{_:Decidable c}{y:U}(h:(if c then some x else none)=y)(k:c->x=y->P):P:=if q:c then(by replace h:=(au q)▸h;injection h with h;subst h;exact k q Y)else by replace h:=(az q)▸h;exact eg h
def jq{_:Decidable c}(h:(if c then x else y)=r)(k:c->x=r->P)(l:¬c->y=r->P):P:=if q:c then(by rw [au q] at h;exact k q h)else by rw [az q] at h;exact l q h
end
section
variable{P:Prop}
def nb(h:false=true):P:=Bool.noConfusion h
def bn(h:true=false):P:=Bool.noConfusion h
def so(h:some x=none):P:=eg h.symm
def iZ(h:x∈[]):P:=absurd h List.not_mem_nil
def nl(h:[]=x::l):P:=absurd h (gB x l).symm
def ln(h:x::l=[]):P:=absurd h<|gB x l
def n0(h:n<0):P:=absurd h<|dY n
def zs(h:0=n+1):P:=Nat.noConfusion h
def sz(h:n+1=0):P:=Nat.noConfusion h
def memC{P:U->Prop}(h:x∈y::l)(a:P y)(b:x∈l->P x):P x:=(mO h).elim (λe=>J e a) b
end
set_option genInjectivity true in
inductive KA where
 |int (i:Int)
 |str (s:List Nat)
 deriving DecidableEq
set_option genInjectivity true in
inductive KV where
 |i (n:Int)
 |t (ks:List KA)
 deriving DecidableEq
inductive AV where
 |none
 |bool (b:Bool)
 |int (i:Int)
 |str (s:List Nat)
 |aL (xs:List AV)
 |aM (xs:List AV)
 |bK (es:List (KV×AV))
 |obj (c:Nat) (fs:List (Nat×AV))
 |sS (a b:Int)
 |ref (n:Nat)
 deriving Inhabited
inductive AC where
 |L (xs:List AV)
 |D (es:List (KV×AV))
 |O (c:Nat) (fs:List (Nat×AV))
 deriving Inhabited
noncomputable def LH(p:Nat->Bool)(a:AV):Bool:= @AV.rec (λU=>Bool) (λU=>Bool) (λU=>Bool) (λU=>Bool) (λU=>Bool) (λU=>Bool) true (λU=>true) (λU=>true) (λU=>true) (λU b=>b) (λU U=>true) (λU U=>true) (λU U U=>true) (λU U=>true) p true (λU U a b=>a&&b) true (λU U a b=>a&&b) true (λU U a b=>a&&b) (λU U a=>a) (λU U a=>a) a
noncomputable def yd(p:Nat->Bool)(a:List AV):Bool:= @AV.rec_1 (λU=>Bool) (λU=>Bool) (λU=>Bool) (λU=>Bool) (λU=>Bool) (λU=>Bool) true (λU=>true) (λU=>true) (λU=>true) (λU b=>b) (λU U=>true) (λU U=>true) (λU U U=>true) (λU U=>true) p true (λU U a b=>a&&b) true (λU U a b=>a&&b) true (λU U a b=>a&&b) (λU U a=>a) (λU U a=>a) a
def wC{U:Type}(p:Nat->Bool)(O:List (U×AV)):Bool:=O.rec true λe M b=>LH p e.2&&b
noncomputable abbrev H0:Nat->Bool:=λU=>false
abbrev f7:AV->Bool:=LH H0
abbrev gD:List AV->Bool:=yd H0
abbrev jN:List (KV×AV)->Bool:=wC H0
abbrev ml:List (Nat×AV)->Bool:=wC H0
abbrev below(k:Nat):AV->Bool:=LH λn=>decide<|n<k
abbrev belows(k:Nat):List AV->Bool:=yd λn=>decide<|n<k
abbrev lF(k:Nat):List (KV×AV)->Bool:=wC λn=>decide<|n<k
abbrev mK(k:Nat):List (Nat×AV)->Bool:=wC λn=>decide<|n<k
noncomputable def xF:List Str:=["kind", "text", "at", "worth", "number", "left", "right", "level_of", "action", "line", "before", "names", "terminal_count", "rules", "levels", "expect", "start", "by_left", "offsets", "owners", "item_count", "name", "rule", "children", "token"]
def attrName(n:Nat):Str:=xF.getD n Str.empty
structure Gh where
 fA:Addr->Prop
 mu:List (Addr×Addr)
 ro:Nat
inductive ql(l:List (Addr×Addr))(a:Addr):Prop
 |mk (p) (m:p∈l) (e:a=p.1\/a=p.2)
inductive gV(h:Heap)(a:Addr):Prop
 |mk (o) (e:h.get? a=some o)
inductive Bnd{α β:Type}(x:Option α)(f:α->Option β)(r:β):Prop
 |mk (y) (e:x=some y) (d:f y=some r)
def qb{f:O->Option U}{r}(h:x.bind f=some r):Bnd x f r:=by
 induction x with
 |none=>exact eg h
 |some y=>exact⟨y,Y,h⟩
inductive ED{β:Type}(R:β->Prop)(S:List β->Prop)(l:List β):Prop
 |mk (u us) (e:l=u::us) (a:R u) (b:S us)
inductive NM(H:DictEntry->Prop)(K:Value->Prop)(R:Value->Prop)(S:List DictEntry->Prop)(l:List DictEntry):Prop
 |mk (u us) (e:l=u::us) (q:H u) (k:K u.key) (a:R u.val) (b:S us)
inductive NJ(K:Value->Prop)(R:Value->Prop)(S:List DictEntry->Prop)(l:List DictEntry):Prop
 |mk (u us) (e:l=u::us) (k:K u.key) (a:R u.val) (b:S us)
inductive AX{β:Type}(g:Gh)(h:Heap)(o:List β->Nat->Obj)(R:List β->Prop)(v:Value):Prop
 |mk (a vs n) (e:v=.ref a) (i:g.fA a) (p:h.get? a=some (o vs n)) (r:R vs)
inductive TH(g:Gh)(n:Nat)(v:Value):Prop
 |mk (p) (e:g.mu[n]? =some p) (d:v=.ref p.1)
inductive Z2{β:Type}(h:Heap)(p:Addr×Addr)(o:List β->Nat->Obj)(R:List β->Prop):Prop
 |mk (e:p.2=p.1) (vs n) (d:h.get? p.1=some (o vs n)) (r:R vs)
noncomputable def Gh.add(g:Gh)(a:Addr):Gh:={g with fA:=λb=>g.fA b\/b=a}
noncomputable def Gh.own(g:Gh)(p:Addr×Addr):Gh:={g with mu:=g.mu++[p]}
noncomputable def Gh.cut(g:Gh)(U:Nat):Gh:={fA:=λb=>g.fA b\/ql (g.mu.drop U) b,mu:=g.mu.take U,ro:=g.ro}
noncomputable def gh(U:List Value)(n:Nat):Obj:={cls:=.type "tuple",data:=.seq U.toArray n}
noncomputable def du(U:List Value)(n:Nat):Obj:={cls:=.type "list",data:=.seq U.toArray n}
noncomputable def d6(U:List DictEntry)(n:Nat):Obj:={cls:=.type "dict",data:=.dict U.toArray n}
noncomputable def oO(C:Addr)(d:Addr):Obj:={cls:=.ref C,dict:=some d}
noncomputable def PZ(a b:Int)(t u v:Tok):Obj:={cls:=.type "range",dict:=none,data:=.fields #[.int a t,.int b u,.int 1 v],slots:= #[]}
inductive Wv(g:Gh)(h:Heap)(c:Nat)(R:List DictEntry->Prop)(v:Value):Prop
 |mk (a d vs n) (e:v=.ref a) (i:g.fA a) (j:g.fA d) (p:h.get? a=some (oO c d)) (q:h.get? d=some (d6 vs n)) (r:R vs)
inductive Wr(g:Gh)(h:Heap)(a b:Int)(v:Value):Prop
 |mk (r t u x) (e:v=.ref r) (i:g.fA r) (p:h.get? r=some (PZ a b t u x))
inductive OcR(h:Heap)(c:Nat)(p:Addr×Addr)(R:List DictEntry->Prop):Prop
 |mk (e:h.get? p.1=some (oO c p.2)) (vs n) (d:h.get? p.2=some (d6 vs n)) (r:R vs)
noncomputable def wF(l:List Nat):Str:=⟨l.toArray⟩
def I7(w:World):KA->Int
 | .int i=>hashInt i
 | .str l=>hashStr w<|wF l
def yG(w:World):KV->Int
 | .i n=>hashInt n
 | .t ks=>reduceHash<|Builtin.Tuple.tupleHashOf<|ks.map<|I7 w
def GP:KA->Value->Prop
 | .int i,v=>∃t,v=.int i t
 | .str l,v=>∃t,v=.str (wF l) t
noncomputable def rT:List KA->List Value->Prop
 |[],vs=>vs=[]
 |k::ks,vs=>ED (GP k) (rT ks) vs
def xI(g:Gh)(h:Heap):KV->Value->Prop
 | .i n,v=>∃t,v=.int n t
 | .t ks,v=>AX g h gh (rT ks) v
section
variable(w:World)(g:Gh)(h:Heap)
mutual
noncomputable def VR:AV->Value->Prop
 | .none,v=>v=.none
 | .bool b,v=>v=.bool b
 | .int i,v=>∃t,v=.int i t
 | .str l,v=>∃t,v=.str (wF l) t
 | .aL xs,v=>AX g h gh (eT xs) v
 | .aM xs,v=>AX g h du (λO=>eT xs O/\gD xs=true) v
 | .bK es,v=>AX g h d6 (λU=>lh es U/\(es.map (·.1)).Nodup/\jN es=true) v
 | .obj c fs,v=>Wv g h c (λU=>qE fs U/\ml fs=true) v
 | .sS a b,v=>Wr g h a b v
 | .ref n,v=>TH g n v
noncomputable def eT:List AV->List Value->Prop
 |[],vs=>vs=[]
 |x::xs,vs=>ED (VR x) (eT xs) vs
noncomputable def lh:List (KV×AV)->List DictEntry->Prop
 |[],ds=>ds=[]
 |(k,x)::es,ds=>NM (λe=>e.hash=yG w k) (xI g h k) (VR x) (lh es) ds
noncomputable def qE:List (Nat×AV)->List DictEntry->Prop
 |[],ds=>ds=[]
 |(k,x)::es,ds=>NJ (λv=>∃t,v=.str (attrName k) t) (VR x) (qE es) ds
end
def CR:AC->Addr×Addr->Prop
 | .L xs,p=>Z2 h p du<|eT w g h xs
 | .D es,p=>Z2 h p d6 (λU=>lh w g h es U/\(es.map (·.1)).Nodup)
 | .O c fs,p=>OcR h c p<|qE w g h fs
noncomputable def rY:List AC->List (Addr×Addr)->Prop
 |[],ps=>ps=[]
 |c::cs,ps=>ED (CR w g h c) (rY cs) ps
end
structure Keeps(g:Gh)(h:Heap)(g':Gh)(h':Heap):Prop where
 fA:∀a,g.fA a->g'.fA a
 get:∀a o,g.fA a->h.get? a=some o->h'.get? a=some o
 mu:∀(n:Nat) p,g.mu[n]? =some p->g'.mu[n]? =some p
structure OY(g:Gh)(h:Heap)(g':Gh)(h':Heap):Prop where
 fA:∀a,g.fA a->g'.fA a
 get:∀a o,g.fA a->h.get? a=some o->h'.get? a=some o
set_option tactic.hygienic true in
def AX.imp(K:OY g h O U)(f:∀vs,P vs->M vs)(x:AX g h o P v):AX O U o M v:=by induction x;rename_i a vs n e i p r;exact⟨a,vs,n,e,K.fA _ i,K.get _ _ i p,f _ r⟩
set_option tactic.hygienic true in
def AX.elim{o}{P:List U->Prop}{v}{G:Prop}(x:AX g h o P v)(f:∀vs,P vs->G):G:=by induction x;rename_i a vs n e i p r;exact f _ r
set_option tactic.hygienic true in
def ED.imp{S U}(x:ED R S l)(f:∀u,R u->M u)(k:∀l,S l->U l):ED M U l:=by induction x;rename_i u O e a b;exact⟨u,O,e,f _ a,k _ b⟩
set_option tactic.hygienic true in
def ED.elim{S}{G:Prop}(x:ED R S l)(f:∀u us,R u->S us->G):G:=by induction x;rename_i u us e a b;exact f u us a b
section
variable{G:Prop}
set_option tactic.hygienic true in
def NM.imp(x:NM H Jzq R S l)(q:∀v,Jzq v->N v)(f:∀u,R u->M u)(k:∀l,S l->O l):NM H N M O l:=by induction x;rename_i u U e z y a b;exact⟨u,U,e,z,q _ y,f _ a,k _ b⟩
set_option tactic.hygienic true in
def NJ.imp(x:NJ Jzq R S l)(f:∀u,R u->M u)(k:∀l,S l->O l):NJ Jzq M O l:=by induction x;rename_i u U e y a b;exact⟨u,U,e,y,f _ a,k _ b⟩
set_option tactic.hygienic true in
def NM.elim(x:NM H Jzq R S l)(f:∀u us,R u->S us->G):G:=by induction x;rename_i u us e z y a b;exact f _ us a b
set_option tactic.hygienic true in
def NJ.elim(x:NJ Jzq R S l)(f:∀u us,R u->S us->G):G:=by induction x;rename_i u us e y a b;exact f _ us a b
set_option tactic.hygienic true in
def Wv.imp(K:OY g h O U)(f:∀vs,P vs->M vs)(x:Wv g h c P v):Wv O U c M v:=by induction x;rename_i a d vs n e i j p q r;exact⟨a,d,vs,n,e,K.fA _ i,K.fA _ j,K.get _ _ i p,K.get _ _ j q,f _ r⟩
set_option tactic.hygienic true in
def Wr.imp{a b}(K:OY g h O U)(x:Wr g h a b v):Wr O U a b v:=by induction x;rename_i r t u z e i o;exact⟨r,t,u,z,e,K.fA _ i,K.get _ _ i o⟩
end
def a8(h:(a&&b)=true):a=true/\b=true:=Bool.and_eq_true_iff.mp h
def xI.mono(K:OY g h g' U)(x:xI g h k v):xI g' U k v:=by
 induction k with
 |i n=>exact x
 |t ks=>exact AX.imp K (λO r=>r) x
abbrev Hm(g U:Gh)(p:Nat->Bool):Prop:=∀n q,p n=true->g.mu[n]? =some q->U.mu[n]? =some q
def Te:Hm g O H0:=λU U=>nb
abbrev Mo(w:World)(g:Gh)(h:Heap)(U:Gh)(O:Heap)(a:AV):Prop:=∀p v,Hm g U p->LH p a=true->VR w g h a v->VR w U O a v
abbrev Wy(w:World)(g:Gh)(h:Heap)(U:Gh)(O:Heap)(a:List AV):Prop:=∀p v,Hm g U p->yd p a=true->eT w g h a v->eT w U O a v
abbrev Wx(w:World)(g:Gh)(h:Heap)(U:Gh)(O:Heap)(a:List (KV×AV)):Prop:=∀p v,Hm g U p->wC p a=true->lh w g h a v->lh w U O a v
abbrev Ww(w:World)(g:Gh)(h:Heap)(U:Gh)(O:Heap)(a:List (Nat×AV)):Prop:=∀p v,Hm g U p->wC p a=true->qE w g h a v->qE w U O a v
section
variable(K:OY g h g' h')
def Ia:Wy w g h g' h' []:=λU U U U x=>x
def DF(a:Mo w g h g' h' y)(b:Wy w g h g' h' O):Wy w g h g' h' (y::O):=λU U H q x=>ED.imp x (λU=>a _ _ H (a8 q).1) λU=>b _ _ H (a8 q).2
def DH:Wx w g h g' h' []:=λU U U U x=>x
def DG:Ww w g h g' h' []:=λU U U U x=>x
include K
theorem zK(a:Mo w g h g' h' y.2)(b:Wx w g h g' h' O):Wx w g h g' h' (y::O):=λU U H q x=>NM.imp x (λU=>xI.mono K) (λU=>a _ _ H (a8 q).1) λU=>b _ _ H (a8 q).2
theorem zJ(a:Mo w g h g' h' y.2)(b:Ww w g h g' h' O):Ww w g h g' h' (y::O):=λU U H q x=>NJ.imp x (λU=>a _ _ H (a8 q).1) λU=>b _ _ H (a8 q).2
theorem VR.mon a:Mo w g h g' h' a:=
 @AV.rec (Mo w g h g' h') (Wy w g h g' h') (Wx w g h g' h') (Ww w g h g' h') (λe=>Mo w g h g' h' e.2) (λe=>Mo w g h g' h' e.2) (λU U U U x=>x) (λU U U U U x=>x) (λU U U U U x=>x) (λU U U U U x=>x)
  (λU O U U H q x=>AX.imp K (λU=>O _ _ H q) x) (λU O U U U U x=>AX.imp K (λU r=>⟨O _ _ Te r.2 r.1,r.2⟩) x) (λU O U U U U x=>AX.imp K (λU r=>⟨O _ _ Te r.2.2 r.1,r.2⟩) x) (λU U O U U U U x=>Wv.imp K (λU r=>⟨O _ _ Te r.2 r.1,r.2⟩) x)
  (λU U U U U U=>Wr.imp K) (λn U U H q x=>by obtain⟨b,e,d⟩:=x;exact⟨b,H _ _ q e,d⟩) Ia (λU U=>DF) DH (λU U=>zK K) DG (λU U=>zJ K) (λU U a=>a) (λU U a=>a) a
theorem eT.mon U:Wy w g h g' h' U:=U.rec Ia λy M O=>DF (VR.mon K y) O
theorem lh.mon U:Wx w g h g' h' U:=U.rec DH λy M O=>zK K (VR.mon K y.2) O
theorem qE.mon U:Ww w g h g' h' U:=U.rec DG λy M O=>zJ K (VR.mon K y.2) O
end
section
variable{p q:Nat->Bool}(H:∀n,p n=true->q n=true)
include H
theorem tV a:LH p a=true->LH q a=true:=
 @AV.rec (λa=>LH p a=true->LH q a=true) (λa=>yd p a=true->yd q a=true) (λU=>True) (λU=>True) (λU=>True) (λU=>True) id (λU=>id) (λU=>id) (λU=>id) (λU O=>O) (λU U=>id) (λU U=>id) (λU U U=>id) (λU U=>id) H id (λU U a b x=>J5 ⟨a (a8 x).1,b (a8 x).2⟩) trivial (λU U U U=>trivial) trivial (λU U U U=>trivial) (λU U U=>trivial) (λU U U=>trivial) a
theorem uG a:yd p a=true->yd q a=true:=a.rec id λy O U x=>J5 ⟨tV H y (a8 x).1,U (a8 x).2⟩
theorem oC(a:List (O×AV)):wC p a=true->wC q a=true:=a.rec id λy M U x=>J5 ⟨tV H y.2 (a8 x).1,U (a8 x).2⟩
end
abbrev Rf(w:World)(g:Gh)(h:Heap)(p:Nat->Bool)(a:AV):Prop:=∀{v},VR w g h a v->LH p a=true
def AL(x:a=true)(y:b=true):(a&&b)=true:=J5 ⟨x,y⟩
def VR.rf(H:∀n q,g.mu[n]? =some q->p n=true) a:Rf w g h p a:=
 @AV.rec (Rf w g h p) (λO=>∀{v},eT w g h O v->yd p O=true) (λU=>True) (λU=>True) (λU=>True) (λU=>True) (λU=>rfl) (λU U U=>rfl) (λU U U=>rfl) (λU U U=>rfl) (λ_ M _ x=>AX.elim x λ_=>M) (λU U U U=>rfl) (λU U U U=>rfl) (λU U U U U=>rfl) (λU U U U=>rfl)
  (λn U x=>by obtain⟨q,e,_⟩:=x;exact H n q e) (λU=>rfl) (λ_ _ a b _ x=>ED.elim x λ_ _ r s=>AL (a r)<|b s) trivial (λU U U U=>trivial) trivial (λU U U U=>trivial) (λU U U=>trivial) (λU U U=>trivial) a
theorem eT.rf(H:∀n q,g.mu[n]? =some q->p n=true){U}:∀{v},eT w g h U v->yd p U=true:=by
 induction U with
 |nil=>exact λN=>rfl
 |cons y M O=>exact λx=>ED.elim x λ_ _ r s=>AL (VR.rf H y r)<|O s
theorem lh.rf(H:∀n q,g.mu[n]? =some q->p n=true):∀{v},lh w g h U v->wC p U=true:=by
 induction U with
 |nil=>exact λN=>rfl
 |cons y M O=>exact λx=>NM.elim x λ_ _ r s=>AL (VR.rf H y.2 r)<|O s
theorem qE.rf(H:∀n q,g.mu[n]? =some q->p n=true):∀{v},qE w g h U v->wC p U=true:=by
 induction U with
 |nil=>exact λN=>rfl
 |cons y M O=>exact λx=>NJ.elim x λ_ _ r s=>AL (VR.rf H y.2 r)<|O s
section
variable(K:Keeps g h g' h')
include K
theorem Keeps.ke:OY g h g' h':=⟨K.fA,K.get⟩
theorem VR.mono(x:VR w g h a v):VR w g' h' a v:=VR.mon K.ke a (λU=>true) _ (λn q U=>K.mu n q) (VR.rf (λU U U=>rfl) a x) x
theorem eT.mono(x:eT w g h a O):eT w g' h' a O:=eT.mon K.ke a (λU=>true) _ (λn q U=>K.mu n q) (eT.rf (λU U U=>rfl) x) x
theorem lh.mono(x:lh w g h a O):lh w g' h' a O:=lh.mon K.ke a (λU=>true) _ (λn q U=>K.mu n q) (lh.rf (λU U U=>rfl) x) x
theorem qE.mono(x:qE w g h a O):qE w g' h' a O:=qE.mon K.ke a (λU=>true) _ (λn q U=>K.mu n q) (qE.rf (λU U U=>rfl) x) x
end
structure Cx where
 prog:Program
 w:World
 B:Heap
 b3:gV B 3
noncomputable abbrev Cx.m(C:Cx):=model C.prog C.w
def sep(p q:Addr×Addr):Prop:=p.1≠q.1/\p.1≠q.2/\p.2≠q.1/\p.2≠q.2
structure cH(C:Cx)(g:Gh)(st:List AC)(h:Heap):Prop where
 base:∀a o,C.B.get? a=some o->h.get? a=some o/\(a≠1->g.fA a)
 one:¬g.fA 1/\¬ql g.mu 1
 live:∀a,g.fA a->gV h a
 cells:rY C.w g h st g.mu
 lg:∀a,ql g.mu a->¬g.fA a
 fW:g.mu.Pairwise sep
 iJ:g.ro<=g.mu.length
structure fg(fl:Nat)(W:Addr->Prop)(g:Gh)(s:Shared)(g':Gh)(s':Shared):Prop where
 live:∀a,gV s.heap a->gV s'.heap a
 fA:∀a,g.fA a->g'.fA a
 keep:∀a o,s.heap.get? a=some o->¬W a->¬ql (g.mu.drop g.ro) a->s'.heap.get? a=some o
 len:fl<=g.mu.length/\fl<=g'.mu.length
 ro:g'.ro=g.ro
 rl:g.ro<=fl
 mu:g'.mu.take fl=g.mu.take fl
 new:∀a,gV s.heap a->g'.fA a->g.fA a\/ql (g.mu.drop fl) a
 own:∀a,gV s.heap a->ql (g'.mu.drop fl) a->ql (g.mu.drop fl) a
 gens:s'.gens=s.gens
 os:s'.os=s.os
abbrev nx:Addr->Prop:=λU=>False
def mw:ql (l++k) a↔ql l a\/ql k a:=by
 constructor
 .rintro⟨p,U,e⟩;exact(mA U).elim (λh=>.inl ⟨p,h,e⟩) λh=>.inr ⟨p,h,e⟩
 .rintro(⟨p,h,e⟩|⟨p,h,e⟩)
  .exact⟨p,bl _ h,e⟩
  .exact⟨p,ar _ h,e⟩
def eB l n a:ql l a↔ql (l.take n) a\/ql (l.drop n) a:=by
 conv=>lhs;rw [<-fC n l]
 exact mw
def t9:¬ql [] a:=λq=>by obtain⟨_,h,_⟩:=q;exact iZ h
def ma{l:List (Addr×Addr)}(U:m<=n)(h:ql (l.drop n) a):ql (l.drop m) a:=by
 obtain⟨p,O,e⟩:=h;refine⟨p,?_,e⟩;have:l.drop n=(l.drop m).drop (n-m):=by refine J iu ?_;congr 1;exact Eq.symm<|fU U
 exact List.mem_of_mem_drop<|jn this O
def iA(h:ql (l.drop n) a):ql l a:=(eB _ n _).mpr<|.inr h
def Dr(x:fg U W g s O H)(M:k<=U):∀a,gV s.heap a->ql (O.mu.drop k) a->ql (g.mu.drop k) a:=λa l i=>((eB (O.mu.drop k) (U-k) a).mp i).elim (λh=>by
  have e:(O.mu.drop k).take (U-k)=(g.mu.drop k).take (U-k):=by have D:(O.mu.drop k).take (U-k)=(O.mu.take U).drop k:=jn List.drop_take Y;have N:(g.mu.drop k).take (U-k)=(g.mu.take U).drop k:=jn List.drop_take Y;exact D.trans (bV N x.mu Y)
  exact(eB ..).mpr (.inl<|jn e h)) λh=>ma M<|x.own a l<|jn (fU M)<|jn iu h
def fg.refl(O:fl<=g.mu.length)(M:g.ro<=fl):fg fl W g s g s:=
 ⟨λU x=>x,λU x=>x,λU U x U U=>x,⟨O,O⟩,Y,M,Y,λU U=>.inl,λU U x=>x,Y,Y⟩
def fg.trans'(x:fg M W g s L s1)(y:fg M P L s1 H s2)(N:∀a,gV s.heap a->P a->W a):fg M W g s H s2 where
 live:=λa h=>y.live a<|x.live a h
 fA:=λa h=>y.fA a<|x.fA a h
 keep:=λa o e U O=>y.keep a o (x.keep a o e U O) (λq=>U<|N a ⟨o,e⟩ q) λD=>O<|Dr x x.rl a ⟨o,e⟩<|jn x.ro D
 len:=⟨x.len.1,y.len.2⟩
 ro:=y.ro.trans x.ro
 rl:=x.rl
 mu:=y.mu.trans x.mu
 new:=λa l i=>(y.new a (x.live a l) i).elim (x.new a l) λh=>.inr<|x.own a l h
 own:=λa l i=>x.own a l<|y.own a (x.live a l) i
 gens:=y.gens.trans x.gens
 os:=y.os.trans x.os
def fg.trans(x:fg fl W g s M s1)(y:fg fl W M s1 O s2):fg fl W g s O s2:=x.trans' y λU U h=>h
def fg.weaken(x:fg H W g s D L)(O:U<=H)(P:g.ro<=U)(Q:∀a,W a->X a):fg U X g s D L where
 live:=x.live
 fA:=x.fA
 keep:=λa o e N M=>x.keep a o e (λq=>N<|Q a q) M
 len:=⟨aa O x.len.1,aa O x.len.2⟩
 ro:=x.ro
 rl:=P
 mu:=by have N:D.mu.take U=(D.mu.take H).take U:=J i9<|J (cj O) Y;have M:g.mu.take U=(g.mu.take H).take U:=J i9<|J (cj O) Y;exact N.trans<|bV M x.mu Y
 new:=λa l i=>(x.new a l i).imp id<|ma O
 own:=Dr x O
 gens:=x.gens
 os:=x.os
def fg.keeps{st:List AC}(x:fg D W g s N O)(S:cH C g st s.heap)(M:∀a,W a->¬g.fA a):
  Keeps {fA:=g.fA,mu:=g.mu.take D,ro:=g.ro} s.heap N O.heap where
 fA:=x.fA
 get:=λa o i e=>x.keep a o e (λw=>M a w i) λm=>S.lg a (iA m) i
 mu:=λn p e=>by
  have U:=e;replace U:=x.mu▸U;replace U:=et▸U;split at U
  .exact U
  .exact eg U
def fg.vh{st}(x:fg g.mu.length W g s M U)(S:cH C g st s.heap)(O:∀a,W a->¬g.fA a):
  Keeps g s.heap M U.heap:=by
 have:=x.keeps S O;rw [List.take_length] at this;exact this
set_option tactic.hygienic true in
theorem rY.length{w}{g}{h}{st}:∀{l},rY w g h st l->st.length=l.length:=by
 induction st with
 |nil=>exact λe=>congrArg List.length e.symm
 |cons c st U=>intro l x;induction x;rename_i p O e a r;exact J e<|congrArg Nat.succ<|U r
theorem cH.length{C}{g}{st}{h}(S:cH C g st h):st.length=g.mu.length:=S.cells.length
set_option tactic.hygienic true in
def rY.get{st}:∀{l} {n:Nat},rY w g h st l->st[n]? =some c->∃p,l[n]? =some p/\CR w g h c p:=by
 induction st with
 |nil=>exact λO q=>eg q
 |cons d st U=>
  intro l n x q;induction x;rename_i p M e a r;refine J e ?_;induction n with
  |zero=>exact⟨p,Y,ak q▸a⟩
  |succ n=>exact U (n:=n) r q
set_option tactic.hygienic true in
def rY.append{st}:∀{l},rY w g h st l->rY w g h U O->rY w g h (st++U) (l++O):=by
 induction st with
 |nil=>exact λe r=>J e r
 |cons c st N=>intro l x y;induction x;rename_i p M e a r;exact J e ⟨p,M++O,Y,a,N r y⟩
set_option tactic.hygienic true in
theorem rY.take{st}:∀{l} n,rY w g h st l->rY w g h (st.take n) (l.take n):=by
 induction st with
 |nil=>exact λn e=>by refine J e ?_;induction n<;>exact rfl
 |cons c st O=>
  intro l n x;exact n.casesOn (Y:l.take 0=[]) λn=>by induction x;rename_i p U e a r;exact J e ⟨p,U.take n,Y,a,O n r⟩
set_option tactic.hygienic true in
theorem CR.mono{w:World}{g g':Gh}{h M:Heap}{c:AC}{p:Addr×Addr}(K:Keeps g h g' M)(N:M.get? p.1=h.get? p.1)(H:M.get? p.2=h.get? p.2)(x:CR w g h c p):CR w g' M c p:=by
 induction c with
 |L P=>obtain⟨e,U,n,o,r⟩:=x;exact⟨e,U,n,N.trans o,r.mono K⟩
 |D X=>obtain⟨e,U,n,o,r,d⟩:=x;exact⟨e,U,n,N.trans o,r.mono K,d⟩
 |O c Q=>induction x;rename_i e U n o r;exact⟨N.trans e,U,n,H.trans o,r.mono K⟩
set_option tactic.hygienic true in
theorem rY.mono{w}{g g'}{h O}(K:Keeps g h g' O){st}:∀{l},(∀a,ql l a->O.get? a=h.get? a)->rY w g h st l->rY w g' O st l:=by
 induction st with
 |nil=>exact λD x=>x
 |cons c st N=>
  intro l U x;induction x;rename_i p M e a r;replace U:=e▸U;exact⟨p,M,e,a.mono K (U _ ⟨p,.head _,.inl Y⟩)<|U _ ⟨p,.head _,.inr Y⟩,N (λa m=>U a (by obtain⟨q,h,e⟩:=m;exact⟨q,.tail _ h,e⟩)) r⟩
set_option tactic.hygienic true in
def CR.live(x:CR w g h c p):gV h p.1/\gV h p.2:=by
 induction c with
 |L M=>obtain⟨e,U,n,o,r⟩:=x;exact⟨⟨_,o⟩,J e ⟨_,o⟩⟩
 |D H=>obtain⟨e,U,n,o,r,d⟩:=x;exact⟨⟨_,o⟩,J e ⟨_,o⟩⟩
 |O c N=>induction x;rename_i e U n o r;exact⟨⟨_,e⟩,⟨_,o⟩⟩
set_option tactic.hygienic true in
theorem rY.live{st}:∀{l},rY w g h st l->∀a,ql l a->gV h a:=by
 induction st with
 |nil=>exact λx a m=>(t9<|jn x m).elim
 |cons c st M=>intro l x a m;induction x;rename_i p N e c r;obtain⟨q,U,O⟩:=m;rw [e] at U;exact(mO U).elim (λk=>(k▸O).elim (λe=>J e c.live.1) λe=>J e c.live.2) λU=>M r a ⟨q,U,O⟩
def cH.fF{st}(S:cH C g st h)(m:ql g.mu a):gV h a:=S.cells.live a m
def ct h:¬gV h h.objs.size:=λq=>by obtain⟨_,e⟩:=q;exact cu _<|cZ e
def pC o(l:gV h a):gV (h.push o) a:=by obtain⟨x,e⟩:=l;exact⟨x,aP o e⟩
def pY o(l:gV h a):(h.push o).get? a=h.get? a:=by obtain⟨x,e⟩:=l;exact bV e (aP o e) Y
section
variable{st:List AC}
def cH.w0(S:cH C g st h):3<h.objs.size:=by obtain⟨o,e⟩:=C.b3;exact cZ (S.base 3 o e).1
theorem cH.push(S:cH C g st h)(o:Obj):cH C g st (h.push o) where
 base:=λa x e=>⟨aP o (S.base a x e).1,(S.base a x e).2⟩
 one:=S.one
 live:=λa i=>pC o<|S.live a i
 cells:=S.cells.mono ⟨λU x=>x,λU U U e=>aP o e,λU U e=>e⟩ λa m=>pY o<|S.fF m
 lg:=S.lg
 fW:=S.fW
 iJ:=S.iJ
def cH.HJ(S:cH C g st h)(O:o.isFreed=false):cH C (g.add h.objs.size) st (h.push o) where
 base:=λa x e=>⟨aP o (S.base a x e).1,λn=>.inl<|(S.base a x e).2 n⟩
 one:=⟨λi=>i.elim S.one.1 λe=>by have M:=e;exact tH [_] [.p 1 (.c 1) ax,aH (.s<|.c 3) ax] Y e S.w0,S.one.2⟩
 live:=λa i=>i.elim (λi=>pC o<|S.live a i) λe=>J e ⟨o,ba _ O⟩
 cells:=S.cells.mono (g':=g.add h.objs.size) ⟨λU=>Or.inl,λU U U e=>aP o e,λU U e=>e⟩ λa m=>pY o<|S.fF m
 lg:=λa m i=>i.elim (S.lg a m) λe=>ct h<|jn e<|S.fF m
 fW:=S.fW
 iJ:=S.iJ
structure fM(g:Gh)(h:Heap)(a:Addr):Prop where
 fA:¬g.fA a
 mu:¬ql g.mu a
 live:gV h a
 one:a≠1
def t8(h:ql [p] a):a=p.1\/a=p.2:=by obtain⟨_,m,e⟩:=h;exact mS m▸e
def xg:Keeps g h (g.own p) h:=⟨λU x=>x,λU U U e=>e,λn q e=>(bW (List.getElem?_eq_some_iff.mp e).1).trans e⟩
theorem cH.own(S:cH C g st h)(o:fM g h D)(U:fM g h M)(L:CR C.w g h c (D,M)):cH C (g.own (D,M)) (st++[c]) h where
 base:=S.base
 one:=⟨S.one.1,λm=>(mw.mp m).elim S.one.2 λm=>(t8 m).elim (λe=>o.one e.symm) λe=>U.one e.symm⟩
 live:=S.live
 cells:=(S.cells.mono xg λN N=>rfl).append ⟨_,[],Y,L.mono xg Y Y,Y⟩
 lg:=λa m i=>(mw.mp m).elim (λm=>S.lg a m i) λm=>(t8 m).elim (λ(e:a=D)=>o.fA<|e▸i) λ(e:a=M)=>U.fA<|e▸i
 fW:=List.pairwise_append.mpr ⟨S.fW,List.pairwise_singleton ..,λp O q H=>J (mS H) ⟨λe=>o.mu ⟨p,O,.inl e.symm⟩,λe=>U.mu ⟨p,O,.inl e.symm⟩,λe=>o.mu ⟨p,O,.inr e.symm⟩,λe=>U.mu ⟨p,O,.inr e.symm⟩⟩⟩
 iJ:=aa S.iJ<|jn (show(g.own (D,M)).mu=g.mu++[_] from Y)<|J ae<|aw ..
def qV(S:cH C g st h):VR C.w (g.own (D,U)) O (.ref st.length) (.ref D):=
 ⟨(D,U),J S.length<|(br .refl).trans<|J (dC _) Y,Y⟩
def fg.adopt{s0 s}{g0}{O}{W}{D U}(x:fg O W g0 s0 g s)(N:¬gV s0.heap D)(M:¬gV s0.heap U):fg O W g0 s0 (g.own (D,U)) s:=
 ⟨x.live,x.fA,x.keep,⟨x.len.1,aa x.len.2<|bV (show(g.own (D,U)).mu=g.mu++[_] from Y) ae<|aw ..⟩,x.ro,x.rl,(List.take_append_of_le_length x.len.2).trans x.mu,x.new,
  λa l m=>by rw [show(g.own (D,U)).mu=g.mu++[_] from Y,List.drop_append_of_le_length x.len.2] at m;exact(mw.mp m).elim (x.own a l) λm=>((t8 m).elim (λ(e:a=D)=>N<|e▸l) λ(e:a=U)=>M<|e▸l).elim,x.gens,x.os⟩
def ij{o}(S:cH C g st h)(U:o.isFreed=false):fM g (h.push o) h.objs.size:=
 ⟨λi=>ct _<|S.live _ i,λm=>ct _<|S.fF m,⟨o,ba _ U⟩,λq=>by have:=S.w0;have O:h.objs.size=1:=q;exact tH [_] [.q 1 ax (.c 1),aH (.s<|.c 3) ax] Y q this⟩
def cH.N2(S:cH C g st h)(U:o.isFreed=false)(O:CR C.w g (h.push o) c (h.objs.size,h.objs.size)):cH C (g.own (h.objs.size,h.objs.size)) (st++[c]) (h.push o):=(S.push o).own (ij S U) (ij S U) O
end
def vE(O:g.ro<=g.mu.length):fg g.mu.length nx g s g {s with toks:=t}:=
 ⟨λU x=>x,λU x=>x,λU U x U U=>x,⟨aS _,aS _⟩,Y,O,Y,λU U=>.inl,λU U x=>x,Y,Y⟩
def mD(O:g.ro<=g.mu.length):fg g.mu.length nx g s g {s with heap:=s.heap.push o,toks:=t}:=
 ⟨λU=>pC o,λU x=>x,λU U x U U=>aP o x,⟨aS _,aS _⟩,Y,O,Y,λU U=>.inl,λU U x=>x,Y,Y⟩
def sD(O:g.ro<=g.mu.length):fg g.mu.length nx g s (g.add s.heap.objs.size) {s with heap:=s.heap.push o,toks:=t}:=
 ⟨λU=>pC o,λU=>.inl,λU U x U U=>aP o x,⟨aS _,aS _⟩,Y,O,Y,λ_ l x=>x.elim .inl λe=>(ct _<|jn e l).elim,λU U x=>x,Y,Y⟩
def xq(U:g.ro<=g.mu.length):fg g.mu.length nx g s (g.own (s.heap.objs.size,s.heap.objs.size)) {s with heap:=s.heap.push o,toks:=t}:=(mD U).adopt (ct _)<|ct _
noncomputable def cY{O U:Type}(f:O->Option U)(l:List O):Option (List U):=l.rec (some []) λx N r=>(f x).bind λy=>r.bind λM=>some (y::M)
inductive MoC{α β:Type}(f:α->Option β)(x:α)(xs:List α)(r:List β):Prop
 |mk (y ys) (a:f x=some y) (b:cY f xs=some ys) (e:r=y::ys)
def jO{U:List H}{r}(h:cY f (x::U)=some r):MoC f x U r:=
 by obtain⟨y,D,h⟩:=qb h;exact by obtain⟨O,N,M⟩:=qb h;exact⟨y,O,D,N,(ak M).symm⟩
def BU(h:cY f U=some []):U=[]:=by
 induction U with
 |nil=>rfl
 |cons x U=>obtain⟨_,_,_,_,e⟩:=jO h;exact nl e
def BV{O}{P:Prop}(h:cY f O=(b::D))(k:∀x U,O=x::U->f x=some b->cY f U=D->P):P:=by
 induction O with
 |nil=>exact nl<|ak h
 |cons x O=>obtain⟨y,H,N,M,e⟩:=jO h;exact k x O Y (J (cw e).1 N)<|J (cw e).2 M
section
variable{g:Gh}
def lC:OY g h (g.cut O) h:=⟨λU=>.inl,λU U U e=>e⟩
def yO:Hm g (g.cut U) λn=>decide (n<U):=λn q p e=>by show(g.mu.take U)[n]? =_;exact J et<|J (au<|aB p) e
theorem VR.cut(p:below U a=true)(r:VR w g h a v):VR w (g.cut U) h a v:=VR.mon lC a _ _ yO p r
theorem eT.cut(p:belows U a=true)(r:eT w g h a v):eT w (g.cut U) h a v:=eT.mon lC a _ _ yO p r
theorem lh.cut(p:lF U a=true)(r:lh w g h a v):lh w (g.cut U) h a v:=lh.mon lC a _ _ yO p r
theorem qE.cut(p:mK U a=true)(r:qE w g h a v):qE w (g.cut U) h a v:=qE.mon lC a _ _ yO p r
def D3(e:g.mu[n]? =some q):decide (n<g.mu.length)=true:=aq (List.getElem?_eq_some_iff.mp e).1
theorem VR.below(r:VR w g h a v):below g.mu.length a=true:=VR.rf (λU U=>D3) a r
def eT.below(r:eT w g h a v):belows g.mu.length a=true:=eT.rf (λU U=>D3) r
def lh.below(r:lh w g h a v):lF g.mu.length a=true:=lh.rf (λU U=>D3) r
def qE.below(r:qE w g h a v):mK g.mu.length a=true:=qE.rf (λU U=>D3) r
end
def Ra(f:AV->Option AV):AC->Option AV
 | .L M=>if gD M then some (.aM M)else(cY f M).bind λU=>if gD U then some (.aM U)else none
 | .D H=>if jN H then some (.bK H)else(cY (λe=>(f e.2).bind λy=>some (e.1,y)) H).bind λU=>if jN U then some (.bK U)else none
 | .O c N=>if ml N then some (.obj c N)else(cY (λe=>(f e.2).bind λy=>some (e.1,y)) N).bind λU=>if ml U then some (.obj c U)else none
def Yn(f:AV->Option AV)(st:List AC)(M:Nat):AV->Option AV
 | .ref n=>if n<M then some (.ref n)else(st[n]?).bind (Ra f)
 | .aL O=>(cY f O).bind λU=>some<|.aL U
 |a=>some a
def iH(st:List AC)(U:Nat)(d:Nat):AV->Option AV:=d.rec (λa=>if below U a then some a else none) λO f a=>if below U a then some a else Yn f st U a
def jT(st:List AC)(U:Nat)(d:Nat):AC->Option AC
 | .L N=>if belows U N then some (.L N)else(cY (iH st U d) N).bind λM=>some<|.L M
 | .D P=>if lF U P then some (.D P)else(cY (λe=>(iH st U d e.2).bind λy=>some (e.1,y)) P).bind λM=>some<|.D M
 | .O c H=>if mK U H then some (.O c H)else(cY (λe=>(iH st U d e.2).bind λy=>some (e.1,y)) H).bind λM=>some<|.O c M
section
variable{C:Cx}{g:Gh}{st:List AC}
def Xb{U}{a}(i:g.fA a):(g.cut U).fA a:=.inl i
def rQ{h}(D:∀a b v,f a=some b->VR w g h a v->VR w P h b v):
  ∀{ys vs},cY f U=some ys->eT w g h U vs->eT w P h ys vs:=by
 induction U with
 |nil=>exact λe r=>ak e▸r
 |cons x U N=>intro ys vs e r;obtain⟨y,O,L,H,e⟩:=jO e;exact e▸ED.imp r (λM=>D _ _ _ L) λM=>N H
def rV{O}{f:AV->Option AV}(K:OY g h O h)(L:∀a b v,f a=some b->VR w g h a v->VR w O h b v):
  ∀{ys},cY (λe=>(f e.2).bind λy=>some (e.1,y)) U=some ys->(∀{vs},lh w g h U vs->lh w O h ys vs)/\ys.map (·.1)=U.map (·.1):=by
 induction U with
 |nil=>exact λe=>⟨λr=>ak e▸r,ak e▸Y⟩
 |cons x U N=>intro ys e;obtain⟨y,H,X,D,e⟩:=jO e;obtain⟨B,Q,P⟩:=qb X;exact J e (ak P▸⟨λr=>NM.imp r (λM=>xI.mono K) (λM=>L _ _ _ Q) λM=>(N D).1,congrArg (x.1:: ·) (N D).2⟩)
def AS{h}{f:AV->Option AV}(D:∀a b v,f a=some b->VR w g h a v->VR w X h b v):
  ∀{ys vs},cY (λe=>(f e.2).bind λy=>some (e.1,y)) U=some ys->qE w g h U vs->qE w X h ys vs:=by
 induction U with
 |nil=>exact λe r=>ak e▸r
 |cons x U N=>intro ys vs e r;obtain⟨y,O,Q,P,e⟩:=jO e;obtain⟨B,L,H⟩:=qb Q;exact e▸ak H▸NJ.imp r (λM=>D _ _ _ L) λM=>N P
set_option tactic.hygienic true in
def MK{c}{p}(H:(g.cut B).fA p.1/\(g.cut B).fA p.2)(X:∀a b v,f a=some b->VR C.w g h a v->VR C.w (g.cut B) h b v)(e:Ra f c=some b)(r:CR C.w g h c p):VR C.w (g.cut B) h b (.ref p.1):=by
 induction c with
 |L j=>obtain⟨_,U,k,N,M⟩:=r;exact jq e (λq e=>ak e▸⟨p.1,U,k,Y,H.1,N,eT.mon lC _ _ _ Te q M,q⟩) λ_ e=>dj e λA P e=>lT e λq e=>jn e ⟨p.1,U,k,Y,H.1,N,rQ X P M,q⟩
 |D j=>obtain⟨_,U,k,N,M,y⟩:=r;exact jq e (λq e=>ak e▸⟨p.1,U,k,Y,H.1,N,lh.mon lC _ _ _ Te q M,y,q⟩) λ_ e=>dj e λA P e=>lT e λq e=>jn e ⟨p.1,U,k,Y,H.1,N,(rV lC X P).1 M,J (rV lC X P).2 y,q⟩
 |O c j=>induction r;rename_i N U k Q M;exact jq e (λq e=>ak e▸⟨p.1,p.2,U,k,Y,H.1,H.2,N,Q,qE.mon lC _ _ _ Te q M,q⟩) λ_ e=>dj e λA P e=>lT e λq e=>jn e ⟨p.1,p.2,U,k,Y,H.1,H.2,N,Q,AS X P M,q⟩
def oP(S:cH C g st h) d:∀a b v,iH st U d a=some b->VR C.w g h a v->VR C.w (g.cut U) h b v:=d.rec (λa b v e r=>lT e λp e=>e▸r.cut p) λd H=>by
  refine λa b v e r=>jq e (λp e=>ak e▸r.cut p) λD e=>?_;cases a with
  |ref n=>
   obtain⟨p,L,A⟩:=r;refine jq e (λM Q=>(D<|aq M).elim) λN e=>dj e λc X e=>?_;obtain⟨p',O,P⟩:=S.cells.get X;simp only [<-ak (L.symm.trans O)] at P;exact J A (MK (by
     have:p∈g.mu.drop U:=by rw [List.mem_iff_getElem?];exact⟨n-U,by refine(jM).trans ?_;exact jn (show U+(n-U)=n by exact fU<|c9 N).symm L⟩
     exact⟨.inr ⟨p,this,.inl Y⟩,.inr ⟨p,this,.inr Y⟩⟩) H e P)
  |aL q=>exact dj e λj B e=>ak e▸AX.imp lC (λQ=>rQ H B) r
  |_=>exact(D Y).elim
set_option tactic.hygienic true in
def yI(S:cH C g st h)(e:jT st B d c=some A)(r:CR C.w g h c p):CR C.w (g.cut B) h A p:=by
 induction c with
 |L Q=>obtain⟨q,U,n,N,M⟩:=r;exact jq e (λk e=>ak e▸⟨q,U,n,N,M.cut k⟩) λ_ e=>dj e λP H e=>ak e▸⟨q,U,n,N,rQ (oP S d) H M⟩
 |D Q=>obtain⟨q,U,n,N,M,X⟩:=r;exact jq e (λk e=>ak e▸⟨q,U,n,N,M.cut k,X⟩) λ_ e=>dj e λP H e=>ak e▸⟨q,U,n,N,(rV lC (oP S d) H).1 M,J (rV lC (oP S d) H).2 X⟩
 |O c Q=>induction r;rename_i q U n N M;exact jq e (λk e=>ak e▸⟨q,U,n,N,M.cut k⟩) λ_ e=>dj e λP H e=>ak e▸⟨q,U,n,N,AS (oP S d) H M⟩
def Kv{g}{h}(H:∀c O p,f c=some O->CR w g h c p->CR w Q h O p):
  ∀{U l},cY f st=some U->rY w g h st l->rY w Q h U l:=by
 induction st with
 |nil=>exact λe r=>ak e▸r
 |cons x B D=>intro X A e r;obtain⟨y,M,P,L,e⟩:=jO e;exact e▸ED.imp r (λN=>H _ _ _ P) λN=>D L
def tR{l:List (Addr×Addr)}(O:l.Pairwise sep) n{a}(H:ql (l.take n) a)(D:ql (l.drop n) a):False:=by rw [<-fC n l,List.pairwise_append] at O;obtain⟨p,N,L⟩:=H;obtain⟨q,M,U⟩:=D;have:=O.2.2 p N q M;obtain⟨s1,s2,s3,s4⟩:=this;rcases L with rfl|rfl<;>rcases U with U|U<;>contradiction
theorem cH.cut(S:cH C g st h){U:Nat}(N:g.ro<=U){O:List AC}(e:cY (jT st U d) (st.take U)=some O):cH C (g.cut U) O h where
 base:=λa o q=>⟨(S.base a o q).1,λn=>.inl<|(S.base a o q).2 n⟩
 one:=⟨λi=>i.elim S.one.1 λm=>S.one.2<|(eB ..).mpr<|.inr m,λm=>S.one.2<|(eB ..).mpr<|.inl m⟩
 live:=λa i=>i.elim (S.live a) λm=>S.fF<|(eB _ U _).mpr<|.inr m
 cells:=Kv (λM M M=>yI S) e<|S.cells.take U
 lg:=λa m i=>i.elim (S.lg a<|(eB _ U _).mpr<|.inl m)<|tR S.fW U m
 fW:=S.fW.sublist<|eK ..
 iJ:=by show g.ro<=(g.mu.take U).length;have:=S.iJ;exact J cL<|Nat.le_min_of_le_of_le N this
def pH(M:U<=g.mu.length)(N:g.ro<=U):fg U nx g s (g.cut U) s where
 live:=λO x=>x
 fA:=λO=>.inl
 keep:=λO O x O O=>x
 len:=⟨M,by show U<=(g.mu.take U).length;exact J cL<|Nat.le_min.mpr ⟨aS _,M⟩⟩
 ro:=rfl
 rl:=N
 mu:=by show(g.mu.take U).take U=_;exact J i9<|J (Nat.min_self _) Y
 new:=λO O x=>x
 own:=λa O m=>by have m:ql ((g.mu.take U).drop U) a:=m;rw [List.drop_take,dC] at m;exact(t9 m).elim
 gens:=rfl
 os:=rfl
set_option tactic.hygienic true in
def cH.upd(S:cH C g st h)(X:g.mu[n]? =some p)(O:x=p.1\/x=p.2)(U:∀b,b≠x->H.get? b=h.get? b)
  (hc:CR C.w g H c p):cH C g (st.set n c) H:=by
 have D:∀a,g.fA a->a≠x:=λa i e=>S.lg x (⟨p,aN X,O⟩)<|jn e i;have K:Keeps g h g H:=⟨λA x=>x,λa o i e=>(U a<|D a i).trans e,λA A e=>e⟩;have j:∀a o,C.B.get? a=some o->a≠x:=λa o q e=>if h1:a=1 then(by subst h1;exact S.one.2<|J e<|⟨p,aN X,O⟩)else D a ((S.base a o q).2 h1) e
 refine⟨λa o q=>⟨(U a<|j a o q).trans (S.base a o q).1,(S.base a o q).2⟩,S.one,λa i=>?_,?_,S.lg,S.fW,S.iJ⟩
 .obtain⟨o,e⟩:=S.live a i;exact⟨o,(U a<|D a i).trans e⟩
 .have P:∀(l:List (Addr×Addr)) cs (m:Nat),rY C.w g h cs l->l.Pairwise sep->l[m]? =p->rY C.w g H (cs.set m c) l:=by
   intro l;clear D j;exact l.rec (by intro cs m _ _ e;exact eg e) λq l ih=>by
    intro cs m r pw e;cases cs with
    |nil=>exact eg<|r▸e
    |cons c0 cs=>
     induction r;rename_i q' l' e' a b;refine And.elim (λN M=>?_)<|cw e';replace a:=N▸a;replace b:=M▸b;rw [List.pairwise_cons] at pw;induction m with
     |zero=>simp at e;subst e;refine⟨q,l,Y,hc,b.mono K λa ⟨v,Q,N⟩=>U a λM=>?_⟩;obtain⟨s1,s2,s3,s4⟩:=pw.1 v Q;induction M;rcases O with rfl|rfl<;>rcases N with N|N<;>contradiction
     |succ m=>exact(pw.1 p<|aN e).elim λs1 L=>L.elim λs2 L=>L.elim λs3 s4=>⟨q,l,Y,a.mono K (U _ λM=>(by rcases O with rfl|rfl<;>contradiction))<|U _ λM=>(by rcases O with rfl|rfl<;>contradiction),ih cs m b pw.2 e⟩
  exact P g.mu st n S.cells S.fW X
def MS(D:g.ro<=g.mu.length)(L:g.ro<=n)(H:g.mu[n]? =some p)(N:x=p.1\/x=p.2)(O:∀b,b≠x->M.get? b=s.heap.get? b)(Q:gV M x):
  fg g.mu.length nx g s g {s with heap:=M,toks:=t} where
 live:=λa ⟨o,e⟩=>if q:a=x then J q Q else⟨o,(O a q).trans e⟩
 fA:=λU x=>x
 keep:=λa o e U P=>(O a λq=>P ⟨p,aN<|jM▸(cU L)▸H,J q N⟩).trans e
 len:=⟨aS _,aS _⟩
 ro:=rfl
 rl:=D
 mu:=rfl
 new:=λU U=>.inl
 own:=λU U x=>x
 gens:=rfl
 os:=rfl
end
def gp(k:Nat):AC->Bool
 | .L U=>belows k U
 | .D N=>lF k N
 | .O _ M=>mK k M
set_option tactic.hygienic true in
theorem CR.below(r:CR w g h c p):gp g.mu.length c=true:=by
 induction c with
 |L U=>obtain⟨_,_,_,_,r⟩:=r;exact r.below
 |D U=>obtain⟨_,_,_,_,r,_⟩:=r;exact r.below
 |O c U=>induction r;rename_i _ _ _ _ r;exact r.below
set_option tactic.hygienic true in
theorem CR.cut(b:gp N c=true)(r:CR w g h c p):CR w (g.cut N) h c p:=by
 induction c with
 |L M=>obtain⟨q,U,n,o,r⟩:=r;exact⟨q,U,n,o,r.cut b⟩
 |D M=>obtain⟨q,U,n,o,r,d⟩:=r;exact⟨q,U,n,o,r.cut b,d⟩
 |O c M=>induction r;rename_i q U n o r;exact⟨q,U,n,o,r.cut b⟩
theorem rY.below{st}:∀{l},rY w g h st l->∀c∈st,gp g.mu.length c=true:=by
 induction st with
 |nil=>exact λU U=>iZ
 |cons d st O=>exact λx c m=>ED.elim x λ_ _ a r=>memC (P:=λc=>gp g.mu.length c=true) m a.below<|O r c
open Classical in
def gG(U:List AC)(D d:Nat)(st:List AC):List AC->Option (List AC):=st.rec (λH=>some []) λM _ f O=>O.rec none λc O _=>(if c=M then some M else jT U D d c).bind λy=>(f O).bind λN=>some (y::N)
def kJ U(O d)(more st):gG U O d st (st++more)=st:=st.rec Y λc M D=>(congrArg (λo=>Option.bind o λy=>(gG U O d M<|M++more).bind λN=>some (y::N))<|au Y).trans<|J D Y
set_option tactic.hygienic true in
def xm{N}{M}(S:cH C N O M)(P:w=C.w){D d}{st}:
  ∀{cs r} {l},gG O D d st cs=some r->(∀c∈st,gp D c=true)->rY w N M cs l->rY w (N.cut D) M r (l.take st.length):=by
 induction st with
 |nil=>exact λe L L=>ak e▸Y
 |cons o H B=>
  intro cs r l e Q x;induction cs with
  |nil=>exact eg e
  |cons c cs=>induction x;rename_i p X j a b;refine j▸dj e λy U e=>dj e λv A e=>ak e▸⟨p,X.take H.length,Y,?_,B A (λc m=>Q c<|.tail _ m) b⟩;exact jq U (λq U=>ak U▸(q▸a).cut (Q _<|.head _)) λL U=>J P<|yI S U<|jn P a
def cH.leave{st:List AC}(M:cH C g st h)(S:cH C O U D)(N:O.ro<=st.length)(e:gG U st.length d st U=some r):cH C (O.cut st.length) r D where
 base:=λa o q=>⟨(S.base a o q).1,λn=>.inl<|(S.base a o q).2 n⟩
 one:=⟨λi=>i.elim S.one.1 λm=>S.one.2<|(eB ..).mpr<|.inr m,λm=>S.one.2<|(eB ..).mpr<|.inl m⟩
 live:=λa i=>i.elim (S.live a) λm=>S.fF<|(eB _ st.length _).mpr<|.inr m
 cells:=xm S Y e (J M.length M.cells.below) S.cells
 lg:=λa m i=>i.elim (S.lg a<|(eB _ st.length _).mpr<|.inl m)<|tR S.fW st.length m
 fW:=S.fW.sublist<|eK ..
 iJ:=by show O.ro<=(O.mu.take st.length).length;have:=S.iJ;exact J cL<|Nat.le_min_of_le_of_le N this
def u3(h:k<=l)(n:Nat)(x:decide (n<k)=true):decide (n<l)=true:=aq<|aJ (aB x) h
def xE(h:k<=l)(x:gp k c=true):gp l c=true:=by
 induction c with
 |L U=>exact uG (u3 h) U x
 |D U=>exact oC (u3 h) U x
 |O c U=>exact oC (u3 h) U x
def DT(s st:List AC):AV->Option (AV×List AC)
 | .ref n=>if n=st.length then(gG s (n+1) 6 st s).bind λU=>(s[n]?).bind λc=>(jT s (n+1) 6 c).bind λO=>some (.ref n,U++[O])else none
 |_=>none
def cH.QE{st:List AC}(H:cH C g st h)(S:cH C O U D)(P:O.ro<=st.length+1)(e:gG U (st.length+1) d st U=some r){c N:AC}(X:U[st.length]? =some c)(B:jT U (st.length+1) d c=some N):cH C (O.cut<|st.length+1) (r++[N]) D where
 base:=λa o q=>⟨(S.base a o q).1,λn=>.inl<|(S.base a o q).2 n⟩
 one:=⟨λi=>i.elim S.one.1 λm=>S.one.2<|(eB ..).mpr<|.inr m,λm=>S.one.2<|(eB ..).mpr<|.inl m⟩
 live:=λa i=>i.elim (S.live a) λm=>S.fF<|(eB _ (st.length+1) _).mpr<|.inr m
 cells:=by obtain⟨p,Q,M⟩:=S.cells.get X;show rY C.w _ D (r++[N]) (O.mu.take<|st.length+1);exact J List.take_succ<|J Q<|(xm S Y e (λc m=>xE (b0 _)<|J H.length<|H.cells.below c m) S.cells).append ⟨p,[],Y,(yI S B M),Y⟩
 lg:=λa m i=>i.elim (S.lg a<|(eB _ (st.length+1) _).mpr<|.inl m) λL=>tR S.fW (st.length+1) m L
 fW:=S.fW.sublist<|eK ..
 iJ:=by show O.ro<=(O.mu.take<|st.length+1).length;have:=S.iJ;exact J cL<|Nat.le_min_of_le_of_le P this
abbrev St:=List AC
abbrev En:=List<|Option AV
noncomputable def lim:Nat:=1000000
inductive Sh where
 |L (xs:List AV)
 |T (xs:List AV)
 |D (es:List (KV×AV))
 |O (c:Nat) (fs:List (Nat×AV))
 |no
noncomputable def OR:Option AC->Sh
 |some (.L xs)=>.L xs
 |some (.D es)=>.D es
 |some (.O c fs)=>.O c fs
 |none=>.no
def vw(st:St):AV->Sh
 | .aL U=>.T U
 | .aM U=>.L U
 | .bK N=>.D N
 | .obj c M=>.O c M
 | .ref n=>OR st[n]?
 |_=>.no
noncomputable def KA.av:KA->AV
 | .int i=>.int i
 | .str s=>.str s
def KV.av:KV->AV
 | .i n=>.int n
 | .t ks=>.aL<|ks.map KA.av
noncomputable def qd:AV->Option KA
 | .int i=>some<|.int i
 | .str s=>some<|.str s
 |_=>none
def l9:AV->Option KV
 | .int i=>some<|.i i
 | .aL U=>(cY qd U).bind λks=>some<|.t ks
 |_=>none
noncomputable def j5:KV->Bool
 | .i _=>false
 | .t _=>true
def ed(k:KV)(U:List (KV×AV)):Bool:=U.all λe=>j5 e.1==j5 k
noncomputable def fP(U:List (KV×AV))(k:KV):Option AV:=(U.find? λe=>decide<|e.1=k).map (·.2)
noncomputable def dput(es:List (KV×AV))(k:KV)(v:AV):List (KV×AV):=
 if es.any (λe=>decide<|e.1=k)then es.map (λe=>if e.1=k then(e.1,v)else e)else es++[(k,v)]
mutual
noncomputable def HP:AV->Nat->Bool
 | .none,_=>true
 | .int _,_=>true
 | .str s,_=>s.all λc=>decide<|c<0x110000
 | .aL xs,d=>match d with
  |0=>false
  |d+1=>tY xs d
 | .aM xs,d=>match d with
  |0=>false
  |d+1=>tY xs d
 |_,_=>false
noncomputable def tY:List AV->Nat->Bool
 |[],_=>true
 |x::xs,d=>HP x d&&tY xs d
end
abbrev plain(d:Nat)(a:AV):Bool:=HP a d
abbrev eA(d:Nat)(U:List AV):Bool:=tY U d
noncomputable def nh:Nat->List (KV×AV)->Bool
 |_,[]=>true
 |d,(_,x)::xs=>plain d x&&nh d xs
noncomputable abbrev dp:Nat:=300
def VS:Sh->Option (List<|KV×AV)
 | .D U=>if nh dp U&&ed (.t []) U then some U else none
 |_=>none
abbrev GN(st:St)(a:AV):Option (List<|KV×AV):=VS<|vw st a
def KQ(x y:List (KV×AV)):Bool:=x.length==y.length&&x.all λe=>decide<|fP y e.1=some e.2
noncomputable def FV(st:St):List AV->List AV->Option Bool
 |[],[]=>some true
 |a::as,b::bs=>(GN st a).bind λx=>(GN st b).bind λy=>(FV st as bs).bind λr=>some<|KQ x y&&r
 |_,_=>none
noncomputable def LL{U:Type}(f:List AV->List AV->Option U)(x y:Sh):Option U:=match x with
 | .L M=>match y with
  | .L O=>f M O
  |_=>none
 |_=>none
def RN(O U:List AV):Option Bool:=if O.length≠U.length then some false else if eA dp O&&eA dp U then some (decide<|O=U)else none
def eqQ(st:St)(a b:AV):Option Bool:=if plain dp a&&plain dp b then some (decide<|a=b)else LL RN (vw st a) (vw st b)
def BM(st:St)(a b:AV):Option Bool:=match eqQ st a b with
 |some r=>some<|!r
 |none=>(LL (FV st) (vw st a)<|vw st b).map not
inductive TP where
 |eq|ne|lt|le|gt|ge|S8|DW|z8|hV
inductive SM where
 |add|sub|mul|fdiv|mod|pow
def Fh(a:AV)(U:List AV):Option Bool:=if plain dp a&&eA dp U then some (decide<|a∈U)else none
def Ta(a:AV):Sh->Option Bool
 | .L U=>Fh a U
 | .T U=>Fh a U
 | .D O=>(l9 a).bind λk=>if ed k O then some (fP O k).isSome else none
 |_=>none
abbrev Mz(st:St)(a b:AV):Option Bool:=Ta a<|vw st b
noncomputable def lS:AV->Bool
 | .none=>true
 |_=>false
noncomputable def j6:AV->Option Int
 | .int i=>some i
 |_=>none
noncomputable def US(i j:Int):TP->Option Bool
 | .lt=>some<|decide<|i<j
 | .le=>some<|decide<|i<=j
 | .gt=>some<|decide<|i>j
 | .ge=>some<|decide<|i>=j
 |_=>none
def kq(a b:AV)(o:TP):Option Bool:=(j6 a).bind λi=>(j6 b).bind λj=>US i j o
def isQ(a b:AV):Option Bool:=if lS b then some (lS a)else none
def jc(st:St)(o:TP)(a b:AV):Option Bool:=match o with
 | .eq=>eqQ st a b
 | .ne=>BM st a b
 | .S8=>isQ a b
 | .DW=>(isQ a b).map not
 | .z8=>Mz st a b
 | .hV=>(Mz st a b).map not
 | .lt=>kq a b .lt
 | .le=>kq a b .le
 | .gt=>kq a b .gt
 | .ge=>kq a b .ge
noncomputable def zI(k:Nat):Int->Bool
 | .ofNat n=>decide<|n<=k
 | .negSucc _=>false
def fG{k}{i}:zI k i=true↔0<=i/\i<=k:=i.rec (λn=>⟨λh=>⟨dF n,Int.ofNat_le.mpr<|aB h⟩,λh=>aq<|Int.ofNat_le.mp h.2⟩) λn=>⟨nb,λh=>absurd h.1<|Int.not_le.mpr<|Int.negSucc_lt_zero n⟩
noncomputable def uZ(a b:Int):Bool:=decide (a.natAbs<2^60000)&&decide (b.natAbs<2^60000)
noncomputable def uM(a n:Int):Bool:=decide (a.natAbs<2^60000)&&decide (0<=n)&&decide (n<=100)
def ZM(st:St)(i j:Int):SM->Option (AV×St)
 | .add=>some (.int<|i+j,st)
 | .sub=>some (.int<|i-j,st)
 | .mul=>if uZ i j then some (.int<|i*j,st)else none
 | .fdiv=>if decide (0<j)&&zI 999999 j then some (.int<|i/j,st)else none
 | .mod=>if decide (0<j)then some (.int<|i%j,st)else none
 | .pow=>if uM i j then some (.int<|i^j.toNat,st)else none
def addQ(st:St)(a b:AV):Option (AV×St):=match vw st a with
 | .L O=>match vw st b with
  | .L U=>if O.length+U.length<=lim then some (.ref st.length,st++[.L (O++U)])else none
  |_=>none
 | .T O=>match vw st b with
  | .T U=>if O.length+U.length<=lim then some (.aL<|O++U,st)else none
  |_=>none
 |_=>none
def mulQ(st:St)(a:AV)(n:Int):Option (AV×St):=match vw st a with
 | .L U=>match U with
  |[x]=>if zI lim n then some (.ref st.length,st++[.L (List.replicate n.toNat x)])else none
  |_=>none
 |_=>none
def mT(st:St)(op:SM)(a b:AV):Option (AV×St):=match j6 a with
 |some i=>match j6 b with
  |some j=>ZM st i j op
  |none=>none
 |none=>match op with
  | .add=>addQ st a b
  | .mul=>match j6 b with
   |some n=>mulQ st a n
   |none=>none
  |_=>none
def nI(i:Int):Bool:=zI 4611686018427387903 i
def Q2(U:List AV)(i:AV):Option AV:=(j6 i).bind λn=>if nI n then U[n.toNat]? else none
def X2(U:List (KV×AV))(i:AV):Option AV:=(l9 i).bind λk=>if ed k U then fP U k else none
def XC(i:AV):Sh->Option AV
 | .L U=>Q2 U i
 | .T U=>Q2 U i
 | .D O=>X2 O i
 |_=>none
abbrev subQ(st:St)(o i:AV):Option AV:=XC i<|vw st o
inductive SB where
 |no
 |to (n:Int)
 |m5 (n:Int)
 |rev
def JO{O:Type}(U:List O):SB->Option (List O)
 | .no=>none
 | .to n=>if nI n then some (U.take n.toNat)else none
 | .m5 n=>if nI n then some (U.drop n.toNat)else if n== -2 then some (U.drop<|U.length-2)else none
 | .rev=>some U.reverse
def VV(st:St)(U:List AV):SB->Option (AV×St)
 | .to n=>if nI n then some (.aL<|U.take n.toNat,st)else none
 | .m5 n=>if decide (1<=n)&&decide (n<=(U.length:Int))then some (.aL<|U.drop n.toNat,st)else none
 |_=>none
def YB(st:St)(s:List Nat):SB->Option (AV×St)
 | .to n=>if zI lim n then some (.str<|s.take n.toNat,st)else none
 |_=>none
def XK(st:St)(b:SB):Sh->Option (AV×St)
 | .L U=>if U.length<=lim then(JO U b).bind λr=>some (.ref st.length,st++[.L r])else none
 | .T U=>if U.length<=lim then VV st U b else none
 |_=>none
noncomputable def EP:AV->Option (List Nat)
 | .str s=>some s
 |_=>none
def nc(st:St)(o:AV)(b:SB):Option (AV×St):=match EP o with
 |some s=>YB st s b
 |none=>XK st b<|vw st o
noncomputable def m9(c f:Nat):Bool:=
 if c=93 then decide (f<4)else if c=116 then decide (4<=f)&&decide (f<11)else if c=198 then decide (11<=f)&&decide (f<21)
 else if c=323 then decide (21<=f)&&decide (f<24)else if c=358 then decide (21<=f)&&decide (f<25)else false
def Wi(f:Nat):Sh->Option AV
 | .O c U=>if m9 c f then U.lookup f else none
 |_=>none
abbrev og(st:St)(o:AV)(f:Nat):Option AV:=Wi f<|vw st o
noncomputable def iG:Int->Bool
 | .ofNat n=>decide<|n<=2^40
 | .negSucc n=>decide<|n<2^40
def lX{i}:iG i=true↔ -(2^40)<=i/\i<=2^40:=i.rec (λn=>⟨λh=>⟨ef (Int.neg_nonpos_of_nonneg<|by decide)<|dF n,Int.ofNat_le.mpr<|aB h⟩,λh=>aq<|Int.ofNat_le.mp h.2⟩) λn=>⟨λh=>⟨(Int.neg_le_neg (Int.ofNat_le.mpr<|aB h): -((2^40:Nat):Int)<= -((n+1:Nat):Int)),ef (iF<|Int.negSucc_lt_zero n)<|by decide⟩,λh=>aq<|Int.ofNat_le.mp<|Int.le_of_neg_le_neg (h.1: -((2^40:Nat):Int)<= -((n+1:Nat):Int))⟩
noncomputable def qR(a b:Int):List AV:=(List.range (b-a).toNat).map λ(i:Nat)=>AV.int<|a+(i:Int)
def QS(U:List AV)(O:Option (Nat×AC)):Option (List AV×Option (Nat×AC)):=if U.length<=lim then some (U,O)else none
def X5(M n:Nat):AC->Option (List AV×Option (Nat×AC))
 | .L U=>QS U<|some (n,.L U)
 | .D O=>if decide (O.length<=lim)&&decide (n<M)then some (O.map λe=>e.1.av,none)else none
 |_=>none
def dR(M:Nat)(st:St)(a:AV):Option (List AV×Option (Nat×AC)):=match a with
 | .sS a b=>if iG a&&iG b then some (qR a b,none)else none
 | .ref n=>(st[n]?).bind<|X5 M n
 | .aM U=>QS U none
 | .aL U=>QS U none
 | .bK O=>if O.length<=lim then some (O.map λe=>e.1.av,none)else none
 |_=>none
def R9(U:List AV):Option (List AV):=if U.length<=lim then some U else none
def Bq:Sh->Option (List AV)
 | .L U=>R9 U
 | .T U=>R9 U
 |_=>none
abbrev zj(st:St)(a:AV):Option (List AV):=Bq<|vw st a
def cT(st:St):Option (Nat×AC)->Prop
 |none=>True
 |some (n,c)=>st[n]? =some c
noncomputable def allInts:List AV->Option (List Int)
 |[]=>some []
 |x::r=>(j6 x).bind λi=>(allInts r).bind λl=>some (i::l)
noncomputable def rO:List AV->Option (List<|List KA)
 |[]=>some []
 | .aL xs::r=>(cY qd xs).bind λk=>(rO r).bind λl=>some (k::l)
 |_::_=>none
noncomputable def oJ{U:Type}[DecidableEq U](lt:U->U->Bool):List U->List U->Bool
 |_,[]=>false
 |[],_::_=>true
 |a::as,b::bs=>if a=b then oJ lt as bs else lt a b
def yr:KA->KA->Bool
 | .int i,.int j=>decide<|i<j
 | .str a,.str b=>oJ (λm n=>decide<|m<n) a b
 | .int _,.str _=>true
 | .str _,.int _=>false
def zR(v w:List KA):Bool:=oJ yr v w
noncomputable def lu{U:Type}(lt:U->U->Bool)(x:U):List U->List U
 |[]=>[x]
 |y::ys=>if lt x y then x::y::ys else y::lu lt x ys
noncomputable def mY{U:Type}(lt:U->U->Bool):List U->List U
 |[]=>[]
 |x::xs=>lu lt x<|mY lt xs
noncomputable def Fy:KA->Bool
 | .int _=>true
 |_=>false
def qW(l:List (List KA)):Bool:=l.all (λx=>x.all Fy) ||l.all (λx=>x.all λk=> !Fy k)
def u7(st:St)(a:AV):Option (List AV):=match vw st a with
 | .L U=>some U
 | .D O=>some<|O.map λe=>e.1.av
 |_=>none
def qN(st:St)(a:AV):Option (AV×St):=
 (u7 st a).bind λU=>
  if U.length<64 then
   match allInts U with
   |some l=>if l.Nodup then some (.ref st.length,st++[.L ((mY (λa b=>decide<|a<b) l).map .int)])else none
   |none=>(rO U).bind λl=>if qW l&&decide l.Nodup then some (.ref st.length,st++[.L ((mY zR l).map λk=>(KV.t k).av)])else none
  else none
inductive KD where
 |len|range|tuple|list|sorted|sum|min|abs|int|dict|isStr
inductive GD where
 |append|pop|extend|index|get|eG
 |user (n:Nat)
def UR:List AV->Option (KV×AV)
 |[k,v]=>(l9 k).bind λk=>some (k,v)
 |_=>none
def N3:Sh->Option (KV×AV)
 | .T l=>UR l
 |_=>none
noncomputable def uP(st:St):List AV->Option (List<|KV×AV)
 |[]=>some []
 |a::r=>(N3<|vw st a).bind λe=>(uP st r).bind λl=>some (e::l)
noncomputable def yq:Int->List Int->Int
 |m,[]=>m
 |m,x::xs=>yq (if x<m then x else m) xs
def QB(st:St)(n:Nat):Option (AV×St):=if n<=lim then some (.int n,st)else none
def Mq(st:St):Sh->Option (AV×St)
 | .L U=>QB st U.length
 | .T U=>QB st U.length
 | .D O=>QB st O.length
 |_=>none
def U4:List Int->Option Int
 |[]=>none
 |x::r=>some<|yq x r
def xi:Sh->Option (List Int)
 | .L U=>(R9 U).bind allInts
 |_=>none
def XU(st:St)(b:Int):Option (AV×St):=if iG b then some (.sS 0 b,st)else none
def XT(st:St)(a b:Int):Option (AV×St):=if iG a&&iG b then some (.sS a b,st)else none
def Ei(st:St)(U:List AV):Option (AV×St):=(uP st U).bind λl=>if ed (.t []) l then some (.ref st.length,st++[.D (l.foldl (λO e=>dput O e.1 e.2) [])])else none
noncomputable def QU:AV->Option Bool
 | .str _=>some true
 | .aL _=>some false
 |_=>none
def sJ(st:St)(a:AV):KD->Option (AV×St)
 | .len=>Mq st<|vw st a
 | .range=>(j6 a).bind<|XU st
 | .tuple=>(zj st a).bind λU=>some (.aL U,st)
 | .list=>(zj st a).bind λU=>some (.ref st.length,st++[.L U])
 | .sorted=>qN st a
 | .sum=>(xi<|vw st a).bind λl=>some (.int l.sum,st)
 | .min=>(xi<|vw st a).bind λl=>(U4 l).bind λm=>some (.int m,st)
 | .abs=>(j6 a).bind λi=>some (.int (i.natAbs:Int),st)
 | .int=>(j6 a).bind λi=>some (.int i,st)
 | .dict=>(zj st a).bind<|Ei st
 | .isStr=>(QU a).bind λb=>some (.bool b,st)
def Wf(st:St)(a b:AV):KD->Option (AV×St)
 | .range=>(j6 a).bind λi=>(j6 b).bind<|XT st i
 |_=>none
def ku(st:St)(f:KD)(l:List AV):Option (AV×St):=match l with
 |[]=>none
 |a::l=>match l with
  |[]=>sJ st a f
  |b::l=>match l with
   |[]=>Wf st a b f
   |_::_=>none
noncomputable def LM:AV->Option Nat
 | .ref n=>some n
 |_=>none
noncomputable def GZ:AC->Option (List AV)
 | .L U=>some U
 |_=>none
noncomputable def Pm:AC->Option (List<|KV×AV)
 | .D U=>some U
 |_=>none
def xD{U:Type}(f:AC->Option U)(st:St)(a:AV):Option (Nat×U):=(LM a).bind λn=>(st[n]?).bind λc=>(f c).bind λx=>some (n,x)
def Rq(O:Nat)(st:St)(p:Nat×List AV):Sh->Option (AV×St)
 | .L U=>if decide (p.2.length+U.length<=lim)&&decide (O<=p.1)then some (.none,st.set p.1<|.L<|p.2++U)else none
 |_=>none
def Yb(st:St)(a:AV):Sh->Option (AV×St)
 | .L U=>if U.length<=lim&&plain dp a&&eA dp U then(U.findIdx? λy=>decide<|y=a).bind λi=>some (.int i,st)else none
 |_=>none
def Jb(st:St)(a d:AV):Sh->Option (AV×St)
 | .D U=>(l9 a).bind λk=>if ed k U then some ((fP U k).getD d,st)else none
 |_=>none
def U2(U:Nat)(st:St)(o:AV):GD->Option (AV×St)
 | .pop=>(xD GZ st o).bind λp=>if decide (p.2.length<=lim)&&decide (U<=p.1)then(p.2.getLast?).bind λx=>some (x,st.set p.1<|.L p.2.dropLast)else none
 |_=>none
def H9(U:Nat)(st:St)(o a:AV):GD->Option (AV×St)
 | .append=>(xD GZ st o).bind λp=>if decide (p.2.length<lim)&&decide (U<=p.1)then some (.none,st.set p.1<|.L<|p.2++[a])else none
 | .extend=>(xD GZ st o).bind λp=>Rq U st p<|vw st a
 | .index=>Yb st a<|vw st o
 |_=>none
def SO(st:St)(p:Nat×List (KV×AV))(k:KV)(d:AV):Option AV->AV×St
 |some v=>(v,st)
 |none=>(d,st.set p.1<|.D<|dput p.2 k d)
def Mc(U:Nat)(st:St)(o a d:AV):GD->Option (AV×St)
 | .get=>Jb st a d<|vw st o
 | .eG=>(xD Pm st o).bind λp=>(j6 a).bind λk=>if ed (.i k) p.2&&decide (p.2.length<lim)&&decide (U<=p.1)then some (SO st p (.i k) d<|fP p.2<|.i k)else none
 |_=>none
def mP(ro:Nat)(st:St)(m:GD)(o:AV)(l:List AV):Option (AV×St):=match l with
 |[]=>U2 ro st o m
 |a::l=>match l with
  |[]=>H9 ro st o a m
  |b::l=>match l with
   |[]=>Mc ro st o a b m
   |_::_=>none
noncomputable def UC:GD->Bool
 | .append=>true
 | .pop=>true
 | .extend=>true
 | .index=>true
 |_=>false
noncomputable def UD:GD->Bool
 | .get=>true
 | .eG=>true
 |_=>false
def UB(m:GD):Sh->Bool
 | .L _=>UC m
 | .D _=>UD m
 |_=>false
def hY(st:St)(m:GD)(o:AV):Bool:=UB m<|vw st o
noncomputable def UT:Sh->Option (Nat×List (Nat×AV))
 | .O c U=>some (c,U)
 |_=>none
inductive T where
 |v (x:Nat)
 |t (xs:List Nat)
inductive E where
 |af (x:Nat)
 |aI (a:AV)
 |wJ (n:Nat)
 |aL (es:List E)
 |aM (es:List E)
 |Fj (es:List E)
 |bK (kvs:List (E×E))
 |b6 (o:SM) (a b:E)
 |bk (o:TP) (a b:E)
 |and (es:List E)
 |or (es:List E)
 |not (e:E)
 |ite (c a b:E)
 |sub (o i:E)
 |AY (o:E) (i:E)
 |tO (o:E) (i:E)
 |GJ (o:E)
 |bG (o:E) (f:Nat)
 |lO (f:Nat) (args:List E)
 |vR (f:Nat) (args:List E)
 |new (c:Nat) (args:List E) (keep:Bool)
 |bA (b:KD) (args:List E)
 |bR (o:E) (m:GD) (args:List E)
 |lc (elt:E) (gens:List (T×E×List E)) (own:List Nat)
 |dc (k v:E) (t:T) (it:E) (ifs:List E) (own:List Nat)
noncomputable def Eu(n:Nat):Nat:=if n=2 then 4 else 1000
noncomputable def TB.glob(n:Nat):Option AV:=[AV.int 0,.int 1,.aL [.str [36,101,110,100],.str [101,114,114,111,114],.str [36,117,110,100,101,102,105,110,101,100]],.int 20000,.int 20000][n]?
noncomputable def TB.init(c:Nat):Option Nat:=[(93,76),(116,113),(198,132),(323,273),(358,341)].lookup c
noncomputable def N7:List (Nat×Nat×Nat):=[(198,0,139),(198,1,146),(198,2,160),(198,3,167),(93,4,83),(323,4,294),(323,5,280),(358,4,294),(358,5,348)]
def TB.u1(c n:Nat):Option Nat:=(N7.find? λp=>Nat.beq p.1 c&&Nat.beq p.2.1 n).map λp=>p.2.2
def Pk(st:St)(o:AV)(n:Nat):Option Nat:=(UT<|vw st o).bind λp=>if p.2.all λe=>decide (e.1≠Eu n)then TB.u1 p.1 n else none
abbrev Fs:=Nat->Nat->List AV->St->Option (AV×St)
def nr(x:Nat)(a:AV)(U:En):Option En:=if x<U.length then some (U.set x<|some a)else none
noncomputable def fX:List Nat->List AV->En->Option En
 |[],[],ρ=>some ρ
 |x::xs,a::as,ρ=>(nr x a ρ).bind<|fX xs as
 |_,_,_=>none
def fQ(st:St):T->AV->En->Option En
 | .v x,a,ρ=>nr x a ρ
 | .t xs,a,ρ=>match vw st a with
  | .T U=>fX xs U ρ
  | .L U=>fX xs U ρ
  |_=>none
noncomputable def dO:List Nat->En->En
 |[],ρ=>ρ
 |x::xs,ρ=>dO xs<|ρ.set x none
noncomputable def lr(t:T)(M:En->St->Option (Bool×St))(inner:En->St->Option St)(N:Option (Nat×AC)):List AV->En->St->Option St
 |[],_,st=>some st
 |x::xs,ρ,st=>(fQ st t x ρ).bind λU=>(M U st).bind λp=>
   (if p.1 then inner U p.2 else some p.2).bind λO=>if cT O N then lr t M inner N xs ρ O else none
def lM(k:Nat)(p:AV×St):Option St:=((p.2[k]?).bind GZ).bind λacc=>if acc.length<lim then some (p.2.set k<|.L<|acc++[p.1])else none
def xv(k:Nat)(U v:AV)(st:St):Option St:=((st[k]?).bind Pm).bind λacc=>(l9 U).bind λO=>if ed O acc&&decide (acc.length<lim)then some (st.set k<|.D<|dput acc O v)else none
noncomputable def mJ:AV->Option Bool
 | .bool b=>some b
 |_=>none
section
variable(Φ:Fs)(ro:Nat)
mutual
noncomputable def bZ:E->En->St->Option (AV×St)
 | .af x,U,st=>match U[x]? with
  |some (some a)=>some (a,st)
  |_=>none
 | .aI a,_,st=>some (a,st)
 | .wJ n,_,st=>(TB.glob n).bind λa=>some (a,st)
 | .aL es,U,st=>(gP es U st).bind λp=>if p.1.length<=lim then some (.aL p.1,p.2)else none
 | .aM es,U,st=>(gP es U st).bind λp=>if p.1.length<=lim then some (.ref p.2.length,p.2++[.L p.1])else none
 | .Fj es,U,st=>(gP es U st).bind λp=>if decide (p.1.length<=lim)&&gD p.1 then some (.aM p.1,p.2)else none
 | .bK kvs,U,st=>(W7 kvs U st).bind λp=>some (.ref p.2.length,p.2++[.D p.1])
 | .b6 o a b,U,st=>(bZ a U st).bind λp=>(bZ b U p.2).bind λq=>mT q.2 o p.1 q.1
 | .bk o a b,U,st=>(bZ a U st).bind λp=>(bZ b U p.2).bind λq=>(jc q.2 o p.1 q.1).bind λr=>some (.bool r,q.2)
 | .and es,U,st=>(nS true es U st).bind λp=>some (.bool p.1,p.2)
 | .or es,U,st=>(nS false es U st).bind λp=>some (.bool p.1,p.2)
 | .not e,U,st=>(bZ e U st).bind λp=>(mJ p.1).bind λb=>some (.bool<|!b,p.2)
 | .ite c a b,U,st=>(bZ c U st).bind λp=>(mJ p.1).bind λt=>if t then bZ a U p.2 else bZ b U p.2
 | .sub o i,U,st=>(bZ o U st).bind λp=>(bZ i U p.2).bind λq=>(subQ q.2 p.1 q.1).bind λr=>some (r,q.2)
 | .AY o i,U,st=>(bZ o U st).bind λp=>(bZ i U p.2).bind λq=>(j6 q.1).bind λn=>nc q.2 p.1<|.m5 n
 | .tO o i,U,st=>(bZ o U st).bind λp=>(bZ i U p.2).bind λq=>(j6 q.1).bind λn=>nc q.2 p.1<|.to n
 | .GJ o,U,st=>(bZ o U st).bind λp=>nc p.2 p.1 .rev
 | .bG o f,U,st=>(bZ o U st).bind λp=>(og p.2 p.1 f).bind λr=>some (r,p.2)
 | .lO f args,U,st=>(gP args U st).bind λp=>Φ ro f p.1 p.2
 | .vR f args,U,st=>(gP args U st).bind λp=>(cY (iH p.2 st.length 6) p.1).bind λN=>(gG p.2 st.length 6 st p.2).bind λM=>Φ ro f N M
 | .new c args keep,U,st=>(gP args U st).bind λp=>(TB.init c).bind λf=>
   (Φ ro f (.ref p.2.length::p.1)<|p.2++[.O c []]).bind λr=>if !lS r.1 then none else if keep then some (.ref p.2.length,r.2)else
    (iH r.2 p.2.length 6<|.ref p.2.length).bind λa=>(gG r.2 p.2.length 6 p.2 r.2).bind λM=>some (a,M)
 | .bA b args,U,st=>(gP args U st).bind λp=>ku p.2 b p.1
 | .bR o m args,U,st=>(bZ o U st).bind λp=>match m with
  | .user n=>(Pk p.2 p.1 n).bind λf=>(gP args U p.2).bind λq=>Φ ro f (p.1::q.1) q.2
  |m=>if hY p.2 m p.1 then(gP args U p.2).bind λq=>mP ro q.2 m p.1 q.1 else none
 | .lc elt gens own,U,st=>match gens with
  |[]=>none
  |(t,it,ifs)::gs=>(bZ it U st).bind λp=>(dR ro p.2 p.1).bind λq=>
    (lr t (nS true ifs) (FO (λU st=>(bZ elt U st).bind<|lM p.2.length) gs) q.2 q.1 (dO own U)<|p.2++[.L []]).bind λM=>some (.ref p.2.length,M)
 | .dc k v t it ifs own,U,st=>(bZ it U st).bind λp=>(dR ro p.2 p.1).bind λq=>
    (lr t (nS true ifs) (λU st=>(bZ k U st).bind λa=>(bZ v U a.2).bind λb=>xv p.2.length a.1 b.1 b.2) q.2 q.1 (dO own U)<|p.2++[.D []]).bind λM=>some (.ref p.2.length,M)
noncomputable def gP:List E->En->St->Option (List AV×St)
 |[],_,st=>some ([],st)
 |e::es,ρ,st=>(bZ e ρ st).bind λp=>(gP es ρ p.2).bind λq=>some (p.1::q.1,q.2)
noncomputable def nS(c:Bool):List E->En->St->Option (Bool×St)
 |[],_,st=>some (c,st)
 |e::es,ρ,st=>(bZ e ρ st).bind λp=>(mJ p.1).bind λb=>if b==c then nS c es ρ p.2 else some (b,p.2)
noncomputable def W7:List (E×E)->En->St->Option (List (KV×AV)×St)
 |[],_,st=>some ([],st)
 |[(k,v)],ρ,st=>(bZ k ρ st).bind λp=>(bZ v ρ p.2).bind λq=>(l9 p.1).bind λU=>some ([(U,q.1)],q.2)
 |_::_::_,_,_=>none
noncomputable def FO(emit:En->St->Option St):List (T×E×List E)->En->St->Option St
 |[],ρ,st=>emit ρ st
 |(t,it,ifs)::gs,ρ,st=>(bZ it ρ st).bind λp=>(dR ro p.2 p.1).bind λq=>lr t (nS true ifs) (FO emit gs) q.2 q.1 ρ p.2
end
inductive Out where
 |next
 |cont
 |ret (a:AV)
inductive Tg where
 |v (x:Nat)
 |t (xs:List Nat)
 |bG (o:E) (f:Nat)
 |sub (o i:E)
inductive S where
 |aU (t:Tg) (e:E)
 |exp (e:E)
 |jt (c:E) (a b:List S)
 |dT (t:T) (it:E) (body:List S)
 |A4 (c:E) (body:List S)
 |ret (e:E)
 |cont
 |Bz
 |gc (drop:List Nat)
 |jU (drop:List Nat)
noncomputable def ng:List (Nat×AV)->Nat->AV->List (Nat×AV)
 |[],f,a=>[(f,a)]
 |(k,x)::r,f,a=>if k=f then(k,a)::r else(k,x)::ng r f a
def Lk(ro:Nat)(st:St)(n:Nat)(i a:AV):AC->Option St
 | .L U=>(j6 i).bind λk=>if nI k&&decide (k.toNat<U.length)&&decide (U.length<=lim)&&decide (ro<=n)then some (st.set n<|.L<|U.set k.toNat a)else none
 | .D O=>(l9 i).bind λM=>if ed M O&&decide (O.length<lim)&&decide (ro<=n)then some (st.set n<|.D<|dput O M a)else none
 |_=>none
def Lj(ro:Nat)(st:St)(o i a:AV):Option St:=(LM o).bind λn=>(st[n]?).bind<|Lk ro st n i a
def PK(ro:Nat)(st:St)(n f:Nat)(a:AV):AC->Option St
 | .O c U=>if decide (U.length<100)&&decide (ro<=n)&&m9 c f then some (st.set n<|.O c<|ng U f a)else none
 |_=>none
def Lo(ro:Nat)(st:St)(o:AV)(f:Nat)(a:AV):Option St:=(LM o).bind λn=>(st[n]?).bind<|PK ro st n f a
def Ak:Tg->AV->En->St->Option (En×St)
 | .v x,a,ρ,st=>(nr x a ρ).bind λU=>some (U,st)
 | .t xs,a,ρ,st=>(fQ st (.t xs) a ρ).bind λU=>some (U,st)
 | .bG o f,a,ρ,st=>(bZ Φ ro o ρ st).bind λp=>(Lo ro p.2 p.1 f a).bind λs=>some (ρ,s)
 | .sub o i,a,ρ,st=>(bZ Φ ro o ρ st).bind λp=>(bZ Φ ro i ρ p.2).bind λq=>(Lj ro q.2 p.1 q.1 a).bind λs=>some (ρ,s)
noncomputable def my(U:AV->En->St->Option En)(step:En->St->Option (Out×En×St))(M:Option (Nat×AC)):List AV->En->St->Option (Out×En×St)
 |[],ρ,st=>some (.next,ρ,st)
 |x::xs,ρ,st=>(U x ρ st).bind λO=>(step O st).bind λr=>match r.1 with
  | .ret v=>some (.ret v,r.2)
  |_=>if cT r.2.2 M then my U step M xs r.2.1 r.2.2 else none
noncomputable def wR(test:En->St->Option (Bool×St))(step:En->St->Option (Out×En×St)):Nat->En->St->Option (Out×En×St)
 |0,_,_=>none
 |n+1,ρ,st=>(test ρ st).bind λp=>if p.1 then(step ρ p.2).bind λr=>match r.1 with
   | .ret v=>some (.ret v,r.2)
   |_=>wR test step n r.2.1 r.2.2
  else some (.next,ρ,p.2)
def Ah(st:St)(O:Nat)(drop:List Nat)(U:En):Option En:=
 cY (λo=>match o with|none=>some none|some a=>(iH st O 6 a).bind λb=>some<|some b) (dO drop U)
mutual
noncomputable def Al(N:Nat)(O:Nat):S->En->St->Option (Out×En×St)
 | .aU t e,U,st=>(bZ Φ ro e U st).bind λp=>(Ak Φ ro t p.1 U p.2).bind λr=>some (.next,r)
 | .exp e,U,st=>(bZ Φ ro e U st).bind λp=>some (.next,U,p.2)
 | .jt c a b,U,st=>(nS Φ ro true [c] U st).bind λp=>if p.1 then cg N O a U p.2 else cg N O b U p.2
 | .dT t it body,U,st=>(bZ Φ ro it U st).bind λp=>(dR ro p.2 p.1).bind λq=>
   my (λx U st=>fQ st t x U) (cg N p.2.length body) q.2 q.1 U p.2
 | .A4 c body,U,st=>wR (nS Φ ro true [c]) (cg N st.length body) N U st
 | .ret e,U,st=>(bZ Φ ro e U st).bind λp=>some (.ret p.1,U,p.2)
 | .cont,U,st=>some (.cont,U,st)
 | .Bz,_,_=>none
 | .jU drop,U,st=>some (.next,dO drop U,st)
 | .gc drop,U,st=>(Ah st O drop U).bind λM=>(cY (jT st O 6)<|st.take O).bind λD=>some (.next,M,D)
noncomputable def cg(N:Nat)(U:Nat):List S->En->St->Option (Out×En×St)
 |[],ρ,st=>some (.next,ρ,st)
 |s::ss,ρ,st=>(Al N U s ρ st).bind λr=>match r.1 with
  | .next=>cg N U ss r.2.1 r.2.2
  |_=>some r
end
structure Fn where
 HM:Bool:=true
 keep:Bool:=false
 params:Nat
 slots:Nat
 dflt:List AV
 body:List S
noncomputable def LZ:Out->Option AV
 | .ret v=>some v
 | .next=>some AV.none
 | .cont=>none
def kC(N:Nat)(f:Fn)(args:List AV)(st:St):Option (AV×St):=
 if args.length<=f.params/\f.params<=args.length+f.dflt.length/\f.params<=f.slots then
  (cg Φ (if f.HM then st.length else ro) N st.length f.body ((args++f.dflt.drop (f.dflt.length-(f.params-args.length))).map some++List.replicate (f.slots-f.params) none) st).bind λr=>
   (LZ r.1).bind λv=>bif f.keep then DT r.2.2 st v else(iH r.2.2 st.length 6 v).bind λO=>(gG r.2.2 st.length 6 st r.2.2).bind λU=>some (O,U)
 else none
end
end
section
open Classical PyProof.Rows PySem PySem.SeqAt PySem.W
inductive Xn{β:Type}(h:Heap)(o:List β->Nat->Obj)(R:List β->Prop)(v:Value):Prop
 |mk (l vs n) (e:v=.ref l) (p:h.get? l=some (o vs n)) (r:R vs)
inductive ZX(h:Heap)(c:Nat)(R:List DictEntry->Prop)(v:Value):Prop
 |mk (x d ds n) (e:v=.ref x) (p:h.get? x=some (oO c d)) (q:h.get? d=some (d6 ds n)) (r:R ds)
section
variable{U:St}{h:Heap}
def ZR(C:Cx)(g:Gh)(h:Heap):Sh->Value->Prop
 | .L xs,v=>Xn h du (eT C.w g h xs) v
 | .T xs,v=>AX g h gh (eT C.w g h xs) v
 | .D es,v=>Xn h d6 (λM=>lh C.w g h es M/\(es.map (·.1)).Nodup) v
 | .O c fs,v=>ZX h c (qE C.w g h fs) v
 | .no,_=>True
def Sv(S:cH C g U h){n:Nat}(B:g.mu[n]? =some p)(e:v=.ref p.1):ZR C g h (OR U[n]?) v:=by
 induction hs:U[n]? with
 |none=>trivial
 |some c=>
  obtain⟨j,P,X⟩:=S.cells.get hs;replace e:=(ak<|B.symm.trans P)▸e;induction c with
  |L A=>obtain⟨_,M,k,H,N⟩:=X;exact⟨_,M,k,e,H,N⟩
  |D q=>obtain⟨_,M,k,H,N⟩:=X;exact⟨_,M,k,e,H,N⟩
  |O c w=>obtain⟨H,M,k,Q,N⟩:=X;exact⟨_,_,M,k,e,H,Q,N⟩
def jV(S:cH C g U h)(r:VR C.w g h a v):ZR C g h (vw U a) v:=by
 cases a with
 |aL N=>exact r
 |aM N=>obtain⟨a,O,n,M,i,o,r,_⟩:=r;exact⟨a,O,n,M,o,r⟩
 |bK L=>obtain⟨a,O,n,M,i,o,r,d,_⟩:=r;exact⟨a,O,n,M,o,r,d⟩
 |obj c H=>obtain⟨a,d,O,n,M,i,j,o,q,r,_⟩:=r;exact⟨a,d,O,n,M,o,q,r⟩
 |ref n=>obtain⟨p,D,e⟩:=r;exact Sv S D e
 |_=>trivial
def K4(S:cH C g U h)(r:VR C.w g h a v){O}(e:vw U a=.L O):Xn h du (eT C.w g h O) v:=by have:=jV S r;rwa [e] at this
def Pa(S:cH C g U h)(r:VR C.w g h a v){O}(e:vw U a=.T O):AX g h gh (eT C.w g h O) v:=by have:=jV S r;rwa [e] at this
def TU(S:cH C g U h)(r:VR C.w g h a v)(e:vw U a=.D O):Xn h d6 (λM=>lh C.w g h O M/\(O.map (·.1)).Nodup) v:=by have:=jV S r;rwa [e] at this
def Xw(S:cH C g U h)(r:VR C.w g h a v)(e:vw U a=.O c M):ZX h c (qE C.w g h M) v:=by have:=jV S r;rwa [e] at this
def WA(S:cH C g U h)(Q:VR C.w g h a v)(H:VR C.w g h b u)(e:LL f (vw U a) (vw U b)=some x){P:Value->Value->Prop}
  (k:∀xs ys M vs D O ws N,f xs ys=some x->h.get? M=(du vs D)->eT C.w g h xs vs->h.get? O=(du ws N)->eT C.w g h ys ws->P (.ref M) (.ref O)):P v u:=by
 have y:=jV S Q;have q:=jV S H
 revert e y
 induction vw U a with
 |L xs=>
  revert q
  induction vw U b with
  |L ys=>intro⟨O,ws,N,o,A,X⟩ e ⟨M,vs,D,r,j,B⟩;exact bV r o<|k _ _ _ _ _ _ _ _ e j B A X
  |_=>exact λp=>eg
 |_=>exact eg
def S9(M:h.get? l=(du O n)):h.IsList l O.toArray:=⟨_,M,Y,n,Y⟩
def isT(M:h.get? l=(gh O n)):h.IsTuple l O.toArray:=⟨_,M,Y,n,Y⟩
end
@[elab_as_elim] def eT.ind{w}{g}{h}{P:List AV->List Value->Prop}{xs vs}(H:eT w g h xs vs)(n:P [] [])(c:∀{x xs v vs},VR w g h x v->eT w g h xs vs->P xs vs->P (x::xs) (v::vs)):P xs vs:=by
 induction xs generalizing vs with
 |nil=>exact J H n
 |cons x xs U=>obtain⟨v,r,e,a,b⟩:=H;exact J e<|c a b<|U b
theorem eT.length{w}{g}{h}{xs U}(r:eT w g h xs U):xs.length=U.length:=eT.ind r Y λO O=>congrArg Nat.succ
def eT.get{n:Nat}{x}(r:eT w g h U O)(e:U[n]? =some x):∃v,O[n]? =some v/\VR w g h x v:=by
 induction U generalizing O n with
 |nil=>exact eg e
 |cons y U M=>
  obtain⟨u,D,N,a,r⟩:=r;refine J N ?_;induction n with
  |zero=>exact⟨u,Y,jn (ak e) a⟩
  |succ n=>exact have h:=M r e;h
def eT.append{O U M us}(r:eT w g h O M)(q:eT w g h U us):eT w g h (O++U) (M++us):=eT.ind r q λa N e=>⟨_,_,Y,a,e⟩
theorem eT.take{U O} n(r:eT w g h U O):eT w g h (U.take n) (O.take n):=by
 induction U generalizing O n with
 |nil=>exact J r<|bV List.take_nil List.take_nil Y
 |cons y U M=>exact n.casesOn Y λn=>by obtain⟨u,N,e,a,r⟩:=r;exact J e ⟨u,_,Y,a,M n r⟩
theorem eT.drop{U O} n(r:eT w g h U O):eT w g h (U.drop n) (O.drop n):=by
 induction U generalizing O n with
 |nil=>exact J r<|bV List.drop_nil List.drop_nil Y
 |cons y U M=>exact n.casesOn r λn=>by obtain⟨u,N,e,a,r⟩:=r;exact J e<|M n r
theorem eT.reverse{U O}(r:eT w g h U O):eT w g h U.reverse O.reverse:=
 eT.ind r Y λa M e=>bV iW iW<|eT.append e ⟨_,[],Y,a,Y⟩
theorem eT.set{x v}(D:VR w g h x v){U O} n(r:eT w g h U O):eT w g h (U.set n x) (O.set n v):=by
 induction U generalizing O n with
 |nil=>exact J r Y
 |cons y U N=>obtain⟨u,M,e,a,r⟩:=r;exact J e<|n.casesOn ⟨v,M,Y,D,r⟩ λn=>⟨u,_,Y,a,N n r⟩
theorem eT.replicate{x v}(O:VR w g h x v):∀(n:Nat),eT w g h (List.replicate n x) (List.replicate n v):=λn=>n.rec Y λn U=>⟨v,_,Y,O,U⟩
mutual
noncomputable def uy:AV->PyData
 | .int i=>.int i
 | .str s=>.str<|wF s
 | .aL U=>.tuple<|jk U
 | .aM U=>.list<|jk U
 |_=>.none
noncomputable def jk:List AV->List PyData
 |[]=>[]
 |x::xs=>uy x::jk xs
end
inductive TJ:AV->Nat->Prop
 |none {d}:TJ .none d
 |int {i d}:TJ (.int i) d
 |str {s:List Nat} {d} (h:s.all (λc=>decide<|c<0x110000)=true):TJ (.str s) d
 |aL {xs d} (h:eA d xs=true):TJ (.aL xs) (d+1)
 |aM {xs d} (h:eA d xs=true):TJ (.aM xs) (d+1)
def P9(h:plain d a=true):TJ a d:=by
 cases a with
 |none=>exact .none
 |int _=>exact .int
 |str _=>exact .str h
 |aL _=>induction d with
  |zero=>exact nb h
  |succ d=>exact .aL h
 |aM _=>induction d with
  |zero=>exact nb h
  |succ d=>exact .aM h
 |_=>exact nb h
def qi{m:AV->Nat->Prop}{ms:List AV->Nat->Prop}(c:∀{x xs d},m x d->ms xs d->ms (x::xs) d)(n:∀{d},ms [] d)(h:∀x∈xs,∀d,plain d x=true->m x d):∀d,eA d xs=true->ms xs d:=by
 induction xs with
 |nil=>exact λU U=>n
 |cons x xs O=>exact λd p=>let p:=Bool.and_eq_true_iff.mp p;c (h x (.head _) d p.1) (O (λy M=>h y<|.tail _ M) d p.2)
def sd{m:AV->Nat->Prop}{ms:List AV->Nat->Prop}(none:∀{d},m .none d)(int:∀{i d},m (.int i) d)(str:∀{s:List Nat} {d},s.all (λc=>decide<|c<0x110000)=true->m (.str s) d)
  (O:∀{xs d},eA d xs=true->ms xs d->m (.aL xs) (d+1)) (M:∀{xs d},eA d xs=true->ms xs d->m (.aM xs) (d+1)) (nil:∀{d},ms [] d) (cons:∀{x xs d},m x d->ms xs d->ms (x::xs) d):∀a d,plain d a=true->m a d:=
 AV.rec (motive_2:=λxs=>∀d,eA d xs=true->ms xs d) (motive_3:=λU=>True) (motive_4:=λU=>True) (motive_5:=λU=>True) (motive_6:=λU=>True)
  (λU U=>none) (λU U=>nb) (λU U U=>int) (λU U=>str) (λU N U h=>match P9 h with| .aL h=>O h<|N _ h) (λU N U h=>match P9 h with| .aM h=>M h<|N _ h)
  (λU U U=>nb) (λU U U U=>nb) (λU U U=>nb) (λU U=>nb) (λU U=>nil)
  (λU U H D d p=>let p:=Bool.and_eq_true_iff.mp p;cons (H d p.1) (D d p.2)) trivial (λU U U U=>trivial) trivial (λU U U U=>trivial) (λU U U=>trivial) (λU U U=>trivial)
def tA(M:(uy x).canLay0=true/\(uy x).depth<=d)(O:PyData.canLayAll0 (jk U)=true/\PyData.depthAll (jk U)<=d):
  PyData.canLayAll0 (jk (x::U))=true/\PyData.depthAll (jk (x::U))<=d:=⟨J5 ⟨M.1,O.1⟩,Nat.max_le.mpr ⟨M.2,O.2⟩⟩
def eP(h:plain d a=true):(uy a).canLay0=true/\(uy a).depth<=d:=
 sd (ms:=λU d=>PyData.canLayAll0 (jk U)=true/\PyData.depthAll (jk U)<=d) ⟨Y,bf _⟩ ⟨Y,bf _⟩
  (λp=>⟨by show PyData.strOk (wF _)=true;dsimp only [PyData.strOk,wF];exact jn Array.all_toList p,bf _⟩)
  (λO h=>⟨h.1,bq h.2⟩) (λO h=>⟨h.1,bq h.2⟩) ⟨Y,bf _⟩ tA a d h
def ju(h:eA d a=true):PyData.canLayAll0 (jk a)=true/\PyData.depthAll (jk a)<=d:=
 qi (ms:=λU d=>PyData.canLayAll0 (jk U)=true/\PyData.depthAll (jk U)<=d) tA ⟨Y,bf _⟩ (λO O O=>eP) d h
def Rd(w:World)(g:Gh)(h:Heap)(a:AV)(_:Nat):Prop:=∀v,VR w g h a v->∃U,Reads h v (uy a) U
def Y4(w:World)(g:Gh)(h:Heap)(a:List AV)(_:Nat):Prop:=∀vs,eT w g h a vs->∃U,ReadsAll h vs (jk a) U
def HA:Y4 w g h [] d:=λU r=>J r ⟨_,.nil⟩
def Dl(L:Rd w g h x d)(H:Y4 w g h U d):Y4 w g h (x::U) d:=λ_ ⟨u,O,e,a,b⟩=>(L u a).elim λM D=>(H O b).elim λM N=>J e ⟨_,.cons D N⟩
def rd(p:plain d a=true):Rd w g h a d:=
 sd (λU r=>J r ⟨_,.none⟩) (λ_ M=>M.elim λt e=>J e ⟨_,.int _ t⟩) (λ_ _ M=>M.elim λt e=>J e ⟨_,.str _ t⟩)
  (λU N U O=>by obtain⟨a,D,n,e,_,o,r⟩:=O;exact(N _ r).elim λU q=>J e ⟨_,.tuple o Y Y q⟩)
  (λU N U O=>by obtain⟨a,D,n,e,_,o,r,_⟩:=O;exact(N _ r).elim λU q=>J e ⟨_,.list o Y Y q⟩) HA Dl a d p
def iz(p:plain d a=true)(r:VR w g h a v):∃U,Reads h v (uy a) U:=rd p v r
def yi(p:eA d a=true)(r:eT w g h a U):∃M,ReadsAll h U (jk a) M:=
 qi Dl HA (λO O O=>rd) d p U r
def yp{a b}(h:wF a=wF b):a=b:=List.toArray_inj<|Str.mk.inj h
open Classical in
def Ek{p:Prop}{b:Bool}{_:Decidable p}(h:b=true↔p):b=decide p:=by
 cases b with
 |true=>exact(aq<|h.mp Y).symm
 |false=>exact(aF λq=>nomatch h.mpr q).symm
def Ev(a:AV)(_:Nat):Prop:=∀b d,plain d b=true->(PyData.eqv (uy a) (uy b)=true↔a=b)
def Y9(a:List AV)(_:Nat):Prop:=∀b d,eA d b=true->(PyData.eqvAll (jk a) (jk b)=true↔a=b)
def Jt:Y9 [] d:=λb d q=>by exact b.casesOn ⟨λU=>rfl,λU=>rfl⟩ λU U=>⟨λh=>(nb h),λh=>(nl h)⟩
def Ec(N:Ev x d)(M:Y9 O d):Y9 (x::O) d:=λb d q=>by
 induction b with
 |nil=>exact⟨λh=>(nb h),λh=>(ln h)⟩
 |cons y U=>simp only [List.cons.injEq,<-N y d (Bool.and_eq_true_iff.mp q).1,<-M U d (Bool.and_eq_true_iff.mp q).2];exact Bool.and_eq_true_iff
def ev(p:plain d a=true):Ev a d:=by
 refine sd ?_ ?_ ?_ ?_ ?_ Jt Ec a d p
 .intro d b U q;induction P9 q<;>first|exact⟨λN=>rfl,λN=>rfl⟩|exact⟨nb,AV.noConfusion⟩
 .intro i d b U q;induction P9 q<;>first|exact⟨λh=>congrArg _<|eq_of_beq h,λh=>beq_iff_eq.mpr<|by injection h⟩|exact⟨nb,AV.noConfusion⟩
 .intro s d _ b U q;induction P9 q<;>first|exact⟨λh=>congrArg _<|yp<|eq_of_beq h,λh=>beq_iff_eq.mpr<|congrArg wF<|by injection h⟩|exact⟨nb,AV.noConfusion⟩
 .intro M d _ O b U q;induction P9 q<;>first|exact((O _ _ ‹_›).trans ⟨congrArg AV.aL,(λh=>by injection h)⟩)|exact⟨nb,AV.noConfusion⟩
 .intro M d _ O b U q;induction P9 q<;>first|exact((O _ _ ‹_›).trans ⟨congrArg AV.aM,(λh=>by injection h)⟩)|exact⟨nb,AV.noConfusion⟩
def pz(p:plain d a=true)(q:plain U b=true):PyData.eqv (uy a) (uy b)=decide (a=b):=Ek<|ev p b U q
def BD(p:eA d a=true)(q:eA O b=true):PyData.eqvAll (jk a) (jk b)=decide (a=b):=
 Ek (qi Ec Jt (λU U U=>ev) d p b O q)
section
variable{C:Cx}
def vG(Q:A.units+dp<cLine)(O:plain dp a=true)(U:plain dp b=true)(H:VR C.w g s.heap a N)(D:VR C.w g s.heap b M):EqAt A s N M (decide<|a=b):=bQ (iz O H) λB P=>(iz U D).elim λX L=>jn (pz O U)<|eqAt_reads _ _ A s N M B X P L (eP O).1 (eP U).1<|lq [_,_,_] [aH (.s<|.a ax<|.c 300) (.c 9900),aH a7<|.c 300,aH aE a7] (.s<|.a ax aE) (.c 9900) Y Q (eP U).2 (jg ..)
def Bx(Q:A.units+dp<cLine)(O:plain dp a=true)(U:plain dp b=true)(H:VR C.w g s.heap a N)(D:VR C.w g s.heap b M):RcAt A s N M (decide<|a=b):=bQ (iz O H) λB P=>(iz U D).elim λX L=>jn (pz O U)<|rcAt_reads P L (eP O).1 (eP U).1<|lq [_,_,_] [aH (.s<|.a ax<|.c 300) (.c 9900),aH a7<|.c 300,aH aE a7] (.s<|.a ax aE) (.c 9900) Y Q (eP U).2 (jg ..)
def ye(Q:A.units+dp<cLine)(O:plain dp a=true)(U:plain dp b=true)(H:VR C.w g s.heap a N)(D:VR C.w g s.heap b M):RcNeAt A s N M (!decide (a=b)):=bQ (iz O H) λB P=>(iz U D).elim λX L=>jn (pz O U)<|rcNeAt_reads P L (eP O).1 (eP U).1<|lq [_,_,_] [aH (.s<|.a ax<|.c 300) (.c 9900),aH a7<|.c 300,aH aE a7] (.s<|.a ax aE) (.c 9900) Y Q (eP U).2 (jg ..)
end
inductive b7(C:Cx)(g:Gh)(s:Shared)(r:AV)(st':St)(v:Value)(s':Shared):Prop
 |mk (g') (S:cH C g' st' s'.heap) (X:fg g.mu.length nx g s g' s') (r:VR C.w g' s'.heap r v)
abbrev eV:Value->Shared->Prop:=λU U=>False
structure mV(A:Around)(n:Nat):Prop where
 depth:A.depth+n<recursionLimit
 units:A.units+8*n+400<cLine
 handled:A.handled=none
def mV.le(R:mV A n)(h:m<=n):mV A m:=⟨by have:=R.depth;exact lq [_,_,_] [aH aE a7,aH (.s<|.a ax a7) (.c 1000)] (.s<|.a ax aE) (.c 1000) Y h this,by have:=R.units;exact lq [_,_,_] [.e 8 aE a7,aH (.s<|.a (.a ax<|.m 8 a7)<|.c 400) (.c 9900)] (.s<|.a (.a ax<|.m 8 aE)<|.c 400) (.c 9900) Y h this,R.handled⟩
def mV.u(R:mV A n):A.units<cLine:=by have:=R.units;exact lq [_,_] [aH (.s<|.a (.a ax<|.m 8 aE)<|.c 400) (.c 9900)] (.s ax) (.c 9900) Y this
section
variable{C:Cx}{U:St}{s:Shared}
def cC(S:cH C g U s.heap)(h:VR C.w g s.heap r v):b7 C g s r U v {s with toks:=t}:=⟨g,S,vE S.iJ,h⟩
def xh(M:h=s.heap):Keeps g h (g.add h.objs.size) (h.push o):=⟨λO=>Or.inl,λO O O e=>aP o e,λO O e=>e⟩
def tW(S:cH C g U s.heap)(N:eT C.w g s.heap M O):
  b7 C g s (.aL M) U (.ref s.heap.objs.size) {s with heap:=s.heap.push<|gh O 0,toks:=t}:=
 ⟨_,S.HJ Y,sD S.iJ,s.heap.objs.size,O,0,Y,.inr Y,ba _ Y,N.mono<|xh Y⟩
def tX(S:cH C g U s.heap)(D:eT C.w g s.heap N M):
  b7 C g s (.ref U.length) (U++[.L N]) (.ref s.heap.objs.size) {s with heap:=s.heap.push<|du M 0,toks:=t}:=
 ⟨_,S.N2 Y ⟨Y,M,0,ba _ Y,D.mono ⟨λO x=>x,λO O O e=>aP _ e,λO O e=>e⟩⟩,xq S.iJ,qV S⟩
def HN(S:cH C g U s.heap)(N:eT C.w g s.heap O M)(D:gD O=true):
  b7 C g s (.aM O) U (.ref s.heap.objs.size) {s with heap:=s.heap.push<|du M 0,toks:=t}:=
 ⟨_,S.HJ Y,sD S.iJ,s.heap.objs.size,M,0,Y,.inr Y,ba _ Y,N.mono<|xh Y,D⟩
def LO(S:cH C g U s.heap)(H:lh C.w g s.heap M N)(L:(M.map (·.1)).Nodup):
  b7 C g s (.ref U.length) (U++[.D M]) (.ref s.heap.objs.size) {s with heap:=s.heap.push<|d6 N 0,toks:=t}:=
 ⟨_,S.N2 Y ⟨Y,N,0,ba _ Y,H.mono ⟨λO x=>x,λO O O e=>aP _ e,λO O e=>e⟩,L⟩,xq S.iJ,qV S⟩
def iN(h:n<=lim):n<=sizeLine:=by refine J sizeLine_eq ?_;delta lim at h;exact lq [_] [aH ax (.c 1000000)] ax (.c 16777216) Y h
def nj{a}(h:a.natAbs<2^k):Builtin.Int.intBits a<=k:=by
 delta Builtin.Int.intBits;split
 .exact bf _
 .rename_i O;have M:a.natAbs≠0:=by intro e;apply O;simp;exact Int.natAbs_eq_zero.mp e
  have:=(Nat.log2_lt M).mpr h;assumption
noncomputable def SM.op:SM->Operator
 | .add=>.Add| .sub=>.Sub| .mul=>.Mult| .fdiv=>.FloorDiv| .mod=>.Mod| .pow=>.Pow
def NA{M O}{X P}(D:s.heap.get? L=(gh M X))(N:s.heap.get? H=(gh O P))(j:M.length+O.length<=sizeLine)
  (v:M=[]->Q (.ref H) s) (q:O=[]->Q (.ref L) s) (w:Q (.ref s.heap.objs.size) {s with heap:=s.heap.push (gh (M++O) 0)}):
  wpAny C.m A (binaryOp .Add (.ref L)<|.ref H) Q eV s:=by
 have e:M.toArray++O.toArray=(M++O).toArray:=by simp
 by_cases B:M.toArray.isEmpty=true
 .exact concat_meets ⟨_,D,Y⟩ ⟨_,N,Y⟩ noFill_tuple_add seq_tuple_add PySem.F.slot_tuple_add PySem.F.entry_tuple_add (PySem.F.args_tuple_add_2 ..) (tuple_addW0 L H M.toArray O.toArray X P none none #[] #[] B) ⟨D,N,v<|by simpa using B⟩
 .exact if c1:O.toArray.isEmpty=true then concat_meets ⟨_,D,Y⟩ ⟨_,N,Y⟩ noFill_tuple_add seq_tuple_add PySem.F.slot_tuple_add PySem.F.entry_tuple_add (PySem.F.args_tuple_add_2 ..) (tuple_addW1 L H M.toArray O.toArray X P none none #[] #[] B c1) ⟨D,N,q<|by simpa using c1⟩else by refine concat_meets ⟨_,D,Y⟩ ⟨_,N,Y⟩ noFill_tuple_add seq_tuple_add PySem.F.slot_tuple_add PySem.F.entry_tuple_add (PySem.F.args_tuple_add_2 ..) (tuple_addW2 L H M.toArray O.toArray X P none none #[] #[] B c1 j) ⟨D,N,?_⟩;exact J e w
def NB{M O}{H D}(B:s.heap.get? P=(du M H))(X:s.heap.get? L=(du O D))(N:M.length+O.length<=sizeLine)
  (j:Q (.ref s.heap.objs.size) {s with heap:=s.heap.push (du (M++O) 0)}):
  wpAny C.m A (binaryOp .Add (.ref P)<|.ref L) Q eV s:=by
 have e:M.toArray++O.toArray=(M++O).toArray:=by simp
 refine concat_meets ⟨_,B,Y⟩ ⟨_,X,Y⟩ noFill_list_add seq_list_add PySem.F.slot_list_add PySem.F.entry_list_add (PySem.F.args_list_add_2 ..) (list_addW P L M.toArray O.toArray H D none none #[] #[] N) ⟨B,X,?_⟩;exact J e j
def zv{i j}(h:uM i j=true):0<=j/\(Builtin.Int.intBits i)*j<=2^27:=by delta uM at h;simp only [cF,cy] at h;have:=nj h.1.1;refine⟨h.1.2,?_⟩;exact ef (Int.mul_le_mul (Nat.ToInt.of_le Y Y this) h.2 h.1.2<|Int.zero_le_ofNat 60000)<|by decide
def FI:∀(l:List (Array Value)) (a:Array Value),l.foldl (λx y=>x++y) a=a++(l.map (·.toList)).flatten.toArray:=λl=>l.rec (λa=>rfl) λx l O=>by intro a;simp only [List.foldl_cons,O];apply Array.ext';simp
def jQ{a}{i}(h:j6 a=some i):a=.int i:=by cases a<;>cases h;rfl
def vn{O:Type}{_:Decidable c}{x y:O}(h:(if c then some x else none)=y):c/\x=y:=if q:c then(by replace h:=(au q)▸h;have h:=ak h;exact jn h ⟨q,Y⟩)else by replace h:=(az q)▸h;exact eg h
def Wl{o}(S:cH C g U s.heap){i j}(L:VR C.w g s.heap (.int i) D)(H:VR C.w g s.heap (.int j) N)(e:ZM U i j o=(r,M)):wpAny C.m A (binaryOp o.op D N) (b7 C g s r M) eV s:=by
 obtain⟨t,rfl⟩:=L;obtain⟨u,rfl⟩:=H;induction o with
 |add=>exact LS (ak e)<|wpAny_add_int<|cC S ⟨_,Y⟩
 |sub=>exact LS (ak e)<|PyProof.Rows.sub_int'<|cC S ⟨_,Y⟩
 |mul=>
  replace e:(if uZ i j=true then some (AV.int<|i*j,U)else none)=(r,M):=e;obtain⟨O,e⟩:=vn e;exact LS e<|PyProof.Rows.mul_int (hm:=by delta uZ at O;simp only [cF,cy] at O;exact IntMulOk.of_le (nj O.1) (nj O.2)<|bC Y)<|cC S ⟨_,Y⟩
 |fdiv=>obtain⟨O,e⟩:=vn e;refine LS e ?_;simp only [cF,cy,fG] at O;refine PyProof.Rows.floordiv_int (Int.ne_of_gt O.1) ?_<|.inl<|PyProof.noPylong_small<|Int.ofNat_lt.mp<|ey (kl<|Int.natAbs_of_nonneg O.2.1)<|ey O.2.2 (by decide);exact J (Int.fdiv_eq_ediv_of_nonneg _<|iF O.1)<|cC S ⟨_,Y⟩
 |mod=>obtain⟨O,e⟩:=vn e;refine LS e ?_;rw [cy] at O;refine PyProof.Rows.mod_int' (Int.ne_of_gt O) ?_;exact J (Int.fmod_eq_emod_of_nonneg _<|iF O)<|cC S ⟨_,Y⟩
 |pow=>replace e:(if uM i j=true then some (AV.int<|i^j.toNat,U)else none)=some (r,M):=e;obtain⟨O,e⟩:=vn e;refine LS e ?_;exact PyProof.Rows.pow_int (zv O).1 (zv O).2<|cC S ⟨_,Y⟩
def NC(S:cH C g U s.heap)(y:VR C.w g s.heap a l)(v:VR C.w g s.heap b t)(e:addQ U a b=(r,H)):wpAny C.m A (binaryOp SM.add.op l t) (b7 C g s r H) eV s:=by
 refine cps λh c=>?_;delta addQ at e;induction e1:vw U a with
 |L X=>
  replace e:=e1▸e;induction e2:vw U b with
  |L Q=>replace e:=e2▸e;obtain⟨i,j,f,rfl,D,M⟩:=K4 S y e1;obtain⟨p,B,o,rfl,N,O⟩:=K4 S v e2;obtain⟨P,e⟩:=vn e;exact c<|LS e<|NB D N (iN<|jn M.length<|jn O.length P)<|tX S<|M.append O
  |_=>exact eg<|e2▸e
 |T X=>
  replace e:=e1▸e;induction e2:vw U b with
  |T Q=>
   replace e:=e2▸e;obtain⟨i,j,f,rfl,x,D,M⟩:=Pa S y e1;obtain⟨p,B,o,rfl,n,N,O⟩:=Pa S v e2;obtain⟨P,e⟩:=vn e
   .refine c (LS e<|NA D N (iN<|jn M.length<|jn O.length P) (λq=>?_) (λq=>?_)<|tW S<|M.append O)
    .have:X=[]:=eM<|J M.length<|J q Y;exact J this<|cC S ⟨p,B,o,Y,n,N,O⟩
    .have:Q=[]:=eM<|J O.length<|J q Y;exact J this<|J (aC _)<|cC S ⟨i,j,f,Y,x,D,M⟩
  |_=>exact eg<|e2▸e
 |_=>exact eg<|e1▸e
def Mb(S:cH C g U s.heap)(ra:VR C.w g s.heap a va){n}(rb:VR C.w g s.heap (.int n) vb)(e:mulQ U a n=(r,N)):wpAny C.m A (binaryOp SM.mul.op va vb) (b7 C g s r N) eV s:=by
 refine cps λPz kz=>?_;delta mulQ at e;induction e1:vw U a with
 |L B=>
  replace e:=e1▸e;obtain⟨X,vs,Q,rfl,O,r1⟩:=K4 S ra e1;obtain⟨u,rfl⟩:=rb;cases B with
  |nil=>exact eg e
  |cons x l=>
   induction l with
   |cons _ _=>exact eg e
   |nil=>
    obtain⟨v,_,e9,rx,rfl⟩:=r1;subst e9;obtain⟨M,e⟩:=vn e;exact kz (LS e (by
      have hm:¬Builtin.List.listTooLong ([v].toArray.size*n.toNat)=true:=by have H:[v].toArray.size=1:=rfl;refine jn H ?_;dsimp [Builtin.List.listTooLong,sizeLine];exact λP=>tH [_] [aH ax (.c 1000000),aH (.s<|.c 16777216) (.m 1 ax)] Y (Int.toNat_le.mpr<|(fG.mp M).2) (aB P)
      have D:¬[v].toArray.size*n.toNat>(2^63-1)/8:=by have H:[v].toArray.size=1:=rfl;exact J H (λP=>tH [_] [aH ax (.c 1000000),aH (.s<|.c 1152921504606846975) (.m 1 ax)] Y (Int.toNat_le.mpr<|(fG.mp M).2) P)
      have e:(List.foldl (λq j=>q++j) #[] (List.replicate (if [v].toArray.isEmpty=true then 0 else n.toNat) [v].toArray))=(List.replicate n.toNat v).toArray:=by refine(FI ..).trans ?_;simp
      refine wpAny_binaryOp_repeat_ref Y ⟨_,O,Y⟩ (λs'=>typeIs_int s' n u) noFill_list_mul PySem.F.fills_int_mul PySem.F.slot_int_rmul repeat_list PySem.F.slot_int_index.lookup
       (jI PySem.F.slot_int_rmul (typeIs_int s n u) PySem.F.entry_int_rmul (PySem.F.args_int_rmul_2 ..) (int___rmul___int_list n u X [v].toArray Q)
        ⟨O,Y,⟨_,O,Y⟩,jI PySem.F.slot_list_mul ⟨_,O,Y⟩ PySem.F.entry_list_mul (PySem.F.args_list_mul_2 ..)
         (AutoListH.list___mul___list_int_3 X [v].toArray Q n u (by simp [Builtin.List.listFitsIndex];exact⟨ef (by decide)<|(fG.mp M).1,ey ((fG.mp M).2)<|by decide⟩) D hm)
         ⟨O,?_⟩⟩)
      exact J e<|tX S<|eT.replicate rx _))
 |_=>exact eg<|e1▸e
def Sg(S:cH C g U s.heap)(N:VR C.w g s.heap a H)(M:VR C.w g s.heap b D)(e:mT U o a b=(r,O)):
  wpAny C.m A (binaryOp o.op H D) (b7 C g s r O) eV s:=by
 delta mT at e;induction h1:j6 a with
 |some i=>
  simp only [h1] at e;induction h2:j6 b with
  |some j=>replace e:=h2▸e;cases jQ h1;cases jQ h2;exact Wl S N M e
  |none=>exact eg<|h2▸e
 |none=>
  rw [h1] at e;induction o with
  |add=>exact NC S N M e
  |mul=>
   induction h2:j6 b with
   |some j=>dsimp only at e;replace e:=h2▸e;cases jQ h2;exact Mb S N M e
   |none=>dsimp only at e;exact eg<|h2▸e
  |_=>exact eg e
end
def KA.is:KA->Value->Bool
 | .int i,v=>Value.isInt i v
 | .str l,v=>Value.isStrOf (wF l) v
def lJ:GP k v↔k.is v=true:=k.rec (λi=>by
  constructor
  .rintro⟨t,rfl⟩;simp [KA.is,Value.isInt]
  .intro h;exact Value.isInt_shape h) λl=>by
  constructor
  .rintro⟨t,rfl⟩;simp [KA.is,Value.isStrOf]
  .intro h;exact Value.isStrOf_shape h
def KA.QT v(a b:KA)(O:a.is v=true)(U:b.is v=true):a=b:=by induction a<;>induction b<;>obtain⟨t,e⟩:=(lJ.mpr O)<;>obtain⟨u,f⟩:=(lJ.mpr U)<;>replace f:=e▸f<;>first|(injection f with f1;first|rw [f1]|(exact congrArg _<|yp f1))|cases f
set_option tactic.hygienic true in
def yA(prog:Program)(w:World):KeyKind prog w KA where
 is:=KA.is
 hash:=I7 w
 inj:=KA.QT
 byValue:=λk v h=>by have h:=lJ.mpr h;cases k<;>obtain⟨t,rfl⟩:=h<;>rfl
 pyHash:=λ{A E s k v Q} h q=>by
  have h:=lJ.mpr h;cases k<;>obtain⟨t,rfl⟩:=h
  .exact wpAny_pyHash_int q
  .exact wpAny_pyHash_str q
 eqBool:=λ{A E s a b u v Q} O U q=>by
  have O:=lJ.mpr O;have U:=lJ.mpr U;cases a<;>cases b<;>obtain⟨t,rfl⟩:=O<;>obtain⟨M,rfl⟩:=U
  .refine wpAny_eqBool_int ?_;rename_i i j;by_cases e:i=j
   .subst e;simpa using q
   .have:(i==j)=false:=by simpa using e
    rw [this];simpa [e] using q
  .exact EqAt.int_str _ _ _ _ prog w E Q (by simpa using q)
  .exact EqAt.str_int _ _ _ _ prog w E Q (by simpa using q)
  .refine wpAny_eqBool_str ?_;rename_i i j;by_cases e:i=j
   .subst e;simpa using q
   .have:¬wF i=wF j:=λx=>e<|yp x;simpa [e,this] using q
 «strs» :=λk x t v h=>by
  have h:=lJ.mpr h;cases k with
  |int i=>obtain⟨u,e⟩:=h;cases e
  |str l=>obtain⟨u,e⟩:=h;injection e with e1 e2;subst e1;cases v<;>simp [KA.is,Value.isStrOf,Value.isStr]
abbrev kX(prog:Program)(w:World):HeapKind prog w (List KA):=tupleKind<|yA prog w
def CO{ks}{U}(r:rT ks U):ItemsAre (yA prog w) ks U:=by
 induction ks generalizing U with
 |nil=>exact J r .nil
 |cons k ks O=>obtain⟨u,M,e,a,r⟩:=r;exact J e<|.cons (lJ.mp a)<|O r
def Q5 ks:(kX prog w).hash ks=yG w (.t ks):=rfl
def Yg n:(intKind prog w).hash n=yG w (.i n):=rfl
inductive TkI(prog:Program)(w:World)(g:Gh)(h:Heap)(ks:List KA)(v:Value):Prop
 |mk (a) (e:v=.ref a) (i:g.fA a) (p:(kX prog w).is h ks a)
def qD{prog}{w}{g}{h}{ks}{v}(r:xI g h (.t ks) v):TkI prog w g h ks v:=by refine cps λM U=>?_;obtain⟨a,O,n,e,i,o,r⟩:=r;exact U ⟨a,e,i,⟨_,_,_,o,Y,Y,CO r⟩⟩
def Lb{a}(e:qd a=some k)(r:VR w g h a v):GP k v:=by
 cases a with
 |int i=>exact jn (ak e) r
 |str i=>exact jn (ak e) r
 |_=>exact eg e
def y8{U}{ks}{O}(e:cY qd U=some ks)(r:eT w g h U O):rT ks O:=by
 induction U generalizing ks O with
 |nil=>exact jn (ak e) r
 |cons x U N=>obtain⟨u,M,P,a,b⟩:=r;obtain⟨y,Q,H,D,L⟩:=jO e;exact J L ⟨u,M,P,Lb H a,N D b⟩
def mW{a}{k}{v}(e:l9 a=some k)(r:VR w g h a v):xI g h k v:=by
 refine cps λH O=>?_;cases a<;>dsimp only [l9] at e<;>try cases e
 .exact O r
 .obtain⟨ks,N,U⟩:=qb e;injection U with U;subst U;obtain⟨a,M,n,D,i,o,r⟩:=r;exact O ⟨a,M,n,D,i,o,y8 N r⟩
inductive KiC(k:KV)(R:Value->Prop)(S:List (Int×Value)->Prop)(ks:List (Int×Value)):Prop
 |mk (n v r) (e:ks=(n,v)::r) (f:k=.i n) (a:R v) (b:S r)
inductive KtC(g:Gh)(h:Heap)(k:KV)(R:Value->Prop)(S:List (List KA×Addr×Value)->Prop)(ks:List (List KA×Addr×Value)):Prop
 |mk (n d v r) (e:ks=(n,d,v)::r) (f:k=.t n) (z:xI g h (.t n) (.ref d)) (a:R v) (b:S r)
inductive Y7(R:AV->Value->Prop)(x:Option AV)(y:Option Value):Prop
 |no (a:x=none) (b:y=none)
 |yes (a v) (p:x=some a) (q:y=some v) (r:R a v)
inductive Y6(R:AV->Value->Prop)(x:Option AV)(y:Option (Addr×Value)):Prop
 |no (a:x=none) (b:y=none)
 |yes (a d v) (p:x=some a) (q:y=some (d,v)) (r:R a v)
inductive ToI(prog:Program)(w:World)(g:Gh)(h:Heap)(es:List (KV×AV))(K:List (KV×AV)->List (Int×Value)->Prop)(ds:List DictEntry):Prop
 |mk (kvs) (a:K es kvs) (b:Pairs (intKind prog w) ds kvs) (c:∀e∈ds,∃k,(intKind prog w).is k e.key=true/\e.hash=(intKind prog w).hash k) (d:kvs.map (λx=>KV.i x.1)=es.map (·.1))
inductive ToT(prog:Program)(w:World)(g:Gh)(h:Heap)(es:List (KV×AV))(K:List (KV×AV)->List (List KA×Addr×Value)->Prop)(ds:List DictEntry):Prop
 |mk (xs) (a:K es xs) (b:ds=xs.map (entryOfKey<|kX prog w)) (c:∀x∈xs,(kX prog w).is h x.1 x.2.1)
noncomputable def wj(w:World)(g:Gh)(h:Heap):List (KV×AV)->List (Int×Value)->Prop
 |[],ks=>ks=[]
 |(k,a)::es,ks=>KiC k (VR w g h a) (wj w g h es) ks
noncomputable def qc(w:World)(g:Gh)(h:Heap):List (KV×AV)->List (List KA×Addr×Value)->Prop
 |[],ks=>ks=[]
 |(k,a)::es,ks=>KtC g h k (VR w g h a) (qc w g h es) ks
set_option tactic.hygienic true in
@[elab_as_elim] def wj.ind{P:List (KV×AV)->List (Int×Value)->Prop}{es U}(H:wj w g h es U)(n:P [] [])(c:∀{m a v es r},VR w g h a v->wj w g h es r->P es r->P ((.i m,a)::es) ((m,v)::r)):P es U:=by
 induction es generalizing U with
 |nil=>exact J H n
 |cons q es O=>obtain⟨D,N⟩:=q;induction H;rename_i m v r e M b k;exact bV e M<|c b k<|O k
set_option tactic.hygienic true in
@[elab_as_elim] def qc.ind{P:List (KV×AV)->List (List KA×Addr×Value)->Prop}{es U}(H:qc w g h es U)(n:P [] [])(c:∀{m a d v es r},xI g h (.t m) (.ref d)->VR w g h a v->qc w g h es r->P es r->P ((.t m,a)::es) ((m,d,v)::r)):P es U:=by
 induction es generalizing U with
 |nil=>exact J H n
 |cons q es O=>obtain⟨D,N⟩:=q;induction H;rename_i m d v r e M y b k;exact bV e M<|c y b k<|O k
set_option tactic.hygienic true in
@[elab_as_elim] def lh.ind{P:List (KV×AV)->List DictEntry->Prop}{es O}(H:lh w g h es O)(n:P [] [])(c:∀{k x es} {e} {U},e.hash=yG w k->xI g h k e.key->VR w g h x e.val->lh w g h es U->P es U->P ((k,x)::es) (e::U)):P es O:=by
 induction es generalizing O with
 |nil=>exact J H n
 |cons q es M=>induction H;rename_i e U N q r b k;exact J N<|c q r b k<|M k
def VF{prog}{M}{N}(O:M.all (λe=>j5 e.1==false)=true)(H:lh w g h M N):
  ToI prog w g h M (wj w g h) N:=by
 revert O
 refine lh.ind H (λD=>⟨[],Y,.nil,λD m=>(iZ m),Y⟩) λ{k _ _ e _} q r b _ L O=>?_;obtain⟨U,A,B,X,Q⟩:=L (a8 O).2;induction k with
 |t ks=>exact nb (a8 O).1
 |i n=>
  refine r.elim λt r=>?_;have z:(intKind prog w).is n e.key=true:=by refine J r ?_;simp [intKind,Value.isInt]
  exact⟨(n,e.val)::U,⟨n,e.val,U,Y,Y,b,A⟩,.cons z Y B,λx P=>(mO P).elim (λe=>J e ⟨n,z,q⟩)<|X x,congrArg _ Q⟩
set_option tactic.hygienic true in
def Vm{O}{M}{U}(H:wj w g h O U)(p:Pairs (intKind prog w) M U)
  (L:∀e∈M,∃k,(intKind prog w).is k e.key=true/\e.hash=(intKind prog w).hash k):lh w g h O M:=by
 induction O generalizing M U with
 |nil=>replace p:=H▸p;cases p;rfl
 |cons q O B=>
  induction H;rename_i n v r e Q b c;replace p:=e▸p;cases p with
  | @cons d _ er _ P h2 j=>obtain⟨X,D,N⟩:=L d<|.head _;have:X=n:=(intKind prog w).inj _ _ _ D P;subst this;exact⟨d,er,Y,J Q N,J Q<|Value.isInt_shape P,J h2 b,B c j λx A=>L x<|.tail _ A⟩
def Aa{O}{U} n(H:wj w g h O U):Y7 (VR w g h) (fP O<|.i n) (valueAt U n):=
 wj.ind H (.no Y Y) λ{m a v _ _} b _ M=>if q:m=n then J q (.yes a v (by simp [fP]) (by simp [valueAt]) b)else by simpa [fP,valueAt,List.find?_cons,q] using M
def Vn{O}{U} n(H:wj w g h O U):O.any (λe=>decide<|e.1=.i n)=U.any (λN=>decide<|N.1=n):=
 wj.ind H Y λM M D=>by simp [D]
def Of{n}{a}{v}(x:VR w g h a v){M}{U}(r:wj w g h M U):wj w g h (dput M (.i n) a) (stored U n v):=by
 delta dput stored;refine J (Vn n r) ?_;split
 .exact(wj.ind r Y λ{m _ _ _ _} y _ O=>by exact bV aZ aZ (if q:m=n then bV (au<|congrArg KV.i q) (au q) ⟨_,_,_,Y,Y,x,O⟩else bV (az λz=>q<|KV.i.inj z) (az q) ⟨_,_,_,Y,Y,y,O⟩))
 .exact(wj.ind r ⟨n,v,[],Y,Y,x,Y⟩ λy N O=>⟨_,_,_,Y,Y,y,O⟩)
def I5{O}{U}(H:wj w g h O U):O.map (·.1)=U.map (λx=>KV.i x.1):=wj.ind H Y λM M e=>congrArg (_:: ·) e
def Dx{U:List (Int×Value)}:(U.map λx=>KV.i x.1).Nodup↔(U.map (·.1)).Nodup:=by
 have:U.map (λx=>KV.i x.1)=(U.map (·.1)).map KV.i:=by simp
 refine J this ?_;rw [gK,List.pairwise_map];constructor
 .exact λp=>p.imp λq e=>q<|congrArg _ e
 .exact λp=>p.imp λq e=>q<|by injection e
theorem wj.mono{g':Gh}{O:Heap}(K:Keeps g h g' O):∀{es:List (KV×AV)} {U:List (Int×Value)},wj w g h es U->wj w g' O es U
 |[],U,e=>e
 |(k,a)::es,U,⟨m,v,r,e,e2,b,c⟩=>⟨m,v,r,e,e2,b.mono K,c.mono K⟩
def VE{prog}{N}{L}(U:N.all (λe=>j5 e.1==true)=true)(H:lh w g h N L):
  ToT prog w g h N (qc w g h) L:=by
 revert U
 refine lh.ind H (λP=>⟨[],Y,Y,λP m=>(iZ m)⟩) λ{k _ _ e _} q r b _ Q U=>?_;obtain⟨D,j,A,B⟩:=Q (a8 U).2;induction k with
 |i n=>exact nb (a8 U).1
 |t ks=>obtain⟨d,M,v,O⟩:=qD r;refine⟨(ks,d,e.val)::D,⟨ks,d,e.val,D,Y,Y,jn M r,b,j⟩,?_,λx X=>(mO X).elim (λe=>J e O)<|B x⟩;clear r;refine J A (congrArg (· ::_) ?_);obtain⟨o,y,ev⟩:=e;dsimp only at q M;refine J M ?_;simp [entryOfKey,q,Q5]
def Uh{O}{U}(H:qc w g h O U):lh w g h O (U.map<|entryOfKey<|kX prog w):=
 qc.ind H Y λy b N M=>⟨_,_,Y,Y,y,b,M⟩
def za{es}{U} n(H:qc w g h es U):Y6 (VR w g h) (fP es<|.t n) (atKey U n):=
 qc.ind H (.no Y Y) λ{m a d v _ _} _ b _ O=>if q:m=n then J q (.yes a d v (by simp [fP]) (by simp [atKey]) b)else by simpa [fP,atKey,List.find?_cons,q] using O
def Ui n{O}{U}(H:qc w g h O U):O.any (λe=>decide<|e.1=.t n)=(atKey U n).isSome:=
 qc.ind H Y λ{m _ _ _ _ _} _ _ _ M=>if q:m=n then(by refine J q ?_;simp [atKey])else by simp only [List.any_cons,M];simp [atKey,q]
def Ug{a}{v}(x:VR w g h a v){M}{U}(H:qc w g h M U):
  qc w g h (M.map λe=>if e.1=.t n then(e.1,a)else e) (U.map<|putAt n v):=
 qc.ind H Y λ{m _ _ _ _ _} z y _ O=>by
  by_cases q:m=n
  .subst q;simp only [aZ,putAt];exact⟨m,_,v,_,Y,Y,z,x,O⟩
  .refine bV aZ aZ (J (az λz=>q<|KV.t.inj z) ?_);rw [putAt];exact J (az q) ⟨m,_,_,_,Y,Y,z,y,O⟩
def Ue(z:xI g h (.t n) (.ref d))(x:VR w g h a v)(r:qc w g h M U):qc w g h (dput M (.t n) a) (storedH U n d v):=by
 delta dput storedH;refine J (Ui n r) ?_;split
 .exact Ug x r
 .exact(qc.ind r ⟨n,d,v,[],Y,Y,z,x,Y⟩ λz y N O=>⟨_,_,_,_,Y,Y,z,y,O⟩)
def Bg{M}{U}(H:qc w g h M U):M.map (·.1)=U.map (λx=>KV.t x.1):=qc.ind H Y λO O O e=>congrArg (_:: ·) e
def Dv{U:List (List KA×Addr×Value)}:(U.map λx=>KV.t x.1).Nodup↔(U.map (·.1)).Nodup:=by
 have:U.map (λx=>KV.t x.1)=(U.map (·.1)).map KV.t:=by simp
 refine J this ?_;rw [gK,List.pairwise_map];constructor
 .exact λp=>p.imp λq e=>q<|congrArg _ e
 .exact λp=>p.imp λq e=>q<|by injection e
theorem qc.mono{g':Gh}{O:Heap}(K:Keeps g h g' O):∀{es:List (KV×AV)} {U:List (List KA×Addr×Value)},qc w g h es U->qc w g' O es U
 |[],U,e=>e
 |(k,a)::es,U,⟨m,d,v,r,e,e2,z,b,c⟩=>⟨m,d,v,r,e,e2,z.mono K.ke,b.mono K,c.mono K⟩
section
variable{C:Cx}{h:Heap}
inductive DoI(C:Cx)(g:Gh)(h:Heap)(l:Addr)(es:List (KV×AV)):Prop
 |mk (kvs) (a:wj C.w g h es kvs) (b:h.DictOf (intKind C.prog C.w) l kvs)
inductive DoT(C:Cx)(g:Gh)(h:Heap)(l:Addr)(es:List (KV×AV)):Prop
 |mk (xs) (a:qc C.w g h es xs) (b:h.DictOfH (kX C.prog C.w) l xs)
inductive WD(w:World)(g:Gh)(h:Heap)(l:Addr)(es:List (KV×AV)):Prop
 |mk (us m) (a:h.get? l=some (d6 us m)) (b:lh w g h es us) (c:(es.map (·.1)).Nodup)
def oU(M:h.get? l=(d6 B n))(r:lh C.w g h O B)(N:(O.map (·.1)).Nodup)(D:O.all (λe=>j5 e.1==false)=true):
  DoI C g h l O:=by
 obtain⟨U,X,Q,P,L⟩:=VF D r;exact⟨U,X,⟨_,_,n,M,⟨Y,Y,Y⟩,Y,(by intro e H;exact P e<|by simpa using H),by simpa using Q,(Dx.mp<|J L N)⟩⟩
def nO(M:h.get? l=(d6 P n))(r:lh C.w g h es P)(N:(es.map (·.1)).Nodup)(D:es.all (λe=>j5 e.1==true)=true):
  DoT C g h l es:=by
 obtain⟨O,U,L,H⟩:=VE D r;refine⟨O,U,⟨_,_,n,M,⟨Y,Y,Y⟩,Y,by simpa using L,H,?_⟩⟩;exact Dv.mp<|jn (Bg U) N
def zA(d:h.DictOf (intKind C.prog C.w) l O)(r:wj C.w g h q O):WD C.w g h l q:=by refine cps λy U=>?_;obtain⟨o,M,v,X,⟨L,H,D⟩,N,A,Q,B⟩:=d;refine U ⟨M.toList,v,?_,Vm r Q λe j=>A e<|by simpa using j,J (I5 r)<|Dx.mpr B⟩;refine cps λy U=>?_;obtain⟨p,f,P,os⟩:=o;dsimp only at L H D N;subst L H D N;exact U X
def HW(d:h.DictOfH (kX C.prog C.w) l L)(r:qc C.w g h A L):WD C.w g h l A:=by refine cps λq U=>?_;obtain⟨o,O,j,Q,⟨H,D,N⟩,M,B,f,X⟩:=d;refine U ⟨O.toList,j,?_,by refine J B ?_;exact Uh r,J (Bg r)<|Dv.mpr X⟩;refine cps λq U=>?_;obtain⟨y,v,P,os⟩:=o;dsimp only at H D N M;subst H D N M;exact U Q
end
def rq{n}{U}(h:ed (.i n) U=true):U.all (λe=>j5 e.1==false)=true:=h
def ub{n}{es}(h:ed (.t n) es=true):es.all (λe=>j5 e.1==true)=true:=h
section
variable{C:Cx}{U:St}{s:Shared}
def nT(S:cH C g U s.heap)(M:VR C.w g s.heap a H){es}(e:vw U a=.D es):∀l,H=.ref l->(l==sysModules)=false:=by
 intro l N
 have:l≠1:=by
  intro P;subst P;cases a<;>dsimp only [vw] at e<;>try cases e
  .obtain⟨a,Q,n,O,i,o,r,d,_⟩:=M;rw [N] at O;injection O with O;exact S.one.1<|J O i
  .obtain⟨p,L,O⟩:=M;rw [N] at O;injection O with O;exact S.one.2 ⟨p,aN L,.inl O⟩
 simpa [sysModules] using this
def Dj(H:s.heap.get? l=(du N k))(D:eT C.w g s.heap O N)(p:eA d O=true):
  ∃M,Reads s.heap (.ref l) (.list<|jk O) M:=bQ (yi p D) λM q=>⟨_,.list H Y Y q⟩
def Ov(O:A.units+dp+10<cLine)(S:cH C g U s.heap)(D:VR C.w g s.heap a B)(N:VR C.w g s.heap b X)(e:eqQ U a b=some x):RcAt A s B X x/\RcNeAt A s B X (!x):=by
 refine jq e (λp e=>?_) λn e=>?_
 .have p:=Bool.and_eq_true_iff.mp p;exact jn (ak e) ⟨Bx (lq [_] [aH (.s<|.a (.a ax<|.c 300)<|.c 10) (.c 9900)] (.s<|.a ax<|.c 300) (.c 9900) Y O) p.1 p.2 D N,ye (lq [_] [aH (.s<|.a (.a ax<|.c 300)<|.c 10) (.c 9900)] (.s<|.a ax<|.c 300) (.c 9900) Y O) p.1 p.2 D N⟩
 .exact WA S D N e (P:=λv u=>RcAt A s v u x/\RcNeAt A s v u (!x)) λi r l1 l n1 l2 t h=>(λe Q q L j=>by
   refine jq e (λH e=>?_) λ_ e=>lT e λp e=>?_
   .have M:(l.toArray.size != t.toArray.size)=true:=by
     simp only [bF,<-q.length,<-j.length];exact bne_iff_ne.mpr H
    exact(ak e)▸⟨RcAt.lists_lengths (S9 Q) (S9 L) M<|lq [_] [aH (.s<|.a (.a ax<|.c 300)<|.c 10) (.c 9900)] (.s ax) (.c 9900) Y O,RcNeAt.lists_lengths (S9 Q) (S9 L) M<|lq [_] [aH (.s<|.a (.a ax<|.c 300)<|.c 10) (.c 9900)] (.s ax) (.c 9900) Y O⟩
   .have p:=Bool.and_eq_true_iff.mp p;refine bQ (Dj Q q p.1) λas o=>?_;obtain⟨bs,y⟩:=Dj L j p.2;have f:A.units+min (PyData.depth<|.list<|jk i) (PyData.depth<|.list<|jk r)<cLine:=lq [_,_,_] [aH (.s<|.a (.a ax<|.c 300)<|.c 10) (.c 9900),aH a7<|.c 300,aH aE (.s a7)] (.s<|.a ax aE) (.c 9900) Y O (ju p.1).2 (fY ..);exact e▸(BD p.1 p.2)▸⟨rcAt_reads o y (ju p.1).1 (ju p.2).1 f,rcNeAt_reads o y (ju p.1).1 (ju p.2).1 f⟩)
def JM(e:GN U a=some O):vw U a=.D O/\nh dp O=true/\O.all (λe=>j5 e.1==true)=true:=by
 delta GN at e
 revert e
 induction vw U a with
 |D M=>exact λe=>lT e λp e=>e▸⟨Y,Bool.and_eq_true_iff.mp p⟩
 |_=>exact eg
def Xl(C:Cx)(A:Around)(s:Shared)(v u:Value)(x:Bool):Prop:=∀(E:Value->Shared->Prop) (Q:Bool->Shared->Prop),Q x s->wpAny C.m A (eqBool v u) Q E s
def BC{O:List (KV×AV)}{k:KV}{x:AV}(p:nh d O=true)(e:fP O k=some x):plain d x=true:=by
 induction O with
 |nil=>exact eg e
 |cons q O M=>
  dsimp only [fP,List.find?_cons] at e;split at e
  .exact jn (ak e) (a8 p).1
  .exact M (a8 p).2 e
def BB{O:List (KV×AV)}{k:KV}{x:AV}(p:nh d O=true)(m:(k,x)∈O):plain d x=true:=by
 induction O with
 |nil=>exact iZ m
 |cons q O M=>exact(mO m).elim (λe=>J (show x=q.2 from congrArg Prod.snd e) (a8 p).1) (M (a8 p).2)
inductive Z4(C:Cx)(g:Gh)(s:Shared)(xs:List (List KA×Addr×Value))(x:Nat)(k:KV)(v:AV):Prop
 |mk (ks d u) (e:k=.t ks) (h:xs[x]? =some (ks,d,u)) (r:VR C.w g s.heap v u)
def yy(r:qc C.w g s.heap M O):O.length=M.length:=by have:=congrArg List.length<|Bg r;rwa [ag,ag,eq_comm] at this
set_option tactic.hygienic true in
def QL:∀{es} {xs} {x} {k} {v},qc C.w g s.heap es xs->es[x]? =(k,v)->Z4 C g s xs x k v:=by
 intro es;induction es with
 |nil=>exact λj=>eg
 |cons e es H=>
  intro xs x k v r M;induction r;rename_i ks d u q N L z y c;induction x with
  |zero=>exact sm (P:=λp=>Z4 C g s xs 0 p.1 p.2) M ⟨ks,d,u,L,J N Y,y⟩
  |succ x=>obtain⟨O,Q,D,A,B,X⟩:=H c M;exact⟨O,Q,D,A,J N B,X⟩
inductive ZQ(es fs:List (KV×AV))(Q:Bool->Shared->Prop)(s:Shared)(rest:List Nat):Option Bool×PUnit->Shared->Prop
 |mk (es' i) (hr:rest=List.range' i es'.length) (hd:es.drop i=es') (h:Q (es'.all λe=>decide<|fP fs e.1=some e.2) s):ZQ es fs Q s rest (none,()) s
def E5{O:List (KV×AV)}(h:[]=List.range' i O.length):O=[]:=by
 induction O with
 |nil=>rfl
 |cons _ _=>exact nl h
inductive RnC(x:Nat)(rest:List Nat)(i:Nat)(es:List (KV×AV)):Prop
 |mk (k v t) (e:es=(k,v)::t) (a:i=x) (b:rest=List.range' (x+1) t.length)
def By(h:x::rest=List.range' i O.length):RnC x rest i O:=by
 induction O with
 |nil=>exact ln h
 |cons e t=>exact⟨e.1,e.2,t,Y,(cw h).1.symm,J ((cw h).1)<|(cw h).2⟩
def RU{w:AV}(h:x=some w):decide (x=some v)=decide (v=w):=by rw [h,decide_eq_decide];exact⟨λe=>(ak e).symm,λe=>jn e Y⟩
def zm{E}(U:A.units+dp+10<cLine)
  (h1:(d1==sysModules)=false) (h2:(d2==sysModules)=false)
  (D1:s.heap.DictOfH (kX C.prog C.w) d1 xs) (D2:s.heap.DictOfH (kX C.prog C.w) d2 ys) (n:qc C.w g s.heap D xs) (o:qc C.w g s.heap X ys) (p1:nh dp D=true) (p2:nh dp X=true)
  (h:Q (KQ D X) s):wpAny C.m A (Builtin.Dict.samePairs nm d1 d2) Q E s:=
 let⟨_,_,_,hoa,_,hda,hea,hisa,_⟩:=D1;let⟨_,_,_,hob,_,hdb,heb,hisb,hnb⟩:=D2
 by
   have N:=((size_of_entries hea).trans<|yy n);have L:=((size_of_entries heb).trans<|yy o);delta Builtin.Dict.samePairs Builtin.Dict.showsAll;refine J (az<|ne_true_of_eq_false h1)<|J (az<|ne_true_of_eq_false h2)<|ao<|ay<|ao<|ay<|ao<|fo hoa hda<|ao<|fo hob hdb ?_;delta KQ at h;induction hsz:D.length==X.length with
   |false=>rw [hsz] at h;exact J (au<|bV N L<|congrArg not hsz)<|ao<|jH<|ay h
   |true=>
    rw [hsz] at h;refine J (az<|by exact bV N L<|ne_true_of_eq_false<|congrArg not hsz)<|ao<|jA hoa hda<|ao<|J (Std.Legacy.Range.forIn_eq_forIn_range' ..)<|wpAny_forIn_list _ (ZQ D X Q s) _ ?_ ?_ _ _ ⟨D,0,jn N<|congrArg (List.range' 0)<|Nat.div_one _,Y,h⟩
    .intro x rest q s' I;induction I with|mk es' i hr P h=>?_
     obtain⟨k,v,t,he,hi,M⟩:=By hr;replace P:=hi▸he▸P;replace h:=he▸h;have e:D[x]? =(k,v):=jn (eR x)<|jn jM<|J P Y;obtain⟨ks,d,u,hk,H,f⟩:=QL n e;refine ao<|fo hoa hda<|J (entry_at hea _)<|J H<|ao<|bD<|ao<|wpAny_dictFind_heap (knd:=kX C.prog C.w) (k:=ks) (aQ (aa (aw ..)<|aw ..) U) (hisa _<|aN H) hob hdb heb hisb hnb (λb=>?_) λj p B=>?_
     .have l:decide (fP X k=v)=false:=by
       refine J hk ?_;rcases za ks o with ⟨y,_⟩|⟨_,_,_,_,O,_⟩
       .exact(J y Y)
       .rw [atKey_none_of_get b] at O;exact eg O
      simp only [List.all_cons,l] at h;exact ay<|ay<|ay h
     .rcases za ks o with ⟨_,O⟩|⟨v2,d',u2,y,O,r⟩
      .replace O:=(atKey_of_get hnb B)▸O;exact eg O.symm
      .rw [atKey_of_get hnb B] at O;rw [ak O] at B;refine ao<|fo hob hdb<|J (entry_at heb _)<|J B<|bD<|vG (lq [_] [aH (.s<|.a (.a ax<|.c 300)<|.c 10) (.c 9900)] (.s<|.a ax<|.c 300) (.c 9900) Y U) (BB p1<|aN e) (BC p2 y) f r _ _ _ _ ?_;simp only [List.all_cons,hk,RU y] at h;induction hb:decide (v=v2)with
       |false=>rw [hb] at h;exact ay<|ay h
       |true=>rw [hb] at h;exact ao<|jA hoa hda<|J (az<|by exact J (iT _) Bool.false_ne_true)<|ay ⟨t,x+1,M,jn iu<|J P Y,h⟩
    .intro q s' I;induction I with|mk es' i hr P h=>?_
     replace h:=(E5 hr)▸h;exact ay h
def qT(O:plain d a=true)(M:plain d b=true)(D:VR w g h a v)(N:VR w g h b v):a=b:=by obtain⟨Q,L⟩:=iz O D;obtain⟨P,H⟩:=iz M N;have:=pz O M;simp only [<-(Reads.unique _ _ _ _ _ (eP O).1 L H),eqv_refl _ (eP O).1] at this;simpa using this.symm
set_option tactic.hygienic true in
def FP:∀{es fs} {xs ys},nh dp es=true->nh dp fs=true->qc C.w g s.heap es xs->qc C.w g s.heap fs ys->
  xs.map (entryOfKey<|kX C.prog C.w)=ys.map (entryOfKey<|kX C.prog C.w)->es=fs:=by
 intro es;induction es with
 |nil=>
  intro fs xs ys _ _ e r q;induction fs with
  |nil=>rfl
  |cons f fs=>obtain⟨n,d,v,r',O⟩:=r;replace q:=e▸O▸q;exact nl q
 |cons e es ih=>
  intro fs xs ys L H r1 D q;induction r1;rename_i n1 d1 U t1 X f1 M N c1;induction fs with
  |nil=>replace q:=D▸X▸q;exact ln q
  |cons f fs=>induction D;rename_i n2 d2 j t2 O f2 B A c2;replace q:=X▸O▸q;have hd:d1=d2:=gw<|congrArg DictEntry.key<|(cw q).1;rw [show U=j from congrArg DictEntry.val ((cw q).1)] at N;rw [hd] at M;obtain⟨a1,i1,_,Q⟩:=qD M;obtain⟨a2,i2,_,P⟩:=qD B;simp only [<-gw i1] at Q;simp only [<-gw i2] at P;exact bV (ih (Bool.and_eq_true_iff.mp L).2 (Bool.and_eq_true_iff.mp H).2 c1 c2 (cw q).2) (Prod.ext (f1.trans<|bV f2 ((kX C.prog C.w).inj Q P) Y)<|qT (Bool.and_eq_true_iff.mp L).1 (Bool.and_eq_true_iff.mp H).1 N A) Y
def JG(M:(O.map (·.1)).Nodup){k}{x}(m:(k,x)∈O):fP O k=some x:=by
 induction O with
 |nil=>exact iZ m
 |cons e O N=>
  rw [aZ,dZ] at M;dsimp only [fP,List.find?_cons] at N⊢;exact(mO m).elim (λq=>by subst q;simp) λm=>by have:¬e.1=k:=λq=>M.1<|J q<|GL ⟨_,m,Y⟩;simp only [this];exact N M.2 m
def JN(M:(O.map (·.1)).Nodup):KQ O O=true:=by delta KQ;simp only [je,Bool.true_and,List.all_eq_true,cy];exact λe=>JG M
def RZ(hu:A.units+dp+20<cLine)(S:cH C g U s.heap)(ra:VR C.w g s.heap a va)(v:VR C.w g s.heap b vb)(e1:GN U a=some es)(e2:GN U b=some fs):
  Xl C A s va vb (KQ es fs):=by
 refine λE Q h=>cps λPz P=>?_;obtain⟨q,p1,k1⟩:=JM e1;obtain⟨j,p2,k2⟩:=JM e2;clear e1 e2;obtain⟨l1,ds1,n1,rfl,h1,r1,M⟩:=TU S ra q;obtain⟨l2,ds2,n2,rfl,h2,r2,L⟩:=TU S v j;obtain⟨xs,B,D⟩:=nO h1 r1 M k1;obtain⟨ys,X,H⟩:=nO h2 r2 L k2;clear k2;refine P ?_;dsimp only [eqBool];refine bD<|wpAny_ite_split (λN=>?_) λN=>?_
 .have:l1=l2:=by have:=eq_of_beq N;injection this
  subst this;refine cps λPz P=>?_;have⟨o,ep,e,ho,_,hd,he,_⟩:=id D
  have⟨o',ep',e',ho',_,O,he',_⟩:=id H;cases ho.symm.trans ho';replace O:=hd.symm.trans O;refine P ?_;injection O with O _;subst O;have:=FP p1 p2 B X<|he.symm.trans he';subst this;exact ao<|jH<|ay<|jn (JN M) h
 .refine ao (iS D.typeIs H.typeIs PySem.F.slot_dict_eq (eX PySem.F.slot_dict_eq D.typeIs PySem.F.entry_dict_eq ?_<|PySem.F.args_dict_eq_2 ..)<|lq [_] [aH (.s<|.a (.a ax<|.c 300)<|.c 20) (.c 9900)] (.s ax) (.c 9900) Y hu);refine ao<|ao<|wpAny_notOrdered_dict D.typeIs<|ay<|ao<|wpAny_isInstance H.typeIs PySem.F.sub_dict_dict<|ao<|ay<|ao<|ay<|ao<|zm (by show A.units+1+dp+10<_;exact lq [_] [aH (.s<|.a (.a ax<|.c 300)<|.c 20) (.c 9900)] (.s<|.a (.a (.s ax)<|.c 300)<|.c 10) (.c 9900) Y hu) (nT S ra q _ Y) (nT S v j _ Y) D H B X p1 p2 ?_;refine ay ⟨_,Y,(λx=>nomatch x),fS ?_⟩;simpa using h
end
section
open AutoSeq1 (wpAny_loadPart')
open MeetsSeq MeetsSeq2 MeetsSeq3 SeqRoads2
section
def H6(l b:Addr)(items U:Array Value)(n v:Nat)(H:items.size=U.size)(e:Nat->Bool)(k:Nat):
  ∀i:Nat,items.size-i=k->MeetsIn C.prog C.w (Builtin.«list.__eq__.loop» ⟨[.ref l,.ref b,rawInt i,rawInt 3],[]⟩)
   (fun A R s=>s.heap.get? l=some {cls:=.type "list",dict:=none,data:=.seq items n,slots:= #[]}/\s.heap.get? b=some {cls:=.type "list",dict:=none,data:=.seq U v,slots:= #[]}/\
    (∀j (t:j<items.size) (r:j<U.size),Xl C A.in1 s items[j] U[j] (e j))/\
    R (.ok<|.ret<|.bool<|!((List.range items.size).drop i).all e) s):=k.rec (by
  intro i L A R s h;obtain⟨o,g,d,tk,os⟩:=s;obtain⟨P,Q,X,h⟩:=h
  wp_walk using wpAny_loadPart' P,wpAny_loadPart' Q
  have N:items[((i:Nat):Int).toNat]? =none:=by simp;exact lq [_,_,_] [.q 1 a7 (.c 0),aH ax (.a a7 aE)] ax aE Y L (wB ..)
  have M:U[((i:Nat):Int).toNat]? =none:=by simp;exact lq [_,_,_,_] [.p 1 a7 ax,.q 1 cz<|.c 0,aH a7 (.a cz aE)] ax aE Y H L (wB ..)
  have B:(List.range items.size).drop i=[]:=by simp;exact lq [_,_,_] [.q 1 a7 (.c 0),aH ax (.a a7 aE)] ax aE Y L (wB ..)
  rw [B] at h;refine bV N M ?_
  wp_walk using wpAny_loadPart' P,wpAny_loadPart' Q
  show R (.ok<|.ret<|.bool<|items.size != U.size) _;refine J H ?_;simpa using h) λk y=>by
  intro i L A R s h;obtain⟨o,g,d,tk,os⟩:=s;obtain⟨P,Q,X,h⟩:=h
  wp_walk using wpAny_loadPart' P,wpAny_loadPart' Q
  have O:=(Nat.lt_of_sub_eq_succ L);have D:i<U.size:=(dU O H);have N:items[((i:Nat):Int).toNat]? =some items[i]:=by simp [O]
  have M:U[((i:Nat):Int).toNat]? =some U[i]:=by simp [D]
  have B:(List.range items.size).drop i=i::(List.range items.size).drop (i+1):=by simp [eE,O]
  have f:((i:Int)+1)=((i+1:Nat):Int):=by push_cast;rfl
  rw [B,List.all_cons] at h;refine bV N M ?_;refine ao<|X i O D _ _ ?_;induction hb':e i with
  |true=>
   rw [hb'] at h
   wp_walk
   exact J f ⟨plainId_quiet plain_eq_loop _,codeAny_builtin entry_eq_loop<|by exact J (Around.under_plainId plain_eq_loop _)<|y (i+1) (bH (lq [_,_,_,_,_] [.q 1 a7 (.s aE),aH cz<|.a a7 g7,aH (.a ax<|.s g7) cz] ax aE Y L (wB _ _) (aG<|a9<|lq [_,_] [aH (.s ax) aE] (.s ax) aE Y O))<|lq [_,_,_,_,_] [.p 1 a7 (.s ax),aH cz<|.a aE<|.s g7,aH (.a a7 g7) cz] ax aE Y L (wB _ _) (aG<|a9<|lq [_,_] [aH (.s ax) aE] ax aE Y O)) A R _ ⟨P,Q,X,by simpa using h⟩⟩
  |false=>
   rw [hb'] at h
   wp_walk using wpAny_loadPart' P,wpAny_loadPart' Q
   refine bV N M ?_
   wp_walk
   simpa using h
def Ip(l b)(items U)(n N)(M:items.size=U.size) e:
  MeetsIn C.prog C.w (Builtin.«list.__ne__» ⟨[.ref l,.ref b],[]⟩)
   (fun A R s=>s.heap.get? l=some {cls:=.type "list",dict:=none,data:=.seq items n,slots:= #[]}/\s.heap.get? b=some {cls:=.type "list",dict:=none,data:=.seq U N,slots:= #[]}/\
    (∀j (Q:j<items.size) (P:j<U.size),Xl C A.in1 s items[j] U[j] (e j))/\
    R (.ok<|.ret<|.bool<|!(List.range items.size).all e) s):=by
 intro A R s h;refine h.elim λD O=>O.elim λH O=>O.elim λL h=>?_;have X:=AutoSeq1.sub_list_list
 wp_walk using wpAny_loadPart' D,wpAny_loadPart' H
 exact⟨plainId_quiet plain_eq_loop _,codeAny_builtin entry_eq_loop<|H6 l b items U n N M e _ 0 Y A R _ ⟨D,H,L,by simpa using h⟩⟩
variable{st:St}
inductive DsR(C:Cx)(s:Shared)(vs ws:List Value)(x:Bool):Prop
 |mk (hl:vs.length=ws.length) (e:Nat->Bool) (h:(List.range vs.length).all e=x) (q:∀j (h1:j<vs.length) (h2:j<ws.length),∀A:Around,A.units+dp+20<cLine->Xl C A s vs[j] ws[j] (e j))
noncomputable def VW(b:Bool)(f:Nat->Bool):Nat->Bool
 |0=>b
 |i+1=>f i
def M0(S:cH C g st s.heap):∀{ys} {vs ws} {x},FV st M ys=some x->eT C.w g s.heap M vs->eT C.w g s.heap ys ws->DsR C s vs ws x:=by
 induction M with
 |nil=>
  intro ys vs ws x e H U;induction ys with
  |nil=>exact bV H U<|jn (ak e) ⟨Y,λN=>true,Y,λj O=>absurd O<|dY _⟩
  |cons _ _=>exact eg e
 |cons a as Q=>
  intro ys vs ws x e ⟨u,us,t,a1,n⟩ U;induction ys with
  |nil=>exact eg e
  |cons b bs=>
   obtain⟨u2,D,c,h,l⟩:=U;exact dj e λi O e=>dj e λp r e=>dj e λy o e=>bV t c (jn (ak e) (by
     obtain⟨q,f,v,B⟩:=(Q o n l);refine⟨congrArg Nat.succ q,VW (KQ i p) f,?_,λj=>?_⟩
     .simp only [bj,List.range_succ_eq_map,List.all_cons,List.all_map,<-v];rfl
     .exact j.casesOn (λN N=>(λA X=>RZ X S a1 h O r)) λj P L=>B j (gq P)<|gq L))
def UZ(U:A.units+dp+30<cLine)(S:cH C g st s.heap)(N:VR C.w g s.heap a B)(M:VR C.w g s.heap b X)(e:BM st a b=some x){E}(h:Q (.bool x) s):
  wpAny C.m A (compareOp .NotEq B X) Q E s:=by
 delta BM at e;induction e1:eqQ st a b with
 |some r=>exact(Ov (lq [_] [aH (.s<|.a (.a ax<|.c 300)<|.c 30) (.c 9900)] (.s<|.a (.a ax<|.c 300)<|.c 10) (.c 9900) Y U) S N M e1).2 _ _ _ _ ((ak<|e1▸e)▸h)
 |none=>
  replace e:=e1▸e;exact(Option.map_eq_some_iff.mp e).elim λy p=>p.elim λe3 e4=>WA S N M e3 (P:=λv u=>wpAny C.m A (compareOp .NotEq v u) Q E s) λxs ys n L t l H i e O o D q=>by
    obtain⟨hl,f,hf,hq⟩:=(M0 S e o q);refine iS (op:=.NotEq) ⟨_,O,Y⟩ ⟨_,D,Y⟩ PySem.F.slot_list_ne ?_<|lq [_] [aH (.s<|.a (.a ax<|.c 300)<|.c 30) (.c 9900)] (.s ax) (.c 9900) Y U;exact call_meetsIn PySem.F.slot_list_ne ⟨_,O,Y⟩ PySem.F.entry_list_ne (PySem.F.args_list_ne_2 ..) (Ip n l L.toArray H.toArray t i hl f)
     ⟨O,D,λj j1 j2=>hq j j1 j2 _ (by show A.units+1+dp+20<_;exact lq [_] [aH (.s<|.a (.a ax<|.c 300)<|.c 30) (.c 9900)] (.s<|.a (.a (.s ax)<|.c 300)<|.c 20) (.c 9900) Y U),(λy=>nomatch y),J bF<|J hf<|J e4 h⟩
end
end
noncomputable def TP.op:TP->CmpOp
 | .eq=>.Eq| .ne=>.NotEq| .lt=>.Lt| .le=>.LtE| .gt=>.Gt| .ge=>.GtE| .S8=>.Is| .DW=>.IsNot| .z8=>.In| .hV=>.NotIn
def zC{E}
  (h:wpAny M A (compareOp .In a b) (λv U=>∃x,v=.bool x/\Q (.bool<|!x) U) E s):wpAny M A (compareOp .NotIn a b) Q E s:=λΓ p O=>by
 have h:=h Γ p O;have B:compareOp .In a b=(contains b a>>=λx=>pure<|Value.bool x):=rfl;have X:compareOp .NotIn a b=(contains b a>>=λx=>pure<|Value.bool<|!x):=rfl;rw [B,Sem.wp_bind'] at h;refine J X ?_;rw [Sem.wp_bind'];refine Sem.wp_mono M Γ _ (λx j U D=>?_) (λH H H D=>D) p s h;refine bQ (D:∃y,Value.bool x=.bool y/\Q (.bool<|!y) U) λy P=>And.elim (λN L=>?_) P;injection N with N;exact J N L
section
variable{C:Cx}{st:St}{s:Shared}
def zY{h}{n}{v}(r:xI g h (.i n) v):(intKind C.prog C.w).is n v=true:=by obtain⟨t,rfl⟩:=r;simp [intKind,Value.isInt]
def Nw(r:eT C.w g s.heap U O)(h:∀x v,VR C.w g s.heap x v->x∈U->f v=decide (x=a)):O.any f=decide (a∈U):=by
 induction U generalizing O with
 |nil=>exact J r Y
 |cons x U D=>
  obtain⟨u,P,e,N,M⟩:=r;refine J e ?_;simp only [List.any_cons,D M λx v H L=>h x v H<|.tail _ L,h x u N (.head _)];by_cases q:x=a
  .refine J q ?_;simp
  .have:¬a=x:=λe=>q e.symm;simp [q,this]
def z6(C:Cx)(g:Gh)(h:Heap)(a:AV)(v:Value):Bool:=decide<|VR C.w g h a v
def nZ(p:eA d U=true)(m:x∈U):plain d x=true:=by
 induction U with
 |nil=>exact iZ m
 |cons y M O=>exact(mO m).elim (λe=>J e (Bool.and_eq_true_iff.mp p).1) λm=>O (Bool.and_eq_true_iff.mp p).2 m
def eT.mem{g}{h}{U}{O}(r:eT w g h U O){v}(m:v∈O):∃x∈U,VR w g h x v:=by
 induction U generalizing O with
 |nil=>exact cps λP L=>iZ<|jn r m
 |cons x U D=>obtain⟨u,H,e,N,M⟩:=r;subst e;exact mE m ⟨x,.head _,N⟩ λm=>(D M m).elim λy q=>⟨y,.tail _ q.1,q.2⟩
def vo(M:plain dp a=true)(O:plain dp x=true)(r:VR C.w g s.heap x v):z6 C g s.heap a v=decide (x=a):=by
 delta z6;by_cases q:x=a
 .refine jn q ?_;simp [r]
 .have:¬VR C.w g s.heap a v:=λU=>q<|qT O M r U;simp [q,this]
def BP(Q:A.units+dp<cLine)(p:plain dp a=true/\eA dp M=true)(H:VR C.w g s.heap a D)(L:eT C.w g s.heap M N){y}(P:y∈N):EqAt A s y D (z6 C g s.heap a y):=by refine bQ (L.mem P) λx X=>And.elim (λO U=>?_) X;exact J (vo p.1 (nZ p.2 O) U)<|vG Q (nZ p.2 O) p.1 U H
def DI(p:plain dp a=true/\eA dp U=true)(M:eT C.w g s.heap U O):O.toArray.any (z6 C g s.heap a)=decide (a∈U):=Array.any_toList▸Nw M λx v N D=>vo p.1 (nZ p.2 D) N
section
variable{E:Value->Shared->Prop}{x:Bool}
def X8(P:A.units+dp+30<cLine)(D:VR C.w g s.heap a N)(X:s.heap.get? H=(du M B))(U:eT C.w g s.heap O M)(e:Fh a O=x)(h:Q (.bool x) s):wpAny C.m A (compareOp .In N<|.ref H) Q E s:=
 lT e λp e=>have p:=Bool.and_eq_true_iff.mp p
  in_listAt (z6 C g s.heap a) (S9 X) (λy L=>BP (by show A.units+1+dp<_;exact lq [_] [aH (.s<|.a (.a ax<|.c 300)<|.c 30) (.c 9900)] (.s<|.a (.s ax)<|.c 300) (.c 9900) Y P) p D U<|List.mem_toArray.mp L) (J (DI p U)<|J e h)
def X7(P:A.units+dp+30<cLine)(D:VR C.w g s.heap a N)(X:s.heap.get? H=(gh M B))(U:eT C.w g s.heap O M)(e:Fh a O=x)(h:Q (.bool x) s):wpAny C.m A (compareOp .In N<|.ref H) Q E s:=
 lT e λp e=>have p:=Bool.and_eq_true_iff.mp p
  in_tupleAt (z6 C g s.heap a) (isT X) (λy L=>BP (by show A.units+1+dp<_;exact lq [_] [aH (.s<|.a (.a ax<|.c 300)<|.c 30) (.c 9900)] (.s<|.a (.s ax)<|.c 300) (.c 9900) Y P) p D U<|List.mem_toArray.mp L) (J (DI p U)<|J e h)
def Y7.some{R}{x}{y}(h:Y7 R x y):x.isSome=y.isSome:=by
 induction h with
 |no a b=>simp only [a,b];rfl
 |yes a v p q=>exact bV p q Y
def Y6.some{R}{x}{y}(h:Y6 R x y):x.isSome=y.isSome:=by
 induction h with
 |no a b=>simp only [a,b];rfl
 |yes a d v p q=>exact bV p q Y
def X9(y:A.units+dp+30<cLine)(U:(P==sysModules)=false)(j:s.heap.get? P=(d6 o r))(H:lh C.w g s.heap N o)(L:(N.map (·.1)).Nodup)(B:ed k N=true)
  (X:xI g s.heap k q) (h:∀t,Q (.bool (fP N k).isSome) {s with toks:=t}):wpAny C.m A (compareOp .In q<|.ref P) Q E s:=by
 induction k with
 |i m=>obtain⟨v,O,D⟩:=oU j H L<|rq B;exact wpAny_in_of (zY X) U D.mapOf<|jn ((Aa m O).some)<|h _
 |t ks=>obtain⟨d,e,i,M⟩:=qD X;obtain⟨f,O,D⟩:=nO j H L<|ub B;refine J e<|wpAny_in_heap (by show A.units+1<cLine;exact lq [_] [aH (.s<|.a (.a ax<|.c 300)<|.c 30) (.c 9900)] (.s<|.s ax) (.c 9900) Y y) M U D ?_;exact jn ((za ks O).some)<|h _
end
def Oe(P:A.units+dp+30<cLine)(S:cH C g st s.heap)(H:VR C.w g s.heap a r)(B:VR C.w g s.heap b f){x}(e:Mz st a b=some x){E}(h:∀t,Q (.bool x) {s with toks:=t}):
  wpAny C.m A (compareOp .In r f) Q E s:=by
 have U:=λ{X}=>nT (es:=X) S B;have c:=jV S B
 revert e c U
 delta Mz;induction vw st b with
 |L y=>exact λe p q=>by obtain⟨v,o,j,O,N,M⟩:=q;exact J O<|X8 P H N M e<|h s.toks
 |T y=>exact λe p q=>by obtain⟨v,o,j,O,i1,N,M⟩:=q;exact J O<|X7 P H N M e<|h s.toks
 |D X=>exact λe U q=>by obtain⟨v,ds,j,O,N,M,i⟩:=q;exact dj e λk l e=>lT e λn e=>J O<|X9 P (U Y _ O) N M i n (mW l H)<|J e h
 |_=>exact eg
def isSame_none(r:VR w g h a v):isSame v .none=pure (lS a):=by
 cases a
 .subst r;rfl
 .exact J r Y
 .obtain⟨_,rfl⟩:=r;rfl
 .obtain⟨_,rfl⟩:=r;rfl
 .obtain⟨_,_,_,rfl,_⟩:=r;rfl
 .obtain⟨_,_,_,rfl,_⟩:=r;rfl
 .obtain⟨_,_,_,rfl,_⟩:=r;rfl
 .obtain⟨_,_,_,_,rfl,_⟩:=r;rfl
 .obtain⟨_,_,_,_,rfl,_⟩:=r;rfl
 .obtain⟨_,_,rfl⟩:=r;rfl
def yj{P:Value->Value->Prop}(U:VR C.w g s.heap a M)(N:VR C.w g s.heap b O)(e:kq a b o=some x)(k:∀i j t u,US i j o=x->P (.int i t) (.int j u)):P M O:=
 dj e λi Q e=>dj e λj L e=>by rw [jQ Q] at U;exact U.elim λt H=>((jQ L)▸N).elim λu D=>bV H D<|k i j t u e
def Od{P:Value->Prop}(O:VR C.w g s.heap b U)(e:isQ a b=some x)(k:lS a=x->P .none):P U:=
 lT e λM q=>by
  clear e;cases b with
  |none=>exact J O<|k q
  |_=>exact nb M
def JT(D:A.units+dp+30<cLine)(S:cH C g st s.heap)(M:VR C.w g s.heap a N)(O:VR C.w g s.heap b X){x}(e:jc st o a b=some x){E}(h:∀t,Q (.bool x) {s with toks:=t}):
  wpAny C.m A (compareOp o.op N X) Q E s:=by
 have U:Q (.bool x) s:=h s.toks;induction o with
 |eq=>exact(Ov (lq [_] [aH (.s<|.a (.a ax<|.c 300)<|.c 30) (.c 9900)] (.s<|.a (.a ax<|.c 300)<|.c 10) (.c 9900) Y D) S M O e).1 _ _ _ _ U
 |ne=>exact UZ D S M O e U
 |lt=>exact yj M O e (P:=λv u=>wpAny C.m A (compareOp .Lt v u) Q E s) λi j t u e=>wpAny_lt_int (by replace U:=(ak e)▸U;exact U)
 |le=>exact yj M O e (P:=λv u=>wpAny C.m A (compareOp .LtE v u) Q E s) λi j t u e=>PySem.P.le_int (by replace U:=(ak e)▸U;exact U)
 |gt=>exact yj M O e (P:=λv u=>wpAny C.m A (compareOp .Gt v u) Q E s) λi j t u e=>PySem.P.gt_int (by replace U:=(ak e)▸U;exact U)
 |ge=>exact yj M O e (P:=λv u=>wpAny C.m A (compareOp .GtE v u) Q E s) λi j t u e=>PySem.P.ge_int (by replace U:=(ak e)▸U;exact U)
 |S8=>refine Od (P:=λv=>wpAny C.m A (compareOp .Is N v) Q E s) O e λe=>(?_:wpAny _ _ (do return .bool (<-isSame N .none)) Q E s);exact J (isSame_none M)<|J e<|ao<|ay<|ay U
 |DW=>obtain⟨y,L,H⟩:=Option.map_eq_some_iff.mp e;refine Od (P:=λv=>wpAny C.m A (compareOp .IsNot N v) Q E s) O L λe=>(?_:wpAny _ _ (do return .bool (!(<-isSame N .none))) Q E s);exact J (isSame_none M)<|J e<|ao<|ay<|ay<|J H U
 |z8=>exact Oe D S M O e h
 |hV=>obtain⟨y,L,H⟩:=Option.map_eq_some_iff.mp e;exact zC<|Oe D S M O L λt=>⟨_,Y,J H<|h t⟩
end
section
variable{C:Cx}{st:St}{s:Shared}
def cH.grow(S:cH C g st h)(O:∀b o,h.get? b=some o->M.get? b=some o):cH C g st M where
 base:=λa x e=>⟨O a x (S.base a x e).1,(S.base a x e).2⟩
 one:=S.one
 live:=λa i=>by obtain⟨o,e⟩:=S.live a i;exact⟨o,O a o e⟩
 cells:=S.cells.mono ⟨λU x=>x,λU U U=>O _ _,λU U e=>e⟩ λa m=>by obtain⟨o,e⟩:=S.fF m;exact bV e (O a o e) Y
 lg:=S.lg
 fW:=S.fW
 iJ:=S.iJ
def jv(N:g.ro<=g.mu.length){M}{t}(O:∀b o,s.heap.get? b=some o->M.get? b=some o):fg g.mu.length nx g s g {s with heap:=M,toks:=t}:=
 ⟨λ_ ⟨o,e⟩=>⟨o,O _ o e⟩,λU x=>x,λU U x U U=>O _ _ x,⟨aS _,aS _⟩,Y,N,Y,λU U=>.inl,λU U x=>x,Y,Y⟩
def fi(O:∀b o,h.get? b=some o->M.get? b=some o):Keeps g h g M:=⟨λU x=>x,λU U U=>O _ _,λU U e=>e⟩
set_option tactic.hygienic true in
def b7.after(x:fg g.mu.length nx g s g s1)(p:b7 C g s1 r U v O):b7 C g s r U v O:=by induction p;rename_i M N y q;exact⟨M,N,x.trans y,q⟩
def zu(S:cH C g st s.heap)(U:∀b o,s.heap.get? b=some o->O.get? b=some o)(h:VR C.w g s.heap r v):b7 C g s r st v {s with heap:=O,toks:=t}:=
 ⟨g,S.grow U,jv S.iJ U,h.mono<|fi U⟩
def wH(H:(d==sysModules)=false)(O:s.heap.get? d=(d6 U k))(M:(U.length:Int)<2^63)
  (h:Q (.int U.length<|s.toks+1) {s with toks:=s.toks+1+1}):wpAny C.m A (call (.builtin "len") [.ref d]) Q eV s:=by
 refine Calls.call_function_entry kind_len plain_len entry_len (args_len1 _)<|ao<|ay ?_
 have D:MeetsIn C.prog C.w (Builtin.«dict.__len__» ⟨[.ref d],[]⟩) (λL R s=>s.heap.get? d=(d6 U k)/\R (.ok<|.ret<|.int U.length s.toks) {s with toks:=s.toks+1}):=
  .of_wp λA R s N=>N.elim λO h=>by show wpAny _ _ (dictSize d>>=_) _ _ s;refine ao<|ao<|fo O Y<|ay<|ao<|wpAny_pendingCount_other H<|wpAny_ret_mkInt ?_;have:U.toArray.size=U.length:=rfl;exact jn this h
 refine ao (wpAny_callSpecial?_slot (⟨_,O,Y⟩) F.slot_dict_len
  (call_meetsIn F.slot_dict_len (⟨_,O,Y⟩) F.entry_dict_len (F.args_dict_len_1 _) D ⟨O,?_⟩))
 exact ao<|bD<|ay<|ao<|wpAny_letGo<|J (az<|Int.not_le.mpr M)<|ao<|wpAny_mkInt<|ay ⟨_,Y,h⟩
def BX(h:n<=lim):(n:Int)<2^63:=ey (Int.ofNat_le.mpr h) (by decide:((1000000:Nat):Int)<2^63)
theorem lh.length{es}{O}(H:lh w g h es O):es.length=O.length:=lh.ind H Y λU U U U=>congrArg Nat.succ
def b7.wp{E}(e:x=(r,U))(h:wpAny C.m A m (b7 C g s x.1 x.2) E s0):wpAny C.m A m (b7 C g s r U) E s0:=by replace h:=e▸h;exact h
def Qy(S:cH C g st s.heap)(X:VR C.w g s.heap a o)(e:sJ st a .len=(r,P)):wpAny C.m A (call (.builtin "len") [o]) (b7 C g s r P) eV s:=by
 have O:=λ{Q}=>nT (es:=Q) S X;have p:=jV S X
 revert e p O
 dsimp only [sJ];induction vw st a with
 |L v=>exact λe f q=>by obtain⟨j,y,B,M,H,U⟩:=q;exact lT e λN e=>J M<|b7.wp e<|Calls.call_len_list ⟨_,H,Y,_,Y⟩ (J bF<|jn U.length<|BX N)<|J bF<|jn U.length<|cC S ⟨_,Y⟩
 |T v=>exact λe f q=>by obtain⟨j,y,B,M,_,H,U⟩:=q;exact lT e λN e=>J M<|b7.wp e<|len_tuple ⟨_,H,Y,_,Y⟩ (J bF<|jn U.length<|BX N)<|J bF<|jn U.length<|cC S ⟨_,Y⟩
 |D Q=>exact λe O q=>by obtain⟨j,i,B,M,H,U,_⟩:=q;exact lT e λN e=>J M<|b7.wp e<|wH (O Y _ M) H (jn U.length<|BX N)<|jn U.length<|cC S ⟨_,Y⟩
 |_=>exact eg
def Dn{x y}{t u v tk:Nat}(S:cH C g st s.heap):b7 C g s (.sS x y) st (.ref s.heap.objs.size) {s with heap:=s.heap.push {cls:=.type "range",data:=.fields #[.int x t,.int y u,.int 1 v]},toks:=tk}:=
 ⟨_,S.HJ Y,sD S.iJ,s.heap.objs.size,t,u,v,Y,.inr Y,ba _ Y⟩
inductive SqR(C:Cx)(g:Gh)(h:Heap)(xs:List AV)(v:Value):Prop
 |L (l vs n) (e:v=.ref l) (p:h.get? l=some (du vs n)) (r:eT C.w g h xs vs) (c:xs.length<=lim)
 |T (l vs n) (e:v=.ref l) (i:g.fA l) (p:h.get? l=some (gh vs n)) (r:eT C.w g h xs vs) (c:xs.length<=lim)
def tQ(S:cH C g st s.heap)(A:VR C.w g s.heap a B)(e:zj st a=some X):SqR C g s.heap X B:=by
 have v:=jV S A
 revert e v
 delta zj;induction vw st a with
 |L Q=>exact λe q=>by obtain⟨N,U,M,P,H,O⟩:=q;exact lT e λD e=>e▸.L N U M P H O D
 |T Q=>exact λe q=>by obtain⟨N,U,M,P,j,H,O⟩:=q;exact lT e λD e=>jn e<|.T N U M P j H O D
 |_=>exact eg
def uL(S:cH C g st s.heap)(r:eT C.w g s.heap D O)(U:∀b o,s.heap.get? b=some o->N.get? b=some o)(M:N.get? s.heap.objs.size=some (du O c)):
  b7 C g s (.ref st.length) (st++[.L D]) (.ref s.heap.objs.size) {s with heap:=N,toks:=t}:=
 have o:=let q:=ij (o:=du [] 0) S Y;⟨q.fA,q.mu,⟨_,M⟩,q.one⟩
 ⟨_,(S.grow U).own o o ⟨Y,O,c,M,r.mono<|fi U⟩,(jv S.iJ U).adopt (ct _)<|ct _,qV S⟩
def getD_get{l:List Int}(h:j<l.length):l.getD j 0=l[j]:=by simp [List.getD,h]
inductive IsR(vs:List Value)(l:List Int):Prop
 |mk (ps:List (Int×Tok)) (e:vs=ps.map (λp=>Value.int p.1 p.2)) (f:ps.map (·.1)=l)
def vp{h}{i}{w}(e:j6 a=some i)(U:VR w g h a O):∃t,O=.int i t:=by replace U:=(jQ e)▸U;exact U
def IP:∀{l} {vs},allInts U=some l->eT C.w g s.heap U vs->IsR vs l:=by
 induction U with
 |nil=>exact λe r=>⟨[],r,ak e⟩
 |cons x U O=>exact λe ⟨u,L,H,p,q⟩=>dj e λi D e=>dj e λl N e=>
   let⟨ps,h1,h2⟩:=O N q
   (vp D p).elim λt M=>
   ⟨(i,t)::ps,H.trans<|bV h1 M Y,J aZ<|J h2<|ak e⟩
inductive IlR(h:Heap)(l:List Int)(v:Value):Prop
 |mk (x:Addr) (ps:Array (Int×Tok)) (e:v=.ref x) (p:h.IsList x (intItems ps)) (f:ps.toList.map (·.1)=l)
def z7(S:cH C g st s.heap)(N:VR C.w g s.heap a M)(e:xi (vw st a)=some l):IlR s.heap l M:=by
 have P:=jV S N
 revert e P
 induction vw st a with
 |L B=>exact λe q=>by obtain⟨H,A,O,X,Q,D⟩:=q;exact dj e λ_ U e=>lT U λ_ U=>
   let⟨ps,q1,q2⟩:=IP (U▸e) D
   ⟨H,ps.toArray,X,⟨_,Q,Y,O,congrArg (Data.seq · O)<|(congrArg List.toArray q1).trans<|by simp [intItems]⟩,q2⟩
 |_=>exact eg
def Ff:∀(l:List Int) (m:Int),yq m l∈m::l/\∀y∈m::l,yq m l<=y:=λl=>l.rec (λm=>⟨.head _,λy h=>by rcases mS h with rfl;exact Int.le_refl _⟩) λx l O=>by
  intro m;have e:yq m (x::l)=yq (if x<m then x else m) l:=rfl;refine J e ?_;constructor
  .exact(mO (O<|if x<m then x else m).1).elim (λh=>by
    refine J h ?_;split
    .exact .tail _ (.head _)
    .exact .head _) λh=>.tail _<|.tail _ h
  .intro y U;rcases mO U with M|U
   .exact J M (ef ((O<|if x<m then x else m).2 _<|.head _) (if c:x<m then ef (kl<|au c) (iF c)else kl (az c)))
   .exact(mO U).elim (λM=>by exact J M<|ef ((O<|if x<m then x else m).2 _<|.head _) (if c:x<m then kl (au c)else ef (kl<|az c) (Int.not_lt.mp c))) λU=>(O<|if x<m then x else m).2 y<|.tail _ U
def vq{i}(e:j6 a=some i)(U:VR C.w g s.heap a va){P:Value->Prop}(k:∀t,P<|.int i t):P va:=(vp e U).elim λt h=>J h<|k t
def E7(S:cH C g st s.heap)(M:VR C.w g s.heap a O)(e:sJ st a .range=(r,U)):wpAny C.m A (call (.type "range") [O]) (b7 C g s r U) eV s:=
 dj e fun i N e=>lT e fun _ e=>b7.wp e<|vq N M (P:=fun v=>wpAny C.m A (call (.type "range") [v]) _ eV s) fun t=>call_range_1<|Dn S
def E6(S:cH C g st s.heap)(D:VR C.w g s.heap a M)(N:VR C.w g s.heap b O)(e:Wf st a b .range=(r,U)):wpAny C.m A (call (.type "range") [M,O]) (b7 C g s r U) eV s:=
 dj e fun i L e=>dj e fun j H e=>lT e fun _ e=>b7.wp e (vq L D (P:=fun v=>wpAny C.m A (call (.type "range") [v,O]) _ eV s) fun t=>
  vq H N (P:=fun v=>wpAny C.m A (call (.type "range") [_,v]) _ eV s) fun u=>call_range_2<|Dn S)
def G4(S:cH C g st s.heap)(P:VR C.w g s.heap a H)(e:sJ st a .tuple=(r,O)):wpAny C.m A (call (.type "tuple") [H]) (b7 C g s r O) eV s:=
 dj e λB X e=>b7.wp (ak e)<|by
  induction tQ S P X with
  |L l N n e h U D=>refine J e<|call_tuple_list ⟨_,h,Y,_,Y⟩ (λQ M=>?_)<|J bF<|jn U.length<|iN D;exact b7.after (jv S.iJ M)<|tW (s:={s with heap:=Q}) (S.grow M)<|U.mono<|fi M
  |T l N n e i h U D=>exact J e<|call_tuple_same ⟨_,h,Y,_,Y⟩<|cC S ⟨l,N,n,Y,i,h,U⟩
def Mn(S:cH C g st s.heap)(H:VR C.w g s.heap a D)(e:sJ st a .list=(r,O)):wpAny C.m A (call (.type "list") [D]) (b7 C g s r O) eV s:=
 dj e λB Q e=>b7.wp (ak e)<|by
  induction tQ S H Q with
  |L l N n e h U M=>exact J e<|call_list_seq l (.inl Y) h Y Y (λP X=>uL S U)<|J bF<|jn U.length<|iN M
  |T l N n e i h U M=>exact J e<|call_list_seq l (.inr Y) h Y Y (λP X=>uL S U)<|J bF<|jn U.length<|iN M
def PF(D:A.handled=none)(S:cH C g st s.heap)(M:VR C.w g s.heap a O)(e:sJ st a .sum=(r,U)):wpAny C.m A (call (.builtin "sum") [O]) (b7 C g s r U) eV s:=
 dj e λl H e=>b7.wp (ak e)<|by obtain⟨b,P,ev,h,f⟩:=z7 S M H;exact J ev<|sum_intListG D h λQ tk L N=>J (preSum_eq ..)<|J f<|J (bP<|by exact jn f<|J (ag _) .refl)<|zu S N ⟨_,Y⟩
def Md{m}(f:U.toList.map (·.1)=m::tl):numAt U (argBest (λi j=>decide<|numAt U i<numAt U j)<|U.size-1)=yq m tl:=by
 refine And.elim (λL k2=>?_)<|argBest_lt (numAt U)<|U.size-1;have O:∀j,numAt U j=(m::tl).getD j 0:=λj=>J (numAt_eq ..)<|J f Y;have hlen:(m::tl).length=U.size:=jn f<|ag _;refine And.elim (λH D=>?_)<|Ff tl m;apply Int.le_antisymm
 .refine(List.mem_iff_getElem.mp H).elim λi N=>N.elim λM e=>?_;have:=k2 i<|lq [_,_,_,_] [.q 1 (.s a7) cz,aH (.s ax)<|.s a7,aH cz (.a aE<|.c 1)] ax aE Y hlen M (wB ..);simp only [O i,getD_get M,e] at this;exact this
 .exact D _ (J (O _)<|J (getD_get (by simp only [bj] at hlen⊢;exact lq [_,_,_,_] [aH ax a7,.p 1 (.s aE) cz,aH (.a a7<|.c 1) cz] (.s ax) (.s aE) Y L hlen (aG<|a9<|lq [_,_] [.q 1 (.s aE) ax] (.c 1) ax Y hlen)))<|eZ _)
def Qn(Q:A.handled=none)(S:cH C g st s.heap)(D:VR C.w g s.heap a N)(e:sJ st a .min=(r,U)):wpAny C.m A (call (.builtin "min") [N]) (b7 C g s r U) eV s:=
 dj e λl M e=>dj e λx O e=>b7.wp (ak e)<|by
  obtain⟨b,X,ev,h,f⟩:=z7 S D M;clear e M;clear e;induction l with
  |nil=>exact eg O
  |cons m tl=>refine J ev<|jn (ak O)<|min_intList Q h (by have:=congrArg List.length f;rw [ag] at this;exact dU (bO _) this.symm) λv B tk H P=>?_;exact(intItems_at H).elim λt L=>J L<|J (Md f)<|zu S P ⟨_,Y⟩
def Sw(S:cH C g st s.heap)(M:VR C.w g s.heap a O)(e:sJ st a .abs=(r,U)):wpAny C.m A (call (.builtin "abs") [O]) (b7 C g s r U) eV s:=
 dj e fun i N e=>b7.wp (ak e)<|vq N M (P:=fun v=>wpAny C.m A (call (.builtin "abs") [v]) _ eV s) fun t=>call_abs_int fun u tk=>jn (show(if i<0 then-i else i)=(i.natAbs:Int) by exact if h:i<0 then(au h).trans (Int.ofNat_natAbs_of_nonpos<|iF h).symm else(az h).trans (Int.natAbs_of_nonneg<|Int.not_lt.mp h).symm)<|cC S ⟨_,Y⟩
def QY(S:cH C g st s.heap)(M:VR C.w g s.heap a O)(e:sJ st a .int=(r,U)):wpAny C.m A (call (.type "int") [O]) (b7 C g s r U) eV s:=
 dj e fun i N e=>b7.wp (ak e)<|vq N M (P:=fun v=>wpAny C.m A (call (.type "int") [v]) _ eV s) fun t=>call_int_int<|cC S ⟨_,Y⟩
def IK(S:cH C g st s.heap)(M:VR C.w g s.heap a N)(e:sJ st a .isStr=(r,U)):wpAny C.m A (call (.builtin "isinstance") [N,.type "str"]) (b7 C g s r U) eV s:=
 dj e λx O e=>b7.wp (ak e)<|by
  cases a with
  |str l=>exact M.elim λt D=>J D<|jn (ak O)<|call_isinstance_yes (typeIs_str s _ t) F.isi_meta_str F.sub_str_str<|cC S Y
  |aL H=>obtain⟨l,L,n,e,i,h,P⟩:=M;exact J e<|(ak O)▸PySem.IsiPair.tuple_str h Y (cC S Y)
  |_=>exact eg O
end
def mz(b n:Nat):max 0 (min (b:Int) n)=((min b n:Nat):Int):=(congrArg (max 0) (Lean.Omega.Int.ofNat_min b n).symm).trans<|Int.max_eq_right<|dF _
def uB(b n:Nat):sliceBounds none (b:Int) none n=(((0:Nat):Int),((min b n:Nat):Int),1):=by dsimp only [sliceBounds,Option.getD_none];refine congrArg _<|eY (congrArg Prod.mk ?_) _;exact(congrArg (λz:Int=>max 0<|min z n)<|az<|Int.not_lt.mpr<|dF b).trans (mz b n)
def xZ items(b:Nat):slicePick items none (b:Int) none=(items.toList.take b).toArray:=by delta slicePick;exact J (uB ..)<|J (sliceRange_one ..)<|J (pick_run ..)<|bV (kh _) List.drop_zero<|congrArg _ (if h:b<=items.size then J (cj h) Y else J (gA<|by exact lq [_,_] [.n 1 aE ax] ax aE Y h) (J (bP .refl)<|J (bP (by dsimp;exact lq [_,_] [.n 1 aE ax] ax aE Y h)) Y))
def r7(a n:Nat):sliceBounds (a:Int) none none n=(((min a n:Nat):Int),(n:Int),1):=by
 dsimp only [sliceBounds,Option.getD_none];refine eY ?_ _
 lia
def slicePick_from' items(a:Nat):slicePick items (a:Int) none none=(items.toList.drop a).toArray:=by delta slicePick;exact J (r7 ..)<|J (sliceRange_one ..)<|J (pick_run ..)<|congrArg _ (if h:a<=items.size then J (cj h) (bP<|by simp)else J (gA<|by exact lq [_,_] [.n 1 aE ax] ax aE Y h) (J (dC _)<|J List.take_zero<|J (fu (by dsimp;exact lq [_,_] [.n 1 aE ax] ax aE Y h)) Y))
def x8 items:slicePick items (some<|-2) none none=(items.toList.drop<|items.size-2).toArray:=by
 have e:sliceBounds (-2:Int) none none items.size=(((items.size-2:Nat):Int),(items.size:Int),1):=by dsimp only [sliceBounds,Option.getD_none];refine eY ?_ _;exact congrArg Prod.mk ((congrArg (max 0)<|Int.min_eq_left<|Int.add_le_of_le_neg_add<|Int.le_add_of_nonneg_left<|by decide).trans ((Int.max_comm ..).trans ((congrArg (max · 0)<|Int.add_comm ..).trans<|(Int.ofNat_toNat _).symm.trans<|congrArg Int.ofNat<|Int.toNat_sub items.size 2)))
 delta slicePick;exact J e<|J (sliceRange_one ..)<|J (pick_run ..)<|congrArg _<|bP<|by simp
def LJ(n:Nat):sliceRange (n-1) (-1) (-1)=(List.range n).reverse:=by
 refine J List.range_eq_range'<|J List.reverse_range' ?_;exact n.casesOn Y λn=>by refine J (Int.add_sub_cancel (n:Int) 1) ?_;delta sliceRange;exact J (az<|by decide) (J (au<|Int.lt_of_lt_of_le (by decide)<|dF n) (J (show(- -1:Int)=1 from Y) (J (Int.ediv_one _) (J (show((n:Int)- -1- -1-1)=((n+1:Nat):Int)from J (Int.sub_neg ..) (J (Int.sub_neg ..)<|Int.add_sub_cancel ..)) (aX λk U=>(congrArg Int.toNat (congrArg ((n:Int)+ ·)<|Int.neg_one_mul k)).trans ((Int.toNat_sub n k).trans (congrArg (· -1-k)<|bu<|n+1).symm))))))
def wy items:slicePick items none none (some<|-1)=items.toList.reverse.toArray:=by refine congrArg List.toArray ((congrArg (List.filterMap (items[·]?))<|LJ items.size).trans (List.filterMap_reverse.trans (congrArg List.reverse ((congrArg (List.filterMap (items[·]?)) ?_).trans<|(pick_run items 0 items.size).trans<|bP .refl))));exact(List.map_id _).symm.trans (aX λk U=>(bu k).symm)
inductive BR:SB->Value->Value->Value->Prop
 |to (n:Int) (t:Tok):BR (.to n) .none (.int n t) .none
 |m5 (n:Int) (t:Tok):BR (.m5 n) (.int n t) .none .none
 |rev (t:Tok):BR .rev .none .none (.int (-1) t)
noncomputable def Hq(l u st:Value):Obj:={cls:=.type "slice",data:=.fields #[l,u,st]}
section
variable{C:Cx}{U:St}{s:Shared}
def Gx(b n:Nat):Builtin.Slice.sliceAdjust none (b:Int) 1 n=(0,((min b n:Nat):Int)):=congrArg _<|(az<|Int.not_lt.mpr<|dF b).trans (Lean.Omega.Int.ofNat_min b n).symm
def Fc(m:Nat):Builtin.Slice.slicePlaces 0 m 1=m:=m.casesOn Y λm=>congrArg Int.toNat ((au Int.one_pos).trans ((au<|Int.natCast_pos.mpr<|bO m).trans ((congrArg (· +1)<|Int.ediv_one _).trans<|Int.sub_add_cancel ..)):(if(1:Int)>0 then _ else _)=((m+1:Nat):Int))
def tG{b n:Nat}{E}(D:s.heap.IsSliceOf sl .none (.int b u) .none)(h:Q (0,1,min b n) s):
  wpAny C.m A (Builtin.Slice.sliceApplied (.ref sl)<|pure n) Q E s:=by
 refine(id D).elim λos N=>N.elim λO N=>N.elim λH M=>ao<|ao<|wpAny_field O M Y<|ao<|wpAny_field O M Y<|ao<|wpAny_field O M Y<|ay<|ao<|slicePart_none<|ao<|slicePart_none<|ao<|slicePart_int<|ao<|ay<|J (Gx b n) ?_;show wpAny _ _ (pure ((0:Int),(1:Int),Builtin.Slice.slicePlaces 0 ((min b n:Nat):Int) 1)) _ _ s;exact J (Fc _)<|ay h
def LU(O:Array Value) m:((List.range m).filterMap λ(k:Nat)=>O[(0+(k:Int)*1).toNat]?).toArray=(O.toList.take m).toArray:=by
 have e:(λ(k:Nat)=>O[((0:Int)+(k:Int)*1).toNat]?)=λk=>O[0+k]? :=by
  funext k
  have:((0:Int)+(k:Int)*1).toNat=0+k:=congrArg (0+ ·)<|iB k;exact congrArg _ this
 refine J e ?_;have:=pick_run O 0 m;rw [List.filterMap_map] at this;exact J this<|J List.drop_zero Y
def sA{a:Nat}{E}(D:IsTup s.heap t items)(j:s.heap.IsSliceOf sl .none (.int a u) .none)
  (v:(items.toList.take a).toArray=items->Q (.ref t) s) (h:Q (.ref s.heap.objs.size) {s with heap:=s.heap.push {cls:=.type "tuple",data:=.seq (items.toList.take a).toArray}})
  (H:items.size<=sizeLine):wpAny C.m A (getItem (.ref t)<|.ref sl) Q E s:=by
 have O:sizeOk (.seq (items.toList.take a).toArray):=by show(items.toList.take a).toArray.size<=sizeLine;exact J bF<|J cL<|J Array.length_toList<|lq [_,_] [aH aE (.c 16777216),aH ax aE] ax (.c 16777216) Y H (jg ..)
 obtain⟨os,L,X,w⟩:=id j;delta getItem
 try with_reducible refine bD (ao (wpAny_sequenceKey D.typeIs Y (ao (wpAny_callSpecial?_slot D.typeIs slot_tuple_getitem
  (eX slot_tuple_getitem D.typeIs entry_tuple_getitem ?_<|args_tuple_getitem ..)))))
 show wpAny _ _ (Builtin.Tuple.tupleItemsOf (.ref t)>>=_) _ _ s;refine ao<|tupleItemsOf_ D<|ao<|wpAny_typeOf (⟨os,L,X⟩)<|ao<|tG j ?_;have M:items.toList.take (min a items.size)=items.toList.take a:=if q:a<=items.size then J (cj q) Y else J (gA<|by exact c9 λB=>tH [_,_] [.n 1 ax aE,aH (.s ax) aE] Y q B) (J (bP .refl)<|J (bP (by dsimp;exact c9 λB=>tH [_,_] [.n 1 ax aE,aH (.s ax) aE] Y q B)) Y)
 show wpAny _ _ (if((0:Int)==0&&(1:Int)==1&&(min a items.size)==items.size)=true then _ else _) _ _ s;by_cases q:min a items.size=items.size
 .have N:((0:Int)==0&&(1:Int)==1&&(min a items.size)==items.size)=true:=by simp [q]
  refine J (au N)<|ao<|ao<|wpAny_typeOf D.typeIs<|ay<|ao<|jH<|ao<|ay<|ay ⟨_,Y,ay<|v ?_⟩;exact jn M<|J q<|J (bP<|by simp) Y
 .have P:¬(((0:Int)==0&&(1:Int)==1&&(min a items.size)==items.size)=true):=by simp [q]
  refine J (az P)<|J (LU items _)<|J M ?_
  first
   |exact ao<|fk (ay ⟨_,Y,ay h⟩) O
   |exact ao<|fk (ao<|ay<|ay ⟨_,Y,ay h⟩) O
   |exact ao<|ao<|fk (ay<|ay ⟨_,Y,ay h⟩) O
   |exact ao<|ao<|fk (ay ⟨_,Y,ay h⟩) O
def PH l n x t u(N:x=wF l)(H:n<=lim)(h:∀M k,Q (.str (wF<|l.take n) M) {s with toks:=k}):(sliceMade x t none (some (n,u)) none).post Q s:=by
 subst N;have hlen:(wF l).length=l.length:=by show l.toArray.size=_;exact rfl
 have D:slicePicked (wF l) none ((n:Int),u) none=List.range (min n l.length):=by delta slicePicked Builtin.Str.strSliceIndices;dsimp only [Option.map_none,Option.map_some];refine J (mz n l.length) ?_;have:=sliceRange_one 0<|min n l.length;refine this.trans ?_;simp
 have L:(List.range<|min n l.length).filterMap ((wF l).cps[·]?)=l.take n:=by have:=pick_run l.toArray 0<|min n l.length;rw [show(λx=>0+x)=(id:Nat->Nat)from by funext x;simp,List.map_id] at this;exact this.trans<|List.drop_zero.trans (if q:n<=l.length then J (cj q) Y else J (gA<|lq [_,_] [.n 1 aE ax] ax aE Y q) (bV (bP .refl) (bP<|lq [_,_] [.n 1 aE ax] ax aE Y q) Y))
 delta sliceMade;refine J D<|J L ?_;split
 .rename_i O;rw [cF,kQ,aO] at O;replace O:=hlen▸O;have:=h t s.toks;exact(jn (bP<|aa (aG (eq_of_beq O.2).symm)<|fY ..) this)
 .refine⟨?_,h ..⟩;show(l.take n).toArray.size<=sizeLine;exact J bF<|J cL<|lq [_,_] [aH aE (.c 1000000),aH ax aE] ax (.c 16777216) Y H (fY ..)
inductive CP(C:Cx)(A:Around)(s:Shared)(va vb:Value)(Q:Value->Shared->Prop):Prop
 |mk (T id) (a:typeLookup (.type T) "__getitem__" =pure (some<|.builtin id)) (b:s.TypeIs va T) (c:wpAny C.m A (getItem va vb) Q eV s)
def Bn(s:Shared)(l u x:Value):Shared:={s with heap:=s.heap.push (Hq l u x)}
section
variable{ys:List AV}{zs:List Value}
def Bm:(Bn s N O M).heap.IsSliceOf s.heap.objs.size N O M:=⟨_,ba _ Y,Y,Y⟩
def nV{b}(e:s.heap.get? b=some o):(Bn s N O M).heap.get? b=o:=aP _ e
def pq(S:cH C g U s.heap)(p:b7 C g (Bn s H N D) r O v M):b7 C g s r O v M:=b7.after (mD S.iJ) p
def Df(S:cH C g U s.heap):cH C g U (Bn s N O M).heap:=S.push _
def Hp:Keeps g s.heap g (Bn s D M N).heap:=fi λO O=>nV
def oH{P:Int->Prop}(O:0<=k)(h:∀j:Nat,P j):P k:=by have:=h k.toNat;rwa [js O] at this
def size_of(N:eT C.w g s.heap O M)(D:O.length<=lim):(List.toArray M).size<=sizeLine:=J bF<|jn N.length<|iN D
def Ly{lo}(S:cH C g U s.heap)(r:s.heap.get? q=(du N i))(X:eT C.w g s.heap D N)(o:D.length<=lim)(pl:IsPart Q lo)(j:IsPart H f)(B:IsPart P O)(p:O≠some 0)
  (y:slicePick N.toArray lo f O=zs.toArray) (v:eT C.w g s.heap ys zs):CP C A (Bn s Q H P) (.ref q) (.ref s.heap.objs.size) (b7 C g s (.ref U.length)<|U++[.L ys]):=
 have M:=⟨_,nV r,Y,_,Y⟩
 ⟨"list",_,list_getitem_lookup,M.typeIs,wpAny_getItem_list_slice M Bm pl j B p (J y<|pq S<|tX (Df S)<|v.mono Hp)<|size_of X o⟩
def Uu(S:cH C g U s.heap)(D:s.heap.get? v=(du M r))(O:eT C.w g s.heap Q M)(N:Q.length<=lim)(o:BR B q X j)(e:JO Q B=ys):
  CP C A (Bn s q X j) (.ref v) (.ref s.heap.objs.size) (b7 C g s (.ref U.length)<|U++[.L ys]):=by
 induction o with
 |to n t=>exact lT e λH e=>Ly S D O N .none (.int ..) .none (by simp) (oH (P:=λn=>slicePick M.toArray none n none=(M.take n.toNat).toArray) (fG.mp H).1<|xZ _)<|jn e<|O.take _
 |m5 n t=>exact jq e (λH e=>(Ly S D O N (.int ..) .none .none (by simp) (oH (P:=λn=>slicePick M.toArray n none none=(M.drop n.toNat).toArray) (fG.mp H).1<|slicePick_from' _)<|ak e▸O.drop _)) λf e=>(lT e λy e=>Ly S D O N (.int ..) .none .none (by simp) ((eq_of_beq y)▸x8 _)<|e▸O.length▸O.drop _)
 |rev t=>exact Ly S D O N .none .none (.int ..) (by trivial) (wy _)<|ak e▸O.reverse
def Uv(S:cH C g U s.heap)(h:eT C.w g s.heap ys zs):b7 C g s (.aL ys) U (.ref (Bn s N O M).heap.objs.size) {Bn s N O M with heap:=(Bn s N O M).heap.push (gh zs 0)}:=
 pq S (tW (Df S)<|h.mono Hp)
def CP.eqv(e:x=(r,O))(h:CP C A s v w (b7 C g s0 x.1 x.2)):CP C A s v w (b7 C g s0 r O):=by replace h:=e▸h;exact h
def Ut(S:cH C g U s.heap)(c:g.fA N)(D:s.heap.get? N=(gh v i))(O:eT C.w g s.heap M v)(y:M.length<=lim)(b:BR B p o f)(e:VV U M B=(r,Q)):
  CP C A (Bn s p o f) (.ref N) (.ref s.heap.objs.size) (b7 C g s r Q):=by
 induction b with
 |to n t=>
  refine lT e fun H e=>CP.eqv e ⟨"tuple",_,slot_tuple_getitem.lookup,⟨_,nV D,Y⟩,?_⟩
  exact oH (P:=λn=>wpAny C.m A (getItem (.ref N)<|.ref s.heap.objs.size) (b7 C g s (.aL<|M.take n.toNat) U) eV<|Bn s .none (.int n t) .none) (fG.mp H).1 λj=>by refine sA ⟨_,nV D,Y,_,Y⟩ Bm (λq=>?_) (Uv S<|O.take j)<|size_of O y;exact(bP<|J O.length<|jn (List.toArray_inj q)<|List.length_take_le ..).symm▸pq S (cC (Df S) ⟨N,v,i,Y,c,nV D,O.mono Hp⟩)
 |m5 n t=>
  refine lT e fun H e=>CP.eqv e ⟨"tuple",_,slot_tuple_getitem.lookup,⟨_,nV D,Y⟩,?_⟩
  have L:=aB (Bool.and_eq_true_iff.mp H).1;have X:=aB (Bool.and_eq_true_iff.mp H).2;refine oH (P:=λn=>1<=n->n<=M.length->wpAny C.m A (getItem (.ref N)<|.ref s.heap.objs.size) (b7 C g s (.aL<|M.drop n.toNat) U) eV (Bn s (.int n t) .none .none)) (iF L) (λj L X=>?_) L X;exact getItem_tuple_from ⟨_,nV D,Y,_,Y⟩ Bm (Int.ofNat_le.mp L) (J bF<|jn O.length<|Int.ofNat_le.mp X) (Uv S<|O.drop j)<|size_of O y
 |rev t=>exact eg e
end
def EO(h:EP a=some l):a=.str l:=by cases a<;>first|exact eg h|exact congrArg _<|ak h
def PO(S:cH C g U s.heap)(N:VR C.w g s.heap a c)(X:BR B i f p)(e:nc U a B=(r,D)):
  CP C A (Bn s i f p) c (.ref s.heap.objs.size) (b7 C g s r D):=by
 delta nc at e;induction hs:EP a with
 |some l=>
  simp only [hs] at e;replace N:=(EO hs)▸N;refine N.elim λt M=>J M ?_;induction X with
  |to n u=>exact lT e λh e=>CP.eqv e (by
    refine oH (P:=λn=>n<=(lim:Int)->CP C A (Bn s .none (.int n u) .none) (.str (wF l) t) (.ref s.heap.objs.size) (b7 C g s (.str<|l.take n.toNat)<|(AV.str<|List.take n.toNat l,U).snd)) (fG.mp h).1 (λj hj=>?_) (fG.mp h).2;exact⟨"str",_,F.slot_str_getitem.lookup,typeIs_str _ _ t,wpAny_getItem_str_slice ⟨_,ba _ Y,Y,Y⟩ Y
     (PH l j _ t u Y (by lia) λt' tk=>pq S<|cC (Df S) ⟨_,Y⟩)⟩)
  |_=>exact eg e
 |none=>
  simp only [hs] at e;have O:=jV S N
  revert e O
  induction vw U a with
  |L y=>intro e O;obtain⟨x,o,b,M,q,H⟩:=O;exact M▸jq e (λQ e=>dj e λys e2 e3=>CP.eqv (ak e3)<|Uu S q H Q X e2) λv=>eg
  |T y=>intro e O;obtain⟨x,o,b,M,i1,q,H⟩:=O;exact M▸jq e (λQ=>Ut S i1 q H Q X) λv=>eg
  |_=>exact λe v=>eg e
end
section
variable{C:Cx}{st:St}{s:Shared}{r:AV}{n:Nat}
def pO:typeLookup (.type "dict") "__getitem__" =pure (some<|.builtin "dict.__getitem__"):=slot_dict_getitem.lookup
section
variable{ws:List Value}
def IZ(D:eT C.w g s.heap U ws)(N:VR C.w g s.heap b O)(e:Q2 U b=r){P:Value->Prop}(k:∀(j:Nat) t v,(j:Int)<2^62->ws[j]? =some v->VR C.w g s.heap r v->P (.int j t)):P O:=
 dj e λn Q e=>jq e (λL e=>vq Q N λt=>by have h:=fG.mp L;obtain⟨v,H,M⟩:=D.get e;have:=k n.toNat t v (ey (kl<|js h.1)<|ey h.2<|by decide) H M;rwa [js h.1] at this) λX=>eg
def rN{j:Nat}(h:ws[j]? =some v):ws.toArray[j]? =v:=by refine(List.getElem?_toArray).trans ?_;exact h
def Um{j:Nat}(S:cH C g st s.heap)(D:s.heap.get? M=(gh ws H))(N:(j:Int)<2^62)(U:ws[j]? =some v)(O:VR C.w g s.heap r v):wpAny C.m A (getItem (.ref M)<|.int j t) (b7 C g s r st) eV s:=by refine getItem_tuple ⟨_,D,Y,_,Y⟩ (Int.neg_ofNat_le_natCast (2^63) j) (Int.lt_trans N<|by decide) ?_ (rN U)<|cC S O;delta seqIndex?;simp [Int.not_lt.mpr (dF j),((List.getElem?_eq_some_iff.mp U).1)]
def Un(f:A.in1.units<cLine)(S:cH C g st s.heap)(B:s.heap.get? q=(d6 c b))(P:lh C.w g s.heap L c)(Q:(L.map (·.1)).Nodup)(rk:xI g s.heap k j)(X:ed k L=true)(e:fP L k=r):
  wpAny C.m A (getItem (.ref q) j) (b7 C g s r st) eV s:=by
 induction k with
 |i k=>
  obtain⟨H,D,N⟩:=oU B P Q<|rq X;induction Aa k D with
  |no U O=>exact eg<|jn U e
  |yes y v U O M=>exact wpAny_getItem_of (zY rk) N.mapOf O<|cC S<|ak (U▸e)▸M
 |t ks=>
  obtain⟨x,p,l,o⟩:=qD rk;obtain⟨H,D,N⟩:=nO B P Q<|ub X;induction za ks D with
  |no U O=>exact eg<|jn U e
  |yes y a v U O M=>exact J p<|wpAny_getItem_heap f o N O<|cC S<|ak (U▸e)▸M
end
def PG(x:A.in1.units<cLine)(S:cH C g st s.heap)(c:VR C.w g s.heap a i)(B:VR C.w g s.heap b O)(e:subQ st a b=r):CP C A s i O (b7 C g s r st):=by
 have N:=jV S c
 revert e N
 delta subQ;induction vw st a with
 |L f=>exact λe q=>by obtain⟨Q,p,y,H,U,M⟩:=q;exact H▸IZ M B e (P:=λO=>CP C A s (.ref Q) O<|b7 C g s r st) λj t v o N X=>
   ⟨"list",_,list_getitem_lookup,⟨_,U,Y⟩,wpAny_getItem_list ⟨_,U,Y,_,Y⟩ (dF j) (by lia) (rN N)<|cC S X⟩
 |T f=>exact λe q=>by obtain⟨Q,p,y,H,i1,U,M⟩:=q;exact H▸IZ M B e (P:=λO=>CP C A s (.ref Q) O<|b7 C g s r st) λj t v o N X=>
   ⟨"tuple",_,slot_tuple_getitem.lookup,⟨_,U,Y⟩,Um S U o N X⟩
 |D es=>exact fun e q=>by obtain⟨Q,ds,y,H,U,M,l⟩:=q;exact H▸dj e fun k n e=>jq e (fun h e=>⟨"dict",_,pO,⟨_,U,Y⟩,Un x S U M l (mW n B) h e⟩) fun u9=>eg
 |_=>exact eg
inductive pS(C:Cx)(g:Gh)(s:Shared)(st':St)(s':Shared):Prop
 |mk (g') (S:cH C g' st' s'.heap) (X:fg g.mu.length nx g s g' s')
def yg(S:cH C g st s.heap)(H:g.ro<=n)(D:g.mu[n]? =some p)(M:x=p.1\/x=p.2)(N:Heap.SameBut x s.heap O)(L:gV O x)
  (P:CR C.w g O c p):pS C g s (st.set n c) {s with heap:=O,toks:=t}:=
 ⟨g,S.upd D M (λb U=>N.2 b U) P,MS S.iJ H D M (λb U=>N.2 b U) L⟩
def fR(S:cH C g st s.heap)(N:g.mu[n]? =some p)(O:x=p.1\/x=p.2)(M:Heap.SameBut x s.heap D):Keeps g s.heap g D:=
 ⟨λU x=>x,λa o i e=>(M.2 a λq=>S.lg x ⟨p,aN N,O⟩<|jn q i).trans e,λU U e=>e⟩
inductive Xm{β:Type}(g:Gh)(h:Heap)(n:Nat)(o:List β->Nat->Obj)(R:List β->Prop)(va:Value):Prop
 |mk (p vs k) (hp:g.mu[n]? =some p) (e:va=.ref p.1) (p2:p.2=p.1) (ho:h.get? p.1=some (o vs k)) (r:R vs)
def TH.at{h}{c}(S:cH C g st h)(N:VR C.w g h (.ref n) M)(e:st[n]? =some c){P:Prop}(k:∀p,g.mu[n]? =some p->M=.ref p.1->CR C.w g h c p->P):P:=by obtain⟨p,O,D⟩:=N;obtain⟨L,U,H⟩:=S.cells.get e;exact k p O D<|ak (U.symm.trans O)▸H
def vQ(S:cH C g st s.heap)(N:VR C.w g s.heap (.ref n) va)(e:st[n]? =some (.L U)):Xm g s.heap n du (eT C.w g s.heap U) va:=
 TH.at S N e λp D Q q=>by obtain⟨P,O,k,H,M⟩:=q;exact⟨p,O,k,D,Q,P,H,M⟩
def Cu(S:cH C g st s.heap)(N:VR C.w g s.heap (.ref n) va)(e:st[n]? =some (.D U)):Xm g s.heap n d6 (λX=>lh C.w g s.heap U X/\(U.map (·.1)).Nodup) va:=
 TH.at S N e λp H Q q=>by obtain⟨P,O,k,L,M⟩:=q;exact⟨p,O,k,H,Q,P,L,M⟩
def nD(h:LM a=n):a=.ref n:=by cases a<;>first|exact eg h|exact congrArg _<|ak h
def y5(h:GZ c=some U):c=.L U:=by induction c<;>first|exact eg h|exact congrArg _<|ak h
def uw(h:Pm c=some U):c=.D U:=by induction c<;>first|exact eg h|exact congrArg _<|ak h
def JW(S:cH C g st s.heap)(O:VR C.w g s.heap a U)(e:xD GZ st a=some p):Xm g s.heap p.1 du (eT C.w g s.heap p.2) U:=
 dj e λn D e=>dj e λc N e=>dj e λH M e=>ak e▸vQ S (jn (nD D) O) (jn (y5 M) N)
def V0(S:cH C g st s.heap)(O:VR C.w g s.heap a U)(e:xD Pm st a=some p):Xm g s.heap p.1 d6 (λH=>lh C.w g s.heap p.2 H/\(p.2.map (·.1)).Nodup) U:=
 dj e λn D e=>dj e λc N e=>dj e λL M e=>ak e▸Cu S (jn (nD D) O) (jn (uw M) N)
def R5(e:xD Pm st a=some p):vw st a=.D p.2:=
 dj e λn M e=>dj e λc U e=>dj e λN O e=>by refine J (nD M) ?_;rw [uw O] at U;refine(ak e)▸(?_:OR st[n]? =_);exact J U Y
def tK{h:Heap}{l}{U ws}{k}(M:h.get? l=(du U k)) f(e:f U.toArray=ws.toArray):∃O,(h.update l<|Obj.mapSeq f).get? l=(du ws O):=by have:=get?_update_seq M f;exact⟨_,(e▸this)⟩
def append_at{E}(M:s.heap.get? l=(du U k))(D:U.length<lim)
  (h:∀N O,N.get? l=some (du (U++[x]) O)->Heap.SameBut l s.heap N->Q .none {s with heap:=N}):wpAny C.m A (call (.builtin "list.append") [.ref l,x]) Q E s:=bQ (tK M (fun y=>y.push x)<|by simp) fun O H=>jI slot_list_append ⟨_,M,Y⟩ entry_list_append (args_list_append ..) (AutoListH.list_append_list_val_0 l U.toArray k x<|J bF<|iN<|bx D) ⟨M,h _ O H<|dJ ..⟩
def pop_at{E}(N:s.heap.get? l=(du U k))(L:U.length<=lim)(H:U.getLast? =some x)
  (h:∀D M,D.get? l=some (du U.dropLast M)->Heap.SameBut l s.heap D->Q x {s with heap:=D}):wpAny C.m A (call (.builtin "list.pop") [.ref l]) Q E s:=by
 refine(tK N (λy=>y.eraseIdxIfInBounds<|(List.toArray U).size-1)<|J (List.eraseIdxIfInBounds_toArray ..)<|congrArg _ List.eraseIdx_length_sub_one).elim λM P=>?_
 have O:(List.toArray U)[(List.toArray U).size-1]? =x:=by rw [List.getLast?_eq_getElem?] at H;simpa using H
 exact jI PySem.F.slot_list_pop ⟨_,N,Y⟩ PySem.F.entry_list_pop (PySem.F.args_list_pop_1 _) (PySem.MeetsSeq.list_pop_last l U.toArray k x O<|J bF<|iN L) ⟨N,h _ M P<|dJ ..⟩
def FL{O U}{k k2}{Q}{E}(H:s.heap.get? l=(du O k))(D:s.heap.get? X=(du U k2))(N:O.length+U.length<=lim)
  (h:∀P M,P.get? l=some (du (O++U) M)->Heap.SameBut l s.heap P->Q .none {s with heap:=P}):wpAny C.m A (call (.builtin "list.extend") [.ref l,.ref X]) Q E s:=by
 have L:¬((!(List.toArray O).isEmpty&&Builtin.List.listTooLong ((List.toArray O).size+(List.toArray U).size))=true):=by
  have:Builtin.List.listTooLong ((List.toArray O).size+(List.toArray U).size)=false:=by simp [Builtin.List.listTooLong];exact(iN N)
  refine J this ?_;lia
 obtain⟨M,B⟩:=tK (ws:=O++U) H (λy=>y++U.toArray) (by simp);exact jI PySem.F.slot_list_extend ⟨_,H,Y⟩ PySem.F.entry_list_extend (PySem.F.args_list_extend_2 ..)
  (AutoSeq1.list_extend_list_list_0 l O.toArray k X U.toArray k2 L (J bF<|Nat.le_of_add_right_le<|iN N)<|J bF<|Nat.le_add_right_of_le<|iN N) ⟨H,D,h _ M B<|dJ ..⟩
def PV{l}{M}{k}{i}{t}{x}{Q}{E}(U:s.heap.get? l=(du M k))(L:0<=i)(O:i<2^63)(P:i.toNat<M.length)
  (h:∀D N,D.get? l=some (du (M.set i.toNat x) N)->Heap.SameBut l s.heap D->Q () {s with heap:=D}):wpAny C.m A (setItem (.ref l) (.int i t) x) Q E s:=by
 delta setItem
 try with_reducible refine bD ?_
 refine ao<|wpAny_sequenceKey (⟨_,U,Y⟩) Y ?_;refine ao (wpAny_callSpecial?_slot (⟨_,U,Y⟩) slot_list_setitem
  (eX slot_list_setitem (⟨_,U,Y⟩) entry_list_setitem ?_<|args_list_setitem ..))
 show wpAny _ _ (Builtin.List.listSubscript? (.int i t)>>=_) _ _ s;refine ao<|wpAny_listSubscript_int (fitsIndex_of L O) ?_;obtain⟨j,rfl⟩:=Int.eq_ofNat_of_zero_le L;refine ao<|ao<|wpAny_seqItemAt U Y<|ay<|J (Array.getElem?_eq_getElem<|J bF P) ?_;obtain⟨N,H⟩:=tK (ws:=M.set j x) U (·.setIfInBounds j x) (by simp);refine ao<|wpAny_setSeqItemAt U Y ?_
 first
  |exact ao<|ay<|ay ⟨.none,Y,ay<|h _ N H<|dJ ..⟩
  |exact ay ⟨.none,Y,ay<|h _ N H<|dJ ..⟩
end
section
variable{C:Cx}{st:St}{s:Shared}{U:St}
def nY(h:pS C g s mf O)(M:∀g',Keeps g s.heap g' O.heap->VR C.w g' O.heap r v)(S:cH C g st s.heap):b7 C g s r mf v O:=by obtain⟨g',N,x⟩:=h;exact⟨g',N,x,M g'<|x.vh S λD h=>h.elim⟩
section
variable{p:Addr×Addr}
def q6(B:g.ro=P)(S:cH C g st s.heap)(j:P<=n)(A:g.mu[n]? =p)(Q:p.2=p.1)(X:Heap.SameBut p.1 s.heap O)(M:O.get? p.1=(du D k))(H:eT C.w g O N D):pS C g s (st.set n<|.L N) {s with heap:=O}:=
 yg S (J B j) A (.inl Y) X ⟨_,M⟩ ⟨Q,_,k,M,H⟩
end
def Gs(v:g.ro=ro)(S:cH C g st s.heap)(B:VR C.w g s.heap a P)(X:VR C.w g s.heap b L)(e:H9 ro st a b .append=(r,U)):
  wpAny C.m A (call (.builtin "list.append") [P,L]) (b7 C g s r U) eV s:=
 dj e λp f e=>lT e λH e=>b7.wp e<|by obtain⟨q,i,k,M,o,j,y,D⟩:=JW S B f;exact J o<|append_at y (jn D.length<|aB (a8 H).1) λt c N O=>nY (q6 v S (aB (a8 H).2) M j O N<|(D.mono<|fR S M (.inl Y) O).append ⟨_,[],Y,X.mono<|fR S M (.inl Y) O,Y⟩) (λQ Q=>rfl) S
def P8(o:g.ro=ro)(S:cH C g st s.heap)(X:VR C.w g s.heap a P)(e:U2 ro st a .pop=(r,U)):
  wpAny C.m A (call (.builtin "list.pop") [P]) (b7 C g s r U) eV s:=
 dj e λp c e=>jq e (λH e=>dj e λx L e=>b7.wp (ak e)<|by obtain⟨q,b,k,D,i,j,f,O⟩:=JW S X c;rw [List.getLast?_eq_getElem?] at L;refine(O.get L).elim λv B=>B.elim λy Q=>J i<|pop_at f (O.length▸aB (a8 H).1) (List.getLast?_eq_getElem? ▸O.length▸y) λn l M N=>?_;refine nY (q6 o S (aB (a8 H).2) D j N M ?_) (λh=>Q.mono) S;simp only [List.dropLast_eq_take];exact jn O.length<|(O.mono<|fR S D (.inl Y) N).take _) λt e=>eg e
def FK(f:g.ro=ro)(S:cH C g st s.heap)(v:VR C.w g s.heap a B)(q:VR C.w g s.heap b X)(e:H9 ro st a b .extend=(r,U)):
  wpAny C.m A (call (.builtin "list.extend") [B,X]) (b7 C g s r U) eV s:=
 dj e λp l e=>by
  have o:=jV S q
  revert e o
  induction vw st b with
  |L n=>exact λe ⟨l2,x,k2,t,D,O⟩=>lT e λQ e=>b7.wp e<|J t (by obtain⟨p,h,k,N,c,y,i,P⟩:=(JW S v l);exact J c<|FL i D (jn P.length<|jn O.length<|aB (a8 Q).1) λh' k' H M=>nY (q6 f S (aB (a8 Q).2) N y M H<|(P.mono<|fR S N (.inl Y) M).append<|O.mono<|fR S N (.inl Y) M) (λj j=>rfl) S)
  |_=>exact eg
def Q7(hu:A.in1.units<cLine)(S:cH C g st s.heap)(f:VR C.w g s.heap a va)(o:VR C.w g s.heap b vb)(rc:VR C.w g s.heap c L)(e:Mc ro st a b c .get=(r,U)):
  wpAny C.m A (call (.builtin "dict.get") [va,vb,L]) (b7 C g s r U) eV s:=by
 have O:=λ{j}=>nT (es:=j) S f;have hv:=jV S f
 revert e hv O
 dsimp only [Mc];induction vw st a with
 |D j=>exact λe O ⟨n,ds,n1,q,H,p,l⟩=>dj e λk h e=>lT e λhh e=>b7.wp e (J q (by
   clear e;clear e;induction k with
   |i k=>
    obtain⟨B,X,Q⟩:=oU H p l<|rq hh;refine call_meetsIn F.slot_dict_get (⟨_,H,Y⟩) F.entry_dict_get (F.args_dict_get_3 ..) (meets_dict_get_default (intKind C.prog C.w) n (zY<|mW h o) (O Y _ q) L) ⟨_,Q.mapOf,?_⟩;induction Aa k X with
    |no N M=>exact N▸M▸cC S rc
    |yes y v N M P=>exact N▸J M (cC S P)
   |t ks=>
    obtain⟨x,e2,ix,ik⟩:=qD<|mW h o;obtain⟨B,X,Q⟩:=nO H p l<|ub hh;refine J e2<|call_meetsIn F.slot_dict_get (⟨_,H,Y⟩) F.entry_dict_get (F.args_dict_get_3 ..) (meetsH_dict_get_default (kX C.prog C.w) n x (O Y _ q) L) ⟨hu,_,_,ik,Q,?_⟩;induction za ks X with
    |no N M=>exact N▸M▸cC S rc
    |yes y dd v N M P=>exact N▸M▸cC S P))
 |_=>exact eg
theorem wj.length{es}{O}(r:wj C.w g s.heap es O):es.length=O.length:=by have:=congrArg List.length<|I5 r;rwa [ag,ag] at this
theorem qc.length{es}{O}(r:qc C.w g s.heap es O):es.length=O.length:=(yy r).symm
inductive TN(C:Cx)(g:Gh)(s:Shared)(d:Addr)(es:List (KV×AV))(s':Shared):Prop
 |mk (h' t) (e:s'={s with heap:=h',toks:=t}) (hs:Heap.SameBut d s.heap h') (c:WD C.w g h' d es)
def TN.upd{d:Addr}{L}{H}{p}(B:g.ro=P)(S:cH C g st s.heap)(j:P<=n)(A:g.mu[n]? =some p)(Q:p.2=p.1)(x:TN C g s p.1 L H):pS C g s (st.set n<|.D L) H:=by obtain⟨v,t,e,X,w,q,O,M,N⟩:=x;exact J e<|yg S (J B j) A (.inl Y) X ⟨_,O⟩ ⟨Q,_,_,O,M,N⟩
structure Kj(C:Cx)(A:Around)(s:Shared)(d:Addr)(vb:Value)(op:Value->Sem Unit):Prop where
 i:∀{kvs:List (Int×Value)} {k:Int} {va:Value} {Q:Unit->Shared->Prop},(intKind C.prog C.w).is k va=true->s.heap.DictOf (intKind C.prog C.w) d kvs->(∀h' t,h'.DictOf (intKind C.prog C.w) d (stored kvs k vb)->Heap.SameBut d s.heap h'->Q () {s with heap:=h',toks:=t})->
  kvs.length<=sizeLine->wpAny C.m A (op va) Q eV s
 t:∀{xs:List (List KA×Addr×Value)} {k:List KA} {a:Addr} {Q:Unit->Shared->Prop},(kX C.prog C.w).is s.heap k a->s.heap.DictOfH (kX C.prog C.w) d xs->(∀h' t,h'.DictOfH (kX C.prog C.w) d (storedH xs k a vb)->Heap.SameBut d s.heap h'->Q () {s with heap:=h',toks:=t})->
  xs.length<=sizeLine->wpAny C.m A (op<|.ref a) Q eV s
def EX(L:A.in1.units<cLine) d D:Kj C A s d D (λH=>setItem (.ref d) H D):=⟨λM O k z=>wpAny_setItem_pairs M O (λN=>k N _) z,λM O k z=>wpAny_setItem_heap L M O (λN=>k N _) z⟩
def xx(L:A.units<cLine) d D:Kj C A s d D (λH=>dictSet d H D):=⟨λM O k z=>wpAny_dictSet_pairs M O (λN=>k N _) z,λM O k z=>wpAny_dictSet_heap L M O (λN=>k N _) z⟩
def yM(O:Kj C A s d r op)(H:∀{N},Heap.SameBut d s.heap N->Keeps g s.heap g N)(o:s.heap.get? d=(d6 l h))(j:lh C.w g s.heap L l)
  (v:(L.map (·.1)).Nodup) (f:ed X L=true) (y:L.length<lim) (rk:xI g s.heap X va) (q:VR C.w g s.heap b r):wpAny C.m A (op va) (λa p=>TN C g s d (dput L X b) p) eV s:=by
 induction X with
 |i n=>obtain⟨Q,D,P⟩:=oU o j v<|rq f;exact O.i (zY rk) P (λN t B M=>⟨N,t,Y,M,zA B<|Of (q.mono<|H M)<|D.mono<|H M⟩)<|jn D.length<|iN<|bx y
 |t ks=>obtain⟨x,e,U,c⟩:=qD rk;obtain⟨Q,D,P⟩:=nO o j v<|ub f;rw [e] at rk⊢;exact O.t c P (λN t B M=>⟨N,t,Y,M,HW B<|Ue (rk.mono (H M).ke) (q.mono<|H M)<|D.mono<|H M⟩)<|jn D.length<|iN<|bx y
def lH(h:(x&&y&&z)=true):x=true/\y=true/\z=true:=⟨(a8 (a8 h).1).1,(a8 (a8 h).1).2,(a8 h).2⟩
def wz(hr:g.ro=ro)(S:cH C g st s.heap)(X:VR C.w g s.heap a x)(rb:VR C.w g s.heap b n)(rc:VR C.w g s.heap c P)(e:Mc ro st a b c .eG=(r,U)):
  wpAny C.m A (call (.builtin "dict.setdefault") [x,n,P]) (b7 C g s r U) eV s:=
 dj e λp l e=>dj e λk e2 e=>lT e λL e=>b7.wp e<|by
  obtain⟨q,ds,n1,o,i,p2,f,r1,nd⟩:=V0 S X l;exact(vp e2 rb).elim λt ht=>i▸ht▸by
    obtain⟨D,N,q2⟩:=oU f r1 nd<|rq<|(lH L).1;refine call_meetsIn F.slot_dict_setdefault ⟨_,f,Y⟩ F.entry_dict_setdefault (F.args_dict_setdefault_3 ..) (kt_meets_setdefault (intKind C.prog C.w) q.1 (zY (g:=g) (h:=s.heap) ⟨t,Y⟩) ((nT S X<|R5 l) _ i) P) ⟨D,q2,jn N.length<|iN<|bx<|aB (lH L).2.1,λv B=>?_,λH h' hd j=>?_⟩
    .induction Aa k N with
     |no M O=>exact eg<|O▸B
     |yes y v' M O Q=>exact M▸(ak<|O▸B)▸cC S Q
    .induction Aa k N with
     |no M O=>refine J M ?_;have K:=fR S o (.inl Y) j;exact nY (TN.upd (d:=q.1) hr S (aB (lH L).2.2) o p2 ⟨h',_,Y,j,zA hd<|Of (rc.mono K)<|N.mono K⟩) (λg'=>rc.mono) S
     |yes y v' M O Q=>exact eg (O▸H).symm
def IX(hu:A.units+dp+30<cLine)(S:cH C g st s.heap)(x:VR C.w g s.heap a t)(n:VR C.w g s.heap b f)(e:H9 ro st a b .index=(r,U)):
  wpAny C.m A (call (.builtin "list.index") [t,f]) (b7 C g s r U) eV s:=by
 have H:=jV S x
 revert e H
 dsimp only [H9];induction vw st a with
 |L q=>exact λe ⟨l1,o,h,e1,i,D⟩=>jq e (λX e=>dj e λj e2 e=>b7.wp (ak e) (J e1 (by
   refine bQ (List.findIdx?_eq_some_iff_getElem.mp e2) λP B=>And.elim (λM Q=>?_) B
   have O:∀m hm (p:m<q.length),z6 C g s.heap b o[m]=decide (q[m]=b):=λm hm p=>by refine bQ (D.get<|aW p) λv B=>And.elim (λH l=>?_) B;rw [aW hm] at H;exact J (ak H) (vo ((lH X).2).1 (nZ ((lH X).2).2<|eZ _) l)
   refine jI PySem.F.slot_list_index ⟨_,i,Y⟩ PySem.F.entry_list_index (PySem.F.args_list_index_2 ..)
    (list_indexAt l1 o.toArray h none #[] f (z6 C g s.heap b) j (J bF<|D.length▸P) (by have:lim=1000000:=rfl;lia) ((O j (D.length▸P) P).trans M) λm hm N=>(O m hm<|eQ N P).trans<|Bool.eq_false_iff.mpr<|Q m N)
    ⟨i,λy hy=>BP (by show A.units+1+dp<_;exact lq [_] [aH (.s<|.a (.a ax<|.c 300)<|.c 30) (.c 9900)] (.s<|.a (.s ax)<|.c 300) (.c 9900) Y hu) ((lH X).2) n D<|List.mem_toArray.mp hy,cC S ⟨_,Y⟩⟩))) λu9 e=>eg e
 |_=>exact eg
def Hg(hu:A.in1.units<cLine)(hr:g.ro=ro)(S:cH C g st s.heap)(j:VR C.w g s.heap a p)(l:VR C.w g s.heap b X)(rc:VR C.w g s.heap c B)(e:Lj ro st a b c=U):
  wpAny C.m A (setItem p X B) (λH s'=>pS C g s U s') eV s:=
 dj e λn e1 e=>dj e λcl e2 e=>by
  rw [nD e1] at j;induction cl with
  |L xs=>obtain⟨q,vs,k,N,r,v,o,i⟩:=vQ S j e2;exact r▸dj e λk f e=>lT e λM e=>vq f l (P:=λX=>wpAny C.m A (setItem (.ref q.1) X B) (λH=>pS C g s U) eV s) λt=>jn e<|PV o (fG.mp (lH (a8 M).1).1).1 (ey (fG.mp (lH (a8 M).1).1).2<|by decide) (jn i.length<|aB (lH (a8 M).1).2.1) λh' k' y Q=>q6 hr S (aB (a8 M).2) N v Q y<|eT.set (rc.mono<|fR S N (.inl Y) Q) _<|i.mono<|fR S N (.inl Y) Q
  |D es=>obtain⟨q,ds,k,N,r,v,o,re,nd⟩:=Cu S j e2;exact r▸dj e λk f e=>lT e λM e=>jn e<|aY (yM (va:=X) (EX hu q.1 B) (λQ=>fR S N (.inl Y) Q) o re nd (lH M).1 (aB (lH M).2.1) (mW f l) rc) (λH H x=>x.upd (d:=q.1) hr S (aB (lH M).2.2) N v) λH H h=>h
  |O _ _=>exact eg e
end
noncomputable def Fg:List Str:=["symbol_count", "is_terminal", "number", "rules_of", "told", "is_leaf"]
def jZ(n:Nat):Str:=Fg.getD n "__none__"
structure TM(K:Frag):Prop where
 YJ:∀c f,m9 c f=true->plainGet K c "" =true/\hasDictIn K c=true/\findIn K (.ref c) (attrName f)=some none/\findIn K (.ref c) "__setattr__" =some (some<|.builtin "object.__setattr__")/\plainOver K c=true
 Zl:∀c n f,TB.u1 c n=some f->plainGet K c "" =true/\n<6/\findIn K (.ref c) (jZ n)=some (some<|.ref f)/\isFn K (.ref f)=true
def vW(h:m9 c f=true):f<25:=by have L:∀{n:Nat},Nat.ble n 25=true->decide (f<n)=true->f<25:=λq h=>aJ (aB h)<|bC q;exact jq h (λU=>L Y) λU h=>jq h (λU h=>L Y (a8 h).2) λU h=>jq h (λU h=>L Y (a8 h).2) λU h=>jq h (λU h=>L Y (a8 h).2) λU h=>jq h (λU h=>L Y (a8 h).2) λU=>nb
def AI:∀k,k<25->∀f,f<25->attrName k=attrName f->k=f:=by decide
def tB(h:25<=k):attrName k=Str.empty:=by delta attrName;have:xF[k]? =none:=cO h;simp [List.getD,this]
def AH:∀f,f<25->attrName f≠Str.empty:=by decide
def rM(U:f<25)(e:attrName k=attrName f):k=f:=if h:k<25 then AI k h f U e else(AH f U ((tB<|c9 h)▸e).symm).elim
def u0:∀n,n<6->∀k,k<25->attrName k=jZ n->k=Eu n:=by decide
def zN:∀n,n<6->jZ n≠Str.empty:=by decide
def BO(U:n<6)(e:attrName k=jZ n):k=Eu n:=if h:k<25 then u0 n U k h e else(zN n U ((tB<|c9 h)▸e).symm).elim
section
variable{C:Cx}{U:St}{s:Shared}{r:AV}{st':St}
def isStr_of{n}:(Value.str x t).isStr n=decide (n=x):=by
 by_cases h:n=x
 .subst h;exact rfl
 .have O:¬x=n:=λe=>h e.symm;simp [Value.isStr,h,O]
inductive FgR(R:Value->Prop)(m:Str)(ds:List DictEntry):Prop
 |mk (e) (h:ds.find? (·.key.isStr m)=some e) (r:R e.val)
def find_key{O:List DictEntry}(M:e.key=.str k t):(e::O).find? (·.key.isStr m)=if m=k then some e else O.find? (·.key.isStr m):=by simp only [List.find?_cons,M,isStr_of];exact if h:m=k then bV (au h) (aq h) Y else bV (az h) (aF h) Y
def MM(L:f<25):∀{M} {a},qE w g h O M->O.lookup f=some a->FgR (VR w g h a) (attrName f) M:=by
 induction O with
 |nil=>exact λA=>eg
 |cons p O H=>
  intro M a ⟨e,j,B,⟨t,N⟩,D,rr⟩ q;rw [dA] at q;refine J B ?_;induction hkf:f==p.1 with
  |true=>rw [hkf] at q;exact⟨e,J (find_key N)<|au<|jn (eq_of_beq hkf) Y,ak q▸D⟩
  |false=>rw [hkf] at q;obtain⟨X,Q,P⟩:=H rr q;exact⟨X,by refine J (find_key N)<|J (az λe=>beq_eq_false_iff_ne.mp hkf (rM L e.symm).symm) ?_;exact Q,P⟩
def vy:∀{O},qE w g h M O->O.any (·.refKey)=false:=by
 induction M with
 |nil=>exact λr=>J r Y
 |cons p M N=>intro O ⟨e,P,H,⟨t,D⟩,L,rr⟩;refine J H<|List.any_cons.trans<|J (N rr) ?_;rw [DictEntry.refKey];exact J D Y
def Rc:∀{M},qE w g h O M->(∀e∈O,attrName e.1≠m)->M.find? (·.key.isStr m)=none:=by
 induction O with
 |nil=>exact λr L=>J r Y
 |cons p O N=>intro M ⟨e,Q,H,⟨t,D⟩,P,rr⟩ q;exact J H<|J (find_key D)<|J (az λe=>q _ (.head _) e.symm)<|N rr λe m=>q e<|.tail _ m
def FD(r:VR w g h a v):handedIn v=true:=by
 cases a
 .subst r;rfl
 .exact J r Y
 .obtain⟨_,rfl⟩:=r;rfl
 .obtain⟨_,rfl⟩:=r;rfl
 .obtain⟨_,_,_,rfl,_⟩:=r;rfl
 .obtain⟨_,_,_,rfl,_⟩:=r;rfl
 .obtain⟨_,_,_,rfl,_⟩:=r;rfl
 .obtain⟨_,_,_,_,rfl,_⟩:=r;rfl
 .obtain⟨_,_,_,_,rfl,_⟩:=r;rfl
 .obtain⟨_,_,rfl⟩:=r;rfl
def instAt_of{c}(M:h.get? x=some (oO c d))(O:h.get? d=some (d6 N n)):InstAt h x (oO c d) c (PySem.W.dictOf N n):=
 ⟨M,Y,Y,O⟩
set_option tactic.hygienic true in
def Sn{K}(X:K.In C.B)(p:TM K)(S:cH C g U s.heap)(L:VR C.w g s.heap a H)(e:og U a f=r):
  wpAny C.m A (getAttr H (attrName f) expr) (b7 C g s r U) eV s:=by
 have Q:=jV S L
 revert e Q
 delta og;induction vw U a with
 |O c h=>exact λe o=>jq e (λM e=>by induction o;rename_i x d ds n y v j rf;obtain⟨P,k2,k3,l,t⟩:=p.YJ c f M;obtain⟨en,N,D⟩:=MM (vW M) rf e;exact J y<|get_value (X.keeps λb o q=>(S.base b o q).1) (instAt_of v j) (plainGet_of P).1 (findObj_own k2 k3 Y (by simp only [lookIn_dict];delta getL;exact J N Y)) (FD D)<|cC S D) λi=>eg
 |_=>exact eg
def Me{K:Frag}(X:K.In C.B)(l:TM K)(S:cH C g U s.heap)(L:VR C.w g s.heap a N){c:Nat}{H:List (Nat×AV)}(i:vw U a=.O c H)(r:H.all (λe=>decide<|e.1≠Eu m)=true)(e:TB.u1 c m=some f)
  {pl:Sem Bool} {Q:Value×List Value->Shared->Prop} (h:Q (.ref f,[N]) s):wpAny C.m A (getMethod N (jZ m) pl) Q eV s:=by
 obtain⟨x,d,t,n,p,y,v,rf⟩:=Xw S L i;obtain⟨D,k2,k3,P⟩:=l.Zl c m f e;rw [p] at h⊢;refine method_fn (X.keeps λb o q=>(S.base b o q).1) (instAt_of y v) (plainGet_of D).1 (plainGet_of D).2 k3 (beq_iff_eq.mp P) ?_ h;show(lookIn (jZ m)<|PySem.W.dictOf t n).map _=_;simp only [lookIn_dict];delta getL;exact bV (Rc rf λe j M=>aB (aT r e j)<|BO k2 M) (vy rf) Y
def Qc{K}{c}(X:K.In s.heap)(H:s.heap.get? x=(oO c d))(M:s.heap.get? d=(d6 O n))
  (j:plainOver K c=true) (Q:takerIn K c name=some none) (q:hasDictIn K c=true) (B:O.any (·.refKey)=false) (P:(putL name (PyData.keyHash C.w.params name) (.str name s.toks) v O).length<=1000)
  (h:∀D,D.get? d=some (d6 (putL name (PyData.keyHash C.w.params name) (.str name s.toks) v O)<|putN name O n)->Heap.SameBut d s.heap D->R (.ok<|.ret .none) {s with heap:=D,toks:=s.toks+1}):
  codeAny C.m A (.call (.builtin "object.__setattr__") ⟨[.ref x,.str name tk,v],[]⟩) R s:=by
 refine osa_open X (instAt_of H M) j Q λb=>?_;obtain⟨f,y,N⟩:=any_some q;have e:Obj.putName name (PyData.keyHash C.w.params name) (.str name s.toks) v (d6 O n)=d6 (putL name (PyData.keyHash C.w.params name) (.str name s.toks) v O) (putN name O n):=putName_dict name _ _ v O n;have L:(s.heap.update d<|Obj.putName name (PyData.keyHash C.w.params name) (.str name s.toks) v).get? d=(d6 (putL name (PyData.keyHash C.w.params name) (.str name s.toks) v O)<|putN name O n):=jn e<|Heap.get?_update_self _ M<|congrArg _ e;refine ao<|ay<|ao<|ao<|wpAny_loadPart H<|ao<|(looks_clsIn X y).here<|J N<|ay<|ao<|ay<|ao<|ao<|ao<|wpAny_askSetting<|ay<|ao<|wpAny_mkText<|ao<|wpAny_loadPart M ?_;show wpAny _ _ (if aRefKeyMayBeTheName name O.toArray=true then _ else _) ..
 have o:(!(List.toArray O).any (·.key.isStr name)&&(List.toArray O).any (·.refKey))=false:=by have:(List.toArray O).any (·.refKey)=false:=jn B<|jn Array.any_toList Y;simp only [this,km]
 exact J (aRefKeyMayBeTheName_at ..)<|J o<|wpAny_updatePart M<|ao<|wpAny_lookBehind L (pastItsLine_dict<|bV bF sizeLine_eq<|lq [_] [aH ax (.c 1000)] ax (.c 16777217) Y P)<|ay<|h _ L<|dJ ..
def HI name N(key v) O:(putL name N key v O).length<=O.length+1:=O.rec (aS 1) λe r M=>by
  simp only [putL];split
  .exact b0 _
  .exact bq M
set_option tactic.hygienic true in
def Ca:∀{M},qE w g h O M->O.length=M.length:=by
 induction O with
 |nil=>exact λr=>J r Y
 |cons p O N=>exact λq=>by induction q;rename_i e H D _ _ rr;exact J D<|congrArg Nat.succ<|N rr
def ML{w}{h}{f}{b}{P}{t}{v}(Q:f<25)(N:VR w g h b v){O}:∀{M},qE w g h O M->qE w g h (ng O f b) (putL (attrName f) P (.str (attrName f) t) v M):=by
 induction O with
 |nil=>exact λr=>J r ⟨_,[],Y,⟨t,Y⟩,N,Y⟩
 |cons p O L=>intro M ⟨e,B,X,⟨u,D⟩,H,rr⟩;refine J X ?_;unfold putL ng;exact J D<|J isStr_of (if q:p.1=f then J (au q) (J q<|J (au<|aq Y) ⟨_,_,Y,⟨u,by rfl⟩,N,rr⟩)else J (az q) (J (az<|by exact J cy λe=>q<|rM Q e.symm) ⟨_,_,Y,⟨u,D⟩,H,L rr⟩))
def PJ{K}(X:K.In C.B)(KO:TM K)(a:g.ro=t)(S:cH C g U s.heap){c}{p}(P:g.mu[n]? =some p)(r:CR C.w g s.heap (.O c j) p)(l:VR C.w g s.heap b y)
  (H:j.length<100/\t<=n/\m9 c f=true):wpAny C.m A (setAttr (.ref p.1) (attrName f) y) (λu9 i=>pS C g s (U.set n<|.O c<|ng j f b) i) eV s:=by
 obtain⟨L,h,k,Q,rf⟩:=r;have v:=X.keeps λb o q=>(S.base b o q).1;refine(KO.YJ c f H.2.2).elim λk1 M=>M.elim λk2 M=>M.elim λk3 M=>M.elim λx e=>set_plain v (instAt_of L Q) x (Qc v L Q e (by delta takerIn;exact eY (congrArg _ k3) _) k2 (vy rf)
  (aa (HI _ _ _ _ h)<|jn (Ca rf)<|lq [_] [aH (.s ax) (.c 100)] (.s ax) (.c 1000) Y H.1) λh' N D=>?_)
 refine yg S (J a H.2.1) P (.inr Y) D ⟨_,N⟩ ⟨(D.2 p.1 λq=>?_).trans L,_,_,N,ML (vW H.2.2) (l.mono<|fR S P (.inr Y) D)<|rf.mono<|fR S P (.inr Y) D⟩;exact absurd (congrArg (λo=>o.map Obj.data)<|(q▸L).symm.trans Q)<|by simp [oO,d6]
def PI{K}(X:K.In C.B)(t:TM K)(j:g.ro=P)(S:cH C g U s.heap)(N:VR C.w g s.heap a H)(Q:VR C.w g s.heap b D){f}(e:Lo P U a f b=st'):
  wpAny C.m A (setAttr H (attrName f) D) (λl L=>pS C g s st' L) eV s:=
 dj e λn o e=>dj e λcl y e=>by
  rw [nD o] at N;induction cl with
  |O c x=>exact lT e λM e=>TH.at S N y λp q v i=>J v<|jn e<|PJ X t j S q i Q ⟨aB (lH M).1,aB (lH M).2.1,(lH M).2.2⟩
  |_=>exact eg e
end
def Fa(env:Env)(a:Addr):Prop:=a=env.locals\/∃p∈env.cells,a=p.2
structure Z6(nm:List Str)(own:List Nat)(W:Addr->Prop)(env:Env):Prop where
 kind:env.scope.kind=.function
 glob:env.globals=mainGlobals
 blt:env.builtins=builtinsNs
 fW:nm.Nodup
 wl:W env.locals
 wf:∀a,W a->Fa env a
 wc:∀i∈own,∀x,nm[i]? =some x->∀c,env.cells.lookup x=some c->W c
 YT:∀p∈env.cells,p.2≠env.locals
 YU:env.cells.Pairwise λx y=>x.2≠y.2
inductive ZO(w:World)(g:Gh)(h:Heap)(a:AV)(o:Option Value):Prop
 |mk (v) (e:o=some v) (r:VR w g h a v)
inductive ZZ(w:World)(g:Gh)(h:Heap)(nm:List Str)(env:Env)(ρ:En):Prop
 |mk (m) (hn:h.Ns env.locals m) (hv:∀(i:Nat) (x:Str) (a:AV),nm[i]? =some x->env.kindOf x=some .local->ρ[i]? =some (some a)->ZO w g h a (m x))
inductive WI(w:World)(g:Gh)(h:Heap)(l:Option Addr)(o:Option (Option AV)):Prop
 |mk (c ov) (e:l=some c) (i:h.IsCell c ov) (k:∀a,o=some (some a)->ZO w g h a ov)
structure jx(C:Cx)(g:Gh)(h:Heap)(nm:List Str)(own:List Nat)(W:Addr->Prop)(env:Env)(ρ:En):Prop where
 fs:Z6 nm own W env
 len:ρ.length=nm.length
 ns:ZZ C.w g h nm env ρ
 xD:∀(i:Nat) (x:Str),nm[i]? =some x->(env.kindOf x=some .cell\/env.kindOf x=some .free)->WI C.w g h (env.cells.lookup x) ρ[i]?
 out:∀a,Fa env a->fM g h a
section
variable{Z:St}{s:Shared}{a:AV}{U:List Str}{ρ:En}
def mem_lookup{l:List (Str×Addr)}{c}(h:l.lookup x=some c):(x,c)∈l:=mem_of_lookup h
def Fa.cell{c}(h:env.cells.lookup x=some c):Fa env c:=.inr ⟨(x,c),mem_lookup h,Y⟩
def Sub(w:World)(g:Gh)(h:Heap)(ρ:En)(D:Gh)(N:Heap)(O:En):Prop:=∀(i:Nat) (M:AV),O[i]? =some (some M)->∀{P:Prop},(∀a,ρ[i]? =some (some a)->(∀v,VR w g h a v->VR w D N M v)->P)->P
def Sub.same(K:Keeps g h M O):Sub w g h ρ M O ρ:=λ_ N e _ k=>k N e λ_ r=>r.mono K
def jx.move(F:jx C g h U own W env ρ)(j:M.length=ρ.length)(R:Sub C.w g h ρ B Q M)(keep:∀a o,Fa env a->h.get? a=some o->Q.get? a=some o)(out:∀a,Fa env a->fM B Q a):jx C B Q U own W env M where
 fs:=F.fs
 len:=j.trans F.len
 ns:=by obtain⟨m,P,L⟩:=F.ns;exact⟨m,P.at' λo e=>keep _ o (.inl Y) e,λi x X y q H=>R i X H λa D r=>by obtain⟨v,O,N⟩:=L i x a y q D;exact⟨v,O,r v N⟩⟩
 xD:=λi x P L=>by obtain⟨c,A,O,⟨o,N,p⟩,f⟩:=F.xD i x P L;exact⟨c,A,O,⟨o,keep _ o (Fa.cell O) N,p⟩,λX H=>R i X H λa D r=>by obtain⟨v,O,N⟩:=f a D;exact⟨v,O,r v N⟩⟩
 out:=out
def fM.qr{a}(o:fM g s.heap a)(x:fg O W g s N M):fM N M.heap a:=by refine⟨λi=>(x.new a o.live i).elim o.fA λq=>o.mu<|iA q,λm=>?_,x.live a o.live,o.one⟩;exact((eB _ O a).mp m).elim (λq=>o.mu<|(eB _ O a).mpr<|.inl<|jn x.mu q) λq=>o.mu<|iA<|x.own a o.live q
theorem jx.qr(F:jx C g s.heap U own W env ρ)(S:cH C g Z s.heap)(x:fg H L g s D M)(N:H=g.mu.length)(O:∀a,L a->¬g.fA a/\¬Fa env a):jx C D M.heap U own W env ρ:=by replace x:=N▸x;exact F.move Y (Sub.same<|x.vh S λa h=>(O a h).1) (λa o h e=>x.keep a o e (λq=>(O a q).2 h) λq=>(F.out a h).mu<|iA q) λa h=>(F.out a h).qr x
def jx.wK(F:jx C g s.heap U own W env ρ)(S:cH C g Z s.heap)(x:fg g.mu.length nx g s M O):jx C M O.heap U own W env ρ:=F.qr S x Y λN h=>h.elim
def cH.frame{x:Addr}(S:cH C g Z h)(M:¬g.fA x)(H:¬ql g.mu x)(D:x≠1)(O:∀b,b≠x->L.get? b=h.get? b):cH C g Z L where
 base:=λa o e=>by
  have:a≠x:=λq=>by subst q;exact M<|(S.base a o e).2 D
  exact⟨(O a this).trans (S.base a o e).1,(S.base a o e).2⟩
 one:=S.one
 live:=λa i=>by obtain⟨o,e⟩:=S.live a i;exact⟨o,(O a λq=>M<|q▸i).trans e⟩
 cells:=S.cells.mono ⟨λN x=>x,λa o i e=>(O a λq=>M<|q▸i).trans e,λN N e=>e⟩ λa m=>O a λq=>H<|jn q m
 lg:=S.lg
 fW:=S.fW
 iJ:=S.iJ
def FN{x:Addr}(L:g.ro<=g.mu.length)(H:W x)(N:∀b,b≠x->D.get? b=s.heap.get? b)(P:gV D x):fg g.mu.length W g s g {s with heap:=D,toks:=t} where
 live:=λa ⟨o,e⟩=>if q:a=x then J q P else⟨o,(N a q).trans e⟩
 fA:=λO x=>x
 keep:=λa o e M O=>(N a λq=>M<|J q H).trans e
 len:=⟨aS _,aS _⟩
 ro:=rfl
 rl:=L
 mu:=rfl
 new:=λO O=>.inl
 own:=λO O x=>x
 gens:=rfl
 os:=rfl
inductive CL(C:Cx)(g:Gh)(s:Shared)(U:List Str)(own:List Nat)(W:Addr->Prop)(env:Env)(ρ':En)(Z:St)(s':Shared):Prop
 |mk (S:cH C g Z s'.heap) (X:fg g.mu.length W g s g s') (F:jx C g s'.heap U own W env ρ')
def sX(N:¬g.fA x)(M:∀b,b≠x->D.get? b=s.heap.get? b):Keeps g s.heap g D:=
 ⟨λO x=>x,λa o i e=>(M a λq=>N<|jn q i).trans e,λO O e=>e⟩
def uU{j:Nat}(O:U.Nodup)(P:U[i]? =some x)(L:U[j]? =some x):i=j:=by
 obtain⟨H,N⟩:=List.getElem?_eq_some_iff.mp P;obtain⟨D,M⟩:=List.getElem?_eq_some_iff.mp L;rw [gK,List.pairwise_iff_getElem] at O;rcases iV i j with h|h|h
 .exact(O i j H D h<|N.trans M.symm).elim
 .exact h
 .exact(O j i D H h<|M.trans N.symm).elim
def pf(e:nr x a ρ=some O):x<ρ.length/\ρ.set x a=O:=lT e λh e=>⟨h,e⟩
def qP(N:x<ρ.length)(h:(ρ.set x a)[i]? =some (some O)){P:Prop}(M:i=x->a=O->P)(k2:i≠x->ρ[i]? =some (some O)->P):P:=by
 by_cases q:i=x
 .rw [q,dW N] at h;exact M q<|ak<|ak h
 .rw [ew λe=>q e.symm] at h;exact k2 q h
def jx.wr(F:jx C g s.heap U own W env ρ)(S:cH C g Z s.heap){O:En}{t:Nat}(L:Fa env x)(P:W x)(N:∀b,b≠x->M.get? b=s.heap.get? b)(D:gV M x)(Q:O.length=ρ.length)
  (H:Keeps g s.heap g M->ZZ C.w g M U env O) (xD:Keeps g s.heap g M->∀(i:Nat) (x:Str),U[i]? =some x->(env.kindOf x=some .cell\/env.kindOf x=some .free)->WI C.w g M (env.cells.lookup x) O[i]?):CL C g s U own W env O Z {s with heap:=M,toks:=t}:=by
 have o:=F.out _ L;refine⟨S.frame o.fA o.mu o.one N,FN S.iJ P N D,F.fs,Q.trans F.len,H<|sX o.fA N,xD<|sX o.fA N,λa X=>?_⟩;have p:=F.out a X;refine⟨p.fA,p.mu,?_,p.one⟩;by_cases q:a=x
 .exact J q D
 .obtain⟨o,e⟩:=p.live;exact⟨o,(N a q).trans e⟩
def J9(F:jx C g s.heap U own W env ρ)(S:cH C g Z s.heap){y}(P:U[x]? =some y)(H:env.kindOf y=some .local\/(env.kindOf y=some .cell/\x∈own))(ra:VR C.w g s.heap a l){f}(e:nr x a ρ=some f):
  wpAny M A (storeName env y l) (λn s'=>CL C g s U own W env f Z s') eV s:=((pf e).2)▸H.elim (λH=>by
    obtain⟨m,hm,hv⟩:=F.ns;refine wpAny_storeName_local H hm (λh' b j=>?_)<|J F.fs.kind Y;refine F.wr S (.inl Y) F.fs.wl j.2 (by refine b.elim λo X=>X.elim λ_ X=>X.elim λ_ X=>X.elim λe _=>?_;exact⟨o,e⟩) bE (λK=>⟨_,b,λi z Q O N L=>?_⟩) λK i z O N=>?_
    .refine qP ((pf e).1) L (λq e=>?_) λq B=>?_
     .rw [q,P] at O;exact⟨l,(au (ak O).symm),jn e<|ra.mono K⟩
     .obtain⟨v,D,t⟩:=hv i z Q O N B;exact⟨v,J (az λe=>q<|uU F.fs.fW (e▸O) P) D,t.mono K⟩
    .obtain⟨c,ov,D,⟨o,t,e3⟩,e4⟩:=F.xD i z O N;refine⟨c,ov,D,⟨o,(j.2 c<|F.fs.YT _<|mem_lookup D).trans t,e3⟩,λQ L=>qP ((pf e).1) L (λq e=>?_) λq B=>?_⟩
     .rw [q,P] at O;rw [<-ak O,H] at N;exact N.elim (λh=>nomatch h) λh=>nomatch h
     .obtain⟨v,p,r⟩:=e4 Q B;exact⟨v,p,r.mono K⟩) λH=>by
        obtain⟨c,ov,D,t,e4⟩:=F.xD x y P<|.inl H.1;refine wpAny_storeName_cell F.fs.kind H.1 D t λh' b j=>F.wr S (Fa.cell D) (F.fs.wc x H.2 y P c D) j.2 (by refine b.elim λo X=>X.elim λe _=>?_;exact⟨o,e⟩) bE (λK=>?_) λK i z O N=>?_
        .obtain⟨m,hm,hv⟩:=F.ns;refine⟨m,hm.sameBut j (F.fs.YT _<|mem_lookup D).symm,λi z Q O N L=>qP ((pf e).1) L (λq e=>?_) λq B=>?_⟩
         .rw [q,P] at O;rw [<-ak O,H.1] at N;exact nomatch N
         .obtain⟨v,p,r⟩:=hv i z Q O N B;exact⟨v,p,r.mono K⟩
        .by_cases q:z=y
         .rw [q] at O⊢;refine⟨c,some l,D,b,λQ L=>qP ((pf e).1) L (λn e=>⟨l,Y,jn e<|ra.mono K⟩) λq n=>(q<|uU F.fs.fW O P).elim⟩
         .obtain⟨c',ov',z1,⟨o,z2,z3⟩,z4⟩:=F.xD i z O N;refine⟨c',ov',z1,⟨o,(j.2 c' λe=>q<|name_of_addr F.fs.YU (mem_lookup z1)<|J e<|mem_lookup D).trans z2,z3⟩,λQ L=>qP ((pf e).1) L (λq' n=>?_) λq' B=>?_⟩
          .rw [q',P] at O;exact(q (ak O).symm).elim
          .obtain⟨v,p,r⟩:=z4 Q B;exact⟨v,p,r.mono K⟩
def Pf(F:jx C g s.heap U own W env ρ){x:Nat}(L:U[x]? =some y)(N:env.kindOf y=some k)(O:k=.local\/k=.cell\/k=.free)(e:ρ[x]? =some (some a))(hn:(y==("__classdict__" :Str))=false)
  (h:∀v,VR C.w g s.heap a v->Q v s):wpAny M A (loadName env y) Q eV s:=by
 rcases O with O|O|O<;>replace N:=O▸N
 .obtain⟨m,hm,j⟩:=F.ns;obtain⟨v,H,D⟩:=j x y a L N e;exact wpAny_loadName_local F.fs.kind N hm H<|h v D
 .obtain⟨c,B,H,D,P⟩:=F.xD x y L<|.inl N;obtain⟨v,X,q⟩:=P a e;exact wpAny_loadName_cell F.fs.kind N H (X▸D)<|h v q
 .obtain⟨c,B,H,D,P⟩:=F.xD x y L<|.inr N;obtain⟨v,X,q⟩:=P a e;exact wpAny_loadName_free F.fs.kind N H (X▸D) (h v q) hn
end
section
open Sem (wp)
section
variable{C:Cx}{s:Shared}{E:Value->Shared->Prop}
inductive rR(h:Heap)(it d:Addr)(i n ep:Nat):Prop
 |mk (o) (e:h.get? it=some o) (f:o.cls=.type "dict_keyiterator" /\o.data=.fields #[.ref d,.int i 0,.int n 0,.int ep 0])
def rR.is{n U}(k:rR h O d i n U):h.IsKeyIter O d i n U:=by obtain⟨o,e,f⟩:=k;exact⟨o,e,f⟩
def sy(O:(d==sysModules)=false)(U:s.heap.get? d=(d6 D N))
  (M:Q (.ref s.heap.objs.size) {s with heap:=s.heap.push {cls:=.type "dict_keyiterator",data:=.fields #[.ref d,.int 0 0,.int D.length 0,.int N 0]}}):
  wpAny C.m A (pyIter<|.ref d) Q E s:=by
 refine wpAny_pyIter_slot (⟨_,U,Y⟩) F.slot_dict_iter<|eX F.slot_dict_iter (⟨_,U,Y⟩) F.entry_dict_iter ?_<|F.args_dict_iter_1 _;refine ao<|ao<|wpAny_notOrdered_dict (⟨_,U,Y⟩)<|ay ?_;show wpAny _ _ (Builtin.Dict.showsAll d>>=_) _ _ s;delta Builtin.Dict.showsAll;refine J (az<|O▸Bool.false_ne_true)<|ao<|ay<|ao<|fo U Y<|ao<|jA U Y<|ao<|fk<|ay ⟨_,Y, "dict_keyiterator",_,⟨_,ba _ Y,Y⟩,F.slot_dict_keyiterator_next.lookup,?_⟩
 exact M
def xb(H:rR s.heap N d i M.length j)
  (D:s.heap.get? d=(d6 M j)) (w:M[i]? =some e)
  (y:∀B,rR B N d (i+1) M.length j->Heap.SameBut N s.heap B->Q e.key {s with heap:=B}):
  wpAny C.m A (pyNext<|.ref N) Q E s:=by
 have U:=H.is;obtain⟨o,X,v,L⟩:=id H;refine ao (wpAny_attempt (wpAny_callSpecial?_slot U.typeIs f6
  (eX f6 U.typeIs F.entry_dict_keyiterator_next ?_<|F.args_dict_keyiterator_next_1 _)))
 refine ao<|ay<|ao<|ao ?_
 first|refine ao (fN U.typeIs<|ay ?_)|refine ao<|hH U.typeIs<|ay ?_
 refine ao<|wpAny_fieldsOf X L ?_;refine ao<|ay<|ao<|fo D Y ?_;have P:(List.toArray M).size=M.length:=rfl;refine J (az (by refine J P ?_;simp)) ?_;refine ao<|ay<|ao<|jA D Y<|J (az<|by simp)<|ay ?_;have q:(List.toArray M)[i]? =e:=by simpa using w
 simp only [(Int.not_ofNat_neg i),if_false,gZ,q];refine ao ?_
 first|refine ao (fN U.typeIs<|ay ?_)|refine ao<|hH U.typeIs<|ay ?_
 refine ao<|wpAny_isOneOf_keyiter U.typeIs ?_;refine ao<|wpAny_setField X L (cJ ..) ?_
 have O:rR (s.heap.update N (Obj.mapFields (·.setIfInBounds 1 (rawInt<|(i:Int)+1)))) N d (i+1) M.length j:=
  ⟨_,Heap.get?_update_self _ X<|Obj.isFreed_of_fields<|Obj.data_mapFields L _,(Obj.cls_mapFields ..).trans v,(Obj.data_mapFields L _).trans Y⟩
 exact ao<|bD<|ao<|wpAny_isOneOf_keyiter O.is.typeIs<|ay<|ay ⟨_,Y,ay<|y _ O<|dJ ..⟩
def pV(j:A.handled=none)(O:rR s.heap H d i D.length y)
  (N:s.heap.get? d=(d6 D y)) (B:D[i]? =none)
  (v:∀X,Heap.ExtBut H s.heap X->Q none {s with heap:=X}):wpAny C.m A (pyNext<|.ref H) Q E s:=by
 have U:=O.is;obtain⟨o,L,q,P⟩:=id O;refine ao (wpAny_attempt (wpAny_callSpecial?_slot U.typeIs f6
  (eX f6 U.typeIs F.entry_dict_keyiterator_next ?_<|F.args_dict_keyiterator_next_1 _)))
 refine ao<|ay<|ao<|ao ?_
 first|refine ao (fN U.typeIs<|ay ?_)|refine ao<|hH U.typeIs<|ay ?_
 refine ao<|wpAny_fieldsOf L P ?_;refine ao<|ay<|ao<|fo N Y ?_;have M:(List.toArray D).size=D.length:=rfl;refine J (az (by refine J M ?_;simp)) ?_;clear O q M;refine ao<|ay<|ao<|jA N Y<|J (az<|by simp)<|ay ?_;have w:(List.toArray D)[i]? =none:=by simpa using B
 simp only [(Int.not_ofNat_neg i),if_false,gZ,w];refine ao ?_
 first|refine ao (fN U.typeIs<|ay ?_)|refine ao<|hH U.typeIs<|ay ?_
 refine ao<|wpAny_setField L P (bO _) ?_;refine ao<|ao<|fk ?_ (by size_fits);refine ao<|wpAny_of_eq (a:=Value.none) (by first|rfl|(exact rfl;rfl)) ?_;refine fk ?_ (by size_fits);dsimp only [raiseNew];refine ao<|wpAny_handled<|J j<|ao<|ay<|wpAny_throw ?_;refine ao<|wpAny_isInstance ⟨_,ba _ Y,Y⟩ isSubtype_stop ?_;exact ay<|v _<|((dJ ..).extBut.push _).push _
end
end
noncomputable def Gh.tk(g:Gh)(U:Nat):Gh:={g with mu:=g.mu.take U}
inductive mL(C:Cx)(g:Gh)(h:Heap)(fl:Nat)(I:Addr)(i:Nat):List AV->Option (Nat×AC)->Prop
 |sS (x y:Int):IsRangeIter h I (x+(i:Int)) (((y-x).toNat:Int)-(i:Int)) 1->mL C g h fl I i (qR x y) none
 |aM (l:Addr) (vs:List Value) (n:Nat) (xs:List AV):g.fA l->h.get? l=some (du vs n)->eT C.w (g.tk fl) h xs vs->h.IsListIter I l i->mL C g h fl I i xs none
 |cell (k:Nat) (p:Addr×Addr) (xs:List AV):k<fl->g.mu[k]? =some p->belows fl xs=true->h.IsListIter I p.1 i->mL C g h fl I i xs (some (k,.L xs))
 |aL (l:Addr) (vs:List Value) (n:Nat) (xs:List AV):g.fA l->h.get? l=some (gh vs n)->eT C.w (g.tk fl) h xs vs->h.IsTupleIter I l i->mL C g h fl I i xs none
 |bK (l:Addr) (ds:List DictEntry) (ep:Nat) (es:List (KV×AV)):(g.fA l\/∃k p,k<g.ro/\g.mu[k]? =some p/\l=p.1)->l≠1->h.get? l=some (d6 ds ep)->lh C.w (g.tk fl) h es ds->rR h I l i ds.length ep->
   mL C g h fl I i (es.map λe=>e.1.av) none
section
variable{C:Cx}{g:Gh}{U:St}{s:Shared}
def fg.QO(x:fg O W g s H N)(S:cH C g U s.heap)(D:∀a,W a->¬g.fA a):Keeps (g.tk O) s.heap (H.tk O) N.heap where
 fA:=x.fA
 get:=λa o i e=>x.keep a o e (λw=>D a w i) λm=>S.lg a (iA m) i
 mu:=λn p e=>by have M:(g.mu.take O)[n]? =p:=e;replace M:=x.mu▸M;exact M
def vd:Keeps (g.tk N) h g h where
 fA:=λM i=>i
 get:=λM M M e=>e
 mu:=λn p e=>by
  have O:(g.mu.take N)[n]? =p:=e;rw [et] at O;split at O
  .exact O
  .exact eg O
def C1:g.tk g.mu.length=g:=by delta Gh.tk;exact J List.take_length Y
def yo(x:fg M W g s D H)(O:k<M)(e:g.mu[k]? =some p):D.mu[k]? =p:=by have N:(g.mu.take M)[k]? =p:=J et<|J (au O) e;rw [<-x.mu,et,au O] at N;exact N
def mL.qr(S:cH C g U s.heap)(T:mL C g s.heap fl I i M gd)(x:fg fl W g s g' q)(o:fM g s.heap I)(hI:¬W I)(t:∀a,W a->¬g.fA a/\¬ql g.mu a):mL C g' q.heap fl I i M gd:=by
 have K:=x.QO S λa h=>(t a h).1;have kI:∀A,s.heap.get? I=some A->q.heap.get? I=A:=λA e=>x.keep I A e hI λm=>o.mu<|iA m;exact T.rec (λx y h=>.sS x y<|kI _ h) (λl j n M O Q P D=>.aM l j n M (x.fA _ O) (K.get _ _ O Q) (P.mono K)<|D.elim λN v=>v.elim λL H=>⟨N,kI _ L,H⟩) (λk p M h0 O hb D=>.cell k p M h0 (yo x h0 O) hb (by obtain⟨N,L,H⟩:=D;exact⟨N,kI _ L,H⟩)) (λl j n M O Q P D=>.aL l j n M (x.fA _ O) (K.get _ _ O Q) (P.mono K)<|D.elim λN v=>v.elim λL H=>⟨N,kI _ L,H⟩) λl b c es O X Q P D=>by
  have B:rR q.heap I l i b.length c:=by obtain⟨N,L,H⟩:=D;exact⟨N,kI _ L,H⟩
  rcases O with O|⟨k,p,r,f,e⟩
  .exact .bK l b c es (.inl<|x.fA _ O) X (K.get _ _ O Q) (P.mono K) B
  .exact .bK l b c es (.inr ⟨k,p,J x.ro r,yo x (aJ r x.rl) f,e⟩) X (J e<|x.keep _ _ (jn e Q) (λw=>(t _ w).2 ⟨p,aN f,.inl Y⟩) λm=>tR S.fW g.ro ⟨p,aN<|J et<|J (au r) f,.inl Y⟩ m) (P.mono K) B
inductive A2(C:Cx)(g:Gh)(U:St)(s:Shared)(xs:List AV)(gd:Option (Nat×AC)):Value->Shared->Prop
 |mk (o) (f:o.isFreed=false) (T:mL C g (s.heap.push o) g.mu.length s.heap.objs.size 0 xs gd) (k:cT U gd):A2 C g U s xs gd (.ref s.heap.objs.size) {s with heap:=s.heap.push o}
def A2.wp{E}(e:q=(O,N))(h:wpAny C.m A (pyIter M) (A2 C g U s q.1 q.2) E s):wpAny C.m A (pyIter M) (A2 C g U s O N) E s:=by replace h:=e▸h;exact h
def nF{b}(e:s.heap.get? b=some o):(s.heap.push O).get? b=o:=aP _ e
def y4(h:eT C.w g s.heap O M):eT C.w (g.tk g.mu.length) (s.heap.push D) O M:=J C1<|h.mono<|fi λN N=>nF
def Am(h:lh C.w g s.heap N O):lh C.w (g.tk g.mu.length) (s.heap.push D) N O:=J C1<|h.mono<|fi λM M=>nF
def B3(S:cH C g U s.heap)(H:VR C.w g s.heap (.ref k) N)(O:U[k]? =some (.L M)):wpAny C.m A (pyIter N) (A2 C g U s M<|some (k,.L M)) eV s:=by obtain⟨p,B,n,P,X,j,Q,D⟩:=vQ S H O;exact J X<|wpAny_pyIter_list ⟨_,Q,Y,_,Y⟩ ⟨_,Y,.cell k p _ (jn S.length<|(List.getElem?_eq_some_iff.mp O).1) P (eT.below D) ⟨_,ba _ Y,Y,Y⟩,O⟩
def vj(L:VR C.w g s.heap (.aL M) D):wpAny C.m A (pyIter D) (A2 C g U s M none) eV s:=by obtain⟨l,N,n,Q,P,O,H⟩:=L;exact J Q<|wpAny_pyIter_tuple ⟨_,O,Y,_,Y⟩ ⟨_,Y,.aL l N n _ P (nF O) (y4 H) ⟨_,ba _ Y,Y,Y⟩,trivial⟩
def vm(L:VR C.w g s.heap (.aM M) D):wpAny C.m A (pyIter D) (A2 C g U s M none) eV s:=by obtain⟨l,N,n,Q,P,O,H,_⟩:=L;exact J Q<|wpAny_pyIter_list ⟨_,O,Y,_,Y⟩ ⟨_,Y,.aM l N n _ P (nF O) (y4 H) ⟨_,ba _ Y,Y,Y⟩,trivial⟩
set_option tactic.hygienic true in
def yB(hr:g.ro=ro)(S:cH C g U s.heap)(M:VR C.w g s.heap a va)(e:dR ro U a=(xs,gd)):wpAny C.m A (pyIter va) (A2 C g U s xs gd) eV s:=by
 cases a with
 |aL ys=>exact lT e λX e=>A2.wp e<|vj M
 |aM ys=>exact lT e λX e=>A2.wp e<|vm M
 |bK es=>exact lT e λX e=>A2.wp e (by have hne:=nT S M Y;obtain⟨l,ds,n,P,j,H,B,nd,_⟩:=M;exact J P<|sy (hne l P) H ⟨_,Y,.bK l ds n _ (.inl j) (λq=>S.one.1<|q▸j) (nF H) (Am B) ⟨_,ba _ Y,Y,Y⟩,trivial⟩)
 |sS x y=>exact lT e λQ e=>A2.wp e (by induction M;rename_i l t u v P j H;exact J P (by
   refine wpAny_pyIter_range H (small_one (ef (by decide) (lX.mp (a8 Q).1).1) (ey (lX.mp (a8 Q).1).2<|by decide) (ef (by decide) (lX.mp (a8 Q).2).1)<|ey (lX.mp (a8 Q).2).2<|by decide) ⟨_,Y,?_,trivial⟩
   have N:Builtin.Range.rangeSize x y 1=(((y-x).toNat:Nat):Int)-((0:Nat):Int):=by exact J (rangeSize_one ..) (if h:x<y then(au h).trans ((js<|Int.sub_nonneg_of_le<|iF h).symm.trans (Int.sub_zero _).symm)else(az h).trans (J (Int.toNat_of_nonpos<|Int.sub_nonpos_of_le<|Int.not_lt.mp h) Y))
   exact J N<|.sS x y<|jn (Int.add_zero x).symm<|ba _ Y))
 |ref k=>exact dj e λcl N e=>match cl,N,e with
  | .L ys,N,e=>lT e λX e=>A2.wp e<|B3 S M N
  | .D es,N,e=>lT e λQ e=>A2.wp e (by obtain⟨p,ds,n,hp,P,p2,H,B,nd⟩:=Cu S M N;exact J P<|sy ((nT S M<|show OR U[k]? =_ by exact congrArg _ N) _ P) H ⟨_,Y,.bK p.1 ds n _ (.inr ⟨k,p,(J hr<|aB (a8 Q).2),hp,Y⟩) (λq=>S.one.2 ⟨p,aN hp,.inl q.symm⟩) (nF H) (Am B) ⟨_,ba _ Y,Y,Y⟩,trivial⟩)
  | .O ..,_,e=>eg e
 |_=>exact eg e
end
section
variable{U:St}{s:Shared}
structure pN(C:Cx)(g:Gh)(U:St)(s:Shared)(I:Addr)(s':Shared):Prop where
 Lx:cH C g U s'.heap
 ext:Heap.ExtBut I s.heap s'.heap
 live:gV s'.heap I
 gens:s'.gens=s.gens
 os:s'.os=s.os
def pN.qr(X:pN C g U s I M)(S:cH C g U s.heap):fg g.mu.length (λa=>a=I) g s g M where
 live:=λa ⟨o,e⟩=>if q:a=I then J q X.live else⟨o,X.ext a o q e⟩
 fA:=λO x=>x
 keep:=λa o e N O=>X.ext a o N e
 len:=⟨aS _,aS _⟩
 ro:=rfl
 rl:=S.iJ
 mu:=rfl
 new:=λO O=>.inl
 own:=λO O x=>x
 gens:=X.gens
 os:=X.os
def cH.ext(S:cH C g U h)(o:fM g h x)(M:Heap.ExtBut x h D):cH C g U D where
 base:=λa O e=>by
  have:a≠x:=λq=>by subst q;exact o.fA<|(S.base a O e).2 o.one
  exact⟨M a O this (S.base a O e).1,(S.base a O e).2⟩
 one:=S.one
 live:=λa i=>by obtain⟨O,e⟩:=S.live a i;exact⟨O,M a O (λq=>o.fA<|q▸i) e⟩
 cells:=S.cells.mono ⟨λN x=>x,λa O i e=>M a O (λq=>o.fA<|q▸i) e,λN N e=>e⟩ λa m=>by obtain⟨O,e⟩:=S.fF m;exact bV e (M a O (λq=>o.mu<|q▸m) e) Y
 lg:=S.lg
 fW:=S.fW
 iJ:=S.iJ
def hZ{h M}{x}{g2}(H:∀a,g2.fA a->g.fA a)(o:fM g h x)(D:Heap.ExtBut x h M):Keeps g2 h g2 M:=
 ⟨λO x=>x,λa N i e=>D a N (λq=>o.fA<|q▸H a i) e,λO O e=>e⟩
def QP:∀{vs},rT ks vs->eT w g h (ks.map KA.av) vs:=by
 induction ks with
 |nil=>exact id
 |cons k ks D=>exact λq=>by obtain⟨u,O,e,N,M⟩:=q;exact⟨u,O,e,by induction k<;>exact N,D M⟩
def IG(r:xI g h k v):VR w g h k.av v:=by
 induction k with
 |i n=>exact r
 |t ks=>exact by obtain⟨a,O,n,e,i,o,r⟩:=r;exact⟨a,O,n,e,i,o,QP r⟩
inductive EaR(g:Gh)(h:Heap)(k:KV)(d:Option DictEntry):Prop
 |mk (x) (e:d=some x) (r:xI g h k x.key)
def RM:∀{M} {i:Nat} {e},lh w g h O M->O[i]? =some e->EaR g h e.1 M[i]? :=by
 induction O with
 |nil=>exact λP=>eg
 |cons p O N=>
  intro M i e ⟨d,B,L,X,H,Q,D⟩ q;refine J L ?_;induction i with
  |zero=>exact⟨d,Y,ak q▸H⟩
  |succ i=>exact N (i:=i) D q
inductive ZY(C:Cx)(g:Gh)(U:St)(s:Shared)(fl:Nat)(I:Addr)(i:Nat)(xs:List AV)(gd:Option (Nat×AC))(x:AV):Option Value->Shared->Prop
 |mk {s'} (v) (rv:VR C.w g s'.heap x v) (X:pN C g U s I s') (T:mL C g s'.heap fl I (i+1) xs gd):ZY C g U s fl I i xs gd x (some v) s'
def qI(S:cH C g U s.heap)(o:fM g s.heap I)(O:Heap.SameBut I s.heap M)(N:gV M I):pN C g U s I {s with heap:=M,toks:=t}:=⟨S.ext o O.extBut,O.extBut,N,Y,Y⟩
def D4(o:fM g h I)(N:g.fA l)(M:Heap.ExtBut I h D)(e:h.get? l=some O):D.get? l=O:=M l O (λq=>o.fA<|jn q N) e
def Hz{y z}{x}(O:(qR y z)[i]? =some x):i<(z-y).toNat/\AV.int (y+i)=x:=by
 delta qR at O
 have M:i<(z-y).toNat:=by have:=(List.getElem?_eq_some_iff.mp O).1;rwa [ag,aO] at this
 simp only [cE,dI M] at O;exact⟨M,ak O⟩
def t4(hh:A.handled=none)(S:cH C g U s.heap)(T:mL C g s.heap r I i L a)(o:fM g s.heap I)(hg:cT U a)(P:L[i]? =some x):
  wpAny C.m A (pyNext<|.ref I) (ZY C g U s r I i L a x) eV s:=by
 induction T with
 |sS y z h=>refine wpAny_pyNext_range_item h (Int.sub_pos_of_lt<|Int.ofNat_lt.mpr (Hz P).1) λf O M=>⟨_,jn (Hz P).2 ⟨s.toks,Y⟩,qI S o M ⟨_,O⟩,.sS y z ?_⟩;exact bV ((Int.add_assoc y (i:Int) 1).symm) ((Int.sub_sub _ (i:Int) 1).symm) O
 |aM l w n L N H D Q=>obtain⟨v,j,X⟩:=D.get P;refine wpAny_pyNext_list_item Q ⟨_,H,Y,_,Y⟩ (rN j) λf O M=>?_;have K:=hZ (g:=g) (g2:=g.tk r) (λc i=>i) o M.extBut;exact⟨v,(X.mono K).mono vd,qI S o M (by obtain⟨q,e,_⟩:=O;exact⟨q,e⟩),.aM l w n L N (D4 o N M.extBut H) (D.mono K) O⟩
 |cell k p L h0 N hb Q=>obtain⟨p',w,n,t,q,p2,H,D⟩:=vQ S ⟨p,N,Y⟩ hg;exact(D.get P).elim λv B=>B.elim λj X=>wpAny_pyNext_list_item Q ⟨_,(J (gw q) H),Y,_,Y⟩ (rN j) λf O M=>⟨v,X.mono<|hZ (λc i=>i) o M.extBut,qI S o M<|O.elim λq B=>B.elim λe _=>⟨q,e⟩,.cell k p L h0 N hb O⟩
 |aL l w n L N H D Q=>obtain⟨v,j,X⟩:=D.get P;refine wpAny_pyNext_tuple_item Q ⟨_,H,Y,_,Y⟩ (rN j) λf O M=>?_;have K:=hZ (g:=g) (g2:=g.tk r) (λc i=>i) o M.extBut;exact⟨v,(X.mono K).mono vd,qI S o M (by obtain⟨q,e,_⟩:=O;exact⟨q,e⟩),.aL l w n L N (D4 o N M.extBut H) (D.mono K) O⟩
 |bK l ds ep es N b H D Q=>rw [cE,Option.map_eq_some_iff] at P;refine P.elim λe B=>B.elim λhe ex=>?_;obtain⟨d,hd,rk⟩:=RM D he;refine xb Q H hd λf O M=>?_;have K:=hZ (g:=g) (g2:=g.tk r) (λc i=>i) o M.extBut;exact⟨_,jn ex<|(IG<|rk.mono K.ke).mono vd,qI S o M (by obtain⟨q,e,_⟩:=O;exact⟨q,e⟩),.bK l ds ep es N b (M.extBut l _ (λq=>N.elim (λN=>o.fA<|jn q N) λz9=>by obtain⟨k,p,hk,t,q'⟩:=z9;exact o.mu ⟨p,aN t,.inl<|q.symm.trans q'⟩) H) (D.mono K) O⟩
inductive Za(C:Cx)(g:Gh)(U:St)(s:Shared)(I:Addr):Option Value->Shared->Prop
 |mk {s'} (S:cH C g U s'.heap) (x:Heap.ExtBut I s.heap s'.heap) (a:s'.gens=s.gens) (b:s'.os=s.os):Za C g U s I none s'
def we{O:List Value}(h:O.length<=i):O.toArray[i]? =none:=List.getElem?_toArray▸cO h
def next_end(L:A.handled=none)(S:cH C g U s.heap)(T:mL C g s.heap fl I i H gd)(o:fM g s.heap I)(hg:cT U gd)(B:H[i]? =none)(w:i<=H.length):
  wpAny C.m A (pyNext<|.ref I) (Za C g U s I) eV s:=by
 have fin:∀Q,Heap.ExtBut I s.heap Q->Za C g U s I none {s with heap:=Q}:=λQ j=>⟨S.ext o j,j,Y,Y⟩;have O:=bH (List.getElem?_eq_none_iff.mp B) w;clear B;clear w;induction T with
 |sS y z h=>exact wpAny_pyNext_range_end L h (by simp only [qR,ag,aO] at O;lia) fin
 |aM l X n H P D N M=>exact wpAny_pyNext_list_end L M ⟨_,D,Y,_,Y⟩ (we<|jn N.length<|aG O) fin
 |cell k p H h0 P hb M=>obtain⟨p',X,n,hp,q,p2,D,N⟩:=vQ S ⟨p,P,Y⟩ hg;exact wpAny_pyNext_list_end L M ⟨_,(J (gw q) D),Y,_,Y⟩ (we<|jn N.length<|aG O) fin
 |aL l X n H P D N M=>exact wpAny_pyNext_tuple_end L M ⟨_,D,Y,_,Y⟩ (we<|jn N.length<|aG O) fin
 |bK l ds ep es P v D N M=>rw [ag] at O;exact pV L M D (cO<|jn N.length<|aG O) fin
inductive IcR(h:Heap)(I:Addr):Prop
 |mk (o vs T) (e:h.get? I=some o) (c:o.cls=.type T) (d:o.data=.fields vs) (n:["enumerate", "zip", "dict_itemiterator", "dict_reverseitemiterator", "odict_iterator", "itertools.zip_longest", "itertools.pairwise"].contains T=false)
def Vk(T:mL C g s.heap j I i M A):IcR s.heap I:=T.rec (fun y z h=>⟨_,_, "range_iterator",h,Y,Y,Y⟩) (fun l P n M D L H O=>by obtain⟨o,e,c,d⟩:=O;exact⟨o,_, "list_iterator",e,c,d,Y⟩) (fun k p M B D X O=>O.elim fun o N=>N.elim fun e N=>N.elim fun c d=>⟨o,_, "list_iterator",e,c,d,Y⟩) (fun l P n M D L H O=>by obtain⟨o,e,c,d⟩:=O;exact⟨o,_, "tuple_iterator",e,c,d,Y⟩) fun l v q w D Q L H O=>by obtain⟨o,e,c,d⟩:=O;exact⟨o,_, "dict_keyiterator",e,c,d,Y⟩
def sV{E}(T:mL C g s.heap B I i L X)(h:Q () s):wpAny M A (letOwnedTupleGo target (.ref I) v) Q E s:=by obtain⟨o,P,T,O,H,D,N⟩:=Vk T;cases target<;>first|exact ay h|(induction v<;>first|exact ay h|(refine ao<|wpAny_load O<|bV H D ?_;dsimp only;exact N▸ay h))
def fg.ext(x:fg X W g s Q O)(N:¬gV s.heap I)(M:Heap.ExtBut I O.heap s2.heap)(P:s2.gens=O.gens)(H:s2.os=O.os):fg X W g s Q s2 where
 live:=λa h=>by obtain⟨o,e⟩:=x.live a h;exact⟨o,M a o (λq=>N<|q▸h) e⟩
 fA:=x.fA
 keep:=λa o e D L=>M a o (λq=>N<|jn q ⟨o,e⟩)<|x.keep a o e D L
 len:=x.len
 ro:=x.ro
 rl:=x.rl
 mu:=x.mu
 new:=x.new
 own:=x.own
 gens:=P.trans x.gens
 os:=H.trans x.os
inductive DrP(C:Cx)(g:Gh)(U:St)(s:Shared)(fl:Nat)(I:Addr)(k i:Nat)(xs:List AV)(gd:Option (Nat×AC))(vs:List Value)(s':Shared):Prop
 |mk (r:eT C.w g s'.heap (xs.drop i) vs) (S:cH C g U s'.heap) (T:mL C g s'.heap fl I (i+k) xs gd) (o:fM g s'.heap I) (x:Heap.ExtBut I s.heap s'.heap) (a:s'.gens=s.gens) (b:s'.os=s.os)
set_option tactic.hygienic true in
def M6(hh:A.handled=none)(hg:cT U B):∀{i} {s},cH C g U s.heap->mL C g s.heap fl I i N B->fM g s.heap I->i+k=N.length->wpAny C.m A (draw (.ref I) k) (DrP C g U s fl I k i N B) eV s:=by
 induction k with
 |zero=>exact λS T o M=>ay ⟨J (fu<|aG<|id<|Eq.symm M) Y,S,T,o,λO O O e=>e,Y,Y⟩
 |succ k ih=>intro i s S T o M;have P:i<N.length:=lq [_,_,_] [.q 1 (.a ax<|.s a7) aE] (.s ax) aE Y M;refine ao<|aY (t4 hh S T o hg<|aW P) (λr s1 p=>?_) λO O e=>e;obtain⟨v,w,X,T1⟩:=p;have L:fM g s1.heap I:=⟨o.fA,o.mu,X.live,o.one⟩;refine ao<|bD<|aY (ih X.Lx T1 L<|bH (lq [_,_,_] [.q 1 (.a ax<|.s aE) a7] (.a (.s ax) aE) a7 Y M)<|lq [_,_,_] [.p 1 (.a aE<|.s a7) ax] ax (.a (.s aE) a7) Y M) (λj s2 p=>?_) λO O e=>e;induction p;rename_i Hw S2 T2 o2 D e1 e2;exact ay ⟨by refine J (eE P) ?_;exact⟨v,j,Y,w.mono<|hZ (λO i=>i) L D,Hw⟩,S2,J (show i+(k+1)=i+1+k by exact Eq.symm<|hU i k) T2,o2,λb H Q e=>D b H Q<|X.ext b H Q e,e1.trans X.gens,e2.trans X.os⟩
inductive ZP(C:Cx)(g:Gh)(U:St)(s:Shared)(xs:List AV)(vs:List Value)(s':Shared):Prop
 |mk (S:cH C g U s'.heap) (X:fg g.mu.length nx g s g s') (r:eT C.w g s'.heap xs vs)
set_option tactic.hygienic true in
def r0{T}(L:A.handled=none)(S:cH C g U s.heap)(B:s.TypeIs D T)(X:typeLookup (.type T) "__iter__" =pure (some x))(M:∀A,wpAny C.m A (pyIter D) (A2 C g U s N gd) eV s):
  wpAny C.m A (unpackItems D N.length none) (ZP C g U s N) eV s:=by
 refine ao<|ao<|wpAny_specialOf B X<|ay<|ao<|bD<|aY (M _) (λit s1 p=>?_) λO O e=>e;induction p with|mk o f T k=>?_
 refine ao<|bD<|aY (M6 L k (S.push o) T (ij S f)<|bu _) (λv s2 p=>?_) λO O e=>e;induction p;rename_i Hw q P H Q w j;rw [bu] at P;refine J (az<|Hw.length▸cu _)<|ao<|bD<|aY (next_end L q P H k (cO .refl) .refl) (λr s3 p=>?_) λO O e=>e;induction p with|mk S3 x3 e3 e4=>?_
 exact ay ⟨S3,((mD S.iJ).ext (ct _) Q w j).ext (ct _) x3 e3 e4,Hw.mono<|hZ (λO i=>i) H x3⟩
def shL(h:Sh.L M=.L O):M=O:=by cases h;rfl
def Wn(h:OR o=.L O):o=some (.L O):=by
 induction o with
 |none=>exact Sh.noConfusion h
 |some c=>induction c<;>cases h<;>rfl
def wU(H:A.handled=none)(S:cH C g U s.heap)(M:VR C.w g s.heap a X)(e:vw U a=.T D\/vw U a=.L D):
  wpAny C.m A (unpackItems X D.length none) (ZP C g U s D) eV s:=by
 rcases e with e|e
 .obtain⟨l,P,n,N,B,O,Q⟩:=Pa S M e;exact N▸r0 H S ⟨_,O,Y⟩ F.slot_tuple_iter.lookup λA=>vj ⟨l,P,n,Y,B,O,Q⟩
 .obtain⟨l,P,n,N,O,Q⟩:=K4 S M e;cases a with
  |aM j=>exact r0 H S (J N ⟨_,O,Y⟩) slot_list_iter.lookup λA=>vm<|shL e▸M
  |ref k=>exact r0 H S (J N ⟨_,O,Y⟩) slot_list_iter.lookup λA=>B3 S M<|Wn e
  |_=>exact Sh.noConfusion e
end
noncomputable def rt:List Str:=["END", "ERROR", "OWN_TERMINALS", "MOST_WORDS", "MOST_ROWS"]
structure Gl(C:Cx)(K:Frag):Prop where
 QZ:K.In C.B
 ko:TM K
 g:∃mg,C.B.Ns mainGlobals mg
 b:∃mb,C.B.Ns builtinsNs mb/\∀x:Str,x≠ "__name__" ->mb x=bootBuiltins x
 lim:C.B.NoLimit
 wJ:∀n a y,TB.glob n=some a->rt[n]? =some y->∃v,nsIn K mainGlobals y=some (some v)/\∀g st h,cH C g st h->VR C.w g h a v
noncomputable def KD.val:KD->Value
 | .len=>.builtin "len" | .range=>.type "range" | .tuple=>.type "tuple" | .list=>.type "list" | .sorted=>.builtin "sorted" | .sum=>.builtin "sum" | .min=>.builtin "min"
 | .abs=>.builtin "abs" | .int=>.type "int" | .dict=>.type "dict" | .isStr=>.builtin "isinstance"
def GD.name:GD->Str
 | .append=> "append" | .pop=> "pop" | .extend=> "extend" | .index=> "index" | .get=> "get" | .eG=> "setdefault" | .user n=>jZ n
section
variable{U:St}{s:Shared}{K:Frag}
def cH.DU(S:cH C g U h):∀b o,C.B.get? b=some o->h.get? b=o:=λb o e=>(S.base b o e).1
def qY(G:Gl C K)(S:cH C g U s.heap)(F:jx C g s.heap nm own W env H)(N:env.kindOf y=some .globalImplicit)(D:(y==("__debug__"))=false)(e:nsIn K mainGlobals y=some (some v)){E}(h:Q v s):
  wpAny M A (eval (.Name y p) env) Q E s:=by
 refine bQ G.g λL O=>Calls.Name_function_global F.fs.kind N (Calls.loadGlobal_global ?_ (mg_of G.QZ O e) h) D;exact J F.fs.glob<|O.keeps S.DU
def uY(G:Gl C K)(S:cH C g U s.heap)(F:jx C g s.heap nm own W env B){y}(H:env.kindOf y=some .globalImplicit)(L:(y==("__debug__"))=false)(e:nsIn K mainGlobals y=some none)(X:bootBuiltins y=some v)(D:y≠ "__name__")
  {E} (h:Q v s):wpAny M A (eval (.Name y p) env) Q E s:=by
 refine bQ G.g λj N=>?_;obtain⟨w,P,O⟩:=G.b;exact Calls.Name_function_global F.fs.kind H (Calls.loadGlobal_builtin (J F.fs.glob<|N.keeps S.DU) (mg_none_of G.QZ N e) (J F.fs.blt<|P.keeps S.DU) ((O y D).trans X) h) L
def n7{E}(L:args.any (·.1)=false)(h:wpAny M A (spliced args) (λO N=>Q ⟨O,[]⟩ N) E s):wpAny M A (evalArgs f true args []) Q E s:=by
 induction args with
 |nil=>refine ao<|aY h (λO N H=>?_) λD D x=>x;exact ao<|ay<|bD<|ao<|ay<|ao<|ay<|ay H
 |cons x rest=>
  obtain⟨star,x⟩:=x;induction star with
  |true=>contradiction
  |false=>exact Calls.evalArgs_plain h
def lU(L:K.In s.heap){E}(N:args.any (·.1)=false)(H:keepIn K f=true)
  (h:wpAny M A (spliced args) (λD O=>K.In O.heap/\wpAny M A (call f<|first++D) Q E O) E s):wpAny M A (callWith pos f first args []) Q E s:=
 callWith_of (eY (congrArg _ N) _) (keeps_K H) (n7 N h)
def oV{id}{E}(N:args.any (·.1)=false)
  (h:wpAny M A (spliced args) (λD O=>wpAny M A (call (.builtin id)<|first++D) Q E O) E s):wpAny M A (callWith pos (.builtin id) first args []) Q E s:=
 Calls.callWith_builtin N (n7 N h)
def AG{T}{E}(N:args.any (·.1)=false)
  (h:wpAny M A (spliced args) (λD O=>wpAny M A (call (.type T)<|first++D) Q E O) E s):wpAny M A (callWith pos (.type T) first args []) Q E s:=
 PyProof.Rows.callWith_type N (n7 N h)
def i5 pos l:(backTo pos l).any (·.1)=l.any (·.1):=by refine List.any_map.trans ?_;rfl
inductive AdR(C:Cx)(g:Gh)(U:St)(s:Shared)(c:AC)(D D2:Addr):Prop
 |mk (S:cH C (g.own (D,D2)) (U++[c]) s.heap) (r:VR C.w (g.own (D,D2)) s.heap (.ref U.length) (.ref D))
  (x:∀{fl:Nat} {W:Addr->Prop} {g0:Gh} {s0:Shared},fg fl W g0 s0 g s->¬gV s0.heap D->¬gV s0.heap D2->fg fl W g0 s0 (g.own (D,D2)) s)
theorem adopt{c}(S:cH C g U s.heap)(o:fM g s.heap D)(M:fM g s.heap O)(N:CR C.w g s.heap c (D,O)):AdR C g U s c D O:=
 ⟨S.own o M N,qV S,λx=>x.adopt⟩
def vI(B:A.units<cLine){d:Addr}{es:List (KV×AV)}{N:List DictEntry}{k:Nat}{O:KV}(S:cH C g U s.heap)(o:fM g s.heap d)(q:s.heap.get? d=(d6 N k))(L:lh C.w g s.heap es N)(Q:(es.map (·.1)).Nodup)
  (v:ed O es=true) (X:es.length<lim) (rk:xI g s.heap O va) (P:VR C.w g s.heap b M):wpAny C.m A (dictSet d va M) (λD H=>TN C g s d (dput es O b) H) eV s:=
 yM (va:=va) (xx B d M) (λj=>hZ (λD i=>i) o j.extBut) q L Q v X rk P
end
noncomputable def lN:List (Str×NameKind)->List (Str×Addr)->List (Str×Addr)->List (Str×Addr)
 |[],_,acc=>acc
 |(n,k)::r,cells,acc=>if k== .free then lN r cells ((n,(cells.lookup n).getD 0)::acc)else lN r cells acc
noncomputable def gS(ks names:List (Str×NameKind)):List (Str×NameKind):=names.map λ(n,k)=>if k== .free&&ks.lookup n==some .cell then(n,.cell)else(n,k)
def rh:(gS ks names).lookup x=(names.lookup x).map λk=>if k== .free&&ks.lookup x==some .cell then .cell else k:=names.rec Y λp r O=>by
  obtain⟨n,k⟩:=p;delta gS;refine J aZ ?_;dsimp only;by_cases h:x=n
  .subst h;by_cases q:(k== .free&&ks.lookup x==some .cell)=true
   .rw [au q];simp only [dA,je];exact congrArg _ (au q).symm
   .rw [az q];simp only [dA,je];exact congrArg _ (az q).symm
  .have U:(x==n)=false:=by simpa using h
   have:=O;by_cases q:(k== .free&&ks.lookup n==some .cell)=true
   .rw [au q];simp only [dA];exact J U this
   .rw [az q];simp only [dA];exact J U this
def Gb:∀(names:List (Str×NameKind)) (acc:List (Str×Addr)) (x:Str×Addr),x∈lN names cells acc->x∈acc\/((x.1,NameKind.free)∈names/\x.2=(cells.lookup x.1).getD 0):=λnames=>names.rec (λacc x h=>.inl h) λU r D=>by
  intro acc x h;dsimp only [lN] at h;split at h
  .rename_i O;have O:U.2=.free:=by simpa using O
   rcases D _ x h with h|⟨N,M⟩
   .exact(mO h).elim (λH=>J H<|.inr ⟨jn O<|.head _,Y⟩) .inl
   .exact .inr ⟨.tail _ N,M⟩
  .rcases D _ x h with h|⟨N,M⟩
   .exact .inl h
   .exact .inr ⟨.tail _ N,M⟩
def Gd{n:Str}:∀(names:List (Str×NameKind)) (acc:List (Str×Addr)),((n,NameKind.free)∈names\/∃c,(n,c)∈acc)->∃c,(n,c)∈lN names cells acc:=λnames=>names.rec (by
  exact λacc h=>h.elim (iZ) λh=>h) λU r O=>by
  intro acc h;obtain⟨m,k⟩:=U;dsimp only [lN];split
  .rename_i M;refine O _ ?_;rcases h with h|⟨c,h⟩
   .exact(mO h).elim (λe=>by injection e with e;exact J e<|.inr ⟨_,.head _⟩) .inl
   .exact .inr ⟨c,.tail _ h⟩
  .rename_i M;refine O _ ?_;rcases h with h|⟨c,h⟩
   .exact(mO h).elim (λe=>by cases e;exact(M Y).elim) .inl
   .exact .inr ⟨c,h⟩
def lookup_all{n:Str}{c:Addr}{l:List (Str×Addr)}(h:∃c,(n,c)∈l)(U:∀x∈l,x.1=n->x.2=c):l.lookup n=c:=by
 induction l with
 |nil=>exact h.elim λH=>iZ
 |cons p r M=>
  obtain⟨m,d⟩:=p;simp only [dA];by_cases q:n=m
  .subst q;have:=U (n,d) (.head _) Y;simp at this⊢;exact this
  .have O:(n==m)=false:=by simpa using q
   refine J O ?_;clear O;refine M ?_ λx N=>U x<|.tail _ N;clear U;obtain⟨D,h⟩:=h;exact(mO h).elim (λe=>by injection e with e;subst e;exact absurd Y q) λh=>⟨D,h⟩
def lookup_none{n:Str}{l:List (Str×Addr)}(h:∀c,(n,c)∉l):l.lookup n=none:=by
 induction e:l.lookup n with
 |none=>rfl
 |some c=>exact absurd (mem_lookup e)<|h c
def kH{l:List (Str×Addr)}{n:Str}{k:List (Str×Addr)}:(l++k).lookup n=(l.lookup n).or (k.lookup n):=List.lookup_append
def iK:∀(names:List (Str×NameKind)) (n:Nat) (acc:List (Str×Addr)),cellsFrom n names acc=cellsFrom n names []++acc:=λnames=>names.rec (λn acc=>rfl) λU r O=>by
  intro n acc;dsimp only [cellsFrom];split
  .simp only [O (n+1) ((U.1,n)::acc),O (n+1) [(U.1,n)],aj];rfl
  .exact O n acc
def qa:∀(names:List (Str×NameKind)) (n:Nat) (x:Str×Addr),x∈cellsFrom n names []->(x.1,NameKind.cell)∈names:=λnames=>names.rec (λn x=>iZ) λU r M=>by
  intro n x h;dsimp only [cellsFrom] at h;split at h
  .rename_i O;have O:U.2=.cell:=by simpa using O
   rw [iK] at h;exact(mA h).elim (λh=>.tail _<|M _ x h) λh=>J (mS h)<|jn O<|.head _
  .exact .tail _ (M _ x h)
def nq:∀(names:List (Str×NameKind)) (n:Nat),(y,NameKind.cell)∈names->∃c,(cellsFrom n names []).lookup y=some c:=λnames=>names.rec (λn=>iZ) λO r U=>by
  intro n h;dsimp only [cellsFrom];rcases mO h with e|h
  .refine jn e (J (iK ..)<|J kH ?_);induction e:(cellsFrom (n+1) r []).lookup y with
   |some c=>exact⟨c,Y⟩
   |none=>exact⟨n,by simp⟩
  .split
   .exact bQ (U (n+1) h) λc e=>J (iK ..)<|J kH<|J e ⟨c,Y⟩
   .exact U n h
def wL(h:∀n,(n,NameKind.free)∈scope.names->(env.cells.lookup n).isSome=true):closureFor scope env=pure (lN scope.names env.cells []):=by
 dsimp only [closureFor]
 have O:∀(names:List (Str×NameKind)) (acc:List (Str×Addr)),(∀n,(n,NameKind.free)∈names->(env.cells.lookup n).isSome=true)->
   (forIn names acc λx (P:List (Str×Addr))=>(if(x.2==NameKind.free)=true then(do let c<-cellOf env x.1;pure (ForInStep.yield ((x.1,c)::P)))else pure (ForInStep.yield P):Sem (ForInStep<|List<|Str×Addr)))=pure (lN names env.cells acc):=λnames=>names.rec (by intro acc _;rfl) λp r H=>by
   intro acc D;obtain⟨n,k⟩:=p;refine(jB ..).trans ?_;dsimp only [lN];exact if hk:(k==NameKind.free)=true then(by
    have N:k=.free:=by simpa using hk
    subst N;obtain⟨c,L⟩:=Option.isSome_iff_exists.mp<|D n<|.head _;have U:cellOf env n=pure c:=by delta cellOf;exact J L Y
    exact U▸L▸H _ (λm M=>D m<|.tail _ M))else bV (az hk) (az hk) (H _ λm M=>D m<|.tail _ M)
 have:=O scope.names [] h;simpa using this
noncomputable def QV:Option NameKind->Bool
 |some .local=>true
 |some .cell=>true
 |_=>false
noncomputable def QW:Option NameKind->Bool
 |some .free=>true
 |some .cell=>true
 |_=>false
def zk(nm:List Str)(own:List Nat)(ks:List (Str×NameKind))(U:Scope):Bool:=
 decide (U.kind=.function)&&decide ((U.names.map (·.1)).Nodup)&&own.all (λi=>decide<|i<nm.length)&&
 (List.range nm.length).all (λi=>match nm[i]? with|some x=>QV (U.names.lookup x)==own.contains i|none=>true)&&
 U.names.all (λp=>p.2 != .free ||(nm.contains p.1&&QW (ks.lookup p.1)))
structure tJ(nm:List Str)(own:List Nat)(ks:List (Str×NameKind))(sc:Scope):Prop where
 kind:sc.kind=.function
 fW:(sc.names.map (·.1)).Nodup
 own:∀(i:Nat) x,nm[i]? =some x->(QV (sc.names.lookup x)=true↔i∈own)
 free:∀n,(n,NameKind.free)∈sc.names->(∃i:Nat,nm[i]? =some n)/\QW (ks.lookup n)=true
def LB(h:zk nm own ks M=true):tJ nm own ks M:=by
 delta zk at h;simp only [cF,cy] at h;obtain⟨⟨⟨⟨Q,P⟩,X⟩,L⟩,H⟩:=h;refine⟨Q,P,λi x O=>?_,λn N=>?_⟩
 .have U:=(List.getElem?_eq_some_iff.mp O).1;have:=aT L i<|Ii U;rw [O] at this;rw [kQ] at this;refine J this ?_;simp
 .have:=aT H _ N;simp only [iT,Bool.false_or,cF] at this;refine⟨?_,this.2⟩;have D:n∈nm:=by simpa using this.1
  obtain⟨i,U,e⟩:=List.mem_iff_getElem.mp D;exact⟨i,List.getElem?_eq_some_iff.mpr ⟨U,e⟩⟩
def mem_of_lookupK{names:List (Str×NameKind)}{x}{k}(h:names.lookup x=some k):(x,k)∈names:=mem_of_lookup h
def ni{names:List (Str×NameKind)}{x}{k}(U:(names.map (·.1)).Nodup)(h:(x,k)∈names):names.lookup x=k:=by
 induction names with
 |nil=>exact iZ h
 |cons p r O=>
  obtain⟨n,j⟩:=p;simp only [aZ,dZ] at U;simp only [dA];rcases mO h with e|h
  .cases e;simp
  .have:¬x=n:=λe=>U.1<|GL ⟨(x,k),h,e⟩;have M:(x==n)=false:=by simpa using this
   exact M▸O U.2 h
def oe:∀(own:List Nat) (ρ:En) (i:Nat) (a:AV),(dO own ρ)[i]? =some (some a)->i∉own/\ρ[i]? =some (some a):=λown=>own.rec (λρ i a h=>⟨List.not_mem_nil,h⟩) λx D O=>by
  refine λρ i a h=>And.elim (λN U=>?_)<|O (ρ.set x none) i a h;clear h;by_cases q:i=x
  .subst q;replace U:=List.getElem?_set_self'▸U;induction hρ:ρ[i]? <;>replace U:=hρ▸U<;>cases U
  .exact⟨λM=>(mO M).elim q N,(jn (ew λe=>q e.symm) U)⟩
def qv:∀(own:List Nat) (ρ:En),(dO own ρ).length=ρ.length:=λown=>own.rec (λρ=>rfl) λx O U=>by intro ρ;dsimp only [dO];exact J (U _) bE
section
variable{st:St}{s:Shared}{U:Env}
def Wc(L:Addr)(names:List (Str×NameKind)):Addr->Prop:=λa=>a=L\/∃p∈cellsFrom (L+1) names [],a=p.2
def jb(O:Scope)(L:Addr)(U:Env):Env:=
 {scope:={O with names:=gS U.scope.names O.names},locals:=L,globals:=U.globals,cells:=cellsFrom (L+1) O.names<|lN O.names U.cells [],qual:=U.qual,func:=none,code:=U.code,frame:=U.frame,builtins:=U.builtins}
noncomputable def gf(h:Heap)(O:Scope):Heap:=pushCells (h.push {cls:=.type "dict",data:=.dict #[]}) O.names
def zF{E}
  (h:Q {scope:=O,locals:=s.heap.objs.size,globals:=U.globals,cells:=cellsFrom (s.heap.objs.size+1) O.names cl,qual:=U.qual,func:=none,code:=U.code,frame:=U.frame,builtins:=U.builtins} {s with heap:=gf s.heap O}):
  wpAny M A (newFunctionEnv O U.globals cl [] U.qual none .none U) Q E s:=by
 dsimp only [newFunctionEnv,Option.isSome_some];refine ao<|wpAny_alloc<|ao<|wpAny_layCells _ (λname kind cells=>by induction hkc:kind==NameKind.cell<;>exact rfl) _ _ _ _ ?_;exact J (gL ..)<|ao<|ay<|ay h
structure OwC(h:Heap)(sc:Scope)(x:Str×Addr):Prop where
 mem:(x.1,NameKind.cell)∈sc.names
 cell:(gf h sc).IsCell x.2 none
 ge:h.objs.size+1<=x.2
def mI{b}(e:h.get? b=some o):(gf h O).get? b=some o:=pushCells_keeps _ _ b o<|aP _ e
def vO:CellsOk (gf h O) (h.objs.size+1) (cellsFrom (h.objs.size+1) O.names []):=by
 have ok:=cellsFrom_ok O.names (h.push {cls:=.type "dict",data:=.dict #[]}) (h.objs.size+1) [] ⟨fun M M N=>(iZ N),List.Pairwise.nil⟩ (J (gL ..) .refl)
 rwa [gL] at ok
def mm(O:x∈cellsFrom (h.objs.size+1) M.names []):OwC h M x:=⟨qa _ _ _ O,(vO.empty x.1 x.2 O).1,(vO.empty x.1 x.2 O).2⟩
def yP:(gf h M).Ns h.objs.size (fun O=>none):=(Heap.Ns.new h<|.type "dict").keeps<|pushCells_keeps _ _
def yz(h:QW (U.scope.names.lookup x)=true):U.kindOf x=some .cell\/U.kindOf x=some .free:=by
 delta Env.kindOf
 revert h
 induction U.scope.names.lookup x with
 |none=>exact nb
 |some k=>induction k<;>first|exact λO=>.inl Y|exact λO=>.inr Y|exact nb
def GV{O:Scope}{h:Heap}{a}(w:Wc h.objs.size O.names a):h.objs.size<=a:=w.elim (λe=>aG e.symm) λq=>by obtain⟨p,M,e⟩:=q;exact J e<|eJ (mm M).ge
def A8{O:Scope}{h}{a}(w:Wc h.objs.size O.names a):¬gV h a:=λq=>by obtain⟨o,e⟩:=q;exact Nat.not_lt.mpr (GV w)<|cZ e
def i4:(jb O L U).cells=cellsFrom (L+1) O.names []++lN O.names U.cells []:=iK ..
structure Y8(U:Env)(sc:Scope)(x:Str×Addr):Prop where
 mem:(x.1,NameKind.free)∈sc.names
 look:U.cells.lookup x.1=some x.2
def jR(F:jx C g s.heap nm own W U B)(X:tJ nm N U.scope.names M)(H:x∈lN M.names U.cells []):Y8 U M x:=by
 rcases Gb _ _ _ H with h|⟨D,P⟩
 .exact iZ h
 .obtain⟨⟨i,L⟩,O⟩:=X.free _ D;obtain⟨c,A,Q,_⟩:=F.xD i _ L<|yz O;exact⟨D,by simp only [Q,P];rfl⟩
def D9(F:jx C g s.heap nm own W U D)(X:tJ nm O U.scope.names M)(N:x∈lN M.names U.cells []):Fa U x.2:=Fa.cell (jR F X N).look
def D6(F:jx C g s.heap nm own W U D)(X:tJ nm O U.scope.names M)(N:x∈lN M.names U.cells []):x.2<s.heap.objs.size:=by obtain⟨_,e⟩:=(F.out _<|D9 F X N).live;exact cZ e
inductive LkO(sc:Scope)(h:Heap)(U:Env)(x:Str):Prop
 |mk (d:Addr) (e:(jb sc h.objs.size U).cells.lookup x=some d) (m:(x,d)∈cellsFrom (h.objs.size+1) sc.names [])
def Im{x}(M:O.names.lookup x=some .cell):LkO O h U x:=
 (nq O.names (h.objs.size+1)<|mem_of_lookupK M).elim λc e=>⟨c,J i4<|kH.trans<|J e Y,mem_lookup e⟩
def Fm(F:jx C g s.heap nm own W U Q)(X:tJ nm D U.scope.names M)(H:M.names.lookup x=some .free):(jb M s.heap.objs.size U).cells.lookup x=U.cells.lookup x:=by
 have P:(cellsFrom (s.heap.objs.size+1) M.names []).lookup x=none:=lookup_none λc O=>by have:=ni X.fW (mm O).mem;exact nomatch (H▸this)
 obtain⟨c,O⟩:=Gd M.names [] (.inl<|mem_of_lookupK H);simp only [i4,kH,P,((jR F X O).look)];exact lookup_all ⟨c,O⟩ λy L N=>ak<|((jR F X L).look.symm.trans<|J N Y).trans<|(jR F X O).look
def xC(X:tJ nm O U.scope.names M){i:Nat}(H:nm[i]? =some x)(N:QV (M.names.lookup x)=true)(D:(dO O L)[i]? =some (some a)){P:Prop}:P:=((oe _ _ _ _ D).1<|(X.own i x H).mp N).elim
def JQ(F:jx C g s.heap nm own W U Q)(S:cH C g st s.heap)(X:tJ nm D U.scope.names M){a}(H:Fa (jb M s.heap.objs.size U) a):fM g (gf s.heap M) a:=by
 have new:Wc s.heap.objs.size M.names a->gV (gf s.heap M) a->fM g (gf s.heap M) a:=λN P=>
  ⟨λi=>A8 N<|S.live a i,λm=>A8 N<|S.fF m,P,λq=>absurd (aJ S.w0<|q▸GV N)<|by decide⟩
 rcases H with e|⟨p,O,e⟩
 .exact new (.inl e) (by obtain⟨o,_,_,q,_⟩:=yP;exact⟨o,J e q⟩)
 .rw [i4] at O;rcases mA O with O|O
  .exact new (.inr ⟨p,O,e⟩) (by refine bQ ((mm O).cell) λo L=>And.elim (λq B=>?_) L;exact⟨o,J e q⟩)
  .have o:=F.out a<|J e<|D9 F X O;exact⟨o.fA,o.mu,let⟨o,q⟩:=o.live;⟨o,mI q⟩,o.one⟩
def AB{cells}{names}:∀{acc},(names.map (·.1)).Nodup->acc.Pairwise (λx y=>x.1≠y.1)->(∀x∈acc,x.1∉names.map (·.1))->(lN names cells acc).Pairwise λx y=>x.1≠y.1:=by
 induction names with
 |nil=>exact λP h P=>h
 |cons p r H=>
  intro acc M L D;dsimp only [lN];split
  .exact H (nC M).2 (List.pairwise_cons.mpr ⟨λy Q q=>D y Q<|jn q<|.head _,L⟩) λx O=>(mO O).elim (λe=>J e (nC M).1)<|(λx O N=>D x O<|.tail _ N) x
  .exact H (nC M).2 L (λx O N=>D x O<|.tail _ N)
def JR(F:jx C g s.heap nm own W U o)(X:tJ nm N U.scope.names H):Z6 nm N (Wc s.heap.objs.size H.names) (jb H s.heap.objs.size U) where
 kind:=X.kind
 glob:=F.fs.glob
 blt:=F.fs.blt
 fW:=F.fs.fW
 wl:=.inl Y
 wf:=λa v=>v.elim .inl λq=>by obtain⟨p,O,h⟩:=q;exact .inr ⟨p,J i4<|bl _ O,h⟩
 wc:=(λi D x L c M=>by
   simp only [i4,kH] at M;induction e:(cellsFrom (s.heap.objs.size+1) H.names []).lookup x with
   |some r=>rw [e] at M;exact .inr ⟨_,mem_lookup e,(ak M).symm⟩
   |none=>replace M:=e▸M;have B:=(X.own i x L).mpr D;rw [(ni X.fW (jR F X<|mem_lookup M).mem)] at B;exact nb B)
 YT:=λp O=>by rw [i4] at O;exact(mA O).elim (λO=>jf (mm O).ge) λO=>dH<|D6 F X O
 YU:=by refine J i4 ?_;rw [List.pairwise_append];refine⟨vO.apart,?_,λx L y w q=>Nat.not_lt.mpr (eJ (mm L).ge)<|J q<|D6 F X w⟩;have:=AB (cells:=U.cells) X.fW .nil λf h=>(iZ h);rw [List.pairwise_iff_getElem] at this⊢;intro i j D Q P q;have A:=(jR F X<|eZ D).look;simp only [q] at A;exact this i j D Q P<|name_of_addr F.fs.YU (mem_lookup A)<|mem_lookup (jR F X<|eZ Q).look
inductive CfR(C:Cx)(g:Gh)(st:St)(s:Shared)(nm:List Str)(own':List Nat)(U:Env)(ρ:En)(sc:Scope):Prop
 |mk (S:cH C g st (gf s.heap sc)) (X:∀t,fg g.mu.length nx g s g {s with heap:=gf s.heap sc,toks:=t})
  (F:jx C g (gf s.heap sc) nm own' (Wc s.heap.objs.size sc.names) (jb sc s.heap.objs.size U) (dO own' ρ)) (w:∀a,Wc s.heap.objs.size sc.names a->¬gV s.heap a) (n:(gf s.heap sc).Ns s.heap.objs.size (λu9=>none))
def Co(F:jx C g s.heap nm own W U B)(S:cH C g st s.heap)(X:tJ nm H U.scope.names D):CfR C g st s nm H U B D:=
 ⟨S.grow λN N=>mI,λt=>jv S.iJ λ_ _=>mI,⟨JR F X,by refine J (qv ..) ?_;exact F.len,by
   refine⟨_,yP,λi x a Q O L=>xC X Q ?_ L⟩;replace O:(gS U.scope.names D.names).lookup x=some .local:=O;rw [rh] at O;obtain⟨k,P,M⟩:=Option.map_eq_some_iff.mp O;refine J P ?_;split at M
   .exact NameKind.noConfusion M
   .exact J M Y,(λi x Q O=>by
     replace O:(gS U.scope.names D.names).lookup x=some .cell\/(gS U.scope.names D.names).lookup x=some .free:=O;rw [rh] at O;induction e:D.names.lookup x with
     |none=>exact(e▸O).elim eg eg
     |some k=>
      induction k with
      |cell=>obtain⟨c,P,M⟩:=Im e;exact⟨c,none,P,(mm M).cell,λa L=>xC X Q (J e Y) L⟩
      |free=>obtain⟨c,w,P,⟨o,M,e3⟩,q⟩:=F.xD i x Q<|yz (X.free x<|mem_of_lookupK e).2;exact⟨c,w,(Fm F X e).trans P,⟨o,mI M,e3⟩,λa L=>by obtain⟨v,j,A⟩:=q a (oe _ _ _ _ L).2;exact⟨v,j,A.mono<|fi λN N=>mI⟩⟩
      |_=>exact(e▸O).elim (λh=>nomatch h) λh=>nomatch h),λN=>JQ F S X⟩,λN=>A8,yP⟩
end
section
variable{C:Cx}{st:St}{A:Around}{U:St}
def Bw(h:env.scope.kind=.function):relabel O env={O with names:=gS env.scope.names O.names}:=by delta relabel gS;congr 1;apply aX;refine λx M=>jn h ?_;simp [Env.kindOf]
def Fw(T:mL C g s.heap w I i M j){E:Value->Shared->Prop}(h:Q (.ref I) s):wpAny C.m A (pyIter<|.ref I) Q E s:=T.rec (λy z L=>wpAny_pyIter_rangeiter L h) (λl P n M N H D O=>wpAny_pyIter_listiter O h) (λk p M L N B O=>wpAny_pyIter_listiter O h) (λl P n M N H D O=>wpAny_pyIter_tupleiter O h) λl o v q N X H D O=>wpAny_pyIter_keyiter O.is h
inductive Runs(C:Cx)(g:Gh)(s:Shared)(nm:List Str)(own:List Nat)(W:Addr->Prop)(env:Env)(ρ:En)(U:St)(s':Shared):Prop
 |mk (g') (S:cH C g' U s'.heap) (x:fg g.mu.length W g s g' s') (F:jx C g' s'.heap nm own W env ρ)
def yZ(ρ ρ':En):Prop:=ρ.length=ρ'.length/\∀(i:Nat) a,ρ[i]? =some (some a)->ρ'[i]? =some (some a)
def jx.less(F:jx C g h nm own W env M)(l:yZ D M):jx C g h nm own W env D:=F.move l.1 (λi N e O k=>k N (l.2 i N e) λO r=>r) (λO O O e=>e) F.out
def jx.ext(F:jx C g h nm own W env D)(o:fM g h I)(N:¬Fa env I)(M:Heap.ExtBut I h H):jx C g H nm own W env D:=
 F.move Y (Sub.same<|hZ (λL i=>i) o M) (λa O h e=>M a O (λq=>N<|q▸h) e) λa h=>⟨(F.out a h).fA,(F.out a h).mu,let⟨O,e⟩:=(F.out a h).live;⟨O,M a O (λq=>N<|q▸h) e⟩,(F.out a h).one⟩
def jx.Wd(F:jx C g h nm own W env M) a(O:W a):¬g.fA a/\¬ql g.mu a:=⟨(F.out a<|F.fs.wf a O).fA,(F.out a<|F.fs.wf a O).mu⟩
structure Wz(m fl:Nat)(g0:Gh)(s0:Shared)(env:Env)(I:Addr):Prop where
 hI:¬gV s0.heap I
 Ti:¬Fa env I
 WW:fl<=m
 FC:g0.ro<=fl
structure A1(C:Cx)(m fl:Nat)(g0:Gh)(s0:Shared)(nm:List Str)(own:List Nat)(W:Addr->Prop)(env:Env)(ρ:En)(I:Addr)(i:Nat)(xs:List AV)(gd:Option (Nat×AC))(g:Gh)(st:St)(s:Shared):Prop where
 S:cH C g st s.heap
 F:jx C g s.heap nm own W env ρ
 x:fg m W g0 s0 g s
 T:mL C g s.heap fl I i xs gd
 o:fM g s.heap I
def A1.next(c:Wz m O g0 s0 env I)(L:A1 C m O g0 s0 nm own W env D I i M gd g st s)(X:pN C g st s I N)(H:mL C g N.heap O I (i+1) M gd):A1 C m O g0 s0 nm own W env D I (i+1) M gd g st N:=
 ⟨X.Lx,L.F.qr L.S (X.qr L.S) Y λa q=>J q ⟨L.o.fA,c.Ti⟩,L.x.ext c.hI X.ext X.gens X.os,H,L.o.fA,L.o.mu,X.live,L.o.one⟩
def A1.up(L:A1 C m Q g0 s0 nm own W env N I i D P g st s)(x:fg g.mu.length W g s M O):fg m W g s M O:=x.weaken L.x.len.2 (J L.x.ro L.x.rl) λH h=>h
def A1.run(c:Wz m D g0 s0 env I)(L:A1 C m D g0 s0 nm own W env j I i H Q g st s)(X:cH C N U M.heap)(x:fg m W g s N M)(B:jx C N M.heap nm own W env O):A1 C m D g0 s0 nm own W env O I i H Q N U M:=
 ⟨X,B,L.x.trans x,L.T.qr L.S (x.weaken c.WW (J L.x.ro c.FC) λw h=>h) L.o (λP=>c.Ti<|L.F.fs.wf I P) L.F.Wd,L.o.qr x⟩
def A1.fin(c:Wz m M g0 s0 env I)(L:A1 C m M g0 s0 nm own W env ρ I i xs gd g st s)(x:Heap.ExtBut I s.heap O.heap)(D:O.gens=s.gens)(N:O.os=s.os):fg m W g0 s0 g O/\jx C g O.heap nm own W env ρ:=⟨L.x.ext c.hI x D N,L.F.ext L.o c.Ti x⟩
noncomputable def ua(ifs:List PySem.Expr)(env:Env):Sem Bool:=forIn ifs true λc r=>if r=true then do let ok<-isTrue c env (eval c env);pure (ForInStep.yield ok)else pure (ForInStep.yield r)
noncomputable def kO(e:PySem.Expr)(acc:Value)(env:Env):List Comprehension×Sem Unit:=match e with
 | .ListComp O gens _ _=>(gens,do let _<-call (.builtin "list.append") [acc,<-eval O env])
 | .DictComp k v gens _ _=>(gens,do
   let kv<-eval k env;let vv<-holding [kv] (eval v env)
   match acc with
   | .ref d=>do
    standAt {k.pos with endLine:=v.pos.endLine,endCol:=v.pos.endCol}
    holding [kv,vv] (dictSet d kv vv)
   |_=>unsupported "internal:dictcomp")
 |_=>([],pure ())
def restOf(e:PySem.Expr)(d:Nat)(acc:Value)(env:Env):Sem Unit:=match(kO e acc env).1[d]? with
 |some O=>do
  let x<-eval O.iter env
  standAt O.iter.pos
  let x<-foldedSetIterable O.iter env x;let _<-runOwn (.compStart e d (<-holding [x] (pyIter x)) acc env) env
 |none=>(kO e acc env).2
inductive KU:PySem.Expr->Prop
 |lc {a g s p}:KU (.ListComp a g s p)
 |dc {a b g s p}:KU (.DictComp a b g s p)
set_option tactic.hygienic true in
theorem Ax(U:KU e)(j:(kO e acc env).1[d]? =some N)(w:N.is_async=0)(B:∀c∈(kO e acc env).1,c.is_async=0):
  compTurn e d H acc env=(standAt N.iter.pos>>=λ_=>pyNext H>>=λr=>match r with
   |none=>pure (.done .next)
   |some v=>letOwnedTupleGo N.target H v>>=λ_=>assign N.target env v>>=λ_=>ua N.ifs env>>=λok=>
    (if ok=true then(restOf e (d+1) acc env>>=λu9=>again<|.compLoop e d H acc env)else again (.compLoop e d H acc env))):=by
 refine cps λL O=>?_;induction U
 .rename_i A gens q P;have M:gens[d]? =N:=j;have Q:=B;refine O ?_;dsimp only [compTurn];simp only [M];refine J w<|iD λ_=>iD λr=>cps λL O=>?_;induction r with
  |none=>refine O ?_;rfl
  |some v=>
   refine O<|iD λ_=>iD λ_=>iD λok=>cps λL O=>?_;induction ok with
   |false=>refine O ?_;rfl
   |true=>
    refine O ?_;delta restOf;show _=((match gens[d+1]? with|some D=>_|none=>_)>>=_);cases hh:gens[d+1]? with
    |none=>rfl
    |some D=>have X:=Q D<|aN hh;simp only [X,iT,Bool.false_eq_true,if_false,if_true,bind_assoc,pure_bind]
 .rename_i kx vx gens q P;have M:gens[d]? =N:=j;refine O ?_;dsimp only [compTurn];simp only [M];refine J w<|iD λ_=>iD λr=>cps λL O=>?_;induction r with
  |none=>refine O ?_;rfl
  |some v=>
   refine O<|iD λ_=>iD λ_=>iD λok=>cps λL O=>?_;induction ok with
   |false=>refine O ?_;rfl
   |true=>
    refine O ?_;delta restOf;show _=((match gens[d+1]? with|some D=>_|none=>_)>>=_);cases hh:gens[d+1]? with
    |none=>rfl
    |some D=>have X:=B D<|aN hh;simp only [X,iT,Bool.false_eq_true,if_false,if_true,bind_assoc,pure_bind]
inductive aaO(C:Cx)(g:Gh)(s:Shared)(nm:List Str)(own:List Nat)(W:Addr->Prop)(env:Env)(ρ:En)(r:AV)(U:St)(v:Value)(s':Shared):Prop
 |mk (g') (S:cH C g' U s'.heap) (x:fg g.mu.length W g s g' s') (F:jx C g' s'.heap nm own W env ρ) (rv:VR C.w g' s'.heap r v) (e:g'.ro=g.ro)
inductive LcC(t:T)(chk:En->St->Option (Bool×St))(inner:En->St->Option St)(gd:Option (Nat×AC))(ρ:En)(st U:St)(x:AV)(xs:List AV):Prop
 |mk (ρ1 p st2) (a:fQ st t x ρ=some ρ1) (b:chk ρ1 st=some p) (c:(if p.1 then inner ρ1 p.2 else some p.2)=some st2) (k:cT st2 gd) (d:lr t chk inner gd xs ρ st2=some U)
def Fv{st U}(h:lr t N inner B (x::H) D st=some U):LcC t N inner B D st U x H:=
 dj h λO X h=>dj h λp Q h=>dj h λM P h=>jq h (λL h=>⟨O,p,M,X,Q,P,L,h⟩) λj=>eg
def As(M:KU e) d(O acc) env:C.m.den (.compLoop e d O acc env)=(compTurn e d O acc env).onRaise (λx=>do noteFrame x env;theTreesLotGoes x)/\A.under (.compLoop e d O acc env)=A/\(Code.compLoop e d O acc env).quiet=true:=by induction M<;>exact⟨Y,Around.under_of_weight Y,Y⟩
def FY(M:KU e) d(O acc) env:C.m.den (.compStart e d O acc env)=(compStart e d O acc env).onRaise (λx=>do noteFrame x env;standAt theWindowsPlace)/\A.under (.compStart e d O acc env)=A/\(Code.compStart e d O acc env).quiet=true:=by induction M<;>exact⟨Y,Around.under_of_weight Y,Y⟩
inductive IfP(C:Cx)(g:Gh)(s:Shared)(nm:List Str)(own:List Nat)(W:Addr->Prop)(env:Env)(ρ:En)(p:Bool×St)(b:Bool)(s':Shared):Prop
 |mk (e:b=p.1) (r:Runs C g s nm own W env ρ p.2 s')
inductive AsP(C:Cx)(A:Around)(cm:Comprehension)(v:Value)(g:Gh)(s:Shared)(nm:List Str)(own:List Nat)(W:Addr->Prop)(env:Env)(ρ ρ1:En)(st:St)(P:En->Prop):Prop
 |mk (p:P ρ1) (l:yZ ρ ρ1) (w:wpAny C.m A (assign cm.target env v) (λu9 s'=>Runs C g s nm own W env ρ1 st s') eV s)
structure WG(C:Cx)(A:Around)(nm:List Str)(own:List Nat)(W:Addr->Prop)(env:Env)(ρ:En)(ro:Nat)(e:PySem.Expr)(d:Nat)(cm:Comprehension)(acc:Value)(t:T)(chk:En->St->Option (Bool×St))(inner:En->St->Option St)(P:En->Prop)(Jzq:Gh->Prop):Prop where
 hl:KU e
 Q4:(kO e acc env).1[d]? =some cm
 ha:cm.is_async=0
 hn:∀c∈(kO e acc env).1,c.is_async=0
 asg:∀{x v ρ1 g s st},fQ st t x ρ=some ρ1->cH C g st s.heap->jx C g s.heap nm own W env ρ->g.ro=ro->VR C.w g s.heap x v->AsP C A cm v g s nm own W env ρ ρ1 st P
 ifs:∀{ρ1 st p g s},P ρ1->chk ρ1 st=some p->cH C g st s.heap->jx C g s.heap nm own W env ρ1->g.ro=ro->wpAny C.m A (ua cm.ifs env) (IfP C g s nm own W env ρ1 p) eV s
 Zu:∀{ρ1 st U g s},Jzq g->P ρ1->inner ρ1 st=some U->cH C g st s.heap->jx C g s.heap nm own W env ρ1->g.ro=ro->wpAny C.m A (restOf e (d+1) acc env) (λu9 s'=>Runs C g s nm own W env ρ1 U s') eV s
inductive Z8(C:Cx)(g0:Gh)(s0:Shared)(nm:List Str)(own:List Nat)(W:Addr->Prop)(env:Env)(ρ:En)(U:St):Result->Shared->Prop
 |mk {s'} (r:Runs C g0 s0 nm own W env ρ U s'):Z8 C g0 s0 nm own W env ρ U (.ok .next) s'
inductive WH(C:Cx)(fl:Nat)(g0:Gh)(s0:Shared)(nm:List Str)(own:List Nat)(W:Addr->Prop)(env:Env)(ρ:En)(I:Addr)(xs:List AV)(gd:Option (Nat×AC))(t:T)(chk:En->St->Option (Bool×St))(inner:En->St->Option St)(U:St)(n:Nat)(s':Shared):Prop
 |mk (i g' mf) (hn:n=xs.length-i) (hi:i<=xs.length) (h:lr t chk inner gd (xs.drop i) ρ mf=some U) (L:A1 C g0.mu.length fl g0 s0 nm own W env ρ I i xs gd g' mf s') (k:cT mf gd)
def WH.turn{n:Nat}{D}{P}{mf}(H:i<O.length)(h:lr t N inner M (O.drop<|i+1) ρ mf=U)(L:A1 C g0.mu.length fl g0 s0 nm own W env ρ I (i+1) O M P mf D)(k:cT mf M):
  ∃m,m<O.length-i/\WH C fl g0 s0 nm own W env ρ I O M t N inner U m D:=⟨O.length-(i+1),(Nat.sub_succ_lt_self O.length i H),i+1,P,mf,Y,H,h,L,k⟩
set_option tactic.hygienic true in
def tx(hh:A.handled=none)(Z:WG C A nm own W env Q ro e d cm acc t H inner P Jzq)(hJ:∀g' s',fg g0.mu.length W g0 s0 g' s'->Jzq g')(c:Wz g0.mu.length fl g0 s0 env I)(l:g0.ro=ro)(L:A1 C g0.mu.length fl g0 s0 nm own W env Q I 0 B gd g st s)(j:cT st gd)
  (h:lr t H inner gd B Q st=U):codeAny C.m A (.compLoop e d (.ref I) acc env) (Z8 C g0 s0 nm own W env Q U) s:=by
 obtain⟨d1,d2,d3⟩:=As Z.hl d (.ref I) acc env;refine codeAny_loop d3 (WH C fl g0 s0 nm own W env Q I B gd t H inner U) (λn s1 p=>?_) B.length ⟨0,g,st,Y,bf _,h,L,j⟩;induction p;rename_i i g1 mf hn hi h L j;refine wo d1 d2 hn<|wpAny_noted<|J (Ax Z.hl Z.Q4 Z.ha Z.hn)<|ao<|d4 ?_;by_cases O:i<B.length
 .refine ao (aY (t4 hh L.S L.T L.o j<|aW O) (λr s2 p=>?_) λM M e=>e.elim);induction p with|mk v rv X T2=>?_
  rw [eE O] at h;obtain⟨ρ1,p,st2,f,y,w,e4,e5⟩:=Fv h;obtain⟨hP,N,a⟩:=Z.asg f (L.next c X T2).S (L.next c X T2).F ((L.next c X T2).x.ro.trans l) rv;refine ao<|sV T2<|ao<|aY a (λM s3 q=>?_) λM M e=>e.elim;obtain⟨g3,S3,x3,F3⟩:=q;have L3:=(L.next c X T2).run c S3 ((L.next c X T2).up x3) F3;refine ao<|aY (Z.ifs hP y S3 F3<|L3.x.ro.trans l) (λok s4 q=>?_) λM M e=>e.elim;obtain⟨ho,g4,b,x4,F4⟩:=q;have D:=L3.run c b (L3.up x4) F4;refine ho▸?_;induction hp:p.1 with
  |false=>rw [hp] at w;simp only [ak w] at b D;exact ay ⟨Y,WH.turn (n:=n) O e5 (D.run c b (fg.refl D.x.len.2<|J D.x.ro D.x.rl)<|F4.less N) e4⟩
  |true=>rw [hp] at w;refine ao<|aY (Z.Zu (hJ _ _ D.x) hP w b F4<|D.x.ro.trans l) (λM s5 q=>?_) λM M e=>e.elim;obtain⟨g5,S5,x5,F5⟩:=q;exact ay ⟨Y,WH.turn (n:=n) O e5 (D.run c S5 (D.up x5)<|F5.less N) e4⟩
 .rw [fu (Nat.not_lt.mp O)] at h;refine jn (ak h)<|ao<|aY (next_end hh L.S L.T L.o j (cO<|Nat.not_lt.mp O) hi) (λr s2 p=>?_) λM M e=>e.elim;induction p with|mk S2 x2 f y=>?_
  exact ay ⟨g1,S2,(L.fin c x2 f y).1,(L.fin c x2 f y).2⟩
end
abbrev Ks:=List<|Str×NameKind
noncomputable def wD(nm:List Str)(ks:Ks)(own:List Nat)(x:Nat)(y:Str):Bool:=nm[x]? ==some y&&(ks.lookup y==some .local ||(ks.lookup y==some .cell&&own.contains x))
inductive CN(nm:List Str)(ks:Ks)(own:List Nat):List Nat->List PySem.Expr->Prop
 |nil:CN nm ks own [] []
 |cons {x y p xs pes}:wD nm ks own x y=true->CN nm ks own xs pes->CN nm ks own (x::xs) (.Name y p::pes)
inductive CT(nm:List Str)(ks:Ks)(own:List Nat):T->PySem.Expr->Prop
 |v {x y p}:wD nm ks own x y=true->CT nm ks own (.v x) (.Name y p)
 |t {xs pes k p}:CN nm ks own xs pes->CT nm ks own (.t xs) (.Tuple pes k p)
section
variable{st:St}{U:Env}
def Ds(h:wD nm U.scope.names own x y=true):nm[x]? =y/\(U.kindOf y=some .local\/(U.kindOf y=some .cell/\x∈own)):=by delta wD at h;simp only [cF,Bool.or_eq_true,kQ,List.contains_iff_mem] at h;exact h
def qZ(h:wD nm U.scope.names own x y=true)(F:jx C g s.heap nm own W U N)(S:cH C g st s.heap)(L:VR C.w g s.heap a D){O}(e:nr x a N=some O):
  wpAny M A (assign (.Name y p) U D) (λX H=>CL C g s nm own W U O st H) eV s:=by
 refine And.elim (λQ P=>?_)<|Ds h;exact wpAny_assign_Name<|J9 F S Q P L e
theorem CN.length{xs}(h:CN nm ks own xs O):(assignEach O U).length=xs.length/\(assignEach O U).findIdx? (·.1)=none:=h.rec ⟨Y,Y⟩ λD N M=>by refine⟨by show(_::assignEach _ U).length=_;simp [M.1],?_⟩;refine(List.findIdx?_cons).trans ?_;simp [M.2]
def B7{D}(h:CN nm U.scope.names own D N):∀{s} {as} {vs} {ρ ρ'},jx C g s.heap nm own W U ρ->cH C g st s.heap->eT C.w g s.heap as vs->fX D as ρ=some ρ'->
  wpAny M A (assignInOrder ((assignEach N U).map (·.2)) vs) (λO X=>CL C g s nm own W U ρ' st X) eV s:=by
 induction h with
 |nil=>
  intro s as vs ρ ρ' F S L e;induction as with
  |nil=>exact jn (ak e)<|ay ⟨S,fg.refl .refl S.iJ,F⟩
  |cons a as=>exact eg e
 |cons o i q=>
  intro s as vs ρ ρ' F S L e;induction as with
  |nil=>exact eg e
  |cons a as=>obtain⟨v,Q,ev,j,B⟩:=L;refine J ev<|dj e λP r f=>ao<|bD<|aY (qZ o F S j r) (λO s1 p=>?_) λO O e=>e;obtain⟨S1,H,F1⟩:=p;exact aY (q F1 S1 (B.mono<|H.vh S λa y=>(F.out a<|F.fs.wf a y).fA) f) (λO s2 p=>⟨p.1,H.trans p.2,p.3⟩) λO O e=>e
def qA{O}:∀{as} {ρ ρ'},fX O as ρ=some ρ'->O.length=as.length:=by
 induction O with
 |nil=>
  intro as ρ ρ' e;induction as with
  |nil=>rfl
  |cons _ _=>exact eg e
 |cons x O N=>
  intro as ρ ρ' e;induction as with
  |nil=>exact eg e
  |cons a as=>exact dj e λM H D=>congrArg Nat.succ<|N D
inductive RwR(st:St)(a:AV)(xs:List Nat)(ρ ρ':En):Prop
 |mk (as) (h:vw st a=.T as\/vw st a=.L as) (e:fX xs as ρ=some ρ')
def wb{D}{N O}(e:fQ st (.t D) a N=some O):RwR st a D N O:=by
 replace e:(match vw st a with| .T M=>fX D M N| .L M=>fX D M N|_=>none)=some O:=e;induction hv:vw st a with
 |T M=>rw [hv] at e;exact⟨M,.inl hv,e⟩
 |L M=>rw [hv] at e;exact⟨M,.inr hv,e⟩
 |_=>exact eg<|hv▸e
set_option tactic.hygienic true in
def yV(y:A.handled=none)(h:CT nm U.scope.names own t j)(F:jx C g s.heap nm own W U Q)(S:cH C g st s.heap)(L:VR C.w g s.heap a H)(e:fQ st t a Q=some M):
  wpAny C.m A (assign j U H) (λO X=>CL C g s nm own W U M st X) eV s:=by
 induction h with
 |v h=>exact qZ h F S L e
 |t h=>rename_i o N k p;obtain⟨r,q,P⟩:=wb e;refine(?_:wpAny _ _ (standAt p>>=λO=>unpack H<|assignEach N U) _ _ s);refine ao<|d4 ?_;delta unpack;refine J h.length.1<|bV h.length.2 (qA P)<|ao<|bD<|aY (wU y S L q) (λf s1 p=>?_) λO O e=>e;obtain⟨S1,D,B⟩:=p;exact aY (B7 h (F.wK S D) S1 B P) (λO s2 p=>⟨p.1,(D.weaken .refl S.iJ λO h=>h.elim).trans p.2,p.3⟩) λO O e=>e
noncomputable def NV:T->List Nat
 | .v x=>[x]
 | .t O=>O
def xG(e:nr x a N=some O)(h:N[x]? =some none):yZ N O:=by refine jn ((pf e).2) ⟨J bE Y,λi b M=>?_⟩;exact(ew λq=>by simp only [<-q,h] at M;cases M).trans M
def sL(e:nr x a M=some O)(N:y≠x):O[y]? =M[y]? :=jn ((pf e).2)<|ew λe=>N e.symm
theorem yZ.trans(x:yZ ρ M)(y:yZ M O):yZ ρ O:=⟨x.1.trans y.1,λi a h=>y.2 i a<|x.2 i a h⟩
structure AsL(xs:List Nat)(ρ ρ':En):Prop where
 l:yZ ρ ρ'
 h:∀y,y∉xs->ρ'[y]? =ρ[y]?
def tD{O}:∀{as} {ρ ρ'},fX O as ρ=some ρ'->O.Nodup->(∀x∈O,ρ[x]? =some none)->AsL O ρ ρ':=by
 induction O with
 |nil=>
  intro as ρ ρ' e _ _;induction as with
  |nil=>exact jn (ak e) ⟨⟨Y,λN N h=>h⟩,λN N=>rfl⟩
  |cons _ _=>exact eg e
 |cons x O Q=>
  intro as ρ ρ' e H L;induction as with
  |nil=>exact eg e
  |cons a as=>refine dj e λP D X=>?_;have z:=Q X (nC H).2 λy M=>(sL D λq=>(nC H).1<|jn q M).trans<|L y<|.tail _ M;exact⟨(xG D<|L x<|.head _).trans z.l,λy M=>(z.h y λm=>M<|.tail _ m).trans<|sL D λq=>M<|q▸.head _⟩
def Gq(e:fQ st t a M=some O)(D:(NV t).Nodup)(N:∀x∈NV t,M[x]? =some none):yZ M O/\∀y,y∉NV t->O[y]? =M[y]? :=by
 induction t with
 |v x=>exact⟨xG e<|N x<|.head _,λy H=>sL e λq=>H<|q▸.head _⟩
 |t L=>obtain⟨P,_,e⟩:=wb e;exact⟨(tD e D N).l,(tD e D N).h⟩
def Cs:∀{ρ},i∉l->(dO l ρ)[i]? =ρ[i]? :=by
 induction l with
 |nil=>exact λN=>rfl
 |cons y l M=>exact λO=>(M λm=>O<|.tail _ m).trans<|ew λ(e:y=i)=>O<|jn e<|.head _
def AD own:∀ρ i,i∈own->i<ρ.length->(dO own ρ)[i]? =some none:=own.rec (λO O h O=>iZ h) λx N D ρ i h M=>if q:i∈N then D (ρ.set x none) i q (jn List.length_set.symm M)else by have:x=i:=((mO h).elim id λh=>(q h).elim).symm;exact J this<|(Cs q).trans<|dW M
end
inductive NO(C:Cx)(g:Gh)(s:Shared)(r:AV)(st':St):Result->Shared->Prop
 |mk {v s'} (p:b7 C g s r st' v s'):NO C g s r st' (.ok<|.ret v) s'
def nQ(C:Cx)(Φ:Fs)(n:Nat):Prop:=∀ro f args st r U,Φ ro f args st=some (r,U)->∀{A:Around} {g:Gh} {s:Shared} {vs:List Value},mV A n->cH C g st s.heap->g.ro=ro->eT C.w g s.heap args vs->
 codeAny C.m A (.call (.ref f) ⟨vs,[]⟩) (NO C g s r U) s
structure Bd where
 C:Cx
 Φ:Fs
 nm:List Str
 n:Nat
structure Pre(B:Bd)(ks:Ks)(own:List Nat)(W:Addr->Prop)(env:Env)(ρ:En)(A:Around)(g:Gh)(st:St)(s:Shared)(ro:Nat):Prop where
 hk:env.scope.names=ks
 R:mV A (B.n+1)
 S:cH B.C g st s.heap
 F:jx B.C g s.heap B.nm own W env ρ
 hr:g.ro=ro
inductive Kk(C:Cx)(g:Gh)(s:Shared)(xs:List AV)(st':St)(vs:List Value)(s':Shared):Prop
 |mk (g') (S:cH C g' st' s'.heap) (X:fg g.mu.length nx g s g' s') (r:eT C.w g' s'.heap xs vs)
inductive ox(C:Cx)(g:Gh)(s:Shared)(b:Bool)(st':St)(x:Bool)(s':Shared):Prop
 |mk (e:x=b) (p:pS C g s st' s')
section
variable(B:Bd)(K:Frag)
def d5(ks:Ks)(e:E)(pe:PySem.Expr):Prop:=∀{own:List Nat} {W:Addr->Prop} {env:Env} {ρ:En} {A:Around} {g:Gh} {st:St} {s:Shared} {ro:Nat} {r:AV} {U:St},
 Pre B ks own W env ρ A g st s ro->bZ B.Φ ro e ρ st=some (r,U)->wpAny B.C.m A (eval pe env) (b7 B.C g s r U) eV s
structure oz(ks:Ks)(es:List E)(pes:List PySem.Expr):Prop where
 st:∀env,(starEach pes env).any (·.1)=false
 len:pes.length=es.length
 ok:∀{own:List Nat} {W:Addr->Prop} {env:Env} {ρ:En} {A:Around} {g:Gh} {st:St} {s:Shared} {ro:Nat} {xs:List AV} {st':St} (pos:Pos),
  Pre B ks own W env ρ A g st s ro->gP B.Φ ro es ρ st=some (xs,st')->wpAny B.C.m A (spliced<|backTo pos<|starEach pes env) (Kk B.C g s xs st') eV s
def pR(ks:Ks)(e:E)(pe:PySem.Expr):Prop:=∀{own:List Nat} {W:Addr->Prop} {env:Env} {ρ:En} {A:Around} {g:Gh} {st:St} {s:Shared} {ro:Nat} {b:Bool} {U:St},
 Pre B ks own W env ρ A g st s ro->bZ B.Φ ro e ρ st=some (.bool b,U)->wpAny B.C.m A (isTrue pe env<|eval pe env) (ox B.C g s b U) eV s
end
section
variable{st:St}{U:Env}{K:Frag}
def fg.then{W}{O M}{s1 s2}(x:fg N W g s O s1)(y:fg O.mu.length W O s1 M s2):fg N W g s M s2:=x.trans<|y.weaken x.len.2 (J x.ro x.rl) λD h=>h
def b7.kP(x:fg g.mu.length nx g s N s1)(p:b7 C N s1 r O v M):b7 C g s r O v M:=by obtain⟨D,H,y,q⟩:=p;exact⟨D,H,x.then y,q⟩
def pS.kP(x:fg g.mu.length nx g s N s1)(p:pS C N s1 O M):pS C g s O M:=by obtain⟨D,H,y⟩:=p;exact⟨D,H,x.then y⟩
def wN(x:fg g.mu.length nx g s N s1)(h:wpAny C.m A m (b7 C N s1 r M) eV s2):wpAny C.m A m (b7 C g s r M) eV s2:=aY h (λO O q=>q.kP x) λO O e=>e
def fg.k0(x:fg g.mu.length nx g s M O)(S:cH C g st s.heap):Keeps g s.heap M O.heap:=x.vh S λN h=>h.elim
def Pre.then{O}{mf:St}{s1}(P:Pre B ks own W U ρ A g st s ro)(S1:cH B.C O mf s1.heap)(x:fg g.mu.length nx g s O s1):Pre B ks own W U ρ A O mf s1 ro:=⟨P.hk,P.R,S1,P.F.wK P.S x,x.ro.trans P.hr⟩
theorem d5.k(h:d5 B ks e pe)(P:Pre B ks own W U ρ A g st s ro){p}(H:bZ B.Φ ro e ρ st=some p)(k:∀{M s1 v},Pre B ks own W U ρ A M p.2 s1 ro->fg g.mu.length nx g s M s1->VR B.C.w M s1.heap p.1 v->Q v s1):
  wpAny B.C.m A (eval pe U) Q eV s:=aY (h P H) (λO O q=>by obtain⟨_,S1,N,D⟩:=q;exact k (P.then S1 N) N D) λO O e=>e
theorem oz.k(h:oz B ks es M)(P:Pre B ks own W U ρ A g st s ro){p}(L:gP B.Φ ro es ρ st=some p)(k:∀{N s1 vs},Pre B ks own W U ρ A N p.2 s1 ro->fg g.mu.length nx g s N s1->eT B.C.w N s1.heap p.1 vs->Q vs s1):
  wpAny B.C.m A (spliced<|backTo pos<|starEach M U) Q eV s:=aY (h.ok pos P L) (λO O q=>by obtain⟨_,S1,D,H⟩:=q;exact k (P.then S1 D) D H) λO O e=>e
def qy{b}(h:mJ a=some b):a=.bool b:=by cases a<;>first|exact eg h|exact congrArg _<|ak h
theorem pR.k(h:pR B ks e pe)(P:Pre B ks own W U ρ A g st s ro){b:Bool}(H:bZ B.Φ ro e ρ st=some p)(D:mJ p.1=some b)(k:∀{N s1},Pre B ks own W U ρ A N p.2 s1 ro->fg g.mu.length nx g s N s1->Q b s1):
  wpAny B.C.m A (isTrue pe U<|eval pe U) Q eV s:=
 aY (h P<|J H<|jn (qy D) Y) (λO O q=>by obtain⟨e,_,S1,M⟩:=q;exact J e<|k (P.then S1 M) M) λO O e=>e
theorem d5.b6{a b}(w:d5 B ks a X)(j:d5 B ks b Q):d5 B ks (.b6 o a b) (.BinOp X o.op Q p):=by intro own W U f A g st s i r D P e;exact dj e λt v e=>dj e λc q e=>wpAny_BinOp<|w.k P v λM N L=>j.k M q λy O H=>wN (N.then O)<|Sg y.S (L.mono<|O.k0 M.S) H e
def mV.cmp(R:mV A n):A.units+Mine.Internal.dp+30<cLine:=by have:=R.units;show A.units+300+30<_;exact lq [_,_] [aH (.s<|.a (.a ax<|.m 8 aE)<|.c 400) (.c 9900)] (.s<|.a (.a ax<|.c 300)<|.c 30) (.c 9900) Y this
def mV.Q1(R:mV A n):A.in1.units<cLine:=by have:=R.units;show A.units+1<_;exact lq [_,_] [aH (.s<|.a (.a ax<|.m 8 aE)<|.c 400) (.c 9900)] (.s<|.s ax) (.c 9900) Y this
theorem d5.bk{a b}(w:behindInMarks o.op M=false)(v:d5 B ks a j)(q:d5 B ks b M):d5 B ks (.bk o a b) (.Compare j [o.op] [M] p):=by intro own W U c A g st s l r L P e;exact dj e λh i e=>dj e λn f e=>dj e λx y e=>b7.wp (ak e)<|wpAny_Compare1 (v.k P i λD H X=>q.k D f λN O Q=>JT P.R.cmp N.S (X.mono<|O.k0 D.S) Q y λt=>b7.kP (H.then O)<|cC N.S Y) w
def m8(e:some (AV.bool x,mf)=some (.bool y,O)):x=y/\mf=O:=by cases e;exact⟨Y,Y⟩
theorem pR.bk{a b}(w:behindInMarks o.op N=false)(v:d5 B ks a j)(q:d5 B ks b N):pR B ks (.bk o a b) (.Compare j [o.op] [N] p):=by
 intro own W U c A g st s l r L P e;exact dj e λh i e=>dj e λn f e=>dj e λx y e=>wpAny_isTrue_Compare1 (v.k P i λD H X=>q.k D f λO M Q=>JT P.R.cmp O.S (X.mono<|M.k0 D.S) Q y λt=>
  fS ⟨(m8 e).1,jn (m8 e).2 ⟨_,O.S,(H.then M).then<|vE O.S.iJ⟩⟩) w
def pR.of(h:d5 B ks e pe)(D:∀U whole,isTrue pe U whole=(do let v<-whole;standAt pe.pos;holding [v] (truthy v))):pR B ks e pe:=by intro own W U L A g st s Q r M P e;refine isTrue_plain (h.k P e λ{_ _ v} H O N=>?_)<|D U _;exact J N<|fS ⟨Y,_,H.S,O⟩
theorem pR.not(h:pR B ks e pe):pR B ks (.not e) (.UnaryOp .Not pe p):=by intro own W U L A g st s Q r M P e;exact dj e λX D e=>dj e λx N e=>isTrue_not<|h.k P D N λH O=>⟨(m8 e).1,jn (m8 e).2 ⟨_,H.S,O⟩⟩
theorem d5.not(h:d5 B ks e pe):d5 B ks (.not e) (.UnaryOp .Not pe p):=by intro own W U Q A g st s X r M P e;exact dj e λj H e=>dj e λx D e=>b7.wp (ak e)<|UnaryOp_<|h.k P H λ{_ _ v} L O N=>((qy D)▸N)▸not_of (fS ⟨_,L.S,O,Y⟩)
theorem pR.ite{c a b}{N H D}{p}(X:pR B ks c N)(w:pR B ks a H)(j:pR B ks b D):pR B ks (.ite c a b) (.IfExp N H D p):=by
 intro own W U o A g st s f r Q P e;refine dj e λi y e=>dj e λx v e=>isTrue_IfExp<|X.k P y v λL M=>?_;induction x with
 |true=>exact aY (w L e) (λO O q=>⟨q.1,q.2.kP M⟩) λO O e=>e
 |false=>exact aY (j L e) (λO O q=>⟨q.1,q.2.kP M⟩) λO O e=>e
theorem d5.ite{c a b}{M D N}{p}(Q:pR B ks c M)(j:d5 B ks a D)(X:d5 B ks b N):d5 B ks (.ite c a b) (.IfExp M D N p):=by
 intro own W U v A g st s y r L P e;refine dj e λo q e=>dj e λx w e=>IfExp_<|Q.k P q w λH O=>?_;induction x with
 |true=>exact wN O<|j H e
 |false=>exact wN O<|X H e
def oz.nil:oz B ks [] []:=⟨λH=>rfl,Y,λ{own W U D A g st s L M O} N P e=>wpAny_items_nil<|NX (P:=λM O=>Kk B.C g s M O [] s) e ⟨g,P.S,fg.refl .refl P.S.iJ,Y⟩⟩
def oz.cons{e}{pe}{X}{M}(Q:∀rest U,starEach (pe::rest) U=(false,eval pe U)::starEach rest U)(h:d5 B ks e pe)(N:oz B ks X M):oz B ks (e::X) (pe::M):=
 ⟨λU=>by rw [Q];exact N.st U,congrArg Nat.succ N.len,λ{own W U i A g st s c D O} o P e=>dj e λt r e=>dj e λb f e=>wpAny_items_cons (h.k P r λ{_ _ v} j w y=>N.k j f λ{_ s2 L} p H q=>
  NX (P:=λD O=>Kk B.C g s D O (v::L) s2) e ⟨_,p.S,w.then H,v,L,Y,y.mono<|H.k0 j.S,q⟩)<|Q ..⟩
theorem d5.aL{k}(h:oz B ks L O):d5 B ks (.aL L) (.Tuple O k p):=by intro own W U j A g st s w r D P e;exact dj e λq Q e=>lT e λH e=>b7.wp e<|wpAny_Tuple<|h.k P Q λ{_ s1 _} X N M=>⟨jn M.length<|iN H,b7.kP N<|tW X.S M⟩
theorem d5.aM(h:oz B ks L O):d5 B ks (.aM L) (.List O p):=by intro own W U j A g st s w r D P e;exact dj e λq Q e=>lT e λH e=>b7.wp e<|wpAny_List<|h.k P Q λ{_ s1 _} X N M=>⟨jn M.length<|iN H,b7.kP N<|tX X.S M⟩
theorem d5.Fj(h:oz B ks L O):d5 B ks (.Fj L) (.List O p):=by intro own W U j A g st s w r H P e;exact dj e λq Q e=>lT e λN e=>b7.wp e<|wpAny_List<|h.k P Q λ{_ s1 _} X D M=>⟨jn M.length<|iN<|aB (a8 N).1,b7.kP D<|HN X.S M (a8 N).2⟩
theorem d5.aI{x}{pe}(h:∀{A:Around} {U} {g} {st:St} {s},cH B.C g st s.heap->wpAny B.C.m A (eval pe U) (b7 B.C g s x st) eV s):d5 B ks (.aI x) pe:=by intro own W U M A g st s N r O P e;exact NX (P:=λr O=>wpAny _ A _ (b7 B.C g s r O) eV s) e<|h P.S
def d5.V1{k}{p}:d5 B ks (.aI .none) (.Constant .none k p):=d5.aI (x:=.none) λ{_ _ _ _ s} S=>wpAny_Constant_none<|cC S Y
def d5.cBool{k}{p}{b}:d5 B ks (.aI<|.bool b) (.Constant (.bool b) k p):=d5.aI (x:=.bool b) λ{_ _ _ _ s} S=>wpAny_Constant_bool<|cC S Y
def d5.cInt{k}{p}{i}:d5 B ks (.aI<|.int i) (.Constant (.int i) k p):=d5.aI (x:=.int i) λS=>wpAny_Constant_int<|cC S ⟨_,Y⟩
def d5.YG{k}{p q}{i j}(h:i= -j):d5 B ks (.aI<|.int i) (.UnaryOp .USub (.Constant (.int j) k p) q):=d5.aI λS=>UnaryOp_<|wpAny_Constant_int<|PySem.P.neg_int<|h▸cC S ⟨_,Y⟩
def d5.cStr{k}{p}{l}{x}(h:wF l=x):d5 B ks (.aI<|.str l) (.Constant (.str x) k p):=d5.aI λS=>wpAny_Constant_str<|h▸cC S ⟨_,Y⟩
noncomputable def isVar:Option NameKind->Bool
 |some .local=>true
 |some .cell=>true
 |some .free=>true
 |_=>false
def My(h:isVar k=true):∃j,k=some j/\(j=.local\/j=.cell\/j=.free):=by
 induction k with
 |none=>exact nb h
 |some k=>induction k<;>first|exact⟨_,Y,.inl Y⟩|exact⟨_,Y,.inr<|.inl Y⟩|exact⟨_,Y,.inr<|.inr Y⟩|exact nb h
def N5(nm:List Str)(ks:Ks)(x:Nat)(y:Str):Bool:=(nm[x]? ==some y&&isVar (ks.lookup y))&& !(y==("__debug__" :Str))&& !(y==("__classdict__" :Str))
def not_true{b}(h:(!b)=true):b=false:=by induction b<;>first|rfl|exact nb h
theorem d5.af{x}{y}{p}(h:N5 B.nm ks x y=true):d5 B ks (.af x) (.Name y p):=by
 intro own W U M A g st s L r O P e;refine(My (a8 (lH h).1).2).elim λk N=>N.elim λH D=>?_;replace e:(match M[x]? with|some (some a)=>some (a,st)|_=>none)=some (r,O):=e;induction h0:M[x]? with
 |none=>exact eg<|h0▸e
 |some o=>
  replace e:=h0▸e;induction o with
  |none=>exact eg e
  |some a=>exact b7.wp (ak e)<|wpAny_Name (Pf P.F (eq_of_beq (a8 (lH h).1).1) (by delta Env.kindOf;exact J P.hk H) D h0 (not_true (lH h).2.2) λv=>cC P.S)<|not_true (lH h).2.1
noncomputable def nG(ks:Ks)(y:Str):Bool:=ks.lookup y==some .globalImplicit&& !(y==("__debug__" :Str))&& !(y==("__name__" :Str))
def mq(h:nG ks y=true)(O:U.scope.names=ks):U.kindOf y=some .globalImplicit/\(y==("__debug__"))=false/\y≠ "__name__" :=
 ⟨by delta Env.kindOf;exact J O<|eq_of_beq (lH h).1,not_true (lH h).2.1,λe=>by have:=not_true (lH h).2.2;replace this:=e▸this;cases this⟩
theorem d5.wJ(G:Gl B.C K)(h:nG ks y=true)(L:rt[m]? =y):d5 B ks (.wJ m) (.Name y p):=by intro own W U X A g st s j r M P e;exact dj e λa Q e=>b7.wp (ak e)<|(G.wJ m _ y Q L).elim λv O=>O.elim λD N=>(mq h P.hk).elim λH O=>O.elim λk2 k3=>qY G P.S P.F H k2 D<|cC P.S<|N _ _ _ P.S
end
section
variable{C:Cx}{st:St}{K:Frag}
inductive EcA(Φ:Fs)(ro:Nat)(ρ:En)(st:St)(c:Bool)(e:E)(es:List E)(q:Bool×St):Prop
 |mk (p b) (e1:bZ Φ ro e ρ st=some p) (e2:mJ p.1=some b) (d:(if b==c then nS Φ ro c es ρ p.2 else some (b,p.2))=some q)
def yK{c}(h:nS Φ O c [] U st=some q):(c,st)=q:=ak h
def nL{c}(h:nS Φ O c (e::M) U st=some q):EcA Φ O U st c e M q:=dj h λp D h=>dj h λb N h=>⟨p,b,D,N,h⟩
inductive lI(B:Bd)(ks:Ks):List E->List PySem.Expr->Prop
 |nil:lI B ks [] []
 |cons {e pe es pes}:d5 B ks e pe->pR B ks e pe->lI B ks es pes->lI B ks (e::es) (pe::pes)
def ox.wN{b}(x:fg g.mu.length nx g s M s1)(h:wpAny C.m A m (ox C M s1 b O) eV s2):wpAny C.m A m (ox C g s b O) eV s2:=aY h (λU U q=>⟨q.1,q.2.kP x⟩) λU U e=>e
def ox.now{b}{p:Bool×St}(S:cH C U p.2 s1.heap)(x:fg g.mu.length nx g s U s1)(h:some p=some q)(O:p.1=b):ox C g s q.1 q.2 b s1:=jn (ak h) ⟨O.symm,U,S,x⟩
section
variable{U:List PySem.Expr}
def lI.and(h:lI B ks Q U):∀{g} {st} {s} {q} {p} {whole},Pre B ks own W env N A g st s D->nS B.Φ D true Q N st=some q->wpAny B.C.m A (isTrue (.BoolOp .And U p) env whole) (ox B.C g s q.1 q.2) eV s:=by
 induction h with
 |nil=>exact λP e=>isTrue_and_nil<|ox.now P.S (fg.refl .refl P.S.iJ) (congrArg some<|yK e) Y
 |cons y L v H=>
  intro g st s q p whole P e;obtain⟨w,b,j,X,d⟩:=nL e;refine isTrue_and<|L.k P j X λM O=>?_;induction b with
  |false=>exact ox.now M.S O d Y
  |true=>exact ox.wN O<|H M d
def lI.or(h:lI B ks Q U):∀{g} {st} {s} {q} {p} {whole},Pre B ks own W env N A g st s D->nS B.Φ D false Q N st=some q->wpAny B.C.m A (isTrue (.BoolOp .Or U p) env whole) (ox B.C g s q.1 q.2) eV s:=by
 induction h with
 |nil=>exact λP e=>isTrue_or_nil<|ox.now P.S (fg.refl .refl P.S.iJ) (congrArg some<|yK e) Y
 |cons y L v H=>
  intro g st s q p whole P e;obtain⟨w,b,j,X,d⟩:=nL e;refine isTrue_or<|L.k P j X λM O=>?_;induction b with
  |true=>exact ox.now M.S O d Y
  |false=>exact ox.wN O<|H M d
def IY(h:Q false s):wpAny C.m A (forIn U false λc r=>if r=true then do let ok<-isTrue c env (eval c env);pure (ForInStep.yield ok)else pure (ForInStep.yield r)) Q eV s:=U.rec (ay h) λx l O=>J (jB ..)<|ao<|ay O
def lI.ifs(h:lI B ks L U):∀{g:Gh} {st:St} {s:Shared} {q:Bool×St},Pre B ks own W env ρ A g st s N->nS B.Φ N true L ρ st=some q->wpAny B.C.m A (ua U env) (ox B.C g s q.1 q.2) eV s:=by
 delta ua;induction h with
 |nil=>intro g st s q P e;exact ay<|ox.now P.S (fg.refl .refl P.S.iJ) (congrArg some<|yK e) Y
 |cons v H w D=>
  intro g st s q P e;obtain⟨j,b,X,Q,d⟩:=nL e;refine J (jB ..)<|ao<|ao<|H.k P X Q λM O=>ay ?_;induction b with
  |false=>exact IY<|ox.now M.S O d Y
  |true=>exact ox.wN O<|D M d
theorem pR.and(h:lI B ks M U):pR B ks (.and M) (.BoolOp .And U p):=by intro own W env D A g st s H r O P e;exact dj e λq N e=>(m8 e).1▸(m8 e).2▸h.and P N
theorem pR.or(h:lI B ks M U):pR B ks (.or M) (.BoolOp .Or U p):=by intro own W env D A g st s H r O P e;exact dj e λq N e=>(m8 e).1▸(m8 e).2▸h.or P N
def b7.now{p:Bool×St}(S:cH C O p.2 s1.heap)(x:fg g.mu.length nx g s O s1)(h:some p=some q):b7 C g s (.bool q.1) q.2 (.bool p.1) s1:=jn (ak h) ⟨O,S,x,Y⟩
def uQ{c b}(d:(if b==c then nS Φ N c [] M O else some (b,O))=some q):some (b,O)=q:=by
 induction h:b==c with
 |false=>rw [h] at d;exact d
 |true=>rw [h] at d;exact J (eq_of_beq h) d
def rL{b}(e:mJ x=some b)(r:VR C.w g h x v):v=.bool b:=by replace r:=(qy e)▸r;exact r
def lI.YV(h:lI B ks L U)(O:L≠[]):∀{g} {st} {s} {q} {p},Pre B ks own W env j A g st s w->nS B.Φ w true L j st=some q->wpAny B.C.m A (eval (.BoolOp .And U p) env) (b7 B.C g s (.bool q.1) q.2) eV s:=by
 induction h with
 |nil=>exact(O Y).elim
 |cons H i o y=>
  intro g st s q p P e;clear O;obtain⟨f,b,X,Q,d⟩:=nL e;induction o with
  |nil=>exact BoolOp_one<|H.k P X λN M D=>rL Q D▸b7.now N.S M (uQ d)
  |cons r k2 k3=>
   refine BoolOp_and<|H.k P X λ{_ _ v} N M D=>(rL Q D)▸(fS ?_);induction b with
   |false=>exact b7.now N.S M d
   |true=>exact wN M<|y (gB _ _) N d
def lI.orV(h:lI B ks L U)(O:L≠[]):∀{g} {st} {s} {q} {p},Pre B ks own W env j A g st s w->nS B.Φ w false L j st=some q->wpAny B.C.m A (eval (.BoolOp .Or U p) env) (b7 B.C g s (.bool q.1) q.2) eV s:=by
 induction h with
 |nil=>exact(O Y).elim
 |cons H i o y=>
  intro g st s q p P e;clear O;obtain⟨f,b,X,Q,d⟩:=nL e;induction o with
  |nil=>exact BoolOp_one<|H.k P X λN M D=>rL Q D▸b7.now N.S M (uQ d)
  |cons r k2 k3=>
   refine BoolOp_or<|H.k P X λ{_ _ v} N M D=>(rL Q D)▸(fS ?_);induction b with
   |true=>exact b7.now N.S M d
   |false=>exact wN M<|y (gB _ _) N d
theorem d5.and(h:lI B ks M U)(O:M≠[]):d5 B ks (.and M) (.BoolOp .And U p):=by intro own W env H A g st s L r N P e;exact dj e λq D e=>b7.wp (ak e)<|h.YV O P D
theorem d5.or(h:lI B ks M U)(O:M≠[]):d5 B ks (.or M) (.BoolOp .Or U p):=by intro own W env H A g st s L r N P e;exact dj e λq D e=>b7.wp (ak e)<|h.orV O P D
end
def Qv{o r}{E}(h:Q () s):wpAny C.m A (letTemporaryGo (.List [] ⟨0,0,0,0⟩) o r) Q E s:=by
 cases o<;>first
  |exact ay h
  |exact ao<|bD<|wpAny_runValue<|codeAny_builtin entry_let_go<|ay<|ay h
def zW{r}{E}(h:Q () s):wpAny C.m A (letTemporaryGo base o r) Q E s:=by
 cases base<;>first
  |exact ay h
  |exact Eq.mp (α:=wpAny C.m A (letTemporaryGo (.List [] ⟨0,0,0,0⟩) o r) Q E s) (by kernel_rfl)<|Qv h
def qe{o i}{T id}{E}(H:s.TypeIs o T)(D:typeLookup (.type T) "__getitem__" =pure (some<|.builtin id))
  (N:subscripted slice false o i=operate ops (getItem o i)) (h:wpAny C.m A (getItem o i) Q E s):wpAny C.m A (subscriptTail value slice o i) Q E s:=by
 refine ao<|ao<|wpAny_specialOf H D ?_;have fin:wpAny C.m A (subscripted slice false o i) (λr U=>wpAny C.m A (letTemporaryGo value o r>>=λM=>pure r) Q E U) E s:=J N<|wpAny_operating<|aY h (λr U O=>ao<|zW<|ay O) λM M x=>x
 first
  |exact ay<|ao fin
  |exact ao<|ay<|ao fin
  |exact ao fin
theorem d5.sub{i}{N U}{p}(O:∀v w,subscripted U false v w=operate [v,w] (getItem v w))(f:d5 B ks o N)(c:d5 B ks i U):d5 B ks (.sub o i) (.Subscript N U p):=by
 intro own W env a A g st s h r L P e;exact dj e λp1 l e=>dj e λp2 t e=>dj e λx b e=>b7.wp (ak e) (Subscript_ (f.k P l λD H X=>c.k D t λn M Q=>
  by obtain⟨T,id,y,q,j⟩:=PG P.R.Q1 n.S (X.mono<|M.k0 D.S) Q b;exact qe q y (O ..)<|wN (H.then M) j))
def qg{lo:Option PySem.Expr}(S:cH C g st s.heap)(B:VR C.w g s.heap a X)(j:BR q Q L P)(e:nc st a q=(r,M))(x:fg g0.mu.length nx g0 s0 g s):
  wpAny C.m A (subscriptTail v (.Slice lo up O p) X<|.ref s.heap.objs.size) (b7 C g0 s0 r M) eV {s with heap:=s.heap.push (Hq Q L P)}:=by
 obtain⟨T,id,H,D,N⟩:=PO S B j e;exact O.rec (qe D H Y<|aY N (λU U=>b7.kP x) λU U e=>e) λU=>qe D H Y<|aY N (λU U=>b7.kP x) λU U e=>e
theorem d5.tO{i}{O M}{p X}(j:d5 B ks o O)(w:d5 B ks i M):d5 B ks (.tO o i) (.Subscript O (.Slice none M none X) p):=by intro own W env b A g st s l r H P e;exact dj e λx f e=>dj e λn y e=>dj e λk q e=>Subscript_<|j.k P f λN D Q=>wpAny_Slice<|ay<|w.k N y λ{_ _ v} c U L=>ay<|bQ (vp q L) λt h=>J h<|qg c.S (Q.mono<|U.k0 N.S) (.to k t) e<|D.then U
theorem d5.AY{i}{O M}{p X}(j:d5 B ks o O)(w:d5 B ks i M):d5 B ks (.AY o i) (.Subscript O (.Slice M none none X) p):=by intro own W env b A g st s l r H P e;exact dj e λx f e=>dj e λn y e=>dj e λk q e=>Subscript_<|j.k P f λN D Q=>wpAny_Slice<|w.k N y λ{_ _ v} c U L=>ay<|ay<|bQ (vp q L) λt h=>J h<|qg c.S (Q.mono<|U.k0 N.S) (.m5 k t) e<|D.then U
theorem d5.GJ{k}(H:d5 B ks o D):d5 B ks (.GJ o) (.Subscript D (.Slice none none (some<|.UnaryOp .USub (.Constant (.int 1) k q) w) v) p):=by intro own W env Q A g st s X r M P e;exact dj e λj L e=>Subscript_<|H.k P L λ{_ s1 _} U O N=>wpAny_Slice<|ay<|ay<|UnaryOp_<|wpAny_Constant_int<|PySem.P.neg_int<|qg U.S N (.rev _) e<|O.then<|vE U.S.iJ
theorem d5.bG(G:Gl B.C K)(H:attrName f=y)(Q:∀env whole,attributeBase U y env whole=whole)(L:d5 B ks o U):d5 B ks (.bG o f) (.Attribute U y p):=by intro own W env i A g st s c r N P e;refine dj e λb j e=>dj e λx X e=>b7.wp (ak e) (?_:wpAny _ _ (attributeBase U y env (eval U env)>>=_) _ _ s);simp only [Q];refine ao<|L.k P j λw O D=>ao<|d4<|ao<|bD<|aY (H▸Sn G.QZ G.ko w.S D X) (λv s2 q=>ao<|zW<|ay<|b7.kP O q) λM M e=>e
end
noncomputable def zz(K:Frag)(f:Nat):Bool:=keepIn K<|.ref f
noncomputable def HV(K:Frag)(c f:Nat):Bool:=keepIn K (.ref c)&&makesIn K c&&findIn K (.ref c) "__init__" ==some (some<|.ref f)&&isFn K (.ref f)
section
variable{C:Cx}{st:St}{s:Shared}{K:Frag}
def rS(G:Gl C K)(S:cH C g st h):K.In h:=G.QZ.keeps λb o q=>(S.base b o q).1
def qU(D:nQ C Φ n)(e:Φ O f args st=(r,U))(R:mV A n)(S:cH C g st s.heap)(H:g.ro=O)(N:eT C.w g s.heap args M):
  wpAny C.m A (call (.ref f) M) (b7 C g s r U) eV s:=
 wpAny_call (kg (D O f args st r U e R S H N) λx L h=>by induction h with|mk p=>exact p)
theorem d5.lO(G:Gl B.C K)(Q:nQ B.C B.Φ B.n){y}{q p}(h:nG ks y=true)(j:nsIn K mainGlobals y=some (some<|.ref f))(w:zz K f=true)(M:oz B ks args U):
  d5 B ks (.lO f args) (.Call (.Name y q) U [] p):=by
 intro own W env o A g st s i r D P e;exact dj e λc v e=>(mq h P.hk).elim λX L=>L.elim λk2 k3=>Call_Name Y<|qY G P.S P.F X k2 j<|lU (rS G P.S) (J (i5 ..)<|M.st env) w<|M.k P v λO N H=>⟨rS G O.S,wN N<|qU Q e (O.R.le<|b0 B.n) O.S O.hr H⟩
def Pe{g}{h}(O:eT w g h [a] U){P:List Value->Prop}(k:∀v,VR w g h a v->P [v]):P U:=by obtain⟨v,N,e,r,M⟩:=O;exact J e<|J M<|k v r
def Pb{g}{h}(M:eT w g h [a,b] O){P:List Value->Prop}(k:∀v u,VR w g h a v->VR w g h b u->P [v,u]):P O:=by obtain⟨v,U,e,r,q⟩:=M;exact e▸Pe q (P:=λU=>P (v::U)) λu=>k v u r
def Se{b}(D:A.handled=none)(S:cH C g st s.heap)(U:VR C.w g s.heap a H)(e:sJ st a b=(r,N))(L:b≠.isStr)(O:b≠.sorted)(M:b≠.dict):wpAny C.m A (call b.val [H]) (b7 C g s r N) eV s:=by
 induction b with
 |len=>exact Qy S U e
 |range=>exact E7 S U e
 |tuple=>exact G4 S U e
 |list=>exact Mn S U e
 |sorted=>exact(O Y).elim
 |sum=>exact PF D S U e
 |min=>exact Qn D S U e
 |abs=>exact Sw S U e
 |int=>exact QY S U e
 |dict=>exact(M Y).elim
 |isStr=>exact(L Y).elim
def xK(C:Cx):Prop:=∀{b:KD} {args:List AV} {vs:List Value} {A:Around} {g:Gh} {st:St} {s:Shared} {r:AV} {U:St} {n:Nat},mV A n->cH C g st s.heap->eT C.w g s.heap args vs->ku st b args=some (r,U)->b≠.isStr->wpAny C.m A (call b.val vs) (b7 C g s r U) eV s
theorem d5.bA(G:Gl B.C K)(hB:xK B.C){b}{y}{q}(h:nG ks y=true)(v:nsIn K mainGlobals y=some none)(H:bootBuiltins y=some b.val)(hb:b≠.isStr)(D:oz B ks args U):
  d5 B ks (.bA b args) (.Call (.Name y q) U [] p):=by
 intro own W env ρ A g st s ro r N P e;refine dj e λp1 e1 e=>And.elim (λw h9=>And.elim (λk2 k3=>?_) h9)<|mq h P.hk;refine Call_Name Y<|uY G P.S P.F w k2 v H k3 ?_
 have M:wpAny B.C.m A (spliced<|backTo p<|starEach U env) (λX O=>wpAny B.C.m A (call b.val<|[]++X) (b7 B.C g s r N) eV O) eV s:=
  D.k P e1 λL Q j=>wN Q<|hB L.R L.S j e hb
 clear H;induction b<;>first|exact oV (J (i5 ..)<|D.st env) M|exact AG (J (i5 ..)<|D.st env) M
theorem d5.isStr(G:Gl B.C K){e}(h:nG ks "isinstance" =true)(v:nsIn K mainGlobals "isinstance" =some none)(f:nG ks "str" =true)(U:nsIn K mainGlobals "str" =some none)(y:bootBuiltins "isinstance" =some (.builtin "isinstance"))(O:bootBuiltins "str" =some (.type "str"))
  (N:∀rest env,starEach (pe::rest) env=(false,eval pe env)::starEach rest env) (o:d5 B ks e pe):d5 B ks (.bA .isStr [e]) (.Call (.Name "isinstance" q) [pe,.Name "str" n] [] p):=by
 intro own W env t A g st s l r H P e;refine dj e λa b e=>dj b λx c i=>?_;replace e:=(ak i)▸e;obtain⟨Q,k2,k3⟩:=mq h P.hk;obtain⟨w,j,X⟩:=mq f P.hk;exact Call_Name Y<|uY G P.S P.F Q k2 v y k3<|oV (by rw [N];rfl)<|wpAny_items_cons (o.k P c λM D L=>wpAny_items_cons (uY G M.S M.F w j U O X<|wpAny_items_nil<|wN D<|IK M.S L e) Y)<|N ..
noncomputable def WU(args:List PySem.Expr)(apos p:Pos):Bool:=decide (args.length<29)&&(apos.endLine==p.line)
def AE{E}(N:∀env whole,attributeBase o name env whole=whole)(P:WU args apos pos=true)(w:(starEach args env).any (·.1)=false)
  (h:wpAny C.m A (eval o env) (λB O=>wpAny C.m A (getMethod B name (do return (<-importBound o env).getD true)) (λm U=>wpAny C.m A (callWith pos m.1 m.2 (backTo pos<|starEach args env) []) Q E U) E O) E s):
  wpAny C.m A (eval (.Call (.Attribute o name apos) args [] pos) env) Q E s:=by
 delta WU at P;simp only [cF] at P;simp only [arm_eval_Call,N];refine ao<|aY h (λB O H=>?_) λX X e=>e;refine ao<|d4 ?_
 have M:methodCallForm (args.length+([]:List Keyword).length) (backTo pos<|starEach args env) (backToKw pos<|keywordEach [] env)=true:=by
  delta methodCallForm
  have f:(backTo pos<|starEach args env).all (λx=> !x.1)=true:=by simp only [List.all_eq_true];intro x j;have:=List.any_eq_false.mp (by refine J (i5 ..) ?_;exact w:(backTo pos<|starEach args env).any (·.1)=false) x j;simpa using this
  have y:(backToKw pos<|keywordEach [] env).all (λx=>x.1.isSome)=true:=rfl;have v:(backToKw pos<|keywordEach [] env).isEmpty=true:=rfl;have q:args.length+([]:List Keyword).length+0<30:=by dsimp;exact lq [_] [aH (.s ax) (.c 29)] (.s ax) (.c 30) Y (aB P.1)
  refine wo f y v ?_;simpa using q
 have L:methodCallPos true o env apos pos=pure pos:=by delta methodCallPos;simp [P.2]
 dsimp only [methodCall];refine J M<|ao<|bD<|aY H (λm U D=>?_) λX X e=>e;exact ao<|wpAny_of_eq L D
def m3(h:s.heap.get? l=(du U k)):∀a,Value.ref l=.ref a->∃o,s.heap.get? a=some o/\o.dict=none:=λa e=>⟨_,gw e▸h,Y⟩
def tq(h:s.heap.get? l=(d6 U k)):∀a,Value.ref l=.ref a->∃o,s.heap.get? a=some o/\o.dict=none:=λa e=>⟨_,gw e▸h,Y⟩
noncomputable def GD.id:GD->String
 | .append=> "list.append" | .pop=> "list.pop" | .extend=> "list.extend" | .index=> "list.index" | .get=> "dict.get" | .eG=> "dict.setdefault" | .user _=> ""
section
variable{E:Value->Shared->Prop}
def LN(S:cH C g st s.heap)(H:VR C.w g s.heap a M)(h:hY st m a=true)(O:Q (.builtin m.id,[M]) s):wpAny C.m A (getMethod M m.name pl) Q E s:=by
 have P:=jV S H
 revert h P
 delta hY;induction vw st a with
 |L X=>exact λh ⟨l,N,k,e,U,_⟩=>by rw [e] at O⊢;exact(by
   cases m with
   |append=>exact gW (⟨_,U,Y⟩) F.plainAttrs_list slot_list_append F.type_list_append (m3 U) O
   |pop=>exact gW (⟨_,U,Y⟩) F.plainAttrs_list F.slot_list_pop F.type_list_pop (m3 U) O
   |extend=>exact gW (⟨_,U,Y⟩) F.plainAttrs_list F.slot_list_extend F.type_list_extend (m3 U) O
   |index=>exact gW (⟨_,U,Y⟩) F.plainAttrs_list F.slot_list_index F.type_list_index (m3 U) O
   |_=>exact nb h)
 |D B=>exact λh ⟨l,N,k,e,U,_⟩=>by rw [e] at O⊢;exact(by
   cases m with
   |get=>exact gW (⟨_,U,Y⟩) F.plainAttrs_dict F.slot_dict_get F.type_dict_get (tq U) O
   |eG=>exact gW (⟨_,U,Y⟩) F.plainAttrs_dict F.slot_dict_setdefault F.type_dict_setdefault (tq U) O
   |_=>exact nb h)
 |_=>exact nb
end
def Qi(R:mV A n)(D:g.ro=N)(S:cH C g st s.heap)(O:VR C.w g s.heap a H)(L:eT C.w g s.heap args M)(e:mP N st m a args=(r,U)):
  wpAny C.m A (call (.builtin m.id) (H::M)) (b7 C g s r U) eV s:=by
 cases args with
 |nil=>
  refine J L ?_;induction m with
  |pop=>exact P8 D S O e
  |_=>exact eg e
 |cons x l=>
  cases l with
  |nil=>
   refine Pe L (P:=λM=>wpAny C.m A (call (.builtin m.id) (H::M)) (b7 C g s r U) eV s) λv r=>?_;induction m with
   |append=>exact Gs D S O r e
   |extend=>exact FK D S O r e
   |index=>exact IX (ro:=N) R.cmp S O r e
   |_=>exact eg e
  |cons y l=>
   induction l with
   |nil=>
    refine Pb L (P:=λM=>wpAny C.m A (call (.builtin m.id) (H::M)) (b7 C g s r U) eV s) λv u r q=>?_;induction m with
    |get=>exact Q7 (ro:=N) R.Q1 S O r q e
    |eG=>exact wz D S O r q e
    |_=>exact eg e
   |cons _ _=>exact eg e
def EH(h:UT v=some p):v=.O p.1 p.2:=by induction v<;>first|exact eg h|(exact jn (ak h) Y)
theorem d5.bR(G:Gl B.C K)(mN:nQ B.C B.Φ B.n)(hK:∀c k f,TB.u1 c k=some f->zz K f=true)(a:m.name=y)(hb:∀env whole,attributeBase v y env whole=whole)(hm:WU U apos p=true)(ho:d5 B ks o v)(L:oz B ks args U):
  d5 B ks (.bR o m args) (.Call (.Attribute v y apos) U [] p):=by
 intro own W env h A g st s x r H P e;refine dj e λX e1 e=>AE hb hm (L.st env)<|ho.k P e1 λ{g1 s1 l} M t Q=>jn a ?_
 have gen:(if hY X.2 m X.1=true then(gP B.Φ x args h X.2).bind λq=>mP x q.2 m X.1 q.1 else none)=(r,H)->wpAny B.C.m A (getMethod l m.name (do return (<-importBound v env).getD true)) (λm D=>wpAny B.C.m A (callWith p m.1 m.2 (backTo p<|starEach U env) []) (b7 B.C g s r H) eV D) eV s1:=
  λe=>jq e (λhrecv e=>dj e λp2 b e=>LN M.S Q hrecv<|oV (J (i5 ..)<|L.st env)<|L.k M b λO N w=>wN (t.then N)<|Qi O.R O.hr O.S (Q.mono<|N.k0 M.S) w e) λu9 e=>eg e
 clear a;induction m with
 |user k=>refine dj e λq i e=>dj e λp2 b e=>dj i λcf i j=>jq j (λI6 j=>Me G.QZ G.ko M.S Q (EH i) I6 j<|lU (rS G M.S) (J (i5 ..)<|L.st env) (hK _ _ _ j)<|L.k M b λO N w=>⟨rS G O.S,wN (t.then N)<|qU mN e (O.R.le<|b0 B.n) O.S O.hr ⟨l,_,Y,Q.mono<|N.k0 M.S,w⟩⟩) λu9 e=>eg e
 |_=>exact gen e
end
section
variable{C:Cx}{U:St}{K:Frag}
def pd(S:cH C g U h)(O:h.objs.size<=x)(N:gV D x):fM g D x:=by have M:¬gV h x:=λ⟨o,e⟩=>absurd (cZ e)<|Nat.not_lt.mpr O;refine⟨λi=>M<|S.live x i,λm=>M<|S.fF m,N,λq=>?_⟩;exact absurd (aJ S.w0<|q▸O)<|by decide
theorem mV.under{c:Nat}(R:mV A (n+1)):mV (A.under<|.builtin "type.__call__" ⟨.ref c::O,[]⟩) n:=by
 have M:(Code.builtin "type.__call__" ⟨.ref c::O,[]⟩).weight=1:=rfl
 have N:(Code.builtin "type.__call__" ⟨.ref c::O,[]⟩).cUnits=1:=rfl
 refine⟨?_,?_,R.handled⟩
 .show A.depth+(Code.builtin "type.__call__" ⟨.ref c::O,[]⟩).weight+n<_
  refine J M ?_;have:=R.depth;exact lq [_,_] [aH (.s<|.a ax<|.s aE) (.c 1000)] (.s<|.a (.s ax) aE) (.c 1000) Y this
 .show A.units+(Code.builtin "type.__call__" ⟨.ref c::O,[]⟩).cUnits+8*n+400<_
  refine J N ?_;have:=R.units;exact lq [_,_] [aH (.s<|.a (.a ax<|.m 8<|.s aE)<|.c 400) (.c 9900)] (.s<|.a (.a (.s ax)<|.m 8 aE)<|.c 400) (.c 9900) Y this
def L7(e:lS a=true)(r:VR C.w g h a v):v=.none:=by
 cases a with
 |none=>exact r
 |_=>exact nb e
def MJ{M:Gh}{mf st2 O:St}{s1:Shared}{b:AV}{v:Value}(S:cH C g U s.heap)(S1:cH C M mf s1.heap)(x:fg g.mu.length nx g s M s1)(N:VR C.w M s1.heap a v)(e:iH mf U.length 6 a=some b)(D:gG mf U.length 6 U mf=some O):b7 C g s b O v s1:=⟨M.cut U.length,S.leave S1 (bV x.ro S.length S.iJ) D,x.trans<|jn S.length<|pH (J S.length x.len.2)<|bV x.ro S.length S.iJ,oP S1 6 _ _ _ e N⟩
noncomputable def qX(h:Heap)(c:Nat):Heap:=(h.push emptyDict).push<|instObj c h.objs.size
def DA{c}{b}(e:h.get? b=some o):(qX h c).get? b=some o:=aP _<|aP _ e
def Dz{c}:(qX h c).get? (h.objs.size+1)=(oO c h.objs.size):=by have:=ba (h.push emptyDict) (o:=instObj c h.objs.size) Y;rwa [gL] at this
def zE{c}:(qX h c).get? h.objs.size=(d6 [] 0):=aP _<|ba _ Y
inductive NwR(C:Cx)(g:Gh)(U:St)(s:Shared)(c:Nat)(s2:Shared):Prop
 |mk (g2) (S:cH C g2 (U++[.O c []]) s2.heap) (x:fg g.mu.length nx g s g2 s2) (r:VR C.w g2 s2.heap (.ref U.length) (.ref<|s.heap.objs.size+1))
def Fe{c}(S:cH C g U s.heap):NwR C g U s c {s with heap:=qX s.heap c}:=
 by obtain⟨H,D,N⟩:=adopt (s:={s with heap:=qX s.heap c}) (c:=.O c []) (S.grow λM M=>DA) (pd S (b0 _) ⟨_,Dz⟩) (pd S .refl ⟨_,zE⟩) ⟨Dz,[],0,zE,Y⟩;exact⟨_,H,N (jv S.iJ λM M=>DA) (λq=>by obtain⟨o,e⟩:=q;exact absurd (cZ e)<|Nat.not_lt.mpr<|b0 _)<|ct _,D⟩
def L8{s4}{q:AV×St}{v}{x}{keep}{N}{M:St}{s2}(S:cH C g U s.heap)(ev:fg g.mu.length nx g s N s2)(c:cH C N M s2.heap)(y:VR C.w N s2.heap (.ref U.length) (.ref x))(p:b7 C N s2 q.1 q.2 v s4)
  (e:(if(!lS q.1)=true then none else if keep=true then some (.ref U.length,q.2)else(iH q.2 U.length 6<|.ref U.length).bind λa=>(gG q.2 U.length 6 U q.2).bind λO=>some (a,O))=(r,O)):
  v=.none/\b7 C g s r O (.ref x) s4:=by
 obtain⟨o,B,L,D⟩:=p;refine jq e (λA=>eg) λX e=>⟨L7 (by simp only [Bool.not_eq_true',Bool.not_eq_false] at X;exact X) D,?_⟩;have Q:=y.mono<|L.k0 c;have H:=ev.then L
 refine jq e (λA e=>NX (P:=λr O=>b7 C g s r O (.ref x) s4) e ⟨o,B,H,Q⟩) λ_ e=>dj e λb i e=>dj e λj f e=>NX (P:=λr O=>b7 C g s r O (.ref x) s4) e<|MJ (st2:=[]) S B H Q i f
theorem d5.new(G:Gl B.C K)(a:nQ B.C B.Φ B.n){c f:Nat}{M}{y}{q p}(h:nG ks y=true)(hy:nsIn K mainGlobals y=some (some<|.ref c))(hf:TB.init c=f)(D:HV K c f=true)(w:oz B ks args M):
  d5 B ks (.new c args keep) (.Call (.Name y q) M [] p):=by
 intro own W env ρ A g U s l r b P e;refine dj e λL e1 e=>dj e λf' e2 e=>dj e λj e3 e=>?_;obtain⟨k1,k2,k3⟩:=mq h P.hk;refine Call_Name Y<|qY G P.S P.F k1 k2 hy<|lU (rS G P.S) (J (i5 ..)<|w.st env) (lH (a8 D).1).1<|w.k P e1 λ{g1 s1 i} N o t=>⟨rS G N.S,wpAny_call ?_⟩;refine make_core (makes_of (rS G N.S) (lH (a8 D).1).2.1) (looks_findIn (rS G N.S)<|eq_of_beq (lH (a8 D).1).2.2) (λself=>bind_fn (rS G N.S) self<|beq_iff_eq.mp (a8 D).2) (.inl Y) ?_;obtain⟨g2,v,H,X⟩:=Fe N.S;refine kg (a l f (.ref L.2.length::L.1) (L.2++[.O c []]) j.1 j.2 (J (ak<|hf.symm.trans e2) e3) P.R.under v (H.ro.trans N.hr) ⟨_,i,Y,X,t.mono<|H.k0 N.S⟩) λx s4 Q=>?_;induction Q with|mk pv=>?_
 exact let z:=L8 N.S H v X pv e;⟨z.1,z.2.kP o⟩
theorem d5.vR(G:Gl B.C K)(v:nQ B.C B.Φ B.n){f:Nat}{args}{O}{y}{q p}(h:nG ks y=true)(i:nsIn K mainGlobals y=some (some<|.ref f))(c:zz K f=true)(L:oz B ks args O):
  d5 B ks (.vR f args) (.Call (.Name y q) O [] p):=by
 intro own W env a A g U s ro r j P e;refine dj e λp1 x e=>dj e λas l e=>dj e λX Q e=>And.elim (λo b=>And.elim (λk2 k3=>?_) b)<|mq h P.hk;refine Call_Name Y<|qY G P.S P.F o k2 i<|lU (rS G P.S) (J (i5 ..)<|L.st env) c<|L.k P x λ{t s1 vs} D M w=>?_;have N:t.ro<=U.length:=bV M.ro P.S.length P.S.iJ;exact⟨rS G<|P.S.leave D.S N Q,wN (M.trans<|jn P.S.length<|pH (J P.S.length M.len.2) N)<|qU v e (P.R.le<|b0 B.n) (P.S.leave D.S N Q) ((M.trans<|jn P.S.length<|pH (J P.S.length M.len.2) N).ro.trans P.hr)<|rQ (λH H H=>oP D.S 6 _ _ _) l w⟩
def d5.YA:d5 B ks (.bK []) (.Dict [] [] p):=by intro own W env M A g U s N r O P e;exact NX (P:=λr O=>wpAny _ A _ (b7 B.C g s r O) eV s) e<|wpAny_Dict_empty<|LO P.S Y bh
def tu(s:Shared):Shared:={s with heap:=s.heap.push (d6 [] 0)}
def d5.Yz{k}(h1:d5 B ks k pk)(h2:d5 B ks v pv):d5 B ks (.bK [(k,v)]) (.Dict [some pk] [pv] p):=by
 intro own W env ρ A g U s ro r st' P e;refine dj e λq H e=>dj H λq1 e2 H=>dj H λq2 e3 H=>dj H λkv e4 e5=>b7.wp (ak e) ?_;simp only [<-ak e5];have M:fM g (tu s).heap s.heap.objs.size:=ij P.S Y;refine wpAny_Dict_any Y Y (by simp) (bO _) (?_:wpAny _ _ (evalPairs [(eval pk env,do let x<-eval pv env;standAt p;pure x)]) _ _ (tu s));refine ao<|h1.k (P.then (P.S.push _)<|mD P.S.iJ) e2 λ{g1 s1 v1} P1 x1 r1=>ao<|bD<|ao<|h2.k P1 e3 λ{g2 s2 v2} P2 j r2=>ao<|d4<|ay<|ao<|bD<|ay<|ay ?_;have O:=x1.then j
 refine(?_:wpAny _ _ (storeAll s.heap.objs.size [(v1,v2)]) _ _ s2);delta storeAll;refine J (jB ..)<|ao<|ao<|aY (vI (es:=[]) P.R.u P2.S (M.qr O) (O.keep _ _ (ba _ Y) (λh=>h) λm=>M.mu<|iA m) Y bh Y (bO _) (mW e4<|r1.mono<|j.k0 P1.S) r2) (λw s3 d=>ay ?_) λw w e=>e;refine(?_:wpAny _ _ (forIn [] ..) ..);exact ay (by obtain⟨h',t,e,hs,X,k',N,L,Q⟩:=d;obtain⟨S4,r4,x4⟩:=adopt (s:={s2 with heap:=h',toks:=t}) (c:=.D<|dput [] kv q2.fst) (P2.S.ext (M.qr O) hs.extBut) (⟨(M.qr O).fA,(M.qr O).mu,⟨_,N⟩,(M.qr O).one⟩) (⟨(M.qr O).fA,(M.qr O).mu,⟨_,N⟩,(M.qr O).one⟩) ⟨Y,X,k',N,L,Q⟩;exact J e ⟨_,S4,x4 (((mD P.S.iJ).then O).ext (ct _) hs.extBut Y Y) (ct _)<|ct _,r4⟩)
end
section
variable{st:St}
def vM(U:KU e) acc env:clausesOf e=(kO e acc env).1:=by induction U<;>rfl
def rJ(U:KU e)(L:(kO e acc env).1[d]? =some H)(M:H.is_async=0)(T:mL C g s.heap j I i P B)
  (h:codeAny C.m A (.compLoop e d (.ref I) acc env) R s):codeAny C.m A (.compStart e d (.ref I) acc env) R s:=by
 obtain⟨D,N,w⟩:=FY U d (.ref I) acc env;obtain⟨X,Q,O⟩:=As (C:=C) (A:=A) U d (.ref I) acc env;refine codeAny_of_tree<|bV D N<|wpAny_notedAt ?_;delta compStart;refine J (vM U acc env)<|J L<|J (Option.elim_some ..)<|J M<|ao<|wpAny_askSetting ?_;split
 .exact ay ⟨O,h⟩
 .exact ao (jH<|ao<|d4<|ao<|Fw T<|ay ⟨O,h⟩)
def Ub(U:List (T×E×List E)):List Nat:=U.flatMap λx=>NV x.1
structure Xi(B:Bd)(ks:Ks)(own:List Nat)(W:Addr->Prop)(env:Env)(A:Around)(ro:Nat)(e:PySem.Expr)(d:Nat)(acc:Value)(Jzq:Gh->Prop)(emit:En->St->Option St)(pgs:List Comprehension):Prop where
 hl:KU e
 hd:(kO e acc env).1.drop d=pgs
 hn:∀c∈(kO e acc env).1,c.is_async=0
 hk:env.scope.names=ks
 R:mV A (B.n+1)
 hJ:∀g s g' s',Jzq g->fg g.mu.length W g s g' s'->Jzq g'
 Zw:∀{ρ st st' g s},Jzq g->emit ρ st=some st'->cH B.C g st s.heap->jx B.C g s.heap B.nm own W env ρ->g.ro=ro->wpAny B.C.m A (kO e acc env).2 (λu9 s'=>Runs B.C g s B.nm own W env ρ st' s') eV s
def GF(B:Bd)(ks:Ks)(own:List Nat)(M:List (T×E×List E))(O:List Comprehension):Prop:=∀{e:PySem.Expr} {d:Nat} {acc:Value} {Jzq:Gh->Prop} {emit:En->St->Option St} {W:Addr->Prop} {env:Env} {ρ:En} {A:Around} {g:Gh} {st:St} {s:Shared} {ro:Nat} {U:St},
 Xi B ks own W env A ro e d acc Jzq emit O->cH B.C g st s.heap->jx B.C g s.heap B.nm own W env ρ->g.ro=ro->Jzq g->(Ub M).Nodup->(∀x∈Ub M,ρ[x]? =some none)->FO B.Φ ro emit M ρ st=some U->wpAny B.C.m A (restOf e d acc env) (λD N=>Runs B.C g s B.nm own W env ρ U N) eV s
def pS.runs(p:pS C g s U M)(S:cH C g st s.heap)(F:jx C g s.heap nm own W env O):Runs C g s nm own W env O U M:=by obtain⟨N,D,x⟩:=p;exact⟨N,D,x.weaken .refl S.iJ λH h=>h.elim,F.wK S x⟩
def Runs.after(x:fg g.mu.length nx g s D s1)(y:Runs C D s1 nm own W env O U s2)(M:g.ro<=g.mu.length):Runs C g s nm own W env O U s2:=by obtain⟨N,H,z,F⟩:=y;exact⟨N,H,(x.weaken .refl M λL h=>h.elim).then z,F⟩
def xw{l:List Comprehension}{c}{r}(h:l.drop d=c::r):l[d]? =c/\l.drop (d+1)=r:=
 ⟨jn (eR d)<|jn jM<|J h Y,jn iu<|J h Y⟩
def Xi.R2(Z:Xi B ks own W env A Q e d acc Jzq emit (⟨w,X,O,0⟩::j))(p:CT B.nm ks own t w)(f:lI B ks ifs O)(n:GF B ks own L j)(M:(NV t++Ub L).Nodup)(U:∀x∈NV t++Ub L,o[x]? =some none):
  WG B.C A B.nm own W env o Q e d ⟨w,X,O,0⟩ acc t (nS B.Φ Q true ifs) (FO B.Φ Q emit L) (λP=>∀x∈Ub L,P[x]? =some none) Jzq where
 hl:=Z.hl
 Q4:=(xw Z.hd).1
 ha:=rfl
 hn:=Z.hn
 asg:=λv S F H r=>
  have M:=nA M;have h:=Gq v M.1 λy D=>U y<|bl _ D
  ⟨λy D=>(h.2 y λm=>M.2.2 y m y D Y).trans<|U y<|ar _ D,h.1,aY (yV Z.R.handled (J Z.hk p) F S r v) (λN g h=>⟨_,h.1,h.2,h.3⟩) λN N e=>e⟩
 ifs:=λq l S F H=>aY (f.ifs ⟨Z.hk,Z.R,S,F,H⟩ l) (λb g h=>⟨h.1,h.2.runs S F⟩) λN N e=>e
 Zu:=λi q c S F H=>n ⟨Z.hl,(xw Z.hd).2,Z.hn,Z.hk,Z.R,Z.hJ,Z.Zw⟩ S F H i (nA M).2.1 q c
def GF.nil:GF B ks own [] []:=by intro e d acc Jzq emit W env D A g st s H U Z S F O N _ _ M;delta restOf;exact J (cO<|List.drop_eq_nil_iff.mp Z.hd)<|Z.Zw N M S F O
def GF.cons(c:∀env x,foldedSetIterable M env x=pure x)(ht:CT B.nm ks own t b)(P:d5 B ks a M)(w:lI B ks ifs N)(Oh:GF B ks own gs L):
  GF B ks own ((t,a,ifs)::gs) (⟨b,M,N,0⟩::L):=by
 intro e d acc Jzq emit W env ρ A g st s ro f Z S F hr hJ l O D;refine dj D λp1 e1 D=>dj D λq e2 D=>?_;have Yzq:=Z.R2 ht w Oh l O;delta restOf;refine J Yzq.Q4<|ao<|P.k ⟨Z.hk,Z.R,S,F,hr⟩ e1 λ{Q s1 v} U j i=>ao<|d4<|ao<|wpAny_of_eq (c env v)<|ao<|bD<|aY (yB U.hr U.S i e2) (λn s2 p=>?_) λH H e=>e;induction p with|mk o hf T0 hg=>?_
 have X:fg Q.mu.length nx Q s1 Q {s1 with heap:=s1.heap.push o}:=mD U.S.iJ;refine ao (wpAny_runOwn (kg (rJ Z.hl Yzq.Q4 Y T0 (tx Z.R.handled Yzq
  (λg' s' x=>Z.hJ _ _ _ _ (Z.hJ _ _ _ _ hJ<|j.weaken .refl S.iJ λH h=>h.elim) x) ⟨(ct _),(λh=>(ct _) (U.F.out _ h).live),aS _,U.S.iJ⟩ U.hr ⟨U.S.push o,U.F.wK U.S X,X.weaken .refl U.S.iJ λH h=>h.elim,T0,ij U.S hf⟩ hg D)) λr s3 y=>?_))
 induction y with|mk y=>exact ay<|y.after j S.iJ
def y9(own:List Nat)(gens:List (T×E×List E)):Bool:=decide ((gens.flatMap λx=>NV x.1).Nodup)&&(gens.flatMap λx=>NV x.1).all λx=>own.contains x
def fg.Eg(x:fg N D g s M U)(h:∀a,D a->¬gV s.heap a):fg N nx g s M U where
 live:=x.live
 fA:=x.fA
 keep:=λa o e H O=>x.keep a o e (λw=>h a w ⟨o,e⟩) O
 len:=x.len
 ro:=x.ro
 rl:=x.rl
 mu:=x.mu
 new:=x.new
 own:=x.own
 gens:=x.gens
 os:=x.os
end
section
variable{st:St}{s:Shared}{U:St}
def MR{a}(F:jx C g s.heap nm own W env H)(X:tJ nm N env.scope.names M)(D:Fa (jb M L env) a):Fa env a\/Wc L M.names a:=by
 rcases D with e|⟨p,O,e⟩
 .exact .inr (.inl e)
 .rw [i4] at O;exact(mA O).elim (λO=>.inr<|.inr ⟨p,O,e⟩) λO=>.inl<|J e<|Fa.cell (jR F X O).look
inductive CeX(C:Cx)(g:Gh)(s:Shared)(nm:List Str)(own:List Nat)(W:Addr->Prop)(env:Env)(ρ:En)(k:Nat)(U:St)(D L:Addr)(s':Shared):Prop
 |mk (g') (S:cH C g' U s'.heap) (x:fg g.mu.length nx g s g' s') (F:jx C g' s'.heap nm own W env ρ) (r:VR C.w g' s'.heap (.ref k) (.ref D)) (o:fM g' s'.heap L)
structure CompEnd(C:Cx)(g:Gh)(s:Shared)(nm:List Str)(own:List Nat)(W:Addr->Prop)(env:Env)(ρ:En)(k:Nat)(U:St)(D L:Addr)(s':Shared):Prop where
 ex:CeX C g s nm own W env ρ k U D L s'
 ns:∃m,s'.heap.Ns L m
 new:¬gV s.heap L
def AccJ(k:Nat)(D:Addr)(g:Gh):Prop:=g.mu[k]? =some (D,D)/\g.ro<=k
def AccJ.qr(j:AccJ k D g)(x:fg g.mu.length W g s O M):AccJ k D O:=⟨yo x (List.getElem?_eq_some_iff.mp j.1).1 j.1,J x.ro j.2⟩
section
variable{U:Obj}{h:Heap}
noncomputable def rK(h:Heap)(o U:Obj):Heap:=(h.push o).push U
def uk{b}{x}(e:h.get? b=some x):(rK h o U).get? b=x:=aP _<|aP _ e
def Et(O:U.isFreed=false):(rK h o U).get? (h.objs.size+1)=U:=by have:=ba (h.push o) O;rwa [gL] at this
def JS:(rK h o U).objs.size=h.objs.size+2:=by delta rK;simp only [gL]
def EA:¬gV h (h.objs.size+1):=λq=>by obtain⟨O,e⟩:=q;exact absurd (cZ e)<|Nat.not_lt.mpr<|b0 _
def AN(g:Gh)(h:Heap):Gh:=g.own (h.objs.size+1,h.objs.size+1)
def Kh(S:cH C g st h):AccJ st.length (h.objs.size+1) (AN g h):=⟨bV (show(AN g h).mu=g.mu++[_] from Y) S.length<|J (br .refl)<|J (dC _) Y,J S.length S.iJ⟩
def Wm(S:cH C g st h)(M:U.isFreed=false)(L:∀g (h:Heap) D,h.get? D=U->CR C.w g h H (D,D)):cH C (AN g h) (st++[H]) (rK h o U):=
 have O:=pd S (b0 _) ⟨_,Et M⟩
 (S.grow λN N=>uk).own O O (L _ _ _<|Et M)
def ND(S:cH C g st s.heap):fg g.mu.length nx g s (AN g s.heap) s:=(fg.refl .refl S.iJ).adopt EA EA
def Az{b}(e:(h.push o).get? b=some x):(gf (rK h o U) O).get? b=x:=mI<|aP _ e
def AA(S:cH C g st s.heap)(D:o.isFreed=false)(T0:mL C g (s.heap.push o) g.mu.length s.heap.objs.size 0 M H):mL C (AN g s.heap) (gf (rK s.heap o U) N) g.mu.length s.heap.objs.size 0 M H:=by
 have y:fg g.mu.length nx g {s with heap:=s.heap.push o} (AN g s.heap) {s with heap:=gf (rK s.heap o U) N}:=by
  have n:¬gV (s.heap.push o) (s.heap.objs.size+1):=λ⟨L,e⟩=>by have:=cZ e;simp only [gL] at this;exact cu _ this
  exact(jv S.iJ λO O=>Az).adopt n n
 exact T0.qr (S.push o) y (ij S D) (λh=>h) λO h=>h.elim
def Ga(S:cH C g st h)(O:o.isFreed=false):fM (AN g h) (gf (rK h o U) M) h.objs.size:=
 have q:=ij S O
 ⟨q.fA,λm=>(mw.mp m).elim q.mu λm=>(t8 m).elim (λe=>absurd e<|dH<|a6 _) λe=>absurd e<|dH<|a6 _,⟨o,Az<|ba _ O⟩,q.one⟩
def FE(O:cT st M):cT (st++l) M:=by
 induction M with
 |none=>trivial
 |some z=>exact(bW (List.getElem?_eq_some_iff.mp O).1).trans O
def Ni(F:jx C g s.heap nm own W env N)(X:tJ nm O env.scope.names M):¬Fa (jb M (rK s.heap o U).objs.size env) s.heap.objs.size:=λh=>(MR F X h).elim
 (λh=>by obtain⟨_,e⟩:=(F.out _ h).live;exact cu _<|cZ e) λh=>absurd (GV h)<|J JS<|Nat.not_le.mpr<|bX<|bO _
def FG(F:jx C g s.heap nm own W env Q)(X:tJ nm M env.scope.names N) m(H:(m,NameKind.free)∈N.names):(env.cells.lookup m).isSome=true:=
 (X.free m H).elim λD O=>D.elim λj L=>by obtain⟨c,B,P,_,_⟩:=F.xD j m L<|yz O;exact J P Y
end
structure Zc(B:Bd)(ks:Ks)(own':List Nat)(e:PySem.Expr)(sc:Scope)(oa:Obj)(c0:AC)(pit pt:PySem.Expr)(pifs:List PySem.Expr)(pgs:List Comprehension)(t:T)(it:E)(ifs:List E)(gs:List (T×E×List E)):Prop where
 hl:KU e
 I6:∀acc env,(kO e acc env).1=⟨pt,pit,pifs,0⟩::pgs
 B8:∀c∈pgs,c.is_async=0
 qm:∀env x,foldedSetIterable pit env x=pure x
 MA:zk B.nm own' ks sc=true
 Og:y9 own' ((t,it,ifs)::gs)=true
 hit:d5 B ks it pit
 ht:CT B.nm (gS ks sc.names) own' t pt
 wI:lI B (gS ks sc.names) ifs pifs
 Oh:GF B (gS ks sc.names) own' gs pgs
 Tf:oa.isFreed=false
 Ye:∀(g:Gh) (h:Heap) (D:Addr),h.get? D=some oa->CR B.C.w g h c0 (D,D)
def vL(F:jx C g s.heap nm own W env M)(H:zk nm O ks L=true){l:List Nat}(h:(l.all O.contains)=true) x(D:x∈l):(dO O M)[x]? =some none:=by have N:=List.contains_iff_mem.mp<|aT h x D;exact AD O M x N<|J F.len<|aB<|aT (a8 (a8 (a8 H).1).1).2 x N
def xA{e}{f}{pos}{N}{oa}{c0}{i pt}{v}{pgs}{t}{it}{ifs}{gs}{emitS:Nat->En->St->Option St}{use}{Q}
  (Yzq:Zc B ks M e f oa c0 i pt v pgs t it ifs gs) (hnew:∀s (Q:Value->Shared->Prop),Q (.ref s.heap.objs.size) {s with heap:=s.heap.push oa}->wpAny B.C.m A N Q eV s)
  (b:∀{k:Nat} {D} {W} {env} {ρ} {st U} {g} {s},AccJ k D g->emitS k ρ st=some U->Pre B (gS ks f.names) M W env ρ A g st s n->wpAny B.C.m A (kO e (.ref D) env).2 (λw s'=>Runs B.C g s B.nm M W env ρ U s') eV s)
  (P:Pre B ks own W env ρ A g st s n) {p} {q} (e1:bZ B.Φ n it ρ st=some p) (e2:dR n p.2 p.1=some q) (he:lr t (nS B.Φ n true ifs) (FO B.Φ n (emitS p.2.length) gs) q.2 q.1 (dO M ρ) (p.2++[c0])=U)
  (hfin:∀D L s5,CompEnd B.C g s B.nm own W env ρ p.2.length U D L s5->compPost B.C.m A eV use Q (.ref D) L (.ok .next) s5):
  wpAny B.C.m A (comprehension e f env pos N false (eval i env) use) Q eV s:=by
 have X:=LB Yzq.MA;replace X:=P.hk▸X;refine wpAny_comprehension_free ((vM Yzq.hl (.ref 0) env).trans<|Yzq.I6 ..) (Yzq.qm env) (wL<|FG P.F X) X.kind (λx hx hl=>ni X.fW<|jn hl hx)<|d5.k Yzq.hit P e1 λ{g1 s1 v1} O x1 r1=>aY (yB O.hr O.S r1 e2) (λit' s2 y=>?_) λw w e=>e;induction y with|mk o hf T0 hg=>?_
 refine hnew _ _<|zF ?_;have S4:=Wm (o:=o) O.S Yzq.Tf Yzq.Ye;have xo:=ND O.S;have x14:fg g1.mu.length nx g1 s1 (AN g1 s1.heap) {s1 with heap:=rK s1.heap o oa}:=xo.then<|jv S4.iJ λw w=>uk
 obtain⟨S5,x45,F5,hWn,hns⟩:=Co (O.F.wK O.S x14) S4 X;have H:∀a,Wc (rK s1.heap o oa).objs.size f.names a->¬gV s1.heap a:=λa h ⟨ob,l⟩=>hWn a h ⟨ob,uk l⟩
 have Z:Xi B (gS ks f.names) M (Wc (rK s1.heap o oa).objs.size f.names) (jb f (rK s1.heap o oa).objs.size env) A n e 0 (.ref<|s1.heap.objs.size+1) (AccJ p.2.length<|s1.heap.objs.size+1) (emitS p.2.length) (⟨pt,i,v,0⟩::pgs):=
  ⟨Yzq.hl,Yzq.I6 ..,λc hc=>by rw [Yzq.I6] at hc;exact(mO hc).elim (λe=>J e Y) (Yzq.B8 c),(jn P.hk Y),P.R,λw w w w j=>j.qr,λj em Sa Fa' hra=>b j em ⟨(jn P.hk Y),P.R,Sa,Fa',hra⟩⟩
 have key:=rJ Yzq.hl (Z.R2 Yzq.ht Yzq.wI Yzq.Oh (aB (a8 Yzq.Og).1)<|vL P.F Yzq.MA (a8 Yzq.Og).2).Q4 Y (AA O.S hf T0) (tx P.R.handled (Z.R2 Yzq.ht Yzq.wI Yzq.Oh (aB (a8 Yzq.Og).1)<|vL P.F Yzq.MA (a8 Yzq.Og).2) (λg' s' y=>(Kh O.S).qr y) ⟨ct _,Ni O.F X,xo.len.2,O.S.iJ⟩ O.hr
  ⟨S5,F5,(jv (t:=s1.toks) S4.iJ λw w e=>mI<|uk e).weaken .refl S4.iJ λw h=>h.elim,AA O.S hf T0,Ga O.S hf⟩ (FE hg) he)
 refine bV (Bw P.F.fs.kind) (gL ..)<|kg key λr s6 y=>?_;induction y with|mk y=>?_
 obtain⟨g6,S6,x6,F6⟩:=y;exact hfin _ _ _ ⟨⟨g6,S6,x1.then<|xo.then<|x6.Eg H,O.F.wK O.S<|xo.then<|x6.Eg H,⟨_,((Kh O.S).qr<|x6.Eg H).1,Y⟩,F6.out _<|.inl Y⟩,by obtain⟨m,h,_⟩:=F6.ns;exact⟨m,h⟩,λl=>H _ (.inl Y)<|x1.live _ l⟩
end
section
variable{st:St}{s:Shared}{U:St}
def AM{c}(j:AccJ k D g)(S:cH C g st s.heap)(e:st[k]? =some c):CR C.w g s.heap c (D,D):=
 TH.at S ⟨(D,D),j.1,Y⟩ e λp O N M=>ak (O.symm.trans j.1)▸M
def JA(j:AccJ k D g)(S:cH C g p.2 s.heap)(Q:VR C.w g s.heap p.1 L)(e:lM k p=U):
  wpAny C.m A (call (.builtin "list.append") [.ref D,L]) (fun y P=>pS C g s U P) eV s:=
 dj e λacc O e=>dj O λc O q=>lT e λX e=>by rw [y5 q] at O;obtain⟨_,v,k0,B,H⟩:=AM j S O;exact jn e<|append_at B (jn H.length X) λf o N M=>q6 Y S j.2 j.1 Y M N<|(H.mono<|fR S j.1 (.inl Y) M).append ⟨_,[],Y,Q.mono<|fR S j.1 (.inl Y) M,Y⟩
def JB(y:A.units<cLine)(j:AccJ k D g)(S:cH C g st s.heap)(X:VR C.w g s.heap a va)(Q:VR C.w g s.heap b N)(e:xv k a b st=U):
  wpAny C.m A (dictSet D va N) (λM L=>pS C g s U L) eV s:=
 dj e λacc O e=>dj O λc O f=>dj e λr o e=>lT e λH e=>by replace O:=(uw f)▸O;obtain⟨_,p,k0,v,P,B⟩:=AM j S O;exact e▸aY (yM (va:=va) (xx y D N) (λq=>fR S j.1 (.inl Y) q) v P B (a8 H).1 (aB (a8 H).2) (mW o X) Q) (λM M x=>TN.upd (d:=D) Y S j.2 j.1 Y x) λM M h=>h
def Kx(B:Bd)(ks:Ks)(e:E)(f:Env->Option (Value->Sem Unit)->Sem Value):Prop:=∀{own:List Nat} {W:Addr->Prop} {env:Env} {ρ:En} {A:Around} {g:Gh} {st:St} {s:Shared} {ro:Nat} {r:AV} {U:St} {O:Option (Value->Sem Unit)} {Q:Value->Shared->Prop},
 Pre B ks own W env ρ A g st s ro->bZ B.Φ ro e ρ st=some (r,U)->
 (∀k D L s5,r=.ref k->CompEnd B.C g s B.nm own W env ρ k U D L s5->compPost B.C.m A eV O Q (.ref D) L (.ok .next) s5)->wpAny B.C.m A (f env O) Q eV s
def Kx.ZF(h:Kx B ks e f)(Q:∀env,eval pe env=f env none):d5 B ks e pe:=by intro own W env v A g st s ro r U P e;exact J (Q _)<|h P e λk D L s5 w X=>X.ns.elim λm H=>⟨m,H,λh' O=>J w (by obtain⟨j,q,x,F',N,M⟩:=X.ex;exact⟨j,q.ext M O.extBut,x.ext X.new O.extBut Y Y,N.mono<|hZ (λu9 i=>i) M O.extBut⟩)⟩
theorem Kx.lc(B8:pgs.all (λc=>c.is_async==0)=true)
  (qm:∀env x,foldedSetIterable N env x=pure x) (MA:zk B.nm O ks H=true) (Og:y9 O ((t,it,ifs)::gs)=true) (hit:d5 B ks it N) (ht:CT B.nm (gS ks H.names) O t pt) (wI:lI B (gS ks H.names) ifs pifs)
  (Oh:GF B (gS ks H.names) O gs pgs) (helt:d5 B (gS ks H.names) elt M):
  Kx B ks (.lc elt ((t,it,ifs)::gs) O) (λenv w=>comprehension (.ListComp M (⟨pt,N,pifs,0⟩::pgs) H pos) H env pos' (newList []) false (eval N env) w):=by
 intro own W env ρ A g st s ro r U w Q P e hfin;refine dj e λp e1 e=>dj e λq e2 e=>dj e λst5 e3 e=>?_;have er:AV.ref p.2.length=r/\st5=U:=by cases e;exact⟨Y,Y⟩
 refine xA (c0:=.L []) (emitS:=λk ρ st=>(bZ B.Φ ro elt ρ st).bind<|lM k) ⟨.lc,λu9 u9=>rfl,λc hc=>eq_of_beq<|aT B8 c hc,qm,MA,Og,hit,ht,wI,Oh,Y,λg h D e=>⟨Y,[],0,e,Y⟩⟩
  (λs Q h=>wpAny_newList h<|bf _) (λ{k D _ env' _ _ _ _ _} j he P1=>dj he λv e4 e5=>?_) P e1 e2 e3 λD L s5 X=>hfin _ D L s5 er.1.symm<|jn er.2 X
 refine(?_:wpAny _ _ (eval M env'>>=fun x=>call (.builtin "list.append") [.ref D,x]>>=fun u9=>pure ()) ..)
 exact ao<|helt.k P1 e4 λP2 x2 r2=>ao<|aY (JA (AccJ.qr j x2) P2.S r2 e5) (λu9 s3 p=>ay<|(p.runs P2.S P2.F).after x2 P1.S.iJ) λu9 u9 e=>e
theorem Kx.dc{t}{it}
  (qm:∀env x,foldedSetIterable N env x=pure x) (MA:zk B.nm O ks H=true) (Og:y9 O [(t,it,ifs)]=true) (hit:d5 B ks it N) (ht:CT B.nm (gS ks H.names) O t pt) (wI:lI B (gS ks H.names) ifs pifs)
  (hk1:d5 B (gS ks H.names) k pk) (hv1:d5 B (gS ks H.names) v pv):
  Kx B ks (.dc k v t it ifs O) (λenv w=>comprehension (.DictComp pk pv [⟨pt,N,pifs,0⟩] H pos) H env pos' newDict false (eval N env) w):=by
 intro own W env ρ A g st s ro r U w Q P e hfin;refine dj e λp e1 e=>dj e λq e2 e=>dj e λst5 e3 e=>?_;have er:AV.ref p.2.length=r/\st5=U:=by cases e;exact⟨Y,Y⟩
 refine xA (c0:=.D []) (emitS:=λm ρ st=>(bZ B.Φ ro k ρ st).bind λa=>(bZ B.Φ ro v ρ a.2).bind λb=>xv m a.1 b.1 b.2) ⟨.dc,λu9 u9=>rfl,(λc=>iZ),qm,MA,Og,hit,ht,wI,GF.nil,Y,λg h D e=>⟨Y,[],0,e,Y,bh⟩⟩
  (λs Q h=>fk h<|bf _) (λ{m D _ M _ _ _ _ _} j he P1=>dj he λa e4 he=>dj he λb e5 e6=>?_) P e1 e2 e3 λD L s5 X=>hfin _ D L s5 er.1.symm<|jn er.2 X
 refine(?_:wpAny _ _ (eval pk M>>=λkv=>holding [kv] (eval pv M)>>=λvv=>standAt _>>=λ_=>holding [kv,vv] (dictSet D kv vv)) ..);exact ao<|hk1.k P1 e4 λP2 x2 r2=>ao<|bD<|hv1.k P2 e5 λP3 x3 r3=>ao<|d4<|bD<|aY (JB P3.R.u ((j.qr x2).qr x3) P3.S (r2.mono<|x3.k0 P2.S) r3 e6) (λu9 s4 p=>(p.runs P3.S P3.F).after (x2.then x3) P1.S.iJ) λu9 u9 e=>e
end
noncomputable def Nt:List (Str×KD):=[("len",.len),("range",.range),("tuple",.tuple),("list",.list),("sorted",.sorted),("sum",.sum),("min",.min),("abs",.abs),("int",.int),("dict",.dict)]
noncomputable def fns:List (Str×Nat):=[("need_few",234),("shortest_size",239),("rows_joined",245),("all_words",251),("words_up_to",259),("spread",220),("nullable",227),("unit_order",372),("ways",379),("count_trees",386),("rows_over",393),("trees_of",401),("words_over",406),("tree_counts",412),("ambiguous_word",419),("postorder",367),("last_terminal",209),("plain_grammar",215),("_law_pen",426),("_law_draw",433),("_law_right",440),("_law_pairs",447),("_law_words",452),("_law_leaves",457),("law",462)]
noncomputable def Nj:List (Str×(Nat×Nat)):=[("Token",(93,76)),("Rule",(116,113)),("Grammar",(198,132)),("Tree",(323,273)),("Leaf",(358,341))]
structure EB(K:Frag):Prop where
 fn:∀{y f},fns.lookup y=some f->nsIn K mainGlobals y=some (some<|.ref f)/\zz K f=true
 cls:∀{y c},Nj.lookup y=some c->nsIn K mainGlobals y=some (some<|.ref c.1)/\TB.init c.1=some c.2/\HV K c.1 c.2=true
 blt:∀{y b},Nt.lookup y=some b->nsIn K mainGlobals y=some none/\bootBuiltins y=some b.val
 str:nsIn K mainGlobals "str" =some none/\bootBuiltins "str" =some (.type "str")
 X6:nsIn K mainGlobals "isinstance" =some none/\bootBuiltins "isinstance" =some (.builtin "isinstance")
 u1:∀c k f,TB.u1 c k=some f->zz K f=true
noncomputable def pT(e:PySem.Expr):Nat:=PySem.Expr.casesOn (motive_1:=λU=>Nat) e (λU U U=>3) (λU U U=>16) (λU U U U=>4) (λU U U=>2) (λU U U U=>16) (λU U U U=>5) (λU U U=>6) (λU U U=>16) (λU U U U=>7) (λU U U U=>16) (λU U U U U=>8) (λU U U U=>16) (λU U=>16) (λU U=>16) (λU U=>16)
 (λU U U U=>9) (λU U U U=>10) (λU U U U=>16) (λU U=>16) (λU U U=>1) (λU U U=>11) (λU U U=>12) (λU U=>16) (λU U=>0) (λU U=>14) (λU U U=>13) (λU U U U=>15)
def Ck(P:Prop):Type:=Option<|PLift P
noncomputable def jY(h:P):Ck P:=some ⟨h⟩
noncomputable def jd(x:Ck P)(f:P->Ck R):Ck R:=x.bind λh=>f h.down
noncomputable def bg(b:Bool)(f:b=true->Ck R):Ck R:=b.rec (motive:=λb=>(b=true->Ck R)->Ck R) (λU=>none) (λf=>f Y) f
noncomputable def bp(P:Prop)[Decidable P](f:P->Ck R):Ck R:=if h:P then f h else none
abbrev Kc(R:PySem.Expr->Prop)(t:Nat):Type:=([∀y p,Ck<|R<|.Name y p,∀c k p,Ck<|R<|.Constant c k p,∀o a p,Ck<|R<|.UnaryOp o a p,∀o l p,Ck<|R<|.BoolOp o l p,∀a o b p,Ck<|R<|.BinOp a o b p,∀c a b p,Ck<|R<|.IfExp c a b p,∀k v p,Ck<|R<|.Dict k v p,∀a g s p,Ck<|R<|.ListComp a g s p,
 ∀a b g s p,Ck<|R<|.DictComp a b g s p,∀a o l p,Ck<|R<|.Compare a o l p,∀f a k p,Ck<|R<|.Call f a k p,∀a y p,Ck<|R<|.Attribute a y p,∀a b p,Ck<|R<|.Subscript a b p,∀l k p,Ck<|R<|.Tuple l k p,∀l p,Ck<|R<|.List l p,∀a b c p,Ck (R<|.Slice a b c p)]:List Type).getD t PUnit
noncomputable def sel{R:PySem.Expr->Prop}{P:Prop}(i:Nat){t:Nat}(k:Kc R t)(f:Kc R i->Ck P):Ck P:=bp (t=i) λh=>f<|h▸k
noncomputable def ot{R:PySem.Expr->Prop}(t:Nat)(e:PySem.Expr)(k:Kc R t):Ck (R e):=PySem.Expr.casesOn (motive_1:=λe=>Ck<|R e) e (λo l p=>sel 3 k λk=>k o l p) (λU U U=>none) (λa o b p=>sel 4 k λk=>k a o b p) (λo a p=>sel 2 k λk=>k o a p) (λU U U U=>none) (λc a b p=>sel 5 k λk=>k c a b p)
 (λa b p=>sel 6 k λk=>k a b p) (λU U U=>none) (λa g s p=>sel 7 k λk=>k a g s p) (λU U U U=>none) (λa b g s p=>sel 8 k λk=>k a b g s p) (λU U U U=>none) (λU U=>none) (λU U=>none) (λU U=>none) (λa o l p=>sel 9 k λk=>k a o l p) (λf a b p=>sel 10 k λk=>k f a b p) (λU U U U=>none) (λU U=>none)
 (λc a p=>sel 1 k λk=>k c a p) (λa y p=>sel 11 k λk=>k a y p) (λa b p=>sel 12 k λk=>k a b p) (λU U=>none) (λy p=>sel 0 k λk=>k y p) (λl p=>sel 14 k λk=>k l p) (λl a p=>sel 13 k λk=>k l a p) (λa b c p=>sel 15 k λk=>k a b c p)
noncomputable def alt{P:Prop}(x y:Ck P):Ck P:=x.orElse λU=>y
noncomputable def B5(e:PySem.Expr):Bool:=Nat.beq (pT e) 7 ||Nat.beq (pT e) 8
structure Fx(t:Nat)(e:PySem.Expr):Prop where
 star:∀rest env,starEach (e::rest) env=(false,eval e env)::starEach rest env
 set:∀env x,foldedSetIterable e env x=pure x
 sl:t≠15->∀v w,subscripted e false v w=operate [v,w] (getItem v w)
 base:t≠10->∀y env whole,attributeBase e y env whole=whole
 bz:t≠13->∀ts k q env,swappedStores [.Tuple ts k q] e env=pure none
 sw:B5 e=false->∀t l env,swapsWith e t l env=pure false
def facts e:pT e≠16->Fx (pT e) e:=by cases e<;>first|exact λh=>(h Y).elim|exact λU=>⟨λU U=>rfl,λU U=>rfl,λU U U=>rfl,λU U U U=>rfl,λU U U U U=>rfl,λU U U U=>rfl⟩|exact λU=>⟨λU U=>rfl,λU U=>rfl,λU U U=>rfl,λU U U U=>rfl,λU U U U U=>rfl,bn⟩|exact λh=>⟨λU U=>rfl,λU U=>rfl,λh=>(h Y).elim,λU U U U=>rfl,λU U U U U=>rfl,λU U U U=>rfl⟩|exact λh=>⟨λU U=>rfl,λU U=>rfl,λU U U=>rfl,λh=>(h Y).elim,λU U U U U=>rfl,λU U U U=>rfl⟩|exact λh=>⟨λU U=>rfl,λU U=>rfl,λU U U=>rfl,λU U U U=>rfl,λh=>(h Y).elim,λU U U U=>rfl⟩
abbrev but(e:PySem.Expr)(t:Nat):Prop:=pT e≠16/\pT e≠t
noncomputable def Cp:PySem.Expr->Env->Option (Value->Sem Unit)->Sem Value
 | .ListComp a gens sc pos,env,use=>comprehension (.ListComp a gens sc pos) sc env (firstIterPos gens pos) (newList []) (firstAsync gens) (firstIter gens env) use
 | .DictComp a b gens sc pos,env,use=>comprehension (.DictComp a b gens sc pos) sc env (firstIterPos gens pos) newDict (firstAsync gens) (firstIter gens env) use
 |_,_,_=>unsupported ""
structure Z1(B:Bd)(ks:Ks)(e:E)(pe:PySem.Expr):Prop where
 c:Kx B ks e (Cp pe)
 sw:∀y p l env,∃b,swapsWith pe (some<|.Name y p) l env=pure b
 use:∀env u,evalThenUse pe env u=(do let _<-Cp pe env (some u);pure ())
structure gI(B:Bd)(ks:Ks)(e:E)(pe:PySem.Expr):Prop where
 v:d5 B ks e pe
 t:pR B ks e pe
 c:B5 pe=true->Z1 B ks e pe
def Tt(h:d5 B ks e pe)(t:pR B ks e pe)(U:B5 pe=false):gI B ks e pe:=⟨h,t,λq=>Bool.noConfusion<|U.symm.trans q⟩
noncomputable abbrev Vl(pe:PySem.Expr)(env:Env)(whole:Sem Value):Sem Bool:=do let v<-whole;standAt pe.pos;holding [v] (truthy v)
def bo(h:d5 B ks e pe)(O:isTrue pe=Vl pe)(U:B5 pe=false):gI B ks e pe:=Tt h (pR.of h λenv whole=>eY (eY O env) whole) U
def bc(h:Z1 B ks e pe)(U:∀env,eval pe env=Cp pe env none)(O:isTrue pe=Vl pe):gI B ks e pe:=
 ⟨Kx.ZF h.c U,pR.of (Kx.ZF h.c U) λenv whole=>eY (eY O env) whole,λM=>h⟩
noncomputable def Q3{U:Type}{R:List U->Prop}(l:List U)(k:∀x r,Ck<|R (x::r)):Ck (R l):=l.rec (motive:=λl=>Ck<|R l) none λx r O=>k x r
noncomputable def H2{U:Type}{R:List U->Prop}(l:List U)(k:Ck (R [])):Ck (R l):=l.rec (motive:=λl=>Ck<|R l) k λO O O=>none
noncomputable def WS{U:Type}{R:Option U->Prop}(l:Option U)(k:∀x,Ck<|R<|some x):Ck (R l):=l.rec (motive:=λl=>Ck<|R l) none k
noncomputable def SW{U:Type}{R:Option U->Prop}(l:Option U)(k:Ck (R none)):Ck (R l):=l.rec (motive:=λl=>Ck<|R l) k λO=>none
noncomputable def ge{U:Type}{R:Prop}(x:Option U)(k:∀a,x=some a->Ck R):Ck R:=x.rec (motive:=λy=>x=y->Ck R) (λO=>none) (λa=>k a) Y
def QX{U:Type}{R:List U->Prop}(l:List U)(k:∀x,Ck<|R [x]):Ck (R l):=Q3 l λx r=>H2 (R:=λr=>R (x::r)) r<|k x
noncomputable def KP{U:Type}[DecidableEq U]{a:U}(R:U->Prop)(b:U)(k:Ck (R a)):Ck (R b):=bp (a=b) λh=>h▸k
def ZG(nm:List Str)(ks:Ks)(own O:List Nat):(U:List PySem.Expr)->Ck (CN nm ks own O U):=
 O.rec (motive:=λO=>∀U,Ck<|CN nm ks own O U) (λU=>H2 U<|jY .nil) λx O M U=>Q3 U λpe U=>ot (R:=λpe=>CN nm ks own (x::O) (pe::U)) 0 pe λy p=>bg (wD nm ks own x y) λh=>jd (M U) λq=>jY<|.cons h q
def Xd(nm:List Str)(ks:Ks)(own:List Nat)(t:T)(pe:PySem.Expr):Ck (CT nm ks own t pe):=
 t.rec (motive:=λt=>Ck<|CT nm ks own t pe) (λx=>ot 0 pe λy p=>bg (wD nm ks own x y) λh=>jY<|.v h) λU=>ot 13 pe λl k p=>jd (ZG nm ks own U l) λq=>jY<|.t q
section
variable(B:Bd)(K:Frag)
structure WB:Prop where
 G:Gl B.C K
 mN:nQ B.C B.Φ B.n
 hB:xK B.C
 T:EB K
abbrev Rs(ks:Ks)(O:List E)(U:List PySem.Expr):Prop:=oz B ks O U/\lI B ks O U
abbrev M1(e:E):Type:=∀ks pe,Ck<|gI B ks e pe
abbrev M2(M:List E):Type:=(∀ks U,Ck<|Rs B ks M U)×M.rec (motive:=λO=>Type) PUnit λe O O=>M1 B e
abbrev MG(O:List (T×E×List E)):Type:=∀ks own U,Ck<|GF B ks own O U
abbrev M7(e:E×List E):Type:=M1 B e.1×M2 B e.2
abbrev M5(e:E×E):Type:=M1 B e.1×M1 B e.2
abbrev MH(U:List (T×E×List E)):Type:=U.rec (motive:=λO=>Type) PUnit λg U O=>M7 B g.2×MG B U
abbrev M4(U:List (T×E×List E)):Type:=MG B U×MH B U
abbrev M3(U:List (E×E)):Type:=U.rec (motive:=λO=>Type) PUnit λg M O=>M5 B g
variable{B K}(H:WB B K)
noncomputable def cN{R:Const->Prop}(c:Const)(k:Ck (R .none)):Ck (R c):= @Const.casesOn (λc=>Ck<|R c) c k (λU=>none) (λU=>none) (λU=>none) (λU U=>none) (λU=>none) (λU=>none) none
noncomputable def cB{R:Const->Prop}(c:Const)(k:∀j,Ck<|R<|.bool j):Ck (R c):= @Const.casesOn (λc=>Ck<|R c) c none k (λU=>none) (λU=>none) (λU U=>none) (λU=>none) (λU=>none) none
noncomputable def ZH{R:Const->Prop}(c:Const)(k:∀j,Ck<|R<|.int j):Ck (R c):= @Const.casesOn (λc=>Ck<|R c) c none (λU=>none) k (λU=>none) (λU U=>none) (λU=>none) (λU=>none) none
noncomputable def cS{R:Const->Prop}(c:Const)(k:∀j,Ck<|R<|.str j):Ck (R c):= @Const.casesOn (λc=>Ck<|R c) c none (λU=>none) (λU=>none) (λU=>none) (λU U=>none) k (λU=>none) none
abbrev SI(B:Bd)(ks:Ks)(c:Const)(k:Nat)(p:Pos)(a:AV):Prop:=gI B ks (.aI a)<|.Constant c k p
def ckC(ks:Ks)(a:AV)(c:Const)(k:Nat)(p:Pos):Ck (gI B ks (.aI a)<|.Constant c k p):= @AV.casesOn (λa=>Ck<|SI B ks c k p a) a
 (cN (R:=λc=>SI B ks c k p .none) c<|jY<|bo d5.V1 Y Y) (λb=>cB (R:=λc=>SI B ks c k p<|.bool b) c λO=>KP (λO=>SI B ks (.bool O) k p<|.bool b) O<|jY<|bo d5.cBool Y Y) (λb=>ZH (R:=λc=>SI B ks c k p<|.int b) c λO=>KP (λO=>SI B ks (.int O) k p<|.int b) O<|jY<|bo d5.cInt Y Y)
 (λl=>cS (R:=λc=>SI B ks c k p<|.str l) c λx=>bp (wF l=x) λh=>jY<|bo (d5.cStr h) Y Y) (λU=>none) (λU=>none) (λU=>none) (λU U=>none) (λU U=>none) (λU=>none)
noncomputable def OD{R:PySem.Expr->Prop}(pe:PySem.Expr)(k:∀j q U p,Ck<|R<|.UnaryOp .USub (.Constant (.int j) q U) p):Ck (R pe):=ot 2 pe λo a p=>KP (λo=>R<|.UnaryOp o a p) o<|ot (R:=λa=>R<|.UnaryOp .USub a p) 1 a λc q U=>ZH (R:=λc=>R<|.UnaryOp .USub (.Constant c q U) p) c λj=>k j q U p
def vN{R:PySem.Expr->Prop}(ks:Ks)(pe:PySem.Expr)(k:∀y q args p,nG ks y=true->Ck (R<|.Call (.Name y q) args [] p)):Ck (R pe):=ot 10 pe λf args U p=>H2 (R:=λl=>R<|.Call f args l p) U<|ot (R:=λf=>R<|.Call f args [] p) 0 f λy q=>bg (nG ks y) λh=>k y q args p h
def wM(ks:Ks)(pe:PySem.Expr)(args:List E)(N:M2 B args)(b:KD):Ck (gI B ks (.bA b args) pe):=vN ks pe fun y q U p h=>ge (Nt.lookup y) fun L O=>bp (L.val=b.val/\b.val≠.builtin "isinstance") fun M=>jd (N.1 ks U) fun D=>jY<|bo (d5.bA H.G H.hB h (H.T.blt O).1 (M.1▸(H.T.blt O).2) (fun q=>M.2<|congrArg KD.val q) D.1) Y Y
def YE(ks:Ks)(pe:PySem.Expr)(a:E)(O:M2 B [a]):Ck (gI B ks (.bA .isStr [a]) pe):=vN ks pe fun y q l p h=>KP (a:=("isinstance" :Str)) (fun y=>nG ks y=true->gI B ks (.bA .isStr [a]) (.Call (.Name y q) l [] p)) y (bp (nG ks "str" =true) fun j=>Q3 (R:=fun l=>_->gI B ks (.bA .isStr [a]) (.Call (.Name "isinstance" q) l [] p)) l fun x l=>QX (R:=fun l=>_->gI B ks (.bA .isStr [a]) (.Call (.Name "isinstance" q) (x::l) [] p)) l fun z=>
 ot (R:=fun z=>_->gI B ks (.bA .isStr [a]) (.Call (.Name "isinstance" q) [x,z] [] p)) 0 z fun y U=>KP (a:=("str" :Str)) (fun y=>_->gI B ks (.bA .isStr [a]) (.Call (.Name "isinstance" q) [x,.Name y U] [] p)) y<|bp (but x 16) fun M=>jd (O.2 ks x) fun N=>jY fun h=>bo (d5.isStr H.G h H.T.X6.1 j H.T.str.1 H.T.X6.2 H.T.str.2 (facts _ M.1).star N.v) Y Y) |>.bind fun r=>jY<|r.down h
def YD(ks:Ks)(pe:PySem.Expr)(args:List E):M2 B args->Ck (gI B ks (.bA .isStr args) pe):=args.rec (motive:=λa=>M2 B a->Ck (gI B ks (.bA .isStr a) pe)) (λU=>none) λa r U=>r.rec (motive:=λr=>M2 B (a::r)->Ck (gI B ks (.bA .isStr (a::r)) pe)) (YE H ks pe a) λU U U U=>none
def ckD(ks:Ks)(U:List (E×E))(k:List (Option PySem.Expr))(v:List PySem.Expr)(p:Pos)(M:M3 B U):Ck (d5 B ks (.bK U)<|.Dict k v p):=U.rec (motive:=λU=>M3 B U->Ck (d5 B ks (.bK U)<|.Dict k v p)) (λO=>H2 (R:=λk=>d5 B ks (.bK [])<|.Dict k v p) k<|H2 (R:=λv=>d5 B ks (.bK [])<|.Dict [] v p) v<|jY d5.YA)
 (λg N O M=>N.rec (motive:=λN=>Ck<|d5 B ks (.bK (g::N))<|.Dict k v p) (QX (R:=λk=>d5 B ks (.bK [g])<|.Dict k v p) k λk=>WS (R:=λk=>d5 B ks (.bK [g])<|.Dict [k] v p) k λk=>QX (R:=λv=>d5 B ks (.bK [g])<|.Dict [some k] v p) v λv=>jd (M.1 ks k) λL=>jd (M.2 ks v) λD=>jY<|d5.Yz L.v D.v) λO O O=>none) M
def Nl(e:E):M1 B e:=
 @E.rec (M1 B) (M2 B) (M3 B) (M4 B) (M5 B) (λg=>M7 B g.2) (M7 B)
  (λx ks pe=>ot 0 pe λy p=>bg (N5 B.nm ks x y) λh=>jY<|bo (d5.af h) Y Y)
  (λa ks pe=>alt (ot 1 pe λc k p=>ckC ks a c k p)<|OD pe λj q p1 p=>ge (j6 a) λi e=>bp (i= -j) λh=>jY<|jQ e▸bo (d5.YG h) Y Y)
  (λm ks pe=>ot 0 pe λy p=>bg (nG ks y) λh=>bp (rt[m]? =some y) λq=>jY<|bo (d5.wJ H.G h q) Y Y)
  (λw U ks pe=>ot 13 pe λl k p=>jd (U.1 ks l) λh=>jY<|bo (d5.aL h.1) Y Y)
  (λw U ks pe=>ot 14 pe λl p=>jd (U.1 ks l) λh=>jY<|bo (d5.aM h.1) Y Y)
  (λw U ks pe=>ot 14 pe λl p=>jd (U.1 ks l) λh=>jY<|bo (d5.Fj h.1) Y Y)
  (λkvs U ks pe=>ot 6 pe λk v p=>jd (ckD ks kvs k v p U) λh=>jY<|bo h Y Y)
  (λo a b ia ib ks pe=>ot 4 pe λl n r p=>jd (ia ks l) λO=>jd (ib ks r) λN=>KP (λn=>gI B ks (.b6 o a b)<|.BinOp l n r p) n<|jY<|bo (d5.b6 O.v N.v) Y Y)
  (λo a b ia ib ks pe=>ot 9 pe λl os r p=>QX (R:=λos=>gI B ks (.bk o a b)<|.Compare l os r p) os λn=>QX (R:=λr=>gI B ks (.bk o a b)<|.Compare l [n] r p) r λr=>KP (λn=>gI B ks (.bk o a b)<|.Compare l [n] [r] p) n
   (bp (behindInMarks o.op r=false) λhm=>jd (ia ks l) λO=>jd (ib ks r) λN=>jY<|Tt (d5.bk hm O.v N.v) (pR.bk hm O.v N.v) Y))
  (λw U ks pe=>ot 3 pe λo l p=>KP (a:=BoolOp.And) (λo=>gI B ks (.and w)<|.BoolOp o l p) o<|bp (w.isEmpty=false) λhne=>jd (U.1 ks l) λq=>jY<|Tt (d5.and q.2 λq=>Bool.noConfusion<|hne.symm.trans<|congrArg List.isEmpty q) (pR.and q.2) Y)
  (λw U ks pe=>ot 3 pe λo l p=>KP (a:=BoolOp.Or) (λo=>gI B ks (.or w)<|.BoolOp o l p) o<|bp (w.isEmpty=false) λhne=>jd (U.1 ks l) λq=>jY<|Tt (d5.or q.2 λq=>Bool.noConfusion<|hne.symm.trans<|congrArg List.isEmpty q) (pR.or q.2) Y)
  (λa ia ks pe=>ot 2 pe λo x p=>KP (a:=UnaryOp.Not) (λo=>gI B ks (.not a)<|.UnaryOp o x p) o<|jd (ia ks x) λq=>jY<|Tt (d5.not q.v) (pR.not q.t) Y)
  (λc a b ic ia ib ks pe=>ot 5 pe λx y z p=>jd (ic ks x) λh0=>jd (ia ks y) λO=>jd (ib ks z) λN=>jY<|Tt (d5.ite h0.t O.v N.v) (pR.ite h0.t O.t N.t) Y)
  (λo i Q ii ks pe=>ot 12 pe λx y p=>bp (but y 15) λh=>jd (Q ks x) λO=>jd (ii ks y) λN=>jY<|bo (d5.sub ((facts _ h.1).sl h.2) O.v N.v) Y Y)
  (λo i Q ii ks pe=>ot 12 pe λx y p=>ot (R:=λe=>gI B ks (.AY o i)<|.Subscript x e p) 15 y λa b c q=>WS (R:=λa=>gI B ks (.AY o i)<|.Subscript x (.Slice a b c q) p) a λa=>SW (R:=λb=>gI B ks (.AY o i)<|.Subscript x (.Slice (some a) b c q) p) b<|SW (R:=λc=>gI B ks (.AY o i)<|.Subscript x (.Slice (some a) none c q) p) c<|jd (Q ks x) λO=>jd (ii ks a) λN=>jY<|bo (d5.AY O.v N.v) Y Y)
  (λo i Q ii ks pe=>ot 12 pe λx y p=>ot (R:=λe=>gI B ks (.tO o i)<|.Subscript x e p) 15 y λa b c q=>SW (R:=λa=>gI B ks (.tO o i)<|.Subscript x (.Slice a b c q) p) a<|WS (R:=λb=>gI B ks (.tO o i)<|.Subscript x (.Slice none b c q) p) b λb=>SW (R:=λc=>gI B ks (.tO o i)<|.Subscript x (.Slice none (some b) c q) p) c<|jd (Q ks x) λO=>jd (ii ks b) λN=>jY<|bo (d5.tO O.v N.v) Y Y)
  (λo Q ks pe=>ot 12 pe λx y p=>ot (R:=λe=>gI B ks (.GJ o)<|.Subscript x e p) 15 y λa b c q=>SW (R:=λa=>gI B ks (.GJ o)<|.Subscript x (.Slice a b c q) p) a (SW (R:=λb=>gI B ks (.GJ o)<|.Subscript x (.Slice none b c q) p) b (WS (R:=λc=>gI B ks (.GJ o)<|.Subscript x (.Slice none none c q) p) c λc=>
   OD (R:=λc=>gI B ks (.GJ o)<|.Subscript x (.Slice none none (some c) q) p) c λj q1 p1 p2=>bp (1=j) λh=>jd (Q ks x) λO=>jY<|h▸bo (d5.GJ O.v) Y Y)))
  (λo f Q ks pe=>ot 11 pe λx y p=>bp (attrName f=y) λh=>bp (but x 10) λhb=>jd (Q ks x) λO=>jY<|bo (d5.bG H.G h ((facts _ hb.1).base hb.2 _) O.v) Y Y)
  (λx args U ks pe=>vN ks pe λy q D p h=>bp (fns.lookup y=some x) λA=>jd (U.1 ks D) λO=>jY<|bo (d5.lO H.G H.mN h (H.T.fn A).1 (H.T.fn A).2 O.1) Y Y)
  (λx args U ks pe=>vN ks pe λy q D p h=>bp (fns.lookup y=some x) λA=>jd (U.1 ks D) λO=>jY<|bo (d5.vR H.G H.mN h (H.T.fn A).1 (H.T.fn A).2 O.1) Y Y)
  (λc args keep U ks pe=>vN ks pe λy q D p h=>ge (Nj.lookup y) λf A=>bp (f.1=c) λhc=>jd (U.1 ks D) λO=>jY<|hc▸bo (d5.new H.G H.mN h (H.T.cls A).1 (H.T.cls A).2.1 (H.T.cls A).2.2 O.1) Y Y)
  (λb args U ks pe=> @KD.casesOn (λb=>Ck<|gI B ks (.bA b args) pe) b (wM H ks pe args U .len) (wM H ks pe args U .range) (wM H ks pe args U .tuple) (wM H ks pe args U .list) (wM H ks pe args U .sorted) (wM H ks pe args U .sum) (wM H ks pe args U .min) (wM H ks pe args U .abs) (wM H ks pe args U .int) (wM H ks pe args U .dict) (YD H ks pe args U))
  (λo m args Q U ks pe=>ot 10 pe λf l kw p=>H2 (R:=λkw=>gI B ks (.bR o m args)<|.Call f l kw p) kw<|ot (R:=λf=>gI B ks (.bR o m args)<|.Call f l [] p) 11 f λx y q=>bp (m.name=y) λhm=>bp (but x 10) λhb=>bg (WU l q p) λh3=>jd (Q ks x) λO=>jd (U.1 ks l) λN=>jY<|bo (d5.bR H.G H.mN H.T.u1 hm ((facts _ hb.1).base hb.2 _) h3 O.v N.1) Y Y)
  (λelt gens own ie ig ks pe=>ot 7 pe λx cs s p=>gens.rec (motive:=λgens=>M4 B gens->Ck (gI B ks (.lc elt gens own)<|.ListComp x cs s p)) (λM=>none) (λg gs M U=>Q3 (R:=λl=>gI B ks (.lc elt (g::gs) own)<|.ListComp x l s p) cs λc l=> @Comprehension.casesOn (λc=>Ck<|gI B ks (.lc elt (g::gs) own)<|.ListComp x (c::l) s p) c λtg X ifs a=>
   bp (0=a/\l.all (λc=>c.is_async==0)=true/\but X 16/\zk B.nm own ks s=true/\y9 own (g::gs)=true) λh=>jd (U.2.1.1 ks X) λO=>jd (Xd B.nm (gS ks s.names) own g.1 tg) λN=>jd (U.2.1.2.1 (gS ks s.names) ifs) λh3=>jd (U.2.2 (gS ks s.names) own l) λh4=>jd (ie (gS ks s.names) x) λh5=>jY<|h.1▸bc ⟨Kx.lc h.2.1 (facts _ h.2.2.1.1).set h.2.2.2.1 h.2.2.2.2 O.v N h3.2 h4 h5.v,λM M M M=>⟨_,Y⟩,λM M=>rfl⟩ (λM=>rfl) Y) ig)
  (λk v t X ifs own ik iv ii is ks pe=>ot 8 pe λx y cs s p=>QX (R:=λl=>gI B ks (.dc k v t X ifs own)<|.DictComp x y l s p) cs λc=> @Comprehension.casesOn (λc=>Ck<|gI B ks (.dc k v t X ifs own)<|.DictComp x y [c] s p) c λtg pit pifs a=>
   bp (0=a/\but pit 16/\zk B.nm own ks s=true/\y9 own [(t,X,ifs)]=true) λh=>jd (ii ks pit) λO=>jd (Xd B.nm (gS ks s.names) own t tg) λN=>jd (is.1 (gS ks s.names) pifs) λh3=>jd (ik (gS ks s.names) x) λh4=>jd (iv (gS ks s.names) y) λh5=>jY<|h.1▸bc ⟨Kx.dc (facts _ h.2.1.1).set h.2.2.1 h.2.2.2 O.v N h3.2 h4.v h5.v,λM M M M=>⟨_,Y⟩,λM M=>rfl⟩ (λM=>rfl) Y)
  (λks P=>H2 P<|jY ⟨oz.nil,lI.nil⟩,⟨⟩)
  (λe w ie is=>(λks P=>Q3 P λpe P=>bp (but pe 16) λh=>jd (ie ks pe) λO=>jd (is.1 ks P) λN=>jY ⟨oz.cons (facts _ h.1).star O.v N.1,lI.cons O.v O.t N.2⟩,ie))
  ⟨⟩ (λM M h M=>h)
  ⟨λks own L=>H2 L<|jY GF.nil,⟨⟩⟩
  (λg gs ig is=>⟨λks own L=>Q3 L λc L=> @Comprehension.casesOn (λc=>Ck<|GF B ks own (g::gs) (c::L)) c λtg X ifs a=>bp (0=a/\but X 16) λh=>jd (Xd B.nm ks own g.1 tg) λO=>jd (ig.1 ks X) λN=>jd (ig.2.1 ks ifs) λh3=>jd (is.1 ks own L) λh4=>jY<|h.1▸GF.cons (facts _ h.2.1).set O N.v h3.2 h4,ig,is.1⟩)
  (λM M a b=>(a,b)) (λM M h=>h) (λM M a b=>(a,b)) e
end
inductive rU(w:World)(g:Gh)(h:Heap):Out->Flow->Prop
 |next:rU w g h .next .next
 |cont:rU w g h .cont .cont
 |ret {a v} (r:VR w g h a v):rU w g h (.ret a) (.ret v)
inductive ou(C:Cx)(g:Gh)(s:Shared)(fl:Nat)(nm:List Str)(own:List Nat)(W:Addr->Prop)(env:Env)(r:Out×En×St)(f:Flow)(s':Shared):Prop
 |mk (g') (S:cH C g' r.2.2 s'.heap) (x:fg fl W g s g' s') (F:jx C g' s'.heap nm own W env r.2.1) (fr:rU C.w g' s'.heap r.1 f)
structure oy(B:Bd)(ks:Ks)(own:List Nat)(W:Addr->Prop)(env:Env)(ρ:En)(A:Around)(g:Gh)(st:St)(s:Shared)(ro fl:Nat):Prop where
 P:Pre B ks own W env ρ A g st s ro
 hf:fl<=g.mu.length
 FC:ro<=fl
section
variable(B:Bd)(ks:Ks)(U:List Nat)(N:Nat)
def gH(x:S)(O:Stmt):Prop:=∀{W:Addr->Prop} {env:Env} {ρ:En} {A:Around} {g:Gh} {st:St} {s:Shared} {ro fl:Nat} {r:Out×En×St},
 oy B ks U W env ρ A g st s ro fl->Al B.Φ ro N fl x ρ st=some r->wpAny B.C.m A (exec O env) (ou B.C g s fl B.nm U W env r) eV s
def iR(M:List S)(O:List Stmt):Prop:=∀{W:Addr->Prop} {env:Env} {ρ:En} {A:Around} {g:Gh} {st:St} {s:Shared} {ro fl:Nat} {r:Out×En×St},
 oy B ks U W env ρ A g st s ro fl->cg B.Φ ro N fl M ρ st=some r->wpAny B.C.m A (execs O env) (ou B.C g s fl B.nm U W env r) eV s
end
section
variable{st:St}
set_option tactic.hygienic true in
def ou.wN(x:fg O W g s N s1)(h:wpAny C.m A m (ou C N s1 O nm own W env q) eV s2):wpAny C.m A m (ou C g s O nm own W env q) eV s2:=aY h (λU U p=>(by induction p;rename_i D H y L M;exact⟨D,H,x.trans y,L,M⟩)) λU U e=>e
def fg.stm(x:fg g.mu.length nx g s N s1)(M:U<=g.mu.length)(O:g.ro<=U):fg U W g s N s1:=x.weaken M O λD h=>h.elim
def oy.then{U}{O}{mf:St}{s1}(P:oy B ks own W env ρ A g st s ro M)(S1:cH B.C O mf s1.heap)(x:fg M W g s O s1)(F1:jx B.C O s1.heap B.nm own W env U):oy B ks own W env U A O mf s1 ro M:=⟨⟨P.P.hk,P.P.R,S1,F1,x.ro.trans P.P.hr⟩,x.len.2,P.FC⟩
def oy.up(P:oy B ks own W env M A g st s N O)(x:fg g.mu.length nx g s U s1):fg O W g s U s1:=x.stm P.hf<|J P.P.hr P.FC
theorem oy.refl(P:oy B ks own W env ρ A g st s ro fl):fg fl W g s g s:=fg.refl P.hf<|J P.P.hr P.FC
def d5.kS{e}{pe}(h:d5 B ks e pe)(P:oy B ks own W env M A g st s N D){p}(L:bZ B.Φ N e M st=some p){Q}(k:∀{U s1 v},oy B ks own W env M A U p.2 s1 N D->fg D W g s U s1->VR B.C.w U s1.heap p.1 v->Keeps g s.heap U s1.heap->Q v s1):
  wpAny B.C.m A (eval pe env) Q eV s:=h.k P.P L λX O H=>k ⟨X,(P.up O).len.2,P.FC⟩ (P.up O) H<|O.k0 P.P.S
def iR.nil:iR B ks own N [] []:=by intro W env O A g st s M U r P e;exact wpAny_execs_nil<|sm (P:=λr=>ou B.C g s U B.nm own W env r .next s) e ⟨g,P.P.S,P.refl,P.P.F,.next⟩
set_option tactic.hygienic true in
def iR.cons{x}{Q}{L}{U}(X:gH B ks own N x Q)(b:iR B ks own N L U):iR B ks own N (x::L) (Q::U):=by
 intro W env t A g st s l j r P e;refine dj e λc v H=>wpAny_execs_cons<|aY (X P v) (λf s1 q=>?_) λp p e=>e;clear X e v;induction q;rename_i M S1 O F1 D;obtain⟨o,y,mf⟩:=c;replace D:rU B.C.w M s1.heap o f:=D;induction D with
 |next=>exact ou.wN O<|b (P.then S1 O F1) H
 |cont=>exact sm (P:=λr=>ou B.C g s j B.nm own W env r .cont s1) H ⟨M,S1,O,F1,.cont⟩
 |ret i=>exact sm (P:=λr=>ou B.C g s j B.nm own W env r (.ret _) s1) H ⟨M,S1,O,F1,.ret i⟩
def Ig{U:List O}:∀{ys},cY f U=some ys->U.length=ys.length/\∀(i:Nat) y,ys[i]? =some y->∃x,U[i]? =some x/\f x=some y:=by
 induction U with
 |nil=>exact λe=>sm (P:=λys=>([]:List O).length=ys.length/\∀(i:Nat) y,ys[i]? =some y->∃x,([]:List O)[i]? =some x/\f x=some y) e ⟨Y,λi y h=>eg h⟩
 |cons x U M=>
  intro ys e;obtain⟨y,D,H,N,L⟩:=jO e;refine J L ⟨congrArg Nat.succ (M N).1,λi z h=>?_⟩;induction i with
  |zero=>exact⟨x,Y,H.trans h⟩
  |succ i=>exact(M N).2 i z h
theorem jx.cut(F:jx C g h nm own W env H)(S:cH C g st h)(e:Ah st N drop H=some U):jx C (g.cut N) h nm own W env U:=by
 refine And.elim (λP L=>?_)<|Ig e;refine F.move (jn P<|qv ..) (λi a h O k=>?_) (λO O O e=>e) λa M=>have o:=F.out a M;⟨λi=>i.elim o.fA λm=>o.mu<|(eB _ N _).mpr<|.inr m,λm=>o.mu<|(eB _ N _).mpr<|.inl m,o.live,o.one⟩
 obtain⟨x,M,D⟩:=L i _ h;induction x with
 |none=>exact nomatch D
 |some b=>exact dj D λy X Q=>k b (oe _ _ _ _ M).2 λv r=>oP S 6 _ _ _ (X.trans<|ak Q) r
theorem iR.gc{H}(X:iR B ks own N H M):iR B ks own N (.gc drop::H) M:=by intro W env q A g st s v o r P e;refine dj e λy O D=>dj O λL w O=>dj O λmf j O=>?_;have U:=P.P.hr▸P.FC;replace D:=(ak O)▸D;exact ou.wN ((pH P.hf U).weaken .refl U λQ h=>h.elim)<|X (P.then (P.P.S.cut U j) ((pH P.hf U).weaken .refl U λQ h=>h.elim)<|P.P.F.cut P.P.S w) D
theorem jx.drop{drop}(F:jx C g h nm own W env O):jx C g h nm own W env (dO drop O):=F.move (qv ..) (λi a e U k=>k a (oe _ _ _ _ e).2 λU r=>r) (λU U U e=>e) F.out
theorem iR.jU{O}(M:iR B ks own N O U):iR B ks own N (.jU drop::O) U:=by intro W env D A g st s H L r P e;exact M (P.then P.P.S P.refl P.P.F.drop) e
theorem gH.ret(h:d5 B ks e pe):gH B ks own N (.ret e) (.Return pe p):=by intro W env Q A g st s X D r P e;exact dj e λq L H=>wpAny_Return_some<|h.kS P L λ{_ s1 v} U O M _=>sm (P:=λr=>ou B.C g s D B.nm own W env r (.ret v) s1) H ⟨_,U.P.S,O,U.P.F,.ret M⟩
theorem gH.cont:gH B ks own N .cont (.Continue p):=by intro W env O A g st s M U r P e;exact ao<|d4<|ay<|sm (P:=λr=>ou B.C g s U B.nm own W env r .cont s) e ⟨g,P.P.S,P.refl,P.P.F,.cont⟩
theorem gH.Bz:gH B ks own N .Bz M:=by intro W env U A g st s O D r P e;exact eg e
theorem gH.exp(h:d5 B ks e pe)(M:∀l env,swapsWith pe none l env=pure false):gH B ks own N (.exp e) (.Expr pe p):=by
 intro W env Q A g st s j D r P e;exact dj e λq L H=>wpAny_Expr_any (h.kS P L λ{_ s1 v} U O X _=>sm (P:=λr=>ou B.C g s D B.nm own W env r .next s1) H ⟨_,U.P.S,O,U.P.F,.next⟩) (by dsimp only [interactive];exact J P.P.F.fs.kind Y)<|M ..
def pR.kS{c:E}{U:PySem.Expr}(h:pR B ks c U)(P:oy B ks own W env N A g st s H L){q:Bool×St}(e:nS B.Φ H true [c] N st=some q){Q:Bool->Shared->Prop}(k:∀{O s1},oy B ks own W env N A O q.2 s1 H L->fg L W g s O s1->Q q.1 s1):
  wpAny B.C.m A (isTrue U env<|eval U env) Q eV s:=by
 obtain⟨w,b,j,X,d⟩:=nL e;have d:=ak<|uQ d;refine h.k P.P j X λ{O s1} M D=>J (show b=q.1 from congrArg Prod.fst d) ?_;replace M:=(congrArg Prod.snd d)▸M;exact k ⟨M,(P.up D).len.2,P.FC⟩<|P.up D
theorem gH.jt{c}{a b}(Q:pR B ks c D)(j:iR B ks own N a L)(X:iR B ks own N b H):gH B ks own N (.jt c a b) (.If D L H p):=by
 intro W env v A g st s y o r P e;refine dj e λq w U=>wpAny_If<|Q.kS P w λM O=>?_;induction hq:q.1 with
 |true=>rw [hq] at U;exact ou.wN O<|j M U
 |false=>rw [hq] at U;exact ou.wN O<|X M U
end
section
variable{B:Bd}{U:St}
inductive SG(C:Cx)(g0:Gh)(s0:Shared)(m:Nat)(nm:List Str)(own:List Nat)(W:Addr->Prop)(env:Env)(q:Out×En×St):Result->Shared->Prop
 |mk {f s'} (p:ou C g0 s0 m nm own W env q f s'):SG C g0 s0 m nm own W env q (.ok f) s'
inductive WC(C:Cx)(m:Nat)(g0:Gh)(s0:Shared)(nm:List Str)(own:List Nat)(W:Addr->Prop)(env:Env)(I:Addr)(xs:List AV)(gd:Option (Nat×AC))(asg:AV->En->St->Option En)(step:En->St->Option (Out×En×St))(q:Out×En×St)(k:Nat)(s':Shared):Prop
 |mk (i g' ρ1 mf) (hn:k=xs.length+1-i) (hi:i<=xs.length) (h:my asg step gd (xs.drop i) ρ1 mf=some q) (L:A1 C m m g0 s0 nm own W env ρ1 I i xs gd g' mf s') (hg:cT mf gd)
section
variable{U:En->St->Option (Out×En×St)}{q:Out×En×St}
def WC.again(D:i<M.length)(L:A1 C m m g0 s0 nm own W env O I (i+1) M N Q mf H)(h:(if cT mf N then my asg U N (M.drop<|i+1) O mf else none)=q):
  ∃j,j<M.length+1-i/\WC C m g0 s0 nm own W env I M N asg U q j H:=jq h (λP h=>⟨M.length+1-(i+1),(lq [_,_,_,_] [aH (.s a7) (.a aE cz),aH (.a ax<|.s cz) (.s a7)] (.s ax) aE Y (wB ..) (aG<|a9<|lq [_,_] [aH (.s ax) aE] (.s ax) (.s aE) Y D)),i+1,Q,O,mf,Y,D,h,L,P⟩) λX h=>eg h
end
set_option tactic.hygienic true in
def Cb(hk:env.scope.names=ks)(R:mV A (B.n+1))(ht:CT B.nm ks own t pt)(hb:iR B ks own N body D)
  (c:Wz m m g0 s0 env I) (hr:g0.ro=ro) (L:A1 B.C m m g0 s0 B.nm own W env H I 0 j gd g U s) (y:cT U gd) (h:my (λx H U=>fQ U t x H) (cg B.Φ ro N m body) gd j H U=some q):
  codeAny B.C.m A (.forLoop pt (.ref I) D [] env) (SG B.C g0 s0 m B.nm own W env q) s:=by
 refine codeAny_forLoop_any (WC B.C m g0 s0 B.nm own W env I j gd (λx H U=>fQ U t x H) (cg B.Φ ro N m body) q) (λk s1 p=>?_) (j.length+1) ⟨0,g,H,U,Y,bf _,h,L,y⟩;induction p;rename_i i g1 ρ1 mf hn hi h L y;refine J hn ?_;by_cases O:i<j.length
 .refine aY (t4 R.handled L.S L.T L.o y<|aW O) (λr s2 p=>?_) λM M e=>e.elim;induction p with|mk v rv X T2=>?_
  have L2:=L.next c X T2
  rw [eE O] at h;refine dj h λρ2 l h=>dj h λr3 b h=>sV T2<|aY (yV R.handled (J hk ht) L2.F L2.S rv l) (λM s3 p=>?_) λM M e=>e.elim;obtain⟨S3,x3,F3⟩:=p;have Q:=L2.run c S3 (L2.up x3) F3;refine aY (hb ⟨⟨hk,R,S3,F3,Q.x.ro.trans hr⟩,Q.x.len.2,jn hr c.FC⟩ b) (λf s4 p=>?_) λM M e=>e.elim;induction p;rename_i g4 a x4 F4 fr;induction r3;rename_i o5 ρ5 st5;replace fr:rU B.C.w g4 s4.heap ρ5 f:=fr;induction fr with
  |next=>exact WC.again O (Q.run c a x4 F4) h
  |cont=>exact WC.again O (Q.run c a x4 F4) h
  |ret rv=>exact sm (P:=λq=>SG B.C g0 s0 m B.nm own W env q (.ok<|.ret _) s4) h ⟨g4,a,(Q.run c a x4 F4).x,F4,.ret rv⟩
 .rw [fu (Nat.not_lt.mp O)] at h;refine aY (next_end R.handled L.S L.T L.o y (cO<|Nat.not_lt.mp O) hi) (λr s2 p=>?_) λM M e=>e.elim;induction p with| @mk s2 S2 x2 l b=>?_
  exact wpAny_execs_nil<|sm (P:=λq=>SG B.C g0 s0 m B.nm own W env q (.ok .next) s2) h ⟨g1,S2,(L.fin c x2 l b).1,(L.fin c x2 l b).2,.next⟩
set_option tactic.hygienic true in
theorem gH.dT(i:∀env x,foldedSetIterable D env x=pure x)(n:CT B.nm ks own t c)(L:d5 B ks l D)(a:iR B ks own N body M):
  gH B ks own N (.dT t l body) (.For c D M [] p):=by
 intro W env ρ A g U s ro fl r P e;refine dj e λp1 e1 e=>dj e λq e2 e=>wpAny_For (L.kS P e1 λ{Q s1 v} O j f _=>aY (yB O.P.hr O.P.S f e2) (λb s2 y=>?_) λH H e=>e)<|i env;induction y with|mk o hf T0 hg=>?_
 have X:fg Q.mu.length nx Q s1 Q {s1 with heap:=s1.heap.push o}:=mD O.P.S.iJ;rw [O.P.S.length] at e;refine kg (Cb P.P.hk P.P.R n a ⟨(ct _),λh=>(ct _) (O.P.F.out _ h).live,aS _,O.P.S.iJ⟩ O.P.hr ⟨O.P.S.push o,O.P.F.wK O.P.S X,X.weaken .refl O.P.S.iJ λH h=>h.elim,T0,ij O.P.S hf⟩ hg e) λH s3 y=>?_;induction y with|mk y=>?_
 induction y;rename_i g3 S3 w F3 fr;exact⟨g3,S3,j.trans<|w.weaken j.len.2 (J O.P.hr P.FC) λH h=>h,F3,fr⟩
inductive WlI(C:Cx)(Φ:Fs)(ro N fl:Nat)(c:E)(body:List S)(nm:List Str)(n:Nat)(ks:Ks)(own:List Nat)(W:Addr->Prop)(env:Env)(A:Around)(g:Gh)(s:Shared)(r:Out×En×St)(k:Nat)(s':Shared):Prop
 |mk (g' ρ1 mf) (h:wR (nS B.Φ ro true [c]) (cg B.Φ ro N fl body) k ρ1 mf=some r) (P:oy B ks own W env ρ1 A g' mf s' ro fl) (x:fg fl W g s g' s')
set_option tactic.hygienic true in
theorem gH.A4{c}(hc:pR B ks c pc)(hb:iR B ks own N body O):
  gH B ks own N (.A4 c body) (.While pc O [] p):=by
 intro W env ρ A g U s x fl r P e;have P0:oy B ks own W env ρ A g U s x U.length:=⟨P.P,aG P.P.S.length,J P.P.S.length<|jn P.P.hr P.P.S.iJ⟩;refine wpAny_While ?_
 have key:codeAny B.C.m A (.whileLoop pc O [] env) (SG B.C g s U.length B.nm own W env r) s:=by
  refine codeAny_whileLoop (WlI B.C B.Φ x N U.length c body B.nm B.n ks own W env A g s r) (λk s1 y=>?_) N ⟨g,ρ,U,e,P0,P0.refl⟩;induction y;rename_i g1 l mf h P1 x1;induction k with
  |zero=>exact eg h
  |succ k=>
   refine dj h λq e1 h=>aY (hc.kS (Q:=λb s2=>b=q.1/\∃t,oy B ks own W env l A t q.2 s2 x U.length/\fg U.length W g s t s2) P1 e1 λM x2=>⟨Y,_,M,x1.trans x2⟩) (λb s2 y=>?_) λL L e=>e.elim;refine y.elim λj a=>a.elim λt a=>a.elim λM o=>J j ?_;induction hq:q.1 with
   |false=>rw [hq] at h;exact wpAny_execs_nil<|sm (P:=λr=>SG B.C g s U.length B.nm own W env r (.ok .next) s2) h ⟨t,M.P.S,o,M.P.F,.next⟩
   |true=>
    rw [hq] at h;refine dj h λr3 e2 h=>aY (hb M e2) (λf s4 y=>?_) λL L e=>e.elim;clear hc hb e e1 j e2;obtain⟨i,S4,H,F4,v⟩:=y;obtain⟨o5,D,X⟩:=r3;replace v:rU B.C.w i s4.heap o5 f:=v;induction v with
    |next=>exact⟨k,a6 _,i,D,X,h,M.then S4 H F4,o.trans H⟩
    |cont=>exact⟨k,a6 _,i,D,X,h,M.then S4 H F4,o.trans H⟩
    |ret rv=>exact sm (P:=λr=>SG B.C g s U.length B.nm own W env r (.ok<|.ret _) s4) h ⟨i,S4,o.trans H,F4,.ret rv⟩
 refine kg key λL s3 y=>?_;induction y with|mk y=>?_
 obtain⟨g3,S3,x3,F3,v⟩:=y;exact⟨g3,S3,x3.weaken (J P.P.S.length P.hf) (J P.P.hr P.FC) λL h=>h,F3,v⟩
end
inductive CB(nm:List Str)(ks:Ks)(own:List Nat):List Nat->List Str->Prop
 |nil:CB nm ks own [] []
 |cons {x y xs ys}:wD nm ks own x y=true->CB nm ks own xs ys->CB nm ks own (x::xs) (y::ys)
section
variable{st:St}
def CB.app{M}(h:CB nm ks own M N)(D:CB nm ks own O U):CB nm ks own (M++O) (N++U):=h.rec D λq H=>.cons q
def CB.rev{U}(h:CB nm ks own U O):CB nm ks own U.reverse O.reverse:=h.rec .nil λq N M=>by simp only [iW];exact M.app<|.cons q .nil
def CA{N}{O}(h:CB nm env.scope.names own N O):∀{s} {as} {vs} {ρ ρ'},jx C g s.heap nm own W env ρ->cH C g st s.heap->eT C.w g s.heap as vs->fX N as ρ=some ρ'->
  wpAny M A (assignInOrder (O.map λn=>bindName env n) vs) (λU Q=>CL C g s nm own W env ρ' st Q) eV s:=by
 induction h with
 |nil=>
  intro s as vs ρ ρ' F S H e;induction as with
  |nil=>exact jn (ak e)<|ay ⟨S,fg.refl .refl S.iJ,F⟩
  |cons a as=>exact eg e
 |cons o i q=>
  intro s as vs ρ ρ' F S H e;induction as with
  |nil=>exact eg e
  |cons a as=>obtain⟨v,P,ev,B,X⟩:=H;refine(Ds o).elim λj k2=>J ev<|dj e λL r f=>ao<|bD<|wpAny_bindName<|aY (J9 F S j k2 B r) (λU s1 p=>?_) λU U e=>e;obtain⟨S1,D,F1⟩:=p;exact aY (q F1 S1 (X.mono<|D.vh S λa y=>(F.out a<|F.fs.wf a y).fA) f) (λU s2 p=>⟨p.1,D.trans p.2,p.3⟩) λU U e=>e
def CG{U}:∀{as} {ρ} {x} {a},U.length=as.length->fX (U++[x]) (as++[a]) ρ=(fX U as ρ).bind (nr x a):=by
 induction U with
 |nil=>
  intro as ρ x a h;induction as with
  |nil=>exact(Option.bind_fun_some _)
  |cons _ _=>exact zs h
 |cons y O D=>
  intro as ρ x a h;induction as with
  |nil=>exact sz h
  |cons b M=>refine(?_:(nr y b ρ).bind (fX (O++[x])<|M++[a])=((nr y b ρ).bind<|fX O M).bind (nr x a));exact J (iU ..)<|congrArg _<|funext λN=>D<|Nat.succ.inj h
inductive AsR(xs:List Nat)(as:List AV)(ρ ρ':En)(x:Nat)(v:Option AV):Prop
 |mk (ρ2) (e:fX xs as ρ=some ρ2) (d:ρ'=ρ2.set x v)
def CE{U}:∀{as} {ρ ρ'} {x} {v},x∉U->fX U as (ρ.set x v)=some ρ'->AsR U as ρ ρ' x v:=by
 induction U with
 |nil=>
  intro as ρ ρ' x v _ e;induction as with
  |nil=>exact⟨ρ,Y,(ak e).symm⟩
  |cons _ _=>exact eg e
 |cons y P Q=>
  intro as ρ ρ' x v N e;induction as with
  |nil=>exact eg e
  |cons b A=>refine dj e λL M H=>?_;obtain⟨D,M⟩:=pf M;simp only [bE] at D;rw [<-M,List.set_comm _ _ (λq:x=y=>N<|q▸.head _)] at H;obtain⟨O,B,X⟩:=Q (λq=>N<|.tail _ q) H;exact⟨O,by show(if _<_ then some _ else none:Option En).bind (fX P A)=_;exact J (au D) B,X⟩
def AK{U}:∀{as} {ρ ρ'},fX U as ρ=some ρ'->ρ'.length=ρ.length:=by
 induction U with
 |nil=>
  intro as ρ ρ' e;induction as with
  |nil=>exact congrArg _ (ak e).symm
  |cons _ _=>exact eg e
 |cons y H M=>
  intro as ρ ρ' e;induction as with
  |nil=>exact eg e
  |cons b L=>exact dj e λO D N=>J (M N)<|jn ((pf D).2) bE
def CF{U}:∀{as} {ρ ρ'},U.Nodup->fX U as ρ=some ρ'->fX U.reverse as.reverse ρ=some ρ':=by
 induction U with
 |nil=>
  intro as ρ ρ' _ e;induction as with
  |nil=>exact e
  |cons _ _=>exact eg e
 |cons x U P=>
  intro as ρ ρ' N e;induction as with
  |nil=>exact eg e
  |cons a as=>refine dj e λL M O=>(pf M).elim λQ M=>bV iW iW<|J (CG (by simp only [List.length_reverse];exact qA O)) ?_;replace O:=M▸O;obtain⟨H,D,X⟩:=CE (nC N).1 O;exact bV (P (nC N).2 D) X<|au<|J (AK D) Q
noncomputable def PD(env:Env)(line:Nat):PySem.Expr->Option Str
 | .Name id U=>if env.kindOf id==some .local&&U.line==line then some id else none
 |_=>none
set_option tactic.hygienic true in
def CN.swap{O}(h:CN nm ks own O U):(U.filterMap<|PD env line).length=U.length->CB nm ks own O (U.filterMap<|PD env line):=h.rec (λM=>.nil) λq D N=>by
  rename_i x y p O U;refine J List.filterMap_cons ?_;induction hs:PD env line (.Name y p)with
  |none=>exact λe=>absurd (List.length_filterMap_le (PD env line) U)<|Nat.not_le.mpr<|Nat.lt_of_succ_le<|aG e.symm
  |some id=>exact λe=>.cons (jn (lT hs λM e=>e) q)<|N<|Nat.succ.inj e
inductive Y0(env:Env)(ts:List PySem.Expr)(m:Sem (Option<|List Str)):Prop
 |no (e:m=pure none)
 |yes (line) (h:(ts.filterMap<|PD env line).length=ts.length) (e:m=pure (some<|ts.filterMap<|PD env line))
def Uj(H:O.all (constantsAlone 8)=false):
  Y0 env U (swappedStores [.Tuple U k p] (.Tuple O D N) env):=by
 have e0:swappedStores [.Tuple U k p] (.Tuple O D N) env=(do
   if !(U.length==2 ||U.length==3) ||O.length != U.length ||env.blockKind != .function then return none
   if O.any λ| .Starred .. =>true|_=>false then return none
   let line:=(U.head?.map (·.pos.line)).getD 0;let names:=U.filterMap (PD env line)
   if names.length != U.length ||names.eraseDups.length != names.length then return none
   if O.all (foldedForSure 8)then return none
   if O.all (constantsAlone 8)then unsupported "assign.tuple-of-constant-expressions:order-of-the-stores"
   return some names):=rfl
 refine J e0<|J H ?_;dsimp only [if_false];split
 .exact .no Y
 split
 .exact .no Y
 split
 .exact .no Y
 rename_i M;split
 .exact .no Y
 .refine .yes _ ?_ Y;rw [Bool.or_eq_true,bne_iff_ne,not_or,Decidable.not_not] at M;exact M.1
end
section
variable{st:St}{K:Frag}
def Hb(h:∀s,f s=pure false):PySem.swapsWith.match_6 (λU=>Sem Bool) o f (λU=>pure false)=pure false:=o.rec Y h
def wW:swapsWith pe (some<|.Tuple O k p) l env=pure false:=Hb λU=>rfl
def pM{E:Value->Shared->Prop}(D:swapsWith pe (some t) p.line env=pure false)(N:swappedStores [t] pe env=pure none)(O:assignEach [t] env=[(false,assign t env)])
  (h:wpAny M A (eval pe env) (λv s1=>wpAny M A (assign t env v) (λU s2=>Q .next s2) E s1) E s):wpAny M A (exec (.Assign [t] pe p) env) Q E s:=by
 refine ao<|d4 ?_;show wpAny M A (swapsWith pe t p.line env>>=_) ..;refine J D<|ao<|ay<|ao<|aY h ?_ λU U e=>e;exact λv s1 q=>bV N O<|ao<|ay<|ao<|aY q (λU U=>ay) λU U e=>e
def gI.swn(h:gI B ks e pe)(U:pT pe≠16) y p l env:∃b,swapsWith pe (some<|.Name y p) l env=pure b/\(b=true->B5 pe=true):=by
 induction hl:B5 pe with
 |false=>exact⟨false,(facts pe U).sw hl ..,nofun⟩
 |true=>exact((h.c hl).sw y p l env).elim λb q=>⟨b,q,λO=>rfl⟩
def yU(P:oy B ks own W env H A g st s Q N)(y:oy B ks own W env H A M U s1 Q N)(D:fg N W g s M s1)(q:CL B.C M s1 B.nm own W env O U s2)(e:some (O,U)=some X)(w:some (Out.next,X)=some j):ou B.C g s N B.nm own W env j .next s2:=by obtain⟨v,L,F2⟩:=q;exact(ak w)▸(ak e)▸⟨M,v,D.trans<|L.weaken D.len.2 (J y.P.hr P.FC) λo h=>h,F2,.next⟩
def gH.YN{y}{q}(h0:pT pe≠16)(hx:wD B.nm ks own x y=true)(h:gI B ks e pe):gH B ks own N (.aU (.v x) e) (.Assign [.Name y q] pe p):=by
 intro W env ρ A g st s ro fl r P e;refine dj e λp1 e1 e=>dj e λr1 j e=>dj j λρ1 e3 j=>?_;have O:=P.P.hk▸hx;obtain⟨b,h1,M⟩:=h.swn h0 y q p.line env;induction b with
 |false=>exact pM h1 Y Y<|d5.kS h.v P e1 λP1 x1 rv U=>aY (qZ O P1.P.F P1.P.S rv e3) (λU s2 z=>yU P P1 x1 z j e) λU U e=>e
 |true=>refine ao<|d4 (?_:wpAny _ _ (swapsWith pe (some<|.Name y q) p.line env>>=_) ..);refine J h1<|ao<|ay ?_;rw [(h.c<|M Y).use];refine ao<|ao<|(h.c<|M Y).c P.P e1 λk D L s5 hk5 X=>?_;obtain⟨g5,S5,w,F5,rD,oL⟩:=X.ex;replace rD:=hk5▸rD;refine(?_:wpAny _ _ (assign (.Name y q) env<|.ref D) ..);refine aY (qZ O F5 S5 rD e3) (λU s6 z=>?_) λU U e=>e;obtain⟨S6,Q,F6⟩:=z;have H:¬Fa env L:=λq=>X.new (P.P.F.out L q).live;obtain⟨m,hm⟩:=X.ns;refine⟨m,hm.at' λo e=>Q.keep L o e (λq=>H<|P.P.F.fs.wf L q) λm=>oL.mu<|iA m,λh' hs=>ay<|ay ?_⟩;exact(ak e)▸(ak j)▸⟨g5,S6.ext (oL.qr Q) hs.extBut,((P.up w).trans<|Q.weaken (P.up w).len.2 (J w.ro<|J P.P.hr P.FC) λU h=>h).ext X.new hs.extBut Y Y,F6.ext (oL.qr Q) H hs.extBut,.next⟩
def CN.len{xs}(h:CN nm ks own xs U):U.length=xs.length:=h.rec Y λO O=>congrArg Nat.succ
def gH.fQ{Q}{e}{U}{k}{q p}(x:CN B.nm ks own Q U)(n:Q.Nodup)(y:∀env,Y0 env U<|swappedStores [.Tuple U k q] pe env)
  (h:d5 B ks e pe):gH B ks own N (.aU (.t Q) e) (.Assign [.Tuple U k q] pe p):=by
 intro W env ρ A g st s ro fl r P e;refine dj e λp1 i e=>dj e λr1 L e=>dj L λl f L=>?_;have D:=P.P.hk▸x;induction y env with
 |no H=>exact pM wW H Y<|h.kS P i λO j w M=>aY (yV P.P.R.handled (.t D) O.P.F O.P.S w f) (λM s2 z=>yU P O j z L e) λM M e=>e
 |yes line H h3=>
  refine ao<|d4 (?_:wpAny _ _ (swapsWith pe (some<|.Tuple U k q) p.line env>>=_) ..);refine J wW<|ao<|ay<|ao<|h.kS P i λ{g1 s1 v} O j w _=>J h3<|ao<|ay<|ao<|jH ?_;obtain⟨as,a,o⟩:=wb f;refine J H<|J D.len<|J (qA o)<|ao<|aY (wU P.P.R.handled O.P.S w a) (λvs s2 z=>?_) λM M e=>e;obtain⟨c,X,Hw⟩:=z;have b:=O.then c (O.up X)<|O.P.F.wK O.P.S X
  exact ao<|aY (CA (D.swap H).rev b.P.F c Hw.reverse<|CF n o) (λM s3 z=>ay<|yU P b (j.trans<|O.up X) z L e) λM M e=>e
def gH.YS(G:Gl B.C K)(c:attrName f=y)(b:d5 B ks o L)(h:d5 B ks e pe):gH B ks own N (.aU (.bG o f) e) (.Assign [.Attribute L y q] pe p):=by intro W env ρ A g st s ro fl r P e;refine dj e λp1 x e=>dj e λr1 U e=>dj U λp2 n U=>dj U λj l U=>pM (Hb λM=>rfl) Y Y<|h.kS P x λ{g1 s1 v} P1 X w _=>(?_:wpAny _ _ (holding [v] (eval L env)>>=λD=>standAt q.atName>>=λ_=>holding [v,D] (setAttr D y v)>>=λM=>release [v,D] []) ..);refine ao<|bD<|b.kS P1 n λ{g2 s2 D} O Q i K2=>ao<|d4<|ao<|bD<|aY (jn c<|PI G.QZ G.ko O.P.hr O.P.S i (w.mono K2) l) (λM s3 z=>wpAny_release ?_) λM M e=>e;obtain⟨t,a,H⟩:=z;exact(ak e)▸(ak U)▸⟨t,a,(X.trans Q).trans<|O.up H,O.P.F.wK O.P.S H,.next⟩
def gH.YR{i e}(n:d5 B ks o Q)(x:d5 B ks i X)(h:d5 B ks e pe):gH B ks own N (.aU (.sub o i) e) (.Assign [.Subscript Q X q] pe p):=by intro W env ρ A g st s ro fl r P e;refine dj e λp1 e1 e=>dj e λr1 U e=>dj U λp2 e3 U=>dj U λp3 e5 U=>dj U λc e4 U=>pM (Hb λM=>rfl) Y Y<|h.kS P e1 λ{g1 s1 v} P1 f b _=>(?_:wpAny _ _ (holding [v] (eval Q env)>>=λD=>holding [v,D] (eval X env)>>=λH=>standAt q>>=λ_=>holding [v,D,H] (setItem D H v)>>=λM=>release _ []) ..);refine ao<|bD<|n.kS P1 e3 λ{g2 s2 D} P2 y l K2=>ao<|bD<|x.kS P2 e5 λ{g3 s3 H} O w t j=>ao<|d4<|ao<|bD<|aY (Hg P.P.R.Q1 O.P.hr O.P.S (l.mono j) t ((b.mono K2).mono j) e4) (λM s4 z=>wpAny_release ?_) λM M e=>e;obtain⟨a,S4,L⟩:=z;exact(ak e)▸(ak U)▸⟨a,S4,((f.trans y).trans w).trans<|O.up L,O.P.F.wK O.P.S L,.next⟩
end
abbrev Kd(R:Stmt->Prop)(t:Nat):Type:=([∀t e p,Ck<|R<|.Assign t e p,∀e p,Ck<|R<|.Expr e p,∀c a b p,Ck<|R<|.If c a b p,∀t i a b p,Ck<|R<|.For t i a b p,∀c a b p,Ck<|R<|.While c a b p,∀e p,Ck<|R<|.Return e p,∀p,Ck (R<|.Continue p)]:List Type).getD t PUnit
noncomputable def Br{R:Stmt->Prop}{P:Prop}(i:Nat){t:Nat}(k:Kd R t)(f:Kd R i->Ck P):Ck P:=bp (t=i) λh=>f<|h▸k
noncomputable def mf{R:Stmt->Prop}(t:Nat)(s:Stmt)(k:Kd R t):Ck (R s):=Stmt.casesOn (motive_2:=λs=>Ck<|R s) s (λU U U U U U U U U U=>none) (λU U U U U U U U U U=>none) (λU U U U U U U U U U U=>none) (λe p=>Br 5 k λk=>k e p) (λU U=>none) (λt e p=>Br 0 k λk=>k t e p) (λU U U U U U U=>none) (λU U U U=>none) (λU U U U U=>none)
 (λt i a b p=>Br 3 k λk=>k t i a b p) (λU U U U U=>none) (λc a b p=>Br 4 k λk=>k c a b p) (λc a b p=>Br 2 k λk=>k c a b p) (λU U U=>none) (λU U U=>none) (λU U U=>none) (λU U U=>none) (λU U U U U=>none) (λU U U U U=>none) (λU U U=>none) (λU U=>none) (λU U U U=>none) (λU U=>none) (λU U=>none)
 (λe p=>Br 1 k λk=>k e p) (λU=>none) (λU=>none) (λp=>Br 6 k λk=>k p)
section
variable{B:Bd}{K:Frag}
def gH.XX:gH B ks own N (.ret<|.aI .none) (.Return none p):=by intro W env O A g st s M U r P e;exact wpAny_Return_none<|sm (P:=λr=>ou B.C g s U B.nm own W env r (.ret .none) s) e ⟨g,P.P.S,P.refl,P.P.F,.ret Y⟩
variable(B N ks own)
abbrev So(x:S):Type:=∀U,Ck<|gH B ks own N x U
abbrev Sm(O:List S):Type:=∀U,Ck<|iR B ks own N O U
variable{B}(H:WB B K)
def R4(L:List S):Sm B N ks own L:=
 @S.rec_1 (So B N ks own) (Sm B N ks own)
  (λt e M=>mf 0 M λr pe p=>QX (R:=λr=>gH B ks own N (.aU t e)<|.Assign r pe p) r λO=>jd (Nl H e ks pe) λh=> @Tg.casesOn (λt=>Ck<|gH B ks own N (.aU t e)<|.Assign [O] pe p) t
   (λx=>ot (R:=λO=>gH B ks own N (.aU (.v x) e)<|.Assign [O] pe p) 0 O λy q=>bp (pT pe≠16) λh0=>bg (wD B.nm ks own x y) λhx=>jY<|gH.YN h0 hx h)
   (λL=>ot (R:=λO=>gH B ks own N (.aU (.t L) e)<|.Assign [O] pe p) 13 O λl k q=>bp (L.Nodup) λnd=>jd (alt (ot (R:=λpe=>∀env,Y0 env l<|swappedStores [.Tuple l k q] pe env) 13 pe λvs k' p'=>bp (vs.all (constantsAlone 8)=false) λhv=>jY λenv=>Uj hv)<|bp (but pe 13) λD=>jY λenv=>.no<|(facts _ D.1).bz D.2 _ _ _ _) λD=>jd (ZG B.nm ks own L l) λA=>jY<|gH.fQ A nd D h.v)
   (λo f=>ot (R:=λO=>gH B ks own N (.aU (.bG o f) e)<|.Assign [O] pe p) 11 O λx y q=>bp (attrName f=y) λhy=>jd (Nl H o ks x) λn=>jY<|gH.YS H.G hy n.v h.v)
   (λo i=>ot (R:=λO=>gH B ks own N (.aU (.sub o i) e)<|.Assign [O] pe p) 12 O λx y q=>jd (Nl H o ks x) λn=>jd (Nl H i ks y) λs=>jY<|gH.YR n.v s.v h.v))
  (λe M=>mf 1 M λpe p=>bp (pT pe≠16/\B5 pe=false) λD=>jd (Nl H e ks pe) λh=>jY<|gH.exp h.v<|(facts _ D.1).sw D.2 none)
  (λc a b ia X M=>mf 2 M λw pa Q p=>jd (Nl H c ks w) λA=>jd (ia pa) λha=>jd (X Q) λj=>jY<|gH.jt A.t ha j)
  (λt it body X M=>mf 3 M λO P Q el p=>H2 (R:=λel=>gH B ks own N (.dT t it body)<|.For O P Q el p) el<|bp (but P 16) λD=>jd (Xd B.nm ks own t O) λht=>jd (Nl H it ks P) λs=>jd (X Q) λj=>jY<|gH.dT (facts _ D.1).set ht s.v j)
  (λc body X M=>mf 4 M λw Q el p=>H2 (R:=λel=>gH B ks own N (.A4 c body)<|.While w Q el p) el<|jd (Nl H c ks w) λA=>jd (X Q) λj=>jY<|gH.A4 A.t j)
  (λe M=>mf 5 M λpe p=>pe.rec (motive:=λpe=>Ck<|gH B ks own N (.ret e)<|.Return pe p) (match e with
   | .aI .none=>jY gH.XX
   |_=>none) λpe=>jd (Nl H e ks pe) λh=>jY<|gH.ret h.v)
  (λM=>mf 6 M λp=>jY gH.cont)
  (λM=>jY gH.Bz) (λg g=>none) (λg g=>none)
  (λU=>H2 U<|jY iR.nil)
  (λx L ix is U=>alt (Q3 (R:=λU=>iR B ks own N (x::L) U) U λM U=>jd (ix M) λh1=>jd (is U) λh2=>jY<|iR.cons h1 h2) (match x with
   | .gc d=>jd (is U) λh=>jY (iR.gc h)
   | .jU d=>jd (is U) λh=>jY (iR.jU h)
   |_=>none)) L
end
def Cy kindOf:∀{m},(∀p∈l,p.1≠x)->bindL kindOf l m x=m x:=by
 induction l with
 |nil=>exact λM=>rfl
 |cons p r U=>
  intro m h;refine J (U λq O=>h q<|.tail _ O) ?_;split
  .exact az λe=>h p (.head _) e.symm
  .rfl
def Cz kindOf{x}{l}:∀{m},(∀p∈l,p.1≠x)->bindC kindOf l m x=m x:=by
 induction l with
 |nil=>exact λM=>rfl
 |cons p r U=>
  intro m h;refine J (U λq O=>h q<|.tail _ O) ?_;split
  .rfl
  .exact az λe=>h p (.head _) e.symm
def xM{U:List Str}{p:Str×Value}(h:p∈U.zip O):p.1∈U:=(List.of_mem_zip h).1
def Gf kindOf{x}{U:List Str}:∀{vs} {m} {i:Nat},U.Nodup->U[i]? =some x->vs[i]? =some v->kindOf x=some .local->bindL kindOf (U.zip vs) m x=some v:=by
 induction U with
 |nil=>exact λP=>eg
 |cons n U H=>
  intro vs m i N M O D;cases vs with
  |nil=>exact eg O
  |cons w vs=>
   induction i with
   |zero=>refine J (ak M)<|J List.zip_cons_cons ?_;dsimp only [bindL];exact J (Cy _ λp L q=>(nC N).1<|J (ak M)<|jn q<|xM L)<|J (au D)<|(au Y).trans O
   |succ i=>exact H (nC N).2 M O D
def Gg kindOf{U:List Str}:∀{vs} {m} {i:Nat},U.Nodup->U[i]? =some x->vs[i]? =some v->kindOf x≠some .local->bindC kindOf (U.zip vs) m x=some v:=by
 induction U with
 |nil=>exact λP=>eg
 |cons n U H=>
  intro vs m i N M O D;cases vs with
  |nil=>exact eg O
  |cons w vs=>
   induction i with
   |zero=>refine J (ak M)<|J List.zip_cons_cons ?_;dsimp only [bindC];exact J (Cz _ λp L q=>(nC N).1<|J (ak M)<|jn q<|xM L)<|J (az D)<|(au Y).trans O
   |succ i=>exact H (nC N).2 M O D
def vP:∀{n},(names.map (·.1)).Nodup->(x,c)∈cellsFrom n names []->(cellsFrom n names []).lookup x=c:=by
 induction names with
 |nil=>exact λH=>iZ
 |cons p r M=>
  intro n U h;dsimp only [cellsFrom] at h⊢;by_cases O:(p.2==NameKind.cell)=true
  .rw [au O,iK] at h;refine J (au O)<|J (iK ..)<|J kH ?_;exact(mA h).elim (λh=>eY (congrArg _<|M (nC U).2 h) _) λh=>by have D:=congrArg Prod.fst<|mS h;exact J (lookup_none λd N=>(nC U).1<|GL ⟨_,qa _ _ _ N,D⟩)<|jn (mS h) List.lookup_cons_self
  .rw [az O] at h⊢;exact M (nC U).2 h
section
variable{st:St}{a:AV}{U:List AV}
def Oo{h:Heap}{a:Addr}(w:Fa (callEnvC fd h.objs.size f) a):h.objs.size<=a:=w.elim (λe=>aG e.symm) λq=>by obtain⟨q,O,e⟩:=q;exact J e<|eJ (mm O).ge
def Ce{a}(w:Fa (callEnvC fd h.objs.size f) a):¬gV h a:=λ⟨o,e⟩=>Nat.not_lt.mpr (Oo w)<|cZ e
inductive EnR(C:Cx)(g:Gh)(st:St)(s:Shared)(nm:List Str)(p:Nat)(U:List AV)(env:Env)(s1:Shared):Prop
 |mk (S:cH C g st s1.heap) (X:fg g.mu.length nx g s g s1) (F:jx C g s1.heap nm (List.range nm.length) (Fa env) env (U.map some++List.replicate (nm.length-p) none))
def slot_get(M:U.length=p)(h:(U.map some++List.replicate k none)[i]? =some (some a)):i<p/\U[i]? =a:=by
 by_cases O:i<p
 .rw [bW (J (ag _)<|J M O),cE] at h;obtain⟨b,D,N⟩:=Option.map_eq_some_iff.mp h;exact⟨O,D.trans<|congrArg some<|ak N⟩
 .rw [br (J (ag _)<|J M<|Nat.not_lt.mp O),List.getElem?_replicate] at h;split at h<;>cases h
def Jz(S:cH C g st s.heap)(rv:eT C.w g s.heap U vals)(t:U.length=p)(b:p<=nm.length)(y:nm.Nodup)(N:fd.scope.kind=.function)(l:fd.globals=mainGlobals)(n:fd.builtins=builtinsNs)
  (D:∀(i:Nat) x,nm[i]? =some x->fd.scope.names.lookup x≠some .free) (H:(fd.scope.names.map (·.1)).Nodup)
  (X:InCallC s (callEnvC fd s.heap.objs.size f).locals (bindL (callEnvC fd s.heap.objs.size f).kindOf ((nm.take p).zip vals) λQ=>none) (callEnvC fd s.heap.objs.size f).cells (bindC (callEnvC fd s.heap.objs.size f).kindOf ((nm.take p).zip vals) λQ=>none) s1):
  EnR C g st s nm p U (callEnvC fd s.heap.objs.size f) s1:=by
 refine X.done.elim λh' B=>B.elim λtk B=>B.elim λe O=>?_;simp only [e] at X⊢;refine⟨S.grow O,jv S.iJ O,⟨N,l,n,y,.inl Y,λa h=>h,λi Q x Q c=>Fa.cell,λq r=>jf<|X.above q.1 q.2 r,X.apart⟩,by simp only [ae,ag,cM,t];exact cU b,⟨_,X.toInCall.ns,λi x a P M h3=>?_⟩,λi x P M=>?_,λa L=>?_⟩
 .obtain⟨j,A⟩:=slot_get t h3;obtain⟨v,e1,e2⟩:=rv.get A;exact⟨v,Gf _ (y.sublist<|eK ..) (J et<|J (au j) P) e1 M,e2.mono<|fi O⟩
 .rcases M with M|M
  .refine bQ (nq fd.scope.names (s.heap.objs.size+1)<|mem_of_lookupK M) λc hc=>⟨c,_,hc,X.cell x c hc,λa h3=>?_⟩;refine And.elim (λj A=>?_)<|slot_get t h3;refine bQ (rv.get A) λv h9=>And.elim (λe1 e2=>?_) h9;exact⟨v,Gg _ (y.sublist<|eK ..) (J et<|J (au j) P) e1<|J M nofun,e2.mono<|fi O⟩
  .exact(D i x P M).elim
 .refine⟨λi=>Ce L<|S.live a i,λm=>Ce L<|S.fF m,?_,λq=>absurd (aJ S.w0<|q▸Oo L)<|by decide⟩;rcases L with e|⟨q,r,e⟩
  .exact by obtain⟨o,_,_,z,_⟩:=X.toInCall.ns;exact⟨o,J e z⟩
  .exact by obtain⟨o,z,_⟩:=X.cell q.1 q.2<|vP H r;exact⟨o,J e z⟩
end
noncomputable def Gh.rr(g:Gh)(k:Nat):Gh:={g with ro:=k}
section
variable{st:St}{a:AV}{K:Frag}
def vg:Keeps g h (g.rr k) h:=⟨λU x=>x,λU U U e=>e,λU U e=>e⟩
theorem cH.rr(S:cH C g st h)(O:k<=g.mu.length):cH C (g.rr k) st h where
 base:=S.base
 one:=S.one
 live:=S.live
 cells:=rY.mono vg (λU U=>rfl) S.cells
 lg:=S.lg
 fW:=S.fW
 iJ:=O
theorem jx.rr(F:jx C g h nm own W env ρ):jx C (g.rr k) h nm own W env ρ:=F.move Y (Sub.same vg) (λU U U e=>e) λa h=>⟨(F.out a h).fA,(F.out a h).mu,(F.out a h).live,(F.out a h).one⟩
theorem fg.rr(x:fg U W (g.rr k) s L O)(H:g.ro<=k)(D:g.ro<=U):fg U W g s (L.rr g.ro) O where
 live:=x.live
 fA:=x.fA
 keep:=λa o e M N=>x.keep a o e M λm=>N<|ma H m
 len:=x.len
 ro:=rfl
 rl:=D
 mu:=x.mu
 new:=x.new
 own:=x.own
 gens:=x.gens
 os:=x.os
structure NK(C:Cx)(K:Frag)(N:Nat)(a:Nat)(F:Fn)(o:Obj)(fd:FuncData)(nm:List Str)(body:List Stmt)(dv:List Value):Prop where
 look:K.lookup a=some o
 data:o.data=.func fd
 co:fd.scope.isCoroutine=false
 gen:fd.scope.isGenerator=false
 kind:fd.scope.kind=.function
 VY:fd.closure=[]
 glob:fd.globals=mainGlobals
 blt:fd.builtins=builtinsNs
 AZ:fd.body=.stmts body
 code:∃c oc vs t,fd.code=.ref c/\K.lookup c=some oc/\oc.data=.fields vs/\vs[1]? =some (.str fd.qualname t)
 len:nm.length=F.slots
 fW:nm.Nodup
 par:F.params<=F.slots
 free:∀(i:Nat) x,nm[i]? =some x->fd.scope.names.lookup x≠some .free
 pk:∀x∈nm.take F.params,fd.scope.names.lookup x=some .local\/fd.scope.names.lookup x=some .cell
 names:(fd.scope.names.map (·.1)).Nodup
 Cm:dv.length=F.dflt.length
 Xa:∀g st h,cH C g st h->eT C.w g h F.dflt dv
 binds:∀(vs:List Value),vs.length<=F.params->F.params<=vs.length+F.dflt.length->∀S,peek K S (bindArgs fd ⟨vs,[]⟩)=some ((nm.take F.params).zip<|vs++dv.drop (dv.length-(F.params-vs.length)))
 run:∀Φ n,nQ C Φ n->iR ⟨C,Φ,nm,n⟩ fd.scope.names (List.range nm.length) N F.body body
noncomputable def ZC:Flow->Value
 | .ret v=>v
 |_=>.none
def MN(U:rU w g h o f)(e:LZ o=a):VR w g h a (ZC f):=by
 induction U with
 |next=>exact ak e▸Y
 |cont=>exact eg e
 |ret r=>exact ak e▸r
def Rk{R:Flow->Prop}(O:rU w M h o f)(U:f=.next->R f)(k2:f=.cont->R f)(k3:∀v,f=.ret v->R f):R f:=by
 induction O with
 |next=>exact U Y
 |cont=>exact k2 Y
 |ret=>exact k3 _ Y
def AF(S:cH C g st s.heap)(X:fg g.mu.length nx g s g s1)(j:∀a,W a->¬gV s.heap a)(P:g.ro<=k)(M:k<=st.length)(D:fg st.length W (g.rr k) s1 N s3)(O:st.length<=m)(L:m<=N.mu.length)
  (q:cH C (N.cut m) H s3.heap) (A:VR C.w (N.cut m) s3.heap r v):b7 C g s r H v s3:=by
 have U:=S.length▸S.iJ;have Q:=((X.weaken (aG S.length) U λB h=>h.elim).trans<|(D.trans<|(pH L<|aa (J D.ro M) O).weaken O (J D.ro M) λB h=>h.elim).rr P U).Eg j;exact⟨(N.cut m).rr g.ro,q.rr<|aa U Q.len.2,(jn S.length Q),A.mono vg⟩
def JY{F:Fn}(S:cH C g st s.heap)(j:fg g.mu.length nx g s g s1)(v:∀a,W a->¬gV s.heap a)(D:g.ro<=k)(M:k<=st.length)(N:fg st.length W (g.rr k) s1 H s3)(A:cH C H O s3.heap)(Q:VR C.w H s3.heap a x)
  (e:(bif F.keep then DT O st a else(iH O st.length 6 a).bind λq=>(gG O st.length 6 st O).bind λU=>some (q,U))=(r,U)):b7 C g s r U x s3:=by
 induction hkp:F.keep with
 |true=>
  rw [hkp] at e;replace e:DT O st a=(r,U):=e;cases a with
  |ref m=>refine jq e (λhm e=>?_) λu9=>eg;rw [hm] at e Q;refine dj e λL B e=>dj e λc5 X e=>dj e λc6 e6 e=>NX (P:=λr U=>b7 C g s r U x s3) e ?_;obtain⟨p,hp,hv⟩:=Q;exact AF S j v D M N (b0 _) (List.getElem?_eq_some_iff.mp hp).1 (S.QE A (fp<|J N.ro M) B X e6) ⟨p,by refine bV (show(H.cut<|st.length+1).mu=H.mu.take (st.length+1)from Y) et<|J (au<|a6 _) ?_;exact hp,hv⟩
  |_=>exact eg e
 |false=>rw [hkp] at e;exact dj e λq e3 e=>dj e λL B X=>NX (P:=λr U=>b7 C g s r U x s3) X<|AF S j v D M N .refl N.len.2 (S.leave A (J N.ro M) B)<|oP A 6 _ _ _ e3 Q
def Np(G:Gl C K)(H:NK C K N f F o fd nm body dv)(mN:nQ C Φ n)(e:kC Φ P N F args st=(r,U))(R:mV A (n+2))(S:cH C g st s.heap)(i:g.ro=P)(p:eT C.w g s.heap args j):
  codeAny C.m A (.call (.ref f) ⟨j,[]⟩) (NO C g s r U) s:=by
 refine jq e (λD e=>dj e λq Q e=>dj e λv e2 e=>?_) λX e=>eg e;have O:=p.length.symm;have L:s.heap.NoLimit:=by obtain⟨mc,h1,h2⟩:=G.lim;exact⟨mc,h1.keeps S.DU,h2⟩
 obtain⟨c,oc,B,t,c1,c2,c3,c4⟩:=H.code;refine codeAny_call_function (by have:=R.depth;exact Nat.lt_of_add_right_lt this) ((rS G S) _ _ H.look) H.data H.co H.gen H.AZ ⟨c,oc,B,t,c1,(rS G S) _ _ c2,c3,c4⟩<|kp_binds (rS G S) (H.binds j (J O D.1)<|J O D.2.1) _ _ _ _ ?_;refine H.VY▸(wpAny_newFunctionEnv_cells H.kind (λx hx=>(H.pk x.1<|xM hx).imp id λh=>⟨h,bQ (nq fd.scope.names (s.heap.objs.size+1)<|mem_of_lookupK h) λc D=>J D Y⟩) λenv he s1 IC=>?_);rw [he] at IC⊢;obtain⟨S1,x1,F1⟩:=Jz S (H.Cm▸O▸p.append (eT.drop _<|H.Xa g st s.heap S)) (List.length_append.trans ((congrArg (args.length+ ·)<|List.length_drop.trans<|Nat.sub_sub_self<|Nat.sub_le_iff_le_add'.mpr D.2.1).trans<|fU D.1)) (J H.len H.par) H.fW H.kind H.glob H.blt H.free H.names IC;refine⟨L.keeps IC.toInCall.keep,codeAny_func ?_⟩
 have M:g.ro<=(if F.HM then st.length else P)/\(if F.HM then st.length else P)<=st.length:=by
  induction F.HM with
  |true=>exact⟨J S.length S.iJ,aS _⟩
  |false=>exact⟨aG i,J S.length<|jn i S.iJ⟩
 revert Q M
 generalize (if F.HM then st.length else P)=k;intro Q M;rw [<-H.len] at Q;refine aY (H.run Φ n mN ⟨⟨Y,by
   refine⟨?_,?_,R.handled⟩
   .show A.depth+1+(n+1)<_;have:=R.depth;exact lq [_,_] [aH (.s<|.a ax<|.a aE<|.c 2) (.c 1000)] (.s<|.a (.s ax)<|.s aE) (.c 1000) Y this
   .show A.units+3+8*(n+1)+400<_;have:=R.units;exact lq [_,_] [aH (.s<|.a (.a ax<|.m 8<|.a aE<|.c 2)<|.c 400) (.c 9900)] (.s<|.a (.a (.a ax<|.c 3)<|.m 8<|.s aE)<|.c 400) (.c 9900) Y this,S1.rr<|jn S.length M.2,F1.rr (k:=k),Y⟩,aG S.length,M.2⟩ Q) (λfw s3 y=>?_) λX X=>False.elim
 obtain⟨g3,S3,l,F3,b⟩:=y;exact Rk (R:=λf=>b7 C g s r U (ZC f) s3->NO C g s r U (.ok<|.ret (match f with| .ret v=>v|_=>.none)) s3) b (λe=>e▸λk=>⟨k⟩) (λe=>e▸λk=>⟨k⟩) (λv e=>e▸λk=>⟨k⟩)<|JY S x1 (λX=>Ce) M.1 M.2 l S3 (MN b e2) e
end
noncomputable def SF(N:Nat)(T:Nat->Option Fn):Nat->Fs
 |0=>λU U U U=>none
 |k+1=>λO f args st=>(T f).bind λF=>kC (SF N T k) O N F args st
section
variable{K:Frag}{T:Nat->Option Fn}
def BG(G:Gl C K)(H:∀f F,T f=some F->∃o fd nm body O,NK C K N f F o fd nm body O):∀k,nQ C (SF N T k) (2*k):=λk=>k.rec (λD f args st r U=>eg) λk L D f args st r U e=>by intro A g s j R S P M;obtain⟨F,B,X⟩:=qb e;obtain⟨o,fd,nm,body,O,Q⟩:=H f F B;exact Np G Q L X R S P M
end
noncomputable def namesOk(nm:List Str)(p:Nat)(ks:Ks):Bool:=
 nm.all (λx=> !(ks.lookup x==some .free))&&(nm.take p).all (λx=>ks.lookup x==some .local ||ks.lookup x==some .cell)
def uX(h:namesOk nm p ks=true):(∀(i:Nat) x,nm[i]? =some x->ks.lookup x≠some .free)/\∀x∈nm.take p,ks.lookup x=some .local\/ks.lookup x=some .cell:=by
 delta namesOk at h;simp only [cF] at h;refine⟨λi x U q=>?_,λx U=>?_⟩
 .have:=aT h.1 x<|aN U;rw [q] at this;contradiction
 .have:=aT h.2 x U;simpa using this
section
variable{K:Frag}{G:Gl C K}{hB:xK C}
def PY(h:∀Φ n (O:nQ C Φ n),Option.isSome (R4 (B:=⟨C,Φ,nm,n⟩) N ks own (WB.mk G O hB hT) M U)=true):∀Φ n,nQ C Φ n->iR ⟨C,Φ,nm,n⟩ ks own N M U:=
 λΦ n O=>(Option.get (R4 N ks own (WB.mk G O hB hT) M U)<|h Φ n O).down
end
end
section
open Classical PyProof.Rows PySem PySem.W
def se{K}{S}{a}{t}(e:peek K S t=some a):peek K S (t>>=f)=peek K S (f a):=by
 induction t with
 |pure b=>injection e with e;subst e;rfl
 |rule _ k U=>exact U () e
 |point _ k U=>exact U () e
 |ask k U=>exact U _ e
 |load b q k U=>
  refine J (show(Sem.load b q k>>=f)=Sem.load b q (λo=>k o>>=f)from Y) ?_;rw [peek] at e
  conv=>lhs;rw [peek]
  induction h:K.lookup b with
  |none=>exact eg<|h▸e
  |some o=>rw [h] at e;exact U o e
 |_=>exact eg e
def Mk{α:Type}{X:List (Str×α)}:∀{A:List Str} {v:List α},A.length<=v.length->n∈A->((A.zip v++X).lookup n).isSome=true:=by
 intro A;induction A with
 |nil=>intro v h m;exact iZ m
 |cons a A O=>
  intro v h m;cases v with
  |nil=>exact absurd h<|gX _
  |cons v U=>
   show(List.lookup n ((a,v)::(A.zip U++X))).isSome=true;simp only [dA];induction c:n==a with
   |true=>rfl
   |false=>exact(mO m).elim (λe=>bn<|(beq_iff_eq.mpr e).symm.trans c) λm=>O (gr h) m
def rj{α:Type}:∀{l:List (Str×α)},(∀p∈l,p.1≠n)->l.lookup n=none:=by intro l;exact l.rec (λh=>rfl) λU l O h=>List.lookup_cons.trans<|J (beq_false_of_ne λe=>h _ (.head _) e.symm)<|O λp m=>h p<|.tail _ m
noncomputable def oX(s:List (Str×Value))(p:Str×Value):List (Str×Value):=if(s.lookup p.1).isNone=true then s++[p] else s
def qB{v:Value}{B:List Str}(M:∀p∈pre,∀n∈b::B,p.1≠n)(O:(b::B).Nodup):∀p∈pre++[(b,v)],∀n∈B,p.1≠n:=λp m n U=>
 (mA m).elim (λm=>M p m n<|.tail _ U) λm e=>(nC O).1 (by replace e:=(mS m)▸e;exact J (show b=n from e) U)
def Gm:∀(B:List Str) (O U:List Value) (pre:List (Str×Value)),(∀p∈pre,∀n∈B,p.1≠n)->B.Nodup->(B.zip U).foldl oX (pre++B.zip O)=pre++B.zip (O++U.drop O.length):=λB=>B.rec (λO U pre N M=>rfl) λb B D O U pre N M=>O.casesOn (U.casesOn Y λd U=>by
    show(B.zip U).foldl oX (oX (pre++[]) (b,d))=pre++(b,d)::B.zip U;refine J (aC _)<|J (show oX pre (b,d)=pre++[(b,d)] from au (J (rj λp m=>N p m b<|.head _) Y)) ?_;have h:=D [] U (pre++[(b,d)]) (qB N M) (nC M).2;simp only [List.zip_nil_right,aj] at h;exact h) λv O=>U.casesOn (J (aC _) Y) λd U=>by
    show(B.zip U).foldl oX (oX (pre++((b,v)::B.zip O)) (b,d))=pre++(b,v)::B.zip (O++U.drop O.length);refine J (show oX (pre++((b,v)::B.zip O)) (b,d)=pre++((b,v)::B.zip O)from az (by simp only [List.lookup_append,rj λp m=>N p m b<|.head _,dA,je];exact nb)) ?_
    have h:=D O U (pre++[(b,v)]) (qB N M) (nC M).2;simp only [aj] at h;exact h
def take_all:∀(ns:List Str) (v:List Value) (pre:List (Str×Value)),(∀p∈pre,∀n∈ns,p.1≠n)->ns.Nodup->ns.filterMap (λn=>((pre++ns.zip v).lookup n).map (n,·))=ns.zip v:=λns=>ns.rec (λv pre U M=>rfl) λn ns N v pre U M=>v.casesOn (bV List.zip_nil_right (aC _)<|List.filterMap_eq_nil_iff.mpr λm D=>J (rj λp h=>U p h m D) Y) λv O=>by have h:=N O (pre++[(n,v)]) (qB U M) (nC M).2;rw [aj] at h;exact List.filterMap_cons.trans (J List.lookup_append (wo (rj λp m=>U p m n<|.head _) (show(n::ns).zip (v::O)=(n,v)::ns.zip O from Y) dA (J (je _) (congrArg ((n,v):: ·) h))))
def Wh{K}{S}{P:List (Str×Value)}:∀{s},
  peek K S (forIn P s (λp s=>if(s.lookup p.1).isNone=true then pure (ForInStep.yield<|s++[p])else pure (ForInStep.yield s))>>=f)=peek K S (f<|P.foldl oX s):=by
 induction P with
 |nil=>exact rfl
 |cons p P U=>intro s;exact bV (jB ..) List.foldl_cons (if c:(s.lookup p.1).isNone=true then bV (au c) (show oX s p=s++[p] from au c) U else bV (az c) (show oX s p=s from az c) U)
def MO{U:List Str}{O M:List Value}(L:U.Nodup)(Q:M.length<=U.length)(j:U.length<=M.length+O.length)(P:O.length<=U.length):
  List.filter (λn=>(List.lookup n<|U.zip M).isNone) (U.take<|U.length-(O.drop<|O.length-U.length).length)=[]/\
  ((U.drop<|U.length-(O.drop<|O.length-U.length).length).zip<|O.drop<|O.length-U.length).foldl oX (U.zip M)=U.zip (M++O.drop (O.length-(U.length-M.length))):=by
 refine J (gM P)<|J List.drop_zero ?_;have H:=Nat.sub_le_iff_le_add.mpr j;have B:=(Nat.sub_sub_right O.length Q).trans ((congrArg (· -U.length)<|ck ..).trans<|(Nat.sub_sub_right M.length P).symm.trans List.length_drop.symm);generalize U.length-O.length=m at H B⊢;have N:(U.take m).length=(M.take m).length:=by simp only [cL,cj H,cj (aa H Q)]
 have X:U.zip M=(U.take m).zip (M.take m)++(U.drop m).zip (M.drop m):=by refine jn (List.zip_append N) ?_;simp only [fC]
 refine⟨List.filter_eq_nil_iff.mpr λn D q=>nb<|(congrArg Option.isSome<|Option.isNone_iff_eq_none.mp q).symm.trans<|J X<|Mk (aG N) D,?_⟩;exact J X<|J (Gm _ _ _ _ (λp A n D=>(nA (by refine J (fC ..) ?_;exact L:(U.take m++U.drop m).Nodup)).2.2 _ (List.of_mem_zip A).1 _ D)<|L.sublist<|List.drop_sublist ..)<|jn B<|jn (List.zip_append N)<|J (fC ..)<|jn (aj ..)<|J (fC ..) Y
def Nu{K}(L:fd.params=⟨[],N,none,[],w,none,v⟩)(P:N.map (·.arg)=U)(D:U.Nodup) S
  (Q:(peek K S<|seqItems? fd.defaults).map (λx=>(x.getD #[]).toList)=some M) (H:O.length<=U.length) (B:U.length<=O.length+M.length) (X:M.length<=U.length):
  peek K S (bindArgs fd ⟨O,[]⟩)=(U.zip<|O++M.drop (M.length-(U.length-O.length))):=by
 obtain⟨d,j,rfl⟩:=Option.map_eq_some_iff.mp Q;subst P;obtain⟨e0,A⟩:=MO D H B X;delta bindArgs;exact J L ((se (a:=(List.zip (List.map (λx:Arg=>x.arg) N) O,[])) Y).trans ((((se j).trans<|(congrArg (peek K S)<|(az λq=>Nat.not_lt.mpr H<|aB (Bool.and_eq_true_iff.mp q).1).trans<|az λq=>nb<|(congrArg (λl=> !List.isEmpty l) e0).symm.trans q).trans Wh)).trans ((congrArg (λz=>some (List.filterMap (λn=>(List.lookup n z).map (n,·))<|List.map (λx:Arg=>x.arg) N++[])) A).trans<|J (aC _)<|congrArg some<|take_all _ _ [] (λp=>iZ) D)))
noncomputable def z0{U:Type}(n:Nat)(lt:Nat->Nat->Bool):KasT U->(U->Prop)->Prop
 | .ret a,P=>P a
 | .ask i j k,P=>i<n/\j<n/\z0 n lt (k<|lt i j) P
theorem pE:∀{t:KasT α},z0 n lt t (λa=>z0 n lt (f a) P)->z0 n lt (t.bind f) P
 | .ret _,h=>h
 | .ask i j k,h=>⟨h.1,h.2.1,pE h.2.2⟩
theorem pD{P Q:α->Prop}(h:∀a,P a->Q a):∀{t:KasT α},z0 n lt t P->z0 n lt t Q
 | .ret a,p=>h a p
 | .ask i j k,p=>⟨p.1,p.2.1,pD h p.2.2⟩
def DV{c}(O:c=true->z0 n lt t P)(U:c=false->z0 n lt u P):z0 n lt (if c=true then t else u) P:=by
 induction c with
 |true=>exact O Y
 |false=>exact U Y
structure NG(n:Nat)(lt:Nat->Nat->Bool):Prop where
 tr:∀{i j k},i<n->j<n->k<n->lt i j=true->lt j k=true->lt i k=true
 r5:∀{i j},i<n->j<n->i≠j->lt i j=false->lt j i=true
def Ap(n:Nat)(p:Array Nat):Prop:=p.toList.Perm<|List.range n
section
theorem Ap.size(a:Ap n p):p.size=n:=a.length_eq.trans aO
def Ap.at(a:Ap n p)(h:i<n):p.getD i 0=p.toList[i]'(dU h a.size.symm):=by simp only [dif_pos (dU h a.size.symm)];rfl
def Ap.lo(a:Ap n p)(h:i<n):p.getD i 0<n:=J (a.at h)<|mR<|a.mem_iff.mp<|eZ _
def Ap.ne(a:Ap n p)(h:i<n)(U:j<n)(e:i≠j):p.getD i 0≠p.getD j 0:=bV (a.at h) (a.at U) λq=>e<|(jh<|a.nodup_iff.mpr iq).mp q
def getD_at(p:Array Nat) i:p.getD i 0=(p[i]?).getD 0:=jn (Array.getD_eq_getD_getElem?) Y
def Cv(O:k<p.size)(U:l<=k) i:(bubble p k<|k-l).getD i 0=if i=l then p.getD k 0 else if l<i/\i<=k then p.getD (i-1) 0 else p.getD i 0:=by simp only [getElem?_bubble O (k-l) (cP ..) i,Nat.sub_sub_self U,getD_at,apply_ite (Option.getD · 0)]
def In(lt:Nat->Nat->Bool)(p:Array Nat)(m:Nat):Prop:=∀{i j},i<j->j<m->lt (p.getD i 0) (p.getD j 0)=true
def De(lt:Nat->Nat->Bool)(p:Array Nat)(m:Nat):Prop:=∀{i j},i<j->j<m->lt (p.getD j 0) (p.getD i 0)=true
variable(T:NG n lt)(a:Ap n p)
include T a
theorem In.snoc(u:In lt p (m+1))(h:m+1<n)(c:lt (p.getD m 0) (p.getD (m+1) 0)=true):In lt p (m+2):=λ{i j} U O=>
 (Nat.lt_succ_iff_lt_or_eq.mp O).elim (u U) λe=>by clear O;subst e;exact(Nat.lt_succ_iff_lt_or_eq.mp U).elim (λq=>T.tr (a.lo<|eQ U h) (a.lo<|ee h) (a.lo h) (u q<|a6 _) c) λq=>J q c
theorem De.snoc(u:De lt p (m+1))(h:m+1<n)(c:lt (p.getD (m+1) 0) (p.getD m 0)=true):De lt p (m+2):=λ{i j} U O=>
 (Nat.lt_succ_iff_lt_or_eq.mp O).elim (u U) λe=>by clear O;subst e;exact(Nat.lt_succ_iff_lt_or_eq.mp U).elim (λq=>T.tr (a.lo h) (a.lo<|ee h) (a.lo<|eQ U h) c<|u q<|a6 _) λq=>J q c
theorem Yr(O:i<n)(U:j<n)(e:i≠j)(h:lt (p.getD i 0) (p.getD j 0)=false):lt (p.getD j 0) (p.getD i 0)=true:=T.r5 (a.lo O) (a.lo U) (a.ne O U e) h
def Zd(n:Nat)(lt:Nat->Nat->Bool)(p:Array Nat)(r:Nat):Prop:=∃k,r=k+1/\k<n/\In lt p (k+1)/\(k+1=n\/lt (p.getD (k+1) 0) (p.getD k 0)=true)
theorem Ka:∀(f m:Nat),m+1+f=n->In lt p (m+1)->z0 n lt (kas_asc p f<|m+1) (Zd n lt p):=λf=>f.rec (λm h u=>⟨m,Y,jn h<|a6 m,u,.inl h⟩) λf M=>by intro m h u;have U:=h▸bX (bO f);have O:=ee U;exact⟨a.lo U,a.lo O,DV (λc=>⟨m,Y,O,u,.inr c⟩) λc=>M (m+1) ((hU ..).trans h)<|u.snoc T a U<|Yr T a U O (Nat.succ_ne_self m) c⟩
def Zb(n:Nat)(lt:Nat->Nat->Bool)(p:Array Nat)(r:Array Nat×Nat×Nat):Prop:=∃k,r=(p,k+1,0)/\k<n/\De lt p (k+1)
theorem Nc:∀(f m:Nat),m+1+f=n->De lt p (m+1)->z0 n lt (kas_desc f p (m+1) 0) (Zb n lt p):=λf=>f.rec (λm h u=>⟨m,Y,jn h<|a6 m,u⟩) λf M=>by intro m h u;have U:=h▸bX (bO f);have O:=ee U;exact⟨a.lo U,a.lo O,DV (λc=>M (m+1) ((hU ..).trans h)<|u.snoc T a U c) λc=>⟨a.lo O,a.lo U,jn (Yr T a U O (Nat.succ_ne_self m) c).symm ⟨m,Y,O,u⟩⟩⟩
omit T in
theorem P4(M:m<=n)(d:De lt p m):In lt (kas_rev p 0 m) m:=by
 have e:∀{i},i<m->(kas_rev p 0 m).getD i 0=p.getD (m-1-i) 0:=λ{i} h=>by unfold kas_rev;rw [getD_at,getElem?_mirror_all<|aa M<|aG a.size.symm,au ⟨bf _,h⟩,bu,getD_at]
 intro i j O U;rw [e U,e (eQ O U)];have N:=Nat.le_sub_one_of_lt U;exact d (Nat.sub_lt_sub_left (aJ O N) O)<|aQ (cP _ _)<|Nat.sub_one_lt<|Nat.ne_zero_of_lt U
omit T in
theorem Ap.Hw:Ap n (kas_rev p 0 m):=(Array.perm_iff_toList_perm.mp<|mirror_perm _ _ _ _).trans a
def WE(n:Nat)(lt:Nat->Nat->Bool)(r:Nat×Array Nat):Prop:=∃k p,r=(k+1,p)/\k<n/\Ap n p/\In lt p (k+1)
theorem G9(h:m<n)(d:De lt p (m+1)):z0 n lt (kas_tail3 (m+1) n p) (WE n lt):=
 pE (pD (λr q=>by obtain⟨k,e,U,u,_⟩:=q;exact⟨k,_,congrArg (·,_) e,U,a.Hw,u⟩)<|Ka T a.Hw _ m (cU h)<|P4 a h d)
theorem Mv(U:2<=n):z0 n lt (kas_count n p) (WE n lt):=
 pE (pD (λr ⟨k,e,O,u,q⟩=>e▸DV (λH=>⟨k,p,Y,O,a,u⟩) λc=>by
   clear c;induction k with
   |zero=>exact J (az<|cu 1) (pE<|pD (λr D=>D.elim λk M=>M.elim λe M=>M.elim λO d=>J e<|G9 T a O d)<|Nc T a _ 1 (cU U)<|De.snoc T a (λ{i j} N U=>absurd (aJ N<|aK U)<|dY _) U<|q.resolve_left λe=>(dH U) e)
   |succ k=>exact⟨a.lo<|Nat.zero_lt_of_lt O,a.lo O,jn (u (bO k)<|a6 _).symm ⟨k+1,p,Y,O,a,u⟩⟩)<|Ka T a _ 0 (cU<|eJ U) λ{i j} N U=>absurd (aJ N<|aK U)<|dY _)
def Wt(lt:Nat->Nat->Bool)(p:Array Nat)(k l:Nat):Prop:=l<=k/\(∀{i},i<l->lt (p.getD i 0) (p.getD k 0)=true)/\∀{i},l<=i->i<k->lt (p.getD k 0) (p.getD i 0)=true
theorem HQ(U:k<n)(u:In lt p k):∀(f l r:Nat),r<=l+f->r<=k->l<=r->(∀{i},i<l->lt (p.getD i 0) (p.getD k 0)=true)->(∀{i},r<=i->i<k->lt (p.getD k 0) (p.getD i 0)=true)->z0 n lt (kas_place p k f l r) (Wt lt p k):=λf=>f.rec (λl r X N Q P L=>⟨aa Q N,P,λh=>L<|aa X h⟩) λf j=>by
  intro l r X N Q P L;dsimp only [kas_place];exact if c:l>=r then J (au c) ⟨aa Q N,P,λh=>L<|aa c h⟩else by
   refine J (az c) ?_;have B:=(Nat.le_div_iff_mul_le<|bO 1).mpr<|J (Nat.mul_two _)<|cV Q l;have D:=(Nat.div_lt_iff_lt_mul<|bO 1).mpr<|J (Nat.mul_two _)<|Nat.add_lt_add_right (Nat.not_le.mp c) r;generalize (l+r)/2=m at B D;have H:=aJ D N;have O:=eQ H U;exact⟨a.lo U,a.lo O,DV (λq=>j l m (aK<|aJ D X) (bx H) B P λ{i} A M=>(Nat.eq_or_lt_of_le A).elim (λe=>e▸q) λe=>T.tr (a.lo U) (a.lo O) (a.lo<|eQ M U) q<|u e M) λq=>
    j (m+1) r (aa X<|J (Nat.add_right_comm ..)<|c8 (c8 B f) 1) N D (λ{i} A=>
     have q:=Yr T a U O (jf H) q
     (Nat.lt_succ_iff_lt_or_eq.mp A).elim (λe=>T.tr (a.lo<|eQ e O) (a.lo O) (a.lo U) (u e H) q) λe=>e▸q) L⟩
omit T a in
theorem Sb(M:k<p.size)(u:In lt p k)(q:Wt lt p k l):In lt (bubble p k<|k-l) (k+1):=by
 have e0:∀{i},i<l->(bubble p k<|k-l).getD i 0=p.getD i 0:=λ{i} h=>by rw [Cv M q.1,az<|dH h,az λe=>Nat.lt_asymm h e.1]
 have D:(bubble p k<|k-l).getD l 0=p.getD k 0:=by rw [Cv M q.1,au Y]
 have N:∀{i},l<=i->i<k->(bubble p k<|k-l).getD (i+1) 0=p.getD i 0:=λ{i} h H=>by rw [Cv M q.1,az<|jf<|cq h,au ⟨cq h,H⟩];rfl
 intro i j U O;rcases iV j l with c|c|c
 .rw [e0 c,e0 (eQ U c)];exact u U<|aJ c q.1
 .rw [c] at U⊢;rw [D,e0 U];exact q.2.1 U
 .obtain⟨j,rfl⟩:=Nat.exists_eq_add_one_of_ne_zero<|Nat.ne_zero_of_lt c;have c:=aK c;have O:=gq O;rw [N c O];rcases iV i l with d|d|d
  .rw [e0 d];exact u (aJ d c) O
  .rw [d,D];exact q.2.2 c O
  .obtain⟨i,rfl⟩:=Nat.exists_eq_add_one_of_ne_zero<|Nat.ne_zero_of_lt d;have U:=gq U;rw [N (aK d) (eQ U O)];exact u U O
def GB(n:Nat)(lt:Nat->Nat->Bool)(p:Array Nat):Prop:=Ap n p/\In lt p n
omit a in
theorem Mw:∀(f:Nat) (p:Array Nat) (k:Nat),Ap n p->In lt p k->k+f=n->z0 n lt (kas_bin f p k) (GB n lt):=by
 intro f;induction f with
 |zero=>intro p k a u h;exact⟨a,h▸u⟩
 |succ f O=>intro p k a u h;have U:k<n:=h▸bX (bO f);exact pE<|pD (λl q=>O _ (k+1) ((Array.perm_iff_toList_perm.mp<|bubble_perm _ _ _).trans a) (Sb (dU U a.size.symm) u q)<|(hU _ _).trans h)<|HQ T a U u k 0 k (aG (bu k).symm) (aS _) (bf _) (λ{i} h=>absurd h<|dY _) λ{i} h M=>absurd M<|Nat.not_lt.mpr h
omit a in
theorem Lu(O:2<=n):z0 n lt (kas_sort n) (GB n lt):=
 pE (pD (λr ⟨k,p,e,U,a,u⟩=>by
  subst e;rw [show max (k+1) 1=k+1 from Nat.max_eq_left (bO k)];by_cases c:k+1<n
  .rw [au c];exact Mw T _ _ _ a u (cU U)
  .rw [az c];exact⟨a,by rw [show k+1=n from bH U (Nat.not_lt.mp c)] at u;exact u⟩)<|Mv T (show Ap n (List.toArray<|List.range n)from List.Perm.refl _) O)
end
end
section
open Classical PySem
section
variable{U:α->α->Bool}
def EW(r5:∀x y,x≠y->(U x y= !U y x))(L:∀x y z,U x y=true->U y z=true->U x z=true)(h:x≠y):∀l,lu U x (lu U y l)=lu U y (lu U x l):=λl=>l.rec (by
  show(if U x y=true then [x,y] else [y,x])=if U y x=true then [y,x] else [x,y]
  refine J (r5 x y h) ?_;induction U y x<;>rfl) λz l B=>by
  have N:lu U y (z::l)=if U y z=true then y::z::l else z::lu U y l:=rfl
  have D:lu U x (z::l)=if U x z=true then x::z::l else z::lu U x l:=rfl
  have Q:lu U x (y::z::l)=if U x y=true then x::y::z::l else y::lu U x (z::l):=rfl
  have P:lu U y (x::z::l)=if U y x=true then y::x::z::l else x::lu U y (z::l):=rfl
  have H:∀u v,lu U u (z::v)=if U u z=true then u::z::v else z::lu U u v:=λX X=>rfl
  by_cases M:U y z=true
  .by_cases O:U x z=true
   .refine J N (J (au M)<|J D<|J (au O)<|bV Q P<|bV N D<|bV (au M) (au O)<|J (r5 x y h) ?_);induction U y x<;>rfl
   .rw [N,au M,Q,az λc=>O<|L x y z c M,D,az O,H,au M]
  .by_cases O:U x z=true
   .rw [N,az M,D,au O,P,az λc=>M<|L y x z c O,N,az M,H,au O]
   .rw [N,az M,D,az O,H,az O,H,az M,B]
def wZ(r5:∀x y,x≠y->(U x y= !U y x))(N:∀x y z,U x y=true->U y z=true->U x z=true)(h:l.Perm m)(n:l.Nodup):mY U l=mY U m:=by
 induction h with
 |nil=>rfl
 |cons x _ D=>exact congrArg (lu U x)<|D (nC n).2
 |swap x y l=>exact EW r5 N (λe=>(nC n).1<|by exact J e<|.head _) _
 |trans H _ M O=>exact(M n).trans (O<|H.nodup_iff.mp n)
def Ls:∀l,l.Pairwise (λx y=>U x y=true)->mY U l=l:=λl=>l.rec (λh=>rfl) λx l O=>by
  intro h;show lu U x (mY U l)=_;refine J (O (List.pairwise_cons.mp h).2) ?_;induction l with
  |nil=>rfl
  |cons y l=>exact au<|(List.pairwise_cons.mp h).1 y<|.head _
def DQ [DecidableEq α](r5:∀x y,x≠y->(U x y= !U y x)):∀v w,v≠w->oJ U v w= !oJ U w v:=λv=>v.rec (by
  intro w h;induction w with
  |nil=>exact absurd Y h
  |cons y w=>
   exact rfl) λx v O=>by
  intro w h;induction w with
  |nil=>exact rfl
  |cons y w=>show(if x=y then oJ U v w else U x y)= !(if y=x then oJ U w v else U y x);exact if c:x=y then J (au c) (bV (au c.symm) (O w λe=>h<|by simp only [c,e]) Y)else J (az c) (bV (az λe=>c e.symm) (r5 x y c) Y)
def Iq [DecidableEq α](r5:∀x y,x≠y->(U x y= !U y x))(D:∀x y z,U x y=true->U y z=true->U x z=true):∀u v w,oJ U u v=true->oJ U v w=true->oJ U u w=true:=λu=>u.rec (by
  intro v w O M;cases v with
  |nil=>exact Bool.noConfusion O
  |cons y v=>
   induction w with
   |nil=>exact Bool.noConfusion M
   |cons z w=>
    exact rfl) λx u H=>by
  intro v w O M;cases v with
  |nil=>exact Bool.noConfusion O
  |cons y v=>
   cases w with
   |nil=>exact Bool.noConfusion M
   |cons z w=>
    replace O:=(show oJ U (x::u) (y::v)=if x=y then oJ U u v else U x y from Y)▸O;replace M:=(show oJ U (y::v) (z::w)=if y=z then oJ U v w else U y z from Y)▸M;show(if x=z then oJ U u w else U x z)=true;by_cases N:x=y
    .subst N;rw [au Y] at O;exact if c2:x=z then(by rw [au c2] at M⊢;exact H v w O M)else by rw [az c2] at M⊢;exact M
    .replace O:=(az N)▸O;exact if c2:y=z then jn c2 (J (az N) O)else by rw [az c2] at M;exact if c3:x=z then(by rw [r5 x y N,c3,M] at O;exact Bool.noConfusion O)else J (az c3) (D x y z O M)
end
def DL(x y:Int)(h:x≠y):decide (x<y)= !decide (y<x):=if c:x<y then bV (aq c) (aF<|Int.not_lt.mpr<|iF c) Y else bV (aF c) (aq<|Int.lt_iff_le_and_ne.mpr ⟨Int.not_lt.mp c,λe=>h e.symm⟩) Y
def Ij(x y z:Int)(O:decide (x<y)=true)(U:decide (y<z)=true):decide (x<z)=true:=aq<|Int.lt_trans (aB O)<|aB U
def DK(x y:Nat)(h:x≠y):decide (x<y)= !decide (y<x):=if c:x<y then bV (aq c) (aF<|Nat.lt_asymm c) Y else bV (aF c) (aq<|Nat.lt_of_le_of_ne (Nat.not_lt.mp c) λe=>h e.symm) Y
def Qp(x y z:Nat)(O:decide (x<y)=true)(U:decide (y<z)=true):decide (x<z)=true:=aq<|eQ (aB O)<|aB U
theorem yw:∀a b:List Nat,decide (a<b)=oJ (λm n=>decide<|m<n) a b
 |a,[]=>by cases a<;>rfl
 |[],b::bs=>aq<|List.nil_lt_cons b bs
 |a::as,b::bs=>by
  show _=if a=b then oJ (λm n=>decide<|m<n) as bs else decide (a<b)
  by_cases c:a=b
  .subst c;exact J (au Y) (jn (yw as bs) (dD ⟨λh=>(List.cons_lt_cons_iff.mp h).elim (λq=>absurd q<|cu _) (·.2),λh=>List.cons_lt_cons_iff.mpr<|.inr ⟨Y,h⟩⟩))
  .exact J (az c) (dD ⟨λh=>(List.cons_lt_cons_iff.mp h).elim id λq=>absurd q.1 c,λh=>List.cons_lt_cons_iff.mpr<|.inl h⟩)
def C0:∀l:List KA,cY qd (l.map KA.av)=some l:=λl=>l.rec Y λk l O=>by show(qd k.av).bind (λy=>(cY qd<|l.map KA.av).bind λU=>some (y::U))=_;exact bV (show qd k.av=some k by induction k<;>rfl) O Y
theorem zT:∀x y:KA,x≠y->yr x y= !yr y x
 | .int i,.int j,h=>DL i j λe=>h<|congrArg _ e
 | .str a,.str b,h=>DQ DK a b λe=>h<|congrArg _ e
 | .int _,.str _,_=>rfl
 | .str _,.int _,_=>rfl
theorem Mi:∀x y z:KA,yr x y=true->yr y z=true->yr x z=true
 | .int i,.int j,.int k,h1,h2=>Ij i j k h1 h2
 | .str a,.str b,.str c,h1,h2=>Iq DK Qp a b c h1 h2
 | .int _,_,.str _,_,_=>rfl
 | .int _,.str _,.int _,_,h=>Bool.noConfusion h
 | .str _,.int _,_,h,_=>Bool.noConfusion h
 | .str _,.str _,.int _,_,h=>Bool.noConfusion h
def DM(v w)(h:v≠w):zR v w= !zR w v:=DQ zT v w h
def Ik(u v w)(O:zR u v=true)(U:zR v w=true):zR u w=true:=Iq zT Mi u v w O U
end
section
open Classical PyProof.Rows PySem PySem.SeqAt PySem.W
def xr:entryFor table "dict.update.loop" =Builtin.«dict.update.loop» :=entryFor_of_tree<|by kernel_rfl
def w8:plainId "dict.update.loop" =true:=by decide+kernel
def JH{id}(U:entryFor table id=some b):(model prog w).den (.builtin id args)=b args:=by
 show(match entryFor table id with|some b=>b args|none=>unsupported<|(withoutEnding? id "#data").getD id)=_
 exact J U Y
section
variable{U:St}{s:Shared}
inductive ZW(C:Cx)(g:Gh)(h:Heap)(e:KV×AV)(v:Value):Prop
 |mk (la vk vv n) (q:v=.ref la) (o:h.get? la=some (gh [vk,vv] n)) (rk:xI g h e.1 vk) (rv:VR C.w g h e.2 vv)
def LW(S:cH C g U s.heap)(Q:VR C.w g s.heap a N)(h:N3 (vw U a)=some e):ZW C g s.heap e N:=by
 have B:=jV S Q
 revert h B
 induction vw U a with
 |T l=>
  intro h ⟨D,M,n,q,_,o,O⟩;cases l with
  |nil=>exact eg h
  |cons k l=>
   cases l with
   |nil=>exact eg h
   |cons v l=>
    induction l with
    |nil=>exact dj h λX j A=>(ak A)▸Pb O (P:=λM=>s.heap.get? D=(gh M n)->ZW C g s.heap (X,v) N) (λL H rk O o=>⟨D,L,H,n,q,o,mW j rk,O⟩) o
    |cons _ _=>exact eg h
 |_=>exact eg
def JD{es}{kv}{v}:(dput es kv v).length<=es.length+1:=by
 delta dput;split
 .exact J (ag _) (aw es.length 1)
 .simp
abbrev Eh(O l:List (KV×AV)):List (KV×AV):=l.foldl (λO e=>dput O e.1 e.2) O
structure DuS(C:Cx)(g:Gh)(U:St)(I d:Addr)(xs:List AV)(gd:Option (Nat×AC))(i:Nat)(es:List (KV×AV))(s:Shared):Prop where
 S:cH C g U s.heap
 T:mL C g s.heap g.mu.length I i xs gd
 oI:fM g s.heap I
 od:fM g s.heap d
 c:WD C.w g s.heap d es
structure Z7(C:Cx)(g:Gh)(U:St)(I d:Addr)(es:List (KV×AV))(s s':Shared):Prop where
 S:cH C g U s'.heap
 keep:∀a o,a≠I->a≠d->s.heap.get? a=some o->s'.heap.get? a=some o
 gens:s'.gens=s.gens
 os:s'.os=s.os
 od:fM g s'.heap d
 c:WD C.w g s'.heap d es
def Ar(hh:A.handled=none)(hu:A.units+1<cLine)(P:I≠d)(hg:cT U gd):∀{i} {s} {l es},i+k=xs.length->uP U (xs.drop i)=some l->l.all (λe=>j5 e.1==true)=true->es.all (λe=>j5 e.1==true)=true->es.length+k<=lim->
  DuS C g U I d xs gd i es s->(∀s',Z7 C g U I d (Eh es l) s s'->R (.ok<|.ret .none) s')->codeAny C.m A (.builtin "dict.update.loop" ⟨[.ref d,.ref I,rawInt i,.none],[]⟩) R s:=by
 induction k with
 |zero=>
  intro i s l es N Q M H hz D fin;rw [fu (by exact lq [_,_] [.p 1 (.a aE<|.c 0) ax] ax aE Y N)] at Q;refine codeAny_of_tree<|(JH xr)▸(ao<|aY (next_end hh D.S D.T D.oI hg (cO<|lq [_,_] [.p 1 (.a aE<|.c 0) ax] ax aE Y N)<|aG N) (λr s2 p=>?_) λL L=>False.elim);induction p with| @mk s2 S2 x2 e1 e2=>?_
  obtain⟨ds,e,ho,re,nd⟩:=D.c;exact ao<|ay<|ay<|fin s2<|jn (ak Q) ⟨S2,λa o B L=>x2 a o B,e1,e2,⟨D.od.fA,D.od.mu,⟨_,x2 d _ (λq=>P q.symm) ho⟩,D.od.one⟩,ds,e,x2 d _ (λq=>P q.symm) ho,re.mono<|hZ (λL i=>i) D.oI x2,nd⟩
 |succ k ih=>
  intro i s l es N Q M H hz D fin;have hi:i<xs.length:=lq [_,_,_] [.q 1 (.a ax<|.s a7) aE] (.s ax) aE Y N;rw [eE hi] at Q;refine dj Q λe B Q=>dj Q λl' hl' e2=>?_;rw [<-ak e2] at M fin;have M:=a8 M;refine codeAny_of_tree<|(JH xr)▸(ao<|aY (t4 hh D.S D.T D.oI hg<|aW hi) (λr s2 p=>?_) λL L=>False.elim);induction p with| @mk s2 v rv X T2=>?_
  obtain⟨la,vk,vv,nn,ev,o1,rk,rw1⟩:=LW X.Lx rv B;obtain⟨ds,ep,ho,re,nd⟩:=D.c;have j:fM g s2.heap I:=⟨D.oI.fA,D.oI.mu,X.live,D.oI.one⟩;have w:=X.ext d _ (λq=>P q.symm) ho;have O:fM g s2.heap d:=⟨D.od.fA,D.od.mu,⟨_,w⟩,D.od.one⟩;refine ev▸(ao<|bD<|ao<|wpAny_tryCatch<|ao<|wpAny_typeOf ⟨_,o1,Y⟩<|ao<|wpAny_seqItems o1 Y<|ay<|bD<|aY (vI hu X.Lx O w (re.mono<|hZ (λL i=>i) D.oI X.ext) nd (by delta ed;exact jn (eq_of_beq M.1).symm H) (Nat.lt_of_add_right_lt hz) rk rw1) (λL s3 p=>?_) λL L=>False.elim)
  obtain⟨h',t,es3,hs,c3⟩:=p;have ho':gV h' d:=by obtain⟨_,_,h,_,_⟩:=c3;exact⟨_,h⟩
  have X3:pN C g U s2 d {s2 with heap:=h',toks:=t}:=⟨X.Lx.ext O hs.extBut,hs.extBut,ho',Y,Y⟩;refine J es3 (ay ⟨plainId_quiet w8 _,ih (bH (lq [_,_,_] [.q 1 (.a ax<|.s aE) a7] (.a (.s ax) aE) a7 Y N)<|lq [_,_,_] [.p 1 (.a aE<|.s a7) ax] ax (.a (.s aE) a7) Y N) hl' M.2 (by
    delta dput;split
    .refine List.all_map.trans ?_;simp only [List.all_eq_true] at H⊢;intro e he;have:=H e he;dsimp only [Function.comp];split<;>exact this
    .refine J List.all_append (J H ?_);simp [(eq_of_beq M.1)]) (by have:=JD (es:=es) (kv:=e.1) (v:=e.2);exact lq [_,_,_] [aH (.a a7<|.s aE) (.c 1000000),aH ax (.s a7)] (.a ax aE) (.c 1000000) Y hz this)
   ⟨X3.Lx,T2.qr X.Lx (X3.qr X.Lx) j P λa q=>J q ⟨O.fA,O.mu⟩,j.qr<|X3.qr X.Lx,⟨O.fA,O.mu,ho',O.one⟩,c3⟩ λs' E=>fin s' ⟨E.S,λa o B h2 h=>E.keep a o B h2<|hs.2 a h2▸X.ext a o B h,E.gens.trans X.gens,E.os.trans X.os,E.od,E.c⟩⟩)
end
section
set_option maxRecDepth 100000
def zD{E}{s}{a}{N}{k}{sl}{Q}
  (D:s.heap.get? a=some {cls:=.type "list",dict:=none,data:=.seq N k,slots:=sl}) (P:A.handled=none)
  (h:∀M tk,(∀b o,s.heap.get? b=some o->M.get? b=some o)->Q none {s with heap:=M,toks:=tk}):
  wpAny (model prog w) A (getAttr? (.ref a) "keys") Q E s:=by
 obtain⟨L,g,d,tk,os⟩:=s;have H:∀U,(⟨L,g,d,U,os⟩:Shared).TypeIs (.ref a) "list" :=fun X=>⟨_,D,Y⟩
 have r:=sub_AttributeError;have f:=F.slot_list_getattribute.lookup;have y:=F.slot_list_getattribute.bind<|.ref a;have v:=am_list_getattr_none
 repeat (any_goals (first|assumption|exact H _|((with_reducible show wpAny _ _ (call (Value.builtin "list.__getattribute__") _ _) _ _ _);refine jI F.slot_list_getattribute (H _) am_entry_list_getattribute (F.args_list_getattribute_2 _ _) (meets_getattribute_miss_list a N k sl _ _ (am_miss_of_fast<|by kernel_rfl) (by decide+kernel)<|by size_fits) ⟨D,P,fun M U e O=>?_⟩)|wp_step))
 obtain⟨j,B,q⟩:=O.there;show wpAny _ _ (getattributeRaised _ _ _ _ _ _ _) _ _ _;unfold getattributeRaised
 repeat (any_goals (first|assumption|wp_step))
 exact h _ _ O.keeps
def ym{E}{s}{a}{N}{k}{sl}{Q}
  (D:s.heap.get? a=some {cls:=.type "tuple",dict:=none,data:=.seq N k,slots:=sl}) (P:A.handled=none)
  (h:∀M tk,(∀b o,s.heap.get? b=some o->M.get? b=some o)->Q none {s with heap:=M,toks:=tk}):
  wpAny (model prog w) A (getAttr? (.ref a) "keys") Q E s:=by
 obtain⟨L,g,d,tk,os⟩:=s;have H:∀U,(⟨L,g,d,U,os⟩:Shared).TypeIs (.ref a) "tuple" :=fun X=>⟨_,D,Y⟩
 have r:=sub_AttributeError;have f:=F.slot_tuple_getattribute.lookup;have y:=F.slot_tuple_getattribute.bind<|.ref a;have v:=am_tuple_getattr_none
 repeat (any_goals (first|assumption|exact H _|((with_reducible show wpAny _ _ (call (Value.builtin "tuple.__getattribute__") _ _) _ _ _);refine jI F.slot_tuple_getattribute (H _) am_entry_tuple_getattribute (F.args_tuple_getattribute_2 _ _) (meets_getattribute_miss_tuple a N k sl _ _ (am_miss_of_fast<|by kernel_rfl) (by decide+kernel)<|by size_fits) ⟨D,P,fun M U e O=>?_⟩)|wp_step))
 obtain⟨j,B,q⟩:=O.there;show wpAny _ _ (getattributeRaised _ _ _ _ _ _ _) _ _ _;unfold getattributeRaised
 repeat (any_goals (first|assumption|wp_step))
 exact h _ _ O.keeps
section
variable{U:St}
def IJ(S:cH C g U s.heap)(O:VR C.w g s.heap a H)(e:zj U a=some D):∃P,wpAny C.m A (pyIter H) (A2 C g U s D P) eV s:=by
 cases a with
 |aL M=>exact lT e λN e=>⟨_,e▸vj O⟩
 |aM M=>exact lT e λN e=>⟨_,e▸vm O⟩
 |ref k=>
  induction hs:U[k]? with
  |none=>rw [show zj U (.ref k)=Bq (OR U[k]?)from Y,hs] at e;exact eg e
  |some c=>
   rw [show zj U (.ref k)=Bq (OR U[k]?)from Y,hs] at e;induction c with
   |L M=>exact lT e λN e=>⟨_,B3 S O<|jn e hs⟩
   |_=>exact eg e
 |_=>exact eg e
def JE{D I:Addr}{L}{H s2}(S:cH C g U s.heap)(N:D=s.heap.objs.size)(w:D<I)(k0:∀b o,s.heap.get? b=some o->s2.heap.get? b=some o)(v:s2.gens=s.gens)(q:s2.os=s.os)(E:Z7 C g U I D L s2 H):b7 C g s (.ref U.length) (U++[.D L]) (.ref D) H:=by obtain⟨f,y,j,A,B⟩:=E.c;obtain⟨r,X,Q⟩:=adopt (c:=.D L) E.S E.od E.od ⟨Y,f,y,j,A,B⟩;have keep:∀b o,s.heap.get? b=some o->H.heap.get? b=o:=λb o e=>E.keep b o (dH<|eQ (N▸cZ e) w) (dH<|N▸cZ e)<|k0 b o e;exact⟨_,r,Q (⟨λb ⟨M,P⟩=>⟨M,keep b M P⟩,λO x=>x,λb M P O O=>keep b M P,⟨aS _,aS _⟩,Y,S.iJ,Y,λO O=>.inl,λO O x=>x,E.gens.trans v,E.os.trans q⟩) (N▸ct _)<|N▸ct _,X⟩
def Na(R:mV A n)(S:cH C g U s.heap)(ra:VR C.w g s.heap a j)(e:sJ U a .dict=(r,st')):wpAny C.m A (call (.type "dict") [j]) (b7 C g s r st') eV s:=
 dj e λxs e1 e=>dj e λl e2 e=>lT e λhh e=>b7.wp e<|by
  have hlen:xs.length<=lim:=by induction tQ S ra e1<;>assumption
  refine callType_codes (Q₁:=λobj H=>obj=.ref s.heap.objs.size/\H=tu s) F.kt_called_dict (F.kt_typeCall_dict_1 _) F.entry_dict_init (kt_code_dict_new _ ⟨Y,Y⟩) λobj H hq=>bV hq.1 hq.2 ?_;have N:(tu s).heap.get? s.heap.objs.size=(d6 [] 0):=ba _ Y;have o0:fM g (tu s).heap s.heap.objs.size:=ij S Y
  have fin:∀P tk,(∀b Q,(tu s).heap.get? b=some Q->P.get? b=some Q)->
    wpAny C.m A.in1.in1 (do
     rule s!"{"dict.__init__"}.from-pairs"
     return<-again (.builtin "dict.update.loop" ⟨[.ref s.heap.objs.size,<-pyIter j,rawInt 0,.none],[]⟩))
    (λfin X=>match fin with| .done f=>wants (λr O=>r=.none/\b7 C g s (.ref U.length) (U++[.D (Eh [] l)]) (.ref s.heap.objs.size) O) eV (.ok f) X| .again c'=>c'.quiet=true/\codeAny C.m A.in1 c' (wants (λr O=>r=.none/\b7 C g s (.ref U.length) (U++[.D (Eh [] l)]) (.ref s.heap.objs.size) O) eV) X)
    (λe X=>wants (λr O=>r=.none/\b7 C g s (.ref U.length) (U++[.D (Eh [] l)]) (.ref s.heap.objs.size) O) eV (.error e) X) {s with heap:=P,toks:=tk}:=by
   intro P tk q;have k0:∀b o,s.heap.get? b=some o->P.get? b=o:=λb o e=>q b o<|aP _ e;obtain⟨gd,hit⟩:=IJ (s:={s with heap:=P,toks:=tk}) (S.grow k0) (ra.mono<|fi k0) e1;refine ao<|jH<|ao<|aY hit (λit s2 p=>?_) λu9 u9=>False.elim;induction p with|mk Q hf T0 hg=>?_
   have B:(P.push Q).get? s.heap.objs.size=(d6 [] 0):=aP _<|q _ _ N;refine ay ⟨plainId_quiet w8 _,Ar (A:=A.in1) R.handled (by have:=R.units;show A.units+1+1<_;exact lq [_,_] [aH (.s<|.a (.a ax<|.m 8 aE)<|.c 400) (.c 9900)] (.s<|.s<|.s ax) (.c 9900) Y this) (jf<|cZ<|q _ _ N) hg (bu _) e2 hh Y (J List.length_nil<|J (bu _) hlen)
    ⟨(S.grow k0).push Q,T0,ij (S.grow k0) hf,⟨o0.fA,o0.mu,⟨_,B⟩,o0.one⟩,[],0,B,Y,bh⟩ λX E=>⟨Y,JE (s2:={s with heap:=P.push Q,toks:=tk}) S Y (cZ<|q _ _ N) (λb o e=>aP _<|k0 b o e) Y Y E⟩⟩
  refine⟨(⟨_,N,Y⟩),F.args_dict_init_2 ..,?_⟩;refine ao<|ao<|wpAny_notOrdered_dict (⟨_,N,Y⟩) (?_:wpAny _ _ (pure (s.heap.objs.size,[j])) ..);refine ay (?_:wpAny _ _ (Builtin.Dict.updateFrom "dict.__init__" s.heap.objs.size j [] .none) ..)
  induction tQ S ra e1 with
  |L la v k ev ho=>rw [ev] at fin⊢;have M:(tu s).heap.get? la=(du v k):=aP _ ho;exact ao<|wpAny_typeOf ⟨_,M,Y⟩<|ao<|zD M R.handled fin
  |T la v k ev _ ho=>rw [ev] at fin⊢;have M:(tu s).heap.get? la=(gh v k):=aP _ ho;exact ao<|wpAny_typeOf ⟨_,M,Y⟩<|ao<|ym M R.handled fin
end
end
section
open PySem.Calls
section
variable{C:Cx}{st:St}{s:Shared}{E:Value->Shared->Prop}{U:List DictEntry}{xs:List AV}
inductive ZN(h:Heap)(I d:Addr)(U:List DictEntry)(ep i:Nat):Prop
 |mk (k:rR h I d i U.length ep) (o:h.get? d=some (d6 U ep))
def O9(j:A.handled=none)(D:d≠I):Walks C.prog C.w A I [I,d] [I] U.length (λi v=>U[i]?.map (·.key)=some v) (λi h=>ZN h I d U g i) where
 sub:=λb O=>J (mS O)<|.head _
 frame:=λi h N ⟨⟨o,e,f⟩,X⟩ L=>⟨⟨o,L I (.head _) o e,f⟩,L d (.tail _<|.head _) _ X⟩
 item:=λi s Q E P ⟨k,o⟩ M=>xb k o (aW P) λN B H=>M _ N s.toks (J (aW P) Y) ⟨B,(H.2 d D).trans o⟩ λb o O e=>H.extBut b o (λq=>O<|q▸.head _) e
 done:=λs Q E ⟨k,o⟩ M=>pV j k o (cO .refl) λN y=>M N s.toks λb o O e=>y b o (λq=>O<|q▸.head _) e
 self:=λi s Q E ⟨k,_⟩ M=>wpAny_pyIter_keyiter k.is M
def Us(lo:(d==sysModules)=false):KdlSrc C.prog C.w "dict" d d U.length (fun i v=>U[i]?.map (·.key)=some v) (fun h=>h.get? d=(d6 U L)) where
 type:=λM O=>⟨_,O,Y⟩
 there:=λM O=>⟨cZ O,cZ O⟩
 keep:=λM M O D=>D d (.inl Y) _ O
 notList:=rfl
 notTuple:=rfl
 hint:=λM M M M O N=>kdl_hint_dict ⟨_,O,Y⟩ N
 iter:=λA s H O=>⟨_,λi h=>ZN h s.heap.objs.size d U L i,λM M=>sy lo O,O9 H<|dH<|cZ O,⟨_,ba _ Y,Y,Y⟩,aP _ O⟩
set_option tactic.hygienic true in
def IF(r:lh C.w g h O U):eT C.w g h (O.map λe=>e.1.av) (U.map (·.key)):=by
 induction O generalizing U with
 |nil=>exact J r Y
 |cons e O M=>induction r;rename_i u D N _ k _ r;exact J N ⟨_,_,Y,IG k,M r⟩
def B4(h:ItemsOf (λi v=>U[i]?.map (·.key)=v) acc U.length):acc.toList=U.map (·.key):=
 List.ext_getElem? λj=>by refine J cE ?_;exact if c:j<acc.size then(by simp only [h.2 j acc[j] (Array.getElem?_eq_getElem c),Array.getElem?_toList,Array.getElem?_eq_getElem c])else J Array.getElem?_toList (bV (Array.getElem?_eq_none<|Nat.not_lt.mp c) (cO<|aa (aG h.1.symm)<|Nat.not_lt.mp c) Y)
def Ay{O:List Value}(e:s.heap.get? b=some o):((s.heap.push<|seqObj "list" #[] 0).update s.heap.objs.size (Obj.mapSeq (· ++O.toArray))).get? b=o:=by refine(Heap.get?_update_ne _ _ _ _<|dH<|cZ e).trans ?_;exact aP _ e
def xf(h:n<64):n<=sizeLine:=iN<|aa (bx h)<|bC Y
def Cq(p:A.handled=none)(S:cH C g st s.heap)(v:VR C.w g s.heap a f)(e:u7 st a=xs)(B:xs.length<64)
  (h:∀vs H tk,(∀b o,s.heap.get? b=some o->H.get? b=some o)->eT C.w g H xs vs->Q vs {s with heap:=H,toks:=tk}):wpAny C.m A (collect f) Q E s:=by
 have r:=jV S v;have O:=λ{q}=>nT (es:=q) S v
 revert e r O
 delta u7;induction vw st a with
 |L c=>intro e ⟨l,vs,n,P,j,M⟩ _;obtain rfl:=ak e;exact J P<|collect_list (S9 j) (h vs _ s.toks (λX X=>Ay)<|M.mono<|fi λX X=>Ay)<|jn M.length<|xf B
 |D q=>
  intro e ⟨l,U,n,P,j,M,_⟩ O;obtain rfl:=ak e;refine J P ?_;have i:U.length<64:=by rw [ag,M.length] at B;exact B
  exact kdu_collect (Us<|O Y l P) p j (xf i) λH tk acc y N=>h _ H tk y<|J (B4 N)<|(IF M).mono<|fi y
 |_=>exact eg
end
section
variable{C:Cx}{s:Shared}{E:Value->Shared->Prop}
noncomputable def out(U:List Value)(p:Array Nat):List Value:=p.toList.map λi=>U.getD i .none
def Ko(C:Cx)(A:Around)(U:List Value)(lt:Nat->Nat->Bool)(s:Shared)(κ:SortKind)(O:Shared):Prop:=O=s/\∀i j (Q:Bool->Shared->Prop),i<U.length->j<U.length->Q (lt i j) s->kas_ask C.prog C.w A κ U i j Q s
theorem Oc{P:α->Prop}(U:∀i j (Q:Bool->Shared->Prop),i<n->j<n->Q (lt i j) s->kas_ask C.prog C.w A M N i j Q s)(O:∀a,P a->G a s):∀{t:KasT α},z0 n lt t P->t.kasWp (kas_ask C.prog C.w A M N) G s
 | .ret a,p=>O a p
 | .ask i j k,p=>U i j _ p.1 p.2.1<|Oc U O p.2.2
def C6{st}{L}(M:H.get? D=some (du [] L))(N:arrOf st=p.map (kas_item<|U.toArray.zip U.toArray))(Q:p.size<64)(X:failedOf st=none)
  (h:∀c,(H.update D<|Obj.mapSeq λO=>List.toArray<|out U p).get? D=some (du (out U p) c)->P (.done<|.ret .none) {s with heap:=H.update D (Obj.mapSeq λO=>List.toArray<|out U p)}):
  wpAny C.m A (do
   let sorted:=(arrOf st).map (·.2);let touched:=(<-seqEpoch D) != L
   Builtin.List.listUpdate (.ref D) λO=>sorted
   if let some e:=failedOf st then rule "list.sort.comparison-raised";throw e
   if touched then rule "list.sort.modified";raiseError "ValueError" "list modified during sort"
   ret .none) P E {s with heap:=H}:=by
 refine J (kat_snds Y N)<|ao<|seqEpoch_at M Y<|ao<|listUpdate_at M Y ?_ (bf _)<|fp<|J bF<|J (ag _)<|xf Q;exact bV X (iT _)<|ay<|h _<|get?_update_seq M λO=>List.toArray<|out U p
def U9(y:s.heap.get? D=(du U c))(O:U.length<64)(T:NG U.length lt)
  (w:∀X,Heap.ExtBut D s.heap X->2<=U.length->wpAny C.m A (keyKind' U.toArray) (Ko C A U lt {s with heap:=X}) eV {s with heap:=X})
  (h:∀p X c,GB U.length lt p->Heap.ExtBut D s.heap X->X.get? D=(du (out U p) c)->P (.done<|.ret .none) {s with heap:=X}):
  wpAny C.m A (Builtin.«list.sort» ⟨[.ref D],[]⟩) P E s:=by
 obtain⟨g,ho1⟩:∃g,(s.heap.update D<|Obj.mapSeq λM=>(#[]:Array Value)).get? D=(du [] g):=⟨_,get?_update_seq y λM=> #[]⟩;refine J (list_sort_plain _)<|ao<|listItems_at y Y<|ao<|listUpdate_at y Y ?_ (J bF<|xf O)<|bf _;refine ao<|seqEpoch_at ho1 Y<|ao<|wpAny_newTuple ?_<|xf O;refine ao<|wpAny_newList ?_<|bf _;refine bD ?_;have s2:Heap.ExtBut D s.heap (((s.heap.update D<|Obj.mapSeq fun M=>(#[]:Array Value)).push<|seqObj "tuple" U.toArray 0).push<|seqObj "list" #[] 0):=fun b o q e=>aP _<|aP _<|((dJ ..).extBut) b o q e
 have L:(((s.heap.update D<|Obj.mapSeq fun M=>(#[]:Array Value)).push<|seqObj "tuple" U.toArray 0).push<|seqObj "list" #[] 0).get? D=(du [] g):=aP _<|aP _ ho1
 generalize ((s.heap.update D<|Obj.mapSeq fun M=>(#[]:Array Value)).push<|seqObj "tuple" U.toArray 0).push (seqObj "list" #[] 0)=h2 at s2 L⊢
 have fin:∀p c,GB U.length lt p->(h2.update D<|Obj.mapSeq λM=>List.toArray<|out U p).get? D=(du (out U p) c)->P (.done<|.ret .none) {s with heap:=h2.update D (Obj.mapSeq λM=>List.toArray<|out U p)}:=λp c B e=>h p _ c B (λb o q e=>(dJ h2 D _).extBut b o q<|s2 b o q e) e;by_cases H:U.toArray.size<2
 .refine J (au H) (J (au H) (ao (ay (ao (ay (C6 L (by
   have e:=kas_range<|pairsOf U;rw [pairsOf_size] at e;exact e.symm) (J bF<|J aO O) Y λc e=>fin _ c ⟨List.Perm.refl _,λ{i j} n l=>?_⟩ e))))))
  exact absurd (aJ (aQ (Nat.succ_le_of_lt n) l)<|aK H) λq=>gX _<|aK q
 .refine J (az H) (J (az H)<|ao<|aY (w h2 s2<|Nat.not_lt.mp H) (λκ s0 w=>?_) λM M x=>x.elim);refine J w.1 (ao (aY (kat_run (Q:=λN v=>∃p:Array Nat,p.size=U.length/\arrOf N=p.map (kas_item<|U.toArray.zip U.toArray)/\failedOf N=none/\GB U.length lt p/\v={s with heap:=h2})
   rfl (Nat.not_lt.mp H) O (λr N v a1 a2 a3 a4=>⟨r,a1,a2,a3,a4⟩) (Oc w.2 (λp B=>⟨B,Y⟩)<|Lu T<|Nat.not_lt.mp H)) ?_ λM M e=>e))
  rintro⟨⟨⟩,N⟩ v ⟨p,B,f,a,t,rfl⟩;exact C6 L f (J B O) a λc=>fin p c t
end
section
variable{C:Cx}{st:St}{l:List α}
def pG(h:i<l.length):l.getD i U=l[i]:=by simp only [List.getD];exact J (aW h) Y
noncomputable def ltI(U:α->α->Bool)(l:List α)(O:α)(i j:Nat):Bool:=U (l.getD i O)<|l.getD j O
def Mj(r5:∀x y,x≠y->(U x y= !U y x))(tr:∀x y z,U x y=true->U y z=true->U x z=true)(M:l.Nodup):NG l.length (ltI U l H) where
 tr:=λO O O=>tr _ _ _
 r5:=λ{i j} D N e h=>by delta ltI at h⊢;exact J (r5 _ _ λq=>e<|(jh M).mp<|((pG D).symm.trans q.symm).trans<|pG N)<|J h Y
def PL(r5:∀x y,x≠y->(U x y= !U y x))(H:∀x y z,U x y=true->U y z=true->U x z=true)(L:l.Nodup){p}(O:GB l.length (ltI U l Q) p):p.toList.map (λi=>l.getD i Q)=mY U l:=by refine((wZ r5 H ((O.1.map _).trans<|List.Perm.of_eq<|List.ext_getElem (by exact J (ag _) aO) λi X P=>by exact J (ir _)<|J (jL _)<|pG P).symm L).trans<|Ls _<|List.pairwise_iff_getElem.mpr λi j D M N=>?_).symm;simp only [ag] at D M;simp only [ir];have h:=O.2 N<|dU M O.1.size;simp only [O.1.at (dU D O.1.size),O.1.at (dU M O.1.size)] at h;exact h
def uu(r:eT C.w g h (l.map enc) U)(O:i<l.length):VR C.w g h (enc<|l.getD i D) (U.getD i .none):=(r.get (x:=enc<|l.getD i D)<|J cE<|bV (aW O) (pG O) Y).elim λv N=>N.elim λe M=>J (show U.getD i .none=v by simp only [List.getD,e];rfl) M
def LY(r:eT C.w g h (l.map enc) U):∀q:List Nat,(∀i∈q,i<l.length)->eT C.w g h ((q.map λi=>l.getD i M).map enc) (q.map λi=>U.getD i .none):=λq=>q.rec (λh=>rfl) λi q O h=>⟨_,_,Y,uu r<|h i<|.head _,O λj m=>h j<|.tail _ m⟩
def wY(R:mV A n)(S:cH C g st s.heap)(r:VR C.w g s.heap a f)(D:u7 st a=(l.map enc))(M:l.length<64)(r5:∀x y,x≠y->(U x y= !U y x))(B:∀x y z,U x y=true->U y z=true->U x z=true)(j:l.Nodup)
  (O:∀{s1:Shared} {vs},eT C.w g s1.heap (l.map enc) vs->vs.length=l.length->2<=l.length->wpAny C.m A.in1.in1 (keyKind' vs.toArray) (Ko C A.in1.in1 vs (ltI U l d0) s1) eV s1):
  wpAny C.m A (call (.builtin "sorted") [f]) (b7 C g s (.ref st.length)<|st++[.L ((mY U l).map enc)]) eV s:=by
 refine call_function_entry kind_sorted plain_sorted entry_sorted (args_sorted1 _)<|ao<|ay<|ao<|Cq R.handled S r D (J (ag _) M) λvs H tk k P=>?_;have N:vs.length=l.length:=jn P.length<|ag _;refine ao<|wpAny_newList ?_<|J N<|xf M;have v:(H.push<|seqObj "list" vs.toArray 0).get? H.objs.size=(du vs 0):=ba _ Y
 refine ao<|bD<|eX slot_list_sort ⟨_,v,Y⟩ entry_list_sort (U9 v (J N M) (J N<|Mj r5 B j) (λh2 x X=>O (P.mono<|fi λb o e=>x b o (dH<|cZ e)<|aP _ e) N<|jn N X) λp h c Q x e=>⟨_,Y,?_⟩)<|args_list_sort _;rw [N] at Q;have k3:∀b o,H.get? b=some o->h.get? b=o:=λb o e=>x b o (dH<|cZ e)<|aP _ e;refine ay ⟨_,Y,?_⟩;refine jn (PL r5 B j Q) ((λD nl=>have o:=⟨λi=>nl<|S.live _ i,λm=>nl<|S.fF m,⟨_,e⟩,(jf<|ee<|ee (S.grow k).w0)⟩
    ⟨_,(S.grow D).own o o ⟨Y,(List.map (λi=>vs.getD i PySem.Value.none) p.toList),c,e,(LY (P.mono<|fi k3) p.toList λi t=>mR<|Q.1.mem_iff.mp t)⟩,(jv S.iJ D).adopt nl nl,qV S⟩) (λb o e=>k3 b o<|k b o e) λq=>by obtain⟨o,e⟩:=q;exact ct H ⟨o,k _ o e⟩)
end
section
variable{C:Cx}{s:Shared}{E:Value->Shared->Prop}
def Ob(o:Fy k=Fy U)(M:GP k u)(O:GP U v)(q:Q (.bool<|yr k U) s):wpAny C.m A (compareOp .Lt u v) Q E s:=by
 cases k with
 |int i=>
  cases U with
  |int j=>obtain⟨t,rfl⟩:=M;obtain⟨N,rfl⟩:=O;exact wpAny_lt_int q
  |str _=>exact Bool.noConfusion o
 |str l=>
  cases U with
  |int _=>exact Bool.noConfusion o
  |str m=>obtain⟨t,rfl⟩:=M;obtain⟨N,rfl⟩:=O;exact PyProof.Rows.lt_str<|jn ((yw l m).symm) q
def QQ(o:Fy k=Fy U)(M:GP k u)(O:GP U v)(q:Q (yr k U) s):wpAny C.m A (oneLt' b u v) Q E s:=by
 induction b with
 |false=>exact kat_one _ _<|Ob o M O q
 |true=>
  induction k with
  |int i=>
   cases U with
   |int j=>obtain⟨t,rfl⟩:=M;obtain⟨N,rfl⟩:=O;exact oneLt_int q
   |str _=>exact Bool.noConfusion o
  |str l=>
   cases U with
   |int _=>exact Bool.noConfusion o
   |str m=>obtain⟨t,rfl⟩:=M;obtain⟨N,rfl⟩:=O;exact oneLt_str<|jn ((yw l m).symm) q
def AP(x y:List KA):Prop:=∀{k U},k∈x->U∈y->Fy k=Fy U
def AP.tl(o:AP (k::x) (O::y)):AP x y:=λh U=>o (.tail _ h)<|.tail _ U
def zQ:zR (k::x) (U::y)=if k=U then zR x y else yr k U:=rfl
theorem IH:∀(x y:List KA) (us vs:List Value) (i:Nat),rT x us->rT y vs->AP x y->decide (us.length<vs.length)=fin->Q (zR x y) s->KatLex C.prog C.w A b fin Q (us.zip vs) i s
 |[],[],us,vs,i,ru,rv,_,f,q=>by refine J ru ?_;rw [show vs=[] from rv] at*;exact kat_nil<|jn f q
 |[],_::_,us,vs,i,ru,⟨v,vs',e,_,_⟩,_,f,q=>by rw [show us=[] from ru,e] at*;exact kat_nil<|jn f q
 |_::_,[],us,vs,i,⟨u,us',e,_,_⟩,rv,_,f,q=>by rw [show vs=[] from rv,e] at*;exact kat_nil<|jn f q
 |k::x,k'::y,us,vs,i,⟨u,us',e,ru,rus⟩,⟨v,vs',e',rv,Hw⟩,o,f,q=>by
  simp only [e,e'] at*;simp only [zQ] at q;refine kat_cons<|(yA C.prog C.w).eqBool (lJ.mp ru) (lJ.mp rv) ?_;by_cases c:k=k'
  .refine J (aq c) ?_;rw [au c] at q;exact kat_yes<|IH x y us' vs' (i+1) rus Hw o.tl (jn f<|dD Nat.succ_lt_succ_iff.symm) q
  .refine J (aF c) ?_;rw [az c] at q;exact kat_no<|QQ (o (.head _)<|.head _) ru rv q
inductive TK(s:Shared)(r fin:Bool):List (Value×Value)->Option PySem.Fin×PUnit->Shared->Prop
 |mk (x' y':List KA) (us' vs':List Value) (ru:rT x' us') (rv:rT y' vs') (o:AP x' y') (e:zR x' y'=r) (f:decide (us'.length<vs'.length)=fin):TK s r fin (us'.zip vs') (none,⟨⟩) s
def TK.end(h:TK s r fin [] q M){P:Prop}(k:q=(none,⟨⟩)->M=s->r=fin->P):P:=by
 generalize el:([]:List (Value×Value))=l at h;induction h with
 |mk x y H D O U o e f=>
  refine k Y Y ?_;simp only [<-e,<-f];cases x with
  |nil=>
   refine J O ?_;induction y with
   |nil=>exact J U Y
   |cons _ _=>obtain⟨_,_,e,_⟩:=U;exact J e Y
  |cons _ _=>
   clear e;obtain⟨_,_,N,_⟩:=O;induction y with
   |nil=>exact J U Y
   |cons _ _=>obtain⟨_,_,ev,_⟩:=U;simp only [N,ev] at el;exact nl el
def G5(ha:s.heap.get? a=(gh j m))(hc:s.heap.get? c=(gh X m'))(O:rT x j)(U:rT y X)(o:AP x y)(h:P (.done<|.ret<|.bool<|zR x y) s):
  wpAny C.m A (Builtin.«tuple.__lt__» ⟨[.ref a,.ref c],[]⟩) P E s:=by
 show wpAny _ _ (isInstance (.ref c) (.type "tuple")>>=_) _ _ s
 refine ao<|wpAny_isInstance ⟨_,hc,Y⟩ isSubtype_tuple_tuple<|ao<|wpAny_tupleItemsOf ha Y<|ao<|wpAny_tupleItemsOf hc Y<|ao<|wpAny_forIn_list _ (TK s (zR x y)<|decide<|j.length<X.length) _ ?_ ?_ _ _<|TK.mk x y j X O U o Y Y
 .intro⟨u,v⟩ rest q s' D;generalize el:(u,v)::rest=l at D;induction D with
  |mk L H us' vs' O U o e f=>
   cases L with
   |nil=>replace el:=O▸el;exact ln el
   |cons k L=>
    obtain⟨u',B,eu,N,O⟩:=O;induction H with
    |nil=>replace el:=U▸eu▸el;exact ln el
    |cons k' H=>
     obtain⟨v',Q,ev,M,U⟩:=U;simp only [eu,ev] at el f;refine(cw el).elim λe1 e2=>(Prod.mk.inj e1).elim λe9 e8=>?_;refine J e8<|bV e9 e2 ?_;simp only [zQ] at e;refine ao<|(yA C.prog C.w).eqBool (lJ.mp N) (lJ.mp M) ?_;by_cases c:k=k'
     .rw [au c] at e;exact J (aq c)<|ay<|TK.mk L H B Q O U o.tl e<|jn f<|dD Nat.succ_lt_succ_iff.symm
     .rw [az c] at e;exact J (aF c)<|ao<|jH<|ao<|Ob (o (.head _)<|.head _) N M<|ao<|ay<|ay<|ay<|J e h
 .exact λq s' D=>D.end λe1 e2 e3=>e1▸e2▸ay (by replace h:=e3▸h;exact h)
end
section
variable{C:Cx}{A:Around}{U:St}{n:Nat}{vs:List Value}{l:List (List KA)}{T:Value}
abbrev Vj(k:List KA):AV:=(KV.t k).av
def uR(D:O≠[])(L:∀v∈O,Looks C.m s.heap (typeOf v) T)(H:(T==T)=true)(h:Q T s):wpAny C.m A (oneTypeOnly' O.toArray) Q eV s:=by
 refine J (oneTypeOnly'_eq _)<|J List.mapM_toArray<|ao<|ao<|kas_mapM _ (λv P B X=>(L v P).here X)<|ay ?_;clear L;induction O with
 |nil=>exact(D Y).elim
 |cons v O=>
  have M:((List.map (λN=>T) (v::O)).toArray.all λx=>x==T)=true:=by simp only [List.all_toArray,List.all_map,List.all_eq_true];exact λN N=>H
  refine J (show(List.map (λN=>T) (v::O)).toArray[0]? =T from Y) ?_;dsimp only;exact J (au M)<|ay h
inductive KW:List (List KA)->List (Option Value)->Prop
 |nil:KW [] []
 |no {l fs}:KW l fs->KW ([]::l) (none::fs)
 |yes {k w l v fs}:GP k v->KW l fs->KW ((k::w)::l) (some v::fs)
def KW.ne(h:KW l M)(N:l≠[])(O:M.toArray.all (·.isSome)=true):M.filterMap id≠[]:=by
 replace O:=List.all_toArray▸O;induction h with
 |nil=>exact absurd Y N
 |no h=>exact Bool.noConfusion O
 |yes _ _=>exact gB _ _
def KW.mem(h:KW l H)(m:v∈H.filterMap id):∃w∈l,∃k∈w,GP k v:=by
 induction h with
 |nil=>exact iZ m
 |no _ O=>obtain⟨w,D,N⟩:=O m;exact⟨w,.tail _ D,N⟩
 |yes M _ O=>exact mE m ⟨_,.head _,_,.head _,M⟩ λm=>(O m).elim λw q=>⟨w,.tail _ q.1,q.2⟩
inductive TpR(g:Gh)(h:Heap)(k:List KA)(v:Value):Prop
 |mk (a us m) (e:v=.ref a) (o:h.get? a=some (gh us m)) (r:rT k us)
def WO(r:VR C.w g h (Vj k) v):TpR g h k v:=by obtain⟨a,O,m,e,_,o,r⟩:=r;exact⟨a,O,m,e,o,y8 (C0 k) r⟩
def FJ:∀(l:List (List KA)) (vs:List Value),eT C.w g s.heap (l.map Vj) vs->∃O,KW l O/\∀Q:List (Option Value)->Shared->Prop,Q O s->wpAny C.m A (vs.mapM firstOfTuple') Q eV s:=λl=>l.rec (λvs r=>⟨[],.nil,λQ q=>J r<|ay q⟩) λw l B=>by
  intro vs r;obtain⟨u,N,e,P,r⟩:=r;refine bQ (B N r) λO j=>And.elim (λD run=>?_) j;obtain⟨a,H,m,y,o,M⟩:=WO P;have step:∀(Q:List (Option Value)->Shared->Prop),Q (H.toArray[0]? ::O) s->wpAny C.m A ((u::N).mapM firstOfTuple') Q eV s:=λQ q=>J List.mapM_cons<|ao<|y▸(ao<|Looks.here ((Looks.ld o).andThen .now)<|ao<|listItems_at o Y<|ay<|ao<|run _<|ay q);refine J e ?_;induction w with
  |nil=>replace step:=M▸step;exact⟨none::O,.no D,step⟩
  |cons k w=>obtain⟨v,L,ev,X,_⟩:=M;rw [ev] at step;exact⟨some v::O,.yes X D,step⟩
def Iz(f:∀{w k v},w∈l->k∈w->GP k v->typeOf v=pure T)(t:(T != Value.type "tuple")=true)(N:(T==T)=true)(r:eT C.w g s.heap (l.map Vj) vs)(D:l≠[])(j:Q (tuples' true) s)(B:Q general' s)(X:Q oneType' s):
  wpAny C.m A (keyKind' vs.toArray) Q eV s:=by
 refine(FJ l vs r).elim λO P=>P.elim λH run=>J (kat_kind_eq _)<|J List.mapM_toArray<|ao<|ao<|run _<|ay ?_;by_cases c:O.toArray.all (·.isSome)=true
 .refine J (au c) (ao<|jH<|J (show O.toArray.filterMap id=(O.filterMap id).toArray by simp)<|ao<|uR (H.ne D c) (λv M=>?_) N<|ay ?_)
  .obtain⟨w,i,k,p,q⟩:=H.mem M;exact Looks.of_pure<|f i p q
  .exact J (show(some T).any (· != Value.type "tuple")=true from t) j
 .refine J (az c) ?_;exact if c2:(O.toArray[0]?.bind id).isSome=true then J (au c2) (ay B)else by
   refine J (az c2)<|ao<|uR (T:=.type "tuple") (fun e=>D<|List.map_eq_nil_iff.mp<|eM<|r.length.trans<|congrArg List.length e) (fun v M=>?_) Y<|ay X
   obtain⟨x,y,L⟩:=r.mem M;obtain⟨w,_,rfl⟩:=mM y;obtain⟨a,h,m,b,o,_⟩:=WO L;exact J b<|(Looks.ld o).andThen .now
def N4(h:qW l=true):(∀{w k},w∈l->k∈w->Fy k=true)\/∀{w k},w∈l->k∈w->Fy k=false:=by
 refine(Bool.or_eq_true_iff.mp h).elim (λh=>.inl λ{w k} m O=>aT (aT h w m) k O) λh=>.inr λ{w k} m O=>?_;have:=aT (aT h w m) k O;induction c:Fy k with
 |false=>rfl
 |true=>exact Bool.noConfusion<|c▸this
def HU(h:qW l=true)(N:x∈l)(M:y∈l):AP x y:=λ{k D} m O=>(N4 h).elim (λq=>(q N m).trans (q M O).symm) λq=>(q N m).trans (q M O).symm
def Pt(h:Fy k=true)(r:GP k v):typeOf v=pure (.type "int"):=by
 induction k with
 |int i=>obtain⟨t,rfl⟩:=r;rfl
 |str _=>exact Bool.noConfusion h
def Pp(h:Fy k=false)(r:GP k v):typeOf v=pure (.type "str"):=by
 induction k with
 |int i=>exact Bool.noConfusion h
 |str _=>obtain⟨t,rfl⟩:=r;rfl
def Mt(f:A.units<cLine)(o:qW l=true)(r:eT C.w g s.heap (l.map Vj) vs)(b:vs.length=l.length)(p:l≠[]):wpAny C.m A (keyKind' vs.toArray) (Ko C A vs (ltI zR l []) s) eV s:=by
 have ask:∀{κ:SortKind},(∀{a c:Addr} {us ws:List Value} {m v:Nat} {x y:List KA} (Q:Bool->Shared->Prop),s.heap.get? a=(gh us m)->s.heap.get? c=(gh ws v)->rT x us->rT y ws->AP x y->Q (zR x y) s->wpAny C.m A (keyLt' κ (.ref a)<|.ref c) Q eV s)->Ko C A vs (ltI zR l []) s κ s:=λh=>⟨Y,λi j Q H D q=>by simp only [b] at H D;obtain⟨a,us,m,e,O,N⟩:=WO<|uu r H;obtain⟨c,ws,v,t,M,k2⟩:=WO<|uu r D;delta kas_ask;exact bV e t<|h Q O M N k2 (HU o (pG H▸eZ H)<|pG D▸eZ D) q⟩
 have B:=ask (κ:=tuples' true) λQ O M N k2 sm q=>kat_lt O Y M Y<|IH _ _ _ _ 0 N k2 sm Y q;have X:=ask (κ:=general') λQ O M N k2 sm q=>kat_one _ _<|iS (op:=.Lt) ⟨_,O,Y⟩ ⟨_,M,Y⟩ F.slot_tuple_lt (eX F.slot_tuple_lt ⟨_,O,Y⟩ F.entry_tuple_lt (G5 O M N k2 sm ⟨_,Y,Value.noConfusion,q⟩)<|F.args_tuple_lt_2 ..) f;have P:=ask (κ:=oneType') λQ O M N k2 sm q=>ao<|wpAny_cRoomFor f<|ao<|wpAny_callSpecialIfBound?_slot ⟨_,O,Y⟩ F.slot_tuple_lt<|eX F.slot_tuple_lt ⟨_,O,Y⟩ F.entry_tuple_lt (G5 O M N k2 sm ⟨_,Y,fS q⟩)<|F.args_tuple_lt_2 ..;exact(N4 o).elim (λh=>Iz (λm L r=>Pt (h m L) r) Y Y r p B X P) λh=>Iz (λm L r=>Pp (h m L) r) Y Y r p B X P
def Mu{l}(r:eT C.w g s.heap (l.map .int) vs)(O:vs.length=l.length)(P:2<=l.length):wpAny C.m A (keyKind' vs.toArray) (Ko C A vs (ltI (λa b=>decide<|a<b) l 0) s) eV s:=
 kas_kind (J O P) (λv L=>by
  obtain⟨x,H,D⟩:=r.mem L;obtain⟨i,_,rfl⟩:=mM H;exact D.elim λt X=>J X<|Looks.of_pure Y) Y Y ⟨Y,λi j Q N M q=>by
  rw [O] at N M;obtain⟨t,y⟩:=uu r N;obtain⟨o,B⟩:=uu r M;delta kas_ask;exact bV y B<|kat_lt_int q⟩
def IL:∀{l},allInts O=some l->O=l.map .int:=by
 induction O with
 |nil=>exact λe=>jn (ak e) Y
 |cons x O M=>exact λe=>dj e λi D e=>dj e λl N e=>jn (ak e)<|bV (jQ D) (M N) Y
def G8(e:qd x=some k):x=k.av:=by cases x<;>first|exact eg e|(refine jn (ak e) ?_;rfl)
def EL:∀{l},cY qd O=some l->O=l.map KA.av:=by
 induction O with
 |nil=>exact λe=>jn (ak e) Y
 |cons x O M=>exact λe=>dj e λi D e=>dj e λl N e=>jn (ak e)<|bV (G8 D) (M N) Y
def G3:∀{l},rO O=some l->O=l.map Vj:=by
 induction O with
 |nil=>exact λe=>jn (ak e) Y
 |cons x O M=>
  cases x with
  |aL H=>exact λe=>dj e λi D e=>dj e λl N e=>jn (ak e)<|bV (M N) (EL D) Y
  |_=>exact eg
def Sd:xK C:=λ{b args vs A g st s r U n} R S L e X=>by
 cases args with
 |nil=>exact eg e
 |cons a l=>
  cases l with
  |nil=>
   refine Pe L (P:=λvs=>wpAny C.m A (call b.val vs) (b7 C g s r U) eV s) λv M=>?_;by_cases B:b=.sorted
   .subst B;exact(dj e λj D e=>jq e (λO e=>by
      induction hi:allInts j with
      |some l=>
       rw [hi] at e;exact lT e λnd e=>b7.wp e (by rw [IL hi] at D O;rw [ag] at O;exact wY R S M D O DL Ij nd λ{s1 vs} r H N=>Mu r H N)
      |none=>
       replace e:=hi▸e;exact dj e λl e2 e=>lT e λQ e=>b7.wp e (by rw [G3 e2] at D O;rw [ag] at O;exact wY R S M D O DM Ik (aB (a8 Q).2) λ{s1 vs} r H N=>Mt (by have:=R.units;show A.units+1+1<_;exact lq [_,_] [aH (.s<|.a (.a ax<|.m 8 aE)<|.c 400) (.c 9900)] (.s<|.s<|.s ax) (.c 9900) Y this) (a8 Q).1 r H λq=>gX _<|q▸N)) λu9=>eg)
   .exact if N:b=.dict then(by subst N;exact Na R S M e)else Se R.handled S M e X B N
  |cons c l=>
   clear X;induction l with
   |nil=>
    refine Pb L (P:=λvs=>wpAny C.m A (call b.val vs) (b7 C g s r U) eV s) λv u M w=>?_;induction b with
    |range=>exact E6 S M w e
    |_=>exact eg e
   |cons _ _=>exact eg e
end
end
end
section
open Classical PyProof.Rows PySem PySem.W
noncomputable def Gi.AZ:List S:=[.exp (.bR (.sub (.bG (.af 0) 17)<|.bG (.af 8) 5) .append [.bG (.af 8) 4]),.exp<|.bR (.bG (.af 0) 18) .append [.bA .len [.bG (.af 0) 19]],.exp (.bR (.bG (.af 0) 19) .extend [.b6 .mul (.aM [.bG (.af 8) 4]) (.b6 .add (.bA .len [.bG (.af 8) 6])<|.aI<|.int 1)])]
noncomputable def Sp.J4:List S:=[.jt (.not<|.sub (.af 2)<|.af 5) [.aU (.v 8) (.b6 .add (.af 8)<|.aI<|.int 1),.exp (.bR (.sub (.af 4)<|.af 5) .append [.bG (.af 7) 4])] [],.jU [5]]
def Sp.tI:List S:=[.aU (.v 8) (.aI<|.int 0),.dT (.v 5) (.bG (.af 7) 6) Sp.J4,.exp<|.bR (.af 3) .append [.af 8],.jU [7,8]]
noncomputable def Rj.Cw:List S:=[.jt (.bk .le (.b6 .add (.bA .len [.af 7])<|.bA .len [.af 8])<|.af 4) [.aU (.sub (.af 6)<|.b6 .add (.af 7)<|.af 8) (.aI<|.bool true)] [],.jU [8]]
def Rj.J3:List S:=[.dT (.v 8) (.af 3) Rj.Cw,.exp<|.lO 234 [.bA .len [.af 6],.af 2],.jU [7]]
def Rj.pQ:List S:=[.aU (.v 4) (.b6 .add (.af 4)<|.lO 239 [.af 3]),.aU (.v 6)<|.bK [],.dT (.v 7) (.af 5) Rj.J3,.aU (.v 5)<|.af 6,.gc [3,6]]
noncomputable def Aw.OJ:List S:=[.jt (.bk .hV (.af 10)<|.sub (.af 3)<|.bG (.af 9) 5) [.aU (.sub (.sub (.af 3)<|.bG (.af 9) 5)<|.af 10) (.aI<|.bool true),.aU (.v 6)<|.b6 .add (.af 6)<|.aI<|.int 1,.exp<|.lO 234 [.af 6,.af 2],.aU (.v 8) (.aI<|.bool true)] [],.jU [10]]
def Aw.Ge:List S:=[.dT (.v 10) (.lO 245 [.lc (.sub (.af 3)<|.af 4) [(.v 4,.bG (.af 9) 6,[])] [4],.af 1,.af 2]) Aw.OJ,.gc [9]]
noncomputable def Aw.V7:List S:=[.aU (.v 5) (.and [.bR (.af 0) (.user 1) [.af 4],.bk .ne (.af 4)<|.wJ 1,.bk .gt (.af 1) (.aI<|.int 0)]),.exp<|.bR (.af 3) .append [.ite (.af 5) (.bK [(.aL [.af 4],.aI<|.bool true)]) (.bK [])],.jU [4,5]]
noncomputable def Td.AZ:List S:=[.jt (.bR (.af 2) (.user 5) []) [.exp (.bR (.af 1) .append [.bR (.bG (.af 2) 24) (.user 4) []])] [.aU (.v 3) (.b6 .sub (.bA .len [.af 1])<|.bA .len [.bG (.af 2) 23]),.aU (.v 1) (.b6 .add (.tO (.af 1)<|.af 3)<|.aM [.b6 .add (.aL [.bG (.af 2) 21]) (.bA .tuple [.AY (.af 1) (.af 3)])])],.jU [2,3]]
noncomputable def Po.AZ:List S:=[.aU (.v 3) (.bR (.af 2) .pop []),.exp<|.bR (.af 1) .append [.af 3],.dT (.v 4) (.bG (.af 3) 23) [.exp (.bR (.af 2) .append [.af 4])],.gc [3,4]]
noncomputable def Uo.V5:List S:=[.aU (.v 6) (.ite (.sub (.af 1)<|.af 3) (.bA .len [.af 5])<|.b6 .sub (.bA .len [.af 5])<|.aI<|.int 1),.jt (.and [.bk .eq (.af 6) (.aI<|.int 0),.not (.bR (.af 0) (.user 1) [.af 3])]) [.aU (.sub (.sub (.af 2)<|.bG (.af 4) 5)<|.af 3) (.aI<|.bool true)] [],.jU [3,6]]
def Uo.V6:List S:=[.aU (.v 5) (.lc (.af 3) [(.v 3,.bG (.af 4) 6,[.not (.sub (.af 1)<|.af 3)])] [3]),.dT (.v 3) (.bG (.af 4) 6) Uo.V5,.gc [4,5]]
noncomputable def Uo.V4:List S:=[.jt (.and [.bk .hV (.af 3) (.af 8),.bk .eq (.lc (.af 10) [(.v 10,.sub (.af 2)<|.af 3,[.bk .hV (.af 10) (.af 8)])] [10]) (.aM [])]) [.aU (.sub (.af 8)<|.af 3) (.aI<|.bool true),.exp (.bR (.af 7) .append [.af 3])] [],.gc [3]]
noncomputable def Wa.OF:List S:=[.aU (.v 10) (.bR (.af 4) .get [.aL [.af 6,.af 8,.af 9],.aI (.int 0)]),.jt (.bk .gt (.af 10)<|.aI<|.int 0) [.aU (.sub (.af 7)<|.af 9) (.b6 .add (.bR (.af 7) .get [.af 9,.aI (.int 0)])<|.b6 .mul (.sub (.af 5)<|.af 8)<|.af 10)] [],.jU [9,10]]
def Wa.OG:List S:=[.jt (.and [.bk .lt (.af 8) (.af 3),.bk .eq (.sub (.af 1)<|.af 8) (.af 6)]) [.aU (.sub (.af 7)<|.b6 .add (.af 8)<|.aI<|.int 1) (.b6 .add (.bR (.af 7) .get [.b6 .add (.af 8) (.aI<|.int 1),.aI (.int 0)])<|.sub (.af 5)<|.af 8)] [],.dT (.v 9) (.bA .range [.af 8,.b6 .add (.af 3) (.aI<|.int 1)]) Wa.OF,.jU [8]]
def Wa.OH:List S:=[.aU (.v 7) (.bK []),.dT (.v 8) (.af 5) Wa.OG,.aU (.v 5)<|.af 7,.gc [6,7]]
noncomputable def Ct.J1:List S:=[.aU (.v 7) (.b6 .add (.af 7)<|.lO 379 [.bG (.sub (.bG (.af 0) 13)<|.af 8) 6,.af 1,.af 5,.b6 .add (.af 5)<|.af 4,.af 3]),.jU [8]]
def Ct.J0:List S:=[.aU (.v 7) (.aI<|.int 0),.dT (.v 8) (.bR (.af 0) (.user 3) [.af 6]) Ct.J1,.jt (.bk .gt (.af 7)<|.aI<|.int 0) [.aU (.sub (.af 3)<|.aL [.af 6,.af 5,.b6 .add (.af 5) (.af 4)]) (.af 7)] [],.jU [6,7]]
noncomputable def Ro.N8:S:=.jt (.and [.bk .lt (.af 10) (.af 4),.bk .eq (.sub (.af 2)<|.af 10) (.af 8)]) [.aU (.v 12) (.sub (.bG (.af 0) 11)<|.af 8),.exp (.bR (.af 11) .append [.aL [.b6 .add (.af 10) (.aI<|.int 1),.Fj [.new 358 [.new 93 [.af 12,.af 12,.aI .none] false] false]]])] []
noncomputable def Ro.vT:List S:=[.jt (.bk .z8 (.aL [.af 8,.af 10,.af 13])<|.af 5) [.exp (.bR (.af 11) .append [.aL [.af 13,.sub (.af 5) (.aL [.af 8,.af 10,.af 13])]])] [],.jU [13]]
noncomputable def Ro.J3:List S:=[.jt (.bk .lt (.bA .len [.af 15])<|.af 6) [.exp (.bR (.af 15) .append [.b6 .add (.af 16) (.aL [.af 17])])] [],.jU [17]]
def Ro.V9:List S:=[.dT (.v 17) (.af 14) Ro.J3,.jU [16]]
def Ro.Wb:List S:=[.aU (.v 15) (.bR (.af 9) .eG [.af 13,.aM []]),.dT (.v 16) (.sub (.af 7)<|.af 10) Ro.V9,.jU [13,14,15]]
def Ro.tI:List S:=[.aU (.v 11) (.aM []),Ro.N8,.jU [12],.dT (.v 13) (.bA .range [.af 10,.b6 .add (.af 4) (.aI<|.int 1)]) Ro.vT,.dT (.t [13,14]) (.af 11) Ro.Wb,.jU [10,11]]
def Ro.J4:List S:=[.aU (.v 9) (.bK []),.dT (.v 10) (.bA .sorted [.af 7]) Ro.tI,.aU (.v 7)<|.af 9,.gc [8,9]]
noncomputable def Tc.V3:List S:=[.aU (.sub (.af 7)<|.af 10) (.b6 .add (.bR (.af 7) .get [.af 10,.aI (.int 0)])<|.sub (.af 9)<|.af 10),.jU [10]]
def Tc.J1:List S:=[.aU (.v 9) (.lO 406 [.af 0,.bG (.sub (.bG (.af 0) 13)<|.af 8) 6,.af 5,.af 4]),.dT (.v 10) (.af 9) Tc.V3,.jU [8,9]]
def Tc.J0:List S:=[.aU (.v 7) (.bK []),.dT (.v 8) (.bR (.af 0) (.user 3) [.af 6]) Tc.J1,.jt (.bk .gt (.bA .len [.af 7])<|.af 2) [.Bz] [],.gc [],.aU (.sub (.af 4)<|.aL [.af 6,.af 5])<|.af 7,.jU [6,7]]
noncomputable def Ab.pQ:List S:=[.jt (.bk .gt (.sub (.af 2)<|.af 3)<|.aI<|.int 1) [.aU (.t [4,5]) (.lO 401 [.af 0,.af 3,.aI (.int 2)]),.ret (.aL [.af 3,.af 4,.af 5])] []]
noncomputable def Rt.AZ:List S:=[.aU (.v 4) (.b6 .add (.aM [.aI (.str [101,114,114,111,114]),.aI<|.str [97],.aI (.str [98])])<|.af 1),.exp<|.bR (.af 2) .append [.sub (.af 4) (.lO 433 [.af 0,.bA .len [.af 4]])],.gc [3,4]]
noncomputable def Pr.vT:List S:=[.jt (.bk .eq (.lO 433 [.af 0,.aI (.int 4)])<|.aI<|.int 0) [.exp (.bR (.af 1) .append [.aL [.af 2,.aM [.sub (.aL [.aI (.str [97]),.aI (.str [101,114,114,111,114])]) (.lO 433 [.af 0,.aI (.int 2)]),.af 2]]])] [],.gc [2,3,4,5]]
noncomputable def Pr.tI:List S:=[.aU (.v 5) (.lO 440 [.af 0,.af 3]),.jt (.bk .hV (.aL [.af 2,.af 5])<|.af 1) [.exp (.bR (.af 1) .append [.aL [.af 2,.af 5]])] []]
noncomputable def Lw.pQ:List S:=[.jt (.bk .eq (.af 5)<|.sub (.af 8)<|.aI<|.int 0) [.exp (.bR (.af 3) .append [.aL [.af 7,.b6 .add (.bA .tuple [.af 6]) (.AY (.af 8)<|.aI<|.int 1)]])] []]
def Lw.N0:List S:=[.jt (.bk .gt (.b6 .add (.bA .len [.af 7])<|.bA .len [.lc (.af 9) [(.v 9,.af 8,[.bk .hV (.af 9) (.af 4)])] [9]])<|.af 1) [.cont] [],.jt (.bk .eq (.af 8)<|.aL []) [.aU (.sub (.af 2)<|.af 7) (.b6 .add (.bR (.af 2) .get [.af 7,.aI (.int 0)])<|.aI<|.int 1),.cont] [],.dT (.t [5,6]) (.af 0) Lw.pQ]
noncomputable def Lw.AZ:List S:=[.aU (.t [7,8]) (.aL [.b6 .add (.af 7) (.tO (.af 8)<|.aI<|.int 1),.AY (.af 8) (.aI<|.int 1)])]
noncomputable def La.ZT:S:=.aU (.v 14)<|.vR 215 [.b6 .add (.af 7) (.lc (.aL [.af 8,.aM [.aI (.str [110,111,110,101]),.aI<|.str [110,111,110,101],.aI<|.str [110,111,110,101],.aI (.str [110,111,110,101])]]) [(.v 8,.aL [.aI (.str [116]),.aI (.str [117])],[])] [8])]
noncomputable def La.Cw:List S:=[.jt (.bk .hV (.aI<|.str [101,114,114,111,114])<|.af 6) [.aU (.sub (.sub (.af 10)<|.bA .len [.af 6])<|.bA .tuple [.lc (.bR (.af 3) (.user 2) [.af 12]) [(.v 12,.af 6,[])] [12]]) (.sub (.af 4)<|.af 6),.gc [12]] []]
noncomputable def La.Ge:List S:=[.jt (.bk .ne (.vR 386 [.af 3,.lc (.bR (.af 3) (.user 2) [.af 12]) [(.v 12,.af 6,[])] [12]])<|.sub (.af 4)<|.af 6) [.ret (.aI<|.bool false)] []]
noncomputable def La.ZS:S:=.jt (.or [.bk .S8 (.af 18) (.aI .none),.bk .eq (.af 17) (.aM [])]) [.ret (.and [.bk .S8 (.af 18) (.aI .none),.bk .eq (.af 17) (.aM [])])] []
noncomputable def La.Y3:S:=.aU (.v 17)<|.lc (.af 6) [(.v 13,.af 10,[]),(.v 6,.bA .sorted [.af 13],[.bk .gt (.sub (.af 13)<|.af 6) (.aI<|.int 1)])] [13,6]
noncomputable def La.S6:S:=.aU (.v 7)<|.lc (.aL [.af 8,.af 9]) [(.t [8,9],.af 2,[.bk .hV (.aI<|.str [101,114,114,111,114]) (.af 9)])] [8,9]
noncomputable def La.S7:S:=.aU (.v 10)<|.lc (.bK []) [(.v 11,.bA .range [.b6 .add (.af 5) (.aI<|.int 1)],[])] [11]
noncomputable def rE:Fn:=⟨false,false,5,5,[.none],[.aU (.bG (.af 0) 0) (.af 1),.aU (.bG (.af 0) 1)<|.af 2,.aU (.bG (.af 0) 2)<|.af 3,.aU (.bG (.af 0) 3) (.ite (.bk .S8 (.af 4)<|.aI .none) (.af 2)<|.af 4)]⟩
noncomputable def rC:Fn:=⟨true,false,1,1,[],[.ret (.aL [.bG (.af 0) 0,.bG (.af 0) 1])]⟩
noncomputable def tj:Fn:=⟨false,false,8,8,[.int (-1),.none,.int 0,.int 0],[.aU (.bG (.af 0) 4) (.af 1),.aU (.bG (.af 0) 5)<|.af 2,.aU (.bG (.af 0) 6)<|.af 3,.aU (.bG (.af 0) 7)<|.af 4,.aU (.bG (.af 0) 8)<|.af 5,.aU (.bG (.af 0) 9)<|.af 6,.aU (.bG (.af 0) 10) (.af 7)]⟩
def mC:Fn:=⟨false,false,7,9,[],[.aU (.bG (.af 0) 11) (.af 1),.aU (.bG (.af 0) 12)<|.af 2,.aU (.bG (.af 0) 13)<|.af 3,.aU (.bG (.af 0) 14)<|.af 4,.aU (.bG (.af 0) 15)<|.af 5,.aU (.bG (.af 0) 16)<|.af 6,.aU (.bG (.af 0) 17)<|.lc (.aM []) [(.v 7,.bG (.af 0) 11,[])] [7],.aU (.bG (.af 0) 18)<|.aM [],.aU (.bG (.af 0) 19)<|.aM [],.dT (.v 8) (.bG (.af 0) 13) Gi.AZ,.aU (.bG (.af 0) 20) (.bA .len [.bG (.af 0) 19])]⟩
noncomputable def j7:Fn:=⟨true,false,1,1,[],[.ret (.bA .len [.bG (.af 0) 11])]⟩
noncomputable def kB:Fn:=⟨true,false,2,2,[],[.ret (.bk .lt (.af 1)<|.bG (.af 0) 12)]⟩
noncomputable def nK:Fn:=⟨true,false,2,2,[],[.ret (.ite (.bk .z8 (.af 1)<|.bG (.af 0) 11) (.bR (.bG (.af 0) 11) .index [.af 1])<|.aI<|.int<|-1)]⟩
noncomputable def mB:Fn:=⟨true,false,2,2,[],[.ret (.bA .list [.sub (.bG (.af 0) 17) (.af 1)])]⟩
noncomputable def lz:Fn:=⟨true,false,2,4,[],[.aU (.v 2) (.aI<|.int<|-1),.dT (.v 3) (.af 0) [.jt (.bk .lt (.af 3)<|.af 1) [.aU (.v 2) (.af 3)] []],.ret (.af 2)]⟩
noncomputable def ly:Fn:=⟨true,false,2,11,[.none],[.aU (.v 2) (.aM []),.dT (.t [3,4]) (.af 0) [.jt (.or [.bk .eq (.af 3) (.aI<|.str [101,114,114,111,114]),.bk .z8 (.tO (.af 3)<|.aI<|.int 1) (.aL [.aI (.str []),.aI<|.str [36],.aI (.str [39])])]) [.Bz] [],.jt (.bk .hV (.af 3)<|.af 2) [.exp (.bR (.af 2) .append [.af 3])] [],.dT (.v 5) (.af 4) [.jt (.bk .z8 (.tO (.af 5)<|.aI<|.int 1)<|.aL [.aI (.str []),.aI (.str [36])]) [.Bz] [],.jU [5]],.jU [3,4]],.aU (.v 6)<|.ite (.or [.bk .DW (.af 1) (.aI .none),.bk .eq (.af 2) (.aM [])]) (.af 1)<|.sub (.af 2)<|.aI<|.int 0,.jt (.bk .hV (.af 6)<|.af 2) [.Bz] [],.aU (.v 7)<|.bA .list [.wJ 2],.dT (.t [3,4]) (.af 0) [.dT (.v 5) (.af 4) [.jt (.and [.bk .hV (.af 5) (.af 2),.bk .hV (.af 5) (.af 7)]) [.exp (.bR (.af 7) .append [.af 5])] [],.jU [5]],.jU [3,4]],.aU (.v 8)<|.bA .len [.af 7],.aU (.v 7)<|.b6 .add (.b6 .add (.af 7)<|.aM [.aI (.str [36,97,99,99,101,112,116])])<|.af 2,.aU (.v 9)<|.aM [.new 116 [.aI (.int 0),.af 8,.aL [.bR (.af 7) .index [.af 6],.wJ 0],.wJ 0] false],.dT (.t [3,4]) (.af 0) [.aU (.v 10) (.bA .tuple [.lc (.bR (.af 7) .index [.af 5]) [(.v 5,.af 4,[])] [5]]),.exp<|.bR (.af 9) .append [.new 116 [.bA .len [.af 9],.bR (.af 7) .index [.af 3],.af 10,.lO 209 [.af 10,.af 8]] false],.gc [3,4,10]],.gc [],.ret (.new 198 [.af 7,.af 8,.af 9,.bK [],.aI .none,.bR (.af 7) .index [.af 6]] true)]⟩
def Ai:Fn:=⟨true,false,2,12,[],[.aU (.v 2) (.bA .list [.af 1]),.aU (.v 3)<|.aM [],.aU (.v 4)<|.lc (.aM []) [(.v 5,.af 2,[])] [5],.aU (.v 6)<|.aM [],.dT (.v 7) (.bG (.af 0) 13) Sp.tI,.dT (.v 7) (.bG (.af 0) 13) [.jt (.and [.bk .eq (.sub (.af 3)<|.bG (.af 7) 4) (.aI<|.int 0),.not (.sub (.af 2)<|.bG (.af 7) 5)]) [.aU (.sub (.af 2)<|.bG (.af 7) 5) (.aI<|.bool true),.exp (.bR (.af 6) .append [.bG (.af 7) 5])] [],.jU [7]],.aU (.v 9)<|.aI<|.int 0,.A4 (.bk .lt (.af 9)<|.bA .len [.af 6]) [.dT (.v 10) (.sub (.af 4)<|.sub (.af 6)<|.af 9) [.aU (.sub (.af 3)<|.af 10) (.b6 .sub (.sub (.af 3)<|.af 10)<|.aI<|.int 1),.aU (.v 11)<|.bG (.sub (.bG (.af 0) 13)<|.af 10) 5,.jt (.and [.bk .eq (.sub (.af 3)<|.af 10) (.aI<|.int 0),.not (.sub (.af 2)<|.af 11)]) [.aU (.sub (.af 2)<|.af 11) (.aI<|.bool true),.exp (.bR (.af 6) .append [.af 11])] [],.jU [10,11]],.aU (.v 9) (.b6 .add (.af 9)<|.aI<|.int 1)],.ret (.af 2)]⟩
noncomputable def vA:Fn:=⟨true,false,1,1,[],[.ret (.vR 220 [.af 0,.b6 .mul (.aM [.aI (.bool false)]) (.bR (.af 0) (.user 0) [])])]⟩
noncomputable def vC:Fn:=⟨true,false,2,2,[],[.jt (.bk .gt (.af 0)<|.af 1) [.Bz] []]⟩
noncomputable def om:Fn:=⟨true,false,1,2,[],[.ret (.bA .min [.lc (.bA .len [.af 1]) [(.v 1,.af 0,[])] [1]])]⟩
def p5:Fn:=⟨true,false,3,9,[.int 20000],[.jt (.or [.bk .lt (.af 1) (.aI<|.int 0),.bk .ne (.lc (.af 3) [(.v 3,.af 0,[.bk .eq (.bA .len [.af 3]) (.aI<|.int 0)])] [3]) (.aM [])]) [.ret (.bK [])] [],.aU (.v 4)<|.b6 .sub (.af 1)<|.bA .sum [.lc (.lO 239 [.af 3]) [(.v 3,.af 0,[])] [3]],.aU (.v 5)<|.ite (.bk .ge (.af 4)<|.aI<|.int 0) (.bK [(.aL [],.aI<|.bool true)])<|.bK [],.gc [3],.dT (.v 3) (.af 0) Rj.pQ,.ret (.af 5)]⟩
def tf:Fn:=⟨true,false,3,11,[.int 20000],[.aU (.v 3) (.aM []),.dT (.v 4) (.bA .range [.bR (.af 0) (.user 0) []]) Aw.V7,.aU (.v 6)<|.bA .sum [.lc (.bA .len [.af 7]) [(.v 7,.af 3,[])] [7]],.exp<|.lO 234 [.af 6,.af 2],.aU (.v 8)<|.aI<|.bool true,.A4 (.af 8) [.aU (.v 8) (.aI<|.bool false),.dT (.v 9) (.bG (.af 0) 13) Aw.Ge],.ret (.af 3)]⟩
noncomputable def pZ:Fn:=⟨true,false,3,3,[.int 20000],[.ret (.bA .sorted [.sub (.lO 251 [.af 0,.af 1,.af 2]) (.bG (.af 0) 16)])]⟩
noncomputable def ti:Fn:=⟨false,false,4,4,[],[.aU (.bG (.af 0) 21) (.af 1),.aU (.bG (.af 0) 22)<|.af 2,.aU (.bG (.af 0) 23) (.bA .list [.af 3])]⟩
noncomputable def oR:Fn:=⟨true,false,1,1,[],[.ret (.aI<|.bool false)]⟩
def th:Fn:=⟨true,false,1,4,[],[.aU (.v 1) (.aM []),.dT (.v 2) (.lO 367 [.af 0]) Td.AZ,.ret (.sub (.af 1)<|.aI<|.int 0)]⟩
noncomputable def tn:Fn:=⟨false,false,2,2,[],[.aU (.bG (.af 0) 21) (.bG (.af 1) 0),.aU (.bG (.af 0) 22)<|.aI<|.int 0,.aU (.bG (.af 0) 23)<|.aM [],.aU (.bG (.af 0) 24) (.af 1)]⟩
noncomputable def oS:Fn:=⟨true,false,1,1,[],[.ret (.aI<|.bool true)]⟩
def sZ:Fn:=⟨true,false,1,5,[],[.aU (.v 1) (.aM []),.aU (.v 2)<|.aM [.af 0],.A4 (.bk .ne (.af 2)<|.aM []) Po.AZ,.ret (.GJ<|.af 1)]⟩
def rA:Fn:=⟨true,false,1,11,[],[.aU (.v 1) (.lO 227 [.af 0]),.aU (.v 2)<|.bK [],.dT (.v 3) (.bA .range [.bG (.af 0) 12,.bR (.af 0) (.user 0) []]) [.aU (.sub (.af 2)<|.af 3) (.bK []),.jU [3]],.dT (.v 4) (.bG (.af 0) 13) Uo.V6,.gc [],.aU (.v 7)<|.aM [],.aU (.v 8)<|.bK [],.A4 (.bk .lt (.bA .len [.af 7])<|.bA .len [.af 2]) [.aU (.v 9) (.bA .len [.af 7]),.dT (.v 3) (.af 2) Uo.V4,.jt (.bk .eq (.bA .len [.af 7])<|.af 9) [.Bz] [],.jU [9]],.ret (.af 7)]⟩
def Jq:Fn:=⟨true,false,5,11,[],[.aU (.v 5) (.bK [(.af 2,.aI<|.int 1)]),.gc [],.dT (.v 6) (.af 0) Wa.OH,.ret (.bR (.af 5) .get [.af 3,.aI (.int 0)])]⟩
def p6:Fn:=⟨true,false,2,9,[],[.aU (.v 2) (.lO 372 [.af 0]),.aU (.v 3)<|.bK [],.dT (.v 4) (.bA .range [.b6 .add (.bA .len [.af 1]) (.aI<|.int 1)]) [.dT (.v 5) (.bA .range [.b6 .sub (.b6 .add (.bA .len [.af 1])<|.aI<|.int 1) (.af 4)]) [.dT (.v 6) (.af 2) Ct.J0,.jU [5]],.jU [4]],.ret (.bR (.af 3) .get [.aL [.sub (.bG (.sub (.bG (.af 0) 13)<|.aI<|.int 0) 6) (.aI<|.int 0),.aI<|.int 0,.bA .len [.af 1]],.aI (.int 0)])]⟩
def sY:Fn:=⟨true,false,7,18,[],[.aU (.v 7) (.bK [(.af 3,.aM [.aL []])]),.gc [],.dT (.v 8) (.af 1) Ro.J4,.ret (.bR (.af 7) .get [.af 4,.aM []])]⟩
noncomputable def vz:Fn:=⟨true,false,3,12,[.int 2],[.aU (.v 3) (.lO 372 [.af 0]),.aU (.v 4)<|.bK [],.dT (.v 5) (.bA .range [.b6 .add (.bA .len [.af 1]) (.aI<|.int 1)]) [.dT (.v 6) (.bA .range [.b6 .sub (.b6 .add (.bA .len [.af 1])<|.aI<|.int 1) (.af 5)]) [.dT (.v 7) (.af 3) [.aU (.v 8) (.aM []),.dT (.v 9) (.bR (.af 0) (.user 3) [.af 7]) [.aU (.v 10) (.bG (.sub (.bG (.af 0) 13)<|.af 9) 6),.dT (.v 11) (.lO 393 [.af 0,.af 10,.af 1,.af 6,.b6 .add (.af 6)<|.af 5,.af 4,.af 2]) [.exp (.bR (.af 8) .append [.new 323 [.sub (.bG (.af 0) 11) (.af 7),.af 9,.bA .list [.af 11]] false]),.gc [11]],.jU [9,10]],.jt (.bk .ne (.af 8)<|.aM []) [.aU (.sub (.af 4)<|.aL [.af 7,.af 6,.b6 .add (.af 6) (.af 5)]) (.tO (.af 8)<|.af 2)] [],.gc [7,8]],.jU [6]],.jU [5]],.ret (.bR (.af 4) .get [.aL [.sub (.bG (.sub (.bG (.af 0) 13)<|.aI<|.int 0) 6) (.aI<|.int 0),.aI<|.int 0,.bA .len [.af 1]],.aM []])]⟩
noncomputable def rz:Fn:=⟨true,false,4,13,[],[.aU (.v 4) (.bK [(.aL [],.aI<|.int 1)]),.gc [],.dT (.v 5) (.af 1) [.aU (.v 6) (.bK []),.dT (.v 7) (.af 4) [.aU (.v 8) (.b6 .sub (.af 2)<|.bA .len [.af 7]),.jt (.bR (.af 0) (.user 1) [.af 5]) [.jt (.and [.bk .gt (.af 8) (.aI<|.int 0),.bk .ne (.af 5) (.wJ 1)]) [.aU (.v 9) (.b6 .add (.af 7)<|.aL [.af 5]),.aU (.sub (.af 6)<|.af 9) (.b6 .add (.bR (.af 6) .get [.af 9,.aI (.int 0)])<|.sub (.af 4)<|.af 7)] [],.jU [7,8,9],.cont] [],.dT (.v 10) (.bA .range [.b6 .add (.af 8) (.aI<|.int 1)]) [.aU (.v 11) (.bR (.af 3) .get [.aL [.af 5,.af 10],.bK []]),.gc [],.dT (.v 12) (.af 11) [.aU (.v 9) (.b6 .add (.af 7)<|.af 12),.aU (.sub (.af 6)<|.af 9)<|.b6 .add (.bR (.af 6) .get [.af 9,.aI (.int 0)])<|.b6 .mul (.sub (.af 4)<|.af 7)<|.sub (.af 11)<|.af 12,.jU [9,12]],.jt (.bk .gt (.bA .len [.af 6])<|.b6 .mul (.aI<|.int 5)<|.wJ 4) [.Bz] [],.jU [10,11]],.jU [7,8]],.aU (.v 4)<|.af 6,.gc [5,6]],.ret (.dc (.af 12) (.sub (.af 4)<|.af 12) (.v 12) (.af 4) [.bk .eq (.bA .len [.af 12]) (.af 2)] [12])]⟩
def p4:Fn:=⟨true,false,3,12,[.int 20000],[.aU (.v 3) (.lO 372 [.af 0]),.aU (.v 4)<|.bK [],.dT (.v 5) (.bA .range [.b6 .add (.af 1) (.aI<|.int 1)]) [.dT (.v 6) (.af 3) Tc.J0,.jU [5]],.aU (.v 11)<|.sub (.bG (.sub (.bG (.af 0) 13)<|.aI<|.int 0) 6)<|.aI<|.int 0,.ret (.lc (.sub (.af 4)<|.aL [.af 11,.af 5]) [(.v 5,.bA .range [.b6 .add (.af 1) (.aI<|.int 1)],[])] [5])]⟩
def nJ:Fn:=⟨true,false,2,6,[],[.dT (.v 2) (.lO 412 [.af 0,.af 1]) [.dT (.v 3) (.bA .sorted [.af 2]) Ab.pQ],.ret (.aI .none)]⟩
noncomputable def xp:Fn:=⟨true,true,1,3,[],[.aU (.v 1) (.aI<|.int 0),.dT (.v 2) (.tO (.af 0)<|.aI<|.int 24) [.aU (.v 1) (.b6 .add (.b6 .mul (.af 1)<|.b6 .pow (.aI<|.int 10)<|.aI<|.int 28)<|.b6 .mod (.bA .abs [.bA .int [.af 2]])<|.b6 .pow (.aI<|.int 10)<|.aI<|.int 28)],.gc [2],.ret (.aM [.af 1,.aI (.int 0)])]⟩
noncomputable def vD:Fn:=⟨false,false,2,3,[],[.jt (.bk .eq (.sub (.af 0)<|.aI<|.int 0)<|.aI<|.int 0) [.aU (.sub (.af 0)<|.aI<|.int 1) (.b6 .add (.sub (.af 0)<|.aI<|.int 1)<|.aI<|.int 1),.aU (.sub (.af 0)<|.aI<|.int 0) (.b6 .pow (.b6 .add (.b6 .mul (.aI<|.int 570570)<|.sub (.af 0)<|.aI<|.int 1)<|.aI<|.int 10009)<|.aI<|.int 7)] [],.aU (.v 2)<|.b6 .mod (.sub (.af 0)<|.aI<|.int 0)<|.af 1,.aU (.sub (.af 0)<|.aI<|.int 0)<|.b6 .fdiv (.sub (.af 0)<|.aI<|.int 0)<|.af 1,.ret (.af 2)]⟩
def td:Fn:=⟨false,false,2,5,[],[.aU (.v 2) (.aM []),.dT (.v 3) (.bA .range [.lO 433 [.af 0,.aI (.int 3)]]) Rt.AZ,.ret (.af 2)]⟩
def te:Fn:=⟨false,false,1,6,[],[.aU (.v 1) (.aM []),.dT (.t [2,3]) (.aL [.aL [.aI (.str [115]),.aM [.aI (.str [116]),.aI (.str [117])]],.aL [.aI (.str [116]),.aM [.aI (.str [117])]],.aL [.aI (.str [117]),.aM []]]) (.dT (.v 4) (.bA .range [.b6 .add (.aI<|.int 1) (.lO 433 [.af 0,.aI (.int 2)])]) Pr.tI::Pr.vT),.ret (.af 1)]⟩
def ta:Fn:=⟨true,false,2,10,[],[.aU (.t [2,3,4]) (.aL [.bK [],.aM [.aL [.aL [],.aL [.aI (.str [115])]]],.lc (.af 5) [(.t [5,6],.af 0,[])] [5,6]]),.A4 (.bk .ne (.af 3)<|.aM []) (.aU (.t [7,8]) (.bR (.af 3) .pop [])::.A4 (.and [.bk .ne (.af 8) (.aL []),.bk .hV (.sub (.af 8)<|.aI<|.int 0)<|.af 4,.bk .le (.bA .len [.af 7]) (.af 1)]) Lw.AZ::Lw.N0),.ret (.af 2)]⟩
noncomputable def rB:Fn:=⟨true,false,1,3,[],[.jt (.and [.bk .eq (.bA .len [.af 0]) (.aI<|.int 2),.bA .isStr [.sub (.af 0) (.aI<|.int 1)]]) [.ret (.aL [.sub (.af 0) (.aI<|.int 0)])] [],.ret (.bA .tuple [.lc (.af 2) [(.v 1,.AY (.af 0)<|.aI<|.int 1,[]),(.v 2,.lO 457 [.af 1],[])] [1,2]])]⟩
def Oq:Fn:=⟨true,false,1,21,[],[.aU (.v 1) (.lO 426 [.af 0]),.aU (.v 2)<|.lO 447 [.af 1],.gc [1],.aU (.t [3,4,5])<|.aL [.vR 215 [.af 2],.lO 452 [.af 2,.aI (.int 2)],.aI (.int 2)],.jt (.bk .lt (.bA .sum [.lc (.sub (.af 4)<|.af 6) [(.v 6,.af 4,[])] [6]])<|.aI<|.int 40) [.aU (.t [4,5]) (.aL [.lO 452 [.af 2,.aI (.int 3)],.aI (.int 3)])] [],.gc [6],La.S6,.gc [8,9],La.S7,.dT (.v 6) (.af 4) La.Cw,.gc [6],.dT (.v 6) (.AY (.bA .sorted [.lc (.af 6) [(.v 6,.af 4,[.bk .z8 (.aI<|.str [101,114,114,111,114]) (.af 6)])] [6]])<|.aI<|.int<|-2) La.Ge,.gc [6],.jt (.or [.bk .ne (.lO 412 [.af 3,.af 5]) (.af 10),.bk .ne (.lO 259 [.af 3,.af 5]) (.bA .sorted [.lc (.af 6) [(.v 13,.af 10,[]),(.v 6,.af 13,[])] [13,6]])]) [.ret (.aI<|.bool false)] [],.gc [],.jt (.bk .eq (.lc (.af 8) [(.t [8,9],.tO (.af 7)<|.aI<|.int 1,[])] [8,9])<|.aM [.aI (.str [115])]) [La.ZT,.aU (.v 15)<|.lc (.bA .dict [.lc (.aL [.bA .tuple [.lc (.sub (.bG (.af 14) 11)<|.af 16) [(.v 16,.af 6,[])] [16]],.sub (.af 13) (.af 6)]) [(.v 6,.af 13,[])] [6]]) [(.v 13,.lO 412 [.af 14,.af 5],[])] [13],.gc [],.jt (.bk .ne (.af 15)<|.lc (.bA .dict [.lc (.aL [.bA .tuple [.lc (.sub (.bG (.af 3) 11)<|.af 16) [(.v 16,.af 6,[])] [16]],.sub (.af 13) (.af 6)]) [(.v 6,.af 13,[])] [6]]) [(.v 13,.af 10,[])] [13]) [.ret (.aI<|.bool false)] []] [],.gc [14,15],La.Y3,.gc [],.aU (.v 18)<|.lO 419 [.af 3,.af 5],La.ZS,.aU (.t [6,16,14])<|.af 18,.aU (.v 19)<|.bA .tuple [.lc (.sub (.bG (.af 3) 11)<|.af 20) [(.v 20,.af 6,[])] [20]],.gc [20],.ret (.and [.bk .eq (.af 6) (.sub (.af 17)<|.aI<|.int 0),.bk .ne (.bR (.af 16) (.user 4) [])<|.bR (.af 14) (.user 4) [],.bk .eq (.lO 457 [.bR (.af 16) (.user 4) []])<|.af 19,.bk .eq (.lO 457 [.bR (.af 14) (.user 4) []]) (.af 19)])]⟩
section
variable{U Z:Type}[DecidableEq U]
noncomputable def fc(L:List (U×Z))(k:U):Option Z:=(L.find? λe=>decide<|e.1=k).map (·.2)
noncomputable def oh(L:List (U×Z))(k:U)(v:Z):List (U×Z):=
 if L.any (λe=>decide<|e.1=k)then L.map (λe=>if e.1=k then(e.1,v)else e)else L++[(k,v)]
noncomputable def encD(kf:U->KV)(vf:Z->AV)(L:List (U×Z)):List (KV×AV):=L.map λp=>(kf p.1,vf p.2)
variable{kf:U->KV}{vf:Z->AV}
def DS(O:∀a b,kf a=kf b->a=b)(a b):decide (kf a=kf b)=decide (a=b):=dD ⟨O _ _,congrArg kf⟩
def f9(O:∀a b,kf a=kf b->a=b) L k:fP (encD kf vf L) (kf k)=(fc L k).map vf:=L.rec Y λp L M=>by
  simp only [fP,fc,encD,aZ,List.find?_cons,DS O];induction decide (p.1=k)with
  |true=>rfl
  |false=>exact M
def Nx(O:∀a b,kf a=kf b->a=b) L k:(encD kf vf L).any (λe=>decide<|e.1=kf k)=L.any (λe=>decide<|e.1=k):=L.rec Y λp L M=>congr (congrArg or<|DS O ..) M
def jw(O:∀a b,kf a=kf b->a=b) L k v:dput (encD kf vf L) (kf k) (vf v)=encD kf vf (oh L k v):=by
 delta dput oh;refine J (Nx O ..) ?_;by_cases c:L.any (λe=>decide<|e.1=k)=true
 .simp only [au c,encD,bJ];exact aX λp M=>if h:p.1=k then(au<|congrArg kf h).trans (by rw [Function.comp,au h])else(az λe=>h<|O _ _ e).trans (by rw [Function.comp,az h])
 .simp only [az c];exact(aR (l₂:=[(k,v)])).symm
omit [DecidableEq U] in
def l6(O:∀a b,j5 (kf a)=j5 (kf b))(L:List (U×Z))(k:U):ed (kf k) (encD kf vf L)=true:=
 NF λe M=>by obtain⟨p,_,h⟩:=mM M;exact h▸beq_iff_eq.mpr (O p.1 k)
omit [DecidableEq U] in
def gU(L:List (U×Z)):(encD kf vf L).length=L.length:=ag _
omit [DecidableEq U] in
def lY(M:∀b,f7 (vf b)=true)(L:List (U×Z)):jN (encD kf vf L)=true:=by
 induction L with
 |nil=>rfl
 |cons p L O=>exact AL (M p.2) O
end
noncomputable def ki(n:Nat):KV:=.i n
noncomputable def vi(n:Nat):AV:=.int n
def li(l:List Nat):List AV:=l.map vi
def qk(a b)(h:ki a=ki b):a=b:=by injection h with h;exact Int.ofNat.inj h
noncomputable def k3(p:Nat×Nat×Nat):KV:=.t [.int p.1,.int p.2.1,.int p.2.2]
def su(a b)(h:k3 a=k3 b):a=b:=by injection h with h;injection h with h1 h;injection h with h2 h;injection h with h3 _;injection h1 with h1;injection h2 with h2;injection h3 with h3;exact Prod.ext (Int.ofNat.inj h1)<|Prod.ext (Int.ofNat.inj h2)<|Int.ofNat.inj h3
end
section
open Classical PySem
section
variable{U:Type}[DecidableEq U]
noncomputable def lR{U:Type}(L:List (U×Nat))(F:U->Nat):Nat:=(L.map λp=>p.2*F p.1).sum
def wt(L:List (U×Nat))(k:U):Nat:=(fc L k).getD 0
def kc(L:List (U×Nat))(k:U)(v:Nat):List (U×Nat):=oh L k<|wt L k+v
def Nk{U O:Type}(L:List (U×O)):Prop:=(L.map (·.1)).Nodup
omit [DecidableEq U] in
def yt(F:U->Nat):lR ([]:List (U×Nat)) F=0:=rfl
omit [DecidableEq U] in
def i0(p:U×Nat)(L:List (U×Nat))(F:U->Nat):lR (p::L) F=p.2*F p.1+lR L F:=by exact rfl
omit [DecidableEq U] in
def yu(L O:List (U×Nat))(F:U->Nat):lR (L++O) F=lR L F+lR O F:=by simp [lR]
def wh{O} k:fc ([]:List (U×O)) k=none:=rfl
def gR p(L:List (U×O)) k:fc (p::L) k=if p.1=k then some p.2 else fc L k:=by delta fc;by_cases h:p.1=k<;>simp [h]
def fI{L:List (U×M)}:fc L k=none↔k∉L.map (·.1):=L.rec (by simp [wh]) λp L O=>by
  refine J (gR ..) ?_;exact if h:p.1=k then⟨λq=>absurd ((au h).symm.trans q) nofun,λq=>absurd (jn h<|.head _) q⟩else by refine J (az h) ?_;rw [O,aZ,jy,not_or];exact⟨λq=>⟨λe=>h e.symm,q⟩,λq=>q.2⟩
def l7{k:U}{v}(h:fc L k=some v):(k,v)∈L:=by
 induction L with
 |nil=>exact eg h
 |cons p L O=>
  rw [gR] at h;split at h
  .rename_i q;have h:=ak h;exact h▸q▸.head _
  .exact .tail _ (O h)
def fB{L:List (U×M)}(n:Nk L){v}(h:(k,v)∈L):fc L k=v:=by
 induction L with
 |nil=>exact iZ h
 |cons p L O=>
  delta Nk at n;rw [aZ,dZ] at n;refine(gR ..).trans ((mO h).elim (λh=>?_) λh=>?_)
  .refine jn h ?_;simp
  .have:p.1≠k:=λe=>n.1<|J e<|GL ⟨_,h,Y⟩;exact(az this).trans (O n.2 h)
def yW{O:Type}(L:List (U×O)) k:(L.any λe=>decide<|e.1=k)=true↔k∈L.map (·.1):=by refine List.any_eq_true.trans ?_;simp only [cy,List.mem_map]
def kb{k:U}(h:k∉L.map (·.1))(v:O):oh L k v=L++[(k,v)]:=by delta oh;rw [az];rw [yW];exact h
def xH p L(k:U)(v:N)(n:Nk (p::L)):oh (p::L) k v=if p.1=k then(k,v)::L else p::oh L k v:=by
 delta Nk at n;rw [aZ,dZ] at n;delta oh;by_cases h:p.1=k
 .have O:∀e∈L,(if e.1=k then(e.1,v)else e)=e:=λe M=>by
   rw [az];exact λq=>n.1 (by simp only [h,<-q];exact GL ⟨_,M,Y⟩)
  simp only [List.any_cons,h,decide_true,Bool.true_or,if_true,aZ];exact congrArg _<|(aX O).trans<|List.map_id _
 .simp only [List.any_cons,h,decide_false,Bool.false_or,if_false,aZ];split<;>rfl
def sM L(k:U)(v:O):(oh L k v).map (·.1)=if k∈L.map (·.1)then L.map (·.1)else L.map (·.1)++[k]:=by
 delta oh;by_cases h:k∈L.map (·.1)
 .refine J (au<|(yW L k).mpr h) (bV (au h) bJ ?_);apply aX;intro p _;dsimp only [Function.comp];split<;>rfl
 .refine bV (az λq=>h<|(yW L k).mp q) (az h) ?_;simp
def um{L}(n:Nk L)(k:U)(v:N):Nk (oh L k v):=by
 delta Nk at n⊢;refine J (sM ..) ?_;split
 .exact n
 .rename_i h;rw [List.nodup_append];refine⟨n,by simp,λa O b M=>?_⟩;intro e;simp only [e,mS M] at O;exact h O
def pj{L}(n:Nk L) k(v:P)(O:U):fc (oh L k v) O=if O=k then some v else fc L O:=by
 induction L with
 |nil=>exact J (kb (by simp) _)<|J (List.nil_append _)<|J (gR ..) (if h:O=k then(by simp [h])else bV (az λe=>h e.symm) (az h) Y)
 |cons p L D=>
  have N:Nk L:=by delta Nk at n⊢;rw [aZ,dZ] at n;exact n.2
  refine J (xH p L k v n) ?_;by_cases h:p.1=k
  .exact J (au h) ((gR ..).trans<|J (gR ..) (if M:O=k then(by simp [M])else bV (az λe=>M e.symm) (az M) (J (az λe=>M<|Eq.trans (Eq.symm e) h) Y)))
  .refine J (az h) ((gR ..).trans<|bV (gR ..) (D N) ?_);by_cases M:O=k
   .refine J M ?_;simp [h]
   .by_cases H:p.1=O<;>simp [H,M]
def Mp(n:Nk L) k v(F:U->Nat):lR (oh L k v) F+wt L k*F k=lR L F+v*F k:=by
 induction L with
 |nil=>refine J (kb (by simp) _) ?_;simp [lR,wt,wh]
 |cons p L M=>
  have O:Nk L:=by delta Nk at n⊢;rw [aZ,dZ] at n;exact n.2
  refine J (xH p L k v n) ?_;delta wt;refine J (gR ..) ?_;exact if h:p.1=k then wo (au h) (au h) (i0 ..) (J (i0 ..)<|jn h<|bH (lq [_,_,_] [] (.a (.a ax aE) a7) (.a (.a a7 aE) ax) Y)<|lq [_,_,_] [] (.a (.a ax aE) a7) (.a (.a a7 aE) ax) Y)else by refine bV (az h) (az h)<|bV (i0 ..) (i0 ..) ?_;have:=M O;exact bH (lq [_,_,_,_,_] [.q 1 (.a aE a7) (.a cz g7)] (.a (.a ax aE) a7) (.a (.a ax cz) g7) Y this)<|lq [_,_,_,_,_] [.p 1 (.a cz g7) (.a aE a7)] (.a (.a ax aE) a7) (.a (.a ax cz) g7) Y this
def t6(n:Nk L) k v(F:U->Nat):lR (kc L k v) F=lR L F+v*F k:=by have:=Mp n k (wt L k+v) F;simp only [Nat.add_mul] at this;exact bH (lq [_,_,_,_] [.q 1 (.a ax cz) (.a aE<|.a cz a7)] ax (.a aE a7) Y this)<|lq [_,_,_,_] [.p 1 (.a a7 cz) (.a ax<|.a cz aE)] (.a ax aE) a7 Y this
def rP(n:Nk L)(k:U) v:Nk (kc L k v):=um n k _
def DO(n:Nk L) k(F:U->Nat)(h:∀a,a≠k->F a=0):lR L F=wt L k*F k:=by
 induction L with
 |nil=>simp [lR,wt,wh]
 |cons p L M=>
  have O:Nk L:=by delta Nk at n⊢;rw [aZ,dZ] at n;exact n.2
  refine(i0 ..).trans ?_;delta wt;refine J (gR ..) ?_;by_cases e:p.1=k
  .refine bV (au e) (M O) ?_
   have:wt L k=0:=by
    delta wt;rw [fI.mpr]
    .rfl
    .delta Nk at n;rw [aZ,dZ] at n;exact jn e n.1
   refine bV this e ?_;simp
  .exact wo (az e) (h _ e) (M O) (Nat.add_eq_right.mpr Y)
omit [DecidableEq U] in
def xe{L:List (U×Nat)}{F G:U->Nat}(h:∀p∈L,F p.1=G p.1):lR L F=lR L G:=by unfold lR;congr 1;apply aX;intro p O;rw [h p O]
omit [DecidableEq U] in
def BW{L:List (U×Nat)}{p:U×Nat}(h:p∈L)(F:U->Nat):p.2*F p.1<=lR L F:=by
 induction L with
 |nil=>cases h
 |cons q L O=>
  rw [i0];rcases mO h with h|h
  .subst h;exact aw (p.snd*F p.fst)<|lR L F
  .have:=O h;exact Nat.le_add_left_of_le<|O h
end
noncomputable def gk(i e:Nat)(f:Nat->Nat):Nat:=((List.range<|e+1-i).map λk=>f<|i+k).sum
def sum_map_add{U:Type}(l:List U)(f g:U->Nat):(l.map λk=>f k+g k).sum=(l.map f).sum+(l.map g).sum:=l.rec Y λa l O=>J aZ<|List.sum_cons.trans<|J O<|Nat.add_add_add_comm (f a) (g a) (List.map f l).sum (List.map g l).sum
def sR{U:Type}(l:List U) c(f:U->Nat):(l.map λk=>c*f k).sum=c*(l.map f).sum:=l.rec Y λa l O=>by simp only [aZ,fh,O,gy]
def md{U:Type}(l:List U)(f g:U->Nat)(h:∀x∈l,f x<=g x):(l.map f).sum<=(l.map g).sum:=by
 induction l with
 |nil=>exact aS _
 |cons a l O=>exact J aZ<|eO (h a<|.head _)<|O λx M=>h x<|.tail _ M
def sum_map_congr{U:Type}(l:List U)(f g:U->Nat)(h:∀x∈l,f x=g x):(l.map f).sum=(l.map g).sum:=jn (aX h) Y
def gj{U:Type}(l:List U) f(h:∀x∈l,f x=0):(l.map f).sum=0:=by
 induction l with
 |nil=>rfl
 |cons a l O=>exact J aZ<|J fh<|bV (h a<|.head _) (O λx M=>h x<|.tail _ M) Y
def Hc{O U:Type}(l:List O)(m:List U)(f:O->U->Nat):(l.map λx=>(m.map λy=>f x y).sum).sum=(m.map λy=>(l.map λx=>f x y).sum).sum:=l.rec (by simp;exact(gj m _ λM M=>rfl).symm) λa l N=>J aZ<|J fh<|bV (sum_map_add ..) N Y
def xS{U:Type}{l:List U}{x}(h:x∈l)(f:U->Nat):f x<=(l.map f).sum:=by
 induction l with
 |nil=>exact iZ h
 |cons a l O=>exact(mO h).elim (λh=>jn h<|aw (f x) (List.map f l).sum) λh=>by have:=O h;exact Nat.le_add_left_of_le<|O h
def iC{U:Type}(l:List U) f c(h:∀x∈l,f x<=c):(l.map f).sum<=l.length*c:=by
 induction l with
 |nil=>simp
 |cons a l O=>exact J aZ<|bV fh bj<|aa (eO (h a<|.head _)<|O λx M=>h x<|.tail _ M)<|aG<|(ck ..).trans (Nat.succ_mul ..).symm
def C3{U:Type}[DecidableEq U]{l:List U}(n:l.Nodup){x:U}(M:x∈l)(f:U->Nat)(h:∀y∈l,y≠x->f y=0):(l.map f).sum=f x:=by
 induction l with
 |nil=>exact iZ M
 |cons a l N=>
  rw [dZ] at n;refine J aZ<|J fh ?_;by_cases e:a=x
  .subst e;exact J (gj l f λy O=>h y (.tail _ O) λq=>n.1<|jn q O) Y
  .exact bV (h a (.head _) e) (N n.2 (by rcases mO M with q|q;exact(e q.symm).elim;exact q) λy O=>h y<|.tail _ O) (bu<|f x)
def dQ{i e}{f g}(h:∀k,i<=k->k<=e->f k=g k):gk i e f=gk i e g:=
 sum_map_congr _ _ _ λk O=>h _ (aw i k) (by have:=mR O;exact(Nat.le_total ..).elim (λU=>lq [_,_,_,_] [aH (.s aE) cz,aH (.a cz ax) (.s a7)] (.a ax aE) a7 Y this (aG<|a9<|lq [_,_] [aH ax (.s aE)] ax (.s aE) Y U)) λU=>lq [_,_,_,_] [aH (.s aE) cz,aH (.a cz ax) (.s a7)] (.a ax aE) a7 Y this (aG<|a9<|tH [_,_] [aH (.s ax) aE,.q 1 aE (.c 0)] Y this (gM U)))
def uF(i e)(f g):gk i e (λk=>f k+g k)=gk i e f+gk i e g:=sum_map_add ..
def uE(i e c) f:gk i e (λk=>c*f k)=c*gk i e f:=sR ..
def ja(h:∀k,i<=k->k<=e->f k=0):gk i e f=0:=
 gj _ _ λk O=>h _ (aw i k) (by have:=mR O;exact(Nat.le_total ..).elim (λU=>lq [_,_,_,_] [aH (.s aE) cz,aH (.a cz ax) (.s a7)] (.a ax aE) a7 Y this (aG<|a9<|lq [_,_] [aH ax (.s aE)] ax (.s aE) Y U)) λU=>lq [_,_,_,_] [aH (.s aE) cz,aH (.a cz ax) (.s a7)] (.a ax aE) a7 Y this (aG<|a9<|tH [_,_] [aH (.s ax) aE,.q 1 aE (.c 0)] Y this (gM U)))
def LD(U:i<=j)(O:j<=e) f:f j<=gk i e f:=by have:=xS (l:=List.range<|e+1-i) (x:=j-i) (Ii<|lq [_,_,_,_,_] [aH a7 cz,aH (.s cz)<|.a aE g7,aH (.a ax g7) a7] (.s ax) aE Y O (wB ..) (aG<|a9<|lq [_,_] [aH ax aE] ax aE Y U)) λk=>f<|i+k;exact(jn (fU U) this)
def nB(U:i<=j)(D:j<=e) f(h:∀k,i<=k->k<=e->k≠j->f k=0):gk i e f=f j:=by have:=C3 (l:=List.range<|e+1-i) iq (x:=j-i) (Ii<|lq [_,_,_,_,_] [aH a7 cz,aH (.s cz)<|.a aE g7,aH (.a ax g7) a7] (.s ax) aE Y D (wB ..) (aG<|a9<|lq [_,_] [aH ax aE] ax aE Y U)) (λk=>f<|i+k) λy H O=>h _ (aw i y) (by have:=mR H;exact lq [_,_,_,_] [aH (.s aE) cz,aH (.a cz ax) (.s a7)] (.a ax aE) a7 Y this (aG<|a9<|lq [_,_,_] [aH ax a7,aH a7 aE] ax (.s aE) Y U D)) λN=>(Nat.lt_or_gt_of_ne O).elim (λM=>tH [_,_,_,_] [.p 1 (.a ax aE) a7,aH (.s aE) cz,aH (.a cz ax) a7] Y N M (aG<|a9<|lq [_,_] [aH ax aE] ax aE Y U)) λM=>tH [_,_,_,_] [.q 1 (.a ax aE) a7,aH (.s cz) aE,aH a7 (.a cz ax)] Y N M (wB ..);exact(jn (fU U) this)
noncomputable def mX{U:Type}(K:U->Nat->Nat->Nat):List U->Nat->Nat->Nat
 |[],i,e=>if i=e then 1 else 0
 |x::r,i,e=>gk i e λg=>K x i g*mX K r g e
def sum_filter{O:Type}{l:List O}{p}{f}(U:∀x∈l,p x=false->f x=0):((l.filter p).map f).sum=(l.map f).sum:=by
 induction l with
 |nil=>rfl
 |cons a l M=>
  simp only [df,aZ,fh,<-M λx N=>U x (.tail _ N)];induction h:p a with
  |true=>rfl
  |false=>exact J (U a (.head _) h)<|J (bu _) Y
def Lg{U:Type}[DecidableEq U]{l m:List U}(f:U->Nat)(H:l.Nodup)(D:m.Nodup)(N:∀x∈m,x∈l)(O:∀x∈l,x∉m->f x=0):(m.map f).sum=(l.map f).sum:=
 (List.Perm.sum_nat<|List.Perm.map f<|(fq (H.sublist fx) D).mpr λx=>List.mem_filter.trans ⟨λh=>aB h.2,λh=>⟨N x h,aq h⟩⟩).symm.trans (sum_filter λx M h=>O x M<|of_decide_eq_false h)
def pB{l:List Nat}{n}(h:l.Nodup)(k:∀x∈l,x<n):l.length<=n:=aO (n:=n)▸h.length_le_of_subset λx U=>Ii<|k x U
def sf{M:Type}{l:List M}{n}(f:M->Nat)(h:l.Nodup)(H:∀a∈l,∀b∈l,f a=f b->a=b)(N:∀a∈l,f a<n):l.length<=n:=
 ag f▸pB (List.nodup_iff_pairwise_ne.mpr<|List.pairwise_map.mpr<|(List.nodup_iff_pairwise_ne.mp h).imp_of_mem λO L U e=>U<|H _ O _ L e) λk D=>by obtain⟨a,O,e⟩:=mM D;exact jn e<|N a O
def BL{L:List (U×N)}(f:U->Nat)(h:Nk L)(M:∀a∈L.map (·.1),∀b∈L.map (·.1),f a=f b->a=b)(O:∀a∈L.map (·.1),f a<n):L.length<=n:=aa (aG (ag _).symm)<|sf f h M O
def pk{b d:Nat}(U:b<n)(O:d<n)(e:n*a+b=n*c+d):a=c/\b=d:=
 have h:b=d:=by have:=congrArg (· %n) e;simpa only [Nat.mul_add_mod,Nat.mod_eq_of_lt U,Nat.mod_eq_of_lt O] using this
 ⟨Nat.eq_of_mul_eq_mul_left (Nat.zero_lt_of_lt U)<|Nat.add_right_cancel<|h▸e,h⟩
def Dq{a b:Nat}(U:b<n)(O:a<m):n*a+b<n*m:=aJ (cc U _)<|cI n O
inductive Ki(ρ:En)(s:St):En->St->Prop
 |mk:Ki ρ s ρ s
def Wp{U:Type}(o:Option U)(P:U->Prop):Prop:=∃a,o=some a/\P a
def Wp.mk(h:P a):Wp (some a) P:=⟨a,Y,h⟩
def Wp.mono(h:Wp o P)(k:∀a,P a->Q a):Wp o Q:=by obtain⟨a,e,p⟩:=h;exact⟨a,e,k a p⟩
theorem Wp.bind(h:Wp o P)(k:∀a,P a->Wp (f a) Q):Wp (o.bind f) Q:=by refine h.elim λa U=>U.elim λO p=>?_;exact J O<|k a p
@[simp] def WN:Wp (some a) P↔P a:=⟨λO=>O.elim λb U=>U.elim λe h=>by refine J (ak e) ?_;exact h,Wp.mk⟩
@[simp] def j9:bZ Φ M (.af x) U O=match U[x]? with|some (some a)=>some (a,O)|_=>none:=by dsimp only [bZ];try rfl
@[simp] def cD{a}:bZ Φ M (.aI a) O U=(a,U):=rfl
@[simp] def Yt{n}:bZ Φ M (.wJ n) O U=(TB.glob n).bind λa=>some (a,U):=rfl
@[simp] def sF:bZ Φ M (.aL N) U O=(gP Φ M N U O).bind λp=>if p.1.length<=lim then some (.aL p.1,p.2)else none:=rfl
@[simp] def kL{U}:bZ Φ ro (.aM U) ρ st=(gP Φ ro U ρ st).bind λp=>if p.1.length<=lim then some (.ref p.2.length,p.2++[.L p.1])else none:=rfl
@[simp] def MV{U}:bZ Φ N (.Fj U) O M=(gP Φ N U O M).bind λp=>if decide (p.1.length<=lim)&&gD p.1 then some (.aM p.1,p.2)else none:=rfl
@[simp] def n9:bZ Φ N (.bK U) O M=(W7 Φ N U O M).bind λp=>some (.ref p.2.length,p.2++[.D p.1]):=rfl
@[simp] def RD:bZ Φ O (.b6 o a b) U M=(bZ Φ O a U M).bind λp=>(bZ Φ O b U p.2).bind λq=>mT q.2 o p.1 q.1:=rfl
@[simp] def RA:bZ Φ O (.bk o a b) U M=(bZ Φ O a U M).bind λp=>(bZ Φ O b U p.2).bind λq=>(jc q.2 o p.1 q.1).bind λr=>some (.bool r,q.2):=rfl
@[simp] def yJ:bZ Φ M (.and N) U O=(nS Φ M true N U O).bind λp=>some (.bool p.1,p.2):=rfl
@[simp] def Ot:bZ Φ M (.or N) U O=(nS Φ M false N U O).bind λp=>some (.bool p.1,p.2):=rfl
@[simp] def Rx:bZ Φ M (.not e) U O=(bZ Φ M e U O).bind λp=>(mJ p.1).bind λb=>some (.bool<|!b,p.2):=rfl
@[simp] def Rz:bZ Φ O (.ite c a b) U M=(bZ Φ O c U M).bind λp=>(mJ p.1).bind λt=>if t then bZ Φ O a U p.2 else bZ Φ O b U p.2:=rfl
@[simp] def Rr:bZ Φ O (.sub o i) U M=(bZ Φ O o U M).bind λp=>(bZ Φ O i U p.2).bind λq=>(subQ q.2 p.1 q.1).bind λr=>some (r,q.2):=rfl
@[simp] def Rw:bZ Φ O (.AY o i) U M=(bZ Φ O o U M).bind λp=>(bZ Φ O i U p.2).bind λq=>(j6 q.1).bind λn=>nc q.2 p.1 (.m5 n):=rfl
@[simp] def Ru:bZ Φ O (.tO o i) U M=(bZ Φ O o U M).bind λp=>(bZ Φ O i U p.2).bind λq=>(j6 q.1).bind λn=>nc q.2 p.1 (.to n):=rfl
@[simp] def Rv{o}:bZ Φ M (.GJ o) U O=(bZ Φ M o U O).bind λp=>nc p.2 p.1 .rev:=rfl
@[simp] def RE:bZ Φ M (.bG o f) U O=(bZ Φ M o U O).bind λp=>(og p.2 p.1 f).bind λr=>some (r,p.2):=rfl
@[simp] def RB:bZ Φ U (.lO f args) O M=(gP Φ U args O M).bind λp=>Φ U f p.1 p.2:=rfl
@[simp] def Ed:bZ Φ M (.vR f args) N U=(gP Φ M args N U).bind λp=>(cY (iH p.2 U.length 6) p.1).bind λD=>(gG p.2 U.length 6 U p.2).bind λO=>Φ M f D O:=rfl
@[simp] def Ju:bZ Φ M (.new c args keep) N D=(gP Φ M args N D).bind λp=>(TB.init c).bind λf=>
   (Φ M f (.ref p.2.length::p.1)<|p.2++[.O c []]).bind λr=>if !lS r.1 then none else if keep then some (.ref p.2.length,r.2)else
    (iH r.2 p.2.length 6<|.ref p.2.length).bind λa=>(gG r.2 p.2.length 6 p.2 r.2).bind λU=>some (a,U):=rfl
@[simp] def RC:bZ Φ M (.bA b args) U O=(gP Φ M args U O).bind λp=>ku p.2 b p.1:=rfl
def Ry(N:∀n,m≠.user n):bZ Φ U (.bR o m args) O M=(bZ Φ U o O M).bind λp=>if hY p.2 m p.1 then(gP Φ U args O p.2).bind λq=>mP U q.2 m p.1 q.1 else none:=by induction m<;>first|exact(N _ Y).elim|exact rfl
@[simp] def Yw:bZ Φ U (.bR o .append args) O M=(bZ Φ U o O M).bind λp=>if hY p.2 .append p.1 then(gP Φ U args O p.2).bind λq=>mP U q.2 .append p.1 q.1 else none:=rfl
@[simp] def Ys:bZ Φ U (.bR o .pop args) O M=(bZ Φ U o O M).bind λp=>if hY p.2 .pop p.1 then(gP Φ U args O p.2).bind λq=>mP U q.2 .pop p.1 q.1 else none:=rfl
@[simp] def Yv:bZ Φ U (.bR o .extend args) O M=(bZ Φ U o O M).bind λp=>if hY p.2 .extend p.1 then(gP Φ U args O p.2).bind λq=>mP U q.2 .extend p.1 q.1 else none:=rfl
@[simp] def VB:bZ Φ U (.bR o .index args) O M=(bZ Φ U o O M).bind λp=>if hY p.2 .index p.1 then(gP Φ U args O p.2).bind λq=>mP U q.2 .index p.1 q.1 else none:=rfl
@[simp] def Yu:bZ Φ U (.bR o .get args) O M=(bZ Φ U o O M).bind λp=>if hY p.2 .get p.1 then(gP Φ U args O p.2).bind λq=>mP U q.2 .get p.1 q.1 else none:=rfl
@[simp] def W6:bZ Φ U (.bR o .eG args) O M=(bZ Φ U o O M).bind λp=>if hY p.2 .eG p.1 then(gP Φ U args O p.2).bind λq=>mP U q.2 .eG p.1 q.1 else none:=rfl
@[simp] def MU:bZ Φ U (.bR o (.user n) args) O M=(bZ Φ U o O M).bind λp=>(Pk p.2 p.1 n).bind λf=>(gP Φ U args O p.2).bind λq=>Φ U f (p.1::q.1) q.2:=rfl
@[simp] def Eb:bZ Φ U (.lc elt ((t,N,ifs)::D) own) O st=(bZ Φ U N O st).bind λp=>(dR U p.2 p.1).bind λq=>
    (lr t (nS Φ U true ifs) (FO Φ U (λO st=>(bZ Φ U elt O st).bind<|lM p.2.length) D) q.2 q.1 (dO own O)<|p.2++[.L []]).bind λM=>some (.ref p.2.length,M):=rfl
@[simp] def VD:bZ Φ O (.dc k v t N ifs own) U st=(bZ Φ O N U st).bind λp=>(dR O p.2 p.1).bind λq=>
    (lr t (nS Φ O true ifs) (λU st=>(bZ Φ O k U st).bind λa=>(bZ Φ O v U a.2).bind λb=>xv p.2.length a.1 b.1 b.2) q.2 q.1 (dO own U)<|p.2++[.D []]).bind λM=>some (.ref p.2.length,M):=rfl
@[simp] def m6:gP Φ ro [] ρ st=some ([],st):=rfl
@[simp] def Jr:gP Φ O (e::N) U M=(bZ Φ O e U M).bind λp=>(gP Φ O N U p.2).bind λq=>some (p.1::q.1,q.2):=rfl
@[simp] def n8:nS Φ M c [] O U=(c,U):=rfl
@[simp] def j8:nS Φ O c (e::N) U M=(bZ Φ O e U M).bind λp=>(mJ p.1).bind λb=>if b==c then nS Φ O c N U p.2 else some (b,p.2):=rfl
@[simp] def uf:W7 Φ M [] O U=some ([],U):=rfl
@[simp] def W5:W7 Φ O [(k,v)] U M=(bZ Φ O k U M).bind λp=>(bZ Φ O v U p.2).bind λq=>(l9 p.1).bind λN=>some ([(N,q.1)],q.2):=rfl
@[simp] def MT:FO Φ M emit [] U O=emit U O:=rfl
@[simp] def Js:FO Φ U emit ((t,N,ifs)::D) O M=(bZ Φ U N O M).bind λp=>(dR U p.2 p.1).bind λq=>lr t (nS Φ U true ifs) (FO Φ U emit D) q.2 q.1 O p.2:=rfl
@[simp] def Sf{b}:mJ (.bool b)=b:=rfl
@[simp] def Xg:nr x a U=if x<U.length then some (U.set x a)else none:=rfl
@[simp] def YO{x}{a}:fQ O (.v x) a U=nr x a U:=rfl
@[simp] def YQ:fQ N (.t M) a O=match vw N a with| .T U=>fX M U O| .L U=>fX M U O|_=>none:=rfl
@[simp] def Su:fX [] [] U=some U:=rfl
@[simp] def OP:fX (x::O) (a::M) U=(nr x a U).bind (fX O M):=rfl
@[simp] def R3:dO [] U=U:=rfl
@[simp] def OC{x}{U}:dO (x::U) O=dO U (O.set x none):=rfl
@[simp] def RF:Ak Φ N (.v x) a O M=(nr x a O).bind λU=>some (U,M):=rfl
@[simp] def RG:Ak Φ D (.t N) a M O=(fQ O (.t N) a M).bind λU=>some (U,O):=rfl
def Lm:Lo O U (.ref n) f a=(U[n]?).bind (PK O U n f a):=rfl
def C5:Lj O U (.ref n) i a=(U[n]?).bind (Lk O U n i a):=rfl
@[simp] def Jv:Ak Φ O (.bG o f) a U M=(bZ Φ O o U M).bind λp=>(Lo O p.2 p.1 f a).bind λs=>some (U,s):=by dsimp only [Ak]
@[simp] def Aj:Ak Φ O (.sub o i) a U M=(bZ Φ O o U M).bind λp=>(bZ Φ O i U p.2).bind λq=>(Lj O q.2 p.1 q.1 a).bind λs=>some (U,s):=by dsimp only [Ak]
@[simp] def vF:Al Φ O N D (.aU t e) U M=(bZ Φ O e U M).bind λp=>(Ak Φ O t p.1 U p.2).bind λr=>some (.next,r):=rfl
@[simp] def RK:Al Φ M N D (.exp e) U O=(bZ Φ M e U O).bind λp=>some (.next,U,p.2):=rfl
@[simp] def RJ:Al Φ O N D (.jt c a b) U M=(bZ Φ O c U M).bind λp=>(mJ p.1).bind λt=>if t then cg Φ O N D a U p.2 else cg Φ O N D b U p.2:=by
 dsimp only [Al,j8,n8];induction bZ Φ O c U M with
 |none=>rfl
 |some p=>
  dsimp only [Option.bind_some];induction mJ p.1 with
  |none=>rfl
  |some b=>induction b<;>rfl
@[simp] def Jx:Al Φ M N H (.dT t D body) U O=(bZ Φ M D U O).bind λp=>(dR M p.2 p.1).bind λq=>
   my (λx U O=>fQ O t x U) (cg Φ M N p.2.length body) q.2 q.1 U p.2:=rfl
@[simp] def RH:Al Φ M N D (.A4 c body) O U=wR (λO U=>(bZ Φ M c O U).bind λp=>(mJ p.1).bind λb=>some (b,p.2)) (cg Φ M N U.length body) N O U:=by
 dsimp only [Al];congr 1
 funext O U
 simp only [j8,n8];induction bZ Φ M c O U with
 |none=>rfl
 |some p=>
  dsimp only [Option.bind_some];induction mJ p.1 with
  |none=>rfl
  |some b=>induction b<;>rfl
@[simp] def RI:Al Φ M N D (.ret e) U O=(bZ Φ M e U O).bind λp=>some (.ret p.1,U,p.2):=rfl
@[simp] def W9:Al Φ M N D .cont U O=some (.cont,U,O):=rfl
@[simp] def RL:Al Φ M N D (.jU d) U O=some (.next,dO d U,O):=rfl
def Ou:Al Φ L N D (.gc d) H M=(Ah M D d H).bind λU=>(cY (jT M D 6)<|M.take D).bind λO=>some (.next,U,O):=rfl
@[simp] def W8:cg Φ M N D [] U O=some (.next,U,O):=rfl
theorem Jw:cg Φ U N O (s::H) M D=(Al Φ U N O s M D).bind λr=>match r.1 with
  | .next=>cg Φ U N O H r.2.1 r.2.2
  |_=>some r:=by dsimp only [cg];try rfl
def pn(h:Wp (Al Φ U N M s D H) λr=>match r.1 with| .next=>Wp (cg Φ U N M L r.2.1 r.2.2) Q|_=>Q r):Wp (cg Φ U N M (s::L) D H) Q:=by refine h.bind λr O=>?_;obtain⟨o,r⟩:=r;induction o<;>first|exact O|exact Wp.mk O
def lP(h:Al Φ M N D s H L=some (.next,U,O))(k:Wp (cg Φ M N D P U O) Q):Wp (cg Φ M N D (s::P) H L) Q:=J Jw<|J h k
section
variable{U:En->St->Option (Out×En×St)}{r:Out×En×St}
def Om(e0:asg x N s=some O)(L:U O s=r)(h:r.1=.next\/r.1=.cont)(H:cT r.2.2 M):my asg U M (x::D) N s=my asg U M D r.2.1 r.2.2:=by simp only [my,e0,L,Option.bind_some];refine h.elim (λh=>?_) λh=>?_<;>refine J h ?_<;>exact au H
def Rm(e0:asg x M s=some O)(N:U O s=r)(h:r.1=.ret v):my asg U H (x::D) M s=r:=by obtain⟨o,p⟩:=r;rw [my,e0,Option.bind_some,N,Option.bind_some,show o=.ret v from h]
end
def O6{α:Type}{step} enc(I:List α->En->St->Prop){l}(M:I [] ρ st)
  (h:∀done x rest ρ st,l=done++x::rest->I done ρ st->Wp ((asg (enc x) ρ st).bind λU=>step U st) λr=>(r.1=.next\/r.1=.cont)/\cT r.2.2 D/\I (done++[x]) r.2.1 r.2.2):
  Wp (my asg step D (l.map enc) ρ st) λr=>r.1=.next/\I l r.2.1 r.2.2:=by
 have N:∀(r d:List α) ρ (st:St),l=d++r->I d ρ st->Wp (my asg step D (r.map enc) ρ st) λr=>r.1=.next/\I l r.2.1 r.2.2:=λr=>r.rec (λd ρ st e M=>Wp.mk ⟨Y,J e<|J (aC _) M⟩) λx r H=>by refine λd ρ st el M=>(h d x r ρ st el M).elim λo O=>O.elim λe O=>O.elim λQ O=>O.elim λP L=>?_;obtain⟨U,B,X⟩:=qb e;exact J aZ<|J (Om B X Q P)<|H (d++[x]) _ _ (el.trans<|ji ..) L
 exact N l [] ρ st Y M
def O3{step}(I:Nat->En->St->Prop)
  (h:∀k ρ st,I k ρ st->Wp (test ρ st) λp=>if p.1 then(∃j,k=j+1)/\Wp (step ρ p.2) λr=>(r.1=.next\/r.1=.cont)/\∃j,j<k/\I j r.2.1 r.2.2 else Q (.next,ρ,p.2)):
  ∀{n k} {ρ} {st},k<n->I k ρ st->Wp (wR test step n ρ st) Q:=by
 intro n;induction n with
 |zero=>intro k ρ st N;exact tH [_] [aH (.s ax) (.c 0)] Y N
 |succ n D=>
  intro k ρ st N L;obtain⟨p,e,O⟩:=h k ρ st L;simp only [wR,e,Option.bind_some];by_cases c:p.1=true
  .rw [au c] at O⊢;refine O.2.elim λr U=>U.elim λX U=>U.elim λM U=>U.elim λj U=>U.elim λH P=>J X<|J (Option.bind_some ..) ?_;have:=D (aa H<|aK N) P;rcases M with M|M<;>refine J M ?_<;>exact this
  .rw [az c] at O⊢;exact Wp.mk O
def GS{α:Type}{t}{chk}{inner}{N} enc(I:List α->St->Prop):
  ∀{l} {ρ} {st},I [] st->
  (∀done x rest st,l=done++x::rest->I done st->Wp ((fQ st t (enc x) ρ).bind λO=>(chk O st).bind λp=>if p.1 then inner O p.2 else some p.2) λU=>cT U N/\I (done++[x]) U)->
  Wp (lr t chk inner N (l.map enc) ρ st) λU=>I l U:=by
 have H:∀(l done:List α) ρ (st:St),I done st->
  (∀d x rest st,l=d++x::rest->I (done++d) st->Wp ((fQ st t (enc x) ρ).bind λO=>(chk O st).bind λp=>if p.1 then inner O p.2 else some p.2) λU=>cT U N/\I (done++d++[x]) U)->
  Wp (lr t chk inner N (l.map enc) ρ st) λU=>I (done++l) U:=λl=>l.rec (by intro done ρ st M _;exact Wp.mk<|J (aC _) M) λx l Q=>by
   refine λdone ρ st M h=>(h [] x l st Y (J (aC _) M)).elim λU D=>D.elim λe D=>D.elim λB P=>?_;rw [aC] at P;obtain⟨O,q,w⟩:=qb e;obtain⟨p,j,A⟩:=qb w;simp only [aZ,lr,q,j,A,Option.bind_some,au B]
   have:=Q (done++[x]) ρ U P λd y rest st X L=>by have:=h (x::d) y rest st (J X Y) (by rw [aj] at L;exact L);exact J (aj done [x] d) this
   rw [aj] at this;exact this
 intro l ρ st M h;have:=H l [] ρ st M h;exact this
@[simp] def gn(st cs:St) c:(st++c::cs)[st.length]? =c:=by simp
@[simp] def gx(st cs:St) k:(st++cs)[st.length+k]? =cs[k]? :=by refine(br<|aw (List.length st) k).trans ?_;refine congrArg _ ?_;exact iO (List.length st) k
@[simp] def rW(U O:St)(c d):(U++c::O).set U.length d=U++d::O:=by simp
@[simp] def sx(st cs:St) k d:(st++cs).set (st.length+k) d=st++cs.set k d:=by refine(gN _ _<|aw (List.length st) k).trans ?_;congr 2;exact iO (List.length st) k
def Cl(st:St):Prop:=∀c∈st,gp st.length c=true
@[simp] def U5{O U}(f:O->Option U):cY f []=some []:=rfl
@[simp] def dq(f:N->Option M) x U:cY f (x::U)=(f x).bind λy=>(cY f U).bind λO=>some (y::O):=rfl
def q5(f:D->Option N)(O U):cY f (O++U)=(cY f O).bind λa=>(cY f U).bind λb=>some (a++b):=O.rec (by show cY f U=(cY f U).bind λb=>some b;induction cY f U<;>rfl) λx O M=>by exact J fa<|J (dq ..)<|J M<|J (dq ..)<|J (iU ..)<|congrArg _<|funext λy=>bV (iU ..) (iU ..)<|congrArg _<|funext λz=>(iU ..).trans Y
def l5:(∀x∈U,f x=some x)->cY f U=U:=U.rec (λN=>rfl) λx U O h=>(dq ..).trans<|bV (h x<|.head _) (O λy M=>h y<|.tail _ M) Y
def vV(h:k<=l):below k a=true->below l a=true:=tV (u3 h) a
def OL{k l}(h:k<=l){U}:belows k U=true->belows l U=true:=uG (u3 h) U
def dz{k}{a}:f7 a=true->below k a=true:=tV (λU=>nb) a
def dB{k}{U}:gD U=true->belows k U=true:=uG (λO=>nb) U
def OK{k l}(h:k<=l){U}:lF k U=true->lF l U=true:=oC (u3 h) U
def OM{k l}(h:k<=l){U}:mK k U=true->mK l U=true:=oC (u3 h) U
def fL{k}{U}:jN U=true->lF k U=true:=oC (λO=>nb) U
def oW{k l}(h:k<=l){c}(x:gp k c=true):gp l c=true:=xE h x
def dK{c}(h:gp M c=true):jT s M d c=c:=by
 induction c with
 |L U=>show(if belows M U then _ else _)=_;exact au h
 |D U=>show(if lF M U then _ else _)=_;exact au h
 |O _ U=>show(if mK M U then _ else _)=_;exact au h
def Cl.iH{U s:St}(M:Cl U){k d}:cY (jT s (U.length+k) d) U=U:=
 l5 λc O=>dK<|oW (aw ..)<|M c O
def Cl.Yq(O:Cl U):cY (jT s U.length d) U=U:=O.iH (k:=0)
def Cl.app(N:Cl U)(h:∀c∈O,gp (U.length+O.length) c=true):Cl (U++O):=by exact λc M=>J ae<|(mA M).elim (λD=>oW (aw ..)<|N c D)<|h c
def b8(h:below U a=true):iH s U d a=a:=d.casesOn (au h) λd=>au h
@[simp] def Sj{k}:below k .none=true:=rfl
@[simp] def Sk{k}{b}:below k (.bool b)=true:=rfl
@[simp] def TC{k}{i}:below k (.int i)=true:=rfl
@[simp] def Tw{k}{i}:below k (.str i)=true:=rfl
@[simp] def TA{k}{i}:below k (.aM i)=true:=rfl
@[simp] def TF{k}{i}:below k (.bK i)=true:=rfl
@[simp] def Tz{k c}{i}:below k (.obj c i)=true:=rfl
@[simp] def Tx{k}{i j}:below k (.sS i j)=true:=rfl
@[simp] def Tv{k}{i}:below k (.aL i)=belows k i:=rfl
@[simp] def Gj{k n}:below k (.ref n)=decide (n<k):=rfl
@[simp] def Si{k}:belows k []=true:=rfl
@[simp] def Tu{k}{x}{U}:belows k (x::U)=(below k x&&belows k U):=rfl
@[simp] def SS:f7 .none=true:=rfl
@[simp] def SU{b}:f7 (.bool b)=true:=rfl
@[simp] def UO{i}:f7 (.int i)=true:=rfl
@[simp] def UJ{i}:f7 (.str i)=true:=rfl
@[simp] def UN{i}:f7 (.aM i)=true:=rfl
@[simp] def UP{i}:f7 (.bK i)=true:=rfl
@[simp] def UM{c}{i}:f7 (.obj c i)=true:=rfl
@[simp] def UK{i j}:f7 (.sS i j)=true:=rfl
@[simp] def HL{i}:f7 (.aL i)=gD i:=rfl
@[simp] def UL{n}:f7 (.ref n)=false:=rfl
@[simp] def SQ:gD []=true:=rfl
@[simp] def UI{x}{U}:gD (x::U)=(f7 x&&gD U):=rfl
@[simp] def SP:jN []=true:=rfl
@[simp] def UH{k}{x}{U}:jN ((k,x)::U)=(f7 x&&jN U):=rfl
@[simp] def SR:ml []=true:=rfl
@[simp] def HK{k}{x}{U}:ml ((k,x)::U)=(f7 x&&ml U):=rfl
def lZ:gD U=true↔∀x∈U,f7 x=true:=U.rec ⟨λO O=>iZ,λO=>rfl⟩ λa N M=>(Bool.and_eq_true_iff.trans<|and_congr jj M).trans (List.forall_mem_cons (p:=λx=>f7 x=true)).symm
def bT{U:Type}{f}{l:List U}(h:∀x∈l,f7 (f x)=true):gD (l.map f)=true:=lZ.mpr<|List.forall_mem_map.mpr h
def r9:jN U=true↔∀x∈U,f7 x.2=true:=U.rec ⟨λO O=>iZ,λO=>rfl⟩ λa N M=>(Bool.and_eq_true_iff.trans<|and_congr jj M).trans (List.forall_mem_cons (p:=λx:KV×AV=>f7 x.2=true)).symm
def xl(h:U<=n)(e:s[n]? =some c):iH s U (d+1) (.ref n)=Ra (iH s U d) c:=(az λq=>(Nat.not_lt_of_le h)<|aB q).trans<|(az<|Nat.not_lt_of_le h).trans<|J e Y
def iQ(h:O<=n)(e:s[n]? =some (.L U))(p:gD U=true):iH s O (d+1) (.ref n)=some (.aM U):=(xl h e).trans<|au p
def oQ(h:U<=n)(e:s[n]? =some (.D xs))(p:jN xs=true):iH s U (d+1) (.ref n)=some (.bK xs):=(xl h e).trans<|au p
def Vy(h:M<=n)(e:s[n]? =some (.O c U))(p:ml U=true):iH s M (d+1) (.ref n)=some (.obj c U):=(xl h e).trans<|au p
def lx(s:St)(U:Nat):Option AV->Option (Option AV)
 |none=>some none
 |some a=>(iH s U 6 a).bind λb=>some<|some b
@[simp] def Ts{s}{U}:lx s U none=some none:=rfl
@[simp] def Tq{s}{U}{a}:lx s U (some a)=(iH s U 6 a).bind λb=>some (some b):=rfl
def Ag s O d U:Ah s O d U=cY (lx s O) (dO d U):=by delta Ah;congr 1
def MC(H:Cl U)(D:cY (lx (U++L) U.length) (dO d M)=some O):Al Φ P N U.length (.gc d) M (U++L)=some (.next,O,U):=by simp only [Ou,Ag,D,List.take_left' Y,H.Yq,Option.bind_some]
def TS(L:Cl U)(h:Wp (cY (lx (U++A) U.length)<|dO d M) λO=>Wp (cg Φ H N U.length D O U) Q):Wp (cg Φ H N U.length (.gc d::D) M<|U++A) Q:=by refine bQ h λO P=>And.elim (λB X=>?_) P;exact lP (MC L B) X
def O5(B:Cl U)(q:k<=H.length)(h:Wp (cY (jT (U++H) (U.length+k) 6)<|H.take k) λD=>Wp (cY (lx (U++H)<|U.length+k)<|dO d L) λO=>Wp (cg Φ X N (U.length+k) P O<|U++D) Q):Wp (cg Φ X N (U.length+k) (.gc d::P) L<|U++H) Q:=h.elim λD M=>M.elim λw M=>M.elim λO M=>M.elim λj A=>lP (J Ou<|J (Ag ..)<|J j<|J (Option.bind_some ..)<|J List.take_append<|J (bP<|aw (List.length U) k)<|J (q5 ..)<|bV B.iH (show U.length+k-U.length=k by exact iO (List.length U) k)<|J w Y) A
@[simp] def Vw{s:St}{U d}:iH s U d .none=some .none:=b8 Y
@[simp] def Vx{U d}:iH s U d (.bool b)=some (.bool b):=b8 Y
@[simp] def MI{fl d}:iH s fl d (.int i)=some (.int i):=b8 Y
@[simp] def WY{U d}:iH s U d (.str i)=some (.str i):=b8 Y
@[simp] def Vv{U d n}(h:n<U):iH s U d (.ref n)=some (.ref n):=b8<|J Gj<|aq h
@[simp] def ME{s:St}{U d}{i}(h:belows U i=true):iH s U d (.aL i)=some (.aL i):=b8 h
@[simp] def W3{s:St}{U d}{i}:iH s U d (.aM i)=some (.aM i):=b8 Y
@[simp] def W4{s:St}{U d}{i}:iH s U d (.bK i)=some (.bK i):=b8 Y
@[simp] def W0{s:St}{U d c}{i}:iH s U d (.obj c i)=some (.obj c i):=b8 Y
@[simp] def WZ{U d}:iH s U d (.sS i j)=some (.sS i j):=b8 Y
def O4(P:f.HM=true)(B:f.keep=false)(D:args.length<=f.params)(H:f.params<=args.length+f.dflt.length)(j:f.params<=f.slots)
  (h:Wp (cg Φ U.length N U.length f.body ((args++f.dflt.drop (f.dflt.length-(f.params-args.length))).map some++List.replicate (f.slots-f.params) none) U)
   λr=>∃v v' O,(r.1=.ret v\/(r.1=.next/\v=.none))/\r.2.2=U++O/\iH (U++O) U.length 6 v=some v'/\Q (v',U)):Wp (kC Φ p N f args U) Q:=by
 delta kC;refine J (au ⟨D,H,j⟩)<|bV P B<|h.bind ?_;rintro⟨o,y,s⟩ ⟨v,v',O,X,q,A,L⟩;refine J q ?_;have e:∀v':AV,((iH (U++O) U.length 6 v).bind λw=>(gG (U++O) U.length 6 U<|U++O).bind λM=>some (w,M))=(v',U)->Wp (v',U) Q->Wp ((iH (U++O) U.length 6 v).bind λw=>(gG (U++O) U.length 6 U<|U++O).bind λM=>some (w,M)) Q:=λg e h=>J e h;have h:=e v' (bV A (kJ ..) Y)<|Wp.mk L;rcases X with D|⟨D,H⟩
 .exact J D h
 .refine J D ?_;replace h:=H▸h;exact h
set_option tactic.hygienic true in
def ur(h:below U.length a=true):vw (U++O) a=vw U a:=by
 cases a<;>try rfl
 rename_i n;exact congrArg OR<|bW<|aB h
@[simp] def Xq{O}{U}:vw O (.aL U)=.T U:=rfl
@[simp] def Xu{O}{U}:vw O (.aM U)=.L U:=rfl
@[simp] def Xv{O}{U}:vw O (.bK U)=.D U:=rfl
@[simp] def Xr{M}{c}{U}:vw M (.obj c U)=.O c U:=rfl
@[simp] theorem bS{U:St}{n:Nat}:vw U (.ref n)=match U[n]? with
  |some (.L xs)=>.L xs
  |some (.D es)=>.D es
  |some (.O c fs)=>.O c fs
  |none=>.no:=rfl
@[simp] def Vd(h:n<=2000):n<=lim:=by delta lim;exact lq [_] [aH ax (.c 2000)] ax (.c 1000000) Y h
def uO d i:plain d (.int i)=true:=by induction d<;>exact rfl
def BF d s(h:s.all (λc=>decide<|c<0x110000)=true):plain d (.str s)=true:=h
def BE d U:plain (d+1) (.aL U)=eA d U:=rfl
def uN d U:plain (d+1) (.aM U)=eA d U:=rfl
def jD d U:eA d U=true↔∀x∈U,plain d x=true:=U.rec ⟨λO O=>iZ,λO=>rfl⟩ λa N M=>(Bool.and_eq_true_iff.trans<|and_congr jj M).trans (List.forall_mem_cons (p:=λx=>plain d x=true)).symm
def nM(O:plain dp a=true)(U:plain dp b=true):eqQ M a b=(decide<|a=b):=by delta eqQ;exact bV O U Y
@[simp] def rF:eqQ U (.int i) (.int j)=(decide<|i=j):=(nM (uO ..)<|uO ..).trans<|J (dD ⟨λh=>by injection h,congrArg AV.int⟩) Y
def DP l:gD (li l)=true:=bT λx U=>rfl
@[simp] def Fq k l:belows k (li l)=true:=dB<|DP l
@[simp] def fj kf(L:List (U×Nat)):jN (encD kf vi L)=true:=lY (λO=>rfl) L
@[simp] def Ua{i}:l9 (.int i)=some (.i i):=rfl
@[simp] def Zf n:vi n=.int n:=rfl
def oB(a b:Nat):qR a b=(List.range<|b-a).map λk=>vi (a+k):=by delta qR;refine J (show((b:Int)-(a:Int)).toNat=b-a by exact Int.toNat_sub b a) ?_;apply aX;exact λk U=>rfl
def kZ(h:List.range n=d++x::r):x=d.length/\d.length<n:=by
 have U:d.length<n:=by have:=congrArg List.length h;simp at this;exact lq [_,_,_] [.p 1 aE (.a ax<|.s a7)] (.s ax) aE Y this
 have:=congrArg (λl=>l[d.length]?) h;simp at this;rw [dI U] at this;exact⟨by simpa using this.symm,U⟩
def dx{U:Type}{f}{l:List U}(h:l.length<=2000):dR ro st (.aM<|l.map f)=some (l.map f,none):=by show(if(l.map f).length<=lim then some (l.map f,none)else none)=_;exact J (ag _)<|(au (by delta lim;exact lq [_] [aH ax (.c 2000)] ax (.c 1000000) Y h)).trans Y
def gF{U:Type}{f}{l:List U}(h:l.length<=2000):dR ro O (.aL<|l.map f)=some (l.map f,none):=by show(if(l.map f).length<=lim then some (l.map f,none)else none)=_;exact J (ag _)<|(au (by unfold lim;exact lq [_] [aH ax (.c 2000)] ax (.c 1000000) Y h)).trans Y
def EZ(n:Nat):qR 0 (n+1)=(List.range<|n+1).map vi:=by have:=oB 0<|n+1;refine this.trans ?_;apply aX;exact λk U=>J (bu _) Y
def oN{n:Nat}(h:n<=2000):dR O U (.sS 0<|n+1)=some ((List.range<|n+1).map vi,none):=by show(if iG 0&&iG ((n:Int)+1)then some (qR 0<|(n:Int)+1,none)else none)=_;refine J (EZ _) ?_;rw [au];simp only [cF,lX];exact⟨⟨by decide,by decide⟩,ef (by decide)<|dF<|n+1,ef (Int.ofNat_le.mpr<|bq h) (by decide:((2001:Nat):Int)<=2^40)⟩
def fE{n:Nat}(h:n<=1000000):iG n=true:=by
 simp only [lX]
 lia
def m4{n:Nat}(h:n<=1000000):nI n=true:=by
 delta nI;rw [fG]
 lia
def Ej L(k:Nat):fP (encD ki vi L) (.i k)=(fc L k).map vi:=f9 qk L k
def M8 L(k v:Nat):dput (encD ki vi L) (.i k) (.int v)=encD ki vi (oh L k v):=jw qk L k v
def k9 f(L:List (Nat×U)) k:ed (.i k) (encD ki f L)=true:=by have:=l6 (kf:=ki) (vf:=f) (λa b=>rfl) L 0;exact this
section
variable{s2 s3:St}{x r:AV}{f:Nat}
def HT:LZ (.ret x)=x:=rfl
def L1:LZ .next=some .none:=rfl
def TX:(some<|AC.L U).bind GZ=U:=rfl
def dy{r}(M:bZ Φ ro a ρ st=(x,s1))(O:bZ Φ ro b ρ s1=(y,s2))(U:mT s2 op x y=some r):bZ Φ ro (.b6 op a b) ρ st=r:=by simp only [RD,M,Option.bind_some,O];exact U
def cp{op}{t}(M:bZ Φ ro a ρ st=(x,s1))(O:bZ Φ ro b ρ s1=(y,s2))(U:jc s2 op x y=some t):bZ Φ ro (.bk op a b) ρ st=some (.bool t,s2):=J RA<|J M<|J (Option.bind_some ..)<|J O<|J (Option.bind_some ..)<|J U Y
def dh(M:bZ Φ ro o ρ st=(x,s1))(O:bZ Φ ro i ρ s1=(y,s2))(U:subQ s2 x y=r):bZ Φ ro (.sub o i) ρ st=(r,s2):=J Rr<|J M<|J (Option.bind_some ..)<|J O<|J (Option.bind_some ..)<|J U Y
def dM(N:bZ Φ O o U st=(x,s1))(M:og s1 x f=r):bZ Φ O (.bG o f) U st=(r,s1):=J RE<|J N<|J (Option.bind_some ..)<|J M Y
def El{t}(N:bZ Φ M e U O=some (.bool t,s1)):bZ Φ M (.not e) U O=some (.bool<|!t,s1):=by simp only [Rx];exact J N Y
def cx{r}(O:gP Φ ro M ρ st=(xs,s1))(U:ku s1 m xs=some r):bZ Φ ro (.bA m M) ρ st=r:=J RC<|J O U
def p8{m}{r}(N:∀n,m≠.user n)(P:bZ Φ U o O M=(x,s1))(L:hY s1 m x=true)(H:gP Φ U Q O s1=(xs,s2))(D:mP U s2 m x xs=some r):bZ Φ U (.bR o m Q) O M=r:=J (Ry N)<|J P<|J (Option.bind_some ..)<|J (au L)<|J H D
def p9{r}(H:bZ Φ ro o ρ O=(x,s1))(D:hY s1 .get x=true)(N:gP Φ ro es ρ s1=(U,s2))(M:mP ro s2 .get x U=some r):bZ Φ ro (.bR o .get es) ρ O=r:=p8 nofun H D N M
def aA(O:bZ Φ ro e ρ st=(x,s1))(U:gP Φ ro M ρ s1=(xs,s2)):gP Φ ro (e::M) ρ st=(x::xs,s2):=J Jr<|J O<|J (Option.bind_some ..)<|J U Y
def aV:gP Φ ro [] ρ st=some ([],st):=m6
def nP(D:bZ Φ O a U M=some (.bool true,s1)){t}(N:bZ Φ O b U s1=some (.bool t,s2)):bZ Φ O (.and [a,b]) U M=some (.bool t,s2):=by simp only [yJ,j8];refine J D ?_;simp [N];induction t<;>rfl
def lB(U:bZ Φ ro a ρ st=some (.bool false,s1)):bZ Φ ro (.and (a::O)) ρ st=some (.bool false,s1):=by simp only [yJ,j8];exact J U Y
def tw{t}(N:bZ Φ M a U O=some (.bool t,s1)):nS Φ M true [a] U O=(t,s1):=by simp only [j8];refine J N ?_;induction t<;>rfl
def Kq(Φ:Fs)(O N M:Nat)(U:List S)(Q:Out×En×St->Prop)(r:Out×En×St):Prop:=match r.1 with| .next=>Wp (cg Φ O N M U r.2.1 r.2.2) Q|_=>Q r
def bU(h:Q (.next,ρ,U)):Wp (cg Φ ro N O [] ρ U) Q:=Wp.mk h
def cb(h:bZ Φ ro e ρ st=(x,s1))(O:nr n x ρ=some ρ')(k:Wp (cg Φ ro N fl U ρ' s1) Q):Wp (cg Φ ro N fl (.aU (.v n) e::U) ρ st) Q:=by refine lP ?_ k;exact J vF<|J h<|J (Option.bind_some ..)<|J RF<|J O Y
def nE{kv:KV}{M:List (KV×AV)}(h:bZ Φ U e O H=(x,s1))(q:bZ Φ U o O s1=some (.ref n,s2))(w:bZ Φ U i O s2=(y,s3))(j:s3[n]? =some (.D M))(A:l9 y=some kv)(B:ed kv M=true)(X:M.length<lim)(P:U<=n)
  (k:Wp (cg Φ U N fl L O<|s3.set n<|.D<|dput M kv x) Q):Wp (cg Φ U N fl (.aU (.sub o i) e::L) O H) Q:=by
 refine lP ?_ k;simp only [vF,h,Aj,q,w,Option.bind_some];simp only [C5,j,Option.bind_some];delta Lk;dsimp only;refine J A ?_;rw [Option.bind_some];exact J (au<|wo B (aq X) (aq P) Y) Y
def iP(h:bZ Φ O e U M=(x,s1))(k:Wp (cg Φ O N H D U s1) Q):Wp (cg Φ O N H (.exp e::D) U M) Q:=by refine lP ?_ k;exact J RK<|J h Y
def jX{t}(h:bZ Φ ro c ρ st=some (.bool t,s1))(k:Wp (cg Φ ro N U (bif t then p else q) ρ s1) (Kq Φ ro N U O Q)):Wp (cg Φ ro N U (.jt c p q::O) ρ st) Q:=by refine pn<|J RJ<|J h ?_;clear h;induction t<;>exact k
def oE(h:bZ Φ M e U O=(x,s1))(k:Q (.ret x,U,s1)):Wp (cg Φ M N fl (.ret e::D) U O) Q:=pn<|J RI<|J h<|Wp.mk k
def d9{d}(k:Wp (cg Φ ro N M O (dO d ρ) U) Q):Wp (cg Φ ro N M (.jU d::O) ρ U) Q:=lP RL k
def LQ(gd:Option (Nat×AC))(Jzq:En->St->Prop)(r:Out×En×St):Prop:=(r.1=.next\/r.1=.cont)/\cT r.2.2 gd/\Jzq r.2.1 r.2.2
def gu{X:Type}{D}{H}{body}{l}{enc}{gd}{I:List X->En->St->Prop}(h:bZ Φ M H ρ st=(x,s1))(j:dR M s1 x=(l.map enc,gd))(w:I [] ρ s1)
  (A:∀done y rest ρ st,l=done++y::rest->I done ρ st->Wp ((fQ st D (enc y) ρ).bind λU=>cg Φ M N s1.length body U st) (LQ gd<|I<|done++[y]))
  (k:∀ρ' O,I l ρ' O->Wp (cg Φ M N q B ρ' O) Q):Wp (cg Φ M N q (.dT D H body::B) ρ st) Q:=by
 refine pn<|J Jx<|J h<|J (Option.bind_some ..)<|J j<|(O6 enc I w A).mono ?_;rintro⟨o,U,s2⟩ ⟨P,L⟩;dsimp only at P L;subst P;exact k _ _ L
def kp(h:fQ s1 tt x ρ=some ρ')(k:Wp (cg Φ ro N M O ρ' st) Q):Wp ((fQ s1 tt x ρ).bind λU=>cg Φ ro N M O U st) Q:=J h k
def ff{U}:lx st U none=some none:=rfl
def bI(h:below U x=true):lx st U x=some (some x):=by show(iH _ _ 6 x).bind _=_;exact eY (congrArg _<|b8 h) _
def O2{U}(h:M<=n)(e:O[n]? =some (.D U))(p:jN U=true):lx O M (some<|.ref n)=some (some<|.bK U):=by show(iH _ _ 6 _).bind _=_;exact eY (congrArg _<|oQ h e p) _
def Xo{U}(h:M<=n)(e:O[n]? =some (.L U))(p:gD U=true):lx O M (some<|.ref n)=some (some<|.aM U):=by show(iH _ _ 6 _).bind _=_;exact eY (congrArg _<|iQ h e p) _
def NR{f:Option AV->Option (Option AV)}:cY f []=some []:=rfl
def aD{f}{o U}(h:f o=some U)(t:cY f O=some ρ'):cY f (o::O)=(U::ρ'):=(dq ..).trans<|bV h t Y
def lj{cs}{d}(M:Cl U)(h:cY (lx (U++cs) U.length) (dO d ρ)=some ρ')(k:Wp (cg Φ ro N U.length O ρ' U) Q):Wp (cg Φ ro N U.length (.gc d::O) ρ<|U++cs) Q:=TS M ⟨ρ',h,k⟩
def oF{cs cs':St}{d}{m}(B:O=U.length+m)(A:Cl U)(X:m<=cs.length)(L:cY (jT (U++cs) (U.length+m) 6) (cs.take m)=cs')(P:cY (lx (U++cs)<|U.length+m) (dO d M)=some ρ')(k:Wp (cg Φ H N O D ρ'<|U++cs') Q):Wp (cg Φ H N O (.gc d::D) M<|U++cs) Q:=by subst B;exact O5 A X ⟨cs',L,ρ',P,k⟩
def PQ(U:St)(P:AV×St->Prop)(r:Out×En×St):Prop:=∃v O M,(r.1=.ret v\/(r.1=.next/\v=.none))/\r.2.2=U++M/\iH (U++M) U.length 6 v=some O/\P (O,U)
def gT(U:(F.HM&& !F.keep&&(Nat.ble args.length F.params&&(Nat.ble F.params (args.length+F.dflt.length)&&Nat.ble F.params F.slots)))=true)
  (h:Wp (cg Φ st.length N st.length F.body ((args++F.dflt.drop (F.dflt.length-(F.params-args.length))).map some++List.replicate (F.slots-F.params) none) st) (PQ st P)):Wp (kC Φ ro N F args st) P:=by
 simp only [cF,Nat.ble_eq] at U;exact O4 U.1.1 (by simpa using U.1.2) U.2.1 U.2.2.1 U.2.2.2 h
def jo{P}{cs}{v'}(h:bZ Φ ro e ρ st=(x,s1++cs))(U:iH (s1++cs) s1.length 6 x=some v')(k:P (v',s1)):Wp (cg Φ ro N M (.ret e::O) ρ st) (PQ s1 P):=oE h ⟨x,v',cs,.inl Y,Y,U,k⟩
def mj(h:bZ Φ M e O U=(x,U))(D:below U.length x=true)(k:P (x,U)):Wp (cg Φ M N L (.ret e::H) O U) (PQ U P):=oE h ⟨x,x,[],.inl Y,(aC _).symm,b8 D,k⟩
def fK{r}(N:gP Φ U D O st=(xs,s1))(M:Φ U f xs s1=some r):bZ Φ U (.lO f D) O st=r:=J RB<|J N M
def m7{r}(D:bZ Φ ro o ρ st=(x,s1))(N:Pk s1 x n=f)(M:gP Φ ro H ρ s1=(U,s2))(O:Φ ro f (x::U) s2=some r):bZ Φ ro (.bR o (.user n) H) ρ st=r:=by simp only [MU,D,N,Option.bind_some,M];exact O
def jS{m}{l}(Q:bZ Φ U o O M=some (.ref m,s1))(X:s1[m]? =some (.L l))(P:bZ Φ U e O s1=(x,s2))(H:s2[m]? =some (.L xs))(D:xs.length<lim)(N:U<=m):bZ Φ U (.bR o .append [e]) O M=some (.none,s2.set m<|.L<|xs++[x]):=by
 refine p8 nofun Q ?_ (aA P aV) ?_
 .delta hY;simp only [bS,X];rfl
 .show(((s2[m]?).bind λc=>(GZ c).bind λy=>some (m,y)).bind λp=>_)=_;refine J H ?_;show(if decide (xs.length<lim)&&decide (U<=m)then some (AV.none,s2.set m<|.L<|xs++[x])else none)=_;exact bV (aq D) (aq N) Y
def zr(I:Nat->En->St->Prop){k}(B:k<N)(w:I k L H)
  (X:∀k ρ' U,I k ρ' U->(∃s2,bZ Φ O c ρ' U=some (.bool false,s2)/\Wp (cg Φ O N q P ρ' s2) Q)\/∃s2,bZ Φ O c ρ' U=some (.bool true,s2)/\0<k/\Wp (cg Φ O N H.length body ρ' s2) λr=>(r.1=.next\/r.1=.cont)/\∃j,j<k/\I j r.2.1 r.2.2):
  Wp (cg Φ O N q (.A4 c body::P) L H) Q:=by
 refine pn<|J RH<|O3 I (λk ρ' U h=>?_) B w;rcases X k ρ' U h with ⟨s2,D,M⟩|⟨s2,D,M,A⟩
 .exact J D (Wp.mk M)
 .exact J D (Wp.mk ⟨⟨k-1,(Nat.succ_pred_eq_of_pos M).symm⟩,A⟩)
def vK{M:Type}{tt:T}{it elt:E}{ifs:List E}{own:List Nat}{l:List M}{O:M->AV}{gd:Option (Nat×AC)}{U:M->En}{p:M->Bool}{g:M->AV}(h:bZ Φ ro it ρ N=(x,s1))(B:dR ro s1 x=(l.map O,gd))(X:l.length<=2000)(H:∀cs,cT (s1++cs) gd)
  (Q:∀d y r,l=d++y::r->fQ (s1++[.L ((d.filter p).map g)]) tt (O y) (dO own ρ)=(U y)/\nS Φ ro true ifs (U y) (s1++[.L ((d.filter p).map g)])=(p y,s1++[.L ((d.filter p).map g)])/\(p y=true->bZ Φ ro elt (U y) (s1++[.L ((d.filter p).map g)])=(g y,s1++[.L ((d.filter p).map g)]))):
  bZ Φ ro (.lc elt [(tt,it,ifs)] own) ρ N=some (.ref s1.length,s1++[.L ((l.filter p).map g)]):=by
 simp only [Eb,h,B,Option.bind_some];obtain⟨o,j,rfl⟩:=GS (chk:=nS Φ ro true ifs) (inner:=FO Φ ro (λρ N=>(bZ Φ ro elt ρ N).bind<|lM s1.length) []) O (λd s=>s=s1++[AC.L ((d.filter p).map g)]) (st:=s1++[.L []]) Y λd y r s P D=>by
  subst D;obtain⟨v,q,w⟩:=Q d y r P;refine J v<|J (Option.bind_some ..)<|J q<|J (Option.bind_some ..) ?_;induction hp:p y with
  |false=>exact Wp.mk ⟨H _,by refine J (dm ..)<|J df<|J hp ?_;simp⟩
  |true=>
   refine J (au Y)<|J MT<|J (w hp)<|J (Option.bind_some ..) ?_
   have hlen:((d.filter p).map g).length<lim:=by refine J (ag _) ?_;refine aQ (bN _ _) ?_;have:=congrArg List.length P;rw [ae,bj] at this;unfold lim;exact lq [_,_,_] [aH aE (.c 2000),.p 1 aE (.a ax<|.s a7)] (.s ax) (.c 1000000) Y X this
   unfold lM;dsimp only;refine J (gn _ _ _) ?_;have A:((some<|AC.L<|(d.filter p).map g).bind GZ)=some ((d.filter p).map g):=rfl;exact J A<|J (Option.bind_some _ _)<|J (au hlen)<|J (rW _ _ _ _)<|Wp.mk ⟨H _,by rw [dm,df,hp];simp⟩
 rw [j];rfl
def oo{U:Type}{tt}{it elt}{own}{l:List U}{enc}{gd:Option (Nat×AC)}{ρf:U->En}{g:U->AV}(h:bZ Φ ro it ρ st=(x,s1))(H:dR ro s1 x=(l.map enc,gd))(D:l.length<=2000)(P:∀cs,cT (s1++cs) gd)
  (M:∀y∈l,∀ys,fQ (s1++[.L ys]) tt (enc y) (dO own ρ)=(ρf y)/\bZ Φ ro elt (ρf y) (s1++[.L ys])=(g y,s1++[.L ys])):
  bZ Φ ro (.lc elt [(tt,it,[])] own) ρ st=some (.ref s1.length,s1++[.L (l.map g)]):=by
 have:=vK h H D P λd y r N=>⟨(M y (J N<|ar _<|.head _) _).1,n8,λO=>(M y (J N<|ar _<|.head _) _).2⟩;rwa [List.filter_eq_self.mpr λO O=>rfl] at this
end
inductive Sy where
 |fin|err|GY|a|b|SV|acc|s|t|u
 deriving DecidableEq
noncomputable abbrev Sy.code(x:Sy):Nat:=x.ctorIdx
def Sy.code_inj{y:Sy}(h:x.code=y.code):x=y:=(Sy.ofNat_ctorIdx x).symm.trans<|(congrArg Sy.ofNat h).trans<|Sy.ofNat_ctorIdx y
noncomputable def Sy.nm:Sy->List Nat
 | .fin=>[36,101,110,100]| .err=>[101,114,114,111,114]| .GY=>[36,117,110,100,101,102,105,110,101,100]
 | .a=>[97]| .b=>[98]| .SV=>[110,111,110,101]| .acc=>[36,97,99,99,101,112,116]| .s=>[115]| .t=>[116]| .u=>[117]
def Sy.Dy(x:Sy):[347,554,982,97,98,432,660,115,116,117].idxOf x.nm.sum=x.code:=by induction x<;>rfl
def Sy.uU{y:Sy}(h:x.nm=y.nm):x=y:=Sy.code_inj<|(Sy.Dy x).symm.trans<|(congrArg (λl=>List.idxOf (List.sum l) _) h).trans<|Sy.Dy y
noncomputable def Sy.rk(x:Sy):Nat:= @Sy.rec (λU=>Nat) 0 0 0 0 0 0 4 3 2 1 x
structure Gr where
 tm:List Sy
 nt:List Sy
 rl:List (Sy×List Sy)
noncomputable def Gr.cK(G:Gr):List Sy:=G.tm++G.nt
def Gr.num(G:Gr)(x:Sy):Nat:=if x∈G.cK then G.cK.idxOf x else 100+x.code
structure Gr.Ok(G:Gr):Prop where
 fW:G.cK.Nodup
 tm:∃l,G.tm=.fin::.err::.GY::l
 PA:∀x∈G.tm,x.rk=0
 nt:G.nt=[.acc,.s,.t,.u]\/G.nt=[.acc,.s,.u,.t]
 rl:∃rs,G.rl=(.acc,[.s,.fin])::rs/\(∀p∈rs,p.1=.s\/p.1=.t\/p.1=.u)/\rs.length<=11
 rr:∀p∈G.rl,p.2.length<=4/\(∀x∈p.2,x∈G.cK)/\((∀x∈p.2,x.rk<p.1.rk)\/∃x,p.2=[x,p.1]/\x.rk=0)
section
variable{G:Gr}
def uj(x:Sy):x.code<10:=by induction x<;>exact bC Y
def gE{l:List Sy}(h:l.Nodup):l.length<=10:=sf Sy.code h (λU U U U=>Sy.code_inj) λx U=>uj x
def Gr.Ok.dN(h:G.Ok):G.cK.length<=10:=gE h.fW
set_option tactic.hygienic true in
def Gr.mZ(M:G.cK.length<=10)(h:G.num x=G.num y):x=y:=by
 delta Gr.num at h;split at h<;>split at h
 .rename_i O U;refine jn (iE<|b9 O)<|jn (iE<|b9 U) ?_;congr 1
 .rename_i O U;have:=b9 O;exact tH [_,_,_] [aH ax (.c 10),.p 1 aE<|.a (.c 100) a7,aH (.s aE) ax] Y M h this
 .rename_i O U;have:=b9 U;exact tH [_,_,_] [aH ax (.c 10),.q 1 (.a (.c 100) aE) a7,aH (.s a7) ax] Y M h this
 .exact Sy.code_inj (hX h)
def Gr.jE(U:x∈G.cK):G.num x<G.cK.length:=by delta Gr.num;exact J (au U)<|b9 U
def Gr.jz(U:x∈G.cK):G.cK[G.num x]? =x:=by delta Gr.num;exact J (au U)<|(aW<|b9 U).trans<|J (iE _) Y
def Gr.Qe(h:G.cK.Nodup)(U:x∈G.cK):G.num x<G.tm.length↔x∈G.tm:=by
 have e:=Gr.jz U;unfold Gr.cK at e;constructor
 .exact λq=>aN<|jn (bW q) e
 .exact λq=>if c:G.num x<G.tm.length then c else by rw [br (c9 c)] at e;have:=aN e;delta Gr.cK at h;rw [List.nodup_append] at h;exact absurd Y<|h.2.2 x q x this
def Gr.Ok.mi(h:G.Ok):G.rl.length<=12:=by obtain⟨O,e,_,U⟩:=h.rl;exact J e<|bq U
theorem Gr.Ok.err(h:G.Ok):G.num .err=1/\Sy.err∈G.cK/\Sy.err∈G.tm:=by
 refine bQ h.tm λl e=>?_;have U:Sy.err∈G.tm:=by refine J e ?_;simp
 refine⟨?_,(bl _ U),U⟩;delta Gr.num;delta Gr.cK;exact J e Y
def Gr.Ok.jF(h:G.Ok):x∈G.nt↔x.rk≠0:=by rcases h.nt with e|e<;>refine J e ?_<;>induction x<;>decide
def Gr.Ok.Ie(h:G.Ok)(U:x∈G.cK):x∈G.tm↔x.rk=0:=by refine⟨h.PA x,λq=>?_⟩;exact(mA U).elim (λm=>m) λm=>absurd q<|h.jF.mp m
end
def tS(h:e<i) f:gk i e f=0:=by simp only [gk];exact J (gM h) Y
def uD(O:b<=h)(U:h<=e+1) f:gk b e f=((List.range<|h-b).map λk=>f<|b+k).sum+gk h e f:=by obtain⟨c,rfl⟩:=ej O;delta gk;exact J ((fU<|Nat.le_sub_of_add_le' U).symm.trans<|congrArg _<|Nat.sub_sub ..) (J List.range_add (J aR (J List.sum_append (J bJ (J (bY ..) (congrArg (_+ ·)<|sum_map_congr _ _ _ λk M=>congrArg f (bB ..).symm))))))
def Hy(N:b<=h)(U:∀g,b<=g->g<h->f g=0):gk b e f=gk h e f:=if c:h<=e+1 then J (uD N c _) (J (gj _ _ λk M=>U _ (aw ..)<|Nat.add_lt_of_lt_sub'<|mR M)<|bu _)else by have c:=ip c;exact(ja λk O k2=>U k O<|aQ k2<|ee c).trans (tS (ee c) f).symm
def w3{b g e}(M:g<=e){f}(U:∀h,g<h->h<=e->f h=0):gk b e f=gk b g f:=if c:b<=g+1 then J (uD c (bq M) _) (J (ja U) Y)else by have c:=ip c;exact(ja λk O k2=>U k (ee<|aJ c O) k2).trans (tS (ee c) f).symm
def Bj(h:e<i):mX K r i e=0:=r.casesOn (az<|jf h) λx r=>tS h _
def nz:∀{i},b<=i->(∀x∈r,∀i g,b<=i->i<=g->g<=e->K x i g=L x i g)->mX K r i e=mX L r i e:=by
 induction r with
 |nil=>exact λM M=>rfl
 |cons x r N=>exact λU h=>dQ λg O H=>congr (congrArg _<|h x (.head _) _ g U O H) (N (aa U O) λy D=>h y<|.tail _ D)
def EY(b e)(f:Nat->Nat->Nat):(gk b e λh=>gk b e λg=>f h g)=gk b e λg=>gk b e λh=>f h g:=Hc _ _ λx y=>f (b+x)<|b+y
def Bu(i e c) f:(gk i e λk=>f k*c)=gk i e f*c:=J (gY ..)<|jn (uE ..)<|dQ λk U U=>gY ..
def xW:∀{b},mX K (r++N) b e=gk b e λg=>mX K r b g*mX K N g e:=by
 induction r with
 |nil=>intro b;exact if c:b<=e then((nB (aS b) c _ λk U U O=>by exact J (show mX K [] b k=0 from az λq=>O q.symm)<|cA _).trans<|by exact J (show mX K [] b b=1 from au Y)<|i7 _).symm else(Bj<|ip c).trans (tS (ip c) _).symm
 |cons x r L=>
  intro b;refine(dQ (g:=λh=>gk b e λg=>K x b h*mX K r h g*mX K N g e) λh H D=>?_).trans ((EY ..).trans<|dQ λg H D=>?_)
  .refine(congrArg (K x b h* ·) L).trans ((uE ..).symm.trans<|(dQ λg U U=>(Nat.mul_assoc ..).symm).trans (Hy H λg U M=>?_).symm);exact J (Bj M)<|J (Nat.mul_zero _)<|cA _
  .exact(Bu ..).trans (congrArg (· *_)<|w3 D λh M U=>congrArg _<|Bj M)
def qJ{b e}(h:b<=e):mX K [x] b e=K x b e:=by
 show(gk b e λg=>K x b g*(if g=e then 1 else 0))=_;rw [nB h (aS e)]
 .simp
 .exact λk O O U=>J (az U)<|Nat.mul_zero _
def Hj:mX K (r++[x]) b e=gk b e λg=>mX K r b g*K x g e:=xW.trans<|dQ λg O U=>J (qJ U) Y
def Lp(f:M->N):∀{b},mX K (r.map f) b e=mX (λx=>K<|f x) r b e:=by
 induction r with
 |nil=>exact rfl
 |cons x r O=>exact dQ λg U U=>congrArg _ O
def Bt(b i e) f:(gk i e λg=>f<|b+g)=gk (b+i) (b+e) f:=by delta gk;exact J (bB b ..)<|J (Nat.add_sub_add_left ..)<|sum_map_congr _ _ _ λk U=>congrArg f (bB ..).symm
def ER b{r}{e}:∀{i},mX (λx i j=>K x (b+i)<|b+j) r i e=mX K r (b+i) (b+e):=by
 induction r with
 |nil=>intro i;exact if c:i=e then(au c).trans (au<|congrArg _ c).symm else(az c).trans (az λq=>c<|hX q).symm
 |cons x r O=>exact λ{i}=>(dQ λg U U=>congrArg _ O).trans<|Bt b i e λg=>K x (b+i) g*mX K r g (b+e)
def PM{e}{r}{y}(M:K y e e=0)(U:y∈r):mX K r e e=0:=by
 induction r with
 |nil=>exact iZ U
 |cons x r O=>exact(nB (aS e) (aS e) _ λk H D N=>absurd (bH D H) N).trans ((mO U).elim (λh=>by simp only [<-h,M,cA]) λh=>congrArg _<|O h)
def ES e(av:p->Prop) r(N:∀x∈r,∀i j,i<=j->j<=e->(0<i\/j<e\/av x)->P x i j=K x i j)(H:∀x∈r,¬av x->P x 0 e=0)
  (D:∀pre x post,r=pre++x::post->¬av x->∃y∈pre++post,K y 0 0=0/\K y e e=0):mX P r 0 e=mX K r 0 e:=by
 induction r with
 |nil=>rfl
 |cons x r Q=>
  refine dQ λg o L=>?_;by_cases O:g<e\/av x
  .refine J (N x (.head _) 0 g o L<|.inr O) ?_;by_cases M:K x 0 g=0
   .refine J M ?_;simp only [cA]
   .refine congrArg _ ((jK g).elim (λc=>?_) λc=>nz (aS g) λy U i j B X i3=>N y (.tail _ U) i j X i3<|.inl<|aJ c B);rw [c] at M⊢;exact Q (λy U=>N y<|.tail _ U) (λy U=>H y<|.tail _ U) λpre y post f w=>by obtain⟨z,A,q⟩:=D (x::pre) y post (congrArg _ f) w;exact⟨z,(mO A).resolve_left λh=>M<|jn h q.1,q⟩
  .refine bQ (D [] x r Y (not_or.mp O).2) λy v=>And.elim (λU q=>?_) v;simp only [bH L (Nat.not_lt.mp (not_or.mp O).1),H x (.head _) (not_or.mp O).2,PM (r:=r) q.2 U,cA];rfl
noncomputable def sl(w:List α)(i j:Nat):List α:=(w.drop i).take<|j-i
def fD(O:i<=j)(U:j<=w.length):(sl w i j).length=j-i:=by simp only [sl,cL,List.length_drop,cj (Nat.sub_le_sub_right U i)]
def nW(w:List U):sl w 0 w.length=w:=by simp [sl]
def Uw(h:j<=e-b):sl (sl w b e) i j=sl w (b+i) (b+j):=by delta sl;simp only [List.drop_take,i9,iu,cj<|Nat.sub_le_sub_right h i,Nat.add_sub_add_left]
def r8:sl w i i=[]:=by simp [sl]
def Bo(h:w[i]? =some x):sl w i (i+1)=[x]:=by delta sl;exact(List.getElem?_eq_some_iff.mp h).elim λO U=>J (eE O)<|bV U (show i+1-i=1 by exact iO i 1) Y
def ya{i j k}(O:i<=j)(U:j<=k):sl w i j++sl w j k=sl w i k:=by obtain⟨c,rfl⟩:=ej O;obtain⟨d,M⟩:=ej U;refine J M ?_;rw [sl,sl,sl,bY,bY,bB i,bY,List.take_add,iu]
def Hs(h:x∈sl w i j):x∈w:=List.mem_of_mem_drop<|List.mem_of_mem_take h
def sq(C:Sy->List Sy->Nat)(r w:List Sy):Nat:=mX (λx i j=>C x<|sl w i j) r 0 w.length
def C7 C(r w)(O:b<=e)(N:e<=w.length):mX (λx i j=>C x<|sl w i j) r b e=sq C r (sl w b e):=by delta sq;refine J (fD O N) ?_;have:=ER (K:=λx i j=>C x<|sl w i j) b (r:=r) (i:=0) (e:=e-b);simp only [cU O] at this;exact this.symm.trans<|nz .refl λx U i g U U M=>congrArg (C x) (Uw M).symm
def Hl(h:∀x∈r,∀v,v.length<=w.length->(∀y∈v,y∈w)->C x v=N x v):sq C r w=sq N r w:=
 nz .refl λx O i g D M U=>h x O _ (J (fD M U)<|lq [_,_,_] [aH a7 aE,aH ax a7] ax aE Y U (cP ..)) λy=>Hs
def zd{av:Sy->Prop}(B:∀x∈r,∀v,v.length<=w.length->v.length<w.length\/av x->D x v=C x v)(X:∀x∈r,¬av x->D x w=0)
  (Q:∀pre x post,r=pre++x::post->¬av x->∃y∈pre++post,C y []=0):sq D r w=sq C r w:=by
 refine ES w.length av r (λx M i j U O P=>?_) (λx M N=>jn (nW w).symm<|X x M N) λpre x post e N=>by obtain⟨y,L,H⟩:=Q pre x post e N;exact⟨y,L,H,J r8 H⟩
 refine B x M _ ((fD U O)▸aa (cP j i) O)<|(fD U O)▸P.elim (λc=>.inl<|aJ (Nat.sub_lt_of_pos_le c U) O) (Or.imp_left λc=>aQ (cP j i) c)
abbrev Rl:=List<|Sy×List Sy
def RR(R:Rl):Prop:=∀p∈R,(∀x∈p.2,x.rk<p.1.rk)\/∃z,p.2=[z,p.1]/\z.rk=0
noncomputable def Rl.at(R:Rl)(x:Sy):Rl:=R.filter λp=>decide<|p.1=x
def oY{R:Rl}:p∈R.at x↔p∈R/\p.1=x:=by delta Rl.at;rw [List.mem_filter,cy]
def tC(R:Rl)(x:Sy)(f:List Sy->Nat):Nat:=((R.at x).map λp=>f p.2).sum
def pJ(h:∀p∈R,p.1=x->f p.2=g p.2):tC R x f=tC R x g:=
 sum_map_congr _ _ _ λp U=>h p (oY.mp U).1 (oY.mp U).2
def one(ok:Sy->Prop)(x:Sy)(w:List Sy):Nat:=if w=[x]/\ok x then 1 else 0
def qj(h:w.length≠1):one ok x w=0:=az λq=>h<|congrArg _ q.1
section
variable(R:Rl)(ok:Sy->Prop)
noncomputable def cn:Nat->Sy->List Sy->Nat
 |0,_,_=>0
 |k+1,x,w=>if x.rk=0 then one ok x w else tC R x λr=>sq (cn k) r w
def CC(x:Sy)(w:List Sy):Nat:=cn R ok (x.rk+w.length+1) x w
end
def xX:sq C [z,A] w=gk 0 w.length λg=>C z (sl w 0 g)*C A (sl w g w.length):=
 show(gk 0 w.length λg=>C z (sl w 0 g)*mX (λx i j=>C x<|sl w i j) [A] g w.length)=_ from
 dQ λg U h=>J (qJ h) Y
def Lq(M:∀v,v.length<=w.length->F z v=O z v)(U:∀v,v.length≠1->F z v=0)(N:∀v,v.length<w.length->F A v=O A v):sq F [z,A] w=sq O [z,A] w:=by
 simp only [xX];refine dQ λg D h=>jn (M _<|J (fD (bf _) h) h) ?_;by_cases c:g=1
 .subst c;exact J (N _<|J (fD h .refl)<|Nat.sub_one_lt_of_lt h) Y
 .simp only [U _ (J (fD (bf _) h) c),cA]
def xB(h:x.rk=0):cn R ok (k+1) x w=one ok x w:=au h
def Er(h:x.rk≠0):cn R ok (k+1) x w=tC R x λr=>sq (cn R ok k) r w:=az h
def zc(L:RR R){p:Sy×List Sy}(H:p∈R){F N:Sy->List Sy->Nat}(P:∀y v,y.rk=0->v.length≠1->F y v=0)(h:∀y v,v.length<=w.length->y.rk+v.length<p.1.rk+w.length->F y v=N y v)(O:p.1.rk≠0):sq F p.2 w=sq N p.2 w:=by
 rcases L p H with q|⟨z,q,M⟩
 .exact Hl λy D v U Q=>h y v U<|i8 (q y D) U
 .exact q▸Lq (λv U=>h z v U<|i8 (J M<|gJ O) U) (λv=>P z v M) λv U=>h p.1 v (eJ U)<|cc U _
def VX(H:RR R) k:∀x w,x.rk+w.length<k->cn R ok (k+1) x w=cn R ok k x w:=k.rec (λU U h=>absurd h<|dY _) λk O x w h=>if c:x.rk=0 then(xB c).trans (xB c).symm else(Er c).trans ((pJ λp D e=>zc H D (λy v M N=>(xB M).trans<|qj N) (λy v U L=>O y v<|aJ L<|J e<|aK h)<|J e c).trans (Er c).symm)
def OB(O:RR R)(h:x.rk+w.length<k):cn R ok k x w=CC R ok x w:=h.rec Y λh U=>(VX O _ x w h).trans U
def xJ(h:x.rk=0):CC R ok x w=one ok x w:=xB h
def AW(U:RR R)(h:x.rk≠0):CC R ok x w=tC R x λr=>sq (CC R ok) r w:=
 (OB U<|fT<|a6 _).symm.trans ((Er h).trans<|pJ λp N e=>zc U N (λy v O M=>(xB O).trans<|qj M) (λy v H D=>OB U<|Nat.lt_add_right 1<|jn e D)<|J e h)
def O1{P:List Sy->Prop}(X:∀w i j,P w->P (sl w i j))(o:RR R)(Q:RR M)(l:∀x w,x.rk=0->P w->one ok x w=one U x w)
  (h:∀x w,x.rk≠0->w.length<=L->P w->(∀p∈R,p.1=x->sq (CC R ok) p.2 w=sq (CC M U) p.2 w)->tC R x (λr=>sq (CC R ok) r w)=tC M x λr=>sq (CC M U) r w) (m:Nat):
  ∀(x:Sy) (w:List Sy),x.rk+w.length<m->w.length<=L->P w->CC R ok x w=CC M U x w:=m.rec (λN N h=>absurd h<|dY _) λm A=>by
  intro x w v B O;by_cases c:x.rk=0
  .simp only [xJ c,l x w c O]
  .refine bV (AW o c) (AW Q c) (h x w c B O λp s e=>?_);rcases o p s with q|⟨z,q,D⟩
   .refine nz .refl λy n i g N a t=>?_;have b:=aa (aG<|fD a t)<|aa (cP ..) t;exact A y _ (aJ (i8 (e▸q y n) b)<|aK v) (aa b B)<|X _ _ _ O
   .simp only [q,e,xX];exact dQ λg N H=>J (xJ D)<|bV (xJ D) (l z _ D<|X _ _ _ O) (if d:g=1 then(by have f:=aQ (aG<|fD H .refl)<|Nat.sub_lt_self (J d Nat.one_pos) H;exact congrArg _<|A x _ (aJ (cc f _)<|aK v) (aa (bx f) B)<|X _ _ _ O)else J (qj<|J (fD (bf g) H) d) (bV (cA _) (cA _) Y))
def LC(h:gk i e f≠0):∃g,i<=g/\g<=e/\f g≠0:=
 byContradiction λc=>h<|ja λg O U=>byContradiction λq=>c ⟨g,O,U,q⟩
def Sr(h:tC R x f≠0):∃p∈R,p.1=x/\f p.2≠0:=
 byContradiction λc=>h<|gj _ _ λp U=>byContradiction λq=>c ⟨p,(oY.mp U).1,(oY.mp U).2,q⟩
def qK{P:List Sy->Nat->Prop}(H:P [] e)(D:∀x r i g,i<=g->g<=e->K x i g≠0->P r g->P (x::r) i):∀{i:Nat},mX K r i e≠0->P r i:=by
 induction r with
 |nil=>exact λ{i} h=>(Decidable.em<|i=e).elim (λc=>J c H) λc=>absurd (az c) h
 |cons x r N=>exact λ{i} h=>by obtain⟨g,M,O,U⟩:=LC h;exact D x r i g M O (λc=>U<|J c<|cA _)<|N λc=>U<|J c<|Nat.mul_zero _
def R1{P:Sy->List Sy->Prop}(M:∀x,x.rk=0->ok x->P x [x])(D:∀p∈R,∀(F:Sy->List Sy->Nat) w,p.1.rk≠0->sq F p.2 w≠0->(∀y v,F y v≠0->P y v)->P p.1 w)(k:Nat):∀(x:Sy) (w:List Sy),cn R ok k x w≠0->P x w:=k.rec (λU U=>absurd Y) λk O=>by
  intro x w h;by_cases c:x.rk=0
  .rw [xB c] at h;exact if d:w=[x]/\ok x then J d.1 (M x c d.2)else absurd (az d) h
  .rw [Er c] at h;obtain⟨p,N,e,H⟩:=Sr h;exact jn e<|D p N _ w (J e c) H O
def wk{P:Sy->List Sy->Prop}(U:∀x,x.rk=0->ok x->P x [x])(O:∀p∈R,∀F w,p.1.rk≠0->sq F p.2 w≠0->(∀y v,F y v≠0->P y v)->P p.1 w)(h:CC R ok x w≠0):P x w:=R1 U O _ x w h
def Bl{T:Sy->Prop}(h:sq F r w≠0)(O:∀y∈r,∀v,F y v≠0->∀z∈v,T z):∀z∈w,T z:=by
 have:=qK (P:=λr i=>(∀y∈r,∀v,F y v≠0->∀z∈v,T z)->∀z∈sl w i w.length,T z) (λQ z U=>iZ<|jn r8 U) (λx r i g L H D M O z U=>by rw [<-ya L H] at U;exact(mA U).elim (λU=>O x (.head _) _ D z U) λU=>M (λy N=>O y<|.tail _ N) z U) h O
 rwa [nW] at this
def KC(h:CC R (· ≠.err) x w≠0):∀z∈w,z≠.err:=
 wk (λx N M z O=>mS O▸M) (λp _ F w _ h U=>Bl h λy _=>U y) h
def EE(O:RR R)(h:Sy.err∉w):CC R (· ≠.err) x w=CC R (λU=>True) x w:=
 O1 (P:=λw=>Sy.err∉w) (λw i j h q=>h<|Hs q) O O (λx w U M=>by
  delta one;by_cases c:w=[x]
  .subst c;exact(au ⟨Y,λq=>M<|jn q<|.head _⟩).trans (J (au ⟨Y,trivial⟩) Y)
  .exact bV (az λq=>c q.1) (az λq=>c q.1) Y) (λx w U U U h=>pJ h) _ x w (a6 _) .refl h
def WJ(U:RR R):CC R (· ≠.err) x w<=CC R (λO=>True) x w:=if h:Sy.err∈w then J (byContradiction λc=>KC c _ h Y) (bf _)else J (EE U h) .refl
def Kz(h:CC R ok x w≠0):∀z∈w,z.rk=0/\(z=x\/∃p∈R,z∈p.2):=
 wk (P:=λx w=>∀z∈w,z.rk=0/\(z=x\/∃p∈R,z∈p.2)) (λx H X z U=>jn (mS U).symm ⟨H,.inl Y⟩) (λp Q F w _ h N=>Bl h λy D v L z U=>(N y v L z U).elim λM O=>⟨M,.inr<|O.elim (λq=>⟨p,Q,J q D⟩) id⟩) h
def GH{ws:Sy->List Sy->Prop}(M:∀x,x.rk=0->ok x->1<=L->ws x [x])(D:∀p∈R,∀w,w.length<=L->(∃F:Sy->List Sy->Nat,sq F p.2 w≠0/\∀y v,v.length<=L->F y v≠0->ws y v)->ws p.1 w)(O:w.length<=L)(h:CC R ok x w≠0):ws x w:=
 wk (P:=λx w=>w.length<=L->ws x w) M (λp N F w B h U H=>D p N w H ⟨F,h,λy v X Q=>U y v Q X⟩) h O
def Hk(h:sq F r []≠0):∀y∈r,F y []≠0:=
 qK (P:=λr i=>i=0->∀y∈r,F y []≠0) (λL y=>iZ) (λx r i g Q D N U M y O=>by obtain rfl:g=0:=Nat.le_zero.mp D;subst M;exact(mO O).elim (λH=>J H N) (U Y y)) h Y
def NP{Q:Sy->Prop}(D:∀p∈R,(∀y∈p.2,Q y)->Q p.1)(h:CC R ok x []≠0):Q x:=
 wk (P:=λx w=>w=[]->Q x) (λx U U=>ln) (λp N F w _ h O c=>by subst c;exact D p N λy M=>O y [] (Hk h y M) Y) h Y
def C9:sq C (a++(r++b)) w=gk 0 w.length λg=>mX (λx i j=>C x<|sl w i j) a 0 g*gk g w.length λh=>sq C r (sl w g h)*mX (λx i j=>C x<|sl w i j) b h w.length:=by refine xW.trans<|dQ λg M N=>?_;simp only [xW];exact congrArg _<|dQ λh O U=>jn (C7 C r w O U) Y
def EU(M:∀v,C A v=tC R A λr=>sq C r v):sq C (a++A::b) w=tC R A λr=>sq C (a++(r++b)) w:=by
 refine(C9 (r:=[A])).trans ?_;rw [tC];refine J (sum_map_congr _ _ _ λp U=>C9) ?_;have N:∀v,sq C [A] v=((R.at A).map λp=>sq C p.2 v).sum:=λv=>by simp only [sq,qJ<|bf _,nW,M];rfl
 refine J (dQ λg U U=>congrArg _ (dQ λh U U=>congrArg (· *_)<|N _)) ?_;induction R.at A with
 |nil=>exact ja λg U U=>(congrArg _<|ja λh U U=>cA _).trans<|Nat.mul_zero _
 |cons p l O=>exact J aZ<|J fh<|jn O<|jn (uF ..)<|dQ λg U U=>(congrArg _<|(dQ λh U U=>Nat.add_mul ..).trans<|uF ..).trans<|gy ..
def zb(L:∀x,x.rk=0->∀v,C x v=one (λD=>True) x v)(U:∀x∈r,x.rk=0):sq C r w=if w=r then 1 else 0:=by
 have H:∀r (i:Nat),(∀x∈r,x.rk=0)->i<=w.length->mX (λx i j=>C x<|sl w i j) r i w.length=if sl w i w.length=r then 1 else 0:=λr=>r.rec (by
   exact λi D O=>if c:i=w.length then(au c).trans (au<|J c r8).symm else(az c).trans (az λq=>c<|bH O<|Nat.sub_eq_zero_iff_le.mp<|(fD O .refl).symm.trans<|congrArg List.length q).symm) λx r P=>by
   intro i U O;by_cases c:i<w.length
   .refine(nB (b0 _) c _ λg N M X=>?_).trans ?_
    .show C x _*_=0;exact J ((L x<|U x<|.head _) _)<|J (qj λh=>X (Nat.sub_eq_iff_eq_add' N |>.mp ((fD N M).symm.trans h)))<|cA _
    .show C x _*_=_;refine bV ((L x<|U x<|.head _) _) (P _ (λy Q=>U y<|.tail _ Q) c)<|jn (ya (b0 i) c)<|J (Bo<|aW c) ?_;exact if d:w[i]=x then(by exact J d<|J (show one (λD=>True) x [x]=1 from au ⟨Y,trivial⟩)<|J (i7 _) (if q:sl w (i+1) w.length=r then(au q).trans (au<|congrArg _ q).symm else(az q).trans (az λh=>q (cw h).2).symm))else J (show one (λD=>True) x [w[i]]=0 from az λq=>d (cw q.1).1) (J (cA _)<|(az λh=>d (cw h).1).symm)
   .have c:=bH O<|Nat.not_lt.mp c;refine(ja λg N M=>?_).trans (az λh=>?_).symm
    .show C x _*_=0;exact J ((L x<|U x<|.head _) _)<|J (qj<|J (fD N M)<|J (gM<|c▸M) zs)<|cA _
    .rw [c,r8] at h;exact nl h
 exact(H r 0 U<|bf _).trans (J (nW _) Y)
def tc(l:List Sy):Nat:=l.countP λx=>decide<|x.rk=0
def C8(H:∀x,x.rk=0->∀v,v.length≠1->C x v=0)(h:w.length<tc r):sq C r w=0:=byContradiction λc=>Nat.not_le.mpr h<|aa (cJ _ 0)<|
 qK (P:=λr i=>i<=w.length->i+tc r<=w.length) (λh=>h) (λx r i g O N L D Q=>by
  have U:=D N;simp only [tc];refine J List.countP_cons ?_;by_cases c:x.rk=0
  .refine J (au<|aq c) ?_;have M:=(fD O N).symm.trans<|byContradiction λq=>L<|H x c _ q;rw [Nat.sub_eq_iff_eq_add' O] at M;simp only [M,bB,ck 1] at U;exact U
  .exact J (az<|mt aB c) (aa (c8 O _) U)) c (bf _)
noncomputable def bt(n:Nat):Nat->Nat
 |0=>1
 |1=>3^(n+1)
 |r+2=>3^(n+1)*((n+1)*(bt n (r+1)*bt n (r+1)))
def bd(n:Nat):Nat->Nat
 |0=>1
 |1=>1
 |r+2=>(n+1)*(bt n (r+1)*bt n (r+1))
def V2(n r)(h:r≠0):bt n r=3^(n+1)*bd n r:=by
 rcases r with _|_|r
 .exact absurd Y h
 .exact(iB _).symm
 .rfl
theorem qx(n:Nat):∀r,1<=bt n r
 |0=>aS _
 |1=>Nat.one_le_pow _ _<|by decide
 |r+2=>Nat.mul_pos (i6<|by decide)<|Nat.mul_pos (bO _)<|Nat.mul_pos (qx n<|r+1)<|qx n<|r+1
theorem Nr(n:Nat):∀r,bt n r<=bt n (r+1)
 |0=>qx n 1
 |r+1=>by refine aa ?_<|eC _<|i6 (by decide);refine aa ?_<|eC _<|bO _;exact eC _<|qx n<|r+1
def Ey n:∀{k},r<=k->bt n r<=bt n k:=λ{k} h=>h.rec (aS _) λO U=>aa U<|Nr n _
structure Xj(R:Rl):Prop where
 kn:∀x,(R.at x).length<=3
 two:∀p∈R,p.2.length<=2
abbrev KY(R:Rl):Sy->List Sy->Nat:=CC R λU=>True
def CW(U:z.rk=0)(O:v.length≠1):CC R ok z v=0:=(xJ U).trans<|qj O
def AU x(h:x.rk=0) v:KY R x v=one (λU=>True) x v:=xJ h
def one_le ok:one ok x w<=1:=by delta one;split<;>decide
def ET{b}(M:1<=b)(D:r.length<=2)(O:w.length<=n)(h:∀y∈r,∀v,v.length<=n->C y v<=b):sq C r w<=(n+1)*(b*b):=by
 have N:b<=(n+1)*(b*b):=aa (eC _ M)<|eC _<|bO _;rcases r with _|⟨y,_|⟨z,_|⟨u,r⟩⟩⟩
 .exact aa (show(if 0=w.length then 1 else 0)<=1 by split<;>decide) (aa M N)
 .show mX _ [y] 0 w.length<=_;exact J (qJ<|bf _)<|aa (h y (.head _) _<|aa (aG<|fD (bf _) .refl) O) N
 .refine J xX (aa (iC _ _ (b*b) λg U=>?_)<|J aO<|c7 _<|bq O);have U:=(bu g).symm▸aK (mR U);exact Nat.mul_le_mul (h y (.head _) _<|J (fD (bf _) U)<|aa (cP ..)<|aa U O)<|h z (.tail _<|.head _) _<|J (fD U .refl)<|aa (cP ..) O
 .exact absurd D (Nat.not_le.mpr<|cJ 3 _)
def Kr(H:RR R)(X:Xj R)(c:x.rk≠0)(down:∀p∈R,(∀y∈p.2,y.rk<x.rk)->∀w,w.length<=n->sq (KY R) p.2 w<=B) m:∀{w},w.length<m->w.length<=n->KY R x w<=3^(w.length+1)*B:=by
 induction m with
 |zero=>exact λh=>absurd h<|dY _
 |succ m L=>
  intro w Q N;refine bV (show KY R x w=_ from AW H c) (Nat.pow_succ ..)<|J (gY (3^w.length) 3)<|J (Nat.mul_assoc ..)<|aa (iC _ _ (3^w.length*B) λp U=>?_)<|c7 _<|X.kn x;have U:=oY.mp U;rcases H p U.1 with q|⟨z,q,O⟩
  .exact aa (down p U.1 (λy P=>jn U.2<|q y P) w N) (eC _<|i6<|bO 2)
  .show sq (KY R) p.2 w<=_;exact J q<|J U.2<|J xX (if d:1<=w.length then(by refine J (nB (bf _) d _ λg v j A=>by exact J (show KY R z (sl w 0 g)=0 from CW O (J (fD v j) A))<|cA _) ?_;have M:=fD d<|aS w.length;have h:=L (J M<|Nat.sub_lt_right_of_lt_add d Q)<|J M<|aa (cP ..) N;rw [M,a9 d] at h;exact aa (Nat.mul_le_mul (aa (aG<|AU z O _)<|one_le _) h)<|aG<|i7 _)else aa (aG<|ja λg o D=>J (show KY R z (sl w 0 g)=0 from CW O ((fD (bf _) D)▸λh=>d<|jn h D))<|cA _) (bf _))
def Ku(H:Xj R)(c:k≠0)(low:∀y v,y.rk<k->v.length<=n->KY R y v<=bt n y.rk) p(D:p∈R)(O:∀y∈p.2,y.rk<k) w(M:w.length<=n):sq (KY R) p.2 w<=bd n k:=by
 match k,c with
 |1,_=>
  refine J (zb AU λy U=>Nat.lt_one_iff.mp<|O y U) ?_;split
  .exact aS _
  .exact bf _
 |k+2,_=>exact ET (qx n<|k+1) (H.two p D) M λy U v N=>aa (low y v (O y U) N)<|Ey n<|aK<|O y U
def SH(L:RR R)(M:Xj R)(n r):∀x,x.rk<=r->∀w,w.length<=n->KY R x w<=bt n x.rk:=r.rec (λx U w P=>aa (aG<|AU x (Nat.le_zero.mp U) w)<|aa (one_le _)<|qx n _) λr N x U w O=>if c:x.rk=0 then aa (aG<|AU x c w) (aa (one_le _)<|qx n _)else J (V2 n x.rk c) (aa (Kr L M c (Ku M c λy v D H=>N y (aK<|aJ D U) v H) _ (a6 _) O)<|c7 _<|fO (bO 2)<|bq O)
def NZ(x:Sy):x.rk<=4:=by induction x<;>decide
def YH:bt 3 4<2^200:=by decide
noncomputable def wc(f:Sy->Nat)(b:Nat)(w:List Sy):Nat:=w.foldr (λx n=>b*n+f x+1) 0
def GU{P:Sy->Prop}(U:∀x,f x<b)(H:∀x y,P x->P y->f x=f y->x=y):∀{w},(∀x∈v,P x)->(∀x∈w,P x)->wc f b v=wc f b w->v=w:=by
 induction v with
 |nil=>
  intro w _ _ e;induction w with
  |nil=>rfl
  |cons y w=>exact zs e
 |cons x v D=>
  intro w N M e;induction w with
  |nil=>exact sz e
  |cons y w=>exact bV (H x y (N x<|.head _) (M y<|.head _) (pk (U x) (U y)<|Nat.succ.inj e).2) (D (λz O=>N z<|.tail _ O) (λz O=>M z<|.tail _ O) (pk (U x) (U y)<|Nat.succ.inj e).1) Y
noncomputable def bw(b:Nat)(n:Nat):Nat:=n.rec 1 λU m=>b*m+1
def NS(O:∀x,f x<b):∀{n},w.length<=n->wc f b w<bw b n:=by
 induction w with
 |nil=>exact λ{n} _=>Nat.casesOn n Nat.one_pos λ_=>bO _
 |cons x w U=>exact λ{n} h=>Nat.casesOn n n0 (λn h=>Nat.succ_lt_succ<|Dq (O x)<|U<|gr h) h
def lV{L:List (List Sy×Nat)}(h:Nk L)(N:∀p∈L,p.1.length<=3):L.length<=1331:=
 aa (BL (wc Sy.code 10) h (λa U b U=>GU uj (λU U U U=>Sy.code_inj) (λU U=>trivial) λU U=>trivial) λa M=>by obtain⟨p,O,e⟩:=mM M;exact jn e<|NS uj<|N p O) (bC Y)
def sO [DecidableEq U]{p:U×Nat}(h:p∈kc L k v):p∈L\/(p.1=k/\p.2=wt L k+v):=by
 delta kc oh at h;split at h
 .obtain⟨q,O,e⟩:=mM h;split at e
  .rename_i c;subst e;exact .inr ⟨c,Y⟩
  .subst e;exact .inl O
 .exact(mA h).elim (.inl) λh=>J (mS h)<|.inr ⟨Y,Y⟩
def xN [DecidableEq U]{L}(n:Nk L) k v(w:U):wt (kc L k v) w=wt L w+if w=k then v else 0:=by delta wt;exact J (pj n ..) (if c:w=k then bV (au c) (au c) (J c Y)else bV (az c) (az c) Y)
def bM{a b:Nat}(h:Nat.ble a b=true):a<=b:=bC h
noncomputable def big:Nat:=2^60000
def qz(h:n<2^200):n<big:=aJ h<|fO (bM Y)<|bM Y
def xc(O:a<big)(U:b<big):uZ a b=true:=by delta uZ;delta big at O U;simp only [Int.natAbs_natCast,aq O,aq U];rfl
def si(O:a<big)(U:b<big):mT s .mul (vi a) (vi b)=(vi<|a*b,s):=by show(if uZ a (b:Int)then some (AV.int<|(a:Int)*(b:Int),s)else none)=_;refine(au<|xc O U).trans ?_;simp only [vi,Int.natCast_mul]
def HO{a k}(U:a<big)(O:k<=100):mT s .pow (vi a) (vi k)=(vi<|a^k,s):=by
 show(if uM a (k:Int)then some (AV.int<|(a:Int)^((k:Nat):Int).toNat,s)else none)=_
 have:uM a (k:Int)=true:=by delta uM;delta big at U;simp only [Int.natAbs_natCast,aq U,aq ((Nat.ToInt.of_le Y Y O):(k:Int)<=100)];rfl
 simp only [au this,gZ,vi,Int.natCast_pow]
def il{s}{a b}:mT s .add (vi a) (vi b)=(vi<|a+b,s):=rfl
def Ql(h:0<b):mT s .mod (vi a) (vi b)=(vi<|a%b,s):=by refine(au<|aq<|Int.natCast_pos.mpr h).trans ?_;rfl
def tp{s}{a b}:jc s .eq (vi a) (vi b)=(decide<|a=b):=by show eqQ s (.int a) (.int b)=_;exact J rF<|J (dD Int.ofNat_inj) Y
def b5(x:Sy):AV:=.str x.nm
def dP(w:List Sy):AV:=.aL<|w.map b5
def kS(x:Sy):KA:=.str x.nm
def kN(w:List Sy):KV:=.t<|w.map kS
def n5(p:Sy×List Sy):AV:=.aL [b5 p.1,.aM (p.2.map b5)]
def iL(R:Rl):AV:=.aM<|R.map n5
section
variable{l:List Sy}
def k7 d x:plain d (b5 x)=true:=BF d _ (by induction x<;>decide)
def l4 d(l:List Sy):eA d (l.map b5)=true:=(jD ..).mpr λy U=>by obtain⟨x,_,e⟩:=mM U;exact jn e<|k7 d x
def zP d w:plain (d+1) (dP w)=true:=l4 d w
def lQ(h:b5 x=b5 y):x=y:=by injection h with h;exact Sy.uU h
def Ih{α U:Type}{f:α->U}(h:∀x y,f x=f y->x=y):∀{l m:List α},l.map f=m.map f->l=m:=by
 intro l;induction l with
 |nil=>
  intro m e;induction m with
  |nil=>exact rfl
  |cons y m=>exact nl e
 |cons x l O=>
  intro m e;induction m with
  |nil=>exact ln e
  |cons y m=>injection e with e1 e2;exact bV (h _ _ e1) (O e2) Y
def sr(v w)(h:kN v=kN w):v=w:=by injection h with h;exact Ih (λx y e=>Sy.uU<|by injection e) h
def Py:∀w:List Sy,cY qd (w.map b5)=(w.map kS):=λw=>w.rec Y λx w U=>bV aZ (dq ..)<|J U Y
def tL w:l9 (dP w)=(kN w):=by show(cY qd<|w.map b5).bind _=_;exact J (Py _) Y
def II w:(kN w).av=dP w:=congrArg _ bJ
def uc f(L:List (List Sy×O)) w:ed (kN w) (encD kN f L)=true:=l6 (λU U=>rfl) L w
def QN f(L:List (List Sy×U)):(encD kN f L).map (λe=>e.1.av)=L.map λp=>dP p.1:=List.map_map.trans<|aX λp O=>II p.1
def Mf:b5 x∈l.map b5↔x∈l:=⟨λh=>by obtain⟨y,U,e⟩:=mM h;exact lQ e▸U,cW⟩
def Zv(h:vw s a=.L (l.map b5)\/vw s a=.T (l.map b5)):Mz s (b5 x) a=(decide<|x∈l):=by rcases h with h|h<;>simp only [Mz,h]<;>delta Ta Fh<;>dsimp only<;>rw [k7,l4,<-dD Mf]<;>rfl
def JU(h:vw s a=.L (l.map b5)\/vw s a=.T (l.map b5)):jc s .z8 (b5 x) a=(decide<|x∈l):=Zv h
def qu(h:vw s a=.L (l.map b5)\/vw s a=.T (l.map b5)):jc s .hV (b5 x) a=(!decide (x∈l)):=by show(Mz s (b5 x) a).map not=_;exact J (Zv h) Y
def Es:jc s .eq (b5 x) (b5 y)=(decide<|x=y):=by show eqQ s _ _=_;exact J (nM (k7 ..)<|k7 ..)<|J (dD ⟨lQ,λe=>by rw [e]⟩) Y
def Jy:jc s .eq (dP v) (dP w)=(decide<|v=w):=by show eqQ s _ _=_;exact J (nM (zP ..)<|zP ..)<|J (dD ⟨(λh=>by injection h with h;exact Ih (λU U=>lQ) h),λe=>by rw [e]⟩) Y
def U0:jc s .ne (dP v) (dP w)=(!decide (v=w)):=by show BM s _ _=_;delta BM;exact J (show eqQ s (dP v) (dP w)=(decide<|v=w)from Jy) Y
def fH(h:n<=2000):n<lim:=aQ h<|bM Y
def dE(h:n<=2000):n<=lim:=bx<|fH h
def Kf(h:v.length+w.length<=2000):mT s .add (dP v) (dP w)=(dP<|v++w,s):=by show(if(v.map b5).length+(w.map b5).length<=lim then some (AV.aL<|v.map b5++w.map b5,s)else none)=_;exact bV (ag _) (ag _)<|J (au<|dE h)<|jn aR Y
def Ir(h:w.length<=2000):ku s .len [dP w]=(vi w.length,s):=by show(if(w.map b5).length<=lim then some (AV.int (w.map b5).length,s)else none)=_;exact J (ag _)<|au<|dE h
def Vr(h:w.length<=1000):nc s (dP (x::w)) (.to 1)=(dP [x],s):=by exact(au<|J (ag _)<|dE<|J bj<|lq [_] [aH ax (.c 1000)] (.s ax) (.c 2000) Y h).trans Y
def NU(h:w.length<=1000):nc s (dP (x::w)) (.m5 1)=(dP w,s):=by show(if((x::w).map b5).length<=lim then(if decide ((1:Int)<=1)&&decide ((1:Int)<=(((x::w).map b5).length:Int))then some (AV.aL<|((x::w).map b5).drop 1,s)else none)else none)=_;exact J (au<|J (ag _)<|dE<|J bj<|lq [_] [aH ax (.c 1000)] (.s ax) (.c 2000) Y h)<|au<|J (ag _)<|J bj<|aq<|Int.ofNat_le.mpr<|bO _
def ud(o:Option Nat):(o.map vi).getD (.int 0)=vi (o.getD 0):=by induction o<;>rfl
def Yk(h:vw s o=.D (encD kN vi L)):mP U s .get o [dP w,.int 0]=(vi<|wt L w,s):=by show(match vw s o with| .D es=>(l9<|dP w).bind λk=>if ed k es then some ((fP es k).getD<|.int 0,s)else none|_=>none)=_;refine J h ?_;dsimp only;exact J (tL _)<|J (Option.bind_some ..)<|J (au<|uc vi L w)<|J (f9 sr L w)<|J (ud _) Y
def E2(h:vw s o=.D U):hY s .get o=true:=by delta hY;exact J h Y
def oK{l}{o}(h:vw s o=.L l)(U:l.length<=2000):ku s .len [o]=(vi l.length,s):=by show(match vw s o with| .L xs=>if xs.length<=lim then some (AV.int xs.length,s)else none| .T xs=>if xs.length<=lim then some (AV.int xs.length,s)else none| .D es=>if es.length<=lim then some (AV.int es.length,s)else none|_=>none)=_;refine J h<|((au<|dE U)).trans ?_;rfl
def DB{a b}{xs}(M:vw s a=.L xs)(O:vw s b=.L [])(U:plain dp a=false):jc s .ne a b=(!decide (xs=[])):=by show BM s a b=_;delta BM eqQ;refine J U<|bV M O ?_;clear M O U;induction xs<;>rfl
def Kg{a b}{xs ys}(N:j6 a=none)(M:vw s a=.L xs)(O:vw s b=.L ys)(U:xs.length+ys.length<=2000):mT s .add a b=some (.ref s.length,s++[.L (xs++ys)]):=by dsimp only [mT];refine J N ?_;dsimp only [addQ];exact bV M O<|au<|dE U
def mulL{x}(M:j6 a=none)(O:vw s a=.L [x])(U:n<=2000):mT s .mul a (vi n)=some (.ref s.length,s++[.L (List.replicate n x)]):=by dsimp only [mT];refine J M ?_;dsimp only [mulQ];exact J O<|au<|fG.mpr ⟨dF _,Int.ofNat_le.mpr<|dE U⟩
def C4:subQ s (dP (x::w)) (.int 0)=(b5 x):=rfl
end
def vJ{n}{r}(H:bZ Φ O o U M=(x,s1))(D:bZ Φ O i U s1=some (.int n,s2))(N:nc s2 x (.to n)=some r):bZ Φ O (.tO o i) U M=r:=by simp only [Ru,H,Option.bind_some,D];exact N
def Au{n}{r}(H:bZ Φ O o U M=(x,s1))(D:bZ Φ O i U s1=some (.int n,s2))(N:nc s2 x (.m5 n)=some r):bZ Φ O (.AY o i) U M=r:=by simp only [Rw,H,Option.bind_some,D];exact N
def OA(N:bZ Φ ro o ρ st=some (.ref n,s1))(U:s1[n]? =some (.L<|xs++[x]))(M:xs.length<lim)(O:ro<=n):bZ Φ ro (.bR o .pop []) ρ st=(x,s1.set n<|.L xs):=by
 refine p8 nofun N ?_ aV ?_
 .delta hY;simp only [bS,U];rfl
 .show(((s1[n]?).bind λc=>(GZ c).bind λy=>some (n,y)).bind λp=>_)=_;refine J U<|J (Option.bind_some ..)<|bV (aq<|J ae M) (aq O) ?_;simp
def qh(h:bZ Φ ro e ρ st=(x,s1))(M:fQ s1 (.t U) x ρ=some ρ')(k:Wp (cg Φ ro N fl O ρ' s1) Q):Wp (cg Φ ro N fl (.aU (.t U) e::O) ρ st) Q:=by refine lP ?_ k;exact J vF<|J h<|J (Option.bind_some ..)<|J RG<|J M Y
def uJ(k:Q (.cont,U,O)):Wp (cg Φ D N H (.cont::M) U O) Q:=pn<|Wp.mk k
def sH(D:bZ Φ O a U N=some (.bool true,s1)){t}(M:bZ Φ O (.and H) U s1=some (.bool t,s2)):bZ Φ O (.and (a::H)) U N=some (.bool t,s2):=by simp only [yJ] at M⊢;simp only [j8];exact J D M
def RY(N:bZ Φ M a U O=some (.bool t,s1)):bZ Φ M (.and [a]) U O=some (.bool t,s1):=by simp only [yJ,j8];refine J N ?_;induction t<;>rfl
noncomputable def upd{U:Type}(F:Sy->U)(x:Sy)(c:U):Sy->U:=λy=>if y=x then c else F y
section
variable{U:List Sy}{F:Sy->AC}
def tU(O:x∈U):(pre++(U.map F++post))[pre.length+U.idxOf x]? =(F x):=J (gx ..)<|J (bW<|J (ag _)<|b9 O)<|J cE<|J (aW<|b9 O)<|J (iE _) Y
theorem map_set{α O:Type}[DecidableEq α](f:α->O)(x:α)(v:O):∀{l:List α} {i:Nat},l.Nodup->l[i]? =some x->(l.map f).set i v=l.map λy=>if y=x then v else f y
 |a::l,0,hn,h=>by cases h;rw [dZ] at hn;simp only [aZ,List.set_cons_zero];exact congrArg _<|aX λy M=>(az λ(e:y=x)=>hn.1<|jn e M).symm
 |a::l,i+1,hn,h=>by rw [dZ] at hn;refine bV aZ aZ ?_;refine J List.set_cons_succ ?_;refine J (map_set f x v hn.2 h) ?_;rw [az];intro e;exact hn.1<|J e<|aN h
def tT(M:U.Nodup)(O:x∈U):(pre++(U.map F++post)).set (pre.length+U.idxOf x) c=pre++(U.map (upd F x c)++post):=(sx ..).trans<|J (List.set_append_left _ _<|J (ag _)<|b9 O)<|J (map_set F x c M<|J (aW<|b9 O)<|J (iE _) Y) Y
end
def qS:∀{xs:List (Nat×AV)},ml xs=true->mK k xs=true:=by intro xs;exact xs.rec (λx=>rfl) λU M O x=>J5 ⟨dz (Bool.and_eq_true_iff.mp x).1,O (Bool.and_eq_true_iff.mp x).2⟩
section
variable{f:Nat}
def VL(N:bZ Φ M a U O=some (.bool true,s1)):bZ Φ M (.or (a::D)) U O=some (.bool true,s1):=by simp only [Ot,j8];exact J N Y
def Av(D:bZ Φ O a U M=some (.bool false,s1)){t}(N:bZ Φ O b U s1=some (.bool t,s2)):bZ Φ O (.or [a,b]) U M=some (.bool t,s2):=by simp only [Ot,j8];refine J D ?_;simp [N];induction t<;>rfl
def xy{t}{r}(M:bZ Φ ro c ρ U=some (.bool t,s1))(O:bZ Φ ro (bif t then a else b) ρ s1=some r):bZ Φ ro (.ite c a b) ρ U=r:=by simp only [Rz];refine J M ?_;induction t<;>exact O
def zt{k}{fs}(h:bZ Φ U e M D=(x,s1))(w:bZ Φ U o M s1=some (.ref n,s2))(j:s2[n]? =some (.O k fs))(A:(Nat.blt fs.length 100&&m9 k f)=true)(B:U<=n)(L:Wp (cg Φ U N q H M<|s2.set n<|.O k<|ng fs f x) Q):Wp (cg Φ U N q (.aU (.bG o f) e::H) M D) Q:=by refine And.elim (λX P=>?_)<|Bool.and_eq_true_iff.mp A;refine lP ?_ L;simp only [vF,h,Jv,w,Option.bind_some];simp only [Lm,j,Option.bind_some];delta PK;simp only [aq (aJ (bC X) .refl),aq B,P];rfl
def Em(B:gP Φ N A D L=(H,s1))(X:TB.init k=f)(Q:Φ N f (.ref s1.length::H) (s1++[.O k []])=some (.none,s1++[.O k U]))(P:ml U=true):bZ Φ N (.new k A false) D L=some (.obj k U,s1):=by refine J Ju<|J B<|J (Option.bind_some ..)<|J X<|J (Option.bind_some ..)<|J Q ?_;show(if(!lS AV.none)=true then none else if false=true then _ else(iH (s1++[.O k U]) s1.length 6<|.ref s1.length).bind λa=>(gG (s1++[.O k U]) s1.length 6 s1<|s1++[.O k U]).bind λM=>some (a,M))=_;exact bV (Vy .refl (gn ..) P) (kJ ..) Y
def RV{k}(L:gP Φ U P M N=(xs,s1))(H:TB.init k=f)(D:Φ U f (.ref s1.length::xs) (s1++[.O k []])=some (.none,s2)):bZ Φ U (.new k P true) M N=some (.ref s1.length,s2):=J Ju<|J L<|J (Option.bind_some ..)<|J H<|J (Option.bind_some ..)<|J D Y
def yH{U d:Nat}{c:AC}{D:St}(L:c≠M):∀{st:St},gG O U d (st++[M]) (st++c::D)=(jT O U d c).bind λy=>some (st++[y]):=by
 intro st;exact st.rec (by
  show(if c=M then some M else jT O U d c).bind (λy=>(some []).bind λN=>some (y::N))=_;exact J (az L) Y) λa st H=>by
  show(if a=a then some a else jT O U d a).bind (λy=>(gG O U d (st++[M]) (st++c::D)).bind λN=>some (y::N))=_;refine bV (au Y) H ?_;induction jT O U d c<;>rfl
def OE(U:St)(N:AC)(P:AC->Prop)(r:Out×En×St):Prop:=r.1=.next/\∃c M O,r.2.2=U++c::M/\c≠N/\jT r.2.2 (U.length+1) 6 c=some O/\P O
def Dm{args}(O:(!F.HM&& !F.keep&&(Nat.ble args.length F.params&&(Nat.ble F.params (args.length+F.dflt.length)&&Nat.ble F.params F.slots)))=true)
  (h:Wp (cg Φ D N (U.length+1) F.body ((args++F.dflt.drop (F.dflt.length-(F.params-args.length))).map some++List.replicate (F.slots-F.params) none)<|U++[X]) (OE U X P)):∃M,P M/\kC Φ D N F args (U++[X])=some (.none,U++[M]):=by
 simp only [cF,Nat.ble_eq,Bool.not_eq_true'] at O;delta kC;refine J (au O.2)<|wo O.1.1 O.1.2 ae ?_;obtain⟨⟨o,w,s2⟩,j,Q,c,q,M,L,A,H,B⟩:=h;refine⟨M,B,?_⟩;dsimp only at Q L H;subst Q L;refine bV (show(if false=true then U.length+1 else D)=D from Y) j ?_;simp only [Option.bind_some];exact J (yH A)<|J H Y
def OQ(U:St)(M N:AC)(r:Out×En×St):Prop:=r.1=.next/\∃c O,r.2.2=U++c::O/\c≠M/\jT r.2.2 (U.length+1) 6 c=some N
def yf{args}(L:(!F.HM&& !F.keep&&(Nat.ble args.length F.params&&(Nat.ble F.params (args.length+F.dflt.length)&&Nat.ble F.params F.slots)))=true)
  (h:Wp (cg Φ H N (O.length+1) F.body ((args++F.dflt.drop (F.dflt.length-(F.params-args.length))).map some++List.replicate (F.slots-F.params) none)<|O++[M]) (OQ O M D)):kC Φ H N F args (O++[M])=some (.none,O++[D]):=by
 obtain⟨_,B,e⟩:=Dm L<|h.mono λr h=>⟨h.1,h.2.elim λc U=>U.elim λA U=>U.elim λX U=>U.elim λQ P=>⟨c,A,D,X,Q,P,Y⟩⟩;exact J B e
def VQ{H:Type}{O:E}(o:∀ρ s,bZ Φ M O ρ s=some (.ref s.length,s++[Q])){X:E}{own:List Nat}{l:List H}{U:H->AV}{B:Option (Nat×AC)}{D:H->En}(h:bZ Φ M X ρ N=(x,s1))(w:dR M s1 x=(l.map U,B))(q:∀cs,cT (s1++cs) B)(j:l.length<=2000)(A:∀y,nr m (U y) (dO own ρ)=(D y)):
  bZ Φ M (.lc O [(.v m,X,[])] own) ρ N=some (.ref s1.length,s1++ .L ((List.range l.length).map λi=>.ref<|s1.length+1+i)::List.replicate l.length Q):=by
 simp only [Eb,h,w,Option.bind_some];obtain⟨n,b,rfl⟩:=GS (t:=.v m) (chk:=nS Φ M true []) (inner:=FO Φ M (λρ N=>(bZ Φ M O ρ N).bind<|lM s1.length) []) U (λd s=>s=s1++ .L ((List.range d.length).map λi=>.ref<|s1.length+1+i)::List.replicate d.length Q) (st:=s1++[.L []]) Y λd y r s g P=>by
  subst P;show Wp ((nr m (U y)<|dO own ρ).bind _) _;simp only [A y,o]
  have hlen:((List.range d.length).map λi=>AV.ref<|s1.length+1+i).length<lim:=by refine J (ag _)<|J aO<|fH ?_;have:=congrArg List.length g;simp only [ae] at this;exact lq [_,_,_] [aH aE (.c 2000),.p 1 aE (.a ax<|.s a7)] ax (.c 2000) Y j this
  show Wp (lM s1.length (AV.ref _,_++[Q])) _;delta lM;refine J (aj ..)<|J fa<|J (gn ..)<|J TX<|J (Option.bind_some ..)<|J (au hlen)<|J (rW ..)<|Wp.mk ⟨q _,?_⟩;simp only [ae,bj,cM,List.range_succ,aR,List.replicate_succ',ck d.length 1,<-bB];rfl
 exact eY (congrArg _ b) _
def VM{O:Type}{m}{it}{own}{l:List O}{enc}{M}{U:O->En}(h:bZ Φ ro it ρ st=(x,s1))(P:dR ro s1 x=(l.map enc,M))(Q:∀cs,cT (s1++cs) M)(H:l.length<=2000)(D:∀y,nr m (enc y) (dO own ρ)=(U y)):
  bZ Φ ro (.lc (.aM []) [(.v m,it,[])] own) ρ st=some (.ref s1.length,s1++ .L ((List.range l.length).map λi=>.ref<|s1.length+1+i)::List.replicate l.length (.L [])):=VQ (λN N=>rfl) h P Q H D
end
def BS:∀{fs:List (Nat×AV)},mK D fs=true->cY (λe=>(iH s D d e.2).bind λy=>some (e.1,y)) fs=some fs:=by intro fs;exact fs.rec (λh=>rfl) λU fs O h=>(Bool.and_eq_true_iff.mp h).elim λN M=>(dq ..).trans<|bV (b8 N) (O M) Y
def B9(h:cY (λe=>(iH s M d e.2).bind λy=>some (e.1,y)) U=some N):jT s M d (.O c U)=some (.O c N):=by show(if mK M U then some (AC.O c U)else(cY (λe=>(iH s M d e.2).bind λy=>some (e.1,y)) U).bind λN=>some<|AC.O c N)=_;exact if b:mK M U=true then J (au b) (jn (ak<|(BS b).symm.trans h) Y)else J (az b) (J h Y)
def vt(h:M<=n)(e:s[n]? =some (.L O))(m:cY (iH s M d) O=some U)(p:gD U=true):iH s M (d+1) (.ref n)=some (.aM U):=if b:gD O=true then(iQ h e b).trans (jn (ak<|(l5 λx N=>b8<|dz<|lZ.mp b x N).symm.trans m) Y)else(xl h e).trans ((az b).trans<|J m<|au p)
def zf{l:List (Nat×AV)}(N:iH s U d x=some y)(M:cY (λe=>(iH s U d e.2).bind λy=>some (e.1,y)) l=some O):cY (λe=>(iH s U d e.2).bind λy=>some (e.1,y)) ((f,x)::l)=((f,y)::O):=(dq ..).trans<|bV N M Y
structure Ex where
 lv:Nat->Int
 o1:AV
 o2:AV
 o3:AV
def nv(G:Gr)(x:Sy):AV:=.int<|G.num x
def nR(G:Gr)(lv:Nat->Int)(q:(Sy×List Sy)×Nat):AV:=.obj 116 [(4,vi q.2),(5,nv G q.1.1),(6,.aL<|q.1.2.map<|nv G),(7,.int<|lv q.2),(8,.none),(9,vi 0),(10,vi 0)]
noncomputable def qw(G:Gr)(d:List ((Sy×List Sy)×Nat))(x:Sy):List Nat:=(d.filter λq=>decide<|q.1.1=x).map (·.2)
def Yl(G:Gr)(U:Nat->Int)(a b c d:AV):List (Nat×AV):=[(11,.aM<|G.cK.map b5),(12,vi G.tm.length),(13,.aM<|G.rl.zipIdx.map<|nR G U),(14,a),(15,.none),(16,nv G .s),(17,b),(18,c),(19,d)]
def jG(G:Gr)(e:Ex):AV:=.obj 198<|Yl G e.lv (.bK []) (.aM<|G.cK.map λx=>.aM<|li<|qw G G.rl.zipIdx x) e.o1 e.o2++[(20,e.o3)]
section
variable{G:Gr}
def vZ:og U (jG G e) 11=some (.aM<|G.cK.map b5):=rfl
def OO:og U (jG G e) 12=(vi G.tm.length):=rfl
def oZ:og st (jG G e) 13=some (.aM<|G.rl.zipIdx.map<|nR G e.lv):=rfl
def Wk:og U (jG G e) 16=(nv G .s):=rfl
def Wj:og U (jG G e) 17=some (.aM<|G.cK.map λx=>.aM<|li<|qw G G.rl.zipIdx x):=rfl
def Ss{q}:og U (nR G O q) 4=(vi q.2):=rfl
def J8{q}:og U (nR G O q) 5=(nv G q.1.1):=rfl
def vY{q}:og U (nR G O q) 6=some (.aL<|q.1.2.map<|nv G):=rfl
def gz k(r:List Sy):belows k (r.map<|nv G)=true:=dB<|bT λU U=>rfl
def ll(U:x∈G.cK):G.num x=G.cK.idxOf x:=au U
def yv:li l++[vi k]=li (l++[k]):=by delta li;exact J aR Y
end
def Wp.eq{U}{o}{a:U}(h:Wp o λr=>r=a):o=a:=by refine h.elim λ_ O=>O.elim λe q=>?_;exact jn q e
def Gr.no(G:Gr)(x:Sy):List Nat:=qw G G.rl.zipIdx x
structure KS(Φ:Fs)(G:Gr)(e:Ex):Prop where
 cnt:∀ro st,Φ ro 139 [jG G e] st=some (vi G.cK.length,st)
 XB:∀ro st x,x∈G.cK->Φ ro 146 [jG G e,nv G x] st=some (.bool<|decide<|x∈G.tm,st)
 XW:∀ro st x,x∈G.cK->Φ ro 167 [jG G e,nv G x] st=some (.aM<|li<|G.no x,st)
 nbr:∀ro st x,x∈G.cK->Φ ro 160 [jG G e,b5 x] st=some (nv G x,st)
section
variable{G:Gr}{e:Ex}
def sg:(G.no x).length<=G.rl.length:=by delta Gr.no qw;exact J (ag _)<|jn (cQ (l:=G.rl))<|bN ..
def BJ(h:n∈G.no x):∃p,G.rl[n]? =some p/\p.1=x:=by obtain⟨⟨p,_⟩,U,O⟩:=mM h;refine jn O ?_;have:=mF U;exact⟨p,List.mk_mem_zipIdx_iff_getElem?.mp this.1,aB this.2⟩
def me{U:Type}{f:U->AV}{l:List U}{a:U}(h:vw s y=.L (l.map f))(O:n<=1000)(e:l[n]? =some a):subQ s y (vi n)=(f a):=by simp only [subQ,h];show(if nI (n:Int)then(l.map f)[((n:Nat):Int).toNat]? else none)=_;exact J (au<|m4<|aa O<|bM Y)<|J (gZ _)<|J cE<|J e Y
def Ul{U:Type}{f}{l:List U}{a}(h:vw s y=.T (l.map f))(O:n<=1000)(e:l[n]? =some a):subQ s y (vi n)=(f a):=by simp only [subQ,h];show(if nI (n:Int)then(l.map f)[((n:Nat):Int).toNat]? else none)=_;exact J (au<|m4<|aa O<|bM Y)<|J (gZ _)<|J cE<|J e Y
def qo(O:G.rl.length<=12)(U:G.rl[k]? =some p):subQ M (.aM<|G.rl.zipIdx.map<|nR G e.lv) (vi k)=(nR G e.lv (p,k)):=
 me Y (aa (bx (List.getElem?_eq_some_iff.mp U).1)<|aa O<|bM Y) (J List.getElem?_zipIdx<|bV U (bu _) Y)
def JP(O:G.cK.length<=10):kC Φ M N j7 [jG G e] U=(vi G.cK.length,U):=
 Wp.eq (gT Y<|mj (cx (aA (dM Y vZ) aV)<|J (oK Y<|J (ag _)<|aa O<|bM Y)<|J (ag _) Y) Y Y)
def sU:jc s .lt (vi a) (vi b)=(decide<|a<b):=congrArg _<|dD Int.ofNat_lt
def pX:jc s .gt (vi a) (vi b)=(decide<|b<a):=congrArg _<|dD Int.ofNat_lt
def Lc(M:G.cK.Nodup)(O:x∈G.cK):kC Φ D N kB [jG G e,nv G x] U=some (.bool<|decide<|x∈G.tm,U):=
 Wp.eq (gT Y<|mj (cp Y (dM Y OO)<|sU.trans<|congrArg _<|dD<|Gr.Qe M O) Y Y)
def Il(h:vw s y=.L l)(U:l.length<=2000):ku s .list [y]=some (.ref s.length,s++[.L l]):=by show(Bq<|vw s y).bind _=_;exact J h<|eY (congrArg _<|au<|dE U) _
def Hx(D:G.cK.length<=10)(M:G.rl.length<=12)(O:x∈G.cK):kC Φ H N mB [jG G e,nv G x] U=some (.aM<|li<|G.no x,U):=
 Wp.eq (gT Y<|jo (cx (aA (dh (dM Y Wj) Y<|me Y (aa (bx<|Gr.jE O)<|aa D<|bM Y)<|Gr.jz O) aV)<|Il Y (by simp only [li];exact J (ag _)<|aa sg<|aa M<|bM Y)) (iQ .refl (gn U [] _)<|DP _) Y)
end
def kA(G:Gr)(x:Sy):KA:=.int<|G.num x
def kW(G:Gr)(w:List Sy):KV:=.t<|w.map<|kA G
def gO(G:Gr)(w:List Sy):AV:=.aL<|w.map<|nv G
def k2(G:Gr)(p:Sy×Nat):KV:=.t [.int (G.num p.1),.int p.2]
def oq(G:Gr)(L:List (List Sy×Nat)):AV:=.bK<|encD (kW G) vi L
section
variable{G:Gr}{L:List (List Sy×Nat)}{c:Nat}
def mv(U:G.cK.length<=10)(v w)(h:kW G v=kW G w):v=w:=by injection h with h;exact Ih (λx y e=>Gr.mZ U (by injection e with e;exact Int.ofNat_inj.mp e)) h
def Px:∀w:List Sy,cY qd (w.map<|nv G)=(w.map<|kA G):=λw=>w.rec Y λx w U=>bV aZ (dq ..)<|J U Y
def nU:l9 (gO G w)=(kW G w):=by show(cY qd<|w.map<|nv G).bind _=_;exact J (Px _) Y
def B0:(encD (kW G) f L).map (λe=>e.1.av)=L.map λp=>gO G p.1:=List.map_map.trans<|aX λp U=>congrArg _ bJ
def B2(U:G.cK.length<=10)(p q)(h:k2 G p=k2 G q):p=q:=by injection h with h;injection h with h1 h;injection h with h2;injection h1 with h1;injection h2 with h2;exact Prod.ext (Gr.mZ U<|Int.ofNat_inj.mp h1)<|Int.ofNat_inj.mp h2
def rp:ed (kW G w) (encD (kW G) f L)=true:=l6 (λU U=>rfl) L w
def yF{L:List ((Sy×Nat)×O)}:ed (k2 G p) (encD (k2 G) f L)=true:=l6 (λU U=>rfl) L p
def Kb(h:v.length+w.length<=2000):mT U .add (gO G v) (gO G w)=(gO G<|v++w,U):=by show(if(v.map<|nv G).length+(w.map<|nv G).length<=lim then some (AV.aL<|v.map (nv G)++w.map (nv G),U)else none)=_;exact bV (ag _) (ag _)<|J (au<|dE h)<|jn aR Y
def sW{U:Type}{f}{l:List U}(h:l.length<=2000):ku st .len [.aL (l.map f)]=(vi l.length,st):=by show(if(l.map f).length<=lim then some (AV.int (l.map f).length,st)else none)=_;exact J (ag _)<|au<|dE h
def pF(h:L.length<=2000):dR ro U (oq G L)=some (L.map λp=>gO G p.1,none):=by show(if(encD (kW G) vi L).length<=lim then some ((encD (kW G) vi L).map λe=>e.1.av,none)else none)=_;exact J (gU _)<|J (au<|dE h)<|J B0 Y
def wX(U:G.cK.length<=10)(h:fc L w=c):subQ O (oq G L) (gO G w)=(vi c):=by show((l9<|gO G w).bind λk=>if ed k (encD (kW G) vi L)then fP (encD (kW G) vi L) k else none)=_;exact J nU<|J (Option.bind_some ..)<|J (au rp)<|J (f9 (mv U) ..)<|J h Y
def Oi(U:G.cK.length<=10)(h:vw s o=.D (encD (kW G) vi L)):mP O s .get o [gO G w,.int 0]=(vi<|wt L w,s):=by show Jb s (gO G w) (.int 0) (vw s o)=_;refine J h ?_;show((l9<|gO G w).bind λk=>if ed k (encD (kW G) vi L)then some ((fP (encD (kW G) vi L) k).getD<|.int 0,s)else none)=_;exact J nU<|J (Option.bind_some ..)<|J (au rp)<|J (f9 (mv U) ..)<|J (ud _) Y
def tZ(h:G.Ok):G.num x=1↔x=.err:=⟨λq=>Gr.mZ h.dN<|q.trans h.err.1.symm,λq=>J q h.err.1⟩
end
def WL(len:Nat)(L:List (List Sy×Nat)):Prop:=Nk L/\∀p∈L,p.1.length<=len/\0<p.2
def WL.add(h:WL len L)(D:k.length<=len)(N:0<v):WL len (kc L k v):=⟨rP h.1 ..,λp M=>(sO M).elim (h.2 p) λ⟨O,U⟩=>bV O U ⟨D,aJ N<|cJ ..⟩⟩
def WL.kn(h:WL len L)(O:len<=3):L.length<=1331:=lV h.1 λp U=>aa (h.2 p U).1 O
abbrev NH:=List<|(Sy×Nat)×List (List Sy×Nat)
def tF(W:NH)(x:Sy)(m:Nat):List (List Sy×Nat):=(fc W (x,m)).getD []
structure Sx(W:NH):Prop where
 nk:∀x m,Nk<|tF W x m
 wd:∀x m,∀p∈tF W x m,p.1.length=m/\0<p.2
def Dt(G:Gr)(W:NH)(x:Sy)(v:List Sy):Nat:=if x∈G.tm then(if v=[x]/\x≠.err then 1 else 0)else wt (tF W x v.length) v
def r5(L:List (List Sy×Nat)):Nat:=lR L λU=>1
def zU [DecidableEq U]{L}(n:Nk L) k(F:U->Nat)(h:∀p∈L,p.1≠k->F p.1=0):lR L F=wt L k*F k:=by
 have e:lR L F=lR L λa=>if a=k then F k else 0:=xe λp O=>if c:p.1=k then J (au c) (J c Y)else J (az c) (h p O c)
 rw [e,DO n k,au Y];exact λa M=>az M
def Fp(D:Sy->List Sy->Nat)(w rest p:List Sy):Nat:=if p <+: w then sq D rest (w.drop p.length)else 0
def xY:sq D (x::rest) w=((List.range<|w.length+1).map λm=>D x (w.take m)*sq D rest (w.drop m)).sum:=by show gk 0 w.length (λg=>D x (sl w 0 g)*mX (λx i j=>D x<|sl w i j) rest g w.length)=_;simp only [gk,kh];refine sum_map_congr _ _ _ λm U=>J (bu _)<|J (C7 D rest w (aK<|mR U) .refl) ?_;simp only [sl,List.drop_zero,kh,bP (l:=w.drop m) (J List.length_drop .refl)]
def Bk:sq D [] w=if w=[] then 1 else 0:=by induction w<;>rfl
def CS(h:v.length<=w.length):Fp D (p++w) rest (p++v)=if v=w.take v.length then sq D rest (w.drop v.length)else 0:=by delta Fp;refine J ae<|jn iu<|J (jC Y)<|ite_congr (propext (List.prefix_append_right_inj p |>.trans List.prefix_iff_eq_take)) (λU=>rfl) λU=>rfl
def OZ(h:¬p <+: w):Fp D w rest (p++v)=0:=az λq=>h<|(List.prefix_append p v).trans q
def CQ:Fp D (p++w) rest p=sq D rest w:=by rw [Fp,au<|List.prefix_append p w,jC Y]
def A3(M:Sx W)(H:x∉G.tm):((List.range<|w.length+1-p.length).map λm=>lR (tF W x m) λv=>Fp (Dt G W) w rest<|p++v).sum=Fp (Dt G W) w (x::rest) p:=if c:p <+: w then(by obtain⟨u,rfl⟩:=c;simp only [CQ,xY,ae,bB,bY];refine sum_map_congr _ _ _ λm U=>?_;have U:=aK<|mR U;have D:(u.take m).length=m:=J cL<|cj U;rw [Dt,az H,zU (M.nk x m)<|u.take m,CS<|D.symm▸U,D,au Y];exact λq N O=>J (CS<|((M.wd x m q N).1)▸U)<|J ((M.wd x m q N).1)<|az O)else J (show Fp (Dt G W) w (x::rest) p=0 from az c) (gj _ _ λm _=>gj _ _ λq _=>by dsimp only;exact congrArg _<|OZ c)
def EM(H:x∈G.tm):Fp (Dt G W) w (x::rest) p=if p.length<w.length/\x≠.err then Fp (Dt G W) w rest (p++[x])else 0:=by
 have D:∀v,Dt G W x v=if v=[x]/\x≠.err then 1 else 0:=λv=>au H
 by_cases c:p <+: w
 .obtain⟨u,rfl⟩:=c;refine J CQ (J xY ?_)
  have N:∀m∈List.range (u.length+1),m≠1->Dt G W x (u.take m)*sq (Dt G W) rest (u.drop m)=0:=λm U M=>by refine J (D _) ?_;rw [az,cA];intro q;have:=congrArg List.length q.1;simp only [cL,cj (aK<|mR U)] at this;exact M this
  induction u with
  |nil=>exact J (az λq=>by rw [aC] at q;exact cu _ q.1)<|gj _ _ λm U=>N m U (by have:=mR U;exact dH this)
  |cons y u=>
   refine(C3 iq (Ii<|Nat.succ_lt_succ<|bO _) _ N).trans (bV (D _) (CS (v:=[x]) (w:=y::u)<|bO _) ?_);exact if c2:x=.err then J (az λq=>q.2 c2) (bV (az λq=>q.2 c2) (cA _) Y)else by exact J (au (c:=p.length<(p++y::u).length/\x≠.err) ⟨(J ae<|bX<|bO _),c2⟩) (if O:[y]=[x] then J (au ⟨O,c2⟩) (bV (au O.symm) (i7 _) Y)else J (az λq=>O q.1) (bV (az λq=>O q.symm) (cA _) Y))
 .refine J (show Fp (Dt G W) w (x::rest) p=0 from az c) ?_;split
  .exact(OZ c).symm
  .rfl
inductive LI{σ:Type}(f:σ->En×St)(I:σ->Prop):En->St->Prop
 |mk (x:σ) (h:I x):LI f I (f x).1 (f x).2
section
variable{y:AV}
def gv x(e:f x=(ρ,U))(O:cT U M)(h:I x):Wp (cg Φ ro N D [] ρ U) (LQ M<|LI f I):=bU ⟨.inl Y,O,jn e ⟨x,h⟩⟩
def BA x(e:f x=(O,U))(M:cT U N)(h:I x):LQ N (LI f I) (.cont,O,U):=⟨.inr Y,M,jn e ⟨x,h⟩⟩
def TR(h:iH U O 6 x=y):lx U O x=some (some y):=by show(iH U O 6 x).bind _=_;exact eY (congrArg _ h) _
def fV{M:Type}{l}{enc}{f:List M->L->En×St}{I:List M->L->Prop}{O:List M->M->L->En} U(h:bZ Φ ro it ρ P=(x,(f [] U).2))(j:dR ro (f [] U).2 x=(l.map enc,v))(D:ρ=(f [] U).1)(q:I [] U)
  (w:∀d y x,fQ (f d x).2 tt (enc y) (f d x).1=(O d y x))
  (B:∀d y r x,l=d++y::r->I d x->Wp (cg Φ ro N (f [] U).2.length body (O d y x) (f d x).2) (LQ v<|LI (f<|d++[y])<|I<|d++[y]))
  (k:∀x,I l x->Wp (cg Φ ro N fl X (f l x).1 (f l x).2) Q):Wp (cg Φ ro N fl (.dT tt it body::X) ρ P) Q:=gu (I:=λd=>LI (f d)<|I d) h j (J D ⟨U,q⟩) (λd y r ρ s A H=>(by induction H with|mk x hx=>exact kp (w d y x)<|B d y r x A hx)) λρ s H=>(by induction H with|mk x hx=>exact k x hx)
def XQ(Q Jzq:Out×En×St->Prop)(r:Out×En×St):Prop:=Jzq r\/∃v,r.1=.ret v/\Q r
set_option tactic.hygienic true in
def LI.el{P:En->St->Prop}(h:LI f I U s)(k:∀x,I x->P (f x).1 (f x).2):P U s:=by induction h;rename_i x O;exact k x O
def HF{α:Type}{l}{enc}{f:List α->j->En×St}{I:List α->j->Prop}{H:List α->α->j->En} M(h:bZ Φ D it O st=(x,(f [] M).2))(hi:dR D (f [] M).2 x=(l.map enc,t))(g:O=(f [] M).1)(h0:I [] M)
  (b:∀d y x,fQ (f d x).2 i (enc y) (f d x).1=(H d y x))
  (hs:∀d y r x,l=d++y::r->I d x->Wp (cg Φ D N (f [] M).2.length body (H d y x) (f d x).2) (XQ Q<|LQ t<|LI (f<|d++[y])<|I<|d++[y]))
  (k:∀x,I l x->Wp (cg Φ D N n c (f l x).1 (f l x).2) Q):Wp (cg Φ D N n (.dT i it body::c) O st) Q:=by
 have w:∀(r d:List α) (x:j),l=d++r->I d x->Wp (my (λx O st=>fQ st i x O) (cg Φ D N (f [] M).2.length body) t (r.map enc) (f d x).1 (f d x).2) (XQ Q λo=>o.1=.next/\LI (f l) (I l) o.2.1 o.2.2):=λr=>r.rec (λd x e p=>Wp.mk<|.inl ⟨Y,J e<|J (aC _) ⟨x,p⟩⟩) λy r ih=>by
   refine λd x e p=>bQ (hs d y r x e p) λo L=>And.elim (λA U=>?_) L;refine U.elim (λU=>?_) λq=>by refine bQ q λv L=>And.elim (λB X=>?_) L;exact⟨o,Rm (b d y x) A B,.inr ⟨v,B,X⟩⟩
   exact J aZ<|J (Om (b d y x) A U.1 U.2.1)<|U.2.2.el (P:=λO s=>Wp (my _ _ _ _ O s) _) λx hx=>ih (d++[y]) x (e.trans<|ji ..) hx
 refine pn<|J Jx<|J h<|J (Option.bind_some ..)<|J hi<|J g ?_;obtain⟨o,A,U⟩:=w l [] M Y h0;refine⟨o,A,?_⟩;obtain⟨o1,a,s2⟩:=o;refine U.elim (λU=>?_) λU=>?_
 .exact U.1▸U.2.el (P:=λO s=>Wp (cg Φ D N n c O s) Q) k
 .refine bQ U λv L=>And.elim (λB X=>?_) L;rw [show o1=.ret v from B] at X⊢;exact X
def HG x(e:f x=(O,U))(M:cT U D)(h:I x):Wp (cg Φ H N L [] O U) (XQ Q<|LQ D<|LI f I):=bU<|.inl ⟨.inl Y,M,jn e ⟨x,h⟩⟩
def WQ(f:σ->En×St)(I:Nat->σ->Prop)(k:Nat)(r:Out×En×St):Prop:=(r.1=.next\/r.1=.cont)/\∃j,j<k/\LI f (I j) r.2.1 r.2.2
def HH x j(e:f x=(U,O))(M:j<k)(h:I j x):Wp (cg Φ D N H [] U O) (WQ f I k):=bU ⟨.inl Y,j,M,jn e ⟨x,h⟩⟩
def HD{body}{f}{I}{k}(D:j)(X:k<N)(e0:f D=(M,U))(B:I k D)
  (P:∀k x,I k x->(∃s2,bZ Φ O c (f x).1 (f x).2=some (.bool false,s2)/\Wp (cg Φ O N A L (f x).1 s2) Q)\/∃s2,bZ Φ O c (f x).1 (f x).2=some (.bool true,s2)/\0<k/\Wp (cg Φ O N U.length body (f x).1 s2) (WQ f I k)):Wp (cg Φ O N A (.A4 c body::L) M U) Q:=by
 refine zr (λk=>LI f<|I k) X (show LI f (I k) (M,U).1 (M,U).2 from jn e0 ⟨D,B⟩) λk H w h=>?_;induction h with|mk x hx=>exact P k x hx
def lK(h:bZ Φ U c O M=some (.bool true,s1))(k:Wp (cg Φ U N fl p O s1) (Kq Φ U N fl D Q)):Wp (cg Φ U N fl (.jt c p q::D) O M) Q:=jX h k
def UG(h:bZ Φ U c O D=some (.bool false,s1))(k:Wp (cg Φ U N M q O s1) (Kq Φ U N M H Q)):Wp (cg Φ U N M (.jt c p q::H) O D) Q:=jX h k
def jl(h:bZ Φ O c U M=some (.bool false,s1))(k:Wp (cg Φ O N H D U s1) Q):Wp (cg Φ O N H (.jt c p []::D) U M) Q:=jX h<|bU k
def Hn [Decidable P](h:o=some (decide P))(c:P):o=true:=h.trans<|congrArg some<|aq c
def Ho [Decidable P](h:o=some (decide P))(c:¬P):o=false:=h.trans<|congrArg some<|aF c
def Lv [Decidable P](h:o=some (!decide P))(c:¬P):o=true:=h.trans<|congrArg some<|J (aF c) Y
def Dc [Decidable P](h:o=some (!decide P))(c:P):o=false:=h.trans<|congrArg some<|J (aq c) Y
def lD [Decidable P]{o:Option (AV×St)}(h:o=some (.bool<|decide P,s))(c:P):o=some (.bool true,s):=h.trans<|J (aq c) Y
def lE [Decidable P]{o:Option (AV×St)}(h:o=some (.bool<|decide P,s))(c:¬P):o=some (.bool false,s):=h.trans<|J (aF c) Y
def Iu{U}(X:fQ N t x M=some U)(Q:O U N=some (true,s1))(P:inner U s1=some s2)(L:cT s2 D)(k:lr t O inner D H M s2=r):lr t O inner D (x::H) M N=r:=by rw [lr];exact J X<|J (Option.bind_some ..)<|J Q<|J (Option.bind_some ..)<|J (au Y)<|J P<|J (Option.bind_some ..)<|J (au L) k
def Vg{x}{U}(Q:fQ N t x M=some U)(P:O U N=some (false,s1))(L:cT s1 D)(k:lr t O inner D H M s1=r):lr t O inner D (x::H) M N=r:=by simp only [lr,Q,P,Option.bind_some];exact(au L).trans k
def Ef{acc}{more:St}{v}(h:acc.length<2000)(e:bZ Φ M a U O=(v,s1++ .L acc::more)):(bZ Φ M a U O).bind (lM s1.length)=(s1++ .L (acc++[v])::more):=by rw [e,Option.bind_some,lM];exact J (gn ..)<|(au<|fH<|bx h).trans<|congrArg some<|rW ..
def zX{U:Type}{acc}{v y:U}{l}{u:AV}(h:acc.length+(y::l).length<=2000):(acc++[u]).length+l.length<=2000:=J ae<|J (bB ..)<|J (ck [u].length _) h
def QH{P:Type}{Q}{elt}{ifs}{enc}{U:P->En}{p}{g}{more:St}(B:∀ys,cT (s1++ .L ys::more) w){l:List P}:∀{acc},acc.length+l.length<=2000->
  (∀y∈l,∀ys,fQ (s1++ .L ys::more) Q (enc y) M=(U y)/\nS Φ N true ifs (U y) (s1++ .L ys::more)=(p y,s1++ .L ys::more)/\(p y=true->bZ Φ N elt (U y) (s1++ .L ys::more)=(g y,s1++ .L ys::more)))->
  lr Q (nS Φ N true ifs) (λM j=>(bZ Φ N elt M j).bind<|lM s1.length) w (l.map enc) M (s1++ .L acc::more)=(s1++ .L (acc++(l.filter p).map g)::more):=by
 induction l with
 |nil=>exact λA A=>congrArg (λz=>some (s1++AC.L z::more)) (aC _).symm
 |cons y l X=>
  intro acc H O;induction hp:p y with
  |false=>exact J (List.filter_cons_of_neg<|by exact J hp Bool.false_ne_true)<|Vg (O y (.head _) acc).1 ((O y (.head _) acc).2.1.trans<|congrArg (λb=>some (b,_)) hp) (B _)<|X (eJ H) λz D=>O z<|.tail _ D
  |true=>exact J (List.filter_cons_of_pos hp)<|J (aZ (f:=g))<|J (ji acc ..)<|Iu (O y (.head _) acc).1 ((O y (.head _) acc).2.1.trans<|congrArg (λb=>some (b,_)) hp) (Ef (aJ (bX<|bO _) H)<|(O y (.head _) acc).2.2 hp) (B _)<|X (zX (v:=y) H) λz D=>O z<|.tail _ D
inductive Z3{α β:Type}(Φ:Fs)(ro:Nat)(s1:St)(ρ:En)(t1 t2:T)(it2 elt:E)(ifs:List E)(enc:α->AV)(enc2:β->AV)(m:α->List β)(ρ1:α->En)(ρ2:α->β->En)(p:α->β->Bool)(g:α->β->AV)(Jzq:List AV->St->Prop)(y:α)(ys:List AV)(more:St):Prop
 |mk (mo gd2 z) (a0:Jzq (ys++((m y).filter<|p y).map (g y)) (more++mo)) (a1:fQ (s1++ .L ys::more) t1 (enc y) ρ=some (ρ1 y)) (a2:bZ Φ ro it2 (ρ1 y) (s1++ .L ys::more)=some (z,s1++ .L ys::(more++mo))) (a3:dR ro (s1++ .L ys::(more++mo)) z=some ((m y).map enc2,gd2)) (a4:∀ys,cT (s1++ .L ys::(more++mo)) gd2)
   (a5:∀c∈m y,∀ys,fQ (s1++ .L ys::(more++mo)) t2 (enc2 c) (ρ1 y)=some (ρ2 y c)/\nS Φ ro true ifs (ρ2 y c) (s1++ .L ys::(more++mo))=some (p y c,s1++ .L ys::(more++mo))/\(p y c=true->bZ Φ ro elt (ρ2 y c) (s1++ .L ys::(more++mo))=some (g y c,s1++ .L ys::(more++mo))))
def QG{m}{p:B->a->Bool}(o:∀more ys,cT (s1++ .L ys::more) c){l:List B}:∀{acc} {more:St},acc.length+(l.flatMap m).length<=2000->Jzq acc more->
  (∀y∈l,∀ys more,Jzq ys more->Z3 Φ M s1 O j A N elt ifs enc P m X Q p g Jzq y ys more)->
  ∃U,lr j (nS Φ M true []) (FO Φ M (λO w=>(bZ Φ M elt O w).bind<|lM s1.length) [(A,N,ifs)]) c (l.map enc) O (s1++ .L acc::more)=some (s1++ .L (acc++l.flatMap λy=>((m y).filter<|p y).map<|g y)::U):=by
 induction l with
 |nil=>exact λ{acc more} _ _ _=>⟨more,congrArg (λz=>some (s1++AC.L z::more)) (aC _).symm⟩
 |cons y l q=>intro acc more D f H;obtain⟨h,i,z,x,e,s,n,t,b⟩:=H y (.head _) acc more f;simp only [iX,ae,<-bB] at D;obtain⟨U,r⟩:=q (J ae<|J (ag _)<|aa (c8 (cV (bN ..) _) _) D) x λy v=>H y<|.tail _ v;refine⟨U,Iu e n8 ?_ (o ..)<|r.trans<|J (aj ..) Y⟩;simp only [Js,s,Option.bind_some,n];exact QH t (aa (aw ..) D) b
def JL{H P}{t1 t2}{U elt}{ifs}{own}{l:List H}{enc}{O}{m}{N}{M}{p}{g:H->P->AV}{Jzq}(h:bZ Φ D it ρ Q=(x,s1))(A:dR D s1 x=(l.map enc,q))(j:∀cs,cT (s1++cs) q)(B:(l.flatMap m).length<=2000)
  (w:Jzq [] []) (X:∀y∈l,∀ys more,Jzq ys more->Z3 Φ D s1 (dO own ρ) t1 t2 U elt ifs enc O m N M p g Jzq y ys more):
  ∃more,bZ Φ D (.lc elt [(t1,it,[]),(t2,U,ifs)] own) ρ Q=some (.ref s1.length,s1++ .L (l.flatMap λy=>((m y).filter<|p y).map<|g y)::more):=bQ (QG (λmore ys=>j _) (aa (aG<|bu _) B) w X) λmore e=>⟨more,by simp only [Eb,h,A,Option.bind_some,e];rfl⟩
end
inductive Tr where
 |leaf (x:Sy)
 |node (A:Sy) (k:Nat) (cs:List Tr)
noncomputable def Tr.root:Tr->Sy
 | .leaf x=>x
 | .node A _ _=>A
mutual
noncomputable def yl:Tr->List Sy
 | .leaf x=>[x]
 | .node _ _ U=>GQ U
noncomputable def GQ:List Tr->List Sy
 |[]=>[]
 |c::cs=>yl c++GQ cs
end
def K0(a b:List Tr):GQ (a++b)=GQ a++GQ b:=a.rec Y λc a U=>(congrArg (yl c++ ·) U).trans (aj ..).symm
inductive Val(G:Gr):Tr->Prop
 |leaf {x:Sy}:x∈G.tm->Val G (.leaf x)
 |node {A:Sy} {k:Nat} {cs:List Tr}:G.rl[k]? =some (A,cs.map Tr.root)->(∀c∈cs,Val G c)->Val G (.node A k cs)
def OV(G:Gr)(w O:List Sy)(b j:Nat)(U:List Tr):Prop:=U.map Tr.root=O/\(∀c∈U,Val G c)/\GQ U=sl w b j
def wO(G:Gr)(w:List Sy)(A:Sy)(i j:Nat)(n:Nat)(l:List Tr):Prop:=l.Nodup/\(∀t∈l,Val G t/\t.root=A/\yl t=sl w i j)/\l.length=min 2 n
def CK(G:Gr)(w U:List Sy)(b j:Nat)(n:Nat)(l:List (List Tr)):Prop:=l.Nodup/\(∀r∈l,OV G w U b j r)/\l.length=min 2 n
def pairs(R:List (List Tr))(l:List Tr):List (List Tr):=R.flatMap λahead=>l.map λone=>ahead++[one]
def mr(a b):min 2 (min 2 a+b)=min 2 (a+b):=(Nat.lt_or_ge a 2).elim (λh=>J (gA<|bx h) Y) λh=>J (cj h)<|bV (cj<|aw 2 b) (cj<|aa h<|aw a b) Y
def q4(O:2<=a)(U:0<b):min 2 (a*b)=2:=cj<|aa O<|Nat.le_mul_of_pos_right a U
def Ic(a b):min 2 (min 2 a*min 2 b)=min 2 (a*b):=(Nat.lt_or_ge a 2).elim (λh=>by refine J (gA<|bx h) ?_;exact(Nat.lt_or_ge b 2).elim (λk=>J (gA<|bx k) Y) λk=>(jK a).elim (λz=>by simp only [z,cA]) λz=>J (cj k)<|J (gY ..)<|J (q4 (aS 2) z)<|J (gY ..)<|J (q4 k z) Y) λh=>(jK b).elim (λz=>J z Y) λz=>J (cj h)<|bV (q4 (aS 2)<|Nat.lt_min.mpr ⟨Nat.two_pos,z⟩) (q4 h z) Y
def Ib{U:Type}(l:List U)(f g)(h:∀x∈l,min 2 (f x)=min 2 (g x)):min 2 (l.map f).sum=min 2 (l.map g).sum:=by
 induction l with
 |nil=>rfl
 |cons a l O=>exact(jn (mr ..)<|J (h a<|.head _)<|J (mr ..)<|J (ck ..)<|jn (mr ..)<|J (O λx M=>h x<|.tail _ M)<|J (mr ..)<|J (ck ..) Y)
def Be{U:Type} l(x:U):(l++[x]).take 2=if(l.take 2).length<2 then l.take 2++[x] else l.take 2:=l.casesOn Y λa l=>by induction l<;>rfl
def r6{U:Type}(l m:List U):(l.take 2++m).take 2=(l++m).take 2:=l.casesOn Y λa l=>by induction l<;>rfl
def Jk{U O:Type}(l:List U)(f:U->List O):(l.flatMap f).length=(l.map λx=>(f x).length).sum:=gg
def pairs_len R l:(pairs R l).length=R.length*l.length:=R.rec ((cA _).symm) λa R U=>by simp only [pairs,iX,ae,ag];exact(congrArg _ U).trans ((ck ..).trans (Nat.succ_mul ..).symm)
def kG R:pairs R []=[]:=eM<|pairs_len ..
def UQ{l m:List Nat}(h:l.Perm m):l.sum=m.sum:=h.sum_nat
def Fd(h:r∈pairs R l):∃a∈R,∃t∈l,r=a++[t]:=by refine bQ (List.mem_flatMap.mp h) λa M=>And.elim (λO h=>?_) M;obtain⟨t,U,e⟩:=mM h;exact⟨a,O,t,U,e.symm⟩
def uA{U:Type}{a b}{x y:U}(h:a++[x]=b++[y]):a=b/\x=y:=(List.append_inj' h Y).imp_right List.singleton_inj.mp
def zy(D:R.Nodup)(N:l.Nodup):(pairs R l).Nodup:=
 List.nodup_iff_pairwise_ne.mpr (List.pairwise_flatMap.mpr ⟨λa H=>List.pairwise_map.mpr<|(List.nodup_iff_pairwise_ne.mp N).imp λU e=>U (uA e).2,(List.nodup_iff_pairwise_ne.mp D).imp λU x M y O e=>
  let⟨_,_,h⟩:=mM M;let⟨_,_,k⟩:=mM O
  U (uA<|h.trans<|e.trans k.symm).1⟩)
def Full(R:Nat->List (List Tr))(T:Nat->Nat->List Tr)(sp:List Nat)(j:Nat):List (List Tr):=sp.flatMap λi=>pairs (R i)<|T i j
def MD{T}{sp}(hw:e<=w.length)(B:sp.Nodup)(U:∀i∈sp,b<=i/\i<=e)(y:∀i,b<=i->i<=e->i∉sp->R i=[])
  (o:∀i,b<=i->i<=e->CK G w pre b i (mX K pre b i) (R i)) (n:∀i j,b<=i->i<=j->j<=e->wO G w x i j (K x i j) (T i j)) (L:∀i j,j<i->T i j=[]) {j} (A:b<=j) (H:j<=e):
  CK G w (pre++[x]) b j (mX K (pre++[x]) b j) ((Full R T sp j).take 2):=by
 have M:∀i∈sp,∀r∈pairs (R i) (T i j),OV G w (pre++[x]) b j r/\∃a t,r=a++[t]/\(GQ a).length=i-b:=λi O r D=>
  by refine(Fd D).elim λa X=>X.elim λQ X=>X.elim λt X=>X.elim λP er=>?_;exact have N:=U i O
  have q:=c9 λc=>iZ<|jn (L i j c) P
  er▸⟨((λQ P=>⟨List.map_append.trans<|J Q.1<|jn P.2.1 Y,List.forall_mem_append.mpr ⟨Q.2.1,List.forall_mem_singleton.mpr P.1⟩,by simp only [K0,Q.2.2,<-ya N.1 q,<-P.2.2];exact congrArg _<|aC _⟩) ((o i N.1 N.2).2.1 a Q)<|(n i j N.1 q H).2.1 t P),a,t,Y,J ((o i N.1 N.2).2.1 a Q).2.2<|fD N.1<|aa N.2 hw⟩
 refine⟨fJ (eK ..)<|List.nodup_iff_pairwise_ne.mpr<|List.pairwise_flatMap.mpr ⟨λi O=>List.nodup_iff_pairwise_ne.mp ?_,(List.nodup_iff_pairwise_ne.mp B).imp_of_mem λ{i i'} O v l r D r' p e'=>l ?_⟩,λr D=>let⟨i,O,D⟩:=List.mem_flatMap.mp<|List.mem_of_mem_take D;(M i O r D).1,?_⟩
 .exact(Nat.lt_or_ge j i).elim (λc=>J (L i j c)<|J (kG _) bh) λc=>zy (o i (U i O).1 (U i O).2).1 (n i j (U i O).1 c H).1
 .obtain⟨_,a,t,e1,s⟩:=M i O r D;obtain⟨_,a',t',e2,q2⟩:=M i' v r' p;rw [(uA<|e1.symm.trans<|e'.trans e2).1,q2] at s;exact(a9 (U i O).1).symm.trans ((congrArg (· +b) s.symm).trans<|a9 (U i' v).1)
 .simp only [cL,Hj,Full,Jk,sum_map_congr _ _ _ λi u9=>pairs_len (R i)<|T i j,Lg (λi=>(R i).length*(T i j).length) List.nodup_range' B (λi O=>List.mem_range'_1.mpr ⟨(U i O).1,dU (cq (U i O).2) (cU<|fp<|aa A H).symm⟩) λi O hn=>by
   have h:=List.mem_range'_1.mp O;exact J (y i h.1 (aK<|dU h.2<|cU<|fp<|aa A H) hn)<|cA _,List.range'_eq_map_range,bJ]
  refine(congrArg _<|w3 (f:=λg=>(R g).length*(T g j).length) H λg hg u9=>J (L g j hg) Y).trans (Ib _ _ _ λk hk=>?_);have h:=aK<|Nat.add_lt_of_lt_sub'<|mR hk;simp only [(o (b+k) (aw ..)<|aa h H).2.2,(n (b+k) j (aw ..) h H).2.2,Ic]
def ux(x:Sy):AV:=.obj 93 [(0,b5 x),(1,b5 x),(2,.none),(3,b5 x)]
def QF(x:Sy):AV:=.obj 358 [(21,b5 x),(22,.int 0),(23,.aM []),(24,ux x)]
mutual
noncomputable def iy:Tr->AV
 | .leaf x=>QF x
 | .node A k U=>.obj 323 [(21,b5 A),(22,vi k),(23,.aM<|Le U)]
noncomputable def Le:List Tr->List AV
 |[]=>[]
 |c::cs=>iy c::Le cs
end
theorem uz:∀cs:List Tr,Le cs=cs.map iy
 |[]=>rfl
 |c::cs=>congrArg (iy c:: ·)<|uz cs
def kY t:f7 (iy t)=true:=by cases t<;>rfl
def lW(U:List Tr):gD (U.map iy)=true:=bT λt O=>kY t
def ky(r:List Tr):AV:=.aL<|r.map iy
def kF(l:List Tr):AV:=.aM<|l.map iy
def zo(l:List (List Tr)):AV:=.aM<|l.map ky
def uK(L:H<=U.length)(w:D[0]? =some (some<|.ref U.length))(j:bZ Φ H e D (U++ .O k M::v)=(x,U++ .O k M::P))(A:(Nat.blt M.length 100&&m9 k f)=true)(B:Wp (cg Φ H N q X D (U++ .O k (ng M f x)::P)) Q):Wp (cg Φ H N q (.aU (.bG (.af 0) f) e::X) D (U++ .O k M::v)) Q:=
 zt j (J j9<|J w Y) (gn ..) A L (J (rW ..) B)
def wx(U:M<=s.length)(D:f7 a=true):kC Φ M N rE [.ref s.length,a,a,.none] (s++[.O 93 []])=some (.none,s++[.O 93 [(0,a),(1,a),(2,.none),(3,a)]]):=
 yf Y (uK U Y Y Y<|uK U Y Y Y<|uK U Y Y Y<|uK U Y (xy (cp Y Y Y) Y) Y<|bU ⟨Y,_,[],Y,nofun,dK<|qS (show ml [(0,a),(1,a),(2,AV.none),(3,a)]=true by simp only [HK];exact J D Y)⟩)
def yx(U:M<=s.length):kC Φ M N tn [.ref s.length,ux y] (s++[.O 358 []])=some (.none,s++[.O 358 [(21,b5 y),(22,.int 0),(23,.aM []),(24,ux y)]]):=
 yf Y (uK U Y (dM Y Y) Y<|uK U Y Y Y<|uK U Y (x:=.ref<|s.length+1) (by simp only [kL,m6,Option.bind_some,ae,aj];rfl) Y<|uK U Y Y Y<|bU ⟨Y,_,[.L []],Y,nofun,B9<|zf (b8 Y)<|zf (b8 Y)<|zf (iQ .refl (gx _ _ 1) Y)<|zf (b8 Y) Y⟩)
def xP(U:H<=s.length)(A:f7 a=true)(B:f7 b=true)(D:below s.length c=true)(X:vw s c=.L M)(P:gD M=true)(Q:M.length<=2000):kC Φ H N ti [.ref s.length,a,b,c] (s++[.O 323 []])=some (.none,s++[.O 323 [(21,a),(22,b),(23,.aM M)]]):=
 yf Y (uK U Y Y Y<|uK U Y Y Y<|uK U Y (x:=.ref<|s.length+1) (cx (aA Y aV)<|(Il ((ur D).trans X) Q).trans<|bV ae (aj ..) Y) Y<|bU ⟨Y,_,[.L M],Y,nofun,B9<|zf (b8<|dz A)<|zf (b8<|dz B)<|zf (iQ .refl (gx _ _ 1) P) Y⟩)
structure NI(Φ:Fs):Prop where
 tok:∀{ro s a},ro<=List.length s->f7 a=true->Φ ro 76 [.ref s.length,a,a,.none] (s++[.O 93 []])=some (.none,s++[.O 93 [(0,a),(1,a),(2,.none),(3,a)]])
 leaf:∀{ro s} {x:Sy},ro<=List.length s->Φ ro 341 [.ref s.length,ux x] (s++[.O 358 []])=some (.none,s++[.O 358 [(21,b5 x),(22,.int 0),(23,.aM []),(24,ux x)]])
 tree:∀{ro s a b c xs},ro<=List.length s->f7 a=true->f7 b=true->below s.length c=true->vw s c=.L xs->gD xs=true->xs.length<=2000->Φ ro 273 [.ref s.length,a,b,c] (s++[.O 323 []])=some (.none,s++[.O 323 [(21,a),(22,b),(23,.aM xs)]])
def RW(h:NI Φ)(U:O<=s.length)(M:bZ Φ O e N s=(b5 y,s)):bZ Φ O (.new 358 [.new 93 [e,e,.aI .none] false] false) N s=(iy<|.leaf y,s):=
 Em (aA (Em (aA M<|aA M<|aA cD aV) Y (h.tok U Y) Y) aV) Y (h.leaf U) Y
def qp{s:St}{fl d:Nat}{c:AC}(D:jT s fl d c=some c)(more:St):∀{st:St} {p:Nat},p<st.length->gG s fl d st (st.set p c++more)=(st.set p c):=by
 intro st;induction st with
 |nil=>intro p h;exact absurd h<|dY _
 |cons U O N=>
  intro p h;induction p with
  |zero=>show(if c=U then some U else jT s fl d c).bind (λy=>(gG s fl d O<|O++more).bind λM=>some (y::M))=(c::O);exact bV (kJ ..) D (if q:c=U then J (au q) (J q Y)else J (az q) Y)
  |succ p=>show(if U=U then some U else jT s fl d U).bind (λy=>(gG s fl d O<|O.set p c++more).bind λM=>some (y::M))=(U::O.set p c);exact bV (au Y) (N<|gq h) Y
def uI{j:Nat}(h:bZ Φ U e O P=(x,s1))(q:bZ Φ U o O s1=some (.ref n,s2))(w:bZ Φ U i O s2=some (.int j,s3))(A:s3[n]? =some (.L M))(H:j<M.length)(D:M.length<=2000)(B:U<=n)
  (k:Wp (cg Φ U N fl X O<|s3.set n<|.L<|M.set j x) Q):Wp (cg Φ U N fl (.aU (.sub o i) e::X) O P) Q:=by
 refine lP ?_ k;refine J vF ?_;rw [h,Option.bind_some,Aj,q,Option.bind_some];refine J w ?_;simp only [C5,A,Option.bind_some];delta Lk;dsimp only;refine J (show j6 (.int (j:Int))=(j:Int)from Y) ?_;rw [Option.bind_some];exact wo (m4<|lq [_,_] [aH (.s ax) aE,aH aE (.c 2000)] ax (.c 1000000) Y H D) (gZ _) (aq H)<|bV (aq<|dE D) (aq B) Y
def IQ(U:St)(P:AV×St->Prop)(r:Out×En×St):Prop:=∃v O s2,(r.1=.ret v\/(r.1=.next/\v=.none))/\iH r.2.2 U.length 6 v=some O/\gG r.2.2 U.length 6 U r.2.2=some s2/\P (O,s2)
def HE{args}{P}(O:(!F.HM&& !F.keep&&(Nat.ble args.length F.params&&(Nat.ble F.params (args.length+F.dflt.length)&&Nat.ble F.params F.slots)))=true)
  (h:Wp (cg Φ D N st.length F.body ((args++F.dflt.drop (F.dflt.length-(F.params-args.length))).map some++List.replicate (F.slots-F.params) none) st) (IQ st P)):Wp (kC Φ D N F args st) P:=by
 simp only [cF,Nat.ble_eq,Bool.not_eq_true'] at O;delta kC;refine J (au O.2)<|bV O.1.1 O.1.2<|h.bind ?_;rintro⟨o,Q,s2⟩ ⟨v,X,s3,H,M,U,L⟩;dsimp only at M U;rcases H with rfl|⟨rfl,rfl⟩<;>dsimp only<;>(first|simp only [HT]|simp only [L1])<;>simp only [cond_false,M,Option.bind_some,U]<;>exact Wp.mk L
def LK(U:St)(P:AV×St->Prop)(r:Out×En×St):Prop:=∃c more,r.1=.ret (.ref U.length)/\r.2.2=U++c::more/\gp (U.length+1) c=true/\P (.ref U.length,U++[c])
def P5{args}{P}(O:(F.HM&&F.keep&&(Nat.ble args.length F.params&&(Nat.ble F.params (args.length+F.dflt.length)&&Nat.ble F.params F.slots)))=true)
  (h:Wp (cg Φ U.length N U.length F.body ((args++F.dflt.drop (F.dflt.length-(F.params-args.length))).map some++List.replicate (F.slots-F.params) none) U) (LK U P)):Wp (kC Φ X N F args U) P:=by
 simp only [cF,Nat.ble_eq] at O;delta kC;refine J (au O.2)<|bV O.1.1 O.1.2<|h.bind ?_;rintro⟨o,Q,s2⟩ ⟨c,more,D,M,H,L⟩;dsimp only at D M;subst D M;simp only [HT,Option.bind_some,cond_true];dsimp only [DT];simp only [kJ,gn,Option.bind_some,dK H];exact Wp.mk L
def iM(n j:Nat):AC:=.L [vi n,vi j]
inductive GO(st:St)(p b:Nat):Prop
 |mk (n j:Nat) (h:st[p]? =some (iM n j)) (hj:j<=b)
inductive CV(st:St)(p b:Nat)(P:AV->Prop):AV×St->Prop
 |mk (v:AV) (n j:Nat) (hj:j<=b) (hv:P v):CV st p b P (v,st.set p<|iM n j)
def rI{G:Prop}(h:Wp o (CV st p b λv=>∃d,v=vi d/\d<many))(k:∀f n j,j<=b->f<many->o=some (vi f,st.set p<|iM n j)->G):G:=by obtain⟨_,h,_,n,j,U,f,e,O⟩:=h;exact k f n j U O<|e▸h
def wi(Φ:Fs):Prop:=∀{ro st p many b},ro<=p->p<st.length->GO st p b->b<=1000->0<many->many<=9->Wp (Φ ro 433 [.ref p,vi many] st) (CV st p (b+1) λv=>∃d,v=vi d/\d<many)
namespace Dw
variable{st:St}
def g0(h:p<st.length):(st.set p<|iM n j)[p]? =(iM n j):=(dW h)
def XR(h:s[p]? =(iM n j)):subQ s (.ref p) (.int 0)=(vi n):=by delta subQ;exact J bS<|J h Y
def Zh(h:s[p]? =(iM n j)):subQ s (.ref p) (.int 1)=(vi j):=by delta subQ;exact J bS<|J h Y
def ok(U:ro<=p)(M:p<st.length)(h:GO st p b)(P:b<=1000)(L:0<many)(H:many<=9):Wp (kC Φ ro N vD [.ref p,vi many] st) (CV st p (b+1) λv=>∃d,v=vi d/\d<many):=by
 obtain⟨n,j,h,O⟩:=h;refine HE Y ?_
 have fin:∀n j s,s[p]? =(iM n j)->j<=b+1->(∀c,s.set p c=st.set p c)->Wp (cg Φ ro N st.length [.aU (.v 2) (.b6 .mod (.sub (.af 0)<|.aI<|.int 0)<|.af 1),.aU (.sub (.af 0)<|.aI<|.int 0)<|.b6 .fdiv (.sub (.af 0)<|.aI<|.int 0)<|.af 1,.ret (.af 2)] [some (.ref p),some<|vi many,none] s) (IQ st (CV st p (b+1) λv=>∃d,v=vi d/\d<many)):=by
  intro n j s D O Q
  have B:mT s .mod (vi n) (vi many)=(vi<|n%many,s):=by refine(au<|aq<|Int.natCast_pos.mpr L).trans ?_;rfl
  have X:mT s .fdiv (vi n) (vi many)=(vi<|n/many,s):=by refine(au<|jn (aq<|Int.natCast_pos.mpr L).symm<|aq<|aa H<|bM Y).trans ?_;rfl
  refine cb (dy (dh Y Y<|XR D) Y B) Y<|uI (dy (dh Y Y<|XR D) Y X) Y Y D (bO _) (bM Y) U<|oE Y ⟨vi<|n%many,vi<|n%many,st.set p<|iM (n/many) j,.inl Y,MI,?_,⟨_,_,_,O,_,Y,Nat.mod_lt _ L⟩⟩;rw [Q];have:=qp (s:=st.set p<|iM (n/many) j) (fl:=st.length) (d:=6) (c:=iM (n/many) j) (dK Y) [] M;rw [aC] at this;exact this
 exact jX (cp (dh Y Y<|XR h) Y tp) (if c:n=0 then J (aq c) (uI (dy (dh Y Y<|Zh h) Y Y) Y Y h (bM Y) (bM Y) U<|uI (dy (dy (dy Y (dh Y Y<|Zh<|g0 M)<|si (qz<|bM Y)<|qz<|aQ ((lq [_,_] [aH aE (.c 1000),aH ax aE] (.s ax) (.c 1001) Y P O):j+1<=1001)<|bM Y) Y Y) Y<|HO (qz<|aQ (by exact lq [_,_] [.e 570570 aE (.c 1000),.e 570570 ax aE] (.a (.m 570570<|.s ax)<|.c 10009) (.c 571150579) Y P O:570570*(j+1)+10009<=570570*1001+10009)<|bM Y)<|bM Y) Y Y (g0 M) (bM Y) (bM Y) U<|bU<|fin _ (j+1) _ (g0<|jn List.length_set.symm M) (lq [_,_] [aH ax aE] (.s ax) (.s aE) Y O) λc=>J (kj _)<|J (kj _) Y)else J (aF c) (bU<|fin n j st h (lq [_,_] [aH ax aE] ax (.s aE) Y O) λA=>rfl))
end Dw
namespace Pn
variable{l:List Int}
inductive I(st:St)(l d:List Int):En->St->Prop
 |mk (n:Nat) (o:Option AV) (hn:n<2^(100*d.length)):I st l d [some (.aM<|l.map .int),some<|vi n,o] (st++[.L ((l.take 24).map .int)])
set_option tactic.hygienic true in
def ok(w:Cl st)(A:l.length<=64):Wp (kC Φ ro N xp [.aM (l.map .int)] st) λr=>∃n,r=(.ref st.length,st++[iM n 0]):=by
 refine P5 Y ?_;have M:(l.take 24).length<=24:=J cL<|fY ..
 have D:nc st (.aM<|l.map .int) (.to 24)=some (.ref st.length,st++[.L ((l.take 24).map .int)]):=by show(if(l.map AV.int).length<=lim then some (AV.ref st.length,st++[AC.L ((l.map AV.int).take 24)])else none)=_;exact bV (au<|dE<|by exact J (ag _)<|lq [_] [aH ax (.c 64)] ax (.c 2000) Y A) List.map_take Y
 have H:dR st.length (st++[.L ((l.take 24).map .int)]) (.ref st.length)=some ((l.take 24).map .int,some (st.length,.L<|(l.take 24).map .int)):=by delta dR;dsimp only;exact J (gn ..)<|au<|dE<|lq [_,_] [aH aE (.c 24),.q 1 ax aE] ax (.c 2000) Y M (ag _)
 refine cb Y Y<|gu (I:=I st l) (vJ Y Y D) H ⟨0,none,i6<|bM Y⟩ (λd y r B s j h=>?_) λB s h=>?_
 .induction h;rename_i n o X
  have P:d.length<24:=by have:=congrArg List.length j;exact lq [_,_,_,_] [aH aE (.c 24),.p 1 aE a7,.p 1 a7 (.a ax<|.s cz)] (.s ax) (.c 24) Y M this ae
  obtain⟨T,hT⟩:∃T,T=(10:Nat)^28:=⟨_,Y⟩;have O:T<2^100:=by refine J hT ?_;decide
  have U:0<T:=by refine J hT ?_;decide
  have Q:∀s,mT s .pow (.int 10) (.int 28)=(vi T,s):=λs=>J hT<|HO (qz<|bM Y)<|bM Y;refine kp Y<|cb (dy (dy Y (dy Y Y<|Q _)<|si (aJ X<|fO (bM Y)<|aa (cI 100<|bx P)<|bM Y)<|qz<|eQ O<|bM Y) (dy (cx (aA (cx (aA Y aV) Y) aV) Y) (dy Y Y<|Q _)<|Ql U) il) Y<|bU ⟨.inl Y,gn ..,?_⟩;refine⟨n*T+y.natAbs%T,some<|.int y,?_⟩;exact J ae<|J dG<|J (gy ..)<|J (Nat.pow_add ..)<|aJ (cc (Nat.mod_lt _ U) _)<|aa (aG (Nat.succ_mul n T).symm)<|Nat.mul_le_mul X<|bx O
 .induction h;rename_i n o _;refine lj w (aD (bI Y)<|aD (bI Y) Y)<|oE ?_ ⟨iM n 0,[],Y,Y,Y,n,Y⟩;exact J kL<|J (aA Y<|aA Y aV) Y
end Pn
def GO.app(h:GO U p b):GO (U++M) p b:=by obtain⟨n,j,h,O⟩:=h;exact⟨n,j,by refine(bW (List.getElem?_eq_some_iff.mp h).1).trans ?_;exact h,O⟩
def tP{O:St}(h:p<U.length):(U++O).set p c=U.set p c++O:=List.set_append_left _ _ h
theorem Cl.set{st}(h:Cl st){p}{c}(O:gp st.length c=true):Cl (st.set p c):=λx U=>J bE<|(List.mem_or_eq_of_mem_set U).elim (λq=>(h x q)) λq=>(J q O)
def t7{d:Nat}(h:d<=1000):dR U s (.sS 0 d)=some ((List.range d).map vi,none):=by show(if iG 0&&iG (d:Int)then some (qR 0 (d:Int),none)else none)=_;rw [fE (by exact lq [_] [aH ax (.c 1000)] ax (.c 1000000) Y h)];have:=oB 0 d;refine J this ?_;simp [show iG 0=true from Y]
def NY{d}(h:d<=1000):ku s .range [vi d]=some (.sS 0 d,s):=by show(if iG (d:Int)then _ else _)=_;exact J (fE<|by exact lq [_] [aH ax (.c 1000)] ax (.c 1000000) Y h) Y
def nH{O U:Type}{f:O->U}{l}{x}:l.map f++[f x]=(l++[x]).map f:=J aR Y
def vU{U:Type}{f}{l:List U}(h:∀x,f7 (f x)=true):belows k (l.map f)=true:=dB<|bT λx O=>h x
def Xh(st:St)(p:Nat)(v:AV)(l:List Sy):Prop:=below st.length v=true/\∀c more,vw (st.set p c++more) v=.L (l.map b5)
def EC(Φ:Fs):Prop:=∀{ro st p b lv} {later:List Sy},Cl st->ro<=p->p<st.length->GO st p b->b<=900->later.length<=2->Xh st p lv later->Wp (Φ ro 440 [.ref p,lv] st) (CV st p (b+3) λv=>∃r:List Sy,v=.aM (r.map b5)/\r.length<=2/\∀x∈r,x∈[Sy.err,.a,.b]++later)
namespace Rt
def bz(st:St)(p n j:Nat)(r:List Sy)(m:St):St:=st.set p (iM n j)++(.L (r.map b5)::m)
noncomputable def env(st:St)(p:Nat)(M:AV)(O U:Option AV:=none):En:=[some (.ref p),some M,some<|.ref st.length,O,U]
inductive I(st:St)(p b:Nat)(later:List Sy)(lv:AV)(d:List Nat):En->St->Prop
 |mk (r:List Sy) (n j:Nat) (o3:Option AV) (hj:j<=b+1+d.length) (hr:r.length=d.length) (hl:∀x∈r,x∈[Sy.err,.a,.b]++later):I st p b later lv d (env st p lv o3) (bz st p n j r [])
def mU:(bz U p n j r m)[U.length]? =some (.L<|r.map b5):=by have:=gn (U.set p<|iM n j) m<|.L<|r.map b5;rwa [bE] at this
def at2{A B:AC}{c}:(bz st p n j r [A,c])[st.length+2]? =c:=by have:=gx (st.set p<|iM n j) [.L (r.map b5),A,c] 2;rwa [bE] at this
def x9:(bz st p n j r m).length=st.length+1+m.length:=by delta bz;exact bH (lq [_,_,_,_] [.q 1 cz aE,.q 1 ax (.a cz<|.s a7)] ax (.a (.s aE) a7) Y bE ae)<|lq [_,_,_,_] [.p 1 cz ax,.p 1 a7 (.a cz<|.s aE)] (.a (.s ax) aE) a7 Y bE ae
def yh:bz U p n j r m++[c]=bz U p n j r (m++[c]):=by delta bz;exact(aj ..).trans Y
set_option tactic.hygienic true in
def turn(hc:Cl U)(hD:wi Φ)(Q:ro<=p)(X:p<U.length)(hb:b<=900)(O:later.length<=2)(A:Xh U p f later)(hf:fl=U.length+1){d}{y}{ρ}{s}(hd:d.length<2)(h:I U p b later f d ρ s):
  Wp ((fQ s (.v 3) (vi y) ρ).bind λg=>cg Φ ro N fl AZ g s) (LQ none<|I U p b later f<|d++[y]):=by
 induction h;rename_i r n j o3 hj hr hl;refine kp (ρ':=env U p f<|vi y) Y ?_
 have h1:bZ Φ ro (.aM [(.aI<|.str [101,114,114,111,114]),(.aI<|.str [97]),(.aI<|.str [98])]) (env U p f<|vi y) (bz U p n j r [])=some (.ref<|U.length+1,bz U p n j r [.L ([Sy.err,.a,.b].map b5)]):=by show some (AV.ref (bz U p n j r []).length,bz U p n j r []++[AC.L ([Sy.err,.a,.b].map b5)])=_;exact bV yh x9 Y
 have i:vw (bz U p n j r [.L ([Sy.err,.a,.b].map b5)]) (.ref<|U.length+1)=.L ([Sy.err,.a,.b].map b5):=by have:=gx (U.set p<|iM n j) [.L (r.map b5),.L ([Sy.err,.a,.b].map b5)] 1;rw [bE] at this;refine bS.trans ?_;delta bz;exact J this Y
 have t:p<(bz U p n j r [.L ([Sy.err,.a,.b].map b5),.L (([Sy.err,.a,.b]++later).map b5)]).length:=lq [_,_,_,_] [aH (.s ax) a7,.p 1 cz a7,.p 1 aE (.a cz<|.s<|.s<|.s<|.c 0)] (.s ax) aE Y X bE ae;refine rI (hD (many:=3+later.length) Q t (GO.app ⟨n,j,dW X,hj⟩) (lq [_,_] [aH ax (.c 900),aH (.s aE) (.c 2)] (.a (.s ax) aE) (.c 1000) Y hb hd) (lq [_] [] (.s<|.c 0) (.a (.c 3) ax) Y)<|lq [_] [aH ax (.c 2)] (.a (.c 3) ax) (.c 9) Y O) λe M D l he w=>?_;have qm:(bz U p n j r [.L ([Sy.err,.a,.b].map b5),.L (([Sy.err,.a,.b]++later).map b5)]).set p (iM M D)=bz U p M D r [.L ([Sy.err,.a,.b].map b5),.L (([Sy.err,.a,.b]++later).map b5)]:=J (tP<|J bE X)<|J (kj _) Y;simp only [qm] at w;have H:∀n j,vw (bz U p n j r [.L ([Sy.err,.a,.b].map b5),.L (([Sy.err,.a,.b]++later).map b5)]) (.ref<|U.length+2)=.L (([Sy.err,.a,.b]++later).map b5):=λn j=>bS.trans<|J (at2 (B:=.L [])) Y;have hlen:=oK (H n j) (by refine J (ag _)<|J ae ?_;show 3+_<=_;exact lq [_] [aH ax (.c 2)] (.a (.c 3) ax) (.c 2000) Y O);simp only [ag,ae] at hlen;obtain⟨x,hx⟩:∃x,([Sy.err,.a,.b]++later)[e]? =some x:=⟨_,aW<|J ae he⟩
 have P:subQ (bz U p M D r [.L ([Sy.err,.a,.b].map b5),.L (([Sy.err,.a,.b]++later).map b5)]) (.ref<|U.length+2) (vi e)=(b5 x):=by delta subQ;refine J (H M D) ?_;show(if nI (e:Int)then(([Sy.err,.a,.b]++later).map b5)[e]? else none)=_;exact J (au<|m4<|lq [_,_] [aH aE (.c 2),aH (.s ax) (.a (.c 3) aE)] ax (.c 1000000) Y O he)<|J cE<|J hx Y
 have o:(bz U p M D r [.L ([Sy.err,.a,.b].map b5),.L (([Sy.err,.a,.b]++later).map b5)]).set U.length (.L<|r.map b5++[b5 x])=bz U p M D (r++[x]) [.L ([Sy.err,.a,.b].map b5),.L (([Sy.err,.a,.b]++later).map b5)]:=by have:=rW (U.set p<|iM M D) [.L ([Sy.err,.a,.b].map b5),.L (([Sy.err,.a,.b]++later).map b5)] (.L<|r.map b5) (.L<|(r++[x]).map b5);exact J nH<|jn bE this
 refine cb (dy h1 Y<|(Kg Y i (A.2 ..) (by simp only [ag];show 3+_<=_;exact lq [_] [aH ax (.c 2)] (.a (.c 3) ax) (.c 2000) Y O)).trans<|bV yh x9 Y) Y<|iP (jS Y mU (dh Y (fK (aA Y<|aA (cx (aA Y aV) hlen) aV) w) P) mU (fH<|lq [_,_,_] [aH (.s aE) (.c 2),.q 1 a7 aE,.q 1 ax a7] ax (.c 2000) Y hd hr (ag _))<|aa Q<|bx X) ?_;refine J o<|oF (J bE hf) (hc.set Y) (bM Y) ?_ ?_<|bU ⟨.inl Y,trivial,r++[x],M,D,none,?_,?_,λz hz=>?_⟩
 .show(jT _ _ 6<|.L<|(r++[x]).map b5).bind _=_;exact J (dK (c:=.L<|(r++[x]).map b5)<|vU λu9=>rfl) Y
 .exact J bE (aD (bI<|aq<|lq [_,_] [aH (.s ax) aE] (.s ax) (.s aE) Y X)<|aD (bI<|vV (b0 _) A.1)<|aD (bI<|aq<|a6 _) Y)
 .exact J ae l
 .exact List.length_append.trans (bV ae hr Y)
 .exact(mA hz).elim (λq=>hl z q) λq=>J (mS q)<|aN hx
set_option tactic.hygienic true in
def ok(l:Cl st)(g:wi Φ)(O:ro<=p)(M:p<st.length)(h:GO st p b)(f:b<=900)(Q:later.length<=2)(H:Xh st p w later):Wp (kC Φ ro N td [.ref p,w] st) (CV st p (b+3) λv=>∃r:List Sy,v=.aM (r.map b5)/\r.length<=2/\∀x∈r,x∈[Sy.err,.a,.b]++later):=by
 refine HE Y ?_;refine rI (g (st:=st++[.L []]) (many:=3) O (ae▸Nat.lt_add_right _ M) h.app (lq [_] [aH ax (.c 900)] ax (.c 1000) Y f) (by decide)<|bM Y) λd n j D U X=>?_;replace X:=(tP M)▸X;refine cb (s1:=st++[.L []]) Y Y<|gu (I:=I st p b later w) (cx (aA (fK (aA Y<|aA (x:=vi 3) Y aV) X) aV)<|NY<|lq [_] [aH (.s ax) (.c 3)] ax (.c 1000) Y U) (t7<|lq [_] [aH (.s ax) (.c 3)] ax (.c 1000) Y U) ⟨[],n,j,_,D,Y,(λA=>iZ)⟩ (λdn y rest i s t B=>?_) λi s B=>?_
 .refine turn l g O M f Q H x9 ?_ B;have:=congrArg List.length t;exact lq [_,_,_,_,_] [aH (.s aE) (.c 3),.p 1 a7 cz,.q 1 a7 aE,.p 1 cz (.a ax<|.s g7)] (.s ax) (.c 2) Y U this aO ae
 .induction B;rename_i r n j e D o P;rw [aO] at D o;exact oE Y ⟨_,.aM<|r.map b5,st.set p<|iM n j,.inl Y,iQ .refl mU<|bT λA A=>rfl,qp (dK Y) _ M,_,_,_,(lq [_,_,_] [aH (.s a7) (.c 3),aH ax (.a (.s aE) a7)] ax (.a aE<|.c 3) Y U D),r,Y,(lq [_,_] [aH (.s aE) (.c 3),.q 1 ax aE] ax (.c 2) Y U o),P⟩
end Rt
noncomputable def KL:Sy->List Sy
 | .s=>[.t,.u]
 | .t=>[.u]
 |_=>[]
def Rok(p:Sy×List Sy):Prop:=(p.2.length<=2/\∀y∈p.2,y∈[Sy.err,.a,.b]++KL p.1)\/∃z,(z=Sy.a\/z=.err)/\p.2=[z,p.1]
structure rX(d:List Sy)(R:Rl):Prop where
 fW:R.Nodup
 lf:∀p∈R,p.1∈d
 has:∀x∈d,∃r,(x,r)∈R
 ok:∀p∈R,Rok p
 kn:∀x,(R.at x).length<=3
 hd:∀p,R.head? =some p->p.1=.s
 len:R.length<=3*d.length
def yT:Rl.at (R++D) x=R.at x++D.at x:=dm ..
def vX{R:Rl}{x}(h:∀p∈R,p.1≠x):R.at x=[]:=List.filter_eq_nil_iff.mpr λp U q=>h p U<|aB q
structure NQ(d:List Sy)(R:Rl)(x:Sy)(i:Nat)(D:Rl):Prop where
 fW:(R++D).Nodup
 lf:∀p∈D,p.1=x/\p.2.length<=2/\∀y∈p.2,y∈[Sy.err,.a,.b]++KL x
 len:D.length<=i
 ne:0<i->D≠[]
def k6{U:Type}{l}{a:U}(h:l.Nodup)(N:a∉l):(l++[a]).Nodup:=List.nodup_append.mpr ⟨h,Ma ⟨iZ,bh⟩,λx M y O e=>N<|mS O▸jn e M⟩
def NQ.add(h:NQ d R x i D)(U:r.length<=2/\∀y∈r,y∈[Sy.err,.a,.b]++KL x)(M:(x,r)∉R++D):NQ d R x (i+1) (D++[(x,r)]):=by refine⟨by refine jn (aj ..) ?_;exact k6 h.fW M,λp O=>?_,J ae<|bq h.len,λN e=>by simp at e⟩;exact(mA O).elim (λq=>(h.lf p q)) λq=>(J (mS q) ⟨Y,U⟩)
def NQ.skip(h:NQ d R x i D)(O:∀p∈R,p.1≠x)(U:(x,r)∈R++D):NQ d R x (i+1) D:=by refine⟨h.fW,h.lf,fp h.len,λM e=>?_⟩;clear h;subst e;rw [aC] at U;exact O _ U Y
def rX.step{T:Rl}{x}{i}(h:rX d R)(hx:x∉d)(O:NQ d R x i D)(A:i=1\/i=2)(hs:d=[]->x=.s)(Q:T=[]\/∃z,(z=Sy.a\/z=.err)/\T=[(x,[z,x])])(hl:x∉[Sy.err,.a,.b]++KL x):rX (d++[x]) (R++D++T):=by
 have N:∀p∈T,p.1=x/\∃z,(z=Sy.a\/z=.err)/\p.2=[z,p.1]:=λp U=>by
  rcases Q with e|⟨z,P,e⟩
  .exact iZ (jn e U)
  .rw [e] at U;exact J (mS U) ⟨Y,z,P,Y⟩
 obtain⟨X,D0,e0⟩:=List.exists_cons_of_ne_nil<|O.ne<|A.elim (λM=>lq [_] [.p 1 ax (.c 1)] (.s<|.c 0) ax Y M) λM=>c9 λh9=>tH [_] [.p 1 ax (.c 2),aH (.s ax) (.s<|.c 0)] Y M h9;have H:∀p∈R,p.1≠x:=λp U q=>hx<|jn q<|h.lf p U;refine⟨?_,λp U=>?_,λy B=>?_,λp U=>?_,λy=>?_,λp U=>?_,?_⟩
 .rcases Q with e|⟨z,P,e⟩
  .exact J e (J (aC _) O.fW)
  .exact J e (k6 O.fW λq=>(mA q).elim (λq=>H _ q Y) λq=>hl<|(O.lf _ q).2.2 x<|.tail _<|.head _)
 .rw [aj] at U;rcases mA U with q|q
  .exact bl _ (h.lf p q)
  .exact ar _ (List.mem_singleton.mpr<|(mA q).elim (λq=>(O.lf p q).1) λq=>(N p q).1)
 .rcases mA B with q|q
  .exact bQ (h.has y q) λr hr=>⟨r,bl _<|bl _ hr⟩
  .refine J (mS q) ?_;have j:X∈D:=J e0<|.head _;refine⟨X.2,bl _<|ar _ ?_⟩;exact jn ((O.lf X j).1) j
 .rw [aj] at U;rcases mA U with q|q
  .exact h.ok p q
  .exact(mA q).elim (λq=>(O.lf p q).elim λq1 w=>w.elim λq2 v=>.inl ⟨q2,J q1 v⟩) λq=>.inr (N p q).2
 .refine J yT (J yT ?_);by_cases c:y=x
  .refine J c (J (vX H) ?_);have L:T.length<=1:=by rcases Q with e|⟨z,P,e⟩<;>refine J e ?_<;>exact bM Y
   simp only [ae,List.length_nil];exact A.elim (λM=>lq [_,_,_,_,_] [aH ax a7,aH aE cz,aH cz<|.c 1,aH a7 g7,.q 1 g7 (.c 1)] (.a (.a (.c 0) ax) aE) (.c 3) Y (bN ..) (bN ..) L O.len M) λM=>lq [_,_,_,_,_] [aH ax a7,aH aE cz,aH cz<|.c 1,aH a7 g7,.q 1 g7 (.c 2)] (.a (.a (.c 0) ax) aE) (.c 3) Y (bN ..) (bN ..) L O.len M
  .simp only [vX λp U q=>c<|q.symm.trans (O.lf p U).1,vX λp U q=>c<|q.symm.trans (N p U).1,aC];exact h.kn y
 .rw [aj] at U;induction R with
  |nil=>have hd:d=[]:=byContradiction λc=>(List.exists_mem_of_ne_nil _ c).elim λy B=>(h.has y B).elim λr=>iZ;replace U:=e0▸U;injection U with U;subst U;exact jn (hs hd)<|(O.lf _<|J e0<|.head _).1
  |cons q R=>exact jn (ak U)<|h.hd _ Y
 .have L:T.length<=1:=by rcases Q with e|⟨z,P,e⟩<;>refine J e ?_<;>exact bM Y
  simp only [ae,dG];exact A.elim (λM=>lq [_,_,_,_,_] [aH a7 (.c 1),aH aE g7,aH ax<|.m 3 cz,.q 1 g7 (.c 1)] (.a (.a ax aE) a7) (.m 3<|.s cz) Y L O.len h.len M) λM=>lq [_,_,_,_,_] [aH a7 (.c 1),aH aE g7,aH ax<|.m 3 cz,.q 1 g7 (.c 2)] (.a (.a ax aE) a7) (.m 3<|.s cz) Y L O.len h.len M
def w9 p:plain dp (n5 p)=true:=by refine J (BE 299 _) ?_;rw [jD];exact λx U=>(mO U).elim (λe=>J e<|k7 ..) λU=>J (mS U)<|l4 ..
def LX(h:n5 p=n5 q):p=q:=by injection h with h;injection h with h1 h2;injection h2 with h2 _;injection h2 with h2;exact Prod.ext (lQ h1)<|Ih (λU U=>lQ) h2
def XZ{R:Rl}(h:vw s a=.L (R.map n5)):jc s .hV (n5 p) a=(!decide (p∈R)):=by show(Mz s (n5 p) a).map not=_;simp only [Mz,h];delta Ta Fh;dsimp only;exact wo (w9 _) ((jD ..).mpr λy U=>by obtain⟨q,_,e⟩:=mM U;exact e▸w9 q) (dD ⟨λh=>by obtain⟨y,U,e⟩:=mM h;exact LX e▸U,cW⟩) Y
namespace Pr
def lc(l:List Sy):AC:=.L<|l.map b5
def bz(st:St)(p n j:Nat)(R:Rl)(m:St):St:=st.set p (iM n j)++(.L (R.map n5)::lc [.t,.u]::lc [.u]::lc []::m)
noncomputable def SX(st:St):Sy->AV
 | .s=>.ref<|st.length+1
 | .t=>.ref<|st.length+2
 |_=>.ref<|st.length+3
noncomputable def env(st:St)(p:Nat)(M O U o5:Option AV:=none):En:=[some (.ref p),some<|.ref st.length,M,O,U,o5]
def mU:(bz U p n j R m)[U.length]? =some (.L<|R.map n5):=by have:=gn (U.set p<|iM n j) (lc [.t,.u]::lc [.u]::lc []::m)<|.L<|R.map n5;rwa [bE] at this
def x9:(bz st p n j R m).length=st.length+4+m.length:=by delta bz;exact List.length_append.trans<|bV bE bj<|bH (lq [_,_] [] (.a ax<|.s<|.s<|.s<|.s aE) (.a (.a ax<|.c 4) aE) Y)<|lq [_,_] [] (.a (.a ax<|.c 4) aE) (.a ax<|.s<|.s<|.s<|.s aE) Y
def yh:bz U p n j R m++[c]=bz U p n j R (m++[c]):=by delta bz;exact(aj ..)
def Lz(M:p<st.length):(bz st p n j R m).set p (iM U O)=bz st p U O R m:=J (tP<|jn List.length_set.symm M)<|J (kj _) Y
def PW{T}:(bz U p n j R m).set U.length (.L<|T.map n5)=bz U p n j T m:=by have:=rW (U.set p<|iM n j) (lc [.t,.u]::lc [.u]::lc []::m) (.L<|R.map n5)<|.L<|T.map n5;rwa [bE] at this
def Qb(U:p<st.length)(O:j<=b):GO (bz st p n j R m) p b:=GO.app ⟨n,j,dW U,O⟩
def cl(M:Cl O):Cl (bz O p n j R []):=by
 refine(M.set Y).app λc U=>?_;rcases mO U with e|U
 .exact jn e.symm (dB (bT λq N=>by dsimp only [n5];rfl))
 .exact(mO U).elim (congrArg _) λU=>(mO U).elim (congrArg _) λU=>J (mS U) Y
def QJ(M:x=.s\/x=.t\/x=.u)(N:p<O.length):Xh (bz O p n j R []) p (SX O x) (KL x):=by
 refine⟨?_,λc more=>?_⟩
 .rcases M with rfl|rfl|rfl<;>exact aq<|J x9<|bM<|by simp
 .delta bz;refine J (tP<|J bE N) (J (kj _)<|J (aj ..) ?_)
  have U:∀k,(O.set p c++(.L (R.map n5)::lc [.t,.u]::lc [.u]::lc []::more))[O.length+k]? =(.L (R.map n5)::lc [.t,.u]::lc [.u]::lc []::more)[k]? :=λk=>by have:=gx (O.set p c) (.L (R.map n5)::lc [.t,.u]::lc [.u]::lc []::more) k;rwa [bE] at this
  rcases M with rfl|rfl|rfl
  .exact(bS.trans<|J (U _) Y)
  .exact(bS.trans<|J (U _) Y)
  .exact(bS.trans<|J (U _) Y)
inductive I1(st:St)(p b:Nat)(d:List Sy)(R:Rl)(x:Sy)(i:List Nat):En->St->Prop
 |mk (D:Rl) (n j:Nat) (o4 o5:Option AV) (hj:j<=b+3*i.length) (hB:NQ d R x i.length D):I1 st p b d R x i (env st p (b5 x) (SX st x) o4 o5) (bz st p n j (R++D) [])
set_option tactic.hygienic true in
def y6(hc:Cl O)(hR:EC Φ)(H:N<=p)(P:p<O.length)(hb:b<=800)(hx:x=.s\/x=.t\/x=.u)(hRx:∀q∈R,q.1≠x)(hRl:R.length<=9)(hi:i.length<2)(h:I1 O p b d R x i ρ s){M}:
  Wp ((fQ s (.v 4) (vi y) ρ).bind λX=>cg Φ N M fl tI X s) (LQ none<|I1 O p b d R x<|i++[y]):=by
 induction h;rename_i D n j o4 o5 hj hB;refine kp Y ?_;have hl2:(KL x).length<=2:=by rcases hx with rfl|rfl|rfl<;>decide
 obtain⟨_,hd,_,B,A,Q,r,rfl,hr1,w⟩:=hR (cl hc) H (J x9<|lq [_,_] [aH (.s ax) aE] (.s ax) (.a (.a aE<|.c 4)<|.c 0) Y P) (Qb P hj) (lq [_,_] [aH ax (.c 800),.e 3 (.s aE) (.c 2)] (.a ax<|.m 3 aE) (.c 900) Y hb hi) hl2<|QJ hx P;rw [Lz P] at hd;have hv:vw (bz O p B A (R++D) []) (.ref O.length)=.L ((R++D).map n5):=by simp only [bS,mU]
 refine cb (fK (aA Y<|aA Y aV) hd) Y<|jX (cp (x:=n5 (x,r)) Y Y<|XZ hv) ?_;by_cases U:(x,r)∈R++D
 .exact J (aq U) (bU<|bU ⟨.inl Y,trivial,D,B,A,_,_,(J ae Q),ae▸hB.skip hRx U⟩)
 .refine J (aF U) (iP (jS (x:=n5 (x,r)) Y mU Y mU (fH ?_)<|aa H<|bx P)<|bU<|bU ?_)
  .have:=hB.len;exact J (ag _)<|J ae<|lq [_,_,_] [aH ax (.c 9),aH (.s a7)<|.c 2,aH aE a7] (.a ax aE) (.c 2000) Y hRl hi this
  .simp only [nH,PW,aj];exact⟨.inl Y,trivial,D++[(x,r)],B,A,_,_,(J ae Q),ae▸hB.add ⟨hr1,w⟩ U⟩
inductive I0(st:St)(p b:Nat)(d:List Sy):En->St->Prop
 |mk (R:Rl) (n j:Nat) (hj:j<=b+12*d.length) (hR:rX d R):I0 st p b d (env st p) (bz st p n j R [])
def ZA(B:Cl U)(P:p<U.length)(X:A=U.length+4){T:Rl}(H:jT (U.set p (iM n j)++(.L D::lc [.t,.u]::lc [.u]::lc []::m)) (U.length+4) 6 (.L D)=some (.L<|T.map n5))(k:Q (.next,env U p,bz U p n j T [])):
  Wp (cg Φ N M A [.gc [2,3,4,5]] (env U p y v q w) (U.set p (iM n j)++(.L D::lc [.t,.u]::lc [.u]::lc []::m))) Q:=by
 have O:(U.set p<|iM n j).length=U.length:=bE;exact oF (O▸X) (B.set Y) (bM Y) (O▸(J (dq ..)<|J H Y)) (O▸aD (bI<|aq<|Nat.lt_add_right _ P) (aD (bI<|aq<|bX<|bM Y) Y))<|bU k
def Jf{S:St}(N:U<=k){T:Rl}{O}(Q:S[k]? =some (.L O))(H:gD O=true):jT S U 6 (.L<|T.map n5++[.aL [b5 x,.ref k]])=some (.L<|T.map n5++[.aL [b5 x,.aM O]]):=by
 have M:belows U (T.map n5++[.aL [b5 x,.ref k]])=false:=by
  have:∀l:List AV,belows U (l++[.aL [b5 x,.ref k]])=false:=λl=>l.rec (by show(belows U [b5 x,.ref k]&&true)=false;show((true&&(decide (k<U)&&true))&&true)=false;exact J (aF<|Nat.not_lt.mpr N) Y) λa l D=>by show(below U a&&belows U (l++[.aL [b5 x,.ref k]]))=false;exact J D<|km _
  exact this _
 refine(az (by refine J M ?_;decide)).trans (J (q5 ..)<|J (l5 λq P=>by obtain⟨r,_,e⟩:=mM P;exact e▸ME Y) ?_)
 have X:iH S U 6 (.aL [b5 x,.ref k])=some (.aL [b5 x,.aM O]):=by show(if below U (.aL [b5 x,.ref k])then _ else(cY (iH S U 5) [b5 x,.ref k]).bind λO=>some<|AV.aL O)=_;exact J (az (by show ¬((true&&(decide (k<U)&&true))=true);refine J (aF<|Nat.not_lt.mpr N) ?_;decide))<|J (dq ..)<|J (dq ..)<|J (iQ N Q H) Y
 exact J (dq ..)<|J X Y
def T8(hc:Cl st)(hD:wi Φ)(B:N<=p)(H:p<st.length)(hf:fl=st.length+4)(hd:rX d R)(hx:x∉d)(hxx:x=.s\/x=.t\/x=.u)(hs:d=[]->x=.s){e}(he:e=1\/e=2)(v:NQ d R x e D)(hb:b<=700)(hj:j<=b+12*d.length+7)(w:d.length<=2)(P:R.length<=6){M}:
  Wp (cg Φ N M fl vT (env st p (b5 x) (SX st x) o4 o5)<|bz st p n j (R++D) []) (LQ none<|I0 st p b<|d++[x]):=by
 have hl:x∉[Sy.err,.a,.b]++KL x:=by rcases hxx with rfl|rfl|rfl<;>decide
 have X:(d++[x]).length=d.length+1:=ae;refine rI (hD (st:=bz st p n j (R++D) []) (many:=4) B (J x9<|lq [_,_] [aH (.s ax) aE] (.s ax) (.a (.a aE<|.c 4)<|.c 0) Y H) (Qb H .refl) (lq [_,_,_] [aH aE (.c 700),aH ax<|.a (.a aE<|.m 12 a7)<|.c 7,.e 12 a7 (.c 2)] ax (.c 1000) Y hb hj w) (bM Y)<|bM Y) λf n1 j1 A u9 hd1=>?_;rw [Lz H] at hd1;refine jX (cp (fK (aA Y<|aA Y aV) hd1) Y tp) ?_;by_cases hf0:f=0
 .refine J (aq hf0) ?_;refine rI (hD (st:=bz st p n1 j1 (R++D) []) (many:=2) B (lq [_,_,_,_] [aH (.s ax) a7,.p 1 cz a7,.p 1 aE (.a cz<|.s<|.c 3)] (.s ax) aE Y H bE ae) (Qb H .refl) (lq [_,_,_,_] [aH aE (.c 700),aH a7<|.a (.a aE<|.m 12 cz)<|.c 7,.e 12 cz<|.c 2,aH ax (.s a7)] ax (.c 1000) Y hb hj w A) (bM Y)<|bM Y) λf2 U O hj2 hf2 hd2=>?_;rw [Lz H] at hd2;obtain⟨z,hz,hsub⟩:∃z,(z=Sy.a\/z=.err)/\subQ (bz st p U O (R++D) []) (.aL [b5 .a,b5 .err]) (vi f2)=(b5 z):=by
   rcases(show f2=0\/f2=1 by lia)with rfl|rfl
   .exact⟨.a,.inl Y,Y⟩
   .exact⟨.err,.inr Y,Y⟩
  have h1:bZ Φ N (.aM [(.sub (.aL [(.aI<|.str [97]),(.aI<|.str [101,114,114,111,114])])<|.lO 433 [(.af 0),(.aI<|.int 2)]),(.af 2)]) (env st p (b5 x) (SX st x) o4 o5) (bz st p n1 j1 (R++D) [])=some (.ref<|st.length+4,bz st p U O (R++D) [.L [b5 z,b5 x]]):=by refine J kL<|J (aA (dh Y (fK (aA Y<|aA Y aV) hd2) hsub)<|aA Y aV) ?_;show some (AV.ref (bz st p U O (R++D) []).length,bz st p U O (R++D) []++[AC.L [b5 z,b5 x]])=_;exact bV yh x9 Y
  have qm:(bz st p U O (R++D) [.L [b5 z,b5 x]]).set st.length (.L<|(R++D).map n5++[.aL [b5 x,.ref (st.length+4)]])=st.set p (iM U O)++(.L ((R++D).map n5++[.aL [b5 x,.ref (st.length+4)]])::lc [.t,.u]::lc [.u]::lc []::[.L [b5 z,b5 x]]):=by have:=rW (st.set p<|iM U O) (lc [.t,.u]::lc [.u]::lc []::[.L [b5 z,b5 x]]) (.L<|(R++D).map n5)<|.L<|(R++D).map n5++[.aL [b5 x,.ref (st.length+4)]];rwa [(λn j=>bE)] at this
  refine iP (jS Y mU (J sF<|J (aA Y<|aA h1 aV) Y) mU (fH<|J (ag _)<|J ae<|hxx.elim (λQ=>he.elim (λQ=>lq [_,_,_] [aH ax (.c 6),aH aE a7,.q 1 a7 (.c 1)] (.a ax aE) (.c 2000) Y P v.len Q) λQ=>lq [_,_,_] [aH ax (.c 6),aH aE a7,.q 1 a7 (.c 2)] (.a ax aE) (.c 2000) Y P v.len Q) λQ=>he.elim (λQ=>lq [_,_,_] [aH ax (.c 6),aH aE a7,.q 1 a7 (.c 1)] (.a ax aE) (.c 2000) Y P v.len Q) λQ=>lq [_,_,_] [aH ax (.c 6),aH aE a7,.q 1 a7 (.c 2)] (.a ax aE) (.c 2000) Y P v.len Q)<|aa B<|bx H)<|bU<|J qm<|ZA hc H hf ?_ ⟨.inl Y,trivial,_,_,_,(lq [_,_,_,_,_,_] [aH cz (.a (.a aE<|.m 12 g7)<|.c 7),aH g7<|.c 2,.p 11 a7<|.s g7,aH wG<|.s cz,aH ax (.s wG)] ax (.a aE<|.m 12 a7) Y hj w X A hj2),hd.step hx v he hs (.inr ⟨z,hz,Y⟩) hl⟩
  have hk:(st.set p (iM U O)++(.L ((R++D).map n5++[.aL [b5 x,.ref (st.length+4)]])::lc [.t,.u]::lc [.u]::lc []::[.L [b5 z,b5 x]]))[st.length+4]? =some (.L [b5 z,b5 x]):=by have:=gx (st.set p<|iM U O) (.L ((R++D).map n5++[.aL [b5 x,.ref (st.length+4)]])::lc [.t,.u]::lc [.u]::lc []::[.L [b5 z,b5 x]]) 4;rw [(λn j=>bE)] at this;exact this
  exact(Jf .refl hk Y).trans (jn nH Y)
 .refine J (aF hf0) (bU<|ZA hc H hf (dK<|vU λu9=>rfl) ⟨.inl Y,trivial,_,_,_,(c9 λh9=>tH [_,_,_,_,_] [aH ax (.a (.a aE<|.m 12 a7)<|.c 7),.p 12 cz<|.s a7,aH g7<|.s ax,aH (.s<|.a aE<|.m 12 cz) g7] Y hj X A h9),?_⟩);have:=hd.step hx v he hs (.inl Y) hl;rwa [aC] at this
def PN{d:List Sy}(O:[Sy.s,.t,.u]=d++x::rest):d.length<=2/\(x=.s\/x=.t\/x=.u)/\x∉d/\(d=[]->x=.s):=by
 rcases d with _|⟨a,_|⟨b,_|⟨c,d⟩⟩⟩
 .exact jn (cw O).1 ⟨bM Y,.inl Y,nofun,λD=>rfl⟩
 .exact(cw O).elim λM U=>by subst M;exact jn (cw U).1 ⟨bM Y,.inr<|.inl Y,by decide,nofun⟩
 .exact(cw O).elim λM U=>(cw U).elim λU N=>by subst M;subst U;exact jn (cw N).1 ⟨bM Y,.inr<|.inr Y,by decide,nofun⟩
 .exact absurd (cw (cw (cw O).2).2).2.symm (by simp)
set_option tactic.hygienic true in
def ok(hc:Cl st)(hD:wi Φ)(hR':EC Φ)(O:N<=p)(Q:p<st.length)(h:GO st p 0):Wp (kC Φ N M te [.ref p] st) λr=>∃R n j,r=(iL R,st.set p<|iM n j)/\rX [.s,.t,.u] R:=by
 obtain⟨n0,j0,hn,hj0⟩:=h;refine HE Y ?_
 have A:st++[AC.L []]++[lc [.t,.u]]++[lc [.u]]++[lc []]=bz st p n0 j0 [] []:=by have:st.set p (iM n0 j0)=st:=(List.getElem?_eq_some_iff.mp hn).elim λh1 h2=>jn h2<|(List.set_getElem_self _);delta bz;refine J this ?_;simp
 refine cb (s1:=st++[.L []]) Y Y<|gu (l:=[Sy.s,.t,.u]) (enc:=λx=>.aL [b5 x,SX st x]) (I:=I0 st p 0) (x:=.aL [.aL [b5 .s,.ref (st.length+1)],.aL [b5 .t,.ref (st.length+2)],.aL [b5 .u,.ref (st.length+3)]]) ?_ Y ⟨[],n0,j0,hj0,(⟨bh,nofun,(λg=>iZ),nofun,λg=>bf _,(λg=>eg),aS _⟩)⟩ (λd x rest ρ s hs hI=>?_) λρ s hI=>?_
 .have l1:(st++[AC.L []]).length=st.length+1:=ae;have l2:(st++[AC.L []]++[lc [.t,.u]]).length=st.length+2:=J ae<|J l1 Y;have l3:(st++[AC.L []]++[lc [.t,.u]]++[lc [.u]]).length=st.length+3:=J ae<|J l2 Y;have e1:bZ Φ N (.aL [(.aI<|.str [115]),(.aM [(.aI<|.str [116]),(.aI<|.str [117])])]) [some (.ref p),some<|.ref st.length,none,none,none,none] (st++[.L []])=some (.aL [b5 .s,.ref (st.length+1)],st++[AC.L []]++[lc [.t,.u]]):=jn l1 Y;have e2:bZ Φ N (.aL [(.aI<|.str [116]),(.aM [(.aI<|.str [117])])]) [some (.ref p),some<|.ref st.length,none,none,none,none] (st++[AC.L []]++[lc [.t,.u]])=some (.aL [b5 .t,.ref (st.length+2)],st++[AC.L []]++[lc [.t,.u]]++[lc [.u]]):=jn l2 Y;have e3:bZ Φ N (.aL [(.aI<|.str [117]),(.aM [])]) [some (.ref p),some<|.ref st.length,none,none,none,none] (st++[AC.L []]++[lc [.t,.u]]++[lc [.u]])=some (.aL [b5 .u,.ref (st.length+3)],st++[AC.L []]++[lc [.t,.u]]++[lc [.u]]++[lc []]):=jn l3 Y;simp only [<-A];show(gP _ _ _ [some (.ref p),some<|.ref st.length,none,none,none,none] _).bind _=_;simp only [aA e1 (aA e2<|aA e3 aV)];rfl
 .induction hI;rename_i R n j b H;obtain⟨U,X,B,hss⟩:=PN hs;refine kp (ρ':=env st p (b5 x)<|SX st x) Y ?_;refine rI (hD (st:=bz st p n j R []) (many:=2) O (lq [_,_,_,_] [aH (.s ax) a7,.p 1 cz a7,.p 1 aE (.a cz<|.s<|.c 3)] (.s ax) aE Y Q bE ae) (Qb Q .refl) (lq [_,_] [aH ax (.a (.c 0)<|.m 12 aE),.e 12 aE (.c 2)] ax (.c 1000) Y b U) (bM Y)<|bM Y) λf n1 j1 v hf o=>?_;rw [Lz Q] at o;refine gu (I:=I1 st p j1 d R x) (cx (aA (dy Y (fK (aA Y<|aA Y aV) o) il) aV)<|NY<|lq [_] [aH (.s ax) (.c 2)] (.a (.c 1) ax) (.c 1000) Y hf) (t7<|lq [_] [aH (.s ax) (.c 2)] (.a (.c 1) ax) (.c 1000) Y hf) ?_ (λi y rest' ρ s hs' P=>?_) λρ s P=>?_
  .have:=I1.mk (st:=st) (p:=p) (d:=d) (R:=R) (x:=x) (i:=[]) [] n1 j1 none none .refl ⟨by refine J (aC _) ?_;exact H.fW,nofun,aS _,λq=>absurd q<|cu _⟩;rwa [aC] at this
  .refine y6 hc hR' O Q (lq [_,_,_] [aH aE (.a (.c 0)<|.m 12 a7),.e 12 a7<|.c 2,aH ax (.s aE)] ax (.c 800) Y b U v) X (λq hq e=>B<|jn e<|H.lf q hq) (lq [_] [aH ax (.c 6)] ax (.c 9) Y (aa H.len<|cI 3 U)) ?_ P;have:=congrArg List.length hs';rw [aO,ae,bj] at this;exact lq [_,_,_] [aH (.s aE) (.c 2),.p 1 (.a (.c 1) aE) (.a ax<|.s a7)] (.s ax) (.c 2) Y hf this
  .induction P;rename_i D n2 j2 o4 o5 w hB;rw [aO] at w hB;exact T8 hc hD O Q x9 H B X hss (e:=1+f) (by lia) hB (by decide) (by exact lq [_,_,_,_,_] [aH a7 (.a (.c 0)<|.m 12 aE),aH cz<|.s a7,.e 3 (.s g7)<|.c 2,aH ax (.a cz<|.m 3<|.a (.c 1) g7)] ax (.a (.a (.c 0)<|.m 12 aE)<|.c 7) Y b v hf w) U<|aa H.len<|cI 3 U
 .induction hI;rename_i R n j b H;exact oE Y ⟨_,iL R,st.set p<|iM n j,.inl Y,iQ (aS _) mU (bT λg g=>by rw [n5];refine J HL ?_;rfl),qp (dK Y) _ Q,R,n,j,Y,H⟩
end Pr
def qq(G:Gr)(Q:List Sy):List AV:=G.cK.map λx=>.bool<|decide<|x∈Q
def OT(G:Gr)(Q:List Sy):Prop:=(∀p∈G.rl,(∀x∈p.2,x∈Q)->p.1∈Q)/\∀x∈Q,x∈G.nt
noncomputable def F9(P r:List Sy):Nat:=r.countP λy=>decide<|y∉P
def sP(d:List ((Sy×List Sy)×Nat))(x:Sy):List Nat:=d.flatMap λq=>List.replicate (q.1.2.countP λy=>decide<|y=x) q.2
def Gr.Ok.left{G:Gr}(h:G.Ok)(M:p∈G.rl):p.1∈G.nt:=by
 obtain⟨H,D,N,_⟩:=h.rl;rw [D] at M;rw [h.jF];rcases mO M with O|O
 .refine J O ?_;decide
 .rcases N _ O with U|U|U<;>refine J U ?_<;>decide
def wQ{O:Type}{l:List O}{d r}{q}(h:l.zipIdx=d++q::r):q.2=d.length/\l[d.length]? =some q.1:=by have U:l.zipIdx[d.length]? =q:=J h<|(br .refl).trans<|J (dC _) Y;rw [List.getElem?_zipIdx,bu] at U;obtain⟨a,N,M⟩:=Option.map_eq_some_iff.mp U;exact jn M ⟨Y,N⟩
def FZ(O:x∉P) r:F9 P r=F9 (P++[x]) r+r.countP λy=>decide (y=x):=by
 delta F9;exact r.rec Y λy r U=>by simp only [List.countP_cons,U];exact if c:y=x then J c (J (au<|aq O)<|bV (au<|aq Y) (az (by refine J cy ?_;rw [fZ];exact λq=>q<|.inr<|.head _)) Y)else wo (aF c) (dD<|not_congr (by rw [fZ,eU];exact or_iff_left c)) (Nat.add_right_comm ..) Y
def qQ(l:Rl)(k:Nat):List Sy:=(l[k]?.map (·.2)).getD []
def Pl(x:Sy):∀(l:Rl) (i k:Nat),(sP (l.zipIdx i) x).count k=if k<i then 0 else(qQ l<|k-i).countP λy=>decide (y=x):=λl=>l.rec (λi k=>jn (show(qQ [] (k-i))=[] from Y)<|(ite_self _).symm) λp l O=>by
  refine λi k=>J (show sP ((p::l).zipIdx i) x=List.replicate (p.2.countP λy=>decide<|y=x) i++sP (l.zipIdx<|i+1) x from iX)<|List.count_append.trans<|bV (O (i+1) k) List.count_replicate ?_;rcases iV k i with c|c|c
  .exact wo (az (by rw [kQ];exact λU=>tH [_,_] [aH (.s ax) aE,.q 1 aE ax] Y c U)) (au c) (au<|fT c) Y
  .exact J c (bV (au<|by rw [kQ]) (az<|cu _)<|bV (au<|a6 _) (dC _) Y)
  .exact wo (az (by rw [kQ];exact λU=>tH [_,_] [aH (.s ax) aE,.p 1 ax aE] Y c U)) (az<|Nat.not_lt.mpr c) (az<|Nat.not_lt.mpr<|bx c) (bV (bu _) (show k-i=(k-(i+1))+1 by exact bH (lq [_,_,_,_] [aH a7 (.a aE<|.s cz),aH (.a ax cz) a7] ax (.s aE) Y (wB ..) (aG<|a9<|lq [_,_] [aH (.s ax) aE] ax aE Y c))<|lq [_,_,_,_] [aH a7 (.a aE cz),aH (.a ax<|.s cz) a7] (.s ax) aE Y (wB ..) (aG<|a9<|lq [_,_] [aH (.s ax) aE] (.s ax) aE Y c)) Y)
namespace Sp
variable{G:Gr}
def xd(G:Gr)(P:List Sy)(dn:List Nat)(k:Nat):Int:=(F9 P (qQ G.rl k):Int)-(dn.count k:Int)
def t5(G:Gr)(P:List Sy)(dn:List Nat)(n:Nat):List AV:=(List.range n).map λk=>.int<|xd G P dn k
def pre(st:St)(G:Gr)(Q:List Sy)(U:List AV):St:=st++[.L (qq G Q),.L U,.L ((List.range G.cK.length).map λi=>.ref<|st.length+3+i)]
def bz(st:St)(G:Gr)(Q:List Sy)(lk:List AV)(us:Sy->List Nat)(qs:List Sy):St:=pre st G Q lk++((G.cK.map λx=>.L<|li<|us x)++[.L (qs.map<|nv G)])
def env(st:St)(G:Gr)(e:Ex)(o5 D N M O U:Option AV:=none):En:=[some (jG G e),some<|.aM<|List.replicate G.cK.length<|.bool false,some<|.ref st.length,some<|.ref<|st.length+1,some<|.ref<|st.length+2,o5,some<|.ref<|st.length+3+G.cK.length,D,N,M,O,U]
def pl:(pre st G Q lk).length=st.length+3:=ae
def ap(t:St):pre st G Q lk++t=st++ .L (qq G Q)::.L lk::.L ((List.range G.cK.length).map λi=>.ref<|st.length+3+i)::t:=aj ..
def mU:(bz U G Q N O M)[U.length]? =some (.L<|qq G Q):=by simp only [bz];exact J (ap _)<|gn ..
def wa:(bz st G Q lk U O)[st.length+1]? =some (.L lk):=by simp only [bz];exact J (ap _)<|gx _ _ 1
def at2:(bz st G Q lk U O)[st.length+2]? =some (.L<|(List.range G.cK.length).map λi=>.ref<|st.length+3+i):=by simp only [bz];exact J (ap _)<|gx _ _ 2
def A0(U:x∈G.cK):(bz st G Q lk O M)[st.length+3+G.num x]? =some (.L<|li<|O x):=J (ll U)<|jn pl<|tU U
def Xe:(bz st G Q lk O U)[st.length+3+G.cK.length]? =some (.L<|U.map<|nv G):=by simp only [<-pl (st:=st) (G:=G) (Q:=Q) (lk:=lk),bz,gx,br<|aG<|ag _,ag,dC];rfl
def PW(H:G.cK.Nodup)(D:x∈G.cK):(bz U G Q N O M).set U.length (.L<|(qq G Q).set (G.num x)<|.bool true)=bz U G (Q++[x]) N O M:=by
 simp only [rW,bz,ap,qq,map_set _ _ _ H (Gr.jz D)];congr 3;refine aX λy P=>?_;by_cases c:y=x
 .exact bV (au c) (aq<|ar _<|c▸.head _) Y
 .refine J (az c) ?_;rw [dD];rw [fZ,eU];exact(or_iff_left c).symm
def wA:(bz st G Q lk O M).set (st.length+1) (.L U)=bz st G Q U O M:=by simp only [sx,bz,ap];rfl
def Bp(N:G.cK.Nodup)(U:x∈G.cK):(bz st G Q lk O M).set (st.length+3+G.num x) (.L<|li l)=bz st G Q lk (upd O x l) M:=by refine J (ll U)<|jn pl<|(tT N U).trans ?_;congr 2;exact aX λy D=>by dsimp only [upd];split<;>rfl
def XM:(bz st G Q lk O M).set (st.length+3+G.cK.length) (.L<|U.map<|nv G)=bz st G Q lk O U:=by simp only [<-pl (st:=st) (G:=G) (Q:=Q) (lk:=lk),bz,sx,gN _ _<|aG<|ag _,ag,dC];rfl
def BI(O:G.cK.length<=10)(U:x∈G.cK):G.num x<=1000:=aa (bx<|Gr.jE U)<|aa O<|bM Y
def Ur(M:G.cK.length<=10)(U:x∈G.cK):subQ (bz O G Q H N D) (.ref O.length) (nv G x)=some (.bool<|decide<|x∈Q):=me (f:=λx=>.bool<|decide<|x∈Q) (by simp only [bS,mU];rfl) (BI M U)<|Gr.jz U
def Up(M:G.cK.length<=10)(O:x∈G.cK):subQ (bz U G Q H N D) (.ref<|U.length+2) (nv G x)=some (.ref<|U.length+3+G.num x):=me (f:=λi=>.ref<|U.length+3+i) (by simp only [bS,at2]) (BI M O)<|dI<|Gr.jE O
def Uq(M:n<=12)(U:k<n):subQ (bz O G Q (t5 G P dn n) us qs) (.ref<|O.length+1) (vi k)=some (.int<|xd G P dn k):=me (f:=λk=>.int<|xd G P dn k) (by simp only [bS,wa];rfl) (aa (bx U)<|aa M<|bM Y)<|dI U
inductive Qk(G:Gr)(Q:List Sy):Prop
 |mk (fW:Q.Nodup) (nt:∀x∈Q,x∈G.nt)
def Qk.len(h:Qk G Q):Q.length<=10:=gE h.1
def mark(h:G.Ok)(g:Qk G Q)(b:n<=12)(l:k<n)(L:y∈G.nt)
  (h1:∀s,bZ Φ U.length ke (env U G e w j A B M O) s=(vi k,s)) (r:∀s,bZ Φ U.length le (env U G e w j A B M O) s=(nv G y,s))
  (v:∀t,Qk G (Q++t)->(xd G P H k=0->y∈Q++t)->Wp (cg Φ U.length N fl i (env U G e w j A B M O)<|bz U G (Q++t) (t5 G P H n) X<|Q++t) R):
  Wp (cg Φ U.length N fl (.jt (.and [.bk .eq (.sub (.af 3) ke) (.aI<|.int 0),.not (.sub (.af 2) le)]) [.aU (.sub (.af 2) le) (.aI<|.bool true),.exp (.bR (.af 6) .append [le])] []::i) (env U G e w j A B M O)<|bz U G Q (t5 G P H n) X Q) R:=by
 have D:=cp (op:=.eq) (dh (o:=.af 3) Y (h1 _)<|Uq (G:=G) (Q:=Q) (P:=P) (dn:=H) (us:=X) (qs:=Q) b l) (cD (a:=.int 0)) rF;by_cases c:xd G P H k=0
 .rw [aq c] at D;refine jX (nP D<|El<|dh Y (r _)<|Ur h.dN<|ar _ L) ?_;by_cases m:y∈Q
  .refine J (aq m) ?_;have:=v [] (by rwa [aC]) λp=>J (aC _) (by assumption);rw [aC] at this;exact bU this
  .refine J (aF m) (uI cD Y (r _) mU (by simp only [qq,ag];exact Gr.jE<|ar _ L) (by simp only [qq];exact J (ag _)<|lq [_] [aH ax (.c 10)] ax (.c 2000) Y h.dN) .refl ?_);refine J (PW h.fW<|ar _ L)<|iP (jS Y Xe (r _) Xe (J (ag _)<|aQ (gE g.1)<|bM Y)<|lq [_,_] [] ax (.a (.a ax<|.c 3) aE) Y)<|J ((aR (l₂:=[y])).symm)<|J XM<|bU<|v [y] ⟨k6 g.1 m,λx f=>?_⟩ λp=>ar _<|.head _;exact(mA f).elim (g.2 x) λf=>J (mS f) L
 .replace D:=(aF c)▸D;have:=v [] (by rwa [aC]) λq=>absurd q c;rw [aC] at this;exact jX (lB D)<|bU this
def K7(d:List ((Sy×List Sy)×Nat))(U:List Sy)(k:Nat)(x:Sy):List Nat:=sP d x++List.replicate (U.countP λy=>decide<|y=x) k
def K6:upd (K7 d U k) x (K7 d U k x++[k])=K7 d (U++[x]) k:=by
 funext y
 delta upd K7;refine J List.countP_append ?_;by_cases c:y=x
 .subst c;exact J (au Y)<|J (aj ..)<|jn List.replicate_succ'<|J (show [y].countP (λz=>decide<|z=y)=1 by exact J List.countP_singleton<|au<|aq Y) Y
 .exact(az c).trans (J (show [x].countP (λz=>decide<|z=y)=0 by exact J List.countP_singleton<|az<|by exact J cy λq=>c q.symm)<|J (eR _) Y)
def CY{d}(h:∀q∈d,q.1.2.length<=4):(sP d x).length<=4*d.length:=by
 induction d with
 |nil=>exact aS _
 |cons q d U=>exact bV (show sP (q::d) x=List.replicate (q.1.2.countP λy=>decide<|y=x) q.2++sP d x from iX) ae<|bV cM bj<|lq [_,_,_,_] [aH aE (.m 4 a7),aH cz<|.c 4,aH ax cz] (.a ax aE) (.m 4<|.s a7) Y (U λq O=>h q<|.tail _ O) (h q<|.head _) List.countP_le_length
abbrev I0(st:St)(G:Gr)(e:Ex)(d:List ((Sy×List Sy)×Nat))(q:(Sy×List Sy)×Nat)(U:List Sy):En->St->Prop:=Ki (env st G e none (nR G e.lv q)<|vi U.length)<|bz st G [] (t5 G [] [] d.length) (K7 d U q.2) []
def T9(h:G.Ok)(U:x∈G.cK)(L:(K7 d D q.2 x).length<=1000)(P:I0 M G e d q D H s):
  Wp ((fQ s (.v 5) (nv G x) H).bind λO=>cg Φ M.length N Q J4 O s) (LQ none<|I0 M G e d q<|D++[x]):=by
 induction P;refine kp Y<|jX (El<|dh Y Y<|Ur h.dN U)<|cb (ρ':=env M G e (nv G x) (nR G e.lv q)<|vi (D++[x]).length) (dy Y Y il) (J ae Y)<|iP (jS (dh Y Y<|Up h.dN U) (A0 U) (dM Y Ss) (A0 U) (by simp only [li];exact J (ag _)<|aQ L<|bM Y)<|lq [_,_] [] ax (.a (.a ax<|.c 3) aE) Y) ?_;exact J yv<|J (Bp h.fW U)<|J K6<|bU<|d9<|bU ⟨.inl Y,trivial,⟨⟩⟩
abbrev I1(st:St)(G:Gr)(e:Ex)(d:List ((Sy×List Sy)×Nat)):En->St->Prop:=Ki (env st G e)<|bz st G [] (t5 G [] [] d.length) (sP d) []
def y6(h:G.Ok)(Q:G.rl.zipIdx=d++q::r)(M:I1 L G e d H s):
  Wp ((fQ s (.v 7) (nR G e.lv q) H).bind λD=>cg Φ L.length N fl tI D s) (LQ none<|I1 L G e<|d++[q]):=by
 induction M;refine And.elim (λhk O=>?_)<|wQ Q
 have U:d.length<12:=by have:=congrArg List.length Q;simp only [cQ,ae,bj] at this;have:=h.mi;exact lq [_,_,_] [.p 1 aE (.a ax<|.s a7),aH aE (.c 12)] (.s ax) (.c 12) Y (by assumption) this
 refine kp Y<|cb Y Y<|gu (I:=I0 L G e d q) (dM Y vY) (gF<|aa (h.rr _<|aN O).1<|bM Y) ?_ (λw x rest H s X M=>?_) λH s M=>?_
 .exact J (show sP d=K7 d [] q.2 from funext λx=>(aC _).symm) ⟨⟩
 .refine T9 h ((h.rr _<|aN O).2.1 x<|J X<|ar _<|.head _) ?_ M;have B:=congrArg List.length X;simp only [ae] at B;simp only [K7,ae,cM];exact lq [_,_,_,_,_,_] [aH a7 (.c 4),.e 4 (.s cz)<|.c 12,aH ax<|.m 4 cz,aH aE g7,.p 1 a7 (.a g7<|.s wG)] (.a ax aE) (.c 1000) Y (h.rr _<|aN O).1 U (CY λj P=>(λq O=>(h.rr _<|b4 O).1) j<|J Q<|bl _ P) List.countP_le_length B
 .induction M;refine iP (jS Y wa Y wa (by simp only [t5,ag,aO];exact eQ U<|bM Y)<|b0 _) ?_;refine J wA (J (show t5 G [] [] d.length++[vi q.1.2.length]=t5 G [] [] (d++[q]).length by
   simp only [ae,t5,dG,List.range_succ,aR];congr 2;show _=AV.int ((F9 [] (qQ G.rl d.length):Int)-0);rw [qQ,O,F9];exact J (List.countP_eq_length.mpr λA A=>aq List.not_mem_nil) Y) ?_)
  refine d9<|bU ⟨.inl Y,trivial,?_⟩;exact J (show K7 d q.1.2 q.2=sP (d++[q])from funext λx=>by simp only [sP,cX];exact congrArg _ (aC _).symm) ⟨⟩
def Z(G:Gr)(P:List Sy)(U:List Nat)(Q:List Sy):Prop:=∀k p,G.rl[k]? =some p->xd G P U k=0->p.1∈Q
noncomputable def ift(ke le:E):S:=.jt (.and [.bk .eq (.sub (.af 3) ke) (.aI<|.int 0),.not (.sub (.af 2) le)]) [.aU (.sub (.af 2) le) (.aI<|.bool true),.exp (.bR (.af 6) .append [le])] []
inductive I2(st:St)(G:Gr)(e:Ex)(d:List ((Sy×List Sy)×Nat)):En->St->Prop
 |mk (Q:List Sy) (hQ:Qk G Q) (z:∀q∈d,xd G [] [] q.2=0->q.1.1∈Q):I2 st G e d (env st G e) (bz st G Q (t5 G [] [] G.rl.length) (sP G.rl.zipIdx) Q)
def pQ:List S:=[.aU (.sub (.af 3)<|.af 10) (.b6 .sub (.sub (.af 3)<|.af 10)<|.aI<|.int 1),.aU (.v 11)<|.bG (.sub (.bG (.af 0) 13)<|.af 10) 5,ift (.af 10)<|.af 11,.jU [10,11]]
inductive I3(st:St)(G:Gr)(e:Ex)(Q0:List Sy)(a:Nat)(dn:List Nat):En->St->Prop
 |mk (Q t:List Sy) (ht:Q=Q0++t) (hQ:Qk G Q) (z:Z G (Q0.take a) dn Q):I3 st G e Q0 a dn (env st G e none none none<|vi a) (bz st G Q (t5 G (Q0.take a) dn G.rl.length) (sP G.rl.zipIdx) Q)
def Io(c:j≠k):xd G P (U++[k]) j=xd G P U j:=by simp only [xd,List.count_append,List.count_eq_zero.mpr λm=>c (mS m)];rfl
def Qt:xd G P (U++[k]) k=xd G P U k-1:=by simp only [xd,List.count_append,List.count_singleton_self,Int.sub_sub];rfl
def Mm(O:k<n):(t5 G P U n).set k (.int<|xd G P U k-1)=t5 G P (U++[k]) n:=by refine(map_set (x:=k) _ _ iq<|dI O).trans ?_;exact aX λj M=>if c:j=k then J (au c) (J c<|J Qt Y)else bV (az c) (Io c) Y
inductive I4(st:St)(G:Gr)(e:Ex)(k:Nat):En->St->Prop
 |mk (Q:List Sy) (a:Nat) (ha:a<=Q.length) (hk:k=11-a) (hQ:Qk G Q) (z:Z G (Q.take a) [] Q):I4 st G e k (env st G e none none none<|vi a) (bz st G Q (t5 G (Q.take a) [] G.rl.length) (sP G.rl.zipIdx) Q)
def Ml(U:x∉P) k:xd G P (sP G.rl.zipIdx x) k=xd G (P++[x]) [] k:=by simp only [xd,Pl,az<|dY _,FZ U,kh,Int.natCast_add,Int.add_sub_cancel];exact(Int.sub_zero _).symm
def start:bz U G [] (t5 G [] [] 0) (sP []) []=U++ .L (List.replicate G.cK.length<|.bool false)::.L []::.L ((List.range G.cK.length).map λi=>.ref<|U.length+3+i)::(List.replicate G.cK.length (.L [])++[.L []]):=by simp only [bz,ap,<-List.map_const' (l:=G.cK)];congr 3
set_option tactic.hygienic true in
def T6(h:G.Ok){Q}{a}(ha:a<Q.length)(M:Qk G Q)(z:Z G (Q.take a) [] Q)(H:k=11-a):
  Wp (cg Φ X.length N fl [.dT (.v 10) (.sub (.af 4)<|.sub (.af 6)<|.af 9) pQ,.aU (.v 9) (.b6 .add (.af 9)<|.aI<|.int 1)] (env X G e none none none<|vi a) (bz X G Q (t5 G (Q.take a) [] G.rl.length) (sP G.rl.zipIdx) Q)) λr=>(r.1=.next\/r.1=.cont)/\∃j,j<k/\I4 X G e j r.2.1 r.2.2:=by
 have A:=aW ha;generalize Q[a]=x at A;have U:x∈G.cK:=ar _<|M.2 x<|aN A;have htk:Q.take (a+1)=Q.take a++[x]:=J List.take_add_one<|J A Y
 have w:(sP G.rl.zipIdx x).length<=1000:=by have:=CY (x:=x) (d:=G.rl.zipIdx) λq hq=>(h.rr _<|b4 hq).1;have:=h.mi;rw [cQ] at*;exact lq [_,_] [aH ax (.m 4 aE),.e 4 aE (.c 12)] ax (.c 1000) Y (by assumption) this
 refine gu (l:=sP G.rl.zipIdx x) (enc:=vi) (gd:=some (X.length+3+G.num x,.L<|li<|sP G.rl.zipIdx x)) (I:=I3 X G e Q a) (dh Y (dh Y Y<|me (by simp only [bS,Xe]) (lq [_,_] [aH (.s ax) aE,aH aE (.c 10)] ax (.c 1000) Y ha M.len) A)<|Up h.dN U) ?_ ⟨Q,[],(aC _).symm,M,z⟩ (λdn k rest ρ s hl hI=>?_) λρ s hI=>?_
 .delta dR;dsimp only;exact J (A0 U)<|au<|dE (by simp only [li];exact J (ag _)<|lq [_] [aH ax (.c 1000)] ax (.c 2000) Y w)
 .obtain⟨⟨p,_⟩,hq,hkq⟩:=List.mem_flatMap.mp<|hl▸ar _ (.head _);clear A w hl;obtain rfl:=(List.mem_replicate.mp hkq).2;have D:=(List.mk_mem_zipIdx_iff_getElem?.mp hq);induction hI;rename_i Q t ht M z;have H:=(List.getElem?_eq_some_iff.mp D).1;refine kp Y<|uI (dy (dh Y Y<|Uq h.mi H) cD Y) Y Y wa (by simp only [t5,ag,aO];exact H) (by simp only [t5,ag,aO];exact lq [_] [aH ax (.c 12)] ax (.c 2000) Y h.mi) (b0 _) ?_;simp only [wA,Mm H];refine cb (dM (dh (dM Y oZ) Y<|qo h.mi D) J8) Y<|mark h M h.mi H (h.left<|aN D) (λs=>rfl) (λs=>rfl) λt' O hz=>d9<|bU ⟨.inl Y,A0 U,_,t++t',J ht<|aj ..,O,λj p' P B=>?_⟩;by_cases c:j=k
  .subst c;replace P:=D▸P;injection P with P;subst P;exact hz B
  .exact bl _ (z j p' P<|jn (Io c) B)
 .induction hI;rename_i Q' t ht O z'
  have e1:∀k,xd G (Q.take a) (sP G.rl.zipIdx x) k=xd G (Q'.take<|a+1) [] k:=λk=>by simp only [ht,List.take_append_of_le_length ha,htk,Ml (λm=>(nA<|jn htk<|M.1.sublist<|eK (a+1) Q).2.2 x m x (.head _) Y)]
  refine cb (dy Y Y il) Y<|bU ⟨.inl Y,11-(a+1),(lq [_,_,_,_] [.p 1 aE a7,aH (.c 11)<|.a a7 cz,aH (.a ax<|.s cz) (.c 11)] (.s ax) aE Y H (wB ..) (aG<|a9<|lq [_,_] [aH (.s ax) aE,aH aE (.c 10)] (.s ax) (.c 11) Y ha M.len)),?_⟩;exact J (show t5 G (Q.take a) (sP G.rl.zipIdx x) G.rl.length=t5 G (Q'.take<|a+1) [] G.rl.length from aX λk u9=>congrArg AV.int<|e1 k) ⟨Q',a+1,by refine J ht<|J ae ?_;exact lq [_,_,_] [aH (.s ax) aE] (.s ax) (.a aE a7) Y ha,Y,O,λk p D hz=>z' k p D<|(e1 k).trans hz⟩
set_option tactic.hygienic true in
def ok(h:G.Ok)(hN:11<N):Wp (kC Φ ro N Ai [jG G e,.aM (List.replicate G.cK.length<|.bool false)] st) λr=>∃Q,r=(.aM<|qq G Q,st)/\OT G Q:=by
 refine gT Y<|cb (cx (aA Y aV)<|Il Y (by rw [cM];exact aa h.dN<|bM Y)) Y ?_;refine cb (J kL<|J m6<|J (Option.bind_some ..)<|J (au<|bM Y)<|bV (aj ..) ae Y) Y ?_
 have j:=VM (Φ:=Φ) (ro:=st.length) (m:=5) (it:=.af 2) (own:=[5]) (ρ:=[some (jG G e),some<|.aM<|List.replicate G.cK.length<|.bool false,some<|.ref st.length,some<|.ref<|st.length+1,none,none,none,none,none,none,none,none]) (st:=st++[.L (List.replicate G.cK.length<|.bool false),.L []]) Y (by delta dR;dsimp only;exact J (gn ..)<|J (Option.bind_some ..)<|jn List.map_const'.symm<|au<|dE (by rw [cM];exact aa h.dN<|bM Y)) (λcs=>by exact J (aj ..)<|gn ..) (aa h.dN<|bM Y) λv=>rfl
 refine cb (j.trans<|J (aj ..)<|J ae Y) Y<|cb (s1:=bz st G [] (t5 G [] [] 0) (sP []) []) (ρ':=env st G e) (J kL<|J m6<|J (Option.bind_some ..)<|bV (au<|bM Y) start<|J (aj ..)<|J ae<|J bj<|J bj<|J bj<|J cM<|J (show st.length+(G.cK.length+1+1+1)=st.length+3+G.cK.length by exact bH (lq [_,_] [] (.a ax<|.s<|.s<|.s aE) (.a (.a ax<|.c 3) aE) Y)<|lq [_,_] [] (.a (.a ax<|.c 3) aE) (.a ax<|.s<|.s<|.s aE) Y) Y) Y ?_;refine gu (dM Y oZ) (dx<|J cQ<|aa h.mi<|bM Y) ⟨⟩ (λd q r H s=>y6 h) λH s D=>?_;induction D;refine J cQ<|gu (I:=I2 st G e) (dM (o:=.af 0) Y oZ) (dx<|lq [_,_] [aH aE (.c 12),.q 1 ax aE] ax (.c 2000) Y h.mi cQ) ⟨[],⟨bh,nofun⟩,nofun⟩ (λd q r H s hd D=>by induction D;rename_i Q M z;refine(wQ hd).elim λO f=>kp Y<|mark h M h.mi (O▸(List.getElem?_eq_some_iff.mp f).1) (h.left<|aN f) (λs=>dM Y Ss) (λs=>dM Y J8) λt w X=>d9<|bU ⟨.inl Y,trivial,_,w,λn B U=>?_⟩;exact(mA B).elim (λm=>bl _<|z n m U) λm=>by rw [mS m] at U⊢;exact X U) λH s D=>?_
 induction D;rename_i Q M z;refine cb (ρ':=env st G e none none none<|vi 0) Y Y<|zr (I4 st G e) (k:=11) hN ⟨Q,0,bf _,Y,M,λk p A X=>z (p,k) (List.mk_mem_zipIdx_iff_getElem?.mpr A) X⟩ λk H s D=>?_;induction D;rename_i Q a b O M z;have P:=M.len;have g:∀t,t=decide (a<Q.length)->bZ Φ st.length (.bk .lt (.af 9)<|.bA .len [.af 6]) (env st G e none none none<|vi a) (bz st G Q (t5 G (Q.take a) [] G.rl.length) (sP G.rl.zipIdx) Q)=some (.bool t,bz st G Q (t5 G (Q.take a) [] G.rl.length) (sP G.rl.zipIdx) Q):=λt e=>J e<|cp (x:=vi a) (y:=vi Q.length) Y (cx (aA (e:=.af 6) Y aV)<|by exact J (oK (l:=Q.map<|nv G) (by exact J bS<|J Xe Y)<|by exact J (ag _)<|lq [_] [aH ax (.c 10)] ax (.c 2000) Y P)<|J (ag _) Y) sU;by_cases c:a<Q.length
 .exact .inr ⟨_,g true (aq c).symm,(c9 λh9=>tH [_,_,_,_] [.p 1 ax aE,aH a7<|.c 10,aH (.s cz) a7,aH (.c 11)<|.a aE cz,aH (.s ax) (.s<|.c 0)] Y O P c (wB _ _) h9),T6 h c M z O⟩
 .refine .inl ⟨_,g false (aF c).symm,jo (s1:=st) (e:=.af 2) (x:=.ref st.length) (cs:=.L (qq G Q)::.L (t5 G (Q.take a) [] G.rl.length)::.L ((List.range G.cK.length).map λi=>.ref<|st.length+3+i)::((G.cK.map λx=>.L<|li<|sP G.rl.zipIdx x)++[.L (Q.map<|nv G)])) (by rw [bz,ap];rfl) (iQ (aS _) (gn _ _ _)<|bT λv v=>rfl) ⟨Q,Y,λp A b=>?_,M.2⟩⟩;obtain⟨k,O⟩:=List.mem_iff_getElem?.mp A;refine z k p O ?_;rw [xd,qQ,O,bP (Nat.not_lt.mp c)];show(((p.2.countP λy=>decide (y∉Q):Nat):Int))-0=0;rw [List.countP_eq_zero.mpr λy hy=>by rw [cy];exact λq=>q (b y hy)];rfl
end Sp
structure Y1(Φ:Fs)(G:Gr)(e:Ex):Prop where
 g:KS Φ G e
 sp:∀ro st,Wp (Φ ro 220 [jG G e,.aM (List.replicate G.cK.length<|.bool false)] st) λr=>∃Q:List Sy,r=(.aM<|qq G Q,st)/\OT G Q
def zB{G}{e}(h:G.Ok)(O:Y1 Φ G e):Wp (kC Φ P N vA [jG G e] U) λr=>∃Q,r=(.aM<|qq G Q,U)/\OT G Q:=by refine gT Y ?_;obtain⟨_,H,Q,rfl,D⟩:=O.sp U.length U;refine mj ?_ Y ⟨Q,Y,D⟩;refine J Ed<|J (aA Y<|aA (dy (s1:=U++[.L [.bool false]]) Y (m7 Y Y aV<|O.g.cnt ..)<|mulL Y (J bS<|J (gn ..) Y)<|lq [_] [aH ax (.c 10)] ax (.c 2000) Y h.dN) aV) ?_;show((cY ..).bind _)=_;exact bV ae (aj ..)<|J (dq ..)<|J (b8 Y)<|J (Option.bind_some ..)<|J (dq ..)<|bV (iQ (aw ..) (gx _ _ 1)<|lZ.mpr λx M=>J (List.mem_replicate.mp M).2 Y) (kJ ..) H
def VO(B:bZ Φ U o O N=some (.ref m,s1))(A:s1[m]? =some (.L l))(X:bZ Φ U e O s1=(x,s2))(Q:s2[m]? =some (.L M))(D:vw s2 x=.L ys)(P:M.length+ys.length<lim)(H:U<=m):bZ Φ U (.bR o .extend [e]) O N=some (.none,s2.set m<|.L<|M++ys):=by
 refine p8 nofun B ?_ (aA X aV) ?_
 .delta hY;simp only [bS,A];rfl
 .show(((s2[m]?).bind λc=>(GZ c).bind λy=>some (m,y)).bind λp=>Rq U s2 p<|vw s2 x)=_;refine J Q<|J (Option.bind_some ..)<|J D ?_;dsimp only [Rq];exact bV (aq<|bx P) (aq H) Y
def Qw{U:Type}{f}{l:List U}(h:l.length<=2000):ku s .len [.aL (l.map f)]=(vi l.length,s):=by show(if(l.map f).length<=lim then some (AV.int (l.map f).length,s)else none)=_;exact J (ag _)<|au<|dE h
namespace Gi
def g0(U:St)(G:Gr)(O:Nat->Int)(a:AV):List (Nat×AV):=Yl G O a (.ref<|U.length+1) (.ref<|U.length+2+G.cK.length)<|.ref<|U.length+3+G.cK.length
def refs(U:St)(G:Gr):AC:=.L<|(List.range G.cK.length).map λi=>.ref<|U.length+2+i
def bz(st:St)(G:Gr)(o:List (Nat×AV))(F:Sy->List Nat)(of U:List Nat)(m:St):St:=
 (st++[.O 198 o,refs st G])++((G.cK.map λx=>.L<|li<|F x)++(.L (li of)::.L (li U)::m))
def env(st:St)(G:Gr)(O:Nat->Int)(a:AV)(U:Option AV:=none):En:=[some (.ref st.length),some<|.aM<|G.cK.map b5,some<|vi G.tm.length,some<|.aM<|G.rl.zipIdx.map<|nR G O,some a,some .none,some<|nv G .s,none,U]
def pl:(st++[AC.O 198 o,refs st G]).length=st.length+2:=by refine List.length_append.trans ?_;rfl
def mU:(bz U G o F of M m)[U.length]? =some (.O 198 o):=by delta bz;exact J (aj ..)<|gn ..
def wa:(bz st G o F of U m)[st.length+1]? =(refs st G):=by delta bz;exact J (aj ..)<|gx _ _ 1
def A0(U:x∈G.cK):(bz st G o F of O m)[st.length+2+G.num x]? =some (.L<|li<|F x):=J (ll U)<|jn pl<|tU U
def YL:(bz U G o F of M m)[U.length+2+G.cK.length]? =some (.L<|li of):=by have h:=gx (U++[AC.O 198 o,refs U G]) ((G.cK.map λx=>AC.L<|li<|F x)++(AC.L (li of)::AC.L (li M)::m)) G.cK.length;rw [pl] at h;exact h.trans<|J (br<|J (ag _) .refl)<|J (ag _)<|J (dC _) Y
def Nv:(bz U G o F of M m)[U.length+3+G.cK.length]? =some (.L<|li M):=by have h:=gx (U++[AC.O 198 o,refs U G]) ((G.cK.map λx=>AC.L<|li<|F x)++(AC.L (li of)::AC.L (li M)::m))<|G.cK.length+1;rw [pl] at h;exact J (show U.length+3+G.cK.length=U.length+2+(G.cK.length+1) by exact bH (lq [_,_] [] (.a (.a ax<|.c 3) aE) (.a (.a ax<|.c 2)<|.s aE) Y)<|lq [_,_] [] (.a (.a ax<|.c 2)<|.s aE) (.a (.a ax<|.c 3) aE) Y)<|h.trans<|J (br<|J (ag _)<|b0 _)<|J (ag _)<|J (bY ..) Y
def Bp(M:G.cK.Nodup)(U:x∈G.cK):(bz st G o F of O m).set (st.length+2+G.num x) (.L<|li l)=bz st G o (upd F x l) of O m:=by refine J (ll U)<|jn pl<|(tT M U).trans ?_;congr 2;exact aX λy N=>by dsimp only [upd];split<;>rfl
def XN:(bz U G o F of M m).set (U.length+2+G.cK.length) (.L<|li l)=bz U G o F l M m:=(pl▸(sx (U++[AC.O 198 o,refs U G]) ((G.cK.map λx=>AC.L<|li<|F x)++(AC.L (li of)::AC.L (li M)::m)) G.cK.length<|.L<|li l)).trans<|J (gN _ _<|J (ag _) .refl)<|J (ag _)<|J (dC _) Y
def PT:(bz U G o F of M m).set (U.length+3+G.cK.length) (.L<|li l)=bz U G o F of l m:=by have h:=sx (U++[AC.O 198 o,refs U G]) ((G.cK.map λx=>AC.L<|li<|F x)++(AC.L (li of)::AC.L (li M)::m)) (G.cK.length+1)<|.L<|li l;rw [pl] at h;exact J (show U.length+3+G.cK.length=U.length+2+(G.cK.length+1) by exact bH (lq [_,_] [] (.a (.a ax<|.c 3) aE) (.a (.a ax<|.c 2)<|.s aE) Y)<|lq [_,_] [] (.a (.a ax<|.c 2)<|.s aE) (.a (.a ax<|.c 3) aE) Y)<|h.trans<|J (gN _ _<|J (ag _)<|b0 _)<|J (ag _)<|J (bY ..) Y
def yh:bz U G o F of O m++[c]=bz U G o F of O (m++[c]):=by delta bz;simp only [aj,fa]
inductive I(st:St)(G:Gr)(lv:Nat->Int)(a:AV)(d:List ((Sy×List Sy)×Nat)):En->St->Prop
 |mk (of ow:List Nat) (m:St) (o8:Option AV) (h1:of.length<=d.length) (h2:ow.length<=5*d.length):I st G lv a d (env st G lv a o8) (bz st G (g0 st G lv a) (qw G d) of ow m)
def J7{f}{y}(h:(g0 U G O a).lookup f=some y)(M:m9 198 f=true):og (bz U G (g0 U G O a) F of N m) (.ref U.length) f=y:=by delta og;exact J bS<|J mU<|(au M).trans h
def Nq:qw G (d++[q])=upd (qw G d) q.1.1 (qw G d q.1.1++[q.2]):=by
 funext y
 delta qw upd;exact J (dm ..)<|J df (if c:y=q.1.1 then jn c (J (au<|aq Y)<|bV (au Y) aR Y)else bV (az (by refine J (aF λe=>c e.symm) ?_;decide)) (az c) (J List.filter_nil<|J (aC _) Y))
set_option tactic.hygienic true in
def turn(hn:G.cK.Nodup)(Q:G.cK.length<=10)(D:ro<=U.length)(X:d.length<=12)(P:q.1.1∈G.cK)(A:q.1.2.length<=4)(h:I U G M a d ρ s):
  Wp ((fQ s (.v 8) (nR G M q) ρ).bind λB=>cg Φ ro N fl AZ B s) (LQ none<|I U G M a<|d++[q]):=by
 induction h;rename_i of O m o8 h1 w;refine kp Y ?_
 have H:subQ (bz U G (g0 U G M a) (qw G d) of O m) (.ref<|U.length+1) (nv G q.1.1)=some (.ref<|U.length+2+G.num q.1.1):=by delta subQ;refine J bS<|J wa ?_;show(if nI (G.num q.1.1:Int)then((List.range G.cK.length).map λi=>AV.ref<|U.length+2+i)[G.num q.1.1]? else none)=_;exact J (au<|m4<|lq [_,_] [aH aE (.c 10),aH (.s ax) aE] ax (.c 1000000) Y Q (Gr.jE P))<|J cE<|J (dI<|Gr.jE P) Y
 have j:(qw G d q.1.1).length<=d.length:=by delta qw;exact J (ag _)<|bN ..
 clear Q;refine iP (jS (dh (dM Y<|J7 Y Y) (dM Y J8) H) (A0 P) (dM Y Ss) (A0 P) (fH (by simp only [li];exact J (ag _)<|lq [_,_] [aH aE (.c 12),aH ax aE] ax (.c 2000) Y X j))<|lq [_,_,_] [aH ax aE] ax (.a (.a aE<|.c 2) a7) Y D) ?_;refine J yv<|J (Bp hn P)<|jn Nq<|iP (jS (x:=vi O.length) (s2:=bz U G (g0 U G M a) (qw G<|d++[q]) of O m) (dM Y<|J7 Y Y) YL (cx (aA (dM Y<|J7 Y Y) aV) ?_) YL (fH (by simp only [li];exact J (ag _)<|lq [_,_] [aH aE (.c 12),aH ax aE] ax (.c 2000) Y X h1))<|lq [_,_,_] [aH ax aE] ax (.a (.a aE<|.c 2) a7) Y D) ?_
 .have:=oK (s:=bz U G (g0 U G M a) (qw G<|d++[q]) of O m) (J bS<|J Nv Y) (by simp only [li];exact J (ag _)<|lq [_,_] [.e 5 aE (.c 12),aH ax (.m 5 aE)] ax (.c 2000) Y X w);rwa [li,ag] at this
 refine J yv<|J XN<|iP (VO (x:=.ref<|(bz U G (g0 U G M a) (qw G<|d++[q]) (of++[O.length]) O m).length+1) (s2:=bz U G (g0 U G M a) (qw G<|d++[q]) (of++[O.length]) O<|m++[AC.L [vi q.2]]++[AC.L (List.replicate (q.1.2.length+1)<|vi q.2)]) (ys:=List.replicate (q.1.2.length+1)<|vi q.2) (dM Y<|J7 Y Y) Nv ?_ Nv ?_ (fH (by simp only [li,ag,cM];exact lq [_,_,_] [.e 5 a7 (.c 12),aH aE<|.c 4,aH ax (.m 5 a7)] (.a ax<|.s aE) (.c 2000) Y X A w))<|lq [_,_,_] [aH ax aE] ax (.a (.a aE<|.c 3) a7) Y D) ?_
 .exact dy (s1:=bz U G (g0 U G M a) (qw G<|d++[q]) (of++[O.length]) O<|m++[AC.L [vi q.2]]) (s2:=bz U G (g0 U G M a) (qw G<|d++[q]) (of++[O.length]) O<|m++[AC.L [vi q.2]]) (J kL<|jn yh Y) (by refine dy (cx (aA (dM Y vY) aV)<|Qw<|lq [_] [aH ax (.c 4)] ax (.c 2000) Y A) Y il) (jn yh<|jn yh<|jn yh<|(mulL Y (J bS<|J (gn ..) Y)<|lq [_] [aH ax (.c 4)] (.s ax) (.c 2000) Y A).trans<|J ae Y)
 .refine jn yh (jn yh<|J bS ?_);have h:=gx (bz U G (g0 U G M a) (qw G<|d++[q]) (of++[O.length]) O m++[AC.L [vi q.2]]) [AC.L (List.replicate (q.1.2.length+1)<|vi q.2)] 0;rw [ae] at h;exact bV (show(bz U G (g0 U G M a) (qw G<|d++[q]) (of++[O.length]) O m).length+1=(bz U G (g0 U G M a) (qw G<|d++[q]) (of++[O.length]) O m).length+[AC.L [vi q.2]].length+0 from Y) h Y
 .clear D;refine J (show li O++List.replicate (q.1.2.length+1) (vi q.2)=li (O++List.replicate (q.1.2.length+1) q.2) by delta li;exact J aR<|J List.map_replicate Y)<|J PT ?_;refine bU ⟨.inl Y,trivial,⟨_,_,_,_,?_,?_⟩⟩<;>simp only [ae,dG,cM]<;>omega
def fin(G:Gr)(O:Nat->Int)(a:AV)(of U:List Nat):List (Nat×AV):=Yl G O a (.aM<|G.cK.map λx=>.aM<|li<|qw G G.rl.zipIdx x) (.aM<|li of) (.aM<|li U)++[(20,vi U.length)]
def mid{U:Type}{l:List U}{g h:U->AV}(e:∀x∈l,f (g x)=some (h x)):cY f (l.map g)=(l.map h):=by
 induction l with
 |nil=>rfl
 |cons a l O=>simp only [aZ,dq,e a<|.head _,O λx M=>e x (.tail _ M)];rfl
def Jg:iH (bz U G o F of D m) (U.length+1) 6 (.ref<|U.length+1)=some (.aM<|G.cK.map λx=>.aM<|li<|F x):=by
 refine vt .refl wa ?_<|bT λM M=>rfl;refine J (show(G.cK.map λx=>AV.aM<|li<|F x)=(List.range G.cK.length).map λi=>AV.aM (li<|F<|G.cK[i]?.getD .s) by exact List.ext_getElem (by simp only [ag,aO]) λi H P=>bV (ir _) (ir _)<|J (jL _)<|J (aW<|by rwa [ag] at H) Y) ?_
 refine mid λi N=>iQ (lq [_,_] [] (.s ax) (.a (.a ax<|.c 2) aE) Y) ?_<|bT λM M=>rfl;have h:=gx (U++[AC.O 198 o,refs U G]) ((G.cK.map λx=>AC.L<|li<|F x)++(AC.L (li of)::AC.L (li D)::m)) i;simp only [pl] at h;exact h.trans<|J (bW<|J (ag _)<|mR N)<|J cE<|J (aW<|mR N) Y
def start:bz U G (g0 U G M a) (qw G []) [] [] []=U++AC.O 198 (g0 U G M a)::refs U G::(List.replicate G.cK.length (.L [])++[.L []]++[.L []]):=by delta bz;simp only [aj];refine jn List.map_const' ?_;rfl
set_option tactic.hygienic true in
def ok(t:G.cK.Nodup)(H:G.cK.length<=10)(D:ro<=st.length)(v:G.rl.length<=12)(hg:∀q∈G.rl,q.1∈G.cK/\q.2.length<=4)(ha:below (st.length+1) a=true):
  ∃of U,kC Φ ro N mC [.ref st.length,.aM<|G.cK.map b5,vi G.tm.length,.aM<|G.rl.zipIdx.map<|nR G M,a,.none,nv G .s] (st++[.O 198 []])=some (.none,st++[.O 198 (fin G M a of U)]):=by
 have g:∀{ρ:En} {x:AV} {e:E} {f:Nat} {fs:List (Nat×AV)} {cs cs':St} {w:List S} {Q:Out×En×St->Prop},ρ[0]? =some (some<|.ref st.length)->bZ Φ ro e ρ (st++ .O 198 fs::cs)=(x,st++ .O 198 fs::cs')->(Nat.blt fs.length 100&&m9 198 f)=true->Wp (cg Φ ro N (st.length+1) w ρ (st++ .O 198 (ng fs f x)::cs')) Q->Wp (cg Φ ro N (st.length+1) (.aU (.bG (.af 0) f) e::w) ρ (st++ .O 198 fs::cs)) Q:=by intro ρ x e f fs cs cs' w Q h0 j P h3;exact zt j (J j9<|J h0 Y) (gn ..) P D<|J (rW ..) h3
 suffices h:Wp (cg Φ ro N (st.length+1) mC.body [some (.ref st.length),some<|.aM<|G.cK.map b5,some<|vi G.tm.length,some<|.aM<|G.rl.zipIdx.map<|nR G M,some a,some .none,some<|nv G .s,none,none] (st++[.O 198 []])) (OE st (.O 198 []) λb=>∃of U,b=.O 198 (fin G M a of U)) by obtain⟨b,⟨of,U,rfl⟩,e⟩:=Dm (args:=[.ref st.length,.aM<|G.cK.map b5,vi G.tm.length,.aM<|G.rl.zipIdx.map<|nR G M,a,.none,nv G .s]) Y h;exact⟨of,U,e⟩
 refine g Y Y Y<|g Y Y Y<|g Y Y Y<|g Y Y Y<|g Y Y Y<|g Y Y Y ?_
 have B:∀{cs:St} {f:Nat} {fs:List (Nat×AV)} {y:AV},fs.lookup f=y->m9 198 f=true->og (st++ .O 198 fs::cs) (.ref st.length) f=y:=by intro cs f fs y j P;delta og;refine J bS<|J (gn ..) ?_;delta Wi;dsimp only;exact J (au P) j
 have new:∀{ρ:En} {fs:List (Nat×AV)} {cs:St} {k:Nat},st.length+(cs.length+1)=k->bZ Φ ro (.aM []) ρ (st++ .O 198 fs::cs)=some (.ref k,st++ .O 198 fs::(cs++[.L []])):=by intro ρ fs cs k e;subst e;exact J kL<|J m6<|J (Option.bind_some ..)<|J (au<|bM Y)<|J (aj ..)<|J ae Y
 refine zt (VM (dM Y<|B Y Y) (dx<|aa H<|bM Y) (λX=>trivial) (aa H<|bM Y) λX=>rfl) Y (by exact J (aj _ _ _)<|gn _ _ _) Y D<|J (aj _ _ _)<|J List.singleton_append<|J (rW _ _ _ _)<|J (ae)<|g (x:=.ref<|st.length+2+G.cK.length) (cs':=refs st G::(List.replicate G.cK.length (.L [])++[.L []])) Y (new ?_) Y<|g (x:=.ref<|st.length+3+G.cK.length) (cs':=refs st G::(List.replicate G.cK.length (.L [])++[.L []]++[.L []])) Y (new ?_) Y ?_
 .exact J bj (J cM<|bH (lq [_,_] [] (.a ax<|.s<|.s aE) (.a (.a ax<|.c 2) aE) Y)<|lq [_,_] [] (.a (.a ax<|.c 2) aE) (.a ax<|.s<|.s aE) Y)
 .exact J bj (J ae<|J cM<|J dG<|bH (lq [_,_] [] (.a ax<|.s<|.s<|.s aE) (.a (.a ax<|.c 3) aE) Y)<|lq [_,_] [] (.a (.a ax<|.c 3) aE) (.a ax<|.s<|.s<|.s aE) Y)
 refine gu (x:=.aM<|G.rl.zipIdx.map<|nR G M) (l:=G.rl.zipIdx) (enc:=nR G M) (gd:=none) (I:=I st G M a) (dM (o:=.af 0) (x:=.ref st.length) Y<|B (f:=13) Y Y) (dx<|by exact J cQ<|lq [_] [aH ax (.c 12)] ax (.c 2000) Y v) (jn start<|I.mk [] [] [] none (bM Y) (bM Y)) (λd q r ρ s i h=>?_) λρ s h=>?_
 .have A:q∈G.rl.zipIdx:=J i<|ar _<|.head _;have A:=hg _<|b4 A;refine turn t H D ?_ A.1 A.2 h;have:=congrArg List.length i;rw [cQ,ae,bj] at this;exact lq [_,_,_] [aH aE (.c 12),.p 1 aE (.a ax<|.s a7)] ax (.c 12) Y v this
 .induction h;rename_i of U m o8 j P;have hlen:U.length<=60:=by rw [cQ] at P;exact lq [_,_] [.e 5 aE (.c 12),aH ax (.m 5 aE)] ax (.c 60) Y v P
  refine zt (x:=vi U.length) (k:=198) (fs:=g0 st G M a) (s1:=bz st G (g0 st G M a) (qw G G.rl.zipIdx) of U m) (s2:=bz st G (g0 st G M a) (qw G G.rl.zipIdx) of U m) (cx (aA (dM (o:=.af 0) (x:=.ref st.length) Y<|J7 (f:=19) Y Y) aV) ?_) (n:=st.length) Y mU Y D<|bU ⟨Y,?_⟩
  .have:=oK (s:=bz st G (g0 st G M a) (qw G G.rl.zipIdx) of U m) (o:=.ref<|st.length+3+G.cK.length) (l:=li U) (by rw [bS,Nv]) (by rw [li,ag];exact lq [_] [aH ax (.c 60)] ax (.c 2000) Y hlen);rwa [li,ag] at this
  .refine⟨.O 198<|g0 st G M a++[(20,vi U.length)],refs st G::((G.cK.map λx=>.L<|li<|qw G G.rl.zipIdx x)++(.L (li of)::.L (li U)::m)),_,?_,nofun,?_,of,U,Y⟩
   .show(bz st G (g0 st G M a) _ of U m).set st.length _=_;unfold bz;rw [aj];exact rW _ _ _ _
   .show jT ((bz st G (g0 st G M a) (qw G G.rl.zipIdx) of U m).set st.length _) _ _ _=_;rw [show(bz st G (g0 st G M a) (qw G G.rl.zipIdx) of U m).set st.length (.O 198<|ng (g0 st G M a) 20<|vi U.length)=bz st G (g0 st G M a++[(20,vi U.length)]) (qw G G.rl.zipIdx) of U m by unfold bz;rw [aj,aj];exact rW _ _ _ _];exact(B9<|zf (b8 Y)<|zf (b8 Y)<|zf (b8 Y)<|zf (b8 ha)<|zf (b8 Y)<|zf (b8 Y)<|zf Jg<|zf (iQ (lq [_,_] [] (.s ax) (.a (.a ax<|.c 2) aE) Y) YL<|bT λX X=>rfl)<|zf (iQ (lq [_,_] [] (.s ax) (.a (.a ax<|.c 3) aE) Y) Nv<|bT λX X=>rfl)<|zf (b8 Y) Y)
end Gi
noncomputable def pW(n:Nat):List Nat->Int->Int
 |[],v=>v
 |x::r,v=>pW n r<|if x<n then x else v
def Qq:jc s .lt (vi a) (vi b)=(decide<|a<b):=congrArg _<|dD Int.ofNat_lt
namespace Z0
inductive I(right:List Nat)(n:Nat)(st:St)(d:List Nat):En->St->Prop
 |mk (rest:List Nat) (v:Int) (o:Option AV) (e:right=d++rest) (h:pW n rest v=pW n right (-1)):I right n st d [some (.aL<|li right),some<|vi n,some<|.int v,o] st
set_option tactic.hygienic true in
def ok(M:right.length<=1000):kC Φ ro N lz [.aL (li right),vi n] st=some (.int<|pW n right<|-1,st):=by
 suffices h:Wp (kC Φ ro N lz [.aL (li right),vi n] st) λr=>r=(.int<|pW n right<|-1,st) by refine h.elim λ_ O=>O.elim λh H=>?_;refine jn H ?_;exact h
 refine gT Y<|cb Y Y<|gu (I:=I right n st) Y (gF<|lq [_] [aH ax (.c 1000)] ax (.c 2000) Y M) ⟨right,-1,none,Y,Y⟩ (λd x r U s D h=>?_) λU s h=>?_
 .induction h;rename_i rest v o e h;obtain rfl:rest=x::r:=fb<|e.symm.trans D;exact kp Y<|jX (cp Y Y Qq) (if c:x<n then J (aq c) (cb Y Y<|bU<|bU ⟨.inl Y,trivial,r,x,_,(J (aj ..) e),(congrArg (pW n r)<|au c).symm.trans h⟩)else J (aF c) (bU<|bU ⟨.inl Y,trivial,r,v,_,(J (aj ..) e),(congrArg (pW n r)<|az c).symm.trans h⟩))
 .induction h;rename_i rest v o e h;obtain rfl:rest=[]:=fb<|e.symm.trans (aC _).symm;exact mj Y Y<|jn h Y
end Z0
def yb{M N}{U:St}(H:M<=U.length){a b c d}(h:ml [(4,a),(5,b),(6,c),(7,d),(8,.none),(9,.int 0),(10,.int 0)]=true):
  kC Φ M N tj [.ref U.length,a,b,c,d] (U++[.O 116 []])=some (.none,U++[.O 116 [(4,a),(5,b),(6,c),(7,d),(8,.none),(9,.int 0),(10,.int 0)]]):=by
 have g:∀{ρ:En} {x:AV} {e:E} {f:Nat} {fs:List (Nat×AV)} {D:List S} {Q:Out×En×St->Prop},ρ[0]? =some (some<|.ref U.length)->bZ Φ M e ρ (U++[.O 116 fs])=(x,U++[.O 116 fs])->(Nat.blt fs.length 100&&m9 116 f)=true->Wp (cg Φ M N (U.length+1) D ρ<|U++[.O 116 (ng fs f x)]) Q->Wp (cg Φ M N (U.length+1) (.aU (.bG (.af 0) f) e::D) ρ<|U++[.O 116 fs]) Q:=by intro ρ x e f fs D Q B X P L;exact zt X (J j9<|J B Y) (gn ..) P H<|J (rW ..) L
 refine yf Y<|g Y Y Y<|g Y Y Y<|g Y Y Y<|g Y Y Y<|g Y Y Y<|g Y Y Y<|g Y Y Y<|bU ⟨Y,_,[],Y,nofun,?_⟩;exact dK<|qS h
def CI(ok:Sy->Prop)(l:List Sy)(x:Sy):List Sy:=if ok x/\x∉l then l++[x] else l
def sN(P:List Sy->Prop)(O:ok x/\x∉l->P (l++[x]))(U:¬(ok x/\x∉l)->P l):P (CI ok l x):=by delta CI;exact if c:ok x/\x∉l then J (au c) (O c)else J (az c) (U c)
def qn(ok:Sy->Prop)(xs l:List Sy):List Sy:=xs.foldl (CI ok) l
def Nz:y∈CI ok l x↔y∈l\/ok y/\y=x:=by
 refine sN (λm=>y∈m↔_) (λc=>?_) λc=>?_
 .rw [fZ,eU];exact or_congr jj ⟨λe=>⟨J e c.1,e⟩,λe=>e.2⟩
 .exact⟨.inl,λh=>h.elim id λq=>gQ λn=>c<|jn q.2 ⟨q.1,n⟩⟩
def Af:∀{xs l:List Sy},y∈qn ok xs l↔y∈l\/ok y/\y∈xs:=by
 intro xs;induction xs with
 |nil=>intro l;exact⟨.inl,λh=>h.elim id λh=>iZ h.2⟩
 |cons x xs U=>intro l;exact U.trans<|by rw [Nz,jy,or_assoc,<-and_or_left]
def lb:∀{xs l:List Sy},l.Nodup->(qn ok xs l).Nodup:=by
 intro xs;induction xs with
 |nil=>intro l h;exact h
 |cons x xs U=>intro l h;exact U<|sN List.Nodup (λc=>k6 h c.2) λO=>h
def xk:qn ok (U++[x]) l=CI ok (qn ok U l) x:=ft
def Jc{O U l}:qn ok (O++U) l=qn ok U (qn ok O l):=ft
def ry:∀{xs l:List Sy},∃m,qn ok xs l=l++m:=by
 intro xs;induction xs with
 |nil=>intro l;exact⟨[],(aC l).symm⟩
 |cons x xs O=>intro l;obtain⟨m,h⟩:=O;obtain⟨k,e⟩:∃k,CI ok l x=l++k:=sN (λm=>∃k,m=l++k) (λU=>⟨_,Y⟩) λU=>⟨[],(aC l).symm⟩;exact⟨k++m,h.trans<|J e<|aj ..⟩
def j4(R:Rl):List Sy:=qn (λU=>True) (R.map (·.1)) []
def ny(R:Rl):List Sy:=qn (· ∉j4 R) (R.flatMap (·.2)) [.fin,.err,.GY]
def cG(R:Rl):Gr:=⟨ny R,.acc::j4 R,(.acc,[.s,.fin])::R⟩
def xj(R:Rl)(k:Nat):Int:=if k=0 then 0 else pW (ny R).length (((R[k-1]?.map (·.2)).getD []).map (cG R).num) (-1)
def kU:x∈j4 R↔∃p∈R,p.1=x:=Af.trans ⟨λh=>h.elim iZ λh=>mM h.2,λh=>.inr ⟨trivial,GL h⟩⟩
def tM:x∈ny R↔x∈[Sy.fin,.err,.GY]\/x∉j4 R/\∃p∈R,x∈p.2:=Af.trans<|or_congr jj<|and_congr jj List.mem_flatMap
structure Pg(R:Rl):Prop where
 lf:∀p∈R,p.1=.s\/p.1=.t\/p.1=.u
 rr:∀p∈R,p.2.length<=4/\∀x∈p.2,x≠.fin/\x≠.GY/\x≠.acc
 len:R.length<=11
 hd:∃r R',R=(.s,r)::R'
namespace Pg
def Qu(h:Pg R){x}(O:x∈j4 R):x=.s\/x=.t\/x=.u:=by refine(kU.mp O).elim λp U=>U.elim λM e=>?_;exact jn e<|h.lf p M
def fW(h:Pg R):(cG R).cK.Nodup:=by
 refine List.nodup_append.mpr ⟨lb<|by decide,Ma ⟨λq=>?_,lb bh⟩,λx O y U e=>?_⟩
 .rcases h.Qu q with e|e|e<;>exact Sy.noConfusion e
 .subst e;rcases tM.mp O with q|⟨q,p,M,O⟩
  .exact(mO U).elim (λe=>by subst e;exact absurd q<|by decide) λU=>by rcases h.Qu U with e|e|e<;>subst e<;>exact absurd q<|aB Y
  .exact(mO U).elim (λe=>((h.rr p M).2 x O).2.2 e) q
def mem(h:Pg R)(O:p∈R)(U:x∈p.2):x∈(cG R).cK:=if c:x∈j4 R then ar _ (.tail _ c)else bl _ (tM.mpr<|.inr ⟨c,p,O,U⟩)
def Qr(h:Pg R)(U:p∈R):p.1∈(cG R).cK:=ar _<|.tail _<|kU.mpr ⟨p,U,Y⟩
def pU(h:Pg R):Sy.s∈(cG R).cK:=h.hd.elim λr U=>U.elim λO e=>h.Qr<|J e<|.head _
def ue:Sy.fin∈(cG R).cK:=bl _<|tM.mpr<|.inl<|.head _
def L5:(cG R).num .fin=0:=by refine(ll ue).trans ?_;obtain⟨m,e⟩:=ry;show(ny R++_).idxOf _=_;exact J (show ny R=[Sy.fin,.err,.GY]++m from e) Y
end Pg
section
variable{l:List Sy}
def D5(h:vw s o=.L (l.map b5))(O:l.length<=2000)(U:x∈l):mP M s .index o [b5 x]=(vi<|l.idxOf x,s):=by show(match vw s o with| .L xs=>if xs.length<=lim&&plain dp (b5 x)&&eA dp xs then(xs.findIdx? λy=>decide<|y=b5 x).bind λi=>some (AV.int i,s)else none|_=>none)=_;refine J h ?_;dsimp only;refine wo (k7 ..) (l4 ..) (ag _)<|J (au<|J (aq<|dE O) Y)<|J List.findIdx?_map<|J (List.findIdx?_eq_some_of_exists ⟨x,U,aq Y⟩) ?_;show some (vi<|l.findIdx λy=>decide<|b5 y=b5 x,s)=_;exact J (funext λy=>dD ⟨lQ,λe=>by rw [e]⟩) Y
def DZ{l:List (List Nat)}(h:(plain dp (.str a)&&eA dp (l.map AV.str))=true):jc s .z8 (.str a) (.aL<|l.map AV.str)=(decide<|a∈l):=by show(if plain dp (.str a)&&eA dp (l.map AV.str)then some (decide<|AV.str a∈l.map AV.str)else none)=_;exact J (au h)<|J (dD ⟨λh=>by obtain⟨y,U,e⟩:=mM h;exact by injection e with e;exact jn e U,cW⟩) Y
def DR{n}{l}(h:s[n]? =some (.L l))(U:l.length<=2000):ku s .len [.ref n]=(vi l.length,s):=oK (J bS<|J h Y) U
def XA{l}(h:vw s o=.L l)(O:l.length<=2000):ku s .tuple [o]=some (.aL l,s):=by show(match vw s o with| .L U=>if U.length<=lim then some U else none| .T U=>if U.length<=lim then some U else none|_=>none).bind (λU=>some (AV.aL U,s))=_;exact J h<|eY (congrArg _<|au<|dE O) _
end
namespace Pq
def ckP(h:x≠.fin/\x≠.GY/\x≠.acc)(U:O[n]? =some (some<|b5 x)):bZ Φ M (.bk .z8 (.tO (.af n)<|.aI<|.int 1)<|.aL [.aI (.str []),.aI (.str [36])]) O s=some (.bool false,s):=by refine cp (y:=.aL<|[[],[36]].map AV.str) (vJ (J j9<|J U Y) Y Y) Y ?_;clear U;refine(DZ (by induction x<;>rfl)).trans ?_;induction x<;>first|rfl|contradiction
def ckL(h:x=.s\/x=.t\/x=.u)(U:O[3]? =some (some<|b5 x)):bZ Φ M (.or [(.bk .eq (.af 3)<|.aI<|.str [101,114,114,111,114]),(.bk .z8 (.tO (.af 3)<|.aI<|.int 1)<|.aL [(.aI<|.str []),(.aI<|.str [36]),(.aI<|.str [39])])]) O s=some (.bool false,s):=by refine Av (cp (y:=b5 .err) (by rw [j9,U]) Y<|Es.trans (by rw [aF];rcases h with h|h|h<;>refine J h ?_<;>nofun))<|cp (y:=.aL<|[[],[36],[39]].map AV.str) (vJ (by rw [j9,U]) Y Y) Y ?_;clear U;refine(DZ (by induction x<;>rfl)).trans ?_;rcases h with h|h|h<;>refine J h ?_<;>rfl
def env(st:St)(R:Rl)(M O o5 o6 U:Option AV:=none):En:=[some (iL R),some .none,some<|.ref st.length,M,O,o5,o6,U,none,none,none]
abbrev I1(st:St)(R:Rl)(d:Rl):En->St->Prop:=Ki (env st R)<|st++[.L ((j4 d).map b5)]
def zV:j4 (d++[p])=CI (λU=>True) (j4 d) p.1:=by delta j4;exact J aR xk
def y6(P:Pg R)(D:X<=U.length){p}(A:R=d++p::r)(h:I1 U R d O s):
  Wp ((fQ s (.t [3,4]) (n5 p) O).bind λM=>cg Φ X N j [.jt (.or [(.bk .eq (.af 3)<|.aI<|.str [101,114,114,111,114]),(.bk .z8 (.tO (.af 3)<|.aI<|.int 1)<|.aL [(.aI<|.str []),(.aI<|.str [36]),(.aI<|.str [39])])]) [.Bz] [],
  .jt (.bk .hV (.af 3)<|.af 2) [.exp (.bR (.af 2) .append [(.af 3)])] [],
  .dT (.v 5) (.af 4) [.jt (.bk .z8 (.tO (.af 5)<|.aI<|.int 1)<|.aL [(.aI<|.str []),(.aI<|.str [36])]) [.Bz] [],
  .jU [5]],
  .jU [3,4]] M s) (LQ none<|I1 U R<|d++[p]):=by
 induction h;have H:p∈R:=J A<|ar _<|.head _;refine kp Y<|jX (ckL (P.lf p H) Y)<|bU<|jX (cp Y Y<|qu<|.inl<|J bS<|J (gn ..) Y) ?_
 have k:Wp (cg Φ X N j [.dT (.v 5) (.af 4) [.jt (.bk .z8 (.tO (.af 5)<|.aI<|.int 1)<|.aL [(.aI<|.str []),(.aI<|.str [36])]) [.Bz] [],.jU [5]],.jU [3,4]] (env U R (b5 p.1)<|some<|.aM<|p.2.map b5) (U++[.L ((j4<|d++[p]).map b5)])) (LQ none<|I1 U R<|d++[p]):=by
  refine gu (I:=λQ O s=>O=env U R (b5 p.1) (some<|.aM<|p.2.map b5)/\s=U++[.L ((j4<|d++[p]).map b5)]) Y (dx<|aa (P.rr p H).1<|bM Y) ⟨Y,Y⟩ (λw x r O s B h=>?_) λO s h=>?_
  .obtain⟨rfl,rfl⟩:=h;exact kp Y<|jX (ckP ((P.rr p H).2 x<|J B<|ar _<|.head _) Y)<|bU<|d9<|bU ⟨.inl Y,trivial,Y,Y⟩
  .obtain⟨rfl,rfl⟩:=h;exact d9<|bU ⟨.inl Y,trivial,⟨⟩⟩
 by_cases c:p.1∈j4 d
 .refine J (aq c) ?_;rw [zV,show CI (λQ=>True) (j4 d) p.1=j4 d from az λq=>q.2 c] at k;exact bU k
 .refine J (aF c) ?_;rw [zV,show CI (λQ=>True) (j4 d) p.1=j4 d++[p.1] from au ⟨trivial,c⟩,aR] at k;exact iP (jS Y (gn ..) Y (gn ..) (fH<|lq [_,_] [aH aE (.c 10),.q 1 ax aE] ax (.c 2000) Y (gE<|lb bh) (ag _)) D)<|bU<|J (rW ..) k
def wV(R d:Rl)(dn:List Sy):List Sy:=qn (· ∉j4 R) dn (qn (· ∉j4 R) (d.flatMap (·.2)) [.fin,.err,.GY])
def iY(U:St)(R:Rl)(l:List Sy):St:=U++[.L ((j4 R).map b5),.L [],.L (l.map b5)]
abbrev I2(st:St)(R:Rl)(d:Rl):En->St->Prop:=Ki (env st R none none none (b5 .s)<|some<|.ref<|st.length+2)<|iY st R<|wV R d []
abbrev Z5(U:St)(R:Rl)(d:Rl)(p:Sy×List Sy)(O:List Sy):En->St->Prop:=Ki (env U R (b5 p.1) (some<|.aM<|p.2.map b5) none (b5 .s)<|some<|.ref<|U.length+2)<|iY U R<|wV R d O
def PB{d}{dn}:(wV R d dn).length<=10:=gE<|lb<|lb<|by decide
structure Sp(Φ:Fs):Prop where
 ri:∀{ro:Nat} {st:St} {a b c d:AV},ro<=st.length->ml [(4,a),(5,b),(6,c),(7,d),(8,.none),(9,.int 0),(10,.int 0)]=true->Φ ro 113 [.ref st.length,a,b,c,d] (st++[.O 116 []])=some (.none,st++[.O 116 [(4,a),(5,b),(6,c),(7,d),(8,.none),(9,.int 0),(10,.int 0)]])
 lt:∀{ro:Nat} {st:St} {right:List Nat} {n:Nat},right.length<=1000->Φ ro 209 [.aL (li right),vi n] st=some (.int<|pW n right<|-1,st)
 gi:∀{ro:Nat} {st:St} {G:Gr} {lv:Nat->Int} {a:AV},G.cK.Nodup->ro<=st.length->G.rl.length<=12->(∀q∈G.rl,q.1∈G.cK/\q.2.length<=4)->below (st.length+1) a=true->
  ∃of ow,Φ ro 132 [.ref st.length,.aM<|G.cK.map b5,vi G.tm.length,.aM<|G.rl.zipIdx.map<|nR G lv,a,.none,nv G .s] (st++[.O 198 []])=some (.none,st++[.O 198 (Gi.fin G lv a of ow)])
def wq(R d:Rl):St:=[.L ((j4 R).map b5),.L [],.L<|(ny R).map b5,.L [b5 .acc],.L<|(ny R++[Sy.acc]).map b5,.L<|(cG R).cK.map b5,.L (((.acc,[.s,.fin])::d).zipIdx.map<|nR (cG R)<|xj R)]
def FQ(st:St)(R:Rl)(N M O U:Option AV:=none):En:=[some (iL R),some .none,some<|.ref st.length,N,M,O,some<|b5 .s,some<|.ref<|st.length+5,some<|vi (ny R).length,some<|.ref<|st.length+6,U]
abbrev I3(U:St)(R:Rl)(d:Rl):En->St->Prop:=Ki (FQ U R)<|U++wq R d
def JJ(N:Sp Φ)(U:O<=s.length){a b c d}(h:gP Φ O es ρ s0=([a,b,c,d],s))(M:ml [(4,a),(5,b),(6,c),(7,d),(8,.none),(9,.int 0),(10,.int 0)]=true):bZ Φ O (.new 116 es false) ρ s0=some (.obj 116 [(4,a),(5,b),(6,c),(7,d),(8,.none),(9,.int 0),(10,.int 0)],s):=
 Em h Y (N.ri U M) M
def yn(U:Pg R):(cG R).cK.length<=10:=gE U.fW
def Nh:cY (jT s k 6) (wq R d)=(wq R d):=by have b:∀{l:List AV},gD l=true->jT s k 6 (.L l)=some (.L l):=λh=>dK<|dB h;have n:∀l:List Sy,gD (l.map b5)=true:=λl=>bT λ_ _=>rfl;exact(dq ..).trans (J (b<|n _)<|J (Option.bind_some ..)<|J (dq ..)<|J (b Y)<|J (Option.bind_some ..)<|J (dq ..)<|J (b<|n _)<|J (Option.bind_some ..)<|J (dq ..)<|J (b Y)<|(Option.bind_some ..).trans<|J (dq ..)<|J (b<|n _)<|(Option.bind_some ..).trans<|J (dq ..)<|bV (b<|n _) (dq ..)<|J (b<|bT λU U=>rfl) Y)
def Ow{xs}(M:vw s a=.L xs)(O:vw s b=.L [])(U:plain dp a=false):jc s .eq a b=(decide<|xs=[]):=by show eqQ s a b=_;delta eqQ;refine J U<|bV M O ?_;clear M O U;induction xs<;>rfl
def Vb{l}{o}(h:vw s o=.T l)(O:l.length<=2000):ku s .list [o]=some (.ref s.length,s++[.L l]):=by show(match vw s o with| .L U=>if U.length<=lim then some U else none| .T U=>if U.length<=lim then some U else none|_=>none).bind (λU=>some (AV.ref s.length,s++[AC.L U]))=_;exact J h<|eY (congrArg _<|au<|dE O) _
def Q9{N d n c}{M U}(h:N<=n)(e:s[n]? =some (.O c M))(m:cY (λe=>(iH s N d e.2).bind λy=>some (e.1,y)) M=some U)(p:ml M=false)(q:ml U=true):iH s N (d+1) (.ref n)=some (.obj c U):=(xl h e).trans<|(az λb=>bn<|b.symm.trans p).trans<|J m<|au q
theorem ok(v:Sp Φ)(U:Pg R)(hc:Cl st):∃e,kC Φ ro N ly [iL R] st=(jG (cG R) e,st):=by
 suffices h:Wp (kC Φ ro N ly [iL R] st) λr=>∃e,r=(jG (cG R) e,st) by obtain⟨_,h,e,rfl⟩:=h;exact⟨e,h⟩
 refine gT Y<|cb ?_ Y<|gu Y (dx<|aa U.len<|bM Y) ⟨⟩ (λd p r ρ s=>y6 U .refl) λρ s h=>?_
 .exact J kL (J m6 Y)
 induction h
 have hs:(j4 R).map b5≠[]:=λe=>by obtain⟨r,R',w⟩:=U.hd;have:Sy.s∈j4 R:=kU.mpr ⟨(.s,r),J w<|.head _,Y⟩;replace this:=(List.map_eq_nil_iff.mp e)▸this;cases this
 have hs0:(j4 R)[0]? =some .s:=by
  obtain⟨r,R',w⟩:=U.hd;obtain⟨m,e⟩:=ry (ok:=λQ=>True) (xs:=R'.map (·.1)) (l:=[.s])
  have:j4 R=qn (λQ=>True) (R'.map (·.1)) [.s]:=by unfold j4;exact J w<|congrArg (qn _ _)<|au ⟨trivial,nofun⟩
  exact J this<|J e Y
 have g0:∀m,(st++ .L ((j4 R).map b5)::m)[st.length]? =some (.L<|(j4 R).map b5):=λm=>gn _ _ _;refine cb (x:=b5 .s) (s1:=st++[.L ((j4 R).map b5),.L []]) (ρ':=env st R none none none<|b5 .s) (xy (t:=false) (Av (cp (x:=.none) (y:=.none) Y Y Y)<|cp (x:=.ref st.length) (y:=.ref<|st.length+1) (s2:=st++[.L ((j4 R).map b5),.L []]) Y ?_<|(Ow (xs:=(j4 R).map b5) (by rw [bS,g0]) (by rw [bS,gx _ _ 1];rfl) Y).trans<|by rw [aF hs])<|dh (o:=.af 2) (x:=.ref st.length) (y:=.int 0) Y Y ?_) Y ?_
 .rw [kL,m6,Option.bind_some,au<|bM Y,ae,aj];rfl
 .unfold subQ;rw [bS,g0];show((j4 R).map b5)[0]? =_;rw [cE,hs0];rfl
 refine jX (cp (x:=b5 .s) (y:=.ref st.length) Y Y<|(qu (l:=j4 R)<|.inl<|by rw [bS,g0]).trans<|by rw [aq (let⟨r,R',w⟩:=U.hd;kU.mpr ⟨(.s,r),J w<|.head _,Y⟩)])<|bU ?_;refine cb (x:=.ref<|st.length+2) (s1:=iY st R [.fin,.err,.GY]) (ρ':=env st R none none none (b5 .s)<|some<|.ref<|st.length+2) (cx (aA (e:=.wJ 2) Y aV)<|(Vb (l:=[.fin,.err,.GY].map b5) Y<|bM Y).trans (by rw [ae,aj];rfl)) Y (gu (x:=iL R) (l:=R) (enc:=n5) (gd:=none) (I:=I2 st R) Y (dx<|aa U.len<|bM Y) ⟨⟩ (λd p r ρ s B h=>by
   induction h;refine kp Y (gu (I:=Z5 st R d p) Y (dx<|aa (U.rr p<|J B<|ar _<|.head _).1<|bM Y) ⟨⟩ (λM x r ρ s hl h=>?_) λρ s h=>?_)
   .induction h;refine kp Y ?_;have e:wV R d (M++[x])=CI (· ∉j4 R) (wV R d M) x:=xk;have k:Wp (cg Φ (List.length st) N (List.length<|Pq.iY st R [Sy.fin,Sy.err,Sy.GY]) [.jU [5]] (env st R (b5 p.1) (some<|.aM<|p.2.map b5) (b5 x) (b5 .s)<|some<|.ref<|st.length+2) (iY st R<|wV R d<|M++[x])) (LQ none<|Z5 st R d p<|M++[x]):=d9<|bU ⟨.inl Y,trivial,⟨⟩⟩;have H:jc (iY st R<|wV R d M) .hV (b5 x) (.ref st.length)=some (!decide (x∈j4 R)):=qu<|.inl (by refine bS.trans ?_;delta iY;exact J (gn ..) Y);by_cases c:x∈j4 R
    .replace H:=(aq c)▸H;rw [e,show CI (· ∉j4 R) (wV R d M) x=wV R d M from az λq=>q.1 c] at k;exact jX (lB<|cp Y Y H) (bU k)
    .rw [aF c] at H;refine jX (nP (cp Y Y H)<|cp Y Y<|qu<|.inl<|J bS<|J (gx _ _ 2) Y) ?_;by_cases c2:x∈wV R d M
     .refine J (aq c2) ?_;rw [e,show CI (· ∉j4 R) (wV R d M) x=wV R d M from az λq=>q.2 c2] at k;exact bU k
     .refine J (aF c2) ?_;rw [e,show CI (· ∉j4 R) (wV R d M) x=wV R d M++[x] from au ⟨c,c2⟩] at k;refine iP (jS Y (gx _ _ 2) Y (gx _ _ 2) (fH (by refine J (ag _) ?_;have:=PB (R:=R) (d:=d) (dn:=M);exact lq [_] [aH ax (.c 10)] ax (.c 2000) Y this))<|aa (aS _)<|aw ..)<|bU ?_;exact J (show(iY st R<|wV R d M).set (st.length+2) (.L<|(wV R d M).map b5++[b5 x])=iY st R (wV R d M++[x]) by delta iY;exact bV (sx ..) aR Y) k
   .induction h;refine d9 (bU ⟨.inl Y,trivial,?_⟩)
    have e:wV R d p.2=wV R (d++[p]) []:=by delta wV;exact J cX (J Jc<|J (dX ..) Y)
    exact J e ⟨⟩) λρ s h=>?_)
 induction h;have P:(ny R).length<=10:=gE<|lb (by decide);have ap:∀(cs:St) (c:AC),some (AV.ref (st++cs).length,st++cs++[c])=some (AV.ref<|st.length+cs.length,st++(cs++[c])):=λcs c=>by rw [ae,aj]
 have new:∀{ρ:En} {cs:St} {es:List E} {xs:List AV},gP Φ st.length es ρ (st++cs)=some (xs,st++cs)->xs.length<=5->bZ Φ st.length (.aM es) ρ (st++cs)=some (.ref<|st.length+cs.length,st++(cs++[.L xs])):=λh hl=>by rw [kL,h,Option.bind_some,au (dE<|aa hl<|bM Y)];exact ap _ _
 refine cb (x:=vi (ny R).length) (s1:=iY st R<|ny R) (ρ':=[some (iL R),some .none,some<|.ref st.length,none,none,none,some<|b5 .s,some<|.ref<|st.length+2,some<|vi (ny R).length,none,none]) (cx (aA (e:=.af 7) Y aV) ?_) Y ?_
 .have:=DR (s:=iY st R<|ny R) (n:=st.length+2) (gx _ _ 2)<|lq [_,_] [aH aE (.c 10),.q 1 ax aE] ax (.c 2000) Y P (ag _);rwa [ag] at this
 refine cb (x:=.ref<|st.length+5) (s1:=st++[.L ((j4 R).map b5),.L [],.L<|(ny R).map b5,.L [b5 .acc],.L<|(ny R++[Sy.acc]).map b5,.L ((cG R).cK.map b5)]) (ρ':=[some (iL R),some .none,some<|.ref st.length,none,none,none,some<|b5 .s,some<|.ref<|st.length+5,some<|vi (ny R).length,none,none])
  (dy (x:=.ref<|st.length+4) (y:=.ref st.length) (s1:=st++[.L ((j4 R).map b5),.L [],.L<|(ny R).map b5,.L [b5 .acc],.L ((ny R++[Sy.acc]).map b5)]) (dy (x:=.ref<|st.length+2) (y:=.ref<|st.length+3) Y (new (cs:=[.L ((j4 R).map b5),.L [],.L ((ny R).map b5)]) (aA (e:=.aI<|.str [36,97,99,99,101,112,116]) Y aV)<|bM Y) ?_) Y ?_) Y ?_
 .refine(Kg Y (xs:=(ny R).map b5) (ys:=[b5 .acc]) (by rw [bS,gx _ _ 2];rfl) (by rw [bS,gx _ _ 3];rfl) (by rw [ag];show _+1<=_;exact lq [_] [aH ax (.c 10)] (.s ax) (.c 2000) Y P)).trans ((ap _ _).trans ?_);rw [aR];rfl
 .refine(Kg Y (xs:=(ny R++[Sy.acc]).map b5) (ys:=(j4 R).map b5) (by rw [bS,gx _ _ 4];rfl) (by rw [bS,gn])<|lq [(List.map b5<|ny R++[Sy.acc]).length,(List.map b5<|j4 R).length,(j4 R).length,(ny R).length,(ny R++[Sy.acc]).length] [aH a7 (.c 10),aH cz<|.c 10,.q 1 g7<|.a cz<|.c 1,.q 1 ax g7,.q 1 aE a7] (.a ax aE) (.c 2000) Y (gE<|lb bh) P ae (ag _) (ag _)).trans ((ap _ _).trans ?_);rw [<-aR,aj];rfl
 have A:(cG R).num .acc=(ny R).length:=by have hn:=U.fW;have hm:Sy.acc∈(cG R).cK:=ar _<|.head _;rw [ll hm];show(ny R++ .acc::j4 R).idxOf .acc=_;have hnm:Sy.acc∉ny R:=λq=>(nA hn).2.2 _ q _ (.head _) Y;rw [List.idxOf_append,az hnm,List.idxOf_cons_self,bu]
 refine cb (x:=.ref<|st.length+6) (s1:=st++wq R []) (ρ':=FQ st R) ?_ Y (gu (x:=iL R) (l:=R) (enc:=n5) (gd:=none) (I:=I3 st R) Y (dx<|aa U.len<|bM Y) ⟨⟩ (λd p r ρ s B h=>by
   induction h;have hp:p∈R:=J B<|ar _<|.head _;have h4:=(U.rr p hp).1;have X:=aa (by exact J B<|J ae<|aw ..) U.len;refine kp Y ?_;have j:∀m,(st++wq R d++m)[st.length+5]? =some (.L<|(cG R).cK.map b5):=λm=>J (aj ..)<|gx _ _ 5;have g6:∀m,(st++wq R d++m)[st.length+6]? =some (.L<|((.acc,[.s,.fin])::d).zipIdx.map<|nR (cG R)<|xj R):=λm=>J (aj ..) (gx _ _ 6)
   have ix:∀{x:Sy} (m:St),x∈(cG R).cK->mP (List.length st) (st++wq R d++m) .index (.ref<|st.length+5) [b5 x]=some (nv (cG R) x,st++wq R d++m):=λm hx=>by refine J (D5 (J bS<|J (j _) Y) (lq [_] [aH ax (.c 10)] ax (.c 2000) Y (yn U)) hx) ?_;rw [nv];exact J (ll hx) Y
   have rc:∀m,hY (st++wq R d++m) .index (.ref<|st.length+5)=true:=λm=>by delta hY;exact J bS (J (j _) Y)
   have hrt:pW (ny R).length (p.2.map (cG R).num) (-1)=xj R (d.length+1):=by delta xj;rw [az (Nat.succ_ne_zero _),Nat.add_sub_cancel,B,br<|aS _,dC];rfl
   refine cb (x:=.aL<|p.2.map<|nv<|cG R) (s1:=st++wq R d++[.L (p.2.map<|nv<|cG R)]) (ρ':=FQ st R (b5 p.1) (some<|.aM<|p.2.map b5) none<|some<|.aL<|p.2.map<|nv<|cG R) ?_ Y ?_
   .refine cx (aA (oo (l:=p.2) (enc:=b5) (gd:=none) (x:=.aM<|p.2.map b5) (s1:=st++wq R d) (g:=nv<|cG R) (ρf:=λy=>FQ st R (b5 p.1) (some<|.aM<|p.2.map b5)<|b5 y) Y (dx<|aa h4<|bM Y) (aa h4<|bM Y) (λQ=>trivial) λy hy ys=>⟨Y,p8 (o:=.af 7) (x:=.ref<|st.length+5) nofun Y (rc _) (aA (e:=.af 5) Y aV) (ix _<|U.mem hp hy)⟩) aV) (XA (by rw [bS,gn])<|lq [_,_] [aH aE (.c 4),.q 1 ax aE] ax (.c 2000) Y h4 (ag _))
   have e1:bZ Φ (List.length st) (.new 116 [(.bA .len [(.af 9)]),(.bR (.af 7) .index [(.af 3)]),(.af 10),(.lO 209 [(.af 10),(.af 8)])] false) (FQ st R (b5 p.1) (some<|.aM<|p.2.map b5) none<|some<|.aL<|p.2.map<|nv<|cG R) (st++wq R d++[.L (p.2.map<|nv<|cG R)])=some (nR (cG R) (xj R) (p,d.length+1),st++wq R d++[.L (p.2.map<|nv<|cG R)]):=by have H:=DR (g6 [.L (p.2.map<|nv<|cG R)])<|lq [(List.map (nR (cG R)<|xj R) ((Sy.acc,[Sy.s,Sy.fin])::d).zipIdx).length,List.length d,((Sy.acc,[Sy.s,Sy.fin])::d).zipIdx.length] [aH aE (.c 11),.q 1 a7<|.s aE,.q 1 ax a7] ax (.c 2000) Y X cQ (ag _);rw [ag,cQ,bj] at H;have h2:=v.lt (ro:=(List.length st)) (st:=st++wq R d++[.L (p.2.map<|nv<|cG R)]) (right:=p.2.map (cG R).num) (n:=(ny R).length)<|lq [_,_] [aH aE (.c 4),.q 1 ax aE] ax (.c 1000) Y h4 (ag _);rw [hrt,li,bJ] at h2;refine JJ v (by rw [aj,ae];exact aa (aS _)<|aw _ _) (aA (cx (aA (e:=.af 9) Y aV) H)<|aA (p8 (o:=.af 7) (x:=.ref<|st.length+5) nofun Y (rc _) (aA (e:=.af 3) Y aV) (ix _<|U.Qr hp))<|aA (e:=.af 10) Y<|aA (fK (aA (e:=.af 10) Y<|aA (e:=.af 8) Y aV) h2) aV) ?_;show(true&&(true&&(gD (p.2.map<|nv<|cG R)&&true)))=true;rw [bT λQ Q=>rfl];rfl
   refine iP (jS (o:=.af 9) (xs:=((.acc,[.s,.fin])::d).zipIdx.map<|nR (cG R)<|xj R) (s1:=st++wq R d++[.L (p.2.map<|nv<|cG R)]) Y (g6 _) e1 (g6 _) (fH<|lq [(List.map (nR (cG R)<|xj R) ((Sy.acc,[Sy.s,Sy.fin])::d).zipIdx).length,List.length d,((Sy.acc,[Sy.s,Sy.fin])::d).zipIdx.length] [aH aE (.c 11),.q 1 a7<|.s aE,.q 1 ax a7] ax (.c 2000) Y X cQ (ag _))<|aa (aS _)<|aw _ _) ?_
   have e2:(wq R d++[AC.L (p.2.map<|nv<|cG R)]).set 6 (AC.L<|((Sy.acc,[Sy.s,.fin])::d).zipIdx.map (nR (cG R)<|xj R)++[nR (cG R) (xj R) (p,d.length+1)])=wq R (d++[p])++[AC.L (p.2.map<|nv<|cG R)]:=by unfold wq;rw [show((Sy.acc,[Sy.s,.fin])::(d++[p])).zipIdx.map (nR (cG R)<|xj R)=((Sy.acc,[Sy.s,.fin])::d).zipIdx.map (nR (cG R)<|xj R)++[nR (cG R) (xj R) (p,d.length+1)] by rw [<-fa,List.zipIdx_append,List.zipIdx_singleton,bj,bu,aR];rfl];rfl
   rw [aj,sx,e2];refine oF (m:=7) (cs':=wq R<|d++[p]) (ρ':=FQ st R) (by rw [ae];rfl) hc (by rw [ae];exact aw _ _) Nh ?_<|bU ⟨.inl Y,trivial,⟨⟩⟩;have b:∀{k:Nat},k<7->below (st.length+7) (.ref<|st.length+k)=true:=λh=>aq<|cc h _;exact aD (bI Y)<|aD (bI Y)<|aD (bI<|b (k:=0)<|by decide)<|aD ff<|aD ff<|aD ff<|aD (bI Y)<|aD (bI<|b<|by decide)<|aD (bI Y)<|aD (bI<|b<|by decide)<|aD ff NR) λρ s h=>?_)
 .refine new (cs:=[.L ((j4 R).map b5),.L [],.L<|(ny R).map b5,.L [b5 .acc],.L<|(ny R++[Sy.acc]).map b5,.L ((cG R).cK.map b5)]) (aA (x:=nR (cG R) (xj R) ((.acc,[.s,.fin]),0)) ?_ aV) (bM Y);have j:∀c:AC,(st++[.L ((j4 R).map b5),.L [],.L<|(ny R).map b5,.L [b5 .acc],.L<|(ny R++[Sy.acc]).map b5,c])[st.length+5]? =some c:=λc=>gx _ _ 5
  have:=JJ (Φ:=Φ) (s:=st++[.L ((j4 R).map b5),.L [],.L<|(ny R).map b5,.L [b5 .acc],.L<|(ny R++[Sy.acc]).map b5,.L ((cG R).cK.map b5)]) (s0:=st++[.L ((j4 R).map b5),.L [],.L<|(ny R).map b5,.L [b5 .acc],.L<|(ny R++[Sy.acc]).map b5,.L ((cG R).cK.map b5)]) (ρ:=[some (iL R),some .none,some<|.ref st.length,none,none,none,some<|b5 .s,some<|.ref<|st.length+5,some<|vi (ny R).length,none,none]) v (by rw [ae];exact aw _ _) (es:=[(.aI<|.int 0),(.af 8),(.aL [(.bR (.af 7) .index [(.af 6)]),(.wJ 0)]),(.wJ 0)]) (a:=vi 0) (b:=vi (ny R).length) (c:=.aL [nv (cG R) .s,.int 0]) (d:=.int 0)
   (aA Y<|aA Y<|aA ?_<|aA Y aV) Y
  .refine this.trans ?_;show _=some (AV.obj 116 [(4,vi 0),(5,nv (cG R) .acc),(6,.aL [nv (cG R) .s,nv (cG R) .fin]),(7,.int<|xj R 0),(8,.none),(9,vi 0),(10,vi 0)],_);rw [show nv (cG R) .acc=vi (ny R).length by rw [nv,A];rfl,show nv (cG R) .fin=.int 0 by rw [nv,Pg.L5];rfl];rfl
  .rw [sF,aA (p8 (m:=.index) (o:=.af 7) (x:=.ref<|st.length+5) nofun Y (by unfold hY;rw [bS,j];rfl) (aA (e:=.af 6) Y aV) (D5 (by rw [bS,j]) (aa (yn U)<|bM Y) U.pU))<|aA (e:=.wJ 0) Y aV,<-ll U.pU];rfl
 induction h;have p3:∀l:List Sy,gD (l.map b5)=true:=λl=>bT λ_ _=>rfl;have zL:∀{k:Nat} {l:List AV},(wq R R)[k]? =some (.L l)->gD l=true->lx (st++wq R R) st.length (some<|.ref<|st.length+k)=some (some<|.aM l):=λh p=>Xo (aw _ _) ((gx _ _ _).trans h) p;refine lj (cs:=wq R R) (ρ':=[some (iL R),some .none,some<|.aM<|(j4 R).map b5,none,none,none,some<|b5 .s,some<|.aM<|(cG R).cK.map b5,some<|vi (ny R).length,some<|.aM<|(cG R).rl.zipIdx.map<|nR (cG R)<|xj R,none]) hc
  (aD (bI Y)<|aD (bI Y)<|aD (zL (k:=0) Y<|p3 _)<|aD ff<|aD ff<|aD ff<|aD (bI Y)<|aD (zL (k:=5) Y<|p3 _)<|aD (bI Y)<|aD (zL (k:=6) Y<|bT λQ Q=>rfl)<|aD ff NR) ?_
 have hgr:∀q∈(cG R).rl,q.1∈(cG R).cK/\q.2.length<=4:=λq hq=>by exact(mO hq).elim (λe=>by subst e;exact⟨ar _<|.head _,bM Y⟩) λhq=>⟨U.Qr hq,(U.rr q hq).1⟩
 obtain⟨of,ow,hgi⟩:=v.gi (ro:=st.length) (st:=st++[.D []]) (G:=cG R) (lv:=xj R) (a:=.ref st.length) U.fW (by rw [ae];exact aw _ _) (bq U.len) hgr<|aq (by rw [ae];exact Nat.lt_add_right 1<|a6 _)
 .refine jo (s1:=st) (cs:=[.D [],.O 198 (Gi.fin (cG R) (xj R) (.ref st.length) of ow)]) (x:=.ref (st++[AC.D []]).length) ?_ (v':=jG (cG R) ⟨xj R,.aM<|li of,.aM<|li ow,vi ow.length⟩) ?_ ⟨_,Y⟩
  .refine RV (k:=198) (xs:=[.aM ((cG R).cK.map b5),vi (cG R).tm.length,.aM<|(cG R).rl.zipIdx.map<|nR (cG R)<|xj R,.ref st.length,.none,nv (cG R) .s]) (s1:=st++[.D []]) (aA Y<|aA Y<|aA Y<|aA (by rw [n9];rfl)<|aA Y<|aA (p8 (m:=.index) (o:=.af 7) (x:=.aM<|(cG R).cK.map b5) nofun Y Y (aA (e:=.af 6) Y aV) ?_) aV) Y (hgi.trans (by rw [aj];rfl));rw [D5 (l:=(cG R).cK) Y (aa (yn U)<|bM Y) U.pU,nv,ll U.pU];rfl
  .rw [ae];exact Q9 (n:=st.length+1) (b0 _) (gx _ _ 1) (zf (b8 Y)<|zf (b8 Y)<|zf (b8 Y)<|zf (oQ (aS _) (gn _ _ _) Y)<|zf (b8 Y)<|zf (b8 Y)<|zf (b8 Y)<|zf (b8 Y)<|zf (b8 Y)<|zf (b8 Y) Y) Y Y
end Pq
section
variable{G:Gr}
def kI(G:Gr)(x:Sy):KV:=.i<|G.num x
def QR(U:G.cK.length<=10)(h:kI G x=kI G y):x=y:=by injection h with h;exact Gr.mZ U<|Int.ofNat_inj.mp h
noncomputable def vH{U:Type}(O:U->KV)(l:List U)(f:U->AV):List (KV×AV):=l.map λx=>(O x,f x)
def ins{U:Type}(l:List U)(x:U):List U:=if x∈l then l else l++[x]
section
variable{f:α->AV}
def DX(h:l.Nodup):(ins l x).Nodup:=by
 delta ins;split
 .exact h
 .exact k6 h ‹_›
def DY:y∈ins l x↔y∈l\/y=x:=by
 delta ins;split
 .exact⟨.inl,λh=>h.elim id λh=>J h<|‹_›⟩
 .rw [fZ,eU]
def rH(O:∀x y,U x=U y->x=y):fP (vH U l f) (U x)=if x∈l then some (f x)else none:=by
 delta fP vH;exact l.rec Y λy l N=>by refine J aZ ?_;simp only [List.find?_cons];exact if c:y=x then J c (bV (aq Y) (au<|.head _) Y)else J (aF λq=>c<|O _ _ q) (N.trans<|ite_congr (propext<|by rw [jy,or_iff_right λq=>c q.symm]) (λM=>rfl) λM=>rfl)
def Cg(M:∀y,j5 (U y)=j5 (U x)):ed (U x) (vH U l f)=true:=NF λp O=>by obtain⟨y,_,N⟩:=mM O;exact jn N<|beq_iff_eq.mpr<|M y
def rG(O:∀x y,U x=U y->x=y):dput (vH U l f) (U x) (f x)=vH U (ins l x) f:=by
 have h:((vH U l f).any λe=>decide<|e.1=U x)=decide (x∈l):=by rw [Bool.eq_iff_iff,List.any_eq_true];refine J cy ⟨λN=>N.elim λp M=>M.elim λH e=>?_,λh=>⟨_,cW h,aq Y⟩⟩;clear M;obtain⟨y,D,rfl⟩:=mM H;exact O _ _ (aB e)▸D
 delta dput ins;refine J h ?_;by_cases c:x∈l
 .rw [au (aq c),au c,vH];refine List.map_map.trans<|aX λy L=>?_;exact if e:U y=U x then(au e).trans (J (O _ _ e) Y)else(az e)
 .exact bV (az<|by exact J cy c) (az c) nH
def mG:(vH U l f).length=l.length:=ag _
def xt(h:∀x,f7 (f x)=true):jN (vH M l f)=true:=r9.mpr λp U=>by obtain⟨y,_,O⟩:=mM U;exact jn O<|h y
end
abbrev pP(G:Gr)(l:List Sy)(f:Sy->AV):List (KV×AV):=vH (kI G) l f
def SY(U:G.cK.length<=10)(x y)(h:kI G x=kI G y):x=y:=QR U h
def kM{k}:ed (.i k) (pP G l f)=true:=NF λp U=>by obtain⟨y,_,O⟩:=mM U;refine jn O ?_;rfl
def xu:(pP G l f).map (λe=>e.1.av)=l.map (nv G):=bJ
def oT(G:Gr)(l:List Sy):List (KV×AV):=pP G l λU=>.bool true
def sG:jN (oT G l)=true:=xt λU=>rfl
def k8{O M U:Type}{f:M->Option U}{g}{h:O->U}{l:List O}(e:∀x∈l,f (g x)=(h x)):cY f (l.map g)=(l.map h):=by
 induction l with
 |nil=>rfl
 |cons a l N=>simp only [aZ,dq,e a<|.head _,N λx D=>e x (.tail _ D)];rfl
def Ji(h:O<=n)(e:s[n]? =some (.D M))(m:cY (λe=>(iH s O d e.2).bind λy=>some (e.1,y)) M=some U)(p:jN M=false)(q:jN U=true):iH s O (d+1) (.ref n)=some (.bK U):=(xl h e).trans<|(az λb=>bn<|b.symm.trans p).trans<|J m<|au q
def Gr.Ok.L6(h:G.Ok):G.nt.length=4:=by rcases h.nt with e|e<;>refine J e ?_<;>rfl
def Gr.Ok.HY(h:G.Ok):G.nt.Nodup:=(nA h.fW).2.1
def HZ(h:G.Ok):qR G.tm.length G.cK.length=G.nt.map (nv G):=by
 refine J (oB ..)<|J ae<|J (bY ..)<|List.ext_getElem (by simp only [ag,aO]) λk L U=>?_;simp only [ir,jL];simp only [ag] at U;have N:G.cK[G.tm.length+k]? =some G.nt[k]:=by simp only [Gr.cK,br<|aw ..,bY,aW U]
 obtain⟨H,M⟩:=List.getElem?_eq_some_iff.mp<|Gr.jz<|ar G.tm<|eZ U;obtain⟨D,O⟩:=List.getElem?_eq_some_iff.mp N;simp only [nv];exact J ((jh h.fW).mp<|M.trans O.symm) Y
end
structure Wu(G:Gr)(Q ord:List Sy):Prop where
 fW:ord.Nodup
 mem:∀x,x∈ord↔x∈G.nt
 top:∀pre A post,ord=pre++A::post->∀q∈G.rl,q.1=A->∀l x r,q.2=l++x::r->x∈G.nt->(∀y∈l++r,y∈Q)->x∈pre
namespace Uo
variable{G:Gr}{U:List Sy}{nd:Sy->List Sy}
noncomputable def rf(st:St)(G:Gr)(x:Sy):AV:=.ref<|st.length+1+G.nt.idxOf x
def pre(st:St)(G:Gr):St:=st++[.D (pP G G.nt<|rf st G)]
def bz(st:St)(G:Gr)(nd:Sy->List Sy)(m:St):St:=pre st G++((G.nt.map λx=>.D<|oT G<|nd x)++m)
def env(st:St)(G:Gr)(e:Ex)(Q:List Sy)(M O o5 o6:Option AV:=none):En:=[some (jG G e),some<|.aM<|qq G Q,some<|.ref st.length,M,O,o5,o6,none,none,none,none]
def pl:(pre st G).length=st.length+1:=ae
def ap(t:St):pre st G++t=st++ .D (pP G G.nt<|rf st G)::t:=aj ..
def mU:(bz O G nd m)[O.length]? =some (.D<|pP G G.nt<|rf O G):=by simp only [bz];exact J (ap _)<|gn ..
def A0(O:x∈G.nt):(bz st G nd m)[st.length+1+G.nt.idxOf x]? =some (.D<|oT G<|nd x):=jn pl<|tU O
def Bp(M:G.nt.Nodup)(O:x∈G.nt):(bz st G nd m).set (st.length+1+G.nt.idxOf x) (.D<|oT G l)=bz st G (upd nd x l) m:=by refine jn pl<|(tT M O).trans ?_;congr 2;exact aX λy N=>by dsimp only [upd];split<;>rfl
def len(h:G.Ok):(bz st G nd m).length=st.length+5+m.length:=by simp only [bz,pl,ae,ag,h.L6];exact bH (lq [_,_] [] (.a (.s ax)<|.a (.c 4) aE) (.a (.a ax<|.c 5) aE) Y)<|lq [_,_] [] (.a (.a ax<|.c 5) aE) (.a (.s ax)<|.a (.c 4) aE) Y
def yh:bz O G nd m++[c]=bz O G nd (m++[c]):=by delta bz;simp only [aj]
def ZL(h:G.Ok):(bz O G nd (c::m))[O.length+5]? =c:=by have:=gn (bz O G nd []) m c;rw [len h] at this;simp only [<-this,bz,aj];rfl
def XD(h:G.Ok)(M:x∈G.nt):subQ (bz O G nd m) (.ref O.length) (nv G x)=(rf O G x):=by simp only [subQ,bS,mU];show(if ed (.i<|G.num x) (pP G G.nt<|rf O G)then fP (pP G G.nt<|rf O G) (kI G x)else none)=_;exact J (au kM)<|J (rH<|SY h.dN)<|au M
def Ea(M:G.cK.length<=10)(O:x∈G.cK):subQ s (.aM<|qq G Q) (nv G x)=some (.bool<|decide<|x∈Q):=me (f:=λx=>.bool<|decide<|x∈Q) Y (Sp.BI M O)<|Gr.jz O
abbrev IA(O:St)(G:Gr)(e:Ex)(Q done:List Sy):En->St->Prop:=Ki (env O G e Q) (O++ .D (pP G done<|rf O G)::done.map λM=>.D [])
def G2(h:G.Ok)(P:G.nt=done++x::r)(A:IA O G e Q done X s):
  Wp ((fQ s (.v 3) (nv G x) X).bind λH=>cg Φ O.length N w [.aU (.sub (.af 2)<|.af 3) (.bK []),.jU [3]] H s) (LQ none<|IA O G e Q<|done++[x]):=by
 induction A
 have M:x∉done:=λq=>by have:=h.HY;exact(nA<|P▸this).2.2 x q x (.head _) Y
 have B:done.length<lim:=by have:=congrArg List.length P;simp only [h.L6,ae] at this;exact aQ ((lq [_,_] [.p 1 (.c 4) (.a ax<|.s aE)] ax (.c 4) Y this):done.length<=4)<|bM Y
 have L:G.nt.idxOf x=done.length:=J P<|J List.idxOf_append<|J (az M)<|J List.idxOf_cons_self<|J (bu _) Y;refine kp Y<|nE (x:=rf O G x) (s1:=O++ .D (pP G done<|rf O G)::(done.map (λj=>.D [])++[.D []])) (kv:=kI G x) ?_ Y Y (gn ..) Y kM (jn mG.symm B) .refl ?_
 .simp only [n9,uf,Option.bind_some,ae,bj,ag,rf,L,aj,bB,ck 1];rfl
 .simp only [rG (SY h.dN),ins,az M,rW];exact d9<|bU ⟨.inl Y,trivial,J nH ⟨⟩⟩
noncomputable def sol(Q r:List Sy):List Sy:=r.filter λy=> !decide (y∈Q)
def qF(Q r:List Sy)(x:Sy):Int:=((sol Q r).length:Int)-(if x∈Q then 0 else 1)
def KI(G:Gr)(Q r:List Sy)(l:List Sy)(x:Sy):List Sy:=if qF Q r x=0/\x∉G.tm then ins l x else l
def zH(G:Gr)(Q:List Sy)(p:Sy×List Sy)(O:List Sy)(nd:Sy->List Sy):Sy->List Sy:=upd nd p.1<|O.foldl (KI G Q p.2)<|nd p.1
def BN(G:Gr)(Q:List Sy)(d:List ((Sy×List Sy)×Nat)):Sy->List Sy:=d.foldl (λnd q=>zH G Q q.1 q.1.2 nd) λO=>[]
abbrev IC(O:St)(G:Gr)(e:Ex)(Q:List Sy)(nd:Sy->List Sy)(q:(Sy×List Sy)×Nat)(M:List Sy):En->St->Prop:=Ki (env O G e Q none (nR G e.lv q)<|some<|.ref<|O.length+5)<|bz O G (zH G Q q.1 M nd) [.L ((sol Q q.1.2).map<|nv G)]
def uW:zH G Q p (O++[x]) nd=upd (zH G Q p O nd) p.1 (KI G Q p.2 (zH G Q p O nd p.1) x):=by
 funext y
 delta zH upd;exact bV ft (au Y) (if c:y=p.1 then bV (au c) (au c) Y else bV (az c) (az c) (J (az c) Y))
def uv:upd F x (F x)=F:=funext λy=>by
 delta upd;split
 .rename_i c;exact congrArg _ c.symm
 .rfl
def DC{O l:List Sy}(h:l.Nodup):(O.foldl (KI G Q r) l).Nodup:=by
 induction O generalizing l with
 |nil=>exact h
 |cons x O M=>exact M (by delta KI;split;exact DX h;exact h)
def T3(h:G.Ok)(f:KS Φ G e)(A:(nd q.1.1).Nodup)(y:x∈G.cK)(j:q.1.1∈G.nt)(o:q.1.2.length<=4)(g:IC O G e Q nd q M w s):
  Wp ((fQ s (.v 3) (nv G x) w).bind λB=>cg Φ O.length N r V5 B s) (LQ none<|IC O G e Q nd q<|M++[x]):=by
 induction g;refine kp Y<|cb (s1:=bz O G (zH G Q q.1 M nd) [.L ((sol Q q.1.2).map<|nv G)]) (ρ':=env O G e Q (nv G x) (nR G e.lv q) (some<|.ref<|O.length+5)<|some<|.int<|qF Q q.1.2 x) (xy (dh Y Y<|Ea h.dN y) ?_) Y ?_
 .delta qF;exact if c:x∈Q then bV (aq c) (au c) (cx (aA Y aV)<|J (oK (J bS<|J (ZL h) Y)<|by exact J (ag _)<|lq [_] [aH ax (.c 4)] ax (.c 2000) Y (aa (bN ..) o))<|J (ag _) Y)else bV (aF c) (az c) (dy (cx (aA Y aV)<|J (oK (J bS<|J (ZL h) Y)<|by exact J (ag _)<|lq [_] [aH ax (.c 4)] ax (.c 2000) Y (aa (bN ..) o))<|J (ag _) Y) Y Y)
 have H:=cp (Φ:=Φ) (ro:=O.length) (op:=.eq) (a:=.af 6) (b:=.aI<|.int 0) (ρ:=env O G e Q (nv G x) (nR G e.lv q) (some<|.ref<|O.length+5)<|some<|.int<|qF Q q.1.2 x) (s2:=bz O G (zH G Q q.1 M nd) [.L ((sol Q q.1.2).map<|nv G)]) Y Y rF;have fin:∀{D},D=zH G Q q.1 (M++[x]) nd->Wp (cg Φ O.length N r [.jU [3,6]] (env O G e Q (nv G x) (nR G e.lv q) (some<|.ref<|O.length+5)<|some<|.int<|qF Q q.1.2 x) (bz O G D [.L ((sol Q q.1.2).map<|nv G)])) (LQ none<|IC O G e Q nd q<|M++[x]):=λe=>J e<|d9<|bU ⟨.inl Y,trivial,⟨⟩⟩;by_cases X:qF Q q.1.2 x=0
 .rw [aq X] at H;refine jX (nP H<|El<|m7 Y Y (aA Y aV)<|f.XB _ _ x y) ?_;by_cases P:x∈G.tm
  .refine J (aq P) (bU<|fin ?_);rw [uW,KI,az λq=>q.2 P,uv]
  .refine J (aF P) (nE Y (dh Y (dM Y J8)<|XD h j) Y (A0 j) Y kM (by simp only [oT];exact J mG<|aQ (gE (by simp only [zH,upd];exact DC A))<|bM Y) (lq [_,_] [] ax (.a (.s ax) aE) Y) ?_);refine J (rG<|SY h.dN)<|J (Bp h.HY j)<|bU<|fin<|J uW ?_;rw [KI,au ⟨X,P⟩]
 .replace H:=(aF X)▸H;refine jX (lB H)<|bU<|fin ?_;rw [uW,KI,az λq=>X q.1,uv]
def L9{O l:List Sy}:y∈O.foldl (KI G Q r) l↔y∈l\/y∈O/\qF Q r y=0/\y∉G.tm:=by
 induction O generalizing l with
 |nil=>exact⟨.inl,λh=>h.elim id λh=>iZ h.1⟩
 |cons x O M=>
  refine M.trans ?_
  have:y∈KI G Q r l x↔y∈l\/y=x/\qF Q r y=0/\y∉G.tm:=by
   delta KI;exact if c:qF Q r x=0/\x∉G.tm then(by rw [au c,DY];exact or_congr jj ⟨λe=>⟨e,J e c⟩,λe=>e.1⟩)else J (az c) ⟨.inl,λh=>h.elim id λh=>absurd (jn h.1 h.2) c⟩
  rw [this,jy,or_assoc,<-or_and_right]
def DE{d:List ((Sy×List Sy)×Nat)}{nd:Sy->List Sy}:y∈d.foldl (λnd q=>zH G Q q.1 q.1.2 nd) nd A↔y∈nd A\/∃q∈d,q.1.1=A/\y∈q.1.2/\qF Q q.1.2 y=0/\y∉G.tm:=by
 induction d generalizing nd with
 |nil=>exact⟨.inl,λh=>h.elim id λq=>q.elim λ_ h=>iZ h.1⟩
 |cons q d O=>
  refine O.trans ?_
  have:y∈zH G Q q.1 q.1.2 nd A↔y∈nd A\/q.1.1=A/\y∈q.1.2/\qF Q q.1.2 y=0/\y∉G.tm:=by
   delta zH upd;exact if c:A=q.1.1 then(by rw [au c,L9,c];exact or_congr jj ⟨λh=>⟨Y,h⟩,λh=>h.2⟩)else J (az c) ⟨.inl,λh=>h.elim id λh=>absurd h.1.symm c⟩
  rw [this,or_assoc];exact or_congr jj ⟨λh=>h.elim (λh=>⟨q,.head _,h⟩) λh=>h.elim λp h=>⟨p,.tail _ h.1,h.2⟩,λh=>h.elim λp h=>(mO h.1).elim (λe=>.inl<|jn e h.2) λM=>.inr ⟨p,M,h.2⟩⟩
def DD{d:List ((Sy×List Sy)×Nat)}{nd:Sy->List Sy}(h:∀A,(nd A).Nodup):(d.foldl (λnd q=>zH G Q q.1 q.1.2 nd) nd A).Nodup:=by
 induction d generalizing nd with
 |nil=>exact h A
 |cons q d O=>
  refine O λA=>?_;show(zH G Q q.1 q.1.2 nd A).Nodup;delta zH upd;split
  .exact DC (h _)
  .exact h A
abbrev IB(O:St)(G:Gr)(e:Ex)(Q:List Sy)(d:List ((Sy×List Sy)×Nat)):En->St->Prop:=Ki (env O G e Q)<|bz O G (BN G Q d) []
def cl(O:St)(G:Gr)(nd:Sy->List Sy):St:=.D (pP G G.nt<|rf O G)::G.nt.map λx=>.D<|oT G<|nd x
def xU:bz st G nd m=st++(cl st G nd++m):=by simp only [bz];exact(ap _).trans Y
def JV(h:G.Ok):(cl O G nd).length=5:=by simp only [cl,bj,ag,h.L6]
def CD(h:∀x∈l,below k (f x)=true):lF k (pP G l f)=true:=by
 induction l with
 |nil=>rfl
 |cons y l O=>exact J5 ⟨h y<|.head _,O λx M=>h x<|.tail _ M⟩
def T4(h:G.Ok)(D:Cl st)(f:KS Φ G e)(L:G.rl.zipIdx=d++q::r)(H:IB st G e Q d ρ s):
  Wp ((fQ s (.v 4) (nR G e.lv q) ρ).bind λP=>cg Φ st.length N (st.length+5) V6 P s) (LQ none<|IB st G e Q<|d++[q]):=by
 induction H;have O:=h.rr _<|b4<|J L<|ar _<|.head _;have X:q.1.2.length<=2000:=aa O.1<|bM Y;have M:=vK (Φ:=Φ) (ro:=st.length) (tt:=.v 3) (elt:=.af 3) (own:=[3]) (ρ:=env st G e Q none<|nR G e.lv q) (s1:=bz st G (BN G Q d) []) (dM (o:=.af 4) Y vY) (gF X) X (λB=>trivial) λd y r L=>⟨Y,tw<|El<|dh (o:=.af 1) (i:=.af 3) Y Y<|Ea h.dN<|O.2.1 y<|J L<|ar _<|.head _,λB=>rfl⟩;simp only [yh,len h] at M;refine kp Y<|cb M Y<|gu (I:=IC st G e Q (BN G Q d) q) (dM Y vY) (gF X) ?_ (λb x rest ρ s w H=>T3 h f (DD λB=>bh) (O.2.1 x<|w▸ar _ (.head _)) (h.left<|b4<|J L<|ar _<|.head _) O.1 H) λρ s H=>?_
 .have:IC st G e Q (BN G Q d) q [] _ _:=.mk;rwa [show zH G Q q.1 [] (BN G Q d)=BN G Q d from uv] at this
 .induction H;refine J xU (oF Y D (J ae<|J (JV h)<|lq [] [] (.c 5) (.a (.c 5)<|.s<|.c 0) Y) (by
    refine J (List.take_left'<|JV h)<|l5 λc D=>dK ?_;rcases mO D with p|D
    .refine J p (CD λx j=>aq ?_);have:=b9 j;simp only [h.L6] at this;exact lq [_,_] [aH (.s aE) (.c 4)] (.s<|.a (.s ax) aE) (.a ax<|.c 5) Y this
    .refine(mM D).elim λx A=>A.elim λ_ g=>?_;exact jn g<|fL sG) (aD (bI Y)<|aD (bI Y)<|aD (bI<|aq<|lq [_] [] (.s ax) (.a ax<|.c 5) Y) Y)<|bU ⟨.inl Y,trivial,?_⟩)
  have:IB st G e Q (d++[q]) _ _:=⟨⟩;simp only [BN,ft,xU,aC] at this;exact this
def NN(G:Gr)(nd:Sy->List Sy):List (KV×AV):=pP G G.nt λx=>.bK<|oT G<|nd x
def iY(O:St)(G:Gr)(U:List Sy)(m:St):St:=O++(.L (U.map<|nv G)::.D (oT G U)::m)
def Cf(M:St)(G:Gr)(e:Ex)(Q:List Sy)(nd:Sy->List Sy)(D N O:Option AV:=none):En:=[some (jG G e),some<|.aM<|qq G Q,some<|.bK<|NN G nd,D,none,none,none,some<|.ref M.length,some<|.ref<|M.length+1,N,O]
def Yo(h:G.Ok):iH (bz st G nd m) st.length 6 (.ref st.length)=some (.bK<|NN G nd):=
 Ji .refl mU (k8 λx O=>by rw [rf];exact J (oQ (by exact lq [_,_] [] ax (.a (.s ax) aE) Y) (A0 O) sG) Y) (by rcases h.nt with e|e<;>refine J e ?_<;>rfl) (r9.mpr λp M=>by obtain⟨y,_,N⟩:=mM M;refine jn N ?_;rfl)
inductive OI(G:Gr)(nd:Sy->List Sy):List Sy->Prop
 |nil:OI G nd []
 |snoc {l:List Sy} {x:Sy} (h:OI G nd l) (hx:x∈G.nt) (hn:x∉l) (hs:∀y∈nd x,y∈l):OI G nd (l++[x])
def OI.fW(h:OI G nd U):U.Nodup:=h.rec bh λh N M D O=>k6 O M
def OI.sub(h:OI G nd U):∀x∈U,x∈G.nt:=h.rec nofun λh N H D O y M=>(mA M).elim (O y) λm=>mS m▸N
def OI.top(h:OI G nd U):∀{pre post},U=pre++A::post->∀y∈nd A,y∈pre:=by
 induction h with
 |nil=>exact λe=>by simp at e
 |snoc h H L N M=>
  intro pre post e;rcases List.eq_nil_or_concat post with rfl|⟨r,z,rfl⟩
  .refine(List.append_inj' e Y).elim λD O=>?_;refine jn D ?_;injection O with O;exact jn O N
  .rw [List.concat_eq_append,<-fa,<-aj] at e;exact M (List.append_inj' e Y).1
def OI.len(O:G.Ok)(h:OI G nd U):U.length<=4:=jn O.L6<|iw h.fW h.sub
theorem hV(h:G.Ok):jc (iY O G U m) .hV (nv G x) (.ref<|O.length+1)=(!decide (x∈U)):=by show(Ta (nv G x)<|vw (iY O G U m)<|.ref<|O.length+1).map not=_;refine J bS<|J (gx _ _ 1) ?_;show(if ed (.i<|G.num x) (oT G U)then some (fP (oT G U)<|kI G x).isSome else none).map not=_;exact J (au kM)<|J (rH<|SY h.dN) (if c:x∈U then bV (au c) (aq c) Y else bV (az c) (aF c) Y)
inductive IE(st:St)(G:Gr)(e:Ex)(Q:List Sy)(nd:Sy->List Sy)(U dn:List Sy):En->St->Prop
 |mk (kq more:List Sy) (hm:kq=U++more) (hO:OI G nd kq) (hd:∀A∈dn,(∀y∈nd A,y∈U)->A∈kq):IE st G e Q nd U dn (Cf st G e Q nd none<|vi U.length) (iY st G kq [])
set_option tactic.hygienic true in
def TZ(h:G.Ok)(hc:Cl M)(B:∀A,(nd A).Nodup)(hA:A∈G.nt)(hI:IE M G e Q nd U dn ρ s):
  Wp ((fQ s (.v 3) (nv G A) ρ).bind λl=>cg Φ M.length N (M.length+2) V4 l s) (LQ none<|IE M G e Q nd U<|dn++[A]):=by
 induction hI;rename_i kq more g w n
 have fin:∀{O more m},O=U++more->OI G nd O->(∀x∈kq,x∈O)->((∀y∈nd A,y∈U)->A∈O)->Wp (cg Φ M.length N (M.length+2) [.gc [3]] (Cf M G e Q nd (nv G A)<|vi U.length) (iY M G O m)) (LQ none<|IE M G e Q nd U<|dn++[A]):=by
  intro O more m P h2 h3 h4;have h5:gp (M.length+2) (.L<|O.map<|nv G)=true:=gz ..;have h6:gp (M.length+2) (.D<|oT G O)=true:=fL sG;refine oF Y hc (cJ 2 _) (by show cY _ [AC.L (O.map<|nv G),.D (oT G O)]=_;simp only [dK h5,dq,dK h6];rfl) (aD (bI Y)<|aD (bI Y)<|aD (bI Y)<|aD Y<|aD Y<|aD Y<|aD Y<|aD (bI<|aq<|b0 _)<|aD (bI<|aq .refl) Y)<|bU ⟨.inl Y,trivial,O,more,P,h2,λA' hA' X=>?_⟩
  exact(mA hA').elim (λq=>h3 _<|n A' q X) λq=>by rw [mS q] at X⊢;exact h4 X
 refine kp (ρ':=Cf M G e Q nd (nv G A)<|vi U.length) Y ?_;have P:bZ Φ M.length (.bk .hV (.af 3)<|.af 8) (Cf M G e Q nd (nv G A)<|vi U.length) (iY M G kq [])=_:=cp Y Y<|hV h;by_cases f:A∈kq
 .rw [aq f] at P;exact jX (lB P)<|bU<|fin g w (λH h=>h) λH=>f
 rw [aF f] at P
 have j:=vK (Φ:=Φ) (ro:=M.length) (tt:=.v 10) (elt:=.af 10) (ifs:=[.bk .hV (.af 10) (.af 8)]) (own:=[10]) (ρ:=Cf M G e Q nd (nv G A)<|vi U.length) (s1:=iY M G kq []) (gd:=none) (dh (o:=.af 2) (i:=.af 3) Y Y (by
   show(if ed (.i<|G.num A) (NN G nd)then fP (NN G nd) (kI G A)else none)=_;rw [NN,au kM,rH<|SY h.dN,au hA])) (by
   show(if(oT G<|nd A).length<=lim then some ((oT G<|nd A).map λe=>e.1.av,none)else none)=_;rw [oT,xu,au (J mG<|dE<|aa (gE<|B A)<|bM Y)]) (aa (gE<|B A)<|bM Y) (λH=>trivial) λd y r hd=>⟨Y,tw<|cp Y Y (by simp only [iY];exact J (aj ..)<|hV h),λH=>rfl⟩
 have e1:∀{t:St},iY M G kq []++t=iY M G kq t:=λ{t}=>by simp only [iY];exact(aj ..)
 have e2:∀{t:St},(iY M G kq t).length=M.length+2+t.length:=λ{t}=>bH (lq [_,_,_] [.q 1 ax (.a aE<|.s<|.s a7)] ax (.a (.a aE<|.c 2) a7) Y ae)<|lq [_,_,_] [.p 1 a7 (.a ax<|.s<|.s aE)] (.a (.a ax<|.c 2) aE) a7 Y ae;simp only [e1,e2,List.length_nil,eR] at j
 have hs:(sol kq<|nd A).map (nv G)=[]↔∀y∈nd A,y∈kq:=by rw [List.map_eq_nil_iff,sol,List.filter_eq_nil_iff];exact forall_congr' λy=>imp_congr jj (if c:y∈kq then J (aq c) ⟨λH=>c,λH=>nb⟩else J (aF c) ⟨absurd Y,λq=>absurd q c⟩)
 refine jX (nP P<|cp (s2:=iY M G kq [.L ((sol kq<|nd A).map<|nv G),.L []]) j (by refine J kL<|J m6<|J (Option.bind_some ..)<|J (au<|bM Y)<|J e2 ?_;rw [iY];exact J (aj ..) Y)<|Pq.Ow (J bS<|J (gx _ _ 2) Y) (J bS<|J (gx _ _ 3) Y) Y) ?_;by_cases b:(sol kq<|nd A).map (nv G)=[]
 .refine J (aq b) (nE (kv:=kI G A) Y Y Y (gx _ _ 1) Y kM (by simp only [oT,pP];exact J mG<|aQ (w.len h)<|by decide) (lq [_] [] ax (.s ax) Y) ?_);rw [oT,rG<|SY h.dN,iY,sx,List.set_cons_succ];refine J List.set_cons_zero<|iP (jS Y (gn ..) Y (gn ..) (by rw [ag];exact aQ (w.len h)<|by decide) .refl) ?_;rw [rW,nH,ins,az f];exact bU<|fin (by rw [g,aj]) (w.snoc hA f<|hs.mp b) (λx=>bl _) λH=>ar _<|.head _
 .rw [aF b];exact bU<|fin g w (λH h=>h) λX=>absurd (hs.mpr λy m=>g▸bl _ (X y m)) b
def Dd(h:∀y∈r,y∈Q):sol Q r=[]:=List.filter_eq_nil_iff.mpr λy O=>by refine J (aq<|h y O) ?_;decide
def low(h:G.Ok)(B:OT G Q)(X:y∈BN G Q G.rl.zipIdx A):y∈G.nt/\y.rk<A.rk:=by
 refine((DE.mp X).resolve_left iZ).elim λq O=>O.elim λH O=>O.elim λw O=>O.elim λN O=>O.elim λM j=>jn w ?_;have L:=(mA<|(h.rr _<|b4 H).2.1 y N).resolve_left j;refine⟨L,?_⟩;rcases(h.rr _<|b4 H).2.2 with D|⟨x,D,P⟩
 .exact D y N
 .rw [D] at N M;rcases mO N with e|N
  .exact absurd P (h.jF.mp<|jn e L)
  .simp only [mS N,qF,sol,aF λq=>h.jF.mp (B.2 x q) P,df] at M;by_cases c:q.1.1∈Q
   .rw [aq c,au c] at M;exact absurd M (by show ¬((1:Int)-0=0);decide)
   .rw [aF c,az c] at M;exact absurd M (by show ¬((2:Int)-1=0);decide)
def all(O:∀A,∀y∈nd A,y∈G.nt/\y.rk<A.rk)(H:∀A∈G.nt,(∀y∈nd A,y∈U)->A∈U):∀n,∀A∈G.nt,A.rk<n->A∈U:=λn=>n.rec (λA N h=>absurd h<|dY _) λn D A N h=>H A N λy M=>D y (O A y M).1<|aJ (O A y M).2<|aK h
inductive IW(st:St)(G:Gr)(e:Ex)(Q:List Sy)(nd:Sy->List Sy)(k:Nat):En->St->Prop
 |mk (U:List Sy) (hO:OI G nd U) (hk:k=4-U.length):IW st G e Q nd k (Cf st G e Q nd) (iY st G U [])
def QA(h:G.Ok)(M:OI G nd U):ku (iY O G U m) .len [.ref O.length]=(vi U.length,iY O G U m):=by have:=M.len h;exact(oK (by refine J bS ?_;rw [iY,gn])<|J (ag _)<|lq [_] [aH ax (.c 4)] ax (.c 2000) Y this).trans (J (ag _) Y)
structure Sp(Φ:Fs)(G:Gr)(e:Ex):Prop where
 g:KS Φ G e
 nu:∀ro st,Wp (Φ ro 227 [jG G e] st) λr=>∃Q:List Sy,r=(.aM<|qq G Q,st)/\OT G Q
set_option tactic.hygienic true in
def ok(h:G.Ok)(hc:Cl st)(mN:Sp Φ G e)(hN:4<N):Wp (kC Φ ro N rA [jG G e] st) λr=>∃Q U,r=(.aM<|U.map<|nv G,st)/\OT G Q/\Wu G Q U:=by
 refine gT Y ?_;obtain⟨_,e1,Q,rfl,hQ⟩:=mN.nu st.length st;have hl:G.tm.length<=G.cK.length:=by simp only [Gr.cK,ae];exact aw ..
 refine cb (fK (aA Y aV) e1) Y<|cb (s1:=st++[.D []]) (by simp only [n9];rfl) Y<|gu (x:=.sS G.tm.length G.cK.length) (s1:=st++[.D []]) (cx (aA (dM Y OO)<|aA (m7 Y Y aV<|mN.g.cnt ..) aV) ?_) ?_ ⟨⟩ (λd x r L s=>G2 h) λL s O=>?_
 .show(if iG (G.tm.length:Int)&&iG (G.cK.length:Int)then _ else _)=_;exact bV (fE<|by exact lq [_,_] [aH aE (.c 10),aH ax aE] ax (.c 1000000) Y h.dN hl) (fE<|aa h.dN<|bM Y) Y
 .show(if iG (G.tm.length:Int)&&iG (G.cK.length:Int)then some (qR G.tm.length G.cK.length,none)else none)=_;exact wo (fE<|by exact lq [_,_] [aH aE (.c 10),aH ax aE] ax (.c 1000000) Y h.dN hl) (fE<|aa h.dN<|bM Y) (HZ h) Y
 induction O;have e0:st++AC.D (pP G G.nt<|rf st G)::G.nt.map (λu9=>AC.D [])=bz st G (BN G Q []) []:=J xU<|J (aC _) Y;refine J e0<|gu (dM Y oZ) (dx<|J cQ<|lq [_] [aH ax (.c 12)] ax (.c 2000) Y h.mi) ⟨⟩ (λd q r L s hd O=>J (len h)<|T4 h hc mN.g hd O) λL s O=>?_;induction O;have hz:=Yo (st:=st) (m:=[]) (nd:=BN G Q G.rl.zipIdx) h;rw [xU] at hz⊢;refine lj hc (aD (bI Y)<|aD (bI Y)<|aD (by show(iH _ _ 6 _).bind _=_;exact J hz Y) Y) ?_;refine cb Y Y<|cb (J n9<|J uf<|J (Option.bind_some ..)<|bV ae (aj ..) Y) Y<|zr (IW st G e Q<|BN G Q G.rl.zipIdx) hN ⟨[],.nil,Y⟩ λk L s O=>?_;induction O;rename_i U H hk
 have j:∀t,t=decide (U.length<4)->bZ Φ st.length (.bk .lt (.bA .len [.af 7])<|.bA .len [.af 2]) (Cf st G e Q<|BN G Q G.rl.zipIdx) (iY st G U [])=some (.bool t,iY st G U []):=λt e=>J e<|cp (cx (aA Y aV)<|QA h H) (cx (aA Y aV) (by show(if(NN G _).length<=lim then some (vi (NN G _).length,_)else none)=_;rw [NN,pP,mG,h.L6,au (bM Y)])) sU
 by_cases c:U.length<4
 .exact .inr ⟨_,j true (aq c).symm,(lq [_,_,_] [.p 1 ax aE,aH (.s a7)<|.c 4,aH (.c 4) (.a aE a7)] (.s<|.c 0) ax Y hk c (wB ..)),by
   refine cb (cx (aA Y aV)<|QA h H) Y (gu (I:=IE st G e Q (Uo.BN G Q G.rl.zipIdx) U) Y ?_ ⟨U,[],(aC _).symm,H,(λu9=>iZ)⟩ (λdn A r L s hl O=>(show(iY st G U []).length=st.length+2 from ae)▸TZ h hc (λA=>DD λ_=>bh) (hl▸ar _ (.head _)) O) λL s O=>?_)
   .show(if(NN G<|Uo.BN G Q G.rl.zipIdx).length<=lim then some ((NN G<|Uo.BN G Q G.rl.zipIdx).map λe=>e.1.av,none)else none)=_;rw [NN,xu,au (J mG<|J h.L6<|bM Y)]
   .induction O;rename_i kq more v w hd
    have X:kq.length≠U.length:=λe=>by rw [v,ae] at e;simp only [List.length_eq_zero_iff.mp (Nat.add_eq_left.mp e),aC] at v;have:=iw h.HY λA hA=>all (λA y=>low h hQ) (v▸hd) 5 A hA (by induction A<;>decide);rw [h.L6] at this;exact tH [_] [aH (.s ax) (.c 4),aH (.c 4) ax] Y c this
    refine jX (cp (cx (aA Y aV)<|QA h w) Y<|tp.trans<|congrArg _<|aF X)<|bU<|d9<|bU ⟨.inl Y,4-kq.length,?_,kq,w,Y⟩;exact hk▸Nat.sub_lt_sub_left c (Nat.lt_of_le_of_ne (aa (aw ..)<|aG ((congrArg List.length v).trans ae).symm)<|Ne.symm X)⟩
 .refine .inl ⟨_,j false (aF c).symm,jo Y (iQ .refl (gn ..)<|bT λu9 u9=>rfl) ⟨Q,U,Y,hQ,H.fW,λx=>⟨H.sub x,λhx=>gQ λhno=>?_⟩,λpre A post he q hq hA l x r B hx M=>H.top he x<|DE.mpr<|.inr ?_⟩⟩
  .have:=iw (k6 H.fW hno) λy P=>(mA P).elim (H.sub y) λm=>mS m▸hx;rw [ae,h.L6,dG] at this;exact tH [_] [.n 1 (.s ax) (.c 4),aH (.s ax) (.c 4)] Y c this
  .exact(List.mem_iff_getElem?.mp hq).elim λk hk=>⟨(q,k),List.mk_mem_zipIdx_iff_getElem?.mpr hk,hA,B▸ar _ (.head _),J B (by simp only [qF,sol,dm,df];exact bV (show l.filter _=[] from Dd λy P=>M y<|bl _ P) (show r.filter _=[] from Dd λy P=>M y<|ar _ P) (if c:x∈Q then bV (aq c) (au c) Y else bV (aF c) (az c) Y)),λm=>h.jF.mp hx<|h.PA x m⟩
end Uo
def uV:jc s .ne (vi a) (vi b)=(!decide (a=b)):=by show BM s (.int a) (.int b)=_;delta BM;exact J rF<|J (dD Int.ofNat_inj) Y
def xT(h:b<=a):mT s .sub (vi a) (vi b)=(vi<|a-b,s):=by show some (AV.int<|(a:Int)-(b:Int),s)=_;simp only [vi,Int.natCast_sub h]
def nX(h:n<=1000):ku U .range [vi n]=some (.sS 0 n,U):=(au<|fE<|aa h<|bM Y)
def VP{M Q w:Type}[DecidableEq Q]{Φ:Fs}{ro:Nat}{ρ:En}{L s1:St}{x:AV}{tt:T}{it ke X:E}{ifs:List E}{own:List Nat}{l:List M}{H:M->AV}{f:Option (Nat×AC)}{O:M->En}{p:M->Bool}{U:Q->KV}{N:w->AV}{q:M->AV}{va:M->AV}{g:M->Q×w}(h:bZ Φ ro it ρ L=(x,s1))(hi:dR ro s1 x=(l.map H,f))(hl:l.length<=2000)(o:∀cs,cT (s1++cs) f)(B:∀a b,U a=U b->a=b)(hk:∀a b,j5 (U a)=j5 (U b))(v:(l.map λy=>(g y).1).Nodup)
  (t:∀y∈l,∀cs,fQ (s1++cs) tt (H y) (dO own ρ)=(O y)/\nS Φ ro true ifs (O y) (s1++cs)=(p y,s1++cs)/\l9 (q y)=(U (g y).1)/\bZ Φ ro ke (O y) (s1++cs)=(q y,s1++cs)/\bZ Φ ro X (O y) (s1++cs)=(N (g y).2,s1++cs)):
  bZ Φ ro (.dc ke X tt it ifs own) ρ L=some (.ref s1.length,s1++[.D (encD U N<|(l.filter p).map g)]):=by
 simp only [VD,h,hi,Option.bind_some];obtain⟨s',h1,rfl⟩:=GS (chk:=nS Φ ro true ifs) (inner:=λρ L=>(bZ Φ ro ke ρ L).bind λa=>(bZ Φ ro X ρ a.2).bind λb=>xv s1.length a.1 b.1 b.2) H (λd s=>s=s1++[AC.D (encD U N<|(d.filter p).map g)]) (l:=l) (st:=s1++[.D []]) Y λd y r s j A=>by
  subst A;obtain⟨a1,a2,a3,a4,a5⟩:=t y (J j<|ar _<|.head _) [.D (encD U N<|(d.filter p).map g)];refine J a1<|J (Option.bind_some ..)<|J a2<|J (Option.bind_some ..) ?_;induction hp:p y with
  |false=>exact Wp.mk ⟨o _,by refine J (dm ..)<|J df<|J hp ?_;simp⟩
  |true=>
   have hlen:(encD U N<|(d.filter p).map g).length<lim:=by refine J (gU _)<|J (ag _)<|aQ (bN ..) ?_;have:=congrArg List.length j;simp only [ae] at this;exact fH<|lq [_,_,_] [aH aE (.c 2000),.p 1 aE (.a ax<|.s a7)] ax (.c 2000) Y hl this
   have P:(g y).1∉((d.filter p).map g).map (·.1):=λm=>by simp only [j,aR] at v;obtain⟨_,n,e⟩:=mM m;obtain⟨z,i,rfl⟩:=mM n;exact(nA v).2.2 _ (GL ⟨z,(mF i).1,Y⟩) _ (.head _) e
   simp only [a4,a5,Option.bind_some];dsimp only [xv];exact J (gn ..)<|J (show(some<|AC.D<|encD U N<|(d.filter p).map g).bind Pm=(encD U N<|(d.filter p).map g)from Y)<|J (Option.bind_some ..)<|J a3<|J (Option.bind_some ..)<|J (l6 hk ..)<|J (aq hlen)<|J (rW ..)<|J (jw B ..)<|J (kb P _)<|Wp.mk ⟨o _,by simp only [dm,df,hp,aR];rfl⟩
 exact eY (congrArg _ h1) _
namespace Wo
structure C where
 Φ:Fs
 G:Gr
 e:Ex
 N:Nat
 st:St
 right:List Sy
 len:Nat
 B:Nat
 cv:AV
 W:NH
 h:G.Ok
 hg:KS Φ G e
 hc:Cl st
 hr:right.length<=4
 Vo:∀x∈right,x∈G.cK
 hl:len<=3
 hW:Sx W
 hv:vw st cv=.D (encD (k2 G) (oq G) W)
 MB:below st.length cv=true
 Tn:1<=B
 Zy:B<big
 hB:∀x∈right,x∉G.tm->((List.range<|len+1).map λm=>r5<|tF W x m).sum<=B
 Tj:B^right.length<big
def env(X:C)(rc:List (List Sy×Nat))(x lt M O lo mn sm U:Option AV:=none):En:=[some (jG X.G X.e),some<|gO X.G X.right,some<|vi X.len,some X.cv,some<|oq X.G rc,x,lt,M,O,lo,mn,sm,U]
def bz(X:C)(L:List (List Sy×Nat)):St:=X.st++[.D (encD (kW X.G) vi L)]
def F(X:C)(rc:List (List Sy×Nat))(x:Sy)(O U mn sm:Option AV)(L:List (List Sy×Nat)):En×St:=(env X rc (nv X.G x) (some<|.ref X.st.length) O U none mn sm,bz X L)
structure In(X:C)(f:(List Sy->Nat)->Nat)(L:List (List Sy×Nat)):Prop where
 wl:WL X.len L
 eq:∀F,lR L F=f F
def Gy(X:C)(x:Sy)(F:List Sy->Nat)(p:List Sy):Nat:=
 if x∈X.G.tm then(if p.length<X.len/\x≠.err then F (p++[x])else 0)else((List.range<|X.len+1-p.length).map λm=>lR (tF X.W x m) λv=>F<|p++v).sum
section
variable{X:C}{rc:List (List Sy×Nat)}{sm:Option AV}{f:(List Sy->Nat)->Nat}
abbrev W(X:C)(O:Nat)(U:List S)(ρ:En)(s:St)(Q:Out×En×St->Prop):Prop:=Wp (cg X.Φ X.st.length X.N O U ρ s) Q
abbrev V(X:C)(e:E)(ρ:En)(s:St)(r:AV×St):Prop:=bZ X.Φ X.st.length e ρ s=some r
def xV:(bz X L)[X.st.length]? =some (.D<|encD (kW X.G) vi L):=gn ..
def Xy:vw (bz X L) (.ref X.st.length)=.D (encD (kW X.G) vi L):=by simp only [bS,xV]
theorem kn(h:WL X.len L):L.length<=1331:=h.kn X.hl
noncomputable def P7(U:E):S:=.aU (.sub (.af 6)<|.af 9)<|.b6 .add (.bR (.af 6) .get [.af 9,.aI (.int 0)]) U
def put(A:WL X.len L)(B:V X P (env X rc (nv X.G x) (some<|.ref X.st.length) H M (gO X.G w) mn sm U) (bz X L) (vi n,bz X L))(k:W X N O (env X rc (nv X.G x) (some<|.ref X.st.length) H M (gO X.G w) mn sm U) (bz X<|kc L w n) Q):
  W X N (P7 P::O) (env X rc (nv X.G x) (some<|.ref X.st.length) H M (gO X.G w) mn sm U) (bz X L) Q:=by
 refine nE (dy (p9 Y (E2 Xy) (aA Y<|aA cD aV)<|Oi X.h.dN Xy) B Y) Y Y xV nU rp (J (gU _)<|aQ (kn A)<|bM Y) .refl ?_;show W X N O _ ((bz X L).set X.st.length<|.D<|dput (encD (kW X.G) vi L) (kW X.G w)<|vi<|wt L w+n) Q;simp only [jw (mv X.h.dN),bz,rW];exact k
def Bh(U:WL X.len rc)(O:(p,c)∈rc):subQ s (oq X.G rc) (gO X.G p)=(vi c):=wX X.h.dN<|fB U.1 O
def We:List S:=[.aU (.v 9) (.b6 .add (.af 7)<|.af 12),P7<|.b6 .mul (.sub (.af 4)<|.af 7)<|.sub (.af 11)<|.af 12,.jU [9,12]]
def s4(H:WL X.len rc)(P:U∈rc)(D:U.2<big)(Q:U.1.length+m<=X.len)(N:r5 (tF X.W x m)<=X.B)(O:q∈tF X.W x m)(M:In X (λF=>f F+U.2*lR d λv=>F<|U.1++v) L):
  W X w We (env X rc (nv X.G x) (some<|.ref X.st.length) (gO X.G U.1) A none (vi m) (oq X.G<|tF X.W x m)<|gO X.G q.1) (bz X L) (LQ none<|LI (F X rc x (gO X.G U.1) A (vi m)<|oq X.G<|tF X.W x m)<|In X λF=>f F+U.2*lR (d++[q]) λv=>F<|U.1++v):=
 cb (dy Y Y<|Kb<|aa (jn ae<|J ae<|J (X.hW.wd x m q O).1 Q)<|aa X.hl<|bM Y) Y (put M.wl (dy (dh Y Y<|Bh H P) (dh Y Y<|wX X.h.dN<|fB (X.hW.nk x m) O)<|si D<|aQ (aa (iB q.2▸BW O λj=>1) N) X.Zy)<|d9<|gv (kc L (U.1++q.1)<|U.2*q.2) Y trivial ⟨M.wl.add (J ae<|J (X.hW.wd x m q O).1 Q)<|Nat.mul_pos (H.2 _ P).2 (X.hW.wd x m q O).2,λF=>by simp only [t6 M.wl.1,M.eq F,yu,i0,yt,eR,gy,Nat.mul_assoc,bB]⟩)
def pQ:List S:=[.aU (.v 11) (.bR (.af 3) .get [.aL [.af 5,.af 10],.bK []]),.gc [],.dT (.v 12) (.af 11) We,.jt (.bk .gt (.bA .len [.af 6])<|.b6 .mul (.aI<|.int 5)<|.wJ 4) [.Bz] [],.jU [10,11]]
def Zg t:vw (X.st++t) X.cv=.D (encD (k2 X.G) (oq X.G) X.W):=(ur X.MB).trans X.hv
def Yj t av:mP X.st.length (X.st++t) .get X.cv [.aL [nv X.G x,vi m],av]=(((fc X.W (x,m)).map<|oq X.G).getD av,X.st++t):=by show Jb _ _ _ (vw (X.st++t) X.cv)=_;refine J (Zg _) ?_;show(if ed (k2 X.G (x,m)) (encD (k2 X.G) (oq X.G) X.W)then some ((fP (encD (k2 X.G) (oq X.G) X.W)<|k2 X.G (x,m)).getD av,X.st++t)else none)=_;exact J (au yF)<|J (f9 (B2 X.h.dN) ..) Y
def Yp:cY (jT s (X.st.length+1) 6) ([.D (encD (kW X.G) vi L),O].take 1)=some [.D (encD (kW X.G) vi L)]:=by have U:gp (X.st.length+1) (.D<|encD (kW X.G) vi L)=true:=fL<|fj ..;exact(dq ..).trans (J (dK U) Y)
def s3(B:x∈X.right)(D:x∉X.G.tm)(A:WL X.len rc){U}(w:U∈rc)(P:U.2<big)(H:U.1.length+m<=X.len)(Q:In X (λF=>f F+U.2*(dk.map λm=>lR (tF X.W x m) λv=>F<|U.1++v).sum) L):
  W X (X.st.length+1) pQ (env X rc (nv X.G x) (some<|.ref X.st.length) (gO X.G U.1) (vi n) none<|vi m) (bz X L) (LQ none<|LI (F X rc x (gO X.G U.1) (vi n) none none)<|In X λF=>f F+U.2*((dk++[m]).map λm=>lR (tF X.W x m) λv=>F<|U.1++v).sum):=
 cb (p9 Y (E2<|Zg _) (aA Y<|aA (by simp only [n9,uf,Option.bind_some,bz,ae,aj];rfl) aV)<|Yj ..) Y
  (oF Y X.hc (bM Y) Yp (aD (bI Y) (aD (bI<|gz ..) (aD (bI Y) (aD (bI<|vV (b0 _) X.MB) (aD (bI Y) (aD (bI Y) (aD (bI<|aq<|a6 _) (aD (bI<|gz ..) (aD (bI Y) (aD Y (aD (bI Y) (aD (TR (by
    dsimp only [tF];induction fc X.W (x,m)with
    |none=>exact oQ .refl (gx _ _ 1) Y
    |some l=>exact b8 Y)) Y))))))))))))
  (fV (f:=λN=>F X rc x (gO X.G U.1) (vi n) (vi m)<|oq X.G<|tF X.W x m) (I:=λd=>In X λF=>(f F+U.2*(dk.map λm=>lR (tF X.W x m) λv=>F<|U.1++v).sum)+U.2*lR d λv=>F<|U.1++v) L Y (pF<|aa (lV (X.hW.nk x m) λq j=>J (X.hW.wd x m q j).1<|aa (aa (cJ ..) H) X.hl)<|bM Y) Y Q (λN N N=>rfl) (λd q r L y Q=>s4 A w P H (aa (xS (Ii<|cq<|aa (cJ ..) H) λm=>r5<|tF X.W x m)<|X.hB x B D) (J y<|ar _<|.head _) Q) λM O=>
  jl (cp (cx (aA Y aV) (by show Mq _ (vw ..)=_;refine J Xy ?_;show(if(encD (kW X.G) vi M).length<=lim then some (vi (encD (kW X.G) vi M).length,bz X M)else none)=_;exact J (gU _)<|au<|dE<|aa (kn O.wl)<|bM Y)) (dy Y Y<|si (qz<|bM Y)<|qz<|bM Y)<|Ho pX<|Nat.not_lt.mpr<|aa (kn O.wl)<|bM Y) (d9<|gv M Y trivial ⟨O.wl,λF=>(O.eq F).trans (by simp only [aR,fv,gy,bB];rfl)⟩)))
def vT:List S:=[.aU (.v 8) (.b6 .sub (.af 2)<|.bA .len [.af 7]),.jt (.bR (.af 0) (.user 1) [.af 5]) [.jt (.and [.bk .gt (.af 8) (.aI<|.int 0),.bk .ne (.af 5) (.wJ 1)]) [.aU (.v 9) (.b6 .add (.af 7)<|.aL [.af 5]),P7 (.sub (.af 4)<|.af 7)] [],.jU [7,8,9],.cont] [],.dT (.v 10) (.bA .range [.b6 .add (.af 8) (.aI<|.int 1)]) pQ,.jU [7,8]]
def s2(w:x∈X.right)(H:WL X.len rc){q}(P:q∈rc)(A:q.2<big)(O:In X (λF=>lR d<|Gy X x F) L):
  W X b vT (env X rc (nv X.G x) (some<|.ref X.st.length)<|gO X.G q.1) (bz X L) (LQ none<|LI (F X rc x none none none none)<|In X λF=>lR (d++[q])<|Gy X x F):=by
 have N:=(H.2 q P).1;have Q:∀F,lR (d++[q]) (Gy X x F)=lR d (Gy X x F)+q.2*Gy X x F q.1:=λF=>by simp only [yu,i0,yt,eR]
 refine cb (dy Y (cx (aA Y aV)<|sW<|aa (aa N X.hl)<|bM Y)<|xT N) Y ?_;have g:=m7 (ro:=X.st.length) (n:=1) (ρ:=env X rc (nv X.G x) (some<|.ref X.st.length) (gO X.G q.1)<|vi<|X.len-q.1.length) (st:=bz X L) (o:=.af 0) Y Y (aA (e:=.af 5) Y aV)<|X.hg.XB _ _ x<|X.Vo x w;by_cases U:x∈X.G.tm
 .have j:∀F,Gy X x F q.1=if q.1.length<X.len/\x≠.err then F (q.1++[x])else 0:=λF=>au U
  refine lK (lD g U) ?_;by_cases M:0<X.len-q.1.length
  .exact if c2:x=.err then jl (nP (cp Y Y<|Hn pX M)<|cp Y Y<|Dc uV<|(tZ X.h).mpr c2) (d9<|uJ<|BA L Y trivial<|(λc=>⟨O.wl,λF=>bV (O.eq F) (Q _)<|J (j _)<|J (az c) Y⟩) λq=>q.2 c2)else by refine lK (nP (cp Y Y<|Hn pX M)<|cp Y Y<|Lv uV λq=>c2<|(tZ X.h).mp q)<|cb (dy (y:=gO X.G [x]) Y Y<|Kb<|aa (bq<|aa N X.hl)<|bM Y) Y<|put O.wl (dh Y Y<|Bh H P)<|bU<|d9<|uJ<|BA (kc L (q.1++[x]) q.2) Y trivial ⟨O.wl.add (J ae<|Nat.lt_of_sub_pos M) (H.2 q P).2,λF=>?_⟩;exact J (t6 O.wl.1 ..)<|bV (O.eq F) (Q _)<|J (j _)<|J (au ⟨Nat.lt_of_sub_pos M,c2⟩) Y
  .exact jl (lB<|cp Y Y<|Ho pX M) (d9<|uJ<|BA L Y trivial<|(λc=>⟨O.wl,λF=>bV (O.eq F) (Q _)<|J (j _)<|J (az c) Y⟩) λq=>M<|Nat.sub_pos_of_lt q.1)
 .refine jl (lE g U) (fV (f:=λB=>F X rc x (gO X.G q.1) (vi<|X.len-q.1.length) none none) (I:=λdk=>In X λF=>lR d (Gy X x F)+q.2*(dk.map λm=>lR (tF X.W x m) λv=>F<|q.1++v).sum) L (cx (aA (dy Y Y il) aV)<|nX ?_) (oN ?_) Y O (λB B B=>rfl) (λdk m r t p O=>?_) λi D=>d9<|gv i Y trivial ⟨D.wl,λF=>(D.eq F).trans ?_⟩)
  .exact aa (bq<|aa (cP ..) X.hl) (bM Y)
  .exact aa (aa (cP ..) X.hl) (bM Y)
  .exact J ae (s3 w U H P A (Nat.add_le_of_le_sub' N<|aK<|mR<|J p<|ar _<|.head _) O)
  .refine J (Q _) ?_;rw [Gy,az U,Nat.succ_sub N]
structure I1(X:C)(d:List Sy)(q:List (List Sy×Nat)×List Sy):Prop where
 hr:X.right=d++q.2
 hw:WL X.len q.1
 hF:∀w,w.length=X.len->lR q.1 (Fp (Dt X.G X.W) w q.2)=sq (Dt X.G X.W) X.right w
 hB:r5 q.1*X.B^q.2.length<=X.B^X.right.length
def tI:List S:=[.aU (.v 6) (.bK []),.dT (.v 7) (.af 4) vT,.aU (.v 4)<|.af 6,.gc [5,6]]
def zs{U v6:Option AV}{L}(O:lx s X.st.length U=some (some<|oq X.G L)):cY (lx s X.st.length) [some (jG X.G X.e),some<|gO X.G X.right,some<|vi X.len,some X.cv,U,none,none,none,none,none,none,none,none]=(env X L):=
 aD (bI Y) (aD (bI<|gz ..)<|aD (bI Y)<|aD (bI X.MB)<|aD O Y)
def xR{f:Nat->Nat}(h:n<=m):((List.range n).map f).sum<=((List.range m).map f).sum:=(ej h).elim λk U=>J U<|J List.range_add<|J aR<|J fv<|aw ..
def F1(X:C)(q:List (List Sy×Nat)×List Sy):En×St:=(env X q.1,X.st)
def s1{d r}{q}(H:X.right=d++x::r)(N:I1 X d q):W X X.st.length tI (env X q.1<|nv X.G x) X.st (LQ none<|LI (F1 X)<|I1 X<|d++[x]):=
 have D:=fb<|N.hr.symm.trans H;have j:=J H<|ar _<|.head _;have P:∀p∈q.1,p.2<big:=λp v=>aQ (aa (iB p.2▸BW v λO=>1)<|aa (Nat.le_mul_of_pos_right _<|i6 X.Tn)<|jn D N.hB) X.Tj
 cb Y Y (fV (f:=λO=>F X q.1 x none none none none) (I:=λd=>In X λF=>lR d<|Gy X x F) [] Y (pF<|aa (kn N.hw)<|bM Y) Y ⟨⟨bh,(λO h=>iZ h)⟩,λF=>rfl⟩ (λO O O=>rfl) (λd p r L hd A=>s2 j N.hw (hd▸ar _ (.head _)) (P p<|hd▸ar _ (.head _)) A) λL Q=>
  cb Y Y (lj X.hc (zs (v6:=none)<|O2 .refl (gn ..)<|fj ..) (gv (L,r) Y trivial ⟨H.trans (aj d [x] r).symm,Q.wl,λw M=>by
   simp only [Q.eq,<-N.hF w M,D];refine xe λp v=>?_;by_cases U:x∈X.G.tm
   .rw [Gy,au U,EM U,M]
   .rw [Gy,az U,<-A3 X.hW U,M],aa (c7 _ (aa (aG<|Q.eq λO=>1) (by
     delta r5 lR;refine J (gY ..)<|jn (sR ..)<|md _ _ _ λp O=>J (iB _)<|J (gY X.B _)<|cI _ ?_;by_cases U:x∈X.G.tm
     .rw [Gy];refine J (au U) ?_;split
      .exact X.Tn
      .exact bf _
     .rw [Gy];refine J (az U)<|aa ?_<|X.hB x j U;exact xR<|cP ..)))<|J (Nat.mul_assoc ..)<|jn Nat.pow_succ'<|D▸N.hB⟩)))
def tE{p}(O:Nk rc)(U:∀c,p (w,c)=true):fc (rc.filter p) w=fc rc w:=by
 induction hg:fc rc w with
 |none=>rw [fI] at hg⊢;exact λq=>by obtain⟨p,U,e⟩:=mM q;exact hg<|GL ⟨p,(mF U).1,e⟩
 |some c=>exact fB (fJ (gC _ fx) O)<|List.mem_filter.mpr ⟨l7 hg,U c⟩
structure TL(m:Nat)(f:List Sy->Nat)(L:List (List Sy×Nat)):Prop where
 nk:Nk L
 wd:∀p∈L,p.1.length=m/\0<p.2
 wt:∀w,w.length=m->wt L w=f w
def ok(X:C){ro}:Wp (kC X.Φ ro X.N rz [jG X.G X.e,gO X.G X.right,vi X.len,X.cv] X.st) λr=>∃L,r=(oq X.G L,X.st)/\TL X.len (sq (Dt X.G X.W) X.right) L:=by
 refine gT Y<|cb (x:=.ref X.st.length) (s1:=bz X [([],1)]) Y Y<|lj X.hc (zs (v6:=none)<|O2 .refl (gn ..)<|fj ..)<|fV (f:=λO=>F1 X) ([([],1)],X.right) Y (gF<|aa X.hr<|bM Y) Y ⟨Y,⟨Ma ⟨iZ,bh⟩,λp D=>mS D▸⟨bf _,Nat.one_pos⟩⟩,λw O=>(J (i0 ..)<|(i7 _).trans CQ),(by simp only [r5,i0,yt,eR,i7];exact aS _)⟩ (λO O O=>rfl) (λd x r q=>s1) λq A=>?_;obtain⟨rc,r⟩:=q;obtain⟨H,U,j,hB⟩:=A;clear hB;obtain rfl:r=[]:=fb<|H.symm.trans (aC _).symm;have B:=VP (Φ:=X.Φ) (ro:=X.st.length) (ρ:=env X rc) (s1:=X.st) (tt:=.v 12) (it:=.af 4) (ke:=.af 12) (ifs:=[.bk .eq (.bA .len [.af 12]) (.af 2)]) (own:=[12]) (va:=λq=>vi q.2) Y (pF<|aa (kn U)<|bM Y) (aa (kn U)<|bM Y) (λO=>trivial) (mv X.h.dN) (λO O=>rfl) U.1 λq Q cs=>⟨Y,tw<|cp (cx (aA Y aV)<|sW<|aa (U.2 q Q).1<|aa X.hl<|bM Y) Y tp,nU,Y,dh (o:=.af 4) (i:=.af 12) Y Y<|Bh U Q⟩;rw [List.map_id'] at B;refine jo B (oQ .refl (gn ..)<|fj ..) ⟨_,Y,fJ (gC _ fx) U.1,λp D=>?_,λw M=>?_⟩
 .have:=mF D;exact⟨aB this.2,(U.2 p this.1).2⟩
 .refine jn (j w M) ?_;rw [zU U.1 w,Fp,au<|List.prefix_refl w,List.drop_length,Bk,au Y,iB,Mine.Internal.wt];exact J (tE U.1 λc=>aq M) Y;intro p D P;dsimp only [Fp];split
  .rename_i c;refine J Bk ?_;rw [az];intro q;rw [List.drop_eq_nil_iff] at q;exact P<|c.eq_of_length_le q
  .rfl
end
end Wo
structure Sem(G:Gr)(ok:Sy->Prop)(C:Sy->List Sy->Nat):Prop where
 tm:∀x,x.rk=0->∀w,C x w=one ok x w
 nt:∀x∈G.nt,∀w,C x w=((G.no x).map λk=>sq C (qQ G.rl k) w).sum
 nul:∀Q,OT G Q->∀x,C x []≠0->x∈Q
 le:∀x w,w.length<=3->C x w<=2^200
structure Ord(G:Gr)(C:Sy->List Sy->Nat)(ord:List Sy):Prop where
 fW:ord.Nodup
 mem:∀x,x∈ord↔x∈G.nt
 top:∀pre A post,ord=pre++A::post->∀q∈G.rl,q.1=A->∀l x r,q.2=l++x::r->x∈G.nt->x∉pre->∃y∈l++r,C y []=0
def AO(Φ:Fs)(G:Gr)(e:Ex)(C:Sy->List Sy->Nat):Prop:=∀ro st,Cl st->Wp (Φ ro 372 [jG G e] st) λr=>∃ord,r=(.aM<|ord.map<|nv G,st)/\Ord G C ord
def Sz(Φ:Fs)(G:Gr)(e:Ex):Prop:=∀ro st,Cl st->Wp (Φ ro 372 [jG G e] st) λr=>∃Q ord,r=(.aM<|ord.map<|nv G,st)/\OT G Q/\Wu G Q ord
theorem Sz.ord(h:Sz Φ G e)(w:Sem G ok C):AO Φ G e C:=λH D j=>by obtain⟨_,g,Q,ord,rfl,v,N⟩:=h H D j;exact⟨_,g,ord,Y,N.fW,N.mem,λpre A post B q X o l x r M P U=>gQ λO=>U<|N.top pre A post B q X o l x r M P λy L=>w.nul Q v y λf=>O ⟨y,L,f⟩⟩
namespace Wo
def Sp(Φ:Fs)(G:Gr)(e:Ex):Prop:=∀ro (X:C),X.G=G->X.e=e->Wp (Φ ro 406 [jG X.G X.e,gO X.G X.right,vi X.len,X.cv] X.st) λr=>∃L,r=(oq X.G L,X.st)/\TL X.len (sq (Dt X.G X.W) X.right) L
end Wo
namespace Wo
def TL.kn(h:TL m f L)(O:m<=3):L.length<=1331:=lV h.nk λp U=>aa (aG (h.wd p U).1) O
def TL.Pw(h:TL m f L)(N:m<=3)(D:∀w,w.length=m->f w<=M):r5 L<=1331*M:=by refine aa (iC L _ M λp U=>?_)<|c7 _<|h.kn N;refine J (iB _) ?_;have O:=h.wt p.1 (h.wd p U).1;simp only [Mine.Internal.wt,fB h.nk U] at O;exact J (show p.2=f p.1 from O)<|D _ (h.wd p U).1
def TL.nil:TL m (λU=>0) []:=⟨bh,(λU h=>iZ h),λU U=>rfl⟩
def TL.congr(h:TL m f L)(O:∀w,w.length=m->g w=f w):TL m g L:=⟨h.nk,h.wd,λw U=>(h.wt w U).trans (O w U).symm⟩
def xN [DecidableEq U]{L}(n:Nk L) k v(w:U):Mine.Internal.wt (kc L k v) w=Mine.Internal.wt L w+if w=k then v else 0:=by delta kc Mine.Internal.wt;exact J (pj n ..) (if c:w=k then bV (au c) (au c) (J c Y)else bV (az c) (az c) Y)
def TL.add{v}(h:TL m f L)(H:k.length=m)(N:0<v):TL m (λw=>f w+if w=k then v else 0) (kc L k v):=⟨rP h.nk ..,λp D=>(sO D).elim (h.wd p) λ⟨O,U⟩=>bV O U ⟨H,aJ N<|cJ ..⟩,λw M=>by simp only [xN h.nk,h.wt w M]⟩
def K1 [DecidableEq O]{L}{k}{v}{w:O}(n:Nk (L++[(k,v)])):Mine.Internal.wt (L++[(k,v)]) w=Mine.Internal.wt L w+if w=k then v else 0:=by delta Nk at n;rw [aR] at n;refine And.elim (λM N=>And.elim (λD U=>?_) N)<|nA n;have:=xN M k v w;rwa [kc,kb λh=>U k h k (.head _) Y,show Mine.Internal.wt L k=0 by simp only [Mine.Internal.wt];exact J (fI.mpr λh=>U k h k (.head _) Y) Y,bu] at this
end Wo
structure GA(C:Sy->List Sy->Nat)(W:NH)(P:Sy->Nat->Prop):Prop where
 nk:Nk W
 yes:∀x m,P x m->∃L,fc W (x,m)=some L/\Wo.TL m (C x) L
 no:∀x m,¬P x m->fc W (x,m)=none
def GA.tb(h:GA C W P) x m:∃f,Wo.TL m f (tF W x m)/\∀w,f w<=C x w:=by
 delta tF;by_cases c:P x m
 .obtain⟨L,e,O⟩:=h.yes x m c;exact J e ⟨_,O,λU=>aS _⟩
 .exact J (h.no x m c) ⟨_,.nil,λU=>bf _⟩
def GA.ok(h:GA C W P):Sx W:=⟨λx m=>let⟨_,t,_⟩:=h.tb x m;t.nk,λx m=>let⟨_,t,_⟩:=h.tb x m;t.wd⟩
def GA.put(h:GA C W P)(M:Wo.TL m (C x) L)(O:∀y k,N y k↔P y k\/(y,k)=(x,m)):GA C (oh W (x,m) L) N:=by
 refine⟨um h.nk ..,λy k U=>?_,λy k U=>?_⟩
 .refine J (pj h.nk ..) ?_;by_cases c:(y,k)=(x,m)
  .refine J (au c) ?_;cases c;exact⟨L,Y,M⟩
  .exact J (az c) (h.yes y k<|((O y k).mp U).resolve_right c)
 .exact J (pj h.nk ..) (J (az λc=>U<|(O y k).mpr<|.inr c)<|h.no y k λq=>U<|(O y k).mpr<|.inl q)
def GA.kn(h:GA C W P)(D:∀x m,P x m->m<=3):W.length<=40:=
 have U:∀k∈W.map (·.1),k.2<4:=λk N=>cq<|D _ _<|gQ λc=>fI.mp (h.no k.1 k.2 c) N
 BL (λk=>4*k.1.code+k.2) h.nk (λa O b M e=>
  Prod.ext (Sy.code_inj (pk (U a O) (U b M) e).1) (pk (U a O) (U b M) e).2) λa O=>Dq (U a O)<|uj _
def Pd(G:Gr)(many:Nat)(pre:List Sy)(x:Sy)(m:Nat):Prop:=x∈G.nt/\(m<many\/(m=many/\x∈pre))
def Kp(h:G.Ok)(X:Sem G (· ≠.err) C)(B:Ord G C ord)(Q:ord=pre++A::post)(L:GA C W (Pd G many pre)){q}(H:q∈G.rl)(j:q.1=A)(D:w.length=many):
  sq (Dt G W) q.2 w=sq C q.2 w:=by
 have mem:∀x∈q.2,x∉G.tm->x∈G.nt:=λx N U=>(mA<|(h.rr _ H).2.1 x N).resolve_left U;refine zd (av:=λx=>x∈G.tm\/x∈pre) (λx N v P M=>?_) (λx N O=>?_) λl x r el O=>?_
 .delta Dt;by_cases U:x∈G.tm
  .refine(au U).trans ?_;rw [X.tm x (h.PA x U),one];exact if c:v=[x]/\x≠.err then bV (au c) (au c) Y else bV (az c) (az c) Y
  .refine(az U).trans ?_;obtain⟨f,o,y⟩:=L.yes x v.length ⟨mem x N U,by
    rcases M with M|M|M
    .exact .inl (jn D M)
    .exact(U M).elim
    .exact(jJ<|D▸P).imp id λq=>⟨q,M⟩⟩
   simp only [tF];exact J o<|y.wt v Y
 .rw [not_or] at O;rw [Dt,az O.1,tF];exact J (L.no x _ λq=>q.2.elim (λq=>cu _<|D▸q) λq=>O.2 q.2) Y
 .rw [not_or] at O;exact B.top pre A post Q q H j l x r el (mem x (J el<|ar _<|.head _) O.1) O.2
namespace Tc
structure C where
 Φ:Fs
 G:Gr
 e:Ex
 N:Nat
 st:St
 len:Nat
 K:Sy->List Sy->Nat
 h:G.Ok
 hg:KS Φ G e
 hc:Cl st
 hl:len<=3
 hS:Sem G (· ≠.err) K
 hW:Wo.Sp Φ G e
def env(X:C)(ord:List Sy)(o5 o6 D N M O U:Option AV:=none):En:=[some (jG X.G X.e),some<|vi X.len,some<|.int 20000,some<|.aM<|ord.map<|nv X.G,some<|.ref X.st.length,o5,o6,D,N,M,O,U]
def bz(X:C)(W:NH)(m:St):St:=X.st++ .D (encD (k2 X.G) (oq X.G) W)::m
abbrev fd(X:C)(L:List (List Sy×Nat)):St:=[.D (encD (kW X.G) vi L)]
def mU:(bz X W m)[X.st.length]? =some (.D<|encD (k2 X.G) (oq X.G) W):=gn ..
def wa{c}:(bz X W [c])[X.st.length+1]? =c:=gx _ _ 1
def Xx:vw (bz X W<|fd X L) (.ref<|X.st.length+1)=.D (encD (kW X.G) vi L):=by simp only [bS,wa]
def wA:(bz X W [c]).set (X.st.length+1) U=bz X W [U]:=sx _ _ 1 _
def aal{c}:(bz X W [c]).length=X.st.length+2:=ae
inductive IW(X:C)(ord:List Sy)(W:NH)(many:Nat)(A:Sy)(k:Nat)(L':List (List Sy×Nat))(f:List Sy->Nat)(d:List (List Sy×Nat)):En->St->Prop
 |mk (L:List (List Sy×Nat)) (hL:Wo.TL many (λw=>f w+wt d w) L):IW X ord W many A k L' f d (env X ord (vi many) (nv X.G A) (some<|.ref<|X.st.length+1) (vi k)<|oq X.G L') (bz X W<|fd X L)
set_option tactic.hygienic true in
def TY(w:many<=3)(U:Nk M)(Q:∀p∈M,p.1.length=many/\0<p.2)(O:M=d++q::r)(y:IW X ord W many A k M f d j s):
  Wp ((fQ s (.v 10) (gO X.G q.1) j).bind λH=>cg X.Φ X.st.length X.N i V3 H s) (LQ none<|IW X ord W many A k M f<|d++[q]):=by
 induction y;rename_i L B
 have P:Nk (d++[(q.1,q.2)]):=by rw [O,ji] at U;exact U.sublist<|gC _<|List.sublist_append_left ..
 refine kp Y<|nE (dy (p9 Y (E2 Xx) (aA Y<|aA cD aV)<|Oi X.h.dN Xx) (dh Y Y<|wX X.h.dN<|fB U<|O▸ar _ (.head _)) Y) Y Y wa nU rp (J (gU _)<|aQ (B.kn w)<|bM Y) (b0 _) ?_;show Wp (cg _ _ _ _ _ _<|(bz X W<|fd X L).set (X.st.length+1)<|.D<|dput (encD (kW X.G) vi L) (kW X.G q.1)<|vi<|wt L q.1+q.2) _;simp only [jw (mv X.h.dN),wA];exact d9<|bU ⟨.inl Y,trivial,_,(B.add (Q _<|O▸ar _ (.head _)).1 (Q _<|O▸ar _ (.head _)).2).congr λo g=>by simp only [Wo.K1 P,bB]⟩
inductive IR(X:C)(ord:List Sy)(W:NH)(many:Nat)(A:Sy)(dk:List Nat):En->St->Prop
 |mk (L:List (List Sy×Nat)) (hL:Wo.TL many (λw=>(dk.map λk=>sq X.K (qQ X.G.rl k) w).sum) L):IR X ord W many A dk (env X ord (vi many) (nv X.G A)<|some<|.ref<|X.st.length+1) (bz X W<|fd X L)
def clW:Cl (bz X W<|fd X L):=by
 refine X.hc.app λc U=>?_;rcases mO U with O|U
 .exact J O (fL<|lY (λM=>rfl) W)
 .exact J (mS U) (fL<|fj ..)
def SK{k}(h:k<=4):(2^213)^k<big:=aQ (fO (bM Y) h)<|jn (Nat.pow_mul ..)<|Nat.pow_lt_pow_right (bM Y)<|bM Y
def WM:2^213<big:=by have:=SK (k:=1)<|bM Y;rwa [Nat.pow_one] at this
def WK(h:k<=4):k*(1331*2^200)<=2^213:=aa (c7 _ h)<|bM Y
set_option tactic.hygienic true in
def G1(hO:Ord X.G X.K ord)(ho:ord=pre++A::post)(hm:many<=X.len)(D:GA X.K W (Pd X.G many pre))(hk:k∈X.G.no A)(b:IR X ord W many A dk j s):
  Wp ((fQ s (.v 8) (vi k) j).bind λQ=>cg X.Φ X.st.length X.N fl J1 Q s) (LQ none<|IR X ord W many A<|dk++[k]):=by
 induction b;rename_i L hL;refine(BJ hk).elim λp n=>n.elim λo y=>?_;have M:=aN o;have O:=aa hm X.hl
 have hB:∀x,((List.range<|many+1).map λm=>r5<|tF W x m).sum<=2^213:=λx=>aa (iC _ _ (1331*2^200) λm' f=>by obtain⟨g,t,hg⟩:=D.tb x m';have:=aK<|mR f;exact t.Pw (lq [_,_] [aH aE (.c 3),aH ax aE] ax (.c 3) Y O this) λw H=>aa (hg w)<|X.hS.le x w<|lq [_,_,_] [aH aE (.c 3),aH a7 aE,.q 1 ax a7] ax (.c 3) Y O this H)<|J aO<|WK<|bq O
 obtain⟨_,l,L',rfl,P⟩:=X.hW X.st.length {Φ:=X.Φ,G:=X.G,e:=X.e,N:=X.N,st:=bz X W<|fd X L,right:=p.2,len:=many,B:=2^213,cv:=.ref X.st.length,W:=W,h:=X.h,hg:=X.hg,hc:=clW,hr:=(X.h.rr _ M).1,Vo:=(X.h.rr _ M).2.1,hl:=O,hW:=D.ok,hv:=by simp only [bS,mU],MB:=aq<|lq [_,_] [.p 1 aE (.a ax<|.s<|.s<|.c 0)] (.s ax) aE Y ae,Tn:=bM Y,Zy:=WM,hB:=λx hx u9=>hB x,Tj:=SK (X.h.rr _ M).1} rfl Y;dsimp only at l P;have U:=P.congr λw H=>(Kp X.h X.hS hO ho D M y H).symm;refine kp Y<|cb (fK (aA Y<|aA (dM (dh (dM Y oZ) Y<|qo X.h.mi o) vY)<|aA Y<|aA Y aV) l) Y<|gu Y (pF<|aa (U.kn O)<|bM Y) ⟨L,hL⟩ (λd q r j s=>TY O U.nk U.wd) λj s b=>?_;induction b;rename_i L2 i;refine d9<|bU ⟨.inl Y,trivial,L2,i.congr λw H=>?_⟩;simp only [U.wt w H,aR,fv,List.map_singleton,qQ,o];rfl
inductive IS(X:C)(ord:List Sy)(many:Nat)(pre:List Sy):En->St->Prop
 |mk (W:NH) (hT:GA X.K W (Pd X.G many pre)):IS X ord many pre (env X ord<|vi many) (bz X W [])
set_option tactic.hygienic true in
def G0(hO:Ord X.G X.K ord)(ho:ord=pre++A::post)(hm:many<=X.len)(M:IS X ord many pre Q s):
  Wp ((fQ s (.v 6) (nv X.G A) Q).bind λP=>cg X.Φ X.st.length X.N (X.st.length+1) J0 P s) (LQ none<|IS X ord many<|pre++[A]):=by
 induction M;rename_i W B;have U:=aa hm X.hl;have hA:=(hO.mem A).mp<|J ho<|ar _<|.head _;refine kp Y<|cb (by refine J n9<|J uf<|J (Option.bind_some ..)<|J ae ?_;rw [bz];exact J (aj ..) Y) Y<|gu (m7 Y Y (aA Y aV)<|X.hg.XW _ _ A<|ar _ hA) (dx<|aa sg<|aa X.h.mi<|bM Y) ⟨[],.nil⟩ (λdk k r Q s hl M=>G1 hO ho hm B (hl▸ar _ (.head _)) M) λQ s M=>?_;induction M;rename_i L j;refine jX (cp (cx (aA Y aV) (r:=(vi L.length,bz X W<|fd X L)) ?_) Y<|pX.trans<|congrArg _<|aF λh7=>tH [_] [aH ax (.c 1331),aH (.s<|.c 20000) ax] Y (j.kn U) h7)<|bU ?_
 .show Mq _ (vw ..)=_;refine J Xx ?_;show(if(encD (kW X.G) vi L).length<=lim then some (vi (encD (kW X.G) vi L).length,_)else none)=_;exact J (gU _)<|au<|dE<|lq [_] [aH ax (.c 1331)] ax (.c 2000) Y (j.kn U)
 have hb:gp (X.st.length+1) (.D<|encD (k2 X.G) (oq X.G) W)=true:=fL<|lY (λu9=>rfl) W;refine oF (ρ':=env X ord (vi many) (nv X.G A)<|oq X.G L) Y X.hc (bM Y) (by show cY _ [AC.D (encD (k2 X.G) (oq X.G) W)]=_;simp only [dq];exact J (dK hb) Y) (aD (bI Y)<|aD (bI Y)<|aD (bI Y)<|aD (bI Y)<|aD (bI<|aq<|a6 _)<|aD (bI Y)<|aD (bI Y)<|aD (O2 .refl (gx _ _ 1)<|fj ..) Y) ?_
 refine nE (kv:=k2 X.G (A,many)) (s3:=bz X W []) Y Y Y mU Y yF (J (gU _)<|aQ (B.kn λx m h=>h.2.elim (λq=>(lq [_,_] [aH aE (.c 3),aH (.s ax) aE] ax (.c 3) Y U q)) λq=>(lq [_,_] [aH aE (.c 3),.q 1 ax aE] ax (.c 3) Y U q.1))<|bM Y) .refl ?_;rw [oq,show AV.bK (encD (kW X.G) vi L)=oq X.G L from Y,jw<|B2 X.h.dN,bz];refine J (rW ..)<|d9<|bU ⟨.inl Y,trivial,_,B.put (j.congr λw u9=>X.hS.nt A hA w) λy k=>?_⟩;delta Pd;rw [fZ,eU];constructor
 .rintro⟨H,O|⟨O,h3|h3⟩⟩
  .exact .inl ⟨H,.inl O⟩
  .exact .inl ⟨H,.inr ⟨O,h3⟩⟩
  .exact .inr (bV O h3 Y)
 .rintro(⟨H,O⟩|h)
  .exact⟨H,O.imp id λq=>⟨q.1,.inl q.2⟩⟩
  .cases h;exact⟨hA,.inr ⟨Y,.inr Y⟩⟩
set_option tactic.hygienic true in
def ok(X:C)(B:AO X.Φ X.G X.e X.K){ro}:Wp (kC X.Φ ro X.N p4 [jG X.G X.e,vi X.len] X.st) λr=>∃T:Nat->List (List Sy×Nat),r=(.aM<|(List.range<|X.len+1).map λm=>oq X.G<|T m,X.st)/\∀m,m<=X.len->Wo.TL m (X.K .s) (T m):=by
 refine gT Y ?_;obtain⟨_,e1,ord,rfl,B⟩:=B X.st.length X.st X.hc;have U:∀ro s,dR ro s (.sS 0 ((X.len+1:Nat):Int))=some ((List.range<|X.len+1).map vi,none):=λro s=>oN<|lq [_] [aH ax (.c 3)] ax (.c 2000) Y X.hl;refine cb (fK (aA Y aV) e1) Y<|cb (ρ':=env X ord) (by simp only [n9];rfl) Y<|gu (I:=λd P s=>∃W,GA X.K W (Pd X.G d.length [])/\P=env X ord/\s=bz X W []) (cx (aA (dy Y Y il) aV)<|nX<|lq [_] [aH ax (.c 3)] (.s ax) (.c 1000) Y X.hl) (U ..) ⟨[],⟨bh,λM M h=>h.2.elim n0 λh=>iZ h.2,λM M M=>rfl⟩,Y,Y⟩ (λd many r P s hd H=>?_) λP s H=>?_
 .obtain⟨W,j,v,rfl⟩:=H;refine J v ?_;obtain⟨v,w⟩:=kZ hd;refine J v<|kp Y<|gu Y (dx<|lq [_] [aH ax (.c 10)] ax (.c 2000) Y (gE B.fW)) ⟨W,j⟩ (λpre A post P s ho H=>J ae<|G0 B ho (aK w) H) λP s H=>?_;induction H;rename_i W2 D;refine d9 (bU ⟨.inl Y,trivial,W2,⟨D.nk,λx m h=>D.yes x m ?_,λx m h=>D.no x m λq=>h ?_⟩,Y,Y⟩)<;>rw [ae,dG] at*
  .refine⟨h.1,(jJ<|aK<|h.2.resolve_right λq=>nomatch q.2).imp id λq=>⟨q,(B.mem x).mpr h.1⟩⟩
  .exact⟨q.1,.inl<|q.2.elim fT λq=>jn q.1<|a6 _⟩
 .obtain⟨W,j,rfl,rfl⟩:=H;rw [aO] at j;obtain⟨rs,Ac,_⟩:=X.h.rl;have O:∀m,m<=X.len->∃L,fc W (.s,m)=some L/\Wo.TL m (X.K .s) L:=λm Q=>j.yes .s m ⟨(X.h.jF.mpr<|by decide),.inl<|cq Q⟩;refine cb (dh (dM (dh (dM Y oZ) cD<|qo X.h.mi<|J Ac Y) vY) cD Y) Y (jo ((oo (cx (aA (dy Y Y il) aV)<|nX<|lq [_] [aH ax (.c 3)] (.s ax) (.c 1000) Y X.hl) (U ..) (J aO<|lq [_] [aH ax (.c 3)] (.s ax) (.c 2000) Y X.hl) (λM=>trivial) λm Q ys=>⟨Y,?_⟩).trans (by rw [bz];exact bV (aj ..) ae Y)) (iQ (b0 _) (gx _ _ 1)<|bT λM M=>rfl) ⟨tF W .s,Y,λm Q=>?_⟩)
  .refine(O m<|aK<|mR Q).elim λL q9=>q9.elim λe2 _=>dh (y:=.aL [nv X.G .s,vi m]) Y Y ?_;rw [subQ,bS,bz,aj,fa,gn];show(if ed (k2 X.G (.s,m)) (encD (k2 X.G) (oq X.G) W)then fP (encD (k2 X.G) (oq X.G) W) (k2 X.G (.s,m))else none)=_;refine J (au yF) ?_;rw [f9 (B2 X.h.dN),tF,e2];rfl
  .obtain⟨L,e2,h⟩:=O m Q;rw [tF,e2];exact h
end Tc
def Nb L(a b c:Nat):fP (encD k3 vi L) (.t [.int a,.int b,.int c])=(fc L (a,b,c)).map vi:=f9 su L (a,b,c)
def mx f(L:List ((Nat×Nat×Nat)×U)) l:ed (.t l) (encD k3 f L)=true:=by have:=l6 (kf:=k3) (vf:=f) (λa b=>rfl) L (0,0,0);exact this
def Kw(word:List Nat)(e:Nat)(cnt:List ((Nat×Nat×Nat)×Nat))(x i j:Nat):Nat:=(if i<e/\word[i]? =some x/\j=i+1 then 1 else 0)+wt cnt (x,i,j)
def Rg(b e:Nat)(L:List (Nat×Nat)):Prop:=Nk L/\∀p∈L,b<=p.1/\p.1<=e
def Rg.len{b e}{L}(h:Rg b e L):L.length<=e+1:=by refine jn (ag (f:=λp:Nat×Nat=>p.1))<|pB h.1 λx U=>?_;obtain⟨p,O,M⟩:=mM U;refine jn M ?_;have:=h.2 p O;exact lq [_,_] [aH ax aE] (.s ax) (.s aE) Y this.2
def Rg.add(h:Rg b e L)(P:b<=k)(H:k<=e):Rg b e (kc L k v):=by
 refine⟨rP h.1 ..,λp D=>?_⟩;have:p.1∈(kc L k v).map (·.1):=GL ⟨p,D,Y⟩;delta kc at this;rw [sM] at this
 have U:p.1∈L.map (·.1)\/p.1=k:=by
  split at this
  .exact .inl this
  .exact(mA this).elim (.inl) λq=>.inr<|mS q
 rcases U with q|q
 .refine(mM q).elim λN M=>M.elim λO Q=>?_;exact jn Q<|h.2 N O
 .exact J q ⟨P,H⟩
def OW(L:List (Nat×Nat))(f:(Nat->Nat)->Nat):Prop:=∀F,lR L F=f F
def P6 L(k c:Nat):dput (encD ki vi L) (.i k) (.int<|(wt L k)+c)=encD ki vi (kc L k c):=M8 L k _
def I9 L(k:Nat):(fP (encD ki vi L)<|.i k).getD (.int 0)=.int (wt L k):=J (Ej ..)<|ud _
def Ja L(a b c:Nat):(fP (encD k3 vi L)<|.t [.int a,.int b,.int c]).getD (.int 0)=.int (wt L (a,b,c)):=J (Nb ..)<|ud _
def GW done(i c e) word cnt x(F:Nat->Nat)(N:e<=word.length):
  lR (done++[(i,c)]) (λi=>gk i e λg=>Kw word e cnt x i g*F g)=(lR done (λi=>gk i e λg=>Kw word e cnt x i g*F g)+c*(if i<e/\word[i]? =x then F (i+1)else 0))+c*((List.range<|e+1-i).map λk=>wt cnt (x,i,i+k)*F (i+k)).sum:=by
 simp only [yu,i0,bB,<-gy];have:gk i e (λg=>Kw word e cnt x i g*F g)=gk i e (λg=>(if i<e/\word[i]? =x/\g=i+1 then 1 else 0)*F g)+gk i e (λg=>wt cnt (x,i,g)*F g):=jn (uF ..) (dQ λk O O=>by delta Kw;simp only [Nat.add_mul]);refine J this ?_
 have:gk i e (λg=>(if i<e/\word[i]? =x/\g=i+1 then 1 else 0)*F g)=if i<e/\word[i]? =x then F (i+1)else 0:=by
  by_cases U:i<e/\word[i]? =x
  .rw [nB (aw i 1) (by exact lq [_,_] [aH (.s ax) aE] (.s ax) aE Y U.1)]
   .simp [U]
   .intro k _ _ M;simp [M]
  .rw [az U,ja];refine λk O O=>J (az λq=>U ⟨q.1,q.2.1⟩) ?_;simp
 exact J this Y
namespace Wa
structure C where
 Φ:Fs
 N:Nat
 st:St
 right:List Nat
 word:List Nat
 b:Nat
 e:Nat
 B:Nat
 cv:AV
 cnt:List ((Nat×Nat×Nat)×Nat)
 hc:Cl st
 hv:vw st cv=.D (encD k3 vi cnt)
 MB:below st.length cv=true
 Th:b<=e
 hw:e<=word.length
 vr:word.length<=1000
 Ac:right.length<=1000
 Tn:1<=B
 hB:∀x∈right,∀i,b<=i->i<=e->gk i e (Kw word e cnt x i)<=B
 Tj:B^right.length<big
def C.K(X:C):Nat->Nat->Nat->Nat:=Kw X.word X.e X.cnt
def env(X:C)(rc:List (Nat×Nat))(x lt sp gl mn:Option AV:=none):En:=[some (.aL<|li X.right),some<|.aM<|li X.word,some<|vi X.b,some<|vi X.e,some X.cv,some<|.bK<|encD ki vi rc,x,lt,sp,gl,mn]
def bz(X:C)(L:List (Nat×Nat)):St:=X.st++[.D (encD ki vi L)]
def R(X:C)(L:List (Nat×Nat)):Prop:=Rg X.b X.e L
def Jzq(X:C)(rc:List (Nat×Nat))(x:Nat)(sp:Option AV)(f:(Nat->Nat)->Nat)(U:En)(s:St):Prop:=∃L,s=bz X L/\U=env X rc (vi x) (some<|.ref X.st.length) sp/\R X L/\OW L f
def F2(X:C)(x:Nat)(d:List (Nat×Nat))(F:Nat->Nat):Nat:=lR d λi=>gk i X.e λg=>X.K x i g*F g
def F3(X:C)(x:Nat)(d:List (Nat×Nat))(i c:Nat)(F:Nat->Nat):Nat:=F2 X x d F+c*(if i<X.e/\X.word[i]? =some x then F (i+1)else 0)
def F4(X:C)(x:Nat)(d:List (Nat×Nat))(i c:Nat)(r:List Nat)(F:Nat->Nat):Nat:=F3 X x d i c F+c*(r.map λk=>wt X.cnt (x,i,i+k)*F (i+k)).sum
def I1(X:C)(d:List Nat)(U:En)(s:St):Prop:=∃rc r,X.right=d++r/\s=X.st/\U=env X rc/\R X rc/\lR rc (λi=>mX X.K r i X.e)=mX X.K X.right X.b X.e/\lR rc (λO=>X.B^r.length)<=X.B^X.right.length
section
variable{X:C}{c:Nat}
abbrev W(X:C)(O:Nat)(U:List S)(ρ:En)(s:St)(Q:Out×En×St->Prop):Prop:=Wp (cg X.Φ X.st.length X.N O U ρ s) Q
abbrev V(X:C)(e:E)(ρ:En)(s:St)(r:AV×St):Prop:=bZ X.Φ X.st.length e ρ s=some r
def xV:(bz X L)[X.st.length]? =some (.D<|encD ki vi L):=gn ..
def oK(h:R X L):(encD ki vi L).length<lim:=by refine J (gU _) ?_;have:=Rg.len h;have:=X.vr;have:=X.hw;delta lim;exact lq [_,_,_] [aH ax (.s aE),aH a7<|.c 1000,aH aE a7] (.s ax) (.c 1000000) Y (by assumption) (by assumption) this
def gt L j:mP X.st.length (bz X L) .get (.ref X.st.length) [vi j,.int 0]=(vi<|wt L j,bz X L):=by show(match vw (bz X L) (.ref X.st.length)with| .D es=>(l9<|vi j).bind λk=>if ed k es then some ((fP es k).getD<|.int 0,bz X L)else none|_=>none)=_;exact J bS<|J xV<|(au<|k9 vi L j).trans<|J (I9 ..) Y
def rcv L:hY (bz X L) .get (.ref X.st.length)=true:=by delta hY;exact J bS<|J xV Y
def si{a b}(O:a<big)(U:b<big):mT s .mul (vi a) (vi b)=(vi<|a*b,s):=by show(if uZ a (b:Int)then some (AV.int<|(a:Int)*(b:Int),s)else none)=_;refine(au<|xc O U).trans ?_;simp only [vi,Int.natCast_mul]
def put(P:R X L)(B:U[7]? =some (some<|.ref X.st.length))(M:V X ke U (bz X L) (vi j,bz X L))(H:V X N U (bz X L) (vi v,bz X L))(k:W X A D U (bz X<|kc L j v) Q):
  W X A (.aU (.sub (.af 7) ke) (.b6 .add (.bR (.af 7) .get [ke,.aI (.int 0)]) N)::D) U (bz X L) Q:=by
 have O:V X (.af 7) U (bz X L) (.ref X.st.length,bz X L):=by show bZ _ _ _ _ _=_;exact J j9<|J B Y
 exact nE (dy (p9 O (rcv L) (aA M<|aA cD aV)<|gt L j) H Y) O M xV Y (k9 vi L j) (oK P) .refl<|J (P6 ..)<|J (rW ..) k
def N1(h:fc rc i=c)(U:R X rc) s:subQ s (.bK<|encD ki vi rc) (vi i)=(vi c):=by show(if ed (.i i) (encD ki vi rc)then fP (encD ki vi rc) (.i i)else none)=_;exact J (au<|k9 vi rc i)<|J (Ej ..)<|J h Y
def s1(w:i<=X.e)(v:X.b<=i)(D:fc rc i=c)(j:R X rc)(h:Jzq X rc x (vi i) (F2 X x d) ρ s)(H:g=.jt (.and [.bk .lt (.af 8) (.af 3),.bk .eq (.sub (.af 1)<|.af 8) (.af 6)]) [.aU (.sub (.af 7)<|.b6 .add (.af 8)<|.aI<|.int 1) (.b6 .add (.bR (.af 7) .get [.b6 .add (.af 8) (.aI<|.int 1),.aI (.int 0)])<|.sub (.af 5)<|.af 8)] [])
  (k:∀ρ s,Jzq X rc x (vi i) (F3 X x d i c) ρ s->W X fl A ρ s Q):W X fl (g::A) ρ s Q:=by
 refine J H ?_;obtain⟨L,o,f,M,P⟩:=h;subst f;refine J o ?_;have O:∀s,jc s .lt (vi i) (vi X.e)=(decide<|i<X.e):=λs=>by show some (decide<|(i:Int)<X.e)=_;exact congrArg _<|dD Int.ofNat_lt
 by_cases N:i<X.e
 .obtain⟨y,hy⟩:∃y,X.word[i]? =some y:=⟨_,aW<|aJ N X.hw⟩
  have U:∀s,subQ s (.aM<|li X.word) (vi i)=(vi y):=λs=>by show(if nI i then(li X.word)[i]? else none)=_;refine J (au<|m4 (by have:=X.vr;have:=X.hw;exact lq [_,_,_] [aH ax aE,aH a7<|.c 1000,aH aE a7] ax (.c 1000000) Y w (by assumption) this)) ?_;refine J cE ?_;exact J hy Y
  refine jX (nP (cp Y Y<|(O _).trans<|congrArg _<|aq N)<|cp (dh Y Y<|U _) Y rF) ?_;by_cases B:y=x
  .subst B;refine J (aq Y)<|put M Y Y (dh Y Y<|N1 D j _)<|bU<|k _ _ ⟨_,Y,Y,Rg.add M (lq [_,_] [aH ax aE] ax (.s aE) Y v)<|by assumption,λF=>?_⟩;refine J (t6 M.1 ..)<|J (P F) ?_;rw [F3,au ⟨N,hy⟩]
  .refine J (aF λq=>B<|Int.ofNat_inj.mp q) (bU<|k _ _ ⟨_,Y,Y,M,λF=>?_⟩);refine(P F).trans ?_;rw [F3];exact J (az λq=>B<|ak<|hy.symm.trans q.2) Y
 .refine jX (lB<|cp Y Y<|(O _).trans<|congrArg _<|aF N) (bU<|k _ _ ⟨_,Y,Y,M,λF=>?_⟩);refine(P F).trans ?_;rw [F3];exact J (az λq=>N q.1) Y
def s2(B:x∈X.right)(v:i<=X.e)(j:X.b<=i)(H:fc rc i=c)(q:R X rc)(Q:c<big)(A:i+k<=X.e)(h:Jzq X rc x (vi i) (F4 X x d i c dk) ρ s):
  W X g OF (ρ.set 9<|vi<|i+k) s (LQ none<|Jzq X rc x (vi i)<|F4 X x d i c<|dk++[k]):=by
 obtain⟨L,rfl,rfl,O,w⟩:=h
 have y:mP X.st.length (bz X L) .get X.cv [.aL [vi x,vi i,vi (i+k)],.int 0]=(vi<|wt X.cnt (x,i,i+k),bz X L):=by show(match vw (bz X L) X.cv with| .D es=>(l9<|.aL [vi x,vi i,vi (i+k)]).bind λk=>if ed k es then some ((fP es k).getD<|.int 0,bz X L)else none|_=>none)=_;simp only [bz,ur X.MB,X.hv];exact(au<|mx vi X.cnt _).trans (J (Ja ..) Y)
 have N:hY (bz X L) .get X.cv=true:=by delta hY;simp only [bz,ur X.MB,X.hv];rfl
 refine cb (p9 Y N Y y) Y ?_
 have fin:∀{L:List (Nat×Nat)} {mn:Option AV},R X L->OW L (F4 X x d i c<|dk++[k])->W X g [.jU [9,10]] (env X rc (vi x) (some<|.ref X.st.length) (vi i) (vi<|i+k) mn) (bz X L) (LQ none<|Jzq X rc x (vi i)<|F4 X x d i c<|dk++[k]):=
  λf o=>d9<|bU ⟨.inl Y,trivial,_,Y,Y,f,o⟩
 have U:∀F,F4 X x d i c (dk++[k]) F=F4 X x d i c dk F+c*(wt X.cnt (x,i,i+k)*F (i+k)):=λF=>by simp [F4,gy,bB]
 have P:∀s,jc s .gt (vi<|wt X.cnt (x,i,i+k)) (.int 0)=(decide<|0<wt X.cnt (x,i,i+k)):=λs=>congrArg _<|dD Int.natCast_pos;refine jX (cp Y Y<|P _) ?_;by_cases M:0<wt X.cnt (x,i,i+k)
 .refine J (aq M) (put O Y Y (dy (dh Y Y<|N1 H q _) Y<|si Q<|aQ (aa (cJ ..)<|aa (LD (aw i k) A<|Kw X.word X.e X.cnt x i)<|aa (X.hB x B i j v)<|Nat.le_self_pow (Nat.pos_iff_ne_zero.mp<|List.length_pos_of_mem B) _) X.Tj)<|bU<|fin (Rg.add O (aa j<|aw i k) A) λF=>?_);simp only [t6 O.1,w F,U F,Nat.mul_assoc]
 .refine J (aF M) (bU<|fin O λF=>?_);simp only [w F,U F,Nat.eq_zero_of_not_pos M,cA,Nat.mul_zero,eR]
def J2(X:C)(rc:List (Nat×Nat))(x:Nat)(d:List (Nat×Nat)):En->St->Prop:=Jzq X rc x none<|F2 X x d
def rgi(O:i<=X.e) s U:dR U s (.sS i ((X.e+1:Nat):Int))=some ((List.range<|X.e+1-i).map λk=>vi<|i+k,none):=by
 have:=X.vr;have:=X.hw
 show(if iG (i:Int)&&iG ((X.e+1:Nat):Int)then some (qR i ((X.e+1:Nat):Int),none)else none)=_;exact J (fE<|lq [_,_,_] [aH ax aE,aH a7<|.c 1000,aH aE a7] ax (.c 1000000) Y O (by assumption) this)<|bV (fE<|lq [_,_] [aH aE (.c 1000),aH ax aE] (.s ax) (.c 1000000) Y (by assumption) this) (oB ..) Y
def s3(y:x∈X.right)(B:∀p∈rc,p.2<big)(H:R X rc)(o:rc=d++p::q)(h:J2 X rc x d D s):
  W X t OG (D.set 8<|vi p.1) s (LQ none<|J2 X rc x<|d++[p]):=by
 have P:=o▸ar _ (.head _);refine(H.2 _ P).elim λv N=>?_;have M:=fB H.1 P;obtain⟨L,rfl,rfl,g,r⟩:=h;refine s1 N v M H ⟨L,Y,Y,g,r⟩ Y λD s h=>?_;obtain⟨b,rfl,i,A,j⟩:=h;subst i;refine gu (I:=λdk=>Jzq X rc x (vi p.1)<|F4 X x d p.1 p.2 dk) (cx (aA Y<|aA (dy Y Y Y) aV) (by
   have:=X.vr;have:=X.hw
   show(if iG (p.fst:Int)&&iG ((X.e+1:Nat):Int)then _ else _)=_;exact bV (fE<|lq [_,_,_] [aH ax aE,aH a7<|.c 1000,aH aE a7] ax (.c 1000000) Y N (by assumption) this) (fE<|lq [_,_] [aH aE (.c 1000),aH ax aE] (.s ax) (.c 1000000) Y (by assumption) this) Y)) (rgi N ..) ⟨b,Y,Y,A,λF=>(j F).trans (eR _).symm⟩ (λdk k rest D s f h=>?_) λD s h=>?_
 .have Q:=mR<|J f<|ar _<|.head _;obtain⟨w,rfl,rfl,U,O⟩:=h;exact s2 y N v M H (B _ P) (lq [_,_,_,_] [aH (.s aE) cz,aH (.a cz ax) (.s a7)] (.a ax aE) a7 Y Q (aG<|a9<|lq [_,_] [aH ax aE] ax (.s aE) Y N)) ⟨w,Y,Y,U,O⟩
 .obtain⟨w,rfl,rfl,U,O⟩:=h;refine d9<|bU ⟨.inl Y,trivial,w,Y,Y,U,λF=>(O F).trans ?_⟩;exact(GW d p.1 p.2 X.e X.word X.cnt x F X.hw).symm
def zs U(h:lx s X.st.length U=some (some<|.bK O)):cY (lx s X.st.length) [some (.aL<|li X.right),some<|.aM<|li X.word,some<|vi X.b,some<|vi X.e,some X.cv,U,none,none,none,none,none]=some [some (.aL<|li X.right),some<|.aM<|li X.word,some<|vi X.b,some<|vi X.e,some X.cv,some<|.bK O,none,none,none,none,none]:=
 aD (bI<|Fq ..) (aD (bI Y)<|aD (bI Y)<|aD (bI Y)<|aD (bI X.MB)<|aD h Y)
def s4{d r}(O:X.right=d++x::r)(h:I1 X d H s):W X X.st.length OH (H.set 6<|vi x) s (LQ none<|I1 X<|d++[x]):=by
 obtain⟨rc,v,P,rfl,e9,U,A,M⟩:=h;subst e9;obtain rfl:v=x::r:=fb<|P.symm.trans O;have j:=O▸ar _ (.head _);refine cb Y Y<|gu (l:=rc) (enc:=λp:Nat×Nat=>vi p.1) (gd:=none) (I:=J2 X rc x) Y ?_ ⟨[],Y,Y,⟨bh,(λw h=>iZ h)⟩,λF=>rfl⟩ (λd p q H s O h=>?_) λH s h=>?_
 .show(if(encD ki vi rc).length<=lim then some ((encD ki vi rc).map λe=>e.1.av,none)else none)=_;exact J (au<|bx<|oK U)<|J bJ Y
 .obtain⟨L,rfl,rfl,Q,A⟩:=h;exact s3 j (λp D=>aQ (aa (Nat.le_mul_of_pos_right _<|Nat.one_le_pow _ _ X.Tn)<|aa (BW D λw=>X.B^(x::r).length) M) X.Tj) U O ⟨L,Y,Y,Q,A⟩
 .obtain⟨L,rfl,rfl,Q,N⟩:=h;refine cb Y Y<|lj X.hc (ρ':=env X L) (zs _<|O2 .refl (gn ..)<|fj ..)<|bU ⟨.inl Y,trivial,L,r,bV O (aj ..) Y,Y,Y,Q,(N _).trans A,?_⟩;refine J (N _)<|aa ?_ M;refine md _ _ _ λp D=>cI _ ?_;dsimp only;have:(λg=>X.K x p.1 g*X.B^r.length)=λg=>X.B^r.length*X.K x p.1 g:=funext λg=>gY ..;exact J this<|J (uE ..)<|cI _<|X.hB x j _ (U.2 p D).1 (U.2 p D).2
def ok(X:C):Wp (kC X.Φ ro X.N Jq [.aL (li X.right),.aM<|li X.word,vi X.b,vi X.e,X.cv] X.st) λr=>r=(vi<|mX (Kw X.word X.e X.cnt) X.right X.b X.e,X.st):=by
 refine gT Y<|cb Y Y<|lj X.hc (ρ':=env X [(X.b,1)]) (zs _<|O2 .refl (gn ..) Y)<|gu (l:=X.right) (enc:=vi) (gd:=none) (I:=I1 X) Y ?_ ⟨[(X.b,1)],X.right,Y,Y,Y,⟨by simp [Nk],λp H=>mS H▸⟨aS _,X.Th⟩⟩,by simp [lR],by simp [lR]⟩ (λd x r D s L h=>?_) λD s h=>?_
 .exact gF (aa X.Ac<|bM Y)
 .obtain⟨rc,O,U,rfl,rfl,h⟩:=h;exact s4 L ⟨rc,O,U,Y,Y,h⟩
 .obtain⟨rc,O,U,rfl,rfl,M,A,Q⟩:=h;obtain rfl:O=[]:=fb (U.symm.trans (aC _).symm)
  have P:mP X.st.length X.st .get (.bK<|encD ki vi rc) [vi X.e,.int 0]=(vi<|wt rc X.e,X.st):=by show(if ed (.i X.e) (encD ki vi rc)then some ((fP (encD ki vi rc)<|.i X.e).getD<|.int 0,X.st)else none)=_;exact J (au<|k9 vi rc X.e)<|J (I9 ..) Y
  refine mj (p9 Y Y Y P) Y<|jn A ?_;rw [DO M.1 X.e]
  .exact congrArg (λn=>(vi n,X.st)) ((congrArg (wt rc X.e* ·)<|au Y).trans<|iB _).symm
  .exact λa B=>az B
end
end Wa
def mH{Φ}{ro}{O}{M s1}{N}{U}(h:gP Φ ro N O M=(U,s1))(D:U.length<=lim):bZ Φ ro (.aL N) O M=some (.aL U,s1):=J sF<|J h<|J (Option.bind_some ..)<|au D
abbrev Ky(G:Gr)(x:Sy)(i m:Nat):Nat×Nat×Nat:=(G.num x,i,i+m)
structure Ch{β:Type}(G:Gr)(Yzq:Sy->Nat->Nat->Option β->Prop)(L:List ((Nat×Nat×Nat)×β))(P:Sy->Nat->Nat->Prop):Prop where
 nk:Nk L
 yes:∀x i m,P x i m->Yzq x i m (fc L<|Ky G x i m)
 no:∀k∈L.map (·.1),∃x i m,P x i m/\k=Ky G x i m
section
variable{v:β}
def Kn(U:G.cK.length<=10){y}(h:Ky G x i m=Ky G y k l):x=y/\i=k/\m=l:=by injection h with h1 h;injection h with h2 h3;subst h2;exact⟨Gr.mZ U h1,Y,hX h3⟩
def Ch.zero(O:G.cK.length<=10)(h:Ch G Yzq L P)(U:¬P x i m):fc L (Ky G x i m)=none:=fI.mpr λM=>by obtain⟨y,k,l,D,N⟩:=h.no _ M;obtain⟨rfl,rfl,rfl⟩:=Kn O N;exact U D
def Ch.put(X:G.cK.length<=10)(h:Ch G Yzq L P)(N:Yzq x i m v)(M:∀y k l,P' y k l↔P y k l\/(y=x/\k=i/\l=m)):Ch G Yzq (oh L (Ky G x i m) v) P':=by
 refine⟨um h.nk ..,λy k l Q=>?_,λk O=>?_⟩
 .refine J (pj h.nk ..) ?_;by_cases c:Ky G y k l=Ky G x i m
  .refine J (au c) ?_;obtain⟨j,w,rfl⟩:=Kn X c;exact bV w j N
  .clear N;refine J (az c)<|h.yes y k l<|((M y k l).mp Q).resolve_right ?_;rintro⟨rfl,rfl,rfl⟩;exact c Y
 .rw [sM] at O
  have:k∈L.map (·.1)\/k=Ky G x i m:=by
   split at O
   .exact .inl O
   .exact(mA O).imp id mS
  rcases this with q|q
  .exact(h.no k q).elim λy U=>U.elim λH U=>U.elim λD U=>U.elim λA B=>⟨y,H,D,(M ..).mpr<|.inl A,B⟩
  .exact⟨x,i,m,(M ..).mpr<|.inr ⟨Y,Y,Y⟩,q⟩
def Ch.skip(H:G.cK.length<=10)(h:Ch G Yzq L P)(N:Yzq x i m none)(U:∀y k l,A y k l↔P y k l\/(y=x/\k=i/\l=m)):Ch G Yzq L A:=by
 refine⟨h.nk,λy k l D=>?_,λk Q=>by obtain⟨y,M,O,B,X⟩:=h.no k Q;exact⟨y,M,O,(U ..).mpr<|.inl B,X⟩⟩;by_cases c:P y k l
 .exact h.yes y k l c
 .obtain⟨rfl,rfl,rfl⟩:=((U y k l).mp D).resolve_left c;exact J (h.zero H c) N
def Ch.same(h:Ch G Yzq L P)(U:∀y k l,X y k l↔P y k l):Ch G Yzq L X:=⟨h.nk,λy k l N=>h.yes y k l<|(U ..).mp N,λk D=>by obtain⟨y,M,O,Q,H⟩:=h.no k D;exact⟨y,M,O,(U ..).mpr Q,H⟩⟩
def Ch.nil:Ch G Yzq [] λU U U=>False:=⟨bh,λU U U h=>h.elim,(λU=>iZ)⟩
def Pc(G:Gr)(w:List Sy)(len b:Nat)(pre:List Sy)(x:Sy)(i m:Nat):Prop:=x∈G.nt/\i+m<=w.length/\(m<len\/(m=len/\(i<b\/(i=b/\x∈pre))))
def Ch.kn(H:G.cK.length<=10)(D:w.length<=3)(h:Ch G Yzq L (Pc G w len b pre)):L.length<=160:=
 have U:∀k∈L.map (·.1),k.1<10/\k.2.1<4/\k.2.2<4:=λk P=>
  by obtain⟨_,_,_,⟨Q,N,_⟩,e⟩:=h.no _ P;exact have N:=cq<|aa N D
  e▸⟨aJ (Gr.jE<|ar G.tm Q) H,aQ (aw ..) N,N⟩
 BL (λk=>4*(4*k.1+k.2.1)+k.2.2) h.nk (λa O b M e=>
  Prod.ext (pk (U a O).2.1 (U b M).2.1 (pk (U a O).2.2 (U b M).2.2 e).1).1 (Prod.ext (pk (U a O).2.1 (U b M).2.1 (pk (U a O).2.2 (U b M).2.2 e).1).2 (pk (U a O).2.2 (U b M).2.2 e).2)) λa O=>Dq (U a O).2.2<|Dq (U a O).2.1 (U a O).1
def uo(L:A∈G.nt)(H:b+len<=w.length) y(k l):Pc G w len b (pre++[A]) y k l↔Pc G w len b pre y k l\/(y=A/\k=b/\l=len):=by
 delta Pc;rw [fZ,eU];constructor
 .rintro⟨M,O,U|⟨U,N|⟨N,D|D⟩⟩⟩
  .exact .inl ⟨M,O,.inl U⟩
  .exact .inl ⟨M,O,.inr ⟨U,.inl N⟩⟩
  .exact .inl ⟨M,O,.inr ⟨U,.inr ⟨N,D⟩⟩⟩
  .exact .inr ⟨D,N,U⟩
 .rintro(⟨M,O,U⟩|⟨rfl,rfl,rfl⟩)
  .exact⟨M,O,U.imp id λq=>⟨q.1,q.2.imp id λq=>⟨q.1,.inl q.2⟩⟩⟩
  .exact⟨L,H,.inr ⟨Y,.inr ⟨Y,.inr Y⟩⟩⟩
def Km(H:∀x,x∈ord↔x∈G.nt) y(k l):Pc G w len (b+1) [] y k l↔Pc G w len b ord y k l:=
 ⟨λO=>by refine And.elim (λU M=>And.elim (λD N=>?_) M) O;exact⟨U,D,N.imp id λq=>⟨q.1,(jJ<|aK<|q.2.resolve_right λq=>iZ q.2).imp id λe=>⟨e,(H y).mpr U⟩⟩⟩,
  λO=>by refine And.elim (λU M=>And.elim (λD N=>?_) M) O;exact⟨U,D,N.imp id λq=>⟨q.1,.inl<|q.2.elim fT λq=>jn q.1<|a6 _⟩⟩⟩
def Kl(L:len<=w.length) y(k l):Pc G w (len+1) 0 [] y k l↔Pc G w len (w.length+1-len) [] y k l:=
 ⟨λO=>O.elim λN D=>D.elim λU M=>⟨N,U,(jJ<|aK<|M.resolve_right λq=>q.2.elim n0 λq=>iZ q.2).imp id λe=>⟨e,.inl<|jn e<|lq [_,_,_,_] [aH (.a ax a7) cz,aH (.s cz) (.a aE a7)] (.s ax) aE Y U (wB ..)⟩⟩,
  λO=>by refine And.elim (λN H=>And.elim (λU M=>?_) H) O;exact⟨N,U,.inl<|M.elim fT λq=>jn q.1<|a6 _⟩⟩
def AQ y(k l):Pc G w 0 0 [] y k l↔False:=⟨λU=>by refine And.elim (λO M=>And.elim (λO h=>?_) M) U;exact h.elim nofun λq=>q.2.elim n0 λq=>iZ q.2,False.elim⟩
end
noncomputable def Da(G:Gr)(C:Sy->List Sy->Nat)(len:Nat)(pre:List Sy)(x:Sy)(v:List Sy):Nat:=if x∈G.tm then(if v=[x] then 1 else 0)else if v.length<len\/x∈pre then C x v else 0
def O0(h:G.Ok)(P:Sem G (λB=>True) C)(Q:Ord G C ord)(H:ord=pre++A::post){q}(N:q∈G.rl)(X:q.1=A)(D:v.length=len):
  sq (Da G C len pre) q.2 v=sq C q.2 v:=by
 subst D;refine zd (av:=λx=>x∈G.tm\/x∈pre) (λx M u j L=>?_) (λx M U=>?_) λl x r el U=>?_
 .delta Da;by_cases O:x∈G.tm
  .rw [au O,P.tm x<|h.PA x O,one];exact if c:u=[x] then J (au c) (J (au ⟨c,trivial⟩) Y)else J (az c) (J (az λq=>c q.1) Y)
  .exact J (az O) (au<|L.imp id λq=>q.resolve_left O)
 .rw [not_or] at U;rw [Da,az U.1,az λq=>q.elim (cu _) U.2]
 .rw [not_or] at U;exact Q.top pre A post H q N X l x r el ((λx M O=>(mA<|(h.rr _ N).2.1 x M).resolve_left O) x (J el<|ar _<|.head _) U.1) U.2
def Dg(h:i+m<=w.length):sl w i (i+m)=[x]↔w[i]? =some x/\m=1:=by
 constructor
 .intro q;have U:=congrArg List.length q;simp only [fD (aw ..) h,bY,dG] at U;subst U;replace q:=(Bo<|aW h).symm.trans q;injection q with q;exact⟨jn q<|aW h,Y⟩
 .rintro⟨q,O⟩;exact J O<|Bo q
def yY(N:x∈G.nt)(O:b<=i)(U:i+m<=b+len)(M:b+len<=w.length):Pc G w len b pre x i m↔((sl w i<|i+m).length<len\/x∈pre):=by
 refine J (fD (aw ..)<|aa U M)<|J (bY ..) ?_;constructor
 .rintro⟨_,_,q|⟨rfl,q|q⟩⟩
  .exact .inl q
  .exact absurd O (Nat.not_le.mpr q)
  .exact .inr q.2
 .refine λq=>⟨N,aa U M,?_⟩;exact if c:m<len then .inl c else .inr ⟨(bH (lq [_,_,_,_] [aH a7 cz,aH (.a cz ax) (.a a7 aE)] ax aE Y O U)<|lq [_,_] [.n 1 (.s aE) ax] ax aE Y c),.inr ⟨(bH (lq [_,_,_,_] [aH (.a ax a7) (.a aE cz),.n 1 (.s a7) cz] ax aE Y U c)<|lq [_,_] [aH ax aE] ax aE Y O),q.resolve_left c⟩⟩
namespace Ct
def Yzq(w:List Sy)(C:Sy->List Sy->Nat)(x:Sy)(i m:Nat)(o:Option Nat):Prop:=o.getD 0=C x (sl w i<|i+m)
structure C where
 Φ:Fs
 G:Gr
 e:Ex
 N:Nat
 st:St
 w:List Sy
 K:Sy->List Sy->Nat
 h:G.Ok
 hg:KS Φ G e
 hc:Cl st
 hl:w.length<=3
 hw:∀x∈w,x∈G.tm
 hS:Sem G (λu9=>True) K
 hW:∀ro (X:Wa.C),Wp (Φ ro 379 [.aL (li X.right),.aM<|li X.word,vi X.b,vi X.e,X.cv] X.st) λr=>r=(vi<|mX (Kw X.word X.e X.cnt) X.right X.b X.e,X.st)
section
variable{X:C}{i:Nat}
def Du(U:X.G.cK.length<=10):(X.w.map X.G.num)[i]? =(X.G.num x)↔X.w[i]? =x:=by
 refine J (cE) ?_;induction X.w[i]? with
 |none=>exact⟨eg,eg⟩
 |some y=>exact⟨λq=>jn (Gr.mZ U<|ak q) Y,λq=>by refine jn (ak q) ?_;rfl⟩
def OX(N:Ch X.G (Yzq X.w X.K) L (Pc X.G X.w len b pre))(D:x∈X.G.cK)(M:b+len<=X.w.length)(H:b<=i)(O:i+m<=b+len):
  Kw (X.w.map X.G.num) (b+len) L (X.G.num x) i (i+m)=Da X.G X.K len pre x (sl X.w i<|i+m):=by
 delta Kw Da;by_cases U:x∈X.G.tm
 .rw [wt];refine J (N.zero X.h.dN λq=>(X.h.jF.mp q.1)<|X.h.PA x U)<|J (au U)<|ite_congr (propext ?_) (λP=>rfl) λP=>rfl;rw [Dg (aa O M),Du X.h.dN];exact⟨λq=>⟨q.2.1,hX q.2.2⟩,λq=>⟨by rw [q.2] at O;exact O,q.1,by rw [q.2]⟩⟩
 .refine J (az λq=>U<|X.hw x<|aN<|(Du X.h.dN).mp q.2.1) (bV (bu _) (az U) ?_);exact if c:(sl X.w i<|i+m).length<len\/x∈pre then J (au c) (N.yes x i m<|(yY ((mA D).resolve_left U) H O M).mpr c)else by refine J (az c) ?_;rw [wt];exact J (N.zero X.h.dN λq=>c<|(yY ((mA D).resolve_left U) H O M).mp q) Y
def O8(H:Ord X.G X.K ord)(N:ord=pre++A::post)(D:Ch X.G (Yzq X.w X.K) L (Pc X.G X.w len b pre)){q}(O:q∈X.G.rl)(P:q.1=A)(U:b+len<=X.w.length):
  mX (Kw (X.w.map X.G.num) (b+len) L) (q.2.map X.G.num) b (b+len)=sq X.K q.2 (sl X.w b<|b+len):=by
 refine(Lp _).trans (jn (O0 X.h X.hS H N O P<|(fD (aw ..) U).trans<|bY ..)<|jn (C7 _ _ _ (aw ..) U)<|nz .refl λx M i g j B Q=>?_);obtain⟨m,rfl⟩:=ej B;exact OX D ((X.h.rr _ O).2.1 x M) U j Q
def env(X:C)(ord:List Sy)(M o5 o6 O U:Option AV:=none):En:=[some (jG X.G X.e),some<|.aM<|X.w.map<|nv X.G,some<|.aM<|ord.map<|nv X.G,some<|.ref X.st.length,M,o5,o6,O,U]
def bz(X:C)(L:List ((Nat×Nat×Nat)×Nat)):St:=X.st++[.D (encD k3 vi L)]
abbrev IR(X:C)(ord:List Sy)(len b:Nat)(A:Sy)(L:List ((Nat×Nat×Nat)×Nat))(dk:List Nat):En->St->Prop:=Ki (env X ord (vi len) (vi b) (nv X.G A)<|vi (dk.map λk=>sq X.K (qQ X.G.rl k)<|sl X.w b<|b+len).sum)<|bz X L
def G1(hO:Ord X.G X.K ord)(ho:ord=pre++A::post)(O:b+len<=X.w.length)(j:Ch X.G (Yzq X.w X.K) L (Pc X.G X.w len b pre))(hk:k∈X.G.no A)(hI:IR X ord len b A L dk ρ s):
  Wp ((fQ s (.v 8) (vi k) ρ).bind λD=>cg X.Φ X.st.length X.N fl J1 D s) (LQ none<|IR X ord len b A L<|dk++[k]):=by
 induction hI;refine(BJ hk).elim λp H=>H.elim λU P=>?_
 have hB:∀x∈p.2.map X.G.num,∀i,b<=i->i<=b+len->gk i (b+len) (Kw (X.w.map X.G.num) (b+len) L x i)<=2^213:=λx hx i h1 q=>by
  refine(mM hx).elim λy H=>H.elim λhy e9=>?_;exact jn e9 (by
    refine aa (iC _ _ (1331*2^200) λm M=>?_)<|J aO<|Tc.WK<|lq [_,_,_,_] [aH (.a aE a7) cz,aH cz<|.c 3,aH ax (.s<|.a aE a7)] ax (.c 4) Y O X.hl (cP ..);have M:=mR M;refine J (OX j ((X.h.rr _<|aN U).2.1 y hy) O h1<|by exact lq [_,_,_,_,_] [aH (.s aE) g7,aH (.a g7 ax) (.s<|.a a7 cz)] (.a ax aE) (.a a7 cz) Y M (aG<|a9<|lq [_,_,_] [aH ax (.a aE a7)] ax (.s<|.a aE a7) Y q)) ?_;rw [Da];split
    .split<;>decide
    .split
     .exact aa (X.hS.le _ _<|J (fD (aw ..)<|by exact lq [_,_,_,_,_,_] [aH (.a cz g7) a7,aH (.s aE) wG,aH (.a wG ax) (.s<|.a cz g7)] (.a ax aE) a7 Y O M (aG<|a9<|lq [_,_,_] [aH ax (.a aE a7)] ax (.s<|.a aE a7) Y q))<|lq [_,_,_,_,_,_,_] [aH (.a aE a7) cz,aH cz<|.c 3,aH (.s g7) wG,aH wG<|.s<|.a aE a7,aH (.a ax Mg) (.a Mg g7)] ax (.c 3) Y O X.hl M (cP ..) (aG<|a9<|lq [_,_] [] ax (.a ax aE) Y)) (bM Y)
     .exact bf _)
 have Q:=(X.hW X.st.length {Φ:=X.Φ,N:=X.N,st:=bz X L,right:=p.2.map X.G.num,word:=X.w.map X.G.num,b:=b,e:=b+len,B:=2^213,cv:=.ref X.st.length,cnt:=L,hc:=(X.hc.app λc hc=>jn (mS hc).symm<|fL<|fj ..),hv:=by simp only [bS,bz,gn],MB:=aq (by simp only [bz,ae];exact a6 _),Th:=aw ..,hw:=by refine J (ag _) ?_;exact O,vr:=by refine J (ag _) ?_;exact lq [_] [aH ax (.c 3)] ax (.c 1000) Y X.hl,Ac:=by refine J (ag _) ?_;exact lq [_] [aH ax (.c 4)] ax (.c 1000) Y (X.h.rr _<|aN U).1,Tn:=by decide,hB:=hB,Tj:=J (ag _) (Tc.SK (X.h.rr _<|aN U).1)}).eq;dsimp only at Q;simp only [O8 hO ho j (aN U) P O,li,bJ] at Q;refine kp Y<|cb (dy Y (fK (aA (dM (dh (dM Y oZ) Y<|qo X.h.mi U) vY)<|aA Y<|aA Y<|aA (dy Y Y il)<|aA Y aV) Q)<|il.trans ?_) Y<|d9<|bU ⟨.inl Y,trivial,⟨⟩⟩;simp only [aR,fv,List.map_singleton,qQ,U];rfl
inductive IS(X:C)(ord:List Sy)(len b:Nat)(pre:List Sy):En->St->Prop
 |mk (L:List ((Nat×Nat×Nat)×Nat)) (hT:Ch X.G (Yzq X.w X.K) L (Pc X.G X.w len b pre)):IS X ord len b pre (env X ord (vi len)<|vi b) (bz X L)
set_option tactic.hygienic true in
def G0(j:Ord X.G X.K ord)(B:ord=pre++A::post)(Q:b+len<=X.w.length)(U:IS X ord len b pre H s):
  Wp ((fQ s (.v 6) (nv X.G A) H).bind λD=>cg X.Φ X.st.length X.N q J0 D s) (LQ none<|IS X ord len b<|pre++[A]):=by
 induction U;rename_i L O;have M:=(j.mem A).mp<|J B<|ar _<|.head _;have P:=X.hl;refine kp Y<|cb Y Y<|gu (m7 Y Y (aA Y aV)<|X.hg.XW _ _ A<|ar _ M) (dx<|aa sg<|aa X.h.mi<|bM Y) ⟨⟩ (λdk k r H s P U=>G1 j B Q O (P▸ar _ (.head _)) U) λH s U=>?_;induction U;rw [<-X.hS.nt A M];refine jX (cp Y Y pX) ?_;by_cases c:0<X.K A (sl X.w b<|b+len)
 .refine J (aq c) (nE (kv:=k3<|Ky X.G A b len) Y Y Y (gn ..) Y (mx ..) (J (gU _)<|aQ (O.kn X.h.dN P)<|bM Y) .refl ?_);simp only [jw su,bz,rW];exact bU<|d9<|bU ⟨.inl Y,trivial,_,O.put X.h.dN Y<|uo M Q⟩
 .exact J (aF c) (bU<|d9<|bU ⟨.inl Y,trivial,_,O.skip X.h.dN (Nat.eq_zero_of_not_pos c).symm<|uo M Q⟩)
set_option tactic.hygienic true in
def ok(X:C)(Q:AO X.Φ X.G X.e X.K){ro}:kC X.Φ ro X.N p6 [jG X.G X.e,.aM (X.w.map<|nv X.G)] X.st=(vi<|X.K .s X.w,X.st):=by
 refine Wp.eq<|gT Y ?_;obtain⟨_,l,ord,rfl,Q⟩:=Q X.st.length X.st X.hc;have hlen:∀s,ku s .len [.aM (X.w.map<|nv X.G)]=(vi X.w.length,s):=λs=>J (oK Y<|J (ag _)<|aa X.hl<|bM Y)<|J (ag _) Y;refine cb (fK (aA Y aV) l) Y<|cb (ρ':=env X ord) (by simp only [n9];rfl) Y<|gu (I:=λd O s=>∃L,Ch X.G (Yzq X.w X.K) L (Pc X.G X.w d.length 0 [])/\O=env X ord/\s=bz X L) (cx (aA (dy (cx (aA Y aV)<|hlen _) cD il) aV)<|nX<|lq [_] [aH ax (.c 3)] (.s ax) (.c 1000) Y X.hl) (oN<|aa X.hl<|bM Y) ⟨[],Ch.nil.same AQ,Y,Y⟩ (λd len r O s g U=>?_) λO s U=>?_
 .obtain⟨L,P,B,rfl⟩:=U;refine J B ?_;obtain⟨B,M⟩:=kZ g;refine J B (kp Y<|gu (I:=λy O s=>∃L,Ch X.G (Yzq X.w X.K) L (Pc X.G X.w d.length y.length [])/\O=env X ord (vi d.length)/\s=bz X L) (cx (aA (dy (dy (cx (aA Y aV)<|hlen _) cD il) Y<|xT<|lq [_,_] [aH (.s ax) (.s aE)] ax (.s aE) Y M) aV)<|nX<|lq [_,_] [aH aE (.c 3),aH ax (.s aE)] ax (.c 1000) Y X.hl (cP ..)) (t7<|lq [_,_] [aH aE (.c 3),aH ax (.s aE)] ax (.c 1000) Y X.hl (cP ..)) ⟨L,P,Y,Y⟩ (λy b r O s q U=>?_) λO s U=>?_)
  .obtain⟨L,P,p,rfl⟩:=U;subst p;obtain⟨B,v⟩:=kZ q;refine J B<|kp Y<|gu (I:=IS X ord d.length y.length) Y (dx<|lq [_] [aH ax (.c 10)] ax (.c 2000) Y (gE Q.fW)) ⟨L,P⟩ (λpre A post O s f U=>G0 Q f (lq [_,_,_,_] [aH (.s ax) cz,aH (.a cz aE) (.s a7)] (.a ax aE) a7 Y v (aG<|a9<|lq [_,_] [aH (.s ax) (.s aE)] ax (.s aE) Y M)) U) λO s U=>?_;induction U;rename_i o H;exact d9<|bU ⟨.inl Y,trivial,o,by refine J ae ?_;exact H.same<|Km Q.mem,Y,Y⟩
  .obtain⟨o,H,rfl,rfl⟩:=U;exact d9<|bU ⟨.inl Y,trivial,o,by refine J ae ?_;exact(aO▸H).same (Kl<|aK M),Y,Y⟩
 .obtain⟨L,P,rfl,rfl⟩:=U;rw [aO] at P;obtain⟨i,n,_⟩:=X.h.rl;have j:=P.yes .s 0 X.w.length ⟨X.h.jF.mpr<|by decide,(lq [_] [] (.a (.c 0) ax) ax Y),.inl<|a6 _⟩;rw [Yzq,bu,nW] at j;refine jo (cs:=[.D (encD k3 vi L)]) (p9 Y (E2 (by refine J bS ?_;rw [bz,gn])) (aA (x:=.aL [nv X.G .s,vi 0,vi X.w.length]) (s1:=bz X L) ?_<|aA cD aV) ?_) (b8 Y) Y
  .exact mH (aA (dh (dM (dh (dM Y oZ) cD<|qo X.h.mi<|J n Y) vY) cD Y)<|aA cD<|aA (cx (aA Y aV)<|hlen _) aV) (bM Y)
  .show Jb _ _ _ (vw ..)=_;refine J bS ?_;rw [bz,gn];show(if ed (.t [.int (X.G.num .s),.int (0:Nat),.int X.w.length]) (encD k3 vi L)then some ((fP (encD k3 vi L)<|.t [.int (X.G.num .s),.int (0:Nat),.int X.w.length]).getD<|.int 0,_)else none)=_;rw [au (mx ..),Ja,wt];rw [Ky,bu] at j;rw [j];rfl
end
end Ct
section
variable{a b:Nat}{ys:List (KV×AV)}{k:Nat}
def LG(O:a<=1000)(U:b<=1000):ku s .range [vi a,vi b]=some (.sS a b,s):=by show(if iG (a:Int)&&iG (b:Int)then some (AV.sS a b,s)else none)=_;exact bV (fE<|aa O<|bM Y) (fE<|aa U<|bM Y) Y
def z5(O:a<=1000)(U:b<=1000):dR ro s (.sS a b)=some ((List.range<|b-a).map λk=>vi<|a+k,none):=by show(if iG (a:Int)&&iG (b:Int)then some (qR a (b:Int),none)else none)=_;exact wo (fE<|aa O<|bM Y) (fE<|aa U<|bM Y) (oB ..) Y
def Bv:f7 (ky r)=true:=lW r
def LF(h:r.length<=1000):mT s .add (ky r) (.aL [iy t])=(ky<|r++[t],s):=by show(if(r.map iy).length+1<=lim then some (AV.aL<|r.map iy++[iy t],s)else none)=_;refine J (ag _)<|J (au<|dE<|aa (bq h)<|bM Y) ?_;rw [ky];exact J aR Y
def VG(U:G.cK.length<=10):jc s .eq (nv G x) (nv G y)=(decide<|x=y):=J tp<|J (dD ⟨Gr.mZ U,congrArg _⟩) Y
def Hu(e:s[n]? =some (.D U))(H:ed (.i k) U=true)(N:U.length<lim)(M:O<=n):mP O s .eG (.ref n) [vi k,v]=(SO s (n,U) (.i k) v<|fP U<|.i k):=by show(((s[n]?).bind λc=>(Pm c).bind λx=>some (n,x)).bind λp=>(j6<|vi k).bind λk=>if ed (.i k) p.2&&decide (p.2.length<lim)&&decide (O<=p.1)then some (SO s p (.i k) v<|fP p.2<|.i k)else none)=_;refine J e ?_;show(if ed (.i k) U&&decide (U.length<lim)&&decide (O<=n)then some (SO s (n,U) (.i k) v<|fP U<|.i k)else none)=_;exact wo H (aq N) (aq M) Y
def UE(e:s[n]? =some (.D U))(h:m=.get\/m=.eG):hY s m (.ref n)=true:=by delta hY;simp only [bS,e];rcases h with rfl|rfl<;>rfl
def n6(e:s[n]? =some (.L l))(h:l.length<=2000)(O:U<=n):dR U s (.ref n)=some (l,some (n,.L l)):=by show(s[n]?).bind _=_;exact J e<|au<|dE h
def Jh(h:U<=n)(e:s[n]? =some (.D O))(m:cY (λe=>(iH s U d e.2).bind λy=>some (e.1,y)) O=ys)(q:jN ys=true):iH s U (d+1) (.ref n)=some (.bK ys):=if b:jN O=true then(oQ h e b).trans (jn (ak<|(l5 λx M=>(b8<|dz<|r9.mp b x M)▸Y).symm.trans m) Y)else Ji h e m (Bool.eq_false_iff.mpr b) q
def set_same{U:Type}{l:List U}{i}{a}(h:l[i]? =some a):l.set i a=l:=by refine(List.getElem?_eq_some_iff.mp h).elim λO M=>?_;exact jn M<|List.set_getElem_self O
def Fz(lt:U->U->Bool)(x:U):∀l:List U,(lu lt x l).Perm (x::l):=λl=>l.rec (.refl _) λy l O=>by
  dsimp only [lu];split
  .exact .refl _
  .exact(O.cons y).trans (.swap x y l)
def qf(lt:U->U->Bool):∀l:List U,(mY lt l).Perm l:=λl=>l.rec (.refl _) λx l O=>(Fz lt x _).trans<|O.cons x
def CH:∀l:List Nat,allInts (l.map vi)=(l.map Int.ofNat):=λl=>l.rec Y λx l U=>by show(some (x:Int)).bind (λi=>(allInts<|l.map vi).bind λl=>some (i::l))=_;exact J U Y
def EV{L:List (Nat×D)}(n:Nk L)(H:L.length<64):∃sp:List Nat,sp.Perm (L.map (·.1))/\ku U .sorted [.bK (encD ki f L)]=some (.ref U.length,U++[.L (sp.map vi)]):=by
 refine⟨(mY (λa b:Int=>decide<|a<b) ((L.map (·.1)).map Int.ofNat)).map Int.toNat,?_,?_⟩
 .have:=(qf (λa b:Int=>decide<|a<b) ((L.map (·.1)).map Int.ofNat)).map Int.toNat;rwa [(λl=>(bJ (f:=Int.ofNat) (g:=Int.toNat)).trans<|List.map_id l)] at this
 .show qN U (.bK<|encD ki f L)=_;delta qN;refine J (show u7 U (.bK<|encD ki f L)=((L.map (·.1)).map vi) by exact J bJ<|congrArg some bJ)<|J (Option.bind_some ..)<|J (au<|J (ag _)<|J (ag _)<|by assumption)<|J (CH _)<|(au<|List.nodup_iff_pairwise_ne.mpr<|List.pairwise_map.mpr<|(List.nodup_iff_pairwise_ne.mp n).imp λO e=>O<|Int.ofNat.inj e).trans ?_;congr 5;refine J (bJ (f:=Int.toNat))<|aX λa M=>?_;obtain⟨k,_,N⟩:=mM ((qf (λa b:Int=>decide<|a<b) ((L.map (·.1)).map Int.ofNat)).mem_iff.mp M);refine jn N ?_;rfl
end
namespace Ro
abbrev OS:=List<|(Nat×Nat×Nat)×List Tr
def kK(G:Gr)(w:List Sy)(e:Nat)(T:OS)(x:Sy)(i j:Nat):List Tr:=if i<=j/\j<=e then(if x∈G.tm then(if w[i]? =some x/\j=i+1 then [.leaf x] else [])else(fc T (G.num x,i,j)).getD [])else []
structure C where
 Φ:Fs
 G:Gr
 ex:Ex
 N:Nat
 st:St
 right:List Sy
 w:List Sy
 b:Nat
 e:Nat
 tv:AV
 T:OS
 K:Sy->Nat->Nat->Nat
 h:G.Ok
 hM:NI Φ
 hc:Cl st
 hr:right.length<=4
 Vo:∀x∈right,x∈G.cK
 hv:vw st tv=.D (encD k3 kF T)
 Yd:below st.length tv=true
 Th:b<=e
 hw:e<=w.length
 vr:w.length<=3
 Yc:∀x∈w,x∈G.tm
 hT:∀x∈right,∀i j,b<=i->i<=j->j<=e->wO G w x i j (K x i j) (kK G w e T x i j)
 Vs:∀x∈G.tm,∀i j,fc T (G.num x,i,j)=none
def FT(p:Nat×List Tr):AV:=.aL [vi p.1,kF p.2]
noncomputable def y3(X:C)(x:Sy)(i:Nat):List (Nat×List Tr):=if i<X.e/\X.w[i]? =some x then [(i+1,[.leaf x])] else []
def Ci(X:C)(x:Sy)(i:Nat)(d:List Nat):List (Nat×List Tr):=d.flatMap λk=>((fc X.T (X.G.num x,i,i+k)).map λl=>(i+k,l)).toList
def sel(R:List (List Tr))(d:List (Nat×List Tr))(g:Nat):List (List Tr):=d.flatMap λp=>if p.1=g then pairs R p.2 else []
noncomputable def w6(X:C)(i:Nat):AV:=.ref<|X.st.length+(i+2)
def bz(X:C)(rf:List (Nat×Nat))(sp:List Nat)(more:St):St:=X.st++ .D (encD ki (w6 X) rf)::.L (sp.map vi)::more
def GI(X:C)(rf:List (Nat×Nat))(sp:List Nat)(more:St)(i:Nat)(R:List (List Tr)):St:=bz X rf sp<|more.set i<|.L<|R.map ky
def Bi(X:C)(rf:List (Nat×Nat))(sp:List Nat)(more:St)(en:List (Nat×List Tr)):St:=bz X rf sp<|more++[.L (en.map FT)]
def e0(X:C)(rc:List (Nat×List (List Tr)))(x M i en nm g so U N O:Option AV:=none):En:=[some (jG X.G X.ex),some<|gO X.G X.right,some<|gO X.G X.w,some<|vi X.b,some<|vi X.e,some X.tv,some<|vi 2,some<|.bK<|encD ki zo rc,x,M,i,en,nm,g,so,U,N,O]
def eL(X:C)(rc:List (Nat×List (List Tr)))(x:Sy)(i n:Nat)(nm g so U M O:Option AV:=none):En:=e0 X rc (nv X.G x) (some<|.ref X.st.length) (vi i) (w6 X n) nm g so U M O
structure y0(b e:Nat)(more:St)(rf:List (Nat×Nat))(rows:Nat->List (List Tr)):Prop where
 nk:Nk rf
 ix:∀p∈rf,∀q∈rf,p.2=q.2->p=q
 at_:∀p∈rf,more[p.2]? =some (.L<|(rows p.1).map ky)
 rg:∀p∈rf,b<=p.1/\p.1<=e
 no:∀g,g∉rf.map (·.1)->rows g=[]
section
variable{n:Nat}{U:St}{c:AC}
def u4(h:U[n]? =c):n<U.length:=(List.getElem?_eq_some_iff.mp h).1
def jr(h:U[n]? =c):(U++t)[n]? =c:=(bW<|u4 h).trans h
def y0.kn(h:y0 b e U rf rows):rf.length<=e+1:=by refine jn (ag (f:=λp:Nat×Nat=>p.1))<|pB h.nk λx O=>?_;obtain⟨p,M,rfl⟩:=mM O;exact cq (h.rg p M).2
def y0.push(h:y0 b e U rf rows):y0 b e (U++[c]) rf rows:=⟨h.nk,h.ix,λp O=>jr<|h.at_ p O,h.rg,h.no⟩
def y0.new(h:y0 b e U rf rows)(D:g∉rf.map (·.1))(Q:b<=g)(P:g<=e):y0 b e (U++[.L []]) (rf++[(g,U.length)]) rows:=by
 have M:∀p∈rf++[(g,U.length)],p∈rf\/p=(g,U.length):=λp O=>(mA O).imp id mS;refine⟨kb D U.length▸um h.nk g U.length,λp O q N e=>?_,λp O=>?_,λp O=>(M p O).elim (h.rg p) λe=>J e ⟨Q,P⟩,λk H=>h.no k λq=>H<|J aR<|bl _ q⟩
 .rcases M p O with O|rfl<;>rcases M q N with N|rfl
  .exact h.ix p O q N e
  .exact absurd e (dH<|(λp O=>u4<|h.at_ p O) p O)
  .exact absurd e.symm (dH<|(λp O=>u4<|h.at_ p O) q N)
  .rfl
 .exact(M p O).elim (λO=>jr<|h.at_ p O) λX=>J X<|J (h.no g D)<|(br .refl).trans<|J (dC _) Y
def y0.put(h:y0 b e U rf rows)(M:(g,i)∈rf)(D:∀k,O k=if k=g then R else rows k):y0 b e (U.set i<|.L<|R.map ky) rf O:=by
 refine⟨h.nk,h.ix,λp N=>?_,h.rg,λk H=>?_⟩
 .exact J (D _) (if c:p.1=g then bV (au c) (ak<|(fB h.nk N).symm.trans<|c.symm▸fB h.nk M) (dW<|u4<|h.at_ _ M)else bV (az c) (ew λq=>c (congrArg Prod.fst<|h.ix _ M _ N q).symm) (h.at_ p N))
 .exact J (D _) (J (az λ(q:k=g)=>H<|J q<|cW M)<|h.no k H)
def y0.congr(h:y0 b e U rf rows)(M:∀g,O g=rows g):y0 b e U rf O:=J (funext M:O=rows) h
end
section
variable{X:C}{Z:List (List Tr)}{U:Tr}
abbrev W(X:C)(M:Nat)(O:List S)(ρ:En)(s:St)(Q:Out×En×St->Prop):Prop:=Wp (cg X.Φ X.st.length X.N M O ρ s) Q
abbrev V(X:C)(e:E)(ρ:En)(s:St)(r:AV×St):Prop:=bZ X.Φ X.st.length e ρ s=some r
def mU:(bz X rf sp more)[X.st.length]? =some (.D<|encD ki (w6 X) rf):=gn ..
def wa:(bz X rf sp more)[X.st.length+1]? =some (.L<|sp.map vi):=gx _ _ 1
def Xf:(bz X rf sp more)[X.st.length+(n+2)]? =more[n]? :=gx ..
def UA:(bz X rf sp more).set (X.st.length+(n+2)) c=bz X rf sp (more.set n c):=sx ..
def Nv(h:idx<more.length):(GI X rf sp more idx R)[X.st.length+(idx+2)]? =some (.L<|R.map ky):=Xf.trans<|dW h
def PT:(GI X rf sp more idx R).set (X.st.length+(idx+2)) (.L<|O.map ky)=GI X rf sp more idx O:=UA.trans<|congrArg _<|kj _
def F6(X:C)(rc:List (Nat×List (List Tr)))(x:Sy)(i n g:Nat)(l:List Tr)(rf:List (Nat×Nat))(sp:List Nat)(more:St)(O:Nat)(M:Option AV)(R:List (List Tr)):En×St:=(eL X rc x i n none (vi g) (kF l) (w6 X O) M,GI X rf sp more O R)
def s7(h:idx<more.length)(L:a.length<=1000)(D:R=(H++d.map λU=>a++[U]).take 2):
  W X P J3 (eL X rc x i n none (vi g) (kF l) (w6 X idx) (ky a)<|iy U) (GI X rf sp more idx R) (LQ none<|LI (F6 X rc x i n g l rf sp more idx<|ky a) λR=>R=(H++(d++[U]).map λU=>a++[U]).take 2):=
 have M:=J D<|List.length_take_le ..;have O:(H++(d++[U]).map λU=>a++[U]).take 2=if R.length<2 then R++[a++[U]] else R:=J aR<|jn (aj ..)<|J D<|Be ..
 have N:V X (.bk .lt (.bA .len [.af 15])<|.af 6) (eL X rc x i n none (vi g) (kF l) (w6 X idx) (ky a)<|iy U) (GI X rf sp more idx R) (.bool<|decide<|R.length<2,GI X rf sp more idx R):=
  cp (cx (aA Y aV)<|oK (by rw [w6,bS,Nv h])<|J (ag _)<|aa M<|bM Y) Y (sU.trans<|J (ag _) Y)
 if c:R.length<2 then
  lK (lD N c) (iP (jS Y (Nv h) (dy Y (mH (aA Y aV)<|bM Y)<|LF L) (Nv h) (J (ag _)<|aQ M<|bM Y)<|aw ..)<|bU<|d9<|gv (R++[a++[U]]) (by rw [F6];exact jn PT<|J aR Y) trivial (O.trans<|au c).symm)
 else jl (lE N c) (d9<|gv R Y trivial (O.trans<|az c).symm)
def BH:pairs (R++[a]) l=pairs R l++l.map λU=>a++[U]:=by delta pairs;exact J cX<|J (dX ..) Y
def s6(h:idx<more.length)(L:a.length<=1000)(H:l.length<=2)(D:R=(Q++pairs P l).take 2):
  W X B V9 (eL X rc x i n none (vi g) (kF l) (w6 X idx)<|ky a) (GI X rf sp more idx R) (LQ none<|LI (F6 X rc x i n g l rf sp more idx none) λR=>R=(Q++pairs (P++[a]) l).take 2):=
 fV (f:=λO=>F6 X rc x i n g l rf sp more idx<|ky a) (I:=λd M=>M=(R++d.map λU=>a++[U]).take 2) R Y (dx<|aa H<|bM Y) Y (by simp only [List.map_nil,aC,D,i9];rfl) (λO O O=>rfl) (λd U r M O=>s7 h L)
  λM N=>d9<|gv M Y trivial<|by simp only [N,D,r6,BH,aj]
theorem kn(h:y0 X.b X.e more rf rows):rf.length<=4:=aa h.kn<|bq<|aa X.hw X.vr
def PU(h:y0 X.b X.e more rf rows)(v:X.b<=g)(w:g<=X.e):∃(N:List (Nat×Nat)) (O:St) (M:Nat),V X (.bR (.af 9) .eG [.af 13,.aM []]) (eL X rc x i n none (vi g) P) (bz X rf sp more) (w6 X M,GI X N sp O M<|rows g)/\y0 X.b X.e O N rows/\(g,M)∈N/\(∀(m:Nat) c,more[m]? =some c->O[m]? =c)/\∀p∈N,p∈rf\/p.2=more.length:=
 have A:V X (.aM []) (eL X rc x i n none (vi g) P) (bz X rf sp more) (w6 X more.length,bz X rf sp<|more++[.L []]):=by show some (AV.ref (bz X rf sp more).length,bz X rf sp more++[AC.L []])=_;simp only [bz,aj,ae];rfl
 have B:∀r,mP X.st.length (bz X rf sp<|more++[.L []]) .eG (.ref X.st.length) [vi g,w6 X more.length]=some r->V X (.bR (.af 9) .eG [.af 13,.aM []]) (eL X rc x i n none (vi g) P) (bz X rf sp more) r:=λr j=>p8 nofun Y (UE mU<|.inr Y) (aA Y<|aA A aV) j
 match hg:fc rf g with
 |some M=>
  have D:=l7 hg
  ⟨rf,more++[.L []],M,B _<|(Hu mU (k9 (w6 X) rf g) (J (gU _)<|fH<|aa (kn h)<|bM Y) .refl).trans (by refine J (show fP (encD ki (w6 X) rf) (.i g)=(w6 X M)from(f9 qk rf g).trans (congrArg _ hg)) ?_;rw [SO,GI,set_same (jr<|h.at_ _ D)]),h.push,D,λH H=>jr,λp=>.inl⟩
 |none=>
  have Q:=h.new (fI.mp hg) v w;have D:=ar _<|.head _
  ⟨rf++[(g,more.length)],more++[.L []],more.length,B _<|(Hu mU (k9 (w6 X) rf g) (J (gU _)<|fH<|aa (kn h)<|bM Y) .refl).trans (by refine J (show fP (encD ki (w6 X) rf) (.i g)=none from(f9 qk rf g).trans (J hg Y)) ?_;rw [SO,show dput (encD ki (w6 X) rf) (.i g) (w6 X more.length)=encD ki (w6 X) (rf++[(g,more.length)])from(jw qk rf g more.length).trans (J (kb (fI.mp hg) _) Y),GI,set_same<|Q.at_ _ D,bz];exact J (rW ..) Y),Q,D,λH H=>jr,λp D=>(mA D).imp id λq=>by rw [mS q]⟩
def F4(X:C)(rc:List (Nat×List (List Tr)))(x:Sy)(i n:Nat)(sp:List Nat)(q:List (Nat×Nat)×St):En×St:=(eL X rc x i n,bz X q.1 sp q.2)
structure Y5(X:C)(rows0:Nat->List (List Tr))(Z:List (List Tr))(n:Nat)(en de:List (Nat×List Tr))(q:List (Nat×Nat)×St):Prop where
 KL:y0 X.b X.e q.2 q.1 λg=>(rows0 g++sel Z de g).take 2
 at_:q.2[n]? =some (.L<|en.map FT)
 ne:∀p∈q.1,p.2≠n
def Hv:sel Z (O++[p]) k=sel Z O k++if p.1=k then pairs Z p.2 else []:=by delta sel;simp only [cX,dX]
def s5(w:fc rc i=Z)(hi:i<=1000)(j:∀r∈Z,r.length<=4)(A:Z.length<=2)(h1:X.b<=p.1)(h2:p.1<=X.e)(h:p.2.length<=2)(P:Y5 X rows0 Z n en y q):
  W X fl Wb (eL X rc x i n none (vi p.1)<|kF p.2) (bz X q.1 sp q.2) (LQ (some (X.st.length+(n+2),.L<|en.map FT))<|LI (F4 X rc x i n sp)<|Y5 X rows0 Z n en<|y++[p]):=(PU P.KL h1 h2).elim λN M=>M.elim λO M=>M.elim λD M=>M.elim λe1 M=>M.elim λg M=>M.elim λQ M=>M.elim λo l=>have H:∀p∈N,p.2≠n:=λp s=>(l p s).elim (P.ne p) λe=>J e<|(dH<|u4 P.at_).symm
  cb e1 Y (fV (f:=λB=>F6 X rc x i n p.1 p.2 N sp O D none) (I:=λt R=>R=((rows0 p.1++sel Z y p.1).take 2++pairs t p.2).take 2) ((rows0 p.1++sel Z y p.1).take 2) (dh Y Y (by
    show(if ed (.i i) (encD ki zo rc)then fP (encD ki zo rc) (.i i)else none)=_;exact J (k9 ..)<|(f9 qk rc i).trans<|J w Y)) (dx<|aa A<|bM Y) Y (bV (show pairs [] p.2=[] from Y) (aC _)<|J i9 Y) (λB B B=>rfl) (λt a r R U v=>s6 (u4<|g.at_ _ Q) (aa (j a<|J U<|ar _<|.head _)<|bM Y) h v)
   λR v=>d9 (gv (N,O.set D<|.L<|R.map ky) Y (by
    show(GI X N sp O D R)[_]? =_;exact J Xf<|(ew<|H _ Q).trans<|o _ _ P.at_) ⟨g.put Q λk=>by refine J Hv ?_;exact if c:k=p.1 then(by rw [au c,c,au Y,v,r6,aj])else bV (az c) (az λq=>c q.symm) (J (aC _) Y),(ew<|H _ Q).trans<|o _ _ P.at_,H⟩))
def YM:(Bi X rf sp more en)[X.st.length+(more.length+2)]? =some (.L<|en.map FT):=Xf.trans<|(br .refl).trans<|J (dC _) Y
theorem append{e}{O}{M}{p}(D:O[11]? =some (some<|w6 X more.length))(h:V X e O (Bi X rf sp more en) (FT p,Bi X rf sp more en))(N:en.length<=1000)(k:W X H M O (Bi X rf sp more<|en++[p]) Q):W X H (.exp (.bR (.af 11) .append [e])::M) O (Bi X rf sp more en) Q:=
 iP (jS (J j9<|J D Y) YM h YM (J (ag _)<|fH<|aa N<|bM Y)<|aw ..) (J ((aR (l₂:=[p])).symm)<|J (UA.trans<|congrArg _<|(gN _ _ .refl).trans<|J (dC _) Y) k)
def i3(O:i<=X.e):i<=3:=aa O<|aa X.hw X.vr
def s3(M:x∈X.G.cK)(H:i<=X.e)(k:W X L D (eL X rc x i more.length) (Bi X rf sp more<|y3 X x i) Q):
  W X L (N8::.jU [12]::D) (eL X rc x i more.length) (Bi X rf sp more []) Q:=
 if c1:i<X.e then
  have O:=aW _
  have N:V X (.and [.bk .lt (.af 10) (.af 4),.bk .eq (.sub (.af 2)<|.af 10) (.af 8)]) (eL X rc x i more.length) (Bi X rf sp more []) (.bool<|decide<|X.w[i]'(aJ c1 X.hw)=x,Bi X rf sp more []):=
   nP (lD (cp Y Y sU) c1) (cp (dh Y Y<|Ul Y (aa (i3 H)<|bM Y) O) Y<|VG X.h.dN)
  if c2:X.w[i]'(aJ c1 X.hw)=x then
   lK (lD N c2) (cb (dh (dM Y vZ) Y<|me Y (aa (bx<|Gr.jE M)<|aa X.h.dN<|bM Y)<|Gr.jz M) Y<|append (p:=(i+1,[.leaf x])) Y (mH (aA (dy Y Y il)<|aA (J MV<|J (aA (RW X.hM (by simp only [Bi,bz,ae];exact aw ..) Y) aV) Y) aV)<|bM Y) (bf _)<|bU<|d9 (by rw [show y3 X x i=[(i+1,[.leaf x])] from au ⟨c1,O.trans<|congrArg some c2⟩] at k;exact k))
  else jl (lE N c2) (d9 (by rw [show y3 X x i=[] from az λq=>c2 (ak<|O.symm.trans q.2)] at k;exact k))
 else jl (lB<|lE (cp Y Y sU) c1) (d9 (by rw [show y3 X x i=[] from az λq=>c1 q.1] at k;exact k))
def F2(X:C)(rc:List (Nat×List (List Tr)))(x:Sy)(i:Nat)(rf:List (Nat×Nat))(sp:List Nat)(more:St)(en:List (Nat×List Tr)):En×St:=(eL X rc x i more.length,Bi X rf sp more en)
def Ze:vw (Bi X rf sp more en) X.tv=.D (encD k3 kF X.T):=(ur X.Yd).trans X.hv
def inT:jc (Bi X rf sp more en) .z8 (.aL [nv X.G x,vi i,vi g]) X.tv=(fc X.T (X.G.num x,i,g)).isSome:=by show Ta _ (vw ..)=_;refine J Ze ?_;show(if ed (.t [.int (X.G.num x),.int i,.int g]) (encD k3 kF X.T)then some (fP (encD k3 kF X.T)<|k3 (X.G.num x,i,g)).isSome else none)=_;refine J (au<|mx ..)<|J (f9 su ..) ?_;induction fc X.T (X.G.num x,i,g)<;>rfl
def Ao:Ci X x i (dk++[k])=Ci X x i dk++((fc X.T (X.G.num x,i,i+k)).map λl=>(i+k,l)).toList:=by delta Ci;simp only [cX,dX]
def s2(D:en.length<=1000)(N:en=y3 X x i++Ci X x i dk):
  W X H vT (eL X rc x i more.length none<|vi<|i+k) (Bi X rf sp more en) (LQ none<|LI (F2 X rc x i rf sp more) λen=>en=y3 X x i++Ci X x i (dk++[k])):=
 have M:∀s,V X (.aL [.af 8,.af 10,.af 13]) (eL X rc x i more.length none<|vi<|i+k) s (.aL [nv X.G x,vi i,vi (i+k)],s):=λs=>mH (aA Y<|aA Y<|aA Y aV)<|bM Y;have O:=cp (M<|Bi X rf sp more en) Y inT
 match hg:fc X.T (X.G.num x,i,i+k)with
 |none=>jl (by rw [hg] at O;exact O)<|d9<|gv en Y trivial<|J Ao<|bV hg N<|(aC _).symm.trans<|aj ..
 |some l=>lK (by rw [hg] at O;exact O)<|append Y (mH (aA Y<|aA (dh Y (M _) (by simp only [subQ,Ze];show(if ed (.t [.int (X.G.num x),.int i,.int (i+k)]) (encD k3 kF X.T)then fP (encD k3 kF X.T) (k3 (X.G.num x,i,(i+k)))else none)=_;exact J (au<|mx ..)<|J (f9 su ..)<|J hg Y)) aV)<|bM Y) D<|bU<|d9<|gv (en++[(i+k,l)]) Y trivial<|J Ao<|bV hg N<|aj ..
abbrev kT(X:C):Sy->Nat->Nat->List Tr:=kK X.G X.w X.e X.T
def UW(O:x∉X.G.tm):y3 X x i=[]:=az λq=>O<|X.Yc x<|aN q.2
def RO(N:i+n<=X.e+1)(O:p∈y3 X x i++Ci X x i (List.range n)):i<=p.1/\p.1<=X.e/\p.2=kT X x i p.1:=by
 refine(mA O).elim (λO=>?_) λO=>?_
 .unfold y3 at O;split at O
  .rename_i c;exact J (mS O) ⟨b0 _,c.1,by rw [kT,kK,au ⟨b0 _,c.1⟩,au<|X.Yc x<|aN c.2,au ⟨c.2,Y⟩]⟩
  .exact absurd O iZ
 .obtain⟨k,D,O⟩:=List.mem_flatMap.mp O;have M:=aK<|aJ (cc (mR D) i) N;induction hg:fc X.T (X.G.num x,i,i+k)with
  |none=>exact iZ<|hg▸O
  |some l=>rw [hg] at O;exact J (mS O) ⟨aw ..,M,by rw [kT,kK];refine J (au ⟨aw ..,M⟩)<|J (az λq=>nomatch (X.Vs x q i<|i+k).symm.trans hg) ?_;show l=(fc X.T (X.G.num x,i,i+k)).getD [];exact J hg Y⟩
def Cc{O:Type}(f:Nat->List O):∀n,((List.range n).flatMap λk=>if i+k=g then f (i+k)else [])=if i<=g/\g<i+n then f g else []:=λn=>n.rec ((az λq=>Nat.not_lt.mpr q.1 q.2).symm) λn N=>by simp only [List.range_succ,cX,N,dX];exact if c:i+n=g then bV (au c) (az λq=>dH q.2 c.symm) (bV (au ⟨jn c<|aw ..,jn c<|a6 _⟩) c Y)else J (az c) (J (aC _)<|ite_congr (propext ⟨λq=>⟨q.1,fT q.2⟩,λq=>⟨q.1,Nat.lt_of_le_of_ne (aK q.2) λe=>c e.symm⟩⟩) (λM=>rfl) λM=>rfl)
def LA(L:i<=X.e):sel Z (y3 X x i++Ci X x i (List.range<|X.e+1-i)) g=pairs Z (kT X x i g):=by
 have D:∀d,sel Z (Ci X x i d) g=d.flatMap λk=>if i+k=g then pairs Z ((fc X.T (X.G.num x,i,i+k)).getD [])else []:=λd=>by
  delta sel Ci;refine List.flatMap_assoc.trans ?_;congr 1
  funext k
  induction fc X.T (X.G.num x,i,i+k)with
  |none=>exact bV (show(none:Option (List Tr)).getD []=[] from Y) (kG _)<|J (ite_self _) Y
  |some l=>exact dX ..
 have H:sel Z (y3 X x i++Ci X x i (List.range<|X.e+1-i)) g=sel Z (y3 X x i) g++sel Z (Ci X x i<|List.range<|X.e+1-i) g:=cX;simp only [H,D,Cc λj=>pairs Z<|(fc X.T (X.G.num x,i,j)).getD [],kT,kK];have N:(i<=g/\g<i+(X.e+1-i))↔(i<=g/\g<=X.e):=J (cU<|fp L)<|and_congr jj Nat.lt_succ_iff;by_cases M:x∈X.G.tm
 .rw [X.Vs x M];refine bV (show(none:Option (List Tr)).getD []=[] from Y) (kG _)<|J (ite_self _)<|(aC _).trans<|J (au M) ?_;delta y3;by_cases c:i<X.e/\X.w[i]? =x
  .rw [au c,sel];exact J (dX ..) (if O:i+1=g then J (au O) (J (au ⟨O▸b0 _,jn O c.1⟩)<|J (au ⟨c.2,O.symm⟩) Y)else J (az O) (J (az (c:=X.w[i]? =x/\g=i+1) λq=>O q.2.symm)<|J (ite_self _)<|J (kG _) Y))
  .exact J (az c) (if O:i<=g/\g<=X.e then J (au O) (J (az λq=>c ⟨aJ (a6 i)<|aa (aG q.2.symm) O.2,q.1⟩)<|J (kG _) Y)else J (az O) (J (kG _) Y))
 .exact bV (UW M) (az M) (if O:i<=g/\g<=X.e then J (au O) ((au<|N.mpr O).trans Y)else J (az O) ((az λq=>O<|N.mp q).trans<|J (kG _) Y))
def RP:∀d,(Ci X x i d).length<=d.length:=λd=>d.rec (aS _) λk d O=>by
  show(Option.toList _++Ci X x i d).length<=_;refine J ae<|J (ck ..)<|eO O ?_;induction fc X.T (X.G.num x,i,i+k)
  .exact bf _
  .exact aS _
def MX:(y3 X x i).length<=1:=by
 delta y3;split
 .exact aS _
 .exact bf _
def Ee{d}:(y3 X x i++Ci X x i d).length<=1+d.length:=J ae<|eO MX<|RP d
def Rf(rc:List (Nat×List (List Tr)))(i:Nat):List (List Tr):=(fc rc i).getD []
def F1(X:C)(rc:List (Nat×List (List Tr)))(x:Sy)(sp:List Nat)(q:List (Nat×Nat)×St):En×St:=(e0 X rc (nv X.G x)<|some<|.ref X.st.length,bz X q.1 sp q.2)
def I1(X:C)(rc:List (Nat×List (List Tr)))(x:Sy)(O:List Nat)(q:List (Nat×Nat)×St):Prop:=y0 X.b X.e q.2 q.1 λg=>(Full (Rf rc) (kT X x) O g).take 2
def FF{T}:Full f T (O++[i]) g=Full f T O g++pairs (f i) (T i g):=by delta Full;simp only [cX,dX]
def s1(y:x∈X.right)(P:fc rc i=Z)(o:X.b<=i)(D:i<=X.e)(w:∀r∈Z,r.length<=4)(j:Z.length<=2)(Q:I1 X rc x c q):
  W X fl tI (e0 X rc (nv X.G x) (some<|.ref X.st.length)<|vi i) (bz X q.1 sp q.2) (LQ (some (X.st.length+1,.L<|sp.map vi))<|LI (F1 X rc x sp)<|I1 X rc x<|c++[i]):=
 have B:=bq<|i3 .refl
 cb (by show some (AV.ref (bz X q.1 sp q.2).length,bz X q.1 sp q.2++[AC.L []])=_;simp only [bz,aj,ae];rfl) Y
 (s3 (X.Vo x y) D (fV (f:=λO=>F2 X rc x i q.1 sp q.2) (I:=λdk en=>en=y3 X x i++Ci X x i dk) (y3 X x i) (cx (aA Y<|aA (dy Y Y il) aV)<|LG (aa (i3 D)<|bM Y)<|aa B<|bM Y) (z5 (aa (i3 D)<|bM Y)<|aa B<|bM Y) Y (aC _).symm (λO O O=>rfl) (λdk k r en A Q=>s2 (J Q<|aa Ee (by have:=congrArg List.length A;simp only [aO,ae] at this;exact aa (cV (aa (aa (aw ..)<|aG this.symm)<|aa (cP ..) B) 1)<|bM Y)) Q)
 λen M=>fV (f:=λO=>F4 X rc x i q.2.length sp) (I:=Y5 X (λg=>(Full (Rf rc) (kT X x) c g).take 2) Z q.2.length en) (q.1,q.2++[AC.L (en.map FT)]) Y (n6 YM (J (ag _)<|J M<|aa Ee<|J aO<|aa (cV (aa (cP ..) B) 1)<|bM Y)<|aw ..) Y ⟨Q.push.congr λg=>bV (show sel Z [] g=[] from Y) (aC _)<|List.take_take.trans Y,(br .refl).trans<|J (dC _) Y,λp t=>dH<|u4<|Q.at_ p t⟩ (λO O O=>rfl) (λl p r v A N=>
    have H:=RO (aG<|cU<|fp D) (jn M<|J A<|ar _<|.head _)
    s5 P (aa (i3 D)<|bM Y) w j (aa o H.1) H.2.1 (J H.2.2<|J (X.hT x y i p.1 o H.1 H.2.1).2.2<|fY ..) N)
  λv N=>d9<|gv v Y wa (N.KL.congr λg=>by simp only [M,LA D,r6,FF,Rf,P];rfl)))
def F0(X:C)(rc:List (Nat×List (List Tr))):En×St:=(e0 X rc,X.st)
structure I0(X:C)(pre:List Sy)(rc:List (Nat×List (List Tr))):Prop where
 nk:Nk rc
 rg:∀p∈rc,X.b<=p.1/\p.1<=X.e
 ok:∀j,X.b<=j->j<=X.e->CK X.G X.w pre X.b j (mX X.K pre X.b j) (Rf rc j)
def zs(h:lx s X.st.length v=some (some<|.bK<|encD ki zo rc)):cY (lx s X.st.length) [some (jG X.G X.ex),some<|gO X.G X.right,some<|gO X.G X.w,some<|vi X.b,some<|vi X.e,some X.tv,some<|vi 2,v,none,none,none,none,none,none,none,none,none,none]=(F0 X rc).1:=
 aD (bI Y) (aD (bI<|gz ..)<|aD (bI<|gz ..)<|aD (bI Y)<|aD (bI Y)<|aD (bI X.Yd)<|aD (bI Y)<|aD h Y)
def Gw{f:Nat->N}:∀{rf:List (Nat×Nat)},fc (rf.map λp=>(p.1,f p.1)) g=if g∈rf.map (·.1)then some (f g)else none:=by
 intro rf;exact rf.rec Y λp rf M=>by exact J aZ<|J (gR ..)<|J M (if c:p.1=g then(au c).trans (bV (au<|jn c<|.head _) c Y)else(az c).trans (ite_congr (propext (by refine J aZ ?_;rw [jy,or_iff_right λq=>c q.symm])) (λO=>rfl) λO=>rfl))
def s0(hl:X.right=pre++x::r)(P:I0 X pre rc):W X X.st.length J4 (e0 X rc<|nv X.G x) X.st (LQ none<|LI (F0 X)<|I0 X<|pre++[x]):=
 have B:=hl▸ar _ (.head _)
 have h4:=by refine jn (ag (f:=λp:Nat×List (List Tr)=>p.1))<|aa (pB (n:=X.e+1) P.nk λx B=>?_)<|bq<|i3 .refl;obtain⟨p,N,e9⟩:=mM B;exact jn e9<|cq (P.rg p N).2
 let⟨sp,N,e1⟩:=EV P.nk<|aQ h4<|bM Y;have U:∀i,i∈sp↔i∈rc.map (·.1):=λi=>N.mem_iff;have M:∀i∈sp,X.b<=i/\i<=X.e:=λi L=>by refine(mM<|(U i).mp L).elim λp v=>v.elim λH Q=>?_;exact jn Q<|P.rg p H
 cb (s1:=X.st++[.D []]) Y Y
 (fV (f:=λO=>F1 X rc x sp) (I:=I1 X rc x) ([],[]) ((cx (aA Y aV) e1).trans<|bV ae (aj ..) Y) (n6 wa (by simp only [N.length_eq,ag];exact aa h4<|bM Y)<|aw ..) Y ⟨bh,(λO=>iZ),nofun,nofun,λO O=>rfl⟩ (λO O O=>rfl) (λds i r' q hd hI'=>
  have L:=J hd<|ar _<|.head _;have hR:=P.ok i (M i L).1 (M i L).2
  match hg:fc rc i with
  |none=>absurd ((U i).mp L) (fI.mp hg)
  |some Z=>by
   simp only [Rf,hg] at hR;exact s1 B hg (M i L).1 (M i L).2 (λw hr=>by have H:=congrArg List.length (hR.2.1 w hr).1;rw [ag] at H;exact J H<|aa (by exact J hl<|J ae<|aw ..) X.hr) (J hR.2.2<|fY ..) hI')
 λq A=>cb Y Y (lj X.hc (zs (rc:=q.1.map λp=>(p.1,(Full (Rf rc) (kT X x) sp p.1).take 2)) (TR (Jh .refl mU (by
   delta encD;exact J bJ<|k8 λp N=>J (iQ (aw ..) (Xf.trans<|A.at_ p N)<|bT λO O=>Bv) Y)<|lY (λO=>rfl) _))) (gv _ Y trivial ⟨by
    have:=A.nk;unfold Nk at this⊢;refine J bJ ?_;exact this,λp N=>by refine(mM N).elim λp' v=>v.elim λH Q=>?_;exact jn Q<|A.rg p' H,λj H Q=>by
    have e2:Rf (q.1.map λp=>(p.1,(Full (Rf rc) (kT X x) sp p.1).take 2)) j=(Full (Rf rc) (kT X x) sp j).take 2:=by
     rw [Rf];refine J (Gw (f:=λj=>(Full (Rf rc) (kT X x) sp j).take 2)) ?_;split
     .rfl
     .exact(A.no j ‹_›).symm
    exact J e2<|MD X.hw (N.nodup_iff.mpr P.nk) M (λi O O h3=>by simp only [Rf];exact J (fI.mpr λq=>h3<|(U i).mpr q) Y) P.ok (X.hT x B) (λi j c=>az λq=>Nat.not_lt.mpr q.1 c) H Q⟩)))
theorem ok(X:C){ro}:Wp (kC X.Φ ro X.N sY [jG X.G X.ex,gO X.G X.right,gO X.G X.w,vi X.b,vi X.e,X.tv,vi 2] X.st) λr=>∃R,r=(zo R,X.st)/\CK X.G X.w X.right X.b X.e (mX X.K X.right X.b X.e) R:=
 gT Y (cb (by
   show some (AV.ref (X.st++[AC.L [.aL []]]).length,X.st++[AC.L [.aL []]]++[AC.D [(.i X.b,.ref X.st.length)]])=_;exact bV ae (aj ..) Y) Y (lj X.hc (zs<|TR<|Jh (aw ..) (gx _ _ 1) (by exact J (dq ..)<|J (iQ .refl (gn ..) Y) Y) Y)
  (fV (f:=λO=>F0 X) [(X.b,[[]])] Y (gF<|aa X.hr<|bM Y) Y ⟨Ma ⟨iZ,bh⟩,λp P=>mS P▸⟨aS _,X.Th⟩,λj A B=>by
    delta Rf;exact J (gR ..) (if c:X.b=j then(by
     refine J (au c) ⟨Ma ⟨iZ,bh⟩,λr M=>mS M▸⟨Y,nofun,?_⟩,by rw [mX];exact J (au c) Y⟩;exact J c<|J r8 Y)else J (az c) ⟨bh,nofun,by rw [mX];exact J (az c) Y⟩)⟩ (λO O O=>rfl) (λpre x r rc=>s0) λrc Q=>by
   have H:=p9 (Φ:=X.Φ) (ro:=X.st.length) (o:=.af 7) (ρ:=(F0 X rc).1) (es:=[.af 4,.aM []]) Y Y (aA Y<|aA ((λs=>rfl) X.st) aV) (by show(if ed (.i X.e) (encD ki zo rc)then some ((fP (encD ki zo rc)<|.i X.e).getD<|.ref X.st.length,X.st++[AC.L []])else none)=_;exact J (au<|k9 ..)<|J (f9 qk rc X.e) Y)
   refine jo H ?_ ⟨_,Y,Q.ok X.e X.Th .refl⟩;delta Rf;induction fc rc X.e with
   |none=>exact iQ .refl (gn ..) Y
   |some R=>exact b8 Y)))
end
end Ro
namespace Ro
def Sp(Φ:Fs):Prop:=∀ro (X:C),Wp (Φ ro 393 [jG X.G X.ex,gO X.G X.right,gO X.G X.w,vi X.b,vi X.e,X.tv,vi 2] X.st) λr=>∃R,r=(zo R,X.st)/\CK X.G X.w X.right X.b X.e (mX X.K X.right X.b X.e) R
end Ro
section
variable{k:Nat}{ys:List (KV×AV)}{G:Gr}{T:Ro.OS}
def BQ:∀{es:List (KV×AV)},lF D es=true->cY (λe=>(iH s D d e.2).bind λy=>some (e.1,y)) es=some es:=by intro es;exact es.rec (λh=>rfl) λU es O h=>(Bool.and_eq_true_iff.mp h).elim λN M=>J (dq ..)<|J (b8 N)<|J (Option.bind_some ..)<|J (Option.bind_some ..)<|J (O M) Y
def Rb(h:cY (λe=>(iH s O d e.2).bind λy=>some (e.1,y)) U=ys):jT s O d (.D U)=some (.D ys):=by show(if lF O U then some (AC.D U)else(cY (λe=>(iH s O d e.2).bind λy=>some (e.1,y)) U).bind λys=>some<|AC.D ys)=_;exact if b:lF O U=true then J (au b) (jn (ak<|(BQ b).symm.trans h) Y)else J (az b) (J h Y)
def sI{U:St}(h:f c=some M)(O:cY f t=U):cY f (c::t)=(M::U):=J (dq ..)<|J h<|J (Option.bind_some ..)<|J O Y
def Ht(N:EP y=none)(h:vw s y=.L U)(O:U.length<=2000)(M:k<=1000):nc s y (.to k)=some (.ref s.length,s++[.L (U.take k)]):=by delta nc;refine bV N h ?_;show(if U.length<=lim then(JO U<|.to k).bind λr=>some (AV.ref s.length,s++[.L r])else none)=_;refine J (au<|dE O) ?_;show((if nI (k:Int)then some (U.take ((k:Nat):Int).toNat)else none).bind λr=>some (AV.ref s.length,s++[AC.L r]))=_;exact J (au<|m4<|aa M<|bM Y) Y
def U8{l}(h:vw s y=.T l)(U:l.length<=2000):ku s .list [y]=some (.ref s.length,s++[.L l]):=by show(Bq<|vw s y).bind _=_;refine J h ?_;show(if l.length<=lim then some l else none).bind _=_;exact J (au<|dE U) Y
def Qg:(G.no x).Nodup:=fJ (gC _ fx)<|J (List.zipIdx_map_snd ..) List.nodup_range'
def yN{Φ}{ro}{U}:bZ Φ ro (.aM []) U s=some (.ref s.length,s++[.L []]):=rfl
def M9{k}(h:fc T k=none) v:dput (encD k3 f T) (k3 k) v=encD k3 f T++[(k3 k,v)]:=az λN=>
 (List.any_eq_true.mp N).elim λe U=>U.elim λD O=>
 (mM D).elim λp U=>U.elim λM H=>
 fI.mp h (GL ⟨p,M,su _ _ (by rw [<-H] at O;exact aB O)⟩)
structure CU(G:Gr)(w:List Sy)(C:Sy->List Sy->Nat)(A:Sy)(b j:Nat)(dk:List Nat)(l:List Tr):Prop where
 fW:l.Nodup
 val:∀t∈l,(Val G t/\t.root=A/\yl t=sl w b j)/\∃k∈dk,∃r,t=.node A k r
 len:min 2 l.length=min 2 (dk.map λk=>sq C (qQ G.rl k)<|sl w b j).sum
 kn:l.length<=2*dk.length
def CU.add(h:CU G w C A b j dk l)(hk:k∉dk)(v:G.rl[k]? =(A,qQ G.rl k))(M:CK G w (qQ G.rl k) b j (sq C (qQ G.rl k)<|sl w b j) R):CU G w C A b j (dk++[k]) (l++R.map λr=>Tr.node A k r):=by
 refine⟨List.nodup_append.mpr ⟨h.fW,?_,λt U u q e=>?_⟩,λt U=>(mA U).elim (λU=>?_) λU=>?_,?_,?_⟩
 .exact List.nodup_iff_pairwise_ne.mpr (List.pairwise_map.mpr<|(List.nodup_iff_pairwise_ne.mp M.1).imp λD e=>D<|by injection e)
 .obtain⟨r,_,rfl⟩:=mM q;obtain⟨_,L,O,r',H⟩:=h.val t U;replace H:=e.symm.trans H;injection H with _ e2 _;exact hk<|J e2 O
 .obtain⟨h1,L,O,h2⟩:=h.val t U;exact⟨h1,L,bl _ O,h2⟩
 .obtain⟨r,N,e9⟩:=mM U;exact jn e9<|(M.2.1 r N).elim λX B=>B.elim λQ P=>⟨⟨.node (J X v) Q,Y,P⟩,k,ar _<|.head _,r,Y⟩
 .exact J ae (J (ag _)<|J M.2.2<|J aR<|J fv<|J List.map_singleton<|J List.sum_singleton<|J (ck ..)<|J (mr ..)<|J (ck ..)<|jn (mr ..)<|J h.len<|mr ..)
 .exact bV ae ae (bV (ag _) (gy ..)<|eO h.kn<|J M.2.2<|fY ..)
def BK(h:k∈G.no x):G.rl[k]? =(x,qQ G.rl k):=by refine(BJ h).elim λp U=>U.elim λO M=>?_;refine jn M ?_;rw [qQ,O];rfl
def CU.done(h:CU G w C A b j (G.no A) l)(O:C A (sl w b j)=((G.no A).map λk=>sq C (qQ G.rl k)<|sl w b j).sum):wO G w A b j (C A<|sl w b j) (l.take 2):=
 ⟨h.fW.sublist<|eK ..,λt U=>(h.val t<|List.mem_of_mem_take U).1,bV cL O h.len⟩
def wO.zero:wO G w A i j 0 []:=⟨bh,nofun,Y⟩
namespace To
def Yzq(G:Gr)(w:List Sy)(C:Sy->List Sy->Nat)(x:Sy)(i m:Nat)(o:Option (List Tr)):Prop:=wO G w x i (i+m) (C x<|sl w i<|i+m)<|o.getD []
def Vi(h:G.Ok)(H:Ch G (Yzq G w C) T (Pc G w len b pre))(D:x∈G.cK)(M:b+len<=w.length)(L:b<=i)(O:i+m<=b+len):
  wO G w x i (i+m) (Da G C len pre x<|sl w i<|i+m) (Ro.kK G w (b+len) T x i<|i+m):=by
 rw [Ro.kK,au ⟨aw ..,O⟩,Da];by_cases U:x∈G.tm
 .exact bV (au U) (au U) (if c:sl w i (i+m)=[x] then J (au c) (J (au ⟨((Dg<|aa O M).mp c).1,congrArg (i+ ·) ((Dg<|aa O M).mp c).2⟩) ⟨Ma ⟨nofun,bh⟩,λt N=>mS N▸⟨.leaf U,Y,c.symm⟩,Y⟩)else J (az c) (J (az λq=>c<|(Dg<|aa O M).mpr ⟨q.1,hX q.2⟩) .zero))
 .exact bV (az U) (az U) (if c:(sl w i<|i+m).length<len\/x∈pre then J (au c) (H.yes x i m<|(yY ((mA D).resolve_left U) L O M).mpr c)else bV (az c) (H.zero h.dN λq=>c<|(yY ((mA D).resolve_left U) L O M).mp q) .zero)
end To
end
namespace To
structure C where
 Φ:Fs
 G:Gr
 e:Ex
 N:Nat
 st:St
 w:List Sy
 K:Sy->List Sy->Nat
 h:G.Ok
 hg:KS Φ G e
 hM:NI Φ
 hR:Ro.Sp Φ
 hc:Cl st
 hl:w.length<=3
 hw:∀x∈w,x∈G.tm
 hS:Sem G (λu9=>True) K
def env(X:C)(ord:List Sy)(o5 o6 D N M O U:Option AV:=none):En:=[some (jG X.G X.e),some<|gO X.G X.w,some<|vi 2,some<|.aM<|ord.map<|nv X.G,some<|.ref X.st.length,o5,o6,D,N,M,O,U]
def bz(X:C)(T:Ro.OS)(m:St):St:=X.st++ .D (encD k3 kF T)::m
section
variable{X:C}{T:Ro.OS}{l:List Tr}
abbrev W(X:C)(O:Nat)(U:List S)(ρ:En)(s:St)(Q:Out×En×St->Prop):Prop:=Wp (cg X.Φ X.st.length X.N O U ρ s) Q
abbrev V(X:C)(e:E)(ρ:En)(s:St)(r:AV×St):Prop:=bZ X.Φ X.st.length e ρ s=some r
def mU:(bz X T m)[X.st.length]? =some (.D<|encD k3 kF T):=gn ..
def wa:(bz X T (c::m))[X.st.length+1]? =c:=gx _ _ 1
def TG:gp O (.D<|encD k3 kF T)=true:=fL<|lY (λU=>rfl) T
def Wg:gp U (.L<|l.map iy)=true:=dB<|lW l
def Xc:Cl (bz X T [.L (l.map iy)]):=X.hc.app λc U=>(mO U).elim (λe=>J e TG) λh=>J (mS h) Wg
def eI(X:C)(ord:List Sy)(len b:Nat)(A:Sy)(M O U:Option AV:=none):En:=env X ord (vi len) (vi b) (nv X.G A) (some<|.ref<|X.st.length+1) M O U
noncomputable def UX:E:=.new 323 [.sub (.bG (.af 0) 11) (.af 7),.af 9,.bA .list [.af 11]] false
def H5(O:A∈X.G.cK)(U:r.length<=4):V X UX (eI X ord len b A (vi k) M<|ky r) (bz X T m) (iy<|Tr.node A k r,bz X T m++[.L (r.map iy)]):=
 (Em (aA (dh (dM Y vZ) Y<|me Y (aa (bx<|Gr.jE O)<|aa X.h.dN<|bM Y)<|Gr.jz O)<|aA Y<|aA (cx (aA Y aV)<|U8 Y (by rw [ag];exact aa U<|bM Y)) aV) Y (X.hM.tree (by refine J ae ?_;rw [bz];exact J ae<|J (bB ..)<|aw ..) Y Y (aq (by rw [ae];exact a6 _)) (J bS<|J (gn ..) Y) (lW r) (by rw [ag];exact aa U<|bM Y)) Y).trans (by rw [iy,uz])
def FR(X:C)(ord:List Sy)(len b:Nat)(A:Sy)(O U:Option AV)(T:Ro.OS)(l:List Tr):En×St:=(eI X ord len b A O U,bz X T [.L (l.map iy)])
def pQ:List S:=[.exp (.bR (.af 8) .append [UX]),.gc [11]]
def s3(P:A∈X.G.cK)(O:r.length<=4)(M:l.length<=1000)(Q:belows (X.st.length+2) (p.map<|nv X.G)=true)(N:l=U++d.map λr=>Tr.node A k r)(H:(d++[r]).map (Tr.node A k)=d.map (Tr.node A k)++[Tr.node A k r]):
  W X (X.st.length+2) pQ (eI X ord len b A (vi k) (gO X.G p)<|ky r) (bz X T [.L (l.map iy)]) (LQ none<|LI (FR X ord len b A (vi k) (gO X.G p) T) λl=>l=U++(d++[r]).map λr=>Tr.node A k r):=
 iP (jS Y wa (H5 P O) ((bW (by rw [bz];exact J ae<|a6 _)).trans wa) (J (ag _)<|fH<|aa M<|bM Y)<|b0 _) (J (show(bz X T [.L (l.map iy)]++[AC.L (r.map iy)]).set (X.st.length+1) (.L<|l.map iy++[iy (Tr.node A k r)])=X.st++[.D (encD k3 kF T),.L<|(l++[Tr.node A k r]).map iy,.L (r.map iy)] by rw [bz];exact J (aj ..)<|bV (sx ..) aR Y)<|oF Y X.hc (bM Y) (sI (dK TG)<|sI (dK Wg) Y) (aD (bI Y)<|aD (bI<|gz ..)<|aD (bI Y)<|aD (bI Y)<|aD (bI<|aq<|bX<|bO 1)<|aD (bI Y)<|aD (bI Y)<|aD (bI Y)<|aD (bI<|aq<|a6 _)<|aD (bI Y)<|aD (bI<|gz ..) Y)<|gv (l++[Tr.node A k r]) Y trivial<|by rw [H,N,aj])
def T0(M:Ch X.G (Yzq X.G X.w X.K) T (Pc X.G X.w len b pre))(U:x∈X.G.tm)(i j):fc T (X.G.num x,i,j)=none:=fI.mpr λO=>
 let⟨y,k,m,h1,h2⟩:=M.no _ O
 X.h.jF.mp h1.1 (X.h.PA y (Gr.mZ X.h.dN (congrArg (·.1) h2)▸U))
def cR(X:C)(T:Ro.OS)(len b:Nat)(pre:List Sy)(k:Nat)(l:List Tr)(hr:(qQ X.G.rl k).length<=4/\(∀x∈qQ X.G.rl k,x∈X.G.cK))(O:b+len<=X.w.length)(hT:Ch X.G (Yzq X.G X.w X.K) T (Pc X.G X.w len b pre)):Ro.C:=
 {Φ:=X.Φ,G:=X.G,ex:=X.e,N:=X.N,st:=bz X T [.L (l.map iy)],right:=qQ X.G.rl k,w:=X.w,b:=b,e:=b+len,tv:=.ref X.st.length,T:=T,K:=λx i j=>Da X.G X.K len pre x<|sl X.w i j,h:=X.h,hM:=X.hM,hc:=Xc,hr:=hr.1,Vo:=hr.2,hv:=by rw [bS,mU],Yd:=aq (by rw [bz,ae];exact bX<|bO _),Th:=aw _ _,hw:=O,vr:=X.hl,Yc:=X.hw,hT:=λx U i j H D M=>by obtain⟨m,rfl⟩:=ej D;exact Vi X.h hT (hr.2 x U) O H M,Vs:=λx U i j=>T0 hT U i j}
def vT:List S:=[.aU (.v 10) (.bG (.sub (.bG (.af 0) 13)<|.af 9) 6),.dT (.v 11) (.lO 393 [.af 0,.af 10,.af 1,.af 6,.b6 .add (.af 6)<|.af 5,.af 4,.af 2]) pQ,.jU [9,10]]
def s2(o:Ord X.G X.K ord)(v:ord=pre++A::post)(q:b+len<=X.w.length)(p:Ch X.G (Yzq X.G X.w X.K) T (Pc X.G X.w len b pre))(j:X.G.no A=dk++k::rk)(g:CU X.G X.w X.K A b (b+len) dk l):
  W X (X.st.length+2) vT (eI X ord len b A<|vi k) (bz X T [.L (l.map iy)]) (LQ none<|LI (FR X ord len b A none none T)<|CU X.G X.w X.K A b (b+len)<|dk++[k]):=
 have M:=J j<|ar _<|.head _;have H:=aN<|BK M;have O:=X.h.rr _ H
 (X.hR X.st.length<|cR X T len b pre k l ⟨O.1,O.2.1⟩ q p).elim λ_ D=>D.elim λt D=>D.elim λR D=>D.elim λc i=>
 have N:CK X.G X.w (qQ X.G.rl k) b (b+len) (sq X.K (qQ X.G.rl k)<|sl X.w b<|b+len) R:=jn (O0 X.h X.hS o v H Y<|(fD (aw b len) q).trans<|bY ..)<|jn (C7 _ _ _ (aw ..) q) i;have P:=J N.2.2<|fY ..
 cb (dM (dh (dM Y oZ) Y<|qo X.h.mi<|BK M) vY) Y
 (fV (f:=λB=>FR X ord len b A (vi k) (gO X.G<|qQ X.G.rl k) T) (I:=λd Q=>Q=l++d.map (Tr.node A k)) l (fK (aA Y<|aA Y<|aA Y<|aA Y<|aA (dy Y Y il)<|aA Y<|aA Y aV)<|c▸t) (dx<|aa P<|bM Y) Y (aC _).symm (λB B B=>rfl) (λd r rest Q y U=>by
  refine J ae (s3 (ar _<|(o.mem A).mp<|J v<|ar _<|.head _) ?_ ?_ (gz ..) U aR)
  .have:=congrArg List.length (N.2.1 r<|J y<|ar _<|.head _).1;rw [ag] at this;exact J this O.1
  .exact J U (J ae<|J (ag _)<|aa (eO (aa g.kn<|cI 2<|aa (aa (aw ..)<|aG<|by exact J j<|J ae Y)<|aa sg X.h.mi)<|aa (by exact J y<|J ae<|aw ..) P)<|bM Y))
 λQ U=>d9<|gv Q Y trivial<|J U<|g.add (λm=>(nA<|jn j Qg).2.2 k m k (.head _) Y) (BK M) N)
def MF{k}(D:gD U=true)(h:s[n]? =some (.L U))(N:fl<=n):cY (λe=>(iH s fl 6 e.2).bind λy=>some (e.1,y)) (encD k3 kF T++[(k,.ref n)])=some (encD k3 kF T++[(k,.aM U)]):=J (q5 ..)<|J (l5 λp M=>by refine(mM M).elim λq O=>O.elim λ_ H=>?_;refine jn H ?_;exact J (b8 Y) Y)<|J (Option.bind_some ..)<|J (dq ..)<|J (iQ N h D) Y
def MW(h:fc T q=none):encD k3 kF T++[(k3 q,.aM<|(l.map iy).take 2)]=encD k3 kF (oh T q<|l.take 2):=by refine J (kb (fI.mp h) _) ?_;rw [encD,encD];refine J aR<|jn List.map_take ?_;rfl
def FS(X:C)(ord:List Sy)(len b:Nat)(T:Ro.OS):En×St:=(env X ord (vi len)<|vi b,bz X T [])
def tI:List S:=[.aU (.v 8) (.aM []),.dT (.v 9) (.bR (.af 0) (.user 3) [.af 7]) vT,.jt (.bk .ne (.af 8)<|.aM []) [.aU (.sub (.af 4)<|.aL [.af 7,.af 6,.b6 .add (.af 6) (.af 5)]) (.tO (.af 8)<|.af 2)] [],.gc [7,8]]
def zS:cY (lx s<|X.st.length+1) (dO [7,8] (eI X ord len b A))=(env X ord (vi len)<|vi b):=
 aD (bI Y) (aD (bI<|gz ..)<|aD (bI Y)<|aD (bI Y)<|aD (bI<|aq<|a6 _)<|aD (bI Y)<|aD (bI Y) Y)
theorem s1(M:Ord X.G X.K ord)(O:ord=pre++A::post)(B:b+len<=X.w.length)(U:Ch X.G (Yzq X.G X.w X.K) T (Pc X.G X.w len b pre)):
  W X (X.st.length+1) tI (env X ord (vi len) (vi b)<|nv X.G A) (bz X T []) (LQ none<|LI (FS X ord len b) λT=>Ch X.G (Yzq X.G X.w X.K) T<|Pc X.G X.w len b<|pre++[A]):=
 have H:=(M.mem A).mp<|J O<|ar _<|.head _
 cb (yN.trans (by rw [bz];exact bV (aj ..) ae Y)) Y
 (fV (f:=λP=>FR X ord len b A none none T) [] (m7 Y Y (aA Y aV)<|X.hg.XW _ _ A<|ar _ H) (dx<|aa sg<|aa X.h.mi<|bM Y) Y ⟨bh,nofun,Y,aS _⟩ (λP P P=>rfl) (λdk k rk l y N=>J ae<|s2 M O B U y N)
 λl N=>
  have Q:=N.done (X.hS.nt A H _)
  have j:V X (.bk .ne (.af 8)<|.aM []) (eI X ord len b A) (bz X T [.L (l.map iy)]) (.bool<|!decide (l.map iy=[]),bz X T [.L (l.map iy),.L []]):=
   cp Y (yN.trans (by rw [bz];exact bV (aj ..) ae Y)) (DB (J bS<|J wa Y) (by refine J bS ?_;rw [bz];exact J (gx ..) Y) Y)
  if c:l.map iy=[] then
   jl ((aq c)▸j) (oF Y X.hc (bM Y) (sI (dK TG) Y) zS<|gv T Y trivial<|U.skip X.h.dN (by rw [List.map_eq_nil_iff.mp c] at Q;exact Q)<|uo H B)
  else
   lK ((aF c)▸j) (nE (x:=.ref<|X.st.length+3) (s1:=bz X T [.L (l.map iy),.L [],.L ((l.map iy).take 2)]) (vJ Y Y<|(Ht Y (J bS<|J wa Y) (J (ag _)<|aa (aa N.kn<|cI 2<|aa sg X.h.mi)<|bM Y)<|bM Y).trans (by rw [bz];exact bV (aj ..) ae Y)) Y (mH (aA Y<|aA Y<|aA (dy Y Y il) aV)<|bM Y) mU Y (mx ..) (J (gU _)<|aQ (U.kn X.h.dN X.hl)<|bM Y) .refl (by refine J (M9 (U.zero X.h.dN λq=>(q.2.2.resolve_left<|cu _).2.elim (cu _) λq=>(nA<|jn O M.fW).2.2 A q.2 A (.head _) Y) _)<|J (rW ..) ?_;have v:=(MF (fl:=X.st.length+1) (by exact jn List.map_take<|lW _) (gx X.st [AC.D (encD k3 kF T++[(k3<|Ky X.G A b len,.ref<|X.st.length+3)]),.L<|l.map iy,.L [],.L ((l.map iy).take 2)] 3)<|cV (bM Y) _).trans<|congrArg some<|MW<|U.zero X.h.dN λq=>(q.2.2.resolve_left<|cu _).2.elim (cu _) λq=>(nA<|jn O M.fW).2.2 A q.2 A (.head _) Y;exact bU<|oF Y X.hc (bM Y) (sI (Rb v) Y) zS<|gv (oh T (Ky X.G A b len)<|l.take 2) Y trivial<|U.put X.h.dN Q<|uo H B)))
def ok(X:C)(B:AO X.Φ X.G X.e X.K):Wp (kC X.Φ ro X.N vz [jG X.G X.e,gO X.G X.w,vi 2] X.st) λr=>∃l,r=(kF l,X.st)/\wO X.G X.w .s 0 X.w.length (X.K .s X.w) l:=
 gT Y
 (let⟨_,e1,ord,e2,B⟩:=B X.st.length X.st X.hc
 have Q:∀k,X.w.length+1-k<=4:=λk=>aa (cP ..)<|bq X.hl;have H:∀ρ s,ρ[1]? =some (some<|gO X.G X.w)->V X (.b6 .add (.bA .len [.af 1])<|.aI<|.int 1) ρ s (vi<|X.w.length+1,s):=λρ s h=>dy (cx (aA (J j9<|J h Y) aV)<|(λs=>sW<|aa X.hl<|bM Y) _) cD il
 cb (fK (aA Y aV)<|jn e2 e1) Y
 (cb n9 Y
 (fV (f:=λO T=>(env X ord,bz X T [])) [] (cx (aA (H _ _ Y) aV)<|nX<|aa (Q 0)<|bM Y) (oN<|aa X.hl<|bM Y) Y (Ch.nil.same AQ) (λO O O=>rfl) (λd len r T g M=>
  have U:=kZ g
  fV (f:=λO T=>(env X ord<|vi len,bz X T [])) T (cx (aA (dy (H _ _ Y) Y<|xT<|J U.1<|bx U.2) aV)<|nX<|aa (Q _)<|bM Y) (t7<|aa (Q _)<|bM Y) Y (J U.1 M) (λO O O=>rfl) (λc b r T j M=>
   have P:=kZ j
   fV (f:=λO=>FS X ord len b) (I:=λpre T=>Ch X.G (Yzq X.G X.w X.K) T<|Pc X.G X.w len b pre) T Y (dx<|aa (gE B.fW)<|bM Y) Y (J P.1 M) (λO O O=>rfl) (λpre A post T y M=>by rw [show ∀T,(FS X ord len b T).2.length=X.st.length+1 from λO=>ae];exact s1 B y ((λb h=>aK<|Nat.add_lt_of_lt_sub h) b<|J P.1 P.2) M)
   λT M=>d9<|gv T Y trivial<|J ae<|jn P.1<|M.same<|Km B.mem)
  λT M=>d9<|gv T Y trivial<|J ae<|jn U.1<|(aO▸M).same<|Kl<|J U.1<|aK U.2)
 λT M=>by
  obtain⟨i,p,_⟩:=X.h.rl;rw [aO] at M;have q:wO _ _ _ _ _ _ _:=M.yes .s 0 X.w.length ⟨X.h.jF.mpr<|by decide,aG<|bu _,.inl<|a6 _⟩;rw [bu,nW] at q
  have v:=p9 (Φ:=X.Φ) (ro:=X.st.length) (o:=.af 4) (ρ:=env X ord) Y (E2<|J bS<|J mU Y) (aA (mH (aA (dh (dM (dh (dM (o:=.af 0) Y oZ) (cD (a:=vi 0))<|qo X.h.mi<|J p Y) vY) (cD (a:=.int 0)) Y)<|aA (cD (a:=vi 0))<|aA (cx (aA (e:=.af 1) Y aV)<|(λs=>sW<|aa X.hl<|bM Y) _) aV)<|bM Y)<|aA yN aV) (r:=(((fc T<|Ky X.G .s 0 X.w.length).map kF).getD<|.ref<|X.st.length+1,bz X T [.L []])) (by show Jb _ _ _ (vw (X.st++[AC.D (encD k3 kF T)]++[AC.L []]) _)=_;rw [aj,bS,List.singleton_append,gn];show(if ed (.t [.int (X.G.num .s),.int (0:Nat),.int X.w.length]) (encD k3 kF T)then some ((fP (encD k3 kF T)<|k3 (X.G.num .s,0,X.w.length)).getD _,_)else none)=_;refine J (au<|mx ..)<|J (f9 su ..) ?_;rw [Ky,bu,bz];exact bV (aj ..) ae Y)
  refine jo v ?_ ⟨_,Y,q⟩;induction fc T (Ky X.G .s 0 X.w.length)with
  |none=>exact iQ (b0 _) (gx _ _ 1) Y
  |some R=>exact b8 Y)))
end
end To
noncomputable def kids:Tr->List Tr
 | .leaf _=>[]
 | .node _ _ U=>U
def Tr.ind{P:Tr->Prop}(M:∀x,P<|.leaf x)(O:∀A k cs,(∀c∈cs,P c)->P (.node A k cs)) t:P t:=
 Tr.rec M O nofun (λU U D N=>List.forall_mem_cons.mpr ⟨D,N⟩) t
noncomputable def fold(M:Sy->β)(O:Sy->Nat->List Tr->List β->β)(t:Tr):β:=Tr.rec (motive_1:=λU=>β) (motive_2:=λU=>List β) M O [] (λU U b N=>b::N) t
def Vz:∀cs:List Tr,Tr.rec_1 O U [] (λM M b D=>b::D) cs=cs.map (fold O U):=λcs=>cs.rec Y λc cs N=>congrArg (fold O U c:: ·) N
def sC:fold M O (.node A k U)=O A k U (U.map<|fold M O):=congrArg (O A k U)<|Vz U
def post:Tr->List Tr:=fold (λx=>[.leaf x]) λA k U O=>O.flatten++[.node A k U]
def fy:Tr->AV:=fold (λx=>.aL [b5 x,b5 x]) λA U U O=>.aL (b5 A::O)
def wm:Tr->Nat:=fold (λU=>1) λU U U O=>1+O.sum
def oA(U:List Tr):Nat:=(U.map wm).sum
def sa t:post t=(kids t).flatMap post++[t]:=t.casesOn (λx=>rfl) λA k U=>sC
def kD:fy (.node A k U)=.aL (b5 A::U.map fy):=sC
def mh t:wm t=1+oA (kids t):=t.casesOn (λx=>rfl) λA k U=>sC
def SN:oA (t::U)=wm t+oA U:=rfl
def uC:oA (l++m)=oA l+oA m:=by rw [oA];exact J aR fv
def Dh t:1<=wm t:=mh t▸aw ..
def qO:∀l:List Tr,l.length<=oA l:=λl=>l.rec (aS _) λc l U=>J bj<|J (ck ..)<|eO (Dh c) U
def zh:∀{l:List Tr},t∈l->wm t<=oA l:=by
 intro l;exact l.rec iZ λc l U=>by
  intro h;rcases mO h with rfl|h
  .exact aw ..
  .exact aa (U h) (cJ ..)
def Fb(h:∀c∈U,(post c).length=wm c):(U.flatMap post).length=oA U:=J gg<|congrArg List.sum<|aX h
def zx:∀t,(post t).length=wm t:=Tr.ind (λU=>rfl) λA k O h=>by simp only [sa,mh,ae,ck];exact congrArg (1+ ·)<|Fb h
def Bb:∀t,f7 (fy t)=true:=Tr.ind (λU=>rfl) λA k O h=>J kD<|bT h
def oj(D:List AV)(t:Tr):List AV:=match t with
 | .leaf x=>D++[fy (.leaf x)]
 | .node A _ U=>D.take (D.length-U.length)++[.aL (b5 A::D.drop (D.length-U.length))]
def Good(D:List AV)(l:List Tr):Prop:=∀p n r,l=p++n::r->(kids n).length<=(p.foldl oj D).length
def Ae(N:Good D l)(M:Good (l.foldl oj D) m):Good D (l++m):=λp n r e=>by
 rcases List.append_eq_append_iff.mp e with ⟨a,O,U⟩|⟨c,O,U⟩
 .exact J O (J ft<|M a n r U)
 .induction c with
  |nil=>rw [aC] at O;exact O▸M [] n r U.symm
  |cons x c=>injection U with U e3;exact N p n c<|bV O U Y
def Ad(h:(kids t).length<=D.length):Good D [t]:=λp n r e=>by
 induction p with
 |nil=>injection e with e1;exact jn e1 h
 |cons y p=>injection e with _ e2;exact absurd e2 (List.append_ne_nil_of_right_ne_nil p<|gB n r).symm
def OU(t:Tr):Prop:=∀D,(post t).foldl oj D=D++[fy t]/\Good D (post t)
def E9:∀{cs:List Tr},(∀c∈cs,OU c)->∀D,(cs.flatMap post).foldl oj D=D++cs.map fy/\Good D (cs.flatMap post):=by
 intro cs;exact cs.rec (λh D=>⟨(aC _).symm,λp n r e=>absurd e.symm<|List.append_ne_nil_of_right_ne_nil p<|gB n r⟩) λc cs O=>by refine λh D=>(h c (.head _) D).elim λU L=>(O (λc M=>h c<|.tail _ M)<|D++[fy c]).elim λH N=>J iX ⟨?_,Ae L<|J U N⟩;simp only [ft,U,H,aj];rfl
def zw:∀t,OU t:=Tr.ind (λx D=>⟨Y,Ad<|bf _⟩) λA k U h D=>by
 obtain⟨O,N⟩:=E9 h D;have M:(D++U.map fy).length-U.length=D.length:=J ae<|J (ag _)<|Nat.add_sub_cancel ..;refine J (sa _) ⟨?_,Ae N ?_⟩
 .refine J ft (bV (show(kids<|.node A k U)=U from Y) O<|J List.foldl_cons<|J List.foldl_nil ?_);rw [oj,M,List.take_left' Y,jC Y,kD]
 .exact bV (show(kids<|.node A k U)=U from Y) O (Ad<|J ae<|J (ag _)<|cJ ..)
def EI D t:(oj D t).length<=D.length+1:=t.casesOn (λx=>aG ae) λA k U=>J ae<|J cL<|c8 (jg ..) 1
def A9:∀(l:List Tr) (D:List AV),(l.foldl oj D).length<=D.length+l.length:=λl=>l.rec (λD=>aS _) λa l U D=>aa (U<|oj D a)<|aa (c8 (EI D a) _)<|aG<|J (bB ..)<|J (ck 1 _) Y
def Tells(G:Gr)(t:Tr):Prop:=Val G t->∀u,Val G u->fy t=fy u->t=u
def EK:∀{cs U:List Tr},(∀c∈cs,Tells G c)->(∀c∈cs,Val G c)->(∀d∈U,Val G d)->cs.map fy=U.map fy->cs=U:=by
 intro cs;induction cs with
 |nil=>
  intro U h N M e;induction U with
  |nil=>exact rfl
  |cons d U=>injection e
 |cons c cs D=>
  intro U h N M e;induction U with
  |nil=>injection e
  |cons d U=>injection e with e1 e2;exact bV (h c (.head _) (N c<|.head _) d (M d<|.head _) e1) (D (λc O=>h c<|.tail _ O) (λc O=>N c<|.tail _ O) (λc O=>M c<|.tail _ O) e2) Y
def CZ x A k U(e:fy (.leaf x)=fy (.node A k U)):False:=by
 injection e with e;injection e with _ e;induction U with
 |nil=>injection e
 |cons c U=>
  injection e with e;cases c with
  |leaf y=>injection e
  |node B l O=>simp only [kD] at e;injection e
def G7(D:∀(i j:Nat) p,G.rl[i]? =some p->G.rl[j]? =some p->i=j):∀t,Tells G t:=Tr.ind (λx O u O e=>by
 cases u with
 |leaf y=>injection e with e;injection e with e;exact congrArg _ (lQ e)
 |node A k U=>exact(CZ x A k U e).elim) λA k U h N u M e=>by
 cases u with
 |leaf y=>exact(CZ y A k U e.symm).elim
 |node B l X=>
  simp only [kD] at e;injection e with e;injection e with e1 e2;cases N with
  |node Q P=>
   cases M with
   |node L H=>obtain rfl:=EK h P H e2;obtain rfl:=lQ e1;exact J (D k l _ Q L) Y
section
variable{r:AV×St}{k:Nat}
def VK(D:bZ Φ M o U O=(x,s1))(N:nc s1 x .rev=r):bZ Φ M (.GJ o) U O=r:=J Rv<|J D N
def Hr(M:EP y=none)(h:vw s y=.L U)(O:U.length<=2000):nc s y b=(JO U b).bind λr=>some (.ref s.length,s++[.L r]):=by delta nc;exact bV M h<|au<|dE O
def Ux(N:EP y=none)(h:vw s y=.L U)(O:U.length<=2000)(M:k<=1000):nc s y (.m5 k)=some (.ref s.length,s++[.L (U.drop k)]):=(Hr N h O).trans<|eY (congrArg _<|au<|m4<|aa M<|bM Y) _
def RX(h:bZ Φ O e U s=some (x,s1)):bZ Φ O (.aM [e]) U s=some (.ref s1.length,s1++[.L [x]]):=J kL<|J (aA h aV) Y
def ON t:og s (iy t) 23=some (.aM<|(kids t).map iy):=t.casesOn (λx=>rfl) λA k U=>by show og s (.obj 323 [(21,b5 A),(22,vi k),(23,.aM<|Le U)]) 23=_;exact J (uz _) Y
namespace Po
def env(t:Tr)(st:St)(O U:Option AV:=none):En:=[some (iy t),some<|.ref st.length,some<|.ref<|st.length+1,O,U]
def bz(st:St)(q:List Tr×List Tr)(m:St):St:=st++ .L (q.1.map iy)::.L (q.2.map iy)::m
def F(t:Tr)(st:St)(q:List Tr×List Tr):En×St:=(env t st,bz st q [])
structure I(t:Tr)(k:Nat)(q:List Tr×List Tr):Prop where
 eq:q.1++(q.2.flatMap post).reverse=(post t).reverse
 le:q.1.length+oA q.2<=900
 k:k=oA q.2
def mU:(bz U q m)[U.length]? =some (.L<|q.1.map iy):=gn ..
def wa:(bz st q m)[st.length+1]? =some (.L<|q.2.map iy):=gx _ _ 1
def wA:(bz st q m).set (st.length+1) (.L<|l.map iy)=bz st (q.1,l) m:=sx _ _ 1 _
def TG{l:List Tr}:gp U (.L<|l.map iy)=true:=dB<|lW l
def turn(B:Cl U)(Q:q.2=M++[u])(H:I t k q):Wp (cg Φ U.length N (U.length+2) AZ (env t U)<|bz U q [.L []]) (WQ (F t U) (I t) k):=
 have P:oA q.2=oA M+(1+oA (kids u)):=J Q<|J uC<|jn (mh _) Y;have O:=aa (aa (eO (qO M)<|aa (qO<|kids u)<|cJ _ 1)<|cJ _ q.1.length)<|jn P H.le
 cb ((OA Y (wa.trans<|J Q<|J aR Y) (by exact J (ag _)<|fH<|aa (aa (aw ..) O)<|bM Y)<|b0 _).trans<|by exact J wA Y) Y
 (iP ((jS Y mU Y mU (by exact J (ag _)<|fH<|aa (aa (aw ..) H.le)<|bM Y) .refl).trans<|J ((aR (l₂:=[u])).symm)<|J (rW ..) Y)
 (fV (f:=λd o=>(env t U (iy u) o,bz U (q.1++[u],M++d) [.L []])) (I:=λD D=>True) none ((dM Y<|ON u).trans<|J (aC _) Y) (dx<|aa (aa (cJ ..) O)<|bM Y) Y trivial (λD D D=>rfl) (λd c r o X D=>iP ((jS Y wa Y wa (J (ag _)<|J ae<|fH<|aa (cV (aa (aw ..)<|aG<|by exact J X<|J ae Y) _)<|aa O<|bM Y)<|b0 _).trans<|by exact J (show(M++d).map iy++[iy c]=(M++(d++[c])).map iy by exact jn (aj ..)<|(aR (l₂:=[c])).symm)<|J wA Y)<|gv (iy c) Y trivial trivial)
 λo D=>oF Y B (bM Y) (sI (dK TG)<|sI (dK TG) Y) (aD (bI<|dz<|kY t)<|aD (bI<|aq<|bX<|bM Y)<|aD (bI<|aq<|a6 _) Y)
 (HH (q.1++[u],M++kids u) (oA<|M++kids u) Y (J H.k<|bV P uC<|cc (Nat.lt_add_of_pos_left Nat.one_pos) _) ⟨jn H.eq<|J Q<|bV cX cX<|bV List.reverse_append List.reverse_append<|J (show [u].flatMap post=post u from aC _)<|J (sa u)<|bV List.reverse_append (aj ..) Y,by refine bV ae uC<|J (bB ..) ?_;exact aa (cV (aG<|Nat.add_left_comm ..) _)<|jn P H.le,Y⟩)))
def ok(P:Cl st)(M:wm t<=900)(Q:900<N):kC Φ ro N sZ [iy t] st=some (.aM<|(post t).map iy,st):=
 Wp.eq (gT Y (cb yN Y (cb ((RX Y).trans<|bV ae (aj ..) Y) Y
 (HD (I:=I t) ([],[t]) (aQ M Q) Y ⟨J (show [t].flatMap post=post t from aC _) Y,J (show oA [t]=wm t from eR _)<|jn (bu _).symm M,(eR _).symm⟩ λk q U=>
  have O:bZ Φ st.length (.bk .ne (.af 2)<|.aM []) (F t st q).1 (F t st q).2=some (.bool<|!decide (q.2.map iy=[]),bz st q [.L []]):=cp Y (yN.trans (by simp only [F,bz,aj,ae];rfl)) (DB (by simp only [bS,wa]) (by refine J bS ?_;rw [bz];exact J (gx ..) Y) Y)
  if c:q.2=[] then
   .inl ⟨_,(c▸O),by have D:(q.1.map iy).reverse=(post t).map iy:=jn List.map_reverse<|jn (aC q.1)<|J (show([]:List Tr)=(q.2.flatMap post).reverse by exact J c Y)<|J U.eq<|J (List.reverse_reverse _) Y;have H:(q.1.map iy).length<=2000:=J (ag _)<|aa (aa (aw ..) U.le)<|bM Y;exact jo ((VK Y<|Hr Y (by simp only [bS,mU]) H).trans (by simp only [D,bz,aj,ae];rfl)) (iQ (aw ..) (gx _ _ 3)<|lW _) Y⟩
  else
   .inr ⟨bz st q [.L []],by rw [aF λh=>c (List.map_eq_nil_iff.mp h)] at O;exact O,J U.k<|aJ (List.length_pos_iff.mpr c)<|qO q.2,J ae<|turn P (List.dropLast_concat_getLast c).symm U⟩))))
end Po
def SD(Φ:Fs):Prop:=∀ro st t,Cl st->wm t<=900->Φ ro 367 [iy t] st=some (.aM<|(post t).map iy,st)
end
structure Wq(Φ:Fs):Prop where
 lf:∀ro st x,Φ ro 348 [iy (.leaf x)] st=some (.bool true,st)
 nd:∀ro st A k cs,Φ ro 280 [iy (.node A k cs)] st=some (.bool false,st)
 tk:∀ro st x,Φ ro 83 [ux x] st=some (fy<|.leaf x,st)
def BY:kC Φ O N oS [a] U=some (.bool true,U):=Wp.eq<|gT Y<|mj cD Y Y
def Ba:kC Φ O N oR [a] U=some (.bool false,U):=Wp.eq<|gT Y<|mj cD Y Y
def wu:kC Φ O N rC [ux x] U=(fy<|.leaf x,U):=Wp.eq<|gT Y<|mj (mH (aA (dM Y Y)<|aA (dM Y Y) aV)<|bM Y) Y Y
def y7(h:vw s y=.L U)(O:U.length<=2000):ku s .tuple [y]=some (.aL U,s):=by show(Bq<|vw s y).bind _=_;refine J h ?_;show(if U.length<=lim then some U else none).bind _=_;exact J (au<|dE O) Y
def YW(h:O.length+U.length<=2000):mT s .add (.aL O) (.aL U)=some (.aL<|O++U,s):=au<|dE h
def qH(h:s[n]? =some (.L l)):vw s (.ref n)=.L l:=by simp only [bS,h]
def ap4{a d}:U++m++[a]++[b]++[c]++[d]=U++(m++[a,b,c,d]):=J (aj ..)<|J (aj ..)<|J (aj ..)<|aj ..
def ln3{a}:(U++m++[a]++[b]++[c]).length=U.length+(m.length+3):=by simp only [ae];exact bB _ _ 3
namespace Td
def F(t:Tr)(st:St)(q:St×Nat):En×St:=([some (iy t),some<|.ref q.2,none,none],st++q.1)
def I(st:St)(U:List Tr)(q:St×Nat):Prop:=st.length<=q.2/\(st++q.1)[q.2]? =some (.L<|U.foldl oj [])
def turn(B:Wq Φ){q:St×Nat}(Q:O.length<=q.2)(H:(O++q.1)[q.2]? =some (.L D))(P:D.length<=900)(w:(kids u).length<=D.length):
  Wp (cg Φ O.length N fl AZ [some (iy t),some<|.ref q.2,some<|iy u,none] (O++q.1)) (LQ none<|LI (F t O) λq=>O.length<=q.2/\(O++q.1)[q.2]? =some (.L<|oj D u)):=by
 have U:D.length<=2000:=aa P<|bM Y;cases u with
 |leaf x=>obtain⟨n,hn⟩:=ej Q;have j:∀c,(O++q.1).set q.2 c=O++q.1.set n c:=λc=>J hn<|sx ..;refine lK (m7 Y Y aV<|B.lf ..)<|iP ((jS Y H (m7 (dM Y Y) Y aV<|B.tk ..) H (fH U) Q).trans<|J (j _) Y)<|bU<|d9<|gv (q.1.set n<|.L<|oj D<|.leaf x,q.2) Y trivial ⟨Q,?_⟩;exact jn (j _)<|dW (List.getElem?_eq_some_iff.mp H).1
 |node A k M=>
  have X:(M.map iy).length<=2000:=J (ag _)<|aa w U;have v:(D.drop<|D.length-M.length).length<=900:=J List.length_drop<|aa (cP ..) P;refine UG (m7 Y Y aV<|B.nd ..) (cb (dy (cx (aA Y aV)<|oK (qH H) U) (cx (aA (dM Y<|ON<|.node A k M) aV)<|oK Y X)<|J (ag _)<|xT w) Y
   (cb (dy (vJ Y Y<|Ht Y (qH H) U<|aa (cP ..)<|aa P<|bM Y) (RX<|dy (mH (aA (dM Y Y) aV)<|bM Y) (cx (aA (Au Y Y<|Ux Y (qH<|Ro.jr H) U<|aa (cP ..)<|aa P<|bM Y) aV)<|y7 (qH<|gn ..)<|aa v<|bM Y)<|YW<|aa (cV v 1)<|bM Y)<|Kg Y (qH<|Ro.jr<|Ro.jr<|gn ..) (qH<|gn ..)<|aa (c8 (aa (List.length_take_le' ..) P) 1)<|bM Y) Y
   (bU<|d9<|gv (q.1++[.L (D.take<|D.length-M.length),.L<|D.drop<|D.length-M.length,.L [.aL (b5 A::D.drop (D.length-M.length))],.L (oj D<|.node A k M)],O.length+(q.1.length+3)) (by rw [F];exact J ap4<|J ln3 Y) trivial ⟨aw ..,?_⟩)))
  exact J (gx ..)<|gx _ _ 3
def ok(H:Cl st)(P:Wq Φ)(Q:SD Φ)(M:wm t<=900):kC Φ ro N th [iy t] st=(fy t,st):=
 Wp.eq (gT Y (cb yN Y
 (fV (f:=λO=>F t st) (I:=I st) ([.L []],st.length) (fK (aA Y aV)<|Q _ _ _ (H.app λc h=>congrArg _<|mS h) M) (dx<|aa (zx t▸M)<|bM Y) Y ⟨aS _,gn ..⟩ (λO O O=>rfl) (λd u r q D U=>by have:=turn (N:=N) (fl:=(F t st ([.L []],st.length)).2.length) (t:=t) P U.1 U.2 (aa (A9 d [])<|aa (aG<|bu _)<|aa (by exact J D<|J ae<|aw ..)<|zx t▸M)<|(zw t []).2 d u r D;delta I;exact J ft this)
 λq U=>jo (dh Y cD<|me (f:=λx=>x) (l:=[fy t]) (qH<|U.2.trans<|J (zw t []).1 Y) (bf _) Y) (b8<|dz<|Bb t) Y)))
end Td
def qG:∀cs:List Tr,GQ cs=cs.flatMap yl:=λcs=>cs.rec Y λc cs U=>congrArg (yl c++ ·) U
def GR:∀t,(yl t).length<=wm t:=Tr.ind (λO=>aS _) λA k U h=>by show(GQ U).length<=_;refine J (qG _)<|bV (mh _) gg<|aa ?_<|cJ _ 1;exact md _ _ _ h
def SE(Φ:Fs)(d:Nat):Prop:=∀ro st t,Cl st->wm t<=d->Φ ro 457 [fy t] st=some (dP<|yl t,st)
def isTup t:ku s .isStr [fy t]=some (.bool false,s):=t.casesOn (λx=>rfl) λA k U=>J kD Y
def Qz(h:U.length<=2000):ku s .len [.aL U]=(vi U.length,s):=by refine(au<|dE h).trans ?_;rfl
def Fu(hc:Cl O)(B:d<=900)(P:wm t<=d+1)(h:SE Φ d):kC Φ ro N rB [fy t] O=(dP<|yl t,O):=by
 refine Wp.eq<|gT Y ?_;cases t with
 |leaf x=>exact lK (nP (cp (cx (aA Y aV) Y) cD tp)<|cx (aA (dh Y cD Y) aV) Y)<|oE (mH (aA (dh Y cD Y) aV)<|bM Y) ⟨_,_,[],.inl Y,(aC _).symm,b8 Y,Y⟩
 |node A k U=>
  rw [mh,ck] at P;have X:=gr P;have w:=aa (qO U)<|aa X B;have WW:(U.flatMap yl).length<=900:=J gg<|aa (md _ _ _ λc M=>GR c)<|aa X B;have D:(b5 A::U.map fy).length=U.length+1:=congrArg (· +1)<|ag _;have L:bZ Φ O.length (.af 0) [some (fy<|.node A k U),none,none] O=some (.aL (b5 A::U.map fy),O):=congrArg (λx=>some (x,O)) kD;have h1:=cp (cx (aA L aV)<|Qz<|J D<|aa (bq w)<|bM Y) (cD (a:=vi 2)) tp
  have hb:bZ Φ O.length (.and [.bk .eq (.bA .len [.af 0]) (.aI<|.int 2),.bA .isStr [.sub (.af 0) (.aI<|.int 1)]]) [some (fy<|.node A k U),none,none] O=some (.bool false,O):=by
   clear P;exact if c:(b5 A::U.map fy).length=2 then(by obtain⟨x,rfl⟩:=List.length_eq_one_iff.mp<|Nat.succ.inj<|D.symm.trans c;exact nP (lD h1 c)<|cx (aA (dh L cD Y) aV)<|isTup x)else lB (lE h1 c)
  have Q:nc O (.aL (b5 A::U.map fy)) (.m5 1)=some (.aL<|U.map fy,O):=by show(if(b5 A::U.map fy).length<=lim then(if decide ((1:Int)<=1)&&decide ((1:Int)<=((b5 A::U.map fy).length:Int))then some (AV.aL<|(b5 A::U.map fy).drop 1,O)else none)else none)=_;exact J (au<|J D<|dE<|aa (bq w)<|bM Y)<|au (by simp only [cF,cy];exact⟨Int.le_refl _,Int.ofNat_le.mpr<|bq<|bf _⟩)
  obtain⟨more,e1⟩:=JL (t1:=.v 1) (t2:=.v 2) (elt:=.af 2) (own:=[1,2]) (Jzq:=λH more=>gD H=true/\more=[]) (Au L cD Q) (gF<|aa w<|bM Y) (λM=>trivial) (aa WW<|bM Y) ⟨Y,Y⟩ λc j H more hJ=>by obtain⟨q,rfl⟩:=hJ;have h2:=aa (zh j) X;refine⟨[],none,dP<|yl c,⟨?_,Y⟩,Y,fK (aA (e:=.af 1) Y aV)<|h _ _ c (hc.app λc h=>jn (mS h).symm<|dB q) h2,gF<|aa (GR c)<|aa h2<|aa B<|bM Y,λM=>trivial,λx M H=>⟨Y,n8,λM=>rfl⟩⟩;exact lZ.mpr λa ha=>(mA ha).elim (lZ.mp q a)<|lZ.mp (bT λM M=>rfl) a
  have e2:(U.flatMap λc=>((yl c).filter λM=>true).map b5)=(yl<|.node A k U).map b5:=by
   show _=(GQ U).map b5;refine J (qG _)<|J List.map_flatMap ?_;congr 1
   funext c
   exact congrArg _<|List.filter_eq_self.mpr λM M=>rfl
  rw [e2] at e1;have hl:(yl<|.node A k U).length<=2000:=by show(GQ U).length<=_;exact J (qG _)<|aa WW<|bM Y
  exact jl hb<|jo (cx (aA e1 aV)<|y7 (qH<|gn ..)<|J (ag _) hl) (b8<|dB<|bT λM M=>rfl) Y
def g8(G:Gr)(l:List (List Sy)):List (KV×AV):=vH (kW G) l λU=>.bool true
section
variable{l:List (List Sy)}
def pI:jN (g8 G l)=true:=xt λU=>rfl
def qt:ed (kW G w) (g8 G l)=true:=Cg λU=>rfl
def iI:(g8 G l).length=l.length:=mG
def nN:(g8 G l).map (λe=>e.1.av)=l.map (gO G):=List.map_map.trans<|aX λw U=>congrArg _ bJ
def l8(h:l.Nodup)(M:∀w∈l,w.length<=3):l.length<=1331:=by
 have:=lV (L:=l.map λw=>(w,0)) (by delta Nk;exact jn List.map_map.symm<|jn (List.map_id l).symm h) λp O=>by obtain⟨w,U,e⟩:=mM O;exact jn e<|M w U
 rwa [ag] at this
noncomputable def mn(m:Nat)(l:List (List Sy)):Nat:=l.foldl (λm w=>if w.length<m then w.length else m) m
def sh(W:List (List Sy)):Nat:=match W with
 |[]=>0
 |w::r=>mn w.length r
def Qm:∀(l:List (List Sy)) (m:Nat),yq m (l.map λw=>(w.length:Int))=mn m l:=λl=>l.rec (λm=>rfl) λw l U=>by intro m;show yq (if(w.length:Int)<m then(w.length:Int)else m) _=mn (if w.length<m then w.length else m) l;exact jn (U _) (if c:w.length<m then bV (au c) (au<|Int.ofNat_lt.mpr c) Y else bV (az c) (az λq=>c<|Int.ofNat_lt.mp q) Y)
def N6:∀(l:List (List Sy)) (m:Nat),mn m l<=m/\∀w∈l,mn m l<=w.length:=λl=>l.rec (λm=>⟨aS _,(λD=>iZ)⟩) λv l M=>by
  intro m;obtain⟨O,N⟩:=M<|if v.length<m then v.length else m;have U:(if v.length<m then v.length else m)<=m/\(if v.length<m then v.length else m)<=v.length:=if c:v.length<m then J (au c) ⟨bx c,aS _⟩else J (az c) ⟨aS _,Nat.not_lt.mp c⟩
  exact⟨aa O U.1,List.forall_mem_cons.mpr ⟨aa O U.2,N⟩⟩
def Uy(h:w∈W):sh W<=w.length:=by
 induction W with
 |nil=>exact iZ h
 |cons u r=>exact(mO h).elim (λe=>J e<|(N6 r _).1) ((N6 r _).2 w)
def Gv{U:Type}{f:U->Nat}:∀l:List U,allInts (l.map λx=>vi<|f x)=(l.map λx=>(f x:Int)):=λl=>l.rec Y λx l O=>by show(some ((f x:Nat):Int)).bind (λi=>(allInts<|l.map λx=>vi<|f x).bind λl=>some (i::l))=_;exact J O Y
def IM{U:Type}{f:U->Nat}{l:List U}(h:vw s x=.L (l.map λx=>vi<|f x))(O:l.length<=2000):xi (vw s x)=(l.map λx=>(f x:Int)):=by refine J h ?_;show(if(l.map λx=>vi<|f x).length<=lim then some (l.map λx=>vi<|f x)else none).bind allInts=_;exact J (au<|J (ag _)<|dE O)<|Gv l
def He{U:Type}{f:U->Nat}:∀l:List U,(l.map λx=>(f x:Int)).sum=((l.map f).sum:Nat):=λl=>l.rec Y λx l O=>by simp only [aZ,fh,Int.natCast_add,O]
def Hd{U:Type}{f}{l:List U}(h:vw s x=.L (l.map λx=>vi<|f x))(O:l.length<=2000):ku s .sum [x]=(vi (l.map f).sum,s):=by show(xi<|vw s x).bind (λl=>some (AV.int l.sum,s))=_;exact J (IM h O)<|congrArg (λi=>some (AV.int i,s))<|He l
def U3(h:vw s x=.L (W.map λw=>vi w.length))(U:W.length<=2000)(O:W≠[]):ku s .min [x]=(vi<|sh W,s):=by
 show(xi<|vw s x).bind (λl=>(U4 l).bind λm=>some (AV.int m,s))=_;refine J (IM h U) ?_;clear h U;induction W with
 |nil=>exact absurd Y O
 |cons w r=>exact congrArg (λi=>some (AV.int i,s))<|Qm r w.length
def zG(h:a<=b):kC Φ O N vC [vi a,vi b] U=some (.none,U):=Wp.eq<|gT Y<|jl (lE (cp Y Y pX)<|Nat.not_lt.mpr h)<|bU ⟨.none,.none,[],.inr ⟨Y,Y⟩,(aC _).symm,b8 Y,Y⟩
def zi(H:U[n]? =some (.D<|g8 G W))(Q:W≠[])(L:∀w∈W,w.length<=3)(O:W.Nodup):kC Φ A N om [.ref n] U=(vi<|sh W,U):=
 have M:=aa (l8 O L)<|bM Y
 Wp.eq (gT Y<|jo (cx (aA (oo (gd:=none) Y (by show(U[n]?).bind _=_;refine J H ?_;show(if decide ((g8 G W).length<=lim)&&decide (n<U.length)then some ((g8 G W).map λe=>e.1.av,none)else none)=_;simp only [iI,aq<|dE M,aq (List.getElem?_eq_some_iff.mp H).1,nN];rfl) M (λB=>trivial) λw P X=>⟨Y,cx (aA Y aV)<|sW<|aa (L w P)<|bM Y⟩) aV)<|U3 (qH<|gn ..) M Q) (b8 Y) Y)
structure SA(Φ:Fs)(G:Gr):Prop where
 sh:∀ro st n W,st[n]? =some (.D<|g8 G W)->W≠[]->(∀w∈W,w.length<=3)->W.Nodup->Φ ro 239 [.ref n] st=some (vi<|sh W,st)
 nf:∀ro st a b,a<=b->Φ ro 234 [vi a,vi b] st=some (.none,st)
noncomputable def GG:List (List<|List Sy)->List Sy->Prop
 |[],w=>w=[]
 |W::ps,w=>∃u v,u∈W/\GG ps v/\w=u++v
def JX:∀(D:List (List<|List Sy)) (w:List Sy),GG (D++[W]) w↔∃b u,GG D b/\u∈W/\w=b++u:=λD=>D.rec (λw=>⟨λq=>by obtain⟨u,v,M,O,U⟩:=q;exact⟨[],u,Y,M,U.trans<|J O<|aC _⟩,λq=>by obtain⟨b,u,M,O,U⟩:=q;exact⟨u,[],O,Y,U.trans<|bV M (aC _) Y⟩⟩) λV D P w=>⟨λq=>q.elim λu N=>N.elim λv N=>N.elim λM N=>N.elim λO U=>by obtain⟨b,x,L,H,Q⟩:=(P v).mp O;exact⟨u++b,x,⟨u,b,M,L,Y⟩,H,by simp only [U,Q,aj]⟩,
   λq=>by obtain⟨b,x,⟨u,v,M,O,U⟩,L,H⟩:=q;exact⟨u,v++x,M,(P _).mpr ⟨v,x,O,L,Y⟩,by simp only [H,U,aj]⟩⟩
def R8:∀{U:List (List<|List Sy)} {w:List Sy},GG U w->∀W∈U,W≠[]:=by
 intro U;induction U with
 |nil=>intro w M W O;exact iZ O
 |cons V U N=>intro w M W O;obtain⟨u,v,H,D,_⟩:=M;exact(mO O).elim (λe q=>nomatch (e▸q)▸H) (N D W)
end
def QC(h:vw s y=.D U)(O:U.length<=2000):ku s .len [y]=(vi U.length,s):=by show Mq s (vw s y)=_;exact J h<|au<|dE O
def TV(h:s[n]? =some (.D U)):vw s (.ref n)=.D U:=by simp only [bS,h]
def An(U:G.cK.length<=10):dput (g8 G l) (kW G w) (.bool true)=g8 G (ins l w):=rG<|mv U
namespace Rj
abbrev Ws:=List<|List Sy
structure C where
 Φ:Fs
 G:Gr
 N:Nat
 st:St
 ps:List (Nat×Ws)
 m:Nat
 len:Nat
 h:G.Ok
 hS:SA Φ G
 hc:Cl st
 hm:st[m]? =some (.L<|ps.map λp=>.ref p.1)
 hp:∀p∈ps,st[p.1]? =some (.D<|g8 G p.2)/\p.2.Nodup/\∀w∈p.2,w.length<=3
 Vp:ps.length<=4
 hl:len<=3
def env(X:C)(H D N M O U:Option AV:=none):En:=[some (.ref X.m),some<|vi X.len,some<|vi 20000,H,D,N,M,O,U]
def bz(X:C)(L:Ws):St:=X.st++[.D (g8 X.G L)]
def emp(X:C):List (Nat×Ws):=X.ps.filter λp=>decide<|p.2.length=0
def room(X:C)(U:Nat):Int:=(X.len:Int)-(((X.ps.drop U).map λp=>sh p.2).sum:Nat)
def bL(b:List Sy)(d:Ws)(r:Int)(w:List Sy):Prop:=∃u,u∈d/\w=b++u/\(w.length:Int)<=r
def Jn(F W:Ws)(r:Int)(w:List Sy):Prop:=∃b,b∈F/\bL b W r w
structure I(P:List Sy->Prop)(L:Ws):Prop where
 fW:L.Nodup
 mem:∀w,w∈L↔P w
section
variable{X:C}{w:List Sy}{r:Int}
abbrev W(X:C)(O:Nat)(U:List S)(ρ:En)(s:St)(Q:Out×En×St->Prop):Prop:=Wp (cg X.Φ X.st.length X.N O U ρ s) Q
abbrev V(X:C)(e:E)(ρ:En)(s:St)(r:AV×St):Prop:=bZ X.Φ X.st.length e ρ s=some r
def YK(U:p∈X.ps):(X.st++t)[p.1]? =some (.D<|g8 X.G p.2):=Ro.jr (X.hp p U).1
def lp(U:p∈X.ps):p.2.length<=2000:=aa (l8 (X.hp p U).2.1 (X.hp p U).2.2)<|bM Y
def yC:dR X.st.length (X.st++t) (.ref X.m)=some (X.ps.map λp=>.ref p.1,some (X.m,.L<|X.ps.map λp=>.ref p.1)):=by show((X.st++t)[X.m]?).bind _=_;exact J (Ro.jr X.hm)<|au<|J (ag _)<|dE<|aa X.Vp<|bM Y
def gm:cT (X.st++t) (some (X.m,.L<|X.ps.map λp=>.ref p.1)):=Ro.jr X.hm
def Mx(U:p∈X.ps):dR X.st.length (X.st++t) (.ref p.1)=some (p.2.map<|gO X.G,none):=by show((X.st++t)[p.1]?).bind _=_;refine J (YK U) ?_;show(if decide ((g8 X.G p.2).length<=lim)&&decide (p.1<X.st.length)then some ((g8 X.G p.2).map λe=>e.1.av,none)else none)=_;simp only [iI,aq<|dE<|lp U,aq (List.getElem?_eq_some_iff.mp (X.hp p U).1).1,nN];rfl
def mU:(bz X L)[X.st.length]? =some (.D<|g8 X.G L):=gn ..
def kn(h:I P L)(O:∀w,P w->w.length<=3):L.length<=1331:=l8 h.fW λw U=>O w<|(h.mem w).mp U
def WV(U:r<=3)(h:w.length<=r):w.length<=3:=Int.ofNat_le.mp<|ef h U
def X4(U:r<=3)(h:Jn F d r w\/bL b L r w):w.length<=3:=h.elim (λq=>by obtain⟨_,_,_,_,_,h⟩:=q;exact WV U h) λq=>by obtain⟨_,_,_,h⟩:=q;exact WV U h
def F8(X:C)(p:Nat×Ws)(r:Int)(F:Ws)(o:Option AV)(L:Ws):En×St:=(env X (some<|.ref p.1) (some<|.int r) (some<|.bK<|g8 X.G F) (some<|.ref X.st.length) o,bz X L)
def s8(A:r<=3)(Q:b.length<=3)(H:u.length<=3)(M:I (λw=>Jn j d r w\/bL b D r w) L):
  W X y Cw (env X (some<|.ref p.1) (some<|.int r) (some<|.bK<|g8 X.G F) (some<|.ref X.st.length) (gO X.G b)<|gO X.G u) (bz X L) (LQ none<|LI (F8 X p r F<|gO X.G b)<|I λw=>Jn j d r w\/bL b (D++[u]) r w):=
 have O:V X (.bk .le (.b6 .add (.bA .len [.af 7])<|.bA .len [.af 8])<|.af 4) (env X (some<|.ref p.1) (some<|.int r) (some<|.bK<|g8 X.G F) (some<|.ref X.st.length) (gO X.G b)<|gO X.G u) (bz X L) (.bool<|decide<|((b.length+u.length:Nat):Int)<=r,bz X L):=
  cp (dy (cx (aA Y aV)<|sW<|aa Q<|bM Y) (cx (aA Y aV)<|sW<|aa H<|bM Y) il) Y Y
 have P:∀w,bL b (D++[u]) r w↔bL b D r w\/(w=b++u/\(w.length:Int)<=r):=λw=>⟨λq=>by refine q.elim λv B=>B.elim λU N=>?_;exact(mA U).elim (λU=>.inl ⟨v,U,N⟩) λU=>.inr<|mS U▸N,λh=>h.elim (λq=>by obtain⟨v,U,N⟩:=q;exact⟨v,bl _ U,N⟩) λh=>⟨u,ar _<|.head _,h⟩⟩
 if c:((b.length+u.length:Nat):Int)<=r then
  lK (lD O c) (nE cD Y (dy Y Y<|Kb<|aa (eO Q H)<|bM Y) mU nU qt (J iI<|aQ (kn M λw=>X4 A)<|bM Y) .refl (bU (d9 (gv (ins L<|b++u) (by
   simp only [bz,rW,An X.h.dN];rfl) trivial ⟨DX M.fW,λw=>by rw [DY,M.mem,P,or_assoc];exact or_congr jj<|or_congr jj ⟨λe=>⟨e,J e<|J ae c⟩,λe=>e.1⟩⟩))))
 else jl (lE O c) (d9<|gv L Y trivial ⟨M.fW,λw=>by rw [M.mem,P,or_iff_left (a:=bL b D r w) λe=>c (by exact jn ae<|jn e.1 e.2)]⟩)
def F7(X:C)(p:Nat×Ws)(r:Int)(F:Ws)(L:Ws):En×St:=(env X (some<|.ref p.1) (some<|.int r) (some<|.bK<|g8 X.G F)<|some<|.ref X.st.length,bz X L)
def s7(H:r<=3)(v:b.length<=3)(Q:p∈X.ps)(U:I (Jn A p.2 r) L):W X o J3 (env X (some<|.ref p.1) (some<|.int r) (some<|.bK<|g8 X.G F) (some<|.ref X.st.length)<|gO X.G b) (bz X L) (LQ none<|LI (F7 X p r F)<|I<|Jn (A++[b]) p.2 r):=
 fV (f:=λN=>F8 X p r F<|gO X.G b) (I:=λB=>I λw=>Jn A p.2 r w\/bL b B r w) L Y (Mx Q) Y ⟨U.fW,λw=>(U.mem w).trans (or_iff_left λq=>q.elim λ_ D=>D.elim λh _=>iZ h).symm⟩ (λN N N=>rfl) (λB u y L j U=>s8 H v ((X.hp p Q).2.2 u<|J j<|ar _<|.head _) U)
 λL U=>
  iP (fK (aA (cx (aA Y aV)<|QC (TV mU)<|J iI<|aa (kn U λw=>X4 H)<|bM Y)<|aA Y aV)<|X.hS.nf _ _ _ _<|J iI<|aa (kn U λw=>X4 H)<|bM Y) (d9<|gv L Y trivial ⟨U.fW,λw=>(U.mem w).trans ⟨λh=>h.elim (λq=>by obtain⟨P,O,M⟩:=q;exact⟨P,bl _ O,M⟩) λh=>⟨b,ar _<|.head _,h⟩,λq=>q.elim λP D=>D.elim λO M=>(mA O).imp (λO=>⟨P,O,M⟩) λO=>by exact jn (mS O) M⟩⟩)
def F3(X:C)(U:Nat)(F:Ws):En×St:=(env X none (some<|.int<|room X U)<|some<|.bK<|g8 X.G F,X.st)
def I3(X:C)(U:List (Nat×Ws))(F:Ws):Prop:=I (λw=>GG (U.map (·.2)) w/\(w.length:Int)<=room X U.length) F
def yc:room X U<=3:=ef (Int.sub_le_self _<|dF _)<|Int.ofNat_le.mpr X.hl
def w4{d r}(U:X.ps=d++p::r):room X (d.length+1)=room X d.length+(sh p.2):=by simp only [room,U,jC Y,List.drop_append,fu<|b0 _,bY,aZ,fh,Int.natCast_add,Int.add_comm (sh p.2:Int),<-Int.sub_sub,Int.sub_add_cancel];rfl
def s3{d r}(P:∀p∈X.ps,p.2≠[])(B:X.ps=d++p::r)(M:I3 X d F):W X X.st.length pQ (env X (some<|.ref p.1) (some<|.int<|room X d.length)<|some<|.bK<|g8 X.G F) X.st (LQ (some (X.m,.L<|X.ps.map λp=>.ref p.1))<|LI (F3 X<|d.length+1)<|I3 X<|d++[p]):=
 have O:=J B<|ar _<|.head _
 cb (dy Y (fK (aA Y aV)<|X.hS.sh _ _ _ _ (X.hp p O).1 (P p O) (X.hp p O).2.2 (X.hp p O).2.1)<|(w4 B)▸Y) Y
 (cb Y Y
 (fV (l:=F) (f:=λH=>F7 X p (room X<|d.length+1) F) (I:=λy=>I<|Jn y p.2<|room X<|d.length+1) [] Y (by show(if(g8 X.G F).length<=lim then some ((g8 X.G F).map λe=>e.1.av,none)else none)=_;exact J iI<|J (au<|dE<|aa (kn M λw h=>WV yc h.2)<|bM Y)<|J nN Y) Y ⟨bh,λw=>⟨nofun,λq=>q.elim λ_ o=>o.elim λh _=>iZ h⟩⟩ (λH H H=>rfl) (λy b g L Q A=>s7 yc (WV yc ((M.mem b).mp<|J Q<|ar _<|.head _).2) O A)
 λL v=>cb Y Y (lj X.hc (aD (bI<|aq (List.getElem?_eq_some_iff.mp X.hm).1)<|aD (bI Y)<|aD (bI Y)<|aD ff<|aD (bI Y)<|aD (O2 .refl (gn ..) pI) Y) (gv L Y X.hm ⟨v.fW,λw=>by
  simp only [v.mem,aR,ae];show _↔GG (d.map (·.2)++[p.2]) w/\_;rw [JX];constructor
  .rintro⟨b,j,u,D,N,U⟩;exact⟨⟨b,u,((M.mem b).mp j).1,D,N⟩,U⟩
  .rintro⟨⟨b,u,j,D,N⟩,U⟩;refine⟨b,(M.mem b).mpr ⟨j,?_⟩,u,D,N,U⟩;have U:(w.length:Int)<=room X (d.length+1):=U;simp only [N,ae,w4 B] at U;exact Int.le_of_add_le_add_right<|ef (Int.add_le_add_left (Int.ofNat_le.mpr<|Uy D) _) U⟩))))
noncomputable def S1:E:=.or [.bk .lt (.af 1) (.aI<|.int 0),.bk .ne (.lc (.af 3) [(.v 3,.af 0,[.bk .eq (.bA .len [.af 3]) (.aI<|.int 0)])] [3]) (.aM [])]
def VH:V X S1 (env X) X.st (.bool<|!decide ((emp X).map (λp=>AV.ref p.1)=[]),X.st++[.L ((emp X).map λp=>.ref p.1),.L []]):=
 have N:=vK Y (by have:=yC (X:=X) (t:=[]);rwa [aC] at this) (aa X.Vp<|bM Y) (λO=>gm) λd p r M=>
  have U:p∈X.ps:=J M<|ar _<|.head _
  ⟨Y,tw<|(cp (cx (aA Y aV)<|QC (TV<|YK U)<|J iI<|lp U) (cD (a:=vi 0)) tp).trans<|J iI Y,λO=>rfl⟩
 Av (lE (cp Y cD sU)<|dY _) (cp N (yN.trans<|J (aj ..) Y)<|DB (qH<|gn ..) (qH<|by exact J ae<|gx _ _ 1) Y)
def ok(X:C):Wp (kC X.Φ ro X.N p5 [.ref X.m,vi X.len,vi 20000] X.st) λr=>∃F,r=(.bK<|g8 X.G F,X.st)/\I (λw=>w.length<=X.len/\GG (X.ps.map (·.2)) w) F:=
 gT Y (if c:(emp X).map (λp=>AV.ref p.1)=[] then
  have M:∀p∈X.ps,p.2≠[]:=λp h e=>by have H:p∈emp X:=List.mem_filter.mpr ⟨h,J e Y⟩;exact iZ (jn (List.map_eq_nil_iff.mp c) H)
  jl (by have:=VH (X:=X);exact((aq c)▸this))
  (cb (dy Y (cx (aA ((oo Y yC (aa X.Vp<|bM Y) (λB=>J (aj ..) gm) λp O A=>⟨Y,fK (aA Y aV)<|X.hS.sh _ _ _ _ (J (aj ..)<|YK O) (M p O) (X.hp p O).2.2 (X.hp p O).2.1⟩).trans<|bV ae (aj ..) Y) aV)<|(λs h=>Hd h<|aa X.Vp<|bM Y) _<|qH<|gx _ _ 2) Y) Y
  (cb (xy (cp Y cD Y) (by
   by_cases U:0<=room X 0
   .refine bV (au U) (aq U) ?_;show some (AV.ref (X.st++_).length,X.st++_++[_])=_;exact bV ae (aj ..) Y
   .refine bV (az U) (aF U) ?_;show some (AV.ref (X.st++_).length,X.st++_++[_])=_;exact bV ae (aj ..) Y)) Y
  (lj (cs:=[_,_,_,_]) X.hc (aD (bI<|aq<|(List.getElem?_eq_some_iff.mp X.hm).1)<|aD (bI Y)<|aD (bI Y)<|aD ff<|aD (bI Y)<|aD (O2 (aw ..) (gx _ _ 3) pI) Y)
  (fV (f:=λQ=>F3 X Q.length) (if 0<=room X 0 then [[]] else []) Y (by have:=yC (X:=X) (t:=[]);rwa [aC] at this) Y (if U:0<=room X 0 then J (au U) ⟨Ma ⟨nofun,bh⟩,λw=>⟨λh=>mS h▸⟨Y,U⟩,λh=>jn h.1<|.head _⟩⟩else J (az U) ⟨bh,λw=>⟨nofun,λh=>absurd (by have H:=h.2;rw [h.1] at H;exact H) U⟩⟩) (λL L L=>rfl) (λd p r F P D=>J ae<|s3 M P D)
  λF D=>mj Y Y ⟨F,Y,D.fW,λw=>(D.mem w).trans (by rw [room];refine J List.drop_length<|bV Int.natCast_zero (Int.sub_zero _) ?_;rw [Int.ofNat_le];exact and_comm)⟩))))
 else
  lK (by have:=VH (X:=X);exact((aF c)▸this)) (oE (by show some (AV.ref (X.st++_).length,X.st++_++[_])=_;exact bV ae (aj ..) Y) ⟨_,.bK [],_,.inl Y,Y,oQ (aw ..) (gx _ _ 2) Y,[],Y,bh,λw=>⟨nofun,λh=>(List.exists_mem_of_ne_nil _ λe=>c<|List.map_eq_nil_iff.mpr e).elim λp O=>absurd (eM<|aB (mF O).2)<|R8 h.2 _<|cW (mF O).1⟩⟩))
end
end Rj
namespace Rj
def Sp(Φ:Fs)(G:Gr):Prop:=∀ro (X:C),X.G=G->Wp (Φ ro 245 [.ref X.m,vi X.len,vi 20000] X.st) λr=>∃F,r=(.bK<|g8 X.G F,X.st)/\I (λw=>w.length<=X.len/\GG (X.ps.map (·.2)) w) F
end Rj
abbrev Gz:=Sy->List (List Sy)
section
variable{G:Gr}
structure CJ(G:Gr)(K:Sy->List Sy->Nat)(len:Nat)(ws:Gz):Prop where
 fW:∀x,(ws x).Nodup
 ok:∀x,∀w∈ws x,w.length<=len/\K x w≠0
 tm:∀x∈G.tm,x≠.err->0<len->[x]∈ws x
def cnt(G:Gr)(U:Gz):Nat:=(G.cK.map λx=>(U x).length).sum
def TO(len:Nat)(ws:Gz)(p:Sy×List Sy):Prop:=∀w,w.length<=len->GG (p.2.map ws) w->w∈ws p.1
def CJ.Cr(h:CJ G K len U)(M:G.cK.length<=10)(N:len<=3):cnt G U<=13310:=aa (iC _ _ 1331 λx D=>l8 (h.fW x) λw O=>aa (h.ok x w O).1 N)<|c7 _ M
theorem CJ.upd(h:CJ G K len U)(M:w∉U x)(D:w.length<=len)(H:K x w≠0):CJ G K len (upd U x<|U x++[w]):=by
 have O:∀y v,v∈Mine.Internal.upd U x (U x++[w]) y↔v∈U y\/(y=x/\v=w):=λy v=>by
  delta Mine.Internal.upd;by_cases c:y=x
  .rw [au c,c,fZ,eU];exact or_congr jj ⟨λh=>⟨Y,h⟩,λh=>h.2⟩
  .rw [az c,or_iff_left λq=>c q.1]
 refine⟨λy=>?_,λy v N=>((O y v).mp N).elim (h.ok y v) λ⟨B,X⟩=>bV B X ⟨D,H⟩,λy Q P L=>(O y _).mpr<|.inl<|h.tm y Q P L⟩;delta Mine.Internal.upd;split
 .exact k6 (h.fW x) M
 .exact h.fW y
def Lf(O:∀y,y≠x->g y=f y)(D:g x=f x+1):∀{l:List Sy},l.Nodup->x∈l->(l.map g).sum=(l.map f).sum+1:=by
 intro l;exact l.rec (λU=>iZ) λa l M=>by intro U h;rw [dZ] at U;simp only [aZ,fh];exact if c:a=x then(by simp only [c,D,aX λy N=>O y λe=>U.1<|J c<|jn e N,Nat.add_right_comm])else wo (O a c) (M U.2<|(mO h).resolve_left λe=>c e.symm) (bB ..) Y
def yQ(N:G.cK.Nodup)(M:x∈G.cK):cnt G (upd U x<|U x++[w])=cnt G U+1:=Lf (λy O=>by rw [upd,az O]) (by rw [upd];exact J (au Y) ae) N M
def w7(h:G.cK.Nodup):List.range G.cK.length=G.cK.map G.num:=by refine List.ext_getElem (bV (ag _) aO Y) λk N U=>bV (ir _) (jL _) ?_;rw [ag] at U;refine bQ (List.getElem?_eq_some_iff.mp<|Gr.jz<|eZ U) λM O=>?_;exact((jh h).mp O).symm
def R7(h:∀y∈r,∀v∈O y,K y v≠0):∀{w},GG (r.map O) w->sq K r w≠0:=by
 induction r with
 |nil=>exact λ{w} D=>J Bk<|J (au D) Nat.one_ne_zero
 |cons x r M=>rintro w ⟨u,v,L,H,rfl⟩;refine J xY ?_;have U:=xS (Ii<|cq<|aa (aw u.length v.length)<|aG List.length_append.symm) λm=>K x ((u++v).take m)*sq K r ((u++v).drop m);simp only [List.take_left' Y,jC Y] at U;exact Nat.pos_iff_ne_zero.mp<|aJ (Nat.mul_pos (gJ<|h x (.head _) u L)<|gJ<|M (λy N=>h y<|.tail _ N) H) U
def UU(h:q∈G.rl.zipIdx):q.2∈G.no q.1.1:=GL ⟨q,List.mem_filter.mpr ⟨h,aq Y⟩,Y⟩
def CJ.sound{ok}(L:Sem G ok K)(h:CJ G K len N)(P:G.Ok)(U:q∈G.rl.zipIdx)(D:GG (q.1.2.map N) w):K q.1.1 w≠0:=by have O:=List.mk_mem_zipIdx_iff_getElem?.mp U;have M:=xS (UU U) λk=>sq K (qQ G.rl k) w;rw [<-L.nt _ (P.left<|aN O),qQ,O] at M;exact Nat.pos_iff_ne_zero.mp<|aJ (gJ<|R7 (λy Q v H=>(h.ok y v H).2) D) M
end
def yR{α:Type}{f:α->AV}:∀{l:List α},(∀x∈l,below k (f x)=true)->belows k (l.map f)=true:=by intro l;exact l.rec (λh=>rfl) λx l U h=>J5 ⟨h x<|.head _,U λy O=>h y<|.tail _ O⟩
namespace Aw
structure C where
 Φ:Fs
 G:Gr
 e:Ex
 N:Nat
 st:St
 len:Nat
 K:Sy->List Sy->Nat
 h:G.Ok
 hg:KS Φ G e
 hS:SA Φ G
 hR:Rj.Sp Φ G
 hc:Cl st
 hl:len<=3
 hK:Sem G (· ≠.err) K
noncomputable def refs(X:C)(n:Nat):List AV:=(List.range n).map λi=>.ref<|X.st.length+1+i
def gen(X:C)(n:Nat)(d:List Sy)(U:Gz)(m:St):St:=X.st++ .L (refs X n)::((d.map λx=>.D<|g8 X.G<|U x)++m)
abbrev bz(X:C)(U:Gz)(m:St):St:=gen X X.G.cK.length X.G.cK U m
def env(X:C)(L H D N M O U:Option AV:=none):En:=[some (jG X.G X.e),some<|vi X.len,some<|vi 20000,some<|.ref X.st.length,L,H,D,N,M,O,U]
noncomputable def CX(X:C)(x:Sy):List (List Sy):=if x∈X.G.tm/\x≠.err/\0<X.len then [[x]] else []
section
variable{X:C}
abbrev W(X:C)(O:Nat)(U:List S)(ρ:En)(s:St)(Q:Out×En×St->Prop):Prop:=Wp (cg X.Φ X.st.length X.N O U ρ s) Q
abbrev V(X:C)(e:E)(ρ:En)(s:St)(r:AV×St):Prop:=bZ X.Φ X.st.length e ρ s=some r
def mU:(gen X n d U m)[X.st.length]? =some (.L<|refs X n):=gn ..
def gl:(gen X n d U m).length=X.st.length+1+(d.length+m.length):=by simp only [gen,bj,ae,ag,ck (_+_) 1,<-bB]
def pl:(X.st++[c]).length=X.st.length+1:=ae
def gap:gen X n d U m=(X.st++[.L (refs X n)])++((d.map λx=>.D<|g8 X.G<|U x)++m):=by simp only [aj];rfl
def push:gen X n d U m++[c]=gen X n d U (m++[c]):=by rw [gen];exact J (aj ..)<|J fa<|J (aj ..) Y
def A0(U:x∈X.G.cK):(bz X O m)[X.st.length+1+X.G.num x]? =some (.D<|g8 X.G<|O x):=by simp only [gap,ll U,<-pl (X:=X) (c:=.L<|refs X X.G.cK.length)];exact tU U
def Bp(U:x∈X.G.cK):(bz X O m).set (X.st.length+1+X.G.num x) (.D<|g8 X.G l)=bz X (upd O x l) m:=by simp only [ll U,<-pl (X:=X) (c:=.L<|refs X X.G.cK.length),tT X.h.fW U,gap];congr 2;exact aX λy M=>by dsimp only [upd];split<;>rfl
def Uk(U:x∈X.G.cK):subQ (bz X O m) (.ref X.st.length) (nv X.G x)=some (.ref<|X.st.length+1+X.G.num x):=me (f:=λi=>.ref<|X.st.length+1+i) (qH mU) (aa (bx<|Gr.jE U)<|aa X.h.dN<|bM Y)<|dI<|Gr.jE U
def Xc(N:∀c∈m,gp (X.st.length+(1+X.G.cK.length+m.length)) c=true):Cl (bz X O m):=by
 have H:(AC.L (refs X X.G.cK.length)::((X.G.cK.map λx=>AC.D<|g8 X.G<|O x)++m)).length=1+X.G.cK.length+m.length:=J bj<|J ae<|J (ag _)<|J (ck ..)<|J (bB ..) Y;refine X.hc.app λc U=>J H ?_;rcases mO U with B|U
 .exact J B (yR λi P=>aq (by simp only [bB];exact cc (cc (aJ (mR P)<|aw ..) 1) _))
 .exact(mA U).elim (λU=>by refine(mM U).elim λx M=>M.elim λ_ Q=>?_;exact jn Q<|fL pI) (N c)
def FA(X:C)(d:List Sy)(_:Unit):En×St:=(env X,gen X d.length d (CX X) [])
def isw(O:x∈X.G.cK):V X (.and [.bR (.af 0) (.user 1) [.af 4],.bk .ne (.af 4)<|.wJ 1,.bk .gt (.af 1) (.aI<|.int 0)]) (env X<|nv X.G x) s (.bool<|decide<|x∈X.G.tm/\x≠.err/\0<X.len,s):=
 have U:=m7 Y Y (aA Y aV)<|X.hg.XB _ _ x O
 if c1:x∈X.G.tm then
  if c2:x=.err then(sH (lD U c1)<|lB<|(cp Y Y uV).trans<|J (aq<|(tZ X.h).mpr c2) Y).trans (J (aF λq=>q.2.1 c2) Y)
  else(sH (lD U c1)<|nP ((cp Y Y uV).trans<|J (aF λq=>c2<|(tZ X.h).mp q) Y)<|cp Y cD pX).trans (J (dD<|⟨λq=>⟨c1,c2,q⟩,λq=>q.2.2⟩) Y)
 else(lB<|lE U c1).trans (J (aF λq=>c1 q.1) Y)
def G2(U:x∈X.G.cK)(O:d.length<=1000):W X H V7 (env X<|nv X.G x) (gen X d.length d (CX X) []) (LQ none<|LI (FA X<|d++[x]) λN=>True):=
 have M:V X (.ite (.af 5) (.bK [(.aL [.af 4],.aI<|.bool true)])<|.bK []) (env X (nv X.G x)<|some<|.bool<|decide<|x∈X.G.tm/\x≠.err/\0<X.len) (gen X d.length d (CX X) []) (.ref<|X.st.length+1+d.length,gen X d.length d (CX X) [.D (g8 X.G<|CX X x)]):=
  xy Y (by
   dsimp only [CX];by_cases c:x∈X.G.tm/\x≠.err/\0<X.len
   .refine bV (au c) (aq c) ?_;show some (AV.ref (gen X d.length d _ []).length,gen X d.length d _ []++[_])=_;exact bV gl push Y
   .refine bV (az c) (aF c) ?_;show some (AV.ref (gen X d.length d _ []).length,gen X d.length d _ []++[_])=_;exact bV gl push Y)
 cb (isw U) Y (iP (jS Y mU M mU (by simp only [refs,ag,aO];exact fH<|aa O<|bM Y) .refl)<|d9<|gv () (by rw [FA,gen,gen];exact J (rW ..)<|J ae<|J aR<|J (aC _)<|J (show refs X (d.length+[x].length)=refs X d.length++[.ref (X.st.length+1+d.length)] by exact(congrArg _ List.range_succ).trans aR) Y) trivial trivial)
def gb(X:C):AC:=.L<|X.G.cK.map λx=>vi (CX X x).length
def rc(X:C)(r:List Sy):AC:=.L<|r.map λx=>.ref<|X.st.length+1+X.G.num x
abbrev Rp:=(Sy×List Sy)×Nat
def eW(X:C)(p:Rp)(q:Gz×Bool)(U:Option AV:=none):En:=env X none none (vi<|cnt X.G q.1) none (some<|.bool q.2) (nR X.G X.e.lv p) U
def Xk(X:C)(p:Rp)(q:Gz×Bool):En×St:=(eW X p q,bz X q.1 [gb X,rc X p.1.2])
structure JF(X:C)(wS:Gz)(b:Bool)(p:Rp)(d:List (List Sy))(q:Gz×Bool):Prop where
 ws:CJ X.G X.K X.len q.1
 no:q.2=false->q.1=wS/\∀w∈d,w∈q.1 p.1.1
 yes:q.2=true->cnt X.G wS<cnt X.G q.1
 b:b=true->q.2=true
def s10(j:p∈X.G.rl.zipIdx){d}(P:w.length<=X.len)(Q:X.K p.1.1 w≠0){q}(U:JF X B b p d q):W X y OJ (eW X p q<|gO X.G w) (bz X q.1 [gb X,rc X p.1.2]) (LQ none<|LI (Xk X p)<|JF X B b p<|d++[w]):=
 have M:=ar _<|X.h.left<|b4 j;have H:∀v6 D s,bZ X.Φ X.st.length (.sub (.af 3)<|.bG (.af 9) 5) (env X none none v6 none D (nR X.G X.e.lv p)<|gO X.G w) (bz X q.1 s)=some (.ref<|X.st.length+1+X.G.num p.1.1,bz X q.1 s):=λv6 D s=>dh Y (dM Y J8)<|Uk M
 have O:V X (.bk .hV (.af 10)<|.sub (.af 3)<|.bG (.af 9) 5) (eW X p q<|gO X.G w) (bz X q.1 [gb X,rc X p.1.2]) (.bool<|!decide (w∈q.1 p.1.1),bz X q.1 [gb X,rc X p.1.2]):=cp Y (H ..) (by show(Ta (gO X.G w)<|vw ..).map not=_;refine J (TV<|A0 M) ?_;show((l9<|gO X.G w).bind λk=>if ed k (g8 X.G<|q.fst p.fst.fst)then some (fP (g8 X.G<|q.fst p.fst.fst) k).isSome else none).map not=_;exact J nU<|J (Option.bind_some ..)<|J (au qt)<|J (rH<|mv X.h.dN) (if c:w∈q.fst p.fst.fst then bV (au c) (aq c) Y else bV (az c) (aF c) Y))
 if c:w∈q.1 p.1.1 then
  jl (by simp only [aq c] at O;exact O) (d9<|gv q Y trivial ⟨U.ws,λh=>⟨(U.no h).1,λv N=>(mA N).elim ((U.no h).2 v) λN=>J (mS N) c⟩,U.yes,U.b⟩)
 else
  lK (by rw [aF c] at O;exact O) (nE cD (H ..) Y (A0 M) nU qt (J iI<|fH<|aa (l8 (U.ws.fW _) λv N=>aa (U.ws.ok _ v N).1 X.hl)<|bM Y) (J (bB ..)<|aw ..) (by
   simp only [An X.h.dN,ins,az c,Bp M];exact cb (dy Y Y il) Y (iP (fK (aA Y<|aA Y aV)<|X.hS.nf _ _ _ _<|jn (yQ X.h.fW M)<|aa ((U.ws.upd c P Q).Cr X.h.dN X.hl)<|bM Y) (cb cD Y (bU (d9 (gv (upd q.1 p.1.1<|q.1 p.1.1++[w],true) (by simp only [Xk,eW];exact J (yQ X.h.fW M) Y) trivial ⟨(U.ws.upd c P Q),bn,λA=>J (yQ X.h.fW M) (match L:q.2 with
    |true=>fT (U.yes L)
    |false=>jn (U.no L).1<|a6 _),λA=>rfl⟩)))))))
def FW(X:C)(q:Gz×Bool):En×St:=(env X none none (vi<|cnt X.G q.1) none<|some<|.bool q.2,bz X q.1 [gb X])
structure Jzq(X:C)(wS:Gz)(d:List Rp)(q:Gz×Bool):Prop where
 ws:CJ X.G X.K X.len q.1
 no:q.2=false->q.1=wS/\∀p∈d,TO X.len q.1 p.1
 yes:q.2=true->cnt X.G wS<cnt X.G q.1
def ZJ:gp k (gb X)=true:=dB<|bT λU U=>rfl
def s9{d}{p:Rp}(hp:p∈X.G.rl.zipIdx){q}(M:Jzq X n d q):W X (bz X q.1 [gb X]).length Ge (eW X p q) (bz X q.1 [gb X]) (LQ none<|LI (FW X)<|Jzq X n<|d++[p]):=
 have v:=(X.h.rr _<|b4 hp).2.1;have hm:=bV (gn ..) bJ Y
 have y:∀L∈p.1.2.map λx=>(X.st.length+1+X.G.num x,q.1 x),(bz X q.1 [gb X]++[rc X p.1.2])[L.1]? =some (.D<|g8 X.G L.2)/\L.2.Nodup/\∀w∈L.2,w.length<=3:=λL O=>by refine(mM O).elim λx H=>H.elim λB a=>?_;exact jn a<|⟨Ro.jr<|A0<|v x B,M.ws.fW x,λw A=>aa (M.ws.ok x w A).1 X.hl⟩
 let Yzq:Rj.C:={Φ:=X.Φ,G:=X.G,N:=X.N,st:=bz X q.1 [gb X]++[rc X p.1.2],ps:=p.1.2.map λx=>(X.st.length+1+X.G.num x,q.1 x),m:=(bz X q.1 [gb X]).length,len:=X.len,h:=X.h,hS:=X.hS,hc:=by refine J push ?_;exact(Xc λc hc=>(mO hc).elim (λe=>J e ZJ) λh=>J (mS h)<|yR λx B=>aq (by simp only [bB];exact cc (cc (aJ (Gr.jE<|v x B)<|aw ..) 1) _)),hm:=hm,hp:=y,Vp:=by refine J (ag _) ?_;exact(X.h.rr _<|b4 hp).1,hl:=X.hl}
 (X.hR X.st.length Yzq Y).elim λ_ H=>H.elim λe1 H=>H.elim λF H=>H.elim λe2 o=>
 have P:∀w∈F,w.length<=X.len/\GG (p.1.2.map q.1) w:=λw A=>by have:=(o.mem w).mp A;rw [bJ] at this;exact this
 fV (l:=F) (f:=λQ=>Xk X p) q ((fK (aA (oo (dM Y vY) (gF<|aa (X.h.rr _<|b4 hp).1<|bM Y) (aa (X.h.rr _<|b4 hp).1<|bM Y) (λQ=>trivial) λx B ys=>⟨Y,J push<|dh Y Y<|Uk<|v x B⟩)<|aA Y<|aA Y aV)<|e2▸e1).trans (by
   show some (AV.bK<|g8 X.G F,bz X q.1 [gb X]++[rc X p.1.2])=_;exact J push Y)) (by
   show(if(g8 X.G F).length<=lim then some ((g8 X.G F).map λe=>e.1.av,none)else none)=_;exact J iI<|J (au<|dE<|aa (l8 o.fW λw A=>aa (P w A).1 X.hl)<|bM Y)<|J nN Y) Y ⟨M.ws,λh=>⟨(M.no h).1,(λQ=>iZ)⟩,M.yes,λh=>h⟩ (λQ Q Q=>rfl) (λd w r j t U=>
    s10 hp (P w<|J t<|ar _<|.head _).1 (M.ws.sound X.hK X.h hp (P w<|J t<|ar _<|.head _).2) U)
 λj U=>bV (gl.trans gl.symm) (show(Xk X p j).2=bz X j.1 [gb X]++[rc X p.1.2] from(push (m:=[gb X])).symm) (lj (Xc λc hc=>jn (mS hc).symm ZJ) (aD (bI Y)<|aD (bI Y)<|aD (bI Y)<|aD (bI<|aq<|J gl<|J (bB ..)<|bX<|aJ Nat.one_pos<|aw ..)<|aD ff<|aD ff<|aD (bI Y)<|aD ff<|aD (bI Y) Y) (gv j Y trivial ⟨U.ws,λh=>⟨(U.no h).1,λL O=>(mA O).elim (λO=>by
   have i:=Bool.eq_false_iff.mpr λe=>Bool.noConfusion<|(U.b e).symm.trans h;exact((U.no h).1)▸((M.no i).1)▸(M.no i).2 L O) λO w s g=>by
   rw [mS O] at g⊢;refine(U.no h).2 w ((o.mem w).mpr ⟨s,?_⟩);refine J bJ ?_;rw [(U.no h).1,<-(M.no<|Bool.eq_false_iff.mpr λe=>Bool.noConfusion<|(U.b e).symm.trans h).1] at g;exact g⟩,U.yes⟩))
def zp:refs X X.G.cK.length=X.G.cK.map λx=>.ref (X.st.length+1+X.G.num x):=by simp only [refs,w7 X.h.fW,bJ];rfl
structure IW(X:C)(k:Nat)(q:Gz×Bool):Prop where
 ws:CJ X.G X.K X.len q.1
 VY:q.2=false->∀p∈X.G.rl.zipIdx,TO X.len q.1 p.1
 k:k=if q.2=true then 1+(13310-cnt X.G q.1)else 0
def xO:CJ X.G X.K X.len (CX X):=by
 refine⟨λx=>?_,λx w U=>?_,λx N M O=>?_⟩
 .delta CX;split
  .exact Ma ⟨iZ,bh⟩
  .exact bh
 .unfold CX at U;split at U
  .rename_i c;refine J (mS U) ?_;rw [X.hK.tm x (X.h.PA x c.1),one];exact J (au ⟨Y,c.2.1⟩) ⟨c.2.2,Nat.one_ne_zero⟩
  .exact iZ U
 .rw [CX];exact J (au ⟨N,M,O⟩)<|.head _
theorem ok(X:C)(j:13311<X.N):Wp (kC X.Φ ro X.N tf [jG X.G X.e,vi X.len,vi 20000] X.st) λr=>∃ws,r=(.aM<|X.G.cK.map λx=>.bK<|g8 X.G<|ws x,X.st)/\CJ X.G X.K X.len ws/\∀p∈X.G.rl.zipIdx,TO X.len ws p.1:=
 gT Y (cb yN Y
 (fV (l:=X.G.cK) (f:=FA X) (I:=λU U=>True) () (cx (aA (m7 Y Y aV<|X.hg.cnt ..) aV)<|nX<|aa X.h.dN<|bM Y) (by have:=z5 (ro:=X.st.length) (s:=(FA X [] ()).2) (bf _)<|aa X.h.dN<|bM Y;simp only [kh,w7 X.h.fW,bJ] at this;refine this.trans<|congrArg (λl=>some (l,none))<|aX λx U=>?_;show vi (0+X.G.num x)=nv X.G x;exact J (bu _) Y) Y trivial (λU U U=>rfl) (λd x r U P U=>G2 (P▸ar _ (.head _))<|aa (P▸J ae (aw ..))<|aa X.h.dN<|bM Y)
 λU U=>cb (cx (aA (have A:dR X.st.length (bz X (CX X) []) (.ref X.st.length)=some (X.G.cK.map λx=>AV.ref<|X.st.length+1+X.G.num x,some (X.st.length,.L<|refs X X.G.cK.length)):=(n6 mU (by simp only [refs];exact J (ag _)<|J aO<|aa X.h.dN<|bM Y) .refl).trans (jn zp Y)
    (oo Y A (aa X.h.dN<|bM Y) (λy=>Ro.jr mU) λx Q v=>⟨Y,cx (aA Y aV)<|(QC (TV<|Ro.jr<|A0 Q)<|J iI<|aa (l8 (xO.fW x) λw B=>aa (xO.ok x w B).1 X.hl)<|bM Y).trans<|J iI Y⟩).trans (J push Y)) aV)<|Hd (qH (by have:=gn (bz X (CX X) []) [] (gb X);rw [push] at this;exact this))<|aa X.h.dN<|bM Y) Y
 (iP (fK (aA Y<|aA Y aV)<|X.hS.nf _ _ _ _<|aa (xO.Cr X.h.dN X.hl)<|bM Y) (cb cD Y
 (HD (f:=FW X) (I:=IW X) (CX X,true) (aQ (cV (cP ..) 1) j) Y ⟨xO,bn,Y⟩ λk q H=>
  match hq:q.2 with
  |false=>.inl ⟨bz X q.1 [gb X],congrArg (λb=>some (AV.bool b,bz X q.1 [gb X])) hq,oE Y ⟨.ref X.st.length,.aM<|X.G.cK.map λx=>.bK<|g8 X.G<|q.1 x,AC.L (refs X X.G.cK.length)::((X.G.cK.map λx=>AC.D<|g8 X.G<|q.1 x)++[gb X]),.inl Y,Y,vt .refl mU ((congrArg (cY<|iH (bz X q.1 [gb X]) X.st.length 5) zp).trans<|k8 λx Q=>oQ (J (bB ..)<|aw ..) (A0 Q) pI)<|bT λU U=>rfl,q.1,Y,H.ws,H.VY hq⟩⟩
  |true=>.inr ⟨bz X q.1 [gb X],congrArg (λb=>some (AV.bool b,bz X q.1 [gb X])) hq,by refine J H.k<|bV hq (ck ..) ?_;exact bO _,cb cD Y
   (fV (f:=λU=>FW X) (q.1,false) (dM Y oZ) (dx<|jn List.length_zipIdx.symm<|aa X.h.mi<|bM Y) Y ⟨H.ws,λU=>⟨Y,(λU=>iZ)⟩,nb⟩ (λU U U=>rfl) (λd p r M P O=>jn (gl.trans gl.symm)<|s9 (J P<|ar _<|.head _) O)
   λM O=>HH M (if M.2=true then 1+(13310-cnt X.G M.1)else 0) Y (by exact J H.k<|J hq (if c:M.2=true then J (au c) (cc (Nat.sub_lt_sub_left (aJ (O.yes c)<|O.ws.Cr X.h.dN X.hl)<|O.yes c) 1)else J (az c) (J (ck ..)<|bO _))) ⟨O.ws,λh=>(O.no h).2,Y⟩)⟩)))))
end
end Aw
def IU{U:Type}{g:O->U}{lt:U->U->Bool}(x:O):∀l:List O,lu lt (g x) (l.map g)=(lu (λx y=>lt (g x)<|g y) x l).map g:=λl=>l.rec Y λy l M=>by show(if lt (g x) (g y)=true then g x::g y::l.map g else g y::lu lt (g x) (l.map g))=(if lt (g x) (g y)=true then x::y::l else y::lu (λx y=>lt (g x)<|g y) x l).map g;exact if c:lt (g x) (g y)=true then bV (au c) (au c) Y else(az c).trans (bV (az c) M Y)
def sort_map{U:Type}{g:O->U}{lt:U->U->Bool}:∀l:List O,mY lt (l.map g)=(mY (λx y=>lt (g x)<|g y) l).map g:=λl=>l.rec Y λx l M=>(congrArg (lu lt<|g x) M).trans<|IU x _
def Gu:∀l:List M,rO (l.map λx=>(KV.t<|U x).av)=(l.map U):=λl=>l.rec Y λx l O=>by show(cY qd<|(U x).map KA.av).bind (λk=>(rO<|l.map λx=>(KV.t<|U x).av).bind λl=>some (k::l))=_;exact bV (C0 _) O Y
def WR(U:α->List KA)(l:List α):List α:=mY (λx y=>zR (U x)<|U y) l
def ze(N:u7 O a=(l.map λx=>(KV.t<|U x).av))(M:l.length<64)(n:(l.map U).Nodup)(one:qW (l.map U)=true):ku O .sorted [a]=some (.ref O.length,O++[.L ((WR U l).map λx=>(KV.t<|U x).av)]):=by
 show qN O a=_;delta qN;refine J N<|J (Option.bind_some ..)<|J (au<|J (ag _) M) ?_;clear N M;induction l with
 |nil=>rfl
 |cons x l=>exact J (show allInts ((x::l).map λx=>(KV.t<|U x).av)=none from Y)<|J (Gu _)<|(Option.bind_some ..).trans<|J (au<|bV one (aq n) Y)<|J (sort_map _)<|J bJ Y
def jW:(WR U l).Perm l:=qf _ l
def lw(G:Gr)(v w:List Sy):Bool:=zR (v.map<|kA G)<|w.map<|kA G
def U6(u v w)(O:lw G u v=true)(U:lw G v w=true):lw G u w=true:=Ik _ _ _ O U
def Hi(G:Gr)(l:List (List Sy)):List (List Sy):=WR (λw=>w.map<|kA G) l
def Hh(U:G.cK.length<=10)(h:l.Perm m)(n:l.Nodup):Hi G l=Hi G m:=wZ (λv w h=>DM _ _ λe=>h<|mv U _ _<|congrArg KV.t e) U6 h n
def GX:(KV.t<|w.map<|kA G).av=gO G w:=congrArg _ bJ
def qM{st}{a}(H:G.cK.length<=10)(U:u7 st a=(l.map<|gO G))(P:l.length<64)(n:l.Nodup):ku st .sorted [a]=some (.ref st.length,st++[.L ((Hi G l).map<|gO G)]):=by
 have h:=ze (U.trans<|congrArg some<|aX λN N=>GX.symm) P (List.nodup_iff_pairwise_ne.mpr<|List.pairwise_map.mpr<|(List.nodup_iff_pairwise_ne.mp n).imp λO e=>O<|mv H _ _<|congrArg KV.t e) (Bool.or_eq_true_iff.mpr (.inl (NF λk U=>by
  refine(mM U).elim λw D=>D.elim λ_ M=>?_;refine jn M ?_;exact NF λk U=>by obtain⟨x,_,M⟩:=mM U;refine jn M ?_;rfl)))
 exact J h<|J (funext λN=>GX) Y
def xa(M:G.cK.length<=10)(U:x∈G.cK):kC Φ D N nK [jG G e,b5 x] O=(nv G x,O):=
 Wp.eq (gT Y<|mj (xy (lD (cp Y (dM Y vZ)<|JU<|.inl Y) U)<|p8 nofun (dM Y vZ) Y (aA Y aV) (D5 Y (aa M<|bM Y) U)) Y (by simp only [nv];exact J (ll U) Y))
namespace Aw
def Sp(Φ:Fs)(G:Gr)(e:Ex)(K:Sy->List Sy->Nat):Prop:=∀ro st len,Cl st->len<=3->Wp (Φ ro 251 [jG G e,vi len,vi 20000] st) λr=>∃U,r=(.aM<|G.cK.map λx=>.bK<|g8 G<|U x,st)/\CJ G K len U/\∀p∈G.rl.zipIdx,TO len U p.1
end Aw
def NL(K:Sy->List Sy->Nat):Prop:=∀l:List (List Sy),l.Nodup->(∀w∈l,w.length<=3/\K .s w≠0)->l.length<64
def K8(h:G.Ok)(Q:Cl M)(H:len<=3)(B:Aw.Sp Φ G e K)(P:NL K):Wp (kC Φ v N pZ [jG G e,vi len] M) λr=>∃O,r=(.aM<|(Hi G<|O .s).map<|gO G,M)/\CJ G K len O/\∀p∈G.rl.zipIdx,TO len O p.1:=
 gT Y
 ((B M.length M len Q H).elim λ_ U=>U.elim λj U=>U.elim λO U=>U.elim λA U=>U.elim λD X=>jo (cx (aA (dh (fK (aA Y<|aA Y<|aA Y aV)<|jn A j) (dM Y Wk)<|me Y (aa (bx<|Gr.jE<|ar _<|h.jF.mpr<|by decide)<|aa h.dN<|bM Y)<|Gr.jz<|ar _<|h.jF.mpr<|by decide) aV)<|qM h.dN (congrArg some nN) (P _ (D.fW .s) λw L=>let q:=D.ok .s w L;⟨aa q.1 H,q.2⟩)<|D.fW .s) (iQ .refl (gn ..)<|bT λw _=>bT λ_ _=>rfl) ⟨O,Y,D,X⟩)
namespace Tc
def Sp(Φ:Fs)(G:Gr)(e:Ex)(K:Sy->List Sy->Nat):Prop:=∀ro st len,Cl st->len<=3->Wp (Φ ro 412 [jG G e,vi len] st) λr=>∃T:Nat->List (List Sy×Nat),r=(.aM<|(List.range<|len+1).map λm=>oq G<|T m,st)/\∀m,m<=len->Wo.TL m (K .s) (T m)
end Tc
namespace To
def Sp(Φ:Fs)(G:Gr)(e:Ex)(K:Sy->List Sy->Nat):Prop:=∀ro st w,Cl st->w.length<=3->(∀x∈w,x∈G.tm)->Wp (Φ ro 401 [jG G e,gO G w,vi 2] st) λr=>∃l,r=(kF l,st)/\wO G w .s 0 w.length (K .s w) l
end To
def two{U:Type}{l:List U}(h:l.length=2):∃a b,l=[a,b]:=match l,h with
 |[a,b],_=>⟨a,b,Y⟩
namespace Ab
structure C where
 Φ:Fs
 G:Gr
 e:Ex
 N:Nat
 st:St
 len:Nat
 K:Sy->List Sy->Nat
 K':Sy->List Sy->Nat
 h:G.Ok
 hc:Cl st
 hl:len<=3
 hT:Tc.Sp Φ G e K
 hO:To.Sp Φ G e K'
 hf:NL K
 hw:∀w,K .s w≠0->K' .s w=K .s w/\∀x∈w,x∈G.tm
def env(X:C)(O U:Option AV:=none):En:=[some (jG X.G X.e),some<|vi X.len,O,U,none,none]
abbrev Tb:=Nat->List (List Sy×Nat)
def ks(G:Gr)(T:Tb)(m:Nat):List (List Sy):=Hi G ((T m).map (·.1))
noncomputable def KR(K:Sy->List Sy->Nat)(l:List (List Sy)):List (List Sy):=l.filter λw=>decide<|1<K .s w
def sv(G:Gr)(K:Sy->List Sy->Nat)(T:Tb)(d:List Nat):List (List Sy):=d.flatMap λm=>KR K<|ks G T m
def Res(G:Gr)(K:Sy->List Sy->Nat)(len:Nat)(st:St)(r:AV×St):Prop:=∃T:Tb,(∀m,m<=len->Wo.TL m (K .s) (T m))/\((r=(.none,st)/\sv G K T (List.range<|len+1)=[])\/∃w O U rest,r=(.aL [gO G w,iy O,iy U],st)/\sv G K T (List.range<|len+1)=w::rest/\O≠U/\∀t,t=O\/t=U->Val G t/\t.root=.s/\yl t=w)
section
variable{T:Tb}
abbrev W(X:C)(O:Nat)(U:List S)(ρ:En)(s:St)(Q:Out×En×St->Prop):Prop:=Wp (cg X.Φ X.st.length X.N O U ρ s) Q
abbrev V(X:C)(e:E)(ρ:En)(s:St)(r:AV×St):Prop:=bZ X.Φ X.st.length e ρ s=some r
def F3(X:C)(T:Tb)(m:Nat)(g:St)(U:Option AV):En×St:=(env X (oq X.G<|T m) U,X.st++g)
def F2(X:C)(q:St×Option AV×Option AV):En×St:=(env X q.2.1 q.2.2,X.st++q.1)
def I2(X:C)(T:Tb)(d:List Nat)(q:St×Option AV×Option AV):Prop:=Cl (X.st++q.1)/\sv X.G X.K T d=[]
def s3(H:∀m,m<=X.len->Wo.TL m (X.K .s) (T m))(v:List.range (X.len+1)=d++m::r)(b:sv X.G X.K T d=[])(y:ks X.G T m=D++w::R)(o:KR X.K D=[])(n:cT (X.st++g) a)(x:Cl (X.st++g)):
  W X fl pQ (env X (oq X.G<|T m)<|gO X.G w) (X.st++g) (XQ (XQ (PQ X.st<|Res X.G X.K X.len X.st) Jzq)<|LQ a<|LI (F3 X T m g) λu9=>KR X.K (D++[w])=[]):=
 have M:=aK<|mR<|J v<|ar _<|.head _;by
 obtain⟨p,B,U⟩:=mM<|jW.mem_iff.mp<|y▸ar _ (.head _);exact have j:=U▸((H m M).wd p B).1
  have i:p.2=X.K .s w:=by have:=(H m M).wt w j;simp only [Mine.Internal.wt,(U▸fB (H m M).nk B)] at this;exact this
  have N:=(cp (dh Y Y<|wX X.h.dN<|U▸fB (H m M).nk B) cD pX).trans<|i▸Y
  if c:1<X.K .s w then
   by refine(X.hO X.st.length (X.st++g) w x (aa (aG j)<|aa M X.hl) (X.hw w λe=>absurd (e▸c)<|by decide).2).elim λ_ O=>O.elim λf O=>O.elim λl O=>O.elim λe2 A=>?_;obtain⟨P,L,Q⟩:=two<|A.2.2.trans<|cj<|J (X.hw w λe=>absurd (e▸c)<|by decide).1 c;exact lK (lD N c) (qh (fK (aA Y<|aA Y<|aA cD aV) (by simp only [e2,Q] at f;exact f)) Y (oE (mH (aA Y<|aA Y<|aA Y aV)<|bM Y) (.inr ⟨_,Y,.inr ⟨_,Y,_,.aL [gO X.G w,iy P,iy L],g,.inl Y,Y,b8 (by
    show(belows _ _&&(below _ _&&(below _ _&&true)))=true;exact wo (gz ..) (dz<|kY P) (dz<|kY L) Y),T,H,.inr ⟨w,P,L,KR X.K R++sv X.G X.K T r,Y,by
     simp only [v,sv,cX];show sv X.G X.K T d++(KR X.K (ks X.G T m)++sv X.G X.K T r)=_;simp only [b,y,KR,dm,df,au (aq c)];show KR X.K D++w::KR X.K R++sv X.G X.K T r=_;exact J o Y,(λe=>(nC<|jn Q A.1).1<|jn e<|.head _),λt h=>by
     have:=A.2.1 t<|Q▸h.elim (λe=>e▸.head _) λe=>e▸.tail _ (.head _);rw [nW] at this;exact this⟩⟩⟩)))
  else jl (lE N c) (HG (gO X.G w) Y n (by simp only [KR,dm,df,az λq=>c (aB q)];exact(aC _).trans o))
def ok(X:C):Wp (kC X.Φ ro X.N nJ [jG X.G X.e,vi X.len] X.st) (Res X.G X.K X.len X.st):=
 gT Y
 ((X.hT X.st.length X.st X.len X.hc X.hl).elim λ_ M=>M.elim λx M=>M.elim λT M=>M.elim λs j=>
 HF (f:=λU=>F2 X) (I:=I2 X T) ([],none,none) ((fK (aA Y<|aA Y aV)<|s▸x).trans<|by rw [F2,aC]) (dx<|J aO<|aa (bq X.hl)<|bM Y) Y ⟨by refine J (aC _) ?_;exact X.hc,Y⟩ (λU U U=>rfl) (λd m r q o H=>by
  have A:=aK<|mR<|o▸ar _ (.head _);have O:=j m A
  have B:=qM (st:=X.st++q.1) (a:=oq X.G<|T m) X.h.dN (congrArg some (by simp only [bJ];exact B0)) (X.hf _ O.nk λw b=>by obtain⟨p,P,l⟩:=mM b;refine jn l ?_;have g:=O.wt p.1 (O.wd p P).1;simp only [Mine.Internal.wt,fB O.nk P] at g;exact⟨aa (aG (O.wd p P).1)<|aa A X.hl,λe=>cu _<|(g.trans e:p.2=0)▸(O.wd p P).2⟩) O.nk
  have y:(X.st++(q.1++[AC.L ((ks X.G T m).map<|gO X.G)]))[(X.st++q.1).length]? =some (.L<|(ks X.G T m).map<|gO X.G):=jn (aj ..)<|gn ..;have Q:Cl (X.st++(q.1++[AC.L ((ks X.G T m).map<|gO X.G)])):=jn (aj ..)<|H.1.app λc Q=>jn (mS Q).symm<|dB<|bT λw _=>bT λ_ _=>rfl;exact HF (f:=λU=>F3 X T m<|q.1++[AC.L ((ks X.G T m).map<|gO X.G)]) q.2.2 ((cx (aA Y aV) B).trans<|J (aj ..) Y) (n6 y (by simp only [ks,Hi,jW.length_eq,ag];exact aa (O.kn<|aa A X.hl)<|bM Y)<|J ae<|aw ..) Y Y (λU U U=>rfl) (λD w R U t v=>s3 j o H.2 t v y Q)
   λi v=>HG (q.1++[AC.L ((ks X.G T m).map<|gO X.G)],some<|oq X.G<|T m,i) Y trivial ⟨Q,by have n:sv X.G X.K T (d++[m])=sv X.G X.K T d++(KR X.K (ks X.G T m)++[]):=cX;exact n.trans<|bV H.2 v Y⟩)
 λq H=>jo cD (b8 Y) ⟨T,j,.inl ⟨Y,H.2⟩⟩)
end
end Ab
section
variable{ys:List AV}
def Cn(L:gP Φ O P M U=(N,U++Q))(H:cY (iH (U++Q) U.length 6) N=ys)(D:Φ O f ys U=r):bZ Φ O (.vR f P) M U=r:=by simp only [Ed,L,H,kJ,Option.bind_some];exact D
def QI{P:Type}{B:T}{H:P->AV}{O:P->En}{o:St->AV->Option f}{g:P->f}(c:∀ys more,cT (s1++ .L ys::more) b){l:List P}:∀{acc:List AV} {more:St},acc.length+l.length<=2000->
  (∀y∈l,∀ys more,∃v U,fQ (s1++ .L ys::more) B (H y) Q=(O y)/\bZ Φ A elt (O y) (s1++ .L ys::more)=(v,s1++ .L ys::(more++U))/\∀t zs,o (s1++ .L zs::(more++U++t)) v=(g y))->
  ∃M D,lr B (nS Φ A true []) (λQ r=>(bZ Φ A elt Q r).bind<|lM s1.length) b (l.map H) Q (s1++ .L acc::more)=some (s1++ .L (acc++M)::(more++D))/\M.length=l.length/\∀t zs,cY (o (s1++ .L zs::(more++D++t))) M=(l.map g):=by
 induction l with
 |nil=>exact λX X=>⟨[],[],by simp only [aC];rfl,Y,λX X=>rfl⟩
 |cons y l p=>intro acc more w j;refine(j y (.head _) acc more).elim λv N=>N.elim λU N=>N.elim λh N=>N.elim λa x=>?_;obtain⟨M,D,e,s,n⟩:=p (zX (v:=y) w) λy i=>j y<|.tail _ i;refine⟨v::M,U++D,Iu h n8 (Ef (aJ (bX<|bO _) w) a) (c ..)<|e.trans (by simp only [aj];rfl),congrArg (· +1) s,λt zs=>?_⟩;have q:=n t zs;rw [aj (more++U)] at q;rw [dq,<-aj more U D,aj<|more++U,x,Option.bind_some,q];rfl
def JK{D H:Type}{tt}{own}{enc}{l:List D}{ρf:D->En}{fz:St->AV->Option H}{g:D->H}(h:bZ Φ ro it ρ O=(x,s1))(X:dR ro s1 x=(l.map enc,A))(B:∀cs,cT (s1++cs) A)(Q:l.length<=2000)
  (P:∀y∈l,∀ys more,∃v cs,fQ (s1++ .L ys::more) tt (enc y) (dO own ρ)=(ρf y)/\bZ Φ ro elt (ρf y) (s1++ .L ys::more)=(v,s1++ .L ys::(more++cs))/\∀t zs,fz (s1++ .L zs::(more++cs++t)) v=(g y)):
  ∃U N,bZ Φ ro (.lc elt [(tt,it,[])] own) ρ O=some (.ref s1.length,s1++ .L U::N)/\U.length=l.length/\∀t zs,cY (fz (s1++ .L zs::(N++t))) U=(l.map g):=(QI (λys more=>B _) (aa (aG<|bu _) Q) P).elim λU M=>M.elim λN M=>M.elim λq M=>M.elim λw j=>⟨U,N,by rw [Eb,h,Option.bind_some,X,Option.bind_some];refine J (show FO Φ ro (λρ O=>(bZ Φ ro elt ρ O).bind<|lM s1.length) []=λρ O=>(bZ Φ ro elt ρ O).bind (lM s1.length)from Y)<|J q ?_;rfl,w,j⟩
def Fi{f:U->Option U}(M:∀x,f x=some x):∀l:List U,cY f l=some l:=λl=>l.rec Y λx l O=>J (dq ..)<|bV (M _) O Y
def VN{O:Type}{tt:T}{own:List Nat}{U:O->AV}{l:List O}{ρf:O->En}{g:O->AV}(h:bZ Φ ro it ρ D=(x,s1))(X:dR ro s1 x=(l.map U,j))(B:∀cs,cT (s1++cs) j)(Q:l.length<=2000)
  (P:∀y∈l,∀s,∃cs,fQ s tt (U y) (dO own ρ)=(ρf y)/\bZ Φ ro elt (ρf y) s=(g y,s++cs)):∃N,bZ Φ ro (.lc elt [(tt,it,[])] own) ρ D=some (.ref s1.length,s1++ .L (l.map g)::N):=by
 obtain⟨f,N,q,_,w⟩:=JK (fz:=λM=>some) h X B Q λy H ys more=>by refine bQ (P y H (s1++ .L ys::more)) λcs A=>And.elim (λo v=>?_) A;exact⟨g y,cs,o,v.trans<|J (aj ..) Y,λM M=>rfl⟩
 have:=w [] [];rw [Fi λM=>rfl] at this;exact⟨N,ak this▸q⟩
def VI{H:Type}{D N}{l:List H}:∀{xs ys},cY (GN s) xs=(l.map D)->cY (GN s) ys=(l.map N)->(∀y∈l,KQ (D y) (N y)=true)->FV s xs ys=true:=by
 induction l with
 |nil=>exact λO U w=>bV (BU O) (BU U) Y
 |cons y l L=>
  exact λO U M=>BV O λx xs e j B=>BV U λz zs Q A X=>by simp only [e,Q];show(GN s x).bind _=_;simp only [j,A,Option.bind_some,L B X λy P=>M y<|.tail _ P,M y (.head _)];rfl
def H7{O:Type}{e1 e2}{l:List O}(Q:plain dp a=false)(B:vw s a=.L U)(X:vw s b=.L ys)(D:eA dp ys=false)(H:U.length=ys.length)(N:cY (GN s) U=(l.map e1))(M:cY (GN s) ys=(l.map e2))(P:∀y∈l,KQ (e1 y) (e2 y)=true):jc s .ne a b=false:=by show BM s a b=_;delta BM eqQ;refine J Q<|bV B X ?_;show(match RN U ys with|some r=>some (!r)|none=>(FV s U ys).map not)=_;rw [RN,az λq=>q H,D,km];exact J (VI N M P) Y
def Ep [DecidableEq α]{M:List (α×Nat)}(N:∀a b,U a=U b->a=b)(D:Nk L)(X:Nk M)(h:∀k v,fc L k=some v↔fc M k=some v):KQ (encD U vi L) (encD U vi M)=true:=by
 refine J5 ⟨?_,NF λe A=>?_⟩
 .rw [gU,gU,kQ,<-ag,<-ag (as:=M)];refine((fq D X).mpr λk=>?_).length_eq
  have O:∀{L:List (α×Nat)},k∈L.map (·.1)↔∃v,fc L k=some v:=λ{L}=>by
   induction hk:fc L k with
   |none=>exact⟨λq=>absurd q<|fI.mp hk,λH=>H.elim λ_=>eg⟩
   |some v=>exact⟨λP=>⟨v,Y⟩,λP=>GL ⟨_,l7 hk,Y⟩⟩
  simp only [O];exact exists_congr<|h k
 .refine(mM A).elim λp Q=>Q.elim λB j=>?_;refine jn j ?_;exact aq<|J (f9 N ..)<|J ((h p.1 p.2).mp<|fB D B) Y
end
def kR(h:Wo.TL m f L) w:fc L w=some v↔w.length=m/\v=f w/\0<v:=by
 constructor
 .intro e;have M:=h.wd _<|l7 e;have O:=h.wt w M.1;simp only [wt,e] at O;exact⟨M.1,O,M.2⟩
 .rintro⟨M,O,N⟩;have U:=h.wt w M;simp only [wt] at U;induction hg:fc L w with
  |none=>rw [hg,<-O] at U;exact absurd N<|U▸cu 0
  |some c=>rw [hg,<-O] at U;exact congrArg some U
abbrev Ke(R:Rl):Sy->List Sy->Nat:=CC (cG R).rl (· ≠.err)
abbrev Kt(R:Rl):Sy->List Sy->Nat:=CC (cG R).rl λU=>True
abbrev yX:=List<|List Sy×Nat
noncomputable def pl(R:Rl):Rl:=R.filter λp=>decide<|Sy.err∉p.2
noncomputable def n4:List Sy:=[.SV,.SV,.SV,.SV]
def qF(R:Rl):Rl:=pl R++[(.t,n4),(.u,n4)]
structure YZ(R:Rl)(L:Nat)(f:yX):Prop where
 nk:Nk f
 ok:∀p∈f,p.1.length<=L/\0<p.2
 wt:∀w,w.length<=L->wt f w=Kt R .s w
structure Gk(R:Rl):Prop where
 pg:Pg R
 ok:(cG R).Ok
 sE:Sem (cG R) (· ≠.err) (Ke R)
structure Dk(R:Rl):Prop where
 g:Gk R
 sT:Sem (cG R) (λu9=>True) (Kt R)
 kn:NL (Kt R)
 tm:∀w,Kt R .s w≠0->∀x∈w,x∈(cG R).tm
 err:∀w,Ke R .s w=if Sy.err∈w then 0 else Kt R .s w
 wm:∀t,Val (cG R) t->t.root=.s->(yl t).length<=3->wm t<=299
 inj:∀(i j:Nat) (p:Sy×List Sy),(cG R).rl[i]? =some p->(cG R).rl[j]? =some p->i=j
 qF:((pl R).take 1).map (·.1)=[.s]->Gk (qF R)/\∀w,w.length<=3->Ke (qF R) .s w=Ke R .s w
structure Y2(Φ:Fs):Prop where
 Qb:∀ro st (l:List Int),Cl st->l.length<=64->Wp (Φ ro 426 [.aM (l.map .int)] st) λr=>∃n,r=(.ref st.length,st++[iM n 0])
 Zi:∀ro st p,Cl st->ro<=p->p<st.length->GO st p 0->Wp (Φ ro 447 [.ref p] st) λr=>∃R n j,r=(iL R,st.set p<|iM n j)/\rX [.s,.t,.u] R
 Yi:∀ro st R,Cl st->Pg R->∃e,Φ ro 215 [iL R] st=some (jG (cG R) e,st)
 Xp:∀ro st R L,Cl st->rX [.s,.t,.u] R->L<=3->Wp (Φ ro 452 [iL R,vi L] st) λr=>∃f,r=(.bK<|encD kN vi f,st)/\YZ R L f
 cnt:∀ro st R e w,Cl st->Dk R->w.length<=3->(∀x∈w,x∈(cG R).tm)->Φ ro 386 [jG (cG R) e,.aM (w.map<|nv<|cG R)] st=some (vi<|Kt R .s w,st)
 tc:∀R e,Gk R->Tc.Sp Φ (cG R) e (Ke R)
 up:∀ro st R e len,Cl st->Dk R->len<=3->Wp (Φ ro 259 [jG (cG R) e,vi len] st) λr=>∃l:List (List Sy),r=(.aM<|(Hi (cG R) l).map<|gO<|cG R,st)/\l.Nodup/\∀w,w∈l↔w.length<=len/\Ke R .s w≠0
 ab:∀ro st R e len,Cl st->Dk R->len<=3->Wp (Φ ro 419 [jG (cG R) e,vi len] st) (Ab.Res (cG R) (Ke R) len st)
 num:∀ro st G e x,Gr.Ok G->x∈G.cK->Φ ro 160 [jG G e,b5 x] st=some (nv G x,st)
 told:∀ro st t,Cl st->wm t<=900->Φ ro 294 [iy t] st=some (fy t,st)
 lv:SE Φ 299
namespace La
structure C where
 Φ:Fs
 N:Nat
 st:St
 KH:AV
 R:Rl
 e:Ex
 f:yX
 L:Nat
 hc:Cl st
 hL:L<=3
 hp:Y2 Φ
 hd:Dk R
 hf:YZ R L f
 yE:f7 KH=true
abbrev C.G(X:C):Gr:=cG X.R
def env(X:C)(A B Q P H D N M O U:Option AV:=none):En:=[some X.KH,none,some<|iL X.R,some<|jG X.G X.e,some<|.bK<|encD kN vi X.f,some<|vi X.L,A,B,none,none,Q,none,P,none,H,D,N,M,O,U,none]
section
variable{X:C}
abbrev W(X:C)(O:Nat)(U:List S)(ρ:En)(s:St)(Q:Out×En×St->Prop):Prop:=Wp (cg X.Φ X.st.length X.N O U ρ s) Q
abbrev V(X:C)(e:E)(ρ:En)(s:St)(r:AV×St):Prop:=bZ X.Φ X.st.length e ρ s=some r
def kn:X.f.length<=1331:=lV X.hf.nk λp U=>aa (X.hf.ok p U).1 X.hL
def yD:dR X.st.length s (.bK<|encD kN vi X.f)=some (X.f.map λp=>dP p.1,none):=by show(if(encD kN vi X.f).length<=lim then some ((encD kN vi X.f).map λe=>e.1.av,none)else none)=_;exact J (gU _)<|J (au<|dE<|aa kn<|bM Y)<|J (QN ..) Y
def Hf(h:(w,c)∈X.f):subQ s (.bK<|encD kN vi X.f) (dP w)=(vi c):=by show((l9<|dP w).bind λk=>if ed k (encD kN vi X.f)then fP (encD kN vi X.f) k else none)=_;exact J (tL _)<|J (Option.bind_some ..)<|J (au<|uc ..)<|J (f9 sr ..)<|J (fB X.hf.nk h) Y
def oi(h:(w,c)∈X.f):c=Kt X.R .s w/\w.length<=X.L/\0<c:=by have U:=X.hf.wt w (X.hf.ok _ h).1;simp only [Mine.Internal.wt,fB X.hf.nk h] at U;exact⟨U,(X.hf.ok _ h)⟩
def PC(h:(w,c)∈X.f):∀x∈w,x∈X.G.tm:=let q:=oi h;X.hd.tm w λe=>cu 0 (by have:=q.2.2;simp only [q.1,e] at this;exact this)
def st6(k:W X X.st.length O (env X none<|iL<|pl X.R) X.st Q):W X X.st.length (S6::.gc [8,9]::O) (env X) X.st Q:=
 cb (vK Y (dx<|aa X.hd.g.pg.len<|bM Y) (aa X.hd.g.pg.len<|bM Y) (λU=>trivial) λd p r M=>⟨Y,tw<|(cp (x:=b5 .err) cD Y<|qu<|.inl Y).trans<|by exact J decide_not Y,λU=>rfl⟩) Y (lj X.hc (aD (bI<|dz X.yE)<|aD ff<|aD (bI Y)<|aD (bI Y)<|aD (bI Y)<|aD (bI Y)<|aD ff<|aD (Xo .refl (gn ..)<|bT λU U=>rfl) Y) k)
noncomputable def refs(X:C):List AV:=(List.range<|X.L+1).map λi=>.ref<|X.st.length+1+i
def dS(X:C)(U:Nat->yX)(m:St):St:=X.st++ .L (refs X)::((List.range<|X.L+1).map (λi=>.D<|encD (kW X.G) vi<|U i)++m)
noncomputable def p7(d:yX)(m:Nat):yX:=d.filter λp=>decide<|Sy.err∉p.1/\p.1.length=m
def FU(X:C):AV:=.aM<|(List.range<|X.L+1).map λm=>oq X.G<|p7 X.f m
def VJ:(dS X U m)[X.st.length]? =some (.L<|refs X):=gn ..
def dat(U:i<=X.L):(dS X O m)[X.st.length+1+i]? =some (.D<|encD (kW X.G) vi<|O i):=by simp only [dS,bB,gx,ck 1];exact J (bW<|J (ag _)<|J aO<|cq U)<|J cE<|J (dI<|cq U) Y
def Yy(U:i<=X.L):(dS X O m).set (X.st.length+1+i) (.D<|encD (kW X.G) vi l)=dS X (λj=>if j=i then l else O j) m:=by
 refine J (bB ..)<|J (sx ..)<|J (ck 1 _) ?_;show X.st++ .L (refs X)::(((List.range<|X.L+1).map (λi=>AC.D<|encD (kW X.G) vi<|O i)++m).set i _)=_;refine J (List.set_append_left _ _<|J (ag _)<|J aO<|cq U)<|J (map_set (x:=i) _ _ iq<|dI<|cq U) ?_;rw [dS];congr 4
 funext j
 exact if c:j=i then bV (au c) (au c) Y else bV (az c) (az c) Y
def Oy{c}:dS X U m++[c]=dS X U (m++[c]):=by rw [dS];exact J (aj ..)<|J fa<|J (aj ..) Y
def Cm:(dS X U m).length=X.st.length+(1+(X.L+1+m.length)):=by simp only [dS,bj,ae,ag,aO,ck (_+_) 1]
def dcl:Cl (dS X H []):=λc M=>(mA M).elim (λh=>oW (by exact J Cm<|aw ..)<|X.hc c h) λh=>by
  rcases mO h with D|h
  .exact J D (yR λi O=>aq<|bV Cm (bB ..)<|cc (cc (mR O) 1) _)
  .rw [aC] at h;refine(mM h).elim λi U=>U.elim λ_ N=>?_;exact jn N<|fL<|fj ..
def nums{U:Sy->En}(P:∀x∈w,x∈X.G.tm)(D:w.length<=3)(Q:N[6]? =some (some<|dP w))(O:∀x,nr 12 (b5 x) (dO [12] N)=(U x))(B:∀x,(U x)[3]? =some (some<|jG X.G X.e))(M:∀x,(U x)[12]? =some (some<|b5 x)):
  V X (.lc (.bR (.af 3) (.user 2) [.af 12]) [(.v 12,.af 6,[])] [12]) N s (.ref s.length,s++[.L (w.map<|nv X.G)]):=
 oo (J j9<|J Q Y) (gF<|aa D<|bM Y) (aa D<|bM Y) (λj=>trivial) λx H A=>⟨O x,m7 (J j9<|J (B _) Y) Y (aA (J j9<|J (M _) Y) aV)<|X.hp.num _ _ _ _ _ X.hd.g.ok<|bl _<|P x H⟩
def F8(X:C)(d:yX)(U:Option AV):En×St:=(env X U (iL<|pl X.R)<|some<|.ref X.st.length,dS X (p7 d) [])
def Aq:p7 (d++[p]) j=if Sy.err∉p.1/\p.1.length=j then p7 d j++[p] else p7 d j:=by delta p7;exact J (dm ..)<|J df (if c:Sy.err∉p.1/\p.1.length=j then bV (au<|aq c) (au c) Y else bV (az λq=>c<|aB q) (az c) (aC _))
def T5(P:X.f=d++p::r):W X (dS X (p7 []) []).length Cw (env X (dP p.1) (iL<|pl X.R)<|some<|.ref X.st.length) (dS X (p7 d) []) (LQ none<|LI (F8 X<|d++[p]) λM=>True):=
 have O:=J P<|ar _<|.head _;have H:=aa (oi O).2.1 X.hL;have U:=cp cD Y<|qu<|.inr Y
 if c:Sy.err∈p.1 then
  jl (by replace U:=(aq c)▸U;exact U) (gv (dP p.1) (by rw [F8,show p7 (d++[p])=p7 d from funext λj=>by refine J Aq ?_;rw [az λq=>q.1 c]]) trivial trivial)
 else
  have N:p.1∉(p7 d p.1.length).map (·.1):=λh=>by obtain⟨q,Q,e⟩:=mM h;have n:=X.hf.nk;rw [P] at n;delta Nk at n;exact(nA<|jn aR n).2.2 _ (cW (mF Q).1) _ (.head _) e
  lK ((aF c)▸U) (nE (dh Y Y<|Hf O) (dh Y (cx (aA Y aV)<|sW<|aa H<|bM Y)<|me (f:=λi=>.ref<|X.st.length+1+i) (qH VJ) (aa H<|bM Y)<|dI<|cq (oi O).2.1) (cx (aA (nums (PC O) H Y (λM=>rfl) (λM=>rfl) λM=>rfl) aV)<|y7 (qH<|gn ..)<|J (ag _)<|aa H<|bM Y) (Ro.jr<|dat (oi O).2.1) nU rp (J (gU _)<|fH<|aa (bN ..)<|aa (by exact J P<|J ae<|aw ..)<|aa kn<|bM Y) (J (bB ..)<|aw ..) (by
   refine J (jw (mv X.hd.g.ok.dN) ..) (J (kb N _)<|J Oy<|J (Yy (oi O).2.1) ?_)
   have B:dS X (λj=>if j=p.1.length then p7 d p.1.length++[(p.1,p.2)] else p7 d j) ([]++[AC.L (p.1.map<|nv X.G)])=dS X (p7<|d++[p]) []++[AC.L (p.1.map<|nv X.G)]:=by
    refine J Oy ?_;congr 1
    funext j
    exact J Aq (if D:p.1.length=j then J (au D.symm) (J (au ⟨c,D⟩)<|J D Y)else J (az λq=>D q.symm) (J (az λq=>D q.2) Y))
   exact bV B (Cm.trans Cm.symm)<|lj dcl (aD (bI<|dz X.yE)<|aD ff<|aD (bI Y)<|aD (bI Y)<|aD (bI Y)<|aD (bI Y)<|aD (bI<|dB<|bT λM M=>rfl)<|aD (bI Y)<|aD ff<|aD ff<|aD (bI<|aq<|J Cm<|bX<|aJ Nat.one_pos<|aw ..) Y)<|bU<|gv (dP p.1) Y trivial trivial)
  )
def st7(k:W X X.st.length M (env X none (iL<|pl X.R)<|FU X) X.st Q):W X X.st.length (S7::.dT (.v 6) (.af 4) Cw::.gc [6]::M) (env X none<|iL<|pl X.R) X.st Q:=
 have O:=aa (bq X.hL)<|bM Y
 cb (s1:=dS X (p7 []) []) ((VQ (λU U=>rfl) (cx (aA (dy Y Y il) aV)<|nX O) (oN<|aa X.hL<|bM Y) (λU=>trivial) (J aO<|aa O<|bM Y) λU=>rfl).trans (by rw [dS];exact J (aC _)<|J (show(λi=>AC.D<|encD (kW X.G) vi<|p7 [] i)=λ_:Nat=>AC.D [] from Y)<|J List.map_const'<|J aO Y)) Y
 (fV (f:=F8 X) (I:=λU U=>True) none Y yD Y trivial (λU U U=>rfl) (λd p r U H U=>T5 H)
 λL U=>lj X.hc (aD (bI<|dz X.yE)<|aD ff<|aD (bI Y)<|aD (bI Y)<|aD (bI Y)<|aD (bI Y)<|aD ff<|aD (bI Y)<|aD ff<|aD ff<|aD (TR<|vt .refl VJ (k8 λi N=>oQ (J (bB ..)<|aw ..) (dat<|aK<|mR N)<|fj ..)<|bT λU U=>rfl) Y) k)
end
end La
def U1(N:plain dp b=false)(H:vw s a=.L U)(D:vw s b=.L O)(M:eA dp U=true)(e:U=O):jc s .ne a b=false:=by show BM s a b=_;delta BM eqQ;simp only [N,km,H,D,<-e];show(match RN U U with|some r=>some (!r)|none=>(FV s U U).map not)=_;rw [RN,az λq=>q Y,M];exact J (aq Y) Y
def ui{U}{kf}{L:List (U×Nat)}(M:∀x,j5 (kf x)=j5 (.t []))(h:vw s a=.D (encD kf vi L)):GN s a=(encD kf vi L):=by
 show VS (vw s a)=_;refine J h ?_;show(if nh dp (encD kf vi L)&&ed (.t []) (encD kf vi L)then some (encD kf vi L)else none)=_;rw [au];refine J5 ⟨?_,NF λe N=>?_⟩
 .clear h;exact L.rec Y λp L O=>J5 ⟨Y,O⟩
 .obtain⟨p,_,H⟩:=mM N;exact jn H<|beq_iff_eq.mpr<|M _
def uS G w:plain dp (gO G w)=true:=(jD ..).mpr λx U=>by obtain⟨y,_,O⟩:=mM U;refine jn O ?_;rfl
def uq{l:List (List Sy)}:eA dp (l.map<|gO G)=true:=(jD ..).mpr λx U=>by obtain⟨y,_,O⟩:=mM U;exact jn O<|uS G y
namespace La
section
variable{X:C}
abbrev E0(X:C)(U:Option AV:=none):En:=env X U (iL<|pl X.R)<|FU X
def kE(M:m<=X.L):Wo.TL m (Ke X.R .s) (p7 X.f m):=by
 refine⟨fJ (gC _ fx) X.hf.nk,λp U=>?_,λw O=>?_⟩
 .have h:=mF U;exact⟨(aB h.2).2,(X.hf.ok p h.1).2⟩
 .refine J (X.hd.err _) ?_;by_cases c:Sy.err∈w
  .rw [au c,wt,fI.mpr λh=>?_];rfl;obtain⟨p,U,rfl⟩:=mM h;exact(aB (mF U).2).1 c
  .rw [az c,<-X.hf.wt w (J O M),wt,p7];exact J (Wo.tE X.hf.nk λN=>aq ⟨c,O⟩) Y
noncomputable def fe(X:C):List (List Sy):=(X.f.filter λp=>decide<|Sy.err∈p.1).map (·.1)
def sp(X:C):List (List Sy):=WR (λw:List Sy=>w.map kS)<|fe X
def g9(X:C):St:=[.L ((fe X).map dP),.L<|(sp X).map dP,.L (((sp X).drop<|(sp X).length-2).map dP)]
def Ym:Cl (X.st++g9 X):=X.hc.app λc U=>by
 have O:∀(l:List (List Sy)) (k:Nat),gp k (.L<|l.map dP)=true:=λl k=>dB<|bT λ_ _=>bT λ_ _=>rfl;rcases mO U with N|U
 .exact J N (O ..)
 exact(mO U).elim (λM=>J M<|O ..) λU=>J (mS U)<|O ..
def Jp(h:w∈fe X):∃c,(w,c)∈X.f:=by obtain⟨p,U,O⟩:=mM h;exact jn O<|⟨p.2,(mF U).1⟩
def Jo:(fe X).Nodup:=fJ (gC _ fx) X.hf.nk
def Cd:(fe X).length<64:=X.hd.kn _ Jo λw U=>by obtain⟨_,h⟩:=Jp U;exact let q:=oi h;⟨aa q.2.1 X.hL,λe=>cu 0 (by have:=q.2.2;simp only [q.1,e] at this;exact this)⟩
noncomputable def Zt:E:=.AY (.bA .sorted [.lc (.af 6) [(.v 6,.af 4,[.bk .z8 (.aI<|.str [101,114,114,111,114]) (.af 6)])] [6]])<|.aI<|.int<|-2
def st9(k:W X X.st.length A (E0 X) X.st Q):W X X.st.length (.dT (.v 6) Zt Ge::.gc [6]::A) (E0 X) X.st Q:=
 fV (f:=λU P=>(E0 X P,X.st++g9 X)) (I:=λU U=>True) none (have y:(X.f.filter λp=>decide<|Sy.err∈p.1).map (λp=>dP p.1)=(fe X).map dP:=by simp only [fe,bJ];rfl
    have q:=ze (by
     show(match vw (X.st++[AC.L ((fe X).map dP)]) (.ref X.st.length)with| .L xs=>some xs| .D es=>some (es.map λe:KV×AV=>e.1.av)|_=>none)=_;exact J (qH<|gn ..)<|congrArg some<|aX λw U=>(II w).symm) Cd (List.nodup_iff_pairwise_ne.mpr<|List.pairwise_map.mpr<|(List.nodup_iff_pairwise_ne.mp Jo).imp λM e=>M<|sr _ _<|congrArg KV.t e) (Bool.or_eq_true_iff.mpr (.inr (NF λk N=>by
      obtain⟨w,_,H⟩:=mM N;refine jn H ?_;exact NF λk N=>by obtain⟨x,_,H⟩:=mM N;refine jn H ?_;rfl)))
    have j:((sp X).map dP).length<=2000:=by simp only [ag,sp,jW.length_eq];exact aa (bx Cd) (bM Y)
    Au (cx (aA ((vK Y yD (aa kn<|bM Y) (λU=>trivial) λd p r B=>⟨Y,tw<|cp (x:=b5 .err) cD Y<|JU<|.inr Y,λU=>rfl⟩).trans<|J y Y) aV)<|q.trans<|J (aX λw U=>II w)<|bV (aj ..) ae Y) cD ((Hr Y (qH<|gx _ _ 1) j).trans (by
     exact bV (show JO ((sp X).map dP) (.m5<|-2)=(((sp X).map dP).drop<|((sp X).map dP).length-2)from Y) (Option.bind_some ..)<|J (ag _)<|jn List.map_drop<|bV (aj ..) ae Y))) (n6 (gx _ _ 2) (by
  simp only [ag,List.length_drop,sp,jW.length_eq];exact aa (cP ..)<|aa (bx Cd)<|bM Y)<|aw ..) Y trivial (λU U U=>rfl) (λd w r U B U=>
   bQ (Jp<|jW.mem_iff.mp<|List.mem_of_mem_drop (B▸ar _ (.head _):w∈(sp X).drop ((sp X).length-2))) λc O=>jl (cp (Cn (aA Y<|aA (nums (PC O) (aa (oi O).2.1 X.hL) Y (λU=>rfl) (λU=>rfl) λU=>rfl) aV) (J (dq ..)<|J (b8 Y)<|J (Option.bind_some ..)<|J (dq ..)<|J (iQ .refl (gn ..)<|bT λU U=>rfl) Y)<|X.hp.cnt _ _ _ _ _ Ym X.hd (aa (oi O).2.1 X.hL)<|PC O) (dh Y Y<|Hf O)<|Dc uV (oi O).1.symm)<|gv (dP w) Y (gx _ _ 2) trivial)
 λP U=>lj X.hc (aD (bI<|dz X.yE)<|aD ff<|aD (bI Y)<|aD (bI Y)<|aD (bI Y)<|aD (bI Y)<|aD ff<|aD (bI Y)<|aD ff<|aD ff<|aD (bI Y) Y) k
end
end La
namespace La
section
variable{X:C}
def dw(X:C):List (List Sy):=(List.range<|X.L+1).flatMap λi=>(p7 X.f i).map (·.1)
def uh:w∈(p7 X.f i).map (·.1)↔w∈X.f.map (·.1)/\Sy.err∉w/\w.length=i:=by
 constructor
 .refine λh=>(mM h).elim λp O=>O.elim λU N=>?_;refine jn N ?_;have U:=mF U;exact⟨cW U.1,aB U.2⟩
 .rintro⟨h,M⟩;obtain⟨p,U,rfl⟩:=mM h;exact cW<|List.mem_filter.mpr ⟨U,aq M⟩
def Cj:w∈dw X↔w.length<=X.L/\Ke X.R .s w≠0:=by
 refine J (X.hd.err _) ?_;constructor
 .intro h;obtain⟨i,N,h⟩:=List.mem_flatMap.mp h;obtain⟨O,U,D⟩:=uh.mp h;clear h i N D;clear h;obtain⟨p,M,rfl⟩:=mM O;exact J (az U) ⟨(oi M).2.1,λe=>cu 0 (by have:=(oi M).2.2;simp only [(oi M).1,e] at this;exact this)⟩
 .rintro⟨O,U⟩;exact if c:Sy.err∈w then absurd Y ((au c)▸U)else by rw [az c,<-X.hf.wt w O] at U;refine List.mem_flatMap.mpr ⟨w.length,Ii<|cq O,uh.mpr ⟨?_,c,Y⟩⟩;exact byContradiction λq=>U (by simp only [wt];exact J (fI.mpr q) Y)
def yL:(dw X).Nodup:=by rw [gK];delta dw;rw [List.pairwise_flatMap];refine⟨λi N=>List.nodup_iff_pairwise_ne.mp<|fJ (gC _ fx) X.hf.nk,(List.nodup_iff_pairwise_ne.mp iq).imp λ{i j} U v M w O e=>U ?_⟩;exact jn ((uh.mp M).2.2)<|jn ((uh.mp O).2.2)<|J e Y
def Jm{l:List (List Sy)}(n:l.Nodup)(h:∀w∈l,w.length<=X.L/\Ke X.R .s w≠0):l.length<64:=X.hd.kn l n λw U=>⟨aa (h w U).1 X.hL,(λe=>((h w U).2)<|by simp only [X.hd.err,e,ite_self])⟩
def u5(h:plain d (f 0)=false):eA d ((List.range<|n+1).map f)=false:=J List.range_succ_eq_map<|eY (congrArg _ h) _
def UY{G G':Gr}{T:Nat->yX}{a b:AV}(N:G.cK.length<=10)(H:a=.aM ((List.range<|X.L+1).map λm=>oq G<|T m))(D:b=FU X)(P:G=X.G)(M:∀m,m<=X.L->Wo.TL m (Ke X.R .s) (T m)):jc s .ne a b=some false:=by
 subst H D P;refine H7 (e1:=λm=>encD (kW X.G) vi<|T m) (e2:=λm=>encD (kW X.G) vi<|p7 X.f m) ?_ Y Y ?_ (by simp only [ag]) (k8 λm O=>ui (λO=>rfl) Y) (k8 λm O=>ui (λO=>rfl) Y) λm U=>?_
 .exact(uN 299 _).trans (u5 Y)
 .exact u5 Y
 .have U:=aK<|mR U;exact Ep (mv N) (M m U).nk (kE U).nk λk v=>by rw [kR (M m U),kR (kE U)]
noncomputable def Zn:E:=.lc (.af 6) [(.v 13,.af 10,[]),(.v 6,.af 13,[])] [13,6]
def ev2:∃more,V X Zn (E0 X) X.st (.ref X.st.length,X.st++ .L ((dw X).map<|gO X.G)::more):=by refine(JL (g:=λU=>gO X.G) (Jzq:=λU U=>True) Y (dx<|J aO<|aa (bq X.hL)<|bM Y) (λU=>trivial) (aa (bx<|Jm yL λw=>Cj.mp)<|bM Y) trivial λm O M more U=>⟨[],none,oq X.G<|p7 X.f m,trivial,Y,J (aC _) Y,(pF<|aa ((kE<|aK<|mR O).kn<|aa (aK<|mR O) X.hL)<|bM Y).trans<|J bJ Y,λU=>trivial,λw U M=>⟨Y,n8,λU=>rfl⟩⟩).elim λmore N=>⟨more,N.trans ?_⟩;refine J List.map_flatMap ?_;congr 5;exact congrArg (λf=>List.flatMap f<|List.range<|X.L+1)<|funext λm=>J (List.filter_eq_self.mpr λU U=>rfl) Y
def ZV:S:=.jt (.or [.bk .ne (.lO 412 [.af 3,.af 5]) (.af 10),.bk .ne (.lO 259 [.af 3,.af 5]) (.bA .sorted [Zn])]) [.ret (.aI<|.bool false)] []
def XI(k:W X X.st.length M (E0 X) X.st Q):W X X.st.length (ZV::.gc []::M) (E0 X) X.st Q:=(X.hp.tc X.R X.e X.hd.g X.st.length X.st X.L X.hc X.hL).elim λ_ U=>U.elim λy U=>U.elim λT U=>U.elim λv H=>(X.hp.up X.st.length X.st X.R X.e X.L X.hc X.hd X.hL).elim λ_ U=>U.elim λq U=>U.elim λl U=>U.elim λj U=>U.elim λO N=>ev2.elim λmore A=>have B:=cp (fK (aA Y<|aA Y aV)<|v▸y) Y (UY (G':=X.G) X.hd.g.ok.dN Y Y Y H)
  have P:=qM X.hd.g.ok.dN (by show(match vw (X.st++ .L ((dw X).map<|gO X.G)::more) (.ref X.st.length)with| .L xs=>some xs| .D es=>some (es.map λe:KV×AV=>e.1.av)|_=>none)=_;exact J (qH<|gn ..) Y) (Jm yL λw=>Cj.mp) yL
  jl ((Av B<|cp (fK (aA Y<|aA Y aV)<|jn j q) (cx (aA A aV) P)<|U1 Y Y (qH<|gn ..) uq<|congrArg _<|Hh X.hd.g.ok.dN ((fq O yL).mpr λw=>(N w).trans Cj.symm) O).trans<|J (aj ..) Y) (lj X.hc (aD (bI<|dz X.yE)<|aD ff<|aD (bI Y)<|aD (bI Y)<|aD (bI Y)<|aD (bI Y)<|aD ff<|aD (bI Y)<|aD ff<|aD ff<|aD (bI Y) Y) k)
end
end La
def Ox(D:plain dp b=false)(P:vw s a=.L O)(H:vw s b=.L U)(N:eA dp O=true)(M:eA dp U=true):jc s .eq a b=(decide<|O=U):=by show eqQ s a b=_;delta eqQ;simp only [D,km,P,H];show RN O U=_;rw [RN];exact bV N M (if c:O.length=U.length then(by refine(az λq=>q c).trans ?_;rfl)else J (au c) (J (aF λe:O=U=>c<|congrArg List.length e) Y))
def Je(N:below U a=true)(M:U<=n)(h:s[n]? =some (.L O))(H:gD O=true):iH s U (d+2) (.aL [a,.ref n])=some (.aL [a,.aM O]):=by
 have P:below U (.aL [a,.ref n])=false:=by show(below U a&&(decide (n<U)&&true))=false;exact bV N (aF<|Nat.not_lt.mpr M) Y
 refine(az λh=>nb<|P.symm.trans h).trans ?_;show(cY (iH s U<|d+1) [a,.ref n]).bind (λD=>some<|AV.aL D)=_;simp only [b8 N,dq,iQ M h H];rfl
def uH(U:Nat)(s:St)(v:AV):Option AC:=match v with
 | .ref n=>if U<=n then s[n]? else none
 |_=>none
def E4(h:uH U s v=some (.D O))(M:jN O=true):iH s U (d+1) v=some (.bK O):=by
 cases v with
 |ref n=>
  have h:(if U<=n then s[n]? else none)=some (.D O):=h;by_cases c:U<=n
  .rw [au c] at h;exact oQ c h M
  .rw [az c] at h;exact eg h
 |_=>exact eg h
def HB(h:uH U s v=some (.D O)):vw s v=.D O:=by
 cases v with
 |ref n=>
  have h:(if U<=n then s[n]? else none)=some (.D O):=h;by_cases c:U<=n
  .rw [au c] at h;exact TV h
  .rw [az c] at h;exact eg h
 |_=>exact eg h
def FX:∀{L A:List (List Sy×Nat)},Nk (A++L)->(encD kN vi L).foldl (λM e=>dput M e.1 e.2) (encD kN vi A)=encD kN vi (A++L):=by
 intro L;induction L with
 |nil=>intro A h;exact J (aC _) Y
 |cons p L U=>
  intro A h
  have O:p.1∉A.map (·.1):=λq=>by delta Nk at h;exact(nA<|jn aR h).2.2 _ q _ (.head _) Y
  rw [ji] at h;show(encD kN vi L).foldl _ (dput (encD kN vi A) (kN p.1)<|vi p.2)=_;simp only [jw sr,kb O,U h,aj];rfl
def LV:∀{L:List (List Sy×Nat)},uP s (L.map λp=>.aL [dP p.1,vi p.2])=(encD kN vi L):=by
 intro L;exact L.rec Y λp L U=>by show((l9<|dP p.1).bind λk=>some (k,vi p.2)).bind (λe=>(uP s<|L.map λp=>AV.aL [dP p.1,vi p.2]).bind λl=>some (e::l))=_;exact bV (tL _) U Y
def RQ(h:vw s a=.L (L.map λp=>.aL [dP p.1,vi p.2]))(U:L.length<=2000)(n:Nk L):ku s .dict [a]=some (.ref s.length,s++[.D (encD kN vi L)]):=by show(Bq<|vw s a).bind (Ei s)=_;refine J h ?_;show(if(L.map λp=>AV.aL [dP p.1,vi p.2]).length<=lim then some (L.map λp=>AV.aL [dP p.1,vi p.2])else none).bind (Ei s)=_;refine J (au<|J (ag _)<|dE U)<|J (Option.bind_some ..) ?_;rw [Ei];exact J LV<|J (Option.bind_some ..)<|J (au<|uc _ _ [])<|congrArg (λO=>some (AV.ref s.length,s++[AC.D O]))<|FX (A:=[]) n
def Ew:s++a::(m++(Yzq++[d])++t)=(s++a::m++Yzq)++d::t:=J (aj m ..)<|bV (aj Yzq ..) (aj (s++a::m) ..)<|J (aj s ..) Y
def Nn:s++a::(m++(Yzq++[d]))=(s++a::m++Yzq)++[d]:=J (aj (s++a::m) ..)<|J (aj s ..) Y
def Nm:(s++a::m++Yzq).length=(s++b::m++Yzq).length:=by simp only [ae];rfl
namespace La
section
variable{T:Nat->yX}
noncomputable def hE(U:Nat)(it:E):E:=.lc (.bA .dict [.lc (.aL [.bA .tuple [.lc (.sub (.bG (.af U) 11)<|.af 16) [(.v 16,.af 6,[])] [16]],.sub (.af 13) (.af 6)]) [(.v 6,.af 13,[])] [6]]) [(.v 13,it,[])] [13]
def eH(X:C)(o:Option AV:=none)(D N M O U:Option AV:=none):En:=[some X.KH,none,some<|iL X.R,some<|jG X.G X.e,some<|.bK<|encD kN vi X.f,some<|vi X.L,D,some<|iL<|pl X.R,none,none,some<|FU X,none,none,N,M,O,U,none,none,none,none]
def Vq(c:G.cK.length<=10)(n:∀v6 B Q,(eH X none v6 B O U Q)[gi]? =some (some<|jG G e))(a:∀m,m<=X.L->Nk (T m)/\(T m).length<=2000/\∀p∈T m,p.1.length<=3/\∀x∈p.1,x∈G.cK)(w:V X j (eH X none none none O U) s1 (.aM<|(List.range<|X.L+1).map λm=>oq G<|T m,s1)):
  ∃N P,V X (hE gi j) (eH X none none none O U) s1 (.ref s1.length,s1++ .L N::P)/\N.length=X.L+1/\∀t zs,cY (uH s1.length (s1++ .L zs::(P++t))) N=((List.range<|X.L+1).map λm=>AC.D<|encD kN vi<|T m):=by
 obtain⟨N,P,e1,e2,e3⟩:=JK (tt:=.v 13) (own:=[13]) (fz:=uH s1.length) w (dx<|J aO<|aa (bq X.hL)<|bM Y) (λy=>trivial) (J aO<|aa (bq X.hL)<|bM Y) λm l q more=>by obtain⟨f,A,H⟩:=a m<|aK<|mR l;obtain⟨b,h⟩:=VN (tt:=.v 6) (it:=.af 13) (own:=[6]) (ρ:=eH X none none (oq G<|T m) O U) (g:=λp=>.aL [dP p.1,vi p.2]) Y (pF A) (λy=>trivial) A λp M s=>⟨[.L (p.1.map b5)],Y,mH (aA (cx (aA (oo (Φ:=X.Φ) (ro:=X.st.length) (tt:=.v 16) (it:=.af 6) (own:=[16]) (ρf:=λx=>eH X none (gO G p.1) (oq G<|T m) O U<|nv G x) Y (gF<|aa ((H p M).1)<|bM Y) (aa ((H p M).1)<|bM Y) (λy=>trivial) λx r q=>⟨Y,dh (i:=.af 16) (dM (by rw [j9,n]) vZ) Y<|me Y (aa (bx<|Gr.jE<|(H p M).2 x r)<|aa c<|bM Y)<|Gr.jz<|(H p M).2 x r⟩) aV)<|y7 (qH<|gn ..)<|J (ag _)<|aa ((H p M).1)<|bM Y)<|aA (dh (o:=.af 13) (i:=.af 6) Y Y<|wX c<|fB f M) aV)<|bM Y⟩;refine⟨.ref (s1++ .L q::more++ .L ((T m).map λp=>.aL [dP p.1,vi p.2])::b).length,.L ((T m).map λp=>.aL [dP p.1,vi p.2])::b++[.D (encD kN vi<|T m)],Y,(cx (aA h aV)<|RQ (qH<|gn ..) A f).trans<|jn Nn Y,λt zs=>?_⟩;show(if s1.length<=_ then _ else none)=_;exact J (au<|J (aj ..)<|J ae<|aw ..)<|bV Nm Ew<|gn ..
 exact⟨N,P,e1,e2.trans aO,e3⟩
end
end La
def zO{U:Type}{g:D->Option O}{F:U->N}{H:U->O}(h:∀v i,f v=some (F i)->g v=(H i)){l:List U}:∀{vs},cY f vs=(l.map F)->cY g vs=(l.map H):=by
 induction l with
 |nil=>exact λe=>J (BU e) Y
 |cons i l M=>exact λe=>BV e λv vs e a b=>by simp only [e,dq,h v i a,M b];rfl
def HC(h:M<=O)(U:uH O s v=some c):uH M s v=c:=by
 cases v with
 |ref n=>
  have U:(if O<=n then s[n]? else none)=c:=U;by_cases k:O<=n
  .rw [au k] at U;exact(au<|aa h k).trans U
  .rw [az k] at U;exact eg U
 |_=>exact eg U
def E3(O:U.length=n+1)(h:cY (uH N s) U=some D):eA dp U=false:=by
 induction U with
 |nil=>exact zs O
 |cons v U=>
  clear O;obtain⟨c,M,_⟩:=qb h;clear h;cases v with
  |ref n=>rfl
  |_=>exact eg M
namespace La
def Bs{l:List Sy}:eA dp (l.map b5)=true:=l4 ..
noncomputable def cond:E:=.bk .eq (.lc (.af 8) [(.t [8,9],.tO (.af 7)<|.aI<|.int 1,[])] [8,9])<|.aM [.aI (.str [115])]
def KN(X:C):St:=[.L (((pl X.R).take 1).map n5),.L<|((pl X.R).take 1).map λp=>b5 p.1,.L [b5 .s]]
def ZE:V X cond (E0 X) X.st (.bool (decide (((pl X.R).take 1).map (·.1)=[.s])),X.st++KN X):=
 have M:=aa (bN ..)<|aa X.hd.g.pg.len<|bM Y;have O:=aa (List.length_take_le' ..) M;have D:=J (show((pl X.R).take 1).map (λp=>b5 p.1)=(((pl X.R).take 1).map (·.1)).map b5 by exact J bJ Y) ⟨λh=>Ih (λU U=>lQ) h,λh=>J h Y⟩
 (cp (s2:=X.st++KN X) ((oo (vJ Y cD<|(Ht Y Y (J (ag _) M)<|bM Y).trans<|by exact J List.map_take Y) (n6 (gn ..) (J (ag _) O) .refl) O (λP=>Ro.jr<|gn ..) λp U L=>⟨Y,Y⟩).trans<|by exact bV (aj ..) ae Y) ((RX cD).trans<|by exact bV (aj ..) ae Y)<|Ox Y (qH<|gx _ _ 1) (qH<|gx _ _ 2) ((jD ..).mpr λx N=>by obtain⟨p,_,H⟩:=mM N;exact jn H<|k7 ..)<|Bs (l:=[.s])).trans (J (dD D) Y)
def Oj:Cl (X.st++KN X):=X.hc.app λc U=>by
 rcases mO U with M|U
 .exact J M (dB<|bT λO O=>rfl)
 exact(mO U).elim (λN=>J N<|dB<|bT λO O=>rfl) λU=>congrArg _<|mS U
def Yx(P:Gk (qF X.R)):∃e,V X (.vR 215 [.b6 .add (.af 7) (.lc (.aL [.af 8,.aM [.aI (.str [110,111,110,101]),.aI<|.str [110,111,110,101],.aI<|.str [110,111,110,101],.aI (.str [110,111,110,101])]]) [(.v 8,.aL [.aI (.str [116]),.aI (.str [117])],[])] [8])]) (E0 X) (X.st++KN X) (jG (cG<|qF X.R) e,X.st++KN X):=by
 refine bQ (X.hp.Yi X.st.length (X.st++KN X) (qF X.R) Oj P.pg) λe H=>⟨e,?_⟩;generalize hs:X.st++KN X=s0 at*;obtain⟨U,N,A,B,Q⟩:=JK (tt:=.v 8) (it:=.aL [.aI (.str [116]),.aI (.str [117])]) (elt:=.aL [.af 8,.aM [.aI (.str [110,111,110,101]),.aI<|.str [110,111,110,101],.aI<|.str [110,111,110,101],.aI (.str [110,111,110,101])]]) (own:=[8]) (ρ:=E0 X) (s1:=s0) (x:=.aL<|[Sy.t,.u].map b5) (fz:=λs=>iH s s0.length 5) Y (gF<|bM Y) (λM=>trivial) (bM Y) λx M O more=>⟨.aL [b5 x,.ref (s0++ .L O::more).length],[.L (n4.map b5)],Y,(mH (aA Y<|aA (x:=.ref (s0++ .L O::more).length) (s1:=s0++ .L O::more++[.L (n4.map b5)]) Y aV)<|bM Y).trans<|J (aj ..) Y,λt zs=>Je Y (J ae<|aw ..) (by have h:=Ew (s:=s0) (a:=.L zs) (m:=more) (Yzq:=[]) (d:=.L<|n4.map b5) (t:=t);simp only [List.nil_append,aC] at h;exact bV h (show(s0++ .L O::more).length=(s0++ .L zs::more).length by simp only [ae];rfl)<|gn ..) Y⟩
 refine Cn (aA ((dy Y A<|Kg (a:=iL<|pl X.R) Y Y (qH<|gn ..)<|bV (ag _) B<|aa (c8 (aa (bN ..) X.hd.g.pg.len) _)<|bM Y).trans<|J (aj ..) Y) aV) ?_ H
 have D:iH (s0++ .L U::(N++[.L ((pl X.R).map n5++U)])) s0.length 6 (.ref (s0++ .L U::N).length)=(iL<|qF X.R):=vt (J ae<|aw ..) (J (show s0++ .L U::(N++[AC.L ((pl X.R).map n5++U)])=(s0++ .L U::N)++[AC.L ((pl X.R).map n5++U)] by exact J (aj ..) Y)<|gn ..) (by refine J (q5 ..)<|J (k8 λp M=>b8 Y)<|J (Option.bind_some ..) ?_;rw [Q,qF];exact J aR Y)<|bT λM M=>rfl
 exact J (dq ..)<|J D Y
def NT(D:(cG R).Ok)(h:Wo.TL m f L)(O:m<=3)(N:∀w,f w≠0->∀x∈w,x∈(cG R).cK):Nk L/\L.length<=2000/\∀p∈L,p.1.length<=3/\∀x∈p.1,x∈(cG R).cK:=
 ⟨h.nk,aa (h.kn O)<|bM Y,λp U=>by have M:=(kR h p.1).mp<|fB h.nk U;exact⟨aa (aG (h.wd p U).1) O,N p.1 λe=>cu 0 (by have:=M.2.2;simp only [M.2.1,e] at this;exact this)⟩⟩
def CM(h:Pg R)(N:Ke R .s w≠0):∀x∈w,x∈(cG R).cK:=λx M=>by
 refine(Kz N x M).elim λH D=>?_;rcases D with rfl|⟨p,O,U⟩
 .exact h.pU
 .rcases mO O with rfl|O
  .exact memC U h.pU λU=>(J (mS U) Pg.ue)
  .exact h.mem O U
def ZU:S:=.jt cond [ZT,.aU (.v 15)<|hE 14<|.lO 412 [.af 14,.af 5],.gc [],.jt (.bk .ne (.af 15)<|hE 3<|.af 10) [.ret (.aI<|.bool false)] []] []
def zg(H:lx (X.st++L) X.st.length N=some O)(D:lx (X.st++L) X.st.length M=some U):cY (lx (X.st++L) X.st.length) (eH X none none none N M)=(eH X none none none O U):=
 aD (bI<|dz X.yE) (aD ff<|aD (bI Y)<|aD (bI Y)<|aD (bI Y)<|aD (bI Y)<|aD ff<|aD (bI Y)<|aD ff<|aD ff<|aD (bI Y)<|aD ff<|aD ff<|aD ff<|aD H<|aD D Y)
def XH(k:W X X.st.length o (E0 X) X.st Q):W X X.st.length (ZU::.gc [14,15]::o) (E0 X) X.st Q:=
 if c:((pl X.R).take 1).map (·.1)=[.s] then by
  refine And.elim (λP i=>?_)<|X.hd.qF c;exact(Yx P).elim λn j=>(X.hp.tc (qF X.R) n P X.st.length (X.st++KN X) X.L Oj X.hL).elim λ_ U=>U.elim λy U=>U.elim λT U=>U.elim λl A=>(Vq P.ok.dN (λM M M=>rfl) (λm O=>NT P.ok (A m O) (aa O X.hL) λw=>CM P.pg)<|fK (aA Y<|aA Y aV)<|l▸y).elim λq U=>U.elim λf U=>U.elim λt U=>U.elim λB p=>
   have r:iH (X.st++(KN X++ .L q::f)) X.st.length 6 (.ref (X.st++KN X).length)=some (.aM<|(List.range<|X.L+1).map λm=>.bK<|encD kN vi<|T m):=by refine jn (aj ..)<|vt (J ae<|aw ..) (gn ..) ?_<|bT λM M=>rfl;have h:=p [] q;rw [aC] at h;exact zO (λv m B=>E4 (HC (by exact J ae<|aw ..) B)<|fj ..) h
   (Vq X.hd.g.ok.dN (λM M M=>rfl) (λm O=>NT X.hd.g.ok (kE O) (aa O X.hL) λw=>CM X.hd.g.pg) Y).elim λN U=>U.elim λx U=>U.elim λb U=>U.elim λD H=>
   lK (lD ZE c) (cb j Y (cb (t.trans<|J (aj ..) Y) Y (lj X.hc (zg (bI Y)<|TR r) (jl (cp Y b (H7 (e1:=λm=>encD kN vi<|T m) ((uN 299 _).trans<|u5 Y) Y (qH<|gn ..) (E3 D<|H [] N) (J (ag _)<|bV aO D Y) (k8 λm M=>ui (λM=>rfl) Y) (by
    have h:=H [] N;rw [aC] at h;exact zO (λv m B=>ui (kf:=kN) (λM=>rfl)<|HB B) h) λm O=>Ep sr (A m<|aK<|mR O).nk (kE<|aK<|mR O).nk λk v=>by
    have O:=aK<|mR O;rw [kR (A m O),kR (kE O)];exact and_congr_right λe=>by rw [i k (aa (aG e)<|aa O X.hL)]))<|bU<|lj X.hc (zg ff ff) k))))
 else jl (lE ZE c) (lj X.hc (zg ff ff) k)
end La
def sQ:∀t d,wm t<=d->plain d (fy t)=true:=Tr.ind (λx d h=>by
 induction d with
 |zero=>exact n0 h
 |succ d=>
  exact l4 d [x,x]) λA k H M d h=>by
 rw [mh,ck] at h;induction d with
 |zero=>exact n0 h
 |succ d=>
  refine J kD<|(jD d _).mpr λx U=>?_;exact(mO U).elim (λD=>J D<|k7 ..) λU=>by obtain⟨c,O,N⟩:=mM U;exact jn N<|M c O d<|aa (zh O)<|gr h
namespace La
section
variable{X:C}{T:Ab.Tb}
abbrev PE(X:C):List (List Sy):=Ab.sv X.G (Ke X.R) (p7 X.f)<|List.range<|X.L+1
def eF(X:C)(D N M O U:Option AV:=none):En:=env X D (iL<|pl X.R) (FU X) none N none M (some<|.aM<|(PE X).map<|gO X.G) O U
def u6(O:m<=X.L):w∈Ab.ks X.G (p7 X.f) m↔w.length=m/\Ke X.R .s w≠0:=by
 simp only [Ab.ks,Hi,jW.mem_iff];constructor
 .refine λh=>(mM h).elim λp M=>M.elim λN H=>?_;refine jn H ?_;have U:=(kR (kE O) p.1).mp<|fB (kE O).nk N;exact⟨U.1,λe=>cu 0 (by have:=U.2.2;simp only [U.2.1,e] at this;exact this)⟩
 .rintro⟨D,U⟩;exact cW<|l7<|(kR (kE O) w).mpr ⟨D,Y,gJ U⟩
def BZ(U:m<=X.L):((p7 X.f m).map (·.1)).length<64:=Jm (kE U).nk λw O=>by have:=u6 U (w:=w);simp only [Ab.ks,Hi,jW.mem_iff] at this;exact⟨aa (aG (this.mp O).1) U,(this.mp O).2⟩
def eS(X:C)(O U:Option AV:=none):En:=[some X.KH,none,some<|iL X.R,some<|jG X.G X.e,some<|.bK<|encD kN vi X.f,some<|vi X.L,O,some<|iL<|pl X.R,none,none,some<|FU X,none,none,U,none,none,none,none,none,none,none]
def XG(k:W X X.st.length P (eF X) X.st Q):W X X.st.length (Y3::.gc []::P) (E0 X) X.st Q:=by
 have B:((List.range<|X.L+1).flatMap λi=>Ab.ks X.G (p7 X.f) i).length<=2000:=by refine J gg<|aa (iC _ _ 64 λm U=>bx (by simp only [Ab.ks,Hi];exact J jW.length_eq<|BZ<|aK<|mR U)) ?_;exact J aO<|aa (c7 64<|bq X.hL)<|bM Y
 obtain⟨more,H⟩:=JL (Φ:=X.Φ) (t1:=.v 13) (t2:=.v 6) (it:=.af 10) (elt:=.af 6) (own:=[13,6]) (ρ:=E0 X) (Jzq:=λM M=>True) Y (dx<|J aO<|aa (bq X.hL)<|bM Y) (λM=>trivial) B trivial λm U O more M=>by have U:=aK<|mR U;have D:∀zs,(X.st++ .L zs::(more++[.L ((Ab.ks X.G (p7 X.f) m).map<|gO X.G)]))[(X.st++ .L O::more).length]? =some (.L<|(Ab.ks X.G (p7 X.f) m).map<|gO X.G):=λzs=>J (show(X.st++ .L O::more).length=(X.st++ .L zs::more).length by simp only [ae];rfl)<|jn fa<|jn (aj ..)<|gn ..;refine⟨[.L ((Ab.ks X.G (p7 X.f) m).map<|gO X.G)],some ((X.st++ .L O::more).length,.L<|(Ab.ks X.G (p7 X.f) m).map<|gO X.G),.ref (X.st++ .L O::more).length,trivial,Y,(cx (aA (e:=.af 13) Y aV)<|qM (a:=oq X.G<|p7 X.f m) X.hd.g.ok.dN (congrArg some (by simp only [bJ];exact B0)) (BZ U) (kE U).nk).trans<|by exact J (aj ..) Y,n6 (D O) (by refine J (ag _) ?_;rw [Ab.ks,Hi];exact J jW.length_eq<|aa (bx<|BZ U)<|bM Y)<|J ae<|aw ..,D,λw N zs=>⟨Y,tw<|cp (dh (o:=.af 13) (i:=.af 6) Y Y<|wX X.hd.g.ok.dN<|(kR (kE U) w).mpr ⟨((u6 U).mp N).1,Y,gJ ((u6 U).mp N).2⟩) (cD (a:=vi 1)) pX,λM=>rfl⟩⟩
 have A:((List.range<|X.L+1).flatMap λm=>((Ab.ks X.G (p7 X.f) m).filter λw=>decide<|1<Ke X.R .s w).map<|gO X.G)=(PE X).map (gO X.G):=by simp only [PE,Ab.sv,List.map_flatMap];rfl
 rw [A] at H;exact cb H Y<|lj X.hc (aD (bI<|dz X.yE)<|aD ff<|aD (bI Y)<|aD (bI Y)<|aD (bI Y)<|aD (bI Y)<|aD ff<|aD (bI Y)<|aD ff<|aD ff<|aD (bI Y)<|aD ff<|aD ff<|aD ff<|aD ff<|aD ff<|aD ff<|aD (Xo .refl (gn ..)<|bT λw _=>bT λ_ _=>rfl) Y) k
def C2(M:∀m,m<=X.L->Wo.TL m (Ke X.R .s) (T m)):Ab.sv X.G (Ke X.R) T (List.range<|X.L+1)=PE X:=by
 delta PE Ab.sv;refine congrArg List.flatten<|aX λm U=>?_;have U:=aK<|mR U;have N:=kE U;have O:∀{L:yX} {w:List Sy},Wo.TL m (Ke X.R .s) L->(w∈L.map (·.1)↔∃v,fc L w=some v):=λ{L w} h=>⟨λq=>by obtain⟨p,D,e⟩:=mM q;exact⟨p.2,e▸fB h.nk D⟩,λq=>q.elim λv e=>cW<|l7 e⟩;simp only [Ab.ks,Hh X.hd.g.ok.dN ((fq (M m U).nk N.nk).mpr λw=>by rw [O (M m U),O N];exact exists_congr λv=>(kR (M m U) w).trans (kR N w).symm) (M m U).nk]
def ug(M:Cl s)(h:U[i]? =some (some<|iy t))(O:wm t<=299):V X (.bR (.af i) (.user 4) []) U s (fy t,s):=m7 (J j9<|J h Y) (by cases t<;>rfl) aV<|X.hp.told _ _ _ M<|aa O<|bM Y
def rest(X:C):List S:=[.aU (.v 18) (.lO 419 [.af 3,.af 5]),ZS,.aU (.t [6,16,14])<|.af 18,.aU (.v 19)<|.bA .tuple [.lc (.sub (.bG (.af 3) 11)<|.af 20) [(.v 20,.af 6,[])] [20]],.gc [20],.ret (.and [.bk .eq (.af 6) (.sub (.af 17)<|.aI<|.int 0),.bk .ne (.bR (.af 16) (.user 4) [])<|.bR (.af 14) (.user 4) [],.bk .eq (.lO 457 [.bR (.af 16) (.user 4) []])<|.af 19,.bk .eq (.lO 457 [.bR (.af 14) (.user 4) []]) (.af 19)])]
def VC(U:PE X=l):V X (.bk .eq (.af 17)<|.aM []) (eF X none none none o) X.st (.bool<|decide<|l.map (gO X.G)=[],X.st++[.L []]):=cp (x:=.aM<|l.map<|gO X.G) (jn U Y) yN<|Ox Y Y (qH<|gn ..) uq Y
def XF:W X X.st.length (rest X) (eF X) X.st (PQ X.st λr=>r=(.bool true,X.st)):=
 (X.hp.ab X.st.length X.st X.R X.e X.L X.hc X.hd X.hL).elim λ_ N=>N.elim λl N=>N.elim λT N=>N.elim λy h=>
 h.elim (λa=>a.elim λi B=> 
  cb (fK (aA Y<|aA Y aV)<|i▸l) Y (lK (VL<|cp Y cD Y)<|oE (nP (cp Y cD Y)<|VC<|(C2 y).symm.trans B) ⟨_,.bool true,_,.inl Y,Y,b8 Y,Y⟩))
 λ⟨w,U,O,n,i,B,p,j⟩=>
  have A:w∈PE X:=J ((C2 y).symm.trans B)<|.head _
  have M:w.length<=3/\∀x∈w,x∈X.G.cK:=by refine bQ (List.mem_flatMap.mp A) λm h9=>And.elim (λH A=>?_) h9;have H:=aK<|mR H;exact⟨aa (aG ((u6 H).mp (mF A).1).1)<|aa H X.hL,CM X.hd.g.pg ((u6 H).mp (mF A).1).2⟩
  have D:∀t,t=U\/t=O->wm t<=299:=λt v=>let q:=j t v;X.hd.wm t q.1 q.2.1 (J q.2.2 M.1)
  have o:=D O<|.inr Y;have hE:∀s,bZ X.Φ X.st.length (.af 17) (eF X (gO X.G w) (iy O) (iy U) (some<|.aL [gO X.G w,iy U,iy O])<|dP w) s=some (.aM<|(w::n).map<|gO X.G,s):=λs=>jn ((C2 y).symm.trans B) Y;have P:∀t,t=U\/t=O->X.Φ X.st.length 457 [fy t] X.st=(dP w,X.st):=λt v=>(X.hp.lv _ _ t X.hc<|D t v).trans<|jn ((j t v).2.2) Y;have Q:∀s,jc s .eq (dP w) (dP w)=true:=λs=>Jy.trans<|congrArg _<|aq Y
  have f:jc X.st .ne (fy U) (fy O)=true:=by show BM X.st _ _=_;delta BM;exact J (nM (sQ U dp<|aa (D U<|.inl Y)<|bM Y)<|sQ O dp<|aa o<|bM Y)<|J (aF λe=>p<|G7 X.hd.inj U (j U<|.inl Y).1 O (j O<|.inr Y).1 e) Y
  cb (fK (aA Y<|aA Y aV)<|jn i l) Y
  (jl (Av (cp Y cD Y)<|VC<|(C2 y).symm.trans B) (qh Y Y
  (cb (ρ':=eF X (gO X.G w) (iy O) (iy U) (some<|.aL [gO X.G w,iy U,iy O])<|dP w) ((cx (aA (oo Y (gF<|aa M.1<|bM Y) (aa M.1<|bM Y) (λc=>trivial) λx b ys=>⟨Y,dh (dM Y vZ) Y<|me Y (aa (bx<|Gr.jE<|M.2 x b)<|aa X.hd.g.ok.dN<|bM Y)<|Gr.jz<|M.2 x b⟩) aV)<|y7 (qH<|gn ..)<|J (ag _)<|aa M.1<|bM Y).trans<|J (aj ..) Y) Y
  (lj X.hc (aD (bI<|dz X.yE)<|aD ff<|aD (bI Y)<|aD (bI Y)<|aD (bI Y)<|aD (bI Y)<|aD (bI<|gz ..)<|aD (bI Y)<|aD ff<|aD ff<|aD (bI Y)<|aD ff<|aD ff<|aD ff<|aD (bI<|dz<|kY O)<|aD ff<|aD (bI<|dz<|kY U)<|aD (bI Y)<|aD (bI (by show(belows _ _&&(below _ _&&(below _ _&&true)))=true;exact wo (gz ..) (dz<|kY U) (dz<|kY O) Y))<|aD (bI<|dB<|bT λc c=>rfl) Y)
  (mj (sH (cp Y (dh (hE _) cD Y) (by show eqQ X.st _ _=_;exact J (nM (uS ..)<|uS ..)<|J (aq Y) Y))<|sH (cp (ug X.hc Y<|D U<|.inl Y) (ug X.hc Y o) f)<|nP (cp (fK (aA (ug X.hc Y<|D U<|.inl Y) aV)<|P U<|.inl Y) Y<|Q _)<|cp (fK (aA (ug X.hc Y o) aV)<|P O<|.inr Y) Y<|Q _) Y Y)))))
end
end La
namespace La
def tail X:W X X.st.length (S6::.gc [8,9]::S7::.dT (.v 6) (.af 4) Cw::.gc [6]::.dT (.v 6) Zt Ge::.gc [6]::ZV::.gc []::ZU::.gc [14,15]::Y3::.gc []::rest X) (env X) X.st (PQ X.st λr=>r=(.bool true,X.st)):=st6<|st7<|st9<|XI<|XH<|XG XF
section
variable{st:St}{l:List Int}
noncomputable def en(L:AV)(H D N M O U:Option AV:=none):En:=[some L,H,D,N,M,O,U,none,none,none,none,none,none,none,none,none,none,none,none,none,none]
def zl(h:f7 U=true):cY (lx s st.length) (dO [6] (en U none (iL R) (jG (cG R) e) (some<|.bK<|encD kN vi f) (vi L) O))=(en U none (iL R) (jG (cG R) e) (some<|.bK<|encD kN vi f)<|vi L):=
 aD (bI<|dz h) (aD ff<|aD (bI Y)<|aD (bI Y)<|aD (bI Y)<|aD (bI Y) Y)
def ok(hc:Cl st)(hp:Y2 Φ)(w:∀R,rX [.s,.t,.u] R->Dk R)(A:l.length<=64):Wp (kC Φ ro N Oq [.aM (l.map .int)] st) λr=>r=(.bool true,st):=
 gT Y
 ((hp.Qb st.length st l hc A).elim λ_ U=>U.elim λe1 U=>U.elim λn e2=>
 (hp.Zi st.length (st++[iM n 0]) st.length (hc.app λc h=>jn (mS h).symm Y) .refl (J ae<|a6 _) ⟨n,0,gn ..,aS _⟩).elim λ_ U=>U.elim λe3 U=>U.elim λR U=>U.elim λn' U=>U.elim λj U=>U.elim λa Q=>
 have hd:=w R Q
 (hp.Yi st.length st R hc hd.g.pg).elim λe x=>
 (hp.Xp st.length st R 2 hc Q<|bM Y).elim λ_ U=>U.elim λb U=>U.elim λM U=>U.elim λi O=>
 (hp.Xp st.length (st++[AC.L (M.map λp=>vi p.2)]) R 3 (hc.app λc h=>jn (mS h).symm<|dB<|bT λB B=>rfl) Q<|bM Y).elim λ_ U=>U.elim λo U=>U.elim λq U=>U.elim λy P=>
 let X f L hL (hf:YZ R L f):C:={Φ:=Φ,N:=N,st:=st,KH:=.aM<|l.map .int,R:=R,e:=e,f:=f,L:=L,hc:=hc,hL:=hL,hp:=hp,hd:=hd,hf:=hf,yE:=rfl}
 have D:bZ Φ st.length (.bk .lt (.bA .sum [.lc (.sub (.af 4)<|.af 6) [(.v 6,.af 4,[])] [6]])<|.aI<|.int 40) (en (.aM<|l.map .int) none (iL R) (jG (cG R) e) (some<|.bK<|encD kN vi M)<|vi 2) st=some (.bool<|decide<|(M.map λp=>p.2).sum<40,st++[.L (M.map λp=>vi p.2)]):=
  cp (cx (aA (oo (l:=M) Y (yD (X:=X M 2 (bM Y) O)) (aa (kn (X:=X M 2 (bM Y) O))<|bM Y) (λB=>trivial) λp H ys=>⟨Y,dh Y Y<|Hf (X:=X M 2 (bM Y) O) H⟩) aV)<|Hd (qH<|gn ..)<|aa (kn (X:=X M 2 (bM Y) O))<|bM Y) cD sU
 cb (fK (aA Y aV)<|jn e2 e1) Y
 (cb ((fK (aA Y aV)<|a▸e3).trans<|by exact J (rW ..) Y) Y
 (lj hc (aD (bI Y)<|aD ff<|aD (bI Y) Y)
 (qh (mH (aA (Cn ((aA Y aV).trans<|J (aC _) Y) Y x)<|aA (fK (aA Y<|aA cD aV)<|jn i b)<|aA cD aV)<|bM Y) Y
 (if c:(M.map λp=>p.2).sum<40 then
  lK (lD D c) (qh (mH (aA (fK (aA Y<|aA cD aV)<|y▸o)<|aA cD aV)<|bM Y) Y<|bU<|lj hc (zl Y)<|tail<|X q 3 (bM Y) P)
 else jl (lE D c) (lj hc (zl Y)<|tail<|X M 2 (bM Y) O))))))
end
end La
structure GC(R:Rl):Prop where
 pg:Pg R
 t:∃p∈R,p.1=.t
 u:∃p∈R,p.1=.u
 rk:∀p∈R,(∀x∈p.2,x.rk<p.1.rk)\/∃z,p.2=[z,p.1]/\z.rk=0
section
variable{G:Gr}
theorem GC.kU(h:GC R):x∈j4 R↔x=.s\/x=.t\/x=.u:=by
 refine⟨h.pg.Qu,λe=>Mine.Internal.kU.mpr ?_⟩;rcases e with rfl|rfl|rfl
 .have⟨r,R',e⟩:=h.pg.hd;exact⟨(.s,r),J e<|.head _,Y⟩
 .exact h.t
 .exact h.u
theorem GC.j4(h:GC R):j4 R=[.s,.t,.u]\/j4 R=[.s,.u,.t]:=by
 have⟨r,R',e⟩:=h.pg.hd;obtain⟨m,L⟩:=ry (l:=[.s])
 have P:Mine.Internal.j4 R=.s::m:=by refine J e ?_;show qn _ (R'.map (·.1)) (CI (λQ=>True) [] .s)=_;rw [CI];exact J (au ⟨trivial,nofun⟩) L
 have M:(Mine.Internal.j4 R).Nodup:=lb bh;have U:∀x,x∈Mine.Internal.j4 R↔x=.s\/x=.t\/x=.u:=λx=>h.kU;clear L;rw [P] at M U⊢
 have H:m.Perm [.t,.u]:=(fq (nC M).2<|by decide).mpr λx=>by
  rw [jy,eU];constructor
  .refine λq=>((U x).mp<|.tail _ q).resolve_left λe=>(nC M).1<|e▸q
  .refine λq=>(mO<|(U x).mpr<|.inr q).resolve_left λe=>?_;subst e;exact q.elim Sy.noConfusion Sy.noConfusion
 obtain⟨a,b,rfl⟩:=two H.length_eq;have D:=H.mem_iff.mp<|.head _;have N:=H.mem_iff.mp<|.tail _<|.head _;have O:a≠b:=λe=>(nC (nC M).2).1<|e▸.head _;rcases mO D with rfl|D<;>rcases mO N with rfl|N
 .exact absurd Y O
 .exact J (mS N) (.inl Y)
 .exact J (mS D) (.inr Y)
 .exact absurd ((mS D).trans (mS N).symm) O
def GC.Tp(h:GC R):(cG R).Ok:=by
 refine⟨h.pg.fW,ry,λx U=>?_,(h.j4.imp (congrArg _)<|congrArg _),⟨R,Y,h.pg.lf,h.pg.len⟩,λp O=>?_⟩
 .rcases tM.mp U with q|⟨q,p,O,U⟩
  .rcases mO q with D|q
   .exact J D Y
   exact(mO q).elim (λN=>J N Y) λq=>J (mS q) Y
  .have M:=(h.pg.rr p O).2 x U;rw [h.kU] at q;induction x<;>first|rfl|exact absurd Y M.2.2|exact absurd (.inl Y) q|exact absurd (.inr<|.inl Y) q|exact absurd (.inr<|.inr Y) q
 .rcases mO O with rfl|O
  .refine⟨bM Y,λx U=>?_,.inl λx U=>?_⟩<;>rcases mO U with rfl|U
   .exact h.pg.pU
   .exact J (mS U) Pg.ue
   .exact bM Y
   .exact(mS U).symm▸bM Y
  .exact⟨(h.pg.rr p O).1,λx=>h.pg.mem O,h.rk p O⟩
theorem GC.RR(h:GC R):RR (cG R).rl:=λp U=>(h.Tp.rr p U).2.2
def Qh f:((G.no x).map λk=>f<|qQ G.rl k).sum=tC G.rl x f:=by
 have O:Rl.at G.rl x=(G.rl.zipIdx.filter λq=>decide<|q.1.1=x).map (·.1):=by delta Rl.at;exact jn (List.zipIdx_map_fst 0 G.rl)<|List.filter_map.trans<|J (List.zipIdx_map_fst ..) Y
 simp only [tC,O,Gr.no,qw,bJ];refine congrArg List.sum<|aX λq U=>?_;show f (qQ G.rl q.2)=f q.1.2;simp only [qQ];exact J (List.mk_mem_zipIdx_iff_getElem?.mp<|(mF U).1) Y
def GC.XO(h:GC R)(O:∀x w,w.length<=3->CC (cG R).rl ok x w<=2^200):Sem (cG R) ok (CC (cG R).rl ok):=
 ⟨λx U w=>xJ U,λx U w=>(AW h.RR<|h.Tp.jF.mp U).trans (Qh λr=>sq (CC (cG R).rl ok) r w).symm,λQ M x=>NP M.1,O⟩
def SJ(h:Pg R)(N:CC (cG R).rl ok .s w≠0):∀x∈w,x.rk=0/\x∈(cG R).cK:=λx M=>by
 refine(Kz N x M).elim λH D=>⟨H,?_⟩;rcases D with rfl|⟨p,O,U⟩
 .exact h.pU
 .rcases mO O with rfl|O
  .exact memC U h.pU λU=>(J (mS U) Pg.ue)
  .exact h.mem O U
noncomputable def sb:Nat->Nat
 |0=>1
 |r+1=>1+4*sb r
def Di{r k}(h:r<=k):sb r<=sb k:=h.rec (aS _) λO U=>aa U<|aa (eC _<|bM Y)<|cJ _ 1
def PX r:1<=sb r:=Di<|bf r
def Pj(h:G.Ok)(U:Val G t)(O:t.root.rk=0):∃x,t=.leaf x:=by
 induction U with
 |leaf N=>exact⟨_,Y⟩
 |node M D=>exact absurd O<|h.jF.mp<|h.left<|aN M
def Li(b:Nat)(f:Tr->Nat):∀cs:List Tr,(cs.map λc=>b+2*f c).sum=cs.length*b+2*(cs.map f).sum:=λcs=>cs.rec (J List.length_nil<|J (cA _) Y) λc cs U=>by simp only [aZ,fh,U,bj,Nat.add_mul cs.length,i7,ck (cs.length*b) b,gy 2<|f c,Nat.add_add_add_comm]
def PR(h:G.Ok):∀t,Val G t->wm t<=sb t.root.rk+2*(yl t).length:=Tr.ind (λx w=>aa (PX _)<|aw ..) λA k Q D B=>by
 cases B with
 |node P N=>
  obtain⟨M,_,U⟩:=h.rr _<|aN P;rw [ag] at M;simp only [mh,yl,qG,gg];rcases U with U|⟨z,U,X⟩
  .exact(Nat.exists_eq_succ_of_ne_zero<|h.jF.mp<|h.left<|aN P).elim λr H=>J H<|J (bB ..)<|cV (aa (md _ _ _ λc O=>aa (D c O<|N c O)<|c8 (Di<|aK (by have:=U _<|cW O;exact(jn H this))) _)<|J (Li (sb r) (λc=>(yl c).length) Q)<|c8 (c7 _ M) _) 1
  .have U:Q.map Tr.root=[z,A]:=U;clear M;obtain⟨c,d,rfl⟩:=two<|jn (ag _)<|J U Y;injection U with e1 U;injection U with e2 _;refine(Pj h (N c<|.head _)<|J e1 X).elim λx j=>J j ?_;have L:=D d (.tail _<|.head _)<|N d<|.tail _<|.head _;rw [e2] at L;exact lq [_,_,_] [aH ax (.a aE<|.m 2 a7)] (.a (.c 1)<|.a (.c 1)<|.a ax<|.c 0) (.a aE<|.m 2<|.a (.c 1)<|.a a7<|.c 0) Y L
end
def KG(x:Sy):Prop:=x=.err\/x=.a\/x=.b
noncomputable def dg(x:Sy):Nat:= @Sy.rec (λU=>Nat) 2 0 2 1 2 2 2 2 2 2 x
def Oz x:dg x<3:=by induction x<;>exact bC Y
def RS(x y)(O:KG x)(U:KG y)(e:dg x=dg y):x=y:=by rcases O with rfl|rfl|rfl<;>rcases U with rfl|rfl|rfl<;>first|rfl|exact nomatch e
def MP{l:List (List Sy)}(n:l.Nodup)(h:∀w∈l,w.length<=3/\∀x∈w,KG x):l.length<64:=
 aQ (sf (wc dg 3) n (λa U b O=>GU Oz RS (h a U).2 (h b O).2) λa U=>NS Oz (h a U).1) (bM Y)
def Lr(h:sq F r w≠0):∀y∈r,∃v,F y v≠0:=qK (P:=λr U=>∀y∈r,∃v,F y v≠0) nofun (λx r i g U U M O=>List.forall_mem_cons.mpr ⟨⟨_,M⟩,O⟩) h
def yS f{D}(h:∀p∈D,p.1=x->f p.2=0):tC D x f=0:=gj _ _ λp U=>h p (oY.mp U).1 (oY.mp U).2
def pK f(A D):tC (A++D) x f=tC A x f+tC D x f:=by rw [tC];exact J yT<|J aR fv
def Sq f(h:∀p∈R,Sy.err∈p.2->f p.2=0):tC R x f=tC (pl R) x f:=by
 induction R with
 |nil=>rfl
 |cons p R U=>refine J ((λD=>pK f [p] D) _)<|J (U λp M=>h p<|.tail _ M) ?_;show _=tC ((p::R).filter λp=>decide<|Sy.err∉p.2) x f;exact J df (if c:Sy.err∈p.2 then bV (az λ(q:decide (Sy.err∉p.2)=true)=>aB q c) (yS f λq O N=>J (mS O)<|h p (.head _) c) (bu _)else J (au<|aq c) (((λD=>pK f [p] D) _).symm))
def rX.Ft(h:rX [.s,.t,.u] R){p}(D:p∈R):p.2.length<=2/\(∀x∈p.2,KG x\/x=.s\/x=.t\/x=.u)/\((∀x∈p.2,x.rk<p.1.rk)\/∃z,p.2=[z,p.1]/\z.rk=0):=by
 have H:p.1=.s\/p.1=.t\/p.1=.u:=by
  rcases mO (h.lf p D)with q|q
  .exact .inl q
  exact(mO q).elim (λq=>.inr<|.inl q) λq=>.inr<|.inr<|mS q
 rcases h.ok p D with ⟨P,M⟩|⟨z,N,M⟩
 .have O:∀x∈p.2,(KG x\/x=.s\/x=.t\/x=.u)/\x.rk<p.1.rk:=λx U=>by
   have L:=M x U;rcases H with e|e|e<;>rw [e] at L⊢ <;>induction x<;>first
    |exact⟨.inl<|.inl Y,bM Y⟩
    |exact⟨.inl<|.inr<|.inl Y,bM Y⟩
    |exact⟨.inl<|.inr<|.inr Y,bM Y⟩
    |exact⟨.inr<|.inr<|.inl Y,bM Y⟩
    |exact⟨.inr<|.inr<|.inr Y,bM Y⟩
    |exact absurd L<|aB Y
  exact⟨P,λx U=>(O x U).1,.inl λx U=>(O x U).2⟩
 .refine J M ⟨bM Y,λx U=>?_,.inr ⟨z,Y,by rcases N with rfl|rfl<;>rfl⟩⟩;exact(mO U).elim (λQ=>J Q<|.inl<|N.elim (λe=>.inr<|.inl e) .inl) λU=>J (mS U)<|.inr H
def rX.w5(h:rX [.s,.t,.u] R):GC R:=by
 have M:∀p∈R,p.1=.s\/p.1=.t\/p.1=.u:=λp U=>by
  rcases mO (h.lf p U)with q|q
  .exact .inl q
  exact(mO q).elim (λq=>.inr<|.inl q) λq=>.inr<|.inr<|mS q
 refine⟨⟨M,λp U=>⟨aa (h.Ft U).1<|bM Y,λx N=>?_⟩,aa h.len<|bM Y,?_⟩,?_,?_,λp U=>(h.Ft U).2.2⟩
 .rcases(h.Ft U).2.1 x N with (rfl|rfl|rfl)|rfl|rfl|rfl<;>exact⟨Sy.noConfusion,Sy.noConfusion,Sy.noConfusion⟩
 .clear M;obtain⟨r,O⟩:=h.has .s<|.head _;induction R with
  |nil=>exact iZ O
  |cons p R=>exact⟨p.2,R,by rw [<-h.hd p Y]⟩
 .exact(h.has .t<|.tail _<|.head _).elim λr O=>⟨_,O,Y⟩
 .exact(h.has .u<|.tail _<|.tail _<|.head _).elim λr O=>⟨_,O,Y⟩
def rX.N9(h:rX [.s,.t,.u] R)(O:w.length<=3):Kt R x w<=2^200:=by
 have M:Xj (cG R).rl:=⟨λx=>by
  show(Rl.at ([(.acc,[.s,.fin])]++R) x).length<=3;refine J yT ?_;exact if c:x=.acc then J (vX (R:=R) λp U q=>by rcases h.w5.pg.lf p U with e|e|e<;>simp only [q,c] at e<;>exact Sy.noConfusion e) (J (aC _)<|aa (bN _ [((.acc:Sy),[Sy.s,.fin])])<|bM Y)else by refine J (vX λp U q=>c<|by exact jn q<|J (mS U) Y) ?_;exact h.kn x,λp U=>(mO U).elim (λe=>J e<|bM Y) λU=>(h.Ft U).1⟩
 exact aa (SH h.w5.RR M 3 4 x (NZ x) w O)<|aa (Ey 3<|NZ x)<|bx YH
theorem rX.KG(h:rX [.s,.t,.u] R)(Q:Kt R .s w≠0):∀x∈w,KG x:=
 wk (P:=λx w=>(Mine.Internal.KG x\/x=.s\/x=.t\/x=.u)->∀z∈w,Mine.Internal.KG z) (λx L N U z M=>by
  refine J (mS M) ?_;clear M;rcases U with U|rfl|rfl|rfl
  .exact U
  all_goals exact sz L) (λp O F w N B D U=>by
  refine Bl B λy H v X=>D y v X ?_;rcases mO O with rfl|O
  .rcases U with (e|e|e)|e|e|e<;>exact Sy.noConfusion e
  .exact(h.Ft O).2.1 y H) Q (.inr<|.inl Y)
def add_eq{d:Nat}(O:a=b)(U:c=d):a+c=b+d:=bV O U Y
def H8(h:x∈n4):x=.SV:=List.eq_of_mem_replicate (n:=4) h
def rX.HS(h:rX [.s,.t,.u] R)(U:((pl R).take 1).map (·.1)=[.s]):GC (qF R):=by
 have M:∀p∈qF R,p∈R\/p=(.t,n4)\/p=(.u,n4):=λp U=>(mA U).imp ((λp U=>(mF U).1) p) λU=>(mO U).imp id mS;refine⟨⟨λp U=>?_,λp U=>?_,?_,?_⟩,⟨(.t,n4),ar _<|.head _,Y⟩,⟨(.u,n4),ar _<|.tail _<|.head _,Y⟩,λp U=>?_⟩
 .rcases M p U with U|rfl|rfl
  .exact h.w5.pg.lf p U
  .exact .inr (.inl Y)
  .exact .inr (.inr Y)
 .rcases M p U with U|rfl|rfl
  .exact h.w5.pg.rr p U
  all_goals exact⟨bM Y,λx O=>J (H8 O) ⟨Sy.noConfusion,Sy.noConfusion,nofun⟩⟩
 .show(pl R++_).length<=11;exact J ae<|c8 (aa (bN ..) h.len) 2
 .induction he:pl R with
  |nil=>exact nl<|he▸U
  |cons p P=>rw [he] at U;injection U with U _;exact⟨p.2,P++[(.t,n4),(.u,n4)],by simp only [qF,he,<-U];rfl⟩
 .rcases M p U with U|rfl|rfl
  .exact h.w5.rk p U
  all_goals exact .inl λx O=>J (H8 O)<|bM Y
def rX.Zk(h:rX [.s,.t,.u] R)(A:GC (qF R))(Q:w.length<=3):Ke (qF R) x w=Ke R x w:=by
 refine(O1 (P:=λO=>True) (λO O O O=>trivial) h.w5.RR A.RR (λO O O O=>rfl) (λx w o B O H=>?_) (x.rk+w.length+1) x w (a6 _) Q trivial).symm;have N:∀D:Rl,(∀p∈D,p∈(cG R).rl)->(tC D x λr=>sq (CC (cG R).rl (· ≠.err)) r w)=tC D x λr=>sq (CC (cG<|qF R).rl (· ≠.err)) r w:=λD j=>pJ λp U e=>H p (j p U) e;refine((λD f=>pK f [(.acc,[.s,.fin])] D) R _).trans (Eq.trans (add_eq (N _ λp U=>J (mS U)<|.head _) ?_) ((λD f=>pK f [(.acc,[.s,.fin])] D) (pl R++[(.t,n4),(.u,n4)]) _).symm);refine J (pK ..) ?_;rw [Sq,N (pl R) λp U=>.tail _ (mF U).1,yS (D:=[(.t,n4),(.u,n4)]),eR]
 .intro p U _
  have:p.2=n4:=by
   rcases mO U with rfl|U
   .rfl
   .exact congrArg _ (mS U)
  exact J this<|C8 (λy L v=>CW L)<|aQ B<|bM Y
 .exact λp U M=>byContradiction λq=>(Lr q _ M).elim λv X=>X<|az λq=>q.2 Y
def rX.Oa(h:rX [.s,.t,.u] R){x}(U:w.length<=3):Ke R x w<=2^200:=aa (WJ h.w5.RR)<|h.N9 U
def rX.dk(h:rX [.s,.t,.u] R):Dk R:=
 ⟨⟨h.w5.pg,h.w5.Tp,h.w5.XO λN N=>h.Oa⟩,h.w5.XO λN N=>h.N9,λl n M=>MP n λw U=>⟨(M w U).1,h.KG (M w U).2⟩,λw U x D=>let q:=SJ h.w5.pg U x D;(h.w5.Tp.Ie q.2).mpr q.1,(λw=>if c:Sy.err∈w then J (au c) (byContradiction λq=>KC q _ c Y)else J (az c) (EE h.w5.RR c)),λt H L M=>aa (PR h.w5.Tp t H)<|J L<|aa (cV (cI 2 M) _)<|bM Y,(λi j p Q P=>(List.getElem?_eq_some_iff.mp Q).elim λv B=>(List.getElem?_eq_some_iff.mp P).elim λA X=>(jh<|Ma ⟨(λq=>by rcases h.w5.pg.lf _ q with e|e|e<;>exact Sy.noConfusion e),h.fW⟩).mp<|B.trans X.symm),λO=>
  ⟨⟨(h.HS O).pg,(h.HS O).Tp,(h.HS O).XO λx w U=>aa (aG<|h.Zk (h.HS O) U)<|h.Oa U⟩,λw U=>h.Zk (h.HS O) U⟩⟩
def Ny(X:G.Ok)(Q:CJ G (CC G.rl (· ≠.err)) len ws)(c:∀p∈G.rl.zipIdx,TO len ws p.1)(q:x∈G.cK) w:w∈ws x↔w.length<=len/\CC G.rl (· ≠.err) x w≠0:=
 ⟨Q.ok x w,λh=>GH (ws:=λy v=>y∈G.cK->v∈ws y) (λy O U N M=>Q.tm y ((X.Ie M).mpr O) U N) (λp H w L A _=>A.elim λF B=>B.elim λO U=>by
  refine(List.getElem?_of_mem H).elim λk f=>c (p,k) (List.mk_mem_zipIdx_iff_getElem?.mpr f) w L (by have D:=λy M v o N=>U y v (aa o L) N<|(X.rr p H).2.1 y M;have:=qK (P:=λr i=>(∀y∈r,∀v,v.length<=w.length->F y v≠0->v∈ws y)->GG (r.map ws) (sl w i w.length)) (λb=>by refine r8.trans ?_;rfl) (λx r i g O U N j D=>⟨sl w i g,sl w g w.length,D x (.head _) _ ((fD O U)▸aa (cP ..) U) N,j λy M=>D y<|.tail _ M,(ya O U).symm⟩) O D;rwa [nW] at this)) h.1 h.2 q⟩
noncomputable def O7:Sy->Nat
 | .s=>7
 | .t=>3
 | .u=>1
 | .acc=>1
 |_=>0
def nw(l:List Sy):Nat:=(l.map O7).sum
def xQ(a b):tc (a++b)=tc a+tc b:=List.countP_append
def Qd(a b):nw (a++b)=nw a+nw b:=by delta nw;exact J aR List.sum_append
def tN x b:tc (x::b)=tc b+if x.rk=0 then 1 else 0:=by delta tc;refine List.countP_cons.trans ?_;simp
def yk x b:nw (x::b)=O7 x+nw b:=rfl
def Qx:∀l:List Sy,l.length<=tc l+nw l:=λl=>l.rec (bf _) λx l U=>by
  have O:1<=(if x.rk=0 then 1 else 0)+O7 x:=by induction x<;>decide
  exact wo (tN ..) (yk ..) bj<|lq [_,_,_,_,_] [aH ax (.a aE g7),aH (.c 1) (.a a7 cz)] (.s ax) (.a (.a aE a7)<|.a cz g7) Y U O
def Bc(h:∀x∈a,x.rk=0):tc a=a.length:=List.countP_eq_length.mpr λx U=>aq<|h x U
def Lt(p:Sy×List Sy):Prop:=nw p.2<O7 p.1+tc p.2/\tc p.2<=2
namespace Lw
structure C where
 Φ:Fs
 N:Nat
 st:St
 R:Rl
 L:Nat
 C:Sy->List Sy->Nat
 hN:4^12+1000<N
 hL:L<=3
 hC:∀A,A.rk≠0->A≠.acc->∀v,C A v=tC R A λr=>sq C r v
 ht:∀x,x.rk=0->∀v,C x v=one (λu9=>True) x v
 hl:∀x,x≠.acc->(x∈R.map (·.1)↔x.rk≠0)
 hr:∀p∈R,Lt p/\(∀x∈p.2,x≠.acc)/\p.2.length<=4
 kn:∀x,(R.at x).length<=3
 len:R.length<=12
variable{S:List (List Sy×List Sy)}{T:List Sy->Nat}
def fm(X:C)(l:List Sy):Nat:=(X.L+2-tc l)+nw l
def GK(X:C)(S:List (List Sy×List Sy)):Nat:=(S.map λq=>4^fm X (q.1++q.2)).sum
def Dp(S T):GK X (S++T)=GK X S+GK X T:=by delta GK;exact J aR List.sum_append
structure Fo(X:C)(i:Nat)(a r:List Sy):Prop where
 tm:∀x∈a,x.rk=0
 ac:∀x∈a++r,x≠.acc
 tc:tc (a++r)<=X.L+2
 at_:i+2*fm X (a++r)<=24
def Fo.len(h:Fo X k a r):(a++r).length<=17:=by have U:=h.at_;unfold fm at U;exact c9 λO=>tH [_,_,_,_,_,_] [.e 2 ax (.a aE a7),.e 2 aE<|.a cz<|.c 2,aH (.a g7<|.m 2<|.a wG a7)<|.c 24,.e 2 cz<|.c 3,.e 2 (.s<|.c 17) ax] Y (Qx<|a++r) h.tc U X.hL O
structure NG(X:C)(f:List (List Sy×Nat))(T:List Sy->Nat):Prop where
 nk:Nk f
 ok:∀p∈f,p.1.length<=X.L/\0<p.2
 sum:∀w,w.length<=X.L->wt f w+T w=X.C .s w
def vS(X:C)(S:List (List Sy×List Sy))(w:List Sy):Nat:=(S.map λq=>sq X.C (q.1++q.2) w).sum
def rZ(S T) w:vS X (S++T) w=vS X S w+vS X T w:=by delta vS;exact J aR List.sum_append
def AR(X:C)(S:List (List Sy×List Sy)):Prop:=∀i q,S[i]? =some q->Fo X i q.1 q.2
def AR.len(h:AR X S):S.length<=25:=(jK S.length).elim (λc=>lq [_] [.q 1 ax (.c 0)] ax (.c 25) Y c) λc=>by have:=(h (S.length-1) _<|aW<|lq [_,_] [aH (.a ax<|.c 1) aE] (.s ax) aE Y (aG<|a9<|lq [_] [aH (.s<|.c 0) ax] (.c 1) ax Y c)).at_;exact lq [_,_,_] [aH (.a aE<|.m 2 a7) (.c 24),aH ax (.a aE<|.c 1)] ax (.c 25) Y this (wB ..)
def AR.snoc(h:AR X S)(q:Fo X S.length a r):AR X (S++[(a,r)]):=λi p e=>by
 rcases iV i S.length with c|c|c
 .exact h i p (jn (bW c) e)
 .subst c;rw [br .refl,dC] at e;injection e with e;subst e;exact q
 .rw [cO (J ae c)] at e;exact eg e
def AR.pre(h:AR X (S++[q])):AR X S/\Fo X S.length q.1 q.2:=
 ⟨λi p e=>h i p (by refine(bW (List.getElem?_eq_some_iff.mp e).1).trans ?_;exact e),h _ q<|(br .refl).trans<|J (dC _) Y⟩
def qq(q:List Sy×List Sy):AV:=.aL [dP q.1,dP q.2]
def bz(X:C)(f:List (List Sy×Nat))(S:List (List Sy×List Sy))(j:St):St:=X.st++(.D (encD kN vi f)::.L (S.map qq)::.L ((X.R.map (·.1)).map b5)::j)
def env(X:C)(o5 o6 O U:Option AV:=none):En:=[some (iL X.R),some<|vi X.L,some<|.ref X.st.length,some<|.ref<|X.st.length+1,some<|.ref<|X.st.length+2,o5,o6,O,U,none]
def xV:(bz X f S j)[X.st.length]? =some (.D<|encD kN vi f):=gn ..
def Ll:(bz X f S j)[X.st.length+1]? =some (.L<|S.map qq):=gx _ _ 1
def iY:(bz X f S j)[X.st.length+2]? =some (.L ((X.R.map (·.1)).map b5)):=gx _ _ 2
def wA{T}:(bz X f S j).set (X.st.length+1) (.L<|T.map qq)=bz X f T j:=sx _ _ 1 _
def yh:bz X f S j++[c]=bz X f S (j++[c]):=by delta bz;simp only [aj];rfl
def Z9:vw (bz X f S j) (.ref<|X.st.length+2)=.L ((X.R.map (·.1)).map b5):=by simp only [bS,iY]
abbrev W(X:C)(O:Nat)(U:List Mine.Internal.S)(ρ:En)(s:St)(Q:Out×En×St->Prop):Prop:=Wp (cg X.Φ X.st.length X.N O U ρ s) Q
theorem inl(U:x≠.acc):jc (bz X f S j) .hV (b5 x) (.ref<|X.st.length+2)=(decide<|x.rk=0):=by exact(qu<|.inl Z9).trans (if c:x.rk=0 then bV (aq c) (aF λq=>(X.hl x U).mp q c) Y else bV (aF c) (aq<|(X.hl x U).mpr c) Y)
inductive I(X:C)(k:Nat):En->St->Prop
 |mk (f:List (List Sy×Nat)) (S:List (List Sy×List Sy)) (j:St) (o5 o6 o7 o8:Option AV) (hT:NG X f (vS X S)) (hS:AR X S) (hk:k=GK X S):I X k (env X o5 o6 o7 o8) (bz X f S j)
inductive I2(X:C)(f:List (List Sy×Nat))(S:List (List Sy×List Sy))(j:St)(l:List Sy)(o5 o6:Option AV)(k:Nat):En->St->Prop
 |mk (a r:List Sy) (e:a++r=l) (ha:∀x∈a,x.rk=0) (hk:k=r.length):I2 X f S j l o5 o6 k (env X o5 o6 (dP a)<|dP r) (bz X f S j)
noncomputable def cond:E:=.and [(.bk .ne (.af 8)<|.aL []),(.bk .hV (.sub (.af 8)<|.aI<|.int 0)<|.af 4),(.bk .le (.bA .len [(.af 7)])<|.af 1)]
def At(X:C)(a r:List Sy):Prop:=r=[]\/(∃A U,r=A::U/\A.rk≠0)\/X.L<a.length
def ne_nil:jc s .ne (dP r) (.aL [])=(!decide (r=[])):=U0 (w:=[])
def cnd(H:a.length<=17)(D:∀x∈r,x≠.acc):∃t,bZ X.Φ X.st.length cond (env X N M (dP a)<|dP r) (bz X f S j)=some (.bool t,bz X f S j)/\(t=true->∃y O,r=y::O/\y.rk=0/\a.length<=X.L)/\(t=false->At X a r):=by
 induction r with
 |nil=>exact⟨false,lB<|cp Y Y ne_nil,nb,λP=>.inl Y⟩
 |cons y r=>
  have U:=cp (Φ:=X.Φ) (ro:=X.st.length) (ρ:=env X N M (dP a)<|dP (y::r)) (b:=.af 4) (dh (o:=.af 8) (i:=.aI<|.int 0) (st:=bz X f S j) Y Y C4) Y<|inl<|D y<|.head _;refine⟨decide (y.rk=0)&&decide (a.length<=X.L),sH (cp Y Y ne_nil) ?_,λh=>?_,λh=>?_⟩
  .by_cases c:y.rk=0
   .rw [aq c] at U;exact J (aq c)<|sH U<|RY<|cp (cx (aA Y aV)<|Ir<|lq [_] [aH ax (.c 17)] ax (.c 2000) Y H) Y<|congrArg _<|dD Int.ofNat_le
   .rw [aF c] at U;exact J (aF c)<|lB U
  .simp only [cF,cy] at h;exact⟨y,r,Y,h.1,h.2⟩
  .rw [Bool.and_eq_false_iff,decide_eq_false_iff_not,decide_eq_false_iff_not] at h;exact h.elim (λh=>.inr<|.inl ⟨y,r,Y,h⟩) λh=>.inr<|.inr<|ip h
def inner(w:∀x∈a,x.rk=0)(H:∀x∈a++r,x≠.acc)(L:(a++r).length<=17)
  (k:∀O M,O++M=a++r->(∀x∈O,x.rk=0)->At X O M->W X fl B (env X o5 o6 (dP O)<|dP M) (bz X f S j) Q):W X fl (.A4 cond AZ::B) (env X o5 o6 (dP a)<|dP r) (bz X f S j) Q:=by
 refine zr (I2 X f S j (a++r) o5 o6) ?_ ⟨a,r,Y,w,Y⟩ λm P g h=>?_
 .exact c9 λq=>tH [_,_,_] [aH (.a ax aE) (.c 17),aH (.s<|.c 16778216) a7,aH (.s a7) (.s aE)] Y (ae▸L) X.hN q
 have⟨O,M,e,ha',hk⟩:=h;have U:O.length+M.length<=17:=jn ae<|J e L;obtain⟨t,X.hN,o,v⟩:=cnd (lq [_,_] [aH (.a ax aE) (.c 17)] ax (.c 17) Y U) λx N=>H x<|jn e<|ar _ N;induction t with
 |false=>exact .inl ⟨_,X.hN,k O M e ha'<|v Y⟩
 |true=>
  obtain⟨y,D,rfl,A,_⟩:=o Y;refine .inr ⟨_,X.hN,(lq [_,_] [.p 1 ax (.s aE)] (.s<|.c 0) ax Y hk),qh (x:=.aL [dP (O++[y]),dP D]) ?_ Y<|bU ⟨.inl Y,D.length,(lq [_,_] [.p 1 aE (.s ax)] (.s ax) aE Y hk),O++[y],D,by refine J (aj ..) ?_;exact e,λx N=>?_,Y⟩⟩
  .exact J sF (J (aA (dy Y (vJ Y Y<|Vr<|lq [_,_] [aH (.a aE<|.s ax) (.c 17)] ax (.c 1000) Y U)<|Kf (by simp only [dG];exact lq [_,_] [aH (.a ax<|.s aE) (.c 17)] (.s ax) (.c 2000) Y U))<|aA (Au Y Y<|NU<|lq [_,_] [aH (.a aE<|.s ax) (.c 17)] ax (.c 1000) Y U) aV) Y)
  .exact(mA N).elim (ha' x) λN=>J (mS N) A
def kids(a:List Sy)(A:Sy)(r:List Sy)(d:Rl):List (List Sy×List Sy):=(d.at A).map λp=>(a,p.2++r)
def zZ:kids a A r (d++[p])=if p.1=A then kids a A r d++[(a,p.2++r)] else kids a A r d:=by delta kids Rl.at;exact J (dm ..)<|J df (if c:p.1=A then J (au<|aq c) (bV (au c) aR Y)else J (az (by refine J (aF c) ?_;decide)) (J (az c)<|J List.filter_nil<|J (aC _) Y))
def Ol(h:Fo X k a (A::r))(P:p∈X.R)(e:p.1=A)(O:A.rk≠0)(U:tc (a++A::r)<=X.L):fm X (a++(p.2++r))+1<=fm X (a++A::r)/\tc (a++(p.2++r))<=X.L+2:=by refine(X.hr p P).elim λH D=>D.elim λ_ _=>H.elim λN M=>?_;rw [e] at N;delta fm;simp only [xQ,tN,az O] at U;simp only [xQ,tN,az O,Qd,yk];exact⟨lq [_,_,_,_,_,_,_,_,_,_] [aH (.s a7) (.a wG Mg),aH (.a (.v 7)<|.c 2)<|.a g7<|.a (.v 8)<|.a (.v 9)<|.c 0,aH (.a ax<|.a (.v 8)<|.a Mg<|.v 9) (.a (.v 7)<|.c 2)] (.s<|.a ax<|.a aE<|.a a7 cz) (.a g7<|.a aE<|.a wG cz) Y N (wB ..) (aG<|a9<|lq [_,_,_,_] [aH aE (.c 2),aH (.a ax<|.a a7<|.c 0) cz] (.a ax<|.a aE a7) (.a cz<|.c 2) Y M U),lq [_,_,_,_] [aH aE (.c 2),aH (.a ax<|.a a7<|.c 0) cz] (.a ax<|.a aE a7) (.a cz<|.c 2) Y M U⟩
inductive I3(X:C)(f:List (List Sy×Nat))(S:List (List Sy×List Sy))(j:St)(a:List Sy)(A:Sy)(r:List Sy)(d:Rl):En->St->Prop
 |mk (o5 o6:Option AV) (h:AR X (S++kids a A r d)):I3 X f S j a A r d (env X o5 o6 (dP a)<|dP (A::r)) (bz X f (S++kids a A r d) j)
set_option tactic.hygienic true in
def T7(h:Fo X S.length a (A::r))(o:A.rk≠0)(v:tc (a++A::r)<=X.L){p}(M:X.R=d++p::rest)(y:I3 X f S j a A r d B s):
  Wp ((fQ s (.t [5,6]) (n5 p) B).bind λD=>cg X.Φ X.st.length X.N l pQ D s) (LQ none<|I3 X f S j a A r<|d++[p]):=by
 induction y;rename_i b i P;refine jX (cp Y (dh Y Y C4) Es) ?_;have fin:∀T,kids a A r (d++[p])=T->AR X (S++T)->LQ none (I3 X f S j a A r<|d++[p]) (.next,env X (b5 p.1) (some<|.aM<|p.2.map b5) (dP a)<|dP (A::r),bz X f (S++T) j):=λT e h=>by subst e;exact⟨.inl Y,trivial,_,_,h⟩
 by_cases c:p.1=A
 .refine J (aq c) ?_
  have q:(kids a A r d).length<=2:=by have O:=X.kn A;replace O:=M▸O;unfold Rl.at at O;rw [dm,df,au<|aq c,ae,bj] at O;delta kids Rl.at;exact J (ag _)<|lq [_,_] [aH (.a ax<|.s aE) (.c 3)] ax (.c 2) Y O
  have H:=h.len;simp only [ae,bj] at H;refine iP (jS Y Ll (x:=qq (a,p.2++r)) (s2:=bz X f (S++kids a A r d) j) ?_ Ll (fH ?_)<|b0 _)<|bU<|bU ?_
  .exact J sF (J (aA Y<|aA (dy (cx (aA Y aV) (by show(if(p.snd.map b5).length<=lim then some (p.snd.map b5)else none).bind (λw=>some (AV.aL w,(Lw.bz X f (S++Lw.kids a A r d) j)))=_;exact J (ag _)<|J (au<|dE<|lq [_] [aH ax (.c 4)] ax (.c 2000) Y ((X.hr p<|M▸ar _ (.head _)).2.2)) Y)) (Au Y Y<|NU<|lq [_,_] [aH (.a aE<|.s ax) (.c 17)] ax (.c 1000) Y H)<|Kf<|lq [_,_,_] [aH ax (.c 4),aH (.a a7<|.s aE) (.c 17)] (.a ax aE) (.c 2000) Y ((X.hr p<|M▸ar _ (.head _)).2.2) H) aV) Y)
  .have:=P.len;exact J (ag _)<|lq [_] [aH ax (.c 25)] ax (.c 2000) Y this
  .have e:(S++kids a A r d).map qq++[qq (a,p.2++r)]=(S++(kids a A r d++[(a,p.2++r)])).map qq:=by simp only [aR,aj];rfl
   exact J e (J wA (fin _ (J zZ<|au c) (jn (aj ..) (P.snoc (J ae (by
     have Q:=(M▸ar _ (.head _));refine And.elim (λO g=>?_)<|Ol h Q c o v;refine⟨h.tm,λx U=>?_,g,?_⟩
     .exact(mA U).elim (λU=>h.ac x<|bl _ U) λU=>(mA U).elim (λU=>(X.hr p Q).2.1 x U) λU=>h.ac x (ar _<|.tail _ U)
     .have:=h.at_;exact lq [_,_,_,_] [aH aE (.c 2),.e 2 (.s a7) cz,aH (.a ax<|.m 2 cz) (.c 24)] (.a (.a ax aE)<|.m 2 a7) (.c 24) Y q O this))))))
 .exact J (aF c) (bU<|bU<|fin _ (J zZ<|az c) P)
def TQ(X:C)(k:Nat)(r:Out×En×St):Prop:=(r.1=.next\/r.1=.cont)/\∃j,j<k/\I X j r.2.1 r.2.2
def oG:GK X (S++[(a,r)])=GK X S+4^fm X (a++r):=Dp ..
def ID(O:A.rk≠0)(U:A≠.acc):vS X (kids a A r X.R) w=sq X.C (a++A::r) w:=by refine J (EU<|X.hC A O U) ?_;delta vS kids tC;exact congrArg _ bJ
def NG.kn(h:NG X f T):f.length<=1331:=lV h.nk λp U=>aa (h.ok p U).1 X.hL
set_option tactic.hygienic true in
def turn(i:∀x∈a,x.rk=0)(l:At X a r)(h:Fo X S.length a r)(hS:AR X S)(M:NG X f (vS X<|S++[(a,r)])):W X fl N0 (env X o5 o6 (dP a)<|dP r) (bz X f S j) (TQ X<|GK X<|S++[(a,r)]):=by
 have Q:=h.len;replace Q:=ae▸Q;have H:GK X S<GK X (S++[(a,r)]):=J oG<|bX<|i6<|bM Y
 have P:=vK (Φ:=X.Φ) (ro:=X.st.length) (tt:=.v 9) (it:=.af 8) (elt:=.af 9) (own:=[9]) (ρ:=env X o5 o6 (dP a)<|dP r) (s1:=bz X f S j) Y (gF<|lq [_,_] [aH (.a aE ax) (.c 17)] ax (.c 2000) Y Q) (lq [_,_] [aH (.a aE ax) (.c 17)] ax (.c 2000) Y Q) (λu9=>trivial) λd y q hd=>by refine⟨Y,?_,λu9=>rfl⟩;exact J yh<|tw<|cp (a:=.af 9) (b:=.af 4) Y Y<|inl<|h.ac y<|ar _<|J hd<|ar _<|.head _
 have o:jc (bz X f S<|j++[AC.L ((r.filter λx=>decide<|x.rk=0).map b5)]) .gt (vi<|a.length+(r.filter λx=>decide<|x.rk=0).length) (vi X.L)=(decide<|X.L<tc (a++r)):=by show some (decide<|(X.L:Int)<((a.length+(r.filter λx=>decide<|x.rk=0).length:Nat):Int))=_;rw [dD Int.ofNat_lt,xQ,Bc i,tc,List.countP_eq_length_filter]
 replace P:=yh▸P;have U:=oK (s:=bz X f S<|j++[AC.L ((r.filter λx=>decide<|x.rk=0).map b5)]) (J bS<|jn yh<|J (gn ..) Y)<|J (ag _)<|aa (bN ..)<|lq [_,_] [aH (.a aE ax) (.c 17)] ax (.c 2000) Y Q;rw [ag] at U;refine jX (cp (dy (cx (aA Y aV)<|Ir<|lq [_,_] [aH (.a ax aE) (.c 17)] ax (.c 2000) Y Q) (cx (aA P aV) U) Y) Y o) ?_;clear Q P o U;by_cases O:X.L<tc (a++r)
 .refine J (aq O) (uJ ⟨.inr Y,_,H,f,S,_,_,_,_,_,⟨M.nk,M.ok,λw B=>?_⟩,hS,Y⟩);refine jn (M.sum w B)<|J (rZ ..) ?_;show _=_+(_+(sq X.C (a++r) w+0));exact J (C8 (λx hx v g=>by rw [X.ht x hx];exact qj g)<|aQ B O) Y
 refine J (aF O)<|bU<|jX (cp Y Y<|Jy (w:=[])) ?_;have O:=c9 O;by_cases t:r=[]
 .subst t;have hal:a.length<=X.L:=by rw [aC,Bc i] at O;exact O
  have g:vw (bz X f S<|j++[AC.L ((([]:List Sy).filter λx=>decide<|x.rk=0).map b5)]) (.ref X.st.length)=.D (encD kN vi f):=by simp only [bS,xV]
  refine nE (dy (p9 Y (E2 g) (aA Y<|aA Y aV)<|Yk g) Y Y) Y Y xV (tL a) (uc vi f a) (J (gU _)<|fH<|aa M.kn<|bM Y) .refl<|J (jw sr f a<|wt f a+1)<|J (rW ..)<|uJ ⟨.inr Y,_,H,kc f a 1,S,_,_,_,_,_,⟨rP M.nk ..,λp H=>?_,λw B=>?_⟩,hS,Y⟩
  .rcases sO H with q|⟨q1,q2⟩
   .exact M.ok p q
   .exact bV q1 q2 ⟨hal,bO _⟩
  .refine jn (M.sum w B) (bV (rZ ..) (xN M.nk ..) ?_);show _=_+(_+(sq X.C (a++[]) w+0));exact J (aC _)<|J (zb X.ht i)<|bH (lq [_,_,_] [] (.a (.a ax aE) a7) (.a ax<|.a a7<|.a aE<|.c 0) Y)<|lq [_,_,_] [] (.a ax<|.a aE<|.a a7<|.c 0) (.a (.a ax a7) aE) Y
 .clear H;refine J (aF t) ?_;obtain⟨A,N,rfl,hA⟩:∃A N,r=A::N/\A.rk≠0:=by
   rcases l with q|q|q
   .exact absurd q t
   .exact q
   .rw [xQ,Bc i] at O;exact tH [_,_,_] [aH (.a ax aE) a7,aH (.s a7) ax] Y O q
  refine bU<|gu Y (dx<|aa X.len<|bM Y) (by have e:S++kids a A N []=S:=aC S;have:=I3.mk (f:=f) (j:=(j++[AC.L (List.map b5<|List.filter (λx=>decide<|x.rk=0) (A::N))])) o5 o6<|jn e.symm hS;rwa [e] at this) (λd p rest ρ s=>T7 h hA O) λρ s hI=>?_
  induction hI;rename_i o5 o6 hS';refine bU ⟨.inl Y,_,?_,f,S++kids a A N X.R,_,_,_,_,_,⟨M.nk,M.ok,λw B=>?_⟩,hS',Y⟩
  .exact bV (Dp ..) oG (cc (by
    have h2:GK X (kids a A N X.R)<=3*4^(fm X (a++A::N)-1):=by delta GK kids;refine J bJ<|aa (iC _ _ (4^(fm X (a++A::N)-1)) λp H=>?_)<|c7 _<|X.kn A;exact(oY.mp H).elim λH e=>fO (bM Y) (Nat.le_sub_of_add_le (Ol h H e hA O).1)
    obtain⟨m,hm⟩:∃m,fm X (a++A::N)=m+1:=⟨_,(Nat.succ_pred_eq_of_pos<|c9 λh9=>tH [_,_,_,_] [aH ax aE,aH (.a aE<|.c 2)<|.a a7 ax,aH (.s<|.a a7 cz) (.c 1)] Y O (wB ..) h9).symm⟩;rw [hm] at h2⊢;have:0<4^m:=i6<|bM Y;exact lq [_,_] [aH ax (.m 3 aE),aH (.s<|.c 0) aE] (.s ax) (.n aE 4) Y h2 this) _)
  .exact jn (M.sum w B) (bV (rZ ..) (rZ ..)<|J (ID hA<|h.ac A<|ar _<|.head _) Y)
def AR.nil:AR X []:=λi q=>eg
def Xz:vS X [([],[.s])] w=X.C .s w:=by show mX (λx i j=>X.C x<|sl w i j) [Sy.s] 0 w.length+0=_;exact J (qJ<|bf _)<|J (nW _) Y
def start:I X (4^(X.L+2+7)) (env X) (bz X [] [([],[.s])] []):=by
 refine⟨[],[([],[.s])],[],_,_,_,_,⟨bh,(λU=>iZ),λw M=>?_⟩,AR.snoc AR.nil ⟨(λU=>iZ),?_,?_,?_⟩,?_⟩
 .exact jn Xz (bu _)
 .intro x O;exact J (mS O) Sy.noConfusion
 .exact bf _
 .show 0+2*((X.L+2-0)+7)<=24;have:=X.hL;exact lq [_,_] [.e 2 aE (.c 3),.e 2 ax (.a aE<|.c 2)] (.a (.c 0)<|.m 2<|.a ax<|.c 7) (.c 24) Y this (cP ..)
 .exact(eR _).symm
set_option tactic.hygienic true in
theorem ok X:Wp (kC X.Φ ro X.N ta [iL X.R,vi X.L] X.st) λr=>∃f,r=(.bK<|encD kN vi f,X.st)/\NG X f λu9=>0:=by
 refine gT Y ?_;have O:=oo (Φ:=X.Φ) (ro:=X.st.length) (tt:=.t [5,6]) (it:=.af 0) (elt:=.af 5) (own:=[5,6]) (ρ:=[some (iL X.R),some<|vi X.L,none,none,none,none,none,none,none,none]) (st:=X.st++[.D []]++[.L [qq ([],[.s])]]) Y (dx<|aa X.len<|by decide) (aa X.len<|by decide) (λu9=>trivial) λp u9 ys=>⟨Y,Y⟩;have hst:X.st++[AC.D []]++[.L [qq ([],[.s])]]++[.L (X.R.map λp=>b5 p.1)]=bz X [] [([],[.s])] []:=by unfold bz;exact bV bJ (aj ..)<|J (aj _ _ _) Y
 have P:(X.st++[AC.D []]).length=X.st.length+1:=by exact J ae Y
 have el2:(X.st++[AC.D []]++[AC.L [qq ([],[.s])]]).length=X.st.length+2:=by exact J ae<|J P Y
 rw [hst,el2] at O
 have h1:bZ X.Φ X.st.length (.aM [(.aL [(.aL []),(.aL [(.aI<|.str [115])])])]) [some (iL X.R),some<|vi X.L,none,none,none,none,none,none,none,none] (X.st++[.D []])=some (.ref<|X.st.length+1,X.st++[.D []]++[.L [qq ([],[.s])]]):=by exact jn P Y
 have h0:bZ X.Φ X.st.length (.bK []) [some (iL X.R),some<|vi X.L,none,none,none,none,none,none,none,none] X.st=some (.ref X.st.length,X.st++[.D []]):=rfl;have hes:=aA h0<|aA h1<|aA O aV;refine qh (x:=.aL [.ref X.st.length,.ref<|X.st.length+1,.ref (X.st.length+2)]) (s1:=bz X [] [([],[.s])] []) (ρ':=env X) ?_ Y ?_
 .exact J sF (J hes Y)
 .refine zr (I X) (k:=4^(X.L+2+7)) ?_ start λk v s' h=>?_
  .have h1:=X.hN;have h2:4^(X.L+2+7)<=4^12:=fO (by decide) (by have:=X.hL;exact lq [_] [aH ax (.c 3)] (.a (.a ax<|.c 2)<|.c 7) (.c 12) Y this);exact aQ h2<|aQ (aw _ _) h1
  induction h;rename_i f S j B Q o7 o8 A hS hk
  have hne:jc (bz X f S<|j++[.L []]) .ne (.ref<|X.st.length+1) (.ref (bz X f S j).length)=some (!decide (S=[])):=by refine J (DB (xs:=S.map qq) (by exact J bS<|J Ll Y) (by exact J bS<|jn yh<|J (gn _ _ _) Y) Y) ?_;induction S<;>rfl
  have hc:bZ X.Φ X.st.length (.bk .ne (.af 3)<|.aM []) (env X B Q o7 o8) (bz X f S j)=some (.bool<|!decide (S=[]),bz X f S<|j++[.L []]):=cp (s1:=bz X f S j) Y (by refine J kL<|J aV ?_;show some (_,_)=_;exact J yh Y) hne;rcases List.eq_nil_or_concat S with rfl|⟨S,q,rfl⟩
  .refine .inl ⟨_,hc,jo (cs:=.D (encD kN vi f)::.L []::.L ((X.R.map (·.1)).map b5)::(j++[.L []])) Y (oQ (aS _) (gn _ _ _)<|lY (λu9=>rfl) _) ⟨f,Y,A⟩⟩
  .obtain⟨a,r⟩:=q;rw [List.concat_eq_append] at*;rw [aF (by simp)] at hc;obtain⟨H,U⟩:=AR.pre hS;refine .inr ⟨_,hc,J hk ?_,qh (x:=qq (a,r)) (s1:=bz X f S<|j++[.L []]) ?_ Y<|inner U.tm U.ac U.len λa' r' e M hat=>?_⟩
   .exact J oG (aJ (i6<|by decide)<|cJ _ _)
   .have hp:=OA (Φ:=X.Φ) (ro:=X.st.length) (ρ:=env X B Q o7 o8) (st:=bz X f (S++[(a,r)])<|j++[.L []]) (o:=.af 3) (n:=X.st.length+1) (xs:=S.map qq) (x:=qq (a,r)) Y (by exact J Ll<|J aR Y) (fH<|by exact J (ag _)<|aa H.len<|by decide)<|b0 _;rw [wA] at hp;exact hp
   .have e2:fm X (a'++r')=fm X (a++r):=by exact J e Y
    have h2:=turn (fl:=(bz X f (S++[(a,r)]) j).length) (j:=j++[.L []]) (o5:=B) (o6:=Q) M hat ⟨M,e▸U.ac,e▸U.tc,e2▸U.at_⟩ H ⟨A.nk,A.ok,λw hw=>by rw [<-A.sum w hw,rZ,rZ];show _+(_+(sq X.C (a'++r') w+0))=_+(_+(sq X.C (a++r) w+0));rw [e]⟩;rw [hk,oG,<-e2,<-oG];exact h2
end Lw
def Ud:List (Nat×Fn):=[(76,rE),(83,rC),(113,tj),(132,mC),(139,j7),(146,kB),(160,nK),(167,mB),(209,lz),(215,ly),(220,Ai),(227,vA),(234,vC),(239,om),(245,p5),(251,tf),(259,pZ),(273,ti),(280,oR),(294,th),(341,tn),(348,oS),(367,sZ),(372,rA),(379,Jq),(386,p6),(393,sY),(401,vz),(406,rz),(412,p4),(419,nJ),(426,xp),(433,vD),(440,td),(447,te),(452,ta),(457,rB),(462,Oq)]
def Bf(a:Nat):Option Fn:=Ud.lookup a
noncomputable def NN:Nat:=20000000
def Ph(k:Nat):Fs:=SF NN Bf k
def ph k(h:Bf a=some F) O args U:Ph (k+1) O a args U=kC (Ph k) O NN F args U:=by show(Bf a).bind (λF=>kC (Ph k) O NN F args U)=_;exact J h Y
def pw(h:Bf a=some F)(q:Wp (kC (Ph k) O NN F args U) Q):Wp (Ph (k+1) O a args U) Q:=J (ph k h ..) q
def pe{k}{a}{F}(h:Bf a=some F){O}{args}{U}{r}(q:kC (Ph k) O NN F args U=r):Ph (k+1) O a args U=r:=(ph k h O args U).trans q
def lG(h:G.Ok):KS (Ph<|k+1) G e:=⟨λM O=>pe Y<|JP h.dN,λM O x U=>pe Y<|Lc h.fW U,λM O x U=>pe Y<|Hx h.dN h.mi U,λM O x U=>pe Y<|xa h.dN U⟩
def Zq:NI (Ph<|k+1):=⟨λU O=>pe Y<|wx U O,λU=>pe Y<|yx U,λU O L H D N M=>pe Y<|xP U O L H D N M⟩
def Zp:SA (Ph<|k+1) G:=⟨λO U n W H D N M=>pe Y<|zi H D N M,λO U a b h=>pe Y<|zG h⟩
def Zr:wi (Ph<|k+1):=λH D N M O U=>pw Y<|Dw.ok H D N M O U
def QK(h:G.Ok)(N:Sem G ok K):AO (Ph<|k+3) G e K:=Sz.ord (λO U M=>pw Y<|Uo.ok h M ⟨lG h,λO U=>pw Y<|zB h<|⟨lG h,λO U=>pw Y<|Sp.ok h<|bM Y⟩⟩<|bM Y) N
def Zo(h:G.Ok)(hS:Sem G (· ≠.err) K):Tc.Sp (Ph<|k+4) G e K:=λU st len hc hl=>pw Y<|Tc.ok {Φ:=Ph<|k+3,G:=G,e:=e,N:=NN,st:=st,len:=len,K:=K,h:=h,hg:=lG h,hc:=hc,hl:=hl,hS:=hS,hW:=(λU X M O=>pw Y<|Wo.ok {X with Φ:=Ph<|(k+1)+1,N:=NN,hg:=J M (jn O<|lG h)})} (QK h hS)
def lTo(h:G.Ok)(hS:Sem G (λO=>True) K):To.Sp (Ph<|k+4) G e K:=λU st w hc hl hw=>pw Y<|To.ok {Φ:=Ph<|k+3,G:=G,e:=e,N:=NN,st:=st,w:=w,K:=K,h:=h,hg:=lG h,hM:=Zq,hR:=(λU X=>pw Y<|Ro.ok {X with Φ:=Ph<|(k+1)+1,N:=NN,hM:=Zq}),hc:=hc,hl:=hl,hw:=hw,hS:=hS} (QK h hS)
def lAw(h:G.Ok)(hS:Sem G (· ≠.err) K):Aw.Sp (Ph<|k+3) G e K:=λU st len hc hl=>pw Y<|Aw.ok {Φ:=Ph<|k+2,G:=G,e:=e,N:=NN,st:=st,len:=len,K:=K,h:=h,hg:=lG h,hS:=Zp,hR:=(λU X h=>pw Y<|Rj.ok {X with Φ:=Ph<|k+1,N:=NN,hS:=Zp}),hc:=hc,hl:=hl,hK:=hS} (bM Y)
def lLv:∀d k,d<=900->SE (Ph<|k+d) d:=λd=>d.rec (λk U N M t O h=>absurd (Dh t)<|Nat.not_le.mpr<|cq h) λd D k U N M t O h=>pe Y<|Fu O (eJ U) h<|D k<|eJ U
def Jl(O:Dk R):NL (Ke R):=λl n h=>O.kn l n λw U=>⟨(h w U).1,λe=>(h w U).2<|by simp only [O.err,e,ite_self]⟩
def HX{b}{l}(U:l.length<=2)(h:∀x∈l,O7 x<=b):nw l<=2*b:=aa (iC l O7 b h)<|c7 b U
def Mh(D:rX [.s,.t,.u] R)(N:p∈R):Lt p/\(∀x∈p.2,x≠.acc)/\p.2.length<=4:=by
 obtain⟨M,L,U⟩:=D.Ft N;refine⟨⟨?_,aa List.countP_le_length M⟩,λx O=>((D.w5.pg.rr p N).2 x O).2.2,aa M<|bM Y⟩;rcases U with U|⟨z,U,H⟩
 .refine aJ ?_ (aw ..);rcases D.w5.pg.lf p N with e|e|e<;>rw [e] at U⊢
  .exact aQ (HX (b:=3) M λx O=>by have:=U x O;induction x<;>first|exact bM Y|exact absurd this<|by decide) (bM Y)
  .exact aQ (HX (b:=1) M λx O=>by have:=U x O;induction x<;>first|exact bM Y|exact absurd this<|aB Y) (bM Y)
  .exact aQ (HX (b:=0) M λx O=>by have:=U x O;induction x<;>first|exact bM Y|exact absurd this<|aB Y) (bM Y)
 .refine J U (bV (yk ..) (tN ..)<|bV (au H) (show O7 z=0 by induction z<;>first|rfl|exact sz H) ?_);exact J (bu _)<|cc (bO _) _
def Qo(M:rX [.s,.t,.u] R) x(O:x≠.acc):x∈R.map (·.1)↔x.rk≠0:=by rw [List.mem_map,<-kU,M.w5.kU];induction x<;>first|exact absurd Y O|exact⟨λh=>h.elim Sy.noConfusion λh=>h.elim Sy.noConfusion Sy.noConfusion,absurd Y⟩|exact⟨λU=>sz,λU=>.inl Y⟩|exact⟨λU=>sz,λU=>.inr<|.inl Y⟩|exact⟨λU=>sz,λU=>.inr<|.inr Y⟩
def Vh(M:rX [.s,.t,.u] R) A(h:A.rk≠0)(O:A≠.acc) v:Kt R A v=tC R A λr=>sq (Kt R) r v:=(AW M.w5.RR h).trans<|(pK (λr=>sq (Kt R) r v) [(.acc,[.s,.fin])] R).trans<|J (yS _ λp U e=>absurd (jn e<|J (mS U) Y) O)<|bu _
def lL:Y2 (Ph 300) where
 Qb U st l hc hl:=pw Y<|Pn.ok hc hl
 Zi U st p hc O M D:=pw Y<|Pr.ok hc Zr (λhc O M D P H B=>pw Y<|Rt.ok hc Zr O M D P H B) O M D
 Yi U st R hc h:=(Pq.ok (⟨λO M=>pe Y<|yb O M,λh=>pe Y<|Z0.ok h,λO M D P H=>by obtain⟨a,b,q⟩:=Gi.ok O (gE O) M D P H;exact⟨a,b,pe Y q⟩⟩) h hc).elim λe q=>⟨e,pe Y q⟩
 Xp U st R L hc hR hL:=(pw Y ((Lw.ok {Φ:=Ph 299,N:=NN,st:=st,R:=R,L:=L,C:=Kt R,hN:=bM Y,hL:=hL,hC:=Vh hR,ht:=AU,hl:=Qo hR,hr:=λp=>Mh hR,kn:=hR.kn,len:=aa hR.len (bM Y)}).mono λr q=>by obtain⟨f,e,h⟩:=q;exact⟨f,e,h.nk,h.ok,h.sum⟩))
 cnt U st R e w hc hD hl hw:=(pe Y<|Ct.ok {Φ:=Ph<|296+3,G:=cG R,e:=e,N:=NN,st:=st,w:=w,K:=Kt R,h:=hD.g.ok,hg:=lG hD.g.ok,hc:=hc,hl:=hl,hw:=hw,hS:=hD.sT,hW:=λU X=>pw Y (Wa.ok {X with Φ:=Ph<|296+2,N:=NN})} (QK hD.g.ok hD.sT))
 tc R e h:=Zo h.ok h.sE
 up U st R e len hc hD hl:=pw Y ((K8 hD.g.ok hc hl (lAw hD.g.ok hD.g.sE)<|Jl hD).mono λr q=>by obtain⟨Q,e,O,M⟩:=q;exact⟨Q .s,e,O.fW .s,Ny hD.g.ok O M hD.g.pg.pU⟩)
 ab U st R e len hc hD hl:=pw Y (Ab.ok {Φ:=Ph 299,G:=cG R,e:=e,N:=NN,st:=st,len:=len,K:=Ke R,K':=Kt R,h:=hD.g.ok,hc:=hc,hl:=hl,hT:=Zo hD.g.ok hD.g.sE,hO:=lTo hD.g.ok hD.sT,hf:=Jl hD,hw:=(λw h=>by
   rw [hD.err] at h⊢;by_cases c:Sy.err∈w
   .rw [au c] at h;exact absurd Y h
   .rw [az c] at h⊢;exact⟨Y,hD.tm w h⟩)})
 num U st G e x h hx:=pe Y<|xa h.dN hx
 told U st t hc h:=pe Y<|Td.ok hc (⟨λU st x=>pe Y BY,λU st A k j=>pe Y Ba,λU st x=>pe Y wu⟩) (λU st t hc h=>pe Y<|Po.ok hc h<|bM Y) h
 lv:=lLv 299 1<|bM Y
def Mr{U}{l:List Int}{ro}(M:Cl U)(O:l.length<=64):Wp (Ph 301 ro 462 [.aM (l.map .int)] U) λr=>r=(.bool true,U):=pw Y<|La.ok M lL (λR h=>h.dk) O
end
section
open Classical PyProof.Rows PySem PySem.W
noncomputable def xn:Nat->List Obj->Frag
 |_,[]=>[]
 |i,o::l=>match alive o with
  |some x=>(i,x)::xn (i+1) l
  |none=>xn (i+1) l
def fragOf(h:Heap):Frag:=xn 0 h.objs.toList
def Jj:∀{l:List Obj} {i a:Nat} {o:Obj},(xn i l).lookup a=some o->i<=a/\∃x,l[a-i]? =some x/\alive x=some o:=by
 intro l;induction l with
 |nil=>intro i a o e;exact eg e
 |cons y l M=>
  intro i a o e
  have tl:(xn (i+1) l).lookup a=some o->i<=a/\∃x,(y::l)[a-i]? =some x/\alive x=some o:=λe=>by refine(M e).elim λO U=>U.elim λx U=>U.elim λD N=>⟨eJ O,x,?_,N⟩;exact J (show a-i=(a-(i+1))+1 by exact bH (lq [_,_,_,_] [aH a7 (.a aE<|.s cz),aH (.a ax cz) a7] ax (.s aE) Y (wB ..) (aG<|a9<|lq [_,_] [aH (.s ax) aE] ax aE Y O))<|lq [_,_,_,_] [aH a7 (.a aE cz),aH (.a ax<|.s cz) a7] (.s ax) aE Y (wB ..) (aG<|a9<|lq [_,_] [aH (.s ax) aE] (.s ax) aE Y O)) D
  dsimp only [xn] at e;induction c:alive y with
  |none=>replace e:=c▸e;exact tl e
  |some x=>
   rw [c] at e;simp only [dA] at e;induction q:a==i with
   |false=>replace e:=q▸e;exact tl e
   |true=>replace e:=q▸e;exact⟨aG (beq_iff_eq.mp q).symm,y,J (beq_iff_eq.mp q)<|J (dC _) Y,c.trans e⟩
def FH h:(fragOf h).In h:=λa o e=>by obtain⟨_,x,U,O⟩:=Jj e;simp only [kh,Array.getElem?_toList] at U;unfold Heap.get?;refine J U ?_;clear h e U;obtain⟨c,d,M,sl⟩:=x;induction M<;>first|exact O|exact eg O
noncomputable def zq(x:Option (Option Value))(f:Nat):Bool:=decide<|x=some (some<|.ref f)
def oD(h:zq x f=true):x=some (some<|.ref f):=aB h
noncomputable def uT(x:Option (Option Value)):Bool:=decide<|x=some none
def pA(h:uT x=true):x=some none:=aB h
noncomputable def K5(v:Value):Tok:= @Value.casesOn (λU=>Nat) v 0 0 0 (λU=>0) (λU t=>t) (λU U=>0) (λU t=>t) (λU U=>0) (λU=>0) (λU=>0) λU=>0
noncomputable def EG(v:Value):Nat:= @Value.casesOn (λU=>Nat) v 0 0 0 (λU=>0) (λU U=>0) (λU U=>0) (λU U=>0) (λU U=>0) (λU=>0) (λU=>0) id
noncomputable def Nd(d:Data):Option (Array Value×Nat):= @Data.casesOn (λU=>Option<|Array Value×Nat) d none (λU=>none) (λa n=>some (a,n)) (λU U=>none) (λU U U=>none) (λU U=>none) (λU=>none) (λU=>none) (λU=>none) (λU=>none) none
def Eo(h:Nd d=some q):d=.seq q.1 q.2:=by induction d<;>first|exact eg h|exact jn (ak h) Y
def ZK(a:AV)(v:Value):Bool:=match a with
 | .int i=>decide<|v=.int i (K5 v)
 | .str l=>decide<|v=.str (wF l) (K5 v)
 | .none=>decide<|v=.none
 |_=>false
noncomputable def Gn:List AV->List Value->Bool
 |[],[]=>true
 |a::l,v::m=>ZK a v&&Gn l m
 |_,_=>false
def Sl{a}{v}(e:ZK a v=true):VR w g h a v:=by
 cases a with
 |int i=>exact⟨_,aB e⟩
 |str l=>exact⟨_,aB e⟩
 |none=>exact(aB e:v=.none)
 |_=>exact nb e
def Ez:∀{l:List AV} {m:List Value},Gn l m=true->eT w g h l m:=by
 intro l;induction l with
 |nil=>
  intro m e;induction m with
  |nil=>exact rfl
  |cons v m=>exact nb e
 |cons a l U=>
  intro m e;induction m with
  |nil=>exact nb e
  |cons v m=>exact⟨v,m,Y,Sl (a8 e).1,U (a8 e).2⟩
def J6:∀{l:List AV} {m:List Value},Gn l m=true->m.length=l.length:=by
 intro l;induction l with
 |nil=>
  intro m e;induction m with
  |nil=>exact rfl
  |cons v m=>exact nb e
 |cons a l U=>
  intro m e;induction m with
  |nil=>exact nb e
  |cons v m=>exact congrArg Nat.succ<|U (a8 e).2
def Pu(o:Option Obj)(f:List Value->Bool):Bool:=o.any fun x=>(Nd x.data).any fun q=>f q.1.toList&&(decide (x.cls=.type "tuple")&&(x.dict.isNone&&Nat.beq x.slots.size 0))
def K9(e:Pu o f=true):∃l n,o=(gh l n)/\f l=true:=by
 induction o with
 |none=>exact nb e
 |some x=>
  obtain⟨c,d,t,s⟩:=x;dsimp only [Pu,Option.any] at e;induction h:Nd t with
  |none=>replace e:=h▸e;exact nb e
  |some q=>rw [h] at e;refine⟨_,q.2,?_,(a8 e).1⟩;exact bV (aB (a8 (a8 e).2).1:c=_) (Eo h)<|bV (Option.isNone_iff_eq_none.mp (a8 (a8 (a8 e).2).2).1:d=_) (Array.eq_empty_of_size_eq_zero (eN (a8 (a8 (a8 e).2).2).2):s=_) Y
def jP{U:Type}{l:List (Str×U)}{y}{a}{p}(h:l.all p=true)(e:l.lookup y=some a):p (y,a)=true:=by
 induction l with
 |nil=>exact eg e
 |cons q r O=>
  rw [dA] at e;induction c:y==q.1 with
  |true=>rw [c] at e;exact J (beq_iff_eq.mp c)<|jn (ak e) (a8 h).1
  |false=>rw [c] at e;exact O (a8 h).2 e
def qC{U:Type}{l:List U}{p}{x}(h:l.all p=true)(m:x∈l):p x=true:=aT h x m
section
variable{K:Frag}
def YI(K:Frag)(c:Nat):Bool:=plainGet K c "" &&(hasDictIn K c&&(decide (findIn K (.ref c) "__setattr__" =some (some<|.builtin "object.__setattr__"))&&(plainOver K c&&(List.range 25).all fun f=> !(m9 c f) ||uT (findIn K (.ref c)<|attrName f))))
def Qj(K:Frag)(c n:Nat):Bool:=match TB.u1 c n with
 |some f=>plainGet K c "" &&(zq (findIn K (.ref c)<|jZ n) f&&(isFn K (.ref f)&&zz K f))
 |none=>true
noncomputable def AJ:List Nat:=[93,116,198,323,358]
def fnB(K:Frag)(p:Str×Nat):Bool:=zq (nsIn K mainGlobals p.1) p.2&&zz K p.2
def YC(K:Frag)(p:Str×(Nat×Nat)):Bool:=zq (nsIn K mainGlobals p.1) p.2.1&&(Nat.beq ((TB.init p.2.1).getD 0) p.2.2&&HV K p.2.1 p.2.2)
def EN(K:Frag):Bool:=fns.all (fnB K)&&(Nj.all (YC K)&&(Nt.all (fun p=>uT<|nsIn K mainGlobals p.1)&&(uT (nsIn K mainGlobals "str")&&(uT (nsIn K mainGlobals "isinstance")&&
 (AJ.all (YI K)&&(AJ.all λc=>(List.range 6).all<|Qj K c))))))
def Gp(h:m9 c f=true):c∈AJ:=by
 unfold m9 at h;by_cases D:c=93
 .exact J D (.head _)
 by_cases N:c=116
 .exact J N (.tail _<|.head _)
 by_cases M:c=198
 .exact J M (.tail _<|.tail _<|.head _)
 by_cases O:c=323
 .exact J O (.tail _<|.tail _<|.tail _<|.head _)
 by_cases U:c=358
 .exact J U (.tail _<|.tail _<|.tail _<|.tail _<|.head _)
 rw [az D,az N,az M,az O,az U] at h;exact nb h
def zM(h:TB.u1 c n=some f):c∈AJ/\n<6:=by refine(Option.map_eq_some_iff.mp h).elim λp k=>?_;have O:=a8<|List.find?_some (p:=λp:Nat×Nat×Nat=>Nat.beq p.1 c&&Nat.beq p.2.1 n) k.1;have U:=a8<|aT (show N7.all (λp=>AJ.contains p.1&&Nat.ble (p.2.1+1) 6)=true from Y) p<|List.mem_of_find?_eq_some k.1;exact⟨jn (eN O.1)<|List.contains_iff_mem.mp U.1,jn (eN O.2)<|bC U.2⟩
def NW(h:EN K=true)(e:TB.u1 c n=some f):plainGet K c "" =true/\findIn K (.ref c) (jZ n)=some (some<|.ref f)/\isFn K (.ref f)=true/\zz K f=true:=
 let d:=zM e
 by have h:=(qC (qC (p:=λc=>(List.range 6).all<|Qj K c) (a8 (a8 (a8 (a8 (a8 (a8 h).2).2).2).2).2).2 d.1)<|Ii d.2);unfold Qj at h;exact⟨(a8<|e▸h).1,oD (a8 (a8<|e▸h).2).1,(a8 (a8 (a8<|e▸h).2).2).1,(a8 (a8 (a8<|e▸h).2).2).2⟩
def kok(h:EN K=true):TM K where
 YJ:=λc f U=>by have h:=(qC (a8 (a8 (a8 (a8 (a8 (a8 h).2).2).2).2).2).1<|Gp U);have O:=qC (a8 (a8 (a8 (a8 h).2).2).2).2<|Ii<|vW U;rw [U] at O;exact⟨(a8 h).1,(a8 (a8 h).2).1,pA O,aB (a8 (a8 (a8 h).2).2).1,(a8 (a8 (a8 (a8 h).2).2).2).1⟩
 Zl:=λc n f e=>let q:=NW h e;⟨q.1,(zM e).2,q.2.1,q.2.2.1⟩
def Uc(h:EN K=true):EB K where
 fn:=λe=>have:=a8<|jP (a8 h).1 e;⟨oD this.1,this.2⟩
 cls:=λ{y M} e=>by
  have O:=a8<|jP (a8 (a8 h).2).1 e;refine⟨oD O.1,?_,(a8 O.2).2⟩;have U:=eN (a8 O.2).1;induction c:TB.init M.1 with
  |some z=>rw [c] at U;exact congrArg some U
  |none=> 
   exact absurd (c▸U) λz=>by have:Nj.all (λp=> !(Nat.beq 0 p.2.2))=true:=rfl;have:=jP this e;rw [<-z] at this;exact nb this
 blt:=λe=>⟨pA<|jP (a8 (a8 (a8 h).2).2).1 e,(aB<|jP (show Nt.all (λp=>decide<|bootBuiltins p.1=some p.2.val)=true by kernel_rfl) e)⟩
 str:=⟨pA (a8 (a8 (a8 (a8 h).2).2).2).1,Y⟩
 X6:=⟨pA (a8 (a8 (a8 (a8 (a8 h).2).2).2).2).1,Y⟩
 u1:=λc n f e=>(NW h e).2.2.2
end
noncomputable def G6(dn:Code->PySem.Sem PySem.Fin)(M:Nat->Option Value->Thread->Bool)(sp:(Code->PySem.Sem PySem.Fin)->Program->World->SharedT->Thread->Option (SharedT×Thread))(p:Program)(w:World)(U:Nat)(O:Option Value):Nat->SharedT->Thread->Option SharedT
 |0,_,_=>none
 |n+1,s,t=>match through t with
  |true=>some s
  |false=>match M U O t with
   |false=>none
   |true=>match sp dn p w s t with
    |some r=>G6 dn M sp p w U O n r.1 r.2
    |none=>none
def EJ:∀{n:Nat} {s O:SharedT} {t:Thread},G6 (denote tb) stepOk stepT p w U ann n s t=some O->topRun tb p w U ann n s.abs t=some O.abs:=by
 intro n;induction n with
 |zero=>intro s O t h;exact nomatch h
 |succ n M=>
  intro s O t h;dsimp only [G6] at h;dsimp only [topRun];induction ht:through t with
  |true=>exact congrArg (some ·.abs)<|ak<|ht▸h
  |false=>
   replace h:=ht▸h;induction hk:stepOk U ann t with
   |false=>simp only [hk] at h;exact nomatch h
   |true=>
    replace h:=hk▸h;induction hs:stepT (denote tb) p w s t with
    |none=>simp only [hs] at h;exact nomatch h
    |some r=>simp only [hs] at h;exact J (stepT_spec hs)<|M h
noncomputable def IV:Nat->List Obj->BT->BT
 |_,[],t=>t
 |n,o::l,t=>IV (n+1) l<|t.ins n o
def JZ(P:Params)(os:OsState):SharedT:=⟨IV 0 (boot_heap P).objs.toList .nil,11,(boot_heap P).life,⟨[]⟩,boot_drawn,boot_toks,os⟩
noncomputable def Ha(st:List Str->Heap->Heap->Bool)(O:List Stmt->List Str)(p:Program)(U:Heap)(s:Shared):Bool:=st (O p.main.body) U s.heap&&namesBound p s.heap&&gensDone s&&laidKept U s.heap
def QD(e:opening p=plainProg p.main.scope.names)(B:Nat.ble 600 N=true)(f:∀s,fenceModules? p s=s)(A:Nat.ble M N=true)
  (o:∀P os,(JZ P os).abs=⟨boot_heap P,⟨[]⟩,boot_drawn,boot_toks,os⟩)
  (sz:∀P,((boot_heap P).isNs mainGlobals,(boot_heap P).objs.size,(boot_heap P).nsMap mainGlobals "__annotations__")=(true,11,some<|.ref 6))
  (run:∀w (os:OsState),(G6 (denote treeTable) stepOk stepT p w 11 (some<|.ref 6) M (JZ w.params os)<|topStub p).map (λs=>(Ha staticsOk importedModules p (boot_heap w.params) s.abs,openSeen q loose (importedModules p.main.body) c true s.abs,g s.abs))=some (true,openGood q loose,i w)):
  LeftO p q loose c g i N:=λw=>by
 obtain⟨S,y,v⟩:=Option.map_eq_some_iff.mp<|boot_open e B f w;have j:S=⟨boot_heap w.params,⟨[]⟩,boot_drawn,boot_toks,S.os⟩:=congrArg (λp=>(⟨p.1,p.2.1,p.2.2.1,p.2.2.2,S.os⟩:Shared)) v;obtain⟨O,X,D⟩:=Option.map_eq_some_iff.mp<|run w S.os;refine And.elim (λQ D=>?_)<|Prod.mk.inj D;have r:=topRun_mono (N-M) _ _ _ _<|EJ X;rw [cU (bC A),o] at r;refine(Prod.mk.inj<|sz w.params).elim λL U=>And.elim (λU H=>?_)<|Prod.mk.inj U
 have t:topFrom treeTable p w N S=O.abs:=by refine J j ?_;dsimp only [topFrom];refine bV L U<|bV H r ?_;show(match Ha staticsOk importedModules p (boot_heap w.params) O.abs with|true=>some O.abs|false=>none)=_;exact J Q Y
 delta openEnds;simp only [y,Option.bind_some,t];exact congrArg some D
noncomputable abbrev pL:Program:=PySem.Challenge.pw_sf0020_01
section
variable{K:Frag}
def Zz(K:Frag)(x:Option (Option Value))(a:AV):Bool:=match a with
 | .int i=>x.any λy=>y.any λv=>decide<|v=.int i (K5 v)
 | .aL l=>zq x 98&&Pu (K.lookup 98) (Gn l)
 |_=>false
def Vt(K:Frag):Bool:=(List.range 5).all λn=>match TB.glob n with
 |some a=>(match rt[n]? with
  |some y=>Zz K (nsIn K mainGlobals y) a
  |none=>true)
 |none=>true
def wg{x:Option U}(h:x.any f=true):∃a,x=some a/\f a=true:=by
 induction x with
 |none=>exact nb h
 |some a=>exact⟨a,Y,h⟩
def Q6(X:K.In C.B)(h:Zz K x a=true):∃v,x=some (some v)/\∀g st h,cH C g st h->VR C.w g h a v:=by
 cases a with
 |int i=>exact(wg h).elim λy k=>(wg k.2).elim λv q=>⟨v,k.1.trans<|congrArg some q.1,λU U U U=>⟨_,aB q.2⟩⟩
 |aL l=>have h:=a8 h;refine⟨_,oD h.1,λg st N S=>?_⟩;exact(K9 h.2).elim λM O=>O.elim λn O=>O.elim λe k=>⟨98,M,n,Y,(S.base 98 _<|X _ _ e).2<|by decide,(S.base 98 _<|X _ _ e).1,Ez k⟩
 |_=>exact nb h
def Vu(h:EN K=true)(N:Vt K=true)(X:K.In C.B)(g:∃M,C.B.Ns mainGlobals M)(b:∃U,C.B.Ns builtinsNs U/\∀x:Str,x≠ "__name__" ->U x=bootBuiltins x)(lim:C.B.NoLimit):Gl C K where
 QZ:=X
 ko:=kok h
 g:=g
 b:=b
 lim:=lim
 wJ:=λn a y O D=>by have h:=aT N n<|Ii<|(List.getElem?_eq_some_iff.mp O).1;rw [O,D] at h;exact Q6 X h
noncomputable def ftN:List (Nat×List Str):=(3,["self", "kind", "text", "at", "worth"])::(4,["self"])::(6,["self", "number", "left", "right", "level_of", "action", "line", "before"])::(7,["self", "names", "terminal_count", "rules", "levels", "expect", "start", "name", "rule"])::(8,["self"])::(9,["self", "symbol"])::(11,["self", "name"])::(12,["self", "symbol"])::(17,["right", "terminal_count", "found", "symbol"])::(18,["pairs", "start", "lefts", "left", "parts", "name", "begin", "names", "count", "rules", "right"])::(19,["grammar", "known", "found", "lacking", "users", "symbol", "queue", "rule", "missing", "at", "number", "left"])::(20,["grammar"])::(21,["count", "most"])::(22,["words", "word"])::(23,["parts", "length", "most", "part", "room", "found", "longer", "begin", "word"])::(24,["grammar", "length", "most", "words", "symbol", "is_word", "count", "some", "is_grown", "rule", "word"])::(25,["grammar", "length", "most"])::(26,["self", "name", "rule", "children"])::(27,["self"])::(29,["self", "done", "node", "start"])::(34,["self", "token"])::(35,["self"])::(37,["tree", "found", "line", "node", "child"])::(38,["grammar", "nullables", "needs", "symbol", "rule", "solid", "others", "order", "placed", "many", "one"])::(39,["right", "word", "begin", "end", "counts", "reach", "symbol", "later", "spot", "goal", "many"])::(40,["grammar", "word", "order", "counts", "length", "begin", "symbol", "many", "rule"])::(41,["grammar", "right", "word", "begin", "end", "trees", "most", "reach", "symbol", "later", "spot", "ends", "name", "goal", "some", "row", "ahead", "one"])::(42,["grammar", "word", "most", "order", "trees", "length", "begin", "symbol", "found", "rule", "right", "row"])::(43,["grammar", "right", "length", "words", "reach", "symbol", "later", "ahead", "left", "longer", "many", "some", "word"])::(44,["grammar", "length", "most", "order", "words", "many", "symbol", "found", "rule", "some", "word", "start"])::(45,["grammar", "length", "some", "word", "one", "other"])::(46,["script", "number", "cell"])::(47,["pen", "many", "digit"])::(48,["pen", "later", "found", "turn", "some"])::(49,["pen", "found", "left", "later", "turn", "right"])::(50,["pairs", "length", "found", "line", "lefts", "left", "right", "ahead", "rest", "name"])::(51,["node", "part", "name"])::(52,["script", "pen", "pairs", "grammar", "words", "length", "word", "plain", "left", "right", "due", "turn", "name", "some", "other", "heard", "one", "several", "found", "names", "terminal"])::[]
def Jd:List ((Nat×Fn)×(Nat×List Str)):=Ud.zip ftN
abbrev KX:Type:=Arguments×(FuncBody×List (Str×NameKind))
def JI(s:Stmt):List KX:= @Stmt.casesOn (λU=>List KX) s (λU M b U U U O U U U=>[(M,(.stmts b,O.names))]) (λU U U U U U U U U U=>[]) (λU U U U U U U U U U U=>[]) (λU U=>[]) (λU U=>[]) (λU U U=>[]) (λU U U U U U U=>[]) (λU U U U=>[]) (λU U U U U=>[]) (λU U U U U=>[]) (λU U U U U=>[]) (λU U U U=>[]) (λU U U U=>[]) (λU U U=>[]) (λU U U=>[]) (λU U U=>[]) (λU U U=>[]) (λU U U U U=>[]) (λU U U U U=>[]) (λU U U=>[]) (λU U=>[]) (λU U U U=>[]) (λU U=>[]) (λU U=>[]) (λU U=>[]) (λU=>[]) (λU=>[]) (λU=>[])
def RT(s:Stmt):List KX:= @Stmt.casesOn (λU=>List KX) s (λU U U U U U U U U U=>JI s) (λU U U U U U U U U U=>[]) (λU U U b U U U U U U U=>b.flatMap JI) (λU U=>[]) (λU U=>[]) (λU U U=>[]) (λU U U U U U U=>[]) (λU U U U=>[]) (λU U U U U=>[]) (λU U U U U=>[]) (λU U U U U=>[]) (λU U U U=>[]) (λU U U U=>[]) (λU U U=>[]) (λU U U=>[]) (λU U U=>[]) (λU U U=>[]) (λU U U U U=>[]) (λU U U U U=>[]) (λU U U=>[]) (λU U=>[]) (λU U U U=>[]) (λU U=>[]) (λU U=>[]) (λU U=>[]) (λU=>[]) (λU=>[]) (λU=>[])
def MZ:List KX:=pL.main.body.flatMap RT
noncomputable def VT(d:Data):Option FuncData:= @Data.casesOn (λU=>Option FuncData) d none (λU=>none) (λU U=>none) (λU U=>none) (λU U U=>none) (λU U=>none) (λU=>none) some (λU=>none) (λU=>none) none
def Nf(h:VT d=some q):d=.func q:=by induction d<;>first|exact eg h|exact jn (ak h) Y
noncomputable def VU(d:Data):Option (Array Value):= @Data.casesOn (λU=>Option<|Array Value) d none (λU=>none) (λU U=>none) (λU U=>none) (λU U U=>none) (λU U=>none) (λU=>none) (λU=>none) (λU=>none) some none
def Ng(h:VU d=some q):d=.fields q:=by induction d<;>first|exact eg h|exact jn (ak h) Y
def fdOf(K:Frag)(a:Nat):Option FuncData:=(K.lookup a).bind λo=>VT o.data
def MQ(e:fdOf K a=some fd):∃o,K.lookup a=some o/\o.data=.func fd:=
 (Option.bind_eq_some_iff.mp e).imp λU h=>⟨h.1,Nf h.2⟩
def HR(K:Frag)(a:Nat):Option KX:=(fdOf K a).map λfd=>(fd.params,(fd.body,fd.scope.names))
def ZI(K:Frag)(fd:FuncData):Bool:=(K.lookup<|EG fd.code).any λo=>decide (fd.code=.ref (EG fd.code))&&(VU o.data).any λU=>U[1]?.any λv=>decide<|v=.str fd.qualname (K5 v)
def R6(h:ZI K fd=true):∃c O U t,fd.code=.ref c/\K.lookup c=some O/\O.data=.fields U/\U[1]? =some (.str fd.qualname t):=
 (wg h).elim λo h=>(wg (a8 h.2).2).elim λU k=>(wg k.2).elim λv q=>⟨_,o,U,_,aB (a8 h.2).1,h.1,Ng k.1,q.1.trans<|congrArg some<|aB q.2⟩
def JC(K:Frag)(v:Value):Option (List Value):=if v=.none then some [] else if v=.ref (EG v)then(K.lookup<|EG v).bind λo=>(Nd o.data).map λq=>q.1.toList else none
def MY(e:JC K v=some O)(S:Setting):(peek K S<|seqItems? v).map (λx=>(x.getD #[]).toList)=some O:=by
 unfold JC at e;by_cases c:v=.none
 .replace e:=(au c)▸e;exact J c e
 .rw [az c] at e;by_cases h:v=.ref (EG v)
  .rw [au h] at e;refine(Option.bind_eq_some_iff.mp e).elim λo k=>(Option.map_eq_some_iff.mp k.2).elim λq m=>J h<|jn m.2 ?_;obtain⟨cl,M,N,sl⟩:=o
   have U:peek K S (load<|EG v)=some ⟨cl,M,.seq q.1 q.2,sl⟩:=by unfold load peek;exact J k.1<|J (show N=.seq q.1 q.2 from Eo m.1) Y
   exact J (se U) Y
  .rw [az h] at e;exact eg e
noncomputable def Zs:ScopeKind->Bool
 | .function=>true
 |_=>false
def ZD(K:Frag)(fd:FuncData)(F:Fn):Bool:= !fd.scope.isCoroutine&&(!fd.scope.isGenerator&&(Zs fd.scope.kind&&(fd.closure.isEmpty&&(Nat.beq fd.globals mainGlobals&&(Nat.beq fd.builtins builtinsNs&&(ZI K fd&&(match JC K fd.defaults with
 |some U=>Gn F.dflt U
 |none=>false)))))))
def WX(K:Frag)(x:(Nat×Fn)×(Nat×List Str)):Bool:=match fdOf K x.1.1 with
 |some fd=>ZD K fd x.1.2
 |none=>false
def B6{U:Type}{l:List U}(h:l.isEmpty=true):l=[]:=List.isEmpty_iff.mp h
noncomputable def Zj(U:Arguments):Bool:=U.posonlyargs.isEmpty&&(U.vararg.isNone&&(U.kwonlyargs.isEmpty&&U.kwarg.isNone))
def Qa(h:Zj U=true):U=⟨[],U.args,none,[],U.kw_defaults,none,U.defaults⟩:=by obtain⟨a,b,c,d,e,f,g⟩:=U;exact bV (show a=[] from B6 (a8 h).1) (show c=none from Option.isNone_iff_eq_none.mp (a8 (a8 h).2).1)<|bV (show d=[] from B6 (a8 (a8 (a8 h).2).2).1) (show f=none from Option.isNone_iff_eq_none.mp (a8 (a8 (a8 h).2).2).2) Y
noncomputable def XE(b:FuncBody):Bool:= @FuncBody.casesOn (λU=>Bool) b (λU=>true) λU=>false
def WT(F:Fn)(nm:List Str)(x:Option KX):Bool:=x.any λq=>(Zj q.1&&XE q.2.1)&&(decide (q.1.args.map (·.arg)=nm.take F.params)&&(decide nm.Nodup&&(Nat.ble F.dflt.length F.params&&(Nat.ble F.params F.slots&&(Nat.beq nm.length F.slots&&(namesOk nm F.params q.2.2&&decide (q.2.2.map (·.1)).Nodup))))))
def Zx(K:Frag):Bool:=EN K&&(Vt K&&Jd.all (WX K))
section
variable(C:Cx)(K:Frag)(Φ:Fs)(n:Nat)(G:Gl C K)(mN:nQ C Φ n)(hB:xK C)(hT:EB K)
def YF(F:Fn)(nm:List Str):Option KX->Bool
 |some (_,(.stmts b,names))=>Option.isSome<|R4 (B:=⟨C,Φ,nm,n⟩) NN names (List.range nm.length) (WB.mk G mN hB hT) F.body b
 |_=>false
end
structure ShP(F:Fn)(nm:List Str)(ps:Arguments)(b:FuncBody)(names:List (Str×NameKind)):Prop where
 st:XE b=true
 ps:∃as kd ds,ps=⟨[],as,none,[],kd,none,ds⟩/\as.map (·.arg)=nm.take F.params
 fW:nm.Nodup
 dl:F.dflt.length<=F.params
 par:F.params<=F.slots
 len:nm.length=F.slots
 cK:namesOk nm F.params names=true
 names:(names.map (·.1)).Nodup
def PS(h:WT F nm (some (U,(b,names)))=true):ShP F nm U b names:=
 ⟨(a8 (a8 h).1).2,⟨_,_,_,Qa (a8 (a8 h).1).1,aB (a8 (a8 h).2).1⟩,aB (a8 (a8 (a8 h).2).2).1,bC (a8 (a8 (a8 (a8 h).2).2).2).1,bC (a8 (a8 (a8 (a8 (a8 h).2).2).2).2).1,eN (a8 (a8 (a8 (a8 (a8 (a8 h).2).2).2).2).2).1,(a8 (a8 (a8 (a8 (a8 (a8 (a8 h).2).2).2).2).2).2).1,aB (a8 (a8 (a8 (a8 (a8 (a8 (a8 h).2).2).2).2).2).2).2⟩
def Qf{b:Bool}(h:(!b)=true):b=false:=by induction b<;>first|rfl|exact nb h
def QM(h:Zs k=true):k=.function:=by induction k<;>first|rfl|exact nb h
structure FdP(K:Frag)(fd:FuncData)(F:Fn)(dv:List Value):Prop where
 co:fd.scope.isCoroutine=false
 gen:fd.scope.isGenerator=false
 kind:fd.scope.kind=.function
 VY:fd.closure=[]
 glob:fd.globals=mainGlobals
 blt:fd.builtins=builtinsNs
 code:∃c oc vs t,fd.code=.ref c/\K.lookup c=some oc/\oc.data=.fields vs/\vs[1]? =some (.str fd.qualname t)
 dva:JC K fd.defaults=some dv
 Xa:Gn F.dflt dv=true
def Rn(h:ZD K fd F=true):∃O,FdP K fd F O:=by
 have U:=a8 (a8 (a8 (a8 (a8 (a8 (a8 h).2).2).2).2).2).2;induction e:JC K fd.defaults with
 |none=>exact nb (e▸U).2
 |some O=>rw [e] at U;exact⟨O,Qf (a8 h).1,Qf (a8 (a8 h).2).1,QM (a8 (a8 (a8 h).2).2).1,B6 (a8 (a8 (a8 (a8 h).2).2).2).1,eN (a8 (a8 (a8 (a8 (a8 h).2).2).2).2).1,eN (a8 (a8 (a8 (a8 (a8 (a8 h).2).2).2).2).2).1,R6 U.1,e,U.2⟩
def VA(O:WX K x=true)(X:HR K x.1.1=MZ[x.2.1]?)(M:WT x.1.2 x.2.2 MZ[x.2.1]? =true)(U:∀Φ n H,YF C K Φ n G H P L x.1.2 x.2.2 MZ[x.2.1]? =true):
  ∃o fd nm body Q,NK C K NN x.1.1 x.1.2 o fd nm body Q:=by
 obtain⟨⟨a,F⟩,i,nm⟩:=x;dsimp only at O X M U⊢;rw [<-X] at M U;unfold WX at O;dsimp only at O;unfold HR at M U;induction e:fdOf K a with
 |none=>simp only [e] at O;exact nb O
 |some fd=>
  rw [e] at O M U;refine(MQ e).elim λo j=>j.elim λlook data=>?_;obtain⟨Q,D⟩:=Rn O;have Sh:=PS M;obtain⟨f,v,y,w,en⟩:=Sh.ps;have U:∀Φ n H,YF C K Φ n G H P L F nm (fd.params,(fd.body,fd.scope.names))=true:=U;induction eb:fd.body with
  |expr b=>exact nb (eb▸Sh.st:XE (.expr b)=true)
  |stmts body=>replace U:=eb▸U;have lt:(nm.take F.params).length=F.params:=J cL<|J Sh.len<|cj Sh.par;have dl:=J6 D.Xa;refine⟨o,fd,nm,body,Q,look,data,D.co,D.gen,D.kind,D.VY,D.glob,D.blt,eb,D.code,Sh.len,Sh.fW,Sh.par,(uX Sh.cK).1,(uX Sh.cK).2,Sh.names,dl,λN N N N=>Ez D.Xa,λq A B S=>?_,PY (G:=G) (hB:=P) (hT:=L) U⟩;have h:=Nu w en (Sh.fW.sublist<|eK ..) S (MY D.dva S) (J lt A) (by exact bV lt dl B)<|bV lt dl Sh.dl;replace h:=lt▸h;exact h
end
section
open PySem.W.Fast
set_option maxRecDepth 100000
def VZ(C:Cx)(K:Frag)(Φ:Fs)(n:Nat)(G:Gl C K)(U:nQ C Φ n)(M:xK C)(O:EB K):Jd.all (λx=>YF C K Φ n G U M O x.1.2 x.2.2 MZ[x.2.1]?)=true:=by kernel_rfl
def Uz:Jd.all (λx=>WT x.1.2 x.2.2 MZ[x.2.1]?)=true:=by kernel_rfl
end
section
open PySem.W.Fast
set_option maxRecDepth 100000
def qL:Program:={pL with main:={pL.main with body:=pL.main.body.drop 43}}
def Va:List Str:=(pL.main.scope.names.map (·.1)).filter fun x=> !(x==("law" :Str))
def YX(s:Shared):Bool×List (Option KX):=(Zx<|fragOf s.heap,Jd.map λx=>HR (fragOf s.heap) x.1.1)
def YY(_:World):Bool×List (Option KX):=(true,Jd.map λx=>MZ[x.2.1]?)
def XS(w:World)(os:OsState):(G6 (tw11892475500146522536 tw14364793385576792824) tw6613529449190102663 tw10156331382660048174 pL w 11 (some<|.ref 6) 3300 (JZ w.params os)<|topStub pL).map (λs=>(Ha staticsOk tw5923862056798008813 pL (boot_heap w.params) s.abs,tw4187177175401517315 qL Va (tw5923862056798008813 pL.main.body) (λU=>true) true s.abs,YX s.abs))=some (true,openGood qL Va,YY w):=by kernel_rfl
def Vf(O:Nat.ble 3300 N=true):LeftO pL qL Va (λU=>true) YX YY N:=
 QD Y (Nat.ble_eq_true_of_le<|aa (bC Y)<|bC O) (λU=>rfl) O (λU U=>by kernel_rfl) (λU=>by kernel_rfl) λw os=>wo te10156331382660048174 te11892475500146522536 te14364793385576792824<|wo te6613529449190102663 te4187177175401517315 te5923862056798008813<|XS w os
end
section
open PySem.W.Fast
set_option maxRecDepth 100000
noncomputable abbrev KJ:OpenLaw:=PySem.Challenge.rw_sf0020_01
def Yh:WShape.hasItems [] U .int=true->∃O:List Int,U=O.map .int:=U.rec (λD=>⟨[],Y⟩) λx U M h=>(hasW_int (a8 h).1).elim λi e=>(M (a8 h).2).elim λO N=>⟨i::O,by simp only [e,N];rfl⟩
def I8(h:WShape.hasAll [] args [.list .int]=true):∃U:List Int,args=[.list (U.map .int)]:=
 (hasAllW_cons h).elim λd h=>h.elim λr h=>(hasW_list h.2.1).elim λM O=>(Yh O.2).elim λU e=>⟨U,by simp only [h.1,hasAllW_nil h.2.2,O.1,e]⟩
def IT{w:World}{g:Gh}{cl:Str->Option Addr}{h M:Heap}{U:List Int}:∀{vs:List Value} {as:List Addr},ReadsAllW [] cl h vs (U.map .int) as->eT w g M (U.map .int) vs:=by
 induction U with
 |nil=>exact λr=>(readsAllW_nil_inv r).1
 |cons i U O=>exact λr=>(readsAllW_cons_inv r).elim λv r=>r.elim λvs r=>r.elim λa r=>r.elim λb r=>⟨v,vs,r.1,(readsW_int_inv r.2.2.1).elim λt e=>⟨t,e.1⟩,O r.2.2.2⟩
def E8(U:List Int):gD (U.map .int)=true:=U.rec Y λO O M=>M
def YP(_:World)(h:Heap):Prop:=∃K:Frag,K.In h/\Zx K=true/\(Jd.map λx=>HR K x.1.1)=Jd.map λx=>MZ[x.2.1]?
def KZ{U O M:Type}[BEq U][LawfulBEq U]{a:U}{b:O}{l:List (U×O)}:∀{m:List M},l.length<=m.length->l.lookup a=some b->∃c,((a,b),c)∈l.zip m:=by
 induction l with
 |nil=>exact λD e=>eg e
 |cons p l N=>
  intro m h e;induction m with
  |nil=>exact absurd h<|gX _
  |cons c m=>
   rw [dA] at e;induction q:a==p.1 with
   |true=>rw [q] at e;exact⟨c,J (beq_iff_eq.mp q)<|jn (ak e)<|.head _⟩
   |false=>rw [q] at e;exact(N (gr h) e).elim λc h=>⟨c,.tail _ h⟩
def Q8(e:Bf f=some F):∃c,((f,F),c)∈Jd:=KZ (bC Y) e
noncomputable def g0(h:Heap):Gh:=⟨λa=>gV h a/\a≠1,[],0⟩
def XJ(h:Heap)(e:C.B=h):cH C (g0 h) [] h where
 base:=λa o q=>⟨jn e q,λn=>⟨⟨o,jn e q⟩,n⟩⟩
 one:=⟨λq=>q.2 Y,t9⟩
 live:=λU q=>q.1
 cells:=rfl
 lg:=λU m=>(t9 m).elim
 fW:=.nil
 iJ:=aS _
def Rh{K:Frag}(O:EN K=true)(h:Jd.all (WX K)=true)(M:(Jd.map λx=>HR K x.1.1)=Jd.map λx=>MZ[x.2.1]?)(G:Gl C K)(f:Nat)(F:Fn)(e:Bf f=some F):∃o fd nm body D,NK C K NN f F o fd nm body D:=by refine bQ (Q8 e) λc m=>?_;have N:∀Φ n U,_:=λΦ n U=>qC (VZ C K Φ n G U Sd<|Uc O) m;exact VA (qC h m) (List.map_inj_left.mp M ((f,F),c) m) (qC (p:=λx=>WT x.1.2 x.2.2 MZ[x.2.1]?) Uz m) N
def Iy(w:World)(U:Shared)(g:U.heap.Ns mainGlobals H)(b:U.heap.Ns builtinsNs L)(i:∀x:Str,x≠ "__name__" ->L x=bootBuiltins x)(lim:U.heap.NoLimit)(Yzq:YP w U.heap)(N:H "law" =some (.ref a))
  {ns:List Int} (p:ns.length<=64) (f:l≠1) (P:U.heap.get? l=(du vs 0)) (j:eT w (g0 U.heap) U.heap (ns.map .int) vs) {E:Value->Shared->Prop}
  (h:∀O,(∀b o,U.heap.get? b=some o->O.heap.get? b=some o)->O.os=U.os->O.gens=U.gens->Q (.bool true) O):wpAny (model pL w) callerA (PySem.call (.ref a) [.ref l]) Q E U:=
 Yzq.elim λK Yzq=>g.elim λo M=>M.elim λ_ M=>M.elim λ_ M=>(Mr (ro:=0) (λD=>iZ) p).elim λr e=>by
  have G:Gl ⟨pL,w,U.heap,⟨o,M.1⟩⟩ K:=Vu (a8 Yzq.2.1).1 (a8 (a8 Yzq.2.1).2).1 Yzq.1 ⟨H,g⟩ ⟨L,b,i⟩ lim;have X:=mg_of Yzq.1 g<|oD (a8<|jP (y:=("law" :Str)) (a8 (a8 Yzq.2.1).1).1 Y).1
  rw [N] at X;refine J (gw<|ak X) ?_;exact aY (qU (BG G (Rh (a8 Yzq.2.1).1 (a8 (a8 Yzq.2.1).2).2 Yzq.2.2 G) 301) (e.1.trans<|congrArg some e.2) ⟨bC Y,bC Y,Y⟩ (XJ _ Y) Y ⟨_,_,Y,⟨l,vs,0,Y,⟨⟨_,P⟩,f⟩,P,j,E8 ns⟩,Y⟩)
   (λv O q=>q.casesOn λM c B A=>J A<|h O (λb o e=>(c.base b o e).1) B.os B.gens) λD D q=>q.elim
end
section
open PySem.W.Fast
set_option maxRecDepth 100000
noncomputable def XY(b:Bool):Option WData:=match(match some (WData.bool b)with|some (.bool b)=>some (WData.bool !b)|_=>none)with
 |some (.bool false)=>some<|.bool false
 |some (.bool true)=>some<|.bool true
 |_=>none
def LR(b:Bool):XY b=some (.bool !b):=by cases b<;>rfl
def LP{U:List WData}(h:KJ.row.toRowW.pre.holds [] {args:=[.list U]}=true):U.length<=64:=by rw [holdsW_of_value (show KJ.row.toRowW.pre.value [] {args:=[.list U]}=some (.bool _)from LR (decide<|(63:Int)<(U.length:Int)))] at h;exact fp<|Int.ofNat_le.mp<|Int.not_lt.mp<|of_decide_eq_false<|Qf h
def EF{P:Params}{h:Heap}{v:Value}{d}(x:Well P h v d):(d.ctorIdx==4)=true->∃a vs,v=.ref a/\h.get? a=some (du vs 0):=
 x.casesOn nb (λU=>nb) (λU U=>nb) (λU U=>nb) (λU U=>nb) (λU U=>nb) (λU=>nb) (λo U U=>⟨_,_,Y,o⟩) (λU U=>nb) (λU U=>nb) (λU U U U=>nb) (λU U U U=>nb) (λU U U U=>nb)
def Iv{d:DefRec}{Q:List (Str×PySem.Expr)}(hd:d.name= "law"):WalkO qL Va (fun H H=>True) YP KJ.row.toRowW d Q fun f L=>PySem.call f L:=
 λw M O mg mb G Yzq a o pm cd doc dV kV ho hd' hcd hD D x args vals as U j N P X=>(I8 (pre_splitW U).1).elim λA e=>by
  rw [e] at U N P⊢;rw [hd] at D;refine(readsAllW_cons_inv N).elim λv r=>r.elim λL r=>r.elim λa1 r=>r.elim λb1 r=>?_;rw [r.1,(readsAllW_nil_inv r.2.2.2).1] at P⊢;refine(EF (wellAll_head P).1 Y).elim λl q=>q.elim λB q=>(readsW_list_open r.2.2.1).elim λi t=>t.elim λp t=>t.elim λc t=>t.elim λn t=>t.elim λai t=>?_;have el:i=l:=gw<|t.1.symm.trans q.1;replace t:=el▸t;have y:p.data=.seq B.toArray 0:=congrArg Obj.data<|ak<|t.2.1.symm.trans q.2;rw [q.1];refine Iy w O G.T.g G.T.b G.T.builtins G.T.nolimit Yzq D (l:=l) (vs:=B) (ns:=A) (by have:=LP (pre_splitW U).2;rw [ag] at this;exact this) (λz=>?_) q.2 (IT (cl:=classAt M.heap) (h:=O.heap) (as:=ai) ?_) λs' s h1 h2=>⟨.inl ⟨.bool true,.bool true,[],Y,λH=>rfl,.bool true,postW_of Y (congrArg (some<|WData.bool ·)<|same_self<|.bool true) rfl,λH=>⟨.nil,λH m=>nomatch m⟩⟩,OldK.of_keep s,h1,AllBare.of_eq<|h2.trans x⟩
  .have:=X l (by rw [r.2.1,t.2.2.2.2.2];exact .head _);exact nomatch (z▸this)
  .rw [t.2.2.2.1] at y;have h:=t.2.2.2.2.1;rw [(Data.seq.inj y).1] at h;exact h
def Fl:tw12908688711261696721 KJ.row.prog=true:=by delta tw12908688711261696721;exact look_both (look_both (by decide+kernel)<|by decide+kernel)<|by decide+kernel
def row_said:tw17960256430627541270 (tw2368527892694137696 KJ)=true:=by
 delta tw17960256430627541270 tw2436336058641802641;rw [show tw12908688711261696721 (tw2368527892694137696 KJ).prog=true from Fl]
 kernel_rfl
def Iw:KJ.wellSaid=true:=by
 rw [te9446332074065402090];delta tw9446332074065402090;rw [row_said]
 kernel_rfl
def dL:DefRec:=match recsOf qL with
 |d::_=>d
 |[]=>⟨"law",⟨[],[],none,[],[],none,[]⟩,[],⟨.function,[],false,false,[]⟩,default⟩
def Ms(O:KJ.row.wellSaid=true):KJ.row.Holds:=
 holds_open (r:=KJ.row) (q:=qL) (loose:=Va) (Xt:=λU=>true) (XP:=λU U=>True) (Yf:=YX) (Ya:=YY) (YP:=YP) (N:=3300) (d:=dL) (kwd:=[]) (Vf Y) (λw s e=>⟨_,FH _,congrArg Prod.fst e,congrArg Prod.snd e⟩) (λw h D Yzq M=>Yzq.elim λK Yzq=>⟨K,Yzq.1.keeps M,Yzq.2⟩)
  (λU U=>trivial) (λU U U U U=>trivial) (by kernel_rfl) (by kernel_rfl) (by kernel_rfl) (λU U=>recFacts_nil Y) Y O (by kernel_rfl) ⟨Y,Y,Y,Y,Y,by decide+kernel⟩ ⟨[.list [.int 3,.int 1]],by decide+kernel,by decide+kernel⟩ (Iv<|by kernel_rfl)
end
end
end Mine.Internal
end
theorem PySem.Challenge.cw_sf0020_01_holds : PySem.Challenge.rw_sf0020_01.Holds :=
 PySem.W.holds_law Mine.Internal.Iw Mine.Internal.Ms
