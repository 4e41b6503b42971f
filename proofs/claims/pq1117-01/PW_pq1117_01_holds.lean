import PyProof.Rows.All
import Wide.All
import OpenK.AllK
import Wide.FinOn
import Lean
import PySem.Challenge.RW_pq1117_01
set_option Elab.async false
set_option genInjectivity false
set_option genSizeOf false
set_option genCtorIdx false
set_option bootstrap.genMatcherCode false
set_option linter.all false
set_option maxRecDepth 100000
set_option maxHeartbeats 8000000
open PySem PySem.W PyProof.Rows PySem.Calls
namespace Mine
noncomputable abbrev j1:Nat:=0x68610c439076041
noncomputable abbrev j5:Nat:=0x8284108721d02041
noncomputable abbrev kc:Nat:=0xfa05900083e84804c80041
noncomputable abbrev ke:Nat:=0x8721d0284108721d02041
noncomputable abbrev kf:Nat:=0xcc0820066041
noncomputable abbrev kg:Nat:=0x82841082041
noncomputable abbrev kh:Nat:=0x10439077a1a18601c8a4410c439076041
noncomputable abbrev ki:Nat:=0x187230e6041
noncomputable abbrev kj:Nat:=0x8720d068610c439076041
noncomputable abbrev kl:Nat:=0x821c87bd05082206604108721d02041
noncomputable abbrev n5:Nat:=0x4800000001f61f1000000003ec1ad02041
noncomputable abbrev n6:Nat:=0x2400000000fb0f8800000001f60d6a041
noncomputable abbrev n7:Nat:=0x20660410082400000000fbd50821f1000000003ec1a066041
noncomputable abbrev n8:Nat:=0x1000000003e4522080412000000007dea8612000000007c87c400000000fb06a441
noncomputable abbrev n9:Nat:=0x6416440208502c84041104281675a01083e84804c80041
noncomputable abbrev ra:Nat:=0x80a1046481042381044140b30208f02c8b41d02041
noncomputable abbrev rb:Nat:=0x10e464d68102084b0208502c97448107fffc000364702088281660411e05916bfffc0003643ad02041
noncomputable abbrev rc:Nat:=0x305082134082140b26d1604128502c93b0208bfffc0003649ad0e0411e05916bfffc0003643ad02041
noncomputable abbrev tb:Nat:=0x1006400000000fbd5082418fdad1000000003ec83f74800000001f6116b5a06420d6a041
noncomputable abbrev tc:Nat:=0x104400000000fbd50c20c849ad0c42f6b4400000000fb18bdd2000000007d841ad6a041
noncomputable abbrev td:Nat:=0x506604106424d68a32000000007dea8410104400000000fbd5082317ba400000000fb0835a066041
noncomputable abbrev tf:Nat:=0x1000000003e4b220832126b4519000000003ef543080822000000007dea8612000000007c8c5ee9000000003ec20d6a441
abbrev bf:=@Int.mul_ediv_add_emod
abbrev bg:=@Option.some.inj
abbrev bB:=@PySem.wpAny_bind
abbrev bC:=@Int.le_antisymm
abbrev bD:=@Int.toNat_of_nonneg
abbrev bE:=@List.append_nil
abbrev bF:=@List.append_assoc
abbrev bG:=@List.mem_of_getElem?
abbrev bV:=@PySem.wpAny_pure
abbrev bW:=@Prod.mk.inj
abbrev bX:=@Int.emod_lt_of_pos
abbrev cP:=@PySem.Heap.get?_push_of_some
abbrev cQ:=@List.getElem?_eq_getElem
abbrev cS:=@List.mem_cons
abbrev cT:=@PySem.W.Fast.te14364793385576792824
noncomputable abbrev cU:=@List.casesOn
abbrev cW:=@List.length_append
abbrev dq:=@Int.emod_nonneg
abbrev dv:=@of_decide_eq_true
abbrev gC:=@congrArg
abbrev gD:=@decide_eq_false
abbrev gE:=@PySem.W.Fast.te10110043849684766642
abbrev gG:=@of_decide_eq_false
abbrev gH:=@Nat.le_antisymm
abbrev gI:=@List.length_map
abbrev ik:=@List.map_cons
noncomputable abbrev il:=@Option.casesOn
abbrev im:=@List.getElem?_eq_some_iff
abbrev jG:=@Classical.byContradiction
abbrev jH:=@List.nodup_cons
abbrev jJ:=@List.map_append
abbrev jK:=@List.length_cons
abbrev jL:=@decide_eq_true
noncomputable abbrev jM:=@Bool.casesOn
abbrev jN:=@PySem.wpAny_of_eq
abbrev jO:=@Int.le_max_left
abbrev jP:=@PySem.wpAny_specialOf
abbrev jQ:=@PySem.Heap.get?_push_size
abbrev jR:=@PySem.builtinLookup_eq_fast
noncomputable abbrev jS:=@PySem.Expr.casesOn
abbrev jT:=@Nat.sub_add_cancel
abbrev jU:=@if_neg
abbrev jV:=@List.mem_singleton
abbrev lW:=@if_pos
abbrev lX:=@Int.le_max_right
abbrev lY:=@Int.natCast_nonneg
abbrev lZ:=@List.mem_append
abbrev mi:=@Nat.le_trans
abbrev mj:=@List.mem_map_of_mem
abbrev or:=@PySem.typeLookup_type
abbrev oU:=@Nat.le_refl
abbrev oV:=@List.getElem?_map
abbrev oW:=@Nat.eq_of_beq_eq_true
abbrev oX:=@Nat.le_of_ble_eq_true
abbrev oY:=@List.getElem?_append_right
abbrev oZ:=@Bool.and_eq_true
abbrev o8:=@List.mem_append_left
abbrev o9:=@List.getElem?_eq_none_iff
abbrev pc:=@Int.add_zero
abbrev pd:=@Option.map_eq_some_iff
abbrev pe:=@List.mem_map
abbrev pf:=@Option.isSome_iff_exists
abbrev pg:=@List.mem_cons_self
abbrev ph:=@List.mem_of_mem_drop
abbrev pn:=@List.getElem?_append_left
abbrev pr:=@decide_eq_true_eq
abbrev pt:=@List.mem_cons_of_mem
abbrev pu:=@Nat.lt_irrefl
abbrev pv:=@Int.ofNat_lt
abbrev pz:=@PySem.Heap.lt_size
abbrev pB:=@PySem.wpAny_truthy_bool
abbrev pC:=@List.map_nil
abbrev pD:=@PySem.Around.under_of_weight
abbrev pE:=@congrFun
abbrev pF:=@List.getD_eq_getElem?_getD
abbrev pG:=@beq_eq_false_iff_ne
abbrev pH:=@List.replicate_zero
abbrev pI:=@PySem.sizeLine_eq
abbrev pJ:=@Bool.false_ne_true
abbrev pK:=@Int.zero_add
abbrev pL:=@Int.le_of_lt
abbrev pM:=@List.forall_mem_cons
abbrev pN:=@List.nodup_append
abbrev pO:=@PySem.wpAny_newObj_type
abbrev qc:=@PySem.wpAny_callSpecial?_slot
abbrev qd:=@PySem.W.piece_app
abbrev qe:=@PySem.W.segRun_of
abbrev qf:=@List.map_inj_left
abbrev qg:=@PySem.wpAny_load
abbrev qh:=@PySem.Heap.SameBut.update
abbrev qi:=@List.map_map
abbrev qj:=@PySem.wpAny_isInstance
abbrev qk:=@List.getElem_mem
abbrev qm:=@PySem.W.KBy.ite_no
abbrev qn:=@Bool.false_eq_true
abbrev qo:=@Decidable.byContradiction
abbrev qp:=@Int.max_eq_left
abbrev qq:=@Int.emod_eq_of_lt
abbrev qr:=@Nat.le_of_lt
abbrev qs:=@List.getElem?_set_ne
noncomputable abbrev qt:=@Nat.casesOn
abbrev qu:=@List.mem_of_mem_take
abbrev qw:=@Nat.add_le_add_right
abbrev qx:=@List.eq_of_mem_replicate
noncomputable abbrev qy:=@PySem.Value.casesOn
abbrev qz:=@List.replicate_succ
abbrev qA:=@Int.eq_ofNat_of_zero_le
abbrev qB:=@PySem.isSubtype_type
abbrev qC:=@PySem.wpAny_ite
abbrev qD:=@PySem.F.slot_tuple_hash
abbrev qE:=@List.length_take
abbrev qF:=@List.length_drop
abbrev qG:=@PySem.wpAny_field
abbrev qH:=@Nat.zero_le
abbrev qI:=@Nat.le_of_eq
abbrev qJ:=@Int.lt_trans
noncomputable abbrev qK:=@PySem.Flow.casesOn
abbrev qL:=@List.getElem?_set_self
abbrev qM:=@Option.map_eq_none_iff
abbrev qN:=@PySem.W.looks_pair
abbrev qO:=@List.forIn_cons
abbrev qP:=@List.mem_append_right
abbrev qQ:=@PySem.Heap.get?_update_self
abbrev qR:=@List.length_replicate
abbrev qS:=@Int.toNat_natCast
abbrev qT:=@List.foldl_append
abbrev qU:=@Nat.le_of_succ_le
abbrev qV:=@PySem.wpAny_rule
abbrev qW:=@Bool.and_eq_true_iff
abbrev qX:=@Int.natAbs_of_nonneg
abbrev qY:=@Nat.ble_eq
abbrev qZ:=@Int.max_eq_right
abbrev re:=@beq_self_eq_true
abbrev rh:=@List.all_eq_true
abbrev ri:=@List.mem_reverse
abbrev rj:=@Nat.sub_self
abbrev rk:=@PySem.entryFor_of_tree
abbrev rm:=@PySem.wpAny_call_entry
abbrev rn:=@List.take_length
abbrev rp:=@List.not_mem_nil
abbrev rq:=@Int.add_assoc
abbrev ru:=@List.any_cons
abbrev rx:=@Int.neg_one_mul
abbrev rz:=@List.zip_cons_cons
abbrev rA:=@Nat.lt_of_lt_of_le
abbrev rC:=@Int.le_refl
abbrev rD:=@PySem.bm_if_false
abbrev rE:=@PySem.wpAny_unpackItems_tuple
abbrev rF:=@List.length_eq_zero_iff
abbrev rG:=@List.reverse_cons
abbrev rH:=@PySem.Heap.size_push
abbrev rI:=@Nat.lt_succ_of_le
abbrev rJ:=@List.pairwise_reverse
abbrev rK:=@Int.not_lt
abbrev rM:=@beq_iff_eq
abbrev rO:=@decide_eq_decide
abbrev rP:=@Bool.not_true
abbrev rQ:=@Int.add_le_add_right
abbrev rR:=@Int.add_lt_add_right
abbrev rS:=@PySem.Sem.wp_mono
abbrev rT:=@Bool.or_eq_false_iff
abbrev rU:=@PySem.Around.under_plainId
abbrev rX:=@PySem.F.bm_called
abbrev rY:=@PySem.W.typeIs_bytes
abbrev rZ:=@Nat.pow_le_pow_right
abbrev se:=@List.reverse_reverse
abbrev sf:=@List.replicate_succ'
abbrev sh:=@List.find?_cons
abbrev sj:=@Bool.eq_iff_iff
abbrev su:=@List.foldl_cons
abbrev sv:=@List.mem_filter
abbrev sx:=@List.map_congr_left
abbrev sy:=@Int.mul_zero
abbrev sC:=@Int.le_trans
abbrev sD:=@Int.add_comm
abbrev sG:=@Int.sub_emod
abbrev sH:=@Nat.succ.inj
abbrev sI:=@Int.mul_nonneg
abbrev sJ:=@Array.forIn_toList
abbrev sK:=@Int.add_mul
abbrev sM:=@Int.mul_add
abbrev sN:=@Int.emod_add_emod
abbrev sO:=@PySem.wpAny_mkInt
abbrev sP:=@List.size_toArray
abbrev sQ:=@Nat.lt_of_succ_lt
abbrev sR:=@List.all_cons
abbrev sS:=@Nat.add_assoc
abbrev sU:=@List.map_fst_zip
abbrev sV:=@List.map_reverse
abbrev sW:=@List.cons_append
abbrev sX:=@List.any_eq_true
abbrev sY:=@Nat.min_le_right
abbrev s5:=@Int.ofNat_le
abbrev s7:=@bne_iff_ne
abbrev s8:=@Nat.mod_lt
abbrev s9:=@if_false
namespace Ar
inductive NT where
 |a (i:Nat)
 |k (n:Nat)
 |p (x y:NT)
 |l (n:Nat) (x:NT)
 |r (n:Nat) (x:NT)
inductive ZT where
 |a (i:Nat)
 |k (n:Nat)
 |p (x y:ZT)
 |l (n:Nat) (x:ZT)
 |r (n:Nat) (x:ZT)
 |s (x y:ZT)
 |g (x:ZT)
 |z (x:NT)
noncomputable def aN:List Nat->Nat->Nat
 |[],_=>0
 |x::_,0=>x
 |_::l,i+1=>aN l i
noncomputable def aZ:List Int->Nat->Int
 |[],_=>0
 |x::_,0=>x
 |_::l,i+1=>aZ l i
noncomputable def NT.d(N:List Nat):NT->Nat
 |.a i=>aN N i
 |.k n=>n
 |.p x y=>x.d N+y.d N
 |.l n x=>n*x.d N
 |.r n x=>x.d N*n
noncomputable def ZT.d(N:List Nat)(Z:List Int):ZT->Int
 |.a i=>aZ Z i
 |.k n=>(n:Int)
 |.p x y=>x.d N Z+y.d N Z
 |.l n x=>(n:Int)*x.d N Z
 |.r n x=>x.d N Z*(n:Int)
 |.s x y=>x.d N Z-y.d N Z
 |.g x=> - x.d N Z
 |.z x=>((x.d N:Nat):Int)
structure Af where
 c:Int
 n:List Int
 z:List Int
noncomputable def dN:List Int->List Nat->Int
 |[],_=>0
 |_,[]=>0
 |k::l,x::m=>k*x+dN l m
noncomputable def dZ:List Int->List Int->Int
 |[],_=>0
 |_,[]=>0
 |k::l,x::m=>k*x+dZ l m
noncomputable def Af.d(N:List Nat)(Z:List Int)(f:Af):Int:=f.c+dN f.n N+dZ f.z Z
noncomputable def SA:List Int->List Int->List Int
 |[],m=>m
 |x::l,[]=>x::l
 |x::l,y::m=>(x+y)::SA l m
noncomputable def sm(k:Int):List Int->List Int
 |[]=>[]
 |x::l=>(k*x)::sm k l
noncomputable def un:Nat->List Int
 |0=>[1]
 |i+1=>0::un i
noncomputable def Af.p(f g:Af):Af:=⟨f.c+g.c,SA f.n g.n,SA f.z g.z⟩
noncomputable def Af.m(k:Int)(f:Af):Af:=⟨k*f.c,sm k f.n,sm k f.z⟩
noncomputable def NT.f:NT->Af
 |.a i=>⟨0,un i,[]⟩
 |.k n=>⟨n,[],[]⟩
 |.p x y=>x.f.p y.f
 |.l n x=>x.f.m n
 |.r n x=>x.f.m n
noncomputable def ZT.f:ZT->Af
 |.a i=>⟨0,[],un i⟩
 |.k n=>⟨n,[],[]⟩
 |.p x y=>x.f.p y.f
 |.l n x=>x.f.m n
 |.r n x=>x.f.m n
 |.s x y=>x.f.p (y.f.m (-1))
 |.g x=>x.f.m (-1)
 |.z x=>x.f
theorem aC(l m:List Int)(N:List Nat):dN (SA l m) N=dN l N+dN m N:=by
 induction l generalizing m N with
 |nil=>exact(pK _).symm
 |cons x l ih=>cases N with
  |nil=>cases m<;>rfl
  |cons y N=>cases m with
   |nil=>exact(pc _).symm
   |cons z m=>show(x+z)*_+dN (SA l m) N=(x*_+dN l N)+(z*_+dN m N);rw[ih,sK,rq,rq,Int.add_left_comm (z*_)]
theorem ay(l m:List Int)(N:List Int):dZ (SA l m) N=dZ l N+dZ m N:=by
 induction l generalizing m N with
 |nil=>exact(pK _).symm
 |cons x l ih=>cases N with
  |nil=>cases m<;>rfl
  |cons y N=>cases m with
   |nil=>exact(pc _).symm
   |cons z m=>show(x+z)*_+dZ (SA l m) N=(x*_+dZ l N)+(z*_+dZ m N);rw[ih,sK,rq,rq,Int.add_left_comm (z*_)]
theorem aB(k:Int)(l:List Int)(N:List Nat):dN (sm k l) N=k*dN l N:=by
 induction l generalizing N with
 |nil=>exact(sy _).symm
 |cons x l ih=>cases N with
  |nil=>exact(sy _).symm
  |cons y N=>show k*x*_+dN (sm k l) N=k*(x*_+dN l N);rw[ih,sM,Int.mul_assoc]
theorem ax(k:Int)(l:List Int)(N:List Int):dZ (sm k l) N=k*dZ l N:=by
 induction l generalizing N with
 |nil=>exact(sy _).symm
 |cons x l ih=>cases N with
  |nil=>exact(sy _).symm
  |cons y N=>show k*x*_+dZ (sm k l) N=k*(x*_+dZ l N);rw[ih,sM,Int.mul_assoc]
theorem aA(i:Nat)(N:List Nat):dN (un i) N=aN N i:=by
 induction i generalizing N with
 |zero=>cases N with
  |nil=>rfl
  |cons x N=>show 1*_+0=_;rw[Int.one_mul,pc];rfl
 |succ i ih=>cases N with
  |nil=>rfl
  |cons x N=>show 0*_+dN (un i) N=_;rw[Int.zero_mul,pK,ih];rfl
theorem aw(i:Nat)(N:List Int):dZ (un i) N=aZ N i:=by
 induction i generalizing N with
 |zero=>cases N with
  |nil=>rfl
  |cons x N=>show 1*_+0=_;rw[Int.one_mul,pc];rfl
 |succ i ih=>cases N with
  |nil=>rfl
  |cons x N=>show 0*_+dZ (un i) N=_;rw[Int.zero_mul,pK,ih];rfl
theorem Af.d_p(f g:Af)(N:List Nat)(Z:List Int):(f.p g).d N Z=f.d N Z+g.d N Z:=by show f.c+g.c+dN (SA f.n g.n) N+dZ (SA f.z g.z) Z=f.c+dN f.n N+dZ f.z Z+(g.c+dN g.n N+dZ g.z Z);rw[aC,ay];ac_rfl
theorem Af.d_m(k:Int)(f:Af)(N:List Nat)(Z:List Int):(f.m k).d N Z=k*f.d N Z:=by show k*f.c+dN (sm k f.n) N+dZ (sm k f.z) Z=k*(f.c+dN f.n N+dZ f.z Z);rw[aB,ax,sM,sM]
theorem NT.f_d(N:List Nat)(Z:List Int):(t:NT)->t.f.d N Z=t.d N
 |.a i=>by show 0+dN (un i) N+0=_;rw[aA,pK,pc];rfl
 |.k n=>by show(n:Int)+0+0=_;rw[pc,pc];rfl
 |.p x y=>by show(x.f.p y.f).d N Z=_;rw[Af.d_p,NT.f_d N Z x,NT.f_d N Z y];rfl
 |.l n x=>by show(x.f.m n).d N Z=_;rw[Af.d_m,NT.f_d N Z x];rfl
 |.r n x=>by show(x.f.m n).d N Z=_;rw[Af.d_m,NT.f_d N Z x,Int.mul_comm];rfl
theorem ZT.f_d(N:List Nat)(Z:List Int):(t:ZT)->t.f.d N Z=t.d N Z
 |.a i=>by show 0+0+dZ (un i) Z=_;rw[aw,pK];exact pK _
 |.k n=>by show(n:Int)+0+0=_;rw[pc,pc];rfl
 |.p x y=>by show(x.f.p y.f).d N Z=_;rw[Af.d_p,ZT.f_d N Z x,ZT.f_d N Z y];rfl
 |.l n x=>by show(x.f.m n).d N Z=_;rw[Af.d_m,ZT.f_d N Z x];rfl
 |.r n x=>by show(x.f.m n).d N Z=_;rw[Af.d_m,ZT.f_d N Z x,Int.mul_comm];rfl
 |.s x y=>by show(x.f.p (y.f.m (-1))).d N Z=_;rw[Af.d_p,Af.d_m,ZT.f_d N Z x,ZT.f_d N Z y,rx];exact(Int.sub_eq_add_neg).symm
 |.g x=>by show(x.f.m (-1)).d N Z=_;rw[Af.d_m,ZT.f_d N Z x,rx];rfl
 |.z x=>NT.f_d N Z x
noncomputable def Tg:Nat->Nat->Nat×Nat
 |0,c=>(0,c)
 |i+1,c=>match Tg i (Nat.div c 32) with
  |(v,c')=>(Nat.add (Nat.mod c 32) (Nat.mul 32 v),c')
noncomputable def W5:Nat->Nat->NT×Nat
 |0,c=>(.k 0,c)
 |f+1,c=>bif Nat.ble (Nat.mod c 32) 24 then(.a (Nat.mod c 32),Nat.div c 32)
  else bif Nat.beq (Nat.mod c 32) 25 then(match Tg (Nat.mod (Nat.div c 32) 32) (Nat.div c 1024) with|(n,c)=>(.k n,c))
  else bif Nat.beq (Nat.mod c 32) 26 then(match W5 f (Nat.div c 32) with|(x,c)=>match W5 f c with|(y,c)=>(.p x y,c))
  else match Tg (Nat.mod (Nat.div c 32) 32) (Nat.div c 1024) with|(n,c')=>match W5 f c' with|(x,c'')=>bif Nat.beq (Nat.mod c 32) 27 then(.l n x,c'') else(.r n x,c'')
noncomputable def Tf:Nat->Nat->ZT×Nat
 |0,c=>(.k 0,c)
 |f+1,c=>bif Nat.ble (Nat.mod c 32) 24 then(.a (Nat.mod c 32),Nat.div c 32)
  else bif Nat.beq (Nat.mod c 32) 25 then(match Tg (Nat.mod (Nat.div c 32) 32) (Nat.div c 1024) with|(n,c)=>(.k n,c))
  else bif Nat.beq (Nat.mod c 32) 26 then(match Tf f (Nat.div c 32) with|(x,c)=>match Tf f c with|(y,c)=>(.p x y,c))
  else bif Nat.beq (Nat.mod c 32) 29 then(match Tf f (Nat.div c 32) with|(x,c)=>match Tf f c with|(y,c)=>(.s x y,c))
  else bif Nat.beq (Nat.mod c 32) 30 then(match Tf f (Nat.div c 32) with|(x,c)=>(.g x,c))
  else bif Nat.beq (Nat.mod c 32) 31 then(match W5 f (Nat.div c 32) with|(x,c)=>(.z x,c))
  else match Tg (Nat.mod (Nat.div c 32) 32) (Nat.div c 1024) with|(n,c')=>match Tf f c' with|(x,c'')=>bif Nat.beq (Nat.mod c 32) 27 then(.l n x,c'') else(.r n x,c'')
set_option genCtorIdx true in
inductive Kd where
 |le|lt|eq|nle|nlt
inductive Cs where
 |no
 |n (k:Kd) (l r:NT)
 |z (k:Kd) (l r:ZT)
noncomputable def kd(d:Nat):Kd:=match d with
 |0=>.le|1=>.lt|2=>.eq|3=>.nle|_=>.nlt
noncomputable def iB(c:Nat):Cs×Nat:=bif Nat.beq (Nat.mod c 16) 15 then(.no,Nat.div c 16) else bif Nat.ble (Nat.mod c 16) 7 then
  (match W5 30 (Nat.div c 16) with|(l,c')=>match W5 30 c' with|(r,c'')=>(.n (kd (Nat.mod c 8)) l r,c''))
 else(match Tf 30 (Nat.div c 16) with|(l,c')=>match Tf 30 c' with|(r,c'')=>(.z (kd (Nat.mod c 8)) l r,c''))
def kN(k:Kd)(a b:Nat):Prop:=match k with
 |.le=>a<=b|.lt=>a<b|.eq=>a=b|.nle=>¬a<=b|.nlt=>¬a<b
def kZ(k:Kd)(a b:Int):Prop:=match k with
 |.le=>a<=b|.lt=>a<b|.eq=>a=b|.nle=>¬a<=b|.nlt=>¬a<b
noncomputable def Cs.d(N:List Nat)(Z:List Int):Cs->Prop
 |.no=>False
 |.n k l r=>kN k (l.d N) (r.d N)
 |.z k l r=>kZ k (l.d N Z) (r.d N Z)
noncomputable def kF(k:Kd)(l r:Af):Af:=match k with
 |.le=>r.p (l.m (-1))
 |.lt=>(r.p (l.m (-1))).p ⟨-1,[],[]⟩
 |.eq=>r.p (l.m (-1))
 |.nle=>(l.p (r.m (-1))).p ⟨-1,[],[]⟩
 |.nlt=>l.p (r.m (-1))
noncomputable def ng:Kd->Kd
 |.le=>.nle|.lt=>.nlt|.eq=>.eq|.nle=>.le|.nlt=>.lt
noncomputable def kM(k:Kd)(m:Nat)(e:Bool):Int:=match k with
 |.eq=>bif e then -(m:Int) else m
 |_=>m
noncomputable def Cs.f(m:Nat)(e:Bool):Cs->Af
 |.no=>⟨0,[],[]⟩
 |.n k l r=>(kF k l.f r.f).m (kM k m e)
 |.z k l r=>(kF k l.f r.f).m (kM k m e)
noncomputable def Cs.g(m:Nat):Cs->Af
 |.no=>⟨0,[],[]⟩
 |.n k l r=>match k with
  |.eq=>⟨0,[],[]⟩
  |k=>(kF (ng k) l.f r.f).m m
 |.z k l r=>match k with
  |.eq=>⟨0,[],[]⟩
  |k=>(kF (ng k) l.f r.f).m m
noncomputable def cM(c:Nat):Nat:=(Tg (Nat.mod c 32) (Nat.div c 32)).1
noncomputable def cR(c:Nat):Cs:=(iB (Tg (Nat.mod c 32) (Nat.div c 32)).2).1
noncomputable def ch(c:Nat):Nat->Nat
 |0=>c
 |i+1=>(iB (Tg (Nat.mod (ch c i) 32) (Nat.div (ch c i) 32)).2).2
def GR(N:List Nat)(Z:List Int)(c i:Nat):Prop:=(cR (ch c i)).d N Z
noncomputable def hF(c:Nat):Af:=(cR c).f (Nat.div (cM c) 2) (Nat.beq (Nat.mod (cM c) 2) 1)
noncomputable def gF(c:Nat):Af:=(cR c).g (Nat.div (cM c) 2)
noncomputable def sF(c:Nat):Nat->Af
 |0=>gF (ch c 0)
 |i+1=>(sF c i).p (hF (ch c (i+1)))
noncomputable def n0:Int->Bool
 |.ofNat n=>Nat.beq n 0
 |.negSucc _=>true
noncomputable def gj:List Int->Bool
 |[]=>true
 |x::l=>n0 x&&gj l
noncomputable def z0:List Int->Bool
 |[]=>true
 |.ofNat n::l=>Nat.beq n 0&&z0 l
 |.negSucc _::_=>false
noncomputable def jq(f:Af):Bool:=(match f.c with
 |.ofNat _=>false
 |.negSucc _=>true)&&(gj f.n&&z0 f.z)
theorem z1(h:l<=r):0<=r+ -1*l:=by rw[rx];exact Int.sub_nonneg_of_le h
theorem z2(h:l<r):0<=r+ -1*l+(-1+0+0):=by rw[rx];exact Int.le_sub_one_of_lt (Int.sub_pos_of_lt h)
theorem z3(h:l=r):0=r+ -1*l:=by subst h;rw[rx];exact(Int.add_right_neg l).symm
theorem Zs{k:Kd}{l r:NT}{N:List Nat}{Z:List Int}(h:kN k (l.d N) (r.d N)):(0:Int)<=(kF k l.f r.f).d N Z/\(k=.eq->(0:Int)=(kF k l.f r.f).d N Z):=by
 have e:=l.f_d N Z;have e':=r.f_d N Z;cases k<;>simp only[kF,Af.d_p,Af.d_m,e,e',kN] at h⊢
 ·exact⟨z1 (s5.mpr h),nofun⟩
 ·exact⟨z2 (pv.mpr h),nofun⟩
 ·exact⟨z1 (s5.mpr (qI h)),λ_=>z3 (gC Int.ofNat h)⟩
 ·exact⟨z2 (pv.mpr (Nat.not_le.mp h)),nofun⟩
 ·exact⟨z1 (s5.mpr (Nat.not_lt.mp h)),nofun⟩
theorem Zr{k:Kd}{l r:ZT}{N:List Nat}{Z:List Int}(h:kZ k (l.d N Z) (r.d N Z)):(0:Int)<=(kF k l.f r.f).d N Z/\(k=.eq->(0:Int)=(kF k l.f r.f).d N Z):=by
 have e:=l.f_d N Z;have e':=r.f_d N Z;cases k<;>simp only[kF,Af.d_p,Af.d_m,e,e',kZ] at h⊢
 ·exact⟨z1 h,nofun⟩
 ·exact⟨z2 h,nofun⟩
 ·exact⟨z1 (Int.le_of_eq h),λ_=>z3 h⟩
 ·exact⟨z2 (Int.not_le.mp h),nofun⟩
 ·exact⟨z1 (rK.mp h),nofun⟩
theorem Zp(h:(0:Int)<=x/\(k=.eq->(0:Int)=x)):(0:Int)<=kM k m e*x:=by
 have p:(0:Int)<=(m:Int)*x:=sI (lY m) h.1;cases k
 ·exact p
 ·exact p
 ·rw[<-h.2 rfl,sy];exact rC _
 ·exact p
 ·exact p
theorem Cs.f_d{c:Cs}{m:Nat}{e:Bool}{N:List Nat}{Z:List Int}(h:c.d N Z):(0:Int)<=(c.f m e).d N Z:=by
 cases c
 ·cases h
 ·show(0:Int)<=(Af.m _ _).d N Z;rw[Af.d_m];exact Zp (Zs h)
 ·show(0:Int)<=(Af.m _ _).d N Z;rw[Af.d_m];exact Zp (Zr h)
theorem Cr{c i:Nat}{N:List Nat}{Z:List Int}(h:GR N Z c i):(0:Int)<=(hF (ch c i)).d N Z:=Cs.f_d h
theorem nF(e:k≠.eq)(h:kN (ng k) a b->False):kN k a b:=by
 cases k
 ·exact qo (p:=a<=b) h
 ·exact qo (p:=a<b) h
 ·exact(e rfl).elim
 ·exact h
 ·exact h
theorem ny(e:k≠.eq)(h:kZ (ng k) a b->False):kZ k a b:=by
 cases k
 ·exact qo (p:=a<=b) h
 ·exact qo (p:=a<b) h
 ·exact(e rfl).elim
 ·exact h
 ·exact h
theorem Cs.g_d{c:Cs}{m:Nat}{N:List Nat}{Z:List Int}(h:(0:Int)<=(c.g m).d N Z->False):c.d N Z:=by
 have nz:((0:Int)<=Af.d N Z ⟨0,[],[]⟩):=rC 0;have p:∀{x:Int},(0:Int)<=x->(0:Int)<=(m:Int)*x:=λh=>sI (lY m) h;cases c with
 |no=>exact(h nz).elim
 |n k l r=>
  have q:k≠.eq->(Cs.n k l r).g m=(kF (ng k) l.f r.f).m m:=by intro e;cases k<;>first|rfl|exact(e rfl).elim
  refine nF (λe=>?_) λh'=>?_
  ·subst e;exact h nz
  ·by_cases e:k=.eq
   ·subst e;exact h nz
   ·rw[q e,Af.d_m] at h;exact h (p (Zs h').1)
 |z k l r=>
  have q:k≠.eq->(Cs.z k l r).g m=(kF (ng k) l.f r.f).m m:=by intro e;cases k<;>first|rfl|exact(e rfl).elim
  refine ny (λe=>?_) λh'=>?_
  ·subst e;exact h nz
  ·by_cases e:k=.eq
   ·subst e;exact h nz
   ·rw[q e,Af.d_m] at h;exact h (p (Zr h').1)
theorem Zd(h:n0 x=true):x<=0:=by
 cases x with
 |ofNat n=>cases oW h;exact rC 0
 |negSucc n=>exact pL (Int.negSucc_lt_zero n)
theorem M2(h:(a&&b)=true):a=true/\b=true:=by cases a<;>cases b<;>first|exact⟨rfl,rfl⟩|cases h
theorem WG(h:gj l=true)(N:List Nat):dN l N<=0:=by
 induction l generalizing N with
 |nil=>exact rC 0
 |cons x l ih=>cases N with
  |nil=>exact rC 0
  |cons y N=>have q:=M2 h;exact Int.add_le_add (Int.mul_nonpos_of_nonpos_of_nonneg (Zd q.1) (lY y)) (ih q.2 N)
theorem Yc(h:z0 l=true)(N:List Int):dZ l N=0:=by
 induction l generalizing N with
 |nil=>rfl
 |cons x l ih=>cases N with
  |nil=>rfl
  |cons y N=>
   cases x with
   |ofNat n=>have q:=M2 h;cases oW q.1;show 0*y+dZ l N=0;rw[Int.zero_mul,ih q.2];rfl
   |negSucc n=>cases h
theorem HG{f:Af}{N:List Nat}{Z:List Int}(h:jq f=true)(p:(0:Int)<=f.d N Z):False:=by
 have q:=M2 h;have q':=M2 q.2;have c:f.c<0:=by
  have q1:=q.1;cases e:f.c with
  |ofNat n=>rw[e] at q1;cases q1
  |negSucc n=>exact Int.negSucc_lt_zero n
 have a:=WG q'.1 N;have b:=Yc q'.2 Z;have p':(0:Int)<=f.c+dN f.n N+dZ f.z Z:=p;rw[b,pc] at p';exact absurd (Int.lt_of_le_of_lt p' (Int.add_lt_add_of_lt_of_le c a)) (Int.lt_irrefl 0)
theorem pl{f g:Af}{N:List Nat}{Z:List Int}(h:(0:Int)<=f.d N Z)(h':(0:Int)<=g.d N Z):(0:Int)<=(f.p g).d N Z:=by rw[Af.d_p];exact Int.add_nonneg h h'
section
noncomputable def ck(c n:Nat):Bool:=jq (sF c n)
end
end Ar
section
open Ar
variable(N:List Nat)(Z:List Int)(c:Nat)
theorem L0 (ok:ck c 0=true:=by kernel_rfl):GR N Z c 0:=Cs.g_d λp=>HG ok (p)
theorem L1(h1:GR N Z c 1)(ok:ck c 1=true:=by kernel_rfl):GR N Z c 0:=Cs.g_d λp=>HG ok (pl p (Cr h1))
theorem L2(h1:GR N Z c 1)(h2:GR N Z c 2)(ok:ck c 2=true:=by kernel_rfl):GR N Z c 0:=Cs.g_d λp=>HG ok (pl (pl p (Cr h1)) (Cr h2))
theorem L3(h1:GR N Z c 1)(h2:GR N Z c 2)(h3:GR N Z c 3)(ok:ck c 3=true:=by kernel_rfl):GR N Z c 0:=Cs.g_d λp=>HG ok (pl (pl (pl p (Cr h1)) (Cr h2)) (Cr h3))
theorem L4(h1:GR N Z c 1)(h2:GR N Z c 2)(h3:GR N Z c 3)(h4:GR N Z c 4)(ok:ck c 4=true:=by kernel_rfl):GR N Z c 0:=Cs.g_d λp=>HG ok (pl (pl (pl (pl p (Cr h1)) (Cr h2)) (Cr h3)) (Cr h4))
theorem L5(h1:GR N Z c 1)(h2:GR N Z c 2)(h3:GR N Z c 3)(h4:GR N Z c 4)(h5:GR N Z c 5)(ok:ck c 5=true:=by kernel_rfl):GR N Z c 0:=Cs.g_d λp=>HG ok (pl (pl (pl (pl (pl p (Cr h1)) (Cr h2)) (Cr h3)) (Cr h4)) (Cr h5))
end
theorem DF(a b:Int){C:Prop}(h:a<=b->max a b=b->C)(k:b<=a->max a b=a->C):C:=(Int.le_total a b).elim (λq=>h q (qZ q)) λq=>k q (qp q)
theorem iT(a b:Nat){C:Prop}(h:a<=b->min a b=a->C)(k:b<=a->min a b=b->C):C:=(Nat.le_total a b).elim (λq=>h q (Nat.min_eq_left q)) λq=>k q (Nat.min_eq_right q)
theorem Fx(k:Int)(h:a=b+m*k):a%m=b%m:=by rw[h];exact Int.add_mul_emod_self_left b m k
theorem Fh(k:Int)(h:a=b+m*k)(h0:0<=b)(h1:b<m):a%m=b:=(Fx k h).trans (qq h0 h1)
theorem xO{α:Type _}{a:α}{C:Prop}(h:none=some a):C:=nomatch h
theorem Oo{α:Type _}{a:α}{C:Prop}(h:some a=none):C:=nomatch h
theorem xB{C:Prop}(h:false=true):C:=nomatch h
theorem Yk{C:Prop}(h:true=false):C:=nomatch h
theorem xL{α:Type _}{a:α}{l:List α}{C:Prop}(h:[]=a::l):C:=nomatch h
theorem ml{α:Type _}{a:α}{l:List α}{C:Prop}(h:a::l=[]):C:=nomatch h
theorem ip(h:b=false):(!b)=true:=by rw[h];rfl
theorem UB(h:b=true):(!b)=false:=by rw[h];rfl
theorem QT(z:Int)(h:0<m):0<=z%m/\z%m<m:=⟨dq z (Int.ne_of_gt h),bX z h⟩
theorem ot(z:Int){M:Nat}(h:0<M):∃n:Nat,z%M=n/\n<M:=by have b:=QT z (m:=M) (pv.mpr h);obtain⟨n,e⟩:=qA b.1;exact⟨n,e,pv.mp (e▸b.2)⟩
theorem iH{k:Int}(h0:0<=k)(h1:k<8):k=0\/k=1\/k=2\/k=3\/k=4\/k=5\/k=6\/k=7:=by
 have key:∀n:Nat,n<8->((n:Int)=0\/(n:Int)=1\/(n:Int)=2\/(n:Int)=3\/(n:Int)=4\/(n:Int)=5\/(n:Int)=6\/(n:Int)=7):=by decide
 obtain⟨n,rfl⟩:=qA h0;exact key n (pv.mp h1)
theorem MR(h: -m<=d)(h':d<0):d%m=d+m:=Fh (-1) (by rw[Int.mul_neg,Int.mul_one];exact(Int.add_neg_cancel_right d m).symm) (by have:=rQ h m;rwa[Int.add_left_neg] at this) (by have:=rR h' m;rwa[pK] at this)
theorem ZG{d:Int}(h:0<=d)(h':d<2147483648):d%4294967296/2147483648=0:=by rw[qq h (qJ h' (by decide))];exact Int.ediv_eq_zero_of_lt h h'
theorem ZH(h: -2147483648<=d)(h':d<0):d%4294967296/2147483648=1:=by rw[MR (sC (by decide) h) h',show d+4294967296=(d+2147483648)+2147483648*1 by rw[Int.mul_one,rq];rfl,Int.add_mul_ediv_left _ _ (by decide),Int.ediv_eq_zero_of_lt (by have:=rQ h 2147483648;exact this) (by have:=rR h' 2147483648;rwa[pK] at this)];rfl
theorem nG(a b:Int):max a b=a\/max a b=b:=(Int.le_total b a).elim (λh=>.inl (qp h)) λh=>.inr (qZ h)
theorem oH(x:Int):16*x/16=x:=Int.mul_ediv_cancel_left x (by decide)
theorem Wf(h:a%m=b%m)(h1: -m<a-b)(h2:a-b<m):a=b:=by
 have e:(a-b)%m=0:=Int.emod_eq_emod_iff_emod_sub_eq_zero.mp h;by_cases q:0<=a-b
 ·rw[qq q h2] at e;exact Int.sub_eq_zero.mp e
 ·rw[MR (pL h1) (Int.not_le.mp q)] at e;have:=rR h1 m;rw[Int.add_left_neg,e] at this;exact absurd this (Int.lt_irrefl 0)
theorem nJ{n:Nat}(h:n%4=0):4*((n:Int)/4)=n:=gC Int.ofNat (Nat.mul_div_cancel' (Nat.dvd_of_mod_eq_zero h))
theorem W3(hM:0<M)(t:Int):t/256%M*256+t%256=t%(M*256):=by
 have e1:=bf t 256;have e2:=bf (t/256) M;have b:=QT (t/256) hM;have u:=QT t (m:=256) (by decide);refine(Fh (t/256/M) ?_ (Int.add_nonneg (sI b.1 (by decide)) u.1) (Int.lt_of_lt_of_le (Int.add_lt_add_left u.2 _) ?_)).symm
 ·rw[Int.mul_right_comm M 256,Int.add_right_comm,<-sK,sD (t/256%M),e2,Int.mul_comm,e1]
 ·have:=Int.mul_le_mul_of_nonneg_right (Int.add_one_le_of_lt b.2) (show(0:Int)<=256 by decide);rwa[sK,Int.one_mul] at this
section
variable{w e:Int}
theorem w1(h0:0<=w)(h1:w<65536):max (max w 1) ((w+e-e)%4294967296)=max w 1:=by rw[Int.add_sub_cancel,qq h0 (qJ h1 (by decide))];exact qp (jO w 1)
theorem w2(h0:0<=w)(h1:w<65536):2147483648<=(e-1-(e+w)%4294967296)%4294967296:=by have a:e-1-(e+w)= -1-w:=bC (L0 [] [_,_] 0x10873ee841a08720ef6041) (L0 [] [_,_] 0xe821c87bd00439f76041);have b: -4294967296<= -1-w:=L1 [] [_] 0x800013209104010e7dd2000000007cfa041 h1;have c: -1-w<0:=L1 [] [_] 0x1981041900439f76441 h0;have d:2147483648<= -1-w+4294967296:=L1 [] [_] 0x1000026412209000000003e4010e7ddd0800000003e6041 h1;rw[sG,Int.emod_emod,<-sG,a,MR b c];exact d
theorem w3(h:w=0):((e+w)%4294967296+1)%4294967296=(e+max w 1)%4294967296:=by subst h;rw[pc,sN];rfl
theorem w4(h0:0<=w)(h:¬w=0):((e+w)%4294967296+0)%4294967296=(e+max w 1)%4294967296:=by rw[pc,Int.emod_emod,qp (show 1<=w from Int.add_one_le_of_lt ((Int.lt_or_eq_of_le h0).elim id λe=>absurd e.symm h))]
theorem w5(h0:0<=w)(h1:w<65536):(0+max w 1)%4294967296=max w 1:=by rw[pK];exact qq (sC h0 (jO w 1)) (Int.max_lt.mpr ⟨qJ h1 (by decide),by decide⟩)
theorem mq(h:¬w<3)(h6:w<6):w=3\/w=4\/w=5:=by
 have key:∀n:Nat,n<6->¬(n:Int)<3->((n:Int)=3\/(n:Int)=4\/(n:Int)=5):=by decide
 obtain⟨n,rfl⟩:=qA (sC (by decide) (rK.mp h));exact key n (pv.mp h6) h
end
abbrev WL:Value->Shared->Prop:=λ_ _=>False
noncomputable def NN(BW:Value):Code×Pos->Bool
  |(.builtin "bytearray.__contains__" ⟨v::_,_⟩,_)|(.builtin "bytearray.__mod__" ⟨v::_,_⟩,_)
  |(.builtin "bytearray.__rmod__" ⟨_::v::_,_⟩,_)|(.builtin "_struct.pack_into.held" ⟨v::_,_⟩,_)=>Builtin.Bytes.sameRef v BW
  |(.builtin "bytearray.find.held" ⟨_::_::held,_⟩,_)=>held.any (Builtin.Bytes.sameRef BW)
  |(.builtin id ⟨v::_,_⟩,_)=>Builtin.Bytes.sameRef v BW&&Builtin.Bytes.decodersThatHold.contains id
  |_=>false
theorem JS(BW:Value):Builtin.Bytes.exported BW=(do return (<-stack).any (NN BW)):=by kernel_rfl
def aX(c:Code):Prop:=∀BW p,NN BW (c,p)=false
theorem PI{id:String}{v:Value}{l:List Value}{kw:List (Str×Value)}(h:Builtin.Bytes.decodersThatHold.contains id=false)(e:∀BW p,NN BW (.builtin id ⟨v::l,kw⟩,p)=(Builtin.Bytes.sameRef v BW&&Builtin.Bytes.decodersThatHold.contains id)):aX (.builtin id ⟨v::l,kw⟩):=λBW p=>by rw[e,h,Bool.and_false]
def SH(Γ:Ctx):Prop:=aX Γ.code/\∀x∈Γ.below,∀BW,NN BW x=false
structure Aa{α:Type}(M:Model)(A:Around)(t:Sem α)(Q:α->Shared->Prop)(s:Shared):Prop where
 go:∀Γ p,Γ.In A->SH Γ->Sem.wp M Γ t (λa _ s'=>Q a s') (λ_ _ _=>False) p s
structure Ao(M:Model)(A:Around)(c:Code)(R:Flow->Shared->Prop)(s:Shared):Prop where
 go:∀Γ p,Γ.code=c->Γ.Below A->(∀x∈Γ.below,∀BW,NN BW x=false)->wpCode M Γ (λr s'=>match r with|.ok f=>R f s'|.error _=>False) p s
section
variable{α β:Type}{M:Model}{A:Around}{s:Shared}{env:Env}
theorem Aa.of{Q:α->Shared->Prop}(h:wpAny M A t Q WL s):Aa M A t Q s:=⟨λΓ p hΓ _=>h Γ p hΓ⟩
theorem Aa.mono{Q Q':α->Shared->Prop}(h:Aa M A t Q s)(hQ:∀a s,Q a s->Q' a s):Aa M A t Q' s:=⟨λΓ p hΓ hf=>rS M Γ t (λa _ s=>hQ a s) (λ_ _ _ h=>h) p s (h.go Γ p hΓ hf)⟩
theorem Aa.pure{Q:α->Shared->Prop}(h:Q a s):Aa M A (pure a) Q s:=Aa.of (bV h)
theorem Aa.bind{Q:β->Shared->Prop}(h:Aa M A m (λa s'=>Aa M A (f a) Q s') s):Aa M A (m>>=f) Q s:=⟨λΓ p hΓ hf=>by rw[Sem.wp_bind'];exact rS M Γ m (λa p' s' h'=>h'.go Γ p' hΓ hf) (λ_ _ _ h'=>h') p s (h.go Γ p hΓ hf)⟩
theorem Aa.at{Q:Unit->Shared->Prop}(h:Q () s):Aa M A (standAt pos) Q s:=Aa.of (wpAny_standAt h)
theorem Aa.holding{Q:α->Shared->Prop}(h:Aa M A m Q s):Aa M A (holding vs m) Q s:=⟨λΓ p hΓ hf=>by rw[Sem.wp_holding];exact h.go Γ p hΓ hf⟩
theorem Aa.keep{m:Sem α}{Q:α->Shared->Prop}(h:Aa M A m Q s):Aa M A (m.keep vs) Q s:=⟨λΓ p hΓ hf=>by rw[Sem.wp_keep];exact h.go Γ p hΓ hf⟩
theorem Aa.operate{Q:Value->Shared->Prop}(h:Aa M A m Q s):Aa M A (operate vs m) Q s:=⟨λΓ p hΓ hf=>by rw[Sem.wp_operate];exact h.go Γ p hΓ hf⟩
theorem Aa.onRaise{m:Sem α}{Q:α->Shared->Prop}(h:Aa M A m Q s):Aa M A (m.onRaise k) Q s:=⟨λΓ p hΓ hf=>by rw[Sem.wp_onRaise];exact rS M Γ m (λ_ _ _ h=>h) (λ_ _ _ h=>h.elim) p s (h.go Γ p hΓ hf)⟩
theorem Aa.ite{c:Prop}[Decidable c]{Q:α->Shared->Prop}(h1:c->Aa M A a Q s)(h2:¬c->Aa M A b Q s):Aa M A (if c then a else b) Q s:=by
 split
 ·exact h1 ‹_›
 ·exact h2 ‹_›
theorem SH.enter{Γ:Ctx}(h:SH Γ)(c:Code)(hd:Option Value)(p:Pos):∀x∈(Γ.enter c hd p).below,∀BW,NN BW x=false:=by
 intro x hx BW;rcases cS.mp hx with rfl|hx
 ·exact h.1 BW _
 ·exact h.2 x hx BW
theorem Aa.run{Q:Flow->Shared->Prop}(h:Ao M A c Q s):Aa M A (run c) Q s:=⟨λΓ p hΓ hf=>by rw[Sem.wp_run];refine wpCode_mono (λr s' q=>?_) (h.go (Γ.enter c none p) p rfl (by have:=hΓ.enter c none p (by intro x;exact xO x);exact this) (hf.enter c none p));induction r using Except.casesOn<;>exact q⟩
theorem Aa.runValue{Q:Value->Shared->Prop}(h:Ao M A c (λf s'=>match f with|.ret v=>Q v s'|_=>False) s):Aa M A (runValue c) Q s:=⟨λΓ p hΓ hf=>by rw[Sem.wp_runValue];refine wpCode_mono (λr s' q=>?_) (h.go (Γ.enter c none p) p rfl (by have:=hΓ.enter c none p (by intro x;exact xO x);exact this) (hf.enter c none p));rcases r with e|(v|_|_|_)<;>exact q⟩
theorem Aa.call{Q:Value->Shared->Prop}(h:Ao M A (.call f ⟨pos,kw⟩) (λf s'=>match f with|.ret v=>Q v s'|_=>False) s):Aa M A (call f pos kw) Q s:=Aa.runValue h
theorem Ao.mono{R R':Flow->Shared->Prop}(h:Ao M A c R s)(hR:∀f s,R f s->R' f s):Ao M A c R' s:=⟨λΓ p hc hΓ hf=>wpCode_mono (λr s' q=>by induction r using Except.casesOn with|ok f=>exact hR _ _ q|error e=>exact q) (h.go Γ p hc hΓ hf)⟩
theorem Ao.of{R:Flow->Shared->Prop}(h:codeAny M A c (λr s'=>match r with|.ok f=>R f s'|.error _=>False) s):Ao M A c R s:=⟨λΓ p hc hΓ _=>h Γ p hc hΓ⟩
theorem Ao.tree{R:Flow->Shared->Prop}(hd:aX c)
  (h:Aa M (A.under c) (M.den c) (λfin s'=>match fin with|.done f=>R f s'|.again c'=>c'.quiet=true/\Ao M A c' R s') s):Ao M A c R s:=⟨λΓ p hc hΓ hf=>by
  rw[wpCode_iff_wp,hc];refine rS M Γ _ (λfin p' s' h'=>?_) (λ_ _ _ h'=>h'.elim) p s (h.go Γ p (hc▸hΓ.in) ⟨hc▸hd,hf⟩);induction fin using PySem.Fin.casesOn with
  |done f=>exact h'
  |again c'=>exact⟨h'.1,h'.2.go (Γ.goto c') p' rfl (hΓ.goto c') hf⟩⟩
theorem Aa.BinOp{op l r pos}{Q:Value->Shared->Prop}(h:Aa M A (eval l env) (λa s₁=>Aa M A (eval r env) (λb s₂=>Aa M A (binaryOp op a b) Q s₂) s₁) s):Aa M A (eval (.BinOp l op r pos) env) Q s:=by rw[eval_BinOp];exact Aa.bind (h.mono λa s₁ h₁=>Aa.bind (Aa.holding (h₁.mono λb s₂ h₂=>Aa.bind (Aa.at (Aa.operate h₂)))))
theorem Aa.Compare1{op l r pos}{Q:Value->Shared->Prop}(h:Aa M A (eval l env) (λa s₁=>Aa M A (eval r env) (λb s₂=>Aa M A (compareOp op a b) Q s₂) s₁) s)
  (hm:behindInMarks op r=false):Aa M A (eval (.Compare l [op] [r] pos) env) Q s:=by
 rw[eval_Compare1];exact Aa.bind (h.mono λa s₁ h₁=>Aa.bind (Aa.holding (by rw[markedBehindIn_of_false hm];exact h₁.mono λb s₂ h₂=>Aa.bind (Aa.at (Aa.operate h₂)))))
theorem Aa.isTrue_value{e:Expr}{Q:Bool->Shared->Prop}(h:Aa M A CZ (λv s₁=>Aa M A (truthy v) Q s₁) s)
  (he:isTrue e env CZ=(do let v<-CZ;standAt e.pos;PySem.holding [v] (truthy v))):Aa M A (isTrue e env CZ) Q s:=by
 rw[he];exact Aa.bind (h.mono λv s₁ h₁=>Aa.bind (Aa.at (Aa.holding h₁)))
theorem Aa.isTrue_Compare1{op l r pos CZ}{Q:Bool->Shared->Prop}(h:Aa M A (eval l env) (λa s₁=>Aa M A (eval r env) (λb s₂=>Aa M A (compareOp op a b) (λc s₃=>Aa M A (truthy c) Q s₃) s₂) s₁) s)
  (hm:behindInMarks op r=false):Aa M A (isTrue (.Compare l [op] [r] pos) env CZ) Q s:=by
 rw[PySem.isTrue_Compare1];exact Aa.bind (h.mono λa s₁ h₁=>Aa.bind (Aa.holding (by rw[markedBehindIn_of_false hm];exact h₁.mono λb s₂ h₂=>Aa.bind (Aa.at (Aa.bind (Aa.operate (h₂.mono λc s₃ h₃=>Aa.holding h₃)))))))
theorem Aa.isTrue_Not{Q:Bool->Shared->Prop}(h:Aa M A (isTrue x env (eval x env)) (λb s₁=>Q (!b) s₁) s):Aa M A (isTrue (.UnaryOp .Not x pos) env CZ) Q s:=by rw[arm_isTrue_UnaryOp];exact Aa.bind (h.mono λb s₁ h₁=>Aa.pure h₁)
theorem Aa.allTrue_And{Q:Bool->Shared->Prop}(h:Aa M A (isTrue x env (eval x env)) (λb s₁=>if b then Aa M A (allTrue .And rest env) Q s₁ else Q false s₁) s):Aa M A (allTrue .And (x::rest) env) Q s:=by
 show Aa M A (do match BoolOp.And,<-isTrue x env (eval x env) with|.And,false=>Pure.pure false|.Or,true=>Pure.pure true|_,_=>allTrue .And rest env) Q s;refine Aa.bind (h.mono λb s₁ h₁=>?_);induction b using jM
 ·exact Aa.pure h₁
 ·exact h₁
theorem Aa.allTrue_Or{Q:Bool->Shared->Prop}(h:Aa M A (isTrue x env (eval x env)) (λb s₁=>if b then Q true s₁ else Aa M A (allTrue .Or rest env) Q s₁) s):Aa M A (allTrue .Or (x::rest) env) Q s:=by
 show Aa M A (do match BoolOp.Or,<-isTrue x env (eval x env) with|.And,false=>Pure.pure false|.Or,true=>Pure.pure true|_,_=>allTrue .Or rest env) Q s;refine Aa.bind (h.mono λb s₁ h₁=>?_);induction b using jM
 ·exact h₁
 ·exact Aa.pure h₁
theorem Aa.IfExp{Q:Value->Shared->Prop}(h:Aa M A (isTrue Cz env (eval Cz env)) (λb s₁=>if b then Aa M A (eval body env) Q s₁ else Aa M A (eval orelse env) Q s₁) s):
  Aa M A (eval (.IfExp Cz body orelse pos) env) Q s:=by
 rw[arm_eval_IfExp];refine Aa.bind (h.mono λb s₁ h₁=>?_);induction b using jM<;>exact h₁
theorem Aa.eUnary{Q:Value->Shared->Prop}(h:Aa M A (eval x env) (λv s₁=>Aa M A (unaryOp op v) Q s₁) s):Aa M A (eval (.UnaryOp op x pos) env) Q s:=by rw[arm_eval_UnaryOp];exact Aa.bind (h.mono λv s₁ h₁=>Aa.bind (Aa.at (Aa.holding h₁)))
theorem Aa.And2{Q:Value->Shared->Prop}(h:Aa M A (eval x env) (λv s₁=>Aa M A (truthy v) (λt s₂=>if t then Aa M A (eval y env) Q s₂ else Q v s₂) s₁) s):Aa M A (eval (.BoolOp .And [x,y] pos) env) Q s:=by
 show Aa M A (do let v<-eval x env;standAt pos;let t<-PySem.holding [v] (truthy v);match BoolOp.And,t with|.And,false|.Or,true=>Pure.pure v|_,_=>boolOp pos .And [eval y env]) Q s;refine Aa.bind (h.mono λv s₁ h₁=>Aa.bind (Aa.at (Aa.bind (Aa.holding (h₁.mono λt s₂ h₂=>?_)))));induction t using jM
 ·exact Aa.pure h₂
 ·exact h₂
theorem Aa.Or2{Q:Value->Shared->Prop}(h:Aa M A (eval x env) (λv s₁=>Aa M A (truthy v) (λt s₂=>if t then Q v s₂ else Aa M A (eval y env) Q s₂) s₁) s):Aa M A (eval (.BoolOp .Or [x,y] pos) env) Q s:=by
 show Aa M A (do let v<-eval x env;standAt pos;let t<-PySem.holding [v] (truthy v);match BoolOp.Or,t with|.And,false|.Or,true=>Pure.pure v|_,_=>boolOp pos .Or [eval y env]) Q s;refine Aa.bind (h.mono λv s₁ h₁=>Aa.bind (Aa.at (Aa.bind (Aa.holding (h₁.mono λt s₂ h₂=>?_)))));induction t using jM
 ·exact h₂
 ·exact Aa.pure h₂
theorem Aa.execs_cons{st rest}{Q:Flow->Shared->Prop}(h:Aa M A (exec st env) (λf s'=>match f with|.next=>Aa M A (execs rest env) Q s'|f=>Q f s') s):Aa M A (execs (st::rest) env) Q s:=by rw[PySem.execs_cons];refine Aa.bind (h.mono λf s' h'=>?_);induction f using qK<;>first|exact h'|exact Aa.pure h'
theorem Aa.If{Cz body orelse pos}{Q:Flow->Shared->Prop}(h:Aa M A (isTrue Cz env (eval Cz env)) (λb s₂=>if b then Aa M A (execs body env) Q s₂ else Aa M A (execs orelse env) Q s₂) s):Aa M A (exec (.If Cz body orelse pos) env) Q s:=by rw[exec_If];refine Aa.bind (Aa.at (Aa.bind (h.mono λb s₂ h₂=>?_)));induction b using jM<;>exact h₂
theorem Aa.Return{e pos}{Q:Flow->Shared->Prop}(h:Aa M A (eval e env) (λv=>Q (.ret v)) s):Aa M A (exec (.Return (some e) pos) env) Q s:=by rw[exec_Return_some];exact Aa.bind (Aa.at (Aa.bind (h.mono λv s₁ h₁=>Aa.pure h₁)))
theorem Aa.Assign_Name{x pos' value pos}{Q:Flow->Shared->Prop}(h:Aa M A (eval value env) (λv s₁=>Aa M A (storeName env x v) (λ_=>Q .next) s₁) s)
  (hs:swapsWith value (some (.Name x pos')) pos.line env=Pure.pure false):Aa M A (exec (.Assign [.Name x pos'] value pos) env) Q s:=by
 rw[exec_Assign_Name env x pos' value pos hs];refine Aa.bind (Aa.at (Aa.bind (h.mono λv s₁ h₁=>Aa.bind (Aa.at (Aa.bind ?_)))));refine⟨λΓ p hΓ hf=>?_⟩;rw[Sem.wp_bindName];exact(h₁.mono λ_ s₂ h₂=>Aa.pure h₂).go Γ p hΓ hf
theorem Aa.sExpr{e pos}{Q:Flow->Shared->Prop}(h:Aa M A (eval e env) (λv s'=>match v with|.ref _=>False|_=>Q .next s') s)
  (hi:interactive env=false) (hs:swapsWith e none pos.line env=Pure.pure false):Aa M A (exec (.Expr e pos) env) Q s:=by
 rw[exec_Expr env e pos hi hs];refine Aa.bind (Aa.at (Aa.bind (h.mono λv s' h'=>?_)));have hv:∀a,v≠.ref a:=λa kH=>by subst kH;exact h'
 rw[dropValue_plain hv];refine Aa.pure ?_;induction v using qy<;>first|exact h'|exact(hv _ rfl).elim
theorem Aa.eCall{Q:Value->Shared->Prop}(h:Aa M A (eval func env) (λf s₁=>Aa M A (callWith pos f [] (backTo pos (starEach args env)) []) Q s₁) s)
  (he:eval (.Call func args [] pos) env=(do callWith pos (<-eval func env) [] (backTo pos (starEach args env)) (backToKw pos (keywordEach [] env)))):Aa M A (eval (.Call func args [] pos) env) Q s:=by
 rw[he];exact Aa.bind h
theorem Aa.items_cons{Q:List Value->Shared->Prop}(h:Aa M A (eval e env) (λv s₁=>Aa M A (spliced (backTo pos (starEach rest env))) (λvs s₂=>Q (v::vs) s₂) s₁) s)
  (he:starEach (e::rest) env=(false,eval e env)::starEach rest env):Aa M A (spliced (backTo pos (starEach (e::rest) env))) Q s:=by
 rw[he];show Aa M A (do let v<-eval e env;let XR<-(Pure.pure [v]:Sem (List Value));return XR++(<-PySem.holding XR (spliced (backTo pos (starEach rest env))))) Q s;exact Aa.bind (h.mono λv s₁ h₁=>Aa.bind (Aa.pure (Aa.bind (Aa.holding (h₁.mono λvs s₂ h₂=>Aa.pure h₂)))))
theorem Aa.callWith{args:List (Bool×Sem Value)}{Q:Value->Shared->Prop}(KD:args.any (·.1)=false)(Ac:args.length<=30)
  (h:Aa M A (spliced args) (λvs s₁=>Aa M A (keeperOf f) (λ_ s₂=>Aa M A (PySem.call f (first++vs)) Q s₂) s₁) s):Aa M A (PySem.callWith pos f first args []) Q s:=by
 unfold PySem.callWith;have he:Aa M A (evalArgs f true args []) (λa s₁=>a.kw=[]/\Aa M A (keeperOf f) (λ_ s₂=>Aa M A (PySem.call f (first++a.pos)) Q s₂) s₁) s:=by
  induction args using cU with
  |nil=>unfold evalArgs;show Aa M A (spliced []>>=_) _ s;refine Aa.bind (h.mono λvs s' h'=>?_);refine Aa.holding ?_;exact Aa.bind (Aa.pure (Aa.bind (Aa.pure (Aa.pure ⟨rfl,h'⟩))))
  |cons a r=>
   obtain⟨b,t⟩:=a;have hb:b=false:=by rw[ru] at KD;exact(rT.mp KD).1
   subst hb;unfold evalArgs;show Aa M A (spliced ((false,t)::r)>>=_) _ s;refine Aa.bind (h.mono λvs s' h'=>?_);refine Aa.holding ?_;exact Aa.bind (Aa.pure (Aa.bind (Aa.pure (Aa.pure ⟨rfl,h'⟩))))
 refine Aa.bind (Aa.holding (he.mono λa s₁ h₁=>Aa.bind (Aa.at ?_)));obtain⟨hk,h₁⟩:=h₁;simp only[KD,List.any_nil,Bool.or_false,hk];refine Aa.bind (h₁.mono λk s₂ h₂=>?_);have tail:∀{t:Sem Value},Aa M A t Q s₂->Aa M A (t>>=λr=>PySem.holding [r] point>>=λ_=>Pure.pure r) Q s₂:=λht=>Aa.bind (ht.mono λr s₃ hr=>Aa.bind (Aa.holding (Aa.of (wpAny_point (Aa.pure hr)))))
 induction k using PySem.Keeper.casesOn with
 |frame=>dsimp only;rw[jU (by simp;exact Ac)];exact tail (Aa.keep h₂)
 |boundFrame=>dsimp only;rw[jU (by simp;exact Ac)];exact tail (Aa.keep h₂)
 |machine=>exact tail h₂
 |caller=>exact tail (Aa.operate h₂)
end
section
variable{prog:Program}{w:World}{A:Around}{s:Shared}
theorem Ao.func{body env}{R:Flow->Shared->Prop}(h:Aa (model prog w) (A.deeper env) (execs body env) (λf s'=>R (.ret (match f with|.ret v=>v|_=>.none)) s') s):Ao (model prog w) A (.func body env) R s:=by refine Ao.tree (λ_ _=>rfl) ?_;show Aa _ (A.deeper env) (do point;match<-(execs body env).onRaise (leaving env) with|.ret v=>ret v|_=>ret .none) _ s;refine Aa.bind (Aa.of (wpAny_point (Aa.bind (Aa.onRaise (h.mono λf s' h'=>?_)))));induction f using qK<;>exact Aa.pure h'
theorem Ao.def{R:Flow->Shared->Prop}{o:Obj}{fd:FuncData}{F2:List (Str×Value)}
  (Ox:A.depth<recursionLimit) (ho:s.heap.get? a=some o) (Oy:o.data=.func fd) (Up:s.heap.NoLimit) (cD:s.heap.CodeRec fd.code fd.qualname)
  (Ei:fd.body=.stmts body) (DM:BindsTo s fd args F2) (F1:∀x∈fd.scope.names,x.2≠.cell) (dk:∀x∈F2,fd.scope.names.lookup x.1=some .local)
  (cz:fd.scope.isCoroutine=false) (Uq:fd.scope.isGenerator=false) (hk:fd.scope.kind=.function)
  (h:∀h₀,h₀.Ns s.heap.objs.size (λx=>F2.reverse.lookup x)->(∀b o,s.heap.get? b=some o->h₀.get? b=some o)->Aa (model prog w) (A.deeper (callEnv fd s.heap.objs.size a)) (execs body (callEnv fd s.heap.objs.size a)) (λf s'=>R (.ret (match f with|.ret v=>v|_=>.none)) s') {s with heap:=h₀,toks:=s.toks+F2.length}):
  Ao (model prog w) A (.call (.ref a) args) R s:=by
 refine Ao.tree (λ_ _=>rfl) ?_;show Aa _ A.in1 (callAny (.ref a) args) _ s;obtain⟨c,oc,vs,tq,hc,hoc,hdc,hq⟩:=cD;unfold callAny;refine Aa.bind (Aa.of (qg ho ?_));simp only[Oy,callFunction,cz,Uq,Ei,hc];refine Aa.bind (m:=field (.ref c) 1) (Aa.of (qG hoc hdc hq (Aa.bind (Aa.pure ?_))));refine Aa.bind (Aa.of (DM _ _ _ _ (Aa.bind (Aa.of ?_))));have nf:=λ(Q:Env->Shared->Prop)=>@wpAny_newFunctionEnv (model prog w) A.in1 WL s fd.scope fd.globals fd.closure F2 (fd.qualname++".<locals>.") (some a) (.ref c) none fd.builtins Q F1 dk;refine nf _ (λh₀ dj XK=>?_) hk;refine Aa.bind (Aa.of (wpAny_enterFrame (Up.fresh _ XK) Ox (Aa.pure (And.intro rfl ?_))));have e:callEnv fd s.heap.objs.size a=newEnv fd.scope s.heap.objs.size fd.globals fd.closure (fd.qualname++".<locals>.") (some a) (.ref c) none fd.builtins:=by unfold callEnv;rw[hc]
 have h1:=h h₀ dj λb o e=>XK.extBut b o (Nat.ne_of_lt (pz e)) (cP _ e);rw[e] at h1;exact Ao.func h1
end
noncomputable abbrev prog:Program:=PySem.Challenge.pw_pq1117_01
set_option genInjectivity true in
set_option genCtorIdx true in
inductive V where
 |none
 |bool (b:Bool)
 |int (i:Int)
 |str (s:Str)
 |bytes (l:List Int)
 |tup (l:List V)
 |ref (i:Nat)
 |imm (v:Value)
inductive O where
 |list (l:List V)
 |sdict (ks:List (Str×V))
 |idict (ks:List (Int×V))
 |idictE (ks:List (Int×V)) (ep:Nat)
 |tdict (ks:List ((Int×List Int)×V))
 |inst (C:Addr) (fs:List (Str×V))
 |barr (l:List Int)
 |cell (v:Option V)
abbrev AH:=List (Addr×Addr)
def Bp(l:List Int)(b:Array UInt8):Prop:=l=b.toList.map λx=>(x.toNat:Int)
mutual
noncomputable def VR(ad:AH)(h:Heap):V->Value->Prop
 |.none,x=>x=.none
 |.bool b,x=>x=.bool b
 |.int i,x=>∃t,x=.int i t
 |.str s,x=>∃t,x=.str s t
 |.bytes l,x=>∃b t,x=.bytes b t/\Bp l b
 |.ref i,x=>∃p:Addr×Addr,ad[i]? =some p/\x=.ref p.1
 |.imm v,x=>x=v
 |.tup l,x=>∃a vs,x=.ref a/\h.IsTuple a vs.toArray/\Aj ad h l vs
noncomputable def Aj(ad:AH)(h:Heap):List V->List Value->Prop
 |[],vs=>vs=[]
 |v::l,vs=>∃x r,vs=x::r/\VR ad h v x/\Aj ad h l r
end
def AU(ad HL:AH):Prop:=∀(i:Nat)(p:Addr×Addr),ad[i]? =some p->HL[i]? =some p
theorem AU.app(ad Ag:AH):AU ad (ad++Ag):=λi p e=>by rw[pn (im.mp e).1];exact e
theorem AU.refl(ad:AH):AU ad ad:=λ_ _ e=>e
mutual
theorem VR.mono{ad HL:AH}{h h':Heap}(ha:AU ad HL)(ht:∀a vs,h.IsTuple a vs->h'.IsTuple a vs):∀(v:V)(x:Value),VR ad h v x->VR HL h' v x
 |.none,_,e|.bool _,_,e|.imm _,_,e|.int _,_,e|.str _,_,e|.bytes _,_,e=>by simpa only[VR] using e
 |.ref i,x,e=>by simp only[VR] at e⊢;obtain⟨p,h1,h2⟩:=e;exact⟨p,ha _ _ h1,h2⟩
 |.tup l,x,e=>by simp only[VR] at e⊢;obtain⟨a,vs,h1,h2,h3⟩:=e;exact⟨a,vs,h1,ht _ _ h2,Aj.mono ha ht l vs h3⟩
theorem Aj.mono{ad HL:AH}{h h':Heap}(ha:AU ad HL)(ht:∀a vs,h.IsTuple a vs->h'.IsTuple a vs):∀(v:List V)(x:List Value),Aj ad h v x->Aj HL h' v x
 |[],_,e=>by simpa only[Aj] using e
 |v::l,x,e=>by simp only[Aj] at e⊢;obtain⟨y,r,h1,h2,h3⟩:=e;exact⟨y,r,h1,VR.mono ha ht v y h2,Aj.mono ha ht l r h3⟩
end
noncomputable def Bl(ad:AH)(h:Heap):List (Str×V)->List DictEntry->Prop
 |[],es=>es=[]
 |f::r,es=>∃hs t x HK,es=⟨hs,.str f.1 t,x⟩::HK/\VR ad h f.2 x/\Bl ad h r HK
noncomputable def En(k:Int×List Int):Int:=reduceHash (Builtin.Tuple.tupleHashOf [hashInt k.1,reduceHash (Builtin.Tuple.tupleHashOf (k.2.map hashInt))])
def IsPair(h:Heap)(k:Int×List Int)(a:Addr):Prop:=∃t b vs,h.IsTuple a #[.int k.1 t,.ref b]/\h.IsTuple b vs.toArray/\IntsAre vs k.2
noncomputable def Bd:List Str:=(["data","link","kind","l4","off","place","meta"]:List Str)++(["number","original","reply","zone","until","since","mark","status","state","sides","master"]:List Str)++
 (["most","seed","tries","table","talks","last","trackers","expects","flows","is_loose"]:List Str)++(["end","maxend","maxwin","maxack","scale","is_scaled","is_sack","has_maxack","is_unacked","is_closing","is_liberal"]:List Str)++
 (["packet","now","hook","talk","is_reply","sets","objects","fields","readers","doers","ops","tools","order","log","replies","steps","homes"]:List Str)
def CR(R:V->Value->Prop):Option V->Option Value->Prop
 |none,x=>x=none
 |some v,x=>∃y,x=some y/\R v y
theorem CR.mono{R R':V->Value->Prop}(h:∀v x,R v x->R' v x):∀{v:Option V}{x:Option Value},CR R v x->CR R' v x
 |none,_,e=>e
 |some _,_,⟨y,e,r⟩=>⟨y,e,h _ _ r⟩
def OR(W:World)(ad:AH)(h:Heap):O->Addr×Addr->Prop
 |.list l,p=>p.2=p.1/\∃vs n,h.get? p.1=some {cls:=.type "list",data:=.seq vs.toArray n}/\Aj ad h l vs
 |.barr l,p=>p.2=p.1/\∃b,h.get? p.1=some {cls:=.type "bytearray",data:=.bytearray b 0}/\Bp l b
 |.cell v,p=>p.2=p.1/\∃x,h.get? p.1=some {cls:=.type "cell",data:=.cell x}/\CR (VR ad h) v x
 |.sdict ks,p=>p.2=p.1/\∃Ab,h.DictOf (strKind prog W) p.1 ((ks.map (·.1)).zip Ab)/\Aj ad h (ks.map (·.2)) Ab
 |.idict ks,p=>p.2=p.1/\∃Ab,h.DictOf (intKind prog W) p.1 ((ks.map (·.1)).zip Ab)/\Aj ad h (ks.map (·.2)) Ab
 |.idictE ks ep,p=>p.2=p.1/\∃Ab,h.DictAt (intKind prog W) p.1 ((ks.map (·.1)).zip Ab) ep/\Aj ad h (ks.map (·.2)) Ab
 |.tdict ks,p=>p.2=p.1/\∃xs:List ((Int×List Int)×Addr×Value),(∃o es ep,h.get? p.1=some o/\o.ExactDict/\o.data=.dict es ep/\es.toList=xs.map λx=>⟨En x.1,.ref x.2.1,x.2.2⟩)/\
   (∀x∈xs,IsPair h x.1 x.2.1)/\xs.map (·.1)=ks.map (·.1)/\(ks.map (·.1)).Nodup/\Aj ad h (ks.map (·.2)) (xs.map λx=>x.2.2)
 |.inst C fs,p=>((fs.map (·.1)).Nodup/\∀f∈fs,f.1∈Bd)/\h.get? p.1=some (instObj C p.2)/\∃Ej n,h.get? p.2=some (dictOf Ej n)/\Bl ad h fs Ej
theorem Bl.mono{ad HL:AH}{h h':Heap}(ha:AU ad HL)(ht:∀a vs,h.IsTuple a vs->h'.IsTuple a vs):∀(fs:List (Str×V))(es:List DictEntry),Bl ad h fs es->Bl HL h' fs es
 |[],_,e=>e
 |_::r,_,⟨hs,t,x,HK,e1,e2,e3⟩=>⟨hs,t,x,HK,e1,VR.mono ha ht _ _ e2,Bl.mono ha ht r HK e3⟩
theorem IsPair.mono{h h':Heap}(ht:∀a vs,h.IsTuple a vs->h'.IsTuple a vs)(x:IsPair h k a):IsPair h' k a:=let⟨t,b,vs,p,q,r⟩:=x;⟨t,b,vs,ht _ _ p,ht _ _ q,r⟩
theorem OR.mono{W:World}{ad HL:AH}{h h':Heap}(ha:AU ad HL)(ht:∀a vs,h.IsTuple a vs->h'.IsTuple a vs){o:O}{p:Addr×Addr}
  (h1:∀ob,h.get? p.1=some ob->h'.get? p.1=some ob) (h2:∀ob,h.get? p.2=some ob->h'.get? p.2=some ob) (x:OR W ad h o p):OR W HL h' o p:=by
 induction o using Mine.O.casesOn with
 |list l=>obtain⟨e,vs,n,g,r⟩:=x;exact⟨e,vs,n,h1 _ g,Aj.mono ha ht _ _ r⟩
 |barr l=>obtain⟨e,b,g,r⟩:=x;exact⟨e,b,h1 _ g,r⟩
 |cell v=>obtain⟨e,y,g,r⟩:=x;exact⟨e,y,h1 _ g,r.mono λ_ _=>VR.mono ha ht _ _⟩
 |sdict ks=>obtain⟨e,Ab,⟨o,es,ep,g,q⟩,r⟩:=x;exact⟨e,Ab,⟨o,es,ep,h1 _ g,q⟩,Aj.mono ha ht _ _ r⟩
 |idict ks=>obtain⟨e,Ab,⟨o,es,ep,g,q⟩,r⟩:=x;exact⟨e,Ab,⟨o,es,ep,h1 _ g,q⟩,Aj.mono ha ht _ _ r⟩
 |idictE ks ep=>obtain⟨e,Ab,⟨o,es,g,q⟩,r⟩:=x;exact⟨e,Ab,⟨o,es,h1 _ g,q⟩,Aj.mono ha ht _ _ r⟩
 |tdict ks=>obtain⟨e,xs,⟨o,es,ep,g,q⟩,kp,r1,r2,r3⟩:=x;exact⟨e,xs,⟨o,es,ep,h1 _ g,q⟩,λx hx=>(kp x hx).mono ht,r1,r2,Aj.mono ha ht _ _ r3⟩
 |inst C fs=>obtain⟨nd,g,Ej,n,g2,r⟩:=x;exact⟨nd,h1 _ g,Ej,n,h2 _ g2,r.mono ha ht⟩
theorem OR.stands{W:World}{ad:AH}{h:Heap}{o:O}{p:Addr×Addr}(x:OR W ad h o p):∃o1 o2,h.get? p.1=some o1/\h.get? p.2=some o2/\o1.cls≠.type "tuple"/\o2.cls≠.type "tuple":=by
 induction o using Mine.O.casesOn with
 |list l=>obtain⟨e,vs,n,g,r⟩:=x;exact⟨_,_,g,e▸g,by show Value.type "list"≠Value.type "tuple";decide,by show Value.type "list"≠Value.type "tuple";decide⟩
 |barr l=>obtain⟨e,b,g,r⟩:=x;exact⟨_,_,g,e▸g,by show Value.type "bytearray"≠Value.type "tuple";decide,by show Value.type "bytearray"≠Value.type "tuple";decide⟩
 |cell v=>obtain⟨e,y,g,r⟩:=x;exact⟨_,_,g,e▸g,by show Value.type "cell"≠Value.type "tuple";decide,by show Value.type "cell"≠Value.type "tuple";decide⟩
 |sdict ks=>obtain⟨e,Ab,⟨o,es,ep,g,q,_⟩,r⟩:=x;exact⟨_,_,g,e▸g,by rw[q.1];decide,by rw[q.1];decide⟩
 |idict ks=>obtain⟨e,Ab,⟨o,es,ep,g,q,_⟩,r⟩:=x;exact⟨_,_,g,e▸g,by rw[q.1];decide,by rw[q.1];decide⟩
 |idictE ks ep=>obtain⟨e,Ab,⟨o,es,g,q,_⟩,r⟩:=x;exact⟨_,_,g,e▸g,by rw[q.1];decide,by rw[q.1];decide⟩
 |tdict ks=>obtain⟨e,xs,⟨o,es,ep,g,q,_⟩,r⟩:=x;exact⟨_,_,g,e▸g,by rw[q.1];decide,by rw[q.1];decide⟩
 |inst C fs=>obtain⟨_,g,Ej,n,g2,r⟩:=x;exact⟨_,_,g,g2,by show Value.ref C≠Value.type "tuple";exact Value.noConfusion,by show Value.type "dict"≠Value.type "tuple";decide⟩
def A2(ad:AH)(b:Addr):Prop:=∃p∈ad,b=p.1\/b=p.2
def Kept(X:Addr->Prop)(h h':Heap):Prop:=∀b o,h.get? b=some o->¬X b->h'.get? b=some o
theorem Kept.refl(X:Addr->Prop)(h:Heap):Kept X h h:=λ_ _ e _=>e
theorem Kept.mono{X Y:Addr->Prop}(k:Kept X h h')(s:∀b,X b->Y b):Kept Y h h':=λb o e n=>k b o e λx=>n (s b x)
structure SR(W:World)(base:Heap)(ad:AH)(os:List O)(h:Heap):Prop where
 old:∀b o,base.get? b=some o->h.get? b=some o
 len:ad.length=os.length
 rep:∀(i:Nat)o p,os[i]? =some o->ad[i]? =some p->OR W ad h o p
 sep:∀(i j:Nat)p q,i≠j->ad[i]? =some p->ad[j]? =some q->p.1≠q.1/\p.1≠q.2/\p.2≠q.1/\p.2≠q.2
 new:∀p∈ad,base.get? p.1=none/\base.get? p.2=none
theorem La{α:Type}{l:List α}{x:α}(h:x∈l):∃i:Nat,l[i]? =some x:=by obtain⟨i,hi,e⟩:=List.mem_iff_getElem.mp h;exact⟨i,by rw[cQ hi,e]⟩
theorem SR.at{W:World}{base:Heap}{ad:AH}{os:List O}{h:Heap}(S:SR W base ad os h){i:Nat}{o:O}(e:os[i]? =some o):∃p,ad[i]? =some p/\OR W ad h o p:=by
 have hi:i<ad.length:=by rw[S.len];exact(im.mp e).1
 exact⟨ad[i],cQ hi,S.rep _ _ _ e (cQ hi)⟩
theorem SR.obj{W:World}{base:Heap}{ad:AH}{os:List O}{h:Heap}(S:SR W base ad os h){p:Addr×Addr}(hp:p∈ad):∃o1 o2,h.get? p.1=some o1/\h.get? p.2=some o2/\o1.cls≠.type "tuple"/\o2.cls≠.type "tuple":=by
 obtain⟨i,e⟩:=La hp;have hi:i<os.length:=by rw[<-S.len];exact(im.mp e).1
 exact(S.rep _ _ _ (cQ hi) e).stands
theorem SR.live{W:World}{base:Heap}{ad:AH}{os:List O}{h:Heap}(S:SR W base ad os h){b:Addr}(hb:A2 ad b):∃o,h.get? b=some o/\o.cls≠.type "tuple":=by
 obtain⟨p,hp,e⟩:=hb;obtain⟨o1,o2,a,b',c,d⟩:=S.obj hp;rcases e with rfl|rfl
 ·exact⟨o1,a,c⟩
 ·exact⟨o2,b',d⟩
theorem SR.tup{W:World}{base:Heap}{ad:AH}{os:List O}{h h':Heap}{X:Addr->Prop}(S:SR W base ad os h)(k:Kept X h h')(hX:∀b,X b->A2 ad b\/∀vs,¬h.IsTuple b vs):∀a vs,h.IsTuple a vs->h'.IsTuple a vs:=by
 rintro a vs t;obtain⟨o,e,c,r⟩:=id t;refine⟨o,k a o e λhx=>?_,c,r⟩;rcases hX a hx with q|q
 ·obtain⟨o',e',c'⟩:=S.live q;rw[e] at e';obtain rfl:=bg e';exact c' c
 ·exact q vs t
structure Aft(W:World)(base:Heap)(X:Addr->Prop)(ad:AH)(h:Heap)(Ae:List O)(Ag:AH)(h':Heap):Prop where
 sr:SR W base (ad++Ag) Ae h'
 kept:Kept (λb=>A2 ad b\/X b) h h'
 fresh:∀p∈Ag,h.get? p.1=none/\h.get? p.2=none
abbrev iP:Addr->Prop:=λ_=>False
theorem Aft.refl{W:World}{base:Heap}{X:Addr->Prop}{ad:AH}{os:List O}{h:Heap}(S:SR W base ad os h):Aft W base X ad h os [] h:=⟨by rw[bE];exact S,Kept.refl _ _,λ_ hp=>nomatch hp⟩
theorem A2.app{ad Ag:AH}{b:Addr}(h:A2 (ad++Ag) b):A2 ad b\/A2 Ag b:=by
 obtain⟨p,hp,e⟩:=h;rcases lZ.mp hp with q|q
 ·exact .inl ⟨p,q,e⟩
 ·exact .inr ⟨p,q,e⟩
theorem A2.left{ad Ag:AH}{b:Addr}(h:A2 ad b):A2 (ad++Ag) b:=let⟨p,hp,e⟩:=h;⟨p,o8 _ hp,e⟩
theorem Aft.trans{W:World}{base:Heap}{X:Addr->Prop}{ad:AH}{h h1 h2:Heap}{os AE BM:List O}{m1 m2:AH}(S:SR W base ad os h)(hX:∀b,X b->(h.get? b).isSome=true->(h1.get? b).isSome=true)(a:Aft W base X ad h AE m1 h1)(b:Aft W base X (ad++m1) h1 BM m2 h2):
  Aft W base X ad h BM (m1++m2) h2:=by
 refine⟨by rw[<-bF];exact b.sr,λc o e n=>?_,λp hp=>?_⟩
 ·refine b.kept c o (a.kept c o e n) λq=>?_;rcases q with q|q
  ·rcases q.app with q|⟨p,hp,q⟩
   ·exact n (.inl q)
   ·have f:=a.fresh p hp;rcases q with rfl|rfl
    ·rw[f.1] at e;exact xO e
    ·rw[f.2] at e;exact xO e
  ·exact n (.inr q)
 ·rcases lZ.mp hp with q|q
  ·exact a.fresh p q
  ·have f:=b.fresh p q;have key:∀c,h1.get? c=none->h.get? c=none:=λc hc=>by
    induction e:h.get? c using il with
    |none=>rfl
    |some o=>
     exfalso;by_cases hn:A2 ad c\/X c
     ·rcases hn with hn|hn
      ·obtain⟨o',e',_⟩:=a.sr.live hn.left;rw[hc] at e';exact xO e'
      ·have:=hX c hn (by rw[e];rfl);rw[hc] at this;exact xB this
     ·rw[a.kept c o e hn] at hc;exact Oo hc
   exact⟨key _ f.1,key _ f.2⟩
structure Gl where
 w:World
 base:Heap
 mg:Str->Option Value
 mb:Str->Option Value
 gns:base.Ns mainGlobals mg
 bns:base.Ns builtinsNs mb
 nolim:base.NoLimit
 mods:(base.get? sysModules).isSome=true
 K:Frag
 X:K.In base
noncomputable abbrev Gl.M(g:Gl):Model:=model prog g.w
structure Bf(A:Around)(d:Nat):Prop where
 handled:A.handled=none
 depth:A.depth+d<990
 units:A.units+10*d<9800
theorem Bf.room{A:Around}(r:Bf A d):A.depth<recursionLimit:=by have:=r.depth;unfold recursionLimit;exact L1 [_,_] [] 0xf78590834220fd02c80441 this
theorem Bf.c{A:Around}(r:Bf A d):A.units<cLine:=by have:=r.units;unfold cLine;exact L1 [_,_] [] 0x9920790a83b0684414d583c80441 this
theorem Bf.deeper{A:Around}(r:Bf A (d+1))(env:Env):Bf (A.deeper env) d:=⟨r.handled,by have:=r.depth;show A.depth+1+d<_;exact L1 [_,_] [] 0x3de16421c8740d0883ef0b2108720d68441 this,by have:=r.units;show A.units+3+_<_;exact L1 [_,_] [] 0x13240f210e43a50760d08829920790a83b18720d68441 this⟩
structure Fn where
 qual:Str
 scope:Scope
 fa:Addr
 cd:Value
 cells:List (Str×Addr)
 names:List Str
 globs:List (Str×V)
 inner:Option (Str×Addr)
 cix:List (Str×Nat)
noncomputable def Fn.env(F:Fn)(L:Addr):Env:={scope:=F.scope,locals:=L,globals:=mainGlobals,cells:=F.cells,qual:=F.inner.elim (F.qual++".<locals>.") (·.1),func:=F.inner.elim (some F.fa) λ_=>none,code:=F.cd,frame:=F.inner.elim (some L) λq=>some q.2,builtins:=builtinsNs}
def Gl.Has(g:Gl)(x:Str)(v:V):Prop:=∃val,VR [] g.base v val/\(g.mg x=some val\/(g.mg x=none/\g.mb x=some val))
structure BV(g:Gl)(F:Fn):Prop where
 kind:F.scope.kind=.function
 loc:∀x∈F.names,F.scope.names.lookup x=some .local/\(x==("__debug__":Str))=false
 nodup:F.names.Nodup
 glob:∀x∈F.globs,F.scope.names.lookup x.1=some .globalImplicit/\(x.1==("__debug__":Str))=false/\g.Has x.1 x.2
inductive Has(x:Str)(v:V):List Str->List (Option V)->Prop
 |head {n r}:Has x v (x::n) (some v::r)
 |tail {y u n r}:Has x v n r->Has x v (y::n) (u::r)
inductive Upd(x:Str)(v:V):List Str->List (Option V)->List (Option V)->Prop
 |head {n u r}:Upd x v (x::n) (u::r) (some v::r)
 |tail {y u n r r'}:Upd x v n r r'->Upd x v (y::n) (u::r) (u::r')
inductive FH(x:Str)(v:V):List (Str×V)->Prop
 |head {n}:FH x v ((x,v)::n)
 |tail {y n}:FH x v n->FH x v (y::n)
inductive UpdF(x:Str)(v:V):List (Str×V)->List (Str×V)->Prop
 |head {n u}:UpdF x v ((x,u)::n) ((x,v)::n)
 |tail {y n n'}:UpdF x v n n'->UpdF x v (y::n) (y::n')
theorem Has.mem(h:Has x v n l):x∈n:=by
 induction h with
 |head=>exact .head _
 |tail _ ih=>exact .tail _ ih
theorem Upd.mem(h:Upd x v n l l'):x∈n:=by
 induction h with
 |head=>exact .head _
 |tail _ ih=>exact .tail _ ih
theorem FH.mem(h:FH x v l):(x,v)∈l:=by
 induction h with
 |head=>exact .head _
 |tail _ ih=>exact .tail _ ih
theorem Upd.back{n:List Str}(h:Upd x v n l l')(hn:n.Nodup)(q:Has y u n l'):(y=x/\u=v)\/(y≠x/\Has y u n l):=by
 induction h with
 | @head n _ r=>
  cases q with
  |head=>exact .inl ⟨rfl,rfl⟩
  |tail q=>exact .inr ⟨λe=>(jH.mp hn).1 (e▸q.mem),.tail q⟩
 | @tail z _ n r r' h ih=>
  cases q with
  |head=>exact .inr ⟨λe=>(jH.mp hn).1 (e▸h.mem),.head⟩
  |tail q=>
   rcases ih (jH.mp hn).2 q with q|q
   ·exact .inl q
   ·exact .inr ⟨q.1,.tail q.2⟩
structure FrB(g:Gl)(L:Addr)(m:Str->Option Value)(ad:AH)(h:Heap):Prop where
 ns:h.Ns L m
 out:¬A2 ad L
 above:g.base.objs.size<=L
structure AF(g:Gl)(L:Addr)(m:Str->Option Value)(ad:AH)(h:Heap)(Ae:List O)(Ag:AH)(h':Heap):Prop extends Aft g.w g.base (·=L) ad h Ae Ag h' where
 ns:h'.Ns L m
structure Bg(g:Gl)(F:Fn)(L:Addr)(m:Str->Option Value)(loc:List (Option V))(ad:AH)(h:Heap):Prop extends FrB g L m ad h where
 loc:∀x v,Has x v F.names loc->∃val,m x=some val/\VR ad h v val
 cel:∀x∈F.cix,∃a,F.cells.lookup x.1=some a/\ad[x.2]? =some (a,a)
section
variable{g:Gl}{F:Fn}{L:Addr}{m:Str->Option Value}{loc:List (Option V)}{ad:AH}{h:Heap}{os:List O}
theorem Ns.notTuple{h:Heap}(n:h.Ns a m):∀vs,¬h.IsTuple a vs:=λvs⟨o,e,_,k,d⟩=>by obtain⟨o',es,ep,e',d',_⟩:=n;rw[e] at e';obtain rfl:=bg e';rw[d] at d';cases d'
theorem Ns.is{h:Heap}(n:h.Ns a m):∃o,h.get? a=some o:=let⟨o,_,_,e,_⟩:=n;⟨o,e⟩
theorem FrB.out'(f:FrB g L m ad h)(a:Aft g.w g.base (·=L) ad h Ae Ag h'):¬A2 (ad++Ag) L:=λq=>by
 rcases q.app with q|⟨p,hp,e⟩
 ·exact f.out q
 ·obtain⟨o,ho⟩:=Ns.is f.ns;have:=a.fresh p hp;rcases e with rfl|rfl
  ·rw[this.1] at ho;exact xO ho
  ·rw[this.2] at ho;exact xO ho
theorem FrB.tup(f:FrB g L m ad h)(S:SR g.w g.base ad os h){h':Heap}(a:Aft g.w g.base (·=L) ad h Ae Ag h'):∀b vs,h.IsTuple b vs->h'.IsTuple b vs:=S.tup a.kept λb q=>q.imp id λq=>by subst q;exact Ns.notTuple f.ns
theorem FrB.vr(f:FrB g L m ad h)(S:SR g.w g.base ad os h)(a:Aft g.w g.base (·=L) ad h Ae Ag h')(r:VR ad h v x):VR (ad++Ag) h' v x:=VR.mono (AU.app _ _) (f.tup S a) _ _ r
theorem FrB.vrs(f:FrB g L m ad h)(S:SR g.w g.base ad os h)(a:Aft g.w g.base (·=L) ad h Ae Ag h')(r:Aj ad h v x):Aj (ad++Ag) h' v x:=Aj.mono (AU.app _ _) (f.tup S a) _ _ r
theorem FrB.then{h1:Heap}(f:FrB g L m ad h)(S:SR g.w g.base ad os h)(n1:h1.Ns L m1)(a:Aft g.w g.base (·=L) ad h AE x1 h1)(b:Aft g.w g.base (·=L) (ad++x1) h1 BM x2 h2):
  Aft g.w g.base (·=L) ad h BM (x1++x2) h2:=Aft.trans S (λc e _=>by subst e;obtain⟨o,ho⟩:=Ns.is n1;rw[ho];rfl) a b
theorem FrB.after(f:FrB g L m ad h)(a:AF g L m ad h Ae Ag h'):FrB g L m (ad++Ag) h':=⟨a.ns,f.out' a.toAft,f.above⟩
theorem AF.refl(S:SR g.w g.base ad os h)(f:FrB g L m ad h):AF g L m ad h os [] h:=⟨Aft.refl S,f.ns⟩
theorem AF.trans(f:FrB g L m ad h)(S:SR g.w g.base ad os h)(a:AF g L m ad h AE x1 h1)(b:AF g L m (ad++x1) h1 BM x2 h2):AF g L m ad h BM (x1++x2) h2:=⟨f.then S a.ns a.toAft b.toAft,b.ns⟩
theorem Bg.after(f:Bg g F L m loc ad h)(S:SR g.w g.base ad os h)(a:AF g L m ad h Ae Ag h'):Bg g F L m loc (ad++Ag) h' where
 toFrB:=f.toFrB.after a
 loc:=λx v q=>let⟨val,e,r⟩:=f.loc x v q;⟨val,e,f.vr S a.toAft r⟩
 cel:=λx hx=>let⟨c,e1,e2⟩:=f.cel x hx;⟨c,e1,AU.app _ _ _ _ e2⟩
theorem FrB.tupL(f:FrB g L m ad h){h':Heap}(sb:Heap.SameBut L h h'):∀a vs,h.IsTuple a vs->h'.IsTuple a vs:=λa vs t=>by obtain⟨o',e',r⟩:=t;refine⟨o',(sb.2 a λq=>?_).trans e',r⟩;subst q;exact Ns.notTuple f.ns vs ⟨o',e',r⟩
theorem SR.locals(S:SR g.w g.base ad os h)(f:FrB g L m ad h)(sb:Heap.SameBut L h h'):SR g.w g.base ad os h' where
 old:=λb o e=>(sb.2 b λq=>by have h1:=pz e;have h2:=f.above;subst q;exact absurd h1 (Nat.not_lt.mpr h2)).trans (S.old b o e)
 len:=S.len
 rep:=λi o p e1 e2=>by have hp:p∈ad:=bG e2;have n1:p.1≠L:=λq=>f.out ⟨p,hp,.inl q.symm⟩;have n2:p.2≠L:=λq=>f.out ⟨p,hp,.inr q.symm⟩;exact OR.mono (AU.refl _) (f.tupL sb) (λob e=>(sb.2 _ n1).trans e) (λob e=>(sb.2 _ n2).trans e) (S.rep i o p e1 e2)
 sep:=S.sep
 new:=S.new
theorem Bg.store(f:Bg g F L m loc ad h)(hn:F.names.Nodup)(u:Upd x v F.names loc loc')(r:VR ad h v val){h':Heap}
  (ns:h'.Ns L (λy=>if y=x then some val else m y)) (sb:Heap.SameBut L h h'):Bg g F L (λy=>if y=x then some val else m y) loc' ad h':=by
 have tp:=f.tupL sb;refine⟨⟨ns,f.out,f.above⟩,λy w q=>?_,f.cel⟩;rcases u.back hn q with ⟨rfl,rfl⟩|⟨hne,q⟩
 ·exact⟨val,by simp,VR.mono (AU.refl _) tp _ _ r⟩
 ·obtain⟨val',e,r'⟩:=f.loc y w q;exact⟨val',by simp[hne,e],VR.mono (AU.refl _) tp _ _ r'⟩
theorem Aft.locals(S:SR g.w g.base ad os h)(f:FrB g L m ad h)(sb:Heap.SameBut L h h'):Aft g.w g.base (·=L) ad h os [] h':=⟨by rw[bE];exact S.locals f sb,λb o e n=>(sb.2 b λq=>n (.inr q)).trans e,λ_ hp=>nomatch hp⟩
end
section
variable(g:Gl)(F:Fn)(d:Nat)
def Aw(t:List Value->Sem Value)(args:List V)(os:List O)(K:List O->V->Prop):Prop:=∀(A:Around)(s:Shared)(ad:AH)(L:Addr)(m:Str->Option Value)(vs:List Value)(Q:Value->Shared->Prop),Bf A d->SR g.w g.base ad os s.heap->FrB g L m ad s.heap->Aj ad s.heap args vs->(∀Ae Ag v v' h' tk,AF g L m ad s.heap Ae Ag h'->VR (ad++Ag) h' v v'->K Ae v->Q v' {s with heap:=h',toks:=tk})->Aa g.M A (t vs) Q s
def Cd{α β:Type}(R:AH->Heap->α->β->Prop)(t:Addr->Sem β)(loc:List (Option V))(os:List O)(K:List O->α->Prop):Prop:=∀(A:Around)(s:Shared)(ad:AH)(L:Addr)(m:Str->Option Value)(Q:β->Shared->Prop),Bf A d->SR g.w g.base ad os s.heap->Bg g F L m loc ad s.heap->(∀Ae Ag v v' h' tk,AF g L m ad s.heap Ae Ag h'->R (ad++Ag) h' v v'->K Ae v->Q v' {s with heap:=h',toks:=tk})->Aa g.M A (t L) Q s
def AG(e:Expr)(loc:List (Option V))(os:List O)(K:List O->V->Prop):Prop:=Cd g F d VR (λL=>eval e (F.env L)) loc os K
def Ir(e:Expr)(loc:List (Option V))(os:List O)(K:List O->Bool->Prop):Prop:=Cd g F d (λ_ _ b b'=>b'=b) (λL=>isTrue e (F.env L) (eval e (F.env L))) loc os K
def Hf(op:BoolOp)(es:List Expr)(loc:List (Option V))(os:List O)(K:List O->Bool->Prop):Prop:=Cd g F d (λ_ _ b b'=>b'=b) (λL=>allTrue op es (F.env L)) loc os K
def Q0(pos:Pos)(es:List Expr)(loc:List (Option V))(os:List O)(K:List O->List V->Prop):Prop:=Cd g F d Aj (λL=>spliced (backTo pos (starEach es (F.env L)))) loc os K
def Ex(body:List Stmt)(loc:List (Option V))(os:List O)(KN:List (Option V)->List O->Prop)(KR:List O->V->Prop):Prop:=
 ∀(A:Around)(s:Shared)(ad:AH)(L:Addr)(m:Str->Option Value)(Q:Flow->Shared->Prop),Bf A d->SR g.w g.base ad os s.heap->Bg g F L m loc ad s.heap->
  (∀Ae Ag loc' m' h' tk,Aft g.w g.base (·=L) ad s.heap Ae Ag h'->Bg g F L m' loc' (ad++Ag) h'->KN loc' Ae->Q .next {s with heap:=h',toks:=tk})->
  (∀Ae Ag v v' m' h' tk,Aft g.w g.base (·=L) ad s.heap Ae Ag h'->h'.Ns L m'->VR (ad++Ag) h' v v'->KR Ae v->Q (.ret v') {s with heap:=h',toks:=tk})->
  Aa g.M A (execs body (F.env L)) Q s
def Fs(st:Stmt)(loc:List (Option V))(os:List O)(KN:List (Option V)->List O->Prop)(KR:List O->V->Prop):Prop:=
 ∀(A:Around)(s:Shared)(ad:AH)(L:Addr)(m:Str->Option Value)(Q:Flow->Shared->Prop),Bf A d->SR g.w g.base ad os s.heap->Bg g F L m loc ad s.heap->
  (∀Ae Ag loc' m' h' tk,Aft g.w g.base (·=L) ad s.heap Ae Ag h'->Bg g F L m' loc' (ad++Ag) h'->KN loc' Ae->Q .next {s with heap:=h',toks:=tk})->
  (∀Ae Ag v v' m' h' tk,Aft g.w g.base (·=L) ad s.heap Ae Ag h'->h'.Ns L m'->VR (ad++Ag) h' v v'->KR Ae v->Q (.ret v') {s with heap:=h',toks:=tk})->
  Aa g.M A (exec st (F.env L)) Q s
end
section
variable{g:Gl}{F:Fn}{d:Nat}{os:List O}{loc:List (Option V)}{K:List O->V->Prop}{KT:List O->Bool->Prop}{KL:List O->List V->Prop}{p:Pos}{e l r:Expr}{x:Str}{v:V}
theorem VR.of_base{base:Heap}{ad:AH}{h:Heap}(k:∀b o,base.get? b=some o->h.get? b=some o){v:V}{x:Value}(r:VR [] base v x):VR ad h v x:=VR.mono (λi p e=>by simp at e) (λa vs⟨o,e,q⟩=>⟨o,k _ _ e,q⟩) _ _ r
theorem VR.i{ad:AH}{h:Heap}{i:Int}{t:Tok}:VR ad h (.int i) (.int i t):=⟨t,rfl⟩
theorem VR.n{ad:AH}{h:Heap}:VR ad h .none .none:=rfl
theorem VR.b{ad:AH}{h:Heap}{b:Bool}:VR ad h (.bool b) (.bool b):=rfl
theorem VR.s{ad:AH}{h:Heap}{x:Str}{t:Tok}:VR ad h (.str x) (.str x t):=⟨t,rfl⟩
theorem Cd.now{α β:Type}{R:AH->Heap->α->β->Prop}{t:Addr->Sem β}{K:List O->α->Prop}{v:α}(hk:K os v)
  (h:∀(A:Around)(s:Shared)(ad:AH)(L:Addr)(m:Str->Option Value)(Q:β->Shared->Prop),Bf A d->SR g.w g.base ad os s.heap->Bg g F L m loc ad s.heap->(∀val tk,R ad s.heap v val->Q val {s with toks:=tk})->wpAny g.M A (t L) Q WL s):Cd g F d R t loc os K:=by
 intro A s ad L m Q hr hs hf hq;exact Aa.of (h A s ad L m Q hr hs hf λval tk r=>hq os [] v val s.heap tk (AF.refl hs hf.toFrB) (by rw[bE];exact r) hk)
theorem Wh(F0:BV g F)(hx:Has x v F.names loc)(hk:K os v):AG g F d (.Name x p) loc os K:=Cd.now hk λA s ad L m Q hr hs hf hq=>by obtain⟨val,hm,hv⟩:=hf.loc x v hx;have hl:=F0.loc x hx.mem;exact wpAny_Name (wpAny_loadName_local F0.kind hl.1 hf.ns hm (hq val s.toks hv)) hl.2
theorem Wk(F0:BV g F)(hx:FH x v F.globs)(hk:K os v):AG g F d (.Name x p) loc os K:=
 Cd.now hk λA s ad L m Q hr hs hf hq=>by
  obtain⟨h1,h2,val,hv,h3⟩:=F0.glob _ hx.mem;have q:Q val s:=hq val s.toks (VR.of_base hs.old hv);refine Calls.Name_function_global (env:=F.env L) F0.kind h1 ?_ h2;rcases h3 with h3|⟨h3,h4⟩
  ·exact Calls.loadGlobal_global (env:=F.env L) (g.gns.keeps hs.old) h3 q
  ·exact Calls.loadGlobal_builtin (env:=F.env L) (g.gns.keeps hs.old) h3 (g.bns.keeps hs.old) h4 q
theorem Qh{i:Int}{k:Nat}(hk:K os (.int i)):AG g F d (.Constant (.int i) k p) loc os K:=Cd.now hk λ_ _ _ _ _ _ _ _ _ hq=>wpAny_Constant_int (hq _ _ VR.i)
theorem Wg{k:Nat}(hk:K os .none):AG g F d (.Constant .none k p) loc os K:=Cd.now hk λ_ s _ _ _ _ _ _ _ hq=>wpAny_Constant_none (hq _ s.toks VR.n)
theorem Wo{b:Bool}{k:Nat}(hk:K os (.bool b)):AG g F d (.Constant (.bool b) k p) loc os K:=Cd.now hk λ_ s _ _ _ _ _ _ _ hq=>wpAny_Constant_bool (hq _ s.toks VR.b)
theorem TP{y:Str}{k:Nat}(hk:K os (.str y)):AG g F d (.Constant (.str y) k p) loc os K:=Cd.now hk λ_ _ _ _ _ _ _ _ _ hq=>wpAny_Constant_str (hq _ _ VR.s)
theorem Sj{y:List UInt8}{k:Nat}(hk:K os (.bytes (y.map λx=>(x.toNat:Int)))):AG g F d (.Constant (.bytes y) k p) loc os K:=Cd.now hk λ_ s _ _ _ _ _ _ _ hq=>λ_ _ _=>hq (.bytes y.toArray s.toks) (s.toks+1) (show VR _ _ (.bytes _) _ from⟨_,_,rfl,rfl⟩)
theorem Cd.mono{α β:Type}{R:AH->Heap->α->β->Prop}{t:Addr->Sem β}{K K':List O->α->Prop}(x:Cd g F d R t loc os K)(h:∀os v,K os v->K' os v):Cd g F d R t loc os K':=λA s ad L m Q hr hs hf hq=>x A s ad L m Q hr hs hf λAe Ag v v' h' tk a r k=>hq Ae Ag v v' h' tk a r (h _ _ k)
theorem AG.mono{K':List O->V->Prop}(x:AG g F d e loc os K)(h:∀os v,K os v->K' os v):AG g F d e loc os K':=Cd.mono x h
theorem Aw.mono{K':List O->V->Prop}(x:Aw g d t args os K)(h:∀os v,K os v->K' os v):Aw g d t args os K':=λA s ad L m vs Q hr hs hf hv hq=>x A s ad L m vs Q hr hs hf hv λAe Ag v v' h' tk a r k=>hq Ae Ag v v' h' tk a r (h _ _ k)
noncomputable def Cv(op:Operator):List Value->Sem Value
 |[a,b]=>binaryOp op a b
 |_=>unsupported ""
noncomputable def BC(op:CmpOp):List Value->Sem Value
 |[a,b]=>compareOp op a b
 |_=>unsupported ""
theorem Aj.two{ad:AH}{h:Heap}{a b:V}{vs:List Value}(r:Aj ad h [a,b] vs):∃x y,vs=[x,y]/\VR ad h a x/\VR ad h b y:=by simp only[Aj] at r;obtain⟨x,_,rfl,h1,y,_,rfl,h2,rfl⟩:=r;exact⟨x,y,rfl,h1,h2⟩
theorem Aj.one{ad:AH}{h:Heap}{a:V}{vs:List Value}(r:Aj ad h [a] vs):∃x,vs=[x]/\VR ad h a x:=by simp only[Aj] at r;obtain⟨x,_,rfl,h1,rfl⟩:=r;exact⟨x,rfl,h1⟩
theorem Aj.mk1{ad:AH}{h:Heap}{a:V}{x:Value}(h1:VR ad h a x):Aj ad h [a] [x]:=by simp only[Aj];exact⟨x,_,rfl,h1,rfl⟩
theorem Aj.mk2{ad:AH}{h:Heap}{a b:V}{x y:Value}(h1:VR ad h a x)(h2:VR ad h b y):Aj ad h [a,b] [x,y]:=by simp only[Aj];exact⟨x,_,rfl,h1,y,_,rfl,h2,rfl⟩
theorem Aj.mk3{ad:AH}{h:Heap}{a b c:V}{x y z:Value}(h1:VR ad h a x)(h2:VR ad h b y)(h3:VR ad h c z):Aj ad h [a,b,c] [x,y,z]:=by simp only[Aj];exact⟨x,_,rfl,h1,y,_,rfl,h2,z,_,rfl,h3,rfl⟩
theorem Ak{α β:Type}{R:AH->Heap->α->β->Prop}{K:List O->α->Prop}{s:Shared}{ad m1:AH}{L:Addr}{m:Str->Option Value}{Q:β->Shared->Prop}{h1:Heap}{AE:List O}
  (hs:SR g.w g.base ad os s.heap) (hf:FrB g L m ad s.heap) (a1:AF g L m ad s.heap AE m1 h1)
  (hq:∀Ae Ag v v' h' tk,AF g L m ad s.heap Ae Ag h'->R (ad++Ag) h' v v'->K Ae v->Q v' {s with heap:=h',toks:=tk}):
  ∀Ae Ag v v' h' tk,AF g L m (ad++m1) h1 Ae Ag h'->R (ad++m1++Ag) h' v v'->K Ae v->Q v' {s with heap:=h',toks:=tk}:=
 λAe Ag v v' h' tk a2 r k=>hq Ae (m1++Ag) v v' h' tk (a1.trans hf hs a2) (by rw[<-bF];exact r) k
theorem Aw.run2{t:List Value->Sem Value}{a b:V}{x y:Value}{A:Around}{s:Shared}{ad:AH}{L:Addr}{m:Str->Option Value}{Q:Value->Shared->Prop}
  (o:Aw g d t [a,b] os K) (hr:Bf A d) (hs:SR g.w g.base ad os s.heap) (hf:FrB g L m ad s.heap) (r1:VR ad s.heap a x) (r2:VR ad s.heap b y)
  (hq:∀Ae Ag v v' h' tk,AF g L m ad s.heap Ae Ag h'->VR (ad++Ag) h' v v'->K Ae v->Q v' {s with heap:=h',toks:=tk}):Aa g.M A (t [x,y]) Q s:=
 o A s ad L m [x,y] Q hr hs hf (Aj.mk2 r1 r2) hq
theorem MS{t:List Value->Sem Value}{A:Around}{s:Shared}{ad:AH}{L:Addr}{m:Str->Option Value}{Q:Value->Shared->Prop}
  (h:AG g F d l loc os λos a=>AG g F d r loc os λos b=>Aw g d t [a,b] os K) (hr:Bf A d) (hs:SR g.w g.base ad os s.heap) (hf:Bg g F L m loc ad s.heap)
  (hq:∀Ae Ag v v' h' tk,AF g L m ad s.heap Ae Ag h'->VR (ad++Ag) h' v v'->K Ae v->Q v' {s with heap:=h',toks:=tk}):
  Aa g.M A (eval l (F.env L)) (λx s₁=>Aa g.M A (eval r (F.env L)) (λy s₂=>Aa g.M A (t [x,y]) Q s₂) s₁) s:=by
 refine h A s ad L m _ hr hs hf λAE m1 a x h1 tk1 a1 r1 k1=>?_;have AX:=Ak hs hf.toFrB a1 hq;have Bv:=hf.after hs a1;refine k1 A _ (ad++m1) L m _ hr a1.sr Bv λBM m2 b y h2 Ci a2 r2 k2=>?_;have IG:=Ak (s:={s with heap:=h1,toks:=tk1}) a1.sr Bv.toFrB a2 AX;exact Aw.run2 (s:={s with heap:=h2,toks:=Ci}) k2 hr a2.sr (Bv.after a1.sr a2).toFrB (Bv.vr a1.sr a2.toAft r1) r2 IG
theorem am(h:AG g F d l loc os λos a=>AG g F d r loc os λos b=>Aw g d (Cv op) [a,b] os K):AG g F d (.BinOp l op r p) loc os K:=λA s ad L m Q hr hs hf hq=>Aa.BinOp (MS (t:=Cv op) h hr hs hf hq)
theorem al(h:AG g F d l loc os λos a=>AG g F d r loc os λos b=>Aw g d (BC op) [a,b] os K)(hm:behindInMarks op r=false):AG g F d (.Compare l [op] [r] p) loc os K:=λA s ad L m Q hr hs hf hq=>Aa.Compare1 (MS (t:=BC op) h hr hs hf hq) hm
theorem Aw.now(hk:K os v)
  (h:∀(A:Around)(s:Shared)(ad:AH)(L:Addr)(m:Str->Option Value)(vs:List Value)(Q:Value->Shared->Prop),Bf A d->SR g.w g.base ad os s.heap->FrB g L m ad s.heap->Aj ad s.heap args vs->(∀val tk,VR ad s.heap v val->Q val {s with toks:=tk})->wpAny g.M A (t vs) Q WL s):Aw g d t args os K:=by
 intro A s ad L m vs Q hr hs hf hv hq;exact Aa.of (h A s ad L m vs Q hr hs hf hv λval tk r=>hq os [] v val s.heap tk (AF.refl hs hf) (by rw[bE];exact r) hk)
theorem A5{t:List Value->Sem Value}{i j:Int}{v:V}(hk:K os v)
  (h:∀(A:Around)(s:Shared)(ad:AH)(ti tj:Tok)(Q:Value->Shared->Prop),Bf A d->(∀val tk,VR ad s.heap v val->Q val {s with toks:=tk})->wpAny g.M A (t [.int i ti,.int j tj]) Q WL s):Aw g d t [.int i,.int j] os K:=
 Aw.now hk λA s ad L m vs Q hr hs hf hv hq=>by obtain⟨x,y,rfl,⟨ti,rfl⟩,⟨tj,rfl⟩⟩:=hv.two;exact h A s ad ti tj Q hr hq
theorem Y7(hk:K os (.int (i+j))):Aw g d (Cv .Add) [.int i,.int j] os K:=A5 hk λ_ _ _ _ _ _ _ h=>add_int (h _ _ VR.i)
theorem Y2(hk:K os (.int (i-j))):Aw g d (Cv .Sub) [.int i,.int j] os K:=A5 hk λ_ _ _ _ _ _ _ h=>sub_int (h _ _ VR.i)
theorem Y5(hk:K os (.int (i*j)))(hm:IntMulOk i j):Aw g d (Cv .Mult) [.int i,.int j] os K:=A5 hk λ_ _ _ _ _ _ _ h=>mul_int (h _ _ VR.i) hm
theorem Y4{i j:Int}(h0:0<=j)(hb:(Builtin.Int.intBits i:Int)*j<=2^27)(hk:K os (.int (i^j.toNat))):Aw g d (Cv .Pow) [.int i,.int j] os K:=A5 hk λ_ _ _ _ _ _ _ h=>pow_int h0 hb (h _ _ VR.i)
theorem Tp(hk:K os (.int (Builtin.bitAnd i j))):Aw g d (Cv .BitAnd) [.int i,.int j] os K:=A5 hk λ_ _ _ _ _ _ _ h=>and_int (h _ _ VR.i)
theorem ej(hk:K os (.int (Builtin.bitOr i j))):Aw g d (Cv .BitOr) [.int i,.int j] os K:=A5 hk λ_ _ _ _ _ _ _ h=>or_int (h _ _ VR.i)
theorem Y6{i:Int}(hj:j≠0)(hk:K os (.int (i.fmod j))):Aw g d (Cv .Mod) [.int i,.int j] os K:=A5 hk λ_ _ _ _ _ _ _ h=>mod_int' hj (h _ _ VR.i)
theorem VF{i j:Int}(hj:j≠0)(hs:j.natAbs<1073741824)(hk:K os (.int (i.fdiv j))):Aw g d (Cv .FloorDiv) [.int i,.int j] os K:=A5 hk λ_ _ _ _ _ _ _ h=>floordiv_int hj (h _ _ VR.i) (.inl (PyProof.noPylong_small hs))
theorem Y3{i j:Int}(hj:0<=j)(hk:K os (.int (i.fdiv (2^j.toNat)))):Aw g d (Cv .RShift) [.int i,.int j] os K:=A5 hk λ_ _ _ _ _ _ _ h=>rshift_int hj (h _ _ VR.i)
theorem To{i j:Int}(hj:0<=j)(hb:j<=1000000)(hi:i.natAbs<2^64)(hk:K os (.int (i*2^j.toNat))):Aw g d (Cv .LShift) [.int i,.int j] os K:=A5 hk λ_ _ _ _ _ _ _ h=>lshift_int_small hj hb hi (h _ _ VR.i)
theorem eu(hk:K os (.bool (decide (i<j)))):Aw g d (BC .Lt) [.int i,.int j] os K:=A5 hk λ_ s _ _ _ _ _ h=>lt_int (h _ s.toks VR.b)
theorem ez(hk:K os (.bool (decide (i<=j)))):Aw g d (BC .LtE) [.int i,.int j] os K:=A5 hk λ_ s _ _ _ _ _ h=>le_int (h _ s.toks VR.b)
theorem eA(hk:K os (.bool (decide (j<i)))):Aw g d (BC .Gt) [.int i,.int j] os K:=A5 hk λ_ s _ _ _ _ _ h=>gt_int (h _ s.toks VR.b)
theorem eC(hk:K os (.bool (decide (j<=i)))):Aw g d (BC .GtE) [.int i,.int j] os K:=A5 hk λ_ s _ _ _ _ _ h=>ge_int (h _ s.toks VR.b)
theorem eE(hk:K os (.bool (i==j))):Aw g d (BC .Eq) [.int i,.int j] os K:=A5 hk λ_ s _ _ _ _ _ h=>eq_int (h _ s.toks VR.b)
theorem er(hk:K os (.bool (i != j))):Aw g d (BC .NotEq) [.int i,.int j] os K:=A5 hk λ_ s _ _ _ _ _ h=>ne_int (h _ s.toks VR.b)
end
section
variable{g:Gl}{F:Fn}{d:Nat}{os:List O}{loc:List (Option V)}{K:List O->V->Prop}{KT:List O->Bool->Prop}{KL:List O->List V->Prop}{p:Pos}{e l r:Expr}{x:Str}{v:V}
theorem dF(h:AG g F d e loc os λos v=>∃b,v=.bool b/\KT os b)
  (he:∀env CZ,isTrue e env CZ=(do let v<-CZ;standAt e.pos;holding [v] (truthy v))):Ir g F d e loc os KT:=by
 intro A s ad L m Q hr hs hf hq;refine Aa.isTrue_value (h A s ad L m _ hr hs hf λAE m1 a x h1 tk1 a1 r1 k1=>?_) (he _ _);obtain⟨b,rfl,k⟩:=k1;subst r1;exact Aa.of <| pB (hq AE m1 b b h1 tk1 a1 rfl k)
theorem Yu(h:AG g F d l loc os λos a=>AG g F d r loc os λos b=>Aw g d (BC op) [a,b] os λos v=>∃b,v=.bool b/\KT os b)
  (hm:behindInMarks op r=false):Ir g F d (.Compare l [op] [r] p) loc os KT:=by
 intro A s ad L m Q hr hs hf hq;refine Aa.isTrue_Compare1 (MS (t:=BC op) (Q:=λc s₃=>Aa g.M A (truthy c) Q s₃) h hr hs hf λAE m1 a x h1 tk1 a1 r1 k1=>?_) hm;obtain⟨b,rfl,k⟩:=k1;subst r1;exact Aa.of <| pB (hq AE m1 b b h1 tk1 a1 rfl k)
theorem Yt(h:Ir g F d e loc os λos b=>KT os (!b)):Ir g F d (.UnaryOp .Not e p) loc os KT:=by intro A s ad L m Q hr hs hf hq;exact Aa.isTrue_Not (h A s ad L m _ hr hs hf λAE m1 a x h1 tk1 a1 r1 k1=>by subst r1;exact hq AE m1 _ _ h1 tk1 a1 rfl k1)
theorem US(h:Hf g F d op es loc os KT):Ir g F d (.BoolOp op es p) loc os KT:=λA s ad L m Q hr hs hf hq=>(h A s ad L m Q hr hs hf hq:Aa g.M A (allTrue op es (F.env L)) Q s)
theorem KI(h:KT os true):Hf g F d .And [] loc os KT:=Cd.now h λ_ s _ _ _ _ _ _ _ hq=>wpAny_allTrue_And_nil (hq _ s.toks rfl)
theorem Nk(h:KT os false):Hf g F d .Or [] loc os KT:=Cd.now h λ_ s _ _ _ _ _ _ _ hq=>wpAny_allTrue_Or_nil (hq _ s.toks rfl)
theorem UR(h:Ir g F d e loc os λos b=>(b=true->Hf g F d .And es loc os KT)/\(b=false->KT os false)):Hf g F d .And (e::es) loc os KT:=by
 intro A s ad L m Q hr hs hf hq;refine Aa.allTrue_And (h A s ad L m _ hr hs hf λAE m1 b x h1 tk1 a1 r1 k1=>?_);cases r1;induction b using jM with
 |true=>exact k1.1 rfl A _ _ L m Q hr a1.sr (hf.after hs a1) (Ak (R:=λ_ _ b b'=>b'=b) (s:=s) hs hf.toFrB a1 hq)
 |false=>exact hq AE m1 _ _ h1 tk1 a1 rfl (k1.2 rfl)
theorem Yr(h:Ir g F d e loc os λos b=>(b=true->KT os true)/\(b=false->Hf g F d .Or es loc os KT)):Hf g F d .Or (e::es) loc os KT:=by
 intro A s ad L m Q hr hs hf hq;refine Aa.allTrue_Or (h A s ad L m _ hr hs hf λAE m1 b x h1 tk1 a1 r1 k1=>?_);cases r1;induction b using jM with
 |false=>exact k1.2 rfl A _ _ L m Q hr a1.sr (hf.after hs a1) (Ak (R:=λ_ _ b b'=>b'=b) (s:=s) hs hf.toFrB a1 hq)
 |true=>exact hq AE m1 _ _ h1 tk1 a1 rfl (k1.1 rfl)
theorem Rf(h:Ir g F d t loc os λos c=>(c=true->Ir g F d b loc os KT)/\(c=false->Ir g F d o loc os KT)):Ir g F d (.IfExp t b o p) loc os KT:=by
 intro A s ad L m Q hr hs hf hq;show Aa g.M A (do if<-isTrue t (F.env L) (eval t (F.env L)) then isTrue b (F.env L) (eval b (F.env L)) else isTrue o (F.env L) (eval o (F.env L))) Q s;refine Aa.bind (h A s ad L m _ hr hs hf λAE m1 c x h1 tk1 a1 r1 k1=>?_);cases r1;induction c using jM with
 |true=>exact k1.1 rfl A _ _ L m Q hr a1.sr (hf.after hs a1) (Ak (R:=λ_ _ b b'=>b'=b) (s:=s) hs hf.toFrB a1 hq)
 |false=>exact k1.2 rfl A _ _ L m Q hr a1.sr (hf.after hs a1) (Ak (R:=λ_ _ b b'=>b'=b) (s:=s) hs hf.toFrB a1 hq)
theorem Sf(h:Ir g F d t loc os λos c=>(c=true->AG g F d b loc os K)/\(c=false->AG g F d o loc os K)):AG g F d (.IfExp t b o p) loc os K:=by
 intro A s ad L m Q hr hs hf hq;refine Aa.IfExp (h A s ad L m _ hr hs hf λAE m1 c x h1 tk1 a1 r1 k1=>?_);cases r1;induction c using jM with
 |true=>exact k1.1 rfl A _ _ L m Q hr a1.sr (hf.after hs a1) (Ak (s:=s) hs hf.toFrB a1 hq)
 |false=>exact k1.2 rfl A _ _ L m Q hr a1.sr (hf.after hs a1) (Ak (s:=s) hs hf.toFrB a1 hq)
theorem ai(h:AG g F d e loc os λos v=>∃b,v=.bool b/\K os (.bool !b)):AG g F d (.UnaryOp .Not e p) loc os K:=by intro A s ad L m Q hr hs hf hq;refine Aa.eUnary (h A s ad L m _ hr hs hf λAE m1 a x h1 tk1 a1 r1 k1=>?_);obtain⟨b,rfl,k⟩:=k1;subst r1;exact Aa.of <| not_value (pB (hq AE m1 _ _ h1 tk1 a1 VR.b k))
theorem aj{i:Int}(h:AG g F d e loc os λos v=>∃i,v=.int i/\K os (.int (-i))):AG g F d (.UnaryOp .USub e p) loc os K:=by intro A s ad L m Q hr hs hf hq;refine Aa.eUnary (h A s ad L m _ hr hs hf λAE m1 a x h1 tk1 a1 r1 k1=>?_);obtain⟨i,rfl,k⟩:=k1;obtain⟨t,rfl⟩:=r1;exact Aa.of <| neg_int (hq AE m1 _ _ h1 _ a1 VR.i k)
theorem Wq(h:AG g F d l loc os λos v=>∃b,v=.bool b/\(b=true->AG g F d r loc os K)/\(b=false->K os (.bool false))):AG g F d (.BoolOp .And [l,r] p) loc os K:=by
 intro A s ad L m Q hr hs hf hq;refine Aa.And2 (h A s ad L m _ hr hs hf λAE m1 a x h1 tk1 a1 r1 k1=>?_);obtain⟨b,rfl,k⟩:=k1;subst r1;refine Aa.of <| pB ?_;induction b using jM with
 |true=>exact k.1 rfl A _ _ L m Q hr a1.sr (hf.after hs a1) (Ak (s:=s) hs hf.toFrB a1 hq)
 |false=>exact hq AE m1 _ _ h1 tk1 a1 VR.b (k.2 rfl)
theorem ag(h:AG g F d l loc os λos v=>∃b,v=.bool b/\(b=true->K os (.bool true))/\(b=false->AG g F d r loc os K)):AG g F d (.BoolOp .Or [l,r] p) loc os K:=by
 intro A s ad L m Q hr hs hf hq;refine Aa.Or2 (h A s ad L m _ hr hs hf λAE m1 a x h1 tk1 a1 r1 k1=>?_);obtain⟨b,rfl,k⟩:=k1;subst r1;refine Aa.of <| pB ?_;induction b using jM with
 |false=>exact k.2 rfl A _ _ L m Q hr a1.sr (hf.after hs a1) (Ak (s:=s) hs hf.toFrB a1 hq)
 |true=>exact hq AE m1 _ _ h1 tk1 a1 VR.b (k.1 rfl)
theorem Sk(h:AG g F d (.BoolOp op [a,.BoolOp op [b,c] p] p) loc os K):AG g F d (.BoolOp op [a,b,c] p) loc os K:=h
variable{KN:List (Option V)->List O->Prop}{KR:List O->V->Prop}{st:Stmt}{Ad:List Stmt}
theorem YF(h:KN loc os):Ex g F d [] loc os KN KR:=by intro A s ad L m Q hr hs hf hn AT;refine Aa.of <| wpAny_execs_nil (hn os [] loc m s.heap s.toks (Aft.refl hs) ?_ h);rw[bE];exact hf
theorem Bm(h:Fs g F d st loc os (λloc os=>Ex g F d Ad loc os KN KR) KR):Ex g F d (st::Ad) loc os KN KR:=by
 intro A s ad L m Q hr hs hf hn AT;refine Aa.execs_cons (h A s ad L m _ hr hs hf (λAE m1 Am mm1 h1 tk1 a1 f1 k1=>?_) (λAE m1 v v' mm1 h1 tk1 a1 n1 r1 k1=>AT AE m1 v v' mm1 h1 tk1 a1 n1 r1 k1));refine k1 A _ _ L mm1 Q hr a1.sr f1 (λBM m2 IA Ug h2 Ci a2 f2 k2=>?_) (λBM m2 v v' Ug h2 Ci a2 n2 r2 k2=>?_)
 ·exact hn BM (m1++m2) IA Ug h2 Ci (hf.then hs f1.ns a1 a2) (by rw[<-bF];exact f2) k2
 ·exact AT BM (m1++m2) v v' Ug h2 Ci (hf.then hs f1.ns a1 a2) n2 (by rw[<-bF];exact r2) k2
theorem Ex.after{A:Around}{s:Shared}{ad m1:AH}{L:Addr}{m mm1:Str->Option Value}{Q:Flow->Shared->Prop}{h1:Heap}{AE:List O}{tk1:Nat}{Am:List (Option V)}{body:List Stmt}
  (k:Ex g F d body Am AE KN KR) (hr:Bf A d) (hs:SR g.w g.base ad os s.heap) (hf:Bg g F L m loc ad s.heap) (a1:Aft g.w g.base (·=L) ad s.heap AE m1 h1) (f1:Bg g F L mm1 Am (ad++m1) h1)
  (hn:∀Ae Ag loc' m' h' tk,Aft g.w g.base (·=L) ad s.heap Ae Ag h'->Bg g F L m' loc' (ad++Ag) h'->KN loc' Ae->Q .next {s with heap:=h',toks:=tk})
  (AT:∀Ae Ag v v' m' h' tk,Aft g.w g.base (·=L) ad s.heap Ae Ag h'->h'.Ns L m'->VR (ad++Ag) h' v v'->KR Ae v->Q (.ret v') {s with heap:=h',toks:=tk}):
  Aa g.M A (execs body (F.env L)) Q {s with heap:=h1,toks:=tk1}:=by
 refine k A _ _ L mm1 Q hr a1.sr f1 (λBM m2 IA Ug h2 Ci a2 f2 k2=>?_) (λBM m2 v v' Ug h2 Ci a2 n2 r2 k2=>?_)
 ·exact hn BM (m1++m2) IA Ug h2 Ci (hf.then hs f1.ns a1 a2) (by rw[<-bF];exact f2) k2
 ·exact AT BM (m1++m2) v v' Ug h2 Ci (hf.then hs f1.ns a1 a2) n2 (by rw[<-bF];exact r2) k2
theorem dO(h:Ir g F d t loc os λos c=>(c=true->Ex g F d b loc os KN KR)/\(c=false->Ex g F d o loc os KN KR)):Fs g F d (.If t b o p) loc os KN KR:=by
 intro A s ad L m Q hr hs hf hn AT;refine Aa.If (h A s ad L m _ hr hs hf λAE m1 c x h1 tk1 a1 r1 k1=>?_);cases r1;induction c using jM with
 |true=>exact(k1.1 rfl).after hr hs hf a1.toAft (hf.after hs a1) hn AT
 |false=>exact(k1.2 rfl).after hr hs hf a1.toAft (hf.after hs a1) hn AT
theorem YE(h:AG g F d e loc os KR):Fs g F d (.Return (some e) p) loc os KN KR:=by intro A s ad L m Q hr hs hf hn AT;exact Aa.Return (h A s ad L m _ hr hs hf λAE m1 v x h1 tk1 a1 r1 k1=>AT AE m1 v x m h1 tk1 a1.toAft a1.ns r1 k1)
theorem UZ(h:KR os .none):Fs g F d (.Return none p) loc os KN KR:=by intro A s ad L m Q hr hs hf hn AT;exact Aa.of <| wpAny_Return_none (AT os [] .none .none m s.heap s.toks (Aft.refl hs) hf.ns VR.n h)
theorem U0(h:KN loc os):Fs g F d (.Pass p) loc os KN KR:=by intro A s ad L m Q hr hs hf hn AT;refine Aa.of <| wpAny_Pass (hn os [] loc m s.heap s.toks (Aft.refl hs) ?_ h);rw[bE];exact hf
theorem EE(F0:BV g F){A:Around}{s:Shared}{ad m1:AH}{L:Addr}{m mm1:Str->Option Value}{Q:Unit->Shared->Prop}{h1:Heap}{AE:List O}{tk1:Nat}{Am loc':List (Option V)}{val:Value}
  (hs:SR g.w g.base ad os s.heap) (hf:FrB g L m ad s.heap) (a1:Aft g.w g.base (·=L) ad s.heap AE m1 h1) (f1:Bg g F L mm1 Am (ad++m1) h1) (u:Upd x v F.names Am loc') (r:VR (ad++m1) h1 v val)
  (hq:∀h' tk,Aft g.w g.base (·=L) ad s.heap AE m1 h'->Bg g F L (λy=>if y=x then some val else mm1 y) loc' (ad++m1) h'->Heap.SameBut L h1 h'->Q () {s with heap:=h',toks:=tk}):
  Aa g.M A (storeName (F.env L) x val) Q {s with heap:=h1,toks:=tk1}:=by
 have hl:=F0.loc x u.mem;refine Aa.of <| wpAny_storeName_local hl.1 f1.ns (λh' ns sb=>?_) (by show(F.scope.kind==.class||(F.scope.kind==.module&&_))=false;rw[F0.kind];rfl);have b:=Aft.locals a1.sr f1.toFrB sb;have c:=hf.then hs f1.ns a1 b;rw[bE] at c;exact hq h' _ c (f1.store F0.nodup u r ns sb) sb
theorem U1{xp:Pos}{loc':List (Option V)}(F0:BV g F)(h:AG g F d e loc os λos v=>∃loc',Upd x v F.names loc loc'/\KN loc' os)
  (hs:∀env,swapsWith e (some (.Name x xp)) p.line env=pure false):Fs g F d (.Assign [.Name x xp] e p) loc os KN KR:=by
 intro A s ad L m Q hr IE hf hn AT;refine Aa.Assign_Name (h A s ad L m _ hr IE hf λAE m1 v y h1 tk1 a1 r1 k1=>?_) (hs _);obtain⟨loc',u,k⟩:=k1;exact EE F0 IE hf.toFrB a1.toAft (hf.after IE a1) u r1 λh' tk a f _=>hn AE m1 loc' _ h' tk a f k
theorem U4(h:AG g F d e loc os λos v=>v=.none/\KN loc os)(hi:∀env,interactive (F.env env)=false)(hs:∀env,swapsWith e none p.line env=pure false):
  Fs g F d (.Expr e p) loc os KN KR:=by
 intro A s ad L m Q hr IE hf hn AT;refine Aa.sExpr (h A s ad L m _ hr IE hf λAE m1 v y h1 tk1 a1 r1 k1=>?_) (hi _) (hs _);obtain⟨rfl,k⟩:=k1;subst r1;exact hn AE m1 loc m h1 tk1 a1.toAft (hf.after IE a1) k
end
section
variable{g:Gl}{F:Fn}{d:Nat}{os:List O}{loc:List (Option V)}{K:List O->V->Prop}{KT:List O->Bool->Prop}{KL:List O->List V->Prop}{p:Pos}{e l r:Expr}{x:Str}{v:V}
def Az(g:Gl)(d:Nat)(f:V)(args:List V)(os:List O)(K:List O->V->Prop):Prop:=
 ∀(A:Around)(s:Shared)(ad:AH)(L:Addr)(m:Str->Option Value)(vf:Value)(vs:List Value)(Q:Value->Shared->Prop),Bf A d->SR g.w g.base ad os s.heap->FrB g L m ad s.heap->VR ad s.heap f vf->Aj ad s.heap args vs->
  (∀Ae Ag v v' h' tk,AF g L m ad s.heap Ae Ag h'->VR (ad++Ag) h' v v'->K Ae v->Q v' {s with heap:=h',toks:=tk})->
  Aa g.M A (keeperOf vf) (λ_ s'=>Aa g.M A (call vf vs) Q s') s
theorem Ga(h:isStarred e=false)(env:Env):starEach (e::es) env=(false,eval e env)::starEach es env:=by induction e using jS<;>first|rfl|exact Yk h
theorem Gb(es:List Expr)(h:es.any isStarred=false):starEach es env=es.map λe=>(false,eval e env):=by
 induction es with
 |nil=>rfl
 |cons e r ih=>rw[ru,rT] at h;rw[Ga h.1 env,ih h.2];rfl
theorem C9{es:List Expr}(h:es.any isStarred=false):(backTo pos (starEach es env)).any (·.1)=false/\(backTo pos (starEach es env)).length=es.length:=by
 rw[Gb es h]
 delta backTo;simp
theorem Wm{args:List Expr}(h:AG g F d func loc os λos f=>Q0 g F d p args loc os λos vs=>Az g d f vs os K)(Cg:args.any isStarred=false)(Ac:args.length<=30)
  (he:∀env,eval (.Call func args [] p) env=(do callWith p (<-eval func env) [] (backTo p (starEach args env)) (backToKw p (keywordEach [] env)))):AG g F d (.Call func args [] p) loc os K:=by
 intro A s ad L m Q hr hs hf hq;have b:=C9 (pos:=p) (env:=F.env L) Cg;refine Aa.eCall (h A s ad L m _ hr hs hf λAE m1 f vf h1 tk1 a1 r1 k1=>?_) (he _);refine Aa.callWith b.1 (by rw[b.2];exact Ac) ?_;have Bv:=hf.after hs a1;refine k1 A _ (ad++m1) L m _ hr a1.sr Bv λBM m2 vs FK h2 Ci a2 r2 k2=>?_;exact k2 A _ _ L m vf FK Q hr a2.sr (Bv.after a1.sr a2).toFrB (Bv.vr a1.sr a2.toAft r1) r2 (Ak (s:={s with heap:=h1,toks:=tk1}) a1.sr Bv.toFrB a2 (Ak (s:=s) hs hf.toFrB a1 hq))
theorem Zi(h:KL os []):Q0 g F d p [] loc os KL:=Cd.now h λ_ s _ _ _ _ _ _ _ hq=>args_nil (hq _ s.toks rfl)
theorem VO(h:AG g F d e loc os λos v=>Q0 g F d p es loc os λos vs=>KL os (v::vs))(he:∀env,starEach (e::es) env=(false,eval e env)::starEach es env):Q0 g F d p (e::es) loc os KL:=by intro A s ad L m Q hr hs hf hq;refine Aa.items_cons (h A s ad L m _ hr hs hf λAE m1 v x h1 tk1 a1 r1 k1=>?_) (he _);have Bv:=hf.after hs a1;refine k1 A _ (ad++m1) L m _ hr a1.sr Bv λBM m2 vs FK h2 Ci a2 r2 k2=>?_;refine Ak (R:=Aj) (s:=s) hs hf.toFrB a1 hq BM m2 (v::vs) (x::FK) h2 Ci a2 ?_ k2;simp only[Aj];exact⟨x,FK,rfl,Bv.vr a1.sr a2.toAft r1,r2⟩
theorem SR.keeps{W:World}{base:Heap}{ad:AH}{h h':Heap}(S:SR W base ad os h)(k:∀b o,h.get? b=some o->h'.get? b=some o):SR W base ad os h' where
 old:=λb o e=>k _ _ (S.old b o e)
 len:=S.len
 rep:=λi o p e1 e2=>OR.mono (AU.refl _) (λa vs⟨o,e,r⟩=>⟨o,k _ _ e,r⟩) (λ_ e=>k _ _ e) (λ_ e=>k _ _ e) (S.rep i o p e1 e2)
 sep:=S.sep
 new:=S.new
structure FnAt(g:Gl)(F:Fn)(fd:FuncData):Prop where
 at_:∃oc od sl,g.K.lookup F.fa=some ⟨oc,od,.func fd,sl⟩
 scope:fd.scope=F.scope
 globals:fd.globals=mainGlobals
 closure:fd.closure=[]
 qual:fd.qualname=F.qual
 code:fd.code=F.cd
 built:fd.builtins=builtinsNs
 cells:F.cells=[]
 cix:F.cix=[]
 inner:F.inner=none
 codeRec:codeIn g.K F.cd F.qual=true
 plain:(F.scope.names.all λx=>x.2 != .cell)=true
 quiet:F.scope.isCoroutine=false/\F.scope.isGenerator=false
theorem LA(h:FnAt g F fd)(L:Addr):callEnv fd L F.fa=F.env L:=by unfold callEnv newEnv Fn.env;rw[h.scope,h.globals,h.closure,h.qual,h.code,h.built,h.cells,h.inner];rfl
theorem Has.inv{x y:Str}{v:V}{u:Option V}{n:List Str}{r:List (Option V)}(q:Has x v (y::n) (u::r)):(y=x/\u=some v)\/Has x v n r:=by
 cases q with
 |head=>exact .inl ⟨rfl,rfl⟩
 |tail q=>exact .inr q
theorem has_none{x:Str}{v:V}{n:List Str}(q:Has x v n (n.map λ_=>none)):False:=by
 induction n with
 |nil=>exact nomatch q
 |cons y n ih=>exact(Has.inv q).elim (λe=>xO e.2) ih
theorem MK{ps rest:List Str}{ad:AH}{h:Heap}{x:Str}{v:V}:∀{vs:List V}{Ab:List Value},Aj ad h vs Ab->ps.length=vs.length->Has x v (ps++rest) (vs.map some++rest.map λ_=>none)->
  ∃val,(x,val)∈ps.zip Ab/\VR ad h v val:=by
 induction ps with
 |nil=>exact λ{vs _}r hl q=>by induction vs using cU with
  |nil=>exact(has_none q).elim
  |cons=>exact nomatch hl
 |cons y ps ih=>
  intro vs Ab r hl q;induction vs using cU with
  |nil=>exact nomatch hl
  |cons u vs=>simp only[Aj] at r;exact r.elim λz r=>r.elim λAQ r=>r.1▸(Has.inv q).elim (λe=>⟨z,e.1▸pg,bg e.2▸r.2.1⟩) λq=>(ih r.2.2 (sH hl) q).elim λval w=>⟨val,.tail _ w.1,w.2⟩
theorem DR{l:List (Str×Value)}{x:Str}{v:Value}(nd:(l.map (·.1)).Nodup)(h:(x,v)∈l):l.lookup x=some v:=by
 induction l with
 |nil=>exact nomatch h
 |cons p l ih=>
  obtain⟨y,u⟩:=p;rw[List.lookup_cons];rcases cS.mp h with h|h
  ·cases h;rw[re]
  ·have:x≠y:=λe=>(jH.mp nd).1 (by rw[<-e];exact mj (f:=(·.1)) h);rw[beq_false_of_ne this];exact ih (jH.mp nd).2 h
def DY(g:Gl)(d:Nat)(fa:Addr)(args:List V)(os:List O)(K:List O->V->Prop):Prop:=
 ∀(A:Around)(s:Shared)(ad:AH)(L:Addr)(m:Str->Option Value)(vs:List Value)(Q:Value->Shared->Prop),Bf A d->SR g.w g.base ad os s.heap->FrB g L m ad s.heap->Aj ad s.heap args vs->
  (∀Ae Ag v v' h' tk,AF g L m ad s.heap Ae Ag h'->VR (ad++Ag) h' v v'->K Ae v->Q v' {s with heap:=h',toks:=tk})->
  Ao g.M A (.call (.ref fa) ⟨vs,[]⟩) (λf s'=>match f with|.ret v=>Q v s'|_=>False) s
theorem Az.ofCode(lh:∃oc od fd sl,g.K.lookup fa=some ⟨oc,od,.func fd,sl⟩)(x:DY g d fa args os K):Az g d (.imm (.ref fa)) args os K:=by intro A s ad L m vf Ab Q hr hs hf hv AK hq;simp only[VR] at hv;subst hv;obtain⟨oc,od,fd,sl,hK⟩:=lh;have ho:s.heap.get? fa=some ⟨oc,od,.func fd,sl⟩:=hs.old _ _ (g.X _ _ hK);refine Aa.bind (m:=load fa) (Aa.of (qg ho (Aa.pure ?_)));exact Aa.call (x A s ad L m Ab Q hr hs hf AK hq)
theorem Qk{fd:FuncData}(F0:BV g F)(H:FnAt g F fd)(Ei:fd.body=.stmts body){ps rest:List Str}(hn:F.names=ps++rest){vs:List V}(hl:ps.length=vs.length)
  (DM:∀(s:Shared)(ad:AH)(Ab:List Value),(∀b o,g.base.get? b=some o->s.heap.get? b=some o)->Aj ad s.heap args Ab->∃AQ,Aj ad s.heap vs AQ/\BindsTo s fd ⟨Ab,[]⟩ (ps.zip AQ))
  (h:Ex g F d body (vs.map some++rest.map λ_=>none) os (λ_ os=>K os .none) K):DY g (d+1) F.fa args os K:=by
 intro A s ad L m Ab Q hr hs hf AK hq;obtain⟨oc,od,sl,hK⟩:=H.at_;have ho:s.heap.get? F.fa=some ⟨oc,od,.func fd,sl⟩:=hs.old _ _ (g.X _ _ hK);obtain⟨AQ,hvs',hb⟩:=DM s ad Ab hs.old AK;have Ac:vs.length=AQ.length:=by
  clear hb hl h DM;induction vs generalizing AQ with
  |nil=>simp only[Aj] at hvs';rw[hvs'];rfl
  |cons v vs ih=>simp only[Aj] at hvs';obtain⟨_,r,rfl,_,h2⟩:=hvs';rw[jK,jK,ih r h2]
 have nd:(ps++rest).Nodup:=hn▸F0.nodup;have b7:ps.Nodup:=(pN.mp nd).1;have Oq:(ps.zip AQ).map (·.1)=ps:=by rw[sU];exact L2 [_,_,_] [] 0x88841100841080041 hl Ac
 refine(Ao.def hr.room ho rfl (g.nolim.keeps hs.old) ?_ Ei hb ?_ ?_ ?_ ?_ ?_ (λh₀ ns k₀=>?_))
 ·have:=codeRec_of g.X H.codeRec;rw[H.code,H.qual];exact this.keeps hs.old
 ·intro x hx;rw[H.scope] at hx;have:=rh.mp H.plain x hx;simpa using this
 ·intro x hx;rw[H.scope];exact(F0.loc x.1 (by rw[hn];exact o8 _ (Oq▸mj (f:=(·.1)) hx))).1
 ·rw[H.scope];exact H.quiet.1
 ·rw[H.scope];exact H.quiet.2
 ·rw[H.scope];exact F0.kind
 ·rw[LA H];have S0:=hs.keeps k₀;have hL:L<s.heap.objs.size:=hf.ns.lt;have B:FrB g s.heap.objs.size (λx=>(ps.zip AQ).reverse.lookup x) ad h₀:=⟨ns,λq=>by
   obtain⟨o,e,_⟩:=hs.live q;exact pu _ (pz e),mi hf.above (qr hL)⟩
  have Ok:Bg g F s.heap.objs.size (λx=>(ps.zip AQ).reverse.lookup x) (vs.map some++rest.map λ_=>none) ad h₀:=⟨B,λx v q=>by rw[hn] at q;obtain⟨val,h1,h2⟩:=MK hvs' hl q;refine⟨val,DR ?_ (ri.mpr h1),VR.mono (AU.refl _) (λa vs⟨o,e,r⟩=>⟨o,k₀ _ _ e,r⟩) _ _ h2⟩;rw[sV,Oq];exact rJ.mpr (b7.imp λh=>h.symm),λx hx=>by rw[H.cix] at hx;cases hx⟩
  have back:∀{Ae:List O}{Ag:AH}{h':Heap},Aft g.w g.base (·=s.heap.objs.size) ad h₀ Ae Ag h'->AF g L m ad s.heap Ae Ag h':=λ{Ae Ag h'}a=>by
   have kp:∀b o,s.heap.get? b=some o->¬A2 ad b->h'.get? b=some o:=λb o e n=>a.kept b o (k₀ _ _ e) λq=>q.elim n λq=>by have:=pz e;rw[q] at this;exact pu _ this
   refine⟨⟨a.sr,λb o e n=>kp b o e λq=>n (.inl q),λp hp=>?_⟩,hf.ns.at' λo e=>kp L o e hf.out⟩;have f:=a.fresh p hp;have key:∀c,h₀.get? c=none->s.heap.get? c=none:=λc hc=>by
    induction e:s.heap.get? c using il with
    |none=>rfl
    |some o=>rw[k₀ _ _ e] at hc;exact Oo hc
   exact⟨key _ f.1,key _ f.2⟩
  refine Aa.mono (h _ {s with heap:=h₀,toks:=_} ad _ _ (λf s'=>match f with|.ret v=>Q v s'|_=>Q .none s') (hr.deeper _) S0 Ok
   (λAe Ag loc' m' h' tk a f k=>hq Ae Ag .none .none h' tk (back a) VR.n k) (λAe Ag v v' m' h' tk a n r k=>hq Ae Ag v v' h' tk (back a) r k)) (λf s' q=>?_)
  induction f using qK<;>exact q
end
noncomputable def Cp(base:Heap)(L:Addr)(ds:List Addr)(h:Heap):List (Addr×Obj):=(List.range h.objs.size).filterMap λa=>if a=L\/a∈ds\/(base.get? a).isSome=true then none else(h.get? a).map λo=>(a,o)
theorem Cq{base h:Heap}:(a,o)∈Cp base L ds h<->(a≠L/\a∉ds/\base.get? a=none/\h.get? a=some o):=by
 unfold Cp;rw[List.mem_filterMap];constructor
 ·rintro⟨b,hb,e⟩;split at e
  ·exact xO e
  ·rename_i hn;obtain⟨o',Nc,e'⟩:=pd.mp e;cases e';refine⟨λq=>hn (.inl q),λq=>hn (.inr (.inl q)),?_,Nc⟩;induction q:base.get? a using il with
   |none=>rfl
   |some _=>exact absurd (.inr (.inr (by rw[q];rfl))) hn
 ·rintro⟨h1,h2,h3,h4⟩;refine⟨a,List.mem_range.mpr (pz h4),?_⟩;rw[jU (by rw[h3];simp[h1,h2]),h4];rfl
section
variable{g:Gl}{F:Fn}{d:Nat}{os:List O}{loc:List (Option V)}{K:List O->V->Prop}{KT:List O->Bool->Prop}{KL:List O->List V->Prop}{p:Pos}{e l r:Expr}{x:Str}{v:V}
 {L:Addr} {m:Str->Option Value} {ad:AH} {h h':Heap}
theorem FrB.fr(f:FrB g L m ad h)(S:SR g.w g.base ad os h):Fr g.base L h m:=⟨f.ns,S.old,f.above⟩
theorem FrB.newsAll(f:FrB g L m ad h):News g.base L h (Cp g.base L [] h):=λp hp=>by obtain⟨a,o⟩:=p;obtain⟨h1,_,h3,h4⟩:=Cq.mp hp;exact⟨h4,h1,h3⟩
theorem FrB.newsBut(f:FrB g L m ad h)(hd:h.get? d=some o)(hn:g.base.get? d=none)(hl:d≠L):News g.base L h ([]++(d,o)::Cp g.base L [d] h):=λp hp=>by
 rcases cS.mp hp with rfl|hp
 ·exact⟨hd,hl,hn⟩
 ·obtain⟨a,o⟩:=p;obtain⟨h1,_,h3,h4⟩:=Cq.mp hp;exact⟨h4,h1,h3⟩
theorem K2:∀p∈Cp g.base L [d] h,p.1≠d:=λp hp=>by obtain⟨a,o⟩:=p;obtain⟨_,h2,_,_⟩:=Cq.mp hp;exact λe=>h2 (jV.mpr e)
theorem DG{ds:List Addr}{X:List (Addr×Obj)}(S:SR g.w g.base ad os h)(F':Fr g.base L h' m)(N':News g.base L h' (X++Cp g.base L ds h)):
  ∀b o,h.get? b=some o->b≠L->b∉ds->h'.get? b=some o:=λb o e h1 h2=>by
 induction q:g.base.get? b using il with
 |some o'=>have:=S.old b o' q;rw[e] at this;obtain rfl:=bg this;exact F'.keep b o q
 |none=>exact(N' (b,o) (qP _ (Cq.mpr ⟨h1,h2,q,e⟩))).1
theorem JN{X:List (Addr×Obj)}{a:Addr}{o:Obj}(N':News g.base L h' (X++Cp g.base L [] h))(hm:(a,o)∈X)(Ef:∀p∈Cp g.base L [] h,p.1<a):h.get? a=none:=by
 have n:=N' (a,o) (o8 _ hm);induction q:h.get? a using il with
 |none=>rfl
 |some o'=>exact absurd (Ef (a,o') (Cq.mpr ⟨n.2.1,by simp,n.2.2,q⟩)) (pu _)
theorem SR.push(S:SR g.w g.base ad os h)(f:FrB g L m ad h)(k:∀b o,h.get? b=some o->b≠L->h'.get? b=some o)(nl:h'.Ns L m)(F':∀b o,g.base.get? b=some o->h'.get? b=some o){q:Addr×Addr}
  (h1:h.get? q.1=none) (h2:h.get? q.2=none) (rep:OR g.w (ad++[q]) h' o q):AF g L m ad h (os++[o]) [q] h':=by
 have tp:∀a vs,h.IsTuple a vs->h'.IsTuple a vs:=λa vs t=>by obtain⟨ob,e1,r⟩:=t;refine⟨ob,k a ob e1 λq=>?_,r⟩;subst q;exact Ns.notTuple f.ns vs ⟨ob,e1,r⟩
 have nn:∀c,h.get? c=none->∀p∈ad,p.1≠c/\p.2≠c:=λc hc p hp=>by obtain⟨o1,o2,a,b,_,_⟩:=S.obj hp;exact⟨λe=>(by rw[e,hc] at a;exact xO a),λe=>(by rw[e,hc] at b;exact xO b)⟩
 refine⟨⟨⟨F',by simp[S.len],λi o' p e1 e2=>?_,λi j p p' OD e1 e2=>?_,λp hp=>?_⟩,λb o' e n=>k b o' e λq=>n (.inr q),λp hp=>?_⟩,nl⟩
 ·by_cases hi:i<ad.length
  ·rw[pn hi] at e2;rw[pn (by rw[<-S.len];exact hi)] at e1;have hp:p∈ad:=bG e2;exact OR.mono (AU.app _ _) tp (λob e=>k _ _ e λq=>f.out ⟨p,hp,.inl q.symm⟩) (λob e=>k _ _ e λq=>f.out ⟨p,hp,.inr q.symm⟩) (S.rep i o' p e1 e2)
  ·have Ef:=(im.mp e2).1;rw[cW,List.length_singleton] at Ef;have IH:i=ad.length:=gH (L1 [_,_] [] 0x8721d00441080041 Ef) (L1 [_,_] [] 0x5041080041 hi);subst IH;rw[oY (oU _),rj] at e2;rw[S.len,oY (oU _),rj] at e1;obtain rfl:=bg e1;obtain rfl:=bg e2;exact rep
 ·have get:∀i p,(ad++[q])[i]? =some p->(ad[i]? =some p)\/(i=ad.length/\p=q):=λi p e=>by
   by_cases hi:i<ad.length
   ·rw[pn hi] at e;exact .inl e
   ·have Ef:=(im.mp e).1;rw[cW,List.length_singleton] at Ef;have IH:i=ad.length:=gH (L1 [_,_] [] 0x8721d00441080041 Ef) (L1 [_,_] [] 0x5041080041 hi);subst IH;rw[oY (oU _),rj] at e;obtain rfl:=bg e;exact .inr ⟨rfl,rfl⟩
  rcases get i p e1 with a|⟨a,rfl⟩<;>rcases get j p' e2 with b|⟨b,rfl⟩
  ·exact S.sep i j p p' OD a b
  ·have hp:=bG a;exact⟨(nn _ h1 p hp).1,(nn _ h2 p hp).1,(nn _ h1 p hp).2,(nn _ h2 p hp).2⟩
  ·have hp:=bG b;exact⟨(nn _ h1 p' hp).1.symm,(nn _ h1 p' hp).2.symm,(nn _ h2 p' hp).1.symm,(nn _ h2 p' hp).2.symm⟩
  ·exact absurd (a.trans b.symm) OD
 ·have bn:∀c,h.get? c=none->g.base.get? c=none:=λc hc=>by
   induction q:g.base.get? c using il with
   |none=>rfl
   |some o=>rw[S.old _ _ q] at hc;exact Oo hc
  rcases lZ.mp hp with hp|hp
  ·exact S.new p hp
  ·rw[jV.mp hp];exact⟨bn _ h1,bn _ h2⟩
 ·rw[jV.mp hp];exact⟨h1,h2⟩
theorem SR.turn(S:SR g.w g.base ad os h)(f:FrB g L m ad h){p:Addr×Addr}(hp:ad[i]? =some p)(k:∀b ob,h.get? b=some ob->b≠L->¬(b=p.1\/b=p.2)->h'.get? b=some ob)(nl:h'.Ns L m)
  (F':∀b o,g.base.get? b=some o->h'.get? b=some o) (rep:(∀a vs,h.IsTuple a vs->h'.IsTuple a vs)->OR g.w ad h' o p):AF g L m ad h (os.set i o) [] h':=by
 have hm:=bG hp;have tp:∀a vs,h.IsTuple a vs->h'.IsTuple a vs:=λa vs t=>by
  obtain⟨o',e',c,r⟩:=t;refine⟨o',k a o' e' (λq=>?_) λq=>?_,c,r⟩
  ·subst q;exact Ns.notTuple f.ns vs ⟨o',e',c,r⟩
  ·obtain⟨o2,e2,c2⟩:=S.live ⟨p,hm,q⟩;rw[e'] at e2;obtain rfl:=bg e2;exact c2 c
 refine⟨⟨⟨F',by simp[S.len],λj o' q e1 e2=>?_,λj1 j2 q q' OD e1 e2=>?_,λq hq=>?_⟩,λb ob e n=>?_,λ_ hq=>nomatch hq⟩,nl⟩
 ·rw[bE] at e2⊢;by_cases hj:i=j
  ·subst hj;rw[hp] at e2;obtain rfl:=bg e2;have hi:i<os.length:=by rw[<-S.len];exact(im.mp hp).1
   rw[qL hi] at e1;obtain rfl:=bg e1;exact rep tp
  ·rw[qs hj] at e1;have hq:q∈ad:=bG e2;obtain⟨s1,s2,s3,s4⟩:=S.sep i j p q hj hp e2;exact OR.mono (AU.refl _) tp (λob e=>k _ _ e (λz=>f.out ⟨q,hq,.inl z.symm⟩) λz=>z.elim (λz=>s1 z.symm) λz=>s3 z.symm)
    (λob e=>k _ _ e (λz=>f.out ⟨q,hq,.inr z.symm⟩) λz=>z.elim (λz=>s2 z.symm) λz=>s4 z.symm) (S.rep j o' q e1 e2)
 ·rw[bE] at e1 e2;exact S.sep _ _ _ _ OD e1 e2
 ·rw[bE] at hq;exact S.new q hq
 ·exact k b ob e (λz=>n (.inr z)) λz=>n (.inl ⟨p,hm,z⟩)
structure CK(g:Gl)(C:Addr):Prop where
 cd:∃cd,clsIn g.K C=some cd/\cd.hasDict=true
 ga:findIn g.K (.ref C) "__getattribute__"=some (some (.builtin "object.__getattribute__"))
 sa:findIn g.K (.ref C) "__setattr__"=some (some (.builtin "object.__setattr__"))
 plain:plainOver g.K C=true
 names:∀x∈Bd,findIn g.K (.ref C) x=some none
theorem HD{ad:AH}{h:Heap}:∀{fs:List (Str×V)}{es:List DictEntry},Bl ad h fs es->(fs.map (·.1)).Nodup->FH x v fs->∃t y hs,es.find? (λe=>e.key.isStr x)=some ⟨hs,.str x t,y⟩/\VR ad h v y
 |[],_,_,_,q=>nomatch q
 |f::r,es,⟨hs,t,y,HK,e1,e2,e3⟩,nd,q=>by
  subst e1;cases q with
  |head=>exact⟨t,y,hs,by rw[sh];simp[Value.isStr],e2⟩
  |tail q=>
   have hne:f.1≠x:=λe=>(jH.mp nd).1 (by have:=mj (f:=(·.1)) q.mem;subst e;exact this);obtain⟨t',y',IE,a,b⟩:=HD e3 (jH.mp nd).2 q;refine⟨t',y',IE,?_,b⟩;rw[sh];have:(Value.str f.1 t).isStr x=false:=by simp[Value.isStr,hne]
   rw[this];exact a
theorem HC{ad:AH}{h:Heap}:∀{fs:List (Str×V)}{es:List DictEntry},Bl ad h fs es->es.any (·.refKey)=false
 |[],_,e=>by rw[show _=[] from e];rfl
 |f::r,es,⟨hs,t,y,HK,e1,e2,e3⟩=>by subst e1;rw[ru,HC e3];rfl
noncomputable def Kg(x:Str):List Value->Sem Value
 |[o]=>getAttr o x true
 |_=>unsupported ""
noncomputable def HQ:V->Bool
 |.imm (.builtin _)=>false
 |_=>true
theorem NO(hp:HQ v=true)(r:VR ad h v y):handedIn y=true:=by
 induction v using Mine.V.casesOn with
 |imm w=>simp only[VR] at r;subst r;induction y using qy<;>first|rfl|cases hp
 |none=>simp only[VR] at r;rw[r];rfl
 |bool=>simp only[VR] at r;rw[r];rfl
 |int=>simp only[VR] at r;obtain⟨_,e⟩:=r;rw[e];rfl
 |str=>simp only[VR] at r;obtain⟨_,e⟩:=r;rw[e];rfl
 |bytes=>simp only[VR] at r;obtain⟨_,_,e,_⟩:=r;rw[e];rfl
 |ref=>simp only[VR] at r;obtain⟨_,_,e⟩:=r;rw[e];rfl
 |tup=>simp only[VR] at r;obtain⟨_,_,e,_⟩:=r;rw[e];rfl
theorem VG(hc:CK g C)(hi:os[i]? =some (.inst C fs))(hx:FH x v fs)(hp:HQ v=true)(hk:K os v):Aw g d (Kg x) [.ref i] os K:=
 Aw.now hk λA s ad L m vs Q hr hs hf hv hq=>by
  obtain⟨_,rfl,hv1⟩:=hv.one;simp only[VR] at hv1;obtain⟨q,AX,rfl⟩:=hv1;obtain⟨⟨nd,an⟩,g1,Ej,n,g2,fl⟩:=hs.rep i _ q hi AX;obtain⟨t,y,hsh,e1,e2⟩:=HD fl nd hx;obtain⟨cd,c1,c2⟩:=hc.cd;have X1:findIn g.K (.ref C) x=some none:=hc.names x (an _ hx.mem);have X:=g.X.keeps hs.old;have I:InstAt s.heap q.1 (instObj C q.2) C (some (dictOf Ej n)):=⟨g1,rfl,rfl,g2⟩;have HW:lookIn x (dictOf Ej n)=some (some y):=by unfold lookIn;show(match Ej.toArray.toList.find? _ with|some e=>_|none=>_)=_;rw[show Ej.toArray.toList=Ej from rfl,e1]
  have lc:findObj g.K C (some (dictOf Ej n)) x=some (.value y):=by unfold findObj;rw[c1,X1];show(PySem.W.ownOf cd (some (dictOf Ej n)) x).bind _=_;unfold PySem.W.ownOf;rw[lW c2];show(lookIn x (dictOf Ej n)).bind _=_;rw[HW];rfl
  exact get_value X I hc.ga lc (NO hp e2) (hq y _ e2)
theorem Aa.Attr{pos:Pos}{Q:Value->Shared->Prop}
  (h:Aa g.M A (eval value env) (λo s₁=>Aa g.M A (getAttr o attr true) Q s₁) s)
  (he:eval (.Attribute value attr pos) env=(do
   let o<-eval value env
   standAt pos.atName
   let r<-PySem.holding [o] (getAttr o attr true)
   letTemporaryGo value o r
   Pure.pure r)):Aa g.M A (eval (.Attribute value attr pos) env) Q s:=by
 rw[he];exact Aa.bind (h.mono λo s₁ h₁=>Aa.bind (Aa.at (Aa.bind (Aa.holding (h₁.mono λr s₂ h₂=>Aa.bind (Aa.of (wpAny_letTemporaryGo (Aa.pure h₂))))))))
theorem ah{t:List Value->Sem Value}{A:Around}{s:Shared}{ad:AH}{L:Addr}{m:Str->Option Value}{Q:Value->Shared->Prop}
  (h:AG g F d e loc os λos a=>Aw g d t [a] os K) (hr:Bf A d) (hs:SR g.w g.base ad os s.heap) (hf:Bg g F L m loc ad s.heap)
  (hq:∀Ae Ag v v' h' tk,AF g L m ad s.heap Ae Ag h'->VR (ad++Ag) h' v v'->K Ae v->Q v' {s with heap:=h',toks:=tk}):
  Aa g.M A (eval e (F.env L)) (λx s₁=>Aa g.M A (t [x]) Q s₁) s:=
 h A s ad L m _ hr hs hf λAE m1 a x h1 tk1 a1 r1 k1=>k1 A _ _ L m [x] Q hr a1.sr (hf.after hs a1).toFrB (Aj.mk1 r1) (Ak (s:=s) hs hf.toFrB a1 hq)
theorem Wp{pos:Pos}(h:AG g F d e loc os λos a=>Aw g d (Kg x) [a] os K)
  (he:∀env,eval (.Attribute e x pos) env=(do
   let o<-eval e env
   standAt pos.atName
   let r<-PySem.holding [o] (getAttr o x true)
   letTemporaryGo e o r
   Pure.pure r)):AG g F d (.Attribute e x pos) loc os K:=
 λA s ad L m Q hr hs hf hq=>Aa.Attr (ah (t:=Kg x) h hr hs hf hq) (he _)
def He(g:Gl)(d:Nat)(t:List Value->Sem Unit)(args:List V)(os:List O)(K:List O->Prop):Prop:=∀(A:Around)(s:Shared)(ad:AH)(L:Addr)(m:Str->Option Value)(vs:List Value)(Q:Unit->Shared->Prop),Bf A d->SR g.w g.base ad os s.heap->FrB g L m ad s.heap->Aj ad s.heap args vs->(∀Ae Ag h' tk,AF g L m ad s.heap Ae Ag h'->K Ae->Q () {s with heap:=h',toks:=tk})->Aa g.M A (t vs) Q s
noncomputable def KW(x:Str):List Value->Sem Unit
 |[o,v]=>setAttr o x v
 |_=>unsupported ""
theorem UpdF.mem{fs:List (Str×V)}(h:UpdF x v fs GO):x∈fs.map (·.1):=by
 induction h with
 |head=>exact .head _
 |tail _ ih=>exact .tail _ ih
theorem Pl{ad:AH}{h:Heap}{hsh:Int}{key y:Value}:∀{fs GO:List (Str×V)}{es:List DictEntry},Bl ad h fs es->(fs.map (·.1)).Nodup->UpdF x v fs GO->VR ad h v y->Bl ad h GO (putL x hsh key y es)/\(putL x hsh key y es).length=es.length/\GO.map (·.1)=fs.map (·.1)
 |_,_,es,fl,nd,q,r=>by
  induction q generalizing es with
  | @head n u=>
   obtain⟨hs,t,z,HK,e1,e2,e3⟩:=fl;subst e1;refine⟨?_,?_,rfl⟩
   ·unfold putL;rw[lW (by simp[Value.isStr])];exact⟨hs,t,y,HK,rfl,r,e3⟩
   ·unfold putL;rw[lW (by simp[Value.isStr])];rfl
  | @tail f n n' q ih=>
   obtain⟨hs,t,z,HK,e1,e2,e3⟩:=fl;subst e1;have hx:x∈n.map (·.1):=q.mem;have hne:f.1≠x:=λe=>(jH.mp nd).1 (by subst e;exact hx);obtain⟨a,b,c⟩:=ih _ e3 (jH.mp nd).2;have e:putL x hsh key y (⟨hs,.str f.1 t,z⟩::HK)=⟨hs,.str f.1 t,z⟩::putL x hsh key y HK:=by rw[putL];rw[jU (by simp[Value.isStr,hne])]
   rw[e];exact⟨⟨hs,t,z,_,rfl,e2,a⟩,by rw[jK,jK,b],by rw[ik,ik,c]⟩
theorem putL_new{ad:AH}{h:Heap}{hsh:Int}{tk:Tok}{y:Value}:∀{fs:List (Str×V)}{es:List DictEntry},Bl ad h fs es->x∉fs.map (·.1)->VR ad h v y->Bl ad h (fs++[(x,v)]) (putL x hsh (.str x tk) y es)/\(putL x hsh (.str x tk) y es).length=es.length+1
 |[],es,e,_,r=>by rw[show es=[] from e];exact⟨⟨hsh,tk,y,[],rfl,r,rfl⟩,rfl⟩
 |f::fs,es,⟨hs,t,z,HK,e1,e2,e3⟩,hn,r=>by
  subst e1;have hne:f.1≠x:=λe=>hn (by rw[ik,e];exact .head _);obtain⟨a,b⟩:=putL_new (hsh:=hsh) (tk:=tk) e3 (λq=>hn (by rw[ik];exact .tail _ q)) r;have e:putL x hsh (.str x tk) y (⟨hs,.str f.1 t,z⟩::HK)=⟨hs,.str f.1 t,z⟩::putL x hsh (.str x tk) y HK:=by rw[putL];rw[jU (by simp[Value.isStr,hne])]
  rw[e];exact⟨⟨hs,t,z,_,rfl,e2,a⟩,by rw[jK,jK,b]⟩
theorem JP{ad:AH}{h:Heap}:∀{fs:List (Str×V)}{es:List DictEntry},Bl ad h fs es->es.length=fs.length
 |[],_,e=>by rw[show _=[] from e];rfl
 |f::r,es,⟨hs,t,y,HK,e1,e2,e3⟩=>by subst e1;rw[jK,jK,JP e3]
theorem Hp{KS:List O->Prop}{fs:List (Str×V)}(hc:CK g C)(hi:os[i]? =some (.inst C fs))
  (hu:UpdF x v fs GO\/(GO=fs++[(x,v)]/\x∉fs.map (·.1)/\x∈Bd)) (Ac:fs.length<=100) (hk:KS (os.set i (.inst C GO))):He g d (KW x) [.ref i,v] os KS:=by
 intro A s ad L m vs Q hr hs hf hv hq;obtain⟨_,y,rfl,hv1,hy⟩:=hv.two;simp only[VR] at hv1;obtain⟨q,AX,rfl⟩:=hv1;obtain⟨⟨nd,an⟩,g1,Ej,n,g2,fl⟩:=hs.rep i _ q hi AX;obtain⟨cd,c1,c2⟩:=hc.cd;have cq:=bG AX;have X:=g.X.keeps hs.old;have I:InstAt s.heap q.1 (instObj C q.2) C (some (dictOf Ej n)):=⟨g1,rfl,rfl,g2⟩;have kz:x∈Bd:=by
  rcases hu with hu|hu
  ·obtain⟨f,Iy,e⟩:=pe.mp hu.mem;exact e▸an f Iy
  ·exact hu.2.2
 have hl:(lookIn x (dictOf Ej n)).isSome=true:=by
  unfold lookIn;show((match Ej.toArray.toList.find? (λe=>e.key.isStr x) with|some e=>some (some e.val)|none=>if Ej.toArray.toList.any (·.refKey)=true then none else some none):Option (Option Value)).isSome=true;rw[show Ej.toArray.toList=Ej from rfl];cases Ej.find? (λe=>e.key.isStr x) with
  |some _=>rfl
  |none=>show((if Ej.any (·.refKey)=true then none else some none):Option (Option Value)).isSome=true;rw[HC fl];rfl
 have e':=putName_dict x (PyData.keyHash g.w.params x) (.str x (s.toks+1)) y Ej n;have hne:q.2≠L:=λz=>hf.out ⟨q,cq,.inr z.symm⟩;have cu:=JP fl;have bY:Bl ad s.heap GO (putL x (PyData.keyHash g.w.params x) (.str x (s.toks+1)) y Ej)/\(putL x (PyData.keyHash g.w.params x) (.str x (s.toks+1)) y Ej).length<=Ej.length+1/\((GO.map (·.1)).Nodup/\∀f∈GO,f.1∈Bd):=by
  rcases hu with hu|⟨rfl,h2,h3⟩
  ·obtain⟨a,b,c⟩:=Pl (hsh:=PyData.keyHash g.w.params x) (key:=.str x (s.toks+1)) fl nd hu hy;refine⟨a,by exact L1 [_,_] [] 0x8084108721d00041 b,by rw[c];exact nd,λf Iy=>?_⟩;have:f.1∈GO.map (·.1):=mj (f:=(·.1)) Iy;rw[c] at this;obtain⟨f2,h2,e⟩:=pe.mp this;exact e▸an f2 h2
  ·obtain⟨a,b⟩:=putL_new (hsh:=PyData.keyHash g.w.params x) (tk:=s.toks+1) fl h2 hy;refine⟨a,by exact L1 [_,_] [] 0x8721d0084108721d00041 b,?_,λf Iy=>?_⟩
   ·rw[jJ];refine pN.mpr ⟨nd,by simp,λa ha b hb=>?_⟩;simp at hb;subst hb;exact λe=>h2 (e▸ha)
   ·rcases lZ.mp Iy with Iy|Iy
    ·exact an f Iy
    ·rw[jV.mp Iy];exact h3
 refine Aa.of (set_plain X I hc.sa (osa_dict (s:={s with toks:=s.toks+1}) (hf.fr hs) (hf.newsBut g2 (hs.new q cq).2 hne) X I rfl hc.plain (by unfold takerIn;rw[hc.names x kz];rfl) (by rw[c1];exact c2) hl (λ_ hp=>nomatch hp) K2 e' rfl (L3 [_,_,_] [] 0x21c8b400104222104641642020fd02c80041 Ac cu bY.2.1) λh' F' N'=>?_));have kp:=DG hs F' (X:=[(q.2,_)]) N';refine hq _ [] h' _ (hs.turn hf AX (o:=.inst C GO) (λb ob e n1 n2=>kp b ob e n1 (by simp only[jV];exact λz=>n2 (.inr z))) F'.ns F'.keep λtp=>?_) hk;have X0:q.1≠q.2:=λz=>by rw[z] at g1;rw[g1] at g2;cases g2
 refine⟨bY.2.2,kp q.1 _ g1 (λz=>hf.out ⟨q,cq,.inl z.symm⟩) (by simp only[jV];exact X0),_,_,(N' (q.2,_) (.head _)).1,bY.1.mono (AU.refl _) tp⟩
end
section
variable{g:Gl}{F:Fn}{d:Nat}{os:List O}{loc:List (Option V)}{K:List O->V->Prop}{KT:List O->Bool->Prop}{KL:List O->List V->Prop}{p:Pos}{e l r:Expr}{x:Str}{v:V}
 {L:Addr} {m:Str->Option Value} {ad:AH} {h h':Heap}
theorem Aj.length{ad:AH}{h:Heap}:∀{vs:List V}{Ab:List Value},Aj ad h vs Ab->vs.length=Ab.length
 |[],_,r=>by simp only[Aj] at r;rw[r];rfl
 |v::vs,_,r=>by simp only[Aj] at r;obtain⟨y,t,rfl,_,r2⟩:=r;rw[jK,jK,Aj.length r2]
theorem Aj.get{ad:AH}{h:Heap}:∀{vs:List V}{Ab:List Value}{n:Nat}{v:V},Aj ad h vs Ab->vs[n]? =some v->∃y,Ab[n]? =some y/\VR ad h v y
 |[],_,_,_,_,e=>by simp at e
 |u::vs,_,0,v,r,e=>by simp only[Aj] at r;obtain⟨y,t,rfl,r1,_⟩:=r;simp at e;subst e;exact⟨y,by simp,r1⟩
 |u::vs,_,n+1,v,r,e=>by simp only[Aj] at r;obtain⟨y,t,rfl,_,r2⟩:=r;simp at e;obtain⟨z,a,b⟩:=Aj.get r2 e;exact⟨z,by simpa using a,b⟩
theorem AF.grow(S:SR g.w g.base ad os h)(f:FrB g L m ad h)(k:∀b o,h.get? b=some o->b≠L->h'.get? b=some o)(nl:h'.Ns L m)(F':∀b o,g.base.get? b=some o->h'.get? b=some o):AF g L m ad h os [] h':=by
 have tp:∀a vs,h.IsTuple a vs->h'.IsTuple a vs:=λa vs t=>by obtain⟨ob,e1,r⟩:=t;refine⟨ob,k a ob e1 λq=>?_,r⟩;subst q;exact Ns.notTuple f.ns vs ⟨ob,e1,r⟩
 refine⟨⟨⟨F',by simp[S.len],λi o q e1 e2=>?_,λi j q q' OD e1 e2=>?_,λq hq=>?_⟩,λb o e n=>k b o e λq=>n (.inr q),λ_ hq=>nomatch hq⟩,nl⟩
 ·rw[bE] at e2⊢;have hq:=bG e2;exact OR.mono (AU.refl _) tp (λob e=>k _ _ e λz=>f.out ⟨q,hq,.inl z.symm⟩) (λob e=>k _ _ e λz=>f.out ⟨q,hq,.inr z.symm⟩) (S.rep i o q e1 e2)
 ·rw[bE] at e1 e2;exact S.sep _ _ _ _ OD e1 e2
 ·rw[bE] at hq;exact S.new q hq
theorem Aa.eTuple{Q:Value->Shared->Prop}(h:Aa M A (spliced (backTo pos (starEach es env))) (λvs s'=>Aa M A (newTuple vs) Q s') s):Aa M A (eval (.Tuple es k pos) env) Q s:=by rw[arm_eval_Tuple];exact Aa.bind (Aa.at (Aa.bind h))
theorem Aa.eList{Q:Value->Shared->Prop}(h:Aa M A (spliced (backTo pos (starEach es env))) (λvs s'=>Aa M A (newList vs) Q s') s):Aa M A (eval (.List es pos) env) Q s:=by rw[arm_eval_List];exact Aa.bind (Aa.at (Aa.bind h))
theorem Qg{t:List Value->Sem Value}{es:List Expr}{A:Around}{s:Shared}{ad:AH}{L:Addr}{m:Str->Option Value}{Q:Value->Shared->Prop}
  (h:Q0 g F d p es loc os λos vs=>Aw g d t vs os K) (hr:Bf A d) (hs:SR g.w g.base ad os s.heap) (hf:Bg g F L m loc ad s.heap)
  (hq:∀Ae Ag v v' h' tk,AF g L m ad s.heap Ae Ag h'->VR (ad++Ag) h' v v'->K Ae v->Q v' {s with heap:=h',toks:=tk}):
  Aa g.M A (spliced (backTo p (starEach es (F.env L)))) (λvs s₁=>Aa g.M A (t vs) Q s₁) s:=
 h A s ad L m _ hr hs hf λAE m1 vs Ab h1 tk1 a1 r1 k1=>k1 A _ _ L m Ab Q hr a1.sr (hf.after hs a1).toFrB r1 (Ak (s:=s) hs hf.toFrB a1 hq)
theorem Sc(h:Q0 g F d p es loc os λos vs=>Aw g d newTuple vs os K):AG g F d (.Tuple es k p) loc os K:=λA s ad L m Q hr hs hf hq=>Aa.eTuple (Qg h hr hs hf hq)
theorem Wj(h:Q0 g F d p es loc os λos vs=>Aw g d newList vs os K):AG g F d (.List es p) loc os K:=λA s ad L m Q hr hs hf hq=>Aa.eList (Qg h hr hs hf hq)
theorem RD{vs:List V}(Ac:vs.length<=100000)(hk:K os (.tup vs)):Aw g d newTuple vs os K:=by intro A s ad L m Ab Q hr hs hf hv hq;have hl:=hv.length;refine Aa.of (newTuple_N (hf.fr hs) (hf.newsAll) (λh' F' N'=>?_) (by rw[pI];exact L2 [_,_] [] 0x24308c350132101060000005c80041 Ac hl));have kp:=DG hs F' (X:=[(s.heap.objs.size,_)]) N';have a:AF g L m ad s.heap os [] h':=AF.grow hs hf (λb o e n=>kp b o e n (by simp)) F'.ns F'.keep;refine hq os [] (.tup vs) _ h' s.toks a ?_ hk;simp only[VR];exact⟨_,Ab,rfl,⟨_,(N' (_,_) (.head _)).1,rfl,0,rfl⟩,hf.vrs hs a.toAft hv⟩
theorem Ps{vs:List V}(Ac:vs.length<=100000)(hk:K (os++[.list vs]) (.ref os.length)):Aw g d newList vs os K:=by
 intro A s ad L m Ab Q hr hs hf hv hq;have hl:=hv.length;refine Aa.of (newList_K (hf.fr hs) (hf.newsAll) (λa h' F' N' lt=>?_) (by rw[pI];exact L2 [_,_] [] 0x24308c350132101060000005c80041 Ac hl));have kp:=DG hs F' (X:=[(a,_)]) N';have fr:s.heap.get? a=none:=JN (X:=[(a,_)]) N' (.head _) lt;have g1:=(N' (a,_) (.head _)).1;have tp:∀b vs,s.heap.IsTuple b vs->h'.IsTuple b vs:=λb vs t=>by obtain⟨ob,e1,r⟩:=t;refine⟨ob,kp b ob e1 (λq=>?_) (by simp),r⟩;subst q;exact Ns.notTuple hf.ns vs ⟨ob,e1,r⟩
 have A1:=hs.push hf (q:=(a,a)) (o:=.list vs) (λb o e n=>kp b o e n (by simp)) F'.ns F'.keep fr fr ⟨rfl,Ab,0,g1,Aj.mono (AU.app _ _) tp _ _ hv⟩;refine hq _ _ (.ref os.length) _ h' s.toks A1 ?_ hk;simp only[VR];exact⟨(a,a),by rw[<-hs.len];simp,rfl⟩
noncomputable def CQ(value AB:Expr):List Value->Sem Value
 |[o,i]=>subscriptTail value AB o i
 |_=>unsupported ""
theorem Aa.eSub{value AB pos}{Q:Value->Shared->Prop}
  (h:Aa M A (eval value env) (λo s₁=>Aa M A (eval AB env) (λi s₂=>Aa M A (subscriptTail value AB o i) Q s₂) s₁) s):Aa M A (eval (.Subscript value AB pos) env) Q s:=by
 rw[eval_Subscript];exact Aa.bind (h.mono λo s₁ h₁=>Aa.bind (Aa.holding (h₁.mono λi s₂ h₂=>Aa.bind (Aa.at h₂))))
theorem af(h:AG g F d l loc os λos o=>AG g F d r loc os λos i=>Aw g d (CQ l r) [o,i] os K):AG g F d (.Subscript l r p) loc os K:=λA s ad L m Q hr hs hf hq=>Aa.eSub (MS (t:=CQ l r) h hr hs hf hq)
noncomputable def As(e:Expr):Bool:=cond (Nat.beq e.ctorIdx 26) false true
theorem AL(hp:As AB=true)(o i:Value):subscripted AB false o i=operate [o,i] (getItem o i):=by induction AB using jS<;>first|rfl|exact xB hp
theorem NB{value AB:Expr}{l:List V}{i:Int}(h0:0<=i)(Ef:i<1000000)(hv:l[i.toNat]? =some v)(hk:K os v)(hp:As AB=true):Aw g d (CQ value AB) [.tup l,.int i] os K:=
 Aw.now hk λA s ad L m vs Q hr hs hf AK hq=>by
  obtain⟨a,b,rfl,r1,r2⟩:=AK.two;simp only[VR] at r1 r2;obtain⟨q,Ab,rfl,t,r⟩:=r1;obtain⟨ti,rfl⟩:=r2;obtain⟨y,hy,ry⟩:=r.get hv;have Ac:=im.mp hy |>.1;refine tail_any (T:="tuple") t.typeIs slot_tuple_getitem.lookup (PyProof.Rows.getItem_tuple t (L1 [] [_] 0x33020810000000000000000dcfa041 h0) (L1 [] [_] 0x7a120132091050000000000000000dc82441 Ef) (j:=i.toNat) ?_ (by simpa using hy) (hq y _ ry)) (AL hp _ _);have hn:¬i<0:=L1 [] [_] 0xcc0820c83041 h0;have:i.toNat<Ab.toArray.size:=by simpa using Ac
  simp only[seqIndex?,hn,h0];simp;exact⟨h0,L2 [_,_] [_] 0x1fd0c20088820f82441 Ac (bD (show 0<=i from h0))⟩
theorem K5{value AB:Expr}{l:List V}{i:Nat}{j:Int}(ho:os[i]? =some (.list l))(h0:0<=j)(Ef:j<1000000)(hv:l[j.toNat]? =some v)(hk:K os v)(hp:As AB=true):Aw g d (CQ value AB) [.ref i,.int j] os K:=Aw.now hk λA s ad L m vs Q hr hs hf AK hq=>by obtain⟨a,b,rfl,r1,r2⟩:=AK.two;simp only[VR] at r1 r2;obtain⟨q,AX,rfl⟩:=r1;obtain⟨ti,rfl⟩:=r2;obtain⟨_,Ab,n,g1,r⟩:=hs.rep _ _ q ho AX;obtain⟨y,hy,ry⟩:=r.get hv;have hl:s.heap.IsList q.1 Ab.toArray:=⟨_,g1,rfl,n,rfl⟩;exact tail_any (T:="list") hl.typeIs slot_list_getitem.lookup (wpAny_getItem_list hl h0 (L1 [] [_] 0x7a120132091050000000000000000dc82441 Ef) (by simpa using hy) (hq y _ ry)) (AL hp _ _)
theorem E0{l:List Int}{b:Array UInt8}(hb:Bp l b){n:Nat}{c:Int}(h:l[n]? =some c):∃u:UInt8,b.toList[n]? =some u/\c=u.toNat:=by rw[hb,oV] at h;obtain⟨u,a,b⟩:=pd.mp h;exact⟨u,a,b.symm⟩
theorem Jj{value AB:Expr}{l:List Int}{j c:Int}(h0:0<=j)(hv:l[j.toNat]? =some c)(Ac:l.length<=1000000)(hk:K os (.int c))(hp:As AB=true):Aw g d (CQ value AB) [.bytes l,.int j] os K:=
 Aw.now hk λA s ad L m vs Q hr hs hf AK hq=>by
  obtain⟨a,b,rfl,r1,r2⟩:=AK.two;simp only[VR] at r1 r2;obtain⟨q,tq,rfl,hb⟩:=r1;obtain⟨ti,rfl⟩:=r2;obtain⟨u,hu,rfl⟩:=E0 hb hv;have hl:l.length=q.toList.length:=by rw[hb];simp
  have Ef:=(im.mp hu).1;obtain⟨ql⟩:=q;refine tail_any (T:="bytes") (typeIs_bytes s _ tq) FB.slot_bytes_getitem.lookup (getItem_bytes (l:=ql) (by simp at hl;exact L2 [_,_] [] 0x2430fa12013210104200000000009c80041 Ac hl) h0 (by simp at Ef;exact L2 [_,_] [_] 0x1fd0c20088820f82441 Ef (bD (show 0<=j from h0))) ?_) (AL hp _ _);have e:(ql.getD j.toNat 0)=u:=by simp at hu;simp[List.getD,hu]
  rw[e];exact hq (.int u.toNat s.toks) _ VR.i
end
section
variable{g:Gl}{F:Fn}{d:Nat}{os:List O}{loc:List (Option V)}{K:List O->V->Prop}{KT:List O->Bool->Prop}{KL:List O->List V->Prop}{p:Pos}{e l r:Expr}{x:Str}{v:V}
 {L:Addr} {m:Str->Option Value} {ad:AH} {h h':Heap}
def ba(g:Gl)(F:Fn)(d:Nat)(e:Option Expr)(loc:List (Option V))(os:List O)(K:List O->V->Prop):Prop:=Cd g F d VR (λL=>valueOrNone (evalOpt e (F.env L))) loc os K
theorem Sb(hk:K os .none):ba g F d none loc os K:=Cd.now hk λ_ s _ _ _ _ _ _ _ hq=>bV (hq _ s.toks VR.n)
theorem Sa(h:AG g F d e loc os K):ba g F d (some e) loc os K:=h
def O8(M:Model)(value AB:Expr):Around->List Value->(Value->Shared->Prop)->Shared->Prop
 |A,[o,a,b],Q,s=>Aa M A (newFields "slice" [a,b,.none]) (λi s'=>Aa M A (subscriptTail value AB o i) Q s') s
 |_,_,_,_=>False
def QZ(g:Gl)(d:Nat)(W:Around->List Value->(Value->Shared->Prop)->Shared->Prop)(args:List V)(os:List O)(K:List O->V->Prop):Prop:=∀(A:Around)(s:Shared)(ad:AH)(L:Addr)(m:Str->Option Value)(vs:List Value)(Q:Value->Shared->Prop),Bf A d->SR g.w g.base ad os s.heap->FrB g L m ad s.heap->Aj ad s.heap args vs->(∀Ae Ag v v' h' tk,AF g L m ad s.heap Ae Ag h'->VR (ad++Ag) h' v v'->K Ae v->Q v' {s with heap:=h',toks:=tk})->W A vs Q s
theorem Aa.eSlice{M:Model}{A:Around}{s:Shared}{env:Env}{value:Expr}{lo hi:Option Expr}{sp pos:Pos}{Q:Value->Shared->Prop}
  (h:Aa M A (eval value env) (λo s₁=>Aa M A (valueOrNone (evalOpt lo env)) (λa s₂=>Aa M A (valueOrNone (evalOpt hi env)) (λb s₃=>O8 M value (.Slice lo hi none sp) A [o,a,b] Q s₃) s₂) s₁) s):Aa M A (eval (.Subscript value (.Slice lo hi none sp) pos) env) Q s:=by
 rw[eval_Subscript];refine Aa.bind (h.mono λo s₁ h₁=>Aa.bind (Aa.holding ?_));rw[arm_eval_Slice];refine Aa.bind (h₁.mono λa s₂ h₂=>Aa.bind (Aa.holding (h₂.mono λb s₃ h₃=>Aa.bind (Aa.holding (Aa.pure ?_)))));exact Aa.mono h₃ λi s₄ h₄=>Aa.bind (Aa.at h₄)
theorem Sd{lo hi:Option Expr}{sp:Pos}(h:AG g F d l loc os λos o=>ba g F d lo loc os λos a=>ba g F d hi loc os λos b=>QZ g d (O8 g.M l (.Slice lo hi none sp)) [o,a,b] os K):AG g F d (.Subscript l (.Slice lo hi none sp) p) loc os K:=by intro A s ad L m Q hr hs hf hq;refine Aa.eSlice (h A s ad L m _ hr hs hf λAE m1 o x1 h1 tk1 a1 r1 k1=>?_);have Bv:=hf.after hs a1;have AX:=Ak (s:=s) hs hf.toFrB a1 hq;refine k1 A _ (ad++m1) L m _ hr a1.sr Bv λBM m2 a x2 h2 Ci a2 r2 k2=>?_;have CX:=Bv.after a1.sr a2;have IG:=Ak (s:={s with heap:=h1,toks:=tk1}) a1.sr Bv.toFrB a2 AX;refine k2 A _ _ L m _ hr a2.sr CX λKv m3 b x3 h3 EI a3 r3 k3=>?_;have QN:=CX.after a2.sr a3;exact k3 A {s with heap:=h3,toks:=EI} _ L m _ _ hr a3.sr QN.toFrB (Aj.mk3 (CX.vr a2.sr a3.toAft (Bv.vr a1.sr a2.toAft r1)) (CX.vr a2.sr a3.toAft r2) r3) (Ak (s:={s with heap:=h2,toks:=Ci}) a2.sr CX.toFrB a3 IG)
inductive BD:V->Option Int->Prop
 |none:BD .none none
 |int (i:Int):BD (.int i) (some i)
theorem BD.is{a:V}{lo:Option Int}(q:BD a lo){y:Value}(r:VR ad h a y):IsPart y lo:=by
 cases q with
 |none=>simp only[VR] at r;rw[r];exact .none
 |int i=>simp only[VR] at r;obtain⟨t,e⟩:=r;rw[e];exact .int _ _
noncomputable def cut{α:Type}(l:List α)(lo hi:Option Int):List α:=(l.drop (lo.elim 0 (clipAt l.length))).take (hi.elim l.length (clipAt l.length)-lo.elim 0 (clipAt l.length))
theorem Aj.three{ad:AH}{h:Heap}{a b c:V}{vs:List Value}(r:Aj ad h [a,b,c] vs):∃x y z,vs=[x,y,z]/\VR ad h a x/\VR ad h b y/\VR ad h c z:=by simp only[Aj] at r;obtain⟨x,_,rfl,h1,y,_,rfl,h2,z,_,rfl,h3,rfl⟩:=r;exact⟨x,y,z,rfl,h1,h2,h3⟩
theorem GV{value:Expr}{lo hi:Option Expr}{sp:Pos}{l:List Int}{a b:V}{x y:Option Int}(ha:BD a x)(hb:BD b y)(Ac:l.length<=1000000)(hk:K os (.bytes (cut l x y))):
  QZ g d (O8 g.M value (.Slice lo hi none sp)) [.bytes l,a,b] os K:=by
 intro A s ad L m vs Q hr hs hf AK hq;obtain⟨v1,v2,v3,rfl,r1,r2,r3⟩:=AK.three;simp only[VR] at r1;obtain⟨q,tq,rfl,hB⟩:=r1;show Aa g.M A (newFields "slice" [v2,v3,.none]) _ s;refine Aa.of (pO (T:="slice") (data:=.fields #[v2,v3,.none]) (dict:=none) (Q:=λi s'=>Aa g.M A (subscriptTail value _ _ i) Q s') (Aa.of ?_));refine KBc.slice_K (hf.fr hs) hf.newsAll (show KBw.bInts q=l from hB.symm) (ha.is r2) (hb.is r3) (L1 [_] [] 0x7a120132001060000005c80041 Ac) (λh' t' k F' N' e=>?_) rfl (ht:=?_)
 ·have kp:=DG hs F' (X:=[]) (ds:=[]) N';have a:AF g L m ad s.heap os [] h':=AF.grow hs hf (λb o e n=>kp b o e n (by simp)) F'.ns F'.keep;refine hq os [] (.bytes (cut l x y)) _ h' k a ?_ hk;simp only[VR];exact⟨_,t',rfl,e.symm⟩
 ·intro r;induction value using jS<;>rfl
end
namespace BA
open Builtin
theorem owner:Manifest.owners.lookup (String.ofList ['y','a','r','r','a','e','t','y','b'].reverse)=some Manifest.sig_bytearray:=by kernel_rfl
theorem slot_len:Slot "bytearray" "__len__" "bytearray.__len__":=
 .of (owner:="bytearray") (n:="__len__") (by rw[or,jR];kernel_rfl) (by decide+kernel) (by decide+kernel) (by decide+kernel)
  (by first|exact .inl (by decide+kernel)|exact .inr (by decide+kernel)) (by rw[qB];kernel_rfl)
theorem entry_len:entryFor table "bytearray.__len__"=some Builtin.«bytearray.__len__»:=rk (by kernel_rfl)
theorem args_len(a:Value):argsOk "bytearray.__len__" ⟨[a],[]⟩:=by unfold argsOk;rw[signature?_of (id:="bytearray.__len__") (n:=['_','_','n','e','l','_','_']) (o:=['y','a','r','r','a','e','t','y','b']) (by kernel_rfl) owner];kernel_rfl
theorem slot_getitem:Slot "bytearray" "__getitem__" "bytearray.__getitem__":=
 .of (owner:="bytearray") (n:="__getitem__") (by rw[or,jR];kernel_rfl) (by decide+kernel) (by decide+kernel) (by decide+kernel)
  (by first|exact .inl (by decide+kernel)|exact .inr (by decide+kernel)) (by rw[qB];kernel_rfl)
theorem entry_getitem:entryFor table "bytearray.__getitem__"=some Builtin.«bytearray.__getitem__»:=rk (by kernel_rfl)
theorem args_getitem(a b:Value):argsOk "bytearray.__getitem__" ⟨[a,b],[]⟩:=by unfold argsOk;rw[signature?_of (id:="bytearray.__getitem__") (n:=['_','_','m','e','t','i','t','e','g','_','_']) (o:=['y','a','r','r','a','e','t','y','b']) (by kernel_rfl) owner];kernel_rfl
def At(h:Heap)(a:Addr)(b:Array UInt8):Prop:=h.get? a=some {cls:=.type "bytearray",data:=.bytearray b 0}
theorem At.typeIs{s:Shared}(x:At s.heap a b):s.TypeIs (.ref a) "bytearray":=⟨_,x,rfl⟩
theorem C3{E:Value->Shared->Prop}{s:Shared}{Q:Array UInt8->Shared->Prop}(x:At s.heap a b)(h:Q b s):wpAny M A (Bytes.payload (.ref a)) Q E s:=by show wpAny M A (Bytes.payload? (.ref a)>>=_) Q E s;refine bB ?_;show wpAny M A (load a>>=_) _ E s;exact bB (qg x (bV (bV h)))
theorem meets_len(a:Addr):Meets («bytearray.__len__» ⟨[.ref a],[]⟩) (λ_ R s=>∃b,At s.heap a b/\R (.ok (.ret (.int b.size s.toks))) {s with toks:=s.toks+1}):=by refine .of_wp λprog w A R s hS=>?_;obtain⟨b,x,h⟩:=hS;show wpAny _ _ (Bytes.payload (.ref a)>>=λr=>_) _ _ s;refine bB (C3 x ?_);exact bB (sO (bV ⟨_,rfl,h⟩))
theorem meets_index(a:Addr)(i:Int)(u:Tok)(c:UInt8)(hr:Bytes.fitsIndex i=true):
  Meets («bytearray.__getitem__» ⟨[.ref a,.int i u],[]⟩) (λ_ R s=>∃b,At s.heap a b/\(seqIndex? i b.size).bind (b[·]?)=some c/\R (.ok (.ret (.int c.toNat s.toks))) {s with toks:=s.toks+1}):=by
 refine .of_wp λprog w A R s hS=>?_;obtain⟨b,x,hc,h⟩:=hS;show wpAny _ _ (Bytes.subscript? (.int i u)>>=λr=>_) _ _ s;refine bB ?_;unfold Bytes.subscript?;refine bB (jP (typeIs_int s i u) F.slot_int_index.lookup ?_);show wpAny _ _ (if (!Bytes.fitsIndex i)=true then _ else pure (some i)) _ _ s;rw[hr];refine bV ?_;show wpAny _ _ (Bytes.payload (.ref a)>>=λr=>_) _ _ s;refine bB (C3 x ?_);show wpAny _ _ (match (seqIndex? i b.size).bind (b[·]?) with|some x=>_|none=>_) _ _ s;rw[hc];refine bB (m:=PySem.retInt c.toNat) ?_;exact bB (sO (bV (bV ⟨_,rfl,h⟩)))
theorem meets_slice(o a:Addr){l u:Value}{lo hi:Option Int}(hl:IsPart l lo)(hu:IsPart u hi):
  Meets («bytearray.__getitem__» ⟨[.ref o,.ref a],[]⟩) (λ_ R s=>∃b,At s.heap o b/\s.heap.IsSliceOf a l u .none/\b.size<=sizeLine/\R (.ok (.ret (.ref s.heap.objs.size))) {s with heap:=s.heap.push {cls:=.type "bytearray",data:=.bytearray (KBy.picked b lo hi) 0}}):=by
 refine .of_wp λprog w A R s hS=>?_;obtain⟨b,x,⟨ob,ho,hc,hd⟩,Uh,h⟩:=hS;have hT:s.TypeIs (.ref a) "slice":=⟨ob,ho,hc⟩;show wpAny _ _ (Bytes.subscript? (.ref a)>>=λr=>_) _ _ s;refine bB ?_;unfold Bytes.subscript?;refine bB (jP hT slice_no_index (bV ?_));refine bB (wpAny_typeOf hT ?_);have XY:wpAny (model prog w) A.in1 (Bytes.sliceParts (.ref a)) (λr s'=>r=(rawPart lo,rawPart hi,rawPart none)/\s'=s) (λ_ _=>False) s:=by
  unfold Bytes.sliceParts;refine bB (qG (x:=.none) ho hd rfl ?_)
  kby_none
  refine qC (qm (show ¬((Value.none==rawInt 0)=true) from pJ) ?_);refine bB (qG (x:=l) ho hd rfl ?_);refine bB (wpAny_mono (Q:=λr s'=>r=rawPart lo/\s'=s) (E:=λ_ _=>False) (by
   cases hl with
   |none=>exact jN rfl ⟨rfl,rfl⟩
   |int i t=>exact qC (qm (show ¬((Value.int _ _==Value.none)=true) from pJ) (bB (jP (T:="int") (typeIs_int _ _ _) F.slot_int_index.lookup (qC (qm (show ¬(Option.isNone (some _)=true) from pJ) (bB (jN rfl (bV ⟨rfl,rfl⟩))))))))) (λr s' hr=>?_) λ_ _ e=>e.elim)
  obtain⟨rfl,rfl⟩:=hr;refine bB (qG (x:=u) ho hd rfl ?_);refine bB (wpAny_mono (Q:=λr t=>r=rawPart hi/\t=s') (E:=λ_ _=>False) (by
   cases hu with
   |none=>exact jN rfl ⟨rfl,rfl⟩
   |int i t=>exact qC (qm (show ¬((Value.int _ _==Value.none)=true) from pJ) (bB (jP (T:="int") (typeIs_int _ _ _) F.slot_int_index.lookup (qC (qm (show ¬(Option.isNone (some _)=true) from pJ) (bB (jN rfl (bV ⟨rfl,rfl⟩))))))))) (λr s' hr=>?_) λ_ _ e=>e.elim)
  obtain⟨rfl,rfl⟩:=hr;exact bV ⟨rfl,rfl⟩
 have go:wpAny (model prog w) A.in1 (sliceIndices (rawPart lo) (rawPart hi) (rawPart none) b.size) (λr s'=>r=sliceBounds lo hi none b.size/\s'=s) (λ_ _=>False) s:=jN (sliceIndices_raw lo hi none b.size (λe=>nomatch e)) ⟨rfl,rfl⟩
 have Ix:∀x,x=KBy.picked b lo hi->x.size<=sizeLine:=λx e=>by rw[e];exact mi (KBc.size_picked_le b lo hi) Uh
 refine bB (wpAny_mono XY (λr s' hr=>?_) λ_ _ e=>e.elim);obtain⟨rfl,rfl⟩:=hr;show wpAny _ _ (Bytes.payload (.ref o)>>=λr=>_) _ _ _;refine bB (C3 x ?_);refine bB (wpAny_mono go (λr s' hr=>?_) λ_ _ e=>e.elim);obtain⟨hr1,hr2⟩:=hr;subst hr1 hr2;refine bB (m:=Bytes.newBytearray _) (pO (T:="bytearray") (dict:=none) (bV ⟨_,rfl,h⟩) ?_);exact Ix _ rfl
end BA
section
variable{prog:Program}{w:World}{A:Around}{s:Shared}{R:Flow->Shared->Prop}
abbrev ZY(M:Model)(A:Around)(R:Flow->Shared->Prop):Fin->Shared->Prop:=λfin s'=>match fin with|.done f=>R f s'|.again c'=>c'.quiet=true/\Ao M A c' R s'
theorem Ao.builtin{id:String}{args:Args}{b:Builtin}(hb:entryFor table id=some b)(hd:aX (.builtin id args))(h:Aa (model prog w) (A.under (.builtin id args)) (b args) (ZY (model prog w) A R) s):Ao (model prog w) A (.builtin id args) R s:=by refine Ao.tree hd ?_;show Aa _ _ (match entryFor table id with|some b=>b args|none=>unsupported ((withoutEnding? id "#data").getD id)) _ s;rw[hb];exact h
theorem Ao.callB{id:String}{args:Args}{b:Builtin}(hq:(Code.builtin id args).quiet=true)(hb:entryFor table id=some b)(hd:aX (.builtin id args))
  (h:Aa (model prog w) A.in1 (checkBuiltinCall id args) (λ_ s₁=>Aa (model prog w) (A.under (.builtin id args)) (b args) (ZY (model prog w) A R) s₁) s):Ao (model prog w) A (.call (.builtin id) args) R s:=by
 refine Ao.tree (λ_ _=>rfl) ?_;show Aa _ A.in1 (do checkBuiltinCall id args;again (.builtin id args)) _ s;exact Aa.bind (h.mono λ_ s₁ h₁=>Aa.pure ⟨hq,Ao.builtin hb hd h₁⟩)
end
section
variable{prog:Program}{w:World}{A:Around}{K:Frag}{C:Addr}{R:Flow->Shared->Prop}{h:Heap}{g:Array GenState}{d:Drawn}{t:Nat}{os:OsState}
theorem VK{rest:List Value}{fI:Addr}(X:K.In h)(hm:makesIn K C=true)(hi:findIn K (.ref C) "__init__"=some (some (.ref fI)))(hf:typeIn K (.ref fI)=some (.type "function"))
  (hq:Ao (model prog w) (A.under (.builtin "type.__call__" ⟨.ref C::rest,[]⟩)) (.call (.ref fI) ⟨.ref (h.objs.size+1)::rest,[]⟩) (λf s'=>f=.ret .none/\R (.ret (.ref (h.objs.size+1))) s') ⟨(h.push emptyDict).push (instObj C h.objs.size),g,d,t,os⟩):
  Ao (model prog w) A (.call (.ref C) ⟨rest,[]⟩) R ⟨h,g,d,t,os⟩:=by
 have Y:=makes_of (M:=model prog w) X hm;have hI:=looks_findIn (M:=model prog w) X hi;have Y':=Y;obtain⟨⟨oc,od,cd,sl,hC,e1,e2,e4⟩,made,base,BW,top,call,typ⟩:=Y;refine Ao.tree (λ_ _=>rfl) ?_;show Aa _ _ (callAny (.ref C) _) _ _;show Aa _ _ (load C>>=_) _ _;refine Aa.bind (Aa.of (qg hC ?_));show Aa _ _ (callAny.viaDunder (.ref C) _) _ _;unfold callAny.viaDunder;refine Aa.bind (Aa.of (call.at ?_));dsimp only;rw[tc_bind];refine Aa.bind (Aa.pure (Aa.bind (Aa.pure ?_)));refine Aa.pure (a:=Fin.again (.call (.builtin "type.__call__") ⟨.ref C::rest,[]⟩)) (And.intro rfl ?_);refine Ao.callB (Code.quiet_builtin _ (by decide+kernel)) entry_typeCall (PI (by decide+kernel) (by intro _ _;kernel_rfl)) (Aa.of (check_slot tc_kind tc_split typ (tc_args _ _ _) ?_));unfold Builtin.«type.__call__»;have hm:Looks (model prog w) h (mroOf (.ref C)) cd.mro:=((Looks.ld (part:=none) hC).andThen .now).andThen .now;show Aa _ _ (mroOf (.ref C)>>=_) _ _;refine Aa.bind (Aa.of (hm.at ?_));rw[e4];refine Aa.bind (Aa.of (made.at ?_));dsimp only;refine Aa.bind (Aa.pure (Aa.bind (Aa.holding (Aa.call (Ao.of (new_K Y' hI (.inl rfl) ?_))))));dsimp only;have k:∀b o,h.get? b=some o->((h.push emptyDict).push (instObj C h.objs.size)).get? b=some o:=λb o e=>cP _ (cP _ e);have hx:((h.push emptyDict).push (instObj C h.objs.size)).get? (h.objs.size+1)=some (instObj C h.objs.size):=by heap_get
 have t1:Looks (model prog w) ((h.push emptyDict).push (instObj C h.objs.size)) (typeOf (.ref (h.objs.size+1))) (.ref C):=(Looks.ld hx).andThen .now;have inst:Looks (model prog w) ((h.push emptyDict).push (instObj C h.objs.size)) (isInstance (.ref (h.objs.size+1)) (.ref C)) true:=t1.andThen (BW.keeps k);have cZ:Looks (model prog w) ((h.push emptyDict).push (instObj C h.objs.size)) (specialOf (.ref (h.objs.size+1)) (Str.ofString "__init__")) (some (.ref fI)):=t1.andThen (hI.keeps k);have lR:=(bind_fn (M:=model prog w) X (.ref (h.objs.size+1)) hf).keeps k;refine Aa.bind (Aa.of (inst.at ?_));refine Aa.ite (λe=>by exact xB e) λ_=>?_;refine Aa.bind (Aa.holding ?_);unfold callSpecial?;refine Aa.bind (Aa.of (cZ.at ?_));refine Aa.holding (Aa.bind (Aa.of (lR.at ?_)));dsimp only;refine Aa.bind (Aa.call (hq.mono λf s' q=>?_));obtain⟨rfl,q⟩:=q;exact Aa.pure (Aa.ite (λe=>by exact xB e) λ_=>Aa.pure q)
end
namespace BA
open Builtin
set_option maxRecDepth 1000000 in
set_option maxHeartbeats 4000000 in
theorem Ny:("bytearray.__new__".splitOn ".__new__").headD ""="bytearray":=by simp+decide [String.splitOn,String.splitOnAux]
theorem mro:mroOf (.type "bytearray")=pure [.type "bytearray",.type "object"]:=by rw[mroOf_type];kernel_rfl
theorem Lb:typeLookup (.type "bytearray") "__new__"=pure (some (.builtin "bytearray.__new__")):=by rw[or,jR];kernel_rfl
theorem made:Bind.madeBy (.type "bytearray")=pure (some "bytearray.__new__"):=madeBy_type mro Lb (by decide+kernel)
theorem Hn:plainId "bytearray.__new__"=true:=by decide+kernel
theorem NR:entryFor table "bytearray.__new__"=some Builtin.«list.__new__»:=entryFor_alias (id':="list.__new__") (by kernel_rfl) (by first|rfl|decide+kernel) (by decide+kernel) (by kernel_rfl)
theorem RI(a:Value):checkBuiltinCall "bytearray.__new__" ⟨[.type "bytearray",a],[]⟩=pure ():=by kernel_rfl
theorem OM(a:Value):checkTypeCall "bytearray" ⟨[a],[]⟩=pure ():=by kernel_rfl
theorem N0:((Manifest.find? "bytearray").bind (·.mro.findSome? λt=>(Manifest.find? t).bind λb=>if b.noNew then some true else if b.attrs.any (·.1=="__new__") then some false else none)).getD false=false:=by decide+kernel
theorem sub_self:isSubtype (.type "bytearray") (.type "bytearray")=pure true:=by rw[qB];kernel_rfl
theorem DE:Slot "bytearray" "__init__" "bytearray.__init__":=
 .of (owner:="bytearray") (n:="__init__") (by rw[or,jR];kernel_rfl) (by decide+kernel) (by decide+kernel) (by decide+kernel)
  (by first|exact .inl (by decide+kernel)|exact .inr (by decide+kernel)) (by rw[qB];kernel_rfl)
theorem Lr:entryFor table "bytearray.__init__"=some Builtin.«bytearray.__init__»:=rk (by kernel_rfl)
theorem Oa(a b:Value):argsOk "bytearray.__init__" ⟨[a,b],[]⟩:=by unfold argsOk;rw[signature?_of (id:="bytearray.__init__") (n:=['_','_','t','i','n','i','_','_']) (o:=['y','a','r','r','a','e','t','y','b']) (by kernel_rfl) owner];kernel_rfl
theorem HV:typeLookup (.type "bytearray") "__release_buffer__"=pure (some (.builtin "bytearray.__release_buffer__")):=by rw[or,jR];kernel_rfl
theorem Dt:typeLookup (.type "bytearray") "__buffer__"=pure (some (.builtin "bytearray.__buffer__")):=by rw[or,jR];kernel_rfl
theorem BR:typeLookup (.type "bytes") "__buffer__"=pure (some (.builtin "bytes.__buffer__")):=by rw[or,jR];kernel_rfl
theorem Ea:typeLookup (.type "bytes") "__release_buffer__"=pure none:=by rw[or,jR];kernel_rfl
theorem ES:typeLookup (.type "bytes") "__index__"=pure none:=by rw[or,jR];kernel_rfl
theorem Ib:("bytearray.__release_buffer__").endsWith ("."++"__release_buffer__")=true:=by decide+kernel
theorem JT:("bytearray.__buffer__").endsWith ("."++"__buffer__")=true:=by decide+kernel
theorem Ez:("bytes.__buffer__").endsWith ("."++"__buffer__")=true:=by decide+kernel
theorem Ic:("bytearray.__release_buffer__").dropRight ("__release_buffer__".length+1)="bytearray":=by decide+kernel
theorem JW:("bytearray.__buffer__").dropRight ("__buffer__".length+1)="bytearray":=by decide+kernel
theorem EA:("bytes.__buffer__").dropRight ("__buffer__".length+1)="bytes":=by decide+kernel
theorem N7(v:Value):Bytes.bindOptional "bytearray.__init__" "bytearray" ["source","encoding","errors"] [v] []=pure [some v,none,none]:=by kernel_rfl
section
variable{prog:Program}{w:World}{A:Around}{E:Value->Shared->Prop}{s:Shared}{a:Addr}{b:Array UInt8}{Q:Value->Shared->Prop}
theorem Ql(x:Value){R:Flow->Shared->Prop}(h:R (.ret (.ref s.heap.objs.size)) {s with heap:=s.heap.push {cls:=.type "bytearray",data:=.bytearray #[] 0}}):
  codeAny (model prog w) A (.call (.builtin "bytearray.__new__") ⟨[.type "bytearray",x],[]⟩) (λr s'=>match r with|.ok f=>R f s'|.error _=>False) s:=by
 refine codeAny_of_tree ?_;show wpAny _ A.in1 (do checkBuiltinCall "bytearray.__new__" ⟨[.type "bytearray",x],[]⟩;again (.builtin "bytearray.__new__" ⟨[.type "bytearray",x],[]⟩)) _ _ s;refine bB (jN (RI x) (bV ⟨plainId_quiet Hn _,codeAny_builtin_stack NR rfl λp st=>?_⟩));rw[rU Hn _];have mh:=sub_self;have dh:=Ny;obtain⟨hp,g,d,tk,os⟩:=s;simp only[dh]
 wp_walk
 exact h
theorem Fb{Q:Bool->Shared->Prop}(hT:s.TypeIs (.ref a) "bytearray")(h:Q false s):wpAny (model prog w) A (Bytes.ownRelease (.ref a)) Q E s:=by
 unfold Bytes.ownRelease;refine bB ?_;unfold Bytes.slotIsOwn;refine bB (jP hT HV ?_);try dsimp only
 rw[Ib];refine qC (qm (by decide) ?_);rw[Ic];exact qj hT sub_self (bV h)
theorem Iq{t:Tok}{id:String}{Uu:Bool}{Q:Option (Array UInt8)->Shared->Prop}(h:Q (some b) s):wpAny (model prog w) A (Bytes.buffer? id (.bytes b t) Uu) Q E s:=by
 have hT:=typeIs_bytes s b t;unfold Bytes.buffer?;refine bB (jP hT BR ?_);try dsimp only
 refine bB ?_;unfold Bytes.slotIsOwn;refine bB (jP hT BR ?_);try dsimp only
 rw[Ez];refine qC (qm (by decide) ?_);rw[EA];refine qj hT (by rw[qB];kernel_rfl:isSubtype (.type "bytes") (.type "bytes")=pure true) ?_;refine qC (qm (by decide) ?_);refine bB (jP hT BR ?_);try dsimp only
 refine bB ?_;unfold Bytes.ownRelease;refine bB ?_;unfold Bytes.slotIsOwn;refine bB (jP hT Ea (bV (bV ?_)));refine qC (qm (by decide) ?_);exact bB (jN (a:=b) rfl (bV h))
theorem N5{id:String}{Uu:Bool}{Q:Option (Array UInt8)->Shared->Prop}(x:At s.heap a b)(h:Q (some b) s):wpAny (model prog w) A (Bytes.buffer? id (.ref a) Uu) Q E s:=by
 have hT:=x.typeIs;unfold Bytes.buffer?;refine bB (jP hT Dt ?_);try dsimp only
 refine bB ?_;unfold Bytes.slotIsOwn;refine bB (jP hT Dt ?_);try dsimp only
 rw[JT];refine qC (qm (by decide) ?_);rw[JW];refine qj hT sub_self ?_;refine qC (qm (by decide) ?_);refine bB (jP hT Dt ?_);try dsimp only
 refine bB (Fb hT ?_);refine qC (qm (by decide) ?_);exact bB (C3 x (bV h))
theorem Pz{Q:Bool->Shared->Prop}(h:Q false s):Aa (model prog w) A (Bytes.exported BW) Q s:=by
 refine⟨λΓ p hΓ hf=>?_⟩;rw[JS,Sem.wp_bind'];show Sem.wp _ _ (.stack .pure) _ _ p s;rw[Sem.wp_stack];show Q (List.any _ _) s;rw[List.any_eq_false.mpr λx hx=>?_]
 ·exact h
 ·refine Bool.eq_false_iff.mp ?_;rcases cS.mp hx with rfl|hx
  ·exact hf.1 BW _
  ·exact hf.2 x hx BW
theorem IQ{Q:Unit->Shared->Prop}(x:At s.heap a b₀)(hz:(f b₀).size<=sizeLine)(h:∀h',Heap.SameBut a s.heap h'->At h' a (f b₀)->Q () {s with heap:=h'}):wpAny (model prog w) A (Bytes.write (.ref a) f) Q E s:=by
 show wpAny _ _ (updateBytearray a f) _ _ _;unfold updateBytearray;refine bB (qg x ?_);show wpAny _ _ (update a (Obj.mapBytearray f)>>=λ_=>lookBehind a) _ _ _;refine bB (wpAny_update x ?_);have h2:At (s.heap.update a (Obj.mapBytearray f)) a (f b₀):=qQ (Obj.mapBytearray f) x rfl;refine wpAny_lookBehind h2 ?_ ?_
 ·show(if (f b₀).size>sizeLine then some "bytearray:memory" else none)=none;rw[jU (Nat.not_lt.mpr hz)]
 ·exact h _ (qh ..) h2
theorem NX{t:Tok}{R:Fin->Shared->Prop}(x:At s.heap a #[])(hz:b.size<=sizeLine)(h:∀h' tk,Heap.SameBut a s.heap h'->At h' a b->R (.done (.ret .none)) {s with heap:=h',toks:=tk}):
  Aa (model prog w) A (Builtin.«bytearray.__init__» ⟨[.ref a,.bytes b t],[]⟩) R s:=by
 unfold Builtin.«bytearray.__init__»;refine Aa.bind (Aa.of (Fb x.typeIs ?_));refine Aa.ite (λe=>by exact xB e) λ_=>?_;refine Aa.bind (Aa.of (jN (N7 _) ?_));refine Aa.bind (Aa.of (jN (a:=()) rfl ?_));refine Aa.bind (Aa.of (jN (a:=()) rfl ?_));refine Aa.bind ?_;unfold orM;refine Aa.bind (Pz ?_);show Aa _ _ (Bytes.exportsOf (.ref a)>>=_) _ s;refine Aa.bind (m:=Bytes.exportsOf (.ref a)) (Aa.of ?_);show wpAny _ _ (load a>>=_) _ _ s;refine bB (qg x (bV (Aa.pure ?_)));refine Aa.ite (λe=>by exact xB e) λ_=>?_;refine Aa.bind (Aa.of (IQ (f:=λ_=>#[]) x (by show(0:Nat)<=_;exact L0 [] [] 0x4000000b9064041) λh1 s1 x1=>?_));refine Aa.bind (Aa.of (jN (a:=none) rfl ?_));refine Aa.ite (λe=>by exact xB e) λ_=>?_;refine Aa.bind (m:=pure ()) (Aa.pure ?_);refine Aa.bind (Aa.of (jP (typeIs_bytes _ b t) ES ?_));refine Aa.ite (λe=>by exact xB e) λ_=>?_;refine Aa.bind (Aa.of (Iq ?_));refine Aa.bind (Aa.of (qV ?_));refine Aa.bind (Aa.of (IQ (f:=λ_=>b) x1 hz λh2 s2 x2=>?_));exact Aa.pure (h h2 s.toks (s1.trans s2) x2)
theorem call_new{t:Tok}{Q:Value->Shared->Prop}(hz:b.size<=sizeLine)(h:∀h' tk,(∀a o,s.heap.get? a=some o->h'.get? a=some o)->s.heap.get? s.heap.objs.size=none->At h' s.heap.objs.size b->Q (.ref s.heap.objs.size) {s with heap:=h',toks:=tk}):
  Aa (model prog w) A (call (.type "bytearray") [.bytes b t]) Q s:=by
 refine Aa.call (Ao.tree (λ_ _=>rfl) ?_);show Aa _ _ (callAny (.type "bytearray") _) _ _;refine Aa.pure ⟨Code.quiet_builtin _ (by decide+kernel),Ao.builtin F.entry_type_call (PI (by decide+kernel) (by intro _ _;kernel_rfl)) ?_⟩;unfold Builtin.«type.__call__»;dsimp only;refine Aa.ite (λe=>by exact xB e) λ_=>?_;refine Aa.ite (λe=>by rw[N0] at e;exact xB e) λ_=>?_;refine Aa.bind (Aa.of (jN (OM _) ?_));refine Aa.bind (Aa.of (jN mro ?_));refine Aa.ite (λe=>by exact xB e) λ_=>?_;refine Aa.bind (Aa.of (jN made ?_));dsimp only;refine Aa.bind (Aa.pure (Aa.bind (Aa.holding (Aa.call (Ao.of (Ql _ ?_))))));dsimp only;have k:∀c o,s.heap.get? c=some o->(s.heap.push {cls:=.type "bytearray",data:=.bytearray #[] 0}).get? c=some o:=λc o e=>cP _ e;have x0:At (s.heap.push {cls:=.type "bytearray",data:=.bytearray #[] 0}) s.heap.objs.size #[]:=jQ _ rfl;have hT:({s with heap:=s.heap.push {cls:=.type "bytearray",data:=.bytearray #[] 0}}:Shared).TypeIs (.ref s.heap.objs.size) "bytearray":=x0.typeIs (s:={s with heap:=s.heap.push {cls:=.type "bytearray",data:=.bytearray #[] 0}});refine Aa.bind (Aa.of (qj hT sub_self ?_));refine Aa.ite (λe=>by exact xB e) λ_=>?_;refine Aa.bind (Aa.holding ?_);unfold callSpecial?;refine Aa.bind (Aa.of (jP hT DE.lookup ?_));refine Aa.holding (Aa.bind (Aa.of (jN (DE.bind _) ?_)));dsimp only;refine Aa.bind (Aa.call (Ao.callB (plainId_quiet DE.plain _) Lr (PI (by decide+kernel) (by intro _ _;kernel_rfl)) (Aa.of (DE.check _ _ _ _ _ _ _ _ hT (Oa _ _) ?_))));refine NX (s:={s with heap:=s.heap.push {cls:=.type "bytearray",data:=.bytearray #[] 0}}) x0 hz λh' tk sb x1=>?_;refine Aa.pure ?_;refine Aa.ite (λe=>by exact xB e) λ_=>Aa.pure ?_;have fr:s.heap.get? s.heap.objs.size=none:=by
  induction q:s.heap.get? s.heap.objs.size using il with
  |none=>rfl
  |some o=>exact absurd (pz q) (pu _)
 exact h h' tk (λc o e=>(sb.2 c (λz=>by rw[z,fr] at e;exact xO e)).trans (k c o e)) fr x1
theorem GY:typeLookup (.type "bytearray") "__bytes__"=pure none:=by rw[or,jR];kernel_rfl
theorem GX:typeLookup (.type "bytearray") "__index__"=pure none:=by rw[or,jR];kernel_rfl
theorem L6{Q:Value->Shared->Prop}(x:At s.heap a b)(hz:b.size<=sizeLine)(hQ:∀t k,Q (.bytes b t) {s with toks:=k}):
  codeAny (model prog w) A (.call (.builtin "bytes.__new__") ⟨[.type "bytes",.ref a],[]⟩) (wants Q E) s:=by
 refine codeAny_of_tree ?_;show wpAny _ A.in1 (do checkBuiltinCall "bytes.__new__" ⟨[.type "bytes",.ref a],[]⟩;again (.builtin "bytes.__new__" ⟨[.type "bytes",.ref a],[]⟩)) _ _ s;refine bB (jN (F.bm_newCall _) (bV ⟨plainId_quiet F.bm_plain _,codeAny_builtin F.bm_entry ?_⟩));rw[rU F.bm_plain _];have hT:=x.typeIs;unfold Builtin.«bytes.__new__»;refine bB (jN (a:=true) rfl ?_);refine rD rfl ?_;refine bB (jN F.bm_sub ?_);refine rD rfl ?_;refine bB (jN (F.bm_bind _) ?_);refine bB (jN (a:=()) rfl ?_);refine bB (jN (a:=()) rfl ?_);refine rD rfl ?_;refine bB (jP hT GY ?_);refine bB (bB ?_);show wpAny _ _ (load a>>=_) _ _ _;refine bB (qg x ?_);refine bV (bV ?_);refine rD rfl ?_;refine bB (jP hT GX ?_);refine bm_if_true rfl ?_;first
  |show wpAny _ _ (Builtin.Bytes.buffer? "bytes.__new__" (.ref a) true>>=_) _ _ _
  |(refine bB ?_;show wpAny _ _ (Builtin.Bytes.buffer? "bytes.__new__" (.ref a) true>>=_) _ _ _)
 refine bB (N5 x ?_);refine bB (qV ?_);refine bB (wpAny_mkBytes ?_ hz);show wpAny _ _ (if (Value.type "bytes"==Value.type "bytes")=true then _ else _) _ _ _;refine bm_if_true (by decide) ?_;first
  |exact bV (hQ _ _)
  |exact bB (bV (bV (hQ _ _)))
theorem bytes_call{Q:Value->Shared->Prop}(x:At s.heap a b)(hz:b.size<=sizeLine)(hQ:∀t k,Q (.bytes b t) {s with toks:=k}):wpAny (model prog w) A (call (.type "bytes") [.ref a]) Q E s:=by
 refine callType_codes (Q₁:=λobj s₁=>s₁.TypeIs obj "bytes"/\Q obj s₁) rX (F.bm_typeCall _) F.entry_object_init
  (L6 x hz λt k=>⟨rY _ _ _,hQ t k⟩) λobj s₁ h₁=>?_
 exact⟨h₁.1,F.args_object_init_2 obj _,object_init_meets rX.init.lookup rX.made (by decide) prog w A.in1 _ s₁ ⟨h₁.1,rfl,h₁.2⟩⟩
end
end BA
section
variable{g:Gl}{F:Fn}{d:Nat}{os:List O}{loc:List (Option V)}{K:List O->V->Prop}{KT:List O->Bool->Prop}{KL:List O->List V->Prop}{p:Pos}{e l r:Expr}{x:Str}{v:V}
 {L:Addr} {m:Str->Option Value} {ad:AH} {h h':Heap}
noncomputable def VH:Value->Bool
 |.ref _=>false
 |_=>true
theorem Az.ofOp(hf:VH f=true)(h:Aw g d (λvs=>call f vs) args os K):Az g d (.imm f) args os K:=by
 intro A s ad L m vf vs Q hr hs Nf hv AK hq;simp only[VR] at hv;subst hv;have e:keeperOf vf=pure .machine:=by induction vf using qy<;>first|rfl|cases hf
 rw[e];exact Aa.pure (h A s ad L m vs Q hr hs Nf AK hq)
theorem D9{q:Addr×Addr}(S:SR g.w g.base ad os h)(hq:q∈ad):(q.1==sysModules)=false:=by rw[pG];intro e;have:=(S.new q hq).1;have m:=g.mods;rw[<-e,this] at m;exact xB m
theorem J6{l:List Int}(Ac:l.length<=1000000)(hk:K os (.int l.length)):Az g d (.imm (.builtin "len")) [.bytes l] os K:=
 .ofOp rfl <| Aw.now hk λA s ad L m vs Q hr hs hf AK hq=>by
  obtain⟨_,rfl,r⟩:=AK.one;simp only[VR] at r;obtain⟨b,t,rfl,hb⟩:=r;have hl:l.length=b.size:=by rw[hb];simp
  refine len_bytes (L2 [_,_] [] 0x2430fa12013210104200000000009c80041 Ac hl) ?_;rw[<-hl];exact hq _ _ VR.i
theorem LU{l:List Int}(ho:os[i]? =some (.barr l))(Ac:l.length<=1000000)(hk:K os (.int l.length)):Az g d (.imm (.builtin "len")) [.ref i] os K:=
 .ofOp rfl <| Aw.now hk λA s ad L m vs Q hr hs hf AK hq=>by
  obtain⟨_,rfl,r⟩:=AK.one;simp only[VR] at r;obtain⟨q,AX,rfl⟩:=r;obtain⟨_,b,g1,hb⟩:=hs.rep _ _ q ho AX;have hl:l.length=b.size:=by rw[hb];simp
  have x:BA.At s.heap q.1 b:=g1;refine Calls.call_function_entry kind_len plain_len entry_len (args_len1 _) ?_;unfold Builtin.«len»;refine bB (m:=oneArg "len" _) (bV ?_);refine bB (m:=callSpecial? (.ref q.1) (Str.ofString "__len__")) (qc (name:=Str.ofString "__len__") x.typeIs BA.slot_len (call_meets BA.slot_len x.typeIs BA.entry_len (BA.args_len _) (BA.meets_len _) ⟨b,x,?_⟩));refine bB (wpAny_holding (bV ?_));refine bB (wpAny_letGo ?_);show wpAny _ _ (if ((b.size:Nat):Int)<0 then _ else _) _ _ _;rw[jU (by exact L0 [_] [] 419950657)];show wpAny _ _ (if ((b.size:Nat):Int)>=2^63 then _ else _) _ _ _;rw[jU (by exact L2 [_,_] [] 0x4861f4240264202083e80000000000000006e6c41 Ac hl),<-hl];exact bB (sO (bV ⟨_,rfl,hq _ _ VR.i⟩))
theorem LR{l:List V}(ho:os[i]? =some (.list l))(Ac:l.length<=1000000)(hk:K os (.int l.length)):Az g d (.imm (.builtin "len")) [.ref i] os K:=
 .ofOp rfl <| Aw.now hk λA s ad L m vs Q hr hs hf AK hq=>by
  obtain⟨_,rfl,r⟩:=AK.one;simp only[VR] at r;obtain⟨q,AX,rfl⟩:=r;obtain⟨_,Ab,n,g1,rr⟩:=hs.rep _ _ q ho AX;have hl:=rr.length;have hL:s.heap.IsList q.1 Ab.toArray:=⟨_,g1,rfl,n,rfl⟩;refine Calls.call_len_list hL (by simp;exact L2 [_,_] [] 0x4861f42402642020a0000000000000001b907e441 Ac hl) ?_;have e:(Ab.toArray.size:Int)=l.length:=by simp[hl]
  rw[e];exact hq _ _ VR.i
theorem Dl{α:Type}{ks:List (α×V)}(r:Aj ad h (ks.map (·.2)) Ab):((ks.map (·.1)).zip Ab).length=ks.length:=by have:=r.length;rw[List.length_zip];simp at this⊢;exact gH (L1 [_,_] [] 0x80041080041 (Nat.min_le_left ks.length Ab.length)) (iT ks.length Ab.length (λu1 v1=>L1 [_,_] [] 0x4861080041 v1) (λu1 v1=>L2 [_,_,_] [] 0x104861100841080041 this v1))
theorem J5{ks:List (Int×V)}(ho:os[i]? =some (.idict ks))(Ac:ks.length<=1000000)(hk:K os (.int ks.length)):Az g d (.imm (.builtin "len")) [.ref i] os K:=.ofOp rfl <| Aw.now hk λA s ad L m vs Q hr hs hf AK hq=>by obtain⟨_,rfl,r⟩:=AK.one;simp only[VR] at r;obtain⟨q,AX,rfl⟩:=r;obtain⟨_,Ab,D,rr⟩:=hs.rep _ _ q ho AX;have hl:=Dl rr;refine call_len_dict (D9 hs (bG AX)) D (by rw[hl];exact L1 [_] [] 0xf42402640020a0000000000000001b907e441 Ac) ?_;rw[hl];exact hq _ _ VR.i
theorem AF.ofNews{X:List (Addr×Obj)}(hs:SR g.w g.base ad os h)(hf:FrB g L m ad h)(F':Fr g.base L h' m)(N':News g.base L h' (X++Cp g.base L [] h)):AF g L m ad h os [] h':=AF.grow hs hf (λb o e n=>DG hs F' N' b o e n (by simp)) F'.ns F'.keep
theorem Aw.grown(hk:K os v)
  (h:∀(A:Around)(s:Shared)(ad:AH)(L:Addr)(m:Str->Option Value)(vs:List Value)(Q:Value->Shared->Prop),Bf A d->SR g.w g.base ad os s.heap->FrB g L m ad s.heap->Aj ad s.heap args vs->(∀X h' val tk,Fr g.base L h' m->News g.base L h' (X++Cp g.base L [] s.heap)->VR ad h' v val->Q val {s with heap:=h',toks:=tk})->wpAny g.M A (t vs) Q WL s):Aw g d t args os K:=by
 intro A s ad L m vs Q hr hs hf hv hq;refine Aa.of (h A s ad L m vs Q hr hs hf hv λX h' val tk F' N' r=>?_);exact hq os [] v val h' tk (AF.ofNews hs hf F' N') (by rw[bE];exact r) hk
theorem AF.oneNews{X:List (Addr×Obj)}{a:Addr}{o:Obj}{ob:O}(hs:SR g.w g.base ad os h)(hf:FrB g L m ad h)(F':Fr g.base L h' m)(N':News g.base L h' (X++Cp g.base L [] h))(hm:(a,o)∈X)(fr:h.get? a=none)
  (rep:(∀b vs,h.IsTuple b vs->h'.IsTuple b vs)->h'.get? a=some o->OR g.w (ad++[(a,a)]) h' ob (a,a)):AF g L m ad h (os++[ob]) [(a,a)] h':=by
 have kp:=DG hs F' N';have tp:∀b vs,h.IsTuple b vs->h'.IsTuple b vs:=λb vs t=>by obtain⟨ob,e1,r⟩:=t;refine⟨ob,kp b ob e1 (λq=>?_) (by simp),r⟩;subst q;exact Ns.notTuple hf.ns vs ⟨ob,e1,r⟩
 exact hs.push hf (q:=(a,a)) (λb o e n=>kp b o e n (by simp)) F'.ns F'.keep fr fr (rep tp (N' (a,o) (o8 _ hm)).1)
theorem VR.newRef(hs:SR g.w g.base ad os h){q:Addr×Addr}:VR (ad++[q]) h' (.ref os.length) (.ref q.1):=by simp only[VR];exact⟨q,by rw[<-hs.len];simp,rfl⟩
theorem FX{ad:AH}{h:Heap}:∀{l:List Int}{Ab:List Value},Aj ad h (l.map .int) Ab->IntsAre Ab l
 |[],_,r=>by simp only[pC,Aj] at r;rw[r];exact .nil
 |i::l,_,r=>by simp only[ik,Aj,VR] at r;obtain⟨_,t,rfl,⟨u,rfl⟩,r2⟩:=r;exact .cons _ _ (FX r2)
theorem ME{ad:AH}{h:Heap}:∀{l:List Int}{Ab:List Value},IntsAre Ab l->Aj ad h (l.map .int) Ab
 |_,_,.nil=>by simp only[pC,Aj]
 |_,_,.cons n t r=>by simp only[ik,Aj];exact⟨_,_,rfl,VR.i,ME r⟩
theorem JG:∀{ws:List Value}{l:List Int},ws.length=l.length->(∀(j:Nat)(v:Value),ws[j]? =some v->∃n t,l[j]? =some n/\v=.int n t)->IntsAre ws l
 |[],[],_,_=>.nil
 |[],_::_,e,_|_::_,[],e,_=>by simp at e
 |w::ws,n::l,e,H=>by obtain⟨n',t,a,rfl⟩:=H 0 w (by simp);simp at a;subst a;exact .cons _ _ (JG (by simpa using e) λj v q=>H (j+1) v (by simpa using q))
theorem aK(hk:K os (.int (min i j))):Az g d (.imm (.builtin "min")) [.int i,.int j] os K:=
 .ofOp rfl <| Aw.grown hk λA s ad L m vs Q hr hs hf AK hq=>by
  obtain⟨_,_,rfl,⟨t,rfl⟩,⟨u,rfl⟩⟩:=AK.two;refine min_two_N hr.handled (hf.fr hs) hf.newsAll λh' tk F' N'=>?_;have e:(if j<i then j else i)=min i j:=by
   split<;>rename_i c
   ·exact(Int.min_eq_right (pL c)).symm
   ·exact(Int.min_eq_left (rK.mp c)).symm
  rw[e];exact hq [] h' _ tk F' N' VR.i
theorem aL(hk:K os (.int (max i j))):Az g d (.imm (.builtin "max")) [.int i,.int j] os K:=
 .ofOp rfl <| Aw.grown hk λA s ad L m vs Q hr hs hf AK hq=>by
  obtain⟨_,_,rfl,⟨t,rfl⟩,⟨u,rfl⟩⟩:=AK.two;refine max_two_N hr.handled (hf.fr hs) hf.newsAll λh' tk F' N'=>?_;have e:(if j>i then j else i)=max i j:=by
   split<;>rename_i c
   ·exact(qZ (pL c)).symm
   ·exact(qp (rK.mp c)).symm
  rw[e];exact hq [] h' _ tk F' N' VR.i
theorem LP{l:List Int}(ho:os[i]? =some (.list (l.map .int)))(hm:M∈l)(hM:∀a∈l,a<=M)(hk:K os (.int M)):Az g d (.imm (.builtin "max")) [.ref i] os K:=
 .ofOp rfl <| Aw.grown hk λA s ad L m vs Q hr hs hf AK hq=>by
  obtain⟨_,rfl,r⟩:=AK.one;simp only[VR] at r;obtain⟨q,AX,rfl⟩:=r;obtain⟨_,Ab,n,g1,rr⟩:=hs.rep _ _ q ho AX;have hL:s.heap.IsList q.1 Ab.toArray:=⟨_,g1,rfl,n,rfl⟩;refine max_list_N hr.handled (hf.fr hs) hf.newsAll hL (FX rr) (List.length_pos_of_mem hm) λh' N t tk F' N' h1 h2=>?_;have e:N=M:=by have:=hM _ h1;have:=h2 _ hm;exact bC (L1 [] [_,_] 0x82041082041 ‹_›) (this)
  subst e;exact hq [] h' _ tk F' N' VR.i
theorem Ij{l:List Int}(ho:os[i]? =some (.list (l.map .int)))(GL:∀n∈l,0<=n/\n<256)(Ac:l.length<=1000000)(hk:K os (.bytes l)):Az g d (.imm (.type "bytes")) [.ref i] os K:=.ofOp rfl <| Aw.grown hk λA s ad L m vs Q hr hs hf AK hq=>by obtain⟨_,rfl,r⟩:=AK.one;simp only[VR] at r;obtain⟨q,AX,rfl⟩:=r;obtain⟨_,Ab,n,g1,rr⟩:=hs.rep _ _ q ho AX;have hL:s.heap.IsList q.1 Ab.toArray:=⟨_,g1,rfl,n,rfl⟩;refine KBa.make_K (hf.fr hs) hf.newsAll hr.handled hL (FX rr) GL (L1 [_] [] 0x7a120132001060000005c80041 Ac) λh' t k F' N' _=>?_;refine hq [] h' _ k F' N' ?_;simp only[VR];exact⟨_,t,rfl,(KBa.ints_make GL).symm⟩
theorem Ik{l:List Int}(ho:os[i]? =some (.barr l))(Ac:l.length<=1000000)(hk:K os (.bytes l)):Az g d (.imm (.type "bytes")) [.ref i] os K:=
 .ofOp rfl <| Aw.now hk λA s ad L m vs Q hr hs hf AK hq=>by
  obtain⟨_,rfl,r⟩:=AK.one;simp only[VR] at r;obtain⟨q,AX,rfl⟩:=r;obtain⟨_,b,g1,hb⟩:=hs.rep _ _ q ho AX;have hl:l.length=b.size:=by rw[hb];simp
  refine BA.bytes_call g1 (by rw[pI];exact L2 [_,_] [] 0x2430fa120132101060000005c80041 Ac hl) λt k=>hq _ k ?_;simp only[VR];exact⟨b,t,rfl,hb⟩
theorem Io{l:List Int}(Ac:l.length<=1000000)(hk:K (os++[.barr l]) (.ref os.length)):Az g d (.imm (.type "bytearray")) [.bytes l] os K:=
 .ofOp rfl <| λA s ad L m vs Q hr hs hf AK hq=>by
  obtain⟨_,rfl,r⟩:=AK.one;simp only[VR] at r;obtain⟨b,t,rfl,hb⟩:=r;have hl:l.length=b.size:=by rw[hb];simp
  refine BA.call_new (by rw[pI];exact L2 [_,_] [] 0x2430fa120132101060000005c80041 Ac hl) λh' tk k fr x=>?_;refine hq _ [(s.heap.objs.size,s.heap.objs.size)] _ _ h' tk (hs.push hf (q:=(s.heap.objs.size,s.heap.objs.size)) (o:=.barr l) (λb o e n=>k b o e) ?_ (λb o e=>k b o (hs.old b o e)) fr fr ⟨rfl,b,x,hb⟩) (VR.newRef hs) hk;exact hf.ns.at' λo e=>k L o e
theorem Ih{ks:List (Int×V)}(ho:os[i]? =some (.idict ks))(Ac:ks.length<=1000000)(hk:K (os++[.list (ks.map λq=>.int q.1)]) (.ref os.length)):Az g d (.imm (.type "list")) [.ref i] os K:=
 .ofOp rfl <| λA s ad L m vs Q hr hs hf AK hq=>by
  obtain⟨_,rfl,r⟩:=AK.one;simp only[VR] at r;obtain⟨q,AX,rfl⟩:=r;obtain⟨_,Ab,D,rr⟩:=hs.rep _ _ q ho AX;have hl:=Dl rr;obtain⟨o,es,ep,D1,D2,D3,D4⟩:=id D;refine Aa.of (kdl_N (kdl_dict (ep:=ep) (knd:=intKind prog g.w) (D9 hs (bG AX))) hr.handled (hf.fr hs) hf.newsAll ?_ (by rw[hl,pI];exact L1 [_] [] 0x7a120132001060000005c80041 Ac) λN c h' tk ws F' N' lt hn hP=>?_)
  ·exact⟨o,es,D1,D2,D3,D4⟩
  ·have fr:=JN (X:=[(N,_)]) N' (.head _) lt;refine hq _ _ _ _ h' tk (AF.oneNews (X:=[(N,_)]) (ob:=.list (ks.map λq=>.int q.1)) hs hf F' N' (.head _) fr λtp e=>⟨rfl,ws,c,e,?_⟩) (VR.newRef hs) hk;have hi:IntsAre ws (ks.map (·.1)):=JG (by rw[hn,hl,gI]) λj v e=>by
    obtain⟨k,y,a,b⟩:=hP j v e;obtain⟨t,rfl⟩:=Value.isInt_shape b;refine⟨k,t,?_,rfl⟩;rw[List.getElem?_zip_eq_some] at a;exact a.1
   have:=ME (ad:=ad++[(N,N)]) (h:=h') hi;rwa[qi] at this
end
inductive At{α:Type}(x:α)(v:V):List (α×V)->Prop
 |head {n}:At x v ((x,v)::n)
 |tail {y n}:At x v n->At x v (y::n)
inductive QC{α:Type}(x:α)(v:V):List (α×V)->List (α×V)->Prop
 |head {n u}:QC x v ((x,u)::n) ((x,v)::n)
 |tail {y n n'}:QC x v n n'->QC x v (y::n) (y::n')
section
variable{g:Gl}{F:Fn}{d:Nat}{os:List O}{loc:List (Option V)}{K:List O->V->Prop}{KS:List O->Prop}{KT:List O->Bool->Prop}{KL:List O->List V->Prop}{p:Pos}{e l r:Expr}{v:V}
 {L:Addr} {m:Str->Option Value} {ad:AH} {h h':Heap} {α:Type} [DecidableEq α]
theorem At.mem{ks:List (α×V)}(q:At x v ks):x∈ks.map (·.1):=by
 induction q with
 |head=>exact .head _
 |tail _ ih=>exact .tail _ ih
theorem QC.mem{ks:List (α×V)}(q:QC x v ks Di):x∈ks.map (·.1):=by
 induction q with
 |head=>exact .head _
 |tail _ ih=>exact .tail _ ih
theorem GC{ks:List (α×V)}(q:At x v ks)(nd:(ks.map (·.1)).Nodup)(r:Aj ad h (ks.map (·.2)) Ab):∃y,valueAt ((ks.map (·.1)).zip Ab) x=some y/\VR ad h v y:=by
 induction ks generalizing Ab with
 |nil=>exact nomatch q
 |cons f ks ih=>
  simp only[ik,Aj] at r;obtain⟨y,t,rfl,r1,r2⟩:=r;cases q with
  |head=>exact⟨y,by simp[valueAt],r1⟩
  |tail q=>have hne:f.1≠x:=λe=>(jH.mp nd).1 (by subst e;exact q.mem);obtain⟨z,a,b⟩:=ih q (jH.mp nd).2 r2;refine⟨z,?_,b⟩;simp only[valueAt,ik,rz,sh,gD hne];exact a
theorem PA{ks:List (α×V)}(hn:x∉ks.map (·.1)):valueAt ((ks.map (·.1)).zip Ab) x=none:=by unfold valueAt;rw[qM,List.find?_eq_none];intro kv Xy;have:=List.of_mem_zip Xy;simp only[pr];exact λe=>hn (e▸this.1)
theorem Mz:∀{ks Di:List (α×V)}{Ab:List Value},QC x v ks Di->(ks.map (·.1)).Nodup->Aj ad h (ks.map (·.2)) Ab->VR ad h v y->
  ∃AQ,stored ((ks.map (·.1)).zip Ab) x y=(Di.map (·.1)).zip AQ/\Aj ad h (Di.map (·.2)) AQ
 |_,_,Ab,q,nd,r,rv=>by
  have key:∀{ks Di:List (α×V)}{Ab:List Value},QC x v ks Di->(ks.map (·.1)).Nodup->Aj ad h (ks.map (·.2)) Ab->
    (((ks.map (·.1)).zip Ab).any λkv=>kv.1=x)=true/\∃AQ,((ks.map (·.1)).zip Ab).map (λkv=>if kv.1=x then(kv.1,y) else kv)=(Di.map (·.1)).zip AQ/\Aj ad h (Di.map (·.2)) AQ:=by
   intro ks Di Ab q;induction q generalizing Ab with
   | @head n u=>intro nd r;simp only[ik,Aj] at r;obtain⟨z,t,rfl,_,r2⟩:=r;refine⟨by simp,y::t,?_,by simp only[ik,Aj];exact⟨y,t,rfl,rv,r2⟩⟩;simp only[ik,rz,if_true];rw[map_store_of_not_mem _ _ _ λhx=>?_];obtain⟨kv,Xy,e⟩:=pe.mp hx;exact(jH.mp nd).1 (e▸(List.of_mem_zip Xy).1)
   | @tail f n n' q ih=>intro nd r;simp only[ik,Aj] at r;obtain⟨z,t,rfl,r1,r2⟩:=r;obtain⟨a,AQ,b,c⟩:=ih (jH.mp nd).2 r2;have hne:f.1≠x:=λe=>(jH.mp nd).1 (by subst e;exact q.mem);refine⟨by simp only[ik,rz,ru,a,Bool.or_true],z::AQ,?_,by simp only[ik,Aj];exact⟨z,AQ,rfl,r1,c⟩⟩;simp only[ik,rz,jU hne,b]
  obtain⟨a,AQ,b,c⟩:=key q nd r;exact⟨AQ,by unfold stored;rw[lW a];exact b,c⟩
theorem MF{ks:List (α×V)}(hn:x∉ks.map (·.1))(r:Aj ad h (ks.map (·.2)) Ab)(rv:VR ad h v y):
  ∃AQ,stored ((ks.map (·.1)).zip Ab) x y=((ks++[(x,v)]).map (·.1)).zip AQ/\Aj ad h ((ks++[(x,v)]).map (·.2)) AQ:=by
 have hl:=r.length;have app:∀{l:List V}{Ab:List Value},Aj ad h l Ab->Aj ad h (l++[v]) (Ab++[y]):=by
  intro l;induction l with
  |nil=>intro Ab r;simp only[Aj] at r;rw[r];exact Aj.mk1 rv
  |cons u l ih=>intro Ab r;simp only[Aj] at r;obtain⟨z,t,rfl,r1,r2⟩:=r;simp only[sW,Aj];exact⟨z,_,rfl,r1,ih r2⟩
 refine⟨Ab++[y],?_,by rw[jJ];exact app r⟩;unfold stored;rw[jU]
 ·rw[jJ,List.zip_append (by simpa using hl)];rfl
 ·rw[sX];rintro⟨kv,Xy,e⟩;exact hn ((dv e)▸(List.of_mem_zip Xy).1)
theorem A7{ks:List (α×V)}(r:Aj ad h (ks.map (·.2)) Ab):((ks.map (·.1)).zip Ab).map (·.1)=ks.map (·.1):=by have:=r.length;rw[sU];simp at this⊢;exact L1 [_,_] [] 0x80841080041 this
theorem Mp(x:Str)(t:Tok):Value.isStrOf x (.str x t)=true:=by simp[Value.isStrOf]
theorem JH(i:Int)(t:Tok):Value.isInt i (.int i t)=true:=by simp[Value.isInt]
theorem Jh(ho:os[i]? =some (.sdict ks))(hx:At x v ks)(hk:K os v)(hp:As AB=true):Aw g d (CQ value AB) [.ref i,.str x] os K:=
 Aw.now hk λA s ad L m vs Q hr hs hf AK hq=>by
  obtain⟨_,_,rfl,r1,r2⟩:=AK.two;simp only[VR] at r1 r2;obtain⟨q,AX,rfl⟩:=r1;obtain⟨t,rfl⟩:=r2;obtain⟨_,Ab,D,rr⟩:=hs.rep _ _ q ho AX;have nd:(ks.map (·.1)).Nodup:=by rw[<-A7 rr];exact let⟨_,_,_,_,_,_,_,_,z⟩:=D;z
  obtain⟨y,hy,ry⟩:=GC hx nd rr;exact tail_any (T:="dict") D.typeIs slot_dict_getitem.lookup (wpAny_getItem_of (knd:=strKind prog g.w) (Mp x t) D.mapOf hy (hq y _ ry)) (AL hp _ _)
theorem Ji(ho:os[i]? =some (.idict ks))(hx:At x v ks)(hk:K os v)(hp:As AB=true):Aw g d (CQ value AB) [.ref i,.int x] os K:=
 Aw.now hk λA s ad L m vs Q hr hs hf AK hq=>by
  obtain⟨_,_,rfl,r1,r2⟩:=AK.two;simp only[VR] at r1 r2;obtain⟨q,AX,rfl⟩:=r1;obtain⟨t,rfl⟩:=r2;obtain⟨_,Ab,D,rr⟩:=hs.rep _ _ q ho AX;have nd:(ks.map (·.1)).Nodup:=by rw[<-A7 rr];exact let⟨_,_,_,_,_,_,_,_,z⟩:=D;z
  obtain⟨y,hy,ry⟩:=GC hx nd rr;exact tail_any (T:="dict") D.typeIs slot_dict_getitem.lookup (wpAny_getItem_of (knd:=intKind prog g.w) (JH x t) D.mapOf hy (hq y _ ry)) (AL hp _ _)
theorem K9{ks:List (Int×V)}(ho:os[i]? =some (.idict ks))(hb:(∃v,b=true/\At x v ks)\/(b=false/\x∉ks.map (·.1)))(hk:K os (.bool b)):Aw g d (BC .In) [.int x,.ref i] os K:=
 Aw.now hk λA s ad L m vs Q hr hs hf AK hq=>by
  obtain⟨_,_,rfl,r1,r2⟩:=AK.two;simp only[VR] at r1 r2;obtain⟨t,rfl⟩:=r1;obtain⟨q,AX,rfl⟩:=r2;obtain⟨_,Ab,D,rr⟩:=hs.rep _ _ q ho AX;have nd:(ks.map (·.1)).Nodup:=by rw[<-A7 rr];exact let⟨_,_,_,_,_,_,_,_,z⟩:=D;z
  refine wpAny_in_of (knd:=intKind prog g.w) (JH x t) (D9 hs (bG AX)) D.mapOf ?_;have e:(valueAt ((ks.map (·.1)).zip Ab) x).isSome=b:=by
   rcases hb with ⟨v,rfl,ha⟩|⟨rfl,hn⟩
   ·obtain⟨y,hy,_⟩:=GC ha nd rr;rw[hy];rfl
   ·rw[PA hn];rfl
  rw[e];exact hq _ _ VR.b
theorem K8{ks:List (Str×V)}(ho:os[i]? =some (.sdict ks))(hb:(∃v,b=true/\At x v ks)\/(b=false/\x∉ks.map (·.1)))(hk:K os (.bool b)):Aw g d (BC .In) [.str x,.ref i] os K:=
 Aw.now hk λA s ad L m vs Q hr hs hf AK hq=>by
  obtain⟨_,_,rfl,r1,r2⟩:=AK.two;simp only[VR] at r1 r2;obtain⟨t,rfl⟩:=r1;obtain⟨q,AX,rfl⟩:=r2;obtain⟨_,Ab,D,rr⟩:=hs.rep _ _ q ho AX;have nd:(ks.map (·.1)).Nodup:=by rw[<-A7 rr];exact let⟨_,_,_,_,_,_,_,_,z⟩:=D;z
  refine wpAny_in_of (knd:=strKind prog g.w) (Mp x t) (D9 hs (bG AX)) D.mapOf ?_;have e:(valueAt ((ks.map (·.1)).zip Ab) x).isSome=b:=by
   rcases hb with ⟨v,rfl,ha⟩|⟨rfl,hn⟩
   ·obtain⟨y,hy,_⟩:=GC ha nd rr;rw[hy];rfl
   ·rw[PA hn];rfl
  rw[e];exact hq _ _ VR.b
noncomputable def El:List Value->Sem Unit
 |[o,i,v]=>setItem o i v
 |_=>unsupported ""
theorem Fd{ks:List (Str×V)}(ho:os[i]? =some (.sdict ks))(hx:QC x v ks Di\/(Di=ks++[(x,v)]/\x∉ks.map (·.1)))(Ac:ks.length<=100000)(hk:KS (os.set i (.sdict Di))):He g d El [.ref i,.str x,v] os KS:=by
 intro A s ad L m vs Q hr hs hf AK hq;obtain⟨_,_,y,rfl,r1,r2,ry⟩:=AK.three;simp only[VR] at r1 r2;obtain⟨q,AX,rfl⟩:=r1;obtain⟨t,rfl⟩:=r2;obtain⟨hqq,Ab,D,rr⟩:=hs.rep _ _ q ho AX;have nd:(ks.map (·.1)).Nodup:=by rw[<-A7 rr];exact let⟨_,_,_,_,_,_,_,_,z⟩:=D;z
 have hm:=bG AX;refine Aa.of (wpAny_setItem_pairs (knd:=strKind prog g.w) (Mp x t) D (λh' D' sb=>?_) (by rw[Dl rr,pI];exact L1 [_] [] 0xc350132001060000005c80041 Ac));have hne:q.1≠L:=λz=>hf.out ⟨q,hm,.inl z.symm⟩;have kp:∀b o,s.heap.get? b=some o->b≠q.1->h'.get? b=some o:=λb o e n=>(sb.2 b n).trans e;refine hq _ [] h' _ (hs.turn hf AX (o:=.sdict Di) (λb ob e n1 n2=>kp b ob e λz=>n2 (.inl z)) (hf.ns.sameBut sb hne.symm) (λb o e=>kp b o (hs.old b o e) λz=>?_) λtp=>⟨hqq,?_⟩) hk
 ·rw[z,(hs.new q hm).1] at e;exact xO e
 ·have:∃AQ,stored ((ks.map (·.1)).zip Ab) x y=(Di.map (·.1)).zip AQ/\Aj ad s.heap (Di.map (·.2)) AQ:=by
   rcases hx with hx|⟨rfl,hn⟩
   ·exact Mz hx nd rr ry
   ·exact MF hn rr ry
  obtain⟨AQ,a,b⟩:=this;exact⟨AQ,a▸D',Aj.mono (AU.refl _) tp _ _ b⟩
theorem Jm{ks:List (Int×V)}(ho:os[i]? =some (.idict ks))(hx:QC x v ks Di\/(Di=ks++[(x,v)]/\x∉ks.map (·.1)))(Ac:ks.length<=100000)(hk:KS (os.set i (.idict Di))):He g d El [.ref i,.int x,v] os KS:=by
 intro A s ad L m vs Q hr hs hf AK hq;obtain⟨_,_,y,rfl,r1,r2,ry⟩:=AK.three;simp only[VR] at r1 r2;obtain⟨q,AX,rfl⟩:=r1;obtain⟨t,rfl⟩:=r2;obtain⟨hqq,Ab,D,rr⟩:=hs.rep _ _ q ho AX;have nd:(ks.map (·.1)).Nodup:=by rw[<-A7 rr];exact let⟨_,_,_,_,_,_,_,_,z⟩:=D;z
 have hm:=bG AX;refine Aa.of (wpAny_setItem_pairs (knd:=intKind prog g.w) (JH x t) D (λh' D' sb=>?_) (by rw[Dl rr,pI];exact L1 [_] [] 0xc350132001060000005c80041 Ac));have hne:q.1≠L:=λz=>hf.out ⟨q,hm,.inl z.symm⟩;have kp:∀b o,s.heap.get? b=some o->b≠q.1->h'.get? b=some o:=λb o e n=>(sb.2 b n).trans e;refine hq _ [] h' _ (hs.turn hf AX (o:=.idict Di) (λb ob e n1 n2=>kp b ob e λz=>n2 (.inl z)) (hf.ns.sameBut sb hne.symm) (λb o e=>kp b o (hs.old b o e) λz=>?_) λtp=>⟨hqq,?_⟩) hk
 ·rw[z,(hs.new q hm).1] at e;exact xO e
 ·have:∃AQ,stored ((ks.map (·.1)).zip Ab) x y=(Di.map (·.1)).zip AQ/\Aj ad s.heap (Di.map (·.2)) AQ:=by
   rcases hx with hx|⟨rfl,hn⟩
   ·exact Mz hx nd rr ry
   ·exact MF hn rr ry
  obtain⟨AQ,a,b⟩:=this;exact⟨AQ,a▸D',Aj.mono (AU.refl _) tp _ _ b⟩
end
inductive Binds(names:List Str):List Str->List V->List (Option V)->List (Option V)->Prop
 |nil {loc}:Binds names [] [] loc loc
 |cons {x v xs vs loc Am IA}:Upd x v names loc Am->Binds names xs vs Am IA->Binds names (x::xs) (v::vs) loc IA
section
variable{g:Gl}{F:Fn}{d:Nat}{os:List O}{loc:List (Option V)}{K:List O->V->Prop}{KS:List O->Prop}{KT:List O->Bool->Prop}{KL:List O->List V->Prop}{p:Pos}{e l r:Expr}{v:V}
 {L:Addr} {m:Str->Option Value} {ad:AH} {h h':Heap} {KN:List (Option V)->List O->Prop} {KR:List O->V->Prop}
theorem Aa.rel{M:Model}{A:Around}{s:Shared}{vs keep:List Value}{Q:Unit->Shared->Prop}(h:Q () s):Aa M A (release vs keep) Q s:=Aa.of (wpAny_release h)
theorem U7{x:Str}{o:Expr}{xp:Pos}(h:AG g F d e loc os λos v=>AG g F d o loc os λos ov=>He g d (KW x) [ov,v] os (KN loc))
  (hs:∀env,swapsWith e (some (.Attribute o x xp)) p.line env=pure false):Fs g F d (.Assign [.Attribute o x xp] e p) loc os KN KR:=by
 intro A s ad L m Q hr HI hf hn AT;rw[plainObj_exec_Assign_Attribute _ _ _ _ _ (hs _)];refine Aa.bind (Aa.at (Aa.bind (h A s ad L m _ hr HI hf λAE m1 v y h1 tk1 a1 r1 k1=>?_)));have Bv:=hf.after HI a1;rw[assign_Attribute];refine Aa.bind (Aa.bind (Aa.holding (k1 A _ _ L m _ hr a1.sr Bv λBM m2 ov oy h2 Ci a2 r2 k2=>?_)));refine Aa.bind (Aa.at (Aa.bind (Aa.holding ?_)));have CX:=Bv.after a1.sr a2;refine k2 A {s with heap:=h2,toks:=Ci} _ L m [oy,y] _ hr a2.sr CX.toFrB (Aj.mk2 r2 (Bv.vr a1.sr a2.toAft r1)) λKv m3 h3 EI a3 k3=>?_;refine Aa.rel (Aa.pure ?_);have a:=(a1.trans hf.toFrB HI (a2.trans Bv.toFrB a1.sr a3));have f:=CX.after a2.sr a3;rw[bF,bF] at f;exact hn _ _ loc m h3 EI a.toAft f k3
theorem U2{o i:Expr}{xp:Pos}(h:AG g F d e loc os λos v=>AG g F d o loc os λos ov=>AG g F d i loc os λos iv=>He g d El [ov,iv,v] os (KN loc))
  (hs:∀env,swapsWith e (some (.Subscript o i xp)) p.line env=pure false):Fs g F d (.Assign [.Subscript o i xp] e p) loc os KN KR:=by
 intro A s ad L m Q hr HI hf hn AT;rw[exec_Assign_Subscript _ _ _ _ _ (hs _)];refine Aa.bind (Aa.at (Aa.bind (h A s ad L m _ hr HI hf λAE m1 v y h1 tk1 a1 r1 k1=>?_)));have Bv:=hf.after HI a1;rw[assign_Subscript];refine Aa.bind (Aa.bind (Aa.holding (k1 A _ _ L m _ hr a1.sr Bv λBM m2 ov oy h2 Ci a2 r2 k2=>?_)));have CX:=Bv.after a1.sr a2;refine Aa.bind (Aa.holding (k2 A {s with heap:=h2,toks:=Ci} _ L m _ hr a2.sr CX λKv m3 iv iy h3 EI a3 r3 k3=>?_));have QN:=CX.after a2.sr a3;refine Aa.bind (Aa.at (Aa.bind (Aa.holding ?_)));refine k3 A {s with heap:=h3,toks:=EI} _ L m [oy,iy,y] _ hr a3.sr QN.toFrB (Aj.mk3 (CX.vr a2.sr a3.toAft r2) r3 (CX.vr a2.sr a3.toAft (Bv.vr a1.sr a2.toAft r1))) λSN m4 h4 Of a4 k4=>?_;refine Aa.rel (Aa.pure ?_);have a:=(a1.trans hf.toFrB HI (a2.trans Bv.toFrB a1.sr (a3.trans CX.toFrB a2.sr a4)));have f:=QN.after a3.sr a4;rw[bF,bF,bF] at f;exact hn _ _ loc m h4 Of a.toAft f k4
def GG(g:Gl)(F:Fn)(L:Addr)(x:Str)(st:Value->Sem Unit):Prop:=∀(A:Around)(s:Shared)(y:Value)(Q:Unit->Shared->Prop),Aa g.M A (storeName (F.env L) x y) Q s->Aa g.M A (st y) Q s
inductive Xk(g:Gl)(F:Fn)(L:Addr):List Str->List (Value->Sem Unit)->Prop
 |nil:Xk g F L [] []
 |cons {x st xs Ad}:GG g F L x st->Xk g F L xs Ad->Xk g F L (x::xs) (st::Ad)
theorem Binds.nil_{names:List Str}{vs:List V}{loc loc':List (Option V)}{C:Prop}(b:Binds names [] vs loc loc')(k:vs=[]->loc'=loc->C):C:=by cases b;exact k rfl rfl
theorem Binds.cons_{names:List Str}{x:Str}{xs:List Str}{vs:List V}{loc loc':List (Option V)}{C:Prop}(b:Binds names (x::xs) vs loc loc')(k:∀v FK l1,vs=v::FK->Upd x v names loc l1->Binds names xs FK l1 loc'->C):C:=by cases b with|cons u b=>exact k _ _ _ rfl u b
theorem E1(F0:BV g F){A:Around}{s0:Shared}{ad m1:AH}{L:Addr}{m:Str->Option Value}{AE:List O}{Q:Unit->Shared->Prop}
  (hs:SR g.w g.base ad os s0.heap) (hf:FrB g L m ad s0.heap) {xs:List Str} {Ad:List (Value->Sem Unit)} {vs:List V} {ys:List Value} {Am loc':List (Option V)} {mm1:Str->Option Value} {h1:Heap} {tk1:Nat} (ss:Xk g F L xs Ad) (b:Binds F.names xs vs Am loc')
   (a1:Aft g.w g.base (·=L) ad s0.heap AE m1 h1) (f1:Bg g F L mm1 Am (ad++m1) h1) (r:Aj (ad++m1) h1 vs ys)
   (hq:∀mm h' tk,Aft g.w g.base (·=L) ad s0.heap AE m1 h'->Bg g F L mm loc' (ad++m1) h'->Q () {s0 with heap:=h',toks:=tk}):
   Aa g.M A (assignInOrder Ad ys) Q {s0 with heap:=h1,toks:=tk1}:=by
 induction ss generalizing vs ys Am mm1 h1 tk1 with
 |nil=>refine b.nil_ λe1 e2=>?_;subst e1 e2;simp only[Aj] at r;subst r;exact Aa.pure (hq mm1 h1 tk1 a1 f1)
 |cons Cg ss ih=>refine b.cons_ λv FK l1 e1 u b2=>?_;subst e1;simp only[Aj] at r;obtain⟨y,t,rfl,r1,r2⟩:=r;show Aa g.M A (holding t (_:Sem Unit)>>=λ_=>assignInOrder _ t) Q _;refine Aa.bind (Aa.holding (Cg A _ y _ (EE F0 hs hf a1 f1 u r1 λh' tk a f sb=>?_)));have tp:=f1.toFrB.tupL sb;exact ih b2 a f (Aj.mono (AU.refl _) tp _ _ r2)
theorem EO{x:Str}{xp:Pos}:GG g F L x (assign (.Name x xp) (F.env L)):=λA s y Q h=>by show Aa g.M A (do standAt xp;bindName (F.env L) x y) Q s;refine Aa.bind (Aa.at ?_);refine⟨λΓ p hΓ Nf=>?_⟩;rw[Sem.wp_bindName];exact h.go Γ p hΓ Nf
theorem Ri{x:Str}:GG g F L x (λy=>bindName (F.env L) x y):=λA s y Q h=>by refine⟨λΓ p hΓ Nf=>?_⟩;rw[Sem.wp_bindName];exact h.go Γ p hΓ Nf
theorem IW:∀xs:List Str,Xk g F L xs (xs.map λn=>bindName (F.env L) n)
 |[]=>.nil
 |x::xs=>.cons Ri (IW xs)
noncomputable def D8(e:Expr):Str:=if h:e.ctorIdx=23 then Expr.Name.elim (motive_1:=λ_=>Str) e h λx _=>x else ""
noncomputable def EU(e:Expr):Bool:=Nat.beq e.ctorIdx 23
theorem B3{env:Env}:∀es:List Expr,es.all EU=true->assignEach es env=es.map λe=>(false,assign e env)
 |[],_=>rfl
 |e::r,h=>by
  rw[sR,oZ] at h;have ih:=B3 (env:=env) r h.2;induction e using jS with
  |Name=>show _::assignEach r env=_;rw[ih];rfl
  |_=>exact xB h.1
theorem D0:∀{es:List Expr},es.all EU=true->Xk g F L (es.map D8) (es.map λe=>assign e (F.env L))
 |[],_=>.nil
 |e::r,h=>by
  rw[sR,oZ] at h;induction e using jS with
  |Name x xp=>exact .cons EO (D0 h.2)
  |_=>exact xB h.1
theorem AF.ext(hs:SR g.w g.base ad os h)(hf:FrB g L m ad h)(he:Heap.ExtBut h.objs.size h h'):AF g L m ad h os [] h':=by have k:∀b o,h.get? b=some o->h'.get? b=some o:=λb o e=>he b o (Nat.ne_of_lt (pz e)) e;exact AF.grow hs hf (λb o e _=>k b o e) (hf.ns.at' λo e=>k L o e) λb o e=>k b o (hs.old b o e)
theorem Pb{es:List Expr}{k:Nat}{tp:Pos}(F0:BV g F)(h:AG g F d e loc os λos v=>∃vs loc',v=.tup vs/\vs.length=es.length/\Binds F.names (es.map D8) vs loc loc'/\KN loc' os)
  (hn:es.all EU=true) (hs:∀env,swapsWithSole [.Tuple es k tp] e p.line env=pure false) (hw:∀L,swappedStores [.Tuple es k tp] e (F.env L)=pure none):Fs g F d (.Assign [.Tuple es k tp] e p) loc os KN KR:=by
 intro A s ad L m Q hr HI hf hN AT;rw[PyProof.Rows.exec_Assign];refine Aa.bind (Aa.at ?_);rw[hs];refine Aa.bind (Aa.pure (Aa.ite (λe=>by exact xB e) λ_=>?_));refine Aa.bind (h A s ad L m _ hr HI hf λAE m1 v y h1 tk1 a1 r1 k1=>?_);obtain⟨vs,loc',rfl,hl,b,kn⟩:=k1;simp only[VR] at r1;obtain⟨a,ys,rfl,ht,rs⟩:=r1;rw[hw];refine Aa.bind (Aa.pure ?_);have Bv:=hf.after HI a1;have Ac:=rs.length;show Aa g.M A (do assignAll (.ref a) [assign (.Tuple es k tp) (F.env L)];pure .next) Q _;refine Aa.bind ?_;show Aa g.M A (assign (.Tuple es k tp) (F.env L) (.ref a)) _ _;rw[arm_assign_Tuple,B3 es hn];refine Aa.bind (Aa.at ?_);unfold unpack;refine Aa.bind (m:=holding [.ref a] (unpackItems (.ref a) _ _)) (Aa.holding ?_);have Cg:(es.map λe=>(false,assign e (F.env L))).findIdx? (·.1)=none:=by rw[List.findIdx?_eq_none_iff];intro x hx;obtain⟨e,_,rfl⟩:=pe.mp hx;rfl
 have Uh:(es.map λe=>(false,assign e (F.env L))).length=ys.toArray.size:=by simp;exact gH (L2 [_,_,_] [] 0x88841008861080041 hl Ac) (L2 [_,_,_] [] 0x8861088841080041 hl Ac)
 rw[Cg,Uh];refine Aa.of (rE hr.handled ht λh2 he=>?_);have a2:=AF.ext a1.sr Bv.toFrB he;have CX:=Bv.after a1.sr a2;rw[qi];have XD:=a1.trans hf.toFrB HI a2;rw[bE] at CX XD;refine E1 (h1:=h2) (tk1:=tk1) F0 HI hf.toFrB (D0 hn) b XD.toAft CX (by have:=Bv.vrs a1.sr a2.toAft rs;rw[bE] at this;exact this) λmm h3 EI a3 f3=>Aa.pure ?_;exact hN _ _ loc' mm h3 EI a3 f3 kn
theorem UY{es:List Expr}{k:Nat}{tp:Pos}{xs:List Str}(F0:BV g F)(h:AG g F d e loc os λos v=>∃vs loc',v=.tup vs/\vs.length=xs.length/\Binds F.names xs.reverse vs.reverse loc loc'/\KN loc' os)
  (hw:∀L,swappedStores [.Tuple es k tp] e (F.env L)=pure (some xs)) (hs:∀env,swapsWithSole [.Tuple es k tp] e p.line env=pure false):Fs g F d (.Assign [.Tuple es k tp] e p) loc os KN KR:=by
 intro A s ad L m Q hr HI hf hN AT;rw[PyProof.Rows.exec_Assign];refine Aa.bind (Aa.at ?_);rw[hs];refine Aa.bind (Aa.pure (Aa.ite (λe=>by exact xB e) λ_=>?_));refine Aa.bind (h A s ad L m _ hr HI hf λAE m1 v y h1 tk1 a1 r1 k1=>?_);obtain⟨vs,loc',rfl,hl,b,kn⟩:=k1;simp only[VR] at r1;obtain⟨a,ys,rfl,ht,rs⟩:=r1;rw[hw];refine Aa.bind (Aa.pure ?_);have Bv:=hf.after HI a1;have Ac:=rs.length;show Aa g.M A (do rule "assign.swapped-stores";let items<-unpackItems (.ref a) xs.length none;assignInOrder (xs.reverse.map λn=>bindName (F.env L) n) items.reverse;pure .next) Q _;refine Aa.bind (Aa.of (qV ?_));refine Aa.bind ?_;rw[show xs.length=ys.toArray.size by simp;exact gH (L2 [_,_,_] [] 0x88841008861080041 hl Ac) (L2 [_,_,_] [] 0x8861088841080041 hl Ac)];refine Aa.of (rE hr.handled ht λh2 he=>?_);have a2:=AF.ext a1.sr Bv.toFrB he;have CX:=Bv.after a1.sr a2;have XD:=a1.trans hf.toFrB HI a2;rw[bE] at CX XD;have rv:∀{l:List V}{Ab:List Value},Aj (ad++m1) h2 l Ab->Aj (ad++m1) h2 l.reverse Ab.reverse:=by
  have app:∀{l l2:List V}{Ab vals2:List Value},Aj (ad++m1) h2 l Ab->Aj (ad++m1) h2 l2 vals2->Aj (ad++m1) h2 (l++l2) (Ab++vals2):=by
   intro l;induction l with
   |nil=>intro l2 Ab vals2 r r2;simp only[Aj] at r;rw[r];exact r2
   |cons u l ih=>intro l2 Ab vals2 r r2;simp only[Aj] at r;obtain⟨z,t,rfl,q1,q2⟩:=r;simp only[sW,Aj];exact⟨z,_,rfl,q1,ih q2 r2⟩
  intro l;induction l with
  |nil=>intro Ab r;simp only[Aj] at r;rw[r];simp only[List.reverse_nil,Aj]
  |cons u l ih=>intro Ab r;simp only[Aj] at r;obtain⟨z,t,rfl,q1,q2⟩:=r;rw[rG,rG];exact app (ih q2) (Aj.mk1 q1)
 refine Aa.bind (E1 (h1:=h2) (tk1:=tk1) F0 HI hf.toFrB (IW xs.reverse) b XD.toAft CX (rv (by have:=Bv.vrs a1.sr a2.toAft rs;rw[bE] at this;exact this)) λmm h3 EI a3 f3=>Aa.pure ?_);exact hN _ _ loc' mm h3 EI a3 f3 kn
end
open PySem.SeqAt
section
variable{g:Gl}{F:Fn}{d:Nat}{os:List O}{loc:List (Option V)}{K:List O->V->Prop}{KS:List O->Prop}{KT:List O->Bool->Prop}{KL:List O->List V->Prop}{p:Pos}{e l r:Expr}{v:V}
 {L:Addr} {m:Str->Option Value} {ad:AH} {h h':Heap} {KN:List (Option V)->List O->Prop} {KR:List O->V->Prop}
noncomputable def isNone:V->Option Bool
 |.none=>some true
 |.ref _=>some false
 |.tup _=>some false
 |.int _=>some false
 |.bytes _=>some false
 |.bool _=>some false
 |.str _=>some false
 |.imm _=>none
theorem Hx(hb:isNone v=some b)(r:VR ad h v x):(x==.none)=b:=by
 induction v using Mine.V.casesOn with
 |none=>simp only[VR] at r;subst r;obtain rfl:=bg hb;rfl
 |bool=>simp only[VR] at r;subst r;obtain rfl:=bg hb;rfl
 |int=>simp only[VR] at r;obtain⟨t,rfl⟩:=r;obtain rfl:=bg hb;rfl
 |str=>simp only[VR] at r;obtain⟨t,rfl⟩:=r;obtain rfl:=bg hb;rfl
 |bytes=>simp only[VR] at r;obtain⟨_,_,rfl,_⟩:=r;obtain rfl:=bg hb;rfl
 |ref=>simp only[VR] at r;obtain⟨_,_,rfl⟩:=r;obtain rfl:=bg hb;rfl
 |tup=>simp only[VR] at r;obtain⟨_,_,rfl,_⟩:=r;obtain rfl:=bg hb;rfl
 |imm=>exact xO hb
theorem NC(hb:isNone v=some b)(hk:K os (.bool b)):Aw g d (BC .Is) [v,.none] os K:=Aw.now hk λA s ad L m vs Q hr hs hf AK hq=>by obtain⟨x,y,rfl,r1,r2⟩:=AK.two;simp only[VR] at r2;subst r2;refine is_none_gen ?_;rw[Hx hb r1];exact hq _ s.toks VR.b
theorem Jp(hb:isNone v=some b)(hk:K os (.bool (!b))):Aw g d (BC .IsNot) [v,.none] os K:=Aw.now hk λA s ad L m vs Q hr hs hf AK hq=>by obtain⟨x,y,rfl,r1,r2⟩:=AK.two;simp only[VR] at r2;subst r2;refine isNot_none ?_;rw[Hx hb r1];exact hq _ s.toks VR.b
theorem Pt(hi:i<os.length)(hj:j<os.length)(hk:K os (.bool (i==j))):Aw g d (BC .Is) [.ref i,.ref j] os K:=
 Aw.now hk λA s ad L m vs Q hr hs hf AK hq=>by
  obtain⟨x,y,rfl,r1,r2⟩:=AK.two;simp only[VR] at r1 r2;obtain⟨q1,e1,rfl⟩:=r1;obtain⟨q2,e2,rfl⟩:=r2;by_cases OD:i=j
  ·subst OD;rw[e1] at e2;obtain rfl:=bg e2;refine wpAny_is_ref_self ?_;have:=hq (.bool true) s.toks (by rw[re];exact VR.b);exact this
  ·obtain⟨s1,_⟩:=hs.sep _ _ _ _ OD e1 e2;obtain⟨o1,_,g1,_,c1,_⟩:=hs.obj (bG e1);obtain⟨o2,_,g2,_,_,_⟩:=hs.obj (bG e2);refine kto_is g1 g2 s1 c1 ?_;exact hq (.bool false) s.toks (by rw[pG.mpr OD];exact VR.b)
theorem GW(hk:K os (.bool false)):Aw g d (BC .Is) [.none,.ref i] os K:=Aw.now hk λA s ad L m vs Q hr hs hf AK hq=>by obtain⟨x,y,rfl,r1,r2⟩:=AK.two;simp only[VR] at r1 r2;obtain⟨q2,e2,rfl⟩:=r2;subst r1;show wpAny _ _ (do return Value.bool (<-isSame Value.none (Value.ref q2.1))) _ _ _;refine bB (jN (a:=false) rfl (bV ?_));exact hq (.bool false) s.toks VR.b
noncomputable def W4:V->V->Option Bool
 |.none,.none=>some true
 |.bool a,.bool b=>some (a==b)
 |.int a,.int b=>some (a==b)
 |.bytes a,.bytes b=>some (a==b)
 |_,_=>none
inductive SE:V->V->Bool->Prop
 |n:SE .none .none true
 |b (x y:Bool):SE (.bool x) (.bool y) (x==y)
 |i (x y:Int):SE (.int x) (.int y) (x==y)
 |y (x y:List Int):SE (.bytes x) (.bytes y) (x==y)
theorem bJ:W4 a b=some k->SE a b k:=by
 induction a using Mine.V.casesOn with
 |none=>induction b using Mine.V.casesOn with
  |none=>exact λe=>bg e▸.n
  |_=>exact xO
 |bool x=>induction b using Mine.V.casesOn with
  |bool y=>exact λe=>bg e▸.b x y
  |_=>exact xO
 |int x=>induction b using Mine.V.casesOn with
  |int y=>exact λe=>bg e▸.i x y
  |_=>exact xO
 |bytes x=>induction b using Mine.V.casesOn with
  |bytes y=>exact λe=>bg e▸.y x y
  |_=>exact xO
 |_=>exact xO
noncomputable def aU:Option Bool->Option Bool->Option Bool
 |some x,some y=>some (x&&y)
 |_,_=>none
theorem M3{Q:Prop}(e:aU o1 o2=some k)(h:∀x y,o1=some x->o2=some y->k=(x&&y)->Q):Q:=by
 induction o1 using il with
 |none=>exact xO e
 |some x=>induction o2 using il with
  |none=>exact xO e
  |some y=>exact h x y rfl rfl (bg e).symm
noncomputable def Dm:List V->List V->Option Bool
 |[],[]=>some true
 |a::l,b::r=>aU (W4 a b) (Dm l r)
 |_,_=>none
theorem N4{x y:Array UInt8}(ha:Bp a x)(hb:Bp b y):(x.toList==y.toList)=(a==b):=by
 rw[sj,rM,rM,ha,hb];constructor
 ·intro e;rw[e]
 ·intro e;refine List.map_inj_right (f:=λu:UInt8=>(u.toNat:Int)) (λu v q=>?_) |>.mp e;exact UInt8.toNat_inj.mp (by exact_mod_cast q)
theorem EqAt.bytes{A:Around}{s:Shared}(b:Array UInt8)(t:Tok)(c:Array UInt8)(u:Tok):EqAt A s (.bytes b t) (.bytes c u) (b.toList==c.toList):=λprog w E Q h=>by
 unfold eqBool;refine wpAny_holding ?_;refine wpAny_ite_split (λGN=>?_) (λ_=>?_)
 ·have e:b=c:=by have:=eq_of_beq GN;injection this
  subst e;exact bB (qV (bV (by simpa using h)))
 ·have:=eq_bytes (prog:=prog) (w:=w) (A:=A) (E:=E) (s:=s) (b:=b) (c:=c) (t:=t) (u:=u) (Q:=λa s'=>wpAny (model prog w) A (truthOfDropped a) Q E s') (pB h);exact bB this
theorem Vb{s:Shared}(e:W4 a b=some k)(r1:VR ad s.heap a x)(r2:VR ad s.heap b y):EqAt A s x y k:=by
 have e:=bJ e;cases e<;>simp only[VR] at r1 r2
 ·subst r1 r2;exact EqAt.same _
 ·subst r1 r2;exact EqAt.bool_bool _ _
 ·obtain⟨t,rfl⟩:=r1;obtain⟨u,rfl⟩:=r2;exact EqAt.int_int _ _ _ _
 ·obtain⟨_,t,rfl,hb⟩:=r1;obtain⟨_,u,rfl,hc⟩:=r2;rw[<-N4 hb hc];exact EqAt.bytes _ _ _ _
theorem FU{A:Around}{s:Shared}{l:List V}:∀{l2:List V}{xs ys:List Value}{k:Bool},Dm l l2=some k->Aj ad s.heap l xs->Aj ad s.heap l2 ys->
  xs.length=ys.length/\∃f:Nat->Bool,(∀(j:Nat)(x y:Value),xs[j]? =some x->ys[j]? =some y->EqAt A s x y (f j))/\(List.range xs.length).all f=k:=by
 induction l with
 |nil=>
  intro l2 xs ys k e r1 r2;induction l2 using cU with
  |nil=>simp only[Aj] at r1 r2;subst r1 r2;obtain rfl:=bg e;exact⟨rfl,λ_=>true,λj x y a _=>xO a,rfl⟩
  |cons=>exact xO e
 |cons a l ih=>
  intro l2 xs ys k e r1 r2;induction l2 using cU with
  |nil=>exact xO e
  |cons b l2=>
   simp only[Aj] at r1 r2;obtain⟨x,xs,rfl,q1,q2⟩:=r1;obtain⟨y,ys,rfl,w1,w2⟩:=r2;refine M3 e λk1 k2 e1 e2 ek=>?_;obtain⟨hl,f,hf,hk⟩:=ih e2 q2 w2;refine⟨gC (·+1) hl,λj=>j.casesOn k1 f,λj x' y' a b=>?_,?_⟩
   ·induction j using qt with
    |zero=>cases a;cases b;exact Vb e1 q1 w1
    |succ j=>exact hf j x' y' a b
   ·rw[jK,List.range_succ_eq_map,sR,List.all_map,ek,<-hk];rfl
theorem Px{l l2:List V}{k:Bool}(e:Dm l l2=some k)(hk:K os (.bool k)):Aw g d (BC .Eq) [.tup l,.tup l2] os K:=
 Aw.now hk λA s ad L m vs Q hr hs hf AK hq=>by
  obtain⟨x,y,rfl,r1,r2⟩:=AK.two;simp only[VR] at r1 r2;obtain⟨a,xs,rfl,t1,q1⟩:=r1;obtain⟨b,ys,rfl,t2,q2⟩:=r2;obtain⟨hl,f,Iy,hk'⟩:=FU (A:=A.in1) e q1 q2;refine eq_tupleAt t1 t2 hr.c (e:=f) (λj h1 h2=>Iy j _ _ (by simp at h1⊢) (by simp at h2⊢)) ?_;have z:((List.range (min xs.toArray.size ys.toArray.size)).all f&&xs.toArray.size==ys.toArray.size)=k:=by simp[hl,<-hk']
  rw[z];exact hq _ s.toks VR.b
theorem Pr{l l2:List V}{k:Bool}(e:Dm l l2=some k)(hk:K os (.bool (!k))):Aw g d (BC .NotEq) [.tup l,.tup l2] os K:=
 Aw.now hk λA s ad L m vs Q hr hs hf AK hq=>by
  obtain⟨x,y,rfl,r1,r2⟩:=AK.two;simp only[VR] at r1 r2;obtain⟨a,xs,rfl,t1,q1⟩:=r1;obtain⟨b,ys,rfl,t2,q2⟩:=r2;obtain⟨hl,f,Iy,hk'⟩:=FU (A:=A.in1) e q1 q2;refine RcNeAt.tuples t1 t2 hr.c (e:=f) (λj h1 h2=>Iy j _ _ (by simp at h1⊢) (by simp at h2⊢)) _ _ _ _ ?_;have z:((List.range (min xs.toArray.size ys.toArray.size)).all f&&xs.toArray.size==ys.toArray.size)=k:=by simp[hl,<-hk']
  rw[z];exact hq _ s.toks VR.b
theorem NE{l l2:List V}{i j:Nat}{k:Bool}(h1:os[i]? =some (.list l))(h2:os[j]? =some (.list l2))(e:Dm l l2=some k)(hk:K os (.bool k)):Aw g d (BC .Eq) [.ref i,.ref j] os K:=
 Aw.now hk λA s ad L m vs Q hr hs hf AK hq=>by
  obtain⟨x,y,rfl,r1,r2⟩:=AK.two;simp only[VR] at r1 r2;obtain⟨qa,e1,rfl⟩:=r1;obtain⟨qb,e2,rfl⟩:=r2;obtain⟨_,xs,n1,g1,q1⟩:=hs.rep _ _ qa h1 e1;obtain⟨_,ys,n2,g2,q2⟩:=hs.rep _ _ qb h2 e2;have t1:s.heap.IsList qa.1 xs.toArray:=⟨_,g1,rfl,n1,rfl⟩;have t2:s.heap.IsList qb.1 ys.toArray:=⟨_,g2,rfl,n2,rfl⟩;obtain⟨hl,f,Iy,hk'⟩:=FU (A:=A.in1) e q1 q2;refine eq_listAt t1 t2 (by simp[hl]) hr.c (e:=f) (λj h1 h2=>Iy j _ _ (by simp at h1⊢) (by simp at h2⊢)) ?_;have z:(List.range xs.toArray.size).all f=k:=by simp[<-hk']
  rw[z];exact hq _ s.toks VR.b
theorem Py(hk:K os (.bool (a==b))):Aw g d (BC .Eq) [.str a,.str b] os K:=Aw.now hk λA s ad L m vs Q hr hs hf AK hq=>by obtain⟨x,y,rfl,⟨t,rfl⟩,⟨u,rfl⟩⟩:=AK.two;exact RcAt.str_str a t b u _ _ _ _ (hq _ s.toks VR.b)
theorem Ge{ad:AH}{h:Heap}{i:Int}:∀{l:List Int}{ys:List Value},Aj ad h (l.map .int) ys->(∀y∈ys,∃j t,y=.int j t)/\ys.any (λy=>match y with|.int j _=>j==i|_=>false)=l.any (·==i)
 |[],_,r=>by simp only[pC,Aj] at r;subst r;exact⟨λ_ h=>(nomatch h),rfl⟩
 |n::l,_,r=>by
  simp only[ik,Aj,VR] at r;obtain⟨_,ys,rfl,⟨t,rfl⟩,r2⟩:=r;obtain⟨a,b⟩:=Ge (i:=i) r2;refine⟨λy hy=>?_,by rw[ru,ru,b]⟩;rcases cS.mp hy with rfl|hy
  ·exact⟨n,t,rfl⟩
  ·exact a y hy
theorem Pw{i:Int}{l:List Int}(AK:vs=l.map .int)(hk:K os (.bool (l.any (·==i)))):Aw g d (BC .In) [.int i,.tup vs] os K:=
 Aw.now hk λA s ad L m ws Q hr hs hf hw hq=>by
  subst AK;obtain⟨x,y,rfl,r1,r2⟩:=hw.two;simp only[VR] at r1 r2;obtain⟨t,rfl⟩:=r1;obtain⟨a,ys,rfl,t1,q1⟩:=r2;obtain⟨EL,hany⟩:=Ge (i:=i) q1;refine in_tupleAt (λy=>match y with|.int j _=>j==i|_=>false) t1 (λy hy=>?_) ?_
  ·obtain⟨j,u,rfl⟩:=EL y (by simpa using hy);exact EqAt.int_int _ _ _ _
  ·have z:ys.toArray.any (λy=>match y with|.int j _=>j==i|_=>false)=l.any (·==i):=by rw[<-hany];simp
   rw[z];exact hq _ s.toks VR.b
theorem Jn{i:Int}{l:List Int}(AK:vs=l.map .int)(hk:K os (.bool (!l.any (·==i)))):Aw g d (BC .NotIn) [.int i,.tup vs] os K:=
 Aw.now hk λA s ad L m ws Q hr hs hf hw hq=>by
  subst AK;obtain⟨x,y,rfl,r1,r2⟩:=hw.two;simp only[VR] at r1 r2;obtain⟨t,rfl⟩:=r1;obtain⟨a,ys,rfl,t1,q1⟩:=r2;obtain⟨EL,hany⟩:=Ge (i:=i) q1;refine notIn_tupleAt (λy=>match y with|.int j _=>j==i|_=>false) t1 (λy hy=>?_) ?_
  ·obtain⟨j,u,rfl⟩:=EL y (by simpa using hy);exact EqAt.int_int _ _ _ _
  ·have z:ys.toArray.any (λy=>match y with|.int j _=>j==i|_=>false)=l.any (·==i):=by rw[<-hany];simp
   rw[z];exact hq _ s.toks VR.b
theorem O3{Iw DQ:CmpOp}{r2:Expr}(h:AG g F d l loc os λos a=>AG g F d r loc os λos b=>Aw g d (BC Iw) [a,b] os λos c=>∃c0,c=.bool c0/\
   (c0=true->AG g F d r2 loc os λos c2=>Aw g d (BC DQ) [b,c2] os λos v=>∃x,v=.bool x/\KT os x)/\(c0=false->KT os false))
  (hm:∀env,markedEach [Iw,DQ] [r,r2] (evalEach [r,r2] env)=[eval r env,eval r2 env]):Ir g F d (.Compare l [Iw,DQ] [r,r2] p) loc os KT:=by
 intro A s ad L m Q hr hs hf hq;show Aa g.M A (do testChain p (<-eval l (F.env L)) [Iw,DQ] (markedEach [Iw,DQ] [r,r2] (evalEach [r,r2] (F.env L)))) Q s;rw[hm];refine Aa.bind (h A s ad L m _ hr hs hf λAE m1 a x h1 tk1 a1 r1 k1=>?_);have Bv:=hf.after hs a1;have AX:=Ak (R:=λ_ _ b b'=>b'=b) (s:=s) hs hf.toFrB a1 hq;refine Aa.bind (Aa.holding (k1 A _ (ad++m1) L m _ hr a1.sr Bv λBM m2 b y h2 Ci a2 r2 k2=>?_));have CX:=Bv.after a1.sr a2;have IG:=Ak (R:=λ_ _ b b'=>b'=b) (s:={s with heap:=h1,toks:=tk1}) a1.sr Bv.toFrB a2 AX;refine Aa.bind (Aa.at (Aa.bind (Aa.holding (Aw.run2 (s:={s with heap:=h2,toks:=Ci}) k2 hr a2.sr CX.toFrB (Bv.vr a1.sr a2.toAft r1) r2 λKv m3 c z h3 EI a3 r3 k3=>?_))));obtain⟨c0,rfl,k3⟩:=k3;simp only[VR] at r3;subst r3;have QN:=CX.after a2.sr a3;have kO:=Ak (R:=λ_ _ b b'=>b'=b) (s:={s with heap:=h2,toks:=Ci}) a2.sr CX.toFrB a3 IG;refine Aa.bind (Aa.rel (Aa.bind (Aa.holding (Aa.of (pB ?_)))));induction c0 using jM with
 |false=>exact Aa.pure (hq Kv (m1++m2++m3) false false h3 EI (by have:=(a1.trans hf.toFrB hs (a2.trans Bv.toFrB a1.sr a3));rwa[<-bF] at this) rfl (k3.2 rfl))
 |true=>refine Aa.bind (Aa.holding (k3.1 rfl A _ _ L m _ hr a3.sr QN λSN m4 c2 z4 h4 Of a4 r4 k4=>?_));have cv:=QN.after a3.sr a4;refine Aa.bind (Aa.at (Aa.bind (Aa.operate (Aw.run2 (s:={s with heap:=h4,toks:=Of}) k4 hr a4.sr cv.toFrB (QN.vr a3.sr a4.toAft (CX.vr a2.sr a3.toAft r2)) r4 λXq m5 u5 z5 h5 bh a5 r5 k5=>?_))));obtain⟨x,rfl,kt⟩:=k5;simp only[VR] at r5;subst r5;refine Aa.holding (Aa.of (pB ?_));exact Ak (R:=λ_ _ b b'=>b'=b) (s:={s with heap:=h4,toks:=Of}) a4.sr cv.toFrB a5 (Ak (R:=λ_ _ b b'=>b'=b) (s:={s with heap:=h3,toks:=EI}) a3.sr QN.toFrB a4 kO) Xq [] x x h5 bh (AF.refl a5.sr (cv.toFrB.after a5)) rfl kt
end
open PySem.SeqAt
section
variable{w:World}{A:Around}{E:Value->Shared->Prop}{s:Shared}{h h':Heap}
theorem B6{h:Heap}(p:h.IsTuple a x)(q:h.IsTuple a y):x=y:=by obtain⟨o,e,_,n,d⟩:=p;obtain⟨o',e',_,n',d'⟩:=q;rw[e] at e';obtain rfl:=bg e';rw[d] at d';cases d';rfl
theorem Dv:∀{vs:List Value}{x y:List Int},IntsAre vs x->IntsAre vs y->x=y
 |_,_,_,.nil,.nil=>rfl
 |_,_,_,.cons n t p,.cons _ _ q=>by rw[Dv p q]
theorem IsPair.inj(p:IsPair h x a)(q:IsPair h y a):x=y:=by
 obtain⟨t,b,vs,p1,p2,p3⟩:=p;obtain⟨t',b',FK,q1,q2,q3⟩:=q;have e:=B6 p1 q1;simp only[Array.mk.injEq,List.cons.injEq,Value.int.injEq,Value.ref.injEq] at e;obtain⟨⟨e1,_⟩,e2,_⟩:=e;subst e2;have:=B6 p2 q2;have hv:vs=FK:=by simpa using this
 subst hv;exact Prod.ext e1 (Dv p3 q3)
theorem Du:∀{vs:List Value}{l:List Int},IntsAre vs l->ItemsAre (intKind prog w) l vs
 |_,_,.nil=>.nil
 |_,_,.cons n t p=>.cons (by show Value.isInt n (.int n t)=true;simp[Value.isInt]) (Du p)
theorem IT{vs:List Value}(p:h.IsTuple b vs.toArray)(q:IntsAre vs l):IsTupleKey (intKind prog w) h l b:=by obtain⟨o,e,c,n,d⟩:=p;exact⟨o,vs.toArray,n,e,c,d,Du q⟩
theorem Nw{k:Int×List Int}{Q:Int->Shared->Prop}(hu:A.units+1<cLine)(p:IsPair s.heap k a)(hq:Q (En k) {s with toks:=s.toks+(k.2.length+3)}):wpAny (model prog w) A (pyHash (.ref a)) Q E s:=by
 obtain⟨t,b,vs,p1,p2,p3⟩:=p;have hT:=p1.typeIs (s:=s);obtain⟨o,ho,hc,n,hd⟩:=id p1;unfold pyHash;first|unfold pyHashByItsType|skip
 first|refine bB (wpAny_cRoomFor_or (.inr (L1 [_] [] 0x4d583c84390684414d583c80441 hu)) ?_)|skip
 refine bB (jP hT qD.lookup ?_);show wpAny _ _ (if (some (Value.builtin "tuple.__hash__")==some Value.none)=true then _ else _) Q E s;rw[jU (by rw[beq_builtin_none];exact pJ)];refine bB (jP hT qD.lookup ?_);show wpAny _ _ (callSpecialIfBoundUnlessNone? (.ref a) "__hash__" _>>=_) Q E s;refine bB (wpAny_callSpecialIfBoundUnlessNone?_slot hT qD (rm qD hT PySem.F.entry_tuple_hash ?_ (PySem.F.args_tuple_hash_1 _)));show wpAny _ _ (Builtin.Tuple.tupleItemsOf (.ref a)>>=_) _ _ s;refine bB (wpAny_tupleItemsOf ho hd ?_);refine bB ?_;rw[<-sJ];show wpAny _ _ (forIn [Value.int k.1 t,Value.ref b] _ _) _ _ s;rw[qO];refine bB (bB (wpAny_pyHash_int ?_));dsimp only;refine bV ?_;dsimp only;rw[qO];refine bB (bB (wpAny_pyHash_tuple (knd:=intKind prog w) (by show A.units+1<cLine;exact hu) (show IsTupleKey (intKind prog w) _ k.2 b from IT p2 p3) ?_));dsimp only;refine bV ?_;dsimp only;rw[List.forIn_nil];refine bV ?_;try dsimp only
 show wpAny _ _ (retInt (Builtin.Tuple.tupleHashOf [hashInt k.1,tupleKeyHash (intKind prog w) k.2])) _ _ _;refine wpAny_ret_mkInt ?_;show wpAny _ _ (if (decide (-(2:Int)^63<=Builtin.Tuple.tupleHashOf [hashInt k.1,tupleKeyHash (intKind prog w) k.2])&&decide (Builtin.Tuple.tupleHashOf [hashInt k.1,tupleKeyHash (intKind prog w) k.2]<2^63))=true then _ else _) Q E _;have e:En k=reduceHash (Builtin.Tuple.tupleHashOf [hashInt k.1,tupleKeyHash (intKind prog w) k.2]):=rfl;have et:s.toks+1+(k.2.length+1)+1=s.toks+(k.2.length+3):=gH (L0 [_,_] [] 0x18721d03410e421c87410e41ad68041) (L0 [_,_] [] 0x87210e43a08720d6b430e43a068041);rw[e] at hq;unfold reduceHash at hq;by_cases hr:(decide (-(2:Int)^63<=Builtin.Tuple.tupleHashOf [hashInt k.1,tupleKeyHash (intKind prog w) k.2])&&decide (Builtin.Tuple.tupleHashOf [hashInt k.1,tupleKeyHash (intKind prog w) k.2]<2^63))=true
 ·rw[lW hr];rw[lW hr] at hq;refine bV ?_;try dsimp only
  rw[et];exact hq
 ·rw[jU hr];rw[jU hr] at hq;refine bB (qV (bV ?_));rw[et];exact hq
theorem NM{vs us:List Value}{A:Around}(p:s.heap.IsTuple l vs.toArray)(q:s.heap.IsTuple b us.toArray)(p':IntsAre vs x)(q':IntsAre us y)(hu:A.units<cLine):EqAt A s (.ref l) (.ref b) (decide (x=y)):=by
 by_cases hlb:l=b
 ·subst hlb;have e:vs=us:=by simpa using B6 p q
  subst e;have:=Dv p' q';subst this;rw[jL rfl];exact EqAt.same _
 ·refine EqAt.of_refs hlb ?_;have key:=RcAt.tuples (A:=A) (s:=s) p q hu (e:=λj=>(x.getD j 0)==(y.getD j 0)) λj h1 h2=>?_
  ·have kS:=p'.length;have bq:=q'.length;have z:((List.range (min vs.toArray.size us.toArray.size)).all (λj=>(x.getD j 0)==(y.getD j 0))&&vs.toArray.size==us.toArray.size)=decide (x=y):=by
    rw[sj];simp only[oZ,rh,List.mem_range,rM,pr,sP,kS,bq];constructor
    ·rintro⟨h1,h2⟩;refine List.ext_getElem h2 λi a b=>?_;have:=h1 i (iT x.length y.length (λu0 v0=>L2 [_,_,_] [] 0x104861100441080441 a v0) (λu0 v0=>L3 [_,_,_,_] [] 0x184861100441188841080441 h2 a v0));simpa[List.getD,a,b] using this
    ·rintro rfl;simp
   rw[z] at key;exact key
  ·have a1:∀{vs:List Value}{x:List Int},IntsAre vs x->∀(j:Nat)(hj:j<vs.length),∃t,vs[j]=.int (x.getD j 0) t:=by
    intro vs x hx;induction hx with
    |nil=>intro j hj;simp at hj
    |cons n t _ ih=>intro j hj;induction j using qt with
     |zero=>exact⟨t,by simp⟩
     |succ j=>obtain⟨t,e⟩:=ih j (by simpa using hj);exact⟨t,by simpa using e⟩
   obtain⟨t,e1⟩:=a1 p' j (by simpa using h1);obtain⟨u,e2⟩:=a1 q' j (by simpa using h2);show EqAt A.in1 s (vs.toArray[j]) (us.toArray[j]) _;simp only[List.getElem_toArray,e1,e2];exact EqAt.int_int _ _ _ _
theorem Nx(p:IsPair s.heap x l)(q:IsPair s.heap y b)(hu:A.units+1<cLine):EqAt A s (.ref l) (.ref b) (decide (x=y)):=by
 by_cases hlb:l=b
 ·subst hlb;rw[p.inj q,jL rfl];exact EqAt.same _
 ·refine EqAt.of_refs hlb ?_;obtain⟨t,c,vs,p1,p2,p3⟩:=p;obtain⟨t',c',FK,q1,q2,q3⟩:=q;have key:=RcAt.tuples (A:=A) (s:=s) p1 q1 (L1 [_] [] 0x4d583c84390684414d583c80441 hu) (e:=λj=>if j=0 then x.1==y.1 else decide (x.2=y.2)) λj h1 h2=>?_
  ·have z:((List.range (min (#[Value.int x.1 t,Value.ref c]).size (#[Value.int y.1 t',Value.ref c']).size)).all (λj=>if j=0 then x.1==y.1 else decide (x.2=y.2))&&(#[Value.int x.1 t,Value.ref c]).size==(#[Value.int y.1 t',Value.ref c']).size)=decide (x=y):=by
    rw[sj];show((List.range 2).all (λj=>if j=0 then x.1==y.1 else decide (x.2=y.2))&&true)=true<->_;simp[List.range_succ,Prod.ext_iff]
   rw[z] at key;exact key
  ·match j,h1 with
   |0,_=>exact EqAt.int_int _ _ _ _
   |1,_=>exact NM p2 q2 p3 q3 (by show A.units+1<cLine;exact hu)
   |n+2,h1=>exact absurd (show n+2<2 from h1) (L0 [_] [] 0x41c8839069041)
theorem K0{vs:List Value}{Q:Bool->Shared->Prop}(p:s.heap.IsTuple a vs.toArray)(p':IntsAre vs x)(hq:Q true s):wpAny (model prog w) A (eqIsQuiet (n+1) (.ref a)) Q E s:=by
 have hT:=p.typeIs (s:=s);have hi:=Du (w:=w) p';obtain⟨o,ho,_,k,hd⟩:=p;unfold eqIsQuiet;refine bB (jP hT PySem.F.slot_tuple_eq.lookup ?_);show wpAny _ _ (isInstance (.ref a) (.type "tuple")>>=_) _ _ s;refine bB (qj hT isSubtype_tuple_tuple ?_);simp only[rP,qn,s9];refine bB (wpAny_seqItems ho hd ?_);refine bB ?_;show wpAny _ _ (forIn vs.toArray _ _) _ _ s;rw[<-sJ];refine wpAny_forIn_list _ (λrest r s'=>r.1=none/\s'=s/\∀v∈rest,carriedByValue v=true) _ ?_ ?_ _ _ ⟨rfl,rfl,hi.byValue⟩
 ·rintro v rest r s' ⟨hr,rfl,EL⟩;rw[eqIsQuiet_byValue _ (EL v pg)];refine bB (bV ?_);simp only[rP,qn,s9];exact bV ⟨rfl,rfl,λu kJ=>EL u (pt _ kJ)⟩
 ·rintro⟨r1,r2⟩ s' ⟨hr,rfl,_⟩;simp only at hr;subst hr;exact bV hq
theorem KZ{Q:Bool->Shared->Prop}(p:IsPair s.heap x a)(hq:Q true s):wpAny (model prog w) A (eqIsQuiet 8 (.ref a)) Q E s:=by obtain⟨t,b,vs,p1,p2,p3⟩:=p;have hT:=p1.typeIs (s:=s);obtain⟨o,ho,_,k,hd⟩:=id p1;unfold eqIsQuiet;refine bB (jP hT PySem.F.slot_tuple_eq.lookup ?_);show wpAny _ _ (isInstance (.ref a) (.type "tuple")>>=_) _ _ s;refine bB (qj hT isSubtype_tuple_tuple ?_);simp only[rP,qn,s9];refine bB (wpAny_seqItems ho hd ?_);refine bB ?_;show wpAny _ _ (forIn #[Value.int x.1 t,Value.ref b] _ _) _ _ s;rw[<-sJ];show wpAny _ _ (forIn [Value.int x.1 t,Value.ref b] _ _) _ _ s;rw[qO,eqIsQuiet_byValue _ (show carriedByValue (.int x.1 t)=true from rfl)];refine bB (bB (bV ?_));simp only[rP,qn,s9];refine bV ?_;dsimp only;rw[qO];refine bB (bB (K0 (n:=6) p2 p3 ?_));simp only[rP,qn,s9];refine bV ?_;dsimp only;rw[List.forIn_nil];exact bV (bV hq)
noncomputable def Em(w:World):HeapKind prog w (Int×List Int) where
 is:=IsPair
 hash:=En
 draws:=λk=>k.2.length+3
 room:=λA=>A.units+1<cLine
 inj:=λhx hy=>hx.inj hy
 keeps:=λx ho hd hs=>x.mono λa vs t=>by obtain⟨o',e,c,n,dd⟩:=t;refine⟨o',(hs.2 a ?_).trans e,c,n,dd⟩;rintro rfl;rw[ho] at e;obtain rfl:=bg e;rw[hd] at dd;cases dd
 pyHash:=λhu hk h=>Nw hu hk h
 eqBool:=λhu hx hy h=>Nx hx hy hu _ _ _ _ h
 quiet:=λhk h=>KZ hk h
end
section
variable{g:Gl}{F:Fn}{d:Nat}{os:List O}{loc:List (Option V)}{K:List O->V->Prop}{KS:List O->Prop}{KT:List O->Bool->Prop}{KL:List O->List V->Prop}{p:Pos}{e l r:Expr}{v:V}
 {L:Addr} {m:Str->Option Value} {ad:AH} {h h':Heap} {KN:List (Option V)->List O->Prop} {KR:List O->V->Prop}
theorem Aj.app{l l2:List V}{Ab vals2:List Value}(r:Aj ad h l Ab)(r2:Aj ad h l2 vals2):Aj ad h (l++l2) (Ab++vals2):=by
 induction l generalizing Ab with
 |nil=>simp only[Aj] at r;rw[r];exact r2
 |cons u l ih=>simp only[Aj] at r;obtain⟨z,t,rfl,q1,q2⟩:=r;simp only[sW,Aj];exact⟨z,_,rfl,q1,ih q2⟩
theorem Aj.drop:∀{l:List V}{Ab:List Value}(n:Nat),Aj ad h l Ab->Aj ad h (l.drop n) (Ab.drop n)
 |_,_,0,r=>r
 |[],_,n+1,r=>by simp only[Aj] at r;subst r;simp only[List.drop_nil,Aj]
 |u::l,_,n+1,r=>by simp only[Aj] at r;obtain⟨z,t,rfl,_,q2⟩:=r;exact Aj.drop n q2
theorem Aj.take:∀{l:List V}{Ab:List Value}(n:Nat),Aj ad h l Ab->Aj ad h (l.take n) (Ab.take n)
 |_,_,0,r=>by simp only[List.take_zero,Aj]
 |[],_,n+1,r=>by simp only[Aj] at r;subst r;simp only[List.take_nil,Aj]
 |u::l,_,n+1,r=>by simp only[Aj] at r;obtain⟨z,t,rfl,q1,q2⟩:=r;simp only[List.take_succ_cons,Aj];exact⟨z,_,rfl,q1,Aj.take n q2⟩
theorem Aj.setAt:∀{l:List V}{Ab:List Value}{n:Nat}{y:Value},Aj ad h l Ab->VR ad h v y->Aj ad h (l.set n v) (Ab.set n y)
 |[],_,_,_,r,_=>by simp only[Aj] at r;subst r;simp only[List.set_nil,Aj]
 |u::l,_,0,_,r,rv=>by simp only[Aj] at r;obtain⟨z,t,rfl,q1,q2⟩:=r;simp only[List.set_cons_zero,Aj];exact⟨_,_,rfl,rv,q2⟩
 |u::l,_,n+1,_,r,rv=>by simp only[Aj] at r;obtain⟨z,t,rfl,q1,q2⟩:=r;simp only[List.set_cons_succ,Aj];exact⟨_,_,rfl,q1,Aj.setAt q2 rv⟩
theorem A9(h:Heap):h.get? h.objs.size=none:=by
 induction q:h.get? h.objs.size using il with
 |none=>rfl
 |some o=>exact absurd (pz q) (pu _)
theorem BG(hs:SR g.w g.base ad os h){i:Nat}{l:List V}(ho:os[i]? =some (.list l)){q:Addr×Addr}(hq:ad[i]? =some q):∃Ab n,h.get? q.1=some {cls:=.type "list",data:=.seq Ab.toArray n}/\Aj ad h l Ab/\h.IsList q.1 Ab.toArray:=by obtain⟨_,Ab,n,g1,rr⟩:=hs.rep _ _ q ho hq;exact⟨Ab,n,g1,rr,⟨_,g1,rfl,n,rfl⟩⟩
theorem Js{i j:Nat}{a b:List V}(h1:os[i]? =some (.list a))(h2:os[j]? =some (.list b))(Ac:a.length+b.length<=1000000)(hk:K (os++[.list (a++b)]) (.ref os.length)):Aw g d (Cv .Add) [.ref i,.ref j] os K:=by intro A s ad L m vs Q hr hs hf AK hq;obtain⟨_,_,rfl,r1,r2⟩:=AK.two;simp only[VR] at r1 r2;obtain⟨q1,e1,rfl⟩:=r1;obtain⟨q2,e2,rfl⟩:=r2;obtain⟨xs,n1,_,w1,l1⟩:=BG hs h1 e1;obtain⟨ys,n2,_,w2,l2⟩:=BG hs h2 e2;have z1:=w1.length;have z2:=w2.length;refine Aa.of (add_arrays (hf.fr hs) hf.newsAll l1 l2 (λh' F' N'=>?_) (by simp only[sP,pI];exact L3 [_,_,_,_] [] 0x46430804430fa12013231680418000001721068041 Ac z1 z2));refine hq _ _ _ _ h' s.toks (AF.oneNews (X:=[(s.heap.objs.size,_)]) (ob:=.list (a++b)) hs hf F' N' (.head _) (A9 _) λtp e=>⟨rfl,xs++ys,0,by simpa using e,?_⟩) (VR.newRef hs) hk;exact Aj.mono (AU.app _ _) tp _ _ (w1.app w2)
theorem foldl_rep{α:Type}(x:α):∀(n:Nat)(acc:Array α),(List.foldl (λa b=>a++b) acc (List.replicate n #[x])).toList=acc.toList++List.replicate n x
 |0,acc=>by simp
 |n+1,acc=>by rw[qz,su,foldl_rep x n];simp[qz]
theorem Jo{i:Nat}{n:Int}(h1:os[i]? =some (.list [v]))(h0:0<=n)(hn:n<=1000000)(hk:K (os++[.list (List.replicate n.toNat v)]) (.ref os.length)):Aw g d (Cv .Mult) [.ref i,.int n] os K:=by
 intro A s ad L m vs Q hr hs hf AK hq;obtain⟨_,_,rfl,r1,r2⟩:=AK.two;simp only[VR] at r1 r2;obtain⟨q1,e1,rfl⟩:=r1;obtain⟨t,rfl⟩:=r2;obtain⟨xs,n1,g1,w1,l1⟩:=BG hs h1 e1;simp only[Aj] at w1;obtain⟨y,_,rfl,ry,rfl⟩:=w1;refine Aa.of (mul_list (hf.fr hs) hf.newsAll g1 (L1 [] [_] 0x33020810000000000000000dcfa041 h0) (L1 [] [_] 0x7a120132081050000000000000000dc82441 hn) (by simp;exact L1 [] [_] 0x7a120132081060000005c82041 hn) (λh' F' N'=>?_));refine hq _ _ _ _ h' s.toks (AF.oneNews (X:=[(s.heap.objs.size,_)]) (ob:=.list (List.replicate n.toNat v)) hs hf F' N' (.head _) (A9 _) λtp e=>⟨rfl,List.replicate n.toNat y,0,?_,?_⟩) (VR.newRef hs) hk
 ·rw[e];have:(List.foldl (λx1 x2=>x1++x2) #[] (List.replicate (if ([y].toArray).isEmpty=true then 0 else n.toNat) [y].toArray))=(List.replicate n.toNat y).toArray:=by
   apply Array.toList_inj.mp;rw[jU (by simp)];have:=foldl_rep y n.toNat #[];simpa using this
  rw[this]
 ·have j4:=VR.mono (AU.app ad [(s.heap.objs.size,s.heap.objs.size)]) tp _ _ ry;generalize n.toNat=k;induction k with
  |zero=>simp only[pH,Aj]
  |succ k ih=>simp only[qz,Aj];exact⟨y,_,rfl,j4,ih⟩
theorem GU{w:World}{A:Around}{E:Value->Shared->Prop}{s:Shared}{l:Addr}{items:Array Value}{n:Nat}{k:Int}{t:Tok}{y:Value}{Q:Unit->Shared->Prop}(ho:s.heap.get? l=some {cls:=.type "list",data:=.seq items n})(h0:0<=k)(hn:k<items.size)(XQ:k<2^63)
  (hQ:∀h' n',h'.get? l=some {cls:=.type "list",data:=.seq (items.setIfInBounds k.toNat y) n'}->Heap.SameBut l s.heap h'->Q () {s with heap:=h'}):wpAny (model prog w) A (setItem (.ref l) (.int k t) y) Q E s:=by
 have hl:s.heap.IsList l items:=⟨_,ho,rfl,n,rfl⟩;unfold setItem;try with_reducible refine wpAny_holding ?_
 first|refine bB (bV ?_)|skip
 refine bB (wpAny_sequenceKey hl.typeIs (by decide) ?_);refine bB (qc (name:=Str.ofString "__setitem__") hl.typeIs slot_list_setitem
  (rm slot_list_setitem hl.typeIs entry_list_setitem ?_ (args_list_setitem _ _ _)))
 show wpAny _ _ (Builtin.List.listSubscript? (.int k t)>>=_) _ _ s;refine bB (wpAny_listSubscript_int (fitsIndex_of h0 XQ) ?_);clear XQ;obtain⟨j,rfl⟩:=qA h0;have hj:j<items.size:=L1 [_,_] [] 0x3f07e441080441 hn;have kC:items[j]? =some items[j]:=Array.getElem?_eq_getElem hj;show wpAny _ _ ((seqItemAt l j>>=λr=>pure (r.map (j,·)))>>=_) _ _ s;refine bB (bB (wpAny_seqItemAt ho rfl (bV ?_)));rw[kC];show wpAny _ _ (setSeqItemAt l j y>>=_) _ _ s;have Ur:(s.heap.update l (Obj.mapSeq (·.setIfInBounds j y))).get? l=some (Obj.mapSeq (·.setIfInBounds j y) {cls:=.type "list",data:=.seq items n}):=qQ _ ho (Obj.isFreed_of_seq (Obj.data_mapSeq (o:={cls:=.type "list",data:=.seq items n}) rfl (·.setIfInBounds j y)).choose_spec)
 have li:∃n',Obj.mapSeq (·.setIfInBounds j y) {cls:=.type "list",data:=.seq items n}={cls:=.type "list",data:=.seq (items.setIfInBounds j y) n'}:=⟨_,rfl⟩;obtain⟨n',e⟩:=li;rw[e] at Ur;refine bB (wpAny_setSeqItemAt ho rfl ?_);first
  |exact bB (bV (bV ⟨.none,rfl,bV (hQ _ n' Ur (qh ..))⟩))
  |exact bV ⟨.none,rfl,bV (hQ _ n' Ur (qh ..))⟩
theorem K7{i:Nat}{a:List V}{j:Int}(h1:os[i]? =some (.list a))(h0:0<=j)(hj:j<a.length)(Ac:a.length<=1000000)(hk:KS (os.set i (.list (a.set j.toNat v)))):He g d El [.ref i,.int j,v] os KS:=by
 intro A s ad L m vs Q hr hs hf AK hq;obtain⟨_,_,y,rfl,r1,r2,ry⟩:=AK.three;simp only[VR] at r1 r2;obtain⟨q,AX,rfl⟩:=r1;obtain⟨t,rfl⟩:=r2;obtain⟨hqq,xs,n1,g1,w1⟩:=hs.rep _ _ q h1 AX;have l1:s.heap.IsList q.1 xs.toArray:=⟨_,g1,rfl,n1,rfl⟩;have z1:=w1.length;have hm:=bG AX;refine Aa.of (GU g1 h0 (by simp;exact L2 [_,_] [_] 0x121043f048820f82441 hj z1) (L2 [_] [_] 0xf4240264002083e091050000000000000000dc82441 hj Ac) λh' n2 g2 sb=>?_);have hne:q.1≠L:=λz=>hf.out ⟨q,hm,.inl z.symm⟩;have kp:∀b o,s.heap.get? b=some o->b≠q.1->h'.get? b=some o:=λb o e n=>(sb.2 b n).trans e;refine hq _ [] h' _ (hs.turn hf AX (o:=.list (a.set j.toNat v)) (λb ob e n1 n2=>kp b ob e λz=>n2 (.inl z)) (hf.ns.sameBut sb hne.symm) (λb o e=>kp b o (hs.old b o e) λz=>?_) λtp=>⟨hqq,xs.set j.toNat y,n2,?_,Aj.mono (AU.refl _) tp _ _ (w1.setAt ry)⟩) hk
 ·rw[z,(hs.new q hm).1] at e;exact xO e
 ·rw[g2];simp
theorem Jr{i:Nat}{a:List V}(h1:os[i]? =some (.list a))(Ac:a.length<=1000000)(hk:K (os.set i (.list (a++[v]))) .none):Aw g d (λws=>call (.builtin "list.append") ws) [.ref i,v] os K:=by
 intro A s ad L m vs Q hr hs hf AK hq;obtain⟨_,y,rfl,r1,ry⟩:=AK.two;simp only[VR] at r1;obtain⟨q,AX,rfl⟩:=r1;obtain⟨hqq,xs,n1,g1,w1⟩:=hs.rep _ _ q h1 AX;have z1:=w1.length;have hm:=bG AX;refine Aa.of (wpAny_list_append_plain (l:=q.1) (items:=xs.toArray) ⟨n1,g1⟩ (λh' P sb=>?_) (by rw[sP,pI];exact L2 [_,_] [] 0x2430fa120132101060000005c80041 Ac z1));obtain⟨n2,g2⟩:=P;have hne:q.1≠L:=λz=>hf.out ⟨q,hm,.inl z.symm⟩;have kp:∀b o,s.heap.get? b=some o->b≠q.1->h'.get? b=some o:=λb o e n=>(sb.2 b n).trans e;refine hq _ [] .none .none h' _ (hs.turn hf AX (o:=.list (a++[v])) (λb ob e n1 n2=>kp b ob e λz=>n2 (.inl z)) (hf.ns.sameBut sb hne.symm) (λb o e=>kp b o (hs.old b o e) λz=>?_) λtp=>⟨hqq,xs++[y],n2,by simpa using g2,?_⟩) VR.n hk
 ·rw[z,(hs.new q hm).1] at e;exact xO e
 ·exact Aj.mono (AU.refl _) tp _ _ (w1.app (Aj.mk1 ry))
end
section
variable{g:Gl}{F:Fn}{d:Nat}{os:List O}{loc:List (Option V)}{K:List O->V->Prop}{KS:List O->Prop}{KT:List O->Bool->Prop}{KL:List O->List V->Prop}{p:Pos}{e l r:Expr}{v:V}
 {L:Addr} {m:Str->Option Value} {ad:AH} {h h':Heap} {KN:List (Option V)->List O->Prop} {KR:List O->V->Prop}
def SG(g:Gl)(os:List O)(name:Str)(id:String)(v:V):Prop:=∃T,PlainAttrs T/\Slot T name id/\typeOf (.builtin id)=pure (.type "method_descriptor")/\∀(s:Shared)(ad:AH)(x:Value),SR g.w g.base ad os s.heap->VR ad s.heap v x->s.TypeIs x T/\∀a,x=.ref a->∃ob,s.heap.get? a=some ob/\ob.dict=none
theorem Jw{i:Nat}{l:List V}(ho:os[i]? =some (.list l)):SG g os "append" "list.append" (.ref i):=⟨"list",PySem.F.plainAttrs_list,PySem.F.slot_list_append,PySem.F.type_list_append,λs ad x S r=>by simp only[VR] at r;obtain⟨q,hq,rfl⟩:=r;obtain⟨Ab,n,g1,_,hl⟩:=BG S ho hq;exact⟨hl.typeIs,λa e=>by injection e with e;subst e;exact⟨_,g1,rfl⟩⟩⟩
theorem PE(ho:os[i]? =some (.tdict ks)):SG g os "get" "dict.get" (.ref i):=⟨"dict",PySem.F.plainAttrs_dict,PySem.F.slot_dict_get,PySem.F.type_dict_get,λs ad x S r=>by simp only[VR] at r;obtain⟨q,hq,rfl⟩:=r;obtain⟨_,xs,⟨o,es,ep,g1,ex,_⟩,_⟩:=S.rep _ _ q ho hq;exact⟨⟨o,g1,ex.1⟩,λa e=>by injection e with e;subst e;exact⟨o,g1,ex.2.1⟩⟩⟩
theorem Wi{Kt:Pos}{args:List Expr}(h:AG g F d o loc os λos ov=>∃id,SG g os name id ov/\Q0 g F d p args loc os λos vs=>Aw g d (λws=>call (.builtin id) ws) (ov::vs) os K)
  (Cg:args.any isStarred=false) (Ac:args.length<30) (X3:(Kt.endLine==p.line)=true)
  (X6:∀env,attributeBase o name env (eval o env)=eval o env):AG g F d (.Call (.Attribute o name Kt) args [] p) loc os K:=by
 intro A s ad L m Q hr hs hf hq;show Aa g.M A (eval (.Call (.Attribute o name Kt) args [] p) (F.env L)) Q s;rw[arm_eval_Call,X6];refine Aa.bind (h A s ad L m _ hr hs hf λAE m1 ov x h1 tk1 a1 r1 k1=>?_);obtain⟨id,⟨T,pa,slot,hty,hT⟩,k1⟩:=k1;have Bv:=hf.after hs a1;obtain⟨hT,hd⟩:=hT {s with heap:=h1,toks:=tk1} _ x a1.sr r1;have b:=C9 (pos:=p) (env:=F.env L) Cg;have X5:methodCallForm (args.length+([]:List Keyword).length) (backTo p (starEach args (F.env L))) (backToKw p (keywordEach [] (F.env L)))=true:=by
  unfold methodCallForm;have e1:(backTo p (starEach args (F.env L))).all (λx=>!x.1)=true:=by rw[rh];intro x hx;have:=b.1;rw[List.any_eq_false] at this;have:=this x hx;simpa using this
  rw[e1];show(true&&true&&decide (args.length+0+0<30))=true;simp;exact Ac
 refine Aa.bind (Aa.at ?_);have dc:methodCallPos true o (F.env L) Kt p=pure p:=by unfold methodCallPos;simp[X3]
 unfold methodCall;rw[X5];refine Aa.bind (Aa.holding (Aa.of (getMethod_builtin hT pa slot hty hd ?_)));refine Aa.bind (Aa.of (jN dc ?_));refine Aa.callWith b.1 (by rw[b.2];exact L1 [_] [] 0xf07201107c1c80041 Ac) ?_;refine k1 A {s with heap:=h1,toks:=tk1} _ L m _ hr a1.sr Bv λBM m2 vs FK h2 Ci a2 r2 k2=>?_;show Aa g.M A (keeperOf (.builtin id)) _ _;refine Aa.pure ?_;exact k2 A {s with heap:=h2,toks:=Ci} _ L m (x::FK) Q hr a2.sr (Bv.after a1.sr a2).toFrB (by simp only[Aj];exact⟨x,FK,rfl,Bv.vr a1.sr a2.toAft r1,r2⟩)
  (Ak (s:={s with heap:=h1,toks:=tk1}) a1.sr Bv.toFrB a2 (Ak (s:=s) hs hf.toFrB a1 hq))
theorem MC{k:Int×List Int}(r:VR ad h (.tup [.int k.1,.tup (k.2.map .int)]) x):∃a,x=.ref a/\IsPair h k a:=by simp only[VR,Aj] at r;obtain⟨a,vs,rfl,ht,y,_,rfl,⟨t,rfl⟩,z,_,rfl,⟨b,ws,rfl,hb,rw⟩,rfl⟩:=r;exact⟨a,rfl,t,b,ws,ht,hb,FX rw⟩
theorem F7(S:SR g.w g.base ad os h){i:Nat}{ks:List ((Int×List Int)×V)}(ho:os[i]? =some (.tdict ks)){q:Addr×Addr}(hq:ad[i]? =some q):
  q.2=q.1/\∃xs:List ((Int×List Int)×Addr×Value),h.DictOfH (Em g.w) q.1 xs/\xs.map (·.1)=ks.map (·.1)/\Aj ad h (ks.map (·.2)) (xs.map λx=>x.2.2):=by
 obtain⟨hqq,xs,⟨o,es,ep,g1,ex,hd,he⟩,hp,hk,nd,r⟩:=S.rep _ _ q ho hq;exact⟨hqq,xs,⟨o,es,ep,g1,ex,hd,he,hp,by rw[hk];exact nd⟩,hk,r⟩
theorem Kh:∀{ks:List ((Int×List Int)×V)}{xs:List ((Int×List Int)×Addr×Value)},xs.map (·.1)=ks.map (·.1)->(ks.map (·.1)).Nodup->Aj ad h (ks.map (·.2)) (xs.map λx=>x.2.2)->At k v ks->∃p,atKey xs k=some p/\VR ad h v p.2
 |[],_,_,_,_,q=>nomatch q
 |f::ks,[],e,_,_,_=>by simp at e
 |f::ks,x::xs,e,nd,r,q=>by
  simp only[ik,List.cons.injEq] at e;simp only[ik,Aj] at r;obtain⟨y,t,e2,r1,r2⟩:=r;simp only[List.cons.injEq] at e2;obtain⟨rfl,rfl⟩:=e2;cases q with
  |head=>exact⟨x.2,by simp[atKey,e.1],r1⟩
  |tail q=>have hne:f.1≠k:=λe=>(jH.mp nd).1 (by subst e;exact q.mem);obtain⟨p,a,b⟩:=Kh e.2 (jH.mp nd).2 r2 q;refine⟨p,?_,b⟩;unfold atKey at a⊢;rw[sh,gD (by rw[e.1];exact hne)];exact a
theorem GD{ks:List ((Int×List Int)×V)}{xs:List ((Int×List Int)×Addr×Value)}(e:xs.map (·.1)=ks.map (·.1))(hn:k∉ks.map (·.1)):atKey xs k=none:=by unfold atKey;rw[qM,List.find?_eq_none];intro x hx;simp only[pr];exact λz=>hn (by rw[<-e,<-z];exact mj (f:=(·.1)) hx)
theorem Bf.c1{A:Around}(r:Bf A d):A.in1.units+1<cLine:=by have:=r.units;show A.units+1+1<cLine;unfold cLine;exact L1 [_,_] [] 0x9920790a83b0684414d583c843908720d68441 this
theorem Jq{i:Nat}{k:Int×List Int}{ks:List ((Int×List Int)×V)}(ho:os[i]? =some (.tdict ks))(hx:At k v ks\/(v=.none/\k∉ks.map (·.1)))(hk:K os v):
  Aw g d (λws=>call (.builtin "dict.get") ws) [.ref i,.tup [.int k.1,.tup (k.2.map .int)]] os K:=
 Aw.now hk λA s ad L m vs Q hr hs hf AK hq=>by
  obtain⟨_,_,rfl,r1,r2⟩:=AK.two;simp only[VR] at r1;obtain⟨q,AX,rfl⟩:=r1;obtain⟨a,rfl,pk⟩:=MC r2;obtain⟨_,xs,D,e,rr⟩:=F7 hs ho AX;have nd:(ks.map (·.1)).Nodup:=by rw[<-e];exact let⟨_,_,_,_,_,_,_,_,z⟩:=D;z
  refine call_meetsIn PySem.F.slot_dict_get D.typeIs PySem.F.entry_dict_get (PySem.F.args_dict_get_2 _ _) (meetsH_dict_get (Em g.w) q.1 a (D9 hs (bG AX))) ⟨hr.c1,k,xs,pk,D,?_⟩;rcases hx with hx|⟨rfl,hn⟩
  ·obtain⟨p,a1,b1⟩:=Kh e nd rr hx;rw[a1];exact hq _ _ b1
  ·rw[GD e hn];exact hq _ _ VR.n
theorem Jl{i:Nat}{k:Int×List Int}{ks:List ((Int×List Int)×V)}(ho:os[i]? =some (.tdict ks))(hn:k∉ks.map (·.1))(Ac:ks.length<=100000)(hk:KS (os.set i (.tdict (ks++[(k,v)])))):
  He g d El [.ref i,.tup [.int k.1,.tup (k.2.map .int)],v] os KS:=by
 intro A s ad L m vs Q hr hs hf AK hq;obtain⟨_,_,y,rfl,r1,r2,ry⟩:=AK.three;simp only[VR] at r1;obtain⟨q,AX,rfl⟩:=r1;obtain⟨a,rfl,pk⟩:=MC r2;obtain⟨hqq,xs,D,e,rr⟩:=F7 hs ho AX;have hm:=bG AX;have hl:xs.length=ks.length:=by have:=gC List.length e;simpa using this
 have no:=GD e hn;refine Aa.of (wpAny_setItem_heap (knd:=Em g.w) hr.c1 pk D (λh' D' sb=>?_) (by rw[hl,pI];exact L1 [_] [] 0xc350132001060000005c80041 Ac));rw[storedH_new no] at D';have hne:q.1≠L:=λz=>hf.out ⟨q,hm,.inl z.symm⟩;have kp:∀b o,s.heap.get? b=some o->b≠q.1->h'.get? b=some o:=λb o e n=>(sb.2 b n).trans e;refine hq _ [] h' _ (hs.turn hf AX (o:=.tdict (ks++[(k,v)])) (λb ob e n1 n2=>kp b ob e λz=>n2 (.inl z)) (hf.ns.sameBut sb hne.symm) (λb o e=>kp b o (hs.old b o e) λz=>?_) λtp=>⟨hqq,xs++[(k,a,y)],?_⟩) hk
 ·rw[z,(hs.new q hm).1] at e;exact xO e
 ·obtain⟨o,es,ep,g1,ex,hd,he,hp,nd⟩:=D';refine⟨⟨o,es,ep,g1,ex,hd,he⟩,hp,by simp[e],?_,?_⟩
  ·have:(xs++[(k,a,y)]).map (·.1)=(ks++[(k,v)]).map (·.1):=by simp[e]
   rw[<-this];exact nd
  ·rw[jJ,jJ];exact Aj.mono (AU.refl _) tp _ _ (rr.app (Aj.mk1 ry))
end
open PySem.SeqAt
section
variable{g:Gl}{F:Fn}{d:Nat}{os:List O}{loc:List (Option V)}{K:List O->V->Prop}{KS:List O->Prop}{KT:List O->Bool->Prop}{KL:List O->List V->Prop}{p:Pos}{e l r:Expr}{v:V}
 {L:Addr} {m:Str->Option Value} {ad:AH} {h h':Heap} {KN:List (Option V)->List O->Prop} {KR:List O->V->Prop}
theorem EG(hs:SR g.w g.base ad os h){i:Nat}{l:List Int}(ho:os[i]? =some (.barr l)){q:Addr×Addr}(hq:ad[i]? =some q):∃b,BA.At h q.1 b/\Bp l b:=by obtain⟨_,b,g1,hb⟩:=hs.rep _ _ q ho hq;exact⟨b,g1,hb⟩
theorem K6{value AB:Expr}{l:List Int}{i:Nat}{j c:Int}(ho:os[i]? =some (.barr l))(h0:0<=j)(hv:l[j.toNat]? =some c)(Ac:l.length<=1000000)(hk:K os (.int c))(hp:As AB=true):Aw g d (CQ value AB) [.ref i,.int j] os K:=
 Aw.now hk λA s ad L m vs Q hr hs hf AK hq=>by
  obtain⟨a,b,rfl,r1,r2⟩:=AK.two;simp only[VR] at r1 r2;obtain⟨q,AX,rfl⟩:=r1;obtain⟨ti,rfl⟩:=r2;obtain⟨b,x,hb⟩:=EG hs ho AX;obtain⟨u,hu,rfl⟩:=E0 hb hv;have hl:l.length=b.size:=by rw[hb];simp
  have Ef:=(im.mp hv).1;refine tail_any (T:="bytearray") x.typeIs BA.slot_getitem.lookup (getItem_meets x.typeIs (by decide) BA.slot_getitem BA.entry_getitem (BA.args_getitem _ _) (BA.meets_index q.1 j ti u ?_) ⟨b,x,?_,hq (.int u.toNat s.toks) _ VR.i⟩) (AL hp _ _)
  ·simp only[Builtin.Bytes.fitsIndex,oZ,pr];exact⟨L1 [] [_] 0x33020810000000000000000dcfa041 h0,L3 [_,_] [_] 0x7f430802220fa120132001050000000000000000dc82441 Ac Ef (bD (show 0<=j from h0))⟩
  ·have e:seqIndex? j b.size=some j.toNat:=by
    have hn:¬j<0:=L1 [] [_] 0xcc0820c83041 h0;simp only[seqIndex?,hn,h0];simp;exact⟨h0,L3 [_,_,_] [_] 0x2fd0c21108820090820f82441 hl Ef (bD (show 0<=j from h0))⟩
   rw[e];show b[j.toNat]? =_;rw[<-Array.getElem?_toList];exact hu
theorem Lw{b:Array UInt8}{l:List Int}(hb:Bp l b)(lo hi:Option Int):Bp (cut l lo hi) (KBy.picked b lo hi):=(KBc.ints_picked (show KBw.bInts b=l from hb.symm) lo hi).symm
theorem HT{value:Expr}{lo hi:Option Expr}{sp:Pos}{l:List Int}{i:Nat}{a b:V}{x y:Option Int}(ho:os[i]? =some (.barr l))(ha:BD a x)(hb:BD b y)(Ac:l.length<=1000000)(hk:K (os++[.barr (cut l x y)]) (.ref os.length)):
  QZ g d (O8 g.M value (.Slice lo hi none sp)) [.ref i,a,b] os K:=by
 intro A s ad L m vs Q hr hs hf AK hq;obtain⟨v1,v2,v3,rfl,r1,r2,r3⟩:=AK.three;simp only[VR] at r1;obtain⟨q,AX,rfl⟩:=r1;obtain⟨bb,at_,hB⟩:=EG hs ho AX;have hl:l.length=bb.size:=by rw[hB];simp
 show Aa g.M A (newFields "slice" [v2,v3,.none]) _ s;refine Aa.of (pO (T:="slice") (data:=.fields #[v2,v3,.none]) (dict:=none) (Q:=λi s'=>Aa g.M A (subscriptTail value _ _ i) Q s') (Aa.of ?_));have ie:BA.At (s.heap.push {cls:=.type "slice",data:=.fields #[v2,v3,.none]}) q.1 bb:=cP _ at_;have hT:({s with heap:=s.heap.push {cls:=.type "slice",data:=.fields #[v2,v3,.none]}}:Shared).TypeIs (.ref q.1) "bytearray":=BA.At.typeIs ie;refine tail_any (T:="bytearray") hT BA.slot_getitem.lookup (getItem_meets hT (by decide) BA.slot_getitem BA.entry_getitem (BA.args_getitem _ _) (BA.meets_slice q.1 s.heap.objs.size (ha.is r2) (hb.is r3))
  ⟨bb,ie,Heap.IsSliceOf.new _ _ _ _,by rw[pI];exact L2 [_,_] [] 0x2430fa120132101060000005c80041 Ac hl,?_⟩) rfl
 have k:∀b o,s.heap.get? b=some o->((s.heap.push {cls:=.type "slice",data:=.fields #[v2,v3,.none]}).push {cls:=.type "bytearray",data:=.bytearray (KBy.picked bb x y) 0}).get? b=some o:=λb o e=>cP _ (cP _ e);have hz:(s.heap.push {cls:=.type "slice",data:=.fields #[v2,v3,.none]}).objs.size=s.heap.objs.size+1:=rH ..;have fr:s.heap.get? (s.heap.objs.size+1)=none:=by
  induction q:s.heap.get? (s.heap.objs.size+1) using il with
  |none=>rfl
  |some o=>exact absurd (sQ (pz q)) (pu _)
 show Q (.ref (s.heap.push _).objs.size) _;rw[hz];refine hq _ [(s.heap.objs.size+1,s.heap.objs.size+1)] _ _ _ s.toks (hs.push hf (q:=(s.heap.objs.size+1,s.heap.objs.size+1)) (o:=.barr (cut l x y)) (λb o e n=>k b o e) ?_ (λb o e=>k b o (hs.old b o e)) fr fr ⟨rfl,KBy.picked bb x y,?_,Lw hB _ _⟩) (VR.newRef hs) hk
 ·exact hf.ns.at' λo e=>k L o e
 ·rw[<-hz];exact jQ _ rfl
theorem GS(items:List Value)(lo hi:Option Int):slicePick items.toArray lo hi none=(cut items lo hi).toArray:=by unfold slicePick cut;rw[sliceBounds_plain];simp only[sliceRange_one,pick_run];simp
theorem Aj.cut{l:List V}{Ab:List Value}(r:Aj ad h l Ab)(lo hi:Option Int):Aj ad h (cut l lo hi) (Mine.cut Ab lo hi):=by unfold Mine.cut;rw[<-r.length];exact Aj.take _ (Aj.drop _ r)
theorem Rt(u1:W4 u z=some c1)(w1:W4 w z=some c3)(q1:VR ad h u x)(q2:VR ad h w x):c1=c3:=by
 have p:=bJ u1;have q:=bJ w1;clear u1 w1;cases p<;>cases q<;>simp only[VR] at q1 q2
 ·rfl
 ·rw[q1] at q2;cases q2;rfl
 ·obtain⟨_,q1⟩:=q1;obtain⟨_,q2⟩:=q2;rw[q1] at q2;cases q2;rfl
 ·obtain⟨_,_,q1,z1⟩:=q1;obtain⟨_,_,q2,z2⟩:=q2;rw[q1] at q2;cases q2;rw[z1,z2]
theorem Pe(e:W4 a b=some k)(r1:VR ad h a x)(r2:VR ad h b x):k=true:=by
 have e:=bJ e;cases e<;>simp only[VR] at r1 r2
 ·rfl
 ·subst r1;cases r2;exact re _
 ·obtain⟨t,rfl⟩:=r1;obtain⟨u,r2⟩:=r2;cases r2;exact re _
 ·obtain⟨_,t,rfl,hb⟩:=r1;obtain⟨_,u,r2,hc⟩:=r2;cases r2;rw[hb,hc];exact re _
theorem Pd:∀{b t:List V}{xs:List Value}{k1 k2:Bool},Aj ad h a xs->Aj ad h b xs->Dm a t=some k1->Dm b t=some k2->k1=k2:=by
 induction a with
 |nil=>
  intro b t xs k1 k2 q1 q2 e1 e2;simp only[Aj] at q1;subst q1;induction b using cU with
  |nil=>rw[e1] at e2;exact bg e2
  |cons=>simp only[Aj] at q2;obtain⟨_,_,q,_⟩:=q2;exact xL q
 |cons u a ih=>
  intro b t xs k1 k2 q1 q2 e1 e2;simp only[Aj] at q1;obtain⟨x,xs,rfl,GP,q12⟩:=q1;induction b using cU with
  |nil=>simp only[Aj] at q2;exact ml q2
  |cons w b=>
   simp only[Aj] at q2;obtain⟨x',gJ,e',q21,q22⟩:=q2;cases e';induction t using cU with
   |nil=>exact xO e1
   |cons z t=>refine M3 e1 λc1 c2 u1 u2 ek=>M3 e2 λc3 c4 w1 w2 XB=>?_;rw[ek,XB,ih q12 q22 u2 w2,Rt u1 w1 GP q21]
theorem Nq{l:List V}:∀{l2:List V}{xs:List Value}{k:Bool},Dm l l2=some k->Aj ad h l xs->Aj ad h l2 xs->k=true:=by
 induction l with
 |nil=>
  intro l2 xs k e r1 r2;induction l2 using cU with
  |nil=>exact(bg e).symm
  |cons=>exact xO e
 |cons a l ih=>
  intro l2 xs k e r1 r2;induction l2 using cU with
  |nil=>exact xO e
  |cons b l2=>simp only[Aj] at r1 r2;obtain⟨x,xs,rfl,q1,q2⟩:=r1;obtain⟨y,ys,e',w1,w2⟩:=r2;cases e';refine M3 e λk1 k2 e1 e2 ek=>?_;rw[ek,Pe e1 q1 w1,ih e2 q2 w2];rfl
theorem ON{l l2:List V}{x y:Value}{k:Bool}{s:Shared}{A:Around}(hu:A.units<cLine)(e:Dm l l2=some k)(r1:VR ad s.heap (.tup l) x)(r2:VR ad s.heap (.tup l2) y):EqAt A s x y k:=by
 simp only[VR] at r1 r2;obtain⟨a1,xs,rfl,t1,q1⟩:=r1;obtain⟨b1,ys,rfl,t2,q2⟩:=r2;by_cases GN:a1=b1
 ·subst GN;have ex:xs=ys:=by simpa using B6 t1 t2
  subst ex;rw[Nq e q1 q2];exact EqAt.same _
 refine EqAt.of_refs GN ?_;obtain⟨hl,f,Iy,hk'⟩:=FU (A:=A.in1) e q1 q2;have key:=RcAt.tuples (A:=A) (s:=s) t1 t2 hu (e:=f) (λj h1 h2=>Iy j _ _ (by simp at h1⊢) (by simp at h2⊢));have z:((List.range (min xs.toArray.size ys.toArray.size)).all f&&xs.toArray.size==ys.toArray.size)=k:=by simp[hl,<-hk']
 rw[z] at key;exact key
theorem WD{P:Value->Prop}:∀{rows:List (List V)}{t:List V}{f:List V->Bool}{ys:List Value},(∀r∈rows,Dm r t=some (f r))->Aj ad h (rows.map .tup) ys->
  ∃e:Value->Bool,(∀y∈ys,∃r∈rows,VR ad h (.tup r) y/\e y=f r)/\ys.any e=rows.any f:=by
 classical
 intro rows t f ys hf hr;have key:∀{rows:List (List V)}{ys:List Value},(∀r∈rows,Dm r t=some (f r))->Aj ad h (rows.map .tup) ys->∀y∈ys,∀r1,VR ad h (.tup r1) y->r1∈rows->∀r2,VR ad h (.tup r2) y->r2∈rows->f r1=f r2:=by
  intro rows ys hf hr y hy r1 v1 m1 r2 v2 m2;simp only[VR] at v1 v2;obtain⟨a1,xs,rfl,t1,q1⟩:=v1;obtain⟨b1,zs,e,t2,q2⟩:=v2;cases e;have ex:xs=zs:=by simpa using B6 t1 t2
  subst ex;have e1:=hf r1 m1;have e2:=hf r2 m2;exact Pd q1 q2 e1 e2
 refine⟨λy=>decide (∃r∈rows,VR ad h (.tup r) y/\f r=true),?_,?_⟩
 ·intro y hy;obtain⟨n,hn⟩:=La hy;have Ac:=hr.length;have Ef:n<rows.length:=by
   have:=(im.mp hn).1;rw[gI] at Ac;exact L2 [_,_,_] [] 0x100441104861080441 Ac this
  obtain⟨y',hy',ry⟩:=hr.get (n:=n) (v:=.tup rows[n]) (by simp[Ef]);rw[hn] at hy';obtain rfl:=bg hy';refine⟨rows[n],qk _,ry,?_⟩;induction c:f rows[n] using jM with
  |true=>rw[pr];exact⟨rows[n],qk _,ry,c⟩
  |false=>rw[decide_eq_false_iff_not];rintro⟨r2,m2,v2,e2⟩;rw[key hf hr y hy _ ry (qk _) r2 v2 m2,e2] at c;exact Yk c
 ·rw[sj,sX,sX];constructor
  ·rintro⟨y,_,e⟩;rw[pr] at e;obtain⟨r,m,_,e⟩:=e;exact⟨r,m,e⟩
  ·rintro⟨r,m,e⟩;obtain⟨n,hn⟩:=La m;obtain⟨y,hy,ry⟩:=hr.get (n:=n) (v:=.tup r) (by simp[hn]);exact⟨y,bG hy,by rw[pr];exact⟨r,m,ry,e⟩⟩
theorem ND{rows:List (List V)}(ho:os[i]? =some (.list (rows.map .tup)))(hf:∀r∈rows,Dm r t=some (f r))(hk:K os (.bool (rows.any f))):Aw g d (BC .In) [.tup t,.ref i] os K:=
 Aw.now hk λA s ad L m vs Q hr hs Nf AK hq=>by
  obtain⟨x,y,rfl,r1,r2⟩:=AK.two;simp only[VR] at r2;obtain⟨q,AX,rfl⟩:=r2;obtain⟨ys,n1,g1,w1,l1⟩:=BG hs ho AX;obtain⟨e,he,hany⟩:=WD (P:=λ_=>True) hf w1;refine in_listAt e l1 (λy hy=>?_) ?_
  ·obtain⟨r,Uk,ry,ey⟩:=he y (by simpa using hy);rw[ey];exact ON (by have:=hr.c;have:=hr.units;show A.units+1<cLine;unfold cLine;exact L1 [_,_] [] 0x9920790a83b0684414d583c8439068441 this) (hf r Uk) ry r1
  ·have:(ys.toArray).any e=rows.any f:=by rw[<-hany];simp
   rw[this];exact hq _ s.toks VR.b
end
section
variable{g:Gl}{F:Fn}{d:Nat}{os:List O}{loc:List (Option V)}{K:List O->V->Prop}{KS:List O->Prop}{KT:List O->Bool->Prop}{KL:List O->List V->Prop}{p:Pos}{e l r:Expr}{v:V}
 {L:Addr} {m:Str->Option Value} {ad:AH} {h h':Heap} {KN:List (Option V)->List O->Prop} {KR:List O->V->Prop}
theorem J4{ks:List ((Int×List Int)×V)}(ho:os[i]? =some (.tdict ks))(Ac:ks.length<=1000000)(hk:K os (.int ks.length)):Az g d (.imm (.builtin "len")) [.ref i] os K:=
 .ofOp rfl <| Aw.now hk λA s ad L m vs Q hr hs hf AK hq=>by
  obtain⟨_,rfl,r⟩:=AK.one;simp only[VR] at r;obtain⟨q,AX,rfl⟩:=r;obtain⟨_,xs,D,e,rr⟩:=F7 hs ho AX;have hl:xs.length=ks.length:=by have:=gC List.length e;simpa using this
  have hd:=D9 hs (bG AX);refine Calls.call_function_entry kind_len plain_len entry_len (args_len1 _) ?_;unfold Builtin.«len»;refine bB (m:=oneArg "len" _) (bV ?_);have M1:MeetsIn prog g.w (Builtin.«dict.__len__» ⟨[.ref q.1],[]⟩) (λ_ R s=>s.heap.DictOfH (Em g.w) q.1 xs/\R (.ok (.ret (.int xs.length s.toks))) {s with toks:=s.toks+1}):=.of_wp λA R s⟨hm,h⟩=>by
   obtain⟨o,es,ep,ho,hc,hdat,hx,_⟩:=hm;show wpAny _ _ (dictSize q.1>>=_) _ _ s;unfold dictSize;refine bB (bB (wpAny_dictEntries ho hdat (bV ?_)));show wpAny _ _ (Builtin.Dict.pendingCount q.1>>=_) _ _ s;refine bB (wpAny_pendingCount_other hd ?_);refine wpAny_ret_mkInt ?_;have:es.size=xs.length:=by have:=gC List.length hx;simpa using this
   rw[Nat.add_zero,this];exact h
  refine bB (m:=callSpecial? (.ref q.1) (Str.ofString "__len__")) (qc (name:=Str.ofString "__len__") D.typeIs F.slot_dict_len (call_meetsIn F.slot_dict_len D.typeIs F.entry_dict_len (F.args_dict_len_1 _) M1 ⟨D,?_⟩));refine bB (wpAny_holding (bV ?_));refine bB (wpAny_letGo ?_);show wpAny _ _ (if ((xs.length:Nat):Int)<0 then _ else _) _ _ _;rw[jU (by exact L0 [_] [] 419950657)];show wpAny _ _ (if ((xs.length:Nat):Int)>=2^63 then _ else _) _ _ _;rw[jU (by exact L2 [_,_] [] 0x80841f4240264202083e80000000000000006e6c41 Ac hl),hl];exact bB (sO (bV ⟨_,rfl,hq _ _ VR.i⟩))
inductive It:O->Prop
 |s:It (.sdict [])
 |i:It (.idict [])
 |t:It (.tdict [])
theorem Jv(hs:SR g.w g.base ad os h)(hf:FrB g L m ad h)(ho:It o):AF g L m ad h (os++[o]) [(h.objs.size,h.objs.size)] (h.push {cls:=.type "dict",data:=.dict #[]}):=by
 have k:∀b o,h.get? b=some o->(h.push {cls:=.type "dict",data:=.dict #[]}).get? b=some o:=λb o e=>cP _ e;have at_:(h.push {cls:=.type "dict",data:=.dict #[]}).get? h.objs.size=some {cls:=.type "dict",data:=.dict #[]}:=jQ _ rfl;have fr:=A9 h;refine hs.push hf (q:=(h.objs.size,h.objs.size)) (λb o e n=>k b o e) (hf.ns.at' λo e=>k L o e) (λb o e=>k b o (hs.old b o e)) fr fr ?_;have ed:∀{K:Type}[DecidableEq K](knd:KeyKind prog g.w K),(h.push {cls:=.type "dict",data:=.dict #[]}).DictOf knd h.objs.size []:=λknd=>⟨_,#[],_,at_,⟨rfl,rfl,rfl⟩,rfl,by intro e he;simp at he,.nil,.nil⟩;cases ho with
 |s=>exact⟨rfl,[],ed _,by simp only[pC,Aj]⟩
 |i=>exact⟨rfl,[],ed _,by simp only[pC,Aj]⟩
 |t=>exact⟨rfl,[],⟨_,#[],_,at_,⟨rfl,rfl,rfl⟩,rfl,rfl⟩,by simp,rfl,.nil,by simp only[pC,Aj]⟩
theorem Si(ho:It o)(hk:K (os++[o]) (.ref os.length)):AG g F d (.Dict [] [] p) loc os K:=by intro A s ad L m Q hr hs hf hq;refine Aa.of (wpAny_Dict_empty ?_);exact hq _ _ _ _ _ s.toks (Jv hs hf.toFrB ho) (VR.newRef (q:=(s.heap.objs.size,s.heap.objs.size)) hs) hk
noncomputable def Xj(ad:AH)(h:Heap):List (V×V)->List (Value×Value)->Prop
 |[],xs=>xs=[]
 |p::l,xs=>∃x y r,xs=(x,y)::r/\VR ad h p.1 x/\VR ad h p.2 y/\Xj ad h l r
def SI(g:Gl)(F:Fn)(d:Nat)(pos:Pos)(ks:List (Option Expr))(vs:List Expr)(loc:List (Option V))(os:List O)(K:List O->List (V×V)->Prop):Prop:=Cd g F d Xj (λL=>evalPairs (pairTrees ks vs (F.env L) pos)) loc os K
theorem YX{KP:List O->List (V×V)->Prop}(h:KP os []):SI g F d p [] [] loc os KP:=Cd.now h λ_ s _ _ _ _ _ _ _ hq=>evalPairs_nil (hq _ s.toks rfl)
theorem Aa.pairs{M:Model}{A:Around}{s:Shared}{k v:Sem Value}{rest:List (Sem Value×Sem Value)}{Q:List (Value×Value)->Shared->Prop}
  (h:Aa M A k (λkv s₁=>Aa M A v (λvv s₂=>Aa M A (evalPairs rest) (λvs s₃=>Q ((kv,vv)::vs) s₃) s₂) s₁) s):Aa M A (evalPairs ((k,v)::rest)) Q s:=by
 rw[evalPairs];refine Aa.bind (h.mono λkv s₁ h₁=>?_);refine Aa.bind (Aa.holding (h₁.mono λvv s₂ h₂=>?_));exact Aa.bind (Aa.holding (h₂.mono λvs s₃ h₃=>Aa.pure h₃))
theorem VB{KP:List O->List (V×V)->Prop}(h:AG g F d k loc os λos kv=>AG g F d e loc os λos v=>SI g F d p ks vs loc os λos r=>KP os ((kv,v)::r)):SI g F d p (some k::ks) (e::vs) loc os KP:=by intro A s ad L m Q hr hs hf hq;refine Aa.pairs (h A s ad L m _ hr hs hf λAE m1 v x h1 tk1 a1 r1 k1=>?_);have Bv:=hf.after hs a1;refine Aa.bind (k1 A _ (ad++m1) L m _ hr a1.sr Bv λBM m2 v2 x2 h2 Ci a2 r2 k2=>?_);refine Aa.bind (Aa.at (Aa.pure ?_));have CX:=Bv.after a1.sr a2;refine k2 A {s with heap:=h2,toks:=Ci} _ L m _ hr a2.sr CX λKv m3 vs FK h3 EI a3 r3 k3=>?_;refine Ak (R:=Xj) (s:=s) hs hf.toFrB a1 hq Kv (m2++m3) ((v,v2)::vs) ((x,x2)::FK) h3 EI (a2.trans Bv.toFrB a1.sr a3) ?_ k3;rw[<-bF];exact⟨x,x2,FK,rfl,CX.vr a2.sr a3.toAft (Bv.vr a1.sr a2.toAft r1),CX.vr a2.sr a3.toAft r2,r3⟩
theorem Xj.length:∀{ps:List (V×V)}{xs:List (Value×Value)},Xj ad h ps xs->ps.length=xs.length
 |[],_,e=>by rw[show _=[] from e];rfl
 |_::_,_,⟨_,_,_,rfl,_,_,r⟩=>by rw[jK,jK,r.length]
section
variable{α:Type}[DecidableEq α]
theorem Gp{knd:KeyKind prog g.w α}{f:α->V}(hk:∀ad h k x,VR ad h (f k) x->knd.is k x=true):∀{ks:List (α×V)}{xs:List (Value×Value)},Xj ad h (ks.map λq=>(f q.1,q.2)) xs->
  ∃Ab,Carries knd xs ((ks.map (·.1)).zip Ab)/\Aj ad h (ks.map (·.2)) Ab
 |[],_,e=>by rw[show _=[] from e];exact⟨[],trivial,by simp only[pC,Aj]⟩
 |q::ks,_,⟨x,y,r,rfl,r1,r2,r3⟩=>by obtain⟨Ab,c,rs⟩:=Gp hk r3;exact⟨y::Ab,⟨hk _ _ _ _ r1,rfl,c⟩,by simp only[ik,Aj];exact⟨y,Ab,rfl,r2,rs⟩⟩
theorem JY{knd:KeyKind prog g.w α}{f:α->V}{mk:List (α×V)->O}(hk:∀ad h k x,VR ad h (f k) x->knd.is k x=true)(h0:It (mk []))
  (XM:∀(ad:AH)(h:Heap)(q:Addr×Addr)(ks:List (α×V)),OR g.w ad h (mk ks) q<->q.2=q.1/\∃Ab,h.DictOf knd q.1 ((ks.map (·.1)).zip Ab)/\Aj ad h (ks.map (·.2)) Ab)
  {keys:List (Option Expr)} {BE:List Expr} (EL:keys.all (·.isSome)=true) (hl:keys.length=BE.length) (hn:keys≠[]) (Ac:keys.length<=15)
  (h:SI g F d p keys BE loc (os++[mk []]) λBM ps=>∃ks,ps=(ks.map λq=>(f q.1,q.2))/\BM[os.length]? =some (mk [])/\(ks.map (·.1)).Nodup/\ks.length<=100/\K (BM.set os.length (mk ks)) (.ref os.length)):
  AG g F d (.Dict keys BE p) loc os K:=by
 intro A s ad L m Q hr hs hf hq;have bo:=pairTrees_length keys BE (F.env L) p EL hl;have Xe:pairTrees keys BE (F.env L) p≠[]:=by intro he;rw[he] at bo;exact hn (rF.mp bo.symm)
 show Aa g.M A (eval (.Dict keys BE p) (F.env L)) Q s;rw[arm_eval_Dict,zip_pairTrees keys BE (F.env L) p EL hl,dictDisplay_pairs _ Xe (by rw[bo];exact L1 [_] [] 0x78720010621c80441 Ac)];refine Aa.bind (Aa.at (Aa.bind ?_));unfold subDict;refine Aa.bind (Aa.of (wpAny_alloc ?_));refine Aa.bind (Aa.holding ?_);rw[lW (by rw[bo];exact Ac)];have a0:=Jv hs hf.toFrB h0;have cw:=hf.after hs a0;refine Aa.bind (h A {s with heap:=s.heap.push {cls:=.type "dict",data:=.dict #[]}} _ L m _ hr a0.sr cw λBM m2 ps xs h2 Ci a2 r2 k2=>?_);obtain⟨ks,rfl,hi,nd,hk15,hK⟩:=k2;have bl:(ad++[(s.heap.objs.size,s.heap.objs.size)]++m2)[os.length]? =some (s.heap.objs.size,s.heap.objs.size):=by rw[<-hs.len,bF,oY (oU _)];simp
 obtain⟨_,vals0,D,rr⟩:=(XM _ _ _ _).mp (a2.sr.rep _ _ _ hi bl);simp only[pC,List.zip_nil_left] at D;obtain⟨Ab,ca,rv⟩:=Gp (g:=g) (knd:=knd) (f:=f) hk r2;have pQ:=ca.length;have pR:=r2.length;have hz:=Dl rv;refine Aa.holding (Aa.bind (Aa.of (wpAny_storeAll (knd:=knd) xs _ [] _ _ ca D (by rw[hz,pI];simp;exact L1 [_] [] 0x320b2001060000005c80041 hk15) λh' D' sb=>?_)));rw[merged_nil_of_nodup _ (by rw[A7 rv];exact nd)] at D';refine Aa.pure (Aa.pure (Aa.pure ?_));have CX:=cw.after a0.sr a2;have hm:(s.heap.objs.size,s.heap.objs.size)∈ad++[(s.heap.objs.size,s.heap.objs.size)]++m2:=bG bl;have hne:s.heap.objs.size≠L:=λz=>CX.toFrB.out ⟨_,hm,.inl z.symm⟩;have kp:∀b o,h2.get? b=some o->b≠s.heap.objs.size->h'.get? b=some o:=λb o e n=>(sb.2 b n).trans e;have a3:=a2.sr.turn CX.toFrB bl (o:=mk ks) (h':=h') (λb ob e n1 n2=>kp b ob e λz=>n2 (.inl z)) (CX.ns.sameBut sb hne.symm)
  (λb o e=>kp b o (a2.sr.old b o e) λz=>by rw[z,(a2.sr.new _ hm).1] at e;exact xO e) λtp=>(XM _ _ _ _).mpr ⟨rfl,Ab,D',Aj.mono (AU.refl _) tp _ _ rv⟩
 have lV:=a0.trans hf.toFrB hs (a2.trans cw.toFrB a0.sr a3);refine hq _ _ (.ref os.length) _ h' _ lV ?_ hK;simp only[VR];refine⟨(s.heap.objs.size,s.heap.objs.size),?_,rfl⟩;rw[bE,<-bF];exact bl
end
theorem Se{keys:List (Option Expr)}{BE:List Expr}(h:SI g F d p keys BE loc (os++[.sdict []]) λBM ps=>∃ks:List (Str×V),ps=(ks.map λq=>(.str q.1,q.2))/\BM[os.length]? =some (.sdict [])/\(ks.map (·.1)).Nodup/\ks.length<=100/\K (BM.set os.length (.sdict ks)) (.ref os.length))
  (EL:keys.all (·.isSome)=true) (hl:keys.length=BE.length) (hn:keys≠[]) (Ac:keys.length<=15):AG g F d (.Dict keys BE p) loc os K:=
 JY (knd:=strKind prog g.w) (f:=.str) (mk:=.sdict) (λad h k x r=>by simp only[VR] at r;obtain⟨t,rfl⟩:=r;exact Mp k t) .s (λad h q ks=>Iff.rfl) EL hl hn Ac h
theorem Sh{keys:List (Option Expr)}{BE:List Expr}(h:SI g F d p keys BE loc (os++[.idict []]) λBM ps=>∃ks:List (Int×V),ps=(ks.map λq=>(.int q.1,q.2))/\BM[os.length]? =some (.idict [])/\(ks.map (·.1)).Nodup/\ks.length<=100/\K (BM.set os.length (.idict ks)) (.ref os.length))
  (EL:keys.all (·.isSome)=true) (hl:keys.length=BE.length) (hn:keys≠[]) (Ac:keys.length<=15):AG g F d (.Dict keys BE p) loc os K:=
 JY (knd:=intKind prog g.w) (f:=.int) (mk:=.idict) (λad h k x r=>by simp only[VR] at r;obtain⟨t,rfl⟩:=r;exact JH k t) .i (λad h q ks=>Iff.rfl) EL hl hn Ac h
end
section
variable{g:Gl}{F:Fn}{d:Nat}{os:List O}{loc:List (Option V)}{K:List O->V->Prop}{KS:List O->Prop}{KT:List O->Bool->Prop}{KL:List O->List V->Prop}{p:Pos}{e l r:Expr}{v:V}
 {L:Addr} {m:Str->Option Value} {ad:AH} {h h':Heap} {KN:List (Option V)->List O->Prop} {KR:List O->V->Prop}
theorem KH(I:Nat->List (Option V)->List O->Prop)
  (turn:∀n loc os,I n loc os->Ir g F d Cz loc os λos b=>(b=true->Ex g F d body loc os (λloc' Ae=>∃m,m<n/\I m loc' Ae) KR)/\(b=false->KN loc os))
  {s:Shared} {Q:Flow->Shared->Prop} (hr:Bf A d) (hs:SR g.w g.base ad os s.heap) (hf:Bg g F L m loc ad s.heap)
  (hn:∀Ae Ag loc' m' h' tk,Aft g.w g.base (·=L) ad s.heap Ae Ag h'->Bg g F L m' loc' (ad++Ag) h'->KN loc' Ae->Q .next {s with heap:=h',toks:=tk})
  (AT:∀Ae Ag v v' m' h' tk,Aft g.w g.base (·=L) ad s.heap Ae Ag h'->h'.Ns L m'->VR (ad++Ag) h' v v'->KR Ae v->Q (.ret v') {s with heap:=h',toks:=tk}):
  ∀(n:Nat){AE:List O}{m1:AH}{Am:List (Option V)}{mm1:Str->Option Value}{h1:Heap}{tk1:Nat},Aft g.w g.base (·=L) ad s.heap AE m1 h1->Bg g F L mm1 Am (ad++m1) h1->I n Am AE->Ao g.M A (.whileLoop Cz body [] (F.env L)) Q {s with heap:=h1,toks:=tk1}:=by
 intro n;induction n using Nat.strongRecOn with
 |ind n ih=>
  intro AE m1 Am mm1 h1 tk1 a1 f1 i1;refine Ao.tree (λ_ _=>rfl) ?_;have hu:A.under (.whileLoop Cz body [] (F.env L))=A:=pD rfl;rw[hu];show Aa g.M A ((whileTurn Cz body [] (F.env L)).onRaise _) _ _;refine Aa.onRaise ?_;unfold whileTurn;refine Aa.bind (turn n Am AE i1 A {s with heap:=h1,toks:=tk1} _ L mm1 _ hr a1.sr f1 λBM m2 b x h2 Ci a2 r2 k2=>?_);cases r2;have f2:=f1.after a1.sr a2;have WW:=hf.then hs f1.ns a1 a2.toAft;induction b using jM with
  |true=>
   refine Aa.bind (k2.1 rfl A {s with heap:=h2,toks:=Ci} _ L _ _ hr a2.sr f2 (λKv m3 mf Uf h3 EI a3 f3 k3=>?_) (λKv m3 v v' Uf h3 EI a3 n3 r3 k3=>?_))
   ·obtain⟨j,hj,i3⟩:=k3;have II:=hf.then hs f2.ns WW (by rw[<-bF];exact a3);refine Aa.pure ⟨rfl,ih j hj (mm1:=Uf) II ?_ i3⟩;rw[<-bF,<-bF];exact f3
   ·have II:=hf.then hs f2.ns WW (by rw[<-bF];exact a3);refine Aa.pure ?_;refine AT Kv _ v v' Uf h3 EI II n3 ?_ k3;rw[<-bF,<-bF];exact r3
  |false=>refine Aa.bind (Aa.of (wpAny_execs_nil (Aa.pure ?_)));refine hn BM _ Am mm1 h2 Ci WW ?_ (k2.2 rfl);rw[<-bF];exact f2
theorem Rr(n:Nat)(I:Nat->List (Option V)->List O->Prop)(h0:I n loc os)
  (turn:∀n loc os,I n loc os->Ir g F d Cz loc os λos b=>(b=true->Ex g F d body loc os (λloc' Ae=>∃m,m<n/\I m loc' Ae) KR)/\(b=false->KN loc os)):Fs g F d (.While Cz body [] p) loc os KN KR:=by
 intro A s ad L m Q hr hs hf hn AT;rw[exec_While];refine Aa.bind (Aa.at ?_);unfold runOwn;refine Aa.onRaise (Aa.run ?_);exact KH I turn hr hs hf hn AT n (Aft.refl hs) (by rw[bE];exact hf) h0
noncomputable def aH(nm:String):Bool:=!(["enumerate","zip","dict_itemiterator","dict_reverseitemiterator","odict_iterator","itertools.zip_longest","itertools.pairwise"].contains nm)
structure IK(g:Gl)(d:Nat)where
 it:AH->Heap->Addr->Nat->Prop
 el:List O->Nat->Option V->Prop
 is_:∀{ad h a n},it ad h a n->∃o vs nm,h.get? a=some o/\o.cls=.type nm/\o.data=.fields vs/\aH nm=true/\o.cls≠.type "tuple"
 keep:∀{ad HL h h' a n},it ad h a n->AU ad HL->(∀b vs,h.IsTuple b vs->h'.IsTuple b vs)->(∀o,h.get? a=some o->h'.get? a=some o)->it HL h' a n
 next:∀(A:Around)(s:Shared)(ad:AH)(L:Addr)(m:Str->Option Value)(a:Addr)(n:Nat)(os:List O)(u:V)(Q:Option Value->Shared->Prop),Bf A d->SR g.w g.base ad os s.heap->FrB g L m ad s.heap->it ad s.heap a n->el os n (some u)->(∀val h' tk,Heap.SameBut a s.heap h'->it ad h' a (n+1)->VR ad s.heap u val->Q (some val) {s with heap:=h',toks:=tk})->Aa g.M A (pyNext (.ref a)) Q s
 stop:∀(A:Around)(s:Shared)(ad:AH)(L:Addr)(m:Str->Option Value)(a:Addr)(n:Nat)(os:List O)(Q:Option Value->Shared->Prop),Bf A d->SR g.w g.base ad os s.heap->FrB g L m ad s.heap->it ad s.heap a n->el os n none->(∀h' tk,Heap.ExtBut a s.heap h'->Q none {s with heap:=h',toks:=tk})->Aa g.M A (pyNext (.ref a)) Q s
def DC(g:Gl)(d:Nat){α:Type}(R:AH->Heap->α->Value->Prop)(v:α)(os:List O)(X:IK g d):Prop:=∀(A:Around)(s:Shared)(ad:AH)(L:Addr)(m:Str->Option Value)(x:Value)(Q:Value->Shared->Prop),Bf A d->SR g.w g.base ad os s.heap->FrB g L m ad s.heap->R ad s.heap v x->(∀h' tk,(∀b o,s.heap.get? b=some o->h'.get? b=some o)->X.it ad h' s.heap.objs.size 0->Q (.ref s.heap.objs.size) {s with heap:=h',toks:=tk})->Aa g.M A (pyIter x) Q s
def FJ(g:Gl)(F:Fn)(d:Nat)(AS:Expr)(v:V)(loc loc':List (Option V)):Prop:=∀(A:Around)(s:Shared)(ad:AH)(L:Addr)(m:Str->Option Value)(os:List O)(val:Value)(Q:Unit->Shared->Prop),Bf A d->SR g.w g.base ad os s.heap->Bg g F L m loc ad s.heap->VR ad s.heap v val->(∀m' h' tk,Aft g.w g.base (·=L) ad s.heap os [] h'->Bg g F L m' loc' ad h'->Q () {s with heap:=h',toks:=tk})->Aa g.M A (assign AS (F.env L) val) Q s
theorem Ki(F0:BV g F)(u:Upd x v F.names loc loc'):FJ g F d (.Name x xp) v loc loc':=by intro A s ad L m os val Q hr hs hf r hq;refine EO A s val Q (EE (s:=s) (tk1:=s.toks) F0 hs hf.toFrB (Aft.refl hs) (by rw[bE];exact hf) u (by rw[bE];exact r) λh' tk a f _=>?_);rw[bE] at f;exact hq _ h' tk a f
theorem N8{es:List Expr}{vs:List V}(F0:BV g F)(b:Binds F.names (es.map D8) vs loc loc')(hl:vs.length=es.length)(hn:es.all EU=true):FJ g F d (.Tuple es k tp) (.tup vs) loc loc':=by
 intro A s ad L m os val Q hr hs hf r hq;simp only[VR] at r;obtain⟨a,ys,rfl,ht,rs⟩:=r;have Ac:=rs.length;rw[arm_assign_Tuple,B3 es hn];refine Aa.bind (Aa.at ?_);unfold unpack;refine Aa.bind (m:=holding [.ref a] (unpackItems (.ref a) _ _)) (Aa.holding ?_);have Cg:(es.map λe=>(false,assign e (F.env L))).findIdx? (·.1)=none:=by rw[List.findIdx?_eq_none_iff];intro x hx;obtain⟨e,_,rfl⟩:=pe.mp hx;rfl
 have Uh:(es.map λe=>(false,assign e (F.env L))).length=ys.toArray.size:=by simp;exact gH (L2 [_,_,_] [] 0x88841008861080041 hl Ac) (L2 [_,_,_] [] 0x8861088841080041 hl Ac)
 rw[Cg,Uh];refine Aa.of (rE hr.handled ht λh2 he=>?_);have a2:=AF.ext hs hf.toFrB he;have CX:=hf.after hs a2;rw[qi];refine E1 (s0:=s) (h1:=h2) (tk1:=s.toks) F0 hs hf.toFrB (D0 hn) b a2.toAft CX (hf.vrs hs a2.toAft rs) λmm h3 EI a3 f3=>?_;rw[bE] at f3;exact hq mm h3 EI a3 f3
theorem Aft.iter{h0 h1 h2:Heap}(a1:Aft g.w g.base (·=L) ad h0 AE m1 h1)(fr:h0.get? a=none)(out:¬A2 (ad++m1) a)(nb:g.base.get? a=none)
  (nt:∃o,h1.get? a=some o/\o.cls≠.type "tuple") (k:Heap.ExtBut a h1 h2):Aft g.w g.base (·=L) ad h0 AE m1 h2/\∀b vs,h1.IsTuple b vs->h2.IsTuple b vs:=by
 have tp:∀b vs,h1.IsTuple b vs->h2.IsTuple b vs:=λb vs t=>by obtain⟨ob,e1,c,r⟩:=t;refine⟨ob,k b ob (λq=>?_) e1,c,r⟩;subst q;obtain⟨o,e,c'⟩:=nt;rw[e1] at e;obtain rfl:=bg e;exact c' c
 refine⟨⟨⟨λb o e=>k b o (λq=>by rw[q,nb] at e;exact xO e) (a1.sr.old b o e),a1.sr.len,λi o q e1 e2=>?_,a1.sr.sep,a1.sr.new⟩,λb o e n=>k b o (λq=>by rw[q,fr] at e;exact xO e) (a1.kept b o e n),a1.fresh⟩,tp⟩;have hm:=bG e2;exact OR.mono (AU.refl _) tp (λob e=>k _ _ (λz=>out ⟨q,hm,.inl z.symm⟩) e) (λob e=>k _ _ (λz=>out ⟨q,hm,.inr z.symm⟩) e) (a1.sr.rep i o q e1 e2)
theorem Bg.ext{h1 h2:Heap}(f:Bg g F L m loc ad h1)(hne:L≠a)(k:Heap.ExtBut a h1 h2)(tp:∀b vs,h1.IsTuple b vs->h2.IsTuple b vs):Bg g F L m loc ad h2 where
 ns:=f.ns.at' λo e=>k L o hne e
 out:=f.out
 above:=f.above
 loc:=λx v q=>let⟨val,e,r⟩:=f.loc x v q;⟨val,e,VR.mono (AU.refl _) tp _ _ r⟩
 cel:=f.cel
theorem Hv{s:Shared}{X:IK g d}{Q:Unit->Shared->Prop}(hi:X.it ad s.heap a n)(h:Q () s):Aa g.M A (letOwnedTupleGo AS (.ref a) val) Q s:=by
 obtain⟨o,vs,nm,e,c,dd,cm,_⟩:=X.is_ hi;have go:∀b,Aa g.M A (do
   let o<-load a
   match o.cls,o.data with
   |.type n,.fields vs=>
    if ["enumerate","zip","dict_itemiterator","dict_reverseitemiterator","odict_iterator","itertools.zip_longest","itertools.pairwise"].contains n&&vs[0]? ==some (rawInt b) then
     rule "for.unpacks-the-owned-tuple"
     updateField a 0 .none
   |_,_=>pure ()) Q s:=λb=>by
  refine Aa.bind (Aa.of (qg e ?_));obtain⟨oc,od,odt,osl⟩:=o;simp only at c dd;subst c dd;dsimp only;have:(["enumerate","zip","dict_itemiterator","dict_reverseitemiterator","odict_iterator","itertools.zip_longest","itertools.pairwise"].contains nm)=false:=by unfold aH at cm;simpa using cm
  rw[this];exact Aa.pure h
 induction AS using jS<;>first
  |exact Aa.pure h
  |(induction val using qy<;>first|exact Aa.pure h|exact go _)
theorem IK.nt(X:IK g d)(hi:X.it ad h a n):∃o,h.get? a=some o/\o.cls≠.type "tuple":=by obtain⟨o,_,_,e,_,_,_,q⟩:=X.is_ hi;exact⟨o,e,q⟩
theorem P8(X:IK g d)(N:Nat)(I:Nat->List (Option V)->List O->Prop)
  (turn:∀n loc os,n<N->I n loc os->∃u Am,X.el os n (some u)/\FJ g F d AS u loc Am/\Ex g F d body Am os (λloc' Ae=>I (n+1) loc' Ae) KR)
  (done:∀loc os,I N loc os->X.el os N none/\KN loc os)
  {s:Shared} {Q:Flow->Shared->Prop} (hr:Bf A d) (hs:SR g.w g.base ad os s.heap) (hf:Bg g F L m loc ad s.heap) (fr:s.heap.get? a=none)
  (hn:∀Ae Ag loc' m' h' tk,Aft g.w g.base (·=L) ad s.heap Ae Ag h'->Bg g F L m' loc' (ad++Ag) h'->KN loc' Ae->Q .next {s with heap:=h',toks:=tk})
  (AT:∀Ae Ag v v' m' h' tk,Aft g.w g.base (·=L) ad s.heap Ae Ag h'->h'.Ns L m'->VR (ad++Ag) h' v v'->KR Ae v->Q (.ret v') {s with heap:=h',toks:=tk}):
  ∀(j n:Nat){AE:List O}{m1:AH}{Am:List (Option V)}{mm1:Str->Option Value}{h1:Heap}{tk1:Nat},n+j=N->Aft g.w g.base (·=L) ad s.heap AE m1 h1->Bg g F L mm1 Am (ad++m1) h1->¬A2 (ad++m1) a->X.it (ad++m1) h1 a n->I n Am AE->Ao g.M A (.forLoop AS (.ref a) body [] (F.env L)) Q {s with heap:=h1,toks:=tk1}:=by
 have nb:g.base.get? a=none:=by
  induction e:g.base.get? a using il with
  |none=>rfl
  |some o=>rw[hs.old _ _ e] at fr;exact Oo fr
 have QO:L≠a:=λe=>by obtain⟨o,ho⟩:=Ns.is hf.ns;rw[e,fr] at ho;exact xO ho
 intro j;induction j with
 |zero=>intro n AE m1 Am mm1 h1 tk1 Oh a1 f1 out hi i1;obtain rfl:n=N:=Oh;have dn:=done _ _ i1;refine Ao.tree (λ_ _=>rfl) ?_;have hu:A.under (.forLoop AS (.ref a) body [] (F.env L))=A:=pD rfl;rw[hu];show Aa g.M A ((forTurn AS (.ref a) body [] (F.env L)).onRaise _) _ _;refine Aa.onRaise ?_;unfold forTurn;refine Aa.bind (Aa.at (Aa.bind (Aa.onRaise (X.stop A {s with heap:=h1,toks:=tk1} _ L mm1 a n AE _ hr a1.sr f1.toFrB hi dn.1 λh2 Ci k=>?_))));have z:=Aft.iter a1 fr out nb (X.nt hi) k;have a2:=z.1;have tp:=z.2;have f2:=f1.ext QO k tp;refine Aa.pure ⟨rfl,Ao.tree (λ_ _=>rfl) ?_⟩;have hu:A.under (.block [] (F.env L))=A:=pD rfl;rw[hu];show Aa g.M A (do return Fin.done (<-(execs [] (F.env L)).onRaise _)) _ _;refine Aa.bind (Aa.onRaise (Aa.of (wpAny_execs_nil (Aa.pure ?_))));exact hn AE m1 Am mm1 h2 Ci a2 f2 dn.2
 |succ j ih=>
  intro n AE m1 Am mm1 h1 tk1 Oh a1 f1 out hi i1;obtain⟨u,IA,e1,asg,ex⟩:=turn n Am AE (L1 [_,_,_] [] 0x210e45a068841080441 Oh) i1;refine Ao.tree (λ_ _=>rfl) ?_;have hu:A.under (.forLoop AS (.ref a) body [] (F.env L))=A:=pD rfl;rw[hu];show Aa g.M A ((forTurn AS (.ref a) body [] (F.env L)).onRaise _) _ _;refine Aa.onRaise ?_;unfold forTurn;refine Aa.bind (Aa.at (Aa.bind (Aa.onRaise (X.next A {s with heap:=h1,toks:=tk1} _ L mm1 a n AE u _ hr a1.sr f1.toFrB hi e1 λval h2 Ci sb Kk rv=>?_))));have k:Heap.ExtBut a h1 h2:=λb o n e=>(sb.2 b n).trans e;have z:=Aft.iter a1 fr out nb (X.nt hi) k;have a2:=z.1;have tp:=z.2;have f2:=f1.ext QO k tp;have b6:=VR.mono (AU.refl _) tp _ _ rv;refine Aa.bind (Hv (s:={s with heap:=h2,toks:=Ci}) Kk (Aa.bind ?_));refine asg A {s with heap:=h2,toks:=Ci} _ L mm1 AE val _ hr a2.sr f2 b6 λUf h3 EI a3 f3=>Aa.bind ?_;have QV:Aft g.w g.base (·=L) (ad++m1) h2 AE [] h3:=a3;have S3:SR g.w g.base (ad++m1) AE h3:=by have:=QV.sr;rwa[bE] at this
  have II:=hf.then hs f2.ns a2 QV;rw[bE] at II;have mc:∀b,b=L->(h2.get? b).isSome=true->(h3.get? b).isSome=true:=λb e _=>by subst e;obtain⟨o,ho⟩:=Ns.is f3.ns;rw[ho];rfl
  have KC:∀{Ae:List O}{Ag:AH}{h':Heap},Aft g.w g.base (·=L) (ad++m1) h3 Ae Ag h'->X.it (ad++m1++Ag) h' a (n+1)/\¬A2 (ad++m1++Ag) a:=λ{Ae Ag h'}a4=>by
   obtain⟨o2,ei2,_⟩:=X.nt Kk;have e3:h3.get? a=some o2:=QV.kept a o2 ei2 λq=>q.elim out λq=>QO q.symm;have e4:h'.get? a=some o2:=a4.kept a o2 e3 λq=>q.elim out λq=>QO q.symm;refine⟨X.keep Kk (AU.app _ _) (λb vs t=>f3.toFrB.tup S3 a4 b vs (f2.toFrB.tup a2.sr QV b vs t)) (λo e=>?_),λq=>?_⟩
   ·rw[ei2] at e;obtain rfl:=bg e;exact e4
   ·rcases q.app with q|⟨p,hp,q⟩
    ·exact out q
    ·have:=a4.fresh p hp;rcases q with rfl|rfl
     ·rw[this.1] at e3;exact xO e3
     ·rw[this.2] at e3;exact xO e3
  refine ex A {s with heap:=h3,toks:=EI} _ L Uf _ hr S3 f3 (λSN m4 md gS h4 Of a4 f4 k4=>?_) (λSN m4 v v' gS h4 Of a4 n4 r4 k4=>?_)
  ·have cJ:=hf.then hs f3.ns II a4;have q4:=KC a4;rw[bF] at q4 f4;exact Aa.pure ⟨rfl,ih (n+1) (gH (L1 [_,_,_] [] 0x104390e81a21044108720d68041 Oh) (L1 [_,_,_] [] 0x4391683a2184410e43ad00041 Oh)) cJ f4 q4.2 q4.1 k4⟩
  ·have cJ:=hf.then hs f3.ns II a4;refine Aa.pure ?_;refine AT SN _ v v' gS h4 Of cJ n4 ?_ k4;rw[<-bF];exact r4
theorem Tc{α:Type}{R:AH->Heap->α->Value->Prop}
  (h:Cd g F d R (λL=>eval iter (F.env L)) loc os λos v=>∃(X:IK g d)(N:Nat)(I:Nat->List (Option V)->List O->Prop),DC g d R v os X/\I 0 loc os/\
   (∀n loc os,n<N->I n loc os->∃u Am,X.el os n (some u)/\FJ g F d AS u loc Am/\Ex g F d body Am os (λloc' Ae=>I (n+1) loc' Ae) KR)/\(∀loc os,I N loc os->X.el os N none/\KN loc os))
  (la:∀env x,foldedSetIterable iter env x=pure x):Fs g F d (.For AS iter body [] p) loc os KN KR:=by
 intro A s ad L m Q hr hs hf hn AT;rw[exec_For];refine Aa.bind (Aa.at (Aa.bind (h A s ad L m _ hr hs hf λAE m1 v x h1 tk1 a1 r1 k1=>?_)));obtain⟨X,N,I,op,i0,turn,done⟩:=k1;rw[la];have f1:=hf.after hs a1;refine Aa.bind (Aa.pure (Aa.bind (Aa.at (Aa.bind (Aa.holding ?_)))));refine op A {s with heap:=h1,toks:=tk1} _ L m x _ hr a1.sr f1.toFrB r1 λh2 Ci k hi=>?_;unfold runOwn;refine Aa.onRaise (Aa.run ?_);have a2:AF g L m (ad++m1) h1 AE [] h2:=AF.grow a1.sr f1.toFrB (λb o e _=>k b o e) (f1.ns.at' λo e=>k L o e) λb o e=>k b o (a1.sr.old b o e);have f2:=f1.after a1.sr a2;rw[bE] at f2;have fr:=A9 h1;have S2:=a2.sr;refine P8 (s:={s with heap:=h1,toks:=tk1}) (ad:=ad++m1) (a:=h1.objs.size) X N I turn done hr a1.sr f1 fr (λAe Ag loc' m' h' tk a f k=>?_) (λAe Ag v v' m' h' tk a n r k=>?_) N 0 (gH (L0 [_] [] 0xce8041) (L0 [_] [] 433061953)) a2.toAft (by rw[bE];exact f2) ?_ (by rw[bE];exact hi) i0
 ·exact hn Ae _ loc' m' h' tk (hf.then hs a1.ns a1.toAft a) (by rw[<-bF];exact f) k
 ·exact AT Ae _ v v' m' h' tk (hf.then hs a1.ns a1.toAft a) n (by rw[<-bF];exact r) k
 ·rw[bE];intro q;obtain⟨o,e,_⟩:=a1.sr.live q;rw[fr] at e;exact xO e
end
namespace BA
open Builtin
theorem Hj:Slot "bytearray" "__iter__" "bytearray.__iter__":=
 .of (owner:="bytearray") (n:="__iter__") (by rw[or,jR];kernel_rfl) (by decide+kernel) (by decide+kernel) (by decide+kernel)
  (by first|exact .inl (by decide+kernel)|exact .inr (by decide+kernel)) (by rw[qB];kernel_rfl)
theorem Lq:entryFor table "bytearray.__iter__"=some Builtin.«bytearray.__iter__»:=rk (by kernel_rfl)
theorem N9(a:Value):argsOk "bytearray.__iter__" ⟨[a],[]⟩:=by unfold argsOk;rw[signature?_of (id:="bytearray.__iter__") (n:=['_','_','r','e','t','i','_','_']) (o:=['y','a','r','r','a','e','t','y','b']) (by kernel_rfl) owner];kernel_rfl
theorem CS:Slot "bytearray_iterator" "__next__" "bytearray_iterator.__next__":=
 .of (owner:="bytearray_iterator") (n:="__next__") (by rw[or,jR];kernel_rfl) (by decide+kernel) (by decide+kernel) (by decide+kernel)
  (by first|exact .inl (by decide+kernel)|exact .inr (by decide+kernel)) (by rw[qB];kernel_rfl)
theorem Gm:entryFor table "bytearray_iterator.__next__"=some Builtin.«bytearray_iterator.__next__»:=rk (by kernel_rfl)
theorem HH(a:Value):argsOk "bytearray_iterator.__next__" ⟨[a],[]⟩:=by unfold argsOk;kernel_rfl
def IsIter(h:Heap)(a l:Addr)(i:Nat):Prop:=∃o,h.get? a=some o/\o.cls=.type "bytearray_iterator"/\o.data=.fields #[.ref l,.int i 0]
section
variable{prog:Program}{w:World}{A:Around}{E:Value->Shared->Prop}{s:Shared}{b:Array UInt8}{l:Addr}
theorem CE(y:IsIter s.heap a l i):s.TypeIs (.ref a) "bytearray_iterator":=let⟨o,ho,hc,_⟩:=y;⟨o,ho,hc⟩
theorem pyIter_at{Q:Value->Shared->Prop}(x:At s.heap l b)(hQ:Q (.ref s.heap.objs.size) {s with heap:=s.heap.push {cls:=.type "bytearray_iterator",data:=.fields #[.ref l,.int 0 0]}}):wpAny (model prog w) A (pyIter (.ref l)) Q E s:=by refine wpAny_pyIter_slot x.typeIs Hj (rm Hj x.typeIs Lq ?_ (N9 _));show wpAny _ _ (do ret (<-newFields "bytearray_iterator" [.ref l,rawInt 0])) _ _ s;exact bB (pO (bV ⟨_,rfl,"bytearray_iterator",_,⟨_,jQ _ rfl,rfl⟩,CS.lookup,hQ⟩))
theorem next_item{c:UInt8}{Q:Option Value->Shared->Prop}(Ul:IsIter s.heap it l i)(x:At s.heap l b)(hx:b[i]? =some c)
  (hQ:∀h',IsIter h' it l (i+1)->Heap.SameBut it s.heap h'->Q (some (.int (c.toNat:Int) s.toks)) {s with heap:=h',toks:=s.toks+1}):wpAny (model prog w) A (pyNext (.ref it)) Q E s:=by
 obtain⟨o,ho,hc,hd⟩:=id Ul;unfold pyNext;refine bB (wpAny_attempt (qc (name:=PySem.Str.ofString "__next__") (CE Ul) CS
  (rm CS (CE Ul) Gm ?_ (HH _))))
 show wpAny _ _ (field (.ref it) 0>>=_) _ _ s;refine bB (qG ho hd (x:=.ref l) rfl ?_);show wpAny _ _ (load l>>=_) _ _ s;refine bB (qg x ?_);show wpAny _ _ (field (.ref it) 1>>=_) _ _ s;refine bB (qG ho hd (x:=.int i 0) rfl ?_);simp only[qS,hx];refine bB (wpAny_setField ho hd (by simp) (bB (sO (bV ⟨_,rfl,bV (hQ _ ?_ (qh ..))⟩))));exact⟨_,qQ _ ho (Obj.isFreed_of_fields (Obj.data_mapFields hd _)),(Obj.cls_mapFields ..).trans hc,by rw[Obj.data_mapFields hd];simp[rawInt]⟩
theorem next_end{Q:Option Value->Shared->Prop}(hh:A.handled=none)(Ul:IsIter s.heap it l i)(x:At s.heap l b)(hx:b[i]? =none)
  (hQ:∀h',Heap.ExtBut it s.heap h'->Q none {s with heap:=h'}):wpAny (model prog w) A (pyNext (.ref it)) Q E s:=by
 obtain⟨o,ho,hc,hd⟩:=id Ul;unfold pyNext;refine bB (wpAny_attempt (qc (name:=PySem.Str.ofString "__next__") (CE Ul) CS
  (rm CS (CE Ul) Gm ?_ (HH _))))
 show wpAny _ _ (field (.ref it) 0>>=_) _ _ s;refine bB (qG ho hd (x:=.ref l) rfl ?_);show wpAny _ _ (load l>>=_) _ _ s;refine bB (qg x ?_);show wpAny _ _ (field (.ref it) 1>>=_) _ _ s;refine bB (qG ho hd (x:=.int i 0) rfl ?_);simp only[qS,hx];refine bB (qV (bB (wpAny_setField ho hd (by simp) (bB (wpAny_letGo ?_)))));show wpAny _ _ (newExc (.type "StopIteration") []>>=_) _ _ _;refine bB ?_;simp only[newExc,newTuple];refine bB (pO ?_ (by size_fits));refine bB (m:=firstArgMember _ _) (jN (a:=Value.none) (by first|rfl|(simp only[firstArgMember];rfl)) ?_);refine pO ?_ (by size_fits);simp only[raiseNew];refine bB (wpAny_handled ?_);rw[show A.in1.handled=none from hh];refine bB (bV (wpAny_throw ?_));refine bB (qj (T:="StopIteration") (b:=true) ⟨_,jQ _ rfl,rfl⟩ isSubtype_stop ?_);exact bV (hQ _ (((qh ..).extBut.push _).push _))
end
end BA
section
variable{g:Gl}{F:Fn}{d:Nat}{os:List O}{loc:List (Option V)}{K:List O->V->Prop}{KS:List O->Prop}{KT:List O->Bool->Prop}{KL:List O->List V->Prop}{p:Pos}{e l r:Expr}{v:V}
 {L:Addr} {m:Str->Option Value} {ad:AH} {h h':Heap} {KN:List (Option V)->List O->Prop} {KR:List O->V->Prop}
noncomputable def Hu(g:Gl)(d:Nat)(i:Nat):IK g d where
 it:=λad h a n=>∃q,ad[i]? =some q/\h.IsListIter a q.1 n
 el:=λos n r=>∃l,os[i]? =some (.list l)/\l[n]? =r
 is_:=λ⟨q,_,o,ho,hc,hd⟩=>⟨o,_,_,ho,hc,hd,by decide,by rw[hc];decide⟩
 keep:=λ⟨q,hq,o,ho,r⟩Ix _ hk=>⟨q,Ix _ _ hq,o,hk o ho,r⟩
 next:=λA s ad L m a n os u Q hr hs hf⟨q,hq,hi⟩⟨l,hl,hu⟩k=>by obtain⟨Ab,c,g1,w1,l1⟩:=BG hs hl hq;obtain⟨y,hy,ry⟩:=w1.get hu;exact Aa.of (wpAny_pyNext_list_item hi l1 (by simpa using hy) λh' IH sb=>k y h' s.toks sb ⟨q,hq,IH⟩ ry)
 stop:=λA s ad L m a n os Q hr hs hf⟨q,hq,hi⟩⟨l,hl,hu⟩k=>by obtain⟨Ab,c,g1,w1,l1⟩:=BG hs hl hq;have Ac:=w1.length;have:l.length<=n:=o9.mp hu;exact Aa.of (wpAny_pyNext_list_end hr.handled hi l1 (by simp;exact L2 [_,_,_] [] 0x88041008861080041 Ac this) λh' he=>k h' s.toks he)
theorem D6{i:Nat}{l:List V}(ho:os[i]? =some (.list l)):DC g d VR (.ref i) os (Hu g d i):=λA s ad L m x Q hr hs hf r k=>by simp only[VR] at r;obtain⟨q,hq,rfl⟩:=r;obtain⟨Ab,c,g1,w1,l1⟩:=BG hs ho hq;exact Aa.of (wpAny_pyIter_list l1 (k _ s.toks (λb o e=>cP _ e) ⟨q,hq,_,jQ _ rfl,rfl,rfl⟩))
noncomputable def tupK(g:Gl)(d:Nat)(l:List V):IK g d where
 it:=λad h a n=>∃t Ab,h.IsTupleIter a t n/\h.IsTuple t Ab/\Aj ad h l Ab.toList
 el:=λos n r=>l[n]? =r
 is_:=λ⟨t,Ab,⟨o,ho,hc,hd⟩,_⟩=>⟨o,_,_,ho,hc,hd,by decide,by rw[hc];decide⟩
 keep:=λ⟨t,Ab,⟨o,ho,r⟩,ht,rs⟩Ix tp hk=>⟨t,Ab,⟨o,hk o ho,r⟩,tp _ _ ht,Aj.mono Ix tp _ _ rs⟩
 next:=λA s ad L m a n os u Q hr hs hf⟨t,Ab,hi,ht,rs⟩hu k=>by
  obtain⟨y,hy,ry⟩:=rs.get hu;have nt:∃o,s.heap.get? a=some o/\o.cls≠.type "tuple":=let⟨o,ho,hc,_⟩:=hi;⟨o,ho,by rw[hc];decide⟩
  refine Aa.of (wpAny_pyNext_tuple_item hi ht (by simpa using hy) λh' IH sb=>?_);have tp:∀b vs,s.heap.IsTuple b vs->h'.IsTuple b vs:=λb vs t=>by obtain⟨ob,e1,c,r⟩:=t;refine⟨ob,(sb.2 b λq=>?_).trans e1,c,r⟩;subst q;obtain⟨o,e,c'⟩:=nt;rw[e1] at e;obtain rfl:=bg e;exact c' c
  exact k y h' s.toks sb ⟨t,Ab,IH,tp _ _ ht,Aj.mono (AU.refl _) tp _ _ rs⟩ ry
 stop:=λA s ad L m a n os Q hr hs hf⟨t,Ab,hi,ht,rs⟩hu k=>by have Ac:=rs.length;have:l.length<=n:=o9.mp hu;exact Aa.of (wpAny_pyNext_tuple_end hr.handled hi ht (by simp at Ac⊢;exact L2 [_,_,_] [] 0x88041008861080041 Ac this) λh' he=>k h' s.toks he)
theorem Nz{l:List V}:DC g d VR (.tup l) os (tupK g d l):=λA s ad L m x Q hr hs hf r k=>by simp only[VR] at r;obtain⟨a,Ab,rfl,ht,rs⟩:=r;refine Aa.of (wpAny_pyIter_tuple ht (k _ s.toks (λb o e=>cP _ e) ⟨a,Ab.toArray,⟨_,jQ _ rfl,rfl,rfl⟩,ht.push _,?_⟩));exact Aj.mono (AU.refl _) (λa vs t=>t.push _) _ _ rs
theorem ints_get{l:List Int}{b:Array UInt8}(hb:Bp l b){n:Nat}{u:V}(h:(l[n]?).map V.int=some u):∃c:UInt8,b[n]? =some c/\u=.int c.toNat:=by obtain⟨i,hi,rfl⟩:=pd.mp h;obtain⟨c,hc,rfl⟩:=E0 hb hi;exact⟨c,by rw[<-Array.getElem?_toList];exact hc,rfl⟩
theorem Hy{l:List Int}{b:Array UInt8}(hb:Bp l b){n:Nat}(h:(l[n]?).map V.int=none):b[n]? =none:=by
 rw[qM,o9] at h;have:l.length=b.size:=by rw[hb];simp
 rw[Array.getElem?_eq_none_iff];exact L2 [_,_,_] [] 0x8861088041080041 h this
noncomputable def Qt(g:Gl)(d:Nat)(l:List Int):IK g d where
 it:=λad h a n=>∃b t,KBw.IsBytesIter h a b t n/\Bp l b
 el:=λos n r=>(l[n]?).map V.int=r
 is_:=λ⟨b,t,⟨o,ho,hc,hd⟩,_⟩=>⟨o,_,_,ho,hc,hd,by decide,by rw[hc];decide⟩
 keep:=λ⟨b,t,⟨o,ho,r⟩,hb⟩Ix tp hk=>⟨b,t,⟨o,hk o ho,r⟩,hb⟩
 next:=λA s ad L m a n os u Q hr hs hf⟨b,t,hi,hb⟩hu k=>by obtain⟨c,hc,rfl⟩:=ints_get hb hu;exact Aa.of (KBw.next_item hi hc λh' IH sb=>k _ h' _ sb ⟨b,t,IH,hb⟩ VR.i)
 stop:=λA s ad L m a n os Q hr hs hf⟨b,t,hi,hb⟩hu k=>Aa.of (KBw.next_end hr.handled hi (Hy hb hu) λh' he=>k h' s.toks he)
theorem Jg{l:List Int}:DC g d VR (.bytes l) os (Qt g d l):=λA s ad L m x Q hr hs hf r k=>by simp only[VR] at r;obtain⟨b,t,rfl,hb⟩:=r;exact Aa.of (KBw.pyIter_bytes (k _ s.toks (λb o e=>cP _ e) ⟨b,t,⟨_,jQ _ rfl,rfl,rfl⟩,hb⟩))
noncomputable def TX(g:Gl)(d:Nat)(i:Nat):IK g d where
 it:=λad h a n=>∃q,ad[i]? =some q/\BA.IsIter h a q.1 n
 el:=λos n r=>∃l,os[i]? =some (.barr l)/\(l[n]?).map V.int=r
 is_:=λ⟨q,_,o,ho,hc,hd⟩=>⟨o,_,_,ho,hc,hd,by decide,by rw[hc];decide⟩
 keep:=λ⟨q,hq,o,ho,r⟩Ix _ hk=>⟨q,Ix _ _ hq,o,hk o ho,r⟩
 next:=λA s ad L m a n os u Q hr hs hf⟨q,hq,hi⟩⟨l,hl,hu⟩k=>by obtain⟨b,x,hb⟩:=EG hs hl hq;obtain⟨c,hc,rfl⟩:=ints_get hb hu;exact Aa.of (BA.next_item hi x hc λh' IH sb=>k _ h' _ sb ⟨q,hq,IH⟩ VR.i)
 stop:=λA s ad L m a n os Q hr hs hf⟨q,hq,hi⟩⟨l,hl,hu⟩k=>by obtain⟨b,x,hb⟩:=EG hs hl hq;exact Aa.of (BA.next_end hr.handled hi x (Hy hb hu) λh' he=>k h' s.toks he)
theorem K4{i:Nat}{l:List Int}(ho:os[i]? =some (.barr l)):DC g d VR (.ref i) os (TX g d i):=λA s ad L m x Q hr hs hf r k=>by simp only[VR] at r;obtain⟨q,hq,rfl⟩:=r;obtain⟨b,x,hb⟩:=EG hs ho hq;exact Aa.of (BA.pyIter_at x (k _ s.toks (λb o e=>cP _ e) ⟨q,hq,_,jQ _ rfl,rfl,rfl⟩))
def SF(ad:AH)(h:Heap)(q:Int×Int×Int)(x:Value):Prop:=∃r t u v,x=.ref r/\IsRange h r q.1 q.2.1 q.2.2 t u v
noncomputable def D5(g:Gl)(d:Nat)(a c:Int)(N:Nat):IK g d where
 it:=λad h it n=>IsRangeIter h it (a+n*c) (N-n) c
 el:=λos n r=>if n<N then r=some (.int (a+n*c)) else r=none
 is_:=λho=>⟨_,_,_,ho,rfl,rfl,by decide,by show Value.type "range_iterator"≠_;decide⟩
 keep:=λho _ _ hk=>hk _ ho
 next:=λA s ad L m it n os u Q hr hs hf hi hu k=>by
  split at hu
  ·obtain rfl:=bg hu;refine Aa.of (wpAny_pyNext_range_item hi (L1 [_,_] [] 0x88821f83fd066441 ‹_›) λh' IH sb=>k _ h' _ sb ?_ VR.i);have e1:a+((n+1:Nat):Int)*c=a+(n:Int)*c+c:=by push_cast;rw[sK,Int.one_mul,rq]
   have e2:(N:Int)-((n+1:Nat):Int)=(N:Int)-(n:Int)-1:=by push_cast;exact bC (L0 [_,_] [] 0x8721f83fde84390ff40ff6041) (L0 [_,_] [] 0x8721fe81fe84390fc1fef6041)
   show IsRangeIter h' it _ _ c;rw[e1,e2];exact IH
  ·exact Oo hu
 stop:=λA s ad L m it n os Q hr hs hf hi hu k=>by
  split at hu
  ·exact xO hu
  ·exact Aa.of (wpAny_pyNext_range_end hr.handled hi (L1 [_,_] [] 0xa0820c87e0ff6041 ‹_›) λh' he=>k h' s.toks he)
theorem Fc{q:Int×Int×Int}{N:Nat}(hN:Builtin.Range.rangeSize q.1 q.2.1 q.2.2=N)(hs:Builtin.Range.small q.1 q.2.1 q.2.2=true):DC g d SF q os (D5 g d q.1 q.2.2 N):=λA s ad L m x Q hr HI hf r k=>by obtain⟨r,t,u,v,rfl,hR⟩:=r;refine Aa.of (wpAny_pyIter_range hR hs (k _ s.toks (λb o e=>cP _ e) ?_));have:=jQ s.heap (o:={cls:=.type "range_iterator",data:=.fields #[rawInt q.1,rawInt (Builtin.Range.rangeSize q.1 q.2.1 q.2.2),rawInt q.2.2]}) rfl;show IsRangeIter _ _ _ _ _;rw[hN] at this;rw[hN];simpa[IsRangeIter] using this
def GJ(g:Gl)(d:Nat){α:Type}(R:AH->Heap->α->Value->Prop)(f:V)(args:List V)(os:List O)(K:List O->α->Prop):Prop:=
 ∀(A:Around)(s:Shared)(ad:AH)(L:Addr)(m:Str->Option Value)(vf:Value)(vs:List Value)(Q:Value->Shared->Prop),Bf A d->SR g.w g.base ad os s.heap->FrB g L m ad s.heap->VR ad s.heap f vf->Aj ad s.heap args vs->
  (∀Ae Ag v v' h' tk,AF g L m ad s.heap Ae Ag h'->R (ad++Ag) h' v v'->K Ae v->Q v' {s with heap:=h',toks:=tk})->
  Aa g.M A (keeperOf vf) (λ_ s'=>Aa g.M A (call vf vs) Q s') s
theorem MT{α:Type}{R:AH->Heap->α->Value->Prop}{KA:List O->α->Prop}{args:List Expr}(h:AG g F d func loc os λos f=>Q0 g F d p args loc os λos vs=>GJ g d R f vs os KA)(Cg:args.any isStarred=false)(Ac:args.length<=30)
  (he:∀env,eval (.Call func args [] p) env=(do callWith p (<-eval func env) [] (backTo p (starEach args env)) (backToKw p (keywordEach [] env)))):Cd g F d R (λL=>eval (.Call func args [] p) (F.env L)) loc os KA:=by
 intro A s ad L m Q hr hs hf hq;have b:=C9 (pos:=p) (env:=F.env L) Cg;refine Aa.eCall (h A s ad L m _ hr hs hf λAE m1 f vf h1 tk1 a1 r1 k1=>?_) (he _);refine Aa.callWith b.1 (by rw[b.2];exact Ac) ?_;have Bv:=hf.after hs a1;refine k1 A _ (ad++m1) L m _ hr a1.sr Bv λBM m2 vs FK h2 Ci a2 r2 k2=>?_;exact k2 A _ _ L m vf FK Q hr a2.sr (Bv.after a1.sr a2).toFrB (Bv.vr a1.sr a2.toAft r1) r2 (Ak (R:=R) (s:={s with heap:=h1,toks:=tk1}) a1.sr Bv.toFrB a2 (Ak (R:=R) (s:=s) hs hf.toFrB a1 hq))
theorem Hl(hs:SR g.w g.base ad os h)(hf:FrB g L m ad h)(o:Obj):AF g L m ad h os [] (h.push o):=AF.grow hs hf (λb o e _=>cP _ e) (hf.ns.at' λo e=>cP _ e) λb o e=>cP _ (hs.old b o e)
theorem Gs{KA:List O->Int×Int×Int->Prop}(hk:KA os (0,n,1)):GJ g d SF (.imm (.type "range")) [.int n] os KA:=by intro A s ad L m vf vs Q hr hs hf hv AK hq;simp only[VR] at hv;subst hv;obtain⟨_,rfl,t,rfl⟩:=AK.one;refine Aa.pure (a:=Keeper.machine) (Aa.of (call_range_1 ?_));exact hq os [] (0,n,1) _ _ _ (Hl hs hf _) ⟨_,_,_,_,rfl,jQ _ rfl⟩ hk
theorem Qo{KA:List O->Int×Int×Int->Prop}{a c:Int}(hc:c≠0)(hb:c.natAbs<1073741824)(hk:KA os (a,b,c)):GJ g d SF (.imm (.type "range")) [.int a,.int b,.int c] os KA:=by intro A s ad L m vf vs Q hr hs hf hv AK hq;simp only[VR] at hv;subst hv;obtain⟨_,_,_,rfl,⟨t,rfl⟩,⟨u,rfl⟩,⟨v,rfl⟩⟩:=AK.three;refine Aa.pure (a:=Keeper.machine) (Aa.of (call_range_3 hc ?_ (.inl (PyProof.noPylong_small hb))));exact hq os [] (a,b,c) _ _ _ (Hl hs hf _) ⟨_,_,_,_,rfl,jQ _ rfl⟩ hk
theorem RO(hs:SR g.w g.base ad os h)(ho:os[i]? =some (.idict ks)):∃ep,SR g.w g.base ad (os.set i (.idictE ks ep)) h:=by
 obtain⟨q,hq,hqq,Ab,D,rr⟩:=hs.at ho;obtain⟨ep,D'⟩:=D.dictAt;have hi:=(im.mp ho).1;refine⟨ep,hs.old,by simp[hs.len],λj o q' e1 e2=>?_,hs.sep,hs.new⟩;by_cases hj:i=j
 ·subst hj;rw[qL hi] at e1;rw[hq] at e2;obtain rfl:=bg e1;obtain rfl:=bg e2;exact⟨hqq,Ab,D',rr⟩
 ·rw[qs hj] at e1;exact hs.rep j o q' e1 e2
theorem PU(hs:SR g.w g.base ad os h)(ho:os[i]? =some (.idictE ks ep)):SR g.w g.base ad (os.set i (.idict ks)) h:=by
 obtain⟨q,hq,hqq,Ab,D,rr⟩:=hs.at ho;have hi:=(im.mp ho).1;refine⟨hs.old,by simp[hs.len],λj o q' e1 e2=>?_,hs.sep,hs.new⟩;by_cases hj:i=j
 ·subst hj;rw[qL hi] at e1;rw[hq] at e2;obtain rfl:=bg e1;obtain rfl:=bg e2;exact⟨hqq,Ab,D.dictOf,rr⟩
 ·rw[qs hj] at e1;exact hs.rep j o q' e1 e2
theorem Fs.epoch{st:Stmt}{i:Nat}{ks:List (Int×V)}(ho:os[i]? =some (.idict ks))(h:∀ep,Fs g F d st loc (os.set i (.idictE ks ep)) KN KR):Fs g F d st loc os KN KR:=by intro A s ad L m Q hr hs hf hn AT;obtain⟨ep,IE⟩:=RO hs ho;exact h ep A s ad L m Q hr IE hf hn AT
theorem Ex.epochless{st:List Stmt}{i:Nat}{ks:List (Int×V)}{ep:Nat}(ho:os[i]? =some (.idictE ks ep))(h:Ex g F d st loc (os.set i (.idict ks)) KN KR):Ex g F d st loc os KN KR:=by intro A s ad L m Q hr hs hf hn AT;exact h A s ad L m Q hr (PU hs ho) hf hn AT
noncomputable def TA(g:Gl)(d:Nat)(i N ep:Nat):IK g d where
 it:=λad h a n=>∃q,ad[i]? =some q/\h.IsKeyIter a q.1 n N ep
 el:=λos n r=>∃ks,os[i]? =some (.idictE ks ep)/\ks.length=N/\(ks[n]?).map (λq=>V.int q.1)=r
 is_:=λ⟨q,_,o,ho,hc,hd⟩=>⟨o,_,_,ho,hc,hd,by decide,by rw[hc];decide⟩
 keep:=λ⟨q,hq,o,ho,r⟩Ix _ hk=>⟨q,Ix _ _ hq,o,hk o ho,r⟩
 next:=λA s ad L m a n os u Q hr hs hf⟨q,hq,hi⟩⟨ks,hl,hN,hu⟩k=>by
  subst hN;obtain⟨_,Ab,D,rr⟩:=hs.rep _ _ q hl hq;have hz:=Dl rr;obtain⟨x,hx,rfl⟩:=pd.mp hu;have hv:∃y,((ks.map (·.1)).zip Ab)[n]? =some (x.1,y):=by obtain⟨y,hy,_⟩:=rr.get (n:=n) (v:=x.2) (by simp[hx]);exact⟨y,by rw[List.getElem?_zip_eq_some];exact⟨by simp[hx],hy⟩⟩
  obtain⟨y,hy⟩:=hv;have IH:=hi;rw[<-hz] at IH;refine Aa.of (wpAny_pyNext_dict_item (knd:=intKind prog g.w) IH D hy λkey h' hk Kk sb=>?_);rw[hz] at Kk;obtain⟨t,rfl⟩:=Value.isInt_shape hk;exact k _ h' s.toks sb ⟨q,hq,Kk⟩ VR.i
 stop:=λA s ad L m a n os Q hr hs hf⟨q,hq,hi⟩⟨ks,hl,hN,hu⟩k=>by subst hN;obtain⟨_,Ab,D,rr⟩:=hs.rep _ _ q hl hq;have hz:=Dl rr;rw[qM,o9] at hu;rw[<-hz] at hi;exact Aa.of (wpAny_pyNext_dict_end (knd:=intKind prog g.w) hr.handled hi D (by rw[o9];exact L2 [_,_,_] [] 0x100841088041080041 hu hz) λh' he=>k h' s.toks he)
theorem K3{ks:List (Int×V)}(ho:os[i]? =some (.idictE ks ep)):DC g d VR (.ref i) os (TA g d i ks.length ep):=λA s ad L m x Q hr hs hf r k=>by simp only[VR] at r;obtain⟨q,hq,rfl⟩:=r;obtain⟨_,Ab,D,rr⟩:=hs.rep _ _ q ho hq;have hz:=Dl rr;refine Aa.of (wpAny_pyIter_dict (D9 hs (bG hq)) D (k _ s.toks (λb o e=>cP _ e) ⟨q,hq,_,jQ _ rfl,rfl,?_⟩));show Data.fields #[.ref q.1,.int (0:Nat) 0,.int ((ks.map (·.1)).zip Ab).length 0,.int ep 0]=_;rw[hz]
theorem HS(ho:os[i]? =some (.idictE ks ep))(hx:At x v ks)(hk:K os v)(hp:As AB=true):Aw g d (CQ value AB) [.ref i,.int x] os K:=
 Aw.now hk λA s ad L m vs Q hr hs hf AK hq=>by
  obtain⟨_,_,rfl,r1,r2⟩:=AK.two;simp only[VR] at r1 r2;obtain⟨q,AX,rfl⟩:=r1;obtain⟨t,rfl⟩:=r2;obtain⟨_,Ab,D,rr⟩:=hs.rep _ _ q ho AX;have nd:(ks.map (·.1)).Nodup:=by rw[<-A7 rr];exact D.nodup
  obtain⟨y,hy,ry⟩:=GC hx nd rr;exact tail_any (T:="dict") D.dictOf.typeIs slot_dict_getitem.lookup (wpAny_getItem_of (knd:=intKind prog g.w) (JH x t) D.dictOf.mapOf hy (hq y _ ry)) (AL hp _ _)
end
section
variable{g:Gl}{F:Fn}{d:Nat}{os:List O}{loc:List (Option V)}{K:List O->V->Prop}{KS:List O->Prop}{KT:List O->Bool->Prop}{KL:List O->List V->Prop}{p:Pos}{e l r:Expr}{v:V}
 {L:Addr} {m:Str->Option Value} {ad:AH} {h h':Heap} {KN:List (Option V)->List O->Prop} {KR:List O->V->Prop}
theorem Wx{C fI:Addr}{args:List V}(hm:makesIn g.K C=true)(hi:findIn g.K (.ref C) "__init__"=some (some (.ref fI)))(hf:typeIn g.K (.ref fI)=some (.type "function"))
  (h:DY g d fI (.ref os.length::args) (os++[.inst C []]) λAe v=>v=.none/\K Ae (.ref os.length)):Az g (d+1) (.imm (.ref C)) args os K:=by
 intro A s ad L m vf Ab Q hr hs Nf hv AK hq;simp only[VR] at hv;subst hv;have X:=g.X.keeps hs.old;obtain⟨⟨oc,od,cd,sl,hC,e1,e2,e4⟩,made,base,BW,top,call,typ⟩:=makes_of (M:=g.M) X hm;have kp:∀Q':Keeper->Shared->Prop,Q' .machine s->Aa g.M A (keeperOf (.ref C)) Q' s:=λQ' bm=>by unfold keeperOf;refine Aa.bind (m:=load C) (Aa.of (qg hC ?_));refine Aa.bind (Aa.of (call.at ?_));exact Aa.pure bm
 refine kp _ ?_;refine Aa.call ?_;obtain⟨hp,gs,dr,tk,oss⟩:=s;refine VK (rest:=Ab) X hm hi hf ?_;have k1:∀b o,hp.get? b=some o->((hp.push emptyDict).push (instObj C hp.objs.size)).get? b=some o:=λb o e=>cP _ (cP _ e);have sz:(hp.push emptyDict).objs.size=hp.objs.size+1:=rH ..;have gi:((hp.push emptyDict).push (instObj C hp.objs.size)).get? (hp.objs.size+1)=some (instObj C hp.objs.size):=by rw[<-sz];exact jQ _ rfl
 have gd:((hp.push emptyDict).push (instObj C hp.objs.size)).get? hp.objs.size=some emptyDict:=cP _ (jQ _ rfl);have OG:hp.get? (hp.objs.size+1)=none:=by
  induction q:hp.get? (hp.objs.size+1) using il with
  |none=>rfl
  |some o=>exact absurd (sQ (pz q)) (pu _)
 have a0:AF g L m ad hp (os++[.inst C []]) [(hp.objs.size+1,hp.objs.size)] ((hp.push emptyDict).push (instObj C hp.objs.size)):=hs.push Nf (q:=(hp.objs.size+1,hp.objs.size)) (λb o e _=>k1 b o e) (Nf.ns.at' λo e=>k1 L o e) (λb o e=>k1 b o (hs.old b o e)) OG (A9 hp) ⟨⟨.nil,λ_ hf=>nomatch hf⟩,gi,[],0,gd,rfl⟩
 have f0:=Nf.after a0;have Uk:Bf (A.under (.builtin "type.__call__" ⟨.ref C::Ab,[]⟩)) d:=⟨by show A.handled=none;exact hr.handled,by rw[depth_under_make];have:=hr.depth;exact L1 [_,_] [] 0x3de16421c8740d0883ef0b2108720d68441 this,by rw[units_under_make];have:=hr.units;exact L1 [_,_] [] 0x13240f210e43a50760d08829920790a83b08720d68441 this⟩
 refine(h (A.under (.builtin "type.__call__" ⟨.ref C::Ab,[]⟩)) ⟨(hp.push emptyDict).push (instObj C hp.objs.size),gs,dr,tk,oss⟩ _ L m (.ref (hp.objs.size+1)::Ab)
  (λv s'=>v=.none/\Q (.ref (hp.objs.size+1)) s') Uk a0.sr f0 ?_ λAe Ag v v' h' j0 a r k=>?_).mono λf s' q=>?_
 ·simp only[Aj];exact⟨_,_,rfl,VR.newRef (q:=(hp.objs.size+1,hp.objs.size)) hs,Nf.vrs hs a0.toAft AK⟩
 ·obtain⟨rfl,k⟩:=k;simp only[VR] at r;refine⟨r,?_⟩;have A1:=a0.trans Nf hs a;refine hq Ae _ (.ref os.length) _ h' j0 A1 ?_ k;simp only[VR];refine⟨(hp.objs.size+1,hp.objs.size),?_,rfl⟩;rw[<-hs.len,oY (oU _)];simp
 ·induction f using qK with
  |ret v=>obtain⟨rfl,q⟩:=q;exact⟨rfl,q⟩
  |_=>exact q.elim
end
noncomputable abbrev pw:Program:=PySem.Challenge.pw_pq1117_01
noncomputable def S(x:String):Str:=Str.ofString x
noncomputable def st(i:Nat):Stmt:=pw.main.body.getD i (.Pass ⟨0,0,0,0⟩)
noncomputable def PP(s:Stmt)(j:Nat):Stmt:=if h:s.ctorIdx=2 then Stmt.ClassDef.elim (motive_2:=λ_=>Stmt) s h (λ_ _ _ b _ _ _ _ _ _ _=>b.getD j (.Pass ⟨0,0,0,0⟩)) else .Pass ⟨0,0,0,0⟩
noncomputable def fA(s:Stmt):Arguments:=if h:s.ctorIdx=0 then Stmt.FunctionDef.elim (motive_2:=λ_=>Arguments) s h (λ_ a _ _ _ _ _ _ _ _=>a) else⟨[],[],none,[],[],none,[]⟩
noncomputable def fB(s:Stmt):List Stmt:=if h:s.ctorIdx=0 then Stmt.FunctionDef.elim (motive_2:=λ_=>List Stmt) s h (λ_ _ b _ _ _ _ _ _ _=>b) else[]
noncomputable def fS(s:Stmt):Scope:=if h:s.ctorIdx=0 then Stmt.FunctionDef.elim (motive_2:=λ_=>Scope) s h (λ_ _ _ _ _ _ s _ _ _=>s) else⟨.function,[],false,false,[]⟩
noncomputable def D(P:Params)(x:String)(t:Tok)(v:Value):DictEntry:=⟨PyData.keyHash P (S x),.str (S x) t,v⟩
noncomputable def T(x:String)(t:Tok):Value:=.str (S x) t
noncomputable def tu(a:Array Value):Obj:=Obj.mk (.type "tuple") none (Data.seq a 0) #[]
noncomputable def fi(a:Array Value):Obj:=Obj.mk .none none (Data.fields a) #[]
noncomputable def fo(x:String)(a:Array Value):Obj:=Obj.mk (.type x) none (Data.fields a) #[]
noncomputable def di(a:Array DictEntry)(n:Nat):Obj:=Obj.mk (.type "dict") none (Data.dict a n) #[]
noncomputable def fr(a:Array (Option Value)):Obj:=Obj.mk (.type "frame") none Data.plain a
noncomputable def mA(l:List String):Nat->List Value:=List.rec (λ_=>[]) (λx _ ih t=>T x t::ih t.succ) l
noncomputable def fU(n q:String)(s:Stmt):Obj:=Obj.mk .none none (Data.func (FuncData.mk (S n) (S q) (fA s) (FuncBody.stmts (fB s)) (fS s) 0 [] .none .none .none .none none .none .none 0)) #[]
noncomputable def fN(n q:String)(s:Stmt)(d m:Value)(a:Nat):Obj:=Obj.mk (.type "function") none (Data.func (FuncData.mk (S n) (S q) (fA s) (FuncBody.stmts (fB s)) (fS s) 3 [] d .none .none m none (.ref a) .none 0)) #[]
noncomputable def cd(n q:String)(t l k a:Nat)(b c e:Value)(v:Nat):Obj:=fo "code" #[T n t,T q (t+1),T "/claim/cut.py" (t+2),.int l 0,.int k 0,.int 0 0,.int 0 0,.int 3 0,.ref a,.bool true,.int 181 0,.ref (a+1),.none,b,c,e,.int v 0,.int l 0,T "/claim/cut.py" (v+1)]
noncomputable def g7(a t:Nat)(n q:String)(s:Stmt)(l k:Nat)(vs:List String)(d m:Value):List Obj:=(λz=>[tu #[],fi #[],tu ⟨mA vs (t+3)⟩,tu #[],fU n z s,cd n z t l k a (.ref (a+2)) (.ref (a+3)) (.ref (a+4)) (t+3+vs.length),fN n z s d m (a+5)]) (match q with| ""=>n|q=>q++"."++n)
noncomputable abbrev q0:Value:=T "siftwall.faults" 187
noncomputable abbrev q1:Value:=T "siftwall.octets" 235
noncomputable abbrev q2:Value:=T "siftwall.ipv4" 246
noncomputable abbrev q3:Value:=T "siftwall.ipv6" 257
noncomputable abbrev q4:Value:=T "siftwall.packets" 298
noncomputable abbrev q5:Value:=T "siftwall.transport" 409
noncomputable abbrev q6:Value:=T "siftwall.tuples" 462
noncomputable abbrev q7:Value:=T "siftwall.relate" 662
noncomputable abbrev q8:Value:=T "siftwall.tcptalk" 824
noncomputable abbrev q9:Value:=T "siftwall.talks" 1106
noncomputable abbrev iF:Value:=T "siftwall.walk" 1233
noncomputable abbrev GP:Value:=T "law_pq1117_01" 1287
noncomputable def nH(P:Params):List DictEntry:=[D P "__doc__" 166 .none,D P "__package__" 167 .none,D P "__loader__" 168 (.builtin "__main__.__loader__#opaque"),D P "__spec__" 169 .none,D P "__annotations__" 170 (.ref 6),D P "__builtins__" 171 (.ref 4),D P "__file__" 173 (T "/claim/cut.py" 172),D P "__cached__" 174 .none,D P "WallFault" 218 (.ref 31),D P "Misused" 234 (.ref 44),D P "number_of" 245 (.ref 53),D P "look4" 256 (.ref 60),D P "head_size" 266 (.ref 67),D P "size_at" 277 (.ref 74),D P "place_at" 285 (.ref 81),D P "look6" 297 (.ref 88),D P "new_meta" 307 (.ref 95),D P "Packet" 344 (.ref 112),D P "look" 352 (.ref 123),D P "packet_of" 364 (.ref 131),D P "family_of" 371 (.ref 138),D P "base_of" 379 (.ref 145),D P "part" 391 (.ref 152),D P "address_at" 401 (.ref 159),D P "target_of" 408 (.ref 166),D P "WORD" 412 (.int 4294967295 411),D P "MOST_SCALE" 414 (.int 14 413),D P "options_till" 424 (.ref 173),D P "scale_of" 434 (.ref 180),D P "may_sack" 441 (.ref 187),D P "sack_edge" 454 (.ref 194),D P "error_kinds" 461 (.ref 201),D P "DYING" 465 (.int 512 464),D P "Talk" 507 (.ref 218),D P "TalkBook" 550 (.ref 240),D P "is_icmp" 558 (.ref 251),D P "is_error" 566 (.ref 258),D P "answer_kind" 577 (.ref 265),D P "ports_at" 589 (.ref 272),D P "tuple_at" 604 (.ref 279),D P "tuple_of" 612 (.ref 286),D P "inner_tuple" 621 (.ref 293),D P "invert" 635 (.ref 300),D P "side_of" 643 (.ref 307),D P "drop_talk" 649 (.ref 312),D P "look_up" 661 (.ref 319),D P "SEEN_REPLY" 665 (.int 2 664),D P "ASSURED" 667 (.int 4 666),D P "INVALID" 669 (.int 1 668),D P "RELATED" 671 (.int 4 670),D P "UNTRACKED" 673 (.int 64 672),D P "UDP_SPAN" 675 (.int 30000 674),D P "UDP_STREAM_SPAN" 677 (.int 120000 676),D P "UDP_STREAM_FROM" 679 (.int 2000 678),D P "ICMP_SPAN" 681 (.int 30000 680),D P "PLAIN_SPAN" 683 (.int 600000 682),D P "begin_any" 693 (.ref 326),D P "go_udp" 704 (.ref 333),D P "begin_icmp" 715 (.ref 340),D P "go_icmp" 726 (.ref 347),D P "go_plain" 737 (.ref 354),D P "talk_of_error" 751 (.ref 361),D P "is_error_packet" 759 (.ref 368),D P "error_talk" 769 (.ref 375),D P "error_or_near" 779 (.ref 382),D P "udp_trackers" 785 (.ref 389),D P "icmp_trackers" 791 (.ref 396),D P "plain_trackers" 797 (.ref 403),D P "does_fit" 811 (.ref 410),D P "take_expect" 823 (.ref 417),D P "sort_of" 832 (.ref 424),D P "flags_are_right" 839 (.ref 431),D P "next_state" 849 (.ref 438),D P "tcp_span" 856 (.ref 445),D P "before" 864 (.ref 452),D P "after" 872 (.ref 459),D P "Side" 910 (.ref 476),D P "behind_packet" 918 (.ref 487),D P "segment_of" 929 (.ref 494),D P "end_of" 936 (.ref 501),D P "note_options" 945 (.ref 508),D P "open_side" 954 (.ref 515),D P "answer_side" 964 (.ref 522),D P "begin_side" 974 (.ref 529),D P "take_up" 983 (.ref 536),D P "is_within" 994 (.ref 543),D P "move_sender" 1005 (.ref 550),D P "move_receiver" 1017 (.ref 557),D P "meet_sender" 1032 (.ref 564),D P "in_window" 1050 (.ref 571),D P "begin_tcp" 1064 (.ref 578),D P "is_refused" 1074 (.ref 585),D P "refresh_tcp" 1084 (.ref 592),D P "go_tcp" 1099 (.ref 599),D P "tcp_trackers" 1105 (.ref 606),D P "tracker_of" 1115 (.ref 613),D P "all_trackers" 1124 (.ref 620),D P "new_talks" 1134 (.ref 628),D P "sweep" 1144 (.ref 635),D P "evict" 1153 (.ref 642),D P "put_talk" 1163 (.ref 649),D P "found_talk" 1175 (.ref 656),D P "relate_talk" 1185 (.ref 663),D P "begin_talk" 1198 (.ref 670),D P "bring_on" 1211 (.ref 677),D P "track" 1222 (.ref 685),D P "confirm" 1232 (.ref 692),D P "Scene" 1286 (.ref 710),D P "_law_base" 1305 (.ref 715),D P "_law_digit" 1314 (.ref 722),D P "_law_four" 1321 (.ref 729),D P "_law_filled" 1329 (.ref 736),D P "_law_syn_options" 1344 (.ref 743),D P "_law_later_options" 1350 (.ref 748),D P "_law_packet" 1366 (.ref 755),D P "_law_fresh" 1373 (.ref 762),D P "_law_opened" 1386 (.ref 769),D P "_law_brought" 1403 (.ref 776),D P "_law_is_side" 1413 (.ref 783),D P "_law_segment" 1443 (.ref 790),D P "_law_is_so" 1452 (.ref 797),D P "_law_goes_on" 1465 (.ref 804),D P "law" 1471 (.ref 809)]
noncomputable def tk{α:Type}(l:List α):Nat->List α:=List.rec (λ_=>[]) (λx _ ih n=>Nat.rec [] (λm _=>x::ih m) n) l
noncomputable def mD(P:Params)(n:Nat)(m:Value):Obj:=di ⟨D P "__name__" 165 m::tk (nH P) n⟩ (n+1)
noncomputable def nM:List (Nat×Nat):=[(2,20),(8,40),(11,52),(17,59),(26,66),(34,73),(43,80),(45,87),(65,94),(72,101),(82,122),(97,130),(101,137),(109,144),(121,151),(129,158),(138,165),(143,172),(157,179),(163,186),(165,193),(174,200),(178,207),(192,228),(205,250),(207,257),(209,264),(217,271),(231,278),(243,285),(248,292),(253,299),(261,306),(263,311),(275,318),(295,325),(298,332),(305,339),(309,346),(312,353),(315,360),(327,367),(332,374),(345,381),(354,388),(356,395),(358,402),(360,409),(365,416),(373,423),(381,430),(383,437),(393,444),(395,451),(397,458),(399,465),(413,486),(420,493),(432,500),(434,507),(439,514),(444,521),(449,528),(455,535),(459,542),(465,549),(473,556),(480,563),(498,570),(520,577),(540,584),(545,591),(551,598),(577,605),(580,612),(586,619),(592,627),(596,634),(603,641),(611,648),(615,655),(625,662),(634,669),(648,676),(664,684),(675,691),(689,698),(713,721),(717,728),(719,735),(723,742),(735,747),(752,754),(760,761),(765,768),(782,775),(801,782),(807,789),(826,796),(830,803),(841,808)]
noncomputable def nN(l:List (Nat×Nat)):List Value:=List.rec [] (λx _ ih=>.int x.1 0::.int 0 0::.ref x.2::ih) l
noncomputable def lT(n:Nat):Obj:=fi ⟨nN (tk nM n)⟩
noncomputable def Kl(P:Params):Obj:=Obj.mk .none none (Data.dict #[D P "type.__subclasses__.Exception.0" 215 (.int 31 0),D P "type.__subclasses__.Exception.n" 216 (.int 1 0)] 2) #[]
noncomputable def IP:Obj:=Obj.mk (.type "type") none (Data.cls (ClassData.mk (S "WallFault") [.type "Exception"] [.ref 31,.type "Exception",.type "BaseException",.type "object"] 30 (S "WallFault") true [] [.ref 44] false none false)) #[some (.ref 15),none,some (T "WallFault" 189),some (T "WallFault" 197),some (.builtin "Exception.__new__"),some (.bool true)]
noncomputable def mo:Obj:=Obj.mk (.type "type") none (Data.cls (ClassData.mk (S "WallFault") [.type "Exception"] [.ref 31,.type "Exception",.type "BaseException",.type "object"] 30 (S "WallFault") true [] [] false none false)) #[some (.ref 15),none,some (T "WallFault" 189),some (T "WallFault" 197),some (.builtin "Exception.__new__"),some (.bool true)]
noncomputable def fl(l:List (List Obj)):List Obj:=List.rec [] (λx _ ih=>List.rec ih (λy _ r=>y::r) x) l
noncomputable def ob(P:Params)(x2 x3 jY jW:Obj):List Obj:=fl [
 [boot_o_0 P,boot_o_1 P,x2,x3,boot_o_4 P,boot_o_5 P,boot_o_6 P,boot_o_7 P,boot_o_8 P,boot_o_9 P,boot_o_10 P,tu #[],jY,fo "code" #[T "<module>" 182,T "<module>" 183,T "/claim/cut.py" 184,.int 1 0,.int 0 0,.int 0 0,.int 0 0,.int 0 0,.ref 11,.bool false,.int 181 0,.ref 12,.none,.none,.none,.none,.int 185 0,.int 1 0,T "/claim/cut.py" 186],fr #[some (.ref 13),some (.ref 3),some (.ref 3),none,some (T "__main__" 164),none,some (.ref 0)],tu #[.type "Exception"],fo "builtin_function_or_method" #[.builtin "type.__prepare__",.type "type"],di #[D P "__module__" 196 (T "siftwall.faults" 187),D P "__qualname__" 198 (T "WallFault" 197),D P "__firstlineno__" 200 (.int 2 199),D P "__init__" 208 (.ref 28),D P "__static_attributes__" 211 (.ref 29)] 5,tu #[],fi #[.int 4 0,.int 4 0,.ref 27],fo "code" #[T "WallFault" 191,T "WallFault" 192,T "/claim/cut.py" 193,.int 2 0,.int 0 0,.int 0 0,.int 0 0,.int 0 0,.ref 18,.bool false,.int 181 0,.ref 19,.none,.none,.none,.none,.int 194 0,.int 2 0,T "/claim/cut.py" 195],fr #[some (.ref 20),some (.ref 3),some (.ref 17),none,some (T "siftwall.faults" 187),none,some (.ref 0)]],
 g7 22 201 "__init__" "WallFault" (PP (st 1) 0) 4 2 ["self","why"] .none q0,
 [tu #[T "at" 209,T "why" 210],di #[D P "__module__" 196 q0,D P "__firstlineno__" 200 (.int 2 199),D P "__init__" 208 (.ref 28),D P "__static_attributes__" 211 (.ref 29),D P "__weakref__" 213 (.ref 32),D P "__doc__" 214 .none] 3,jW,fo "getset_descriptor" #[T "__weakref__" 212,.ref 31,.builtin "ExceptionGroup.__weakref__",.none],fo "super" #[.ref 31,.ref 31,.ref 31],fo "builtin_function_or_method" #[.builtin "object.__init_subclass__",.ref 31],tu #[.ref 31],fo "builtin_function_or_method" #[.builtin "type.__prepare__",.type "type"],di #[D P "__module__" 226 q0,D P "__qualname__" 228 (T "Misused" 227),D P "__firstlineno__" 230 (.int 8 229),D P "__static_attributes__" 231 (.ref 42)] 4,tu #[],fi #[],fo "code" #[T "Misused" 221,T "Misused" 222,T "/claim/cut.py" 223,.int 8 0,.int 0 0,.int 0 0,.int 0 0,.int 0 0,.ref 38,.bool false,.int 181 0,.ref 39,.none,.none,.none,.none,.int 224 0,.int 8 0,T "/claim/cut.py" 225],fr #[some (.ref 40),some (.ref 3),some (.ref 37),none,some q0,none,some (.ref 0)],tu #[],di #[D P "__module__" 226 q0,D P "__firstlineno__" 230 (.int 8 229),D P "__static_attributes__" 231 (.ref 42),D P "__doc__" 232 .none] 2,Obj.mk (.type "type") none (Data.cls (ClassData.mk (S "Misused") [.ref 31] [.ref 44,.ref 31,.type "Exception",.type "BaseException",.type "object"] 43 (S "Misused") true [] [] false none false)) #[some (.ref 35),none,some (T "Misused" 219),some (T "Misused" 227),some (.builtin "Exception.__new__"),some (.bool true)],fo "super" #[.ref 44,.ref 44,.ref 44],fo "builtin_function_or_method" #[.builtin "object.__init_subclass__",.ref 44]],
 g7 47 237 "number_of" "" (st 4) 11 1 ["octets","number","octet"] .none q1,
 g7 54 248 "look4" "" (st 6) 17 1 ["data","off","word"] .none q2,
 g7 61 259 "head_size" "" (st 8) 26 2 ["kind","second"] .none q3,
 g7 68 267 "size_at" "" (st 9) 34 4 ["octets","at","kind","end","size"] .none q3,
 g7 75 278 "place_at" "" (st 10) 43 2 ["octets","at"] .none q3,
 g7 82 286 "look6" "" (st 11) 45 1 ["data","kind","at","place","is_more","size"] .none q3,
 g7 89 300 "new_meta" "" (st 13) 65 0 ["out","name"] .none q4,
 [tu #[],fo "builtin_function_or_method" #[.builtin "type.__prepare__",.type "type"],di #[D P "__module__" 315 q4,D P "__qualname__" 317 (T "Packet" 316),D P "__firstlineno__" 319 (.int 72 318),D P "__init__" 329 (.ref 109),D P "__static_attributes__" 337 (.ref 110)] 5,tu #[],fi #[.int 74 0,.int 4 0,.ref 108],fo "code" #[T "Packet" 310,T "Packet" 311,T "/claim/cut.py" 312,.int 72 0,.int 0 0,.int 0 0,.int 0 0,.int 0 0,.ref 99,.bool false,.int 181 0,.ref 100,.none,.none,.none,.none,.int 313 0,.int 72 0,T "/claim/cut.py" 314],fr #[some (.ref 101),some (.ref 3),some (.ref 98),none,some q4,none,some (.ref 0)]],
 g7 103 320 "__init__" "Packet" (PP (st 14) 0) 74 4 ["self","data","kind","link"] .none q4,
 [tu #[T "data" 330,T "kind" 331,T "l4" 332,T "link" 333,T "meta" 334,T "off" 335,T "place" 336],di #[D P "__module__" 315 q4,D P "__firstlineno__" 319 (.int 72 318),D P "__init__" 329 (.ref 109),D P "__static_attributes__" 337 (.ref 110),D P "__dict__" 339 (.ref 113),D P "__weakref__" 341 (.ref 114),D P "__doc__" 342 .none] 4,Obj.mk (.type "type") none (Data.cls (ClassData.mk (S "Packet") [.type "object"] [.ref 112,.type "object"] 111 (S "Packet") true [] [] false none false)) #[none,none,some (T "Packet" 308),some (T "Packet" 316),some (.builtin "object.__new__"),some (.bool true)],fo "getset_descriptor" #[T "__dict__" 338,.ref 112,.builtin "function.__dict__",.builtin "function.__dict__#set"],fo "getset_descriptor" #[T "__weakref__" 340,.ref 112,.builtin "ExceptionGroup.__weakref__",.none],fo "super" #[.ref 112,.ref 112,.ref 112],fo "builtin_function_or_method" #[.builtin "object.__init_subclass__",.ref 112]],
 g7 117 345 "look" "" (st 15) 82 1 ["packet","found"] .none q4,
 [tu #[.int 2048 353,Value.bytes #[] 354]],
 g7 125 355 "packet_of" "" (st 16) 97 3 ["octets","kind","link","packet"] (.ref 124) q4,
 g7 132 365 "family_of" "" (st 17) 101 1 ["packet"] .none q4,
 g7 139 372 "base_of" "" (st 18) 109 2 ["packet","base"] .none q4,
 g7 146 380 "part" "" (st 19) 121 4 ["packet","base","at","many","found","begin"] .none q4,
 g7 153 392 "address_at" "" (st 20) 129 3 ["packet","place4","place6","octets"] .none q4,
 g7 160 402 "target_of" "" (st 21) 138 1 ["packet"] .none q4,
 g7 167 415 "options_till" "" (st 25) 143 1 ["octets","rows","at","many"] .none q5,
 g7 174 425 "scale_of" "" (st 26) 157 1 ["octets","scale","kind","data"] .none q5,
 g7 181 435 "may_sack" "" (st 27) 163 1 ["octets"] .none q5,
 g7 188 442 "sack_edge" "" (st 28) 165 2 ["octets","ack","most","kind","data","at","far"] .none q5,
 g7 195 455 "error_kinds" "" (st 29) 174 1 ["nfproto"] .none q5,
 [tu #[],fo "builtin_function_or_method" #[.builtin "type.__prepare__",.type "type"],di #[D P "__module__" 473 (T "siftwall.tuples" 462),D P "__qualname__" 475 (T "Talk" 474),D P "__firstlineno__" 477 (.int 178 476),D P "__init__" 488 (.ref 215),D P "__static_attributes__" 500 (.ref 216)] 5,tu #[],fi #[.int 180 0,.int 4 0,.ref 214],fo "code" #[T "Talk" 468,T "Talk" 469,T "/claim/cut.py" 470,.int 178 0,.int 0 0,.int 0 0,.int 0 0,.int 0 0,.ref 205,.bool false,.int 181 0,.ref 206,.none,.none,.none,.none,.int 471 0,.int 178 0,T "/claim/cut.py" 472],fr #[some (.ref 207),some (.ref 3),some (.ref 204),none,some (T "siftwall.tuples" 462),none,some (.ref 0)]],
 g7 209 478 "__init__" "Talk" (PP (st 32) 0) 180 5 ["self","number","original","reply","zone"] .none q6,
 [tu #[T "mark" 489,T "master" 490,T "number" 491,T "original" 492,T "reply" 493,T "sides" 494,T "since" 495,T "state" 496,T "status" 497,T "until" 498,T "zone" 499],di #[D P "__module__" 473 q6,D P "__firstlineno__" 477 (.int 178 476),D P "__init__" 488 (.ref 215),D P "__static_attributes__" 500 (.ref 216),D P "__dict__" 502 (.ref 219),D P "__weakref__" 504 (.ref 220),D P "__doc__" 505 .none] 4,Obj.mk (.type "type") none (Data.cls (ClassData.mk (S "Talk") [.type "object"] [.ref 218,.type "object"] 217 (S "Talk") true [] [] false none false)) #[none,none,some (T "Talk" 466),some (T "Talk" 474),some (.builtin "object.__new__"),some (.bool true)],fo "getset_descriptor" #[T "__dict__" 501,.ref 218,.builtin "function.__dict__",.builtin "function.__dict__#set"],fo "getset_descriptor" #[T "__weakref__" 503,.ref 218,.builtin "ExceptionGroup.__weakref__",.none],fo "super" #[.ref 218,.ref 218,.ref 218],fo "builtin_function_or_method" #[.builtin "object.__init_subclass__",.ref 218],tu #[],fo "builtin_function_or_method" #[.builtin "type.__prepare__",.type "type"],di #[D P "__module__" 515 q6,D P "__qualname__" 517 (T "TalkBook" 516),D P "__firstlineno__" 519 (.int 192 518),D P "__init__" 532 (.ref 237),D P "__static_attributes__" 543 (.ref 238)] 5,tu #[],fi #[.int 194 0,.int 4 0,.ref 236],fo "code" #[T "TalkBook" 510,T "TalkBook" 511,T "/claim/cut.py" 512,.int 192 0,.int 0 0,.int 0 0,.int 0 0,.int 0 0,.ref 226,.bool false,.int 181 0,.ref 227,.none,.none,.none,.none,.int 513 0,.int 192 0,T "/claim/cut.py" 514],fr #[some (.ref 228),some (.ref 3),some (.ref 225),none,some q6,none,some (.ref 0)],tu #[.int 64 520,.int 0 521,.int 128 522]],
 g7 231 523 "__init__" "TalkBook" (PP (st 33) 0) 194 4 ["self","most","seed","tries"] (.ref 230) q6,
 [tu #[T "expects" 533,T "flows" 534,T "is_loose" 535,T "last" 536,T "most" 537,T "seed" 538,T "table" 539,T "talks" 540,T "trackers" 541,T "tries" 542],di #[D P "__module__" 515 q6,D P "__firstlineno__" 519 (.int 192 518),D P "__init__" 532 (.ref 237),D P "__static_attributes__" 543 (.ref 238),D P "__dict__" 545 (.ref 241),D P "__weakref__" 547 (.ref 242),D P "__doc__" 548 .none] 4,Obj.mk (.type "type") none (Data.cls (ClassData.mk (S "TalkBook") [.type "object"] [.ref 240,.type "object"] 239 (S "TalkBook") true [] [] false none false)) #[none,none,some (T "TalkBook" 508),some (T "TalkBook" 516),some (.builtin "object.__new__"),some (.bool true)],fo "getset_descriptor" #[T "__dict__" 544,.ref 240,.builtin "function.__dict__",.builtin "function.__dict__#set"],fo "getset_descriptor" #[T "__weakref__" 546,.ref 240,.builtin "ExceptionGroup.__weakref__",.none],fo "super" #[.ref 240,.ref 240,.ref 240],fo "builtin_function_or_method" #[.builtin "object.__init_subclass__",.ref 240]],
 g7 245 551 "is_icmp" "" (st 34) 205 2 ["nfproto","protocol"] .none q6,
 g7 252 559 "is_error" "" (st 35) 207 2 ["nfproto","kind"] .none q6,
 g7 259 567 "answer_kind" "" (st 36) 209 2 ["nfproto","kind","pairs","ask","answer"] .none q6,
 g7 266 578 "ports_at" "" (st 37) 217 4 ["octets","nfproto","protocol","off","kind","ident"] .none q6,
 g7 273 590 "tuple_at" "" (st 38) 231 4 ["octets","nfproto","protocol","off","ports","at","size","source","target"] .none q6,
 g7 280 605 "tuple_of" "" (st 39) 243 1 ["packet","nfproto"] .none q6,
 g7 287 613 "inner_tuple" "" (st 40) 248 2 ["octets","nfproto","seen"] .none q6,
 g7 294 622 "invert" "" (st 41) 253 1 ["t","nfproto","protocol","source","sport","target","dport","answer"] .none q6,
 g7 301 636 "side_of" "" (st 42) 261 2 ["talk","direction"] .none q6,
 [tu #[],fi #[],Obj.mk .none none (Data.func (FuncData.mk (S "drop_talk") (S "drop_talk") (fA (st 43)) (FuncBody.stmts (fB (st 43))) (fS (st 43)) 0 [] .none .none .none .none none .none .none 0)) #[],fo "code" #[T "drop_talk" 644,T "drop_talk" 645,T "/claim/cut.py" 646,.int 263 0,.int 2 0,.int 0 0,.int 0 0,.int 3 0,.ref 308,.bool true,.int 181 0,.ref 309,.none,.none,.none,.ref 310,.int 647 0,.int 263 0,T "/claim/cut.py" 648],Obj.mk (.type "function") none (Data.func (FuncData.mk (S "drop_talk") (S "drop_talk") (fA (st 43)) (FuncBody.stmts (fB (st 43))) (fS (st 43)) 3 [] .none .none .none q6 none (.ref 311) .none 0)) #[]],
 g7 313 650 "look_up" "" (st 44) 275 4 ["book","zone","t","now","hit","talk"] .none q6,
 g7 320 684 "begin_any" "" (st 56) 295 4 ["book","talk","packet","now"] .none q7,
 g7 327 694 "go_udp" "" (st 57) 298 5 ["book","talk","packet","direction","now"] .none q7,
 g7 334 705 "begin_icmp" "" (st 58) 305 4 ["book","talk","packet","now","asks"] .none q7,
 g7 341 716 "go_icmp" "" (st 59) 309 5 ["book","talk","packet","direction","now"] .none q7,
 g7 348 727 "go_plain" "" (st 60) 312 5 ["book","talk","packet","direction","now"] .none q7,
 g7 355 738 "talk_of_error" "" (st 61) 315 4 ["book","packet","zone","now","nfproto","inner","turned","hit"] .none q7,
 g7 362 752 "is_error_packet" "" (st 62) 327 1 ["packet","nfproto"] .none q7,
 g7 369 760 "error_talk" "" (st 63) 332 3 ["book","scene","zone","hit"] .none q7,
 g7 376 770 "error_or_near" "" (st 64) 345 3 ["book","scene","zone","packet"] .none q7,
 g7 383 780 "udp_trackers" "" (st 65) 354 0 [] .none q7,
 g7 390 786 "icmp_trackers" "" (st 66) 356 0 [] .none q7,
 g7 397 792 "plain_trackers" "" (st 67) 358 0 [] .none q7,
 g7 404 798 "does_fit" "" (st 68) 360 3 ["expect","zone","t","nfproto","protocol","source","target","dport"] .none q7,
 g7 411 812 "take_expect" "" (st 69) 365 4 ["book","zone","t","now","place","expect"] .none q7,
 g7 418 826 "sort_of" "" (st 71) 373 1 ["flags"] .none q8,
 g7 425 833 "flags_are_right" "" (st 72) 381 1 ["flags"] .none q8,
 g7 432 840 "next_state" "" (st 73) 383 3 ["direction","sort","state","rows"] .none q8,
 g7 439 850 "tcp_span" "" (st 74) 393 1 ["state"] .none q8,
 g7 446 857 "before" "" (st 75) 395 2 ["a","b"] .none q8,
 g7 453 865 "after" "" (st 76) 397 2 ["a","b"] .none q8,
 [tu #[],fo "builtin_function_or_method" #[.builtin "type.__prepare__",.type "type"],di #[D P "__module__" 880 q8,D P "__qualname__" 882 (T "Side" 881),D P "__firstlineno__" 884 (.int 399 883),D P "__init__" 891 (.ref 473),D P "__static_attributes__" 903 (.ref 474)] 5,tu #[],fi #[.int 401 0,.int 4 0,.ref 472],fo "code" #[T "Side" 875,T "Side" 876,T "/claim/cut.py" 877,.int 399 0,.int 0 0,.int 0 0,.int 0 0,.int 0 0,.ref 463,.bool false,.int 181 0,.ref 464,.none,.none,.none,.none,.int 878 0,.int 399 0,T "/claim/cut.py" 879],fr #[some (.ref 465),some (.ref 3),some (.ref 462),none,some q8,none,some (.ref 0)]],
 g7 467 885 "__init__" "Side" (PP (st 77) 0) 401 1 ["self"] .none q8,
 [tu #[T "end" 892,T "has_maxack" 893,T "is_closing" 894,T "is_liberal" 895,T "is_sack" 896,T "is_scaled" 897,T "is_unacked" 898,T "maxack" 899,T "maxend" 900,T "maxwin" 901,T "scale" 902],di #[D P "__module__" 880 q8,D P "__firstlineno__" 884 (.int 399 883),D P "__init__" 891 (.ref 473),D P "__static_attributes__" 903 (.ref 474),D P "__dict__" 905 (.ref 477),D P "__weakref__" 907 (.ref 478),D P "__doc__" 908 .none] 4,Obj.mk (.type "type") none (Data.cls (ClassData.mk (S "Side") [.type "object"] [.ref 476,.type "object"] 475 (S "Side") true [] [] false none false)) #[none,none,some (T "Side" 873),some (T "Side" 881),some (.builtin "object.__new__"),some (.bool true)],fo "getset_descriptor" #[T "__dict__" 904,.ref 476,.builtin "function.__dict__",.builtin "function.__dict__#set"],fo "getset_descriptor" #[T "__weakref__" 906,.ref 476,.builtin "ExceptionGroup.__weakref__",.none],fo "super" #[.ref 476,.ref 476,.ref 476],fo "builtin_function_or_method" #[.builtin "object.__init_subclass__",.ref 476]],
 g7 481 911 "behind_packet" "" (st 78) 413 1 ["packet","total"] .none q8,
 g7 488 919 "segment_of" "" (st 79) 420 1 ["packet","octets","begin","seq","ack"] .none q8,
 g7 495 930 "end_of" "" (st 80) 432 1 ["segment"] .none q8,
 g7 502 937 "note_options" "" (st 81) 434 2 ["side","options","scale"] .none q8,
 g7 509 946 "open_side" "" (st 82) 439 3 ["side","segment","end"] .none q8,
 g7 516 955 "answer_side" "" (st 83) 444 4 ["sender","receiver","segment","end"] .none q8,
 g7 523 965 "begin_side" "" (st 84) 449 4 ["sides","direction","segment","end"] .none q8,
 g7 530 975 "take_up" "" (st 85) 455 3 ["side","window","end"] .none q8,
 g7 537 984 "is_within" "" (st 86) 459 5 ["sender","receiver","seq","end","sack"] .none q8,
 g7 544 995 "move_sender" "" (st 87) 465 5 ["sender","is_acked","end","ack","reach"] .none q8,
 g7 551 1006 "move_receiver" "" (st 88) 473 6 ["sender","receiver","end","ack","edge","window"] .none q8,
 g7 558 1018 "meet_sender" "" (st 89) 480 5 ["sides","direction","state","segment","sack","sender","receiver","end","is_syn"] .none q8,
 g7 565 1033 "in_window" "" (st 90) 498 4 ["sides","direction","state","segment","sender","receiver","seq","ack","flags","sack","end","window"] .none q8,
 g7 572 1051 "begin_tcp" "" (st 91) 520 4 ["book","talk","packet","now","segment","state","sides","side"] .none q8,
 g7 579 1065 "is_refused" "" (st 92) 540 3 ["talk","segment","direction","receiver"] .none q8,
 g7 586 1075 "refresh_tcp" "" (st 93) 545 2 ["talk","now","span","is_unanswered"] .none q8,
 g7 593 1085 "go_tcp" "" (st 94) 551 5 ["book","talk","packet","direction","now","segment","old","state","is_over"] .none q8,
 g7 600 1100 "tcp_trackers" "" (st 95) 577 0 [] .none q8,
 g7 607 1108 "tracker_of" "" (st 97) 580 2 ["book","protocol"] .none q9,
 g7 614 1116 "all_trackers" "" (st 98) 586 0 ["trackers","group","protocol"] .none q9,
 [tu #[.int 0 1125]],
 g7 622 1126 "new_talks" "" (st 99) 592 2 ["most","seed","book"] (.ref 621) q9,
 g7 629 1135 "sweep" "" (st 100) 596 2 ["book","now","gone","number"] .none q9,
 g7 636 1145 "evict" "" (st 101) 603 2 ["book","now","number"] .none q9,
 g7 643 1154 "put_talk" "" (st 102) 611 4 ["scene","talk","state","is_reply"] .none q9,
 g7 650 1164 "found_talk" "" (st 103) 615 3 ["scene","zone","t","hit","talk","direction"] .none q9,
 g7 657 1176 "relate_talk" "" (st 104) 625 3 ["scene","talk","zone","expect"] .none q9,
 g7 664 1186 "begin_talk" "" (st 105) 634 4 ["scene","tracker","zone","t","book","reply","talk"] .none q9,
 g7 671 1199 "bring_on" "" (st 106) 648 4 ["scene","tracker","zone","t","book","answer","verdict"] .none q9,
 [tu #[.int 0 1212]],
 g7 679 1213 "track" "" (st 107) 664 2 ["scene","zone","t","tracker"] (.ref 678) q9,
 g7 686 1223 "confirm" "" (st 108) 675 1 ["scene","book","talk","t"] .none q9,
 [tu #[],fo "builtin_function_or_method" #[.builtin "type.__prepare__",.type "type"],di #[D P "__module__" 1242 (T "siftwall.walk" 1233),D P "__qualname__" 1244 (T "Scene" 1243),D P "__firstlineno__" 1246 (.int 689 1245),D P "__init__" 1259 (.ref 707),D P "__static_attributes__" 1279 (.ref 708)] 5,tu #[],fi #[.int 691 0,.int 4 0,.ref 706],fo "code" #[T "Scene" 1237,T "Scene" 1238,T "/claim/cut.py" 1239,.int 689 0,.int 0 0,.int 0 0,.int 0 0,.int 0 0,.ref 696,.bool false,.int 181 0,.ref 697,.none,.none,.none,.none,.int 1240 0,.int 689 0,T "/claim/cut.py" 1241],fr #[some (.ref 698),some (.ref 3),some (.ref 695),none,some (T "siftwall.walk" 1233),none,some (.ref 0)],tu #[.int 0 1247,T "input" 1248]],
 g7 701 1249 "__init__" "Scene" (PP (st 110) 0) 691 5 ["self","packet","fields","now","hook"] (.ref 700) iF,
 [tu #[T "doers" 1260,T "fields" 1261,T "homes" 1262,T "hook" 1263,T "is_reply" 1264,T "log" 1265,T "now" 1266,T "objects" 1267,T "ops" 1268,T "order" 1269,T "packet" 1270,T "readers" 1271,T "replies" 1272,T "sets" 1273,T "state" 1274,T "steps" 1275,T "talk" 1276,T "talks" 1277,T "tools" 1278],di #[D P "__module__" 1242 iF,D P "__firstlineno__" 1246 (.int 689 1245),D P "__init__" 1259 (.ref 707),D P "__static_attributes__" 1279 (.ref 708),D P "__dict__" 1281 (.ref 711),D P "__weakref__" 1283 (.ref 712),D P "__doc__" 1284 .none] 4,Obj.mk (.type "type") none (Data.cls (ClassData.mk (S "Scene") [.type "object"] [.ref 710,.type "object"] 709 (S "Scene") true [] [] false none false)) #[none,none,some (T "Scene" 1235),some (T "Scene" 1243),some (.builtin "object.__new__"),some (.bool true)],fo "getset_descriptor" #[T "__dict__" 1280,.ref 710,.builtin "function.__dict__",.builtin "function.__dict__#set"],fo "getset_descriptor" #[T "__weakref__" 1282,.ref 710,.builtin "ExceptionGroup.__weakref__",.none],fo "super" #[.ref 710,.ref 710,.ref 710],fo "builtin_function_or_method" #[.builtin "object.__init_subclass__",.ref 710],tu #[.int 24159192960 1289,.int 19744003 1290,.int 16109586560 1291,.int 63151024 1292,.int 1920 1293,.int 0 1294,.int 13086230400 1295,.int 0 1296,.int 98917051520 1297,.int 16 1298,.int 2691441 1299,.int 48062 1300,.int 251658247 1301,.int 0 1302,.int 3019899553 1303,.int 14 1304]],
 g7 716 1306 "_law_digit" "" (st 113) 713 2 ["bag","many","found_now"] .none GP,
 g7 723 1315 "_law_four" "" (st 114) 717 1 ["number"] .none GP,
 g7 730 1322 "_law_filled" "" (st 115) 719 2 ["octets","filler"] .none GP,
 g7 737 1330 "_law_syn_options" "" (st 116) 723 1 ["bag","octets","scale","may","is_whole","turn","which","more","rows"] .none GP,
 [tu #[],fi #[],Obj.mk .none none (Data.func (FuncData.mk (S "_law_later_options") (S "_law_later_options") (fA (st 117)) (FuncBody.stmts (fB (st 117))) (fS (st 117)) 0 [] .none .none .none .none none .none .none 0)) #[],fo "code" #[T "_law_later_options" 1345,T "_law_later_options" 1346,T "/claim/cut.py" 1347,.int 735 0,.int 3 0,.int 0 0,.int 0 0,.int 3 0,.ref 744,.bool true,.int 181 0,.ref 745,.none,.none,.none,.ref 746,.int 1348 0,.int 735 0,T "/claim/cut.py" 1349],Obj.mk (.type "function") none (Data.func (FuncData.mk (S "_law_later_options") (S "_law_later_options") (fA (st 117)) (FuncBody.stmts (fB (st 117))) (fS (st 117)) 3 [] .none .none .none GP none (.ref 747) .none 0)) #[]],
 g7 749 1351 "_law_packet" "" (st 118) 752 6 ["way","numbers","flags","window","options","length","hosts","ports","whole","octets"] .none GP,
 g7 756 1367 "_law_fresh" "" (st 119) 760 0 ["side"] .none GP,
 g7 763 1374 "_law_opened" "" (st 120) 765 6 ["both","way","end","window","scale","may","mine"] .none GP,
 g7 770 1387 "_law_brought" "" (st 121) 782 6 ["both","way","numbers","length","window","rights","mine","other","seq","ack","far"] .none GP,
 g7 777 1404 "_law_is_side" "" (st 122) 801 2 ["side","due","numbers","marks"] .none GP,
 g7 784 1414 "_law_segment" "" (st 123) 807 4 ["k","bags","both","bases","number_bag","option_bag","way","spot","back","answer","kind","window","length","flags","step","options","scale","may","ack","packet","mine","other","seq","rights"] .none GP,
 g7 791 1444 "_law_is_so" "" (st 124) 826 3 ["talk","both","due"] .none GP,
 g7 798 1453 "_law_goes_on" "" (st 125) 830 5 ["k","way","now","both","due","old","span"] .none GP,
 [tu #[],fi #[],Obj.mk .none none (Data.func (FuncData.mk (S "law") (S "law") (fA (st 126)) (FuncBody.stmts (fB (st 126))) (fS (st 126)) 0 [] .none .none .none .none none .none .none 0)) #[],fo "code" #[T "law" 1466,T "law" 1467,T "/claim/cut.py" 1468,.int 841 0,.int 1 0,.int 0 0,.int 0 0,.int 3 0,.ref 805,.bool true,.int 181 0,.ref 806,.none,.none,.none,.ref 807,.int 1469 0,.int 841 0,T "/claim/cut.py" 1470],Obj.mk (.type "function") none (Data.func (FuncData.mk (S "law") (S "law") (fA (st 126)) (FuncBody.stmts (fB (st 126))) (fS (st 126)) 3 [] .none .none .none GP none (.ref 808) .none 0)) #[]]]
noncomputable abbrev BN:=BT.node
noncomputable abbrev Z:=BT.nil
noncomputable def iu(l:List Obj):List Obj×List Obj:=List.rec ([],[]) (λx _ ih=>(x::ih.2,ih.1)) l
noncomputable def bt(n:Nat):List Obj->BT:=Nat.rec (λ_=>Z) (λ_ ih l=>List.rec Z (λx r _=>BN x (ih (iu r).1) (ih (iu r).2)) l) n
noncomputable abbrev lf:Life:=Life.mk [] [] [] 0 [] [] false #[] [] 0 false false false 0 [2000,10,10] false 0 true [] [] 0 false
noncomputable def Re(P:Params):BT:=bt 12 (tk (ob P (boot_o_2 P) (boot_o_3 P) (lT 0) IP) 15)
noncomputable def TE(P:Params):Heap:=Heap.mk ⟨tk (ob P (boot_o_2 P) (boot_o_3 P) (lT 0) IP) 15⟩ lf
noncomputable def Rd(P:Params):BT:=bt 12 (tk (ob P (Kl P) (mD P 9 q0) (lT 1) mo) 35)
noncomputable def O2(P:Params):BT:=bt 12 (tk (ob P (Kl P) (mD P 15 q3) (lT 7) IP) 82)
noncomputable def O1(P:Params):BT:=bt 12 (tk (ob P (Kl P) (mD P 21 q4) (lT 13) IP) 139)
noncomputable def O0(P:Params):BT:=bt 12 (tk (ob P (Kl P) (mD P 33 q6) (lT 22) IP) 202)
noncomputable def OZ(P:Params):BT:=bt 12 (tk (ob P (Kl P) (mD P 34 q6) (lT 23) IP) 223)
noncomputable def OY(P:Params):BT:=bt 12 (tk (ob P (Kl P) (mD P 39 q6) (lT 28) IP) 273)
noncomputable def OX(P:Params):BT:=bt 12 (tk (ob P (Kl P) (mD P 58 q7) (lT 37) IP) 334)
noncomputable def OW(P:Params):BT:=bt 12 (tk (ob P (Kl P) (mD P 70 q8) (lT 49) IP) 418)
noncomputable def OV(P:Params):BT:=bt 12 (tk (ob P (Kl P) (mD P 76 q8) (lT 55) IP) 460)
noncomputable def OU(P:Params):BT:=bt 12 (tk (ob P (Kl P) (mD P 82 q8) (lT 61) IP) 516)
noncomputable def OT(P:Params):BT:=bt 12 (tk (ob P (Kl P) (mD P 93 q8) (lT 72) IP) 593)
noncomputable def OS(P:Params):BT:=bt 12 (tk (ob P (Kl P) (mD P 105 q9) (lT 84) IP) 678)
noncomputable def OQ(P:Params):BT:=bt 12 (tk (ob P (Kl P) (mD P 110 GP) (lT 88) IP) 723)
noncomputable def OP(P:Params):BT:=bt 12 (tk (ob P (Kl P) (mD P 121 GP) (lT 99) IP) 798)
noncomputable def OO(P:Params):BT:=bt 12 (tk (ob P (Kl P) (mD P 123 GP) (lT 101) IP) 810)
noncomputable def iN(P:Params):List Obj:=ob P (Kl P) (mD P 123 GP) (lT 101) IP
noncomputable def CG(P:Params):Heap:=Heap.mk ⟨iN P⟩ lf
noncomputable def kA:List Addr:=[2,3,15,22,24,25,27,28,29,30,31,32,35,42,43,44,47,49,50,52,53,54,56,57,59,60,61,63,64,66,67,68,70,71,73,74,75,77,78,80,81,82,84,85,87,88,89,91,92,94,95,103,105,106,108,109,110,111,112,113,114,117,119,120,122,123,124,125,127,128,130,131,132,134,135,137,138,139,141,142,144,145,146,148,149,151,152,153,155,156,158,159,160,162,163,165,166,167,169,170,172,173,174,176,177,179,180,181,183,184,186,187,188,190,191,193,194,195,197,198,200,201,209,211,212,214,215,216,217,218,219,220,230,231,233,234,236,237,238,239,240,241,242,245,247,248,250,251,252,254,255,257,258,259,261,262,264,265,266,268,269,271,272,273,275,276,278,279,280,282,283,285,286,287,289,290,292,293,294,296,297,299,300,301,303,304,306,307,308,311,312,313,315,316,318,319,320,322,323,325,326,327,329,330,332,333,334,336,337,339,340,341,343,344,346,347,348,350,351,353,354,355,357,358,360,361,362,364,365,367,368,369,371,372,374,375,376,378,379,381,382,383,385,386,388,389,390,392,393,395,396,397,399,400,402,403,404,406,407,409,410,411,413,414,416,417,418,420,421,423,424,425,427,428,430,431,432,434,435,437,438,439,441,442,444,445,446,448,449,451,452,453,455,456,458,459,467,469,470,472,473,474,475,476,477,478,481,483,484,486,487,488,490,491,493,494,495,497,498,500,501,502,504,505,507,508,509,511,512,514,515,516,518,519,521,522,523,525,526,528,529,530,532,533,535,536,537,539,540,542,543,544,546,547,549,550,551,553,554,556,557,558,560,561,563,564,565,567,568,570,571,572,574,575,577,578,579,581,582,584,585,586,588,589,591,592,593,595,596,598,599,600,602,603,605,606,607,609,610,612,613,614,616,617,619,620,621,622,624,625,627,628,629,631,632,634,635,636,638,639,641,642,643,645,646,648,649,650,652,653,655,656,657,659,660,662,663,664,666,667,669,670,671,673,674,676,677,678,679,681,682,684,685,686,688,689,691,692,700,701,703,704,706,707,708,709,710,711,712,715,716,718,719,721,722,723,725,726,728,729,730,732,733,735,736,737,739,740,742,743,744,747,748,749,751,752,754,755,756,758,759,761,762,763,765,766,768,769,770,772,773,775,776,777,779,780,782,783,784,786,787,789,790,791,793,794,796,797,798,800,801,803,804,805,808,809]
noncomputable def pick(l:List Obj):Nat->List Nat->List (Nat×Obj):=List.rec (λ_ _=>[]) (λo _ ih p ks=>List.rec [] (λk r _=>cond (Nat.beq p k) ((k,o)::ih p.succ r) (ih p.succ (k::r))) ks) l
noncomputable def kK(P:Params):Frag:=pick (iN P) 0 kA
noncomputable def Tq(P:Params):Obj:=Obj.mk (.type "function") none (Data.func (FuncData.mk (S "_law_later_options") (S "_law_later_options") (fA (st 117)) (FuncBody.stmts (fB (st 117))) (fS (st 117)) 3 [] .none .none .none GP none (.ref 747) .none 0)) #[]
noncomputable def Y8(P:Params):Obj:=Obj.mk (.type "function") none (Data.func (FuncData.mk (S "law") (S "law") (fA (st 126)) (FuncBody.stmts (fB (st 126))) (fS (st 126)) 3 [] .none .none .none GP none (.ref 808) .none 0)) #[]
noncomputable def Y9(P:Params):Obj:=tu #[.int 24159192960 1289,.int 19744003 1290,.int 16109586560 1291,.int 63151024 1292,.int 1920 1293,.int 0 1294,.int 13086230400 1295,.int 0 1296,.int 98917051520 1297,.int 16 1298,.int 2691441 1299,.int 48062 1300,.int 251658247 1301,.int 0 1302,.int 3019899553 1303,.int 14 1304]
noncomputable def Dg:Env:={scope:=pw.main.scope,locals:=mainNs,globals:=mainNs,cells:=[],code:=.ref 13,frame:=some 14}
noncomputable def cE:Code:=.body (behindTheImports pw) Dg
noncomputable def Bq:List Frame:=[topFrame ⟨0,0,0,0⟩]
noncomputable abbrev an:Option Value:=some (.ref 6)
noncomputable def tS(b:Params->BT)(w:World)(os:OsState)(n t:Nat):SharedT:=⟨b w.params,n,lf,#[],⟨0,0,0,0⟩,t,os⟩
noncomputable def T0(w:World)(os:OsState):SharedT:=tS Re w os 15 187
noncomputable def Xe:Pos:=⟨0,0,0,0⟩
noncomputable def T1(w:World)(os:OsState):SharedT:=tS Rd w os 35 219
noncomputable def jf:Pos:=⟨2,0,7,20⟩
noncomputable def T2(w:World)(os:OsState):SharedT:=tS O2 w os 82 286
noncomputable def jd:Pos:=⟨43,0,44,51⟩
noncomputable def T3(w:World)(os:OsState):SharedT:=tS O1 w os 139 372
noncomputable def jb:Pos:=⟨101,0,108,12⟩
noncomputable def T4(w:World)(os:OsState):SharedT:=tS O0 w os 202 466
noncomputable def ja:Pos:=⟨177,0,177,5⟩
noncomputable def T5(w:World)(os:OsState):SharedT:=tS OZ w os 223 508
noncomputable def i9:Pos:=⟨178,0,191,23⟩
noncomputable def T6(w:World)(os:OsState):SharedT:=tS OY w os 273 590
noncomputable def i8:Pos:=⟨217,0,230,48⟩
noncomputable def T7(w:World)(os:OsState):SharedT:=tS OX w os 334 705
noncomputable def i7:Pos:=⟨298,0,304,15⟩
noncomputable def T8(w:World)(os:OsState):SharedT:=tS OW w os 418 826
noncomputable def i6:Pos:=⟨372,0,372,8⟩
noncomputable def T9(w:World)(os:OsState):SharedT:=tS OV w os 460 873
noncomputable def i5:Pos:=⟨397,0,398,42⟩
noncomputable def jz(w:World)(os:OsState):SharedT:=tS OU w os 516 955
noncomputable def ZF:Pos:=⟨439,0,443,34⟩
noncomputable def jy(w:World)(os:OsState):SharedT:=tS OT w os 593 1085
noncomputable def ZE:Pos:=⟨545,0,550,27⟩
noncomputable def jx(w:World)(os:OsState):SharedT:=tS OS w os 678 1212
noncomputable def ZD:Pos:=⟨648,0,663,15⟩
noncomputable def jw(w:World)(os:OsState):SharedT:=tS OQ w os 723 1315
noncomputable def ZC:Pos:=⟨713,0,716,20⟩
noncomputable def ju(w:World)(os:OsState):SharedT:=tS OP w os 798 1453
noncomputable def ZB:Pos:=⟨826,0,829,88⟩
noncomputable def gn(w:World)(os:OsState):SharedT:=tS OO w os 810 1472
noncomputable def VZ:Pos:=⟨841,0,867,80⟩
noncomputable def mY:List Stmt:=(pw.main.body.drop 0).take 2
noncomputable def mX:List Stmt:=(pw.main.body.drop 2).take 9
noncomputable def mW:List Stmt:=(pw.main.body.drop 11).take 7
noncomputable def mU:List Stmt:=(pw.main.body.drop 18).take 14
noncomputable def mT:List Stmt:=(pw.main.body.drop 32).take 1
noncomputable def mS:List Stmt:=(pw.main.body.drop 33).take 5
noncomputable def mQ:List Stmt:=(pw.main.body.drop 38).take 20
noncomputable def mM:List Stmt:=(pw.main.body.drop 58).take 13
noncomputable def mJ:List Stmt:=(pw.main.body.drop 71).take 6
noncomputable def mI:List Stmt:=(pw.main.body.drop 77).take 6
noncomputable def dM:List Stmt:=(pw.main.body.drop 83).take 11
noncomputable def dK:List Stmt:=(pw.main.body.drop 94).take 13
noncomputable def dJ:List Stmt:=(pw.main.body.drop 107).take 7
noncomputable def dI:List Stmt:=(pw.main.body.drop 114).take 11
noncomputable def dH:List Stmt:=(pw.main.body.drop 125).take 2
theorem d3(w:World):(λos=>topGo treeTable pw w 11 an 12 ⟨boot_heap w.params,#[],boot_drawn,boot_toks,os⟩ (topStub pw))=λos=>some (⟨TE w.params,#[],⟨0,0,0,0⟩,187,os⟩,⟨denote treeTable cE,cE,Xe,Bq⟩):=by rw[Fast.te15667345088766844465,cT,Fast.te11892475500146522536];kernel_rfl
theorem Vw(w:World):(λos=>segRun treeTable pw w 11 an 1 1 ⟨TE w.params,#[],⟨0,0,0,0⟩,187,os⟩ (blockOf (behindTheImports pw) Dg cE Xe Bq))=λos=>some (.next,(T0 w os).abs,cE,Xe):=by rw[Fast.te14374325043358763698,cT];kernel_rfl
theorem r0(w:World):(λos=>segRunT treeTable pw w 11 an 1 239 (T0 w os) (piecesOf mY Dg cE Xe Bq))=λos=>some (.next,T1 w os,cE,jf):=by rw[gE,cT];kernel_rfl
theorem r1(w:World):(λos=>segRunT treeTable pw w 11 an 1 396 (T1 w os) (piecesOf mX Dg cE jf Bq))=λos=>some (.next,T2 w os,cE,jd):=by rw[gE,cT];kernel_rfl
theorem r2(w:World):(λos=>segRunT treeTable pw w 11 an 1 398 (T2 w os) (piecesOf mW Dg cE jd Bq))=λos=>some (.next,T3 w os,cE,jb):=by rw[gE,cT];kernel_rfl
theorem r3(w:World):(λos=>segRunT treeTable pw w 11 an 1 328 (T3 w os) (piecesOf mU Dg cE jb Bq))=λos=>some (.next,T4 w os,cE,ja):=by rw[gE,cT];kernel_rfl
theorem r4(w:World):(λos=>segRunT treeTable pw w 11 an 1 236 (T4 w os) (piecesOf mT Dg cE ja Bq))=λos=>some (.next,T5 w os,cE,i9):=by rw[gE,cT];kernel_rfl
theorem r5(w:World):(λos=>segRunT treeTable pw w 11 an 1 365 (T5 w os) (piecesOf mS Dg cE i9 Bq))=λos=>some (.next,T6 w os,cE,i8):=by rw[gE,cT];kernel_rfl
theorem r6(w:World):(λos=>segRunT treeTable pw w 11 an 1 389 (T6 w os) (piecesOf mQ Dg cE i8 Bq))=λos=>some (.next,T7 w os,cE,i7):=by rw[gE,cT];kernel_rfl
theorem r7(w:World):(λos=>segRunT treeTable pw w 11 an 1 393 (T7 w os) (piecesOf mM Dg cE i7 Bq))=λos=>some (.next,T8 w os,cE,i6):=by rw[gE,cT];kernel_rfl
theorem r8(w:World):(λos=>segRunT treeTable pw w 11 an 1 180 (T8 w os) (piecesOf mJ Dg cE i6 Bq))=λos=>some (.next,T9 w os,cE,i5):=by rw[gE,cT];kernel_rfl
theorem r9(w:World):(λos=>segRunT treeTable pw w 11 an 1 386 (T9 w os) (piecesOf mI Dg cE i5 Bq))=λos=>some (.next,jz w os,cE,ZF):=by rw[gE,cT];kernel_rfl
theorem nj(w:World):(λos=>segRunT treeTable pw w 11 an 1 373 (jz w os) (piecesOf dM Dg cE ZF Bq))=λos=>some (.next,jy w os,cE,ZE):=by rw[gE,cT];kernel_rfl
theorem ni(w:World):(λos=>segRunT treeTable pw w 11 an 1 400 (jy w os) (piecesOf dK Dg cE ZE Bq))=λos=>some (.next,jx w os,cE,ZD):=by rw[gE,cT];kernel_rfl
theorem nh(w:World):(λos=>segRunT treeTable pw w 11 an 1 388 (jx w os) (piecesOf dJ Dg cE ZD Bq))=λos=>some (.next,jw w os,cE,ZC):=by rw[gE,cT];kernel_rfl
theorem ne(w:World):(λos=>segRunT treeTable pw w 11 an 1 379 (jw w os) (piecesOf dI Dg cE ZC Bq))=λos=>some (.next,ju w os,cE,ZB):=by rw[gE,cT];kernel_rfl
theorem nc(w:World):(λos=>segRunT treeTable pw w 11 an 1 62 (ju w os) (piecesOf dH Dg cE ZB Bq))=λos=>some (.next,gn w os,cE,VZ):=by rw[gE,cT];kernel_rfl
theorem d5(w:World):(λos=>topRun treeTable pw w 11 an 2 (gn w os).abs ⟨doneF .next,cE,VZ,Bq⟩)=λos=>some ⟨CG w.params,#[],⟨0,0,0,0⟩,1472,os⟩:=by rw[Fast.te14082659384304107361,cT];kernel_rfl
theorem run(w:World)(os:OsState):topRun treeTable pw w 11 an (12+(1+(239+(396+(398+(328+(236+(365+(389+(393+(180+(386+(373+(400+(388+(379+(62+2))))))))))))))))) ⟨boot_heap w.params,#[],boot_drawn,boot_toks,os⟩ (topStub pw)=some ⟨CG w.params,#[],⟨0,0,0,0⟩,1472,os⟩:=by have km:topRun treeTable pw w 11 an 2 (gn w os).abs (restOf [] Dg cE VZ Bq)=some ⟨CG w.params,#[],⟨0,0,0,0⟩,1472,os⟩:=pE (d5 w) os;have Xv:=qd (qe (pE (nc w) os)) km;have ko:=qd (qe (pE (ne w) os)) Xv;have kq:=qd (qe (pE (nh w) os)) ko;have kr:=qd (qe (pE (ni w) os)) kq;have ku:=qd (qe (pE (nj w) os)) kr;have k9:=qd (qe (pE (r9 w) os)) ku;have k8:=qd (qe (pE (r8 w) os)) k9;have k7:=qd (qe (pE (r7 w) os)) k8;have k6:=qd (qe (pE (r6 w) os)) k7;have k5:=qd (qe (pE (r5 w) os)) k6;have k4:=qd (qe (pE (r4 w) os)) k5;have k3:=qd (qe (pE (r3 w) os)) k4;have k2:=qd (qe (pE (r2 w) os)) k3;have k1:=qd (qe (pE (r1 w) os)) k2;have k0:=qd (qe (pE (r0 w) os)) k1;have kB:=piece_block (b:=behindTheImports pw) (pE (Vw w) os) k0;exact go_top (pE (d3 w) os) kB
theorem JO:SH (⟨.builtin "claim.caller" {},none,none,[],none⟩:Ctx):=⟨λ_ _=>rfl,λ_ h=>nomatch h⟩
theorem We{prog:Program}{w:World}{t:Sem Fin}{s:Shared}{R:Result->Shared->Prop}(IM:s.asleep)
  (h:Aa (model prog w) callerA t (λfin s'=>∃f,fin=.done f/\R (.ok f) s'/\leftWithCleanup s'.gens=false) s):
  ∃n r s' Iv,runN (denote table) prog w n s ⟨t,.builtin "claim.caller" {},default,[]⟩=.halted (outcomeOf r) s'/\
   schedN (denote table) prog w n (.single s ⟨t,.builtin "claim.caller" {},default,[]⟩)=.halted (outcomeOf r) s'/\s'.forget=Iv.forget/\R r Iv:=by
 have h0:=rS (model prog w) _ t (post':=Sem.finPost (model prog w) ⟨.builtin "claim.caller" {},none,none,[],none⟩ λr s'=>R r s'/\leftWithCleanup s'.gens=false)
  (exc':=λe _ s'=>R (.error e) s'/\leftWithCleanup s'.gens=false) (λfin p s' q=>by obtain⟨f,rfl,q⟩:=q;exact q) (λ_ _ _ q=>q.elim) default s (h.go _ default caller_in JO)
 obtain⟨n,r,a,b,sched,run,fo,q⟩:=wp_halts_full IM h0;exact⟨n,r,b,a,run,sched,fo,q⟩
theorem Lz{c:ClaimW}{tree:List Value->Sem Fin}{w:World}{s:Shared}{free:Addr->Prop}{gens:Prop}{kept:Heap->Prop}(IM:s.asleep)(hg:s.gens=#[])
  (h:∀args,c.pre args=true->WData.layableAll args=true->∀ord:List DictEntry->List DictEntry,(∀l,(ord l).Perm l)->
   ∃vs s₁,layAllW c.records (classAt s.heap) w.params ord args s=some (vs,s₁)/\
    Aa (model c.prog w) callerA (tree vs) (λfin s'=>∃f,fin=.done f/\(c.Ends s args vs s₁ (.ok f) s'/\s'.os=s.os/\AllBare s'.gens/\kept s'.heap)) s₁):
  c.CallFrom (λvs=>⟨tree vs,.builtin "claim.caller" {},default,[]⟩) w free gens kept s:=by
 intro args h1 h2 ord h3;refine jG λDL=>?_;obtain⟨vs,s₁,laid,hc⟩:=h args h1 h2 ord h3;have rest:=layAllW_rest _ _ _ laid;obtain⟨k,r,s',Iv,run,sched,fo,E,O,KK⟩:=We (R:=λr s'=>c.Ends s args vs s₁ r s'/\s'.os=s.os/\kept s'.heap) (Shared.asleep_of_life rest.2.2.2 IM)
  (hc.mono λfin s'⟨f,e,a,b,g,d⟩=>⟨f,e,⟨a,b,d⟩,leftWithCleanup_false_of_bare g⟩)
 obtain⟨eh,_,_,eo,_⟩:=Shared.forget_eq fo;have E:=E.congr eh;have KK:kept s'.heap:=by rw[eh];exact KK
 have O:s'.os=s.os:=eo.trans O;have life:s'.heap.life=s.heap.life:=(runN_life _ _ _ run).trans rest.2.2.2;refine DL ⟨vs,s₁,laid,k,_,s',sched,?_,λ_ i x hx=>?_,KK,by rw[life],Shared.rest_eq O⟩
 ·rcases E with ⟨v,rfl,a,b,c,d,e⟩|⟨x,ob,cls,rfl,a,b,c,d,e⟩
  ·exact .inl ⟨v,rfl,a,b,c,λb o y _=>d b o y,e⟩
  ·exact .inr ⟨x,ob,cls,rfl,a,b,c,d,λb o y _=>e b o y⟩
 ·rw[hg] at hx;simp at hx
abbrev WalkX(q:Program)(Hg:List Str)(XP:(Str->Option Value)->Heap->Prop)(YP:World->Heap->Prop)(r:RowW)(d:DefRec)(Xu:List (Str×Expr)):Prop:=
 ∀(w:World)(s₀ s₁:Shared)(mg mb:Str->Option Value),Ground q Hg r.records XP w s₀ mg mb s₁.heap->YP w s₁.heap->∀(a:Addr)(o:Obj)(pm cd bA dV kV:Value),s₁.heap.get? a=some o->
  o.data=.func {docDef d.name d.params d.body d.scope pm cd bA with defaults:=dV,kwdefaults:=kV}->s₁.heap.CodeRec cd d.name->Dflts mg s₁.heap d.params Xu dV kV->mg d.name=some (.ref a)->s₁.gens=#[]->
  ∀(args:List WData)(Ab:List Value)(as:List Addr),r.claim.pre args=true->WData.layableAll args=true->ReadsAllW r.records (classAt s₀.heap) s₁.heap Ab args as->WellAll w.params s₁.heap Ab args->(∀a∈as,(a==sysModules)=false)->Aa (model r.prog w) callerA (call (.ref a) Ab) (λv s'=>GoodWG r.claim (classAt s₀.heap) (ExcName.means s₀.heap) args s₁ (.ok (.ret v)) s') s₁
theorem RP{r:OpenRow}{q:Program}{Hg:List Str}{Xt:Shared->Bool}{XP:(Str->Option Value)->Heap->Prop}{α:Type}{Yf:Shared->α}{Ya:World->α}{YP:World->Heap->Prop}{d:DefRec}{Xu:List (Str×Expr)}{N:Nat}
  (left:LeftO r.prog q Hg Xt Yf Ya N) (hY:∀w s,Yf s=Ya w->YP w s.heap) (lq:∀w h h',YP w h->(∀b o,h.get? b=some o->h'.get? b=some o)->YP w h')
  (hX:∀s,Xt s=true->XP (s.heap.nsMap mainGlobals) s.heap) (lr:∀mg h h',XP mg h->(∀b o,h.get? b=some o->h'.get? b=some o)->XP mg h')
  (Ut:defOf q r.name=some (d,Xu)) (hp:r.prog.theDef r.name=some (d.params,d.body,d.scope)) (hk:kwWritten? d.params.kwonlyargs d.params.kw_defaults=some Xu) (lu:∀s,Xt s=true->RecFacts r.records s.heap) (kD:(!r.writes||r.records.isEmpty)=true)
  (Uo:r.wellSaid=true) (ok:(chainsOk q&&opensWell r.prog&&(frees r.toRowW&&r.within.isEmpty))=true) (bare:r.prog.bare) (hw:r.toRowW.promised)
  (Un:WalkX q Hg XP YP r.toRowW d Xu):r.Holds:=by
 obtain⟨ok1,ok2⟩:=qW.mp ok;obtain⟨chains,opens⟩:=qW.mp ok1;obtain⟨fr,within⟩:=qW.mp ok2;obtain⟨same,uns,ats,apart,makers⟩:=frees_parts fr;have L0:=λw=>left.behind (XP:=λmg h=>XP mg h/\RecFacts r.records h) (λs e=>⟨hX s e,lu s e⟩) chains w;refine⟨Uo,hw,⟨bare,opens,by show r.makers.map _=[];rw[makers];rfl⟩,hw.witness,λw=>⟨(L0 w).1,λs' a=>?_⟩⟩;refine jG λDL=>?_;obtain⟨s₀,f1,f2,s,T,IM,gens,ns,G,y⟩:=(L0 w).2 s' a;obtain⟨Xx,RF⟩:=G.X;have G1:Ground q Hg [] XP w s (s.heap.nsMap mainGlobals) (s.heap.nsMap builtinsNs) s.heap:={G with X:=Xx};have G2:Ground q Hg r.records XP w s _ _ s.heap:=RF.ground G1;have gens:s.gens=#[]:=Array.eq_empty_of_size_eq_zero (rM.mp gens);refine DL ⟨s₀,f1,f2,s,T,λn hn=>?_,RF.1,RF.2.1,Lz (c:=r.claim) IM gens λargs pre b9 ord XN=>?_⟩
 ·have:n=r.name:=by
   split at hn
   ·simpa using hn
   ·cases hn
  rw[this];exact pinned_of_view ns G1 Ut hp hk
 ·refine jG λDL=>?_;obtain⟨⟨vs,s₁⟩,laid⟩:=pf.mp (layAllW_isSome (P:=w.params) (ord:=ord) G2.has args r.args s (pre_splitW pre).1);have keeps:=layAllW_keeps _ _ _ laid;have rest:=layAllW_rest _ _ _ laid;obtain⟨as,rd,inn,old⟩:=reads_layAllW XN _ _ _ laid b9 s₁.heap (λ_ _ e=>e);have L:Laid r.records w s s₁ args vs as:=⟨⟨ord,XN,laid⟩,rd,inn,old,keeps,rest.1.trans gens,rest.2.2.1⟩;have G3:=G2.keeps lr keeps;obtain⟨a,o,pm,cd,bA,dV,kV,h1,h2,h3,h4,h5⟩:=G3.fn Ut;have go:=Un w s s₁ _ _ G3 (lq _ _ _ (hY w s y) keeps) a o pm cd bA dV kV h2 h3 h4 h5 (defOf_name Ut▸h1) L.gens args vs as pre b9 L.reads L.well (L.low G2.low);have hi:=ident_freeW uns ats apart;have kG:r.claim.within=[]:=List.isEmpty_iff.mp within;refine DL ⟨vs,s₁,laid,Aa.bind (Aa.of (wpAny_nsGet G3.T.g (E:=WL) (Q:=λf s'=>Aa _ _ _ _ s') ?_))⟩;rw[h1];refine Aa.bind (go.mono λv s' g=>Aa.pure ⟨_,rfl,?_⟩);have z:=g.laid (c:=r.claim) same kG hi L;exact⟨z.1,z.2.1,z.2.2,λq=>⟨namesKept_of T ns _ keeps g.2.1.old,noTable kD q⟩⟩
noncomputable def qv:Program:={pw with main:={pw.main with body:=[st 126]}}
noncomputable def lz:List Str:=(["WallFault","Misused","number_of","look4","head_size","size_at","place_at","look6","new_meta","Packet","look","packet_of","family_of","base_of","part","address_at","target_of","WORD","MOST_SCALE","options_till","scale_of","may_sack","sack_edge","error_kinds","DYING","Talk","TalkBook","is_icmp","is_error","answer_kind","ports_at","tuple_at","tuple_of","inner_tuple","invert","side_of","drop_talk","look_up","SEEN_REPLY","ASSURED","INVALID","RELATED","UNTRACKED","UDP_SPAN","UDP_STREAM_SPAN","UDP_STREAM_FROM","ICMP_SPAN","PLAIN_SPAN","begin_any","go_udp","begin_icmp","go_icmp","go_plain","talk_of_error","is_error_packet","error_talk","error_or_near","udp_trackers","icmp_trackers","plain_trackers","does_fit","take_expect","sort_of","flags_are_right","next_state","tcp_span","before","after","Side","behind_packet","segment_of","end_of","note_options","open_side","answer_side","begin_side","take_up","is_within","move_sender","move_receiver","meet_sender","in_window","begin_tcp","is_refused","refresh_tcp","go_tcp","tcp_trackers","tracker_of","all_trackers","new_talks","sweep","evict","put_talk","found_talk","relate_talk","begin_talk","bring_on","track","confirm","Scene","_law_base","_law_digit","_law_four","_law_filled","_law_syn_options","_law_later_options","_law_packet","_law_fresh","_law_opened","_law_brought","_law_is_side","_law_segment","_law_is_so","_law_goes_on"]:List String).map Str.ofString
noncomputable def sZ(w:World)(os:OsState):Shared:=⟨CG w.params,#[],⟨0,0,0,0⟩,1472,os⟩
theorem Zk(w:World):(fencedOpening treeTable pw w 9920).map (λs=>(s.heap,s.gens,s.drawn,s.toks))=some (boot_heap w.params,Array.mk [],boot_drawn,boot_toks):=boot_open (by kernel_rfl) (by kernel_rfl) (λs=>by kernel_rfl) w
theorem Zj(w:World):((boot_heap w.params).isNs mainGlobals&&(#[]:Array GenState).size==0,(boot_heap w.params).objs.size,(boot_heap w.params).nsMap mainGlobals "__annotations__")=(true,11,an):=by kernel_rfl
theorem l1(w:World):staticsOk (importedModules pw.main.body) (boot_heap w.params) (CG w.params)=true:=by kernel_rfl
theorem l2(w:World):namesBound pw (CG w.params)=true:=by kernel_rfl
theorem l3(w:World)(os:OsState):gensDone (sZ w os)=true:=by kernel_rfl
theorem l4(w:World):laidKept (boot_heap w.params) (CG w.params)=true:=by kernel_rfl
theorem l5(w:World)(os:OsState):(seen ((recsOf qv).map (·.name)) (ownsOf qv) [] (sZ w os))=expectedOf qv:=by kernel_rfl
theorem l6(w:World)(os:OsState):(sZ w os).heap.bltView=bltViewBooted:=by kernel_rfl
theorem l7(w:World)(os:OsState):(sZ w os).heap.keysOk (looseW qv lz) ((recsOf qv).map (·.name)) ((litsOf qv).map (·.1)) ((clssOf qv (looseW qv lz)).map (·.name))=true:=by kernel_rfl
theorem l8(w:World)(os:OsState):(sZ w os).heap.accountedOkI (importedModules pw.main.body)=true:=by kernel_rfl
theorem l9(w:World)(os:OsState):((sZ w os).heap.isNs mainGlobals&&(sZ w os).heap.isNs builtinsNs&&tablesOk qv (sZ w os).heap)=true:=by kernel_rfl
theorem nV(w:World)(os:OsState):tabsOk qv (sZ w os)=true:=by kernel_rfl
theorem nU(w:World)(os:OsState):pinSeenD qv (drecsOf qv) (sZ w os)=pinGoodD (drecsOf qv):=by kernel_rfl
theorem nT(w:World)(os:OsState):plainSeenE qv (looseW qv lz) (sZ w os)=plainGoodE qv (looseW qv lz):=by kernel_rfl
theorem nR(w:World)(os:OsState):plainSeenD qv lz (sZ w os)=plainGoodD qv lz:=by kernel_rfl
theorem nQ(w:World)(os:OsState):wideSeen qv (sZ w os)=wideGood qv:=by kernel_rfl
theorem nP(w:World)(os:OsState):clsSeenW qv lz (sZ w os)=clsGoodW qv lz:=by kernel_rfl
theorem iW(P:Params):kA=(kK P).map (·.1):=by kernel_rfl
theorem RA{l:List Obj}:∀{p:Nat}{ks:List Nat}{x:Nat×Obj},x∈pick l p ks->∃n,x.1=p+n/\l[n]? =some x.2:=by
 induction l with
 |nil=>exact λh=>nomatch h
 |cons o l ih=>
  have up:∀{p ks}{x:Nat×Obj},x∈pick l (p+1) ks->∃n,x.1=p+n/\(o::l)[n]? =some x.2:=λh=>(ih h).elim λn w=>⟨n+1,w.1.trans (Nat.add_right_comm _ 1 n),w.2⟩;intro p ks x h;induction ks using cU with
  |nil=>exact nomatch h
  |cons k r=>
   have h:x∈cond (Nat.beq p k) ((k,o)::pick l (p+1) r) (pick l (p+1) (k::r)):=h;cases e:Nat.beq p k with
   |true=>rw[e] at h;exact(cS.mp h).elim (λq=>⟨0,by rw[q];exact(oW e).symm,by rw[q];rfl⟩) up
   |false=>rw[e] at h;exact up h
theorem nO(w:World):kA.map (CG w.params).get?=(kK w.params).map λp=>some p.2:=by
 have one:(kK w.params).map (λp=>(Heap.mk ⟨[p.2]⟩ lf).get? 0)=(kK w.params).map λp=>some p.2:=by kernel_rfl
 rw[iW w.params,qi];refine sx λp hp=>?_;obtain⟨n,e,h⟩:=RA hp;have h2:=qf.mp one p hp;show(CG w.params).get? p.1=some p.2;unfold Heap.get? at h2⊢;rw[e.trans (Nat.zero_add n),show(CG w.params).objs[n]? =some p.2 from List.getElem?_toArray.trans h];exact h2
noncomputable def dL:DefRec:=⟨"law",fA (st 126),fB (st 126),fS (st 126),⟨841,0,867,80⟩⟩
noncomputable abbrev hk:Hook:=kHook kK kA iW
theorem ZI(w:World):(λos=>((staticsOk (importedModules pw.main.body) (boot_heap w.params) (CG w.params)&&namesBound pw (CG w.params)&&gensDone (sZ w os)&&laidKept (boot_heap w.params) (CG w.params)),
  openSeen qv lz (importedModules pw.main.body) (λs=>recOk (PySem.Challenge.rw_pq1117_01.row.toRowW).records s) true (sZ w os),hk.obs (sZ w os)))=λ_=>(true,openGood qv lz,hk.val w):=by
 funext os;refine qN ?_ (qN ?_ (nO w))
 ·rw[l1 w,l2 w,l3 w os,l4 w];rfl
 ·refine qN (l5 w os) (qN (l6 w os) (qN ?_ (qN (nV w os) (qN (nU w os) (qN (nT w os) (qN (nR w os) (qN (nQ w os) (nP w os))))))));have a:=l9 w os;rw[oZ,oZ] at a;rw[l7 w os,l8 w os,a.1.1,a.1.2,a.2];rfl
theorem left:LeftO PySem.Challenge.rw_pq1117_01.row.toRowW.prog qv lz (λs=>recOk (PySem.Challenge.rw_pq1117_01.row.toRowW).records s) hk.obs hk.val 9920:=LeftO.of_pieces (p:=pw) (H₀:=boot_heap) (H₁:=CG) Zk Zj run (by decide+kernel) ZI
theorem Pa{a b:Bool}(h:a=true)(k:b=true):(a&&b)=true:=by rw[h,k];rfl
theorem fH{f:Str->Bool}{a b c:Str}(h1:f a=false)(h2:f b=false)(h3:f c=false):R.filterR f [a,b,c]=[]:=by simp[R.filterR,h1,h2,h3]
theorem YD:PySem.Challenge.rw_pq1117_01.wellSaid=true:=by
 rw[Fast.te9446332074065402090]
 iterate 34 refine Pa ?_ (by decide+kernel)
 refine Pa ?_ ((gC (λb=>Fast.tw8326940854005059898 {strict:=_,foot:=none,bare:=b} _) (fH (by decide+kernel) (by decide+kernel) (by decide+kernel))).trans (by decide+kernel))
 iterate 3 refine Pa ?_ (by decide+kernel)
 decide+kernel
section
open TablesWhole
theorem Rc{T S:Scope}{c:TablesWhole.Ctx}{a b:List Stmt}:wSs holds T c S (a++b)=(wSs holds T c S a&&wSs holds T c S b):=by
 induction a with
 |nil=>rfl
 |cons x a ih=>exact(gC (wS holds T c S x&&·) ih).trans (Bool.and_assoc ..).symm
theorem FT{T S:Scope}{c:TablesWhole.Ctx}(k:Nat){l:List Stmt}(h1:wSs holds T c S (l.take k)=true)(h2:wSs holds T c S (l.drop k)=true):wSs holds T c S l=true:=by rw[<-List.take_append_drop k l,Rc,h1,h2];rfl
theorem mF{p:Program}(h1:noTwice p.main.scope=true)(h2:wSs gather p.main.scope ⟨p.main.scope,[],[],[],none⟩ p.main.scope p.main.body=[])(h3:wSs holds p.main.scope ⟨p.main.scope,[],[],[],none⟩ p.main.scope p.main.body=true)(h4:holds.all [holds.all (p.modules.map λ(_,_,m)=>wModule holds m),holds.all (p.parses.map (wParse holds)),holds.all (p.harvested.map (wParse holds))]=true):p.tablesWhole=true:=by show((true&&(noTwice p.main.scope&&(wSs holds p.main.scope ⟨p.main.scope,[],wSs gather p.main.scope ⟨p.main.scope,[],[],[],none⟩ p.main.scope p.main.body,[],none⟩ p.main.scope p.main.body&&true)))&&holds.all _)=true;rw[h1,h2,h3,h4];rfl
theorem dE:PySem.Challenge.rw_pq1117_01.row.prog.tablesWhole=true:=by
 refine mF ?_ ?_ (FT 60 (FT 30 ?_ ?_) (FT 30 ?_ (FT 24 ?_ ?_))) ?_
 ·rw[Fast.te8331962902438777018];decide+kernel
 ·rw[Fast.te16421684217811934046];kernel_rfl
 iterate 5 rw[Fast.te16421684217811934046];decide+kernel
 kernel_rfl
end
theorem fq:defOf qv PySem.Challenge.rw_pq1117_01.row.name=some (dL,[]):=by kernel_rfl
theorem ff:PySem.Challenge.rw_pq1117_01.row.prog.theDef PySem.Challenge.rw_pq1117_01.row.name=some (dL.params,dL.body,dL.scope):=by kernel_rfl
theorem oh:kwWritten? dL.params.kwonlyargs dL.params.kw_defaults=some []:=by kernel_rfl
theorem fk:chainsOk qv=true:=by kernel_rfl
theorem fh:opensWell pw=true:=by kernel_rfl
theorem fg:frees PySem.Challenge.rw_pq1117_01.row.toRowW=true:=by kernel_rfl
theorem oe:(chainsOk qv&&opensWell PySem.Challenge.rw_pq1117_01.row.prog&&(frees PySem.Challenge.rw_pq1117_01.row.toRowW&&PySem.Challenge.rw_pq1117_01.row.within.isEmpty))=true:=by rw[fk,fg,show opensWell PySem.Challenge.rw_pq1117_01.row.prog=true from fh];rfl
theorem nZ:(!PySem.Challenge.rw_pq1117_01.row.writes||PySem.Challenge.rw_pq1117_01.row.records.isEmpty)=true:=by kernel_rfl
theorem ZK:PySem.Challenge.rw_pq1117_01.row.prog.bare:=⟨rfl,rfl,rfl,rfl,rfl,dE⟩
theorem ZJ:PySem.Challenge.rw_pq1117_01.row.toRowW.promised:=⟨[.list []],by decide+kernel,by decide+kernel⟩
theorem head(Un:WalkX qv lz (λ_ _=>True) hk.says PySem.Challenge.rw_pq1117_01.row.toRowW dL []):PySem.Challenge.rw_pq1117_01.Holds:=holds_law YD λUo=>RP left hk.of hk.keeps (λ_ _=>trivial) (λ_ _ _ x _=>x) fq ff oh (λs e=>recFacts_of e) nZ Uo oe ZK ZJ Un
structure AM(g:Gl):Prop where
 K:g.K=kK g.w.params
 mg:∀(x:Str)(v:Option Value),nsIn g.K mainGlobals x=some v->g.mg x=v
 mb:∀x:Str,(x==("__name__":Str))=false->g.mb x=bootBuiltins x
structure Op where
 F:Fn
 body:List Stmt
 na:Nat
 df:List Value
noncomputable def PW(K:Frag)(x:Str):Option Value:=(nsIn K mainGlobals x).elim none λo=>o.elim (bif x==("__name__":Str) then none else bootBuiltins x) some
noncomputable def Ta:Value->V
 |.int i _=>.int i
 |.str s _=>.str s
 |.bytes b _=>.bytes (b.toList.map λx=>(x.toNat:Int))
 |v=>.imm v
theorem KJ(ad:AH)(h:Heap)(x:Value):VR ad h (Ta x) x:=by induction x using qy<;>first|exact⟨_,rfl⟩|exact⟨_,_,rfl,rfl⟩|exact rfl
theorem AM.gv{g:Gl}(E:AM g){x:Str}{v:Value}(h:PW (kK g.w.params) x=some v):g.mg x=some v\/(g.mg x=none/\g.mb x=some v):=by
 unfold PW at h;rw[<-E.K] at h;induction e:nsIn g.K mainGlobals x using il with
 |none=>rw[e] at h;exact xO h
 |some o=>
  rw[e] at h;have k:=E.mg x o e;induction o using il with
  |some w=>exact .inl (k.trans h)
  |none=>
   induction e2:(x==("__name__":Str)) using jM with
   |true=>rw[Option.elim_some,Option.elim_none,e2] at h;exact xO h
   |false=>rw[Option.elim_some,Option.elim_none,e2] at h;exact .inr ⟨k,(E.mb x e2).trans h⟩
theorem AM.has{g:Gl}(E:AM g){x:Str}{v:V}(h:(PW (kK g.w.params) x).map Ta=some v):g.Has x v:=by obtain⟨w,e,rfl⟩:=pd.mp h;exact⟨w,KJ _ _ _,E.gv e⟩
noncomputable def iU(F:Fn):List (Option NameKind×Bool):=F.names.map λx=>(F.scope.names.lookup x,x==("__debug__":Str))
noncomputable def jh(K:Frag)(F:Fn):List (Option NameKind×Bool×Option V):=F.globs.map λx=>(F.scope.names.lookup x.1,x.1==("__debug__":Str),(PW K x.1).map Ta)
theorem Er{F:Fn}(h:iU F=F.names.map λ_=>(some .local,false)):∀x∈F.names,F.scope.names.lookup x=some .local/\(x==("__debug__":Str))=false:=λx hx=>bW (qf.mp h x hx)
theorem Et{g:Gl}(E:AM g){F:Fn}(h:jh (kK g.w.params) F=F.globs.map λx=>(some .globalImplicit,false,some x.2)):
  ∀x∈F.globs,F.scope.names.lookup x.1=some .globalImplicit/\(x.1==("__debug__":Str))=false/\g.Has x.1 x.2:=λx hx=>
 have a:=bW (qf.mp h x hx);have b:=bW a.2
 ⟨a.1,b.1,E.has b.2⟩
noncomputable def W6:Op:=⟨⟨"number_of",fS (st 4),53,.ref 52,[],["octets","number","octet"],[],none,[]⟩,fB (st 4),1,[]⟩
noncomputable def rW(q:Str)(s:Stmt)(a:Nat)(ns:List Str)(gl:List (Str×V))(n:Nat)(df:List Value):Op:=⟨⟨q,fS s,a,.ref (a-1),[],ns,gl,none,[]⟩,fB s,n,df⟩
noncomputable def gB(x:String):Str×V:=(Str.ofString x,.imm (.builtin x))
noncomputable def gT(x:String):Str×V:=(Str.ofString x,.imm (.type x))
noncomputable def gF(x:String)(a:Nat):Str×V:=(Str.ofString x,.imm (.ref a))
noncomputable def rows:List Op:=[
 rW "look4" (st 6) 60 ["data","off","word"] [gF "number_of" 53,gB "len"] 1 [],
 rW "new_meta" (st 13) 95 ["out","name"] [] 0 [],
 rW "Packet.__init__" (PP (st 14) 0) 109 ["self","data","kind","link"] [gT "bytearray",gF "new_meta" 95] 4 [],
 rW "look" (st 15) 123 ["packet","found"] [gF "look4" 60,gF "look6" 88,gB "len"] 1 [],
 rW "packet_of" (st 16) 131 ["octets","kind","link","packet"] [gF "Packet" 112,gF "look" 123] 1 [.int 2048 353,.bytes #[] 354],
 rW "family_of" (st 17) 138 ["packet"] [] 1 [],
 rW "options_till" (st 25) 173 ["octets","rows","at","many"] [gB "len",gT "bytes"] 1 [],
 rW "scale_of" (st 26) 180 ["octets","scale","kind","data"] [gF "options_till" 173,gB "min",("MOST_SCALE",.int 14),gB "len"] 1 [],
 rW "may_sack" (st 27) 187 ["octets"] [gF "options_till" 173] 1 [],
 rW "sack_edge" (st 28) 194 ["octets","ack","most","kind","data","at","far"] [("WORD",.int 4294967295),gF "options_till" 173,gT "range",gB "len",gF "number_of" 53] 2 [],
 rW "Talk.__init__" (PP (st 32) 0) 215 ["self","number","original","reply","zone"] [] 5 [],
 rW "TalkBook.__init__" (PP (st 33) 0) 237 ["self","most","seed","tries"] [] 3 [.int 128 522],
 rW "is_icmp" (st 34) 251 ["nfproto","protocol"] [] 2 [],
 rW "ports_at" (st 37) 272 ["octets","nfproto","protocol","off","kind","ident"] [gF "is_icmp" 251,gB "len",gF "answer_kind" 265,gF "number_of" 53] 4 [],
 rW "tuple_at" (st 38) 279 ["octets","nfproto","protocol","off","ports","at","size","source","target"] [gF "ports_at" 272,gF "number_of" 53] 4 [],
 rW "tuple_of" (st 39) 286 ["packet","nfproto"] [gF "family_of" 138,gF "tuple_at" 279] 1 [],
 rW "invert" (st 41) 300 ["t","nfproto","protocol","source","sport","target","dport","answer"] [gF "answer_kind" 265,gF "is_icmp" 251] 1 [],
 rW "look_up" (st 44) 319 ["book","zone","t","now","hit","talk"] [gF "drop_talk" 312] 4 [],
 rW "udp_trackers" (st 65) 389 [] [gF "begin_any" 326,gF "go_udp" 333] 0 [],
 rW "icmp_trackers" (st 66) 396 [] [gF "begin_icmp" 340,gF "go_icmp" 347,gF "error_talk" 375,gF "error_or_near" 382] 0 [],
 rW "plain_trackers" (st 67) 403 [] [gF "begin_any" 326,gF "go_plain" 354] 0 [],
 rW "take_expect" (st 69) 417 ["book","zone","t","now","place","expect"] [gT "range",gB "len",gF "does_fit" 410] 4 [],
 rW "sort_of" (st 71) 424 ["flags"] [] 1 [],
 rW "flags_are_right" (st 72) 431 ["flags"] [] 1 [],
 rW "next_state" (st 73) 438 ["direction","sort","state","rows"] [] 3 [],
 rW "tcp_span" (st 74) 445 ["state"] [] 1 [],
 rW "before" (st 75) 452 ["a","b"] [] 2 [],
 rW "after" (st 76) 459 ["a","b"] [] 2 [],
 rW "Side.__init__" (PP (st 77) 0) 473 ["self"] [] 1 [],
 rW "behind_packet" (st 78) 487 ["packet","total"] [gB "len",gF "number_of" 53] 1 [],
 rW "segment_of" (st 79) 494 ["packet","octets","begin","seq","ack"] [gT "bytes",gF "number_of" 53,gB "len",gF "behind_packet" 487] 1 [],
 rW "end_of" (st 80) 501 ["segment"] [] 1 [],
 rW "note_options" (st 81) 508 ["side","options","scale"] [gF "scale_of" 180,gB "max",gF "may_sack" 187] 2 [],
 rW "open_side" (st 82) 515 ["side","segment","end"] [gB "max",gF "note_options" 508] 3 [],
 rW "answer_side" (st 83) 522 ["sender","receiver","segment","end"] [gF "open_side" 515] 4 [],
 rW "begin_side" (st 84) 529 ["sides","direction","segment","end"] [gF "answer_side" 522,gF "open_side" 515] 4 [],
 rW "is_within" (st 86) 543 ["sender","receiver","seq","end","sack"] [gF "before" 452,gF "after" 459,gB "max"] 5 [],
 rW "move_sender" (st 87) 550 ["sender","is_acked","end","ack","reach"] [gB "max",gF "after" 459] 5 [],
 rW "move_receiver" (st 88) 557 ["sender","receiver","end","ack","edge","window"] [gF "after" 459] 6 [],
 rW "meet_sender" (st 89) 564 ["sides","direction","state","segment","sack","sender","receiver","end","is_syn"] [gF "end_of" 501,gF "take_up" 536,gF "begin_side" 529,gF "after" 459] 5 [],
 rW "in_window" (st 90) 571 ["sides","direction","state","segment","sender","receiver","seq","ack","flags","sack","end","window"] [gF "meet_sender" 564,gF "end_of" 501,gF "move_sender" 550,gF "move_receiver" 557,gF "sack_edge" 194,gF "is_within" 543] 4 [],
 rW "begin_tcp" (st 91) 578 ["book","talk","packet","now","segment","state","sides","side"] [gF "segment_of" 494,gF "next_state" 438,gF "sort_of" 424,gF "Side" 476,gF "open_side" 515,gF "flags_are_right" 431,gF "end_of" 501,gF "take_up" 536] 4 [],
 rW "is_refused" (st 92) 585 ["talk","segment","direction","receiver"] [gF "before" 452,gF "in_window" 571] 3 [],
 rW "refresh_tcp" (st 93) 592 ["talk","now","span","is_unanswered"] [gF "tcp_span" 445,gB "min"] 2 [],
 rW "go_tcp" (st 94) 599 ["book","talk","packet","direction","now","segment","old","state","is_over"] [gF "segment_of" 494,gF "next_state" 438,gF "is_refused" 585,gF "refresh_tcp" 592,gF "sort_of" 424,gF "flags_are_right" 431,gF "drop_talk" 312] 5 [],
 rW "tcp_trackers" (st 95) 606 [] [gF "begin_tcp" 578,gF "go_tcp" 599] 0 [],
 rW "tracker_of" (st 97) 613 ["book","protocol"] [gF "Misused" 44] 2 [],
 rW "all_trackers" (st 98) 620 ["trackers","group","protocol"] [gF "udp_trackers" 389,gF "icmp_trackers" 396,gF "tcp_trackers" 606,gF "plain_trackers" 403] 0 [],
 rW "new_talks" (st 99) 628 ["most","seed","book"] [gF "TalkBook" 240,gF "all_trackers" 620] 1 [.int 0 1125],
 rW "put_talk" (st 102) 649 ["scene","talk","state","is_reply"] [] 4 [],
 rW "found_talk" (st 103) 656 ["scene","zone","t","hit","talk","direction"] [gF "look_up" 319,gF "put_talk" 649] 3 [],
 rW "relate_talk" (st 104) 663 ["scene","talk","zone","expect"] [gF "take_expect" 417] 3 [],
 rW "begin_talk" (st 105) 670 ["scene","tracker","zone","t","book","reply","talk"] [gF "put_talk" 649,gF "invert" 300,gF "Talk" 218,gB "len",gF "evict" 642,gF "relate_talk" 663] 4 [],
 rW "bring_on" (st 106) 677 ["scene","tracker","zone","t","book","answer","verdict"] [gF "put_talk" 649,gF "found_talk" 656,gF "begin_talk" 670,gF "drop_talk" 312] 4 [],
 rW "track" (st 107) 685 ["scene","zone","t","tracker"] [gF "tuple_of" 286,gF "tracker_of" 613,gF "bring_on" 677,gF "put_talk" 649] 1 [.int 0 1212],
 rW "confirm" (st 108) 692 ["scene","book","talk","t"] [gF "look_up" 319] 1 [],
 rW "Scene.__init__" (PP (st 110) 0) 707 ["self","packet","fields","now","hook"] [] 4 [.str "input" 1248],
 rW "_law_digit" (st 113) 722 ["bag","many","found_now"] [] 2 [],
 rW "_law_four" (st 114) 729 ["number"] [] 1 [],
 rW "_law_filled" (st 115) 736 ["octets","filler"] [gB "len"] 2 [],
 rW "_law_syn_options" (st 116) 743 ["bag","octets","scale","may","is_whole","turn","which","more","rows"] [gT "range",gF "_law_digit" 722,gF "_law_filled" 736,gB "min"] 1 [],
 rW "_law_packet" (st 118) 755 ["way","numbers","flags","window","options","length","hosts","ports","whole","octets"] [gF "packet_of" 131,gF "_law_four" 729,gT "bytes",gB "len"] 6 [],
 rW "_law_fresh" (st 119) 762 ["side"] [] 0 [],
 rW "_law_opened" (st 120) 769 ["both","way","end","window","scale","may","mine"] [gB "max"] 6 [],
 rW "_law_brought" (st 121) 776 ["both","way","numbers","length","window","rights","mine","other","seq","ack","far"] [gB "max"] 6 [],
 rW "_law_is_side" (st 122) 783 ["side","due","numbers","marks"] [] 2 [],
 rW "_law_segment" (st 123) 790 ["k","bags","both","bases","number_bag","option_bag","way","spot","back","answer","kind","window","length","flags","step","options","scale","may","ack","packet","mine","other","seq","rights"] [gF "_law_later_options" 748,gF "_law_packet" 755,gF "_law_digit" 722,gF "_law_syn_options" 743,gF "_law_opened" 769,gF "_law_brought" 776] 4 [],
 rW "_law_is_so" (st 124) 797 ["talk","both","due"] [gF "_law_is_side" 783] 3 [],
 rW "_law_goes_on" (st 125) 804 ["k","way","now","both","due","old","span"] [gB "min"] 5 []]
noncomputable def dU:Op->List Op->Nat->Op
 |z,[],_=>z
 |z,_::_,0=>z
 |_,r::l,n+1=>dU r l n
theorem Vf(l:List Op):∀(z:Op)(i:Nat),dU z l i∈z::l:=by
 induction l with
 |nil=>exact λ_ _=>.head _
 |cons x l ih=>
  intro z i;induction i using qt with
  |zero=>exact .head _
  |succ i=>exact .tail _ (ih x i)
noncomputable def ro(i:Nat):Op:=dU W6 rows i
noncomputable def fn(i:Nat):Fn:=(ro i).F
theorem YN{β:Type _}{f h:Op->β}(e:(W6::rows).map f=(W6::rows).map h)(i:Nat):f (ro i)=h (ro i):=qf.mp e _ (Vf rows W6 i)
noncomputable def bS:Obj->FuncData
 |⟨_,_,.func fd,_⟩=>fd
 |_=>default
noncomputable def Qc(P:Params)(a:Addr):FuncData:=((kK P).lookup a).elim default bS
noncomputable def lst(v:Nat->Value)(n:Nat):List Value:=(List.range n).map v
structure Oc where
 kind:ScopeKind
 loc:List (Option NameKind×Bool)
 nd:Bool
 gl:List (Option NameKind×Bool×Option V)
 at':Option Obj
 fd:Scope×Addr×List (Str×Addr)×Str×Value×Addr×FuncBody
 ce:List (Str×Addr)×List (Str×Nat)×Option (Str×Addr)
 code:Bool×Bool×Bool×Bool
 bind:Setting->(Nat->Value)->Option (List (Str×Value))
noncomputable def eU(P:Params)(r:Op):Oc:=⟨r.F.scope.kind,iU r.F,decide r.F.names.Nodup,jh (kK P) r.F,(kK P).lookup r.F.fa,
 ((Qc P r.F.fa).scope,(Qc P r.F.fa).globals,(Qc P r.F.fa).closure,(Qc P r.F.fa).qualname,(Qc P r.F.fa).code,(Qc P r.F.fa).builtins,(Qc P r.F.fa).body),
 (r.F.cells,r.F.cix,r.F.inner),(codeIn (kK P) r.F.cd r.F.qual,r.F.scope.names.all λx=>x.2 != .cell,r.F.scope.isCoroutine,r.F.scope.isGenerator),
 λS v=>peek (kK P) S (bindArgs (Qc P r.F.fa) ⟨lst v r.na,[]⟩)⟩
noncomputable def dT(P:Params)(r:Op):Oc:=⟨.function,r.F.names.map λ_=>(some .local,false),true,r.F.globs.map λx=>(some .globalImplicit,false,some x.2),some ⟨.type "function",none,.func (Qc P r.F.fa),#[]⟩,
 (r.F.scope,mainGlobals,[],r.F.qual,r.F.cd,builtinsNs,.stmts r.body),([],[],none),(true,true,false,false),
 λS v=>some ((r.F.names.take (r.na+r.df.length)).zip (lst v r.na++r.df))⟩
theorem Ve(P:Params):(W6::rows).map (eU P)=(W6::rows).map (dT P):=by kernel_rfl
theorem VL{l:List Value}{n:Nat}(h:l.length=n):lst (λi=>l.getD i .none) n=l:=by subst h;unfold lst;refine List.ext_getElem (by simp) λi h1 h2=>?_;simp at h1⊢;simp[h1]
section
variable{g:Gl}(E:AM g){d:Nat}{os:List O}{K:List O->V->Prop}(i:Nat)
include E
theorem Rw:eU g.w.params (ro i)=dT g.w.params (ro i):=YN (Ve g.w.params) i
theorem ZX:BV g (fn i):=
 have e:=Rw E i
 ⟨gC Oc.kind e,Er (gC Oc.loc e),dv (gC Oc.nd e),Et E (gC Oc.gl e)⟩
theorem fE:FnAt g (fn i) (Qc g.w.params (fn i).fa):=
 have e:=Rw E i;have a:=bW (gC Oc.fd e);have b:=bW a.2;have c:=bW b.2;have d:=bW c.2;have f:=bW d.2;have h:=bW f.2;have p:=bW (gC Oc.ce e);have q:=bW p.2;have r:=bW (gC Oc.code e);have s:=bW r.2;have t:=bW s.2
 ⟨⟨_,_,_,by rw[E.K];exact gC Oc.at' e⟩,a.1,b.1,c.1,d.1,f.1,h.1,p.1,q.1,q.2,by rw[E.K];exact r.1,s.1,⟨t.1,t.2⟩⟩
noncomputable def Gk(i:Nat)(args:List V):List (Option V):=(args++(ro i).df.map Ta).map some++((fn i).names.drop ((ro i).na+(ro i).df.length)).map λ_=>none
theorem ZW{args:List V}(hl:args.length=(ro i).na)(hp:Nat.ble ((ro i).na+(ro i).df.length) (fn i).names.length=true)(h:Ex g (fn i) d (ro i).body (Gk i args) os (λ_ os=>K os .none) K):DY g (d+1) (fn i).fa args os K:=by
 have e:=Rw E i;have hb:(Qc g.w.params (fn i).fa).body=.stmts (ro i).body:=(bW (bW (bW (bW (bW (bW (gC Oc.fd e)).2).2).2).2).2).2;have hw:∀{ad:AH}{h:Heap}{l:List Value}{a:List V}{v:List Value},Aj ad h a v->Aj ad h (a++l.map Ta) (v++l):=λ{ad h l a v}r=>by
  induction a generalizing v with
  |nil=>
   simp only[Aj] at r;subst r;show Aj ad h (l.map Ta) l;induction l with
   |nil=>simp only[pC,Aj]
   |cons x l ih=>simp only[ik,Aj];exact⟨x,l,rfl,KJ _ _ _,ih⟩
  |cons x a ih=>simp only[Aj] at r;obtain⟨y,v,rfl,p,q⟩:=r;show Aj ad h (x::(a++_)) (y::(v++l));simp only[Aj];exact⟨y,_,rfl,p,ih q⟩
 refine Qk (ZX E i) (fE E i) hb (List.take_append_drop ((ro i).na+(ro i).df.length) _).symm (vs:=args++(ro i).df.map Ta) ?_ (λs ad Ab old r=>⟨Ab++(ro i).df,hw r,?_⟩) h
 ·rw[qE,cW,gI,hl];exact Nat.min_eq_left (oX hp)
 ·have k:=(gC Oc.bind e);have hv:Ab.length=(ro i).na:=r.length.symm.trans hl;refine kp_binds (g.X.keeps old) λS=>?_;have k2:=pE (pE k S) λi=>Ab.getD i .none;show peek g.K S _=_;rw[E.K];have k3:lst (λi=>Ab.getD i .none) (ro i).na=Ab:=VL hv;simp only[eU,dT,k3] at k2;exact k2
theorem V7{args:List V}(h:DY g d (fn i).fa args os K):Az g d (.imm (.ref (fn i).fa)) args os K:=Az.ofCode ⟨_,_,_,_,by rw[E.K];exact gC Oc.at' (Rw E i)⟩ h
end
noncomputable abbrev Fz:List Nat:=[476,218,710,240,112]
structure WN where
 cd:Option Bool
 ga:Option (Option Value)
 sa:Option (Option Value)
 pl:Bool
 nm:List (Option (Option Value))
noncomputable def aF(P:Params)(C:Nat):WN:=⟨(clsIn (kK P) C).map (·.hasDict),findIn (kK P) (.ref C) "__getattribute__",findIn (kK P) (.ref C) "__setattr__",plainOver (kK P) C,Bd.map (findIn (kK P) (.ref C))⟩
noncomputable def gh(_:Nat):WN:=⟨some true,some (some (.builtin "object.__getattribute__")),some (some (.builtin "object.__setattr__")),true,Bd.map λ_=>some none⟩
theorem aE(P:Params):Fz.map (aF P)=Fz.map gh:=by kernel_rfl
theorem EV{g:Gl}(E:AM g):∀C∈Fz,CK g C:=λC h=>by have e:=qf.mp (aE g.w.params) C h;rw[show aF g.w.params C=⟨(clsIn g.K C).map (·.hasDict),findIn g.K (.ref C) "__getattribute__",findIn g.K (.ref C) "__setattr__",plainOver g.K C,Bd.map (findIn g.K (.ref C))⟩ from by rw[E.K];rfl] at e;obtain⟨cd,a,b⟩:=pd.mp (gC WN.cd e);exact⟨⟨cd,a,b⟩,gC WN.ga e,gC WN.sa e,gC WN.pl e,qf.mp (gC WN.nm e)⟩
structure aW where
 a:Bool
 b:Option (Option Value)
 c:Option Value
noncomputable def eO(P:Params)(x:Nat×Nat):aW:=⟨makesIn (kK P) x.1,findIn (kK P) (.ref x.1) "__init__",typeIn (kK P) (.ref x.2)⟩
noncomputable def eJ(x:Nat×Nat):aW:=⟨true,some (some (.ref x.2)),some (.type "function")⟩
noncomputable abbrev bO:List (Nat×Nat):=[(112,109),(218,215),(240,237),(476,473),(710,707)]
theorem eQ(P:Params):bO.map (eO P)=bO.map eJ:=by kernel_rfl
theorem eR{g:Gl}(E:AM g){d:Nat}{os:List O}{K:List O->V->Prop}{C fI:Nat}(hm:(C,fI)∈bO){args:List V}(h:DY g d fI (.ref os.length::args) (os++[.inst C []]) λAe v=>v=.none/\K Ae (.ref os.length)):Az g (d+1) (.imm (.ref C)) args os K:=
 have e:=qf.mp (eQ g.w.params) (C,fI) hm
 Wx (by rw[E.K];exact gC aW.a e) (by rw[E.K];exact gC aW.b e) (by rw[E.K];exact gC aW.c e) h
theorem H7{g:Gl}(E:AM g):g.Has "_law_base" (.tup [.int 24159192960,.int 19744003,.int 16109586560,.int 63151024,.int 1920,.int 0,.int 13086230400,.int 0,.int 98917051520,.int 16,.int 2691441,.int 48062,.int 251658247,.int 0,.int 3019899553,.int 14]):=by
 have e:(PW (kK g.w.params) "_law_base",(kK g.w.params).lookup 715)=(some (.ref 715),some (Y9 g.w.params)):=by kernel_rfl
 have e1:=bW e;refine⟨_,?_,E.gv e1.1⟩;show VR _ _ (.tup _) _;simp only[VR];exact⟨715,[.int 24159192960 1289,.int 19744003 1290,.int 16109586560 1291,.int 63151024 1292,.int 1920 1293,.int 0 1294,.int 13086230400 1295,.int 0 1296,.int 98917051520 1297,.int 16 1298,.int 2691441 1299,.int 48062 1300,.int 251658247 1301,.int 0 1302,.int 3019899553 1303,.int 14 1304],rfl,⟨_,g.X _ _ (by rw[E.K];exact e1.2),rfl,_,rfl⟩,(hvr [.int 24159192960 1289,.int 19744003 1290,.int 16109586560 1291,.int 63151024 1292,.int 1920 1293,.int 0 1294,.int 13086230400 1295,.int 0 1296,.int 98917051520 1297,.int 16 1298,.int 2691441 1299,.int 48062 1300,.int 251658247 1301,.int 0 1302,.int 3019899553 1303,.int 14 1304])⟩
where hvr {ad:AH} {h:Heap}:∀l:List Value,Aj ad h (l.map Ta) l
 |[]=>by simp only[pC,Aj]
 |x::l=>by simp only[ik,Aj];exact⟨x,l,rfl,KJ _ _ _,hvr l⟩
abbrev AW:=List (Nat×O)
inductive Cw(i:Nat)(o:O):AW->Prop
 |head {H}:Cw i o ((i,o)::H)
 |tail {x H}:Cw i o H->Cw i o (x::H)
inductive B4(i:Nat)(o:O):AW->AW->Prop
 |head {u H}:B4 i o ((i,u)::H) ((i,o)::H)
 |tail {x H H'}:B4 i o H H'->B4 i o (x::H) (x::H')
noncomputable def AllLt:AW->Nat->Prop
 |[],_=>True
 |x::r,n=>x.1<n/\AllLt r n
structure Ch(U:List Nat)(os0 os:List O):Prop where
 len:os0.length<=os.length
 ch:∀j o,os0[j]? =some o->j∉U->os[j]? =some o
structure St(os0:List O)(U:List Nat)(H:AW)(os:List O):Prop extends Ch U os0 os where
 at_:∀x∈H,os[x.1]? =some x.2
 nd:(H.map (·.1)).Nodup
theorem Cw.mem(h:Cw i o H):(i,o)∈H:=by
 induction h with
 |head=>exact .head _
 |tail _ ih=>exact .tail _ ih
theorem B4.mem{H:AW}(h:B4 i o H H'):i∈H.map (·.1):=by
 induction h with
 |head=>exact .head _
 |tail _ ih=>exact .tail _ ih
theorem B4.keys{H H':AW}(h:B4 i o H H'):H'.map (·.1)=H.map (·.1):=by
 induction h with
 |head=>rfl
 |tail _ ih=>rw[ik,ik,ih]
theorem B4.back{H:AW}(h:B4 i o H H')(nd:(H.map (·.1)).Nodup):∀x∈H',x=(i,o)\/(x∈H/\x.1≠i):=by
 induction h with
 | @head u H=>
  intro x hx;rcases cS.mp hx with rfl|hx
  ·exact .inl rfl
  ·exact .inr ⟨.tail _ hx,λe=>(jH.mp nd).1 (by show i∈_;rw[<-e];exact mj (f:=(·.1)) hx)⟩
 | @tail y H H' h ih=>
  intro x hx;rcases cS.mp hx with rfl|hx
  ·exact .inr ⟨.head _,λe=>(jH.mp nd).1 (by show Prod.fst _∈_;rw[e];exact h.mem)⟩
  ·exact(ih (jH.mp nd).2 x hx).imp id λq=>⟨.tail _ q.1,q.2⟩
theorem Ch.refl(os:List O):Ch U os os:=⟨oU _,λ_ _ e _=>e⟩
theorem BQ{os:List O}(e:os[i]? =some o):i<os.length:=(im.mp e).1
section
variable{os0 os Ae:List O}{U V:List Nat}{H H':AW}{i:Nat}{o:O}
theorem St.start1(h:os[i]? =some o):St os U [(i,o)] os:=⟨Ch.refl _,λx hx=>by rw[jV.mp hx];exact h,by simp⟩
theorem St.get(I:St os0 U H os)(h:Cw i o H):os[i]? =some o:=I.at_ _ h.mem
theorem St.lt(I:St os0 U H os)(h:Cw i o H):i<os.length:=BQ (I.get h)
theorem St.allLt(I:St os0 U H os):AllLt H os.length:=by
 have:=I.at_;clear I;induction H with
 |nil=>trivial
 |cons x r ih=>exact⟨BQ (this x (.head _)),ih λy hy=>this y (.tail _ hy)⟩
theorem St.fresh(I:St os0 U H os)(h:os.length<=n):n∉H.map (·.1):=λq=>by obtain⟨x,hx,e⟩:=pe.mp q;have:=BQ (I.at_ x hx);exact L3 [_,_,_] [] 0x108821110c2100083e0 h e this
theorem St.push(I:St os0 U H os):St os0 U ((os.length,o)::H) (os++[o]) where
 len:=by have:=I.len;simp;exact L1 [_,_] [] 0x8004108721d00041 this
 ch:=λj o' e n=>by have:=I.ch j o' e n;rw[pn (BQ this)];exact this
 at_:=λx hx=>by
  rcases cS.mp hx with rfl|hx
  ·show(os++[o])[os.length]? =some o;simp
  ·have:=I.at_ x hx;rw[pn (BQ this)];exact this
 nd:=jH.mpr ⟨I.fresh (oU _),I.nd⟩
theorem St.alloc{P:List O->Nat->Prop}(I:St os0 U H os)(h:∀n Ae,os0.length<=n->AllLt H n->St os0 U ((n,o)::H) Ae->P Ae n):P (os++[o]) os.length:=h _ _ I.len I.allLt I.push
theorem St.set(I:St os0 U H os)(p:B4 i o H H')(hu:i∈U\/os0.length<=i):St os0 U H' (os.set i o) where
 len:=by rw[List.length_set];exact I.len
 ch:=λj o' e n=>by
  have hj:=I.ch j o' e n;have:i≠j:=λq=>by
   subst q;rcases hu with hu|hu
   ·exact n hu
   ·exact absurd (BQ e) (L1 [_,_] [] 0x4041081041 hu)
  rw[qs this];exact hj
 at_:=λx hx=>by
  rcases p.back I.nd x hx with rfl|⟨hx,hn⟩
  ·obtain⟨y,hy,e⟩:=pe.mp p.mem;have:=BQ (I.at_ y hy);rw[e] at this;show(os.set i o)[i]? =some o;rw[qL this]
  ·rw[qs (λq=>hn q.symm)];exact I.at_ x hx
 nd:=by rw[p.keys];exact I.nd
structure QW(os0:List O)(U W:List Nat)(m:Nat)(H:AW)(os:List O):Prop extends Ch U os0 os where
 at_:∀x∈H,x.1∉W->os[x.1]? =some x.2
 nd:(H.map (·.1)).Nodup
 lt:∀x∈H,x.1<m
noncomputable def QY(U:List Nat)(os0:List O):List Nat->Prop
 |[]=>True
 |i::r=>(i∈U\/os0.length<=i)/\QY U os0 r
theorem QY.at{os0:List O}:∀{V:List Nat},QY U os0 V->∀i∈V,i∈U\/os0.length<=i
 |[],_,_,h=>nomatch h
 |_::_,⟨a,b⟩,i,h=>by
  rcases cS.mp h with rfl|h
  ·exact a
  ·exact QY.at b i h
theorem St.then(I:St os0 U H os)(c:Ch V os Ae)(hv:QY U os0 V):QW os0 U V os.length H Ae where
 len:=mi I.len c.len
 ch:=λj o e n=>c.ch j o (I.ch j o e n) λq=>by
  rcases hv.at j q with h|h
  ·exact n h
  ·exact absurd (BQ e) (L1 [_,_] [] 0x4041081041 h)
 at_:=λx hx n=>c.ch _ _ (I.at_ x hx) n
 nd:=I.nd
 lt:=λx hx=>BQ (I.at_ x hx)
theorem QW.put{W:List Nat}{m:Nat}(I:QW os0 U (i::W) m H os)(e:os[i]? =some o)(p:B4 i o H H'):QW os0 U W m H' os where
 toCh:=I.toCh
 at_:=λx hx n=>by
  rcases p.back I.nd x hx with rfl|⟨hx,hn⟩
  ·exact e
  ·exact I.at_ x hx λq=>(cS.mp q).elim hn n
 nd:=by rw[p.keys];exact I.nd
 lt:=λx hx=>by
  have:x.1∈H.map (·.1):=by rw[<-p.keys];exact mj (f:=(·.1)) hx
  obtain⟨y,hy,e⟩:=pe.mp this;rw[<-e];exact I.lt y hy
theorem QW.done(I:QW os0 U [] m H os):St os0 U H os:=⟨I.toCh,λx hx=>I.at_ x hx (λq=>nomatch q),I.nd⟩
theorem St.sub(I:St os0 U H os)(h:List.Sublist H' H):St os0 U H' os:=⟨I.toCh,λx hx=>I.at_ x (h.subset hx),I.nd.sublist (h.map _)⟩
theorem Ch.mono(a:Ch V AE BM)(h:∀x∈V,x∈U):Ch U AE BM:=⟨a.len,λj o e n=>a.ch j o e λq=>n (h j q)⟩
theorem St.restart(I:St os0 U H os):St os V H os:=⟨Ch.refl _,I.at_,I.nd⟩
end
section
variable{g:Gl}{F:Fn}{d:Nat}{os os0:List O}{U:List Nat}{H H':AW}{loc:List (Option V)}{K:List O->V->Prop}{KS:List O->Prop}{KT:List O->Bool->Prop}{KL:List O->List V->Prop}{p:Pos}{e l r:Expr}{x:Str}{v:V}{i:Nat}
abbrev Kn(os0:List O)(U:List Nat)(H:AW)(o:O)(P:List O->V->Prop):Prop:=∀n Ae,os0.length<=n->AllLt H n->St os0 U ((n,o)::H) Ae->P Ae (.ref n)
theorem Kn.go{P:List O->V->Prop}(I:St os0 U H os)(h:Kn os0 U H o P):P (os++[o]) (.ref os.length):=St.alloc (P:=λos n=>P os (.ref n)) I h
theorem VN{vs:List V}(I:St os0 U H os)(hk:Kn os0 U H (.list vs) K)(Ac:vs.length<=100000):Aw g d newList vs os K:=Ps Ac (hk.go I)
theorem JE{a b:List V}(I:St os0 U H os)(h1:Cw i (.list a) H)(h2:Cw j (.list b) H)(Ac:a.length+b.length<=1000000)(hk:Kn os0 U H (.list (a++b)) K):Aw g d (Cv .Add) [.ref i,.ref j] os K:=Js (I.get h1) (I.get h2) Ac (hk.go I)
theorem JD{n:Int}(I:St os0 U H os)(h1:Cw i (.list [v]) H)(h0:0<=n)(hn:n<=1000000)(hk:Kn os0 U H (.list (List.replicate n.toNat v)) K):Aw g d (Cv .Mult) [.ref i,.int n] os K:=Jo (I.get h1) h0 hn (hk.go I)
theorem HX{value:Expr}{lo hi:Option Expr}{sp:Pos}{l:List Int}{a b:V}{x y:Option Int}(I:St os0 U H os)(ho:Cw i (.barr l) H)(ha:BD a x)(hb:BD b y)(Ac:l.length<=1000000)(hk:Kn os0 U H (.barr (cut l x y)) K):
  QZ g d (O8 g.M value (.Slice lo hi none sp)) [.ref i,a,b] os K:=HT (I.get ho) ha hb Ac (hk.go I)
theorem RJ(I:St os0 U H os)(ho:It o)(hk:Kn os0 U H o K):AG g F d (.Dict [] [] p) loc os K:=Si ho (hk.go I)
theorem HZ{l:List Int}(I:St os0 U H os)(Ac:l.length<=1000000)(hk:Kn os0 U H (.barr l) K):Az g d (.imm (.type "bytearray")) [.bytes l] os K:=Io Ac (hk.go I)
theorem HY{ks:List (Int×V)}(I:St os0 U H os)(ho:Cw i (.idict ks) H)(Ac:ks.length<=1000000)(hk:Kn os0 U H (.list (ks.map λq=>.int q.1)) K):Az g d (.imm (.type "list")) [.ref i] os K:=Ih (I.get ho) Ac (hk.go I)
theorem PM{a:List V}(I:St os0 U H os)(h1:Cw i (.list a) H)(Ac:a.length<=1000000)(hp:B4 i (.list (a++[v])) H H')(hu:i∈U\/os0.length<=i)(hk:∀Ae,St os0 U H' Ae->K Ae .none):Aw g d (λws=>call (.builtin "list.append") ws) [.ref i,v] os K:=Jr (I.get h1) Ac (hk _ (I.set hp hu))
theorem NK{fs:List (Str×V)}(hc:CK g C)(I:St os0 U H os)(hi:Cw i (.inst C fs) H)(hf:UpdF x v fs GO)(Ac:fs.length<=100)(hp:B4 i (.inst C GO) H H')(hu:i∈U\/os0.length<=i)(hk:∀Ae,St os0 U H' Ae->KS Ae):He g d (KW x) [.ref i,v] os KS:=Hp hc (I.get hi) (.inl hf) Ac (hk _ (I.set hp hu))
theorem NL{fs:List (Str×V)}(hc:CK g C)(I:St os0 U H os)(hi:Cw i (.inst C fs) H)(hn:x∉fs.map (·.1))(hx:x∈Bd)(Ac:fs.length<=100)(hp:B4 i (.inst C (fs++[(x,v)])) H H')(hu:i∈U\/os0.length<=i)(hk:∀Ae,St os0 U H' Ae->KS Ae):He g d (KW x) [.ref i,v] os KS:=Hp hc (I.get hi) (.inr ⟨rfl,hn,hx⟩) Ac (hk _ (I.set hp hu))
theorem Jz{ks:List (Str×V)}(I:St os0 U H os)(ho:Cw i (.sdict ks) H)(hx:QC x v ks Di)(Ac:ks.length<=100000)(hp:B4 i (.sdict Di) H H')(hu:i∈U\/os0.length<=i)(hk:∀Ae,St os0 U H' Ae->KS Ae):He g d El [.ref i,.str x,v] os KS:=Fd (I.get ho) (.inl hx) Ac (hk _ (I.set hp hu))
theorem JB{ks:List (Str×V)}(I:St os0 U H os)(ho:Cw i (.sdict ks) H)(hn:x∉ks.map (·.1))(Ac:ks.length<=100000)(hp:B4 i (.sdict (ks++[(x,v)])) H H')(hu:i∈U\/os0.length<=i)(hk:∀Ae,St os0 U H' Ae->KS Ae):He g d El [.ref i,.str x,v] os KS:=Fd (I.get ho) (.inr ⟨rfl,hn⟩) Ac (hk _ (I.set hp hu))
theorem JC{x:Int}{ks:List (Int×V)}(I:St os0 U H os)(ho:Cw i (.idict ks) H)(hn:x∉ks.map (·.1))(Ac:ks.length<=100000)(hp:B4 i (.idict (ks++[(x,v)])) H H')(hu:i∈U\/os0.length<=i)(hk:∀Ae,St os0 U H' Ae->KS Ae):He g d El [.ref i,.int x,v] os KS:=Jm (I.get ho) (.inr ⟨rfl,hn⟩) Ac (hk _ (I.set hp hu))
theorem JA{k:Int×List Int}{ks:List ((Int×List Int)×V)}(I:St os0 U H os)(ho:Cw i (.tdict ks) H)(hn:k∉ks.map (·.1))(Ac:ks.length<=100000)(hp:B4 i (.tdict (ks++[(k,v)])) H H')(hu:i∈U\/os0.length<=i)(hk:∀Ae,St os0 U H' Ae->KS Ae):
  He g d El [.ref i,.tup [.int k.1,.tup (k.2.map .int)],v] os KS:=Jl (I.get ho) hn Ac (hk _ (I.set hp hu))
theorem Li{a:List V}{j:Int}(I:St os0 U H os)(h1:Cw i (.list a) H)(h0:0<=j)(hj:j<a.length)(Ac:a.length<=1000000)(hp:B4 i (.list (a.set j.toNat v)) H H')(hu:i∈U\/os0.length<=i)(hk:∀Ae,St os0 U H' Ae->KS Ae):He g d El [.ref i,.int j,v] os KS:=K7 (I.get h1) h0 hj Ac (hk _ (I.set hp hu))
end
def oT(n i:Nat)(o:O)(H:AW):Prop:=H[n]? =some (i,o)
noncomputable def GQ:List Nat->Bool
 |[]=>true
 |n::ns=>ns.all (λm=>!Nat.beq m n)&&GQ ns
inductive Dd:List Nat->AW->AW->Prop
 |nil {H}:Dd [] [] H
 |cons {n i o ns D H}:oT n i o H->Dd ns D H->Dd (n::ns) ((i,o)::D) H
def CW(D H:AW):Prop:=∃ns,Dd ns D H/\GQ ns=true
theorem CW.of{ns:List Nat}{D H:AW}(h:Dd ns D H)(e:GQ ns=true):CW D H:=⟨ns,h,e⟩
theorem Dd.mem{ns:List Nat}{D H:AW}(h:Dd ns D H){x:Nat×O}(hx:x∈D):∃n,n∈ns/\H[n]? =some x:=by
 induction h with
 |nil=>cases hx
 |cons a _ ih=>
  rcases cS.mp hx with rfl|hx
  ·exact⟨_,.head _,a⟩
  ·obtain⟨n,hn,e⟩:=ih hx;exact⟨n,.tail _ hn,e⟩
theorem Dd.nd{D H:AW}(h:Dd ns D H)(e:GQ ns=true)(hH:(H.map (·.1)).Nodup):(D.map (·.1)).Nodup:=by
 induction h with
 |nil=>exact .nil
 | @cons n i o ns D H a p ih=>
  obtain⟨e1,e2⟩:=qW.mp (show(ns.all (λm=>!Nat.beq m n)&&GQ ns)=true from e);refine jH.mpr ⟨λq=>?_,ih e2 hH⟩;obtain⟨x,hx,(ex:x.1=i)⟩:=pe.mp q;obtain⟨m,hm,em⟩:=p.mem hx;have h1:=rh.mp e1 m hm;have a1:(H.map (·.1))[n]? =some i:=by rw[oV,show H[n]? =some (i,o) from a];rfl
  have a2:(H.map (·.1))[m]? =some i:=by rw[oV,em,<-ex];rfl
  have l1:=(im.mp a1).1;have:n=m:=(List.getElem?_inj l1 hH).mp (a1.trans a2.symm);subst this;simp at h1
inductive Puts:AW->AW->AW->Prop
 |nil {H}:Puts [] H H
 |cons {i o D H H1 H2}:B4 i o H H1->Puts D H1 H2->Puts ((i,o)::D) H H2
def QB(V:List Nat)(D:AW):Prop:=∀i∈V,i∈D.map (·.1)
section
variable{os0 os Ae:List O}{U V:List Nat}{H H' D N:AW}{i:Nat}{o:O}
theorem St.perm(I:St os0 U H os)(h:H.Perm H'):St os0 U H' os:=⟨I.toCh,λx hx=>I.at_ x (h.mem_iff.mpr hx),(h.map _).nodup_iff.mp I.nd⟩
theorem St.sel(I:St os0 U H os)(h:Dd ns D H)(e:GQ ns=true):St os0 U D os:=⟨I.toCh,λx hx=>by obtain⟨n,_,en⟩:=h.mem hx;exact I.at_ x (bG en),h.nd e I.nd⟩
theorem St.pick(I:St os0 U H os)(h:CW D H):St os V D os:=let⟨_,p,e⟩:=h;(I.sel p e).restart
theorem QW.puts{W:List Nat}(I:QW os0 U W m H os)(p:Puts D H H')(h:∀x∈D,os[x.1]? =some x.2):QW os0 U (W.filter λi=>i∉D.map (·.1)) m H' os:=by
 induction p generalizing W with
 |nil=>rw[List.filter_eq_self.mpr (λa _=>by simp)];exact I
 | @cons i o D H H1 H2 p ps ih=>
  have I':QW os0 U (i::W.filter λj=>decide (j≠i)) m H os:=⟨I.toCh,λx hx n=>I.at_ x hx λq=>n (by
   by_cases e:x.1=i
   ·rw[e];exact .head _
   ·exact .tail _ (sv.mpr ⟨q,by simpa using e⟩)),I.nd,I.lt⟩
  have:=ih (I'.put (h _ (.head _)) p) λx hx=>h x (.tail _ hx);rw[List.filter_filter] at this;refine⟨this.toCh,λx hx n=>this.at_ x hx λq=>n ?_,this.nd,this.lt⟩;obtain⟨a,b⟩:=sv.mp q;refine sv.mpr ⟨a,?_⟩;simp at b⊢;exact⟨b.2,b.1⟩
theorem St.calls(I:St os0 U H os)(J:St os V (N++D) Ae)(hv:QY U os0 V)(hs:QB V D)(p:Puts D H H')(hN:∀x∈N,os.length<=x.1):St os0 U (N++H') Ae:=by
 have a:=(I.then J.toCh hv).puts p λx hx=>J.at_ x (qP _ hx);have e:(V.filter λi=>i∉D.map (·.1))=[]:=List.filter_eq_nil_iff.mpr λi hi=>by simpa using hs i hi
 rw[e] at a;have b:=a.done;refine⟨b.toCh,λx hx=>?_,?_⟩
 ·rcases lZ.mp hx with hx|hx
  ·exact J.at_ x (o8 _ hx)
  ·exact b.at_ x hx
 ·rw[jJ];have nd:=J.nd;rw[jJ] at nd;refine pN.mpr ⟨(pN.mp nd).1,b.nd,λx hx y hy=>?_⟩;rintro rfl;obtain⟨u,hu,rfl⟩:=pe.mp hx;obtain⟨w,hw,e⟩:=pe.mp hy;have e:w.1=u.1:=e;exact pu _ (rA (e▸a.lt w hw) (hN u hu))
theorem St.calls0(I:St os0 U H os)(J:St os V D Ae)(hv:QY U os0 V)(hs:QB V D)(p:Puts D H H'):St os0 U H' Ae:=St.calls (N:=[]) I J hv hs p λ_ h=>nomatch h
end
section
variable{g:Gl}{F:Fn}{d:Nat}{os os0:List O}{U:List Nat}{H H':AW}{loc loc':List (Option V)}{K:List O->V->Prop}{KS:List O->Prop}{KT:List O->Bool->Prop}{KL:List O->List V->Prop}{KN:List (Option V)->List O->Prop}{KR:List O->V->Prop}{p xp:Pos}{e l r:Expr}{x:Str}{v:V}{i:Nat}
theorem Th(h:AG g F d e loc os λos v=>∃i,v=.int i/\K os (.int (-i))):AG g F d (.UnaryOp .USub e p) loc os K:=aj (i:=0) h
theorem Rl{i:Int}{n:Nat}{m:Int}(e:(2:Int)^n=m):Int.fdiv i (2^(n:Int).toNat)=i/m:=by rw[show(n:Int).toNat=n from rfl,e,Int.fdiv_eq_ediv_of_nonneg];rw[<-e];exact pL (Int.pow_pos (by decide))
theorem Ti{i j:Int}(hj:0<j)(hk:K os (.int (i%j))):Aw g d (Cv .Mod) [.int i,.int j] os K:=Y6 (λe0=>L2 [] [_] 0x320a10400cc883e0 hj e0) (by rw[Int.fmod_eq_emod_of_nonneg _ (pL hj)];exact hk)
theorem Vt{i j:Int}(hj:0<j)(hs:j.natAbs<1073741824)(hk:K os (.int (i/j))):Aw g d (Cv .FloorDiv) [.int i,.int j] os K:=VF (λe0=>L2 [] [_] 0x320a10400cc883e0 hj e0) hs (by rw[Int.fdiv_eq_ediv_of_nonneg _ (pL hj)];exact hk)
theorem YS{i j:Int}(hm:IntMulOk i j)(hk:K os (.int (i*j))):Aw g d (Cv .Mult) [.int i,.int j] os K:=Y5 hk hm
theorem intBits_le{a:Int}(h:a.natAbs<2^64):Builtin.Int.intBits a<=64:=by
 unfold Builtin.Int.intBits;split
 ·exact L0 [] [] 0x10059064041
 ·rename_i hn;have:a.natAbs≠0:=λq=>hn (by have:a=0:=Int.natAbs_eq_zero.mp q;simp[this]);have:=(Nat.log2_lt this).mpr h;exact L1 [_] [] 0x4016402208802c8439068041 this
theorem Bi{a:Int}(h:a.natAbs<2^64):IntMulOk a b:=.of_left (intBits_le h)
theorem Vl{j:Int}(h0:0<=j)(h1:j<=1000000)(hk:K os (.int (2^j.toNat))):Aw g d (Cv .Pow) [.int 2,.int j] os K:=Y4 h0 (by rw[show Builtin.Int.intBits 2=2 from by decide];exact L1 [] [_] 0x7a120132082048000000364020ee041 h1) hk
theorem Vv{a b:List V}(I:St os0 U H os)(h1:Cw i (.list a) H)(h2:Cw j (.list b) H)(Ac:a.length+b.length<=1000000)(hk:Kn os0 U H (.list (a++b)) K):Aw g d (Cv .Add) [.ref i,.ref j] os K:=JE I h1 h2 Ac hk
theorem Vm{n:Int}(I:St os0 U H os)(h1:Cw i (.list [v]) H)(h0:0<=n)(hn:n<=1000000)(hk:Kn os0 U H (.list (List.replicate n.toNat v)) K):Aw g d (Cv .Mult) [.ref i,.int n] os K:=JD I h1 h0 hn hk
theorem YT(I:St os0 U H os)(hi:Cw i a H)(hj:Cw j b H)(hk:K os (.bool (i==j))):Aw g d (BC .Is) [.ref i,.ref j] os K:=Pt (I.lt hi) (I.lt hj) hk
noncomputable def QI:V->Int
 |.int i=>i
 |_=>0
theorem dW{i:Int}{vs:List V}(AK:vs=(vs.map QI).map .int)(hk:K os (.bool ((vs.map QI).any (·==i)))):Aw g d (BC .In) [.int i,.tup vs] os K:=Pw AK hk
theorem Rx{i:Int}{vs:List V}(AK:vs=(vs.map QI).map .int)(hk:K os (.bool (!(vs.map QI).any (·==i)))):Aw g d (BC .NotIn) [.int i,.tup vs] os K:=Jn AK hk
theorem YU{l l2:List V}{i j:Nat}{k:Bool}(I:St os0 U H os)(h1:Cw i (.list l) H)(h2:Cw j (.list l2) H)(e:Dm l l2=some k)(hk:K os (.bool k)):Aw g d (BC .Eq) [.ref i,.ref j] os K:=NE (I.get h1) (I.get h2) e hk
theorem Nu(I:St os0 U H os)(hi:Cw i (.inst C fs) H)(hc:CK g C)(hx:FH x v fs)(hp:HQ v=true)(hk:K os v):Aw g d (Kg x) [.ref i] os K:=VG hc (I.get hi) hx hp hk
theorem Pf{value AB:Expr}{l:List V}{i:Int}(h0:0<=i)(Ef:i<1000000)(hv:l[i.toNat]? =some v)(hp:As AB=true)(hk:K os v):Aw g d (CQ value AB) [.tup l,.int i] os K:=NB h0 Ef hv hk hp
theorem Vj{l:List Int}{j:Int}(h0:0<=j)(hv:l[j.toNat]? =some c)(Ac:l.length<=1000000)(hp:As AB=true)(hk:K os (.int c)):Aw g d (CQ value AB) [.bytes l,.int j] os K:=Jj h0 hv Ac hk hp
theorem Pg{value AB:Expr}{l:List V}{j:Int}(I:St os0 U H os)(ho:Cw i (.list l) H)(h0:0<=j)(Ef:j<1000000)(hv:l[j.toNat]? =some v)(hp:As AB=true)(hk:K os v):Aw g d (CQ value AB) [.ref i,.int j] os K:=K5 (I.get ho) h0 Ef hv hk hp
theorem Vk{l:List Int}{j:Int}(I:St os0 U H os)(ho:Cw i (.barr l) H)(h0:0<=j)(hv:l[j.toNat]? =some c)(Ac:l.length<=1000000)(hp:As AB=true)(hk:K os (.int c)):Aw g d (CQ value AB) [.ref i,.int j] os K:=K6 (I.get ho) h0 hv Ac hk hp
theorem Vi{value AB:Expr}{x:Int}{ks:List (Int×V)}(I:St os0 U H os)(ho:Cw i (.idict ks) H)(hx:At x v ks)(hp:As AB=true)(hk:K os v):Aw g d (CQ value AB) [.ref i,.int x] os K:=Ji (I.get ho) hx hk hp
theorem Vh(I:St os0 U H os)(ho:Cw i (.sdict ks) H)(hx:At x v ks)(hp:As AB=true)(hk:K os v):Aw g d (CQ value AB) [.ref i,.str x] os K:=Jh (I.get ho) hx hk hp
theorem YQ{value:Expr}{lo hi:Option Expr}{sp:Pos}{l:List Int}{a b:V}{x y:Option Int}(ha:BD a x)(hb:BD b y)(Ac:l.length<=1000000)(hk:K os (.bytes (cut l x y))):QZ g d (O8 g.M value (.Slice lo hi none sp)) [.bytes l,a,b] os K:=GV ha hb Ac hk
theorem YR{value:Expr}{lo hi:Option Expr}{sp:Pos}{l:List Int}{a b:V}{x y:Option Int}(I:St os0 U H os)(ho:Cw i (.barr l) H)(ha:BD a x)(hb:BD b y)(Ac:l.length<=1000000)(hk:Kn os0 U H (.barr (cut l x y)) K):QZ g d (O8 g.M value (.Slice lo hi none sp)) [.ref i,a,b] os K:=HX I ho ha hb Ac hk
theorem Vn{vs:List V}(I:St os0 U H os)(Ac:vs.length<=100000)(hk:Kn os0 U H (.list vs) K):Aw g d newList vs os K:=VN I hk Ac
theorem Nt{fs:List (Str×V)}(I:St os0 U H os)(hi:Cw i (.inst C fs) H)(hc:CK g C)(hf:UpdF x v fs GO)(Ac:fs.length<=100)(hp:B4 i (.inst C GO) H H')(hu:i∈U\/os0.length<=i)(hk:∀Ae,St os0 U H' Ae->KS Ae):He g d (KW x) [.ref i,v] os KS:=NK hc I hi hf Ac hp hu hk
end
structure Cx where
 g:Gl
 F:Fn
 d:Nat
 ok:BV g F
section
variable{g:Gl}{F:Fn}{d:Nat}{c:Cx}{os os0:List O}{U:List Nat}{H H':AW}{loc loc':List (Option V)}{K:List O->V->Prop}{KS:List O->Prop}{KT:List O->Bool->Prop}{KL:List O->List V->Prop}{KN:List (Option V)->List O->Prop}{KR:List O->V->Prop}{p xp:Pos}{e l r:Expr}{x:Str}{v:V}{i:Nat}
def Ev(c:Cx)(e:Expr)(loc:List (Option V))(os:List O)(K:List O->V->Prop):Prop:=AG c.g c.F c.d e loc os K
def Te(c:Cx)(e:Expr)(loc:List (Option V))(os:List O)(K:List O->Bool->Prop):Prop:=Ir c.g c.F c.d e loc os K
def gm(c:Cx)(op:BoolOp)(es:List Expr)(loc:List (Option V))(os:List O)(K:List O->Bool->Prop):Prop:=Hf c.g c.F c.d op es loc os K
def Ls(c:Cx)(p:Pos)(es:List Expr)(loc:List (Option V))(os:List O)(K:List O->List V->Prop):Prop:=Q0 c.g c.F c.d p es loc os K
def Eo(c:Cx)(e:Option Expr)(loc:List (Option V))(os:List O)(K:List O->V->Prop):Prop:=ba c.g c.F c.d e loc os K
def Xs(c:Cx)(b:List Stmt)(loc:List (Option V))(os:List O)(KN:List (Option V)->List O->Prop)(KR:List O->V->Prop):Prop:=Ex c.g c.F c.d b loc os KN KR
noncomputable abbrev iM(e:Expr):Bool:=cond (Nat.beq e.ctorIdx 23) true (cond (Nat.beq e.ctorIdx 20) true (Nat.beq e.ctorIdx 21))
theorem Sx(h:iM e=true){pos:Pos}(env:Env):eval (.Attribute e x pos) env=(do
   let o<-eval e env
   standAt pos.atName
   let r<-PySem.holding [o] (getAttr o x true)
   letTemporaryGo e o r
   Pure.pure r):=by
 induction e using jS<;>first|rfl|exact xB h
noncomputable abbrev Y1(e:Expr):Bool:=cond (Nat.beq e.ctorIdx 23) true (Nat.beq e.ctorIdx 21)
theorem Ig(h:Y1 func=true)(env:Env):eval (.Call func args [] p) env=(do callWith p (<-eval func env) [] (backTo p (starEach args env)) (backToKw p (keywordEach [] env))):=by induction func using jS<;>first|rfl|exact xB h
noncomputable def B9(args:List Expr):Bool:=!args.any isStarred&&decide (args.length<30)
theorem BJ{args:List Expr}(h:B9 args=true):args.any isStarred=false/\args.length<30:=by unfold B9 at h;rw[oZ] at h;exact⟨by simpa using h.1,dv h.2⟩
noncomputable abbrev iL(e:Expr):Bool:=cond (Nat.beq e.ctorIdx 23) true (Nat.beq e.ctorIdx 20)
theorem Sv(h:iL o=true)(env:Env):attributeBase o name env (eval o env)=eval o env:=by induction o using jS<;>first|rfl|exact xB h
noncomputable abbrev RC(e:Expr):Bool:=cond (Nat.beq e.ctorIdx 8) false (cond (Nat.beq e.ctorIdx 9) false (cond (Nat.beq e.ctorIdx 10) false true))
theorem F9(h:RC e=true)(env:Env):swapsWith e t n env=pure false:=by induction e using jS<;>first|rfl|exact xB h
noncomputable abbrev QJ(e:Expr):Bool:=cond (Nat.beq e.ctorIdx 7) false true
theorem Jx(h:QJ r=true):behindInMarks op r=false:=by induction r using jS<;>first|rfl|exact xB h
noncomputable abbrev ee(e:Expr):Bool:=cond (Nat.beq e.ctorIdx 23) true (cond (Nat.beq e.ctorIdx 19) true (cond (Nat.beq e.ctorIdx 20) true (cond (Nat.beq e.ctorIdx 21) true (cond (Nat.beq e.ctorIdx 16) true (Nat.beq e.ctorIdx 2)))))
theorem VW(h:ee e=true)(env:Env)(CZ:Sem Value):isTrue e env CZ=(do let v<-CZ;standAt e.pos;holding [v] (truthy v)):=by induction e using jS<;>first|rfl|exact xB h
noncomputable abbrev iK(e:Expr):Bool:=cond (Nat.beq e.ctorIdx 22) false true
def aV(c:Cx)(x:Str)(v:V)(loc:List (Option V))(P:List (Option V)->Prop):Prop:=∃loc',Upd x v c.F.names loc loc'/\P loc'
theorem Gf{F:Fn}(h:F.scope.kind=.function)(L:Addr):interactive (F.env L)=false:=by unfold interactive;show(F.scope.kind==.module&&_)=false;rw[h];rfl
abbrev kX(c:Cx)(Ad:List Stmt)(KN:List (Option V)->List O->Prop)(KR:List O->V->Prop):List (Option V)->List O->Prop:=λloc os=>Xs c Ad loc os KN KR
end
section
variable{g:Gl}{d:Nat}{os os0:List O}{U W:List Nat}{H H' pre Ap:AW}{K:List O->V->Prop}{fa:Addr}{args:List V}{v:V}{o:O}
def Bb(g:Gl)(d:Nat)(fa:Addr)(args:List V)(W:List Nat)(pre Ap:AW)(v:V):Prop:=∀os K,St os W pre os->(∀Ae,St os W Ap Ae->K Ae v)->Az g d (.imm (.ref fa)) args os K
theorem AllLt.le(h:m<=n)(a:AllLt H m):AllLt H n:=by
 induction H with
 |nil=>trivial
 |cons x r ih=>exact⟨rA a.1 h,ih a.2⟩
end
noncomputable abbrev Cy(data c8:Nat)(l4 j7 XX:Int)(XZ:Nat):O:=.inst 112 [("data",.ref data),("link",.ref c8),("kind",.int 2048),("l4",.int l4),("off",.int j7),("place",.int XX),("meta",.ref XZ)]
noncomputable abbrev Br(e me mw ma sc:Int)(isc sk hm ua cl Dk:Bool):O:=.inst 476 [("end",.int e),("maxend",.int me),("maxwin",.int mw),("maxack",.int ma),("scale",.int sc),("is_scaled",.bool isc),("is_sack",.bool sk),("has_maxack",.bool hm),("is_unacked",.bool ua),("is_closing",.bool cl),("is_liberal",.bool Dk)]
noncomputable abbrev BK(Ux:Int)(OA XW:V)(Ky XU Kz IJ:Int)(XV:V):O:=.inst 218 [("number",.int Ux),("original",OA),("reply",XW),("zone",.int 0),("until",.int Ky),("since",.int XU),("mark",.int 0),("status",.int Kz),("state",.int IJ),("sides",XV),("master",.int 0)]
noncomputable abbrev Ck(table Ov Oz Q6 X7:Nat)(last:Int):O:=.inst 240 [("most",.int 4),("seed",.int 0),("tries",.int 128),("table",.ref table),("talks",.ref Ov),("last",.int last),("trackers",.ref Oz),("expects",.ref Q6),("flows",.ref X7),("is_loose",.bool true)]
noncomputable abbrev Cb(pk:Nat)(now:Int)(cY:V)(IJ cc:Int)(Ov:V)(r:Nat->Nat):O:=.inst 710 [("packet",.ref pk),("now",.int now),("hook",.str "input"),("talk",cY),("state",.int IJ),("is_reply",.int cc),("talks",Ov),("sets",.ref (r 0)),("objects",.ref (r 1)),("fields",.ref (r 2)),("readers",.ref (r 3)),("doers",.ref (r 4)),("ops",.ref (r 5)),("tools",.ref (r 6)),("order",.str "little"),("log",.ref (r 7)),("replies",.ref (r 8)),("steps",.none),("homes",.ref (r 9))]
noncomputable abbrev Qi(e me mw ma sc:Int)(isc sk hm ua:Bool):O:=.sdict [("end",.int e),("maxend",.int me),("maxwin",.int mw),("maxack",.int ma),("scale",.int sc),("is_scaled",.bool isc),("is_sack",.bool sk),("has_maxack",.bool hm),("is_unacked",.bool ua)]
noncomputable abbrev Sl(IJ Kz Ky:Int):O:=.sdict [("state",.int IJ),("status",.int Kz),("until",.int Ky)]
def AY(l:List Int):Prop:=∀b∈l,0<=b/\b<256
noncomputable def num(l:List Int):Int:=l.foldl (λa b=>a*256+b) 0
theorem N6(hx:0<=x)(h0:0<=b)(h1:b<256):Builtin.bitOr (x*256) b=x*256+b:=by
 rw[bitOr_and,bitAnd_pp (by exact L1 [] [_] 0x198800404005c066041 hx) h0];have e1:(x*256).toNat=x.toNat*2^8:=gH (L2 [_,_] [_] 0x3fa804404005c07e8410a002e00041 (bD (show 0<=x*256 from L1 [] [_] 0x198800404005c066041 hx)) (bD (show 0<=x from hx))) (L2 [_,_] [_] 0x1001703fa18400fd400208100170041 (bD (show 0<=x from hx)) (bD (show 0<=x*256 from L1 [] [_] 0x198800404005c066041 hx)));have:(x*256).toNat&&& b.toNat=0:=by
  rw[e1];apply Nat.eq_of_testBit_eq;intro j;rw[Nat.testBit_and,Nat.testBit_mul_two_pow,Nat.zero_testBit];by_cases hj:8<=j
  ·have:b.toNat.testBit j=false:=Nat.testBit_lt_two_pow (rA (by exact L2 [_] [_] 0x1fa105001641220a002c80441 h1 (bD (show 0<=b from h0)):b.toNat<2^8) (rZ (by decide) hj));rw[this];simp
  ·simp[hj]
 rw[this];simp
theorem Ju(l:List Int)(b:Int):num (l++[b])=num l*256+b:=by unfold num;rw[qT];rfl
theorem Hr{l:List Int}(h:AY l):0<=num l/\num l<256^l.length:=by
 rw[<-se l] at h⊢;generalize l.reverse=k at h⊢;induction k with
 |nil=>exact⟨by decide,by decide⟩
 |cons b r ih=>rw[rG] at h⊢;have h1:=ih λx hx=>h x (o8 _ hx);have h2:=h b (qP _ (.head _));rw[Ju,cW];show _/\_<(256:Int)^(r.reverse.length+1);rw[Int.pow_succ];exact⟨L2 [] [_,_] 0x20cc08200662001040800b9a066041 h1.1 h2.1,L2 [] [_,_,_] 0x1001643220881300084800b8102002e6a441 h1.2 h2.2⟩
section
variable{c:Cx}{loc:List (Option V)}{os:List O}{KN:List (Option V)->List O->Prop}{KR:List O->V->Prop}{p p':Pos}{AS iter func Cz:Expr}{args:List Expr}{body:List Stmt}
theorem HB(h:QJ iter=true)(env:Env)(x:Value):foldedSetIterable iter env x=pure x:=by induction iter using jS<;>first|rfl|cases h
theorem Pc(h:Ev c iter loc os λos v=>∃(X:IK c.g c.d)(N:Nat)(I:Nat->List (Option V)->List O->Prop),DC c.g c.d VR v os X/\I 0 loc os/\
   (∀n loc os,n<N->I n loc os->∃u Am,X.el os n (some u)/\FJ c.g c.F c.d AS u loc Am/\Xs c body Am os (λloc' Ae=>I (n+1) loc' Ae) KR)/\(∀loc os,I N loc os->X.el os N none/\KN loc os))
  (hi:QJ iter=true):Fs c.g c.F c.d (.For AS iter body [] p) loc os KN KR:=Tc (R:=VR) h (HB hi)
theorem U3(h:Ev c func loc os λos f=>Ls c p' args loc os λos vs=>GJ c.g c.d SF f vs os λos q=>∃(N:Nat)(I:Nat->List (Option V)->List O->Prop),Builtin.Range.rangeSize q.1 q.2.1 q.2.2=N/\Builtin.Range.small q.1 q.2.1 q.2.2=true/\I 0 loc os/\
   (∀n loc os,n<N->I n loc os->∃Am,FJ c.g c.F c.d AS (.int (q.1+n*q.2.2)) loc Am/\Xs c body Am os (λloc' Ae=>I (n+1) loc' Ae) KR)/\(∀loc os,I N loc os->KN loc os))
  (ha:B9 args=true) (hc:Y1 func=true):Fs c.g c.F c.d (.For AS (.Call func args [] p') body [] p) loc os KN KR:=
 Tc (R:=SF) (Cd.mono (MT h (BJ ha).1 (qr (BJ ha).2) (Ig hc)) λos q⟨N,I,hN,hs,h0,ht,hd⟩=>⟨D5 c.g c.d q.1 q.2.2 N,N,I,Fc hN hs,h0,λn loc os hn hI=>let⟨Am,a,b⟩:=ht n loc os hn hI;⟨_,Am,by show if n<N then _ else _;rw[lW hn],a,b⟩,λloc os hI=>⟨by show if N<N then _ else _;rw[jU (pu _)],hd loc os hI⟩⟩) (HB rfl)
theorem I7(n:Nat)(I:Nat->List (Option V)->List O->Prop)(h0:I n loc os)
  (turn:∀n loc os,I n loc os->Te c Cz loc os λos b=>(b=true->Xs c body loc os (λloc' Ae=>∃m,m<n/\I m loc' Ae) KR)/\(b=false->KN loc os)):Fs c.g c.F c.d (.While Cz body [] p) loc os KN KR:=Rr n I h0 turn
noncomputable def Unr(c:Cx)(AS:Expr)(body:List Stmt)(KN:List (Option V)->List O->Prop)(KR:List O->V->Prop):List V->List (Option V)->List O->Prop
 |[],loc,os=>KN loc os
 |u::l,loc,os=>∃Am,FJ c.g c.F c.d AS u loc Am/\Xs c body Am os (λloc' Ae=>Unr c AS body KN KR l loc' Ae) KR
end
theorem CL{α:Type}{l:List α}(h:n<l.length):l.take (n+1)=l.take n++[l[n]]:=by rw[List.take_add_one,cQ h];rfl
theorem AY.take{l:List Int}(h:AY l)(n:Nat):AY (l.take n):=λb hb=>h b (qu hb)
theorem Jt{l:List Int}(h:AY l)(hn:n<l.length):Builtin.bitOr (num (l.take n)*256) l[n]=num (l.take (n+1)):=by have a:=(Hr (h.take n)).1;have b:=h l[n] (qk hn);rw[N6 a b.1 b.2,CL hn,Ju]
theorem Hq{l:List Int}(h:AY l)(h4:l.length<=4)(n:Nat):(num (l.take n)).natAbs<2^64:=by
 have a:=Hr (h.take n);have:(256:Int)^(l.take n).length<=256^4:=by exact_mod_cast rZ (n:=256) (by decide) (show(l.take n).length<=4 by rw[qE];exact L2 [_,_] [] 0x8004120721010481c80041 h4 (sY n l.length))
 exact L3 [_] [_,_] 0x1fa104800000001f2181042091060000000000000000dc80441 a.2 this (qX (show 0<=Mine.num (List.take n l) from L1 [] [_] kf a.1))
section
variable{c:Cx}{os:List O}{loc loc':List (Option V)}{KN:List (Option V)->List O->Prop}{KR:List O->V->Prop}{p tp:Pos}{e:Expr}{es:List Expr}{k:Nat}{xs:List Str}
theorem OH(hn:es.all EU=true)(hs:RC e=true)(hw:∀L,swappedStores [.Tuple es k tp] e (c.F.env L)=pure none)(h:Ev c e loc os λos v=>∃vs loc',v=.tup vs/\vs.length=es.length/\Binds c.F.names (es.map D8) vs loc loc'/\KN loc' os):Fs c.g c.F c.d (.Assign [.Tuple es k tp] e p) loc os KN KR:=Pb c.ok h hn (λenv=>by show swapsWith e (some (.Tuple es k tp)) p.line env=_;exact F9 hs env) hw
theorem UC(hs:RC e=true)(hw:∀L,swappedStores [.Tuple es k tp] e (c.F.env L)=pure (some xs))(h:Ev c e loc os λos v=>∃vs loc',v=.tup vs/\vs.length=xs.length/\Binds c.F.names xs.reverse vs.reverse loc loc'/\KN loc' os):Fs c.g c.F c.d (.Assign [.Tuple es k tp] e p) loc os KN KR:=UY c.ok h hw (λenv=>by show swapsWith e (some (.Tuple es k tp)) p.line env=_;exact F9 hs env)
end
namespace BA
open Builtin
open PyProof.Rows.F in
theorem ET:typeLookup (.type "bytes") "__bytes__"=pure (some (.builtin "bytes.__bytes__")):=by rw[or,jR];kernel_rfl
section
variable{prog:Program}{w:World}{A:Around}{E:Value->Shared->Prop}{s:Shared}{b:Array UInt8}{t:Tok}
theorem Kf{Q:Value->Shared->Prop}(hQ:Q (.bytes b t) s):
  codeAny (model prog w) A (.call (.builtin "bytes.__new__") ⟨[.type "bytes",.bytes b t],[]⟩) (wants Q E) s:=by
 refine codeAny_of_tree ?_;show wpAny _ A.in1 (do checkBuiltinCall "bytes.__new__" ⟨[.type "bytes",.bytes b t],[]⟩;again (.builtin "bytes.__new__" ⟨[.type "bytes",.bytes b t],[]⟩)) _ _ s;refine bB (jN (F.bm_newCall _) (bV ⟨plainId_quiet F.bm_plain _,codeAny_builtin F.bm_entry ?_⟩));rw[rU F.bm_plain _];have hT:s.TypeIs (.bytes b t) "bytes":=rY _ _ _;unfold Builtin.«bytes.__new__»;refine bB (jN (a:=true) rfl ?_);refine rD rfl ?_;refine bB (jN F.bm_sub ?_);refine rD rfl ?_;refine bB (jN (F.bm_bind _) ?_);refine bB (jN (a:=()) rfl ?_);refine bB (jN (a:=()) rfl ?_);refine rD rfl ?_;refine bB (jP hT ET ?_);dsimp only;refine bB (qV ?_);refine bB (jN (a:=.type "bytes") rfl ?_);refine bm_if_true (by decide) ?_;show wpAny _ _ (if (Value.type "bytes"==Value.type "bytes")=true then _ else _) _ _ _;refine bm_if_true (by decide) ?_;first
  |exact bV hQ
  |exact bB (bV (bV hQ))
theorem bytes_call2{Q:Value->Shared->Prop}(hQ:Q (.bytes b t) s):wpAny (model prog w) A (call (.type "bytes") [.bytes b t]) Q E s:=by
 refine callType_codes (Q₁:=λobj s₁=>s₁.TypeIs obj "bytes"/\Q obj s₁) rX (F.bm_typeCall _) F.entry_object_init
  (Kf ⟨rY _ _ _,hQ⟩) λobj s₁ h₁=>?_
 exact⟨h₁.1,F.args_object_init_2 obj _,object_init_meets rX.init.lookup rX.made (by decide) prog w A.in1 _ s₁ ⟨h₁.1,rfl,h₁.2⟩⟩
end
end BA
section
variable{g:Gl}{F:Fn}{d:Nat}{os os0:List O}{U:List Nat}{H:AW}{K:List O->V->Prop}{i:Nat}{v:V}
theorem dX(hk:K os (.bytes l)):Az g d (.imm (.type "bytes")) [.bytes l] os K:=.ofOp rfl <| Aw.now hk λA s ad L m vs Q hr hs hf AK hq=>by obtain⟨_,rfl,r⟩:=AK.one;simp only[VR] at r;obtain⟨b,t,rfl,hb⟩:=r;exact BA.bytes_call2 (hq _ s.toks (by simp only[VR];exact⟨b,t,rfl,hb⟩))
theorem Vr{l:List Int}(Ac:l.length<=1000000)(hk:K os (.int l.length)):Az g d (.imm (.builtin "len")) [.bytes l] os K:=J6 Ac hk
theorem Vs{l:List Int}(I:St os0 U H os)(ho:Cw i (.barr l) H)(Ac:l.length<=1000000)(hk:K os (.int l.length)):Az g d (.imm (.builtin "len")) [.ref i] os K:=LU (I.get ho) Ac hk
theorem Vp{l:List V}(I:St os0 U H os)(ho:Cw i (.list l) H)(Ac:l.length<=1000000)(hk:K os (.int l.length)):Az g d (.imm (.builtin "len")) [.ref i] os K:=LR (I.get ho) Ac hk
theorem Vq{l:List (Int×V)}(I:St os0 U H os)(ho:Cw i (.idict l) H)(Ac:l.length<=1000000)(hk:K os (.int l.length)):Az g d (.imm (.builtin "len")) [.ref i] os K:=J5 (I.get ho) Ac hk
theorem Vo{l:List ((Int×List Int)×V)}(I:St os0 U H os)(ho:Cw i (.tdict l) H)(Ac:l.length<=1000000)(hk:K os (.int l.length)):Az g d (.imm (.builtin "len")) [.ref i] os K:=J4 (I.get ho) Ac hk
theorem Ph{l:List Int}(I:St os0 U H os)(ho:Cw i (.list (l.map .int)) H)(GL:AY l)(Ac:l.length<=1000000)(hk:K os (.bytes l)):Az g d (.imm (.type "bytes")) [.ref i] os K:=Ij (I.get ho) GL Ac hk
theorem Pj{l:List Int}(I:St os0 U H os)(ho:Cw i (.barr l) H)(Ac:l.length<=1000000)(hk:K os (.bytes l)):Az g d (.imm (.type "bytes")) [.ref i] os K:=Ik (I.get ho) Ac hk
theorem Vu{l:List Int}(I:St os0 U H os)(Ac:l.length<=1000000)(hk:Kn os0 U H (.barr l) K):Az g d (.imm (.type "bytearray")) [.bytes l] os K:=HZ I Ac hk
theorem Ry{l:List (Int×V)}(I:St os0 U H os)(ho:Cw i (.idict l) H)(Ac:l.length<=1000000)(hk:Kn os0 U H (.list (l.map λq=>.int q.1)) K):Az g d (.imm (.type "list")) [.ref i] os K:=HY I ho Ac hk
theorem Pk{a:List V}(I:St os0 U H os)(h1:Cw i (.list a) H)(Ac:a.length<=1000000)(hp:B4 i (.list (a++[v])) H H')(hu:i∈U\/os0.length<=i)(hk:∀Ae,St os0 U H' Ae->K Ae .none):Aw g d (λws=>call (.builtin "list.append") ws) [.ref i,v] os K:=PM I h1 Ac hp hu hk
end
theorem Xs.mono{c:Cx}{body:List Stmt}{loc:List (Option V)}{os:List O}{KN ij:List (Option V)->List O->Prop}{KR:List O->V->Prop}(h:Xs c body loc os KN KR)(hk:∀loc os,KN loc os->ij loc os):Xs c body loc os ij KR:=λA s ad L m Q hr hs hf hn AT=>h A s ad L m Q hr hs hf (λAe Ag loc' m' h' tk a f k=>hn Ae Ag loc' m' h' tk a f (hk _ _ k)) AT
section
variable{g:Gl}{F G:Fn}{d:Nat}{os:List O}{loc:List (Option V)}{K:List O->V->Prop}{KS:List O->Prop}{KT:List O->Bool->Prop}{KL:List O->List V->Prop}{p:Pos}{e l r:Expr}{x:Str}{v:V}{i:Nat}
 {L:Addr} {m:Str->Option Value} {ad:AH} {h h':Heap} {KN:List (Option V)->List O->Prop} {KR:List O->V->Prop}
theorem Wl(F0:BV g F)(hc:(x,i)∈F.cix)(hl:F.scope.names.lookup x=some .cell)(hx:(x==("__debug__":Str))=false)(ho:os[i]? =some (.cell (some v)))(hk:K os v):AG g F d (.Name x p) loc os K:=Cd.now hk λA s ad L m Q hr hs hf hq=>by obtain⟨a,ha,hi⟩:=hf.cel _ hc;obtain⟨_,y,hg,z,rfl,r⟩:=hs.rep _ _ _ ho hi;exact wpAny_Name (wpAny_loadName_cell F0.kind hl ha ⟨_,hg,rfl⟩ (hq z s.toks r)) hx
noncomputable abbrev Fj(v:Option Value):Obj:={cls:=.type "cell",data:=.cell v}
theorem NZ{M:Model}{A:Around}{s:Shared}{c:Addr}{v₀ v:Option Value}{Q:Unit->Shared->Prop}{E:Value->Shared->Prop}(hc:s.heap.get? c=some (Fj v₀))(h:∀h',h'.get? c=some (Fj v)->Heap.SameBut c s.heap h'->Q () {s with heap:=h'}):wpAny M A (cellSet c v) Q E s:=by unfold cellSet;refine bB (qg hc ?_);exact wpAny_update hc (h _ (qQ _ hc rfl) (qh ..))
theorem E6{s:Shared}{env:Env}{Q:Unit->Shared->Prop}{E:Value->Shared->Prop}(hk:env.scope.kind=.function)(hl:env.kindOf x=some .cell)(hc:env.cells.lookup x=some c)(hg:s.heap.get? c=some (Fj v₀))
  (h:∀h',h'.get? c=some (Fj (some y))->Heap.SameBut c s.heap h'->Q () {s with heap:=h'}):wpAny M A (storeName env x y) Q E s:=by
 unfold storeName;simp only[hl,hk];exact bB (wpAny_cellOf hc (NZ hg h))
theorem SR.cell(S:SR g.w g.base ad os h)(f:FrB g L m ad h){a:Addr×Addr}(ho:os[i]? =some (.cell u))(ha:ad[i]? =some a)(r:VR ad h v y)(hg:h'.get? a.1=some (Fj (some y)))(sb:Heap.SameBut a.1 h h'):AF g L m ad h (os.set i (.cell (some v))) [] h':=by obtain⟨e,_,_⟩:=S.rep _ _ _ ho ha;have hm:=bG ha;have hne:a.1≠L:=λz=>f.out ⟨a,hm,.inl z.symm⟩;have kp:∀b o,h.get? b=some o->b≠a.1->h'.get? b=some o:=λb o e n=>(sb.2 b n).trans e;refine S.turn f ha (λb ob e n1 n2=>kp b ob e λz=>n2 (.inl z)) (f.ns.sameBut sb hne.symm) (λb o e=>kp b o (S.old b o e) λz=>?_) λtp=>⟨e,some y,hg,y,rfl,VR.mono (AU.refl _) tp _ _ r⟩;rw[z,(S.new a hm).1] at e;exact xO e
theorem U6{xp:Pos}{u:List O->Option V}(F0:BV g F)(hc:(x,i)∈F.cix)(hl:F.scope.names.lookup x=some .cell)(h:AG g F d e loc os λos v=>∃u,os[i]? =some (.cell u)/\KN loc (os.set i (.cell (some v))))
  (hs:∀env,swapsWith e (some (.Name x xp)) p.line env=pure false):Fs g F d (.Assign [.Name x xp] e p) loc os KN KR:=by
 intro A s ad L m Q hr IE hf hn AT;refine Aa.Assign_Name (h A s ad L m _ hr IE hf λAE m1 v y h1 tk1 a1 r1 k1=>?_) (hs _);obtain⟨u,ho,k⟩:=k1;have f1:=hf.after IE a1;obtain⟨a,ha,hi⟩:=f1.cel _ hc;obtain⟨_,_,hg,_⟩:=a1.sr.rep _ _ _ ho hi;refine Aa.of (E6 (s:={s with heap:=h1,toks:=tk1}) F0.kind hl ha hg λh2 kY sb=>?_);have a2:=a1.sr.cell f1.toFrB ho hi r1 kY sb;have a3:=hf.then IE f1.ns a1.toAft a2.toAft;refine hn _ _ loc m h2 tk1 a3 ?_ k;have f2:=f1.after a1.sr a2;rw[<-bF];exact f2
noncomputable def pushC:Nat->Heap->Heap
 |0,h=>h
 |n+1,h=>pushC n (h.push (Fj none))
noncomputable def Qz:Nat->Nat->AH
 |0,_=>[]
 |n+1,b=>(b,b)::Qz n (b+1)
theorem SR.pushC(S:SR g.w g.base ad os h)(f:FrB g L m ad h):∀n,AF g L m ad h (os++List.replicate n (.cell none)) (Qz n h.objs.size) (pushC n h):=by
 intro n;induction n generalizing h os ad with
 |zero=>rw[pH,bE];exact AF.refl S f
 |succ n ih=>
  have k1:∀b o,h.get? b=some o->(h.push (Fj none)).get? b=some o:=λb o e=>cP _ e;have a:AF g L m ad h (os++[.cell none]) [(h.objs.size,h.objs.size)] (h.push (Fj none)):=S.push f (q:=(h.objs.size,h.objs.size)) (λb o e _=>k1 b o e) (f.ns.at' λo e=>k1 L o e) (λb o e=>k1 b o (S.old b o e)) (A9 h) (A9 h) ⟨rfl,none,jQ _ rfl,rfl⟩
  have b:=ih a.sr (f.after a);rw[rH] at b;have c:=a.trans f S b;rw[qz];rw[bF] at c;exact c
theorem MZ{E:Value->Shared->Prop}{env:Env}(hk:env.scope.kind=.function)(f:Str×Value->PUnit->Sem (ForInStep PUnit))(hf:∀n v u,f (n,v) u=(do storeName env n v;pure (.yield ⟨⟩))):∀(rest done:List (Str×Value))(s:Shared)(Q:PUnit->Shared->Prop),s.heap.Ns env.locals (λx=>done.reverse.lookup x)->(∀x∈rest,env.kindOf x.1=some .local)->
  (∀h' tk,h'.Ns env.locals (λx=>(done++rest).reverse.lookup x)->Heap.SameBut env.locals s.heap h'->Q ⟨⟩ {s with heap:=h',toks:=tk})->wpAny M A (forIn rest ⟨⟩ f) Q E s
 |[],done,s,Q,ns,_,h=>by rw[List.forIn_nil];refine bV (h s.heap s.toks ?_ (Heap.SameBut.refl ..));rw[bE];exact ns
 |(n,y)::rest,done,s,Q,ns,hl,h=>by
  rw[qO,hf];refine bB (bB (wpAny_storeName_local (hl _ pg) ns (λh1 j8 sb=>bV ?_) (by rw[hk];rfl)));refine MZ hk f hf rest (done++[(n,y)]) _ Q ?_ (λx hx=>hl x (pt _ hx)) λh2 Ci gQ j3=>h h2 Ci ?_ (sb.trans j3)
  ·rw[lookup_reverse_snoc];exact j8
  ·rw[bF] at gQ;exact gQ
end
section
variable{prog:Program}{w:World}{A:Around}{s:Shared}
theorem Ao.defE{R:Flow->Shared->Prop}{o:Obj}{fd:FuncData}
  (Ox:A.depth<recursionLimit) (ho:s.heap.get? a=some o) (Oy:o.data=.func fd) (Up:s.heap.NoLimit) (cD:s.heap.CodeRec fd.code fd.qualname)
  (Ei:fd.body=.stmts body) (DM:BindsTo s fd args F2) (cz:fd.scope.isCoroutine=false) (Uq:fd.scope.isGenerator=false)
  (h:∀Q:Env->Shared->Prop,(∀env h0 tk,(∀b o,s.heap.get? b=some o->h0.get? b=some o)->(Aa (model prog w) (A.deeper env) (execs body env) (λf s'=>R (.ret (match f with|.ret v=>v|_=>.none)) s') {s with heap:=h0,toks:=tk})->Q env {s with heap:=h0,toks:=tk})->Aa (model prog w) A.in1 (newFunctionEnv fd.scope fd.globals fd.closure F2 (fd.qualname++".<locals>.") (some a) fd.code none fd.builtins) Q s):
  Ao (model prog w) A (.call (.ref a) args) R s:=by
 refine Ao.tree (λ_ _=>rfl) ?_;show Aa _ A.in1 (callAny (.ref a) args) _ s;obtain⟨c,oc,vs,tq,hc,hoc,hdc,hq⟩:=cD;unfold callAny;refine Aa.bind (Aa.of (qg ho ?_));simp only[Oy,callFunction,cz,Uq,Ei,hc];refine Aa.bind (m:=field (.ref c) 1) (Aa.of (qG hoc hdc hq (Aa.bind (Aa.pure ?_))));refine Aa.bind (Aa.of (DM _ _ _ _ (Aa.bind ?_)));rw[hc] at h;refine h _ λenv h0 tk kp hx=>?_;refine Aa.bind (Aa.of (wpAny_enterFrame (Up.keeps kp) Ox (Aa.pure (And.intro rfl ?_))));exact Ao.func hx
end
section
variable{g:Gl}{F G:Fn}{d:Nat}{os:List O}{loc:List (Option V)}{K:List O->V->Prop}{KS:List O->Prop}{KT:List O->Bool->Prop}{KL:List O->List V->Prop}{p:Pos}{e l r:Expr}{x:Str}{v:V}{i:Nat}
 {L:Addr} {m:Str->Option Value} {ad:AH} {h h':Heap} {KN:List (Option V)->List O->Prop} {KR:List O->V->Prop}
theorem Jy{α:Type}:∀{l:List (Str×α)}{x:Str}{v:α},(l.map (·.1)).Nodup->(x,v)∈l->l.lookup x=some v
 |(y,u)::l,x,v,nd,h=>by
  rw[List.lookup_cons];rcases cS.mp h with h|h
  ·cases h;simp
  ·have:x≠y:=λe=>(jH.mp nd).1 (by rw[<-e];exact mj (f:=(·.1)) h);have e:(x==y)=false:=by simp[this]
   rw[e];exact Jy (jH.mp nd).2 h
theorem M4:∀{n b j:Nat},j<n->(Qz n b)[j]? =some (b+j,b+j)
 |n+1,b,0,_=>rfl
 |n+1,b,j+1,h=>by show(Qz n (b+1))[j]? =_;rw[M4 (Nat.lt_of_succ_lt_succ h),Nat.add_right_comm,sS]
theorem Ma:∀{n b:Nat}{p:Addr×Addr},p∈Qz n b->b<=p.1/\p.2=p.1
 |n+1,b,p,h=>by
  rcases cS.mp h with rfl|h
  ·exact⟨oU _,rfl⟩
  ·have:=Ma h;exact⟨by exact L1 [_,_] [] 0x8439068041080041 this.1,this.2⟩
noncomputable abbrev Fn.wc(T:Fn)(c:List (Str×Addr))(i:List (Str×Nat)):Fn:=⟨T.qual,T.scope,T.fa,T.cd,c,T.names,T.globs,T.inner,i⟩
theorem Fa:∀(n:Nat){h:Heap},h.get? b=some o->(Mine.pushC n h).get? b=some o
 |0,_,e=>e
 |n+1,_,e=>Fa n (cP _ e)
structure M5(g:Gl)(F:Fn)(fd:FuncData):Prop where
 at_:∃oc od sl,g.K.lookup F.fa=some ⟨oc,od,.func fd,sl⟩
 scope:fd.scope=F.scope
 globals:fd.globals=mainGlobals
 closure:fd.closure=[]
 qual:fd.qualname=F.qual
 code:fd.code=F.cd
 built:fd.builtins=builtinsNs
 inner:F.inner=none
 codeRec:codeIn g.K F.cd F.qual=true
 quiet:F.scope.isCoroutine=false/\F.scope.isGenerator=false
theorem HF{fd:FuncData}{T:Fn}(F0:BV g T)(H:M5 g T fd)(Ei:fd.body=.stmts body){cn:List Str}{ps rest:List Str}(hn:T.names=ps++rest){vs:List V}(hl:ps.length=vs.length)
  (cr:∀h,pushCells h T.scope.names=pushC (cn.length+1) h) (cC:∀n,cellsFrom n T.scope.names []=((c0::cn).zipIdx n).reverse) (cA:(c0::cn).Nodup) (QM:T.scope.names.lookup c0=some .cell)
  (DM:∀(s:Shared)(y:Value)(Ab:List Value),Ab.length=ps.length->BindsTo s fd ⟨y::Ab,[]⟩ ((c0,y)::ps.zip Ab))
  (h:∀b,Ex g (T.wc ((c0::cn).zipIdx b).reverse ((c0::cn).zipIdx os.length)) d body (vs.map some++rest.map λ_=>none) (os++.cell (some u)::List.replicate cn.length (.cell none)) (λ_ os=>K os .none) K)
  {s:Shared} {Ab:List Value} {Q:Value->Shared->Prop} (hr:Bf A (d+1)) (hs:SR g.w g.base ad os s.heap) (Uh:g.base.objs.size<=s.heap.objs.size) (AK:Aj ad s.heap (u::vs) Ab)
  (hq:∀Ae Ag v v' h' tk,Aft g.w g.base iP ad s.heap Ae Ag h'->VR (ad++Ag) h' v v'->K Ae v->Q v' {s with heap:=h',toks:=tk}):
  Ao g.M A (.call (.ref T.fa) ⟨Ab,[]⟩) (λf s'=>match f with|.ret v=>Q v s'|_=>False) s:=by
 simp only[Aj] at AK;obtain⟨y,Ab,rfl,ry,AK⟩:=AK;obtain⟨oc,od,sl,hK⟩:=H.at_;have ho:s.heap.get? T.fa=some ⟨oc,od,.func fd,sl⟩:=hs.old _ _ (g.X _ _ hK);have Ac:vs.length=Ab.length:=AK.length;have nd:(ps++rest).Nodup:=hn▸F0.nodup;have b7:ps.Nodup:=(pN.mp nd).1;have Oq:(ps.zip Ab).map (·.1)=ps:=by rw[sU];exact qI (hl.trans Ac)
 refine Ao.defE hr.room ho rfl (g.nolim.keeps hs.old) ?_ Ei (DM s y Ab (Ac.symm.trans hl.symm)) ?_ ?_ λQ' lv=>?_
 ·have:=codeRec_of g.X H.codeRec;rw[H.code,H.qual];exact this.keeps hs.old
 ·rw[H.scope];exact H.quiet.1
 ·rw[H.scope];exact H.quiet.2
 ·rw[H.scope,H.globals,H.closure,H.qual,H.code,H.built];unfold newFunctionEnv;simp only[Option.isSome_none,qn,s9];refine Aa.of (bB (wpAny_alloc ?_));refine bB (wpAny_layCells _ (λname kind cells=>by cases hkc:kind==NameKind.cell<;>simp[hkc]) _ _ _ _ ?_);obtain⟨hp,gs,dr,tk,oss⟩:=s;dsimp only;rw[cr,cC,rH];generalize hL':hp.objs.size=L';generalize hh1:hp.push {cls:=.type "frame",data:=.dict #[]}=h1;have k1:∀b o,hp.get? b=some o->h1.get? b=some o:=λb o e=>hh1▸cP _ e;have WR:h1.objs.size=L'+1:=by rw[<-hh1,rH,hL']
  have S1:SR g.w g.base ad os h1:=hs.keeps k1;have bw:∀b,L'<=b->hp.get? b=none:=λb hb=>by
   induction e:hp.get? b using il with
   |none=>rfl
   |some o=>exact absurd (pz e) (Nat.not_lt.mpr (hL'.symm▸hb))
  have j6:¬A2 ad L':=λq=>by obtain⟨o,e,_⟩:=hs.live q;rw[bw L' (oU _)] at e;exact xO e
  have f1:FrB g L' (λ_=>none) ad h1:=⟨by rw[<-hh1,<-hL'];exact Heap.Ns.new ..,j6,hL'▸Uh⟩;have a2:=S1.pushC f1 (cn.length+1);rw[WR] at a2;have f2:=f1.after a2;have g4:(((c0::cn).zipIdx (L'+1)).reverse.map (·.1)).Nodup:=by rw[sV];refine rJ.mpr ?_;have:((c0::cn).zipIdx (L'+1)).map (·.1)=c0::cn:=List.zipIdx_map_fst ..;rw[this];exact cA.imp λh=>h.symm
  have kR:((c0::cn).zipIdx (L'+1)).reverse.lookup c0=some (L'+1):=Jy g4 (ri.mpr pg);generalize hh2:pushC (cn.length+1) h1=h2 at a2 f2⊢;have g8:(os++List.replicate (cn.length+1) (O.cell none))[os.length]? =some (.cell none):=by rw[oY (oU _),rj];rfl
  have cG:∀j,j<cn.length+1->(ad++Qz (cn.length+1) (L'+1))[os.length+j]? =some (L'+1+j,L'+1+j):=λj hj=>by rw[<-hs.len,oY (Nat.le_add_right _ _),Nat.add_sub_cancel_left,M4 hj]
  obtain⟨_,x0,hg0,cg⟩:=a2.sr.rep _ _ _ g8 (cG 0 (Nat.succ_pos _));rw[qO];refine bB (bB (bB ?_));refine E6 (c:=L'+1) (v₀:=x0) F0.kind QM kR hg0 λh3 kW gP=>?_;have gK:∀a vs,hp.IsTuple a vs->h1.IsTuple a vs:=λa vs⟨o,e,r⟩=>⟨o,k1 _ _ e,r⟩;have a3:=a2.sr.cell f2 g8 (cG 0 (Nat.succ_pos _)) (f1.vr S1 a2.toAft (VR.mono (AU.refl _) gK _ _ ry)) kW gP;have II:=a2.trans f1 S1 a3;have f3:=f1.after II;have eM:Qz (cn.length+1) (L'+1)++[]=Qz (cn.length+1) (L'+1):=bE _;have eo:(os++List.replicate (cn.length+1) (O.cell none)).set os.length (.cell (some u))=os++.cell (some u)::List.replicate cn.length (.cell none):=by rw[List.set_append_right _ _ (oU _),rj];rfl
  rw[eM,eo] at II;rw[eM] at f3;refine bV ?_;refine MZ (by exact F0.kind) _ (λ_ _ _=>rfl) (ps.zip Ab) [] _ _ II.ns (λz hz=>?_) λh4 Of n4 Ue=>bV ?_
  ·exact(F0.loc z.1 (by rw[hn];exact o8 _ (Oq▸mj (f:=(·.1)) hz))).1
  rw[List.nil_append] at n4;have S4:=II.sr.locals f3 Ue;have Ok:Bg g (T.wc ((c0::cn).zipIdx (L'+1)).reverse ((c0::cn).zipIdx os.length)) L' (λx=>(ps.zip Ab).reverse.lookup x) (vs.map some++rest.map λ_=>none) (ad++Qz (cn.length+1) (L'+1)) h4:=by
   refine⟨⟨n4,f3.out,f3.above⟩,λx v q=>?_,λz hz=>?_⟩
   ·have q:Has x v T.names _:=q;rw[hn] at q;obtain⟨val,q1,q2⟩:=MK AK hl q;refine⟨val,DR ?_ (ri.mpr q1),VR.mono (AU.refl _) (f3.tupL Ue) _ _ (f1.vr S1 II.toAft (VR.mono (AU.refl _) gK _ _ q2))⟩;rw[sV,Oq];exact rJ.mpr (b7.imp λh=>h.symm)
   ·obtain⟨z1,z2⟩:=z;have hz:(z1,z2)∈(c0::cn).zipIdx os.length:=hz;obtain⟨k1,k2,k3⟩:=List.mem_zipIdx hz;obtain⟨j,rfl⟩:∃j,z2=os.length+j:=⟨z2-os.length,(Nat.add_sub_cancel' k1).symm⟩;have hj:j<(c0::cn).length:=Nat.lt_of_add_lt_add_left k2;refine⟨L'+1+j,Jy g4 (ri.mpr ?_),cG j hj⟩;rw[List.mem_iff_getElem?];refine⟨j,?_⟩;rw[List.getElem?_zipIdx,cQ hj,k3];simp only[Nat.add_sub_cancel_left];rfl
  have lo:∀b o,hp.get? b=some o->¬L'<=b:=λb o e q=>by rw[bw b q] at e;exact xO e
  have Xv:∀b o,hp.get? b=some o->h4.get? b=some o:=λb o e=>(Ue.2 b λq=>lo b o e (qI q.symm)).trans ((gP.2 b λq=>lo b o e (qU (qI q.symm))).trans (hh2▸Fa _ (k1 b o e)))
  have back:∀{Ae:List O}{Ag:AH}{h':Heap},Aft g.w g.base (·=L') (ad++Qz (cn.length+1) (L'+1)) h4 Ae Ag h'->Aft g.w g.base iP ad hp Ae (Qz (cn.length+1) (L'+1)++Ag) h':=λ{Ae Ag h'}a=>by
   refine⟨by rw[<-bF];exact a.sr,λb o e n=>?_,λp hp=>?_⟩
   ·refine a.kept b o (Xv b o e) λq=>?_;rcases q with q|q
    ·rcases q.app with q|⟨z,hz,q⟩
     ·exact n (.inl q)
     ·have:=Ma hz;rcases q with rfl|rfl
      ·exact lo _ o e (qU this.1)
      ·exact lo _ o e (this.2▸qU this.1)
    ·exact lo _ o e (qI q.symm)
   ·rcases lZ.mp hp with hp|hp
    ·have:=Ma hp;exact⟨bw _ (qU this.1),bw _ (this.2▸qU this.1)⟩
    ·have f:=a.fresh p hp;have key:∀c,h4.get? c=none->Heap.get? _ c=none:=λc hc=>by
      induction e:Heap.get? _ c using il with
      |none=>rfl
      |some o=>rw[Xv c o e] at hc;exact Oo hc
     exact⟨key _ f.1,key _ f.2⟩
  have Us:({scope:=T.scope,locals:=L',globals:=mainGlobals,cells:=((c0::cn).zipIdx (L'+1)).reverse,qual:=T.qual++".<locals>.",func:=some T.fa,code:=T.cd,frame:=some L',builtins:=builtinsNs}:Env)=(T.wc ((c0::cn).zipIdx (L'+1)).reverse ((c0::cn).zipIdx os.length)).env L':=by unfold Fn.env;show _=Env.mk _ _ _ _ _ _ _ _ _;simp only[H.inner];rfl
  refine lv _ h4 Of Xv ?_;rw[Us];refine(h _ (A.deeper _) ⟨h4,gs,dr,Of,oss⟩ _ L' _ (λf s'=>match f with|.ret v=>Q v s'|_=>Q .none s') (hr.deeper _) S4 Ok
   (λAe Ag loc' m' h' tk a f k=>hq Ae _ .none .none h' tk (back a) VR.n k) (λAe Ag v v' m' h' tk a n r k=>hq Ae _ v v' h' tk (back a) (by rw[<-bF];exact r) k)).mono λf s' q=>?_
  induction f using qK<;>exact q
theorem NW{fd:FuncData}{T:Fn}(F0:BV g T)(H:M5 g T fd)(Ei:fd.body=.stmts body){cn:List Str}{ps rest:List Str}(hn:T.names=ps++rest){vs:List V}(hl:ps.length=vs.length)
  (cr:∀h,pushCells h T.scope.names=pushC (cn.length+1) h) (cC:∀n,cellsFrom n T.scope.names []=((c0::cn).zipIdx n).reverse) (cA:(c0::cn).Nodup) (QM:T.scope.names.lookup c0=some .cell)
  (DM:∀(s:Shared)(y:Value)(Ab:List Value),Ab.length=ps.length->BindsTo s fd ⟨y::Ab,[]⟩ ((c0,y)::ps.zip Ab))
  (h:∀b,Ex g (T.wc ((c0::cn).zipIdx b).reverse ((c0::cn).zipIdx os.length)) d body (vs.map some++rest.map λ_=>none) (os++.cell (some u)::List.replicate cn.length (.cell none)) (λ_ os=>K os .none) K):DY g (d+1) T.fa (u::vs) os K:=
 λA s ad L m Ab Q hr hs hf AK hq=>HF F0 H Ei hn hl cr cC cA QM DM h hr hs (mi hf.above (qr hf.ns.lt)) AK λAe Ag v v' h' tk a r k=>hq Ae Ag v v' h' tk ⟨⟨a.sr,λb o e n=>a.kept b o e λq=>n (q.imp id False.elim),a.fresh⟩,hf.ns.at' λo e=>a.kept L o e λq=>q.elim hf.out id⟩ r k
end
section
variable{M:Model}{A:Around}{s:Shared}{env:Env}{α:Type}
theorem Aa.attempt{m:Sem α}{Q:Except Value α->Shared->Prop}(h:Aa M A m (λa=>Q (.ok a)) s):Aa M A m.attempt Q s:=⟨λΓ p hΓ hf=>by rw[Sem.wp_attempt];exact rS M Γ m (λ_ _ _ h=>h) (λ_ _ _ h=>h.elim) p s (h.go Γ p hΓ hf)⟩
theorem Aa.comprehension{scope:Scope}{g:Comprehension}{Q:Value->Shared->Prop}
  (lm:clausesOf e=g::gs) (hs:∀x,foldedSetIterable g.iter env x=Pure.pure x) (FZ:closureFor scope env=Pure.pure cl)
  (E3:scope.kind=.function) (DZ:∀x∈scope.names,x.2=.local->scope.names.lookup x.1=some .local)
  (h:Aa M A first (λx s₁=>Aa M A (pyIter x) (λit s₂=>Aa M A newAcc (λacc s₃=>Aa M A (newFunctionEnv scope env.globals cl [] env.qual none .none (some env)) (λcenv s₄=>Ao M A (.compStart e 0 it acc {cenv with scope:=relabel scope env}) (λ_ s'=>Aa M A (u acc) (λ_ Iv=>∃m,Iv.heap.Ns cenv.locals m/\∀h',Heap.SameBut cenv.locals Iv.heap h'->Q .none {Iv with heap:=h'}) s') s₄) s₃) s₂) s₁) s):
  Aa M A (comprehension e scope env pos newAcc false first (some u)) Q s:=by
 unfold PySem.comprehension;rw[FZ,lm];refine Aa.bind (h.mono λx s₁ h₁=>Aa.bind (Aa.at (Aa.bind ?_)));try dsimp only
 rw[hs x];refine Aa.pure (Aa.bind (Aa.holding (h₁.mono λit s₂ h₂=>?_)));rw[lW (show(some u).isSome=true from rfl)];refine Aa.bind (Aa.at (Aa.bind (h₂.mono λacc s₃ h₃=>Aa.bind (Aa.pure (Aa.bind (h₃.mono λcenv s₄ h₄=>?_))))));try dsimp only
 have hv:∀x∈(scope.names.filter λx=>(x.2==.local||x.2==.cell)&&x.1 != (".0":Str)).reverse,x.2=.local->Env.kindOf {cenv with scope:=relabel scope env} x.1=some .local:=λx hx hl=>lookup_relabel_local (DZ x (sv.mp (ri.mp hx)).1 hl)
 have kI:∀x∈(scope.names.filter λx=>(x.2==.local||x.2==.cell)&&x.1 != (".0":Str)).reverse.drop 1++(scope.names.filter λx=>(x.2==.local||x.2==.cell)&&x.1 != (".0":Str)).reverse.take 1,
   x.2=.local->Env.kindOf {cenv with scope:=relabel scope env} x.1=some .local:=λx hx hl=>by
  rcases lZ.mp hx with h1|h1
  ·exact hv x (ph h1) hl
  ·exact hv x (qu h1) hl
 refine Aa.holding (Aa.bind (Aa.attempt (Aa.holding (Aa.run (h₄.mono λf s' hr=>?_)))));try dsimp only
 have cp:∀{Q:Unit->Shared->Prop}{s:Shared},Q () s->Aa M A (rule "comprehension.stores-exchanged") Q s:=λq=>Aa.of (qV q);refine Aa.bind (cp ?_);refine Aa.bind (Aa.holding (hr.mono λ_ Iv Uk=>?_));obtain⟨m,hn,Uk⟩:=Uk;refine Aa.bind (Aa.of (wpAny_comp_letGo (cenv:={cenv with scope:=relabel scope env}) E3 _ Iv m kI hn λh' m' _ IE=>Aa.pure (Uk h' IE)))
end
section
variable{prog:Program}{w:World}{A:Around}{s:Shared}{env:Env}
theorem Ao.compStart1{R:Flow->Shared->Prop}
  (h0:Ao (model prog w) A (.compLoop (.ListComp elt [⟨AS,iter,[],0⟩] scope pos) 0 it acc env) R s)
  (h:Aa (model prog w) A (pyIter it) (λgU s'=>Ao (model prog w) A (.compLoop (.ListComp elt [⟨AS,iter,[],0⟩] scope pos) 0 gU acc env) R s') s):
  Ao (model prog w) A (.compStart (.ListComp elt [⟨AS,iter,[],0⟩] scope pos) 0 it acc env) R s:=by
 refine Ao.tree (λ_ _=>rfl) ?_;rw[show A.under (.compStart (.ListComp elt [⟨AS,iter,[],0⟩] scope pos) 0 it acc env)=A from pD rfl];show Aa _ _ ((compStart (.ListComp elt [⟨AS,iter,[],0⟩] scope pos) 0 it acc env).onRaise (λx=>do noteFrame x env;standAt theWindowsPlace)) _ _;refine Aa.onRaise ?_;unfold compStart;show Aa _ _ (ask>>=_) _ _;refine Aa.bind (Aa.of (wpAny_askSetting ?_));refine Aa.ite (λ_=>?_) λ_=>?_
 ·first
   |exact Aa.bind (Aa.pure (Aa.pure (And.intro rfl h0)))
   |exact Aa.pure (And.intro rfl h0)
 ·have cp:∀{Q:Unit->Shared->Prop}{s:Shared},Q () s->Aa (model prog w) A (rule "comprehension.iter-twice") Q s:=λq=>Aa.of (qV q);refine Aa.bind (cp ?_);show Aa _ _ (standAt iter.pos>>=_) _ _;exact Aa.bind (Aa.at (Aa.bind (h.mono λgU s' h'=>Aa.pure (And.intro rfl h'))))
end
section
variable{g:Gl}{F G:Fn}{d:Nat}{os:List O}{loc:List (Option V)}{K:List O->V->Prop}{p:Pos}{x:Str}{v:V}{i:Nat}
 {C:Addr} {m:Str->Option Value} {ad:AH} {KN:List (Option V)->List O->Prop} {KR:List O->V->Prop}
theorem Aft.weak{W:World}{base:Heap}{X Y:Addr->Prop}{h h':Heap}{Ae:List O}{Ag:AH}(a:Aft W base X ad h Ae Ag h')(k:∀b,X b->Y b):Aft W base Y ad h Ae Ag h':=⟨a.sr,a.kept.mono λb q=>q.imp id (k b),a.fresh⟩
theorem PR{Y:Addr->Prop}{h1 h2:Heap}(S:SR g.w g.base ad os h1)(out:¬A2 ad a)(nb:g.base.get? a=none)(nt:∀vs,¬h1.IsTuple a vs)(k:Heap.ExtBut a h1 h2)(hY:Y a):Aft g.w g.base Y ad h1 os [] h2/\∀b vs,h1.IsTuple b vs->h2.IsTuple b vs:=by
 have tp:∀b vs,h1.IsTuple b vs->h2.IsTuple b vs:=λb vs t=>by obtain⟨ob,e1,r⟩:=id t;exact⟨ob,k b ob (λq=>nt vs (q▸t)) e1,r⟩
 have S':SR g.w g.base ad os h2:=by refine⟨λb o e=>k b o (λq=>by rw[q,nb] at e;exact xO e) (S.old b o e),S.len,λi o q e1 e2=>?_,S.sep,S.new⟩;have hm:=bG e2;exact OR.mono (AU.refl _) tp (λob e=>k _ _ (λz=>out ⟨q,hm,.inl z.symm⟩) e) (λob e=>k _ _ (λz=>out ⟨q,hm,.inr z.symm⟩) e) (S.rep i o q e1 e2)
 exact⟨⟨by rw[bE];exact S',λb o e n=>k b o (λq=>n (.inr (q▸hY))) e,λ_ h=>nomatch h⟩,tp⟩
theorem NV(X:IK g d)(N:Nat)(I:Nat->List (Option V)->List O->Prop){K':List O->Prop}
  (turn:∀n loc os,n<N->I n loc os->∃u Am,X.el os n (some u)/\FJ g G d (.Name x px) u loc Am/\AG g G d elt Am os λos v=>Aw g d (λws=>call (.builtin "list.append") ws) [.ref q,v] os λAe _=>I (n+1) Am Ae)
  (done:∀loc os,I N loc os->X.el os N none/\K' os)
  {s:Shared} {Q:Flow->Shared->Prop} (hr:Bf A d) (hs:SR g.w g.base ad os s.heap) (nb:g.base.get? a=none) (QO:C≠a) (acc:∀Ag h,VR (ad++Ag) h (.ref q) av)
  (hn:∀Ae Ag m' h' tk,Aft g.w g.base (λb=>b=C\/b=a) ad s.heap Ae Ag h'->h'.Ns C m'->K' Ae->Q .next {s with heap:=h',toks:=tk}):
  ∀(j n:Nat){AE:List O}{m1:AH}{Am:List (Option V)}{mm1:Str->Option Value}{h1:Heap}{tk1:Nat},n+j=N->Aft g.w g.base (λb=>b=C\/b=a) ad s.heap AE m1 h1->Bg g G C mm1 Am (ad++m1) h1->¬A2 (ad++m1) a->X.it (ad++m1) h1 a n->I n Am AE->Ao g.M A (.compLoop (.ListComp elt [⟨.Name x px,iter,[],0⟩] scope pos) 0 (.ref a) av (G.env C)) Q {s with heap:=h1,toks:=tk1}:=by
 have bi:∀{h1 h2:Heap}{AE BM:List O}{x1 x2:AH},(∃m,h1.Ns C m)->(∃o,h1.get? a=some o)->Aft g.w g.base (λb=>b=C\/b=a) ad s.heap AE x1 h1->Aft g.w g.base (λb=>b=C\/b=a) (ad++x1) h1 BM x2 h2->Aft g.w g.base (λb=>b=C\/b=a) ad s.heap BM (x1++x2) h2:=λn1 n2 a b=>
  Aft.trans hs (λc e _=>by
   rcases e with rfl|rfl
   ·obtain⟨m,n1⟩:=n1;obtain⟨o,ho⟩:=Ns.is n1;rw[ho];rfl
   ·obtain⟨o,ho⟩:=n2;rw[ho];rfl) a b
 have hu:A.under (.compLoop (.ListComp elt [⟨.Name x px,iter,[],0⟩] scope pos) 0 (.ref a) av (G.env C))=A:=pD rfl;intro j;induction j with
 |zero=>intro n AE m1 Am mm1 h1 tk1 Oh a1 f1 out hi i1;obtain rfl:n=N:=Oh;obtain⟨e1,kn⟩:=done _ _ i1;refine Ao.tree (λ_ _=>rfl) ?_;rw[hu];show Aa g.M A ((compTurn (.ListComp elt [⟨.Name x px,iter,[],0⟩] scope pos) 0 (.ref a) av (G.env C)).onRaise _) _ _;refine Aa.onRaise ?_;rw[compTurn_list1];refine Aa.bind (Aa.at (Aa.bind (X.stop A {s with heap:=h1,toks:=tk1} _ C mm1 a n AE _ hr a1.sr f1.toFrB hi e1 λh2 Ci k=>?_)));refine jG λDL=>?_;obtain⟨o,vs,nm,ei,_,_,_,nt⟩:=X.is_ hi;obtain⟨a2,tp⟩:=PR (Y:=λb=>b=C\/b=a) a1.sr out nb (λvs⟨o',e',c,_⟩=>nt (by rw[ei] at e';obtain rfl:=bg e';exact c)) k (.inr rfl);have f2:=f1.ext QO k tp;have a3:=bi ⟨_,f1.ns⟩ ⟨_,ei⟩ a1 a2;exact DL (Aa.pure (hn AE _ mm1 h2 Ci a3 f2.ns kn))
 |succ j ih=>
  intro n AE m1 Am mm1 h1 tk1 Oh a1 f1 out hi i1;refine jG λDL=>?_;obtain⟨u,IA,e1,asg,ev⟩:=turn n Am AE (L1 [_,_,_] [] 0x210e45a068841080441 Oh) i1;refine DL (Ao.tree (λ_ _=>rfl) ?_);clear DL;rw[hu];show Aa g.M A ((compTurn (.ListComp elt [⟨.Name x px,iter,[],0⟩] scope pos) 0 (.ref a) av (G.env C)).onRaise _) _ _;refine Aa.onRaise ?_;rw[compTurn_list1];refine Aa.bind (Aa.at (Aa.bind (X.next A {s with heap:=h1,toks:=tk1} _ C mm1 a n AE u _ hr a1.sr f1.toFrB hi e1 λval h2 Ci sb Kk rv=>?_)));refine jG λDL=>?_;obtain⟨o,vs,nm,ei,_,_,_,nt⟩:=X.is_ hi;have k:Heap.ExtBut a h1 h2:=λb o n e=>(sb.2 b n).trans e;obtain⟨a2,tp⟩:=PR (Y:=λb=>b=C\/b=a) a1.sr out nb (λvs⟨o',e',c,_⟩=>nt (by rw[ei] at e';obtain rfl:=bg e';exact c)) k (.inr rfl);have WW:=bi ⟨_,f1.ns⟩ ⟨_,ei⟩ a1 a2;have f2:=f1.ext QO k tp;have b6:=VR.mono (AU.refl _) tp _ _ rv;have S2:=a2.sr;rw[bE] at WW S2;refine DL (Aa.bind (Hv (s:={s with heap:=h2,toks:=Ci}) Kk (Aa.bind ?_)));clear DL;refine asg A {s with heap:=h2,toks:=Ci} _ C mm1 AE val _ hr S2 f2 b6 λUf h3 EI a3 f3=>Aa.bind (Aa.bind ?_);refine jG λDL=>?_;have QV:Aft g.w g.base (·=C) (ad++m1) h2 AE [] h3:=a3;have S3:SR g.w g.base (ad++m1) AE h3:=by have:=QV.sr;rwa[bE] at this
  obtain⟨o2,vs2,nm2,ei2,_,_,_,nt2⟩:=X.is_ Kk;have II:=bi ⟨_,f2.ns⟩ ⟨_,ei2⟩ WW (QV.weak λ_ q=>.inl q);rw[bE] at II;have e3:h3.get? a=some o2:=QV.kept a o2 ei2 λq=>q.elim out λq=>QO q.symm;have KC:∀{Ae:List O}{Ag:AH}{h':Heap},Aft g.w g.base (·=C) (ad++m1) h3 Ae Ag h'->X.it (ad++m1++Ag) h' a (n+1)/\¬A2 (ad++m1++Ag) a:=λ{Ae Ag h'}a4=>by
   have e4:h'.get? a=some o2:=a4.kept a o2 e3 λq=>q.elim out λq=>QO q.symm;refine⟨X.keep Kk (AU.app _ _) (λb vs t=>f3.toFrB.tup S3 a4 b vs (f2.toFrB.tup S2 QV b vs t)) (λo e=>?_),λq=>?_⟩
   ·rw[ei2] at e;obtain rfl:=bg e;exact e4
   ·rcases q.app with q|⟨p,hp,q⟩
    ·exact out q
    ·have:=a4.fresh p hp;rcases q with rfl|rfl
     ·rw[this.1] at e3;exact xO e3
     ·rw[this.2] at e3;exact xO e3
  refine DL (ev A {s with heap:=h3,toks:=EI} _ C Uf _ hr S3 f3 λSN m4 v4 y4 h4 Of a4 r4 k4=>Aa.bind ?_);clear DL;have f4:=f3.after S3 a4;refine Aw.run2 k4 hr a4.sr f4.toFrB (by rw[bF];exact acc _ _) r4 λXq m5 v5 y5 h5 bh a5 _ k5=>Aa.pure (Aa.pure ⟨rfl,?_⟩);have ig:=a4.trans f3.toFrB S3 a5;have lS:=bi ⟨_,f3.ns⟩ ⟨_,e3⟩ II (ig.toAft.weak λ_ q=>.inl q);have f5:=f4.after a4.sr a5;refine jG λDL=>?_;obtain⟨hi5,Q3⟩:=KC ig.toAft;rw[bF] at hi5 Q3;exact DL (ih (n+1) (gH (L1 [_,_,_] [] 0x104390e81a21044108720d68041 Oh) (L1 [_,_,_] [] 0x4391683a2184410e43ad00041 Oh)) lS (by rw[bF,bF] at f5;exact f5) Q3 hi5 k5)
end
section
variable{g:Gl}{F G:Fn}{d:Nat}{os:List O}{loc:List (Option V)}{K:List O->V->Prop}{p:Pos}{x:Str}{v:V}{i:Nat}
 {L:Addr} {m:Str->Option Value} {ad:AH} {KN:List (Option V)->List O->Prop} {KR:List O->V->Prop}
theorem Aft.iterN{h0 h1 h2:Heap}(a1:Aft g.w g.base (·=L) ad h0 AE m1 h1)(fr:h0.get? a=none)(out:¬A2 (ad++m1) a)(nb:g.base.get? a=none)
  (nt:∀vs,¬h1.IsTuple a vs) (k:Heap.ExtBut a h1 h2):Aft g.w g.base (·=L) ad h0 AE m1 h2/\∀b vs,h1.IsTuple b vs->h2.IsTuple b vs:=by
 obtain⟨b,tp⟩:=PR (Y:=(·=a)) a1.sr out nb nt k rfl;exact⟨⟨by have:=b.sr;rwa[bE] at this,λc o e n=>k c o (λq=>by rw[q,fr] at e;exact xO e) (a1.kept c o e n),a1.fresh⟩,tp⟩
noncomputable abbrev Fn.comp(F:Fn)(scope:Scope)(cl:List (Str×Addr))(names:List Str)(globs:List (Str×V))(cix:List (Str×Nat))(L:Addr):Fn:=⟨F.qual,relabel scope (F.env L),F.fa,F.cd,cl,names,globs,some (F.qual++".<locals>.",L),cix⟩
theorem U5{elt:Expr}{px Iz pos:Pos}{scope:Scope}{cl:List (Str×Addr)}(F0:BV g F)(GL:F.inner=none)
  (Xw:∀L,swapsWith (.ListComp elt [⟨.Name x px,.Call func args [] p',[],0⟩] scope pos) (some (.Name y py)) Iz.line (F.env L)=pure true) (FZ:∀L,closureFor scope (F.env L)=pure cl)
  (F1:∀z∈scope.names,z.2≠.cell) (E3:scope.kind=.function) (DZ:∀z∈scope.names,z.2=.local->scope.names.lookup z.1=some .local) (Ou:∀z∈cix,z∈F.cix/\cl.lookup z.1=F.cells.lookup z.1)
  (h:Cd g F d SF (λL=>eval (.Call func args [] p') (F.env L)) loc os λos q=>∃(N:Nat)(I:Nat->List (Option V)->List O->Prop),Builtin.Range.rangeSize q.1 q.2.1 q.2.2=N/\Builtin.Range.small q.1 q.2.1 q.2.2=true/\I 0 [none] (os++[.list []])/\
   (∀L n loc Ae,n<N->I n loc Ae->∃Am,FJ g (F.comp scope cl [x] globs cix L) d (.Name x px) (.int (q.1+n*q.2.2)) loc Am/\AG g (F.comp scope cl [x] globs cix L) d elt Am Ae λAE v=>Aw g d (λws=>call (.builtin "list.append") ws) [.ref os.length,v] AE λAe _=>I (n+1) Am Ae)/\
   (∀Am Ae,I N Am Ae->∃loc',Upd y (.ref os.length) F.names loc loc'/\KN loc' Ae)):
  Fs g F d (.Assign [.Name y py] (.ListComp elt [⟨.Name x px,.Call func args [] p',[],0⟩] scope pos) Iz) loc os KN KR:=by
 intro A s ad L m Q hr hs hf hn AT;rw[exec_Assign_Name_used _ _ _ _ (Xw L)];refine Aa.bind (Aa.at (Aa.bind ?_));show Aa _ A (do let _<-PySem.comprehension (.ListComp elt [⟨.Name x px,.Call func args [] p',[],0⟩] scope pos) scope (F.env L) _ (newList []) false (eval (.Call func args [] p') (F.env L)) (some (assign (.Name y py) (F.env L)))) _ s;refine Aa.bind (Aa.mono (Q:=λ_ s'=>Q .next s') (Aa.comprehension (cl:=cl) rfl (λ_=>rfl) (FZ L) E3 DZ ?_) λ_ s' hq=>Aa.pure (Aa.pure hq));refine h A s ad L m _ hr hs hf λAE m1 q x1 h1 tk1 a1 r1 k1=>?_;refine jG λDL=>?_;obtain⟨N,I,hN,hsm,i0,turn,done⟩:=k1;have f1:=hf.after hs a1;refine DL (Fc (g:=g) (d:=d) (os:=AE) hN hsm A {s with heap:=h1,toks:=tk1} _ L m x1 _ hr a1.sr f1.toFrB r1 λh2 Ci k2 Kk=>?_);clear DL;have a2:AF g L m (ad++m1) h1 AE [] h2:=AF.grow a1.sr f1.toFrB (λb o e _=>k2 b o e) (f1.ns.at' λo e=>k2 L o e) λb o e=>k2 b o (a1.sr.old b o e);have OG:=A9 h1;have f2:=f1.after a1.sr a2;have S2:=a2.sr;rw[bE] at f2 S2;refine Ps (vs:=[]) (K:=λos v=>v=.ref AE.length/\os=AE++[.list []]) (by decide) ⟨rfl,rfl⟩ A {s with heap:=h2,toks:=Ci} _ L m [] _ hr S2 f2.toFrB rfl λKv m3 v3 y3 h3 EI a3 r3 k3=>?_;refine jG λDL=>?_;obtain⟨rfl,rfl⟩:=k3;have f3:=f2.after S2 a3;refine DL (Aa.of (wpAny_newFunctionEnv (around:=some (F.env L)) F1 (λ_ hz=>nomatch hz) (λh4 n4 Ue=>?_) E3));clear DL;dsimp only at n4 Ue⊢;obtain⟨C,hC⟩:∃C,h3.objs.size=C:=⟨_,rfl⟩;rw[hC] at n4 Ue⊢;have Us:∀sc,({newEnv scope C (F.env L).globals cl (F.env L).qual none .none (some (F.env L)) builtinsNs with scope:=sc}:Env)={(F.comp scope cl [x] globs cix L).env C with scope:=sc}:=λsc=>by unfold newEnv Fn.env;simp only[GL];rfl
 rw[Us];obtain⟨m4,n4⟩:∃m4,h4.Ns C m4:=⟨_,n4⟩;have OF:h3.get? C=none:=hC▸A9 h3;have k4:∀b o,h3.get? b=some o->h4.get? b=some o:=λb o e=>Ue.extBut b o (λq=>by rw[q,OF] at e;exact xO e) (cP _ e);have ks:∀{b o},h1.get? b=some o->¬A2 (ad++m1) b->b≠L->h4.get? b=some o:=λ{b o}e n1 n2=>k4 b o (a3.kept b o (k2 b o e) λq=>q.elim n1 n2);obtain⟨ia,hia⟩:∃ia,h1.objs.size=ia:=⟨_,rfl⟩;rw[hia] at OG⊢;refine jG λDL=>?_;have Kk:(D5 g d q.1 q.2.2 N).it (ad++m1) h2 ia 0:=hia▸Kk;obtain⟨oi,_,_,ei2,_,_,_,nti⟩:=(D5 g d q.1 q.2.2 N).is_ Kk;have nL:ia≠L:=λe=>by obtain⟨o,ho⟩:=Ns.is f1.ns;rw[<-e,OG] at ho;exact xO ho
 have XG:¬A2 (ad++m1) ia:=λz=>by obtain⟨o,e,_⟩:=a1.sr.live z;rw[OG] at e;exact xO e
 have ib:h3.get? ia=some oi:=a3.kept ia oi ei2 λz=>z.elim XG nL;have c5:¬A2 (ad++m1++m3) ia:=λz=>by
  rcases z.app with z|⟨p,hp,z⟩
  ·exact XG z
  ·have:=a3.fresh p hp;rcases z with rfl|rfl
   ·rw[this.1] at ei2;exact xO ei2
   ·rw[this.2] at ei2;exact xO ei2
 have lw:C≠ia:=λe=>by rw[e,ib] at OF;exact Oo OF
 have j9:g.base.get? ia=none:=by
  induction e:g.base.get? ia using il with
  |none=>rfl
  |some o=>rw[a1.sr.old _ _ e] at OG;exact Oo OG
 have ka:g.base.get? C=none:=by
  induction e:g.base.get? C using il with
  |none=>rfl
  |some o=>rw[a3.sr.old _ _ e] at OF;exact Oo OF
 have Q2:¬A2 (ad++m1++m3) C:=λz=>by obtain⟨o,e,_⟩:=a3.sr.live z;rw[OF] at e;exact xO e
 have WU:L≠C:=λe=>by obtain⟨o,ho⟩:=Ns.is f3.ns;rw[e,OF] at ho;exact xO ho
 have S4:=a3.sr.keeps k4;have g6:(D5 g d q.1 q.2.2 N).it (ad++m1++m3) h4 ia 0:=(D5 g d q.1 q.2.2 N).keep Kk (AU.app _ _) (λb vs t=>by obtain⟨o,e,r⟩:=f2.toFrB.tup S2 a3.toAft b vs t;exact⟨o,k4 _ _ e,r⟩) λo e=>by rw[ei2] at e;obtain rfl:=bg e;exact k4 _ _ ib
 simp only[VR] at r3;obtain⟨pq,hpq,rfl⟩:=r3;have lU:Bg g (F.comp scope cl [x] globs cix L) C m4 [none] (ad++m1++m3++[]) h4:=by
  rw[bE];refine⟨⟨n4,Q2,mi f3.above (hC▸qr f3.ns.lt)⟩,λx v q=>?_,λz hz=>?_⟩
  ·rcases q with _|q;cases q
  ·obtain⟨z1,z2⟩:=Ou z hz;obtain⟨c,c1,c2⟩:=f3.cel z z1;exact⟨c,z2.trans c1,c2⟩
 have c7:=NV (g:=g) (G:=F.comp scope cl [x] globs cix L) (elt:=elt) (iter:=.Call func args [] p') (px:=px) (scope:=scope) (pos:=pos) (q:=AE.length) (D5 g d q.1 q.2.2 N) N I
  (λn loc os hn hI=>let⟨Am,z1,z2⟩:=turn L n loc os hn hI;⟨_,Am,by show if n<N then _ else _;rw[lW hn],z1,z2⟩)
  (K':=λos=>∃loc',Upd y (.ref AE.length) F.names loc loc'/\KN loc' os) (λloc os hI=>⟨by show if N<N then _ else _;rw[jU (pu _)],done loc os hI⟩)
  (A:=A) (s:={s with heap:=h4,toks:=EI}) (a:=ia) (av:=.ref pq.1) (Q:=λ_ s'=>Aa g.M A (assign (.Name y py) (F.env L) (.ref pq.1)) (λ_ Iv=>∃m,Iv.heap.Ns C m/\∀h',Heap.SameBut C Iv.heap h'->Q .next {Iv with heap:=h'}) s') hr S4 j9 lw (λAg h=>by simp only[VR];exact⟨pq,AU.app _ _ _ _ hpq,rfl⟩)
 have lp:Ao g.M A (.compLoop (.ListComp elt [⟨.Name x px,.Call func args [] p',[],0⟩] scope pos) 0 (.ref ia) (.ref pq.1) ((F.comp scope cl [x] globs cix L).env C)) (λ_ s'=>Aa g.M A (assign (.Name y py) (F.env L) (.ref pq.1)) (λ_ Iv=>∃m,Iv.heap.Ns C m/\∀h',Heap.SameBut C Iv.heap h'->Q .next {Iv with heap:=h'}) s') {s with heap:=h4,toks:=EI}:=by
  refine c7 (λXq m5 mC h5 bh a5 nC k5=>?_) N 0 (gH (L0 [_] [] 0xce8041) (L0 [_] [] 433061953)) (Aft.refl S4) lU (by rw[bE];exact c5) (by rw[bE];exact g6) i0;refine jG λg5=>?_;obtain⟨loc',u5,k5⟩:=k5;have gR:h4.Ns L m:=f3.ns.at' λo e=>k4 _ _ e;have b5:AF g L m (ad++m1) h1 Xq (m3++m5) h5:=by
   refine⟨⟨by rw[<-bF];exact a5.sr,λb o e n=>?_,λz hz=>?_⟩,gR.at' λo e=>a5.kept L o e λz=>z.elim f3.out λz=>z.elim WU λz=>nL z.symm⟩
   ·refine a5.kept b o (ks e (λz=>n (.inl z)) λz=>n (.inr z)) λz=>?_;rcases z with z|z|z
    ·rcases z.app with z|⟨w,hw,z⟩
     ·exact n (.inl z)
     ·have:=a3.fresh w hw;have e2:=k2 b o e;rcases z with rfl|rfl
      ·rw[this.1] at e2;exact xO e2
      ·rw[this.2] at e2;exact xO e2
    ·have e3:=a3.kept b o (k2 b o e) n;rw[z,OF] at e3;exact xO e3
    ·rw[z,OG] at e;exact xO e
   ·have key:∀c,h4.get? c=none->h1.get? c=none:=λc hc=>by
     induction e:h1.get? c using il with
     |none=>rfl
     |some o=>
      exfalso;by_cases q:A2 (ad++m1) c\/c=L
      ·rcases q with q|rfl
       ·obtain⟨o',e',_⟩:=S4.live q.left;rw[hc] at e';exact xO e'
       ·obtain⟨o',e'⟩:=Ns.is gR;rw[hc] at e';exact xO e'
      ·rw[ks e (λz=>q (.inl z)) λz=>q (.inr z)] at hc;exact Oo hc
    have XH:∀c,h2.get? c=none->h1.get? c=none:=λc hc=>by
     induction e:h1.get? c using il with
     |none=>rfl
     |some o=>rw[k2 c o e] at hc;exact Oo hc
    rcases lZ.mp hz with hz|hz
    ·exact⟨XH _ (a3.fresh z hz).1,XH _ (a3.fresh z hz).2⟩
    ·exact⟨key _ (a5.fresh z hz).1,key _ (a5.fresh z hz).2⟩
  have gL:=a1.trans hf.toFrB hs b5;have f5:=hf.after hs gL;have lD:s.heap.get? C=none:=by
   induction e:s.heap.get? C using il with
   |none=>rfl
   |some o=>
    exfalso;by_cases q:A2 ad C\/C=L
    ·rcases q with q|q
     ·exact Q2 q.left.left
     ·exact WU q.symm
    ·rw[a3.kept C o (k2 C o (a1.kept C o e q)) λz=>z.elim (λz=>Q2 z.left) λz=>WU z.symm] at OF;exact Oo OF
  have Q3:¬A2 (ad++(m1++(m3++m5))) C:=λz=>by
   rw[<-bF,<-bF] at z;rcases z.app with z|⟨w,hw,z⟩
   ·exact Q2 z
   ·have:=a5.fresh w hw;obtain⟨o,ho⟩:=Ns.is n4;rcases z with rfl|rfl
    ·rw[this.1] at ho;exact xO ho
    ·rw[this.2] at ho;exact xO ho
  have r5:VR (ad++(m1++(m3++m5))) h5 (.ref AE.length) (.ref pq.1):=by simp only[VR];exact⟨pq,by rw[<-bF,<-bF];exact AU.app _ _ _ _ hpq,rfl⟩
  refine g5 (EO A _ _ _ (EE (s:=s) (tk1:=bh) F0 hs hf.toFrB gL.toAft f5 u5 r5 λh6 jZ a6 f6 gO=>?_));clear g5;refine⟨mC,nC.sameBut gO (Ne.symm WU),λh7 gN=>?_⟩;have kb:h6.Ns C mC:=nC.sameBut gO (Ne.symm WU);obtain⟨a7,tp7⟩:=Aft.iterN a6 lD Q3 ka (Ns.notTuple kb) gN.extBut;exact hn Xq _ loc' _ h7 jZ a7 (f6.ext WU gN.extBut tp7) k5
 exact DL (Ao.compStart1 lp (Aa.of (wpAny_pyIter_rangeiter g6 lp)))
end
inductive Md(x:Str)(i:Nat):List (Str×Nat)->Prop
 |head {n}:Md x i ((x,i)::n)
 |tail {y n}:Md x i n->Md x i (y::n)
theorem Md.mem(h:Md x i l):(x,i)∈l:=by
 induction h with
 |head=>exact .head _
 |tail _ ih=>exact .tail _ ih
def Iu(F:Fn)(x:Str):Prop:=F.scope.names.lookup x=some .cell/\(x==("__debug__":Str))=false
section
variable{g:Gl}{d:Nat}{c:Cx}{os os0:List O}{U:List Nat}{H H':AW}{loc:List (Option V)}{K:List O->V->Prop}{KN:List (Option V)->List O->Prop}{KR:List O->V->Prop}{p xp:Pos}{e:Expr}{x:Str}{v:V}{i:Nat}{Ad:List Stmt}{st:Stmt}
def bc(x:Str)(c:Cx)(v:V)(os:List O)(P:List O->Prop):Prop:=∃i u,(x,i)∈c.F.cix/\os[i]? =some (.cell u)/\P (os.set i (.cell (some v)))
theorem Ss{F:Fn}(hn:(F.cix.map (·.1)).Nodup)(a:(x,i)∈F.cix)(b:(x,j)∈F.cix):i=j:=by have:=Jy hn a;rw[Jy hn b] at this;exact(bg this).symm
theorem UE(hl:Iu c.F x)(hn:(c.F.cix.map (·.1)).Nodup)(hx:∃i,Md x i c.F.cix)(hs:RC e=true)(h:Ev c e loc os λos v=>bc x c v os λos=>Xs c Ad loc os KN KR):Fs c.g c.F c.d (.Assign [.Name x xp] e p) loc os (kX c Ad KN KR) KR:=by obtain⟨i,hi⟩:=hx;refine(U6 (u:=λ_=>none) c.ok hi.mem hl.1 (AG.mono h λos v k=>?_) (F9 hs));obtain⟨j,u,hj,ho,k⟩:=k;obtain rfl:=Ss hn hi.mem hj;exact⟨u,ho,k⟩
theorem UD{Iz:Pos}{scope:Scope}{cl:List (Str×Addr)}{globs:List (Str×V)}(WQ:∀L,BV c.g (c.F.comp scope cl [x] globs cix L))(GL:c.F.inner=none)
  (Xw:∀L,swapsWith (.ListComp elt [⟨.Name x px,.Call func args [] p',[],0⟩] scope pos) (some (.Name y py)) Iz.line (c.F.env L)=pure true) (FZ:∀L,closureFor scope (c.F.env L)=pure cl)
  (F1:∀z∈scope.names,z.2≠.cell) (E3:scope.kind=.function) (DZ:∀z∈scope.names,z.2=.local->scope.names.lookup z.1=some .local) (Ou:∀z∈cix,z∈c.F.cix/\cl.lookup z.1=c.F.cells.lookup z.1) (ha:B9 args=true) (hc:Y1 func=true)
  (h:Ev c func loc os λos f=>Ls c p' args loc os λos vs=>GJ c.g c.d SF f vs os λos q=>∃(N:Nat)(I:Nat->List (Option V)->List O->Prop),Builtin.Range.rangeSize q.1 q.2.1 q.2.2=N/\Builtin.Range.small q.1 q.2.1 q.2.2=true/\I 0 [none] (os++[.list []])/\
   (∀L n loc Ae,n<N->I n loc Ae->∃w,loc=[w]/\Ev ⟨c.g,c.F.comp scope cl [x] globs cix L,c.d,WQ L⟩ elt [some (.int (q.1+n*q.2.2))] Ae λAE v=>Aw c.g c.d (λws=>call (.builtin "list.append") ws) [.ref os.length,v] AE λAe _=>I (n+1) [some (.int (q.1+n*q.2.2))] Ae)/\
   (∀Am Ae,I N Am Ae->aV c y (.ref os.length) loc (λloc'=>Xs c Ad loc' Ae KN KR))):Fs c.g c.F c.d (.Assign [.Name y py] (.ListComp elt [⟨.Name x px,.Call func args [] p',[],0⟩] scope pos) Iz) loc os (kX c Ad KN KR) KR:=by
 refine(U5 c.ok GL Xw FZ F1 E3 DZ Ou (globs:=globs) (Cd.mono (MT h (BJ ha).1 (qr (BJ ha).2) (Ig hc)) λos q k=>?_));obtain⟨N,I,h1,h2,h3,turn,done⟩:=k;refine⟨N,I,h1,h2,h3,λL n loc Ae hn hI=>?_,λAm Ae hI=>?_⟩
 ·obtain⟨w,rfl,k⟩:=turn L n loc Ae hn hI;exact⟨_,Ki (WQ L) .head,k⟩
 ·obtain⟨loc',u,k⟩:=done Am Ae hI;exact⟨loc',u,k⟩
end
noncomputable abbrev EH:Fn:=⟨"_law_later_options",fS (st 117),748,.ref 747,[],["ack","edge","octets","rights","is_whole","turn","which","told","row","right"],[("range",.imm (.type "range")),("_law_digit",.imm (.ref 722)),("len",.imm (.builtin "len")),("_law_four",.imm (.ref 729)),("_law_filled",.imm (.ref 736))],none,[]⟩
theorem Ho(E:AM g):BV g EH:=⟨by kernel_rfl,Er (by kernel_rfl),by decide+kernel,Et E (by kernel_rfl)⟩
theorem BV.wc{T:Fn}(h:BV g T)(c:List (Str×Addr))(i:List (Str×Nat)):BV g (T.wc c i):=⟨h.kind,h.loc,h.nodup,h.glob⟩
theorem Qw{g:Gl}(E:AM g):M5 g EH (bS (Tq g.w.params)):=⟨⟨.type "function",none,#[],by rw[E.K];kernel_rfl⟩,by kernel_rfl,by kernel_rfl,by kernel_rfl,by kernel_rfl,by kernel_rfl,by kernel_rfl,by kernel_rfl,by rw[E.K];kernel_rfl,⟨by kernel_rfl,by kernel_rfl⟩⟩
theorem eW{α:Type}{l:List α}(h:l.length=2):∃a b,l=[a,b]:=by
 induction l using cU with
 |nil=>exact nomatch h
 |cons a l=>induction l using cU with
  |nil=>exact nomatch h
  |cons b l=>induction l using cU with
   |nil=>exact⟨a,b,rfl⟩
   |cons c l=>exact nomatch h
theorem Nr(E:AM g){os:List O}{K:List O->V->Prop}
  (h:∀b n,os.length=n->Ex g (EH.wc [("spots",b+1),("bag",b)] [("bag",n),("spots",n+1)]) d (fB (st 117)) [some a1,some a2,none,none,none,none,none,none,none,none] (os++[.cell (some a0),.cell none]) (λ_ os=>K os .none) K):DY g (d+1) 748 [a0,a1,a2] os K:=
 NW (T:=EH) (Ho E) (Qw E) (body:=fB (st 117)) (by kernel_rfl) (c0:="bag") (cn:=["spots"]) (ps:=["ack","edge"]) (rest:=["octets","rights","is_whole","turn","which","told","row","right"]) rfl (vs:=[a1,a2]) rfl (λ_=>rfl) (λ_=>rfl) (by decide) (by kernel_rfl)
  (λs y Ab hv=>by obtain⟨x1,x2,rfl⟩:∃x1 x2,Ab=[x1,x2]:=eW hv;exact .of_eq (by kernel_rfl)) λb=>h b _ rfl
theorem Lx{g:Gl}(E:AM g){d:Nat}{os:List O}{K:List O->V->Prop}{a0 a1 a2:V}(h:DY g d 748 [a0,a1,a2] os K):Az g d (.imm (.ref 748)) [a0,a1,a2] os K:=Az.ofCode ⟨.type "function",none,bS (Tq g.w.params),#[],by rw[E.K];kernel_rfl⟩ h
structure Le where
 i:Nat
 o:O
 w:Bool
abbrev Lg:=List Le
abbrev Loc:=List (Option V)
noncomputable def Cc(H:Lg):AW:=H.map λe=>(e.i,e.o)
structure Mx(c:Cx)where
 os0:List O
 U:List Nat
 cls:∀C∈Fz,CK c.g C
 R:Lg->V->Prop
 N:Loc->Lg->Prop
structure Sg{c:Cx}(m:Mx c)(H:Lg)(os:List O):Prop where
 st:St m.os0 m.U (Cc H) os
 own:∀e∈H,e.w=true->e.i∈m.U\/m.os0.length<=e.i
set_option genCtorIdx true in
inductive Rs where
 |v (a:V)
 |b (t:Bool)
 |l (vs:List V)
 |n
 |o (e:Le) (acc rest:Lg)
set_option genCtorIdx true in
inductive FV where
 |bin1 (r:Expr) (op:Operator)
 |bin2 (op:Operator) (a:V)
 |cmp1 (r:Expr) (op:CmpOp)
 |cmp2 (op:CmpOp) (a:V)
 |ch1 (Iw DQ:CmpOp) (r r2:Expr)
 |ch2 (Iw DQ:CmpOp) (r2:Expr) (a:V)
 |ch3 (DQ:CmpOp) (r2:Expr) (b:V)
 |vnot
 |vneg
 |vand (r:Expr)
 |vor (r:Expr)
 |attr (x:Str)
 |sub1 (l r:Expr)
 |sub2 (l r:Expr) (o:V)
 |sub3 (l r:Expr) (i:V)
 |sl1 (l s:Expr) (lo hi:Option Expr)
 |sl2 (l s:Expr) (hi:Option Expr) (o:V)
 |sl3 (l s:Expr) (o a:V)
 |cal1 (p:Pos) (args:List Expr)
 |me1 (p:Pos) (name:Str) (args:List Expr)
 |l1 (p:Pos) (es:List Expr)
 |tof
 |asn (x:Str) (Ad:List Stmt)
 |ata1 (o:Expr) (x:Str) (Ad:List Stmt)
 |ata2 (x:Str) (a:V) (Ad:List Stmt)
 |asu1 (o i:Expr) (Ad:List Stmt)
 |asu2 (i:Expr) (a:V) (Ad:List Stmt)
 |asu3 (a o:V) (Ad:List Stmt)
 |asu4 (a i:V) (Ad:List Stmt)
 |exs (Ad:List Stmt)
 |ret
 |unp (xs:List Str) (Ad:List Stmt)
 |swp (xs:List Str) (Ad:List Stmt)
 |cel
 |asc (x:Str) (Ad:List Stmt)
 |asc2 (a:V) (Ad:List Stmt)
 |frv (t:Expr) (body Ad:List Stmt)
 |frf (p:Pos) (args:List Expr) (t:Expr) (body Ad:List Stmt)
set_option genCtorIdx true in
inductive FB where
 |ifx (b o:Expr)
 |tnot
 |tand (es:List Expr)
 |tor (es:List Expr)
 |tif (b o:Expr)
 |sif (b o Ad:List Stmt)
 |jif (b o:List Stmt)
 |whl (P:Loc->Lg->Prop) (body Ad:List Stmt)
set_option genCtorIdx true in
inductive FL where
 |cal2 (f:V)
 |me2 (id:String) (o:V)
 |tup
 |lst
 |l2 (a:V)
 |frr (f:V) (t:Expr) (body Ad:List Stmt)
set_option genCtorIdx true in
inductive FN where
 |seq (Ad:List Stmt)
 |unb (xs:List Str) (vs:List V) (Ad:List Stmt)
 |fin (P:Loc->Lg->Prop)
 |one (t:Expr) (body:List Stmt) (u:V)
 |unr (t:Expr) (body Ad:List Stmt) (l:List V)
set_option genCtorIdx true in
inductive Fr where
 |v (f:FV)
 |b (f:FB)
 |l (f:FL)
 |n (f:FN)
set_option genCtorIdx true in
inductive CP where
 |ev (e:Expr)
 |te (e:Expr)
 |ts (op:BoolOp) (es:List Expr)
 |ls (p:Pos) (es:List Expr)
 |eo (e:Option Expr)
 |xs (ss:List Stmt)
 |r (x:Rs)
noncomputable def rv{α:Type}:List α->List α->List α
 |[],l=>l
 |x::a,l=>rv a (x::l)
theorem Bc{α:Type}(a l:List α):rv a l=a.reverse++l:=by
 induction a generalizing l with
 |nil=>rfl
 |cons x a ih=>show rv a (x::l)=_;rw[ih];simp
section
variable{c:Cx}(m:Mx c)
def Wn(H:Lg)(T:List O->Prop):Prop:=∀os,Sg m H os->T os
def cV(J:Loc->Rs->Lg->Prop)(loc:Loc):List O->V->Prop:=λos v=>∃H,Sg m H os/\J loc (.v v) H
def cB(J:Loc->Rs->Lg->Prop)(loc:Loc):List O->Bool->Prop:=λos t=>∃H,Sg m H os/\J loc (.b t) H
def cL(J:Loc->Rs->Lg->Prop)(loc:Loc):List O->List V->Prop:=λos l=>∃H,Sg m H os/\J loc (.l l) H
def cN(J:Loc->Rs->Lg->Prop):Loc->List O->Prop:=λloc os=>∃H,Sg m H os/\J loc .n H
noncomputable def cR:List O->V->Prop:=λos v=>∃H,Sg m H os/\m.R H v
abbrev cX(J:Loc->Rs->Lg->Prop)(loc:Loc)(Ad:List Stmt):List O->Prop:=λos=>Xs c Ad loc os (cN m J) (cR m)
abbrev oB(c:Cx)(op:Operator)(a:V)(K:List O->V->Prop):List O->V->Prop:=λos b=>Aw c.g c.d (Cv op) [a,b] os K
abbrev oC(c:Cx)(op:CmpOp)(a:V)(K:List O->V->Prop):List O->V->Prop:=λos b=>Aw c.g c.d (BC op) [a,b] os K
def bL(J:Loc->Rs->Lg->Prop)(loc:Loc)(t:Expr)(body Ad:List Stmt)(os:List O)(q:Int×Int×Int):Prop:=∃(N:Nat)(I:Nat->Loc->List O->Prop),Builtin.Range.rangeSize q.1 q.2.1 q.2.2=N/\Builtin.Range.small q.1 q.2.1 q.2.2=true/\I 0 loc os/\
 (∀n loc os,n<N->I n loc os->∃Am,FJ c.g c.F c.d t (.int (q.1+n*q.2.2)) loc Am/\Xs c body Am os (λloc' Ae=>I (n+1) loc' Ae) (cR m))/\(∀loc os,I N loc os->cX m J loc Ad os)
def ji(J:Loc->Rs->Lg->Prop)(loc:Loc)(t:Expr)(body Ad:List Stmt)(os:List O)(a:V):Prop:=∃(X:IK c.g c.d)(N:Nat)(I:Nat->Loc->List O->Prop),DC c.g c.d VR a os X/\I 0 loc os/\
 (∀n loc os,n<N->I n loc os->∃u Am,X.el os n (some u)/\FJ c.g c.F c.d t u loc Am/\Xs c body Am os (λloc' Ae=>I (n+1) loc' Ae) (cR m))/\(∀loc os,I N loc os->X.el os N none/\cX m J loc Ad os)
def IV(f:FV)(J:Loc->Rs->Lg->Prop)(loc:Loc)(H:Lg)(a:V):Prop:=match f with
 |.bin1 r op=>Wn m H λos=>Ev c r loc os (oB c op a (cV m J loc))
 |.bin2 op x=>Wn m H λos=>oB c op x (cV m J loc) os a
 |.cmp1 r op=>Wn m H λos=>Ev c r loc os (oC c op a (cV m J loc))
 |.cmp2 op x=>Wn m H λos=>oC c op x (cV m J loc) os a
 |.ch1 Iw DQ r r2=>Wn m H λos=>Ev c r loc os λos b=>oC c Iw a (kOr1 DQ r2 b) os b
 |.ch2 Iw DQ r2 x=>Wn m H λos=>oC c Iw x (kOr1 DQ r2 a) os a
 |.ch3 DQ r2 b=>Wn m H λos=>kOr1 DQ r2 b os a
 |.vnot=>∃t,a=.bool t/\J loc (.v (.bool !t)) H
 |.vneg=>∃i,a=.int i/\J loc (.v (.int (-i))) H
 |.vand r=>∃t,a=.bool t/\(t=true->Wn m H λos=>Ev c r loc os (cV m J loc))/\(t=false->J loc (.v (.bool false)) H)
 |.vor r=>∃t,a=.bool t/\(t=true->J loc (.v (.bool true)) H)/\(t=false->Wn m H λos=>Ev c r loc os (cV m J loc))
 |.attr x=>Wn m H λos=>Aw c.g c.d (Kg x) [a] os (cV m J loc)
 |.sub1 l r=>Wn m H λos=>Ev c r loc os λos i=>Aw c.g c.d (CQ l r) [a,i] os (cV m J loc)
 |.sub2 l r o=>Wn m H λos=>Aw c.g c.d (CQ l r) [o,a] os (cV m J loc)
 |.sub3 l r i=>Wn m H λos=>Aw c.g c.d (CQ l r) [a,i] os (cV m J loc)
 |.sl1 l s lo hi=>Wn m H λos=>Eo c lo loc os λos x=>Eo c hi loc os λos y=>QZ c.g c.d (O8 c.g.M l s) [a,x,y] os (cV m J loc)
 |.sl2 l s hi o=>Wn m H λos=>Eo c hi loc os λos y=>QZ c.g c.d (O8 c.g.M l s) [o,a,y] os (cV m J loc)
 |.sl3 l s o x=>Wn m H λos=>QZ c.g c.d (O8 c.g.M l s) [o,x,a] os (cV m J loc)
 |.cal1 p args=>Wn m H λos=>Ls c p args loc os λos vs=>Az c.g c.d a vs os (cV m J loc)
 |.me1 p name args=>Wn m H λos=>∃id,SG c.g os name id a/\Ls c p args loc os λos vs=>Aw c.g c.d (λws=>call (.builtin id) ws) (a::vs) os (cV m J loc)
 |.l1 p es=>Wn m H λos=>Ls c p es loc os λos vs=>cL m J loc os (a::vs)
 |.tof=>∃t,a=.bool t/\J loc (.b t) H
 |.asn x Ad=>Wn m H λos=>aV c x a loc λloc'=>cX m J loc' Ad os
 |.ata1 o x Ad=>Wn m H λos=>Ev c o loc os λos ov=>He c.g c.d (KW x) [ov,a] os (cX m J loc Ad)
 |.ata2 x y Ad=>Wn m H λos=>He c.g c.d (KW x) [a,y] os (cX m J loc Ad)
 |.asu1 o i Ad=>Wn m H λos=>Ev c o loc os λos ov=>Ev c i loc os λos iv=>He c.g c.d El [ov,iv,a] os (cX m J loc Ad)
 |.asu2 i y Ad=>Wn m H λos=>Ev c i loc os λos iv=>He c.g c.d El [a,iv,y] os (cX m J loc Ad)
 |.asu3 y o Ad=>Wn m H λos=>He c.g c.d El [o,a,y] os (cX m J loc Ad)
 |.asu4 y i Ad=>Wn m H λos=>He c.g c.d El [a,i,y] os (cX m J loc Ad)
 |.exs Ad=>a=.none/\Wn m H (cX m J loc Ad)
 |.ret=>m.R H a
 |.unp xs Ad=>Wn m H λos=>∃vs loc',a=.tup vs/\vs.length=xs.length/\Binds c.F.names xs vs loc loc'/\cX m J loc' Ad os
 |.swp xs Ad=>Wn m H λos=>∃vs loc',a=.tup vs/\vs.length=xs.length/\Binds c.F.names xs.reverse vs.reverse loc loc'/\cX m J loc' Ad os
 |.cel=>Wn m H λos=>∃i u,a=.ref i/\os[i]? =some (.cell (some u))/\cV m J loc os u
 |.asc x Ad=>Wn m H λos=>bc x c a os (cX m J loc Ad)
 |.asc2 y Ad=>Wn m H λos=>∃i u,a=.ref i/\os[i]? =some (.cell u)/\cX m J loc Ad (os.set i (.cell (some y)))
 |.frv t body Ad=>Wn m H λos=>ji m J loc t body Ad os a
 |.frf p args t body Ad=>Wn m H λos=>Ls c p args loc os λos vs=>GJ c.g c.d SF a vs os (bL m J loc t body Ad)
where kOr1 (DQ:CmpOp) (r2:Expr) (b:V):List O->V->Prop:=λos v=>∃t,v=.bool t/\(t=true->Ev c r2 loc os (oC c DQ b λos v=>∃u,v=.bool u/\cB m J loc os u))/\(t=false->cB m J loc os false)
def IB(f:FB)(J:Loc->Rs->Lg->Prop)(loc:Loc)(H:Lg)(t:Bool):Prop:=match f with
 |.ifx b o=>Wn m H λos=>(t=true->Ev c b loc os (cV m J loc))/\(t=false->Ev c o loc os (cV m J loc))
 |.tnot=>J loc (.b !t) H
 |.tand es=>Wn m H λos=>(t=true->gm c .And es loc os (cB m J loc))/\(t=false->cB m J loc os false)
 |.tor es=>Wn m H λos=>(t=true->cB m J loc os true)/\(t=false->gm c .Or es loc os (cB m J loc))
 |.tif b o=>Wn m H λos=>(t=true->Te c b loc os (cB m J loc))/\(t=false->Te c o loc os (cB m J loc))
 |.jif b o=>Wn m H λos=>(t=true->Xs c b loc os (cN m J) (cR m))/\(t=false->Xs c o loc os (cN m J) (cR m))
 |.sif b o Ad=>Wn m H λos=>(t=true->Xs c b loc os (kX c Ad (cN m J) (cR m)) (cR m))/\(t=false->Xs c o loc os (kX c Ad (cN m J) (cR m)) (cR m))
 |.whl P body Ad=>Wn m H λos=>(t=true->Xs c body loc os (λl os=>∃H,Sg m H os/\P l H) (cR m))/\(t=false->cX m J loc Ad os)
def IL(f:FL)(J:Loc->Rs->Lg->Prop)(loc:Loc)(H:Lg)(vs:List V):Prop:=match f with
 |.cal2 f=>Wn m H λos=>Az c.g c.d f vs os (cV m J loc)
 |.me2 id o=>Wn m H λos=>Aw c.g c.d (λws=>call (.builtin id) ws) (o::vs) os (cV m J loc)
 |.tup=>vs.length<=100000/\J loc (.v (.tup vs)) H
 |.lst=>Wn m H λos=>Aw c.g c.d newList vs os (cV m J loc)
 |.l2 a=>J loc (.l (a::vs)) H
 |.frr f t body Ad=>Wn m H λos=>GJ c.g c.d SF f vs os (bL m J loc t body Ad)
def IN(f:FN)(J:Loc->Rs->Lg->Prop)(loc:Loc)(H:Lg):Prop:=match f with
 |.seq Ad=>Wn m H (cX m J loc Ad)
 |.unb xs vs Ad=>Wn m H λos=>∃loc',Binds c.F.names xs vs loc loc'/\cX m J loc' Ad os
 |.fin P=>P loc H
 |.one t body u=>Wn m H λos=>∃Am,FJ c.g c.F c.d t u loc Am/\Xs c body Am os (cN m J) (cR m)
 |.unr t body Ad l=>Wn m H λos=>Unr c t body (λloc os=>cX m J loc Ad os) (cR m) l loc os
def IF(f:Fr)(J:Loc->Rs->Lg->Prop)(loc:Loc)(r:Rs)(H:Lg):Prop:=match f with
 |.v f=>(match r with
  |.v a=>IV m f J loc H a
  |.o e acc rest=>H=rv acc (e::rest)->IV m f J loc H (.ref e.i)
  |_=>False)
 |.b f=>(match r with
  |.b t=>IB m f J loc H t
  |_=>False)
 |.l f=>(match r with
  |.l vs=>IL m f J loc H vs
  |_=>False)
 |.n f=>(match r with
  |.n=>IN m f J loc H
  |_=>False)
def I0(loc:Loc)(r:Rs)(H:Lg):Prop:=match r with
 |.v a=>m.R H a
 |.n=>m.N loc H
 |_=>False
noncomputable def I:List Fr->Loc->Rs->Lg->Prop
 |[]=>I0 m
 |f::k=>IF m f (I k)
def Sem(ctl:CP)(fr:List Fr)(loc:Loc)(H:Lg):Prop:=match ctl with
 |.ev e=>Wn m H λos=>Ev c e loc os (cV m (I m fr) loc)
 |.te e=>Wn m H λos=>Te c e loc os (cB m (I m fr) loc)
 |.ts op es=>Wn m H λos=>gm c op es loc os (cB m (I m fr) loc)
 |.ls p es=>Wn m H λos=>Ls c p es loc os (cL m (I m fr) loc)
 |.eo e=>Wn m H λos=>Eo c e loc os (cV m (I m fr) loc)
 |.xs ss=>Wn m H (cX m (I m fr) loc ss)
 |.r x=>I m fr loc x H
end
section
variable{γ:Type}{z:γ}{Q:Prop}
theorem An{p:Prop}[Decidable p]{t:p->Option γ}(e:(if h:p then t h else none)=some z)(k:∀h,t h=some z->Q):Q:=by
 by_cases h:p
 ·rw[dif_pos h] at e;exact k h e
 ·rw[dif_neg h] at e;exact xO e
noncomputable def gb(b:Bool)(o:Option γ):Option γ:=match b with
 |true=>o
 |false=>none
theorem V4(e:gb b o=some z)(k:b=true->o=some z->Q):Q:=by
 induction b using jM with
 |true=>exact k rfl e
 |false=>exact xO e
theorem bd{α:Type}{o:Option α}{f:α->Option γ}(e:o.bind f=some z)(k:∀a,o=some a->f a=some z->Q):Q:=(Option.bind_eq_some_iff.mp e).elim λa h=>k a h.1 h.2
theorem Xb{α:Type}{o:Option α}{f:α->γ}(e:o.map f=some z)(k:∀a,o=some a->f a=z->Q):Q:=(pd.mp e).elim λa h=>k a h.1 h.2
noncomputable def GZ{α:Type}(g:α->List α->Option γ):List α->Option γ
 |x::r=>g x r
 |[]=>none
theorem H6{α:Type}{g:α->List α->Option γ}{l:List α}(e:GZ g l=some z)(k:∀x r,l=x::r->g x r=some z->Q):Q:=by
 induction l using cU with
 |nil=>exact xO e
 |cons x r=>exact k x r rfl e
noncomputable def Df{α:Type}(g:Option γ):List α->Option γ
 |[]=>g
 |_::_=>none
theorem Fe{α:Type}{g:Option γ}{l:List α}(e:Df g l=some z)(k:l=[]->g=some z->Q):Q:=by
 induction l using cU with
 |nil=>exact k rfl e
 |cons x r=>exact xO e
noncomputable def RE{α:Type}(g:Option γ):Option α->Option γ
 |none=>g
 |some _=>none
theorem PB{α:Type}{g:Option γ}{l:Option α}(e:RE g l=some z)(k:l=none->g=some z->Q):Q:=by
 induction l using il with
 |none=>exact k rfl e
 |some x=>exact xO e
noncomputable def wR(g:Rs->Option γ)(t:CP):Option γ:=if h:t.ctorIdx=6 then CP.r.elim t h g else none
theorem W2(e:wR g x=some z)(k:∀a,x=.r a->g a=some z->Q):Q:=An e λh e=>CP.r.elim (motive:=λt=>∀h,CP.r.elim t h g=some z->(∀a,t=.r a->g a=some z->Q)->Q) x h (λa _ e k=>k a rfl e) h e k
noncomputable def wX(g:List Stmt->Option γ)(t:CP):Option γ:=if h:t.ctorIdx=5 then CP.xs.elim t h g else none
theorem iq(e:wX g x=some z)(k:∀a,x=.xs a->g a=some z->Q):Q:=An e λh e=>CP.xs.elim (motive:=λt=>∀h,CP.xs.elim t h g=some z->(∀a,t=.xs a->g a=some z->Q)->Q) x h (λa _ e k=>k a rfl e) h e k
noncomputable def wE(g:Expr->Option γ)(t:CP):Option γ:=if h:t.ctorIdx=0 then CP.ev.elim t h g else none
theorem dA(e:wE g x=some z)(k:∀a,x=.ev a->g a=some z->Q):Q:=An e λh e=>CP.ev.elim (motive:=λt=>∀h,CP.ev.elim t h g=some z->(∀a,t=.ev a->g a=some z->Q)->Q) x h (λa _ e k=>k a rfl e) h e k
noncomputable def rV(g:V->Option γ)(t:Rs):Option γ:=if h:t.ctorIdx=0 then Rs.v.elim t h g else none
theorem dY(e:rV g x=some z)(k:∀a,x=.v a->g a=some z->Q):Q:=An e λh e=>Rs.v.elim (motive:=λt=>∀h,Rs.v.elim t h g=some z->(∀a,t=.v a->g a=some z->Q)->Q) x h (λa _ e k=>k a rfl e) h e k
noncomputable def rB(g:Bool->Option γ)(t:Rs):Option γ:=if h:t.ctorIdx=1 then Rs.b.elim t h g else none
theorem iC(e:rB g x=some z)(k:∀a,x=.b a->g a=some z->Q):Q:=An e λh e=>Rs.b.elim (motive:=λt=>∀h,Rs.b.elim t h g=some z->(∀a,t=.b a->g a=some z->Q)->Q) x h (λa _ e k=>k a rfl e) h e k
noncomputable def rN(g:Option γ)(t:Rs):Option γ:=if h:t.ctorIdx=3 then Rs.n.elim t h g else none
theorem d4(e:rN g x=some z)(k:x=.n->g=some z->Q):Q:=An e λh e=>Rs.n.elim (motive:=λt=>∀h,Rs.n.elim t h g=some z->(t=.n->g=some z->Q)->Q) x h (λ_ e k=>k rfl e) h e k
noncomputable def hV(g:FV->Option γ)(t:Fr):Option γ:=if h:t.ctorIdx=0 then Fr.v.elim t h g else none
theorem oa(e:hV g x=some z)(k:∀a,x=.v a->g a=some z->Q):Q:=An e λh e=>Fr.v.elim (motive:=λt=>∀h,Fr.v.elim t h g=some z->(∀a,t=.v a->g a=some z->Q)->Q) x h (λa _ e k=>k a rfl e) h e k
noncomputable def hB(g:FB->Option γ)(t:Fr):Option γ:=if h:t.ctorIdx=1 then Fr.b.elim t h g else none
theorem jg(e:hB g x=some z)(k:∀a,x=.b a->g a=some z->Q):Q:=An e λh e=>Fr.b.elim (motive:=λt=>∀h,Fr.b.elim t h g=some z->(∀a,t=.b a->g a=some z->Q)->Q) x h (λa _ e k=>k a rfl e) h e k
noncomputable def hN(g:FN->Option γ)(t:Fr):Option γ:=if h:t.ctorIdx=3 then Fr.n.elim t h g else none
theorem og(e:hN g x=some z)(k:∀a,x=.n a->g a=some z->Q):Q:=An e λh e=>Fr.n.elim (motive:=λt=>∀h,Fr.n.elim t h g=some z->(∀a,t=.n a->g a=some z->Q)->Q) x h (λa _ e k=>k a rfl e) h e k
noncomputable def Lp(g:Expr->Expr->V->Option γ)(t:FV):Option γ:=if h:t.ctorIdx=14 then FV.sub3.elim t h g else none
theorem Qd(e:Lp g x=some z)(k:∀a b c,x=.sub3 a b c->g a b c=some z->Q):Q:=An e λh e=>FV.sub3.elim (motive:=λt=>∀h,FV.sub3.elim t h g=some z->(∀a b c,t=.sub3 a b c->g a b c=some z->Q)->Q) x h (λa b c _ e k=>k a b c rfl e) h e k
noncomputable def Z7(g:Operator->V->Option γ)(t:FV):Option γ:=if h:t.ctorIdx=1 then FV.bin2.elim t h g else none
theorem Z6(e:Z7 g x=some z)(k:∀a b,x=.bin2 a b->g a b=some z->Q):Q:=An e λh e=>FV.bin2.elim (motive:=λt=>∀h,FV.bin2.elim t h g=some z->(∀a b,t=.bin2 a b->g a b=some z->Q)->Q) x h (λa b _ e k=>k a b rfl e) h e k
noncomputable def Z4(g:CmpOp->V->Option γ)(t:FV):Option γ:=if h:t.ctorIdx=3 then FV.cmp2.elim t h g else none
theorem Z3(e:Z4 g x=some z)(k:∀a b,x=.cmp2 a b->g a b=some z->Q):Q:=An e λh e=>FV.cmp2.elim (motive:=λt=>∀h,FV.cmp2.elim t h g=some z->(∀a b,t=.cmp2 a b->g a b=some z->Q)->Q) x h (λa b _ e k=>k a b rfl e) h e k
noncomputable def jk(g:Expr->Option γ)(t:FV):Option γ:=if h:t.ctorIdx=10 then FV.vor.elim t h g else none
theorem fP(e:jk g x=some z)(k:∀a,x=.vor a->g a=some z->Q):Q:=An e λh e=>FV.vor.elim (motive:=λt=>∀h,FV.vor.elim t h g=some z->(∀a,t=.vor a->g a=some z->Q)->Q) x h (λa _ e k=>k a rfl e) h e k
noncomputable def ae(g:Expr->Option γ)(t:FV):Option γ:=if h:t.ctorIdx=9 then FV.vand.elim t h g else none
theorem ac(e:ae g x=some z)(k:∀a,x=.vand a->g a=some z->Q):Q:=An e λh e=>FV.vand.elim (motive:=λt=>∀h,FV.vand.elim t h g=some z->(∀a,t=.vand a->g a=some z->Q)->Q) x h (λa _ e k=>k a rfl e) h e k
noncomputable def jl(g:Pos->Str->List Expr->Option γ)(t:FV):Option γ:=if h:t.ctorIdx=19 then FV.me1.elim t h g else none
theorem fQ(e:jl g x=some z)(k:∀a b c,x=.me1 a b c->g a b c=some z->Q):Q:=An e λh e=>FV.me1.elim (motive:=λt=>∀h,FV.me1.elim t h g=some z->(∀a b c,t=.me1 a b c->g a b c=some z->Q)->Q) x h (λa b c _ e k=>k a b c rfl e) h e k
noncomputable def NQ(g:V->V->List Stmt->Option γ)(t:FV):Option γ:=if h:t.ctorIdx=28 then FV.asu4.elim t h g else none
theorem TO(e:NQ g x=some z)(k:∀a b c,x=.asu4 a b c->g a b c=some z->Q):Q:=An e λh e=>FV.asu4.elim (motive:=λt=>∀h,FV.asu4.elim t h g=some z->(∀a b c,t=.asu4 a b c->g a b c=some z->Q)->Q) x h (λa b c _ e k=>k a b c rfl e) h e k
noncomputable def jj(g:Expr->Expr->V->V->Option γ)(t:FV):Option γ:=if h:t.ctorIdx=17 then FV.sl3.elim t h g else none
theorem fM(e:jj g x=some z)(k:∀a b c d,x=.sl3 a b c d->g a b c d=some z->Q):Q:=An e λh e=>FV.sl3.elim (motive:=λt=>∀h,FV.sl3.elim t h g=some z->(∀a b c d,t=.sl3 a b c d->g a b c d=some z->Q)->Q) x h (λa b c d _ e k=>k a b c d rfl e) h e k
noncomputable def Z2(g:Expr->List Stmt->List Stmt->Option γ)(t:FV):Option γ:=if h:t.ctorIdx=36 then FV.frv.elim t h g else none
theorem Z1(e:Z2 g x=some z)(k:∀a b c,x=.frv a b c->g a b c=some z->Q):Q:=An e λh e=>FV.frv.elim (motive:=λt=>∀h,FV.frv.elim t h g=some z->(∀a b c,t=.frv a b c->g a b c=some z->Q)->Q) x h (λa b c _ e k=>k a b c rfl e) h e k
noncomputable def Z0(g:Option γ)(t:FV):Option γ:=if h:t.ctorIdx=30 then FV.ret.elim t h g else none
theorem ZZ(e:Z0 g x=some z)(k:x=.ret->g=some z->Q):Q:=An e λh e=>FV.ret.elim (motive:=λt=>∀h,FV.ret.elim t h g=some z->(t=.ret->g=some z->Q)->Q) x h (λ_ e k=>k rfl e) h e k
noncomputable def aS(g:Expr->Expr->Option γ)(t:FB):Option γ:=if h:t.ctorIdx=0 then FB.ifx.elim t h g else none
theorem aR(e:aS g x=some z)(k:∀a b,x=.ifx a b->g a b=some z->Q):Q:=An e λh e=>FB.ifx.elim (motive:=λt=>∀h,FB.ifx.elim t h g=some z->(∀a b,t=.ifx a b->g a b=some z->Q)->Q) x h (λa b _ e k=>k a b rfl e) h e k
noncomputable def WC(g:List Stmt->List Stmt->List Stmt->Option γ)(t:FB):Option γ:=if h:t.ctorIdx=5 then FB.sif.elim t h g else none
theorem TZ(e:WC g x=some z)(k:∀a b c,x=.sif a b c->g a b c=some z->Q):Q:=An e λh e=>FB.sif.elim (motive:=λt=>∀h,FB.sif.elim t h g=some z->(∀a b c,t=.sif a b c->g a b c=some z->Q)->Q) x h (λa b c _ e k=>k a b c rfl e) h e k
noncomputable def TY(g:List Expr->Option γ)(t:FB):Option γ:=if h:t.ctorIdx=2 then FB.tand.elim t h g else none
theorem WB(e:TY g x=some z)(k:∀a,x=.tand a->g a=some z->Q):Q:=An e λh e=>FB.tand.elim (motive:=λt=>∀h,FB.tand.elim t h g=some z->(∀a,t=.tand a->g a=some z->Q)->Q) x h (λa _ e k=>k a rfl e) h e k
noncomputable def VP(g:V->Option γ)(t:FL):Option γ:=if h:t.ctorIdx=0 then FL.cal2.elim t h g else none
theorem Tz(e:VP g x=some z)(k:∀a,x=.cal2 a->g a=some z->Q):Q:=An e λh e=>FL.cal2.elim (motive:=λt=>∀h,FL.cal2.elim t h g=some z->(∀a,t=.cal2 a->g a=some z->Q)->Q) x h (λa _ e k=>k a rfl e) h e k
noncomputable def Zo(g:V->Expr->List Stmt->List Stmt->Option γ)(t:FL):Option γ:=if h:t.ctorIdx=5 then FL.frr.elim t h g else none
theorem Zn(e:Zo g x=some z)(k:∀a b c d,x=.frr a b c d->g a b c d=some z->Q):Q:=An e λh e=>FL.frr.elim (motive:=λt=>∀h,FL.frr.elim t h g=some z->(∀a b c d,t=.frr a b c d->g a b c d=some z->Q)->Q) x h (λa b c d _ e k=>k a b c d rfl e) h e k
noncomputable def Zm(g:Option γ)(t:FL):Option γ:=if h:t.ctorIdx=3 then FL.lst.elim t h g else none
theorem Zl(e:Zm g x=some z)(k:x=.lst->g=some z->Q):Q:=An e λh e=>FL.lst.elim (motive:=λt=>∀h,FL.lst.elim t h g=some z->(t=.lst->g=some z->Q)->Q) x h (λ_ e k=>k rfl e) h e k
noncomputable def iV(g:String->V->Option γ)(t:FL):Option γ:=if h:t.ctorIdx=1 then FL.me2.elim t h g else none
theorem eX(e:iV g x=some z)(k:∀a b,x=.me2 a b->g a b=some z->Q):Q:=An e λh e=>FL.me2.elim (motive:=λt=>∀h,FL.me2.elim t h g=some z->(∀a b,t=.me2 a b->g a b=some z->Q)->Q) x h (λa b _ e k=>k a b rfl e) h e k
noncomputable def VI(g:(Loc->Lg->Prop)->Option γ)(t:FN):Option γ:=if h:t.ctorIdx=2 then FN.fin.elim t h g else none
theorem Tt(e:VI g x=some z)(k:∀a,x=.fin a->g a=some z->Q):Q:=An e λh e=>FN.fin.elim (motive:=λt=>∀h,FN.fin.elim t h g=some z->(∀a,t=.fin a->g a=some z->Q)->Q) x h (λa _ e k=>k a rfl e) h e k
noncomputable def vB(g:Bool->Option γ)(t:V):Option γ:=if h:t.ctorIdx=1 then V.bool.elim t h g else none
theorem bI(e:vB g x=some z)(k:∀a,x=.bool a->g a=some z->Q):Q:=An e λh e=>V.bool.elim (motive_1:=λt=>∀h,V.bool.elim t h g=some z->(∀a,t=.bool a->g a=some z->Q)->Q) x h (λa _ e k=>k a rfl e) h e k
noncomputable def vI(g:Int->Option γ)(t:V):Option γ:=if h:t.ctorIdx=2 then V.int.elim t h g else none
theorem dD(e:vI g x=some z)(k:∀a,x=.int a->g a=some z->Q):Q:=An e λh e=>V.int.elim (motive_1:=λt=>∀h,V.int.elim t h g=some z->(∀a,t=.int a->g a=some z->Q)->Q) x h (λa _ e k=>k a rfl e) h e k
noncomputable def vS(g:Str->Option γ)(t:V):Option γ:=if h:t.ctorIdx=3 then V.str.elim t h g else none
theorem dC(e:vS g x=some z)(k:∀a,x=.str a->g a=some z->Q):Q:=An e λh e=>V.str.elim (motive_1:=λt=>∀h,V.str.elim t h g=some z->(∀a,t=.str a->g a=some z->Q)->Q) x h (λa _ e k=>k a rfl e) h e k
noncomputable def bH(g:Option Expr->Option Expr->Option Expr->Pos->Option γ)(t:Expr):Option γ:=if h:t.ctorIdx=26 then Expr.Slice.elim t h g else none
theorem UG(e:bH g x=some z)(k:∀a b c d,x=.Slice a b c d->g a b c d=some z->Q):Q:=An e λh e=>Expr.Slice.elim (motive_1:=λt=>∀h,Expr.Slice.elim t h g=some z->(∀a b c d,t=.Slice a b c d->g a b c d=some z->Q)->Q) x h (λa b c d _ e k=>k a b c d rfl e) h e k
noncomputable def UI(g:List (Option Expr)->List Expr->Pos->Option γ)(t:Expr):Option γ:=if h:t.ctorIdx=6 then Expr.Dict.elim t h g else none
theorem OI(e:UI g x=some z)(k:∀a b c,x=.Dict a b c->g a b c=some z->Q):Q:=An e λh e=>Expr.Dict.elim (motive_1:=λt=>∀h,Expr.Dict.elim t h g=some z->(∀a b c,t=.Dict a b c->g a b c=some z->Q)->Q) x h (λa b c _ e k=>k a b c rfl e) h e k
noncomputable def UJ(g:Const->Nat->Pos->Option γ)(t:Expr):Option γ:=if h:t.ctorIdx=19 then Expr.Constant.elim t h g else none
theorem S8(e:UJ g x=some z)(k:∀a b c,x=.Constant a b c->g a b c=some z->Q):Q:=An e λh e=>Expr.Constant.elim (motive_1:=λt=>∀h,Expr.Constant.elim t h g=some z->(∀a b c,t=.Constant a b c->g a b c=some z->Q)->Q) x h (λa b c _ e k=>k a b c rfl e) h e k
noncomputable def Q7(g:UnaryOp->Expr->Pos->Option γ)(t:Expr):Option γ:=if h:t.ctorIdx=3 then Expr.UnaryOp.elim t h g else none
theorem S7(e:Q7 g x=some z)(k:∀a b c,x=.UnaryOp a b c->g a b c=some z->Q):Q:=An e λh e=>Expr.UnaryOp.elim (motive_1:=λt=>∀h,Expr.UnaryOp.elim t h g=some z->(∀a b c,t=.UnaryOp a b c->g a b c=some z->Q)->Q) x h (λa b c _ e k=>k a b c rfl e) h e k
noncomputable def aO(g:Str->Option γ)(t:Const):Option γ:=if h:t.ctorIdx=5 then Const.str.elim t h g else none
theorem aM(e:aO g x=some z)(k:∀a,x=.str a->g a=some z->Q):Q:=An e λh e=>Const.str.elim (motive:=λt=>∀h,Const.str.elim t h g=some z->(∀a,t=.str a->g a=some z->Q)->Q) x h (λa _ e k=>k a rfl e) h e k
noncomputable def WA(g:Int->Option γ)(t:Const):Option γ:=if h:t.ctorIdx=2 then Const.int.elim t h g else none
theorem TW(e:WA g x=some z)(k:∀a,x=.int a->g a=some z->Q):Q:=An e λh e=>Const.int.elim (motive:=λt=>∀h,Const.int.elim t h g=some z->(∀a,t=.int a->g a=some z->Q)->Q) x h (λa _ e k=>k a rfl e) h e k
noncomputable def Yp(g:Option γ)(t:UnaryOp):Option γ:=if h:t.ctorIdx=3 then UnaryOp.USub.elim t h g else none
theorem Yo(e:Yp g x=some z)(k:x=.USub->g=some z->Q):Q:=An e λh e=>UnaryOp.USub.elim (motive:=λt=>∀h,UnaryOp.USub.elim t h g=some z->(t=.USub->g=some z->Q)->Q) x h (λ_ e k=>k rfl e) h e k
noncomputable def YH(g:Expr->List Stmt->List Stmt->Pos->Option γ)(t:Stmt):Option γ:=if h:t.ctorIdx=11 then Stmt.While.elim t h g else none
theorem YG(e:YH g x=some z)(k:∀a b c d,x=.While a b c d->g a b c d=some z->Q):Q:=An e λh e=>Stmt.While.elim (motive_2:=λt=>∀h,Stmt.While.elim t h g=some z->(∀a b c d,t=.While a b c d->g a b c d=some z->Q)->Q) x h (λa b c d _ e k=>k a b c d rfl e) h e k
noncomputable def Np(g:Expr->Expr->List Stmt->List Stmt->Pos->Option γ)(t:Stmt):Option γ:=if h:t.ctorIdx=9 then Stmt.For.elim t h g else none
theorem Td(e:Np g x=some z)(k:∀a b c d i,x=.For a b c d i->g a b c d i=some z->Q):Q:=An e λh e=>Stmt.For.elim (motive_2:=λt=>∀h,Stmt.For.elim t h g=some z->(∀a b c d i,t=.For a b c d i->g a b c d i=some z->Q)->Q) x h (λa b c d i _ e k=>k a b c d i rfl e) h e k
noncomputable def vT(g:List V->Option γ)(t:V):Option γ:=if h:t.ctorIdx=5 then V.tup.elim t h g else none
theorem ms(e:vT g x=some z)(k:∀a,x=.tup a->g a=some z->Q):Q:=An e λh e=>V.tup.elim (motive_1:=λt=>∀h,V.tup.elim t h g=some z->(∀a,t=.tup a->g a=some z->Q)->Q) x h (λa _ e k=>k a rfl e) h e k
noncomputable def vY(g:List Int->Option γ)(t:V):Option γ:=if h:t.ctorIdx=4 then V.bytes.elim t h g else none
theorem mr(e:vY g x=some z)(k:∀a,x=.bytes a->g a=some z->Q):Q:=An e λh e=>V.bytes.elim (motive_1:=λt=>∀h,V.bytes.elim t h g=some z->(∀a,t=.bytes a->g a=some z->Q)->Q) x h (λa _ e k=>k a rfl e) h e k
noncomputable def vN(g:Option γ)(t:V):Option γ:=if h:t.ctorIdx=0 then V.none.elim t h g else none
theorem mz(e:vN g x=some z)(k:x=.none->g=some z->Q):Q:=An e λh e=>V.none.elim (motive_1:=λt=>∀h,V.none.elim t h g=some z->(t=.none->g=some z->Q)->Q) x h (λ_ e k=>k rfl e) h e k
noncomputable def vR(g:Nat->Option γ)(t:V):Option γ:=if h:t.ctorIdx=6 then V.ref.elim t h g else none
theorem mu(e:vR g x=some z)(k:∀a,x=.ref a->g a=some z->Q):Q:=An e λh e=>V.ref.elim (motive_1:=λt=>∀h,V.ref.elim t h g=some z->(∀a,t=.ref a->g a=some z->Q)->Q) x h (λa _ e k=>k a rfl e) h e k
noncomputable def W1(g:Str->Pos->Option γ)(t:Expr):Option γ:=if h:t.ctorIdx=23 then Expr.Name.elim t h g else none
theorem UH(e:W1 g x=some z)(k:∀a b,x=.Name a b->g a b=some z->Q):Q:=An e λh e=>Expr.Name.elim (motive_1:=λt=>∀h,Expr.Name.elim t h g=some z->(∀a b,t=.Name a b->g a b=some z->Q)->Q) x h (λa b _ e k=>k a b rfl e) h e k
noncomputable def Q9(g:Expr->Str->Pos->Option γ)(t:Expr):Option γ:=if h:t.ctorIdx=20 then Expr.Attribute.elim t h g else none
theorem S9(e:Q9 g x=some z)(k:∀a b c,x=.Attribute a b c->g a b c=some z->Q):Q:=An e λh e=>Expr.Attribute.elim (motive_1:=λt=>∀h,Expr.Attribute.elim t h g=some z->(∀a b c,t=.Attribute a b c->g a b c=some z->Q)->Q) x h (λa b c _ e k=>k a b c rfl e) h e k
noncomputable def Yi(g:Expr->List Expr->List Keyword->Pos->Option γ)(t:Expr):Option γ:=if h:t.ctorIdx=16 then Expr.Call.elim t h g else none
theorem Yh(e:Yi g x=some z)(k:∀a b c d,x=.Call a b c d->g a b c d=some z->Q):Q:=An e λh e=>Expr.Call.elim (motive_1:=λt=>∀h,Expr.Call.elim t h g=some z->(∀a b c d,t=.Call a b c d->g a b c d=some z->Q)->Q) x h (λa b c d _ e k=>k a b c d rfl e) h e k
noncomputable def rL(g:List V->Option γ)(t:Rs):Option γ:=if h:t.ctorIdx=2 then Rs.l.elim t h g else none
theorem m9(e:rL g x=some z)(k:∀a,x=.l a->g a=some z->Q):Q:=An e λh e=>Rs.l.elim (motive:=λt=>∀h,Rs.l.elim t h g=some z->(∀a,t=.l a->g a=some z->Q)->Q) x h (λa _ e k=>k a rfl e) h e k
noncomputable def Wa(g:Str->Option γ)(t:FV):Option γ:=if h:t.ctorIdx=11 then FV.attr.elim t h g else none
theorem Z8(e:Wa g x=some z)(k:∀a,x=.attr a->g a=some z->Q):Q:=An e λh e=>FV.attr.elim (motive:=λt=>∀h,FV.attr.elim t h g=some z->(∀a,t=.attr a->g a=some z->Q)->Q) x h (λa _ e k=>k a rfl e) h e k
noncomputable def Wb(g:Str->V->List Stmt->Option γ)(t:FV):Option γ:=if h:t.ctorIdx=24 then FV.ata2.elim t h g else none
theorem Z9(e:Wb g x=some z)(k:∀a b c,x=.ata2 a b c->g a b c=some z->Q):Q:=An e λh e=>FV.ata2.elim (motive:=λt=>∀h,FV.ata2.elim t h g=some z->(∀a b c,t=.ata2 a b c->g a b c=some z->Q)->Q) x h (λa b c _ e k=>k a b c rfl e) h e k
noncomputable def V9(g:Option γ)(t:FV):Option γ:=if h:t.ctorIdx=33 then FV.cel.elim t h g else none
theorem Z5(e:V9 g x=some z)(k:x=.cel->g=some z->Q):Q:=An e λh e=>FV.cel.elim (motive:=λt=>∀h,FV.cel.elim t h g=some z->(t=.cel->g=some z->Q)->Q) x h (λ_ e k=>k rfl e) h e k
noncomputable def Wc(g:V->List Stmt->Option γ)(t:FV):Option γ:=if h:t.ctorIdx=35 then FV.asc2.elim t h g else none
theorem ab(e:Wc g x=some z)(k:∀a b,x=.asc2 a b->g a b=some z->Q):Q:=An e λh e=>FV.asc2.elim (motive:=λt=>∀h,FV.asc2.elim t h g=some z->(∀a b,t=.asc2 a b->g a b=some z->Q)->Q) x h (λa b _ e k=>k a b rfl e) h e k
noncomputable def UK(g:Expr->List CmpOp->List Expr->Pos->Option γ)(t:Expr):Option γ:=if h:t.ctorIdx=15 then Expr.Compare.elim t h g else none
theorem Yg(e:UK g x=some z)(k:∀a b c d,x=.Compare a b c d->g a b c d=some z->Q):Q:=An e λh e=>Expr.Compare.elim (motive_1:=λt=>∀h,Expr.Compare.elim t h g=some z->(∀a b c d,t=.Compare a b c d->g a b c d=some z->Q)->Q) x h (λa b c d _ e k=>k a b c d rfl e) h e k
noncomputable def UL(g:BoolOp->List Expr->Pos->Option γ)(t:Expr):Option γ:=if h:t.ctorIdx=0 then Expr.BoolOp.elim t h g else none
theorem Yj(e:UL g x=some z)(k:∀a b c,x=.BoolOp a b c->g a b c=some z->Q):Q:=An e λh e=>Expr.BoolOp.elim (motive_1:=λt=>∀h,Expr.BoolOp.elim t h g=some z->(∀a b c,t=.BoolOp a b c->g a b c=some z->Q)->Q) x h (λa b c _ e k=>k a b c rfl e) h e k
noncomputable def dx(g:Expr->Expr->Expr->Pos->Option γ)(t:Expr):Option γ:=if h:t.ctorIdx=5 then Expr.IfExp.elim t h g else none
theorem dw(e:dx g x=some z)(k:∀a b c d,x=.IfExp a b c d->g a b c d=some z->Q):Q:=An e λh e=>Expr.IfExp.elim (motive_1:=λt=>∀h,Expr.IfExp.elim t h g=some z->(∀a b c d,t=.IfExp a b c d->g a b c d=some z->Q)->Q) x h (λa b c d _ e k=>k a b c d rfl e) h e k
noncomputable def UF(g:Expr->Expr->Pos->Option γ)(t:Expr):Option γ:=if h:t.ctorIdx=21 then Expr.Subscript.elim t h g else none
theorem Ye(e:UF g x=some z)(k:∀a b c,x=.Subscript a b c->g a b c=some z->Q):Q:=An e λh e=>Expr.Subscript.elim (motive_1:=λt=>∀h,Expr.Subscript.elim t h g=some z->(∀a b c,t=.Subscript a b c->g a b c=some z->Q)->Q) x h (λa b c _ e k=>k a b c rfl e) h e k
noncomputable def Q8(g:List Expr->Nat->Pos->Option γ)(t:Expr):Option γ:=if h:t.ctorIdx=25 then Expr.Tuple.elim t h g else none
theorem Yd(e:Q8 g x=some z)(k:∀a b c,x=.Tuple a b c->g a b c=some z->Q):Q:=An e λh e=>Expr.Tuple.elim (motive_1:=λt=>∀h,Expr.Tuple.elim t h g=some z->(∀a b c,t=.Tuple a b c->g a b c=some z->Q)->Q) x h (λa b c _ e k=>k a b c rfl e) h e k
noncomputable def dQ(g:Expr->List Stmt->List Stmt->Pos->Option γ)(t:Stmt):Option γ:=if h:t.ctorIdx=12 then Stmt.If.elim t h g else none
theorem dP(e:dQ g x=some z)(k:∀a b c d,x=.If a b c d->g a b c d=some z->Q):Q:=An e λh e=>Stmt.If.elim (motive_2:=λt=>∀h,Stmt.If.elim t h g=some z->(∀a b c d,t=.If a b c d->g a b c d=some z->Q)->Q) x h (λa b c d _ e k=>k a b c d rfl e) h e k
noncomputable def U8(g:Option Expr->Pos->Option γ)(t:Stmt):Option γ:=if h:t.ctorIdx=3 then Stmt.Return.elim t h g else none
theorem YI(e:U8 g x=some z)(k:∀a b,x=.Return a b->g a b=some z->Q):Q:=An e λh e=>Stmt.Return.elim (motive_2:=λt=>∀h,Stmt.Return.elim t h g=some z->(∀a b,t=.Return a b->g a b=some z->Q)->Q) x h (λa b _ e k=>k a b rfl e) h e k
noncomputable def U9(g:Pos->Option γ)(t:Stmt):Option γ:=if h:t.ctorIdx=25 then Stmt.Pass.elim t h g else none
theorem YJ(e:U9 g x=some z)(k:∀a,x=.Pass a->g a=some z->Q):Q:=An e λh e=>Stmt.Pass.elim (motive_2:=λt=>∀h,Stmt.Pass.elim t h g=some z->(∀a,t=.Pass a->g a=some z->Q)->Q) x h (λa _ e k=>k a rfl e) h e k
noncomputable def Va(g:Expr->Pos->Option γ)(t:Stmt):Option γ:=if h:t.ctorIdx=24 then Stmt.Expr.elim t h g else none
theorem YK(e:Va g x=some z)(k:∀a b,x=.Expr a b->g a b=some z->Q):Q:=An e λh e=>Stmt.Expr.elim (motive_2:=λt=>∀h,Stmt.Expr.elim t h g=some z->(∀a b,t=.Expr a b->g a b=some z->Q)->Q) x h (λa b _ e k=>k a b rfl e) h e k
noncomputable def Vc(g:List Expr->Expr->Pos->Option γ)(t:Stmt):Option γ:=if h:t.ctorIdx=5 then Stmt.Assign.elim t h g else none
theorem YL(e:Vc g x=some z)(k:∀a b c,x=.Assign a b c->g a b c=some z->Q):Q:=An e λh e=>Stmt.Assign.elim (motive_2:=λt=>∀h,Stmt.Assign.elim t h g=some z->(∀a b c,t=.Assign a b c->g a b c=some z->Q)->Q) x h (λa b c _ e k=>k a b c rfl e) h e k
noncomputable def UP(g:Option γ)(t:UnaryOp):Option γ:=if h:t.ctorIdx=1 then UnaryOp.Not.elim t h g else none
theorem Yq(e:UP g x=some z)(k:x=.Not->g=some z->Q):Q:=An e λh e=>UnaryOp.Not.elim (motive:=λt=>∀h,UnaryOp.Not.elim t h g=some z->(t=.Not->g=some z->Q)->Q) x h (λ_ e k=>k rfl e) h e k
noncomputable def nz(a:Option γ)(f:Nat->Option γ):Nat->Option γ
 |0=>a
 |n+1=>f n
theorem nw(e:nz a f n=some z)(k:a=some z->Q)(l:∀n,f n=some z->Q):Q:=by
 induction n using qt with
 |zero=>exact k e
 |succ n=>exact l n e
theorem aG(e:cond b x y=some z)(k:b=true->x=some z->Q)(l:b=false->y=some z->Q):Q:=by
 induction b using jM with
 |true=>exact k rfl e
 |false=>exact l rfl e
end
set_option genInjectivity true in
inductive Tk where
 |n (i:Nat)
 |s (x:Str)
 |i (k:Int)
 |b (t:Bool)
 |v (a:V)
 |vs (l:List V)
structure AR where
 h:Nat
 ctl:CP
 fr:List Fr
 loc:Loc
 H:Lg
 q:List (Tk×Tk)
 n:List Prop
noncomputable def jo(d h:Nat)(f:Nat->Nat->Option AR):Option AR:=match d with
 |0=>none
 |d+1=>f d h
noncomputable def dg(h:Nat)(f:Nat->Nat->Option AR):Option AR:=jo (Nat.mod h 64) (Nat.div h 64) f
noncomputable def ck(b:Bool)(x:Option AR):Option AR:=match b with
 |true=>x
 |false=>none
noncomputable def P7{α:Type}(l:List α)(f:List α->Option AR):Option AR:=match l with
 |[]=>f []
 |x::r=>f (x::r)
noncomputable def AZ{α:Type}:List α->Nat->Option α
 |[],_=>none
 |x::_,0=>some x
 |_::r,n+1=>AZ r n
noncomputable def sp{α:Type}:List α->Nat->List α->Option (List α×α×List α)
 |[],_,_=>none
 |e::r,0,acc=>some (acc,e,r)
 |x::r,n+1,acc=>sp r n (x::acc)
noncomputable def lk:List Str->Loc->List (Str×V)->Nat->Option (Str×V)
 |[],_,gs,d=>AZ gs d
 |_::ns,_::ls,gs,d+1=>lk ns ls gs d
 |y::_,some v::_,_,0=>some (y,v)
 |_,_,_,_=>none
noncomputable def UX:List Str->Loc->Nat->Loc->Option (Str×Loc×Loc)
 |y::_,_::ls,0,acc=>some (y,acc,ls)
 |_::ns,u::ls,d+1,acc=>UX ns ls d (u::acc)
 |_,_,_,_=>none
noncomputable def bP:List (Str×V)->List Str->List Str
 |[],acc=>rv acc []
 |(y,_)::r,acc=>bP r (y::acc)
noncomputable def JU(c:Nat):List Nat->Bool
 |[]=>false
 |x::r=>match Nat.beq x c with
  |true=>true
  |false=>JU c r
noncomputable abbrev go(h:Nat)(ctl:CP)(fr:List Fr)(loc:Loc)(H:Lg):Option AR:=some ⟨h,ctl,fr,loc,H,[],[]⟩
noncomputable abbrev EM(q:List (Tk×Tk))(h:Nat)(ctl:CP)(fr:List Fr)(loc:Loc)(H:Lg):Option AR:=some ⟨h,ctl,fr,loc,H,q,[]⟩
noncomputable abbrev QR(n:List Prop)(h:Nat)(ctl:CP)(fr:List Fr)(loc:Loc)(H:Lg):Option AR:=some ⟨h,ctl,fr,loc,H,[],n⟩
noncomputable def Qu{α β:Type}(o:Option (α×β))(f:α->β->Option AR):Option AR:=match o with
 |some (a,b)=>f a b
 |none=>none
noncomputable def aQ{α β γ:Type}(o:Option (α×β×γ))(f:α->β->γ->Option AR):Option AR:=match o with
 |some (a,b,c)=>f a b c
 |none=>none
noncomputable def br(h:Nat)(t:Bool)(c1:CP)(k1:List Fr)(c2:CP)(k2:List Fr)(loc:Loc)(H:Lg):Option AR:=dg h λd h=>nz
 (EM [(.b t,.b true)] h c1 k1 loc H) (nz (EM [(.b t,.b false)] h c2 k2 loc H) (nz (QR [t=true] h c1 k1 loc H) (nz (QR [t=false] h c2 k2 loc H) λ_=>none))) d
noncomputable def aD(op:CmpOp)(i j:Int):Option Bool:=match op with
 |.Lt=>some (decide (i<j))
 |.LtE=>some (decide (i<=j))
 |.Gt=>some (decide (j<i))
 |.GtE=>some (decide (j<=i))
 |.Eq=>some (i==j)
 |.NotEq=>some (i != j)
 |_=>none
noncomputable def YZ(o1 o2 op:CmpOp)(b:Bool)(q:List (Tk×Tk)):Option (Bool×List (Tk×Tk)):=cond (Nat.beq op.ctorIdx o1.ctorIdx) (some (b,q)) (cond (Nat.beq op.ctorIdx o2.ctorIdx) (some (!b,q)) none)
noncomputable def NY(op:CmpOp)(x a:V):Option (Bool×List (Tk×Tk)):=match a with
 |.none=>(isNone x).bind λb=>YZ .Is .IsNot op b []
 |.int j=>vI (λi=>(aD op i j).bind λb=>some (b,[])) x
 |.tup l=>(match x with
  |.int i=>YZ .In .NotIn op ((l.map QI).any (·==i)) [(.vs l,.vs ((l.map QI).map .int))]
  |.tup l'=>(Dm l' l).bind λb=>YZ .Eq .NotEq op b []
  |_=>none)
 |.str y=>vS (λz=>YZ .Eq .Eq op (z==y) []) x
 |_=>none
noncomputable def Ww(op:CmpOp)(x a:V)(h:Nat)(f:Bool->List (Tk×Tk)->Nat->Option AR):Option AR:=cond (Nat.beq x.ctorIdx 2) (cond (Nat.beq a.ctorIdx 2) (Qu (NY op x a) λb q=>f b q h) (dg h λ_ h=>Qu (NY op x a) λb q=>f b q h)) (dg h λ_ h=>Qu (NY op x a) λb q=>f b q h)
noncomputable def binI(op:Operator)(i j:Int)(h:Nat)(k:List Fr)(loc:Loc)(H:Lg):Option AR:=match op with
 |.Add=>go h (.r (.v (.int (i+j)))) k loc H
 |.Sub=>go h (.r (.v (.int (i-j)))) k loc H
 |.BitOr=>go h (.r (.v (.int (Builtin.bitOr i j)))) k loc H
 |.BitAnd=>dg h λd h=>nz (EM [(.i j,.i 4294967295)] h (.r (.v (.int (i%4294967296)))) k loc H) (nz (EM [(.i j,.i 1)] h (.r (.v (.int (i%2)))) k loc H) (nz (EM [(.i j,.i 15)] h (.r (.v (.int (i%16)))) k loc H) (nz (go h (.r (.v (.int (Builtin.bitAnd i j)))) k loc H) λ_=>none))) d
 |.RShift=>dg h λd h=>nz (EM [(.i j,.i 31)] h (.r (.v (.int (i/2147483648)))) k loc H) (nz (EM [(.i j,.i 4)] h (.r (.v (.int (i/16)))) k loc H) (nz (EM [(.i j,.i 1)] h (.r (.v (.int (i/2)))) k loc H) (nz (EM [(.i j,.i 8)] h (.r (.v (.int (i/256)))) k loc H) λ_=>none))) d
 |.LShift=>dg h λd h=>nz (some ⟨h,.r (.v (.int (i*256))),k,loc,H,[(.i j,.i 8)],[i.natAbs<2^64]⟩) (nz (EM [(.i i,.i 1),(.i j,.i 31)] h (.r (.v (.int 2147483648))) k loc H) (nz (QR [0<=j/\j<=1000000/\i.natAbs<2^64] h (.r (.v (.int (i*2^j.toNat)))) k loc H) λ_=>none)) d
 |.Mod=>dg h λd h=>nz (EM [(.b (decide (0<j)),.b true)] h (.r (.v (.int (i%j)))) k loc H) (nz (QR [0<j] h (.r (.v (.int (i%j)))) k loc H) λ_=>none) d
 |.FloorDiv=>dg h λd h=>nz (EM [(.b (decide (0<j/\j<1073741824)),.b true)] h (.r (.v (.int (i/j)))) k loc H) (nz (QR [0<j/\j<1073741824] h (.r (.v (.int (i/j)))) k loc H) λ_=>none) d
 |.Mult=>QR [IntMulOk i j] h (.r (.v (.int (i*j)))) k loc H
 |.Pow=>dg h λd h=>nz (EM [(.b (decide (i=2/\0<=j/\j<=1000000)),.b true)] h (.r (.v (.int (2^j.toNat)))) k loc H) (nz (QR [i=2/\0<=j/\j<=1000000] h (.r (.v (.int (2^j.toNat)))) k loc H) λ_=>none) d
 |_=>none
noncomputable def HW(h:Nat)(a:V)(f:FV)(k:List Fr)(loc:Loc)(H:Lg):Option AR:=vR (λi=>dg h λd h=>aQ (sp H d []) λacc e rest=>EM [(.n i,.n e.i)] h (.r (.o e acc rest)) (.v f::k) loc H) a
noncomputable def EP:V->Option (Option Int)
 |.none=>some none
 |.int i=>some (some i)
 |_=>none
noncomputable def fe(l:List V)(i:V)(r:Expr)(h:Nat)(k:List Fr)(loc:Loc)(H:Lg):Option AR:=vI (λj=>ck (As r) (dg h λd h=>ck (Nat.blt d 1000000) ((AZ l d).bind λv=>EM [(.i j,.i d)] h (.r (.v v)) k loc H))) i
noncomputable def Rn(F:Fn)(h:Nat)(a:V)(x:Str)(c:CP)(k:List Fr)(loc:Loc)(H:Lg):Option AR:=dg h λd h=>aQ (UX F.names loc d []) λy acc ls=>P7 (rv acc (some a::ls)) λloc'=>EM [(.s y,.s x)] h c k loc' H
noncomputable def mV(F:Fn)(h:Nat)(f:FV)(a:V)(k:List Fr)(loc:Loc)(H:Lg):Option AR:=match f with
 |.bin1 r op=>go h (.ev r) (.v (.bin2 op a)::k) loc H
 |.bin2 op x=>vI (λi=>vI (λj=>binI op i j h k loc H) a) x
 |.cmp1 r op=>go h (.ev r) (.v (.cmp2 op a)::k) loc H
 |.cmp2 op x=>Ww op x a h λb q h=>EM q h (.r (.v (.bool b))) k loc H
 |.ch1 Iw DQ r r2=>go h (.ev r) (.v (.ch2 Iw DQ r2 a)::k) loc H
 |.ch2 Iw DQ r2 x=>Ww Iw x a h λb q h=>EM q h (.r (.v (.bool b))) (.v (.ch3 DQ r2 a)::k) loc H
 |.ch3 DQ r2 b=>vB (λt=>br h t (.ev r2) (.v (.cmp2 DQ b)::.v (.tof)::k) (.r (.b false)) k loc H) a
 |.vnot=>vB (λt=>go h (.r (.v (.bool !t))) k loc H) a
 |.vneg=>vI (λi=>go h (.r (.v (.int (-i)))) k loc H) a
 |.vand r=>vB (λt=>br h t (.ev r) k (.r (.v (.bool false))) k loc H) a
 |.vor r=>vB (λt=>br h t (.r (.v (.bool true))) k (.ev r) k loc H) a
 |.attr x=>HW h a (.attr x) k loc H
 |.sub1 l r=>go h (.ev r) (.v (.sub2 l r a)::k) loc H
 |.sub2 l r o=>go h (.r (.v o)) (.v (.sub3 l r a)::k) loc H
 |.sub3 l r i=>cond (Nat.beq a.ctorIdx 5) (vT (λxs=>fe xs i r h k loc H) a) (HW h a (.sub3 l r i) k loc H)
 |.sl1 l s lo hi=>go h (.eo lo) (.v (.sl2 l s hi a)::k) loc H
 |.sl2 l s hi o=>go h (.eo hi) (.v (.sl3 l s o a)::k) loc H
 |.sl3 l s o x=>bH (λ_ _ st _=>RE (vY (λl=>(EP x).bind λu=>(EP a).bind λw=>QR [l.length<=1000000] h (.r (.v (.bytes (cut l u w)))) k loc H) o) st) s
 |.cal1 p args=>go h (.ls p args) (.l (.cal2 a)::k) loc H
 |.l1 p es=>go h (.ls p es) (.l (.l2 a)::k) loc H
 |.tof=>vB (λt=>go h (.r (.b t)) k loc H) a
 |.asn x Ad=>Rn F h a x (.xs Ad) k loc H
 |.ata1 o x Ad=>go h (.ev o) (.v (.ata2 x a Ad)::k) loc H
 |.ata2 x y Ad=>HW h a (.ata2 x y Ad) k loc H
 |.asu1 o i Ad=>go h (.ev o) (.v (.asu2 i a Ad)::k) loc H
 |.asu2 i y Ad=>go h (.ev i) (.v (.asu3 y a Ad)::k) loc H
 |.asu3 y o Ad=>go h (.r (.v o)) (.v (.asu4 y a Ad)::k) loc H
 |.asu4 y i Ad=>HW h a (.asu4 y i Ad) k loc H
 |.exs Ad=>vN (go h (.xs Ad) k loc H) a
 |.unp xs Ad=>vT (λvs=>ck (Nat.beq vs.length xs.length) (go h (.r .n) (.n (.unb xs vs Ad)::k) loc H)) a
 |.swp xs Ad=>vT (λvs=>ck (Nat.beq vs.length xs.length) (P7 (rv xs []) λgJ=>P7 (rv vs []) λFK=>go h (.r .n) (.n (.unb gJ FK Ad)::k) loc H)) a
 |.cel=>HW h a .cel k loc H
 |.asc x Ad=>dg h λd h=>Qu (AZ F.cix d) λy i=>EM [(.s y,.s x)] h (.r (.v (.ref i))) (.v (.asc2 a Ad)::k) loc H
 |.asc2 y Ad=>HW h a (.asc2 y Ad) k loc H
 |.frv t body Ad=>vT (λl=>go h (.r .n) (.n (.unr t body Ad l)::k) loc H) a
 |.frf p args t body Ad=>go h (.ls p args) (.l (.frr a t body Ad)::k) loc H
 |_=>none
noncomputable def bk(h:Nat)(i:Nat)(o:O)(acc rest:Lg)(q:List (Tk×Tk))(n:List Prop)(Ad:List Stmt)(k:List Fr)(loc:Loc):Option AR:=P7 (rv acc (⟨i,o,true⟩::rest)) λH'=>some ⟨h,.xs Ad,k,loc,H',q,n⟩
noncomputable def WH(ks:List (Str×V))(x:Str)(v:V)(f:List (Str×V)->List Str->Option AR):Option AR:=P7 (rv (rv ks []) [(x,v)]) λDi=>P7 (bP ks []) λkk=>f Di kk
noncomputable def kv(e:Str×V)(g:Str->Option AR):Option AR:=match e with
 |(y,_)=>g y
noncomputable def Tj{α:Type}(l:List α)(d:Nat)(v:α)(f:List α->Option AR):Option AR:=aQ (sp l d []) λa _ r=>P7 (rv a (v::r)) λl'=>f l'
noncomputable def Vz(ks:List (Str×V))(d:Nat)(v:V)(f:Str->List (Str×V)->Option AR):Option AR:=aQ (sp ks d []) λa e r=>kv e λy=>P7 (rv a ((y,v)::r)) λDi=>f y Di
noncomputable def eG(h:Nat)(x:Str)(C:Addr)(fs:List (Str×V))(k:List Fr)(loc:Loc)(H:Lg):Option AR:=ck (JU C Fz) (dg h λd h=>Qu (AZ fs d) λy v=>ck (HQ v) (EM [(.s y,.s x)] h (.r (.v v)) k loc H))
noncomputable def Za{α:Type}(mk:α->Tk)(h:Nat)(r:Expr)(x:α)(ks:List (α×V))(k:List Fr)(loc:Loc)(H:Lg):Option AR:=ck (As r) (dg h λd h=>Qu (AZ ks d) λy v=>EM [(mk y,mk x)] h (.r (.v v)) k loc H)
noncomputable def Xh(n:Nat)(f:FV)(a b:Option AR):Option AR:=cond (Nat.beq f.ctorIdx n) a b
noncomputable def mO(h:Nat)(f:FV)(i:Nat)(o:O)(w:Bool)(acc rest:Lg)(k:List Fr)(loc:Loc)(H:Lg):Option AR:=match o with
 |.inst C fs=>Xh 11 f (Wa (λx=>eG h x C fs k loc H) f) (Wb (λx v Ad=>ck w (dg h λd h=>ck (JU C Fz) (ck (Nat.ble fs.length 100) (cond (Nat.beq d 62)
    (WH fs x v λGO ks=>bk h i (.inst C GO) acc rest [] [x∉ks/\x∈Bd] Ad k loc)
    (Vz fs d v λy GO=>bk h i (.inst C GO) acc rest [(.s y,.s x)] [] Ad k loc))))) f)
 |.list l=>Xh 14 f (Lp (λ_ r j=>fe l j r h k loc H) f)
   (NQ (λv iv Ad=>ck w (vI (λj=>dg h λd h=>ck (Nat.ble l.length 1000000) (Tj l d v λl'=>bk h i (.list l') acc rest [(.i j,.i d)] [] Ad k loc)) iv)) f)
 |.sdict ks=>Xh 14 f (Lp (λ_ r j=>vS (λx=>Za .s h r x ks k loc H) j) f)
   (NQ (λv iv Ad=>ck w (vS (λx=>dg h λd h=>ck (Nat.ble ks.length 100000) (cond (Nat.beq d 62)
    (WH ks x v λDi kk=>bk h i (.sdict Di) acc rest [] [x∉kk] Ad k loc)
    (Vz ks d v λy Di=>bk h i (.sdict Di) acc rest [(.s y,.s x)] [] Ad k loc))) iv)) f)
 |.idict ks=>Xh 14 f (Lp (λ_ r j=>vI (λx=>Za .i h r x ks k loc H) j) f)
   (NQ (λv iv Ad=>ck w (vI (λx=>dg h λ_ h=>ck (Nat.ble ks.length 100000) (P7 (rv (rv ks []) [(x,v)]) λDi=>bk h i (.idict Di) acc rest [] [x∉ks.map (·.1)] Ad k loc)) iv)) f)
 |.cell u=>Xh 33 f (V9 (u.bind λv=>go h (.r (.v v)) k loc H) f) (Wc (λy Ad=>ck w (bk h i (.cell (some y)) acc rest [] [] Ad k loc)) f)
 |_=>none
noncomputable def mB(h:Nat)(f:FB)(t:Bool)(k:List Fr)(loc:Loc)(H:Lg):Option AR:=match f with
 |.ifx b o=>br h t (.ev b) k (.ev o) k loc H
 |.tnot=>go h (.r (.b !t)) k loc H
 |.tand es=>br h t (.ts .And es) k (.r (.b false)) k loc H
 |.tor es=>br h t (.r (.b true)) k (.ts .Or es) k loc H
 |.tif b o=>br h t (.te b) k (.te o) k loc H
 |.jif b o=>br h t (.xs b) k (.xs o) k loc H
 |.whl P body Ad=>br h t (.xs body) [.n (.fin P)] (.xs Ad) k loc H
 |.sif b o Ad=>br h t (.xs b) (.n (.seq Ad)::k) (.xs o) (.n (.seq Ad)::k) loc H
noncomputable def UQ{γ:Type}(g:Int->Int->Option γ)(vs:List V):Option γ:=GZ (λa r=>GZ (λb s=>Df (vI (λi=>vI (λj=>g i j) b) a) s) r) vs
noncomputable def VE{γ:Type}(g:List Int->Option γ)(vs:List V):Option γ:=GZ (λa r=>Df (vY g a) r) vs
noncomputable def mL(h:Nat)(f:FL)(vs:List V)(k:List Fr)(loc:Loc)(H:Lg):Option AR:=match f with
 |.cal2 f=>dg h λd h=>nz (UQ (λi j=>EM [(.v f,.v (.imm (.builtin "min")))] h (.r (.v (.int (min i j)))) k loc H) vs)
   (nz (UQ (λi j=>EM [(.v f,.v (.imm (.builtin "max")))] h (.r (.v (.int (max i j)))) k loc H) vs)
   (nz (VE (λl=>some ⟨h,.r (.v (.int l.length)),k,loc,H,[(.v f,.v (.imm (.builtin "len")))],[l.length<=1000000]⟩) vs)
   (nz (VE (λl=>EM [(.v f,.v (.imm (.type "bytes")))] h (.r (.v (.bytes l))) k loc H) vs) λ_=>none))) d
 |.tup=>ck (Nat.ble vs.length 100000) (go h (.r (.v (.tup vs))) k loc H)
 |.l2 a=>go h (.r (.l (a::vs))) k loc H
 |_=>none
noncomputable def namesOf:List Expr->List Str->Option (List Str)
 |[],acc=>match rv acc [] with
  |[]=>some []
  |x::r=>some (x::r)
 |e::es,acc=>W1 (λx _=>namesOf es (x::acc)) e
noncomputable def mN(F:Fn)(h:Nat)(f:FN)(k:List Fr)(loc:Loc)(H:Lg):Option AR:=match f with
 |.seq Ad=>go h (.xs Ad) k loc H
 |.unb xs vs Ad=>(match xs with
  |[]=>Df (go h (.xs Ad) k loc H) vs
  |x::xr=>GZ (λv vr=>Rn F h v x (.r .n) (.n (.unb xr vr Ad)::k) loc H) vs)
 |.fin _=>none
 |.one t body u=>cond (Nat.beq t.ctorIdx 23) (W1 (λx _=>Rn F h u x (.xs body) k loc H) t)
  (Q8 (λes _ _=>(namesOf es []).bind λxs=>vT (λvs=>ck (Nat.beq vs.length xs.length) (go h (.r .n) (.n (.unb xs vs body)::k) loc H)) u) t)
 |.unr t body Ad l=>(match l with
  |[]=>go h (.xs Ad) k loc H
  |u::l=>go h (.r .n) (.n (.one t body u)::.n (.unr t body Ad l)::k) loc H)
noncomputable def NA{α γ:Type}(g:α->Option γ)(l:List α):Option γ:=GZ (λa r=>Df (g a) r) l
noncomputable def QU(n:Nat)(e:Expr)(a b:Option AR):Option AR:=cond (Nat.beq e.ctorIdx n) a b
noncomputable def Yz(F:Fn)(h:Nat)(e:Expr)(k:List Fr)(loc:Loc)(H:Lg):Option AR:=match e with
 |.Name x _=>dg h λd h=>cond (Nat.ble 45 d) (Qu (AZ F.cix (Nat.sub d 45)) λy i=>some ⟨h,.r (.v (.ref i)),.v .cel::k,loc,H,[(.s y,.s x)],[Iu F x]⟩)
   (Qu (lk F.names loc F.globs d) λy v=>EM [(.s y,.s x)] h (.r (.v v)) k loc H)
 |.Constant c _ _=>(match c with
  |.int i=>go h (.r (.v (.int i))) k loc H
  |.none=>go h (.r (.v .none)) k loc H
  |.bool b=>go h (.r (.v (.bool b))) k loc H
  |.str y=>go h (.r (.v (.str y))) k loc H
  |.bytes y=>go h (.r (.v (.bytes (y.map λx=>(x.toNat:Int))))) k loc H
  |_=>none)
 |.BinOp l op r _=>go h (.ev l) (.v (.bin1 r op)::k) loc H
 |.Compare l Xr rs _=>NA (λop=>NA (λr=>ck (QJ r) (go h (.ev l) (.v (.cmp1 r op)::k) loc H)) rs) Xr
 |.IfExp t b o _=>go h (.te t) (.b (.ifx b o)::k) loc H
 |.UnaryOp op e _=>(match op with
  |.Not=>go h (.ev e) (.v (.vnot)::k) loc H
  |.USub=>go h (.ev e) (.v (.vneg)::k) loc H
  |_=>none)
 |.BoolOp op es p=>GZ (λl r=>GZ (λr s=>(match s with
  |[]=>(match op with
   |.And=>go h (.ev l) (.v (.vand r)::k) loc H
   |.Or=>go h (.ev l) (.v (.vor r)::k) loc H)
  |d::s=>Df (go h (.ev (.BoolOp op [l,.BoolOp op [r,d] p] p)) k loc H) s)) r) es
 |.Tuple es _ p=>go h (.ls p es) (.l (.tup)::k) loc H
 |.List es p=>go h (.ls p es) (.l (.lst)::k) loc H
 |.Attribute e x _=>ck (iM e) (go h (.ev e) (.v (.attr x)::k) loc H)
 |.Subscript l r _=>QU 26 r (bH (λlo hi s sp=>RE (go h (.ev l) (.v (.sl1 l (.Slice lo hi none sp) lo hi)::k) loc H) s) r) (go h (.ev l) (.v (.sub1 l r)::k) loc H)
 |.Call f args kw p=>Df (QU 20 f (Q9 (λo name Kt=>ck (iL o) (ck (Kt.endLine==p.line) (ck (B9 args) (go h (.ev o) (.v (.me1 p name args)::k) loc H)))) f) (ck (Y1 f) (ck (B9 args) (go h (.ev f) (.v (.cal1 p args)::k) loc H)))) kw
 |_=>none
noncomputable def Xi(n:Nat)(e:Stmt)(a b:Option AR):Option AR:=cond (Nat.beq e.ctorIdx n) a b
noncomputable def Yw(h:Nat)(e:Expr)(k:List Fr)(loc:Loc)(H:Lg):Option AR:=
 QU 15 e (UK (λl Xr rs _=>GZ (λop s=>(match s with
  |[]=>NA (λr=>ck (QJ r) (go h (.ev l) (.v (.cmp1 r op)::.v (.tof)::k) loc H)) rs
  |DQ::s=>Df (GZ (λr t=>NA (λr2=>ck (QJ r2) (go h (.ev l) (.v (.ch1 op DQ r r2)::k) loc H)) t) rs) s)) Xr) e)
 (QU 3 e (Q7 (λop e _=>UP (go h (.te e) (.b (.tnot)::k) loc H) op) e)
 (QU 0 e (UL (λop es _=>go h (.ts op es) k loc H) e)
 (QU 5 e (dx (λt b o _=>go h (.te t) (.b (.tif b o)::k) loc H) e)
 (ck (ee e) (go h (.ev e) (.v (.tof)::k) loc H)))))
noncomputable def Yy(F:Fn)(h:Nat)(x:Str)(e:Expr)(Ad:List Stmt)(k:List Fr)(loc:Loc)(H:Lg):List (Str×Nat)->Option AR
 |[]=>go h (.ev e) (.v (.asn x Ad)::k) loc H
 |_::_=>dg h λd h=>cond (Nat.ble 20 d) (go h (.ev e) (.v (.asn x Ad)::k) loc H)
   (Qu (AZ F.cix d) λy _=>some ⟨h,.ev e,.v (.asc x Ad)::k,loc,H,[(.s y,.s x)],[Iu F x,(F.cix.map (·.1)).Nodup]⟩)
noncomputable def YA(F:Fn)(h:Nat)(t e:Expr)(Ad:List Stmt)(k:List Fr)(loc:Loc)(H:Lg):Option AR:=
 QU 23 t (W1 (λx _=>Yy F h x e Ad k loc H F.cix) t)
 (QU 20 t (Q9 (λo x _=>go h (.ev e) (.v (.ata1 o x Ad)::k) loc H) t)
 (QU 21 t (UF (λo i _=>go h (.ev e) (.v (.asu1 o i Ad)::k) loc H) t)
 (Q8 (λes n tp=>(namesOf es []).bind λxs=>dg h λd h=>nz (QR [∀L,swappedStores [.Tuple es n tp] e (F.env L)=pure none] h (.ev e) (.v (.unp xs Ad)::k) loc H) (nz (QR [∀L,swappedStores [.Tuple es n tp] e (F.env L)=pure (some xs)] h (.ev e) (.v (.swp xs Ad)::k) loc H) λ_=>none) d) t)))
noncomputable def YO(h:Nat)(loc:Loc)(H:Lg):Option Expr->Option AR
 |some e=>go h (.ev e) [.v .ret] loc H
 |none=>go h (.r (.v .none)) [.v .ret] loc H
noncomputable def Yx(F:Fn)(h:Nat)(s:Stmt)(Ad:List Stmt)(k:List Fr)(loc:Loc)(H:Lg):Option AR:=
 Xi 12 s (dQ (λt b o _=>go h (.te t) (.b (.sif b o Ad)::k) loc H) s)
 (Xi 3 s (U8 (λv _=>YO h loc H v) s)
 (Xi 25 s (U9 (λ_=>go h (.xs Ad) k loc H) s)
 (Xi 24 s (Va (λe _=>ck (RC e) (go h (.ev e) (.v (.exs Ad)::k) loc H)) s)
 (Xi 5 s (Vc (λts e _=>NA (λt=>ck (RC e) (YA F h t e Ad k loc H)) ts) s)
 (Np (λt iter body WV _=>Df (dg h λd h=>nz (Yi (λf args kw p=>Df (W1 (λx q=>ck (B9 args) (EM [(.s x,.s "range")] h (.ev (.Name x q)) (.v (.frf p args t body Ad)::k) loc H)) f) kw) iter)
   (nz (ck (QJ iter) (go h (.ev iter) (.v (.frv t body Ad)::k) loc H)) λ_=>none) d) WV) s)))))
noncomputable def step(F:Fn)(h:Nat)(ctl:CP)(fr:List Fr)(loc:Loc)(H:Lg):Option AR:=match ctl with
 |.ev e=>Yz F h e fr loc H
 |.te e=>Yw h e fr loc H
 |.ts op es=>(match es with
  |[]=>(match op with
   |.And=>go h (.r (.b true)) fr loc H
   |.Or=>go h (.r (.b false)) fr loc H)
  |e::es=>(match op with
   |.And=>go h (.te e) (.b (.tand es)::fr) loc H
   |.Or=>go h (.te e) (.b (.tor es)::fr) loc H))
 |.ls p es=>(match es with
  |[]=>go h (.r (.l [])) fr loc H
  |e::es=>ck (iK e) (go h (.ev e) (.v (.l1 p es)::fr) loc H))
 |.eo e=>(match e with
  |none=>go h (.r (.v .none)) fr loc H
  |some e=>go h (.ev e) fr loc H)
 |.xs ss=>(match ss with
  |[]=>go h (.r .n) fr loc H
  |s::Ad=>Yx F h s Ad fr loc H)
 |.r x=>GZ (λf k=>(match f with
   |.v f=>(match x with
    |.v a=>mV F h f a k loc H
    |.o e acc rest=>mO h f e.i e.o e.w acc rest k loc H
    |_=>none)
   |.b f=>rB (λt=>mB h f t k loc H) x
   |.l f=>rL (λvs=>mL h f vs k loc H) x
   |.n f=>rN (mN F h f k loc H) x)) fr
structure AA where
 ctl:CP
 fr:List Fr
 loc:Loc
 H:Lg
structure QD where
 s:AA
 L:List Tk
 R:List Tk
 n:List Prop
noncomputable def Pm:List (Tk×Tk)->List Tk->List Tk->(List Tk->List Tk->QD)->QD
 |[],L,R,f=>f L R
 |(a,b)::q,L,R,f=>Pm q (a::L) (b::R) f
noncomputable def MB:List Prop->List Prop->(List Prop->QD)->QD
 |[],N,f=>f N
 |p::n,N,f=>MB n (p::N) f
noncomputable def I9(F:Fn):Nat->Nat->CP->List Fr->Loc->Lg->List Tk->List Tk->List Prop->QD
 |0,_,ctl,fr,loc,H,L,R,N=>⟨⟨ctl,fr,loc,H⟩,L,R,N⟩
 |f+1,h,ctl,fr,loc,H,L,R,N=>match step F h ctl fr loc H with
  |none=>⟨⟨ctl,fr,loc,H⟩,L,R,N⟩
  |some ⟨h',ID,Om,loc',H',q,n⟩=>Pm q L R λL' R'=>MB n N λN'=>I9 F f h' ID Om loc' H' L' R' N'
noncomputable def I8(F:Fn)(n h:Nat)(ctl:CP)(fr:List Fr)(loc:Loc)(H:Lg):QD:=match rv (rv H []) [] with
 |[]=>I9 F n h ctl fr loc [] [] [] []
 |x::r=>I9 F n h ctl fr loc (x::r) [] [] []
section
theorem nn{α:Type}{p:α}{X:Prop}(h:none=some p):X:=nomatch h
variable{γ:Type}{z:γ}{S:AA}{P:AA->Prop}
noncomputable def tB(g:Bool->FB->Option γ):AA->Option γ
 |⟨.r (.b a),.b b::_,_,_⟩=>g a b
 |_=>none
theorem dG{g:Bool->FB->Option γ}(e:tB g S=some z)(h:∀a b k l H,g a b=some z->P ⟨.r (.b a),.b b::k,l,H⟩):P S:=by
 obtain⟨c,fr,l,H⟩:=S;induction c using Mine.CP.casesOn with
 |r x=>induction x using Mine.Rs.casesOn with
  |b a=>induction fr using cU with
   |nil=>exact nn e
   |cons y k=>induction y using Mine.Fr.casesOn with
    |b b=>exact h a b k l H e
    |_=>exact nn e
  |_=>exact nn e
 |_=>exact nn e
noncomputable def tV(g:V->FV->Option γ):AA->Option γ
 |⟨.r (.v a),.v b::_,_,_⟩=>g a b
 |_=>none
theorem Rg{g:V->FV->Option γ}(e:tV g S=some z)(h:∀a b k l H,g a b=some z->P ⟨.r (.v a),.v b::k,l,H⟩):P S:=by
 obtain⟨c,fr,l,H⟩:=S;induction c using Mine.CP.casesOn with
 |r x=>induction x using Mine.Rs.casesOn with
  |v a=>induction fr using cU with
   |nil=>exact nn e
   |cons y k=>induction y using Mine.Fr.casesOn with
    |v b=>exact h a b k l H e
    |_=>exact nn e
  |_=>exact nn e
 |_=>exact nn e
noncomputable def tL(g:List V->FL->Option γ):AA->Option γ
 |⟨.r (.l a),.l b::_,_,_⟩=>g a b
 |_=>none
theorem Yv{g:List V->FL->Option γ}(e:tL g S=some z)(h:∀a b k l H,g a b=some z->P ⟨.r (.l a),.l b::k,l,H⟩):P S:=by
 obtain⟨c,fr,l,H⟩:=S;induction c using Mine.CP.casesOn with
 |r x=>induction x using Mine.Rs.casesOn with
  |l a=>induction fr using cU with
   |nil=>exact nn e
   |cons y k=>induction y using Mine.Fr.casesOn with
    |l b=>exact h a b k l H e
    |_=>exact nn e
  |_=>exact nn e
 |_=>exact nn e
noncomputable def tN(g:FN->Option γ):AA->Option γ
 |⟨.r (.n),.n b::_,_,_⟩=>g b
 |_=>none
theorem mH{g:FN->Option γ}(e:tN g S=some z)(h:∀b k l H,g b=some z->P ⟨.r (.n),.n b::k,l,H⟩):P S:=by
 obtain⟨c,fr,l,H⟩:=S;induction c using Mine.CP.casesOn with
 |r x=>induction x using Mine.Rs.casesOn with
  |n=>induction fr using cU with
   |nil=>exact nn e
   |cons y k=>induction y using Mine.Fr.casesOn with
    |n b=>exact h b k l H e
    |_=>exact nn e
  |_=>exact nn e
 |_=>exact nn e
noncomputable def tO(g:Le->Lg->Lg->FV->Option γ):AA->Option γ
 |⟨.r (.o a0 a1 a2),.v b::_,_,_⟩=>g a0 a1 a2 b
 |_=>none
theorem ir{g:Le->Lg->Lg->FV->Option γ}(e:tO g S=some z)(h:∀a0 a1 a2 b k l H,g a0 a1 a2 b=some z->P ⟨.r (.o a0 a1 a2),.v b::k,l,H⟩):P S:=by
 obtain⟨c,fr,l,H⟩:=S;induction c using Mine.CP.casesOn with
 |r x=>induction x using Mine.Rs.casesOn with
  |o a0 a1 a2=>induction fr using cU with
   |nil=>exact nn e
   |cons y k=>induction y using Mine.Fr.casesOn with
    |v b=>exact h a0 a1 a2 b k l H e
    |_=>exact nn e
  |_=>exact nn e
 |_=>exact nn e
end
noncomputable def AllP:List Prop->Prop
 |[]=>True
 |[p]=>p
 |p::r=>p/\AllP r
theorem AllP.cons{p:Prop}{r:List Prop}:AllP (p::r)<->p/\AllP r:=by
 induction r using cU with
 |nil=>exact⟨λh=>⟨h,trivial⟩,λh=>h.1⟩
 |cons=>exact Iff.rfl
def Ua(q:List (Tk×Tk)):Prop:=∀x∈q,x.1=x.2
theorem Ua.one{a b:Tk}(h:Ua [(a,b)]):a=b:=h _ (.head _)
theorem D7{α:Type}:∀{l:List α}{n:Nat}{x:α},AZ l n=some x->l[n]? =some x
 |_::_,0,_,h=>h
 |_::r,n+1,_,h=>D7 (l:=r) (n:=n) h
theorem O7{α:Type}{l:List α}:∀{n:Nat}{acc a:List α}{e:α}{r:List α},sp l n acc=some (a,e,r)->rv acc l=rv a (e::r)/\a.length=acc.length+n:=by
 induction l with
 |nil=>intro n acc a e r h;exact xO h
 |cons x l ih=>
  intro n acc a e r h;induction n using qt with
  |zero=>cases h;exact⟨rfl,rfl⟩
  |succ n=>have q:=ih (n:=n) (acc:=x::acc) h;exact⟨q.1,by rw[q.2,jK,sS,Nat.add_comm 1]⟩
theorem Lc:∀{ns:List Str}{ls:Loc}{gs:List (Str×V)}{d:Nat}{y:Str}{v:V},lk ns ls gs d=some (y,v)->Has y v ns ls\/FH y v gs
 |[],_,gs,d,_,_,h=>.inr (go gs d h)
 |_::ns,none::ls,gs,d+1,_,_,h=>(Lc (ns:=ns) (ls:=ls) (gs:=gs) (d:=d) h).imp .tail id
 |_::ns,some _::ls,gs,d+1,_,_,h=>(Lc (ns:=ns) (ls:=ls) (gs:=gs) (d:=d) h).imp .tail id
 |_::_,some _::_,_,0,_,_,h=>by obtain⟨rfl,rfl⟩:=bW (bg h);exact .inl .head
 |_::_,none::_,_,0,_,_,h=>nomatch h
 |_::_,[],_,0,_,_,h=>nomatch h
 |_::_,[],_,_+1,_,_,h=>nomatch h
where go:∀(gs:List (Str×V))(d:Nat){y:Str}{v:V},AZ gs d=some (y,v)->FH y v gs
 |_::_,0,_,_,h=>by obtain rfl:=bg h;exact .head
 |_::gs,d+1,_,_,h=>.tail (go gs d h)
theorem O9{v:V}{ns:List Str}:∀{ls:Loc}{d:Nat}{acc a l:Loc}{y:Str},UX ns ls d acc=some (y,a,l)->∃l',rv a (some v::l)=rv acc l'/\Upd y v ns ls l':=by
 induction ns with
 |nil=>intro ls d acc a l y h;exact xO h
 |cons n ns ih=>
  intro ls d acc a l y h;induction ls using cU with
  |nil=>induction d using qt<;>exact xO h
  |cons u ls=>induction d using qt with
   |zero=>cases h;exact⟨_,rfl,.head⟩
   |succ d=>exact(ih (ls:=ls) (d:=d) (acc:=u::acc) h).elim λl' w=>⟨u::l',w.1,.tail w.2⟩
theorem PN:∀(fs:List (Str×V))(acc:List Str),bP fs acc=acc.reverse++fs.map (·.1)
 |[],acc=>by show rv acc []=_;rw[Bc];rfl
 |(y,v)::r,acc=>by show bP r (y::acc)=_;rw[PN r];simp
theorem DI{c:Nat}:∀{l:List Nat},JU c l=true->c∈l
 |x::r,h=>by
  unfold JU at h;split at h
  ·rename_i e;rw[oW e];exact .head _
  ·exact .tail _ (DI h)
theorem Lf(a l:Lg):Cc (rv a l)=(Cc a).reverse++Cc l:=by unfold Cc;rw[Bc];simp
theorem Qx{i:Nat}{o:O}{r:AW}:∀a:AW,Cw i o (a++(i,o)::r)
 |[]=>.head
 |_::a=>.tail (Qx a)
theorem MA{i:Nat}{o u:O}{r:AW}:∀a:AW,B4 i o (a++(i,u)::r) (a++(i,o)::r)
 |[]=>.head
 |_::a=>.tail (MA a)
theorem PV{α:Type}{x:α}{v:V}{r:List (α×V)}:∀a:List (α×V),At x v (a++(x,v)::r)
 |[]=>.head
 |_::a=>.tail (PV a)
theorem IR{x:Str}{v u:V}{r:List (Str×V)}:∀a:List (Str×V),UpdF x v (a++(x,u)::r) (a++(x,v)::r)
 |[]=>.head
 |_::a=>.tail (IR a)
theorem Jd{α:Type}{x:α}{v u:V}{r:List (α×V)}:∀a:List (α×V),QC x v (a++(x,u)::r) (a++(x,v)::r)
 |[]=>.head
 |_::a=>.tail (Jd a)
theorem JJ:∀{l:List (Str×V)}{n:Nat}{y:Str}{v:V},AZ l n=some (y,v)->FH y v l
 |_::_,0,_,_,h=>by obtain rfl:=bg h;exact .head
 |_::r,n+1,_,_,h=>.tail (JJ (l:=r) (n:=n) h)
theorem Es:∀{l:List (Str×Nat)}{n:Nat}{y:Str}{i:Nat},AZ l n=some (y,i)->Md y i l
 |_::_,0,_,_,h=>by obtain rfl:=bg h;exact .head
 |_::r,n+1,_,_,h=>.tail (Es (l:=r) (n:=n) h)
theorem L9{α:Type}:∀{l:List (α×V)}{n:Nat}{y:α}{v:V},AZ l n=some (y,v)->At y v l
 |_::_,0,_,_,h=>by obtain rfl:=bg h;exact .head
 |_::r,n+1,_,_,h=>.tail (L9 (l:=r) (n:=n) h)
section
variable{c:Cx}{m:Mx c}{H:Lg}{os:List O}
theorem Sg.at{e:Le}{acc rest:Lg}(I:Sg m (rv acc (e::rest)) os):Cw e.i e.o (Cc (rv acc (e::rest))):=by rw[Lf];exact Qx _
theorem Sg.put{i:Nat}{o:O}(u:O){acc rest:Lg}(I:Sg m (rv acc (⟨i,o,true⟩::rest)) os):(i∈m.U\/m.os0.length<=i)/\B4 i u (Cc (rv acc (⟨i,o,true⟩::rest))) (Cc (rv acc (⟨i,u,true⟩::rest)))/\
  ∀Ae,St m.os0 m.U (Cc (rv acc (⟨i,u,true⟩::rest))) Ae->Sg m (rv acc (⟨i,u,true⟩::rest)) Ae:=by
 have hi:=I.own ⟨i,o,true⟩ (by rw[Bc];simp) rfl;refine⟨hi,by rw[Lf,Lf];exact MA _,λAe J=>⟨J,λe he hw=>?_⟩⟩;rw[Bc] at he;rcases lZ.mp he with h|h
 ·exact I.own e (by rw[Bc];exact o8 _ h) hw
 ·rcases cS.mp h with rfl|h
  ·exact hi
  ·exact I.own e (by rw[Bc];exact qP _ (.tail _ h)) hw
end
def Good{c:Cx}(m:Mx c)(o:Option AR)(S:Prop):Prop:=∀r,o=some r->Ua r.q->AllP r.n->Sem m r.ctl r.fr r.loc r.H->S
section
variable{c:Cx}{m:Mx c}{S:Prop}{h:Nat}{ctl:CP}{fr k:List Fr}{loc:Loc}{H:Lg}{q:List (Tk×Tk)}{n:List Prop}{a:V}
theorem AN:Good m none S:=λ_ h=>nomatch h
theorem Ax(x:Ua q->AllP n->Sem m ctl fr loc H->S):Good m (some ⟨h,ctl,fr,loc,H,q,n⟩) S:=λr e=>by obtain rfl:=bg e;exact x
theorem Al(x:Sem m ctl fr loc H->S):Good m (go h ctl fr loc H) S:=Ax λ_ _=>x
theorem Bj{f:Nat->Nat->Option AR}(x:∀d h,Good m (f d h) S):Good m (dg h f) S:=go _
where go:∀d,Good m (jo d (Nat.div h 64) f) S
 |0=>AN
 |_+1=>x _ _
theorem AV{b:Bool}{o:Option AR}(x:b=true->Good m o S):Good m (ck b o) S:=λr e=>V4 e λh e=>x h r e
theorem HA{α:Type}{o:Option α}{f:α->Option AR}(x:∀t,o=some t->Good m (f t) S):Good m (o.bind f) S:=λr e=>bd e λt h e=>x t h r e
theorem Ew{α β:Type}{o:Option (α×β)}{f:α->β->Option AR}(x:∀a b,o=some (a,b)->Good m (f a b) S):Good m (Qu o f) S:=by
 induction o using il with
 |none=>exact AN
 |some t=>exact x t.1 t.2 rfl
theorem MN{α β γ:Type}{o:Option (α×β×γ)}{f:α->β->γ->Option AR}(x:∀a b c,o=some (a,b,c)->Good m (f a b c) S):Good m (aQ o f) S:=by
 induction o using il with
 |none=>exact AN
 |some t=>exact x t.1 t.2.1 t.2.2 rfl
theorem A0{a:Option AR}{f:Nat->Option AR}{d:Nat}(x:Good m a S)(y:∀n,Good m (f n) S):Good m (nz a f d) S:=λr e=>nw e (x r) λn=>y n r
theorem CV{b:Bool}{x y:Option AR}(p:b=true->Good m x S)(q:b=false->Good m y S):Good m (cond b x y) S:=λr e=>aG e (λh=>p h r) λh=>q h r
theorem Eu{f:Int->Option AR}(x:∀i,a=.int i->Good m (f i) S):Good m (vI f a) S:=λr e=>dD e λi h e=>x i h r e
theorem JL{f:Bool->Option AR}(x:∀i,a=.bool i->Good m (f i) S):Good m (vB f a) S:=λr e=>bI e λi h e=>x i h r e
theorem TG{f:Str->Option AR}(x:∀i,a=.str i->Good m (f i) S):Good m (vS f a) S:=λr e=>dC e λi h e=>x i h r e
theorem ZM{f:Nat->Option AR}(x:∀i,a=.ref i->Good m (f i) S):Good m (vR f a) S:=λr e=>mu e λi h e=>x i h r e
theorem JK{f:List V->Option AR}(x:∀i,a=.tup i->Good m (f i) S):Good m (vT f a) S:=λr e=>ms e λi h e=>x i h r e
theorem TF{f:List Int->Option AR}(x:∀i,a=.bytes i->Good m (f i) S):Good m (vY f a) S:=λr e=>mr e λi h e=>x i h r e
theorem DS{α:Type}{f:α->List α->Option AR}{l:List α}(x:∀a r,l=a::r->Good m (f a r) S):Good m (GZ f l) S:=λr e=>H6 e λa t h e=>x a t h r e
theorem Ff{α:Type}{o:Option AR}{l:List α}(x:l=[]->Good m o S):Good m (Df o l) S:=λr e=>Fe e λh e=>x h r e
theorem C4{α:Type}{l:List α}{f:List α->Option AR}(x:Good m (f l) S):Good m (P7 l f) S:=by induction l using cU<;>exact x
theorem DT{t:Bool}{c1 c2:CP}{k1 k2:List Fr}(x:t=true->Sem m c1 k1 loc H->S)(y:t=false->Sem m c2 k2 loc H->S):Good m (br h t c1 k1 c2 k2 loc H) S:=Bj λd h=>A0 (Ax λe _=>x (Tk.b.inj e.one)) λ_=>A0 (Ax λe _=>y (Tk.b.inj e.one)) λ_=>A0 (Ax λ_ n=>x n) λ_=>A0 (Ax λ_ n=>y n) λ_=>AN
theorem DH{f:FV}(x:∀e acc rest,H=rv acc (e::rest)->IV m f (I m k) loc H (.ref e.i)->a=.ref e.i->S):Good m (HW h a f k loc H) S:=ZM λi ha=>
 Bj λd h=>MN λacc e rest hs=>Ax λq _ s=>have hH:=(O7 hs).1
  x e acc rest hH (s hH) (ha.trans (gC V.ref (Tk.n.inj q.one)))
theorem Sq{g:Gl}{d:Nat}{os:List O}{op:CmpOp}{i j:Int}{t:Bool}{K:List O->V->Prop}(e:aD op i j=some t)(hk:K os (.bool t)):Aw g d (BC op) [.int i,.int j] os K:=by
 induction op using PySem.CmpOp.casesOn
 case Lt=>exact eu (bg e▸hk)
 case LtE=>exact ez (bg e▸hk)
 case Gt=>exact eA (bg e▸hk)
 case GtE=>exact eC (bg e▸hk)
 case Eq=>exact eE (bg e▸hk)
 case NotEq=>exact er (bg e▸hk)
 all_goals exact xO e
theorem Ie{a b:CmpOp}(h:Nat.beq a.ctorIdx b.ctorIdx=true):a=b:=(CmpOp.ofNat_ctorIdx a).symm.trans ((gC CmpOp.ofNat (oW h)).trans (CmpOp.ofNat_ctorIdx b))
theorem VD{o1 o2 op:CmpOp}{b:Bool}{q0:List (Tk×Tk)}{z:Bool×List (Tk×Tk)}{Q:Prop}(e:YZ o1 o2 op b q0=some z)(k1:op=o1->z=(b,q0)->Q)(k2:op=o2->z=(!b,q0)->Q):Q:=aG e (λh e=>k1 (Ie h) (bg e).symm) λ_ e=>aG e (λh e=>k2 (Ie h) (bg e).symm) λ_ e=>xO e
theorem MU{g:Gl}{d:Nat}{os:List O}{op:CmpOp}{x a:V}{z:Bool×List (Tk×Tk)}{K:List O->V->Prop}(e:NY op x a=some z)(hq:Ua z.2)(hk:K os (.bool z.1)):Aw g d (BC op) [x,a] os K:=by
 induction a using Mine.V.casesOn with
 |none=>exact bd e λb hb e=>VD e (λh1 h2=>by subst h1 h2;exact NC hb hk) λh1 h2=>by subst h1 h2;exact Jp hb hk
 |int j=>exact dD e λi h e1=>bd e1 λb hb e2=>by subst h;obtain rfl:=bg e2;exact Sq hb hk
 |tup l=>
  induction x using Mine.V.casesOn with
  |int i=>exact VD e (λh1 h2=>by subst h1 h2;exact dW (Tk.vs.inj hq.one) hk) λh1 h2=>by subst h1 h2;exact Rx (Tk.vs.inj hq.one) hk
  |tup l'=>exact bd e λb hb e=>VD e (λh1 h2=>by subst h1 h2;exact Px hb hk) λh1 h2=>by subst h1 h2;exact Pr hb hk
  |_=>exact xO e
 |str y=>exact dC e λz' h e1=>aG e1 (λh2 e2=>by subst h;obtain rfl:=bg e2;obtain rfl:=Ie h2;exact Py hk) λh2 e2=>aG e2 (λh3 _=>xB (h2.symm.trans h3)) λ_ e3=>xO e3
 |_=>exact xO e
theorem P4{op:CmpOp}{x a:V}{f:Bool->List (Tk×Tk)->Nat->Option AR}(hf:∀b q h,NY op x a=some (b,q)->Good m (f b q h) S):Good m (Ww op x a h f) S:=
 have key:Good m (dg h λ_ h=>Qu (NY op x a) λb q=>f b q h) S:=Bj λd h=>Ew λb q e=>hf b q h e
 CV (λ_=>CV (λ_=>Ew λb q e=>hf b q h e) λ_=>key) λ_=>key
section
variable{op:Operator}{i j:Int}
abbrev BI(m:Mx c)(k:List Fr)(loc:Loc)(H:Lg)(op:Operator)(i j:Int):Prop:=Wn m H λos=>oB c op (.int i) (cV m (I m k) loc) os (.int j)
theorem BB{u:Int}(x:Ua q->AllP n->∀os{K:List O->V->Prop},K os (.int u)->oB c op (.int i) K os (.int j)):Good m (some ⟨h,.r (.v (.int u)),k,loc,H,q,n⟩) (BI m k loc H op i j):=Ax λhq hn s os I=>x hq hn os ⟨H,I,s⟩
theorem Rm{n:Nat}{M:Int}{os:List O}{K:List O->V->Prop}(e:(2:Int)^n=M)(h:j=n)(k:K os (.int (i/M))):oB c .RShift (.int i) K os (.int j):=by subst h;exact Y3 (lY _) (by rw[Rl e];exact k)
theorem WE{M u:Int}{os:List O}{K:List O->V->Prop}(h:j=M)(e:Builtin.bitAnd i M=u)(k:K os (.int u)):oB c .BitAnd (.int i) K os (.int j):=by subst h e;exact Tp k
theorem TN{os:List O}{K:List O->V->Prop}(n:0<j/\j<1073741824)(k:K os (.int (i/j))):oB c .FloorDiv (.int i) K os (.int j):=Vt n.1 (by have:=n;exact L2 [_] [_] 0x7e8410800000007c824410800000007c80441 n.2 (qX (show 0<=j from L1 [] [_] 0xcc8820066041 n.1))) k
theorem YW{os:List O}{K:List O->V->Prop}(n:i=2/\0<=j/\j<=1000000)(k:K os (.int (2^j.toNat))):oB c .Pow (.int i) K os (.int j):=by obtain⟨rfl,a,b⟩:=n;exact Vl a b k
theorem YC{L n:Int}{os:List O}{K:List O->V->Prop}(h:j=n)(a:0<=n)(b:n<=1000000)(c':i.natAbs<2^64)(e:i*2^n.toNat=L)(k:K os (.int L)):oB c .LShift (.int i) K os (.int j):=by subst h e;exact To a b c' k
theorem R7:Good m (binI op i j h k loc H) (BI m k loc H op i j):=by
 induction op using PySem.Operator.casesOn
 case Add=>exact BB λ_ _ _ _ k=>Y7 k
 case Sub=>exact BB λ_ _ _ _ k=>Y2 k
 case BitOr=>exact BB λ_ _ _ _ k=>ej k
 case BitAnd=>exact Bj λd h=>A0 (BB λq _ _ _ k=>WE (Tk.i.inj q.one) (bitAnd_m32 _) k) λ_=>A0 (BB λq _ _ _ k=>WE (Tk.i.inj q.one) (bitAnd_m1 _) k) λ_=>A0 (BB λq _ _ _ k=>WE (Tk.i.inj q.one) (bitAnd_m4 _) k) λ_=>A0 (BB λ_ _ _ _ k=>Tp k) λ_=>AN
 case RShift=>exact Bj λd h=>A0 (BB λq _ _ _ k=>Rm (n:=31) rfl (Tk.i.inj q.one) k) λ_=>A0 (BB λq _ _ _ k=>Rm (n:=4) rfl (Tk.i.inj q.one) k) λ_=>A0 (BB λq _ _ _ k=>Rm (n:=1) rfl (Tk.i.inj q.one) k) λ_=>A0 (BB λq _ _ _ k=>Rm (n:=8) rfl (Tk.i.inj q.one) k) λ_=>AN
 case LShift=>exact Bj λd h=>A0 (BB λq n _ _ k=>YC (Tk.i.inj q.one) (by decide) (by decide) n rfl k) λ_=>A0 (BB λq _ _ _ k=>by have e:i=1:=Tk.i.inj (q _ (.head _));subst e;exact YC (Tk.i.inj (q _ (.tail _ (.head _)))) (by decide) (by decide) (by decide) rfl k) λ_=>A0 (BB λ_ n _ _ k=>To n.1 n.2.1 n.2.2 k) λ_=>AN
 case Mod=>exact Bj λd h=>A0 (BB λq _ _ _ k=>Ti (dv (Tk.b.inj q.one)) k) λ_=>A0 (BB λ_ n _ _ k=>Ti n k) λ_=>AN
 case FloorDiv=>exact Bj λd h=>A0 (BB λq _ _ _ k=>TN (dv (Tk.b.inj q.one)) k) λ_=>A0 (BB λ_ n _ _ k=>TN n k) λ_=>AN
 case Mult=>exact BB λ_ n _ _ k=>YS n k
 case Pow=>exact Bj λd h=>A0 (BB λq _ _ _ k=>YW (dv (Tk.b.inj q.one)) k) λ_=>A0 (BB λ_ n _ _ k=>YW n k) λ_=>AN
 all_goals exact AN
end
theorem P2{l:List V}{i:V}{r le:Expr}{o:V}(ho:∀{j:Int}{v:V}{os:List O}{K:List O->V->Prop},Sg m H os->0<=j->j<1000000->l[j.toNat]? =some v->As r=true->K os v->Aw c.g c.d (CQ le r) [o,.int j] os K):
  Good m (fe l i r h k loc H) (Wn m H λos=>Aw c.g c.d (CQ le r) [o,i] os (cV m (I m k) loc)):=Eu λj hj=>AV λhp=>Bj λd h=>AV λhb=>HA λv hv=>Ax λq _ s os I=>by
 have e:j=d:=Tk.i.inj q.one;subst e hj;exact ho I (lY d) (pv.mpr (qY.mp hb)) (by rw[qS];exact D7 hv) hp ⟨H,I,s⟩
theorem FW{x:V}{u:Option Int}(e:EP x=some u):BD x u:=by
 unfold EP at e;split at e<;>cases e
 ·exact .none
 ·exact .int _
end
section
variable{c:Cx}{m:Mx c}{S:Prop}{h:Nat}{ctl:CP}{fr k:List Fr}{loc:Loc}{H:Lg}{a:V}{os:List O}{Ad:List Stmt}
theorem UM{t:Bool}{P:Prop}(e:t=true)(q:t=false):P:=Yk (e.symm.trans q)
theorem Gg{e:Expr}{f:FV}{T:List O->V->Prop}(x:∀H v,IV m f (I m k) loc H v->Wn m H λos=>T os v):Good m (go h (.ev e) (.v f::k) loc H) (Wn m H λos=>Ev c e loc os T):=Al λs os I=>AG.mono (s os I) λos v c=>let⟨H,I,q⟩:=c;x H v q os I
theorem TJ{e:Option Expr}{f:FV}{T:List O->V->Prop}(x:∀H v,IV m f (I m k) loc H v->Wn m H λos=>T os v):Good m (go h (.eo e) (.v f::k) loc H) (Wn m H λos=>Eo c e loc os T):=Al λs os I=>Cd.mono (s os I) λos v c=>let⟨H,I,q⟩:=c;x H v q os I
theorem TH{p:Pos}{es:List Expr}{f:FL}{T:List O->List V->Prop}(x:∀H v,IL m f (I m k) loc H v->Wn m H λos=>T os v):Good m (go h (.ls p es) (.l f::k) loc H) (Wn m H λos=>Ls c p es loc os T):=Al λs os I=>Cd.mono (s os I) λos v c=>let⟨H,I,q⟩:=c;x H v q os I
theorem UO{J:Loc->Rs->Lg->Prop}{t:Expr}{body:List Stmt}{l:List V}(k:Unr c t body (λloc os=>cX m J loc Ad os) (cR m) l loc os):ji m J loc t body Ad os (.tup l):=by
 refine⟨tupK c.g c.d l,l.length,λn loc os=>Unr c t body (λloc os=>cX m J loc Ad os) (cR m) (l.drop n) loc os,Nz,by simpa using k,λn loc os hn hI=>?_,λloc os hI=>?_⟩
 ·have e:l.drop n=l[n]::l.drop (n+1):=(List.getElem_cons_drop (h:=hn)).symm;have hI:Unr c t body (λloc os=>cX m J loc Ad os) (cR m) (l.drop n) loc os:=hI;rw[e] at hI;obtain⟨Am,a,b⟩:=hI;exact⟨l[n],Am,cQ hn,a,b⟩
 ·have hI:Unr c t body (λloc os=>cX m J loc Ad os) (cR m) (l.drop l.length) loc os:=hI;rw[List.drop_length] at hI;exact⟨o9.mpr (oU _),hI⟩
theorem Lm{x:Str}{ctl:CP}(y:∀l',Upd x a c.F.names loc l'->Sem m ctl k l' H->S):Good m (Rn c.F h a x ctl k loc H) S:=Bj λd h=>MN λz acc ls e=>C4 (Ax λq _ s=>(O9 (v:=a) e).elim λl' w=>y l' (Tk.s.inj q.one▸w.2) ((show rv acc (some a::ls)=l' from w.1)▸s))
theorem fu{f:FV}:Good m (mV c.F h f a k loc H) (IV m f (I m k) loc H a):=by
 induction f using Mine.FV.casesOn
 case bin1 r op=>exact Gg λH v q=>q
 case bin2 op x=>exact Eu λi hi=>Eu λj hj=>by subst hi hj;exact R7
 case cmp1 r op=>exact Gg λH v q=>q
 case cmp2 op x=>exact P4 (f:=λb q h=>EM q h (.r (.v (.bool b))) k loc H) λb q h e=>Ax λhq _ s os I=>MU e hq ⟨H,I,s⟩
 case ch1 Iw DQ r r2=>exact Gg λH v q=>q
 case ch2 Iw DQ r2 x=>exact P4 (f:=λb q h=>EM q h (.r (.v (.bool b))) (.v (.ch3 DQ r2 a)::k) loc H) λb q h e=>Ax λhq _ s os I=>MU e hq (s os I)
 case ch3 DQ r2 b=>exact JL λt ha=>DT (λe s os I=>⟨t,ha,λ_=>AG.mono (s os I) λos v⟨H1,I1,q⟩=>Aw.mono (q os I1) λos v⟨H2,I2,u,e,q2⟩=>⟨u,e,H2,I2,q2⟩,λq=>UM e q⟩) (λe s os I=>⟨t,ha,(λq=>UM q e),λ_=>⟨H,I,s⟩⟩)
 case vnot=>exact JL λt ha=>Al λs=>⟨t,ha,s⟩
 case vneg=>exact Eu λt ha=>Al λs=>⟨t,ha,s⟩
 case vand r=>exact JL λt ha=>DT (λe s=>⟨t,ha,λ_=>s,UM e⟩) (λe s=>⟨t,ha,(λq=>UM q e),λ_=>s⟩)
 case vor r=>exact JL λt ha=>DT (λe s=>⟨t,ha,λ_=>s,UM e⟩) (λe s=>⟨t,ha,(λq=>UM q e),λ_=>s⟩)
 case attr x=>exact DH λe acc rest _ q ha=>ha▸q
 case sub1 l r=>exact Gg λH v q=>q
 case sub2 l r o=>exact Al λs=>s
 case sub3 l r i=>exact CV (λ_=>JK λxs ha=>by subst ha;exact P2 λ{j v os K}I h0 h1 hv hp hk=>Pf h0 h1 hv hp hk) λ_=>DH λe acc rest _ q ha=>ha▸q
 case sl1 l s lo hi=>exact TJ λH v q=>q
 case sl2 l s hi o=>exact TJ λH v q=>q
 case sl3 l s o x=>exact λr e=>UG e λlo hi st sp e1 e=>PB e λe2 e=>TF (λl ho=>HA λu hu=>HA λw hw=>Ax λ_ n s os I=>by subst e1 e2 ho;exact YQ (FW hu) (FW hw) n ⟨H,I,s⟩) r e
 case cal1 p args=>exact TH λH v q=>q
 case l1 p es=>exact Al λs os I=>Cd.mono (s os I) λos v c=>c
 case tof=>exact JL λt ha=>Al λs=>⟨t,ha,s⟩
 case asn x Ad=>exact Lm λl' u s os I=>⟨l',u,s os I⟩
 case ata1 o x Ad=>exact Gg λH v q=>q
 case ata2 x y Ad=>exact DH λe acc rest _ q ha=>ha▸q
 case asu1 o i Ad=>exact Gg λH v q=>q
 case asu2 i y Ad=>exact Gg λH v q=>q
 case asu3 y o Ad=>exact Al λs=>s
 case asu4 y i Ad=>exact DH λe acc rest _ q ha=>ha▸q
 case exs Ad=>exact λr e=>mz e λha e=>Al (λs=>⟨ha,s⟩) r e
 case unp xs Ad=>exact JK λvs ha=>AV λhl=>Al λs os I=>let⟨loc',b,x⟩:=s os I;⟨vs,loc',ha,oW hl,b,x⟩
 case swp xs Ad=>exact JK λvs ha=>AV λhl=>C4 (C4 (Al λs os I=>(s os I).elim λloc' w=>⟨vs,loc',ha,oW hl,by have b:=w.1;rw[Bc,Bc,bE,bE] at b;exact b,w.2⟩))
 case cel=>exact DH λe acc rest _ q ha=>ha▸q
 case asc x Ad=>exact Bj λd h=>Ew λy j e=>Ax λq _ s os I=>by obtain⟨j,u,e1,e2,x⟩:=s os I;obtain rfl:=V.ref.inj e1;exact⟨_,u,(Tk.s.inj q.one▸Es e).mem,e2,x⟩
 case asc2 y Ad=>exact DH λe acc rest _ q ha=>ha▸q
 case frv t body Ad=>exact JK λl ha=>Al λs os I=>by subst ha;exact UO (s os I)
 case frf p args t body Ad=>exact TH λH v q=>q
 all_goals exact AN
section
variable{i:Nat}{o:O}{w:Bool}{acc rest:Lg}{x:Str}{v:V}
abbrev gA(m:Mx c)(i:Nat)(o:O)(w:Bool)(acc rest:Lg)(H:Lg)(T:List O->Prop):Prop:=H=rv acc (⟨i,o,w⟩::rest)->Wn m H T
theorem Gj{T:List O->Prop}{u:O}{q:List (Tk×Tk)}{n:List Prop}(y:Ua q->AllP n->∀{os:List O},St m.os0 m.U (Cc (rv acc (⟨i,o,true⟩::rest))) os->Cw i o (Cc (rv acc (⟨i,o,true⟩::rest)))->(i∈m.U\/m.os0.length<=i)->B4 i u (Cc (rv acc (⟨i,o,true⟩::rest))) (Cc (rv acc (⟨i,u,true⟩::rest)))->
  (∀Ae,St m.os0 m.U (Cc (rv acc (⟨i,u,true⟩::rest))) Ae->cX m (I m k) loc Ad Ae)->T os):Good m (bk h i u acc rest q n Ad k loc) (gA m i o true acc rest H T):=
 C4 (Ax λhq hn s hH os I=>by rw[hH] at I;obtain⟨hu,hp,go⟩:=I.put u;exact y hq hn I.st I.at hu hp λAe J=>s Ae (go Ae J))
theorem PZ{T:List O->Prop}{r:Option AR}(y:Good m r (gA m i o true acc rest H T)):Good m (ck w r) (gA m i o w acc rest H T):=AV λe=>by subst e;exact y
theorem MO{ks:List (Str×V)}{f:List (Str×V)->List Str->Option AR}(y:Good m (f (ks++[(x,v)]) (ks.map (·.1))) S):Good m (WH ks x v f) S:=C4 (C4 (by rw[PN,Bc (rv ks []),Bc ks,bE,se];exact y))
theorem R2{α:Type}{ks:List α}{d:Nat}{v:α}{f:List α->Option AR}(y:∀a e r,ks=a++e::r->a.length=d->Good m (f (a++v::r)) S):Good m (Tj ks d v f) S:=MN λa e r hs=>C4 (by obtain⟨e1,hn⟩:=O7 hs;rw[Bc];exact y _ e _ (by rw[<-Bc];exact e1) (by rw[List.length_reverse,hn];exact Nat.zero_add _))
theorem MM{ks:List (Str×V)}{d:Nat}{f:Str->List (Str×V)->Option AR}(y:∀a(e:Str×V)r,ks=a++(e.1,e.2)::r->Good m (f e.1 (a++(e.1,v)::r)) S):Good m (Vz ks d v f) S:=MN λa e r hs=>show Good m (P7 _ _) _ from C4 (by rw[Bc];exact y _ e _ (by rw[<-Bc];exact(O7 hs).1))
theorem Gh{n:Nat}{f:FV}{x y:Option AR}(p:Good m x S)(q:Good m y S):Good m (Xh n f x y) S:=CV (λ_=>p) λ_=>q
theorem R4{f:FV}{g:Str->Option AR}(x:∀a,f=.attr a->Good m (g a) S):Good m (Wa g f) S:=λr e=>Z8 e λa h e=>x a h r e
theorem R5{f:FV}{g:Str->V->List Stmt->Option AR}(x:∀a b c,f=.ata2 a b c->Good m (g a b c) S):Good m (Wb g f) S:=λr e=>Z9 e λa b c h e=>x a b c h r e
theorem H8{f:FV}{g:Expr->Expr->V->Option AR}(x:∀a b c,f=.sub3 a b c->Good m (g a b c) S):Good m (Lp g f) S:=λr e=>Qd e λa b c h e=>x a b c h r e
theorem H9{f:FV}{g:V->V->List Stmt->Option AR}(x:∀a b c,f=.asu4 a b c->Good m (g a b c) S):Good m (NQ g f) S:=λr e=>TO e λa b c h e=>x a b c h r e
theorem R6{f:FV}{g:V->List Stmt->Option AR}(x:∀a b,f=.asc2 a b->Good m (g a b) S):Good m (Wc g f) S:=λr e=>ab e λa b h e=>x a b h r e
theorem R3{f:FV}{g:Option AR}(x:f=.cel->Good m g S):Good m (V9 g f) S:=λr e=>Z5 e λh e=>x h r e
theorem fv{f:FV}:Good m (mO h f i o w acc rest k loc H) (H=rv acc (⟨i,o,w⟩::rest)->IV m f (I m k) loc H (.ref i)):=by
 induction o using Mine.O.casesOn with
 |inst C fs=>
  refine Gh (R4 λx e1=>?_) (R5 λx v Ad e1=>?_)
  ·subst e1;exact AV (λhC=>Bj λd h=>Ew λy v hv=>AV λhp=>Ax λq _ s hH os I=>by subst hH;exact Nu I.st I.at (m.cls _ (DI hC)) (Tk.s.inj q.one▸JJ hv) hp ⟨_,I,s⟩)
  ·subst e1;exact PZ (Bj λd h=>AV λhC=>AV λhl=>CV (λ_=>MO (Gj λ_ n _ st a hu hp go=>NL (m.cls _ (DI hC)) st a n.1 n.2 (qY.mp hl) hp hu go))
    λ_=>MM λa e r hs=>Gj λq _ _ st at_ hu hp go=>Nt st at_ (m.cls _ (DI hC)) (by rw[hs,<-Tk.s.inj q.one];exact IR _) (qY.mp hl) hp hu go)
 |list l=>
  refine Gh (H8 λl' r iv e1=>?_) (H9 λv iv Ad e1=>?_)
  ·subst e1;exact λR e q n s hH=>P2 (l:=l) (λ{j v os K}I h0 h1 hv hp hk=>by rw[hH] at I;exact Pg I.st I.at h0 h1 hv hp hk) R e q n s
  ·subst e1;exact PZ (Eu λj hj=>Bj λd h=>AV λhl=>R2 λa e r hs hn=>Gj λq _ _ st at_ hu hp go=>by
    have hd:j=d:=Tk.i.inj q.one;subst hj hd;have hk:l.set d v=a++v::r:=by rw[hs,List.set_append_right _ _ (qI hn),hn,rj];rfl
    exact Li st at_ (lY d) (pv.mpr (by rw[hs,cW,hn,jK];exact L0 [_,_] [] 0x21c8740d00441)) (qY.mp hl) (by rw[qS,hk];exact hp) hu go)
 |sdict ks=>
  refine Gh (H8 λl' r iv e1=>?_) (H9 λv iv Ad e1=>?_)
  ·subst e1;exact TG (λx hx=>AV λhp=>Bj λd h=>Ew λy v hv=>Ax λq _ s hH os I=>by subst hx hH;exact Vh I.st I.at (Tk.s.inj q.one▸L9 hv) hp ⟨_,I,s⟩)
  ·subst e1;exact PZ (TG λx hx=>Bj λd h=>AV λhl=>CV (λ_=>MO (Gj λ_ n _ st a hu hp go=>by subst hx;exact JB st a n (qY.mp hl) hp hu go))
    λ_=>MM λa e r hs=>Gj λq _ _ st at_ hu hp go=>by subst hx;exact Jz st at_ (by rw[hs,<-Tk.s.inj q.one];exact Jd _) (qY.mp hl) hp hu go)
 |idict ks=>
  refine Gh (H8 λl' r iv e1=>?_) (H9 λv iv Ad e1=>?_)
  ·subst e1;exact Eu (λx hx=>AV λhp=>Bj λd h=>Ew λy v hv=>Ax λq _ s hH os I=>by subst hx hH;exact Vi I.st I.at (Tk.i.inj q.one▸L9 hv) hp ⟨_,I,s⟩)
  ·subst e1;exact PZ (Eu λx hx=>Bj λd h=>AV λhl=>C4 (by rw[Bc (rv ks []),Bc ks,bE,se];exact Gj λ_ n _ st a hu hp go=>by subst hx;exact JC st a n (qY.mp hl) hp hu go))
 |cell u=>
  refine Gh (R3 λe1=>?_) (R6 λy Ad e1=>?_)
  ·subst e1;exact HA (λv hv=>Al λs hH os I=>by subst hH hv;exact⟨i,v,rfl,I.st.get I.at,_,I,s⟩)
  ·subst e1;exact PZ (Gj λ_ _ _ st at_ hu hp go=>⟨i,u,rfl,st.get at_,go _ (st.set hp hu)⟩)
 |_=>exact AN
end
theorem nt{t:Bool}{P:Prop}(e:t=false)(q:t=true):P:=UM q e
theorem fz{f:FB}{t:Bool}:Good m (mB h f t k loc H) (IB m f (I m k) loc H t):=by
 induction f using Mine.FB.casesOn
 case ifx b o=>exact DT (λe s os I=>⟨λ_=>s os I,λq=>nt q e⟩) (λe s os I=>⟨nt e,λ_=>s os I⟩)
 case tnot=>exact Al λs=>s
 case tand es=>exact DT (λe s os I=>⟨λ_=>s os I,λq=>nt q e⟩) (λe s os I=>⟨nt e,λ_=>⟨H,I,s⟩⟩)
 case tor es=>exact DT (λe s os I=>⟨λ_=>⟨H,I,s⟩,λq=>nt q e⟩) (λe s os I=>⟨nt e,λ_=>s os I⟩)
 case tif b o=>exact DT (λe s os I=>⟨λ_=>s os I,λq=>nt q e⟩) (λe s os I=>⟨nt e,λ_=>s os I⟩)
 case jif b o=>exact DT (λe s os I=>⟨λ_=>s os I,λq=>nt q e⟩) (λe s os I=>⟨nt e,λ_=>s os I⟩)
 case sif b o Ad=>
  have go:∀{b:List Stmt}{os:List O},cX m (I m (.n (.seq Ad)::k)) loc b os->Xs c b loc os (kX c Ad (cN m (I m k)) (cR m)) (cR m):=λx=>Xs.mono x λloc os c=>let⟨H,I,q⟩:=c;q os I
  exact DT (λe s os I=>⟨λ_=>go (s os I),λq=>nt q e⟩) (λe s os I=>⟨nt e,λ_=>go (s os I)⟩)
 case whl P body Ad=>exact DT (λe s os I=>⟨λ_=>Xs.mono (s os I) λl os q=>q,λq=>nt q e⟩) (λe s os I=>⟨nt e,λ_=>s os I⟩)
theorem P0{f:Int->Int->Option AR}{vs:List V}(x:∀i j,vs=[.int i,.int j]->Good m (f i j) S):Good m (UQ f vs) S:=DS λa r h1=>DS λb s h2=>Ff λh3=>Eu λi h4=>Eu λj h5=>x i j (by rw[h1,h2,h3,h4,h5])
theorem P1{f:List Int->Option AR}{vs:List V}(x:∀l,vs=[.bytes l]->Good m (f l) S):Good m (VE f vs) S:=DS λa r h1=>Ff λh2=>TF λl h3=>x l (by rw[h1,h2,h3])
theorem fy{f:FL}{vs:List V}:Good m (mL h f vs k loc H) (IL m f (I m k) loc H vs):=by
 induction f using Mine.FL.casesOn
 case cal2 f=>
  exact Bj λd h=>A0 (P0 λi j e=>Ax λq _ s os I=>by obtain rfl:=Tk.v.inj q.one;subst e;exact aK ⟨H,I,s⟩) λ_=>
   A0 (P0 λi j e=>Ax λq _ s os I=>by obtain rfl:=Tk.v.inj q.one;subst e;exact aL ⟨H,I,s⟩) λ_=>
   A0 (P1 λl e=>Ax λq n s os I=>by obtain rfl:=Tk.v.inj q.one;subst e;exact Vr n ⟨H,I,s⟩) λ_=>
   A0 (P1 λl e=>Ax λq _ s os I=>by obtain rfl:=Tk.v.inj q.one;subst e;exact dX ⟨H,I,s⟩) λ_=>AN
 case tup=>exact AV λhl=>Al λs=>⟨qY.mp hl,s⟩
 case l2 a=>exact Al λs=>s
 all_goals exact AN
theorem Ep:∀{es:List Expr}{acc xs:List Str},namesOf es acc=some xs->xs=acc.reverse++es.map D8/\es.all EU=true
 |[],acc,xs,h=>by
  have e:namesOf [] acc=some (rv acc []):=by show(match rv acc [] with|[]=>some []|x::r=>some (x::r))=_;induction rv acc [] using cU<;>rfl
  obtain rfl:=bg (h.symm.trans e);exact⟨Bc _ _,rfl⟩
 |e::es,acc,xs,h=>UH h λx p h1 h2=>by have q:=Ep h2;subst h1;exact⟨by rw[q.1,rG,bF];rfl,by rw[sR,q.2];rfl⟩
theorem PY{y:Expr}{g:Str->Pos->Option AR}(x:∀a b,y=.Name a b->Good m (g a b) S):Good m (W1 g y) S:=λr q=>UH q λa b h q=>x a b h r q
theorem ML{y:Expr}{g:List Expr->Nat->Pos->Option AR}(x:∀a b d,y=.Tuple a b d->Good m (g a b d) S):Good m (Q8 g y) S:=λr q=>Yd q λa b d h q=>x a b d h r q
theorem fw{f:FN}:Good m (mN c.F h f k loc H) (IN m f (I m k) loc H):=by
 induction f using Mine.FN.casesOn
 case seq Ad=>exact Al λs=>s
 case unb xs vs Ad=>induction xs using cU with
  |nil=>exact Ff λe=>Al λs os I=>⟨loc,by subst e;exact .nil,s os I⟩
  |cons x xr=>exact DS λv vr e=>Lm λl' u s os I=>(s os I).elim λloc' w=>⟨loc',by subst e;exact .cons u w.1,w.2⟩
 case fin=>exact AN
 case one t body u=>exact CV (λ_=>PY λx p e1=>by subst e1;exact Lm λl' w s os I=>⟨l',Ki c.ok w,s os I⟩) λ_=>ML λes n p e1=>HA λxs hx=>JK λvs hu=>AV λhl=>Al λs os I=>(s os I).elim λloc' w=>⟨loc',by obtain⟨hx,hn⟩:=Ep hx;have hx:xs=es.map D8:=hx;subst hu e1;exact N8 c.ok (hx▸w.1) (by rw[oW hl,hx,gI]) hn,w.2⟩
 case unr t body Ad l=>induction l using cU with
  |nil=>exact Al λs=>s
  |cons u l=>exact Al λs os I=>let⟨Am,a,x⟩:=s os I;⟨Am,a,Xs.mono x λl os⟨H,I,q⟩=>q os I⟩
theorem Eb{n:Nat}{e:Expr}{x y:Option AR}(p:Good m x S)(q:Good m y S):Good m (QU n e x y) S:=CV (λ_=>p) λ_=>q
theorem Gi{n:Nat}{e:Stmt}{x y:Option AR}(p:Good m x S)(q:Good m y S):Good m (Xi n e x y) S:=CV (λ_=>p) λ_=>q
theorem eg{e:Expr}(h:iK e=true):isStarred e=false:=by induction e using jS<;>first|rfl|exact xB h
theorem RS{y:Expr}{g:Expr->List CmpOp->List Expr->Pos->Option AR}(x:∀a b d e,y=.Compare a b d e->Good m (g a b d e) S):Good m (UK g y) S:=λr q=>Yg q λa b d e h q=>x a b d e h r q
theorem RQ{y:Expr}{g:UnaryOp->Expr->Pos->Option AR}(x:∀a b d,y=.UnaryOp a b d->Good m (g a b d) S):Good m (Q7 g y) S:=λr q=>S7 q λa b d h q=>x a b d h r q
theorem RT{y:Expr}{g:BoolOp->List Expr->Pos->Option AR}(x:∀a b d,y=.BoolOp a b d->Good m (g a b d) S):Good m (UL g y) S:=λr q=>Yj q λa b d h q=>x a b d h r q
theorem V0{y:Expr}{g:Expr->Expr->Expr->Pos->Option AR}(x:∀a b d e,y=.IfExp a b d e->Good m (g a b d e) S):Good m (dx g y) S:=λr q=>dw q λa b d e h q=>x a b d e h r q
theorem RU{y:Expr}{g:Expr->Str->Pos->Option AR}(x:∀a b d,y=.Attribute a b d->Good m (g a b d) S):Good m (Q9 g y) S:=λr q=>S9 q λa b d h q=>x a b d h r q
theorem RR{y:Expr}{g:Expr->Expr->Pos->Option AR}(x:∀a b d,y=.Subscript a b d->Good m (g a b d) S):Good m (UF g y) S:=λr q=>Ye q λa b d h q=>x a b d h r q
theorem V2{y:Stmt}{g:Expr->List Stmt->List Stmt->Pos->Option AR}(x:∀a b d e,y=.If a b d e->Good m (g a b d e) S):Good m (dQ g y) S:=λr q=>dP q λa b d e h q=>x a b d e h r q
theorem RX{y:Stmt}{g:Option Expr->Pos->Option AR}(x:∀a b,y=.Return a b->Good m (g a b) S):Good m (U8 g y) S:=λr q=>YI q λa b h q=>x a b h r q
theorem RY{y:Stmt}{g:Pos->Option AR}(x:∀a,y=.Pass a->Good m (g a) S):Good m (U9 g y) S:=λr q=>YJ q λa h q=>x a h r q
theorem R0{y:Stmt}{g:Expr->Pos->Option AR}(x:∀a b,y=.Expr a b->Good m (g a b) S):Good m (Va g y) S:=λr q=>YK q λa b h q=>x a b h r q
theorem R1{y:Stmt}{g:List Expr->Expr->Pos->Option AR}(x:∀a b d,y=.Assign a b d->Good m (g a b d) S):Good m (Vc g y) S:=λr q=>YL q λa b d h q=>x a b d h r q
theorem RZ{y:Stmt}{g:Expr->Expr->List Stmt->List Stmt->Pos->Option AR}(x:∀a b d e f,y=.For a b d e f->Good m (g a b d e f) S):Good m (Np g y) S:=λr q=>Td q λa b d e f h q=>x a b d e f h r q
theorem RV{y:UnaryOp}{g:Option AR}(x:y=.Not->Good m g S):Good m (UP g y) S:=λr q=>Yq q λh q=>x h r q
theorem P5{α:Type}{f:α->Option AR}{l:List α}(x:∀a,l=[a]->Good m (f a) S):Good m (NA f l) S:=DS λa r h1=>Ff λh2=>x a (by rw[h1,h2])
theorem ZQ{e:Expr}:Good m (Yz c.F h e k loc H) (Sem m (.ev e) k loc H):=by
 induction e using jS
 case Name x p=>
  exact Bj λd h=>CV (λ_=>Ew λy j e=>Ax λq n s os I=>by
    obtain⟨j,u,e1,e2,e3⟩:=s os I;obtain rfl:=V.ref.inj e1;exact Wl c.ok (Tk.s.inj q.one▸Es e).mem n.1 n.2 e2 e3)
   λ_=>Ew λy v e=>Ax λq _ s os I=>by obtain rfl:=Tk.s.inj q.one;exact(Lc e).elim (λe=>Wh c.ok e ⟨H,I,s⟩) λe=>Wk c.ok e ⟨H,I,s⟩
 case Constant c n p=>induction c using PySem.Const.casesOn with
  |int i=>exact Al λs os I=>Qh ⟨H,I,s⟩
  |none=>exact Al λs os I=>Wg ⟨H,I,s⟩
  |bool b=>exact Al λs os I=>Wo ⟨H,I,s⟩
  |str b=>exact Al λs os I=>TP ⟨H,I,s⟩
  |bytes b=>exact Al λs os I=>Sj ⟨H,I,s⟩
  |_=>exact AN
 case BinOp l op r p=>exact Al λs os I=>am (AG.mono (s os I) λos v⟨H,I,q⟩=>AG.mono (q os I) λos w k=>k)
 case Compare l Xr rs p=>exact P5 λop e1=>P5 λr e2=>AV λhm=>Al λs os I=>by subst e1 e2;exact al (AG.mono (s os I) λos v⟨H,I,q⟩=>AG.mono (q os I) λos w k=>k) (Jx hm)
 case IfExp t b o p=>exact Al λs os I=>Sf (Cd.mono (s os I) λos t⟨H,I,q⟩=>q os I)
 case UnaryOp op e p=>induction op using PySem.UnaryOp.casesOn with
  |Not=>exact Al λs os I=>ai (AG.mono (s os I) λos v⟨H,I,t,e,q⟩=>⟨t,e,H,I,q⟩)
  |USub=>exact Al λs os I=>Th (AG.mono (s os I) λos v⟨H,I,t,e,q⟩=>⟨t,e,H,I,q⟩)
  |_=>exact AN
 case BoolOp op es p=>
  exact DS λl r1 e1=>DS λr s1 e2=>by
   subst e1 e2;induction s1 using cU with
   |nil=>induction op using PySem.BoolOp.casesOn with
    |And=>exact Al λs os I=>Wq (AG.mono (s os I) λos v⟨H,I,t,e,q1,q2⟩=>⟨t,e,λh=>q1 h os I,λh=>⟨H,I,q2 h⟩⟩)
    |Or=>exact Al λs os I=>ag (AG.mono (s os I) λos v⟨H,I,t,e,q1,q2⟩=>⟨t,e,λh=>⟨H,I,q1 h⟩,λh=>q2 h os I⟩)
   |cons d s=>exact Ff λe=>Al λx os I=>by subst e;exact Sk (x os I)
 case Tuple es n p=>exact Al λs os I=>Sc (Cd.mono (s os I) λos vs⟨H,I,hl,q⟩=>RD hl ⟨H,I,q⟩)
 case List es p=>exact Al λs os I=>Wj (Cd.mono (s os I) λos vs⟨H,I,q⟩=>q os I)
 case Attribute e x p=>exact AV λhk=>Al λs os I=>Wp (AG.mono (s os I) λos v⟨H,I,q⟩=>q os I) (Sx hk)
 case Subscript l r p=>
  exact CV (λ_ R e=>UG e λlo hi st sp e1 e=>PB e λe2 e=>Al (λs os I=>by subst e1 e2;exact Sd (AG.mono (s os I) λos v⟨H,I,q⟩=>q os I)) R e)
   λ_=>Al λs os I=>af (AG.mono (s os I) λos v⟨H,I,q⟩=>q os I)
 case Call f args kw p=>
  exact Ff λe0=>CV (λ_ R e=>S9 e λo name Kt e1 e=>AV (λhb=>AV λhl=>AV λha=>Al λs os I=>by subst e0 e1;exact Wi (AG.mono (s os I) λos v⟨H,I,q⟩=>q os I) (BJ ha).1 (BJ ha).2 hl (Sv hb)) R e)
   λ_=>AV λhc=>AV λha=>Al λs os I=>by subst e0;exact Wm (AG.mono (s os I) λos v⟨H,I,q⟩=>q os I) (BJ ha).1 (qr (BJ ha).2) (Ig hc)
 all_goals exact AN
theorem V1{e:Expr}{o:Option AR}(ho:o=ck (ee e) (go h (.ev e) (.v .tof::k) loc H)):Good m o (Sem m (.te e) k loc H):=ho▸AV λhk=>Al λs os I=>dF (AG.mono (s os I) λos v⟨H,I,t,e,q⟩=>⟨t,e,H,I,q⟩) (VW hk)
theorem ZN{e:Expr}:Good m (Yw h e k loc H) (Sem m (.te e) k loc H):=by
 refine Eb (RS λl Xr rs p e0=>?_) (Eb (RQ λop a p e0=>RV λe1=>?_) (Eb (RT λop es p e0=>?_) (Eb (V0 λt b o p e0=>?_) (V1 (h:=h) rfl))))
 ·subst e0;exact DS (λop s1 e1=>by
   subst e1;induction s1 using cU with
   |nil=>exact P5 λr e2=>AV λhm=>Al λs os I=>by subst e2;exact Yu (AG.mono (s os I) λos v⟨H,I,q⟩=>AG.mono (q os I) λos w k=>Aw.mono k λos v⟨H,I,t,e,q⟩=>⟨t,e,H,I,q⟩) (Jx hm)
   |cons DQ s1=>exact Ff λe2=>DS λr t1 e3=>P5 λr2 e4=>AV λhm=>Al λs os I=>by subst e2 e3 e4;refine O3 (AG.mono (s os I) λos v⟨H,I,q⟩=>AG.mono (q os I) λos w k=>k) (λenv=>?_);induction r2 using jS<;>first|rfl|exact xB hm)
 ·subst e0 e1;exact Al (λs os I=>Yt (Cd.mono (s os I) λos t⟨H,I,q⟩=>⟨H,I,q⟩))
 ·subst e0;exact Al (λs os I=>US (s os I))
 ·subst e0;exact Al (λs os I=>Rf (Cd.mono (s os I) λos t⟨H,I,q⟩=>q os I))
theorem ZP{x:Str}{e:Expr}{p pp:Pos}(hs:RC e=true):∀{l:List (Str×Nat)},Good m (Yy c.F h x e Ad k loc H l) (Sem m (.xs (.Assign [.Name x p] e pp::Ad)) k loc H)
 |[]=>gd_nm hs
 |_::_=>Bj λd h=>CV (λ_=>gd_nm hs) λ_=>Ew λy j e=>Ax λq n s os I=>Bm (UE n.1 n.2 ⟨_,Tk.s.inj q.one▸Es e⟩ hs (AG.mono (s os I) λos v⟨H,I,q⟩=>q os I))
where gd_nm {h:Nat} {e:Expr} (hs:RC e=true):Good m (go h (.ev e) (.v (.asn x Ad)::k) loc H) (Sem m (.xs (.Assign [.Name x p] e pp::Ad)) k loc H):=Al λs os I=>Bm (U1 (loc':=[]) c.ok (AG.mono (s os I) λos v⟨H,I,q⟩=>q os I) (F9 hs))
theorem ZR{t e:Expr}{pp:Pos}(hs:RC e=true):Good m (YA c.F h t e Ad k loc H) (Sem m (.xs (.Assign [t] e pp::Ad)) k loc H):=by
 refine Eb (PY λx p e0=>?_) (Eb (RU λo x p e0=>?_) (Eb (RR λo i p e0=>?_) (ML λes n tp e0=>?_)))
 ·subst e0;exact ZP hs
 ·subst e0;exact Al (λs os I=>Bm (U7 (AG.mono (s os I) λos v⟨H,I,q⟩=>AG.mono (q os I) λos w k=>k) (F9 hs)))
 ·subst e0;exact Al (λs os I=>Bm (U2 (AG.mono (s os I) λos v⟨H,I,q⟩=>AG.mono (q os I) λos w k=>AG.mono k λos u k=>k) (F9 hs)))
 ·subst e0;exact HA (λxs hx=>Bj λd h=>A0 (Ax λ_ n s os I=>Bm (OH (Ep hx).2 hs n (AG.mono (s os I) λos v⟨H,I,q⟩=>let⟨vs,l',a,b,c,x⟩:=q os I;have hx:xs=es.map D8:=(Ep hx).1;⟨vs,l',a,by rw[b,hx,gI],hx▸c,x⟩)))
   λ_=>A0 (Ax λ_ n s os I=>Bm (UC hs n (AG.mono (s os I) λos v⟨H,I,q⟩=>q os I))) λ_=>AN)
theorem V3{p:Pos}:∀{v:Option Expr},Good m (YO h loc H v) (Sem m (.xs (.Return v p::Ad)) k loc H)
 |some e=>Al λs os I=>Bm (YE (AG.mono (s os I) λos v⟨H,I,q⟩=>⟨H,I,q⟩))
 |none=>Al λs os I=>Bm (UZ ⟨H,I,s⟩)
theorem ZO{s:Stmt}:Good m (Yx c.F h s Ad k loc H) (Sem m (.xs (s::Ad)) k loc H):=by
 refine Gi (V2 λt b o p e0=>?_) (Gi (RX λv p e0=>?_) (Gi (RY λp e0=>?_) (Gi (R0 λa p e0=>?_) (Gi (R1 λts a pp e0=>?_) (RZ λt iter body WV p e0=>?_)))))
 ·subst e0;exact Al (λs os I=>Bm (dO (Cd.mono (s os I) λos t⟨H,I,q⟩=>q os I)))
 ·subst e0;exact V3
 ·subst e0;exact Al (λs os I=>Bm (U0 (s os I)))
 ·subst e0;exact AV (λhs=>Al λs os I=>Bm (U4 (AG.mono (s os I) λos v⟨H,I,e,q⟩=>⟨e,q os I⟩) (Gf c.ok.kind) (F9 hs)))
 ·subst e0;exact P5 (λt e1=>AV λhs=>by subst e1;exact ZR hs)
 ·subst e0;exact Ff (λe0=>Bj λd h=>A0 (λR e=>Yh e λf args kw p e1 e=>Fe e λe2 e=>UH e λx q e3 e=>AV (λha=>Ax λ_ _ s os I=>by
    subst e0 e1 e2 e3;exact Bm (U3 (AG.mono (s os I) λos v⟨H,I,q⟩=>q os I) ha rfl)) R e)
   λ_=>A0 (AV λhm=>Al λs os I=>by subst e0;exact Bm (Pc (AG.mono (s os I) λos v⟨H,I,q⟩=>q os I) hm)) λ_=>AN)
theorem RW:Good m (step c.F h ctl fr loc H) (Sem m ctl fr loc H):=by
 induction ctl using Mine.CP.casesOn with
 |ev e=>exact ZQ
 |te e=>exact ZN
 |ts op es=>induction es using cU with
  |nil=>induction op using PySem.BoolOp.casesOn with
   |And=>exact Al λs os I=>KI ⟨H,I,s⟩
   |Or=>exact Al λs os I=>Nk ⟨H,I,s⟩
  |cons e es=>induction op using PySem.BoolOp.casesOn with
   |And=>exact Al λs os I=>UR (Cd.mono (s os I) λos t⟨H,I,q⟩=>q os I)
   |Or=>exact Al λs os I=>Yr (Cd.mono (s os I) λos t⟨H,I,q⟩=>q os I)
 |ls p es=>induction es using cU with
  |nil=>exact Al λs os I=>Zi ⟨H,I,s⟩
  |cons e es=>exact AV λhl=>Al λs os I=>VO (AG.mono (s os I) λos v⟨H,I,q⟩=>Cd.mono (q os I) λos vs k=>k) (Ga (eg hl))
 |eo e=>induction e using il with
  |none=>exact Al λs os I=>Sb ⟨H,I,s⟩
  |some e=>exact Al λs os I=>Sa (s os I)
 |xs ss=>induction ss using cU with
  |nil=>exact Al λs os I=>YF ⟨H,I,s⟩
  |cons=>exact ZO
 |r x=>
  refine DS λf k e=>?_;subst e;induction f using Mine.Fr.casesOn with
   |v f=>induction x using Mine.Rs.casesOn with
    |v a=>exact fu
    |o e acc rest=>exact fv
    |_=>exact AN
   |b f=>exact λr e=>iC e λt e1 e=>by subst e1;exact fz r e
   |l f=>exact λr e=>m9 e λt e1 e=>by subst e1;exact fy r e
   |n f=>exact λr e=>d4 e λe1 e=>by subst e1;exact fw r e
end
theorem Je(f:List Tk->List Tk->QD):∀(q:List (Tk×Tk))(L R:List Tk),∃L' R',Pm q L R f=f L' R'/\(L'=R'->L=R/\Ua q)
 |[],L,R=>⟨L,R,rfl,λe=>⟨e,λ_ h=>nomatch h⟩⟩
 |(a,b)::q,L,R=>by obtain⟨L',R',e,k⟩:=Je f q (a::L) (b::R);refine⟨L',R',e,λx=>?_⟩;obtain⟨h1,h2⟩:=k x;obtain⟨h3,h4⟩:=List.cons.inj h1;exact⟨h4,λy hy=>(cS.mp hy).elim (λe=>by rw[e];exact h3) (h2 y)⟩
theorem Jf(f:List Prop->QD):∀(n N:List Prop),∃N',MB n N f=f N'/\(AllP N'->AllP N/\AllP n)
 |[],N=>⟨N,rfl,λe=>⟨e,trivial⟩⟩
 |p::n,N=>by obtain⟨N',e,k⟩:=Jf f n (p::N);refine⟨N',e,λx=>?_⟩;obtain⟨h1,h2⟩:=k x;obtain⟨h3,h4⟩:=AllP.cons.mp h1;exact⟨h4,AllP.cons.mpr ⟨h3,h2⟩⟩
section
variable{c:Cx}{m:Mx c}
theorem HP:∀(n h:Nat)(ctl:CP)(fr:List Fr)(loc:Loc)(H:Lg)(L R:List Tk)(N:List Prop)(o:QD),I9 c.F n h ctl fr loc H L R N=o->o.L=o.R->AllP o.n->Sem m o.s.ctl o.s.fr o.s.loc o.s.H->L=R/\AllP N/\Sem m ctl fr loc H
 |0,_,_,_,_,_,_,_,_,_,e,a,b,s=>by subst e;exact⟨a,b,s⟩
 |n+1,h,ctl,fr,loc,H,L,R,N,o,e,a,b,s=>by
  unfold I9 at e;split at e
  ·subst e;exact⟨a,b,s⟩
  ·rename_i h' ID Om loc' H' q ps hs;obtain⟨L',R',e1,k1⟩:=Je (λL' R'=>MB ps N λN'=>I9 c.F n h' ID Om loc' H' L' R' N') q L R;obtain⟨N',e2,k2⟩:=Jf (λN'=>I9 c.F n h' ID Om loc' H' L' R' N') ps N;rw[e1,e2] at e;obtain⟨x,y,z⟩:=HP n h' ID Om loc' H' L' R' N' o e a b s;obtain⟨x1,x2⟩:=k1 x;obtain⟨y1,y2⟩:=k2 y;exact⟨x1,y1,RW _ hs x2 y2 z⟩
theorem Mu{F:Fn}{n h:Nat}{ctl:CP}{fr:List Fr}{loc:Loc}{H:Lg}:I8 F n h ctl fr loc H=I9 F n h ctl fr loc H [] [] []:=by
 have e:rv (rv H []) []=H:=by rw[Bc,Bc];simp
 unfold I8;split<;>(rename_i q;rw[e] at q;rw[q])
theorem dR(h:Nat){ctl ID:CP}{fr Om:List Fr}{loc loc':Loc}{H H':Lg}{N:List Prop}(e:(I8 c.F 5000 h ctl fr loc H).s=⟨ID,Om,loc',H'⟩)(a:(I8 c.F 5000 h ctl fr loc H).n=N)(n:AllP N)(s:Sem m ID Om loc' H')(q:(I8 c.F 5000 h ctl fr loc H).L=(I8 c.F 5000 h ctl fr loc H).R):Sem m ctl fr loc H:=(HP _ _ _ _ _ _ _ _ _ _ (Mu.symm.trans rfl) q (a▸n) (by rw[e];exact s)).2.2
end
section
variable{c:Cx}{os:List O}{W:List Nat}{pre:AW}{K:List O->V->Prop}{body:List Stmt}{loc:Loc}
theorem Tu(m:Mx c)(H:Lg)(I:St m.os0 m.U pre m.os0)(hH:pre=Cc H)(hw:∀e∈H,e.w=true->e.i∈m.U)(hk:∀H v Ae,m.R H v->St m.os0 m.U (Cc H) Ae->K Ae v)(hn:∀loc H,m.N loc H->m.R H .none)
  (h:Sem m (.xs body) [] loc H):Ex c.g c.F c.d body loc m.os0 (λ_ os=>K os .none) K:=by
 subst hH;have x:=h m.os0 ⟨I,λe he q=>.inl (hw e he q)⟩;refine λA s ad L mm Q hr hs hf hq AT=>x A s ad L mm Q hr hs hf (λAe Ag loc' m' h' tk a f k=>?_) (λAe Ag v v' m' h' tk a b c k=>?_)
 ·obtain⟨H',I',q⟩:=k;exact hq Ae Ag loc' m' h' tk a f (hk _ _ _ (hn _ _ q) I'.st)
 ·obtain⟨H',I',q⟩:=k;exact AT Ae Ag v v' m' h' tk a b c (hk _ _ _ q I'.st)
end
noncomputable def pk:List Nat->Lg->Option AW
 |[],_=>some []
 |n::ns,H=>match AZ H n with
  |some ⟨i,o,_⟩=>(match pk ns H with
   |some D=>some ((i,o)::D)
   |none=>none)
  |none=>none
noncomputable def F6:List Nat->Lg->Option (List Nat)
 |[],_=>some []
 |n::ns,H=>match AZ H n with
  |some ⟨i,_,true⟩=>(match F6 ns H with
   |some D=>some (i::D)
   |none=>none)
  |_=>none
noncomputable def CB:Nat->O->Lg->Lg->Lg
 |_,_,[],acc=>rv acc []
 |0,o,⟨i,_,w⟩::r,acc=>rv acc (⟨i,o,w⟩::r)
 |n+1,o,x::r,acc=>CB n o r (x::acc)
noncomputable def Be:List Nat->AW->Lg->Lg
 |n::ns,(_,o)::D,H=>Be ns D (CB n o H [])
 |_,_,H=>H
theorem Dp:∀{ns:List Nat}{H:Lg}{D:AW},pk ns H=some D->Dd ns D (Cc H)
 |[],_,_,h=>by obtain rfl:=bg h;exact .nil
 |n::ns,H,D,h=>by
  unfold pk at h;split at h
  ·rename_i i o w e;split at h
   ·rename_i D e2;obtain rfl:=bg h;refine .cons ?_ (Dp e2);show(Cc H)[n]? =_;unfold Cc;rw[oV,D7 e];rfl
   ·exact xO h
  ·exact xO h
theorem Mn:∀{ns:List Nat}{H:Lg}{D:List Nat},F6 ns H=some D->∀k∈D,∃e∈H,e.i=k/\e.w=true
 |[],_,_,h=>by obtain rfl:=bg h;exact λ_ h=>nomatch h
 |n::ns,H,D,h=>by
  unfold F6 at h;split at h
  ·rename_i i o e;split at h
   ·rename_i D e2;obtain rfl:=bg h;intro k hk;rcases cS.mp hk with rfl|hk
    ·exact⟨_,bG (D7 e),rfl,rfl⟩
    ·exact Mn e2 k hk
   ·exact xO h
  ·exact xO h
theorem I5:∀{H acc:Lg}{e:Le},AZ H n=some e->e.i=i->∃H',CB n o H acc=rv acc H'/\B4 i o (Cc H) (Cc H')/\H'.map (λe=>(e.i,e.w))=H.map (λe=>(e.i,e.w)):=by
 induction n with
 |zero=>
  intro H acc e h hi;induction H using cU with
  |nil=>exact xO h
  |cons x r=>obtain rfl:=bg h;obtain⟨j,u,w⟩:=x;subst hi;exact⟨_,rfl,.head,rfl⟩
 |succ n ih=>
  intro H acc e h hi;induction H using cU with
  |nil=>exact xO h
  |cons x r=>exact(ih (H:=r) (acc:=x::acc) h hi).elim λH' w=>⟨x::H',w.1,.tail w.2.1,by rw[ik,ik,w.2.2]⟩
theorem Mr:∀{ns:List Nat}{D:AW}{H:Lg},ns.map (λn=>(AZ H n).map (·.i))=D.map (λx=>some x.1)->Puts D (Cc H) (Cc (Be ns D H))/\(Be ns D H).map (λe=>(e.i,e.w))=H.map (λe=>(e.i,e.w))
 |[],[],_,_=>⟨.nil,rfl⟩
 |[],_::_,_,h=>nomatch h
 |_::_,[],_,h=>nomatch h
 |n::ns,(i,o)::D,H,h=>by
  obtain⟨h1,h2⟩:=List.cons.inj h;obtain⟨e,he,hi⟩:=pd.mp h1;obtain⟨H',a,b,c⟩:=I5 (o:=o) (acc:=[]) he hi;have a:CB n o H []=H':=a;have key:∀k,(AZ H' k).map (·.i)=(AZ H k).map (·.i):=λk=>by
   have nt:∀{l:Lg},AZ l k=l[k]? :=λ{l}=>by
    induction l generalizing k with
    |nil=>rfl
    |cons x r ih=>induction k using qt with
     |zero=>rfl
     |succ k=>exact ih k
   rw[nt,nt];have:=gC (λl=>(l[k]?).map Prod.fst) c;simpa[oV,Option.map_map,Function.comp_def] using this
  obtain⟨p,q⟩:=Mr (ns:=ns) (D:=D) (H:=H') (by rw[<-h2];exact sx λk _=>key k);show Puts _ _ (Cc (Be ns D (CB n o H [])))/\(Be ns D (CB n o H [])).map _=_;rw[a];exact⟨.cons b p,q.trans c⟩
theorem AD:∀{H:Lg}{p:Nat},AZ H p=some ⟨i,o,w⟩->Cw i o (Cc H)
 |_::_,0,h=>by obtain rfl:=bg h;exact .head
 |_::r,p+1,h=>.tail (AD (H:=r) (p:=p) h)
def Fin(Ap:AW)(v0:V)(H:Lg)(v:V):Prop:=v=v0/\CW Ap (Cc H)
theorem Pp{os0:List O}:∀{V:List Nat},(∀i∈V,i∈U\/os0.length<=i)->QY U os0 V
 |[],_=>trivial
 |i::r,h=>⟨h i (.head _),Pp λj hj=>h j (.tail _ hj)⟩
def A8{c:Cx}(m:Mx c)(H:Lg)(n:Nat):Prop:=m.os0.length<=n/\AllLt (Cc H) n
section
variable{c:Cx}{os:List O}{W:List Nat}{pre Ap D:AW}{fa:Addr}{args:List V}{v v0:V}{m:Mx c}{k:List Fr}{loc:Loc}{H:Lg}{o:O}
theorem St.pickS{os0:List O}{U:List Nat}{H:AW}(I:St os0 U H os)(h:CW D H):St os0 U D os:=let⟨_,p,e⟩:=h;I.sel p e
def G0(m:Mx c)(P:Lg->V->Prop):Prop:=∀H v,P H v->m.R H v
noncomputable def R9:Lg->List Nat
 |[]=>[]
 |⟨i,_,true⟩::r=>i::R9 r
 |⟨_,_,false⟩::r=>R9 r
theorem Lo{e:Le}(he:e∈H)(hw:e.w=true):e.i∈R9 H:=by
 induction H with
 |nil=>exact nomatch he
 |cons x r ih=>
  obtain⟨i,o,w⟩:=x;refine(cS.mp he).elim (λq=>?_) λq=>?_
  ·subst q;subst hw;exact .head _
  ·induction w using jM with
   |true=>exact .tail _ (ih q)
   |false=>exact ih q
noncomputable def bN(hc:∀C∈Fz,CK c.g C)(os:List O)(W:List Nat)(P:Lg->V->Prop):Mx c:=⟨os,W,hc,P,λ_ H=>P H .none⟩
theorem Wv(c:Cx)(hc:∀C∈Fz,CK c.g C)(H:Lg)(hx:∀os K,Ex c.g c.F c.d body loc os (λ_ os=>K os .none) K->Az c.g (c.d+1) (.imm (.ref fa)) args os K)(hH:pre=Cc H)(hw:R9 H=W)
  (h:∀m:Mx c,G0 m (Fin Ap v)->(∀loc H,m.R H .none->m.N loc H)->Sem m (.xs body) [] loc H):Bb c.g (c.d+1) fa args W pre Ap v:=λos K I hk=>
 hx os K (Tu (bN hc os W (Fin Ap v)) H I hH (λe he q=>hw▸Lo he q) (λ_ u Ae q J=>q.1▸hk Ae (J.pickS q.2)) (λ_ _ q=>q) (h _ (λ_ _ q=>q) λ_ _ q=>q))
theorem Mq{ns:List Nat}(I:Sg m H os)(J:St os W Ap Ae)(e2:F6 ps H=some (Ap.map (·.1)))(hW:W=Ap.map (·.1)):St m.os0 m.U (Cc (Be ps Ap H)) Ae/\QY m.U m.os0 W/\Sg m (Be ps Ap H) Ae:=by
 have hk:=Mn e2;have e3:ps.map (λn=>(AZ H n).map (·.i))=Ap.map (λx=>some x.1):=by
  have:∀(ps:List Nat)(D:List Nat),F6 ps H=some D->ps.map (λn=>(AZ H n).map (·.i))=D.map some:=λps=>by
   induction ps with
   |nil=>intro D h;obtain rfl:=bg h;rfl
   |cons p r ih=>
    intro D h;unfold F6 at h;split at h
    ·rename_i i o e;split at h
     ·rename_i D e2;obtain rfl:=bg h;rw[ik,ik,ih D e2,e];rfl
     ·exact xO h
    ·exact xO h
  rw[this ps _ e2,qi];rfl
 obtain⟨p,q⟩:=Mr (D:=Ap) e3;have ow:QY m.U m.os0 W:=Pp λi hi=>by rw[hW] at hi;obtain⟨e,he,rfl,hw⟩:=hk i hi;exact I.own e he hw
 have st:=I.st.calls0 J ow (λi hi=>hW▸hi) p;refine⟨st,ow,st,λe he hw=>?_⟩;have:(e.i,e.w)∈(Be ps Ap H).map (λe=>(e.i,e.w)):=mj he;rw[q] at this;obtain⟨e',he',h⟩:=pe.mp this;have h1:e'.i=e.i:=gC Prod.fst h;have h2:e'.w=e.w:=gC Prod.snd h;rw[<-h1];exact I.own e' he' (h2.trans hw)
theorem aJ(c:Bb c.g c.d fa args W pre Ap v)(ns ps:List Nat)(e1:pk ns H=some pre)(hn:GQ ns=true)(e2:F6 ps H=some (Ap.map (·.1)))(e3:W=Ap.map (·.1))(s:Sem m (.r (.v v)) k loc (Be ps Ap H)):Sem m (.r (.l args)) (.l (.cal2 (.imm (.ref fa)))::k) loc H:=λos I=>c os _ (I.st.pick (CW.of (Dp e1) hn)) λAe J=>⟨_,(Mq (ns:=ns) I J e2 e3).2.2,s⟩
theorem HM(I:Sg m H os)(hl:m.os0.length<=n)(J:St m.os0 m.U ((n,o)::Cc H) Ae):Sg m (⟨n,o,true⟩::H) Ae:=⟨J,λe he hw=>by
 rcases cS.mp he with rfl|he
 ·exact .inr hl
 ·exact I.own e he hw⟩
theorem Ds{P:List O->V->Prop}(s:∀n,A8 m H n->∀Ae,Sg m (⟨n,o,true⟩::H) Ae->P Ae (.ref n))(I:Sg m H os):Kn m.os0 m.U (Cc H) o P:=λn Ae h1 h2 J=>s n ⟨h1,h2⟩ Ae (HM I h1 J)
theorem PC{vs:List V}(s:∀n,A8 m H n->Sem m (.r (.v (.ref n))) k loc (⟨n,.list vs,true⟩::H))(hl:Nat.ble vs.length 100000=true):Sem m (.r (.l vs)) (.l .lst::k) loc H:=λos I=>Vn I.st (qY.mp hl) (Ds (λn f Ae J=>⟨_,J,s n f⟩) I)
theorem MG{a b:List V}(p q:Nat)(s:∀n,A8 m H n->Sem m (.r (.v (.ref n))) k loc (⟨n,.list (a++b),true⟩::H))(e1:AZ H p=some ⟨i,.list a,w⟩)(e2:AZ H q=some ⟨j,.list b,w'⟩)(hl:a.length+b.length<=1000000):Sem m (.r (.v (.ref j))) (.v (.bin2 .Add (.ref i))::k) loc H:=λos I=>Vv I.st (AD e1) (AD e2) hl (Ds (λn f Ae J=>⟨_,J,s n f⟩) I)
theorem RG{n:Int}(p:Nat)(s:∀n',A8 m H n'->Sem m (.r (.v (.ref n'))) k loc (⟨n',.list (List.replicate n.toNat x),true⟩::H))(e1:AZ H p=some ⟨i,.list [x],w⟩)(h0:0<=n)(hn:n<=1000000):Sem m (.r (.v (.int n))) (.v (.bin2 .Mult (.ref i))::k) loc H:=λos I=>Vm I.st (AD e1) h0 hn (Ds (λn f Ae J=>⟨_,J,s n f⟩) I)
theorem RH(o:O)(ho:It o)(s:∀n,A8 m H n->Sem m (.r (.v (.ref n))) k loc (⟨n,o,true⟩::H)):Sem m (.ev (.Dict [] [] p)) k loc H:=λos I=>RJ I.st ho (Ds (λn f Ae J=>⟨_,J,s n f⟩) I)
theorem wb(h1:b=true->Sem m (.r (.b true)) (.b f::k) loc H)(h2:b=false->Sem m (.r (.b false)) (.b f::k) loc H):Sem m (.r (.b b)) (.b f::k) loc H:=by
 induction b using jM
 ·exact h2 rfl
 ·exact h1 rfl
theorem wv(h1:b=true->Sem m (.r (.v (.bool true))) (.v f::k) loc H)(h2:b=false->Sem m (.r (.v (.bool false))) (.v f::k) loc H):Sem m (.r (.v (.bool b))) (.v f::k) loc H:=by
 induction b using jM
 ·exact h2 rfl
 ·exact h1 rfl
end
section
variable{c:Cx}{m:Mx c}{k:List Fr}{loc DP:Loc}{H H0:Lg}{v0:V}{t:Expr}{b o Ad:List Stmt}{p:Pos}{e:Expr}
theorem Sg.drop{H:Lg}{os:List O}(n:Nat)(I:Sg m H os):Sg m (H.drop n) os:=⟨I.st.sub ((List.drop_sublist n H).map _),λe he hw=>I.own e (ph he) hw⟩
abbrev Gn(m:Mx c)(H:Lg)(v0:V):Prop:=∀H' v n,H'.drop n=H->v=v0->m.R H' v
abbrev Fg(m:Mx c)(H:Lg)(v0:V):Prop:=∀v,v=v0->m.R H v
abbrev Dx(m:Mx c)(P:Prop)(l0:Loc)(H:Lg):Prop:=∀H' n,P->H'.drop n=H->m.N l0 H'
noncomputable def jv(m:Mx c)(H0:Lg)(v0:V):Mx c:={m with R:=λH v=>(∃n,H.drop n=H0)/\v=v0}
noncomputable def je(m:Mx c)(H0:Lg)(v0:V):Mx c:={m with R:=λH v=>H=H0/\v=v0}
noncomputable def jn(m:Mx c)(P:Prop)(l0:Loc)(H0:Lg):Mx c:={m with N:=λl H=>P/\l=l0/\∃n,H.drop n=H0}
theorem TU(s:Sem m (.r (.v v0)) k loc H){os:List O}{v:V}(x:cV (jv m H v0) (Mine.I (jv m H v0) []) loc os v):cV m (Mine.I m k) loc os v:=let⟨_,I',q⟩:=x;⟨H,let⟨n,e⟩:=q.1;e▸Sg.drop n ⟨I'.st,I'.own⟩,q.2▸s⟩
theorem TV(s:Sem m (.r (.v v0)) k loc H){os:List O}{v:V}(x:cV (je m H v0) (Mine.I (je m H v0) []) loc os v):cV m (Mine.I m k) loc os v:=let⟨_,I',q⟩:=x;⟨H,q.1▸⟨I'.st,I'.own⟩,q.2▸s⟩
theorem VQ{t:Bool}{b o:Expr}(v0:V)(h:∀m':Mx c,Gn m' H v0->Sem m' (.r (.b t)) [.b (.ifx b o)] loc H)(s:Sem m (.r (.v v0)) k loc H):Sem m (.r (.b t)) (.b (.ifx b o)::k) loc H:=λos I=>
 have x:=h (jv m H v0) (λ_ _ n a b=>⟨⟨n,a⟩,b⟩) os ⟨I.st,I.own⟩
 ⟨λe=>AG.mono (x.1 e) λ_ _ y=>TU s y,λe=>AG.mono (x.2 e) λ_ _ y=>TU s y⟩
theorem MI{t:Bool}{r:Expr}(v0:V)(h:∀m':Mx c,Fg m' H v0->Sem m' (.r (.v (.bool t))) [.v (.vor r)] loc H)(s:Sem m (.r (.v v0)) k loc H):Sem m (.r (.v (.bool t))) (.v (.vor r)::k) loc H:=by obtain⟨u,e,h1,h2⟩:=h (je m H v0) λ_ b=>⟨rfl,b⟩;exact⟨u,e,λq=>(h1 q).2▸s,λq os I=>AG.mono (h2 q os ⟨I.st,I.own⟩) λos v x=>TV s x⟩
theorem Gd{t:Bool}{r:Expr}(v0:V)(h:∀m':Mx c,Fg m' H v0->Sem m' (.r (.v (.bool t))) [.v (.vand r)] loc H)(s:Sem m (.r (.v v0)) k loc H):Sem m (.r (.v (.bool t))) (.v (.vand r)::k) loc H:=by obtain⟨u,e,h1,h2⟩:=h (je m H v0) λ_ b=>⟨rfl,b⟩;exact⟨u,e,λq os I=>AG.mono (h1 q os ⟨I.st,I.own⟩) λos v x=>TV s x,λq=>(h2 q).2▸s⟩
theorem PQ{P:Prop}{t:Bool}{b o:List Stmt}{Am:Loc}{H1:Lg}(s:P->Sem m (.xs Ad) k DP H0)(h:Mine.I (jn m P DP H0) [.b (.jif b o)] Am (.b t) H1):Mine.I m (.b (.sif b o Ad)::k) Am (.b t) H1:=λos I=>by
 have x:=h os ⟨I.st,I.own⟩;have conv:∀{b:List Stmt},Xs c b Am os (cN (jn m P DP H0) (Mine.I (jn m P DP H0) [])) (cR (jn m P DP H0))->Xs c b Am os (kX c Ad (cN m (Mine.I m k)) (cR m)) (cR m):=λ{b}x A s' ad L mm Q hr hs hf hn AT=>x A s' ad L mm Q hr hs hf (λAe Ag l m' h' tk a f⟨H',I',hP,e1,n,e2⟩=>hn Ae Ag l m' h' tk a f (by subst e1 e2;exact s hP Ae (Sg.drop n ⟨I'.st,I'.own⟩))) (λAe Ag v v' m' h' tk a b c⟨H',I',q⟩=>AT Ae Ag v v' m' h' tk a b c ⟨H',⟨I'.st,I'.own⟩,q⟩)
 exact⟨λe=>conv (x.1 e),λe=>conv (x.2 e)⟩
theorem VS{t:Bool}{b o:List Stmt}(P:Prop)(DP:Loc)(H0:Lg)(h:∀m':Mx c,Dx m' P DP H0->(∀H v,m.R H v->m'.R H v)->Sem m' (.r (.b t)) [.b (.jif b o)] loc H)(s:P->Sem m (.xs Ad) k DP H0):Sem m (.r (.b t)) (.b (.sif b o Ad)::k) loc H:=PQ s (h (jn m P DP H0) (λ_ n p e=>⟨p,rfl,n,e⟩) (λ_ _ q=>q))
theorem VU{t:Bool}{b o:List Stmt}{es:List Expr}(P:Prop)(ps:List Nat)(D:AW)(h:∀m':Mx c,Dx m' P loc (Be ps D H)->(∀H v,m.R H v->m'.R H v)->Sem m' (.r (.b t)) [.b (.tand es),.b (.jif b o)] loc H)(s:P->Sem m (.xs Ad) k loc (Be ps D H)):Sem m (.r (.b t)) (.b (.tand es)::.b (.sif b o Ad)::k) loc H:=λos I=>by have x:=h (jn m P loc (Be ps D H)) (λ_ n p e=>⟨p,rfl,n,e⟩) (λ_ _ q=>q) os ⟨I.st,I.own⟩;have mono:∀os t,cB (jn m P loc (Be ps D H)) (Mine.I (jn m P loc (Be ps D H)) [.b (.jif b o)]) loc os t->cB m (Mine.I m (.b (.sif b o Ad)::k)) loc os t:=λos t⟨H',I',q⟩=>⟨H',⟨I'.st,I'.own⟩,PQ s q⟩;have x1:t=true->Hf c.g c.F c.d .And es loc os (cB (jn m P loc (Be ps D H)) (Mine.I (jn m P loc (Be ps D H)) [.b (.jif b o)]) loc):=x.1;exact⟨λe=>Cd.mono (x1 e) mono,λe=>mono _ _ (x.2 e)⟩
theorem VT{t:Bool}{b o:List Stmt}(P:Prop)(ps:List Nat)(D:AW)(h:∀m':Mx c,Dx m' P loc (Be ps D H)->(∀H v,m.R H v->m'.R H v)->Sem m' (.r (.b t)) [.b (.jif b o)] loc H)(s:P->Sem m (.xs Ad) k loc (Be ps D H)):Sem m (.r (.b t)) (.b (.sif b o Ad)::k) loc H:=VS P loc _ h s
theorem O4{j:Int}(h0:0<=j)(h1:j<1000000)(hv:L[j.toNat]? =some u)(s:Sem m (.r (.v u)) k loc H)(hp:As r=true):Sem m (.r (.o ⟨i,.list L,w⟩ acc rest)) (.v (.sub3 l r (.int j))::k) loc H:=λhH os I=>by rw[hH] at I;exact Pg I.st I.at h0 h1 hv hp ⟨_,I,hH▸s⟩
end
section
variable{c:Cx}{m:Mx c}{k:List Fr}{loc:Loc}{H:Lg}{Ad body:List Stmt}{t Cz:Expr}{p:Pos}{a:V}
section
variable{α β γ δ:Type}
theorem ZU(X:IK c.g c.d)(N:Nat)(P:Nat->α->Prop)(L:Nat->α->Loc)(G:Nat->α->Lg)(u:Nat->α->V)(x0:α)(h0:P 0 x0)(hl:loc=L 0 x0)(hH:H=G 0 x0)(ho:∀os,Sg m H os->DC c.g c.d VR a os X)
  (el:∀n x,n<N->P n x->∀os,Sg m (G n x) os->X.el os n (some (u n x))) (cI:∀x,P N x->∀os,Sg m (G N x) os->X.el os N none)
  (turn:∀n x,n<N->P n x->∀Q:Loc->Lg->Prop,(∀y,P (n+1) y->Q (L (n+1) y) (G (n+1) y))->Sem m (.r .n) [.n (.one t body (u n x)),.n (.fin Q)] (L n x) (G n x))
  (done:∀x,P N x->Sem m (.xs Ad) k (L N x) (G N x)):Sem m (.r (.v a)) (.v (.frv t body Ad)::k) loc H:=λos I=>
 ⟨X,N,λn l os=>∃x,P n x/\l=L n x/\Sg m (G n x) os,ho os I,⟨x0,h0,hl,hH▸I⟩,λn l os hn⟨x,p,e,I⟩=>by subst e;obtain⟨l1,b,z⟩:=turn n x hn p (λl' G'=>∃y,P (n+1) y/\l'=L (n+1) y/\G'=G (n+1) y) (λy q=>⟨y,q,rfl,rfl⟩) os I;exact⟨_,l1,el n x hn p os I,b,Xs.mono z λl os⟨G',I',y,q,e1,e2⟩=>⟨y,q,e1,e2▸I'⟩⟩,λl os⟨x,p,e,I⟩=>by subst e;exact⟨cI x p os I,done x p os I⟩⟩
theorem rg(N:Nat)(P:Nat->α->Prop)(L:Nat->α->Loc)(G:Nat->α->Lg)(x0:α){q:Int×Int×Int}(h0:P 0 x0)(hl:loc=L 0 x0)(hH:H=G 0 x0)(hN:Builtin.Range.rangeSize q.1 q.2.1 q.2.2=N)(hs:Builtin.Range.small q.1 q.2.1 q.2.2=true)
  (turn:∀n x,n<N->P n x->∀Q:Loc->Lg->Prop,(∀y,P (n+1) y->Q (L (n+1) y) (G (n+1) y))->Sem m (.r .n) [.n (.one t body (.int (q.1+n*q.2.2))),.n (.fin Q)] (L n x) (G n x))
  (done:∀x,P N x->Sem m (.xs Ad) k (L N x) (G N x)) {os:List O} (I:Sg m H os):bL m (Mine.I m k) loc t body Ad os q:=
 ⟨N,λn l os=>∃x,P n x/\l=L n x/\Sg m (G n x) os,hN,hs,⟨x0,h0,hl,hH▸I⟩,λn l os hn⟨x,p,e,I⟩=>by subst e;obtain⟨l1,b,z⟩:=turn n x hn p (λl' G'=>∃y,P (n+1) y/\l'=L (n+1) y/\G'=G (n+1) y) (λy q=>⟨y,q,rfl,rfl⟩) os I;exact⟨l1,b,Xs.mono z λl os⟨G',I',y,q,e1,e2⟩=>⟨y,q,e1,e2▸I'⟩⟩,λl os⟨x,p,e,I⟩=>by subst e;exact done x p os I⟩
theorem ZV(N:Nat)(P:Nat->α->Prop)(L:Nat->α->Loc)(G:Nat->α->Lg)(x0:α)(h0:P 0 x0)(hl:loc=L 0 x0)(hH:H=G 0 x0)(hN:Builtin.Range.rangeSize 0 n 1=N)(hs:Builtin.Range.small 0 n 1=true)
  (turn:∀j x,j<N->P j x->∀Q:Loc->Lg->Prop,(∀y,P (j+1) y->Q (L (j+1) y) (G (j+1) y))->Sem m (.r .n) [.n (.one t body (.int (0+j*1))),.n (.fin Q)] (L j x) (G j x))
  (done:∀x,P N x->Sem m (.xs Ad) k (L N x) (G N x)):Sem m (.r (.l [.int n])) (.l (.frr (.imm (.type "range")) t body Ad)::k) loc H:=λos I=>Gs (rg (q:=(0,n,1)) N P L G x0 h0 hl hH hN hs turn done I)
theorem V5{a b d:Int}(hd:d≠0)(hb:d.natAbs<1073741824)(N:Nat)(P:Nat->α->Prop)(L:Nat->α->Loc)(G:Nat->α->Lg)(x0:α)(h0:P 0 x0)(hl:loc=L 0 x0)(hH:H=G 0 x0)(hN:Builtin.Range.rangeSize a b d=N)(hs:Builtin.Range.small a b d=true)
  (turn:∀j x,j<N->P j x->∀Q:Loc->Lg->Prop,(∀y,P (j+1) y->Q (L (j+1) y) (G (j+1) y))->Sem m (.r .n) [.n (.one t body (.int (a+j*d))),.n (.fin Q)] (L j x) (G j x))
  (done:∀x,P N x->Sem m (.xs Ad) k (L N x) (G N x)):Sem m (.r (.l [.int a,.int b,.int d])) (.l (.frr (.imm (.type "range")) t body Ad)::k) loc H:=λos I=>Qo hd hb (rg (q:=(a,b,d)) N P L G x0 h0 hl hH hN hs turn done I)
theorem UN(P:α->Prop)(f:α->Nat)(L:α->Loc)(G:α->Lg)(x0:α)(h0:P x0)(hl:loc=L x0)(hH:H=G x0)
  (turn:∀x,P x->∀Q:Loc->Lg->Prop,(∀y,f y<f x->P y->Q (L y) (G y))->Sem m (.te Cz) (.b (.whl Q body Ad)::k) (L x) (G x)):Sem m (.xs (.While Cz body [] p::Ad)) k loc H:=λos I=>
 Bm (I7 (f x0) (λn l os=>∃x,f x=n/\P x/\l=L x/\Sg m (G x) os) ⟨x0,rfl,h0,hl,hH▸I⟩ λn l os⟨x,en,p,e,I⟩=>by subst e en;have z:Ir c.g c.F c.d Cz (L x) os (cB m (Mine.I m (.b (.whl (λl' G'=>∃y,f y<f x/\P y/\l'=L y/\G'=G y) body Ad)::k)) (L x)):=turn x p _ (λy a b=>⟨y,a,b,rfl,rfl⟩) os I;exact Cd.mono z λos b⟨H,I,q⟩=>⟨λe=>Xs.mono ((q os I).1 e) λl os⟨G',I,y,a,b,e1,e2⟩=>⟨_,a,y,rfl,b,e1,e2▸I⟩,λe=>(q os I).2 e⟩)
end
variable{l r:Expr}{i:Nat}{w:Bool}{acc rest:Lg}{j:Int}
theorem Rh(h0:0<=j)(h1:j<1000000)(hv:L[j.toNat]? =some u)(s:Sem m (.r (.v u)) k loc H)(hp:As r=true):Sem m (.r (.v (.tup L))) (.v (.sub3 l r (.int j))::k) loc H:=λos I=>Pf h0 h1 hv hp ⟨H,I,s⟩
theorem Nl{L:List Int}(h0:0<=j)(hv:L[j.toNat]? =some u)(hl:L.length<=1000000)(s:Sem m (.r (.v (.int u))) k loc H)(hp:As r=true):Sem m (.r (.v (.bytes L))) (.v (.sub3 l r (.int j))::k) loc H:=λos I=>Vj h0 hv hl hp ⟨H,I,s⟩
theorem O5{L:List Int}(h0:0<=j)(hv:L[j.toNat]? =some u)(hl:L.length<=1000000)(s:Sem m (.r (.v (.int u))) k loc H)(hp:As r=true):Sem m (.r (.o ⟨i,.barr L,w⟩ acc rest)) (.v (.sub3 l r (.int j))::k) loc H:=λhH os I=>by rw[hH] at I;exact Vk I.st I.at h0 hv hl hp ⟨_,I,hH▸s⟩
theorem KV{L:List Int}{a b:V}{x y:Option Int}{lo hi:Option Expr}{sp:Pos}(q:Nat)(e:AZ H q=some ⟨i,.barr L,w⟩)(ha:BD a x)(hb:BD b y)(hl:L.length<=1000000)(s:∀n,A8 m H n->Sem m (.r (.v (.ref n))) k loc (⟨n,.barr (cut L x y),true⟩::H)):Sem m (.r (.v b)) (.v (.sl3 l (.Slice lo hi none sp) (.ref i) a)::k) loc H:=λos I=>YR I.st (AD e) ha hb hl (Ds (λn f Ae J=>⟨_,J,s n f⟩) I)
theorem len_list{L:List V}(q:Nat)(e:AZ H q=some ⟨i,.list L,w⟩)(hl:L.length<=1000000)(s:Sem m (.r (.v (.int L.length))) k loc H):Sem m (.r (.l [.ref i])) (.l (.cal2 (.imm (.builtin "len")))::k) loc H:=λos I=>Vp I.st (AD e) hl ⟨H,I,s⟩
theorem PH{L:List Int}(q:Nat)(e:AZ H q=some ⟨i,.barr L,w⟩)(hl:L.length<=1000000)(s:Sem m (.r (.v (.int L.length))) k loc H):Sem m (.r (.l [.ref i])) (.l (.cal2 (.imm (.builtin "len")))::k) loc H:=λos I=>Vs I.st (AD e) hl ⟨H,I,s⟩
theorem NG{L:List (Int×V)}(q:Nat)(e:AZ H q=some ⟨i,.idict L,w⟩)(hl:L.length<=1000000)(s:Sem m (.r (.v (.int L.length))) k loc H):Sem m (.r (.l [.ref i])) (.l (.cal2 (.imm (.builtin "len")))::k) loc H:=λos I=>Vq I.st (AD e) hl ⟨H,I,s⟩
theorem NF{L:List ((Int×List Int)×V)}(q:Nat)(e:AZ H q=some ⟨i,.tdict L,w⟩)(hl:L.length<=1000000)(s:Sem m (.r (.v (.int L.length))) k loc H):Sem m (.r (.l [.ref i])) (.l (.cal2 (.imm (.builtin "len")))::k) loc H:=λos I=>Vo I.st (AD e) hl ⟨H,I,s⟩
theorem LZ{L:List Int}(q:Nat)(e:AZ H q=some ⟨i,.list (L.map .int),w⟩)(ho:AY L)(hl:L.length<=1000000)(s:Sem m (.r (.v (.bytes L))) k loc H):Sem m (.r (.l [.ref i])) (.l (.cal2 (.imm (.type "bytes")))::k) loc H:=λos I=>Ph I.st (AD e) ho hl ⟨H,I,s⟩
theorem L7{L:List Int}(q:Nat)(e:AZ H q=some ⟨i,.barr L,w⟩)(hl:L.length<=1000000)(s:Sem m (.r (.v (.bytes L))) k loc H):Sem m (.r (.l [.ref i])) (.l (.cal2 (.imm (.type "bytes")))::k) loc H:=λos I=>Pj I.st (AD e) hl ⟨H,I,s⟩
theorem L8{L:List Int}(hl:L.length<=1000000)(s:∀n,A8 m H n->Sem m (.r (.v (.ref n))) k loc (⟨n,.barr L,true⟩::H)):Sem m (.r (.l [.bytes L])) (.l (.cal2 (.imm (.type "bytearray")))::k) loc H:=λos I=>Vu I.st hl (Ds (λn f Ae J=>⟨_,J,s n f⟩) I)
theorem Ld{L:List (Int×V)}(q:Nat)(e:AZ H q=some ⟨i,.idict L,w⟩)(hl:L.length<=1000000)(s:∀n,A8 m H n->Sem m (.r (.v (.ref n))) k loc (⟨n,.list (L.map λq=>.int q.1),true⟩::H)):Sem m (.r (.l [.ref i])) (.l (.cal2 (.imm (.type "list")))::k) loc H:=λos I=>Ry I.st (AD e) hl (Ds (λn f Ae J=>⟨_,J,s n f⟩) I)
theorem PF(q:Nat)(e:AZ H q=some ⟨i,.list L,w⟩)(s:Sem m (.ls p args) (.l (.me2 "list.append" (.ref i))::k) loc H):Sem m (.r (.v (.ref i))) (.v (.me1 p "append" args)::k) loc H:=λos I=>⟨_,Jw (I.st.get (AD e)),Cd.mono (s os I) λos vs⟨H,I,x⟩=>x os I⟩
end
abbrev Pu(g:Gl)(d:Nat)(fa:Addr)(args:List V)(v:V):Prop:=Bb g d fa args [] [] [] v
def CF(g:Gl)(d:Nat)(fa:Addr)(args:List V)(W:List Nat)(pre:AW){α:Type}(ok:α->Prop)(v:α->V)(N Ap:α->AW):Prop:=∀os K,St os W pre os->(∀x Ae,ok x->(∀y∈N x,os.length<=y.1)->St os W (N x++Ap x) Ae->K Ae (v x))->Az g d (.imm (.ref fa)) args os K
def FI(os:List O){α:Type}(ok:α->Prop)(v:α->V)(N Ap:α->AW)(H:Lg)(u:V):Prop:=∃x,ok x/\u=v x/\(∀y∈N x,os.length<=y.1)/\CW (N x++Ap x) (Cc H)
theorem Bs{os:List O}{α:Type}{ok:α->Prop}{v:α->V}{N Ap:α->AW}{H:Lg}{u:V}{D:AW}(x:α)(ns:List Nat)(e:pk ns H=some D)(eD:D=N x++Ap x)(hn:GQ ns=true)(hN:∀y∈N x,os.length<=y.1)(ho:ok x)(ev:u=v x):FI os ok v N Ap H u:=⟨x,ho,ev,hN,eD▸CW.of (Dp e) hn⟩
theorem Bz{os:List O}:∀y∈([]:AW),os.length<=y.1:=λ_ h=>nomatch h
theorem AI{os:List O}{n:Nat}{o:O}{N:AW}(h:os.length<=n)(k:∀y∈N,os.length<=y.1):∀y∈(n,o)::N,os.length<=y.1:=λy hy=>(cS.mp hy).elim (λe=>by rw[e];exact h) (k y)
noncomputable def wr:AW->Lg
 |[]=>[]
 |(i,o)::r=>⟨i,o,true⟩::wr r
theorem OJ:∀N:AW,wr N=N.map λx=>⟨x.1,x.2,true⟩
 |[]=>rfl
 |(i,o)::r=>by show(⟨i,o,true⟩:Le)::wr r=_;rw[OJ r];rfl
section
variable{c:Cx}{W:List Nat}{pre D:AW}{fa:Addr}{args:List V}{m:Mx c}{k:List Fr}{loc:Loc}{H:Lg}{α:Type}{ok:α->Prop}{v:α->V}{N Ap:α->AW}
theorem Sn(c:Cx)(hc:∀C∈Fz,CK c.g C)(H:Lg)(hx:∀os K,Ex c.g c.F c.d body loc os (λ_ os=>K os .none) K->Az c.g (c.d+1) (.imm (.ref fa)) args os K)(hH:pre=Cc H)(hw:R9 H=W)
  (h:∀m:Mx c,G0 m (FI m.os0 ok v N Ap)->(∀loc H,m.R H .none->m.N loc H)->Sem m (.xs body) [] loc H):CF c.g (c.d+1) fa args W pre ok v N Ap:=λos K I hk=>
 hx os K (Tu (bN hc os W (FI os ok v N Ap)) H I hH (λe he q=>hw▸Lo he q) (λ_ u Ae⟨x,a,e,hN,p⟩J=>e▸hk x Ae a hN (J.pickS p)) (λ_ _ q=>q) (h _ (λ_ _ q=>q) λ_ _ q=>q))
theorem Hw:∀(ps:List Nat)(D:AW)(H:Lg),(Be ps D H).map (·.i)=H.map (·.i)
 |[],D,H=>by induction D using cU<;>rfl
 |p::r,[],H=>rfl
 |p::r,x::D,H=>by
  have h1:∀(n:Nat)(o:O)(H acc:Lg),(CB n o H acc).map (·.i)=(rv acc H).map (·.i):=λn o H=>by
   induction H generalizing n with
   |nil=>intro acc;induction n using qt<;>rfl
   |cons x r ih=>intro acc;induction n using qt with
    |zero=>show(rv acc _).map _=_;rw[Bc,Bc];simp
    |succ n=>exact ih n (x::acc)
  show(Be r D (CB p x.2 H [])).map _=_;rw[Hw r D,h1];rfl
theorem aI(c0:CF c.g c.d fa args W pre ok v N Ap)(ns ps:List Nat)(e1:pk ns H=some pre)(hn:GQ ns=true)(e2:F6 ps H=some W)(hp:∀x,(Ap x).map (·.1)=W)
  (s:∀x,ok x->(∀y∈N x,A8 m H y.1)->Sem m (.r (.v (v x))) k loc (wr (N x)++Be ps (Ap x) H)):Sem m (.r (.l args)) (.l (.cal2 (.imm (.ref fa)))::k) loc H:=λos I=>
 c0 os _ (I.st.pick (CW.of (Dp e1) hn)) λx Ae q hN J=>by
  have hW:=(hp x).symm;have e2:F6 ps H=some ((Ap x).map (·.1)):=hW▸e2;have J0:St os W (Ap x) Ae:=J.sub (List.sublist_append_right _ _);obtain⟨_,ow,sg⟩:=Mq (ns:=ns) I J0 e2 hW;have hl:∀y∈N x,m.os0.length<=y.1:=λy hy=>mi I.st.len (hN y hy);have X4:(Cc (Be ps (Ap x) H)).map (·.1)=(Cc H).map (·.1):=by show((Be ps (Ap x) H).map _).map _=(H.map _).map _;rw[qi,qi];exact Hw ps (Ap x) H
  have XO:Cc (wr (N x)++Be ps (Ap x) H)=N x++Cc (Be ps (Ap x) H):=by rw[OJ];unfold Cc;rw[jJ,qi];exact gC (·++_) (List.map_id (N x))
  refine⟨wr (N x)++Be ps (Ap x) H,⟨⟨sg.st.toCh,λy hy=>?_,?_⟩,λe he hw=>?_⟩,s x q λy hy=>⟨hl y hy,I.st.allLt.le (hN y hy)⟩⟩
  ·rw[XO] at hy;exact(lZ.mp hy).elim (λh=>J.at_ _ (o8 _ h)) (sg.st.at_ _)
  ·rw[XO,jJ];have nd:=J.nd;rw[jJ] at nd;refine pN.mpr ⟨(pN.mp nd).1,sg.st.nd,λa ha b hb e=>?_⟩;subst e;rw[X4] at hb;obtain⟨y,hy,rfl⟩:=pe.mp ha;exact I.st.fresh (hN y hy) hb
  ·rw[OJ] at he;rcases lZ.mp he with h|h
   ·obtain⟨y,hy,rfl⟩:=pe.mp h;exact .inr (hl y hy)
   ·exact sg.own e h hw
theorem RN{rows:List (List V)}(q:Nat)(e:AZ H q=some ⟨i,.list (rows.map .tup),w⟩)(hf:∀r∈rows,Dm r t=some (f r))(s:Sem m (.r (.v (.bool (rows.any f)))) k loc H):Sem m (.r (.v (.ref i))) (.v (.cmp2 .In (.tup t))::k) loc H:=λos I=>ND (I.st.get (AD e)) hf ⟨H,I,s⟩
end
@[irreducible] def Sm{c:Cx}(m:Mx c)(S:AA):Prop:=Sem m S.ctl S.fr S.loc S.H
noncomputable def out(F:Fn)(h:Nat):AA->QD
 |⟨ctl,fr,loc,H⟩=>I8 F 5000 h ctl fr loc H
noncomputable def nx(F:Fn)(h:Nat)(S:AA):AA:=match out F h S with
 |⟨s,_,_,_⟩=>s
noncomputable def iE(F:Fn)(h:Nat)(S:AA):List Tk×List Prop:=((out F h S).L,(out F h S).n)
noncomputable def nk(F:Fn)(h:Nat)(S:AA):List Tk×List Prop:=((out F h S).R,[])
noncomputable def np(F:Fn)(h:Nat)(S:AA):List Tk:=(out F h S).L
noncomputable def iD(F:Fn)(h:Nat)(S:AA):List Tk:=(out F h S).R
abbrev nv(F:Fn)(h:Nat)(S:AA):Prop:=iE F h S=nk F h S
abbrev nu(F:Fn)(h:Nat)(S:AA):Prop:=np F h S=iD F h S
noncomputable def eI(F:Fn)(h:Nat)(S:AA):List Prop:=(out F h S).n
noncomputable def QG:List Prop->Prop->Prop
 |[],G=>G
 |p::r,G=>p->QG r G
theorem WF:∀{l:List Prop},(∀G,QG l G->G)->AllP l
 |[],_=>trivial
 |p::r,h=>by have hp:p:=h p λq=>(go r q);exact AllP.cons.mpr ⟨hp,WF λG k=>h G λ_=>k⟩
where go:∀(r:List Prop){p:Prop},p->QG r p
 |[],_,q=>q
 |_::r,_,q=>λ_=>go r q
noncomputable def Do(t:Bool):AA->AA
 |⟨_,k,l,H⟩=>⟨.r (.b t),k,l,H⟩
noncomputable def Jc(a:V):AA->AA
 |⟨_,k,l,H⟩=>⟨.r (.v a),k,l,H⟩
noncomputable def AP(a:V):AA->AA
 |⟨_,k,l,H⟩=>match k with
  |_::k=>⟨.r (.v a),k,l,H⟩
  |[]=>⟨.r (.v a),[],l,H⟩
noncomputable def jt(v:V)(ps:List Nat)(Ap:AW):AA->AA
 |⟨_,k,l,H⟩=>match k with
  |_::k=>⟨.r (.v v),k,l,Be ps Ap H⟩
  |[]=>⟨.r (.v v),[],l,H⟩
noncomputable def push(N:AW):AA->AA
 |⟨x,k,l,H⟩=>⟨x,k,l,rv (rv (wr N) []) H⟩
noncomputable def Fv:AA->AA
 |⟨x,k,l,H⟩=>match k with
  |f::_=>⟨x,[f],l,H⟩
  |[]=>⟨x,[],l,H⟩
noncomputable def Fy:AA->AA
 |⟨x,.b (.sif b o _)::_,l,H⟩=>⟨x,[.b (.jif b o)],l,H⟩
 |⟨x,.b (.tand es)::.b (.sif b o _)::_,l,H⟩=>⟨x,[.b (.tand es),.b (.jif b o)],l,H⟩
 |S=>S
noncomputable def Hs(ps:List Nat)(D:AW):AA->AA
 |⟨_,.b (.sif _ _ Ad)::k,l,H⟩=>⟨.xs Ad,k,l,Be ps D H⟩
 |⟨_,_::.b (.sif _ _ Ad)::k,l,H⟩=>⟨.xs Ad,k,l,Be ps D H⟩
 |S=>S
noncomputable def valOf:AA->V
 |⟨.r (.v a),_,_,_⟩=>a
 |_=>.none
section
variable{S:AA}{P:AA->Prop}
variable{b:Bool}
noncomputable def Sw(S:AA):Option Bool:=tB (λb _=>some b) S
theorem eB(e:Sw S=some b)(h:∀f k l H,P ⟨.r (.b b),.b f::k,l,H⟩):P S:=dG e λ_ f k l H e=>by obtain rfl:=bg e;exact h f k l H
noncomputable def Yn(S:AA):Option Bool:=tV (λa _=>vB some a) S
theorem oD(e:Yn S=some b)(h:∀f k l H,P ⟨.r (.v (.bool b)),.v f::k,l,H⟩):P S:=Rg e λ_ f k l H e=>bI e λ_ e1 e=>by subst e1;obtain rfl:=bg e;exact h f k l H
noncomputable def JI(S:AA):Option Bool:=tB (λb f=>aS (λ_ _=>some b) f) S
theorem ao(e:JI S=some b)(h:∀t o k l H,P ⟨.r (.b b),.b (.ifx t o)::k,l,H⟩):P S:=dG e λ_ f k l H e=>aR e λt o e1 e=>by subst e1;obtain rfl:=bg e;exact h t o k l H
noncomputable def IY(S:AA):Option Bool:=tB (λb f=>WC (λ_ _ _=>some b) f) S
theorem Wr(e:IY S=some b)(h:∀t o Ad k l H,P ⟨.r (.b b),.b (.sif t o Ad)::k,l,H⟩):P S:=dG e λ_ f k l H e=>TZ e λt o s e1 e=>by subst e1;obtain rfl:=bg e;exact h t o s k l H
noncomputable def YY(S:AA):Option Bool:=tV (λa f=>jk (λ_=>vB some a) f) S
theorem oF(e:YY S=some b)(h:∀r k l H,P ⟨.r (.v (.bool b)),.v (.vor r)::k,l,H⟩):P S:=Rg e λ_ f k l H e=>fP e λr e2 e=>bI e λ_ e1 e=>by subst e1;subst e2;obtain rfl:=bg e;exact h r k l H
noncomputable def Qy(S:AA):Option Bool:=tV (λa f=>ae (λ_=>vB some a) f) S
theorem aq(e:Qy S=some b)(h:∀r k l H,P ⟨.r (.v (.bool b)),.v (.vand r)::k,l,H⟩):P S:=Rg e λ_ f k l H e=>ac e λr e2 e=>bI e λ_ e1 e=>by subst e1;subst e2;obtain rfl:=bg e;exact h r k l H
noncomputable def PS(S:AA):Bool:=(JI S).isSome
noncomputable def MJ(S:AA):Bool:=(IY S).isSome
noncomputable def Zz(S:AA):Bool:=(Qy S).isSome
noncomputable def Ys:AA->Option Bool
 |⟨x,fr,_,_⟩=>GZ (λy fr=>GZ (λz _=>wR (rB λb=>hB (TY λ_=>hB (WC λ_ _ _=>some b) z) y) x) fr) fr
noncomputable def Zv(S:AA):Bool:=(Ys S).isSome
theorem jm(e:Ys S=some b)(h:∀es t o Ad k l H,P ⟨.r (.b b),.b (.tand es)::.b (.sif t o Ad)::k,l,H⟩):P S:=by obtain⟨x,fr,l,H⟩:=S;refine H6 e λy r e1 e=>H6 e λw k e2 e=>W2 e λx' e3 e=>iC e λb' e4 e=>jg e λf e5 e=>WB e λes e6 e=>jg e λf' e7 e=>TZ e λt o s e8 e=>?_;subst e1 e2 e3 e4 e5 e6 e7 e8;obtain rfl:=bg e;exact h es t o s k l H
theorem Xd{o:Option Bool}{Q:Prop}(e:o.isSome=true)(h:∀b,o=some b->Q):Q:=(pf.mp e).elim h
noncomputable def Ly(ns ps:List Nat)(S:AA):Option (V×List V×AW×List Nat):=tL (λvs g=>VP (λf=>gb (GQ ns) ((pk ns S.H).bind λD=>(F6 ps S.H).map λW=>(f,vs,D,W))) g) S
noncomputable def Zh(S:AA):Option O:=tL (λvs g=>Zm (gb (Nat.ble vs.length 100000) (some (.list vs))) g) S
noncomputable def TD:AA->Bool
 |⟨x,[],_,_⟩=>(wR (rV some) x).isSome
 |⟨x,[f],_,_⟩=>(wR (rV λa=>hV (Z0 (some a)) f) x).isSome
 |_=>false
noncomputable def Zx:AA->Bool
 |⟨x,[],_,_⟩=>(wR (rN (some ())) x).isSome
 |_=>false
end
section
variable{c:Cx}{m:Mx c}{S:AA}
theorem g1(h:Nat)(n:∀G,QG (eI c.F h S) G->G)(k:let T:=nx c.F h S;Sm m T)(q:nu c.F h S:=by kernel_rfl):Sm m S:=by
 with_unfolding_all exact(by
 obtain⟨x,fr,loc,H⟩:=S;exact dR h rfl rfl (WF n) k q)
theorem g0(h:Nat)(k:let T:=nx c.F h S;Sm m T)(q:nv c.F h S:=by kernel_rfl):Sm m S:=by with_unfolding_all exact(g1 h (λG a=>by rw[show eI c.F h S=[] from(bW q).2] at a;exact a) k (bW q).1)
theorem bR(h:Nat)(p:Prop)(hp:p)(k:let T:=nx c.F h S;Sm m T)(q:iE c.F h S=(iD c.F h S,[p])):Sm m S:=by with_unfolding_all exact(g1 h (λG a=>by rw[show eI c.F h S=[p] from(bW q).2] at a;exact a hp) k (bW q).1)
theorem wB(b:Bool)(e:Sw S=some b)(h1:b=true->Sm m (Do true S))(h2:b=false->Sm m (Do false S)):Sm m S:=by with_unfolding_all exact(eB (P:=λS=>(b=true->Sm m (Do true S))->(b=false->Sm m (Do false S))->Sm m S) e (λ_ _ _ _ h1 h2=>wb h1 h2) h1 h2)
theorem wN(b:Bool)(e:Sw S=some (!b))(h1:b=true->Sm m (Do false S))(h2:b=false->Sm m (Do true S)):Sm m S:=by with_unfolding_all exact(wB (!b) e (λq=>h2 (by induction b using jM;rfl;exact xB q)) (λq=>h1 (by induction b using jM;exact Yk q;rfl)))
theorem wV(b:Bool)(e:Yn S=some b)(h1:b=true->Sm m (Jc (.bool true) S))(h2:b=false->Sm m (Jc (.bool false) S)):Sm m S:=by with_unfolding_all exact(oD (P:=λS=>(b=true->Sm m (Jc (.bool true) S))->(b=false->Sm m (Jc (.bool false) S))->Sm m S) e (λ_ _ _ _ h1 h2=>wv h1 h2) h1 h2)
section
variable{fa:Addr}{args:List V}{W:List Nat}{pre Ap:AW}{v:V}{o:O}
theorem MX{P:Prop}{ns ps:List Nat}(e:Ly ns ps S=some (.imm (.ref fa),args,pre,W))(h:∀k l H,S=⟨.r (.l args),.l (.cal2 (.imm (.ref fa)))::k,l,H⟩->pk ns H=some pre->GQ ns=true->F6 ps H=some W->P):P:=Yv (P:=λS'=>S=S'->P) e (λvs g k l H e=>Tz e λf e1 e=>V4 e λhn e=>bd e λD e3 e=>Xb e λW' e4 e5 eS=>by cases e5;subst e1 eS;exact h k l H rfl e3 hn e4) rfl
theorem Ai(x:Bb c.g c.d fa args W pre Ap v)(ns ps:List Nat)(e:Ly ns ps S=some (.imm (.ref fa),args,pre,W))(e3:W=Ap.map (·.1))(s:Sm m (jt v ps Ap S)):Sm m S:=by with_unfolding_all exact(MX e λk l H eS e1 hn e2=>by subst eS;exact aJ x ns ps e1 hn (e3▸e2) e3 s)
theorem BZ{N:AW}{n:Nat}:Sm m (push ((n,o)::N) S)<->Sem m S.ctl S.fr S.loc (⟨n,o,true⟩::(wr N++S.H)):=by
 with_unfolding_all exact(by
 obtain⟨x,k,l,H⟩:=S;show Sem m x k l (rv (rv (wr _) []) H)<->_;rw[Bc,Bc];simp[wr])
theorem Rz{N:AW}:Sm m (push N S)<->Sem m S.ctl S.fr S.loc (wr N++S.H):=by
 with_unfolding_all exact(by
 obtain⟨x,k,l,H⟩:=S;show Sem m x k l (rv (rv (wr _) []) H)<->_;rw[Bc,Bc];simp)
theorem A3{α:Type}{ok:α->Prop}{v:α->V}{N Ap:α->AW}(x:CF c.g c.d fa args W pre ok v N Ap)(ns ps:List Nat)(e:Ly ns ps S=some (.imm (.ref fa),args,pre,W))(hp:∀x,(Ap x).map (·.1)=W)(s:∀x,ok x->(∀y∈N x,A8 m S.H y.1)->Sm m (push (N x) (jt (v x) ps (Ap x) S))):Sm m S:=by with_unfolding_all exact(MX e λk l H eS e1 hn e2=>by subst eS;exact aI x ns ps e1 hn e2 hp λy o f=>Rz.mp (s y o f))
end
theorem nL(o:O)(e:Zh S=some o)(s:∀n,A8 m S.H n->Sm m (push [(n,o)] (AP (.ref n) S))):Sm m S:=by
 with_unfolding_all exact(Yv (P:=λS=>(∀n,A8 m S.H n->Sm m (push [(n,o)] (AP (.ref n) S)))->Sm m S) e (λvs g k l H e=>Zl e λe1 e2=>V4 e2 λhb e3 s=>by
 obtain rfl:=bg e3;subst e1;exact PC (λn f=>BZ.mp (s n f)) hb) s)
theorem jX(v0:V)(e:PS S=true)(h:∀m':Mx c,Gn m' S.H v0->Sm m' (Fv S))(k:Sm m (AP v0 S)):Sm m S:=by with_unfolding_all exact(Xd e λb e=>ao (P:=λS=>(∀m':Mx c,Gn m' S.H v0->Sm m' (Fv S))->Sm m (AP v0 S)->Sm m S) e (λ_ _ _ _ _ h k=>VQ v0 h k) h k)
theorem jA(v0:V)(e:Zz S=true)(h:∀m':Mx c,Fg m' S.H v0->Sm m' (Fv S))(k:Sm m (AP v0 S)):Sm m S:=by with_unfolding_all exact(Xd e λb e=>aq (P:=λS=>(∀m':Mx c,Fg m' S.H v0->Sm m' (Fv S))->Sm m (AP v0 S)->Sm m S) e (λ_ _ _ _ h k=>Gd v0 h k) h k)
theorem jI(Q:Prop)(ps:List Nat)(D:AW)(e:MJ S=true)(h:∀m':Mx c,Dx m' Q S.loc (Be ps D S.H)->(∀H v,m.R H v->m'.R H v)->Sm m' (Fy S))(k:Q->Sm m (Hs ps D S)):Sm m S:=by with_unfolding_all exact(Xd e λb e=>Wr (P:=λS=>(∀m':Mx c,Dx m' Q S.loc (Be ps D S.H)->(∀H v,m.R H v->m'.R H v)->Sm m' (Fy S))->(Q->Sm m (Hs ps D S))->Sm m S) e (λ_ _ _ _ _ _ h k=>VT Q ps D h k) h k)
theorem eY(Q:Prop)(ps:List Nat)(D:AW)(e:Zv S=true)(h:∀m':Mx c,Dx m' Q S.loc (Be ps D S.H)->(∀H v,m.R H v->m'.R H v)->Sm m' (Fy S))(k:Q->Sm m (Hs ps D S)):Sm m S:=by with_unfolding_all exact(Xd e λb e=>jm (P:=λS=>(∀m':Mx c,Dx m' Q S.loc (Be ps D S.H)->(∀H v,m.R H v->m'.R H v)->Sm m' (Fy S))->(Q->Sm m (Hs ps D S))->Sm m S) e (λ_ _ _ _ _ _ _ h k=>VU Q ps D h k) h k)
theorem Hm{b:Bool}(e:Sw S=some b):Do b S=S:=eB (P:=λS=>Do b S=S) e λ_ _ _ _=>rfl
theorem UW{b:Bool}(e:IY S=some b):MJ S=true/\Sw S=some b:=⟨by unfold MJ;rw[e];rfl,Wr (P:=λS=>Sw S=some b) e λ_ _ _ _ _ _=>rfl⟩
theorem VY{b:Bool}(e:JI S=some b):PS S=true/\Sw S=some b:=⟨by unfold PS;rw[e];rfl,ao (P:=λS=>Sw S=some b) e λ_ _ _ _ _=>rfl⟩
theorem Zu(b:Bool)(ps:List Nat)(D:Bool->AW)(e:IY S=some b)(h1:b=true->∀m':Mx c,Dx m' True S.loc (Be ps (D true) S.H)->(∀H v,m.R H v->m'.R H v)->Sm m' (Fy (Do true S)))
  (h2:b=false->∀m':Mx c,Dx m' True S.loc (Be ps (D false) S.H)->(∀H v,m.R H v->m'.R H v)->Sm m' (Fy (Do false S))) (k:Sm m (Hs ps (D b) S)):Sm m S:=by
 with_unfolding_all exact(by
 obtain⟨e1,e2⟩:=UW e;have e3:=Hm e2;induction b using jM with
 |true=>exact jI True ps (D true) e1 (λm' f s=>e3▸h1 rfl m' (e3.symm▸f) s) λ_=>k
 |false=>exact jI True ps (D false) e1 (λm' f s=>e3▸h2 rfl m' (e3.symm▸f) s) λ_=>k)
theorem iZ(p:Prop)[i:Decidable p](ps:List Nat)(D:Decidable p->AW)(e:IY S=some (decide p))(h1:∀h:p,∀m':Mx c,Dx m' True S.loc (Be ps (D (isTrue h)) S.H)->(∀H v,m.R H v->m'.R H v)->Sm m' (Fy (Do true S)))
  (h2:∀h:¬p,∀m':Mx c,Dx m' True S.loc (Be ps (D (isFalse h)) S.H)->(∀H v,m.R H v->m'.R H v)->Sm m' (Fy (Do false S))) (k:Sm m (Hs ps (D i) S)):Sm m S:=by
 with_unfolding_all exact(by
 induction i using Decidable.casesOn with
 |isTrue h=>exact Zu true ps (λ_=>D (isTrue h)) e (λ_=>h1 h) (λq=>nomatch q) k
 |isFalse h=>exact Zu false ps (λ_=>D (isFalse h)) e (λq=>nomatch q) (λ_=>h2 h) k)
theorem Zt(b:Bool)(v:Bool->V)(e:JI S=some b)(h1:b=true->∀m':Mx c,Gn m' S.H (v true)->Sm m' (Fv (Do true S)))(h2:b=false->∀m':Mx c,Gn m' S.H (v false)->Sm m' (Fv (Do false S)))(k:Sm m (AP (v b) S)):Sm m S:=by
 with_unfolding_all exact(by
 obtain⟨e1,e2⟩:=VY e;have e3:=Hm e2;induction b using jM with
 |true=>exact jX (v true) e1 (λm' f=>e3▸h1 rfl m' (e3.symm▸f)) k
 |false=>exact jX (v false) e1 (λm' f=>e3▸h2 rfl m' (e3.symm▸f)) k)
theorem nX(p:Prop)[i:Decidable p](v:Decidable p->V)(e:JI S=some (decide p))(h1:∀h:p,∀m':Mx c,Gn m' S.H (v (isTrue h))->Sm m' (Fv (Do true S)))(h2:∀h:¬p,∀m':Mx c,Gn m' S.H (v (isFalse h))->Sm m' (Fv (Do false S)))(k:Sm m (AP (v i) S)):Sm m S:=by
 with_unfolding_all exact(by
 induction i using Decidable.casesOn with
 |isTrue h=>exact Zt true (λ_=>v (isTrue h)) e (λ_=>h1 h) (λq=>nomatch q) k
 |isFalse h=>exact Zt false (λ_=>v (isFalse h)) e (λq=>nomatch q) (λ_=>h2 h) k)
theorem nY(b r:Bool)(e:YY S=some b)(h:b=false->∀m':Mx c,Fg m' S.H (.bool r)->Sm m' (Fv (Jc (.bool false) S)))(k:Sm m (AP (.bool (b||r)) S)):Sm m S:=by
 with_unfolding_all exact(oF (P:=λS=>(b=false->∀m':Mx c,Fg m' S.H (.bool r)->Sm m' (Fv (Jc (.bool false) S)))->Sm m (AP (.bool (b||r)) S)->Sm m S) e (λ_ _ _ _ h k=>by
  induction b using jM with
  |true=>exact MI (.bool true) (λm' f=>⟨true,rfl,λ_=>f _ rfl,λq=>nomatch q⟩) k
  |false=>exact MI (.bool r) (λm' f=>h rfl m' f) k) h k)
theorem i4(b r:Bool)(e:Qy S=some b)(h:b=true->∀m':Mx c,Fg m' S.H (.bool r)->Sm m' (Fv (Jc (.bool true) S)))(k:Sm m (AP (.bool (b&&r)) S)):Sm m S:=by
 with_unfolding_all exact(aq (P:=λS=>(b=true->∀m':Mx c,Fg m' S.H (.bool r)->Sm m' (Fv (Jc (.bool true) S)))->Sm m (AP (.bool (b&&r)) S)->Sm m S) e (λ_ _ _ _ h k=>by
  induction b using jM with
  |true=>exact Gd (.bool r) (λm' f=>h rfl m' f) k
  |false=>exact Gd (.bool false) (λm' f=>⟨false,rfl,(λq=>nomatch q),λ_=>f _ rfl⟩) k) h k)
theorem eV(h:m.R S.H (valOf S))(e:TD S=true:=by kernel_rfl):Sm m S:=by
 with_unfolding_all exact(by
 obtain⟨x,fr,l,H⟩:=S;induction fr using cU with
 |nil=>exact(pf.mp e).elim λa e=>W2 e λr e1 e=>dY e λa e2 _=>by subst e1 e2;exact h
 |cons f fr=>induction fr using cU with
  |nil=>exact(pf.mp e).elim λa e=>W2 e λr e1 e=>dY e λa e2 e=>oa e λg e3 e=>ZZ e λe4 _=>by subst e1 e2 e3 e4;exact h
  |cons _ _=>exact xB e)
theorem eN(h:m.N S.loc S.H)(e:Zx S=true:=by kernel_rfl):Sm m S:=by
 with_unfolding_all exact(by
 obtain⟨x,fr,l,H⟩:=S;induction fr using cU with
 |nil=>exact(pf.mp e).elim λa e=>W2 e λr e1 e=>d4 e λe2 _=>by subst e1 e2;exact h
 |cons _ _=>exact xB e)
end
section
variable{c:Cx}{W:List Nat}{pre Ap:AW}{fa:Addr}{args:List V}{v:V}{o:O}{loc:Loc}
theorem So(c:Cx)(hc:∀C∈Fz,CK c.g C)(H:Lg){body:List Stmt}(hx:∀os K,Ex c.g c.F c.d body loc os (λ_ os=>K os .none) K->Az c.g (c.d+1) (.imm (.ref fa)) args os K)(hH:pre=Cc H)(hw:R9 H=W)
  (h:∀m:Mx c,G0 m (Fin Ap v)->(∀loc H,m.R H .none->m.N loc H)->Sm m ⟨.xs body,[],loc,H⟩):Bb c.g (c.d+1) fa args W pre Ap v:=by
 with_unfolding_all exact(Wv c hc H hx hH hw h)
theorem Qj{α:Type}{ok:α->Prop}{v:α->V}{N Ap:α->AW}(c:Cx)(hc:∀C∈Fz,CK c.g C)(H:Lg){body:List Stmt}(hx:∀os K,Ex c.g c.F c.d body loc os (λ_ os=>K os .none) K->Az c.g (c.d+1) (.imm (.ref fa)) args os K)(hH:pre=Cc H)(hw:R9 H=W)
  (h:∀m:Mx c,G0 m (FI m.os0 ok v N Ap)->(∀loc H,m.R H .none->m.N loc H)->Sm m ⟨.xs body,[],loc,H⟩):CF c.g (c.d+1) fa args W pre ok v N Ap:=by
 with_unfolding_all exact(Sn c hc H hx hH hw h)
end
section
variable{g:Gl}(E:AM g)(i:Nat){d fa:Nat}{args:List V}{W:List Nat}{pre Ap:AW}{v:V}{α:Type}{ok:α->Prop}{f:α->V}{N ps:α->AW}
noncomputable abbrev cx(d:Nat):Cx:=⟨g,fn i,d,ZX E i⟩
abbrev Qe(i n fa:Nat)(W:List Nat)(pre:AW)(H:Lg):Prop:=(n,Nat.ble ((ro i).na+(ro i).df.length) (fn i).names.length,(fn i).fa,Cc H,R9 H)=((ro i).na,true,fa,pre,W)
include E
theorem TK{H:Lg}(e:Qe i args.length fa W pre H)(os:List O)(K:List O->V->Prop)(h:Ex g (fn i) d (ro i).body (Gk i args) os (λ_ os=>K os .none) K):DY g (d+1) fa args os K:=
 have a:=bW e;have b:=bW a.2
 (bW b.2).1▸ZW E i a.1 b.1 h
theorem TL{H:Lg}(e:Qe i args.length fa W pre H)(os:List O)(K:List O->V->Prop)(h:Ex g (fn i) d (ro i).body (Gk i args) os (λ_ os=>K os .none) K):Az g (d+1) (.imm (.ref fa)) args os K:=
 have b:=bW (bW e).2;have q:=(bW b.2).1
 q▸V7 E i (q▸TK E i e os K h)
theorem Av(H:Lg)(h:∀m:Mx (cx E i d),G0 m (Fin Ap v)->(∀loc H,m.R H .none->m.N loc H)->Sm m ⟨.xs (ro i).body,[],Gk i args,H⟩)(e:Qe i args.length fa W pre H:=by kernel_rfl):Bb g (d+1) fa args W pre Ap v:=by
 with_unfolding_all exact(have b:=bW (bW (bW (bW e).2).2).2
 So (cx E i d) (EV E) H (TL E i e) b.1.symm b.2 h)
theorem Bu(H:Lg)(h:∀m:Mx (cx E i d),G0 m (FI m.os0 ok f N ps)->(∀loc H,m.R H .none->m.N loc H)->Sm m ⟨.xs (ro i).body,[],Gk i args,H⟩)(e:Qe i args.length fa W pre H:=by kernel_rfl):CF g (d+1) fa args W pre ok f N ps:=by
 with_unfolding_all exact(have b:=bW (bW (bW (bW e).2).2).2
 Qj (cx E i d) (EV E) H (TL E i e) b.1.symm b.2 h)
end
theorem CH{S:AA}{Ap:AW}{v0:V}(ns:List Nat)(ev:valOf S=v0:=by kernel_rfl)(e:(pk ns S.H,GQ ns)=(some Ap,true):=by kernel_rfl):Fin Ap v0 S.H (valOf S):=⟨ev,CW.of (Dp (bW e).1) (bW e).2⟩
theorem Qa{S:AA}{Ap D:AW}{v0:V}(ns:List Nat)(e:pk ns S.H=some D)(eD:D=Ap)(hn:GQ ns=true)(ev:valOf S=v0):Fin Ap v0 S.H (valOf S):=⟨ev,eD▸CW.of (Dp e) hn⟩
theorem HE{S:AA}{Ap:AW}(ns:List Nat)(e:(pk ns S.H,GQ ns)=(some Ap,true):=by kernel_rfl):Fin Ap .none S.H .none:=⟨rfl,CW.of (Dp (bW e).1) (bW e).2⟩
theorem Bw{S:AA}{Ap D:AW}(ns:List Nat)(e:pk ns S.H=some D)(eD:D=Ap)(hn:GQ ns=true):Fin Ap .none S.H .none:=⟨rfl,eD▸CW.of (Dp e) hn⟩
theorem eK{c:Cx}{m:Mx c}{S:AA}{Ap:AW}{v0:V}(fin:G0 m (Fin Ap v0))(ns:List Nat)(ev:valOf S=v0:=by kernel_rfl)(e:(pk ns S.H,GQ ns)=(some Ap,true):=by kernel_rfl)(e1:TD S=true:=by kernel_rfl):Sm m S:=eV (fin _ _ (CH ns ev e)) e1
theorem lb{a b:Nat}(h:Nat.ble a b=true:=by kernel_rfl):a<=b:=oX h
section
variable{c:Cx}{m:Mx c}{S:AA}{ctl:CP}{fr:List Fr}{loc:Loc}{H:Lg}
theorem lit(e:S=⟨ctl,fr,loc,H⟩)(h:Sem m ctl fr loc H):Sm m S:=by with_unfolding_all exact(by subst e;exact h)
theorem sm(h:Sm m ⟨ctl,fr,loc,H⟩):Sem m ctl fr loc H:=by with_unfolding_all exact(h)
variable{P:AA->Prop}
noncomputable def Mo(S:AA):Option (V×V):=tV (λa f=>Lp (λ_ r i=>gb (As r) (some (a,i))) f) S
noncomputable def Mt(S:AA):Option (O×V):=tO (λe _ _ f=>Lp (λ_ r i=>gb (As r) (some (e.o,i))) f) S
theorem eSub{a i:V}(e:Mo S=some (a,i))(h:∀l r k loc H,As r=true->P ⟨.r (.v a),.v (.sub3 l r i)::k,loc,H⟩):P S:=Rg e λa' f k l H e=>Qd e λx r j e1 e2=>V4 e2 λhp e3=>by obtain⟨rfl,rfl⟩:=bW (bg e3);cases e1;exact h x r k l H hp
theorem Ws{o:O}{i:V}(e:Mt S=some (o,i))(h:∀x acc rest l r k loc H,x.o=o->As r=true->P ⟨.r (.o x acc rest),.v (.sub3 l r i)::k,loc,H⟩):P S:=ir e λy acc rest f k l H e=>Qd e λx r j e1 e2=>V4 e2 λhp e3=>by obtain⟨rfl,rfl⟩:=bW (bg e3);cases e1;exact h y acc rest x r k l H rfl hp
theorem sB{L:List Int}{j u:Int}(e:Mo S=some (.bytes L,.int j))(h0:0<=j)(hv:L[j.toNat]? =some u)(hl:L.length<=1000000)(k:Sm m (AP (.int u) S)):Sm m S:=by with_unfolding_all exact(eSub (P:=λS=>Sm m (AP (.int u) S)->Sm m S) e (λ_ _ _ _ _ hp k=>Nl h0 hv hl k hp) k)
theorem sT{L:List V}{j:Int}{u:V}(e:Mo S=some (.tup L,.int j))(h0:0<=j)(h1:j<1000000)(hv:L[j.toNat]? =some u)(k:Sm m (AP u S)):Sm m S:=by with_unfolding_all exact(eSub (P:=λS=>Sm m (AP u S)->Sm m S) e (λ_ _ _ _ _ hp k=>Rh h0 h1 hv k hp) k)
theorem sL{L:List V}{j:Int}{u:V}(e:Mt S=some (.list L,.int j))(h0:0<=j)(h1:j<1000000)(hv:L[j.toNat]? =some u)(k:Sm m (AP u S)):Sm m S:=by with_unfolding_all exact(Ws (P:=λS=>Sm m (AP u S)->Sm m S) e (λ⟨_,_,_⟩_ _ _ _ _ _ _ q hp k=>by subst q;exact O4 h0 h1 hv k hp) k)
theorem sA{L:List Int}{j u:Int}(e:Mt S=some (.barr L,.int j))(h0:0<=j)(hv:L[j.toNat]? =some u)(hl:L.length<=1000000)(k:Sm m (AP (.int u) S)):Sm m S:=by with_unfolding_all exact(Ws (P:=λS=>Sm m (AP (.int u) S)->Sm m S) e (λ⟨_,_,_⟩_ _ _ _ _ _ _ q hp k=>by subst q;exact O5 h0 hv hl k hp) k)
noncomputable def Qn(S:AA):Option (V×V):=tL (λvs g=>VP (λf=>GZ (λv r=>Df (some (f,v)) r) vs) g) S
theorem Lv{f v:V}(e:Qn S=some (f,v))(h:∀k l H,P ⟨.r (.l [v]),.l (.cal2 f)::k,l,H⟩):P S:=Yv e λvs g k l H e=>Tz e λf' e1 e=>H6 e λv' r e2 e=>Fe e λe3 e=>by subst e3;subst e2;subst e1;obtain⟨rfl,rfl⟩:=bW (bg e);exact h k l H
noncomputable def Tv(S:AA):Option (V×String×V):=tL (λvs g=>iV (λid o=>GZ (λv r=>Df (some (v,id,o)) r) vs) g) S
theorem gc{v o:V}{id:String}(e:Tv S=some (v,id,o))(h:∀k l H,P ⟨.r (.l [v]),.l (.me2 id o)::k,l,H⟩):P S:=Yv e λvs g k l H e=>eX e λid' o' e1 e=>H6 e λv' r e2 e=>Fe e λe3 e=>by subst e3;subst e2;subst e1;cases e;exact h k l H
noncomputable def Zf(S:AA):Option (V×Str):=tV (λa f=>jl (λ_ x _=>some (a,x)) f) S
theorem oG{v:V}{x:Str}(e:Zf S=some (v,x))(h:∀p args k l H,P ⟨.r (.v v),.v (.me1 p x args)::k,l,H⟩):P S:=Rg e λa f k l H e=>fQ e λp x' args e1 e=>by subst e1;obtain⟨rfl,rfl⟩:=bW (bg e);exact h p args k l H
noncomputable def M0(S:AA):Option (V×Operator×V):=tV (λa f=>Z7 (λop b=>some (a,op,b)) f) S
theorem Wu{a b:V}{op:Operator}(e:M0 S=some (a,op,b))(h:∀k l H,P ⟨.r (.v a),.v (.bin2 op b)::k,l,H⟩):P S:=Rg e λa' f k l H e=>Z6 e λj5 b' e1 e=>by subst e1;cases e;exact h k l H
noncomputable def YB(S:AA):Option (V×V×V):=tV (λb f=>jj (λ_ s o a=>bH (λ_ _ st _=>RE (some (b,o,a)) st) s) f) S
theorem oE{b o a:V}(e:YB S=some (b,o,a))(h:∀l lo hi sp k loc H,P ⟨.r (.v b),.v (.sl3 l (.Slice lo hi none sp) o a)::k,loc,H⟩):P S:=Rg e λb' f k l H e=>fM e λx s o' a' e1 e=>UG e λlo hi st sp e2 e=>PB e λe3 e=>by subst e3;subst e2;subst e1;cases e;exact h x lo hi sp k l H
theorem p1{α β:Type}{a a':α}{b b':β}(e:(a,b)=(a',b')):a=a':=gC Prod.fst e
theorem p2{α β:Type}{a a':α}{b b':β}(e:(a,b)=(a',b')):b=b':=gC Prod.snd e
theorem IZ{H:Lg}{os:List O}(I:Sg m H os){q:Nat}{e:Le}{o:O}(a:AZ H q=some e)(w:e.w=true):∃H3,B4 e.i o (Cc H) H3/\(e.i∈m.U\/m.os0.length<=e.i)/\Cw e.i e.o (Cc H)/\∀Ae,St m.os0 m.U H3 Ae->Sg m (CB q o H []) Ae:=by obtain⟨H',h1,h2,h3⟩:=I5 (o:=o) (acc:=[]) a rfl;have hm:e∈H:=bG (D7 a);refine⟨_,h2,I.own e hm w,by obtain⟨i,o,w⟩:=e;exact AD a,λAe J=>?_⟩;rw[h1];refine⟨J,λx hx hw=>?_⟩;have:(x.i,x.w)∈H'.map (λe=>(e.i,e.w)):=mj hx;rw[h3] at this;obtain⟨y,hy,hxy⟩:=pe.mp this;have h1:y.i=x.i:=gC Prod.fst hxy;have h2:y.w=x.w:=gC Prod.snd hxy;rw[<-h1];exact I.own y hy (h2.trans hw)
noncomputable def js:AA->AA
 |⟨.r (.v (.ref i)),.v (.me1 p _ args)::k,l,H⟩=>⟨.ls p args,.l (.me2 "list.append" (.ref i))::k,l,H⟩
 |S=>S
theorem ap{i:Nat}{L:List V}{w:Bool}(q:Nat)(e:(Zf S,AZ S.H q)=(some (.ref i,("append":Str)),some ⟨i,.list L,w⟩))(k:Sm m (js S)):Sm m S:=by with_unfolding_all exact(oG (P:=λS=>AZ S.H q=some ⟨i,.list L,w⟩->Sm m (js S)->Sm m S) (p1 e) (λ_ _ _ _ _ e k=>PF q e k) (p2 e) k)
noncomputable def aT(q:Nat)(o:O):AA->AA
 |⟨_,_::k,l,H⟩=>⟨.r (.v .none),k,l,CB q o H []⟩
 |S=>S
theorem jr{i:Nat}{L:List V}{v:V}(q:Nat)(e:(Tv S,AZ S.H q)=(some (v,"list.append",.ref i),some ⟨i,.list L,true⟩))(hl:L.length<=1000000)(k:Sm m (aT q (.list (L++[v])) S)):Sm m S:=by with_unfolding_all exact(gc (P:=λS=>AZ S.H q=some ⟨i,.list L,true⟩->Sm m (aT q (.list (L++[v])) S)->Sm m S) (p1 e) (λ_ _ _ e k os I=>(IZ I (o:=.list (L++[v])) e rfl).elim λ_ x=>Pk I.st (AD e) hl x.1 x.2.1 λAe J=>⟨_,x.2.2.2 Ae J,k⟩) (p2 e) k)
theorem ad{i j:Nat}{a b:List V}{w1 w2:Bool}(p q:Nat)(e:(M0 S,AZ S.H p,AZ S.H q)=(some (.ref j,.Add,.ref i),some ⟨i,.list a,w1⟩,some ⟨j,.list b,w2⟩))(hl:a.length+b.length<=1000000)(k:∀n,A8 m S.H n->Sm m (push [(n,.list (a++b))] (AP (.ref n) S))):Sm m S:=by with_unfolding_all exact(Wu (P:=λS=>AZ S.H p=some ⟨i,.list a,w1⟩->AZ S.H q=some ⟨j,.list b,w2⟩->(∀n,A8 m S.H n->Sm m (push [(n,.list (a++b))] (AP (.ref n) S)))->Sm m S) (p1 e) (λ_ _ _ e1 e2 k=>MG p q (λn f=>BZ.mp (k n f)) e1 e2 hl) (p1 (p2 e)) (p2 (p2 e)) k)
noncomputable def MP(S:AA):Option V:=tV (λa f=>Z2 (λ_ _ _=>some a) f) S
noncomputable def JM(S:AA):Option (V×List V):=tL (λvs g=>Zo (λf _ _ _=>some (f,vs)) g) S
theorem ge{a:V}(e:MP S=some a)(h:∀t body Ad k l H,P ⟨.r (.v a),.v (.frv t body Ad)::k,l,H⟩):P S:=Rg e λa' f k l H e=>Z1 e λt b s e1 e=>by subst e1;obtain rfl:=bg e;exact h t b s k l H
theorem gf{f:V}{vs:List V}(e:JM S=some (f,vs))(h:∀t body Ad k l H,P ⟨.r (.l vs),.l (.frr f t body Ad)::k,l,H⟩):P S:=Yv e λFK g k l H e=>Zn e λf' t b s e1 e=>by subst e1;obtain⟨rfl,rfl⟩:=bW (bg e);exact h t b s k l H
theorem P6{a:V}(e:MP S=some a):∃t body Ad k l H,S=⟨.r (.v a),.v (.frv t body Ad)::k,l,H⟩:=ge (P:=λS=>∃t body Ad k l H,S=⟨.r (.v a),.v (.frv t body Ad)::k,l,H⟩) e λt body Ad k l H=>⟨t,body,Ad,k,l,H,rfl⟩
theorem Ln{f:V}{vs:List V}(e:JM S=some (f,vs)):∃t body Ad k l H,S=⟨.r (.l vs),.l (.frr f t body Ad)::k,l,H⟩:=gf (P:=λS=>∃t body Ad k l H,S=⟨.r (.l vs),.l (.frr f t body Ad)::k,l,H⟩) e λt body Ad k l H=>⟨t,body,Ad,k,l,H,rfl⟩
noncomputable def Ym:AA->Option Unit
 |⟨x,_,_,_⟩=>wX (GZ λs _=>YH (λ_ _ o _=>Df (some ()) o) s) x
noncomputable def JF(S:AA):Bool:=(Ym S).isSome
theorem fZ(e:JF S=true)(h:∀t body p Ad k l H,P ⟨.xs (.While t body [] p::Ad),k,l,H⟩):P S:=(pf.mp e).elim λu e=>by obtain⟨x,fr,l,H⟩:=S;refine iq e λss e1 e=>H6 e λs r e2 e=>YG e λt b o p e3 e=>Fe e λe4 e=>?_;subst e1 e2 e3 e4;exact h t b p r fr l H
theorem OK(e:JF S=true):∃t body p Ad k l H,S=⟨.xs (.While t body [] p::Ad),k,l,H⟩:=fZ (P:=λS=>∃t body p Ad k l H,S=⟨.xs (.While t body [] p::Ad),k,l,H⟩) e λt body p Ad k l H=>⟨t,body,p,Ad,k,l,H,rfl⟩
noncomputable def IS(u:V)(Q:Loc->Lg->Prop)(l:Loc)(H:Lg):AA->AA
 |⟨_,.v (.frv t body _)::_,_,_⟩=>⟨.r .n,[.n (.one t body u),.n (.fin Q)],l,H⟩
 |⟨_,.l (.frr _ t body _)::_,_,_⟩=>⟨.r .n,[.n (.one t body u),.n (.fin Q)],l,H⟩
 |S=>S
noncomputable def JX(l:Loc)(H:Lg):AA->AA
 |⟨_,.v (.frv _ _ Ad)::k,_,_⟩=>⟨.xs Ad,k,l,H⟩
 |⟨_,.l (.frr _ _ _ Ad)::k,_,_⟩=>⟨.xs Ad,k,l,H⟩
 |⟨.xs (.While _ _ _ _::Ad),k,_,_⟩=>⟨.xs Ad,k,l,H⟩
 |S=>S
noncomputable def Ra(Q:Loc->Lg->Prop)(l:Loc)(H:Lg):AA->AA
 |⟨.xs (.While t body _ _::Ad),k,_,_⟩=>⟨.te t,.b (.whl Q body Ad)::k,l,H⟩
 |S=>S
section
variable{α:Type}
theorem fV{a:V}(X:IK c.g c.d)(N:Nat)(Q:Nat->α->Prop)(L:Nat->α->Loc)(G:Nat->α->Lg)(u:Nat->α->V)(x0:α)(e:MP S=some a)(h0:Q 0 x0)(hl:S.loc=L 0 x0)(hH:S.H=G 0 x0)(ho:∀os,Sg m S.H os->DC c.g c.d VR a os X)
  (el:∀n x,n<N->Q n x->∀os,Sg m (G n x) os->X.el os n (some (u n x))) (cI:∀x,Q N x->∀os,Sg m (G N x) os->X.el os N none)
  (turn:∀n x,n<N->Q n x->∀R:Loc->Lg->Prop,(∀y,Q (n+1) y->R (L (n+1) y) (G (n+1) y))->Sm m (IS (u n x) R (L n x) (G n x) S))
  (done:∀x,Q N x->Sm m (JX (L N x) (G N x) S)):Sm m S:=by
 with_unfolding_all exact(by
 obtain⟨t,body,Ad,k,l,H,rfl⟩:=P6 e;exact ZU X N Q L G u x0 h0 hl hH ho el cI turn done)
theorem fR{n:Int}(N:Nat)(Q:Nat->α->Prop)(L:Nat->α->Loc)(G:Nat->α->Lg)(x0:α)(e:JM S=some (.imm (.type "range"),[.int n]))(h0:Q 0 x0)(hl:S.loc=L 0 x0)(hH:S.H=G 0 x0)(hN:Builtin.Range.rangeSize 0 n 1=N)(hs:Builtin.Range.small 0 n 1=true)
  (turn:∀j x,j<N->Q j x->∀R:Loc->Lg->Prop,(∀y,Q (j+1) y->R (L (j+1) y) (G (j+1) y))->Sm m (IS (.int (0+j*1)) R (L j x) (G j x) S))
  (done:∀x,Q N x->Sm m (JX (L N x) (G N x) S)):Sm m S:=by
 with_unfolding_all exact(by
 obtain⟨t,body,Ad,k,l,H,rfl⟩:=Ln e;exact ZV N Q L G x0 h0 hl hH hN hs turn done)
theorem oo{a b d:Int}(hd:d≠0)(hb:d.natAbs<1073741824)(N:Nat)(Q:Nat->α->Prop)(L:Nat->α->Loc)(G:Nat->α->Lg)(x0:α)(e:JM S=some (.imm (.type "range"),[.int a,.int b,.int d]))(h0:Q 0 x0)(hl:S.loc=L 0 x0)(hH:S.H=G 0 x0)(hN:Builtin.Range.rangeSize a b d=N)(hs:Builtin.Range.small a b d=true)
  (turn:∀j x,j<N->Q j x->∀R:Loc->Lg->Prop,(∀y,Q (j+1) y->R (L (j+1) y) (G (j+1) y))->Sm m (IS (.int (a+j*d)) R (L j x) (G j x) S))
  (done:∀x,Q N x->Sm m (JX (L N x) (G N x) S)):Sm m S:=by
 with_unfolding_all exact(by
 obtain⟨t,body,Ad,k,l,H,rfl⟩:=Ln e;exact V5 hd hb N Q L G x0 h0 hl hH hN hs turn done)
theorem fW(Q:α->Prop)(f:α->Nat)(L:α->Loc)(G:α->Lg)(x0:α)(e:JF S=true)(h0:Q x0)(hl:S.loc=L x0)(hH:S.H=G x0)
  (turn:∀x,Q x->∀R:Loc->Lg->Prop,(∀y,f y<f x->Q y->R (L y) (G y))->Sm m (Ra R (L x) (G x) S)):Sm m S:=by
 with_unfolding_all exact(by
 obtain⟨t,body,p,Ad,k,l,H,rfl⟩:=OK e;exact UN Q f L G x0 h0 hl hH turn)
end
noncomputable def TM(S:AA):Option (Loc->Lg->Prop):=tN (VI some) S
theorem eF{Q:Loc->Lg->Prop}(e:TM S=some Q)(h:Q S.loc S.H):Sm m S:=by with_unfolding_all exact(mH (P:=λS=>Q S.loc S.H->Sm m S) e (λf k l H e=>Tt e λR e1 e h=>by subst e1;obtain rfl:=bg e;exact h) h)
theorem NU{P:Loc->Lg->Prop}{l':Loc}{H':Lg}(e:TM S=some P)(h:P l' H')(e1:S.loc=l')(e2:S.H=H'):Sm m S:=by with_unfolding_all exact(eF e (e1▸e2▸h))
end
section
variable{c:Cx}{m:Mx c}{S:AA}{i:Nat}
abbrev Mb(q:Nat)(S:AA)(f:V)(i:Nat)(o:O)(w:Bool):Prop:=(Qn S,AZ S.H q)=(some (f,.ref i),some ⟨i,o,w⟩)
theorem Xc{L:List Int}{w:Bool}(q:Nat)(e:Mb q S (.imm (.builtin "len")) i (.barr L) w)(hl:L.length<=1000000)(k:Sm m (AP (.int L.length) S)):Sm m S:=by with_unfolding_all exact(Lv (P:=λS=>AZ S.H q=some ⟨i,.barr L,w⟩->Sm m (AP (.int L.length) S)->Sm m S) (p1 e) (λ_ _ _ e k=>PH q e hl k) (p2 e) k)
theorem PG{L:List V}{w:Bool}(q:Nat)(e:Mb q S (.imm (.builtin "len")) i (.list L) w)(hl:L.length<=1000000)(k:Sm m (AP (.int L.length) S)):Sm m S:=by with_unfolding_all exact(Lv (P:=λS=>AZ S.H q=some ⟨i,.list L,w⟩->Sm m (AP (.int L.length) S)->Sm m S) (p1 e) (λ_ _ _ e k=>len_list q e hl k) (p2 e) k)
theorem oJ{L:List Int}{w:Bool}(q:Nat)(e:Mb q S (.imm (.type "bytes")) i (.list (L.map .int)) w)(ho:AY L)(hl:L.length<=1000000)(k:Sm m (AP (.bytes L) S)):Sm m S:=by with_unfolding_all exact(Lv (P:=λS=>AZ S.H q=some ⟨i,.list (L.map .int),w⟩->Sm m (AP (.bytes L) S)->Sm m S) (p1 e) (λ_ _ _ e k=>LZ q e ho hl k) (p2 e) k)
theorem oK{L:List Int}{w:Bool}(q:Nat)(e:Mb q S (.imm (.type "bytes")) i (.barr L) w)(hl:L.length<=1000000)(k:Sm m (AP (.bytes L) S)):Sm m S:=by with_unfolding_all exact(Lv (P:=λS=>AZ S.H q=some ⟨i,.barr L,w⟩->Sm m (AP (.bytes L) S)->Sm m S) (p1 e) (λ_ _ _ e k=>L7 q e hl k) (p2 e) k)
theorem UV{L:List Int}{a b:V}{x y:Option Int}{w:Bool}(q:Nat)(e:(YB S,AZ S.H q)=(some (b,.ref i,a),some ⟨i,.barr L,w⟩))(ha:EP a=some x)(hb:EP b=some y)(hl:L.length<=1000000)(k:∀n,A8 m S.H n->Sm m (push [(n,.barr (cut L x y))] (AP (.ref n) S))):Sm m S:=by with_unfolding_all exact(oE (P:=λS=>AZ S.H q=some ⟨i,.barr L,w⟩->(∀n,A8 m S.H n->Sm m (push [(n,.barr (cut L x y))] (AP (.ref n) S)))->Sm m S) (p1 e) (λ_ _ _ _ _ _ _ e k=>KV q e (FW ha) (FW hb) hl λn f=>BZ.mp (k n f)) (p2 e) k)
end
theorem PD{c:Cx}{K:List O->V->Prop}{body:List Stmt}{loc:Loc}(m:Mx c){H:Lg}{AE:List O}(I:Sg m H AE)(hk:∀H v Ae,m.R H v->St m.os0 m.U (Cc H) Ae->K Ae v)(hn:∀loc H,m.N loc H->m.R H .none)
  (h:Sem m (.xs body) [] loc H):Ex c.g c.F c.d body loc AE (λ_ os=>K os .none) K:=by
 have x:=h AE I;refine λA s ad L mm Q hr hs hf hq AT=>x A s ad L mm Q hr hs hf (λAe Ag loc' m' h' tk a f k=>?_) (λAe Ag v v' m' h' tk a b c k=>?_)
 ·obtain⟨H',I',q⟩:=k;exact hq Ae Ag loc' m' h' tk a f (hk _ _ _ (hn _ _ q) I'.st)
 ·obtain⟨H',I',q⟩:=k;exact AT Ae Ag v v' m' h' tk a b c (hk _ _ _ q I'.st)
theorem Sp{α:Type}{ok:α->Prop}{v:α->V}{N Ap:α->AW}{W:List Nat}{pre:AW}{args:List V}{dd:Nat}(c:Cx)(hc:∀C∈Fz,CK c.g C)(C:Addr)(H:Lg){body:List Stmt}(loc:Nat->Loc)
  (hx:∀os K,Ex c.g c.F c.d body (loc os.length) (os++[.inst C []]) (λ_ Ae=>V.none=.none/\K Ae (.ref os.length)) (λAe u=>u=.none/\K Ae (.ref os.length))->Az c.g dd (.imm (.ref C)) args os K) (hH:pre=Cc H) (hw:R9 H=W)
  (h:∀(m:Mx c)n,m.os0.length<=n->AllLt (Cc H) n->G0 m (λH' u=>u=.none/\FI m.os0 ok v N Ap H' (.ref n))->(∀loc H,m.R H .none->m.N loc H)->Sm m ⟨.xs body,[],loc n,⟨n,.inst C [],true⟩::H⟩):CF c.g dd C args W pre ok v N Ap:=by
 with_unfolding_all exact(λos K I hk=>by
 subst hH;refine hx os K (PD (K:=λAe u=>u=.none/\K Ae (.ref os.length)) (bN hc os W λH' u=>u=.none/\FI os ok v N Ap H' (.ref os.length)) (H:=⟨os.length,.inst C [],true⟩::H) ⟨I.push,λe he q=>?_⟩ (λ_ u Ae⟨e,x,a,b,hN,p⟩J=>⟨e,b▸hk x Ae a hN (J.pickS p)⟩) (λ_ _ q=>q) (h _ os.length (oU _) I.allLt (λ_ _ q=>q) λ_ _ q=>q));rcases cS.mp he with rfl|he
 ·exact .inr (oU _)
 ·exact .inl (hw▸Lo he q))
theorem JZ{g:Gl}(E:AM g)(i:Nat){d fI C:Nat}{args:List V}{W:List Nat}{pre:AW}{α:Type}{ok:α->Prop}{v:α->V}{N Ap:α->AW}(H:Lg)(hm:(C,fI)∈bO)
  (h:∀(m:Mx (cx E i d))n,m.os0.length<=n->AllLt (Cc H) n->G0 m (λH' u=>u=.none/\FI m.os0 ok v N Ap H' (.ref n))->(∀loc H,m.R H .none->m.N loc H)->Sm m ⟨.xs (ro i).body,[],Gk i (.ref n::args),⟨n,.inst C [],true⟩::H⟩) (e:Qe i (args.length+1) fI W pre H:=by kernel_rfl):CF g (d+2) C args W pre ok v N Ap:=by
 with_unfolding_all exact(have b:=bW (bW (bW (bW e).2).2).2
 Sp (cx E i d) (EV E) C H (λn=>Gk i (.ref n::args)) (λos K h=>eR E hm (TK E i (args:=.ref os.length::args) e _ _ h)) b.1.symm b.2 h)
noncomputable def Zy:AA->Bool
 |⟨x,_,_,_⟩=>(wE (UI λk v _=>Df (Df (some ()) v) k) x).isSome
noncomputable def dB(a:V):AA->AA
 |⟨_,k,l,H⟩=>⟨.r (.v a),k,l,H⟩
theorem nD{c:Cx}{m:Mx c}{S:AA}(o:O)(ho:It o)(e:Zy S=true)(s:∀n,A8 m S.H n->Sm m (push [(n,o)] (dB (.ref n) S))):Sm m S:=by
 with_unfolding_all exact((pf.mp e).elim λu e=>by
 obtain⟨x,fr,l,H⟩:=S;refine dA e λy e1 e=>OI e λk v p e2 e=>Fe e λe3 e=>Fe e λe4 e=>?_;subst e1 e2 e3 e4;exact RH o ho λn f=>BZ.mp (s n f))
theorem nB{c:Cx}{m:Mx c}{S:AA}{L:List Int}(e:Qn S=some (.imm (.type "bytearray"),.bytes L))(hl:L.length<=1000000)(s:∀n,A8 m S.H n->Sm m (push [(n,.barr L)] (AP (.ref n) S))):Sm m S:=by with_unfolding_all exact(Lv (P:=λS=>(∀n,A8 m S.H n->Sm m (push [(n,.barr L)] (AP (.ref n) S)))->Sm m S) e (λ_ _ _ s=>L8 hl λn f=>BZ.mp (s n f)) s)
section
variable{c:Cx}{m:Mx c}{k:List Fr}{loc:Loc}{H:Lg}{i:Nat}{w:Bool}{p:Pos}{args:List Expr}{v:V}
theorem Tw(q:Nat)(e:AZ H q=some ⟨i,.tdict ks,w⟩)(s:Sem m (.ls p args) (.l (.me2 "dict.get" (.ref i))::k) loc H):Sem m (.r (.v (.ref i))) (.v (.me1 p "get" args)::k) loc H:=λos I=>⟨_,PE (I.st.get (AD e)),Cd.mono (s os I) λos vs⟨H,I,x⟩=>x os I⟩
theorem PX{ks:List ((Int×List Int)×V)}{x:Int×List Int}(q:Nat)(e:AZ H q=some ⟨i,.tdict ks,w⟩)(hx:At x v ks\/(v=.none/\x∉ks.map (·.1)))(s:Sem m (.r (.v v)) k loc H):Sem m (.r (.l [.tup [.int x.1,.tup (x.2.map .int)]])) (.l (.me2 "dict.get" (.ref i))::k) loc H:=λos I=>Jq (I.st.get (AD e)) hx ⟨H,I,s⟩
theorem ZA{ks:List (Int×V)}(q:Nat)(e:AZ H q=some ⟨i,.idict ks,w⟩)(hx:(∃v,b=true/\At x v ks)\/(b=false/\x∉ks.map (·.1)))(s:Sem m (.r (.v (.bool b))) k loc H):Sem m (.r (.v (.ref i))) (.v (.cmp2 .In (.int x))::k) loc H:=λos I=>K9 (I.st.get (AD e)) hx ⟨H,I,s⟩
theorem PT{ks:List (Str×V)}(q:Nat)(e:AZ H q=some ⟨i,.sdict ks,w⟩)(hx:(∃v,b=true/\At x v ks)\/(b=false/\x∉ks.map (·.1)))(s:Sem m (.r (.v (.bool b))) k loc H):Sem m (.r (.v (.ref i))) (.v (.cmp2 .In (.str x))::k) loc H:=λos I=>K8 (I.st.get (AD e)) hx ⟨H,I,s⟩
theorem nK{S:AA}{L:List (Int×V)}(q:Nat)(e:Mb q S (.imm (.builtin "len")) i (.idict L) w)(hl:L.length<=1000000)(k:Sm m (AP (.int L.length) S)):Sm m S:=by with_unfolding_all exact(Lv (P:=λS=>AZ S.H q=some ⟨i,.idict L,w⟩->Sm m (AP (.int L.length) S)->Sm m S) (p1 e) (λ_ _ _ e k=>NG q e hl k) (p2 e) k)
end
theorem fJ{S:AA}{β:Type}(P:β->Prop)(L1:β->Loc)(G1:β->Lg)(e:JF S=true)(t1:∀Q:Loc->Lg->Prop,(∀x,P x->Q (L1 x) (G1 x))->Sm m (Ra Q S.loc S.H S))(t2:∀x,P x->∀Q:Loc->Lg->Prop,Sm m (Ra Q (L1 x) (G1 x) S)):Sm m S:=by
 with_unfolding_all exact(fW (α:=Option β) (λx=>∀y,x=some y->P y) (λx=>x.elim 1 λ_=>0) (λx=>x.elim S.loc L1) (λx=>x.elim S.H G1) none e (λ_ h=>nomatch h) rfl rfl λx hx Q next=>
  match x with
  |none=>t1 Q λy hy=>next (some y) (Nat.lt_succ_self 0) λ_ e=>bg e▸hy
  |some y=>t2 y (hx y rfl) Q)
section
variable{c:Cx}
noncomputable def cK(e:Expr):Option V:=UJ (λc _ _=>aO (λy=>some (.str y)) c <|>WA (λi=>some (.int i)) c) e <|>Q7 (λo a _=>Yp (UJ (λc _ _=>WA (λi=>some (.int (-i))) c) a) o) e
theorem iG{α:Type}{a b:Option α}{v:α}{Q:Prop}(e:(a <|>b)=some v)(h1:a=some v->Q)(h2:b=some v->Q):Q:=by
 induction a using il with
 |none=>exact h2 e
 |some x=>exact h1 e
theorem aP{e:Expr}{v:V}{loc:Loc}{os:List O}{K:List O->V->Prop}(h:cK e=some v)(k:K os v):Ev c e loc os K:=iG h
 (λh=>S8 h λa _ _ h1 h=>iG h (λh=>aM h λx h2 h3=>by obtain rfl:=bg h3;subst h1 h2;exact TP k) λh=>TW h λx h2 h3=>by obtain rfl:=bg h3;subst h1 h2;exact Qh k)
 λh=>S7 h λo a _ h1 h=>Yo h λh2 h=>S8 h λb _ _ h3 h=>TW h λi h4 h5=>by obtain rfl:=bg h5;subst h1 h2 h3 h4;exact Th (Qh ⟨i,rfl,k⟩)
noncomputable def TC:List (Option Expr)->Option (List V)
 |[]=>some []
 |some e::r=>(cK e).bind λv=>(TC r).map (v::·)
 |none::_=>none
noncomputable def Rp(m:Mx c)(loc:Loc)(fin:List V->Lg->Prop):List Expr->List V->Lg->V->Prop
 |[],acc,H,v=>fin (rv (v::acc) []) H
 |e::es,acc,H,v=>Sem (c:=c) ⟨m.os0,m.U,m.cls,Rp m loc fin es (v::acc),λ_ _=>False⟩ (.ev e) [] loc H
noncomputable def mP(m:Mx c)(loc:Loc)(fin:List V->Lg->Prop)(es:List Expr)(acc:List V):Mx c:=⟨m.os0,m.U,m.cls,Rp m loc fin es acc,λ_ _=>False⟩
theorem Zq{p:Pos}{loc:Loc}{k:Option Expr}{keys:List (Option Expr)}{e:Expr}{es:List Expr}{Ee:List V}{os:List O}{KP:List O->List (V×V)->Prop}(hk:TC (k::keys)=some Ee)(h:∀kv Q4,Ee=kv::Q4->TC keys=some Q4->Ev c e loc os λos v=>SI c.g c.F c.d p keys es loc os λos r=>KP os ((kv,v)::r)):SI c.g c.F c.d p (k::keys) (e::es) loc os KP:=by
 induction k using il with
 |none=>exact xO hk
 |some k=>exact bd hk λv h1 hk=>Xb hk λvs h2 h3=>VB (aP h1 (h v vs h3.symm h2))
theorem iz{m:Mx c}{loc:Loc}{fin:List V->Lg->Prop}{es:List Expr}{acc:List V}{H:Lg}{os:List O}(I:Sg (mP m loc fin es acc) H os):Sg m H os:=⟨I.st,I.own⟩
theorem iw{m:Mx c}{loc:Loc}{fin:List V->Lg->Prop}{es:List Expr}{acc:List V}{H:Lg}{os:List O}(I:Sg m H os):Sg (mP m loc fin es acc) H os:=⟨I.st,I.own⟩
theorem Tl{m:Mx c}{loc:Loc}{fin:List V->Lg->Prop}{p:Pos}{es:List Expr}:∀{e:Expr}{acc:List V}{keys:List (Option Expr)}{Ee:List V}{H:Lg}{os:List O},TC keys=some Ee->keys.length=es.length+1->Sem (mP m loc fin es acc) (.ev e) [] loc H->Sg m H os->
  SI c.g c.F c.d p keys (e::es) loc os λos ps=>∃vs H2,Sg m H2 os/\ps=Ee.zip vs/\vs.length=Ee.length/\fin (rv acc vs) H2:=by
 induction es with
 |nil=>
  intro e acc keys Ee H os hk hl s I;induction keys using cU with
  |nil=>exact nomatch hl
  |cons k keys=>obtain rfl:=rF.mp (sH hl);exact Zq hk λkv Q4 ek XB=>AG.mono (s os (iw I)) λos v w=>w.elim λH' w=>YX (by obtain rfl:=bg XB;subst ek;exact⟨[v],H',iz w.1,rfl,rfl,w.2⟩)
 |cons e2 es ih=>
  intro e acc keys Ee H os hk hl s I;induction keys using cU with
  |nil=>exact nomatch hl
  |cons k keys=>exact Zq hk λkv Q4 ek XB=>AG.mono (s os (iw I)) λos v w=>w.elim λH' w=>Cd.mono (ih (acc:=v::acc) XB (sH hl) w.2 (iz w.1)) λos ps⟨vs,H2,J,a,b,f⟩=>by subst ek;exact⟨v::vs,H2,J,by rw[a];rfl,gC (·+1) b,f⟩
def V8(m:Mx c)(k:List Fr)(loc:Loc)(n:Nat)(o0:O)(mk:List V->O)(vs:List V)(H:Lg):Prop:=∃q e,AZ H q=some e/\e.i=n/\e.o=o0/\e.w=true/\Sem m (.r (.v (.ref n))) k loc (CB q (mk vs) H [])
noncomputable def KQ:List V->Option (List Str)
 |[]=>some []
 |v::r=>vS (λx=>(KQ r).map (x::·)) v
noncomputable def Lk:List V->Option (List Int)
 |[]=>some []
 |v::r=>vI (λx=>(Lk r).map (x::·)) v
theorem Hh:∀{l:List V}{xs:List Str},KQ l=some xs->l=xs.map .str
 |[],_,h=>by obtain rfl:=bg h;rfl
 |v::r,_,h=>dC h λx h1 h=>Xb h λys h2 h3=>by subst h3;rw[h1,Hh h2];rfl
theorem Hz:∀{l:List V}{xs:List Int},Lk l=some xs->l=xs.map .int
 |[],_,h=>by obtain rfl:=bg h;rfl
 |v::r,_,h=>dD h λx h1 h=>Xb h λys h2 h3=>by subst h3;rw[h1,Hz h2];rfl
variable{γ:Type}
noncomputable def au(g:List V->Expr->List Expr->Option γ)(ks:List (Option Expr))(es:List Expr):Option γ:=GZ (λk keys=>GZ (λe es=>gb (Nat.beq keys.length es.length) (gb (Nat.ble keys.length 14) ((TC (k::keys)).bind λEe=>g Ee e es))) es) ks
noncomputable def TQ:AA->Option (List V×Expr×List Expr×List Fr×Loc)
 |⟨x,fr,loc,_⟩=>wE (UI λks es _=>au (λEe e es=>some (Ee,e,es,fr,loc)) ks es) x
theorem GF:∀{l:List (Option Expr)}{Ee:List V},TC l=some Ee->l.all (·.isSome)=true
 |[],_,_=>rfl
 |none::_,_,h=>nomatch h
 |some _::l,_,h=>bd h λ_ _ h=>Xb h λ_ h2 _=>by show(true&&_)=true;rw[GF h2];rfl
theorem H5:∀{l:List (Option Expr)}{Ee:List V},TC l=some Ee->Ee.length=l.length
 |[],_,h=>by obtain rfl:=bg h;rfl
 |none::_,_,h=>nomatch h
 |some _::l,_,h=>bd h λ_ _ h=>Xb h λ_ h2 h3=>by subst h3;exact gC (·+1) (H5 h2)
theorem TR{g:List V->Expr->List Expr->Option γ}{z:γ}{Q:Prop}{keys:List (Option Expr)}{bz:List Expr}(h:au g keys bz=some z)(k:∀Ee e es,bz=e::es->TC keys=some Ee->keys.length=es.length+1->keys.length<=15->keys≠[]->g Ee e es=some z->Q):Q:=H6 h λx io e1 h=>H6 h λe es e2 h=>V4 h λh1 h=>V4 h λh2 h=>bd h λEe h3 h9=>by subst e1 e2;exact k Ee e es rfl h3 (gC (·+1) (oW h1)) (Nat.succ_le_succ (oX h2)) (List.cons_ne_nil _ _) h9
variable{m:Mx c}{S:AA}
noncomputable def iJ(x:CP)(k:List Fr)(loc:Loc):AA->AA
 |⟨_,_,_,H⟩=>⟨x,k,loc,H⟩
noncomputable def nr(x:CP)(k:List Fr)(loc:Loc)(q:Nat)(o:O):AA->AA
 |⟨_,_,_,H⟩=>⟨x,k,loc,CB q o H []⟩
noncomputable def iI(x:CP)(k:List Fr):AA->AA
 |⟨_,_,l,H⟩=>⟨x,k,l,H⟩
noncomputable def Pq(x:CP)(k:List Fr)(q:Nat)(o:O):AA->AA
 |⟨_,_,l,H⟩=>⟨x,k,l,CB q o H []⟩
noncomputable def ar(e:Expr)(n:Nat)(o:O):AA->AA
 |⟨_,_,l,H⟩=>⟨.ev e,[],l,⟨n,o,true⟩::H⟩
theorem X9:∀{xs:List Str}{vs:List V},(xs.map V.str).zip vs=(xs.zip vs).map λq=>(.str q.1,q.2)
 |[],_=>rfl
 |_::_,[]=>rfl
 |_::xs,_::vs=>gC (_::·) (X9 (xs:=xs) (vs:=vs))
theorem Yb:∀{xs:List Int}{vs:List V},(xs.map V.int).zip vs=(xs.zip vs).map λq=>(.int q.1,q.2)
 |[],_=>rfl
 |_::_,[]=>rfl
 |_::xs,_::vs=>gC (_::·) (Yb (xs:=xs) (vs:=vs))
theorem UA{α β:Type}:∀{xs:List α}{vs:List β},vs.length=xs.length->(xs.zip vs).map (·.1)=xs
 |[],_,_=>by simp
 |_::_,[],h=>nomatch h
 |x::xs,_::vs,h=>gC (x::·) (UA (sH h))
theorem nS(xs:List Str)(e0:Expr)(es:List Expr){fr:List Fr}{loc:Loc}(Ee:List V)(e:TQ S=some (Ee,e0,es,fr,loc))(ek:KQ Ee=some xs)(hn:xs.Nodup)(h:∀n,A8 m S.H n->Sm (mP m loc (V8 m fr loc n (.sdict []) λvs=>.sdict (xs.zip vs)) es []) (ar e0 n (.sdict []) S)):Sm m S:=by
 with_unfolding_all exact(by
 obtain⟨x,Om,loc',H⟩:=S;refine dA e λy e1 e=>OI e λkeys bz p e2 e=>TR e λkv e' HK a1 a2 a3 a4 a5 e9=>?_;cases e9;subst e1 e2 a1;refine λos I=>Se (Cd.mono (Tl a2 a3 (h os.length ⟨I.st.len,I.st.allLt⟩) (HM I I.st.len I.st.push)) λBM ps w=>jG λDL=>?_) (GF a2) a3 a5 a4;obtain⟨vs,H2,I2,a,b,q,e,e1,e2,e3,e4,s⟩:=w;refine(IZ I2 (o:=.sdict (xs.zip vs)) e1 e4).elim λH3 w=>?_;have ek:=Hh ek;have hv:vs.length=xs.length:=by rw[b,ek,gI]
 have hz:(xs.zip vs).map (·.1)=xs:=UA hv;rw[e2,e3] at w;exact DL ⟨xs.zip vs,by rw[a,ek,X9],I2.st.get w.2.2.1,hz.symm▸hn,by have:=H5 a2;rw[ek,gI] at this;rw[List.length_zip,hv,Nat.min_self];exact L2 [_,_] [] 0x101082f0e420208c82c80041 a4 this,_,w.2.2.2 _ (I2.st.set w.1 w.2.1),s⟩)
theorem nI(xs:List Int)(e0:Expr)(es:List Expr){fr:List Fr}{loc:Loc}(Ee:List V)(e:TQ S=some (Ee,e0,es,fr,loc))(ek:Lk Ee=some xs)(hn:xs.Nodup)(h:∀n,A8 m S.H n->Sm (mP m loc (V8 m fr loc n (.idict []) λvs=>.idict (xs.zip vs)) es []) (ar e0 n (.idict []) S)):Sm m S:=by
 with_unfolding_all exact(by
 obtain⟨x,Om,loc',H⟩:=S;refine dA e λy e1 e=>OI e λkeys bz p e2 e=>TR e λkv e' HK a1 a2 a3 a4 a5 e9=>?_;cases e9;subst e1 e2 a1;refine λos I=>Sh (Cd.mono (Tl a2 a3 (h os.length ⟨I.st.len,I.st.allLt⟩) (HM I I.st.len I.st.push)) λBM ps w=>jG λDL=>?_) (GF a2) a3 a5 a4;obtain⟨vs,H2,I2,a,b,q,e,e1,e2,e3,e4,s⟩:=w;refine(IZ I2 (o:=.idict (xs.zip vs)) e1 e4).elim λH3 w=>?_;have ek:=Hz ek;have hv:vs.length=xs.length:=by rw[b,ek,gI]
 have hz:(xs.zip vs).map (·.1)=xs:=UA hv;rw[e2,e3] at w;exact DL ⟨xs.zip vs,by rw[a,ek,Yb],I2.st.get w.2.2.1,hz.symm▸hn,by have:=H5 a2;rw[ek,gI] at this;rw[List.length_zip,hv,Nat.min_self];exact L2 [_,_] [] 0x101082f0e420208c82c80041 a4 this,_,w.2.2.2 _ (I2.st.set w.1 w.2.1),s⟩)
noncomputable def Mw:AA->Option V
 |⟨x,[],_,_⟩=>wR (rV some) x
 |_=>none
theorem KX{v:V}(e:Mw S=some v)(h:m.R S.H v):Sm m S:=by
 with_unfolding_all exact(by
 obtain⟨x,fr,l,H⟩:=S;induction fr using cU with
 |nil=>exact W2 e λr e1 e=>dY e λa e2 e=>by obtain rfl:=bg e;subst e1 e2;exact h
 |cons _ _=>exact xO e)
theorem nC{loc:Loc}{fin:List V->Lg->Prop}{e:Expr}{es:List Expr}{acc:List V}{v:V}(hr:Mw S=some v)(h:Sm (mP m loc fin es (v::acc)) (iJ (.ev e) [] loc S)):Sm (mP m loc fin (e::es) acc) S:=by with_unfolding_all exact(KX hr h)
theorem nE{loc:Loc}{n:Nat}{o0 o:O}{mk:List V->O}{k:List Fr}{acc:List V}{v:V}(q:Nat)(hr:Mw S=some v)(e:AZ S.H q=some ⟨n,o0,true⟩)(eo:mk (rv (v::acc) [])=o)(h:Sm m (nr (.r (.v (.ref n))) k loc q o S)):Sm (mP m loc (V8 m k loc n o0 mk) [] acc) S:=by with_unfolding_all exact(KX hr ⟨q,_,e,rfl,rfl,rfl,eo▸h⟩)
end
section
variable{c:Cx}{m:Mx c}{S:AA}
noncomputable def GI(m:Mx c)(t:Expr)(body Ad:List Stmt)(k:List Fr)(q i:Nat)(ks:List (Int×V))(ep:Nat):List (Int×V)->Loc->Lg->Prop
 |[],loc,H=>AZ H q=some ⟨i,.idictE ks ep,true⟩/\Sem m (.xs Ad) k loc (CB q (.idict ks) H [])
 |(x,_)::r,loc,H=>AZ H q=some ⟨i,.idictE ks ep,true⟩/\Sem m (.r .n) [.n (.one t body (.int x)),.n (.fin (GI m t body Ad k q i ks ep r))] loc H
noncomputable def MQ:AA->Option (Expr×Expr×List Stmt×List Stmt×List Fr×Loc×Bool)
 |⟨x,fr,loc,_⟩=>wX (GZ λs Ad=>Np (λt it body WV _=>Df (some (t,it,body,Ad,fr,loc,QJ it)) WV) s) x
theorem V6{t it:Expr}{body Ad:List Stmt}{fr:List Fr}{loc:Loc}{b:Bool}(e:MQ S=some (t,it,body,Ad,fr,loc,b)):∃p H,S=⟨.xs (.For t it body [] p::Ad),fr,loc,H⟩/\QJ it=b:=by obtain⟨x,Om,loc',H⟩:=S;refine iq e λss e1 e=>H6 e λs r e2 e=>Td e λt' i' b' o p e3 e=>Fe e λe4 e=>?_;have e:=bg e;have f:=p2 e;have g:=p2 f;have h:=p2 g;have i:=p2 h;have j:=p2 i;exact⟨p,H,by rw[e1,e2,e3,e4,p1 e,p1 f,p1 g,p1 h,p1 i,p1 j],p1 f▸p2 j⟩
theorem gg{P:AA->Prop}{t it:Expr}{body Ad:List Stmt}{fr:List Fr}{loc:Loc}{b:Bool}(e:MQ S=some (t,it,body,Ad,fr,loc,b))(h:∀p H,QJ it=b->P ⟨.xs (.For t it body [] p::Ad),fr,loc,H⟩):P S:=(V6 e).elim λp w=>w.elim λH w=>w.1▸h p H w.2
noncomputable def mK(m:Mx c)(t:Expr)(body Ad:List Stmt)(k:List Fr)(q i:Nat)(ks:List (Int×V))(ep:Nat)(loc:Loc):Mx c:=⟨m.os0,m.U,m.cls,λH v=>v=.ref i/\GI m t body Ad k q i ks ep ks loc H,λ_ _=>False⟩
theorem Lj{t:Expr}{body Ad:List Stmt}{k:List Fr}{q i:Nat}{ks:List (Int×V)}{ep:Nat}{r:List (Int×V)}{loc:Loc}{H:Lg}(h:GI m t body Ad k q i ks ep r loc H):AZ H q=some ⟨i,.idictE ks ep,true⟩:=by
 induction r using cU with
 |nil=>exact h.1
 |cons x r=>exact h.1
theorem fK{t it:Expr}{body Ad:List Stmt}{i:Nat}{ks:List (Int×V)}{fr:List Fr}{loc:Loc}(q:Nat)(e:(MQ S,AZ S.H q)=(some (t,it,body,Ad,fr,loc,true),some ⟨i,.idict ks,true⟩))(h:∀ep,Sm (mK m t body Ad fr q i ks ep loc) (Pq (.ev it) [] q (.idictE ks ep) S)):Sm m S:=by
 with_unfolding_all exact(gg (P:=λS=>AZ S.H q=some ⟨i,.idict ks,true⟩->(∀ep,Sm (mK m t body Ad fr q i ks ep loc) (Pq (.ev it) [] q (.idictE ks ep) S))->Sm m S) (p1 e) (λp H hi en h=>by
  refine λos I=>Bm (Fs.epoch (I.st.get (AD en)) λep=>Pc ?_ hi);refine(IZ I (o:=.idictE ks ep) en rfl).elim λH3 w=>?_;have J:=w.2.2.2 _ (I.st.set w.1 w.2.1);refine AG.mono (h ep _ ⟨J.st,J.own⟩) λBM v⟨H2,I2,ev,kk⟩=>?_;subst ev;have I2:Sg m H2 BM:=⟨I2.st,I2.own⟩;refine⟨TA c.g c.d i ks.length ep,ks.length,λn loc os=>∃H,Sg m H os/\GI m _ _ _ _ q i ks ep (ks.drop n) loc H,K3 (I2.st.get (AD (Lj kk))),⟨H2,I2,kk⟩,?_,?_⟩
  ·rintro n loc os hn ⟨H,I,kk⟩;have ho:=I.st.get (AD (Lj kk));rw[<-List.getElem_cons_drop (h:=hn)] at kk;obtain⟨Am,a,b⟩:=kk.2 os I;exact⟨.int (ks[n]).1,Am,⟨ks,ho,rfl,by rw[cQ hn];rfl⟩,a,Xs.mono b λloc os⟨H,I,k⟩=>⟨H,I,k⟩⟩
  ·rintro loc os ⟨H,I,kk⟩;have ho:=I.st.get (AD (Lj kk));rw[List.drop_length] at kk;refine(IZ I (o:=.idict ks) kk.1 rfl).elim λH3 w=>?_;exact⟨⟨ks,ho,rfl,by simp⟩,Ex.epochless ho (kk.2 _ (w.2.2.2 _ (I.st.set w.1 w.2.1)))⟩) (p2 e) h)
noncomputable def fD(B:List Stmt)(j:Nat):Option (Expr×Expr×List Stmt×List Stmt):=GZ (λs Ad=>Np (λt it body WV _=>Df (some (t,it,body,Ad)) WV) s) (B.drop j)
noncomputable def R8(B:List Stmt)(j:Nat):Expr×Expr×List Stmt×List Stmt:=(fD B j).getD (.Constant .none 0 ⟨0,0,0,0⟩,.Constant .none 0 ⟨0,0,0,0⟩,[],[])
noncomputable def fT(B:List Stmt)(j:Nat):Expr:=(R8 B j).1
noncomputable def fI(B:List Stmt)(j:Nat):Expr:=(R8 B j).2.1
noncomputable def fY(B:List Stmt)(j:Nat):List Stmt:=(R8 B j).2.2.1
noncomputable def Xg(B:List Stmt)(j:Nat):List Stmt:=(R8 B j).2.2.2
theorem bT(q j:Nat)(B:List Stmt)(i:Nat)(ks:List (Int×V))(e:(MQ S,AZ S.H q)=(some (fT B j,fI B j,fY B j,Xg B j,S.fr,S.loc,true),some ⟨i,.idict ks,true⟩))(h:∀ep,Sm (mK m (fT B j) (fY B j) (Xg B j) S.fr q i ks ep S.loc) (Pq (.ev (fI B j)) [] q (.idictE ks ep) S)):Sm m S:=by with_unfolding_all exact(fK q e h)
theorem kV{t:Expr}{body Ad:List Stmt}{k:List Fr}{q i:Nat}{ks:List (Int×V)}{ep:Nat}{loc:Loc}{x:Int}{v:V}{r:List (Int×V)}(lP:ks=(x,v)::r)(hr:Mw S=some (.ref i))(e:AZ S.H q=some ⟨i,.idictE ks ep,true⟩)(h:Sm m (iJ (.r .n) [.n (.one t body (.int x)),.n (.fin (GI m t body Ad k q i ks ep r))] loc S)):Sm (mK m t body Ad k q i ks ep loc) S:=by with_unfolding_all exact(KX hr ⟨rfl,by subst lP;exact⟨e,h⟩⟩)
noncomputable def Qb:AA->Option (Loc->Lg->Prop)
 |⟨x,[f],_,_⟩=>wR (rN (hN (VI some) f)) x
 |_=>none
theorem P9{Q:Loc->Lg->Prop}(e:Qb S=some Q)(h:Q S.loc S.H):Sm m S:=by
 with_unfolding_all exact(by
 obtain⟨x,fr,l,H⟩:=S;induction fr using cU with
 |nil=>exact xO e
 |cons f fr=>induction fr using cU with
  |cons _ _=>exact xO e
  |nil=>exact W2 e λr e1 e=>d4 e λe2 e=>og e λf e3 e=>Tt e λR e4 e=>by obtain rfl:=bg e;subst e1 e2 e3 e4;exact h)
theorem kN{t:Expr}{body Ad:List Stmt}{k:List Fr}{q i:Nat}{ks:List (Int×V)}{ep:Nat}{x:Int}{v:V}{r:List (Int×V)}(hr:Qb S=some (GI m t body Ad k q i ks ep ((x,v)::r)))(e:AZ S.H q=some ⟨i,.idictE ks ep,true⟩)(h:Sm m (iI (.r .n) [.n (.one t body (.int x)),.n (.fin (GI m t body Ad k q i ks ep r))] S)):Sm m S:=by with_unfolding_all exact(P9 hr ⟨e,h⟩)
theorem kE{t:Expr}{body Ad:List Stmt}{k:List Fr}{q i:Nat}{ks:List (Int×V)}{ep:Nat}(hr:Qb S=some (GI m t body Ad k q i ks ep []))(e:AZ S.H q=some ⟨i,.idictE ks ep,true⟩)(h:Sm m (Pq (.xs Ad) k q (.idict ks) S)):Sm m S:=by with_unfolding_all exact(P9 hr ⟨e,h⟩)
theorem nW(q j:Nat)(B:List Stmt)(k:List Fr)(i:Nat)(ks:List (Int×V))(ep:Nat)(x:Int)(v:V)(r:List (Int×V))(e:(Qb S,AZ S.H q)=(some (GI m (fT B j) (fY B j) (Xg B j) k q i ks ep ((x,v)::r)),some ⟨i,.idictE ks ep,true⟩))(h:Sm m (iI (.r .n) [.n (.one (fT B j) (fY B j) (.int x)),.n (.fin (GI m (fT B j) (fY B j) (Xg B j) k q i ks ep r))] S)):Sm m S:=by with_unfolding_all exact(kN (p1 e) (p2 e) h)
theorem bQ(q j:Nat)(B:List Stmt)(k:List Fr)(i:Nat)(ks:List (Int×V))(ep:Nat)(e:(Qb S,AZ S.H q)=(some (GI m (fT B j) (fY B j) (Xg B j) k q i ks ep []),some ⟨i,.idictE ks ep,true⟩))(h:Sm m (Pq (.xs (Xg B j)) k q (.idict ks) S)):Sm m S:=by with_unfolding_all exact(kE (p1 e) (p2 e) h)
theorem sE{ep:Nat}{ks:List (Int×V)}{x:Int}{v:V}(e:Mt S=some (.idictE ks ep,.int x))(hx:At x v ks)(h:Sm m (AP v S)):Sm m S:=by with_unfolding_all exact(Ws (P:=λS=>Sm m (AP v S)->Sm m S) e (λy acc rest l r k loc H q hp h hH os I=>by rw[hH] at I;exact HS (q▸I.st.get I.at) hx ⟨_,I,hH▸h⟩ hp) h)
end
theorem Bo{os:List O}{α:Type}{ok:α->Prop}{v:α->V}{N Ap:α->AW}{H:Lg}{u:V}(x:α)(ns:List Nat)(e:(pk ns H,GQ ns)=(some (N x++Ap x),true))(hN:∀y∈N x,os.length<=y.1)(ho:ok x)(ev:u=v x):FI os ok v N Ap H u:=⟨x,ho,ev,hN,CW.of (Dp (bW e).1) (bW e).2⟩
theorem bM{x:Int}{l:List Int}(h:l.elem x=false):x∉l:=λq=>by rw[List.elem_eq_true_of_mem q] at h;exact Yk h
noncomputable def VA:List Nat->Lg->Option Lg
 |[],_=>some []
 |n::ns,H=>match AZ H n with
  |some e=>(match VA ns H with
   |some D=>some (e::D)
   |none=>none)
  |none=>none
theorem Pn:∀{ns:List Nat}{H G:Lg},VA ns H=some G->Dd ns (Cc G) (Cc H)/\∀e∈G,e∈H
 |[],_,_,h=>by obtain rfl:=bg h;exact⟨.nil,λ_ h=>nomatch h⟩
 |n::ns,H,G,h=>by
  unfold VA at h;split at h
  ·rename_i e e1;split at h
   ·rename_i D e2;obtain rfl:=bg h;obtain⟨a,b⟩:=Pn e2;refine⟨.cons ?_ a,λx hx=>(cS.mp hx).elim (λq=>q▸bG (D7 e1)) (b x)⟩;show(Cc H)[n]? =_;unfold Cc;rw[oV,D7 e1];rfl
   ·exact xO h
  ·exact xO h
abbrev E2(ns:List Nat)(H G:Lg):Prop:=(VA ns H,GQ ns)=(some G,true)
section
variable{c:Cx}{m:Mx c}{S:AA}
theorem Sg.pk{ns:List Nat}{H G:Lg}{os:List O}(I:Sg m H os)(h:E2 ns H G):Sg m G os:=
 let⟨h1,h2⟩:=bW h;let⟨a,b⟩:=Pn h1
 ⟨I.st.sel a h2,λe he=>I.own e (b e he)⟩
section
variable{α:Type}
theorem fO(N:Nat)(P:Nat->α->Prop)(L:Nat->α->Loc)(G:Nat->α->Lg)(x0:α)(SP:List Nat)(e:JM S=some (.imm (.type "range"),[.int n]))(h0:P 0 x0)(hl:S.loc=L 0 x0)(hH:E2 SP S.H (G 0 x0))(hN:Builtin.Range.rangeSize 0 n 1=N)(hs:Builtin.Range.small 0 n 1=true)
  (turn:∀j x,j<N->P j x->∀Q:Loc->Lg->Prop,(∀y ns H',P (j+1) y->E2 ns H' (G (j+1) y)->Q (L (j+1) y) H')->Sm m (IS (.int (0+j*1)) Q (L j x) (G j x) S))
  (done:∀x,P N x->Sm m (JX (L N x) (G N x) S)):Sm m S:=by
 with_unfolding_all exact(by
 obtain⟨t,body,Ad,k,l,H,rfl⟩:=Ln e;exact λos I=>Gs (KA:=bL m (Mine.I m k) l t body Ad) ⟨N,λj l os=>∃x,P j x/\l=L j x/\Sg m (G j x) os,hN,hs,⟨x0,h0,hl,I.pk hH⟩,λj l os hj⟨x,p,e,I⟩=>by subst e;obtain⟨l1,b,z⟩:=turn j x hj p (λl' G'=>∃y ns,P (j+1) y/\l'=L (j+1) y/\E2 ns G' (G (j+1) y)) (λy ns H' q r=>⟨y,ns,q,rfl,r⟩) os I;exact⟨l1,b,Xs.mono z λl os⟨G',I',y,ns,q,e1,e2⟩=>⟨y,q,e1,I'.pk e2⟩⟩,λl os⟨x,p,e,I⟩=>by subst e;exact done x p os I⟩)
theorem oq(vs:List V)(q:Nat)(P:Nat->α->Prop)(L:Nat->α->Loc)(G:Nat->α->Lg)(x0:α)(SP:List Nat)(e:MP S=some (.ref i))(hq:∀n x,∃w,AZ (G n x) q=some ⟨i,.list vs,w⟩)(h0:P 0 x0)(hl:S.loc=L 0 x0)(hH:E2 SP S.H (G 0 x0))
  (turn:∀j(u:V)x,vs[j]? =some u->P j x->∀Q:Loc->Lg->Prop,(∀y ns H',P (j+1) y->E2 ns H' (G (j+1) y)->Q (L (j+1) y) H')->Sm m (IS u Q (L j x) (G j x) S))
  (done:∀x,P vs.length x->Sm m (JX (L vs.length x) (G vs.length x) S)):Sm m S:=by
 with_unfolding_all exact(by
 obtain⟨t,body,Ad,k,l,H,rfl⟩:=P6 e;exact λos I=>⟨Hu c.g c.d i,vs.length,λj l os=>∃x,P j x/\l=L j x/\Sg m (G j x) os,(let⟨_,h⟩:=hq 0 x0;D6 ((I.pk hH).st.get (AD h))),⟨x0,h0,hl,I.pk hH⟩,λj l os hj⟨x,p,e,I⟩=>by
   subst e;have hv:vs[j]? =some vs[j]:=cQ hj;obtain⟨l1,b,z⟩:=turn j vs[j] x hv p (λl' G'=>∃y ns,P (j+1) y/\l'=L (j+1) y/\E2 ns G' (G (j+1) y)) (λy ns H' q r=>⟨y,ns,q,rfl,r⟩) os I;obtain⟨_,h⟩:=hq j x;exact⟨_,l1,⟨vs,I.st.get (AD h),hv⟩,b,Xs.mono z λl os⟨G',I',y,ns,q,e1,e2⟩=>⟨y,q,e1,I'.pk e2⟩⟩,λl os⟨x,p,e,I⟩=>by
   subst e;obtain⟨_,h⟩:=hq vs.length x;exact⟨⟨vs,I.st.get (AD h),by simp⟩,done x p os I⟩⟩)
theorem om(P:α->Prop)(f:α->Nat)(L:α->Loc)(G:α->Lg)(x0:α)(SP:List Nat)(e:JF S=true)(h0:P x0)(hl:S.loc=L x0)(hH:E2 SP S.H (G x0))
  (turn:∀x,P x->∀Q:Loc->Lg->Prop,(∀y ns H',f y<f x->P y->E2 ns H' (G y)->Q (L y) H')->Sm m (Ra Q (L x) (G x) S)):Sm m S:=by
 with_unfolding_all exact(by
 obtain⟨Cz,body,p,Ad,k,l,H,rfl⟩:=OK e;exact λos I=>Bm (I7 (f x0) (λn l os=>∃x,f x=n/\P x/\l=L x/\Sg m (G x) os) ⟨x0,rfl,h0,hl,I.pk hH⟩ λn l os⟨x,en,p,e,I⟩=>by subst e en;have z:Ir c.g c.F c.d Cz (L x) os (cB m (Mine.I m (.b (.whl (λl' G'=>∃y ns,f y<f x/\P y/\l'=L y/\E2 ns G' (G y)) body Ad)::k)) (L x)):=turn x p _ (λy ns H' a b h=>⟨y,ns,a,b,rfl,h⟩) os I;exact Cd.mono z λos b⟨H,I,q⟩=>⟨λe=>Xs.mono ((q os I).1 e) λl os⟨G',I,y,ns,a,b,e1,e2⟩=>⟨_,a,y,rfl,b,e1,I.pk e2⟩,λe=>(q os I).2 e⟩))
end
end
section
variable{c:Cx}{m:Mx c}{k:List Fr}{loc:Loc}{H:Lg}{Ad:List Stmt}{S:AA}
section
variable{β:Type}{P:β->Prop}{L1:β->Loc}{G1:β->Lg}
noncomputable def jc(m:Mx c)(P:β->Prop)(L1:β->Loc)(G1:β->Lg):Mx c:=⟨m.os0,m.U,m.cls,m.R,λl H=>∃y ns,P y/\l=L1 y/\E2 ns H (G1 y)⟩
theorem VV(s:∀y,P y->Sem m (.xs Ad) k (L1 y) (G1 y))(h:Mine.I (jc m P L1 G1) [.b (.jif b o)] Am (.b t) H1):Mine.I m (.b (.sif b o Ad)::k) Am (.b t) H1:=λos I=>by
 have x:=h os ⟨I.st,I.own⟩;have conv:∀{b:List Stmt},Xs c b Am os (cN (jc m P L1 G1) (Mine.I (jc m P L1 G1) [])) (cR (jc m P L1 G1))->Xs c b Am os (kX c Ad (cN m (Mine.I m k)) (cR m)) (cR m):=λ{b}x A s' ad L mm Q hr hs hf hn AT=>x A s' ad L mm Q hr hs hf (λAe Ag l m' h' tk a f⟨H',I',y,ns,hP,e1,e2⟩=>hn Ae Ag l m' h' tk a f (e1▸s y hP Ae (Sg.pk ⟨I'.st,I'.own⟩ e2))) (λAe Ag v v' m' h' tk a b c⟨H',I',q⟩=>AT Ae Ag v v' m' h' tk a b c ⟨H',⟨I'.st,I'.own⟩,q⟩)
 exact⟨λe=>conv (x.1 e),λe=>conv (x.2 e)⟩
abbrev QF(m m':Mx c)(P:β->Prop)(L1:β->Loc)(G1:β->Lg):Prop:=(∀y ns H',P y->E2 ns H' (G1 y)->m'.N (L1 y) H')/\(∀H v,m.R H v->m'.R H v)/\m'.os0=m.os0
theorem RM:QF m (jc m P L1 G1) P L1 G1:=⟨λy ns _ p q=>⟨y,ns,p,rfl,q⟩,λ_ _ q=>q,rfl⟩
noncomputable def Ts(l:Loc)(H:Lg):AA->AA
 |⟨_,.b (.sif _ _ Ad)::k,_,_⟩=>⟨.xs Ad,k,l,H⟩
 |⟨_,_::.b (.sif _ _ Ad)::k,_,_⟩=>⟨.xs Ad,k,l,H⟩
 |S=>S
theorem jC(Q:β->Prop)(L1:β->Loc)(G1:β->Lg)(e:MJ S=true)(h:∀m':Mx c,QF m m' Q L1 G1->Sm m' (Fy S))(k:∀y,Q y->Sm m (Ts (L1 y) (G1 y) S)):Sm m S:=by with_unfolding_all exact(Xd e λb e=>Wr (P:=λS=>(∀m':Mx c,QF m m' Q L1 G1->Sm m' (Fy S))->(∀y,Q y->Sm m (Ts (L1 y) (G1 y) S))->Sm m S) e (λ_ _ _ _ _ _ h k=>VV k (h _ RM)) h k)
end
noncomputable def VX(ns:List Nat):AA->Bool
 |⟨.xs _,_,_,H⟩=>match VA ns H with
  |some _=>GQ ns
  |none=>false
 |_=>false
noncomputable def TB(ns:List Nat):AA->AA
 |⟨x,k,l,H⟩=>match VA ns H with
  |some G=>⟨x,k,l,G⟩
  |none=>⟨x,k,l,H⟩
theorem kP(ns:List Nat)(e:VX ns S=true)(h:Sm m (TB ns S)):Sm m S:=by
 with_unfolding_all exact(by
 obtain⟨x,k,l,H⟩:=S;induction x using Mine.CP.casesOn with
 |xs ss=>
  induction q:VA ns H using il with
  |none=>simp only[VX,q] at e;exact xB e
  |some G=>simp only[VX,q] at e;simp only[TB,q] at h;exact λos I=>h os (I.pk (by show(_,_)=_;rw[q,e]))
 |_=>exact xB e)
end
noncomputable def OL:Nat->V->Loc->Loc
 |_,_,[]=>[]
 |0,v,_::r=>some v::r
 |n+1,v,x::r=>x::OL n v r
abbrev QE{c:Cx}(m m':Mx c)(i:Nat)(v:V)(l0:Loc)(H0:Lg):Prop:=(∀l H' u,(l,H')=(OL i u l0,H0)->u=v->m'.N l H')/\(∀H v,m.R H v->m'.R H v)
section
variable{c:Cx}{m:Mx c}{S:AA}{k:List Fr}{loc:Loc}{H:Lg}{Ad:List Stmt}
noncomputable def Tr(i:Nat)(v:V):AA->AA
 |⟨_,.b (.sif _ _ Ad)::k,l,H⟩=>⟨.xs Ad,k,OL i v l,H⟩
 |⟨_,_::.b (.sif _ _ Ad)::k,l,H⟩=>⟨.xs Ad,k,OL i v l,H⟩
 |S=>S
theorem RL:QE m (jn m True (OL i v l0) H0) i v l0 H0:=⟨λ_ _ _ e q=>⟨trivial,q▸(bW e).1,0,(bW e).2⟩,λ_ _ q=>q⟩
theorem RK{P:Prop}(h:Sem (jn m P DP H0) (.r (.b t)) [.b (.tand es),.b (.jif b o)] loc H)(s:P->Sem m (.xs Ad) k DP H0):Sem m (.r (.b t)) (.b (.tand es)::.b (.sif b o Ad)::k) loc H:=λos I=>by have x:=h os ⟨I.st,I.own⟩;have mono:∀os t,cB (jn m P DP H0) (Mine.I (jn m P DP H0) [.b (.jif b o)]) loc os t->cB m (Mine.I m (.b (.sif b o Ad)::k)) loc os t:=λos t⟨H',I',q⟩=>⟨H',⟨I'.st,I'.own⟩,PQ s q⟩;have x1:t=true->Hf c.g c.F c.d .And es loc os (cB (jn m P DP H0) (Mine.I (jn m P DP H0) [.b (.jif b o)]) loc):=x.1;exact⟨λe=>Cd.mono (x1 e) mono,λe=>mono _ _ (x.2 e)⟩
theorem iY(i:Nat)(v:V)(e:Zv S=true)(h:∀m':Mx c,QE m m' i v S.loc S.H->Sm m' (Fy S))(k:Sm m (Tr i v S)):Sm m S:=by with_unfolding_all exact(Xd e λb e=>jm (P:=λS=>(∀m':Mx c,QE m m' i v S.loc S.H->Sm m' (Fy S))->Sm m (Tr i v S)->Sm m S) e (λ_ _ _ _ _ _ _ h k=>RK (h _ RL) λ_=>k) h k)
theorem eT{P:Int->Prop}{k:Int}(h0:0<=k)(h1:k<8)(p0:P 0)(p1:P 1)(p2:P 2)(p3:P 3)(p4:P 4)(p5:P 5)(p6:P 6)(p7:P 7):P k:=(iH h0 h1).elim (λe=>e▸p0) λh=>h.elim (λe=>e▸p1) λh=>h.elim (λe=>e▸p2) λh=>h.elim (λe=>e▸p3) λh=>h.elim (λe=>e▸p4) λh=>h.elim (λe=>e▸p5) λh=>h.elim (λe=>e▸p6) λe=>e▸p7
abbrev jF(L vs:List V)(H:Lg)(j:Int):Prop:=∃r q w,L[j.toNat]? =some (.ref r)/\AZ H q=some ⟨r,.list vs,w⟩
theorem m8(e:Mo S=some (.tup L,.int j))(h0:0<=j)(h1:j<1000000)(h:jF L vs S.H j)(k:∀r q w,AZ S.H q=some ⟨r,.list vs,w⟩->Sm m (AP (.ref r) S)):Sm m S:=by
 with_unfolding_all exact(let⟨r,q,w,a,b⟩:=h
 sT e h0 h1 a (k r q w b))
theorem oO{i j:Nat}{a b:List V}{w w1:Bool}(p q:Nat)(e:(M0 S,AZ S.H p)=(some (.ref j,.Add,.ref i),some ⟨i,.list a,w1⟩))(e2:AZ S.H q=some ⟨j,.list b,w⟩)(hl:a.length+b.length<=1000000)(k:∀n,A8 m S.H n->Sm m (push [(n,.list (a++b))] (AP (.ref n) S))):Sm m S:=by with_unfolding_all exact(Wu (P:=λS=>AZ S.H p=some ⟨i,.list a,w1⟩->AZ S.H q=some ⟨j,.list b,w⟩->(∀n,A8 m S.H n->Sm m (push [(n,.list (a++b))] (AP (.ref n) S)))->Sm m S) (p1 e) (λ_ _ _ e1 e2 k=>MG p q (λn f=>BZ.mp (k n f)) e1 e2 hl) (p2 e) e2 k)
end
theorem dS{n:Int}{N:Nat}(h:n=N)(hN:N<=4):Builtin.Range.rangeSize 0 n 1=N/\Builtin.Range.small 0 n 1=true:=by
 have key:∀N:Nat,N<5->Builtin.Range.rangeSize 0 (N:Int) 1=N/\Builtin.Range.small 0 (N:Int) 1=true:=by decide
 subst h;exact key N (rI hN)
noncomputable def K1(F:Fn)(n h:Nat):AA->QD
 |⟨ctl,fr,loc,H⟩=>I8 F n h ctl fr loc H
noncomputable def iO(F:Fn)(n h:Nat)(S:AA):AA:=match K1 F n h S with
 |⟨s,_,_,_⟩=>s
noncomputable def Zc(F:Fn)(f h:Nat)(S:AA):List Prop:=(K1 F f h S).n
theorem oj{c:Cx}{m:Mx c}{S:AA}(f h:Nat)(n:∀G,QG (Zc c.F f h S) G->G)(k:let T:=iO c.F f h S;Sm m T)(q:(K1 c.F f h S).L=(K1 c.F f h S).R:=by kernel_rfl):Sm m S:=by
 with_unfolding_all exact(by
 obtain⟨x,fr,loc,H⟩:=S;exact(HP _ _ _ _ _ _ _ _ _ _ (Mu.symm.trans rfl) q (WF n) k).2.2)
theorem ZS{c:Cx}{m:Mx c}{S:AA}(f h:Nat)(k:let T:=iO c.F f h S;Sm m T)(q:((K1 c.F f h S).L,(K1 c.F f h S).n)=((K1 c.F f h S).R,[]):=by kernel_rfl):Sm m S:=by with_unfolding_all exact(oj f h (λG a=>by rw[show Zc c.F f h S=[] from(bW q).2] at a;exact a) k (bW q).1)
section
variable{c:Cx}{m:Mx c}{S:AA}
noncomputable def mR(m:Mx c)(R:Lg->V->Prop):Mx c:=⟨m.os0,m.U,m.cls,R,λ_ _=>False⟩
noncomputable def mG(m:Mx c)(F:Fn)(ok:BV c.g F)(R:Lg->V->Prop):Mx ⟨c.g,F,c.d,ok⟩:=⟨m.os0,m.U,m.cls,R,λ_ _=>False⟩
theorem cO{elt func:Expr}{args:List Expr}{y x:Str}{px py p' Iz pos:Pos}{scope:Scope}{cl:List (Str×Addr)}{globs:List (Str×V)}{cix:List (Str×Nat)}{k:List Fr}{loc:Loc}{H:Lg}{Ad:List Stmt}{α:Type}{n0:Int}
  (N:Nat) (P:Nat->α->Prop) (A:Nat->α->List V) (G:Nat->α->Lg) (x0:α) (SP:List Nat) (eS:S=⟨.xs (.Assign [.Name y py] (.ListComp elt [⟨.Name x px,.Call func args [] p',[],0⟩] scope pos) Iz::Ad),k,loc,H⟩)
  (WQ:∀L,BV c.g (c.F.comp scope cl [x] globs cix L)) (GL:c.F.inner=none)
  (Xw:∀L,swapsWith (.ListComp elt [⟨.Name x px,.Call func args [] p',[],0⟩] scope pos) (some (.Name y py)) Iz.line (c.F.env L)=pure true) (FZ:∀L,closureFor scope (c.F.env L)=pure cl)
  (F1:∀z∈scope.names,z.2≠.cell) (E3:scope.kind=.function) (DZ:∀z∈scope.names,z.2=.local->scope.names.lookup z.1=some .local) (Ou:∀z∈cix,z∈c.F.cix/\cl.lookup z.1=c.F.cells.lookup z.1) (ha:B9 args=true) (hc:Y1 func=true)
  (hN:Builtin.Range.rangeSize 0 n0 1=N) (hs:Builtin.Range.small 0 n0 1=true) (lg:∀m':Mx c,(∀v,v=.imm (.type "range")->m'.R H v)->Sm m' ⟨.ev func,[],loc,H⟩)
  (ln:∀m':Mx c,(∀H' v,E2 SP H' (G 0 x0)->v=.tup [.int n0]->m'.R H' v)->Sm m' ⟨.ls p' args,[.l .tup],loc,H⟩)
  (h0:P 0 x0) (hA:A 0 x0=[]) (Ac:∀n x,P n x->(A n x).length<=1000000)
  (turn:∀ta L n x,m.os0.length<=ta->n<N->P n x->∀m':Mx ⟨c.g,c.F.comp scope cl [_] globs cix L,c.d,WQ L⟩,m'.os0=m.os0->(∀y u ns H',P (n+1) y->A (n+1) y=A n x++[u]->E2 ns H' (⟨ta,.list (A n x),true⟩::G (n+1) y)->m'.R H' u)->Sm m' ⟨.ev elt,[],[some (.int (0+n*1))],⟨ta,.list (A n x),true⟩::G n x⟩)
  (done:∀ta x,m.os0.length<=ta->P N x->Sm m ⟨.r (.v (.ref ta)),.v (.asn y Ad)::k,loc,⟨ta,.list (A N x),true⟩::G N x⟩):Sm m S:=by
 with_unfolding_all exact(by
 subst eS;refine λos I=>Bm (UD WQ GL Xw FZ F1 E3 DZ Ou ha hc ?_);refine AG.mono (lg (mR m λH' v=>H'=H/\v=.imm (.type "range")) (λv e=>⟨rfl,e⟩) os ⟨I.st,I.own⟩) λAE f⟨H',I1,e1,e2⟩=>?_;subst e1 e2;refine Cd.mono (ln (mR m λH' v=>E2 SP H' (G 0 x0)/\v=.tup [.int n0]) (λH' v a e=>⟨a,e⟩) AE ⟨I1.st,I1.own⟩) λBM vs⟨H2,I2,_,e3,e4⟩=>?_;cases e4;have I2:Sg m (G 0 x0) BM:=Sg.pk (⟨I2.st,I2.own⟩:Sg m H2 BM) e3;have hl:=I2.st.len;refine Gs ⟨N,λn loc Ae=>∃x w,P n x/\loc=[w]/\Sg m (⟨BM.length,.list (A n x),true⟩::G n x) Ae,hN,hs,⟨x0,none,h0,rfl,HM I2 hl (by rw[hA];exact I2.st.push)⟩,?_,?_⟩
 ·rintro L n _ Kv hn ⟨x,w,p,rfl,I3⟩;refine⟨w,rfl,AG.mono (turn BM.length L n x hl hn p (mG m _ (WQ L) λH' u=>∃y ns,P (n+1) y/\A (n+1) y=A n x++[u]/\E2 ns H' (⟨BM.length,.list (A n x),true⟩::G (n+1) y)) rfl (λy u ns H' a b d=>⟨y,ns,a,b,d⟩) Kv ⟨I3.st,I3.own⟩) λSN v⟨H4,I4,y,ns,q1,q2,q3⟩=>?_⟩;have I4:Sg m (⟨BM.length,.list (A n x),true⟩::G (n+1) y) SN:=Sg.pk (⟨I4.st,I4.own⟩:Sg m H4 SN) q3;have J:=I4.st.set (o:=.list (A n x++[v])) .head (.inr hl);exact Jr (I4.st.get .head) (Ac n x p) ⟨y,_,q1,rfl,by rw[q2];exact⟨J,λe he hw=>(cS.mp he).elim (λq=>by rw[q];exact .inr hl) λhe=>I4.own e (.tail _ he) hw⟩⟩
 ·rintro _ Kv ⟨x,w,p,rfl,I3⟩;exact done BM.length x hl p Kv I3)
end
section
variable{c:Cx}{m:Mx c}{S:AA}{P:AA->Prop}
noncomputable def MV(S:AA):Option (V×CmpOp×V):=tV (λa f=>Z4 (λop b=>some (a,op,b)) f) S
theorem Wt(e:MV S=some (a,op,b))(h:∀k l H,P ⟨.r (.v a),.v (.cmp2 op b)::k,l,H⟩):P S:=Rg e λa' f k l H e=>Z3 e λj5 b' e1 e=>by subst e1;cases e;exact h k l H
theorem eZ{i j:Nat}{o1 o2:O}{w1 w2:Bool}(p q:Nat)(e:(MV S,AZ S.H p,AZ S.H q)=(some (.ref j,.Is,.ref i),some ⟨i,o1,w1⟩,some ⟨j,o2,w2⟩))(k:Sm m (AP (.bool (i==j)) S)):Sm m S:=by with_unfolding_all exact(Wt (P:=λS=>AZ S.H p=some ⟨i,o1,w1⟩->AZ S.H q=some ⟨j,o2,w2⟩->Sm m (AP (.bool (i==j)) S)->Sm m S) (p1 e) (λ_ _ _ e1 e2 k os I=>YT I.st (AD e1) (AD e2) ⟨_,I,k⟩) (p1 (p2 e)) (p2 (p2 e)) k)
theorem Zw(e:MV S=some (.ref i,.Is,.none))(k:Sm m (AP (.bool false) S)):Sm m S:=by with_unfolding_all exact(Wt (P:=λS=>Sm m (AP (.bool false) S)->Sm m S) e (λ_ _ _ k os I=>GW ⟨_,I,k⟩) k)
theorem eL{i j:Nat}{a b:List V}{w1 w2 t:Bool}(p q:Nat)(e:(MV S,AZ S.H p,AZ S.H q)=(some (.ref j,.Eq,.ref i),some ⟨i,.list a,w1⟩,some ⟨j,.list b,w2⟩))(hs:Dm a b=some t)(k:Sm m (AP (.bool t) S)):Sm m S:=by with_unfolding_all exact(Wt (P:=λS=>AZ S.H p=some ⟨i,.list a,w1⟩->AZ S.H q=some ⟨j,.list b,w2⟩->Sm m (AP (.bool t) S)->Sm m S) (p1 e) (λ_ _ _ e1 e2 k os I=>YU I.st (AD e1) (AD e2) hs ⟨_,I,k⟩) (p1 (p2 e)) (p2 (p2 e)) k)
theorem eP{j:Int}(q:Nat)(e:(M0 S,AZ S.H q)=(some (.int j,.Mult,.ref i),some ⟨i,.list [x],w⟩))(h0:0<=j)(hn:j<=1000000)(k:∀n,A8 m S.H n->Sm m (push [(n,.list (List.replicate j.toNat x))] (AP (.ref n) S))):Sm m S:=by with_unfolding_all exact(Wu (P:=λS=>AZ S.H q=some ⟨i,.list [x],w⟩->(∀n,A8 m S.H n->Sm m (push [(n,.list (List.replicate j.toNat x))] (AP (.ref n) S)))->Sm m S) (p1 e) (λ_ _ _ e k=>RG q (λn f=>BZ.mp (k n f)) e h0 hn) (p2 e) k)
theorem jp{L:List Int}(q:Nat)(e:Mb q S (.imm (.type "bytes")) i (.list vs) w)(ev:vs=L.map .int)(ho:AY L)(hl:L.length<=1000000)(k:Sm m (AP (.bytes L) S)):Sm m S:=by with_unfolding_all exact(oJ q (ev▸e) ho hl k)
theorem Vy{k:List Fr}{loc:Loc}{H:Lg}{ks:List ((Int×List Int)×V)}{x:Int×List Int}{v:V}{i:Nat}{acc rest:Lg}{Ad:List Stmt}(hn:x∉ks.map (·.1))(hl:ks.length<=100000)(s:Sem m (.xs Ad) k loc (rv acc (⟨i,.tdict (ks++[(x,v)]),true⟩::rest))):Sem m (.r (.o ⟨i,.tdict ks,true⟩ acc rest)) (.v (.asu4 v (.tup [.int x.1,.tup (x.2.map .int)]) Ad)::k) loc H:=λhH os I=>by rw[hH] at I;obtain⟨hu,hp,go⟩:=I.put (.tdict (ks++[(x,v)]));exact JA I.st I.at hn hl hp hu λAe J=>s Ae (go Ae J)
noncomputable def UT(S:AA):Option (Le×V):=tO (λe _ _ f=>NQ (λ_ iv _=>some (e,iv)) f) S
noncomputable def YV(x:Int×List Int):AA->AA
 |⟨.r (.o ⟨i,.tdict ks,true⟩ acc rest),.v (.asu4 v _ Ad)::k,l,_⟩=>⟨.xs Ad,k,l,rv acc (⟨i,.tdict (ks++[(x,v)]),true⟩::rest)⟩
 |S=>S
theorem pT(ks:List ((Int×List Int)×V))(x:Int×List Int)(e:UT S=some (⟨i,.tdict ks,true⟩,.tup [.int x.1,.tup (x.2.map .int)]))(hn:x∉ks.map (·.1))(hl:ks.length<=100000)(h:Sm m (YV x S)):Sm m S:=by
 with_unfolding_all exact(ir (P:=λS=>Sm m (YV x S)->Sm m S) e (λy acc rest f k l H e=>TO e λv iv Ad e1 e2 h=>by
 have a1:y=⟨i,.tdict ks,true⟩:=p1 (bg e2);have a2:iv=.tup [.int x.1,.tup (x.2.map .int)]:=p2 (bg e2);subst a1 a2 e1;exact Vy hn hl h) h)
end
section
variable{g:Gl}(E:AM g){d:Nat}
include E
theorem Fo{l:List Int}(h:AY l)(h4:l.length<=4):Pu g (d+1) 53 [.bytes l] (.int (num l)):=by
 refine Av E 0 [] λm fin Ay=>?_;refine g0 0x1082 ?_;intro;refine fV (Qt g d l) l.length (λ_(_:Option V)=>True) (λn w=>[some (.bytes l),some (.int (num (l.take n))),w]) (λ_ _=>[]) (λn _=>.int (l.getD n 0)) none rfl trivial rfl rfl (λ_ _=>Jg) (λn w hn _ _ _=>by show(l[n]?).map V.int=_;rw[cQ hn,pF,cQ hn];rfl) (λw _ _ _=>by show(l[l.length]?).map V.int=_;simp) (λn w hn _ Q next=>?_) (λw _=>?_)
 ·have:=Hq h h4 n;refine g1 0x20c1083 (λ_ a=>a (this)) ?_;intro;have e:Builtin.bitOr (num (l.take n)*256) (l.getD n 0)=num (l.take (n+1)):=by rw[pF,cQ hn];exact Jt h hn
  exact NU rfl (next (some (.int (l.getD n 0))) trivial) (by rw[<-e];rfl) rfl
 ·refine g0 2 ?_;intro;exact eV (fin _ _ (CH [] (by rw[show num l=num (l.take l.length) by rw[rn]];rfl)))
end
noncomputable def CY(a b:Int):Bool:=(a-b)%4294967296/2147483648==1
def Fl(q fl:Int):Prop:=fl=q\/fl=q+8\/fl=q+64\/fl=q+192
theorem Fl.add(h:f=0\/f=8\/f=64\/f=192):Fl q (f+q):=by
 rcases h with rfl|rfl|rfl|rfl
 ·exact .inl (pK _)
 ·exact .inr (.inl (sD ..))
 ·exact .inr (.inr (.inl (sD ..)))
 ·exact .inr (.inr (.inr (sD ..)))
noncomputable def CA(st:Int):Int:=if st=1 then 120000 else if st=2 then 60000 else 432000000
theorem BS{q fl:Int}(h:Fl q fl)(hq:q=2\/q=16\/q=18):(Builtin.bitAnd fl 4 != 0)=false/\(Builtin.bitAnd fl 2 != 0)=(q != 16)/\(Builtin.bitAnd fl 16 != 0)=(q != 2)/\(Builtin.bitAnd fl 16==0)=(q==2)/\fl/2%2=(if q=16 then 0 else 1)/\fl%2=0:=by rcases hq with rfl|rfl|rfl<;>rcases h with rfl|rfl|rfl|rfl<;>exact⟨by decide,by decide,by decide,by decide,by decide,by decide⟩
section
variable{g:Gl}(E:AM g){d:Nat}
include E
theorem Ke:Pu g (d+1) 452 [.int a,.int b] (.bool (CY a b)):=by refine Av E 27 [] λm fin Ay=>?_;refine g0 0x41081 ?_;intro;exact eK fin []
theorem DK:Pu g (d+1) 459 [.int a,.int b] (.bool (CY b a)):=by refine Av E 28 [] λm fin Ay=>?_;refine g0 0x41042 ?_;intro;exact eK fin []
theorem Qq{s a n w fl:Int}{v:V}:Pu g (d+1) 501 [.tup [.int s,.int a,.int n,.int w,.int fl,v]] (.int ((s+n+fl/2%2+fl%2)%4294967296)):=by refine Av E 32 [] λm fin Ay=>?_;refine g0 0x421410831410c1041 ?_;intro;exact eK fin []
theorem DJ{q fl s:Int}(h:Fl q fl)(hq:q=2/\s=0\/q=16/\s=3\/q=18/\s=1):Pu g (d+1) 424 [.int fl] (.int s):=by
 obtain⟨h1,h2,h3,_⟩:=BS h (hq.elim (λo0=>.inl (bC (L1 [] [_] 0x10720a10441c82041 o0.1) (L1 [] [_] 0x10720a184020e6041 o0.1))) (λo0=>.inr (o0.elim (λo2=>.inl (bC (L1 [] [_] 0x80720a10601c82041 o2.1) (L1 [] [_] 0x80720a184100e6041 o2.1))) (λo2=>.inr (bC (L1 [] [_] 0x90720a10641c82041 o2.1) (L1 [] [_] 0x90720a184120e6041 o2.1))))));refine Av E 23 [] λm fin Ay=>?_;rcases hq with ⟨rfl,rfl⟩|⟨rfl,rfl⟩|⟨rfl,rfl⟩
 ·have h2:_=true:=h2;have h3:_=false:=h3;refine g1 0x41010c4044101 (λ_ a=>a (h3) (h2) (h1)) ?_;intro;exact eK fin []
 ·have h2:_=false:=h2;have h3:_=true:=h3;have h5:(Builtin.bitAnd fl 1 != 0)=false:=by rcases h with rfl|rfl|rfl|rfl<;>decide
  rw[bitAnd_m1] at h5;refine g1 0xc4044081104044101 (λ_ a=>a (h3) (h5) (h2) (h1)) ?_;intro;exact eK fin []
 ·have h2:_=true:=h2;have h3:_=true:=h3;refine g1 0x31010c4044101 (λ_ a=>a (h3) (h2) (h1)) ?_;intro;exact eK fin []
theorem BU{q fl:Int}(h:Fl q fl)(hq:q=2\/q=16\/q=18):Pu g (d+1) 431 [.int fl] (.bool true):=by refine Av E 24 [] λm fin Ay=>?_;refine g0 0x1101 ?_;intro;refine eV (fin _ _ (CH [] (gC V.bool ?_)));rcases hq with rfl|rfl|rfl<;>rcases h with rfl|rfl|rfl|rfl<;>decide
theorem C8{di so st r:Int}(h:(di=0/\so=0/\st=0/\r=1)\/(di=1/\so=1/\st=1/\r=2)\/(di=0/\so=3/\st=2/\r=3)\/(di=0/\so=3/\st=3/\r=3)\/(di=1/\so=3/\st=2/\r=2)\/(di=1/\so=3/\st=3/\r=3)):
  Pu g (d+1) 438 [.int di,.int so,.int st] (.int r):=by
 rcases h with ⟨rfl,rfl,rfl,rfl⟩|⟨rfl,rfl,rfl,rfl⟩|⟨rfl,rfl,rfl,rfl⟩|⟨rfl,rfl,rfl,rfl⟩|⟨rfl,rfl,rfl,rfl⟩|⟨rfl,rfl,rfl,rfl⟩
 ·refine Av E 25 [] λm fin Ay=>?_;refine g0 0x43042104041082082 ?_;intro;exact eK fin []
 ·refine Av E 25 [] λm fin Ay=>?_;refine g0 0x83082104081082082 ?_;intro;exact eK fin []
 ·refine Av E 25 [] λm fin Ay=>?_;refine g0 0xc3102104041082082 ?_;intro;exact eK fin []
 ·refine Av E 25 [] λm fin Ay=>?_;refine g0 0x103102104041082082 ?_;intro;exact eK fin []
 ·refine Av E 25 [] λm fin Ay=>?_;refine g0 0xc3102104081082082 ?_;intro;exact eK fin []
 ·refine Av E 25 [] λm fin Ay=>?_;refine g0 0x103102104081082082 ?_;intro;exact eK fin []
theorem LG{st:Int}(h:st=1\/st=2\/st=3):Pu g (d+1) 445 [.int st] (.int (CA st)):=by
 rcases h with rfl|rfl|rfl
 ·refine Av E 26 [] λm fin Ay=>?_;refine g0 129 ?_;intro;exact eK fin []
 ·refine Av E 26 [] λm fin Ay=>?_;refine g0 193 ?_;intro;exact eK fin []
 ·refine Av E 26 [] λm fin Ay=>?_;refine g0 257 ?_;intro;exact eK fin []
end
theorem MW{n:Nat}{a:Int}(h0:0<=a)(h1:a<=n):clipAt n a=a.toNat:=by unfold clipAt;rw[jU (by exact L1 [] [_] 0xcc0820c83041 h0),Int.min_eq_left h1,qZ h0]
theorem Go{α:Type}{l:List α}{a:Int}(h0:0<=a)(GN:a<=b)(hb:b<=l.length):cut l (some a) (some b)=(l.drop a.toNat).take (b-a).toNat:=by
 unfold cut;simp only[Option.elim];rw[MW h0 (by exact L2 [_] [_,_] 0x1f0c0821040820f82041 GN hb),MW (by exact L2 [] [_,_] 0x1810420cc0820066041 h0 GN) hb]
 congr 1;exact gH (L4 [_,_,_,_] [_,_] 0x45fa18403fd08210743fa18462068841080041 (jT (show a.toNat<=b.toNat from L3 [_,_] [_,_] 0x21fd0c2007e841082041080041 GN (bD (show 0<=a from h0)) (bD (show 0<=b from L2 [] [_,_] 0x1810420cc0820066041 h0 GN)))) (bD (show 0<=b-a from L1 [] [_,_] 0x3020841d066041 GN)) (bD (show 0<=b from L2 [] [_,_] 0x1810420cc0820066041 h0 GN)) (bD (show 0<=a from h0))) (L4 [_,_,_,_] [_,_] 0x45fa10403fd0c231074430841d07e841080041 (bD (show 0<=b-a from L1 [] [_,_] 0x3020841d066041 GN)) (jT (show a.toNat<=b.toNat from L3 [_,_] [_,_] 0x21fd0c2007e841082041080041 GN (bD (show 0<=a from h0)) (bD (show 0<=b from L2 [] [_,_] 0x1810420cc0820066041 h0 GN)))) (bD (show 0<=b from L2 [] [_,_] 0x1810420cc0820066041 h0 GN)) (bD (show 0<=a from h0)))
inductive PO:List Int->List (Int×List Int)->Bool->Prop
 |nil:PO [] [] true
 |stop {r}:PO (0::r) [] true
 |nop {r rows b}:PO r rows b->PO (1::r) ((1,[])::rows) b
 |one {k}:k≠0->k≠1->PO [k] [] false
 |short {k m r}:k≠0->k≠1->(m<2\/(r.length:Int)+2<m)->PO (k::m::r) [] false
 |opt {k m r rows b}:k≠0->k≠1->2<=m->m<=(r.length:Int)+2->PO (r.drop (m-2).toNat) rows b->PO (k::m::r) ((k,r.take (m-2).toNat)::rows) b
noncomputable def Dn(r:Int×List Int):V:=.tup [.int r.1,.bytes r.2]
theorem Db{l r:List Int}(h:l.drop n=x::r):l[n]? =some x/\n<l.length/\l.drop (n+1)=r/\l.length=n+1+r.length:=by
 have h1:l[n]? =some x:=by rw[<-List.head?_drop,h];rfl
 have h2:n<l.length:=(im.mp h1).1;have h3:l.drop (n+1)=r:=by rw[<-List.tail_drop,h];rfl
 refine⟨h1,h2,h3,?_⟩;have:=gC List.length h;rw[qF,jK] at this;exact gH (L2 [_,_,_,_] [] 0x47a218421c8b432104410e43ad00041 this (jT (show n<=l.length from L1 [_,_] [] 0x80441080041 h2))) (L2 [_,_,_,_] [] 0x1007a210421c874321844108720d68041 this (jT (show n<=l.length from L1 [_,_] [] 0x80441080041 h2)))
inductive WK(l:List Int)(a:Nat)(rest:List (Int×List Int))(b:Bool):Prop
 |nil:l.length<=a->rest=[]->b=true->WK l a rest b
 |stop:l[(a:Int).toNat]? =some 0->a<l.length->rest=[]->b=true->WK l a rest b
 |nop (rows):l[(a:Int).toNat]? =some 1->a<l.length->PO (l.drop (a+1)) rows b->rest=(1,[])::rows->WK l a rest b
 |one (k):k≠0->k≠1->l[(a:Int).toNat]? =some k->l.length=a+1->rest=[]->b=false->WK l a rest b
 |short (k m):k≠0->k≠1->l[(a:Int).toNat]? =some k->l[((a:Int)+1).toNat]? =some m->a+1<l.length->(m<2\/(l.length:Int)<a+m)->rest=[]->b=false->WK l a rest b
 |opt (k m rows):k≠0->k≠1->l[(a:Int).toNat]? =some k->l[((a:Int)+1).toNat]? =some m->a+1<l.length->2<=m->a+m<=(l.length:Int)->PO (l.drop (a+m.toNat)) rows b->rest=(k,cut l (some ((a:Int)+2)) (some ((a:Int)+m)))::rows->WK l a rest b
theorem PO.at{l:List Int}(h:PO (l.drop a) rest b):WK l a rest b:=by
 generalize hd:l.drop a=dr at h;cases h with
 |nil=>exact .nil (List.drop_eq_nil_iff.mp hd) rfl rfl
 |stop=>obtain⟨h1,h2,h3,h4⟩:=Db hd;exact .stop h1 h2 rfl rfl
 |nop hp=>obtain⟨h1,h2,h3,h4⟩:=Db hd;exact .nop _ h1 h2 (by rw[h3];exact hp) rfl
 |one k0 k1=>obtain⟨h1,h2,h3,h4⟩:=Db hd;exact .one _ k0 k1 h1 h4 rfl rfl
 |short k0 k1 hm=>obtain⟨h1,h2,h3,h4⟩:=Db hd;obtain⟨h5,h6,h7,h8⟩:=Db h3;exact .short _ _ k0 k1 h1 h5 h6 (hm.elim (λo0=>.inl (o0)) (λo0=>.inr (L2 [_,_,_] [_] 0x41c8bfa9104410e421c875ad00841007fa07e441 h8 o0))) rfl rfl
 | @opt k m r rows b k0 k1 Dj De hp=>obtain⟨h1,h2,h3,h4⟩:=Db hd;obtain⟨h5,h6,h7,h8⟩:=Db h3;refine .opt _ _ _ k0 k1 h1 h5 h6 Dj (L2 [_,_,_] [_] 0x821c843906b5a090c220e45fd020410fc00fea041 De h8) (by rw[show a+m.toNat=a+1+1+(m-2).toNat by exact gH (L2 [_,_,_] [_] 0x41c83a2fd0c200fe8411043908720d6b41068041 (bD (show 0<=m from L1 [] [_] 0x41cc0820066041 Dj)) (bD (show 0<=m-2 from L1 [] [_] 0x41cc08220e41d066041 Dj))) (L2 [_,_,_] [_] 0x2fd0c220e41d0fe84110341087210e41ad68041 (bD (show 0<=m-2 from L1 [] [_] 0x41cc08220e41d066041 Dj)) (bD (show 0<=m from L1 [] [_] 0x41cc0820066041 Dj))),<-List.drop_drop,h7];exact hp) ?_;rw[Go (by exact L0 [_] [] 0x41c83fa066041) (by exact L1 [_] [_] 0x20e6041003fa10720fea041 Dj) (by exact L2 [_,_,_] [_] 0x821c843906b5a090c220e45fd020410fc00fea041 De h8),show((a:Int)+2).toNat=a+1+1 by exact gH (L1 [_,_] [] 0x41c87fa07e841087210e43ad00041 (bD (show 0<=↑a+2 from L0 [_] [] 0x41c83fa066041))) (L1 [_,_] [] 0x41c83fa0fe8610843908720d68041 (bD (show 0<=↑a+2 from L0 [_] [] 0x41c83fa066041))),h7,show((a:Int)+m-((a:Int)+2)).toNat=(m-2).toNat by congr 1;exact bC (L0 [_] [_] 0x41c83a20e41fd001fd76041) (L0 [_] [_] 0x41c83fa003fae8839076041)]
abbrev CO(g:Gl)(d:Nat)(l:List Int)(rows:List (Int×List Int))(b:Bool):Prop:=CF g d 173 [.bytes l] [] [] (λ_=>True) (λn=>.tup [.ref n,.bool b]) (λn=>[(n,.list (rows.map Dn))]) λ_=>[]
theorem Dq{rows done:List (Int×List Int)}{os:List O}(hn:os.length<=n)(e:rows=done++rest)(e2:rest=[])(e3:b=b'):FI os (λ_=>True) (λn=>.tup [.ref n,.bool b]) (λn=>[(n,.list (rows.map Dn))]) (λ_=>[]) [⟨n,.list (done.map Dn),true⟩] (.tup [.ref n,.bool b']):=by subst e2 e3;rw[bE] at e;exact Bs n [0] rfl (by rw[e];rfl) rfl (AI hn Bz) trivial rfl
theorem YM{done:List (Int×List Int)}:([⟨n,.list ((done++[r]).map Dn),true⟩]:Lg)=[⟨n,.list (done.map Dn++[Dn r]),true⟩]:=by rw[jJ];rfl
section
variable{g:Gl}(E:AM g){d:Nat}
include E
theorem Cu{l:List Int}{rows:List (Int×List Int)}{b:Bool}(h:PO l rows b)(hl:l.length<=1000):CO g (d+1) l rows b:=by
 refine Bu E 7 [] λm fin Ay=>?_;refine g0 0 ?_;intro;refine nL _ rfl (λn hn=>?_);refine g0 194 ?_;intro;refine fW (λx:Nat×List (Int×List Int)×Option V=>x.1<=l.length/\x.2.1.length<=x.1/\∃rest,PO (l.drop x.1) rest b/\rows=x.2.1++rest) (λx=>l.length-x.1) (λx=>[some (.bytes l),some (.ref n),some (.int x.1),x.2.2]) (λx=>[⟨n,.list (x.2.1.map Dn),true⟩]) ⟨0,[],_⟩ rfl ⟨qH _,oU _,rows,h,rfl⟩ rfl rfl (λx hx Q next=>?_);have ha:=hx.1;have OE:=hx.2.1;refine hx.2.2.elim λrest hr=>?_;have Kq:=hr.2;have g9:(x.2.1.map Dn).length<=1000000:=by rw[gI];exact L3 [_,_,_] [] 0x100041088041fa05908083e84804c80041 hl hx.1 hx.2.1
 cases hr.1.at with
 |nil h1 e1 e2=>refine g1 0x20840c1143 (λ_ a=>a (gD (L1 [_,_] [] 0x101043f07f041 h1)) (L1 [_] [] kc hl)) ?_;intro;exact eV (fin _ _ (Dq hn.1 Kq e1 e2))
 |stop h1 h2 e1 e2=>refine g1 0x30430c1143 (λ_ a=>a (jL (L1 [_,_] [] 0x2011043f07e441 h2)) (L1 [_] [] kc hl)) ?_;intro;refine sB rfl (L0 [_] [] 520511553) (h1) (L1 [_] [] kc hl) ?_;refine g0 0x2082 ?_;intro;exact eV (fin _ _ (Dq hn.1 Kq e1 e2))
 |nop rows h1 h2 hp e1=>refine g1 0x30430c1143 (λ_ a=>a (jL (L1 [_,_] [] 0x2011043f07e441 h2)) (L1 [_] [] kc hl)) ?_;intro;refine sB rfl (L0 [_] [] 520511553) (h1) (L1 [_] [] kc hl) ?_;refine g0 0xc1041 ?_;intro;refine sB rfl (L0 [_] [] 520511553) (h1) (L1 [_] [] kc hl) ?_;refine g0 129 ?_;intro;refine ap 0 rfl ?_;refine g0 0 ?_;intro;refine jr 0 rfl g9 ?_;refine g0 195 ?_;intro;refine NU rfl (next ⟨x.1+1,x.2.1++[(1,[])],_⟩ (by show _-(_+1)<_;exact L2 [_,_,_,_] [] 0x1883a2184610e45a068841080441 (jT (show x.fst+1<=l.length from L1 [_,_] [] 0x8044108439068041 h2)) (jT (show x.fst<=l.length from ha))) ⟨h2,by rw[cW];exact Nat.succ_le_succ OE,rows,hp,by rw[Kq,e1,bF];rfl⟩) rfl (YM (n:=n) (done:=x.2.1) (r:=(1,[]))).symm
 |one k k0 k1 h1 h4 e1 e2=>refine g1 0x30430c1143 (λ_ a=>a (jL (L1 [_,_] [] 0x21c834121843f07e441 h4)) (L1 [_] [] kc hl)) ?_;intro;refine sB rfl (L0 [_] [] 520511553) (h1) (L1 [_] [] kc hl) ?_;refine g1 0xc1043 (λ_ a=>a (s7.mpr k0)) ?_;intro;refine sB rfl (L0 [_] [] 520511553) (h1) (L1 [_] [] kc hl) ?_;refine g1 0x20411041030450c4 (λ_ a=>a (gD (L1 [_,_] [] 0x21c834121043f08720feb041 h4)) (L1 [_] [] kc hl) (gD (k1))) ?_;intro;exact eV (fin _ _ (Dq hn.1 Kq e1 e2))
 |short k m k0 k1 h1 h5 h6 hm e1 e2=>
  refine g1 0x30430c1143 (λ_ a=>a (jL (L1 [_,_] [] 0x210e41a11043f07e441 h6)) (L1 [_] [] kc hl)) ?_;intro;refine sB rfl (L0 [_] [] 520511553) (h1) (L1 [_] [] kc hl) ?_;refine g1 0xc1043 (λ_ a=>a (s7.mpr k0)) ?_;intro;refine sB rfl (L0 [_] [] 520511553) (h1) (L1 [_] [] kc hl) ?_;refine g1 0xc10c30450c4 (λ_ a=>a (jL (L1 [_,_] [] 0x210e41a11043f08720fea441 h6)) (L1 [_] [] kc hl) (gD (k1))) ?_;intro;refine sB rfl (L0 [_] [] 0x21c83fa066041) (h5) (L1 [_] [] kc hl) ?_;refine g0 260 ?_;intro;refine wB _ rfl (λq=>?_) (λq=>?_)
  ·refine g0 0x2041 ?_;intro;exact eV (fin _ _ (Dq hn.1 Kq e1 e2))
  ·have q:=gG q;refine g1 0x20430c11440c2 (λ_ a=>a (jL (hm.resolve_left q)) (L1 [_] [] kc hl)) ?_;intro;exact eV (fin _ _ (Dq hn.1 Kq e1 e2))
 |opt k m rows k0 k1 h1 h5 h6 Dj De hp e1=>refine g1 0x30430c1143 (λ_ a=>a (jL (L1 [_,_] [] 0x210e41a11043f07e441 h6)) (L1 [_] [] kc hl)) ?_;intro;refine sB rfl (L0 [_] [] 520511553) (h1) (L1 [_] [] kc hl) ?_;refine g1 0xc1043 (λ_ a=>a (s7.mpr k0)) ?_;intro;refine sB rfl (L0 [_] [] 520511553) (h1) (L1 [_] [] kc hl) ?_;refine g1 0xc10c30450c4 (λ_ a=>a (jL (L1 [_,_] [] 0x210e41a11043f08720fea441 h6)) (L1 [_] [] kc hl) (gD (k1))) ?_;intro;refine sB rfl (L0 [_] [] 0x21c83fa066041) (h5) (L1 [_] [] kc hl) ?_;refine g1 0x20840c11440c4104 (λ_ a=>a (gD (L1 [_,_] [_] 0x7c01fea041007fa07f041 De)) (L1 [_] [] kc hl) (gD (L1 [] [_] 0x839810441c83041 Dj))) ?_;intro;refine ap 0 rfl ?_;refine g0 193 ?_;intro;refine sB rfl (L0 [_] [] 520511553) (h1) (L1 [_] [] kc hl) ?_;refine g1 0x1040c3046 (λ_ a=>a (L1 [_] [] kc hl)) ?_;intro;refine jr 0 rfl g9 ?_;refine g0 0x3103 ?_;intro;have e:((x.1+m.toNat:Nat):Int)=x.1+m:=bC (L1 [_,_] [_] 0x3fa10400fe820d7e041 (bD (show 0<=m from L1 [] [_] 0x41cc0820066041 Dj))) (L1 [_,_] [_] 0x3fa18420d7c00fea041 (bD (show 0<=m from L1 [] [_] 0x41cc0820066041 Dj)));exact NU rfl (next ⟨x.1+m.toNat,x.2.1++[(k,cut l (some ((x.1:Int)+2)) (some ((x.1:Int)+m)))],some (.int m)⟩ (by show _-(_+m.toNat)<_;exact L4 [_,_,_,_,_] [_] 0x820e886120c5a06884100bfa18b5fa184020e6041080441 Dj e (jT (show x.fst+m.toNat<=l.length from L2 [_,_,_] [_] 0x3fa0835fa1045f003fa810441068041 De e)) (jT (show x.fst<=l.length from ha))) ⟨by show x.1+m.toNat<=_;exact L2 [_,_,_] [_] 0x3fa0835fa1045f003fa810441068041 De e,by rw[cW];show _+1<=x.1+m.toNat;exact L3 [_,_,_] [_] 0x1fe841d7e86100839810420010441d0439068041 hx.2.1 Dj e,rows,hp,by rw[Kq,e1,bF];rfl⟩) (by rw[e];rfl) (YM (n:=n) (done:=x.2.1) (r:=(k,_))).symm
end
theorem PO.data{l:List Int}{rows:List (Int×List Int)}{b:Bool}(h:PO l rows b):∀r∈rows,r.2.Sublist l:=by
 induction h with
 |nil|stop|one|short=>intro r hr;cases hr
 |nop _ ih=>
  intro r hr;rcases cS.mp hr with rfl|hr
  ·exact List.nil_sublist _
  ·exact(ih r hr).cons _
 |opt _ _ _ _ _ ih=>
  intro r hr;rcases cS.mp hr with rfl|hr
  ·exact((List.take_sublist _ _).cons _).cons _
  ·exact(((ih r hr).trans (List.drop_sublist _ _)).cons _).cons _
noncomputable def Ah(rows:List (Int×List Int)):Int:=rows.foldl (λs r=>if r.1=3/\r.2.length=1 then min (r.2.headD 0) 14 else s) (-1)
noncomputable def BP(rows:List (Int×List Int)):Bool:=rows.any λr=>r.1==4&&r.2==[]
theorem E7{rows:List (Int×List Int)}(h:m<rows.length):Ah (rows.take (m+1))=if rows[m].1=3/\rows[m].2.length=1 then min (rows[m].2.headD 0) 14 else Ah (rows.take m):=by unfold Ah;rw[CL h,qT];rfl
theorem Rv{rows:List (Int×List Int)}:(rows.map Dn)=((rows.map λr=>[V.int r.1,V.bytes r.2]).map V.tup):=by rw[qi];rfl
noncomputable abbrev iA(k:Int)(dt:List Int):List V->Bool:=λl=>match l with|[.int a,.bytes b]=>a==k&&b==dt|_=>false
theorem Vd{rows:List (Int×List Int)}:∀r∈(rows.map λr=>[V.int r.1,V.bytes r.2]),Dm r [.int k,.bytes dt]=some (iA k dt r):=λr hr=>by obtain⟨x,_,rfl⟩:=pe.mp hr;show(match some (x.1==k),(match some (x.2==dt),(some true:Option Bool) with|some x,some y=>some (x&&y)|_,_=>none) with|some x,some y=>some (x&&y)|_,_=>none)=_;simp
theorem Ru{rows:List (Int×List Int)}:(rows.map λr=>[V.int r.1,V.bytes r.2]).any (iA k dt)=rows.any λr=>r.1==k&&r.2==dt:=by rw[List.any_map];rfl
noncomputable abbrev Au(rows:List (Int×List Int))(m:Nat):Int×List Int:=rows.getD m (0,[])
theorem CT{rows:List (Int×List Int)}(h:m<rows.length):Au rows m=rows[m]:=by rw[Au,pF,cQ h];rfl
theorem Jb{g:Gl}{d n:Nat}{rows:List (Int×List Int)}{m:Nat}{os:List O}(h:m<rows.length)(e:os[n]? =some (.list (rows.map Dn))):(Hu g d n).el os m (some (Dn (Au rows m))):=⟨_,e,by rw[oV,cQ h,CT h];rfl⟩
theorem Ja{g:Gl}{d n:Nat}{rows:List (Int×List Int)}{os:List O}(e:os[n]? =some (.list (rows.map Dn))):(Hu g d n).el os rows.length none:=⟨_,e,by rw[o9];simp⟩
theorem PO.dlen{l:List Int}{rows:List (Int×List Int)}{b:Bool}(h:PO l rows b){m:Nat}(hm:m<rows.length):(Au rows m).2.length<=l.length:=(h.data _ (by rw[CT hm];exact qk hm)).length_le
theorem Ro{rows:List (Int×List Int)}(hm:m<rows.length)(h1:(Au rows m).1=3)(h2:(Au rows m).2.length=1)(hx:(Au rows m).2[(0:Int).toNat]? =some x):min x 14=Ah (rows.take (m+1)):=by rw[E7 hm,<-CT hm,lW ⟨h1,h2⟩,List.headD_eq_head?_getD,List.head?_eq_getElem?];show _=min ((Au rows m).2[(0:Int).toNat]?.getD 0) 14;rw[hx];rfl
theorem Ms{rows:List (Int×List Int)}(hm:m<rows.length)(h:(Au rows m).1≠3\/(Au rows m).2.length≠1):Ah (rows.take m)=Ah (rows.take (m+1)):=by rw[E7 hm,<-CT hm,jU λq=>h.elim (λk=>k q.1) λk=>k q.2]
theorem ZL{l:List Int}(h:l.length=1):l[(0:Int).toNat]? =some (l.getD 0 0):=by
 match l,h with
 |[x],_=>rfl
section
variable{g:Gl}(E:AM g){d:Nat}
include E
theorem LH{l:List Int}{rows:List (Int×List Int)}{b:Bool}(h:PO l rows b)(hl:l.length<=1000):Bb g (d+2) 180 [.bytes l] [] [] [] (.int (Ah rows)):=by
 refine Av E 8 [] λm fin Ay=>?_;refine g0 0x45082 ?_;intro;refine A3 (Cu E h hl) [] [] rfl (λ_=>rfl) λn ho fr=>?_;refine g0 1 ?_;intro;refine fV (Hu g (d+1) n) rows.length (λ_(_:Option V×Option V)=>True) (λm w=>[some (.bytes l),some (.int (Ah (rows.take m))),w.1,w.2]) (λ_ _=>[⟨n,.list (rows.map Dn),true⟩]) (λm _=>Dn (Au rows m)) ⟨none,none⟩ rfl trivial rfl rfl (λ_ I=>D6 (I.st.get .head)) (λm _ hm _ _ I=>Jb hm (I.st.get .head)) (λ_ _ _ I=>Ja (I.st.get .head)) (λm w hm _ Q next=>?_) (λw _=>?_)
 ·have hb:(Au rows m).2.length<=1000000:=mi (h.dlen hm) (L1 [_] [] kc hl);refine g0 0x3103 ?_;intro;refine wB _ rfl (λq=>?_) (λq=>?_)
  ·refine g1 0xc4201 (λ_ a=>a (hb)) ?_;intro;refine wB _ rfl (λq2=>?_) (λq2=>?_)
   ·have q2:(Au rows m).2.length=1:=Int.ofNat.inj (dv q2);refine g0 0x106041 ?_;intro;refine sB rfl (by decide) (ZL q2) hb ?_;refine g0 0x2047 ?_;intro;exact NU rfl (next ⟨some (.int (Au rows m).1),some (.bytes (Au rows m).2)⟩ trivial) (by rw[<-Ro hm (dv q) q2 (ZL q2)];rfl) rfl
   ·refine g0 130 ?_;intro;exact NU rfl (next ⟨some (.int (Au rows m).1),some (.bytes (Au rows m).2)⟩ trivial) (by rw[<-Ms hm (.inr λe=>gG q2 (by rw[e];rfl))];rfl) rfl
  ·refine g0 130 ?_;intro;exact NU rfl (next ⟨some (.int (Au rows m).1),some (.bytes (Au rows m).2)⟩ trivial) (by rw[<-Ms hm (.inl (gG q))];rfl) rfl
 ·refine g0 2 ?_;intro;exact eV (fin _ _ (CH [] (by rw[show Ah rows=Ah (rows.take rows.length) by rw[rn]];rfl)))
theorem LM{l:List Int}{rows:List (Int×List Int)}{b:Bool}(h:PO l rows b)(hl:l.length<=1000):Bb g (d+2) 187 [.bytes l] [] [] [] (.bool (BP rows)):=by refine Av E 9 [] λm fin Ay=>?_;refine g0 66 ?_;intro;refine A3 (Cu E h hl) [] [] rfl (λ_=>rfl) λn ho fr=>?_;refine g0 1 ?_;intro;refine lit rfl ?_;refine RN 0 (gC (λl=>some (Le.mk n (O.list l) true)) Rv) Vd ?_;refine sm (let S:=_;(?_:Sm _ S));exact eV (fin _ _ (CH [] ((gC V.bool Ru))))
end
noncomputable def Ba(dt:List Int):List Int:=(List.range (dt.length/8)).map λj=>num ((dt.drop (8*j+4)).take 4)
noncomputable def CD(ack:Int)(l:List Int)(m0:Int):Int:=l.foldl (λm e=>if (e-ack)%4294967296<2147483648/\m<(e-ack)%4294967296 then(e-ack)%4294967296 else m) m0
noncomputable def BO(ack:Int)(m:Int)(r:Int×List Int):Int:=if r.1=5/\r.2.length%8=0 then CD ack (Ba r.2) m else m
noncomputable def Co(ack:Int)(rows:List (Int×List Int)):Int:=(ack+rows.foldl (BO ack) 0)%4294967296
theorem foldl_take_succ{α β:Type}{f:β->α->β}{b:β}{l:List α}{m:Nat}(h:m<l.length):(l.take (m+1)).foldl f b=f ((l.take m).foldl f b) l[m]:=by rw[CL h,qT];rfl
theorem My(q:Nat):Builtin.Range.rangeSize 4 ((8*q:Nat):Int) 8=(q:Int):=by unfold Builtin.Range.rangeSize;rw[lW (by decide)];split<;>(first|exact bC (L2 [_] [_,_] 0x419810421c90390203bff7a10203bd50820f843906a201 (bf ((↑(8*q):Int)-4-1) 8) (dq ((↑(8*q):Int)-4-1) (show(8:Int)≠0 by decide))) (L2 [_] [_,_] 0x40721910421c90390203bff7a10203bd50c210e41a07e201 (bf ((↑(8*q):Int)-4-1) 8) (bX ((↑(8*q):Int)-4-1) (show(0:Int)<8 by decide)))|exact bC (L0 [_] [] 520511553) (L1 [_] [] 0x203bf9039c1041907e201 ‹_›))
theorem JQ(h: -1000000<=x)(h':x<=1000000):Builtin.Range.rangeFitsLong x=true:=by unfold Builtin.Range.rangeFitsLong;rw[oZ];exact⟨jL (L1 [] [_] 0xf4240267d020810000000000000000dcfa041 h),jL (L1 [] [_] 0x7a120132081050000000000000000dc82441 h')⟩
theorem Rk(q:Nat)(h:q<=1000):Builtin.Range.small 4 ((8*q:Nat):Int) 8=true:=by unfold Builtin.Range.small;rw[My,lW (by decide),JQ (by decide) (by decide),JQ (by exact L0 [_] [] 0x80effe84804cfa041) (by exact L1 [_] [] 0xfa05900403e84804c8101dfe041 h),JQ (by decide) (by decide),JQ (by exact L0 [_] [] 0x3fe84804cfa041) (by exact L1 [_] [] 0x1f40b200107d09009907e041 h),JQ (by exact L0 [_] [] 0xe1c8101dff5e84804cfa041) (by exact L1 [_] [] 0xfa05900403e84804c9c390203bfea041 h)];cases ((q:Int)==0)<;>rfl
theorem NS{dt:List Int}{q j:Nat}{ack m0:Int}(hq:dt.length=8*q)(hj:j<q):CD ack ((Ba dt).take (j+1)) m0=
  if (num ((dt.drop (8*j+4)).take 4)-ack)%4294967296<2147483648/\CD ack ((Ba dt).take j) m0<(num ((dt.drop (8*j+4)).take 4)-ack)%4294967296 then(num ((dt.drop (8*j+4)).take 4)-ack)%4294967296 else CD ack ((Ba dt).take j) m0:=by
 have hl:j<(Ba dt).length:=by unfold Ba;simp;exact L3 [_,_,_,_] [] 0x101c8501e6842208c03008d01d88861080601 hq hj (Nat.lt_div_mul_add (a:=dt.length) (b:=8) (by decide))
 unfold CD;rw[foldl_take_succ hl];have:(Ba dt)[j]=num ((dt.drop (8*j+4)).take 4):=by simp[Ba]
 rw[this]
noncomputable abbrev VJ(ack:Int)(rows:List (Int×List Int))(m:Nat):Int:=(rows.take m).foldl (BO ack) 0
theorem Ze{ack:Int}{rows:List (Int×List Int)}{m:Nat}(hm:m<rows.length):VJ ack rows (m+1)=BO ack (VJ ack rows m) (Au rows m):=by rw[CT hm];exact foldl_take_succ hm
section
variable{g:Gl}(E:AM g){d:Nat}
include E
theorem Dy{l:List Int}{rows:List (Int×List Int)}{b:Bool}{ack:Int}(h:PO l rows b)(ho:AY l)(hl:l.length<=1000):Bb g (d+2) 194 [.bytes l,.int ack] [] [] [] (.int (Co ack rows)):=by
 refine Av E 10 [] λm fin Ay=>?_;refine g0 0x49083 ?_;intro;refine A3 (Cu E h hl) [] [] rfl (λ_=>rfl) λn pS fr=>?_;refine g0 1 ?_;intro;refine fV (Hu g (d+1) n) rows.length (λ_(_:Option V×Option V×Option V×Option V)=>True) (λm w=>[some (.bytes l),some (.int ack),some (.int (VJ ack rows m)),w.1,w.2.1,w.2.2.1,w.2.2.2]) (λ_ _=>[⟨n,.list (rows.map Dn),true⟩]) (λm _=>Dn (Au rows m)) ⟨none,none,none,none⟩ rfl trivial rfl rfl (λ_ I=>D6 (I.st.get .head)) (λm _ hm _ _ I=>Jb hm (I.st.get .head)) (λ_ _ _ I=>Ja (I.st.get .head)) (λm w hm _ Q next=>?_) (λw _=>?_)
 ·have hb:(Au rows m).2.length<=1000:=mi (h.dlen hm) hl;have hO:AY (Au rows m).2:=λx hx=>ho x ((h.data _ (by rw[CT hm];exact qk hm)).subset hx);have hs:=Ze (ack:=ack) hm;refine g0 0x4144 ?_;intro;refine wB _ rfl (λq1=>?_) (λq1=>?_)
  ·refine g1 0x10c52c1 (λ_ a=>a (L1 [_] [] kc hb)) ?_;intro;refine wB _ rfl (λq2=>?_) (λq2=>?_)
   ·have h8:(Au rows m).2.length%8=0:=Int.ofNat.inj (show Int.ofNat ((Au rows m).2.length%8)=Int.ofNat 0 from dv q2);have hq:(Au rows m).2.length=8*((Au rows m).2.length/8):=gH (L2 [_,_,_] [] 0x10501de886106444208501d80041 h8 (Nat.div_add_mod ((Mine.Au rows m).snd.length) 8)) (L1 [_,_,_] [] 0x88080ef442084080ec041 (Nat.div_add_mod ((Mine.Au rows m).snd.length) 8));refine g1 0x314b281041 (λ_ a=>a (L1 [_] [] kc hb)) ?_;intro;refine oo (by decide) (by decide) ((Au rows m).2.length/8) (λ_(_:Option V×Option V)=>True) (λj w=>[some (.bytes l),some (.int ack),some (.int (CD ack ((Ba (Au rows m).2).take j) (VJ ack rows m))),some (.int (Au rows m).1),some (.bytes (Au rows m).2),w.1,w.2]) (λ_ _=>[⟨n,.list (rows.map Dn),true⟩]) ⟨w.2.2.1,w.2.2.2⟩ rfl trivial rfl rfl ?_ ?_ (λj w' hj _ Q' Ow=>?_) (λw _=>?_)
    ·rw[hq,Nat.mul_div_cancel_left _ (by decide:0<8)];exact My _
    ·rw[hq];exact Rk _ (L2 [_,_] [] 0x407612187e81642020fd02c80201 hb hq)
    ·have e1:cut (Au rows m).2 (some (4+(j:Int)*8)) (some (4+(j:Int)*8+4))=((Au rows m).2.drop (8*j+4)).take 4:=by
      rw[Go (by exact L0 [_] [] 0xfa03c2073a066041) (by exact L0 [_] [] 0x20720fa03c2073ad03e80f081cea041) (by exact L2 [_,_,_] [] 0x1006011203b090c21f903907d01e1039d6a041 hq hj)];congr 1
      ·exact gH (L1 [_,_] [] 0x1fa03c2073a20721fa03c2073ad741fa10481c80041 (bD (show 0<=4+(↑j:Int)*8+4-(4+(↑j:Int)*8) from L0 [_] [] 0x3e80f081ce881c83e80f081ceb5d066041))) (L1 [_,_] [] 0x1fa03c2073a20721fa03c2073ad741fa184040e4041 (bD (show 0<=4+(↑j:Int)*8+4-(4+(↑j:Int)*8) from L0 [_] [] 0x3e80f081ce881c83e80f081ceb5d066041)))
      ·congr 1;exact gH (L1 [_,_] [] 0xfd01e1039d03f42090390a03bd00041 (bD (show 0<=4+↑j*8 from L0 [_] [] 0xfa03c2073a066041))) (L1 [_,_] [] 0x7d01e1039d07f4308481c8101de8041 (bD (show 0<=4+↑j*8 from L0 [_] [] 0xfa03c2073a066041)))
     have e2:=NS (ack:=ack) (m0:=VJ ack rows m) hq hj;rw[<-e1] at e2;have o2:AY (cut (Au rows m).2 (some (4+(j:Int)*8)) (some (4+(j:Int)*8+4))):=by rw[e1];exact λx hx=>hO x (ph (qu hx))
     have l2:(cut (Au rows m).2 (some (4+(j:Int)*8)) (some (4+(j:Int)*8+4))).length<=4:=by rw[e1,qE];exact L1 [_] [] 0x20720010481c80041 (Nat.min_le_left 4 ((List.drop (8*j+4) (Mine.Au rows m).snd).length))
     refine g1 0x6185306 (λ_ a=>a (L1 [_] [] kc hb)) ?_;intro;refine Ai (Fo E o2 l2) [] [] rfl rfl ?_;refine g0 0x871c1202 ?_;intro;refine wB _ rfl (λq3=>?_) (λq3=>?_)
     ·refine g0 0x31c1 ?_;intro;refine wB _ rfl (λq4=>?_) (λq4=>?_)
      ·refine g0 0xc7041 ?_;intro;exact NU rfl (Ow ⟨some (.int (4+j*8)),some (.int ((num (cut (Au rows m).2 (some (4+(j:Int)*8)) (some (4+(j:Int)*8+4)))-ack)%4294967296))⟩ trivial) (by rw[e2,lW ⟨dv q3,dv q4⟩];rfl) rfl
      ·refine g0 130 ?_;intro;exact NU rfl (Ow ⟨some (.int (4+j*8)),some (.int ((num (cut (Au rows m).2 (some (4+(j:Int)*8)) (some (4+(j:Int)*8+4)))-ack)%4294967296))⟩ trivial) (by rw[e2,jU λq=>gG q4 q.2];rfl) rfl
     ·refine g0 130 ?_;intro;exact NU rfl (Ow ⟨some (.int (4+j*8)),some (.int ((num (cut (Au rows m).2 (some (4+(j:Int)*8)) (some (4+(j:Int)*8+4)))-ack)%4294967296))⟩ trivial) (by rw[e2,jU λq=>gG q3 q.1];rfl) rfl
    ·refine g0 0 ?_;intro;refine NU rfl (next ⟨some (.int (Au rows m).1),some (.bytes (Au rows m).2),w.1,w.2⟩ trivial) ?_ rfl;rw[hs,BO,lW ⟨dv q1,h8⟩,show Ba (Au rows m).2=(Ba (Au rows m).2).take ((Au rows m).2.length/8) by rw[List.take_of_length_le (by unfold Ba;simp)]];rfl
   ·refine g0 130 ?_;intro;exact NU rfl (next ⟨some (.int (Au rows m).1),some (.bytes (Au rows m).2),w.2.2.1,w.2.2.2⟩ trivial) (by rw[hs,BO,jU λq=>gG q2 (gC Int.ofNat q.2)];rfl) rfl
  ·refine g0 130 ?_;intro;exact NU rfl (next ⟨some (.int (Au rows m).1),some (.bytes (Au rows m).2),w.2.2.1,w.2.2.2⟩ trivial) (by rw[hs,BO,jU λq=>gG q1 q.1];rfl) rfl
 ·refine g0 0x480c2 ?_;intro;exact eV (fin _ _ (CH [] (by rw[Co,show rows.foldl (BO ack) 0=VJ ack rows rows.length by rw[VJ,rn]];rfl)))
end
noncomputable abbrev HN(s a n w fl:Int)(l:List Int):V:=.tup [.int s,.int a,.int n,.int w,.int fl,.bytes l]
section
variable{g:Gl}(E:AM g){d:Nat}{s r:Nat}{e me mw ma sc e2 me2 mw2 FQ FP:Int}{isc sk hm ua cl Dk BL FO De FM FS Cn:Bool}{sq ak n w fl en:Int}{l:List Int}{rows:List (Int×List Int)}{b:Bool}
include E
theorem Gu(h:PO l rows b)(hl:l.length<=1000):Bb g (d+3) 508 [.ref s,.bytes l] [s] [(s,Br e me mw ma sc isc sk hm ua cl Dk)] [(s,Br e me mw ma (max (Ah rows) 0) (decide (0<=Ah rows)) (BP rows) hm ua cl Dk)] .none:=by refine Av E 33 [⟨s,Br e me mw ma sc isc sk hm ua cl Dk,true⟩] λm fin Ay=>?_;refine g0 132 ?_;intro;refine Ai (LH E h hl) [] [] rfl rfl ?_;refine g0 0x21860410c5041083143 ?_;intro;refine Ai (LM E h hl) [] [] rfl rfl ?_;refine g0 0x7041 ?_;intro;exact eN (Ay _ _ (fin _ _ (HE [0])))
theorem Fm(h:PO l rows b)(hl:l.length<=1000):Bb g (d+4) 515 [.ref s,HN sq ak n w fl l,.int en] [s] [(s,Br e me mw ma sc isc sk hm ua cl Dk)] [(s,Br en en (max w 1) ma (max (Ah rows) 0) (decide (0<=Ah rows)) (BP rows) hm ua cl Dk)] .none:=by refine Av E 34 [⟨s,Br e me mw ma sc isc sk hm ua cl Dk,true⟩] λm fin Ay=>?_;refine g0 0x6081143041084084081043041043 ?_;intro;refine Ai (Gu E h hl) [0] [0] rfl rfl ?_;refine g0 0 ?_;intro;exact eN (Ay _ _ (fin _ _ (HE [0])))
theorem Hd(h:PO l rows b)(hl:l.length<=1000):Bb g (d+5) 522 [.ref s,.ref r,HN sq ak n w fl l,.int en] [s,r] [(s,Br e me mw ma sc isc sk hm ua cl Dk),(r,Br e2 me2 mw2 FQ FP BL FO De FM FS Cn)]
  [(s,Br en en (max w 1) ma (if 0<=Ah rows/\BL=true then max (Ah rows) 0 else 0) (decide (0<=Ah rows)) (BP rows) hm ua cl Dk),(r,Br e2 me2 mw2 FQ (if 0<=Ah rows/\BL=true then FP else 0) BL FO De FM FS Cn)] .none:=by
 refine Av E 35 [⟨s,Br e me mw ma sc isc sk hm ua cl Dk,true⟩,⟨r,Br e2 me2 mw2 FQ FP BL FO De FM FS Cn,true⟩] λm fin Ay=>?_;refine g0 0x103045 ?_;intro;refine Ai (Fm E h hl) [0] [0] rfl rfl ?_;refine g0 0x6041 ?_;intro;refine wB _ rfl (λq1=>?_) (λq1=>?_)
 ·refine g0 0x182081 ?_;intro;refine wB _ rfl (λq2=>?_) (λq2=>?_)
  ·refine g0 129 ?_;intro;refine eN (Ay _ _ (fin _ _ (Bw [0,1] rfl ?_ rfl)));rw[lW ⟨dv q1,q2⟩,lW ⟨dv q1,q2⟩]
  ·refine g0 0x142085041042 ?_;intro;refine eN (Ay _ _ (fin _ _ (Bw [0,1] rfl ?_ rfl)));rw[jU λh=>nt q2 h.2,jU λh=>nt q2 h.2]
 ·refine g0 0x142085041042 ?_;intro;refine eN (Ay _ _ (fin _ _ (Bw [0,1] rfl ?_ rfl)));rw[jU λh=>gG q1 h.1,jU λh=>gG q1 h.1]
end
noncomputable def Bh(e me mw e2 mw2 sq en sack:Int):Bool:=CY sq (me+1)&&(mw2==0||CY (e-mw2-1) en)&&CY sack (e2+1)&&CY (e2-max mw 66000-1) sack
noncomputable def AO(q sq n:Int):Int:=(sq+n+(if q=16 then 0 else 1))%4294967296
theorem dz{a b c d:Bool}(h:a=false):V.bool false=.bool (a&&b&&c&&d):=by rw[h];rfl
theorem dy{a b c d e:Bool}(h:b=false)(k:c=false):V.bool false=.bool (a&&(b||c)&&d&&e):=by rw[h,k];cases a<;>rfl
theorem Yl{a b c d:Bool}(h:a=true)(k:b=true):V.bool (c&&d)=.bool (a&&b&&c&&d):=by rw[h,k];cases c<;>rfl
theorem eb{a b:Bool}(h:a=true):(a||b)=true:=by rw[h];rfl
theorem d9{a b:Bool}(h:b=true):(a||b)=true:=by rw[h];cases a<;>rfl
theorem iR{a:Int}(h:(a != 0)=false):(a==0)=true:=by simpa using h
theorem iQ{a:Int}(h:(a != 0)=true):(a==0)=false:=by simpa using h
theorem mE{b r:Bool}(h:b=true):V.bool r=.bool (b&&r):=by rw[h];rfl
theorem ol{b r:Bool}(h:b=false):V.bool false=.bool (b&&r):=by rw[h];rfl
section
variable{g:Gl}(E:AM g){d:Nat}{s r sl a b:Nat}{e me mw ma sc e2 me2 mw2 FQ FP:Int}{isc sk hm ua cl Dk BL FO De FM FS Cn:Bool}{sq ak n w fl en q sack Oe edge reach di st:Int}{Mg:Bool}{l:List Int}{rows:List (Int×List Int)}{bb:Bool}
include E
theorem BH{v:V}(h:Fl q fl)(hq:q=2\/q=16\/q=18):Pu g (d+1) 501 [.tup [.int sq,.int ak,.int n,.int w,.int fl,v]] (.int (AO q sq n)):=by
 have e:(sq+n+fl/2%2+fl%2)%4294967296=AO q sq n:=by rw[(BS h hq).2.2.2.2.1,(BS h hq).2.2.2.2.2];unfold AO;rw[pc]
 rw[<-e];exact Qq E
theorem CJ:Bb g (d+2) 543 [.ref s,.ref r,.int sq,.int en,.int sack] [] [(s,Br e me mw ma sc isc sk hm ua cl Dk),(r,Br e2 me2 mw2 FQ FP BL FO De FM FS Cn)] [] (.bool (Bh e me mw e2 mw2 sq en sack)):=by
 refine Av E 37 [⟨s,Br e me mw ma sc isc sk hm ua cl Dk,false⟩,⟨r,Br e2 me2 mw2 FQ FP BL FO De FM FS Cn,false⟩] λm fin Ay=>?_;refine g0 0x20410c6 ?_;intro;refine Ai (Ke E (a:=sq)) [] [] rfl rfl ?_;refine g0 0 ?_;intro;refine wN _ rfl (λq1=>?_) (λq1=>?_)
 ·refine g0 0xc2082 ?_;intro;refine eY ((mw2==0||CY (e-mw2-1) en)=true) [] [] (by kernel_rfl) (λm' Aq sub=>wB _ rfl (λq2=>?_) (λq2=>?_)) (λq2=>?_)
  ·refine g0 0x30820410441c1 ?_;intro;refine Ai (DK E) [] [] rfl rfl ?_;refine g0 0 ?_;intro;refine wN _ rfl (λq3=>?_) (λq3=>?_)
   ·refine g0 130 ?_;intro;exact eN (Aq _ 0 (d9 q3) rfl)
   ·refine g0 65 ?_;intro;exact eV (sub _ _ (fin _ _ (CH [] ((dy (iQ q2) q3)))))
  ·refine g0 130 ?_;intro;exact eN (Aq _ 0 (eb (iR q2)) rfl)
  refine g0 0x1082146 ?_;intro;refine Ai (Ke E (a:=sack)) [] [] rfl rfl ?_;refine wV _ rfl (λq3=>?_) (λq3=>?_)
  ·refine g0 0x20c10480420851c1 ?_;intro;refine Ai (DK E (b:=e2-max mw 66000-1)) [] [] rfl rfl ?_;exact eV (fin _ _ (CH [] (((mE q3).trans (Yl q1 q2)))))
  ·refine g0 2 ?_;intro;exact eV (fin _ _ (CH [] (((ol q3).trans (Yl q1 q2)))))
 ·refine g0 1 ?_;intro;exact eV (fin _ _ (CH [] ((dz q1))))
theorem CN:Bb g (d+2) 550 [.ref s,.bool Mg,.int en,.int ak,.int reach] [s] [(s,Br e me mw ma sc isc sk hm ua cl Dk)]
  [(s,Br (if CY e en then en else e) me (max mw reach) (if Mg&&(!hm||CY ma ak) then ak else ma) sc isc sk (if Mg&&(!hm||CY ma ak) then true else hm) (if CY e en then true else ua) cl Dk)] .none:=by
 refine Av E 38 [⟨s,Br e me mw ma sc isc sk hm ua cl Dk,true⟩] λm fin Ay=>?_;refine g0 0x410431c30410850c1046 ?_;intro;refine Ai (DK E (a:=en)) [] [] rfl rfl ?_;refine g0 0 ?_;intro;refine Zu (CY e en) [0] (λt=>[(s,Br (if t then en else e) me (max mw reach) ma sc isc sk hm (if t then true else ua) cl Dk)]) (by kernel_rfl) (λ_ m' Aq _=>?_) (λ_ m' Aq _=>?_) ?_
 ·refine g0 0x2410410410c1 ?_;intro;exact eN (Aq _ 0 trivial rfl)
 ·refine g0 2 ?_;intro;exact eN (Aq _ 0 trivial rfl)
 refine g0 2 ?_;intro;refine wB _ rfl (λq1=>?_) (λq1=>?_)
 ·refine g0 0x201041 ?_;intro;refine wN _ rfl (λq2=>?_) (λq2=>?_)
  ·refine g0 0x1010441c2 ?_;intro;refine Ai (DK E (a:=ak)) [] [] rfl rfl ?_;refine g0 0 ?_;intro;refine wB _ rfl (λq3=>?_) (λq3=>?_)
   ·refine g0 0x201044041101041 ?_;intro;refine eN (Ay _ _ (fin _ _ (Bw [0] rfl ?_ rfl)));rw[q1,q2,q3];rfl
   ·refine g0 0x2082 ?_;intro;refine eN (Ay _ _ (fin _ _ (Bw [0] rfl ?_ rfl)));rw[q1,q2,q3];rfl
  ·refine g0 0x201044041101041 ?_;intro;refine eN (Ay _ _ (fin _ _ (Bw [0] rfl ?_ rfl)));rw[q1,q2];rfl
 ·refine g0 130 ?_;intro;refine eN (Ay _ _ (fin _ _ (Bw [0] rfl ?_ rfl)));rw[q1];rfl
theorem Cf:Bb g (d+2) 557 [.ref s,.ref r,.int en,.int ak,.int edge,.int Oe] [r] [(s,Br e me mw ma sc isc sk hm ua cl Dk),(r,Br e2 me2 mw2 FQ FP BL FO De FM FS Cn)]
  [(r,Br e2 (if CY (me2-1) edge then(edge+(if Oe=0 then 1 else 0))%4294967296 else me2) (if mw2≠0/\CY me en=true then(mw2+en-me)%4294967296 else mw2) FQ FP BL FO De (if ak=e2 then false else FM) FS Cn)] .none:=by
 refine Av E 39 [⟨s,Br e me mw ma sc isc sk hm ua cl Dk,false⟩,⟨r,Br e2 me2 mw2 FQ FP BL FO De FM FS Cn,true⟩] λm fin Ay=>?_;refine g0 0x3082 ?_;intro;refine eY True [1] [(r,Br e2 me2 (if mw2≠0/\CY me en=true then(mw2+en-me)%4294967296 else mw2) FQ FP BL FO De FM FS Cn)] (by kernel_rfl) (λm' Aq sub=>wB _ rfl (λq1=>?_) (λq1=>?_)) (λ_=>?_)
 ·refine g0 0x810431c1 ?_;intro;refine Ai (DK E (a:=en)) [] [] rfl rfl ?_;refine g0 0 ?_;intro;refine wB _ rfl (λq2=>?_) (λq2=>?_)
  ·refine g0 0x30820420410c3082041 ?_;intro;exact eN (Aq _ 0 trivial (by rw[lW ⟨gG (iQ q1),q2⟩];rfl))
  ·refine g0 130 ?_;intro;exact eN (Aq _ 0 trivial (by rw[jU λh=>nt q2 h.2];rfl))
 ·refine g0 130 ?_;intro;exact eN (Aq _ 0 trivial (by rw[jU λh=>h.1 (dv (iR q1))];rfl))
 refine g0 0x2082147 ?_;intro;refine Ai (DK E (a:=edge)) [] [] rfl rfl ?_;refine g0 0 ?_;intro;refine Zu (CY (me2-1) edge) [1] (λt=>[(r,Br e2 (if t then(edge+(if Oe=0 then 1 else 0))%4294967296 else me2) (if mw2≠0/\CY me en=true then(mw2+en-me)%4294967296 else mw2) FQ FP BL FO De FM FS Cn)]) (by kernel_rfl) (λ_ m' Aq _=>?_) (λ_ m' Aq _=>?_) ?_
 ·refine g0 0x6141 ?_;intro;refine nX (Oe=0) (λi=>.int (@ite _ _ i 1 0)) (by kernel_rfl) (λ_ m' Aq=>?_) (λ_ m' Aq=>?_) ?_
  ·refine g0 1 ?_;intro;exact eV (Aq _ _ 0 rfl rfl)
  ·refine g0 2 ?_;intro;exact eV (Aq _ _ 0 rfl rfl)
  refine g0 0x82081 ?_;intro;exact eN (Aq _ 0 trivial rfl)
 ·refine g0 2 ?_;intro;exact eN (Aq _ 0 trivial rfl)
 refine g0 0x42084 ?_;intro;refine iZ (ak=e2) [1] (λi=>[(r,Br e2 (if CY (me2-1) edge then(edge+(if Oe=0 then 1 else 0))%4294967296 else me2) (if mw2≠0/\CY me en=true then(mw2+en-me)%4294967296 else mw2) FQ FP BL FO De (@ite _ _ i false FM) FS Cn)]) (by kernel_rfl) (λ_ m' Aq _=>?_) (λ_ m' Aq _=>?_) ?_
 ·refine g0 0x242081 ?_;intro;exact eN (Aq _ 0 trivial rfl)
 ·refine g0 2 ?_;intro;exact eN (Aq _ 0 trivial rfl)
 refine g0 0 ?_;intro;exact eN (Ay _ _ (fin _ _ (HE [1])))
theorem Im(h:PO l rows bb)(hl:l.length<=1000)(hf:(Builtin.bitAnd fl 16==0)=false):Bb g (d+6) 529 [.ref sl,.int 1,HN sq ak n w fl l,.int en] [s,r] [(sl,.list [.ref r,.ref s]),(s,Br e me mw ma sc isc sk hm ua cl Dk),(r,Br e2 me2 mw2 FQ FP BL FO De FM FS Cn)]
  [(s,Br en en (max w 1) ma (if 0<=Ah rows/\BL=true then max (Ah rows) 0 else 0) (decide (0<=Ah rows)) (BP rows) hm ua cl Dk),(r,Br e2 me2 mw2 FQ (if 0<=Ah rows/\BL=true then FP else 0) BL FO De FM FS Cn)] (.bool false):=by
 refine Av E 36 [⟨sl,.list [.ref r,.ref s],false⟩,⟨s,Br e me mw ma sc isc sk hm ua cl Dk,true⟩,⟨r,Br e2 me2 mw2 FQ FP BL FO De FM FS Cn,true⟩] λm fin Ay=>?_;refine g0 0x40c1041081045042 ?_;intro;refine Ai (Hd E h hl) [1,2] [1,2] rfl rfl ?_;refine g0 0x4143 ?_;intro;exact eV (fin _ _ (CH [1,2] ((gC V.bool hf))))
end
def Dir(di:Int)(a b s r:Nat):Prop:=(di=0/\a=s/\b=r)\/(di=1/\a=r/\b=s)
section
variable{g:Gl}(E:AM g){d:Nat}{s r sl a b:Nat}{e me mw ma sc e2 me2 mw2 FQ FP:Int}{isc sk hm ua cl Dk BL FO De FM FS Cn:Bool}{sq ak n w fl en q sack Oe edge reach di st:Int}{Mg:Bool}{l:List Int}{rows:List (Int×List Int)}{bb:Bool}
include E
theorem Dz(hd:Dir di a b s r)(hq:Fl q fl)(bm:q=2\/q=16\/q=18)(hw:mw≠0)(hs:(Builtin.bitAnd fl 2 != 0)=false\/st=0):Bb g (d+7) 564 [.ref sl,.int di,.int st,HN sq ak n w fl l,.int sack] [] [(sl,.list [.ref a,.ref b]),(s,Br e me mw ma sc isc sk hm ua cl Dk),(r,Br e2 me2 mw2 FQ FP BL FO De FM FS Cn)] [] (.bool false):=by
 rcases hd with ⟨rfl,rfl,rfl⟩|⟨rfl,rfl,rfl⟩
 ·refine Av E 40 [⟨sl,.list [.ref a,.ref b],false⟩,⟨a,Br e me mw ma sc isc sk hm ua cl Dk,false⟩,⟨b,Br e2 me2 mw2 FQ FP BL FO De FM FS Cn,false⟩] λm fin Ay=>?_;refine g0 0x10a1c2042046041081 ?_;intro;refine Ai (BH E hq bm) [] [] rfl rfl ?_;refine g1 0x2430c2189105108 (λ_ a=>a (s7.mpr hw)) ?_;intro;refine wB _ rfl (λq1=>?_) (λq1=>?_)
  ·have h0:st=0:=hs.elim (λh=>nt h q1) id;have h1:((List.map QI [V.int 1,V.int 2]).any λx=>x==st)=false:=by rw[h0];rfl
   refine g1 0x21010c1 (λ_ a=>a (h1)) ?_;intro;exact eK fin []
  ·refine g0 130 ?_;intro;exact eK fin []
 ·refine Av E 40 [⟨sl,.list [.ref a,.ref b],false⟩,⟨b,Br e me mw ma sc isc sk hm ua cl Dk,false⟩,⟨a,Br e2 me2 mw2 FQ FP BL FO De FM FS Cn,false⟩] λm fin Ay=>?_;refine g0 0x10a1c1042046081081 ?_;intro;refine Ai (BH E hq bm) [] [] rfl rfl ?_;refine g1 0x2430c2189105108 (λ_ a=>a (s7.mpr hw)) ?_;intro;refine wB _ rfl (λq1=>?_) (λq1=>?_)
  ·have h0:st=0:=hs.elim (λh=>nt h q1) id;have h1:((List.map QI [V.int 1,V.int 2]).any λx=>x==st)=false:=by rw[h0];rfl
   refine g1 0x21010c1 (λ_ a=>a (h1)) ?_;intro;exact eK fin []
  ·refine g0 130 ?_;intro;exact eK fin []
theorem G8(h:PO l rows bb)(hl:l.length<=1000)(hf:Fl 18 fl):Bb g (d+7) 564 [.ref sl,.int 1,.int 1,HN sq ak n w fl l,.int sack] [s,r] [(sl,.list [.ref r,.ref s]),(s,Br e me 0 ma sc isc sk hm ua cl Dk),(r,Br e2 me2 mw2 FQ FP BL FO De FM FS Cn)]
  [(s,Br (AO 18 sq n) (AO 18 sq n) (max w 1) ma (if 0<=Ah rows/\BL=true then max (Ah rows) 0 else 0) (decide (0<=Ah rows)) (BP rows) hm ua cl Dk),(r,Br e2 me2 mw2 FQ (if 0<=Ah rows/\BL=true then FP else 0) BL FO De FM FS Cn)] (.bool false):=by
 have h2:(Builtin.bitAnd fl 2 != 0)=true:=(BS hf (.inr (.inr rfl))).2.1;have h4:(Builtin.bitAnd fl 16==0)=false:=(BS hf (.inr (.inr rfl))).2.2.2.1;refine Av E 40 [⟨sl,.list [.ref r,.ref s],false⟩,⟨s,Br e me 0 ma sc isc sk hm ua cl Dk,true⟩,⟨r,Br e2 me2 mw2 FQ FP BL FO De FM FS Cn,true⟩] λm fin Ay=>?_;refine g0 0x10a1c1042046081081 ?_;intro;refine Ai (BH E hf (.inr (.inr rfl))) [] [] rfl rfl ?_;refine g1 0x2040813032420c2189105108 (λ_ a=>a (h2)) ?_;intro;refine Ai (Im E h hl h4) [0,1,2] [1,2] rfl rfl ?_;exact eK fin [1,2]
end
structure Sr where
 e:Int
 me:Int
 mw:Int
 ma:Int
 sc:Int
 isc:Bool
 sk:Bool
 hm:Bool
 ua:Bool
noncomputable abbrev Sr.o(x:Sr):O:=Br x.e x.me x.mw x.ma x.sc x.isc x.sk x.hm x.ua false false
noncomputable def Sr.snd(x:Sr)(en ak reach:Int):Sr:=⟨if CY x.e en then en else x.e,x.me,max x.mw reach,if true&&(!x.hm||CY x.ma ak) then ak else x.ma,x.sc,x.isc,x.sk,if true&&(!x.hm||CY x.ma ak) then true else x.hm,if CY x.e en then true else x.ua⟩
noncomputable def Sr.rcv(y:Sr)(me en ak edge Oe:Int):Sr:=⟨y.e,if CY (y.me-1) edge then(edge+(if Oe=0 then 1 else 0))%4294967296 else y.me,if y.mw≠0/\CY me en=true then(y.mw+en-me)%4294967296 else y.mw,y.ma,y.sc,y.isc,y.sk,y.hm,if ak=y.e then false else y.ua⟩
theorem Dir.get{di:Int}(hd:Dir di a b s r):0<=di/\di<=1/\[V.ref a,.ref b][di.toNat]? =some (.ref s)/\[V.ref a,.ref b][(1-di).toNat]? =some (.ref r):=by rcases hd with ⟨rfl,rfl,rfl⟩|⟨rfl,rfl,rfl⟩<;>exact⟨by decide,by decide,rfl,rfl⟩
section
variable{g:Gl}(E:AM g){d:Nat}{s r sl a b:Nat}{x y:Sr}{sq ak n w fl sack di st:Int}{l:List Int}{rows:List (Int×List Int)}{bb:Bool}
include E
theorem Gz(hd:Dir di a b s r)(h:PO l rows bb)(ho:AY l)(hl:l.length<=1000)(hf:Fl 16 fl)(hw:x.mw≠0)(QL:sack=if y.sk then Co ak rows else ak)(hW:Bh x.e x.me x.mw y.e y.mw sq (AO 16 sq n) sack=false):
  Bb g (d+8) 571 [.ref sl,.int di,.int st,HN sq ak n w fl l] [] [(sl,.list [.ref a,.ref b]),(s,x.o),(r,y.o)] [] (.bool false):=by
 subst QL;have hb:=BS hf (.inr (.inl rfl));have h4:=hb.1;have h2:(Builtin.bitAnd fl 2 != 0)=false:=hb.2.1;have Ks:(Builtin.bitAnd fl 16==0)=false:=hb.2.2.2.1;have d0:=hd.get;refine Av E 41 [⟨sl,.list [.ref a,.ref b],false⟩,⟨s,x.o,false⟩,⟨r,y.o,false⟩] λm fin Ay=>?_;refine g0 0x1081 ?_;intro;refine sL rfl d0.1 (L1 [] [_] 0x43904083e84804c82441 d0.2.1) d0.2.2.1 ?_;refine g0 0x42045 ?_;intro;refine sL rfl (L1 [] [_] 0x4390408200873d066041 d0.2.1) (L1 [] [_] 0xcc083e84804c8021cf6441 d0.1) d0.2.2.2 ?_;refine g0 0x70c62451080841c1106 ?_;intro;refine Zt y.sk (λt=>.int (if t then Co ak rows else ak)) (by kernel_rfl) (λ_ m' Aq=>?_) (λ_ m' Aq=>?_) ?_
 ·refine g0 0x8184441 ?_;intro;refine Ai (Dy E h ho hl) [] [] rfl rfl ?_;exact eV (Aq _ _ 0 rfl rfl)
 ·refine g0 514 ?_;intro;exact eV (Aq _ _ 0 rfl rfl)
 refine g0 0xa10308134a ?_;intro;refine Ai (Dz (d:=d) E hd hf (.inr (.inl rfl)) hw (.inl h2)) [0,1,2] [] rfl rfl ?_;refine g0 0x4382 ?_;intro;refine Ai (BH E hf (.inr (.inl rfl))) [] [] rfl rfl ?_;refine g1 0xa2c718548210424208410910424b (λ_ a=>a (h4) (h4) (Ks)) ?_;intro;refine Ai (CJ E) [1,2] [] rfl rfl ?_;refine g1 3 (λ_ a=>a (ip hW)) ?_;intro;exact eK fin []
theorem Gy(hd:Dir di a b s r)(h:PO l rows bb)(ho:AY l)(hl:l.length<=1000)(hf:Fl 16 fl)(hw:x.mw≠0)(QL:sack=if y.sk then Co ak rows else ak)(hW:Bh x.e x.me x.mw y.e y.mw sq (AO 16 sq n) sack=true)(h0:0<=w)(h1:w<65536)(Uj:0<=x.sc)(WR:x.sc<=14):
  Bb g (d+8) 571 [.ref sl,.int di,.int st,HN sq ak n w fl l] [s,r] [(sl,.list [.ref a,.ref b]),(s,x.o),(r,y.o)]
   [(s,(x.snd (AO 16 sq n) ak ((w*2^x.sc.toNat+sack-ak)%4294967296)).o),(r,(y.rcv x.me (AO 16 sq n) ak ((sack+w*2^x.sc.toNat)%4294967296) (w*2^x.sc.toNat)).o)] (.bool true):=by
 subst QL;have hb:=BS hf (.inr (.inl rfl));have h4:=hb.1;have h2:(Builtin.bitAnd fl 2 != 0)=false:=hb.2.1;have Ks:(Builtin.bitAnd fl 16==0)=false:=hb.2.2.2.1;have QP:(Builtin.bitAnd fl 16 != 0)=true:=hb.2.2.1;have d0:=hd.get;have hsh:0<=x.sc/\x.sc<=1000000/\w.natAbs<2^64:=⟨Uj,⟨L1 [] [_] 0x383904083e84804c82041 WR,L2 [_] [_] 0x3f42088000132091060000000000000000dc80441 h1 (qX (show 0<=w from h0))⟩⟩;refine Av E 41 [⟨sl,.list [.ref a,.ref b],false⟩,⟨s,x.o,true⟩,⟨r,y.o,true⟩] λm fin Ay=>?_;refine g0 0x1081 ?_;intro;refine sL rfl d0.1 (L1 [] [_] 0x43904083e84804c82441 d0.2.1) d0.2.2.1 ?_;refine g0 0x42045 ?_;intro;refine sL rfl (L1 [] [_] 0x4390408200873d066041 d0.2.1) (L1 [] [_] 0xcc083e84804c8021cf6441 d0.1) d0.2.2.2 ?_;refine g0 0x70c62451080841c1106 ?_;intro;refine Zt y.sk (λt=>.int (if t then Co ak rows else ak)) (by kernel_rfl) (λ_ m' Aq=>?_) (λ_ m' Aq=>?_) ?_
 ·refine g0 0x8184441 ?_;intro;refine Ai (Dy E h ho hl) [] [] rfl rfl ?_;exact eV (Aq _ _ 0 rfl rfl)
 ·refine g0 514 ?_;intro;exact eV (Aq _ _ 0 rfl rfl)
 refine g0 0xa10308134a ?_;intro;refine Ai (Dz (d:=d) E hd hf (.inr (.inl rfl)) hw (.inl h2)) [0,1,2] [] rfl rfl ?_;refine g0 0x4382 ?_;intro;refine Ai (BH E hf (.inr (.inl rfl))) [] [] rfl rfl ?_;refine g1 0xa2c718548210424208410910424b (λ_ a=>a (h4) (h4) (Ks)) ?_;intro;refine Ai (CJ E) [1,2] [] rfl rfl ?_;refine g1 0x120a3082c42453cc0c5085104104244 (λ_ a=>a (hsh) (h2) (UB hW)) ?_;intro;refine Ai (CN (hm:=x.hm) E) [1] [1] rfl rfl ?_;refine g0 0xc04c2882c6150 ?_;intro;refine Ai (Cf E) [1,2] [2] rfl rfl ?_;refine g0 0 ?_;intro;refine eV (fin _ _ (Qa [1,2] rfl ?_ rfl (by kernel_rfl)));rw[QP];rfl
end
theorem Ek(h1:e=e')(h2:me=me')(h3:mw=mw')(h4:ma=ma')(h5:sc=sc')(h6:isc=isc')(h7:sk=sk')(h8:hm=hm')(h9:ua=ua'):Br e me mw ma sc isc sk hm ua cl Dk=Br e' me' mw' ma' sc' isc' sk' hm' ua' cl Dk:=by subst h1 h2 h3 h4 h5 h6 h7 h8 h9;rfl
theorem DB(a:Int):CY a a=false:=by unfold CY;rw[Int.sub_self];rfl
theorem EF(h:2147483648<=(a-b)%4294967296):CY a b=true:=by unfold CY;rw[rM];exact bC (L3 [] [_,_,_] 0x103302084401000000007dea8412000000007c864410872082000000007 (bX (a-b) (show(0:Int)<4294967296 by decide)) (bf ((a-b)%4294967296) 2147483648) (dq ((a-b)%4294967296) (show(2147483648:Int)≠0 by decide))) (L3 [] [_,_,_] 0x800000003e4522084401000000007dea86108800000003e60410043982000000007 h (bf ((a-b)%4294967296) 2147483648) (bX ((a-b)%4294967296) (show(0:Int)<2147483648 by decide)))
theorem Qf(hq:q≠16):AO q sq n=(sq+n+1)%4294967296:=by unfold AO;rw[jU hq]
theorem Zg{w:Int}(h0:0<=w)(h1:w<65536):1<=max w 1/\max w 1<65536:=⟨L1 [] [_] 0x4398104010e6041 (lX w 1),DF w 1 (λu0 v0=>L1 [] [_] 0x43905082200004c82441 v0) (λu0 v0=>L2 [] [_,_] 0x20a10440000990c882200004c82441 h1 v0)⟩
theorem KE{w sq n:Int}(h0:0<=w)(h1:w<65536)(OC:0<=n)(Nd:n<=1000):Bh (AO 2 sq n) (AO 2 sq n) (max w 1) 0 0 sq (AO 2 sq n) 0=true:=by have hw:=Zg h0 h1;rw[Qf (by decide)];generalize max w 1=W at hw;clear h0 h1;unfold Bh;rw[EF (a:=sq) (by clear hw;exact L2 [] [_,_] 0x7fffffff1f21f681430fd02c8604100800000003e6041 Nd (show(sq-((sq+n+1)%4294967296+1))%4294967296= -n+4294967294 from Fh ((sq+n+1)/4294967296-1) (bC (L1 [] [_,_,_,_] 0x10e440d68232000000007dea86108723e9000000003ec7fffffff1f22f6b410e43a076041 (bf (sq+n+1) 4294967296)) (L1 [] [_,_,_,_] 0x10e402d68612000000007dea84108723d0ba10e43d2000000007d8fffffffe3e41ed6a041 (bf (sq+n+1) 4294967296))) (L1 [] [_] 0x7d02c820411fffffffc7c83da066041 Nd) (L1 [] [_] 0x330209000000003e47fffffff1f20f6a441 OC))),EF (a:=0) (b:=0+1) (by decide),EF (b:=0) (by clear OC Nd;exact DF W 66000 (λu0 v0=>L2 [] [_,_] 0x1fffffffe7c87da050c2203a04c8684100800000003e6041 v0 (show(0-Max.max W 66000-1-0)%4294967296= -Max.max W 66000+4294967295 from Fh (-1) (bC (L0 [] [_] 0x439f1000000003ec7fffffff9f20f6b40c84390033def6041) (L0 [] [_] 0x3210e400cf7bd0873e2000000007d8ffffffff3e41ed6a041)) (L1 [] [_] 0x203a04c828411fffffffe7c83da066041 v0) (L1 [] [_] 0x101d026414309000000003e47fffffff9f20f6a441 v0))) (λu0 v0=>L2 [] [_,_] 0x1101d026604110000264322080400000001f300 hw.2 u0))];rfl
theorem KG{w sq n e0 mw0:Int}(h0:0<=w)(h1:w<65536)(OC:0<=n)(Nd:n<=1000)(bu:0<=e0)(bs:e0<4294967296)(FR:1<=mw0)(Dj:mw0<65536):Bh (AO 18 sq n) (AO 18 sq n) (max w 1) e0 mw0 sq (AO 18 sq n) e0=true:=by have hw:=Zg h0 h1;rw[Qf (by decide)];generalize max w 1=W at hw;clear h0 h1;unfold Bh;rw[EF (a:=sq) (by clear hw bu bs FR Dj;exact L2 [] [_,_] 0x7fffffff1f21f681430fd02c8604100800000003e6041 Nd (show(sq-((sq+n+1)%4294967296+1))%4294967296= -n+4294967294 from Fh ((sq+n+1)/4294967296-1) (bC (L1 [] [_,_,_,_] 0x10e440d68232000000007dea86108723e9000000003ec7fffffff1f22f6b410e43a076041 (bf (sq+n+1) 4294967296)) (L1 [] [_,_,_,_] 0x10e402d68612000000007dea84108723d0ba10e43d2000000007d8fffffffe3e41ed6a041 (bf (sq+n+1) 4294967296))) (L1 [] [_] 0x7d02c820411fffffffc7c83da066041 Nd) (L1 [] [_] 0x330209000000003e47fffffff1f20f6a441 OC))),EF (a:=e0) (by clear OC Nd hw FR Dj;exact L1 [] [_] 0x1fffffffe7c8286100800000003e6041 (show(e0-(e0+1))%4294967296=4294967295 from Fh (-1) (bC (L0 [] [_] 0x873e2000000007d8ffffffff3e7410e41a076041) (L0 [] [_] 0x8720d03a10e7c400000000fb1fffffffe7cea041)) (L0 [] [] 0x3fffffffcf9066041) (L0 [] [] 0x2000000007c8ffffffff3e6441))),EF (b:=e0) (by clear OC Nd FR Dj;exact DF W 66000 (λu0 v0=>L2 [] [_,_] 0x1fffffffe7c87da050c2203a04c8684100800000003e6041 v0 (show(e0-Max.max W 66000-1-e0)%4294967296= -Max.max W 66000+4294967295 from Fh (-1) (bC (L0 [] [_,_] 0x10e7c400000000fb1fffffffe7c87dad0021c841def6041) (L0 [] [_,_] 0x1087200f7bd0873e2000000007d8ffffffff3e41ed6a041)) (L1 [] [_] 0x203a04c828411fffffffe7c83da066041 v0) (L1 [] [_] 0x101d026414309000000003e47fffffff9f20f6a441 v0))) (λu0 v0=>L2 [] [_,_] 0x1101d026604110000264322080400000001f300 hw.2 u0)),EF (b:=(sq+n+1)%4294967296) (by clear hw bu bs;exact L2 [] [_,_] 0x1fffffffe7c87da050c2200004c8644100800000003e6041 Dj (show((sq+n+1)%4294967296-mw0-1-(sq+n+1)%4294967296)%4294967296= -mw0+4294967295 from Fh (-1) (bC (L0 [] [_,_] 0x10e7c400000000fb1fffffffe7c87dad0021c841def6041) (L0 [] [_,_] 0x1087200f7bd0873e2000000007d8ffffffff3e41ed6a041)) (L1 [] [_] 0x200004c824411fffffffe7c83da066041 Dj) (L1 [] [_] 0x8730209000000003e47fffffff9f20f6a441 FR)))];simp
theorem Tx(h:o=o')(k:u=u'):([(i,o),(j,u)]:AW)=[(i,o'),(j,u')]:=by rw[h,k]
section
variable{g:Gl}(E:AM g){d:Nat}{s r sl a b:Nat}{x y:Sr}{sq ak n w fl sack di st sc en e0 mw0 sc0 m:Int}{isc sk isc0 sk0:Bool}{l:List Int}{rows:List (Int×List Int)}{bb:Bool}
include E
theorem FD(cy:en=AO 2 sq n)(hf:Fl 2 fl)(h0:0<=w)(h1:w<65536)(OC:0<=n)(Nd:n<=1000):
  Bb g (d+8) 571 [.ref sl,.int 0,.int 0,HN sq ak n w fl l] [a,b] [(sl,.list [.ref a,.ref b]),(a,Br en en (max w 1) 0 sc isc sk false false false false),(b,Br 0 0 0 0 0 false false false false false false)]
   [(a,Br en en (max w 1) 0 sc isc sk false false false false),(b,Br 0 (max w 1) 0 0 0 false false false false false false)] (.bool true):=by
 have hb:=BS hf (.inl rfl);have h4:=hb.1;have h2:(Builtin.bitAnd fl 2 != 0)=true:=hb.2.1;have Ks:(Builtin.bitAnd fl 16==0)=true:=hb.2.2.2.1;have QP:(Builtin.bitAnd fl 16 != 0)=false:=hb.2.2.1;have hw:max w 1≠0:=λe0=>L2 [] [_] 0x43981041905083e0 e0 (lX w 1);have hW:Bh en en (max w 1) 0 0 sq (AO 2 sq n) 0=true:=by rw[cy];exact KE h0 h1 OC Nd
 have lj:Dir 0 a b a b:=.inl ⟨rfl,rfl,rfl⟩;refine Av E 41 [⟨sl,.list [.ref a,.ref b],false⟩,⟨a,Br en en (max w 1) 0 sc isc sk false false false false,true⟩,⟨b,Br 0 0 0 0 0 false false false false false false,true⟩] λm fin Ay=>?_;refine g0 0xa10308134a2021c3189144202107044182042045041081 ?_;intro;refine Ai (Dz (d:=d) E lj hf (.inl rfl) hw (.inr rfl)) [0,1,2] [] rfl rfl ?_;refine g0 0x4382 ?_;intro;refine Ai (BH E hf (.inl rfl)) [] [] rfl rfl ?_;refine g1 0xa2c718548210424a2080431810c424b (λ_ a=>a (h4) (Ks)) ?_;intro;refine Ai (CJ E) [1,2] [] rfl rfl ?_;refine g1 0x120a3082c42453cc1040c4244 (λ_ a=>a (h2) (UB hW)) ?_;intro;refine Ai (CN E) [1] [1] rfl rfl ?_;refine g0 0xc04c2882c6150 ?_;intro;refine Ai (Cf E) [1,2] [2] rfl rfl ?_;refine g0 0 ?_;intro;refine eV (fin _ _ (Qa [1,2] rfl ?_ rfl (by kernel_rfl)));rw[QP];refine Tx (Ek (by rw[<-cy,DB];rfl) rfl (w1 h0 h1) rfl rfl rfl rfl rfl (by rw[<-cy,DB];rfl)) (Ek rfl (by rw[EF (w2 h0 h1)];simp only[if_true];split<;>rename_i c<;>first|exact(w3 c).trans (w5 h0 h1)|exact(w4 h0 c).trans (w5 h0 h1)) (by rfl) rfl rfl rfl rfl rfl rfl)
theorem FE(h:PO l rows bb)(ho:AY l)(hl:l.length<=1000)(hf:Fl 18 fl)(h0:0<=w)(h1:w<65536)(OC:0<=n)(Nd:n<=1000)(bu:0<=e0)(bs:e0<4294967296)(FR:1<=mw0)(Dj:mw0<65536)(h5:Co e0 rows=e0):
  Bb g (d+8) 571 [.ref sl,.int 1,.int 1,HN sq e0 n w fl l] [b,a] [(sl,.list [.ref a,.ref b]),(b,Br 0 m 0 0 0 false false false false false false),(a,Br e0 e0 mw0 0 sc0 isc0 sk0 false false false false)]
   [(b,Br (AO 18 sq n) (AO 18 sq n) (max w 1) e0 (if 0<=Ah rows/\isc0=true then max (Ah rows) 0 else 0) (decide (0<=Ah rows)) (BP rows) true false false false),(a,Br e0 ((e0+max w 1)%4294967296) mw0 0 (if 0<=Ah rows/\isc0=true then sc0 else 0) isc0 sk0 false false false false)] (.bool true):=by
 have hb:=BS hf (.inr (.inr rfl));have h4:=hb.1;have h2:(Builtin.bitAnd fl 2 != 0)=true:=hb.2.1;have Ks:(Builtin.bitAnd fl 16==0)=false:=hb.2.2.2.1;have QP:(Builtin.bitAnd fl 16 != 0)=true:=hb.2.2.1;have hW:=KG (sq:=sq) h0 h1 OC Nd bu bs FR Dj;refine Av E 41 [⟨sl,.list [.ref a,.ref b],false⟩,⟨b,Br 0 m 0 0 0 false false false false false false,true⟩,⟨a,Br e0 e0 mw0 0 sc0 isc0 sk0 false false false false,true⟩] λm fin Ay=>?_;refine g0 0x1c3189144202107044181042045081081 ?_;intro;refine jX (.int e0) (by kernel_rfl) (λm' Aq=>wB _ rfl (λq1=>?_) (λq1=>?_)) ?_
 ·refine g0 0x8184441 ?_;intro;refine Ai (Dy E h ho hl) [] [] rfl rfl ?_;exact eV (Aq _ _ 0 rfl (gC V.int h5))
 ·refine g0 514 ?_;intro;exact eV (Aq _ _ 0 rfl rfl)
 refine g0 0xa10308134a ?_;intro;refine Ai (G8 (d:=d) E h hl hf) [0,1,2] [1,2] rfl rfl ?_;refine g0 0x4382 ?_;intro;refine Ai (BH E hf (.inr (.inr rfl))) [] [] rfl rfl ?_;refine g1 0xa2c718548210424208410910424b (λ_ a=>a (h4) (h4) (Ks)) ?_;intro;refine Ai (CJ E) [1,2] [] rfl rfl ?_;refine g1 0x120a3082c42453cc1040c4244 (λ_ a=>a (h2) (UB hW)) ?_;intro;refine Ai (CN E) [1] [1] rfl rfl ?_;refine g0 0xc04c2882c6150 ?_;intro;refine Ai (Cf E) [1,2] [2] rfl rfl ?_;refine g0 0 ?_;intro;refine eV (fin _ _ (Qa [1,2] rfl ?_ rfl (by kernel_rfl)));rw[QP];refine Tx (Ek (by rw[DB];rfl) rfl (w1 h0 h1) rfl rfl rfl rfl rfl (by rw[DB];rfl)) (Ek rfl (by rw[EF (w2 h0 h1)];simp only[if_true];split<;>rename_i c<;>first|exact w3 c|exact w4 h0 c) (by rw[DB];simp) rfl rfl rfl rfl rfl (by rw[lW rfl]))
end
section
variable{g:Gl}(E:AM g){d:Nat}{s r sl a b tk sn pk:Nat}{x y xa xb:Sr}{sq ak n w fl di st now un si stt num:Int}{l:List Int}{A B:O}{t0 t1 v0 gM:V}{i1 i2:Int}{rf:Nat->Nat}
def a8(g:Gl)(d:Nat)(sl a b:Nat)(di st:Int)(sg:V)(A B:O)(xa xb:Sr):Prop:=Bb g (d+8) 571 [.ref sl,.int di,.int st,sg] [a,b] [(sl,.list [.ref a,.ref b]),(a,A),(b,B)] [(a,xa.o),(b,xb.o)] (.bool true)
theorem Bb.swap(h:Bb g d fa args [i,j] [(k,q),(i,o),(j,p)] [(i,o'),(j,p')] v):Bb g d fa args [j,i] [(k,q),(j,p),(i,o)] [(j,p'),(i,o')] v:=λos K I hk=>h os K ⟨I.toCh.mono λx hx=>by simp at hx⊢;exact hx.symm,(I.perm ((List.Perm.swap _ _ _).cons _)).at_,(I.perm ((List.Perm.swap _ _ _).cons _)).nd⟩ λAe J=>hk Ae ⟨J.toCh.mono λx hx=>by simp at hx⊢;exact hx.symm,(J.perm (.swap _ _ _)).at_,(J.perm (.swap _ _ _)).nd⟩
include E
theorem FA(GL:a8 g d sl a b di st (HN sq ak n w fl l) A B xa xb)(h4:(Builtin.bitAnd fl 4 != 0)=false)(Oj:di=0\/di=1):
  Bb g (d+9) 585 [.ref tk,HN sq ak n w fl l,.int di] [a,b] [(tk,BK num t0 t1 un si stt st (.ref sl)),(sl,.list [.ref a,.ref b]),(a,A),(b,B)] [(a,xa.o),(b,xb.o)] (.bool false):=by
 rcases Oj with rfl|rfl
 ·refine Av E 43 [⟨tk,BK num t0 t1 un si stt st (.ref sl),false⟩,⟨sl,.list [.ref a,.ref b],false⟩,⟨a,A,true⟩,⟨b,B,true⟩] λm fin Ay=>?_;refine g1 0x22410432810460841050840820ca041 (λ_ a=>a (h4)) ?_;intro;refine Ai GL [1,2,3] [2,3] rfl rfl ?_;refine g0 2 ?_;intro;exact eK fin [2,3]
 ·refine Av E 43 [⟨tk,BK num t0 t1 un si stt st (.ref sl),false⟩,⟨sl,.list [.ref a,.ref b],false⟩,⟨a,A,true⟩,⟨b,B,true⟩] λm fin Ay=>?_;refine g1 0x22410432810460841050840420ca041 (λ_ a=>a (h4)) ?_;intro;refine Ai GL [1,2,3] [2,3] rfl rfl ?_;refine g0 2 ?_;intro;exact eK fin [2,3]
theorem FC(hd:Dir di a b s r){rows:List (Int×List Int)}{bb:Bool}{sack:Int}(h:PO l rows bb)(ho:AY l)(hl:l.length<=1000)(hf:Fl 16 fl)(hw:x.mw≠0)(QL:sack=if y.sk then Co ak rows else ak)(hW:Bh x.e x.me x.mw y.e y.mw sq (AO 16 sq n) sack=false):
  Bb g (d+9) 585 [.ref tk,HN sq ak n w fl l,.int di] [] [(tk,BK num t0 t1 un si stt st (.ref sl)),(sl,.list [.ref a,.ref b]),(s,x.o),(r,y.o)] [] (.bool true):=by
 have h4:=(BS hf (.inr (.inl rfl))).1;have GL:=Gz (d:=d) (sl:=sl) (st:=st) (w:=w) E hd h ho hl hf hw QL hW;rcases hd with ⟨rfl,rfl,rfl⟩|⟨rfl,rfl,rfl⟩
 ·refine Av E 43 [⟨tk,BK num t0 t1 un si stt st (.ref sl),false⟩,⟨sl,.list [.ref a,.ref b],false⟩,⟨a,x.o,false⟩,⟨b,y.o,false⟩] λm fin Ay=>?_;refine g1 0x22410432810460841050840820ca041 (λ_ a=>a (h4)) ?_;intro;refine Ai GL [1,2,3] [] rfl rfl ?_;refine g0 0xb0c1083281041 ?_;intro;exact eK fin []
 ·refine Av E 43 [⟨tk,BK num t0 t1 un si stt st (.ref sl),false⟩,⟨sl,.list [.ref a,.ref b],false⟩,⟨b,x.o,false⟩,⟨a,y.o,false⟩] λm fin Ay=>?_;refine g1 0x22410432810460841050840420ca041 (λ_ a=>a (h4)) ?_;intro;refine Ai GL [1,2,3] [] rfl rfl ?_;refine g0 0xb0c2083281041 ?_;intro;exact eK fin []
theorem G7(Cg:st=1\/st=2\/st=3)(h2:(st==3)=false\/(Builtin.bitAnd stt 2==0)=false):Bb g (d+2) 592 [.ref tk,.int now] [tk] [(tk,BK num t0 t1 un si stt st (.ref sl)),(sl,.list [.ref a,.ref b]),(a,xa.o),(b,xb.o)]
  [(tk,BK num t0 t1 (now+if xa.ua||xb.ua then min (CA st) 300000 else CA st) si stt st (.ref sl))] .none:=by
 refine Av E 44 [⟨tk,BK num t0 t1 un si stt st (.ref sl),true⟩,⟨sl,.list [.ref a,.ref b],false⟩,⟨a,xa.o,false⟩,⟨b,xb.o,false⟩] λm fin Ay=>?_;refine g0 0x241045 ?_;intro;refine Ai (LG E Cg) [] [] rfl rfl ?_;refine g0 0x241043 ?_;intro;refine jA (.bool false) (by kernel_rfl) (λm' Aq=>wV _ rfl (λq1=>?_) (λq1=>?_)) ?_
 ·have h3:(Builtin.bitAnd stt 2==0)=false:=h2.elim (λh=>nt h q1) id;refine g0 0x4201041 ?_;intro;exact eV (Aq _ (gC V.bool h3))
 ·refine g0 2 ?_;intro;exact eV (Aq _ rfl)
 refine g0 0x243042281042104 ?_;intro;refine wB _ rfl (λq1=>?_) (λq1=>?_)
 ·refine g0 0x50410c20c10c6041 ?_;intro;refine eN (Ay _ _ (fin _ _ (Bw [0] rfl ?_ rfl)));rw[q1];rfl
 ·refine g0 0x244082281042 ?_;intro;refine wB _ rfl (λq2=>?_) (λq2=>?_)
  ·refine g0 0x50410c20c10c6041 ?_;intro;refine eN (Ay _ _ (fin _ _ (Bw [0] rfl ?_ rfl)));rw[q1,q2];rfl
  ·refine g0 0x50410c2082 ?_;intro;refine eN (Ay _ _ (fin _ _ (Bw [0] rfl ?_ rfl)));rw[q1,q2];rfl
theorem Ct:Bb g (d+1) 649 [.ref sn,gM,.int i1,.int i2] [sn] [(sn,Cb pk now v0 st stt t0 rf)] [(sn,Cb pk now gM i1 i2 t0 rf)] .none:=by refine Av E 50 [⟨sn,Cb pk now v0 st stt t0 rf,true⟩] λm fin Ay=>?_;refine g0 0x181044141043101042 ?_;intro;exact eN (Ay _ _ (fin _ _ (HE [0])))
end
structure GH(dt:List Int)(src dst sp dp sq ak w fl:Int)(n:Nat)(l:List Int):Prop where
 len:dt.length=40+l.length+n
 l4:l.length%4=0
 ll:l.length<=40
 nn:n<=100
 oct:AY dt
 a0:dt[0]? =some 69
 a9:dt[9]? =some 6
 s6:num (cut dt (some 6) (some 8))=0
 s2:num (cut dt (some 2) (some 4))=(dt.length:Int)
 sp:num (cut dt (some 20) (some 22))=sp
 dp:num (cut dt (some 22) (some 24))=dp
 src:num (cut dt (some 12) (some 16))=src
 dst:num (cut dt (some 16) (some 20))=dst
 sq:num (cut (dt.drop 20) (some 4) (some 8))=sq
 ak:num (cut (dt.drop 20) (some 8) (some 12))=ak
 w:num (cut (dt.drop 20) (some 14) (some 16))=w
 b12:(dt.drop 20)[12]? =some (16*(5+(l.length:Int)/4))
 b13:(dt.drop 20)[13]? =some fl
 opts:cut (dt.drop 20) (some 20) (some (20+(l.length:Int)))=l
theorem AY.cut(h:AY l)(a b:Option Int):AY (cut l a b):=λx hx=>h x (ph (qu hx))
theorem Cj{α:Type}{l:List α}{a b:Int}{n:Nat}(h0:0<=a)(GN:a<=b)(hb:b<=l.length)(hn:b-a<=n):(cut l (some a) (some b)).length<=n:=by rw[Go h0 GN hb,qE];exact L3 [_,_,_] [_,_] 0x20e8bf42088002087e1076041080041 hn (Nat.min_le_left ((b-a).toNat) ((List.drop a.toNat l).length)) (bD (show 0<=b-a from L1 [] [_,_] 0x3020841d066041 GN))
section
variable{g:Gl}(E:AM g){d:Nat}{i j k m p:Nat}{src dst sp dp sq ak w fl q:Int}{n:Nat}{l dt:List Int}
include E
theorem Bt(e:num l=x)(h:AY l)(h4:l.length<=4):Bb g (d+1) 53 [.ref i] [] [(i,.barr l)] [] (.int x):=by
 refine Av E 0 [⟨i,.barr l,false⟩] λm fin Ay=>?_;refine g0 0x1082 ?_;intro;refine fV (TX g d i) l.length (λ_(_:Option V)=>True) (λn w=>[some (.ref i),some (.int (num (l.take n))),w]) (λ_ _=>[⟨i,.barr l,false⟩]) (λn _=>.int (l.getD n 0)) none rfl trivial rfl rfl (λ_ I=>K4 (I.st.get .head)) (λn w hn _ _ I=>⟨_,I.st.get .head,by rw[cQ hn,pF,cQ hn];rfl⟩) (λw _ _ I=>⟨_,I.st.get .head,by simp⟩) (λn w hn _ Q next=>?_) (λw _=>?_)
 ·have:=Hq h h4 n;refine g1 0x20c1083 (λ_ a=>a (this)) ?_;intro;have e:Builtin.bitOr (num (l.take n)*256) (l.getD n 0)=num (l.take (n+1)):=by rw[pF,cQ hn];exact Jt h hn
  exact NU rfl (next (some (.int (l.getD n 0))) trivial) (by rw[<-e];rfl) rfl
 ·refine g0 2 ?_;intro;exact eV (fin _ _ (CH [] (by rw[<-e,show num l=num (l.take l.length) by rw[rn]];rfl)))
theorem C7(e:num l=x)(h:AY l)(h4:l.length<=4):Pu g (d+1) 53 [.bytes l] (.int x):=by subst e;exact Fo E h h4
theorem Su(F:GH dt src dst sp dp sq ak w fl n l):Bb g (d+2) 60 [.ref i] [] [(i,.barr dt)] [] (.tup [.int 6,.int 20,.int 0,.bool false]):=by have hl:=F.len;have h2:=F.ll;have h3:=F.nn;have hb:dt.length<=1000000:=L3 [_,_,_] [] n9 hl h2 h3;have e2:=F.oct.cut (some 6) (some 8);have e3:(cut dt (some 6) (some 8)).length<=4:=Cj (by decide) (by decide) (L1 [_,_,_] [] 0x410a059d68043083e80e6041 hl) (by decide);refine Av E 1 [⟨i,.barr dt,false⟩] λm fin Ay=>?_;refine g0 69 ?_;intro;refine Xc 0 rfl hb ?_;refine g1 0x1044 (λ_ a=>a (gD (L1 [_,_,_] [] 0x410a059d680430d03907f041 hl))) ?_;intro;refine sA rfl (by decide) F.a0 hb ?_;refine g0 0x1042082 ?_;intro;refine sA rfl (by decide) F.a0 hb ?_;refine g1 0x1142082083 (λ_ a=>a (Bi (L0 [] [] 0x800000000000000037250e4441))) ?_;intro;refine Xc 0 rfl hb ?_;refine g1 0x44084 (λ_ a=>a (gD (L1 [_,_,_] [] 0x410a059d680430d03907f041 hl))) ?_;intro;refine UV 0 rfl rfl rfl hb (λn1 f1=>?_);refine g0 0 ?_;intro;refine Ai (Bt E F.s6 e2 e3) [0] [] rfl rfl ?_;refine g0 0x2043 ?_;intro;refine sA rfl (by decide) F.a9 hb ?_;refine g1 0x40c40c2 (λ_ a=>a (Bi (L0 [] [] 0x40000000000000001b9064441))) ?_;intro;exact eK fin []
theorem Wy(F:GH dt src dst sp dp sq ak w fl n l):Bb g (d+3) 123 [.ref p] [p] [(p,Cy i j (-1) (-1) 0 m),(i,.barr dt)] [(p,Cy i j 6 20 0 m)] .none:=by have hl:=F.len;have h2:=F.ll;have h3:=F.nn;have hb:dt.length<=1000000:=L3 [_,_,_] [] n9 hl h2 h3;refine Av E 4 [⟨p,Cy i j (-1) (-1) 0 m,true⟩,⟨i,.barr dt,false⟩] λm fin Ay=>?_;refine g0 0x41043043041086041141044041 ?_;intro;refine Ai (Su E F) [1] [] rfl rfl ?_;refine g0 0x10411420810c2181043084041042081082 ?_;intro;refine Xc 1 rfl hb ?_;refine g1 0x5041082043 (λ_ a=>a (jL (L1 [_,_,_] [] 0x410a059d68043083f40e6041 hl))) ?_;intro;exact eN (Ay _ _ (fin _ _ (HE [0])))
end
section
variable{g:Gl}(E:AM g){d:Nat}{i j k m p:Nat}{src dst sp dp sq ak w fl q:Int}{n:Nat}{l dt:List Int}
include E
theorem LK:CF g (d+1) 95 [] [] [] (λ_:Nat=>True) (λn=>.ref n) (λ_=>[]) (λ_=>[]):=by refine Bu E 2 [] λm fin Ay=>?_;refine g0 0 ?_;intro;refine nD (.sdict []) .s (by kernel_rfl) (λn f=>?_);refine g1 0x7f041fc107f042042fc10810bf042042fc10810bf042042fc10810bf042042081 (λ_ a=>a (by decide) (by decide) (by decide) (by decide) (by decide) (by decide) (by decide) (by decide) (by decide)) ?_;intro;exact eV (fin _ _ (Bs n [] rfl rfl rfl Bz trivial rfl))
theorem Qs(hl:l.length<=1000):CF g (d+3) 112 [.bytes l,.int 2048,.bytes []] [] [] (λ_:Nat×Nat×Nat×Nat=>True) (λx=>.ref x.1) (λx=>[(x.2.1,.barr l),(x.1,Cy x.2.1 x.2.2.1 (-1) (-1) 0 x.2.2.2)]) (λ_=>[]):=by refine JZ E 3 [] (.head _) λm n hn Ef fin Ay=>?_;refine g0 133 ?_;intro;refine nB rfl (L1 [_] [] kc hl) (λi fi=>?_);refine g1 0x417f081 (λ_ a=>a (by decide)) ?_;intro;refine nB rfl (by decide) (λj fj=>?_);refine g1 0x6fc307f0c1fc307f0c10ff0c1 (λ_ a=>a (by decide) (by decide) (by decide) (by decide) (by decide)) ?_;intro;refine A3 (LK E) [] [] rfl (λ_=>rfl) λmt hm fm=>?_;refine g1 0x3f0c1 (λ_ a=>a (by decide)) ?_;intro;exact eN (Ay _ _ (fin _ _ ⟨rfl,Bs (n,i,j,mt) [1,2] rfl rfl rfl (AI fi.1 (AI hn Bz)) trivial rfl⟩))
theorem Fk(F:GH dt src dst sp dp sq ak w fl n l):CF g (d+4) 131 [.bytes dt] [] [] (λ_:Nat×Nat×Nat×Nat=>True) (λx=>.ref x.1) (λx=>[(x.2.1,.barr dt),(x.1,Cy x.2.1 x.2.2.1 6 20 0 x.2.2.2)]) (λ_=>[]):=by have hl:=F.len;have h2:=F.ll;have h3:=F.nn;refine Bu E 5 [] λm fin Ay=>?_;refine g0 0xc2045 ?_;intro;refine A3 (Qs E (l:=dt) (L3 [_,_,_] [] 0x1905910082140b210104410a059d680420fd02c80041 hl h2 h3)) [] [] rfl (λ_=>rfl) λx hx fx=>?_;refine g0 0x4184 ?_;intro;refine Ai (Wy E F) [1,0] [1] rfl rfl ?_;refine g0 4 ?_;intro;exact eV (fin _ _ (Bs x [0,1] rfl rfl rfl (AI (fx _ (.head _)).1 (AI (fx _ (.tail _ (.head _))).1 Bz)) trivial rfl))
end
theorem mZ{s a n n' w fl:Int}{l l':List Int}(h:n=n')(k:l=l'):HN s a n w fl l=HN s a n' w fl l':=by rw[h,k]
section
variable{g:Gl}(E:AM g){d:Nat}{i j k m p:Nat}{src dst sp dp sq ak w fl q:Int}{n:Nat}{l dt:List Int}{t1 t2 t3 t4:Int}
include E
theorem Ka:Bb g (d+1) 138 [.ref p] [] [(p,Cy i j 6 20 0 m)] [] (.int 2):=by refine Av E 6 [⟨p,Cy i j 6 20 0 m,false⟩] λm fin Ay=>?_;refine g0 0x43041 ?_;intro;exact eK fin []
theorem N3:Pu g (d+1) 251 [.int 2,.int 6] (.bool false):=by refine Av E 13 [] λm fin Ay=>?_;refine g0 0x81082041 ?_;intro;exact eK fin []
theorem LJ(F:GH dt src dst sp dp sq ak w fl n l):Bb g (d+2) 272 [.ref i,.int 2,.int 6,.int 20] [] [(i,.barr dt)] [] (.tup [.int sp,.int dp]):=by
 have hl:=F.len;have hb:dt.length<=1000000:=by have:=F.ll;have:=F.nn;exact L3 [_,_,_] [] n9 hl ‹_› this
 refine Av E 14 [⟨i,.barr dt,false⟩] λm fin Ay=>?_;refine g0 0x48101043 ?_;intro;refine Xc 0 rfl hb ?_;refine g1 0x4101284 (λ_ a=>a (gD (L1 [_,_,_] [] 0x410a059d680430e03907f041 hl))) ?_;intro;refine UV 0 rfl rfl rfl hb (λn1 f1=>?_);refine g0 0 ?_;intro;refine Ai (Bt E (show num (cut dt (some 20) (some (20+2)))=sp from F.sp) (F.oct.cut _ _) (Cj (by decide) (by decide) (L1 [_,_,_] [] 0x410a059d68043083f60e6041 hl) (by decide))) [0] [] rfl rfl ?_;refine g0 0x10404a ?_;intro;refine UV 1 rfl rfl rfl hb (λn2 f2=>?_);refine g0 0 ?_;intro;refine Ai (Bt E (show num (cut dt (some (20+2)) (some (20+4)))=dp from F.dp) (F.oct.cut _ _) (Cj (by decide) (by decide) (L1 [_,_,_] [] 0x410a059d68043083f80e6041 hl) (by decide))) [0] [] rfl rfl ?_;refine g0 0 ?_;intro;exact eK fin []
theorem LD(F:GH dt src dst sp dp sq ak w fl n l):Bb g (d+3) 279 [.ref i,.int 2,.int 6,.int 20] [] [(i,.barr dt)] [] (.tup [.int 2,.int 6,.int src,.int sp,.int dst,.int dp]):=by
 have hl:=F.len;have hb:dt.length<=1000000:=by have:=F.ll;have:=F.nn;exact L3 [_,_,_] [] n9 hl ‹_› this
 refine Av E 15 [⟨i,.barr dt,false⟩] λm fin Ay=>?_;refine g0 0x40c204a ?_;intro;refine Ai (LJ E F) [0] [] rfl rfl ?_;refine g0 0x718604b0821c6081145 ?_;intro;refine UV 0 rfl rfl rfl hb (λn1 f1=>?_);refine g0 0 ?_;intro;refine Ai (Bt E (show num (cut dt (some 12) (some (12+4)))=src from F.src) (F.oct.cut _ _) (Cj (by decide) (by decide) (L1 [_,_,_] [] 0x410a059d68043083f00e6041 hl) (by decide))) [0] [] rfl rfl ?_;refine g0 0x1c71871812c8 ?_;intro;refine UV 1 rfl rfl rfl hb (λn2 f2=>?_);refine g0 0 ?_;intro;refine Ai (Bt E (show num (cut dt (some (12+4)) (some (12+4+4)))=dst from F.dst) (F.oct.cut _ _) (Cj (by decide) (by decide) (L1 [_,_,_] [] 0x410a059d68043083f40e6041 hl) (by decide))) [0] [] rfl rfl ?_;refine g0 0x2149045203089 ?_;intro;exact eK fin []
theorem Ec(F:GH dt src dst sp dp sq ak w fl n l):Bb g (d+4) 286 [.ref p] [] [(p,Cy i j 6 20 0 m),(i,.barr dt)] [] (.tup [.int 2,.int 6,.int src,.int sp,.int dst,.int dp]):=by refine Av E 16 [⟨p,Cy i j 6 20 0 m,false⟩,⟨i,.barr dt,false⟩] λm fin Ay=>?_;refine g0 67 ?_;intro;refine Ai (Ka E) [0] [] rfl rfl ?_;refine g0 0x141044041081041102085041081082 ?_;intro;refine Ai (LD E F) [1] [] rfl rfl ?_;exact eK fin []
theorem Qp:Pu g (d+2) 300 [.tup [.int 2,.int 6,.int t1,.int t2,.int t3,.int t4]] (.tup [.int 2,.int 6,.int t3,.int t4,.int t1,.int t2]):=by refine Av E 17 [] λm fin Ay=>?_;refine g1 0x308a1c61440c2041 (λ_ a=>a (λ_=>rfl)) ?_;intro;refine Ai (N3 E) [] [] rfl rfl ?_;refine g0 0x5107183081 ?_;intro;exact eK fin []
theorem FG(F:GH dt src dst sp dp sq ak w fl n l):Bb g (d+2) 487 [.ref p] [] [(p,Cy i j 6 20 0 m),(i,.barr dt)] [] (.int dt.length):=by have hl:=F.len;have h2:=F.ll;have h3:=F.nn;have hb:dt.length<=1000000:=L3 [_,_,_] [] n9 hl h2 h3;refine Av E 30 [⟨p,Cy i j 6 20 0 m,false⟩,⟨i,.barr dt,false⟩] λm fin Ay=>?_;refine g0 0x41043 ?_;intro;refine Xc 1 rfl hb ?_;refine g0 0x10411010c1042 ?_;intro;refine UV 1 rfl rfl rfl hb (λn1 f1=>?_);refine g0 0 ?_;intro;refine Ai (Bt E F.s2 (F.oct.cut _ _) (Cj (by decide) (by decide) (L1 [_,_,_] [] 0x410a059d68043083e40e6041 hl) (by decide))) [0] [] rfl rfl ?_;refine g1 0x420430c2142042 (λ_ a=>a (jL (L1 [_,_,_] [] 0x410a059d68043083f40e6041 hl))) ?_;intro;refine Xc 2 rfl hb ?_;refine g1 131 (λ_ a=>a (jL (L0 [_] [] 520609857))) ?_;intro;exact eK fin []
theorem C6(F:GH dt src dst sp dp sq ak w fl n l):Bb g (d+3) 494 [.ref p] [] [(p,Cy i j 6 20 0 m),(i,.barr dt)] [] (HN sq ak n w fl l):=by
 have hl:=F.len;have h2:=F.ll;have h3:=F.nn;have h4:=F.l4;have hb:dt.length<=1000000:=L3 [_,_,_] [] n9 hl h2 h3;have hd:cut dt (some 20) (some (dt.length:Int))=dt.drop 20:=by rw[Go (by decide) (by exact L1 [_,_,_] [] 0x410a059d68043083f40e6041 hl) (by exact L0 [_] [] 520609857)];exact List.take_of_length_le (by rw[qF];exact qI (Int.toNat_sub _ 20).symm)
 have OE:(cut dt (some 20) (some (dt.length:Int))).length=20+l.length+n:=by rw[hd,qF];exact gH (L2 [_,_,_,_] [] 0x3a0720d1082208502ceb43210441a073ad00041 hl (jT (show 20<=dt.length from L1 [_,_,_] [] 0x208502ceb402184140e4041 hl))) (L2 [_,_,_,_] [] 0x3a0722d10c2100502ceb4321844105039d68041 hl (jT (show 20<=dt.length from L1 [_,_,_] [] 0x208502ceb402184140e4041 hl)))
 have Mj:(cut dt (some 20) (some (dt.length:Int))).length<=1000000:=L3 [_,_,_] [] 0x20d039d6804208c82c880410a05908083e84804c80041 h2 h3 OE;have b12:(cut dt (some 20) (some (dt.length:Int)))[(12:Int).toNat]? =some (16*(5+(l.length:Int)/4)):=by rw[hd];exact F.b12
 have b13:(cut dt (some 20) (some (dt.length:Int)))[(13:Int).toNat]? =some fl:=by rw[hd];exact F.b13
 have o:AY (cut dt (some 20) (some (dt.length:Int))):=F.oct.cut _ _;have e1:num (cut (cut dt (some 20) (some (dt.length:Int))) (some 4) (some 8))=sq:=by rw[hd];exact F.sq
 have k1:num (cut (cut dt (some 20) (some (dt.length:Int))) (some 8) (some 12))=ak:=by rw[hd];exact F.ak
 have Ol:num (cut (cut dt (some 20) (some (dt.length:Int))) (some 14) (some 16))=w:=by rw[hd];exact F.w
 have e4:4*(16*(5+(l.length:Int)/4)/16)=20+(l.length:Int):=by rw[oH,sM,nJ h4];rfl
 have q1:cut (cut dt (some 20) (some (dt.length:Int))) (some 20) (some (4*(16*(5+(l.length:Int)/4)/16)))=l:=by rw[hd,e4];exact F.opts
 have q2:((cut dt (some 20) (some (dt.length:Int))).length:Int)-4*(16*(5+(l.length:Int)/4)/16)=n:=by rw[e4,OE];exact(gC (·- (20+(l.length:Int))) (sD (20+(l.length:Int)) n)).trans (Int.add_sub_cancel ..)
 clear hd;have e3:(cut (cut dt (some 20) (some (dt.length:Int))) (some 4) (some 8)).length<=4:=Cj (by decide) (by decide) (L1 [_,_,_] [] 0x20d039d68043083e80e6041 OE) (by decide);have f3:(cut (cut dt (some 20) (some (dt.length:Int))) (some 8) (some 12)).length<=4:=Cj (by decide) (by decide) (L1 [_,_,_] [] 0x20d039d68043083ec0e6041 OE) (by decide);have g3:(cut (cut dt (some 20) (some (dt.length:Int))) (some 14) (some 16)).length<=4:=Cj (by decide) (by decide) (L1 [_,_,_] [] 0x20d039d68043083f00e6041 OE) (by decide);refine Av E 31 [⟨p,Cy i j 6 20 0 m,false⟩,⟨i,.barr dt,false⟩] λm fin Ay=>?_;refine g0 0x1245041041046085041 ?_;intro;refine Ai (FG E F) [0,1] [] rfl rfl ?_;refine UV 1 rfl rfl rfl hb (λn1 OG=>?_);refine g0 0 ?_;intro;refine oK 0 rfl Mj ?_;refine g1 0x840c2202 (λ_ a=>a (gD (L1 [_,_,_] [] 0x20d039d680430d03907f041 OE)) (Mj)) ?_;intro;refine sB rfl (by decide) b12 Mj ?_;refine g1 0x871030880c30c2 (λ_ a=>a (Mj) (UB (jL (by rw[e4,OE];exact s5.mpr (Nat.le_add_right _ n)))) (Mj) (jL (L2 [_,_,_] [_] 0x5f0103b07fb42088340e75a010c20207740e6041 OE q2)) (Bi (L0 [] [] 0x800000000000000037240e4441))) ?_;intro;refine Ai (C7 E e1 (o.cut _ _) e3) [] [] rfl rfl ?_;refine g1 0x21c4 (λ_ a=>a (Mj)) ?_;intro;refine Ai (C7 E k1 (o.cut _ _) f3) [] [] rfl rfl ?_;refine g1 0x21c30c2205105 (λ_ a=>a (Mj) (Mj)) ?_;intro;refine Ai (C7 E Ol (o.cut _ _) g3) [] [] rfl rfl ?_;refine g0 2 ?_;intro;refine sB rfl (by decide) b13 Mj ?_;refine g1 194 (λ_ a=>a (Mj)) ?_;intro;exact eV (fin _ _ (CH [] (mZ q2 q1)))
end
noncomputable abbrev lA:List Int:=[2,6,167772161,1000,3221225985,80]
noncomputable abbrev lB:List Int:=[2,6,3221225985,80,167772161,1000]
noncomputable abbrev BX:V:=.tup [.int 2,.int 6,.int 167772161,.int 1000,.int 3221225985,.int 80]
noncomputable abbrev Ca:V:=.tup [.int 2,.int 6,.int 3221225985,.int 80,.int 167772161,.int 1000]
noncomputable abbrev CM:O:=.tdict [((0,lA),.tup [.int 1,.int 0]),((0,lB),.tup [.int 1,.int 1])]
noncomputable abbrev Km(r:Nat->Nat):O:=.idict [(17,.ref (r 0)),(1,.ref (r 1)),(58,.ref (r 2)),(6,.ref (r 3)),(-1,.ref (r 4))]
noncomputable abbrev B5:O:=.sdict [("begin",.imm (.ref 578)),("go",.imm (.ref 599))]
noncomputable abbrev bK:O:=Br 0 0 0 0 0 false false false false false false
abbrev SK(g:Gl)(d:Nat)(C:Addr)(args:List V)(o:O):Prop:=CF g d C args [] [] (λ_:Nat=>True) (λn=>.ref n) (λn=>[(n,o)]) λ_=>[]
section
variable{g:Gl}(E:AM g){d:Nat}{bk T G R X Fw tk sn pk a b sl:Nat}{now un si stt st last di num i1 i2:Int}{t0 t1 sd v0:V}{rf rr:Nat->Nat}
include E
theorem DA(l:List Int):Bb g (d+1) 319 [.ref bk,.int 0,.tup (l.map .int),.int now] [] [(bk,Ck T G R X Fw last),(T,.tdict [])] [] .none:=by refine Av E 18 [⟨bk,Ck T G R X Fw last,false⟩,⟨T,.tdict [],false⟩] λm fin Ay=>?_;refine g0 0x4041 ?_;intro;refine lit rfl ?_;refine Tw 1 rfl ?_;refine sm (let S:=_;(?_:Sm _ S));refine g0 194 ?_;intro;refine lit rfl ?_;refine PX (x:=(0,l)) (v:=.none) 1 rfl (.inr ⟨rfl,λh=>nomatch h⟩) ?_;refine sm (let S:=_;(?_:Sm _ S));refine g0 0x41145 ?_;intro;exact eK fin []
theorem J3{l:List Int}(hl:(l=lA/\di=0)\/(l=lB/\di=1))(hu:now<un):Bb g (d+1) 319 [.ref bk,.int 0,.tup (l.map .int),.int now] [] [(bk,Ck T G R X Fw last),(T,CM),(G,.idict [(1,.ref tk)]),(tk,BK 1 t0 t1 un si stt st sd)] [] (.tup [.ref tk,.int di]):=by
 refine Av E 18 [⟨bk,Ck T G R X Fw last,false⟩,⟨T,CM,false⟩,⟨G,.idict [(1,.ref tk)],false⟩,⟨tk,BK 1 t0 t1 un si stt st sd,false⟩] λm fin Ay=>?_;refine g0 0x4041 ?_;intro;refine lit rfl ?_;refine Tw 1 rfl ?_;refine sm (let S:=_;(?_:Sm _ S));refine g0 194 ?_;intro;refine lit rfl ?_;refine PX (x:=(0,l)) (v:=.tup [.int 1,.int di]) 1 rfl (.inl ?_) ?_
 ·rcases hl with ⟨rfl,rfl⟩|⟨rfl,rfl⟩
  ·exact .head
  ·exact .tail .head
 refine sm (let S:=_;(?_:Sm _ S));refine g1 0x851841051061810c1145041081145 (λ_ a=>a (gD (L1 [] [_,_] 0x6441082c41 hu))) ?_;intro;exact eK fin []
theorem C5:Bb g (d+1) 613 [.ref bk,.int 6] [] [(bk,Ck T G R X Fw last),(R,Km rr)] [] (.ref (rr 3)):=by refine Av E 47 [⟨bk,Ck T G R X Fw last,false⟩,⟨R,Km rr,false⟩] λm fin Ay=>?_;refine g0 0x1c1042 ?_;intro;refine lit rfl ?_;refine ZA (b:=true) 1 rfl (.inl ⟨.ref (rr 3),rfl,.tail (.tail (.tail .head))⟩) ?_;refine sm (let S:=_;(?_:Sm _ S));refine g0 0x40821c1041 ?_;intro;exact eK fin []
theorem G5:Bb g (d+1) 417 [.ref bk,.int 0,v0,.int now] [] [(bk,Ck T G R X Fw last),(X,.list [])] [] .none:=by refine Av E 22 [⟨bk,Ck T G R X Fw last,false⟩,⟨X,.list [],false⟩] λm fin Ay=>?_;refine g0 0x2010481c1 ?_;intro;refine PG 1 rfl (by decide) ?_;refine g0 0 ?_;intro;refine fR 0 (λ_(_:Unit)=>True) (λ_ _=>[some (.ref bk),some (.int 0),some v0,some (.int now),none,none]) (λ_ _=>[⟨bk,Ck T G R X Fw last,false⟩,⟨X,.list [],false⟩]) () rfl trivial rfl rfl rfl rfl (λn _ h=>absurd h (Nat.not_lt_zero n)) (λ_ _=>?_);refine g0 0 ?_;intro;exact eK fin []
theorem G6:Bb g (d+2) 663 [.ref sn,.ref tk,.int 0] [] [(sn,Cb pk now v0 i1 i2 (.ref bk) rf),(tk,BK num BX Ca un si stt st sd),(bk,Ck T G R X Fw last),(X,.list [])] [] (.bool false):=by refine Av E 52 [⟨sn,Cb pk now v0 i1 i2 (.ref bk) rf,false⟩,⟨tk,BK num BX Ca un si stt st sd,false⟩,⟨bk,Ck T G R X Fw last,false⟩,⟨X,.list [],false⟩] λm fin Ay=>?_;refine g0 0x20410820831c1045 ?_;intro;refine Ai (G5 E) [2,3] [] rfl rfl ?_;refine g0 0x41104 ?_;intro;exact eK fin []
theorem Qr:SK g (d+2) 476 [] bK:=by refine JZ E 29 [] (.tail _ (.tail _ (.tail _ (.head _)))) λm n hn Ef fin Ay=>?_;refine g1 0x3f041fc107f041fc107f041fc107f041fc107f041fc107f041 (λ_ a=>a (by decide) (by decide) (by decide) (by decide) (by decide) (by decide) (by decide) (by decide) (by decide) (by decide) (by decide)) ?_;intro;exact eN (Ay _ _ (fin _ _ ⟨rfl,Bs n [0] rfl rfl rfl (AI hn Bz) trivial rfl⟩))
theorem Wz:SK g (d+2) 218 [.int num,t0,t1,.int 0] (BK num t0 t1 0 0 0 0 .none):=by refine JZ E 11 [] (.tail _ (.head _)) λm n hn Ef fin Ay=>?_;refine g1 0x3f041fc107f041fc107f041fc107f041fc1045fc1044fc1043fc1042 (λ_ a=>a (by decide) (by decide) (by decide) (by decide) (by decide) (by decide) (by decide) (by decide) (by decide) (by decide) (by decide)) ?_;intro;exact eN (Ay _ _ (fin _ _ ⟨rfl,Bs n [0] rfl rfl rfl (AI hn Bz) trivial rfl⟩))
end
section
variable{g:Gl}(E:AM g){d:Nat}{bk T G R X Fw tk sn pk pi pj pm a b sl n:Nat}{now un si stt st last di num i1 i2:Int}{t0 t1 sd v0:V}{rf rr:Nat->Nat}{src dst sp dp sq ak w fl:Int}{l dt:List Int}{rows:List (Int×List Int)}{bb:Bool}
include E
abbrev gz(g:Gl)(d:Nat)(bk tk pk pi pj pm n:Nat)(now num un si stt st sq w:Int)(rows:List (Int×List Int))(dt:List Int):Prop:=CF g d 578 [.ref bk,.ref tk,.ref pk,.int now] [tk] [(tk,BK num BX Ca un si stt st .none),(pk,Cy pi pj 6 20 0 pm),(pi,.barr dt)] (λ_:Nat×Nat×Nat=>True) (λ_=>.bool true)
 (λx=>[(x.2.2,.list [.ref x.1,.ref x.2.1]),(x.2.1,bK),(x.1,Br (AO 2 sq n) (AO 2 sq n) (max w 1) 0 (max (Ah rows) 0) (decide (0<=Ah rows)) (BP rows) false false false false)]) (λx=>[(tk,BK num BX Ca un si stt 0 (.ref x.2.2))])
omit E in
theorem ec{a b c d e f Q:Prop}(h:a\/b\/c\/d\/e\/f)(ha:a->Q)(hb:b->Q)(hc:c->Q)(hd:d->Q)(he:e->Q)(hf:f->Q):Q:=h.elim ha λh=>h.elim hb λh=>h.elim hc λh=>h.elim hd λh=>h.elim he hf
omit E in
theorem e3{P:Int->Prop}(h:x=1\/x=2\/x=3)(p1:P 1)(p2:P 2)(p3:P 3):P x:=h.elim (λh=>h▸p1) λh=>h.elim (λh=>h▸p2) λh=>h▸p3
omit E in
theorem iX{Q:Prop}(h:(0:Int)=1):Q:=nomatch h
theorem Kc(F:GH dt src dst sp dp sq ak w fl n l)(h:PO l rows bb)(hl:l.length<=1000)(hf:Fl 2 fl):gz g (d+6) bk tk pk pi pj pm n now num un si stt st sq w rows dt:=by refine Bu E 42 [⟨tk,BK num BX Ca un si stt st .none,true⟩,⟨pk,Cy pi pj 6 20 0 pm,false⟩,⟨pi,.barr dt,false⟩] λm fin Ay=>?_;refine g0 201 ?_;intro;refine Ai (C6 (d:=d+2) E F) [1,2] [] rfl rfl ?_;refine g0 0x514e081145 ?_;intro;refine Ai (BU E hf (.inl rfl)) [] [] rfl rfl ?_;refine g0 0x1452ca082 ?_;intro;refine Ai (DJ E hf (.inl ⟨rfl,rfl⟩)) [] [] rfl rfl ?_;refine g0 0 ?_;intro;refine Ai (C8 E (.inl ⟨rfl,rfl,rfl,rfl⟩)) [] [] rfl rfl ?_;refine g0 0x302186 ?_;intro;refine A3 (Qr E) [] [] rfl (λ_=>rfl) λa ha fa=>?_;refine g0 12 ?_;intro;refine A3 (Qr E) [] [] rfl (λ_=>rfl) λb hb fb=>?_;refine g0 0 ?_;intro;refine nL _ rfl (λs fs=>?_);refine g0 0x14f141047341187 ?_;intro;refine Ai (BH E hf (.inl rfl)) [] [] rfl rfl ?_;refine g0 0 ?_;intro;refine Ai (Fm E h hl) [2] [2] rfl rfl ?_;refine g0 0x9102284087 ?_;intro;exact eV (fin _ _ (Bs (a,b,s) [0,1,2,3] rfl rfl rfl (AI fs.1 (AI (fb _ (.head _)).1 (AI (fa _ (.head _)).1 Bz))) trivial rfl))
theorem J9(F:GH dt src dst sp dp sq ak w fl n l){q so st':Int}(hq:Fl q fl)(AX:q=2\/q=16\/q=18)(IG:q=2/\so=0\/q=16/\so=3\/q=18/\so=1)
  (hn:(di=0/\so=0/\st=0/\st'=1)\/(di=1/\so=1/\st=1/\st'=2)\/(di=0/\so=3/\st=2/\st'=3)\/(di=0/\so=3/\st=3/\st'=3)\/(di=1/\so=3/\st=2/\st'=2)\/(di=1/\so=3/\st=3/\st'=3))
  {A B:O} {xa xb:Sr} (GL:a8 g d sl a b di st (HN sq ak n w fl l) A B xa xb) {stt':Int} (hs:(so=3/\(Builtin.bitAnd stt 2==0)=false/\stt'=if st'=3 then Builtin.bitOr stt 4 else stt)\/(so≠3/\(Builtin.bitAnd stt 2==0)=true/\stt'=stt)) (Nb:(st'==3)=false\/(Builtin.bitAnd stt' 2==0)=false):
  Bb g (d+10) 599 [.ref bk,.ref tk,.ref pk,.int di,.int now] [tk,a,b] [(tk,BK num BX Ca un si stt st (.ref sl)),(sl,.list [.ref a,.ref b]),(a,A),(b,B),(pk,Cy pi pj 6 20 0 pm),(pi,.barr dt)]
   [(tk,BK num BX Ca (now+if xa.ua||xb.ua then min (CA st') 300000 else CA st') si stt' st' (.ref sl)),(a,xa.o),(b,xb.o)] (.str "ok"):=by
 have hb:=BS hq AX;have h4:=hb.1;have Oj:di=0\/di=1:=ec hn (λh=>.inl h.1) (λh=>.inr h.1) (λh=>.inl h.1) (λh=>.inl h.1) (λh=>.inr h.1) (λh=>.inr h.1);have Cg:st'=1\/st'=2\/st'=3:=ec hn (λh=>.inl h.2.2.2) (λh=>.inr (.inl h.2.2.2)) (λh=>.inr (.inr h.2.2.2)) (λh=>.inr (.inr h.2.2.2)) (λh=>.inr (.inl h.2.2.2)) (λh=>.inr (.inr h.2.2.2));have da:st'<10:=e3 (P:=λx=>x<10) Cg (by decide) (by decide) (by decide);have c9:st'≠4:=e3 (P:=λx=>x≠4) Cg (by decide) (by decide) (by decide);have lx:((List.map QI [V.int 7,V.int 8]).any λx=>x==st)=false:=by rcases hn with h|h|h|h|h|h<;>obtain⟨_,_,rfl,_⟩:=h<;>rfl
 have bv:=FA (d:=d) (tk:=tk) (t0:=BX) (t1:=Ca) (num:=num) (un:=un) (si:=si) (stt:=stt) E GL h4 Oj;refine Av E 45 [⟨tk,BK num BX Ca un si stt st (.ref sl),true⟩,⟨sl,.list [.ref a,.ref b],false⟩,⟨a,A,true⟩,⟨b,B,true⟩,⟨pk,Cy pi pj 6 20 0 pm,false⟩,⟨pi,.barr dt,false⟩] λm fin Ay=>?_;refine g0 202 ?_;intro;refine Ai (C6 (d:=d+6) E F) [4,5] [] rfl rfl ?_;refine g0 0x518f081186 ?_;intro;refine Ai (BU E hq AX) [] [] rfl rfl ?_;refine g0 0x518e10b1c9042082 ?_;intro;refine Ai (DJ E hq IG) [] [] rfl rfl ?_;refine g0 7 ?_;intro;refine Ai (C8 E hn) [] [] rfl rfl ?_;refine g1 0x204208 (λ_ a=>a (gD (L1 [] [_] 0x5072091040a0e6c41 da))) ?_;intro;refine eY True [] [] (by kernel_rfl) (λm' Aq sub=>wB _ rfl (λq=>?_) (λq=>?_)) (λ_=>?_)
 ·refine g1 0x21011c1 (λ_ a=>a (lx)) ?_;intro;exact eN (Aq _ 0 trivial rfl)
 ·refine g0 130 ?_;intro;exact eN (Aq _ 0 trivial rfl)
 refine g0 0x10608c ?_;intro;refine Ai bv [0,1,2,3] [2,3] rfl rfl ?_;refine g1 0x108042084209042202 (λ_ a=>a (gD (c9))) ?_;intro;refine Zu (Builtin.bitAnd stt 2==0) [0] (λ_=>[(tk,BK num BX Ca un si stt' st' (.ref sl))]) (by kernel_rfl) (λq m' Aq sub=>?_) (λq m' Aq sub=>?_) ?_
 ·have e:stt'=stt:=hs.elim (λh=>nt h.2.1 q) λh=>h.2.2;have Ui:so≠3:=hs.elim (λh=>nt h.2.1 q) λh=>h.1;refine g1 0x1c4105181 (λ_ a=>a (h4)) ?_;intro;refine wB _ rfl (λq2=>?_) (λq2=>?_)
  ·have q2:=dv q2;have db:so≠0:=λh=>ec hn (λx=>iX (x.2.2.1.symm.trans q2)) (λx=>iX (h.symm.trans x.2.1)) (λx=>Ui x.2.1) (λx=>Ui x.2.1) (λx=>Ui x.2.1) (λx=>Ui x.2.1);refine g0 0x146381 ?_;intro;refine Ai (DJ E hq IG) [] [] rfl rfl ?_;refine g1 132 (λ_ a=>a (gD (db))) ?_;intro;exact eN (Aq _ 0 trivial (by rw[e];rfl))
  ·refine g0 130 ?_;intro;exact eN (Aq _ 0 trivial (by rw[e];rfl))
 ·have lC:((List.map QI [V.int 2,V.int 3]).any λx=>x==st)=true:=by
   have Ui:so=3:=hs.elim (λh=>h.1) λh=>nt q h.2.1;rcases hn with h|h|h|h|h|h<;>obtain⟨_,h2,rfl,_⟩:=h<;>first|rfl|(exfalso;(first|exact L2 [] [_] 0x6414208c39050c3e0 Ui h2|exact L2 [] [_] 0x10e414208c39050c3e0 Ui h2))
  have e:stt'=if st'=3 then Builtin.bitOr stt 4 else stt:=hs.elim (λh=>h.2.2) λh=>nt q h.2.1
  refine g0 514 ?_;intro;refine wB _ rfl (λq2=>?_) (λq2=>?_)
  ·refine g1 0x80422010810c11c1 (λ_ a=>a (lC)) ?_;intro;exact eN (Aq _ 0 trivial (by rw[e,lW (dv q2)];rfl))
  ·refine g0 130 ?_;intro;exact eN (Aq _ 0 trivial (by rw[e,jU (gG q2)];rfl))
 refine g0 0x508d ?_;intro;refine Ai (G7 E Cg Nb) [0,1,2,3] [0] rfl rfl ?_;refine g0 0 ?_;intro;exact eK fin [0,2,3]
end
section
variable{g:Gl}(E:AM g){d:Nat}{bk T G R X Fw tk sn pk pi pj pm a b sl n s r:Nat}{now un si stt stt' st st' last di num i1 i2:Int}{t0 t1 sd v0:V}{rf rr:Nat->Nat}{src dst sp dp sq ak w fl sack:Int}{l dt:List Int}{rows:List (Int×List Int)}{bb:Bool}{x y:Sr}{pP:V}
include E
theorem J8(F:GH dt src dst sp dp sq ak w fl n l)(hd:Dir di a b s r)(h:PO l rows bb)(hf:Fl 16 fl)(hw:x.mw≠0)(QL:sack=if y.sk then Co ak rows else ak)(hW:Bh x.e x.me x.mw y.e y.mw sq (AO 16 sq n) sack=false)(Cg:st=2\/st=3):
  Bb g (d+10) 599 [.ref bk,.ref tk,.ref pk,.int di,.int now] [] [(tk,BK num BX Ca un si stt st (.ref sl)),(sl,.list [.ref a,.ref b]),(s,x.o),(r,y.o),(pk,Cy pi pj 6 20 0 pm),(pi,.barr dt)] [] (.str "invalid"):=by
 have AX:(16:Int)=2\/(16:Int)=16\/(16:Int)=18:=.inr (.inl rfl);have IG:(16:Int)=2/\(3:Int)=0\/(16:Int)=16/\(3:Int)=3\/(16:Int)=18/\(3:Int)=1:=.inr (.inl ⟨rfl,rfl⟩);have Oj:di=0\/di=1:=by rcases hd with h|h<;>(first|exact .inl (bC (L1 [] [_] 0x19050820c82041 h.1) (L1 [] [_] 0x19050c20066041 h.1))|exact .inr (bC (L1 [] [_] 0x8720a10421c82041 h.1) (L1 [] [_] 0x8720a184010e6041 h.1)))
 obtain⟨z,hz,QK⟩:∃z:Int,((di=0/\(3:Int)=0/\st=0/\z=1)\/(di=1/\(3:Int)=1/\st=1/\z=2)\/(di=0/\(3:Int)=3/\st=2/\z=3)\/(di=0/\(3:Int)=3/\st=3/\z=3)\/(di=1/\(3:Int)=3/\st=2/\z=2)\/(di=1/\(3:Int)=3/\st=3/\z=3))/\(z=2\/z=3):=by
  rcases Oj with rfl|rfl<;>rcases Cg with rfl|rfl
  ·exact⟨3,by exact .inr (.inr (.inl (⟨bC (L0 [] [] 419848257) (L0 [] [] 419848257),⟨bC (L0 [] [] ki) (L0 [] [] ki),⟨bC (L0 [] [] 0x107220e6041) (L0 [] [] 0x107220e6041),bC (L0 [] [] ki) (L0 [] [] ki)⟩⟩⟩))),by exact .inr (bC (L0 [] [] ki) (L0 [] [] ki))⟩
  ·exact⟨3,by exact .inr (.inr (.inr (.inl (⟨bC (L0 [] [] 419848257) (L0 [] [] 419848257),⟨bC (L0 [] [] ki) (L0 [] [] ki),⟨bC (L0 [] [] ki) (L0 [] [] ki),bC (L0 [] [] ki) (L0 [] [] ki)⟩⟩⟩)))),by exact .inr (bC (L0 [] [] ki) (L0 [] [] ki))⟩
  ·exact⟨2,by exact .inr (.inr (.inr (.inr (.inl (⟨rfl,⟨rfl,⟨rfl,rfl⟩⟩⟩))))),by exact .inl (bC (L0 [] [] 0x107220e6041) (L0 [] [] 0x107220e6041))⟩
  ·exact⟨3,by exact .inr (.inr (.inr (.inr (.inr (⟨rfl,⟨rfl,⟨rfl,rfl⟩⟩⟩))))),by exact .inr (bC (L0 [] [] ki) (L0 [] [] ki))⟩
 have bv:=FC (d:=d) (tk:=tk) (t0:=BX) (t1:=Ca) (num:=num) (un:=un) (si:=si) (stt:=stt) (st:=st) (sl:=sl) (w:=w) E hd h (λb hb=>by have:=F.opts;rw[<-this] at hb;exact(F.oct.cut none none) b (by have h1:=ph (qu hb);have h2:=ph h1;unfold cut;simpa using h2)) (by have:=F.ll;exact L1 [_] [] 0x281640020fd02c80041 this) hf hw QL hW;have ky:z≠1:=λe0=>Cg.elim (λo1=>AX.elim (λo2=>L1 [] [] 0x20e601cd083e0 o2) (λo2=>IG.elim (λo3=>L1 [] [] 0x20e601cd083e0 o3.1) (λo3=>Oj.elim (λo4=>hz.elim (λo5=>L1 [] [] 0x6461cd083e0 o5.2.1) (λo5=>QK.elim (λo6=>L2 [] [_] 0x20e41430843905083e0 e0 o6) (λo6=>L2 [] [_] 0x30e41430843905083e0 e0 o6))) (λo4=>hz.elim (λo5=>L2 [] [_] 0x6414208439050c3e0 o4 o5.1) (λo5=>QK.elim (λo6=>L2 [] [_] 0x20e41430843905083e0 e0 o6) (λo6=>L2 [] [_] 0x30e41430843905083e0 e0 o6)))))) (λo1=>AX.elim (λo2=>L1 [] [] 0x20e601cd083e0 o2) (λo2=>IG.elim (λo3=>L1 [] [] 0x20e601cd083e0 o3.1) (λo3=>Oj.elim (λo4=>hz.elim (λo5=>L1 [] [] 0x6461cd083e0 o5.2.1) (λo5=>QK.elim (λo6=>L2 [] [_] 0x20e41430843905083e0 e0 o6) (λo6=>L2 [] [_] 0x30e41430843905083e0 e0 o6))) (λo4=>hz.elim (λo5=>L2 [] [_] 0x6414208439050c3e0 o4 o5.1) (λo5=>QK.elim (λo6=>L2 [] [_] 0x20e41430843905083e0 e0 o6) (λo6=>L2 [] [_] 0x30e41430843905083e0 e0 o6))))));have kx:z<10:=Cg.elim (λo0=>AX.elim (λo1=>L1 [] [_] 0x20e601cd082a0e4120 o1) (λo1=>IG.elim (λo2=>L1 [] [_] 0x20e601cd082a0e4120 o2.1) (λo2=>Oj.elim (λo3=>hz.elim (λo4=>L1 [] [_] 0x6461cd082a0e4120 o4.2.1) (λo4=>QK.elim (λo5=>L1 [] [_] 0x10720a10541c82441 o5) (λo5=>L1 [] [_] 0x18720a10541c82441 o5))) (λo3=>hz.elim (λo4=>L2 [] [_,_] 0x64342084390d0c2a0e4120 o3 o4.1) (λo4=>QK.elim (λo5=>L1 [] [_] 0x10720a10541c82441 o5) (λo5=>L1 [] [_] 0x18720a10541c82441 o5)))))) (λo0=>AX.elim (λo1=>L1 [] [_] 0x20e601cd082a0e4120 o1) (λo1=>IG.elim (λo2=>L1 [] [_] 0x20e601cd082a0e4120 o2.1) (λo2=>Oj.elim (λo3=>hz.elim (λo4=>L1 [] [_] 0x6461cd082a0e4120 o4.2.1) (λo4=>QK.elim (λo5=>L1 [] [_] 0x10720a10541c82441 o5) (λo5=>L1 [] [_] 0x18720a10541c82441 o5))) (λo3=>hz.elim (λo4=>L2 [] [_,_] 0x64342084390d0c2a0e4120 o3 o4.1) (λo4=>QK.elim (λo5=>L1 [] [_] 0x10720a10541c82441 o5) (λo5=>L1 [] [_] 0x18720a10541c82441 o5))))));refine Av E 45 [⟨tk,BK num BX Ca un si stt st (.ref sl),false⟩,⟨sl,.list [.ref a,.ref b],false⟩,⟨s,x.o,false⟩,⟨r,y.o,false⟩,⟨pk,Cy pi pj 6 20 0 pm,false⟩,⟨pi,.barr dt,false⟩] λm fin Ay=>?_;refine g0 202 ?_;intro;refine Ai (C6 (d:=d+6) E F) [4,5] [] rfl rfl ?_;refine g0 0x518f081186 ?_;intro;refine Ai (BU E hf AX) [] [] rfl rfl ?_;refine g0 0x518e10b1c9042082 ?_;intro;refine Ai (DJ E hf IG) [] [] rfl rfl ?_;refine g0 7 ?_;intro;refine Ai (C8 E hz) [] [] rfl rfl ?_;refine g1 0x10608c084204208 (λ_ a=>a (gD (ky)) (gD (L1 [] [_] 0x5072091040a0e6c41 kx))) ?_;intro;refine Ai bv [0,1,2,3] [] rfl rfl ?_;refine g0 1 ?_;intro;exact eK fin []
theorem Ii(l:List Int):Bb g (d+2) 656 [.ref sn,.int 0,.tup (l.map .int)] [] [(sn,Cb pk now v0 i1 i2 (.ref bk) rf),(bk,Ck T G R X Fw last),(T,.tdict [])] [] (.bool false):=by refine Av E 51 [⟨sn,Cb pk now v0 i1 i2 (.ref bk) rf,false⟩,⟨bk,Ck T G R X Fw last,false⟩,⟨T,.tdict [],false⟩] λm fin Ay=>?_;refine g0 0x20410c21c1047 ?_;intro;refine Ai (DA E l) [1,2] [] rfl rfl ?_;refine g0 0x41104 ?_;intro;exact eK fin []
theorem ED{l:List Int}(hl:(l=lA/\di=0)\/(l=lB/\di=1))(hu:now<un)(hs:di=1\/(Builtin.bitAnd stt 2 != 0)=true):Bb g (d+2) 656 [.ref sn,.int 0,.tup (l.map .int)] [sn] [(sn,Cb pk now v0 i1 i2 (.ref bk) rf),(bk,Ck T G R X Fw last),(T,CM),(G,.idict [(1,.ref tk)]),(tk,BK 1 BX Ca un si stt st sd)] [(sn,Cb pk now (.ref tk) 2 di (.ref bk) rf)] (.bool true):=by
 refine Av E 51 [⟨sn,Cb pk now v0 i1 i2 (.ref bk) rf,true⟩,⟨bk,Ck T G R X Fw last,false⟩,⟨T,CM,false⟩,⟨G,.idict [(1,.ref tk)],false⟩,⟨tk,BK 1 BX Ca un si stt st sd,false⟩] λm fin Ay=>?_;refine g0 0x20410c21c1047 ?_;intro;refine Ai (J3 E hl hu) [1,2,3,4] [] rfl rfl ?_;refine g1 0x6185101081104 (λ_ a=>a (λ_=>rfl)) ?_;intro;refine wB _ rfl (λq=>?_) (λq=>?_)
 ·refine g0 0x185048041 ?_;intro;refine Ai (Ct E) [0] [0] rfl rfl ?_;refine g0 0 ?_;intro;exact eK fin [0]
 ·refine g0 0x4205142 ?_;intro;refine wB _ rfl (λ_=>?_) (λq2=>hs.elim (λh=>nt q (rM.2 h)) (λh=>nt q2 h));refine g0 0x185048041 ?_;intro;refine Ai (Ct E) [0] [0] rfl rfl ?_;refine g0 0 ?_;intro;exact eK fin [0]
abbrev be(g:Gl)(d:Nat)(sn r pk bk:Nat)(rf:Nat->Nat)(now:Int)(v0:V)(i1 i2:Int)(pre:AW)(A:O)(T G R X Fw:Nat):Prop:=CF g d 670 [.ref sn,.ref r,.int 0,BX] [sn,bk] pre (λ_:Nat×Nat×Nat×Nat=>True) (λ_=>.none) (λi=>[(i.2.2.2,.list [.ref i.2.1,.ref i.2.2.1]),(i.2.2.1,bK),(i.2.1,A),(i.1,BK 1 BX Ca 0 now 0 0 (.ref i.2.2.2))]) λi=>[(sn,Cb pk now (.ref i.1) 8 0 (.ref bk) rf),(bk,Ck T G R X Fw 1)]
theorem Il(F:GH dt src dst sp dp sq ak w fl n l)(h:PO l rows bb)(hf:Fl 2 fl):be g (d+7) sn r pk bk rf now v0 i1 i2 [(sn,Cb pk now v0 i1 i2 (.ref bk) rf),(bk,Ck T G R X Fw 0),(G,.idict []),(X,.list []),(r,B5),(pk,Cy pi pj 6 20 0 pm),(pi,.barr dt)] (Br (AO 2 sq n) (AO 2 sq n) (max w 1) 0 (max (Ah rows) 0) (decide (0<=Ah rows)) (BP rows) false false false false) T G R X Fw:=by
 have hl:l.length<=1000:=by have:=F.ll;exact L1 [_] [] 0x281640020fd02c80041 this
 refine Bu E 53 [⟨sn,Cb pk now v0 i1 i2 (.ref bk) rf,true⟩,⟨bk,Ck T G R X Fw 0,true⟩,⟨G,.idict [],false⟩,⟨X,.list [],false⟩,⟨r,B5,false⟩,⟨pk,Cy pi pj 6 20 0 pm,false⟩,⟨pi,.barr dt,false⟩] λm fin Ay=>?_;refine g0 0x48147041 ?_;intro;refine Ai (Ct E) [0] [0] rfl rfl ?_;refine g0 265 ?_;intro;refine Ai (Qp E) [] [] rfl rfl ?_;refine g0 0x14214b081186 ?_;intro;refine nK 2 rfl (by decide) ?_;refine g0 0xc6106085286085182142081085 ?_;intro;refine A3 (Wz (d:=d+4) E) [] [] rfl (λ_=>rfl) λtk ht ft=>?_;refine g0 0x820410811c5046086047082047 ?_;intro;refine A3 (Kc E F h hl hf) [0,6,7] [0] rfl (λ_=>rfl) λa ha fa=>?_;refine g0 0xc704d1c1201 ?_;intro;refine Ai (G6 E) [4,3,5,7] [] rfl rfl ?_;refine g0 2 ?_;intro;refine Ai (Ct E) [4] [4] rfl rfl ?_;refine g0 0 ?_;intro;exact eV (fin _ _ (Bs (tk,a.1,a.2.1,a.2.2) [0,1,2,3,4,5] rfl rfl rfl (AI (fa _ (.head _)).1 (AI (fa _ (.tail _ (.head _))).1 (AI (fa _ (.tail _ (.tail _ (.head _)))).1 (AI (ft _ (.head _)).1 Bz)))) trivial rfl))
end
section
variable{g:Gl}(E:AM g){d:Nat}{bk T G R X Fw tk sn pk pi pj pm a b sl n s r rt:Nat}{now un si stt stt' st st' last di num i1 i2:Int}{t0 t1 sd v0 vt:V}{rf rr:Nat->Nat}{src dst sp dp sq ak w fl sack:Int}{l dt:List Int}{rows:List (Int×List Int)}{bb:Bool}{x y xa xb:Sr}{A B:O}
include E
theorem LW(Oj:di=0\/di=1)
  (XA:Bb g (d+10) 656 [.ref sn,.int 0,vt] [sn] [(sn,Cb pk now v0 1 i2 (.ref bk) rf),(bk,Ck T G R X Fw last),(T,CM),(G,.idict [(1,.ref tk)]),(tk,BK 1 BX Ca un si stt st (.ref sl))] [(sn,Cb pk now (.ref tk) 2 di (.ref bk) rf)] (.bool true))
  (Xz:Bb g (d+10) 599 [.ref bk,.ref tk,.ref pk,.int di,.int now] [tk,a,b] [(tk,BK 1 BX Ca un si stt st (.ref sl)),(sl,.list [.ref a,.ref b]),(a,A),(b,B),(pk,Cy pi pj 6 20 0 pm),(pi,.barr dt)] [(tk,BK 1 BX Ca un' si stt1 st' (.ref sl)),(a,xa.o),(b,xb.o)] (.str "ok")):
  Bb g (d+11) 677 [.ref sn,.ref rt,.int 0,vt] [sn,tk,a,b] [(sn,Cb pk now v0 1 i2 (.ref bk) rf),(bk,Ck T G R X Fw last),(T,CM),(G,.idict [(1,.ref tk)]),(rt,B5),(tk,BK 1 BX Ca un si stt st (.ref sl)),(sl,.list [.ref a,.ref b]),(a,A),(b,B),(pk,Cy pi pj 6 20 0 pm),(pi,.barr dt)]
   [(sn,Cb pk now (.ref tk) 2 di (.ref bk) rf),(tk,BK 1 BX Ca un' si (if di=1 then Builtin.bitOr stt1 2 else stt1) st' (.ref sl)),(a,xa.o),(b,xb.o)] .none:=by
 refine Av E 54 [⟨sn,Cb pk now v0 1 i2 (.ref bk) rf,true⟩,⟨bk,Ck T G R X Fw last,false⟩,⟨T,CM,false⟩,⟨G,.idict [(1,.ref tk)],false⟩,⟨rt,B5,false⟩,⟨tk,BK 1 BX Ca un si stt st (.ref sl),true⟩,⟨sl,.list [.ref a,.ref b],false⟩,⟨a,A,true⟩,⟨b,B,true⟩,⟨pk,Cy pi pj 6 20 0 pm,false⟩,⟨pi,.barr dt,false⟩] λm fin Ay=>?_;refine g0 0x6147041 ?_;intro;refine fJ (λ_:Unit=>True) (λ_=>[some (.ref sn),some (.ref rt),some (.int 0),some vt,some (.ref bk),some (.str "ok"),none]) (λ_=>[⟨sn,Cb pk now (.ref tk) 2 di (.ref bk) rf,true⟩,⟨bk,Ck T G R X Fw last,false⟩,⟨T,CM,false⟩,⟨G,.idict [(1,.ref tk)],false⟩,⟨rt,B5,false⟩,⟨tk,BK 1 BX Ca un' si stt1 st' (.ref sl),true⟩,⟨sl,.list [.ref a,.ref b],false⟩,⟨a,xa.o,true⟩,⟨b,xb.o,true⟩,⟨pk,Cy pi pj 6 20 0 pm,false⟩,⟨pi,.barr dt,false⟩]) (by kernel_rfl) (λQ next=>?_) (λ_ _ Q=>?_)
 ·refine g1 0x40c1243046 (λ_ a=>a (by decide)) ?_;intro;refine Ai XA [0,1,2,3,5] [0] (by kernel_rfl) (by kernel_rfl) ?_;refine g0 0x2041181041041101045085082 ?_;intro;refine Ai Xz [5,6,7,8,9,10] [5,7,8] (by kernel_rfl) (by kernel_rfl) ?_;refine g1 0x101186 (λ_ a=>a (by decide)) ?_;intro;exact eF (by kernel_rfl) (next () trivial)
 ·refine Oj.elim (λe=>?_) λe=>?_
  ·subst e;refine g1 0x86041101184046 (λ_ a=>a (by decide) (by decide)) ?_;intro;exact eK fin [0,5,7,8]
  ·subst e;refine g1 0x206101048184041046041101184046 (λ_ a=>a (by decide) (by decide)) ?_;intro;exact eK fin [0,5,7,8]
theorem Ed{q so:Int}(F:GH dt src dst sp dp sq ak w fl n l)(hq:Fl q fl)(AX:q=2\/q=16\/q=18)(IG:q=2/\so=0\/q=16/\so=3\/q=18/\so=1)
  (hn:(di=0/\so=0/\st=0/\st'=1)\/(di=1/\so=1/\st=1/\st'=2)\/(di=0/\so=3/\st=2/\st'=3)\/(di=0/\so=3/\st=3/\st'=3)\/(di=1/\so=3/\st=2/\st'=2)\/(di=1/\so=3/\st=3/\st'=3))
  (GL:a8 g d sl a b di st (HN sq ak n w fl l) A B xa xb) {stt':Int} (hs:(so=3/\(Builtin.bitAnd stt 2==0)=false/\stt'=if st'=3 then Builtin.bitOr stt 4 else stt)\/(so≠3/\(Builtin.bitAnd stt 2==0)=true/\stt'=stt)) (Nb:(st'==3)=false\/(Builtin.bitAnd stt' 2==0)=false)
  (hl:(src=167772161/\sp=1000/\dst=3221225985/\dp=80/\di=0)\/(src=3221225985/\sp=80/\dst=167772161/\dp=1000/\di=1)) (hu:now<un) (hb:di=1\/(Builtin.bitAnd stt 2 != 0)=true):
  Bb g (d+12) 685 [.ref sn] [sn,tk,a,b] [(sn,Cb pk now v0 1 i2 (.ref bk) rf),(bk,Ck T G R X Fw last),(T,CM),(G,.idict [(1,.ref tk)]),(R,Km rr),(rr 3,B5),(tk,BK 1 BX Ca un si stt st (.ref sl)),(sl,.list [.ref a,.ref b]),(a,A),(b,B),(pk,Cy pi pj 6 20 0 pm),(pi,.barr dt)]
   [(sn,Cb pk now (.ref tk) 2 di (.ref bk) rf),(tk,BK 1 BX Ca (now+if xa.ua||xb.ua then min (CA st') 300000 else CA st') si (if di=1 then Builtin.bitOr stt' 2 else stt') st' (.ref sl)),(a,xa.o),(b,xb.o)] .none:=by
 have bp:([2,6,src,sp,dst,dp]=lA/\di=0)\/([2,6,src,sp,dst,dp]=lB/\di=1):=by
  rcases hl with ⟨rfl,rfl,rfl,rfl,rfl⟩|⟨rfl,rfl,rfl,rfl,rfl⟩
  ·exact .inl ⟨rfl,rfl⟩
  ·exact .inr ⟨rfl,rfl⟩
 have cF:=LW (d:=d) (tk:=tk) (pi:=pi) (rt:=rr 3) (bk:=bk) (sn:=sn) (pk:=pk) (v0:=v0) (i2:=i2) (rf:=rf) (T:=T) (G:=G) (R:=R) (X:=X) (Fw:=Fw) (last:=last) (pj:=pj) (pm:=pm) E (bp.elim (λh=>.inl h.2) λh=>.inr h.2) (ED (d:=d+8) (l:=[2,6,src,sp,dst,dp]) E bp hu hb) (J9 (d:=d) (num:=1) (un:=un) (si:=si) E F hq AX IG hn GL hs Nb);refine Av E 55 [⟨sn,Cb pk now v0 1 i2 (.ref bk) rf,true⟩,⟨bk,Ck T G R X Fw last,false⟩,⟨T,CM,false⟩,⟨G,.idict [(1,.ref tk)],false⟩,⟨R,Km rr,false⟩,⟨rr 3,B5,false⟩,⟨tk,BK 1 BX Ca un si stt st (.ref sl),true⟩,⟨sl,.list [.ref a,.ref b],false⟩,⟨a,A,true⟩,⟨b,B,true⟩,⟨pk,Cy pi pj 6 20 0 pm,false⟩,⟨pi,.barr dt,false⟩] λm fin Ay=>?_;refine g0 0x41045085041 ?_;intro;refine Ai (Ec E F) [10,11] [] rfl rfl ?_;refine g0 0x831c10460810c3 ?_;intro;refine Ai (C5 E) [1,4] [] rfl rfl ?_;refine g0 260 ?_;intro;refine lit rfl ?_;refine PT (b:=false) 5 rfl (.inr ⟨rfl,by decide⟩) ?_;refine sm (let S:=_;(?_:Sm _ S));refine g0 0x3084047082 ?_;intro;refine Ai cF [0,1,2,3,5,6,7,8,9,10,11] [0,6,8,9] (by kernel_rfl) (by kernel_rfl) ?_;exact eK fin [0,6,8,9]
end
noncomputable abbrev Ob(sq:Int)(n:Nat)(w:Int)(rows:List (Int×List Int)):O:=Br (AO 2 sq n) (AO 2 sq n) (max w 1) 0 (max (Ah rows) 0) (decide (0<=Ah rows)) (BP rows) false false false false
noncomputable abbrev Qv(w:Int):O:=Br 0 (max w 1) 0 0 0 false false false false false false
abbrev WO(g:Gl)(d:Nat)(fa:Addr)(args:List V)(sn bk pk:Nat)(rf:Nat->Nat)(now:Int)(pre:AW)(A B:O)(T G R X Fw:Nat):Prop:=CF g d fa args [sn,bk] pre (λ_:Nat×Nat×Nat×Nat=>True) (λ_=>.none) (λi=>[(i.2.2.2,.list [.ref i.2.1,.ref i.2.2.1]),(i.2.2.1,B),(i.2.1,A),(i.1,BK 1 BX Ca (now+120000) now 0 1 (.ref i.2.2.2))]) λi=>[(sn,Cb pk now (.ref i.1) 8 0 (.ref bk) rf),(bk,Ck T G R X Fw 1)]
section
variable{g:Gl}(E:AM g){d:Nat}{bk T G R X Fw tk sn pk pi pj pm a b sl n s r rt:Nat}{now un si stt stt' st st' last di num i1 i2:Int}{t0 t1 sd v0 vt:V}{rf rr:Nat->Nat}{src dst sp dp sq ak w fl sack:Int}{l dt:List Int}{rows:List (Int×List Int)}{bb:Bool}{x y xa xb:Sr}{A B:O}
include E
theorem LX(XA:Bb g (d+10) 656 [.ref sn,.int 0,vt] [sn] [(sn,Cb pk now v0 1 i2 (.ref bk) rf),(bk,Ck T G R X Fw last),(T,CM),(G,.idict [(1,.ref tk)]),(tk,BK 1 BX Ca un si stt st (.ref sl))] [(sn,Cb pk now (.ref tk) 2 di (.ref bk) rf)] (.bool true))
  (Xz:Bb g (d+10) 599 [.ref bk,.ref tk,.ref pk,.int di,.int now] [] [(tk,BK 1 BX Ca un si stt st (.ref sl)),(sl,.list [.ref a,.ref b]),(s,x.o),(r,y.o),(pk,Cy pi pj 6 20 0 pm),(pi,.barr dt)] [] (.str "invalid")):
  Bb g (d+11) 677 [.ref sn,.ref rt,.int 0,vt] [sn] [(sn,Cb pk now v0 1 i2 (.ref bk) rf),(bk,Ck T G R X Fw last),(T,CM),(G,.idict [(1,.ref tk)]),(rt,B5),(tk,BK 1 BX Ca un si stt st (.ref sl)),(sl,.list [.ref a,.ref b]),(s,x.o),(r,y.o),(pk,Cy pi pj 6 20 0 pm),(pi,.barr dt)]
   [(sn,Cb pk now .none 1 0 (.ref bk) rf)] .none:=by
 refine Av E 54 [⟨sn,Cb pk now v0 1 i2 (.ref bk) rf,true⟩,⟨bk,Ck T G R X Fw last,false⟩,⟨T,CM,false⟩,⟨G,.idict [(1,.ref tk)],false⟩,⟨rt,B5,false⟩,⟨tk,BK 1 BX Ca un si stt st (.ref sl),false⟩,⟨sl,.list [.ref a,.ref b],false⟩,⟨s,x.o,false⟩,⟨r,y.o,false⟩,⟨pk,Cy pi pj 6 20 0 pm,false⟩,⟨pi,.barr dt,false⟩] λm fin Ay=>?_;refine g0 0x6147041 ?_;intro;refine fJ (λ_:Unit=>True) (λ_=>[some (.ref sn),some (.ref rt),some (.int 0),some vt,some (.ref bk),some (.str "invalid"),none]) (λ_=>[⟨sn,Cb pk now (.ref tk) 2 di (.ref bk) rf,true⟩,⟨bk,Ck T G R X Fw last,false⟩,⟨T,CM,false⟩,⟨G,.idict [(1,.ref tk)],false⟩,⟨rt,B5,false⟩,⟨tk,BK 1 BX Ca un si stt st (.ref sl),false⟩,⟨sl,.list [.ref a,.ref b],false⟩,⟨s,x.o,false⟩,⟨r,y.o,false⟩,⟨pk,Cy pi pj 6 20 0 pm,false⟩,⟨pi,.barr dt,false⟩]) (by kernel_rfl) (λQ next=>?_) (λ_ _ Q=>?_)
 ·refine g1 0x40c1243046 (λ_ a=>a (by decide)) ?_;intro;refine Ai XA [0,1,2,3,5] [0] (by kernel_rfl) (by kernel_rfl) ?_;refine g0 0x2041181041041101045085082 ?_;intro;refine Ai Xz [5,6,7,8,9,10] [] (by kernel_rfl) (by kernel_rfl) ?_;refine g1 0x101186 (λ_ a=>a (by decide)) ?_;intro;exact eF (by kernel_rfl) (next () trivial)
 ·refine g1 0x480c1184046 (λ_ a=>a (by decide) (by decide)) ?_;intro;refine Ai (Ct E) [0] [0] rfl rfl ?_;refine g0 0 ?_;intro;exact eK fin [0]
theorem LF(F:GH dt src dst sp dp sq ak w fl n l)(hd:Dir di a b s r)(h:PO l rows bb)(hf:Fl 16 fl)(hw:x.mw≠0)(QL:sack=if y.sk then Co ak rows else ak)(hW:Bh x.e x.me x.mw y.e y.mw sq (AO 16 sq n) sack=false)(Cg:st=2\/st=3)
  (hl:(src=167772161/\sp=1000/\dst=3221225985/\dp=80/\di=0)\/(src=3221225985/\sp=80/\dst=167772161/\dp=1000/\di=1)) (hu:now<un) (hb:di=1\/(Builtin.bitAnd stt 2 != 0)=true):
  Bb g (d+12) 685 [.ref sn] [sn] [(sn,Cb pk now v0 1 i2 (.ref bk) rf),(bk,Ck T G R X Fw last),(T,CM),(G,.idict [(1,.ref tk)]),(R,Km rr),(rr 3,B5),(tk,BK 1 BX Ca un si stt st (.ref sl)),(sl,.list [.ref a,.ref b]),(s,x.o),(r,y.o),(pk,Cy pi pj 6 20 0 pm),(pi,.barr dt)]
   [(sn,Cb pk now .none 1 0 (.ref bk) rf)] .none:=by
 have bp:([2,6,src,sp,dst,dp]=lA/\di=0)\/([2,6,src,sp,dst,dp]=lB/\di=1):=by
  rcases hl with ⟨rfl,rfl,rfl,rfl,rfl⟩|⟨rfl,rfl,rfl,rfl,rfl⟩
  ·exact .inl ⟨rfl,rfl⟩
  ·exact .inr ⟨rfl,rfl⟩
 have cF:=LX (d:=d) (tk:=tk) (pi:=pi) (rt:=rr 3) (bk:=bk) (sn:=sn) (pk:=pk) (v0:=v0) (i2:=i2) (rf:=rf) (T:=T) (G:=G) (R:=R) (X:=X) (Fw:=Fw) (last:=last) (pj:=pj) (pm:=pm) E (ED (d:=d+8) (l:=[2,6,src,sp,dst,dp]) E bp hu hb) (J8 (d:=d) (num:=1) (un:=un) (si:=si) (stt:=stt) (sl:=sl) (now:=now) E F hd h hf hw QL hW Cg);refine Av E 55 [⟨sn,Cb pk now v0 1 i2 (.ref bk) rf,true⟩,⟨bk,Ck T G R X Fw last,false⟩,⟨T,CM,false⟩,⟨G,.idict [(1,.ref tk)],false⟩,⟨R,Km rr,false⟩,⟨rr 3,B5,false⟩,⟨tk,BK 1 BX Ca un si stt st (.ref sl),false⟩,⟨sl,.list [.ref a,.ref b],false⟩,⟨s,x.o,false⟩,⟨r,y.o,false⟩,⟨pk,Cy pi pj 6 20 0 pm,false⟩,⟨pi,.barr dt,false⟩] λm fin Ay=>?_;refine g0 0x41045085041 ?_;intro;refine Ai (Ec E F) [10,11] [] rfl rfl ?_;refine g0 0x831c10460810c3 ?_;intro;refine Ai (C5 E) [1,4] [] rfl rfl ?_;refine g0 260 ?_;intro;refine lit rfl ?_;refine PT (b:=false) 5 rfl (.inr ⟨rfl,by decide⟩) ?_;refine sm (let S:=_;(?_:Sm _ S));refine g0 0x3084047082 ?_;intro;refine Ai cF [0,1,2,3,5,6,7,8,9,10,11] [0] (by kernel_rfl) (by kernel_rfl) ?_;exact eK fin [0]
theorem Kb(F:GH dt 167772161 3221225985 1000 80 sq ak w fl n l)(h:PO l rows bb)(hf:Fl 2 fl)(h0:0<=w)(h1:w<65536):WO g (d+11) 677 [.ref sn,.ref rt,.int 0,BX] sn bk pk rf now [(sn,Cb pk now v0 1 i2 (.ref bk) rf),(bk,Ck T G R X Fw 0),(T,.tdict []),(G,.idict []),(X,.list []),(rt,B5),(pk,Cy pi pj 6 20 0 pm),(pi,.barr dt)] (Ob sq n w rows) (Qv w) T G R X Fw:=by
 have Xz:∀tk a b sl,Bb g (d+10) 599 [.ref bk,.ref tk,.ref pk,.int 0,.int now] [tk,a,b] [(tk,BK 1 BX Ca 0 now 0 0 (.ref sl)),(sl,.list [.ref a,.ref b]),(a,Ob sq n w rows),(b,bK),(pk,Cy pi pj 6 20 0 pm),(pi,.barr dt)] [(tk,BK 1 BX Ca (now+120000) now 0 1 (.ref sl)),(a,Ob sq n w rows),(b,Qv w)] (.str "ok"):=λtk a b sl=>J9 (xa:=Sr.mk (AO 2 sq n) (AO 2 sq n) (max w 1) 0 (max (Ah rows) 0) (decide (0<=Ah rows)) (BP rows) false false) (xb:=Sr.mk 0 (max w 1) 0 0 0 false false false false) E F hf (.inl rfl) (.inl ⟨rfl,rfl⟩) (.inl ⟨rfl,rfl,rfl,rfl⟩) (FD E rfl hf h0 h1 (L0 [_] [] 520511553) (by have:=F.nn;exact L1 [_] [] 0xc82c80041fa05907e041 this)) (.inr ⟨by decide,by decide,rfl⟩) (.inl (by decide))
 have XA:Bb g (d+10) 656 [.ref sn,.int 0,BX] [] [(sn,Cb pk now v0 1 i2 (.ref bk) rf),(bk,Ck T G R X Fw 0),(T,.tdict [])] [] (.bool false):=Ii (d:=d+8) E lA;refine Bu E 54 [⟨sn,Cb pk now v0 1 i2 (.ref bk) rf,true⟩,⟨bk,Ck T G R X Fw 0,true⟩,⟨T,.tdict [],false⟩,⟨G,.idict [],false⟩,⟨X,.list [],false⟩,⟨rt,B5,false⟩,⟨pk,Cy pi pj 6 20 0 pm,false⟩,⟨pi,.barr dt,false⟩] λm fin Ay=>?_;refine g0 0x6147041 ?_;intro;refine fJ (λi:Nat×Nat×Nat×Nat=>m.os0.length<=i.1/\m.os0.length<=i.2.1/\m.os0.length<=i.2.2.1/\m.os0.length<=i.2.2.2) (λi=>[some (.ref sn),some (.ref rt),some (.int 0),some BX,some (.ref bk),some (.str "ok"),some .none]) (λi=>[⟨i.2.2.2,.list [.ref i.2.1,.ref i.2.2.1],true⟩,⟨i.2.2.1,Qv w,true⟩,⟨i.2.1,Ob sq n w rows,true⟩,⟨i.1,BK 1 BX Ca (now+120000) now 0 1 (.ref i.2.2.2),true⟩,⟨sn,Cb pk now (.ref i.1) 8 0 (.ref bk) rf,true⟩,⟨bk,Ck T G R X Fw 1,true⟩,⟨T,.tdict [],false⟩,⟨G,.idict [],false⟩,⟨X,.list [],false⟩,⟨rt,B5,false⟩,⟨pk,Cy pi pj 6 20 0 pm,false⟩,⟨pi,.barr dt,false⟩]) (by kernel_rfl) (λQ next=>?_) (λi hi Q=>?_)
 ·refine g1 0x40c1243046 (λ_ a=>a (by decide)) ?_;intro;refine Ai XA [0,1,2] [] (by kernel_rfl) (by kernel_rfl) ?_;refine g0 0x103081281 ?_;intro;refine A3 (Il (d:=d+3) E F h hf) [0,1,3,4,5,6,7] [0,1] rfl (λ_=>rfl) λi hi fi=>?_;refine g0 0x85046141045044141142282081105047 ?_;intro;refine Ai (Xz i.1 i.2.1 i.2.2.1 i.2.2.2) [3,0,2,1,10,11] [3,2,1] (by kernel_rfl) (by kernel_rfl) ?_;refine g1 0x101186 (λ_ a=>a (by decide)) ?_;intro;exact eF (by kernel_rfl) (next i ⟨(fi _ (.tail _ (.tail _ (.tail _ (.head _))))).1,(fi _ (.tail _ (.tail _ (.head _)))).1,(fi _ (.tail _ (.head _))).1,(fi _ (.head _)).1⟩)
 ·refine g1 0x86141101184046 (λ_ a=>a (by decide) (by decide)) ?_;intro;exact eV (fin _ _ (Bs i [0,1,2,3,4,5] rfl rfl rfl (AI hi.2.2.2 (AI hi.2.2.1 (AI hi.2.1 (AI hi.1 Bz)))) trivial rfl))
theorem J1(F:GH dt 167772161 3221225985 1000 80 sq ak w fl n l)(h:PO l rows bb)(hf:Fl 2 fl)(h0:0<=w)(h1:w<65536):WO g (d+12) 685 [.ref sn] sn bk pk rf now [(sn,Cb pk now v0 1 i2 (.ref bk) rf),(bk,Ck T G R X Fw 0),(T,.tdict []),(G,.idict []),(R,Km rr),(X,.list []),(rr 3,B5),(pk,Cy pi pj 6 20 0 pm),(pi,.barr dt)] (Ob sq n w rows) (Qv w) T G R X Fw:=by refine Bu E 55 [⟨sn,Cb pk now v0 1 i2 (.ref bk) rf,true⟩,⟨bk,Ck T G R X Fw 0,true⟩,⟨T,.tdict [],false⟩,⟨G,.idict [],false⟩,⟨R,Km rr,false⟩,⟨X,.list [],false⟩,⟨rr 3,B5,false⟩,⟨pk,Cy pi pj 6 20 0 pm,false⟩,⟨pi,.barr dt,false⟩] λm fin Ay=>?_;refine g0 0x41045085041 ?_;intro;refine Ai (Ec E F) [7,8] [] rfl rfl ?_;refine g0 0x831c10460810c3 ?_;intro;refine Ai (C5 E) [1,4] [] rfl rfl ?_;refine g0 260 ?_;intro;refine lit rfl ?_;refine PT (b:=false) 6 rfl (.inr ⟨rfl,by decide⟩) ?_;refine sm (let S:=_;(?_:Sm _ S));refine g0 0x3084047082 ?_;intro;refine A3 (Kb (d:=d) (rt:=rr 3) E F h hf h0 h1) [0,1,2,3,5,6,7,8] [0,1] rfl (λ_=>rfl) λi hi fi=>?_;skip;exact eV (fin _ _ (Bs i [0,1,2,3,4,5] rfl rfl rfl (AI (fi _ (.head _)).1 (AI (fi _ (.tail _ (.head _))).1 (AI (fi _ (.tail _ (.tail _ (.head _)))).1 (AI (fi _ (.tail _ (.tail _ (.tail _ (.head _))))).1 Bz)))) trivial rfl))
theorem GA:Bb g (d+3) 692 [.ref sn] [] [(sn,Cb pk now .none i1 i2 (.ref bk) rf)] [] .none:=by refine Av E 56 [⟨sn,Cb pk now .none i1 i2 (.ref bk) rf,false⟩] λm fin Ay=>?_;refine g0 0x410430c4041087041 ?_;intro;exact eK fin []
theorem DX(h8:(Builtin.bitAnd stt 8 != 0)=true):Bb g (d+3) 692 [.ref sn] [] [(sn,Cb pk now (.ref tk) i1 i2 (.ref bk) rf),(tk,BK 1 BX Ca un si stt st sd)] [] .none:=by refine Av E 56 [⟨sn,Cb pk now (.ref tk) i1 i2 (.ref bk) rf,false⟩,⟨tk,BK 1 BX Ca un si stt st sd,false⟩] λm fin Ay=>?_;refine g1 0x10c42020c20430c4041087041 (λ_ a=>a (h8)) ?_;intro;exact eK fin []
theorem Hc:Bb g (d+3) 692 [.ref sn] [T,G,tk] [(sn,Cb pk now (.ref tk) 8 0 (.ref bk) rf),(bk,Ck T G R X Fw 1),(T,.tdict []),(G,.idict []),(tk,BK 1 BX Ca un si 0 st sd)] [(T,CM),(G,.idict [(1,.ref tk)]),(tk,BK 1 BX Ca un si 8 st sd)] .none:=by have hA:Bb g (d+2) 319 [.ref bk,.int 0,BX,.int now] [] [(bk,Ck T G R X Fw 1),(T,.tdict [])] [] .none:=DA (d:=d+1) E lA;have hB:Bb g (d+2) 319 [.ref bk,.int 0,Ca,.int now] [] [(bk,Ck T G R X Fw 1),(T,.tdict [])] [] .none:=DA (d:=d+1) E lB;refine Av E 56 [⟨sn,Cb pk now (.ref tk) 8 0 (.ref bk) rf,false⟩,⟨bk,Ck T G R X Fw 1,false⟩,⟨T,.tdict [],true⟩,⟨G,.idict [],true⟩,⟨tk,BK 1 BX Ca un si 0 st sd,true⟩] λm fin Ay=>?_;refine g0 0x810441050c21440c50c21430820842050c20430c4041087041 ?_;intro;refine Ai hA [1,2] [] (by kernel_rfl) (by kernel_rfl) ?_;refine g0 0x810441050c2144081 ?_;intro;refine Ai hB [1,2] [] (by kernel_rfl) (by kernel_rfl) ?_;refine g0 0x30850c4143102081143081 ?_;intro;refine pT (i:=T) [] (0,lA) (by kernel_rfl) (by decide) (by decide) ?_;refine g0 0x30c50c4143102081143 ?_;intro;refine pT (i:=T) [((0,lA),.tup [.int 1,.int 0])] (0,lB) (by kernel_rfl) (by decide) (by decide) ?_;refine g1 0x81432050c1101143142083 (λ_ a=>a (by decide)) ?_;intro;exact eK fin [2,3,4]
end
section
variable{g:Gl}(E:AM g){d:Nat}{pk fs:Nat}{now:Int}
include E
theorem Ip:CF g (d+2) 710 [.ref pk,.ref fs,.int now] [] [] (λ_:Nat×(Nat->Nat)=>True) (λx=>.ref x.1) (λx=>[(x.1,Cb pk now .none 1 0 .none x.2)]) λ_=>[]:=by refine JZ E 57 [] (.tail _ (.tail _ (.tail _ (.tail _ (.head _))))) λm n hn Ef fin Ay=>?_;refine g1 0xfc107f041fc107f041fc1045fc1044fc1042 (λ_ a=>a (by decide) (by decide) (by decide) (by decide) (by decide) (by decide) (by decide)) ?_;intro;refine nD (.sdict []) .s (by kernel_rfl) (λr0 f0=>?_);refine g1 0x3f081 (λ_ a=>a (by decide)) ?_;intro;refine nD (.sdict []) .s (by kernel_rfl) (λr1 f1=>?_);refine g1 0x3f0c10ff0c1 (λ_ a=>a (by decide) (by decide)) ?_;intro;refine nD (.sdict []) .s (by kernel_rfl) (λr3 f3=>?_);refine g1 0x3f101 (λ_ a=>a (by decide)) ?_;intro;refine nD (.sdict []) .s (by kernel_rfl) (λr4 f4=>?_);refine g1 0x3f141 (λ_ a=>a (by decide)) ?_;intro;refine nD (.sdict []) .s (by kernel_rfl) (λr5 f5=>?_);refine g1 0x3f181 (λ_ a=>a (by decide)) ?_;intro;refine nD (.sdict []) .s (by kernel_rfl) (λr6 f6=>?_);refine g1 0xfc707f1c1 (λ_ a=>a (by decide) (by decide)) ?_;intro;refine nL (.list []) (by kernel_rfl) (λr7 f7=>?_);refine g1 0x3f201 (λ_ a=>a (by decide)) ?_;intro;refine nL (.list []) (by kernel_rfl) (λr8 f8=>?_);refine g1 0xfc907f241 (λ_ a=>a (by decide) (by decide)) ?_;intro;refine nD (.sdict []) .s (by kernel_rfl) (λr9 f9=>?_);refine g1 0x3f281 (λ_ a=>a (by decide)) ?_;intro;exact eN (Ay _ _ (fin _ _ ⟨(by kernel_rfl),Bo (n,λi=>[r0,r1,fs,r3,r4,r5,r6,r7,r8,r9].getD i 0) [9] (by kernel_rfl) (AI hn Bz) trivial rfl⟩))
theorem LY:CF g (d+2) 240 [.int 4,.int 0] [] [] (λ_:Nat×Nat×Nat×Nat×Nat×Nat=>True) (λx=>.ref x.1) (λx=>[(x.2.2.2.2.1,.list []),(x.2.1,.tdict []),(x.2.2.1,.idict []),(x.1,Ck x.2.1 x.2.2.1 x.2.2.2.1 x.2.2.2.2.1 x.2.2.2.2.2 0)]) λ_=>[]:=by refine JZ E 12 [] (.tail _ (.tail _ (.head _))) λm n hn Ef fin Ay=>?_;refine g1 0xfc1044fc1043fc1042 (λ_ a=>a (by decide) (by decide) (by decide)) ?_;intro;refine nD (.tdict []) .t (by kernel_rfl) (λT fT=>?_);refine g1 0x3f081 (λ_ a=>a (by decide)) ?_;intro;refine nD (.idict []) .i (by kernel_rfl) (λG fG=>?_);refine g1 0xfc307f0c1 (λ_ a=>a (by decide) (by decide)) ?_;intro;refine nD (.idict []) .i (by kernel_rfl) (λR fR=>?_);refine g1 0x3f101 (λ_ a=>a (by decide)) ?_;intro;refine nL (.list []) (by kernel_rfl) (λX fX=>?_);refine g1 0x3f141 (λ_ a=>a (by decide)) ?_;intro;refine nD (.sdict []) .s (by kernel_rfl) (λFw fF=>?_);refine g1 0xfc607f181 (λ_ a=>a (by decide) (by decide)) ?_;intro;exact eN (Ay _ _ (fin _ _ ⟨(by kernel_rfl),Bo (n,T,G,R,X,Fw) [1,4,3,5] (by kernel_rfl) (AI fX.1 (AI fT.1 (AI fG.1 (AI hn Bz)))) trivial rfl⟩))
abbrev SJ(g:Gl)(d:Nat)(fa:Addr)(N:Nat×Nat×Nat->AW):Prop:=CF g d fa [] [] [] (λ_:Nat×Nat×Nat=>True) (λx=>.ref x.1) N λ_=>[]
theorem Gr:SJ g (d+1) 606 λx=>[(x.2.1,B5),(x.1,.idict [(6,.ref x.2.1)])]:=by refine Bu E 46 [] λm fin Ay=>?_;refine g0 0 ?_;intro;refine nI [6] _ _ _ rfl rfl (by decide) (λn fn=>?_);refine nS ["begin","go"] _ _ _ rfl rfl (by decide) (λm' fm=>?_);refine g0 1 ?_;intro;refine nC (v:=.imm (.ref 578)) (by kernel_rfl) ?_;refine g0 2 ?_;intro;refine nE (v:=.imm (.ref 599)) 0 (by kernel_rfl) (by kernel_rfl) rfl ?_;refine nE (v:=.ref m') 1 (by kernel_rfl) (by kernel_rfl) rfl ?_;skip;exact eV (fin _ _ (Bo (n,m',0) [0,1] (by kernel_rfl) (AI fm.1 (AI fn.1 Bz)) trivial rfl))
theorem Gq:SJ g (d+1) 389 λx=>[(x.1,.idict [(17,.ref x.2.1)])]:=by refine Bu E 19 [] λm fin Ay=>?_;refine g0 0 ?_;intro;refine nI [17] _ _ _ rfl rfl (by decide) (λn fn=>?_);refine nS ["begin","go"] _ _ _ rfl rfl (by decide) (λm' fm=>?_);refine g0 1 ?_;intro;refine nC (v:=.imm (.ref 326)) (by kernel_rfl) ?_;refine g0 2 ?_;intro;refine nE (v:=.imm (.ref 333)) 0 (by kernel_rfl) (by kernel_rfl) rfl ?_;refine nE (v:=.ref m') 1 (by kernel_rfl) (by kernel_rfl) rfl ?_;skip;exact eV (fin _ _ (Bo (n,m',0) [1] (by kernel_rfl) (AI fn.1 Bz) trivial rfl))
theorem EW:SJ g (d+1) 403 λx=>[(x.1,.idict [(-1,.ref x.2.1)])]:=by refine Bu E 21 [] λm fin Ay=>?_;refine g0 0 ?_;intro;refine nI [-1] _ _ _ rfl rfl (by decide) (λn fn=>?_);refine nS ["begin","go"] _ _ _ rfl rfl (by decide) (λm' fm=>?_);refine g0 1 ?_;intro;refine nC (v:=.imm (.ref 326)) (by kernel_rfl) ?_;refine g0 2 ?_;intro;refine nE (v:=.imm (.ref 354)) 0 (by kernel_rfl) (by kernel_rfl) rfl ?_;refine nE (v:=.ref m') 1 (by kernel_rfl) (by kernel_rfl) rfl ?_;skip;exact eV (fin _ _ (Bo (n,m',0) [1] (by kernel_rfl) (AI fn.1 Bz) trivial rfl))
theorem FF:SJ g (d+1) 396 λx=>[(x.1,.idict [(1,.ref x.2.1),(58,.ref x.2.2)])]:=by refine Bu E 20 [] λm fin Ay=>?_;refine g0 0 ?_;intro;refine nI [1,58] _ _ _ rfl rfl (by decide) (λn fn=>?_);refine nS ["begin","go","error"] _ _ _ rfl rfl (by decide) (λm1 f1=>?_);refine g0 1 ?_;intro;refine nC (v:=.imm (.ref 340)) (by kernel_rfl) ?_;refine g0 2 ?_;intro;refine nC (v:=.imm (.ref 347)) (by kernel_rfl) ?_;refine g0 3 ?_;intro;refine nE (v:=.imm (.ref 375)) 0 (by kernel_rfl) (by kernel_rfl) rfl ?_;refine nC (v:=.ref m1) (by kernel_rfl) ?_;refine nS ["begin","go","error"] _ _ _ rfl rfl (by decide) (λm2 f2=>?_);refine g0 1 ?_;intro;refine nC (v:=.imm (.ref 340)) (by kernel_rfl) ?_;refine g0 2 ?_;intro;refine nC (v:=.imm (.ref 347)) (by kernel_rfl) ?_;refine g0 4 ?_;intro;refine nE (v:=.imm (.ref 382)) 0 (by kernel_rfl) (by kernel_rfl) rfl ?_;refine nE (v:=.ref m2) 2 (by kernel_rfl) (by kernel_rfl) rfl ?_;skip;exact eV (fin _ _ (Bo (n,m1,m2) [2] (by kernel_rfl) (AI fn.1 Bz) trivial rfl))
theorem GB:CF g (d+2) 620 [] [] [] (λ_:Nat×(Nat->Nat)=>True) (λx=>.ref x.1) (λx=>[(x.1,Km x.2),(x.2 3,B5)]) λ_=>[]:=by refine Bu E 48 [] λm fin Ay=>?_;refine g0 0 ?_;intro;refine nD (.idict []) .i (by kernel_rfl) (λt ft=>?_);refine g0 0x4081 ?_;intro;refine A3 (Gq (d:=d) E) [] [] rfl (λ_=>rfl) λx1 h1 f1=>?_;refine g0 5 ?_;intro;refine A3 (FF (d:=d) E) [] [] rfl (λ_=>rfl) λx2 h2 f2=>?_;refine g0 6 ?_;intro;refine A3 (Gr (d:=d) E) [] [] rfl (λ_=>rfl) λx3 h3 f3=>?_;refine g0 7 ?_;intro;refine A3 (EW (d:=d) E) [] [] rfl (λ_=>rfl) λx4 h4 f4=>?_;refine g0 2 ?_;intro;rename_i S1;refine bT 4 0 (fY (fB (st 98)) 1) x1.1 [(17,.ref x1.2.1)] (by kernel_rfl) (λep=>?_);refine g0 2 ?_;intro;refine kV rfl (by kernel_rfl) (by kernel_rfl) ?_;refine g0 0x143083 ?_;intro;refine sE (ks:=[(17,.ref x1.2.1)]) (ep:=ep) (x:=17) (by kernel_rfl) .head ?_;refine g1 0x460c1 (λ_ a=>a (by decide)) ?_;intro;refine bQ 4 0 (fY (fB (st 98)) 1) S1.fr x1.1 [(17,.ref x1.2.1)] ep (by kernel_rfl) ?_;refine g0 2 ?_;intro;rename_i S2;refine bT 3 0 (fY (fB (st 98)) 1) x2.1 [(1,.ref x2.2.1),(58,.ref x2.2.2)] (by kernel_rfl) (λep=>?_);refine g0 2 ?_;intro;refine kV rfl (by kernel_rfl) (by kernel_rfl) ?_;refine g0 0x103083 ?_;intro;refine sE (ks:=[(1,.ref x2.2.1),(58,.ref x2.2.2)]) (ep:=ep) (x:=1) (by kernel_rfl) .head ?_;refine bR 0x460c1 ((1:Int)∉[(17:Int)]) (bM (by kernel_rfl)) ?_ (by kernel_rfl);intro;refine nW 3 0 (fY (fB (st 98)) 1) S2.fr x2.1 [(1,.ref x2.2.1),(58,.ref x2.2.2)] ep 58 (.ref x2.2.2) [] (by kernel_rfl) ?_;refine g0 0x103083 ?_;intro;refine sE (ks:=[(1,.ref x2.2.1),(58,.ref x2.2.2)]) (ep:=ep) (x:=58) (by kernel_rfl) (.tail .head) ?_;refine bR 0x460c1 ((58:Int)∉[(17:Int),1]) (bM (by kernel_rfl)) ?_ (by kernel_rfl);intro;refine bQ 3 0 (fY (fB (st 98)) 1) S2.fr x2.1 [(1,.ref x2.2.1),(58,.ref x2.2.2)] ep (by kernel_rfl) ?_;refine g0 2 ?_;intro;rename_i S3;refine bT 2 0 (fY (fB (st 98)) 1) x3.1 [(6,.ref x3.2.1)] (by kernel_rfl) (λep=>?_);refine g0 2 ?_;intro;refine kV rfl (by kernel_rfl) (by kernel_rfl) ?_;refine g0 0xc3083 ?_;intro;refine sE (ks:=[(6,.ref x3.2.1)]) (ep:=ep) (x:=6) (by kernel_rfl) .head ?_;refine bR 0x460c1 ((6:Int)∉[(17:Int),1,58]) (bM (by kernel_rfl)) ?_ (by kernel_rfl);intro;refine bQ 2 0 (fY (fB (st 98)) 1) S3.fr x3.1 [(6,.ref x3.2.1)] ep (by kernel_rfl) ?_;refine g0 2 ?_;intro;rename_i S4;refine bT 0 0 (fY (fB (st 98)) 1) x4.1 [(-1,.ref x4.2.1)] (by kernel_rfl) (λep=>?_);refine g0 2 ?_;intro;refine kV rfl (by kernel_rfl) (by kernel_rfl) ?_;refine g0 0x43083 ?_;intro;refine sE (ks:=[(-1,.ref x4.2.1)]) (ep:=ep) (x:= -1) (by kernel_rfl) .head ?_;refine bR 0x460c1 ((-1:Int)∉[(17:Int),1,58,6]) (bM (by kernel_rfl)) ?_ (by kernel_rfl);intro;refine bQ 0 0 (fY (fB (st 98)) 1) S4.fr x4.1 [(-1,.ref x4.2.1)] ep (by kernel_rfl) ?_;refine g0 1 ?_;intro;exact eV (fin _ _ (Bo (t,λi=>[x1.2.1,x2.2.1,x2.2.2,x3.2.1,x4.2.1].getD i 0) [5,1] (by kernel_rfl) (AI ft.1 (AI (f3 _ (.head _)).1 Bz)) trivial rfl))
noncomputable abbrev oL(x:Nat×Nat×Nat×Nat×Nat×Nat×(Nat->Nat)):AW:=[(x.2.2.2.1,Km x.2.2.2.2.2.2),(x.2.2.2.2.2.2 3,B5),(x.2.1,.tdict []),(x.2.2.1,.idict []),(x.2.2.2.2.1,.list []),(x.1,Ck x.2.1 x.2.2.1 x.2.2.2.1 x.2.2.2.2.1 x.2.2.2.2.2.1 0)]
theorem J2:CF g (d+3) 628 [.int 4] [] [] (λ_:Nat×Nat×Nat×Nat×Nat×Nat×(Nat->Nat)=>True) (λx=>.ref x.1) oL λ_=>[]:=by refine Bu E 49 [] λm fin Ay=>?_;refine g0 0x2044 ?_;intro;refine A3 (LY (d:=d) E) [] [] rfl (λ_=>rfl) λx1 h1 f1=>?_;refine g0 323 ?_;intro;refine A3 (GB (d:=d) E) [] [] rfl (λ_=>rfl) λx2 h2 f2=>?_;refine g0 0xc7183 ?_;intro;exact eV (fin _ _ (Bo (x1.1,x1.2.1,x1.2.2.1,x2.1,x1.2.2.2.2.1,x1.2.2.2.2.2,x2.2) [0,1,3,4,2,5] (by kernel_rfl) (AI (f2 _ (.head _)).1 (AI (f2 _ (.tail _ (.head _))).1 (AI (f1 _ (.tail _ (.head _))).1 (AI (f1 _ (.tail _ (.tail _ (.head _)))).1 (AI (f1 _ (.head _)).1 (AI (f1 _ (.tail _ (.tail _ (.tail _ (.head _))))).1 Bz)))))) trivial rfl))
end
noncomputable def B7(n:Int):List Int:=[n/16777216%256,n/65536%256,n/256%256,n%256]
noncomputable def A4(n:Nat):Nat:=(4-n%4)%4
theorem HR(n:Nat):(n+A4 n)%4=0:=by
 have key:∀r,r<4->(r+(4-r)%4)%4=0:=by decide
 show(n+(4-n%4)%4)%4=0;rw[<-Nat.mod_add_mod];exact key _ (s8 n (by decide))
theorem Po{n:Nat}(h:n<=40):n+A4 n<=40:=by
 have key:∀n,n<41->n+(4-n%4)%4<=40:=by decide
 exact key n (rI h)
theorem d7{p x:Nat}(h:0<x)(h':x<=p):p-(x-1)=p-x+1:=by rw[Nat.sub_sub_right p h];exact Nat.sub_add_comm h'
theorem d8{m x:Nat}(h:(m+x)%4=0)(hx:x<4):m%4=0<->x=0:=by
 have key:∀r,r<4->∀x,x<4->(r+x)%4=0->(r=0<->x=0):=by decide
 exact key _ (s8 m (by decide)) x hx (by rw[Nat.mod_add_mod];exact h)
abbrev gy(g:Gl)(d i:Nat)(f:Int)(l:List Int):Prop:=CF g d 736 [.ref i,.int f] [] [(i,.list (l.map .int))] (λx:Option Nat=>x=none->A4 l.length=0) (λx=>.ref (x.getD i)) (λx=>x.elim [] λp=>[(p,.list ((l++List.replicate (A4 l.length) f).map .int))]) λ_=>[]
section
variable{g:Gl}(E:AM g){d:Nat}{b i:Nat}{x q n f:Int}{l:List Int}
include E
theorem AC(h:0<q/\q<1073741824):Bb g (d+1) 722 [.ref b,.int q] [b] [(b,.list [.int x])] [(b,.list [.int (x/q)])] (.int (x%q)):=by have h1:=h.1;refine Av E 58 [⟨b,.list [.int x],true⟩] λm fin Ay=>?_;refine g1 0x30410420810410c2081041 (λ_ a=>a (h) (h1)) ?_;intro;exact eK fin [0]
theorem B2:SK g (d+1) 729 [.int n] (.list ((B7 n).map .int)):=by refine Bu E 59 [] λm fin Ay=>?_;refine g0 0x1041041041041041041 ?_;intro;refine nL _ rfl (λp fp=>?_);skip;exact eV (fin _ _ (Bo p [0] (by kernel_rfl) (AI fp.1 Bz) trivial rfl))
theorem EC(hl:l.length<=1000):gy g (d+1) i f l:=by
 have hn:A4 l.length<=3:=by unfold A4;exact L1 [_] [] 0x20720110461c80041 (s8 (4-l.length%4) (show 0<4 by decide))
 have de:=HR l.length;refine Bu E 60 [⟨i,.list (l.map .int),false⟩] λm fin Ay=>?_;refine om (α:=Nat×Nat×Bool) (λx=>x.1<=A4 l.length/\((x.2.1=i/\x.1=A4 l.length)\/m.os0.length<=x.2.1)) (·.1) (λx=>[some (.ref x.2.1),some (.int f)]) (λx=>[⟨x.2.1,.list ((l++List.replicate (A4 l.length-x.1) f).map .int),x.2.2⟩]) (A4 l.length,i,false) [0] rfl ⟨oU _,.inl ⟨rfl,rfl⟩⟩ rfl ?_ (λx hx Q next=>?_)
 ·show E2 [0] [⟨i,.list (l.map .int),false⟩] [⟨i,.list ((l++List.replicate (A4 l.length-A4 l.length) f).map .int),false⟩];rw[rj,pH,bE];rfl
 have Ac:((l++List.replicate (A4 l.length-x.1) f).map V.int).length=l.length+(A4 l.length-x.1):=by simp
 have cf:=hx.1;have kQ:(((l++List.replicate (A4 l.length-x.1) f).map V.int).length+x.1)%4=0:=by rw[Ac,sS,jT cf];exact de
 have hz:=d8 kQ (rI (mi cf hn));refine g0 67 ?_;intro;refine PG 0 rfl (L4 [_,_,_,_] [] 0x10c04118740210461c88041fa05908083e84804c80041 hl hn Ac (Nat.sub_le (Mine.A4 l.length) x.fst)) ?_;refine g0 1 ?_;intro;refine wB _ rfl (λq=>?_) (λq=>?_)
 ·have q:=dv q;refine g0 0x2041 ?_;intro;refine nL _ rfl (λp fp=>?_);skip;refine ad 1 0 rfl (by rw[Ac];show _+1<=_;exact L3 [_,_,_] [] 0x104041187220107e81640020fa12013210e420d68041 hl hn (Nat.sub_le (Mine.A4 l.length) x.fst)) (λp2 lF=>?_);refine g0 1 ?_;intro;have cg:0<x.1:=Nat.pos_of_ne_zero λe=>Nat.ne_of_gt (pv.mp q) (hz.mpr e);refine eF rfl (next (x.1-1,p2,true) [0] _ (Nat.sub_lt cg Nat.one_pos) ⟨by show x.1-1<=_;exact L2 [_,_,_] [] 0x100041088041080041 hx.1 (Nat.sub_le x.fst 1),.inr lF.1⟩ ?_);show E2 [0] _ [⟨p2,.list ((l++List.replicate (A4 l.length-(x.1-1)) f).map .int),true⟩];rw[show A4 l.length-(x.1-1)=(A4 l.length-x.1)+1 from d7 cg cf,sf,<-bF,jJ (l₁:=l++_)];rfl
 ·have q:=gG q;have h0:x.1=0:=hz.mp (Nat.eq_zero_of_not_pos λh=>q (pv.mpr h));refine g0 66 ?_;intro;refine hx.2.elim (λh=>?_) λh=>?_
  ·exact eV (fin _ _ (Bo none [] (by kernel_rfl) Bz (λ_=>by exact gH (L2 [_,_] [] 0x1218419090820c80041 h0 h.2) (L0 [_] [] 409665)) (by rw[<-h.1];rfl)))
  ·exact eV (fin _ _ (Bs (some x.2.1) [0] rfl (by rw[h0];rfl) rfl (AI h Bz) (λh=>nomatch h) rfl))
theorem Fp:SK g (d+1) 762 [] (Qi 0 0 0 0 0 false false false false):=by refine Bu E 63 [] λm fin Ay=>?_;refine g0 0 ?_;intro;refine nS ["end","maxend","maxwin","maxack","scale","is_scaled","is_sack"] _ _ _ rfl rfl (by decide) (λn fn=>?_);refine g0 0 ?_;intro;refine nC (v:=.int 0) (by kernel_rfl) ?_;refine g0 0 ?_;intro;refine nC (v:=.int 0) (by kernel_rfl) ?_;refine g0 0 ?_;intro;refine nC (v:=.int 0) (by kernel_rfl) ?_;refine g0 0 ?_;intro;refine nC (v:=.int 0) (by kernel_rfl) ?_;refine g0 0 ?_;intro;refine nC (v:=.int 0) (by kernel_rfl) ?_;refine g0 0 ?_;intro;refine nC (v:=.bool false) (by kernel_rfl) ?_;refine g0 0 ?_;intro;refine nE (v:=.bool false) 0 (by kernel_rfl) (by kernel_rfl) rfl ?_;refine g1 0x7f041fc1041 (λ_ a=>a (by decide) (by decide)) ?_;intro;exact eV (fin _ _ (Bo n [0] (by kernel_rfl) (AI fn.1 Bz) trivial rfl))
end
structure Dr where
 e:Int
 me:Int
 mw:Int
 ma:Int
 sc:Int
 isc:Bool
 sk:Bool
 hm:Bool
 ua:Bool
noncomputable abbrev Dr.o(x:Dr):O:=Qi x.e x.me x.mw x.ma x.sc x.isc x.sk x.hm x.ua
section
variable{g:Gl}(E:AM g){d:Nat}{b r0 r1 u:Nat}{k way now st sta un:Int}{x y:Dr}
include E
theorem EZ{st' sta':Int}(gZ:st'=1\/st'=2\/st'=3)(Cg:st'=if k<2 then 1+k else if way=0\/st=3 then 3 else 2)(IC:sta'=if k=1 then 10 else if st'=3 then 14 else sta):
  Bb g (d+1) 804 [.int k,.int way,.int now,.ref b,.ref u] [u] [(b,.list [.ref r0,.ref r1]),(r0,x.o),(r1,y.o),(u,Sl st sta un)] [(u,Sl st' sta' (now+if x.ua||y.ua then min (CA st') 300000 else CA st'))] .none:=by
 have hv:([V.int 0,.int 120000,.int 60000,.int 432000000]:List V)[st'.toNat]? =some (.int (CA st')):=by rcases gZ with rfl|rfl|rfl<;>rfl
 have h0:0<=st'/\st'<1000000:=by rcases gZ with rfl|rfl|rfl<;>decide
 refine Av E 69 [⟨b,.list [.ref r0,.ref r1],false⟩,⟨r0,x.o,false⟩,⟨r1,y.o,false⟩,⟨u,Sl st sta un,true⟩] λm fin Ay=>?_;refine g0 0x1181105 ?_;intro;refine jX (.int st') (by kernel_rfl) (λm' Aq=>wB _ rfl (λq=>?_) (λq=>?_)) ?_
 ·refine g0 65 ?_;intro;exact eV (Aq _ _ 0 rfl (by rw[Cg,lW (dv q)];rfl))
 ·have Cg:=Cg.trans (jU (gG q));refine g0 130 ?_;intro;refine wB _ rfl (λq1=>?_) (λq1=>?_)
  ·refine g0 65 ?_;intro;exact eV (Aq _ _ 0 rfl (by rw[Cg,lW (.inl (dv q1))];rfl))
  ·refine g0 386 ?_;intro;refine wB _ rfl (λq2=>?_) (λq2=>?_)
   ·refine g0 65 ?_;intro;exact eV (Aq _ _ 0 rfl (by rw[Cg,lW (.inr (dv q2))];rfl))
   ·refine g0 130 ?_;intro;exact eV (Aq _ _ 0 rfl (by rw[Cg,jU (λh=>h.elim (gG q1) (gG q2))];rfl))
 refine g0 0x41105 ?_;intro;refine jI True [3] [(u,Sl st' sta' un)] (by kernel_rfl) (λm' Aq sub=>wB _ rfl (λq=>?_) (λq=>?_)) (λ_=>?_)
 ·refine g0 0x84141 ?_;intro;exact eN (Aq _ 0 trivial (by rw[IC,lW (dv q)];rfl))
 ·have IC:=IC.trans (jU (gG q));refine g0 0x44142 ?_;intro;refine wB _ rfl (λq1=>?_) (λq1=>?_)
  ·refine g0 0x84141 ?_;intro;exact eN (Aq _ 0 trivial (by rw[IC,lW (dv q1)];rfl))
  ·refine g0 2 ?_;intro;exact eN (Aq _ 0 trivial (by rw[IC,jU (gG q1)];rfl))
 refine g0 0x1105 ?_;intro;refine sT rfl h0.1 h0.2 hv ?_;refine g0 0x242041107 ?_;intro;refine wB _ rfl (λq1=>?_) (λq1=>?_)
 ·refine g0 0x31051c31c11c8041 ?_;intro;refine eN (Ay _ _ (fin _ _ (Bw [3] rfl ?_ rfl)));rw[q1];rfl
 ·refine g0 0x243081102 ?_;intro;refine wB _ rfl (λq2=>?_) (λq2=>?_)
  ·refine g0 0x31051c31c11c8041 ?_;intro;refine eN (Ay _ _ (fin _ _ (Bw [3] rfl ?_ rfl)));rw[q1,q2];rfl
  ·refine g0 0x31051c3082 ?_;intro;refine eN (Ay _ _ (fin _ _ (Bw [3] rfl ?_ rfl)));rw[q1,q2];rfl
theorem Hb{Eh w e:Int}{may:Bool}:Bb g (d+1) 769 [.ref b,.int 0,.int e,.int w,.int Eh,.bool may] [r0,r1] [(b,.list [.ref r0,.ref r1]),(r0,x.o),(r1,y.o)]
  [(r0,Qi e e (max w 1) x.ma (max Eh 0) (decide (0<=Eh)) may x.hm x.ua),(r1,Qi y.e (max w 1) y.mw y.ma y.sc y.isc y.sk y.hm y.ua)] .none:=by
 refine Av E 64 [⟨b,.list [.ref r0,.ref r1],false⟩,⟨r0,x.o,true⟩,⟨r1,y.o,true⟩] λm fin Ay=>?_;refine g0 0x830810421080420820870871860871450870852030870842020870c10870c7041081 ?_;intro;exact eN (Ay _ _ (fin _ _ (HE [1,2])))
theorem Ha{Eh w e:Int}{may:Bool}:Bb g (d+1) 769 [.ref b,.int 1,.int e,.int w,.int Eh,.bool may] [r0,r1] [(b,.list [.ref r0,.ref r1]),(r0,x.o),(r1,y.o)]
  [(r0,Qi x.e (x.e+max w 1) x.mw x.ma (if x.isc&&decide (0<=Eh) then x.sc else 0) x.isc x.sk x.hm x.ua),(r1,Qi e e (max w 1) x.e (if x.isc&&decide (0<=Eh) then max Eh 0 else 0) (decide (0<=Eh)) may true y.ua)] .none:=by
 refine Av E 64 [⟨b,.list [.ref r0,.ref r1],false⟩,⟨r0,x.o,true⟩,⟨r1,y.o,true⟩] λm fin Ay=>?_;refine g0 0x1820410410870c71860c71450c70852030c70842020c70c10c70c7081081 ?_;intro;refine wB _ rfl (λq1=>?_) (λq1=>?_)
 ·refine g0 0x183081041 ?_;intro;refine wB _ rfl (λq2=>?_) (λq2=>?_)
  ·refine g0 0x20810410842010810412031c40c7042041042082081 ?_;intro;refine eN (Ay _ _ (fin _ _ (Bw [1,2] rfl ?_ rfl)));rw[q1,q2];rfl
  ·refine g0 0x20810410842010810412031c40c70420410420850c2041142041041042 ?_;intro;refine eN (Ay _ _ (fin _ _ (Bw [1,2] rfl ?_ rfl)));rw[q1,q2];rfl
 ·refine g0 0x20810410842010810412031c40c70420410420850c2041142041041042 ?_;intro;refine eN (Ay _ _ (fin _ _ (Bw [1,2] rfl ?_ rfl)));rw[q1];rfl
end
noncomputable abbrev Dr.sr(y:Dr):Sr:=⟨y.e%4294967296,y.me%4294967296,y.mw,y.ma%4294967296,y.sc,y.isc,y.sk,y.hm,y.ua⟩
section
variable{c:Cx}{m:Mx c}{S:AA}
theorem wK(b v:Bool)(e:Sw S=some b)(hb:b=v)(k:Sm m (Do v S)):Sm m S:=wB b e (λq=>(hb.symm.trans q)▸k) λq=>(hb.symm.trans q)▸k
end
theorem ou(a b c d e f:Bool):(a==a&&(b==b&&(c==c&&(d==d&&(e==e&&(f==f&&true))))))=true:=by simp
theorem oz(a b c d:Int):(!(a==a&&(b==b&&(c==c&&(d==d&&true)))))=false:=by simp
theorem ox(a b c d e:Int):(!(a==a&&(b==b&&(c==c&&(d==d&&(e==e&&true))))))=false:=by simp
section
variable{g:Gl}(E:AM g){d:Nat}{s u:Nat}{y:Dr}
include E
theorem DW:Bb g (d+1) 783 [.ref s,.ref u] [] [(s,y.sr.o),(u,y.o)] [] (.bool true):=by refine Av E 66 [⟨s,y.sr.o,false⟩,⟨u,y.o,false⟩] λm fin Ay=>?_;refine g0 0x11420810440820c20810420820410420830c5041101043041081041041 ?_;intro;refine wK _ _ rfl (ox _ _ _ _ _) ?_;refine g0 0xb041281049041201047041181042 ?_;intro;refine nL _ rfl (λn1 f1=>?_);refine g0 0x2430880c21c30860c2104 ?_;intro;refine nL _ rfl (λn2 f2=>?_);skip;refine eL 1 0 rfl rfl ?_;skip;exact eV (fin _ _ (CH [] (gC V.bool (ou y.isc y.sk y.hm y.ua false false))))
theorem CI{tk b l r0 r1 s0 s1 v:Nat}{t0 t1:V}{st sta un si:Int}{z:Dr}:Bb g (d+2) 797 [.ref tk,.ref b,.ref v] [] [(tk,BK 1 t0 t1 un si sta st (.ref l)),(l,.list [.ref s0,.ref s1]),(s0,y.sr.o),(s1,z.sr.o),(b,.list [.ref r0,.ref r1]),(r0,y.o),(r1,z.o),(v,Sl st sta un)] [] (.bool true):=by refine Av E 68 [⟨tk,BK 1 t0 t1 un si sta st (.ref l),false⟩,⟨l,.list [.ref s0,.ref s1],false⟩,⟨s0,y.sr.o,false⟩,⟨s1,z.sr.o,false⟩,⟨b,.list [.ref r0,.ref r1],false⟩,⟨r0,y.o,false⟩,⟨r1,z.o,false⟩,⟨v,Sl st sta un,false⟩] λm fin Ay=>?_;refine g0 0x432030880c1203041045041201049041 ?_;intro;refine wK _ _ rfl (oz _ _ _ _) ?_;refine g0 0x4508108a041102 ?_;intro;refine Ai (DW (s:=s0) (u:=r0) (y:=y) E) [2,5] [] rfl rfl ?_;refine g0 0x8508208a041101 ?_;intro;refine Ai (DW (s:=s1) (u:=r1) (y:=z) E) [3,6] [] rfl rfl ?_;exact eK fin []
end
noncomputable def CU(A B C D:List Int)(sq ak fl w:Int)(n:Nat)(l:List Int):List Int:=[69,0,(40+(l.length:Int)+n)/256,(40+(l.length:Int)+n)%256,0,1,0,0,64,6,0,0]++A++B++(C++D)++B7 sq++B7 ak++([16*(5+(l.length:Int)/4),fl,w/256,w%256,0,0,0,0]++l)++List.replicate n 88
abbrev WP(g:Gl)(d:Nat)(way:Int)(P:List Int)(sq ak fl w:Int)(o n:Nat)(l:List Int):Prop:=CF g d 755 [.int way,.tup [.int sq,.int ak],.int fl,.int w,.ref o,.int n] [] [(o,.list (l.map .int))] (λ_:Nat×Nat×Nat×Nat=>True) (λx=>.ref x.1) (λx=>[(x.2.1,.barr P),(x.1,Cy x.2.1 x.2.2.1 6 20 0 x.2.2.2)]) λ_=>[]
section
variable{g:Gl}(E:AM g){d:Nat}{o:Nat}{sq ak fl w:Int}{n:Nat}{l:List Int}
include E
theorem DV(hl:l.length<=40)(hn:n<32)(hw:0<=w/\w<65536)(F:GH (CU [10,0,0,1] [192,0,2,1] [3,232] [0,80] sq ak fl w n l) 167772161 3221225985 1000 80 (sq%4294967296) (ak%4294967296) w fl n l):WP g (d+9) 0 (CU [10,0,0,1] [192,0,2,1] [3,232] [0,80] sq ak fl w n l) sq ak fl w o n l:=by have HJ:(l.map V.int).length=l.length:=gI _;refine Bu E 62 [⟨o,.list (l.map .int),false⟩] λm fin Ay=>?_;refine g0 0 ?_;intro;refine nL _ rfl (λn1 f1=>?_);refine g0 0 ?_;intro;refine nL _ rfl (λn2 f2=>?_);refine g0 7 ?_;intro;refine nL _ rfl (λn3 f3=>?_);refine g0 0 ?_;intro;refine nL _ rfl (λn4 f4=>?_);refine g0 0x5388 ?_;intro;refine PG 4 rfl (by rw[HJ];exact L1 [_] [] 0xa05900083e84804c80041 hl) ?_;refine g0 0x49049246 ?_;intro;refine nL _ rfl (λn5 f5=>?_);refine g0 0x1047 ?_;intro;refine ad 0 4 rfl lb (λn6 f6=>?_);refine g0 0x2047 ?_;intro;refine ad 0 4 rfl lb (λn7 f7=>?_);refine g0 0x104828a ?_;intro;refine ad 0 4 rfl lb (λn8 f8=>?_);refine g0 0x2048 ?_;intro;refine ad 0 4 rfl lb (λn9 f9=>?_);refine g0 0x108c ?_;intro;refine A3 (B2 (d:=d+7) (n:=sq) E) [] [] rfl (λ_=>rfl) λx1 h1 Ol=>?_;skip;refine ad 1 0 rfl lb (λkl lO=>?_);refine g0 0x208c ?_;intro;refine A3 (B2 (d:=d+7) (n:=ak) E) [] [] rfl (λ_=>rfl) λx2 h2 g2=>?_;skip;refine ad 1 0 rfl lb (λkj lN=>?_);refine g0 0x14e28a ?_;intro;refine PG 13 rfl (by rw[HJ];exact L1 [_] [] 0xa05900083e84804c80041 hl) ?_;refine g1 0x440440c1 (λ_ a=>a (Bi (L0 [] [] 0x800000000000000037300e4441))) ?_;intro;refine nL _ rfl (λki lM=>?_);skip;refine ad 1 0 rfl lb (λkh lL=>?_);refine g0 5 ?_;intro;refine ad 0 15 rfl (by rw[HJ];exact mi (Nat.add_le_add_left hl _) lb) (λkg lK=>?_);refine g0 0x28d2ca ?_;intro;refine nL _ rfl (λkf lJ=>?_);refine g0 6 ?_;intro;refine eP 0 rfl (lY n) (L1 [_] [] 0x100b201107d09009907e041 hn) (λke lI=>?_);skip;refine ad 2 0 rfl (by simp[B7];exact(show l.length+40+n<=1000000 from mi (Nat.add_le_add (qw hl 40) (qr hn)) (by decide))) (λkc lH=>?_);refine g0 0 ?_;intro;refine jp (L:=CU [10,0,0,1] [192,0,2,1] [3,232] [0,80] sq ak fl w n l) 0 rfl (by simp[CU,B7]) F.oct (by rw[F.len];exact L2 [_,_] [] 0x2016422208502c80041f4240264200a059d68041 hl hn) ?_;refine g0 0 ?_;intro;refine A3 (Fk (d:=d+4) E F) [] [] rfl (λ_=>rfl) λx h f=>?_;skip;exact eV (fin _ _ (Bo x [0,1] (by kernel_rfl) (AI (f _ (.head _)).1 (AI (f _ (.tail _ (.head _))).1 Bz)) trivial rfl))
theorem DU(hl:l.length<=40)(hn:n<32)(hw:0<=w/\w<65536)(F:GH (CU [192,0,2,1] [10,0,0,1] [0,80] [3,232] sq ak fl w n l) 3221225985 167772161 80 1000 (sq%4294967296) (ak%4294967296) w fl n l):WP g (d+9) 1 (CU [192,0,2,1] [10,0,0,1] [0,80] [3,232] sq ak fl w n l) sq ak fl w o n l:=by have HJ:(l.map V.int).length=l.length:=gI _;refine Bu E 62 [⟨o,.list (l.map .int),false⟩] λm fin Ay=>?_;refine g0 0 ?_;intro;refine nL _ rfl (λn1 f1=>?_);refine g0 0 ?_;intro;refine nL _ rfl (λn2 f2=>?_);refine g0 7 ?_;intro;refine nL _ rfl (λn3 f3=>?_);refine g0 0 ?_;intro;refine nL _ rfl (λn4 f4=>?_);refine g0 0x5388 ?_;intro;refine PG 4 rfl (by rw[HJ];exact L1 [_] [] 0xa05900083e84804c80041 hl) ?_;refine g0 0x49049246 ?_;intro;refine nL _ rfl (λn5 f5=>?_);refine g0 0x2047 ?_;intro;refine ad 0 3 rfl lb (λn6 f6=>?_);refine g0 0x1047 ?_;intro;refine ad 0 5 rfl lb (λn7 f7=>?_);refine g0 0x204828a ?_;intro;refine ad 0 3 rfl lb (λn8 f8=>?_);refine g0 0x1048 ?_;intro;refine ad 0 5 rfl lb (λn9 f9=>?_);refine g0 0x108c ?_;intro;refine A3 (B2 (d:=d+7) (n:=sq) E) [] [] rfl (λ_=>rfl) λx1 h1 Ol=>?_;skip;refine ad 1 0 rfl lb (λkl lO=>?_);refine g0 0x208c ?_;intro;refine A3 (B2 (d:=d+7) (n:=ak) E) [] [] rfl (λ_=>rfl) λx2 h2 g2=>?_;skip;refine ad 1 0 rfl lb (λkj lN=>?_);refine g0 0x14e28a ?_;intro;refine PG 13 rfl (by rw[HJ];exact L1 [_] [] 0xa05900083e84804c80041 hl) ?_;refine g1 0x440440c1 (λ_ a=>a (Bi (L0 [] [] 0x800000000000000037300e4441))) ?_;intro;refine nL _ rfl (λki lM=>?_);skip;refine ad 1 0 rfl lb (λkh lL=>?_);refine g0 5 ?_;intro;refine ad 0 15 rfl (by rw[HJ];exact mi (Nat.add_le_add_left hl _) lb) (λkg lK=>?_);refine g0 0x28d2ca ?_;intro;refine nL _ rfl (λkf lJ=>?_);refine g0 6 ?_;intro;refine eP 0 rfl (lY n) (L1 [_] [] 0x100b201107d09009907e041 hn) (λke lI=>?_);skip;refine ad 2 0 rfl (by simp[B7];exact(show l.length+40+n<=1000000 from mi (Nat.add_le_add (qw hl 40) (qr hn)) (by decide))) (λkc lH=>?_);refine g0 0 ?_;intro;refine jp (L:=CU [192,0,2,1] [10,0,0,1] [0,80] [3,232] sq ak fl w n l) 0 rfl (by simp[CU,B7]) F.oct (by rw[F.len];exact L2 [_,_] [] 0x2016422208502c80041f4240264200a059d68041 hl hn) ?_;refine g0 0 ?_;intro;refine A3 (Fk (d:=d+4) E F) [] [] rfl (λ_=>rfl) λx h f=>?_;skip;exact eV (fin _ _ (Bo x [0,1] (by kernel_rfl) (AI (f _ (.head _)).1 (AI (f _ (.tail _ (.head _))).1 Bz)) trivial rfl))
end
noncomputable def Dw(ack:Int)(A6:List Int):Int:=A6.foldl max ack
theorem Ia(A6:List Int):∀ack:Int,ack<=Dw ack A6/\∀a∈A6,a<=Dw ack A6:=by
 induction A6 with
 |nil=>intro ack;exact⟨rC _,λ_ h=>nomatch h⟩
 |cons b l ih=>
  intro ack;have h:=ih (max ack b);have e:Dw ack (b::l)=Dw (max ack b) l:=rfl;rw[e];refine⟨by exact L2 [] [_,_,_] 0x10204108a041082041 h.1 (jO ack b),λa ha=>?_⟩;rcases cS.mp ha with rfl|ha
  ·exact L2 [] [_,_,_] 0x10204108a041082041 h.1 (lX ack a)
  ·exact h.2 a ha
theorem JR(A6:List Int):∀ack:Int,Dw ack A6∈ack::A6:=by
 induction A6 with
 |nil=>intro ack;exact pg
 |cons b l ih=>
  intro ack;have h:=ih (max ack b);have e:Dw ack (b::l)=Dw (max ack b) l:=rfl;rw[e];rcases cS.mp h with h|h
  ·rw[h];rcases Int.le_total ack b with q|q
   ·rw[show max ack b=b by exact bC (DF ack b (λu1 v1=>L1 [] [_,_] kg v1) (λu1 v1=>L2 [] [_,_,_] 0x10284108a041082041 q v1)) (L1 [] [_,_] 0x82041082041 (lX ack b))];exact pt _ pg
   ·rw[show max ack b=ack by exact bC (DF ack b (λu1 v1=>L2 [] [_,_,_] 0x10284108a041082041 q v1) (λu1 v1=>L1 [] [_,_] kg v1)) (L1 [] [_,_] 0x82041082041 (jO ack b))];exact pg
  ·exact pt _ (pt _ h)
noncomputable def Dr.snd(x:Dr)(seq ack n far W:Int):Dr:=⟨max x.e (seq+n),x.me,max x.mw (W+far-ack),if x.hm then max x.ma ack else ack,x.sc,x.isc,x.sk,true,x.ua||decide (x.e<seq+n)⟩
noncomputable def Dr.rcv(y x:Dr)(seq ack n far W:Int):Dr:=⟨y.e,if y.me<=far+W then(if W=0 then far+max W 1 else far+W) else y.me,y.mw+max 0 (seq+n-x.me),y.ma,y.sc,y.isc,y.sk,y.hm,y.ua&&!(ack==y.e)⟩
section
variable{c:Cx}{m:Mx c}{S:AA}
theorem iS{i:Nat}{a:Int}{l:List Int}{vs:List V}{w:Bool}(q:Nat)(e:Mb q S (.imm (.builtin "max")) i (.list vs) w)(ev:vs=(a::l).map .int)(k:Sm m (AP (.int (Dw a l)) S)):Sm m S:=by with_unfolding_all exact(Lv (P:=λS=>AZ S.H q=some ⟨i,.list vs,w⟩->Sm m (AP (.int (Dw a l)) S)->Sm m S) (p1 e) (λ_ _ _ e k os I=>LP (l:=a::l) (ev▸I.st.get (AD e)) (JR l a) (λb hb=>(cS.mp hb).elim (λe=>e▸(Ia l _).1) ((Ia l _).2 b)) ⟨_,I,k⟩) (p2 e) k)
end
section
variable{g:Gl}(E:AM g){d:Nat}{b r p o:Nat}{L:List V}{way seq ack n w far:Int}{x y:Dr}{rs:List Int}
include E
theorem EX(hd:0<=way/\way<=1)(hm:L[way.toNat]? =some (.ref p))(ho:L[(1-way).toNat]? =some (.ref o))(hs:0<=x.sc/\x.sc<=14)(hw:0<=w/\w<65536)(hr:rs.length<=1000)(hf:(y.sk=true/\far=Dw ack rs)\/(y.sk=false/\far=ack))
  (h1:seq<=x.me) (h2:x.e-y.mw<=seq+n) (h3:far<=y.e) (h4:y.e-max x.mw 66000<=far):Bb g (d+1) 776 [.ref b,.int way,.tup [.int seq,.int ack],.int n,.int w,.ref r] [p,o] [(b,.list L),(p,x.o),(o,y.o),(r,.list (rs.map .int))]
  [(p,(x.snd seq ack n far (w*2^x.sc.toNat)).o),(o,(y.rcv x seq ack n far (w*2^x.sc.toNat)).o)] (.bool true):=by
 have h5:IntMulOk w (2^x.sc.toNat):=Bi (L2 [_] [_] 0x3f42088000132091060000000000000000dc80441 hw.2 (qX (show 0<=w from L1 [] [_] kf hw.1)));have hl:(rs.map V.int).length<=1000:=by rw[gI];exact hr
 refine Av E 65 [⟨b,.list L,false⟩,⟨p,x.o,true⟩,⟨o,y.o,true⟩,⟨r,.list (rs.map .int),false⟩] λm fin Ay=>?_;refine g1 0x42042 (λ_ a=>a (λ_=>rfl)) ?_;intro;refine sL rfl hd.1 (L1 [] [_] 0x43904083e84804c82441 hd.2) hm ?_;refine g0 0x1081 ?_;intro;refine sL rfl (L1 [] [_] 0x4390408200873d066041 hd.2) (L1 [] [_] 0xcc083e84804c8021cf6441 hd.1) ho ?_;refine g1 0x70c82890c11c8 (λ_ a=>a (λ_=>rfl)) ?_;intro;refine jX (.int far) (by kernel_rfl) (λm' Aq=>wB _ rfl (λq=>?_) (λq=>?_)) ?_
 ·refine g0 0xa301 ?_;intro;refine nL _ rfl (λn1 f1=>?_);refine g0 6 ?_;intro;refine ad 0 4 rfl (by show 1+_<=_;exact L1 [_] [] 0xfa05900083e84804c8021ce8041 hl) (λn2 f2=>?_);refine g0 0 ?_;intro;refine iS (a:=ack) (l:=rs) 0 rfl rfl ?_;skip;exact eV (Aq _ _ 2 rfl (gC V.int (hf.elim (λh=>h.2.symm) λh=>nt h.1 q)))
 ·refine g0 642 ?_;intro;exact eV (Aq _ _ 0 rfl (gC V.int (hf.elim (λh=>nt q h.1) λh=>h.2.symm)))
 refine g1 0x90870c32020821c424c0c320308708a2c50c21cc1421421c50840830873010c82c404320b0840c320108710910208724b (λ_ a=>a (h5) (⟨rfl,⟨L1 [] [_] kf hs.1,L1 [] [_] 0x383904083e84804c82041 hs.2⟩⟩) (gD (L1 [] [_,_,_] 0x83d810441e83041 h4)) (gD (L1 [] [_,_] 0x6041083041 h3)) (gD (L1 [] [_,_,_,_] 0x834317604118ba106b041 h2)) (gD (L1 [] [_,_] 0x6041083041 h1))) ?_;intro;refine nY x.ua (decide (x.e<seq+n)) (by kernel_rfl) (λq m' Aq=>?_) ?_
 ·refine g0 0x421c4242 ?_;intro;exact eV (Aq _ rfl)
 refine g0 0x2021c1087084241087309087 ?_;intro;refine Zt x.hm (λt=>.int (if t then max x.ma ack else ack)) (by kernel_rfl) (λq m' Aq=>?_) (λq m' Aq=>?_) ?_
 ·refine g0 0x2284087301 ?_;intro;exact eV (Aq _ _ 0 rfl rfl)
 ·refine g0 642 ?_;intro;exact eV (Aq _ _ 0 rfl rfl)
 refine g0 0x20c814b2021c4087 ?_;intro;refine iZ (y.me<=far+w*2^x.sc.toNat) [2] (λi=>[(o,Qi y.e (@ite _ (y.me<=far+w*2^x.sc.toNat) i (if w*2^x.sc.toNat=0 then far+max (w*2^x.sc.toNat) 1 else far+w*2^x.sc.toNat) y.me) (y.mw+max 0 (seq+n-x.me)) y.ma y.sc y.isc y.sk y.hm y.ua)]) (by kernel_rfl) (λq m' Aq _=>?_) (λq m' Aq _=>?_) ?_
 ·refine g0 321 ?_;intro;refine jX (.int (if w*2^x.sc.toNat=0 then far+max (w*2^x.sc.toNat) 1 else far+w*2^x.sc.toNat)) (by kernel_rfl) (λb8 SW=>wB _ rfl (λq=>?_) (λq=>?_)) ?_
  ·refine g0 0x214c2c1 ?_;intro;exact eV (SW _ _ 0 rfl (by rw[lW (eq_of_beq q)];rfl))
  ·refine g0 0x52c2 ?_;intro;exact eV (SW _ _ 0 rfl (by rw[jU (ne_of_beq_false q)];rfl))
  refine g0 0x20c8 ?_;intro;exact eN (Aq _ 0 trivial rfl)
 ·refine g0 2 ?_;intro;exact eN (Aq _ 0 trivial rfl)
 refine g0 0x90c8 ?_;intro;refine i4 y.ua (!(ack==y.e)) (by kernel_rfl) (λq m' Aq=>?_) ?_
 ·refine g0 0x10c8281 ?_;intro;exact eV (Aq _ rfl)
 refine g0 0x90c8 ?_;intro;exact eK fin [1,2]
theorem EY(hd:0<=way/\way<=1)(hm:L[way.toNat]? =some (.ref p))(ho:L[(1-way).toNat]? =some (.ref o))(hr:rs.length<=1000)(hf:(y.sk=true/\far=Dw ack rs)\/(y.sk=false/\far=ack))
  (h:x.me<seq\/seq+n<x.e-y.mw\/y.e<far\/far<y.e-max x.mw 66000):Bb g (d+1) 776 [.ref b,.int way,.tup [.int seq,.int ack],.int n,.int w,.ref r] [] [(b,.list L),(p,x.o),(o,y.o),(r,.list (rs.map .int))] [] (.bool false):=by
 have hl:(rs.map V.int).length<=1000:=by rw[gI];exact hr
 refine Av E 65 [⟨b,.list L,false⟩,⟨p,x.o,false⟩,⟨o,y.o,false⟩,⟨r,.list (rs.map .int),false⟩] λm fin Ay=>?_;refine g1 0x42042 (λ_ a=>a (λ_=>rfl)) ?_;intro;refine sL rfl hd.1 (L1 [] [_] 0x43904083e84804c82441 hd.2) hm ?_;refine g0 0x1081 ?_;intro;refine sL rfl (L1 [] [_] 0x4390408200873d066041 hd.2) (L1 [] [_] 0xcc083e84804c8021cf6441 hd.1) ho ?_;refine g1 0x70c82890c11c8 (λ_ a=>a (λ_=>rfl)) ?_;intro;refine jX (.int far) (by kernel_rfl) (λm' Aq=>wB _ rfl (λq=>?_) (λq=>?_)) ?_
 ·refine g0 0xa301 ?_;intro;refine nL _ rfl (λn1 f1=>?_);refine g0 6 ?_;intro;refine ad 0 4 rfl (by show 1+_<=_;exact L1 [_] [] 0xfa05900083e84804c8021ce8041 hl) (λn2 f2=>?_);refine g0 0 ?_;intro;refine iS (a:=ack) (l:=rs) 0 rfl rfl ?_;skip;exact eV (Aq _ _ 2 rfl (gC V.int (hf.elim (λh=>h.2.symm) λh=>nt h.1 q)))
 ·refine g0 642 ?_;intro;exact eV (Aq _ _ 0 rfl (gC V.int (hf.elim (λh=>nt q h.1) λh=>h.2.symm)))
 refine g0 0x208724b ?_;intro;refine wB _ rfl (λq1=>?_) (λq1=>?_)
 ·refine g0 65 ?_;intro;exact eK fin []
 ·refine g0 0x30c80421c4242 ?_;intro;refine wB _ rfl (λq2=>?_) (λq2=>?_)
  ·refine g0 65 ?_;intro;exact eK fin []
  ·refine g0 0x4320b082 ?_;intro;refine wB _ rfl (λq3=>?_) (λq3=>?_)
   ·refine g0 65 ?_;intro;exact eK fin []
   ·refine g0 0x830873010c82c2 ?_;intro;refine wB _ rfl (λq4=>?_) (λq4=>?_)
    ·refine g0 65 ?_;intro;exact eK fin []
    ·exact absurd h λh=>h.elim (gG q1) λh=>h.elim (gG q2) λh=>h.elim (gG q3) (gG q4)
end
section
variable{A B C D l:List Int}{a0 a1 a2 a3 b0 b1 b2 b3 p0 p1 q0 q1 sq ak fl w:Int}{n:Nat}
theorem G4{l:List Int}{a b:Nat}(GN:a<=b)(hb:b<=l.length):cut l (some (a:Int)) (some (b:Int))=(l.drop a).take (b-a):=by
 rw[Go (lY a) (by exact L1 [_,_] [] 0x2001043f07e041 GN) (by exact L1 [_,_] [] 0x2001043f07e041 hb)]
 congr 1
 exact Int.toNat_sub b a
theorem Zb(a b:Int):num [a,b]=a*256+b:=by simp[num]
theorem eH(a b c d:Int):num [a,b,c,d]=((a*256+b)*256+c)*256+d:=by simp[num]
theorem Gc(s:Int):num (B7 s)=s%4294967296:=by
 unfold B7;have e2:s/65536=s/256/256:=(Int.ediv_ediv_of_nonneg (x:=s) (y:=256) (z:=256) (by decide)).symm;have e3:s/16777216=s/256/256/256:=by rw[<-e2];exact(Int.ediv_ediv_of_nonneg (x:=s) (y:=65536) (z:=256) (by decide)).symm
 rw[eH,e3,e2,W3 (M:=256) (by decide),W3 (M:=256*256) (by decide),W3 (M:=256*256*256) (by decide)];rfl
theorem Ey(s:Int):AY (B7 s):=by intro b hb;simp only[B7,cS,rp,or_false] at hb;rcases hb with rfl|rfl|rfl|rfl<;>exact QT _ (by decide)
theorem AY.app{l r:List Int}(h:AY l)(k:AY r):AY (l++r):=λb hb=>(lZ.mp hb).elim (h b) (k b)
theorem AY.cons{a:Int}{l:List Int}(h:0<=a/\a<256)(k:AY l):AY (a::l):=λb hb=>(cS.mp hb).elim (λe=>e▸h) (k b)
theorem AY.nil:AY []:=λ_ h=>nomatch h
theorem d6(WT:l.length%4=0)(HJ:l.length<=40)(hn:n<32)(ho:AY l)(hf:0<=fl/\fl<256)(hw:0<=w/\w<65536)
  (hA:AY [a0,a1,a2,a3]) (hB:AY [b0,b1,b2,b3]) (hC:AY [p0,p1]) (hD:AY [q0,q1]):
  GH (CU [a0,a1,a2,a3] [b0,b1,b2,b3] [p0,p1] [q0,q1] sq ak fl w n l) (num [a0,a1,a2,a3]) (num [b0,b1,b2,b3]) (num [p0,p1]) (num [q0,q1]) (sq%4294967296) (ak%4294967296) w fl n l:=by
 have Ac:(CU [a0,a1,a2,a3] [b0,b1,b2,b3] [p0,p1] [q0,q1] sq ak fl w n l).length=40+l.length+n:=by simp[CU,B7];exact(show l.length+n+40=40+l.length+n by rw[Nat.add_comm,sS])
 have Mf:((CU [a0,a1,a2,a3] [b0,b1,b2,b3] [p0,p1] [q0,q1] sq ak fl w n l).drop 20).length=20+l.length+n:=by rw[qF,Ac];exact gH (L1 [_,_,_] [] 0x208502ceb540e41a210441a073ad00041 (jT (show 20<=40+l.length+n from L0 [_,_] [] 0x100502ceb540e4041))) (L1 [_,_,_] [] 0x100502ceb540e45a21844105039d68041 (jT (show 20<=40+l.length+n from L0 [_,_] [] 0x100502ceb540e4041)))
 have hd:(CU [a0,a1,a2,a3] [b0,b1,b2,b3] [p0,p1] [q0,q1] sq ak fl w n l).drop 20=[p0,p1,q0,q1]++B7 sq++B7 ak++([16*(5+(l.length:Int)/4),fl,w/256,w%256,0,0,0,0]++l)++List.replicate n 88:=rfl;refine⟨Ac,WT,HJ,by exact L1 [_] [] 0x2016402208c82c80041 hn,?_,rfl,rfl,?_,?_,?_,?_,?_,?_,?_,?_,?_,rfl,rfl,?_⟩
 ·unfold CU;refine .app (.app (.app (.app (.app (.app (.app ?_ hA) hB) (.app hC hD)) (Ey sq)) (Ey ak)) (.app ?_ ho)) ?_
  ·refine .cons (⟨L0 [] [] 0x11459066041,L0 [] [] 0x10016445166441⟩) (.cons (⟨L0 [] [] 419848257,L0 [] [] 0x40059066441⟩) (.cons (⟨L2 [_,_] [_,_] 0x400590c8821f83e140b3ad040800b7aa18400cc4002 (bf (40+(↑l.length:Int)+(↑n:Int)) 256) (bX (40+(↑l.length:Int)+(↑n:Int)) (show(0:Int)<256 by decide)),L4 [_,_] [_,_] 0x20cc0821f83e140b3ad040800b7aa1042016422208502c800414005904c002 HJ hn (bf (40+(↑l.length:Int)+(↑n:Int)) 256) (dq (40+(↑l.length:Int)+(↑n:Int)) (show(256:Int)≠0 by decide))⟩) (.cons (⟨L1 [] [_] kf (dq (40+↑l.length+↑n) (show(256:Int)≠0 by decide)),L1 [] [_] 0x1001641220a002c82441 (bX (40+↑l.length+↑n) (show(0:Int)<256 by decide))⟩) (.cons (⟨L0 [] [] 419848257,L0 [] [] 0x40059066441⟩) (.cons (⟨L0 [] [] 0x439066041,L0 [] [] 0x800b210e6441⟩) (.cons (⟨L0 [] [] 419848257,L0 [] [] 0x40059066441⟩) (.cons (⟨L0 [] [] 419848257,L0 [] [] 0x40059066441⟩) (.cons (⟨L0 [] [] 0x10059066041,L0 [] [] 0x10016440166441⟩) (.cons (⟨L0 [] [] 0x1839066041,L0 [] [] 0x800b260e6441⟩) (.cons (⟨L0 [] [] 419848257,L0 [] [] 0x40059066441⟩) (.cons (⟨L0 [] [] 419848257,L0 [] [] 0x40059066441⟩) .nil)))))))))))
  ·refine .cons (⟨L2 [_] [_,_] 0x2072194041f08081dea92101439d403b066041 (bf ↑l.length 4) (bX ↑l.length (show(0:Int)<4 by decide)),L3 [_] [_,_] 0x83308083e10103bd5202140b20040500164050e7500ee441 HJ (bf ↑l.length 4) (dq ↑l.length (show(4:Int)≠0 by decide))⟩) (.cons (hf) (.cons (⟨L3 [] [_,_,_] 0x400591488211010016f54308419810400cc4002 hw.1 (bf w 256) (bX w (show(0:Int)<256 by decide)),L3 [] [_,_,_] 0x103302084404005bd5082200004c864414005904c002 hw.2 (bf w 256) (dq w (show(256:Int)≠0 by decide))⟩) (.cons (⟨L1 [] [_] kf (dq w (show(256:Int)≠0 by decide)),L1 [] [_] 0x1001641220a002c82441 (bX w (show(0:Int)<256 by decide))⟩) (.cons (⟨L0 [] [] 419848257,L0 [] [] 0x40059066441⟩) (.cons (⟨L0 [] [] 419848257,L0 [] [] 0x40059066441⟩) (.cons (⟨L0 [] [] 419848257,L0 [] [] 0x40059066441⟩) (.cons (⟨L0 [] [] 419848257,L0 [] [] 0x40059066441⟩) .nil)))))))
  ·intro b hb;rw[qx hb];exact⟨L0 [] [] 0x16059066041,L0 [] [] 0x10016458166441⟩
 ·rw[show(6:Int)=((6:Nat):Int) from rfl,show(8:Int)=((8:Nat):Int) from rfl,G4 (by exact L0 [] [] 0x407260e4041) (by exact L1 [_,_,_] [] 0x208502ceb402184080e4041 Ac)];rfl
 ·rw[show(2:Int)=((2:Nat):Int) from rfl,show(4:Int)=((4:Nat):Int) from rfl,G4 (by exact L0 [] [] 0x207220e4041) (by exact L1 [_,_,_] [] 0x208502ceb402184040e4041 Ac),Ac];show num [(40+(l.length:Int)+n)/256,(40+(l.length:Int)+n)%256]=_;rw[Zb];exact bC (L1 [_,_] [_,_] 0x1f83e140b3ad040800b7aa104200a059d6be102002e6a041 (bf (40+(↑l.length:Int)+(↑n:Int)) 256)) (L1 [_,_] [_,_] 0x1f83e140b3ad040800b7aa184204005cd040140b3ad7e041 (bf (40+(↑l.length:Int)+(↑n:Int)) 256))
 ·rw[show(20:Int)=((20:Nat):Int) from rfl,show(22:Int)=((22:Nat):Int) from rfl,G4 (by exact L0 [] [] 0xb07340e4041) (by exact L1 [_,_,_] [] 0x208502ceb402184160e4041 Ac)];rfl
 ·rw[show(22:Int)=((22:Nat):Int) from rfl,show(24:Int)=((24:Nat):Int) from rfl,G4 (by exact L0 [] [] 0xc07360e4041) (by exact L1 [_,_,_] [] 0x208502ceb402184180e4041 Ac)];rfl
 ·rw[show(12:Int)=((12:Nat):Int) from rfl,show(16:Int)=((16:Nat):Int) from rfl,G4 (by exact L0 [] [] 0x8072c0e4041) (by exact L1 [_,_,_] [] 0x208502ceb402184100e4041 Ac)];rfl
 ·rw[show(16:Int)=((16:Nat):Int) from rfl,show(20:Int)=((20:Nat):Int) from rfl,G4 (by exact L0 [] [] 0xa07300e4041) (by exact L1 [_,_,_] [] 0x208502ceb402184140e4041 Ac)];rfl
 ·rw[show(4:Int)=((4:Nat):Int) from rfl,show(8:Int)=((8:Nat):Int) from rfl,G4 (by exact L0 [] [] 0x407240e4041) (by exact L1 [_,_,_] [] 0x10681ceb402184080e4041 Mf),<-Gc];rfl
 ·rw[show(8:Int)=((8:Nat):Int) from rfl,show(12:Int)=((12:Nat):Int) from rfl,G4 (by exact L0 [] [] 0x607280e4041) (by exact L1 [_,_,_] [] 0x10681ceb4021840c0e4041 Mf),<-Gc];rfl
 ·rw[show(14:Int)=((14:Nat):Int) from rfl,show(16:Int)=((16:Nat):Int) from rfl,G4 (by exact L0 [] [] 0x8072e0e4041) (by exact L1 [_,_,_] [] 0x10681ceb402184100e4041 Mf)];show num [w/256,w%256]=_;rw[Zb];exact bC (L1 [] [_,_,_] 0x1040800b7aa1044102002e6a041 (bf w 256)) (L1 [] [_,_,_] 0x82800b7aa184414005cd02041 (bf w 256))
 ·rw[show(20:Int)+(l.length:Int)=((20+l.length:Nat):Int) by exact bC (L0 [_] [] 0x140e75f07e81cea041) (L0 [_] [] 0x1fa073a05039d7e041),show(20:Int)=((20:Nat):Int) from rfl,G4 (by exact L0 [_] [] 0x140e7540e4041) (by exact L1 [_,_,_] [] 0x40a073ad0486108281ce8041 Mf)];rw[show 20+l.length-20=l.length by exact gH (L1 [_,_] [] 0xd039d5039068841080041 (jT (show 20<=20+l.length from L0 [_] [] 0x140e7540e4041))) (L1 [_,_] [] 0x5039d50390e8861080041 (jT (show 20<=20+l.length from L0 [_] [] 0x140e7540e4041)))];show(l++List.replicate n 88).take l.length=l;exact List.take_left
end
structure Sy where
 x:Int
 l:List Int
 sc:Int
 may:Bool
 wh:Bool
noncomputable def BY(k m:Int):List Int:=if k=0 then[2,4,5,180] else if k=1 then[3,3,m] else if k=2 then[4,2] else if k=3 then[1] else if k=4 then[8,10,m,m,m,m,m,m,m,m] else if k=5 then[30,3,m] else if k=6 then[9,60] else[3,4,m,0]
noncomputable def Sy.next(t:Sy):Sy:=⟨t.x/8/16,t.l++BY (t.x%8) (t.x/8%16),if t.x%8=1/\t.wh=true then min (t.x/8%16) 14 else t.sc,if t.x%8=2/\t.wh=true then true else t.may,t.wh&&!(t.x%8==6)⟩
noncomputable def Sy.run(t:Sy):Nat->Sy
 |0=>t
 |n+1=>(t.run n).next
theorem F8(k m:Int):(BY k m).length<=10:=by
 unfold BY
 repeat' split
 all_goals simp
theorem Sy.len(t:Sy):∀n,(t.run n).l.length<=t.l.length+10*n
 |0=>oU _
 |n+1=>by have h:=t.len n;have h2:=F8 ((t.run n).x%8) ((t.run n).x/8%16);simp only[Sy.run,Sy.next,cW];exact L2 [_,_,_,_] [] 0x141c840411a83b168002084391e941d8b41068041 h h2
abbrev gx(g:Gl)(d b:Nat)(x:Int)(z:Sy):Prop:=CF g d 743 [.ref b] [b] [(b,.list [.int x])] (λ_:Nat=>True) (λo=>.tup [.ref o,.int z.sc,.bool z.may]) (λo=>[(o,.list ((z.l++List.replicate (A4 z.l.length) (z.x%2)).map .int))]) λ_=>[(b,.list [.int (z.x/2)])]
theorem Sy.sc1{t:Sy}(h:t.x%8=1)(k:t.wh=true):t.next.sc=min (t.x/8%16) 14:=lW ⟨h,k⟩
theorem Sy.sc0{t:Sy}(h:¬(t.x%8=1/\t.wh=true)):t.next.sc=t.sc:=jU h
theorem Sy.may1{t:Sy}(h:t.x%8=2)(k:t.wh=true):t.next.may=true:=lW ⟨h,k⟩
theorem Sy.may0{t:Sy}(h:¬(t.x%8=2/\t.wh=true)):t.next.may=t.may:=jU h
noncomputable abbrev IU(x:Int):Sy:=⟨x/5,[], -1,false,true⟩
section
variable{g:Gl}(E:AM g){d:Nat}{b:Nat}{x:Int}
include E
theorem EB:gx g (d+2) b x ((IU x).run (x%5).toNat):=by
 have h5:(0:Int)<5/\(5:Int)<1073741824:=by decide
 have h8:(0:Int)<8/\(8:Int)<1073741824:=by decide
 have QP:(0:Int)<16/\(16:Int)<1073741824:=by decide
 have h2:(0:Int)<2/\(2:Int)<1073741824:=by decide
 have hN:=dS (n:=x%5) (N:=(x%5).toNat) (bC (L1 [_] [_] 0xfd0c20f82041 (bD (show 0<=x%5 from L1 [] [_] kf (dq x (show(5:Int)≠0 by decide))))) (L1 [_] [_] 0xfd082007e041 (bD (show 0<=x%5 from L1 [] [_] kf (dq x (show(5:Int)≠0 by decide)))))) (L2 [_] [_] 0x50e41220801fa10481c80041 (bD (show 0<=x%5 from L1 [] [_] kf (dq x (show(5:Int)≠0 by decide)))) (bX x (show(0:Int)<5 by decide)));have hT:∀j,j<=(x%5).toNat->((IU x).run j).l.length<=40:=λj hj=>by have:=(IU x).len j;simp only[List.length_nil] at this;exact L4 [_,_,_] [_] 0x287209a0402fd502150760ce800208821408502c80041 hj this (bD (show 0<=x%5 from L1 [] [_] kf (dq x (show(5:Int)≠0 by decide)))) (bX x (show(0:Int)<5 by decide))
 have hz:=hT _ (oU _);refine Bu E 61 [⟨b,.list [.int x],true⟩] λm fin Ay=>?_;refine g1 1 (λ_ a=>a (λ_=>rfl)) ?_;intro;refine nL _ rfl (λp fp=>?_);refine g0 0x4b2811440c2 ?_;intro;refine Ai (AC (x:=x) E h5) [1] [1] rfl rfl ?_;refine g0 0 ?_;intro;refine fO (n:=x%5) (α:=Nat×Option V×Option V×Option V×Option V) (x%5).toNat (λ_ y=>m.os0.length<=y.1) (λj y=>[some (.ref b),some (.ref y.1),some (.int ((IU x).run j).sc),some (.bool ((IU x).run j).may),some (.bool ((IU x).run j).wh),y.2.1,y.2.2.1,y.2.2.2.1,y.2.2.2.2]) (λj y=>[⟨y.1,.list (((IU x).run j).l.map .int),true⟩,⟨b,.list [.int ((IU x).run j).x],true⟩]) (p,none,none,none,none) [0,1] rfl fp.1 rfl (by kernel_rfl) hN.1 hN.2 (λj y hj hy Q next=>?_) (λy hy=>?_)
 ·have hl:=hT j (qr hj);generalize et:(IU x).run j=t at hl;refine g1 0x4b086 (λ_ a=>a (λ_=>rfl)) ?_;intro;refine Ai (AC (x:=t.x) E h8) [1] [1] rfl rfl ?_;refine g0 75 ?_;intro;refine Ai (AC (x:=t.x/8) E QP) [1] [1] rfl rfl ?_;refine g0 456 ?_;intro;refine nL _ rfl (λr0 f0=>?_);refine g0 8 ?_;intro;refine nL _ rfl (λr1 f1=>?_);refine g0 0 ?_;intro;refine nL _ rfl (λr2 f2=>?_);refine g0 0 ?_;intro;refine nL _ rfl (λr3 f3=>?_);refine g0 0 ?_;intro;refine nL _ rfl (λra fa=>?_);refine g0 8 ?_;intro;refine nL _ rfl (λrb fb=>?_);refine g0 0 ?_;intro;refine eP 0 rfl (by decide) (by decide) (λrc fc=>?_);skip;refine ad 2 0 rfl lb (λr4 f4=>?_);refine g0 8 ?_;intro;refine nL _ rfl (λr5 f5=>?_);refine g0 0 ?_;intro;refine nL _ rfl (λr6 f6=>?_);refine g0 8 ?_;intro;refine nL _ rfl (λr7 f7=>?_);refine g0 0x1c9089 ?_;intro;rename_i S;refine m8 (vs:=(BY (t.x%8) (t.x/8%16)).map .int) rfl (L1 [] [_] kf (dq t.x (show(8:Int)≠0 by decide))) (L1 [] [_] 0x203904883e84804c82441 (bX t.x (show(0:Int)<8 by decide))) (eT (P:=λk=>jF [.ref r0,.ref r1,.ref r2,.ref r3,.ref r4,.ref r5,.ref r6,.ref r7] ((BY k (t.x/8%16)).map .int) S.H k) (L1 [] [_] kf (dq t.x (show(8:Int)≠0 by decide))) (L1 [] [_] 0x40720910501c82441 (bX t.x (show(0:Int)<8 by decide))) ⟨r0,10,true,rfl,by kernel_rfl⟩ ⟨r1,9,true,rfl,by kernel_rfl⟩ ⟨r2,8,true,rfl,by kernel_rfl⟩ ⟨r3,7,true,rfl,by kernel_rfl⟩ ⟨r4,3,true,rfl,by kernel_rfl⟩ ⟨r5,2,true,rfl,by kernel_rfl⟩ ⟨r6,1,true,rfl,by kernel_rfl⟩ ⟨r7,0,true,rfl,by kernel_rfl⟩) (λr q w hq=>?_);skip;refine oO 11 q rfl hq (by rw[gI,gI];have:=F8 (t.x%8) (t.x/8%16);exact L2 [_,_] [] 0x507210104281640020fa1201321068041 hl this) (λn fn=>?_);refine ZS 1 2 ?_;intro;refine kP [0,13] (by kernel_rfl) ?_;refine g0 7 ?_;intro;refine iY 2 (.int t.next.sc) (by kernel_rfl) (λm' E'=>wB _ rfl (λq=>?_) (λq=>?_)) ?_
  ·refine g0 321 ?_;intro;refine wB _ rfl (λq1=>?_) (λq1=>?_)
   ·refine g0 0xc120d041 ?_;intro;exact eN (E'.1 _ _ (.int (min (t.x/8%16) 14)) (by kernel_rfl) (gC V.int (Sy.sc1 (eq_of_beq q) q1).symm))
   ·refine g0 130 ?_;intro;exact eN (E'.1 _ _ (.int t.sc) (by kernel_rfl) (gC V.int (Sy.sc0 λh=>nt q1 h.2).symm))
  ·refine g0 130 ?_;intro;exact eN (E'.1 _ _ (.int t.sc) (by kernel_rfl) (gC V.int (Sy.sc0 λh=>ne_of_beq_false q h.1).symm))
  refine g0 7 ?_;intro;refine iY 3 (.bool t.next.may) (by kernel_rfl) (λm' E'=>wB _ rfl (λq=>?_) (λq=>?_)) ?_
  ·refine g0 321 ?_;intro;refine wB _ rfl (λq1=>?_) (λq1=>?_)
   ·refine g0 0x4041 ?_;intro;exact eN (E'.1 _ _ (.bool true) (by kernel_rfl) (gC V.bool (Sy.may1 (eq_of_beq q) q1).symm))
   ·refine g0 130 ?_;intro;exact eN (E'.1 _ _ (.bool t.may) (by kernel_rfl) (gC V.bool (Sy.may0 λh=>nt q1 h.2).symm))
  ·refine g0 130 ?_;intro;exact eN (E'.1 _ _ (.bool t.may) (by kernel_rfl) (gC V.bool (Sy.may0 λh=>ne_of_beq_false q h.1).symm))
  refine g0 5 ?_;intro;refine i4 t.wh (!(t.x%8==6)) (by kernel_rfl) (λq m' Aq=>?_) ?_
  ·refine g0 449 ?_;intro;exact eV (Aq _ rfl)
  refine g0 5 ?_;intro;subst et;refine eF rfl (next (n,_,_,_,_) [0,1] _ fn.1 ?_);show E2 [0,1] _ [⟨n,.list ((((IU x).run j).l++BY (((IU x).run j).x%8) (((IU x).run j).x/8%16)).map .int),true⟩,_];rw[jJ];rfl
 ·generalize (IU x).run (x%5).toNat=z at hz fin⊢;refine g0 0x4b08c ?_;intro;refine Ai (AC (x:=z.x) E h2) [1] [1] rfl rfl ?_;refine g0 0 ?_;intro;refine A3 (EC (d:=d) (l:=z.l) (f:=z.x%2) (i:=y.1) E (L1 [_] [] 0x281640020fd02c80041 hz)) [0] [] rfl (λ_=>rfl) λo ho fo=>?_;cases o with
  |none=>refine g0 259 ?_;intro;exact eV (fin _ _ (Bs y.1 [0,1] rfl (by rw[ho rfl,pH,bE];rfl) rfl (AI hy Bz) trivial rfl))
  |some o=>refine g0 259 ?_;intro;exact eV (fin _ _ (Bo o [0,2] (by kernel_rfl) (AI (fo _ (.head _)).1 Bz) trivial rfl))
end
theorem PO.row{k m:Int}{dt r:List Int}{rows:List (Int×List Int)}{b:Bool}(h0:k≠0)(h1:k≠1)(hm:m=dt.length+2)(h:PO r rows b):PO (k::m::(dt++r)) ((k,dt)::rows) b:=by have e:(m-2).toNat=dt.length:=gH (L2 [_,_] [_] 0x41c83a0fd08220e43fd02841080041 hm (bD (show 0<=m-2 from L1 [_] [_] 0x41c83fa050c220e41d066041 hm))) (L2 [_,_] [_] 0x41c83a1fd0c220e41fd02861080041 hm (bD (show 0<=m-2 from L1 [_] [_] 0x41c83fa050c220e41d066041 hm)));have a:=PO.opt (k:=k) (m:=m) (r:=dt++r) (rows:=rows) (b:=b) h0 h1 (L1 [_] [_] 0x83907f40a184020e6041 hm) (by rw[cW];exact L1 [_,_] [_] 0x10720fe8142088390835fd02041 hm) (by rw[e,List.drop_left];exact h);rwa[e,List.take_left] at a
theorem CC(l:List (Int×List Int))(r:Int×List Int):Ah (l++[r])=if r.1=3/\r.2.length=1 then min (r.2.headD 0) 14 else Ah l:=by unfold Ah;rw[qT];rfl
theorem ER(l:List (Int×List Int))(r:Int×List Int):BP (l++[r])=(BP l||(r.1==4&&r.2==[])):=by unfold BP;rw[List.any_append];simp
def QQ(t:Sy):Prop:=∃DD:List (Int×List Int),((t.wh=true/\∀r rows b,PO r rows b->PO (t.l++r) (DD++rows) b)\/(t.wh=false/\∀r:List Int,t.l.length+r.length<=57->PO (t.l++r) DD false))/\Ah DD=t.sc/\BP DD=t.may/\(∀r∈DD,r.1≠5)/\AY t.l
theorem oN{k:Nat}{l:List Int}(t:AY l)(h:Nat.ble k 255=true):AY ((OfNat.ofNat k:Int)::l):=λb hb=>(cS.mp hb).elim (λe=>e▸⟨lY k,pv.mpr (rI (oX h))⟩) (t b)
theorem oI{x y:List Int}{c:Prop}[Decidable c](a:AY x)(b:AY y):AY (if c then x else y):=by split<;>assumption
theorem KO{k m:Int}(h:0<=m/\m<16):AY (BY k m):=by
 have o0:AY []:=λ_ h=>nomatch h;have oM:∀{l},AY l->AY (m::l):=λt b hb=>(cS.mp hb).elim (λe=>e▸⟨h.1,qJ h.2 (by decide)⟩) (t b);unfold BY
 repeat' refine oI ?_ ?_
 all_goals repeat' first|exact o0|refine oM ?_|refine oN ?_ rfl
theorem QQ.step{t:Sy}(h:QQ t):QQ t.next:=by
 obtain⟨DD,hw,hs,hmy,h5,ho⟩:=h;have hm:0<=t.x/8%16/\t.x/8%16<16:=⟨L1 [] [_] kf (dq (t.x/8) (show(16:Int)≠0 by decide)),L1 [] [_] 0x80720910601c82441 (bX (t.x/8) (show(0:Int)<16 by decide))⟩;have hk:=QT t.x (m:=8) (by decide);have Nc:AY t.next.l:=AY.app ho (KO hm);have s0:¬(t.x%8=1/\t.wh=true)->Ah DD=t.next.sc:=λh=>hs.trans (Sy.sc0 h).symm;have m0:¬(t.x%8=2/\t.wh=true)->BP DD=t.next.may:=λh=>hmy.trans (Sy.may0 h).symm;rcases hw with ⟨hw,hp⟩|⟨hw,hp⟩
 ·have add:∀(rw:Int×List Int),t.x%8≠6->rw.1≠5->(∀r rows b,PO r rows b->PO (BY (t.x%8) (t.x/8%16)++r) (rw::rows) b)->Ah (DD++[rw])=t.next.sc->BP (DD++[rw])=t.next.may->QQ t.next:=by
   intro rw h6 kL hr a b;refine⟨DD++[rw],.inl ⟨?_,λr rows b h=>?_⟩,a,b,?_,Nc⟩
   ·show(t.wh&&!(t.x%8==6))=true;rw[hw,pG.mpr h6];rfl
   ·rw[bF];show PO ((t.l++BY (t.x%8) (t.x/8%16))++r) _ b;rw[bF];exact hp _ _ _ (hr r rows b h)
   ·intro r hr;rcases lZ.mp hr with hr|hr
    ·exact h5 r hr
    ·rw[jV.mp hr];exact kL
  have a2:∀r:Int×List Int,(r.1==4&&r.2==[])=false->t.x%8≠2->BP (DD++[r])=t.next.may:=λr h n=>by rw[ER,h,Bool.or_false];exact m0 λq=>n q.1
  have go:∀(r:Int×List Int)(k:Int),t.x%8=k->(k==6||k==1||k==2||r.1==5||(r.1==3&&r.2.length==1)||(r.1==4&&r.2==[]))=false->(∀l rows b,PO l rows b->PO (BY k (t.x/8%16)++l) (r::rows) b)->QQ t.next:=by intro r k e h h';simp only[rT,pG] at h;obtain⟨⟨⟨⟨⟨h1,h2⟩,h3⟩,h4⟩,h5⟩,h6⟩:=h;subst e;exact add r h1 h4 h' ((CC DD r).trans ((jU λq=>by rw[q.1,q.2] at h5;exact nomatch h5).trans (s0 λq=>h2 q.1))) (a2 r h6 h3)
  rcases(iH hk.1 hk.2:t.x%8=0\/t.x%8=1\/t.x%8=2\/t.x%8=3\/t.x%8=4\/t.x%8=5\/t.x%8=6\/t.x%8=7) with e|e|e|e|e|e|e|e
  ·exact go (2,[5,180]) _ e rfl λr rows b h=>PO.row (dt:=[5,180]) (by decide) (by decide) rfl h
  ·have n:∀k:Int,1≠k->t.x%8≠k:=λk h q=>h (e.symm.trans q);exact add (3,[t.x/8%16]) (n 6 (by decide)) (show(3:Int)≠5 by decide) (λr rows b h=>by rw[e];exact PO.row (dt:=[_]) (by decide) (by decide) rfl h) ((CC DD _).trans ((lW ⟨rfl,rfl⟩).trans (Sy.sc1 e hw).symm)) (a2 _ rfl (n 2 (by decide)))
  ·have n:∀k:Int,2≠k->t.x%8≠k:=λk h q=>h (e.symm.trans q);exact add (4,[]) (n 6 (by decide)) (by decide) (λr rows b h=>by rw[e];exact PO.row (dt:=[]) (by decide) (by decide) rfl h) ((CC DD _).trans ((jU λq=>nomatch q.2).trans (s0 λq=>n 1 (by decide) q.1))) ((ER DD _).trans ((Bool.or_true _).trans (Sy.may1 e hw).symm))
  ·exact go (1,[]) _ e rfl λr rows b h=>PO.nop h
  ·exact go (8,[_,_,_,_,_,_,_,_]) _ e rfl λr rows b h=>PO.row (dt:=[_,_,_,_,_,_,_,_]) (by decide) (by decide) rfl h
  ·exact go (30,[_]) _ e rfl λr rows b h=>PO.row (dt:=[_]) (by decide) (by decide) rfl h
  ·have el:t.next.l=t.l++[9,60]:=gC (λk=>t.l++BY k (t.x/8%16)) e;refine⟨DD,.inr ⟨?_,λr hr=>?_⟩,s0 λq=>(nomatch e.symm.trans q.1),m0 λq=>(nomatch e.symm.trans q.1),h5,Nc⟩
   ·show(t.wh&&!(t.x%8==6))=false;rw[e];exact Bool.and_false _
   rw[el] at hr⊢;rw[cW] at hr;rw[bF];have q:=hp (9::60::r) [] false (.short (by decide) (by decide) (.inr (by simp at hr;exact L1 [_,_] [] 0x1c8b2010721d680410f05910720fea441 hr)));rwa[bE] at q
  ·exact go (3,[_,0]) _ e rfl λr rows b h=>PO.row (dt:=[_,0]) (by decide) (by decide) rfl h
 ·refine⟨DD,.inr ⟨by show(t.wh&&_)=false;rw[hw];rfl,λr hr=>?_⟩,s0 λq=>(nomatch hw.symm.trans q.2),m0 λq=>(nomatch hw.symm.trans q.2),h5,Nc⟩;have el:t.next.l=t.l++BY (t.x%8) (t.x/8%16):=rfl;rw[el] at hr⊢;rw[bF];exact hp _ (by rw[cW] at hr⊢;exact L1 [_,_,_] [] 0x391644106b40208722c883a068041 hr)
theorem QQ.run{t:Sy}(h:QQ t):∀n,QQ (t.run n)
 |0=>h
 |n+1=>(h.run n).step
theorem QQ.start(x:Int):QQ ⟨x,[], -1,false,true⟩:=⟨[],.inl ⟨rfl,λ_ _ _ h=>h⟩,rfl,rfl,(λ_ h=>nomatch h),(λ_ h=>nomatch h)⟩
theorem PO.zeros:∀n,PO (List.replicate n 0) [] true
 |0=>.nil
 |_+1=>.stop
theorem PO.ones:∀n,PO (List.replicate n 1) (List.replicate n (1,[])) true
 |0=>.nil
 |n+1=>.nop (PO.ones n)
theorem E8(l:List (Int×List Int)):∀n,Ah (l++List.replicate n (1,[]))=Ah l
 |0=>by rw[pH,bE]
 |n+1=>by rw[sf,<-bF,CC,E8 l n];rfl
theorem Ht(l:List (Int×List Int)):∀n,BP (l++List.replicate n (1,[]))=BP l
 |0=>by rw[pH,bE]
 |n+1=>by rw[sf,<-bF,ER,Ht l n];simp
theorem No{rows:List (Int×List Int)}(ack:Int)(h:∀r∈rows,r.1≠5):Co ack rows=ack%4294967296:=by
 have e:rows.foldl (BO ack) 0=0:=by
  induction rows with
  |nil=>rfl
  |cons r l ih=>rw[su,show BO ack 0 r=0 from jU λq=>h r pg q.1];exact ih λx hx=>h x (pt _ hx)
 unfold Co;rw[e,pc]
theorem QQ.fin{t:Sy}(h:QQ t)(hl:t.l.length<=40){f:Int}(hf:f=0\/f=1):∃rows b,PO (t.l++List.replicate (A4 t.l.length) f) rows b/\Ah rows=t.sc/\BP rows=t.may/\(∀r∈rows,r.1≠5)/\AY (t.l++List.replicate (A4 t.l.length) f)/\(t.l++List.replicate (A4 t.l.length) f).length%4=0/\(t.l++List.replicate (A4 t.l.length) f).length<=40:=by
 obtain⟨DD,hw,hs,hm,h5,ho⟩:=h;have hn:A4 t.l.length<=3:=by unfold A4;exact L1 [_] [] 0x20720110461c80041 (s8 (4-t.l.length%4) (show 0<4 by decide))
 have Ac:(t.l++List.replicate (A4 t.l.length) f).length=t.l.length+A4 t.l.length:=by rw[cW,qR]
 have h4:=HR t.l.length;have Nc:AY (t.l++List.replicate (A4 t.l.length) f):=AY.app ho λb hb=>by rw[qx hb];exact⟨hf.elim (λo0=>L1 [] [_] 0x19050c20066041 o0) (λo0=>L1 [] [_] 0x439050c20066041 o0),hf.elim (λo0=>L1 [] [_] 0x641420a002c82441 o0) (λo0=>L1 [] [_] 0x10e41420a002c82441 o0)⟩
 have Ix:=Po hl;rw[Ac];rcases hw with ⟨_,hp⟩|⟨_,hp⟩
 ·rcases hf with rfl|rfl
  ·exact⟨_,_,hp _ _ _ (PO.zeros _),by rw[bE];exact hs,by rw[bE];exact hm,by rw[bE];exact h5,Nc,h4,Ix⟩
  ·refine⟨_,_,hp _ _ _ (PO.ones _),by rw[E8];exact hs,by rw[Ht];exact hm,λr hr=>?_,Nc,h4,Ix⟩;rcases lZ.mp hr with hr|hr
   ·exact h5 r hr
   ·rw[qx hr];decide
 ·exact⟨DD,false,hp _ (by rw[qR];exact L2 [_,_] [] 0x61c840410a059000821c8b21068041 hl hn),hs,hm,h5,Nc,h4,Ix⟩
theorem IX{c:Cx}{m:Mx c}{S S':AA}(e:S=S')(h:Sm m S'):Sm m S:=e▸h
theorem ix{P:Int->Prop}(l:List Int)(hl:∀a∈l,P a){j:Int}(h0:0<=j)(h1:j<l.length):∃a,(l.map V.int)[j.toNat]? =some (.int a)/\P a:=by have h:j.toNat<l.length:=L2 [_,_] [_] 0xfd0821f82441080441 h1 (bD (show 0<=j from h0));exact⟨l[j.toNat],by rw[oV,cQ h];rfl,hl _ (qk h)⟩
section
variable{g:Gl}(E:AM g){d:Nat}{b r0 r1 nb ob:Nat}{x v u q:Int}
include E
theorem MY(h:0<q/\q<1073741824)(hv:x%q=v):Bb g (d+1) 722 [.ref b,.int q] [b] [(b,.list [.int x])] [(b,.list [.int (x/q)])] (.int v):=hv▸AC E h
end
noncomputable abbrev oP(k:Int)(nb ob b r0 r1:Nat)(vb:V)(p q:O)(x y way E5 back Ng kind w f sp:Int)(n:Nat):AA:=⟨.xs ((fB (st 123)).drop 6),[],[some (.int k),some (.tup [.ref nb,.ref ob]),some (.ref b),some vb,some (.ref nb),some (.ref ob),some (.int way),some (.int E5),some (.int back),some (.int Ng),some (.int kind),some (.int w),some (.int n),some (.int f),some (.int sp),none,none,none,none,none,none,none,none,none],[⟨nb,.list [.int x],true⟩,⟨ob,.list [.int y],true⟩,⟨b,.list [.ref r0,.ref r1],false⟩,⟨r0,p,true⟩,⟨r1,q,true⟩]⟩
section
variable{g:Gl}(E:AM g){d:Nat}{b r0 r1 nb ob:Nat}{k x y:Int}{vb:V}{p q:O}
theorem HO(m:Mx (cx E 67 (d+1)))(hk:0<=k/\k<8)
  (h:∀(x' way E5 back Ng kind w f sp:Int)(n:Nat),(way=0\/way=1)->(0<=E5/\E5<5)->(0<=back/\back<16)->(0<=Ng/\Ng<4)->(0<=w/\w<65536)->n<32->(f=0\/f=8\/f=64\/f=192)->(0<=sp/\sp<1000)->Sm m (oP k nb ob b r0 r1 vb p q x' y way E5 back Ng kind w f sp n)):
  Sm m ⟨.xs (fB (st 123)),[],[some (.int k),some (.tup [.ref nb,.ref ob]),some (.ref b),some vb,none,none,none,none,none,none,none,none,none,none,none,none,none,none,none,none,none,none,none,none],[⟨nb,.list [.int x],true⟩,⟨ob,.list [.int y],true⟩,⟨b,.list [.ref r0,.ref r1],false⟩,⟨r0,p,true⟩,⟨r1,q,true⟩]⟩:=by
 have h2:(0:Int)<2/\(2:Int)<1073741824:=by decide
 have h4:(0:Int)<4/\(4:Int)<1073741824:=by decide
 have h5:(0:Int)<5/\(5:Int)<1073741824:=by decide
 have h6:(0:Int)<6/\(6:Int)<1073741824:=by decide
 have h8:(0:Int)<8/\(8:Int)<1073741824:=by decide
 have QP:(0:Int)<16/\(16:Int)<1073741824:=by decide
 have ly:(0:Int)<32/\(32:Int)<1073741824:=by decide
 have hw:(0:Int)<65536/\(65536:Int)<1073741824:=by decide
 have fx:∀(z m:Int),0<m->0<=z%m/\z%m<m:=λz m h=>⟨dq z (Int.ne_of_gt h),bX z h⟩;obtain⟨n,hn,hn32⟩:∃n:Nat,x/2/5/16/4/6/65536%32=n/\n<32:=ot _ (M:=32) (by decide);obtain⟨w,ew,hw1⟩:=ix (P:=λa=>0<=a/\a<65536) [900+7*k,0,1,65535,4095,x/2/5/16/4/6%65536] (pM.mpr ⟨⟨by exact L1 [] [_] 0xcc38203877c20b3a066041 hk.1,by exact L1 [] [_] 0x203904b82200004c80e1df082cea441 hk.2⟩,pM.mpr ⟨by decide,pM.mpr ⟨by decide,pM.mpr ⟨by decide,pM.mpr ⟨by decide,pM.mpr ⟨QT _ (by decide),λ_ h=>nomatch h⟩⟩⟩⟩⟩⟩) (fx (x/2/5/16/4) 6 (by decide)).1 (fx (x/2/5/16/4) 6 (by decide)).2;obtain⟨f,ef,Bv⟩:=ix (P:=λf=>f=0\/f=8\/f=64\/f=192) [0,8,64,192] (by intro a ha;simpa only[cS,rp,or_false] using ha) (fx (x/2/5/16/4/6/65536/32) 4 (by decide)).1 (fx (x/2/5/16/4/6/65536/32) 4 (by decide)).2;obtain⟨sp,es,WR⟩:=ix (P:=λa=>0<=a/\a<1000) [1,0,40,700,2,999,3,20] (by decide) (fx (x/2/5/16/4/6/65536/32/4) 8 (by decide)).1 (fx (x/2/5/16/4/6/65536/32/4) 8 (by decide)).2;have way:=Int.emod_two_eq x;have H:=λx'=>h x' (x%2) (x/2%5) (x/2/5%16) (x/2/5/16%4) (x/2/5/16/4%6) w f sp n way (fx _ 5 (by decide)) (fx _ 16 (by decide)) (fx _ 4 (by decide)) hw1 hn32 Bv WR;clear h way hw1 Bv WR;refine g1 0x56c2185081 (λ_ a=>a (λ_=>rfl) (λ_=>rfl)) ?_;intro;refine Ai (AC E h2) [0] [0] rfl rfl ?_;refine g0 347 ?_;intro;refine Ai (AC E h5) [0] [0] rfl rfl ?_;refine g0 347 ?_;intro;refine Ai (AC E QP) [0] [0] rfl rfl ?_;refine g1 0x15b087209 (λ_ a=>a (λ_=>rfl)) ?_;intro;refine Ai (AC E h4) [0] [0] rfl rfl ?_;refine g0 347 ?_;intro;refine Ai (AC E h6) [0] [0] rfl rfl ?_;refine g1 0x56c128b (λ_ a=>a (Bi (L0 [] [] 0x800000000000000037270e4441))) ?_;intro;refine Ai (AC E hw) [0] [0] rfl rfl ?_;refine g0 11 ?_;intro;refine sT rfl (fx _ 6 (by decide)).1 (qJ (fx _ 6 (by decide)).2 (by decide)) ew ?_;refine g1 0x15b08c (λ_ a=>a (λ_=>rfl)) ?_;intro;refine Ai (MY E ly hn) [0] [0] rfl rfl ?_;refine g0 347 ?_;intro;refine Ai (AC E h4) [0] [0] rfl rfl ?_;refine g0 0 ?_;intro;refine sT rfl (fx _ 4 (by decide)).1 (qJ (fx _ 4 (by decide)).2 (by decide)) ef ?_;refine g0 0x15b34e ?_;intro;refine Ai (AC E h8) [0] [0] rfl rfl ?_;refine g0 0 ?_;intro;refine sT rfl (fx _ 8 (by decide)).1 (qJ (fx _ 8 (by decide)).2 (by decide)) es ?_;refine ZS 1 15 ?_;intro;exact IX (by kernel_rfl) (H (x/2/5/16/4/6/65536/32/4/8))
end
structure SO where
 o:Nat
 l:List Int
 rows:List (Int×List Int)
 pb:Bool
 x:Int
structure SX where
 w:Int
 f:Int
 sp:Int
 n:Nat
 l:List Int
 rows:List (Int×List Int)
 pb:Bool
 pk:Nat
 i:Nat
 j:Nat
 mt:Nat
 x:Int
 y:Int
abbrev WJ(way:Int)(A B C D:List Int)(sr dt sp dp sq ak fl:Int)(s:SX):Prop:=GH (CU A B C D sq ak (s.f+fl) s.w s.n s.l) sr dt sp dp (sq%4294967296) (ak%4294967296) s.w (s.f+fl) s.n s.l/\PO s.l s.rows s.pb/\(∀r∈s.rows,r.1≠5)/\(0<=s.w/\s.w<65536)/\s.n<32/\(s.f=0\/s.f=8\/s.f=64\/s.f=192)/\(0<=s.sp/\s.sp<1000)
abbrev gq(s:SO):Prop:=PO s.l s.rows s.pb/\(∀r∈s.rows,r.1≠5)/\AY s.l/\s.l.length%4=0/\s.l.length<=40
noncomputable abbrev jD(A B C D:List Int)(sq ak fl:Int)(s:SX):AW:=[(s.i,.barr (CU A B C D sq ak (s.f+fl) s.w s.n s.l)),(s.pk,Cy s.i s.j 6 20 0 s.mt)]
section
variable{g:Gl}(E:AM g){d:Nat}{b r0 r1 nb ob:Nat}{x y B0 B1:Int}{p q:Dr}
include E
theorem TS:CF g (d+2) 743 [.ref b] [b] [(b,.list [.int x])] gq (λs=>.tup [.ref s.o,.int (Ah s.rows),.bool (BP s.rows)]) (λs=>[(s.o,.list (s.l.map .int))]) λs=>[(b,.list [.int s.x])]:=λos K I hk=>EB E os K I λo Ae _ hN J=>by
 have hq:QQ ((IU x).run (x%5).toNat):=(QQ.start _).run _;have hz:((IU x).run (x%5).toNat).l.length<=40:=by have:=(IU x).len (x%5).toNat;simp only[List.length_nil] at this;exact L3 [_,_] [_] 0x287209a0401fd502150760ce800208502c80041 this (bD (show 0<=x%5 from L1 [] [_] kf (dq x (show(5:Int)≠0 by decide)))) (bX x (show(0:Int)<5 by decide))
 generalize (IU x).run (x%5).toNat=z at hq hz hN J;obtain⟨rows,pb,h1,h2,h3,h4,h5,h6,h7⟩:=hq.fin hz (f:=z.x%2) (by omega);have k:=hk ⟨o,_,rows,pb,z.x/2⟩ Ae ⟨h1,h4,h5,h6,h7⟩ hN J;show K Ae (.tup [.ref o,.int z.sc,.bool z.may]);rw[<-h2,<-h3];exact k
theorem Gx:CF g (d+12) 790 [.int 0,.tup [.ref nb,.ref ob],.ref b,.tup [.int B0,.int B1]] [nb,ob,r0,r1] [(nb,.list [.int x]),(ob,.list [.int y]),(b,.list [.ref r0,.ref r1]),(r0,p.o),(r1,q.o)]
  (WJ 0 [10,0,0,1] [192,0,2,1] [3,232] [0,80] 167772161 3221225985 1000 80 B0 0 2) (λs=>.tup [.ref s.pk,.int 0,.int s.sp,.bool true]) (jD [10,0,0,1] [192,0,2,1] [3,232] [0,80] B0 0 2)
  (λs=>[(nb,.list [.int s.x]),(ob,.list [.int s.y]),(r0,Qi (B0+s.n+1) (B0+s.n+1) (max s.w 1) p.ma (max (Ah s.rows) 0) (decide (0<=Ah s.rows)) (BP s.rows) p.hm p.ua),(r1,Qi q.e (max s.w 1) q.mw q.ma q.sc q.isc q.sk q.hm q.ua)]):=by
 refine Bu E 67 [⟨nb,.list [.int x],true⟩,⟨ob,.list [.int y],true⟩,⟨b,.list [.ref r0,.ref r1],false⟩,⟨r0,p.o,true⟩,⟨r1,q.o,true⟩] λm fin Ay=>?_;refine HO (d:=d+10) E m (by decide) (λx' way E5 back Ng kind w f sp n _ _ _ _ hw hn hf hs=>?_);refine g1 0x6701041 (λ_ a=>a (λ_=>rfl)) ?_;intro;refine A3 (TS (d:=d+9) (x:=y) E) [1] [1] rfl (λ_=>rfl) λs ho fo=>?_;have F:GH (CU [10,0,0,1] [192,0,2,1] [3,232] [0,80] B0 0 (f+2) w n s.l) 167772161 3221225985 1000 80 (B0%4294967296) (0%4294967296) w (f+2) n s.l:=d6 ho.2.2.2.1 ho.2.2.2.2 hn ho.2.2.1 (⟨hf.elim (λo0=>L1 [] [_] 0x19050c220e41a066041 o0) (λo0=>o0.elim (λo1=>L1 [] [_] 0x2039050c220e41a066041 o1) (λo1=>o1.elim (λo2=>L1 [] [_] 0x10059050c220e41a066041 o2) (λo2=>L1 [] [_] 0x30059050c220e41a066041 o2))),hf.elim (λo0=>L1 [] [_] 0x641420a002c883906a441 o0) (λo0=>o0.elim (λo1=>L1 [] [_] 0x80e41420a002c883906a441 o1) (λo1=>o1.elim (λo2=>L1 [] [_] 0x401641420a002c883906a441 o2) (λo2=>L1 [] [_] 0xc01641420a002c883906a441 o2)))⟩) hw (by unfold AY;decide) (by unfold AY;decide) (by unfold AY;decide) (by unfold AY;decide);refine g0 0x35030104e4c104405a4c2052450 ?_;intro;refine A3 (DV (d:=d+2) (n:=n) (l:=s.l) (o:=s.o) E ho.2.2.2.2 hn hw F) [0] [] rfl (λ_=>rfl) λt ht ft=>?_;refine g0 0x1244c341044043754 ?_;intro;refine Ai (Hb E) [5,6,7] [6,7] rfl rfl ?_;refine g0 0xf054 ?_;intro;exact eV (fin _ _ (Bo ⟨w,f,sp,n,s.l,s.rows,s.pb,t.1,t.2.1,t.2.2.1,t.2.2.2,x',s.x⟩ [0,1,3,4,6,7] (by kernel_rfl) (AI (ft _ (.head _)).1 (AI (ft _ (.tail _ (.head _))).1 Bz)) ⟨F,ho.1,ho.2.1,hw,hn,hf,hs⟩ rfl))
theorem Gw:CF g (d+12) 790 [.int 1,.tup [.ref nb,.ref ob],.ref b,.tup [.int B0,.int B1]] [nb,ob,r0,r1] [(nb,.list [.int x]),(ob,.list [.int y]),(b,.list [.ref r0,.ref r1]),(r0,p.o),(r1,q.o)]
  (WJ 1 [192,0,2,1] [10,0,0,1] [0,80] [3,232] 3221225985 167772161 80 1000 B1 p.e 18) (λs=>.tup [.ref s.pk,.int 1,.int s.sp,.bool true]) (jD [192,0,2,1] [10,0,0,1] [0,80] [3,232] B1 p.e 18)
  (λs=>[(nb,.list [.int s.x]),(ob,.list [.int s.y]),(r0,Qi p.e (p.e+max s.w 1) p.mw p.ma (if p.isc&&decide (0<=Ah s.rows) then p.sc else 0) p.isc p.sk p.hm p.ua),(r1,Qi (B1+s.n+1) (B1+s.n+1) (max s.w 1) p.e (if p.isc&&decide (0<=Ah s.rows) then max (Ah s.rows) 0 else 0) (decide (0<=Ah s.rows)) (BP s.rows) true q.ua)]):=by
 refine Bu E 67 [⟨nb,.list [.int x],true⟩,⟨ob,.list [.int y],true⟩,⟨b,.list [.ref r0,.ref r1],false⟩,⟨r0,p.o,true⟩,⟨r1,q.o,true⟩] λm fin Ay=>?_;refine HO (d:=d+10) E m (by decide) (λx' way E5 back Ng kind w f sp n _ _ _ _ hw hn hf hs=>?_);refine g1 0x6701041 (λ_ a=>a (λ_=>rfl)) ?_;intro;refine A3 (TS (d:=d+9) (x:=y) E) [1] [1] rfl (λ_=>rfl) λs ho fo=>?_;have F:GH (CU [192,0,2,1] [10,0,0,1] [0,80] [3,232] B1 p.e (f+18) w n s.l) 3221225985 167772161 80 1000 (B1%4294967296) (p.e%4294967296) w (f+18) n s.l:=d6 ho.2.2.2.1 ho.2.2.2.2 hn ho.2.2.1 (⟨hf.elim (λo0=>L1 [] [_] 0x19050c320e41a066041 o0) (λo0=>o0.elim (λo1=>L1 [] [_] 0x2039050c320e41a066041 o1) (λo1=>o1.elim (λo2=>L1 [] [_] 0x10059050c320e41a066041 o2) (λo2=>L1 [] [_] 0x30059050c320e41a066041 o2))),hf.elim (λo0=>L1 [] [_] 0x641420a002cc83906a441 o0) (λo0=>o0.elim (λo1=>L1 [] [_] 0x80e41420a002cc83906a441 o1) (λo1=>o1.elim (λo2=>L1 [] [_] 0x401641420a002cc83906a441 o2) (λo2=>L1 [] [_] 0xc01641420a002cc83906a441 o2)))⟩) hw (by unfold AY;decide) (by unfold AY;decide) (by unfold AY;decide) (by unfold AY;decide);refine g0 0xd40c0813930811016930450440c1052450 ?_;intro;refine A3 (DU (d:=d+2) (n:=n) (l:=s.l) (o:=s.o) E ho.2.2.2.2 hn hw F) [0] [] rfl (λ_=>rfl) λt ht ft=>?_;refine g0 0x1244c342044043754 ?_;intro;refine Ai (Ha (x:=p) (y:=q) E) [5,6,7] [6,7] rfl rfl ?_;refine g0 0xf054 ?_;intro;exact eV (fin _ _ (Bo ⟨w,f,sp,n,s.l,s.rows,s.pb,t.1,t.2.1,t.2.2.1,t.2.2.2,x',s.x⟩ [0,1,3,4,6,7] (by kernel_rfl) (AI (ft _ (.head _)).1 (AI (ft _ (.tail _ (.head _))).1 Bz)) ⟨F,ho.1,ho.2.1,hw,hn,hf,hs⟩ rfl))
end
theorem B8{a b a' b':Int}(ha:a'%4294967296=a%4294967296)(hb:b'%4294967296=b%4294967296)(h: -2147483648<=a-b/\a-b<2147483648):CY a' b'=decide (a<b):=by
 unfold CY;have e:(a'-b')%4294967296=(a-b)%4294967296:=by rw[sG,ha,hb,<-sG]
 rw[e];by_cases q:a<b
 ·rw[jL q,rM];exact ZH h.1 (Int.sub_neg_of_lt q)
 ·rw[gD q,pG,ZG (Int.sub_nonneg_of_le (rK.mp q)) h.2];decide
theorem Nj{e me mw e2 mw2 seq n far:Int}(h0:mw2≠0)(h1: -2147483648<=seq-(me+1)/\seq-(me+1)<2147483648)(h2: -2147483648<=e-mw2-1-(seq+n)/\e-mw2-1-(seq+n)<2147483648)
  (h3: -2147483648<=far-(e2+1)/\far-(e2+1)<2147483648) (h4: -2147483648<=e2-max mw 66000-1-far/\e2-max mw 66000-1-far<2147483648):
  Bh (e%4294967296) (me%4294967296) mw (e2%4294967296) mw2 (seq%4294967296) (AO 16 (seq%4294967296) n) (far%4294967296)=(decide (seq<=me)&&decide (e-mw2<=seq+n)&&decide (far<=e2)&&decide (e2-max mw 66000<=far)):=by
 unfold Bh AO;rw[lW rfl,B8 (a:=seq) (b:=me+1) (by exact Fx (-(seq/4294967296)) (Fh (seq/4294967296) (bC (L0 [] [_,_] n5) (L0 [] [_,_] n6)) (L2 [] [_,_,_] n7 (bf seq 4294967296) (dq seq (show(4294967296:Int)≠0 by decide))) (L2 [] [_,_,_] n8 (bf seq 4294967296) (bX seq (show(0:Int)<4294967296 by decide))))) (by exact Fx (-(me/4294967296)) (bC (L1 [] [_,_,_] 0x4022000000007dea841178800000001f610e43ad043906a041 (bf me 4294967296)) (L1 [] [_,_,_] 0x412000000007dea86108722d07c400000000fb08720d6a041 (bf me 4294967296)))) h1,B8 (a:=e-mw2-1) (b:=seq+n) (by exact Fx (-(e/4294967296)) (bC (L1 [] [_,_,_,_] 0x8032000000007dea8411f8800000001f610e422ef7410e420ef6041 (bf e 4294967296)) (L1 [] [_,_,_,_] 0x622000000007dea861087211f7a2f1000000003ec21c841deea041 (bf e 4294967296)))) (by exact Fx (-(seq/4294967296)-(seq%4294967296+n+0)/4294967296) (Fh (-(seq/4294967296)+seq/4294967296+(seq%4294967296+n+0)/4294967296) (bC (L1 [] [_,_,_,_,_] tb (bf seq 4294967296)) (L1 [] [_,_,_,_,_] tc (bf seq 4294967296))) (L3 [] [_,_,_,_,_,_] td (bf seq 4294967296) (bf (seq%4294967296+n+0) 4294967296) (dq (seq%4294967296+n+0) (show(4294967296:Int)≠0 by decide))) (L3 [] [_,_,_,_,_,_] tf (bf seq 4294967296) (bf (seq%4294967296+n+0) 4294967296) (bX (seq%4294967296+n+0) (show(0:Int)<4294967296 by decide))))) h2,B8 (a:=far) (b:=e2+1) (by exact Fx (-(far/4294967296)) (Fh (far/4294967296) (bC (L0 [] [_,_] n5) (L0 [] [_,_] n6)) (L2 [] [_,_,_] n7 (bf far 4294967296) (dq far (show(4294967296:Int)≠0 by decide))) (L2 [] [_,_,_] n8 (bf far 4294967296) (bX far (show(0:Int)<4294967296 by decide))))) (by exact Fx (-(e2/4294967296)) (bC (L1 [] [_,_,_] 0x4022000000007dea841178800000001f610e43ad043906a041 (bf e2 4294967296)) (L1 [] [_,_,_] 0x412000000007dea86108722d07c400000000fb08720d6a041 (bf e2 4294967296)))) h3,
  B8 (a:=e2-max mw 66000-1) (b:=far) (by exact Fx (-(e2/4294967296)) (bC (L1 [] [_,_,_,_] 0x8032000000007dea8411f8800000001f610e422ef7410e420ef6041 (bf e2 4294967296)) (L1 [] [_,_,_,_] 0x622000000007dea861087211f7a2f1000000003ec21c841deea041 (bf e2 4294967296)))) (by exact Fx (-(far/4294967296)) (Fh (far/4294967296) (bC (L0 [] [_,_] n5) (L0 [] [_,_] n6)) (L2 [] [_,_,_] n7 (bf far 4294967296) (dq far (show(4294967296:Int)≠0 by decide))) (L2 [] [_,_,_] n8 (bf far 4294967296) (bX far (show(0:Int)<4294967296 by decide))))) h4,pG.mpr h0,Bool.false_or]
 congr 1
 ·congr 1
  ·congr 1
   ·exact rO.mpr (⟨λe1=>L1 [] [_,_] 0x8721d02441082041 e1,λe1=>L1 [] [_,_] 0x8204108721d02441 e1⟩)
   ·exact rO.mpr (⟨λe1=>L1 [] [_,_,_,_] 0x18b410e420ef644118b41076041 e1,λe1=>L1 [] [_,_,_,_] 0x18b4107604118b410e420ef6441 e1⟩)
  ·exact rO.mpr (⟨λe1=>L1 [] [_,_] 0x8721d02441082041 e1,λe1=>L1 [] [_,_] 0x8204108721d02441 e1⟩)
 ·exact rO.mpr (⟨λe1=>L1 [] [_,_,_] 0x10439083bd910441076041 e1,λe1=>L1 [] [_,_,_] 0x1041d8104410e420ef6441 e1⟩)
theorem Tb{a b c d e a' b' c' d' e':Int}{i j k l i' j' k' l':Bool}(h1:a=a')(h2:b=b')(h3:c=c')(h4:d=d')(h5:e=e')(h6:i=i')(h7:j=j')(h8:k=k')(h9:l=l'):Sr.mk a b c d e i j k l=Sr.mk a' b' c' d' e' i' j' k' l':=by subst h1 h2 h3 h4 h5 h6 h7 h8 h9;rfl
theorem UU{x:Dr}{seq ack n far W:Int}(h1: -2147483648<=x.e-(seq+n)/\x.e-(seq+n)<2147483648)(h2:x.hm=true-> -2147483648<=x.ma-ack/\x.ma-ack<2147483648)(h3:0<=W+far-ack/\W+far-ack<4294967296):
  x.sr.snd (AO 16 (seq%4294967296) n) (ack%4294967296) ((W+far%4294967296-ack%4294967296)%4294967296)=(x.snd seq ack n far W).sr:=by
 have e1:CY (x.e%4294967296) (AO 16 (seq%4294967296) n)=decide (x.e<seq+n):=B8 (Fx (-(x.e/4294967296)) (Fh (x.e/4294967296) (bC (L0 [] [_,_] n5) (L0 [] [_,_] n6)) (L2 [] [_,_,_] n7 (bf x.e 4294967296) (dq x.e (show(4294967296:Int)≠0 by decide))) (L2 [] [_,_,_] n8 (bf x.e 4294967296) (bX x.e (show(0:Int)<4294967296 by decide))))) (by unfold AO;rw[lW rfl];exact Fx (-(seq/4294967296)-(seq%4294967296+n+0)/4294967296) (Fh (-(seq/4294967296)+seq/4294967296+(seq%4294967296+n+0)/4294967296) (bC (L1 [] [_,_,_,_,_] tb (bf seq 4294967296)) (L1 [] [_,_,_,_,_] tc (bf seq 4294967296))) (L3 [] [_,_,_,_,_,_] td (bf seq 4294967296) (bf (seq%4294967296+n+0) 4294967296) (dq (seq%4294967296+n+0) (show(4294967296:Int)≠0 by decide))) (L3 [] [_,_,_,_,_,_] tf (bf seq 4294967296) (bf (seq%4294967296+n+0) 4294967296) (bX (seq%4294967296+n+0) (show(0:Int)<4294967296 by decide))))) h1;have e2:AO 16 (seq%4294967296) n=(seq+n)%4294967296:=by unfold AO;rw[lW rfl];exact Fx (-(seq/4294967296)) (bC (L1 [] [_,_,_,_] 0x4019000000003ef54208fc400000000fb08b5a06420d6a041 (bf seq 4294967296)) (L1 [] [_,_,_,_] 0x311000000003ef543083211eb42f1000000003ec20d6a041 (bf seq 4294967296)))
 unfold Sr.snd Dr.snd;refine Tb ?_ rfl ?_ ?_ rfl rfl rfl ?_ ?_
 ·show(if CY (x.e%4294967296) _=true then _ else x.e%4294967296)=_;rw[e1,e2];by_cases q:x.e<seq+n
  ·rw[lW (jL q)];show _=max x.e (seq+n)%4294967296;rw[show max x.e (seq+n)=seq+n by exact bC (DF x.e (seq+n) (λu1 v1=>L1 [] [_,_,_] 0x10740a10441d02041 v1) (λu1 v1=>L2 [] [_,_,_,_] 0x31075020883a1c88220e8100 q u1)) (L1 [] [_,_,_] 0x1041a81044106a041 (lX x.e (seq+n)))]
  ·rw[jU (by simp[q])];show _=max x.e (seq+n)%4294967296;rw[show max x.e (seq+n)=x.e by exact bC (DF x.e (seq+n) (λu1 v1=>L2 [] [_,_,_,_] 0x18b40a10462d07041082041 q v1) (λu1 v1=>L1 [] [_,_] kg v1)) (L1 [] [_,_] 0x82041082041 (jO x.e (seq+n)))]
 ·show max x.mw _=max x.mw _
  congr 1
  exact Fh (-(far/4294967296)+ack/4294967296) (bC (L2 [] [_,_,_,_,_,_,_] 0x208c400000000fbd50c23094800000001f7aa104c5f68800000001f641835dd0820d76041 (bf far 4294967296) (bf ack 4294967296)) (L2 [] [_,_,_,_,_,_,_] 0x1188400000000fbd5082128c800000001f7aa184c506ba41fb4400000000fb1041aeea041 (bf far 4294967296) (bf ack 4294967296))) (L1 [] [_,_,_] 0x4106ba0cc08220835d066041 h3.1) (L1 [] [_,_,_] 0x2000000007c8820d764412000000007c8820d76441 h3.2)
 ·show(if (true&&(!x.hm||CY (x.ma%4294967296) (ack%4294967296)))=true then _ else x.ma%4294967296)=(if x.hm then max x.ma ack else ack)%4294967296;cases hh:x.hm with
  |false=>simp
  |true=>
   rw[B8 (a:=x.ma) (b:=ack) (by exact Fx (-(x.ma/4294967296)) (Fh (x.ma/4294967296) (bC (L0 [] [_,_] n5) (L0 [] [_,_] n6)) (L2 [] [_,_,_] n7 (bf x.ma 4294967296) (dq x.ma (show(4294967296:Int)≠0 by decide))) (L2 [] [_,_,_] n8 (bf x.ma 4294967296) (bX x.ma (show(0:Int)<4294967296 by decide))))) (by exact Fx (-(ack/4294967296)) (Fh (ack/4294967296) (bC (L0 [] [_,_] n5) (L0 [] [_,_] n6)) (L2 [] [_,_,_] n7 (bf ack 4294967296) (dq ack (show(4294967296:Int)≠0 by decide))) (L2 [] [_,_,_] n8 (bf ack 4294967296) (bX ack (show(0:Int)<4294967296 by decide))))) (h2 hh)];by_cases q:x.ma<ack
   ·rw[lW (by simp[q]),lW rfl,show max x.ma ack=ack by exact bC (DF x.ma ack (λu1 v1=>L1 [] [_,_] kg v1) (λu1 v1=>L2 [] [_,_,_] 0x8302084522084100 q u1)) (L1 [] [_,_] 0x82041082041 (lX x.ma ack))]
   ·rw[jU (by simp[q]),lW rfl,show max x.ma ack=x.ma by exact bC (DF x.ma ack (λu1 v1=>L2 [] [_,_,_] 0x102841107041082041 q v1) (λu1 v1=>L1 [] [_,_] kg v1)) (L1 [] [_,_] 0x82041082041 (jO x.ma ack))]
 ·show(if (true&&(!x.hm||CY (x.ma%4294967296) (ack%4294967296)))=true then true else x.hm)=true;cases x.hm<;>simp
 ·show(if CY (x.e%4294967296) _=true then true else x.ua)=(x.ua||decide (x.e<seq+n));rw[e1];by_cases q:x.e<seq+n<;>simp[q]
theorem Vg{x y:Dr}{seq ack n far W:Int}(h1: -2147483648<=y.me-1-(far+W)/\y.me-1-(far+W)<2147483648)(h2:y.mw≠0)(h3: -2147483648<=x.me-(seq+n)/\x.me-(seq+n)<2147483648)
  (h4:0<=y.mw+(seq+n-x.me)->y.mw+(seq+n-x.me)<4294967296) (h5:0<=y.mw) (h6: -4294967296<ack-y.e/\ack-y.e<4294967296):
  y.sr.rcv (x.me%4294967296) (AO 16 (seq%4294967296) n) (ack%4294967296) ((far%4294967296+W)%4294967296) W=(y.rcv x seq ack n far W).sr:=by
 have e1:CY (x.me%4294967296) (AO 16 (seq%4294967296) n)=decide (x.me<seq+n):=B8 (Fx (-(x.me/4294967296)) (Fh (x.me/4294967296) (bC (L0 [] [_,_] n5) (L0 [] [_,_] n6)) (L2 [] [_,_,_] n7 (bf x.me 4294967296) (dq x.me (show(4294967296:Int)≠0 by decide))) (L2 [] [_,_,_] n8 (bf x.me 4294967296) (bX x.me (show(0:Int)<4294967296 by decide))))) (by unfold AO;rw[lW rfl];exact Fx (-(seq/4294967296)-(seq%4294967296+n+0)/4294967296) (Fh (-(seq/4294967296)+seq/4294967296+(seq%4294967296+n+0)/4294967296) (bC (L1 [] [_,_,_,_,_] tb (bf seq 4294967296)) (L1 [] [_,_,_,_,_] tc (bf seq 4294967296))) (L3 [] [_,_,_,_,_,_] td (bf seq 4294967296) (bf (seq%4294967296+n+0) 4294967296) (dq (seq%4294967296+n+0) (show(4294967296:Int)≠0 by decide))) (L3 [] [_,_,_,_,_,_] tf (bf seq 4294967296) (bf (seq%4294967296+n+0) 4294967296) (bX (seq%4294967296+n+0) (show(0:Int)<4294967296 by decide))))) h3;have e2:AO 16 (seq%4294967296) n=(seq+n)%4294967296:=by unfold AO;rw[lW rfl];exact Fx (-(seq/4294967296)) (bC (L1 [] [_,_,_,_] 0x4019000000003ef54208fc400000000fb08b5a06420d6a041 (bf seq 4294967296)) (L1 [] [_,_,_,_] 0x311000000003ef543083211eb42f1000000003ec20d6a041 (bf seq 4294967296)))
 have e3:CY (y.me%4294967296-1) ((far%4294967296+W)%4294967296)=decide (y.me-1<far+W):=B8 (Fx (-(y.me/4294967296)) (bC (L1 [] [_,_,_] 0x4022000000007dea841178800000001f610e43dd0439076041 (bf y.me 4294967296)) (L1 [] [_,_,_] 0x412000000007dea86108722e87c400000000fb08720eea041 (bf y.me 4294967296)))) (Fx (-(far/4294967296)-(far%4294967296+W)/4294967296) (Fh (-(far/4294967296)+far/4294967296+(far%4294967296+W)/4294967296) (bC (L1 [] [_,_,_,_,_] 0x200c800000001f7aa104831fb5a2000000007d907ee9000000003ec22d6b4106a041 (bf far 4294967296)) (L1 [] [_,_,_,_,_] 0x208800000001f7aa18424d0c42f6b4400000000fb18bdd2000000007d841ad6a041 (bf far 4294967296))) (L3 [] [_,_,_,_,_,_] 0xa0cc0821268a32000000007dea8410104400000000fbd5082317ba400000000fb0835a066041 (bf far 4294967296) (bf (far%4294967296+W) 4294967296) (dq (far%4294967296+W) (show(4294967296:Int)≠0 by decide))) (L3 [] [_,_,_,_,_,_] 0x2000000007c964410934519000000003ef543080822000000007dea8612000000007c8c5ee9000000003ec20d6a441 (bf far 4294967296) (bf (far%4294967296+W) 4294967296) (bX (far%4294967296+W) (show(0:Int)<4294967296 by decide))))) h1;unfold Sr.rcv Dr.rcv;refine Tb rfl ?_ ?_ rfl rfl rfl rfl rfl ?_
 ·show(if CY (y.me%4294967296-1) _=true then _ else y.me%4294967296)=(if y.me<=far+W then(if W=0 then far+max W 1 else far+W) else y.me)%4294967296;rw[e3];by_cases q:y.me<=far+W
  ·rw[lW (jL (by exact L1 [] [_,_,_] 0x10740810441d0439076441 q)),lW q];by_cases z:W=0
   ·rw[lW z,lW z,z,sN,pc,sN];rfl
   ·rw[jU z,jU z];exact Fx (-(far/4294967296)-(far%4294967296+W)/4294967296) (bC (L2 [] [_,_,_,_,_,_] 0x4a32000000007dea8411174021000000003ef5420907ee9000000003ec41d681906a041 (bf (far%4294967296+W) 4294967296) (bf far 4294967296)) (L2 [] [_,_,_,_,_,_] 0x4ba20c800000001f7aa1840511000000003ef54308324d0c5ee9000000003ec20d6a041 (bf far 4294967296) (bf (far%4294967296+W) 4294967296)))
  ·rw[jU (by simp;exact L1 [] [_,_,_] 0x8342b10421c8ba106a041 q),jU q]
 ·show(if y.mw≠0/\CY (x.me%4294967296) _=true then _ else y.mw)=y.mw+max 0 (seq+n-x.me);rw[e1,e2];by_cases q:x.me<seq+n
  ·rw[lW ⟨h2,jL q⟩];have:=h4 (L2 [] [_,_,_,_] 0x41d0e44100330208c41d741a066041 h5 q);show(y.mw+_-_)%4294967296=_;exact bC (L2 [] [_,_,_,_,_,_] 0x11483d7604129061d6ba0a10441d02041 (show(y.mw+(seq+n)%4294967296-x.me%4294967296)%4294967296=y.mw+seq+n-x.me from Fh (-((seq+n)/4294967296)+x.me/4294967296) (bC (L2 [] [_,_,_,_,_,_,_,_] 0x288e400000000fbd50c241e8262000000007dea84139bda2000000007d948306b5dd0820d76041 (bf (seq+n) 4294967296) (bf x.me 4294967296)) (L2 [] [_,_,_,_,_,_,_,_] 0x19ca400000000fbd508220e8c42000000007dea8613981ae949ed1000000003ec620835aeea041 (bf (seq+n) 4294967296) (bf x.me 4294967296))) (L2 [] [_,_,_,_] 0x41d0e44100330208c4106b5d066041 h5 q) (L1 [] [_,_,_,_] 0x2000000007c8c41d741a9104800000001f231041ad76441 this)) (lX 0 (seq+n-x.me))) (DF 0 (seq+n-x.me) (λu1 v1=>L2 [] [_,_,_,_,_,_] 0x29060d6ba2a184a41eba1a1044106a041 v1 (show(y.mw+(seq+n)%4294967296-x.me%4294967296)%4294967296=y.mw+seq+n-x.me from Fh (-((seq+n)/4294967296)+x.me/4294967296) (bC (L2 [] [_,_,_,_,_,_,_,_] 0x288e400000000fbd50c241e8262000000007dea84139bda2000000007d948306b5dd0820d76041 (bf (seq+n) 4294967296) (bf x.me 4294967296)) (L2 [] [_,_,_,_,_,_,_,_] 0x19ca400000000fbd508220e8c42000000007dea8613981ae949ed1000000003ec620835aeea041 (bf (seq+n) 4294967296) (bf x.me 4294967296))) (L2 [] [_,_,_,_] 0x41d0e44100330208c4106b5d066041 h5 q) (L1 [] [_,_,_,_] 0x2000000007c8c41d741a9104800000001f231041ad76441 this))) (λu1 v1=>L2 [] [_,_,_,_,_,_] 0x646526bb020949a1c8822083500 q u1))
  ·rw[jU (by simp[q])];exact bC (L1 [] [_,_] 0x419810420d02041 (jO 0 (seq+n-x.me))) (DF 0 (seq+n-x.me) (λu1 v1=>L2 [] [_,_,_,_,_] 0x1107ae8684120f42c1040106a041 q v1) (λu1 v1=>L1 [] [_,_] 0x321a1040106a041 v1))
 ·show(if ack%4294967296=y.e%4294967296 then false else y.ua)=(y.ua&&!(ack==y.e));by_cases q:ack=y.e
  ·rw[lW (by rw[q])];simp[q]
  ·rw[jU λe=>q (Wf e h6.1 h6.2)];simp[q]
theorem MH{ack:Int}:∀(A6:List Int)(m0:Int),0<=m0->(∀r∈A6, -2147483648<=r-ack/\r-ack<2147483648)->CD (ack%4294967296) (A6.map (·% 4294967296)) m0=Dw (ack+m0) A6-ack
 |[],m0,_,_=>by show m0=ack+m0-ack;exact bC (L0 [] [_,_] 0x803ae82041) (L0 [] [_,_] 0x8020d76041)
 |r::l,m0,h0,h=>by
  have hr:=h r pg;have ih:=MH (ack:=ack) l;have e:Dw (ack+m0) (r::l)=Dw (max (ack+m0) r) l:=rfl;show CD (ack%4294967296) (l.map (·% 4294967296)) (if (r%4294967296-ack%4294967296)%4294967296<2147483648/\m0<(r%4294967296-ack%4294967296)%4294967296 then(r%4294967296-ack%4294967296)%4294967296 else m0)=_;have e2:(if (r%4294967296-ack%4294967296)%4294967296<2147483648/\m0<(r%4294967296-ack%4294967296)%4294967296 then(r%4294967296-ack%4294967296)%4294967296 else m0)=max m0 (r-ack):=by
   rw[<-sG];by_cases q:0<=r-ack
   ·rw[qq q (qJ hr.2 (by decide))];split<;>rename_i c
    ·exact(qZ (pL c.2)).symm
    ·exact(qp (rK.mp λh=>c ⟨hr.2,h⟩)).symm
   ·have q:=Int.not_le.mp q;rw[MR (sC (by decide) hr.1) q,jU λh=>rK.mpr (rQ hr.1 4294967296) h.1,qp (sC (pL q) h0)]
  rw[e2,e,ih (max m0 (r-ack)) (by exact L2 [] [_,_] 0x1810420cc0820066041 h0 (jO m0 (r-ack))) λx hx=>h x (pt _ hx)]
  congr 2
  exact bC (DF m0 (r-ack) (λu1 v1=>L2 [] [_,_,_,_] 0x10e04100fa1a1044106a041 v1 (lX (ack+m0) r)) (λu1 v1=>L2 [] [_,_,_,_] 0x10c1a810461a1044106a041 v1 (jO (ack+m0) r))) (DF (ack+m0) r (λu1 v1=>L2 [] [_,_,_,_] 0x1047d810460a10441d02041 v1 (lX m0 (r-ack))) (λu1 v1=>L2 [] [_,_,_,_] 0x10e04118740a10441d02041 v1 (jO m0 (r-ack))))
noncomputable def Bk(rows:List (Int×List Int)):List Int:=(rows.map λr=>if r.1=5/\r.2.length%8=0 then Ba r.2 else[]).flatten
theorem E9(ack:Int):∀(rows:List (Int×List Int))(m0:Int),rows.foldl (BO ack) m0=CD ack (Bk rows) m0
 |[],_=>rfl
 |r::l,m0=>by
  rw[su,E9 ack l];show _=CD ack ((if r.1=5/\r.2.length%8=0 then Ba r.2 else[])++Bk l) m0;have e:∀a b m,CD ack (a++b) m=CD ack b (CD ack a m):=λa b m=>by unfold CD;rw[qT]
  rw[e]
  congr 1
  unfold BO;split<;>rfl
theorem Rq{ack:Int}{rows:List (Int×List Int)}{A6:List Int}(he:Bk rows=A6.map (·% 4294967296))(h:∀r∈A6, -2147483648<=r-ack/\r-ack<2147483648):Co (ack%4294967296) rows=Dw ack A6%4294967296:=by unfold Co;rw[E9,he,MH A6 0 (by exact L0 [] [] 419848257) h,pc];exact Fx (-(ack/4294967296)) (bC (L1 [] [_,_,_,_] 0x8032000000007dea8411f8800000001f61d083d06a041 (bf ack 4294967296)) (L1 [] [_,_,_,_] 0xc412000000007dea861183a2d07c400000000fb06a041 (bf ack 4294967296)))
structure DO(x y:Dr)(c:Int):Prop where
 a:x.e<=x.me+31
 b:x.me<=x.e+1073725440+c
 m:1<=x.mw/\x.mw<=1073725440+c
 h:y.hm=true->x.me<=y.ma+1073725440+c/\y.ma<=x.e+c/\x.e<=y.ma+1073725440+c
structure Mv(x y:Dr)(seq ack n far W:Int):Prop where
 s:x.e-40<=seq/\seq<=x.me
 n:0<=n/\n<32
 w:0<=W/\W<=1073725440
 f:y.e-40<=far/\far<=y.e
 k:ack<=far/\far<=ack+40
theorem DO.snd{x y:Dr}{c seq ack n far W:Int}(h0:40<=c)(p:DO x y c)(q:DO y x c)(v:Mv x y seq ack n far W):DO (x.snd seq ack n far W) (y.rcv x seq ack n far W) (c+120):=by
 obtain⟨a,b,m,h⟩:=p;obtain⟨⟨s1,s2⟩,⟨n1,n2⟩,⟨w1,w2⟩,⟨f1,f2⟩,⟨k1,k2⟩⟩:=v;refine⟨?_,?_,?_,λe=>?_⟩
 ·show max x.e (seq+n)<=x.me+31;exact DF x.e (seq+n) (λu0 v0=>L3 [] [_,_,_,_] 0x316814208402c8e44108a041f8721d02041 s2 n2 v0) (λu0 v0=>L2 [] [_,_,_] 0x102841f8721d0a041f8721d02041 a v0)
 ·show x.me<=max x.e (seq+n)+1073725440+(c+120);exact L2 [] [_,_,_,_] 0x470208bfffc0003647ad020411e05916bfffc0003643ad02041 b (jO x.e (seq+n))
 ·show 1<=max x.mw (W+far-ack)/\max x.mw (W+far-ack)<=1073725440+(c+120);exact⟨L2 [] [_,_] 0x6041084398104010e6041 m.1 (jO x.mw (W+far-ack)),DF x.mw (W+far-ack) (λu0 v0=>L4 [] [_,_,_,_,_] 0x418b5d05082140b24d0e041ffff0000d91408210a0598104781643affff0000d9d02041 h0 w2 k2 v0) (λu0 v0=>L2 [] [_,_,_] 0x8142087fffc000367428104781643affff0000d9d02041 m.2 v0)⟩
 ·have:=h e;show x.me<=y.ma+1073725440+(c+120)/\y.ma<=max x.e (seq+n)+(c+120)/\max x.e (seq+n)<=y.ma+1073725440+(c+120);exact⟨L1 [] [_,_,_] 0xbfffc0003643ad020411e05916bfffc0003643ad02041 this.1,⟨L2 [] [_,_,_,_] 0x11c08221e810208f02c8b41d02041 this.2.1 (jO x.e (seq+n)),DF x.e (seq+n) (λu0 v0=>L4 [] [_,_,_,_,_,_] 0x28f40a1045fffe0001b21d6890208402c9644120e0411e05916bfffc0003643ad02041 s2 n2 this.1 v0) (λu0 v0=>L3 [] [_,_,_,_,_] 0xc14208bfffc0003643ad12041f8724d0e0411e05916bfffc0003643ad02041 a this.1 v0)⟩⟩
theorem DO.rcv{x y:Dr}{c seq ack n far W:Int}(h0:40<=c)(p:DO x y c)(q:DO y x c)(v:Mv x y seq ack n far W):DO (y.rcv x seq ack n far W) (x.snd seq ack n far W) (c+120):=by
 obtain⟨a,b,m,h⟩:=q;obtain⟨⟨s1,s2⟩,⟨n1,n2⟩,⟨w1,w2⟩,⟨f1,f2⟩,⟨k1,k2⟩⟩:=v;obtain⟨me,hme,hd⟩:∃me,(if y.me<=far+W then(if W=0 then far+max W 1 else far+W) else y.me)=me/\((y.me<=far+W/\far+W<=me/\me<=far+W+1)\/(far+W<y.me/\me=y.me)):=by
  refine⟨_,rfl,?_⟩;by_cases q:y.me<=far+W
  ·rw[lW q]
   left
   split<;>(first|exact⟨q,⟨L1 [] [_,_,_] 0x1060411034106a041 (jO W 1),DF W 1 (λu0 v0=>L2 [] [_,_,_] 0x4390d08220660410872206b4106a041 w1 v0) (λu0 v0=>L2 [] [_,_,_] 0x410e6041064542084391035a083500 ‹_› u0)⟩⟩|exact⟨q,⟨L0 [] [_,_] 0x834106a041,L0 [] [_,_] 0x872106b4106a041⟩⟩)
  ·rw[jU q]
   right
   exact⟨L1 [] [_,_,_] 0x8342b1044106a441 q,rfl⟩
 refine⟨?_,?_,?_,λ_=>?_⟩
 ·show y.e<=(if y.me<=far+W then(if W=0 then far+max W 1 else far+W) else y.me)+31;rw[hme];exact DF W 1 (λu0 v0=>hd.elim (λo1=>L3 [] [_,_,_,_,_] 0x907a810483d0a041f8722d02041f8721d02041 a o1.1 o1.2.1) (λo1=>L2 [] [_,_,_] 0x106861f8722d02041f8721d02041 a o1.2)) (λu0 v0=>hd.elim (λo1=>L3 [] [_,_,_,_,_] 0x907a810483d0a041f8722d02041f8721d02041 a o1.1 o1.2.1) (λo1=>L2 [] [_,_,_] 0x106861f8722d02041f8721d02041 a o1.2))
 ·show(if y.me<=far+W then(if W=0 then far+max W 1 else far+W) else y.me)<=y.e+1073725440+(c+120);rw[hme];exact DF W 1 (λu0 v0=>hd.elim (λo1=>L4 [] [_,_,_,_,_] 0x872326b408104248107fffc000364702088281660411e05916bfffc0003643ad02041 h0 w2 f2 o1.2.2) (λo1=>L2 [] [_,_,_,_] 0xc14208bfffc0003643ad0e0411e05916bfffc0003643ad02041 b o1.2)) (λu0 v0=>hd.elim (λo1=>L4 [] [_,_,_,_,_] 0x872326b408104248107fffc000364702088281660411e05916bfffc0003643ad02041 h0 w2 f2 o1.2.2) (λo1=>L2 [] [_,_,_,_] 0xc14208bfffc0003643ad0e0411e05916bfffc0003643ad02041 b o1.2))
 ·show 1<=y.mw+max 0 (seq+n-x.me)/\y.mw+max 0 (seq+n-x.me)<=1073725440+(c+120);exact⟨L2 [] [_,_] 0x4198104010e6041083410e6041 m.1 (jO 0 (seq+n-x.me)),DF 0 (seq+n-x.me) (λu0 v0=>L4 [] [_,_,_,_,_,_] 0x2147ae86841080592c88241c0822ffff0000d9d020411e05916bfffc0003674106a041 m.2 s2 n2 v0) (λu0 v0=>L2 [] [_,_,_] 0x190d0822ffff0000d9d020411e05916bfffc0003674106a041 m.2 v0)⟩
 ·obtain⟨ma,hma,Dj,De⟩:∃ma,(if x.hm then max x.ma ack else ack)=ma/\ack<=ma/\((x.hm=true/\x.ma<=ma/\(ma=x.ma\/ma=ack))\/ma=ack):=by
   refine⟨_,rfl,?_⟩;cases hh:x.hm with
   |false=>exact⟨rC _,.inr rfl⟩
   |true=>rw[lW rfl];exact⟨by exact L1 [] [_,_] 0x82041082041 (lX x.ma ack),.inl ⟨rfl,by exact L1 [] [_,_] 0x82041082041 (jO x.ma ack),nG _ _⟩⟩
  show(if y.me<=far+W then(if W=0 then far+max W 1 else far+W) else y.me)<=(if x.hm then max x.ma ack else ack)+1073725440+(c+120)/\(if x.hm then max x.ma ack else ack)<=y.e+(c+120)/\y.e<=(if x.hm then max x.ma ack else ack)+1073725440+(c+120);rw[hme,hma];rcases De with ⟨hh,De,hm3⟩|De
  ·have:=h hh;exact⟨DF W 1 (λu0 v0=>hd.elim (λo1=>L5 [] [_,_,_,_,_,_] rb h0 w2 k2 Dj o1.2.2) (λo1=>L5 [] [_,_,_,_,_,_,_] rc b f1 k2 Dj o1.2)) (λu0 v0=>hd.elim (λo1=>L5 [] [_,_,_,_,_,_] rb h0 w2 k2 Dj o1.2.2) (λo1=>L5 [] [_,_,_,_,_,_,_] rc b f1 k2 Dj o1.2)),⟨DF W 1 (λu0 v0=>hd.elim (λo1=>hm3.elim (λo2=>L2 [] [_,_,_,_] 0x30508220e870208f02c8b41d02041 this.2.1 o2) (λo2=>L4 [] [_,_,_,_,_] ra h0 f2 k1 o2)) (λo1=>hm3.elim (λo2=>L2 [] [_,_,_,_] 0x30508220e870208f02c8b41d02041 this.2.1 o2) (λo2=>L4 [] [_,_,_,_,_] ra h0 f2 k1 o2))) (λu0 v0=>hd.elim (λo1=>hm3.elim (λo2=>L2 [] [_,_,_,_] 0x30508220e870208f02c8b41d02041 this.2.1 o2) (λo2=>L4 [] [_,_,_,_,_] ra h0 f2 k1 o2)) (λo1=>hm3.elim (λo2=>L2 [] [_,_,_,_] 0x30508220e870208f02c8b41d02041 this.2.1 o2) (λo2=>L4 [] [_,_,_,_,_] ra h0 f2 k1 o2))),L4 [] [_,_,_,_,_] 0x124082140b24d0e04118502c83b02088281660411e05916bfffc0003643ad02041 h0 f1 k2 Dj⟩⟩
  ·exact⟨DF W 1 (λu0 v0=>hd.elim (λo1=>L5 [] [_,_,_,_,_,_] rb h0 w2 k2 Dj o1.2.2) (λo1=>L5 [] [_,_,_,_,_,_,_] rc b f1 k2 Dj o1.2)) (λu0 v0=>hd.elim (λo1=>L5 [] [_,_,_,_,_,_] rb h0 w2 k2 Dj o1.2.2) (λo1=>L5 [] [_,_,_,_,_,_,_] rc b f1 k2 Dj o1.2)),⟨L4 [] [_,_,_,_,_] ra h0 f2 k1 De,L4 [] [_,_,_,_,_] 0x124082140b24d0e04118502c83b02088281660411e05916bfffc0003643ad02041 h0 f1 k2 Dj⟩⟩
structure Tn(x y:Dr)(seq ack n far W:Int):Prop where
 s:x.e-40<=seq/\seq<=x.me+40
 n:0<=n/\n<32
 w:0<=W/\W<=1073725440
 f:y.e-40<=far/\far<=y.e+40
 k:ack<=far/\far<=ack+40
theorem Tn.mv{x y:Dr}{seq ack n far W:Int}(v:Tn x y seq ack n far W)(h1:seq<=x.me)(h2:far<=y.e):Mv x y seq ack n far W:=⟨⟨v.s.1,h1⟩,v.n,v.w,⟨v.f.1,h2⟩,v.k⟩
theorem Tn.within{x y:Dr}{c seq ack n far W:Int}(h0:0<=c/\c<=10000)(p:DO x y c)(q:DO y x c)(v:Tn x y seq ack n far W):
  Bh x.sr.e x.sr.me x.sr.mw y.sr.e y.sr.mw (seq%4294967296) (AO 16 (seq%4294967296) n) (far%4294967296)=(decide (seq<=x.me)&&decide (x.e-y.mw<=seq+n)&&decide (far<=y.e)&&decide (y.e-max x.mw 66000<=far)):=by
 obtain⟨a,b,m,h⟩:=p;obtain⟨a',b',m',h'⟩:=q;obtain⟨⟨s1,s2⟩,⟨n1,n2⟩,⟨w1,w2⟩,⟨f1,f2⟩,⟨k1,k2⟩⟩:=v;exact Nj (e:=x.e) (me:=x.me) (mw:=x.mw) (e2:=y.e) (mw2:=y.mw) (seq:=seq) (n:=n) (far:=far) (λe0=>L2 [] [_] 0x6414208021cc083e0 m'.1 e0) (⟨L3 [] [_,_,_,_] 0x281647d81045fffe0001b23d683020a7101e4502084390e81d1000000007cfa041 h0.2 b s1,L1 [] [_,_] 0x502c87408104400000001f210e43a076441 s2⟩) (⟨L5 [] [_,_,_,_,_,_] 0x402c8e4410a0592e8502093fffc0003674181049fffe0001b20d68b020a7101e490408c5a08721077bd1000000007cfa041 h0.2 b m'.2 s2 n2,L3 [] [_,_,_,_] 0x60cc08220a059076041084398104400000001f2316821c841def6441 m'.1 s1 n1⟩) (⟨L1 [] [_,_] 0x502c87b02084390e81d1000000007cfa041 f1,L1 [] [_,_] 0x502c87408104400000001f210e43a076441 f2⟩) (⟨DF x.mw 66000 (λu0 v0=>L2 [] [_,_,_] 0x80e81321a104281641a14082208721077bd1000000007cfa041 f2 v0) (λu0 v0=>L4 [] [_,_,_,_,_] 0x1034208502c834281047fffe0001b3a240829c40791c082208721077bd1000000007cfa041 h0.2 m.2 f2 v0),L3 [] [_,_,_,_] 0x4702088281641d8104610e60411000000007c8821c841def6441 m.1 f1 (jO x.mw 66000)⟩)
theorem Mv.snd{x y:Dr}{c seq ack n far W:Int}(h0:0<=c/\c<=10000)(p:DO x y c)(q:DO y x c)(v:Mv x y seq ack n far W):
  x.sr.snd (AO 16 (seq%4294967296) n) (ack%4294967296) ((W+far%4294967296-ack%4294967296)%4294967296)=(x.snd seq ack n far W).sr:=by
 obtain⟨a,b,m,h⟩:=p;obtain⟨a',b',m',h'⟩:=q;obtain⟨⟨s1,s2⟩,⟨n1,n2⟩,⟨w1,w2⟩,⟨f1,f2⟩,⟨k1,k2⟩⟩:=v;exact UU (x:=x) (seq:=seq) (ack:=ack) (n:=n) (far:=far) (W:=W) (⟨L4 [] [_,_,_,_,_] 0x402c8a4412060411ffff80006c835a240829c40791c08220e81d1000000007cfa041 h0.2 b s2 n2,L2 [] [_,_,_] 0x40cc08210a0590760411000000007c883a076441 s1 n1⟩) (λe=>by have:=h' e;exact⟨L5 [] [_,_,_,_,_,_] 0x5fffe0001b20d6890209430208cb020fc392687020a7101e45020841d1000000007cfa041 h0.2 a' f2 k1 this.1,L4 [] [_,_,_,_,_] 0x43d020410a0590e8902090281647d81053880f228104400000001f21076441 h0.2 f1 k2 this.2.1⟩) (⟨L2 [] [_,_,_] 0x22810400cc08220835d066041 w1 k1,L2 [] [_,_,_] 0xa0591683020ffff80006c820412000000007c8820d76441 w2 k2⟩)
theorem Mv.rcv{x y:Dr}{c seq ack n far W:Int}(h0:0<=c/\c<=10000)(p:DO x y c)(q:DO y x c)(v:Mv x y seq ack n far W):
  y.sr.rcv x.sr.me (AO 16 (seq%4294967296) n) (ack%4294967296) ((far%4294967296+W)%4294967296) W=(y.rcv x seq ack n far W).sr:=by
 obtain⟨a,b,m,h⟩:=p;obtain⟨a',b',m',h'⟩:=q;obtain⟨⟨s1,s2⟩,⟨n1,n2⟩,⟨w1,w2⟩,⟨f1,f2⟩,⟨k1,k2⟩⟩:=v;exact Vg (x:=x) (y:=y) (seq:=seq) (ack:=ack) (n:=n) (far:=far) (W:=W) (⟨L3 [] [_,_,_,_] 0x186041ffff0000d914083f0e41a1c08220e821c83bd1000000007cfa041 a' w2 f2,L4 [] [_,_,_,_,_] 0x10a05927604110330208ffffc0003649ad020414e203c8e0411000000007c883a08720ef6441 h0.2 b' w1 f1⟩) (λe0=>L2 [] [_] 0x6414208021cc083e0 m'.1 e0) (⟨L2 [] [_,_,_] 0x80591488200c08220e81d1000000007cfa041 s2 n2,L4 [] [_,_,_,_,_] 0x206604108502c93b0208ffffc0003649ad020414e203c8e0411000000007c883a076441 h0.2 b s1 n1⟩) (λe0=>L4 [] [_,_,_,_,_] 0x2016452208c302093fffc0003674081053880f248104800000001f231075d06a441 h0.2 m'.2 s2 n2) (L1 [] [_] 0x21cc0820066041 m'.1) (⟨L2 [] [_,_,_] 0x140b20d0a04110502c87b020841d2000000007cfa441 f1 k2,L2 [] [_,_,_] 0x408104228104800000001f21076441 f2 k1⟩)
theorem DO.init{e0 e1 w0 w1 ma0 s0 s1:Int}{i0 k0 u0 i1 k1 u1:Bool}(h0:0<=w0/\w0<65536)(h1:0<=w1/\w1<65536):
  DO ⟨e0,e0+max w1 1,max w0 1,ma0,s0,i0,k0,false,u0⟩ ⟨e1,e1,max w1 1,e0,s1,i1,k1,true,u1⟩ 40/\DO ⟨e1,e1,max w1 1,e0,s1,i1,k1,true,u1⟩ ⟨e0,e0+max w1 1,max w0 1,ma0,s0,i0,k0,false,u0⟩ 40:=by
 refine⟨⟨?_,?_,?_,λ_=>?_⟩,⟨?_,?_,?_,λe=>?_⟩⟩
 ·show e0<=e0+max w1 1+31;exact L2 [] [_,_,_] 0x4502088198107e1c841ad02041 h1.1 (jO w1 1)
 ·show e0+max w1 1<=e0+1073725440+40;exact DF w1 1 (λu0 v0=>L1 [] [_,_] 0x21c868410a059ffff0000d906b4106a041 v0) (λu0 v0=>L2 [] [_,_,_] 0x20d082200004c8a4410a059ffff0000d906b4106a041 h1.2 v0)
 ·show 1<=max w0 1/\max w0 1<=1073725440+40;exact⟨L1 [] [_] 0x4398104010e6041 (lX w0 1),DF w0 1 (λu0 v0=>L1 [] [_] 0x10e41420ffff80506c82041 v0) (λu0 v0=>L2 [] [_,_] 0x82841100002643220ffff80506c82041 h0.2 v0)⟩
 ·show e0+max w1 1<=e0+1073725440+40/\e0<=e0+40/\e0<=e0+1073725440+40;exact⟨DF w1 1 (λu0 v0=>L1 [] [_,_] 0x21c868410a059ffff0000d906b4106a041 v0) (λu0 v0=>L2 [] [_,_,_] 0x20d082200004c8a4410a059ffff0000d906b4106a041 h1.2 v0),⟨L0 [] [_] 0x140b20d02041,L0 [] [_] 0x28167fffc0003641ad02041⟩⟩
 ·show e1<=e1+31;exact L0 [] [_] 0xf8720d02041
 ·show e1<=e1+1073725440+40;exact L0 [] [_] 0x28167fffc0003641ad02041
 ·show 1<=max w1 1/\max w1 1<=1073725440+40;exact⟨L1 [] [_] 0x4398104010e6041 (lX w1 1),DF w1 1 (λu0 v0=>L1 [] [_] 0x10e41420ffff80506c82041 v0) (λu0 v0=>L2 [] [_,_] 0x82841100002643220ffff80506c82041 h1.2 v0)⟩
 ·exact absurd e pJ
noncomputable def Bn(T:List Int):List Int:=(T.map λr=>B7 (r-8)++B7 r).flatten
theorem Cm(T:List Int):(Bn T).length=8*T.length:=by
 induction T with
 |nil=>rfl
 |cons r T ih=>have e:Bn (r::T)=B7 (r-8)++B7 r++Bn T:=rfl;rw[e,cW,ih,jK];show 8+_=_;exact gH (L0 [_] [] 0x21c83480ec080ed01ce8041) (L0 [_] [] 0x80ed01ce821c83480ec041)
theorem JV(a dt:List Int)(ha:a.length=8):Ba (a++dt)=num ((a.drop 4).take 4)::Ba dt:=by
 unfold Ba;have e:(a++dt).length/8=dt.length/8+1:=by rw[cW,ha,Nat.add_comm];exact Nat.add_div_right _ (by decide)
 rw[e,List.range_succ_eq_map,ik,qi]
 congr 1
 ·rw[Nat.mul_zero,Nat.zero_add,List.drop_append_of_le_length (by exact L1 [_] [] 0x407202184040e4041 ha),List.take_append_of_le_length (by rw[qF];exact L2 [_,_] [] 0x9039068861407212184040e4041 ha (jT (show 4<=a.length from L1 [_] [] 0x407202184040e4041 ha)))]
 ·refine sx λj _=>?_;show num (((a++dt).drop (8*(j+1)+4)).take 4)=_;rw[show 8*(j+1)+4=a.length+(8*j+4) by exact gH (L1 [_,_] [] 0x101c84861207204077a0e881c843906901de8041 ha) (L1 [_,_] [] 0x101c80841207210e43a4077a207214077a068041 ha),<-List.drop_drop,List.drop_left]
theorem Lu(T:List Int):Ba (Bn T)=T.map (·% 4294967296):=by
 induction T with
 |nil=>rfl
 |cons r T ih=>
  have e:Bn (r::T)=(B7 (r-8)++B7 r)++Bn T:=rfl;rw[e,JV _ _ rfl,ih,ik]
  congr 1
  exact Gc r
theorem NP(T:List Int):AY (Bn T):=by
 induction T with
 |nil=>exact AY.nil
 |cons r T ih=>exact AY.app (AY.app (Ey _) (Ey _)) ih
def Kj(ack edge r:Int):Prop:=r=edge\/r=edge-8\/r=ack+1\/r=ack-5\/r=ack\/r=edge+1
structure LQ(ack edge:Int)(l R:List Int)(wh:Bool):Prop where
 rd:∃DD:List (Int×List Int),((wh=true/\∀r rows b,PO r rows b->PO (l++r) (DD++rows) b)\/(wh=false/\∀r:List Int,l.length+r.length<=57->PO (l++r) DD false))/\Bk DD=R.map (·% 4294967296)
 oct:AY l
 sp:∀r∈R,Kj ack edge r
 len:l.length<=40
 rl:R.length<=100
theorem Fi(a b:List (Int×List Int)):Bk (a++b)=Bk a++Bk b:=by unfold Bk;rw[jJ,List.flatten_append]
section
variable{ack edge:Int}{l R row T:List Int}{wh:Bool}
theorem LQ.start:LQ ack edge [] [] true:=⟨⟨[],.inl ⟨rfl,λ_ _ _ h=>h⟩,rfl⟩,AY.nil,λ_ h=>(nomatch h),qH _,qH _⟩
theorem LQ.add(h:LQ ack edge l R wh)(hl:l.length+row.length<=40)(b4:Int×List Int)(hr:∀r rows b,PO r rows b->PO (row++r) (b4::rows) b)(he:Bk [b4]=T.map (·% 4294967296))(ho:AY row)(hT:∀r∈T,Kj ack edge r)(cH:R.length+T.length<=100):LQ ack edge (l++row) (R++if wh then T else[]) wh:=by
 obtain⟨⟨DD,hw,e⟩,oct,sp,len,rl⟩:=h;rcases hw with ⟨rfl,hp⟩|⟨rfl,hp⟩
 ·refine⟨⟨DD++[b4],.inl ⟨rfl,λr rows b h=>?_⟩,?_⟩,AY.app oct ho,λr hr=>?_,by rw[cW];exact hl,by rw[lW rfl,cW];exact cH⟩
  ·rw[bF,bF];exact hp _ _ _ (hr r rows b h)
  ·rw[Fi,e,he,lW rfl,jJ]
  ·rw[lW rfl] at hr;exact(lZ.mp hr).elim (sp r) (hT r)
 ·refine⟨⟨DD,.inr ⟨rfl,λr hr=>?_⟩,?_⟩,AY.app oct ho,λr hr=>?_,by rw[cW];exact hl,?_⟩
  ·rw[bF];exact hp _ (by rw[cW] at hr⊢;exact L1 [_,_,_] [] 0x391644106b40208722c883a068041 hr)
  ·rw[e,jU (by decide),bE]
  ·rw[jU (by decide),bE] at hr;exact sp r hr
  ·rw[jU (by decide),bE];exact rl
theorem LQ.sack(h:LQ ack edge l R wh)(hT:∀r∈T,Kj ack edge r)(hl:l.length+(2+8*T.length)<=40)(cH:R.length+T.length<=100):LQ ack edge (l++(5::(2+8*(T.length:Int))::Bn T)) (R++if wh then T else[]) wh:=by refine h.add (row:=5::(2+8*(T.length:Int))::Bn T) (by simp only[jK,Cm];exact L1 [_,_] [] 0xa0590a03b1073a0680410a059087210e4280ef5a068041 hl) (5,Bn T) (λr rows b hp=>PO.row (dt:=Bn T) (by decide) (by decide) (by rw[Cm];push_cast;exact bC (L0 [_] [] 0x10720fa03bd03e80ec41cea041) (L0 [_] [] 0x7d01d8839d083907d01dea041)) hp) ?_ (AY.cons (by decide) (AY.cons (⟨L0 [_] [] 0xfa03b1073a066041,L1 [_,_] [] 0x502c8101d8839d074020a002c83e80ec41cea441 hl⟩) (NP T))) hT cH;show((if (5:Int)=5/\(Bn T).length%8=0 then Ba (Bn T) else[])++[])=_;rw[lW ⟨rfl,by rw[Cm];exact Nat.mul_mod_right 8 _⟩,bE,Lu]
theorem LQ.nop(h:LQ ack edge l R wh)(hl:l.length+1<=40):LQ ack edge (l++[1]) R wh:=by have:=h.add (row:=[1]) (T:=[]) hl (1,[]) (λr rows b hp=>PO.nop hp) rfl (by unfold AY;decide) (λ_ h=>nomatch h) (by have:=h.rl;simpa using this);simpa using this
theorem LQ.odd(h:LQ ack edge l R wh)(hl:l.length+7<=40):LQ ack edge (l++[5,7,255,255,255,255,0]) R wh:=by have:=h.add (row:=[5,7,255,255,255,255,0]) (T:=[]) hl (5,[255,255,255,255,0]) (λr rows b hp=>PO.row (dt:=[255,255,255,255,0]) (by decide) (by decide) rfl hp) rfl (by unfold AY;decide) (λ_ h=>nomatch h) (by have:=h.rl;simpa using this);simpa using this
theorem LQ.cut(h:LQ ack edge l R wh)(hl:l.length+2<=40):LQ ack edge (l++[9,60]) R false:=by
 obtain⟨⟨DD,hw,e⟩,oct,sp,len,rl⟩:=h;refine⟨⟨DD,.inr ⟨rfl,λr hr=>?_⟩,e⟩,AY.app oct (by unfold AY;decide),sp,by rw[cW];exact hl,rl⟩;rw[cW] at hr;rw[bF];rcases hw with ⟨rfl,hp⟩|⟨rfl,hp⟩
 ·have q:=hp (9::60::r) [] false (.short (by decide) (by decide) (.inr (by simp at hr⊢;exact L1 [_,_] [] 0x1c8b2010721d680410f05910720fea441 hr)));rwa[bE] at q
 ·exact hp _ (by simp at hr⊢;exact L1 [_,_] [] 0x39164220e41ad00821c8b210e421c875a068041 hr)
theorem LQ.fin(h:LQ ack edge l R wh):∃rows b,PO (l++List.replicate (A4 l.length) 1) rows b/\Bk rows=R.map (·% 4294967296)/\AY (l++List.replicate (A4 l.length) 1)/\(l++List.replicate (A4 l.length) 1).length%4=0/\(l++List.replicate (A4 l.length) 1).length<=40:=by
 obtain⟨⟨DD,hw,e⟩,oct,sp,len,rl⟩:=h;have hn:A4 l.length<=3:=by unfold A4;exact L1 [_] [] 0x20720110461c80041 (s8 (4-l.length%4) (show 0<4 by decide))
 have Ac:(l++List.replicate (A4 l.length) (1:Int)).length=l.length+A4 l.length:=by rw[cW,qR]
 have h4:=HR l.length;have Nc:AY (l++List.replicate (A4 l.length) 1):=AY.app oct λb hb=>by rw[qx hb];decide
 have Ix:=Po len;rw[Ac];rcases hw with ⟨_,hp⟩|⟨_,hp⟩
 ·refine⟨_,_,hp _ _ _ (PO.ones _),?_,Nc,h4,Ix⟩;rw[Fi,e];have:∀n,Bk (List.replicate n (1,[]))=[]:=λn=>by
   induction n with
   |zero=>rfl
   |succ n ih=>rw[qz];show([]++Bk _)=_;rw[ih];rfl
  rw[this,bE]
 ·exact⟨DD,false,hp _ (by rw[qR];exact L2 [_,_] [] 0x61c840410a059000821c8b21068041 len hn),e,Nc,h4,Ix⟩
end
noncomputable abbrev m7:Scope:=⟨.function,[(".0",.local),("k",.local),("_law_digit",.globalImplicit),("bag",.free),("spots",.free)],false,false,[]⟩
structure LO where
 o:Nat
 q:Nat
 l:List Int
 R:List Int
 rows:List (Int×List Int)
 pb:Bool
 x:Int
structure LS where
 p:Nat
 q:Nat
 l:List Int
 R:List Int
 wh:Bool
 bx:Int
 u:Option V
 w1:Option V
 w2:Option V
 w3:Option V
 w4:Option V
 w5:Option V
structure LT where
 t:Nat
 r:Nat
 T:List Int
 row:List Int
 bx:Int
 u:Option V
 w5:Option V
abbrev WM(ack edge:Int)(s:LO):Prop:=PO s.l s.rows s.pb/\Bk s.rows=s.R.map (·% 4294967296)/\(∀r∈s.R,Kj ack edge r)/\AY s.l/\s.l.length%4=0/\s.l.length<=40/\s.R.length<=100
noncomputable abbrev gr(s:LO):V:=.tup [.ref s.o,.ref s.q]
noncomputable abbrev gt(s:LO):AW:=[(s.o,.list (s.l.map .int)),(s.q,.list (s.R.map .int))]
noncomputable abbrev Mc(b:Nat)(s:LO):AW:=[(b,.list [.int s.x])]
noncomputable abbrev fL(b0 n:Nat):Fn:=EH.wc [("spots",b0+1),("bag",b0)] [("bag",n),("spots",n+1)]
noncomputable abbrev fC(b0 n L:Nat):Fn:=(fL b0 n).comp m7 [("spots",b0+1),("bag",b0)] ["k"] [("_law_digit",.imm (.ref 722))] [("bag",n),("spots",n+1)] L
section
variable{g:Gl}(E:AM g){d b b0 n:Nat}{x ack edge:Int}
include E
theorem Tm:BV g (fL b0 n):=(Ho E).wc _ _
theorem Y0(L:Addr):BV g (fC b0 n L):=⟨rfl,Er (by kernel_rfl),(show(["k"]:List Str).Nodup by decide),Et E (by kernel_rfl)⟩
theorem Lh(m:Mx ⟨g,fL b0 n,d+1,Tm E⟩)(hn:m.os0.length<=n)(fin:G0 m (FI m.os0 (WM ack edge) gr gt (Mc b))):
  Sm m ⟨.xs (fB (st 117)),[],[some (.int ack),some (.int edge),none,none,none,none,none,none,none,none],[⟨n+1,.cell none,true⟩,⟨n,.cell (some (.ref b)),true⟩,⟨b,.list [.int x],true⟩]⟩:=by
 have h2:(0:Int)<2/\(2:Int)<1073741824:=by decide
 have h3:(0:Int)<3/\(3:Int)<1073741824:=by decide
 have h4:(0:Int)<4/\(4:Int)<1073741824:=by decide
 have h6:(0:Int)<6/\(6:Int)<1073741824:=by decide
 have cb:Iu (fL b0 n) "bag":=⟨by kernel_rfl,by decide⟩;have cs:Iu (fL b0 n) "spots":=⟨by kernel_rfl,by decide⟩;have nd:((fL b0 n).cix.map (·.1)).Nodup:=(show(["bag","spots"]:List Str).Nodup by decide);have hN:=dS (n:=x%3) (N:=(x%3).toNat) (bC (L1 [_] [_] 0xfd0c20f82041 (bD (show 0<=x%3 from L1 [] [_] kf (dq x (show(3:Int)≠0 by decide))))) (L1 [_] [_] 0xfd082007e041 (bD (show 0<=x%3 from L1 [] [_] kf (dq x (show(3:Int)≠0 by decide)))))) (L2 [_] [_] 0x30e41220801fa10481c80041 (bD (show 0<=x%3 from L1 [] [_] kf (dq x (show(3:Int)≠0 by decide)))) (bX x (show(0:Int)<3 by decide)));refine g1 2 (λ_ a=>a (λ_=>rfl)) ?_;intro;refine nL _ rfl (λp0 lG=>?_);refine g0 0 ?_;intro;refine nL _ rfl (λq0 lE=>?_);refine g1 0x12e30b043105 (λ_ a=>a (cb)) ?_;intro;refine Ai (AC (x:=x) E h3) [4] [4] rfl rfl ?_;refine g0 0 ?_;intro;refine fO (n:=x%3) (α:=LS) (x%3).toNat (λj y=>m.os0.length<=y.p/\m.os0.length<=y.q/\LQ ack edge y.l y.R y.wh/\y.R.length<=4*j) (λj y=>[some (.int ack),some (.int edge),some (.ref y.p),some (.ref y.q),some (.bool y.wh),y.w1,y.w2,y.w3,y.w4,y.w5]) (λj y=>[⟨y.p,.list (y.l.map .int),true⟩,⟨y.q,.list (y.R.map .int),true⟩,⟨n+1,.cell y.u,true⟩,⟨n,.cell (some (.ref b)),true⟩,⟨b,.list [.int y.bx],true⟩]) ⟨p0,q0,[],[],true,x/3,none,none,none,none,none,none⟩ [1,0,2,3,4] rfl ⟨lG.1,lE.1,LQ.start,qH _⟩ rfl (by kernel_rfl) hN.1 hN.2 (λj y hj hy Q next=>?_) (λy hy=>?_)
 ·obtain⟨w,hw,hw0,hw6⟩:∃w,y.bx%6=w/\0<=w/\w<6:=⟨_,rfl,QT _ (by decide)⟩;have HJ:=hy.2.2.1.len;have hR:=hy.2.2.1.rl;refine g1 0x4b8c086 (λ_ a=>a (cb) (λ_=>rfl)) ?_;intro;refine Ai (MY (x:=y.bx) (v:=w) E h6 hw) [4] [4] rfl rfl ?_;refine g0 0 ?_;intro;refine nL _ rfl (λt0 pW=>?_);refine g0 0x71c8 ?_;intro;refine jC (β:=LT) (λz=>z.row.length<=34/\z.T.length<=4/\(y.l.length+z.row.length<=40->LQ ack edge (y.l++z.row) (y.R++if y.wh then z.T else[]) (y.wh&&!(w==4)))) (λz=>[some (.int ack),some (.int edge),some (.ref y.p),some (.ref y.q),some (.bool y.wh),some (.int (0+j*1)),some (.int w),some (.ref z.t),some (.ref z.r),z.w5]) (λz=>[⟨z.r,.list (z.row.map .int),true⟩,⟨z.t,.list (z.T.map .int),true⟩,⟨y.p,.list (y.l.map .int),true⟩,⟨y.q,.list (y.R.map .int),true⟩,⟨n+1,.cell z.u,true⟩,⟨n,.cell (some (.ref b)),true⟩,⟨b,.list [.int z.bx],true⟩]) (by kernel_rfl) (λm' E'=>wB _ rfl (λq=>?_) (λq=>?_)) (λz hz=>?_)
  ·have ci:w<3:=dv q;obtain⟨mm,hmm,FR,hm4⟩:∃v,y.bx/6%4=v/\0<=v/\v<4:=⟨_,rfl,QT _ (by decide)⟩;have hE:(1+mm).toNat<=4:=Int.toNat_le.mpr (show 1+mm<=1+3 from Int.add_le_add_left (Int.le_of_lt_add_one hm4) 1);have hM:=dS (n:=1+mm) (N:=(1+mm).toNat) (bD (Int.add_nonneg (by decide) FR)).symm hE;refine g1 0x102081041082081 (λ_ a=>a (nd) (cb)) ?_;intro;refine cO (α:=List Int×Int) (n0:=1+mm) (1+mm).toNat (λk z=>z.1.length=k/\k<=4/\∀r∈z.1,Kj ack edge r) (λ_ z=>z.1.map .int) (λ_ z=>[⟨y.p,.list (y.l.map .int),true⟩,⟨y.q,.list (y.R.map .int),true⟩,⟨n+1,.cell (some (.tup [.int edge,.int (edge-8),.int (ack+1),.int (ack-5),.int ack,.int (edge+1)])),true⟩,⟨n,.cell (some (.ref b)),true⟩,⟨b,.list [.int z.2],true⟩]) ([],y.bx/6/4) [1,2,3,4,5] rfl (Y0 E) rfl (by with_unfolding_all (intro _;rfl)) (by with_unfolding_all (intro _;rfl)) (by decide) rfl (by decide) ?_ rfl rfl hM.1 hM.2 (λb8 XC=>?_) (λb8 XC=>?_) ⟨rfl,qH _,λ_ h=>nomatch h⟩ rfl (λk z h=>by rw[gI];exact L2 [_,_] [] 0x103908082101083e84804c80041 h.1 h.2.1) (λta L k z cj kU hz b8 ho XC=>?_) (λta z cj hz=>?_)
   ·intro z hz;refine⟨hz,?_⟩;rcases cS.mp hz with rfl|hz
    ·rfl
    ·rw[jV.mp hz]
   ·refine g0 11 ?_;intro;exact eV (XC _ rfl)
   ·refine g1 0x5b8c (λ_ a=>a (cb)) ?_;intro;refine Ai (MY (x:=y.bx/6) (v:=mm) E h4 hmm) [5] [5] rfl rfl ?_;refine g0 0 ?_;intro;exact eV (XC _ _ (by kernel_rfl) rfl)
   ·have cb:Iu (fC b0 n L) "bag":=⟨by kernel_rfl,by decide⟩;have cs:Iu (fC b0 n L) "spots":=⟨by kernel_rfl,by decide⟩;obtain⟨v,hv,gW,hv6⟩:∃v,z.2%6=v/\0<=v/\v<6:=⟨_,rfl,QT _ (by decide)⟩;obtain⟨a,ha,has⟩:=ix (P:=Kj ack edge) [edge,edge-8,ack+1,ack-5,ack,edge+1] (by intro a ha;simp only[cS,rp,or_false] at ha;exact ha) gW hv6;refine g1 0x5b8212f (λ_ a=>a (cb) (cb)) ?_;intro;refine Ai (MY (x:=z.2) (v:=v) E h6 hv) [5] [5] rfl rfl ?_;refine g0 0 ?_;intro;refine sT rfl gW (L1 [] [_] 0x183904883e84804c82441 hv6) ha ?_;skip;exact eV (XC (z.1++[a],z.2/6) (.int a) [0,1,2,3,4,5] _ ⟨by rw[cW,hz.1];rfl,mi kU hE,λr hr=>(lZ.mp hr).elim (hz.2.2 r) λhr=>jV.mp hr▸has⟩ (by rw[jJ];rfl) (by kernel_rfl))
   ·have e1:(z.1.map V.int).length=z.1.length:=gI _;have bj:z.1.length<=4:=by have:=hz.1;have:=hz.2.1;exact L2 [_,_] [] 0x20721010420210481c80041 hz.1 hz.2.1
    refine g0 0x20d548 ?_;intro;refine PG 0 rfl (L3 [_,_,_] [] 0x40420903910082209083e84804c80041 hz.1 hz.2.1 e1) ?_;refine g1 0 (λ_ a=>a (Bi (L0 [] [] 0x800000000000000037280e4441))) ?_;intro;refine nL _ rfl (λr0 pZ=>?_);refine g0 0x8089 ?_;intro;refine oq (vs:=z.1.map .int) 1 (α:=Nat×Option V) (λ_ _=>True) (λ_ o=>[some (.int ack),some (.int edge),some (.ref y.p),some (.ref y.q),some (.bool y.wh),some (.int (0+j*1)),some (.int w),some (.ref ta),some (.ref o.1),o.2]) (λk o=>[⟨o.1,.list ((5::(2+8*(z.1.length:Int))::Bn (z.1.take k)).map .int),true⟩,⟨ta,.list (z.1.map .int),true⟩,⟨y.p,.list (y.l.map .int),true⟩,⟨y.q,.list (y.R.map .int),true⟩,⟨n+1,.cell (some (.tup [.int edge,.int (edge-8),.int (ack+1),.int (ack-5),.int ack,.int (edge+1)])),true⟩,⟨n,.cell (some (.ref b)),true⟩,⟨b,.list [.int z.2],true⟩]) (r0,y.w5) [0,1,2,3,4,5,6] rfl (λk o=>⟨true,rfl⟩) trivial rfl ?_ (λk u o hu _ Q next=>?_) (λo _=>?_)
    ·show E2 [0,1,2,3,4,5,6] (⟨r0,.list [.int 5,.int (2+8*((z.1.map V.int).length:Int))],true⟩::_) _;rw[e1];rfl
    ·obtain⟨a,ha,rfl⟩:∃a,z.1[k]? =some a/\u=.int a:=by
      rw[oV] at hu;cases h:z.1[k]? with
      |none=>rw[h] at hu;cases hu
      |some a=>rw[h] at hu;exact⟨a,rfl,(bg hu).symm⟩
     have Ac:(Bn (z.1.take k)).length<=32:=by rw[Cm,qE];exact Nat.mul_le_mul_left 8 (mi (sY ..) bj)
     have bq:((5::(2+8*(z.1.length:Int))::Bn (z.1.take k)).map V.int).length<=34:=by rw[gI];simp only[jK];exact L1 [_] [] 0x2016400208442c843908720d68041 Ac
     refine g0 0xa38954a ?_;intro;refine A3 (B2 (d:=d) (n:=a-8) E) [] [] rfl (λ_=>rfl) λx1 k1 f1=>?_;skip;refine ad 1 0 rfl (mi (qw bq _) (by show 34+4<=_;decide)) (λr1 OG=>?_);refine g0 654 ?_;intro;refine A3 (B2 (d:=d) (n:=a) E) [] [] rfl (λ_=>rfl) λx2 k2 f2=>?_;skip;refine ad 1 0 rfl (by rw[cW];exact mi (qw (qw bq _) _) (by show 34+4+4<=_;decide)) (λr2 pY=>?_);refine g0 9 ?_;intro;refine eF rfl (next (r2,some (.int a)) [0,5,6,7,8,9,10] _ trivial ?_);have e:Bn (z.1.take (k+1))=Bn (z.1.take k)++(B7 (a-8)++B7 a):=by rw[List.take_add_one,ha];unfold Bn;rw[jJ,List.flatten_append];show _++(_++[])=_;rw[bE]
     show E2 _ _ (⟨r2,.list ((5::(2+8*(z.1.length:Int))::Bn (z.1.take (k+1))).map .int),true⟩::_);rw[e,show(5::(2+8*(z.1.length:Int))::(Bn (z.1.take k)++(B7 (a-8)++B7 a))).map V.int=(5::(2+8*(z.1.length:Int))::Bn (z.1.take k)).map V.int++(B7 (a-8)).map V.int++(B7 a).map V.int by simp];rfl
    ·rw[e1,rn];refine g0 0 ?_;intro;refine eN (E'.1 ⟨ta,o.1,z.1,5::(2+8*(z.1.length:Int))::Bn z.1,z.2,some (.tup [.int edge,.int (edge-8),.int (ack+1),.int (ack-5),.int ack,.int (edge+1)]),o.2⟩ [0,1,2,3,4,5,6] _ ⟨by simp only[jK,Cm];exact L2 [_,_] [] 0x2072108042028042216421c84390203bd68041 hz.1 hz.2.1,bj,λh=>?_⟩ (by kernel_rfl));have h4:(w==4)=false:=by rw[pG];exact λe0=>L2 [] [_] 0x40e414308c3904883e0 ci e0
     show LQ _ _ _ _ (y.wh&&!(w==4));rw[h4,Bool.not_false,Bool.and_true];exact hy.2.2.1.sack hz.2.2 (by simp only[jK,Cm] at h;exact L1 [_,_] [] 0xa059087210e4280ef5a0680410a0590a03b1073a068041 h) (mi (Nat.add_le_add (mi hy.2.2.2 (Nat.mul_le_mul_left 4 (Nat.le_of_lt_succ (rA hj (Int.toNat_le.mpr (show x%3<=2 from Int.le_of_lt_add_one (QT x (by decide)).2)))))) bj) (by decide))
  ·have ci:¬w<3:=gG q;obtain rfl|rfl|rfl:w=3\/w=4\/w=5:=mq ci hw6
   ·refine g0 0x542 ?_;intro;refine nL _ rfl (λa1 Ol=>?_);refine g0 0 ?_;intro;refine nL _ rfl (λa2 g2=>?_);refine g0 0 ?_;intro;refine nL _ rfl (λa3 g3=>?_);refine g0 0x9047 ?_;intro;exact eN (E'.1 ⟨t0,a1,[],[1],y.bx/6,y.u,y.w5⟩ [2,3,4,5,6,7,8] _ ⟨oX rfl,qH _,λh=>by have:=hy.2.2.1.nop h;simpa using this⟩ (by kernel_rfl))
   ·refine g0 0x542 ?_;intro;refine nL _ rfl (λa1 Ol=>?_);refine g0 0 ?_;intro;refine nL _ rfl (λa2 g2=>?_);refine g0 0 ?_;intro;refine nL _ rfl (λa3 g3=>?_);refine g0 0x9087 ?_;intro;exact eN (E'.1 ⟨t0,a2,[],[9,60],y.bx/6,y.u,y.w5⟩ [1,3,4,5,6,7,8] _ ⟨oX rfl,qH _,λh=>by have:=hy.2.2.1.cut h;simpa using this⟩ (by kernel_rfl))
   ·refine g0 0x542 ?_;intro;refine nL _ rfl (λa1 Ol=>?_);refine g0 0 ?_;intro;refine nL _ rfl (λa2 g2=>?_);refine g0 0 ?_;intro;refine nL _ rfl (λa3 g3=>?_);refine g0 0x90c7 ?_;intro;exact eN (E'.1 ⟨t0,a3,[],[5,7,255,255,255,255,0],y.bx/6,y.u,y.w5⟩ [0,3,4,5,6,7,8] _ ⟨oX rfl,qH _,λh=>by have:=hy.2.2.1.odd h;simpa using this⟩ (by kernel_rfl))
  ·have e1:(z.row.map V.int).length=z.row.length:=gI _;have e2:(y.l.map V.int).length=y.l.length:=gI _;have e3:(z.T.map V.int).length=z.T.length:=gI _;have e4:(y.R.map V.int).length=y.R.length:=gI _;have bj:=hz.1;have QK:=hz.2.1;refine g0 205 ?_;intro;refine PG 2 rfl (L2 [_,_] [] 0x808410a05908083e84804c80041 HJ e2) ?_;refine g0 589 ?_;intro;refine PG 0 rfl (L2 [_,_] [] 0x808410885908083e84804c80041 hz.1 e1) ?_;refine g0 0 ?_;intro;refine wB _ rfl (λq=>?_) (λq=>?_)
   ·have hL:=hz.2.2 (by have:=dv q;exact L3 [_,_,_,_] [] 0xa05917c7fd40820190c21110c2140b21068041 e1 e2 this);refine g0 0x243541 ?_;intro;refine ad 2 0 rfl (L4 [_,_,_,_] [] 0x201082309082110b230104281644020fa1201321068041 HJ hz.1 e1 e2) (λo1 Ol=>?_);refine g0 0x144543 ?_;intro;refine wB _ rfl (λq1=>?_) (λq1=>?_)
    ·rw[q1] at hL;refine g0 513 ?_;intro;refine ad 4 2 rfl (L4 [_,_,_,_] [] 0x100841184841207230104641644020fa1201321068041 hR hz.2.1 e3 e4) (λo2 g2=>?_);refine g1 0x1470c5544 (λ_ a=>a (q1)) ?_;intro;refine eF rfl (next ⟨o1,o2,y.l++z.row,y.R++z.T,!(w==4),z.bx,z.u,_,_,_,_,_⟩ [1,0,6,7,8] _ ⟨Ol.1,g2.1,hL,by rw[cW];have:=hy.2.2.2;exact L2 [_,_,_] [] 0x81c840411103b0008210e45a20761068041 hy.2.2.2 hz.2.1⟩ ?_);show E2 _ _ [⟨o1,.list ((y.l++z.row).map .int),true⟩,⟨o2,.list ((y.R++z.T).map .int),true⟩,_,_,_];rw[jJ,jJ];rfl
    ·rw[q1] at hL;refine g0 2 ?_;intro;refine nL _ rfl (λo0 pV=>?_);skip;refine ad 5 0 rfl (by show _+0<=_;exact L2 [_,_] [] 0x404208c82c84041f424026419068041 hR e4) (λo2 g2=>?_);refine g1 0x5105544 (λ_ a=>a (q1)) ?_;intro;refine eF rfl (next ⟨o1,o2,y.l++z.row,y.R++[],false,z.bx,z.u,_,_,_,_,_⟩ [2,0,7,8,9] _ ⟨Ol.1,g2.1,hL,by show(y.R++[]).length<=4*(j+1);rw[bE];have:=hy.2.2.2;exact L1 [_,_] [] 0x240ec002084390e881d80041 hy.2.2.2⟩ ?_);show E2 _ _ [⟨o1,.list ((y.l++z.row).map .int),true⟩,⟨o2,.list ((y.R++[]).map .int),true⟩,_,_,_];rw[jJ,jJ];rfl
   ·refine g0 2 ?_;intro;exact eF rfl (next ⟨y.p,y.q,y.l,y.R,y.wh,z.bx,z.u,_,_,_,_,_⟩ [2,3,4,5,6] _ ⟨hy.1,hy.2.1,hy.2.2.1,by show y.R.length<=4*(j+1);have:=hy.2.2.2;exact L1 [_,_] [] 0x240ec002084390e881d80041 hy.2.2.2⟩ (by kernel_rfl))
 ·have HJ:=hy.2.2.1.len;refine g0 207 ?_;intro;obtain⟨rows,pb,hpo,hed,hoct,WT,hl40⟩:=hy.2.2.1.fin;refine A3 (EC (d:=d) (l:=y.l) (f:=1) (i:=y.p) E (L1 [_] [] 0x281640020fd02c80041 HJ)) [0] [] rfl (λ_=>rfl) λo ho fo=>?_;cases o with
  |none=>refine g0 4 ?_;intro;refine eV (fin _ _ (Bs ⟨y.p,y.q,y.l++List.replicate (A4 y.l.length) 1,y.R,rows,pb,y.bx⟩ [0,1,4] rfl ?_ rfl (AI hy.1 (AI hy.2.1 Bz)) ⟨hpo,hed,hy.2.2.1.sp,hoct,WT,hl40,hy.2.2.1.rl⟩ rfl));show _=[(y.p,O.list ((y.l++List.replicate (A4 y.l.length) 1).map .int)),_]++_;rw[ho rfl,pH,bE];rfl
  |some o=>refine g0 4 ?_;intro;exact eV (fin _ _ (Bo ⟨o,y.q,y.l++List.replicate (A4 y.l.length) 1,y.R,rows,pb,y.bx⟩ [0,2,5] (by kernel_rfl) (AI (fo _ (.head _)).1 (AI hy.2.1 Bz)) ⟨hpo,hed,hy.2.2.1.sp,hoct,WT,hl40,hy.2.2.1.rl⟩ rfl))
theorem J7:CF g (d+2) 748 [.ref b,.int ack,.int edge] [b] [(b,.list [.int x])] (WM ack edge) gr gt (Mc b):=λos K I hk=>Lx E (Nr E λb0 n hn=>by
 have h0:os.length<=n:=qI hn;have I0:St os [b] [(n+1,.cell none),(n,.cell (some (.ref b))),(b,.list [.int x])] (os++[.cell (some (.ref b)),.cell none]):=by have:=(I.push (o:=.cell (some (.ref b)))).push (o:=.cell none);rw[bF,cW,hn] at this;exact this
 refine PD (c:=⟨g,fL b0 n,d+1,Tm E⟩) (bN (EV E) os [b] (FI os (WM ack edge) gr gt (Mc b))) (H:=[⟨n+1,.cell none,true⟩,⟨n,.cell (some (.ref b)),true⟩,⟨b,.list [.int x],true⟩]) ⟨I0,λe he _=>?_⟩ (λ_ u Ae⟨x,a,b,hN,p⟩J=>b▸hk x Ae a hN (J.pickS p)) (λ_ _ q=>q) (sm (Lh E _ h0 λ_ _ q=>q));rcases cS.mp he with rfl|he
 ·exact .inr (Nat.le_succ_of_le h0)
 rcases cS.mp he with rfl|he
 ·exact .inr h0
 rw[jV.mp he];exact .inl (.head _))
end
noncomputable def hA(w:Int):List Int:=if w=0 then[10,0,0,1] else[192,0,2,1]
noncomputable def pA(w:Int):List Int:=if w=0 then[3,232] else[0,80]
noncomputable def nA(w:Int):Int:=if w=0 then 167772161 else 3221225985
noncomputable def oA(w:Int):Int:=if w=0 then 1000 else 80
noncomputable def Nv(way sq ak fl w:Int)(n:Nat)(l:List Int):List Int:=CU (hA way) (hA (1-way)) (pA way) (pA (1-way)) sq ak fl w n l
def bU(way sq ak fl w:Int)(n:Nat)(l:List Int):Prop:=GH (Nv way sq ak fl w n l) (nA way) (nA (1-way)) (oA way) (oA (1-way)) (sq%4294967296) (ak%4294967296) w fl n l
theorem nq{way sq ak fl w:Int}{n:Nat}{l:List Int}(hd:way=0\/way=1)(WT:l.length%4=0)(HJ:l.length<=40)(hn:n<32)(ho:AY l)(hf:0<=fl/\fl<256)(hw:0<=w/\w<65536):bU way sq ak fl w n l:=by rcases hd with rfl|rfl<;>exact d6 WT HJ hn ho hf hw (by unfold AY;decide) (by unfold AY;decide) (by unfold AY;decide) (by unfold AY;decide)
structure QX(way:Int)(x y:Dr)(w f st seq ack far:Int)(n:Nat)(l:List Int)(rows:List (Int×List Int))(pb:Bool):Prop where
 pk:bU way seq ack (f+16) w n l
 po:PO l rows pb
 sk:(y.sk=true/\∃R:List Int,far=Dw ack R/\Bk rows=R.map (·% 4294967296)/\∀r∈R,Kj ack y.e r)\/(y.sk=false/\far=ack)
 w:0<=w/\w<65536
 n:n<32
 f:f=0\/f=8\/f=64\/f=192
 st:0<=st/\st<1000
 sq:(x.e-17<=seq/\seq<=x.e)\/(x.me<=seq/\seq<=x.me+1)
 ak:y.e-17<=ack/\ack<=y.e+1
def Dc(x y:Dr)(seq far n:Int):Prop:=seq<=x.me/\x.e-y.mw<=seq+n/\far<=y.e/\y.e-max x.mw 66000<=far
def DN(way:Int)(r0 r1 m o:Nat)(p q x y:Dr):Prop:=(way=0/\m=r0/\o=r1/\x=p/\y=q)\/(way=1/\m=r1/\o=r0/\x=q/\y=p)
structure SY where
 way:Int
 w:Int
 f:Int
 sp:Int
 seq:Int
 ack:Int
 far:Int
 n:Nat
 l:List Int
 rows:List (Int×List Int)
 pb:Bool
 mn:Nat
 on:Nat
 x:Dr
 y:Dr
 p:Dr
 q:Dr
 pk:Nat
 i:Nat
 j:Nat
 mt:Nat
 bx:Int
 oy:Int
 tk:Bool
noncomputable abbrev SY.mx(s:SY):Dr:=if s.tk then s.x.snd s.seq s.ack s.n s.far (s.w*2^s.x.sc.toNat) else s.x
noncomputable abbrev SY.my(s:SY):Dr:=if s.tk then s.y.rcv s.x s.seq s.ack s.n s.far (s.w*2^s.x.sc.toNat) else s.y
abbrev SD(r0 r1:Nat)(p q:Dr)(s:SY):Prop:=DN s.way r0 r1 s.mn s.on p q s.x s.y/\DN s.way r0 r1 s.mn s.on s.p s.q s.mx s.my/\QX s.way s.x s.y s.w s.f s.sp s.seq s.ack s.far s.n s.l s.rows s.pb/\(s.tk=true->Dc s.x s.y s.seq s.far s.n)/\(s.tk=false->¬Dc s.x s.y s.seq s.far s.n)
noncomputable abbrev jB(s:SY):V:=.tup [.ref s.pk,.int s.way,.int s.sp,.bool s.tk]
noncomputable abbrev gp(s:SY):AW:=[(s.i,.barr (Nv s.way s.seq s.ack (s.f+16) s.w s.n s.l)),(s.pk,Cy s.i s.j 6 20 0 s.mt)]
noncomputable abbrev WI(nb ob r0 r1:Nat)(s:SY):AW:=[(nb,.list [.int s.bx]),(ob,.list [.int s.oy]),(r0,s.p.o),(r1,s.q.o)]
theorem HU:∀{ns:List Nat},GQ ns=true<->ns.Nodup
 |[]=>by simp[GQ]
 |n::ns=>by
  have h:∀m,(!Nat.beq m n)=true<->m≠n:=λm=>by rw[Bool.not_eq_true',<-Bool.not_eq_true,Nat.beq_eq]
  rw[GQ,oZ,rh,jH,HU];exact and_congr ⟨λk q=>(h n).1 (k n q) rfl,λk m q=>(h m).2 λe=>k (e▸q)⟩ Iff.rfl
theorem CW.sw{A B C D X Y:Nat×O}{H:AW}(h:CW [A,B,C,D,X,Y] H):CW [A,B,C,D,Y,X] H:=by
 obtain⟨_,h,nd⟩:=h;cases h with|cons a h=>cases h with|cons b h=>cases h with|cons c h=>cases h with|cons d h=>cases h with|cons e h=>cases h with|cons f h=>cases h with|nil=>
 exact⟨_,.cons a (.cons b (.cons c (.cons d (.cons f (.cons e .nil))))),HU.2 ((List.Perm.cons _ (.cons _ (.cons _ (.cons _ (.swap _ _ _))))).nodup_iff.2 (HU.1 nd))⟩
section
variable{g:Gl}(E:AM g){d:Nat}{o:Nat}{way sq ak fl w:Int}{n:Nat}{l:List Int}
include E
theorem G9(hd:way=0\/way=1)(hl:l.length<=40)(hn:n<32)(hw:0<=w/\w<65536)(F:bU way sq ak fl w n l):WP g (d+9) way (Nv way sq ak fl w n l) sq ak fl w o n l:=by
 rcases hd with rfl|rfl
 ·exact DV E hl hn hw F
 ·exact DU E hl hn hw F
end
section
variable{g:Gl}(E:AM g){d b r0 r1 nb ob mn on:Nat}{k x y:Int}{vb:V}{p q xx yy:Dr}
theorem I6(m:Mx (cx E 67 (d+11)))(Oi:¬k<2){x' way E5 back Ng kind w f sp:Int}{n:Nat}(EK:way=0\/way=1)(FY:0<=E5/\E5<5)(AJ:0<=back/\back<16)(Kr:0<=Ng/\Ng<4)(hw:0<=w/\w<65536)(hn:n<32)(hf:f=0\/f=8\/f=64\/f=192)(hs:0<=sp/\sp<1000)
  (hm:[V.ref r0,.ref r1][way.toNat]? =some (.ref mn)) (ho:[V.ref r0,.ref r1][(1-way).toNat]? =some (.ref on)) (co:0<=xx.sc/\xx.sc<=14)
  (fin:∀s:SY,s.way=way/\s.mn=mn/\s.on=on/\s.x=xx/\s.y=yy->QX s.way s.x s.y s.w s.f s.sp s.seq s.ack s.far s.n s.l s.rows s.pb->(s.tk=true->Dc s.x s.y s.seq s.far s.n)->(s.tk=false->¬Dc s.x s.y s.seq s.far s.n)->(∀z∈gp s,m.os0.length<=z.1)->∀H,CW (gp s++[(nb,.list [.int s.bx]),(ob,.list [.int s.oy]),(mn,s.mx.o),(on,s.my.o)]) (Cc H)->m.R H (jB s)):
  Sm m ⟨.xs ((fB (st 123)).drop 6),[],[some (.int k),some (.tup [.ref nb,.ref ob]),some (.ref b),some vb,some (.ref nb),some (.ref ob),some (.int way),some (.int E5),some (.int back),some (.int Ng),some (.int kind),some (.int w),some (.int n),some (.int f),some (.int sp),none,none,none,none,none,none,none,none,none],[⟨nb,.list [.int x'],true⟩,⟨ob,.list [.int y],true⟩,⟨b,.list [.ref r0,.ref r1],false⟩,⟨mn,xx.o,true⟩,⟨on,yy.o,true⟩]⟩:=by
 have hd:0<=way/\way<=1:=⟨EK.elim (λo0=>L1 [] [_] 0x19050c20066041 o0) (λo0=>L1 [] [_] 0x439050c20066041 o0),EK.elim (λo0=>L1 [] [_] 0x320a10421c82041 o0) (λo0=>L1 [] [_] 0x8720a10421c82041 o0)⟩;obtain⟨seq,es,F4⟩:=ix (P:=λseq=>(xx.e-17<=seq/\seq<=xx.e)\/(xx.me<=seq/\seq<=xx.me+1)) [xx.e,xx.e-1-back,xx.me,xx.me+1,xx.e] (by intro a ha;simp only[cS,rp,or_false] at ha;exact EK.elim (λo0=>hf.elim (λo1=>ha.elim (λo2=>.inl (⟨L1 [] [_,_] j1 o2,L1 [] [_,_] kg o2⟩)) (λo2=>o2.elim (λo3=>.inl (⟨L2 [] [_,_,_] kh AJ.2 o3,L2 [] [_,_,_] 0x821c87bd050822066041082041 AJ.1 o3⟩)) (λo3=>o3.elim (λo4=>.inr (⟨L1 [] [_,_] 0x6861082041 o4,L1 [] [_,_] j5 o4⟩)) (λo4=>o4.elim (λo5=>.inr (⟨L1 [] [_,_] 0x8720d06861082041 o5,L1 [] [_,_] ke o5⟩)) (λo5=>.inl (⟨L1 [] [_,_] j1 o5,L1 [] [_,_] kg o5⟩)))))) (λo1=>ha.elim (λo2=>.inl (⟨L1 [] [_,_] j1 o2,L1 [] [_,_] kg o2⟩)) (λo2=>o1.elim (λo3=>o2.elim (λo4=>.inl (⟨L2 [] [_,_,_] kh AJ.2 o4,L2 [] [_,_,_] 0x821c87bd050822066041082041 AJ.1 o4⟩)) (λo4=>o4.elim (λo5=>.inr (⟨L1 [] [_,_] 0x6861082041 o5,L1 [] [_,_] j5 o5⟩)) (λo5=>o5.elim (λo6=>.inr (⟨L1 [] [_,_] 0x8720d06861082041 o6,L1 [] [_,_] ke o6⟩)) (λo6=>.inl (⟨L1 [] [_,_] j1 o6,L1 [] [_,_] kg o6⟩))))) (λo3=>o2.elim (λo4=>.inl (⟨L2 [] [_,_,_] kh AJ.2 o4,L2 [] [_,_,_] 0x821c87bd050822066041082041 AJ.1 o4⟩)) (λo4=>o3.elim (λo5=>o4.elim (λo6=>.inr (⟨L1 [] [_,_] 0x6861082041 o6,L1 [] [_,_] j5 o6⟩)) (λo6=>o6.elim (λo7=>.inr (⟨L1 [] [_,_] 0x8720d06861082041 o7,L1 [] [_,_] ke o7⟩)) (λo7=>.inl (⟨L1 [] [_,_] j1 o7,L1 [] [_,_] kg o7⟩)))) (λo5=>o4.elim (λo6=>.inr (⟨L1 [] [_,_] 0x6861082041 o6,L1 [] [_,_] j5 o6⟩)) (λo6=>o6.elim (λo7=>.inr (⟨L1 [] [_,_] 0x8720d06861082041 o7,L1 [] [_,_] ke o7⟩)) (λo7=>.inl (⟨L1 [] [_,_] j1 o7,L1 [] [_,_] kg o7⟩))))))))) (λo0=>hf.elim (λo1=>ha.elim (λo2=>.inl (⟨L1 [] [_,_] j1 o2,L1 [] [_,_] kg o2⟩)) (λo2=>o2.elim (λo3=>.inl (⟨L2 [] [_,_,_] kh AJ.2 o3,L2 [] [_,_,_] 0x821c87bd050822066041082041 AJ.1 o3⟩)) (λo3=>o3.elim (λo4=>.inr (⟨L1 [] [_,_] 0x6861082041 o4,L1 [] [_,_] j5 o4⟩)) (λo4=>o4.elim (λo5=>.inr (⟨L1 [] [_,_] 0x8720d06861082041 o5,L1 [] [_,_] ke o5⟩)) (λo5=>.inl (⟨L1 [] [_,_] j1 o5,L1 [] [_,_] kg o5⟩)))))) (λo1=>ha.elim (λo2=>.inl (⟨L1 [] [_,_] j1 o2,L1 [] [_,_] kg o2⟩)) (λo2=>o1.elim (λo3=>o2.elim (λo4=>.inl (⟨L2 [] [_,_,_] kh AJ.2 o4,L2 [] [_,_,_] 0x821c87bd050822066041082041 AJ.1 o4⟩)) (λo4=>o4.elim (λo5=>.inr (⟨L1 [] [_,_] 0x6861082041 o5,L1 [] [_,_] j5 o5⟩)) (λo5=>o5.elim (λo6=>.inr (⟨L1 [] [_,_] 0x8720d06861082041 o6,L1 [] [_,_] ke o6⟩)) (λo6=>.inl (⟨L1 [] [_,_] j1 o6,L1 [] [_,_] kg o6⟩))))) (λo3=>o2.elim (λo4=>.inl (⟨L2 [] [_,_,_] kh AJ.2 o4,L2 [] [_,_,_] 0x821c87bd050822066041082041 AJ.1 o4⟩)) (λo4=>o3.elim (λo5=>o4.elim (λo6=>.inr (⟨L1 [] [_,_] 0x6861082041 o6,L1 [] [_,_] j5 o6⟩)) (λo6=>o6.elim (λo7=>.inr (⟨L1 [] [_,_] 0x8720d06861082041 o7,L1 [] [_,_] ke o7⟩)) (λo7=>.inl (⟨L1 [] [_,_] j1 o7,L1 [] [_,_] kg o7⟩)))) (λo5=>o4.elim (λo6=>.inr (⟨L1 [] [_,_] 0x6861082041 o6,L1 [] [_,_] j5 o6⟩)) (λo6=>o6.elim (λo7=>.inr (⟨L1 [] [_,_] 0x8720d06861082041 o7,L1 [] [_,_] ke o7⟩)) (λo7=>.inl (⟨L1 [] [_,_] j1 o7,L1 [] [_,_] kg o7⟩)))))))))) FY.1 FY.2;obtain⟨ack,ea,hak⟩:=ix (P:=λack=>yy.e-17<=ack/\ack<=yy.e+1) [yy.e,yy.e-1-back,yy.e+1,yy.e] (by intro a ha;simp only[cS,rp,or_false] at ha;exact⟨EK.elim (λo0=>hf.elim (λo1=>F4.elim (λo2=>ha.elim (λo3=>L1 [] [_,_] j1 o3) (λo3=>o3.elim (λo4=>L2 [] [_,_,_] kh AJ.2 o4) (λo4=>o4.elim (λo5=>L1 [] [_,_] kj o5) (λo5=>L1 [] [_,_] j1 o5)))) (λo2=>ha.elim (λo3=>L1 [] [_,_] j1 o3) (λo3=>o3.elim (λo4=>L2 [] [_,_,_] kh AJ.2 o4) (λo4=>o4.elim (λo5=>L1 [] [_,_] kj o5) (λo5=>L1 [] [_,_] j1 o5))))) (λo1=>F4.elim (λo2=>ha.elim (λo3=>L1 [] [_,_] j1 o3) (λo3=>o1.elim (λo4=>o3.elim (λo5=>L2 [] [_,_,_] kh AJ.2 o5) (λo5=>o5.elim (λo6=>L1 [] [_,_] kj o6) (λo6=>L1 [] [_,_] j1 o6))) (λo4=>o3.elim (λo5=>L2 [] [_,_,_] kh AJ.2 o5) (λo5=>o4.elim (λo6=>o5.elim (λo7=>L1 [] [_,_] kj o7) (λo7=>L1 [] [_,_] j1 o7)) (λo6=>o5.elim (λo7=>L1 [] [_,_] kj o7) (λo7=>L1 [] [_,_] j1 o7)))))) (λo2=>ha.elim (λo3=>L1 [] [_,_] j1 o3) (λo3=>o1.elim (λo4=>o3.elim (λo5=>L2 [] [_,_,_] kh AJ.2 o5) (λo5=>o5.elim (λo6=>L1 [] [_,_] kj o6) (λo6=>L1 [] [_,_] j1 o6))) (λo4=>o3.elim (λo5=>L2 [] [_,_,_] kh AJ.2 o5) (λo5=>o4.elim (λo6=>o5.elim (λo7=>L1 [] [_,_] kj o7) (λo7=>L1 [] [_,_] j1 o7)) (λo6=>o5.elim (λo7=>L1 [] [_,_] kj o7) (λo7=>L1 [] [_,_] j1 o7)))))))) (λo0=>hf.elim (λo1=>F4.elim (λo2=>ha.elim (λo3=>L1 [] [_,_] j1 o3) (λo3=>o3.elim (λo4=>L2 [] [_,_,_] kh AJ.2 o4) (λo4=>o4.elim (λo5=>L1 [] [_,_] kj o5) (λo5=>L1 [] [_,_] j1 o5)))) (λo2=>ha.elim (λo3=>L1 [] [_,_] j1 o3) (λo3=>o3.elim (λo4=>L2 [] [_,_,_] kh AJ.2 o4) (λo4=>o4.elim (λo5=>L1 [] [_,_] kj o5) (λo5=>L1 [] [_,_] j1 o5))))) (λo1=>F4.elim (λo2=>ha.elim (λo3=>L1 [] [_,_] j1 o3) (λo3=>o1.elim (λo4=>o3.elim (λo5=>L2 [] [_,_,_] kh AJ.2 o5) (λo5=>o5.elim (λo6=>L1 [] [_,_] kj o6) (λo6=>L1 [] [_,_] j1 o6))) (λo4=>o3.elim (λo5=>L2 [] [_,_,_] kh AJ.2 o5) (λo5=>o4.elim (λo6=>o5.elim (λo7=>L1 [] [_,_] kj o7) (λo7=>L1 [] [_,_] j1 o7)) (λo6=>o5.elim (λo7=>L1 [] [_,_] kj o7) (λo7=>L1 [] [_,_] j1 o7)))))) (λo2=>ha.elim (λo3=>L1 [] [_,_] j1 o3) (λo3=>o1.elim (λo4=>o3.elim (λo5=>L2 [] [_,_,_] kh AJ.2 o5) (λo5=>o5.elim (λo6=>L1 [] [_,_] kj o6) (λo6=>L1 [] [_,_] j1 o6))) (λo4=>o3.elim (λo5=>L2 [] [_,_,_] kh AJ.2 o5) (λo5=>o4.elim (λo6=>o5.elim (λo7=>L1 [] [_,_] kj o7) (λo7=>L1 [] [_,_] j1 o7)) (λo6=>o5.elim (λo7=>L1 [] [_,_] kj o7) (λo7=>L1 [] [_,_] j1 o7)))))))),EK.elim (λo0=>hf.elim (λo1=>F4.elim (λo2=>ha.elim (λo3=>L1 [] [_,_] j5 o3) (λo3=>o3.elim (λo4=>L2 [] [_,_,_] kl AJ.1 o4) (λo4=>o4.elim (λo5=>L1 [] [_,_] ke o5) (λo5=>L1 [] [_,_] j5 o5)))) (λo2=>ha.elim (λo3=>L1 [] [_,_] j5 o3) (λo3=>o3.elim (λo4=>L2 [] [_,_,_] kl AJ.1 o4) (λo4=>o4.elim (λo5=>L1 [] [_,_] ke o5) (λo5=>L1 [] [_,_] j5 o5))))) (λo1=>F4.elim (λo2=>ha.elim (λo3=>L1 [] [_,_] j5 o3) (λo3=>o1.elim (λo4=>o3.elim (λo5=>L2 [] [_,_,_] kl AJ.1 o5) (λo5=>o5.elim (λo6=>L1 [] [_,_] ke o6) (λo6=>L1 [] [_,_] j5 o6))) (λo4=>o3.elim (λo5=>L2 [] [_,_,_] kl AJ.1 o5) (λo5=>o4.elim (λo6=>o5.elim (λo7=>L1 [] [_,_] ke o7) (λo7=>L1 [] [_,_] j5 o7)) (λo6=>o5.elim (λo7=>L1 [] [_,_] ke o7) (λo7=>L1 [] [_,_] j5 o7)))))) (λo2=>ha.elim (λo3=>L1 [] [_,_] j5 o3) (λo3=>o1.elim (λo4=>o3.elim (λo5=>L2 [] [_,_,_] kl AJ.1 o5) (λo5=>o5.elim (λo6=>L1 [] [_,_] ke o6) (λo6=>L1 [] [_,_] j5 o6))) (λo4=>o3.elim (λo5=>L2 [] [_,_,_] kl AJ.1 o5) (λo5=>o4.elim (λo6=>o5.elim (λo7=>L1 [] [_,_] ke o7) (λo7=>L1 [] [_,_] j5 o7)) (λo6=>o5.elim (λo7=>L1 [] [_,_] ke o7) (λo7=>L1 [] [_,_] j5 o7)))))))) (λo0=>hf.elim (λo1=>F4.elim (λo2=>ha.elim (λo3=>L1 [] [_,_] j5 o3) (λo3=>o3.elim (λo4=>L2 [] [_,_,_] kl AJ.1 o4) (λo4=>o4.elim (λo5=>L1 [] [_,_] ke o5) (λo5=>L1 [] [_,_] j5 o5)))) (λo2=>ha.elim (λo3=>L1 [] [_,_] j5 o3) (λo3=>o3.elim (λo4=>L2 [] [_,_,_] kl AJ.1 o4) (λo4=>o4.elim (λo5=>L1 [] [_,_] ke o5) (λo5=>L1 [] [_,_] j5 o5))))) (λo1=>F4.elim (λo2=>ha.elim (λo3=>L1 [] [_,_] j5 o3) (λo3=>o1.elim (λo4=>o3.elim (λo5=>L2 [] [_,_,_] kl AJ.1 o5) (λo5=>o5.elim (λo6=>L1 [] [_,_] ke o6) (λo6=>L1 [] [_,_] j5 o6))) (λo4=>o3.elim (λo5=>L2 [] [_,_,_] kl AJ.1 o5) (λo5=>o4.elim (λo6=>o5.elim (λo7=>L1 [] [_,_] ke o7) (λo7=>L1 [] [_,_] j5 o7)) (λo6=>o5.elim (λo7=>L1 [] [_,_] ke o7) (λo7=>L1 [] [_,_] j5 o7)))))) (λo2=>ha.elim (λo3=>L1 [] [_,_] j5 o3) (λo3=>o1.elim (λo4=>o3.elim (λo5=>L2 [] [_,_,_] kl AJ.1 o5) (λo5=>o5.elim (λo6=>L1 [] [_,_] ke o6) (λo6=>L1 [] [_,_] j5 o6))) (λo4=>o3.elim (λo5=>L2 [] [_,_,_] kl AJ.1 o5) (λo5=>o4.elim (λo6=>o5.elim (λo7=>L1 [] [_,_] ke o7) (λo7=>L1 [] [_,_] j5 o7)) (λo6=>o5.elim (λo7=>L1 [] [_,_] ke o7) (λo7=>L1 [] [_,_] j5 o7))))))))⟩) Kr.1 Kr.2;refine g1 0xc70c2101 (λ_ a=>a (λ_=>rfl) (gD (Oi))) ?_;intro;refine sL rfl hd.1 (L1 [] [_] 0x43904083e84804c82441 hd.2) hm ?_;refine g0 0x31c3 ?_;intro;refine sL rfl (L1 [] [_] 0x4390408200873d066041 hd.2) (L1 [] [_] 0xcc083e84804c8021cf6441 hd.1) ho ?_;refine g0 0x8044542115084549044541115556 ?_;intro;refine sT rfl FY.1 (L1 [] [_] 0x143904883e84804c82441 FY.2) es ?_;refine g0 0xa045581156241156045597 ?_;intro;refine sT rfl Kr.1 (L1 [] [_] 0x103904883e84804c82441 Kr.2) ea ?_;refine g1 0x45593199053 (λ_ a=>a (λ_=>rfl)) ?_;intro;refine A3 (J7 (d:=d+9) (b:=ob) (ack:=ack) (edge:=yy.e) E) [1] [1] rfl (λ_=>rfl) λs Nb fs=>?_;have F:bU way seq ack (f+16) w n s.l:=nq EK Nb.2.2.2.2.1 Nb.2.2.2.2.2.1 hn Nb.2.2.2.1 (⟨EK.elim (λo0=>hf.elim (λo1=>L1 [] [_] 0x19050c300e41a066041 o1) (λo1=>F4.elim (λo2=>o1.elim (λo3=>L1 [] [_] 0x2039050c300e41a066041 o3) (λo3=>o3.elim (λo4=>L1 [] [_] 0x10059050c300e41a066041 o4) (λo4=>L1 [] [_] 0x30059050c300e41a066041 o4))) (λo2=>o1.elim (λo3=>L1 [] [_] 0x2039050c300e41a066041 o3) (λo3=>o3.elim (λo4=>L1 [] [_] 0x10059050c300e41a066041 o4) (λo4=>L1 [] [_] 0x30059050c300e41a066041 o4))))) (λo0=>hf.elim (λo1=>L1 [] [_] 0x19050c300e41a066041 o1) (λo1=>F4.elim (λo2=>o1.elim (λo3=>L1 [] [_] 0x2039050c300e41a066041 o3) (λo3=>o3.elim (λo4=>L1 [] [_] 0x10059050c300e41a066041 o4) (λo4=>L1 [] [_] 0x30059050c300e41a066041 o4))) (λo2=>o1.elim (λo3=>L1 [] [_] 0x2039050c300e41a066041 o3) (λo3=>o3.elim (λo4=>L1 [] [_] 0x10059050c300e41a066041 o4) (λo4=>L1 [] [_] 0x30059050c300e41a066041 o4))))),EK.elim (λo0=>hf.elim (λo1=>L1 [] [_] 0x641420a002cc03906a441 o1) (λo1=>F4.elim (λo2=>o1.elim (λo3=>L1 [] [_] 0x80e41420a002cc03906a441 o3) (λo3=>o3.elim (λo4=>L1 [] [_] 0x401641420a002cc03906a441 o4) (λo4=>L1 [] [_] 0xc01641420a002cc03906a441 o4))) (λo2=>o1.elim (λo3=>L1 [] [_] 0x80e41420a002cc03906a441 o3) (λo3=>o3.elim (λo4=>L1 [] [_] 0x401641420a002cc03906a441 o4) (λo4=>L1 [] [_] 0xc01641420a002cc03906a441 o4))))) (λo0=>hf.elim (λo1=>L1 [] [_] 0x641420a002cc03906a441 o1) (λo1=>F4.elim (λo2=>o1.elim (λo3=>L1 [] [_] 0x80e41420a002cc03906a441 o3) (λo3=>o3.elim (λo4=>L1 [] [_] 0x401641420a002cc03906a441 o4) (λo4=>L1 [] [_] 0xc01641420a002cc03906a441 o4))) (λo2=>o1.elim (λo3=>L1 [] [_] 0x80e41420a002cc03906a441 o3) (λo3=>o3.elim (λo4=>L1 [] [_] 0x401641420a002cc03906a441 o4) (λo4=>L1 [] [_] 0xc01641420a002cc03906a441 o4)))))⟩) hw;refine g0 0x35030e4d71da610 ?_;intro;refine A3 (G9 (d:=d+2) (n:=n) (l:=s.l) (o:=s.o) E EK Nb.2.2.2.2.2.1 hn hw F) [0] [] rfl (λ_=>rfl) λt ht ft=>?_;obtain⟨far,Ot⟩:∃far,(yy.sk=true/\far=Dw ack s.R)\/(yy.sk=false/\far=ack):=by
  cases yy.sk
  ·exact⟨_,.inr ⟨rfl,rfl⟩⟩
  ·exact⟨_,.inl ⟨rfl,rfl⟩⟩
 have S0:QX way xx yy w f sp seq ack far n s.l s.rows s.pb:=⟨F,Nb.1,Ot.imp (λh=>⟨h.1,s.R,h.2,Nb.2.1,Nb.2.2.1⟩) id,hw,hn,hf,hs,F4,hak⟩;have hR:s.R.length<=1000:=by have:=Nb.2.2.2.2.2.2;exact L1 [_] [] 0x641640020fd02c80041 this
 refine g0 0x60c3535c70de3c7514 ?_;intro;refine(Classical.em (Dc xx yy seq far n)).elim (λhT=>?_) λhT=>?_
 ·refine Ai (EX (d:=d+10) (w:=w) (n:=n) (way:=way) (L:=[.ref r0,.ref r1]) (rs:=s.R) (far:=far) (x:=xx) (y:=yy) E hd hm ho co hw hR Ot hT.1 hT.2.1 hT.2.2.1 hT.2.2.2) [6,7,8,3] [7,8] rfl rfl ?_;refine g0 0 ?_;intro;exact eV (fin ⟨way,w,f,sp,seq,ack,far,n,s.l,s.rows,s.pb,mn,on,xx,yy,xx,yy,t.1,t.2.1,t.2.2.1,t.2.2.2,x',s.x,true⟩ ⟨rfl,rfl,rfl,rfl,rfl⟩ S0 (λ_=>hT) (λh=>nomatch h) (AI (ft _ (.head _)).1 (AI (ft _ (.tail _ (.head _))).1 Bz)) _ (CW.of (ns:=[0,1,4,5,7,8]) (Dp (by kernel_rfl)) rfl))
 ·refine Ai (EY (d:=d+10) (w:=w) (n:=n) (way:=way) (L:=[.ref r0,.ref r1]) (rs:=s.R) (far:=far) (x:=xx) (y:=yy) E hd hm ho hR Ot (by unfold Dc at hT;omega)) [6,7,8,3] [] rfl rfl ?_;refine g0 0 ?_;intro;exact eV (fin ⟨way,w,f,sp,seq,ack,far,n,s.l,s.rows,s.pb,mn,on,xx,yy,xx,yy,t.1,t.2.1,t.2.2.1,t.2.2.2,x',s.x,false⟩ ⟨rfl,rfl,rfl,rfl,rfl⟩ S0 (λh=>nomatch h) (λ_=>hT) (AI (ft _ (.head _)).1 (AI (ft _ (.tail _ (.head _))).1 Bz)) _ (CW.of (ns:=[0,1,4,5,7,8]) (Dp (by kernel_rfl)) rfl))
include E
theorem Gv(Oi:¬k<2)(SQ:0<=k/\k<8)(Og:0<=p.sc/\p.sc<=14)(F4:0<=q.sc/\q.sc<=14):CF g (d+12) 790 [.int k,.tup [.ref nb,.ref ob],.ref b,vb] [nb,ob,r0,r1] [(nb,.list [.int x]),(ob,.list [.int y]),(b,.list [.ref r0,.ref r1]),(r0,p.o),(r1,q.o)] (SD r0 r1 p q) jB gp (WI nb ob r0 r1):=by
 refine Bu E 67 [⟨nb,.list [.int x],true⟩,⟨ob,.list [.int y],true⟩,⟨b,.list [.ref r0,.ref r1],false⟩,⟨r0,p.o,true⟩,⟨r1,q.o,true⟩] λm fin Ay=>?_;refine HO (d:=d+10) E m SQ (λx' way E5 back Ng kind w f sp n EK FY AJ Kr hw hn hf hs=>?_);obtain rfl|rfl:=EK
 ·refine I6 E m Oi (.inl rfl) FY AJ Kr hw hn hf hs rfl rfl Og λs e S0 h1 h2 hN H P=>?_;obtain⟨e1,e2,e3,e4,e5⟩:=e;refine fin _ _ ⟨{s with p:=s.mx,q:=s.my},⟨.inl ⟨e1,e2,e3,e4,e5⟩,.inl ⟨e1,e2,e3,rfl,rfl⟩,S0,h1,h2⟩,rfl,hN,?_⟩;subst e2 e3;exact P
 ·refine kP [0,1,2,4,3] (by kernel_rfl) ?_;refine I6 E m Oi (.inr rfl) FY AJ Kr hw hn hf hs rfl rfl F4 λs e S0 h1 h2 hN H P=>?_;obtain⟨e1,e2,e3,e4,e5⟩:=e;refine fin _ _ ⟨{s with p:=s.my,q:=s.mx},⟨.inr ⟨e1,e2,e3,e4,e5⟩,.inr ⟨e1,e2,e3,rfl,rfl⟩,S0,h1,h2⟩,rfl,hN,?_⟩;subst e2 e3;exact P.sw
end
section
variable{x y:Dr}{way w f st seq ack far c:Int}{n:Nat}{l:List Int}{rows:List (Int×List Int)}{pb:Bool}
theorem QX.farB(S:QX way x y w f st seq ack far n l rows pb):ack<=far/\far<=ack+20/\y.e-40<=far/\far<=y.e+40/\far%4294967296=if y.sk then Co (ack%4294967296) rows else ack%4294967296:=by
 obtain⟨h1,h2⟩:=S.ak;rcases S.sk with ⟨hs,R,rfl,he,Og⟩|⟨hs,rfl⟩
 ·have hb:∀r∈R,y.e-22<=r/\r<=y.e+2/\r<=ack+18:=λr hr=>by
   have:=Og r hr;unfold Kj at this;exact⟨this.elim (λo0=>L1 [] [_,_] 0x68610d839076041 o0) (λo0=>o0.elim (λo1=>L1 [] [_,_] 0x40720e868610d839076041 o1) (λo1=>o1.elim (λo2=>L2 [] [_,_,_] 0x8722d06861144390760410d839076041 h1 o2) (λo2=>o2.elim (λo3=>L2 [] [_,_,_] 0x28722e86861144390760410d839076041 h1 o3) (λo3=>o3.elim (λo4=>L2 [] [_,_,_] 0x106861144390760410d839076041 h1 o4) (λo4=>L1 [] [_,_] 0x8720d068610d839076041 o4))))),⟨this.elim (λo0=>L1 [] [_,_] 0x8284110721d02041 o0) (λo0=>o0.elim (λo1=>L1 [] [_,_] 0x40721e8284110721d02041 o1) (λo1=>o1.elim (λo2=>L2 [] [_,_,_] 0x8722d0284108721d0a04110721d02041 h2 o2) (λo2=>o2.elim (λo3=>L2 [] [_,_,_] 0x28722e8284108721d0a04110721d02041 h2 o3) (λo3=>o3.elim (λo4=>L2 [] [_,_,_] 0x10284108721d0a04110721d02041 h2 o4) (λo4=>L1 [] [_,_] 0x8721d0284110721d02041 o4))))),this.elim (λo0=>L2 [] [_,_,_] 0x1028410c43917604190721d02041 h1 o0) (λo0=>o0.elim (λo1=>L2 [] [_,_,_] 0x40722e828410c43917604190721d02041 h1 o1) (λo1=>o1.elim (λo2=>L1 [] [_,_] 0x8721d0284190721d02041 o2) (λo2=>o2.elim (λo3=>L1 [] [_,_] 0x28721e8284190721d02041 o3) (λo3=>o3.elim (λo4=>L1 [] [_,_] 0x8284190721d02041 o4) (λo4=>L2 [] [_,_,_] 0x8722d028410c43917604190721d02041 h1 o4)))))⟩⟩
  have hm:=JR R ack;have hl:=(Ia R ack).1;rw[hs,lW rfl,Rq he λr hr=>by have:=hb r hr;exact⟨L2 [] [_,_,_] 0x2c1c8bb02084391683020841d1000000007cfa041 h2 this.1,L2 [] [_,_,_] 0x41c8b408104310e45d8104400000001f21076441 h1 this.2.1⟩];rcases cS.mp hm with e|e
  ·rw[e];exact⟨L0 [] [_] 8257,⟨L0 [] [_] 0xa0720d02041,⟨L1 [] [_,_] 0x188720ec08210a059076041 h1,⟨L1 [] [_,_] 0x10e43a04082140b21d02041 h2,rfl⟩⟩⟩⟩
  ·have:=hb _ e;exact⟨hl,⟨L2 [] [_,_,_] 0x10722d020410c439176041a0721d02041 h1 this.2.1,⟨L2 [] [_,_,_] 0x114082288720ec08210a059076041 h1 hl,⟨L1 [] [_,_] 0x20e43a04082140b21d02041 this.2.1,rfl⟩⟩⟩⟩
 ·rw[hs,jU (by decide)];exact⟨L0 [] [_] 8257,⟨L0 [] [_] 0xa0720d02041,⟨L1 [] [_,_] 0x188720ec08210a059076041 h1,⟨L1 [] [_,_] 0x10e43a04082140b21d02041 h2,rfl⟩⟩⟩⟩
theorem gk{w sc:Int}(hw:0<=w/\w<65536)(hs:0<=sc/\sc<=14):0<=w*2^sc.toNat/\w*2^sc.toNat<=1073725440:=by
 have h1:(2:Int)^sc.toNat<=2^14:=by exact_mod_cast rZ (n:=2) (by decide) (show sc.toNat<=14 by exact L2 [_] [_] 0x7e841707208105c1c80041 hs.2 (bD (show 0<=sc from L1 [] [_] kf hs.1)))
 have h0:(0:Int)<2^sc.toNat:=Int.pow_pos (by decide);have h2:w*2^sc.toNat<=65535*2^14:=Int.mul_le_mul (L1 [] [_] 0x4000099048821fffe4c82041 hw.2) h1 (pL h0) (by decide);exact⟨sI hw.1 (pL h0),by exact L1 [] [_] 0x3fffc0003641020ffff80006c82041 h2⟩
theorem QX.tn(S:QX way x y w f st seq ack far n l rows pb)(B:DO x y c)(hs:0<=x.sc/\x.sc<=14):Tn x y seq ack n far (w*2^x.sc.toNat):=by have hb:=S.farB;have ha:=B.a;have hn:=S.n;have:=S.sq;exact⟨by exact⟨this.elim (λo0=>L1 [] [_,_] 0x188720ec08210a059076041 o0.1) (λo0=>L2 [] [_,_,_] 0x114083f0e45a0408210a059076041 ha o0.1),this.elim (λo0=>L2 [] [_,_,_] 0x204083f0e43a14082140b21d02041 ha o0.2) (λo0=>L1 [] [_,_] 0x10e43a04082140b21d02041 o0.2)⟩,by exact⟨L0 [_] [] 520511553,L1 [_] [] 0x402c804410805907e441 hn⟩,gk S.w hs,by exact⟨L1 [] [_,_] 0x2140b20ec08210a059076041 hb.2.2.1,L1 [] [_,_] 0x281643a04082140b21d02041 hb.2.2.2.1⟩,by exact⟨L1 [] [_,_] 0x82041082041 hb.1,L1 [] [_,_] 0x140e43a04082140b21d02041 hb.2.1⟩⟩
end
section
variable{g:Gl}(E:AM g){d:Nat}{os:List O}{K:List O->V->Prop}{bk T G R X Fw tk sn pk pi pj pm a b sl:Nat}{now un si last i2:Int}{v0:V}{rf rr:Nat->Nat}{p q x y:Dr}{way w f W3 seq ack far c sta st:Int}{n:Nat}{l:List Int}{rows:List (Int×List Int)}{pb:Bool}{m o:Nat}
include E
theorem N2(hW:DN way a b m o p q x y)(S:QX way x y w f W3 seq ack far n l rows pb)(hT:¬Dc x y seq far n)(hc:0<=c/\c<=10000)(B0:DO p q c)(B1:DO q p c)(Og:0<=p.sc/\p.sc<=14)(F4:0<=q.sc/\q.sc<=14)(Cg:st=2\/st=3)(hu:now<un)(hb:(Builtin.bitAnd sta 2 != 0)=true):
  Bb g (d+12) 685 [.ref sn] [sn] [(sn,Cb pk now v0 1 i2 (.ref bk) rf),(bk,Ck T G R X Fw last),(T,CM),(G,.idict [(1,.ref tk)]),(R,Km rr),(rr 3,B5),(tk,BK 1 BX Ca un si sta st (.ref sl)),(sl,.list [.ref a,.ref b]),(m,x.sr.o),(o,y.sr.o),(pk,Cy pi pj 6 20 0 pm),(pi,.barr (Nv way seq ack (f+16) w n l))]
   [(sn,Cb pk now .none 1 0 (.ref bk) rf)] .none:=by
 have hD:Dir way a b m o:=by
  rcases hW with ⟨rfl,rfl,rfl,rfl,rfl⟩|⟨rfl,rfl,rfl,rfl,rfl⟩
  ·exact .inl ⟨rfl,rfl,rfl⟩
  ·exact .inr ⟨rfl,rfl,rfl⟩
 obtain⟨Bx,By,hs⟩:DO x y c/\DO y x c/\0<=x.sc/\x.sc<=14:=by
  rcases hW with ⟨rfl,rfl,rfl,rfl,rfl⟩|⟨rfl,rfl,rfl,rfl,rfl⟩
  ·exact⟨B0,B1,Og⟩
  ·exact⟨B1,B0,F4⟩
 have v:=S.tn Bx hs;have hw:=v.within hc Bx By;have hf:Fl 16 (f+16):=.add S.f;refine LF E S.pk hD S.po hf (by show x.mw≠0;have:=Bx.m;exact λe0=>L2 [] [_] 0x6414208021cc083e0 this.1 e0) S.farB.2.2.2.2 ?_ Cg ?_ hu (.inr hb)
 ·rw[hw];unfold Dc at hT;cases h:(decide (seq<=x.me)&&decide (x.e-y.mw<=seq+n)&&decide (far<=y.e)&&decide (y.e-max x.mw 66000<=far)) with
  |false=>rfl
  |true=>simp only[oZ,pr] at h;exact absurd ⟨h.1.1.1,h.1.1.2,h.1.2,h.2⟩ hT
 ·rcases hW with ⟨rfl,_⟩|⟨rfl,_⟩
  ·exact .inl ⟨rfl,rfl,rfl,rfl,rfl⟩
  ·exact .inr ⟨rfl,rfl,rfl,rfl,rfl⟩
omit E in
theorem Dc.within(h:Dc x y seq far n):(decide (seq<=x.me)&&decide (x.e-y.mw<=seq+n)&&decide (far<=y.e)&&decide (y.e-max x.mw 66000<=far))=true:=by obtain⟨h1,h2,h3,h4⟩:=h;simp[h1,h2,h3,h4]
theorem N1{p' q':Dr}{st' sta':Int}(hW:DN way a b m o p q x y)(Kw:DN way a b m o p' q' (x.snd seq ack n far (w*2^x.sc.toNat)) (y.rcv x seq ack n far (w*2^x.sc.toNat)))(S:QX way x y w f W3 seq ack far n l rows pb)(hT:Dc x y seq far n)(hc:0<=c/\c<=10000)(B0:DO p q c)(B1:DO q p c)(Og:0<=p.sc/\p.sc<=14)(F4:0<=q.sc/\q.sc<=14)
  (Cg:(st=2/\sta=10)\/(st=3/\sta=14)) (XJ:st'=if way=0\/st=3 then 3 else 2) (SV:sta'=if st'=3 then 14 else sta) (hu:now<un):
  Bb g (d+12) 685 [.ref sn] [sn,tk,a,b] [(sn,Cb pk now v0 1 i2 (.ref bk) rf),(bk,Ck T G R X Fw last),(T,CM),(G,.idict [(1,.ref tk)]),(R,Km rr),(rr 3,B5),(tk,BK 1 BX Ca un si sta st (.ref sl)),(sl,.list [.ref a,.ref b]),(a,p.sr.o),(b,q.sr.o),(pk,Cy pi pj 6 20 0 pm),(pi,.barr (Nv way seq ack (f+16) w n l))]
   [(sn,Cb pk now (.ref tk) 2 way (.ref bk) rf),(tk,BK 1 BX Ca (now+if p'.ua||q'.ua then min (CA st') 300000 else CA st') si sta' st' (.ref sl)),(a,p'.sr.o),(b,q'.sr.o)] .none:=by
 obtain⟨Bx,By,hs⟩:DO x y c/\DO y x c/\0<=x.sc/\x.sc<=14:=by
  rcases hW with ⟨rfl,rfl,rfl,rfl,rfl⟩|⟨rfl,rfl,rfl,rfl,rfl⟩
  ·exact⟨B0,B1,Og⟩
  ·exact⟨B1,B0,F4⟩
 have v:=S.tn Bx hs;have hw:=(v.within hc Bx By).trans hT.within;have mv:=v.mv hT.1 hT.2.2.1;have hf:Fl 16 (f+16):=.add S.f;have Ot:=S.farB.2.2.2.2;have e1:=mv.snd hc Bx By;have e2:=mv.rcv hc Bx By;have hm:x.sr.mw≠0:=by show x.mw≠0;have:=Bx.m;exact λe0=>L2 [] [_] 0x6414208021cc083e0 this.1 e0
 have oct:AY l:=by have:=S.pk.opts;rw[<-this];exact AY.cut (λz hz=>S.pk.oct z (ph hz)) _ _
 have Oe:∀sl s r aa bb,Dir way aa bb s r->∀st,Bb g (d+8) 571 [.ref sl,.int way,.int st,HN (seq%4294967296) (ack%4294967296) n w (f+16) l] [s,r] [(sl,.list [.ref aa,.ref bb]),(s,x.sr.o),(r,y.sr.o)] [(s,(x.snd seq ack n far (w*2^x.sc.toNat)).sr.o),(r,(y.rcv x seq ack n far (w*2^x.sc.toNat)).sr.o)] (.bool true):=λsl s r aa bb hd st=>by rw[<-e1,<-e2];exact Gy E hd S.po oct (by have:=S.pk.ll;exact L1 [_] [] 0x281640020fd02c80041 this) hf hm Ot hw S.w.1 S.w.2 hs.1 hs.2
 have hb:(Builtin.bitAnd sta 2==0)=false:=by rcases Cg with ⟨_,rfl⟩|⟨_,rfl⟩<;>decide
 have Mj:(Builtin.bitAnd sta 2 != 0)=true:=by rcases Cg with ⟨_,rfl⟩|⟨_,rfl⟩<;>decide
 rcases hW with ⟨rfl,rfl,rfl,rfl,rfl⟩|⟨rfl,rfl,rfl,rfl,rfl⟩
 ·rcases Kw with ⟨_,_,_,rfl,rfl⟩|⟨h,_⟩
  ·have k:=Ed (d:=d) (st:=st) (st':=3) (stt:=sta) (stt':=14) (so:=3) (bk:=bk) (T:=T) (G:=G) (R:=R) (X:=X) (Fw:=Fw) (tk:=tk) (sn:=sn) (pk:=pk) (pi:=pi) (pj:=pj) (pm:=pm) (last:=last) (i2:=i2) (v0:=v0) (rf:=rf) (rr:=rr) (un:=un) (now:=now) (si:=si) E S.pk hf (.inr (.inl rfl)) (.inr (.inl ⟨rfl,rfl⟩)) (Cg.elim (λh=>.inr (.inr (.inl ⟨rfl,rfl,h.1,rfl⟩))) λh=>.inr (.inr (.inr (.inl ⟨rfl,rfl,h.1,rfl⟩)))) (Oe sl m o m o (.inl ⟨rfl,rfl,rfl⟩) st) (.inl ⟨rfl,hb,by rcases Cg with ⟨_,rfl⟩|⟨_,rfl⟩<;>decide⟩) (.inr (by decide)) (.inl ⟨rfl,rfl,rfl,rfl,rfl⟩) hu (.inr Mj);rw[jU (show ¬(0:Int)=1 by decide)] at k;obtain rfl:st'=3:=XJ;obtain rfl:sta'=14:=SV;exact k
  ·exact absurd h (by decide)
 ·rcases Kw with ⟨h,_⟩|⟨_,_,_,rfl,rfl⟩
  ·exact absurd h (by decide)
  ·have k:=Ed (d:=d) (st:=st) (st':=st) (stt:=sta) (stt':=sta) (so:=3) (bk:=bk) (T:=T) (G:=G) (R:=R) (X:=X) (Fw:=Fw) (tk:=tk) (sn:=sn) (pk:=pk) (pi:=pi) (pj:=pj) (pm:=pm) (last:=last) (i2:=i2) (v0:=v0) (rf:=rf) (rr:=rr) (un:=un) (now:=now) (si:=si) E S.pk hf (.inr (.inl rfl)) (.inr (.inl ⟨rfl,rfl⟩)) (Cg.elim (λh=>.inr (.inr (.inr (.inr (.inl ⟨rfl,rfl,h.1,h.1⟩))))) λh=>.inr (.inr (.inr (.inr (.inr ⟨rfl,rfl,h.1,h.1⟩))))) (Bb.swap (Oe sl m o o m (.inr ⟨rfl,rfl,rfl⟩) st)) (.inl ⟨rfl,hb,by rcases Cg with ⟨rfl,rfl⟩|⟨rfl,rfl⟩<;>decide⟩) (.inr hb) (.inr ⟨rfl,rfl,rfl,rfl,rfl⟩) hu (.inr Mj);rw[lW (rfl:(1:Int)=1)] at k;obtain⟨rfl,rfl⟩:st'=st/\sta'=sta:=by rcases Cg with ⟨rfl,rfl⟩|⟨rfl,rfl⟩<;>(subst XJ;exact⟨rfl,SV⟩)
   rwa[show Builtin.bitOr sta' 2=sta' by rcases Cg with ⟨_,rfl⟩|⟨_,rfl⟩<;>decide] at k
end
theorem DN.next{x y p q:Dr}{way w f st seq ack far c:Int}{n:Nat}{l:List Int}{rows:List (Int×List Int)}{pb:Bool}{a b m o:Nat}(hW:DN way a b m o p q x y)(S:QX way x y w f st seq ack far n l rows pb)(hT:Dc x y seq far n)(hc:40<=c)(B0:DO p q c)(B1:DO q p c)(Og:0<=p.sc/\p.sc<=14)(F4:0<=q.sc/\q.sc<=14):
  ∃p' q',DN way a b m o p' q' (x.snd seq ack n far (w*2^x.sc.toNat)) (y.rcv x seq ack n far (w*2^x.sc.toNat))/\DO p' q' (c+120)/\DO q' p' (c+120)/\p'.sc=p.sc/\q'.sc=q.sc:=by
 rcases hW with ⟨rfl,rfl,rfl,rfl,rfl⟩|⟨rfl,rfl,rfl,rfl,rfl⟩
 ·have mv:=(S.tn B0 Og).mv hT.1 hT.2.2.1;exact⟨_,_,.inl ⟨rfl,rfl,rfl,rfl,rfl⟩,B0.snd hc B1 mv,B0.rcv hc B1 mv,rfl,rfl⟩
 ·have mv:=(S.tn B1 F4).mv hT.1 hT.2.2.1;exact⟨_,_,.inr ⟨rfl,rfl,rfl,rfl,rfl⟩,B1.rcv hc B0 mv,B1.snd hc B0 mv,rfl,rfl⟩
noncomputable abbrev Fq:Fn:=⟨"law",fS (st 126),809,.ref 808,[],["numbers","first","bases","both","book","now","talk","due","k","packet","way","step","is_right","scene","verdict","told"],[("range",.imm (.type "range")),("len",.imm (.builtin "len")),("_law_fresh",.imm (.ref 762)),("new_talks",.imm (.ref 628)),("_law_segment",.imm (.ref 790)),("Scene",.imm (.ref 710)),("track",.imm (.ref 685)),("_law_goes_on",.imm (.ref 804)),("_law_is_so",.imm (.ref 797)),("confirm",.imm (.ref 692)),("list",.imm (.type "list"))],none,[]⟩
theorem MD{g:Gl}(E:AM g):BV g Fq:=⟨by kernel_rfl,Er (by kernel_rfl),by decide+kernel,Et E (by kernel_rfl)⟩
theorem Sz{g:Gl}(E:AM g):M5 g Fq (bS (Y8 g.w.params)):=⟨⟨.type "function",none,#[],by rw[E.K];kernel_rfl⟩,by kernel_rfl,by kernel_rfl,by kernel_rfl,by kernel_rfl,by kernel_rfl,by kernel_rfl,by kernel_rfl,by rw[E.K];kernel_rfl,⟨by kernel_rfl,by kernel_rfl⟩⟩
noncomputable def VM:List Stmt:=(Np (λ_ _ b _ _=>some b) ((fB (st 126)).getD 6 (.Pass ⟨0,0,0,0⟩))).getD []
structure LI(k:Int)(p q:Dr)(st sta un now:Int):Prop where
 bd:∃c,40<=c/\c<=40+120*(k-2)/\DO p q c/\DO q p c
 sp:0<=p.sc/\p.sc<=14
 sq:0<=q.sc/\q.sc<=14
 st:(st=2/\sta=10)\/(st=3/\sta=14)
 un:now+1000*(8-k)<un
theorem eqT(c a:Int)(i:Nat):(!(true&&(c==c&&(a==a&&((i==i)==true&&true)))))=false:=by simp
theorem DN.to{way:Int}{r0 r1 m o a b:Nat}{p q x y p' q' x' y':Dr}(h:DN way r0 r1 m o p q x y)(h':DN way r0 r1 m o p' q' x' y'):∃m2 o2,DN way a b m2 o2 p q x y/\DN way a b m2 o2 p' q' x' y':=by
 rcases h with ⟨rfl,_,_,h2,h3⟩|⟨rfl,_,_,h2,h3⟩
 ·rcases h' with ⟨_,_,_,h4,h5⟩|⟨h,_⟩
  ·exact⟨a,b,.inl ⟨rfl,rfl,rfl,h2,h3⟩,.inl ⟨rfl,rfl,rfl,h4,h5⟩⟩
  ·exact absurd h (by decide)
 ·rcases h' with ⟨h,_⟩|⟨_,_,_,h4,h5⟩
  ·exact absurd h (by decide)
  ·exact⟨b,a,.inr ⟨rfl,rfl,rfl,h2,h3⟩,.inr ⟨rfl,rfl,rfl,h4,h5⟩⟩
theorem DN.uniq{way:Int}{r0 r1 m o:Nat}{p q x y p' q':Dr}(h:DN way r0 r1 m o p q x y)(h':DN way r0 r1 m o p' q' x y):p=p'/\q=q':=by
 rcases h with ⟨rfl,_,_,h2,h3⟩|⟨rfl,_,_,h2,h3⟩
 ·rcases h' with ⟨_,_,_,h4,h5⟩|⟨h,_⟩
  ·exact⟨h2.symm.trans h4,h3.symm.trans h5⟩
  ·exact absurd h (by decide)
 ·rcases h' with ⟨h,_⟩|⟨_,_,_,h4,h5⟩
  ·exact absurd h (by decide)
  ·exact⟨h3.symm.trans h5,h2.symm.trans h4⟩
noncomputable abbrev Hi(way st:Int):Int:=if way=0\/st=3 then 3 else 2
noncomputable abbrev KU(st' sta:Int):Int:=if st'=3 then 14 else sta
noncomputable abbrev Nm(p q:Dr)(st':Int):Int:=if p.ua||q.ua then min (CA st') 300000 else CA st'
theorem O6(way st:Int):Hi way st=2\/Hi way st=3:=by unfold Hi;split<;>simp
theorem Rj{p q:Dr}{st':Int}(h:st'=2\/st'=3):60000<=Nm p q st':=by unfold Nm;rcases h with e|e<;>rw[e]<;>split<;>decide
theorem LI.ok{k:Int}{p q:Dr}{st sta un now:Int}{r0 r1:Nat}{s:SY}(L:LI k p q st sta un now)(h:SD r0 r1 p q s)(t:s.tk=true):LI (k+1) s.p s.q (Hi s.way st) (KU (Hi s.way st) sta) (now+s.sp+Nm s.p s.q (Hi s.way st)) (now+s.sp):=by obtain⟨c,hc0,hc1,B0,B1⟩:=L.bd;have hT:=h.2.2.2.1 t;have Kw:=h.2.1;unfold SY.mx SY.my at Kw;rw[lW t,lW t] at Kw;obtain⟨p',q',hn,b0,b1,es,eq⟩:=h.1.next h.2.2.1 hT hc0 B0 B1 L.sp L.sq;obtain⟨rfl,rfl⟩:=Kw.uniq hn;have Og:=Rj (p:=s.p) (q:=s.q) (O6 s.way st);have XI:=h.2.2.1.st;have gX:=L.un;refine⟨⟨c+120,by exact L1 [] [_] 0x281660411e05906828166041 hc0,by exact L1 [] [_,_] 0x8390f47816c2816740810441c84390eba3c0b6140b3a1e05906a041 hc1,b0,b1⟩,es▸L.sp,eq▸L.sq,?_,by exact L3 [] [_,_,_,_,_] 0xc3a98099830441c8ba3c0b6140b3a24064220502cc06421841ad043916901cf7e816c20d6a4c1 hc0 hc1 Og⟩;have EK:s.way=0\/s.way=1:=h.1.elim (λh=>.inl h.1) λh=>.inr h.1;unfold KU Hi;rcases L.st with ⟨rfl,rfl⟩|⟨rfl,rfl⟩<;>rcases EK with e|e<;>rw[e]<;>decide
theorem LI.no{k:Int}{p q:Dr}{st sta un now:Int}{r0 r1:Nat}{s:SY}(L:LI k p q st sta un now)(h:SD r0 r1 p q s)(t:s.tk=false):LI (k+1) s.p s.q st sta un (now+s.sp)/\s.p=p/\s.q=q:=by obtain⟨c,hc0,hc1,B0,B1⟩:=L.bd;have Kw:=h.2.1;unfold SY.mx SY.my at Kw;rw[jU (by rw[t];decide),jU (by rw[t];decide)] at Kw;obtain⟨rfl,rfl⟩:=h.1.uniq Kw;have XI:=h.2.2.1.st;have gX:=L.un;exact⟨⟨⟨c,hc0,by exact L1 [] [_,_] 0x41c87a3c0b6140b3a0408220e421c875d1e05b0a059d02041 hc1,B0,B1⟩,L.sp,L.sq,L.st,by exact L2 [] [_,_,_,_] 0x312039efd02d835220fd02c864411843916901cf7e816c20d6a441 XI.2 gX⟩,rfl,rfl⟩
structure LV where
 tk:Nat
 sl:Nat
 a:Nat
 b:Nat
 p:Dr
 q:Dr
 un:Int
 si:Int
 sta:Int
 st:Int
 now:Int
 w1:Option V
 w2:Option V
 w3:Option V
 w4:Option V
 w5:Option V
 w6:Option V
 w7:Option V
structure LC where
 nl:Nat
 bb:Nat
 r0:Nat
 r1:Nat
 bk:Nat
 T:Nat
 G:Nat
 R:Nat
 X:Nat
 Fw:Nat
 du:Nat
 rr:Nat->Nat
 ns:List Int
 fi:Int
 b0:Int
 b1:Int
noncomputable abbrev jE(z:LC)(y:LV)(p q:Dr):Lg:=[⟨z.nl,.list (z.ns.map .int),true⟩,⟨z.bb,.list [.ref z.r0,.ref z.r1],true⟩,⟨z.r0,p.o,true⟩,⟨z.r1,q.o,true⟩,⟨z.bk,Ck z.T z.G z.R z.X z.Fw 1,true⟩,⟨z.T,CM,true⟩,⟨z.G,.idict [(1,.ref y.tk)],true⟩,⟨z.R,Km z.rr,true⟩,⟨z.rr 3,B5,true⟩,⟨y.tk,BK 1 BX Ca y.un y.si y.sta y.st (.ref y.sl),true⟩,⟨y.sl,.list [.ref y.a,.ref y.b],true⟩,⟨y.a,y.p.sr.o,true⟩,⟨y.b,y.q.sr.o,true⟩,⟨z.du,Sl y.st y.sta y.un,true⟩]
noncomputable abbrev Xm(z:LC)(y:LV):Lg:=jE z y y.p y.q
noncomputable abbrev Xl(z:LC)(y:LV)(tv:V)(kv:Option V):Loc:=[some (.ref z.nl),some (.int z.fi),some (.tup [.int z.b0,.int z.b1]),some (.ref z.bb),some (.ref z.bk),some (.int y.now),some tv,some (.ref z.du),kv,y.w1,y.w2,y.w3,y.w4,y.w5,y.w6,y.w7]
noncomputable abbrev QS(b0:Nat):Fn:=Fq.wc [("script",b0)] [("script",0)]
section
variable{g:Gl}(E:AM g){d:Nat}{bk T G R X Fw tk sn pk pi pj pm a b sl r0 r1:Nat}{k now un si last i2 sta st:Int}{v0:V}{rf rr:Nat->Nat}{p q:Dr}{s:SY}
include E
theorem LB(h:SD r0 r1 p q s)(t:s.tk=false){c6:Int}(L:LI k p q st sta un c6)(hk:0<=k/\k<8)(hu:now<un):Bb g (d+12) 685 [.ref sn] [sn] [(sn,Cb pk now v0 1 i2 (.ref bk) rf),(bk,Ck T G R X Fw last),(T,CM),(G,.idict [(1,.ref tk)]),(R,Km rr),(rr 3,B5),(tk,BK 1 BX Ca un si sta st (.ref sl)),(sl,.list [.ref a,.ref b]),(a,p.sr.o),(b,q.sr.o),(pk,Cy pi pj 6 20 0 pm),(pi,.barr (Nv s.way s.seq s.ack (s.f+16) s.w s.n s.l))]
   [(sn,Cb pk now .none 1 0 (.ref bk) rf)] .none:=by
 obtain⟨c,hc0,hc1,B0,B1⟩:=L.bd;obtain⟨m2,o2,w,_⟩:=h.1.to (a:=a) (b:=b) h.2.1;have hb:(Builtin.bitAnd sta 2 != 0)=true:=by rcases L.st with ⟨_,rfl⟩|⟨_,rfl⟩<;>decide
 have k:=N2 (d:=d) (bk:=bk) (T:=T) (G:=G) (R:=R) (X:=X) (Fw:=Fw) (tk:=tk) (sn:=sn) (pk:=pk) (pi:=pi) (pj:=pj) (pm:=pm) (last:=last) (i2:=i2) (v0:=v0) (rf:=rf) (rr:=rr) (un:=un) (now:=now) (si:=si) (sl:=sl) E w h.2.2.1 (h.2.2.2.2 t) (⟨L1 [] [_] 0x502cc0820066041 hc0,L2 [] [_,_] 0x10721e8f02d8502ce81020a0390c9e024e203c82041 hk.2 hc1⟩) B0 B1 L.sp L.sq (L.st.imp (·.1) (·.1)) hu hb;rcases w with ⟨_,rfl,rfl,e1,e2⟩|⟨_,rfl,rfl,e1,e2⟩
 ·rw[e1,e2] at k;exact k
 ·rw[e1,e2] at k;exact λos K I hk=>k os K (I.perm (.cons _ (.cons _ (.cons _ (.cons _ (.cons _ (.cons _ (.cons _ (.cons _ (.swap _ _ _)))))))))) hk
end
section
variable{g:Gl}(E:AM g){d b0:Nat}
include E
theorem EQ:BV g (QS b0):=(MD E).wc _ _
theorem NH(m:Mx ⟨g,QS b0,d+13,EQ E⟩){k v1 v2:Int}(z:LC)(y:LV)(Oi:¬k<2)(SQ:0<=k/\k<8)(n1:(z.ns.map V.int)[(2*k).toNat]? =some (.int v1))(n2:(z.ns.map V.int)[(2*k+1).toNat]? =some (.int v2))(L:LI k y.p y.q y.st y.sta y.un y.now)(Q:Loc->Lg->Prop)
  (next:∀(y':LV)ns H',LI (k+1) y'.p y'.q y'.st y'.sta y'.un y'.now->E2 ns H' (Xm z y')->Q (Xl z y' (.ref y'.tk) (some (.int k))) H'):Sm m ⟨.xs VM,[.n (.fin Q)],Xl z y (.ref y.tk) (some (.int k)),Xm z y⟩:=by
 have QM:¬k=0:=λe0=>L2 [] [_] 0x641420883906083e0 Oi e0;refine g1 0x49049541 (λ_ a=>a (Bi (L0 [] [] 0x800000000000000037220e4441)) (λ_=>rfl)) ?_;intro;refine sL (by kernel_rfl) (L1 [] [_] 0x41c830810083b066041 Oi) (L1 [] [_] 0x101c82481f4240264020ee441 SQ.2) n1 ?_;refine g0 0 ?_;intro;refine nL _ rfl (λnb hU=>?_);refine g1 0x2241 (λ_ a=>a (Bi (L0 [] [] 0x800000000000000037220e4441))) ?_;intro;refine sL (by kernel_rfl) (L1 [] [_] 0x41c83081087201077a066041 Oi) (L1 [] [_] 0x101c82481f424026421c8041dea441 SQ.2) n2 ?_;refine g0 0 ?_;intro;refine nL _ rfl (λob hJ=>?_);refine g0 196 ?_;intro;refine A3 (Gv (d:=d+1) (nb:=nb) (ob:=ob) (b:=z.bb) (r0:=z.r0) (r1:=z.r1) (p:=y.p) (q:=y.q) (x:=v1) (y:=v2) (k:=k) E Oi SQ L.sp L.sq) [1,0,3,4,5] [1,0,4,5] rfl (λ_=>rfl) λs hs fs=>?_;refine g0 0xa59518c19534c2ca ?_;intro;refine nD (.sdict []) .s (by kernel_rfl) (λfd hZ=>?_);refine g0 6 ?_;intro;refine A3 (Ip (d:=d+11) E) [] [] rfl (λ_=>rfl) λsn gY hG=>?_;refine g0 0x39754704e14e ?_;intro;have hu:y.now+s.sp<y.un:=by have:=L.un;have:=hs.2.2.1.st;exact L3 [] [_,_,_,_] 0x7d02c8644110d01cf7e816c1a910501c8e43e80c4106a441 SQ.2 ‹_› this.2
 refine(Bool.eq_false_or_eq_true s.tk).elim (λMi=>?_) λMi=>?_
 ·have LO:=L.ok hs Mi;have h8:(Builtin.bitAnd (KU (Hi s.way y.st) y.sta) 8 != 0)=true:=by rcases LO.st with ⟨_,h⟩|⟨_,h⟩<;>rw[h]<;>decide
  have hT:=hs.2.2.2.1 Mi;have Kw:=hs.2.1;unfold SY.mx SY.my at Kw;rw[lW Mi,lW Mi] at Kw;have Cg:=O6 s.way y.st;obtain⟨m2,o2,w1',w2'⟩:=hs.1.to (a:=y.a) (b:=y.b) Kw;obtain⟨c,hc0,hc1,B0,B1⟩:=L.bd;refine Ai (N1 (d:=d+1) (bk:=z.bk) (T:=z.T) (G:=z.G) (R:=z.R) (X:=z.X) (Fw:=z.Fw) (tk:=y.tk) (sn:=sn.1) (pk:=s.pk) (pi:=s.i) (pj:=s.j) (pm:=s.mt) (a:=y.a) (b:=y.b) (sl:=y.sl) (now:=y.now+s.sp) (un:=y.un) (si:=y.si) (last:=1) (i2:=0) (v0:=.none) (rf:=sn.2) (rr:=z.rr) (st':=Hi s.way y.st) (sta':=KU (Hi s.way y.st) y.sta) E w1' w2' hs.2.2.1 hT ⟨by exact L1 [] [_] 0x502cc0820066041 hc0,by exact L2 [] [_,_] 0x10721e8f02d8502ce81020a0390c9e024e203c82041 SQ.2 hc1⟩ B0 B1 L.sp L.sq L.st (by kernel_rfl) (by kernel_rfl) hu) [0,10,11,12,13,14,15,16,17,18,3,2] [0,15,17,18] (by kernel_rfl) (by kernel_rfl) ?_;refine g1 0x20418b2580cd1c710954f (λ_ a=>a (Mi) (gD (QM))) ?_;intro;refine Ai (EZ (d:=d+12) (b:=z.bb) (r0:=z.r0) (r1:=z.r1) (u:=z.du) (x:=s.p) (y:=s.q) (st':=Hi s.way y.st) (sta':=KU (Hi s.way y.st) y.sta) E (.inr Cg) (jU Oi).symm (jU (λe0=>L2 [] [_] 0x10e41420883906083e0 Oi e0)).symm) [7,8,9,19] [19] rfl rfl ?_;refine g0 0x1c404e18138504e3d5 ?_;intro;refine eZ 15 15 rfl ?_;refine g1 0x4b1090cd410 (λ_ a=>a (gD (QM)) (Mi)) ?_;intro;refine wK _ _ rfl (eqT _ _ _) ?_;refine g1 0x2041d9084342 (λ_ a=>a (UB (Mi))) ?_;intro;refine Ai (CI (d:=d+11) (tk:=y.tk) (b:=z.bb) (l:=y.sl) (r0:=z.r0) (r1:=z.r1) (s0:=y.a) (s1:=y.b) (v:=z.du) (t0:=BX) (t1:=Ca) (st:=Hi s.way y.st) (sta:=KU (Hi s.way y.st) y.sta) (un:=y.now+s.sp+Nm s.p s.q (Hi s.way y.st)) (si:=y.si) (y:=s.p) (z:=s.q) E) [15,16,17,18,7,8,9,19] [] (by kernel_rfl) (by kernel_rfl) ?_;refine g0 0x39a082 ?_;intro;refine Ai (DX (d:=d+10) (sn:=sn.1) (pk:=s.pk) (now:=y.now+s.sp) (tk:=y.tk) (i1:=2) (i2:=s.way) (bk:=z.bk) (rf:=sn.2) (un:=y.now+s.sp+Nm s.p s.q (Hi s.way y.st)) (si:=y.si) (st:=Hi s.way y.st) (sd:=.ref y.sl) E h8) [0,15] [] (by kernel_rfl) (by kernel_rfl) ?_;refine g1 0x4094208407094202508109081 (λ_ a=>a (UB (jL (rfl))) (gD (QM))) ?_;intro;exact eF (by kernel_rfl) (next ⟨y.tk,y.sl,y.a,y.b,s.p,s.q,y.now+s.sp+Nm s.p s.q (Hi s.way y.st),y.si,KU (Hi s.way y.st) y.sta,Hi s.way y.st,y.now+s.sp,_,_,_,_,_,_,_⟩ [6,7,8,9,10,11,12,13,14,15,16,17,18,19] _ LO (by kernel_rfl))
 ·have LN:=L.no hs Mi;have cc:Bb g (d+13) 797 [.ref y.tk,.ref z.bb,.ref z.du] [] [(y.tk,BK 1 BX Ca y.un y.si y.sta y.st (.ref y.sl)),(y.sl,.list [.ref y.a,.ref y.b]),(y.a,y.p.sr.o),(y.b,y.q.sr.o),(z.bb,.list [.ref z.r0,.ref z.r1]),(z.r0,s.p.o),(z.r1,s.q.o),(z.du,Sl y.st y.sta y.un)] [] (.bool true):=by
   rw[LN.2.1,LN.2.2];exact CI E
  refine Ai (LB (d:=d+1) (bk:=z.bk) (T:=z.T) (G:=z.G) (R:=z.R) (X:=z.X) (Fw:=z.Fw) (tk:=y.tk) (sn:=sn.1) (pk:=s.pk) (pi:=s.i) (pj:=s.j) (pm:=s.mt) (a:=y.a) (b:=y.b) (sl:=y.sl) (now:=y.now+s.sp) (un:=y.un) (si:=y.si) (last:=1) (i2:=0) (v0:=.none) (rf:=sn.2) (rr:=z.rr) (sta:=y.sta) E hs Mi L SQ hu) [0,10,11,12,13,14,15,16,17,18,3,2] [0] (by kernel_rfl) (by kernel_rfl) ?_;refine g1 0x1c404e18138504e3d510d1c710954f (λ_ a=>a (Mi) (gD (QM))) ?_;intro;refine Zw rfl ?_;refine g1 0x1c404e10d410 (λ_ a=>a (Mi)) ?_;intro;refine Zw rfl ?_;refine g1 0x2041d908204404e0cd081 (λ_ a=>a (ip (Mi))) ?_;intro;refine Ai cc [15,16,17,18,7,8,9,19] [] (by kernel_rfl) (by kernel_rfl) ?_;refine g0 0x39a082 ?_;intro;refine Ai (GA (d:=d+10) (sn:=sn.1) (pk:=s.pk) (now:=y.now+s.sp) (i1:=1) (i2:=0) (bk:=z.bk) (rf:=sn.2) E) [0] [] (by kernel_rfl) (by kernel_rfl) ?_;refine g1 0x4094208407094202508109081 (λ_ a=>a (UB (jL (rfl))) (gD (QM))) ?_;intro;refine eF (by kernel_rfl) (next ⟨y.tk,y.sl,y.a,y.b,y.p,y.q,y.un,y.si,y.sta,y.st,y.now+s.sp,_,_,_,_,_,_,_⟩ [6,7,8,9,10,11,12,13,14,15,16,17,18,19] _ (LN.2.1▸LN.2.2▸LN.1) ?_);suffices h:∀p1 q1,p1=s.p->q1=s.q->E2 _ _ (jE z _ p1 q1) from h _ _ LN.2.1.symm LN.2.2.symm
  rintro _ _ rfl rfl;kernel_rfl
end
theorem Hk(rows:List (Int×List Int)):Ah rows<=14:=by
 unfold Ah;have h:∀(l:List (Int×List Int))(s:Int),s<=14->l.foldl (λs r=>if r.1=3/\r.2.length=1 then min (r.2.headD 0) 14 else s) s<=14:=by
  intro l;induction l with
  |nil=>exact λs h=>h
  |cons r l ih=>
   intro s hs;rw[su];refine ih _ ?_;split
   ·exact L1 [] [_] 0x707208105c1c82041 (Int.min_le_right (r.snd.headD 0) 14)
   ·exact hs
 exact h rows (-1) (L0 [] [] 0xe0e421cfa041)
noncomputable abbrev Xn:Dr:=⟨0,0,0,0,0,false,false,false,false⟩
def aY(p q:Dr):Prop:=∃e m s i k,(1<=m/\m<65536)/\(0<=s/\s<=14)/\p=⟨e,e,m,0,s,i,k,false,false⟩/\q=⟨0,m,0,0,0,false,false,false,false⟩
noncomputable abbrev Xa(b0:Int)(s:SX):Dr:=⟨b0+s.n+1,b0+s.n+1,max s.w 1,0,max (Ah s.rows) 0,decide (0<=Ah s.rows),BP s.rows,false,false⟩
noncomputable abbrev W8(s:SX):Dr:=⟨0,max s.w 1,0,0,0,false,false,false,false⟩
theorem VC{b0:Int}{s:SX}:Ob (b0%4294967296) s.n s.w s.rows=(Xa b0 s).sr.o:=
 have h:AO 2 (b0%4294967296) s.n=(b0+s.n+1)%4294967296:=by unfold AO;rw[jU (by decide)];exact Fx (-(b0/4294967296)) (bC (L1 [_] [_,_,_] 0x1008800000001f7aa1045e2000000007d843907c3ad6821c83e0d6a041 (bf b0 4294967296)) (L1 [_] [_,_,_] 0x104800000001f7aa18421c83e2d683e2000000007d843907c1ad6a041 (bf b0 4294967296)))
 Ek h h rfl rfl rfl rfl rfl rfl rfl
theorem Vx{s:SX}(h:0<=s.w/\s.w<65536):Qv s.w=(W8 s).sr.o:=Ek rfl (by show max s.w 1=max s.w 1%4294967296;exact bC (L1 [] [_,_] 0x6861082041 (show(Max.max s.w 1)%4294967296=Max.max s.w 1 from Fh 0 (bC (L0 [] [_] 0x320d02041) (L0 [] [_] 419864641)) (L2 [] [_,_] 0x1810420cc0820066041 h.1 (jO s.w 1)) (DF s.w 1 (λu2 v2=>L1 [] [_] 0x21c828412000000007c82441 v2) (λu2 v2=>L2 [] [_,_] 0x105082200004c864412000000007c82441 h.2 v2)))) (L1 [] [_,_] kg (show(Max.max s.w 1)%4294967296=Max.max s.w 1 from Fh 0 (bC (L0 [] [_] 0x320d02041) (L0 [] [_] 419864641)) (L2 [] [_,_] 0x1810420cc0820066041 h.1 (jO s.w 1)) (DF s.w 1 (λu2 v2=>L1 [] [_] 0x21c828412000000007c82441 v2) (λu2 v2=>L2 [] [_,_] 0x105082200004c864412000000007c82441 h.2 v2))))) rfl rfl rfl rfl rfl rfl rfl
theorem aY.of{b0:Int}{s:SX}(h:0<=s.w/\s.w<65536):aY (Xa b0 s) (W8 s):=⟨b0+s.n+1,max s.w 1,max (Ah s.rows) 0,decide (0<=Ah s.rows),BP s.rows,by exact⟨L1 [] [_] 0x4398104010e6041 (lX s.w 1),DF s.w 1 (λu0 v0=>L1 [] [_] 0x43905082200004c82441 v0) (λu0 v0=>L2 [] [_,_] 0x20a10440000990c882200004c82441 h.2 v0)⟩,⟨by exact L1 [] [_] kf (lX (Mine.Ah s.rows) 0),by have:=Hk s.rows;exact DF (Mine.Ah s.rows) 0 (λu0 v0=>L1 [] [_] 0x320a105c1c82041 v0) (λu0 v0=>L2 [] [_,_] 0x82841707218105c1c82041 this v0)⟩,rfl,rfl⟩
noncomputable abbrev gw(z:LC):Lg:=[⟨z.nl,.list (z.ns.map .int),true⟩,⟨z.bb,.list [.ref z.r0,.ref z.r1],true⟩,⟨z.r0,Xn.o,true⟩,⟨z.r1,Xn.o,true⟩,⟨z.bk,Ck z.T z.G z.R z.X z.Fw 0,true⟩,⟨z.T,.tdict [],true⟩,⟨z.G,.idict [],true⟩,⟨z.R,Km z.rr,true⟩,⟨z.X,.list [],true⟩,⟨z.rr 3,B5,true⟩,⟨z.du,Sl 0 0 0,true⟩]
noncomputable abbrev gu(z:LC)(now:Int)(kv w1 w2 w3 w4 w5 w6 w7:Option V):Loc:=[some (.ref z.nl),some (.int z.fi),some (.tup [.int z.b0,.int z.b1]),some (.ref z.bb),some (.ref z.bk),some (.int now),some .none,some (.ref z.du),kv,w1,w2,w3,w4,w5,w6,w7]
section
variable{g:Gl}(E:AM g){d b0:Nat}
include E
theorem NJ(m:Mx ⟨g,QS b0,d+13,EQ E⟩){v1 v2 now:Int}{w1 w2 w3 w4 w5 w6 w7:Option V}(z:LC)(n1:(z.ns.map V.int)[(2*(0:Int)).toNat]? =some (.int v1))(n2:(z.ns.map V.int)[(2*(0:Int)+1).toNat]? =some (.int v2))(Q:Loc->Lg->Prop)
  (next:∀(y':LV)ns H',aY y'.p y'.q->y'.un=y'.now+120000->y'.sta=8->y'.st=1->E2 ns H' (Xm z y')->Q (Xl z y' (.ref y'.tk) (some (.int 0))) H'):Sm m ⟨.xs VM,[.n (.fin Q)],gu z now (some (.int 0)) w1 w2 w3 w4 w5 w6 w7,gw z⟩:=by
 refine g1 0x49049541 (λ_ a=>a (Bi (L0 [] [] 0x800000000000000037220e4441)) (λ_=>rfl)) ?_;intro;refine sL (by kernel_rfl) (by decide) (by decide) n1 ?_;refine g0 0 ?_;intro;refine nL _ rfl (λnb hU=>?_);refine g1 0x2241 (λ_ a=>a (Bi (L0 [] [] 0x800000000000000037220e4441))) ?_;intro;refine sL (by kernel_rfl) (by decide) (by decide) n2 ?_;refine g0 0 ?_;intro;refine nL _ rfl (λob hJ=>?_);refine g0 196 ?_;intro;refine A3 (Gx (d:=d+1) (nb:=nb) (ob:=ob) (b:=z.bb) (r0:=z.r0) (r1:=z.r1) (p:=Xn) (q:=Xn) (x:=v1) (y:=v2) (B0:=z.b0) (B1:=z.b1) E) [1,0,3,4,5] [1,0,4,5] (by kernel_rfl) (λ_=>rfl) λs hs fs=>?_;refine g0 0xa59518c19534c2ca ?_;intro;refine nD (.sdict []) .s (by kernel_rfl) (λfd hZ=>?_);refine g0 6 ?_;intro;refine A3 (Ip (d:=d+11) E) [] [] rfl (λ_=>rfl) λsn gY hG=>?_;refine g0 0x39754704e14e ?_;intro;have cu:Fl 2 (s.f+2):=.add hs.2.2.2.2.2.1;have bZ:WO g (d+13) 685 [.ref sn.1] sn.1 z.bk s.pk sn.2 (now+s.sp) [(sn.1,Cb s.pk (now+s.sp) .none 1 0 (.ref z.bk) sn.2),(z.bk,Ck z.T z.G z.R z.X z.Fw 0),(z.T,.tdict []),(z.G,.idict []),(z.R,Km z.rr),(z.X,.list []),(z.rr 3,B5),(s.pk,Cy s.i s.j 6 20 0 s.mt),(s.i,.barr (CU [10,0,0,1] [192,0,2,1] [3,232] [0,80] z.b0 0 (s.f+2) s.w s.n s.l))] (Xa z.b0 s).sr.o (W8 s).sr.o z.T z.G z.R z.X z.Fw:=by rw[<-VC,<-Vx hs.2.2.2.1];exact J1 E hs.1 hs.2.1 cu hs.2.2.2.1.1 hs.2.2.2.1.2
 refine A3 bZ [0,10,11,12,13,14,15,3,2] [0,10] (by kernel_rfl) (λ_=>rfl) λi hi fi=>?_;refine g0 0x20418b25804d1c414e04954f ?_;intro;refine Ai (EZ (d:=d+12) (k:=0) (way:=0) (st:=0) (sta:=0) (un:=0) (now:=now+s.sp) (b:=z.bb) (r0:=z.r0) (r1:=z.r1) (u:=z.du) (x:=Xa z.b0 s) (y:=W8 s) (st':=1) (sta':=0) E (.inl rfl) (by kernel_rfl) rfl) [11,12,13,20] [20] (by kernel_rfl) (by kernel_rfl) ?_;refine g0 0x1c414e18538514e3d5 ?_;intro;refine eZ 3 3 rfl ?_;refine g0 0x4b04904d410 ?_;intro;refine wK _ _ rfl (eqT _ _ _) ?_;refine g0 0x2041d9082342 ?_;intro;refine Ai (CI (d:=d+11) (tk:=i.1) (b:=z.bb) (l:=i.2.2.2) (r0:=z.r0) (r1:=z.r1) (s0:=i.2.1) (s1:=i.2.2.1) (v:=z.du) (t0:=BX) (t1:=Ca) (st:=1) (sta:=0) (un:=now+s.sp+120000) (si:=now+s.sp) (y:=Xa z.b0 s) (z:=W8 s) E) [3,0,2,1,11,12,13,20] [] (by kernel_rfl) (by kernel_rfl) ?_;refine g0 0x39a082 ?_;intro;refine Ai (Hc (d:=d+10) (sn:=sn.1) (pk:=s.pk) (now:=now+s.sp) (tk:=i.1) (bk:=z.bk) (T:=z.T) (G:=z.G) (R:=z.R) (X:=z.X) (Fw:=z.Fw) (rf:=sn.2) (un:=now+s.sp+120000) (si:=now+s.sp) (st:=1) (sd:=.ref i.2.2.2) E) [4,14,15,16,3] [15,16,3] (by kernel_rfl) (by kernel_rfl) ?_;refine g0 0x2095208107095202548049081 ?_;intro;exact eF (by kernel_rfl) (next ⟨i.1,i.2.2.2,i.2.1,i.2.2.1,Xa z.b0 s,W8 s,now+s.sp+120000,now+s.sp,8,1,now+s.sp,_,_,_,_,_,_,_⟩ [10,11,12,13,14,15,16,17,19,3,0,2,1,20] _ (aY.of hs.2.2.2.1) (by kernel_rfl) (by kernel_rfl) (by kernel_rfl) (by kernel_rfl))
noncomputable abbrev W9(e0 m0 s0:Int)(ic sk:Bool)(s:SX):Dr:=⟨e0,e0+max s.w 1,m0,0,if ic&&decide (0<=Ah s.rows) then s0 else 0,ic,sk,false,false⟩
noncomputable abbrev W7(b1 e0:Int)(ic:Bool)(s:SX):Dr:=⟨b1+s.n+1,b1+s.n+1,max s.w 1,e0,if ic&&decide (0<=Ah s.rows) then max (Ah s.rows) 0 else 0,decide (0<=Ah s.rows),BP s.rows,true,false⟩
omit E in
theorem LI.of{b1 e0 m0 s0 now:Int}{ic sk:Bool}{s:SX}(FR:1<=m0/\m0<65536)(Uj:0<=s0/\s0<=14)(hw:0<=s.w/\s.w<65536):LI 2 (W9 e0 m0 s0 ic sk s) (W7 b1 e0 ic s) 2 10 (now+60000) now:=by
 have Dj:max m0 1=m0:=bC (DF m0 1 (λu1 v1=>L2 [] [_,_] 0x8720a104210e6041082041 FR.1 v1) (λu1 v1=>L1 [] [_,_] kg v1)) (L1 [] [_,_] 0x82041082041 (jO m0 1));have B:=DO.init (e0:=e0) (e1:=b1+s.n+1) (w0:=m0) (w1:=s.w) (ma0:=0) (s0:=if ic&&decide (0<=Ah s.rows) then s0 else 0) (s1:=if ic&&decide (0<=Ah s.rows) then max (Ah s.rows) 0 else 0) (i0:=ic) (k0:=sk) (u0:=false) (i1:=decide (0<=Ah s.rows)) (k1:=BP s.rows) (u1:=false) ⟨by exact L1 [] [_] 0x21cc0820066041 FR.1,FR.2⟩ hw;rw[Dj] at B;have co:=Hk s.rows;refine⟨⟨40,by exact L0 [] [] 0x2816428166041,by exact L0 [] [] 0x2816428166041,B⟩,?_,?_,.inl ⟨rfl,rfl⟩,by exact L0 [] [_] 0x1d4c04c8345dc07906a441⟩
 ·dsimp only;split<;>(first|exact Uj|exact⟨L0 [] [] 419848257,L0 [] [] 0x3839066041⟩)
 ·dsimp only;split<;>(first|exact⟨L1 [] [_] kf (lX (Mine.Ah s.rows) 0),DF (Mine.Ah s.rows) 0 (λu0 v0=>L1 [] [_] 0x320a105c1c82041 v0) (λu0 v0=>L2 [] [_,_] 0x82841707218105c1c82041 co v0)⟩|exact⟨L0 [] [] 419848257,L0 [] [] 0x3839066041⟩)
theorem Ll{b1 e0 m0 s0:Int}{ic sk:Bool}{sl a b:Nat}{s:SX}(hs:WJ 1 [192,0,2,1] [10,0,0,1] [0,80] [3,232] 3221225985 167772161 80 1000 b1 e0 18 s)(FR:1<=m0/\m0<65536):a8 g d sl a b 1 1 (HN (b1%4294967296) (e0%4294967296) s.n s.w (s.f+18) s.l) (Dr.sr ⟨e0,e0,m0,0,s0,ic,sk,false,false⟩).o (Dr.sr ⟨0,m0,0,0,0,false,false,false,false⟩).o (W9 e0 m0 s0 ic sk s).sr (W7 b1 e0 ic s).sr:=by
 have F:=hs.1;have hn:=hs.2.2.2.2.1;have oct:AY s.l:=by have:=F.opts;rw[<-this];exact AY.cut (λz hz=>F.oct z (ph hz)) _ _
 have k:=FE (d:=d) (sl:=sl) (a:=a) (b:=b) (sq:=b1%4294967296) (n:=s.n) (w:=s.w) (fl:=s.f+18) (e0:=e0%4294967296) (mw0:=m0) (m:=m0) (sc0:=s0) (isc0:=ic) (sk0:=sk) E hs.2.1 oct (by have:=F.ll;exact L1 [_] [] 0x281640020fd02c80041 this) (.add hs.2.2.2.2.2.1) hs.2.2.2.1.1 hs.2.2.2.1.2 (L0 [_] [] 520511553) (L1 [_] [] 0x402c80441fa05907e041 hn) (L1 [] [_] kf (dq e0 (show(4294967296:Int)≠0 by decide))) (L1 [] [_] 0x2000000007c824412000000007c82441 (bX e0 (show(0:Int)<4294967296 by decide))) FR.1 FR.2 (by rw[No _ hs.2.2.1];exact Fx (-(e0/4294967296)) (Fh (e0/4294967296) (bC (L0 [] [_,_] n5) (L0 [] [_,_] n6)) (L2 [] [_,_,_] n7 (bf e0 4294967296) (dq e0 (show(4294967296:Int)≠0 by decide))) (L2 [] [_,_,_] n8 (bf e0 4294967296) (bX e0 (show(0:Int)<4294967296 by decide)))));have gV:∀z:Int,(if (ic&&decide (0<=Ah s.rows))=true then z else 0)=if 0<=Ah s.rows/\ic=true then z else 0:=λz=>by simp only[oZ,pr,and_comm]
 have lQ:AO 18 (b1%4294967296) s.n=(b1+s.n+1)%4294967296:=by unfold AO;rw[jU (by decide)];exact Fx (-(b1/4294967296)) (bC (L1 [_] [_,_,_] 0x1008800000001f7aa1045e2000000007d843907c3ad6821c83e0d6a041 (bf b1 4294967296)) (L1 [_] [_,_,_] 0x104800000001f7aa18421c83e2d683e2000000007d843907c1ad6a041 (bf b1 4294967296)))
 have e2:(Dr.sr ⟨0,m0,0,0,0,false,false,false,false⟩).o=Br 0 m0 0 0 0 false false false false false false:=Ek rfl (by show m0%4294967296=m0;exact Fh 0 (bC (L0 [] [_] 0x320d02041) (L0 [] [_] 419864641)) (L1 [] [_] 0x21cc0820066041 FR.1) (L1 [] [_] 0x200004c824412000000007c82441 FR.2)) rfl rfl rfl rfl rfl rfl rfl;have e3:(W9 e0 m0 s0 ic sk s).sr.o=Br (e0%4294967296) ((e0%4294967296+max s.w 1)%4294967296) m0 0 (if 0<=Ah s.rows/\ic=true then s0 else 0) ic sk false false false false:=Ek rfl (by show(e0+max s.w 1)%4294967296=(e0%4294967296+max s.w 1)%4294967296;exact Fx (e0/4294967296) (bC (L1 [] [_,_,_,_] 0x219000000003ef54308c800000001f6116b4106a041 (bf e0 4294967296)) (L1 [] [_,_,_,_] 0x6011000000003ef5420847a11000000003ec20d6a041 (bf e0 4294967296)))) rfl rfl (gV s0) rfl rfl rfl rfl
 have e4:(W7 b1 e0 ic s).sr.o=Br (AO 18 (b1%4294967296) s.n) (AO 18 (b1%4294967296) s.n) (max s.w 1) (e0%4294967296) (if 0<=Ah s.rows/\ic=true then max (Ah s.rows) 0 else 0) (decide (0<=Ah s.rows)) (BP s.rows) true false false false:=by rw[lQ];exact Ek rfl rfl rfl rfl (gV _) rfl rfl rfl rfl
 unfold a8;rw[e2,e3,e4];exact Bb.swap k
theorem NI(m:Mx ⟨g,QS b0,d+13,EQ E⟩){v1 v2 now si e0 m0 s0:Int}{tk sl a b:Nat}{ic sk:Bool}{w1 w2 w3 w4 w5 w6 w7:Option V}(z:LC)(FR:1<=m0/\m0<65536)(Uj:0<=s0/\s0<=14)(n1:(z.ns.map V.int)[(2*(1:Int)).toNat]? =some (.int v1))(n2:(z.ns.map V.int)[(2*(1:Int)+1).toNat]? =some (.int v2))(Q:Loc->Lg->Prop)
  (next:∀(y':LV)ns H',LI 2 y'.p y'.q y'.st y'.sta y'.un y'.now->E2 ns H' (Xm z y')->Q (Xl z y' (.ref y'.tk) (some (.int 1))) H'):Sm m ⟨.xs VM,[.n (.fin Q)],Xl z ⟨tk,sl,a,b,⟨e0,e0,m0,0,s0,ic,sk,false,false⟩,⟨0,m0,0,0,0,false,false,false,false⟩,now+120000,si,8,1,now,w1,w2,w3,w4,w5,w6,w7⟩ (.ref tk) (some (.int 1)),Xm z ⟨tk,sl,a,b,⟨e0,e0,m0,0,s0,ic,sk,false,false⟩,⟨0,m0,0,0,0,false,false,false,false⟩,now+120000,si,8,1,now,w1,w2,w3,w4,w5,w6,w7⟩⟩:=by
 refine g1 0x49049541 (λ_ a=>a (Bi (L0 [] [] 0x800000000000000037220e4441)) (λ_=>rfl)) ?_;intro;refine sL (by kernel_rfl) (by decide) (by decide) n1 ?_;refine g0 0 ?_;intro;refine nL _ rfl (λnb hU=>?_);refine g1 0x2241 (λ_ a=>a (Bi (L0 [] [] 0x800000000000000037220e4441))) ?_;intro;refine sL (by kernel_rfl) (by decide) (by decide) n2 ?_;refine g0 0 ?_;intro;refine nL _ rfl (λob hJ=>?_);refine g0 196 ?_;intro;refine A3 (Gw (d:=d+1) (nb:=nb) (ob:=ob) (b:=z.bb) (r0:=z.r0) (r1:=z.r1) (p:=⟨e0,e0,m0,0,s0,ic,sk,false,false⟩) (q:=⟨0,m0,0,0,0,false,false,false,false⟩) (x:=v1) (y:=v2) (B0:=z.b0) (B1:=z.b1) E) [1,0,3,4,5] [1,0,4,5] (by kernel_rfl) (λ_=>rfl) λs hs fs=>?_;refine g0 0xa59518c19534c2ca ?_;intro;refine nD (.sdict []) .s (by kernel_rfl) (λfd hZ=>?_);refine g0 6 ?_;intro;refine A3 (Ip (d:=d+11) E) [] [] rfl (λ_=>rfl) λsn gY hG=>?_;refine g0 0x39754704e14e ?_;intro;have bZ:=Ed (d:=d+1) (st:=1) (st':=2) (stt:=8) (stt':=8) (so:=1) (bk:=z.bk) (T:=z.T) (G:=z.G) (R:=z.R) (X:=z.X) (Fw:=z.Fw) (tk:=tk) (sn:=sn.1) (pk:=s.pk) (pi:=s.i) (pj:=s.j) (pm:=s.mt) (last:=1) (i2:=0) (v0:=.none) (rf:=sn.2) (rr:=z.rr) (un:=now+120000) (now:=now+s.sp) (si:=si) (a:=a) (b:=b) (sl:=sl) E hs.1 (.add hs.2.2.2.2.2.1) (.inr (.inr rfl)) (.inr (.inr ⟨rfl,rfl⟩)) (.inr (.inl ⟨rfl,rfl,rfl,rfl⟩)) (Ll (d:=d+1) (a:=a) (b:=b) (sl:=sl) (m0:=m0) (s0:=s0) (ic:=ic) (sk:=sk) E hs FR) (.inr ⟨by decide,by decide,rfl⟩) (.inl (by decide)) (.inr ⟨rfl,rfl,rfl,rfl,rfl⟩) (by have:=hs.2.2.2.2.2.2;exact L1 [] [_,_] 0xfa0590c8823a9804c834106a441 this.2) (.inl rfl);refine Ai bZ [0,10,11,12,13,14,15,16,17,18,3,2] [0,15,17,18] (by kernel_rfl) (by kernel_rfl) ?_;refine g0 0x20418b25804d1c708954f ?_;intro;refine Ai (EZ (d:=d+12) (k:=1) (way:=1) (st:=1) (sta:=8) (un:=now+120000) (now:=now+s.sp) (b:=z.bb) (r0:=z.r0) (r1:=z.r1) (u:=z.du) (x:=W9 e0 m0 s0 ic sk s) (y:=W7 z.b1 e0 ic s) (st':=2) (sta':=10) E (.inr (.inl rfl)) (by kernel_rfl) rfl) [7,8,9,19] [19] (by kernel_rfl) (by kernel_rfl) ?_;refine g0 0x1c404e18138504e3d5 ?_;intro;refine eZ 15 15 rfl ?_;refine g0 0x4b08904d410 ?_;intro;refine wK _ _ rfl (eqT _ _ _) ?_;refine g0 0x2041d9082342 ?_;intro;refine Ai (CI (d:=d+11) (tk:=tk) (b:=z.bb) (l:=sl) (r0:=z.r0) (r1:=z.r1) (s0:=a) (s1:=b) (v:=z.du) (t0:=BX) (t1:=Ca) (st:=2) (sta:=10) (un:=now+s.sp+60000) (si:=si) (y:=W9 e0 m0 s0 ic sk s) (z:=W7 z.b1 e0 ic s) E) [15,16,17,18,7,8,9,19] [] (by kernel_rfl) (by kernel_rfl) ?_;refine g0 0x39a082 ?_;intro;refine Ai (DX (d:=d+10) (sn:=sn.1) (pk:=s.pk) (now:=now+s.sp) (tk:=tk) (i1:=2) (i2:=1) (bk:=z.bk) (rf:=sn.2) (un:=now+s.sp+60000) (si:=si) (st:=2) (stt:=10) (sd:=.ref sl) E (by decide)) [0,15] [] (by kernel_rfl) (by kernel_rfl) ?_;refine g0 0x2094208407094202508089081 ?_;intro;exact eF (by kernel_rfl) (next ⟨tk,sl,a,b,W9 e0 m0 s0 ic sk s,W7 z.b1 e0 ic s,now+s.sp+60000,si,10,2,now+s.sp,_,_,_,_,_,_,_⟩ [6,7,8,9,10,11,12,13,14,15,16,17,18,19] _ (LI.of FR Uj hs.2.2.2.1) (by kernel_rfl))
end
def LL(g:Gl)(a:Addr)(ns:List Int):Prop:=∃vs:List Value,g.base.IsList a vs.toArray/\Aj [] g.base (ns.map .int) vs
theorem Aj.ints{ad HL:AH}{h h':Heap}:∀{ns:List Int}{vs:List Value},Aj ad h (ns.map .int) vs->Aj HL h' (ns.map .int) vs
 |[],_,r=>by simpa only[pC,Aj] using r
 |n::ns,_,r=>by simp only[ik,Aj,VR] at r⊢;obtain⟨x,t,rfl,r1,r2⟩:=r;exact⟨x,t,rfl,r1,r2.ints⟩
section
variable{g:Gl}{d:Nat}{os:List O}{K:List O->V->Prop}
theorem Jk{value:Expr}{lo hi:Option Expr}{sp:Pos}{ns:List Int}{a0:Addr}{a b:V}{x y:Option Int}(hL:LL g a0 ns)(ha:BD a x)(hb:BD b y)(Ac:ns.length<=1000000)(hk:K (os++[.list (cut (ns.map .int) x y)]) (.ref os.length))
  (ht:∀r a,letTemporaryGo value (.ref a) r=pure ()):QZ g d (O8 g.M value (.Slice lo hi none sp)) [.imm (.ref a0),a,b] os K:=by
 intro A s ad L m vs Q hr hs hf AK hq;obtain⟨v1,v2,v3,rfl,r1,r2,r3⟩:=AK.three;simp only[VR] at r1;subst r1;obtain⟨xs,⟨o,Ol,hc,n1,hd⟩,w0⟩:=hL;have w1:Aj ad s.heap (ns.map .int) xs:=w0.ints;have l1:s.heap.IsList a0 xs.toArray:=⟨o,hs.old _ _ Ol,hc,n1,hd⟩;have hl:=w1.length;rw[gI] at hl;show Aa g.M A (newFields "slice" [v2,v3,.none]) _ s;refine Aa.of (pO (T:="slice") (data:=.fields #[v2,v3,.none]) (dict:=none) (Q:=λi s'=>Aa g.M A (subscriptTail value _ _ i) Q s') (Aa.of ?_));refine PyProof.Rows.slice_list (hf.fr hs) hf.newsAll l1 (ha.is r2) (hb.is r3) (λh' F' N'=>?_) rfl (λr=>ht r _) (by rw[pI];simp;exact L2 [_,_] [] 0x2430fa120132101060000005c80041 Ac hl);have fr:s.heap.get? (s.heap.objs.size+1)=none:=by
  cases q:s.heap.get? (s.heap.objs.size+1) with
  |none=>rfl
  |some o=>exact absurd (sQ (pz q)) (pu _)
 refine hq _ _ _ _ h' s.toks (AF.oneNews (X:=[(s.heap.objs.size+1,_)]) (ob:=.list (cut (ns.map .int) x y)) hs hf F' N' (.head _) fr λtp e=>⟨rfl,cut xs x y,0,?_,?_⟩) (VR.newRef hs) hk
 ·rw[e,GS]
 ·exact Aj.mono (AU.app _ _) tp _ _ (w1.cut x y)
end
noncomputable abbrev m6:Scope:=⟨.function,[(".0",.local),("k",.local),("_law_base",.globalImplicit),("len",.globalImplicit),("script",.free)],false,false,[]⟩
noncomputable abbrev QA(b:Addr)(n:Nat)(L:Addr):Fn:=(Fq.wc [("script",b)] [("script",n)]).comp m6 [("script",b)] ["k"] [("_law_base",.tup [.int 24159192960,.int 19744003,.int 16109586560,.int 63151024,.int 1920,.int 0,.int 13086230400,.int 0,.int 98917051520,.int 16,.int 2691441,.int 48062,.int 251658247,.int 0,.int 3019899553,.int 14]),("len",.imm (.builtin "len"))] [("script",n)] L
section
variable{g:Gl}(E:AM g){d:Nat}
include E
theorem RB{b:Addr}{n:Nat}(L:Addr):BV g (QA b n L):=
 ⟨rfl,Er (by kernel_rfl),(show(["k"]:List Str).Nodup by decide),λx hx=>by
  rcases cS.mp hx with rfl|hx
  ·exact⟨by kernel_rfl,by kernel_rfl,H7 E⟩
  ·rw[jV.mp hx];exact⟨by kernel_rfl,by kernel_rfl,E.has (by kernel_rfl)⟩⟩
end
section
variable{c:Cx}{m:Mx c}{k:List Fr}{loc:Loc}{H:Lg}
theorem Nn{l:Expr}{lo hi:Option Expr}{sp:Pos}{ns:List Int}{a0:Addr}{a b:V}{x y:Option Int}(hL:LL c.g a0 ns)(ha:BD a x)(hb:BD b y)(hl:ns.length<=1000000)(ht:∀r a,letTemporaryGo l (.ref a) r=pure ())(s:∀n,A8 m H n->Sem m (.r (.v (.ref n))) k loc (⟨n,.list (cut (ns.map .int) x y),true⟩::H)):Sem m (.r (.v b)) (.v (.sl3 l (.Slice lo hi none sp) (.imm (.ref a0)) a)::k) loc H:=λos I=>Jk hL ha hb hl ((Ds (λn f Ae J=>⟨_,J,s n f⟩) I).go I.st) ht
end
section
variable{g:Gl}(E:AM g){d:Nat}
include E
noncomputable def oR(z:LC)(j:Nat)(y:LV×Option V):Loc:=match j with
 |0=>gu z y.1.now y.2 y.1.w1 y.1.w2 y.1.w3 y.1.w4 y.1.w5 y.1.w6 y.1.w7
 |_+1=>Xl z y.1 (.ref y.1.tk) y.2
noncomputable def oS(z:LC)(j:Nat)(y:LV×Option V):Lg:=match j with
 |0=>gw z
 |_+1=>Xm z y.1
abbrev oQ(j:Nat)(y:LV×Option V):Prop:=(j=0/\y.1.now=1000)\/(j=1/\aY y.1.p y.1.q/\y.1.un=y.1.now+120000/\y.1.sta=8/\y.1.st=1)\/(2<=j/\LI j y.1.p y.1.q y.1.st y.1.sta y.1.un y.1.now)
theorem PK(b:Nat)(m:Mx ⟨g,QS b,d+13,EQ E⟩)(fin:∀H,m.R H (.bool true))(z:LC)(hT:∀j:Nat,j<16->∃v,(z.ns.map V.int)[j]? =some (.int v)):Sm m ⟨.xs ((fB (st 126)).drop 6),[],gu z 1000 none none none none none none none none,gw z⟩:=by
 refine g0 0x441 ?_;intro;refine fO (n:=8) (α:=LV×Option V) 8 oQ (oR z) (oS z) (⟨0,0,0,0,Xn,Xn,0,0,0,0,1000,none,none,none,none,none,none,none⟩,none) [0,1,2,3,4,5,6,7,8,9,10] rfl (.inl ⟨rfl,rfl⟩) rfl (by kernel_rfl) rfl rfl (λj y hj hy Q next=>?_) (λy hy=>?_)
 ·cases j with
  |zero=>obtain⟨v1,n1⟩:=hT 0 (by decide);obtain⟨v2,n2⟩:=hT 1 (by decide);refine ZS 1 9 ?_;intro;exact IX (by kernel_rfl) (NJ E m (now:=y.1.now) (w1:=y.1.w1) (w2:=y.1.w2) (w3:=y.1.w3) (w4:=y.1.w4) (w5:=y.1.w5) (w6:=y.1.w6) (w7:=y.1.w7) z n1 n2 Q λy' ns H' a b c d e=>next (y',some (.int 0)) ns H' (.inr (.inl ⟨rfl,a,b,c,d⟩)) e)
  |succ j=>
   refine hy.elim (λh=>absurd h.1 (Nat.succ_ne_zero j)) λhy=>hy.elim (λh=>?_) λh=>?_
   ·obtain rfl:j=0:=sH h.1;obtain⟨⟨tk,sl,a,b',p,q,un,si,sta,st,now,w1,w2,w3,w4,w5,w6,w7⟩,kv⟩:=y;obtain⟨_,⟨e0,m0,s0,ic,sk,FR,Uj,hp,hq⟩,hu,IC,Cg⟩:=h;change p=_ at hp
    change q=_ at hq
    change un=now+120000 at hu
    change sta=8 at IC
    change st=1 at Cg
    subst hp hq hu IC Cg;obtain⟨v1,n1⟩:=hT 2 (by decide);obtain⟨v2,n2⟩:=hT 3 (by decide);refine ZS 1 9 ?_;intro;exact IX (by kernel_rfl) (NI E m (tk:=tk) (sl:=sl) (a:=a) (b:=b') (e0:=e0) (ic:=ic) (sk:=sk) (now:=now) (si:=si) (w1:=w1) (w2:=w2) (w3:=w3) (w4:=w4) (w5:=w5) (w6:=w6) (w7:=w7) z FR Uj n1 n2 Q λy' ns H' a e=>next (y',some (.int 1)) ns H' (.inr (.inr ⟨oU 2,a⟩)) e)
   ·obtain⟨v1,n1⟩:=hT (2*(j+1)) (L1 [_] [] 0x203908720d090300e421c83420ec441 hj);obtain⟨v2,n2⟩:=hT (2*(j+1)+1) (L1 [_] [] 0x203908720d090300e421c843906841de8441 hj);rw[show 2*(j+1)=(2*((j+1:Nat):Int)).toNat by exact gH (L1 [_,_] [] 0x8720d7c41d87f4308421c83420ec041 (bD (show 0<=2*↑(j+1) from L0 [_] [] 0x10e41af883b066041))) (L1 [_,_] [] 0x8721d7c41d83f42084390e841d80041 (bD (show 0<=2*↑(j+1) from L0 [_] [] 0x10e41af883b066041)))] at n1;rw[show 2*(j+1)+1=(2*((j+1:Nat):Int)+1).toNat by exact gH (L1 [_,_] [] 0x87210e41af883bd07f4308421c843906841de8041 (bD (show 0<=2*↑(j+1)+1 from L0 [_] [] 0x10e421c835f1077a066041))) (L1 [_,_] [] 0x87210e43af883bd03f420843908721d083bd00041 (bD (show 0<=2*↑(j+1)+1 from L0 [_] [] 0x10e421c835f1077a066041)))] at n2;have h2:=h.1;rw[show(0:Int)+((j+1:Nat):Int)*1=((j+1:Nat):Int) by exact bC (L0 [_] [] 0x8720d7c21c835f08780cea041) (L0 [_] [] 0x8720d7c21e033a08720d7e041)];refine ZS 1 9 ?_;intro;exact IX (by kernel_rfl) (NH E m (k:=((j+1:Nat):Int)) z y.1 (L1 [_] [] 0x10e41a1072020883908720d7f041 h.1) (⟨L0 [_] [] 0x21c835f066041,L1 [_] [] 0x80e421c834220a03908720d7e441 hj⟩) n1 n2 h.2 Q λy' ns H' a e=>next (y',some (.int ((j+1:Nat):Int))) ns H' (.inr (.inr ⟨by exact L0 [_] [] 0x21c843906b420e4041,by rw[Int.natCast_add (j+1)];exact a⟩)) e)
 ·refine g0 0x14515b ?_;intro;refine lit rfl ?_;refine Ld 6 rfl (oX rfl) (λn fn=>?_);refine sm (let S:=_;(?_:Sm _ S));refine g0 0 ?_;intro;refine nL _ rfl (λn2 p8=>?_);skip;refine eL 1 0 rfl rfl ?_;refine g0 0x41c5481187141 ?_;intro;refine lit rfl ?_;refine NF 7 rfl (oX rfl) ?_;refine sm (let S:=_;(?_:Sm _ S));refine g0 0 ?_;intro;exact eV (fin _)
theorem PJ{a0:Addr}{ns:List Int}(hL:LL g a0 ns)(WS:ns.length<=63)(b:Nat)(m:Mx ⟨g,QS b,d+13,EQ E⟩)(fin:∀H,m.R H (.bool true)):
  Sm m ⟨.xs (fB (st 126)),[],[none,none,none,none,none,none,none,none,none,none,none,none,none,none,none,none],[⟨0,.cell (some (.imm (.ref a0))),true⟩]⟩:=by
 have cs:Iu (QS b) "script":=⟨by kernel_rfl,by decide⟩;have nd:((QS b).cix.map (·.1)).Nodup:=(show(["script"]:List Str).Nodup by decide);refine g1 0x1b81 (λ_ a=>a (cs) (nd) (cs)) ?_;intro;refine lit rfl ?_;refine Nn hL .none (.int 63) (L1 [_] [] 0xfc5900083e84804c80041 WS) (λ_ _=>rfl) (λsc pX=>?_);obtain⟨ks,hks,hkl⟩:∃ks:List Int,cut (ns.map V.int) none (some 63)=ks.map V.int/\ks.length<=63:=by refine⟨(ns.drop 0).take (clipAt ns.length 63-0),?_,by rw[qE,qF];exact L3 [_,_,_] [] 0x2201044001043f164202087e2c80041 WS (sY (PySem.clipAt ns.length 63-0) (ns.length-0)) (Nat.sub_le ns.length 0)⟩;unfold cut;rw[List.map_take,List.map_drop,gI];rfl
 rw[hks];clear hks;refine sm (let S:=_;(?_:Sm _ S));refine g0 129 ?_;intro;refine cO (α:=List Int) (n0:=16) 16 (λk T=>T.length=k/\k<=16) (λ_ T=>T.map .int) (λ_ _=>[⟨sc,.list (ks.map .int),true⟩,⟨0,.cell (some (.ref sc)),true⟩]) [] [0,1] rfl (RB E) rfl (by with_unfolding_all (intro _;rfl)) (by with_unfolding_all (intro _;rfl)) (by decide) rfl (by decide) ?_ rfl rfl rfl rfl (λm' e'=>?_) (λm' e'=>?_) ⟨rfl,qH _⟩ rfl (λk T h=>by rw[gI];exact L2 [_,_] [] 0x403908082101083e84804c80041 h.1 h.2) (λta L k T cj hk hT m' ho e'=>?_) (λta T cj hT=>?_)
 ·intro z hz;refine⟨hz,?_⟩;rw[jV.mp hz]
 ·refine g0 17 ?_;intro;exact eV (e' _ rfl)
 ·refine g0 0 ?_;intro;exact eV (e' _ _ (by kernel_rfl) rfl)
 ·rw[show(0:Int)+(k:Int)*1=k by exact bC (L0 [_] [] 0x7c1f08780cea041) (L0 [_] [] 0x7c21e033a07e041)];have cs:Iu (QA b 0 L) "script":=⟨by kernel_rfl,by decide⟩;have e1:(ks.map V.int).length=ks.length:=gI _;obtain⟨u,hu,_⟩:=ix (P:=λ_=>True) [24159192960,19744003,16109586560,63151024,1920,0,13086230400,0,98917051520,16,2691441,48062,251658247,0,3019899553,14] (λ_ _=>trivial) (lY k) (pv.2 hk);refine g0 66 ?_;intro;refine sT rfl (lY k) (L1 [_] [] 0x807201107d09009907e441 hk) hu ?_;refine g1 0xee0c1 (λ_ a=>a (cs)) ?_;intro;refine PG 1 rfl (L2 [_,_] [] 0x808410fc5908083e84804c80041 hkl e1) ?_;refine g0 0 ?_;intro;refine wB _ rfl (λq=>?_) (λq=>?_)
  ·have q:=dv q;have kT:k<ks.length:=L2 [_,_,_] [] 0x5f07e441088841080441 e1 q;refine g1 0x2043b81 (λ_ a=>a (cs)) ?_;intro;refine sL rfl (lY k) (L1 [_] [] 0x807201107d09009907e441 hk) (show(ks.map V.int)[(k:Int).toNat]? =some (.int ks[k]) by rw[oV,qS,cQ kT];rfl) ?_;refine g0 0 ?_;intro;exact eV (e' (T++[u+ks[k]]) _ [0,1,2] _ ⟨by rw[cW,hT.1];rfl,hk⟩ (by rw[jJ];rfl) (by kernel_rfl))
  ·refine g0 2 ?_;intro;exact eV (e' (T++[u+0]) _ [0,1,2] _ ⟨by rw[cW,hT.1];rfl,hk⟩ (by rw[jJ];rfl) (by kernel_rfl))
 have dm:∀j:Nat,j<16->∃v,(T.map V.int)[j]? =some (.int v):=λj hj=>⟨T[j]'(by have:=hT.1;exact L2 [_,_] [] 0x80720110601c84861080441 hT.1 hj),by rw[oV,cQ (by have:=hT.1;exact L2 [_,_] [] 0x80720110601c84861080441 hT.1 hj)];rfl⟩;have e1:(ks.map V.int).length=ks.length:=gI _;obtain⟨fi,Bv,CX⟩:∃fi:Int,(16<ks.length->(ks.map V.int)[(16:Int).toNat]? =some (.int fi))/\(¬16<ks.length->fi=0):=by
  by_cases h:16<ks.length
  ·exact⟨ks[16],λ_=>by rw[oV,show(16:Int).toNat=16 from rfl,cQ h];rfl,λk=>absurd h k⟩
  ·exact⟨0,λk=>absurd k h,λ_=>rfl⟩
 refine g1 0x3b92541 (λ_ a=>a (cs)) ?_;intro;refine PG 1 rfl (L2 [_,_] [] 0x808410fc5908083e84804c80041 hkl e1) ?_;refine g0 0 ?_;intro;refine jX (.int fi) (by kernel_rfl) (λm' Aq=>wB _ rfl (λq=>?_) (λq=>?_)) ?_
 ·have q:=dv q;refine g1 0x83b81 (λ_ a=>a (cs)) ?_;intro;refine sL rfl (by decide) (by decide) (Bv (L2 [_,_] [] 0x1fc0399104012104100e4441 e1 q)) ?_;skip;exact eV (Aq _ _ 0 rfl rfl)
 ·have q:=gG q;refine g0 2 ?_;intro;exact eV (Aq _ _ 0 rfl (gC V.int (CX (L2 [_,_] [] 0x1fc039c104012184100e5041 e1 q)).symm))
 refine g1 0x4c1042041081082 (λ_ a=>a (λ_=>rfl)) ?_;intro;refine A3 (Fp (d:=d+12) E) [] [] rfl (λ_=>rfl) λr0 h0 f0=>?_;refine g0 19 ?_;intro;refine A3 (Fp (d:=d+12) E) [] [] rfl (λ_=>rfl) λr1 h1 f1=>?_;refine g0 0 ?_;intro;refine nL _ rfl (λbb fb=>?_);refine g1 0x5020c4 (λ_ a=>a (λ_=>rfl)) ?_;intro;refine A3 (J2 (d:=d+10) E) [] [] rfl (λ_=>rfl) λx hx fx=>?_;refine g0 0x545187 ?_;intro;refine nS ["state","status","until"] _ _ _ rfl rfl (by decide) (λdu p9=>?_);refine g0 0 ?_;intro;refine nC (v:=.int 0) (by kernel_rfl) ?_;refine g0 0 ?_;intro;refine nC (v:=.int 0) (by kernel_rfl) ?_;refine g0 0 ?_;intro;refine nE (v:=.int 0) 0 (by kernel_rfl) (by kernel_rfl) rfl ?_;refine g0 8 ?_;intro;refine kP [10,7,9,8,6,3,4,1,5,2,0] (by kernel_rfl) ?_;exact IX (by kernel_rfl) (PK E b m fin ⟨ta,bb,r0,r1,x.1,x.2.1,x.2.2.1,x.2.2.2.1,x.2.2.2.2.1,x.2.2.2.2.2.1,du,x.2.2.2.2.2.2,T,fi,2^(32:Int).toNat-3+fi%7,2^(32:Int).toNat-9+fi/7%12⟩ dm)
theorem PL{a0:Addr}{ns:List Int}(hL:LL g a0 ns)(WS:ns.length<=63)(b:Nat):
  Ex g (QS b) (d+13) (fB (st 126)) [none,none,none,none,none,none,none,none,none,none,none,none,none,none,none,none] [.cell (some (.imm (.ref a0)))] (λ_ _=>False) (λ_ v=>v=.bool true):=by
 have I:Sg (c:=⟨g,QS b,d+13,EQ E⟩) ⟨[.cell (some (.imm (.ref a0)))],[0],EV E,λ_ v=>v=.bool true,λ_ _=>False⟩ [⟨0,.cell (some (.imm (.ref a0))),true⟩] [.cell (some (.imm (.ref a0)))]:=⟨St.start1 rfl,λe he _=>by rw[jV.mp he];exact .inl (.head _)⟩;have x:=sm (PJ E hL WS b ⟨[.cell (some (.imm (.ref a0)))],[0],EV E,λ_ v=>v=.bool true,λ_ _=>False⟩ (λ_=>rfl)) _ I;exact λA s ad L mm Q hr hs hf hn AT=>x A s ad L mm Q hr hs hf (λ_ _ _ _ _ _ _ _⟨_,_,k⟩=>k.elim) λAe Ag v v' m' h' tk a b c⟨_,_,k⟩=>AT Ae Ag v v' m' h' tk a b c k
end
theorem KY{R:WRecords}{cl:Str->Option Addr}{h:Heap}{ns:List Int}:∀{vs:List Value}{az:List Addr},ReadsAllW R cl h vs (ns.map .int) az->Aj [] h (ns.map .int) vs:=by
 induction ns with
 |nil=>intro vs az r;cases r;simp only[pC,Aj]
 |cons n ns ih=>
  intro vs az r;rw[ik] at r;cases r with
  |cons r1 r2=>cases r1;simp only[ik,Aj,VR];exact⟨_,_,rfl,⟨_,rfl⟩,ih r2⟩
theorem Qm{g:Gl}(E:AM g){d:Nat}{a0:Addr}{A:Around}{s:Shared}{Q:Value->Shared->Prop}(hr:Bf A (d+1))(hs:s.heap=g.base)
  (h:∀b,Ex g (Fq.wc [("script",b)] [("script",0)]) d (fB (st 126)) [none,none,none,none,none,none,none,none,none,none,none,none,none,none,none,none] [.cell (some (.imm (.ref a0)))] (λ_ _=>False) (λ_ v=>v=.bool true))
  (hq:∀h' tk,(∀b o,g.base.get? b=some o->h'.get? b=some o)->Q (.bool true) {s with heap:=h',toks:=tk}):Aa g.M A (call (.ref 809) [.ref a0]) Q s:=by
 have S0:SR g.w g.base [] [] s.heap:=⟨λb o e=>hs▸e,rfl,λi o p e=>(by simp at e),λi j p q _ e=>(by simp at e),λp hp=>nomatch hp⟩;refine Aa.call (HF (T:=Fq) (K:=λ_ v=>v=.bool true) (MD E) (Sz E) (body:=fB (st 126)) (by kernel_rfl) (c0:="script") (cn:=[]) (ps:=[]) (rest:=Fq.names) rfl (u:=.imm (.ref a0)) (vs:=[]) rfl (λ_=>rfl) (λ_=>rfl) (by decide) (by kernel_rfl)
  (λs y Ab hv=>by obtain rfl:Ab=[]:=rF.mp hv;exact .of_eq (by kernel_rfl)) (λb=>?_) hr S0 (hs▸oU _) (by simp only[Aj,VR];exact⟨_,_,rfl,rfl,rfl⟩) λAe Ag v v' h' tk a r k=>?_)
 ·exact λA s ad L m Q hr hs hf hn AT=>h b A s ad L m Q hr hs hf (λ_ _ _ _ _ _ _ _ k=>k.elim) AT
 ·subst k;simp only[VR] at r;subst r;exact hq h' tk λb o e=>a.sr.old b o e
theorem Wd{w:World}{h:Heap}{mg mb:Str->Option Value}(gns:h.Ns mainGlobals mg)(bns:h.Ns builtinsNs mb)(nl:h.NoLimit)(mods:(h.get? sysModules).isSome=true){K:Frag}(e:K=kK w.params)(X:K.In h)(hb:∀x:Str,(x==("__name__":Str))=false->mb x=bootBuiltins x):AM ⟨w,h,mg,mb,gns,bns,nl,mods,K,X⟩:=
 ⟨e,λx v q=>by
   cases v with
   |none=>exact mg_none_of X gns q
   |some v=>exact mg_of X gns q,hb⟩
theorem Rb(c:∀{g:Gl},AM g->∀{a0:Addr}{ns:List Int},LL g a0 ns->ns.length<=63->∀b,Ex g (Fq.wc [("script",b)] [("script",0)]) 13 (fB (st 126)) [none,none,none,none,none,none,none,none,none,none,none,none,none,none,none,none] [.cell (some (.imm (.ref a0)))] (λ_ _=>False) (λ_ v=>v=.bool true)):
  WalkX qv lz (λ_ _=>True) hk.says PySem.Challenge.rw_pq1117_01.row.toRowW dL []:=by
 intro w s₀ s₁ mg mb G Y a o pm cd bA dV kV ho hd bv pU ct hg args Ab az pre b9 rd well low;have ii:(kK w.params).In s₁.heap:=kIn_of Y;have X2:(s₁.heap.get? sysModules).isSome=true:=by obtain⟨m,⟨o,es,ep,e,_⟩,_⟩:=(G.T.seer (by kernel_rfl)).mods;rw[e];rfl
 have E:=Wd G.T.g G.T.b G.T.nolimit X2 rfl ii λx hx=>G.T.builtins x (by simpa using hx);have ha:a=809:=by have:=mg_of ii G.T.g (n:="law") (v:=.ref 809) (by kernel_rfl);rw[show(dL.name:Str)="law" from rfl] at ct;rw[this] at ct;cases ct;rfl
 subst ha;obtain⟨p1,p2⟩:=pre_splitW pre;obtain⟨ns,rfl,Ac⟩:∃ns:List Int,args=[.list (ns.map .int)]/\ns.length<=63:=by
  match args,p1 with
  |[d],p1=>
   have p1:(WShape.has _ d (.list .int)&&true)=true:=p1;rw[Bool.and_true] at p1;obtain⟨xs,rfl,h⟩:=hasW_list p1;obtain⟨ns,rfl⟩:=items_int h;refine⟨ns,rfl,?_⟩;have p2:(WTm.holds _ (.and (.not (.lt (.lit (.int 63)) (.len (.arg 0)))) (.lit (.bool true))) {args:=[.list (ns.map .int)]})=true:=p2;have e:WTm.value PySem.Challenge.rw_pq1117_01.row.records (.and (.not (.lt (.lit (.int 63)) (.len (.arg 0)))) (.lit (.bool true))) {args:=[.list (ns.map .int)]}=some (.bool (!decide ((63:Int)<(ns.length:Int)))):=by have e2:less? (.int 63) (.int (ns.length:Int))=some (decide ((63:Int)<(ns.length:Int))):=rfl;cases h:decide ((63:Int)<(ns.length:Int))<;>simp[WTm.value,e2,h]
   unfold WTm.holds at p2;rw[e] at p2;by_cases h:(63:Int)<(ns.length:Int)
   ·rw[jL h] at p2;cases p2
   ·exact L1 [_] [] 0x3e1f8b382087e2c80041 h
  |d1::d2::r,p1=>have p1:(WShape.has _ d1 (.list .int)&&WShape.hasAll _ (d2::r) [])=true:=p1;rw[oZ] at p1;exact absurd p1.2 (by simp[WShape.hasAll])
 cases rd with
 |cons r1 r2=>
  cases r2;cases r1 with
  |list e1 e2 e3 r=>refine(Qm E (d:=13) ⟨rfl,by decide,by decide⟩ rfl (λb=>c E ⟨_,⟨_,e1,e2,_,e3⟩,KY r⟩ Ac b) λh' tk k=>?_);exact⟨.inl ⟨.bool true,.bool true,[],rfl,λ_=>rfl,.bool _,by kernel_rfl,λ_=>⟨List.nodup_nil,λ_ h=>nomatch h⟩⟩,.of_keep k,rfl,.of_eq hg⟩
theorem Xf:PySem.Challenge.rw_pq1117_01.Holds:=head (Rb λE _ _ hL WS b=>PL (d:=0) E hL WS b)
end Mine
theorem PySem.Challenge.cw_pq1117_01_holds : PySem.Challenge.rw_pq1117_01.Holds :=
 Mine.Xf
