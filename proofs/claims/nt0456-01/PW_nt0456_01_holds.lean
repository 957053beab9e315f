import PyProof.Rows.All
import Wide.All
import OpenK.AllK
import Wide.FinOn
import PySem.Challenge.RW_nt0456_01
set_option Elab.async false
set_option linter.all false
set_option autoImplicit false
set_option backward.match.sparseCases false
namespace CF
def Dm:=@Int.ofNat_le
def Dn:=@PySem.wpAny_bind
def Do:=@Bool.false_ne_true
def Dq:=@Int.natCast_nonneg
def Dr:=@List.getElem?_eq_some_iff
def Ds:=@congrArg
def Dt:=@Int.ofNat_lt
def Du:=@Nat.ble_eq_true_of_le
def Dv:=@PySem.wpAny_pure
def Dw:=@Nat.le_trans
def Dx:=@PySem.Heap.get?_push_of_some
def Dy:=@Nat.le_refl
def Dz:=@PySem.Heap.get?_push_size
def DA:=@Nat.lt_of_lt_of_le
def DB:=@List.getElem?_set_ne
def DC:=@Nat.succ_pos
def DD:=@List.length_map
def DE:=@List.all_eq_true
def DF:=@Nat.le_of_ble_eq_true
def DG:=@List.getElem?_set_self
def DH:=@Int.toNat_of_nonneg
def DI:=@List.getElem?_eq_getElem
def DJ:=@Nat.le_antisymm
def DK:=@Nat.le_of_eq
def DL:=@PySem.Heap.size_after_update
def DM:=@PySem.Heap.size_push
def DN:=@List.mem_cons_of_mem
def DO:=@beq_self_eq_true
def DP:=@PySem.Heap.get?_update_self
def DQ:=@beq_iff_eq
def DR:=@List.mem_of_getElem?
def DS:=@List.contains_iff_mem
def DT:=@PySem.wpAny_holding
def DU:=@List.mem_cons_self
def DV:=@List.size_toArray
def DW:=@Bool.and_eq_true_iff
def DX:=@decide_eq_true
def DY:=@Bool.and_eq_true
def DZ:=@List.getElem?_map
def D0:=@List.length_append
def D1:=@Option.some.inj
def D2:=@LawfulBEq.eq_of_beq
def D3:=@Option.isSome_iff_exists
def D7:=@PySem.sizeLine_eq
def D8:=@Int.le_antisymm
def D9:=@decide_eq_false
def Ea:=@Nat.add_le_add_right
def Eb:=@Ne.symm
def Ec:=@Bool.true_and
def Ed:=@PySem.Heap.get?_update_other
def Ee:=@Nat.le_succ
def Ef:=@beq_eq_false_iff_ne
def Eg:=@Nat.ne_of_gt
def Eh:=@Int.le_of_lt
def Ei:=@List.mem_range
def Ej:=@Nat.testBit_and
def Ek:=@PySem.wpAny_standAt
def El:=@Array.getElem?_setIfInBounds_ne
def Em:=@Int.not_le
def En:=@Nat.testBit_or
def Eo:=@List.mem_cons
def Ep:=@PyProof.Rows.callWith_builtin1
def Er:=@Nat.le_succ_of_le
def Es:=@Nat.lt_of_succ_le
def Et:=@Nat.ne_of_lt
def Eu:=@List.contains_cons
def Ew:=@Nat.le_of_not_lt
def Ey:=@Nat.le_add_right
def Ez:=@Int.not_lt
def EA:=@Nat.le_of_lt_succ
def EB:=@Nat.lt_succ_of_le
def EC:=@Option.map_eq_some_iff
def ED:=@Nat.le_of_succ_le
def EE:=@PySem.wpAny_field
def EF:=@Bool.false_and
def EG:=@List.getElem?_eq_none_iff
def EH:=@List.getElem?_eq_none
def EI:=@Nat.min_le_right
def EJ:=@List.lookup_cons
def EK:=@Bool.and_true
def EL:=@List.eq_nil_of_length_eq_zero
def EM:=@Bool.and_false
def EN:=@Int.lt_add_one_of_le
def EO:=@PySem.wpAny_mono
def EP:=@List.find?_cons_of_neg
def ER:=@List.any_cons
def ES:=@Int.lt_of_lt_of_le
def ET:=@PySem.Heap.SameBut.update
def EU:=@PySem.Heap.lt_size
def EV:=@List.getElem?_append_left
def EW:=@PySem.F.excBase_Exception
def EX:=@Bool.eq_iff_iff
def EY:=@List.ext_getElem?
def EZ:=@PySem.F.slot_range_iterator_next
def E0:=@List.map_cons
def E1:=@PySem.wpAny_Constant_str
def E4:=@Bool.false_or
def E5:=@List.map_congr_left
def E6:=@Nat.testBit_two_pow
def E7:=@List.length_cons
def E8:=@List.map_map
def E9:=@Int.ne_of_gt
def Fa:=@Int.fmod_nonneg_of_pos
def Fb:=@Nat.min_eq_left
def Fc:=@List.getElem?_toArray
def Fd:=@Nat.sub_le
def Fe:=@Int.fdiv_eq_ediv_of_nonneg
def Ff:=@Nat.succ_ne_zero
def Fg:=@Bool.or_true
def Fh:=@Nat.zero_add
def Fi:=@Nat.zero_testBit
def Fj:=@Array.getElem?_eq_getElem
def Fk:=@PySem.wpAny_loadPart
def Fl:=@List.all_cons
def Fm:=@Array.size_setIfInBounds
def Fo:=@PySem.wpAny_setField
def Fp:=@Int.ofNat.inj
def Fq:=@Nat.min_le_left
def Fr:=@Nat.le_add_left
def Fs:=@List.map_append
def Ft:=@List.nil_append
def Fu:=@Int.lt_of_le_of_lt
def Fv:=@Nat.lt_of_le_of_lt
def Fw:=@List.getElem?_drop
def Fx:=@Int.fmod_lt_of_pos
def Fy:=@Int.add_zero
def Fz:=@of_decide_eq_true
def FA:=@Int.le_trans
def FC:=@Nat.lt_sub_iff_add_lt'
def FD:=@Nat.not_lt
def FF:=@Array.any_toList
def FG:=@Nat.zero_le
def FI:=@PySem.wpAny_truthy_bool
def FJ:=@PySem.wpAny_newObj_type
def FK:=@List.drop_eq_nil_iff
def FL:=@List.getElem?_of_mem
def FM:=@Bool.or_eq_true
def FN:=@List.length_set
def FO:=@List.mem_append
def FP:=@Nat.add_sub_cancel'
def FQ:=@Int.zero_add
def FR:=@PySem.call_meets
def FS:=@Int.sub_eq_add_neg
def FT:=@List.getElem?_append_right
def FU:=@List.tail_drop
def FV:=@List.zip_cons_cons
def FW:=@Int.mul_one
def FX:=@Int.sub_pos_of_lt
def FY:=@Nat.succ_le_of_lt
def FZ:=@Int.self_le_toNat
def F6:=@decide_eq_true_eq
def F9:=@List.append_assoc
def Ga:=@List.getElem?_set
def Gb:=@Nat.lt_irrefl
def Gc:=@Bool.beq_comm
def Gd:=@Bool.not_true
def Ge:=@Nat.min_eq_right
def Gf:=@Nat.lt_of_not_le
def Gg:=@Nat.lt_succ_self
def Gh:=@PySem.W.looks_findIn
def Gi:=@PySem.wpAny_call
def Gj:=@PySem.Obj.data_mapFields
def Gk:=@List.filter_cons_of_pos
def Gl:=@List.filter_cons_of_neg
def Gm:=@Nat.le_of_lt
def Gn:=@List.find?_cons_of_pos
def Go:=@Int.toNat_lt
def Gp:=@Nat.not_lt_zero
def Gq:=@PySem.wpAny_assign_Name
def Gr:=@List.nodup_cons
def Gs:=@Nat.sub_eq_zero_of_le
def Gu:=@Array.getElem?_setIfInBounds_self_of_lt
def Gv:=@Int.le_refl
def Gw:=@PySem.wpAny_callSpecial?_slot
def Gx:=@PySem.wpAny_call_entry
def Gy:=@PySem.wpAny_updatePart
def Gz:=@PySem.wpAny_items_cons
def GA:=@Bool.not_false
def GB:=@List.mem_append_left
def GC:=@Nat.eq_of_testBit_eq
def GD:=@Nat.add_le_add_left
def GE:=@ne_true_of_eq_false
def GF:=@PySem.aRefKeyMayBeTheName_at
def GG:=@List.filter_eq_self
def GH:=@PySem.wpAny_execs_nil
def GI:=@PySem.codeAny_of_tree
def GJ:=@List.getElem?_take
def GK:=@List.findIdx?_cons
def GL:=@PySem.Obj.isFreed_of_fields
def GN:=@PySem.wpAny_storeName_local
def GO:=@Int.sub_add_cancel
def GP:=@Array.findIdx?_eq_some_iff_getElem
def GQ:=@bne_iff_ne
def GS:=@List.mem_singleton
def GT:=@List.count_pos_iff
def GU:=@Nat.succ.inj
def GV:=@Nat.le_total
def GW:=@PySem.wpAny_loadName_local
def GX:=@Int.le_of_eq
def GY:=@Bool.not_eq_true'
def GZ:=@PySem.codeAny_call_builtin
def G4:=@List.map_set
def G6:=@PySem.wpAny_loadName_cell
def G7:=@List.any_eq_true
def G8:=@PySem.list_getitem_lookup
def G9:=@List.isEmpty_iff
def Ha:=@List.take_length
def Hb:=@List.length_take
def Hc:=@PySem.wpAny_isSubtype_exc
def Hd:=@Option.getD_some
def He:=@PySem.wpAny_release
def Hf:=@PyProof.Rows.callWith_method1
def Hg:=@Nat.exists_testBit_of_ne_zero
def Hh:=@PySem.typeIs_str
def Hj:=@PySem.F.args_str_split_2
def Hk:=@PySem.wpAny_Constant_int
def Hl:=@List.append_nil
def Hm:=@Option.map_some
def Hn:=@List.forIn_cons
def Hq:=@Int.natCast_pos
def Hr:=@PyProof.Rows.callWith_type1
def Hs:=@Int.neg_le_neg
def Ht:=@PySem.F.entry_str_split
def Hu:=@PySem.wpAny_mkText
def Hv:=@PySem.wpAny_loadPart_at
def Hw:=@List.mem_of_find?_eq_some
def Hx:=@Option.isNone_iff_eq_none
def Hy:=@Int.mul_assoc
def Hz:=@Nat.lt_succ_iff_lt_or_eq
def HA:=@PySem.F.slot_str_split
def HB:=@PySem.W.any_some
def HC:=@PySem.wpAny_askSetting
def HD:=@PySem.wpAny_lookBehind
def HE:=@PySem.pastItsLine_dict
def HF:=@PySem.wpAny_Call_NameR
def HG:=@Bool.or_false
def HH:=@List.getElem?_take_of_lt
def HI:=@List.length_eq_zero_iff
def HJ:=@PyProof.Rows.Subscript_
def HK:=@PySem.wpAny_of_eq
def HL:=@List.getElem?_replicate
def HM:=@List.getElem?_cons_succ
def HN:=@Int.mul_zero
def HO:=@Int.zero_mul
def HP:=@Int.add_comm
def HQ:=@Int.sub_self
def HR:=@List.take_of_length_le
def HS:=@PySem.wpAny_operating
def HT:=@PySem.F.args_range_iterator_next_1
def HU:=@List.range_succ_eq_map
def HV:=@PySem.W.looks_clsIn
def HW:=@PySem.F.entry_range_iterator_next
def HX:=@List.length_replicate
def HY:=@List.count_cons_of_ne
def HZ:=@List.mem_append_right
def H0:=@Int.neg_mul
def H4:=@Int.mul_sub
def H5:=@Int.sub_nonneg_of_le
def H6:=@Nat.sub_sub
def H7:=@PySem.Calls.Name_function_global
def H8:=@Nat.log2_lt
def H9:=@PyProof.Rows.eq_bool
def Ia:=@Nat.one_mul
def Ib:=@PySem.F.slot_range_iterator_iter
def Ic:=@List.count_cons_self
def Ie:=@Int.negSucc_lt_zero
def Ig:=@Bool.or_eq_true_iff
def Ih:=@List.append_toArray
def Ii:=@List.replicate_succ
def Ij:=@PyProof.Rows.getMethod_list_of
def Ik:=@PySem.wpAt_of_wpAny
def Il:=@bne_eq_false_iff_eq
def Im:=@List.mem_map_of_mem
@[elab_as_elim] theorem rwl {α:Sort _} {a b:α} {motive:α->Prop} (h:a=b) (x:motive b):motive a:=h▸x
local macro_rules | `(tactic| exists $e:term) => `(tactic| refine rwl $e ?_) | `(tactic| exists $e:term, $es:term,*) => `(tactic| (refine rwl $e ?_; exists $es:term,*))
section
set_option maxRecDepth 100000
open PySem PySem.W PySem.Calls PyProof.Rows
theorem B7:namesResolve PySem.Challenge.rw_nt0456_01.row.prog=true:=by kernel_rfl
theorem B8:noRoadLSs {strict:=!(importedModules PySem.Challenge.rw_nt0456_01.row.prog.main.body).all cThrough.contains,foot:=none,bare:=(["vars","dir","locals"]:List Str).filter (readsOut PySem.Challenge.rw_nt0456_01.row.prog PySem.Challenge.rw_nt0456_01.row.prog.main.body)} PySem.Challenge.rw_nt0456_01.row.prog.main.body=true:=by kernel_rfl
theorem B9:(namesMeet PySem.Challenge.rw_nt0456_01.row.prog PySem.Challenge.rw_nt0456_01.row.prog.main.body λ_ n=>attrL n)=true:=by kernel_rfl
theorem uA:looksOpen PySem.Challenge.rw_nt0456_01.row.prog=true:=by
 unfold looksOpen
 iterate 5 (refine look_both ?_ ?_)
 all_goals first|with_reducible exact B7|with_reducible exact B8|with_reducible exact B9|kernel_rfl
theorem w8:PySem.Challenge.rw_nt0456_01.row.partSaid=true:=by
 unfold OpenRow.partSaid
 iterate 13 (refine look_both ?_ ?_)
 all_goals first|with_reducible exact uA|kernel_rfl
theorem zy:PySem.Challenge.rw_nt0456_01.row.wellSaid=true:=by
 unfold OpenRow.wellSaid
 iterate 2 (refine look_both ?_ ?_)
 all_goals first|with_reducible exact w8|kernel_rfl
theorem Cb:noRoadLSs {strict:=true,foot:=some PySem.Challenge.rw_nt0456_01.bound',writes:=PySem.Challenge.rw_nt0456_01.writes,may:=PySem.Challenge.rw_nt0456_01.may} PySem.Challenge.rw_nt0456_01.footing=true:=by kernel_rfl
theorem Cc:(PySem.Challenge.rw_nt0456_01.bound'.all λn=>!builtinNamed n||PySem.Challenge.rw_nt0456_01.about==[n]|| !PySem.Challenge.rw_nt0456_01.reads n)=true:=by kernel_rfl
theorem Cd:(namesMeet PySem.Challenge.rw_nt0456_01.prog PySem.Challenge.rw_nt0456_01.above λx n=>!PySem.Challenge.rw_nt0456_01.own.contains n)=true:=by kernel_rfl
theorem sM:PySem.Challenge.rw_nt0456_01.wellSaid=true:=by
 unfold OpenLaw.wellSaid
 iterate 18 (refine look_both ?_ ?_)
 all_goals first|with_reducible exact zy|with_reducible exact Cb|with_reducible exact Cc|with_reducible exact Cd|kernel_rfl
end
section
set_option genSizeOf false
set_option genSizeOfSpec false
set_option genInjectivity false
set_option genCtorIdx false
theorem aT{a b c:Nat}(h:a<=b)(e:Nat.ble b c=true):a<=c:=Dw h (DF e)
theorem Bj{a b c:Nat}(h:a<b)(e:Nat.ble b c=true):a<c:=DA h (DF e)
inductive L where
 |n (k:Nat)|v (i:Nat)|a (x y:L)|s (x y:L)|m (k:Nat) (x:L)|g (x:L)
noncomputable def Ce:List Int->Nat->Int
 |[],_=>0
 |x::_,0=>x
 |_::r,i+1=>Ce r i
noncomputable def L.den(c:List Int):L->Int
 |.n k=>Int.ofNat k|.v i=>Ce c i|.a x y=>x.den c+y.den c|.s x y=>x.den c-y.den c|.m k x=>Int.ofNat k*x.den c|.g x=> -x.den c
inductive F where
 |le (x y:L)|lt (x y:L)|eq (x y:L)
noncomputable def F.den(c:List Int):F->Prop
 |.le x y=>x.den c<=y.den c|.lt x y=>x.den c<y.den c|.eq x y=>x.den c=y.den c
noncomputable def e7:List Int->List Int->List Int
 |[],ys=>ys
 |x::xs,[]=>x::xs
 |x::xs,y::ys=>(x+y)::e7 xs ys
noncomputable def sN(k:Int):List Int->List Int
 |[]=>[]
 |x::xs=>(k*x)::sN k xs
noncomputable def w9(k:Int):Nat->List Int
 |0=>[k]
 |i+1=>0::w9 k i
noncomputable def L.co(k:Int):L->List Int
 |.n j=>[k*Int.ofNat j]|.v i=>0::w9 k i|.a x y=>e7 (x.co k) (y.co k)|.s x y=>e7 (x.co k) (y.co (-k))|.m j x=>x.co (k*Int.ofNat j)|.g x=>x.co (-k)
noncomputable def i8:List Int->List Int->Int
 |[],_=>0
 |_::_,[]=>0
 |x::xs,c::cs=>x*c+i8 xs cs
theorem e8(xs ys c:List Int):i8 (e7 xs ys) c=i8 xs c+i8 ys c:=by
 induction xs generalizing ys c with
 |nil=>exact(FQ _).symm
 |cons x xs ih=>induction ys using List.casesOn with
  |nil=>induction c using List.casesOn<;>exact(Fy _).symm
  |cons y ys=>induction c using List.casesOn with
   |nil=>rfl
   |cons c cs=>
    show(x+y)*c+i8 (e7 xs ys) cs=(x*c+i8 xs cs)+(y*c+i8 ys cs)
    rw[ih,Int.add_mul];lia
theorem uB(k:Int)(i:Nat)(c:List Int):i8 (w9 k i) c=k*Ce c i:=by
 induction i generalizing c with
 |zero=>induction c using List.casesOn with
  |nil=>exact(HN k).symm
  |cons c cs=>exact Fy _
 |succ i ih=>induction c using List.casesOn with
  |nil=>exact(HN k).symm
  |cons c cs=>exact(Ds (·+i8 (w9 k i) cs) (HO c)).trans ((FQ _).trans (ih cs))
theorem L.co_eq(x:L)(k:Int)(c:List Int):i8 (x.co k) (1::c)=k*x.den c:=by
 induction x generalizing k with
 |n j=>exact(Fy _).trans (FW _)
 |v i=>exact(FQ _).trans (uB k i c)
 |a x y hx hy=>exact(e8 _ _ _).trans ((congr (Ds _ (hx k)) (hy k)).trans (Int.mul_add ..).symm)
 |s x y hx hy=>exact(e8 _ _ _).trans ((congr (Ds _ (hx k)) ((hy (-k)).trans (H0 ..))).trans (H4 ..).symm)
 |m j x hx=>exact(hx _).trans (Hy ..)
 |g x hx=>exact(hx (-k)).trans ((H0 ..).trans (Int.mul_neg ..).symm)
noncomputable def F.co(k:Int):F->List Int
 |.le x y=>e7 (y.co k) (x.co (-k))
 |.lt x y=>e7 [-k] (e7 (y.co k) (x.co (-k)))
 |.eq x y=>e7 (y.co k) (x.co (-k))
noncomputable def F.isEq:F->Bool
 |.eq _ _=>true
 |_=>false
theorem jP(x y:L)(k:Int)(c:List Int):i8 (e7 (y.co k) (x.co (-k))) (1::c)=k*(y.den c-x.den c):=by
 rw[e8,L.co_eq,L.co_eq,H4,H0];rfl
theorem F.co_nonneg(f:F)(k:Int)(c:List Int)(hk:f.isEq=true\/0<=k)(h:f.den c):0<=i8 (f.co k) (1::c):=by
 induction f using F.casesOn with
 |le x y=>rw[show(F.le x y).co k=e7 (y.co k) (x.co (-k))from rfl,jP];exact Int.mul_nonneg (hk.resolve_left Do) (H5 h)
 |lt x y=>
  rw[show(F.lt x y).co k=e7 [-k] (e7 (y.co k) (x.co (-k)))from rfl,e8,jP,show i8 [-k] (1::c)= -k from(Fy _).trans (FW _)]
  have q:0<=k*(y.den c-x.den c-1):=Int.mul_nonneg (hk.resolve_left Do) (by have h:x.den c<y.den c:=h;lia)
  rw[H4,FW,FS,HP]at q
  exact q
 |eq x y=>rw[show(F.eq x y).co k=e7 (y.co k) (x.co (-k))from rfl,jP,show x.den c=y.den c from h,HQ,HN];exact Gv 0
noncomputable def uC:List Int->Bool
 |[]=>true
 |x::xs=>decide (x=0)&&uC xs
theorem sO{xs:List Int}(h:uC xs=true)(c:List Int):i8 xs c=0:=by
 induction xs generalizing c with
 |nil=>rfl
 |cons x xs ih=>induction c using List.casesOn with
  |nil=>rfl
  |cons c cs=>
   have q:=(DY _ _).mp h
   have e:x=0:=Fz q.1
   show x*c+i8 xs cs=0
   rw[e,ih q.2,HO];rfl
noncomputable def zz(c:List Int)(g:F):List (F×Int)->Prop
 |[]=>g.den c
 |h::r=>h.1.den c->zz c g r
noncomputable def above(k:Int):List Int->Bool
 |[]=>true
 |x::xs=>decide (-k<x)&&uC xs
noncomputable def chk(k:Nat)(g:F)(acc:List Int):List (F×Int)->Bool
 |[]=>Nat.ble 1 k&& !g.isEq&&above k (e7 (g.co k) (sN (-1) acc))
 |h::r=>(h.1.isEq||decide (0<=h.2))&&chk k g (e7 acc (h.1.co h.2)) r
theorem xa(xs c:List Int):i8 (sN (-1) xs) c= -i8 xs c:=by
 induction xs generalizing c with
 |nil=>rfl
 |cons x xs ih=>induction c using List.casesOn with
  |nil=>rfl
  |cons c cs=>show-1*x*c+i8 (sN (-1) xs) cs= -(x*c+i8 xs cs);rw[ih,Int.neg_add,Hy,Int.neg_one_mul]
theorem xb(k:Nat)(g:F)(c:List Int)(hs:List (F×Int))(acc:List Int)(h0:0<=i8 acc (1::c))(h:chk k g acc hs=true):zz c g hs:=by
 induction hs generalizing acc with
 |nil=>
  have q:=(DY _ _).mp h
  have q1:=(DY _ _).mp q.1
  have hk:0<(k:Int):=Dt.mpr (DF q1.1)
  have r: -(k:Int)<i8 (g.co k) (1::c)+i8 (sN (-1) acc) (1::c):=by
   rw[<-e8]
   have a:=q.2
   generalize e7 (g.co k) (sN (-1) acc)=z at a
   induction z using List.casesOn with
   |nil=>exact Int.neg_neg_of_pos hk
   |cons x xs=>
    have b:=(DY _ _).mp a
    show-(k:Int)<x*1+i8 xs c
    rw[sO b.2,Fy,FW];exact Fz b.1
  rw[xa]at r
  have r2: -(k:Int)<i8 (g.co k) (1::c):=by lia
  show g.den c
  have key:∀d:Int,-(k:Int)<k*d->0<=d:=λd hd=>Ez.mp λn=>by
   have:=Int.mul_le_mul_of_nonneg_left (show d<= -1 from Int.le_of_lt_add_one n) (Eh hk)
   rw[Int.mul_neg,FW]at this
   exact absurd hd (Ez.mpr this)
  induction g using F.casesOn with
  |le x y=>exact Int.le_of_sub_nonneg (key _ (by rw[<-jP];exact r2))
  |lt x y=>
   refine Int.lt_of_sub_pos (Int.lt_of_not_ge λn=>?_)
   have e:i8 ((F.lt x y).co k) (1::c)= -k+k*(y.den c-x.den c):=by rw[show(F.lt x y).co k=e7 [-(k:Int)] (e7 (y.co k) (x.co (-k)))from rfl,e8,jP,show i8 [-(k:Int)] (1::c)= -k from(Fy _).trans (FW _)]
   rw[e]at r2
   have z:(k:Int)*(y.den c-x.den c)<=0:=Int.mul_nonpos_of_nonneg_of_nonpos (Eh hk) n
   exact absurd r2 (Ez.mpr (Int.add_le_of_le_sub_left (by rw[HQ];exact z)))
  |eq x y=>exact absurd q1.2 Do
 |cons f r ih=>
  have q:=(DY _ _).mp h
  intro hf
  refine ih _ ?_ q.2
  rw[e8]
  exact Int.add_nonneg h0 (F.co_nonneg _ _ _ ((FM _ _).mp q.1|>.imp id Fz) hf)
theorem ao(c:List Int)(hs:List (F×Int))(g:F)(k:Nat)(h:chk k g [] hs=true):zz c g hs:=xb k g c hs [] (Gv 0) h
theorem toNat_lt{x:Int}{n:Nat}(h:x<n)(p:0<n):x.toNat<n:=by
 induction x using Int.casesOn with
 |ofNat k=>exact Dt.mp h
 |negSucc k=>exact p
theorem eI{x:Int}{n:Nat}(a: -(n:Int)<=x)(b:x<=n):x.natAbs<=n:=by
 induction x using Int.casesOn with
 |ofNat k=>exact Dm.mp b
 |negSucc k=>exact Dm.mp (Int.le_of_neg_le_neg a)
theorem mz{x:Int}{n:Nat}(h:x.natAbs<=n):x<=n:=by
 induction x using Int.casesOn with
 |ofNat k=>exact Dm.mpr h
 |negSucc k=>exact FA (Eh (Ie k)) (Dq n)
theorem jB{x:Int}{n:Nat}(h:x.natAbs<=n): -(n:Int)<=x:=by
 induction x using Int.casesOn with
 |ofNat k=>exact FA (Int.neg_nonpos_of_nonneg (Dq n)) (Dq k)
 |negSucc k=>exact Hs (Dm.mpr h)
theorem or2{s:Nat}(h:s<2):s=0\/s=1:=by
 induction s using Nat.casesOn with
 |zero=>exact .inl rfl
 |succ s=>exact .inr (Ds _ (Nat.le_zero.mp (EA (Nat.lt_of_succ_lt_succ h))))
theorem aA{p0 p1:Prop}{R:Prop}(h:p0/\p1)(k:p0->p1->R):R:=k h.1 h.2
theorem aB{A:Type}{p0:A->Prop}{R:Prop}(h:∃a,p0 a)(k:∀a,p0 a->R):R:=h.elim λa h1=>k a h1
theorem cJ{p0 p1 p2:Prop}{R:Prop}(h:p0/\p1/\p2)(k:p0->p1->p2->R):R:=k h.1 h.2.1 h.2.2
theorem ai{A:Type}{p0 p1:A->Prop}{R:Prop}(h:∃a,p0 a/\p1 a)(k:∀a,p0 a->p1 a->R):R:=h.elim λa h1=>k a h1.1 h1.2
theorem bE{A B:Type}{p0:A->B->Prop}{R:Prop}(h:∃a b,p0 a b)(k:∀a b,p0 a b->R):R:=h.elim λa h1=>h1.elim λb h2=>k a b h2
theorem dS{p0 p1 p2 p3:Prop}{R:Prop}(h:p0/\p1/\p2/\p3)(k:p0->p1->p2->p3->R):R:=k h.1 h.2.1 h.2.2.1 h.2.2.2
theorem eJ{A:Type}{p0 p1:Prop}{p2:A->Prop}{R:Prop}(h:p0/\p1/\∃a,p2 a)(k:p0->p1->∀a,p2 a->R):R:=h.2.2.elim λa h1=>k h.1 h.2.1 a h1
theorem bo{A:Type}{p0 p1 p2:A->Prop}{R:Prop}(h:∃a,p0 a/\p1 a/\p2 a)(k:∀a,p0 a->p1 a->p2 a->R):R:=h.elim λa h1=>k a h1.1 h1.2.1 h1.2.2
theorem aD{A B:Type}{p0 p1:A->B->Prop}{R:Prop}(h:∃a b,p0 a b/\p1 a b)(k:∀a b,p0 a b->p1 a b->R):R:=h.elim λa h1=>h1.elim λb h2=>k a b h2.1 h2.2
theorem iG{A B C:Type}{p0:A->B->C->Prop}{R:Prop}(h:∃a b c,p0 a b c)(k:∀a b c,p0 a b c->R):R:=h.elim λa h1=>h1.elim λb h2=>h2.elim λc h3=>k a b c h3
theorem xd{p0 p1 p2 p3 p4:Prop}{R:Prop}(h:p0/\p1/\p2/\p3/\p4)(k:p0->p1->p2->p3->p4->R):R:=k h.1 h.2.1 h.2.2.1 h.2.2.2.1 h.2.2.2.2
theorem e9{A B:Type}{p0:Prop}{p1 p2:A->B->Prop}{R:Prop}(h:p0/\∃a b,p1 a b/\p2 a b)(k:p0->∀a b,p1 a b->p2 a b->R):R:=h.2.elim λa h1=>h1.elim λb h2=>k h.1 a b h2.1 h2.2
theorem bi{A:Type}{p0 p1 p2 p3:A->Prop}{R:Prop}(h:∃a,p0 a/\p1 a/\p2 a/\p3 a)(k:∀a,p0 a->p1 a->p2 a->p3 a->R):R:=h.elim λa h1=>k a h1.1 h1.2.1 h1.2.2.1 h1.2.2.2
theorem dH{A B:Type}{p0 p1 p2:A->B->Prop}{R:Prop}(h:∃a b,p0 a b/\p1 a b/\p2 a b)(k:∀a b,p0 a b->p1 a b->p2 a b->R):R:=h.elim λa h1=>h1.elim λb h2=>k a b h2.1 h2.2.1 h2.2.2
theorem bQ{A B C:Type}{p0 p1:A->B->C->Prop}{R:Prop}(h:∃a b c,p0 a b c/\p1 a b c)(k:∀a b c,p0 a b c->p1 a b c->R):R:=h.elim λa h1=>h1.elim λb h2=>h2.elim λc h3=>k a b c h3.1 h3.2
theorem jC{A B C D:Type}{p0:A->B->C->D->Prop}{R:Prop}(h:∃a b c d,p0 a b c d)(k:∀a b c d,p0 a b c d->R):R:=h.elim λa h1=>h1.elim λb h2=>h2.elim λc h3=>h3.elim λd h4=>k a b c d h4
theorem gW{A B:Type}{p0 p1:A->Prop}{p2 p3:A->B->Prop}{R:Prop}(h:∃a,p0 a/\p1 a/\∃b,p2 a b/\p3 a b)(k:∀a,p0 a->p1 a->∀b,p2 a b->p3 a b->R):R:=h.elim λa h1=>h1.2.2.elim λb h2=>k a h1.1 h1.2.1 b h2.1 h2.2
theorem bL{A B:Type}{p0 p1 p2 p3:A->B->Prop}{R:Prop}(h:∃a b,p0 a b/\p1 a b/\p2 a b/\p3 a b)(k:∀a b,p0 a b->p1 a b->p2 a b->p3 a b->R):R:=h.elim λa h1=>h1.elim λb h2=>k a b h2.1 h2.2.1 h2.2.2.1 h2.2.2.2
theorem du{A B C:Type}{p0 p1 p2:A->B->C->Prop}{R:Prop}(h:∃a b c,p0 a b c/\p1 a b c/\p2 a b c)(k:∀a b c,p0 a b c->p1 a b c->p2 a b c->R):R:=h.elim λa h1=>h1.elim λb h2=>h2.elim λc h3=>k a b c h3.1 h3.2.1 h3.2.2
theorem fD{A B C D:Type}{p0 p1:A->B->C->D->Prop}{R:Prop}(h:∃a b c d,p0 a b c d/\p1 a b c d)(k:∀a b c d,p0 a b c d->p1 a b c d->R):R:=h.elim λa h1=>h1.elim λb h2=>h2.elim λc h3=>h3.elim λd h4=>k a b c d h4.1 h4.2
theorem sP{A B C D:Type}{p0:Prop}{p1 p2:A->B->C->D->Prop}{R:Prop}(h:p0/\∃a b c d,p1 a b c d/\p2 a b c d)(k:p0->∀a b c d,p1 a b c d->p2 a b c d->R):R:=h.2.elim λa h1=>h1.elim λb h2=>h2.elim λc h3=>h3.elim λd h4=>k h.1 a b c d h4.1 h4.2
theorem gf{A:Type}{p0 p1 p2 p3 p4 p5:A->Prop}{R:Prop}(h:∃a,p0 a/\p1 a/\p2 a/\p3 a/\p4 a/\p5 a)(k:∀a,p0 a->p1 a->p2 a->p3 a->p4 a->p5 a->R):R:=h.elim λa h1=>k a h1.1 h1.2.1 h1.2.2.1 h1.2.2.2.1 h1.2.2.2.2.1 h1.2.2.2.2.2
theorem iH{A B C:Type}{p0 p1 p2 p3:A->B->C->Prop}{R:Prop}(h:∃a b c,p0 a b c/\p1 a b c/\p2 a b c/\p3 a b c)(k:∀a b c,p0 a b c->p1 a b c->p2 a b c->p3 a b c->R):R:=h.elim λa h1=>h1.elim λb h2=>h2.elim λc h3=>k a b c h3.1 h3.2.1 h3.2.2.1 h3.2.2.2
theorem cV{A B C D E:Type}{p0 p1:A->B->C->D->E->Prop}{R:Prop}(h:∃a b c d e,p0 a b c d e/\p1 a b c d e)(k:∀a b c d e,p0 a b c d e->p1 a b c d e->R):R:=h.elim λa h1=>h1.elim λb h2=>h2.elim λc h3=>h3.elim λd h4=>h4.elim λe h5=>k a b c d e h5.1 h5.2
theorem jQ{A B C:Type}{p0:Prop}{p1 p2 p3 p4:A->B->C->Prop}{R:Prop}(h:p0/\∃a b c,p1 a b c/\p2 a b c/\p3 a b c/\p4 a b c)(k:p0->∀a b c,p1 a b c->p2 a b c->p3 a b c->p4 a b c->R):R:=h.2.elim λa h1=>h1.elim λb h2=>h2.elim λc h3=>k h.1 a b c h3.1 h3.2.1 h3.2.2.1 h3.2.2.2
theorem gJ{A B C D:Type}{p0:Prop}{p1 p2 p3:A->B->C->D->Prop}{R:Prop}(h:p0/\∃a b c d,p1 a b c d/\p2 a b c d/\p3 a b c d)(k:p0->∀a b c d,p1 a b c d->p2 a b c d->p3 a b c d->R):R:=h.2.elim λa h1=>h1.elim λb h2=>h2.elim λc h3=>h3.elim λd h4=>k h.1 a b c d h4.1 h4.2.1 h4.2.2
theorem pM{A B:Type}{p0 p1 p2 p3 p4 p5:A->B->Prop}{R:Prop}(h:∃a b,p0 a b/\p1 a b/\p2 a b/\p3 a b/\p4 a b/\p5 a b)(k:∀a b,p0 a b->p1 a b->p2 a b->p3 a b->p4 a b->p5 a b->R):R:=h.elim λa h1=>h1.elim λb h2=>k a b h2.1 h2.2.1 h2.2.2.1 h2.2.2.2.1 h2.2.2.2.2.1 h2.2.2.2.2.2
theorem dT{A B C:Type}{p0 p1 p2 p3 p4:A->B->C->Prop}{R:Prop}(h:∃a b c,p0 a b c/\p1 a b c/\p2 a b c/\p3 a b c/\p4 a b c)(k:∀a b c,p0 a b c->p1 a b c->p2 a b c->p3 a b c->p4 a b c->R):R:=h.elim λa h1=>h1.elim λb h2=>h2.elim λc h3=>k a b c h3.1 h3.2.1 h3.2.2.1 h3.2.2.2.1 h3.2.2.2.2
theorem cW{A B C D:Type}{p0 p1 p2 p3:A->B->C->D->Prop}{R:Prop}(h:∃a b c d,p0 a b c d/\p1 a b c d/\p2 a b c d/\p3 a b c d)(k:∀a b c d,p0 a b c d->p1 a b c d->p2 a b c d->p3 a b c d->R):R:=h.elim λa h1=>h1.elim λb h2=>h2.elim λc h3=>h3.elim λd h4=>k a b c d h4.1 h4.2.1 h4.2.2.1 h4.2.2.2
theorem pN{A B C D E:Type}{p0 p1 p2:A->B->C->D->E->Prop}{R:Prop}(h:∃a b c d e,p0 a b c d e/\p1 a b c d e/\p2 a b c d e)(k:∀a b c d e,p0 a b c d e->p1 a b c d e->p2 a b c d e->R):R:=h.elim λa h1=>h1.elim λb h2=>h2.elim λc h3=>h3.elim λd h4=>h4.elim λe h5=>k a b c d e h5.1 h5.2.1 h5.2.2
theorem ed{A B C D:Type}{p0:Prop}{p1 p2 p3 p4:A->B->C->D->Prop}{R:Prop}(h:p0/\∃a b c d,p1 a b c d/\p2 a b c d/\p3 a b c d/\p4 a b c d)(k:p0->∀a b c d,p1 a b c d->p2 a b c d->p3 a b c d->p4 a b c d->R):R:=h.2.elim λa h1=>h1.elim λb h2=>h2.elim λc h3=>h3.elim λd h4=>k h.1 a b c d h4.1 h4.2.1 h4.2.2.1 h4.2.2.2
theorem fE{A B C D E:Type}{p0 p1 p2 p3:A->B->C->D->E->Prop}{R:Prop}(h:∃a b c d e,p0 a b c d e/\p1 a b c d e/\p2 a b c d e/\p3 a b c d e)(k:∀a b c d e,p0 a b c d e->p1 a b c d e->p2 a b c d e->p3 a b c d e->R):R:=h.elim λa h1=>h1.elim λb h2=>h2.elim λc h3=>h3.elim λd h4=>h4.elim λe h5=>k a b c d e h5.1 h5.2.1 h5.2.2.1 h5.2.2.2
theorem mA{A B C D:Type}{p0:Prop}{p1 p2 p3 p4 p5:A->B->C->D->Prop}{R:Prop}(h:p0/\∃a b c d,p1 a b c d/\p2 a b c d/\p3 a b c d/\p4 a b c d/\p5 a b c d)(k:p0->∀a b c d,p1 a b c d->p2 a b c d->p3 a b c d->p4 a b c d->p5 a b c d->R):R:=h.2.elim λa h1=>h1.elim λb h2=>h2.elim λc h3=>h3.elim λd h4=>k h.1 a b c d h4.1 h4.2.1 h4.2.2.1 h4.2.2.2.1 h4.2.2.2.2
theorem mB{A B C D E:Type}{p0 p1 p2:A->Prop}{p3 p4:A->B->C->D->E->Prop}{R:Prop}(h:∃a,p0 a/\p1 a/\p2 a/\∃b c d e,p3 a b c d e/\p4 a b c d e)(k:∀a,p0 a->p1 a->p2 a->∀b c d e,p3 a b c d e->p4 a b c d e->R):R:=h.elim λa h1=>h1.2.2.2.elim λb h2=>h2.elim λc h3=>h3.elim λd h4=>h4.elim λe h5=>k a h1.1 h1.2.1 h1.2.2.1 b c d e h5.1 h5.2
theorem mC{A B:Type}{p0 p1:A->Prop}{p2 p3 p4 p5 p6 p7:A->B->Prop}{R:Prop}(h:∃a,p0 a/\p1 a/\∃b,p2 a b/\p3 a b/\p4 a b/\p5 a b/\p6 a b/\p7 a b)(k:∀a,p0 a->p1 a->∀b,p2 a b->p3 a b->p4 a b->p5 a b->p6 a b->p7 a b->R):R:=h.elim λa h1=>h1.2.2.elim λb h2=>k a h1.1 h1.2.1 b h2.1 h2.2.1 h2.2.2.1 h2.2.2.2.1 h2.2.2.2.2.1 h2.2.2.2.2.2
theorem mD{A B C D E F G:Type}{p0 p1 p2:A->B->C->D->E->F->G->Prop}{R:Prop}(h:∃a b c d e f g,p0 a b c d e f g/\p1 a b c d e f g/\p2 a b c d e f g)(k:∀a b c d e f g,p0 a b c d e f g->p1 a b c d e f g->p2 a b c d e f g->R):R:=h.elim λa h1=>h1.elim λb h2=>h2.elim λc h3=>h3.elim λd h4=>h4.elim λe h5=>h5.elim λf h6=>h6.elim λg h7=>k a b c d e f g h7.1 h7.2.1 h7.2.2
theorem mE{A B C D E F G H:Type}{p0 p1:A->B->C->D->E->F->G->H->Prop}{R:Prop}(h:∃a b c d e f g i,p0 a b c d e f g i/\p1 a b c d e f g i)(k:∀a b c d e f g i,p0 a b c d e f g i->p1 a b c d e f g i->R):R:=h.elim λa h1=>h1.elim λb h2=>h2.elim λc h3=>h3.elim λd h4=>h4.elim λe h5=>h5.elim λf h6=>h6.elim λg h7=>h7.elim λi h8=>k a b c d e f g i h8.1 h8.2
theorem eK{A B C D:Type}{p0 p1 p2:A->Prop}{p3 p4 p5 p6:A->B->C->D->Prop}{R:Prop}(h:∃a,p0 a/\p1 a/\p2 a/\∃b c d,p3 a b c d/\p4 a b c d/\p5 a b c d/\p6 a b c d)(k:∀a,p0 a->p1 a->p2 a->∀b c d,p3 a b c d->p4 a b c d->p5 a b c d->p6 a b c d->R):R:=h.elim λa h1=>h1.2.2.2.elim λb h2=>h2.elim λc h3=>h3.elim λd h4=>k a h1.1 h1.2.1 h1.2.2.1 b c d h4.1 h4.2.1 h4.2.2.1 h4.2.2.2
theorem kR{A B C D E F:Type}{p0 p1 p2 p3 p4:A->B->C->D->E->F->Prop}{R:Prop}(h:∃a b c d e f,p0 a b c d e f/\p1 a b c d e f/\p2 a b c d e f/\p3 a b c d e f/\p4 a b c d e f)(k:∀a b c d e f,p0 a b c d e f->p1 a b c d e f->p2 a b c d e f->p3 a b c d e f->p4 a b c d e f->R):R:=h.elim λa h1=>h1.elim λb h2=>h2.elim λc h3=>h3.elim λd h4=>h4.elim λe h5=>h5.elim λf h6=>k a b c d e f h6.1 h6.2.1 h6.2.2.1 h6.2.2.2.1 h6.2.2.2.2
theorem dV{A B C D E F G H I:Type}{p0 p1 p2:A->B->C->D->E->F->G->H->I->Prop}{R:Prop}(h:∃a b c d e f g i m,p0 a b c d e f g i m/\p1 a b c d e f g i m/\p2 a b c d e f g i m)(k:∀a b c d e f g i m,p0 a b c d e f g i m->p1 a b c d e f g i m->p2 a b c d e f g i m->R):R:=h.elim λa h1=>h1.elim λb h2=>h2.elim λc h3=>h3.elim λd h4=>h4.elim λe h5=>h5.elim λf h6=>h6.elim λg h7=>h7.elim λi h8=>h8.elim λm h9=>k a b c d e f g i m h9.1 h9.2.1 h9.2.2
theorem dC{A B C D E:Type}{p0 p1 p2:A->Prop}{p3 p4 p5 p6 p7:A->B->C->D->E->Prop}{R:Prop}(h:∃a,p0 a/\p1 a/\p2 a/\∃b c d e,p3 a b c d e/\p4 a b c d e/\p5 a b c d e/\p6 a b c d e/\p7 a b c d e)(k:∀a,p0 a->p1 a->p2 a->∀b c d e,p3 a b c d e->p4 a b c d e->p5 a b c d e->p6 a b c d e->p7 a b c d e->R):R:=h.elim λa h1=>h1.2.2.2.elim λb h2=>h2.elim λc h3=>h3.elim λd h4=>h4.elim λe h5=>k a h1.1 h1.2.1 h1.2.2.1 b c d e h5.1 h5.2.1 h5.2.2.1 h5.2.2.2.1 h5.2.2.2.2
theorem aW{A B C D E F:Type}{p0 p1 p2 p3 p4 p5 p6:A->B->C->D->E->F->Prop}{R:Prop}(h:∃a b c d e f,p0 a b c d e f/\p1 a b c d e f/\p2 a b c d e f/\p3 a b c d e f/\p4 a b c d e f/\p5 a b c d e f/\p6 a b c d e f)(k:∀a b c d e f,p0 a b c d e f->p1 a b c d e f->p2 a b c d e f->p3 a b c d e f->p4 a b c d e f->p5 a b c d e f->p6 a b c d e f->R):R:=h.elim λa h1=>h1.elim λb h2=>h2.elim λc h3=>h3.elim λd h4=>h4.elim λe h5=>h5.elim λf h6=>k a b c d e f h6.1 h6.2.1 h6.2.2.1 h6.2.2.2.1 h6.2.2.2.2.1 h6.2.2.2.2.2.1 h6.2.2.2.2.2.2
theorem jr{A B C D E F G H:Type}{p0 p1 p2 p3 p4:A->B->C->D->E->F->G->H->Prop}{R:Prop}(h:∃a b c d e f g i,p0 a b c d e f g i/\p1 a b c d e f g i/\p2 a b c d e f g i/\p3 a b c d e f g i/\p4 a b c d e f g i)(k:∀a b c d e f g i,p0 a b c d e f g i->p1 a b c d e f g i->p2 a b c d e f g i->p3 a b c d e f g i->p4 a b c d e f g i->R):R:=h.elim λa h1=>h1.elim λb h2=>h2.elim λc h3=>h3.elim λd h4=>h4.elim λe h5=>h5.elim λf h6=>h6.elim λg h7=>h7.elim λi h8=>k a b c d e f g i h8.1 h8.2.1 h8.2.2.1 h8.2.2.2.1 h8.2.2.2.2
theorem gK{A:Type}{p0:Prop}{p1 p2:A->Prop}{R:Prop}(h:p0/\∃a,p1 a/\p2 a)(k:p0->∀a,p1 a->p2 a->R):R:=h.2.elim λa h1=>k h.1 a h1.1 h1.2
noncomputable def cI{a:Type}(_:a):Bool:=false
noncomputable def ax{a b:Type}(_:a)(_:b):Bool:=false
noncomputable def av{a b c:Type}(_:a)(_:b)(_:c):Bool:=false
noncomputable def aw{a b c d:Type}(_:a)(_:b)(_:c)(_:d):Bool:=false
noncomputable def bN{a b c d e:Type}(_:a)(_:b)(_:c)(_:d)(_:e):Bool:=false
noncomputable def CP{a b c d e f:Type}(_:a)(_:b)(_:c)(_:d)(_:e)(_:f):Bool:=false
noncomputable def uD{a b c d e f g:Type}(_:a)(_:b)(_:c)(_:d)(_:e)(_:f)(_:g):Bool:=false
noncomputable def CQ{a b c d e f g h:Type}(_:a)(_:b)(_:c)(_:d)(_:e)(_:f)(_:g)(_:h):Bool:=false
noncomputable def CR{a b c d e f g h i:Type}(_:a)(_:b)(_:c)(_:d)(_:e)(_:f)(_:g)(_:h)(_:i):Bool:=false
noncomputable def ec{a b c d e f g h i j:Type}(_:a)(_:b)(_:c)(_:d)(_:e)(_:f)(_:g)(_:h)(_:i)(_:j):Bool:=false
noncomputable def jR{a b c d e f g h i j k:Type}(_:a)(_:b)(_:c)(_:d)(_:e)(_:f)(_:g)(_:h)(_:i)(_:j)(_:k):Bool:=false
theorem CH{motive:Nat->Prop}{n d:Nat}(h:d<n+1)(a:motive n)(b:d<n->motive d):motive d:=(Nat.lt_or_eq_of_le (EA h)).elim b λe=>e▸a
theorem bj{α:Type}{l:List α}{n:Nat}(h:l.length=n+1){P:Prop}(k:∀a r,l=a::r->r.length=n->P):P:=by
 induction l using List.casesOn with
 |nil=>exact absurd h.symm (Ff n)
 |cons a r=>exact k a r rfl (GU h)
theorem iI{α:Type}{l:List α}(h:l.length=6){P:Prop}(k:∀a b c d e f,l=[a,b,c,d,e,f]->P):P:=by
 refine bj h λa r e0 l0=>bj l0 λb r e1 l1=>bj l1 λc r e2 l2=>bj l2 λd r e3 l3=>bj l3 λe r e4 l4=>bj l4 λf r e5 l5=>k a b c d e f ?_
 rw[e0,e1,e2,e3,e4,e5,EL l5]
@[elab_as_elim] theorem bt {α:Sort _} {a b:α} {motive:α->Prop} (h:b=a) (x:motive b):motive a:=h▸x
theorem lL{z:Int}(h:0<=z):max 0 z=z:=Int.max_eq_right h
theorem zm{z:Int}(h:z<=0):max 0 z=0:=Int.max_eq_left h
theorem pO{z:Int}(h:0<max 0 z):0<z:=Em.mp λq=>by rw[zm q]at h;exact Int.lt_irrefl 0 h
theorem nX{z:Int}(h:0<max 0 z):max 0 z-1=max 0 (z-1):=by
 have q:=pO h
 rw[lL (Eh q),lL (show 0<=z-1 from H5 q)]
theorem xe{a b left:Int}(h:0<left)(e:left=max 0 (b-a)):left-1=max 0 (b-(a+1)):=by
 subst e;rw[nX h,Int.sub_sub]
theorem zA(a b:Int):a-b-1=a+ -1-b:=by rw[FS,FS,FS,Int.add_right_comm]
theorem xf{a b left:Int}(h:0<left)(e:left=max 0 (a-b)):left-1=max 0 (a+ -1-b):=by
 subst e;exact(nX h).trans (Ds _ (zA a b))
theorem rS{a b:Int}(h:a<b):0<max 0 (b-a):=by rw[lL (Eh (FX h))];exact FX h
theorem jD{a b:Int}(h:¬a<b):max 0 (b-a)=0:=zm (Int.sub_nonpos_of_le (Ez.mp h))
theorem Bd{z:Int}(h:z.natAbs<=2000000000000000000): -2^63<=z/\z<2^63:=⟨FA (by decide) (jB h),Fu (mz h) (by decide)⟩
theorem zn{a b:Int}(ha:a.natAbs<=2000000000000000000)(hb:b.natAbs<=2000000000000000000): -2^63<=max 0 (a-b)/\max 0 (a-b)<2^63:=
 ⟨FA (by decide) (Int.le_max_left ..),Fu (Int.max_le.mpr ⟨(by decide:(0:Int)<=4000000000000000000),Int.sub_le_sub (mz ha) (jB hb)⟩) (by decide)⟩
theorem zB{k:Int}{n:Nat}(h:0<=k):max 0 (min k n)=((min k.toNat n:Nat):Int):=by
 induction k using Int.casesOn with
 |ofNat k=>exact(lL (Int.le_min.mpr ⟨h,Dq n⟩)).trans (Lean.Omega.Int.ofNat_min k n).symm
 |negSucc k=>exact absurd h (Em.mpr (Ie k))
theorem i9{k n:Nat}(h:k<n+1):k=n\/k<n:=(Hz.mp h).symm
theorem BX{k:Nat}(h:k<4):k=0\/k=1\/k=2\/k=3:=by
 rcases i9 h with e|h
 ·exact .inr (.inr (.inr e))
 ·rcases i9 h with e|h
  ·exact .inr (.inr (.inl e))
  ·exact(or2 h).imp id .inl
theorem BY{k:Nat}(h:k<6):k=0\/k=1\/k=2\/k=3\/k=4\/k=5:=by
 rcases i9 h with e|h
 ·exact .inr (.inr (.inr (.inr (.inr e))))
 ·rcases i9 h with e|h
  ·exact .inr (.inr (.inr (.inr (.inl e))))
  ·exact(BX h).imp id λa=>a.imp id λa=>a.imp id .inl
theorem near{q d:Int}(h:12<=q/\q<18)(a: -12<=d)(b:d<=12):0<=q+d/\q+d<30:=⟨Int.add_le_add h.1 a,Int.add_lt_add_of_lt_of_le h.2 b⟩
theorem zo{q d:Int}(h:12<=q/\q<18)(a: -12<=d)(b:d<=12):0<=q-d/\q-d<30:=near h (Hs b) (Hs a)
theorem rT{z:Int}(h:z<30):z.toNat<30:=toNat_lt h (by decide)
theorem zC{e:Int}(q:e/6=2):12<=e/\e<18:=by
 have a:=Int.mul_ediv_self_le (x:=e) (k:=6) (by decide)
 have b:=Int.lt_mul_ediv_self_add (x:=e) (k:=6) (by decide)
 rw[q]at a b;exact⟨a,b⟩
theorem Bk{q d:Int}(h:12<=q/\q<18)(a: -12<=d)(b:d<=12):0<=q+d:=(near h a b).1
theorem Bl{q d:Int}(h:12<=q/\q<18)(a: -12<=d)(b:d<=12):(q+d).toNat<30:=rT (near h a b).2
theorem Bm{q d:Int}(h:12<=q/\q<18)(a: -12<=d)(b:d<=12):0<=q-d:=(zo h a b).1
theorem Bn{q d:Int}(h:12<=q/\q<18)(a: -12<=d)(b:d<=12):(q-d).toNat<30:=rT (zo h a b).2
theorem Bo{k:Int}(h:0<=k):k=(k.toNat:Int):=(DH h).symm
theorem lM{n:Nat}(h:n≠0):(n:Int)-1=((n-1:Nat):Int):=(Int.ofNat_sub (Nat.pos_of_ne_zero h)).symm
theorem pP{a m n:Nat}(h:a-m=n)(ha:a<=n)(hm:m<=n):m=0:=
 Nat.eq_zero_of_not_pos λq=>(Nat.eq_zero_or_pos a).elim (λz=>by subst z;rw[Nat.zero_sub]at h;subst h;exact FD.mpr hm q) λp=>absurd (Nat.sub_lt p q) (FD.mpr (h▸ha))
theorem lO{p n B k:Nat}(h:n<=B)(hk:k<=1):min p n+(k+(n-(p+1)))<=B+1:=by
 rcases GV p n with a|a
 ·rw[Fb a]
  rcases Nat.lt_or_ge p n with b|b
  ·have:p+(k+(n-(p+1)))<=p+(1+(n-(p+1))):=GD (Ea hk _) _
   rw[<-Nat.add_assoc p 1,FP b]at this
   exact Er (Dw this h)
  ·rw[Gs (Er b)];exact Nat.add_le_add (Dw a h) hk
 ·rw[Ge a,Gs (Er a)];exact Nat.add_le_add h hk
theorem uE(p n:Nat):min p n+(n-p)=n:=by
 rcases GV p n with a|a
 ·rw[Fb a,FP a]
 ·rw[Ge a,Gs a,Nat.add_zero]
theorem Be{a k d j r:Nat}(h:a+k*(d+1)+j<r):a+k*d+j<r:=Fv (Ea (GD (Nat.mul_le_mul_left k (Ee d)) a) j) h
theorem CI{k:Nat}(h:k<8):k=0\/k=1\/k=2\/k=3\/k=4\/k=5\/k=6\/k=7:=by
 rcases i9 h with e|h
 ·exact .inr (.inr (.inr (.inr (.inr (.inr (.inr e))))))
 ·rcases i9 h with e|h
  ·exact .inr (.inr (.inr (.inr (.inr (.inr (.inl e))))))
  ·exact(BY h).imp id λa=>a.imp id λa=>a.imp id λa=>a.imp id λa=>a.imp id .inl
theorem CJ{k:Nat}(h:k<7):k=0\/k=1\/k=2\/k=3\/k=4\/k=5\/k=6:=by
 rcases i9 h with e|h
 ·exact .inr (.inr (.inr (.inr (.inr (.inr e)))))
 ·exact(BY h).imp id λa=>a.imp id λa=>a.imp id λa=>a.imp id λa=>a.imp id .inl
theorem uF{s:Nat}(h:s<2):1-(1-s)=s:=Nat.sub_sub_self (EA h)
theorem uG{s:Nat}(h:s<2):((1-s:Nat):Int)=1-(s:Int):=Int.ofNat_sub (EA h)
theorem sQ{i n:Nat}(h:i<n):n+1-1-i=n-1-i+1:=by
 rw[Nat.add_sub_cancel,H6,Nat.add_comm 1 i,<-H6,Nat.sub_add_cancel (Nat.sub_pos_of_lt h)]
theorem zD{k n:Nat}(h:k<n):n-1-k<n:=Fv (Fd _ _) (Nat.sub_lt (Fv (FG k) h) Nat.one_pos)
theorem xg(n k:Nat):(-1-(k:Int)+(n:Int)).toNat=n-1-k:=by
 rw[H6,<-Int.toNat_sub,HP,<-Int.add_sub_assoc,Int.natCast_add,<-Int.sub_sub];rfl
theorem jS{x y:Int}{a b:Nat}(h:x<y)(e:x=a)(f:y=b):a<b:=by subst e f;exact Dt.mp h
theorem uH{P:Nat->Prop}(i:Nat)(h:i<0):P i:=absurd h (Gp i)
theorem uI{P:Nat->Prop}{n:Nat}(a:∀i,i<n->P i)(b:P n)(i:Nat)(h:i<n+1):P i:=(Hz.mp h).elim (a i) λe=>e▸b
theorem pL{a0 a1:Bool}{R:Prop}(h:(a0&&a1)=true)(k:a0=true->a1=true->R):R:=k (((DY _ _).mp h).1) (((DY _ _).mp h).2)
theorem jT{a0 a1 a2:Bool}{R:Prop}(h:((a0&&a1)&&a2)=true)(k:a0=true->a1=true->a2=true->R):R:=pL h λp q=>pL p λp0 p1=>k p0 p1 q
theorem zF{a0 a1 a2 a3:Bool}{R:Prop}(h:(((a0&&a1)&&a2)&&a3)=true)(k:a0=true->a1=true->a2=true->a3=true->R):R:=pL h λp q=>jT p λp0 p1 p2=>k p0 p1 p2 q
theorem xh{a0 a1 a2 a3 a4:Bool}{R:Prop}(h:((((a0&&a1)&&a2)&&a3)&&a4)=true)(k:a0=true->a1=true->a2=true->a3=true->a4=true->R):R:=pL h λp q=>zF p λp0 p1 p2 p3=>k p0 p1 p2 p3 q
theorem BZ{a0 a1 a2 a3 a4 a5:Bool}{R:Prop}(h:(((((a0&&a1)&&a2)&&a3)&&a4)&&a5)=true)(k:a0=true->a1=true->a2=true->a3=true->a4=true->a5=true->R):R:=pL h λp q=>xh p λp0 p1 p2 p3 p4=>k p0 p1 p2 p3 p4 q
theorem Bp{a0 a1 a2 a3 a4 a5 a6:Bool}{R:Prop}(h:((((((a0&&a1)&&a2)&&a3)&&a4)&&a5)&&a6)=true)(k:a0=true->a1=true->a2=true->a3=true->a4=true->a5=true->a6=true->R):R:=pL h λp q=>BZ p λp0 p1 p2 p3 p4 p5=>k p0 p1 p2 p3 p4 p5 q
theorem CG{a0 a1 a2 a3 a4 a5 a6 a7:Bool}{R:Prop}(h:(((((((a0&&a1)&&a2)&&a3)&&a4)&&a5)&&a6)&&a7)=true)(k:a0=true->a1=true->a2=true->a3=true->a4=true->a5=true->a6=true->a7=true->R):R:=pL h λp q=>Bp p λp0 p1 p2 p3 p4 p5 p6=>k p0 p1 p2 p3 p4 p5 p6 q
theorem B2{a0 a1 a2 a3 a4 a5 a6 a7 a8:Bool}{R:Prop}(h:((((((((a0&&a1)&&a2)&&a3)&&a4)&&a5)&&a6)&&a7)&&a8)=true)(k:a0=true->a1=true->a2=true->a3=true->a4=true->a5=true->a6=true->a7=true->a8=true->R):R:=pL h λp q=>CG p λp0 p1 p2 p3 p4 p5 p6 p7=>k p0 p1 p2 p3 p4 p5 p6 p7 q
theorem zG{a0 a1 a2 a3 a4 a5 a6 a7 a8 a9:Bool}{R:Prop}(h:(((((((((a0&&a1)&&a2)&&a3)&&a4)&&a5)&&a6)&&a7)&&a8)&&a9)=true)(k:a0=true->a1=true->a2=true->a3=true->a4=true->a5=true->a6=true->a7=true->a8=true->a9=true->R):R:=pL h λp q=>B2 p λp0 p1 p2 p3 p4 p5 p6 p7 p8=>k p0 p1 p2 p3 p4 p5 p6 p7 p8 q
theorem and2{a b:Bool}(h:(a&&b)=true):a=true/\b=true:=(DY a b).mp h
end
section
open PySem
set_option genSizeOf false
set_option genSizeOfSpec false
set_option genInjectivity false
set_option genCtorIdx false
set_option bootstrap.genMatcherCode false
set_option genCtorIdx true in
inductive V where
 |none
 |bool (b:Bool)
 |int (i:Int)
 |str (s:List Nat)
 |tup (vs:List V)
 |ref (n:Nat)
 |rng (lo hi st:Int)
set_option genCtorIdx true in
inductive O where
 |list (xs:List V)
 |inst (c:Nat) (fs:List (Nat×V))
 |dict (kvs:List (List Nat×V))
 |exc (c:Nat) (ctx:Bool) (fs:List (Nat×V))
@[elab_as_elim] theorem O1 {motive:Option O->Prop} (o:Option O) (none:motive none) (list:∀xs,motive (some (.list xs))) (inst:∀c fs,motive (some (.inst c fs))) (dict:∀k,motive (some (.dict k))) (exc:∀c x fs,motive (some (.exc c x fs))):motive o:=
 o.casesOn none λo=>o.casesOn list inst dict exc
abbrev Dp:=Nat×Option Nat
set_option genCtorIdx true in
inductive BOp where
 |add|sub|mul|fdiv|mod|lsh|rsh|band|bor|bxor|pow
set_option genCtorIdx true in
inductive COp where
 |eq|ne|lt|le|gt|ge|is|isnot|isin|notin
set_option genCtorIdx true in
inductive BI where
 |len|range|list|ord|sum|abs|max
set_option genCtorIdx true in
inductive MI where
 |split|find|join|count|sindex|lindex|append|extend
inductive E where
 |none
 |bool (b:Bool)
 |int (i:Int)
 |str (s:List Nat)
 |C8 (i:Nat)
 |gv (i:Nat)
 |bin (op:BOp) (a b:E)
 |neg (a:E)
 |inv (a:E)
 |not (a:E)
 |and (es:List E)
 |or (es:List E)
 |cmp (a:E) (ops:List COp) (es:List E)
 |ite (t a b:E)
 |list (es:List E)
 |tup (es:List E)
 |dict1 (k:List Nat) (v:Int)
 |comp (elt:E) (CY:Nat) (iter:E) (ifs:List E)
 |call (f:Nat) (args:List E)
 |new (c:Nat) (args:List E)
 |cinit (c f:Nat) (args:List E)
 |xinit (self:E) (args:List E)
 |umeth (c f:Nat) (obj:E) (args:List E)
 |Dc (b:BI) (args:List E)
 |meth (m:MI) (obj:E) (args:List E)
 |repl (obj:E) (a b:Nat)
 |attr (obj:E) (a:Nat)
 |sub (obj idx:E)
 |slice (obj:E) (lo hi:Option E)
 |fstr (es:List E)
inductive S where
 |expr (e:E)
 |C9 (CY:Nat) (e:E)
 |unpack (slots:List Nat) (e:E)
 |Dd (o:E) (a:Nat) (e:E)
 |Dg (o i e:E)
 |aug (CY:Nat) (op:BOp) (e:E)
 |Di (o:E) (a:Nat) (op:BOp) (e:E)
 |Dh (o i:E) (op:BOp) (e:E)
 |iff (t:E) (a b:List S)
 |whl (t:E) (body:List S)
 |for(CY:Nat) (iter:E) (body:List S)
 |ret (e:Option E)
 |cont
 |pass
 |raise (e:E)
 |try(body:List S) (c:Nat) (CY:Nat) (handler:List S)
structure Fn where
 nargs:Nat
 nslots:Nat
 body:List S
structure Prog where
 funs:List Fn
 consts:List V
 inits:List Nat
 excs:List Bool
abbrev Hp:=List O
abbrev Env:=List (Option V)
inductive R (α:Type) where
 |ok (a:α) (h:Hp)
 |exc (n:Nat) (h:Hp)
 |no
noncomputable def R.bind{α β:Type}(r:R α)(f:α->Hp->R β):R β:=
 match r with
 |.ok a h=>f a h
 |.exc n h=>.exc n h
 |.no=>.no
inductive Flow where
 |next|cont|ret (v:V)
inductive RS where
 |ok (fl:Flow) (CT:Env) (h:Hp)
 |exc (n:Nat) (CT:Env) (h:Hp)
 |no
noncomputable def R.De{α:Type}(r:R α)(CT:Env)(f:α->Hp->RS):RS:=
 match r with
 |.ok a h=>f a h
 |.exc n h=>.exc n CT h
 |.no=>.no
inductive It where
 |lst (n i:Nat)
 |str (s:List Nat)
 |tup (vs:List V)
 |rng (cur hi st:Int)
inductive Nx where
 |no
 |fin
 |one (v:V) (it:It)
noncomputable def aP(h:Hp):It->Nx
 |.lst n i=>match h[n]? with
  |some (.list xs)=>match xs[i]? with
   |some v=>.one v (.lst n (i+1))
   |none=>.fin
  |_=>.no
 |.str []=>.fin
 |.str (c::r)=>.one (.str [c]) (.str r)
 |.tup []=>.fin
 |.tup (v::r)=>.one v (.tup r)
 |.rng cur hi st=>
  if 0<st then(if cur<hi then .one (.int cur) (.rng (cur+st) hi st)else .fin)
  else if hi<cur then .one (.int cur) (.rng (cur+st) hi st)else .fin
noncomputable def ja(x:Int):Bool:=Nat.ble x.natAbs 2000000000000000000
noncomputable def fF(v:V)(h:Hp):Option It:=match v with
 |.ref n=>match h[n]? with
  |some (.list _)=>some (.lst n 0)
  |_=>none
 |.str s=>some (.str s)
 |.tup vs=>some (.tup vs)
 |.rng lo hi st=>if ja lo&&ja hi then some (.rng lo hi st)else none
 |_=>none
noncomputable def small(x:Int):Bool:=Nat.ble x.natAbs 18446744073709551615
noncomputable def gh(x:Int):Bool:=Nat.ble x.natAbs (2^512)
noncomputable def ae(n:Nat):Bool:=Nat.ble n 100000
noncomputable def ba(op:BOp)(x y:V)(h:Hp):R V:=
 match x,y with
 |.int a,.int b=>match op with
  |.add=>.ok (.int (a+b)) h
  |.sub=>.ok (.int (a-b)) h
  |.mul=>if small a||small b then .ok (.int (a*b)) h else .no
  |.fdiv=>if b !=0&&small b then .ok (.int (a.fdiv b)) h else .no
  |.mod=>if b !=0 then .ok (.int (a.fmod b)) h else .no
  |.lsh=>if 0<=b&&decide (b<=1000)&&gh a then .ok (.int (a*2^b.toNat)) h else .no
  |.rsh=>if 0<=b then .ok (.int (a.fdiv (2^b.toNat))) h else .no
  |.band=>.ok (.int (Builtin.bitAnd a b)) h
  |.bor=>.ok (.int (Builtin.bitOr a b)) h
  |.bxor=>.ok (.int (Builtin.bitXor a b)) h
  |.pow=>if 0<=b&&decide (b<=1000)&&small a then .ok (.int (a^b.toNat)) h else .no
 |.str a,.str b=>match op with
  |.add=>if ae (a.length+b.length)then .ok (.str (a++b)) h else .no
  |_=>.no
 |.ref n,.int k=>match op,h[n]? with
  |.mul,some (.list [x])=>if 0<=k&&decide (k<=1000)then .ok (.ref h.length) (h++[.list (List.replicate k.toNat x)])else .no
  |_,_=>.no
 |_,_=>.no
noncomputable def aO(v:V)(h:Hp):Option Bool:=
 match v with
 |.none=>some false
 |.bool b=>some b
 |.int i=>some (i !=0)
 |.str s=>if ae s.length then some (!s.isEmpty)else none
 |.ref n=>match h[n]? with
  |some (.list xs)=>if ae xs.length then some (!xs.isEmpty)else none
  |_=>none
 |_=>none
noncomputable def Bq:V->V->Option Bool
 |.int a,.int b=>some (a==b)
 |.str a,.str b=>some (a==b)
 |.bool a,.bool b=>some (a==b)
 |_,_=>none
noncomputable def cK(s:List Nat):List V->Option Bool
 |[]=>some false
 |.str t::r=>(cK s r).map λb=>t==s||b
 |_=>none
noncomputable def eg(b:Bool):List V->Option Bool
 |[]=>some false
 |.bool c::r=>(eg b r).map λa=>c==b||a
 |_=>none
noncomputable def cL(s:List Nat):List (List Nat×V)->Option V
 |[]=>none
 |(k,v)::r=>if k==s then some v else cL s r
noncomputable def xi(s:List Nat)(v:V)(kvs:List (List Nat×V)):List (List Nat×V):=
 if kvs.any (λp=>p.1==s)then kvs.map (λp=>if p.1==s then(p.1,v)else p)else kvs++[(s,v)]
noncomputable def isin(x y:V)(h:Hp):Option Bool:=
 match x,y with
 |.str [c],.str s=>some (s.contains c)
 |.str s,.ref n=>match h[n]? with
  |some (.list xs)=>cK s xs
  |some (.dict kvs)=>some (cL s kvs).isSome
  |_=>none
 |.bool b,.ref n=>match h[n]? with
  |some (.list xs)=>eg b xs
  |_=>none
 |_,_=>none
noncomputable def dw:List V->List V->Bool
 |[],[]=>true
 |.int a::r,.int b::t=>a==b&&dw r t
 |_,_=>false
noncomputable def fc(x y:V)(h:Hp):Bool:=
 match x,y with
 |.tup (.ref n::r),.tup (.ref m::t)=>(match h[n]?,h[m]? with
  |some (.list xs),some (.list ys)=>n !=m&&dw xs ys&&dw r t&&ae xs.length&&ae r.length
  |_,_=>false)
 |_,_=>false
noncomputable def fG(op:COp)(x y:V)(h:Hp):Option Bool:=
 match op with
 |.eq=>match Bq x y with
  |some b=>some b
  |none=>if fc x y h then some true else none
 |.ne=>(Bq x y).map (!·)
 |.lt=>match x,y with|.int a,.int b=>some (decide (a<b))|_,_=>none
 |.le=>match x,y with|.int a,.int b=>some (decide (a<=b))|_,_=>none
 |.gt=>match x,y with|.int a,.int b=>some (decide (b<a))|_,_=>none
 |.ge=>match x,y with|.int a,.int b=>some (decide (b<=a))|_,_=>none
 |.is=>match y with|.none=>(match x with|.none=>some true|_=>some false)|_=>none
 |.isnot=>match y with|.none=>(match x with|.none=>some false|_=>some true)|_=>none
 |.isin=>isin x y h
 |.notin=>(isin x y h).map (!·)
noncomputable def aa(c:Nat):List Nat->List (List Nat)
 |[]=>[[]]
 |x::r=>if x==c then[]::aa c r else match aa c r with
  |w::ws=>(x::w)::ws
  |[]=>[[x]]
noncomputable def ac(c:Nat):List Nat->Nat->Int
 |[],_=> -1
 |x::r,i=>if x==c then i else ac c r (i+1)
noncomputable def cr(sep:List Nat):List V->Option (List Nat)
 |[]=>some []
 |[.str s]=>some s
 |.str s::r=>(cr sep r).map λt=>s++(sep++t)
 |_=>none
noncomputable def bI:List V->Option Int
 |[]=>some 0
 |.int i::r=>(bI r).map (i+·)
 |_=>none
noncomputable def ff:List V->Bool
 |[]=>true
 |.str _::r=>ff r
 |_=>false
noncomputable def bV(s:List Nat):List V->Nat->Option Int
 |[],_=>none
 |.str t::r,i=>if t==s then some i else bV s r (i+1)
 |_,_=>none
noncomputable def xj(args:List V)(h:Hp):R V:=
 match args with
 |[.str s]=>if ae s.length then .ok (.int s.length) h else .no
 |[.ref n]=>match h[n]? with
  |some (.list xs)=>if ae xs.length then .ok (.int xs.length) h else .no
  |_=>.no
 |_=>.no
noncomputable def pQ(args:List V)(h:Hp):R V:=
 match args with
 |[.int b]=>if small b then .ok (.rng 0 b 1) h else .no
 |[.int a,.int b]=>if small a&&small b then .ok (.rng a b 1) h else .no
 |[.int a,.int b,.int c]=>if small a&&small b&&c== -1 then .ok (.rng a b c) h else .no
 |_=>.no
noncomputable def uJ(args:List V)(h:Hp):R V:=
 match args with
 |[.str s]=>if ae s.length then .ok (.ref h.length) (h++[.list (s.map λc=>.str [c])])else .no
 |_=>.no
noncomputable def zH(args:List V)(h:Hp):R V:=
 match args with
 |[.str [c]]=>.ok (.int c) h
 |_=>.no
noncomputable def xk(args:List V)(h:Hp):R V:=
 match args with
 |[.ref n]=>match h[n]? with
  |some (.list xs)=>match bI xs with
   |some i=>.ok (.int i) h
   |none=>.no
  |_=>.no
 |_=>.no
noncomputable def zI(args:List V)(h:Hp):R V:=
 match args with
 |[.int a]=>.ok (.int (if a<0 then-a else a)) h
 |_=>.no
noncomputable def zJ(args:List V)(h:Hp):R V:=
 match args with
 |[.int a,.int b]=>.ok (.int (if a<b then b else a)) h
 |_=>.no
noncomputable def bcall(b:BI)(args:List V)(h:Hp):R V:=
 match b with
 |.len=>xj args h
 |.range=>pQ args h
 |.list=>uJ args h
 |.ord=>zH args h
 |.sum=>xk args h
 |.abs=>zI args h
 |.max=>zJ args h
noncomputable def mF(f:List Nat->Nat->R V)(o:V)(args:List V):R V:=
 match o,args with
 |.str s,[.str [c]]=>f s c
 |_,_=>.no
noncomputable def rU(o:V)(args:List V)(h:Hp):R V:=
 match o,args with
 |.str s,[.ref n]=>match h[n]? with
  |some (.list xs)=>match cr s xs with
   |some t=>if ae t.length&&ae s.length then .ok (.str t) h else .no
   |none=>.no
  |_=>.no
 |_,_=>.no
noncomputable def mG(o:V)(args:List V)(h:Hp):R V:=
 match o,args with
 |.ref n,[.str s]=>match h[n]? with
  |some (.list xs)=>if ff xs&&ae xs.length then match bV s xs 0 with
   |some i=>.ok (.int i) h
   |none=>.no
   else .no
  |_=>.no
 |_,_=>.no
noncomputable def gj(o:V)(args:List V)(h:Hp):R V:=
 match o,args with
 |.ref n,[v]=>match h[n]? with
  |some (.list xs)=>if ae xs.length then .ok .none (h.set n (.list (xs++[v])))else .no
  |_=>.no
 |_,_=>.no
noncomputable def jE(o:V)(args:List V)(h:Hp):R V:=
 match o,args with
 |.ref n,[.ref m]=>match h[n]?,h[m]? with
  |some (.list xs),some (.list ys)=>if n !=m&&ae xs.length&&ae ys.length then .ok .none (h.set n (.list (xs++ys)))else .no
  |_,_=>.no
 |_,_=>.no
noncomputable def meth(m:MI)(o:V)(args:List V)(h:Hp):R V:=
 match m with
 |.split=>mF (λs c=>if ae s.length then .ok (.ref h.length) (h++[.list ((aa c s).map .str)])else .no) o args
 |.find=>mF (λs c=>.ok (.int (ac c s 0)) h) o args
 |.join=>rU o args h
 |.count=>mF (λs c=>.ok (.int (s.count c)) h) o args
 |.sindex=>mF (λs c=>if s.contains c then .ok (.int (ac c s 0)) h else .no) o args
 |.lindex=>mG o args h
 |.append=>gj o args h
 |.extend=>jE o args h
noncomputable def fg:V->Bool
 |.str _=>true
 |_=>false
noncomputable def bu(o:V)(h:Hp):Bool:=
 match o with
 |.ref n=>match h[n]? with
  |some (.list _)=>true
  |_=>false
 |_=>false
noncomputable def cn(m:MI)(o:V)(h:Hp):Bool:=
 match m with
 |.lindex=>bu o h
 |.append=>bu o h
 |.extend=>bu o h
 |_=>fg o
noncomputable def aG(a:Nat):List (Nat×V)->Option V
 |[]=>none
 |(k,v)::r=>if k==a then some v else aG a r
noncomputable def dI(a:Nat)(v:V):List (Nat×V)->List (Nat×V)
 |[]=>[(a,v)]
 |(k,w)::r=>if k==a then(k,v)::r else(k,w)::dI a v r
noncomputable def getattr(o:V)(a:Nat)(h:Hp):R V:=
 match o with
 |.ref n=>match h[n]? with
  |some (.inst _ fs)=>match aG a fs with
   |some v=>.ok v h
   |none=>.no
  |some (.exc _ _ fs)=>match aG a fs with
   |some v=>.ok v h
   |none=>.no
  |_=>.no
 |_=>.no
noncomputable def eT:V->Bool
 |.ref _=>true
 |_=>false
noncomputable def setattr(o:V)(a:Nat)(v:V)(h:Hp):R V:=
 match o with
 |.ref n=>match h[n]? with
  |some (.inst c fs)=>if Nat.ble fs.length 100 then .ok .none (h.set n (.inst c (dI a v fs)))else .no
  |some (.exc c x fs)=>if Nat.ble fs.length 100 then .ok .none (h.set n (.exc c x (dI a v fs)))else .no
  |_=>.no
 |_=>.no
noncomputable def getitem(o i:V)(h:Hp):R V:=
 match o,i with
 |.ref n,.int k=>match h[n]? with
  |some (.list xs)=>if 0<=k then match xs[k.toNat]? with
   |some v=>if ae xs.length then .ok v h else .no
   |none=>.no
   else .no
  |_=>.no
 |.ref n,.str s=>match h[n]? with
  |some (.dict kvs)=>match cL s kvs with
   |some v=>.ok v h
   |none=>.no
  |_=>.no
 |.str s,.int k=>if ae s.length then
  (let j:=if 0<=k then k else k+s.length
   if 0<=j then match s[j.toNat]? with
    |some c=>.ok (.str [c]) h
    |none=>.no
   else .no)else .no
 |.tup vs,.int k=>if 0<=k&&ae vs.length then match vs[k.toNat]? with
  |some v=>.ok v h
  |none=>.no
  else .no
 |_,_=>.no
noncomputable def setitem(o i v:V)(h:Hp):R V:=
 match o,i with
 |.ref n,.int k=>match h[n]? with
  |some (.list xs)=>if 0<=k&&decide (k<xs.length)&&ae xs.length then .ok .none (h.set n (.list (xs.set k.toNat v)))else .no
  |_=>.no
 |.ref n,.str s=>match h[n]? with
  |some (.dict kvs)=>if Nat.ble kvs.length 100 then .ok .none (h.set n (.dict (xi s v kvs)))else .no
  |_=>.no
 |_,_=>.no
noncomputable def slice(o:V)(lo hi:Option V)(h:Hp):R V:=
 let b (d:Int):Option V->Option Nat
  |none=>some d.toNat
  |some (.int k)=>if 0<=k&&small k then some k.toNat else none
  |_=>none
 match o with
 |.str s=>match b 0 lo,b s.length hi with
  |some l,some u=>if ae s.length then .ok (.str ((s.take u).drop l)) h else .no
  |_,_=>.no
 |.ref n=>match h[n]? with
  |some (.list xs)=>match b 0 lo,b xs.length hi with
   |some l,some u=>if ae xs.length then .ok (.ref h.length) (h++[.list ((xs.take u).drop l)])else .no
   |_,_=>.no
  |_=>.no
 |_=>.no
noncomputable def aV:List V->Option (List Nat)
 |[]=>some []
 |.str s::r=>(aV r).map (s++·)
 |.int i::r=>if small i then(aV r).map ((Str.ofString (toString i)).cps.toList++·)else none
 |_=>none
structure Rec where
 ev:Dp->Env->Hp->E->R V
 evs:Dp->Env->Hp->List E->R (List V)
 ex:Dp->Env->Hp->S->RS
 exs:Dp->Env->Hp->List S->RS
 lp:Dp->Env->Hp->Nat->It->List S->RS
 wl:Dp->Env->Hp->E->List S->RS
 cp:Dp->Env->Hp->E->Nat->It->List E->Nat->R Unit
 chk:Dp->Env->Hp->List E->R Bool
 ands:Dp->Env->Hp->Bool->List E->R V
 cmps:Dp->Env->Hp->V->List COp->List E->R V
 fn:Dp->Hp->Nat->List V->R V
noncomputable def nY(P:Prog)(r:Rec)(d:Dp)(h:Hp)(f:Nat)(args:List V):R V:=
 match P.funs[f]? with
 |some fn=>if args.length==fn.nargs then
  match r.exs d (args.map some++List.replicate (fn.nslots-fn.nargs) none) h fn.body with
  |.ok (.ret v) _ h=>.ok v h
  |.ok _ _ h=>.ok .none h
  |.exc n _ h=>.exc n h
  |.no=>.no
  else .no
 |none=>.no
noncomputable def jU(r:Rec)(d:Dp)(h:Hp)(f:Nat)(args:List V):R V:=
 match d with
 |(0,_)=>.no
 |(d+1,k)=>r.fn (d,k) h f args
noncomputable def aF(P:Prog)(r:Rec)(d:Dp)(CT:Env)(h:Hp):E->R V
 |.none=>.ok .none h
 |.bool b=>.ok (.bool b) h
 |.int i=>.ok (.int i) h
 |.str s=>.ok (.str s) h
 |.C8 i=>match CT[i]? with
  |some (some v)=>.ok v h
  |_=>.no
 |.gv i=>match P.consts[i]? with
  |some v=>.ok v h
  |none=>.no
 |.bin op a b=>(r.ev d CT h a).bind λx h=>(r.ev d CT h b).bind λy h=>ba op x y h
 |.neg a=>(r.ev d CT h a).bind λx h=>match x with
  |.int i=>.ok (.int (-i)) h
  |_=>.no
 |.inv a=>(r.ev d CT h a).bind λx h=>match x with
  |.int i=>.ok (.int (Builtin.bitNot i)) h
  |_=>.no
 |.not a=>(r.ev d CT h a).bind λx h=>match aO x h with
  |some b=>.ok (.bool (!b)) h
  |none=>.no
 |.and es=>r.ands d CT h true es
 |.or es=>r.ands d CT h false es
 |.cmp a ops es=>(r.ev d CT h a).bind λx h=>r.cmps d CT h x ops es
 |.ite t a b=>(r.ev d CT h t).bind λx h=>match aO x h with
  |some true=>r.ev d CT h a
  |some false=>r.ev d CT h b
  |none=>.no
 |.list es=>(r.evs d CT h es).bind λvs h=>if ae vs.length then .ok (.ref h.length) (h++[.list vs])else .no
 |.tup es=>(r.evs d CT h es).bind λvs h=>if ae vs.length then .ok (.tup vs) h else .no
 |.dict1 k v=>.ok (.ref h.length) (h++[.dict [(k,.int v)]])
 |.comp elt CY iter ifs=>match d with
  |(0,_)=>.no
  |(d+1,k)=>if k.isSome then .no else match r.ev (d+1,k) CT h iter with
   |.ok x h=>(match fF x h with
    |some it=>(match r.cp (d,k) (CT.set CY none) (h++[.list []]) elt CY it ifs h.length with
     |.ok _ h'=>.ok (.ref h.length) h'
     |_=>.no)
    |none=>.no)
   |_=>.no
 |.call f args=>(r.evs d CT h args).bind λvs h=>jU r d h f vs
 |.new c args=>match P.inits[c]?,P.excs[c]? with
  |some f,some x=>(r.evs d CT h args).bind λvs h=>if ae vs.length then
   (jU r d (h++[if x then .exc c false []else .inst c []]) f (.ref h.length::vs)).bind λw h'=>match w with
    |.none=>.ok (.ref h.length) h'
    |_=>.no
   else .no
  |_,_=>.no
 |.cinit _ f args=>(r.evs d CT h args).bind λvs h=>jU r d h f vs
 |.xinit self args=>(r.ev d CT h self).bind λx h=>match x with
  |.ref n=>(r.evs d CT h args).bind λvs h=>match h[n]? with
   |some (.exc _ _ _)=>if ae vs.length then .ok .none h else .no
   |_=>.no
  |_=>.no
 |.umeth c f obj args=>(r.ev d CT h obj).bind λx h=>match x with
  |.ref n=>match h[n]? with
   |some (.inst c' _)=>if c'==c then(r.evs d CT h args).bind λvs h=>jU r d h f (.ref n::vs)else .no
   |_=>.no
  |_=>.no
 |.Dc b args=>if d.2.isSome then .no else(r.evs d CT h args).bind λvs h=>bcall b vs h
 |.meth m obj args=>if d.2.isSome then .no else(r.ev d CT h obj).bind λx h=>if cn m x h then(r.evs d CT h args).bind λvs h=>meth m x vs h else .no
 |.repl obj a b=>if d.2.isSome then .no else(r.ev d CT h obj).bind λx h=>match x with
  |.str s=>if ae s.length&&a !=b then .ok (.str (s.map λx=>if x==a then b else x)) h else .no
  |_=>.no
 |.attr obj a=>(r.ev d CT h obj).bind λx h=>getattr x a h
 |.sub obj idx=>(r.ev d CT h obj).bind λx h=>(r.ev d CT h idx).bind λy h=>getitem x y h
 |.slice obj lo hi=>(r.ev d CT h obj).bind λx h=>
  match lo,hi with
  |none,none=>slice x none none h
  |some l,none=>(r.ev d CT h l).bind λy h=>slice x (some y) none h
  |none,some u=>(r.ev d CT h u).bind λz h=>slice x none (some z) h
  |some l,some u=>(r.ev d CT h l).bind λy h=>(r.ev d CT h u).bind λz h=>slice x (some y) (some z) h
 |.fstr es=>match r.evs d CT h es with
  |.ok vs h=>(match aV vs with
   |some s=>if ae s.length then .ok (.str s) h else .no
   |none=>.no)
  |_=>.no
noncomputable def zK(r:Rec)(d:Dp)(CT:Env)(h:Hp):List E->R (List V)
 |[]=>.ok [] h
 |e::es=>(r.ev d CT h e).bind λv h=>(r.evs d CT h es).bind λvs h=>.ok (v::vs) h
noncomputable def uK(r:Rec)(d:Dp)(CT:Env)(h:Hp)(k:Bool):List E->R V
 |[]=>.no
 |[e]=>r.ev d CT h e
 |e::es=>(r.ev d CT h e).bind λv h=>match aO v h with
  |some b=>if b==k then r.ands d CT h k es else .ok v h
  |none=>.no
noncomputable def uL(r:Rec)(d:Dp)(CT:Env)(h:Hp)(x:V):List COp->List E->R V
 |[op],[e]=>(r.ev d CT h e).bind λy h=>match fG op x y h with
  |some b=>.ok (.bool b) h
  |none=>.no
 |op::op2::ops,e::e2::es=>(r.ev d CT h e).bind λy h=>match fG op x y h with
  |some true=>r.cmps d CT h y (op2::ops) (e2::es)
  |some false=>.ok (.bool false) h
  |none=>.no
 |_,_=>.no
noncomputable def zL(r:Rec)(d:Dp)(CT:Env)(h:Hp):List E->R Bool
 |[]=>.ok true h
 |e::es=>(r.ev d CT h e).bind λv h=>match aO v h with
  |some true=>r.chk d CT h es
  |some false=>.ok false h
  |none=>.no
noncomputable def uM(r:Rec)(d:Dp)(CT:Env)(h:Hp)(elt:E)(CY:Nat)(it:It)(ifs:List E)(acc:Nat):R Unit:=
 match aP h it with
 |.no=>.no
 |.fin=>.ok () h
 |.one v it'=>
  let C4:=CT.set CY (some v)
  (r.chk d C4 h ifs).bind λb h=>match b with
   |true=>(r.ev d C4 h elt).bind λx h=>match h[acc]? with
    |some (.list xs)=>if ae xs.length then r.cp d CT (h.set acc (.list (xs++[x]))) elt CY it' ifs acc else .no
    |_=>.no
   |false=>r.cp d CT h elt CY it' ifs acc
noncomputable def sS(r:Rec)(d:Dp)(CT:Env)(h:Hp)(CY:Nat)(it:It)(body:List S):RS:=
 match aP h it with
 |.no=>.no
 |.fin=>.ok .next CT h
 |.one v it'=>match r.exs d (CT.set CY (some v)) h body with
  |.ok .next CT h=>r.lp d CT h CY it' body
  |.ok .cont CT h=>r.lp d CT h CY it' body
  |.ok (.ret v) CT h=>.ok (.ret v) CT h
  |.exc n CT h=>.exc n CT h
  |.no=>.no
noncomputable def Cf(r:Rec)(d:Dp)(CT:Env)(h:Hp)(t:E)(body:List S):RS:=
 (r.ev d CT h t).De CT λx h=>match aO x h with
  |some true=>match r.exs d CT h body with
   |.ok .next CT h=>r.wl d CT h t body
   |.ok .cont CT h=>r.wl d CT h t body
   |.ok (.ret v) CT h=>.ok (.ret v) CT h
   |.exc n CT h=>.exc n CT h
   |.no=>.no
  |some false=>.ok .next CT h
  |none=>.no
noncomputable def Br(r:Rec)(d:Dp)(CT:Env)(h:Hp):List S->RS
 |[]=>.ok .next CT h
 |s::ss=>match r.ex d CT h s with
  |.ok .next CT h=>r.exs d CT h ss
  |.ok .cont CT h=>.ok .cont CT h
  |.ok (.ret v) CT h=>.ok (.ret v) CT h
  |.exc n CT h=>.exc n CT h
  |.no=>.no
noncomputable def fH:List Nat->List V->Env->Env
 |i::is,v::vs,CT=>fH is vs (CT.set i (some v))
 |_,_,CT=>CT
noncomputable def ci(P:Prog)(r:Rec)(d:Dp)(CT:Env)(h:Hp):S->RS
 |.expr e=>(r.ev d CT h e).De CT λ_ h=>.ok .next CT h
 |.C9 i e=>(r.ev d CT h e).De CT λv h=>.ok .next (CT.set i (some v)) h
 |.unpack is e=>if d.2.isSome then .no else(r.ev d CT h e).De CT λv h=>match v with
  |.tup vs=>if vs.length==is.length then .ok .next (fH is vs CT) h else .no
  |_=>.no
 |.Dd o a e=>(r.ev d CT h e).De CT λv h=>(r.ev d CT h o).De CT λx h=>(setattr x a v h).De CT λ_ h=>.ok .next CT h
 |.Dg o i e=>(r.ev d CT h e).De CT λv h=>(r.ev d CT h o).De CT λx h=>(r.ev d CT h i).De CT λy h=>(setitem x y v h).De CT λ_ h=>.ok .next CT h
 |.aug i op e=>match CT[i]? with
  |some (some x)=>if eT x then .no else(r.ev d CT h e).De CT λy h=>(ba op x y h).De CT λz h=>.ok .next (CT.set i (some z)) h
  |_=>.no
 |.Di o a op e=>(r.ev d CT h o).De CT λx h=>(getattr x a h).De CT λold h=>if eT old then .no else(r.ev d CT h e).De CT λy h=>
  (ba op old y h).De CT λz h=>(setattr x a z h).De CT λ_ h=>.ok .next CT h
 |.Dh o i op e=>(r.ev d CT h o).De CT λx h=>(r.ev d CT h i).De CT λk h=>(getitem x k h).De CT λold h=>if eT old then .no else(r.ev d CT h e).De CT λy h=>
  (ba op old y h).De CT λz h=>(setitem x k z h).De CT λ_ h=>.ok .next CT h
 |.iff t a b=>(r.ev d CT h t).De CT λx h=>match aO x h with
  |some true=>r.exs d CT h a
  |some false=>r.exs d CT h b
  |none=>.no
 |.whl t body=>match d with
  |(0,_)=>.no
  |(d+1,k)=>r.wl (d,k) CT h t body
 |.for CY iter body=>match d with
  |(0,_)=>.no
  |(d+1,k)=>if k.isSome then .no else(r.ev (d+1,k) CT h iter).De CT λx h=>match fF x h with
   |some it=>r.lp (d,k) CT h CY it body
   |none=>.no
 |.ret none=>.ok (.ret .none) CT h
 |.ret (some e)=>(r.ev d CT h e).De CT λv h=>.ok (.ret v) CT h
 |.cont=>.ok .cont CT h
 |.pass=>.ok .next CT h
 |.raise e=>(r.ev d CT h e).De CT λv h=>match v with
  |.ref n=>match h[n]? with
   |some (.exc c x fs)=>match d.2 with
    |none=>.exc n CT h
    |some m=>match h[m]? with
     |some (.exc _ false _)=>if m==n then .no else .exc n CT (h.set n (.exc c true fs))
     |_=>.no
   |_=>.no
  |_=>.no
 |.try body c CY handler=>match d with
  |(0,_)=>.no
  |(d+1,k)=>match r.exs (d,k) CT h body with
   |.ok fl CT h=>.ok fl CT h
   |.no=>.no
   |.exc n CT h=>match h[n]? with
    |some (.exc c' _ _)=>if c'==c then match r.exs (d,some n) (CT.set CY (some (.ref n))) h handler with
     |.ok fl CT h=>.ok fl (CT.set CY none) h
     |.exc n CT h=>.exc n (CT.set CY none) h
     |.no=>.no
     else .no
    |_=>.no
noncomputable def zM:Rec where
 ev _ _ _ _:=.no
 evs _ _ _ _:=.no
 ex _ _ _ _:=.no
 exs _ _ _ _:=.no
 lp _ _ _ _ _ _:=.no
 wl _ _ _ _ _:=.no
 cp _ _ _ _ _ _ _ _:=.no
 chk _ _ _ _:=.no
 ands _ _ _ _ _:=.no
 cmps _ _ _ _ _ _:=.no
 fn _ _ _ _:=.no
noncomputable def zN(P:Prog)(r:Rec):Rec where
 ev:=aF P r
 evs:=zK r
 ex:=ci P r
 exs:=Br r
 lp:=sS r
 wl:=Cf r
 cp:=uM r
 chk:=zL r
 ands:=uK r
 cmps:=uL r
 fn:=nY P r
noncomputable def ak(P:Prog):Nat->Rec
 |0=>zM
 |n+1=>zN P (ak P n)
theorem aC{P:Prop}(h:false=true):P:=absurd h Do
theorem bq{α:Type}{a:α}{P:Prop}(h:none=some a):P:=by cases h
theorem zO{α:Type}{a:α}{P:Prop}(h:some a=none):P:=by cases h
noncomputable def R.ix{α:Type}(r:R α):Nat:=r.casesOn (λ_ _=>0) (λ_ _=>1) 2
theorem rV{α:Type}{a:α}{x:Hp}{P:Prop}(h:R.no=R.ok a x):P:=absurd (Ds R.ix h) (show¬(_:Nat)=0 from Ff _)
theorem B3{α:Type}{a:α}{x y:Hp}{k:Nat}{P:Prop}(h:R.exc k y=R.ok a x):P:=absurd (Ds R.ix h) (show¬(_:Nat)=0 from Ff _)
theorem zQ{α:Type}{a:α}{x:Hp}{P:Prop}(h:R.ok a x=R.no):P:=rV h.symm
theorem Bf{α:Type}{a:α}{x y:Hp}{k:Nat}{P:Prop}(h:R.ok a x=R.exc k y):P:=B3 h.symm
theorem xl{α:Type}{y:Hp}{k:Nat}{P:Prop}(h:(R.no:R α)=R.exc k y):P:=absurd (Ds R.ix h) (show¬2=1 by decide)
end
section
noncomputable def mH:Fn:=⟨2,2,[
 .ret (some (.bin .add (.bin .mul (.C8 0) (.int 8)) (.C8 1)))]⟩
noncomputable def sT:Fn:=⟨1,1,[
 .ret (some (.bin .rsh (.C8 0) (.int 3)))]⟩
noncomputable def sU:Fn:=⟨1,1,[
 .ret (some (.bin .band (.C8 0) (.int 7)))]⟩
noncomputable def pR:Fn:=⟨1,1,[
 .iff (.or [.cmp (.Dc .len [.C8 0]) [.ne] [.int 1],.cmp (.C8 0) [.eq] [.str [46]]]) [.ret (some (.neg (.int 1)))] [],
 .ret (some (.meth .find (.gv 9) [.C8 0]))]⟩
noncomputable def gX:Fn:=⟨2,2,[
 .expr (.xinit (.C8 0) [.C8 1]),
 .Dd (.C8 0) 0 (.C8 1)]⟩
noncomputable def gL:Fn:=⟨3,3,[
 .expr (.cinit 0 4 [.C8 0,.C8 1]),
 .Dd (.C8 0) 1 (.C8 2)]⟩
noncomputable def kS:Fn:=⟨3,3,[
 .expr (.cinit 0 4 [.C8 0,.C8 2]),
 .Dd (.C8 0) 2 (.C8 1)]⟩
noncomputable def js:Fn:=⟨5,5,[
 .Dd (.C8 0) 3 (.C8 1),
 .Dd (.C8 0) 4 (.C8 2),
 .Dd (.C8 0) 5 (.bin .mul (.C8 1) (.C8 2)),
 .Dd (.C8 0) 6 (.bin .sub (.bin .lsh (.int 1) (.bin .mul (.C8 1) (.C8 2))) (.int 1)),
 .Dd (.C8 0) 7 (.and [.C8 3,.cmp (.C8 2) [.ge] [.int 5]]),
 .Dd (.C8 0) 8 (.C8 4),
 .Dd (.C8 0) 9 (.list []),
 .Dd (.C8 0) 10 (.list []),
 .Dd (.C8 0) 11 (.list []),
 .Dd (.C8 0) 12 (.list []),
 .Dd (.C8 0) 13 (.list []),
 .Dd (.C8 0) 14 (.list [.list [],.list []]),
 .Dd (.C8 0) 15 (.list []),
 .Dd (.C8 0) 16 (.list [])]⟩
noncomputable def mI:Fn:=⟨1,1,[
 .ret (some (.or [.cmp (.sub (.gv 11) (.C8 0)) [.gt] [.int 0],.cmp (.C8 0) [.eq] [.int 1]]))]⟩
noncomputable def n7:Fn:=⟨1,5,[
 .C9 1 (.bin .sub (.bin .lsh (.int 1) (.attr (.C8 0) 3)) (.int 1)),
 .C9 2 (.int 0),
 .for 3 (.Dc .range [.attr (.C8 0) 4]) [.expr (.meth .append (.attr (.C8 0) 10) [.bin .lsh (.C8 1) (.bin .mul (.C8 3) (.attr (.C8 0) 3))]),.aug 2 .bor (.bin .lsh (.int 1) (.bin .mul (.C8 3) (.attr (.C8 0) 3)))],
 .for 4 (.Dc .range [.attr (.C8 0) 3]) [.expr (.meth .append (.attr (.C8 0) 9) [.bin .lsh (.C8 2) (.C8 4)])]]⟩
noncomputable def ju:Fn:=⟨2,3,[
 .C9 2 (.int 0),
 .iff (.cmp (.sub (.gv 10) (.C8 1)) [.gt] [.int 0]) [.aug 2 .bor (.sub (.attr (.C8 0) 9) (.bin .sub (.attr (.C8 0) 3) (.int 1)))] [],
 .iff (.cmp (.sub (.gv 10) (.C8 1)) [.lt] [.int 0]) [.aug 2 .bor (.sub (.attr (.C8 0) 9) (.int 0))] [],
 .iff (.cmp (.sub (.gv 11) (.C8 1)) [.gt] [.int 0]) [.aug 2 .bor (.sub (.attr (.C8 0) 10) (.bin .sub (.attr (.C8 0) 4) (.int 1)))] [],
 .iff (.cmp (.sub (.gv 11) (.C8 1)) [.lt] [.int 0]) [.aug 2 .bor (.sub (.attr (.C8 0) 10) (.int 0))] [],
 .ret (some (.bin .band (.attr (.C8 0) 6) (.inv (.C8 2))))]⟩
noncomputable def pS:Fn:=⟨1,8,[
 .Dd (.C8 0) 12 (.bin .mul (.list [.int 0]) (.attr (.C8 0) 5)),
 .for 1 (.Dc .range [.int 8]) [.C9 2 (.call 10 [.C8 0,.C8 1]),.C9 3 (.bin .add (.bin .mul (.sub (.gv 11) (.C8 1)) (.attr (.C8 0) 3)) (.sub (.gv 10) (.C8 1))),.C9 4 (.bin .mul (.list [.int 0]) (.attr (.C8 0) 5)),.C9 5 (.Dc .range [.attr (.C8 0) 5]),.iff (.call 8 [.C8 1]) [.C9 5 (.Dc .range [.bin .sub (.attr (.C8 0) 5) (.int 1),.neg (.int 1),.neg (.int 1)])] [],.for 6 (.C8 5) [.iff (.bin .band (.bin .rsh (.C8 2) (.C8 6)) (.int 1)) [.C9 7 (.bin .add (.C8 6) (.C8 3)),.Dg (.C8 4) (.C8 6) (.bin .bor (.sub (.C8 4) (.C8 7)) (.bin .lsh (.int 1) (.C8 7))),.Dh (.attr (.C8 0) 12) (.C8 6) .bor (.bin .lsh (.int 1) (.C8 7))] []],.expr (.meth .append (.attr (.C8 0) 11) [.C8 4])]]⟩
noncomputable def n8:Fn:=⟨1,2,[
 .for 1 (.Dc .range [.attr (.C8 0) 5]) [.expr (.meth .append (.sub (.attr (.C8 0) 14) (.int 0)) [.bin .band (.sub (.attr (.C8 0) 12) (.C8 1)) (.bin .bor (.sub (.sub (.attr (.C8 0) 11) (.int 4)) (.C8 1)) (.sub (.sub (.attr (.C8 0) 11) (.int 7)) (.C8 1)))]),.expr (.meth .append (.sub (.attr (.C8 0) 14) (.int 1)) [.bin .band (.sub (.attr (.C8 0) 12) (.C8 1)) (.bin .bor (.sub (.sub (.attr (.C8 0) 11) (.int 5)) (.C8 1)) (.sub (.sub (.attr (.C8 0) 11) (.int 6)) (.C8 1)))])]]⟩
noncomputable def kT:Fn:=⟨1,11,[
 .C9 1 (.attr (.C8 0) 3),
 .C9 2 (.bin .band (.attr (.C8 0) 6) (.inv (.sub (.attr (.C8 0) 9) (.int 0)))),
 .C9 3 (.bin .band (.attr (.C8 0) 6) (.inv (.sub (.attr (.C8 0) 9) (.bin .sub (.C8 1) (.int 1))))),
 .C9 4 (.bin .band (.C8 2) (.inv (.sub (.attr (.C8 0) 9) (.int 1)))),
 .C9 5 (.bin .band (.C8 3) (.inv (.sub (.attr (.C8 0) 9) (.bin .sub (.C8 1) (.int 2))))),
 .for 6 (.Dc .range [.attr (.C8 0) 5]) [.C9 7 (.bin .lsh (.int 1) (.C8 6)),.C9 8 (.bin .bor (.bin .band (.bin .lsh (.C8 7) (.int 1)) (.C8 2)) (.bin .band (.bin .rsh (.C8 7) (.int 1)) (.C8 3))),.C9 9 (.bin .bor (.bin .band (.bin .lsh (.C8 7) (.int 2)) (.C8 4)) (.bin .band (.bin .rsh (.C8 7) (.int 2)) (.C8 5))),.C9 10 (.bin .bor (.bin .bor (.bin .bor (.bin .lsh (.C8 8) (.bin .mul (.int 2) (.C8 1))) (.bin .rsh (.C8 8) (.bin .mul (.int 2) (.C8 1)))) (.bin .lsh (.C8 9) (.C8 1))) (.bin .rsh (.C8 9) (.C8 1))),.expr (.meth .append (.attr (.C8 0) 13) [.bin .band (.C8 10) (.attr (.C8 0) 6)])]]⟩
noncomputable def kU:Fn:=⟨1,7,[
 .Dd (.C8 0) 16 (.bin .mul (.list [.int 0]) (.attr (.C8 0) 5)),
 .C9 1 (.bin .fdiv (.attr (.C8 0) 3) (.int 2)),
 .for 2 (.Dc .range [.int 4]) [.C9 3 (.bin .mul (.bin .mul (.bin .rsh (.C8 2) (.int 1)) (.bin .sub (.attr (.C8 0) 4) (.int 1))) (.attr (.C8 0) 3)),.C9 4 (.bin .sub (.attr (.C8 0) 3) (.int 1)),.C9 5 (.int 1),.iff (.bin .band (.C8 2) (.int 1)) [.C9 4 (.int 0),.C9 5 (.neg (.int 1))] [],.C9 6 (.bin .add (.C8 1) (.bin .mul (.int 2) (.C8 5))),.iff (.and [.attr (.C8 0) 8,.cmp (.bin .mul (.bin .sub (.C8 4) (.C8 6)) (.C8 5)) [.gt] [.int 0]]) [.expr (.meth .append (.attr (.C8 0) 15) [.tup [.bin .add (.C8 3) (.C8 1),.bin .add (.C8 3) (.C8 6),.bin .add (.C8 3) (.C8 4),.bin .sub (.bin .add (.C8 3) (.C8 6)) (.C8 5)]]),.Dh (.attr (.C8 0) 16) (.bin .add (.C8 3) (.C8 1)) .bor (.bin .lsh (.int 1) (.C8 2)),.Dh (.attr (.C8 0) 16) (.bin .add (.C8 3) (.C8 4)) .bor (.bin .lsh (.int 1) (.C8 2))] [.expr (.meth .append (.attr (.C8 0) 15) [.none])]]]⟩
noncomputable def jv:Fn:=⟨4,5,[
 .iff (.or [.cmp (.C8 0) [.lt] [.int 2],.cmp (.C8 0) [.gt] [.int 8],.cmp (.C8 1) [.lt] [.int 3],.cmp (.C8 1) [.gt] [.int 8]]) [.raise (.new 0 [.str [110,111,32,98,111,97,114,100,32,104,97,115,32,116,104,97,116,32,109,97,110,121,32,102,105,108,101,115,32,97,110,100,32,114,97,110,107,115]])] [],
 .C9 4 (.new 3 [.C8 0,.C8 1,.C8 2,.C8 3]),
 .expr (.call 9 [.C8 4]),
 .expr (.call 11 [.C8 4]),
 .expr (.call 12 [.C8 4]),
 .expr (.call 13 [.C8 4]),
 .expr (.call 14 [.C8 4]),
 .ret (some (.C8 4))]⟩
noncomputable def kV:Fn:=⟨4,7,[
 .C9 4 (.sub (.sub (.attr (.C8 0) 11) (.C8 1)) (.C8 2)),
 .C9 5 (.bin .band (.C8 4) (.C8 3)),
 .iff (.cmp (.C8 5) [.eq] [.int 0]) [.ret (some (.C8 4))] [],
 .iff (.call 8 [.C8 1]) [.ret (some (.bin .band (.C8 4) (.bin .bxor (.C8 5) (.bin .sub (.C8 5) (.int 1)))))] [],
 .C9 6 (.bin .rsh (.C8 5) (.int 1)),
 .aug 6 .bor (.bin .rsh (.C8 6) (.int 1)),
 .aug 6 .bor (.bin .rsh (.C8 6) (.int 2)),
 .aug 6 .bor (.bin .rsh (.C8 6) (.int 4)),
 .aug 6 .bor (.bin .rsh (.C8 6) (.int 8)),
 .aug 6 .bor (.bin .rsh (.C8 6) (.int 16)),
 .aug 6 .bor (.bin .rsh (.C8 6) (.int 32)),
 .ret (some (.bin .band (.C8 4) (.inv (.C8 6))))]⟩
noncomputable def jV:Fn:=⟨3,5,[
 .C9 3 (.int 0),
 .for 4 (.Dc .range [.int 4]) [.aug 3 .bor (.call 16 [.C8 0,.C8 4,.C8 1,.C8 2])],
 .ret (some (.C8 3))]⟩
noncomputable def iJ:Fn:=⟨3,5,[
 .C9 3 (.int 0),
 .for 4 (.Dc .range [.int 4,.int 8]) [.aug 3 .bor (.call 16 [.C8 0,.C8 4,.C8 1,.C8 2])],
 .ret (some (.C8 3))]⟩
noncomputable def jw:Fn:=⟨1,1,[
 .ret (some (.cmp (.bin .band (.C8 0) (.bin .sub (.C8 0) (.int 1))) [.ne] [.int 0]))]⟩
noncomputable def sV:Fn:=⟨1,3,[
 .iff (.cmp (.C8 0) [.eq] [.int 0]) [.ret (some (.neg (.int 1)))] [],
 .C9 1 (.int 1),
 .whl (.bin .rsh (.C8 0) (.C8 1)) [.aug 1 .mul (.int 2)],
 .C9 2 (.int 0),
 .whl (.cmp (.C8 1) [.gt] [.int 1]) [.aug 1 .fdiv (.int 2),.iff (.bin .rsh (.C8 0) (.C8 1)) [.aug 0 .rsh (.C8 1),.aug 2 .add (.C8 1)] []],
 .ret (some (.C8 2))]⟩
noncomputable def uN:Fn:=⟨1,1,[
 .ret (some (.call 20 [.bin .band (.C8 0) (.neg (.C8 0))]))]⟩
noncomputable def kW:Fn:=⟨2,2,[
 .Dd (.C8 0) 17 (.bin .band (.C8 1) (.gv 12)),
 .iff (.cmp (.attr (.C8 0) 17) [.eq] [.int 0]) [.Dd (.C8 0) 17 (.int 1)] []]⟩
noncomputable def kX:Fn:=⟨1,2,[
 .C9 1 (.attr (.C8 0) 17),
 .aug 1 .bxor (.bin .rsh (.C8 1) (.int 12)),
 .aug 1 .bxor (.bin .band (.bin .lsh (.C8 1) (.int 25)) (.gv 12)),
 .aug 1 .bxor (.bin .rsh (.C8 1) (.int 27)),
 .Dd (.C8 0) 17 (.C8 1),
 .ret (some (.bin .band (.bin .mul (.C8 1) (.gv 13)) (.gv 12)))]⟩
noncomputable def jW:Fn:=⟨5,5,[
 .Dd (.C8 0) 18 (.C8 1),
 .Dd (.C8 0) 19 (.C8 2),
 .Dd (.C8 0) 20 (.C8 3),
 .Dd (.C8 0) 21 (.C8 4)]⟩
noncomputable def pT:Fn:=⟨2,4,[
 .C9 2 (.list []),
 .for 3 (.Dc .range [.C8 1]) [.expr (.meth .append (.C8 2) [.umeth 4 23 (.C8 0) []])],
 .ret (some (.C8 2))]⟩
noncomputable def mJ:Fn:=⟨1,5,[
 .C9 1 (.list []),
 .for 2 (.Dc .range [.int 16]) [.C9 3 (.int 0),.for 4 (.Dc .range [.int 4]) [.iff (.bin .band (.C8 2) (.bin .lsh (.int 1) (.C8 4))) [.aug 3 .bxor (.sub (.C8 0) (.C8 4))] []],.expr (.meth .append (.C8 1) [.C8 3])],
 .ret (some (.C8 1))]⟩
noncomputable def jX:Fn:=⟨2,7,[
 .C9 2 (.new 4 [.C8 1]),
 .C9 3 (.list []),
 .for 4 (.Dc .range [.int 15]) [.iff (.cmp (.gv 2) [.le,.le] [.call 2 [.C8 4],.gv 7]) [.expr (.meth .append (.C8 3) [.call 25 [.C8 2,.attr (.C8 0) 5]])] [.expr (.meth .append (.C8 3) [.list []])]],
 .C9 5 (.call 25 [.C8 2,.attr (.C8 0) 3]),
 .C9 6 (.call 26 [.call 25 [.C8 2,.int 4]]),
 .ret (some (.new 5 [.C8 3,.C8 5,.C8 6,.umeth 4 23 (.C8 2) []]))]⟩
noncomputable def n9:Fn:=⟨1,3,[
 .C9 1 (.attr (.C8 0) 22),
 .C9 2 (.sub (.attr (.C8 1) 20) (.attr (.C8 0) 20)),
 .iff (.cmp (.attr (.C8 0) 19) [.ge] [.int 0]) [.aug 2 .bxor (.sub (.attr (.C8 1) 19) (.bin .mod (.attr (.C8 0) 19) (.attr (.attr (.C8 0) 23) 3)))] [],
 .iff (.cmp (.attr (.C8 0) 21) [.eq] [.gv 1]) [.aug 2 .bxor (.attr (.C8 1) 21)] [],
 .ret (some (.C8 2))]⟩
noncomputable def pU:Fn:=⟨1,5,[
 .C9 1 (.attr (.attr (.C8 0) 22) 18),
 .C9 2 (.call 28 [.C8 0]),
 .C9 3 (.int 0),
 .for 4 (.attr (.C8 0) 24) [.iff (.cmp (.C8 4) [.ne] [.gv 8]) [.aug 2 .bxor (.sub (.sub (.C8 1) (.C8 4)) (.C8 3))] [],.aug 3 .add (.int 1)],
 .ret (some (.C8 2))]⟩
noncomputable def jx:Fn:=⟨3,3,[
 .Dd (.C8 0) 23 (.C8 1),
 .Dd (.C8 0) 22 (.C8 2),
 .Dd (.C8 0) 24 (.bin .mul (.list [.gv 8]) (.attr (.C8 1) 5)),
 .Dd (.C8 0) 25 (.bin .mul (.list [.int 0]) (.int 7)),
 .Dd (.C8 0) 26 (.list [.int 0,.int 0]),
 .Dd (.C8 0) 21 (.gv 0),
 .Dd (.C8 0) 20 (.int 0),
 .Dd (.C8 0) 19 (.neg (.int 1)),
 .Dd (.C8 0) 27 (.int 0),
 .Dd (.C8 0) 6 (.int 1),
 .Dd (.C8 0) 28 (.int 0),
 .Dd (.C8 0) 29 (.list [])]⟩
noncomputable def oa:Fn:=⟨3,4,[
 .C9 3 (.bin .lsh (.int 1) (.C8 2)),
 .Dg (.attr (.C8 0) 24) (.C8 2) (.C8 1),
 .Dh (.attr (.C8 0) 25) (.call 2 [.C8 1]) .bor (.C8 3),
 .Dh (.attr (.C8 0) 26) (.call 1 [.C8 1]) .bor (.C8 3),
 .Di (.C8 0) 28 .bxor (.sub (.sub (.attr (.attr (.C8 0) 22) 18) (.C8 1)) (.C8 2))]⟩
noncomputable def uO:Fn:=⟨3,3,[
 .ret (some (.bin .band (.sub (.attr (.C8 0) 26) (.C8 1)) (.sub (.attr (.C8 0) 25) (.C8 2))))]⟩
noncomputable def kY:Fn:=⟨2,2,[
 .ret (some (.call 21 [.bin .band (.sub (.attr (.C8 0) 26) (.C8 1)) (.sub (.attr (.C8 0) 25) (.gv 7))]))]⟩
noncomputable def mK:Fn:=⟨1,1,[
 .Dd (.C8 0) 28 (.call 29 [.C8 0])]⟩
noncomputable def og:Fn:=⟨2,5,[
 .C9 2 (.attr (.C8 0) 23),
 .iff (.or [.not (.attr (.C8 2) 7),.cmp (.C8 1) [.lt] [.int 0],.cmp (.C8 1) [.ge] [.attr (.C8 2) 5]]) [.ret (some (.bool false))] [],
 .C9 3 (.int 2),
 .C9 4 (.neg (.attr (.C8 2) 3)),
 .iff (.cmp (.attr (.C8 0) 21) [.eq] [.gv 0]) [.C9 3 (.bin .sub (.attr (.C8 2) 4) (.int 3)),.C9 4 (.attr (.C8 2) 3)] [],
 .iff (.cmp (.bin .fdiv (.C8 1) (.attr (.C8 2) 3)) [.ne] [.C8 3]) [.ret (some (.bool false))] [],
 .iff (.or [.cmp (.sub (.attr (.C8 0) 24) (.C8 1)) [.ne] [.gv 8],.cmp (.sub (.attr (.C8 0) 24) (.bin .add (.C8 1) (.C8 4))) [.ne] [.gv 8]]) [.ret (some (.bool false))] [],
 .ret (some (.cmp (.sub (.attr (.C8 0) 24) (.bin .sub (.C8 1) (.C8 4))) [.eq] [.call 0 [.bin .sub (.int 1) (.attr (.C8 0) 21),.gv 2]]))]⟩
noncomputable def kZ:Fn:=⟨2,2,[
 .ret (some (.cmp (.bin .band (.sub (.sub (.attr (.attr (.C8 0) 23) 14) (.bin .sub (.int 1) (.attr (.C8 0) 21))) (.C8 1)) (.call 32 [.C8 0,.attr (.C8 0) 21,.gv 2])) [.ne] [.int 0]))]⟩
noncomputable def la:Fn:=⟨1,3,[
 .for 1 (.tup [.gv 0,.gv 1]) [.C9 2 (.call 32 [.C8 0,.C8 1,.gv 7]),.iff (.cmp (.C8 2) [.eq] [.int 0]) [.raise (.new 1 [.str [97,32,115,105,100,101,32,119,105,116,104,111,117,116,32,97,32,107,105,110,103],.neg (.int 1)])] [],.iff (.call 19 [.C8 2]) [.raise (.new 1 [.str [97,32,115,101,99,111,110,100,32,107,105,110,103],.call 20 [.C8 2]])] []]]⟩
noncomputable def lg:Fn:=⟨1,3,[
 .C9 1 (.attr (.C8 0) 23),
 .C9 2 (.bin .band (.sub (.attr (.C8 0) 25) (.gv 2)) (.bin .bor (.sub (.attr (.C8 1) 10) (.int 0)) (.sub (.attr (.C8 1) 10) (.bin .sub (.attr (.C8 1) 4) (.int 1))))),
 .iff (.cmp (.C8 2) [.ne] [.int 0]) [.raise (.new 1 [.str [97,32,112,97,119,110,32,111,110,32,97,110,32,111,117,116,101,114,32,114,97,110,107],.call 21 [.C8 2]])] []]⟩
noncomputable def f_check_rights:Fn:=⟨1,3,[
 .iff (.not (.cmp (.int 0) [.le,.lt] [.attr (.C8 0) 20,.int 16])) [.raise (.new 1 [.str [110,111,32,115,117,99,104,32,114,105,103,104,116,115],.neg (.int 1)])] [],
 .for 1 (.Dc .range [.int 4]) [.iff (.cmp (.bin .band (.attr (.C8 0) 20) (.bin .lsh (.int 1) (.C8 1))) [.eq] [.int 0]) [.cont] [],.C9 2 (.sub (.attr (.attr (.C8 0) 23) 15) (.C8 1)),.iff (.cmp (.C8 2) [.is] [.none]) [.raise (.new 1 [.str [97,32,114,105,103,104,116,32,119,105,116,104,111,117,116,32,97,32,119,105,110,103],.neg (.int 1)])] [],.iff (.cmp (.sub (.attr (.C8 0) 24) (.sub (.C8 2) (.int 0))) [.ne] [.call 0 [.bin .rsh (.C8 1) (.int 1),.gv 7]]) [.raise (.new 1 [.str [97,32,114,105,103,104,116,32,119,105,116,104,111,117,116,32,105,116,115,32,107,105,110,103],.sub (.C8 2) (.int 0)])] [],.iff (.cmp (.sub (.attr (.C8 0) 24) (.sub (.C8 2) (.int 2))) [.ne] [.call 0 [.bin .rsh (.C8 1) (.int 1),.gv 5]]) [.raise (.new 1 [.str [97,32,114,105,103,104,116,32,119,105,116,104,111,117,116,32,105,116,115,32,114,111,111,107],.sub (.C8 2) (.int 2)])] []]]⟩
noncomputable def gM:Fn:=⟨1,1,[
 .ret (some (.bin .bor (.sub (.attr (.C8 0) 25) (.gv 5)) (.sub (.attr (.C8 0) 25) (.gv 6))))]⟩
noncomputable def gN:Fn:=⟨1,1,[
 .ret (some (.bin .bor (.sub (.attr (.C8 0) 25) (.gv 4)) (.sub (.attr (.C8 0) 25) (.gv 6))))]⟩
noncomputable def iK:Fn:=⟨3,3,[
 .ret (some (.bin .band (.bin .band (.sub (.sub (.attr (.attr (.C8 0) 23) 14) (.bin .sub (.int 1) (.C8 2))) (.C8 1)) (.sub (.attr (.C8 0) 25) (.gv 2))) (.sub (.attr (.C8 0) 26) (.C8 2))))]⟩
noncomputable def iL:Fn:=⟨3,5,[
 .C9 3 (.attr (.C8 0) 23),
 .C9 4 (.bin .band (.sub (.attr (.C8 3) 13) (.C8 1)) (.sub (.attr (.C8 0) 25) (.gv 3))),
 .aug 4 .bor (.bin .band (.sub (.attr (.C8 3) 12) (.C8 1)) (.sub (.attr (.C8 0) 25) (.gv 7))),
 .ret (some (.bin .bor (.call 42 [.C8 0,.C8 1,.C8 2]) (.bin .band (.C8 4) (.sub (.attr (.C8 0) 26) (.C8 2)))))]⟩
noncomputable def lh:Fn:=⟨4,8,[
 .iff (.call 43 [.C8 0,.C8 1,.C8 2]) [.ret (some (.bool true))] [],
 .C9 4 (.attr (.C8 0) 23),
 .C9 5 (.sub (.attr (.C8 0) 26) (.C8 2)),
 .C9 6 (.bin .band (.call 40 [.C8 0]) (.C8 5)),
 .iff (.and [.C8 6,.bin .band (.call 17 [.C8 4,.C8 1,.C8 3]) (.C8 6)]) [.ret (some (.bool true))] [],
 .C9 7 (.bin .band (.call 41 [.C8 0]) (.C8 5)),
 .ret (some (.and [.cmp (.C8 7) [.ne] [.int 0],.cmp (.bin .band (.call 18 [.C8 4,.C8 1,.C8 3]) (.C8 7)) [.ne] [.int 0]]))]⟩
noncomputable def li:Fn:=⟨2,3,[
 .C9 2 (.bin .bor (.sub (.attr (.C8 0) 26) (.gv 0)) (.sub (.attr (.C8 0) 26) (.gv 1))),
 .ret (some (.call 44 [.C8 0,.call 33 [.C8 0,.C8 1],.bin .sub (.int 1) (.C8 1),.C8 2]))]⟩
noncomputable def f_read_square:Fn:=⟨3,5,[
 .iff (.cmp (.Dc .len [.C8 2]) [.ne] [.int 2]) [.ret (some (.neg (.int 1)))] [],
 .C9 3 (.meth .find (.gv 14) [.sub (.C8 2) (.int 0)]),
 .C9 4 (.meth .find (.gv 15) [.sub (.C8 2) (.int 1)]),
 .iff (.or [.cmp (.C8 3) [.lt] [.int 0],.cmp (.C8 3) [.ge] [.C8 0],.cmp (.C8 4) [.lt] [.int 0],.cmp (.C8 4) [.ge] [.C8 1]]) [.ret (some (.neg (.int 1)))] [],
 .ret (some (.bin .add (.bin .mul (.C8 4) (.C8 0)) (.C8 3)))]⟩
noncomputable def f_plain_number:Fn:=⟨1,4,[
 .iff (.or [.cmp (.C8 0) [.eq] [.str []],.and [.cmp (.sub (.C8 0) (.int 0)) [.eq] [.str [48]],.cmp (.Dc .len [.C8 0]) [.gt] [.int 1]]]) [.ret (some (.neg (.int 1)))] [],
 .C9 1 (.int 0),
 .for 2 (.C8 0) [.C9 3 (.meth .find (.gv 16) [.C8 2]),.iff (.cmp (.C8 3) [.lt] [.int 0]) [.ret (some (.neg (.int 1)))] [],.C9 1 (.bin .add (.bin .mul (.C8 1) (.int 10)) (.C8 3))],
 .ret (some (.C8 1))]⟩
noncomputable def f_read_row:Fn:=⟨2,7,[
 .C9 2 (.list []),
 .C9 3 (.bool false),
 .for 4 (.C8 0) [.C9 5 (.meth .find (.gv 16) [.C8 4]),.iff (.cmp (.C8 5) [.ge] [.int 0]) [.iff (.or [.cmp (.C8 5) [.eq] [.int 0],.C8 3]) [.ret (some .none)] [],.expr (.meth .extend (.C8 2) [.bin .mul (.list [.gv 8]) (.C8 5)]),.C9 3 (.bool true)] [.C9 6 (.call 3 [.C8 4]),.iff (.cmp (.C8 6) [.le] [.gv 8]) [.ret (some .none)] [],.expr (.meth .append (.C8 2) [.C8 6]),.C9 3 (.bool false)]],
 .iff (.cmp (.Dc .len [.C8 2]) [.ne] [.C8 1]) [.ret (some .none)] [],
 .ret (some (.C8 2))]⟩
noncomputable def f_read_board:Fn:=⟨3,7,[
 .C9 3 (.meth .split (.C8 0) [.str [47]]),
 .iff (.cmp (.Dc .len [.C8 3]) [.ne] [.C8 2]) [.raise (.new 2 [.int 0,.fstr [.Dc .len [.C8 3],.str [32,114,97,110,107,115,44,32,110,111,116,32],.C8 2]])] [],
 .C9 4 (.list []),
 .for 5 (.Dc .range [.C8 2]) [.C9 6 (.call 48 [.sub (.C8 3) (.bin .sub (.bin .sub (.C8 2) (.int 1)) (.C8 5)),.C8 1]),.iff (.cmp (.C8 6) [.is] [.none]) [.raise (.new 2 [.int 0,.fstr [.str [114,97,110,107,32],.bin .add (.C8 5) (.int 1),.str [32,100,111,101,115,32,110,111,116,32,116,101,108,108,32],.C8 1,.str [32,115,113,117,97,114,101,115]]])] [],.expr (.meth .extend (.C8 4) [.C8 6])],
 .ret (some (.C8 4))]⟩
noncomputable def oh:Fn:=⟨1,1,[
 .iff (.cmp (.C8 0) [.eq] [.str [119]]) [.ret (some (.gv 0))] [],
 .iff (.cmp (.C8 0) [.eq] [.str [98]]) [.ret (some (.gv 1))] [],
 .raise (.new 2 [.int 1,.str [116,104,101,32,115,105,100,101,32,116,111,32,109,111,118,101,32,105,115,32,119,32,111,114,32,98]])]⟩
noncomputable def f_read_rights:Fn:=⟨1,5,[
 .iff (.cmp (.C8 0) [.eq] [.str [45]]) [.ret (some (.int 0))] [],
 .C9 1 (.int 0),
 .C9 2 (.neg (.int 1)),
 .for 3 (.C8 0) [.C9 4 (.meth .find (.gv 17) [.C8 3]),.iff (.cmp (.C8 4) [.le] [.C8 2]) [.raise (.new 2 [.int 2,.str [99,97,115,116,108,105,110,103,32,114,105,103,104,116,115,32,97,114,101,32,45,32,111,114,32,108,101,116,116,101,114,115,32,111,102,32,75,81,107,113,32,105,110,32,116,104,97,116,32,111,114,100,101,114]])] [],.C9 2 (.C8 4),.aug 1 .bor (.bin .lsh (.int 1) (.C8 4))],
 .iff (.cmp (.C8 1) [.eq] [.int 0]) [.raise (.new 2 [.int 2,.str [99,97,115,116,108,105,110,103,32,114,105,103,104,116,115,32,97,114,101,32,109,105,115,115,105,110,103]])] [],
 .ret (some (.C8 1))]⟩
noncomputable def sW:Fn:=⟨3,4,[
 .iff (.cmp (.C8 0) [.eq] [.str [45]]) [.ret (some (.neg (.int 1)))] [],
 .C9 3 (.call 46 [.C8 1,.C8 2,.C8 0]),
 .iff (.cmp (.C8 3) [.lt] [.int 0]) [.raise (.new 2 [.int 3,.str [110,111,32,115,113,117,97,114,101,32,111,102,32,116,104,105,115,32,98,111,97,114,100]])] [],
 .ret (some (.C8 3))]⟩
noncomputable def mL:Fn:=⟨3,4,[
 .C9 3 (.call 47 [.C8 0]),
 .iff (.cmp (.C8 3) [.lt] [.C8 2]) [.raise (.new 2 [.C8 1,.fstr [.str [97,32,119,104,111,108,101,32,110,117,109,98,101,114,32,102,114,111,109,32],.C8 2,.str [32,111,110,44,32,105,110,32,112,108,97,105,110,32,100,105,103,105,116,115]]])] [],
 .ret (some (.C8 3))]⟩
noncomputable def lj:Fn:=⟨2,5,[
 .C9 2 (.call 49 [.sub (.C8 0) (.int 0),.attr (.C8 1) 3,.attr (.C8 1) 4]),
 .C9 3 (.call 50 [.sub (.C8 0) (.int 1)]),
 .C9 4 (.call 51 [.sub (.C8 0) (.int 2)]),
 .ret (some (.tup [.C8 2,.C8 3,.C8 4,.call 52 [.sub (.C8 0) (.int 3),.attr (.C8 1) 3,.attr (.C8 1) 4]]))]⟩
noncomputable def jY:Fn:=⟨1,2,[
 .try [.expr (.call 37 [.C8 0]),.expr (.call 38 [.C8 0])] 1 1 [.raise (.new 2 [.int 0,.attr (.C8 1) 0])]]⟩
noncomputable def lq:Fn:=⟨1,2,[
 .try [.expr (.call 39 [.C8 0])] 1 1 [.raise (.new 2 [.int 2,.attr (.C8 1) 0])]]⟩
noncomputable def f_build_position:Fn:=⟨5,11,[
 .unpack [5,6,7,8] (.C8 0),
 .C9 9 (.new 6 [.C8 3,.C8 4]),
 .for 10 (.Dc .range [.attr (.C8 3) 5]) [.iff (.cmp (.sub (.C8 5) (.C8 10)) [.ne] [.gv 8]) [.expr (.call 31 [.C8 9,.sub (.C8 5) (.C8 10),.C8 10])] []],
 .Dd (.C8 9) 21 (.C8 6),
 .Dd (.C8 9) 20 (.C8 7),
 .Dd (.C8 9) 27 (.C8 1),
 .Dd (.C8 9) 6 (.C8 2),
 .expr (.call 55 [.C8 9]),
 .expr (.call 56 [.C8 9]),
 .iff (.cmp (.C8 8) [.ge] [.int 0]) [.iff (.not (.call 35 [.C8 9,.C8 8])) [.raise (.new 2 [.int 3,.str [110,111,32,112,97,119,110,32,104,97,115,32,112,97,115,115,101,100,32,111,118,101,114,32,116,104,105,115,32,115,113,117,97,114,101]])] [],.iff (.call 36 [.C8 9,.C8 8]) [.Dd (.C8 9) 19 (.C8 8)] []] [],
 .expr (.call 34 [.C8 9]),
 .iff (.call 45 [.C8 9,.bin .sub (.int 1) (.C8 6)]) [.raise (.new 2 [.int 1,.str [116,104,101,32,115,105,100,101,32,116,111,32,109,111,118,101,32,99,111,117,108,100,32,116,97,107,101,32,116,104,101,32,107,105,110,103]])] [],
 .ret (some (.C8 9))]⟩
noncomputable def f_read_fen:Fn:=⟨3,7,[
 .C9 3 (.meth .split (.C8 0) [.str [32]]),
 .iff (.cmp (.Dc .len [.C8 3]) [.ne] [.int 6]) [.raise (.new 2 [.neg (.int 1),.fstr [.Dc .len [.C8 3],.str [32,112,97,114,116,115,44,32,110,111,116,32,115,105,120]]])] [],
 .C9 4 (.call 54 [.C8 3,.C8 1]),
 .C9 5 (.call 53 [.sub (.C8 3) (.int 4),.int 4,.int 0]),
 .C9 6 (.call 53 [.sub (.C8 3) (.int 5),.int 5,.int 1]),
 .ret (some (.call 57 [.C8 4,.C8 5,.C8 6,.C8 1,.C8 2]))]⟩
noncomputable def f_law_texts:Fn:=⟨0,0,[
 .ret (some (.list [.str [114,50,107,50,47,112,52,112,47,54,47,80,52,80,47,82,50,75,50,32,119,32,81,113,32,45,32,48,32,49],.str [114,50,107,50,47,112,53,47,54,47,52,80,112,47,82,50,75,50,32,119,32,81,113,32,102,51,32,52,32,57],.str [114,50,107,50,47,50,112,80,50,47,54,47,112,53,47,51,75,49,82,32,98,32,113,32,100,51,32,48,32,55,48],.str [51,107,50,47,54,47,51,82,50,47,54,47,51,75,50,32,119,32,45,32,45,32,48,32,49],.str [114,50,107,50,47,112,53,47,54,47,50,80,50,112,47,82,50,75,50,32,119,32,81,113,32,102,51,32,48,32,57],.str [51,107,49,114,47,54,47,49,78,49,80,50,47,54,47,82,50,75,50,32,119,32,81,113,32,45,32,49,50,32,52,48]]))]⟩
noncomputable def oi:Fn:=⟨0,0,[
 .ret (some (.list [.str [49,50,51,52,53,54,55,56,57,47,48,75,107,81,113,82,114,66,98,78,110,80,112,46],.str [119,98,87,45],.str [75,81,107,113,45,65],.str [97,98,99,100,101,102,103,49,50,51,52,53,54,45],.str [48,49,50,51,52,53,54,55,56,57,45,120],.str [32,48,49,50,51,52,53,54,55,56,57,43]]))]⟩
noncomputable def f_law_bend:Fn:=⟨2,7,[
 .C9 2 (.bin .mod (.C8 1) (.int 6)),
 .C9 3 (.sub (.C8 0) (.C8 2)),
 .C9 1 (.bin .fdiv (.C8 1) (.int 6)),
 .C9 4 (.bin .mod (.C8 1) (.int 3)),
 .C9 1 (.bin .fdiv (.C8 1) (.int 3)),
 .C9 5 (.bin .mod (.C8 1) (.bin .add (.Dc .len [.C8 3]) (.int 1))),
 .C9 6 (.sub (.sub (.call 60 []) (.C8 2)) (.bin .mod (.bin .fdiv (.C8 1) (.bin .add (.Dc .len [.C8 3]) (.int 1))) (.Dc .len [.sub (.call 60 []) (.C8 2)]))),
 .iff (.cmp (.C8 4) [.eq] [.int 0]) [.Dg (.C8 0) (.C8 2) (.bin .add (.bin .add (.slice (.C8 3) none (some (.C8 5))) (.C8 6)) (.slice (.C8 3) (some (.C8 5)) none))] [.iff (.cmp (.C8 4) [.eq] [.int 1]) [.Dg (.C8 0) (.C8 2) (.bin .add (.bin .add (.slice (.C8 3) none (some (.C8 5))) (.C8 6)) (.slice (.C8 3) (some (.bin .add (.C8 5) (.int 1))) none))] [.Dg (.C8 0) (.C8 2) (.bin .add (.slice (.C8 3) none (some (.C8 5))) (.slice (.C8 3) (some (.bin .add (.C8 5) (.int 1))) none))]]]⟩
noncomputable def f_law_cells:Fn:=⟨1,7,[
 .C9 1 (.meth .split (.C8 0) [.str [47]]),
 .C9 2 (.str []),
 .for 3 (.C8 1) [.C9 4 (.str []),.C9 5 (.str []),.for 6 (.C8 3) [.iff (.and [.cmp (.C8 6) [.isin] [.str [49,50,51,52,53,54]],.cmp (.C8 5) [.notin] [.Dc .list [.str [49,50,51,52,53,54]]]]) [.aug 4 .add (.slice (.str [46,46,46,46,46,46]) none (some (.bin .sub (.Dc .ord [.C8 6]) (.int 48))))] [.iff (.cmp (.C8 6) [.isin] [.str [80,78,66,82,81,75,112,110,98,114,113,107]]) [.aug 4 .add (.C8 6)] [.ret (some (.str []))]],.C9 5 (.C8 6)],.iff (.cmp (.Dc .len [.C8 4]) [.ne] [.int 6]) [.ret (some (.str []))] [],.C9 2 (.bin .add (.C8 4) (.C8 2))],
 .ret (some (.ite (.cmp (.Dc .len [.C8 1]) [.eq] [.int 5]) (.C8 2) (.str [])))]⟩
noncomputable def oj:Fn:=⟨1,3,[
 .iff (.or [.cmp (.C8 0) [.eq] [.str []],.and [.cmp (.sub (.C8 0) (.int 0)) [.eq] [.str [48]],.cmp (.C8 0) [.ne] [.str [48]]],.comp (.C8 1) 1 (.C8 0) [.cmp (.C8 1) [.notin] [.str [48,49,50,51,52,53,54,55,56,57]]]]) [.ret (some (.neg (.int 1)))] [],
 .ret (some (.Dc .sum [.comp (.bin .mul (.bin .sub (.Dc .ord [.sub (.C8 0) (.bin .sub (.neg (.int 1)) (.C8 2))]) (.int 48)) (.bin .pow (.int 10) (.C8 2))) 2 (.Dc .range [.Dc .len [.C8 0]]) []]))]⟩
noncomputable def f_law_wings:Fn:=⟨0,3,[
 .C9 0 (.dict1 [45] 0),
 .for 1 (.Dc .range [.int 1,.int 16]) [.Dg (.C8 0) (.meth .join (.str []) [.comp (.sub (.str [75,81,107,113]) (.C8 2)) 2 (.Dc .range [.int 4]) [.bin .band (.bin .rsh (.C8 1) (.C8 2)) (.int 1)]]) (.C8 1)],
 .ret (some (.C8 0))]⟩
noncomputable def f_law_takes:Fn:=⟨3,8,[
 .C9 3 (.sub (.C8 0) (.C8 1)),
 .C9 4 (.bin .sub (.bin .mod (.C8 2) (.int 6)) (.bin .mod (.C8 1) (.int 6))),
 .C9 5 (.bin .sub (.bin .fdiv (.C8 2) (.int 6)) (.bin .fdiv (.C8 1) (.int 6))),
 .C9 6 (.Dc .max [.Dc .abs [.C8 4],.Dc .abs [.C8 5]]),
 .iff (.cmp (.C8 3) [.isin] [.str [80,112]]) [.ret (some (.and [.cmp (.Dc .abs [.C8 4]) [.eq] [.int 1],.cmp (.C8 5) [.eq] [.ite (.cmp (.C8 3) [.eq] [.str [80]]) (.int 1) (.neg (.int 1))]]))] [],
 .iff (.cmp (.C8 3) [.isin] [.str [78,110]]) [.ret (some (.cmp (.bin .mul (.Dc .abs [.C8 4]) (.Dc .abs [.C8 5])) [.eq] [.int 2]))] [],
 .iff (.or [.cmp (.C8 3) [.isin] [.str [75,107]],.cmp (.C8 6) [.eq] [.int 1]]) [.ret (some (.and [.cmp (.C8 6) [.eq] [.int 1],.or [.cmp (.C8 3) [.isin] [.str [75,107,81,113]],.cmp (.cmp (.Dc .abs [.C8 4]) [.eq] [.Dc .abs [.C8 5]]) [.eq] [.cmp (.C8 3) [.isin] [.str [66,98]]]]]))] [],
 .iff (.and [.not (.or [.cmp (.C8 4) [.eq] [.int 0],.cmp (.C8 5) [.eq] [.int 0]]),.or [.cmp (.Dc .abs [.C8 4]) [.ne] [.Dc .abs [.C8 5]],.cmp (.C8 3) [.isin] [.str [82,114]]]]) [.ret (some (.bool false))] [],
 .iff (.and [.or [.cmp (.C8 4) [.eq] [.int 0],.cmp (.C8 5) [.eq] [.int 0]],.cmp (.C8 3) [.isin] [.str [66,98]]]) [.ret (some (.bool false))] [],
 .for 7 (.Dc .range [.int 1,.C8 6]) [.iff (.cmp (.sub (.C8 0) (.bin .add (.bin .add (.C8 1) (.bin .mul (.bin .fdiv (.C8 4) (.C8 6)) (.C8 7))) (.bin .mul (.bin .mul (.int 6) (.bin .fdiv (.C8 5) (.C8 6))) (.C8 7)))) [.ne] [.str [46]]) [.ret (some (.bool false))] []],
 .ret (some (.bool true))]⟩
noncomputable def mM:Fn:=⟨3,4,[
 .ret (some (.cmp (.bool true) [.isin] [.comp (.and [.cmp (.sub (.C8 0) (.C8 3)) [.isin] [.C8 1],.call 65 [.C8 0,.C8 3,.C8 2]]) 3 (.Dc .range [.int 30]) [.and [.cmp (.C8 3) [.ne] [.C8 2],.cmp (.sub (.C8 0) (.C8 3)) [.ne] [.str [46]]]]]))]⟩
noncomputable def f_law_read:Fn:=⟨1,12,[
 .C9 1 (.meth .split (.C8 0) [.str [32]]),
 .iff (.cmp (.meth .count (.C8 0) [.str [32]]) [.ne] [.int 5]) [.ret (some (.neg (.int 1)))] [],
 .C9 2 (.call 62 [.sub (.C8 1) (.int 0)]),
 .iff (.cmp (.C8 2) [.eq] [.str []]) [.ret (some (.int 0))] [],
 .iff (.cmp (.sub (.C8 1) (.int 1)) [.notin] [.list [.str [119],.str [98]]]) [.ret (some (.int 1))] [],
 .iff (.cmp (.sub (.C8 1) (.int 2)) [.notin] [.call 64 []]) [.ret (some (.int 2))] [],
 .C9 3 (.sub (.call 64 []) (.sub (.C8 1) (.int 2))),
 .C9 4 (.comp (.bin .add (.sub (.str [97,98,99,100,101,102]) (.bin .mod (.C8 10) (.int 6))) (.sub (.str [49,50,51,52,53]) (.bin .fdiv (.C8 10) (.int 6)))) 10 (.Dc .range [.int 30]) []),
 .iff (.and [.cmp (.sub (.C8 1) (.int 3)) [.ne] [.str [45]],.cmp (.sub (.C8 1) (.int 3)) [.notin] [.C8 4]]) [.ret (some (.int 3))] [],
 .C9 5 (.call 63 [.sub (.C8 1) (.int 4)]),
 .C9 6 (.call 63 [.sub (.C8 1) (.int 5)]),
 .iff (.or [.cmp (.C8 5) [.lt] [.int 0],.cmp (.C8 6) [.lt] [.int 1]]) [.ret (some (.ite (.cmp (.C8 5) [.lt] [.int 0]) (.int 4) (.int 5)))] [],
 .iff (.or [.cmp (.meth .count (.C8 2) [.str [75]]) [.ne] [.int 1],.cmp (.meth .count (.C8 2) [.str [107]]) [.ne] [.int 1],.cmp (.str [112]) [.isin] [.repl (.bin .add (.slice (.C8 2) none (some (.int 6))) (.slice (.C8 2) (some (.int 24)) none)) 80 112]]) [.ret (some (.int 0))] [],
 .iff (.or [.bin .band (.C8 3) (.int 5),.and [.bin .band (.C8 3) (.int 2),.cmp (.bin .add (.sub (.C8 2) (.int 0)) (.sub (.C8 2) (.int 3))) [.ne] [.str [82,75]]],.and [.bin .band (.C8 3) (.int 8),.cmp (.bin .add (.sub (.C8 2) (.int 24)) (.sub (.C8 2) (.int 27))) [.ne] [.str [114,107]]]]) [.ret (some (.int 2))] [],
 .C9 7 (.ite (.cmp (.sub (.C8 1) (.int 1)) [.eq] [.str [119]]) (.int 0) (.int 1)),
 .C9 8 (.neg (.int 1)),
 .iff (.cmp (.sub (.C8 1) (.int 3)) [.ne] [.str [45]]) [.C9 8 (.meth .lindex (.C8 4) [.sub (.C8 1) (.int 3)]),.C9 9 (.bin .sub (.int 6) (.bin .mul (.int 12) (.C8 7))),.iff (.or [.cmp (.bin .fdiv (.C8 8) (.int 6)) [.ne] [.int 2],.cmp (.bin .add (.sub (.C8 2) (.C8 8)) (.sub (.C8 2) (.bin .add (.C8 8) (.C8 9)))) [.ne] [.str [46,46]],.cmp (.sub (.C8 2) (.bin .sub (.C8 8) (.C8 9))) [.ne] [.sub (.str [112,80]) (.C8 7)]]) [.ret (some (.int 3))] [],.iff (.not (.call 66 [.C8 2,.sub (.str [80,112]) (.C8 7),.C8 8])) [.C9 8 (.neg (.int 1))] []] [],
 .iff (.call 66 [.C8 2,.sub (.list [.str [80,78,66,82,81,75],.str [112,110,98,114,113,107]]) (.C8 7),.meth .sindex (.C8 2) [.sub (.str [107,75]) (.C8 7)]]) [.ret (some (.int 1))] [],
 .ret (some (.tup [.comp (.bin .add (.meth .find (.str [80,78,66,82,81,75,45,45,112,110,98,114,113,107]) [.C8 11]) (.int 1)) 11 (.C8 2) [],.C8 7,.C8 3,.C8 8,.C8 5,.C8 6]))]⟩
noncomputable def f_law:Fn:=⟨1,10,[
 .C9 1 (.slice (.C8 0) none (some (.int 4))),
 .C9 2 (.meth .split (.sub (.call 59 []) (.bin .mod (.ite (.C8 1) (.sub (.C8 1) (.int 0)) (.int 0)) (.int 6))) [.str [32]]),
 .for 3 (.slice (.C8 1) (some (.int 1)) none) [.expr (.call 61 [.C8 2,.C8 3])],
 .C9 4 (.meth .join (.str [32]) [.C8 2]),
 .C9 5 (.call 15 [.int 6,.int 5,.bool true,.bool true]),
 .C9 6 (.call 27 [.C8 5,.int 9]),
 .try [.C9 7 (.call 58 [.C8 4,.C8 5,.C8 6]),.C9 8 (.tup [.attr (.C8 7) 24,.attr (.C8 7) 21,.attr (.C8 7) 20,.attr (.C8 7) 19,.attr (.C8 7) 27,.attr (.C8 7) 6])] 2 9 [.C9 8 (.attr (.C8 9) 2)],
 .ret (some (.cmp (.C8 8) [.eq] [.call 67 [.C8 4]]))]⟩
noncomputable def Bs:List Fn:=[mH,sT,sU,pR,gX,gL,kS,js,mI,n7,ju,pS,n8,kT,kU,jv,kV,jV,iJ,jw,sV,uN,kW,kX,jW,pT,mJ,jX,n9,pU,jx,oa,uO,kY,mK,og,kZ,la,lg,f_check_rights,gM,gN,iK,iL,lh,li,f_read_square,f_plain_number,f_read_row,f_read_board,oh,f_read_rights,sW,mL,lj,jY,lq,f_build_position,f_read_fen,f_law_texts,oi,f_law_bend,f_law_cells,oj,f_law_wings,f_law_takes,mM,f_law_read,f_law]
noncomputable def xm:List V:=[.int 0,.int 1,.int 1,.int 2,.int 3,.int 4,.int 5,.int 6,.int 0,.str [46,80,78,66,82,81,75,46,46,112,110,98,114,113,107],.tup [.int 0,.int 1,.int 0,.int (-1),.int 1,.int 1,.int (-1),.int (-1)],.tup [.int 1,.int 0,.int (-1),.int 0,.int 1,.int (-1),.int (-1),.int 1],.int 18446744073709551615,.int 2685821657736338717,.str [97,98,99,100,101,102,103,104],.str [49,50,51,52,53,54,55,56],.str [48,49,50,51,52,53,54,55,56,57],.str [75,81,107,113]]
noncomputable def prog:Prog:=⟨Bs,xm,[4,5,6,7,22,24,30],[true,true,true,false,false,false,false]⟩
noncomputable def constNames:List String:=["WHITE","BLACK","PAWN","KNIGHT","BISHOP","ROOK","QUEEN","KING","EMPTY","LETTERS","STEP_FILES","STEP_RANKS","WORD","STAR","FILE_LETTERS","RANK_DIGITS","DIGITS","RIGHT_LETTERS"]
noncomputable def attrNames:List String:=["text","square","part","files","ranks","size","full","has_double","has_castling","file_masks","rank_masks","rays","king","knight","pawn","castles","rights_lost","state","pieces","ep","rights","side","zob","geo","board","kinds","sides","half","key","history"]
noncomputable def clsNames:List String:=["ChessError","BadPosition","BadFen","Geometry","Random","Zobrist","Position"]
noncomputable def funNames:List (String×List String):=[("make_piece",["side","kind"]),
 ("side_of",["piece"]),
 ("kind_of",["piece"]),
 ("piece_of",["letter"]),
 ("ChessError.__init__",["self","text"]),
 ("BadPosition.__init__",["self","text","square"]),
 ("BadFen.__init__",["self","part","text"]),
 ("Geometry.__init__",["self","files","ranks","has_double","has_castling"]),
 ("is_growing",["d"]),
 ("add_masks",["geo","row","column","r","f"]),
 ("inner_squares",["geo","d","edge"]),
 ("add_rays",["geo","d","inner","delta","ray","order","square","goal"]),
 ("add_pawns",["geo","square"]),
 ("add_knights",["geo","files","not_first","not_last","not_first_two","not_last_two","square","b","near","far","found"]),
 ("add_castles",["geo","start","index","base","corner","way","goal"]),
 ("make_geometry",["files","ranks","has_double","has_castling","geo"]),
 ("ray_attacks",["geo","d","square","occupied","ray","stop","behind"]),
 ("rook_attacks",["geo","square","occupied","found","d"]),
 ("bishop_attacks",["geo","square","occupied","found","d"]),
 ("more_than_one",["b"]),
 ("highest",["b","width","square"]),
 ("lowest",["b"]),
 ("Random.__init__",["self","seed"]),
 ("Random.next",["self","state"]),
 ("Zobrist.__init__",["self","pieces","ep","rights","side"]),
 ("draw_row",["random","length","row","place"]),
 ("rights_row",["singles","row","rights","number","index"]),
 ("make_zobrist",["geo","seed","random","pieces","piece","ep","rights"]),
 ("state_key",["pos","zob","key"]),
 ("full_key",["pos","numbers","key","square","piece"]),
 ("Position.__init__",["self","geo","zob"]),
 ("put_piece",["pos","piece","s","bit"]),
 ("pieces",["pos","side","kind"]),
 ("king_square",["pos","side"]),
 ("settle_key",["pos"]),
 ("ep_stands",["pos","square","geo","rank","ahead"]),
 ("ep_attacked",["pos","square"]),
 ("check_kings",["pos","side","kings"]),
 ("check_pawns",["pos","geo","wrong"]),
 ("check_rights",["pos","index","wing"]),
 ("straight_sliders",["pos"]),
 ("slanting_sliders",["pos"]),
 ("pawn_attackers",["pos","square","side"]),
 ("step_attackers",["pos","square","side","geo","near"]),
 ("is_attacked",["pos","square","side","occupied","geo","own","straight","slanting"]),
 ("in_check_of",["pos","side","everything"]),
 ("read_square",["files","ranks","text","file","rank"]),
 ("plain_number",["text","number","sign","digit"]),
 ("read_row",["text","files","cells","was_digit","sign","gap","piece"]),
 ("read_board",["text","files","ranks","rows","board","at","cells"]),
 ("read_side",["text"]),
 ("read_rights",["text","rights","last","sign","index"]),
 ("read_ep",["text","files","ranks","square"]),
 ("read_clock",["text","part","least","number"]),
 ("read_fields",["parts","geo","board","side","rights"]),
 ("check_pieces",["pos","fault"]),
 ("check_wings",["pos","fault"]),
 ("build_position",["fields","half","full","geo","zob","board","side","rights","ep","pos","square"]),
 ("read_fen",["text","geo","zob","parts","fields","half","full"]),
 ("_law_texts",[]),
 ("_law_signs",[]),
 ("_law_bend",["parts","n","at","text","how","place","sign"]),
 ("_law_cells",["text","rows","cells","row","wide","last","sign"]),
 ("_law_clock",["text","$sign","$i"]),
 ("_law_wings",["out","rights","$i"]),
 ("_law_takes",["cells","a","b","man","right","up","far","k"]),
 ("_law_hunted",["cells","men","goal","$a"]),
 ("_law_read",["text","parts","cells","rights","names","half","full","side","ep","back","$q","$man"]),
 ("law",["script","s","parts","n","text","geo","zob","pos","got","fault"])]
end
section
open PySem
noncomputable def mN:List Str:=constNames.map Str.ofString
noncomputable def attrN:List Str:=attrNames.map Str.ofString
noncomputable def gY:List Str:=clsNames.map Str.ofString
noncomputable def lu:List Str:=funNames.map λp=>Str.ofString p.1
noncomputable def fw:Str:=Str.ofString "next"
@[reducible] noncomputable def BOp.real:BOp->Operator
 |.add=>.Add|.sub=>.Sub|.mul=>.Mult|.fdiv=>.FloorDiv|.mod=>.Mod|.lsh=>.LShift|.rsh=>.RShift
 |.band=>.BitAnd|.bor=>.BitOr|.bxor=>.BitXor|.pow=>.Pow
@[reducible] noncomputable def COp.real:COp->CmpOp
 |.eq=>.Eq|.ne=>.NotEq|.lt=>.Lt|.le=>.LtE|.gt=>.Gt|.ge=>.GtE|.is=>.Is|.isnot=>.IsNot|.isin=>.In|.notin=>.NotIn
@[reducible] noncomputable def BI.real:BI->String
 |.len=>"len"|.range=>"range"|.list=>"list"|.ord=>"ord"|.sum=>"sum"|.abs=>"abs"|.max=>"max"
@[reducible] noncomputable def MI.real:MI->String
 |.split=>"split"|.find=>"find"|.join=>"join"|.count=>"count"|.sindex=>"index"|.lindex=>"index"
 |.append=>"append"|.extend=>"extend"
noncomputable def cC(e:Expr):Bool:=@Expr.casesOn (λ_=>Bool) e av av aw av aw aw av (λ_ _ _=>true) aw aw bN aw ax ax ax aw aw aw ax av av av ax ax ax av aw
noncomputable def cb(e:Expr):Bool:=@Expr.casesOn (λ_=>Bool) e av av aw av aw aw av av aw aw bN aw ax ax ax aw aw aw ax av av av (λ_ _=>true) ax ax av aw
noncomputable def mO(e:Expr):Bool:=@Expr.casesOn (λ_=>Bool) e av av aw av aw aw av av aw aw bN aw ax ax ax aw aw aw ax av av av ax (λ_ _=>true) ax av aw
noncomputable def dl(e:Expr):Bool:=@Expr.casesOn (λ_=>Bool) e av av aw av aw aw av av aw aw bN aw ax ax ax aw (λf as ks _=>mO f&&(as.isEmpty&&ks.isEmpty)) aw ax av av av ax ax ax av aw
noncomputable def eU(e:Expr):Bool:=@Expr.casesOn (λ_=>Bool) e av av aw av aw aw av av aw aw bN aw ax ax ax aw aw aw ax av av av ax ax ax av (λ_ _ _ _=>true)
noncomputable def cT(f:Expr->E->Bool):List Expr->List E->Bool
 |[],[]=>true
 |e::es,m::ms=>!cb e&&f e m&&cT f es ms
 |_,_=>false
noncomputable def lv(f:Expr->E->Bool):List Expr->List E->Bool
 |[],[]=>true
 |.Constant (.str t) k p::es,.str s::ms=>t.cps.toList==s&&f (.Constant (.str t) k p) (.str s)&&lv f es ms
 |.FormattedValue v c none _::es,m::ms=>c== -1&&f v m&&lv f es ms
 |_,_=>false
noncomputable def Bg(f:Expr->E->Bool):Option Expr->Option E->Bool
 |none,none=>true
 |some l,some m=>f l m
 |_,_=>false
noncomputable def aJ(C3:Scope)(x:Str)(k:NameKind):Bool:=C3.names.lookup x==some k
noncomputable def cX(x:Str):Bool:=!(x==("__debug__":Str))
noncomputable def cU(C3:Scope)(x:Str):Bool:=aJ C3 x .globalImplicit&&cX x
noncomputable def dJ(ks:List Keyword):Bool:=ks.isEmpty
noncomputable def dW(C3 csc:Scope)(C2:List (Option Str))(CY:Nat)(x:Str):List (Option Str):=
 (C2.map λo=>o.filter λy=>aJ csc y .free&&aJ C3 y .cell).set CY (some x)
noncomputable def bW(C3 csc:Scope):Scope:=
 {csc with names:=csc.names.map λ(n,k)=>if k==.free&&C3.kind==.function&&C3.names.lookup n==some .cell then(n,.cell)else(n,k)}
noncomputable def gZ(x:Str):Bool:=!x.cps.contains 46
noncomputable def dX(f:BoolOp->List Expr->Bool)(e:Expr):Bool:=@Expr.casesOn (λ_=>Bool) e (λop values _=>f op values) av aw av aw aw av av aw aw bN aw ax ax ax aw aw aw ax av av av ax ax ax av aw
@[elab_as_elim] theorem dm {f:BoolOp->List Expr->Bool} {P:Expr->Prop} (e:Expr) (h:dX f e=true) (k:∀op values pos,f op values=true->P (.BoolOp op values pos)):P e:=by
 induction e using Expr.casesOn with
 |BoolOp op values pos=>exact k op values pos h
 |_=>exact aC h
noncomputable def mP(f:Expr->Operator->Expr->Bool)(e:Expr):Bool:=@Expr.casesOn (λ_=>Bool) e av av (λleft op right _=>f left op right) av aw aw av av aw aw bN aw ax ax ax aw aw aw ax av av av ax ax ax av aw
@[elab_as_elim] theorem mQ {f:Expr->Operator->Expr->Bool} {P:Expr->Prop} (e:Expr) (h:mP f e=true) (k:∀left op right pos,f left op right=true->P (.BinOp left op right pos)):P e:=by
 induction e using Expr.casesOn with
 |BinOp left op right pos=>exact k left op right pos h
 |_=>exact aC h
noncomputable def cD(f:UnaryOp->Expr->Bool)(e:Expr):Bool:=@Expr.casesOn (λ_=>Bool) e av av aw (λop operand _=>f op operand) aw aw av av aw aw bN aw ax ax ax aw aw aw ax av av av ax ax ax av aw
@[elab_as_elim] theorem cM {f:UnaryOp->Expr->Bool} {P:Expr->Prop} (e:Expr) (h:cD f e=true) (k:∀op operand pos,f op operand=true->P (.UnaryOp op operand pos)):P e:=by
 induction e using Expr.casesOn with
 |UnaryOp op operand pos=>exact k op operand pos h
 |_=>exact aC h
noncomputable def jF(f:Expr->Expr->Expr->Bool)(e:Expr):Bool:=@Expr.casesOn (λ_=>Bool) e av av aw av aw (λtest body orelse _=>f test body orelse) av av aw aw bN aw ax ax ax aw aw aw ax av av av ax ax ax av aw
@[elab_as_elim] theorem g7 {f:Expr->Expr->Expr->Bool} {P:Expr->Prop} (e:Expr) (h:jF f e=true) (k:∀test body orelse pos,f test body orelse=true->P (.IfExp test body orelse pos)):P e:=by
 induction e using Expr.casesOn with
 |IfExp test body orelse pos=>exact k test body orelse pos h
 |_=>exact aC h
noncomputable def pV(f:List (Option Expr)->List Expr->Bool)(e:Expr):Bool:=@Expr.casesOn (λ_=>Bool) e av av aw av aw aw (λkeys values _=>f keys values) av aw aw bN aw ax ax ax aw aw aw ax av av av ax ax ax av aw
@[elab_as_elim] theorem ol {f:List (Option Expr)->List Expr->Bool} {P:Expr->Prop} (e:Expr) (h:pV f e=true) (k:∀keys values pos,f keys values=true->P (.Dict keys values pos)):P e:=by
 induction e using Expr.casesOn with
 |Dict keys values pos=>exact k keys values pos h
 |_=>exact aC h
noncomputable def pW(f:Expr->List Comprehension->Scope->Bool)(e:Expr):Bool:=@Expr.casesOn (λ_=>Bool) e av av aw av aw aw av av (λelt gens scope _=>f elt gens scope) aw bN aw ax ax ax aw aw aw ax av av av ax ax ax av aw
noncomputable def gn(f:Expr->List CmpOp->List Expr->Bool)(e:Expr):Bool:=@Expr.casesOn (λ_=>Bool) e av av aw av aw aw av av aw aw bN aw ax ax ax (λleft ops rs _=>f left ops rs) aw aw ax av av av ax ax ax av aw
@[elab_as_elim] theorem fJ {f:Expr->List CmpOp->List Expr->Bool} {P:Expr->Prop} (e:Expr) (h:gn f e=true) (k:∀left ops rs pos,f left ops rs=true->P (.Compare left ops rs pos)):P e:=by
 induction e using Expr.casesOn with
 |Compare left ops rs pos=>exact k left ops rs pos h
 |_=>exact aC h
noncomputable def fL(f:List Expr->Bool)(e:Expr):Bool:=@Expr.casesOn (λ_=>Bool) e av av aw av aw aw av av aw aw bN aw ax ax ax aw aw aw (λvalues _=>f values) av av av ax ax ax av aw
@[elab_as_elim] theorem iM {f:List Expr->Bool} {P:Expr->Prop} (e:Expr) (h:fL f e=true) (k:∀values pos,f values=true->P (.JoinedStr values pos)):P e:=by
 induction e using Expr.casesOn with
 |JoinedStr values pos=>exact k values pos h
 |_=>exact aC h
noncomputable def aH(f:Expr->Str->Pos->Bool)(e:Expr):Bool:=@Expr.casesOn (λ_=>Bool) e av av aw av aw aw av av aw aw bN aw ax ax ax aw aw aw ax av (λvalue attr pos=>f value attr pos) av ax ax ax av aw
@[elab_as_elim] theorem bc {f:Expr->Str->Pos->Bool} {P:Expr->Prop} (e:Expr) (h:aH f e=true) (k:∀value attr pos,f value attr pos=true->P (.Attribute value attr pos)):P e:=by
 induction e using Expr.casesOn with
 |Attribute value attr pos=>exact k value attr pos h
 |_=>exact aC h
noncomputable def bv(f:Expr->Expr->Bool)(e:Expr):Bool:=@Expr.casesOn (λ_=>Bool) e av av aw av aw aw av av aw aw bN aw ax ax ax aw aw aw ax av av (λvalue slice _=>f value slice) ax ax ax av aw
@[elab_as_elim] theorem bF {f:Expr->Expr->Bool} {P:Expr->Prop} (e:Expr) (h:bv f e=true) (k:∀value slice pos,f value slice=true->P (.Subscript value slice pos)):P e:=by
 induction e using Expr.casesOn with
 |Subscript value slice pos=>exact k value slice pos h
 |_=>exact aC h
noncomputable def bg(f:Str->Bool)(e:Expr):Bool:=@Expr.casesOn (λ_=>Bool) e av av aw av aw aw av av aw aw bN aw ax ax ax aw aw aw ax av av av ax (λid _=>f id) ax av aw
@[elab_as_elim] theorem aQ {f:Str->Bool} {P:Expr->Prop} (e:Expr) (h:bg f e=true) (k:∀id pos,f id=true->P (.Name id pos)):P e:=by
 induction e using Expr.casesOn with
 |Name id pos=>exact k id pos h
 |_=>exact aC h
noncomputable def pX(f:List Expr->Bool)(e:Expr):Bool:=@Expr.casesOn (λ_=>Bool) e av av aw av aw aw av av aw aw bN aw ax ax ax aw aw aw ax av av av ax ax (λelts _=>f elts) av aw
@[elab_as_elim] theorem om {f:List Expr->Bool} {P:Expr->Prop} (e:Expr) (h:pX f e=true) (k:∀elts pos,f elts=true->P (.List elts pos)):P e:=by
 induction e using Expr.casesOn with
 |List elts pos=>exact k elts pos h
 |_=>exact aC h
noncomputable def g8(f:List Expr->Bool)(e:Expr):Bool:=@Expr.casesOn (λ_=>Bool) e av av aw av aw aw av av aw aw bN aw ax ax ax aw aw aw ax av av av ax ax ax (λelts _ _=>f elts) aw
@[elab_as_elim] theorem hF {f:List Expr->Bool} {P:Expr->Prop} (e:Expr) (h:g8 f e=true) (K:∀elts k pos,f elts=true->P (.Tuple elts k pos)):P e:=by
 induction e using Expr.casesOn with
 |Tuple elts k pos=>exact K elts k pos h
 |_=>exact aC h
noncomputable def jG(f:Option Expr->Option Expr->Option Expr->Bool)(e:Expr):Bool:=@Expr.casesOn (λ_=>Bool) e av av aw av aw aw av av aw aw bN aw ax ax ax aw aw aw ax av av av ax ax ax av (λl u st _=>f l u st)
@[elab_as_elim] theorem hH {f:Option Expr->Option Expr->Option Expr->Bool} {P:Expr->Prop} (e:Expr) (h:jG f e=true) (k:∀l u st pos,f l u st=true->P (.Slice l u st pos)):P e:=by
 induction e using Expr.casesOn with
 |Slice l u st pos=>exact k l u st pos h
 |_=>exact aC h
noncomputable def aN(f:Const->Bool)(e:Expr):Bool:=@Expr.casesOn (λ_=>Bool) e av av aw av aw aw av av aw aw bN aw ax ax ax aw aw aw ax (λc _ _=>f c) av av ax ax ax av aw
@[elab_as_elim] theorem aX {f:Const->Bool} {P:Expr->Prop} (e:Expr) (h:aN f e=true) (K:∀c k pos,f c=true->P (.Constant c k pos)):P e:=by
 induction e using Expr.casesOn with
 |Constant c k pos=>exact K c k pos h
 |_=>exact aC h
noncomputable def bX(f:Expr->List Expr->List Keyword->Pos->Bool)(e:Expr):Bool:=@Expr.casesOn (λ_=>Bool) e av av aw av aw aw av av aw aw bN aw ax ax ax aw (λfn as ks pos=>f fn as ks pos) aw ax av av av ax ax ax av aw
@[elab_as_elim] theorem bH {f:Expr->List Expr->List Keyword->Pos->Bool} {P:Expr->Prop} (e:Expr) (h:bX f e=true) (k:∀fn as ks pos,f fn as ks pos=true->P (.Call fn as ks pos)):P e:=by
 induction e using Expr.casesOn with
 |Call fn as ks pos=>exact k fn as ks pos h
 |_=>exact aC h
noncomputable def fM(f:Option Expr->Bool)(e:Stmt):Bool:=@Stmt.casesOn (λ_=>Bool) e ec ec jR (λv _=>f v) ax av uD aw bN bN bN aw aw av av av av bN bN av ax aw ax ax ax cI cI cI
@[elab_as_elim] theorem gA {f:Option Expr->Bool} {P:Stmt->Prop} (e:Stmt) (h:fM f e=true) (k:∀v pos,f v=true->P (.Return v pos)):P e:=by
 induction e using Stmt.casesOn with
 |Return v pos=>exact k v pos h
 |_=>exact aC h
noncomputable def cu(f:List Expr->Expr->Bool)(e:Stmt):Bool:=@Stmt.casesOn (λ_=>Bool) e ec ec jR ax ax (λts v _=>f ts v) uD aw bN bN bN aw aw av av av av bN bN av ax aw ax ax ax cI cI cI
@[elab_as_elim] theorem cw {f:List Expr->Expr->Bool} {P:Stmt->Prop} (e:Stmt) (h:cu f e=true) (k:∀ts v pos,f ts v=true->P (.Assign ts v pos)):P e:=by
 induction e using Stmt.casesOn with
 |Assign ts v pos=>exact k ts v pos h
 |_=>exact aC h
noncomputable def bY(f:Expr->Operator->Expr->Bool)(e:Stmt):Bool:=@Stmt.casesOn (λ_=>Bool) e ec ec jR ax ax av uD (λt op v _=>f t op v) bN bN bN aw aw av av av av bN bN av ax aw ax ax ax cI cI cI
@[elab_as_elim] theorem cY {f:Expr->Operator->Expr->Bool} {P:Stmt->Prop} (e:Stmt) (h:bY f e=true) (k:∀t op v pos,f t op v=true->P (.AugAssign t op v pos)):P e:=by
 induction e using Stmt.casesOn with
 |AugAssign t op v pos=>exact k t op v pos h
 |_=>exact aC h
noncomputable def uP(f:Expr->Expr->List Stmt->List Stmt->Bool)(e:Stmt):Bool:=@Stmt.casesOn (λ_=>Bool) e ec ec jR ax ax av uD aw bN (λt it b o _=>f t it b o) bN aw aw av av av av bN bN av ax aw ax ax ax cI cI cI
@[elab_as_elim] theorem pY {f:Expr->Expr->List Stmt->List Stmt->Bool} {P:Stmt->Prop} (e:Stmt) (h:uP f e=true) (k:∀t it b o pos,f t it b o=true->P (.For t it b o pos)):P e:=by
 induction e using Stmt.casesOn with
 |For t it b o pos=>exact k t it b o pos h
 |_=>exact aC h
noncomputable def mR(f:Expr->List Stmt->List Stmt->Bool)(e:Stmt):Bool:=@Stmt.casesOn (λ_=>Bool) e ec ec jR ax ax av uD aw bN bN bN (λt b o _=>f t b o) aw av av av av bN bN av ax aw ax ax ax cI cI cI
@[elab_as_elim] theorem mS {f:Expr->List Stmt->List Stmt->Bool} {P:Stmt->Prop} (e:Stmt) (h:mR f e=true) (k:∀t b o pos,f t b o=true->P (.While t b o pos)):P e:=by
 induction e using Stmt.casesOn with
 |While t b o pos=>exact k t b o pos h
 |_=>exact aC h
noncomputable def zS(f:Expr->List Stmt->List Stmt->Bool)(e:Stmt):Bool:=@Stmt.casesOn (λ_=>Bool) e ec ec jR ax ax av uD aw bN bN bN aw (λt b o _=>f t b o) av av av av bN bN av ax aw ax ax ax cI cI cI
@[elab_as_elim] theorem sX {f:Expr->List Stmt->List Stmt->Bool} {P:Stmt->Prop} (e:Stmt) (h:zS f e=true) (k:∀t b o pos,f t b o=true->P (.If t b o pos)):P e:=by
 induction e using Stmt.casesOn with
 |If t b o pos=>exact k t b o pos h
 |_=>exact aC h
noncomputable def mT(f:Option Expr->Option Expr->Bool)(e:Stmt):Bool:=@Stmt.casesOn (λ_=>Bool) e ec ec jR ax ax av uD aw bN bN bN aw aw av av av (λx c _=>f x c) bN bN av ax aw ax ax ax cI cI cI
@[elab_as_elim] theorem mU {f:Option Expr->Option Expr->Bool} {P:Stmt->Prop} (e:Stmt) (h:mT f e=true) (k:∀x c pos,f x c=true->P (.Raise x c pos)):P e:=by
 induction e using Stmt.casesOn with
 |Raise x c pos=>exact k x c pos h
 |_=>exact aC h
noncomputable def uQ(f:List Stmt->List ExceptHandler->List Stmt->List Stmt->Bool)(e:Stmt):Bool:=@Stmt.casesOn (λ_=>Bool) e ec ec jR ax ax av uD aw bN bN bN aw aw av av av av (λb hs o fi _=>f b hs o fi) bN av ax aw ax ax ax cI cI cI
@[elab_as_elim] theorem pZ {f:List Stmt->List ExceptHandler->List Stmt->List Stmt->Bool} {P:Stmt->Prop} (e:Stmt) (h:uQ f e=true) (k:∀b hs o fi pos,f b hs o fi=true->P (.Try b hs o fi pos)):P e:=by
 induction e using Stmt.casesOn with
 |Try b hs o fi pos=>exact k b hs o fi pos h
 |_=>exact aC h
noncomputable def qa(f:Expr->Bool)(e:Stmt):Bool:=@Stmt.casesOn (λ_=>Bool) e ec ec jR ax ax av uD aw bN bN bN aw aw av av av av bN bN av ax aw ax ax (λv _=>f v) cI cI cI
@[elab_as_elim] theorem on {f:Expr->Bool} {P:Stmt->Prop} (e:Stmt) (h:qa f e=true) (k:∀v pos,f v=true->P (.Expr v pos)):P e:=by
 induction e using Stmt.casesOn with
 |Expr v pos=>exact k v pos h
 |_=>exact aC h
noncomputable def one{α:Type}(f:α->Bool):List α->Bool
 |[t]=>f t
 |_=>false
@[elab_as_elim] theorem cN {α:Type} {f:α->Bool} {P:List α->Prop} (l:List α) (h:one f l=true) (k:∀t,f t=true->P [t]):P l:=by
 induction l using List.casesOn with
 |nil=>exact aC h
 |cons t l=>induction l using List.casesOn with
  |nil=>exact k t h
  |cons=>exact aC h
noncomputable def Bh{α:Type}(f:α->α->Bool):List α->Bool
 |[t,u]=>f t u
 |_=>false
@[elab_as_elim] theorem uR {α:Type} {f:α->α->Bool} {P:List α->Prop} (l:List α) (h:Bh f l=true) (k:∀t u,f t u=true->P [t,u]):P l:=by
 induction l using List.casesOn with
 |nil=>exact aC h
 |cons t l=>induction l using List.casesOn with
  |nil=>exact aC h
  |cons u l=>induction l using List.casesOn with
   |nil=>exact k t u h
   |cons=>exact aC h
noncomputable def Bi{α:Type}(f:α->Bool):Option α->Bool
 |some t=>f t
 |none=>false
@[elab_as_elim] theorem uS {α:Type} {f:α->Bool} {P:Option α->Prop} (o:Option α) (h:Bi f o=true) (k:∀t,f t=true->P (some t)):P o:=by
 induction o using Option.casesOn with
 |none=>exact aC h
 |some t=>exact k t h
noncomputable def oo(f:Str->Bool):Const->Bool
 |.str t=>f t
 |_=>false
@[elab_as_elim] theorem iN {f:Str->Bool} {P:Const->Prop} (c:Const) (h:oo f c=true) (k:∀t,f t=true->P (.str t)):P c:=by
 induction c using Const.casesOn with
 |str t=>exact k t h
 |_=>exact aC h
noncomputable def xn(f:Int->Bool):Const->Bool
 |.int t=>f t
 |_=>false
@[elab_as_elim] theorem sY {f:Int->Bool} {P:Const->Prop} (c:Const) (h:xn f c=true) (k:∀t,f t=true->P (.int t)):P c:=by
 induction c using Const.casesOn with
 |int t=>exact k t h
 |_=>exact aC h
noncomputable def Cg(f:Expr->Str->List Stmt->Bool):ExceptHandler->Bool
 |.ExceptHandler (some e) (some y) b _=>f e y b
 |_=>false
@[elab_as_elim] theorem uT {f:Expr->Str->List Stmt->Bool} {P:ExceptHandler->Prop} (c:ExceptHandler) (h:Cg f c=true) (k:∀e y b p,f e y b=true->P (.ExceptHandler (some e) (some y) b p)):P c:=by
 cases c with
 |ExceptHandler t y b p=>induction t using Option.casesOn with
  |none=>exact aC h
  |some t=>induction y using Option.casesOn with
   |none=>exact aC h
   |some y=>exact k t y b p h
noncomputable def az:Nat->Scope->List (Option Str)->Expr->E->Bool
 |0,_,_,_,_=>false
 |n+1,C3,C2,e,m=>match m with
  |.none=>aN (λc=>match c with|.none=>true|_=>false) e
  |.bool b=>aN (λc=>match c with|.bool c=>b==c|_=>false) e
  |.int i=>aN (xn λj=>i==j) e
  |.str s=>aN (oo λt=>t.cps.toList==s) e
  |.C8 i=>bg (λx=>C2[i]? ==some (some x)&&(aJ C3 x .local||aJ C3 x .cell)&&cX x) e
  |.gv i=>bg (λx=>mN[i]? ==some x&&cU C3 x) e
  |.bin op a b=>mP (λl o r=>op.real==o&&az n C3 C2 l a&&az n C3 C2 r b) e
  |.neg a=>cD (λo x=>match o with|.USub=>az n C3 C2 x a|_=>false) e
  |.inv a=>cD (λo x=>match o with|.Invert=>az n C3 C2 x a|_=>false) e
  |.not a=>cD (λo x=>match o with|.Not=>az n C3 C2 x a|_=>false) e
  |.and es=>dX (λo vs=>match o with|.And=>cT (az n C3 C2) vs es|_=>false) e
  |.or es=>dX (λo vs=>match o with|.Or=>cT (az n C3 C2) vs es|_=>false) e
  |.cmp a ops es=>gn (λl os rs=>az n C3 C2 l a&&os==ops.map COp.real&&cT (az n C3 C2) rs es&&rs.all (λr=>!cC r)&&os.length==rs.length) e
  |.ite t a b=>jF (λt' a' b'=>az n C3 C2 t' t&&az n C3 C2 a' a&&az n C3 C2 b' b) e
  |.list es=>pX (λes'=>cT (az n C3 C2) es' es) e
  |.tup es=>g8 (λes'=>cT (az n C3 C2) es' es) e
  |.dict1 k v=>pV (λks vs=>one (Bi (aN (oo λt=>one (aN (xn λj=>t.cps.toList==k&&v==j)) vs))) ks) e
  |.comp elt CY iter ifs=>pW (λelt' gens csc=>one (λg=>bg (λx=>g.is_async==0&&(C3.kind==.function&&csc.kind==.function&&C2[CY]? ==some none&&aJ (bW C3 csc) x .local&&cX x&& !cC g.iter&&csc.names.all (λy=>y.2 !=.cell&&(y.2 !=.local||csc.names.lookup y.1==some .local)&&(y.2 !=.free||(aJ csc y.1 .free&&aJ C3 y.1 .cell&&C2.contains (some y.1))))&&az n C3 C2 g.iter iter&&az n (bW C3 csc) (dW C3 csc C2 CY x) elt' elt&&cT (az n (bW C3 csc) (dW C3 csc C2 CY x)) g.ifs ifs)) g.target) gens) e
  |.call f args=>bX (λf' as ks _=>bg (λx=>dJ ks&&lu[f]? ==some x&&gZ x&&cU C3 x&&cT (az n C3 C2) as args&&Nat.ble as.length 20) f') e
  |.new c args=>bX (λf' as ks _=>bg (λx=>dJ ks&&gY[c]? ==some x&&cU C3 x&&cT (az n C3 C2) as args&&Nat.ble as.length 20&& !as.isEmpty) f') e
  |.cinit c f args=>bX (λf' as ks p=>aH (λo a ap=>bg (λx=>dJ ks&&prog.inits[c]? ==some f&&gY[c]? ==some x&&cU C3 x&&a==("__init__":Str)&&cT (az n C3 C2) as args&&Nat.ble as.length 20&& !as.isEmpty&&ap.endLine==p.line) o) f') e
  |.xinit self args=>bX (λf' as ks p=>aH (λo a ap=>bg (λx=>dJ ks&&x==("Exception":Str)&&cU C3 x&&a==("__init__":Str)&&cT (az n C3 C2) as (self::args)&&Nat.ble as.length 20&&ap.endLine==p.line) o) f') e
  |.umeth c f obj args=>bX (λf' as ks p=>aH (λo a ap=>dJ ks&&gY[c]? ==some (Str.ofString "Random")&&lu[f]? ==some (Str.ofString "Random.next")&&a==fw&& !dl o&&az n C3 C2 o obj&&cT (az n C3 C2) as args&&Nat.ble as.length 20&&ap.endLine==p.line) f') e
  |.Dc b args=>bX (λf' as ks _=>bg (λx=>dJ ks&&Str.ofString b.real==x&&cU C3 x&&cT (az n C3 C2) as args&&Nat.ble as.length 20&& !as.isEmpty) f') e
  |.meth m obj args=>bX (λf' as ks p=>aH (λo a ap=>dJ ks&&Str.ofString m.real==a&& !dl o&&az n C3 C2 o obj&&cT (az n C3 C2) as args&&Nat.ble as.length 20&& !as.isEmpty&&ap.endLine==p.line) f') e
  |.repl obj a b=>bX (λf' as ks p=>aH (λo y ap=>Bh (λc1 c2=>aN (oo λu=>aN (oo λv=>dJ ks&&y==("replace":Str)&&u.cps.toList==[a]&&v.cps.toList==[b]&& !dl o&&az n C3 C2 o obj&&ap.endLine==p.line) c2) c1) as) f') e
  |.attr obj a=>aH (λo y _=>attrN[a]? ==some y&& !dl o&&az n C3 C2 o obj) e
  |.sub obj idx=>bv (λo i=>!eU i&&az n C3 C2 o obj&&az n C3 C2 i idx) e
  |.slice obj lo hi=>bv (λo sl=>jG (λl u st=>match st with|none=>az n C3 C2 o obj&&Bg (az n C3 C2) l lo&&Bg (az n C3 C2) u hi|_=>false) sl) e
  |.fstr es=>fL (λvs=>lv (az n C3 C2) vs es&&Nat.ble 2 vs.length) e
noncomputable def dY(f:Stmt->S->Bool):List Stmt->List S->Bool
 |[],[]=>true
 |e::es,m::ms=>f e m&&dY f es ms
 |_,_=>false
noncomputable def bO(C3:Scope)(C2:List (Option Str))(i:Nat)(x:Str):Bool:=C2[i]? ==some (some x)&&(aJ C3 x .local||aJ C3 x .cell)&&cX x
noncomputable def cZ(C3:Scope)(C2:List (Option Str)):List Expr->List Nat->Bool
 |[],[]=>true
 |e::es,i::is=>bg (λx=>bO C3 C2 i x&&cZ C3 C2 es is) e
 |_,_=>false
noncomputable def gr(e:Expr):Bool:=@Expr.casesOn (λ_=>Bool) e (λ_ _ _=>true) (λ_ _ _=>true) (λ_ _ _ _=>true) (λ_ _ _=>true) (λ_ _ _ _=>true) (λ_ _ _ _=>true) (λ_ _ _=>true) (λ_ _ _=>true) aw aw bN (λ_ _ _ _=>true) (λ_ _=>true) (λ_ _=>true) (λ_ _=>true) (λ_ _ _ _=>true) (λ_ _ _ _=>true) (λ_ _ _ _=>true) (λ_ _=>true) (λ_ _ _=>true) (λ_ _ _=>true) (λ_ _ _=>true) (λ_ _=>true) (λ_ _=>true) (λ_ _=>true) (λ_ _ _=>true) (λ_ _ _ _=>true)
noncomputable def zT(e:Stmt):Bool:=@Stmt.casesOn (λ_=>Bool) e ec ec jR ax ax av uD aw bN bN bN aw aw av av av av bN bN av ax aw ax ax ax cI cI (λ_=>true)
noncomputable def zU(e:Stmt):Bool:=@Stmt.casesOn (λ_=>Bool) e ec ec jR ax ax av uD aw bN bN bN aw aw av av av av bN bN av ax aw ax ax ax (λ_=>true) cI cI
noncomputable def eS:Nat->Scope->List (Option Str)->Stmt->S->Bool
 |0,_,_,_,_=>false
 |n+1,C3,C2,st,m=>match m with
  |.expr e=>qa (λx=>gr x&&az n C3 C2 x e) st
  |.C9 i e=>cu (λts v=>one (bg λx=>bO C3 C2 i x&&az n C3 C2 v e) ts) st
  |.unpack is e=>cu (λts v=>one (g8 λts=>cZ C3 C2 ts is&&gr v&&mO v&&az n C3 C2 v e&&is.length==ts.length) ts) st
  |.Dd o a e=>cu (λts v=>one (aH λo' y _=>attrN[a]? ==some y&&az n C3 C2 o' o&&az n C3 C2 v e) ts) st
  |.Dg o i e=>cu (λts v=>one (bv λo' i'=>!eU i'&&az n C3 C2 o' o&&az n C3 C2 i' i&&az n C3 C2 v e) ts) st
  |.aug i op e=>bY (λt o v=>bg (λx=>bO C3 C2 i x&&op.real==o&&az n C3 C2 v e) t) st
  |.Di o a op e=>bY (λt p v=>aH (λo' y _=>attrN[a]? ==some y&&op.real==p&&az n C3 C2 o' o&&az n C3 C2 v e) t) st
  |.Dh o i op e=>bY (λt p v=>bv (λo' i'=>!eU i'&&op.real==p&&az n C3 C2 o' o&&az n C3 C2 i' i&&az n C3 C2 v e) t) st
  |.iff t a b=>zS (λt' a' b'=>az n C3 C2 t' t&&dY (eS n C3 C2) a' a&&dY (eS n C3 C2) b' b) st
  |.whl t body=>mR (λt' b' o=>match o with|[]=>az n C3 C2 t' t&&dY (eS n C3 C2) b' body|_=>false) st
  |.for i iter body=>uP (λt it b' o=>bg (λx=>match o with|[]=>bO C3 C2 i x&& !cC it&&az n C3 C2 it iter&&dY (eS n C3 C2) b' body|_=>false) t) st
  |.ret none=>fM (λo=>o.isNone) st
  |.ret (some e)=>fM (Bi λv=>az n C3 C2 v e) st
  |.cont=>zT st
  |.pass=>zU st
  |.raise e=>mT (λv c=>Bi (λv=>match c with|none=>az n C3 C2 v e|_=>false) v) st
  |.try body c i handler=>uQ (λb' hs oe fi=>one (Cg λe y hb=>bg (λx=>oe.isEmpty&&(fi.isEmpty&&(gY[c]? ==some x&&cU C3 x&&bO C3 C2 i y&&aJ C3 y .local&&dY (eS n C3 C2) b' body&&dY (eS n C3 C2) hb handler&& !hb.isEmpty))) e) hs) st
noncomputable def eL(names:List String):List (Option Str):=names.map λs=>if s.startsWith "$"then none else some (Str.ofString s)
end
section
open PySem PySem.W PySem.Calls PyProof.Rows
inductive Tag where
 |frozen (o:Obj)
 |obj (n:Nat)
 |part (n:Nat)
 |priv
 |junk
structure Wd where
 tag:Addr->Option Tag
 at_:Nat->Option Addr
structure Wd.le (X Y:Wd):Prop where
 tag:∀a t,X.tag a=some t->Y.tag a=some t
 at_:∀n a,X.at_ n=some a->Y.at_ n=some a
theorem Wd.le.refl(X:Wd):X.le X:=⟨λ_ _ e=>e,λ_ _ e=>e⟩
theorem Wd.le.trans{X Y Z:Wd}(a:X.le Y)(b:Y.le Z):X.le Z:=⟨λx t e=>b.tag x t (a.tag x t e),λn x e=>b.at_ n x (a.at_ n x e)⟩
noncomputable def hJ(lo hi st:Int)(t u v:Tok):Obj:={cls:=.type "range",dict:=none,data:=.fields #[.int lo t,.int hi u,.int st v],slots:= #[]}
mutual
inductive VRel (X:Wd):V->Value->Prop
 |none:VRel X .none .none
 |bool (b:Bool):VRel X (.bool b) (.bool b)
 |int (i:Int) (t:Tok):VRel X (.int i) (.int i t)
 |str (s:List Nat) (t:Tok):VRel X (.str s) (.str ⟨s.toArray⟩ t)
 |ref (n:Nat) (a:Addr):X.at_ n=some a->VRel X (.ref n) (.ref a)
 |tup {vs:List V} {items:List Value} {a:Addr} {o:Obj} {k:Nat}:X.tag a=some (.frozen o)->o.cls=.type "tuple"->o.data=.seq items.toArray k->VRels X vs items->VRel X (.tup vs) (.ref a)
 |rng {lo hi st:Int} {a:Addr} {t u v:Tok}:X.tag a=some (.frozen (hJ lo hi st t u v))->small lo=true->small hi=true->(st=1\/st= -1)->VRel X (.rng lo hi st) (.ref a)
inductive VRels (X:Wd):List V->List Value->Prop
 |nil:VRels X [] []
 |cons {v:V} {x:Value} {vs:List V} {xs:List Value}:VRel X v x->VRels X vs xs->VRels X (v::vs) (x::xs)
end
theorem VRel.mono{X Y:Wd}(l:X.le Y){v:V}{x:Value}(h:VRel X v x):VRel Y v x:=
 VRel.rec (motive_1:=λv x _=>VRel Y v x) (motive_2:=λv x _=>VRels Y v x) .none .bool .int .str (λn a h=>.ref n a (l.at_ n a h)) (λh c d _ r=>.tup (l.tag _ _ h) c d r) (λh a b c=>.rng (l.tag _ _ h) a b c) .nil (λ_ _ h r=>.cons h r) h
theorem VRels.mono{X Y:Wd}(l:X.le Y){v:List V}{x:List Value}(h:VRels X v x):VRels Y v x:=
 VRels.rec (motive_1:=λv x _=>VRel Y v x) (motive_2:=λv x _=>VRels Y v x) .none .bool .int .str (λn a h=>.ref n a (l.at_ n a h)) (λh c d _ r=>.tup (l.tag _ _ h) c d r) (λh a b c=>.rng (l.tag _ _ h) a b c) .nil (λ_ _ h r=>.cons h r) h
theorem VRel.intI{X:Wd}{i:Int}{w:Value}(h:VRel X (.int i) w):∃t,w=.int i t:=by cases h;exact⟨_,rfl⟩
theorem VRel.strI{X:Wd}{x:List Nat}{w:Value}(h:VRel X (.str x) w):∃t,w=.str ⟨x.toArray⟩ t:=by cases h;exact⟨_,rfl⟩
theorem VRel.boolI{X:Wd}{b:Bool}{w:Value}(h:VRel X (.bool b) w):w=.bool b:=by cases h;rfl
theorem VRel.refI{X:Wd}{n:Nat}{w:Value}(h:VRel X (.ref n) w):∃a,w=.ref a/\X.at_ n=some a:=by cases h with|ref _ a hn=>exact⟨a,rfl,hn⟩
theorem VRels.nilI{X:Wd}{ws:List Value}(h:VRels X [] ws):ws=[]:=by cases h;rfl
theorem VRels.consI{X:Wd}{v:V}{vs:List V}{ws:List Value}(h:VRels X (v::vs) ws):∃x xs,ws=x::xs/\VRel X v x/\VRels X vs xs:=by cases h with|cons a b=>exact⟨_,_,rfl,a,b⟩
theorem VRels.one{X:Wd}{v:V}{ws:List Value}(h:VRels X [v] ws):∃x,ws=[x]/\VRel X v x:=by
 refine dH h.consI λx xs e'1 a b=>?_;subst e'1
 exact⟨x,by rw[b.nilI],a⟩
theorem VRels.str1{X:Wd}{x:List Nat}{ws:List Value}(h:VRels X [.str x] ws):∃t,ws=[.str ⟨x.toArray⟩ t]:=by
 refine ai h.one λy e'2 a=>?_;subst e'2
 refine aB a.strI λt e'3=>?_;subst e'3
 exact⟨t,rfl⟩
theorem VRels.int1{X:Wd}{i:Int}{ws:List Value}(h:VRels X [.int i] ws):∃t,ws=[.int i t]:=by
 refine ai h.one λy e'4 a=>?_;subst e'4
 refine aB a.intI λt e'5=>?_;subst e'5
 exact⟨t,rfl⟩
theorem VRels.ref1{X:Wd}{n:Nat}{ws:List Value}(h:VRels X [.ref n] ws):∃a,ws=[.ref a]/\X.at_ n=some a:=by
 refine ai h.one λy e'6 a=>?_;subst e'6
 refine ai a.refI λt e'7 e=>?_;subst e'7
 exact⟨t,rfl,e⟩
theorem VRels.int2{X:Wd}{i j:Int}{ws:List Value}(h:VRels X [.int i,.int j] ws):∃t u,ws=[.int i t,.int j u]:=by
 refine dH h.consI λy ys e'8 a b=>?_;subst e'8
 refine aB a.intI λt e'9=>?_;subst e'9
 refine aB b.int1 λu e'10=>?_;subst e'10
 exact⟨t,u,rfl⟩
theorem VRels.int3{X:Wd}{i j k:Int}{ws:List Value}(h:VRels X [.int i,.int j,.int k] ws):∃t u v,ws=[.int i t,.int j u,.int k v]:=by
 refine dH h.consI λy ys e'11 a b=>?_;subst e'11
 refine aB a.intI λt e'12=>?_;subst e'12
 refine bE b.int2 λu v e'13=>?_;subst e'13
 exact⟨t,u,v,rfl⟩
theorem VRels.length{X:Wd}{vs:List V}{xs:List Value}(h:VRels X vs xs):vs.length=xs.length:=by
 induction vs generalizing xs with
 |nil=>cases h;rfl
 |cons v vs ih=>cases h with|cons a b=>simp[ih b]
theorem VRels.append{X:Wd}{vs ws:List V}{xs ys:List Value}(h:VRels X vs xs)(g:VRels X ws ys):VRels X (vs++ws) (xs++ys):=by
 induction vs generalizing xs with
 |nil=>cases h;exact g
 |cons v vs ih=>cases h with|cons a b=>exact .cons a (ih b)
theorem VRels.snoc{X:Wd}{vs:List V}{w:V}{xs:List Value}{y:Value}(h:VRels X vs xs)(g:VRel X w y):VRels X (vs++[w]) (xs++[y]):=h.append (.cons g .nil)
theorem VRels.get{X:Wd}{vs:List V}{xs:List Value}(h:VRels X vs xs){i:Nat}{v:V}(e:vs[i]? =some v):∃x,xs[i]? =some x/\VRel X v x:=by
 induction vs generalizing xs i with
 |nil=>simp at e
 |cons w vs ih=>
  cases h with
  |cons a b=>
   induction i using Nat.casesOn with
   |zero=>simp at e;subst e;exact⟨_,rfl,a⟩
   |succ i=>simp at e;simpa using ih b e
theorem VRels.set{X:Wd}{vs:List V}{xs:List Value}(h:VRels X vs xs){i:Nat}{v:V}{x:Value}(g:VRel X v x):VRels X (vs.set i v) (xs.set i x):=by
 induction vs generalizing xs i with
 |nil=>cases h;exact .nil
 |cons w vs ih=>
  cases h with
  |cons a b=>
   induction i using Nat.casesOn with
   |zero=>exact .cons g b
   |succ i=>exact .cons a (ih b)
theorem VRels.take{X:Wd}{vs:List V}{xs:List Value}(h:VRels X vs xs)(k:Nat):VRels X (vs.take k) (xs.take k):=by
 induction vs generalizing xs k with
 |nil=>cases h;simpa using .nil
 |cons w vs ih=>
  cases h with
  |cons a b=>induction k using Nat.casesOn with
   |zero=>exact .nil
   |succ k=>exact .cons a (ih b k)
theorem VRels.drop{X:Wd}{vs:List V}{xs:List Value}(h:VRels X vs xs)(k:Nat):VRels X (vs.drop k) (xs.drop k):=by
 induction vs generalizing xs k with
 |nil=>cases h;simpa using .nil
 |cons w vs ih=>
  induction k using Nat.casesOn with
  |zero=>exact h
  |succ k=>cases h with|cons a b=>exact ih b k
theorem VRels.replicate{X:Wd}{v:V}{x:Value}(h:VRel X v x)(k:Nat):VRels X (List.replicate k v) (List.replicate k x):=by
 induction k with
 |zero=>exact .nil
 |succ k ih=>exact .cons h ih
structure Cx where
 prog:Program
 w:World
 h₀:Heap
 os:OsState
 P:Prog
 K:Frag
 mg:Str->Option Value
 mb:Str->Option Value
 cls:Nat->Option Addr
 fns:Nat->Option Addr
noncomputable def ay(a:Nat):Str:=(attrN[a]?).getD ⟨#[]⟩
inductive FRel (C:Cx) (X:Wd):List (Nat×V)->List DictEntry->Prop
 |nil:FRel C X [] []
 |cons {a:Nat} {v:V} {x:Value} {t:Tok} {fs:List (Nat×V)} {es:List DictEntry}:(attrN[a]?).isSome=true->VRel X v x->FRel C X fs es->
  FRel C X ((a,v)::fs) (⟨PyData.keyHash C.w.params (ay a),.str (ay a) t,x⟩::es)
inductive KRel (X:Wd):List (List Nat×V)->List (Str×Value)->Prop
 |nil:KRel X [] []
 |cons {a:List Nat} {v:V} {x:Value} {fs:List (List Nat×V)} {es:List (Str×Value)}:VRel X v x->KRel X fs es->
  KRel X ((a,v)::fs) ((⟨a.toArray⟩,x)::es)
theorem FRel.mono{C:Cx}{X Y:Wd}(l:X.le Y){fs:List (Nat×V)}{es:List DictEntry}(h:FRel C X fs es):FRel C Y fs es:=by
 induction h with
 |nil=>exact .nil
 |cons a b _ ih=>exact .cons a (b.mono l) ih
theorem KRel.mono{X Y:Wd}(l:X.le Y){fs:List (List Nat×V)}{es:List (Str×Value)}(h:KRel X fs es):KRel Y fs es:=by
 induction h with
 |nil=>exact .nil
 |cons b _ ih=>exact .cons (b.mono l) ih
def rW(X:Wd)(h:Heap)(n:Nat)(ctx:Bool)(vs:Array Value):Prop:=
 vs.size=6/\(vs[1]? =some .none\/∃T oT ts,vs[1]? =some (.ref T)/\X.tag T=some (.part n)/\h.get? T=some oT/\oT.data=.fields ts/\3<ts.size)/\
  (ctx=false->vs[2]? =some .none)
def ORel(C:Cx)(X:Wd)(h:Heap)(a n:Nat):O->Prop
 |.list xs=>∃(vs:List Value)(k:Nat),h.get? a=some {cls:=.type "list",data:=.seq vs.toArray k}/\VRels X xs vs
 |.dict kvs=>∃es,h.DictOf (strKind C.prog C.w) a es/\KRel X kvs es
 |.inst c fs=>(C.P.excs[c]?).getD false=false/\∃Ca dx es k,C.cls c=some Ca/\h.get? a=some (instObj Ca dx)/\X.tag dx=some (.part n)/\h.get? dx=some (dictOf es k)/\FRel C X fs es
 |.exc c ctx fs=>(C.P.excs[c]?).getD false=true/\∃Ca dd vs,C.cls c=some Ca/\h.get? a=some {cls:=.ref Ca,dict:=dd,data:=.fields vs}/\rW X h n ctx vs/\
  (match dd with
   |none=>fs=[]
   |some dx=>X.tag dx=some (.part n)/\∃es k,h.get? dx=some (dictOf es k)/\FRel C X fs es)
structure Rel (C:Cx) (X:Wd) (C1:Hp) (s:Shared):Prop where
 fresh:∀a,s.heap.objs.size<=a->X.tag a=none
 frozen:∀a o,X.tag a=some (.frozen o)->s.heap.get? a=some o
 base:∀a o,C.h₀.get? a=some o->X.tag a=some (.frozen o)
 objs:∀n o,C1[n]? =some o->∃a,X.at_ n=some a/\X.tag a=some (.obj n)/\ORel C X s.heap a n o
 dom:∀n a,X.at_ n=some a->n<C1.length
 gens:s.gens= #[]
 os:s.os=C.os
 toks:0<s.toks
theorem Rel.keep{C:Cx}{X:Wd}{C1:Hp}{s:Shared}(R:Rel C X C1 s):∀b o,C.h₀.get? b=some o->s.heap.get? b=some o:=λb o e=>R.frozen b o (R.base b o e)
theorem Rel.lt{C:Cx}{X:Wd}{C1:Hp}{s:Shared}(R:Rel C X C1 s){a:Addr}{t:Tag}(h:X.tag a=some t):a<s.heap.objs.size:=by
 refine Gf λq=>?_
 rw[R.fresh a q]at h;exact bq h
abbrev fA:=Addr->Prop
noncomputable def aq:fA:=λ_=>False
structure Ext (C:Cx) (own:fA) (X:Wd) (h:Heap) (X':Wd) (C7:Hp) (s':Shared):Prop where
 le:X.le X'
 rel:Rel C X' C7 s'
 priv:∀a o,X.tag a=some .priv->¬own a->h.get? a=some o->∃sl,s'.heap.get? a=some {o with slots:=sl}
 size:h.objs.size<=s'.heap.objs.size
theorem Ext.refl{C:Cx}{own:fA}{X:Wd}{C1:Hp}{s:Shared}(R:Rel C X C1 s):Ext C own X s.heap X C1 s:=
 ⟨.refl X,R,λa o _ _ e=>⟨o.slots,e⟩,Dy _⟩
theorem Ext.trans{C:Cx}{own:fA}{X X1 X2:Wd}{mh1 mh2:Hp}{h:Heap}{s1 s2:Shared}(a:Ext C own X h X1 mh1 s1)(b:Ext C own X1 s1.heap X2 mh2 s2):Ext C own X h X2 mh2 s2:=
 ⟨a.le.trans b.le,b.rel,λx o ht hn e=>by
  refine aB (a.priv x o ht hn e) λsl e1=>?_
  refine aB (b.priv x _ (a.le.tag _ _ ht) hn e1) λsl' e₂=>?_
  exact⟨sl',e₂⟩,Dw a.size b.size⟩
theorem Ext.own{C:Cx}{own own':fA}{X X':Wd}{C7:Hp}{h:Heap}{s':Shared}(a:Ext C own X h X' C7 s')(l:∀x,own x->own' x):Ext C own' X h X' C7 s':=
 ⟨a.le,a.rel,λx o ht hn e=>a.priv x o ht (λq=>hn (l x q)) e,a.size⟩
theorem Ext.weak{C:Cx}{own:fA}{X X':Wd}{C7:Hp}{h:Heap}{s':Shared}(a:Ext C aq X h X' C7 s'):Ext C own X h X' C7 s':=a.own λ_ q=>q.elim
theorem ORel.keeps{C:Cx}{X Y:Wd}{h h':Heap}{a n:Nat}{o:O}(l:X.le Y)(ha:X.tag a=some (.obj n))
 (k:∀b ob,(X.tag b=some (.obj n)\/X.tag b=some (.part n))->h.get? b=some ob->h'.get? b=some ob)(r:ORel C X h a n o):ORel C Y h' a n o:=by
 cases o with
 |list xs=>refine aD r λvs m e q=>?_;clear r;exact⟨vs,m,k _ _ (.inl ha) e,q.mono l⟩
 |dict kvs=>refine ai r λes h'14 q=>?_;refine bQ h'14 λo ds ep e e2=>?_;clear h'14;clear r;exact⟨es,⟨o,ds,ep,k _ _ (.inl ha) e,e2⟩,q.mono l⟩
 |inst c fs=>refine mA r λc0 Ca dx es m c1 e t e2 q=>?_;clear r;exact⟨c0,Ca,dx,es,m,c1,k _ _ (.inl ha) e,l.tag _ _ t,k _ _ (.inr t) e2,q.mono l⟩
 |exc c ctx fs=>
  refine jQ r λc0 Ca dd vs c1 e h'15 q=>?_;refine cJ h'15 λx1 x2 x3=>?_;clear h'15;clear r
  refine⟨c0,Ca,dd,vs,c1,k _ _ (.inl ha) e,⟨x1,x2.imp id λz=>dT z λT oT ts y1 y2 y3 y4 y5=>⟨T,oT,ts,y1,l.tag _ _ y2,k _ _ (.inr y2) y3,y4,y5⟩,x3⟩,?_⟩
  induction dd using Option.casesOn with
  |none=>exact q
  |some dx=>refine e9 q λt es m e2 q2=>?_;clear q;exact⟨l.tag _ _ t,es,m,k _ _ (.inr t) e2,q2.mono l⟩
theorem Rel.turn{C:Cx}{X Y:Wd}{C1:Hp}{s s':Shared}(R:Rel C X C1 s)(l:X.le Y){n:Nat}{o':O}
 (hn:n<C1.length)
 (k:∀b ob t,X.tag b=some t->t≠.obj n->t≠.part n->t≠.priv->s.heap.get? b=some ob->s'.heap.get? b=some ob)
 (fr:∀a,s'.heap.objs.size<=a->Y.tag a=none)
 (fz:∀a o,Y.tag a=some (.frozen o)->X.tag a=some (.frozen o)\/s'.heap.get? a=some o)
 (ho:∀a,X.at_ n=some a->ORel C Y s'.heap a n o')
 (ha:∀m a,Y.at_ m=some a->X.at_ m=some a)
 (hg:s'.gens=s.gens)(hos:s'.os=s.os)(htk:0<s'.toks):Rel C Y (C1.set n o') s' where
 fresh:=fr
 frozen:=λa o h=>by
  rcases fz a o h with h|h
  ·exact k a o _ h (by intro q;cases q) (by intro q;cases q) (by intro q;cases q) (R.frozen a o h)
  ·exact h
 base:=λa o h=>l.tag _ _ (R.base a o h)
 objs:=λm o h=>by
  by_cases e:m=n
  ·subst e
   rw[DG hn]at h
   cases h
   refine bo (R.objs m _ (DI hn)) λa h1 h2 _=>?_
   exact⟨a,l.at_ _ _ h1,l.tag _ _ h2,ho a h1⟩
  ·rw[DB (Eb e)]at h
   refine bo (R.objs m o h) λa h1 h2 h3=>?_
   refine⟨a,l.at_ _ _ h1,l.tag _ _ h2,h3.keeps l h2 λb ob hb eb=>?_⟩
   rcases hb with hb|hb
   ·exact k b ob _ hb (by intro q;cases q;exact e rfl) (by intro q;cases q) (by intro q;cases q) eb
   ·exact k b ob _ hb (by intro q;cases q) (by intro q;cases q;exact e rfl) (by intro q;cases q) eb
 dom:=λm a h=>by(exists FN);exact R.dom m a (ha m a h)
 gens:=hg.trans R.gens
 os:=hos.trans R.os
 toks:=htk
theorem Rel.still{C:Cx}{X Y:Wd}{C1:Hp}{s s':Shared}(R:Rel C X C1 s)(l:X.le Y)
 (k:∀b ob t,X.tag b=some t->t≠.priv->s.heap.get? b=some ob->s'.heap.get? b=some ob)
 (fr:∀a,s'.heap.objs.size<=a->Y.tag a=none)
 (fz:∀a o,Y.tag a=some (.frozen o)->X.tag a=some (.frozen o)\/s'.heap.get? a=some o)
 (ha:∀m a,Y.at_ m=some a->X.at_ m=some a)
 (hg:s'.gens=s.gens)(hos:s'.os=s.os)(htk:0<s'.toks):Rel C Y C1 s' where
 fresh:=fr
 frozen:=λa o h=>by
  rcases fz a o h with h|h
  ·exact k a o _ h (by intro q;cases q) (R.frozen a o h)
  ·exact h
 base:=λa o h=>l.tag _ _ (R.base a o h)
 objs:=λm o h=>by
  refine bo (R.objs m o h) λa h1 h2 h3=>?_
  refine⟨a,l.at_ _ _ h1,l.tag _ _ h2,h3.keeps l h2 λb ob hb eb=>?_⟩
  rcases hb with hb|hb
  ·exact k b ob _ hb (by intro q;cases q) eb
  ·exact k b ob _ hb (by intro q;cases q) eb
 dom:=λm a h=>R.dom m a (ha m a h)
 gens:=hg.trans R.gens
 os:=hos.trans R.os
 toks:=htk
theorem Rel.snoc{C:Cx}{X Y:Wd}{C1:Hp}{s:Shared}(R:Rel C X C1 s)(l:X.le Y){o:O}{a:Addr}
 (hx:∀b t,Y.tag b=some t->X.tag b=some t\/(X.tag b=none/\b<s.heap.objs.size/\∀ob,t≠.frozen ob))
 (hat:∀m b,Y.at_ m=some b->X.at_ m=some b\/(m=C1.length/\b=a))
 (h1:Y.at_ C1.length=some a)(h2:Y.tag a=some (.obj C1.length))(h3:ORel C Y s.heap a C1.length o):Rel C Y (C1++[o]) s where
 fresh:=λb hb=>by
  cases e:Y.tag b with
  |none=>rfl
  |some t=>
   rcases hx b t e with h|h
   ·rw[R.fresh b hb]at h;exact bq h
   ·exact absurd h.2.1 (FD.mpr hb)
 frozen:=λb ob hb=>by
  rcases hx b _ hb with h|h
  ·exact R.frozen b ob h
  ·exact absurd rfl (h.2.2 ob)
 base:=λa o h=>l.tag _ _ (R.base a o h)
 objs:=λm o' h=>by
  by_cases e:m<C1.length
  ·rw[EV e]at h
   refine bo (R.objs m o' h) λb y1 y2 y3=>?_
   exact⟨b,l.at_ _ _ y1,l.tag _ _ y2,y3.keeps l y2 λ_ _ _ e=>e⟩
  ·rw[FT (Ew e)]at h
   have:m-C1.length=0:=by
    cases q:m-C1.length with
    |zero=>rfl
    |succ k=>rw[q]at h;simp at h
   have em:m=C1.length:=DJ (Nat.le_of_sub_eq_zero this) (Ew e)
   subst em
   simp at h;subst h
   exact⟨a,h1,h2,h3⟩
 dom:=λm b h=>by
  exists D0
  rcases hat m b h with h|h
  ·exact DA (R.dom m b h) (Ey _ _)
  ·exists(h.1);simp
 gens:=R.gens
 os:=R.os
 toks:=R.toks
noncomputable def Wd.put(X:Wd)(a:Addr)(t:Tag):Wd:=⟨λb=>if b=a then some t else X.tag b,X.at_⟩
theorem Wd.put_le{X:Wd}{a:Addr}{t:Tag}(h:X.tag a=none):X.le (X.put a t):=
 ⟨λb t' e=>by show(if b=a then some t else X.tag b)=some t';(exists(if_neg (λq=>by rw[q,h]at e;cases e)));exact e,λ_ _ e=>e⟩
theorem Wd.put_self{X:Wd}{a:Addr}{t:Tag}:(X.put a t).tag a=some t:=if_pos rfl
theorem Wd.put_ne{X:Wd}{a b:Addr}{t:Tag}(h:b≠a):(X.put a t).tag b=X.tag b:=if_neg h
noncomputable def Wd.name(X:Wd)(n:Nat)(a:Addr):Wd:=⟨X.tag,λm=>if m=n then some a else X.at_ m⟩
theorem Wd.name_le{X:Wd}{n:Nat}{a:Addr}(h:X.at_ n=none):X.le (X.name n a):=
 ⟨λ_ _ e=>e,λm b e=>by show(if m=n then some a else X.at_ m)=some b;(exists(if_neg (λq=>by rw[q,h]at e;cases e)));exact e⟩
theorem Wd.name_self{X:Wd}{n:Nat}{a:Addr}:(X.name n a).at_ n=some a:=if_pos rfl
theorem Rel.free{C:Cx}{X:Wd}{C1:Hp}{s:Shared}(R:Rel C X C1 s):X.at_ C1.length=none:=by
 cases e:X.at_ C1.length with
 |none=>rfl
 |some a=>exact absurd (R.dom _ _ e) (Gb _)
section
variable{C:Cx}{own:fA}{X:Wd}{C1:Hp}{s:Shared}
theorem Ext.grown(R:Rel C X C1 s){h':Heap}{tk:Nat}(htk:0<tk)(k:∀b o,s.heap.get? b=some o->h'.get? b=some o)(hs:s.heap.objs.size<=h'.objs.size):
 Ext C own X s.heap X C1 {s with heap:=h',toks:=tk}:=
 ⟨.refl X,R.still (.refl X) (λb ob _ _ _ e=>k b ob e) (λa ha=>R.fresh a (Dw hs ha)) (λ_ _ e=>.inl e) (λ_ _ e=>e) rfl rfl htk,λa o _ _ e=>⟨o.slots,k a o e⟩,hs⟩
theorem Ext.toks(R:Rel C X C1 s){tk:Nat}(htk:0<tk):Ext C own X s.heap X C1 {s with toks:=tk}:=Ext.grown R htk (λ_ _ e=>e) (Dy _)
theorem Ext.freeze(R:Rel C X C1 s){h':Heap}{tk:Nat}{a:Addr}{o:Obj}(htk:0<tk)(k:∀b o,s.heap.get? b=some o->h'.get? b=some o)(hs:s.heap.objs.size<=h'.objs.size)
 (hn:s.heap.objs.size<=a)(ho:h'.get? a=some o):
 Ext C own X s.heap (X.put a (.frozen o)) C1 {s with heap:=h',toks:=tk}:=by
 have hf:=R.fresh a hn
 refine⟨Wd.put_le hf,R.still (Wd.put_le hf) (λb ob _ _ _ e=>k b ob e) (λb hb=>?_) (λb o' e=>?_) (λ_ _ e=>e) rfl rfl htk,λa o _ _ e=>⟨o.slots,k a o e⟩,hs⟩
 ·exists(Wd.put_ne (λq=>by subst q;exact absurd (EU ho) (FD.mpr hb)))
  exact R.fresh b (Dw hs hb)
 ·by_cases q:b=a
  ·subst q;rw[Wd.put_self]at e;cases e;exact .inr ho
  ·rw[Wd.put_ne q]at e;exact .inl e
theorem Ext.hide(R:Rel C X C1 s){h':Heap}{tk:Nat}{a:Addr}{o:Obj}(htk:0<tk)(k:∀b o,s.heap.get? b=some o->h'.get? b=some o)(hs:s.heap.objs.size<=h'.objs.size)
 (hn:s.heap.objs.size<=a)(ho:h'.get? a=some o):
 Ext C own X s.heap (X.put a .priv) C1 {s with heap:=h',toks:=tk}:=by
 have hf:=R.fresh a hn
 refine⟨Wd.put_le hf,R.still (Wd.put_le hf) (λb ob _ _ _ e=>k b ob e) (λb hb=>?_) (λb o' e=>?_) (λ_ _ e=>e) rfl rfl htk,λa o _ _ e=>⟨o.slots,k a o e⟩,hs⟩
 ·exists(Wd.put_ne (λq=>by subst q;exact absurd (EU ho) (FD.mpr hb)))
  exact R.fresh b (Dw hs hb)
 ·by_cases q:b=a
  ·subst q;rw[Wd.put_self]at e;cases e
  ·rw[Wd.put_ne q]at e;exact .inl e
theorem Ext.make(R:Rel C X C1 s){h':Heap}{tk:Nat}{a:Addr}{ob:Obj}{o:O}(htk:0<tk)(k:∀b o,s.heap.get? b=some o->h'.get? b=some o)(hs:s.heap.objs.size<=h'.objs.size)
 (hn:s.heap.objs.size<=a)(ho:h'.get? a=some ob)
 (r:∀Y:Wd,X.le Y->Y.tag a=some (.obj C1.length)->ORel C Y h' a C1.length o):
 Ext C own X s.heap ((X.put a (.obj C1.length)).name C1.length a) (C1++[o]) {s with heap:=h',toks:=tk}/\VRel ((X.put a (.obj C1.length)).name C1.length a) (.ref C1.length) (.ref a):=by
 have hf:=R.fresh a hn
 have l1:X.le (X.put a (.obj C1.length)):=Wd.put_le hf
 have l2:(X.put a (.obj C1.length)).le ((X.put a (.obj C1.length)).name C1.length a):=Wd.name_le (show X.at_ C1.length=none from R.free)
 have G:Ext C own X s.heap X C1 {s with heap:=h',toks:=tk}:=Ext.grown R htk k hs
 refine⟨⟨l1.trans l2,G.rel.snoc (l1.trans l2) (a:=a) (λb t e=>?_) (λm b e=>?_) Wd.name_self Wd.put_self (r _ (l1.trans l2) Wd.put_self),λa o _ _ e=>⟨o.slots,k a o e⟩,hs⟩,.ref _ _ Wd.name_self⟩
 ·by_cases q:b=a
  ·subst q
   have:(X.put b (.obj C1.length)).tag b=some t:=e
   rw[Wd.put_self]at this;cases this
   exact .inr ⟨hf,EU ho,λ_ q=>by cases q⟩
  ·have:(X.put a (.obj C1.length)).tag b=some t:=e
   rw[Wd.put_ne q]at this;exact .inl this
 ·have:(if m=C1.length then some a else X.at_ m)=some b:=e
  split at this
  ·cases this;exact .inr ⟨by assumption,rfl⟩
  ·exact .inl this
end
theorem iO{M:Model}{Γ:Ctx}{p:Pos}{t:Sem Fin}{fs:List Frame}{s:Shared}{e:End}{s':Shared}(h:Runs M Γ p t fs s e s'):s.toks<=s'.toks:=by
 induction h with
 |fresh _ ih=>exact Dw (Ee _) ih
 |call _ _ a b=>exact Dw a b
 |resumeFresh _ _ _ _ a b=>exact Dw a b
 |resumeSuspended _ _ _ _ a b=>exact Dw a b
 |segRet _ _ a b=>exact Dw a b
 |segGen _ _ a b=>exact Dw a b
 |segSuspGen _ _ _ _ a b=>exact Dw a b
 |done=>exact Dy _
 |raise=>exact Dy _
 |yield=>exact Dy _
 |_=>assumption
theorem xo{α:Type}{M:Model}{Γ:Ctx}{n:Nat}:∀(t:Sem α){Q:α->Pos->Shared->Prop}{E:Value->Pos->Shared->Prop}{p:Pos}{s:Shared},n<=s.toks->
 Sem.wp M Γ t (λa p s'=>n<=s'.toks->Q a p s') (λe p s'=>n<=s'.toks->E e p s') p s->Sem.wp M Γ t Q E p s:=by
 intro t
 induction t with
 |pure a=>intro Q E p s hn h;exact h hn
 |raise e=>intro Q E p s hn h;exact h hn
 |unsupported _=>intro Q E p s hn h;exact h
 |finish _=>intro Q E p s hn h;exact h
 |rule _ k ih=>intro Q E p s hn h;exact ih () hn h
 |«at» _ k ih=>intro Q E p s hn h;exact ih () hn h
 |load a _ k ih=>intro Q E p s hn h;refine ai h λo h1 h2=>?_;clear h;exact⟨o,h1,ih o hn h2⟩
 |update a _ f k ih=>intro Q E p s hn h;exact⟨h.1,ih () hn h.2⟩
 |loadIfAlive a k ih=>intro Q E p s hn h;exact ih _ hn h
 |point _ k ih=>intro Q E p s hn h;exact ih () hn h
 |register _ k ih=>intro Q E p s hn h;exact h
 |alloc o k ih=>intro Q E p s hn h;exact ih _ hn h
 |fresh k ih=>intro Q E p s hn h;exact ih _ (Er hn) h
 |ask k ih=>intro Q E p s hn h;exact ih _ hn h
 |choose src n k ih=>intro Q E p s hn h;exact⟨h.1,ih _ hn h.2⟩
 |os q _ k ih=>intro Q E p s hn h;exact ih _ hn h
 |call c hd _ _ k ih=>
  intro Q E p s hn h
  refine aD h λr s' h1 h2=>?_;clear h
  exact⟨r,s',h1,ih r (Dw hn (iO h1)) h2⟩
 |handled own k ih=>intro Q E p s hn h;exact ih _ hn h
 |genState g k ih=>intro Q E p s hn h;refine ai h λo h1 h2=>?_;clear h;exact⟨o,h1,ih _ hn h2⟩
 |newGen c k ih=>intro Q E p s hn h;exact ih _ hn h
 |resume g r _ k ih=>
  intro Q E p s hn h
  refine aD h λres s' h1 h2=>?_;clear h
  refine⟨res,s',h1,ih res (Dw hn ?_) h2⟩
  unfold Wakes at h1
  split at h1
  ·exact h1.elim
  ·split at h1
   ·refine bL h1 λe1 s1 a _ _ e'1=>?_;subst e'1;clear h1;have q:=iO a;exact q
   ·exists(h1.2);exact Dy _
   ·exists(h1.2);exact Dy _
  ·refine bL h1 λe1 s1 a _ _ e'2=>?_;subst e'2;clear h1;have q:=iO a;exact q
  ·exists(h1.2);exact Dy _
  ·exists(h1.2);exact Dy _
 |yield _ _ _ _ ih=>intro Q E p s hn h;exact h
 |stack k ih=>intro Q E p s hn h;exact ih _ hn h
 |fork _ _ ih=>intro Q E p s hn h;exact h
 |thread k ih=>intro Q E p s hn h;exact ih _ hn h
 |await _ _ _ _ _ ih=>intro Q E p s hn h;exact h
theorem bp{α:Type}{M:Model}{A:Around}{t:Sem α}{Q:α->Shared->Prop}{E:Value->Shared->Prop}{s:Shared}
 (h:wpAny M A t (λv s'=>s.toks<=s'.toks->Q v s') (λe s'=>s.toks<=s'.toks->E e s') s):wpAny M A t Q E s:=
 λΓ p hΓ=>xo t (Dy _) (h Γ p hΓ)
theorem iP{M:Model}{Γ:Ctx}{p:Pos}{t:Sem Fin}{fs:List Frame}{s:Shared}{e:End}{s':Shared}(h:Runs M Γ p t fs s e s'):s.heap.objs.size<=s'.heap.objs.size:=by
 induction h with
 |update _ _ ih=>exact Dw (DK (DL ..).symm) ih
 |alloc _ ih=>exact Dw (Gm (by rw[DM];exact Gg _)) ih
 |call _ _ a b=>exact Dw a b
 |resumeFresh _ _ _ _ a b=>exact Dw a b
 |resumeSuspended _ _ _ _ a b=>exact Dw a b
 |segRet _ _ a b=>exact Dw a b
 |segGen _ _ a b=>exact Dw a b
 |segSuspGen _ _ _ _ a b=>exact Dw a b
 |done=>exact Dy _
 |raise=>exact Dy _
 |yield=>exact Dy _
 |_=>assumption
theorem xq{α:Type}{M:Model}{Γ:Ctx}{n:Nat}:∀(t:Sem α){Q:α->Pos->Shared->Prop}{E:Value->Pos->Shared->Prop}{p:Pos}{s:Shared},n<=s.heap.objs.size->
 Sem.wp M Γ t (λa p s'=>n<=s'.heap.objs.size->Q a p s') (λe p s'=>n<=s'.heap.objs.size->E e p s') p s->Sem.wp M Γ t Q E p s:=by
 intro t
 induction t with
 |pure a=>intro Q E p s hn h;exact h hn
 |raise e=>intro Q E p s hn h;exact h hn
 |unsupported _=>intro Q E p s hn h;exact h
 |finish _=>intro Q E p s hn h;exact h
 |rule _ k ih=>intro Q E p s hn h;exact ih () hn h
 |«at» _ k ih=>intro Q E p s hn h;exact ih () hn h
 |load a _ k ih=>intro Q E p s hn h;refine ai h λo h1 h2=>?_;clear h;exact⟨o,h1,ih o hn h2⟩
 |update a _ f k ih=>intro Q E p s hn h;exact⟨h.1,ih () (Dw hn (DK (DL ..).symm)) h.2⟩
 |loadIfAlive a k ih=>intro Q E p s hn h;exact ih _ hn h
 |point _ k ih=>intro Q E p s hn h;exact ih () hn h
 |register _ k ih=>intro Q E p s hn h;exact h
 |alloc o k ih=>intro Q E p s hn h;exact ih _ (Dw hn (Gm (by rw[DM];exact Gg _))) h
 |fresh k ih=>intro Q E p s hn h;exact ih _ hn h
 |ask k ih=>intro Q E p s hn h;exact ih _ hn h
 |choose src n k ih=>intro Q E p s hn h;exact⟨h.1,ih _ hn h.2⟩
 |os q _ k ih=>intro Q E p s hn h;exact ih _ hn h
 |call c hd _ _ k ih=>
  intro Q E p s hn h
  refine aD h λr s' h1 h2=>?_;clear h
  exact⟨r,s',h1,ih r (Dw hn (iP h1)) h2⟩
 |handled own k ih=>intro Q E p s hn h;exact ih _ hn h
 |genState g k ih=>intro Q E p s hn h;refine ai h λo h1 h2=>?_;clear h;exact⟨o,h1,ih _ hn h2⟩
 |newGen c k ih=>intro Q E p s hn h;exact ih _ hn h
 |resume g r _ k ih=>
  intro Q E p s hn h
  refine aD h λres s' h1 h2=>?_;clear h
  refine⟨res,s',h1,ih res (Dw hn ?_) h2⟩
  unfold Wakes at h1
  split at h1
  ·exact h1.elim
  ·split at h1
   ·refine bL h1 λe1 s1 a _ _ e'3=>?_;subst e'3;clear h1;have q:=iP a;exact q
   ·exists(h1.2);exact Dy _
   ·exists(h1.2);exact Dy _
  ·refine bL h1 λe1 s1 a _ _ e'4=>?_;subst e'4;clear h1;have q:=iP a;exact q
  ·exists(h1.2);exact Dy _
  ·exists(h1.2);exact Dy _
 |yield _ _ _ _ ih=>intro Q E p s hn h;exact h
 |stack k ih=>intro Q E p s hn h;exact ih _ hn h
 |fork _ _ ih=>intro Q E p s hn h;exact h
 |thread k ih=>intro Q E p s hn h;exact ih _ hn h
 |await _ _ _ _ _ ih=>intro Q E p s hn h;exact h
theorem bD{α:Type}{M:Model}{A:Around}{t:Sem α}{Q:α->Shared->Prop}{E:Value->Shared->Prop}{s:Shared}
 (h:wpAny M A t (λv s'=>s.heap.objs.size<=s'.heap.objs.size->Q v s') (λe s'=>s.heap.objs.size<=s'.heap.objs.size->E e s') s):wpAny M A t Q E s:=
 λΓ p hΓ=>xq t (Dy _) (h Γ p hΓ)
def fy(C1:Hp)(n:Nat):Prop:=∃c x fs,C1[n]? =some (.exc c x fs)
structure Ob (C:Cx) (own:fA) (X:Wd) (h:Heap) {α β:Type} (rel:Wd->α->β->Prop) (r:R α) (Q:β->Shared->Prop) (E:Value->Shared->Prop):Prop where
 ok:∀v C7,r=.ok v C7->∀X' s' v',Ext C own X h X' C7 s'->rel X' v v'->Q v' s'
 exc:∀n C7,r=.exc n C7->∀X' s' a,Ext C own X h X' C7 s'->X'.at_ n=some a->fy C7 n->E (.ref a) s'
 no:r≠.no
def Sim(C:Cx)(A:Around)(X:Wd)(s:Shared){α β:Type}(rel:Wd->α->β->Prop)(r:R α)(t:Sem β):Prop:=
 ∀(Q:β->Shared->Prop)(E:Value->Shared->Prop),Ob C aq X s.heap rel r Q E->wpAny (model C.prog C.w) A t Q E s
section
variable{C:Cx}{own:fA}{X X1:Wd}{C1 mh1:Hp}{h:Heap}{s s1:Shared}{A:Around}{α β γ δ:Type}{rel:Wd->α->β->Prop}{rel':Wd->γ->δ->Prop}
 {r:R α} {f:α->Hp->R γ} {Q:δ->Shared->Prop} {E:Value->Shared->Prop}
theorem Ob.next{v:α}(o:Ob C own X h rel' (r.bind f) Q E)(e:r=.ok v mh1)(x:Ext C own X h X1 mh1 s1):Ob C own X1 s1.heap rel' (f v mh1) Q E:=
 ⟨λw C7 q X' s' w' x'=>o.ok w C7 (by(exists e);exact q) X' s' w' (x.trans x'),λn C7 q X' s' a x'=>o.exc n C7 (by(exists e);exact q) X' s' a (x.trans x'),λq=>o.no (by(exists e);exact q)⟩
theorem Sim.then{t:Sem β}{P:β->Shared->Prop}(hS:Sim C A X s rel r t)(o:Ob C aq X s.heap rel' (r.bind f) Q E)
 (k:∀v mh1,r=.ok v mh1->∀X1 s1 v1,Ext C aq X s.heap X1 mh1 s1->rel X1 v v1->Ob C aq X1 s1.heap rel' (f v mh1) Q E->P v1 s1):wpAny (model C.prog C.w) A t P E s:=
 hS P E ⟨λv C1 e X1 s1 v1 x r1=>k v C1 e X1 s1 v1 x r1 (o.next e x),λn C1 e X1 s1 a x ha=>o.exc n C1 (by(exists e);rfl) X1 s1 a x ha,λq=>o.no (by(exists q);rfl)⟩
theorem Ob.fin{v:α}{v':β}{Q:β->Shared->Prop}(o:Ob C own X h rel (.ok v mh1) Q E)(x:Ext C own X h X1 mh1 s1)(r:rel X1 v v'):Q v' s1:=o.ok v mh1 rfl X1 s1 v' x r
theorem Ob.absurd{P:Prop}{Q:β->Shared->Prop}(o:Ob C own X h rel .no Q E):P:=(o.no rfl).elim
end
def zV(X:Wd)(h:Heap)(CS:PySem.Env)(m:Str->Option Value)(x:Str)(v:V):Prop:=
 ∃v',VRel X v v'/\((CS.kindOf x=some .local/\m x=some v')\/(CS.kindOf x=some .cell/\∃c,CS.cells.lookup x=some c/\h.IsCell c (some v')))
structure ERel (X:Wd) (h:Heap) (C3:Scope) (C2:List (Option Str)) (CT:Env) (CS:PySem.Env):Prop where
 hsc:CS.scope=C3
 hkind:C3.kind=.function
 hglob:CS.globals=mainGlobals
 hblt:CS.builtins=builtinsNs
 htag:X.tag CS.locals=some .priv
 hns:∃m,h.Ns CS.locals m/\∀(i:Nat)(x:Str)(v:V),C2[i]? =some (some x)->CT[i]? =some (some v)->zV X h CS m x v
 hinj:∀(i j:Nat)(x:Str),C2[i]? =some (some x)->C2[j]? =some (some x)->i=j
 hcells:∀x c,CS.cells.lookup x=some c->X.tag c=some .priv/\c≠CS.locals/\∃v,h.IsCell c v
 hapart:∀x y c,CS.cells.lookup x=some c->CS.cells.lookup y=some c->x=y
 hcell:∀(i:Nat)(x:Str),C2[i]? =some (some x)->aJ C3 x .cell=true->∃c,CS.cells.lookup x=some c
theorem jZ{h h':Heap}{a:Addr}{m:Str->Option Value}(n:h.Ns a m)(k:∀o,h.get? a=some o->∃sl,h'.get? a=some {o with slots:=sl}):h'.Ns a m:=by
 refine du n λo es ep e d r=>?_;clear n
 refine aB (k o e) λsl e'=>?_
 exact⟨_,es,ep,e',d,r⟩
theorem fh{h h':Heap}{a:Addr}{v:Option Value}(n:h.IsCell a v)(k:∀o,h.get? a=some o->∃sl,h'.get? a=some {o with slots:=sl}):h'.IsCell a v:=by
 refine ai n λo e d=>?_;clear n
 refine aB (k o e) λsl e'=>?_
 exact⟨_,e',d⟩
theorem ERel.ext{C:Cx}{X X':Wd}{h:Heap}{C7:Hp}{s':Shared}{C3:Scope}{C2:List (Option Str)}{CT:Env}{CS:PySem.Env}(e:ERel X h C3 C2 CT CS)
 (x:Ext C aq X h X' C7 s'):ERel X' s'.heap C3 C2 CT CS where
 hsc:=e.hsc
 hkind:=e.hkind
 hglob:=e.hglob
 hblt:=e.hblt
 htag:=x.le.tag _ _ e.htag
 hns:=by
  refine ai e.hns λm hn hs=>?_
  refine⟨m,jZ hn λo ho=>x.priv _ o e.htag (λq=>q) ho,λi y v h1 h2=>?_⟩
  refine ai (hs i y v h1 h2) λv' r q=>?_
  refine⟨v',r.mono x.le,q.imp id λz=>gK z λk c hc hcell=>⟨k,c,hc,fh hcell λo ho=>x.priv _ o (e.hcells _ _ hc).1 (λq=>q) ho⟩⟩
 hinj:=e.hinj
 hcells:=λy c hc=>by
  refine eJ (e.hcells y c hc) λt n v hcell=>?_
  exact⟨x.le.tag _ _ t,n,v,fh hcell λo ho=>x.priv _ o t (λq=>q) ho⟩
 hapart:=e.hapart
 hcell:=e.hcell
structure FOk (C:Cx) (A:Around) (d:Dp) (X:Wd) (h:Heap) (CW:PySem.Env):Prop where
 frames:∃outer,A.frames=some (CW::outer)/\∀e∈CW::outer,e.scope.kind≠.module/\∃L o es n,e.frame=some L/\X.tag L=some .priv/\h.get? L=some o/\o.data=.dict es n
 depth:A.depth+4*d.1+4<recursionLimit
 units:A.units+40*d.1+40<cLine
 hnone:d.2=none->A.handled=none
 hsome:∀n,d.2=Option.some n->∃a,A.handled=Option.some (.ref a)/\X.at_ n=Option.some a
theorem FOk.ext{C:Cx}{A:Around}{d:Dp}{X X':Wd}{h:Heap}{C7:Hp}{s':Shared}{CW:PySem.Env}(e:FOk C A d X h CW){own:fA}(x:Ext C own X h X' C7 s')
 (ho:∀L,own L->∃o es n,s'.heap.get? L=Option.some o/\o.data=.dict es n\/(∀e∈(A.frames.getD []),e.frame≠Option.some L)):FOk C A d X' s'.heap CW where
 frames:=by
  refine ai e.frames λouter e1 e2=>?_
  refine⟨outer,e1,λf hf=>?_⟩
  refine ed (e2 f hf) λk L o es n h1 h2 h3 h4=>?_
  refine⟨k,L,?_⟩
  by_cases hL:own L
  ·obtain⟨o',es',n',q|q⟩:=ho L hL
   ·exact⟨o',es',n',h1,x.le.tag _ _ h2,q.1,q.2⟩
   ·exact absurd h1 (q f (by(exists e1);exact hf))
  ·refine aB (x.priv L o h2 hL h3) λsl q=>?_
   exact⟨_,es,n,h1,x.le.tag _ _ h2,q,h4⟩
 depth:=e.depth
 units:=e.units
 hnone:=e.hnone
 hsome:=λn hn=>by refine ai (e.hsome n hn) λa h1 h2=>?_;exact⟨a,h1,x.le.at_ _ _ h2⟩
theorem FOk.ext0{C:Cx}{A:Around}{d:Dp}{X X':Wd}{h:Heap}{C7:Hp}{s':Shared}{CW:PySem.Env}(e:FOk C A d X h CW)(x:Ext C aq X h X' C7 s'):FOk C A d X' s'.heap CW:=
 e.ext x λ_ q=>q.elim
structure CxOk (C:Cx):Prop where
 kin:C.K.In C.h₀
 ns:C.h₀.Ns mainGlobals C.mg
 nb:C.h₀.Ns builtinsNs C.mb
 lim:C.h₀.NoLimit
 blt:∀x:Str,x≠"__name__"->C.mb x=bootBuiltins x
 bnames:∀b:BI,C.mg (Str.ofString b.real)=none
 consts:∀(i:Nat)(v:V)(x:Str),C.P.consts[i]? =some v->mN[i]? =some x->∃v',C.mg x=some v'/\∀X:Wd,(∀a o,C.h₀.get? a=some o->X.tag a=some (.frozen o))->VRel X v v'
section
variable{C:Cx}{A:Around}{X:Wd}{C1:Hp}{s:Shared}{C3:Scope}{C2:List (Option Str)}{CT:Env}{CS:PySem.Env}
theorem qb{x:Str}{pos:Pos}{i:Nat}{v:V}{Q:Value->Shared->Prop}{E:Value->Shared->Prop}(e:ERel X s.heap C3 C2 CT CS)(h1:C2[i]? =some (some x)) (h2:CT[i]? =some (some v))
 (hd:(x==("__debug__":Str))=false) (h:∀v',VRel X v v'->Q v' s):wpAny (model C.prog C.w) A (eval (.Name x pos) CS) Q E s:=by
 refine ai e.hns λm hn hs=>?_
 refine ai (hs i x v h1 h2) λv' r q=>?_
 refine wpAny_Name ?_ hd
 rcases q with⟨k,hm⟩|⟨k,c,hc,hcell⟩
 ·exact GW (by(exists e.hsc);exact e.hkind) k hn hm (h v' r)
 ·exact G6 (by(exists e.hsc);exact e.hkind) k hc hcell (h v' r)
theorem qd{x:Str}{i:Nat}{v:V}{Q:Value->Shared->Prop}{E:Value->Shared->Prop}(e:ERel X s.heap C3 C2 CT CS)(h1:C2[i]? =some (some x)) (h2:CT[i]? =some (some v))
 (h:∀v',VRel X v v'->Q v' s):wpAny (model C.prog C.w) A (loadName CS x) Q E s:=by
 refine ai e.hns λm hn hs=>?_
 refine ai (hs i x v h1 h2) λv' r q=>?_
 rcases q with⟨k,hm⟩|⟨k,c,hc,hcell⟩
 ·exact GW (by(exists e.hsc);exact e.hkind) k hn hm (h v' r)
 ·exact G6 (by(exists e.hsc);exact e.hkind) k hc hcell (h v' r)
theorem oq{x:Str}(h:cU C3 x=true):C3.names.lookup x=some .globalImplicit/\(x==("__debug__":Str))=false:=by
 unfold cU aJ cX at h
 simp only[Bool.and_eq_true,beq_iff_eq,Bool.not_eq_true']at h
 exact h
theorem dy(K:CxOk C)(R:Rel C X C1 s){x:Str}{pos:Pos}{v:Value}{Q:Value->Shared->Prop}{E:Value->Shared->Prop}(e:ERel X s.heap C3 C2 CT CS)(hg:cU C3 x=true)
 (hv:C.mg x=some v)(h:Q v s):wpAny (model C.prog C.w) A (eval (.Name x pos) CS) Q E s:=by
 refine aA (oq hg) λh1 h2=>?_
 refine H7 (by(exists e.hsc);exact e.hkind) (by unfold PySem.Env.kindOf;(exists e.hsc);exact h1) (Calls.loadGlobal_global (mg:=C.mg) ?_ hv h) h2
 exists e.hglob;exact K.ns.keeps R.keep
theorem hM(K:CxOk C)(R:Rel C X C1 s){x:Str}{pos:Pos}{v:Value}{Q:Value->Shared->Prop}{E:Value->Shared->Prop}(e:ERel X s.heap C3 C2 CT CS)(hg:cU C3 x=true)
 (hm:C.mg x=none)(hb:bootBuiltins x=some v)(hx:x≠"__name__")(h:Q v s):wpAny (model C.prog C.w) A (eval (.Name x pos) CS) Q E s:=by
 refine aA (oq hg) λh1 h2=>?_
 refine H7 (by(exists e.hsc);exact e.hkind) (by unfold PySem.Env.kindOf;(exists e.hsc);exact h1) (Calls.loadGlobal_builtin (mg:=C.mg) (mb:=C.mb) ?_ hm ?_ ((K.blt x hx).trans hb) h) h2
 ·exists e.hglob;exact K.ns.keeps R.keep
 ·rw[e.hblt];exact K.nb.keeps R.keep
end
theorem dZ{a:Int}(h:small a=true):Builtin.Int.intBits a<=64:=by
 have h':a.natAbs<=18446744073709551615:=DF h
 unfold Builtin.Int.intBits
 split
 ·exact FG _
 ·rename_i hz
  have:a.natAbs≠0:=by simpa using hz
  have:=(H8 this).mpr (show a.natAbs<2^64 by exact EB h')
  exact FY this
set_option exponentiation.threshold 600 in
theorem uU{a:Int}(h:gh a=true):Builtin.Int.intBits a<=513:=by
 have h':a.natAbs<=2^512:=DF h
 unfold Builtin.Int.intBits
 split
 ·exact FG _
 ·rename_i hz
  have:a.natAbs≠0:=by simpa using hz
  have:=(H8 this).mpr (show a.natAbs<2^513 by
   have e:(2:Nat)^513=2^512*2:=Nat.pow_succ 2 512
   have p:0<(2:Nat)^512:=Nat.pow_pos (by exact DC _)
   generalize(2:Nat)^512=z at*
   generalize(2:Nat)^513=y at*
   lia)
  exact FY this
theorem fO{a b:Int}(h:small b=true):Builtin.divisionGoesByPylong a b=false:=by
 refine PyProof.noPylong_of_log2 ?_
 have:=dZ h
 unfold Builtin.Int.intBits at this
 split at this
 ·rename_i q
  have:b=0:=by simpa using q
  subst this
  decide+kernel
 ·exact Es (aT this rfl)
theorem aK{n:Nat}(h:ae n=true):n<=100000:=DF h
section
variable{C:Cx}{A:Around}{X:Wd}{C1:Hp}{s:Shared}{Q:Value->Shared->Prop}{E:Value->Shared->Prop}{own:fA}
theorem lQ{op:BOp}{a b:Int}{t u:Tok}(R:Rel C X C1 s)(o:Ob C own X s.heap VRel (ba op (.int a) (.int b) C1) Q E):
 wpAny (model C.prog C.w) A (binaryOp op.real (.int a t) (.int b u)) Q E s/\wpAny (model C.prog C.w) A (inplaceOp op.real (.int a t) (.int b u)) Q E s:=by
 have fin:∀{i:Int},ba op (.int a) (.int b) C1=.ok (.int i) C1->Q (.int i s.toks) {s with toks:=s.toks+1}:=λe=>by
  rw[e]at o;exact o.fin (Ext.toks R (DC _)) (.int _ _)
 cases op with
 |add=>
  have q:=fin (i:=a+b) rfl
  constructor
  ·with_reducible refine PyProof.Rows.add_int ?_;exact q
  ·with_reducible refine PyProof.Rows.iadd_int ?_;exact q
 |sub=>
  have q:=fin (i:=a-b) rfl
  constructor
  ·with_reducible refine PyProof.Rows.sub_int ?_;exact q
  ·with_reducible refine PyProof.Rows.isub_int ?_;exact q
 |mul=>
  by_cases h:(small a||small b)=true
  ·have hm:IntMulOk a b:=by
    rcases Ig.mp h with h|h
    ·exact .of_left (dZ h)
    ·exact .of_right (dZ h)
   have q:=fin (i:=a*b) (if_pos h)
   constructor
   ·with_reducible refine PyProof.Rows.mul_int ?_ hm;exact q
   ·with_reducible refine PyProof.Rows.imul_int ?_ hm;exact q
  ·exact absurd (show ba .mul (.int a) (.int b) C1=.no from if_neg h) o.no
 |fdiv=>
  by_cases h:(b !=0&&small b)=true
  ·have h':=DW.mp h
   have hb:b≠0:=by simpa using h'.1
   have q:=fin (i:=a.fdiv b) (if_pos h)
   constructor
   ·with_reducible refine PyProof.Rows.floordiv_int hb ?_ (.inl (fO h'.2));exact q
   ·with_reducible refine PyProof.Rows.ifloordiv_int hb ?_ (.inl (fO h'.2));exact q
  ·exact absurd (show ba .fdiv (.int a) (.int b) C1=.no from if_neg h) o.no
 |mod=>
  by_cases h:(b !=0)=true
  ·have hb:b≠0:=by simpa using h
   have q:=fin (i:=a.fmod b) (if_pos h)
   constructor
   ·with_reducible refine PyProof.Rows.mod_int' hb ?_;exact q
   ·with_reducible refine PyProof.Rows.imod_int hb ?_;exact q
  ·exact absurd (show ba .mod (.int a) (.int b) C1=.no from if_neg h) o.no
 |lsh=>
  by_cases h:(0<=b&&decide (b<=1000)&&gh a)=true
  ·have h':=h
   simp only[Bool.and_eq_true,decide_eq_true_eq]at h'
   have hz:(Builtin.Int.intBits a:Int)+b<=2^27:=by have:=uU h'.2;lia
   have q:=fin (i:=a*2^b.toNat) (if_pos h)
   constructor
   ·with_reducible refine PyProof.Rows.lshift_int h'.1.1 hz ?_;exact q
   ·with_reducible refine PyProof.Rows.ilshift_int h'.1.1 hz ?_;exact q
  ·exact absurd (show ba .lsh (.int a) (.int b) C1=.no from if_neg h) o.no
 |rsh=>
  by_cases h:0<=b
  ·have q:=fin (i:=a.fdiv (2^b.toNat)) (if_pos h)
   constructor
   ·with_reducible refine PyProof.Rows.rshift_int h ?_;exact q
   ·with_reducible refine PyProof.Rows.irshift_int h ?_;exact q
  ·exact absurd (show ba .rsh (.int a) (.int b) C1=.no from if_neg h) o.no
 |band=>
  have q:=fin (i:=Builtin.bitAnd a b) rfl
  constructor
  ·with_reducible refine PyProof.Rows.and_int ?_;exact q
  ·with_reducible refine PyProof.Rows.iand_int ?_;exact q
 |bor=>
  have q:=fin (i:=Builtin.bitOr a b) rfl
  constructor
  ·with_reducible refine PyProof.Rows.or_int ?_;exact q
  ·with_reducible refine PyProof.Rows.ior_int ?_;exact q
 |bxor=>
  have q:=fin (i:=Builtin.bitXor a b) rfl
  constructor
  ·with_reducible refine PyProof.Rows.xor_int ?_;exact q
  ·with_reducible refine PyProof.Rows.ixor_int ?_;exact q
 |pow=>
  by_cases h:(0<=b&&decide (b<=1000)&&small a)=true
  ·have h':=h
   simp only[Bool.and_eq_true,decide_eq_true_eq]at h'
   have hz:(Builtin.Int.intBits a:Int)*b<=2^27:=by
    have q:=dZ h'.2
    have:(Builtin.Int.intBits a:Int)*b<=64*1000:=Int.mul_le_mul (by exact ao [Nat.cast (PySem.Builtin.Int.intBits a)] [(.le (.v 0) (.n 64),1)] (.le (.v 0) (.n 64)) 1 rfl (Dm.mpr q)) h'.1.2 h'.1.1 (by exact ao [] [] (.le (.n 0) (.n 64)) 1 rfl)
    exact FA this (by decide)
   have q:=fin (i:=a^b.toNat) (if_pos h)
   constructor
   ·with_reducible refine PyProof.Rows.pow_int h'.1.1 hz ?_;exact q
   ·with_reducible refine PyProof.Rows.ipow_int h'.1.1 hz ?_;exact q
  ·exact absurd (show ba .pow (.int a) (.int b) C1=.no from if_neg h) o.no
theorem rX(a b:List Nat):((⟨a.toArray⟩:Str)++(⟨b.toArray⟩:Str))=⟨(a++b).toArray⟩:=by
 show(⟨a.toArray++b.toArray⟩:Str)=_
 rw[Ih]
theorem bB(a:List Nat):(⟨a.toArray⟩:Str).length=a.length:=by simp[Str.length]
theorem lS{op:BOp}{a b:List Nat}{t u:Tok}(R:Rel C X C1 s)(o:Ob C own X s.heap VRel (ba op (.str a) (.str b) C1) Q E):
 wpAny (model C.prog C.w) A (binaryOp op.real (.str ⟨a.toArray⟩ t) (.str ⟨b.toArray⟩ u)) Q E s/\wpAny (model C.prog C.w) A (inplaceOp op.real (.str ⟨a.toArray⟩ t) (.str ⟨b.toArray⟩ u)) Q E s:=by
 cases op with
 |add=>
  by_cases h:ae (a.length+b.length)=true
  ·have hl:=aK h
   have e:ba .add (.str a) (.str b) C1=.ok (.str (a++b)) C1:=if_pos h
   rw[e]at o
   have q:∀t' tk,s.toks<=tk->Q (.str ((⟨a.toArray⟩:Str)++(⟨b.toArray⟩:Str)) t') {s with toks:=tk}:=λt' tk htk=>by rw[rX];exact o.fin (Ext.toks R (DA R.toks htk)) (.str _ _)
   have z:(⟨a.toArray⟩:Str).length+(⟨b.toArray⟩:Str).length<=sizeLine:=by rw[bB,bB,D7];exact aT hl rfl
   exact⟨bp (PyProof.Rows.add_str (λt' tk h=>q t' tk h) z),bp (PyProof.Rows.iadd_str (λt' tk h=>q t' tk h) z)⟩
  ·exact absurd (show ba .add (.str a) (.str b) C1=.no from if_neg h) o.no
 |_=>exact o.absurd
end
section
variable{C:Cx}{A:Around}{X:Wd}{C1:Hp}{s:Shared}{own:fA}
theorem Rel.list{n:Nat}{xs:List V}{a:Addr}(R:Rel C X C1 s)(h:C1[n]? =some (.list xs)) (ha:X.at_ n=some a):
 ∃(vs:List Value)(k:Nat),s.heap.get? a=some {cls:=.type "list",data:=.seq vs.toArray k}/\VRels X xs vs:=by
 refine bo (R.objs n _ h) λb h1 _ h3=>?_
 rw[ha]at h1;cases h1
 exact h3
theorem aI{h:Heap}{a:Addr}{vs:List Value}{k:Nat}(e:h.get? a=some {cls:=.type "list",data:=.seq vs.toArray k}):h.IsList a vs.toArray:=⟨_,e,rfl,k,rfl⟩
theorem iQ{v:V}{v':Value}{b:Bool}{Q:Bool->Shared->Prop}{E:Value->Shared->Prop}(R:Rel C X C1 s)(r:VRel X v v')(e:aO v C1=some b)
 (h:∀tk,0<tk->Q b {s with toks:=tk}):wpAny (model C.prog C.w) A (truthy v') Q E s:=by
 induction r using VRel.casesOn with
 |none=>cases e;exact λ_ _ _=>h _ R.toks
 |bool c=>cases e;exact λ_ _ _=>h _ R.toks
 |int i t=>
  cases e
  have q:=h _ R.toks
  with_reducible refine PyProof.Rows.truthy_int ?_
  exact q
 |str x t=>
  unfold aO at e
  dsimp only at e
  split at e
  ·rename_i hl
   have hl:=aK hl
   cases e
   have q:=h (s.toks+1+1) (DC _)
   with_reducible refine PySem.P.truthy_str ?_ ?_
   ·rw[bB];exact Em.mpr (ao [x.length] [(.le (.v 0) (.n 100000),1)] (.lt (.v 0) (.n 9223372036854775808)) 1 rfl (Dm.mpr hl))
   ·have z:(((⟨x.toArray⟩:Str).length:Int) !=0)= !x.isEmpty:=by
     rw[bB]
     induction x using List.casesOn with
     |nil=>rfl
     |cons a r=>simp only[List.length_cons,List.isEmpty_cons,Bool.not_false,bne_iff_ne,ne_eq];exact Int.ofNat_ne_zero.mpr (Ff _)
    exists z;exact q
  ·exact bq e
 |ref n a hn=>
  unfold aO at e
  dsimp only at e
  generalize hx:C1[n]? =o at e
  induction o using O1 with
   |none=>exact bq e
   |inst=>exact bq e
   |dict=>exact bq e
   |exc=>exact bq e
   |list xs=>
    refine dite (ae xs.length=true) (λhl=>?_) (λhl=>bq ((if_neg hl).symm.trans e))
    replace e:=D1 ((if_pos hl).symm.trans e);subst e
    have hl:=aK hl
    refine aD (R.list hx hn) λvs k h1 h2=>?_
    have q:=h (s.toks+1+1) (DC _)
    with_reducible refine wpAny_truthy_list (aI h1) ?_ ?_
    ·exists DV;refine bt h2.length ?_;exact ao [xs.length] [(.le (.v 0) (.n 100000),1)] (.lt (.v 0) (.n 9223372036854775808)) 1 rfl (Dm.mpr hl)
    ·have z:(!vs.toArray.isEmpty)= !xs.isEmpty:=by
      have:=h2.length
      cases xs<;>cases vs<;>simp_all
     exists z;exact q
 |tup _ _ _ _=>exact bq e
 |rng _ _ _ _=>exact bq e
theorem gu{a b:List Nat}(h:(⟨a.toArray⟩:Str)=⟨b.toArray⟩):a=b:=by
 injection h with h
 exact List.toArray_inj h
theorem mV(a b:List Nat):((⟨a.toArray⟩:Str)==⟨b.toArray⟩)=(a==b):=by
 exists(propext EX),(propext DQ),(propext DQ)
 exact⟨gu,λh=>by(exists h;rfl)⟩
theorem xr(a b:List Nat):((⟨a.toArray⟩:Str) !=⟨b.toArray⟩)= !(a==b):=by
 show(!((⟨a.toArray⟩:Str)==⟨b.toArray⟩))=_
 rw[mV]
theorem sZ{xs:List V}{vs:List Value}(r:VRels X xs vs){s':List Nat}{b:Bool}(h:cK s' xs=some b):
 ∃ys:List Str,StrsAre vs ys/\ys.any (·==⟨s'.toArray⟩)=b:=by
 induction xs generalizing vs b with
 |nil=>cases r;cases h;exact⟨[],.nil,rfl⟩
 |cons x xs ih=>
  cases r with
  |cons r1 r2=>
   induction r1 using VRel.casesOn with
   |str t tk=>
    refine ai (EC.mp h) λc hc e'1=>?_;subst e'1
    refine ai (ih r2 hc) λys h1 h2=>?_
    refine⟨⟨t.toArray⟩::ys,.cons _ _ h1,?_⟩
    exists ER,h2
    congr 1
    exact mV _ _
   |_=>exact bq h
noncomputable def ot(k:Bool):Value->Bool
 |.bool b=>b==k
 |_=>false
theorem xt{vs:List Value}{p:Value->Bool}:vs.toArray.any p=vs.any p:=by(refine bt FF ?_;rfl)
theorem mW(a b:Bool):MeetsSeq.EqGives (.bool a) (.bool b) (a==b):=λprog w A E s Q h=>by
 unfold eqBool
 refine DT ?_
 by_cases q:a=b
 ·subst q
  exists(if_pos (by simp))
  refine Dn (wpAny_rule (Dv ?_))
  simpa using h
 ·exists(if_neg (by simpa using q))
  have z:=H9 (prog:=prog) (w:=w) (A:=A) (E:=E) (s:=s) (c:=a) (d:=b) (Q:=λv s'=>wpAny (model prog w) A (truthOfDropped v) Q E s')
   (by show wpAny _ _ (truthy (.bool (a==b))) _ _ _;exact λ_ _ _=>h)
  exact Dn z
theorem qe{xs:List V}{vs:List Value}(r:VRels X xs vs){k:Bool}{b:Bool}(h:eg k xs=some b):
 (∀y∈vs,MeetsSeq.EqGives y (.bool k) (ot k y))/\vs.any (ot k)=b:=by
 induction xs generalizing vs b with
 |nil=>cases r;cases h;exact And.intro (λ_ m=>by cases m) rfl
 |cons x xs ih=>
  cases r with
  |cons r1 r2=>
   induction r1 using VRel.casesOn with
   |bool t=>
    refine ai (EC.mp h) λc hc e'2=>?_;subst e'2
    refine aA (ih r2 hc) λh1 h2=>?_
    refine And.intro (λy hy=>?_) (by(exists ER,h2);rfl)
    rcases Eo.mp hy with rfl|hy
    ·exact mW t k
    ·exact h1 y hy
   |_=>exact bq h
theorem xu{x y:V}{x' y':Value}{b:Bool}{Q:Value->Shared->Prop}{E:Value->Shared->Prop}(R:Rel C X C1 s)(rx:VRel X x x')(ry:VRel X y y')(e:Bq x y=some b)(h:Q (.bool b) s):
 wpAny (model C.prog C.w) A (compareOp .Eq x' y') Q E s:=by
 induction rx using VRel.casesOn with
 |int i t=>induction ry using VRel.casesOn with
  |int j u=>cases e;with_reducible refine PyProof.Rows.eq_int ?_;exact h
  |_=>exact bq e
 |str i t=>induction ry using VRel.casesOn with
  |str j u=>
   cases e
   with_reducible refine PyProof.Rows.eq_str ?_
   rw[mV];exact h
  |_=>exact bq e
 |bool i=>induction ry using VRel.casesOn with
  |bool j=>cases e;with_reducible refine H9 ?_;exact h
  |_=>exact bq e
 |_=>exact bq e
theorem xw{x y:V}{x' y':Value}{b:Bool}{Q:Value->Shared->Prop}{E:Value->Shared->Prop}(R:Rel C X C1 s)(rx:VRel X x x')(ry:VRel X y y')(e:(Bq x y).map (!·)=some b)(h:Q (.bool b) s):
 wpAny (model C.prog C.w) A (compareOp .NotEq x' y') Q E s:=by
 induction rx using VRel.casesOn with
 |int i t=>induction ry using VRel.casesOn with
  |int j u=>
   cases e
   with_reducible refine PyProof.Rows.ne_int ?_
   have z:(i !=j)= !(i==j):=by cases q:(i==j)<;>simp_all
   exists z;exact h
  |_=>exact bq e
 |str i t=>induction ry using VRel.casesOn with
  |str j u=>
   cases e
   with_reducible refine PyProof.Rows.ne_str ?_
   rw[xr];exact h
  |_=>exact bq e
 |bool i=>induction ry using VRel.casesOn with
  |bool j=>
   cases e
   with_reducible refine PyProof.Rows.ne_bool ?_
   have z:(i !=j)= !(i==j):=by cases q:(i==j)<;>simp_all
   exists z;exact h
  |_=>exact bq e
 |_=>exact bq e
end
end
section
open PySem PySem.W PySem.Calls PyProof.Rows PySem.SeqAt
section
variable{C:Cx}{A:Around}{X:Wd}{C1:Hp}{s:Shared}{own:fA}
theorem Rel.apart{n m:Nat}{o:O}{a b:Addr}(R:Rel C X C1 s)(h:C1[n]? =some o) (h':n≠m) (ha:X.at_ n=some a) (hb:X.at_ m=some b):a≠b:=by
 intro e
 subst e
 refine bo (R.objs n _ h) λa' h1 h2 _=>?_
 rw[ha]at h1;cases h1
 obtain⟨o2,h3⟩:∃o2,C1[m]? =some o2:=⟨_,DI (R.dom m _ hb)⟩
 refine bo (R.objs m _ h3) λb' h4 h5 _=>?_
 rw[hb]at h4;cases h4
 rw[h2]at h5;injection h5 with h5;injection h5 with h5;exact h' h5
theorem jb{A:Around}{s:Shared}{X:Wd}{xs ys:List V}{vs ws:List Value}(e:dw xs ys=true)(r:VRels X xs vs)(q:VRels X ys ws):
 vs.length=ws.length/\∀(j:Nat)(x y:Value),vs[j]? =some x->ws[j]? =some y->EqAt A s x y true:=by
 induction xs generalizing ys vs ws with
 |nil=>induction ys using List.casesOn with
  |nil=>cases r;cases q;exact⟨rfl,λj x y h=>by simp at h⟩
  |cons y ys=>exact aC e
 |cons x xs ih=>induction ys using List.casesOn with
  |nil=>induction x using V.casesOn<;>exact aC e
  |cons y ys=>
   cases r with
   |cons r1 r2=>cases q with
    |cons q1 q2=>
     induction r1 using VRel.casesOn with
     |int a t=>cases q1 with
      |int b u=>
       have e':(a==b&&dw xs ys)=true:=e
       rw[DY]at e'
       have eab:a=b:=D2 e'.1
       subst eab
       refine aA (ih e'.2 r2 q2) λh1 h2=>?_
       refine⟨by simp[h1],λj x y hx hy=>?_⟩
       induction j using Nat.casesOn with
       |zero=>
        simp at hx hy
        subst hx hy
        have:=EqAt.int_int (A:=A) (s:=s) a t a u
        rwa[show(a==a)=true from DO a]at this
       |succ j=>simp at hx hy;exact h2 j x y hx hy
      |_=>exact aC e
     |_=>exact aC e
theorem xy{x y:V}{x' y':Value}{Q:Value->Shared->Prop}{E:Value->Shared->Prop}(R:Rel C X C1 s)(hu:A.units+40<cLine)(rx:VRel X x x')(ry:VRel X y y')(e:fc x y C1=true)(h:Q (.bool true) s):
 wpAny (model C.prog C.w) A (compareOp .Eq x' y') Q E s:=by
 induction rx using VRel.casesOn with
 | @tup vs items a o k hta htc htd hr=>
  induction ry using VRel.casesOn with
  | @tup ws items2 b o2 k2 hta2 htc2 htd2 hr2=>
   induction hr using VRels.casesOn with
   |nil=>exact aC e
   | @cons v1 x1 vs vs' r1 rr=>
    induction r1 using VRel.casesOn with
    |ref n an hn=>
     induction hr2 using VRels.casesOn with
     |nil=>exact aC e
     | @cons w1 y1 ws ws' q1 qq=>
      cases q1 with
      |ref m am hm=>
       unfold fc at e
       dsimp only at e
       generalize hx:C1[n]? =ox at e
       generalize hy:C1[m]? =oy at e
       induction ox using O1 with
       |list xs=>induction oy using O1 with
        |list ys=>
         refine xh e λe1 e2 e3 e4 e5=>?_;clear e
         have hnm:n≠m:=by simpa using e1
         have hne:=R.apart hx hnm hn hm
         refine aD (R.list hx hn) λl1 k1 g1 z1=>?_
         refine aD (R.list hy hm) λl2 k2' g2 z2=>?_
         have F1:=jb (A:=A.in1.in1) (s:=s) e2 z1 z2
         have F2:=jb (A:=A.in1) (s:=s) e3 rr qq
         have hT1:s.heap.IsTuple a (Value.ref an::vs').toArray:=⟨_,R.frozen _ _ hta,htc,_,htd⟩
         have hT2:s.heap.IsTuple b (Value.ref am::ws').toArray:=⟨_,R.frozen _ _ hta2,htc2,_,htd2⟩
         have hE0:EqAt A.in1 s (.ref an) (.ref am) true:=by
          refine EqAt.of_refs hne ?_
          have q:=RcAt.lists (A:=A.in1) (e:=λ_=>true) (aI g1) (aI g2) (by simpa using F1.1) (show A.units+1<cLine by exact Dt.mp (ao [A.units,PySem.cLine] [(.lt (.a (.v 0) (.n 40)) (.v 1),1)] (.lt (.a (.v 0) (.n 1)) (.v 1)) 1 rfl (Dt.mpr hu)))
           (λj h1 h2=>F1.2 j _ _ (by simp at h1⊢) (by simp at h2⊢))
          rwa[show(List.range l1.toArray.size).all (λ_=>true)=true from DE.mpr λ_ _=>rfl]at q
         refine eq_tupleAt (e:=λ_=>true) hT1 hT2 (by exact Dt.mp (ao [A.units,PySem.cLine] [(.lt (.a (.v 0) (.n 40)) (.v 1),1)] (.lt (.v 0) (.v 1)) 1 rfl (Dt.mpr hu))) (λj h1 h2=>?_) ?_
         ·induction j using Nat.casesOn with
          |zero=>exact hE0
          |succ j=>exact F2.2 j _ _ (by simp at h1⊢) (by simp at h2⊢)
         ·have:((List.range (min (Value.ref an::vs').toArray.size (Value.ref am::ws').toArray.size)).all (λ_=>true)&&(Value.ref an::vs').toArray.size==(Value.ref am::ws').toArray.size)=true:=by
           rw[DY]
           exact⟨DE.mpr λ_ _=>rfl,by simp[F2.1]⟩
          exists this;exact h
        |none=>exact aC e
        |inst=>exact aC e
        |dict=>exact aC e
        |exc=>exact aC e
       |none=>exact aC e
       |inst=>exact aC e
       |dict=>exact aC e
       |exc=>exact aC e
      |_=>exact aC e
    |_=>exact aC e
  |_=>induction vs using List.casesOn with
   |nil=>exact aC e
   |cons v vs=>induction v using V.casesOn<;>exact aC e
 |_=>exact aC e
theorem j0{X:Wd}{kvs:List (List Nat×V)}{es:List (Str×Value)}(r:KRel X kvs es)(x:List Nat):
 (cL x kvs=none/\valueAt es ⟨x.toArray⟩=none)\/∃v v',cL x kvs=some v/\valueAt es ⟨x.toArray⟩=some v'/\VRel X v v':=by
 induction r with
 |nil=>exact .inl ⟨rfl,rfl⟩
 | @cons a v y fs es hv hr ih=>
  by_cases q:a=x
  ·subst q
   exact .inr ⟨v,y,by simp[cL],by simp[valueAt],hv⟩
  ·have q1:(a==x)=false:=by simpa using q
   have q2:¬((⟨a.toArray⟩:Str)=⟨x.toArray⟩):=λz=>q (gu z)
   have e1:cL x ((a,v)::fs)=cL x fs:=by simp[cL,q1]
   have e2:valueAt (((⟨a.toArray⟩:Str),y)::es) ⟨x.toArray⟩=valueAt es ⟨x.toArray⟩:=by
    unfold valueAt
    rw[EP (by simpa using q2)]
   rw[e1,e2];exact ih
theorem dK{C:Cx}(x:List Nat)(t:Tok):(PySem.strKind C.prog C.w).is ⟨x.toArray⟩ (.str ⟨x.toArray⟩ t)=true:=DO (⟨x.toArray⟩:Str)
theorem uV{X:Wd}{C1:Hp}{s:Shared}(K:CxOk C)(R:Rel C X C1 s){n:Nat}{o:O}{a:Addr}(h:C1[n]? =some o) (ha:X.at_ n=some a) {b:Addr} {ob:Obj} (hb:C.h₀.get? b=some ob):a≠b:=by
 intro e
 subst e
 refine bo (R.objs n _ h) λa' h1 h2 _=>?_
 rw[ha]at h1;cases h1
 rw[R.base _ _ hb]at h2;cases h2
inductive InC (h:Hp):V->V->Bool->Prop
 |sign (c:Nat) (v:List Nat):InC h (.str [c]) (.str v) (v.contains c)
 |lst (u:List Nat) (n:Nat) (xs:List V) (b:Bool):h[n]? =some (.list xs)->cK u xs=some b->InC h (.str u) (.ref n) b
 |dict (u:List Nat) (n:Nat) (kvs:List (List Nat×V)):h[n]? =some (.dict kvs)->InC h (.str u) (.ref n) (cL u kvs).isSome
 |bools (k:Bool) (n:Nat) (xs:List V) (b:Bool):h[n]? =some (.list xs)->eg k xs=some b->InC h (.bool k) (.ref n) b
theorem iR{u:List Nat}{n:Nat}{h:Hp}{b:Bool}(e:(match h[n]? with|some (.list xs)=>cK u xs|some (.dict kvs)=>some (cL u kvs).isSome|_=>none)=some b):InC h (.str u) (.ref n) b:=by
 generalize hx:h[n]? =o at e
 induction o using O1 with
 |list xs=>exact .lst u n xs b hx e
 |dict kvs=>exact bt (D1 e) (.dict u n kvs hx)
 |none=>exact bq e
 |inst=>exact bq e
 |exc=>exact bq e
theorem uW{x y:V}{h:Hp}{b:Bool}(e:isin x y h=some b):InC h x y b:=by
 induction x using V.casesOn with
 |str u=>induction y using V.casesOn with
  |str v=>induction u using List.casesOn with
   |nil=>exact bq e
   |cons c r=>induction r using List.casesOn with
    |nil=>(refine bt (D1 e) ?_);exact .sign c v
    |cons=>exact bq e
  |ref n=>induction u using List.casesOn with
   |nil=>exact iR e
   |cons c r=>induction r using List.casesOn with
    |nil=>exact iR e
    |cons=>exact iR e
  |_=>induction u using List.casesOn with
   |nil=>exact bq e
   |cons c r=>induction r using List.casesOn with
    |nil=>exact bq e
    |cons=>exact bq e
 |bool k=>induction y using V.casesOn with
  |ref n=>
   replace e:(match h[n]? with|some (.list xs)=>eg k xs|_=>none)=some b:=e
   generalize hx:h[n]? =o at e
   induction o using O1 with
   |list xs=>exact .bools k n xs b hx e
   |none=>exact bq e
   |dict=>exact bq e
   |inst=>exact bq e
   |exc=>exact bq e
  |_=>exact bq e
 |_=>induction y using V.casesOn<;>exact bq e
theorem uX{x y:V}{x' y':Value}{b:Bool}{Q:Value->Shared->Prop}{E:Value->Shared->Prop}(K:CxOk C)(R:Rel C X C1 s)(rx:VRel X x x')(ry:VRel X y y')(e:isin x y C1=some b)
 (hsys:∃o,C.h₀.get? sysModules=some o):
 ((∀tk,0<tk->Q (.bool b) {s with toks:=tk})->wpAny (model C.prog C.w) A (compareOp .In x' y') Q E s)/\((∀tk,0<tk->Q (.bool (!b)) {s with toks:=tk})->wpAny (model C.prog C.w) A (compareOp .NotIn x' y') Q E s):=by
 have I:=uW e
 clear e
 induction I using InC.casesOn with
 |sign c v=>
  refine aB rx.strI λt e'4=>?_;subst e'4
  refine aB ry.strI λt2 e'5=>?_;subst e'5
  have q:(!(Builtin.Str.occurrences (⟨v.toArray⟩:Str) ⟨[c].toArray⟩ 0 (⟨v.toArray⟩:Str).length 1).isEmpty)=v.contains c:=by
   refine(StrLaws.found_one _ c).trans ?_
   simp
  refine bt q ?_
  exact⟨λh=>PySem.P.in_str (h _ R.toks),λh=>PySem.P.notIn_str (h _ R.toks)⟩
 |lst u n xs b hx e=>
  refine aB rx.strI λt e'6=>?_;subst e'6
  refine ai ry.refI λa e'7 hn=>?_;subst e'7
  refine aD (R.list hx hn) λvs k h1 h2=>?_
  refine ai (sZ h2 e) λys h3 h4=>?_
  subst h4
  exact⟨λh=>PyProof.Rows.in_list_strs (aI h1) h3 (h _ R.toks),λh=>PyProof.Rows.notin_list_strs (aI h1) h3 (h _ R.toks)⟩
 |dict u n kvs hx=>
  refine aB rx.strI λt e'8=>?_;subst e'8
  refine ai ry.refI λa e'9 hn=>?_;subst e'9
  refine gW (R.objs n _ hx) λa' h1 h2 es h3 h4=>?_
  obtain rfl:=D1 (hn.symm.trans h1)
  refine aB hsys λso hso=>?_;clear hsys
  have hne:(a==sysModules)=false:=by simpa using uV K R hx hn hso
  have hv:(valueAt es ⟨u.toArray⟩).isSome=(cL u kvs).isSome:=by
   rcases j0 h4 u with⟨a1,a2⟩|⟨_,_,a1,a2,_⟩<;>(exists a1,a2)<;>rfl
  refine bt hv ?_
  exact⟨λh=>wpAny_in_of (knd:=PySem.strKind C.prog C.w) (dK u t) hne h3.mapOf (h _ (DC _)),λh=>wpAny_notIn_of (knd:=PySem.strKind C.prog C.w) (dK u t) hne h3.mapOf (h _ (DC _))⟩
 |bools k n xs b hx e=>
  obtain rfl:=rx.boolI
  refine ai ry.refI λa e'10 hn=>?_;subst e'10
  refine aD (R.list hx hn) λvs k h1 h2=>?_
  refine aA (qe h2 e) λh3 h4=>?_
  subst h4
  rw[<-xt]
  exact⟨λh=>SeqInW.in_listW _ (λy hy=>h3 y (by simpa using hy)) (aI h1) (h _ R.toks),λh=>SeqInW.notIn_listW _ (λy hy=>h3 y (by simpa using hy)) (aI h1) (h _ R.toks)⟩
theorem gw{op:COp}{x y:V}{x' y':Value}{b:Bool}{Q:Value->Shared->Prop}{E:Value->Shared->Prop}(K:CxOk C)(R:Rel C X C1 s)(hu:A.units+40<cLine)(rx:VRel X x x')(ry:VRel X y y')(e:fG op x y C1=some b)
 (hsys:∃o,C.h₀.get? sysModules=some o)(h:∀tk,0<tk->Q (.bool b) {s with toks:=tk}):wpAny (model C.prog C.w) A (compareOp op.real x' y') Q E s:=by
 have h0:=h _ R.toks
 cases op with
 |eq=>
  replace e:(match Bq x y with|some b=>some b|none=>if fc x y C1 then some true else none)=some b:=e
  split at e
  ·rename_i c hc
   cases e
   exact xu R rx ry hc h0
  ·split at e
   ·rename_i hc
    cases e
    exact xy R hu rx ry hc h0
   ·exact bq e
 |ne=>exact xw R rx ry e h0
 |lt=>induction rx using VRel.casesOn with
  |int a t=>induction ry using VRel.casesOn with
   |int c u=>cases e;with_reducible refine PyProof.Rows.lt_int ?_;exact h0
   |_=>exact bq e
  |_=>exact bq e
 |le=>induction rx using VRel.casesOn with
  |int a t=>induction ry using VRel.casesOn with
   |int c u=>cases e;with_reducible refine PyProof.Rows.le_int ?_;exact h0
   |_=>exact bq e
  |_=>exact bq e
 |gt=>induction rx using VRel.casesOn with
  |int a t=>induction ry using VRel.casesOn with
   |int c u=>cases e;with_reducible refine PyProof.Rows.gt_int ?_;exact h0
   |_=>exact bq e
  |_=>exact bq e
 |ge=>induction rx using VRel.casesOn with
  |int a t=>induction ry using VRel.casesOn with
   |int c u=>cases e;with_reducible refine PyProof.Rows.ge_int ?_;exact h0
   |_=>exact bq e
  |_=>exact bq e
 |is=>induction ry using VRel.casesOn with
  |none=>
   with_reducible refine PyProof.Rows.is_none_gen ?_
   induction rx using VRel.casesOn<;>(obtain rfl:=D1 e;exact h0)
  |_=>exact bq e
 |isnot=>induction ry using VRel.casesOn with
  |none=>
   with_reducible refine PyProof.Rows.isnot_none_gen ?_
   induction rx using VRel.casesOn<;>(obtain rfl:=D1 e;exact h0)
  |_=>exact bq e
 |isin=>exact(uX K R rx ry e hsys).1 h
 |notin=>
  refine ai (EC.mp e) λc hc e'11=>?_;subst e'11
  exact(uX K R rx ry hc hsys).2 h
theorem xz{v:V}{v':Value}{b:Bool}{Q:Value->Shared->Prop}{E:Value->Shared->Prop}(R:Rel C X C1 s)(r:VRel X v v')(e:aO v C1=some b)
 (h:∀tk,0<tk->Q (.bool (!b)) {s with toks:=tk}):wpAny (model C.prog C.w) A (unaryOp .Not v') Q E s:=by
 with_reducible refine PyProof.Rows.not_of ?_
 exact iQ R r e h
end
section
variable{C:Cx}{A:Around}{X:Wd}{C1:Hp}{s:Shared}{own:fA}
theorem VRels.getI{X:Wd}{vs:List V}{xs:List Value}(h:VRels X vs xs){k:Int}{v:V}(e:vs[k.toNat]? =some v):∃x,xs.toArray[k.toNat]? =some x/\VRel X v x:=by
 refine ai (h.get e) λx h1 h2=>?_
 exact⟨x,by simpa using h1,h2⟩
theorem uY{α:Type}{xs:List α}{k:Int}{v:α}{n:Nat}(h0:0<=k)(e:xs[k.toNat]? =some v) (hl:xs.length<=n):k<n:=by
 obtain⟨h,_⟩:=Dr.mp e
 exact ao [k,n,k.toNat,xs.length] [(.lt (.v 2) (.v 3),1),(.le (.v 3) (.v 1),1),(.le (.v 0) (.v 2),1)] (.lt (.v 0) (.v 1)) 1 rfl (Dt.mpr h) (Dm.mpr hl) (FZ _)
theorem qf{k:Int}{n:Nat}(h0:0<=k)(h:k<n):seqIndex? k n=some k.toNat:=by
 unfold seqIndex?
 have:¬k<0:=by exact Ez.mpr h0
 simp[this,h0,h]
theorem qg{k:Int}{n:Nat}(h0:0<=(if 0<=k then k else k+n))(h:(if 0<=k then k else k+n).toNat<n):seqIndex? k n=some (if 0<=k then k else k+n).toNat:=by
 unfold seqIndex?
 by_cases q:0<=k
 ·have q':¬k<0:=by exact Ez.mpr q
  rw[if_pos q]at h h0⊢
  have:k<n:=by exact ao [k,n,k.toNat] [(.lt (.v 2) (.v 1),1),(.le (.v 0) (.v 2),1)] (.lt (.v 0) (.v 1)) 1 rfl (Dt.mpr h) (FZ _)
  simp[q',q,this]
 ·have q':k<0:=by exact Em.mp q
  rw[if_neg q]at h h0⊢
  simp only[if_pos q']
  have:k+n<n:=by exact ao [k,n] [(.lt (.v 0) (.n 0),1)] (.lt (.a (.v 0) (.v 1)) (.v 1)) 1 rfl q'
  rw[if_pos];simp;exact And.intro h0 this
theorem jc{o i:V}{o' i':Value}{Q:Value->Shared->Prop}{E:Value->Shared->Prop}(R:Rel C X C1 s)(ro:VRel X o o')(ri:VRel X i i')
 (ob:Ob C own X s.heap VRel (getitem o i C1) Q E):wpAny (model C.prog C.w) A (getItem o' i') Q E s:=by
 unfold getitem at ob
 induction ro using VRel.casesOn with
 |ref n a hn=>
  induction ri using VRel.casesOn with
  |int k u=>
   dsimp only at ob
   split at ob
   ·rename_i xs hx
    split at ob
    ·rename_i h0
     split at ob
     ·rename_i v hv
      split at ob
      ·rename_i hl
       have hl:=aK hl
       refine aD (R.list hx hn) λvs kk h1 h2=>?_
       refine ai (h2.getI hv) λx h3 h4=>?_
       have q:=ob.fin (Ext.refl R) h4
       with_reducible refine wpAny_getItem_list (aI h1) h0 ?_ h3 ?_
       ·have:=uY h0 hv hl;exact ES this (by decide)
       ·exact q
      ·exact ob.absurd
     ·exact ob.absurd
    ·exact ob.absurd
   ·exact ob.absurd
  |str x t=>
   dsimp only at ob
   split at ob
   ·rename_i kvs hx
    split at ob
    ·rename_i v hv
     refine gW (R.objs n _ hx) λa' h1 h2 es h3 h4=>?_
     rw[hn]at h1;cases h1
     rcases j0 h4 x with⟨a1,a2⟩|⟨_,y,a1,a2,a3⟩
     ·rw[hv]at a1;exact zO a1
     ·rw[hv]at a1;cases a1
      have q:=ob.fin (Ext.toks R (DC s.toks)) a3
      with_reducible refine wpAny_getItem_of (knd:=PySem.strKind C.prog C.w) (dK x t) h3.mapOf a2 ?_
      exact q
    ·exact ob.absurd
   ·exact ob.absurd
  |_=>exact ob.absurd
 |str x t=>
  induction ri using VRel.casesOn with
  |int k u=>
   dsimp only at ob
   split at ob
   ·rename_i hl
    have hl:=aK hl
    generalize hj:(if 0<=k then k else k+(x.length:Int))=j at ob
    split at ob
    ·rename_i h0
     split at ob
     ·rename_i c hc
      have q:=ob.fin (Ext.toks R (DC s.toks)) (.str [c] s.toks)
      obtain⟨hlt,_⟩:=Dr.mp hc
      subst hj
      have hk:k<x.length/\ -(x.length:Int)<=k:=by
       by_cases z:0<=k
       ·rw[if_pos z]at hlt;exact⟨(ao [k,x.length,k.toNat] [(.lt (.v 2) (.v 1),1),(.le (.v 0) (.v 2),1)] (.lt (.v 0) (.v 1)) 1 rfl (Dt.mpr hlt) (FZ _)),(ao [x.length,k] [(.le (.n 0) (.v 1),1),(.le (.n 0) (.v 0),1)] (.le (.g (.v 0)) (.v 1)) 1 rfl z (Dq _))⟩
       ·rw[if_neg z]at h0;exact⟨(ao [k,x.length] [(.lt (.v 0) (.n 0),1),(.le (.n 0) (.v 1),1)] (.lt (.v 0) (.v 1)) 1 rfl (Em.mp z) (Dq _)),(ao [x.length,k] [(.le (.n 0) (.a (.v 1) (.v 0)),1)] (.le (.g (.v 0)) (.v 1)) 1 rfl h0)⟩
      with_reducible refine PySem.P.getItem_str (c:=c) ?_ ?_ ?_
      ·simp;exact⟨(ao [k,x.length] [(.le (.g (.v 1)) (.v 0),1),(.le (.v 1) (.n 100000),1)] (.le (.g (.n 9223372036854775808)) (.v 0)) 1 rfl hk.2 (Dm.mpr hl)),(ao [k,x.length] [(.lt (.v 0) (.v 1),1),(.le (.v 1) (.n 100000),1)] (.lt (.v 0) (.n 9223372036854775808)) 1 rfl hk.1 (Dm.mpr hl))⟩
      ·rw[bB,qg h0 hlt];simpa using hc
      ·exact q
     ·exact ob.absurd
    ·exact ob.absurd
   ·exact ob.absurd
  |_=>exact ob.absurd
 | @tup vs items a o k hta htc htd hr=>
  induction ri using VRel.casesOn with
  |int k u=>
   dsimp only at ob
   split at ob
   ·rename_i hh
    refine pL hh λh0 hl=>?_;clear hh;(try simp only[decide_eq_true_eq]at h0 hl)
    have hl:=aK hl
    split at ob
    ·rename_i v hv
     refine ai (hr.getI hv) λx h3 h4=>?_
     have q:=ob.fin (Ext.refl R) h4
     have hlt:=uY h0 hv (Dy _)
     have hle:=hr.length
     with_reducible refine PyProof.Rows.getItem_tuple (items:=items.toArray) (j:=k.toNat) ?_ ?_ ?_ ?_ h3 ?_
     ·exact⟨_,R.frozen _ _ hta,htc,_,htd⟩
     ·exact ao [k] [(.le (.n 0) (.v 0),1)] (.le (.g (.n 9223372036854775808)) (.v 0)) 1 rfl h0
     ·exact ao [k,vs.length] [(.lt (.v 0) (.v 1),1),(.le (.v 1) (.n 100000),1)] (.lt (.v 0) (.n 9223372036854775808)) 1 rfl hlt (Dm.mpr hl)
     ·exists DV;refine bt hle ?_;exact qf h0 (by exact hlt)
     ·exact q
    ·exact ob.absurd
   ·exact ob.absurd
  |_=>exact ob.absurd
 |_=>exact ob.absurd
theorem lx{prog:Program}{w:World}{A:Around}{E:Value->Shared->Prop}{s:Shared}{l:Addr}{items:Array Value}{k:Int}{t:Tok}{v:Value}{n:Nat}{Q:Unit->Shared->Prop}
 (ho:s.heap.get? l=some {cls:=.type "list",data:=.seq items n}) (h0:0<=k) (hfit:k<2^63) (hn:k<items.size)
 (hQ:∀h',h'.get? l=some {cls:=.type "list",data:=.seq (items.setIfInBounds k.toNat v) n}->Heap.SameBut l s.heap h'->Q () {s with heap:=h'}):
 wpAny (model prog w) A (setItem (.ref l) (.int k t) v) Q E s:=by
 have hl:s.heap.IsList l items:=⟨_,ho,rfl,_,rfl⟩
 unfold setItem
 try with_reducible refine DT ?_
 first|refine Dn (Dv ?_)|skip
 refine Dn (wpAny_sequenceKey hl.typeIs (by decide) ?_)
 refine Dn (Gw (name:=Str.ofString "__setitem__") hl.typeIs slot_list_setitem
  (Gx slot_list_setitem hl.typeIs entry_list_setitem ?_ (args_list_setitem _ _ _)))
 show wpAny _ _ (Builtin.List.listSubscript? (.int k t)>>=_) _ _ s
 refine Dn (wpAny_listSubscript_int (fitsIndex_of h0 hfit) ?_)
 clear hfit
 refine aB (Int.eq_ofNat_of_zero_le h0) λj e'1=>?_;subst e'1
 have hj:j<items.size:=by exact Dt.mp hn
 have hx':items[j]? =some items[j]:=Fj hj
 show wpAny _ _ ((seqItemAt l j>>=λr=>pure (r.map (j,·)))>>=_) _ _ s
 refine Dn (Dn (wpAny_seqItemAt ho rfl (Dv ?_)))
 exists hx'
 show wpAny _ _ (setSeqItemAt l j v>>=_) _ _ s
 refine Dn (wpAny_setSeqItemAt ho rfl ?_)
 have g:=DP (Obj.mapSeq (·.setIfInBounds j v)) ho rfl
 have g':(s.heap.update l (Obj.mapSeq (·.setIfInBounds j v))).get? l=some {cls:=.type "list",data:=.seq (items.setIfInBounds j v) n}:=by
  exists g
  show some ({cls:=.type "list",data:=.seq (items.setIfInBounds j v) (if(items.setIfInBounds j v).size==items.size then n else n+1)}:Obj)=_
  exists(if_pos (by simp));rfl
 first
  |exact Dn (Dv (Dv ⟨.none,rfl,Dv (hQ _ g' (ET ..))⟩))
  |exact Dv ⟨.none,rfl,Dv (hQ _ g' (ET ..))⟩
end
section
variable{C:Cx}{A:Around}{X:Wd}{C1:Hp}{s:Shared}{own:fA}
theorem Ext.remake{n:Nat}{o o':O}{a:Addr}{h':Heap}{tk:Nat}(htk:0<tk)(R:Rel C X C1 s)(h:C1[n]? =some o) (ha:X.at_ n=some a)
 (hs:Heap.SameBut a s.heap h') (r:ORel C X h' a n o'):Ext C own X s.heap X (C1.set n o') {s with heap:=h',toks:=tk}:=by
 refine bo (R.objs n _ h) λa' h1 h2 _=>?_
 rw[ha]at h1;cases h1
 have hn:n<C1.length:=(Dr.mp h).1
 refine⟨.refl X,R.turn (.refl X) hn (λb ob t hb ht1 _ _ eb=>?_) (λb hb=>R.fresh b (by rw[hs.1]at hb;exact hb)) (λ_ _ e=>.inl e) (λb hb=>?_) (λ_ _ e=>e) rfl rfl htk,λb ob hb _ eb=>⟨ob.slots,?_⟩,DK hs.1.symm⟩
 ·have hne:b≠a:=λq=>by subst q;rw[h2]at hb;cases hb;exact ht1 rfl
  exact(hs.2 b hne).trans eb
 ·rw[ha]at hb;cases hb
  exact r
 ·have hne:b≠a:=λq=>by subst q;rw[h2]at hb;cases hb
  exact(hs.2 b hne).trans eb
theorem uZ{kvs:List (List Nat×V)}{es:List (Str×Value)}(r:KRel X kvs es):kvs.length=es.length:=by
 induction r with
 |nil=>rfl
 |cons _ _ ih=>simp[ih]
theorem u7{kvs:List (List Nat×V)}{es:List (Str×Value)}(r:KRel X kvs es)(x:List Nat):es.any (λkv=>kv.1=⟨x.toArray⟩)=kvs.any (λp=>p.1==x):=by
 induction r with
 |nil=>rfl
 | @cons a v y fs es hv hr ih=>
  simp only[List.any_cons,ih]
  congr 1
  exists(propext EX),F6,(propext DQ)
  exact⟨gu,λh=>by(exists h;rfl)⟩
theorem u8{kvs:List (List Nat×V)}{es:List (Str×Value)}(r:KRel X kvs es){x:List Nat}{v:V}{v':Value}(rv:VRel X v v'):
 KRel X (kvs.map λp=>if p.1==x then(p.1,v)else p) (es.map λkv=>if kv.1=⟨x.toArray⟩then(kv.1,v')else kv):=by
 induction r with
 |nil=>exact .nil
 | @cons a w y fs es hv hr ih=>
  simp only[List.map_cons]
  by_cases q:a=x
  ·subst q
   simp only[beq_self_eq_true,if_true]
   exact .cons rv ih
  ·have q1:(a==x)=false:=by simpa using q
   have q2:¬((⟨a.toArray⟩:Str)=⟨x.toArray⟩):=λz=>q (gu z)
   simp only[q1,q2,if_false,Bool.false_eq_true]
   exact .cons hv ih
theorem td{kvs:List (List Nat×V)}{es:List (Str×Value)}(r:KRel X kvs es){x:List Nat}{v:V}{v':Value}(rv:VRel X v v'):KRel X (kvs++[(x,v)]) (es++[(⟨x.toArray⟩,v')]):=by
 induction r with
 |nil=>exact .cons rv .nil
 |cons hv hr ih=>exact .cons hv ih
theorem u9{kvs:List (List Nat×V)}{es:List (Str×Value)}(r:KRel X kvs es){x:List Nat}{v:V}{v':Value}(rv:VRel X v v'):KRel X (xi x v kvs) (stored es ⟨x.toArray⟩ v'):=by
 unfold xi stored
 exists(u7 r x)
 split
 ·exact u8 r rv
 ·exact td r rv
theorem jd{o i v:V}{o' i' v':Value}{Q:Unit->Shared->Prop}{E:Value->Shared->Prop}(R:Rel C X C1 s)(ro:VRel X o o')(ri:VRel X i i')(rv:VRel X v v')
 (ob:Ob C own X s.heap (λ_ _ _=>True) (setitem o i v C1) Q E):wpAny (model C.prog C.w) A (setItem o' i' v') Q E s:=by
 unfold setitem at ob
 induction ro using VRel.casesOn with
 |ref n a hn=>
  induction ri using VRel.casesOn with
  |int k u=>
   dsimp only at ob
   split at ob
   ·rename_i xs hx
    split at ob
    ·rename_i hh
     refine jT hh λh0 hk hl=>?_;clear hh;(try simp only[decide_eq_true_eq]at h0 hk hl)
     have hl:=aK hl
     refine aD (R.list hx hn) λvs kk h1 h2=>?_
     have hle:=h2.length
     refine lx h1 h0 ?_ ?_ λh' g hs=>?_
     ·exact ao [k,xs.length] [(.le (.v 1) (.n 100000),1),(.lt (.v 0) (.v 1),1)] (.lt (.v 0) (.n 9223372036854775808)) 1 rfl (Dm.mpr hl) hk
     ·simp;exact ES hk (GX (Int.ofNat_inj.mpr hle))
     ·refine ob.ok _ _ rfl X {s with heap:=h'} () (Ext.remake (tk:=s.toks) R.toks R hx hn hs ⟨vs.set k.toNat v',kk,?_,h2.set rv⟩) trivial
      exists g;simp
    ·exact ob.absurd
   ·exact ob.absurd
  |str x t=>
   dsimp only at ob
   split at ob
   ·rename_i kvs hx
    split at ob
    ·rename_i hl
     have hl:kvs.length<=100:=DF hl
     refine gW (R.objs n _ hx) λa' h1 h2 es h3 h4=>?_
     rw[hn]at h1;cases h1
     refine wpAny_setItem_pairs (knd:=PySem.strKind C.prog C.w) (dK x t) h3 (λh' g hs=>?_) (by(refine bt (uZ h4) ?_;exists D7);exact aT hl rfl)
     exact ob.ok _ _ rfl X {s with heap:=h',toks:=s.toks+1} () (Ext.remake (tk:=s.toks+1) (DC _) R hx hn hs ⟨_,g,u9 h4 rv⟩) trivial
    ·exact ob.absurd
   ·exact ob.absurd
  |_=>exact ob.absurd
 |_=>exact ob.absurd
theorem te{α:Type}(x:α)(k:Nat):∀acc:Array α,List.foldl (λx1 x2=>x1++x2) acc (List.replicate k #[x])=acc++(List.replicate k x).toArray:=by
 induction k with
 |zero=>intro acc;simp
 |succ k ih=>intro acc;rw[Ii,List.foldl_cons,ih,Ii,<-Array.toList_inj];simp
theorem qh{op:BOp}{n:Nat}{a:Addr}{k:Int}{u:Tok}{Q:Value->Shared->Prop}{E:Value->Shared->Prop}(R:Rel C X C1 s)(hn:X.at_ n=some a)(ob:Ob C own X s.heap VRel (ba op (.ref n) (.int k) C1) Q E):
 op=.mul/\wpAny (model C.prog C.w) A (binaryOp op.real (.ref a) (.int k u)) Q E s:=by
 unfold ba at ob
 dsimp only at ob
 split at ob
 ·rename_i x hx
  split at ob
  ·rename_i hh
   refine pL hh λh0 h1=>?_;clear hh;(try simp only[decide_eq_true_eq]at h0 h1)
   refine aD (R.list hx hn) λvs kk g r=>?_
   cases r with
   |cons r1 r2=>
    rename_i x' xs'
    cases r2
    refine⟨rfl,?_⟩
    have hpush:∀(b:Addr)(o:Obj),s.heap.get? b=some o->(s.heap.push {cls:=.type "list",data:=.seq (List.replicate k.toNat x').toArray}).get? b=some o:=λb o e=>Dx _ e
    have mk:=Ext.make (own:=own) (C:=C) (X:=X) (C1:=C1) (o:=.list (List.replicate k.toNat x)) (h':=s.heap.push {cls:=.type "list",data:=.seq (List.replicate k.toNat x').toArray}) (tk:=s.toks) (a:=s.heap.objs.size)
     R R.toks hpush (by rw[DM];exact Ee _) (Dy _) (Dz _ rfl) (λY hY _=>⟨_,0,Dz _ rfl,VRels.replicate (r1.mono hY) _⟩)
    have q:=ob.ok _ _ rfl _ _ _ mk.1 mk.2
    refine wpAny_binaryOp_repeat_ref (T:="list") (U:="int") (by decide) ⟨_,g,rfl⟩ (λs'=>typeIs_int s' k u) noFill_list_mul F.fills_int_mul F.slot_int_rmul repeat_list F.slot_int_index.lookup
     (FR F.slot_int_rmul (typeIs_int s k u) F.entry_int_rmul (F.args_int_rmul_2 _ _) (int___rmul___int_list k u a #[x'] kk)
      ⟨g,rfl,⟨_,g,rfl⟩,FR F.slot_list_mul ⟨_,g,rfl⟩ F.entry_list_mul (F.args_list_mul_2 _ _)
       (AutoListH.list___mul___list_int_3 a #[x'] kk k u (by simp[Builtin.List.listFitsIndex];exact⟨(ao [k] [(.le (.n 0) (.v 0),1)] (.le (.g (.n 9223372036854775808)) (.v 0)) 1 rfl h0),(ao [k] [(.le (.v 0) (.n 1000),1)] (.lt (.v 0) (.n 9223372036854775808)) 1 rfl h1)⟩) (by simp;exact ao [k] [(.le (.v 0) (.n 1000),1)] (.le (.v 0) (.n 1152921504606846975)) 1 rfl h1) (by simp[Builtin.List.listTooLong,sizeLine];exact ao [k] [(.le (.v 0) (.n 1000),1)] (.le (.v 0) (.n 16777216)) 1 rfl h1))
       ⟨g,?_⟩⟩)
    rw[if_neg (by simp),te,Array.empty_append]
    exact q
  ·exact ob.absurd
 ·exact ob.absurd
end
section
variable{C:Cx}{A:Around}{X:Wd}{C1:Hp}{s:Shared}{own:fA}
noncomputable def aL(d:Int):Option V->Option Nat
 |none=>some d.toNat
 |some (.int k)=>if 0<=k&&small k then some k.toNat else none
 |_=>none
inductive PRel:Option V->Option (Int×Tok)->Prop
 |none:PRel none none
 |some (k:Int) (t:Tok):PRel (some (.int k)) (some (k,t))
theorem jH{p:Option V}{q:Option (Int×Tok)}{l d n:Nat}(h:PRel p q)(e:aL d p=some l)(hd:d<=n):
 (match q.map (·.1)with|none=>(d:Int)|some i=>max 0 (min (if i<0 then i+n else i) n))=((min l n:Nat):Int):=by
 cases h with
 |none=>cases e;exact Ds Int.ofNat (Fb hd).symm
 |some k t=>
  unfold aL at e
  dsimp only at e
  split at e
  ·rename_i hh
   simp only[Bool.and_eq_true,decide_eq_true_eq]at hh
   cases e
   show max 0 (min (if k<0 then k+n else k) n)=_
   exists(if_neg (by exact Ez.mpr hh.1));exact zB hh.1
  ·exact bq e
theorem fQ{α:Type}(xs:List α)(l u:Nat):(xs.drop (min l xs.length)).take (min u xs.length-min l xs.length)=(xs.take u).drop l:=by
 apply EY
 intro i
 exists GJ,Fw,Fw,GJ
 by_cases h:l+i<xs.length
 ·have e:min l xs.length=l:=Fb (Gm (Fv (Ey l i) h))
  exists e
  by_cases h2:l+i<u
  ·exists(if_pos (FC.mpr (Nat.lt_min.mpr ⟨h2,h⟩))),(if_pos h2);rfl
  ·exists(if_neg λq=>h2 (DA (FC.mp q) (Fq ..))),(if_neg h2);rfl
 ·have e:xs[l+i]? =none:=EH (by exact Ew h)
  exists e,(if_neg λq=>(GV l xs.length).elim (λa=>h (by rw[Fb a]at q;exact DA (FC.mp q) (EI ..))) λa=>by rw[Ge a]at q;exact absurd (DA (FC.mp q) (EI ..)) (FD.mpr (Ey ..)))
  split<;>rfl
theorem qi{x:Str}{t:Tok}{ql qu:Option (Int×Tok)}{Q:Value->Shared->Prop}(hsz:x.length<=sizeLine)
 (h:∀t' k,Q (.str (Txt.slice x (ql.map (·.1)) (qu.map (·.1))) t') {s with toks:=k}):(sliceMade x t ql qu none).post Q s:=by
 unfold sliceMade
 refine post_val_or_str ?_
 have e:(if(((none:Option (Int×Tok)).map (·.1)).getD 1==1&&(slicePicked x ql qu none).length==x.length)=true then x else(⟨((slicePicked x ql qu none).filterMap (x.cps[·]?)).toArray⟩:Str))=Txt.slice x (ql.map (·.1)) (qu.map (·.1)):=rfl
 exists e
 exact⟨Dw (Txt.slice_le _ _ _) hsz,h⟩
theorem zW{lo hi:Option V}{ql qu:Option (Int×Tok)}{n l u:Nat}(hl:PRel lo ql)(hu:PRel hi qu)(el:aL 0 lo=some l)(eu:aL n hi=some u):
 Builtin.Str.strSliceIndices (ql.map (·.1)) (qu.map (·.1)) 1 n=(List.range (min u n-min l n)).map (min l n+·):=by
 have e1:=jH (n:=n) hl el (FG _)
 have e2:=jH (n:=n) hu eu (Dy _)
 unfold Builtin.Str.strSliceIndices
 simp only[show(1:Int)>0 by decide,if_true]
 have e1':(match ql.map (·.1)with|none=>(0:Int)|some i=>max 0 (min (if i<0 then i+n else i) n))=((min l n:Nat):Int):=e1
 refine bt (sliceRange_one (min l n) (min u n)) ?_;refine bt e1' ?_;refine bt e2 ?_
 cases ql.map (·.1)<;>cases qu.map (·.1)<;>rfl
theorem zX{lo hi:Option V}{ql qu:Option (Int×Tok)}{n l u:Nat}(hl:PRel lo ql)(hu:PRel hi qu)(el:aL 0 lo=some l)(eu:aL n hi=some u):
 sliceBounds (ql.map (·.1)) (qu.map (·.1)) none n=(((min l n:Nat):Int),((min u n:Nat):Int),1):=by
 have e1:=jH (n:=n) hl el (FG _)
 have e2:=jH (n:=n) hu eu (Dy _)
 have e1':(match ql.map (·.1)with|none=>(0:Int)|some i=>max 0 (min (if i<0 then i+n else i) n))=((min l n:Nat):Int):=e1
 unfold sliceBounds
 simp only[Option.getD_none,show(1:Int)>0 by decide,if_true]
 refine bt e1' ?_;refine bt e2 ?_
 cases ql.map (·.1)<;>cases qu.map (·.1)<;>rfl
theorem hU{lo hi:Option V}{ql qu:Option (Int×Tok)}{l u:Nat}(items:List Value)(hl:PRel lo ql)(hu:PRel hi qu)(el:aL 0 lo=some l)(eu:aL items.length hi=some u):
 slicePick items.toArray (ql.map (·.1)) (qu.map (·.1)) none=((items.take u).drop l).toArray:=by
 unfold slicePick
 exists DV,(zX hl hu el eu)
 show((sliceRange _ _ 1).filterMap _).toArray=_
 rw[sliceRange_one,pick_run]
 rw[show items.toArray.toList=items from rfl,fQ]
theorem ou{lo hi:Option V}{ql qu:Option (Int×Tok)}{l u:Nat}(x:List Nat)(hl:PRel lo ql)(hu:PRel hi qu)(el:aL 0 lo=some l)(eu:aL x.length hi=some u):
 Txt.slice ⟨x.toArray⟩ (ql.map (·.1)) (qu.map (·.1))=⟨((x.take u).drop l).toArray⟩:=by
 unfold Txt.slice
 rw[bB,zW hl hu el eu]
 have p:((List.range (min u x.length-min l x.length)).map (min l x.length+·)).filterMap (x.toArray[·]?)=(x.take u).drop l:=by
  rw[pick_run,show x.toArray.toList=x from rfl,fQ]
 split
 ·rename_i hh
  simp only[List.length_map,List.length_range,Bool.and_eq_true,beq_iff_eq]at hh
  have h1:min l x.length=0:=pP hh.2 (EI ..) (EI ..)
  have h2:x.length<=u:=by exact Dm.mp (ao [x.length,u,Nat.cast (Min.min u x.length-Min.min l x.length),Nat.cast (Min.min u x.length)] [(.eq (.v 2) (.v 0),-1),(.le (.v 2) (.v 3),1),(.le (.v 3) (.v 1),1)] (.le (.v 0) (.v 1)) 1 rfl (Ds Int.ofNat hh.2) (Dm.mpr (Fd _ _)) (Dm.mpr (Fq _ _)))
  have:(x.take u).drop l=x:=by
   exists(HR h2)
   by_cases z:x.length=0
   ·have:x=[]:=HI.mp z
    subst this;simp
   ·have:l=0:=(GV l x.length).elim (λa=>(Fb a).symm.trans h1) λa=>absurd ((Ge a).symm.trans h1) z
    subst this;rfl
  exists this;rfl
 ·show(⟨(List.filterMap (x.toArray[·]?) _).toArray⟩:Str)=_
  exists p;rfl
theorem rY{p:Option V}{q:Option (Int×Tok)}(h:PRel p q):IsPart (partValue q) (q.map (·.1)):=by
 cases h with
 |none=>exact .none
 |some k t=>exact .int k t
theorem tf{o:V}{o':Value}{lo hi:Option V}{ql qu:Option (Int×Tok)}{sl:Addr}{Q:Value->Shared->Prop}{E:Value->Shared->Prop}(R:Rel C X C1 s)(ro:VRel X o o')(hl:PRel lo ql)(hu:PRel hi qu)
 (hs:s.heap.get? sl=some {cls:=.type "slice",data:=.fields #[partValue ql,partValue qu,.none]})
 (ob:Ob C own X s.heap VRel (slice o lo hi C1) Q E):wpAny (model C.prog C.w) A (getItem o' (.ref sl)) Q E s:=by
 induction ro using VRel.casesOn with
 |str x t=>
  have ob:Ob C own X s.heap VRel (match aL 0 lo,aL x.length hi with
   |some l,some u=>if ae x.length then .ok (.str ((x.take u).drop l)) C1 else .no
   |_,_=>.no) Q E:=ob
  split at ob
  ·rename_i l u el eu
   split at ob
   ·rename_i hh
    have hh:=aK hh
    refine bp ?_
    refine wpAny_getItem_str_slice (l:=ql) (u:=qu) (st:=none) ⟨_,hs,rfl,rfl⟩ rfl (qi (by rw[bB,D7];exact aT hh rfl) λt' k hk=>?_)
    have e:(Txt.slice ⟨x.toArray⟩ (ql.map (·.1)) (qu.map (·.1)))=⟨((x.take u).drop l).toArray⟩:=ou x hl hu el eu
    have q:=ob.fin (X1:=X) (s1:={s with toks:=k}) (Ext.toks R (DA R.toks hk)) (.str _ t')
    rw[<-e]at q
    exact q
   ·exact ob.absurd
  ·exact ob.absurd
 |ref n a hn=>
  cases hx:C1[n]? with
  |none=>simp only[slice,hx]at ob;exact ob.absurd
  |some y=>
   cases y with
   |list xs=>
    have ob:Ob C own X s.heap VRel (match aL 0 lo,aL xs.length hi with
     |some l,some u=>if ae xs.length then .ok (.ref C1.length) (C1++[.list ((xs.take u).drop l)])else .no
     |_,_=>.no) Q E:=by
      have:slice (.ref n) lo hi C1=(match aL 0 lo,aL xs.length hi with
       |some l,some u=>if ae xs.length then .ok (.ref C1.length) (C1++[.list ((xs.take u).drop l)])else .no
       |_,_=>.no):=by simp only[slice,hx];rfl
      rw[this]at ob;exact ob
    split at ob
    ·rename_i l u el eu
     split at ob
     ·rename_i hh
      have hh:=aK hh
      refine aD (R.list hx hn) λvs kk g r=>?_
      have hle:=r.length
      rw[hle]at eu
      have mk:=Ext.make (own:=own) (C:=C) (X:=X) (C1:=C1) (o:=.list ((xs.take u).drop l)) (h':=s.heap.push {cls:=.type "list",data:=.seq ((vs.take u).drop l).toArray}) (tk:=s.toks) (a:=s.heap.objs.size)
       R R.toks (λb o e=>Dx _ e) (by rw[DM];exact Ee _) (Dy _) (Dz _ rfl) (λY hY _=>⟨_,0,Dz _ rfl,((r.take u).drop l).mono hY⟩)
      have q:=ob.ok _ _ rfl _ _ _ mk.1 mk.2
      refine wpAny_getItem_list_slice (aI g) ⟨_,hs,rfl,rfl⟩ (rY hl) (rY hu) .none (by simp) ?_ (by(exists DV,D7);exact Dm.mp (ao [vs.length,xs.length] [(.eq (.v 1) (.v 0),-1),(.le (.v 1) (.n 100000),1)] (.le (.v 0) (.n 16777216)) 1 rfl (Ds Int.ofNat hle) (Dm.mpr hh)))
      exists(hU vs hl hu el eu)
      exact q
     ·exact ob.absurd
    ·exact ob.absurd
   |_=>simp only[slice,hx]at ob;exact ob.absurd
 |_=>exact ob.absurd
end
noncomputable def mX(c:Nat):List (List Nat)->List Nat
 |[]=>[]
 |[x]=>x
 |x::r=>x++(c::mX c r)
theorem mY{c:Nat}{x:List Nat}(h:c∉x):aa c x=[x]:=by
 induction x with
 |nil=>rfl
 |cons a r ih=>
  have h1:a≠c:=λe=>h (by(exists e);exact DU)
  have h2:c∉r:=λe=>h (DN _ e)
  show(if a==c then _ else _)=_
  exists(if_neg (by simpa using h1)),(ih h2);rfl
theorem j4(c:Nat)(x:List Nat):aa c x≠[]:=by
 induction x using List.casesOn with
 |nil=>exact λh=>by cases h
 |cons a r=>
  unfold aa
  split
  ·exact λh=>by cases h
  ·split<;>exact λh=>by cases h
theorem oz{c:Nat}{x:List Nat}(h:c∉x)(r:List Nat):aa c (x++c::r)=x::aa c r:=by
 induction x with
 |nil=>show(if c==c then _ else _)=_;(exists(if_pos (by simp));rfl)
 |cons a t ih=>
  have h1:a≠c:=λe=>h (by(exists e);exact DU)
  have h2:c∉t:=λe=>h (DN _ e)
  show(if a==c then _ else _)=_
  exists(if_neg (by simpa using h1))
  have:=ih h2
  show(match aa c (t++c::r)with|w::ws=>(a::w)::ws|[]=>[[a]])=_
  exists this;rfl
theorem hV{c:Nat}:∀{ps:List (List Nat)},ps≠[]->(∀p∈ps,c∉p)->aa c (mX c ps)=ps
 |[],h,_=>absurd rfl h
 |[x],_,h=>mY (h x DU)
 |x::y::r,_,h=>by
  show aa c (x++c::mX c (y::r))=_
  rw[oz (h x DU),hV (by simp) λp hp=>h p (DN _ hp)]
noncomputable def bU(x:List Nat):Str:=⟨x.toArray⟩
theorem qj(x:Str):bU x.cps.toList=x:=by cases x;rfl
theorem jI(a b:List Nat):bU a++bU b=bU (a++b):=by
 show(⟨a.toArray++b.toArray⟩:Str)=_
 rw[Ih];rfl
theorem iS(c:Nat):∀ps:List (List Nat),Str.join ⟨#[c]⟩ (ps.map bU)=bU (mX c ps)
 |[]=>rfl
 |[x]=>rfl
 |x::y::r=>by
  show bU x++(⟨#[c]⟩:Str)++Str.join ⟨#[c]⟩ ((y::r).map bU)=_
  rw[iS c (y::r),show(⟨#[c]⟩:Str)=bU [c]from rfl,jI,jI]
  show bU (x++[c]++mX c (y::r))=bU (x++c::mX c (y::r))
  rw[F9];rfl
theorem j5(x:List Nat)(c:Nat):Txt.split (bU x) ⟨#[c]⟩=(aa c x).map bU:=by
 have h1:=StrLaws.join_split (bU x) ⟨#[c]⟩
 have h2:=StrLaws.split_free (bU x) c
 have h3:=split_pos (bU x) ⟨#[c]⟩
 generalize Txt.split (bU x) ⟨#[c]⟩=ps at*
 have e:ps=(ps.map λp=>p.cps.toList).map bU:=by
  exists E8
  conv=>lhs;rw[<-List.map_id ps]
  exact E5 λp _=>(qj p).symm
 rw[e,iS]at h1
 have h4:mX c (ps.map λp=>p.cps.toList)=x:=by
  have:=Ds (λs:Str=>s.cps.toList) h1
  exact this
 have h5:=hV (c:=c) (ps:=ps.map λp=>p.cps.toList) (by intro z;have:=List.map_eq_nil_iff.mp z;subst this;simp at h3) (λp hp=>by
  refine ai (List.mem_map.mp hp) λq hq e'1=>?_;subst e'1;exact h2 q hq)
 rw[h4]at h5
 exists h5;refine bt e ?_;rfl
theorem j7(c:Nat)(x:List Nat):(aa c x).length<=x.length+1:=by
 induction x with
 |nil=>simp[aa]
 |cons a r ih=>
  unfold aa
  split
  ·simp;exact ih
  ·split
   ·rename_i w ws h;rw[h]at ih;simp at ih⊢;exact Er ih
   ·simp
theorem oA{c:Nat}{x:List Nat}{i:Nat}(j:Nat)(h:x[i]? =some c) (hn:∀k,k<i->x[k]?≠some c):ac c x j=((j+i:Nat):Int):=by
 induction x generalizing i j with
 |nil=>simp at h
 |cons a r ih=>
  unfold ac
  induction i using Nat.casesOn with
  |zero=>simp at h;subst h;(exists(if_pos (by simp)));rfl
  |succ i=>
   have h0:=hn 0 (by exact DC _)
   have:¬(a==c)=true:=by intro z;exact h0 (by simp at z⊢;exact z)
   exists(if_neg this),(ih (j+1) (by simpa using h) (λk hk=>by have:=hn (k+1) (by exact EB (FY hk));simpa using this))
   congr 1;exact DJ (Dm.mp (ao [j,i] [] (.le (.a (.a (.v 0) (.n 1)) (.v 1)) (.a (.v 0) (.a (.v 1) (.n 1)))) 1 rfl)) (Dm.mp (ao [j,i] [] (.le (.a (.v 0) (.a (.v 1) (.n 1))) (.a (.a (.v 0) (.n 1)) (.v 1))) 1 rfl))
theorem oB{c:Nat}{x:List Nat}(j:Nat)(h:∀i:Nat,x[i]?≠some c):ac c x j= -1:=by
 induction x generalizing j with
 |nil=>rfl
 |cons a r ih=>
  unfold ac
  have h0:=h 0
  have:¬(a==c)=true:=by intro z;exact h0 (by simp at z⊢;exact z)
  exists(if_neg this)
  exact ih (j+1) λi=>by have:=h (i+1);simpa using this
theorem rZ(x:List Nat)(c:Nat):Txt.find (bU x) ⟨#[c]⟩=ac c x 0:=by
 have one:∀i:Nat,StrLaws.At (bU x) ⟨#[c]⟩ (bU x).length i↔x[i]? =some c:=λi=>StrLaws.subAt_one (bU x) c i
 rcases find_whole (bU x) ⟨#[c]⟩with⟨h1,h2⟩|⟨i,h1,h2,h3⟩
 ·exists h1,(oB 0 λi hi=>h2 i ((one i).mpr hi));rfl
 ·exists h1,(oA 0 ((one i).mp h2) λk hk hi=>h3 k hk ((one k).mpr hi))
  simp
theorem zY(c:Nat)(x:List Nat):cnt c x=(x.count c:Nat):=by
 induction x with
 |nil=>rfl
 |cons a r ih=>
  rw[cnt_cons,ih,List.count_cons]
  by_cases h:a=c<;>simp[h];exact D8 (ao [Nat.cast (List.count c r)] [] (.le (.a (.n 1) (.v 0)) (.a (.v 0) (.n 1))) 1 rfl) (ao [Nat.cast (List.count c r)] [] (.le (.a (.v 0) (.n 1)) (.a (.n 1) (.v 0))) 1 rfl)
theorem th(x:List Nat)(c:Nat):Txt.count (bU x) ⟨#[c]⟩=(x.count c:Nat):=(count_is (bU x) c).trans (zY c x)
theorem oD(x:List Nat)(a b:Nat):Txt.replace (bU x) ⟨#[a]⟩ ⟨#[b]⟩=bU (x.map λy=>if y==a then b else y):=by
 rw[StrLaws.replace_one,j5,iS]
 congr 1
 induction x with
 |nil=>rfl
 |cons y r ih=>
  by_cases q:y=a
  ·subst q
   have:aa y (y::r)=[]::aa y r:=by show(if y==y then _ else _)=_;(exists(if_pos (by simp));rfl)
   rw[this]
   cases hs:aa y r with
   |nil=>exact absurd hs (j4 _ _)
   |cons w ws=>rw[hs]at ih;show[]++b::mX b (w::ws)=_;rw[ih];simp
  ·have:aa a (y::r)=(match aa a r with|w::ws=>(y::w)::ws|[]=>[[y]]):=by show(if y==a then _ else _)=_;(exists(if_neg (by simpa using q)))<;>rfl
   rw[this]
   cases hs:aa a r with
   |nil=>exact absurd hs (j4 _ _)
   |cons w ws=>
    rw[hs]at ih
    have q':(y==a)=false:=by simpa using q
    induction ws using List.casesOn with
    |nil=>
     exists E0,q';refine bt ih ?_;rfl
    |cons w2 ws=>
     show(y::w)++b::mX b (w2::ws)=_
     exists E0;refine bt ih ?_;exists q';rfl
section
variable{C:Cx}{A:Around}{X:Wd}{C1:Hp}{s:Shared}{own:fA}
@[reducible] noncomputable def B4:BI->Value
 |.len=>.builtin "len"|.range=>.type "range"|.list=>.type "list"|.ord=>.builtin "ord"|.sum=>.builtin "sum"|.abs=>.builtin "abs"|.max=>.builtin "max"
theorem vb{xs:List V}{vs:List Value}{i:Int}(r:VRels X xs vs)(e:bI xs=some i):∃zs:List (Int×Tok),vs=zs.map (λp=>Value.int p.1 p.2)/\(zs.map (·.1)).sum=i:=by
 induction xs generalizing vs i with
 |nil=>cases r;cases e;exact⟨[],rfl,rfl⟩
 |cons x xs ih=>
  cases r with
  |cons r1 r2=>
   induction r1 using VRel.casesOn with
   |int a t=>
    refine ai (EC.mp e) λj hj e'1=>?_;subst e'1
    refine ai (ih r2 hj) λzs h1 h2=>?_
    exact⟨(a,t)::zs,by(exists h1);rfl,by simp[h2]⟩
   |_=>exact bq e
theorem ti{x:List Nat}{acc:Array Value}(h:ItemsOf (SignAt (bU x)) acc x.length):VRels X (x.map λc=>V.str [c]) acc.toList:=by
 refine aA h λh1 h2=>?_;clear h
 have:∀(y:List Nat)(vs:List Value)(k:Nat),vs.length=y.length->(∀(j:Nat)(v:Value),vs[j]? =some v->∃c u,y[j]? =some c/\v=Value.str ⟨#[c]⟩ u)->VRels X (y.map λc=>V.str [c]) vs:=by
  intro y
  induction y with
  |nil=>intro vs k hl _;(exists(HI.mp hl));exact .nil
  |cons c y ih=>
   intro vs k hl hv
   induction vs using List.casesOn with
   |nil=>simp at hl
   |cons v vs=>
    refine aD (hv 0 v rfl) λc' u e1 e2=>?_
    simp at e1;subst e1;subst e2
    exact .cons (.str [c] u) (ih vs k (by simpa using hl) λj w hw=>by simpa using hv (j+1) w (by simpa using hw))
 refine this x acc.toList 0 (by simpa using h1) λj v hv=>?_
 refine aD (h2 j v (by simpa using hv)) λc u hc e=>?_
 exact⟨c,u,by simpa[bU]using hc,e⟩
theorem qm{motive:List V->Prop}{h:Hp}(l:List V)(s:∀s,motive [.str s])(n:∀n,motive [.ref n])(no:∀l,xj l h=.no->motive l):motive l:=by
 induction l using List.casesOn with
 |nil=>exact no _ rfl
 |cons x r=>induction r using List.casesOn with
  |nil=>induction x using V.casesOn with
   |str x=>exact s x
   |ref x=>exact n x
   |_=>exact no _ rfl
  |cons=>exact no _ (by induction x using V.casesOn<;>rfl)
theorem mZ{motive:List V->Prop}{h:Hp}(l:List V)(one:∀a,motive [.int a])(Bh:∀a b,motive [.int a,.int b])(three:∀a b c,motive [.int a,.int b,.int c])(no:∀l,pQ l h=.no->motive l):motive l:=by
 induction l using List.casesOn with
 |nil=>exact no _ rfl
 |cons x r=>induction x using V.casesOn with
  |int a=>induction r using List.casesOn with
   |nil=>exact one a
   |cons y r=>induction y using V.casesOn with
    |int b=>induction r using List.casesOn with
     |nil=>exact Bh a b
     |cons z r=>induction r using List.casesOn with
      |nil=>induction z using V.casesOn with
       |int c=>exact three a b c
       |_=>exact no _ rfl
      |cons=>exact no _ (by induction z using V.casesOn<;>rfl)
    |_=>exact no _ (by induction r using List.casesOn<;>rfl)
  |_=>exact no _ rfl
theorem oE{motive:List V->Prop}{h:Hp}(l:List V)(s:∀s,motive [.str s])(no:∀l,uJ l h=.no->motive l):motive l:=by
 induction l using List.casesOn with
 |nil=>exact no _ rfl
 |cons x r=>induction x using V.casesOn with
  |str x=>induction r using List.casesOn with
   |nil=>exact s x
   |cons=>exact no _ rfl
  |_=>exact no _ rfl
theorem qn{motive:List V->Prop}{h:Hp}(l:List V)(s:∀n,motive [.ref n])(no:∀l,xk l h=.no->motive l):motive l:=by
 induction l using List.casesOn with
 |nil=>exact no _ rfl
 |cons x r=>induction x using V.casesOn with
  |ref x=>induction r using List.casesOn with
   |nil=>exact s x
   |cons=>exact no _ rfl
  |_=>exact no _ rfl
theorem qo{motive:List V->Prop}{h:Hp}(l:List V)(s:∀a,motive [.int a])(no:∀l,zI l h=.no->motive l):motive l:=by
 induction l using List.casesOn with
 |nil=>exact no _ rfl
 |cons x r=>induction x using V.casesOn with
  |int x=>induction r using List.casesOn with
   |nil=>exact s x
   |cons=>exact no _ rfl
  |_=>exact no _ rfl
theorem qp{motive:List V->Prop}{h:Hp}(l:List V)(s:∀c,motive [.str [c]])(no:∀l,zH l h=.no->motive l):motive l:=by
 induction l using List.casesOn with
 |nil=>exact no _ rfl
 |cons x r=>induction x using V.casesOn with
  |str x=>induction r using List.casesOn with
   |nil=>induction x using List.casesOn with
    |nil=>exact no _ rfl
    |cons c x=>induction x using List.casesOn with
     |nil=>exact s c
     |cons=>exact no _ rfl
   |cons=>exact no _ (by first|rfl|(induction x using List.casesOn with|nil=>rfl|cons _ x=>induction x using List.casesOn<;>rfl))
  |_=>exact no _ rfl
theorem qr{motive:List V->Prop}{h:Hp}(l:List V)(s:∀a b,motive [.int a,.int b])(no:∀l,zJ l h=.no->motive l):motive l:=by
 induction l using List.casesOn with
 |nil=>exact no _ rfl
 |cons x r=>induction x using V.casesOn with
  |int x=>induction r using List.casesOn with
   |nil=>exact no _ rfl
   |cons y r=>induction r using List.casesOn with
    |nil=>induction y using V.casesOn with
     |int y=>exact s x y
     |_=>exact no _ rfl
    |cons=>exact no _ (by induction y using V.casesOn<;>rfl)
  |_=>exact no _ rfl
theorem tj{b:BI}{vs:List V}{xs:List Value}{Q:Value->Shared->Prop}{E:Value->Shared->Prop}(hh:A.handled=none)(R:Rel C X C1 s)(r:VRels X vs xs)
 (ob:Ob C own X s.heap VRel (bcall b vs C1) Q E):wpAny (model C.prog C.w) A (call (B4 b) xs) Q E s:=by
 cases b with
 |len=>
  replace ob:Ob C own X s.heap VRel (xj vs C1) Q E:=ob
  induction vs using qm (h:=C1)with
  |s x=>
   replace ob:Ob C own X s.heap VRel (ite _ _ _) Q E:=ob
   split at ob
   ·rename_i hl
    have hl:=aK hl
    refine aB r.str1 λt e'2=>?_;subst e'2
    have q:=ob.fin (Ext.toks R (DC (s.toks+1))) (.int x.length (s.toks+1))
    with_reducible refine PySem.P.len_str ?_ ?_
    ·rw[bB];exact Em.mpr (ao [x.length] [(.le (.v 0) (.n 100000),1)] (.lt (.v 0) (.n 9223372036854775808)) 1 rfl (Dm.mpr hl))
    ·rw[bB];exact q
   ·exact ob.absurd
  |n n=>
   replace ob:Ob C own X s.heap VRel (match C1[n]? with|some (.list xs)=>if ae xs.length then .ok (.int xs.length) C1 else .no|_=>.no) Q E:=ob
   split at ob
   ·rename_i ys hy
    split at ob
    ·rename_i hl
     have hl:=aK hl
     refine ai r.ref1 λa e'3 hn=>?_;subst e'3
     refine aD (R.list hy hn) λws k g rr=>?_
     have q:=ob.fin (Ext.toks R (DC (s.toks+1))) (.int ys.length (s.toks+1))
     have hle:=rr.length
     rw[hle]at q
     with_reducible refine call_len_list (aI g) ?_ ?_
     ·exists DV;exact ao [ws.length,ys.length] [(.eq (.v 1) (.v 0),-1),(.le (.v 1) (.n 100000),1)] (.lt (.v 0) (.n 9223372036854775808)) 1 rfl (Ds Int.ofNat hle) (Dm.mpr hl)
     ·exists DV;exact q
    ·exact ob.absurd
   ·exact ob.absurd
  |no l e=>rw[e]at ob;exact ob.absurd
 |range=>
  replace ob:Ob C own X s.heap VRel (pQ vs C1) Q E:=ob
  induction vs using mZ (h:=C1)with
  |one b=>
   replace ob:Ob C own X s.heap VRel (ite _ _ _) Q E:=ob
   split at ob
   ·rename_i hb
    refine aB r.int1 λt e'4=>?_;subst e'4
    have mk:=Ext.freeze (own:=own) (C:=C) (X:=X) (C1:=C1) (h':=s.heap.push (hJ 0 b 1 s.toks t (s.toks+1))) (tk:=s.toks+1+1) (a:=s.heap.objs.size) R (DC _)
     (λb o e=>Dx _ e) (by rw[DM];exact Ee _) (Dy _) (Dz _ rfl)
    have q:=ob.ok _ _ rfl _ _ _ mk (.rng Wd.put_self (by decide) hb (.inl rfl))
    with_reducible refine call_range_1 ?_
    exact q
   ·exact ob.absurd
  |Bh a b=>
   replace ob:Ob C own X s.heap VRel (ite _ _ _) Q E:=ob
   split at ob
   ·rename_i hb
    replace hb:=and2 hb
    refine bE r.int2 λt u e'5=>?_;subst e'5
    have mk:=Ext.freeze (own:=own) (C:=C) (X:=X) (C1:=C1) (h':=s.heap.push (hJ a b 1 t u s.toks)) (tk:=s.toks+1) (a:=s.heap.objs.size) R (DC _)
     (λb o e=>Dx _ e) (by rw[DM];exact Ee _) (Dy _) (Dz _ rfl)
    have q:=ob.ok _ _ rfl _ _ _ mk (.rng Wd.put_self hb.1 hb.2 (.inl rfl))
    with_reducible refine call_range_2 ?_
    exact q
   ·exact ob.absurd
  |three a b c=>
   replace ob:Ob C own X s.heap VRel (ite _ _ _) Q E:=ob
   split at ob
   ·rename_i hb
    refine jT hb λh1 h2 h3=>?_;clear hb;(try simp only[beq_iff_eq]at h1 h2 h3)
    subst h3
    refine iG r.int3 λt u v e'7=>?_;subst e'7
    have mk:=Ext.freeze (own:=own) (C:=C) (X:=X) (C1:=C1) (h':=s.heap.push (hJ a b (-1) t u v)) (tk:=s.toks) (a:=s.heap.objs.size) R R.toks
     (λb o e=>Dx _ e) (by rw[DM];lia) (Dy _) (Dz _ rfl)
    have q:=ob.ok _ _ rfl _ _ _ mk (.rng Wd.put_self h1 h2 (.inr rfl))
    with_reducible refine call_range_3 (c:= -1) (by decide) ?_ (.inl (fO (by decide)))
    exact q
   ·exact ob.absurd
  |no l e=>rw[e]at ob;exact ob.absurd
 |list=>
  replace ob:Ob C own X s.heap VRel (uJ vs C1) Q E:=ob
  induction vs using oE (h:=C1)with
  |s x=>
   replace ob:Ob C own X s.heap VRel (ite _ _ _) Q E:=ob
   split at ob
   ·rename_i hl
    have hl:=aK hl
    refine aB r.str1 λt e'8=>?_;subst e'8
    refine bp (bD ?_)
    refine call_list_str hh (bU x) t (λh' tk acc c' hk hS hI=>λhsz htk=>?_) (by(exists D7);show x.toArray.size<=_;(exists DV);exact aT hl rfl)
    have hI':ItemsOf (SignAt (bU x)) acc x.length:=by(refine bt DV ?_);exact hI
    have mk:=Ext.make (own:=own) (C:=C) (X:=X) (C1:=C1) (o:=.list (x.map λc=>.str [c])) (h':=h') (tk:=tk) (a:=s.heap.objs.size)
     R (DA R.toks htk) hk hsz (Dy _) hS (λY hY _=>⟨acc.toList,c',by simpa using hS,ti hI'⟩)
    exact ob.ok _ _ rfl _ _ _ mk.1 mk.2
   ·exact ob.absurd
  |no l e=>rw[e]at ob;exact ob.absurd
 |ord=>
  replace ob:Ob C own X s.heap VRel (zH vs C1) Q E:=ob
  induction vs using qp (h:=C1)with
  |s c=>
   replace ob:Ob C own X s.heap VRel (.ok (.int c) C1) Q E:=ob
   refine aB r.str1 λt e'9=>?_;subst e'9
   have q:=ob.fin (Ext.toks R (DC s.toks)) (.int c s.toks)
   with_reducible refine PySem.P.ord_of_char ?_
   exact q
  |no l e=>rw[e]at ob;exact ob.absurd
 |sum=>
  replace ob:Ob C own X s.heap VRel (xk vs C1) Q E:=ob
  induction vs using qn (h:=C1)with
  |s n=>
   replace ob:Ob C own X s.heap VRel (match C1[n]? with|some (.list xs)=>(match bI xs with|some i=>.ok (.int i) C1|none=>.no)|_=>.no) Q E:=ob
   split at ob
   ·rename_i ys hy
    split at ob
    ·rename_i i hi
     refine ai r.ref1 λa e'10 hn=>?_;subst e'10
     refine aD (R.list hy hn) λws k g rr=>?_
     refine ai (vb rr hi) λzs e1 e2=>?_
     subst e1
     refine bp (bD ?_)
     have hL:s.heap.IsList a (intItems zs.toArray):=⟨_,g,rfl,k,by simp[intItems]⟩
     refine sum_intListG hh hL λh' tk t' hk hsz htk=>?_
     have q:=ob.fin (X1:=X) (s1:={s with heap:=h',toks:=tk}) (Ext.grown R (DA R.toks htk) hk hsz) (.int i t')
     rw[preSum_eq,HR (by simp),show zs.toArray.toList=zs from rfl,e2]
     exact q
    ·exact ob.absurd
   ·exact ob.absurd
  |no l e=>rw[e]at ob;exact ob.absurd
 |abs=>
  replace ob:Ob C own X s.heap VRel (zI vs C1) Q E:=ob
  induction vs using qo (h:=C1)with
  |s a=>
   replace ob:Ob C own X s.heap VRel (.ok (V.int (if a<0 then-a else a)) C1) Q E:=ob
   refine aB r.int1 λt e'11=>?_;subst e'11
   refine bp ?_
   refine call_abs_int λu tk htk=>?_
   exact ob.fin (X1:=X) (s1:={s with toks:=tk}) (Ext.toks R (DA R.toks htk)) (.int _ u)
  |no l e=>rw[e]at ob;exact ob.absurd
 |max=>
  replace ob:Ob C own X s.heap VRel (zJ vs C1) Q E:=ob
  induction vs using qr (h:=C1)with
  |s a b=>
   replace ob:Ob C own X s.heap VRel (.ok (V.int (if a<b then b else a)) C1) Q E:=ob
   refine bE r.int2 λt u e'12=>?_;subst e'12
   refine bp (bD ?_)
   refine max_two_ints hh λh' tk hk hsz htk=>?_
   by_cases hc:a<b
   ·exists(if_pos (show b>a from hc))
    rw[if_pos hc]at ob
    exact ob.fin (X1:=X) (s1:={s with heap:=h',toks:=tk}) (Ext.grown R (DA R.toks htk) hk hsz) (.int _ u)
   ·exists(if_neg (show¬b>a from hc))
    rw[if_neg hc]at ob
    exact ob.fin (X1:=X) (s1:={s with heap:=h',toks:=tk}) (Ext.grown R (DA R.toks htk) hk hsz) (.int _ t)
  |no l e=>rw[e]at ob;exact ob.absurd
@[reducible] noncomputable def Bt:MI->String
 |.split=>"str.split"|.find=>"str.find"|.join=>"str.join"|.count=>"str.count"|.sindex=>"str.index"|.lindex=>"list.index"|.append=>"list.append"|.extend=>"list.extend"
theorem fR{n:Nat}{xs:List V}{a:Addr}(R:Rel C X C1 s)(h:C1[n]? =some (.list xs)) (ha:X.at_ n=some a):s.heap.NoDictAt (.ref a):=by
 refine aD (R.list h ha) λvs k g _=>?_
 exact⟨_,g,rfl⟩
theorem xA{m:MI}{o:V}{o':Value}{pl:Sem Bool}{Q:Value×List Value->Shared->Prop}{E:Value->Shared->Prop}(R:Rel C X C1 s)(ro:VRel X o o')(hk:cn m o C1=true)(h:Q (.builtin (Bt m),[o']) s):
 wpAny (model C.prog C.w) A (getMethod o' (Str.ofString m.real) pl) Q E s:=by
 cases m with
 |split=>induction ro using VRel.casesOn with
  |str x t=>with_reducible exact GM.split h
  |_=>simp[cn,fg,bu]at hk
 |find=>induction ro using VRel.casesOn with
  |str x t=>with_reducible exact GM.find h
  |_=>simp[cn,fg,bu]at hk
 |join=>induction ro using VRel.casesOn with
  |str x t=>with_reducible exact GM.join h
  |_=>simp[cn,fg,bu]at hk
 |count=>induction ro using VRel.casesOn with
  |str x t=>with_reducible exact GM.count h
  |_=>simp[cn,fg,bu]at hk
 |sindex=>induction ro using VRel.casesOn with
  |str x t=>with_reducible exact GM.index h
  |_=>simp[cn,fg,bu]at hk
 |lindex=>induction ro using VRel.casesOn with
  |ref n a hn=>
   replace hk:bu (.ref n) C1=true:=hk;unfold bu at hk;dsimp only at hk;split at hk
   ·rename_i xs hx
    refine aD (R.list hx hn) λvs k g _=>?_
    exact Ij F.slot_list_index F.type_list_index (aI g) (fR R hx hn) h
   ·exact aC hk
  |_=>simp[cn,fg,bu]at hk
 |append=>induction ro using VRel.casesOn with
  |ref n a hn=>
   replace hk:bu (.ref n) C1=true:=hk;unfold bu at hk;dsimp only at hk;split at hk
   ·rename_i xs hx
    refine aD (R.list hx hn) λvs k g _=>?_
    exact Ij F.slot_list_append F.type_list_append (aI g) (fR R hx hn) h
   ·exact aC hk
  |_=>simp[cn,fg,bu]at hk
 |extend=>induction ro using VRel.casesOn with
  |ref n a hn=>
   replace hk:bu (.ref n) C1=true:=hk;unfold bu at hk;dsimp only at hk;split at hk
   ·rename_i xs hx
    refine aD (R.list hx hn) λvs k g _=>?_
    exact Ij F.slot_list_extend F.type_list_extend (aI g) (fR R hx hn) h
   ·exact aC hk
  |_=>simp[cn,fg,bu]at hk
theorem vc{xs:List V}{vs:List Value}{sep y:List Nat}(r:VRels X xs vs)(e:cr sep xs=some y):
 ∃l:List (Str×Tok),vs=strValues l/\Str.join (bU sep) (l.map (·.1))=bU y/\(l.map λp=>p.1.length).sum+(l.length-1)*sep.length=y.length:=by
 induction xs generalizing vs y with
 |nil=>cases r;cases e;exact⟨[],rfl,rfl,by simp⟩
 |cons x xs ih=>
  cases r with
  |cons r1 r2=>
   induction r1 using VRel.casesOn with
   |str a t=>
    induction xs using List.casesOn with
    |nil=>cases r2;cases e;exact⟨[(bU _,t)],rfl,rfl,by simp[bU,bB]⟩
    |cons x2 xs=>
     replace e:(cr sep (x2::xs)).map (λt=>a++(sep++t))=some y:=e
     refine ai (EC.mp e) λz hz e'13=>?_;subst e'13
     refine bo (ih r2 hz) λl h1 h2 h3=>?_
     induction l using List.casesOn with
     |nil=>subst h1;cases r2
     |cons p l=>
      refine⟨(bU a,t)::p::l,by(exists h1);rfl,?_,?_⟩
      ·show bU a++bU sep++Str.join (bU sep) ((p::l).map (·.1))=_
       rw[h2,jI,jI,F9]
      ·have:((bU a,t)::p::l).map (λp=>p.1.length)=a.length::(p::l).map (λp=>p.1.length):=by simp[bU,bB]
       exists this,List.sum_cons
       simp only[List.length_cons,List.length_append]at h3⊢
       have:(l.length+1+1-1)*sep.length=(l.length+1-1)*sep.length+sep.length:=by
        rw[show l.length+1+1-1=(l.length+1-1)+1 from rfl,Nat.add_mul,Ia]
       lia
   |_=>exact bq e
theorem tq(sep:Str)(ts:List Str):∀n,ts.foldl (λb a=>b+a.length+sep.length) n=n+(ts.map (·.length)).sum+ts.length*sep.length:=by
 induction ts with
 |nil=>intro n;simp
 |cons t ts ih=>
  intro n
  rw[List.foldl_cons,ih,E0,List.sum_cons,E7,Nat.add_mul,Ia]
  exact DJ (Dm.mp (ao [n,t.length,sep.length,Nat.cast ((List.map (λx=>x.length) ts).sum),Nat.cast (ts.length*sep.length)] [] (.le (.a (.a (.a (.a (.v 0) (.v 1)) (.v 2)) (.v 3)) (.v 4)) (.a (.a (.v 0) (.a (.v 1) (.v 3))) (.a (.v 4) (.v 2)))) 1 rfl)) (Dm.mp (ao [n,t.length,Nat.cast ((List.map (λx=>x.length) ts).sum),Nat.cast (ts.length*sep.length),sep.length] [] (.le (.a (.a (.v 0) (.a (.v 1) (.v 2))) (.a (.v 3) (.v 4))) (.a (.a (.a (.a (.v 0) (.v 1)) (.v 4)) (.v 2)) (.v 3))) 1 rfl))
theorem vd{xs:List V}{vs:List Value}{s':List Nat}{k:Nat}{i:Int}{t:Tok}(r:VRels X xs vs)(ha:ff xs=true)(e:bV s' xs k=some i):
 ∃j:Nat,i=(k+j:Nat)/\(∀y∈vs,MeetsSeq.EqGives y (.str (bU s') t) (isStrOf (bU s') y))/\∃hj:j<vs.length,isStrOf (bU s') vs[j]=true/\∀m (hm:m<vs.length),m<j->isStrOf (bU s') vs[m]=false:=by
 have all:∀{xs:List V}{vs:List Value},VRels X xs vs->ff xs=true->(∀y∈vs,MeetsSeq.EqGives y (.str (bU s') t) (isStrOf (bU s') y)):=by
  intro xs
  induction xs with
  |nil=>intro vs r _ y hy;cases r;cases hy
  |cons x xs ih=>
   intro vs r ha y hy
   cases r with
   |cons r1 r2=>
    induction r1 using VRel.casesOn with
    |str a u=>
     rcases Eo.mp hy with rfl|hy
     ·exact eqGives_str _ _ _ _
     ·exact ih r2 ha y hy
    |_=>exact aC ha
 refine Exists.imp (λj h=>⟨h.1,all r ha,h.2⟩) (show∃j:Nat,i=(k+j:Nat)/\∃hj:j<vs.length,isStrOf (bU s') vs[j]=true/\∀m (hm:m<vs.length),m<j->isStrOf (bU s') vs[m]=false from ?_)
 clear all
 induction xs generalizing vs k with
 |nil=>exact bq e
 |cons x xs ih=>
  cases r with
  |cons r1 r2=>
   induction r1 using VRel.casesOn with
   |str a u=>
    replace e:(if a==s' then some (k:Int)else bV s' xs (k+1))=some i:=e
    split at e
    ·rename_i q
     cases e
     refine⟨0,rfl,by simp,?_,λm hm h=>absurd h (Gp _)⟩
     have:a=s':=D2 q
     subst this
     show isStrOf (bU a) (.str (bU a) u)=true
     unfold isStrOf;simp
    ·rename_i q
     obtain⟨j,h1,hj,h2,h3⟩:=ih (k:=k+1) r2 ha e
     refine⟨j+1,by(exists h1);exact D8 (ao [k,j] [] (.le (.a (.a (.v 0) (.n 1)) (.v 1)) (.a (.v 0) (.a (.v 1) (.n 1)))) 1 rfl) (ao [k,j] [] (.le (.a (.v 0) (.a (.v 1) (.n 1))) (.a (.a (.v 0) (.n 1)) (.v 1))) 1 rfl),by simpa using hj,by simpa using h2,λm hm hlt=>?_⟩
     induction m using Nat.casesOn with
     |zero=>
      show isStrOf (bU s') (.str (bU a) u)=false
      unfold isStrOf
      simpa using λz=>q (by simpa using gu z)
     |succ m=>simpa using h3 m (by simpa using hm) (by exact Es (EA hlt))
   |_=>exact aC ha
theorem ve{ps:List (List Nat)}{l:List (Str×Tok)}(h:l.map (·.1)=ps.map bU):VRels X (ps.map V.str) (strValues l):=by
 induction ps generalizing l with
 |nil=>cases l with|nil=>exact .nil|cons=>simp at h
 |cons p ps ih=>
  induction l using List.casesOn with
  |nil=>simp at h
  |cons q l=>
   simp only[List.map_cons,List.cons.injEq]at h
   obtain⟨x,t⟩:=q
   simp only at h
   refine aA h λh1 h2=>?_;clear h
   subst h1
   exact .cons (.str p t) (ih h2)
theorem qt{x:Str}{y:Str}{t u:Tok}{prog:Program}{w:World}{E:Value->Shared->Prop}{Q:Value->Shared->Prop}(hy:(y.length==0)=false)(hsz:x.length<=sizeLine)(hsz2:(Txt.split x y).length<=sizeLine)
 (hq:∀l tk,l.map (·.1)=Txt.split x y->Q (.ref s.heap.objs.size) {s with heap:=s.heap.push {cls:=.type "list",data:=.seq (strValues l).toArray},toks:=tk}):
 wpAny (model prog w) A (call (.builtin "str.split") [.str x t,.str y u]) Q E s:=by
 cases h1:(decide (x.length<y.length)||decide (Builtin.Str.strKind x<Builtin.Str.strKind y))
 ·cases hf:(Builtin.Str.occurrences x y 0 x.length (x.length+1)).isEmpty
  ·have e:Txt.split x y=Builtin.Str.partsBetween x (Builtin.Str.occurrences x y 0 x.length (x.length+1)) y.length:=(if_neg (GE h1)).trans (if_neg (GE hf))
   refine FR HA (Hh _ _ _) Ht (Hj _ _) (meets_str_split_sep x y t u h1 hy hf hsz (e▸hsz2)) ?_
   show wants Q E _ {s with toks:=_,heap:=s.heap.push {cls:=.type "list",data:=.seq (strsFrom s.toks (Builtin.Str.partsBetween x (Builtin.Str.occurrences x y 0 x.length (x.length+1)) y.length)).toArray}}
   rw[strsFrom_eq]
   exact hq (numbered s.toks _) _ ((numbered_texts _ _).trans e.symm)
  ·exact FR HA (Hh _ _ _) Ht (Hj _ _) (meets_str_split_not_found x y t u h1 hy hf)
    (hq [(x,t)] s.toks ((if_neg (GE h1)).trans (if_pos hf)).symm)
 ·exact FR HA (Hh _ _ _) Ht (Hj _ _) (meets_str_split_cannot_occur x y t u h1)
   (hq [(x,t)] s.toks (if_pos h1).symm)
end
section
variable{C:Cx}{A:Around}{X:Wd}{C1:Hp}{s:Shared}{own:fA}
theorem je{s:Shared}{a:Addr}{items:Array Value}{n:Nat}{f:Array Value->Array Value}(g:s.heap.get? a=some {cls:=.type "list",data:=.seq items n}):
 ∃k,(s.heap.update a (Obj.mapSeq f)).get? a=some {cls:=.type "list",data:=.seq (f items) k}:=
 ⟨_,DP (Obj.mapSeq f) g rfl⟩
theorem fj{motive:V->List V->Prop}(o:V)(l:List V)(s:∀x c,motive (.str x) [.str [c]])(no:∀o l,(∀f,mF f o l=.no)->motive o l):motive o l:=by
 induction o using V.casesOn with
 |str x=>induction l using List.casesOn with
  |nil=>exact no _ _ λ_=>rfl
  |cons y r=>induction y using V.casesOn with
   |str y=>induction y using List.casesOn with
    |nil=>exact no _ _ λ_=>(by first|rfl|(induction r using List.casesOn<;>rfl))
    |cons c y=>induction y using List.casesOn with
     |nil=>induction r using List.casesOn with
      |nil=>exact s x c
      |cons=>exact no _ _ λ_=>rfl
     |cons=>exact no _ _ λ_=>(by first|rfl|(induction r using List.casesOn<;>rfl))
   |_=>exact no _ _ λ_=>(by first|rfl|(induction r using List.casesOn<;>rfl))
 |_=>exact no _ _ λ_=>rfl
theorem oF{motive:V->List V->Prop}{h:Hp}(o:V)(l:List V)(s:∀x n,motive (.str x) [.ref n])(no:∀o l,rU o l h=.no->motive o l):motive o l:=by
 induction o using V.casesOn with
 |str x=>induction l using List.casesOn with
  |nil=>exact no _ _ rfl
  |cons y r=>induction y using V.casesOn with
   |ref n=>induction r using List.casesOn with
    |nil=>exact s x n
    |cons=>exact no _ _ rfl
   |_=>exact no _ _ (by first|rfl|(induction r using List.casesOn<;>rfl))
 |_=>exact no _ _ rfl
theorem m4{motive:V->List V->Prop}{h:Hp}(o:V)(l:List V)(s:∀n x,motive (.ref n) [.str x])(no:∀o l,mG o l h=.no->motive o l):motive o l:=by
 induction o using V.casesOn with
 |ref n=>induction l using List.casesOn with
  |nil=>exact no _ _ rfl
  |cons y r=>induction y using V.casesOn with
   |str x=>induction r using List.casesOn with
    |nil=>exact s n x
    |cons=>exact no _ _ rfl
   |_=>exact no _ _ (by first|rfl|(induction r using List.casesOn<;>rfl))
 |_=>exact no _ _ rfl
theorem ly{motive:V->List V->Prop}{h:Hp}(o:V)(l:List V)(s:∀n v,motive (.ref n) [v])(no:∀o l,gj o l h=.no->motive o l):motive o l:=by
 induction o using V.casesOn with
 |ref n=>induction l using List.casesOn with
  |nil=>exact no _ _ rfl
  |cons y r=>induction r using List.casesOn with
   |nil=>exact s n y
   |cons=>exact no _ _ rfl
 |_=>exact no _ _ rfl
theorem lz{motive:V->List V->Prop}{h:Hp}(o:V)(l:List V)(s:∀n m,motive (.ref n) [.ref m])(no:∀o l,jE o l h=.no->motive o l):motive o l:=by
 induction o using V.casesOn with
 |ref n=>induction l using List.casesOn with
  |nil=>exact no _ _ rfl
  |cons y r=>induction y using V.casesOn with
   |ref m=>induction r using List.casesOn with
    |nil=>exact s n m
    |cons=>exact no _ _ rfl
   |_=>exact no _ _ (by first|rfl|(induction r using List.casesOn<;>rfl))
 |_=>exact no _ _ rfl
theorem oG{m:MI}{o:V}{o':Value}{vs:List V}{xs:List Value}{Q:Value->Shared->Prop}{E:Value->Shared->Prop}(R:Rel C X C1 s)(ro:VRel X o o')(r:VRels X vs xs)
 (ob:Ob C own X s.heap VRel (meth m o vs C1) Q E):wpAny (model C.prog C.w) A (call (.builtin (Bt m)) (o'::xs)) Q E s:=by
 cases m with
 |split=>
  replace ob:Ob C own X s.heap VRel (mF (λs c=>if ae s.length then .ok (.ref C1.length) (C1++[.list ((aa c s).map .str)])else .no) o vs) Q E:=ob
  induction o,vs using fj with
  |s x c=>
   replace ob:Ob C own X s.heap VRel (ite _ _ _) Q E:=ob
   refine aB ro.strI λt e'1=>?_;subst e'1
   refine aB r.str1 λu e'2=>?_;subst e'2
   split at ob
   ·rename_i hl
    have hl:=aK hl
    have hz:=j7 c x
    refine bp (qt (x:=bU x) (y:=⟨#[c]⟩) rfl (by show(bU x).length<=_;unfold bU;rw[bB,D7];exact aT hl rfl) (by rw[j5,DD,D7];exact Dw hz (Ea (aT hl rfl) _)) λl tk he=>λhtk=>?_)
    rw[j5]at he
    have mk:=Ext.make (own:=own) (C:=C) (X:=X) (C1:=C1) (o:=.list ((aa c x).map .str)) (h':=s.heap.push {cls:=.type "list",data:=.seq (strValues l).toArray}) (tk:=tk) (a:=s.heap.objs.size)
     R (DA R.toks htk) (λb o e=>Dx _ e) (by rw[DM];exact Ee _) (Dy _) (Dz _ rfl) (λY hY _=>⟨_,0,Dz _ rfl,ve he⟩)
    exact ob.ok _ _ rfl _ _ _ mk.1 mk.2
   ·exact ob.absurd
  |no o l e=>rw[e]at ob;exact ob.absurd
 |find=>
  replace ob:Ob C own X s.heap VRel (mF (λs c=>.ok (.int (ac c s 0)) C1) o vs) Q E:=ob
  induction o,vs using fj with
  |s x c=>
   replace ob:Ob C own X s.heap VRel (.ok (.int (ac c x 0)) C1) Q E:=ob
   refine aB ro.strI λt e'3=>?_;subst e'3
   refine aB r.str1 λu e'4=>?_;subst e'4
   have q:=ob.fin (Ext.toks R (DC s.toks)) (.int (ac c x 0) s.toks)
   rw[<-rZ]at q
   with_reducible refine SC.find ?_
   exact q
  |no o l e=>rw[e]at ob;exact ob.absurd
 |join=>
  replace ob:Ob C own X s.heap VRel (rU o vs C1) Q E:=ob
  induction o,vs using oF (h:=C1)with
  |s x n=>
   replace ob:Ob C own X s.heap VRel (match C1[n]? with|some (.list xs)=>(match cr x xs with|some t=>if ae t.length&&ae x.length then .ok (.str t) C1 else .no|none=>.no)|_=>.no) Q E:=ob
   split at ob
   ·rename_i ys hy
    split at ob
    ·rename_i y he
     split at ob
     ·rename_i hl
      replace hl:=and2 hl
      have hl1:=aK hl.1
      have hl2:=aK hl.2
      refine aB ro.strI λt e'5=>?_;subst e'5
      refine ai r.ref1 λa e'6 hn=>?_;subst e'6
      refine aD (R.list hy hn) λws k g rr=>?_
      refine bo (vc rr he) λl h1 h2 h3=>?_
      subst h1
      have hok:JoinOk (bU x) (l.map (·.1))=true:=by
       unfold JoinOk Builtin.Str.tooLong
       rw[<-Array.foldl_toList,tq,D7]
       simp only[List.map_map,Bool.not_eq_true',decide_eq_false_iff_not,Nat.not_lt,List.length_map]
       have e1:(bU x).length=x.length:=bB x
       have e2:(l.map ((λy=>y.length)∘λp=>p.1)).sum=(l.map λp=>p.1.length).sum:=rfl
       have e3:l.length*x.length<=(l.length-1)*x.length+x.length:=by
        induction l using List.casesOn with
        |nil=>simp
        |cons p l=>simp[Nat.add_mul]
       show 0+(l.map ((λy=>y.length)∘λp=>p.1)).sum+l.length*(bU x).length<=_
       exists e1,e2;exact Dm.mp (ao [Nat.cast ((List.map (λp=>p.fst.length) l).sum),Nat.cast (l.length*x.length),Nat.cast ((l.length-1)*x.length),x.length,y.length] [(.le (.v 1) (.a (.v 2) (.v 3)),1),(.eq (.a (.v 0) (.v 2)) (.v 4),1),(.le (.v 3) (.n 100000),1),(.le (.v 4) (.n 100000),1)] (.le (.a (.a (.n 0) (.v 0)) (.v 1)) (.n 16777216)) 1 rfl (Dm.mpr e3) (Ds Int.ofNat h3) (Dm.mpr hl2) (Dm.mpr hl1))
      refine bp (SC.join (l:=l) (aI g) rfl hok λt' tk=>λhtk=>?_)
      have q:=ob.fin (X1:=X) (s1:={s with toks:=tk}) (Ext.toks R (DA R.toks htk)) (.str y t')
      have e:Txt.join (bU x) (l.map (·.1))=bU y:=(StrLaws.glued_eq_join _ _).trans h2
      show Q (.str (Txt.join (bU x) (l.map (·.1))) t') _
      exists e
      exact q
     ·exact ob.absurd
    ·exact ob.absurd
   ·exact ob.absurd
  |no o l e=>rw[e]at ob;exact ob.absurd
 |count=>
  replace ob:Ob C own X s.heap VRel (mF (λs c=>.ok (.int (s.count c)) C1) o vs) Q E:=ob
  induction o,vs using fj with
  |s x c=>
   replace ob:Ob C own X s.heap VRel (.ok (.int (x.count c)) C1) Q E:=ob
   refine aB ro.strI λt e'7=>?_;subst e'7
   refine aB r.str1 λu e'8=>?_;subst e'8
   have q:=ob.fin (Ext.toks R (DC s.toks)) (.int (x.count c) s.toks)
   rw[<-th]at q
   with_reducible refine SC.count ?_
   exact q
  |no o l e=>rw[e]at ob;exact ob.absurd
 |sindex=>
  replace ob:Ob C own X s.heap VRel (mF (λs c=>if s.contains c then .ok (.int (ac c s 0)) C1 else .no) o vs) Q E:=ob
  induction o,vs using fj with
  |s x c=>
   replace ob:Ob C own X s.heap VRel (ite _ _ _) Q E:=ob
   refine aB ro.strI λt e'9=>?_;subst e'9
   refine aB r.str1 λu e'10=>?_;subst e'10
   split at ob
   ·rename_i hc
    have q:=ob.fin (Ext.toks R (DC s.toks)) (.int (ac c x 0) s.toks)
    rw[<-rZ]at q
    unfold Txt.find at q
    cases ho:Builtin.Str.occurrences (bU x) ⟨#[c]⟩ 0 (bU x).length 1 with
    |nil=>
     have h1:=StrLaws.found_one (bU x) c
     rw[ho]at h1
     simp[bU]at h1
     simp at hc
     exact absurd hc (of_decide_eq_false h1)
    |cons i rest=>
     rw[ho]at q
     refine SC.index (x:=bU x) ho ?_
     exact q
   ·exact ob.absurd
  |no o l e=>rw[e]at ob;exact ob.absurd
 |lindex=>
  replace ob:Ob C own X s.heap VRel (mG o vs C1) Q E:=ob
  induction o,vs using m4 (h:=C1)with
  |s n y=>
   replace ob:Ob C own X s.heap VRel (match C1[n]? with|some (.list xs)=>if ff xs&&ae xs.length then(match bV y xs 0 with|some i=>.ok (.int i) C1|none=>.no)else .no|_=>.no) Q E:=ob
   split at ob
   ·rename_i ys hy
    split at ob
    ·rename_i hh
     replace hh:=and2 hh
     have hl:=aK hh.2
     split at ob
     ·rename_i i hi
      refine ai ro.refI λa e'11 hn=>?_;subst e'11
      refine aB r.str1 λu e'12=>?_;subst e'12
      refine aD (R.list hy hn) λws k g rr=>?_
      obtain⟨j,e1,e2,hj,e3,e4⟩:=vd (t:=u) rr hh.1 hi
      have hle:=rr.length
      have q:=ob.fin (Ext.toks R (DC s.toks)) (.int i s.toks)
      refine FR F.slot_list_index ⟨_,g,rfl⟩ F.entry_list_index (F.args_list_index_2 _ _)
       (MeetsSeq.list_index a ws.toArray k (.str (bU y) u) (isStrOf (bU y)) (λz hz=>e2 z (by simpa using hz)) j (by simpa using hj) (by exact ao [j,ys.length,ws.length] [(.eq (.v 1) (.v 2),-1),(.lt (.v 0) (.v 2),1),(.le (.v 1) (.n 100000),1)] (.lt (.v 0) (.s (.n 9223372036854775808) (.n 1))) 1 rfl (Ds Int.ofNat hle) (Dt.mpr hj) (Dm.mpr hl)) (by simpa using e3) (λm hm hlt=>by simpa using e4 m (by simpa using hm) hlt)) ⟨g,?_⟩
      rw[e1]at q
      simp only[Nat.zero_add]at q
      exact q
     ·exact ob.absurd
    ·exact ob.absurd
   ·exact ob.absurd
  |no o l e=>rw[e]at ob;exact ob.absurd
 |append=>
  replace ob:Ob C own X s.heap VRel (gj o vs C1) Q E:=ob
  induction o,vs using ly (h:=C1)with
  |s n v=>
   replace ob:Ob C own X s.heap VRel (match C1[n]? with|some (.list xs)=>if ae xs.length then .ok .none (C1.set n (.list (xs++[v])))else .no|_=>.no) Q E:=ob
   split at ob
   ·rename_i ys hy
    split at ob
    ·rename_i hl
     have hl:=aK hl
     refine ai ro.refI λa e'13 hn=>?_;subst e'13
     cases r with|cons r1 r2=>
     cases r2
     rename_i v'
     refine aD (R.list hy hn) λws k g rr=>?_
     have hle:=rr.length
     refine aB (je (f:=λx=>x.push v') g) λk' g'=>?_
     have q:=ob.ok _ _ rfl X {s with heap:=s.heap.update a (Obj.mapSeq λx=>x.push v'),toks:=s.toks} .none (Ext.remake (tk:=s.toks) R.toks R hy hn (ET ..) ⟨ws++[v'],k',by(exists g');simp,rr.snoc r1⟩) .none
     exact FR F.slot_list_append ⟨_,g,rfl⟩ F.entry_list_append (F.args_list_append_2 _ _) (AutoListH.list_append_list_val_0 a ws.toArray k v' (by(exists DV,D7);exact Dm.mp (ao [ws.length,ys.length] [(.eq (.v 1) (.v 0),-1),(.le (.v 1) (.n 100000),1)] (.le (.v 0) (.n 16777216)) 1 rfl (Ds Int.ofNat hle) (Dm.mpr hl)))) ⟨g,q⟩
    ·exact ob.absurd
   ·exact ob.absurd
  |no o l e=>rw[e]at ob;exact ob.absurd
 |extend=>
  replace ob:Ob C own X s.heap VRel (jE o vs C1) Q E:=ob
  induction o,vs using lz (h:=C1)with
  |s n m=>
   replace ob:Ob C own X s.heap VRel (match C1[n]?,C1[m]? with|some (.list xs),some (.list ys)=>if n !=m&&ae xs.length&&ae ys.length then .ok .none (C1.set n (.list (xs++ys)))else .no|_,_=>.no) Q E:=ob
   split at ob
   ·rename_i ys zs hy hz
    split at ob
    ·rename_i hh
     refine jT hh λhne h1 h2=>?_;clear hh
     have h1:=aK h1
     have h2:=aK h2
     refine ai ro.refI λa e'15 hn=>?_;subst e'15
     refine ai r.ref1 λb e'16 hm=>?_;subst e'16
     refine aD (R.list hy hn) λws k g rr=>?_
     refine aD (R.list hz hm) λws2 k2 g2 rr2=>?_
     have hle:=rr.length
     have hle2:=rr2.length
     refine aB (je (f:=λx=>x++ws2.toArray) g) λk' g'=>?_
     have q:=ob.ok _ _ rfl X {s with heap:=s.heap.update a (Obj.mapSeq λx=>x++ws2.toArray),toks:=s.toks} .none (Ext.remake (tk:=s.toks) R.toks R hy hn (ET ..) ⟨ws++ws2,k',by(exists g');simp,rr.append rr2⟩) .none
     exact FR F.slot_list_extend ⟨_,g,rfl⟩ F.entry_list_extend (F.args_list_extend_2 _ _) (AutoSeq1.list_extend_list_list_0 a ws.toArray k b ws2.toArray k2
      (by simp[Builtin.List.listTooLong,sizeLine_eq];intro _;exact Dm.mp (ao [ws.length,ws2.length,zs.length,ys.length] [(.eq (.v 2) (.v 1),-1),(.eq (.v 3) (.v 0),-1),(.le (.v 2) (.n 100000),1),(.le (.v 3) (.n 100000),1)] (.le (.a (.v 0) (.v 1)) (.n 16777216)) 1 rfl (Ds Int.ofNat hle2) (Ds Int.ofNat hle) (Dm.mpr h2) (Dm.mpr h1))) (by(exists DV,D7);exact Dm.mp (ao [ws.length,ys.length] [(.eq (.v 1) (.v 0),-1),(.le (.v 1) (.n 100000),1)] (.le (.v 0) (.n 16777216)) 1 rfl (Ds Int.ofNat hle) (Dm.mpr h1))) (by(exists DV,DV,D7);exact Dm.mp (ao [ws.length,ws2.length,zs.length,ys.length] [(.eq (.v 2) (.v 1),-1),(.eq (.v 3) (.v 0),-1),(.le (.v 2) (.n 100000),1),(.le (.v 3) (.n 100000),1)] (.le (.a (.v 0) (.v 1)) (.a (.n 16777216) (.n 1))) 1 rfl (Ds Int.ofNat hle2) (Ds Int.ofNat hle) (Dm.mpr h2) (Dm.mpr h1)))) ⟨g,g2,q⟩
    ·exact ob.absurd
   ·exact ob.absurd
  |no o l e=>rw[e]at ob;exact ob.absurd
theorem vf{x:List Nat}{a b:Nat}{t u v:Tok}{Q:Value->Shared->Prop}{E:Value->Shared->Prop}(R:Rel C X C1 s)(hl:ae x.length=true)(hab:(a !=b)=true)(hu:u≠0)(hv:v≠0)(huv:u≠v)
 (h:∀t' tk,0<tk->Q (.str (bU (x.map λy=>if y==a then b else y)) t') {s with toks:=tk}):
 wpAny (model C.prog C.w) A (call (.builtin "str.replace") [.str (bU x) t,.str ⟨#[a]⟩ u,.str ⟨#[b]⟩ v]) Q E s:=by
 have hl:=aK hl
 have hb:(bU x).length=x.length:=bB x
 refine bp (SC.replace hu hv huv ?_ ?_ λt' tk=>λhtk=>?_)
 ·have:¬a=b:=by simpa using hab
  exact Ef.mpr λz=>this (by simpa using gu (a:=[a]) (b:=[b]) z)
 ·exists hb,(show(⟨#[b]⟩:Str).length=1 from rfl);lia
 ·rw[oD];exact h t' tk (DA R.toks htk)
end
theorem zZ:(List.range 30).all (λa=>(List.range 30).all λb=>!(ay a==ay b)||a==b)=true:=by decide+kernel
theorem vg:attrN.length=30:=by decide+kernel
theorem lT{a b:Nat}(ha:(attrN[a]?).isSome=true) (hb:(attrN[b]?).isSome=true) (e:ay a=ay b):a=b:=by
 refine aB (D3.mp ha) λx hx=>?_
 refine aB (D3.mp hb) λy hy=>?_
 have h1:=(Dr.mp hx).1
 have h2:=(Dr.mp hy).1
 rw[vg]at h1 h2
 have:=DE.mp (DE.mp zZ a (Ei.mpr h1)) b (Ei.mpr h2)
 rw[e]at this
 simpa using this
section
variable{C:Cx}{X:Wd}
theorem tu{fs:List (Nat×V)}{es:List DictEntry}(r:FRel C X fs es){a:Nat}(ha:(attrN[a]?).isSome=true):
 (aG a fs=none/\es.find? (λx:DictEntry=>x.key.isStr (ay a))=none)\/∃v e,aG a fs=some v/\es.find? (λx:DictEntry=>x.key.isStr (ay a))=some e/\VRel X v e.val:=by
 induction r with
 |nil=>exact .inl ⟨rfl,rfl⟩
 | @cons b v x t fs es hb hv hr ih=>
  by_cases q:b=a
  ·subst q
   refine .inr ⟨v,_,by simp[aG],Gn (by show(ay b==ay b)=true;exact DO _),hv⟩
  ·have q1:(b==a)=false:=by simpa using q
   have q2:(ay b==ay a)=false:=Ef.mpr λz=>q (lT hb ha z)
   exists(show aG a ((b,v)::fs)=aG a fs by simp[aG,q1]),(EP (by show¬(ay b==ay a)=true;rw[q2];exact Do))
   exact ih
theorem j8{fs:List (Nat×V)}{es:List DictEntry}(r:FRel C X fs es):es.any (·.refKey)=false:=by
 induction r with
 |nil=>rfl
 |cons _ _ _ ih=>(exists ER,ih);rfl
theorem oH{fs:List (Nat×V)}{es:List DictEntry}(r:FRel C X fs es):fs.length=es.length:=by
 induction r with
 |nil=>rfl
 |cons _ _ _ ih=>simp[ih]
theorem lU{fs:List (Nat×V)}{es:List DictEntry}{k:Nat}(r:FRel C X fs es){a:Nat}(ha:(attrN[a]?).isSome=true) {v:V} (e:aG a fs=some v):
 ∃v',lookIn (ay a) (dictOf es k)=some (some v')/\VRel X v v':=by
 rcases tu r ha with⟨h,_⟩|⟨w,en,h1,h2,h3⟩
 ·rw[e]at h;exact zO h
 ·rw[e]at h1;cases h1
  refine⟨en.val,?_,h3⟩
  unfold lookIn
  show(match List.find? _ es.toArray.toList with|some e=>some (some e.val)|none=>_)=_
  exists(show es.toArray.toList=es from rfl),h2;rfl
theorem gB{fs:List (Nat×V)}{es:List DictEntry}{k:Nat}(r:FRel C X fs es)(n:Str):(lookIn n (dictOf es k)).isSome=true:=by
 unfold lookIn
 show(match List.find? (λx:DictEntry=>x.key.isStr n) es.toArray.toList with|some e=>some (some e.val)|none=>if es.toArray.toList.any (·.refKey)then none else some none).isSome=true
 exists(show es.toArray.toList=es from rfl)
 cases es.find? (λx:DictEntry=>x.key.isStr n)with
 |some e=>rfl
 |none=>rw[j8 r];rfl
theorem oI{fs:List (Nat×V)}{es:List DictEntry}{k:Nat}{t:Tok}(r:FRel C X fs es){a:Nat}(ha:(attrN[a]?).isSome=true) {v:V} {v':Value} (rv:VRel X v v'):
 ∃es' k',Obj.putName (ay a) (PyData.keyHash C.w.params (ay a)) (.str (ay a) t) v' (dictOf es k)=dictOf es' k'/\FRel C X (dI a v fs) es':=by
 exists Obj.putName_eq
 show∃es' k',(match es.toArray.findIdx? (λx:DictEntry=>x.key.isStr (ay a))with|some i=>(⟨.type "dict",none,.dict (es.toArray.modify i λe=>{e with val:=v'}) k,#[]⟩:Obj)|none=>⟨.type "dict",none,.dict (es.toArray.push ⟨_,.str (ay a) t,v'⟩) (k+1),#[]⟩)=dictOf es' k'/\_
 have key:(es.findIdx? (λx:DictEntry=>x.key.isStr (ay a))=none/\FRel C X (dI a v fs) (es++[⟨PyData.keyHash C.w.params (ay a),.str (ay a) t,v'⟩]))\/
  ∃i,es.findIdx? (λx:DictEntry=>x.key.isStr (ay a))=some i/\FRel C X (dI a v fs) (es.modify i λe=>{e with val:=v'}):=by
  induction r with
  |nil=>exact .inl ⟨rfl,.cons ha rv .nil⟩
  | @cons b w x u fs es hb hv hr ih=>
   by_cases q:b=a
   ·subst q
    refine .inr ⟨0,?_,?_⟩
    ·exists GK,(show((Value.str (ay b) u).isStr (ay b))=true from DO _);rfl
    ·exists(show dI b v ((b,w)::fs)=(b,v)::fs by simp[dI])
     exact .cons hb rv hr
   ·have q1:(b==a)=false:=by simpa using q
    have q2:(ay b==ay a)=false:=Ef.mpr λz=>q (lT hb ha z)
    have q3:((Value.str (ay b) u).isStr (ay a))=false:=q2
    exists(show dI a v ((b,w)::fs)=(b,w)::dI a v fs by simp[dI,q1]),GK,q3
    rcases ih with⟨h1,h2⟩|⟨i,h1,h2⟩
    ·exact .inl ⟨by(exists h1);rfl,.cons hb hv h2⟩
    ·exact .inr ⟨i+1,by(exists h1);rfl,.cons hb hv h2⟩
 rw[<-List.findIdx?_toArray]at key
 rcases key with⟨h1,h2⟩|⟨i,h1,h2⟩
 ·exists h1;exact⟨_,k+1,by simp,h2⟩
 ·exists h1;exact⟨_,k,by simp,h2⟩
theorem jf(a:Nat)(v:V)(fs:List (Nat×V)):(dI a v fs).length<=fs.length+1:=by
 induction fs with
 |nil=>simp[dI]
 |cons p fs ih=>obtain⟨b,w⟩:=p;unfold dI;split<;>simp<;>exact ih
end
noncomputable def oJ(f:Addr->Bool)(g:Value->Bool)(v:Value):Bool:=@Value.casesOn (λ_=>Bool) v (g v) (g v) (g v) (λ_=>g v) (λ_ _=>g v) (λ_ _=>g v) (λ_ _=>g v) (λ_ _=>g v) (λ_=>g v) (λ_=>g v) f
theorem j9{f:Addr->Bool}{g:Value->Bool}{v:Value}{P:Prop}(h:oJ f g v=true)(k:∀a,v=.ref a->f a=true->P)(j:g v=true->P):P:=by
 induction v using Value.casesOn with
 |ref a=>exact k a rfl h
 |_=>exact j h
noncomputable def bR:List Value->Bool
 |[]=>false
 |v::r=>oJ (λ_=>bR r) (λv=>v==.type "Exception"&&r==[.type "BaseException",.type "object"]) v
noncomputable def gx(K:Frag)(C:Addr):Bool:=(clsIn K C).any λcd=>bR cd.mro
structure ClsOk (K:Frag) (Ca:Addr) (exc:Bool):Prop where
 cd:∃cd,clsIn K Ca=some cd/\cd.hasDict=true
 attrs:∀a,(attrN[a]?).isSome=true->findIn K (.ref Ca) (ay a)=some none
 ga:findIn K (.ref Ca) "__getattribute__"=some (some (.builtin (if exc then "BaseException.__getattribute__"else "object.__getattribute__")))
 sa:findIn K (.ref Ca) "__setattr__"=some (some (.builtin "object.__setattr__"))
 over:exc=false->plainOver K Ca=true
 overX:exc=true->gx K Ca=true
 hookX:findIn K (.ref Ca) "__getattr__"=some none
 mt:typeIn K (.ref Ca)=some (.type "type")
 exm:exc=true->exmOne K (.ref Ca) (.ref Ca)=some true
section
variable{prog:Program}{w:World}{A:Around}{K:Frag}{x Ca:Addr}{s:Shared}{R:Result->Shared->Prop}
theorem tx{ox od:Obj}{dx:Addr}{name:Str}{tk:Tok}{v:Value}{es':List DictEntry}{n':Nat}(X:K.In s.heap)
 (I:InstAt s.heap x ox Ca (some od))(hd:ox.dict=some dx)(hp:plainOver K Ca=true)(ht:takerIn K Ca name=some none)(hh:(clsIn K Ca).any (·.hasDict)=true)
 (hl:(lookIn name od).isSome=true)(e:Obj.putName name (PyData.keyHash w.params name) (.str name s.toks) v od=dictOf es' n')(hz:es'.length<=1000)
 (h:R (.ok (.ret .none)) {s with heap:=s.heap.update dx (Obj.putName name (PyData.keyHash w.params name) (.str name s.toks) v),toks:=s.toks+1}):
 codeAny (model prog w) A (.call (.builtin "object.__setattr__") ⟨[.ref x,.str name tk,v],[]⟩) R s:=by
 refine osa_open X I hp ht λb=>?_
 refine ai (HB hh) λcd hc hd'=>?_
 obtain⟨hx,hcl,hn,hdd⟩:=I
 obtain⟨oc,odi,oda,osl⟩:=ox
 dsimp only at hcl hd hdd
 subst hcl hd
 have D:s.heap.get? dx=some od:=hdd
 have D':(s.heap.update dx (Obj.putName name (PyData.keyHash w.params name) (.str name s.toks) v)).get? dx=some (dictOf es' n'):=by
  exists(DP _ D (by rw[e];rfl)),e;rfl
 refine Dn (Dv (Dn (Dn (Fk hx (Dn ((HV X hc).here ?_))))))
 exists hd'
 refine Dv (a:=some dx) (Dn (Dv (Dn ?_)))
 unfold nsSet
 refine Dn (Dn (HC (Dv (Dn (Hu (Dn (Fk D ?_)))))))
 unfold lookIn at hl
 split at hl
 ·rename_i es0 n₀ q
  exists q
  dsimp only
  have c:(!es0.any (·.key.isStr name)&&es0.any (·.refKey))=false:=by
   refine bt FF ?_;refine bt FF ?_
   split at hl
   ·rename_i en he
    exists(G7.mpr ⟨en,Hw he,List.find?_some he⟩);rfl
   ·split at hl
    ·exact aC hl
    ·rename_i z;rw[Bool.not_eq_true]at z;rw[z,EM]
  rw[GF,c]
  refine Gy D ?_
  refine Dn (HD D' (HE (by rw[DV,D7];exact aT hz rfl)) ?_)
  exact Dv h
 ·exact aC hl
end
section
variable{C:Cx}{A:Around}{X:Wd}{C1:Hp}{s:Shared}{own:fA}
theorem m6{n c:Nat}{fs:List (Nat×V)}{a:Addr}{at_:Nat}{v:V}{expr:Bool}{Q:Value->Shared->Prop}{E:Value->Shared->Prop}(Kok:CxOk C)(hcls:∀c Ca,C.cls c=some Ca->ClsOk C.K Ca ((C.P.excs[c]?).getD false))
 (R:Rel C X C1 s) (hn:C1[n]? =some (.inst c fs)) (ha:X.at_ n=some a) (hat:(attrN[at_]?).isSome=true) (e:aG at_ fs=some v)
 (h:∀v',VRel X v v'->Q v' {s with toks:=s.toks+1}):wpAny (model C.prog C.w) A (getAttr (.ref a) (ay at_) expr) Q E s:=by
 refine dC (R.objs n _ hn) λa' h1 h2 hinst Ca dx es k g1 g2 g3 g4 g5=>?_
 rw[ha]at h1;cases h1
 have O:=hcls _ _ g1
 rw[hinst]at O
 refine ai O.cd λcd hcd hdict=>?_
 have XK:C.K.In s.heap:=Kok.kin.keeps R.keep
 refine ai (lU (k:=k) g5 hat e) λv' hl hv=>?_
 have hh:handedIn v'=true:=by cases hv<;>rfl
 have I:InstAt s.heap a (instObj Ca dx) Ca (some (dictOf es k)):=⟨g2,rfl,rfl,g4⟩
 have hf:findObj C.K Ca (some (dictOf es k)) (ay at_)=some (.value v'):=by
  unfold findObj
  exists hcd,(O.attrs at_ hat)
  show(W.ownOf cd (some (dictOf es k)) (ay at_)).bind _=_
  unfold W.ownOf
  rw[hdict,if_pos rfl]
  show((lookIn (ay at_) (dictOf es k)).bind _)=_
  rw[hl];rfl
 exact get_value XK I O.ga hf hh (h v' hv)
theorem m7{n c:Nat}{fs:List (Nat×V)}{a:Addr}{at_:Nat}{v:V}{v':Value}{Q:Unit->Shared->Prop}{E:Value->Shared->Prop}(Kok:CxOk C)(hcls:∀c Ca,C.cls c=some Ca->ClsOk C.K Ca ((C.P.excs[c]?).getD false))
 (R:Rel C X C1 s) (hn:C1[n]? =some (.inst c fs)) (ha:X.at_ n=some a) (hat:(attrN[at_]?).isSome=true) (rv:VRel X v v') (hlen:fs.length<=100)
 (h:∀s',Ext C own X s.heap X (C1.set n (.inst c (dI at_ v fs))) s'->Q () s'):wpAny (model C.prog C.w) A (setAttr (.ref a) (ay at_) v') Q E s:=by
 refine dC (R.objs n _ hn) λa' h1 h2 hinst Ca dx es k g1 g2 g3 g4 g5=>?_
 rw[ha]at h1;cases h1
 have O:=hcls _ _ g1
 rw[hinst]at O
 refine ai O.cd λcd hcd hdict=>?_
 have XK:C.K.In s.heap:=Kok.kin.keeps R.keep
 have I:InstAt s.heap a (instObj Ca dx) Ca (some (dictOf es k)):=⟨g2,rfl,rfl,g4⟩
 refine aD (oI (k:=k) (t:=s.toks+1) g5 hat rv) λes' k' hp hr=>?_
 have hl:es'.length<=1000:=by have:=oH hr;have:=jf at_ v fs;lia
 have hne:a≠dx:=λq=>by subst q;rw[h2]at g3;cases g3
 have D':(s.heap.update dx (Obj.putName (ay at_) (PyData.keyHash C.w.params (ay at_)) (.str (ay at_) (s.toks+1)) v')).get? dx=some (dictOf es' k'):=by
  exists(DP _ g4 (by rw[hp];rfl)),hp;rfl
 have ex:∀tk,0<tk->Ext C own X s.heap X (C1.set n (.inst c (dI at_ v fs))) {s with heap:=s.heap.update dx (Obj.putName (ay at_) (PyData.keyHash C.w.params (ay at_)) (.str (ay at_) (s.toks+1)) v'),toks:=tk}:=λtk htk=>by
  have hn':n<C1.length:=(Dr.mp hn).1
  have oth:∀b,b≠dx->(s.heap.update dx (Obj.putName (ay at_) (PyData.keyHash C.w.params (ay at_)) (.str (ay at_) (s.toks+1)) v')).get? b=s.heap.get? b:=λb hb=>Ed _ _ (Eb hb)
  refine⟨.refl X,R.turn (.refl X) hn' (λb ob t hb ht1 ht2 _ eb=>?_) (λb hb=>R.fresh b (by rw[DL]at hb;exact hb)) (λ_ _ e=>.inl e) (λb hb=>?_) (λ_ _ e=>e) rfl rfl htk,λb ob hb _ eb=>⟨ob.slots,?_⟩,DK (DL ..).symm⟩
  ·have hb':b≠dx:=λq=>by subst q;rw[g3]at hb;cases hb;exact ht2 rfl
   exact(oth b hb').trans eb
  ·rw[ha]at hb;cases hb
   exact⟨hinst,Ca,dx,es',k',g1,(oth a hne).trans g2,g3,D',hr⟩
  ·have hb':b≠dx:=λq=>by subst q;rw[g3]at hb;cases hb
   exact(oth b hb').trans eb
 refine set_plain XK I O.sa (tx (s:={s with toks:=s.toks+1}) XK I rfl (O.over rfl) ?_ ?_ (gB g5 _) hp hl (h _ (ex _ (DC _))))
 ·unfold takerIn;(exists(O.attrs at_ hat));rfl
 ·exists hcd;exact hdict
end
structure CxMore (C:Cx):Prop where
 ok:CxOk C
 sys:∃o,C.h₀.get? sysModules=some o
 cls:∀c Ca,C.cls c=some Ca->ClsOk C.K Ca ((C.P.excs[c]?).getD false)
structure St (C:Cx) (A:Around) (d:Dp) (X:Wd) (C1:Hp) (s:Shared) (C3:Scope) (C2:List (Option Str)) (CT:Env) (CS CW:PySem.Env):Prop where
 F:FOk C A d X s.heap CW
 R:Rel C X C1 s
 V:ERel X s.heap C3 C2 CT CS
theorem St.ext{C:Cx}{A:Around}{d:Dp}{X X':Wd}{C1 C7:Hp}{s s':Shared}{C3:Scope}{C2:List (Option Str)}{CT:Env}{CS CW:PySem.Env}(S:St C A d X C1 s C3 C2 CT CS CW)
 (x:Ext C aq X s.heap X' C7 s'):St C A d X' C7 s' C3 C2 CT CS CW:=⟨S.F.ext0 x,x.rel,S.V.ext x⟩
noncomputable def tr(x:V)(h:Hp):R Bool:=match aO x h with
 |some b=>.ok b h
 |none=>.no
@[reducible] noncomputable def gO:Wd->Bool->Bool->Prop:=λ_ b b'=>b=b'
structure COk (C:Cx) (A:Around) (d:Dp) (X:Wd) (h:Heap):Prop where
 frames:∃fr,A.frames=some fr/\∀e∈fr,e.scope.kind≠.module/\∃L o es n,e.frame=some L/\X.tag L=some .priv/\h.get? L=some o/\o.data=.dict es n
 depth:A.depth+4*d.1+4<recursionLimit
 units:A.units+40*d.1+40<cLine
 hnone:d.2=none->A.handled=none
 hsome:∀n,d.2=Option.some n->∃a,A.handled=Option.some (.ref a)/\X.at_ n=Option.some a
theorem FOk.toC{C:Cx}{A:Around}{d:Dp}{X:Wd}{h:Heap}{CW:PySem.Env}(F:FOk C A d X h CW):COk C A d X h:=by
 obtain⟨⟨o,a,b⟩,c,d,e,f⟩:=F
 exact⟨⟨_,a,b⟩,c,d,e,f⟩
structure Near (A A':Around):Prop where
 frames:A'.frames=A.frames
 handled:A'.handled=A.handled
 depth:A'.depth<=A.depth+1
 units:A'.units<=A.units+9
theorem Near.refl(A:Around):Near A A:=⟨rfl,rfl,Ee _,Ey _ _⟩
def CSim(C:Cx)(A:Around)(X:Wd)(s:Shared)(r:R V)(c:Code):Prop:=
 ∀(Rr:Result->Shared->Prop),Ob C aq X s.heap VRel r (λv s'=>Rr (.ok (.ret v)) s') (λe s'=>Rr (.error e) s')->codeAny (model C.prog C.w) A c Rr s
noncomputable def m8(acc:List Nat)(vs:List V)(h:Hp):R V:=match aV vs with
 |some s=>if ae (acc++s).length then .ok (.str (acc++s)) h else .no
 |none=>.no
noncomputable def xB(acc:List Nat):R (List V)->R V
 |.ok vs h=>m8 acc vs h
 |_=>.no
inductive ItRel (X:Wd) (h:Heap) (I:Addr):It->Prop
 |lst {n i:Nat} {l:Addr}:X.at_ n=some l->h.IsListIter I l i->ItRel X h I (.lst n i)
 |str {x r:List Nat} {t:Tok} {i:Nat} {ty:String}:(ty="str_ascii_iterator"\/ty="str_iterator")->h.IsStrIter I ty ⟨x.toArray⟩ t i->x.drop i=r->ItRel X h I (.str r)
 |tup {a:Addr} {o:Obj} {k i:Nat} {items:List Value} {vs r:List V}:X.tag a=some (.frozen o)->o.cls=.type "tuple"->o.data=.seq items.toArray k->VRels X vs items->vs.drop i=r->
  h.IsTupleIter I a i->ItRel X h I (.tup r)
 |rng {cur hi st left:Int} {o:Obj}:h.get? I=some o->o.cls=.type "range_iterator"->o.data=.fields #[rawInt cur,rawInt left,rawInt st]->
  (st=1/\left=max 0 (hi-cur)\/st= -1/\left=max 0 (cur-hi))->ItRel X h I (.rng cur hi st)
noncomputable def ka(es:List Expr)(CT:PySem.Env):Sem Bool:=forIn es true λc r=>if r=true then do let ok<-isTrue c CT (eval c CT);pure (ForInStep.yield ok)else pure (ForInStep.yield r)
def Bu(C:Cx)(r:Rec):Prop:=∀{A:Around}{d:Dp}{X:Wd}{C1:Hp}{s:Shared}{C3:Scope}{C2:List (Option Str)}{CT:Env}{CS CW:PySem.Env}{n:Nat}{elt:Expr}{gens:List Comprehension}{csc:Scope}{pos:Pos}{m:E}
 {u:Value->Sem Unit} {Q:Unit->Shared->Prop} {E:Value->Shared->Prop},
 St C A d X C1 s C3 C2 CT CS CW->az n C3 C2 (.ListComp elt gens csc pos) m=true->
 (∀v C7,r.ev d CT C1 m=.ok v C7->∀X' s' v' Cn,Ext C aq X s.heap X' C7 s'->VRel X' v v'->X'.tag Cn=some .priv->X.tag Cn=none->(∃m,s'.heap.Ns Cn m)->
  wpAny (model C.prog C.w) A (u v') (λ_ s''=>∃m,s''.heap.Ns Cn m/\∀h',Heap.SameBut Cn s''.heap h'->Q () {s'' with heap:=h'}) E s')->
 (∃v C7,r.ev d CT C1 m=.ok v C7)->wpAny (model C.prog C.w) A (evalThenUse (.ListComp elt gens csc pos) CS u) Q E s
def Ch(C:Cx)(r:Rec):Prop:=∀{A:Around}{d:Dp}{X:Wd}{C1:Hp}{s:Shared}{C3:Scope}{C2:List (Option Str)}{CT:Env}{CS CW:PySem.Env}{n:Nat}{es:List Expr}{ms:List E}{acc:List Nat},
 St C A d X C1 s C3 C2 CT CS CW->lv (az n C3 C2) es ms=true->acc.length<=100000->Sim C A X s VRel (xB acc (r.evs d CT C1 ms)) (joinParts ⟨acc.toArray⟩ (evalEach es CS))
def Ci(C:Cx)(r:Rec):Prop:=∀{A:Around}{d:Dp}{X:Wd}{C1:Hp}{s:Shared}{f:Nat}{fa:Addr}{args:List V}{C0:List Value},
 COk C A (d.1+1,d.2) X s.heap->Rel C X C1 s->C.fns f=some fa->VRels X args C0->∀A':Around,Near A A'->CSim C A' X s (r.fn d C1 f args) (.call (.ref fa) ⟨C0,[]⟩)
def Bv(C:Cx)(r:Rec):Prop:=∀{A:Around}{d:Dp}{X:Wd}{C1:Hp}{s:Shared}{C3:Scope}{C2:List (Option Str)}{CT:Env}{CS CW:PySem.Env}{n:Nat}{es:List Expr}{ms:List E},
 St C A d X C1 s C3 C2 CT CS CW->cT (az n C3 C2) es ms=true->Sim C A X s gO (r.chk d CT C1 ms) (ka es CS)
def Cj(C:Cx)(r:Rec):Prop:=∀{A:Around}{d:Dp}{X:Wd}{C1:Hp}{s:Shared}{C3:Scope}{C2:List (Option Str)}{CT:Env}{CS CW:PySem.Env}{n:Nat}{elt iter:Expr}{x:Str}{px pos:Pos}{ifs:List Expr}{csc:Scope}{I D:Addr}
 {eltm:E} {CY:Nat} {it:It} {ifsm:List E} {acc:Nat} {Rr:Result->Shared->Prop},
 St C A d X C1 s C3 C2 CT CS CW->d.2=none->(∀w,CT[CY]?≠some (some w))->C2[CY]? =some (some x)->aJ C3 x .local=true->(x==("__debug__":Str))=false->az n C3 C2 elt eltm=true->cT (az n C3 C2) ifs ifsm=true->
 X.tag I=some .priv->I≠CS.locals->(∀y c,CS.cells.lookup y=some c->c≠I)->(∀e∈A.frames.getD [],e.frame≠some I/\e.frame≠some CS.locals)->ItRel X s.heap I it->X.at_ acc=some D->
 (∀u C7,r.cp d CT C1 eltm CY it ifsm acc=.ok u C7->∀X' s',Ext C (λa=>a=I\/a=CS.locals) X s.heap X' C7 s'->(∃m,s'.heap.Ns CS.locals m)->Rr (.ok .next) s')->
 (∃u C7,r.cp d CT C1 eltm CY it ifsm acc=.ok u C7)->
 codeAny (model C.prog C.w) A (.compLoop (.ListComp elt [⟨.Name x px,iter,ifs,0⟩] csc pos) 0 (.ref I) (.ref D) CS) Rr s
def Ck(C:Cx)(r:Rec):Prop:=∀{A:Around}{d:Dp}{X:Wd}{C1:Hp}{s:Shared}{C3:Scope}{C2:List (Option Str)}{CT:Env}{CS CW:PySem.Env}{n:Nat}{e:Expr}{m:E},
 St C A d X C1 s C3 C2 CT CS CW->az n C3 C2 e m=true->Sim C A X s VRel (r.ev d CT C1 m) (eval e CS)
def Bw(C:Cx)(r:Rec):Prop:=∀{A:Around}{d:Dp}{X:Wd}{C1:Hp}{s:Shared}{C3:Scope}{C2:List (Option Str)}{CT:Env}{CS CW:PySem.Env}{n:Nat}{e:Expr}{m:E},
 St C A d X C1 s C3 C2 CT CS CW->az n C3 C2 e m=true->Sim C A X s gO ((r.ev d CT C1 m).bind tr) (isTrue e CS (eval e CS))
def Bx(C:Cx)(r:Rec):Prop:=∀{A:Around}{d:Dp}{X:Wd}{C1:Hp}{s:Shared}{C3:Scope}{C2:List (Option Str)}{CT:Env}{CS CW:PySem.Env}{n:Nat}{es:List Expr}{ms:List E}{pos:Pos},
 St C A d X C1 s C3 C2 CT CS CW->cT (az n C3 C2) es ms=true->Sim C A X s VRels (r.evs d CT C1 ms) (spliced (backTo pos (starEach es CS)))
def z7(C:Cx)(r:Rec):Prop:=∀{A:Around}{d:Dp}{X:Wd}{C1:Hp}{s:Shared}{C3:Scope}{C2:List (Option Str)}{CT:Env}{CS CW:PySem.Env}{n:Nat}{es:List Expr}{ms:List E}{pos:Pos}{k:Bool},
 St C A d X C1 s C3 C2 CT CS CW->cT (az n C3 C2) es ms=true->Sim C A X s VRel (r.ands d CT C1 k ms) (boolOp pos (if k then .And else .Or) (evalEach es CS))
def xC(C:Cx)(r:Rec):Prop:=∀{A:Around}{d:Dp}{X:Wd}{C1:Hp}{s:Shared}{C3:Scope}{C2:List (Option Str)}{CT:Env}{CS CW:PySem.Env}{n:Nat}{es:List Expr}{ms:List E}{k:Bool},
 St C A d X C1 s C3 C2 CT CS CW->cT (az n C3 C2) es ms=true->Sim C A X s gO ((r.ands d CT C1 k ms).bind tr) (allTrue (if k then .And else .Or) es CS)
def z8(C:Cx)(r:Rec):Prop:=∀{A:Around}{d:Dp}{X:Wd}{C1:Hp}{s:Shared}{C3:Scope}{C2:List (Option Str)}{CT:Env}{CS CW:PySem.Env}{n:Nat}{es:List Expr}{ms:List E}{pos:Pos}{ops:List COp}{x:V}{x':Value},
 St C A d X C1 s C3 C2 CT CS CW->cT (az n C3 C2) es ms=true->es.all (λr=>!cC r)=true->VRel X x x'->
 Sim C A X s VRel (r.cmps d CT C1 x ops ms) (compareChain pos x' (ops.map COp.real) (markedEach (ops.map COp.real) es (evalEach es CS)))
def xD(C:Cx)(r:Rec):Prop:=∀{A:Around}{d:Dp}{X:Wd}{C1:Hp}{s:Shared}{C3:Scope}{C2:List (Option Str)}{CT:Env}{CS CW:PySem.Env}{n:Nat}{es:List Expr}{ms:List E}{pos:Pos}{ops:List COp}{x:V}{x':Value},
 St C A d X C1 s C3 C2 CT CS CW->cT (az n C3 C2) es ms=true->es.all (λr=>!cC r)=true->VRel X x x'->
 Sim C A X s gO ((r.cmps d CT C1 x ops ms).bind tr) (testChain pos x' (ops.map COp.real) (markedEach (ops.map COp.real) es (evalEach es CS)))
structure GoodE (C:Cx) (r:Rec):Prop where
 lit:∀d CT h x,r.ev d CT h (.str x)=.ok (.str x) h\/r.ev d CT h (.str x)=.no
 noexc:∀d CT h a b c e n h',r.ev d CT h (.comp a b c e)≠.exc n h'
 evU:Bu C r
 fs:Ch C r
 fn:Ci C r
 chk:Bv C r
 cp:Cj C r
 ev:Ck C r
 evT:Bw C r
 evs:Bx C r
 ands:z7 C r
 andsT:xC C r
 cmps:z8 C r
 cmpsT:xD C r
section
variable{C:Cx}{r:Rec}{A:Around}{d:Dp}{X:Wd}{C1:Hp}{s:Shared}{C3:Scope}{C2:List (Option Str)}{CT:Env}{CS CW:PySem.Env}{n:Nat}
theorem vh(M:CxMore C)(G:GoodE C r){es:List Expr}{ms:List E}{pos:Pos}(S:St C A d X C1 s C3 C2 CT CS CW)(ck:cT (az n C3 C2) es ms=true):
 Sim C A X s VRels (zK r d CT C1 ms) (spliced (backTo pos (starEach es CS))):=by
 intro Q E o
 induction es using List.casesOn with
 |nil=>induction ms using List.casesOn with
  |nil=>exact wpAny_items_nil (o.ok [] C1 rfl X s [] (Ext.refl S.R) .nil)
  |cons=>exact aC ck
 |cons e es=>induction ms using List.casesOn with
  |nil=>exact aC ck
  |cons m ms=>
   replace ck:(!cb e&&az n C3 C2 e m&&cT (az n C3 C2) es ms)=true:=ck
   refine jT ck λc1 c2 c3=>?_;clear ck;(try simp only[Bool.not_eq_true']at c1 c2 c3)
   with_reducible refine Gz ?_ ?_
   ·refine(G.ev S c2).then o λv mh1 e1 X1 s1 v1 x1 r1 o1=>?_
    refine(G.evs (S.ext x1) c3).then o1 λvs mh2 e₂ X2 s2 vs2 x2 r2 o2=>?_
    exact o2.ok _ _ rfl X2 s2 (v1::vs2) (Ext.refl x2.rel) (.cons (r1.mono x2.le) r2)
   ·induction e using Expr.casesOn<;>first|rfl|exact aC c1.symm
theorem hW{x:V}{h:Hp}{b:Bool}(e:aO x h=some b):tr x h=.ok b h:=by unfold tr;(exists e;rfl)
theorem jg{x:V}{h:Hp}(e:aO x h=none):tr x h=.no:=by unfold tr;(exists e;rfl)
theorem tz(M:CxMore C)(G:GoodE C r){es:List Expr}{ms:List E}{pos:Pos}{k:Bool}(S:St C A d X C1 s C3 C2 CT CS CW)(ck:cT (az n C3 C2) es ms=true):
 Sim C A X s VRel (uK r d CT C1 k ms) (boolOp pos (if k then .And else .Or) (evalEach es CS)):=by
 intro Q E o
 induction es using List.casesOn with
 |nil=>induction ms using List.casesOn with
  |nil=>exact o.absurd
  |cons=>exact aC ck
 |cons e es=>induction ms using List.casesOn with
  |nil=>exact aC ck
  |cons m ms=>
   replace ck:(!cb e&&az n C3 C2 e m&&cT (az n C3 C2) es ms)=true:=ck
   refine jT ck λc1 c2 c3=>?_;clear ck;(try simp only[Bool.not_eq_true']at c1 c2 c3)
   induction es using List.casesOn with
   |nil=>induction ms using List.casesOn with
    |nil=>exact G.ev S c2 Q E o
    |cons=>exact aC c3
   |cons e2 es=>induction ms using List.casesOn with
    |nil=>exact aC c3
    |cons m2 ms=>
     show wpAny _ _ (eval e CS>>=λv=>standAt pos>>=λ_=>holding [v] (truthy v)>>=λt=>_) Q E s
     refine Dn ((G.ev S c2).then o λv mh1 e1 X1 s1 v1 x1 r1 o1=>?_)
     refine Dn (Ek (Dn (DT ?_)))
     split at o1
     ·rename_i b hb
      refine iQ x1.rel r1 hb λtk htk=>?_
      have T:Ext C aq X1 s1.heap X1 mh1 {s1 with toks:=tk}:=Ext.toks x1.rel htk
      cases k<;>cases b
      ·exact G.ands (pos:=pos) (k:=false) ((S.ext x1).ext T) c3 Q E ⟨λv C7 q X' s' w' x'=>o1.ok v C7 q X' s' w' (T.trans x'),λn C7 q X' s' a x'=>o1.exc n C7 q X' s' a (T.trans x'),o1.no⟩
      ·exact Dv (o1.ok _ _ rfl X1 _ v1 T r1)
      ·exact Dv (o1.ok _ _ rfl X1 _ v1 T r1)
      ·exact G.ands (pos:=pos) (k:=true) ((S.ext x1).ext T) c3 Q E ⟨λv C7 q X' s' w' x'=>o1.ok v C7 q X' s' w' (T.trans x'),λn C7 q X' s' a x'=>o1.exc n C7 q X' s' a (T.trans x'),o1.no⟩
     ·exact o1.absurd
end
theorem Ob.from{C:Cx}{own:fA}{X X1:Wd}{mh1:Hp}{h:Heap}{s1:Shared}{α β:Type}{rel:Wd->α->β->Prop}{r:R α}{Q:β->Shared->Prop}{E:Value->Shared->Prop}
 (o:Ob C own X h rel r Q E)(x:Ext C own X h X1 mh1 s1):Ob C own X1 s1.heap rel r Q E:=
 ⟨λv C7 q X' s' w' x'=>o.ok v C7 q X' s' w' (x.trans x'),λn C7 q X' s' a x'=>o.exc n C7 q X' s' a (x.trans x'),o.no⟩
theorem Ob.cast{C:Cx}{own:fA}{X:Wd}{h:Heap}{α β:Type}{rel:Wd->α->β->Prop}{r r':R α}{Q:β->Shared->Prop}{E:Value->Shared->Prop}
 (o:Ob C own X h rel r Q E)(e:r=r'):Ob C own X h rel r' Q E:=e▸o
theorem bn{α β γ:Type}(r:R α)(f:α->Hp->R β)(g:β->Hp->R γ):(r.bind f).bind g=r.bind λa h=>(f a h).bind g:=by cases r<;>rfl
section
variable{C:Cx}{r:Rec}{A:Around}{d:Dp}{X:Wd}{C1:Hp}{s:Shared}{C3:Scope}{C2:List (Option Str)}{CT:Env}{CS CW:PySem.Env}{n:Nat}
theorem qw(M:CxMore C)(G:GoodE C r){es:List Expr}{ms:List E}{k:Bool}(S:St C A d X C1 s C3 C2 CT CS CW)(ck:cT (az n C3 C2) es ms=true):
 Sim C A X s gO ((uK r d CT C1 k ms).bind tr) (allTrue (if k then .And else .Or) es CS):=by
 intro Q E o
 induction es using List.casesOn with
 |nil=>induction ms using List.casesOn with
  |nil=>exact o.absurd
  |cons=>exact aC ck
 |cons e es=>induction ms using List.casesOn with
  |nil=>exact aC ck
  |cons m ms=>
   replace ck:(!cb e&&az n C3 C2 e m&&cT (az n C3 C2) es ms)=true:=ck
   refine jT ck λc1 c2 c3=>?_;clear ck;(try simp only[Bool.not_eq_true']at c1 c2 c3)
   have last:∀(b:Bool)(X1:Wd)(s1:Shared),Q b s1->wpAny (model C.prog C.w) A (allTrue (if k then .And else .Or) [] CS) (λb' s'=>b'=k->b=k->Q b s') E s1:=λb X1 s1 q=>by
    cases k
    ·exact wpAny_allTrue_Or_nil (λ_ _=>q)
    ·exact wpAny_allTrue_And_nil (λ_ _=>q)
   induction ms using List.casesOn with
   |nil=>induction es using List.casesOn with
    |cons=>exact aC c3
    |nil=>
     replace o:Ob C aq X s.heap gO ((r.ev d CT C1 m).bind tr) Q E:=o
     cases k
     ·show wpAny _ _ (allTrue .Or [e] CS) Q E s
      with_reducible refine wpAny_allTrue_Or_cons ?_
      refine G.evT S c2 _ _ ⟨λb mh1 e1 X1 s1 b' x1 r1=>?_,o.exc,o.no⟩
      have q:=o.ok b mh1 e1 X1 s1 b' x1 r1
      cases b'
      ·exact wpAny_allTrue_Or_nil q
      ·exact q
     ·show wpAny _ _ (allTrue .And [e] CS) Q E s
      with_reducible refine wpAny_allTrue_And_cons ?_
      refine G.evT S c2 _ _ ⟨λb mh1 e1 X1 s1 b' x1 r1=>?_,o.exc,o.no⟩
      have q:=o.ok b mh1 e1 X1 s1 b' x1 r1
      cases b'
      ·exact q
      ·exact wpAny_allTrue_And_nil q
   |cons m2 ms=>
    induction es using List.casesOn with
    |nil=>exact aC c3
    |cons e2 es=>
    have key:((r.ev d CT C1 m).bind λv h=>match aO v h with|some b=>if b==k then r.ands d CT h k (m2::ms)else .ok v h|none=>.no).bind tr=
     ((r.ev d CT C1 m).bind tr).bind λb h=>if b==k then(r.ands d CT h k (m2::ms)).bind tr else .ok b h:=by
     rw[bn,bn]
     congr 1
     funext v h
     cases ht:aO v h with
     |none=>(exists(jg ht));rfl
     |some b=>
      exists(hW ht)
      show(if b==k then r.ands d CT h k (m2::ms)else .ok v h).bind tr=if b==k then(r.ands d CT h k (m2::ms)).bind tr else .ok b h
      split
      ·rfl
      ·exact hW ht
    have o':=o.cast key
    cases k
    ·show wpAny _ _ (allTrue .Or (e::e2::es) CS) Q E s
     with_reducible refine wpAny_allTrue_Or_cons ?_
     refine(G.evT S c2).then o' λb mh1 e1 X1 s1 b' x1 r1 o1=>?_
     replace r1:b=b':=r1
     subst r1
     cases b
     ·exact G.andsT (k:=false) (S.ext x1) c3 Q E o1
     ·exact o1.ok _ _ rfl X1 s1 true (Ext.refl x1.rel) rfl
    ·show wpAny _ _ (allTrue .And (e::e2::es) CS) Q E s
     with_reducible refine wpAny_allTrue_And_cons ?_
     refine(G.evT S c2).then o' λb mh1 e1 X1 s1 b' x1 r1 o1=>?_
     replace r1:b=b':=r1
     subst r1
     cases b
     ·exact o1.ok _ _ rfl X1 s1 false (Ext.refl x1.rel) rfl
     ·exact G.andsT (k:=true) (S.ext x1) c3 Q E o1
theorem z9{op:CmpOp}{e:Expr}(h:cC e=false):behindInMarks op e=false:=by induction e using Expr.casesOn<;>first|rfl|exact aC h.symm
theorem kc{op:CmpOp}{e:Expr}{t:Sem Value}(h:cC e=false):markedEach [op] [e] [t]=[t]:=by
 show[markedBehindIn op e t]=[t]
 exists(markedBehindIn_of_false (z9 h));rfl
theorem jh{op op2:CmpOp}{ops:List CmpOp}{e e2:Expr}{es:List Expr}{t t2:Sem Value}{ts:List (Sem Value)}:markedEach (op::op2::ops) (e::e2::es) (t::t2::ts)=t::markedEach (op2::ops) (e2::es) (t2::ts):=rfl
theorem tA(M:CxMore C)(G:GoodE C r){es:List Expr}{ms:List E}{pos:Pos}{ops:List COp}{x:V}{x':Value}(S:St C A d X C1 s C3 C2 CT CS CW)(ck:cT (az n C3 C2) es ms=true)
 (hs:es.all (λr=>!cC r)=true)(rx:VRel X x x'):Sim C A X s VRel (uL r d CT C1 x ops ms) (compareChain pos x' (ops.map COp.real) (markedEach (ops.map COp.real) es (evalEach es CS))):=by
 intro Q E o
 induction ops using List.casesOn with
 |nil=>exact o.absurd
 |cons op ops=>
 induction ms using List.casesOn with
 |nil=>cases ops<;>exact o.absurd
 |cons m ms=>
 induction es using List.casesOn with
 |nil=>exact aC ck
 |cons e es=>
 replace ck:(!cb e&&az n C3 C2 e m&&cT (az n C3 C2) es ms)=true:=ck
 refine jT ck λc1 c2 c3=>?_;clear ck;(try simp only[Bool.not_eq_true']at c1 c2 c3)
 rw[Fl,DY,GY]at hs
 have hu:∀{X1:Wd}{mh1:Hp}{s1:Shared},St C A d X1 mh1 s1 C3 C2 CT CS CW->A.units+40<cLine:=λS=>by have:=S.F.units;lia
 induction ops using List.casesOn with
 |nil=>induction ms using List.casesOn with
  |cons=>exact o.absurd
  |nil=>induction es using List.casesOn with
   |cons=>exact aC c3
   |nil=>
    show wpAny _ _ (compareChain pos x' [op.real] (markedEach [op.real] [e] [eval e CS])) Q E s
    exists(kc hs.1)
    show wpAny _ _ (holding [x'] (eval e CS)>>=λrv=>standAt pos>>=λ_=>operate [x',rv] (compareOp op.real x' rv)) Q E s
    refine Dn (DT ((G.ev S c2).then o λv mh1 e1 X1 s1 v1 x1 r1 o1=>?_))
    refine Dn (Ek (HS ?_))
    split at o1
    ·rename_i b hb
     refine gw M.ok x1.rel (hu (S.ext x1)) (rx.mono x1.le) r1 hb M.sys λtk htk=>?_
     exact o1.ok _ _ rfl X1 _ (.bool b) (Ext.toks x1.rel htk) (.bool b)
    ·exact o1.absurd
 |cons op2 ops=>induction ms using List.casesOn with
  |nil=>exact o.absurd
  |cons m2 ms=>induction es using List.casesOn with
   |nil=>exact aC c3
   |cons e2 es=>
    show wpAny _ _ (compareChain pos x' (op.real::op2.real::ops.map COp.real) (markedEach (op.real::op2.real::ops.map COp.real) (e::e2::es) (eval e CS::eval e2 CS::evalEach es CS))) Q E s
    exists jh
    show wpAny _ _ (holding [x'] (eval e CS)>>=λrv=>standAt pos>>=λ_=>holding [x',rv] (compareOp op.real x' rv)>>=λc=>release [x',rv] [c]>>=λ_=>holding [c,rv] (truthy c)>>=λb=>if b=true then _ else _) Q E s
    refine Dn (DT ((G.ev S c2).then o λv mh1 e1 X1 s1 v1 x1 r1 o1=>?_))
    refine Dn (Ek (Dn (DT ?_)))
    split at o1
    ·rename_i hb
     refine gw M.ok x1.rel (hu (S.ext x1)) (rx.mono x1.le) r1 hb M.sys λtk htk=>?_
     have T:Ext C aq X1 s1.heap X1 mh1 {s1 with toks:=tk}:=Ext.toks x1.rel htk
     refine Dn (He (Dn (DT (FI ?_))))
     exact G.cmps (pos:=pos) (ops:=op2::ops) ((S.ext x1).ext T) c3 hs.2 r1 Q E (o1.from T)
    ·rename_i hb
     refine gw M.ok x1.rel (hu (S.ext x1)) (rx.mono x1.le) r1 hb M.sys λtk htk=>?_
     have T:Ext C aq X1 s1.heap X1 mh1 {s1 with toks:=tk}:=Ext.toks x1.rel htk
     refine Dn (He (Dn (DT (FI ?_))))
     exact Dv (o1.ok _ _ rfl X1 _ (.bool false) T (.bool false))
    ·exact o1.absurd
theorem qx(M:CxMore C)(G:GoodE C r){es:List Expr}{ms:List E}{pos:Pos}{ops:List COp}{x:V}{x':Value}(S:St C A d X C1 s C3 C2 CT CS CW)(ck:cT (az n C3 C2) es ms=true)
 (hs:es.all (λr=>!cC r)=true)(rx:VRel X x x'):Sim C A X s gO ((uL r d CT C1 x ops ms).bind tr) (testChain pos x' (ops.map COp.real) (markedEach (ops.map COp.real) es (evalEach es CS))):=by
 intro Q E o
 induction ops using List.casesOn with
 |nil=>exact o.absurd
 |cons op ops=>
 induction ms using List.casesOn with
 |nil=>cases ops<;>exact o.absurd
 |cons m ms=>
 induction es using List.casesOn with
 |nil=>exact aC ck
 |cons e es=>
 replace ck:(!cb e&&az n C3 C2 e m&&cT (az n C3 C2) es ms)=true:=ck
 refine jT ck λc1 c2 c3=>?_;clear ck;(try simp only[Bool.not_eq_true']at c1 c2 c3)
 rw[Fl,DY,GY]at hs
 have hu:∀{X1:Wd}{mh1:Hp}{s1:Shared},St C A d X1 mh1 s1 C3 C2 CT CS CW->A.units+40<cLine:=λS=>by have:=S.F.units;lia
 induction ops using List.casesOn with
 |nil=>induction ms using List.casesOn with
  |cons=>exact o.absurd
  |nil=>induction es using List.casesOn with
   |cons=>exact aC c3
   |nil=>
    show wpAny _ _ (testChain pos x' [op.real] (markedEach [op.real] [e] [eval e CS])) Q E s
    exists(kc hs.1)
    show wpAny _ _ (holding [x'] (eval e CS)>>=λrv=>standAt pos>>=λ_=>operate [x',rv] (compareOp op.real x' rv)>>=λc=>holding [c] (truthy c)) Q E s
    have o':=o.cast (bn (r.ev d CT C1 m) _ tr)
    refine Dn (DT ((G.ev S c2).then o' λv mh1 e1 X1 s1 v1 x1 r1 o1=>?_))
    refine Dn (Ek (Dn (HS ?_)))
    split at o1
    ·rename_i b hb
     refine gw M.ok x1.rel (hu (S.ext x1)) (rx.mono x1.le) r1 hb M.sys λtk htk=>?_
     exact DT (FI (o1.ok _ _ rfl X1 _ b (Ext.toks x1.rel htk) rfl))
    ·exact o1.absurd
 |cons op2 ops=>induction ms using List.casesOn with
  |nil=>exact o.absurd
  |cons m2 ms=>induction es using List.casesOn with
   |nil=>exact aC c3
   |cons e2 es=>
    show wpAny _ _ (testChain pos x' (op.real::op2.real::ops.map COp.real) (markedEach (op.real::op2.real::ops.map COp.real) (e::e2::es) (eval e CS::eval e2 CS::evalEach es CS))) Q E s
    exists jh
    show wpAny _ _ (holding [x'] (eval e CS)>>=λrv=>standAt pos>>=λ_=>holding [x',rv] (compareOp op.real x' rv)>>=λc=>release [x',rv] [c]>>=λ_=>holding [c,rv] (truthy c)>>=λb=>if b=true then _ else _) Q E s
    have o':=o.cast (bn (r.ev d CT C1 m) _ tr)
    refine Dn (DT ((G.ev S c2).then o' λv mh1 e1 X1 s1 v1 x1 r1 o1=>?_))
    refine Dn (Ek (Dn (DT ?_)))
    split at o1
    ·rename_i hb
     refine gw M.ok x1.rel (hu (S.ext x1)) (rx.mono x1.le) r1 hb M.sys λtk htk=>?_
     have T:Ext C aq X1 s1.heap X1 mh1 {s1 with toks:=tk}:=Ext.toks x1.rel htk
     refine Dn (He (Dn (DT (FI ?_))))
     exact G.cmpsT (pos:=pos) (ops:=op2::ops) ((S.ext x1).ext T) c3 hs.2 r1 Q E (o1.from T)
    ·rename_i hb
     refine gw M.ok x1.rel (hu (S.ext x1)) (rx.mono x1.le) r1 hb M.sys λtk htk=>?_
     have T:Ext C aq X1 s1.heap X1 mh1 {s1 with toks:=tk}:=Ext.toks x1.rel htk
     refine Dn (He (Dn (DT (FI ?_))))
     exact Dv (o1.ok _ _ rfl X1 _ false T rfl)
    ·exact o1.absurd
end
section
variable{C:Cx}{r:Rec}{A:Around}{d:Dp}{X:Wd}{C1:Hp}{s:Shared}{C3:Scope}{C2:List (Option Str)}{CT:Env}{CS CW:PySem.Env}{n:Nat}{e:Expr}
theorem xE(S:St C A d X C1 s C3 C2 CT CS CW)(ck:az (n+1) C3 C2 e .none=true):Sim C A X s VRel (aF C.P r d CT C1 .none) (eval e CS):=λQ E o=>by
 refine aX e (show aN _ e=true from ck) ?_;clear ck;intro c k p ck
 induction c using Const.casesOn with
 |none=>exact wpAny_Constant_none (o.ok _ _ rfl X s .none (Ext.refl S.R) .none)
 |_=>exact aC ck
theorem xF{b:Bool}(S:St C A d X C1 s C3 C2 CT CS CW)(ck:az (n+1) C3 C2 e (.bool b)=true):Sim C A X s VRel (aF C.P r d CT C1 (.bool b)) (eval e CS):=λQ E o=>by
 refine aX e (show aN _ e=true from ck) ?_;clear ck;intro c k p ck
 induction c using Const.casesOn with
 |bool c=>
  replace ck:(b==c)=true:=ck
  have ck:=D2 ck
  subst ck
  exact wpAny_Constant_bool (o.ok _ _ rfl X s (.bool b) (Ext.refl S.R) (.bool b))
 |_=>exact aC ck
theorem Aa{i:Int}(S:St C A d X C1 s C3 C2 CT CS CW)(ck:az (n+1) C3 C2 e (.int i)=true):Sim C A X s VRel (aF C.P r d CT C1 (.int i)) (eval e CS):=λQ E o=>by
 refine aX e (show aN _ e=true from ck) ?_;clear ck;intro c k p ck
 induction c using Const.casesOn with
 |int c=>
  replace ck:(i==c)=true:=ck
  have ck:=D2 ck
  subst ck
  exact Hk (o.ok _ _ rfl X {s with toks:=s.toks+1} (.int i s.toks) (Ext.toks S.R (DC _)) (.int i _))
 |_=>exact aC ck
theorem Ab{x:List Nat}(S:St C A d X C1 s C3 C2 CT CS CW)(ck:az (n+1) C3 C2 e (.str x)=true):Sim C A X s VRel (aF C.P r d CT C1 (.str x)) (eval e CS):=λQ E o=>by
 refine aX e (show aN _ e=true from ck) ?_;clear ck;intro c k p ck
 induction c using Const.casesOn with
 |str c=>
  replace ck:(c.cps.toList==x)=true:=ck
  have ck:=D2 ck
  subst ck
  exact E1 (o.ok _ _ rfl X {s with toks:=s.toks+1} (.str c s.toks) (Ext.toks S.R (DC _)) (.str c.cps.toList s.toks))
 |_=>exact aC ck
theorem Ac{i:Nat}(S:St C A d X C1 s C3 C2 CT CS CW)(ck:az (n+1) C3 C2 e (.C8 i)=true):Sim C A X s VRel (aF C.P r d CT C1 (.C8 i)) (eval e CS):=λQ E o=>by
 refine aQ e (show bg _ e=true from ck) ?_;clear ck;intro x p ck
 replace ck:(C2[i]? ==some (some x)&&(aJ C3 x .local||aJ C3 x .cell)&&cX x)=true:=ck
 simp only[Bool.and_eq_true,beq_iff_eq]at ck
 replace o:Ob C aq X s.heap VRel (match CT[i]? with|some (some v)=>.ok v C1|_=>.no) Q E:=o
 split at o
 ·rename_i v hv
  exact qb S.V ck.1.1 hv (by have:=ck.2;unfold cX at this;simpa using this) λv' r=>o.ok _ _ rfl X s v' (Ext.refl S.R) r
 ·exact o.absurd
theorem By{i:Nat}(M:CxMore C)(S:St C A d X C1 s C3 C2 CT CS CW)(ck:az (n+1) C3 C2 e (.gv i)=true):Sim C A X s VRel (aF C.P r d CT C1 (.gv i)) (eval e CS):=λQ E o=>by
 refine aQ e (show bg _ e=true from ck) ?_;clear ck;intro x p ck
 replace ck:(mN[i]? ==some x&&cU C3 x)=true:=ck
 simp only[Bool.and_eq_true,beq_iff_eq]at ck
 replace o:Ob C aq X s.heap VRel (match C.P.consts[i]? with|some v=>.ok v C1|none=>.no) Q E:=o
 split at o
 ·rename_i v hv
  refine ai (M.ok.consts i v x hv ck.1) λv' h1 h2=>?_
  exact dy M.ok S.R S.V ck.2 h1 (o.ok _ _ rfl X s v' (Ext.refl S.R) (h2 X S.R.base))
 ·exact o.absurd
theorem tB{op:BOp}{x y:V}{x' y':Value}{Q:Value->Shared->Prop}{E:Value->Shared->Prop}{own:fA}(R:Rel C X C1 s)(rx:VRel X x x')(ry:VRel X y y')(o:Ob C own X s.heap VRel (ba op x y C1) Q E):
 wpAny (model C.prog C.w) A (binaryOp op.real x' y') Q E s:=by
 induction rx using VRel.casesOn with
 |int a t=>induction ry using VRel.casesOn with
  |int b u=>exact(lQ R o).1
  |_=>exact o.absurd
 |str a t=>induction ry using VRel.casesOn with
  |str b u=>exact(lS R o).1
  |_=>exact o.absurd
 |ref k a h=>induction ry using VRel.casesOn with
  |int b u=>exact(qh R h o).2
  |_=>exact o.absurd
 |_=>exact o.absurd
theorem fS{op:BOp}{x y:V}{x' y':Value}{Q:Value->Shared->Prop}{E:Value->Shared->Prop}{own:fA}(R:Rel C X C1 s)(rx:VRel X x x')(ry:VRel X y y')(hx:eT x=false)(o:Ob C own X s.heap VRel (ba op x y C1) Q E):
 wpAny (model C.prog C.w) A (inplaceOp op.real x' y') Q E s:=by
 induction rx using VRel.casesOn with
 |int a t=>induction ry using VRel.casesOn with
  |int b u=>exact(lQ R o).2
  |_=>exact o.absurd
 |str a t=>induction ry using VRel.casesOn with
  |str b u=>exact(lS R o).2
  |_=>exact o.absurd
 |ref k a h=>cases hx
 |_=>exact o.absurd
theorem Ad{op:BOp}{a b:E}(G:GoodE C r)(S:St C A d X C1 s C3 C2 CT CS CW)(ck:az (n+1) C3 C2 e (.bin op a b)=true):Sim C A X s VRel (aF C.P r d CT C1 (.bin op a b)) (eval e CS):=λQ E o=>by
 refine mQ e (show mP _ e=true from ck) ?_;clear ck;intro l op' rr p ck
 replace ck:(op.real==op'&&az n C3 C2 l a&&az n C3 C2 rr b)=true:=ck
 refine jT ck λc1 c2 c3=>?_;clear ck;(try simp only[beq_iff_eq]at c1 c2 c3)
 subst c1
 with_reducible refine wpAny_BinOp ?_
 refine(G.ev S c2).then o λv mh1 e1 X1 s1 v1 x1 r1 o1=>?_
 refine(G.ev (S.ext x1) c3).then o1 λw mh2 e2 X2 s2 w2 x2 r2 o2=>?_
 exact tB x2.rel (r1.mono x2.le) r2 o2
theorem Ae{a:E}(G:GoodE C r)(S:St C A d X C1 s C3 C2 CT CS CW)(ck:az (n+1) C3 C2 e (.neg a)=true):Sim C A X s VRel (aF C.P r d CT C1 (.neg a)) (eval e CS):=λQ E o=>by
 refine cM e (show cD _ e=true from ck) ?_;clear ck;intro op x p ck
 induction op using UnaryOp.casesOn with
 |USub=>
  with_reducible refine wpAny_UnaryOp ?_
  refine(G.ev S (show az n C3 C2 x a=true from ck)).then o λv mh1 e1 X1 s1 v1 x1 r1 o1=>?_
  induction r1 using VRel.casesOn with
  |int i t=>
   have q:=o1.ok _ _ rfl X1 {s1 with toks:=s1.toks+1} (.int (-i) s1.toks) (Ext.toks x1.rel (DC _)) (.int _ _)
   with_reducible refine neg_int ?_
   exact q
  |_=>exact o1.absurd
 |_=>exact aC ck
theorem Af{a:E}(G:GoodE C r)(S:St C A d X C1 s C3 C2 CT CS CW)(ck:az (n+1) C3 C2 e (.inv a)=true):Sim C A X s VRel (aF C.P r d CT C1 (.inv a)) (eval e CS):=λQ E o=>by
 refine cM e (show cD _ e=true from ck) ?_;clear ck;intro op x p ck
 induction op using UnaryOp.casesOn with
 |Invert=>
  with_reducible refine wpAny_UnaryOp ?_
  refine(G.ev S (show az n C3 C2 x a=true from ck)).then o λv mh1 e1 X1 s1 v1 x1 r1 o1=>?_
  induction r1 using VRel.casesOn with
  |int i t=>
   have q:=o1.ok _ _ rfl X1 {s1 with toks:=s1.toks+1} (.int (Builtin.bitNot i) s1.toks) (Ext.toks x1.rel (DC _)) (.int _ _)
   with_reducible refine invert_int ?_
   exact q
  |_=>exact o1.absurd
 |_=>exact aC ck
theorem Ag{a:E}(G:GoodE C r)(S:St C A d X C1 s C3 C2 CT CS CW)(ck:az (n+1) C3 C2 e (.not a)=true):Sim C A X s VRel (aF C.P r d CT C1 (.not a)) (eval e CS):=λQ E o=>by
 refine cM e (show cD _ e=true from ck) ?_;clear ck;intro op x p ck
 induction op using UnaryOp.casesOn with
 |Not=>
  with_reducible refine wpAny_UnaryOp ?_
  refine(G.ev S (show az n C3 C2 x a=true from ck)).then o λv mh1 e1 X1 s1 v1 x1 r1 o1=>?_
  split at o1
  ·rename_i b hb
   exact xz x1.rel r1 hb λtk htk=>o1.ok _ _ rfl X1 _ (.bool (!b)) (Ext.toks x1.rel htk) (.bool _)
  ·exact o1.absurd
 |_=>exact aC ck
theorem Ah{es:List E}(G:GoodE C r)(S:St C A d X C1 s C3 C2 CT CS CW)(ck:az (n+1) C3 C2 e (.and es)=true):Sim C A X s VRel (aF C.P r d CT C1 (.and es)) (eval e CS):=λQ E o=>by
 refine dm e (show dX _ e=true from ck) ?_;clear ck;intro op vs p ck
 induction op using BoolOp.casesOn with
 |And=>
  exists(show eval (.BoolOp .And vs p) CS=boolOp p .And (evalEach vs CS)from arm_eval_BoolOp ..)
  exact G.ands (pos:=p) (k:=true) S (show cT (az n C3 C2) vs es=true from ck) Q E o
 |_=>exact aC ck
theorem Bz{es:List E}(G:GoodE C r)(S:St C A d X C1 s C3 C2 CT CS CW)(ck:az (n+1) C3 C2 e (.or es)=true):Sim C A X s VRel (aF C.P r d CT C1 (.or es)) (eval e CS):=λQ E o=>by
 refine dm e (show dX _ e=true from ck) ?_;clear ck;intro op vs p ck
 induction op using BoolOp.casesOn with
 |Or=>
  exists(show eval (.BoolOp .Or vs p) CS=boolOp p .Or (evalEach vs CS)from arm_eval_BoolOp ..)
  exact G.ands (pos:=p) (k:=false) S (show cT (az n C3 C2) vs es=true from ck) Q E o
 |_=>exact aC ck
theorem Ai{a:E}{ops:List COp}{es:List E}(G:GoodE C r)(S:St C A d X C1 s C3 C2 CT CS CW)(ck:az (n+1) C3 C2 e (.cmp a ops es)=true):Sim C A X s VRel (aF C.P r d CT C1 (.cmp a ops es)) (eval e CS):=λQ E o=>by
 refine fJ e (show gn _ e=true from ck) ?_;clear ck;intro l os rs p ck
 replace ck:(az n C3 C2 l a&&os==ops.map COp.real&&cT (az n C3 C2) rs es&&rs.all (λr=>!cC r)&&os.length==rs.length)=true:=ck
 refine xh ck λc1 c2 c3 c4 c5=>?_;clear ck;(try simp only[beq_iff_eq]at c1 c2 c3 c4 c5)
 subst c2
 exists(show eval (.Compare l (ops.map COp.real) rs p) CS=(do compareChain p (<-eval l CS) (ops.map COp.real) (markedEach (ops.map COp.real) rs (evalEach rs CS)))from arm_eval_Compare ..)
 refine Dn ((G.ev S c1).then o λv mh1 e1 X1 s1 v1 x1 r1 o1=>?_)
 exact G.cmps (pos:=p) (S.ext x1) c3 c4 r1 Q E o1
theorem Aj{t a b:E}(G:GoodE C r)(S:St C A d X C1 s C3 C2 CT CS CW)(ck:az (n+1) C3 C2 e (.ite t a b)=true):Sim C A X s VRel (aF C.P r d CT C1 (.ite t a b)) (eval e CS):=λQ E o=>by
 refine g7 e (show jF _ e=true from ck) ?_;clear ck;intro t' a' b' p ck
 replace ck:(az n C3 C2 t' t&&az n C3 C2 a' a&&az n C3 C2 b' b)=true:=ck
 refine jT ck λc1 c2 c3=>?_;clear ck
 with_reducible refine wpAny_IfExp ?_
 have key:aF C.P r d CT C1 (.ite t a b)=((r.ev d CT C1 t).bind tr).bind λc h=>match c with|true=>r.ev d CT h a|false=>r.ev d CT h b:=by
  rw[bn]
  show(r.ev d CT C1 t).bind _=_
  congr 1
  funext x h
  cases ht:aO x h with
  |none=>(exists(jg ht));rfl
  |some c=>(exists(hW ht));cases c<;>rfl
 refine(G.evT S c1).then (o.cast key) λc mh1 e1 X1 s1 c' x1 r1 o1=>?_
 replace r1:c=c':=r1
 subst r1
 cases c
 ·exact G.ev (S.ext x1) c3 Q E o1
 ·exact G.ev (S.ext x1) c2 Q E o1
end
section
variable{C:Cx}{r:Rec}{A:Around}{d:Dp}{X:Wd}{C1:Hp}{s:Shared}{C3:Scope}{C2:List (Option Str)}{CT:Env}{CS CW:PySem.Env}{n:Nat}{e:Expr}
theorem xG{es:List E}(G:GoodE C r)(S:St C A d X C1 s C3 C2 CT CS CW)(ck:az (n+1) C3 C2 e (.list es)=true):Sim C A X s VRel (aF C.P r d CT C1 (.list es)) (eval e CS):=λQ E o=>by
 refine om e (show pX _ e=true from ck) ?_;clear ck;intro es' p ck
 with_reducible refine wpAny_List ?_
 refine(G.evs (pos:=p) S (show cT (az n C3 C2) es' es=true from ck)).then o λvs mh1 e₁ X1 s1 xs x1 r1 o1=>?_
 split at o1
 ·rename_i hl
  have hl:=aK hl
  have hle:=r1.length
  have mk:=Ext.make (own:=aq) (C:=C) (X:=X1) (C1:=mh1) (o:=.list vs) (h':=s1.heap.push {cls:=.type "list",data:=.seq xs.toArray}) (tk:=s1.toks) (a:=s1.heap.objs.size)
   x1.rel x1.rel.toks (λb o e=>Dx _ e) (by rw[DM];exact Ee _) (Dy _) (Dz _ rfl) (λY hY _=>⟨xs,0,Dz _ rfl,r1.mono hY⟩)
  exact⟨by(exists D7);exact Dm.mp (ao [xs.length,vs.length] [(.eq (.v 1) (.v 0),-1),(.le (.v 1) (.n 100000),1)] (.le (.v 0) (.n 16777216)) 1 rfl (Ds Int.ofNat hle) (Dm.mpr hl)),o1.ok _ _ rfl _ _ _ mk.1 mk.2⟩
 ·exact o1.absurd
theorem Ak{es:List E}(G:GoodE C r)(S:St C A d X C1 s C3 C2 CT CS CW)(ck:az (n+1) C3 C2 e (.tup es)=true):Sim C A X s VRel (aF C.P r d CT C1 (.tup es)) (eval e CS):=λQ E o=>by
 refine hF e (show g8 _ e=true from ck) ?_;clear ck;intro es' k p ck
 with_reducible refine wpAny_Tuple ?_
 refine(G.evs (pos:=p) S (show cT (az n C3 C2) es' es=true from ck)).then o λvs mh1 e₁ X1 s1 xs x1 r1 o1=>?_
 split at o1
 ·rename_i hl
  have hl:=aK hl
  have hle:=r1.length
  have hf:=x1.rel.fresh s1.heap.objs.size (Dy _)
  have mk:=Ext.freeze (own:=aq) (C:=C) (X:=X1) (C1:=mh1) (h':=s1.heap.push {cls:=.type "tuple",data:=.seq xs.toArray}) (tk:=s1.toks) (a:=s1.heap.objs.size)
   x1.rel x1.rel.toks (λb o e=>Dx _ e) (by rw[DM];exact Ee _) (Dy _) (Dz _ rfl)
  exact⟨by(exists D7);exact Dm.mp (ao [xs.length,vs.length] [(.eq (.v 1) (.v 0),-1),(.le (.v 1) (.n 100000),1)] (.le (.v 0) (.n 16777216)) 1 rfl (Ds Int.ofNat hle) (Dm.mpr hl)),o1.ok _ _ rfl _ _ _ mk (.tup Wd.put_self rfl rfl (r1.mono (Wd.put_le hf)))⟩
 ·exact o1.absurd
theorem vi{k:List Nat}{v:Int}(S:St C A d X C1 s C3 C2 CT CS CW)(ck:az (n+1) C3 C2 e (.dict1 k v)=true):Sim C A X s VRel (aF C.P r d CT C1 (.dict1 k v)) (eval e CS):=λQ E o=>by
 refine ol e (show pV _ e=true from ck) ?_;clear ck;intro ks vs p ck
 refine cN ks (show one _ ks=true from ck) ?_;clear ck;intro o0 ck
 refine uS o0 (show Bi _ o0=true from ck) ?_;clear ck;intro e0 ck
 refine aX e0 (show aN _ e0=true from ck) ?_;clear ck;intro c0 k1 p1 ck
 refine iN c0 (show oo _ c0=true from ck) ?_;clear ck;intro t ck
 refine cN vs (show one _ vs=true from ck) ?_;clear ck;intro e1 ck
 refine aX e1 (show aN _ e1=true from ck) ?_;clear ck;intro c3 k2 p2 ck
 refine sY c3 (show xn _ c3=true from ck) ?_;clear ck;intro j ck
 replace ck:(t.cps.toList==k&&v==j)=true:=ck
 refine pL ck λc1 c2=>?_;clear ck;(try simp only[beq_iff_eq]at c1 c2)
 subst c1 c2
 refine wpAny_Dict_pairs (knd:=PySem.strKind C.prog C.w) (pairs:=[(eval (.Constant (.str t) k1 p1) CS,do let x<-eval (.Constant (.int v) k2 p2) CS;standAt p;pure x)]) rfl (by simp) (by simp) ?_
 show wpAny _ _ (eval (.Constant (.str t) k1 p1) CS>>=λkv=>holding [kv] (eval (.Constant (.int v) k2 p2) CS>>=λx=>standAt p>>=λ_=>pure x)>>=λvv=>holding [kv,vv] (pure [])>>=λr=>pure ((kv,vv)::r)) _ _ _
 refine Dn (E1 (Dn (DT (Dn (Hk (Dn (Ek (Dv (Dn (DT (Dv (Dv ?_))))))))))))
 refine⟨[(t,.int v (s.toks+1))],⟨?_,rfl,trivial⟩,Heap.DictOf.new _,λh' hd hs=>?_⟩
 ·exact DO _
 ·have hk:∀b o,s.heap.get? b=some o->h'.get? b=some o:=λb o eb=>by
   have hb:b≠s.heap.objs.size:=Et (EU eb)
   exists(hs.2 b hb);exact Dx _ eb
  have hsz:h'.objs.size=s.heap.objs.size+1:=by rw[hs.1,DM]
  refine bQ hd λob es ep g1 g2=>?_;clear hd
  have mk:=Ext.make (own:=aq) (C:=C) (X:=X) (C1:=C1) (o:=.dict [(t.cps.toList,.int v)]) (h':=h') (tk:=s.toks+1+1+1) (a:=s.heap.objs.size)
   S.R (DC _) hk (by exact ED (DK (Eq.symm hsz))) (Dy _) g1 (λY hY _=>⟨[(t,.int v (s.toks+1))],⟨ob,es,ep,g1,g2⟩,.cons (.int v _) .nil⟩)
  exact o.ok _ _ rfl _ _ _ mk.1 mk.2
theorem ke{o':Expr}(h:dl o'=false)(y:Str)(CS:PySem.Env)(whole:Sem Value):attributeBase o' y CS whole=whole:=by
 induction o' using Expr.casesOn with
 |Call f as ks p=>induction f using Expr.casesOn with
  |Name id p2=>induction as using List.casesOn with
   |nil=>induction ks using List.casesOn with
    |nil=>cases h
    |cons=>rfl
   |cons=>rfl
  |_=>rfl
 |_=>rfl
theorem xH{a:E}{k:Nat}(M:CxMore C)(G:GoodE C r)(hget:∀{A:Around}{X:Wd}{C1:Hp}{s:Shared}{x:V}{x':Value}{Q:Value->Shared->Prop}{E:Value->Shared->Prop}{expr:Bool},Rel C X C1 s->VRel X x x'->(attrN[k]?).isSome=true->Ob C aq X s.heap VRel (getattr x k C1) Q E->wpAny (model C.prog C.w) A (getAttr x' (ay k) expr) Q E s)
 (S:St C A d X C1 s C3 C2 CT CS CW) (ck:az (n+1) C3 C2 e (.attr a k)=true):Sim C A X s VRel (aF C.P r d CT C1 (.attr a k)) (eval e CS):=λQ E o=>by
 refine bc e (show aH _ e=true from ck) ?_;clear ck;intro o' y p ck
 replace ck:(attrN[k]? ==some y&& !dl o'&&az n C3 C2 o' a)=true:=ck
 refine jT ck λc1 c2 c3=>?_;clear ck;(try simp only[beq_iff_eq,Bool.not_eq_true']at c1 c2 c3)
 have hy:y=ay k:=by unfold ay;(exists c1);rfl
 subst hy
 have base:=ke c2 (ay k) CS
 refine Attribute_any_ ?_ ?_
 ·refine(G.ev S c3).then o λv mh1 e₁ X1 s1 v1 x1 r1 o1=>?_
  exact hget x1.rel r1 (by(exists c1);rfl) o1
 ·rw[arm_eval_Attribute,base]
theorem d7{value slice:Expr}{o i:Value}{T id:String}{ops:List Value}{Q:Value->Shared->Prop}{E:Value->Shared->Prop}{s:Shared}(hT:s.TypeIs o T)
 (hl:typeLookup (.type T) "__getitem__"=pure (some (.builtin id)))(h:wpAny (model C.prog C.w) A (getItem o i) Q E s)
 (hs:subscripted slice false o i=operate ops (getItem o i)):wpAny (model C.prog C.w) A (subscriptTail value slice o i) Q E s:=by
 unfold subscriptTail
 refine Dn ?_
 exists(getitemInPython_of_ne hT.not_modules)
 refine Dn (wpAny_specialOf hT hl ?_)
 have fin:wpAny (model C.prog C.w) A (subscripted slice false o i) (λr s3=>wpAny (model C.prog C.w) A (letTemporaryGo value o r>>=λ_=>pure r) Q E s3) E s:=by
  exists hs
  exact HS (EO h (λr s3 h₃=>Dn (wpAny_letTemporaryGo (Dv h₃))) λ_ _ x=>x)
 first
  |exact Dv (Dn fin)
  |exact Dn (Dv (Dn fin))
  |exact Dn fin
theorem ji{n:Nat}{y:V}{h:Hp}(hk:∀xs,h[n]?≠some (.list xs)) (hk2:∀kvs,h[n]?≠some (.dict kvs)):getitem (.ref n) y h=.no:=by
 unfold getitem
 cases y<;>dsimp only<;>(try rfl)<;>split<;>first|rfl|(rename_i z;exact absurd z (by first|exact hk _|exact hk2 _))
theorem xI{value sl:Expr}{o i:V}{o' i':Value}{ops:List Value}{Q:Value->Shared->Prop}{E:Value->Shared->Prop}(R:Rel C X C1 s)(ro:VRel X o o')(ri:VRel X i i')
 (hs:subscripted sl false o' i'=operate ops (getItem o' i'))(ob:Ob C aq X s.heap VRel (getitem o i C1) Q E):wpAny (model C.prog C.w) A (subscriptTail value sl o' i') Q E s:=by
 have g:=jc (A:=A) R ro ri ob
 induction ro using VRel.casesOn with
 |str x t=>exact d7 (Hh _ _ _) F.slot_str_getitem.lookup g hs
 | @tup vs items a o2 k hta htc htd hr=>exact d7 (T:="tuple") ⟨_,R.frozen _ _ hta,htc⟩ F.slot_tuple_getitem.lookup g hs
 |ref k a hn=>
  cases hx:C1[k]? with
  |none=>
   have:getitem (.ref k) i C1=.no:=ji (λ_ z=>by rw[hx]at z;cases z) (λ_ z=>by rw[hx]at z;cases z)
   rw[this]at ob;exact ob.absurd
  |some y=>cases y with
   |list xs=>
    refine aD (R.list hx hn) λvs kk h1 h2=>?_
    exact d7 (T:="list") ⟨_,h1,rfl⟩ G8 g hs
   |dict kvs=>
    refine gW (R.objs k _ hx) λa' h1 h2 es h3 h4=>?_
    rw[hn]at h1;cases h1
    exact d7 (T:="dict") h3.mapOf.typeIs F.slot_dict_getitem.lookup g hs
   |_=>
    have:getitem (.ref k) i C1=.no:=ji (λ_ z=>by rw[hx]at z;cases z) (λ_ z=>by rw[hx]at z;cases z)
    rw[this]at ob;exact ob.absurd
 |none=>exact ob.absurd
 |bool=>exact ob.absurd
 |int=>exact ob.absurd
 |rng=>exact ob.absurd
theorem Al{a b:E}(G:GoodE C r)(S:St C A d X C1 s C3 C2 CT CS CW)(ck:az (n+1) C3 C2 e (.sub a b)=true):Sim C A X s VRel (aF C.P r d CT C1 (.sub a b)) (eval e CS):=λQ E o=>by
 refine bF e (show bv _ e=true from ck) ?_;clear ck;intro o' i' p ck
 replace ck:(!eU i'&&az n C3 C2 o' a&&az n C3 C2 i' b)=true:=ck
 refine jT ck λc1 c2 c3=>?_;clear ck;(try simp only[Bool.not_eq_true']at c1 c2 c3)
 with_reducible refine HJ ?_
 refine(G.ev S c2).then o λv mh1 e₁ X1 s1 v1 x1 r1 o1=>?_
 refine(G.ev (S.ext x1) c3).then o1 λw mh2 e2 X2 s2 w2 x2 r2 o₂=>?_
 refine xI (ops:=[v1,w2]) x2.rel (r1.mono x2.le) r2 ?_ o₂
 cases i'<;>first|rfl|cases c1
theorem ia{value:Expr}{l u:Option Expr}{sp:Pos}{o:V}{lo hi:Option V}{o':Value}{ql qu:Option (Int×Tok)}{Q:Value->Shared->Prop}{E:Value->Shared->Prop}(R:Rel C X C1 s)(ro:VRel X o o')(hl:PRel lo ql)(hu:PRel hi qu)
 (ob:Ob C aq X s.heap VRel (slice o lo hi C1) Q E):
 wpAny (model C.prog C.w) A (subscriptTail value (.Slice l u none sp) o' (.ref s.heap.objs.size)) Q E {s with heap:=s.heap.push {cls:=.type "slice",data:=.fields #[partValue ql,partValue qu,.none]}}:=by
 have H:=Ext.grown (own:=aq) (C:=C) (X:=X) (C1:=C1) (h':=s.heap.push {cls:=.type "slice",data:=.fields #[partValue ql,partValue qu,.none]}) (tk:=s.toks) R R.toks (λb o e=>Dx _ e) (by rw[DM];lia)
 have g:=tf (A:=A) H.rel ro hl hu (Dz _ rfl) (ob.from H)
 induction ro using VRel.casesOn with
 |str x t=>exact d7 (ops:=[.ref s.heap.objs.size,.str _ t]) (Hh _ _ _) F.slot_str_getitem.lookup g rfl
 |ref k a hn=>
  cases hx:C1[k]? with
  |none=>
   have:slice (.ref k) lo hi C1=.no:=by simp only[slice,hx]
   rw[this]at ob;exact ob.absurd
  |some y=>cases y with
   |list xs=>
    refine aD (H.rel.list hx hn) λvs kk h1 h2=>?_
    exact d7 (T:="list") (ops:=[.ref s.heap.objs.size,.ref a]) ⟨_,h1,rfl⟩ G8 g rfl
   |_=>
    have:slice (.ref k) lo hi C1=.no:=by simp only[slice,hx]
    rw[this]at ob;exact ob.absurd
 |_=>exact ob.absurd
theorem fT{value:Expr}{l u:Option Expr}{sp p:Pos}{Q:Value->Shared->Prop}{E:Value->Shared->Prop}
 (h:wpAny (model C.prog C.w) A (eval value CS) (λo s1=>wpAny (model C.prog C.w) A (evalPart l CS) (λvl s2=>wpAny (model C.prog C.w) A (evalPart u CS) (λvu s3=>
  wpAny (model C.prog C.w) A (subscriptTail value (.Slice l u none sp) o (.ref s3.heap.objs.size)) Q E {s3 with heap:=s3.heap.push {cls:=.type "slice",data:=.fields #[vl,vu,.none]}}) E s2) E s1) E s):
 wpAny (model C.prog C.w) A (eval (.Subscript value (.Slice l u none sp) p) CS) Q E s:=by
 with_reducible refine HJ ?_
 refine EO h (λo s1 h₁=>wpAny_Slice (EO h₁ (λvl s2 h₂=>EO h₂ (λvu s3 h₃=>?_) λ_ _ e=>e) λ_ _ e=>e)) λ_ _ e=>e
 rw[evalPart_none]
 exact Dv h₃
theorem ib{v:V}{v':Value}{o lo hi:Option V}{x:V}{h:Hp}(r:VRel X v v'):(∃q:Int×Tok,v'=partValue (some q)/\PRel (some v) (some q))\/aL 0 (some v)=none/\∀d,aL d (some v)=none:=by
 induction r using VRel.casesOn with
 |int i t=>exact .inl ⟨(i,t),rfl,.some i t⟩
 |_=>exact .inr ⟨rfl,λ_=>rfl⟩
theorem lV{x:V}{v:V}{hi:Option V}{h:Hp}(hp:∀d,aL d (some v)=none):slice x (some v) hi h=.no:=by
 cases x with
 |str s=>
  show(match aL 0 (some v),aL s.length hi with|some l,some u=>_|_,_=>R.no)=.no
  rw[hp]
 |ref n=>
  unfold slice
  dsimp only
  split
  ·rename_i xs hx
   show(match aL 0 (some v),aL xs.length hi with|some l,some u=>_|_,_=>R.no)=.no
   rw[hp]
  ·rfl
 |_=>rfl
theorem lW{x:V}{v:V}{lo:Option V}{h:Hp}(hp:∀d,aL d (some v)=none):slice x lo (some v) h=.no:=by
 cases x with
 |str s=>
  show(match aL 0 lo,aL s.length (some v)with|some l,some u=>_|_,_=>R.no)=.no
  rw[hp];cases aL 0 lo<;>rfl
 |ref n=>
  unfold slice
  dsimp only
  split
  ·rename_i xs hx
   show(match aL 0 lo,aL xs.length (some v)with|some l,some u=>_|_,_=>R.no)=.no
   rw[hp];cases aL 0 lo<;>rfl
  ·rfl
 |_=>rfl
theorem vj{a:E}{lo hi:Option E}(G:GoodE C r)(S:St C A d X C1 s C3 C2 CT CS CW)(ck:az (n+1) C3 C2 e (.slice a lo hi)=true):Sim C A X s VRel (aF C.P r d CT C1 (.slice a lo hi)) (eval e CS):=λQ E o=>by
 refine bF e (show bv _ e=true from ck) ?_;clear ck;intro o' i' p ck
 refine hH i' (show jG _ i'=true from ck) ?_;clear ck;intro l u st sp ck
 induction st using Option.casesOn with
 |some=>exact aC ck
 |none=>
  replace ck:(az n C3 C2 o' a&&Bg (az n C3 C2) l lo&&Bg (az n C3 C2) u hi)=true:=ck
  refine jT ck λc1 c2 c3=>?_;clear ck
  refine fT ?_
  refine(G.ev S c1).then o λv mh1 e₁ X1 s1 v1 x1 r1 o1=>?_
  induction l using Option.casesOn with
  |none=>induction lo using Option.casesOn with
   |some=>exact aC c2
   |none=>
    rw[evalPart_none]
    refine Dv ?_
    induction u using Option.casesOn with
    |none=>induction hi using Option.casesOn with
     |some=>exact aC c3
     |none=>exact Dv (ia (ql:=none) (qu:=none) x1.rel r1 .none .none o1)
    |some u=>induction hi using Option.casesOn with
     |none=>exact aC c3
     |some hi=>
      rw[evalPart_some]
      refine(G.ev (S.ext x1) c3).then o1 λw mh2 e2 X2 s2 w2 x2 r2 o₂=>?_
      rcases ib (o:=none) (lo:=none) (hi:=none) (x:=.none) (h:=[]) r2 with⟨q,hq,hp⟩|⟨_,hp⟩
      ·subst hq;exact ia (ql:=none) (qu:=some q) x2.rel (r1.mono x2.le) .none hp o₂
      ·rw[lW hp]at o₂;exact o₂.absurd
  |some l=>induction lo using Option.casesOn with
   |none=>exact aC c2
   |some lo=>
    rw[evalPart_some]
    induction u using Option.casesOn with
    |none=>induction hi using Option.casesOn with
     |some=>exact aC c3
     |none=>
      refine(G.ev (S.ext x1) c2).then o1 λw mh2 e2 X2 s2 w2 x2 r2 o₂=>?_
      refine Dv ?_
      rcases ib (o:=none) (lo:=none) (hi:=none) (x:=.none) (h:=[]) r2 with⟨q,hq,hp⟩|⟨_,hp⟩
      ·subst hq;exact ia (ql:=some q) (qu:=none) x2.rel (r1.mono x2.le) hp .none o₂
      ·rw[lV hp]at o₂;exact o₂.absurd
    |some u=>induction hi using Option.casesOn with
     |none=>exact aC c3
     |some hi=>
      refine(G.ev (S.ext x1) c2).then o1 λw mh2 e2 X2 s2 w2 x2 r2 o₂=>?_
      refine(G.ev ((S.ext x1).ext x2) c3).then o₂ λw mh3 e3 X3 s3 w3 x3 r3 o3=>?_
      rcases ib (o:=none) (lo:=none) (hi:=none) (x:=.none) (h:=[]) r2 with⟨q,hq,hp⟩|⟨_,hp⟩
      ·rcases ib (o:=none) (lo:=none) (hi:=none) (x:=.none) (h:=[]) r3 with⟨q3,hq3,hp3⟩|⟨_,hp3⟩
       ·subst hq hq3;exact ia (ql:=some q) (qu:=some q3) x3.rel ((r1.mono x2.le).mono x3.le) hp hp3 o3
       ·rw[lW hp3]at o3;exact o3.absurd
      ·rw[lV hp]at o3;exact o3.absurd
end
theorem dn{e:Expr}{rest:List Expr}{CT:PySem.Env}(h:cb e=false):starEach (e::rest) CT=(false,eval e CT)::starEach rest CT:=by induction e using Expr.casesOn<;>first|rfl|exact aC h.symm
theorem dL{f:Expr->E->Bool}{CT:PySem.Env}{pos:Pos}:∀{es:List Expr}{ms:List E},cT f es ms=true->(backTo pos (starEach es CT)).any (·.1)=false
 |[],[],_=>rfl
 |[],_::_,h=>by cases h
 |_::_,[],h=>by cases h
 |e::es,m::ms,h=>by
  replace h:(!cb e&&f e m&&cT f es ms)=true:=h
  simp only[Bool.and_eq_true,Bool.not_eq_true']at h
  exists(dn h.1.1)
  show(false||(backTo pos (starEach es CT)).any (·.1))=false
  exists(dL h.2);rfl
theorem fk{f:Expr->E->Bool}{CT:PySem.Env}{pos:Pos}{es:List Expr}{ms:List E}(h:cT f es ms=true):(backTo pos (starEach es CT)).all (λx=>!x.1)=true:=by
 have:=dL (CT:=CT) (pos:=pos) h
 exists(propext DE)
 intro x hx
 have h2:=List.any_eq_false.mp this x hx
 simpa using h2
theorem xJ(b:BI):bootBuiltins (Str.ofString b.real)=some (B4 b):=by cases b<;>decide+kernel
theorem xK(b:BI):Str.ofString b.real≠"__name__":=by cases b<;>decide+kernel
section
variable{C:Cx}{r:Rec}{A:Around}{d:Dp}{X:Wd}{C1:Hp}{s:Shared}{C3:Scope}{C2:List (Option Str)}{CT:Env}{CS CW:PySem.Env}{n:Nat}{e:Expr}
theorem Am{b:BI}{pos:Pos}{e1:Expr}{rest:List Expr}{Q:Value->Shared->Prop}{E:Value->Shared->Prop}{M:Model}{CT:PySem.Env}
 (h:wpAny M A (spliced (backTo pos (starEach (e1::rest) CT))) (λvs s1=>wpAny M A (call (B4 b) vs) Q E s1) E s)
 (he:cb e1=false)(hp:(backTo pos (starEach rest CT)).any (·.1)=false):wpAny M A (callWith pos (B4 b) [] (backTo pos (starEach (e1::rest) CT)) []) Q E s:=by
 cases b with
 |len=>exact Ep (id:="len") h (dn he) hp
 |range=>exact Hr (T:="range") h (dn he) hp
 |list=>exact Hr (T:="list") h (dn he) hp
 |ord=>exact Ep (id:="ord") h (dn he) hp
 |sum=>exact Ep (id:="sum") h (dn he) hp
 |abs=>exact Ep (id:="abs") h (dn he) hp
 |max=>exact Ep (id:="max") h (dn he) hp
theorem vk{b:BI}{args:List E}(M:CxMore C)(G:GoodE C r)(S:St C A d X C1 s C3 C2 CT CS CW)(ck:az (n+1) C3 C2 e (.Dc b args)=true):Sim C A X s VRel (aF C.P r d CT C1 (.Dc b args)) (eval e CS):=λQ E o=>by
 refine bH e (show bX _ e=true from ck) ?_;clear ck;intro f as ks p ck
 refine aQ f (show bg _ f=true from ck) ?_;clear ck;intro x np ck
 replace ck:(dJ ks&&Str.ofString b.real==x&&cU C3 x&&cT (az n C3 C2) as args&&Nat.ble as.length 20&& !as.isEmpty)=true:=ck
 refine BZ ck λc1 c2 c3 c4 c5 c6=>?_;clear ck;(try simp only[beq_iff_eq,Bool.not_eq_true']at c1 c2 c3 c4 c5 c6)
 subst c2
 have hk:ks=[]:=by unfold dJ at c1;simpa using c1
 subst hk
 replace o:Ob C aq X s.heap VRel (if d.2.isSome then .no else(r.evs d CT C1 args).bind λvs h=>bcall b vs h) Q E:=o
 cases hd:d.2 with
 |some k=>rw[hd]at o;exact o.absurd
 |none=>
  rw[hd]at o
  replace o:Ob C aq X s.heap VRel ((r.evs d CT C1 args).bind λvs h=>bcall b vs h) Q E:=o
  refine HF (hM M.ok S.R S.V c3 (M.ok.bnames b) (xJ b) (xK b) ?_)
  induction as using List.casesOn with
  |nil=>cases c6
  |cons e1 rest=>induction args using List.casesOn with
   |nil=>exact aC c4
   |cons m1 args=>
    have c4':(!cb e1&&az n C3 C2 e1 m1&&cT (az n C3 C2) rest args)=true:=c4
    simp only[Bool.and_eq_true,Bool.not_eq_true']at c4'
    refine Am ?_ c4'.1.1 (dL c4'.2)
    refine(G.evs (pos:=p) S c4).then o λvs mh1 e₁ X1 s1 xs x1 r1 o1=>?_
    exact tj (S.F.hnone hd) x1.rel r1 o1
theorem fU{o':Expr}{name:Str}{ap p:Pos}{as:List Expr}{Q:Value->Shared->Prop}{E:Value->Shared->Prop}
 (hbase:dl o'=false)(hall:(backTo p (starEach as CS)).all (λx=>!x.1)=true)(hlen:as.length<=20)(hline:(ap.endLine==p.line)=true)
 (h:wpAny (model C.prog C.w) A (eval o' CS) (λov s1=>∀pl,wpAny (model C.prog C.w) A (getMethod ov name pl) (λfp s2=>wpAny (model C.prog C.w) A (callWith p fp.1 fp.2 (backTo p (starEach as CS)) []) Q E s2) E s1) E s):
 wpAny (model C.prog C.w) A (eval (.Call (.Attribute o' name ap) as [] p) CS) Q E s:=by
 rw[arm_eval_Call,ke hbase]
 refine Dn (EO h (λov s1 h1=>?_) λ_ _ e=>e)
 refine Dn (Ek ?_)
 have hform:methodCallForm (as.length+([]:List Keyword).length) (backTo p (starEach as CS)) (backToKw p (keywordEach [] CS))=true:=by
  unfold methodCallForm
  exists hall
  show(true&&true&&decide (as.length+0+0<30))=true
  simp;exact EB (aT hlen rfl)
 have hpos:methodCallPos true o' CS ap p=pure p:=by unfold methodCallPos;simp[hline]
 unfold methodCall
 exists hform
 refine Dn (DT ?_)
 refine EO (h1 _) (λfp s2 h2=>?_) λ_ _ e=>e
 obtain⟨f,first⟩:=fp
 exact Dn (HK hpos h2)
theorem xL{m:MI}{obj:E}{args:List E}(G:GoodE C r)(S:St C A d X C1 s C3 C2 CT CS CW)(ck:az (n+1) C3 C2 e (.meth m obj args)=true):Sim C A X s VRel (aF C.P r d CT C1 (.meth m obj args)) (eval e CS):=λQ E o=>by
 refine bH e (show bX _ e=true from ck) ?_;clear ck;intro f as ks p ck
 refine bc f (show aH _ f=true from ck) ?_;clear ck;intro o' a ap ck
 replace ck:(dJ ks&&Str.ofString m.real==a&& !dl o'&&az n C3 C2 o' obj&&cT (az n C3 C2) as args&&Nat.ble as.length 20&& !as.isEmpty&&ap.endLine==p.line)=true:=ck
 refine CG ck λc1 c2 c3 c4 c5 c6 c7 c8=>?_;clear ck;(try simp only[beq_iff_eq,Bool.not_eq_true']at c1 c2 c3 c4 c5 c6 c7 c8)
 subst c2
 have hk:ks=[]:=by unfold dJ at c1;simpa using c1
 subst hk
 replace o:Ob C aq X s.heap VRel (if d.2.isSome then .no else(r.ev d CT C1 obj).bind λx h=>if cn m x h then(r.evs d CT h args).bind λvs h=>meth m x vs h else .no) Q E:=o
 cases hd:d.2 with
 |some k=>rw[hd]at o;exact o.absurd
 |none=>
  rw[hd]at o
  replace o:Ob C aq X s.heap VRel ((r.ev d CT C1 obj).bind λx h=>if cn m x h then(r.evs d CT h args).bind λvs h=>meth m x vs h else .no) Q E:=o
  refine fU c3 (fk c5) (DF c6) (by(exists c8);exact DO _) ?_
  refine(G.ev S c4).then o λv mh1 e₁ X1 s1 v1 x1 r1 o1=>λpl=>?_
  split at o1
  ·rename_i hok
   refine xA x1.rel r1 hok ?_
   induction as using List.casesOn with
   |nil=>cases c7
   |cons e1 rest=>induction args using List.casesOn with
    |nil=>exact aC c5
    |cons m1 args=>
     have c5':(!cb e1&&az n C3 C2 e1 m1&&cT (az n C3 C2) rest args)=true:=c5
     simp only[Bool.and_eq_true,Bool.not_eq_true']at c5'
     refine Hf ?_ (dn c5'.1.1) (dL c5'.2)
     refine(G.evs (pos:=p) (S.ext x1) c5).then o1 λvs mh2 e2 X2 s2 xs x2 r2 o2=>?_
     exact oG x2.rel (r1.mono x2.le) r2 o2
  ·exact o1.absurd
theorem xM{obj:E}{a b:Nat}(G:GoodE C r)(S:St C A d X C1 s C3 C2 CT CS CW)(ck:az (n+1) C3 C2 e (.repl obj a b)=true):Sim C A X s VRel (aF C.P r d CT C1 (.repl obj a b)) (eval e CS):=λQ E o=>by
 refine bH e (show bX _ e=true from ck) ?_;clear ck;intro f as ks p ck
 refine bc f (show aH _ f=true from ck) ?_;clear ck;intro o' y ap ck
 refine uR as (show Bh _ as=true from ck) ?_;clear ck;intro e0 e1 ck
 refine aX e0 (show aN _ e0=true from ck) ?_;clear ck;intro c0 k1 p1 ck
 refine iN c0 (show oo _ c0=true from ck) ?_;clear ck;intro u ck
 refine aX e1 (show aN _ e1=true from ck) ?_;clear ck;intro c3 k2 p2 ck
 refine iN c3 (show oo _ c3=true from ck) ?_;clear ck;intro v ck
 replace ck:(dJ ks&&y==("replace":Str)&&u.cps.toList==[a]&&v.cps.toList==[b]&& !dl o'&&az n C3 C2 o' obj&&ap.endLine==p.line)=true:=ck
 refine Bp ck λc1 c2 c3 c4 c5 c6 c7=>?_;clear ck;(try simp only[beq_iff_eq,Bool.not_eq_true']at c1 c2 c3 c4 c5 c6 c7)
 subst c2
 have hu:u=⟨#[a]⟩:=by(refine bt (qj u) ?_;exists c3);rfl
 have hv:v=⟨#[b]⟩:=by(refine bt (qj v) ?_;exists c4);rfl
 subst hu hv
 have hk:ks=[]:=by unfold dJ at c1;simpa using c1
 subst hk
 replace o:Ob C aq X s.heap VRel (if d.2.isSome then .no else(r.ev d CT C1 obj).bind λx h=>match x with|.str s=>if ae s.length&&a !=b then .ok (.str (s.map λx=>if x==a then b else x)) h else .no|_=>.no) Q E:=o
 cases hd:d.2 with
 |some k=>rw[hd]at o;exact o.absurd
 |none=>
  rw[hd]at o
  replace o:Ob C aq X s.heap VRel ((r.ev d CT C1 obj).bind λx h=>match x with|.str s=>if ae s.length&&a !=b then .ok (.str (s.map λx=>if x==a then b else x)) h else .no|_=>.no) Q E:=o
  refine fU c5 rfl (by show 2<=20;exact Fr _ _) (by(exists c7);exact DO _) ?_
  refine(G.ev S c6).then o λx mh1 e₁ X1 s1 v1 x1 r1 o1=>λpl=>?_
  induction r1 using VRel.casesOn with
  |str y t=>
   replace o1:Ob C aq X1 s1.heap VRel (if ae y.length&&a !=b then .ok (.str (y.map λx=>if x==a then b else x)) mh1 else .no) Q E:=o1
   split at o1
   ·rename_i hh
    replace hh:=and2 hh
    with_reducible refine GM.replace ?_
    refine Hf ?_ rfl rfl
    with_reducible refine Gz ?_ ?_
    ·refine E1 ?_
     with_reducible refine Gz ?_ ?_
     ·refine E1 ?_
      refine wpAny_items_nil ?_
      have T:=Ext.toks (own:=aq) (C:=C) x1.rel (tk:=s1.toks+1+1) (DC _)
      have p0:=x1.rel.toks
      refine vf (x:=y) T.rel hh.1 hh.2 ?_ ?_ ?_ λt' tk htk=>?_
      ·exact Eg p0
      ·exact Ff _
      ·exact Et (Gg _)
      ·exact o1.ok _ _ rfl X1 _ _ (Ext.toks x1.rel htk) (.str _ t')
     ·rfl
    ·rfl
   ·exact o1.absurd
  |_=>exact o1.absurd
end
noncomputable def qy:Expr->Bool
 |.UnaryOp .Not _ _|.BoolOp .. |.IfExp .. |.Compare .. =>false
 |_=>true
theorem m9{e:Expr}(h:qy e=true)(CT:PySem.Env)(whole:Sem Value):isTrue e CT whole=(do let v<-whole;standAt e.pos;holding [v] (truthy v)):=by
 induction e using Expr.casesOn with
 |UnaryOp op x p=>cases op<;>first|rfl|cases h
 |BoolOp=>exact aC h
 |IfExp=>exact aC h
 |Compare=>exact aC h
 |_=>rfl
section
variable{C:Cx}{r:Rec}{A:Around}{d:Dp}{X:Wd}{C1:Hp}{s:Shared}{C3:Scope}{C2:List (Option Str)}{CT:Env}{CS CW:PySem.Env}{n:Nat}{e:Expr}{m:E}
theorem tD(h:qy e=true)(hS:Sim C A X s VRel (aF C.P r d CT C1 m) (eval e CS)):Sim C A X s gO ((aF C.P r d CT C1 m).bind tr) (isTrue e CS (eval e CS)):=λQ E o=>by
 rw[m9 h]
 refine Dn (hS.then o λv mh1 e1 X1 s1 v1 x1 r1 o1=>?_)
 refine Dn (Ek (DT ?_))
 cases ht:aO v mh1 with
 |none=>rw[jg ht]at o1;exact o1.absurd
 |some b=>
  rw[hW ht]at o1
  exact iQ x1.rel r1 ht λtk htk=>o1.ok _ _ rfl X1 _ b (Ext.toks x1.rel htk) rfl
theorem xN{a:E}(G:GoodE C r)(S:St C A d X C1 s C3 C2 CT CS CW)(ck:az (n+1) C3 C2 e (.not a)=true):Sim C A X s gO ((aF C.P r d CT C1 (.not a)).bind tr) (isTrue e CS (eval e CS)):=λQ E o=>by
 refine cM e (show cD _ e=true from ck) ?_;clear ck;intro op x p ck
 induction op using UnaryOp.casesOn with
 |Not=>
  with_reducible refine wpAny_isTrue_Not ?_
  have key:(aF C.P r d CT C1 (.not a)).bind tr=((r.ev d CT C1 a).bind tr).bind λb h=>.ok (!b) h:=by
   show((r.ev d CT C1 a).bind _).bind tr=_
   rw[bn,bn]
   congr 1
   funext x h
   cases ht:aO x h with
   |none=>(exists(jg ht));rfl
   |some c=>(exists(hW ht));rfl
  refine(G.evT S (show az n C3 C2 x a=true from ck)).then (o.cast key) λc mh1 e1 X1 s1 c' x1 r1 o1=>?_
  replace r1:c=c':=r1
  subst r1
  exact o1.ok _ _ rfl X1 s1 (!c) (Ext.refl x1.rel) rfl
 |_=>exact aC ck
theorem xO{es:List E}(G:GoodE C r)(S:St C A d X C1 s C3 C2 CT CS CW)(ck:az (n+1) C3 C2 e (.and es)=true):Sim C A X s gO ((aF C.P r d CT C1 (.and es)).bind tr) (isTrue e CS (eval e CS)):=λQ E o=>by
 refine dm e (show dX _ e=true from ck) ?_;clear ck;intro op vs p ck
 induction op using BoolOp.casesOn with
 |And=>
  with_reducible refine wpAny_isTrue_BoolOp ?_
  exact G.andsT (k:=true) S (show cT (az n C3 C2) vs es=true from ck) Q E o
 |_=>exact aC ck
theorem An{es:List E}(G:GoodE C r)(S:St C A d X C1 s C3 C2 CT CS CW)(ck:az (n+1) C3 C2 e (.or es)=true):Sim C A X s gO ((aF C.P r d CT C1 (.or es)).bind tr) (isTrue e CS (eval e CS)):=λQ E o=>by
 refine dm e (show dX _ e=true from ck) ?_;clear ck;intro op vs p ck
 induction op using BoolOp.casesOn with
 |Or=>
  with_reducible refine wpAny_isTrue_BoolOp ?_
  exact G.andsT (k:=false) S (show cT (az n C3 C2) vs es=true from ck) Q E o
 |_=>exact aC ck
theorem xP{a:E}{ops:List COp}{es:List E}(G:GoodE C r)(S:St C A d X C1 s C3 C2 CT CS CW)(ck:az (n+1) C3 C2 e (.cmp a ops es)=true):Sim C A X s gO ((aF C.P r d CT C1 (.cmp a ops es)).bind tr) (isTrue e CS (eval e CS)):=λQ E o=>by
 refine fJ e (show gn _ e=true from ck) ?_;clear ck;intro l os rs p ck
 replace ck:(az n C3 C2 l a&&os==ops.map COp.real&&cT (az n C3 C2) rs es&&rs.all (λr=>!cC r)&&os.length==rs.length)=true:=ck
 refine xh ck λc1 c2 c3 c4 c5=>?_;clear ck;(try simp only[beq_iff_eq]at c1 c2 c3 c4 c5)
 subst c2
 exists(show isTrue (.Compare l (ops.map COp.real) rs p) CS (eval (.Compare l (ops.map COp.real) rs p) CS)=(do testChain p (<-eval l CS) (ops.map COp.real) (markedEach (ops.map COp.real) rs (evalEach rs CS)))from arm_isTrue_Compare ..)
 have o':=o.cast (bn (r.ev d CT C1 a) _ tr)
 refine Dn ((G.ev S c1).then o' λv mh1 e1 X1 s1 v1 x1 r1 o1=>?_)
 exact G.cmpsT (pos:=p) (S.ext x1) c3 c4 r1 Q E o1
theorem xQ{t a b:E}(G:GoodE C r)(S:St C A d X C1 s C3 C2 CT CS CW)(ck:az (n+1) C3 C2 e (.ite t a b)=true):Sim C A X s gO ((aF C.P r d CT C1 (.ite t a b)).bind tr) (isTrue e CS (eval e CS)):=λQ E o=>by
 refine g7 e (show jF _ e=true from ck) ?_;clear ck;intro t' a' b' p ck
 replace ck:(az n C3 C2 t' t&&az n C3 C2 a' a&&az n C3 C2 b' b)=true:=ck
 refine jT ck λc1 c2 c3=>?_;clear ck
 exists(show isTrue (.IfExp t' a' b' p) CS (eval (.IfExp t' a' b' p) CS)=(do if<-isTrue t' CS (eval t' CS)then isTrue a' CS (eval a' CS)else isTrue b' CS (eval b' CS))from arm_isTrue_IfExp ..)
 have key:(aF C.P r d CT C1 (.ite t a b)).bind tr=((r.ev d CT C1 t).bind tr).bind λc h=>match c with|true=>(r.ev d CT h a).bind tr|false=>(r.ev d CT h b).bind tr:=by
  show((r.ev d CT C1 t).bind _).bind tr=_
  rw[bn,bn]
  congr 1
  funext x h
  cases ht:aO x h with
  |none=>(exists(jg ht));rfl
  |some c=>(exists(hW ht));cases c<;>rfl
 refine Dn ((G.evT S c1).then (o.cast key) λc mh1 e1 X1 s1 c' x1 r1 o1=>?_)
 replace r1:c=c':=r1
 subst r1
 cases c
 ·exact G.evT (S.ext x1) c3 Q E o1
 ·exact G.evT (S.ext x1) c2 Q E o1
noncomputable def Ao:E->Bool
 |.not _|.and _|.or _|.cmp .. |.ite .. =>false
 |_=>true
theorem vm{m:E}(hm:Ao m=true)(ck:az (n+1) C3 C2 e m=true):qy e=true:=by
 induction e using Expr.casesOn with
 |UnaryOp op x p=>induction op using UnaryOp.casesOn with
  |Not=>induction m using E.casesOn<;>first|exact aC hm|exact aC ck
  |_=>rfl
 |BoolOp op vs p=>induction m using E.casesOn<;>first|exact aC hm|exact aC ck
 |IfExp=>induction m using E.casesOn<;>first|exact aC hm|exact aC ck
 |Compare=>induction m using E.casesOn<;>first|exact aC hm|exact aC ck
 |_=>rfl
theorem vn(G:GoodE C r)(S:St C A d X C1 s C3 C2 CT CS CW)(ck:az (n+1) C3 C2 e m=true)(hS:Sim C A X s VRel (aF C.P r d CT C1 m) (eval e CS)):
 Sim C A X s gO ((aF C.P r d CT C1 m).bind tr) (isTrue e CS (eval e CS)):=by
 cases m with
 |not a=>exact xN G S ck
 |and es=>exact xO G S ck
 |or es=>exact An G S ck
 |cmp a ops es=>exact xP G S ck
 |ite t a b=>exact xQ G S ck
 |_=>exact tD (vm rfl ck) hS
end
section
variable{C:Cx}{r:Rec}{A:Around}{d:Dp}{X:Wd}{C1:Hp}{s:Shared}{C3:Scope}{C2:List (Option Str)}{CT:Env}{CS CW:PySem.Env}{n:Nat}{e:Expr}
theorem tE{a:Int}(h:small a=true):a.natAbs.log2<1920:=by
 have:=dZ h
 unfold Builtin.Int.intBits at this
 split at this
 ·rename_i q
  have:a=0:=by simpa using q
  subst this;decide+kernel
 ·exact Es (aT this rfl)
theorem na{acc t:List Nat}{vs:List V}{h:Hp}:m8 acc (.str t::vs) h=m8 (acc++t) vs h:=by
 have e:aV (.str t::vs)=(aV vs).map (t++·):=rfl
 unfold m8
 exists e
 cases aV vs with
 |none=>rfl
 |some u=>simp only[Option.map_some,List.append_assoc]
theorem xR{acc:List Nat}{i:Int}{vs:List V}{h:Hp}(hs:small i=true):m8 acc (.int i::vs) h=m8 (acc++(Str.ofString (toString i)).cps.toList) vs h:=by
 have e:aV (.int i::vs)=(aV vs).map ((Str.ofString (toString i)).cps.toList++·):=if_pos hs
 unfold m8
 exists e
 cases aV vs with
 |none=>rfl
 |some u=>simp only[Option.map_some,List.append_assoc]
theorem r7{acc:List Nat}{vs:List V}{h:Hp}(q:m8 acc vs h≠.no):acc.length<=100000:=by
 unfold m8 at q
 split at q
 ·split at q
  ·rename_i hl;have:=aK hl;rw[D0]at this;exact Dw (Ey _ _) this
  ·exact absurd rfl q
 ·exact absurd rfl q
theorem xS(G:GoodE C r){es:List Expr}{ms:List E}{acc:List Nat}(S:St C A d X C1 s C3 C2 CT CS CW)(ck:lv (az n C3 C2) es ms=true)(hacc:acc.length<=100000):
 Sim C A X s VRel (xB acc (zK r d CT C1 ms)) (joinParts ⟨acc.toArray⟩ (evalEach es CS)):=by
 intro Q E o
 induction es using List.casesOn with
 |nil=>induction ms using List.casesOn with
  |cons=>exact aC ck
  |nil=>
   replace o:Ob C aq X s.heap VRel (m8 acc [] C1) Q E:=o
   unfold m8 aV at o
   dsimp only at o
   rw[Hl]at o
   split at o
   ·exact joinParts_nil (o.ok _ _ rfl X _ _ (Ext.toks S.R (DC _)) (.str acc _)) (by rw[bB,D7];exact aT hacc rfl)
   ·exact o.absurd
 |cons e es=>induction ms using List.casesOn with
  |nil=>
   have z:lv (az n C3 C2) (e::es) []=false:=by
    induction e using Expr.casesOn with
    |Constant c k p=>cases c<;>rfl
    |FormattedValue v c sp p=>cases sp<;>rfl
    |_=>rfl
   rw[z]at ck;exact aC ck
  |cons m ms=>
   replace o:Ob C aq X s.heap VRel (xB acc ((r.ev d CT C1 m).bind λv h=>(r.evs d CT h ms).bind λvs h=>.ok (v::vs) h)) Q E:=o
   cases hr:r.ev d CT C1 m with
   |no=>rw[hr]at o;exact o.absurd
   |exc k h1=>rw[hr]at o;exact o.absurd
   |ok v h1=>
    rw[hr]at o
    cases hr2:r.evs d CT h1 ms with
    |no=>
     have:xB acc ((R.ok v h1).bind λv h=>(r.evs d CT h ms).bind λvs h=>R.ok (v::vs) h)=.no:=by show xB acc ((r.evs d CT h1 ms).bind _)=_;(exists hr2);rfl
     rw[this]at o;exact o.absurd
    |exc k h2=>
     have:xB acc ((R.ok v h1).bind λv h=>(r.evs d CT h ms).bind λvs h=>R.ok (v::vs) h)=.no:=by show xB acc ((r.evs d CT h1 ms).bind _)=_;(exists hr2);rfl
     rw[this]at o;exact o.absurd
    |ok vs h2=>
     have o:Ob C aq X s.heap VRel (m8 acc (v::vs) h2) Q E:=by
      have e1:xB acc ((R.ok v h1).bind λv h=>(r.evs d CT h ms).bind λvs h=>R.ok (v::vs) h)=m8 acc (v::vs) h2:=by show xB acc ((r.evs d CT h1 ms).bind _)=_;(exists hr2);rfl
      rwa[e1]at o
     have rest:∀(t:List Nat)(X1:Wd)(s1:Shared),Ext C aq X s.heap X1 h1 s1->lv (az n C3 C2) es ms=true->m8 acc (v::vs) h2=m8 (acc++t) vs h2->
      ((Str.mk acc.toArray++Str.mk t.toArray).length<=sizeLine/\wpAny (model C.prog C.w) A (joinParts (Str.mk acc.toArray++Str.mk t.toArray) (evalEach es CS)) Q E s1):=λt X1 s1 x1 ck' e1=>by
      have hz:=r7 (by(refine bt e1 ?_);exact o.no)
      rw[rX,bB]
      refine⟨by(exists D7);exact aT hz rfl,?_⟩
      refine G.fs (S.ext x1) ck' hz Q E ?_
      exists hr2
      show Ob C aq X1 s1.heap VRel (m8 (acc++t) vs h2) Q E
      refine bt e1 ?_
      exact o.from x1
     induction e using Expr.casesOn with
     |Constant c k p=>induction c using Const.casesOn with
      |str u=>cases m with
       |str y=>
        replace ck:(u.cps.toList==y&&az n C3 C2 (.Constant (.str u) k p) (.str y)&&lv (az n C3 C2) es ms)=true:=ck
        refine jT ck λc1 c2 c3=>?_;clear ck;(try simp only[beq_iff_eq]at c1 c2 c3)
        subst c1
        have hv:v=.str u.cps.toList:=by
         rcases G.lit d CT C1 u.cps.toList with q|q
         ·rw[hr]at q;injection q
         ·exact zQ (hr.symm.trans q)
        have hh:h1=C1:=by
         rcases G.lit d CT C1 u.cps.toList with q|q
         ·rw[hr]at q;injection q
         ·exact zQ (hr.symm.trans q)
        subst hh
        show wpAny _ _ (joinParts _ (eval (.Constant (.str u) k p) CS::evalEach es CS)) Q E s
        refine joinParts_cons (E1 ?_)
        have T:=Ext.toks (own:=aq) (C:=C) S.R (tk:=s.toks+1) (DC _)
        exact rest u.cps.toList X _ T c3 (by(exists hv);exact na)
       |_=>exact aC ck
      |_=>exact aC ck
     |FormattedValue w cv sp p=>induction sp using Option.casesOn with
      |some=>exact aC ck
      |none=>
       replace ck:(cv== -1&&az n C3 C2 w m&&lv (az n C3 C2) es ms)=true:=ck
       refine jT ck λc1 c2 c3=>?_;clear ck;(try simp only[beq_iff_eq]at c1 c2 c3)
       subst c1
       show wpAny _ _ (joinParts _ (eval (.FormattedValue w (-1) none p) CS::evalEach es CS)) Q E s
       refine joinParts_cons (FormattedValue_plain ?_)
       refine G.ev S c2 _ _ ⟨λv₁ mh1 e₁ X1 s1 v1' x1 r1=>?_,λn' C7 q=>Bf (hr.symm.trans q),λq=>zQ (hr.symm.trans q)⟩
       rw[hr]at e₁
       injection e₁ with ev eh
       subst ev eh
       induction r1 using VRel.casesOn with
       |str t tk=>
        have hz:=r7 (by(refine bt na ?_);exact o.no:m8 (acc++t) vs h2≠.no)
        refine bp (formatField_str (λt' tk'=>λhtk=>?_) (by rw[bB,D7];rw[D0]at hz;exact Dm.mp (ao [t.length,acc.length] [(.le (.a (.v 1) (.v 0)) (.n 100000),1),(.le (.n 0) (.v 1),1)] (.le (.v 0) (.n 16777216)) 1 rfl (Dm.mpr hz) (Dq _))))
        exact rest t X1 _ (x1.trans (Ext.toks x1.rel (DA x1.rel.toks htk))) c3 na
       |int i tk=>
        have hsm:small i=true:=by
         cases q:small i with
         |true=>rfl
         |false=>
          have:m8 acc (.int i::vs) h2=.no:=by unfold m8;rw[show aV (.int i::vs)=none from if_neg (by rw[q];exact Do)]
          exact absurd this o.no
        refine formatField_int_small (tE hsm) ?_
        exact rest (Str.ofString (toString i)).cps.toList X1 _ (x1.trans (Ext.toks x1.rel (DC _))) c3 (xR hsm)
       |_=>exact o.absurd
     |_=>exact aC ck
theorem xT{es:List E}(G:GoodE C r)(S:St C A d X C1 s C3 C2 CT CS CW)(ck:az (n+1) C3 C2 e (.fstr es)=true):Sim C A X s VRel (aF C.P r d CT C1 (.fstr es)) (eval e CS):=λQ E o=>by
 refine iM e (show fL _ e=true from ck) ?_;clear ck;intro vs p ck
 replace ck:(lv (az n C3 C2) vs es&&Nat.ble 2 vs.length)=true:=ck
 replace ck:=and2 ck
 have hl:=DF ck.2
 match vs,hl with
 |v1::v2::rest,_=>
  refine JoinedStr_many ?_
  show wpAny _ _ (joinParts Str.empty (evalEach (v1::v2::rest) CS)) Q E s
  refine G.fs (acc:=[]) S ck.1 (by simp) Q E (o.cast ?_)
  show(match r.evs d CT C1 es with|.ok vs h=>_|_=>R.no)=_
  cases r.evs d CT C1 es with
  |ok vs h=>rfl
  |_=>rfl
end
end
section
open PySem PySem.W PySem.Calls PyProof.Rows PySem.SeqAt Builtin Builtin.ObjectAttr
theorem eM{l:List Value}(h:bR l=true){P:Prop}(j:l=[.type "Exception",.type "BaseException",.type "object"]->P)(k:∀C r,l=.ref C::r->bR r=true->P):P:=by
 induction l using List.casesOn with
 |nil=>exact aC h
 |cons v r=>exact j9 (show oJ _ _ v=true from h) (λa e q=>k a r (Ds (·::r) e) q) λq=>pL q λq1 q2=>j (by rw[D2 q1,D2 q2])
theorem kh(self:Value)(l:List Value)(h:bR l=true):refuseLoop self "__setattr__" l=pure ():=by
 induction l with
 |nil=>exact aC h
 |cons v r ih=>
  refine eM h (λe=>?_) λC r' e h'=>?_
  ·exists e;exact PySem.F.store_Exception.passes self
  ·injection e with e1 e2
   subst e1 e2
   rw[refuseLoop_ref];exact ih h'
theorem ej{l:List Value}(h:bR l=true){T:String}(hT:T="Exception"\/T="BaseException"\/T="object"):l.contains (.type T)=true:=by
 induction l with
 |nil=>exact aC h
 |cons v r ih=>
  refine eM h (λe=>?_) λC r' e h'=>?_
  ·exists e;rcases hT with rfl|rfl|rfl<;>decide+kernel
  ·injection e with e1 e2
   subst e1 e2
   rw[Eu,ih h',Fg]
theorem qz{K:Frag}{C:Addr}{cd:ClassData}(hc:clsIn K C=some cd)(h:bR cd.mro=true){T:String}(hT:T="Exception"\/T="BaseException"\/T="object"):mroIn K C (.type T)=some true:=by
 have ne:cd.mro.isEmpty=false:=by cases q:cd.mro with|nil=>rw[q]at h;cases h|cons _ _=>rfl
 unfold mroIn
 rw[hc,Option.bind_some,if_neg (by rw[ne];decide),ej h hT]
section
variable{prog:Program}{w:World}{A:Around}{K:Frag}{x C:Addr}{s:Shared}{ox:Obj}{od:Option Obj}{name:Str}
theorem bexc_slot:Slot "Exception" "__getattribute__" "BaseException.__getattribute__":=
 .of (owner:="BaseException") (n:="__getattribute__") (by rw[typeLookup_type,builtinLookup_eq_fast];kernel_rfl) (by decide+kernel) (by decide+kernel) (by decide+kernel)
  (by first|exact .inl (by decide+kernel)|exact .inr (by decide+kernel)) (by rw[isSubtype_type];kernel_rfl)
theorem lA{E:Value->Shared->Prop}{v:Value}{expr:Bool}{Q:Value->Shared->Prop}(X:K.In s.heap)(I:InstAt s.heap x ox C od)(hex:gx K C=true)
 (hga:findIn K (.ref C) "__getattribute__"=some (some (.builtin "BaseException.__getattribute__")))(hk:findIn K (.ref C) "__getattr__"=some none)
 (hf:findObj K C od name=some (.value v))(hh:handedIn v=true)(h:Q v {s with toks:=s.toks+1}):wpAny (model prog w) A (getAttr (.ref x) name expr) Q E s:=by
 refine ai (HB hex) λcd hcd hmro=>?_
 obtain⟨hp,g,d,t,os⟩:=s
 have L0:=I.type (M:=model prog w)
 have L1:=Gh (M:=model prog w) X hga
 have L2:=Gh (M:=model prog w) X hk
 have L3:=looks_find (M:=model prog w) X I hf
 have L4:Looks (model prog w) hp (isInstance (.ref x) (.type "BaseException")) true:=L0.andThen (looks_mroIn X (qz hcd hmro (.inr (.inl rfl))))
 refine Dn (Hu (DT (Dn (L0.at (Dn (L1.at ?_))))))
 dsimp only
 exists(show(onTheHeap (.ref C)&&Value.builtin "BaseException.__getattribute__"==Value.builtin "object.__getattribute__")=false from by rw[show(Value.builtin "BaseException.__getattribute__"==Value.builtin "object.__getattribute__")=false from by decide+kernel,EM]),(if_neg (by decide))
 refine Dn ((show Looks (model prog w) hp (hookBefore (.ref C)) none from L2).at (Dn (wpAny_attempt (DT ?_))))
 unfold callGetattribute
 exists(show(expr&&onTheHeap (Value.builtin "BaseException.__getattribute__"))=false from EM _),(if_neg (by decide))
 unfold boundAndCalled
 rw[bexc_slot.bind]
 refine Dn (Dv ?_)
 show wpAny _ _ (call (.builtin "BaseException.__getattribute__") [.ref x,.str name t]) _ _ _
 refine Gi ?_
 refine GZ bexc_slot.plain PySem.F.entry_bexc_ga ?_
 refine @check_slot (model prog w) _ _ ⟨hp,g,d,t+1,os⟩ "BaseException.__getattribute__" "BaseException" "__getattribute__" (.ref x) [.str name t] [] _ (by decide+kernel) (by decide+kernel) L4 (PySem.F.args_bexc_ga (.ref x) (.str name t)) ?_
 unfold Builtin.«object.__getattribute__»
 refine Dn (Dv (Dn (Dv (Dn (L0.at (Dn (L3.at ?_)))))))
 refine Dv ?_
 show wpAny _ _ (handedOut v) _ _ _
 exists(handedOut_of hh);exact Dv h
theorem oK{tk:Tok}{v:Value}{R:Result->Shared->Prop}(X:K.In s.heap)(I:InstAt s.heap x ox C od)(hp:gx K C=true)(hf:findIn K (.ref C) name=some none)
 (h:∀b,wpAny (model prog w) A.in1 (storeInOwnDict (.ref x) (.ref C) (.str name tk) name v b)
  (λfin s'=>match fin with|.done f=>R (.ok f) s'|.again c'=>c'.quiet=true/\codeAny (model prog w) A c' R s') (λe s'=>R (.error e) s') s):
 codeAny (model prog w) A (.call (.builtin "object.__setattr__") ⟨[.ref x,.str name tk,v],[]⟩) R s:=by
 have SF:=PySem.F.store_object
 refine ai (HB hp) λcd hc ho=>?_
 have sub:Looks (model prog w) s.heap (isInstance (.ref x) (.type "object")) true:=I.type.andThen (looks_mroIn X (qz hc ho (.inr (.inr rfl))))
 refine GZ SF.slot.plain SF.entry (@check_slot (model prog w) _ _ s "object.__setattr__" "object" "__setattr__" (.ref x) [.str name tk,v] [] _ SF.kind SF.split sub (SF.args (.ref x) (.str name tk) v) ?_)
 have hm:Looks (model prog w) s.heap (mroOf (.ref C)) cd.mro:=(HV X hc).andThen .now
 rw[osa_eq,refuse_eq]
 refine Dn (Dn (I.type.here (Dn (hm.here ?_))))
 exists(kh _ _ ho)
 refine Dv (Dn (I.type.here (Dn ((Gh X hf).here (Dn ((show Looks (model prog w) s.heap (storeTaker? none) none from .now).here ?_))))))
 exact h _
theorem vo{od:Obj}{dx:Addr}{tk:Tok}{v:Value}{es':List DictEntry}{n':Nat}{R:Result->Shared->Prop}(X:K.In s.heap)
 (I:InstAt s.heap x ox C (some od))(hd:ox.dict=some dx)(hp:gx K C=true)(ht:findIn K (.ref C) name=some none)(hh:(clsIn K C).any (·.hasDict)=true)
 (hl:(lookIn name od).isSome=true)(e:Obj.putName name (PyData.keyHash w.params name) (.str name s.toks) v od=dictOf es' n')(hz:es'.length<=1000)
 (h:R (.ok (.ret .none)) {s with heap:=s.heap.update dx (Obj.putName name (PyData.keyHash w.params name) (.str name s.toks) v),toks:=s.toks+1}):
 codeAny (model prog w) A (.call (.builtin "object.__setattr__") ⟨[.ref x,.str name tk,v],[]⟩) R s:=by
 refine oK X I hp ht λb=>?_
 refine ai (HB hh) λcd hc hd'=>?_
 obtain⟨hx,hcl,hn,hdd⟩:=I
 obtain⟨oc,odi,oda,osl⟩:=ox
 dsimp only at hcl hd hdd
 subst hcl hd
 have D:s.heap.get? dx=some od:=hdd
 have D':(s.heap.update dx (Obj.putName name (PyData.keyHash w.params name) (.str name s.toks) v)).get? dx=some (dictOf es' n'):=by
  exists(DP _ D (by rw[e];rfl)),e;rfl
 refine Dn (Dv (Dn (Dn (Fk hx (Dn ((HV X hc).here ?_))))))
 exists hd'
 refine Dv (a:=some dx) (Dn (Dv (Dn ?_)))
 unfold nsSet
 refine Dn (Dn (HC (Dv (Dn (Hu (Dn (Fk D ?_)))))))
 unfold lookIn at hl
 split at hl
 ·rename_i es0 n₀ q
  exists q
  dsimp only
  have c:(!es0.any (·.key.isStr name)&&es0.any (·.refKey))=false:=by
   refine bt FF ?_;refine bt FF ?_
   split at hl
   ·rename_i en he
    exists(G7.mpr ⟨en,Hw he,List.find?_some he⟩);rfl
   ·split at hl
    ·exact aC hl
    ·rename_i z;rw[Bool.not_eq_true]at z;rw[z,EM]
  rw[GF,c]
  refine Gy D ?_
  refine Dn (HD D' (HE (by rw[DV,D7];exact aT hz rfl)) ?_)
  exact Dv h
 ·exact aC hl
theorem vp{tk:Tok}{v:Value}{vs:Array Value}{R:Result->Shared->Prop}(X:K.In s.heap)
 (hx:s.heap.get? x=some {cls:=.ref C,dict:=none,data:=.fields vs}) (hp:gx K C=true) (ht:findIn K (.ref C) name=some none) (hh:(clsIn K C).any (·.hasDict)=true)
 (h:∀h',(∀b o,b≠x->s.heap.get? b=some o->h'.get? b=some o)->h'.objs.size=s.heap.objs.size+1->h'.get? x=some {cls:=.ref C,dict:=some s.heap.objs.size,data:=.fields vs}->
  h'.get? s.heap.objs.size=some (dictOf [⟨PyData.keyHash w.params name,.str name s.toks,v⟩] 1)->R (.ok (.ret .none)) {s with heap:=h',toks:=s.toks+1}):
 codeAny (model prog w) A (.call (.builtin "object.__setattr__") ⟨[.ref x,.str name tk,v],[]⟩) R s:=by
 refine oK (od:=none) X ⟨hx,rfl,rfl,trivial⟩ hp ht λb=>?_
 refine ai (HB hh) λcd hc hd'=>?_
 have hx1:(s.heap.push {cls:=.type "dict",data:=.dict #[]}).get? x=some {cls:=.ref C,dict:=none,data:=.fields vs}:=Dx _ hx
 have hxs:x≠s.heap.objs.size:=Et (EU hx)
 have hgd:((s.heap.push {cls:=.type "dict",data:=.dict #[]}).update x λo=>{cls:=o.cls,dict:=some s.heap.objs.size,data:=o.data,slots:=o.slots}).get? s.heap.objs.size
  =some {cls:=.type "dict",data:=.dict #[]}:=(Heap.get?_update_ne _ _ _ _ hxs.symm).trans (Heap.get?_push_at rfl rfl)
 refine Dn (Dv (Dn (Dn (Fk hx (Dn ((HV X hc).here ?_))))))
 exists hd'
 refine Dn (wpAny_alloc ?_)
 refine Dn (wpAny_update hx1 ?_)
 refine Dv (a:=some s.heap.objs.size) ?_
 show wpAny _ _ (storeInDict s.heap.objs.size (.str name tk) name v) _ _ _
 unfold storeInDict newKeyGuard
 refine Dn (Dv (Dn ?_))
 unfold nsSet
 refine Dn (Dn (HC (Dv (Dn (Hu (Dn (Fk hgd ?_)))))))
 dsimp only
 rw[GF,show((!(#[]:Array DictEntry).any (·.key.isStr name))&&(#[]:Array DictEntry).any (·.refKey))=false from by simp]
 refine Gy hgd ?_
 have e:Obj.putName name (PyData.keyHash w.params name) (.str name s.toks) v {cls:=.type "dict",data:=.dict #[]}=dictOf [⟨PyData.keyHash w.params name,.str name s.toks,v⟩] 1:=by
  exists Obj.putName_eq;simp[Obj.putNameByArray]
 have D':=DP (Obj.putName name (PyData.keyHash w.params name) (.str name s.toks) v) hgd (by(exists e);rfl)
 rw[e]at D'
 refine Dn (HD D' (HE (by(exists DV,D7);simp)) ?_)
 refine Dv (h _ (λb o h1 h2=>?_) ?_ ?_ D')
 ·exists(Ed _ _ (Eg (EU h2))),(Ed _ _ (Eb h1))
  exact Dx _ h2
 ·rw[DL,DL,DM]
 ·rw[Ed _ _ (Eb hxs)]
  exact DP _ hx1 rfl
end
section
variable{C:Cx}{A:Around}{X:Wd}{C1:Hp}{s:Shared}{own:fA}
theorem oL{n c:Nat}{ctx:Bool}{fs:List (Nat×V)}{a:Addr}{at_:Nat}{v:V}{expr:Bool}{Q:Value->Shared->Prop}{E:Value->Shared->Prop}(M:CxMore C)
 (R:Rel C X C1 s)(hn:C1[n]? =some (.exc c ctx fs)) (ha:X.at_ n=some a) (hat:(attrN[at_]?).isSome=true) (e:aG at_ fs=some v)
 (h:∀v',VRel X v v'->Q v' {s with toks:=s.toks+1}):wpAny (model C.prog C.w) A (getAttr (.ref a) (ay at_) expr) Q E s:=by
 refine eK (R.objs n _ hn) λa' h1 h2 hexc Ca dd vs g1 g2 g3 g4=>?_
 rw[ha]at h1;cases h1
 have O:=M.cls _ _ g1
 rw[hexc]at O
 refine ai O.cd λcd hcd hdict=>?_
 have XK:C.K.In s.heap:=M.ok.kin.keeps R.keep
 induction dd using Option.casesOn with
 |none=>dsimp only at g4;subst g4;exact bq e
 |some dx=>
  refine e9 g4 λt es k g5 g6=>?_;clear g4
  refine ai (lU (k:=k) g6 hat e) λv' hl hv=>?_
  have hh:handedIn v'=true:=by cases hv<;>rfl
  have I:InstAt s.heap a {cls:=.ref Ca,dict:=some dx,data:=.fields vs} Ca (some (dictOf es k)):=⟨g2,rfl,rfl,g5⟩
  have hf:findObj C.K Ca (some (dictOf es k)) (ay at_)=some (.value v'):=by
   unfold findObj
   exists hcd,(O.attrs at_ hat)
   show(W.ownOf cd (some (dictOf es k)) (ay at_)).bind _=_
   unfold W.ownOf
   rw[hdict,if_pos rfl]
   show((lookIn (ay at_) (dictOf es k)).bind _)=_
   rw[hl];rfl
  exact lA XK I (O.overX rfl) O.ga O.hookX hf hh (h v' hv)
theorem oM{n c:Nat}{ctx:Bool}{fs:List (Nat×V)}{a:Addr}{at_:Nat}{v:V}{v':Value}{Q:Unit->Shared->Prop}{E:Value->Shared->Prop}(M:CxMore C)
 (R:Rel C X C1 s)(hn:C1[n]? =some (.exc c ctx fs)) (ha:X.at_ n=some a) (hat:(attrN[at_]?).isSome=true) (rv:VRel X v v') (hlen:fs.length<=100)
 (h:∀X' s',Ext C own X s.heap X' (C1.set n (.exc c ctx (dI at_ v fs))) s'->Q () s'):wpAny (model C.prog C.w) A (setAttr (.ref a) (ay at_) v') Q E s:=by
 refine eK (R.objs n _ hn) λa' h1 h2 hexc Ca dd vs g1 g2 h'1 g4=>?_;refine cJ h'1 λx1 x2 x3=>?_;clear h'1
 rw[ha]at h1;cases h1
 have O:=M.cls _ _ g1
 rw[hexc]at O
 refine ai O.cd λcd hcd hdict=>?_
 have XK:C.K.In s.heap:=M.ok.kin.keeps R.keep
 have hn':n<C1.length:=(Dr.mp hn).1
 induction dd using Option.casesOn with
 |none=>
  dsimp only at g4;subst g4
  have I:InstAt s.heap a {cls:=.ref Ca,dict:=none,data:=.fields vs} Ca none:=⟨g2,rfl,rfl,trivial⟩
  have hf:=R.fresh s.heap.objs.size (Dy _)
  refine set_plain XK I O.sa (vp (s:={s with toks:=s.toks+1}) XK g2 (O.overX rfl) (O.attrs _ hat) (by(exists hcd);exact hdict) λh' k1 k2 k3 k4=>?_)
  refine h (X.put s.heap.objs.size (.part n)) _ ⟨Wd.put_le hf,R.turn (Wd.put_le hf) hn' (λb ob t hb ht1 ht2 _ eb=>?_) (λb hb=>?_) (λb o hb=>?_) (λb hb=>?_) (λ_ _ e=>e) rfl rfl (DC _),λb ob hb _ eb=>⟨ob.slots,?_⟩,by show s.heap.objs.size<=h'.objs.size;have k2:h'.objs.size=s.heap.objs.size+1:=k2;exact ED (DK (Eq.symm k2))⟩
  ·exact k1 b ob (λq=>by subst q;rw[h2]at hb;cases hb;exact ht1 rfl) eb
  ·replace k2:h'.objs.size=s.heap.objs.size+1:=k2
   replace hb:h'.objs.size<=b:=hb
   rw[k2]at hb
   exists(Wd.put_ne (Eg hb))
   exact R.fresh b (ED hb)
  ·by_cases q:b=s.heap.objs.size
   ·subst q;rw[Wd.put_self]at hb;cases hb
   ·rw[Wd.put_ne q]at hb;exact .inl hb
  ·rw[ha]at hb;cases hb
   refine⟨hexc,Ca,some s.heap.objs.size,vs,g1,k3,⟨x1,x2.imp id λz=>dT z λT oT ts y1 y2 y3 y4 y5=>⟨T,oT,ts,y1,(Wd.put_le hf).tag _ _ y2,k1 T oT (λq=>by subst q;rw[h2]at y2;cases y2) y3,y4,y5⟩,x3⟩,Wd.put_self,_,_,k4,?_⟩
   exact .cons hat (rv.mono (Wd.put_le hf)) .nil
  ·exact k1 b ob (λq=>by subst q;rw[h2]at hb;cases hb) eb
 |some dx=>
  refine e9 g4 λt es k g5 g6=>?_;clear g4
  have I:InstAt s.heap a {cls:=.ref Ca,dict:=some dx,data:=.fields vs} Ca (some (dictOf es k)):=⟨g2,rfl,rfl,g5⟩
  refine aD (oI (k:=k) (t:=s.toks+1) g6 hat rv) λes' k' hp hr=>?_
  have hl:es'.length<=1000:=by have:=oH hr;have:=jf at_ v fs;lia
  have hne:a≠dx:=λq=>by subst q;rw[h2]at t;cases t
  have D':(s.heap.update dx (Obj.putName (ay at_) (PyData.keyHash C.w.params (ay at_)) (.str (ay at_) (s.toks+1)) v')).get? dx=some (dictOf es' k'):=by
   exists(DP _ g5 (by rw[hp];rfl)),hp;rfl
  refine set_plain XK I O.sa (vo (s:={s with toks:=s.toks+1}) XK I rfl (O.overX rfl) (O.attrs _ hat) (by(exists hcd);exact hdict) (gB g6 _) hp hl (h X _ ?_))
  have oth:∀b,b≠dx->(s.heap.update dx (Obj.putName (ay at_) (PyData.keyHash C.w.params (ay at_)) (.str (ay at_) (s.toks+1)) v')).get? b=s.heap.get? b:=λb hb=>Ed _ _ (Eb hb)
  refine⟨.refl X,R.turn (.refl X) hn' (λb ob t hb ht1 ht2 _ eb=>?_) (λb hb=>R.fresh b (by rw[DL]at hb;exact hb)) (λ_ _ e=>.inl e) (λb hb=>?_) (λ_ _ e=>e) rfl rfl (DC _),λb ob hb _ eb=>⟨ob.slots,?_⟩,DK (DL ..).symm⟩
  ·exact(oth b (λq=>ht2 (by subst q;exact D1 (hb.symm.trans t)))).trans eb
  ·rw[ha]at hb;cases hb
   refine⟨hexc,Ca,some dx,vs,g1,(oth a hne).trans g2,⟨x1,x2.imp id λz=>dT z λT oT ts y1 y2 y3 y4 y5=>⟨T,oT,ts,y1,y2,?_,y4,y5⟩,x3⟩,t,es',k',D',hr⟩
   refine(oth T ?_).trans y3
   intro q;subst q;rw[g5]at y3;cases y3;cases y4
  ·exact(oth b (λq=>by subst q;rw[t]at hb;cases hb)).trans eb
theorem jj{k:Nat}(M:CxMore C){x:V}{x':Value}{Q:Value->Shared->Prop}{E:Value->Shared->Prop}{expr:Bool}(R:Rel C X C1 s)(rx:VRel X x x')(hat:(attrN[k]?).isSome=true)
 (o:Ob C aq X s.heap VRel (getattr x k C1) Q E):wpAny (model C.prog C.w) A (getAttr x' (ay k) expr) Q E s:=by
 induction rx using VRel.casesOn with
 |ref n a hn=>
  unfold getattr at o
  dsimp only at o
  split at o
  ·rename_i c fs hx
   split at o
   ·rename_i v hv
    have T:∀v',VRel X v v'->Q v' {s with toks:=s.toks+1}:=λv' r=>o.ok _ _ rfl X _ v' (Ext.toks R (DC _)) r
    exact m6 M.ok M.cls R hx hn hat hv T
   ·exact o.absurd
  ·rename_i c ctx fs hx
   split at o
   ·rename_i v hv
    have T:∀v',VRel X v v'->Q v' {s with toks:=s.toks+1}:=λv' r=>o.ok _ _ rfl X _ v' (Ext.toks R (DC _)) r
    exact oL M R hx hn hat hv T
   ·exact o.absurd
  ·exact o.absurd
 |_=>exact o.absurd
theorem jk{k:Nat}(M:CxMore C){x v:V}{x' v':Value}{Q:Unit->Shared->Prop}{E:Value->Shared->Prop}(R:Rel C X C1 s)(rx:VRel X x x')(rv:VRel X v v')(hat:(attrN[k]?).isSome=true)
 (o:Ob C own X s.heap (λ_ (_:V) (_:Unit)=>True) (setattr x k v C1) Q E):wpAny (model C.prog C.w) A (setAttr x' (ay k) v') Q E s:=by
 induction rx using VRel.casesOn with
 |ref n a hn=>
  unfold setattr at o
  dsimp only at o
  split at o
  ·rename_i c fs hx
   split at o
   ·rename_i hl
    exact m7 M.ok M.cls R hx hn hat rv (DF hl) λs' x'=>o.ok _ _ rfl X s' () x' trivial
   ·exact o.absurd
  ·rename_i c ctx fs hx
   split at o
   ·rename_i hl
    exact oM M R hx hn hat rv (DF hl) λX' s' x'=>o.ok _ _ rfl X' s' () x' trivial
   ·exact o.absurd
  ·exact o.absurd
 |_=>exact o.absurd
end
end
section
open PySem PySem.W PySem.Calls PyProof.Rows PySem.SeqAt
section
variable{C:Cx}{A:Around}{d:Dp}{X:Wd}{C1:Hp}{s:Shared}{own:fA}{n:Nat}{a:Addr}{CW:PySem.Env}
theorem eN(R:Rel C X C1 s)(ha:X.at_ n=some a)(he:fy C1 n):∃c ctx fs Ca dd vs,C1[n]? =some (.exc c ctx fs)/\(C.P.excs[c]?).getD false=true/\C.cls c=some Ca/\X.tag a=some (.obj n)/\
 s.heap.get? a=some {cls:=.ref Ca,dict:=dd,data:=.fields vs}/\rW X s.heap n ctx vs/\
 (match dd with|none=>fs=[]|some dx=>X.tag dx=some (.part n)/\∃es k,s.heap.get? dx=some (dictOf es k)/\FRel C X fs es):=by
 refine iG he λc ctx fs h=>?_;clear he
 refine eK (R.objs n _ h) λa' h1 h2 g0 Ca dd vs g1 g2 g3 g4=>?_
 rw[ha]at h1;cases h1
 exact⟨c,ctx,fs,Ca,dd,vs,h,g0,g1,h2,g2,g3,g4⟩
theorem vq(R:Rel C X C1 s)(ha:X.at_ n=some a)(he:fy C1 n){T:Addr}{oT:Obj}{ts:Array Value}(hT:X.tag T=some (.part n))(g:s.heap.get? T=some oT)(gd:oT.data=.fields ts)(hsz:3<ts.size)
 (v:Value):Ext C own X s.heap X C1 {s with heap:=s.heap.update T (Obj.mapFields (·.setIfInBounds 3 v))}:=by
 refine aW (eN R ha he) λc ctx fs Ca dd vs h g0 g1 g2 g3 h'1 g4=>?_;refine cJ h'1 λx1 x2 x3=>?_;clear h'1
 have hn:n<C1.length:=(Dr.mp h).1
 have oth:∀b,b≠T->(s.heap.update T (Obj.mapFields (·.setIfInBounds 3 v))).get? b=s.heap.get? b:=λb hb=>Ed _ _ (Eb hb)
 have gd':=Gj gd (·.setIfInBounds 3 v)
 have self:=DP (Obj.mapFields (·.setIfInBounds 3 v)) g (GL gd')
 have haT:a≠T:=λq=>by subst q;rw[g2]at hT;cases hT
 have ee:C1.set n (.exc c ctx fs)=C1:=by
  apply EY
  intro i
  by_cases q:i=n
  ·subst q;(exists(DG hn),h;rfl)
  ·exists(DB (Eb q));rfl
 have RR:=R.turn (s':={s with heap:=s.heap.update T (Obj.mapFields (·.setIfInBounds 3 v))}) (o':=.exc c ctx fs) (.refl X) hn (λb ob t hb ht1 ht2 _ eb=>(oth b (λq=>ht2 (by subst q;exact D1 (hb.symm.trans hT)))).trans eb)
  (λb hb=>R.fresh b (by rw[DL]at hb;exact hb)) (λ_ _ e=>.inl e) (λb hb=>by
   rw[ha]at hb;cases hb
   refine⟨g0,Ca,dd,vs,g1,(oth a haT).trans g3,⟨x1,?_,x3⟩,?_⟩
   ·rcases x2 with x2|⟨T',oT',ts',y1,y2,y3,y4,y5⟩
    ·exact .inl x2
    ·by_cases q:T'=T
     ·subst q
      rw[g]at y3;cases y3;rw[gd]at y4;cases y4
      exact .inr ⟨T',_,_,y1,y2,self,gd',by(exists Fm);exact y5⟩
     ·exact .inr ⟨T',oT',ts',y1,y2,(oth T' q).trans y3,y4,y5⟩
   ·induction dd using Option.casesOn with
    |none=>exact g4
    |some dx=>
     refine e9 g4 λt1 es k t2 t3=>?_;clear g4
     exact⟨t1,es,k,(oth dx (λq=>by subst q;rw[g]at t2;cases t2;cases gd)).trans t2,t3⟩) (λ_ _ e=>e) rfl rfl R.toks
 rw[ee]at RR
 exact⟨.refl X,RR,λb ob hb _ eb=>⟨ob.slots,(oth b (λq=>by subst q;rw[hT]at hb;cases hb)).trans eb⟩,DK (DL ..).symm⟩
theorem lX(F:FOk C A d X s.heap CW)(R:Rel C X C1 s):∃outer L,A.frames=some (CW::outer)/\CW.frame=some L/\s.heap.FunFrames C.h₀ (CW::outer)/\
 ∀b,b∈(CW::outer).filterMap (·.frame)->X.tag b=some .priv:=by
 refine ai F.frames λouter e1 e2=>?_
 refine sP (e2 CW (DU ..)) λ_ L _ _ _ h1 _=>?_
 refine⟨outer,L,e1,h1,?_,?_⟩
 ·generalize CW::outer=l at e2
  induction l with
  |nil=>trivial
  |cons e l ih=>
   refine ed (e2 e (DU ..)) λk L o es n q1 q2 q3 q4=>?_
   refine⟨k,⟨L,o,q1,?_,q3,λvs z=>by rw[q4]at z;cases z⟩,ih λx hx=>e2 x (DN _ hx)⟩
   cases z:C.h₀.get? L with
   |none=>rfl
   |some o'=>have:=R.base L o' z;rw[q2]at this;cases this
 ·intro b hb
  refine ai (List.mem_filterMap.mp hb) λe he hb=>?_
  refine gJ (e2 e he) λ_ L _ _ _ q1 q2 _=>?_
  rw[q1]at hb;cases hb;exact q2
def r8(h:Heap)(a:Addr):Prop:=∃o vs T,h.get? a=some o/\o.data=.fields vs/\vs[1]? =some (.ref T)
theorem lY(F:FOk C A d X s.heap CW)(R:Rel C X C1 s)(ha:X.at_ n=some a)(he:fy C1 n){L:Addr}(hL:CW.frame=some L){head:Value}{hadNext:Bool}{Q:Unit->Shared->Prop}{E:Value->Shared->Prop}
 (h:∀X' s',Ext C own X s.heap X' C1 s'->r8 s'.heap a->Q () s'):
 wpAny (model C.prog C.w) A (do let x<-frameOf CW;let pl<-entryPlaceOf L hadNext;let b<-EntryCells.newEntry head x .none (rawInt L) .none pl;setField (.ref a) 1 b) Q E s:=by
 refine bL (lX F R) λouter L' hfr hL' hl hpriv=>?_
 rw[hL]at hL';cases hL'
 refine aW (eN R ha he) λc ctx fs Ca dd vs hm g0 g1 g2 g3 h'2 g4=>?_;refine cJ h'2 λx1 x2 x3=>?_;clear h'2
 have hn:n<C1.length:=(Dr.mp hm).1
 refine Dn (wpAny_frameOf_fun hfr hl hL λh₁ hs1=>?_)
 refine Dn (wpAny_entryPlaceOf λpl hpl=>?_)
 unfold EntryCells.newEntry newFields
 refine Dn (FJ ?_ (hpl.sizeOk5 _ _ _ _ _))
 have np:∀b,X.tag b≠some .priv->h₁.get? b=s.heap.get? b:=λb hb=>hs1.2.1 b λq=>hb (hpriv b q)
 have he1:h₁.get? a=some {cls:=.ref Ca,dict:=dd,data:=.fields vs}:=(np a (by(exists g2);intro q;cases q)).trans g3
 have hsz1:h₁.objs.size=s.heap.objs.size:=hs1.1
 generalize htb:({cls:=.type "traceback",dict:=none,data:=.fields ([head,.ref L,.none,rawInt L,.none]++(if pl.isEmpty then List.replicate 6 Value.none else pl)).toArray}:Obj)=tb
 have he2:=Dx (h:=h₁) tb he1
 refine Fo he2 rfl (by exact Dt.mp (ao [vs.size] [(.eq (.v 0) (.n 6),-1)] (.lt (.n 1) (.v 0)) 1 rfl (Ds Int.ofNat x1))) ?_
 have hTa:h₁.objs.size≠a:=Eg (EU he1)
 have hfT:X.tag h₁.objs.size=none:=R.fresh _ (by(exists hsz1);exact Dy _)
 have he3:=DP (Obj.mapFields (·.setIfInBounds 1 (Value.ref h₁.objs.size))) he2 rfl
 have hT3:=(Ed (h₁.push tb) (Obj.mapFields (·.setIfInBounds 1 (Value.ref h₁.objs.size))) (Eb hTa)).trans (Dz h₁ (by(refine bt htb ?_);rfl))
 have keep:∀b o,b≠a->h₁.get? b=some o->((h₁.push tb).update a (Obj.mapFields (·.setIfInBounds 1 (Value.ref h₁.objs.size)))).get? b=some o:=λb o hb e=>by
  exists(Ed _ _ (Eb hb));exact Dx _ e
 have ee:C1.set n (.exc c ctx fs)=C1:=by
  apply EY
  intro i
  by_cases q:i=n
  ·subst q;(exists(DG hn),hm;rfl)
  ·exists(DB (Eb q));rfl
 have l:=Wd.put_le (t:=.part n) hfT
 have RR:=R.turn (Y:=X.put h₁.objs.size (.part n)) (s':={s with heap:=(h₁.push tb).update a (Obj.mapFields (·.setIfInBounds 1 (Value.ref h₁.objs.size)))}) (o':=.exc c ctx fs) l hn
  (λb ob t hb ht1 _ ht3 eb=>keep b ob (λq=>ht1 (by subst q;exact D1 (hb.symm.trans g2))) ((np b (by rw[hb];intro q;exact ht3 (D1 q))).trans eb))
  (λb hb=>by
   have hb2:((h₁.push tb).update a (Obj.mapFields (·.setIfInBounds 1 (Value.ref h₁.objs.size)))).objs.size<=b:=hb
   rw[DL,DM]at hb2
   exists(Wd.put_ne (Eg hb2))
   exact R.fresh b (by(refine bt hsz1 ?_);exact ED hb2))
  (λb o hb=>by
   by_cases q:b=h₁.objs.size
   ·subst q;rw[Wd.put_self]at hb;cases hb
   ·rw[Wd.put_ne q]at hb;exact .inl hb)
  (λb hb=>by
   rw[ha]at hb;cases hb
   refine⟨g0,Ca,dd,vs.setIfInBounds 1 (.ref h₁.objs.size),g1,he3,⟨by(exists Fm);exact x1,.inr ⟨h₁.objs.size,tb,_,by(exists(Gu (by exact Dt.mp (ao [vs.size] [(.eq (.v 0) (.n 6),-1)] (.lt (.n 1) (.v 0)) 1 rfl (Ds Int.ofNat x1))));rfl),Wd.put_self,hT3,by(refine bt htb ?_;rfl),?_⟩,λq=>?_⟩,?_⟩
   ·simp only[List.size_toArray,List.length_append,List.length_cons,List.length_nil];exact Es (ED (Ey _ _))
   ·exists(El (by decide));exact x3 q
   ·induction dd using Option.casesOn with
    |none=>exact g4
    |some dx=>
     refine e9 g4 λt1 es k t2 t3=>?_;clear g4
     exact⟨l.tag _ _ t1,es,k,keep dx _ (λq=>by subst q;rw[g2]at t1;cases t1) ((np dx (by rw[t1];intro q;cases q)).trans t2),t3.mono l⟩) (λ_ _ e=>e) rfl rfl R.toks
 rw[ee]at RR
 refine h _ _ ⟨l,RR,λb ob hb _ eb=>?_,by show s.heap.objs.size<=((h₁.push tb).update a _).objs.size;rw[DL,DM];exact Er (DK (Eq.symm hsz1))⟩ ⟨_,_,h₁.objs.size,he3,Gj rfl _,by rw[Gu (by lia)]⟩
 refine aB (hs1.2.2 b ob eb) λsl e=>?_
 exact⟨sl,keep b _ (λq=>by subst q;rw[g2]at hb;cases hb) e⟩
theorem fV(F:FOk C A d X s.heap CW)(R:Rel C X C1 s)(ha:X.at_ n=some a)(he:fy C1 n){Q:Unit->Shared->Prop}{E:Value->Shared->Prop}
 (h:∀X' s',Ext C aq X s.heap X' C1 s'->r8 s'.heap a->Q () s'):wpAny (model C.prog C.w) A (noteFrame (.ref a) CW) Q E s:=by
 refine bL (lX F R) λouter L hfr hL hl hpriv=>?_
 refine aW (eN R ha he) λc ctx fs Ca dd vs hm g0 g1 g2 g3 h'3 g4=>?_;refine cJ h'3 λx1 x2 x3=>?_;clear h'3
 unfold noteFrame
 simp only[hL]
 rcases x2 with x2|⟨T,oT,ts,y1,y2,y3,y4,y5⟩
 ·refine Dn (EE g3 rfl x2 ?_)
  exists(if_neg (by decide))
  exact lY F R ha he hL h
 ·refine Dn (EE g3 rfl y1 ?_)
  exists(if_pos (show(Value.ref T !=Value.none)=true from by simp))
  obtain⟨v,hv⟩:∃v,ts[3]? =some v:=⟨_,Fj y5⟩
  refine Dn (EE y3 y4 hv ?_)
  split
  ·exact Dv (h X s (Ext.refl R) ⟨_,_,T,g3,rfl,y1⟩)
  ·refine Dn (Fo y3 y4 y5 ?_)
   have x:=vq (own:=aq) R ha he y2 y3 y4 y5 .none
   exact lY (F.ext0 x) x.rel ha he hL λX' s' x'=>h X' s' (x.trans x')
theorem da(R:Rel C X C1 s)(ha:X.at_ n=some a)(he:fy C1 n){fr:Option Addr}{Q:Unit->Shared->Prop}{E:Value->Shared->Prop}
 (h:∀X' s',Ext C aq X s.heap X' C1 s'->Q () s'):wpAny (model C.prog C.w) A (setFlight (.ref a) fr) Q E s:=by
 refine aW (eN R ha he) λc ctx fs Ca dd vs hm g0 g1 g2 g3 h'4 g4=>?_;refine cJ h'4 λx1 x2 x3=>?_;clear h'4
 unfold setFlight
 rcases x2 with x2|⟨T,oT,ts,y1,y2,y3,y4,y5⟩
 ·refine Dn (EE g3 rfl x2 ?_)
  exists(if_neg (by decide))
  exact Dv (h X s (Ext.refl R))
 ·refine Dn (EE g3 rfl y1 ?_)
  exists(if_pos (show(Value.ref T !=Value.none)=true from by simp))
  exact Fo y3 y4 y5 (h _ _ (vq R ha he y2 y3 y4 y5 _))
theorem oN(F:FOk C A d X s.heap CW)(R:Rel C X C1 s)(ha:X.at_ n=some a)(he:fy C1 n){Q:Unit->Shared->Prop}{E:Value->Shared->Prop}
 (h:∀X' s',Ext C aq X s.heap X' C1 s'->Q () s'):wpAny (model C.prog C.w) A (leaving CW (.ref a)) Q E s:=by
 unfold leaving
 refine Dn (fV F R ha he λX1 s1 x₁ _=>?_)
 exact da x₁.rel (x₁.le.at_ _ _ ha) he λX2 s2 x₂=>h X2 s2 (x₁.trans x₂)
end
inductive FlRel (X:Wd):Flow->PySem.Flow->Prop
 |next:FlRel X .next .next
 |cont:FlRel X .cont .cont
 |ret {v:V} {v':Value}:VRel X v v'->FlRel X (.ret v) (.ret v')
noncomputable def ownOf(CS:PySem.Env):fA:=λa=>a=CS.locals\/∃x,CS.cells.lookup x=some a
structure ObS (C:Cx) (X:Wd) (h:Heap) (C3:Scope) (C2:List (Option Str)) (CS:PySem.Env) (r:RS) (Q:PySem.Flow->Shared->Prop) (E:Value->Shared->Prop):Prop where
 ok:∀fl C4 C7,r=.ok fl C4 C7->∀X' s' fl',Ext C (ownOf CS) X h X' C7 s'->FlRel X' fl fl'->ERel X' s'.heap C3 C2 C4 CS->Q fl' s'
 exc:∀n C4 C7,r=.exc n C4 C7->∀X' s' a,Ext C (ownOf CS) X h X' C7 s'->X'.at_ n=some a->fy C7 n->ERel X' s'.heap C3 C2 C4 CS->E (.ref a) s'
 no:r≠.no
def eO(C:Cx)(A:Around)(X:Wd)(s:Shared)(C3:Scope)(C2:List (Option Str))(CS:PySem.Env)(r:RS)(t:Sem PySem.Flow):Prop:=
 ∀(Q:PySem.Flow->Shared->Prop)(E:Value->Shared->Prop),ObS C X s.heap C3 C2 CS r Q E->wpAny (model C.prog C.w) A t Q E s
section
variable{C:Cx}{A:Around}{d:Dp}{X X1:Wd}{C1 mh1:Hp}{s s1:Shared}{h:Heap}{C3:Scope}{C2:List (Option Str)}{CT C4:Env}{CS:PySem.Env}{Q:PySem.Flow->Shared->Prop}{E:Value->Shared->Prop}
theorem ObS.from{r:RS}(o:ObS C X h C3 C2 CS r Q E)(x:Ext C (ownOf CS) X h X1 mh1 s1):ObS C X1 s1.heap C3 C2 CS r Q E:=
 ⟨λfl C4 C7 q X' s' w' x'=>o.ok fl C4 C7 q X' s' w' (x.trans x'),λn C4 C7 q X' s' a x'=>o.exc n C4 C7 q X' s' a (x.trans x'),o.no⟩
theorem ObS.cast{r r':RS}(o:ObS C X h C3 C2 CS r Q E)(e:r=r'):ObS C X h C3 C2 CS r' Q E:=e▸o
theorem ObS.absurd{P:Prop}(o:ObS C X h C3 C2 CS .no Q E):P:=(o.no rfl).elim
theorem St.extS(S:St C A d X C1 s C3 C2 CT CS CS)(x:Ext C (ownOf CS) X s.heap X1 mh1 s1)(V:ERel X1 s1.heap C3 C2 C4 CS):St C A d X1 mh1 s1 C3 C2 C4 CS CS:=by
 refine⟨S.F.ext x λL hL=>?_,x.rel,V⟩
 rcases hL with rfl|⟨y,hy⟩
 ·refine ai V.hns λm h'1 _=>?_;refine du h'1 λo es ep h1 h2 _=>?_;clear h'1
  exact⟨o,es,ep,.inl ⟨h1,h2⟩⟩
 ·refine eJ (S.V.hcells y L hy) λt _ v h'2=>?_;refine ai h'2 λo h1 h2=>?_;clear h'2
  refine⟨o,#[],0,.inr λe he q=>?_⟩
  refine ai S.F.frames λouter f1 f2=>?_
  rw[f1]at he
  refine ed (f2 e he) λ_ L' o' es n q1 q2 q3 q4=>?_
  rw[q]at q1;cases q1
  rw[h1]at q3;cases q3
  rw[h2]at q4;cases q4
theorem ObS.toOb{α β:Type}{rel:Wd->α->β->Prop}{r:R α}{f:α->Hp->RS}{P:β->Shared->Prop}(o:ObS C X s.heap C3 C2 CS (r.De CT f) Q E)(S:St C A d X C1 s C3 C2 CT CS CS)
 (k:∀v mh1,r=.ok v mh1->∀X1 s1 v1,Ext C aq X s.heap X1 mh1 s1->rel X1 v v1->ObS C X1 s1.heap C3 C2 CS (f v mh1) Q E->P v1 s1):Ob C aq X s.heap rel r P E:=
 ⟨λv C1 e X1 s1 v1 x r1=>k v C1 e X1 s1 v1 x r1 ((o.cast (by(exists e);rfl)).from x.weak),λn C1 e X1 s1 a x ha he=>o.exc n CT C1 (by(exists e);rfl) X1 s1 a x.weak ha he (S.V.ext x),λq=>o.no (by(exists q);rfl)⟩
theorem Sim.thenS{α β:Type}{rel:Wd->α->β->Prop}{r:R α}{t:Sem β}{f:α->Hp->RS}{P:β->Shared->Prop}(hS:Sim C A X s rel r t)(S:St C A d X C1 s C3 C2 CT CS CS)
 (o:ObS C X s.heap C3 C2 CS (r.De CT f) Q E)
 (k:∀v mh1,r=.ok v mh1->∀X1 s1 v1,Ext C aq X s.heap X1 mh1 s1->rel X1 v v1->ObS C X1 s1.heap C3 C2 CS (f v mh1) Q E->P v1 s1):wpAny (model C.prog C.w) A t P E s:=
 hS P E ⟨λv C1 e X1 s1 v1 x r1=>k v C1 e X1 s1 v1 x r1 ((o.cast (by(exists e);rfl)).from x.weak),λn C1 e X1 s1 a x ha he=>o.exc n CT C1 (by(exists e);rfl) X1 s1 a x.weak ha he (S.V.ext x),λq=>o.no (by(exists q);rfl)⟩
theorem Ext.priv1(R:Rel C X C1 s){own:fA}{L:Addr}(hL:X.tag L=some .priv)(ho:own L){h':Heap}{tk:Nat}(htk:0<tk)(k:∀b o,b≠L->s.heap.get? b=some o->h'.get? b=some o)(hs:s.heap.objs.size<=h'.objs.size):
 Ext C own X s.heap X C1 {s with heap:=h',toks:=tk}:=
 ⟨.refl X,R.still (.refl X) (λb ob t hb ht eb=>k b ob (λq=>ht (by subst q;exact D1 (hb.symm.trans hL))) eb) (λa ha=>R.fresh a (Dw hs ha)) (λ_ _ e=>.inl e) (λ_ _ e=>e) rfl rfl htk,
  λb ob _ hn eb=>⟨ob.slots,k b ob (λq=>hn (q▸ho)) eb⟩,hs⟩
theorem nc{i:Nat}{x:Str}(h:bO C3 C2 i x=true):C2[i]? =some (some x)/\(C3.names.lookup x=some .local\/C3.names.lookup x=some .cell)/\(x==("__debug__":Str))=false:=by
 unfold bO aJ cX at h
 simp only[Bool.and_eq_true,Bool.or_eq_true,beq_iff_eq,Bool.not_eq_true']at h
 exact⟨h.1.1,h.1.2,h.2⟩
theorem ng{i j:Nat}{v w:V}(h:(CT.set i (some v))[j]? =some (some w)):(j=i/\w=v)\/(j≠i/\CT[j]? =some (some w)):=by
 by_cases q:j=i
 ·subst q
  left
  refine⟨rfl,?_⟩
  rw[Ga]at h
  simp only[if_true]at h
  split at h
  ·injection h with h;injection h with h;exact h.symm
  ·exact bq h
 ·right
  rw[DB (Eb q)]at h
  exact⟨q,h⟩
theorem db{i:Nat}{x:Str}{v:V}{v':Value}{Q:Unit->Shared->Prop}{CW:PySem.Env}(S:St C A d X C1 s C3 C2 CT CS CW)(hs:bO C3 C2 i x=true)(r:VRel X v v')
 (h:∀s',Ext C (ownOf CS) X s.heap X C1 s'->ERel X s'.heap C3 C2 (CT.set i (some v)) CS->Q () s'):wpAny (model C.prog C.w) A (storeName CS x v') Q E s:=by
 refine cJ (nc hs) λh1 h2 h3=>?_
 have V:=S.V
 refine ai V.hns λm hn hsl=>?_
 rcases h2 with h2|h2
 ·have hl:CS.kindOf x=some .local:=by unfold PySem.Env.kindOf;(exists V.hsc);exact h2
  refine GN hl hn (λh' hn' hs'=>?_) (by(exists V.hsc,V.hkind);rfl)
  have kk:∀b o,b≠CS.locals->s.heap.get? b=some o->h'.get? b=some o:=λb o hb e=>(hs'.2 b hb).trans e
  refine h _ (Ext.priv1 S.R V.htag (.inl rfl) (DC _) kk (DK hs'.1.symm)) ?_
  refine⟨V.hsc,V.hkind,V.hglob,V.hblt,V.htag,⟨_,hn',λj y w q1 q2=>?_⟩,V.hinj,λy c hc=>?_,V.hapart,V.hcell⟩
  ·rcases ng q2 with⟨rfl,rfl⟩|⟨q3,q4⟩
   ·rw[h1]at q1;cases q1
    exact⟨v',r,.inl ⟨hl,if_pos rfl⟩⟩
   ·refine ai (hsl j y w q1 q4) λw' q5 q6=>?_
    refine⟨w',q5,q6.imp (λz=>aA z λk1 k2=>⟨k1,?_⟩) λz=>gK z λk1 c k2 k3=>⟨k1,c,k2,k3.sameBut hs' (V.hcells y c k2).2.1⟩⟩
    exact(if_neg (λq=>q3 (V.hinj j i x (by(refine bt q ?_);exact q1) h1))).trans k2
  ·refine eJ (V.hcells y c hc) λt hne w hw=>?_
   exact⟨t,hne,w,hw.sameBut hs' hne⟩
 ·refine aB (V.hcell i x h1 (by unfold aJ;(exists h2);exact DO _)) λc hc=>?_
  have hl:CS.kindOf x=some .cell:=by unfold PySem.Env.kindOf;(exists V.hsc);exact h2
  refine eJ (V.hcells x c hc) λt hne w hw=>?_
  refine wpAny_storeName_cell (by(exists V.hsc);exact V.hkind) hl hc hw λh' hw' hs'=>?_
  have kk:∀b o,b≠c->s.heap.get? b=some o->h'.get? b=some o:=λb o hb e=>(hs'.2 b hb).trans e
  refine h _ (Ext.priv1 S.R t (.inr ⟨x,hc⟩) S.R.toks kk (DK hs'.1.symm)) ?_
  refine⟨V.hsc,V.hkind,V.hglob,V.hblt,V.htag,⟨m,hn.sameBut hs' (Eb hne),λj y w q1 q2=>?_⟩,V.hinj,λy c' hc'=>?_,V.hapart,V.hcell⟩
  ·rcases ng q2 with⟨rfl,rfl⟩|⟨q3,q4⟩
   ·rw[h1]at q1;cases q1
    exact⟨v',r,.inr ⟨hl,c,hc,hw'⟩⟩
   ·refine ai (hsl j y w q1 q4) λw' q5 q6=>?_
    refine⟨w',q5,q6.imp id λz=>gK z λk1 c' k2 k3=>⟨k1,c',k2,k3.sameBut hs' λq=>q3 (V.hinj j i x ?_ h1)⟩⟩
    exists q1,(V.hapart y x c (q▸k2) hc);rfl
  ·refine eJ (V.hcells y c' hc') λt' hne' w' hw2=>?_
   by_cases q:c'=c
   ·subst q;exact⟨t',hne',_,hw'⟩
   ·exact⟨t',hne',w',hw2.sameBut hs' q⟩
end
structure ObL (C:Cx) (X:Wd) (h:Heap) (C3:Scope) (C2:List (Option Str)) (CS:PySem.Env) (own:fA) (r:RS) (Rr:Result->Shared->Prop):Prop where
 ok:∀fl C4 C7,r=.ok fl C4 C7->∀X' s' fl',Ext C own X h X' C7 s'->FlRel X' fl fl'->ERel X' s'.heap C3 C2 C4 CS->Rr (.ok fl') s'
 exc:∀n C4 C7,r=.exc n C4 C7->∀X' s' a,Ext C own X h X' C7 s'->X'.at_ n=some a->fy C7 n->ERel X' s'.heap C3 C2 C4 CS->r8 s'.heap a->Rr (.error (.ref a)) s'
 no:r≠.no
noncomputable def iT(CS:PySem.Env)(I:Addr):fA:=λa=>ownOf CS a\/a=I
def Cl(C:Cx)(r:Rec):Prop:=∀{A:Around}{d:Dp}{X:Wd}{C1:Hp}{s:Shared}{C3:Scope}{C2:List (Option Str)}{CT:Env}{CS:PySem.Env}{n:Nat}{st:Stmt}{m:S},
 St C A d X C1 s C3 C2 CT CS CS->eS n C3 C2 st m=true->eO C A X s C3 C2 CS (r.ex d CT C1 m) (exec st CS)
def BA(C:Cx)(r:Rec):Prop:=∀{A:Around}{d:Dp}{X:Wd}{C1:Hp}{s:Shared}{C3:Scope}{C2:List (Option Str)}{CT:Env}{CS:PySem.Env}{n:Nat}{sts:List Stmt}{ms:List S},
 St C A d X C1 s C3 C2 CT CS CS->dY (eS n C3 C2) sts ms=true->eO C A X s C3 C2 CS (r.exs d CT C1 ms) (execs sts CS)
def Co(C:Cx)(r:Rec):Prop:=∀{A:Around}{d:Dp}{X:Wd}{C1:Hp}{s:Shared}{C3:Scope}{C2:List (Option Str)}{CT:Env}{CS:PySem.Env}{n:Nat}{t:Expr}{tm:E}{sts:List Stmt}{ms:List S}{Rr:Result->Shared->Prop},
 St C A d X C1 s C3 C2 CT CS CS->az n C3 C2 t tm=true->dY (eS n C3 C2) sts ms=true->ObL C X s.heap C3 C2 CS (ownOf CS) (r.wl d CT C1 tm ms) Rr->
 codeAny (model C.prog C.w) A (.whileLoop t sts [] CS) Rr s
def Cq(C:Cx)(r:Rec):Prop:=∀{A:Around}{d:Dp}{X:Wd}{C1:Hp}{s:Shared}{C3:Scope}{C2:List (Option Str)}{CT:Env}{CS:PySem.Env}{n:Nat}{x:Str}{px:Pos}{CY:Nat}{it:It}{I:Addr}{sts:List Stmt}{ms:List S}{Rr:Result->Shared->Prop},
 St C A d X C1 s C3 C2 CT CS CS->d.2=none->bO C3 C2 CY x=true->dY (eS n C3 C2) sts ms=true->X.tag I=some .priv->¬ownOf CS I->(∀e∈A.frames.getD [],e.frame≠some I)->ItRel X s.heap I it->
 ObL C X s.heap C3 C2 CS (iT CS I) (r.lp d CT C1 CY it ms) Rr->codeAny (model C.prog C.w) A (.forLoop (.Name x px) (.ref I) sts [] CS) Rr s
structure GoodS (C:Cx) (r:Rec):Prop where
 ex:Cl C r
 exs:BA C r
 wl:Co C r
 lp:Cq C r
section
variable{C:Cx}{r:Rec}{A:Around}{d:Dp}{X:Wd}{C1:Hp}{s:Shared}{C3:Scope}{C2:List (Option Str)}{CT:Env}{CS:PySem.Env}{n:Nat}
theorem ie{v:Expr}{t:Option Expr}{l:Nat}{CT:PySem.Env}(h:gr v=true):swapsWith v t l CT=pure false:=by
 induction v using Expr.casesOn<;>first|rfl|exact aC h
theorem qA{v o:Expr}{a:Str}{p:Pos}{l:Nat}{CT:PySem.Env}:swapsWith v (some (.Attribute o a p)) l CT=pure false:=by induction v using Expr.casesOn<;>rfl
theorem tF{v o i:Expr}{p:Pos}{l:Nat}{CT:PySem.Env}:swapsWith v (some (.Subscript o i p)) l CT=pure false:=by induction v using Expr.casesOn<;>rfl
theorem xU{st:Stmt}{e:E}(G:GoodE C r)(S:St C A d X C1 s C3 C2 CT CS CS)(ck:eS (n+1) C3 C2 st (.expr e)=true):eO C A X s C3 C2 CS (ci C.P r d CT C1 (.expr e)) (exec st CS):=λQ E o=>by
 refine on st (show qa _ st=true from ck) ?_;clear ck;intro x p ck
 replace ck:(gr x&&az n C3 C2 x e)=true:=ck
 replace ck:=and2 ck
 refine wpAny_Expr_any ?_ (by unfold interactive;rw[S.V.hsc,S.V.hkind];rfl) (ie ck.1)
 refine(G.ev S ck.2).thenS S o λv mh1 e₁ X1 s1 v1 x1 r1 o1=>?_
 exact o1.ok _ _ _ rfl X1 s1 .next (Ext.refl x1.rel) .next (S.V.ext x1)
theorem ckE_set{n:Nat}{C3:Scope}{C2:List (Option Str)}{e:E}{a:Expr}{b:List Comprehension}{c:Scope}{p:Pos}:az n C3 C2 (.SetComp a b c p) e=false:=by
 induction n using Nat.casesOn with
 |zero=>rfl
 |succ n=>induction e using CF.E.casesOn<;>rfl
theorem ckE_dict{n:Nat}{C3:Scope}{C2:List (Option Str)}{e:E}{k a:Expr}{b:List Comprehension}{c:Scope}{p:Pos}:az n C3 C2 (.DictComp k a b c p) e=false:=by
 induction n using Nat.casesOn with
 |zero=>rfl
 |succ n=>induction e using CF.E.casesOn<;>rfl
theorem tG{st:Stmt}{i:Nat}{e:E}(G:GoodE C r)(S:St C A d X C1 s C3 C2 CT CS CS)(ck:eS (n+1) C3 C2 st (.C9 i e)=true):eO C A X s C3 C2 CS (ci C.P r d CT C1 (.C9 i e)) (exec st CS):=λQ E o=>by
 refine cw st (show cu _ st=true from ck) ?_;clear ck;intro ts v p ck
 refine cN ts (show one _ ts=true from ck) ?_;clear ck;intro t0 ck
 refine aQ t0 (show bg _ t0=true from ck) ?_;clear ck;intro x px ck
 replace ck:(bO C3 C2 i x&&az n C3 C2 v e)=true:=ck
 replace ck:=and2 ck
 have plain:swapsWith v (some (.Name x px)) p.line CS=pure false->wpAny (model C.prog C.w) A (exec (.Assign [.Name x px] v p) CS) Q E s:=λhsw=>by
  refine wpAny_Assign_Name ?_ hsw
  refine(G.ev S ck.2).thenS S o λv mh1 e₁ X1 s1 v1 x1 r1 o1=>?_
  refine db (S.ext x1) ck.1 r1 λs' x' V'=>?_
  exact o1.ok _ _ _ rfl X1 s' .next x' .next V'
 by_cases hc:gr v=true
 ·exact plain (ie hc)
 ·induction v using Expr.casesOn with
  |ListComp elt gens csc cp=>
   cases hsw:(CS.blockKind==.function&&CS.kindOf x==some .local&&px.line==cp.line&& !(csc.names.any λ(n,k)=>n==x&&(k==.local||k==.cell)))with
   |false=>exact plain (by show pure _=_;(refine bt hsw ?_);rfl)
   |true=>
    exists(exec_Assign_Name_used _ _ _ _ (by show pure _=_;rw[<-hsw];rfl))
    refine Dn (Ek (Dn ?_))
    obtain⟨v,C7,hr⟩:∃v C7,r.ev d CT C1 e=.ok v C7:=by
     cases hr:r.ev d CT C1 e with
     |ok v h=>exact⟨v,h,rfl⟩
     |exc k h=>
      exfalso
      induction n using Nat.casesOn with
      |zero=>exact Do ck.2
      |succ n=>induction e using CF.E.casesOn<;>first|exact Do ck.2|exact G.noexc _ _ _ _ _ _ _ _ _ hr
     |no=>exact absurd (show ci C.P r d CT C1 (.C9 i e)=.no by show(r.ev d CT C1 e).De CT _=_;(exists hr);rfl) o.no
    refine G.evU (Q:=λ_ s'=>wpAny (model C.prog C.w) A (pure PySem.Flow.next) Q E s') S ck.2 (λw mh1 e₁ X1 s1 v1 Cn x1 r1 t1 t2 hns=>?_) ⟨v,C7,hr⟩
    rw[hr]at e₁
    injection e₁ with e1 e2
    subst e1 e2
    refine Gq (db (S.ext x1) ck.1 r1 λs' x' V'=>?_)
    refine aB hns λm0 hm=>?_;clear hns
    have hCn:¬ownOf CS Cn:=λq=>by
     rcases q with rfl|⟨y,hy⟩
     ·rw[S.V.htag]at t2;exact zO t2
     ·rw[(S.V.hcells y Cn hy).1]at t2;exact zO t2
    refine⟨m0,jZ hm λob hob=>x'.priv Cn ob t1 hCn hob,λh' hs'=>Dv ?_⟩
    have y:=Ext.priv1 (own:=λa=>a=Cn) (C:=C) x'.rel t1 rfl x'.rel.toks (λb ob hb e=>(hs'.2 b hb).trans e) (DK hs'.1.symm)
    have z:Ext C aq X s.heap X1 C7 s1:=x1
    refine o.ok _ _ _ (by show(r.ev d CT C1 e).De CT _=_;(exists hr);rfl) X1 {s' with heap:=h'} .next ?_ .next ?_
    ·refine⟨x1.le,y.rel,λb ob hb hn eb=>?_,Dw x1.size (Dw x'.size y.size)⟩
     refine aB (x1.priv b ob hb (λq=>q) eb) λsl e1=>?_
     refine aB (x'.priv b _ (x1.le.tag _ _ hb) hn e1) λsl' e2=>?_
     exact⟨sl',(hs'.2 b (λq=>by subst q;rw[t2]at hb;cases hb)).trans e2⟩
    ·refine ai V'.hns λm hn hsl=>?_
     have hLC:CS.locals≠Cn:=λq=>hCn (.inl q.symm)
     refine⟨V'.hsc,V'.hkind,V'.hglob,V'.hblt,V'.htag,⟨m,hn.sameBut hs' hLC,λj y w q1 q2=>?_⟩,V'.hinj,λy c hc=>?_,V'.hapart,V'.hcell⟩
     ·refine ai (hsl j y w q1 q2) λw' q5 q6=>?_
      exact⟨w',q5,q6.imp id λz=>gK z λk1 c k2 k3=>⟨k1,c,k2,k3.sameBut hs' λq=>hCn (.inr ⟨y,q▸k2⟩)⟩⟩
     ·refine eJ (V'.hcells y c hc) λt hne w hw=>?_
      exact⟨t,hne,w,hw.sameBut hs' λq=>hCn (.inr ⟨y,q▸hc⟩)⟩
  |SetComp=>exact aC (ckE_set.symm.trans ck.2)
  |DictComp=>exact aC (ckE_dict.symm.trans ck.2)
  |_=>exact absurd rfl hc
end
section
variable{C:Cx}{r:Rec}{A:Around}{d:Dp}{X:Wd}{C1:Hp}{s:Shared}{C3:Scope}{C2:List (Option Str)}{CT:Env}{CS:PySem.Env}{n:Nat}{st:Stmt}
theorem qB{a:Nat}{o' e:E}(M:CxMore C)(G:GoodE C r)(S:St C A d X C1 s C3 C2 CT CS CS)(ck:eS (n+1) C3 C2 st (.Dd o' a e)=true):eO C A X s C3 C2 CS (ci C.P r d CT C1 (.Dd o' a e)) (exec st CS):=λQ E o=>by
 refine cw st (show cu _ st=true from ck) ?_;clear ck;intro ts v p ck
 refine cN ts (show one _ ts=true from ck) ?_;clear ck;intro t0 ck
 refine bc t0 (show aH _ t0=true from ck) ?_;clear ck;intro ox y px ck
 replace ck:(attrN[a]? ==some y&&az n C3 C2 ox o'&&az n C3 C2 v e)=true:=ck
 refine jT ck λc1 c2 c3=>?_;clear ck;(try simp only[beq_iff_eq]at c1 c2 c3)
 have hy:y=ay a:=by unfold ay;(exists c1);rfl
 subst hy
 refine plainObj_wpAny_Assign_Attribute ?_ qA
 refine(G.ev S c3).thenS S o λv mh1 e1 X1 s1 v1 x1 r1 o1=>?_
 refine(G.ev (S.ext x1) c2).thenS (S.ext x1) o1 λw mh2 e2 X2 s2 w2 x2 r2 o2=>?_
 refine jk M x2.rel r2 (r1.mono x2.le) (by(exists c1);rfl) (o2.toOb ((S.ext x1).ext x2) λu mh3 e3 X3 s3 u3 x3 r3 o3=>?_)
 exact o3.ok _ _ _ rfl X3 s3 .next (Ext.refl x3.rel) .next (((S.ext x1).ext x2).V.ext x3)
theorem qC{o' i' e:E}(M:CxMore C)(G:GoodE C r)(S:St C A d X C1 s C3 C2 CT CS CS)(ck:eS (n+1) C3 C2 st (.Dg o' i' e)=true):eO C A X s C3 C2 CS (ci C.P r d CT C1 (.Dg o' i' e)) (exec st CS):=λQ E o=>by
 refine cw st (show cu _ st=true from ck) ?_;clear ck;intro ts v p ck
 refine cN ts (show one _ ts=true from ck) ?_;clear ck;intro t0 ck
 refine bF t0 (show bv _ t0=true from ck) ?_;clear ck;intro ox ix px ck
 replace ck:(!eU ix&&az n C3 C2 ox o'&&az n C3 C2 ix i'&&az n C3 C2 v e)=true:=ck
 refine zF ck λc0 c1 c2 c3=>?_;clear ck;(try simp only[Bool.not_eq_true']at c0 c1 c2 c3)
 refine wpAny_Assign_Subscript ?_ tF
 refine(G.ev S c3).thenS S o λv mh1 e1 X1 s1 v1 x1 r1 o1=>?_
 have S1:=S.ext x1
 refine(G.ev S1 c1).thenS S1 o1 λw mh2 e2 X2 s2 w2 x2 r2 o2=>?_
 have S2:=S1.ext x2
 refine(G.ev S2 c2).thenS S2 o2 λw mh3 e3 X3 s3 w3 x3 r3 o3=>?_
 refine jd x3.rel (r2.mono x3.le) r3 ((r1.mono x2.le).mono x3.le) (o3.toOb (S2.ext x3) λu mh4 e4 X4 s4 u4 x4 r4 o4=>?_)
 exact o4.ok _ _ _ rfl X4 s4 .next (Ext.refl x4.rel) .next ((S2.ext x3).V.ext x4)
theorem Ap{i:Nat}{op:BOp}{e:E}(G:GoodE C r)(S:St C A d X C1 s C3 C2 CT CS CS)(ck:eS (n+1) C3 C2 st (.aug i op e)=true):eO C A X s C3 C2 CS (ci C.P r d CT C1 (.aug i op e)) (exec st CS):=λQ E o=>by
 refine cY st (show bY _ st=true from ck) ?_;clear ck;intro t op' v p ck
 refine aQ t (show bg _ t=true from ck) ?_;clear ck;intro x px ck
 replace ck:(bO C3 C2 i x&&op.real==op'&&az n C3 C2 v e)=true:=ck
 refine jT ck λc1 c2 c3=>?_;clear ck;(try simp only[beq_iff_eq]at c1 c2 c3)
 subst c2
 replace o:ObS C X s.heap C3 C2 CS (match CT[i]? with|some (some x)=>if eT x then .no else(r.ev d CT C1 e).De CT λy h=>(ba op x y h).De CT λz h=>.ok .next (CT.set i (some z)) h|_=>.no) Q E:=o
 split at o
 ·rename_i w hw
  split at o
  ·exact o.absurd
  ·rename_i hr
   have hr:eT w=false:=by simpa using hr
   refine wpAny_AugAssign_Name (qd S.V (nc c1).1 hw λw' rw'=>?_)
   refine(G.ev S c3).thenS S o λv mh1 e1 X1 s1 v1 x1 r1 o1=>?_
   refine fS x1.rel (rw'.mono x1.le) r1 hr (o1.toOb (S.ext x1) λz mh2 e2 X2 s2 z2 x2 r2 o2=>?_)
   refine db ((S.ext x1).ext x2) c1 r2 λs' x' V'=>?_
   exact o2.ok _ _ _ rfl X2 s' .next x' .next V'
 ·exact o.absurd
theorem qD{a:Nat}{op:BOp}{o' e:E}(M:CxMore C)(G:GoodE C r)(S:St C A d X C1 s C3 C2 CT CS CS)(ck:eS (n+1) C3 C2 st (.Di o' a op e)=true):eO C A X s C3 C2 CS (ci C.P r d CT C1 (.Di o' a op e)) (exec st CS):=λQ E o=>by
 refine cY st (show bY _ st=true from ck) ?_;clear ck;intro t op' v p ck
 refine bc t (show aH _ t=true from ck) ?_;clear ck;intro ox y px ck
 replace ck:(attrN[a]? ==some y&&op.real==op'&&az n C3 C2 ox o'&&az n C3 C2 v e)=true:=ck
 refine zF ck λc1 c2 c3 c4=>?_;clear ck;(try simp only[beq_iff_eq]at c1 c2 c3 c4)
 subst c2
 have hy:y=ay a:=by unfold ay;(exists c1);rfl
 subst hy
 refine wpAny_AugAssign_AttributeAny ?_
 refine(G.ev S c3).thenS S o λv mh1 e1 X1 s1 v1 x1 r1 o1=>?_
 have S1:=S.ext x1
 refine jj M x1.rel r1 (by(exists c1);rfl) (o1.toOb S1 λw mh2 e2 X2 s2 w2 x2 r2 o2=>?_)
 have S2:=S1.ext x2
 split at o2
 ·exact o2.absurd
 ·rename_i hr
  have hr:eT w=false:=by simpa using hr
  refine(G.ev S2 c4).thenS S2 o2 λy mh3 e3 X3 s3 y3 x3 r3 o3=>?_
  have S3:=S2.ext x3
  refine fS x3.rel (r2.mono x3.le) r3 hr (o3.toOb S3 λz mh4 e4 X4 s4 z4 x4 r4 o4=>?_)
  refine jk M x4.rel (((r1.mono x2.le).mono x3.le).mono x4.le) r4 (by(exists c1);rfl) (o4.toOb (S3.ext x4) λu mh5 e5 X5 s5 u5 x5 r5 o5=>?_)
  exact o5.ok _ _ _ rfl X5 s5 .next (Ext.refl x5.rel) .next ((S3.ext x4).V.ext x5)
theorem qF{op:BOp}{o' i' e:E}(M:CxMore C)(G:GoodE C r)(S:St C A d X C1 s C3 C2 CT CS CS)(ck:eS (n+1) C3 C2 st (.Dh o' i' op e)=true):eO C A X s C3 C2 CS (ci C.P r d CT C1 (.Dh o' i' op e)) (exec st CS):=λQ E o=>by
 refine cY st (show bY _ st=true from ck) ?_;clear ck;intro t op' v p ck
 refine bF t (show bv _ t=true from ck) ?_;clear ck;intro ox ix px ck
 replace ck:(!eU ix&&op.real==op'&&az n C3 C2 ox o'&&az n C3 C2 ix i'&&az n C3 C2 v e)=true:=ck
 refine xh ck λc0 c2 c3 c4 c5=>?_;clear ck;(try simp only[beq_iff_eq,Bool.not_eq_true']at c0 c2 c3 c4 c5)
 subst c2
 refine wpAny_AugAssign_SubscriptAny ?_ (by intro ov iv new;induction ix using Expr.casesOn<;>first|rfl|exact aC c0.symm)
 refine(G.ev S c3).thenS S o λv mh1 e1 X1 s1 v1 x1 r1 o1=>?_
 have S1:=S.ext x1
 refine(G.ev S1 c4).thenS S1 o1 λk mh2 e2 X2 s2 k2 x2 r2 o2=>?_
 have S2:=S1.ext x2
 refine jc x2.rel (r1.mono x2.le) r2 (o2.toOb S2 λw mh3 e3 X3 s3 w3 x3 r3 o3=>?_)
 have S3:=S2.ext x3
 split at o3
 ·exact o3.absurd
 ·rename_i hr
  have hr:eT w=false:=by simpa using hr
  refine(G.ev S3 c5).thenS S3 o3 λy mh4 e4 X4 s4 y4 x4 r4 o4=>?_
  have S4:=S3.ext x4
  refine fS x4.rel (r3.mono x4.le) r4 hr (o4.toOb S4 λz mh5 e5 X5 s5 z5 x5 r5 o5=>?_)
  refine jd x5.rel ((((r1.mono x2.le).mono x3.le).mono x4.le).mono x5.le) (((r2.mono x3.le).mono x4.le).mono x5.le) r5 (o5.toOb (S4.ext x5) λu mh6 e6 X6 s6 u6 x6 r6 o6=>?_)
  exact o6.ok _ _ _ rfl X6 s6 .next (Ext.refl x6.rel) .next ((S4.ext x5).V.ext x6)
theorem Aq{t:E}{a b:List S}(G:GoodE C r)(H:GoodS C r)(S:St C A d X C1 s C3 C2 CT CS CS)(ck:eS (n+1) C3 C2 st (.iff t a b)=true):eO C A X s C3 C2 CS (ci C.P r d CT C1 (.iff t a b)) (exec st CS):=λQ E o=>by
 refine sX st (show zS _ st=true from ck) ?_;clear ck;intro t' a' b' p ck
 replace ck:(az n C3 C2 t' t&&dY (eS n C3 C2) a' a&&dY (eS n C3 C2) b' b)=true:=ck
 refine jT ck λc1 c2 c3=>?_;clear ck
 refine wpAny_If ?_
 have key:ci C.P r d CT C1 (.iff t a b)=((r.ev d CT C1 t).bind tr).De CT λc h=>match c with|true=>r.exs d CT h a|false=>r.exs d CT h b:=by
  show(r.ev d CT C1 t).De CT _=_
  cases r.ev d CT C1 t with
  |no=>rfl
  |exc k h=>rfl
  |ok x h=>
   show(match aO x h with|some true=>_|some false=>_|none=>RS.no)=(tr x h).De CT _
   cases ht:aO x h with
   |none=>(exists(jg ht));rfl
   |some c=>(exists(hW ht));cases c<;>rfl
 refine(G.evT S c1).thenS S (o.cast key) λc mh1 e1 X1 s1 c' x1 r1 o1=>?_
 replace r1:c=c':=r1
 subst r1
 cases c
 ·exact H.exs (S.ext x1) c3 Q E o1
 ·exact H.exs (S.ext x1) c2 Q E o1
theorem Ar{e:Option E}(G:GoodE C r)(S:St C A d X C1 s C3 C2 CT CS CS)(ck:eS (n+1) C3 C2 st (.ret e)=true):eO C A X s C3 C2 CS (ci C.P r d CT C1 (.ret e)) (exec st CS):=λQ E o=>by
 induction e using Option.casesOn with
 |none=>
  refine gA st (show fM (λo=>o.isNone) st=true from ck) ?_;clear ck;intro v p ck
  induction v using Option.casesOn with
  |none=>exact wpAny_Return_none (o.ok _ _ _ rfl X s (.ret .none) (Ext.refl S.R) (.ret .none) S.V)
  |some v=>exact aC ck
 |some e=>
  refine gA st (show fM (Bi λv=>az n C3 C2 v e) st=true from ck) ?_;clear ck;intro v p ck
  induction v using Option.casesOn with
  |none=>exact aC ck
  |some v=>
   refine wpAny_Return_some ?_
   refine(G.ev S (show az n C3 C2 v e=true from ck)).thenS S o λv mh1 e1 X1 s1 v1 x1 r1 o1=>?_
   exact o1.ok _ _ _ rfl X1 s1 (.ret v1) (Ext.refl x1.rel) (.ret r1) (S.V.ext x1)
theorem xV(S:St C A d X C1 s C3 C2 CT CS CS)(ck:eS (n+1) C3 C2 st .cont=true):eO C A X s C3 C2 CS (ci C.P r d CT C1 .cont) (exec st CS):=λQ E o=>by
 induction st using Stmt.casesOn with
 |Continue p=>exact λ_ _ _=>o.ok _ _ _ rfl X s .cont (Ext.refl S.R) .cont S.V
 |_=>exact aC ck
theorem xW(S:St C A d X C1 s C3 C2 CT CS CS)(ck:eS (n+1) C3 C2 st .pass=true):eO C A X s C3 C2 CS (ci C.P r d CT C1 .pass) (exec st CS):=λQ E o=>by
 induction st using Stmt.casesOn with
 |Pass p=>exact wpAny_Pass (o.ok _ _ _ rfl X s .next (Ext.refl S.R) .next S.V)
 |_=>exact aC ck
theorem vr(H:GoodS C r){sts:List Stmt}{ms:List S}(S:St C A d X C1 s C3 C2 CT CS CS)(ck:dY (eS n C3 C2) sts ms=true):eO C A X s C3 C2 CS (Br r d CT C1 ms) (execs sts CS):=λQ E o=>by
 induction sts using List.casesOn with
 |nil=>induction ms using List.casesOn with
  |nil=>exact GH (o.ok _ _ _ rfl X s .next (Ext.refl S.R) .next S.V)
  |cons=>exact aC ck
 |cons st sts=>induction ms using List.casesOn with
  |nil=>exact aC ck
  |cons m ms=>
   replace ck:(eS n C3 C2 st m&&dY (eS n C3 C2) sts ms)=true:=ck
   replace ck:=and2 ck
   replace o:ObS C X s.heap C3 C2 CS (match r.ex d CT C1 m with|.ok .next CT h=>r.exs d CT h ms|.ok .cont CT h=>.ok .cont CT h|.ok (.ret v) CT h=>.ok (.ret v) CT h|.exc n CT h=>.exc n CT h|.no=>.no) Q E:=o
   refine wpAny_execs_cons (H.ex S ck.1 _ _ ⟨λfl C4 C7 e X' s' fl' x f V=>?_,λk C4 C7 e X' s' a x ha he V=>?_,λq=>?_⟩)
   ·rw[e]at o
    cases f with
    |next=>exact H.exs (S.extS x V) ck.2 Q E (o.from x)
    |cont=>exact o.ok _ _ _ rfl X' s' .cont x .cont V
    |ret rv=>exact o.ok _ _ _ rfl X' s' (.ret _) x (.ret rv) V
   ·rw[e]at o;exact o.exc _ _ _ rfl X' s' a x ha he V
   ·rw[q]at o;exact o.absurd
end
section
variable{prog:Program}{w:World}{A:Around}{E:Value->Shared->Prop}{s:Shared}
theorem lB{it:Addr}{x left step:Int}{o:Obj}{Q:Option Value->Shared->Prop}(ho:s.heap.get? it=some o)(hc:o.cls=.type "range_iterator")(hd:o.data=.fields #[rawInt x,rawInt left,rawInt step])(hleft:0<left)
 (hQ:∀h' o',h'.get? it=some o'->o'.cls=.type "range_iterator"->o'.data=.fields #[rawInt (x+step),rawInt (left-1),rawInt step]->Heap.SameBut it s.heap h'->Q (some (.int x s.toks)) {s with heap:=h',toks:=s.toks+1}):
 wpAny (model prog w) A (pyNext (.ref it)) Q E s:=by
 have hT:s.TypeIs (.ref it) "range_iterator":=⟨_,ho,hc⟩
 unfold pyNext
 refine Dn (wpAny_attempt (Gw (name:=Str.ofString "__next__") hT EZ
  (Gx EZ hT HW ?_ (HT _))))
 show wpAny _ _ (field (.ref it) 0>>=_) _ _ s
 refine Dn (EE ho hd (x:=rawInt x) rfl ?_)
 show wpAny _ _ (field (.ref it) 1>>=_) _ _ s
 refine Dn (EE ho hd (x:=rawInt left) rfl ?_)
 show wpAny _ _ (field (.ref it) 2>>=_) _ _ s
 refine Dn (EE ho hd (x:=rawInt step) rfl ?_)
 show wpAny _ _ (if left<=0 then _ else _) _ _ s
 exists(if_neg (by exact Em.mpr hleft))
 have hd1:=Gj hd (·.setIfInBounds 0 (rawInt (x+step)))
 have g1:=DP (Obj.mapFields (·.setIfInBounds 0 (rawInt (x+step)))) ho (GL hd1)
 have hd2:=Gj hd1 (·.setIfInBounds 1 (rawInt (left-1)))
 have g2:=DP (Obj.mapFields (·.setIfInBounds 1 (rawInt (left-1)))) g1 (GL hd2)
 refine Dn (Fo ho hd (by simp) ?_)
 refine Dn (Fo g1 hd1 (by simp) ?_)
 show wpAny _ _ (retInt x) _ _ _
 unfold retInt
 refine Dn (wpAny_mkInt (Dv ⟨_,rfl,Dv (hQ _ _ g2 ?_ ?_ ((ET ..).trans (ET ..)))⟩))
 ·rw[Obj.cls_mapFields,Obj.cls_mapFields];exact hc
 ·exists hd2;simp
theorem nh{it:Addr}{x left step:Int}{o:Obj}{Q:Option Value->Shared->Prop}(hh:A.handled=none)(ho:s.heap.get? it=some o)(hc:o.cls=.type "range_iterator")(hd:o.data=.fields #[rawInt x,rawInt left,rawInt step])(hleft:left<=0)
 (hQ:∀h',Heap.ExtBut it s.heap h'->Q none {s with heap:=h'}):wpAny (model prog w) A (pyNext (.ref it)) Q E s:=by
 have hT:s.TypeIs (.ref it) "range_iterator":=⟨_,ho,hc⟩
 unfold pyNext
 refine Dn (wpAny_attempt (Gw (name:=Str.ofString "__next__") hT EZ
  (Gx EZ hT HW ?_ (HT _))))
 show wpAny _ _ (field (.ref it) 0>>=_) _ _ s
 refine Dn (EE ho hd (x:=rawInt x) rfl ?_)
 show wpAny _ _ (field (.ref it) 1>>=_) _ _ s
 refine Dn (EE ho hd (x:=rawInt left) rfl ?_)
 show wpAny _ _ (field (.ref it) 2>>=_) _ _ s
 refine Dn (EE ho hd (x:=rawInt step) rfl ?_)
 show wpAny _ _ (if left<=0 then _ else _) _ _ s
 exists(if_pos hleft)
 refine Dn (wpAny_rule ?_)
 refine Dn ?_
 show wpAny _ _ (newExc (.type "StopIteration") []>>=_) _ _ _
 refine Dn ?_
 simp only[newExc,newTuple]
 refine Dn (FJ ?_ (by size_fits))
 refine Dn (m:=firstArgMember _ _) (HK (a:=Value.none) (by first|rfl|(simp only[firstArgMember];rfl)) ?_)
 refine FJ ?_ (by size_fits)
 simp only[raiseNew]
 refine Dn (wpAny_handled ?_)
 first|(exists(show A.in1.handled=none from hh))|rw[hh]
 refine Dn (Dv (wpAny_throw ?_))
 refine Dn (wpAny_isInstance (T:="StopIteration") (b:=true) ⟨_,Dz _ rfl,rfl⟩ isSubtype_stop ?_)
 exact Dv (hQ _ (((Heap.ExtBut.refl it s.heap).push _).push _))
end
section
variable{C:Cx}{A:Around}{d:Dp}{X:Wd}{C1:Hp}{s:Shared}{I:Addr}
theorem ItRel.keep{X':Wd}{h h':Heap}{it:It}(l:X.le X')(k:∀o,h.get? I=some o->∃sl,h'.get? I=some {o with slots:=sl}) (r:ItRel X h I it):ItRel X' h' I it:=by
 cases r with
 |lst a b=>refine bo b λo e c dd=>?_;clear b;refine aB (k o e) λsl e'=>?_;exact .lst (l.at_ _ _ a) ⟨_,e',c,dd⟩
 |str a b c=>refine bo b λo e c2 dd=>?_;clear b;refine aB (k o e) λsl e'=>?_;exact .str a ⟨_,e',c2,dd⟩ c
 |tup a b c dd e f=>refine bo f λo g c2 d2=>?_;clear f;refine aB (k o g) λsl e'=>?_;exact .tup (l.tag _ _ a) b c (dd.mono l) e ⟨_,e',c2,d2⟩
 |rng a b c dd=>refine aB (k _ a) λsl e'=>?_;exact .rng e' b c dd
theorem oO{it:It}{nx:Nx}(hh:A.handled=none)(R:Rel C X C1 s)(hI:X.tag I=some .priv)(r:ItRel X s.heap I it)(hn:aP C1 it=nx){Q:Option Value->Shared->Prop}{E:Value->Shared->Prop}(hno:nx≠.no)
 (hfin:nx=.fin->∀s',Ext C (λa=>a=I) X s.heap X C1 s'->Q none s')
 (hone:∀v it',nx=.one v it'->∀s' v',Ext C (λa=>a=I) X s.heap X C1 s'->VRel X v v'->ItRel X s'.heap I it'->Q (some v') s'):
 wpAny (model C.prog C.w) A (pyNext (.ref I)) Q E s:=by
 have ex:∀{h':Heap}{tk:Nat},0<tk->s.heap.objs.size<=h'.objs.size->Heap.ExtBut I s.heap h'->Ext C (λa=>a=I) X s.heap X C1 {s with heap:=h',toks:=tk}:=λhtk hs k=>
  Ext.priv1 (own:=λa=>a=I) R hI rfl htk (λb o hb e=>k b o hb e) hs
 have p0:=R.toks
 cases r with
 | @lst n i l a b=>
  unfold aP at hn
  dsimp only at hn
  split at hn
  ·rename_i xs hx
   refine aD (R.list hx a) λvs k g rr=>?_
   split at hn
   ·rename_i v hv
    refine ai (rr.get hv) λv' hv' rv=>?_
    refine wpAny_pyNext_list_item b (aI g) (by simpa using hv') λh' hit' hs'=>?_
    exact hone v _ hn.symm _ v' (ex p0 (DK hs'.1.symm) hs'.extBut) rv (.lst a hit')
   ·rename_i hv
    refine bD (wpAny_pyNext_list_end hh b (aI g) ?_ λh' he'=>λhz=>?_)
    ·have hl:=rr.length
     have:xs.length<=i:=EG.mp hv
     exists Fc;exact EG.mpr (hl▸this)
    ·exact hfin hn.symm _ (ex p0 hz he')
  ·exact absurd hn.symm hno
 | @str x r t i ty hty b hr=>
  induction r using List.casesOn with
  |nil=>
   have hv:(⟨x.toArray⟩:Str).cps[i]? =none:=by
    show x.toArray[i]? =none
    exists Fc;exact EG.mpr (FK.mp hr)
   rcases hty with rfl|rfl
   ·exact bD (wpAny_pyNext_ascii_end hh b hv λh' he'=>λhz=>hfin hn.symm _ (ex p0 hz he'))
   ·exact bD (wpAny_pyNext_wide_end hh b hv λh' he'=>λhz=>hfin hn.symm _ (ex p0 hz he'))
  |cons c r=>
   have hv:(⟨x.toArray⟩:Str).cps[i]? =some c:=by
    show x.toArray[i]? =some c
    exists Fc
    have q:=Ds (·[0]?) hr
    simpa[List.getElem?_drop]using q
   have hr':x.drop (i+1)=r:=by(refine bt FU ?_;exists hr);rfl
   rcases hty with rfl|rfl
   ·exact wpAny_pyNext_ascii_item b hv λh' hit' hs'=>hone _ _ hn.symm _ _ (ex (DC _) (DK hs'.1.symm) hs'.extBut) (.str [c] _) (.str (.inl rfl) hit' hr')
   ·exact wpAny_pyNext_wide_item b hv λh' hit' hs'=>hone _ _ hn.symm _ _ (ex (DC _) (DK hs'.1.symm) hs'.extBut) (.str [c] _) (.str (.inr rfl) hit' hr')
 | @tup a o k i items vs r hta htc htd rr hr b=>
  have ht:s.heap.IsTuple a items.toArray:=⟨o,R.frozen _ _ hta,htc,k,htd⟩
  induction r using List.casesOn with
  |nil=>
   have hv:items.toArray[i]? =none:=by
    exists Fc;exact EG.mpr (rr.length▸FK.mp hr)
   exact bD (wpAny_pyNext_tuple_end hh b ht hv λh' he'=>λhz=>hfin hn.symm _ (ex p0 hz he'))
  |cons v r=>
   have hv:vs[i]? =some v:=by
    have q:=Ds (·[0]?) hr
    simpa[List.getElem?_drop]using q
   have hr':vs.drop (i+1)=r:=by(refine bt FU ?_;exists hr);rfl
   refine ai (rr.get hv) λv' hv' rv=>?_
   exact wpAny_pyNext_tuple_item b ht (by(exists Fc);exact hv') λh' hit' hs'=>hone _ _ hn.symm _ _ (ex p0 (DK hs'.1.symm) hs'.extBut) rv (.tup hta htc htd rr hr' hit')
 | @rng cur hi st left o e1 e2 e3 e4=>
  have item:0<left->nx=.one (.int cur) (.rng (cur+st) hi st)->wpAny (model C.prog C.w) A (pyNext (.ref I)) Q E s:=λhl hx=>
   lB e1 e2 e3 hl λh' o' g1 g2 g3 hs'=>hone _ _ hx _ _ (ex (DC _) (DK hs'.1.symm) hs'.extBut) (.int cur _) (.rng g1 g2 g3 (e4.imp (λq=>⟨q.1,by rw[q.1];exact xe hl q.2⟩) λq=>⟨q.1,by rw[q.1];exact xf hl q.2⟩))
  have fin:left<=0->nx=.fin->wpAny (model C.prog C.w) A (pyNext (.ref I)) Q E s:=λhl hx=>
   bD (nh hh e1 e2 e3 hl λh' he'=>λhz=>hfin hx _ (ex p0 hz he'))
  unfold aP at hn
  dsimp only at hn
  rcases e4 with⟨rfl,q2⟩|⟨rfl,q2⟩
  ·rw[if_pos (by decide)]at hn
   split at hn
   ·exact item (by rw[q2];exact rS (by assumption)) hn.symm
   ·exact fin (by rw[q2];exact GX (jD (by assumption))) hn.symm
  ·rw[if_neg (by decide)]at hn
   split at hn
   ·exact item (by rw[q2];exact rS (by assumption)) hn.symm
   ·exact fin (by rw[q2];exact GX (jD (by assumption))) hn.symm
theorem oP{x:V}{x':Value}{it:It}(R:Rel C X C1 s)(rx:VRel X x x')(hm:fF x C1=some it){Q:Value->Shared->Prop}{E:Value->Shared->Prop}
 (h:∀X' s' I,Ext C aq X s.heap X' C1 s'->X'.tag I=some .priv->X.tag I=none->s.heap.objs.size<=I->ItRel X' s'.heap I it->Q (.ref I) s'):wpAny (model C.prog C.w) A (pyIter x') Q E s:=by
 have hf:=R.fresh s.heap.objs.size (Dy _)
 have mk:∀(o:Obj),o.isFreed=false->Ext C aq X s.heap (X.put s.heap.objs.size .priv) C1 {s with heap:=s.heap.push o}:=λo hfr=>
  Ext.hide (tk:=s.toks) R R.toks (λb o e=>Dx _ e) (by rw[DM];exact Ee _) (Dy _) (Dz _ hfr)
 have l:X.le (X.put s.heap.objs.size .priv):=Wd.put_le hf
 induction rx using VRel.casesOn with
 |ref n a hn=>
  unfold fF at hm
  dsimp only at hm
  split at hm
  ·rename_i xs hx
   cases hm
   refine aD (R.list hx hn) λvs k g rr=>?_
   refine wpAny_pyIter_list (aI g) ?_
   exact h _ _ _ (mk _ rfl) Wd.put_self hf (Dy _) (.lst (l.at_ _ _ hn) ⟨_,Dz _ rfl,rfl,rfl⟩)
  ·exact bq hm
 |str y t=>
  cases hm
  cases ha:(⟨y.toArray⟩:Str).cps.all (·<128)with
  |true=>exact wpAny_pyIter_ascii ha (h _ _ _ (mk _ rfl) Wd.put_self hf (Dy _) (.str (.inl rfl) ⟨_,Dz _ rfl,rfl,rfl⟩ rfl))
  |false=>exact wpAny_pyIter_wide ha (h _ _ _ (mk _ rfl) Wd.put_self hf (Dy _) (.str (.inr rfl) ⟨_,Dz _ rfl,rfl,rfl⟩ rfl))
 | @tup vs items a o k hta htc htd rr=>
  cases hm
  refine wpAny_pyIter_tuple ⟨o,R.frozen _ _ hta,htc,k,htd⟩ ?_
  exact h _ _ _ (mk _ rfl) Wd.put_self hf (Dy _) (.tup (l.tag _ _ hta) htc htd (rr.mono l) rfl ⟨_,Dz _ rfl,rfl,rfl⟩)
 | @rng lo hi st a t u v hta hs1 hs2 hst=>
  unfold fF at hm
  dsimp only at hm
  split at hm
  ·rename_i ht
   cases hm
   replace ht:=and2 ht
   have t1:lo.natAbs<=2000000000000000000:=DF ht.1
   have t2:hi.natAbs<=2000000000000000000:=DF ht.2
   have hsz:Builtin.Range.rangeSize lo hi st=(if st=1 then max 0 (hi-lo)else max 0 (lo-hi)):=by
    unfold Builtin.Range.rangeSize
    rcases hst with rfl|rfl
    ·exists(if_pos (by decide)),(if_pos rfl);split;·rw[Int.ediv_one,GO];exact(lL (Eh (FX (by assumption)))).symm
     ·exact(jD (by assumption)).symm
    ·simp only[show¬((-1:Int)>0)from by decide,show¬((-1:Int)=1)from by decide,if_false,show(-(-1:Int))=1 from by decide];split
     ·rw[Int.ediv_one,GO];exact(lL (Eh (FX (by assumption)))).symm
     ·exact(jD (by assumption)).symm
   have hsmall:Builtin.Range.small lo hi st=true:=by
    unfold Builtin.Range.small Builtin.Range.rangeFitsLong
    exists hsz
    rcases hst with rfl|rfl
    ·simp only[if_true,Bool.and_eq_true,Bool.or_eq_true,decide_eq_true_eq,beq_iff_eq]
     refine⟨⟨⟨⟨?_,?_⟩,?_⟩,?_⟩,.inr ?_⟩<;>(try(exists(if_pos (by decide))))<;>(try simp only[Bool.and_eq_true,decide_eq_true_eq])<;>first|exact Bd t1|exact Bd t2|exact Bd (by decide)|exact zn t2 t1|exact⟨(ao [hi] [(.le (.g (.n 2000000000000000000)) (.v 0),1)] (.le (.g (.n 9223372036854775808)) (.a (.v 0) (.s (.n 1) (.n 1)))) 1 rfl (jB t2)),(ao [hi] [(.le (.v 0) (.n 2000000000000000000),1)] (.lt (.a (.v 0) (.s (.n 1) (.n 1))) (.n 9223372036854775808)) 1 rfl (mz t2))⟩
    ·simp only[Bool.and_eq_true,Bool.or_eq_true,decide_eq_true_eq,beq_iff_eq]
     exists(if_neg (by decide))
     refine⟨⟨⟨⟨?_,?_⟩,?_⟩,?_⟩,.inr ?_⟩<;>(try(exists(if_neg (by decide))))<;>(try simp only[Bool.and_eq_true,decide_eq_true_eq])<;>first|exact Bd t1|exact Bd t2|exact Bd (by decide)|exact zn t1 t2|exact⟨(ao [hi] [(.le (.g (.n 2000000000000000000)) (.v 0),1)] (.le (.g (.n 9223372036854775808)) (.a (.v 0) (.a (.g (.n 1)) (.n 1)))) 1 rfl (jB t2)),(ao [hi] [(.le (.v 0) (.n 2000000000000000000),1)] (.lt (.a (.v 0) (.a (.g (.n 1)) (.n 1))) (.n 9223372036854775808)) 1 rfl (mz t2))⟩
   refine wpAny_pyIter_range (R.frozen _ _ hta) hsmall ?_
   refine h _ _ _ (mk _ rfl) Wd.put_self hf (Dy _) (.rng (Dz _ rfl) rfl rfl ?_)
   exists hsz
   rcases hst with rfl|rfl
   ·exact .inl ⟨rfl,rfl⟩
   ·exact .inr ⟨rfl,rfl⟩
  ·exact bq hm
 |_=>exact bq hm
end
section
variable{prog:Program}{w:World}{A:Around}{R:Result->Shared->Prop}{s:Shared}{CT:PySem.Env}
theorem vt{target:Expr}{it:Value}{body:List Stmt}
 (h:wpAny (model prog w) A (pyNext it) (λr s1=>match r with
  |none=>R (.ok .next) s1
  |some v=>wpAny (model prog w) A (assign target CT v) (λ_ s2=>wpAny (model prog w) A (execs body CT) (λf s3=>match f with
   |.next|.cont=>codeAny (model prog w) A (.forLoop target it body [] CT) R s3
   |.brk=>R (.ok .next) s3
   |.ret v=>R (.ok (.ret v)) s3) (notedBy (model prog w) A CT λe s'=>R (.error e) s') s2) (notedBy (model prog w) A CT λe s'=>R (.error e) s') s1) (notedBy (model prog w) A CT λe s'=>R (.error e) s') s)
 (ht:∀v,letOwnedTupleGo target it v=pure ()):codeAny (model prog w) A (.forLoop target it body [] CT) R s:=by
 refine GI ?_
 show wpAny _ A ((forTurn target it body [] CT).onRaise (λx=>do noteFrame x CT;theTreesLotGoes x)) _ _ s
 refine wpAny_noted ?_
 simp only[forTurn]
 refine Dn (Ek (Dn (wpAny_onRaise (EO h (λr s1 h1=>?_) λ_ _ h'=>Ek h'))))
 induction r using Option.casesOn with
 |none=>exact Dv ⟨rfl,codeAny_block (GH h1)⟩
 |some v=>
  refine Dn (HK (ht v) ?_)
  refine Dn (EO h1 (λ_ s2 h2=>Dn (EO h2 (λf s3 h3=>?_) λ_ _ h'=>h')) λ_ _ h'=>h')
  cases f with
  |next=>exact Dv ⟨rfl,h3⟩
  |cont=>exact Dv ⟨rfl,h3⟩
  |brk=>exact Dv h3
  |ret v=>exact Dv h3
theorem qG{test:Expr}{body:List Stmt}
 (h:wpAny (model prog w) A (isTrue test CT (eval test CT)) (λb s2=>
  if b then wpAny (model prog w) A (execs body CT) (λf s3=>match f with
   |.next|.cont=>codeAny (model prog w) A (.whileLoop test body [] CT) R s3
   |.brk=>R (.ok .next) s3
   |.ret v=>R (.ok (.ret v)) s3) (notedBy (model prog w) A CT λe s'=>R (.error e) s') s2
  else R (.ok .next) s2)
  (notedBy (model prog w) A CT λe s'=>R (.error e) s') s):codeAny (model prog w) A (.whileLoop test body [] CT) R s:=by
 refine GI ?_
 show wpAny _ A ((whileTurn test body [] CT).onRaise (λx=>do noteFrame x CT;theTreesLotGoes x)) _ _ s
 refine wpAny_noted ?_
 simp only[whileTurn]
 refine Dn (EO h (λb s2 h2=>?_) λ_ _ h'=>h')
 induction b using Bool.casesOn with
 |false=>
  simp only[Bool.false_eq_true,if_false]at h2⊢
  exact Dn (GH (Dv h2))
 |true=>
  simp only[if_true]at h2⊢
  refine Dn (EO h2 (λf s3 h3=>?_) λ_ _ h'=>h')
  cases f with
  |next=>exact Dv ⟨rfl,h3⟩
  |cont=>exact Dv ⟨rfl,h3⟩
  |brk=>exact Dv h3
  |ret v=>exact Dv h3
end
section
variable{C:Cx}{r:Rec}{A:Around}{d:Dp}{X X1:Wd}{C1 mh1:Hp}{s s1:Shared}{C3:Scope}{C2:List (Option Str)}{CT:Env}{CS:PySem.Env}{n:Nat}{st:Stmt}
theorem Ext.drop{own own':fA}{h:Heap}(a:Ext C own X h X1 mh1 s1)(l:∀x,own x->own' x\/X.tag x≠some .priv):Ext C own' X h X1 mh1 s1:=
 ⟨a.le,a.rel,λx o ht hn e=>a.priv x o ht (λq=>(l x q).elim hn λz=>z ht) e,a.size⟩
theorem ERel.ext'{own:fA}(e:ERel X s.heap C3 C2 CT CS)(x:Ext C own X s.heap X1 mh1 s1)(h1:¬own CS.locals)(h2:∀y c,CS.cells.lookup y=some c->¬own c):ERel X1 s1.heap C3 C2 CT CS where
 hsc:=e.hsc
 hkind:=e.hkind
 hglob:=e.hglob
 hblt:=e.hblt
 htag:=x.le.tag _ _ e.htag
 hns:=by
  refine ai e.hns λm hn hs=>?_
  refine⟨m,jZ hn λo ho=>x.priv _ o e.htag h1 ho,λi y v h1 h3=>?_⟩
  refine ai (hs i y v h1 h3) λv' r q=>?_
  refine⟨v',r.mono x.le,q.imp id λz=>gK z λk c hc hcell=>⟨k,c,hc,fh hcell λo ho=>x.priv _ o (e.hcells _ _ hc).1 (h2 _ _ hc) ho⟩⟩
 hinj:=e.hinj
 hcells:=λy c hc=>by
  refine eJ (e.hcells y c hc) λt n v hcell=>?_
  exact⟨x.le.tag _ _ t,n,v,fh hcell λo ho=>x.priv _ o t (h2 _ _ hc) ho⟩
 hapart:=e.hapart
 hcell:=e.hcell
theorem St.extI{I:Addr}{CW:PySem.Env}(S:St C A d X C1 s C3 C2 CT CS CW)(x:Ext C (λa=>a=I) X s.heap X1 mh1 s1)(h:¬ownOf CS I)(hf:∀e∈A.frames.getD [],e.frame≠some I):St C A d X1 mh1 s1 C3 C2 CT CS CW:=
 ⟨S.F.ext x λL hL=>by subst hL;exact⟨{cls:=.none,data:=.plain},#[],0,.inr hf⟩,x.rel,S.V.ext' x (λq=>h (.inl q.symm)) λy c hc q=>h (.inr ⟨y,q▸hc⟩)⟩
theorem ObL.noted{own:fA}{rr:RS}{Rr:Result->Shared->Prop}(o:ObL C X s.heap C3 C2 CS own rr Rr){m:Nat}{C4:Env}{C7:Hp}(e:rr=.exc m C4 C7){X':Wd}{s':Shared}{a:Addr}(S:St C A d X' C7 s' C3 C2 C4 CS CS)
 (x:Ext C own X s.heap X' C7 s')(ha:X'.at_ m=some a)(he:fy C7 m):notedBy (model C.prog C.w) A CS (λe s'=>Rr (.error e) s') (.ref a) s':=
 fV S.F S.R ha he λX2 s2 x2 ht=>o.exc m C4 C7 e X2 s2 a (x.trans (x2.own λ_ q=>q.elim)) (x2.le.at_ _ _ ha) he (S.V.ext x2) ht
theorem ObL.from{own:fA}{rr:RS}{h:Heap}{Rr:Result->Shared->Prop}(o:ObL C X h C3 C2 CS own rr Rr)(x:Ext C own X h X1 mh1 s1):ObL C X1 s1.heap C3 C2 CS own rr Rr:=
 ⟨λfl C4 C7 q X' s' w' x'=>o.ok fl C4 C7 q X' s' w' (x.trans x'),λn C4 C7 q X' s' a x'=>o.exc n C4 C7 q X' s' a (x.trans x'),o.no⟩
theorem ObL.absurd{own:fA}{P:Prop}{h:Heap}{Rr:Result->Shared->Prop}(o:ObL C X h C3 C2 CS own .no Rr):P:=(o.no rfl).elim
theorem xX(H:GoodS C r){x:Str}{px:Pos}{CY:Nat}{it:It}{I:Addr}{sts:List Stmt}{ms:List S}{Rr:Result->Shared->Prop}
 (S:St C A d X C1 s C3 C2 CT CS CS)(hd:d.2=none)(hs:bO C3 C2 CY x=true)(ck:dY (eS n C3 C2) sts ms=true)(hI:X.tag I=some .priv)(hIo:¬ownOf CS I)(hIf:∀e∈A.frames.getD [],e.frame≠some I)
 (hit:ItRel X s.heap I it)(o:ObL C X s.heap C3 C2 CS (iT CS I) (sS r d CT C1 CY it ms) Rr):codeAny (model C.prog C.w) A (.forLoop (.Name x px) (.ref I) sts [] CS) Rr s:=by
 have hlp:sS r d CT C1 CY it ms=(match aP C1 it with
  |.no=>.no
  |.fin=>.ok .next CT C1
  |.one v it'=>match r.exs d (CT.set CY (some v)) C1 ms with
   |.ok .next CT h=>r.lp d CT h CY it' ms
   |.ok .cont CT h=>r.lp d CT h CY it' ms
   |.ok (.ret v) CT h=>.ok (.ret v) CT h
   |.exc n CT h=>.exc n CT h
   |.no=>.no):=rfl
 rw[hlp]at o
 have iw:∀{X':Wd}{s':Shared}{C7:Hp}{h:Heap}{X0:Wd},Ext C (λa=>a=I) X0 h X' C7 s'->Ext C (iT CS I) X0 h X' C7 s':=λx=>x.own λ_ q=>.inr q
 have ow:∀{X':Wd}{s':Shared}{C7:Hp}{h:Heap}{X0:Wd},Ext C (ownOf CS) X0 h X' C7 s'->Ext C (iT CS I) X0 h X' C7 s':=λx=>x.own λ_ q=>.inl q
 refine vt ?_ λ_=>rfl
 refine oO (S.F.hnone hd) S.R hI hit rfl (λq=>by rw[q]at o;exact o.absurd) (λq s' x'=>?_) (λv it' q s1 v' x1 rv hit1=>?_)
 ·rw[q]at o
  exact o.ok _ _ _ rfl X s' .next (iw x') .next ((S.extI x' hIo hIf).V)
 ·rw[q]at o
  dsimp only at o
  have S1:=S.extI x1 hIo hIf
  refine Gq (db S1 hs rv λs2 x2 V2=>?_)
  have S2:=S1.extS x2 V2
  have x12:=(iw x1).trans (ow x2)
  refine H.exs S2 ck _ _ ⟨λfl C4 C7 e X' s' fl' y f V=>?_,λk C4 C7 e X' s' a y ha he V=>?_,λz=>?_⟩
  ·rw[e]at o
   have go:ObL C X s.heap C3 C2 CS (iT CS I) (r.lp d C4 C7 CY it' ms) Rr->codeAny (model C.prog C.w) A (.forLoop (.Name x px) (.ref I) sts [] CS) Rr s':=λo'=>by
    exact H.lp (S2.extS y V) hd hs ck (y.le.tag _ _ hI) hIo hIf ((hit1.keep (Wd.le.refl X) λob hob=>x2.priv I ob hI hIo hob).keep y.le λob hob=>y.priv I ob hI hIo hob) (o'.from (x12.trans (ow y)))
   cases f with
   |next=>exact go o
   |cont=>exact go o
   |ret rv=>exact o.ok _ _ _ rfl X' s' (.ret _) (x12.trans (ow y)) (.ret rv) V
  ·rw[e]at o
   exact o.noted rfl (S2.extS y V) (x12.trans (ow y)) ha he
  ·rw[z]at o;exact o.absurd
theorem xY(G:GoodE C r)(H:GoodS C r){t:Expr}{tm:E}{sts:List Stmt}{ms:List S}{Rr:Result->Shared->Prop}
 (S:St C A d X C1 s C3 C2 CT CS CS)(ck1:az n C3 C2 t tm=true)(ck:dY (eS n C3 C2) sts ms=true)
 (o:ObL C X s.heap C3 C2 CS (ownOf CS) (Cf r d CT C1 tm ms) Rr):codeAny (model C.prog C.w) A (.whileLoop t sts [] CS) Rr s:=by
 have key:Cf r d CT C1 tm ms=((r.ev d CT C1 tm).bind tr).De CT λc h=>match c with
  |true=>(match r.exs d CT h ms with
   |.ok .next CT h=>r.wl d CT h tm ms
   |.ok .cont CT h=>r.wl d CT h tm ms
   |.ok (.ret v) CT h=>.ok (.ret v) CT h
   |.exc n CT h=>.exc n CT h
   |.no=>.no)
  |false=>.ok .next CT h:=by
  show(r.ev d CT C1 tm).De CT _=_
  cases r.ev d CT C1 tm with
  |no=>rfl
  |exc k h=>rfl
  |ok x h=>
   show(match aO x h with|some true=>_|some false=>_|none=>RS.no)=(tr x h).De CT _
   cases ht:aO x h with
   |none=>(exists(jg ht));rfl
   |some c=>(exists(hW ht));cases c<;>rfl
 rw[key]at o
 refine qG ?_
 refine G.evT S ck1 _ _ ⟨λc mh1 e X1 s1 c' x1 r1=>?_,λk mh1 e X1 s1 a x1 ha he=>?_,λz=>?_⟩
 ·rw[e]at o
  replace r1:c=c':=r1
  subst r1
  have S1:=S.ext x1
  cases c
  ·exact o.ok _ _ _ rfl X1 s1 .next x1.weak .next S1.V
  ·show wpAny _ _ (execs sts CS) _ _ s1
   dsimp only[R.De]at o
   refine H.exs S1 ck _ _ ⟨λfl C4 C7 e X' s' fl' x f V=>?_,λk C4 C7 e X' s' a x ha he V=>?_,λz=>?_⟩
   ·rw[e]at o
    cases f with
    |next=>exact H.wl (S1.extS x V) ck1 ck (o.from (x1.weak.trans x))
    |cont=>exact H.wl (S1.extS x V) ck1 ck (o.from (x1.weak.trans x))
    |ret rv=>exact o.ok _ _ _ rfl X' s' (.ret _) (x1.weak.trans x) (.ret rv) V
   ·rw[e]at o
    exact o.noted rfl (S1.extS x V) (x1.weak.trans x) ha he
   ·rw[z]at o;exact o.absurd
 ·rw[e]at o
  exact o.noted rfl (S.ext x1) x1.weak ha he
 ·rw[z]at o;exact o.absurd
theorem ki{own:fA}{E:Value->Shared->Prop}{m:Nat}{a:Addr}(R:Rel C X C1 s)(ha:X.at_ m=some a)(he:fy C1 m)(ht:r8 s.heap a)
 (h:∀X' s',Ext C aq X s.heap X' C1 s'->E (.ref a) s'):cameBackBy (model C.prog C.w) A CS E (.ref a) s:=by
 refine du ht λo vs T g1 g2 g3=>?_;clear ht
 unfold cameBackBy
 refine Dn (EE g1 g2 g3 ?_)
 rw[if_neg (by simp)]
 exact da R ha he h
theorem As{t:E}{body:List S}(H:GoodS C r)(S:St C A d X C1 s C3 C2 CT CS CS)(ck:eS (n+1) C3 C2 st (.whl t body)=true):eO C A X s C3 C2 CS (ci C.P r d CT C1 (.whl t body)) (exec st CS):=λQ E o=>by
 refine mS st (show mR _ st=true from ck) ?_;clear ck;intro t' b' oe p ck
 induction oe using List.casesOn with
 |cons=>exact aC ck
 |nil=>
  replace ck:(az n C3 C2 t' t&&dY (eS n C3 C2) b' body)=true:=ck
  replace ck:=and2 ck
  obtain⟨d,k⟩:=d
  induction d using Nat.casesOn with
  |zero=>exact o.absurd
  |succ d=>
   replace o:ObS C X s.heap C3 C2 CS (r.wl (d,k) CT C1 t body) Q E:=o
   refine wpAny_While ?_
   have S':St C A (d,k) X C1 s C3 C2 CT CS CS:=⟨⟨S.F.frames,Be S.F.depth,Be S.F.units,S.F.hnone,S.F.hsome⟩,S.R,S.V⟩
   refine H.wl S' ck.1 ck.2 ⟨λfl C4 C7 e X' s' fl' x f V=>o.ok _ _ _ e X' s' fl' x f V,λm C4 C7 e X' s' a x ha he V ht=>?_,o.no⟩
   refine ki (own:=aq) x.rel ha he ht λX2 s2 x2=>?_
   exact o.exc _ _ _ e X2 s2 a (x.trans x2.weak) (x2.le.at_ _ _ ha) he (V.ext x2)
theorem tH{it:Expr}{CS:PySem.Env}(h:cC it=false)(x:Value):foldedSetIterable it CS x=pure x:=by induction it using Expr.casesOn<;>first|rfl|exact aC h.symm
theorem Au{CY:Nat}{iter:E}{body:List S}(G:GoodE C r)(H:GoodS C r)(S:St C A d X C1 s C3 C2 CT CS CS)(ck:eS (n+1) C3 C2 st (.for CY iter body)=true):eO C A X s C3 C2 CS (ci C.P r d CT C1 (.for CY iter body)) (exec st CS):=λQ E o=>by
 refine pY st (show uP _ st=true from ck) ?_;clear ck;intro tg it' b' oe p ck
 refine aQ tg (show bg _ tg=true from ck) ?_;clear ck;intro x px ck
 induction oe using List.casesOn with
 |cons=>exact aC ck
 |nil=>
  replace ck:(bO C3 C2 CY x&& !cC it'&&az n C3 C2 it' iter&&dY (eS n C3 C2) b' body)=true:=ck
  refine zF ck λc1 c2 c3 c4=>?_;clear ck;(try simp only[Bool.not_eq_true']at c1 c2 c3 c4)
  obtain⟨d,k⟩:=d
  induction d using Nat.casesOn with
  |zero=>exact o.absurd
  |succ d=>induction k using Option.casesOn with
   |some k=>exact o.absurd
   |none=>
    replace o:ObS C X s.heap C3 C2 CS ((r.ev (d+1,none) CT C1 iter).De CT λx h=>match fF x h with|some it=>r.lp (d,none) CT h CY it body|none=>.no) Q E:=o
    refine wpAny_For ?_ (tH c2)
    refine(G.ev S c3).thenS S o λv mh1 e1 X1 s1 v1 x1 r1 o1=>?_
    split at o1
    ·rename_i it hit
     have S1:=S.ext x1
     refine oP x1.rel r1 hit λX2 s2 I x2 tI nI sI hI=>?_
     have S2:=S1.ext x2
     have S':St C A (d,none) X2 mh1 s2 C3 C2 CT CS CS:=⟨⟨S2.F.frames,by have:=S2.F.depth;dsimp only at this⊢;lia,by have:=S2.F.units;dsimp only at this⊢;lia,S2.F.hnone,S2.F.hsome⟩,S2.R,S2.V⟩
     have nown:¬ownOf CS I:=λq=>by
      rcases q with rfl|⟨y,hy⟩
      ·rw[S1.V.htag]at nI;exact zO nI
      ·rw[(S1.V.hcells y I hy).1]at nI;exact zO nI
     have nfr:∀e∈A.frames.getD [],e.frame≠some I:=λe he q=>by
      refine ai S1.F.frames λouter f1 f2=>?_
      rw[f1]at he
      refine gJ (f2 e he) λ_ L _ _ _ q1 q2 _=>?_
      rw[q]at q1;cases q1
      rw[q2]at nI;exact zO nI
     have dr:∀{X':Wd}{s':Shared}{C7:Hp},Ext C (iT CS I) X2 s2.heap X' C7 s'->Ext C (ownOf CS) X1 s1.heap X' C7 s':=λx=>
      ((x2.own λ_ q=>q.elim).trans x).drop λy hy=>hy.imp id λq=>by subst q;(exists nI);intro q;exact bq q
     refine H.lp S' rfl c1 c4 tI nown nfr hI ⟨λfl C4 C7 e X' s' fl' x f V=>o1.ok _ _ _ e X' s' fl' (dr x) f V,λm C4 C7 e X' s' a x ha he V ht=>?_,o1.no⟩
     refine ki (own:=aq) x.rel ha he ht λX3 s3 x3=>?_
     exact o1.exc _ _ _ e X3 s3 a ((dr x).trans x3.weak) (x3.le.at_ _ _ ha) he (V.ext x3)
    ·exact o1.absurd
end
theorem gD{α:Type}{p:α->Bool}:∀(l:List α)(i:Nat),(∀e,l[i]? =some e->p e=false)->(l.eraseIdx i).find? p=l.find? p
 |[],_,_=>rfl
 |a::l,0,h=>by(exists List.eraseIdx_cons_zero,(EP (by rw[h a rfl];exact Do));rfl)
 |a::l,i+1,h=>by
  exists List.eraseIdx_cons_succ
  have ih:=gD l i (λe he=>h e (by simpa using he))
  cases hp:p a with
  |true=>(exists(Gn hp),(Gn hp);rfl)
  |false=>(exists(EP (by rw[hp];exact Do)),(EP (by rw[hp];exact Do)),ih;rfl)
section
variable{M:Model}{A:Around}{E:Value->Shared->Prop}{s:Shared}{CT:PySem.Env}
theorem qH{a:Addr}{m:Str->Option Value}{name:Str}{Q:Bool->Shared->Prop}(hn:s.heap.Ns a m)
 (hQ:∀h' m',h'.Ns a m'->(∀y,y≠name->m' y=m y)->Heap.SameBut a s.heap h'->Q (m name).isSome {s with heap:=h'}):wpAny M A (nsDel a name) Q E s:=by
 refine iH (id hn) λo es ep ho hd hk hm=>?_
 have hany:es.any (·.refKey)=false:=by
  exists(propext Array.any_eq_false');intro e he;refine bE (hk e he) λn t h=>?_;simp[DictEntry.refKey,h]
 have hsome:(m name).isSome=es.any (·.key.isStr name):=by
  refine bt (hm name) ?_;simp only[nsFind,findBy,Option.isSome_map]
  exists(propext EX);simp only[Array.find?_isSome,Array.any_eq_true]
  constructor
  ·rintro⟨x,hx,hp⟩;obtain⟨i,hi,rfl⟩:=Array.mem_iff_getElem.mp hx;exact⟨i,hi,hp⟩
  ·rintro⟨i,hi,hp⟩;exact⟨_,Array.getElem_mem hi,hp⟩
 have hhas:nsHas name o=pure (es.any (·.key.isStr name)):=by
  exists nsHas_eq;unfold nsHasByArray;(exists hd)
  show(if(es.any λx=>x.key.isStr name)=true then _ else _)=_
  generalize(es.any λx=>x.key.isStr name)=b
  cases b<;>simp[hany]
 unfold nsDel
 refine Dn (Fk ho ?_)
 exists hhas
 refine Dn (Dv ?_)
 refine bt hsome ?_
 cases hmn:(m name).isSome
 ·have:=hQ s.heap m hn (λ_ _=>rfl) (.refl ..)
  rw[hmn]at this
  exact Dv this
 ·refine Dn (Gy ho (Dv ?_))
  have key:∃m',(s.heap.update a (Obj.dropName name)).Ns a m'/\∀y,y≠name->m' y=m y:=by
   obtain⟨cl,d,dt,sl⟩:=o
   subst hd
   cases hi:es.findIdx? (·.key.isStr name)with
   |some i=>
    refine⟨_,⟨_,_,ep+1,DP _ ho (by simp only[Obj.dropName_eq,Obj.dropNameByArray,hi]<;>rfl),(by simp only[Obj.dropName_eq,Obj.dropNameByArray,hi]<;>rfl),hk.erase i,λ_=>rfl⟩,λy hy=>?_⟩
    refine bt (hm y) ?_
    unfold nsFind findBy
    congr 1
    have hi':i<es.size:=by
     (replace hi:=GP.mp hi);exact hi.1
    rw[Array.eraseIdxIfInBounds,dif_pos hi',<-Array.find?_toList,<-Array.find?_toList,Array.toList_eraseIdx]
    refine gD _ _ λe he=>?_
    (replace hi:=GP.mp hi)
    have he':e=es[i]:=by
     rw[Array.getElem?_toList,Fj hi']at he
     exact(D1 he).symm
    have h1:es[i].key.isStr name=true:=hi.2.1
    refine bE (hk es[i] (Array.getElem_mem hi')) λk t hkk=>?_
    exists he',hkk
    rw[hkk]at h1
    replace h1:(k==name)=true:=h1
    show(k==y)=false
    (replace h1:=DQ.mp h1)
    exists h1
    exact Ef.mpr (Eb hy)
   |none=>exact⟨m,⟨_,_,ep,DP _ ho (by simp only[Obj.dropName_eq,Obj.dropNameByArray,hi]<;>rfl),(by simp only[Obj.dropName_eq,Obj.dropNameByArray,hi]<;>rfl),hk,hm⟩,λ_ _=>rfl⟩
  refine ai key λm' hm' hy=>?_;clear key
  have:=hQ _ m' hm' hy (ET ..)
  rw[hmn]at this
  exact this
theorem lC{n:Str}{pos:Pos}{m:Str->Option Value}{Q:Unit->Shared->Prop}(hl:CT.kindOf n=some .local)(hn:s.heap.Ns CT.locals m)
 (hp:(CT.scope.kind==.class||(CT.scope.kind==.module&&CT.locals !=CT.globals))=false)
 (h:∀h' m',h'.Ns CT.locals m'->(∀y,y≠n->m' y=m y)->Heap.SameBut CT.locals s.heap h'->Q () {s with heap:=h',toks:=s.toks+1}):
 wpAny M A (do bindName CT n .none;unbindBehindTheSuite CT n pos) Q E s:=by
 refine Dn (wpAny_bindName (GN hl hn (λh₁ hn1 hs1=>?_) hp))
 unfold unbindBehindTheSuite
 refine wpAny_onRaise ?_
 unfold unbindName
 refine Dn (wpAny_point (Dn ?_))
 unfold deleteName
 simp only[hl,hp]
 rw[if_neg (by decide)]
 refine Dn (qH hn1 λh2 m2 hn2 hy2 hs2=>?_)
 simp only[if_true,Option.isSome_some,Bool.not_true,Bool.false_eq_true,if_false]
 exact Dv (wpAny_point (h h2 m2 hn2 (λy hy=>(hy2 y hy).trans (if_neg hy)) (hs1.trans hs2)))
end
section
variable{C:Cx}{r:Rec}{A:Around}{d:Dp}{X X1:Wd}{C1 mh1:Hp}{s s1:Shared}{C3:Scope}{C2:List (Option Str)}{CT:Env}{CS:PySem.Env}{n:Nat}{st:Stmt}
theorem oQ{i:Nat}{is:List Nat}{v:V}{vs:List V}:fH (i::is) (v::vs) CT=fH is vs (CT.set i (some v)):=rfl
theorem ig{Q:Unit->Shared->Prop}{E:Value->Shared->Prop}:∀(ts:List Expr)(is:List Nat)(vs:List V)(xs:List Value)(CT:Env)(s:Shared),St C A d X C1 s C3 C2 CT CS CS->cZ C3 C2 ts is=true->VRels X vs xs->vs.length=is.length->
 (∀s',Ext C (ownOf CS) X s.heap X C1 s'->ERel X s'.heap C3 C2 (fH is vs CT) CS->Q () s')->wpAny (model C.prog C.w) A (assignInOrder ((assignEach ts CS).map (·.2)) xs) Q E s
 |[],[],vs,xs,CT,s,S,_,r,hl,h=>by
  induction vs using List.casesOn with
  |nil=>cases r;exact Dv (h s (Ext.refl S.R) S.V)
  |cons=>cases hl
 |[],_::_,_,_,_,_,_,ck,_,_,_=>by exact aC ck
 |t::ts,[],vs,xs,CT,s,S,ck,_,_,_=>by exact aC ck
 |t::ts,i::is,vs,xs,CT,s,S,ck,r,hl,h=>by
  refine aQ t (show bg _ t=true from ck) ?_;clear ck;intro x p ck
  replace ck:(bO C3 C2 i x&&cZ C3 C2 ts is)=true:=ck
  replace ck:=and2 ck
  induction vs using List.casesOn with
  |nil=>cases hl
  |cons v vs=>cases r with
   |cons r1 r2=>
    show wpAny _ _ (assignInOrder (assign (.Name x p) CS::(assignEach ts CS).map (·.2)) _) Q E s
    refine Dn (DT (Gq (db S ck.1 r1 λs' x' V'=>?_)))
    exact ig ts is vs _ _ s' (S.extS x' V') ck.2 r2 (by simpa using hl) λs'' x'' V''=>h s'' (x'.trans x'') (by(exists oQ);exact V'')
theorem gE:∀{ts:List Expr}{is:List Nat},cZ C3 C2 ts is=true->(assignEach ts CS).findIdx? (·.1)=none/\(assignEach ts CS).length=ts.length
 |[],_,_=>⟨rfl,rfl⟩
 |t::ts,[],h=>by induction t using Expr.casesOn<;>exact aC h
 |t::ts,i::is,h=>by
  induction t using Expr.casesOn with
  |Name x p=>
   replace h:(bO C3 C2 i x&&cZ C3 C2 ts is)=true:=h
   replace h:=and2 h
   refine aA (gE (ts:=ts) h.2) λa b=>?_
   refine⟨?_,by show _+1=_+1;(exists b;rfl)⟩
   show List.findIdx? _ ((false,assign (.Name x p) CS)::assignEach ts CS)=none
   exists GK
   simp[a]
  |_=>exact aC h
theorem tJ{is:List Nat}{e:E}(G:GoodE C r)(S:St C A d X C1 s C3 C2 CT CS CS)(ck:eS (n+1) C3 C2 st (.unpack is e)=true):eO C A X s C3 C2 CS (ci C.P r d CT C1 (.unpack is e)) (exec st CS):=λQ E o=>by
 refine cw st (show cu _ st=true from ck) ?_;clear ck;intro tgs v p ck
 refine cN tgs (show one _ tgs=true from ck) ?_;clear ck;intro t0 ck
 refine hF t0 (show g8 _ t0=true from ck) ?_;clear ck;intro ts k tp ck
 replace ck:(cZ C3 C2 ts is&&gr v&&mO v&&az n C3 C2 v e&&is.length==ts.length)=true:=ck
 refine xh ck λc1 c2 c3 c4 c5=>?_;clear ck;(try simp only[beq_iff_eq]at c1 c2 c3 c4 c5)
 replace o:ObS C X s.heap C3 C2 CS (if d.2.isSome then .no else(r.ev d CT C1 e).De CT λv h=>match v with|.tup vs=>if vs.length==is.length then .ok .next (fH is vs CT) h else .no|_=>.no) Q E:=o
 cases hd:d.2 with
 |some m=>rw[hd]at o;exact o.absurd
 |none=>
  rw[hd]at o
  replace o:ObS C X s.heap C3 C2 CS ((r.ev d CT C1 e).De CT λv h=>match v with|.tup vs=>if vs.length==is.length then .ok .next (fH is vs CT) h else .no|_=>.no) Q E:=o
  refine Assign_Tuple ?_ (hs:=(ie c2:swapsWith v (some (.Tuple ts k tp)) p.line CS=pure false)) (hw:=by induction v using Expr.casesOn<;>first|rfl|exact aC c3)
  refine(G.ev S c4).thenS S o λw mh1 e₁ X1 s1 v1 x1 r₁ o1=>?_
  have S1:=S.ext x1
  induction r₁ using VRel.casesOn with
  | @tup vs items a ob kk hta htc htd rr=>
   dsimp only at o1
   split at o1
   ·rename_i hl
    have hl:vs.length=is.length:=by simpa using hl
    refine aA (gE (CS:=CS) c1) λt1 t2=>?_
    show wpAny _ _ (do standAt tp;unpack (.ref a) (assignEach ts CS)) _ _ _
    refine Dn (Ek ?_)
    unfold unpack
    exists t1,t2
    have hsz:ts.length=items.toArray.size:=by(exists DV;refine bt rr.length ?_;exists hl,c5;rfl)
    exists hsz
    refine Dn (DT (bD (unpackItems_tuple (S.F.hnone hd) ⟨ob,x1.rel.frozen _ _ hta,htc,kk,htd⟩ λh' he=>λhz=>?_)))
    have x2:=Ext.grown (own:=aq) (C:=C) (X:=X1) (C1:=mh1) x1.rel (h':=h') (tk:=s1.toks) x1.rel.toks (λb ob e=>he b ob (Et (EU e)) e) hz
    have S2:=S1.ext x2
    refine ig ts is vs items CT _ S2 c1 rr hl λs' x' V'=>?_
    exact o1.ok _ _ _ rfl X1 s' .next (x2.weak.trans x') .next V'
   ·exact o1.absurd
  |_=>exact o1.absurd
theorem lD:entryFor table "proto.unchain"=some Builtin.«proto.unchain»:=entryFor_of_tree (by kernel_rfl)
theorem vw{e:E}(M:CxMore C)(G:GoodE C r)(S:St C A d X C1 s C3 C2 CT CS CS)(ck:eS (n+1) C3 C2 st (.raise e)=true):eO C A X s C3 C2 CS (ci C.P r d CT C1 (.raise e)) (exec st CS):=λQ E o=>by
 refine mU st (show mT _ st=true from ck) ?_;clear ck;intro ex ca p ck
 induction ex using Option.casesOn with
 |none=>exact aC ck
 |some v=>induction ca using Option.casesOn with
  |some=>exact aC ck
  |none=>
   rw[arm_exec_Raise]
   refine Dn (Ek ?_)
   show wpAny _ _ (raiseStmt CS (some (do let v<-eval v CS;standAt p;pure v)) none) Q E s
   unfold raiseStmt
   refine Dn (Dn ?_)
   refine(G.ev S (show az n C3 C2 v e=true from ck)).thenS S o λw mh1 e₁ X1 s1 v1 x1 r₁ o1=>?_
   refine Dn (Ek (Dv ?_))
   have S1:=S.ext x1
   induction r₁ using VRel.casesOn with
   |ref k a hk=>
    dsimp only at o1
    split at o1
    ·rename_i c ctx fs hx
     have he:fy mh1 k:=⟨c,ctx,fs,hx⟩
     refine aW (eN S1.R hk he) λc' ctx' fs' Ca dd vs hm g0 g1 g2 g3 g4 g5=>?_
     rw[hx]at hm;cases hm
     have O:=M.cls _ _ g1
     rw[g0]at O
     refine ai (HB (O.overX rfl)) λcd hcd hmro=>?_
     have XK:C.K.In s1.heap:=M.ok.kin.keeps S1.R.keep
     have L0:Looks (model C.prog C.w) s1.heap (typeOf (.ref a)) (.ref Ca):=(Looks.ld g3).andThen .now
     have L1:Looks (model C.prog C.w) s1.heap (isInstance (.ref a) (.type "BaseException")) true:=L0.andThen (looks_mroIn XK (qz hcd hmro (.inr (.inl rfl))))
     have L2:Looks (model C.prog C.w) s1.heap (isType (.ref a)) false:=(Looks.ld g3).andThen .now
     have L3:Looks (model C.prog C.w) s1.heap (typeOf (.ref Ca)) (.type "type"):=looks_typeIn XK O.mt
     refine Dn (Dv (Dn (DT ?_)))
     unfold excFromValue isExcClass
     refine Dn (Dn (L2.here ?_))
     exists(if_neg Do)
     refine Dv ?_
     exists(if_neg Do)
     refine Dn (L1.here ?_)
     exists(if_pos rfl)
     refine Dv ?_
     refine Dn (L2.here ?_)
     exists(if_neg Do)
     unfold raisedInstance
     refine Dn (Dn (L0.here (Dn (L3.here ?_))))
     exists(if_pos (DO _))
     refine Dv ?_
     refine Dn (da S1.R hk he λX2 s2 x₂=>?_)
     have S2:=S1.ext x₂
     have hk2:=x₂.le.at_ _ _ hk
     split at o1
     ·rename_i hd
      refine wpAny_raiseNew_none (S.F.hnone hd) ?_
      exact o1.exc _ _ _ rfl X2 s2 a x₂.weak hk2 he S2.V
     ·rename_i m hd
      split at o1
      ·rename_i cm fm hxm
       split at o1
       ·exact o1.absurd
       ·rename_i hne
        have hne:m≠k:=by simpa using hne
        refine ai (S2.F.hsome m hd) λb hb hat=>?_
        refine aW (eN S2.R hat ⟨cm,false,fm,hxm⟩) λcm' ctxm fsm Cm ddm vsm hmm m0 m1 m2 m3 h'4 m5=>?_;refine cJ h'4 λy1 y2 y3=>?_;clear h'4
        rw[hxm]at hmm;cases hmm
        refine aW (eN S2.R hk2 he) λc' ctx' fs' Ca' dd' vs' hm' g0' g1' g2' g3' h'5 g5'=>?_;refine cJ h'5 λz1 z2 z3=>?_;clear h'5
        rw[hx]at hm';cases hm'
        have hab:b≠a:=λq=>by subst q;rw[m2]at g2';cases g2';exact hne rfl
        unfold raiseNew
        refine Dn (wpAny_handled ?_)
        exists hb
        dsimp only
        exists(if_pos (by simpa using hab))
        refine Dn (DT (wpAny_runValue (codeAny_builtin lD ?_)))
        unfold Builtin.«proto.unchain»
        refine Dn (EE m3 rfl (y3 rfl) ?_)
        exists(if_pos (DO _))
        refine Dv ?_
        refine Dn ?_
        show wpAny _ _ (setField (.ref a) 2 (.ref b)) _ _ _
        refine Fo g3' rfl (by exact Dt.mp (ao [vs'.size] [(.eq (.v 0) (.n 6),-1)] (.lt (.n 2) (.v 0)) 1 rfl (Ds Int.ofNat z1))) (wpAny_throw ?_)
        have hn:k<mh1.length:=(Dr.mp hx).1
        have oth:∀b',b'≠a->(s2.heap.update a (Obj.mapFields (·.setIfInBounds 2 (.ref b)))).get? b'=s2.heap.get? b':=λb' hb'=>Ed _ _ (Eb hb')
        have self:=DP (Obj.mapFields (·.setIfInBounds 2 (Value.ref b))) g3' rfl
        have RR:=S2.R.turn (s':={s2 with heap:=s2.heap.update a (Obj.mapFields (·.setIfInBounds 2 (.ref b)))}) (o':=.exc c true fs) (.refl X2) hn (λb' ob t hb' ht1 ht2 _ eb=>(oth b' (λq=>ht1 (by subst q;exact D1 (hb'.symm.trans g2')))).trans eb)
         (λb' hb'=>S2.R.fresh b' (by rw[DL]at hb';exact hb')) (λ_ _ e=>.inl e) (λb' hb'=>by
          rw[hk2]at hb';cases hb'
          refine⟨g0',Ca',dd',vs'.setIfInBounds 2 (.ref b),g1',self,⟨by(exists Fm);exact z1,?_,λq=>by cases q⟩,?_⟩
          ·rcases z2 with z2|⟨T',oT',ts',w1,w2,w3,w4,w5⟩
           ·exact .inl (by(exists(El (by decide)));exact z2)
           ·exact .inr ⟨T',oT',ts',by(exists(El (by decide)));exact w1,w2,(oth T' (λq=>by subst q;rw[g2']at w2;cases w2)).trans w3,w4,w5⟩
          ·induction dd' using Option.casesOn with
           |none=>exact g5'
           |some dx=>
            refine e9 g5' λt1 es kk t2 t3=>?_;clear g5'
            exact⟨t1,es,kk,(oth dx (λq=>by subst q;rw[g2']at t1;cases t1)).trans t2,t3⟩) (λ_ _ e=>e) rfl rfl S2.R.toks
        have ex:Ext C aq X2 s2.heap X2 (mh1.set k (.exc c true fs)) {s2 with heap:=s2.heap.update a (Obj.mapFields (·.setIfInBounds 2 (.ref b)))}:=
         ⟨.refl X2,RR,λb' ob hb' _ eb=>⟨ob.slots,(oth b' (λq=>by subst q;rw[g2']at hb';cases hb')).trans eb⟩,DK (DL ..).symm⟩
        exact o1.exc _ _ _ rfl X2 _ a (x₂.trans ex).weak hk2 ⟨c,true,fs,by(exists(DG hn);rfl)⟩ (S2.V.ext ex)
      ·exact o1.absurd
    ·exact o1.absurd
   |_=>exact o1.absurd
theorem oR{i:Nat}{x:Str}{pos:Pos}{Q:Unit->Shared->Prop}{E:Value->Shared->Prop}(S:St C A d X C1 s C3 C2 CT CS CS)(hs:bO C3 C2 i x=true)(hk:aJ C3 x .local=true)
 (h:∀s',Ext C (ownOf CS) X s.heap X C1 s'->ERel X s'.heap C3 C2 (CT.set i none) CS->(∀b,b≠CS.locals->s'.heap.get? b=s.heap.get? b)->Q () s'):
 wpAny (model C.prog C.w) A (do bindName CS x .none;unbindBehindTheSuite CS x pos) Q E s:=by
 refine cJ (nc hs) λh1 h2 h3=>?_
 have V:=S.V
 refine ai V.hns λm hn hsl=>?_
 have hl:CS.kindOf x=some .local:=by unfold PySem.Env.kindOf;(exists V.hsc);unfold aJ at hk;exact D2 hk
 refine lC hl hn (by(exists V.hsc,V.hkind);rfl) λh' m' hn' hy hs'=>?_
 have kk:∀b o,b≠CS.locals->s.heap.get? b=some o->h'.get? b=some o:=λb o hb e=>(hs'.2 b hb).trans e
 refine h _ (Ext.priv1 S.R V.htag (.inl rfl) (DC _) kk (DK hs'.1.symm)) ?_ (λb hb=>hs'.2 b hb)
 refine⟨V.hsc,V.hkind,V.hglob,V.hblt,V.htag,⟨m',hn',λj y w q1 q2=>?_⟩,V.hinj,λy c hc=>?_,V.hapart,V.hcell⟩
 ·by_cases q:j=i
  ·subst q
   rw[Ga]at q2
   simp only[if_true]at q2
   split at q2<;>cases q2
  ·rw[DB (Eb q)]at q2
   refine ai (hsl j y w q1 q2) λw' q5 q6=>?_
   refine⟨w',q5,q6.imp (λz=>aA z λk1 k2=>⟨k1,?_⟩) λz=>gK z λk1 c k2 k3=>⟨k1,c,k2,k3.sameBut hs' (V.hcells y c k2).2.1⟩⟩
   exact(hy y (λz=>q (V.hinj j i x (by(refine bt z ?_);exact q1) h1))).trans k2
 ·refine eJ (V.hcells y c hc) λt hne w hw=>?_
  exact⟨t,hne,w,hw.sameBut hs' hne⟩
theorem Av{body:List S}{c CY:Nat}{handler:List S}(M:CxMore C)(hcls:∀c x,gY[c]? =some x->∃Ca,C.cls c=some Ca/\C.mg x=some (.ref Ca)) (H:GoodS C r) (S:St C A d X C1 s C3 C2 CT CS CS)
 (ck:eS (n+1) C3 C2 st (.try body c CY handler)=true):eO C A X s C3 C2 CS (ci C.P r d CT C1 (.try body c CY handler)) (exec st CS):=λQ E o=>by
 refine pZ st (show uQ _ st=true from ck) ?_;clear ck;intro b' hs oe fi p ck
 refine cN hs (show one _ hs=true from ck) ?_;clear ck;intro h0 ck
 refine uT h0 (show Cg _ h0=true from ck) ?_;clear ck;intro t y hb hp ck
 refine aQ t (show bg _ t=true from ck) ?_;clear ck;intro x xp ck
 refine aA (DW.mp ck) λck0 ck=>?_
 refine aA (DW.mp ck) λck1 ck=>?_
 obtain rfl:oe=[]:=G9.mp ck0
 obtain rfl:fi=[]:=G9.mp ck1
 replace ck:(gY[c]? ==some x&&cU C3 x&&bO C3 C2 CY y&&aJ C3 y .local&&dY (eS n C3 C2) b' body&&dY (eS n C3 C2) hb handler&& !hb.isEmpty)=true:=ck
 refine Bp ck λc1 c2 c3 c4 c5 c6 c7=>?_;clear ck;(try simp only[beq_iff_eq,Bool.not_eq_true']at c1 c2 c3 c4 c5 c6 c7)
 obtain⟨d,k⟩:=d
 induction d using Nat.casesOn with
 |zero=>exact o.absurd
 |succ d=>
  replace o:ObS C X s.heap C3 C2 CS (match r.exs (d,k) CT C1 body with
   |.ok fl CT h=>.ok fl CT h
   |.no=>.no
   |.exc n CT h=>match h[n]? with
    |some (.exc c' _ _)=>if c'==c then match r.exs (d,some n) (CT.set CY (some (.ref n))) h handler with
     |.ok fl CT h=>.ok fl (CT.set CY none) h
     |.exc n CT h=>.exc n (CT.set CY none) h
     |.no=>.no
     else .no
    |_=>.no) Q E:=o
  have S':St C A (d,k) X C1 s C3 C2 CT CS CS:=⟨⟨S.F.frames,Be S.F.depth,Be S.F.units,S.F.hnone,S.F.hsome⟩,S.R,S.V⟩
  refine wpAny_Try_except (H.exs S' c5 _ _ ⟨λfl C4 C7 e X' s' fl' x f V=>?_,λk' C4 C7 e X1 s1 a x1 ha he V1=>?_,λz=>?_⟩)
  ·rw[e]at o
   cases f with
   |next=>exact GH (o.ok _ _ _ rfl X' s' .next x .next V)
   |cont=>exact o.ok _ _ _ rfl X' s' .cont x .cont V
   |ret rv=>exact o.ok _ _ _ rfl X' s' (.ret _) x (.ret rv) V
  ·rw[e]at o
   dsimp only at o
   have S1:=S'.extS x1 V1
   refine fV S1.F S1.R ha he λX2 s2 x₂ _=>?_
   have S2:=S1.ext x₂
   refine da S2.R (x₂.le.at_ _ _ ha) he λX3 s3 x3=>?_
   have S3:=S2.ext x3
   have ha3:=x3.le.at_ _ _ (x₂.le.at_ _ _ ha)
   have x13:Ext C (ownOf CS) X s.heap X3 C7 s3:=x1.trans (x₂.trans x3).weak
   refine iG he λce ctx fs hm=>?_;clear he
   rw[hm]at o
   dsimp only at o
   split at o
   ·rename_i hcc
    have hcc:ce=c:=by simpa using hcc
    subst hcc
    refine ai (hcls ce x c1) λCa hCa hmg=>?_
    refine aW (eN S3.R ha3 ⟨ce,ctx,fs,hm⟩) λce' ctx' fs' Ca' dd vs hm' g0 g1 g2 g3 g4 g5=>?_
    rw[hm]at hm';cases hm'
    rw[hCa]at g1;cases g1
    have O:=M.cls _ _ hCa
    rw[g0]at O
    have XK:C.K.In s3.heap:=M.ok.kin.keeps S3.R.keep
    have L0:Looks (model C.prog C.w) s3.heap (typeOf (.ref a)) (.ref Ca):=(Looks.ld g3).andThen .now
    have Lm:=exm_one (M:=model C.prog C.w) XK L0 (O.exm rfl)
    have FH:FOk C (A.mark (some (.ref a))) (d,some k') X3 s3.heap CS:=⟨S3.F.frames,S3.F.depth,S3.F.units,(λq=>by cases q),λm hm=>by cases hm;exact⟨a,rfl,ha3⟩⟩
    have SH:St C (A.mark (some (.ref a))) (d,some k') X3 C7 s3 C3 C2 C4 CS CS:=⟨FH,S3.R,S3.V⟩
    refine wpAny_handleBy_cons (codeAny_handlers_test (dy M.ok SH.R SH.V c2 hmg (Lm.here ?_))) (by intro q;cases q)
    dsimp only
    rw[if_pos rfl]
    dsimp only
    induction hb using List.casesOn with
    |nil=>cases c7
    |cons b0 hb=>
    refine codeAny_handlers_suite_as ?_
    refine da SH.R ha3 ⟨ce,ctx,fs,hm⟩ λX4 s4 x4=>?_
    have S4:=SH.ext x4
    refine db S4 c3 (.ref k' a (x4.le.at_ _ _ ha3)) λs5 x5 V5=>?_
    have S5:=S4.extS x5 V5
    have x15:=x13.trans (x4.weak.trans x5)
    refine H.exs S5 c6 _ _ ⟨λfl env6 mh6 e6 X6 s6 fl' x6 f V6=>?_,λk6 env6 mh6 e6 X6 s6 a6 x6 ha6 he6 V6=>?_,λz=>?_⟩
    ·rw[e6]at o
     have S6:=S5.extS x6 V6
     dsimp only
     have S6':St C A (d,k) X6 mh6 s6 C3 C2 env6 CS CS:=⟨⟨S6.F.frames,S6.F.depth,S6.F.units,S.F.hnone,λm hm=>by refine ai (S.F.hsome m hm) λz1 z2 z3=>?_;exact⟨z1,z2,(x15.trans x6).le.at_ _ _ z3⟩⟩,S6.R,S6.V⟩
     refine oR S6' c3 c4 λs7 x7 V7 _=>?_
     exact o.ok _ _ _ rfl X6 s7 fl' ((x15.trans x6).trans x7) f V7
    ·rw[e6]at o
     have S6:=S5.extS x6 V6
     refine fV S6.F S6.R ha6 he6 λX7 s7 x7 ht=>?_
     have S7:=S6.ext x7
     have ha7:=x7.le.at_ _ _ ha6
     refine oR S7 c3 c4 λs8 x8 V8 hk8=>?_
     have S8:=S7.extS x8 V8
     refine du ht λob vs' T t1 t2 t3=>?_;clear ht
     have hL6:a6≠CS.locals:=λq=>by
      refine kR (eN S7.R ha7 he6) λ_ _ _ _ _ _ _ _ _ w _=>?_
      rw[q,S7.V.htag]at w;cases w
     have t8:s8.heap.get? a6=some ob:=(hk8 a6 hL6).trans t1
     unfold PySem.passOn
     refine Dn (EE t8 t2 t3 ?_)
     exists(if_neg (by simp))
     refine Dn (da S8.R ha7 he6 λX9 s9 x9=>wpAny_throw ?_)
     have S9:=S8.ext x9
     have ha9:=x9.le.at_ _ _ ha7
     refine fV S9.F S9.R ha9 he6 λX10 s10 x10 ht10=>?_
     dsimp only
     refine ki (own:=aq) x10.rel (x10.le.at_ _ _ ha9) he6 ht10 λX11 s11 x11=>?_
     have tail:=x9.trans (x10.trans x11)
     exact o.exc _ _ _ rfl X11 s11 a6 ((x15.trans x6).trans ((x7.weak.trans x8).trans tail.weak)) (x11.le.at_ _ _ (x10.le.at_ _ _ ha9)) he6 (S8.V.ext tail)
    ·rw[z]at o;exact o.absurd
   ·exact o.absurd
  ·rw[z]at o;exact o.absurd
end
noncomputable def oS(p:Arguments):Bool:=p.posonlyargs.isEmpty&&p.kwonlyargs.isEmpty&&p.vararg.isNone&&p.kwarg.isNone
noncomputable def Cr(f:Nat)(fn:Fn)(fd:FuncData):Bool:=match funNames[f]?,fd.body with
 |some (q,slots),.stmts body=>
  !fd.scope.isCoroutine&& !fd.scope.isGenerator&&fd.scope.kind==.function&&fd.closure.isEmpty&&fd.globals==mainGlobals&&fd.builtins==builtinsNs&&
  oS fd.params&&fd.defaults==.none&&fd.kwdefaults==.none&&
  dY (eS 60 fd.scope (eL slots)) body fn.body&&(eL slots).length==fn.nslots&&(fd.params.args.map (·.arg)).map some==(eL slots).take fn.nargs&&Nat.ble fn.nargs fn.nslots&&
  decide ((eL slots).filterMap id).Nodup&&(fd.params.args.map (·.arg)).all (λx=>fd.scope.names.lookup x==some .local||fd.scope.names.lookup x==some .cell)
 |_,_=>false
noncomputable def Ct(f:ClassData->Bool)(d:Data):Bool:=@Data.casesOn (λ_=>Bool) d false cI ax ax av ax cI cI f cI false
noncomputable def ii(K:Frag)(C:Addr):Bool:=(K.lookup C).any λo=>o.cls==.type "type"&&o.slots.toList.length==6&&o.slots.toList[4]? ==some (some (.builtin "Exception.__new__"))&&
 Ct (λcd=>!cd.hasDel&&cd.mro.head? ==some (.ref C)&&bR cd.mro.tail) o.data
structure CxCall (C:Cx):Prop where
 more:CxMore C
 prg:C.P=prog
 fn:∀f fa,C.fns f=some fa->∃fn oc od osl fd,C.P.funs[f]? =some fn/\C.K.lookup fa=some ⟨oc,od,.func fd,osl⟩/\codeIn C.K fd.code fd.qualname=true/\Cr f fn fd=true
 glob:∀f x,lu[f]? =some x->gZ x=true->∃fa,C.fns f=some fa/\C.mg x=some (.ref fa)
 keepF:∀f fa,C.fns f=some fa->keepIn C.K (.ref fa)=true
 clss:∀c x,gY[c]? =some x->∃Ca,C.cls c=some Ca/\C.mg x=some (.ref Ca)
 keepC:∀c Ca,C.cls c=some Ca->keepIn C.K (.ref Ca)=true
 init:∀c Ca f,C.P.inits[c]? =some f->C.cls c=some Ca->∃fa,C.fns f=some fa/\findIn C.K (.ref Ca) "__init__"=some (some (.ref fa))/\typeIn C.K (.ref fa)=some (.type "function")/\
  specialIn C.K (.ref Ca) "__getattribute__"=some (some (.builtin "type.__getattribute__"))/\readsIn C.K Ca (.type "type")=true/\findCls C.K (.ref Ca) (.type "type") "__init__"=some (.val (.ref fa))
 make:∀c Ca,C.cls c=some Ca->(C.P.excs[c]?).getD false=false->makesIn C.K Ca=true
 makeX:∀c Ca,C.cls c=some Ca->(C.P.excs[c]?).getD false=true->ii C.K Ca=true/\specialIn C.K (.ref Ca) "__call__"=some (some (.builtin "type.__call__"))/\instIn C.K (.ref Ca) (.type "type")=some true
 excN:C.mg (Str.ofString "Exception")=none
 next:∀c Ca f,C.cls c=some Ca->gY[c]? =some (Str.ofString "Random")->lu[f]? =some (Str.ofString "Random.next")->∃fa,C.fns f=some fa/\findIn C.K (.ref Ca) fw=some (some (.ref fa))/\typeIn C.K (.ref fa)=some (.type "function")
theorem lF{α:Type}{l:List (Option α)}(h:(l.filterMap id).Nodup):∀(i j:Nat)(x:α),l[i]? =some (some x)->l[j]? =some (some x)->i=j:=by
 induction l with
 |nil=>intro i j x hi;simp at hi
 |cons a l ih=>
  have key:∀(k:Nat)(x:α),l[k]? =some (some x)->x∈l.filterMap id:=λk x hk=>List.mem_filterMap.mpr ⟨some x,DR hk,rfl⟩
  induction a using Option.casesOn with
  |none=>
   rw[show((none:Option α)::l).filterMap id=l.filterMap id from rfl]at h
   intro i j x hi hj
   induction i using Nat.casesOn with
   |zero=>simp at hi
   |succ i=>induction j using Nat.casesOn with
    |zero=>simp at hj
    |succ j=>(exists(ih h i j x (by simpa using hi) (by simpa using hj));rfl)
  |some y=>
   rw[show(some y::l).filterMap id=y::l.filterMap id from rfl,Gr]at h
   intro i j x hi hj
   induction i using Nat.casesOn with
   |zero=>induction j using Nat.casesOn with
    |zero=>rfl
    |succ j=>
     simp at hi;subst hi
     exact absurd (key j _ (by simpa using hj)) h.1
   |succ i=>induction j using Nat.casesOn with
    |zero=>
     simp at hj;subst hj
     exact absurd (key i _ (by simpa using hi)) h.1
    |succ j=>(exists(ih h.2 i j x (by simpa using hi) (by simpa using hj));rfl)
theorem jl{k:Str->Option NameKind}{x:Str}:∀{binds:List (Str×Value)}{m:Str->Option Value},x∉binds.map (·.1)->bindL k binds m x=m x
 |[],_,_=>rfl
 |(n,v)::r,m,h=>by
  have h1:x≠n:=λq=>h (by(exists q);exact DU ..)
  have h2:x∉r.map (·.1):=λq=>h (DN _ q)
  unfold bindL
  exists(jl h2)
  split
  ·exact if_neg h1
  ·rfl
theorem jm{k:Str->Option NameKind}{x:Str}:∀{binds:List (Str×Value)}{m:Str->Option Value},x∉binds.map (·.1)->bindC k binds m x=m x
 |[],_,_=>rfl
 |(n,v)::r,m,h=>by
  have h1:x≠n:=λq=>h (by(exists q);exact DU ..)
  have h2:x∉r.map (·.1):=λq=>h (DN _ q)
  unfold bindC
  rw[jm h2]
  split
  ·rfl
  ·exact if_neg h1
theorem iU{k:Str->Option NameKind}{x:Str}{v:Value}(hk:k x=some .local):∀{binds:List (Str×Value)}{m:Str->Option Value},(binds.map (·.1)).Nodup->(x,v)∈binds->bindL k binds m x=some v
 |[],_,_,h=>by cases h
 |(n,w)::r,m,hn,h=>by
  rw[E0,Gr]at hn
  unfold bindL
  rcases Eo.mp h with h|h
  ·cases h
   rw[jl hn.1,if_pos hk];exact if_pos rfl
  ·exact iU hk hn.2 h
theorem iV{k:Str->Option NameKind}{x:Str}{v:Value}(hk:k x≠some .local):∀{binds:List (Str×Value)}{m:Str->Option Value},(binds.map (·.1)).Nodup->(x,v)∈binds->bindC k binds m x=some v
 |[],_,_,h=>by cases h
 |(n,w)::r,m,hn,h=>by
  rw[E0,Gr]at hn
  unfold bindC
  rcases Eo.mp h with h|h
  ·cases h
   exists(jm hn.1),(if_neg hk);exact if_pos rfl
  ·exact iV hk hn.2 h
theorem eo{l:List (Str×Addr)}{x:Str}{a:Addr}(h:(x,a)∈l):(l.lookup x).isSome=true:=by
 induction l with
 |nil=>cases h
 |cons p l ih=>
  exists EJ
  split
  ·rfl
  ·rename_i q
   rcases Eo.mp h with h|h
   ·subst h;simp at q
   ·exact ih h
theorem dp{x:Str}:∀{names:List (Str×NameKind)}{n:Nat}{acc:List (Str×Addr)},((x,NameKind.cell)∈names\/∃a,(x,a)∈acc)->∃a,(x,a)∈cellsFrom n names acc
 |[],n,acc,h=>by
  rcases h with h|h
  ·cases h
  ·exact h
 |(y,k)::r,n,acc,h=>by
  unfold cellsFrom
  split
  ·rename_i hk
   refine dp ?_
   rcases h with h|⟨a,h⟩
   ·rcases Eo.mp h with h|h
    ·cases h;exact .inr ⟨n,DU ..⟩
    ·exact .inl h
   ·exact .inr ⟨a,DN _ h⟩
  ·rename_i hk
   refine dp ?_
   rcases h with h|h
   ·rcases Eo.mp h with h|h
    ·cases h;exact absurd rfl hk
    ·exact .inl h
   ·exact .inr h
theorem dc{β:Type}{l:List (Str×β)}{x:Str}{b:β}(h:l.lookup x=some b):(x,b)∈l:=mem_of_lookup h
theorem kj:∀{names:List Str}{C0:List Value},names.Nodup->∀x∈names.zip C0,(names.zip C0).lookup x.1=some x.2
 |[],_,_,x,h=>by cases h
 |n::ns,[],_,x,h=>by cases h
 |n::ns,v::vs,hn,x,h=>by
  (replace hn:=Gr.mp hn)
  rw[FV]at h⊢
  rcases Eo.mp h with h|h
  ·subst h;rw[EJ,DO]
  ·have hx:x.1∈ns:=(List.of_mem_zip (a:=x.1) (b:=x.2) h).1
   have ne:(x.1==n)=false:=Ef.mpr λq=>hn.1 (q▸hx)
   exists EJ,ne
   exact kj hn.2 x h
theorem gF{L:List (Str×Value)}:∀{names:List Str}{C0:List Value},C0.length=names.length->(∀x∈names.zip C0,L.lookup x.1=some x.2)->
 names.filterMap (λn=>(L.lookup n).map (n,·))=names.zip C0/\names.filter (λn=>(L.lookup n).isNone)=[]
 |[],C0,_,_=>⟨rfl,rfl⟩
 |n::ns,[],hl,_=>by cases hl
 |n::ns,v::vs,hl,h=>by
  have h0:=h (n,v) (by(exists FV);exact DU ..)
  refine aA (gF (L:=L) (names:=ns) (C0:=vs) (by simpa using hl) λx hx=>h x (by(exists FV);exact DN _ hx)) λa b=>?_
  dsimp only at h0
  constructor
  ·rw[List.filterMap_cons,h0,Hm,a,FV]
  ·exists List.filter_cons,h0,(if_neg (by simp)),b;rfl
theorem qI{fd:FuncData}{C0:List Value}(hp:oS fd.params=true)(hd:fd.defaults=.none)(hk:fd.kwdefaults=.none)(hl:C0.length=(fd.params.args.map (·.arg)).length)(hn:(fd.params.args.map (·.arg)).Nodup):
 bindArgs fd ⟨C0,[]⟩=pure ((fd.params.args.map (·.arg)).zip C0):=by
 refine zF hp λh1 h2 h3 h4=>?_;clear hp
 obtain⟨name,qualname,⟨po,ar,va,ko,kd,kw,df⟩,body,scope,defaults,kwd,closure,globals,builtins⟩:=fd
 induction po using List.casesOn with
 |cons=>exact aC h1
 |nil=>induction ko using List.casesOn with
  |cons=>exact aC h2
  |nil=>induction va using Option.casesOn with
   |some=>exact aC h3
   |none=>induction kw using Option.casesOn with
    |some=>exact aC h4
    |none=>
     dsimp only at hd hk hl hn
     subst hd hk
     refine aA (gF (L:=(ar.map (·.arg)).zip C0) hl (kj hn)) λe1 e2=>?_
     have D:List.drop (0-(ar.map (·.arg)).length) ([]:List Value)=[]:=List.drop_nil
     refine(if_neg (c:=(decide (C0.length>(ar.map (·.arg)).length)&&true)=true) (by rw[hl];simp)).trans ((if_neg (c:=(!(((ar.map (·.arg)).take ((ar.map (·.arg)).length-(List.drop (0-(ar.map (·.arg)).length) ([]:List Value)).length)).filter (λn=>(((ar.map (·.arg)).zip C0).lookup n).isNone)).isEmpty)=true) ?_).trans
      ((Ds (λl=>Bind.bind (forIn l _ _) _) (?_:List.zip (List.drop ((ar.map (·.arg)).length-(List.drop (0-(ar.map (·.arg)).length) ([]:List Value)).length) (ar.map (·.arg))) (List.drop (0-(ar.map (·.arg)).length) ([]:List Value))=[])).trans ?_))
     ·rw[D];exists(show List.take _ _=ar.map (·.arg)from Ha);rw[e2];exact Do
     ·rw[D];exact List.zip_nil_right
     ·exact Ds (pure:List (Str×Value)->Sem (List (Str×Value))) ((Ds (List.filterMap _) (Hl _)).trans e1)
noncomputable def Wd.privs(X:Wd)(lo hi:Nat):Wd:=⟨λb=>if lo<=b/\b<hi then some .priv else X.tag b,X.at_⟩
theorem Wd.privs_in{X:Wd}{lo hi b:Nat}(h:lo<=b/\b<hi):(X.privs lo hi).tag b=some .priv:=if_pos h
theorem Wd.privs_out{X:Wd}{lo hi b:Nat}(h:¬(lo<=b/\b<hi)):(X.privs lo hi).tag b=X.tag b:=if_neg h
section
variable{C:Cx}{r:Rec}{A:Around}{d:Dp}{X X1:Wd}{C1 mh1:Hp}{s s1:Shared}{C3:Scope}{C2:List (Option Str)}{CT:Env}{CS CW:PySem.Env}{n:Nat}{e:Expr}
theorem Wd.privs_le(R:Rel C X C1 s){lo hi:Nat}(h:s.heap.objs.size<=lo):X.le (X.privs lo hi):=
 ⟨λb t e=>by
  by_cases q:lo<=b/\b<hi
  ·rw[R.fresh b (Dw h q.1)]at e;exact bq e
  ·exists(Wd.privs_out q);exact e,λ_ _ e=>e⟩
theorem Ext.hides(R:Rel C X C1 s){own:fA}{h':Heap}{tk:Nat}(htk:0<tk)(k:∀b o,s.heap.get? b=some o->h'.get? b=some o)(hs:s.heap.objs.size<=h'.objs.size):
 Ext C own X s.heap (X.privs s.heap.objs.size h'.objs.size) C1 {s with heap:=h',toks:=tk}:=by
 have l:=Wd.privs_le (hi:=h'.objs.size) R (Dy _)
 refine⟨l,R.still l (λb ob t _ _ eb=>k b ob eb) (λb hb=>?_) (λb o e=>?_) (λ_ _ e=>e) rfl rfl htk,λb ob _ _ eb=>⟨ob.slots,k b ob eb⟩,hs⟩
 ·replace hb:h'.objs.size<=b:=hb
  exists(Wd.privs_out (λq=>Gb _ (DA q.2 hb)))
  exact R.fresh b (Dw hs hb)
 ·by_cases q:s.heap.objs.size<=b/\b<h'.objs.size
  ·rw[Wd.privs_in q]at e;cases e
  ·rw[Wd.privs_out q]at e;exact .inl e
noncomputable def RS.toR:RS->R V
 |.ok (.ret v) _ h=>.ok v h
 |.ok _ _ h=>.ok .none h
 |.exc n _ h=>.exc n h
 |.no=>.no
theorem vx(K:CxCall C){f:Nat}{fa:Addr}{fn:Fn}{args:List (Option V)}{C0:List Value}{rs:RS}(hO:COk C A (d.1+1,d.2) X s.heap)(R:Rel C X C1 s)(hf:C.fns f=some fa)(hfn:C.P.funs[f]? =some fn)
 (hn:args.length=fn.nargs) (hvl0:args.length=C0.length) (rv:∀(i:Nat)(v:V),args[i]? =some (some v)->∃x,C0[i]? =some x/\VRel X v x) {A':Around} (hA:Near A A')
 (h:∀(q:String)(slots:List String)(fd:FuncData)(body:List Stmt)(C4:PySem.Env)(X0:Wd)(h1:Heap)(tk:Nat),funNames[f]? =some (q,slots)->fd.body=.stmts body->dY (eS 60 fd.scope (eL slots)) body fn.body=true->
  Ext C aq X s.heap X0 C1 {s with heap:=h1,toks:=tk}->St C (A'.deeper C4) d X0 C1 {s with heap:=h1,toks:=tk} fd.scope (eL slots) (args++List.replicate (fn.nslots-fn.nargs) none) C4 C4->
  (∀(i:Nat)(y:Str)(x:Value),i<fn.nargs->(eL slots)[i]? =some (some y)->C0[i]? =some x->
   (C4.kindOf y=some .local/\∃m,h1.Ns C4.locals m/\m y=some x)\/(C4.kindOf y=some .cell/\∃c,C4.cells.lookup y=some c/\h1.IsCell c (some x)))->
  eO C (A'.deeper C4) X0 {s with heap:=h1,toks:=tk} fd.scope (eL slots) C4 rs (execs body C4)):
 CSim C A' X s rs.toR (.call (.ref fa) ⟨C0,[]⟩):=λRr o=>by
 refine fE (K.fn f fa hf) λfn' oc od osl fd hfn' hK hcd hB=>?_
 rw[hfn]at hfn'
 cases hfn'
 have XK:C.K.In s.heap:=K.more.ok.kin.keeps R.keep
 unfold Cr at hB
 split at hB
 ·rename_i q slots body hfnm hbody
  simp only[Bool.and_eq_true,Bool.not_eq_true',beq_iff_eq,decide_eq_true_eq,List.isEmpty_iff,List.all_eq_true,Bool.or_eq_true]at hB
  refine aA hB λh'3 b15=>?_;refine aA h'3 λh'4 b14=>?_;refine aA h'4 λh'5 b13=>?_;refine aA h'5 λh'6 b12=>?_;refine aA h'6 λh'7 b11=>?_;refine aA h'7 λh'8 b10=>?_;refine aA h'8 λh'9 b9=>?_;refine aA h'9 λh'10 b8=>?_;refine aA h'10 λh'11 b7=>?_;refine aA h'11 λh'12 b6=>?_;refine aA h'12 λh'13 b5=>?_;refine aA h'13 λh'14 b4=>?_;refine aA h'14 λh'15 b3=>?_;refine aA h'15 λb1 b2=>?_;clear h'15;clear h'14;clear h'13;clear h'12;clear h'11;clear h'10;clear h'9;clear h'8;clear h'7;clear h'6;clear h'5;clear h'4;clear h'3;clear hB
  have h:=λC4 X0 h1 tk=>h q slots fd body C4 X0 h1 tk hfnm hbody b10
  generalize hnm:eL slots=C2 at b10 b11 b12 b14 h
  have b13:=DF b13
  have hps:(fd.params.args.map (·.arg)).length=fn.nargs:=by
   have:=Ds List.length b12
   rw[DD,Hb,b11,Fb b13]at this
   exact this
  have hvl:C0.length=(fd.params.args.map (·.arg)).length:=by(exists hps;refine bt hvl0 ?_;exists hn;rfl)
  have hnd:(fd.params.args.map (·.arg)).Nodup:=by
   have:((C2.take fn.nargs).filterMap id).Nodup:=b14.sublist (List.Sublist.filterMap id (List.take_sublist _ _))
   rw[<-b12,List.filterMap_map]at this
   simpa using this
  have hinj:=lF b14
  generalize hpn:fd.params.args.map (·.arg)=ps at b12 b15 hps hvl hnd
  have hsub:∀(i:Nat)(x:Str),i<fn.nargs->C2[i]? =some (some x)->ps[i]? =some x:=λi x hi hx=>by
   have:(ps.map some)[i]? =C2[i]? :=by(exists b12,GJ,(if_pos hi);rfl)
   rw[hx,DZ]at this
   cases hp:ps[i]? with
   |none=>rw[hp]at this;exact bq this
   |some y=>rw[hp]at this;cases this;rfl
  refine codeAny_call_function (by exact Dt.mp (ao [A'.depth,d.1,recursionLimit,A.depth] [(.le (.v 0) (.a (.v 3) (.n 1)),1),(.lt (.a (.a (.v 3) (.m 4 (.a (.v 1) (.n 1)))) (.n 4)) (.v 2),1),(.le (.n 0) (.v 1),4)] (.lt (.v 0) (.v 2)) 1 rfl (Dm.mpr hA.depth) (Dt.mpr hO.depth) (Dq _))) (XK _ _ hK) rfl b1 b2 hbody (codeRec_of XK hcd) ?_
  exists(qI b7 b8 b9 (by rw[hpn];exact hvl) (by rw[hpn];exact hnd)),hpn,b4,b5,b6
  refine Dv ?_
  have hkind:∀x∈ps.zip C0,fd.scope.names.lookup x.1=some .local\/(fd.scope.names.lookup x.1=some .cell/\((cellsFrom (s.heap.objs.size+1) fd.scope.names []).lookup x.1).isSome=true):=λx hx=>by
   have hx1:x.1∈ps:=(List.of_mem_zip (a:=x.1) (b:=x.2) hx).1
   rcases b15 x.1 hx1 with h|h
   ·exact .inl h
   ·refine aB (dp (n:=s.heap.objs.size+1) (acc:=[]) (.inl (dc h))) λa ha=>?_
    exact .inr ⟨h,eo ha⟩
  refine bD (bp (wpAny_newFunctionEnv_cells b3 hkind λC4 hev s' x=>λhtk=>λhsz=>?_))
  refine aD x.toInCall.done λh1 tk e'16 hk1=>?_;subst e'16
  replace htk:s.toks<=tk:=htk
  replace hsz:s.heap.objs.size<=h1.objs.size:=hsz
  have x0:=Ext.hides (own:=aq) R (tk:=tk) (DA R.toks htk) hk1 hsz
  refine⟨(K.more.ok.lim.keeps R.keep).keeps hk1,codeAny_func ?_⟩
  generalize hX:X.privs s.heap.objs.size h1.objs.size=X0 at x0
  have hL:C4.locals=s.heap.objs.size:=by(exists hev);rfl
  have tin:∀b,s.heap.objs.size<=b->b<h1.objs.size->X0.tag b=some .priv:=λb q1 q2=>by(refine bt hX ?_);exact Wd.privs_in ⟨q1,q2⟩
  have hLlt:C4.locals<h1.objs.size:=x.toInCall.ns.lt
  have htag:X0.tag C4.locals=some .priv:=tin _ (by(exists hL);exact Dy _) hLlt
  have hcell:∀y c,C4.cells.lookup y=some c->X0.tag c=some .priv/\c≠C4.locals/\∃v,h1.IsCell c v:=λy c hc=>by
   have ic:=x.cell y c hc
   have ab:=x.above y c (dc hc)
   refine⟨tin c (by rw[hL]at ab;exact Gm ab) ic.lt,Eg ab,_,ic⟩
  have hkd:∀y,C4.kindOf y=fd.scope.names.lookup y:=λy=>by(exists hev);rfl
  have hnz:((ps.zip C0).map (·.1)).Nodup:=by(exists(List.map_fst_zip (by exact DK (Eq.symm hvl))));exact hnd
  have hmem:∀(i:Nat)(y:Str)(x:Value),i<fn.nargs->C2[i]? =some (some y)->C0[i]? =some x->(y,x)∈ps.zip C0:=λi y x hi q1 q2=>by
   have:(ps.zip C0)[i]? =some (y,x):=by(exists(propext List.getElem?_zip_eq_some));exact⟨hsub i y hi q1,q2⟩
   exact DR this
  have V:ERel X0 h1 fd.scope C2 (args++List.replicate (fn.nslots-fn.nargs) none) C4:=by
   refine⟨by(exists hev);rfl,b3,by(exists hev);rfl,by(exists hev);rfl,htag,⟨_,x.toInCall.ns,λi y v q1 q2=>?_⟩,hinj,hcell,λy z c q1 q2=>name_of_addr x.apart (dc q1) (dc q2),λi y q1 q2=>?_⟩
   ·have hi:i<args.length:=by
     refine Gf λq=>?_
     rw[FT q]at q2
     obtain⟨_,q3⟩:=Dr.mp q2
     rw[List.getElem_replicate]at q3;exact bq q3
    rw[EV hi]at q2
    refine ai (rv i v q2) λv' hv' r1=>?_
    have hm:=hmem i y v' (by exact DA hi (DK hn)) q1 hv'
    refine⟨v',r1.mono x0.le,?_⟩
    rcases hkind _ hm with hk|⟨hk,hc⟩
    ·exact .inl ⟨(hkd y).trans hk,iU ((hkd y).trans hk) hnz hm⟩
    ·refine aB (D3.mp hc) λc hc=>?_
     have hc':C4.cells.lookup y=some c:=by(exists hev);exact hc
     refine .inr ⟨(hkd y).trans hk,c,hc',?_⟩
     have ic:=x.cell y c hc'
     rwa[iV (by rw[hkd y,hk];intro q;cases q) hnz hm]at ic
   ·unfold aJ at q2
    refine aB (dp (n:=s.heap.objs.size+1) (acc:=[]) (.inl (dc (D2 q2)))) λa ha=>?_
    refine aB (D3.mp (eo ha)) λc hc=>?_
    exact⟨c,by(exists hev);exact hc⟩
  refine ai hO.frames λfr f1 f2=>?_
  have F:FOk C (A'.deeper C4) d X0 h1 C4:=by
   refine⟨⟨fr,Around.frames_deeper (hA.frames.trans f1),λe he=>?_⟩,?_,?_,λq=>hA.handled.trans (hO.hnone q),λm hm=>by refine ai (hO.hsome m hm) λa q1 q2=>?_;exact⟨a,hA.handled.trans q1,x0.le.at_ _ _ q2⟩⟩
   ·rcases Eo.mp he with he|he
    ·exists he
     refine du x.toInCall.ns λob es ep g1 g2 _=>?_
     refine⟨by(exists V.hsc,V.hkind);decide,C4.locals,ob,es,ep,by(exists hev);rfl,htag,g1,g2⟩
    ·refine ed (f2 e he) λk L ob es n q1 q2 q3 q4=>?_
     exact⟨k,L,ob,es,n,q1,x0.le.tag _ _ q2,hk1 _ _ q3,q4⟩
   ·exact Dt.mp (ao [A'.depth,d.1,recursionLimit,A.depth] [(.le (.v 0) (.a (.v 3) (.n 1)),1),(.lt (.a (.a (.v 3) (.m 4 (.a (.v 1) (.n 1)))) (.n 4)) (.v 2),1)] (.lt (.a (.a (.a (.v 0) (.n 1)) (.m 4 (.v 1))) (.n 4)) (.v 2)) 1 rfl (Dm.mpr hA.depth) (Dt.mpr hO.depth))
   ·exact Dt.mp (ao [A'.units,d.1,cLine,A.units] [(.le (.v 0) (.a (.v 3) (.n 9)),1),(.lt (.a (.a (.v 3) (.m 40 (.a (.v 1) (.n 1)))) (.n 40)) (.v 2),1)] (.lt (.a (.a (.a (.v 0) (.n 3)) (.m 40 (.v 1))) (.n 40)) (.v 2)) 1 rfl (Dm.mpr hA.units) (Dt.mpr hO.units))
  have S:St C (A'.deeper C4) d X0 C1 {s with heap:=h1,toks:=tk} fd.scope C2 (args++List.replicate (fn.nslots-fn.nargs) none) C4 C4:=⟨F,x0.rel,V⟩
  have dr:∀{X':Wd}{C7:Hp}{s':Shared},Ext C (ownOf C4) X0 h1 X' C7 s'->Ext C aq X s.heap X' C7 s':=λy=>
   ((x0.own λ_ q=>q.elim).trans y).drop λb hb=>.inr λq=>by
    have lt:=R.lt q
    rcases hb with rfl|⟨y,hy⟩
    ·rw[hL]at lt;exact Gb _ lt
    ·have:=x.above y b (dc hy)
     rw[hL]at this
     exact absurd lt (FD.mpr (Gm this))
  refine h C4 X0 h1 tk x0 S (λi y v hi q1 q2=>by
   have hm:=hmem i y v hi q1 q2
   rcases hkind _ hm with hk|⟨hk,hc⟩
   ·exact .inl ⟨(hkd y).trans hk,_,x.toInCall.ns,iU ((hkd y).trans hk) hnz hm⟩
   ·refine aB (D3.mp hc) λc hc=>?_
    have hc':C4.cells.lookup y=some c:=by(exists hev);exact hc
    refine .inr ⟨(hkd y).trans hk,c,hc',?_⟩
    have ic:=x.cell y c hc'
    rwa[iV (by rw[hkd y,hk];intro q;cases q) hnz hm]at ic) _ _ ⟨λfl ev C7 e X' s' fl' y fr' V'=>?_,λm ev C7 e X' s' a y ha he V'=>?_,λz=>?_⟩
  ·rw[e]at o
   cases fr' with
   |next=>exact o.ok _ _ rfl X' s' .none (dr y) .none
   |cont=>exact o.ok _ _ rfl X' s' .none (dr y) .none
   |ret rv=>exact o.ok _ _ rfl X' s' _ (dr y) rv
  ·rw[e]at o
   have S':=S.extS y V'
   refine oN S'.F S'.R ha he λX2 s2 x2=>?_
   exact o.exc _ _ rfl X2 s2 a ((dr y).trans x2) (x2.le.at_ _ _ ha) he
  ·rw[z]at o;exact(o.no rfl).elim
 ·exact aC hB
theorem xZ(K:CxCall C)(H:GoodS C r){f:Nat}{fa:Addr}{args:List V}{C0:List Value}(hO:COk C A (d.1+1,d.2) X s.heap)(R:Rel C X C1 s)(hf:C.fns f=some fa)(rv:VRels X args C0){A':Around}(hA:Near A A'):
 CSim C A' X s (nY C.P r d C1 f args) (.call (.ref fa) ⟨C0,[]⟩):=λRr o=>by
 refine fE (K.fn f fa hf) λfn oc od osl fd hfn hK hcd hB=>?_
 unfold nY at o
 rw[hfn]at o
 dsimp only at o
 split at o
 ·rename_i hn
  have hn:args.length=fn.nargs:=by simpa using hn
  refine vx K (args:=args.map some) (rs:=r.exs d (args.map some++List.replicate (fn.nslots-fn.nargs) none) C1 fn.body) hO R hf hfn (by rw[DD];exact hn) (by rw[DD];exact rv.length) (λi v e=>?_) hA
   (λq slots fd body C4 X0 h1 tk _ _ ck _ S _=>H.exs S ck) Rr ?_
  ·rw[DZ]at e
   cases z:args[i]? with
   |none=>rw[z]at e;exact bq e
   |some w=>rw[z]at e;cases e;exact rv.get z
  ·cases z:r.exs d (args.map some++List.replicate (fn.nslots-fn.nargs) none) C1 fn.body with
   |ok fl ev h=>rw[z]at o;cases fl<;>exact o
   |exc k ev h=>rw[z]at o;exact o
   |no=>rw[z]at o;exact o
 ·exact o.absurd
end
end
section
set_option maxRecDepth 100000
open PySem PySem.W PySem.Calls PyProof.Rows PySem.SeqAt
section
variable{M:Model}{A:Around}{E:Value->Shared->Prop}{s:Shared}
theorem ni{f:Value}{args:List (Bool×Sem Value)}{Q:Args->Shared->Prop}(hp:args.any (·.1)=false)
 (h:wpAny M A (spliced args) (λvs s'=>Q ⟨vs,[]⟩ s') E s):wpAny M A (evalArgs f true args []) Q E s:=by
 induction args using List.casesOn with
 |nil=>
  unfold evalArgs
  show wpAny M A (spliced []>>=_) Q E s
  refine Dn (EO h (λvs s' h'=>?_) λ_ _ x=>x)
  refine Dn (Dv ?_)
  refine DT ?_
  exact Dn (Dv (Dn (Dv (Dv h'))))
 |cons a rest=>
  obtain⟨b,x⟩:=a
  have hb:b=false:=by
   rw[ER,Bool.or_eq_false_iff]at hp;exact hp.1
  subst hb
  exact evalArgs_plain h
theorem r9{K:Frag}{f:Value}{p:Pos}{first:List Value}{args:List (Bool×Sem Value)}{Q:Value->Shared->Prop}(hp:args.any (·.1)=false)(hk:keepIn K f=true)
 (h:wpAny M A (spliced args) (λvs s1=>K.In s1.heap/\wpAny M A (call f (first++vs)) Q E s1) E s):wpAny M A (callWith p f first args []) Q E s:=
 callWith_of (by rw[hp];rfl) (keeps_K hk) (ni hp h)
end
section
variable{C:Cx}{r:Rec}{A:Around}{d:Dp}{X X1:Wd}{C1 mh1:Hp}{s s1:Shared}{C3:Scope}{C2:List (Option Str)}{CT:Env}{CS CW:PySem.Env}{n:Nat}{e:Expr}
theorem CSim.call{rr:R V}{f:Value}{vs:List Value}(h:CSim C A X s rr (.call f ⟨vs,[]⟩)):Sim C A X s VRel rr (call f vs):=λQ E o=>Gi (h _ o)
theorem eV(G:GoodE C r){f:Nat}{fa:Addr}{args:List V}{C0:List Value}(hO:COk C A d X s.heap)(R:Rel C X C1 s)(hf:C.fns f=some fa)(rv:VRels X args C0){A':Around}(hA:Near A A'):
 CSim C A' X s (jU r d C1 f args) (.call (.ref fa) ⟨C0,[]⟩):=λRr o=>by
 obtain⟨d,k⟩:=d
 induction d using Nat.casesOn with
 |zero=>exact o.absurd
 |succ d=>exact G.fn (d:=(d,k)) hO R hf rv A' hA Rr o
theorem ya{f:Nat}{args:List E}(K:CxCall C)(G:GoodE C r)(S:St C A d X C1 s C3 C2 CT CS CW)(ck:az (n+1) C3 C2 e (.call f args)=true):Sim C A X s VRel (aF C.P r d CT C1 (.call f args)) (eval e CS):=λQ E o=>by
 refine bH e (show bX _ e=true from ck) ?_;clear ck;intro fe as ks p ck
 refine aQ fe (show bg _ fe=true from ck) ?_;clear ck;intro x np ck
 replace ck:(dJ ks&&lu[f]? ==some x&&gZ x&&cU C3 x&&cT (az n C3 C2) as args&&Nat.ble as.length 20)=true:=ck
 refine BZ ck λc1 c2 c3 c4 c5 c6=>?_;clear ck;(try simp only[beq_iff_eq]at c1 c2 c3 c4 c5 c6)
 have hk:ks=[]:=by unfold dJ at c1;simpa using c1
 subst hk
 refine ai (K.glob f x c2 c3) λfa hf hmg=>?_
 refine HF (dy K.more.ok S.R S.V c4 hmg ?_)
 refine r9 (dL c5) (K.keepF f fa hf) ?_
 refine(G.evs (pos:=p) S c5).then o λvs mh1 e1 X1 s1 xs x1 r1 o1=>?_
 refine⟨K.more.ok.kin.keeps x1.rel.keep,?_⟩
 exact(eV G (S.ext x1).F.toC x1.rel hf r1 (Near.refl _)).call Q E o1
theorem oU{k c:Nat}{fs:List (Nat×V)}{a fa:Addr}{pl:Sem Bool}{Q:Value×List Value->Shared->Prop}{E:Value->Shared->Prop}{Ca:Addr}(K:CxCall C)(R:Rel C X C1 s)(hx:C1[k]? =some (.inst c fs)) (ha:X.at_ k=some a)
 (hC:C.cls c=some Ca) (hf:findIn C.K (.ref Ca) fw=some (some (.ref fa))) (ht:typeIn C.K (.ref fa)=some (.type "function")) (h:Q (.ref fa,[.ref a]) s):wpAny (model C.prog C.w) A (getMethod (.ref a) fw pl) Q E s:=by
 refine dC (R.objs k _ hx) λa' h1 h2 hinst Ca' dx es kk g1 g2 g3 g4 g5=>?_
 rw[ha]at h1;cases h1
 rw[hC]at g1;cases g1
 have O:=K.more.cls _ _ hC
 rw[hinst]at O
 have XK:C.K.In s.heap:=K.more.ok.kin.keeps R.keep
 have I:InstAt s.heap a (instObj Ca dx) Ca (some (dictOf es kk)):=⟨g2,rfl,rfl,g4⟩
 refine method_fn XK I O.ga O.hookX hf ht ?_ h
 have nf:∀{fs:List (Nat×V)}{es:List DictEntry},FRel C X fs es->es.find? (λx:DictEntry=>x.key.isStr fw)=none:=λr=>by
  induction r with
  |nil=>rfl
  | @cons b v x t fs es hb _ _ ih=>
   have ne:(ay b==fw)=false:=by
    refine aB (D3.mp hb) λy hy=>?_
    have hlt:=(Dr.mp hy).1
    rw[vg]at hlt
    have all:(List.range 30).all (λa=>!(ay a==fw))=true:=by decide+kernel
    have:=DE.mp all b (Ei.mpr hlt)
    simpa using this
   exists(EP (by show¬(ay b==fw)=true;rw[ne];exact Do))
   exact ih
 show(lookIn fw (dictOf es kk)).map (·.isSome)=some false
 unfold lookIn
 show Option.map _ (match List.find? _ es.toArray.toList with|some e=>some (some e.val)|none=>if es.toArray.toList.any (·.refKey)then none else some none)=_
 exists(show es.toArray.toList=es from rfl),(nf g5),(j8 g5);rfl
theorem vy{c f:Nat}{obj:E}{args:List E}(K:CxCall C)(G:GoodE C r)(S:St C A d X C1 s C3 C2 CT CS CW)(ck:az (n+1) C3 C2 e (.umeth c f obj args)=true):Sim C A X s VRel (aF C.P r d CT C1 (.umeth c f obj args)) (eval e CS):=λQ E o=>by
 refine bH e (show bX _ e=true from ck) ?_;clear ck;intro fe as ks p ck
 refine bc fe (show aH _ fe=true from ck) ?_;clear ck;intro o' a ap ck
 replace ck:(dJ ks&&gY[c]? ==some (Str.ofString "Random")&&lu[f]? ==some (Str.ofString "Random.next")&&a==fw&& !dl o'&&az n C3 C2 o' obj&&cT (az n C3 C2) as args&&Nat.ble as.length 20&&ap.endLine==p.line)=true:=ck
 refine B2 ck λc1 c2 c3 c4 c5 c6 c7 c8 c9=>?_;clear ck;(try simp only[beq_iff_eq,Bool.not_eq_true']at c1 c2 c3 c4 c5 c6 c7 c8 c9)
 have hk:ks=[]:=by unfold dJ at c1;simpa using c1
 subst hk c4
 refine fU c5 (fk c7) (DF c8) (by(exists c9);exact DO _) ?_
 refine(G.ev S c6).then o λv mh1 e1 X1 s1 v1 x1 r1 o1=>λpl=>?_
 induction r1 using VRel.casesOn with
 |ref k ad hk=>
  dsimp only at o1
  split at o1
  ·rename_i c' fs hx
   split at o1
   ·rename_i hcc
    have hcc:c'=c:=by simpa using hcc
    subst hcc
    refine mB (x1.rel.objs k _ hx) λa' h1 h2 hinst Ca dx es kk g1 _=>?_
    refine bo (K.next c' Ca f g1 c2 c3) λfa hf hfi hty=>?_
    refine oU K x1.rel hx hk g1 hfi hty ?_
    refine r9 (dL c7) (K.keepF f fa hf) ?_
    refine(G.evs (pos:=p) (S.ext x1) c7).then o1 λvs mh2 e2 X2 s2 xs x2 r2 o2=>?_
    refine⟨K.more.ok.kin.keeps x2.rel.keep,?_⟩
    exact(eV G ((S.ext x1).ext x2).F.toC x2.rel hf (.cons (.ref k ad (x2.le.at_ _ _ hk)) r2) (Near.refl _)).call Q E o2
   ·exact o1.absurd
  ·exact o1.absurd
 |_=>exact o1.absurd
theorem vz{c f:Nat}{args:List E}(K:CxCall C)(G:GoodE C r)(S:St C A d X C1 s C3 C2 CT CS CW)(ck:az (n+1) C3 C2 e (.cinit c f args)=true):Sim C A X s VRel (aF C.P r d CT C1 (.cinit c f args)) (eval e CS):=λQ E o=>by
 refine bH e (show bX _ e=true from ck) ?_;clear ck;intro fe as ks p ck
 refine bc fe (show aH _ fe=true from ck) ?_;clear ck;intro o' a ap ck
 refine aQ o' (show bg _ o'=true from ck) ?_;clear ck;intro x np ck
 replace ck:(dJ ks&&prog.inits[c]? ==some f&&gY[c]? ==some x&&cU C3 x&&a==("__init__":Str)&&cT (az n C3 C2) as args&&Nat.ble as.length 20&& !as.isEmpty&&ap.endLine==p.line)=true:=ck
 refine B2 ck λc1 c2 c3 c4 c5 c6 c7 c8 c9=>?_;clear ck;(try simp only[beq_iff_eq,Bool.not_eq_true']at c1 c2 c3 c4 c5 c6 c7 c8 c9)
 have hk:ks=[]:=by unfold dJ at c1;simpa using c1
 subst hk c5
 refine ai (K.clss c x c3) λCa hC hmg=>?_
 refine gf (K.init c Ca f (by(exists K.prg);exact c2) hC) λfa hf hfi hty hsp hrd hfc=>?_
 replace o:Ob C aq X s.heap VRel ((r.evs d CT C1 args).bind λvs h=>jU r d h f vs) Q E:=o
 refine fU rfl (fk c6) (DF c7) (by(exists c9);exact DO _) ?_
 refine dy K.more.ok S.R S.V c4 hmg (λpl=>?_)
 have XK:C.K.In s.heap:=K.more.ok.kin.keeps S.R.keep
 refine method_cls XK hsp (cls_value XK hrd hfc rfl ?_)
 have T:=Ext.toks (own:=aq) (C:=C) S.R (tk:=s.toks+1) (DC _)
 refine r9 (dL c6) (K.keepF f fa hf) ?_
 refine(G.evs (pos:=p) (S.ext T) c6).then (o.from T) λvs mh1 e1 X1 s1 xs x1 r1 o1=>?_
 refine⟨K.more.ok.kin.keeps x1.rel.keep,?_⟩
 exact(eV G ((S.ext T).ext x1).F.toC x1.rel hf r1 (Near.refl _)).call Q E o1
end
theorem jn{K:Frag}{C:Addr}(h:ii K C=true){P:Prop}(k:∀C2 q N bs bm hdct sn sub ab col dd k0 k1 k2 k3 k5,
 K.lookup C=some (excClassObj C2 q C N bs bm hdct sn sub ab col dd k0 k1 k2 k3 k5 "Exception.__new__")->bR bm=true->P):P:=by
 obtain⟨o,hK,h⟩:=(Option.any_eq_true _ _).mp h
 refine zF h λh1 h2 h3 h4=>?_;clear h
 obtain⟨c,dd,d,⟨sl⟩⟩:=o
 induction d using Data.casesOn with
 |cls cd=>
  obtain⟨C2,bs,mro,N,q,hdct,sn,sub,ab,col,del⟩:=cd
  refine jT h4 λg1 g2 g3=>?_;clear h4
  refine iI (D2 h2) λk0 k1 k2 k3 k4 k5 e=>?_;subst e;clear h2
  replace h3:=D1 (D2 h3)
  induction mro using List.casesOn with
  |nil=>exact aC g3
  |cons m bm=>
   replace g2:=D1 (D2 g2)
   replace h1:=D2 h1
   refine k C2 q N bs bm hdct sn sub ab col dd k0 k1 k2 k3 k5 (hK.trans ?_) g3
   dsimp only at h1 h3 g2
   rw[h1,h3,g2,show del=false from(GY _).mp g1]
 |_=>exact aC h4
section
variable{M:Model}{A:Around}{E:Value->Shared->Prop}{h:Heap}{g:Array GenState}{d:Drawn}{t:Nat}{os:OsState}
variable{C2 q:Str}{C N:Addr}{bs bm:List Value}{hdct:Bool}{sn:List Str}{sub:List Value}{ab:Bool}{col:Option Bool}{dd:Option Addr}{k0 k1 k2 k3 k5:Option Value}
theorem oV(hbm:bR bm=true){rest:List Value}{Q:Unit->Shared->Prop}(hC:h.get? C=some (excClassObj C2 q C N bs bm hdct sn sub ab col dd k0 k1 k2 k3 k5 "Exception.__new__"))
 (hq:Q () ⟨h,g,d,t,os⟩):wpAny M A (checkBuiltinCall "Exception.__new__" ⟨.ref C::rest,[]⟩) Q E ⟨h,g,d,t,os⟩:=by
 exact wpAny_check_new_subU EW (ej hbm (.inl rfl)) .base hC hq
end
theorem gG{l:List Value}(h:bR l=true){T:String}(hT:T="AttributeError"\/T="NameError"):l.contains (.type T)=false:=by
 induction l with
 |nil=>exact aC h
 |cons v r ih=>
  refine eM h (λe=>?_) λC r' e h'=>?_
  ·exists e;rcases hT with rfl|rfl<;>decide+kernel
  ·injection e with e1 e2
   subst e1 e2
   exists Eu,(ih h');rfl
section
variable{prog:Program}{w:World}{A:Around}{R:Result->Shared->Prop}{h:Heap}{g:Array GenState}{d:Drawn}{t:Nat}{os:OsState}
variable{C2 q:Str}{C N:Addr}{bs bm:List Value}{hdct:Bool}{sn:List Str}{sub:List Value}{ab:Bool}{col:Option Bool}{dd:Option Addr}{k0 k1 k2 k3 k5:Option Value}
theorem tK(hbm:bR bm=true){rest:List Value}(hC:h.get? C=some (excClassObj C2 q C N bs bm hdct sn sub ab col dd k0 k1 k2 k3 k5 "Exception.__new__"))
 (hq:R (.ok (.ret (.ref (h.objs.size+1)))) ⟨(h.push {cls:=.type "tuple",data:=.seq rest.toArray}).push
  {cls:=.ref C,data:=.fields #[.ref h.objs.size,.none,.none,.none,.bool false,.none]},g,d,t,os⟩) (hrest:rest.length<=sizeLine):
 codeAny (model prog w) A (.builtin "Exception.__new__" ⟨.ref C::rest,[]⟩) R ⟨h,g,d,t,os⟩:=by
 have Fn:=EW
 have hends:=Fn.ends
 have hcB:(Value.ref C::bm).contains (.type "Exception")=true:=by rw[Eu,ej hbm (.inl rfl),Fg]
 have hcA:(Value.ref C::bm).contains (.type "AttributeError")=false:=by(exists Eu,(gG hbm (.inl rfl)));rfl
 have hcN:(Value.ref C::bm).contains (.type "NameError")=false:=by(exists Eu,(gG hbm (.inr rfl)));rfl
 refine codeAny_builtinAt Fn.entry ?_
 unfold Builtin.«BaseException.__new__»
 refine PySem.wpAt_bind ?_
 show PySem.wpAt _ _ _ (stack>>=_) _ _ _
 refine PySem.wpAt_bind (PySem.wpAt_stack λp i9=>Ik ?_)
 wp_walk
 refine Ik ?_
 exists Fn.owner
 repeat(first|with_reducible refine wpAny_madeHere_exc Fn.canon hC ?_|with_reducible refine Hv hC ?_|(with_reducible refine Hc hC ?_;first|rw[hcB]|rw[hcA]|rw[hcN])|wp_step)
 show R _ _
 rw[DM]
 exact hq
noncomputable abbrev de(C tp:Addr):Obj:={cls:=.ref C,data:=.fields #[.ref tp,.none,.none,.none,.bool false,.none]}
theorem Aw{K:Frag}(X:K.In h)(hbm:bR bm=true){rest:List Value}{fI:Addr}(hC:h.get? C=some (excClassObj C2 q C N bs bm hdct sn sub ab col dd k0 k1 k2 k3 k5 "Exception.__new__"))
 (hcall:specialIn K (.ref C) "__call__"=some (some (.builtin "type.__call__")))(htyp:instIn K (.ref C) (.type "type")=some true)(hi:findIn K (.ref C) "__init__"=some (some (.ref fI)))(hf:typeIn K (.ref fI)=some (.type "function"))(hrest:rest.length<=sizeLine)
 (hq:codeAny (model prog w) (A.under (.builtin "type.__call__" ⟨.ref C::rest,[]⟩)) (.call (.ref fI) ⟨.ref (h.objs.size+1)::rest,[]⟩) (InitBack (h.objs.size+1) R)
  ⟨(h.push {cls:=.type "tuple",data:=.seq rest.toArray}).push (de C h.objs.size),g,d,t,os⟩):
 codeAny (model prog w) A (.call (.ref C) ⟨rest,[]⟩) R ⟨h,g,d,t,os⟩:=by
 have Fn:=EW
 have call:=looks_specialIn (M:=model prog w) X hcall
 have typ:=looks_instIn (M:=model prog w) X htyp
 have hi:=Gh (M:=model prog w) X hi
 have made:Looks (model prog w) h (Bind.madeBy (.ref C)) (some "Exception.__new__"):=λA Q E s k q=>by
  obtain⟨hh,g,d,t,os⟩:=s
  exact wpAny_madeBy_exc (k _ _ hC) q
 have hm:Looks (model prog w) h (mroOf (.ref C)) (.ref C::bm):=((Looks.ld (part:=none) hC).andThen .now).andThen .now
 refine GI ?_
 show wpAny _ _ (callAny (.ref C) _) _ _ _
 refine nd_load hC ?_
 show wpAny _ _ (callAny.viaDunder (.ref C) _) _ _ _
 unfold callAny.viaDunder
 refine Dn (call.at ?_)
 dsimp only
 rw[tc_bind]
 refine Dn (Dv (Dn (Dv ?_)))
 refine Dv (a:=Fin.again (.call (.builtin "type.__call__") ⟨.ref C::rest,[]⟩)) (And.intro rfl ?_)
 refine codeAny_call_builtin_at (Code.quiet_builtin _ (by decide+kernel)) entry_typeCall (check_slot tc_kind tc_split typ (tc_args _ _ _) ?_)
 unfold Builtin.«type.__call__»
 repeat(first|simp only[List.isEmpty_cons,Bool.false_eq_true,if_false]|with_reducible refine Gi ?_|lk)
 refine codeAny_call_builtin_code (Code.quiet_builtin _ Fn.quiet) (oV hbm hC ?_)
 refine tK hbm hC ?_ hrest
 have k:∀b o,h.get? b=some o->((h.push {cls:=.type "tuple",data:=.seq rest.toArray}).push (de C h.objs.size)).get? b=some o:=λb o e=>Dx _ (Dx _ e)
 have hx:((h.push {cls:=.type "tuple",data:=.seq rest.toArray}).push (de C h.objs.size)).get? (h.objs.size+1)=some (de C h.objs.size):=by heap_get
 have t1:Looks (model prog w) ((h.push {cls:=.type "tuple",data:=.seq rest.toArray}).push (de C h.objs.size)) (typeOf (.ref (h.objs.size+1))) (.ref C):=(Looks.ld hx).andThen .now
 have s1:Looks (model prog w) ((h.push {cls:=.type "tuple",data:=.seq rest.toArray}).push (de C h.objs.size)) (isSubtype (.ref C) (.ref C)) true:=λA Q E s k' q=>by
  obtain⟨hh,g,d,t,os⟩:=s
  refine Hc (k' _ _ (k _ _ hC)) ?_
  exists(show(Value.ref C::bm).contains (.ref C)=true by simp)
  exact q
 have i1:=hi.keeps k
 have b1:=(bind_fn (M:=model prog w) X (.ref (h.objs.size+1)) hf).keeps k
 unfold isInstance callSpecial? specialOf
 repeat(first|with_reducible refine Gi ?_|lk)
 refine codeAny_mono hq λr s' z=>?_
 rcases r with e|(v|_|_|_)<;>first|exact z|exact z.elim|skip
 refine aA z λe'3 z=>?_;subst e'3;clear z
 exact Dv (Dv z)
end
section
variable{C:Cx}{r:Rec}{A:Around}{d:Dp}{X X1:Wd}{C1 mh1:Hp}{s s1:Shared}{C3:Scope}{C2:List (Option Str)}{CT:Env}{CS CW:PySem.Env}{n:Nat}{e:Expr}
theorem Ext.tagNew(R:Rel C X C1 s){own:fA}{h':Heap}{tk:Nat}{a:Addr}{o:Obj}{t:Tag}(ht:∀o,t≠.frozen o)(htk:0<tk)(k:∀b o,s.heap.get? b=some o->h'.get? b=some o)(hs:s.heap.objs.size<=h'.objs.size)
 (hn:s.heap.objs.size<=a)(ho:h'.get? a=some o):Ext C own X s.heap (X.put a t) C1 {s with heap:=h',toks:=tk}:=by
 have hf:=R.fresh a hn
 refine⟨Wd.put_le hf,R.still (Wd.put_le hf) (λb ob _ _ _ e=>k b ob e) (λb hb=>?_) (λb o' e=>?_) (λ_ _ e=>e) rfl rfl htk,λa o _ _ e=>⟨o.slots,k a o e⟩,hs⟩
 ·exists(Wd.put_ne (λq=>by subst q;exact absurd (EU ho) (FD.mpr hb)))
  exact R.fresh b (Dw hs hb)
 ·by_cases q:b=a
  ·subst q;rw[Wd.put_self]at e;exact absurd (D1 e) (ht o')
  ·rw[Wd.put_ne q]at e;exact .inl e
theorem lZ{Ca:Addr}{vs:List Value}:Near A (A.under (.builtin "type.__call__" ⟨.ref Ca::vs,[]⟩)):=
 ⟨rfl,rfl,DK rfl,GD (show(Code.builtin "type.__call__" ⟨.ref Ca::vs,[]⟩).cUnits<=9 from by(exists(show(Code.builtin "type.__call__" ⟨.ref Ca::vs,[]⟩).cUnits=1 from rfl));decide) _⟩
theorem oW{k:Nat}{a:Addr}{Rr:Result->Shared->Prop}{rr:R V}{X':Wd}(ha:X'.at_ k=some a){h:Heap}{s':Shared}{C7:Hp}(x:Ext C aq X h X' C7 s')
 (o:Ob C aq X h VRel (rr.bind λw h'=>match w with|.none=>.ok (.ref k) h'|_=>.no) (λv s'=>Rr (.ok (.ret v)) s') (λe s'=>Rr (.error e) s')):
 Ob C aq X' s'.heap VRel rr (λv s'=>InitBack a Rr (.ok (.ret v)) s') (λe s'=>InitBack a Rr (.error e) s'):=by
 refine⟨λv mh1 e X1 s1 v1 x1 r1=>?_,λm mh1 e X1 s1 b x1 hb he=>?_,λq=>?_⟩
 ·have o:=o.from x
  rw[e]at o
  induction r1 using VRel.casesOn with
  |none=>exact⟨rfl,o.ok (.ref k) mh1 rfl X1 s1 (.ref a) x1 (.ref k a (x1.le.at_ _ _ ha))⟩
  |_=>exact o.absurd
 ·have o:=o.from x
  rw[e]at o
  exact o.exc m mh1 rfl X1 s1 b x1 hb he
 ·rw[q]at o;exact o.absurd
theorem Ax{c:Nat}{args:List E}(K:CxCall C)(G:GoodE C r)(S:St C A d X C1 s C3 C2 CT CS CW)(ck:az (n+1) C3 C2 e (.new c args)=true):Sim C A X s VRel (aF C.P r d CT C1 (.new c args)) (eval e CS):=λQ E o=>by
 refine bH e (show bX _ e=true from ck) ?_;clear ck;intro fe as ks p ck
 refine aQ fe (show bg _ fe=true from ck) ?_;clear ck;intro x np ck
 replace ck:(dJ ks&&gY[c]? ==some x&&cU C3 x&&cT (az n C3 C2) as args&&Nat.ble as.length 20&& !as.isEmpty)=true:=ck
 refine BZ ck λc1 c2 c3 c4 c5 c6=>?_;clear ck;(try simp only[beq_iff_eq,Bool.not_eq_true']at c1 c2 c3 c4 c5 c6)
 have hk:ks=[]:=by unfold dJ at c1;simpa using c1
 subst hk
 refine ai (K.clss c x c2) λCa hC hmg=>?_
 replace o:Ob C aq X s.heap VRel (match C.P.inits[c]?,C.P.excs[c]? with
  |some f,some x=>(r.evs d CT C1 args).bind λvs h=>if ae vs.length then
   (jU r d (h++[if x then .exc c false []else .inst c []]) f (.ref h.length::vs)).bind λw h'=>match w with
    |.none=>.ok (.ref h.length) h'
    |_=>.no
   else .no
  |_,_=>.no) Q E:=o
 split at o
 ·rename_i f xc hf hx
  refine gf (K.init c Ca f hf hC) λfa hfa hfi hty _ _ _=>?_
  have hxd:(C.P.excs[c]?).getD false=xc:=by(exists hx);rfl
  refine HF (dy K.more.ok S.R S.V c3 hmg ?_)
  refine r9 (dL c4) (K.keepC c Ca hC) ?_
  refine(G.evs (pos:=p) S c4).then o λvs mh1 e₁ X1 s1 xs x1 r1 o1=>?_
  have XK:C.K.In s1.heap:=K.more.ok.kin.keeps x1.rel.keep
  refine⟨XK,?_⟩
  split at o1
  rotate_left
  ·exact o1.absurd
  rename_i hlv
  have S1:=S.ext x1
  have hlen:xs.length<=sizeLine:=by
   have l1:=r1.length
   have:=aK hlv
   exists D7;lia
  refine Gi ?_
  show codeAny (model C.prog C.w) A (.call (.ref Ca) ⟨xs,[]⟩) _ s1
  have R:=x1.rel
  have fr0:=R.fresh s1.heap.objs.size (Dy _)
  induction xc using Bool.casesOn with
  |false=>
   have hm:=K.make c Ca hC hxd
   obtain⟨hp,g,dd,tk,os⟩:=s1
   refine make_core (makes_of XK hm) (Gh XK hfi) (λself=>bind_fn XK self hty) (.inl rfl) ?_
   have e1:=Ext.tagNew (own:=aq) (C:=C) (X:=X1) (C1:=mh1) (s:=⟨hp,g,dd,tk,os⟩) (h':=hp.push emptyDict) (tk:=tk) (a:=hp.objs.size) (o:=emptyDict) (t:=.part mh1.length) R (λ_ q=>by cases q) R.toks (λb o e=>Dx _ e) (by rw[DM];exact Ee _) (Dy _) (Dz _ rfl)
   have sz:(hp.push emptyDict).objs.size=hp.objs.size+1:=DM ..
   have mk:=Ext.make (own:=aq) (C:=C) (C1:=mh1) (o:=.inst c []) (h':=(hp.push emptyDict).push (instObj Ca hp.objs.size)) (tk:=tk) (a:=hp.objs.size+1) e1.rel R.toks (λb o e=>Dx _ e) (by simp only[Heap.size_push];exact Ee _) (by(exists sz);exact Dy _) (sz▸Dz _ rfl)
    (λY hY _=>⟨hxd,Ca,hp.objs.size,[],0,hC,sz▸Dz _ rfl,hY.tag _ _ Wd.put_self,Dx _ (Dz _ rfl),.nil⟩)
   have e2:=e1.trans mk.1
   have S2:=S1.ext e2
   have ob:=oW (Rr:=λr s'=>match r with|.ok (.ret v)=>Q v s'|.ok _=>False|.error e=>E e s') (k:=mh1.length) (a:=hp.objs.size+1) (X':=_) Wd.name_self e2 o1
   exact eV G S2.F.toC S2.R hfa (.cons mk.2 (r1.mono e2.le)) lZ (InitBack (hp.objs.size+1) _) ob
  |true=>
   refine cJ (K.makeX c Ca hC hxd) λhsh hcall htyp=>?_
   refine jn hsh λnm' q' N' bs' bm' hd' sn' sub' ab' col' dd' k0 k1 k2 k3 k5 hK hbm=>?_
   obtain⟨hp,g,dd,tk,os⟩:=s1
   refine Aw XK hbm (XK _ _ hK) hcall htyp hfi hty hlen ?_
   have e1:=Ext.tagNew (own:=aq) (C:=C) (X:=X1) (C1:=mh1) (s:=⟨hp,g,dd,tk,os⟩) (h':=hp.push {cls:=.type "tuple",data:=.seq xs.toArray}) (tk:=tk) (a:=hp.objs.size) (o:={cls:=.type "tuple",data:=.seq xs.toArray}) (t:=.junk) R (λ_ q=>by cases q) R.toks (λb o e=>Dx _ e) (by rw[DM];exact Ee _) (Dy _) (Dz _ rfl)
   have sz:(hp.push {cls:=.type "tuple",data:=.seq xs.toArray}).objs.size=hp.objs.size+1:=DM ..
   have mk:=Ext.make (own:=aq) (C:=C) (C1:=mh1) (o:=.exc c false []) (h':=(hp.push {cls:=.type "tuple",data:=.seq xs.toArray}).push (de Ca hp.objs.size)) (tk:=tk) (a:=hp.objs.size+1) e1.rel R.toks (λb o e=>Dx _ e) (by simp only[Heap.size_push];exact Ee _) (by(exists sz);exact Dy _) (sz▸Dz _ rfl)
    (λY hY _=>⟨hxd,Ca,none,_,hC,sz▸Dz _ rfl,⟨rfl,.inl rfl,λ_=>rfl⟩,rfl⟩)
   have e2:=e1.trans mk.1
   have S2:=S1.ext e2
   have ob:=oW (Rr:=λr s'=>match r with|.ok (.ret v)=>Q v s'|.ok _=>False|.error e=>E e s') (k:=mh1.length) (a:=hp.objs.size+1) (X':=_) Wd.name_self e2 o1
   exact eV G S2.F.toC S2.R hfa (.cons mk.2 (r1.mono e2.le)) lZ (InitBack (hp.objs.size+1) _) ob
 ·exact o.absurd
end
section
variable{M:Model}{A:Around}{E:Value->Shared->Prop}{h:Heap}{g:Array GenState}{d:Drawn}{t:Nat}{os:OsState}
variable{C2 q:Str}{C N:Addr}{bs bm:List Value}{hdct:Bool}{sn:List Str}{sub:List Value}{ab:Bool}{col:Option Bool}{dd:Option Addr}{k0 k1 k2 k3 k5:Option Value}
theorem nn(hbm:bR bm=true){e:Addr}{oe:Obj}{rest:List Value}{Q:Unit->Shared->Prop}(hC:h.get? C=some (excClassObj C2 q C N bs bm hdct sn sub ab col dd k0 k1 k2 k3 k5 "Exception.__new__"))(he:h.get? e=some oe)(hcls:oe.cls=.ref C)
 (hq:Q () ⟨h,g,d,t,os⟩):wpAny M A (checkBuiltinCall "Exception.__init__" ⟨.ref e::rest,[]⟩) Q E ⟨h,g,d,t,os⟩:=by
 have F:=EW
 have hcB:(Value.ref C::bm).contains (.type "Exception")=true:=by rw[Eu,ej hbm (.inl rfl),Fg]
 have hshort:=F.noStar
 simp only[checkBuiltinCall,F.initKind,F.initSplit,F.initRow]
 repeat(first|(with_reducible refine Hv he ?_;(exists hcls))|with_reducible refine Hv hC ?_|(with_reducible refine Hc hC ?_;(exists hcB))|wp_step)
 refine wpAny_onRaise ?_
 rw[show∀(a b:String)(n:Nat),Bind.check ⟨.positional,"*","Exception",.self,[⟨"args",.varPos,false⟩]⟩ a b n (List.map (λx=>x.fst) ({pos:=Value.ref e::rest}:Args).kw)=pure ()from
  λa b n=>check_star_args _ _ _ _ _ _]
 exact Dv hq
end
theorem qJ(K:Frag):findCls K (.type "Exception") (.type "type") "__init__"=some (.val (.builtin "Exception.__init__")):=by kernel_rfl
section
variable{C:Cx}{r:Rec}{A:Around}{d:Dp}{X X1:Wd}{C1 mh1:Hp}{s s1:Shared}{C3:Scope}{C2:List (Option Str)}{CT:Env}{CS CW:PySem.Env}{n:Nat}{e:Expr}
theorem nq{K:Frag}(X:K.In s.heap){pl:Sem Bool}{Q:Value×List Value->Shared->Prop}{E:Value->Shared->Prop}(h:Q (.builtin "Exception.__init__",[]) {s with toks:=s.toks+1}):
 wpAny (model C.prog C.w) A (getMethod (.type "Exception") "__init__" pl) Q E s:=by
 have LT:Looks (model C.prog C.w) s.heap (typeOf (.type "Exception")) (.type "type"):=Looks.of_pure rfl
 have LG:Looks (model C.prog C.w) s.heap (typeLookup (.type "type") "__getattribute__") (some (.builtin "type.__getattribute__")):=Gh (K:=K) X (show findIn K (.type "type") "__getattribute__"=_ from by kernel_rfl)
 unfold getMethod specialOf
 refine Dn (Dn (LT.here (LG.here ?_)))
 dsimp only
 exists(if_pos canon_tga)
 refine Dn (cls_open (hook:=none) X (Looks.of_pure rfl) LT (by kernel_rfl) (Looks.of_pure rfl) (by kernel_rfl) (qJ K) ?_)
 refine Dv ?_
 show wpAny _ _ (handedOut (.builtin "Exception.__init__")) _ _ _
 exists(handedOut_of (by decide+kernel))
 exact Dv (Dv h)
theorem vA{self:CF.E}{args:List CF.E}(K:CxCall C)(G:GoodE C r)(S:St C A d X C1 s C3 C2 CT CS CW)(ck:az (n+1) C3 C2 e (.xinit self args)=true):Sim C A X s VRel (aF C.P r d CT C1 (.xinit self args)) (eval e CS):=λQ E o=>by
 refine bH e (show bX _ e=true from ck) ?_;clear ck;intro fe as ks p ck
 refine bc fe (show aH _ fe=true from ck) ?_;clear ck;intro o' a ap ck
 refine aQ o' (show bg _ o'=true from ck) ?_;clear ck;intro x np ck
 replace ck:(dJ ks&&x==("Exception":Str)&&cU C3 x&&a==("__init__":Str)&&cT (az n C3 C2) as (self::args)&&Nat.ble as.length 20&&ap.endLine==p.line)=true:=ck
 refine Bp ck λc1 c2 c3 c4 c5 c6 c7=>?_;clear ck;(try simp only[beq_iff_eq]at c1 c2 c3 c4 c5 c6 c7)
 have hk:ks=[]:=by unfold dJ at c1;simpa using c1
 subst hk c2 c4
 refine fU rfl (fk c5) (DF c6) (by(exists c7);exact DO _) ?_
 refine hM K.more.ok S.R S.V c3 K.excN (show bootBuiltins (Str.ofString "Exception")=some (.type "Exception")from by decide+kernel) (by decide+kernel) (λpl=>?_)
 refine nq (K.more.ok.kin.keeps S.R.keep) ?_
 have T:=Ext.toks (own:=aq) (C:=C) S.R (tk:=s.toks+1) (DC _)
 have o:=o.from T
 have S:=S.ext T
 induction as using List.casesOn with
 |nil=>exact aC c5
 |cons e1 rest=>
  have c5':(!cb e1&&az n C3 C2 e1 self&&cT (az n C3 C2) rest args)=true:=c5
  simp only[Bool.and_eq_true,Bool.not_eq_true']at c5'
  refine aA c5' λh'6 d3=>?_;refine aA h'6 λd1 d2=>?_;clear h'6;clear c5'
  refine Ep (id:="Exception.__init__") ?_ (dn d1) (dL d3)
  with_reducible refine Gz ?_ ?_
  ·refine(G.ev S d2).then o λv mh1 e₁ X1 s1 v1 x1 r1 o1=>?_
   have S1:=S.ext x1
   induction r1 using VRel.casesOn with
   |ref k ad hk=>
    dsimp only at o1
    refine(G.evs (pos:=p) S1 d3).then o1 λvs mh2 e2 X2 s2 xs x2 r2 o2=>?_
    have S2:=S1.ext x2
    have R:=S2.R
    split at o2
    ·rename_i c ctx fs hx
     split at o2
     ·rename_i hl
      have hl:=aK hl
      have ha:=x2.le.at_ _ _ hk
      refine aW (eN R ha ⟨c,ctx,fs,hx⟩) λc' ctx' fs' Ca dd ws hm g0 g1 g2 g3 h'7 g5=>?_;refine cJ h'7 λz1 z2 z3=>?_;clear h'7
      rw[hx]at hm;cases hm
      refine cJ (K.makeX c Ca g1 g0) λhsh hcall htyp=>?_
      refine jn hsh λnm' q' N' bs' bm' hd' sn' sub' ab' col' dd' k0 k1 k2 k3 k5 hK hbm=>?_
      have XK:C.K.In s2.heap:=K.more.ok.kin.keeps R.keep
      have F:=EW
      have hxs:xs.length<=sizeLine:=by have:=r2.length;(exists D7);lia
      obtain⟨hp,gg,dr,tk,os⟩:=s2
      refine Gi (GZ F.init.plain F.initEntry (nn hbm (XK _ _ hK) g3 rfl ?_))
      have hn:k<mh2.length:=(Dr.mp hx).1
      have hfr:=R.fresh hp.objs.size (Dy _)
      obtain⟨w0,hw0⟩:∃w0,ws[0]? =some w0:=⟨_,Fj (by exact Dt.mp (ao [ws.size] [(.eq (.v 0) (.n 6),-1)] (.lt (.n 0) (.v 0)) 1 rfl (Ds Int.ofNat z1)))⟩
      have g3':=Dx (h:=hp) {cls:=.type "tuple",data:=.seq xs.toArray} g3
      have self:=DP (Obj.mapFields (·.setIfInBounds 0 (Value.ref hp.objs.size))) g3' rfl
      have haT:hp.objs.size≠ad:=Eg (EU g3)
      have keep:∀b o,b≠ad->hp.get? b=some o->((hp.push {cls:=.type "tuple",data:=.seq xs.toArray}).update ad (Obj.mapFields (·.setIfInBounds 0 (Value.ref hp.objs.size)))).get? b=some o:=λb o hb e=>by
       rw[Ed _ _ (Eb hb)];exact Dx _ e
      have l:X2.le (X2.put hp.objs.size .junk):=Wd.put_le hfr
      have RR:=R.turn (Y:=X2.put hp.objs.size .junk) (s':=⟨(hp.push {cls:=.type "tuple",data:=.seq xs.toArray}).update ad (Obj.mapFields (·.setIfInBounds 0 (Value.ref hp.objs.size))),gg,dr,tk,os⟩) (o':=.exc c ctx fs) l hn
       (λb ob t hb ht1 _ _ eb=>keep b ob (λq=>ht1 (by subst q;exact D1 (hb.symm.trans g2))) eb)
       (λb hb=>by
        have hb2:((hp.push {cls:=.type "tuple",data:=.seq xs.toArray}).update ad (Obj.mapFields (·.setIfInBounds 0 (Value.ref hp.objs.size)))).objs.size<=b:=hb
        rw[DL,DM]at hb2
        exists(Wd.put_ne (Eg hb2))
        exact R.fresh b (ED hb2))
       (λb o hb=>by
        by_cases q:b=hp.objs.size
        ·subst q;rw[Wd.put_self]at hb;cases hb
        ·rw[Wd.put_ne q]at hb;exact .inl hb)
       (λb hb=>by
        rw[ha]at hb;cases hb
        refine⟨g0,Ca,dd,ws.setIfInBounds 0 (.ref hp.objs.size),g1,self,⟨by(exists Fm);exact z1,?_,λq=>by(exists(El (by decide)));exact z3 q⟩,?_⟩
        ·rcases z2 with z2|⟨T',oT',ts',w1,w2,w3,w4,w5⟩
         ·exact .inl (by(exists(El (by decide)));exact z2)
         ·exact .inr ⟨T',oT',ts',by(exists(El (by decide)));exact w1,l.tag _ _ w2,keep T' _ (λq=>by subst q;rw[g2]at w2;cases w2) w3,w4,w5⟩
        ·induction dd using Option.casesOn with
         |none=>exact g5
         |some dx=>
          refine e9 g5 λt1 es kk t2 t3=>?_;clear g5
          exact⟨l.tag _ _ t1,es,kk,keep dx _ (λq=>by subst q;rw[g2]at t1;cases t1) t2,t3.mono l⟩) (λ_ _ e=>e) rfl rfl R.toks
      have ee:mh2.set k (.exc c ctx fs)=mh2:=by
       apply EY
       intro i
       by_cases q:i=k
       ·subst q;(exists(DG hn),hx;rfl)
       ·exists(DB (Eb q));rfl
      rw[ee]at RR
      have ex:Ext C aq X2 hp (X2.put hp.objs.size .junk) mh2 ⟨(hp.push {cls:=.type "tuple",data:=.seq xs.toArray}).update ad (Obj.mapFields (·.setIfInBounds 0 (Value.ref hp.objs.size))),gg,dr,tk,os⟩:=
       ⟨l,RR,λb ob hb _ eb=>⟨ob.slots,keep b ob (λq=>by subst q;rw[g2]at hb;cases hb) eb⟩,by show hp.objs.size<=_;rw[DL,DM];exact Ee _⟩
      have fin:=o2.ok .none mh2 rfl _ _ .none ex .none
      unfold Builtin.«BaseException.__init__»
      unfold newTuple
      refine Dn (FJ ?_ (by show xs.toArray.size<=sizeLine;(exists DV);exact hxs))
      refine Dn (Dn (EE g3' rfl hw0 (Dn (Fo g3' rfl (by exact Dt.mp (ao [ws.size] [(.eq (.v 0) (.n 6),-1)] (.lt (.n 0) (.v 0)) 1 rfl (Ds Int.ofNat z1))) ?_))))
      cases w0 with
      |ref a0=>exact wpAny_letGo (Dv fin)
      |_=>exact Dv (Dv fin)
     ·exact o2.absurd
    ·exact o2.absurd
   |_=>exact o1.absurd
  ·induction e1 using Expr.casesOn<;>first|rfl|exact aC d1.symm
end
end
section
open PySem PySem.W PySem.Calls PyProof.Rows PySem.SeqAt
theorem oX{CT:PySem.Env}:∀(es:List Expr),(forIn es false λc r=>if r=true then do let ok<-isTrue c CT (eval c CT);pure (ForInStep.yield ok)else pure (ForInStep.yield r):Sem Bool)=pure false:=by
 intro es
 induction es with
 |nil=>exact rfl
 |cons e es ih=>
  rw[Hn,if_neg Do]
  exact ih
section
variable{prog:Program}{w:World}{A:Around}{E:Value->Shared->Prop}{s:Shared}
theorem qK{CT:PySem.Env}{e:Expr}{es:List Expr}{Q:Bool->Shared->Prop}(h:wpAny (model prog w) A (isTrue e CT (eval e CT)) (λb s1=>if b=true then wpAny (model prog w) A (ka es CT) Q E s1 else Q false s1) E s):
 wpAny (model prog w) A (ka (e::es) CT) Q E s:=by
 unfold ka
 rw[Hn,if_pos rfl]
 refine Dn (Dn (EO h (λb s1 h1=>Dv ?_) λ_ _ x=>x))
 induction b using Bool.casesOn with
 |true=>exact h1
 |false=>
  dsimp only
  rw[oX]
  exact Dv h1
theorem vB{X:Wd}{I:Addr}{it:It}(r:ItRel X s.heap I it){Q:Value->Shared->Prop}(h:Q (.ref I) s):wpAny (model prog w) A (pyIter (.ref I)) Q E s:=by
 cases r with
 |lst a b=>exact wpAny_pyIter_listiter b h
 |str hty b c=>
  rcases hty with rfl|rfl
  ·exact wpAny_pyIter_striter_ascii b h
  ·exact wpAny_pyIter_striter_wide b h
 |tup a b c dd e f=>exact wpAny_pyIter_tupleiter f h
 |rng a b c dd=>
  have hT:s.TypeIs (.ref I) "range_iterator":=⟨_,a,b⟩
  refine wpAny_pyIter_slot hT Ib (Gx Ib hT F.entry_range_iterator_iter ?_ (F.args_range_iterator_iter_1 _))
  show wpAny _ _ (ret (.ref I)) _ _ s
  exact Dv ⟨_,rfl,"range_iterator",_,hT,EZ.lookup,h⟩
end
section
variable{C:Cx}{r:Rec}{A:Around}{d:Dp}{X X1:Wd}{C1 mh1:Hp}{s s1:Shared}{C3:Scope}{C2:List (Option Str)}{CT:Env}{CS CW:PySem.Env}{n:Nat}{e:Expr}
theorem vC(G:GoodE C r){es:List Expr}{ms:List CF.E}(S:St C A d X C1 s C3 C2 CT CS CW)(ck:cT (az n C3 C2) es ms=true):Sim C A X s gO (zL r d CT C1 ms) (ka es CS):=λQ E o=>by
 induction es using List.casesOn with
 |nil=>induction ms using List.casesOn with
  |nil=>exact Dv (o.ok true C1 rfl X s true (Ext.refl S.R) rfl)
  |cons=>exact aC ck
 |cons e es=>induction ms using List.casesOn with
  |nil=>exact aC ck
  |cons m ms=>
   replace ck:(!cb e&&az n C3 C2 e m&&cT (az n C3 C2) es ms)=true:=ck
   simp only[Bool.and_eq_true]at ck
   have key:zL r d CT C1 (m::ms)=((r.ev d CT C1 m).bind tr).bind λb h=>match b with|true=>r.chk d CT h ms|false=>.ok false h:=by
    rw[bn]
    show(r.ev d CT C1 m).bind _=_
    congr 1
    funext x h
    cases ht:aO x h with
    |none=>(exists(jg ht));rfl
    |some c=>(exists(hW ht));cases c<;>rfl
   refine qK ((G.evT S ck.1.2).then (o.cast key) λc mh1 e₁ X1 s1 c' x1 r1 o1=>?_)
   replace r1:c=c':=r1
   subst r1
   induction c using Bool.casesOn with
   |true=>(exists(if_pos rfl));exact G.chk (S.ext x1) ck.2 Q E o1
   |false=>(exists(if_neg Do));exact o1.ok false _ rfl X1 s1 false (Ext.refl x1.rel) rfl
theorem oY{i:Nat}{x:Str}{v:V}{v':Value}{Q:Unit->Shared->Prop}{E:Value->Shared->Prop}(S:St C A d X C1 s C3 C2 CT CS CW)(h1:C2[i]? =some (some x)) (h2:aJ C3 x .local=true) (r:VRel X v v')
 (h:∀s',Ext C (λa=>a=CS.locals) X s.heap X C1 s'->ERel X s'.heap C3 C2 (CT.set i (some v)) CS->Q () s'):wpAny (model C.prog C.w) A (storeName CS x v') Q E s:=by
 have V:=S.V
 refine ai V.hns λm hn hsl=>?_
 have hl:CS.kindOf x=some .local:=by unfold PySem.Env.kindOf;(exists V.hsc);unfold aJ at h2;exact D2 h2
 refine GN hl hn (λh' hn' hs'=>?_) (by(exists V.hsc,V.hkind);rfl)
 have kk:∀b o,b≠CS.locals->s.heap.get? b=some o->h'.get? b=some o:=λb o hb e=>(hs'.2 b hb).trans e
 refine h _ (Ext.priv1 (own:=λa=>a=CS.locals) S.R V.htag rfl (DC _) kk (DK hs'.1.symm)) ?_
 refine⟨V.hsc,V.hkind,V.hglob,V.hblt,V.htag,⟨_,hn',λj y w q1 q2=>?_⟩,V.hinj,λy c hc=>?_,V.hapart,V.hcell⟩
 ·rcases ng q2 with⟨rfl,rfl⟩|⟨q3,q4⟩
  ·rw[h1]at q1;cases q1
   exact⟨v',r,.inl ⟨hl,if_pos rfl⟩⟩
  ·refine ai (hsl j y w q1 q4) λw' q5 q6=>?_
   refine⟨w',q5,q6.imp (λz=>aA z λk1 k2=>⟨k1,?_⟩) λz=>gK z λk1 c k2 k3=>⟨k1,c,k2,k3.sameBut hs' (V.hcells y c k2).2.1⟩⟩
   exact(if_neg (λq=>q3 (V.hinj j i x (by rw[<-q];exact q1) h1))).trans k2
 ·refine eJ (V.hcells y c hc) λt hne w hw=>?_
  exact⟨t,hne,w,hw.sameBut hs' hne⟩
theorem yb(G:GoodE C r){elt iter:Expr}{x:Str}{px pos:Pos}{ifs:List Expr}{csc:Scope}{I D:Addr}{eltm:CF.E}{CY:Nat}{it:It}{ifsm:List CF.E}{acc:Nat}{Rr:Result->Shared->Prop}
 (S:St C A d X C1 s C3 C2 CT CS CW)(hd:d.2=none)(hsl:∀w,CT[CY]?≠some (some w)) (hx:C2[CY]? =some (some x)) (hk:aJ C3 x .local=true) (hp:(x==("__debug__":Str))=false)
 (ck1:az n C3 C2 elt eltm=true) (ck2:cT (az n C3 C2) ifs ifsm=true) (hI:X.tag I=some .priv) (hIL:I≠CS.locals) (hIc:∀y c,CS.cells.lookup y=some c->c≠I)
 (hfr:∀e∈A.frames.getD [],e.frame≠some I/\e.frame≠some CS.locals) (hit:ItRel X s.heap I it) (hD:X.at_ acc=some D)
 (hok:∀u C7,uM r d CT C1 eltm CY it ifsm acc=.ok u C7->∀X' s',Ext C (λa=>a=I\/a=CS.locals) X s.heap X' C7 s'->(∃m,s'.heap.Ns CS.locals m)->Rr (.ok .next) s')
 (hex:∃u C7,uM r d CT C1 eltm CY it ifsm acc=.ok u C7):
 codeAny (model C.prog C.w) A (.compLoop (.ListComp elt [⟨.Name x px,iter,ifs,0⟩] csc pos) 0 (.ref I) (.ref D) CS) Rr s:=by
 refine bE hex λu mhE he=>?_;clear hex
 have hok:=hok u mhE he
 have heq:uM r d CT C1 eltm CY it ifsm acc=(match aP C1 it with
  |.no=>.no
  |.fin=>.ok () C1
  |.one v it'=>(r.chk d (CT.set CY (some v)) C1 ifsm).bind λb h=>match b with
   |true=>(r.ev d (CT.set CY (some v)) h eltm).bind λx h=>(meth .append (.ref acc) [x] h).bind λ_ h=>r.cp d CT h eltm CY it' ifsm acc
   |false=>r.cp d CT h eltm CY it' ifsm acc):=by
  unfold uM
  cases aP C1 it with
  |no=>rfl
  |fin=>rfl
  |one v it'=>
   dsimp only
   congr 1
   funext b h
   induction b using Bool.casesOn with
   |false=>rfl
   |true=>
    dsimp only
    congr 1
    funext x h
    show _=(gj (.ref acc) [x] h).bind _
    unfold gj
    dsimp only
    split
    ·split<;>rfl
    ·rfl
 rw[heq]at he
 refine GI ?_
 show wpAny _ A ((compTurn (.ListComp elt [⟨.Name x px,iter,ifs,0⟩] csc pos) 0 (.ref I) (.ref D) CS).onRaise (λx=>do noteFrame x CS;theTreesLotGoes x)) _ _ s
 refine wpAny_noted ?_
 rw[compTurn_list]
 refine Dn (Ek (Dn ?_))
 have liftI:∀{X':Wd}{s':Shared}{C7:Hp}{h:Heap}{X0:Wd},Ext C (λa=>a=I) X0 h X' C7 s'->Ext C (λa=>a=I\/a=CS.locals) X0 h X' C7 s':=λy=>y.own λ_ q=>.inl q
 have liftL:∀{X':Wd}{s':Shared}{C7:Hp}{h:Heap}{X0:Wd},Ext C (λa=>a=CS.locals) X0 h X' C7 s'->Ext C (λa=>a=I\/a=CS.locals) X0 h X' C7 s':=λy=>y.own λ_ q=>.inr q
 have lift0:∀{X':Wd}{s':Shared}{C7:Hp}{h:Heap}{X0:Wd},Ext C aq X0 h X' C7 s'->Ext C (λa=>a=I\/a=CS.locals) X0 h X' C7 s':=λy=>y.own λ_ q=>q.elim
 refine oO (S.F.hnone hd) S.R hI hit rfl (λq=>by rw[q]at he;exact rV he) (λq s' x'=>?_) (λv it' q s1 v' x1 rv hit1=>?_)
 ·rw[q]at he
  injection he with _ he
  subst he
  refine Dv ?_
  have V':=S.V.ext' x' (λq=>hIL q.symm) hIc
  refine ai V'.hns λm hn _=>?_
  exact hok X s' (liftI x') ⟨m,hn⟩
 ·rw[q]at he
  dsimp only at he
  have S1:St C A d X C1 s1 C3 C2 CT CS CW:=⟨S.F.ext x1 λL hL=>by subst hL;exact⟨{cls:=.none,data:=.plain},#[],0,.inr λe he=>(hfr e he).1⟩,x1.rel,S.V.ext' x1 (λq=>hIL q.symm) hIc⟩
  refine Dn (HK (show letOwnedTupleGo (.Name x px) (.ref I) v'=pure ()from rfl) ?_)
  refine Dn (Gq (oY S1 hx hk rv λs2 x2 V2=>?_))
  have S2:St C A d X C1 s2 C3 C2 (CT.set CY (some v)) CS CW:=⟨S1.F.ext x2 λL hL=>by subst hL;exact⟨{cls:=.none,data:=.plain},#[],0,.inr λe he=>(hfr e he).2⟩,x2.rel,V2⟩
  have x12:=(liftI x1).trans (liftL x2)
  have go:∀(mh5:Hp)(X5:Wd)(s5:Shared),Ext C aq X s2.heap X5 mh5 s5->r.cp d CT mh5 eltm CY it' ifsm acc=.ok u mhE->
   codeAny (model C.prog C.w) A (.compLoop (.ListComp elt [⟨.Name x px,iter,ifs,0⟩] csc pos) 0 (.ref I) (.ref D) CS) Rr s5:=λmh5 X5 s5 x5 e5=>by
   have S5':=S2.ext x5
   have V5:ERel X5 s5.heap C3 C2 CT CS:=by
    have V:=S5'.V
    refine ai V.hns λm hn hs=>?_
    refine⟨V.hsc,V.hkind,V.hglob,V.hblt,V.htag,⟨m,hn,λj y w q1 q2=>hs j y w q1 ?_⟩,V.hinj,V.hcells,V.hapart,V.hcell⟩
    by_cases z:j=CY
    ·subst z;exact absurd q2 (hsl w)
    ·exists(DB (Eb z));exact q2
   have S5:St C A d X5 mh5 s5 C3 C2 CT CS CW:=⟨S5'.F,S5'.R,V5⟩
   refine G.cp S5 hd hsl hx hk hp ck1 ck2 (x5.le.tag _ _ hI) hIL hIc hfr ?_ (x5.le.at_ _ _ hD) (λu' C7 e' X' s' x' hns=>?_) ⟨u,mhE,e5⟩
   ·exact(hit1.keep (Wd.le.refl X) λob hob=>x2.priv I ob hI hIL hob).keep x5.le λob hob=>x5.priv I ob hI (λq=>q) hob
   ·rw[e5]at e'
    injection e' with _ e'
    subst e'
    exact hok X' s' ((x12.trans (lift0 x5)).trans x') hns
  cases hc:r.chk d (CT.set CY (some v)) C1 ifsm with
  |no=>rw[hc]at he;exact rV he
  |exc k h=>rw[hc]at he;exact B3 he
  |ok b h1=>
   rw[hc]at he
   refine Dn (show wpAny (model C.prog C.w) A (ka ifs CS) _ _ s2 from G.chk S2 ck2 _ _ ⟨λb' C7 e' X3 s3 b'' x3 r3=>?_,λk C7 e'=>Bf (hc.symm.trans e'),λq=>zQ (hc.symm.trans q)⟩)
   rw[hc]at e'
   injection e' with e1 e2
   subst e1 e2
   replace r3:b=b'':=r3
   subst r3
   have S3:=S2.ext x3
   induction b using Bool.casesOn with
   |false=>
    dsimp only[R.bind]at he
    exists(if_neg Do)
    refine Dv ⟨rfl,?_⟩
    exact go _ _ _ x3 he
   |true=>
    dsimp only[R.bind]at he
    exists(if_pos rfl)
    cases hv:r.ev d (CT.set CY (some v)) h1 eltm with
    |no=>rw[hv]at he;exact rV he
    |exc k h=>rw[hv]at he;exact B3 he
    |ok y h2=>
     rw[hv]at he
     dsimp only[R.bind]at he
     refine Dn (Dn (G.ev S3 ck1 _ _ ⟨λy' C7 e' X4 s4 y'' x4 r4=>?_,λk C7 e'=>Bf (hv.symm.trans e'),λq=>zQ (hv.symm.trans q)⟩))
     rw[hv]at e'
     injection e' with e1 e2
     subst e1 e2
     have S₄:=S3.ext x4
     have hD4:=x4.le.at_ _ _ (x3.le.at_ _ _ hD)
     refine Dn (oG (own:=aq) (m:=.append) S₄.R (.ref acc D hD4) (.cons r4 .nil) ⟨λz C7 e' X5 s5 z' x5 r5=>?_,λk C7 e'=>(by rw[e']at he;exact B3 he),λq=>(by rw[q]at he;exact rV he)⟩)
     rw[e']at he
     exact Dv (Dv ⟨rfl,go _ _ _ ((x3.trans x4).trans x5) he⟩)
theorem km{f:Str->NameKind->NameKind}{x:Str}:∀{l:List (Str×NameKind)},(l.map λp=>(p.1,f p.1 p.2)).lookup x=(l.lookup x).map (f x)
 |[]=>rfl
 |(y,k)::l=>by
  exists E0,EJ,EJ
  cases q:x==y with
  |true=>(exists(D2 q));rfl
  |false=>exact km
theorem lG{C3 csc:Scope}{x:Str}(hk:C3.kind=.function):(bW C3 csc).names.lookup x=(csc.names.lookup x).map λk=>if(k==.free&&C3.names.lookup x==some .cell)=true then .cell else k:=by
 unfold bW
 refine bt (km (f:=λx k=>if(k==.free&&C3.names.lookup x==some .cell)=true then NameKind.cell else k)) ?_
 congr 1
 refine E5 λp hp=>?_
 obtain⟨y,k⟩:=p
 exists hk
 show(if(k==.free&&(ScopeKind.function==ScopeKind.function)&&C3.names.lookup y==some .cell)=true then(y,NameKind.cell)else(y,k))=(y,if(k==.free&&C3.names.lookup y==some .cell)=true then NameKind.cell else k)
 rw[show(ScopeKind.function==ScopeKind.function)=true from rfl,EK]
 split<;>rfl
theorem ij{csc:Scope}{CS:PySem.Env}(h:CS.scope=C3):relabel csc CS=bW C3 csc:=by
 subst h;rfl
theorem gP{CS:PySem.Env}:∀(names:List (Str×NameKind))(acc:List (Str×Addr)),(∀y∈names,y.2=.free->∃c,CS.cells.lookup y.1=some c)->(∀y c,acc.lookup y=some c->CS.cells.lookup y=some c)->
 ∃cl,(forIn names acc (λ(p:Str×NameKind) cs=>if p.2==.free then(do let c<-cellOf CS p.1;pure (ForInStep.yield ((p.1,c)::cs)))else pure (ForInStep.yield cs)):Sem (List (Str×Addr)))=pure cl/\
  (∀y c,cl.lookup y=some c->CS.cells.lookup y=some c)/\(∀y,(y,NameKind.free)∈names\/(acc.lookup y).isSome=true->(cl.lookup y).isSome=true)
 |[],acc,_,h=>⟨acc,rfl,h,λy q=>q.elim (λz=>by cases z) id⟩
 |(n,k)::r,acc,h1,h2=>by
  rw[Hn]
  by_cases hk:k=.free
  ·subst hk
   refine aB (h1 (n,.free) (DU ..) rfl) λc hc=>?_
   have e:cellOf CS n=pure c:=by unfold cellOf;rw[hc]
   refine bo (gP (CS:=CS) r ((n,c)::acc) (λy hy=>h1 y (DN _ hy)) λy c' hy=>by
    rw[EJ]at hy
    split at hy
    ·rename_i q;cases hy;(exists(D2 q));exact hc
    ·exact h2 y c' hy) λcl a b d=>?_
   refine⟨cl,?_,b,λy q=>d y ?_⟩
   ·dsimp only
    exists(if_pos (show(NameKind.free==NameKind.free)=true from rfl)),e
    exact a
   ·rcases q with q|q
    ·rcases Eo.mp q with q|q
     ·cases q;right;rw[EJ,DO];rfl
     ·exact .inl q
    ·right
     rw[EJ]
     split
     ·rfl
     ·exact q
  ·refine bo (gP (CS:=CS) r acc (λy hy=>h1 y (DN _ hy)) h2) λcl a b d=>?_
   refine⟨cl,?_,b,λy q=>d y ?_⟩
   ·dsimp only
    exists(if_neg (by simpa using hk))
    exact a
   ·rcases q with q|q
    ·rcases Eo.mp q with q|q
     ·cases q;exact absurd rfl hk
     ·exact .inl q
    ·exact .inr q
theorem sh{CT:Env}{CY i:Nat}{v:V}(h:(CT.set CY none)[i]? =some (some v)):i≠CY/\CT[i]? =some (some v):=by
 by_cases q:i=CY
 ·subst q
  rw[Ga]at h
  simp only[if_true]at h
  split at h<;>cases h
 ·rw[DB (Eb q)]at h
  exact⟨q,h⟩
theorem ma(G:GoodE C r){elt' iter':Expr}{x:Str}{xp cp:Pos}{ifs':List Expr}{csc:Scope}{elt iter:CF.E}{CY:Nat}{ifs:List CF.E}{E:Value->Shared->Prop}{RR:Value->Addr->Result->Shared->Prop}{cl:List (Str×Addr)}
 (S:St C A d X C1 s C3 C2 CT CS CW)(ck:az (n+1) C3 C2 (.ListComp elt' [⟨.Name x xp,iter',ifs',0⟩] csc cp) (.comp elt CY iter ifs)=true)
 (hcl1:∀y c,cl.lookup y=some c->CS.cells.lookup y=some c)(hcl2:∀y,(y,NameKind.free)∈csc.names->(cl.lookup y).isSome=true)
 (hr:∃y C7,aF C.P r d CT C1 (.comp elt CY iter ifs)=.ok y C7)
 (hRR:∀X' C7 s' k D Cn,aF C.P r d CT C1 (.comp elt CY iter ifs)=.ok (.ref k) C7->Ext C aq X s.heap X' C7 s'->X'.at_ k=some D->X'.tag Cn=some .priv->X.tag Cn=none->(∃m,s'.heap.Ns Cn m)->RR (.ref D) Cn (.ok .next) s'):
 wpAny (model C.prog C.w) A (eval iter' CS) (λxv s1=>wpAny (model C.prog C.w) A (pyIter xv) (λit s2=>wpAny (model C.prog C.w) A (newList []) (λacc s3=>
  wpAny (model C.prog C.w) A (newFunctionEnv csc CS.globals cl [] CS.qual none .none (some CS)) (λcenv s4=>
   codeAny (model C.prog C.w) A (.compStart (.ListComp elt' [⟨.Name x xp,iter',ifs',0⟩] csc cp) 0 it acc {cenv with scope:=relabel csc CS}) (RR acc cenv.locals) s4) E s3) E s2) E s1) E s:=by
 have ck:(C3.kind==.function&&csc.kind==.function&&C2[CY]? ==some none&&aJ (bW C3 csc) x .local&&cX x&&
  !cC iter'&&csc.names.all (λy=>y.2 !=.cell&&(y.2 !=.local||csc.names.lookup y.1==some .local)&&(y.2 !=.free||(aJ csc y.1 .free&&aJ C3 y.1 .cell&&C2.contains (some y.1))))&&az n C3 C2 iter' iter&&az n (bW C3 csc) (dW C3 csc C2 CY x) elt' elt&&cT (az n (bW C3 csc) (dW C3 csc C2 CY x)) ifs' ifs)=true:=ck
 refine zG ck λk1 k2 k3 k4 k5 k6 k7 k8 k9 k10=>?_;clear ck;(try simp only[Bool.and_eq_true,beq_iff_eq,Bool.not_eq_true',List.all_eq_true]at k1 k2 k3 k4 k5 k6 k7 k8 k9 k10)
 obtain⟨d,hk⟩:=d
 induction d using Nat.casesOn with
 |zero=>refine bE hr λy C7 q=>?_;clear hr;exact rV q
 |succ d=>induction hk using Option.casesOn with
  |some k=>refine bE hr λy C7 q=>?_;clear hr;exact rV q
  |none=>
   have hev:aF C.P r (d+1,none) CT C1 (.comp elt CY iter ifs)=(match r.ev (d+1,none) CT C1 iter with
    |.ok x h=>(match fF x h with
     |some it=>(match r.cp (d,none) (CT.set CY none) (h++[.list []]) elt CY it ifs h.length with
      |.ok _ h'=>.ok (.ref h.length) h'
      |_=>.no)
     |none=>.no)
    |_=>.no):=rfl
   rw[hev]at hr hRR
   clear hev
   cases hi:r.ev (d+1,none) CT C1 iter with
   |no=>rw[hi]at hr;refine bE hr λy C7 q=>?_;clear hr;exact rV q
   |exc k h=>rw[hi]at hr;refine bE hr λy C7 q=>?_;clear hr;exact rV q
   |ok xv mh1=>
   rw[hi]at hr hRR
   dsimp only at hr hRR
   cases ht:fF xv mh1 with
   |none=>rw[ht]at hr;refine bE hr λy C7 q=>?_;clear hr;exact rV q
   |some it=>
   rw[ht]at hr hRR
   dsimp only at hr hRR
   cases hcp:r.cp (d,none) (CT.set CY none) (mh1++[.list []]) elt CY it ifs mh1.length with
   |no=>rw[hcp]at hr;refine bE hr λy C7 q=>?_;clear hr;exact rV q
   |exc k h=>rw[hcp]at hr;refine bE hr λy C7 q=>?_;clear hr;exact rV q
   |ok u mhE=>
   rw[hcp]at hRR
   dsimp only at hRR
   have hRR:=λX' s' D Cn=>hRR X' mhE s' mh1.length D Cn rfl
   refine G.ev S k8 _ _ ⟨λxv' C7 e X1 s1 v1 x1 r1=>?_,λk C7 e=>Bf (hi.symm.trans e),λq=>zQ (hi.symm.trans q)⟩
   rw[hi]at e
   injection e with e1 e2
   subst e1 e2
   refine oP x1.rel r1 ht λX2 s2 I x2 tI nI sI hI=>?_
   have R2:=x2.rel
   have mk:=Ext.make (own:=aq) (C:=C) (X:=X2) (C1:=mh1) (o:=.list []) (h':=s2.heap.push {cls:=.type "list",data:=.seq ([]:List Value).toArray}) (tk:=s2.toks) (a:=s2.heap.objs.size)
    R2 R2.toks (λb o e=>Dx _ e) (by rw[DM];exact Ee _) (Dy _) (Dz _ rfl) (λY hY _=>⟨[],0,Dz _ rfl,.nil⟩)
   refine FJ ?_ (by size_fits)
   generalize hX3:((X2.put s2.heap.objs.size (.obj mh1.length)).name mh1.length s2.heap.objs.size)=X3 at mk
   generalize hH3:s2.heap.push {cls:=.type "list",data:=.seq ([]:List Value).toArray}=H3 at mk
   refine aA mk λx3 rD=>?_;clear mk
   have x13:Ext C aq X s.heap X3 (mh1++[.list []]) {s2 with heap:=H3,toks:=s2.toks}:=(x1.trans x2).trans x3
   refine wpAny_newFunctionEnv (λy hy=>(by have:=(k7 y hy).1.1;simpa using this)) (λy hy=>by cases hy) (λh4 hn4 hs4=>?_) k2
   have hC:X3.tag H3.objs.size=none:=x3.rel.fresh _ (Dy _)
   have hCs:h4.objs.size=H3.objs.size+1:=by rw[hs4.1,DM]
   have kk:∀b o,H3.get? b=some o->h4.get? b=some o:=λb o e=>(hs4.2 b (Et (EU e))).trans (Dx _ e)
   refine du (id hn4) λoC esC epC gC _ _=>?_
   have x4:=Ext.hide (own:=aq) (C:=C) x3.rel (h':=h4) (tk:=s2.toks) (a:=H3.objs.size) R2.toks kk (by show H3.objs.size<=_;exact ED (DK (Eq.symm hCs))) (Dy _) gC
   have x14:=x13.trans x4
   generalize hX4:X3.put H3.objs.size .priv=X4 at x4 x14
   have tC:X4.tag H3.objs.size=some .priv:=by(refine bt hX4 ?_);exact Wd.put_self
   have lt13:∀b t,X.tag b=some t->b≠H3.objs.size:=λb t q z=>by have:=x13.le.tag b t q;rw[z,hC]at this;exact bq this
   have nIX:X.tag I=none:=by
    cases z:X.tag I with
    |none=>rfl
    |some t=>have:=x1.le.tag _ _ z;rw[nI]at this;exact bq this
   have nCX:X.tag H3.objs.size=none:=by
    cases z:X.tag H3.objs.size with
    |none=>rfl
    |some t=>exact absurd rfl (lt13 _ _ z)
   have tI3:X3.tag I=some .priv:=x3.le.tag _ _ tI
   have hIC:I≠H3.objs.size:=λq=>by rw[q,hC]at tI3;exact bq tI3
   have V:=S.V
   have hscl:∀y,(bW C3 csc).names.lookup y=(csc.names.lookup y).map λk=>if(k==.free&&C3.names.lookup y==some .cell)=true then .cell else k:=λy=>lG k1
   have xloc:(bW C3 csc).names.lookup x=some .local:=by unfold aJ at k4;exact D2 k4
   have xcsc:csc.names.lookup x=some .local:=by
    rw[hscl]at xloc
    cases z:csc.names.lookup x with
    |none=>rw[z]at xloc;exact bq xloc
    |some k=>
     rw[z,Hm]at xloc
     injection xloc with xloc
     split at xloc
     ·cases xloc
     ·exists xloc;rfl
   have seen:∀i y,(dW C3 csc C2 CY x)[i]? =some (some y)->(i=CY/\y=x)\/(i≠CY/\C2[i]? =some (some y)/\csc.names.lookup y=some .free/\C3.names.lookup y=some .cell):=λi y q=>by
    unfold dW at q
    by_cases z:i=CY
    ·subst z
     rw[Ga]at q
     simp only[if_true]at q
     split at q
     ·injection q with q;injection q with q;exact .inl ⟨rfl,q.symm⟩
     ·exact bq q
    ·rw[DB (Eb z),DZ]at q
     right
     refine⟨z,?_⟩
     cases w:C2[i]? with
     |none=>rw[w]at q;exact bq q
     |some oy=>
      rw[w,Hm]at q
      injection q with q
      induction oy using Option.casesOn with
      |none=>exact bq q
      |some y'=>
       rw[Option.filter_some]at q
       split at q
       ·rename_i hh
        injection q with q
        subst q
        unfold aJ at hh
        simp only[Bool.and_eq_true,beq_iff_eq]at hh
        exact⟨rfl,hh.1,hh.2⟩
       ·exact bq q
   have free_ne:∀y,csc.names.lookup y=some .free->y≠x:=λy q z=>by rw[z,xcsc]at q;cases q
   have cell_of:∀y,csc.names.lookup y=some .free->∃c,cl.lookup y=some c/\CS.cells.lookup y=some c:=λy q=>by
    refine aB (D3.mp (hcl2 y (mem_of_lookup q))) λc hc=>?_
    exact⟨c,hc,hcl1 y c hc⟩
   have kcell:∀y,csc.names.lookup y=some .free->C3.names.lookup y=some .cell->(bW C3 csc).names.lookup y=some .cell:=λy q1 q2=>by
    rw[hscl,q1,q2];rfl
   have S4F:FOk C A (d,none) X4 h4 CW:=by
    have F:=S.F.ext0 x14
    exact⟨F.frames,Be F.depth,Be F.units,F.hnone,F.hsome⟩
   have V4:=V.ext x14
   have VC:ERel X4 h4 (bW C3 csc) (dW C3 csc C2 CY x) (CT.set CY none) (compEnvC csc cl H3.objs.size CS):=by
    refine⟨ij V.hsc,k2,V.hglob,V.hblt,tC,⟨_,hn4,λi y v q1 q2=>?_⟩,λi j y q1 q2=>?_,λy c hc=>?_,λy z c q1 q2=>V.hapart y z c (hcl1 _ _ q1) (hcl1 _ _ q2),λi y q1 q2=>?_⟩
    ·refine aA (sh q2) λq3 q4=>?_
     rcases seen i y q1 with⟨z,_⟩|⟨_,z1,z2,z3⟩
     ·exact absurd z q3
     ·refine ai V4.hns λm hm hs=>?_
      refine ai (hs i y v z1 q4) λv' r' w=>?_
      refine⟨v',r',.inr ?_⟩
      rcases w with⟨w1,_⟩|⟨w1,c,w2,w3⟩
      ·unfold PySem.Env.kindOf at w1;rw[V.hsc,z3]at w1;cases w1
      ·refine ai (cell_of y z2) λc' c1 c2=>?_
       rw[w2]at c2;cases c2
       exact⟨by show(relabel csc CS).names.lookup y=_;(exists(ij V.hsc));exact kcell y z2 z3,c,c1,w3⟩
    ·rcases seen i y q1 with⟨z1,z2⟩|⟨z1,z2,z3,z4⟩<;>rcases seen j y q2 with⟨w1,w2⟩|⟨w1,w2,w3,w4⟩
     ·exists z1,w1;rfl
     ·exact absurd z2 (free_ne y w3)
     ·exact absurd w2 (free_ne y z3)
     ·exact V.hinj i j y z2 w2
    ·refine eJ (V4.hcells y c (hcl1 _ _ hc)) λt _ v hv=>?_
     refine⟨t,lt13 c _ (V.hcells y c (hcl1 _ _ hc)).1,v,hv⟩
    ·unfold aJ at q2
     have q2:=D2 q2
     rcases seen i y q1 with⟨_,z⟩|⟨_,z1,z2,z3⟩
     ·rw[z,xloc]at q2;cases q2
     ·refine ai (cell_of y z2) λc c1 _=>?_;exact⟨c,c1⟩
   have S4:St C A (d,none) X4 (mh1++[.list []]) {s2 with heap:=h4,toks:=s2.toks} (bW C3 csc) (dW C3 csc C2 CY x) (CT.set CY none) (compEnvC csc cl H3.objs.size CS) CW:=⟨S4F,x4.rel,VC⟩
   have x34:=x3.trans x4
   have loop:codeAny (model C.prog C.w) A (.compLoop (.ListComp elt' [⟨.Name x xp,iter',ifs',0⟩] csc cp) 0 (.ref I) (.ref s2.heap.objs.size) (compEnvC csc cl H3.objs.size CS)) (RR (.ref s2.heap.objs.size) H3.objs.size) {s2 with heap:=h4,toks:=s2.toks}:=by
    refine G.cp S4 rfl (λw q=>absurd rfl (sh q).1) ?_ k4 (by unfold cX at k5;simpa using k5) k9 k10 (x4.le.tag _ _ tI3) hIC (λy c hc q=>?_) (λe he=>?_) ?_ (x4.le.at_ _ _ (by cases rD;assumption)) (λu' C7 e' X' s' x' hns=>?_) ⟨u,mhE,hcp⟩
    ·unfold dW
     rw[DG]
     rw[DD]
     exact(Dr.mp k3).1
    ·have:=(V.hcells y c (hcl1 _ _ hc)).1
     rw[q,nIX]at this;exact bq this
    ·refine ai S.F.frames λouter f1 f2=>?_
     rw[f1]at he
     refine gJ (f2 e he) λ_ L _ _ _ q1 q2 _=>?_
     refine⟨λq=>?_,λq=>?_⟩
     ·rw[q1]at q;cases q;rw[nIX]at q2;exact bq q2
     ·rw[q1]at q;cases q
      exact lt13 _ _ q2 rfl
    ·exact hI.keep x34.le λob hob=>x34.priv I ob tI (λq=>q) hob
    ·rw[hcp]at e'
     injection e' with _ e'
     subst e'
     have xx:Ext C aq X s.heap X' mhE s':=((x14.own λ_ q=>q.elim).trans x').drop λb hb=>.inr λq=>by
      rcases hb with rfl|rfl
      ·rw[nIX]at q;exact bq q
      ·replace q:X.tag H3.objs.size=some .priv:=q
       rw[nCX]at q;exact bq q
     exact hRR X' s' s2.heap.objs.size H3.objs.size xx (x'.le.at_ _ _ (x4.le.at_ _ _ (by cases rD;assumption))) (x'.le.tag _ _ tC) nCX hns
   exact codeAny_compStart_list loop (vB (hI.keep x34.le λob hob=>x34.priv I ob tI (λq=>q) hob) loop)
theorem kp{elt iter:CF.E}{CY:Nat}{ifs:List CF.E}{k:Nat}{C7:Hp}:aF C.P r d CT C1 (.comp elt CY iter ifs)≠.exc k C7:=λq=>by
 unfold aF at q
 dsimp only at q
 rcases d with⟨_|d,_|e⟩
 ·exact xl q
 ·exact xl q
 ·dsimp only[Option.isSome_none]at q
  generalize r.ev _ _ _ _=y at q
  induction y using R.casesOn with
  |no=>exact xl q
  |exc=>exact xl q
  |ok x h=>
   dsimp only at q
   generalize fF x h=o at q
   induction o using Option.casesOn with
   |none=>exact xl q
   |some it=>
    dsimp only at q
    generalize r.cp _ _ _ _ _ _ _ _=z at q
    induction z using R.casesOn with
    |no=>exact xl q
    |exc=>exact xl q
    |ok=>exact Bf q
 ·exact xl q
theorem qL{X':Wd}{C7:Hp}{s':Shared}{Cn:Addr}{h':Heap}(x:Ext C aq X s.heap X' C7 s')(t:X'.tag Cn=some .priv)(n:X.tag Cn=none)(hs:Heap.SameBut Cn s'.heap h'):Ext C aq X s.heap X' C7 {s' with heap:=h'}:=
 ((x.own λ_ q=>q.elim).trans (Ext.priv1 (own:=λa=>a=Cn) (tk:=s'.toks) x.rel t rfl x.rel.toks (λb o hb e=>(hs.2 b hb).trans e) (DK hs.1.symm))).drop λb hb=>.inr λq=>by
  replace hb:b=Cn:=hb
  subst hb
  replace q:X.tag b=some .priv:=q
  rw[n]at q;exact bq q
theorem sj{elt':Expr}{gens:List Comprehension}{csc:Scope}{cp:Pos}{m:CF.E}(ck:az n C3 C2 (.ListComp elt' gens csc cp) m=true):
 ∃n' elt CY iter ifs x xp iter' ifs',n=n'+1/\m=.comp elt CY iter ifs/\gens=[⟨.Name x xp,iter',ifs',0⟩]:=by
 induction n using Nat.casesOn with
 |zero=>exact aC ck
 |succ n=>
  induction m using E.casesOn<;>first|exact aC ck|skip
  rename_i elt CY iter ifs
  refine cN gens (show one _ gens=true from ck) ?_;clear ck;intro g ck
  obtain⟨tg,it,fs,z⟩:=g
  refine aQ tg (show bg _ tg=true from ck) ?_;clear ck;intro x xp ck
  refine aA (DW.mp ck) λhz _=>?_
  obtain rfl:z=0:=DQ.mp hz
  exact⟨n,elt,CY,iter,ifs,x,xp,it,fs,rfl,rfl,rfl⟩
theorem mc{elt' iter':Expr}{x:Str}{xp cp:Pos}{ifs':List Expr}{csc:Scope}{elt iter:CF.E}{CY:Nat}{ifs:List CF.E}(V:ERel X s.heap C3 C2 CT CS)
 (ck:az (n+1) C3 C2 (.ListComp elt' [⟨.Name x xp,iter',ifs',0⟩] csc cp) (.comp elt CY iter ifs)=true):
 ∃cl,closureFor csc CS=pure cl/\(∀y c,cl.lookup y=some c->CS.cells.lookup y=some c)/\(∀y,(y,NameKind.free)∈csc.names->(cl.lookup y).isSome=true)/\csc.kind=.function/\
  (∀y∈csc.names,y.2=.local->csc.names.lookup y.1=some .local)/\∀v,foldedSetIterable iter' CS v=pure v:=by
 have ck:(C3.kind==.function&&csc.kind==.function&&C2[CY]? ==some none&&aJ (bW C3 csc) x .local&&cX x&&
  !cC iter'&&csc.names.all (λy=>y.2 !=.cell&&(y.2 !=.local||csc.names.lookup y.1==some .local)&&(y.2 !=.free||(aJ csc y.1 .free&&aJ C3 y.1 .cell&&C2.contains (some y.1))))&&az n C3 C2 iter' iter&&az n (bW C3 csc) (dW C3 csc C2 CY x) elt' elt&&cT (az n (bW C3 csc) (dW C3 csc C2 CY x)) ifs' ifs)=true:=ck
 refine zG ck λk1 k2 k3 k4 k5 k6 k7 k8 k9 k10=>?_;clear ck;(try simp only[Bool.and_eq_true,beq_iff_eq,Bool.not_eq_true',List.all_eq_true]at k1 k2 k3 k4 k5 k6 k7 k8 k9 k10)
 refine bo (gP (CS:=CS) csc.names [] (λy hy hf=>by
  have q:=(k7 y hy).2
  rw[hf]at q
  replace q:((aJ csc y.1 .free&&aJ C3 y.1 .cell)&&C2.contains (some y.1))=true:=q
  simp only[Bool.and_eq_true]at q
  obtain⟨⟨_,q2⟩,q3⟩:=q
  obtain⟨i,hi⟩:=FL (DS.mp q3)
  exact V.hcell i y.1 hi q2) (λy c q=>by cases q)) λcl a b c=>?_
 have ha:closureFor csc CS=pure cl:=by
  have e:closureFor csc CS=((forIn csc.names [] (λ(p:Str×NameKind) cs=>if p.2==.free then(do let c<-cellOf CS p.1;pure (ForInStep.yield ((p.1,c)::cs)))else pure (ForInStep.yield cs)):Sem (List (Str×Addr)))>>=pure):=rfl
  exists e,a;rfl
 refine⟨cl,ha,b,λy hy=>c y (.inl hy),k2,λy hy hl=>?_,λv=>by cases iter'<;>first|rfl|cases k6⟩
 have q:=(k7 y hy).1.2
 rw[hl]at q
 replace q:(csc.names.lookup y.1==some .local)=true:=q
 exact D2 q
theorem yc{elt iter:CF.E}{CY:Nat}{ifs:List CF.E}(G:GoodE C r)(S:St C A d X C1 s C3 C2 CT CS CW)(ck:az (n+1) C3 C2 e (.comp elt CY iter ifs)=true):Sim C A X s VRel (aF C.P r d CT C1 (.comp elt CY iter ifs)) (eval e CS):=λQ E o=>by
 induction e using Expr.casesOn<;>first|exact aC ck|skip
 rename_i elt' gens csc cp
 refine dV (sj ck) λ_ _ _ _ _ x xp iter' ifs' q1 q2 e'17=>?_;subst e'17
 clear q1 q2
 refine gf (mc S.V ck) λcl a b c k2 hn hf=>?_
 rw[eval_ListComp]
 have hr:∃y C7,aF C.P r d CT C1 (.comp elt CY iter ifs)=.ok y C7:=by
  cases q:aF C.P r d CT C1 (.comp elt CY iter ifs)with
  |no=>exact absurd q o.no
  |exc k h=>exact absurd q kp
  |ok y h=>exact⟨y,h,rfl⟩
 refine wpAny_comprehension_free (use:=none) rfl hf a k2 hn (ma G S ck b c hr λX' C7 s' k D Cn e x' hD tC nC hns=>?_)
 refine aB hns λm hm=>?_;clear hns
 exact⟨m,hm,λh' hs'=>o.ok _ C7 e X' _ _ (qL x' tC nC hs') (.ref k D hD)⟩
theorem vD(G:GoodE C r){elt:Expr}{gens:List Comprehension}{csc:Scope}{pos:Pos}{m:CF.E}{u:Value->Sem Unit}{Q:Unit->Shared->Prop}{E:Value->Shared->Prop}
 (S:St C A d X C1 s C3 C2 CT CS CW)(ck:az n C3 C2 (.ListComp elt gens csc pos) m=true)
 (h:∀v C7,aF C.P r d CT C1 m=.ok v C7->∀X' s' v' Cn,Ext C aq X s.heap X' C7 s'->VRel X' v v'->X'.tag Cn=some .priv->X.tag Cn=none->(∃m,s'.heap.Ns Cn m)->
  wpAny (model C.prog C.w) A (u v') (λ_ s''=>∃m,s''.heap.Ns Cn m/\∀h',Heap.SameBut Cn s''.heap h'->Q () {s'' with heap:=h'}) E s')
 (hr:∃v C7,aF C.P r d CT C1 m=.ok v C7):wpAny (model C.prog C.w) A (evalThenUse (.ListComp elt gens csc pos) CS u) Q E s:=by
 refine dV (sj ck) λ_ elt CY iter ifs x xp iter' ifs' e'18 e'19 e'20=>?_;subst e'18;subst e'19;subst e'20
 refine gf (mc S.V ck) λcl a b c k2 hn hf=>?_
 show wpAny _ A (do let _<-comprehension _ csc CS _ (newList []) false (eval iter' CS) (some u)) _ _ s
 refine Dn (EO (wpAny_comprehension_free (use:=some u) (Q:=λ_ s'=>Q () s') rfl hf a k2 hn (ma G S ck b c hr λX' C7 s' k D Cn e x' hD tC nC hns=>?_)) (λ_ s' hq=>Dv hq) λ_ _ e=>e)
 exact h _ C7 e X' s' _ Cn x' (.ref k D hD) tC nC hns
theorem vE(d:Dp)(CT:Env)(h:Hp)(x:List Nat):aF C.P r d CT h (.str x)=.ok (.str x) h\/aF C.P r d CT h (.str x)=.no:=.inl rfl
end
section
variable{C:Cx}{r:Rec}{A:Around}{d:Dp}{X:Wd}{C1:Hp}{s:Shared}{C3:Scope}{C2:List (Option Str)}{CT:Env}{CS CW:PySem.Env}{n:Nat}{e:Expr}
theorem sr{m:CF.E}(K:CxCall C)(G:GoodE C r)(S:St C A d X C1 s C3 C2 CT CS CW)(ck:az n C3 C2 e m=true):Sim C A X s VRel (aF C.P r d CT C1 m) (eval e CS):=by
 induction n using Nat.casesOn with
 |zero=>exact aC ck
 |succ n=>
  cases m with
  |none=>exact xE S ck
  |bool b=>exact xF S ck
  |int i=>exact Aa S ck
  |str x=>exact Ab S ck
  |C8 i=>exact Ac S ck
  |gv i=>exact By K.more S ck
  |bin op a b=>exact Ad G S ck
  |neg a=>exact Ae G S ck
  |inv a=>exact Af G S ck
  |not a=>exact Ag G S ck
  |and es=>exact Ah G S ck
  |or es=>exact Bz G S ck
  |cmp a ops es=>exact Ai G S ck
  |ite t a b=>exact Aj G S ck
  |list es=>exact xG G S ck
  |tup es=>exact Ak G S ck
  |dict1 k v=>exact vi S ck
  |comp elt CY iter ifs=>exact yc G S ck
  |call f args=>exact ya K G S ck
  |new c args=>exact Ax K G S ck
  |cinit c f args=>exact vz K G S ck
  |xinit self args=>exact vA K G S ck
  |umeth c f obj args=>exact vy K G S ck
  |Dc b args=>exact vk K.more G S ck
  |meth m obj args=>exact xL G S ck
  |repl obj a b=>exact xM G S ck
  |attr obj a=>exact xH K.more G (λR rx hat o=>jj K.more R rx hat o) S ck
  |sub obj idx=>exact Al G S ck
  |slice obj lo hi=>exact vj G S ck
  |fstr es=>exact xT G S ck
theorem yd{st:Stmt}{m:CF.S}(K:CxCall C)(G:GoodE C r)(H:GoodS C r)(S:St C A d X C1 s C3 C2 CT CS CS)(ck:eS n C3 C2 st m=true):eO C A X s C3 C2 CS (ci C.P r d CT C1 m) (exec st CS):=by
 induction n using Nat.casesOn with
 |zero=>exact aC ck
 |succ n=>
  cases m with
  |expr e=>exact xU G S ck
  |C9 i e=>exact tG G S ck
  |unpack is e=>exact tJ G S ck
  |Dd o a e=>exact qB K.more G S ck
  |Dg o i e=>exact qC K.more G S ck
  |aug i op e=>exact Ap G S ck
  |Di o a op e=>exact qD K.more G S ck
  |Dh o i op e=>exact qF K.more G S ck
  |iff t a b=>exact Aq G H S ck
  |whl t b=>exact As H S ck
  |«for» i it b=>exact Au G H S ck
  |ret e=>exact Ar G S ck
  |cont=>exact xV S ck
  |pass=>exact xW S ck
  |raise e=>exact vw K.more G S ck
  |«try» b c i h=>exact Av K.more K.clss H S ck
end
theorem Ay(C:Cx):GoodE C zM where
 lit _ _ _ _:=.inr rfl
 noexc _ _ _ _ _ _ _ _ _ q:=xl q
 evU _ _ _ hr:=by refine bE hr λ_ _ q=>?_;clear hr;exact rV q
 fs _ _ _:=λQ E o=>o.absurd
 fn _ _ _ _ _ _:=λRr o=>o.no rfl|>.elim
 chk _ _:=λQ E o=>o.absurd
 cp _ _ _ _ _ _ _ _ _ _ _ _ _ _ _ hex:=by refine bE hex λ_ _ q=>?_;clear hex;exact rV q
 ev _ _:=λQ E o=>o.absurd
 evT _ _:=λQ E o=>o.absurd
 evs _ _:=λQ E o=>o.absurd
 ands _ _:=λQ E o=>o.absurd
 andsT _ _:=λQ E o=>o.absurd
 cmps _ _ _ _:=λQ E o=>o.absurd
 cmpsT _ _ _ _:=λQ E o=>o.absurd
theorem Az(C:Cx):GoodS C zM where
 ex _ _:=λQ E o=>(o.no rfl).elim
 exs _ _:=λQ E o=>(o.no rfl).elim
 wl _ _ _ o:=(o.no rfl).elim
 lp _ _ _ _ _ _ _ _ o:=(o.no rfl).elim
theorem AA{C:Cx}{r:Rec}(K:CxCall C)(G:GoodE C r)(H:GoodS C r):GoodE C (zN C.P r) where
 lit d CT h x:=vE (r:=r) (C:=C) d CT h x
 noexc _ _ _ _ _ _ _ _ _:=kp (C:=C)
 evU S ck h hr:=vD G S ck h hr
 fs S ck ha:=xS G S ck ha
 fn hO R hf rv _ hA:=xZ K H hO R hf rv hA
 chk S ck:=vC G S ck
 cp S hd hsl hx hk hp ck1 ck2 hI hIL hIc hfr hit hD hok hex:=yb G S hd hsl hx hk hp ck1 ck2 hI hIL hIc hfr hit hD hok hex
 ev S ck:=sr K G S ck
 evT {A d X C1 s C3 C2 CT CS CW n e m} S ck:=by
  induction n using Nat.casesOn with
  |zero=>exact aC ck
  |succ n=>exact vn G S ck (sr K G S ck)
 evs S ck:=vh K.more G S ck
 ands S ck:=tz K.more G S ck
 andsT S ck:=qw K.more G S ck
 cmps S ck hs rx:=tA K.more G S ck hs rx
 cmpsT S ck hs rx:=qx K.more G S ck hs rx
theorem AC{C:Cx}{r:Rec}(K:CxCall C)(G:GoodE C r)(H:GoodS C r):GoodS C (zN C.P r) where
 ex S ck:=yd K G H S ck
 exs S ck:=vr H S ck
 wl S ck1 ck o:=xY G H S ck1 ck o
 lp S hd hs ck hI hIo hIf hit o:=xX H S hd hs ck hI hIo hIf hit o
theorem eP{C:Cx}(K:CxCall C):∀n,GoodE C (ak C.P n)/\GoodS C (ak C.P n)
 |0=>⟨Ay C,Az C⟩
 |n+1=>⟨AA K (eP K n).1 (eP K n).2,AC K (eP K n).1 (eP K n).2⟩
noncomputable def jJ:List CF.S:=f_law.body.tail
noncomputable def qM:Env:=[none,some (.ref 0),none,none,none,none,none,none,none,none]
noncomputable def vF(xs:List Int):Hp:=[.list ((xs.take 4).map V.int)]
section
variable{C:Cx}{r:Rec}{A:Around}{d:Dp}{X:Wd}{s:Shared}
theorem vG(K:CxCall C)(H:GoodS C r){fa b:Addr}{o:Obj}{items:List Value}{k:Nat}{xs:List Int}(hf:C.fns 68=some fa)(hO:COk C A (d.1+1,d.2) X s.heap)(R:Rel C X [] s)(hb:X.tag b=some (.frozen o))(hc:o.cls=.type "list")
 (hd:o.data=.seq items.toArray k)(hr:∀Y:Wd,VRels Y (xs.map V.int) items)(hl:items.length<=63){A':Around}(hA:Near A A'):
 CSim C A' X s (RS.toR (r.exs d qM (vF xs) jJ)) (.call (.ref fa) ⟨[.ref b],[]⟩):=by
 refine vx K (fn:=f_law) (args:=[none]) hO R hf (by rw[K.prg];rfl) rfl rfl (λi v e=>by cases i<;>simp at e) hA λq slots fd body C4 X0 h₁ tk hnm hbody ck x0 S hm Q E o'=>?_
 have e:funNames[68]? =some ("law",["script","s","parts","n","text","geo","zob","pos","got","fault"]):=rfl
 rw[e]at hnm
 cases hnm
 clear e
 generalize hnmE:eL ["script","s","parts","n","text","geo","zob","pos","got","fault"]=C2 at ck S hm o'
 induction body using List.casesOn with
 |nil=>exact aC ck
 |cons st sts=>
  replace ck:(eS 60 fd.scope C2 st (.C9 1 (.slice (.C8 0) none (some (.int 4))))&&dY (eS 60 fd.scope C2) sts jJ)=true:=ck
  replace ck:=and2 ck
  refine aA ck λck1 ck2=>?_;clear ck
  refine wpAny_execs_cons ?_
  refine cw st (show cu _ st=true from ck1) ?_;clear ck1;intro ts v p ck1
  refine cN ts (show one _ ts=true from ck1) ?_;clear ck1;intro t0 ck1
  refine aQ t0 (show bg _ t0=true from ck1) ?_;clear ck1;intro x px ck1
  replace ck1:(bO fd.scope C2 1 x&&az 59 fd.scope C2 v (.slice (.C8 0) none (some (.int 4))))=true:=ck1
  replace ck1:=and2 ck1
  obtain⟨c0,ck1⟩:=ck1
  refine bF v (show bv _ v=true from ck1) ?_;clear ck1;intro ob ix p' ck1
  refine hH ix (show jG _ ix=true from ck1) ?_;clear ck1;intro l u stp sp ck1
  induction stp using Option.casesOn with
  |some=>exact aC ck1
  |none=>
   replace ck1:(az 58 fd.scope C2 ob (.C8 0)&&Bg (az 58 fd.scope C2) l none&&Bg (az 58 fd.scope C2) u (some (.int 4)))=true:=ck1
   refine jT ck1 λc1 c2 c3=>?_;clear ck1
   induction l using Option.casesOn with
   |some=>exact aC c2
   |none=>
   induction u using Option.casesOn with
   |none=>exact aC c3
   |some u=>
   replace c3:az 58 fd.scope C2 u (.int 4)=true:=c3
   refine aX u (show aN _ u=true from c3) ?_;clear c3;intro cc kk pp c3
   induction cc using Const.casesOn with
   |int c4=>
    replace c3:((4:Int)==c4)=true:=c3
    have c3:=D2 c3
    subst c3
    refine aQ ob (show bg _ ob=true from c1) ?_;clear c1;intro y yp c1
    replace c1:(C2[0]? ==some (some y)&&(aJ fd.scope y .local||aJ fd.scope y .cell)&&cX y)=true:=c1
    refine jT c1 λd1 _ d3=>?_;clear c1;(try simp only[beq_iff_eq]at d1 d3)
    have VV:=S.V
    refine wpAny_Assign_Name ?_ (ie rfl)
    refine fT ?_
    refine wpAny_Name ?_ (by unfold cX at d3;simpa using d3)
    have kb:h₁.get? b=some o:=x0.rel.frozen b o (x0.le.tag _ _ hb)
    have go:wpAny (model C.prog C.w) (A'.deeper C4) (evalPart none C4) (λvl s2=>wpAny (model C.prog C.w) (A'.deeper C4) (evalPart (some (.Constant (.int 4) kk pp)) C4) (λvu s3=>
     wpAny (model C.prog C.w) (A'.deeper C4) (subscriptTail (.Name y yp) (.Slice none (some (.Constant (.int 4) kk pp)) none sp) (.ref b) (.ref s3.heap.objs.size))
      (λv s'=>wpAny (model C.prog C.w) (A'.deeper C4) (storeName C4 x v) (λ_ s''=>wpAny (model C.prog C.w) (A'.deeper C4) (execs sts C4) Q E s'') E s') E {s3 with heap:=s3.heap.push {cls:=.type "slice",data:=.fields #[vl,vu,.none]}}) E s2) E {s with heap:=h₁,toks:=tk}:=by
     rw[evalPart_none]
     refine Dv ?_
     rw[evalPart_some]
     refine Hk ?_
     have H2:=Ext.grown (own:=aq) (C:=C) (X:=X0) (C1:=[]) (h':=h₁.push {cls:=.type "slice",data:=.fields #[partValue none,partValue (some (4,tk)),.none]}) (tk:=tk+1) S.R (DC _) (λb o e=>Dx _ e) (by rw[DM];exact Ee _)
     have kb2:(h₁.push {cls:=.type "slice",data:=.fields #[partValue none,partValue (some (4,tk)),.none]}).get? b=some o:=Dx _ kb
     refine d7 (T:="list") (ops:=[.ref h₁.objs.size,.ref b]) ⟨_,kb2,hc⟩ G8 ?_ rfl
     refine wpAny_getItem_list_slice (items:=items.toArray) (lo:=none) (hi:=some 4) (st:=none) ⟨_,kb2,hc,k,hd⟩ ⟨_,Dz _ rfl,rfl,rfl⟩ .none (.int 4 tk) .none (by simp) ?_ (by(exists DV,D7);exact aT hl rfl)
     have ep:slicePick items.toArray none (some 4) none=((items.take 4).drop 0).toArray:=hU (lo:=none) (hi:=some (.int 4)) (ql:=none) (qu:=some (4,tk)) items .none (.some 4 tk) rfl rfl
     exists ep,List.drop_zero
     have mk:=Ext.make (own:=aq) (C:=C) (X:=X0) (C1:=[]) (o:=.list ((xs.take 4).map V.int)) (tk:=tk+1) (a:=(h₁.push {cls:=.type "slice",data:=.fields #[partValue none,partValue (some (4,tk)),.none]}).objs.size)
      H2.rel (DC _) (λb o e=>Dx {cls:=.type "list",data:=.seq (items.take 4).toArray} e) (by simp only[Heap.size_push];exact Ee _) (Dy _) (Dz _ rfl) (λY hY _=>⟨_,0,Dz _ rfl,by(exists List.map_take);exact(hr Y).take 4⟩)
     refine aA mk λmk1 mk2=>?_;clear mk
     have x1:=H2.trans mk1
     refine db (S.ext x1) c0 mk2 λs' x' V'=>?_
     have xx:=(x1.own (own':=ownOf C4) λ_ q=>q.elim).trans x'
     exact H.exs (S.extS xx V') ck2 Q E (o'.from xx)
    rcases hm 0 y (.ref b) (DC _) d1 rfl with⟨h1,m,h2,h3⟩|⟨h1,c,h2,h3⟩
    ·exact GW (by(exists VV.hsc);exact VV.hkind) h1 h2 h3 go
    ·exact G6 (by(exists VV.hsc);exact VV.hkind) h1 h2 h3 go
   |_=>exact aC c3
end
noncomputable def clsA:List Addr:=[66,86,105,126,266,287,343]
noncomputable def CK:List Addr:=[65,85,104,125,265,286,342]
noncomputable def fnA:List Addr:=[28,35,42,49,63,83,102,123,137,144,151,158,165,172,179,186,193,200,207,214,221,228,242,249,284,298,305,312,319,326,340,354,361,368,375,382,389,396,403,410,417,424,431,438,445,452,459,466,473,480,487,494,501,508,515,522,529,536,543,550,557,564,571,576,581,588,593,598,605]
noncomputable def BB:List Addr:=[27,34,41,48,62,82,101,122,136,143,150,157,164,171,178,185,192,199,206,213,220,227,241,248,283,297,304,311,318,325,339,353,360,367,374,381,388,395,402,409,416,423,430,437,444,451,458,465,472,479,486,493,500,507,514,521,528,535,542,549,556,563,570,575,580,587,592,597,604]
noncomputable def BC:List Addr:=[2]++clsA++CK++[1,108,109]++fnA++BB
noncomputable def BD(h:Heap):List Addr->Frag
 |[]=>[]
 |a::as=>match h.get? a with
  |some o=>(a,o)::BD h as
  |none=>BD h as
theorem AD{h:Heap}:∀as,Frag.In (BD h as) h:=by
 intro as
 induction as with
 |nil=>exact λa o e=>by cases e
 |cons b as ih=>
  intro a o e
  unfold BD at e
  split at e
  ·rename_i o' q
   rw[EJ]at e
   split at e
   ·rename_i z
    cases e
    exists(D2 z);exact q
   ·exact ih a o e
  ·exact ih a o e
noncomputable def lH{α:Type}(p:Nat->α->Bool):Nat->List α->Bool
 |_,[]=>true
 |n,a::l=>p n a&&lH p (n+1) l
theorem dM{α:Type}{p:Nat->α->Bool}:∀{l:List α}{n i:Nat}{a:α},lH p n l=true->l[i]? =some a->p (n+i) a=true
 |[],_,_,_,_,h=>by simp at h
 |b::l,n,0,a,h,e=>by
  simp at e;subst e
  exact(DW.mp h).1
 |b::l,n,i+1,a,h,e=>by
  have:=dM (i:=i) (DW.mp h).2 (by simpa using e)
  exists(show n+(i+1)=n+1+i by exact DJ (Dm.mp (ao [n,i] [] (.le (.a (.v 0) (.a (.v 1) (.n 1))) (.a (.a (.v 0) (.n 1)) (.v 1))) 1 rfl)) (Dm.mp (ao [n,i] [] (.le (.a (.a (.v 0) (.n 1)) (.v 1)) (.a (.v 0) (.a (.v 1) (.n 1)))) 1 rfl)));exact this
noncomputable def ye(o:Obj):Bool:=match o.cls with
 |.type t=>t=="list"
 |_=>false
noncomputable def nt(K:Frag)(Ca:Addr)(exc:Bool):Bool:=
 (clsIn K Ca).any (·.hasDict)&&attrN.all (λx=>findIn K (.ref Ca) x==some none)&&
 findIn K (.ref Ca) "__getattribute__"==some (some (.builtin (if exc then "BaseException.__getattribute__"else "object.__getattribute__")))&&
 findIn K (.ref Ca) "__setattr__"==some (some (.builtin "object.__setattr__"))&&(exc||plainOver K Ca)&&(!exc||gx K Ca)&&findIn K (.ref Ca) "__getattr__"==some none&&
 typeIn K (.ref Ca)==some (.type "type")&&(!exc||exmOne K (.ref Ca) (.ref Ca)==some true)
theorem tL{K:Frag}{Ca:Addr}{exc:Bool}(h:nt K Ca exc=true):ClsOk K Ca exc:=by
 unfold nt at h
 refine B2 h λh1 h2 h3 h4 h5 h6 h7 h8 h9=>?_;clear h;(try simp only[beq_iff_eq,Bool.or_eq_true,Bool.not_eq_true',List.all_eq_true,Option.any_eq_true]at h1 h2 h3 h4 h5 h6 h7 h8 h9)
 refine⟨?_,λa ha=>?_,h3,h4,λe=>?_,λe=>?_,h7,h8,λe=>?_⟩
 ·refine ai h1 λcd a b=>?_;clear h1;exact⟨cd,a,b⟩
 ·refine aB (D3.mp ha) λx hx=>?_
  have:ay a=x:=by unfold ay;(exists hx);rfl
  exists this
  exact h2 x (DR hx)
 ·rcases h5 with q|q
  ·rw[e]at q;cases q
  ·exact q
 ·rcases h6 with q|q
  ·rw[e]at q;cases q
  ·exact q
 ·rcases h9 with q|q
  ·rw[e]at q;cases q
  ·exact q
noncomputable def qN(K:Frag)(c:Nat)(Ca:Addr):Bool:=
 let exc:=(prog.excs[c]?).getD false
 nt K Ca exc&&keepIn K (.ref Ca)&&(exc||makesIn K Ca)&&(!exc||(ii K Ca&&specialIn K (.ref Ca) "__call__"==some (some (.builtin "type.__call__"))&&instIn K (.ref Ca) (.type "type")==some true))&&
 (match prog.inits[c]? with
  |some f=>(match fnA[f]? with
   |some fa=>findIn K (.ref Ca) "__init__"==some (some (.ref fa))&&typeIn K (.ref fa)==some (.type "function")&&specialIn K (.ref Ca) "__getattribute__"==some (some (.builtin "type.__getattribute__"))&&readsIn K Ca (.type "type")&&
    (match findCls K (.ref Ca) (.type "type") "__init__"with|some (.val v)=>v==.ref fa|_=>false)
   |none=>false)
  |none=>true)
theorem ik{α:Type}{o:Option α}{p:α->Bool}(h:o.any p=true){P:Prop}(k:∀a,o=some a->p a=true->P):P:=by
 induction o using Option.casesOn with
 |none=>exact aC h
 |some a=>exact k a rfl h
noncomputable def BE(f:FuncData->Bool)(d:Data):Bool:=@Data.casesOn (λ_=>Bool) d false cI ax ax av ax cI f cI cI false
noncomputable def Cu(f:Array Value->Bool)(d:Data):Bool:=@Data.casesOn (λ_=>Bool) d false cI (λv _=>f v) ax av ax cI cI cI cI false
noncomputable def Cv(f:Int->Bool)(v:Value):Bool:=@Value.casesOn (λ_=>Bool) v false false false cI (λi _=>f i) ax ax ax cI cI cI
noncomputable def Cw(f:Str->Bool)(v:Value):Bool:=@Value.casesOn (λ_=>Bool) v false false false cI ax ax (λs _=>f s) ax cI cI cI
noncomputable def zp(K:Frag)(f:Nat)(fa:Addr):Bool:=keepIn K (.ref fa)&&(K.lookup fa).any λo=>(prog.funs[f]?).any λfn=>BE (λfd=>codeIn K fd.code fd.qualname&&Cr f fn fd) o.data
noncomputable def qO(K:Frag)(Ca:Addr)(f:Nat)(fa:Addr):Bool:=!(lu[f]? ==some (Str.ofString "Random.next"))||(findIn K (.ref Ca) fw==some (some (.ref fa))&&typeIn K (.ref fa)==some (.type "function"))
noncomputable def allBI:List BI:=[.len,.range,.list,.ord,.sum,.abs,.max]
noncomputable def qP(v:V)(x:Value):Bool:=@V.casesOn (λ_=>Bool) v (x==.none) (λb=>x==.bool b) (λi=>Cv (·==i) x) (λs=>Cw (λt=>t.cps.toList==s) x) cI cI av
noncomputable def nu:List V->List Value->Bool
 |[],[]=>true
 |v::vs,x::xs=>qP v x&&nu vs xs
 |_,_=>false
theorem md{X:Wd}{v:V}{x:Value}(h:qP v x=true):VRel X v x:=by
 induction v using V.casesOn with
 |none=>exact rwl (D2 h) .none
 |bool b=>exact rwl (D2 h) (.bool _)
 |int i=>induction x using Value.casesOn with
  |int j t=>exact rwl (D2 h) (.int _ _)
  |_=>exact aC h
 |str s=>induction x using Value.casesOn with
  |str u t=>exact bt (D2 h) (.str u.cps.toList _)
  |_=>exact aC h
 |_=>exact aC h
theorem kr{X:Wd}:∀{vs:List V}{xs:List Value},nu vs xs=true->VRels X vs xs
 |[],[],_=>.nil
 |v::vs,x::xs,h=>.cons (md (DW.mp h).1) (kr (DW.mp h).2)
 |[],_::_,h=>by cases h
 |_::_,[],h=>by cases h
noncomputable def zq(K:Frag)(vs:List V)(a:Addr):Bool:=(K.lookup a).any λo=>o.cls==.type "tuple"&&Cu (λitems=>nu vs items.toList) o.data
noncomputable def zt(K:Frag)(v:V)(x:Value):Bool:=@V.casesOn (λ_=>Bool) v false cI cI cI (λvs=>oJ (zq K vs) cI x) cI av
theorem vH{K:Frag}{h₀:Heap}{X:Wd}{v:V}{x:Value}(kin:K.In h₀)(hX:∀a o,h₀.get? a=some o->X.tag a=some (.frozen o))(h:zt K v x=true):VRel X v x:=by
 induction v using V.casesOn with
 |tup vs=>
  refine j9 (show oJ (zq K vs) cI x=true from h) (λa e h=>?_) λh=>aC h
  refine ik h λo hl h=>?_
  obtain⟨c,dd,d,sl⟩:=o
  refine pL h λh1 h2=>?_
  induction d using Data.casesOn with
  |seq items kk=>exact rwl e (.tup (hX a _ (kin a _ hl)) (D2 h1) (by show _=Data.seq items.toList.toArray kk;rfl) (kr h2))
  |_=>exact aC h2
 |_=>exact aC h
noncomputable def su(K:Frag)(mg:Str->Option Value)(i:Nat)(x:Str):Bool:=(prog.consts[i]?).any λv=>(mg x).any λv'=>qP v v'||zt K v v'
noncomputable def AE(K:Frag)(mg:Str->Option Value):Bool:=
 lH (qN K) 0 clsA&&lH (zp K) 0 fnA&&lH (λc Ca=>!(gY[c]? ==some (Str.ofString "Random"))||lH (qO K Ca) 0 fnA) 0 clsA&&
 lH (λf fa=>match lu[f]? with|some x=>!gZ x||mg x==some (.ref fa)|none=>true) 0 fnA&&lH (λc Ca=>match gY[c]? with|some x=>mg x==some (.ref Ca)|none=>true) 0 clsA&&
 allBI.all (λb=>(mg (Str.ofString b.real)).isNone)&&(mg (Str.ofString "Exception")).isNone&&lH (su K mg) 0 mN&&(K.lookup sysModules).isSome&&K.all λp=>!ye p.2
theorem AF{K:Frag}{mg mb:Str->Option Value}{prg:Program}{w:World}{h₀:Heap}{os:OsState}(hK:AE K mg=true)(kin:K.In h₀)(ns:h₀.Ns mainGlobals mg)(nb:h₀.Ns builtinsNs mb)(lim:h₀.NoLimit)
 (blt:∀x:Str,x≠"__name__"->mb x=bootBuiltins x):CxCall ⟨prg,w,h₀,os,prog,K,mg,mb,λc=>clsA[c]?,λf=>fnA[f]?⟩:=by
 unfold AE at hK
 refine zG hK λk1 k2 k3 k4 k5 k6 k7 k8 k9 k10=>?_;clear hK
 have cls2:∀c Ca,clsA[c]? =some Ca->qN K c Ca=true:=λc Ca e=>by have:=dM k1 e;rwa[Fh]at this
 have fn2:∀f fa,fnA[f]? =some fa->zp K f fa=true:=λf fa e=>by have:=dM k2 e;rwa[Fh]at this
 have hsys:∃o,h₀.get? sysModules=some o:=by refine aB (D3.mp k9) λo e=>?_;exact⟨o,kin _ _ e⟩
 have cls_at:∀c x,gY[c]? =some x->∃Ca,clsA[c]? =some Ca:=λc x e=>by
  have:c<clsA.length:=by have:=(Dr.mp e).1;exact this
  exact⟨_,DI this⟩
 have fn_at:∀f x,lu[f]? =some x->∃fa,fnA[f]? =some fa:=λf x e=>by
  have:f<fnA.length:=by have:=(Dr.mp e).1;exact this
  exact⟨_,DI this⟩
 have c2:∀c Ca,clsA[c]? =some Ca->nt K Ca ((prog.excs[c]?).getD false)=true/\keepIn K (.ref Ca)=true/\((prog.excs[c]?).getD false=false->makesIn K Ca=true)/\
  ((prog.excs[c]?).getD false=true->ii K Ca=true/\specialIn K (.ref Ca) "__call__"=some (some (.builtin "type.__call__"))/\instIn K (.ref Ca) (.type "type")=some true)/\
  (∀f,prog.inits[c]? =some f->∃fa,fnA[f]? =some fa/\findIn K (.ref Ca) "__init__"=some (some (.ref fa))/\typeIn K (.ref fa)=some (.type "function")/\
   specialIn K (.ref Ca) "__getattribute__"=some (some (.builtin "type.__getattribute__"))/\readsIn K Ca (.type "type")=true/\findCls K (.ref Ca) (.type "type") "__init__"=some (.val (.ref fa))):=λc Ca e=>by
  have q:=cls2 c Ca e
  unfold qN at q
  dsimp only at q
  refine xh q λq1 q2 q3 q4 q5=>?_;clear q;(try simp only[Bool.and_eq_true,Bool.or_eq_true,Bool.not_eq_true',beq_iff_eq]at q1 q2 q3 q4 q5)
  refine⟨q1,q2,λz=>q3.resolve_left (by(exists z);exact Do),λz=>?_,λf hf=>?_⟩
  ·refine aA (q4.resolve_left (by(exists z);intro q;cases q)) λh'19 c=>?_;refine aA h'19 λa b=>?_;clear h'19
   exact⟨a,b,c⟩
  ·rw[hf]at q5
   dsimp only at q5
   split at q5
   ·rename_i fa hfa
    refine xh q5 λa b c d e=>?_;clear q5;(try simp only[beq_iff_eq]at a b c d e)
    refine⟨fa,hfa,a,b,c,d,?_⟩
    split at e
    ·rename_i v hv;(exists hv,(D2 e);rfl)
    ·cases e
   ·cases q5
 refine
  {more:={ok:={kin:=kin,ns:=ns,nb:=nb,lim:=lim,blt:=blt,bnames:=λb=>?_,consts:=λi v x hv hx=>?_},sys:=hsys,cls:=λc Ca e=>tL (c2 c Ca e).1}
   prg:=rfl
   fn:=λf fa e=>?_
   glob:=λf x hx hp=>?_
   keepF:=λf fa e=>(DW.mp (fn2 f fa e)).1
   clss:=λc x hx=>?_
   keepC:=λc Ca e=>(c2 c Ca e).2.1
   init:=λc Ca f hf e=>(c2 c Ca e).2.2.2.2 f hf
   make:=λc Ca e z=>(c2 c Ca e).2.2.1 z
   makeX:=λc Ca e z=>(c2 c Ca e).2.2.2.1 z
   excN:=Hx.mp k7
   next:=λc Ca f e hc hf=>?_}
 ·have:=DE.mp k6 b (by cases b<;>simp[allBI])
  exact Hx.mp this
 ·have q:=dM k8 hx
  rw[Fh]at q
  unfold su at q
  have hv:prog.consts[i]? =some v:=hv
  rw[hv]at q
  exact ik (show(mg x).any _=true from q) λv' e2 q=>⟨v',e2,λX hX=>(Ig.mp q).elim md (vH kin hX)⟩
 ·have q:=(DW.mp (fn2 f fa e)).2
  refine ik q λo h1 q=>ik q λfn h2 q=>?_
  obtain⟨oc,od,d,osl⟩:=o
  induction d using Data.casesOn with
  |func fd=>exact pL q λa b=>⟨fn,oc,od,osl,fd,h2,h1,a,b⟩
  |_=>exact aC q
 ·refine aB (fn_at f x hx) λfa hfa=>?_
  have q:=dM k4 hfa
  rw[Fh,hx]at q
  dsimp only at q
  rw[hp]at q
  exact⟨fa,hfa,D2 q⟩
 ·refine aB (cls_at c x hx) λCa hCa=>?_
  have q:=dM k5 hCa
  rw[Fh,hx]at q
  dsimp only at q
  exact⟨Ca,hCa,D2 q⟩
 ·have q:=dM k3 e
  rw[Fh,hc,DO]at q
  have q:lH (qO K Ca) 0 fnA=true:=q
  refine aB (fn_at f _ hf) λfa hfa=>?_
  have q:=dM q hfa
  rw[Fh]at q
  unfold qO at q
  rw[hf,DO]at q
  have q:(findIn K (.ref Ca) fw==some (some (.ref fa))&&typeIn K (.ref fa)==some (.type "function"))=true:=q
  simp only[Bool.and_eq_true,beq_iff_eq]at q
  exact⟨fa,hfa,q.1,q.2⟩
end
section
set_option maxRecDepth 100000
open PySem PySem.W PySem.Calls PyProof.Rows
noncomputable def yf(stp:SharedT->Thread->Option (SharedT×Thread))(ok:Thread->Bool)(n:Nat):SharedT->Thread->Option SharedT:=
 @Nat.rec (λ_=>SharedT->Thread->Option SharedT) (λ_ _=>none) (λ_ ih s t=>@Bool.rec (λ_=>Option SharedT)
  (@Bool.rec (λ_=>Option SharedT) none (@Option.rec (SharedT×Thread) (λ_=>Option SharedT) none (λp=>ih p.1 p.2) (stp s t)) (ok t)) (some s) (through t)) n
theorem yg{stp:SharedT->Thread->Option (SharedT×Thread)}{ok:Thread->Bool}{p:Program}{w:World}{n₀:Nat}{ann:Option Value}(hs:stp=stepT (denote treeTable) p w)(hk:ok=stepOk n₀ ann):
 ∀(n:Nat)(s:SharedT)(t:Thread)(r:SharedT),yf stp ok n s t=some r->topRun treeTable p w n₀ ann n s.abs t=some r.abs:=by
 intro n
 induction n with
 |zero=>exact λ_ _ _ h=>by cases h
 |succ n ih=>
  intro s t r h
  have h:(@Bool.rec (λ_=>Option SharedT) (@Bool.rec (λ_=>Option SharedT) none (@Option.rec (SharedT×Thread) (λ_=>Option SharedT) none (λp=>yf stp ok n p.1 p.2) (stp s t)) (ok t)) (some s) (through t))=some r:=h
  unfold topRun
  cases ht:through t with
  |true=>rw[ht]at h;cases h;rfl
  |false=>
   rw[ht]at h
   dsimp only at h⊢
   cases hok:ok t with
   |false=>rw[hok]at h;cases h
   |true=>
    rw[hok]at h
    rw[hk]at hok
    exists hok
    dsimp only at h⊢
    cases hst:stp s t with
    |none=>rw[hst]at h;cases h
    |some x=>
     rw[hst]at h
     rw[hs]at hst
     obtain⟨s',t'⟩:=x
     rw[stepT_spec hst]
     exact ih s' t' r h
noncomputable def AG(l:List Obj):Nat->BT->BT:=@List.rec Obj (λ_=>Nat->BT->BT) (λ_ t=>t) (λo _ ih n t=>ih (Nat.succ n) (t.ins n o)) l
noncomputable def T0(w:World)(os:OsState):SharedT:=⟨AG (boot_heap w.params).objs.toList 0 .nil,(boot_heap w.params).objs.size,(boot_heap w.params).life,#[],boot_drawn,boot_toks,os⟩
theorem AH(w:World)(os:OsState):(T0 w os).abs=⟨boot_heap w.params,#[],boot_drawn,boot_toks,os⟩:=by kernel_rfl
noncomputable def nv:List Str:=[Str.ofString "_wall",Str.ofString "WHITE",Str.ofString "BLACK",Str.ofString "PAWN",Str.ofString "KNIGHT",Str.ofString "BISHOP",Str.ofString "ROOK",Str.ofString "QUEEN",Str.ofString "KING",Str.ofString "EMPTY",Str.ofString "LETTERS",Str.ofString "make_piece",Str.ofString "side_of",Str.ofString "kind_of",Str.ofString "piece_of",Str.ofString "ChessError",Str.ofString "BadPosition",Str.ofString "BadFen",Str.ofString "STEP_FILES",Str.ofString "STEP_RANKS",Str.ofString "Geometry",Str.ofString "is_growing",Str.ofString "add_masks",Str.ofString "inner_squares",Str.ofString "add_rays",Str.ofString "add_pawns",Str.ofString "add_knights",Str.ofString "add_castles",Str.ofString "make_geometry",Str.ofString "ray_attacks",Str.ofString "rook_attacks",Str.ofString "bishop_attacks",Str.ofString "more_than_one",Str.ofString "highest",Str.ofString "lowest",Str.ofString "WORD",Str.ofString "STAR",Str.ofString "Random",Str.ofString "Zobrist",Str.ofString "draw_row",Str.ofString "rights_row",Str.ofString "make_zobrist",Str.ofString "state_key",Str.ofString "full_key",Str.ofString "Position",Str.ofString "put_piece",Str.ofString "pieces",Str.ofString "king_square",Str.ofString "settle_key",Str.ofString "ep_stands",Str.ofString "ep_attacked",Str.ofString "check_kings",Str.ofString "check_pawns",Str.ofString "check_rights",Str.ofString "straight_sliders",Str.ofString "slanting_sliders",Str.ofString "pawn_attackers",Str.ofString "step_attackers",Str.ofString "is_attacked",Str.ofString "in_check_of",Str.ofString "FILE_LETTERS",Str.ofString "RANK_DIGITS",Str.ofString "read_square",Str.ofString "DIGITS",Str.ofString "RIGHT_LETTERS",Str.ofString "plain_number",Str.ofString "read_row",Str.ofString "read_board",Str.ofString "read_side",Str.ofString "read_rights",Str.ofString "read_ep",Str.ofString "read_clock",Str.ofString "read_fields",Str.ofString "check_pieces",Str.ofString "check_wings",Str.ofString "build_position",Str.ofString "read_fen",Str.ofString "_law_texts",Str.ofString "_law_signs",Str.ofString "_law_bend",Str.ofString "_law_cells",Str.ofString "_law_clock",Str.ofString "_law_wings",Str.ofString "_law_takes",Str.ofString "_law_hunted",Str.ofString "_law_read"]
noncomputable def qv:Program:={PySem.Challenge.pw_nt0456_01 with main:={PySem.Challenge.pw_nt0456_01.main with body:=PySem.Challenge.pw_nt0456_01.main.body.drop 98}}
noncomputable def BF(s:Shared):Bool:=AE (BD s.heap BC) (s.heap.nsMap mainGlobals)&&s.heap.isNs mainGlobals
def sw(_:World)(h:Heap):Prop:=∃K mg,K.In h/\h.Ns mainGlobals mg/\AE K mg=true
theorem vI(w:World)(s:Shared)(e:BF s=true):sw w s.heap:=by
 refine aA (DW.mp e) λa b=>?_
 exact⟨_,_,AD _,.of_isNs b,a⟩
theorem oZ(w:World)(h h':Heap)(x:sw w h)(k:∀b o,h.get? b=some o->h'.get? b=some o):sw w h':=by
 refine dH x λK mg a b c=>?_;clear x
 exact⟨K,mg,a.keeps k,b.keeps k,c⟩
noncomputable def qQ(p:Program)(H₀:Heap)(s:Shared):Bool:=staticsOk (importedModules p.main.body) H₀ s.heap&&namesBound p s.heap&&gensDone s&&laidKept H₀ s.heap
theorem vJ{p q:Program}{loose:List Str}{Xt:Shared->Bool}{α:Type}{Yf:Shared->α}{Ya:World->α}{N M m0:Nat}{g0:Bool}{H₀:Params->Heap}{d₀:Drawn}{k₀:Nat}{ann:Option Value}
 {stp:World->SharedT->Thread->Option (SharedT×Thread)}{ok:Thread->Bool}{S₀:World->OsState->SharedT}(hs:∀w,stp w=stepT (denote treeTable) p w)(hk:ok=stepOk m0 ann)(hS:∀w os,(S₀ w os).abs=⟨H₀ w.params,#[],d₀,k₀,os⟩)
 (open_:∀w:World,(fencedOpening treeTable p w N).map (λs=>(s.heap,s.gens,s.drawn,s.toks))=some (H₀ w.params,Array.mk [],d₀,k₀))
 (size:∀w:World,((H₀ w.params).isNs mainGlobals,(H₀ w.params).objs.size,(H₀ w.params).nsMap mainGlobals "__annotations__")=(true,m0,ann))
 (run:∀(w:World)(os:OsState),(yf (stp w) ok M (S₀ w os) (topStub p)).map (λs=>(qQ p (H₀ w.params) s.abs,openSeen q loose (importedModules p.main.body) Xt g0 s.abs,Yf s.abs))=some (true,openGood q loose,Ya w))
 (le:Nat.ble M N=true):LeftO p q loose Xt Yf Ya N g0:=λw=>by
 obtain⟨⟨h,gs,d,k,os⟩,e,e'⟩:=EC.mp (open_ w)
 obtain⟨rfl,rfl,rfl,rfl⟩:h=H₀ w.params/\gs= #[]/\d=d₀/\k=k₀:=by simpa using e'
 obtain⟨z1,z2,z3⟩:_/\_/\_:=by simpa only[Prod.mk.injEq]using size w
 refine ai (EC.mp (run w os)) λs hr hl=>?_
 obtain⟨l1,l2,l3⟩:_/\_/\_:=by simpa only[Prod.mk.injEq]using hl
 have r:=yg (hs w) hk _ _ _ _ hr
 rw[hS]at r
 have r:=topRun_mono (N-M) _ _ _ _ r
 rw[show M+(N-M)=N by have:=DF le;exact FP this]at r
 have t:topFrom treeTable p w N ⟨H₀ w.params,#[],d,k,os⟩=some s.abs:=by
  unfold topFrom
  dsimp only
  exists z1,z2,z3,r
  unfold qQ at l1
  show(match staticsOk (importedModules p.main.body) (H₀ w.params) s.abs.heap&&namesBound p s.abs.heap&&gensDone s.abs&&laidKept (H₀ w.params) s.abs.heap with|true=>_|false=>_)=_
  exists l1;rfl
 unfold openEnds
 exists e
 show(topFrom treeTable p w N _).map _=_
 exists t
 exact Ds some (Prod.ext l2 l3)
theorem yh(w:World):((boot_heap w.params).isNs mainGlobals,(boot_heap w.params).objs.size,(boot_heap w.params).nsMap mainGlobals "__annotations__")=(true,11,some (.ref 6)):=by kernel_rfl
end
section
set_option maxRecDepth 100000
open PySem PySem.W PySem.Calls PyProof.Rows PySem.SeqAt
noncomputable def AI(s:Shared):Bool:=BF s&&Nat.blt 0 s.toks
structure Stands (w:World) (s:Shared):Prop where
 k:sw w s.heap
 gens:s.gens= #[]
 lim:s.heap.NoLimit
 blt:∃mb,s.heap.Ns builtinsNs mb/\∀x:Str,x≠"__name__"->mb x=bootBuiltins x
 toks:0<s.toks
theorem yi{r:OpenRow}{q:Program}{loose:List Str}{N:Nat}{d:DefRec}{kwd:List (Str×Expr)}
 (left:LeftO r.prog q loose (λ_=>true) AI (λ_=>true) N)
 (hdef:defOf q r.name=some (d,kwd))(hp:r.prog.theDef r.name=some (d.params,d.body,d.scope))(hk:kwWritten? d.params.kwonlyargs d.params.kw_defaults=some kwd)
 (hrec:r.records=[])(hwr:r.writes=false)(k1:r.wellSaid=true)(ok:(chainsOk q&&opensWell r.prog&&(frees r.toRowW&&r.within.isEmpty))=true)(hb:r.prog.bare)(hw:r.toRowW.promised)
 (htk:∀(w:World)(cl:Str->Option Addr)(ord:List DictEntry->List DictEntry)(args:List WData)(s:Shared)(vs:List Value)(s1:Shared),r.toRowW.claim.pre args=true->layAllW r.records cl w.params ord args s=some (vs,s1)->s.toks<=s1.toks)
 (call:∀(w:World)(cl:Str->Option Addr)(mean:ExcName->Option Value)(s1:Shared),Stands w s1->∀(args:List WData)(vs:List Value)(as:List Addr),r.toRowW.claim.pre args=true->
  ReadsAllW r.records cl s1.heap vs args as->wpAny (model r.prog w) callerA (PySem.call (.ref 605) vs) (λv s'=>GoodW r.toRowW.claim cl mean args s1 (.ok (.ret v)) s') (λe s'=>GoodW r.toRowW.claim cl mean args s1 (.error e) s') s1)
 (name:∀K mg,AE K mg=true->mg r.name=some (.ref 605)):r.Holds:=by
 refine⟨k1,hw,?_⟩
 refine aA (DW.mp ok) λok k5=>?_
 refine aA (DW.mp ok) λhch o1=>?_
 refine aA (DW.mp k5) λk5 k6=>?_
 refine xd (frees_parts k5) λhsame hu ha hap hm=>?_
 refine⟨⟨hb,o1,by show r.makers.map _=[];(exists hm);rfl⟩,hw.witness,λw=>⟨(left.behind (XP:=λ_ _=>True) (λ_ _=>trivial) hch w).1,λs' hs'=>?_⟩⟩
 refine mC ((left.behind (XP:=λ_ _=>True) (λ_ _=>trivial) hch w).2 s' hs') λs₀ hf hg0 s hT hz hgens hg G y=>?_
 have RF:RecFacts r.records s.heap:=recFacts_nil hrec
 refine⟨s₀,hf,hg0,s,hT,λn hn=>?_,RF.1,RF.2.1,?_⟩
 ·obtain rfl:n=r.name:=by split at hn<;>simp_all
  exact pinned_of_view hg G hdef hp hk
 have hgens:s.gens= #[]:=Array.eq_empty_of_size_eq_zero (DQ.mp hgens)
 refine aA (DW.mp y) λy1 y2=>?_
 have hs:=vI w s y1
 have G':Ground q loose r.records (λ_ _=>True) w s (s.heap.nsMap mainGlobals) (s.heap.nsMap builtinsNs) s.heap:=RF.ground G
 refine ClaimW.callFrom_of_specG (c:=r.toRowW.claim) (tree:=λvs=>do match<-nsGet mainNs r.name with
  |some f=>do ret (<-PySem.call f vs)
  |none=>unsupported "claim.caller:no-such-global") hz hgens λargs hpre hlay ord hord=>?_
 obtain⟨⟨vs,s1⟩,hlaid⟩:=D3.mp (layAllW_isSome (P:=w.params) (ord:=ord) G'.has args r.args s (pre_splitW (r:=r.toRowW) hpre).1)
 have keeps:=layAllW_keeps _ _ _ hlaid
 have hal:=layAllW_rest _ _ _ hlaid
 refine bo (reads_layAllW hord _ _ _ hlaid hlay s1.heap (λ_ _ e=>e)) λas hrd hin hold=>?_
 have L:Laid r.records w s s1 args vs as:=⟨⟨ord,hord,hlaid⟩,hrd,hin,hold,keeps,hal.1.trans hgens,hal.2.2.1⟩
 have hk1:=oZ w _ _ hs keeps
 have St:Stands w s1:=⟨hk1,L.gens,G.T.nolimit.keeps keeps,⟨_,G.T.b.keeps keeps,G.T.builtins⟩,DA (DF y2) (htk w _ _ _ _ _ _ hpre hlaid)⟩
 have h:=call w (classAt s.heap) (ExcName.means s.heap) s1 St args vs as hpre hrd
 have hi:=ident_freeW hu ha hap
 have hwi:r.toRowW.claim.within=[]:=G9.mp k6
 refine dH hk1 λK mg _ n1 n2=>?_;clear hk1
 refine⟨vs,s1,hlaid,Dn (wpAny_nsGet n1 ?_)⟩
 exists(name K mg n2)
 refine Dn (EO h (λv s' g=>Dv ⟨_,rfl,?_⟩) λe s' g=>?_)
 ·have z:=(GoodW.toG g).laid (c:=r.toRowW.claim) hsame hwi hi L
  exact⟨z.1,z.2.1,z.2.2,λq=>by rw[hwr]at q;cases q⟩
 ·have z:=(GoodW.toG g).laid (c:=r.toRowW.claim) hsame hwi hi L
  exact⟨z.1,z.2.1,z.2.2,λq=>by rw[hwr]at q;cases q⟩
theorem vK{R:WRecords}{cl:Str->Option Addr}{P:Params}{ord:List DictEntry->List DictEntry}:∀(xs:List WData)(s:Shared)(r:List Value×Shared),WShape.hasItems [] xs .int=true->layAllW R cl P ord xs s=some r->s.toks<=r.2.toks:=by
 intro xs
 induction xs with
 |nil=>
  intro s r _ h
  unfold layAllW at h
  cases h;exact Dy _
 |cons x xs ih=>
  intro s r hx h
  have hx:(WShape.has [] x .int&&WShape.hasItems [] xs .int)=true:=hx
  replace hx:=and2 hx
  cases x with
  |int i=>
   unfold layAllW at h
   have e:layW R cl P ord (.int i) s=some (.int i s.toks,{s with toks:=s.toks+1}):=by unfold layW;rfl
   rw[e]at h
   dsimp only at h
   cases q:layAllW R cl P ord xs {s with toks:=s.toks+1}with
   |none=>rw[q]at h;cases h
   |some r'=>
    rw[q]at h;cases h
    have:=ih _ _ hx.2 q
    dsimp only at this⊢
    exact ED this
  |_=>exact absurd hx.1 Do
theorem pa{args:List WData}(h:PySem.Challenge.rw_nt0456_01.row.toRowW.claim.pre args=true):∃xs,args=[.list xs]/\WShape.hasItems [] xs .int=true/\xs.length<=63:=by
 have h:(WShape.hasAll [] args [.list .int]&&(OpenLaw.pre PySem.Challenge.rw_nt0456_01).holds [] {args:=args})=true:=h
 replace h:=and2 h
 refine aA h λh1 h2=>?_;clear h
 cases args with
 |nil=>cases h1
 |cons x args=>cases args with
  |cons y args=>
   have h1:(WShape.has [] x (.list .int)&&false)=true:=h1
   rw[EM]at h1;cases h1
  |nil=>
   have h1:(WShape.has [] x (.list .int)&&true)=true:=h1
   rw[EK]at h1
   cases x with
   |list xs=>
    have h1:(WShape.hasItems [] xs .int||false)=true:=h1
    rw[HG]at h1
    refine⟨xs,rfl,h1,?_⟩
    have hpre:OpenLaw.pre PySem.Challenge.rw_nt0456_01=.and (.not (.lt (.lit (.int 63)) (.len (.arg 0)))) (.lit (.bool true)):=rfl
    rw[hpre]at h2
    by_cases hl:xs.length<=63
    ·exact hl
    ·exfalso
     have:decide ((63:Int)<(xs.length:Int))=true:=by simp;exact ao [xs.length] [(.lt (.n 63) (.v 0),1)] (.lt (.n 63) (.v 0)) 1 rfl (Dt.mpr (Gf hl))
     have e:less? (WData.int 63) (WData.int xs.length)=some (decide ((63:Int)<(xs.length:Int))):=rfl
     rw[this]at e
     simp[WTm.holds,WTm.value,e]at h2
   |_=>exact absurd h1 Do
theorem yj{R:WRecords}{cl:Str->Option Addr}{h:Heap}:∀{xs:List WData}{vs:List Value}{as:List Addr},WShape.hasItems [] xs .int=true->ReadsAllW R cl h vs xs as->∃is:List Int,is.length=xs.length/\vs.length=xs.length/\∀Y:Wd,VRels Y (is.map V.int) vs:=by
 intro xs
 induction xs with
 |nil=>intro vs as hx h;cases h;exact⟨[],rfl,rfl,λ_=>.nil⟩
 |cons x xs ih=>
  intro vs as hx h
  cases h with
  |cons a b=>
   have hx:(WShape.has [] x .int&&WShape.hasItems [] xs .int)=true:=hx
   refine pL hx λh1 h2=>?_
   refine bo (ih h2 b) λis l1 l2 r=>?_
   induction x using WData.casesOn with
   |int i=>
    cases a with
    |int i t=>exact⟨i::is,Ds Nat.succ l1,Ds Nat.succ l2,λY=>.cons (.int i t) (r Y)⟩
   |_=>exact aC h1
theorem yk{args ds:List WData}:PySem.Challenge.rw_nt0456_01.row.toRowW.claim.post args (.bool true) ds=true:=by
 show(WShape.has [] (.bool true) .bool&&WTm.holds [] (.eq .res (.lit (.bool true))) {args:=args,res:=some (.bool true),after:=ds})=true
 simp[WShape.has,WShape.arms,WTm.holds,WTm.value,W.same]
theorem qS{w:World}{cl:Str->Option Addr}{mean:ExcName->Option Value}{s1:Shared}(St:Stands w s1){args:List WData}{vs:List Value}{as:List Addr}(hpre:PySem.Challenge.rw_nt0456_01.row.toRowW.claim.pre args=true)
 (hrd:ReadsAllW [] cl s1.heap vs args as)
 (H:∀xs:List Int,xs.length<=63->∃n d C4 C7,d<=150/\(ak prog n).exs (d,none) qM (vF xs) jJ=.ok (.ret (.bool true)) C4 C7):
 wpAny (model PySem.Challenge.pw_nt0456_01 w) callerA (PySem.call (.ref 605) vs) (λv s'=>GoodW PySem.Challenge.rw_nt0456_01.row.toRowW.claim cl mean args s1 (.ok (.ret v)) s') (λe s'=>GoodW PySem.Challenge.rw_nt0456_01.row.toRowW.claim cl mean args s1 (.error e) s') s1:=by
 refine bo (pa hpre) λxs e'1 hx hl=>?_;subst e'1
 cases hrd with
 |cons a b=>
  cases b with
  |nil=>
  cases a with
  | @list a o items k _ as' g1 g2 g3 g4=>
   refine bo (yj hx g4) λis l1 l2 hr=>?_
   refine fD (H is (by exact Dm.mp (ao [is.length,xs.length] [(.eq (.v 0) (.v 1),1),(.le (.v 1) (.n 63),1)] (.le (.v 0) (.n 63)) 1 rfl (Ds Int.ofNat l1) (Dm.mpr hl)))) λn d C4 C7 hd hrun=>?_
   refine dH St.k λK mg kin ns hK=>?_
   refine ai St.blt λmb nb blt=>?_
   have Kc:=AF (prg:=PySem.Challenge.pw_nt0456_01) (w:=w) (os:=s1.os) hK kin ns nb St.lim blt
   generalize hC:(⟨PySem.Challenge.pw_nt0456_01,w,s1.heap,s1.os,prog,K,mg,mb,λc=>clsA[c]?,λf=>fnA[f]?⟩:Cx)=C at Kc
   have hp:C.prog=PySem.Challenge.pw_nt0456_01:=by(refine bt hC ?_;rfl)
   have hw:C.w=w:=by(refine bt hC ?_;rfl)
   have hh:C.h₀=s1.heap:=by(refine bt hC ?_;rfl)
   have hos:C.os=s1.os:=by(refine bt hC ?_;rfl)
   have hP:C.P=prog:=Kc.prg
   have hf:C.fns 68=some 605:=by(refine bt hC ?_);rfl
   have R:Rel C ⟨λb=>(s1.heap.get? b).map Tag.frozen,λ_=>none⟩ [] s1:=by
    refine⟨λb hb=>?_,λb ob hb=>?_,λb ob hb=>?_,λm ob hm=>?_,λm b hm=>?_,St.gens,hos.symm,St.toks⟩
    ·show(s1.heap.get? b).map Tag.frozen=none
     exists(Heap.get?_none_of_le hb);rfl
    ·have hb:(s1.heap.get? b).map Tag.frozen=some (.frozen ob):=hb
     cases q:s1.heap.get? b with
     |none=>rw[q]at hb;cases hb
     |some ob'=>rw[q]at hb;cases hb;rfl
    ·show(s1.heap.get? b).map Tag.frozen=some (.frozen ob)
     rw[hh]at hb;rw[hb];rfl
    ·simp at hm
    ·cases hm
   have hO:COk C callerA (d+1,none) ⟨λb=>(s1.heap.get? b).map Tag.frozen,λ_=>none⟩ s1.heap:=by
    refine⟨⟨[],rfl,λe he=>by cases he⟩,?_,?_,λ_=>rfl,λm hm=>by cases hm⟩
    ·show 1+claimMargin+4*(d+1)+4<recursionLimit
     have e1:claimMargin=300:=rfl
     have e2:recursionLimit=1000:=rfl
     lia
    ·show 4+40*(d+1)+40<cLine
     have e2:cLine=9900:=rfl
     lia
   have hG:GoodS C (ak prog n):=by have:=(eP Kc n).2;rwa[hP]at this
   have go:=vG (d:=(d,none)) (o:=o) (items:=items.toList) (k:=k) (xs:=is) Kc hG hf hO R (b:=a) (by show(s1.heap.get? a).map Tag.frozen=_;(exists g1);rfl) g2 (by(exists g3;rfl)) hr (by exact Dm.mp (ao [items.toList.length,xs.length] [(.eq (.v 0) (.v 1),1),(.le (.v 1) (.n 63),1)] (.le (.v 0) (.n 63)) 1 rfl (Ds Int.ofNat l2) (Dm.mpr hl))) (Near.refl _)
   refine bt hp ?_;refine bt hw ?_
   refine Gi (go _ ⟨λv m e X' s' v' x rv=>?_,λm h e=>?_,λe=>?_⟩)
   ·rw[hrun]at e
    injection e with e1 e2
    subst e1
    cases rv
    refine⟨.inl ⟨_,.bool true,[],rfl,λcls=>rfl,.bool true,yk,λ_=>⟨.nil,λa ha=>by cases ha⟩⟩,λb ob hb=>x.rel.keep b ob (by(exists hh);exact hb),x.rel.os.trans hos,x.rel.gens⟩
   ·rw[hrun]at e;exact Bf e
   ·rw[hrun]at e;exact zQ e
theorem K1(w:World)(os:OsState):(yf (Fast.tw10156331382660048174 (Fast.tw11892475500146522536 Fast.tw14364793385576792824) PySem.Challenge.pw_nt0456_01 w) (Fast.tw6613529449190102663 11 (some (.ref 6))) 8190 (T0 w os) (topStub PySem.Challenge.pw_nt0456_01)).map
 (λs=>(qQ PySem.Challenge.pw_nt0456_01 (boot_heap w.params) s.abs,openSeen qv nv (importedModules PySem.Challenge.pw_nt0456_01.main.body) (λ_=>true) true s.abs,AI s.abs))=some (true,openGood qv nv,true):=by kernel_rfl
theorem yl:opening PySem.Challenge.pw_nt0456_01=plainProg PySem.Challenge.pw_nt0456_01.main.scope.names:=by kernel_rfl
theorem ym:LeftO PySem.Challenge.pw_nt0456_01 qv nv (λ_=>true) AI (λ_=>true) 8190:=
 vJ (stp:=λw=>Fast.tw10156331382660048174 (Fast.tw11892475500146522536 Fast.tw14364793385576792824) PySem.Challenge.pw_nt0456_01 w) (ok:=Fast.tw6613529449190102663 11 (some (.ref 6))) (S₀:=T0)
  (λw=>by rw[Fast.te10156331382660048174,Fast.te11892475500146522536,Fast.te14364793385576792824]) (by rw[Fast.te6613529449190102663]) AH (boot_open yl rfl λs=>rfl) yh K1 rfl
theorem vL(K:Frag)(mg:Str->Option Value)(h:AE K mg=true):mg (Str.ofString "law")=some (.ref 605):=by
 unfold AE at h
 simp only[Bool.and_eq_true]at h
 have k4:=h.1.1.1.1.1.1.2
 have q:=dM k4 (i:=68) (a:=605) rfl
 have e:lu[0+68]? =some (Str.ofString "law"):=rfl
 rw[e]at q
 have hp:gZ (Str.ofString "law")=true:=by decide+kernel
 dsimp only at q
 rw[hp]at q
 exact D2 q
theorem vM(H:∀xs:List Int,xs.length<=63->∃n d C4 C7,d<=150/\(ak prog n).exs (d,none) qM (vF xs) jJ=.ok (.ret (.bool true)) C4 C7):PySem.Challenge.rw_nt0456_01.Holds:=by
 refine holds_law sM λsaid=>?_
 exact yi (r:=PySem.Challenge.rw_nt0456_01.row) (q:=qv) (loose:=nv) ym (by rfl) (by rfl) (by rfl) rfl rfl said (by decide+kernel) ⟨rfl,rfl,rfl,rfl,rfl,by decide+kernel⟩ ⟨[.list []],by decide+kernel,by decide+kernel⟩
  (λw cl ord args s vs s1 hp hl=>by
   obtain⟨xs,rfl,hx,_⟩:=pa hp
   unfold layAllW at hl
   unfold layW at hl
   cases q:layAllW PySem.Challenge.rw_nt0456_01.row.records cl w.params ord xs s with
   |none=>rw[q]at hl;cases hl
   |some r=>
    rw[q]at hl
    unfold layAllW at hl
    cases hl
    exact vK xs s r hx q)
  (λw cl mean s1 St args vs as hp hrd=>qS St hp hrd H) vL
end
section
def Ev(d:Dp)(CT:Env)(h:Hp)(e:E)(r:R V):Prop:=∃N,∀n,N<=n->(ak prog n).ev d CT h e=r
def Evs(d:Dp)(CT:Env)(h:Hp)(es:List E)(r:R (List V)):Prop:=∃N,∀n,N<=n->(ak prog n).evs d CT h es=r
def Ex(d:Dp)(CT:Env)(h:Hp)(s:S)(r:RS):Prop:=∃N,∀n,N<=n->(ak prog n).ex d CT h s=r
def Exs(d:Dp)(CT:Env)(h:Hp)(ss:List S)(r:RS):Prop:=∃N,∀n,N<=n->(ak prog n).exs d CT h ss=r
def Lp(d:Dp)(CT:Env)(h:Hp)(i:Nat)(it:It)(b:List S)(r:RS):Prop:=∃N,∀n,N<=n->(ak prog n).lp d CT h i it b=r
def Wl(d:Dp)(CT:Env)(h:Hp)(t:E)(b:List S)(r:RS):Prop:=∃N,∀n,N<=n->(ak prog n).wl d CT h t b=r
def Cp(d:Dp)(CT:Env)(h:Hp)(e:E)(i:Nat)(it:It)(fs:List E)(acc:Nat)(r:R Unit):Prop:=∃N,∀n,N<=n->(ak prog n).cp d CT h e i it fs acc=r
def Chk(d:Dp)(CT:Env)(h:Hp)(es:List E)(r:R Bool):Prop:=∃N,∀n,N<=n->(ak prog n).chk d CT h es=r
def Ands(d:Dp)(CT:Env)(h:Hp)(k:Bool)(es:List E)(r:R V):Prop:=∃N,∀n,N<=n->(ak prog n).ands d CT h k es=r
def Cmps(d:Dp)(CT:Env)(h:Hp)(x:V)(ops:List COp)(es:List E)(r:R V):Prop:=∃N,∀n,N<=n->(ak prog n).cmps d CT h x ops es=r
def Fun(d:Dp)(h:Hp)(f:Nat)(args:List V)(r:R V):Prop:=∃N,∀n,N<=n->(ak prog n).fn d h f args=r
theorem up{p:Nat->Prop}{q:Nat->Prop}(h:∃N,∀n,N<=n->p n)(k:∀n,p n->q (n+1)):∃N,∀n,N<=n->q n:=by
 obtain⟨N,h⟩:=h
 refine⟨N+1,λn hn=>?_⟩
 cases n with
 |zero=>exact absurd hn (Nat.not_le_of_lt (DC _))
 |succ n=>exact k n (h n (by exact EA (Es hn)))
theorem tM{q:Nat->Prop}(k:∀n,q (n+1)):∃N,∀n,N<=n->q n:=up (p:=λ_=>True) ⟨0,λ_ _=>trivial⟩ λn _=>k n
theorem bP{p q:Nat->Prop}(a:∃N,∀n,N<=n->p n)(b:∃N,∀n,N<=n->q n):∃N,∀n,N<=n->p n/\q n:=by
 obtain⟨N,a⟩:=a
 obtain⟨M,b⟩:=b
 exact⟨max N M,λn hn=>⟨a n (by lia),b n (by lia)⟩⟩
section
variable{d:Dp}{CT env1:Env}{h h1 h2 h3:Hp}{e a b t:E}{es:List E}{v x y z:V}{vs:List V}{r:R V}{rs:RS}{s:S}{ss body:List S}{i k n:Nat}{op:BOp}
theorem Ev.none:Ev d CT h .none (.ok .none h):=tM λ_=>rfl
theorem Ev.bool{c:Bool}:Ev d CT h (.bool c) (.ok (.bool c) h):=tM λ_=>rfl
theorem Ev.int{c:Int}:Ev d CT h (.int c) (.ok (.int c) h):=tM λ_=>rfl
theorem Ev.str{c:List Nat}:Ev d CT h (.str c) (.ok (.str c) h):=tM λ_=>rfl
theorem Ev.C8(q:CT[i]? =some (some v)):Ev d CT h (.C8 i) (.ok v h):=tM λn=>by
 show(match CT[i]? with|some (some v)=>R.ok v h|_=>.no)=_
 exists q;rfl
theorem Ev.gv(q:prog.consts[i]? =some v):Ev d CT h (.gv i) (.ok v h):=tM λn=>by
 show aF prog (ak prog n) d CT h (.gv i)=_
 unfold aF
 dsimp only
 exists q;rfl
theorem Ev.bin(ha:Ev d CT h a (.ok x h1))(hb:Ev d CT h1 b (.ok y h2))(q:ba op x y h2=r):Ev d CT h (.bin op a b) r:=up (bP ha hb) λn ⟨p1,p2⟩=>by
 show((ak prog n).ev d CT h a).bind _=r
 exists p1
 show((ak prog n).ev d CT h1 b).bind _=r
 exists p2;exact q
theorem Ev.neg{c:Int}(ha:Ev d CT h a (.ok (.int c) h1)):Ev d CT h (.neg a) (.ok (.int (-c)) h1):=up ha λn p=>by
 show((ak prog n).ev d CT h a).bind _=_
 exists p;rfl
theorem Ev.inv{c:Int}(ha:Ev d CT h a (.ok (.int c) h1)):Ev d CT h (.inv a) (.ok (.int (PySem.Builtin.bitNot c)) h1):=up ha λn p=>by
 show((ak prog n).ev d CT h a).bind _=_
 exists p;rfl
theorem Ev.not{c:Bool}(ha:Ev d CT h a (.ok x h1))(q:aO x h1=some c):Ev d CT h (.not a) (.ok (.bool (!c)) h1):=up ha λn p=>by
 show((ak prog n).ev d CT h a).bind _=_
 exists p
 show(match aO x h1 with|some b=>R.ok (V.bool (!b)) h1|Option.none=>.no)=_
 exists q;rfl
theorem Ev.and(H:Ands d CT h true es r):Ev d CT h (.and es) r:=up H λn p=>p
theorem Ev.or(H:Ands d CT h false es r):Ev d CT h (.or es) r:=up H λn p=>p
theorem Ands.one{k:Bool}(H:Ev d CT h e r):Ands d CT h k [e] r:=up H λn p=>p
theorem Ands.stop{k:Bool}(ha:Ev d CT h e (.ok x h1))(q:aO x h1=some (!k)):Ands d CT h k (e::b::es) (.ok x h1):=up ha λn p=>by
 show((ak prog n).ev d CT h e).bind _=_
 exists p
 show(match aO x h1 with|some c=>if c==k then(ak prog n).ands d CT h1 k (b::es)else .ok x h1|none=>.no)=_
 exists q;cases k<;>rfl
theorem Ands.go{k:Bool}(ha:Ev d CT h e (.ok x h1))(q:aO x h1=some k)(H:Ands d CT h1 k (b::es) r):Ands d CT h k (e::b::es) r:=up (bP ha H) λn ⟨p,p2⟩=>by
 show((ak prog n).ev d CT h e).bind _=_
 exists p
 show(match aO x h1 with|some c=>if c==k then(ak prog n).ands d CT h1 k (b::es)else .ok x h1|none=>.no)=_
 exists q,p2;cases k<;>rfl
theorem Ev.cmp{ops:List COp}(ha:Ev d CT h a (.ok x h1))(H:Cmps d CT h1 x ops es r):Ev d CT h (.cmp a ops es) r:=up (bP ha H) λn ⟨p,p2⟩=>by
 show((ak prog n).ev d CT h a).bind _=_
 exists p;exact p2
theorem Cmps.one{op:COp}{c:Bool}(hb:Ev d CT h e (.ok y h1))(q:fG op x y h1=some c):Cmps d CT h x [op] [e] (.ok (.bool c) h1):=up hb λn p=>by
 show((ak prog n).ev d CT h e).bind _=_
 exists p
 show(match fG op x y h1 with|some b=>R.ok (V.bool b) h1|none=>.no)=_
 exists q;rfl
theorem Ev.Df{op:COp}{c:Bool}(ha:Ev d CT h a (.ok x h1))(hb:Ev d CT h1 b (.ok y h2))(q:fG op x y h2=some c):Ev d CT h (.cmp a [op] [b]) (.ok (.bool c) h2):=.cmp ha (.one hb q)
theorem Cmps.stop{op op2:COp}{ops:List COp}(hb:Ev d CT h e (.ok y h1))(q:fG op x y h1=some false):Cmps d CT h x (op::op2::ops) (e::b::es) (.ok (.bool false) h1):=up hb λn p=>by
 show((ak prog n).ev d CT h e).bind _=_
 exists p
 show(match fG op x y h1 with|some true=>(ak prog n).cmps d CT h1 y (op2::ops) (b::es)|some false=>R.ok (V.bool false) h1|none=>.no)=_
 exists q;rfl
theorem Cmps.go{op op2:COp}{ops:List COp}(hb:Ev d CT h e (.ok y h1))(q:fG op x y h1=some true)(H:Cmps d CT h1 y (op2::ops) (b::es) r):Cmps d CT h x (op::op2::ops) (e::b::es) r:=up (bP hb H) λn ⟨p,p2⟩=>by
 show((ak prog n).ev d CT h e).bind _=_
 exists p
 show(match fG op x y h1 with|some true=>(ak prog n).cmps d CT h1 y (op2::ops) (b::es)|some false=>R.ok (V.bool false) h1|none=>.no)=_
 exists q;exact p2
theorem Ev.iteT(ht:Ev d CT h t (.ok x h1))(q:aO x h1=some true)(H:Ev d CT h1 a r):Ev d CT h (.ite t a b) r:=up (bP ht H) λn ⟨p,p2⟩=>by
 show((ak prog n).ev d CT h t).bind _=_
 exists p
 show(match aO x h1 with|some true=>(ak prog n).ev d CT h1 a|some false=>(ak prog n).ev d CT h1 b|Option.none=>.no)=_
 exists q;exact p2
theorem Ev.iteF(ht:Ev d CT h t (.ok x h1))(q:aO x h1=some false)(H:Ev d CT h1 b r):Ev d CT h (.ite t a b) r:=up (bP ht H) λn ⟨p,p2⟩=>by
 show((ak prog n).ev d CT h t).bind _=_
 exists p
 show(match aO x h1 with|some true=>(ak prog n).ev d CT h1 a|some false=>(ak prog n).ev d CT h1 b|Option.none=>.no)=_
 exists q;exact p2
theorem Evs.nil:Evs d CT h [] (.ok [] h):=tM λ_=>rfl
theorem Evs.cons(ha:Ev d CT h e (.ok v h1))(H:Evs d CT h1 es (.ok vs h2)):Evs d CT h (e::es) (.ok (v::vs) h2):=up (bP ha H) λn ⟨p,p2⟩=>by
 show((ak prog n).ev d CT h e).bind _=_
 exists p
 show((ak prog n).evs d CT h1 es).bind _=_
 exists p2;rfl
theorem Evs.exc1(ha:Ev d CT h e (.exc k h1)):Evs d CT h (e::es) (.exc k h1):=up ha λn p=>by
 show((ak prog n).ev d CT h e).bind _=_
 exists p;rfl
theorem Evs.exc2(ha:Ev d CT h e (.ok v h1))(H:Evs d CT h1 es (.exc k h2)):Evs d CT h (e::es) (.exc k h2):=up (bP ha H) λn ⟨p,p2⟩=>by
 show((ak prog n).ev d CT h e).bind _=_
 exists p
 show((ak prog n).evs d CT h1 es).bind _=_
 exists p2;rfl
theorem Ev.list(H:Evs d CT h es (.ok vs h1))(l:ae vs.length=true):Ev d CT h (.list es) (.ok (.ref h1.length) (h1++[.list vs])):=up H λn p=>by
 show((ak prog n).evs d CT h es).bind _=_
 exists p;exact if_pos l
theorem Ev.tup(H:Evs d CT h es (.ok vs h1))(l:ae vs.length=true):Ev d CT h (.tup es) (.ok (.tup vs) h1):=up H λn p=>by
 show((ak prog n).evs d CT h es).bind _=_
 exists p;exact if_pos l
theorem Ev.tupX(H:Evs d CT h es (.exc k h1)):Ev d CT h (.tup es) (.exc k h1):=up H λn p=>by
 show((ak prog n).evs d CT h es).bind _=_
 exists p;rfl
theorem Ev.dict1{q:List Nat}{c:Int}:Ev d CT h (.dict1 q c) (.ok (.ref h.length) (h++[.dict [(q,.int c)]])):=tM λ_=>rfl
theorem Ev.comp{m i:Nat}{it:It}{fs:List E}{u:Unit}(ha:Ev (m+1,Option.none) CT h a (.ok x h1))(q:fF x h1=some it)(H:Cp (m,Option.none) (CT.set i Option.none) (h1++[.list []]) e i it fs h1.length (.ok u h2)):
 Ev (m+1,Option.none) CT h (.comp e i a fs) (.ok (.ref h1.length) h2):=up (bP ha H) λn ⟨p,p2⟩=>by
 show(match(ak prog n).ev (m+1,Option.none) CT h a with
  |.ok x h=>(match fF x h with
   |some it=>(match(ak prog n).cp (m,Option.none) (CT.set i Option.none) (h++[O.list []]) e i it fs h.length with
    |.ok _ h'=>R.ok (V.ref h.length) h'
    |_=>.no)
   |Option.none=>.no)
  |_=>.no)=_
 exists p
 dsimp only
 exists q
 dsimp only
 exists p2;rfl
theorem Ev.call{m f:Nat}{c:Option Nat}(H:Evs (m+1,c) CT h es (.ok vs h1))(F:Fun (m,c) h1 f vs r):Ev (m+1,c) CT h (.call f es) r:=up (bP H F) λn ⟨p,p2⟩=>by
 show((ak prog n).evs (m+1,c) CT h es).bind _=_
 exists p;exact p2
theorem Ev.cinit{m f j:Nat}{c:Option Nat}(H:Evs (m+1,c) CT h es (.ok vs h1))(F:Fun (m,c) h1 f vs r):Ev (m+1,c) CT h (.cinit j f es) r:=up (bP H F) λn ⟨p,p2⟩=>by
 show((ak prog n).evs (m+1,c) CT h es).bind _=_
 exists p;exact p2
theorem Ev.new{m f j:Nat}{c:Option Nat}{ex:Bool}(q1:prog.inits[j]? =some f) (q2:prog.excs[j]? =some ex) (H:Evs (m+1,c) CT h es (.ok vs h1)) (l:ae vs.length=true)
 (F:Fun (m,c) (h1++[if ex then .exc j false []else .inst j []]) f (.ref h1.length::vs) (.ok .none h2)):Ev (m+1,c) CT h (.new j es) (.ok (.ref h1.length) h2):=up (bP H F) λn ⟨p,p2⟩=>by
 show aF prog (ak prog n) (m+1,c) CT h (.new j es)=_
 unfold aF
 dsimp only
 exists q1,q2
 dsimp only
 exists p
 show(if ae vs.length then((ak prog n).fn (m,c) (h1++[if ex then .exc j false []else .inst j []]) f (.ref h1.length::vs)).bind _ else .no)=_
 exists(if_pos l),p2;rfl
theorem Ev.xinit{j:Nat}{ex:Bool}{fs:List (Nat×V)}(ha:Ev d CT h a (.ok (.ref k) h1))(H:Evs d CT h1 es (.ok vs h2))(q:h2[k]? =some (.exc j ex fs)) (l:ae vs.length=true):Ev d CT h (.xinit a es) (.ok .none h2):=up (bP ha H) λn ⟨p,p2⟩=>by
 show((ak prog n).ev d CT h a).bind _=_
 exists p
 show((ak prog n).evs d CT h1 es).bind _=_
 exists p2
 show(match h2[k]? with|some (.exc _ _ _)=>if ae vs.length then R.ok V.none h2 else .no|_=>.no)=_
 exists q
 exact if_pos l
theorem Ev.Dc{m:Nat}{f:BI}(H:Evs (m,Option.none) CT h es (.ok vs h1))(q:bcall f vs h1=r):Ev (m,Option.none) CT h (.Dc f es) r:=up H λn p=>by
 show((ak prog n).evs (m,Option.none) CT h es).bind _=_
 exists p;exact q
theorem Ev.meth{m:Nat}{f:MI}(ha:Ev (m,Option.none) CT h a (.ok x h1))(k:cn f x h1=true)(H:Evs (m,Option.none) CT h1 es (.ok vs h2))(q:meth f x vs h2=r):Ev (m,Option.none) CT h (.meth f a es) r:=up (bP ha H) λn ⟨p,p2⟩=>by
 show((ak prog n).ev (m,Option.none) CT h a).bind _=_
 exists p
 show(if cn f x h1 then((ak prog n).evs (m,Option.none) CT h1 es).bind _ else .no)=_
 exists(if_pos k),p2;exact q
theorem Ev.repl{m u w:Nat}{t:List Nat}(ha:Ev (m,Option.none) CT h a (.ok (.str t) h1))(l:(ae t.length&&u !=w)=true):Ev (m,Option.none) CT h (.repl a u w) (.ok (.str (t.map λx=>if x==u then w else x)) h1):=up ha λn p=>by
 show((ak prog n).ev (m,Option.none) CT h a).bind _=_
 exists p;exact if_pos l
theorem Ev.attr(ha:Ev d CT h a (.ok x h1))(q:getattr x k h1=r):Ev d CT h (.attr a k) r:=up ha λn p=>by
 show((ak prog n).ev d CT h a).bind _=_
 exists p;exact q
theorem Ev.sub(ha:Ev d CT h a (.ok x h1))(hb:Ev d CT h1 b (.ok y h2))(q:getitem x y h2=r):Ev d CT h (.sub a b) r:=up (bP ha hb) λn ⟨p,p2⟩=>by
 show((ak prog n).ev d CT h a).bind _=_
 exists p
 show((ak prog n).ev d CT h1 b).bind _=_
 exists p2;exact q
theorem Ev.slice01(ha:Ev d CT h a (.ok x h1))(hb:Ev d CT h1 b (.ok y h2))(q:slice x Option.none (some y) h2=r):Ev d CT h (.slice a Option.none (some b)) r:=up (bP ha hb) λn ⟨p,p2⟩=>by
 show((ak prog n).ev d CT h a).bind _=_
 exists p
 show((ak prog n).ev d CT h1 b).bind _=_
 exists p2;exact q
theorem Ev.slice10(ha:Ev d CT h a (.ok x h1))(hb:Ev d CT h1 b (.ok y h2))(q:slice x (some y) Option.none h2=r):Ev d CT h (.slice a (some b) Option.none) r:=up (bP ha hb) λn ⟨p,p2⟩=>by
 show((ak prog n).ev d CT h a).bind _=_
 exists p
 show((ak prog n).ev d CT h1 b).bind _=_
 exists p2;exact q
theorem Ev.fstr{t:List Nat}(H:Evs d CT h es (.ok vs h1))(q:aV vs=some t)(l:ae t.length=true):Ev d CT h (.fstr es) (.ok (.str t) h1):=up H λn p=>by
 show(match(ak prog n).evs d CT h es with
  |.ok vs h=>(match aV vs with
   |some s=>if ae s.length then R.ok (V.str s) h else .no
   |Option.none=>.no)
  |_=>.no)=_
 exists p
 dsimp only
 exists q
 exact if_pos l
theorem Cp.fin{it:It}{fs:List E}{acc:Nat}(q:aP h it=.fin):Cp d CT h e i it fs acc (.ok () h):=tM λn=>by
 show uM (ak prog n) d CT h e i it fs acc=_
 unfold uM;(exists q;rfl)
theorem Cp.yes{it it':It}{fs:List E}{acc:Nat}{xs:List V}{ru:R Unit}(q:aP h it=.one v it')(C:Chk d (CT.set i (some v)) h fs (.ok true h1))(H:Ev d (CT.set i (some v)) h1 e (.ok x h2))(g:h2[acc]? =some (.list xs)) (l:ae xs.length=true)
 (T:Cp d CT (h2.set acc (.list (xs++[x]))) e i it' fs acc ru):Cp d CT h e i it fs acc ru:=up (bP C (bP H T)) λn ⟨p,p2,p3⟩=>by
 show uM (ak prog n) d CT h e i it fs acc=_
 unfold uM;(exists q)
 dsimp only
 exists p
 dsimp only[R.bind]
 exists p2
 dsimp only
 exists g
 dsimp only
 exists(if_pos l);exact p3
theorem Cp.skip{it it':It}{fs:List E}{acc:Nat}{ru:R Unit}(q:aP h it=.one v it')(C:Chk d (CT.set i (some v)) h fs (.ok false h1))(T:Cp d CT h1 e i it' fs acc ru):Cp d CT h e i it fs acc ru:=up (bP C T) λn ⟨p,p3⟩=>by
 show uM (ak prog n) d CT h e i it fs acc=_
 unfold uM;(exists q)
 dsimp only
 exists p;exact p3
theorem Chk.nil:Chk d CT h [] (.ok true h):=tM λ_=>rfl
theorem Chk.stop(ha:Ev d CT h e (.ok x h1))(q:aO x h1=some false):Chk d CT h (e::es) (.ok false h1):=up ha λn p=>by
 show((ak prog n).ev d CT h e).bind _=_
 exists p
 show(match aO x h1 with|some true=>(ak prog n).chk d CT h1 es|some false=>R.ok false h1|none=>.no)=_
 exists q;rfl
theorem Chk.go{rb:R Bool}(ha:Ev d CT h e (.ok x h1))(q:aO x h1=some true)(T:Chk d CT h1 es rb):Chk d CT h (e::es) rb:=up (bP ha T) λn ⟨p,p2⟩=>by
 show((ak prog n).ev d CT h e).bind _=_
 exists p
 show(match aO x h1 with|some true=>(ak prog n).chk d CT h1 es|some false=>R.ok false h1|none=>.no)=_
 exists q;exact p2
theorem Exs.nil:Exs d CT h [] (.ok .next CT h):=tM λ_=>rfl
theorem Exs.cons(H:Ex d CT h s (.ok .next env1 h1))(T:Exs d env1 h1 ss rs):Exs d CT h (s::ss) rs:=up (bP H T) λn ⟨p,p2⟩=>by
 show(match(ak prog n).ex d CT h s with|.ok .next CT h=>(ak prog n).exs d CT h ss|.ok .cont CT h=>.ok .cont CT h|.ok (.ret v) CT h=>.ok (.ret v) CT h|.exc n CT h=>.exc n CT h|.no=>.no)=_
 exists p;exact p2
theorem Exs.ret(H:Ex d CT h s (.ok (.ret v) env1 h1)):Exs d CT h (s::ss) (.ok (.ret v) env1 h1):=up H λn p=>by
 show(match(ak prog n).ex d CT h s with|.ok .next CT h=>(ak prog n).exs d CT h ss|.ok .cont CT h=>.ok .cont CT h|.ok (.ret v) CT h=>.ok (.ret v) CT h|.exc n CT h=>.exc n CT h|.no=>.no)=_
 exists p;rfl
theorem Exs.cont(H:Ex d CT h s (.ok .cont env1 h1)):Exs d CT h (s::ss) (.ok .cont env1 h1):=up H λn p=>by
 show(match(ak prog n).ex d CT h s with|.ok .next CT h=>(ak prog n).exs d CT h ss|.ok .cont CT h=>.ok .cont CT h|.ok (.ret v) CT h=>.ok (.ret v) CT h|.exc n CT h=>.exc n CT h|.no=>.no)=_
 exists p;rfl
theorem Exs.exc(H:Ex d CT h s (.exc k env1 h1)):Exs d CT h (s::ss) (.exc k env1 h1):=up H λn p=>by
 show(match(ak prog n).ex d CT h s with|.ok .next CT h=>(ak prog n).exs d CT h ss|.ok .cont CT h=>.ok .cont CT h|.ok (.ret v) CT h=>.ok (.ret v) CT h|.exc n CT h=>.exc n CT h|.no=>.no)=_
 exists p;rfl
theorem Ex.expr(H:Ev d CT h e (.ok v h1)):Ex d CT h (.expr e) (.ok .next CT h1):=up H λn p=>by
 show((ak prog n).ev d CT h e).De CT _=_
 exists p;rfl
theorem Ex.Dk(H:Ev d CT h e (.exc k h1)):Ex d CT h (.expr e) (.exc k CT h1):=up H λn p=>by
 show((ak prog n).ev d CT h e).De CT _=_
 exists p;rfl
theorem Ex.C9(H:Ev d CT h e (.ok v h1)):Ex d CT h (.C9 i e) (.ok .next (CT.set i (some v)) h1):=up H λn p=>by
 show((ak prog n).ev d CT h e).De CT _=_
 exists p;rfl
theorem Ex.Dl(H:Ev d CT h e (.exc k h1)):Ex d CT h (.C9 i e) (.exc k CT h1):=up H λn p=>by
 show((ak prog n).ev d CT h e).De CT _=_
 exists p;rfl
theorem Ex.unpack{m:Nat}{is:List Nat}(H:Ev (m,none) CT h e (.ok (.tup vs) h1))(l:(vs.length==is.length)=true):Ex (m,none) CT h (.unpack is e) (.ok .next (fH is vs CT) h1):=up H λn p=>by
 show((ak prog n).ev (m,none) CT h e).De CT _=_
 exists p;exact if_pos l
theorem Ex.Dd(H:Ev d CT h e (.ok v h1))(Ho:Ev d CT h1 a (.ok x h2))(q:setattr x k v h2=.ok y h3):Ex d CT h (.Dd a k e) (.ok .next CT h3):=up (bP H Ho) λn ⟨p,p2⟩=>by
 show((ak prog n).ev d CT h e).De CT _=_
 exists p
 show((ak prog n).ev d CT h1 a).De CT _=_
 exists p2
 show(CF.setattr x k v h2).De CT _=_
 exists q;rfl
theorem Ex.Dg{h4:Hp}{w:V}(H:Ev d CT h e (.ok v h1))(Ho:Ev d CT h1 a (.ok x h2))(Hi:Ev d CT h2 b (.ok y h3))(q:setitem x y v h3=.ok w h4):Ex d CT h (.Dg a b e) (.ok .next CT h4):=up (bP H (bP Ho Hi)) λn ⟨p,p2,p3⟩=>by
 show((ak prog n).ev d CT h e).De CT _=_
 exists p
 show((ak prog n).ev d CT h1 a).De CT _=_
 exists p2
 show((ak prog n).ev d CT h2 b).De CT _=_
 exists p3
 show(CF.setitem x y v h3).De CT _=_
 exists q;rfl
theorem Ex.aug(g:CT[i]? =some (some x)) (nr:eT x=false) (H:Ev d CT h e (.ok y h1)) (q:ba op x y h1=.ok z h2):Ex d CT h (.aug i op e) (.ok .next (CT.set i (some z)) h2):=up H λn p=>by
 show ci prog (ak prog n) d CT h (.aug i op e)=_
 unfold ci
 dsimp only
 exists g
 dsimp only
 exists(if_neg (by rw[nr];exact Do))
 show((ak prog n).ev d CT h e).De CT _=_
 exists p
 show(ba op x y h1).De CT _=_
 exists q;rfl
theorem Ex.Di{h4 h5:Hp}{w u:V}(Ho:Ev d CT h a (.ok x h1))(g:getattr x k h1=.ok y h2)(nr:eT y=false)(H:Ev d CT h2 e (.ok z h3))(q:ba op y z h3=.ok w h4)(t:CF.setattr x k w h4=.ok u h5):Ex d CT h (.Di a k op e) (.ok .next CT h5):=up (bP Ho H) λn ⟨p,p2⟩=>by
 show((ak prog n).ev d CT h a).De CT _=_
 exists p
 show(CF.getattr x k h1).De CT _=_
 exists g
 show(if eT y then RS.no else((ak prog n).ev d CT h2 e).De CT _)=_
 exists(if_neg (by rw[nr];exact Do)),p2
 show(ba op y z h3).De CT _=_
 exists q
 show(CF.setattr x k w h4).De CT _=_
 exists t;rfl
theorem Ex.Dh{h4 h5 h6:Hp}{w u c:V}(Ho:Ev d CT h a (.ok x h1))(Hi:Ev d CT h1 b (.ok c h2))(g:getitem x c h2=.ok y h3)(nr:eT y=false)(H:Ev d CT h3 e (.ok z h4))(q:ba op y z h4=.ok w h5)(t:CF.setitem x c w h5=.ok u h6):Ex d CT h (.Dh a b op e) (.ok .next CT h6):=up (bP Ho (bP Hi H)) λn ⟨p,p1,p2⟩=>by
 show((ak prog n).ev d CT h a).De CT _=_
 exists p
 show((ak prog n).ev d CT h1 b).De CT _=_
 exists p1
 show(CF.getitem x c h2).De CT _=_
 exists g
 show(if eT y then RS.no else((ak prog n).ev d CT h3 e).De CT _)=_
 exists(if_neg (by rw[nr];exact Do)),p2
 show(ba op y z h4).De CT _=_
 exists q
 show(CF.setitem x c w h5).De CT _=_
 exists t;rfl
theorem Ex.Db{sa sb:List S}(ht:Ev d CT h t (.ok x h1))(q:aO x h1=some true)(H:Exs d CT h1 sa rs):Ex d CT h (.iff t sa sb) rs:=up (bP ht H) λn ⟨p,p2⟩=>by
 show((ak prog n).ev d CT h t).De CT _=_
 exists p
 show(match aO x h1 with|some true=>(ak prog n).exs d CT h1 sa|some false=>(ak prog n).exs d CT h1 sb|none=>.no)=_
 exists q;exact p2
theorem Ex.Da{sa sb:List S}(ht:Ev d CT h t (.ok x h1))(q:aO x h1=some false)(H:Exs d CT h1 sb rs):Ex d CT h (.iff t sa sb) rs:=up (bP ht H) λn ⟨p,p2⟩=>by
 show((ak prog n).ev d CT h t).De CT _=_
 exists p
 show(match aO x h1 with|some true=>(ak prog n).exs d CT h1 sa|some false=>(ak prog n).exs d CT h1 sb|none=>.no)=_
 exists q;exact p2
theorem Ex.whl{m:Nat}{c:Option Nat}(H:Wl (m,c) CT h t body rs):Ex (m+1,c) CT h (.whl t body) rs:=up H λn p=>p
theorem Ex.for{m:Nat}{it:It}(ha:Ev (m+1,none) CT h e (.ok x h1))(q:fF x h1=some it)(H:Lp (m,none) CT h1 i it body rs):Ex (m+1,none) CT h (.for i e body) rs:=up (bP ha H) λn ⟨p,p2⟩=>by
 show((ak prog n).ev (m+1,none) CT h e).De CT _=_
 exists p
 show(match fF x h1 with|some it=>(ak prog n).lp (m,none) CT h1 i it body|none=>.no)=_
 exists q;exact p2
theorem Ex.ret(H:Ev d CT h e (.ok v h1)):Ex d CT h (.ret (some e)) (.ok (.ret v) CT h1):=up H λn p=>by
 show((ak prog n).ev d CT h e).De CT _=_
 exists p;rfl
theorem Ex.retX(H:Ev d CT h e (.exc k h1)):Ex d CT h (.ret (some e)) (.exc k CT h1):=up H λn p=>by
 show((ak prog n).ev d CT h e).De CT _=_
 exists p;rfl
theorem Ex.cont:Ex d CT h .cont (.ok .cont CT h):=tM λ_=>rfl
theorem Ex.raise{m j:Nat}{ex:Bool}{fs:List (Nat×V)}(H:Ev (m,none) CT h e (.ok (.ref k) h1))(q:h1[k]? =some (.exc j ex fs)):Ex (m,none) CT h (.raise e) (.exc k CT h1):=up H λn p=>by
 show((ak prog n).ev (m,none) CT h e).De CT _=_
 exists p
 show(match h1[k]? with|some (.exc c x fs)=>RS.exc k CT h1|_=>.no)=_
 exists q;rfl
theorem Ex.Dj{m j j' w:Nat}{ex:Bool}{fs fs':List (Nat×V)}(H:Ev (m,some w) CT h e (.ok (.ref k) h1))(q:h1[k]? =some (.exc j ex fs)) (q2:h1[w]? =some (.exc j' false fs')) (ne:(w==k)=false):
 Ex (m,some w) CT h (.raise e) (.exc k CT (h1.set k (.exc j true fs))):=up H λn p=>by
 show((ak prog n).ev (m,some w) CT h e).De CT _=_
 exists p
 show(match h1[k]? with|some (.exc c x fs)=>(match h1[w]? with|some (.exc _ false _)=>if w==k then RS.no else .exc k CT (h1.set k (.exc c true fs))|_=>.no)|_=>.no)=_
 exists q
 dsimp only
 exists q2
 dsimp only
 exists(if_neg (by rw[ne];exact Do));rfl
theorem Ex.tryOk{m c:Nat}{o:Option Nat}{hb:List S}{fl:Flow}(B:Exs (m,o) CT h body (.ok fl env1 h1)):Ex (m+1,o) CT h (.try body c i hb) (.ok fl env1 h1):=up B λn p=>by
 show(match(ak prog n).exs (m,o) CT h body with
  |.ok fl CT h=>RS.ok fl CT h
  |.no=>.no
  |.exc n' CT h=>match h[n']? with
   |some (.exc c' _ _)=>if c'==c then match(ak prog n).exs (m,some n') (CT.set i (some (.ref n'))) h hb with
    |.ok fl CT h=>.ok fl (CT.set i none) h
    |.exc n CT h=>.exc n (CT.set i none) h
    |.no=>.no
    else .no
   |_=>.no)=_
 exists p;rfl
theorem Ex.tryX{m c:Nat}{o:Option Nat}{hb:List S}{fl:Flow}{env2:Env}{ex:Bool}{fs:List (Nat×V)}(B:Exs (m,o) CT h body (.exc k env1 h1))(q:h1[k]? =some (.exc c ex fs)) (H:Exs (m,some k) (env1.set i (some (.ref k))) h1 hb (.ok fl env2 h2)):
 Ex (m+1,o) CT h (.try body c i hb) (.ok fl (env2.set i none) h2):=up (bP B H) λn ⟨p,p2⟩=>by
 show(match(ak prog n).exs (m,o) CT h body with
  |.ok fl CT h=>RS.ok fl CT h
  |.no=>.no
  |.exc n' CT h=>match h[n']? with
   |some (.exc c' _ _)=>if c'==c then match(ak prog n).exs (m,some n') (CT.set i (some (.ref n'))) h hb with
    |.ok fl CT h=>.ok fl (CT.set i none) h
    |.exc n CT h=>.exc n (CT.set i none) h
    |.no=>.no
    else .no
   |_=>.no)=_
 exists p
 dsimp only
 exists q
 dsimp only
 exists(if_pos (DO _)),p2;rfl
theorem Ex.tryXX{m c k2:Nat}{o:Option Nat}{hb:List S}{env2:Env}{ex:Bool}{fs:List (Nat×V)}(B:Exs (m,o) CT h body (.exc k env1 h1))(q:h1[k]? =some (.exc c ex fs)) (H:Exs (m,some k) (env1.set i (some (.ref k))) h1 hb (.exc k2 env2 h2)):
 Ex (m+1,o) CT h (.try body c i hb) (.exc k2 (env2.set i none) h2):=up (bP B H) λn ⟨p,p2⟩=>by
 show(match(ak prog n).exs (m,o) CT h body with
  |.ok fl CT h=>RS.ok fl CT h
  |.no=>.no
  |.exc n' CT h=>match h[n']? with
   |some (.exc c' _ _)=>if c'==c then match(ak prog n).exs (m,some n') (CT.set i (some (.ref n'))) h hb with
    |.ok fl CT h=>.ok fl (CT.set i none) h
    |.exc n CT h=>.exc n (CT.set i none) h
    |.no=>.no
    else .no
   |_=>.no)=_
 exists p
 dsimp only
 exists q
 dsimp only
 exists(if_pos (DO _)),p2;rfl
theorem Lp.fin{it:It}(q:aP h it=.fin):Lp d CT h i it body (.ok .next CT h):=tM λn=>by
 show sS (ak prog n) d CT h i it body=_
 unfold sS;(exists q;rfl)
theorem Lp.next{it it':It}(q:aP h it=.one v it')(B:Exs d (CT.set i (some v)) h body (.ok .next env1 h1))(T:Lp d env1 h1 i it' body rs):Lp d CT h i it body rs:=up (bP B T) λn ⟨p,p2⟩=>by
 show sS (ak prog n) d CT h i it body=_
 unfold sS;(exists q)
 dsimp only
 exists p;exact p2
theorem Lp.cont{it it':It}(q:aP h it=.one v it')(B:Exs d (CT.set i (some v)) h body (.ok .cont env1 h1))(T:Lp d env1 h1 i it' body rs):Lp d CT h i it body rs:=up (bP B T) λn ⟨p,p2⟩=>by
 show sS (ak prog n) d CT h i it body=_
 unfold sS;(exists q)
 dsimp only
 exists p;exact p2
theorem Lp.ret{it it':It}(q:aP h it=.one v it')(B:Exs d (CT.set i (some v)) h body (.ok (.ret x) env1 h1)):Lp d CT h i it body (.ok (.ret x) env1 h1):=up B λn p=>by
 show sS (ak prog n) d CT h i it body=_
 unfold sS;(exists q)
 dsimp only
 exists p;rfl
theorem Lp.exc{it it':It}(q:aP h it=.one v it')(B:Exs d (CT.set i (some v)) h body (.exc k env1 h1)):Lp d CT h i it body (.exc k env1 h1):=up B λn p=>by
 show sS (ak prog n) d CT h i it body=_
 unfold sS;(exists q)
 dsimp only
 exists p;rfl
theorem Wl.stop(ht:Ev d CT h t (.ok x h1))(q:aO x h1=some false):Wl d CT h t body (.ok .next CT h1):=up ht λn p=>by
 show((ak prog n).ev d CT h t).De CT _=_
 exists p
 show(match aO x h1 with
  |some true=>(match(ak prog n).exs d CT h1 body with
   |.ok .next CT h=>(ak prog n).wl d CT h t body
   |.ok .cont CT h=>(ak prog n).wl d CT h t body
   |.ok (.ret v) CT h=>.ok (.ret v) CT h
   |.exc n CT h=>.exc n CT h
   |.no=>.no)
  |some false=>RS.ok .next CT h1
  |none=>.no)=_
 exists q;rfl
theorem Wl.next(ht:Ev d CT h t (.ok x h1))(q:aO x h1=some true)(B:Exs d CT h1 body (.ok .next env1 h2))(T:Wl d env1 h2 t body rs):Wl d CT h t body rs:=up (bP ht (bP B T)) λn ⟨p,p2,p3⟩=>by
 show((ak prog n).ev d CT h t).De CT _=_
 exists p
 show(match aO x h1 with
  |some true=>(match(ak prog n).exs d CT h1 body with
   |.ok .next CT h=>(ak prog n).wl d CT h t body
   |.ok .cont CT h=>(ak prog n).wl d CT h t body
   |.ok (.ret v) CT h=>.ok (.ret v) CT h
   |.exc n CT h=>.exc n CT h
   |.no=>.no)
  |some false=>RS.ok .next CT h1
  |none=>.no)=_
 exists q
 dsimp only
 exists p2;exact p3
noncomputable def RS.out:RS->R V
 |.ok (.ret v) _ h=>.ok v h
 |.ok _ _ h=>.ok .none h
 |.exc n _ h=>.exc n h
 |.no=>.no
theorem Fun.mk{f:Nat}{fn:Fn}(q:prog.funs[f]? =some fn) (l:(vs.length==fn.nargs)=true) (B:Exs d (vs.map some++List.replicate (fn.nslots-fn.nargs) none) h fn.body rs):Fun d h f vs rs.out:=up B λn p=>by
 show nY prog (ak prog n) d h f vs=_
 unfold nY;(exists q)
 dsimp only
 exists(if_pos l),p
 cases rs with
 |ok fl ev hh=>cases fl<;>rfl
 |exc=>rfl
 |no=>rfl
theorem Fun.ret{f:Nat}{fn:Fn}(q:prog.funs[f]? =some fn) (l:(vs.length==fn.nargs)=true) (B:Exs d (vs.map some++List.replicate (fn.nslots-fn.nargs) none) h fn.body (.ok (.ret v) env1 h1)):Fun d h f vs (.ok v h1):=Fun.mk q l B
theorem Fun.end{f:Nat}{fn:Fn}(q:prog.funs[f]? =some fn) (l:(vs.length==fn.nargs)=true) (B:Exs d (vs.map some++List.replicate (fn.nslots-fn.nargs) none) h fn.body (.ok .next env1 h1)):Fun d h f vs (.ok .none h1):=Fun.mk q l B
theorem Fun.exc{f:Nat}{fn:Fn}(q:prog.funs[f]? =some fn) (l:(vs.length==fn.nargs)=true) (B:Exs d (vs.map some++List.replicate (fn.nslots-fn.nargs) none) h fn.body (.exc k env1 h1)):Fun d h f vs (.exc k h1):=Fun.mk q l B
theorem Exs.run(H:Exs d CT h ss rs):∃n,(ak prog n).exs d CT h ss=rs:=let⟨N,p⟩:=H;⟨N,p N (Dy _)⟩
end
def Mono(h h':Hp):Prop:=∀(n:Nat)(o:O),h[n]? =some o->h'[n]? =some o
theorem Mono.refl{h:Hp}:Mono h h:=λ_ _ e=>e
theorem Mono.trans{a b c:Hp}(x:Mono a b)(y:Mono b c):Mono a c:=λn o e=>y n o (x n o e)
theorem Mono.app{h h':Hp}{o':O}(x:Mono h h'):Mono h (h'++[o']):=λn o e=>by
 have e:=x n o e
 exists(EV (Dr.mp e).1);exact e
theorem Mono.app1{h:Hp}{o':O}:Mono h (h++[o']):=Mono.app Mono.refl
noncomputable def Cy:S->List S
 |.for _ _ b=>b
 |_=>[]
noncomputable def im(ss:List S)(n:Nat):List S:=Cy (ss.getD n .pass)
noncomputable def AJ{α β:Type}(z:β)(g:α->α->α->α->α->α->β)(l:List α):β:=
 @List.casesOn α (λ_=>β) l z λa l=>@List.casesOn α (λ_=>β) l z λb l=>@List.casesOn α (λ_=>β) l z λc l=>@List.casesOn α (λ_=>β) l z λd l=>@List.casesOn α (λ_=>β) l z λe l=>@List.casesOn α (λ_=>β) l z λf l=>@List.casesOn α (λ_=>β) l (g a b c d e f) λ_ _=>z
theorem kt{α β:Type}{z:β}{g:α->α->α->α->α->α->β}{l:List α}(h:l.length≠6):AJ z g l=z:=by
 induction l using List.casesOn with
 |nil=>rfl
 |cons _ l=>
  induction l using List.casesOn with
  |nil=>rfl
  |cons _ l=>
   induction l using List.casesOn with
   |nil=>rfl
   |cons _ l=>
    induction l using List.casesOn with
    |nil=>rfl
    |cons _ l=>
     induction l using List.casesOn with
     |nil=>rfl
     |cons _ l=>
      induction l using List.casesOn with
      |nil=>rfl
      |cons _ l=>
       induction l using List.casesOn with
       |nil=>exact absurd rfl h
       |cons=>rfl
theorem yn{α:Type}{l:List α}(h:l.length=5){P:Prop}(k:∀a b c d e,l=[a,b,c,d,e]->P):P:=by
 refine bj h λa r e0 l0=>bj l0 λb r e1 l1=>bj l1 λc r e2 l2=>bj l2 λd r e3 l3=>bj l3 λe r e4 l4=>k a b c d e ?_
 rw[e0,e1,e2,e3,e4,EL l4]
noncomputable def zu{α β:Type}(z:β)(g:α->α->β)(l:List α):β:=
 @List.casesOn α (λ_=>β) l z λa l=>@List.casesOn α (λ_=>β) l z λb l=>@List.casesOn α (λ_=>β) l (g a b) λ_ _=>z
theorem pb{α β:Type}{z:β}{g:α->α->β}{l:List α}(h:l.length≠2):zu z g l=z:=by
 induction l using List.casesOn with
 |nil=>rfl
 |cons _ l=>
  induction l using List.casesOn with
  |nil=>rfl
  |cons _ l=>
   induction l using List.casesOn with
   |nil=>exact absurd rfl h
   |cons=>rfl
theorem yo{l:Hp}(h:l.length=4):∃a b c d,l=[a,b,c,d]:=by
 refine bj h λa r e l0=>?_;subst e
 refine bj l0 λb r e l1=>?_;subst e
 refine bj l1 λc r e l2=>?_;subst e
 refine bj l2 λd r e l3=>?_;subst e
 exact⟨a,b,c,d,by rw[EL l3]⟩
theorem tN{l:Hp}{n:Nat}(h:l.length=n+2):∃a b t,l=a::b::t/\t.length=n:=by
 refine bj h λa r e l0=>?_;subst e
 refine bj l0 λb r e l1=>?_;subst e
 exact⟨a,b,r,rfl,l1⟩
theorem ga{h:Hp}{n c k:Nat}{fs:List (Nat×V)}{v:V}(q:h[n]? =some (.inst c fs)) (e:aG k fs=some v):getattr (.ref n) k h=.ok v h:=by
 show(match h[n]? with|some (.inst _ fs)=>_|some (.exc _ _ fs)=>_|_=>_)=_
 exists q
 show(match aG k fs with|some v=>R.ok v h|none=>.no)=_
 exists e;rfl
theorem gi{h:Hp}{n:Nat}{i:Int}{xs:List V}{v:V}(q:h[n]? =some (.list xs)) (p:0<=i) (e:xs[i.toNat]? =some v) (l:ae xs.length=true):getitem (.ref n) (.int i) h=.ok v h:=by
 show(match h[n]? with|some (.list xs)=>if 0<=i then(match xs[i.toNat]? with|some v=>if ae xs.length then R.ok v h else .no|none=>.no)else .no|_=>_)=_
 exists q
 dsimp only
 exists(if_pos p),e
 exact if_pos l
theorem io{h:Hp}{o o':O}:(h++[o]).set h.length o'=h++[o']:=by
 rw[List.set_append_right _ _ (Dy _),Nat.sub_self];rfl
theorem last_get{h:Hp}{o:O}:(h++[o])[h.length]? =some o:=by simp
theorem sa_last{h:Hp}{c k:Nat}{x:Bool}{fs:List (Nat×V)}{v:V}(l:Nat.ble fs.length 100=true):setattr (.ref h.length) k v (h++[.exc c x fs])=.ok .none (h++[.exc c x (dI k v fs)]):=by
 unfold setattr
 dsimp only
 exists last_get
 dsimp only
 exists(if_pos l)
 have e:(h++[O.exc c x fs]).set h.length (.exc c x (dI k v fs))=h++[.exc c x (dI k v fs)]:=io
 exists e;rfl
theorem ga_exc{h:Hp}{n c k:Nat}{x:Bool}{fs:List (Nat×V)}{v:V}(q:h[n]? =some (.exc c x fs)) (e:aG k fs=some v):getattr (.ref n) k h=.ok v h:=by
 show(match h[n]? with|some (.inst _ fs)=>_|some (.exc _ _ fs)=>_|_=>_)=_
 exists q
 show(match aG k fs with|some v=>R.ok v h|none=>.no)=_
 exists e;rfl
theorem rsh_ok{a b:Int}{h:Hp}(n:0<=b):ba .rsh (.int a) (.int b) h=.ok (.int (a.fdiv (2^b.toNat))) h:=if_pos n
theorem mul_r{a b:Int}{h:Hp}(n:small b=true):ba .mul (.int a) (.int b) h=.ok (.int (a*b)) h:=if_pos (by rw[n,Fg])
theorem lsh_ok{a b:Int}{h:Hp}(n:0<=b)(u:b<=1000)(w:small a=true):ba .lsh (.int a) (.int b) h=.ok (.int (a*2^b.toNat)) h:=by
 have e:gh a=true:=by
  unfold gh
  unfold small at w
  have:=DF w
  refine Du (Dw this ?_)
  exact DF (by kernel_rfl)
 show(if(0<=b&&decide (b<=1000)&&gh a)=true then R.ok (V.int (a*2^b.toNat)) h else .no)=_
 rw[if_pos]
 simp[n,u,e]
theorem nw{h:Hp}{n i:Nat}{xs:List V}(q:h[n]? =some (.list xs)) (e:xs[i]? =none):aP h (.lst n i)=.fin:=by
 unfold aP
 dsimp only
 exists q
 dsimp only
 exists e;rfl
theorem kx{h:Hp}{n i:Nat}{xs:List V}{v:V}(q:h[n]? =some (.list xs)) (e:xs[i]? =some v):aP h (.lst n i)=.one v (.lst n (i+1)):=by
 unfold aP
 dsimp only
 exists q
 dsimp only
 exists e;rfl
theorem som{α:Type}{a b:α}(h:a=b):some a=some b:=Ds some h
def vN (s : String) : Lean.MacroM (Lean.TSyntax `tactic) := do
 let a ← `(tactic| assumption)
 let r ← `(tactic| exact rfl)
 let e ← `(tactic| decide)
 let o (x y : Lean.TSyntax `tactic) : Lean.MacroM (Lean.TSyntax `tactic) := `(tactic| first | $x:tactic | $y:tactic)
 let mut ts : Array (Lean.TSyntax `tactic) := #[]
 for l in s.splitOn ";" do
  let ws:=l.splitOn " "
  let mut q ← `(tactic| skip)
  for w in ws.dropLast do q ← `(tactic| ($q; apply $(Lean.mkIdent w.toName)))
  for c in(ws.getLastD "").toList do
   let x<-match c with
    | 'k' => `(tactic| k_all)
    | 'u' => `(tactic| k_upd)
    | 'g' => `(tactic| k_get)
    |'a'=>pure a
    |'d'=>o a e
    |'f'=>o r a
    |'h'=>o a r
    | 'l' => `(tactic| exact last_get)
    |_=>pure r
   q ← `(tactic| ($q; $x))
  ts:=ts.push q
 `(tactic| first $[| $ts:tactic]*)
def BG:String:="lsh_ok ddr;r;a;ga af;gi adhh;last_get ;rsh_ok a;mul_r r;sa_last r;ga_exc ar;ga_exc lr;som d"
def BH:String:="Ev.int ;Ev.C8 r;Ev.gv r;Ev.str ;Ev.bool ;Ev.none ;Ev.bin kku;Ev.attr ku;Ev.sub kku;Ev.Df kku;Ev.neg k;Ev.inv k;Ev.not ku;Ev.call kg;Evs.nil ;Evs.cons kk;Exs.nil ;Exs.cons Ex.C9 kk;Exs.cons Ex.aug rrkuk;Exs.ret Ex.Db kuk;Exs.cons Ex.Da kukk;Exs.cons Ex.Db kukk;Exs.ret Ex.Da kuk;Exs.ret Ex.ret k;Exs.cons Ex.for krkk;Lp.fin r;Lp.next rkk;Ev.Dc ku;Ev.or k;Ev.and k;Ands.one k;Ands.stop ku;Ands.go kuk;Ev.iteT kuk;Ev.iteF kuk;Ev.tup ku;Fun.ret rrk;Fun.end rrk;Fun.exc rrk;Exs.cons Ex.expr kk;Exs.exc Ex.expr k;Exs.exc Ex.Dk k;Exs.cons Ex.Dd kkuk;Ev.new rrkrg;Ev.cinit kg;Ev.xinit kkur;Exs.exc Ex.raise ku;Exs.exc Ex.Dj kuuu;Exs.exc Ex.Db kuk;Exs.exc Ex.Da kuk;Exs.exc Ex.for krk;Lp.exc rk;Exs.cont Ex.cont ;Exs.cont Ex.Db kuk;Lp.cont rkk;Ev.cmp kk;Cmps.one ku;Cmps.stop ku;Cmps.go kuk;Ev.meth kuku"
end
local macro_rules | `(tactic| k_upd) => vN BG
local macro_rules | `(tactic| k_get) => `(tactic| first | assumption | apply_assumption)
local macro_rules | `(tactic| k_all) => vN BH
section
open PySem.Builtin (bitAnd bitOr bitXor bitNot)
noncomputable def yq(ray occ:Int)(grow:Bool):Int:=
 let stop:=bitAnd ray occ
 if stop=0 then ray else if grow then bitAnd ray (bitXor stop (stop-1))else
 let b0:=stop.fdiv (2^1)
 let b1:=bitOr b0 (b0.fdiv (2^1))
 let b2:=bitOr b1 (b1.fdiv (2^2))
 let b3:=bitOr b2 (b2.fdiv (2^4))
 let b4:=bitOr b3 (b3.fdiv (2^8))
 let b5:=bitOr b4 (b4.fdiv (2^16))
 let b6:=bitOr b5 (b5.fdiv (2^32))
 bitAnd ray (bitNot b6)
theorem ray_attacks{h:Hp}{m g R Rd:Nat}{d s occ ray:Int}{grow:Bool}{fs:List (Nat×V)}{rr rs:List V}(g1:h[g]? =some (.inst 3 fs)) (g2:aG 11 fs=some (.ref R)) (g3:h[R]? =some (.list rr)) (d0:0<=d) (g4:rr[d.toNat]? =some (.ref Rd)) (l1:ae rr.length=true)
 (g5:h[Rd]? =some (.list rs)) (s0:0<=s) (g6:rs[s.toNat]? =some (.int ray)) (l2:ae rs.length=true) (G:Fun (m,none) h 8 [.int d] (.ok (.bool grow) h)):
 Fun (m+1,none) h 16 [.ref g,.int d,.int s,.int occ] (.ok (.int (yq ray occ grow)) h):=by
 have e:getattr (.ref g) 11 h=.ok (.ref R) h:=ga g1 g2
 unfold yq
 dsimp only
 by_cases z:bitAnd ray occ=0
 ·exists(if_pos z)
  have z':(bitAnd ray occ==0)=true:=DQ.mpr z
  exact Fun.ret rfl rfl (by k_all)
 ·exists(if_neg z)
  have z':(bitAnd ray occ==0)=false:=Ef.mpr z
  cases grow with
  |true=>exact Fun.ret rfl rfl (by k_all)
  |false=>exact Fun.ret rfl rfl (by k_all)
theorem rook_attacks{h:Hp}{m g:Nat}{s occ:Int}{r:Nat->Int}(F:∀d:Nat,d<8->∀m,Fun (m+2,none) h 16 [.ref g,.int d,.int s,.int occ] (.ok (.int (r d)) h)):
 Fun (m+4,none) h 17 [.ref g,.int s,.int occ] (.ok (.int (bitOr (bitOr (bitOr (bitOr 0 (r 0)) (r 1)) (r 2)) (r 3))) h):=by
 have F0:=F 0 (by decide)
 have F1:=F 1 (by decide)
 have F2:=F 2 (by decide)
 have F3:=F 3 (by decide)
 clear F
 exact Fun.ret rfl rfl (by k_all)
theorem bishop_attacks{h:Hp}{m g:Nat}{s occ:Int}{r:Nat->Int}(F:∀d:Nat,d<8->∀m,Fun (m+2,none) h 16 [.ref g,.int d,.int s,.int occ] (.ok (.int (r d)) h)):
 Fun (m+4,none) h 18 [.ref g,.int s,.int occ] (.ok (.int (bitOr (bitOr (bitOr (bitOr 0 (r 4)) (r 5)) (r 6)) (r 7))) h):=by
 have F0:=F 4 (by decide)
 have F1:=F 5 (by decide)
 have F2:=F 6 (by decide)
 have F3:=F 7 (by decide)
 clear F
 exact Fun.ret rfl rfl (by k_all)
noncomputable def jK(d:Nat):Bool:=match d with|0|1|4|7=>true|_=>false
theorem is_growing{h:Hp}{m:Nat}:∀d:Nat,d<8->Fun (m,none) h 8 [.int d] (.ok (.bool (jK d)) h):=λd hd=>by
 iterate 8 (refine CH (motive:=λd=>Fun (m,none) h 8 [.int d] (.ok (.bool (jK d)) h)) hd (Fun.ret rfl rfl (by k_all)) λhd=>?_)
 exact absurd hd (Gp _)
section
variable{h:Hp}{m p g Z b k sd:Nat}{k0 k1 k2 k3 k4 k5 k6 s0 s1:Int}{vside vrights vep vhalf vfull vkey vhist:V}
theorem straight_sliders(hp:h[p]? =some (.inst 6 [(23,.ref g),(22,.ref Z),(24,.ref b),(25,.ref k),(26,.ref sd),(21,vside),(20,vrights),(19,vep),(27,vhalf),(6,vfull),(28,vkey),(29,vhist)])) (hk:h[k]? =some (.list [.int k0,.int k1,.int k2,.int k3,.int k4,.int k5,.int k6])):
 Fun (m,none) h 40 [.ref p] (.ok (.int (bitOr k4 k5)) h):=Fun.ret rfl rfl (by k_all)
theorem slanting_sliders(hp:h[p]? =some (.inst 6 [(23,.ref g),(22,.ref Z),(24,.ref b),(25,.ref k),(26,.ref sd),(21,vside),(20,vrights),(19,vep),(27,vhalf),(6,vfull),(28,vkey),(29,vhist)])) (hk:h[k]? =some (.list [.int k0,.int k1,.int k2,.int k3,.int k4,.int k5,.int k6])):
 Fun (m,none) h 41 [.ref p] (.ok (.int (bitOr k3 k5)) h):=Fun.ret rfl rfl (by k_all)
variable{CZ sq pw own occ:Int}{P pwr N Kr:Nat}{kn kg pwm:Int}{gfs:List (Nat×V)}{pl nl kl:List V}
theorem pawn_attackers(hp:h[p]? =some (.inst 6 [(23,.ref g),(22,.ref Z),(24,.ref b),(25,.ref k),(26,.ref sd),(21,vside),(20,vrights),(19,vep),(27,vhalf),(6,vfull),(28,vkey),(29,vhist)])) (hk:h[k]? =some (.list [.int k0,.int k1,.int k2,.int k3,.int k4,.int k5,.int k6]))
 (hs:h[sd]? =some (.list [.int s0,.int s1])) (hg:h[g]? =some (.inst 3 gfs)) (fP:aG 14 gfs=some (.ref P)) {pls:List V} (hP:h[P]? =some (.list pls)) (n1:0<=1-CZ) (q1:pls[(1-CZ).toNat]? =some (.ref pwr)) (lP:ae pls.length=true)
 (hw:h[pwr]? =some (.list pl)) (n2:0<=sq) (q2:pl[sq.toNat]? =some (.int pwm)) (lw:ae pl.length=true) (n3:0<=CZ) (q3:[V.int s0,V.int s1][CZ.toNat]? =some (.int own)):
 Fun (m,none) h 42 [.ref p,.int sq,.int CZ] (.ok (.int (bitAnd (bitAnd pwm k1) own)) h):=Fun.ret rfl rfl (by k_all)
theorem step_attackers(hp:h[p]? =some (.inst 6 [(23,.ref g),(22,.ref Z),(24,.ref b),(25,.ref k),(26,.ref sd),(21,vside),(20,vrights),(19,vep),(27,vhalf),(6,vfull),(28,vkey),(29,vhist)])) (hk:h[k]? =some (.list [.int k0,.int k1,.int k2,.int k3,.int k4,.int k5,.int k6]))
 (hs:h[sd]? =some (.list [.int s0,.int s1])) (hg:h[g]? =some (.inst 3 gfs)) (fN:aG 13 gfs=some (.ref N)) (fK:aG 12 gfs=some (.ref Kr)) (hN:h[N]? =some (.list nl)) (hK:h[Kr]? =some (.list kl)) (n2:0<=sq)
 (q1:nl[sq.toNat]? =some (.int kn)) (l1:ae nl.length=true) (q2:kl[sq.toNat]? =some (.int kg)) (l2:ae kl.length=true) (n3:0<=CZ) (q3:[V.int s0,V.int s1][CZ.toNat]? =some (.int own))
 (F:Fun (m,none) h 42 [.ref p,.int sq,.int CZ] (.ok (.int pw) h)):
 Fun (m+1,none) h 43 [.ref p,.int sq,.int CZ] (.ok (.int (bitOr pw (bitAnd (bitOr (bitAnd kn k2) (bitAnd kg k6)) own))) h):=Fun.ret rfl rfl (by k_all)
variable{st rk bs:Int}
theorem is_attacked(hp:h[p]? =some (.inst 6 [(23,.ref g),(22,.ref Z),(24,.ref b),(25,.ref k),(26,.ref sd),(21,vside),(20,vrights),(19,vep),(27,vhalf),(6,vfull),(28,vkey),(29,vhist)]))
 (hs:h[sd]? =some (.list [.int s0,.int s1])) (n3:0<=CZ) (q3:[V.int s0,V.int s1][CZ.toNat]? =some (.int own))
 (F1:Fun (m,none) h 43 [.ref p,.int sq,.int CZ] (.ok (.int st) h)) (F2:Fun (m,none) h 40 [.ref p] (.ok (.int (bitOr k4 k5)) h)) (F3:Fun (m,none) h 41 [.ref p] (.ok (.int (bitOr k3 k5)) h))
 (F4:Fun (m,none) h 17 [.ref g,.int sq,.int occ] (.ok (.int rk) h)) (F5:Fun (m,none) h 18 [.ref g,.int sq,.int occ] (.ok (.int bs) h)):
 Fun (m+1,none) h 44 [.ref p,.int sq,.int CZ,.int occ]
  (.ok (.bool (st !=0||(bitAnd (bitOr k4 k5) own !=0&&bitAnd rk (bitAnd (bitOr k4 k5) own) !=0)||(bitAnd (bitOr k3 k5) own !=0&&bitAnd bs (bitAnd (bitOr k3 k5) own) !=0))) h):=by
 cases e1:st !=0 with
 |true=>exact Fun.ret rfl rfl (by k_all)
 |false=>cases e2:bitAnd (bitOr k4 k5) own !=0 with
  |true=>cases e3:bitAnd rk (bitAnd (bitOr k4 k5) own) !=0 with
   |true=>exact Fun.ret rfl rfl (by k_all)
   |false=>cases e4:bitAnd (bitOr k3 k5) own !=0 with
    |true=>exact Fun.ret rfl rfl (by k_all)
    |false=>exact Fun.ret rfl rfl (by k_all)
  |false=>cases e4:bitAnd (bitOr k3 k5) own !=0 with
   |true=>exact Fun.ret rfl rfl (by k_all)
   |false=>exact Fun.ret rfl rfl (by k_all)
end
theorem ky{h:Hp}{m c:Nat}{o:Option Nat}{t:List Nat}:Fun (m,o) (h++[.exc c false []]) 4 [.ref h.length,.str t] (.ok .none (h++[.exc c false [(0,.str t)]])):=by
 exact Fun.end rfl rfl (by k_all)
theorem bx{h:Hp}{m:Nat}{o:Option Nat}{t:List Nat}{q:Int}:Fun (m+1,o) (h++[if true then .exc 1 false []else .inst 1 []]) 5 [.ref h.length,.str t,.int q] (.ok .none (h++[.exc 1 false [(0,.str t),(1,.int q)]])):=by
 show Fun (m+1,o) (h++[.exc 1 false []]) 5 _ _
 have F:∀m:Nat,Fun (m,o) (h++[.exc 1 false []]) 4 [.ref h.length,.str t] (.ok .none (h++[.exc 1 false [(0,.str t)]])):=λm=>ky
 exact Fun.end rfl rfl (by k_all)
theorem bz{h:Hp}{m:Nat}{o:Option Nat}{t:List Nat}{q:Int}:Fun (m+1,o) (h++[if true then .exc 2 false []else .inst 2 []]) 6 [.ref h.length,.int q,.str t] (.ok .none (h++[.exc 2 false [(0,.str t),(2,.int q)]])):=by
 show Fun (m+1,o) (h++[.exc 2 false []]) 6 _ _
 have F:∀m:Nat,Fun (m,o) (h++[.exc 2 false []]) 4 [.ref h.length,.str t] (.ok .none (h++[.exc 2 false [(0,.str t)]])):=λm=>ky
 exact Fun.end rfl rfl (by k_all)
theorem Fun.kern{d f:Nat}{o:Option Nat}{h:Hp}{args:List V}{r:R V}(K:Nat)(e:∀m,(ak prog (m+K)).fn (d,o) h f args=r):Fun (d,o) h f args r:=⟨K,λn hn=>by
 obtain⟨m,rfl⟩:∃m,n=m+K:=⟨n-K,by exact Eq.symm (Nat.sub_add_cancel hn)⟩
 exact e m⟩
section
variable{h:Hp}{m:Nat}
noncomputable abbrev CL:E:=.cmp (.C8 1) [.gt] [.int 1]
noncomputable abbrev CM:List S:=[.aug 1 .fdiv (.int 2),.iff (.bin .rsh (.C8 0) (.C8 1)) [.aug 0 .rsh (.C8 1),.aug 2 .add (.C8 1)] []]
noncomputable abbrev CN:E:=.bin .rsh (.C8 0) (.C8 1)
noncomputable abbrev CO:List S:=[.aug 1 .mul (.int 2)]
def eQ(h:Hp)(m:Nat)(w:Int):Prop:=∀b q:Int,∃b' q':Int,Wl (m,none) [some (.int b),some (.int w),some (.int q)] h CL CM (.ok .next [some (.int b'),some (.int 1),some (.int q')] h)
theorem BJ:eQ h m 1:=λb q=>⟨b,q,Wl.stop (by k_all) rfl⟩
theorem ip{w w':Int}(e:w.fdiv 2=w')(n:0<=w.fdiv 2)(g:decide (1<w)=true)(H:eQ h m w'):eQ h m w:=λb q=>by
 cases z:b.fdiv (2^(w.fdiv 2).toNat) !=0 with
 |true=>
  refine bE (H (b.fdiv (2^(w.fdiv 2).toNat)) (q+w.fdiv 2)) λb' q' T=>?_
  rw[<-e]at T
  exact⟨b',q',Wl.next (by k_all) (by exact Ds some g) (by k_all) T⟩
 |false=>
  refine bE (H b q) λb' q' T=>?_
  rw[<-e]at T
  exact⟨b',q',Wl.next (by k_all) (by exact Ds some g) (by k_all) T⟩
theorem BK:eQ h m 2:=ip (w':=1) rfl (by decide) rfl BJ
theorem BL:eQ h m 4:=ip (w':=2) rfl (by decide) rfl BK
theorem BM:eQ h m 8:=ip (w':=4) rfl (by decide) rfl BL
theorem zv:eQ h m 16:=ip (w':=8) rfl (by decide) rfl BM
theorem BN:eQ h m 32:=ip (w':=16) rfl (by decide) rfl zv
def ny(h:Hp)(m:Nat)(b w:Int):Prop:=∃w',eQ h m w'/\Wl (m,none) [some (.int b),some (.int w),none] h CN CO (.ok .next [some (.int b),some (.int w'),none] h)
theorem iq{b w w':Int}(n:0<=w)(e:w*2=w')(D:eQ h m w)(H:ny h m b w'):ny h m b w:=by
 cases z:b.fdiv (2^w.toNat) !=0 with
 |true=>
  refine ai H λu D' T=>?_;clear H
  rw[<-e]at T
  exact⟨u,D',Wl.next (by k_all) (by exact Ds some z) (by k_all) T⟩
 |false=>exact⟨w,D,Wl.stop (by k_all) (by exact Ds some z)⟩
theorem yr{b:Int}(l:0<=b)(u:b<4294967296):ny h m b 1:=by
 have z:b.fdiv (2^(32:Int).toNat)=0:=by
  show b.fdiv (2^32)=0
  exists(Fe _ (by decide))
  exact Int.ediv_eq_zero_of_lt l (by simpa using u)
 have z':(b.fdiv (2^(32:Int).toNat) !=0)=false:=by(exists z);rfl
 have n:(0:Int)<=32:=by decide
 have H:ny h m b 32:=⟨32,BN,Wl.stop (by k_all) (by exact Ds some z')⟩
 exact iq (by decide) rfl BJ (iq (by decide) rfl BK (iq (by decide) rfl BL (iq (by decide) rfl BM (iq (by decide) rfl zv H))))
theorem fo{b:Int}(l:0<b)(u:b<4294967296):∃r:Int,Fun (m+1,none) h 20 [.int b] (.ok (.int r) h):=by
 refine ai (yr (h:=h) (m:=m) (Eh l) u) λw D T=>?_
 refine bE (D b 0) λb' q' U=>?_
 have z:(b==0)=false:=Ef.mpr (by exact E9 l)
 refine⟨q',?_⟩
 exact Fun.ret rfl rfl (.cons (.Da (by k_all) (by exact Ds some z) .nil) (.cons (.C9 .int) (.cons (.whl T) (.cons (.C9 .int) (.cons (.whl U) (.ret (.ret (.C8 rfl))))))))
theorem yt{b:Int}(l:0<b):0<bitAnd b (-b)/\bitAnd b (-b)<=b:=by
 refine aB (Int.eq_succ_of_zero_lt l) λn e0=>?_
 have e0:b=((n+1:Nat):Int):=e0
 subst e0
 exists(PyProof.Rows.bitAnd_pn (by exact Dq _) (by exact Em.mpr (ao [n] [(.lt (.n 0) (.a (.v 0) (.n 1)),1)] (.lt (.g (.a (.v 0) (.n 1))) (.n 0)) 1 rfl l)))
 have e:(bitNot (-((n+1:Nat):Int))).toNat=n:=by unfold bitNot;rw[Int.neg_neg];show((n:Int)+1-1).toNat=n;rw[Int.add_sub_cancel];rfl
 exists e
 have e2:((n+1:Nat):Int).toNat=n+1:=rfl
 exists e2
 have:=Nat.and_le_right (n:=n+1) (m:=n)
 lia
theorem pd{b:Int}(l:0<b)(u:b<4294967296):∃r:Int,Fun (m+2,none) h 21 [.int b] (.ok (.int r) h):=by
 refine aA (yt l) λx y=>?_
 refine aB (fo (h:=h) (m:=m) x (by exact Fu y u)) λr F=>?_
 exact⟨r,Fun.ret rfl rfl (by k_all)⟩
theorem qT(k:Nat)(hk:k<30):Fun (m+3,none) h 21 [.int (2^k)] (.ok (.int k) h):=by
 refine Fun.kern 40 λn=>?_
 revert k
 iterate 30 (refine uI ?_ (by kernel_rfl))
 exact uH
end
section
variable{h:Hp}{m p g Z b k sd:Nat}{k0 k1 k2 k3 k4 k5 k6 s0 s1:Int}{vside vrights vep vhalf vfull vkey vhist:V}
theorem pieces(hp:h[p]? =some (.inst 6 [(23,.ref g),(22,.ref Z),(24,.ref b),(25,.ref k),(26,.ref sd),(21,vside),(20,vrights),(19,vep),(27,vhalf),(6,vfull),(28,vkey),(29,vhist)])) (hk:h[k]? =some (.list [.int k0,.int k1,.int k2,.int k3,.int k4,.int k5,.int k6])) (hs:h[sd]? =some (.list [.int s0,.int s1])) {CZ kind own kk:Int} (n1:0<=CZ) (q1:[V.int s0,V.int s1][CZ.toNat]? =some (.int own)) (n2:0<=kind) (q2:[V.int k0,V.int k1,V.int k2,V.int k3,V.int k4,V.int k5,V.int k6][kind.toNat]? =some (.int kk)):
 Fun (m,none) h 32 [.ref p,.int CZ,.int kind] (.ok (.int (bitAnd own kk)) h):=Fun.ret rfl rfl (by k_all)
theorem more_than_one{c:Int}:Fun (m,none) h 19 [.int c] (.ok (.bool (bitAnd c (c-1) !=0)) h):=Fun.ret rfl rfl (by k_all)
noncomputable abbrev dz(h:Hp)(t:List Nat)(q:Int):Hp:=h++[.exc 1 false [(0,.str t),(1,.int q)]]
theorem vO(hp:h[p]? =some (.inst 6 [(23,.ref g),(22,.ref Z),(24,.ref b),(25,.ref k),(26,.ref sd),(21,vside),(20,vrights),(19,vep),(27,vhalf),(6,vfull),(28,vkey),(29,vhist)])) (hk:h[k]? =some (.list [.int k0,.int k1,.int k2,.int k3,.int k4,.int k5,.int k6])) (hs:h[sd]? =some (.list [.int s0,.int s1])) (z0:(bitAnd s0 k6==0)=false) (t0:(bitAnd (bitAnd s0 k6) (bitAnd s0 k6-1) !=0)=false) (z1:(bitAnd s1 k6==0)=false) (t1:(bitAnd (bitAnd s1 k6) (bitAnd s1 k6-1) !=0)=false):
 Fun (m+3,none) h 37 [.ref p] (.ok .none h):=by
 have F0:∀m:Nat,Fun (m,none) h 32 [.ref p,.int 0,.int 6] (.ok (.int (bitAnd s0 k6)) h):=λm=>pieces hp hk hs (by decide) rfl (by decide) rfl
 have F1:∀m:Nat,Fun (m,none) h 32 [.ref p,.int 1,.int 6] (.ok (.int (bitAnd s1 k6)) h):=λm=>pieces hp hk hs (by decide) rfl (by decide) rfl
 have M:∀(m:Nat)(c:Int),Fun (m,none) h 19 [.int c] (.ok (.bool (bitAnd c (c-1) !=0)) h):=λm c=>more_than_one
 exact Fun.end rfl rfl (by k_all)
theorem tO(hp:h[p]? =some (.inst 6 [(23,.ref g),(22,.ref Z),(24,.ref b),(25,.ref k),(26,.ref sd),(21,vside),(20,vrights),(19,vep),(27,vhalf),(6,vfull),(28,vkey),(29,vhist)])) (hk:h[k]? =some (.list [.int k0,.int k1,.int k2,.int k3,.int k4,.int k5,.int k6])) (hs:h[sd]? =some (.list [.int s0,.int s1])) (r0:0<=bitAnd s0 k6) (u0:bitAnd s0 k6<4294967296) (r1:0<=bitAnd s1 k6) (u1:bitAnd s1 k6<4294967296)
 (bad:¬((bitAnd s0 k6==0)=false/\(bitAnd (bitAnd s0 k6) (bitAnd s0 k6-1) !=0)=false/\(bitAnd s1 k6==0)=false/\(bitAnd (bitAnd s1 k6) (bitAnd s1 k6-1) !=0)=false)):
 ∃t q,Fun (m+4,none) h 37 [.ref p] (.exc h.length (dz h t q)):=by
 have F0:∀m:Nat,Fun (m,none) h 32 [.ref p,.int 0,.int 6] (.ok (.int (bitAnd s0 k6)) h):=λm=>pieces hp hk hs (by decide) rfl (by decide) rfl
 have F1:∀m:Nat,Fun (m,none) h 32 [.ref p,.int 1,.int 6] (.ok (.int (bitAnd s1 k6)) h):=λm=>pieces hp hk hs (by decide) rfl (by decide) rfl
 have M:∀(m:Nat)(c:Int),Fun (m,none) h 19 [.int c] (.ok (.bool (bitAnd c (c-1) !=0)) h):=λm c=>more_than_one
 have B:∀(m:Nat)(o:Option Nat)(t:List Nat)(q:Int),Fun (m+1,o) (h++[if true then .exc 1 false []else .inst 1 []]) 5 [.ref h.length,.str t,.int q] (.ok .none (h++[.exc 1 false [(0,.str t),(1,.int q)]])):=λm o t q=>bx
 cases z0:bitAnd s0 k6==0 with
 |true=>exact⟨_,_,Fun.exc rfl rfl (.exc (.for (by k_all) (by rfl) (.exc (by rfl) (.cons (.C9 (by k_all)) (.exc (.Db (by k_all) (by k_upd) (.exc (.raise (by k_all) (by k_upd)))))))))⟩
 |false=>
  cases t0:bitAnd (bitAnd s0 k6) (bitAnd s0 k6-1) !=0 with
  |true=>
   refine aB (fo (h:=h) (m:=m+1) (by have:=Ef.mp z0;lia) u0) λr H=>?_
   exact⟨_,_,Fun.exc rfl rfl (.exc (.for (by k_all) (by rfl) (.exc (by rfl) (.cons (.C9 (by k_all)) (.cons (.Da (by k_all) (by k_upd) .nil) (.exc (.Db (by k_all) (by k_upd) (.exc (.raise (by k_all) (by k_upd))))))))))⟩
  |false=>
   cases z1:bitAnd s1 k6==0 with
   |true=>exact⟨_,_,Fun.exc rfl rfl (.exc (.for (by k_all) (by rfl) (.next (by rfl) (by k_all) (.exc (by rfl) (.cons (.C9 (by k_all)) (.exc (.Db (by k_all) (by k_upd) (.exc (.raise (by k_all) (by k_upd))))))))))⟩
   |false=>
    cases t1:bitAnd (bitAnd s1 k6) (bitAnd s1 k6-1) !=0 with
    |true=>
     refine aB (fo (h:=h) (m:=m+1) (by have:=Ef.mp z1;lia) u1) λr H=>?_
     exact⟨_,_,Fun.exc rfl rfl (.exc (.for (by k_all) (by rfl) (.next (by rfl) (by k_all) (.exc (by rfl) (.cons (.C9 (by k_all)) (.cons (.Da (by k_all) (by k_upd) .nil) (.exc (.Db (by k_all) (by k_upd) (.exc (.raise (by k_all) (by k_upd)))))))))))⟩
    |false=>exact absurd ⟨z0,t0,z1,t1⟩ bad
variable{gfs:List (Nat×V)}{RM:Nat}
theorem vP(hp:h[p]? =some (.inst 6 [(23,.ref g),(22,.ref Z),(24,.ref b),(25,.ref k),(26,.ref sd),(21,vside),(20,vrights),(19,vep),(27,vhalf),(6,vfull),(28,vkey),(29,vhist)])) (hk:h[k]? =some (.list [.int k0,.int k1,.int k2,.int k3,.int k4,.int k5,.int k6])) (hs:h[sd]? =some (.list [.int s0,.int s1])) (hg:h[g]? =some (.inst 3 gfs)) (f1:aG 10 gfs=some (.ref RM)) (f2:aG 4 gfs=some (.int 5)) (hr:h[RM]? =some (.list [.int 63,.int 4032,.int 258048,.int 16515072,.int 1056964608]))
 (z:(bitAnd k1 (bitOr 63 1056964608) !=0)=false):Fun (m+3,none) h 38 [.ref p] (.ok .none h):=by
 exact Fun.end rfl rfl (by k_all)
theorem tP(hp:h[p]? =some (.inst 6 [(23,.ref g),(22,.ref Z),(24,.ref b),(25,.ref k),(26,.ref sd),(21,vside),(20,vrights),(19,vep),(27,vhalf),(6,vfull),(28,vkey),(29,vhist)])) (hk:h[k]? =some (.list [.int k0,.int k1,.int k2,.int k3,.int k4,.int k5,.int k6])) (hs:h[sd]? =some (.list [.int s0,.int s1])) (hg:h[g]? =some (.inst 3 gfs)) (f1:aG 10 gfs=some (.ref RM)) (f2:aG 4 gfs=some (.int 5)) (hr:h[RM]? =some (.list [.int 63,.int 4032,.int 258048,.int 16515072,.int 1056964608]))
 (r0:0<=bitAnd k1 (bitOr 63 1056964608)) (u0:bitAnd k1 (bitOr 63 1056964608)<4294967296)
 (z:(bitAnd k1 (bitOr 63 1056964608) !=0)=true):∃t q,Fun (m+4,none) h 38 [.ref p] (.exc h.length (dz h t q)):=by
 have B:∀(m:Nat)(o:Option Nat)(t:List Nat)(q:Int),Fun (m+1,o) (h++[if true then .exc 1 false []else .inst 1 []]) 5 [.ref h.length,.str t,.int q] (.ok .none (h++[.exc 1 false [(0,.str t),(1,.int q)]])):=λm o t q=>bx
 refine aB (pd (h:=h) (m:=m+1) (b:=bitAnd k1 (bitOr 63 1056964608)) (by have:=GQ.mp z;lia) u0) λr H=>?_
 exact⟨_,_,Fun.exc rfl rfl (by k_all)⟩
theorem yu{h:Hp}{a b:O}:((h++[a])++[b])[h.length]? =some a:=by simp
theorem qU{body:List S}{CT:Env}{t:List Nat}{q part:Int}{e1:CT[1]? =some none\/True} (l:1<CT.length) (B:Exs (m+2,none) CT h body (.exc h.length CT (dz h t q))):
 ∃C4,Ex (m+3,none) CT h (.try body 1 1 [.raise (.new 2 [.int part,.attr (.C8 1) 0])]) (.exc (h.length+1) C4 (dz h t q++[.exc 2 true [(0,.str t),(2,.int part)]])):=by
 have F:∀(m:Nat)(o:Option Nat)(t':List Nat)(q':Int),Fun (m+1,o) (dz h t q++[if true then .exc 2 false []else .inst 2 []]) 6 [.ref (dz h t q).length,.int q',.str t'] (.ok .none (dz h t q++[.exc 2 false [(0,.str t'),(2,.int q')]])):=λm o t' q'=>bz
 have ll:(CT.set 1 (some (.ref h.length)))[1]? =some (some (.ref h.length)):=by rw[DG l]
 have e:(dz h t q).length=h.length+1:=by simp[dz]
 have g1:(dz h t q++[O.exc 2 false [(0,.str t),(2,.int part)]])[h.length]? =some (.exc 1 false [(0,.str t),(1,.int q)]):=yu
 have g2:(dz h t q++[O.exc 2 false [(0,.str t),(2,.int part)]])[(dz h t q).length]? =some (.exc 2 false [(0,.str t),(2,.int part)]):=last_get
 have ne:(h.length==(dz h t q).length)=false:=by(exists e);simp
 have H:=Ex.tryXX (c:=1) (i:=1) (o:=none) (m:=m+2) (hb:=[.raise (.new 2 [.int part,.attr (.C8 1) 0])]) B last_get
  (Exs.exc (ss:=[]) (Ex.Dj (Ev.new rfl rfl (.cons .int (.cons (.attr (.C8 ll) (ga_exc last_get rfl)) .nil)) rfl (F m (some h.length) t part)) g2 g1 ne))
 have e3:(dz h t q++[O.exc 2 false [(0,.str t),(2,.int part)]]).set (dz h t q).length (.exc 2 true [(0,.str t),(2,.int part)])=dz h t q++[.exc 2 true [(0,.str t),(2,.int part)]]:=io
 rw[e3,e]at H
 exact⟨_,H⟩
end
section
variable{h:Hp}{m p g Z b k sd Cs:Nat}{vside vep vhalf vfull vkey vhist:V}{gfs:List (Nat×V)}{bd:List V}{CV:Int}
theorem make_piece{a c:Int}:Fun (m,none) h 0 [.int a,.int c] (.ok (.int (a*8+c)) h):=Fun.ret rfl rfl (by k_all)
noncomputable abbrev yv(h:Hp)(t:List Nat)(q part:Int):Hp:=dz h t q++[.exc 2 true [(0,.str t),(2,.int part)]]
theorem jy(F1:Fun (m+1,none) h 37 [.ref p] (.ok .none h))(F2:Fun (m+1,none) h 38 [.ref p] (.ok .none h)):Fun (m+3,none) h 55 [.ref p] (.ok .none h):=
 Fun.end rfl rfl (.cons (.tryOk (.cons (.expr (.call (by k_all) F1)) (.cons (.expr (.call (by k_all) F2)) .nil))) .nil)
theorem ir{t:List Nat}{q:Int}(F1:Fun (m+1,none) h 37 [.ref p] (.exc h.length (dz h t q))):Fun (m+3,none) h 55 [.ref p] (.exc (h.length+1) (yv h t q 0)):=by
 refine aB (qU (m:=m) (part:=0) (CT:=[some (.ref p),none]) (e1:=.inl rfl) (by simp) (body:=[.expr (.call 37 [.C8 0]),.expr (.call 38 [.C8 0])]) (.exc (.Dk (.call (by k_all) F1)))) λC4 H=>?_
 exact Fun.exc rfl rfl (.exc H)
theorem iu{t:List Nat}{q:Int}(F1:Fun (m+1,none) h 37 [.ref p] (.ok .none h))(F2:Fun (m+1,none) h 38 [.ref p] (.exc h.length (dz h t q))):Fun (m+3,none) h 55 [.ref p] (.exc (h.length+1) (yv h t q 0)):=by
 refine aB (qU (m:=m) (part:=0) (CT:=[some (.ref p),none]) (e1:=.inl rfl) (by simp) (body:=[.expr (.call 37 [.C8 0]),.expr (.call 38 [.C8 0])]) (.cons (.expr (.call (by k_all) F1)) (.exc (.Dk (.call (by k_all) F2))))) λC4 H=>?_
 exact Fun.exc rfl rfl (.exc H)
theorem kz(F1:Fun (m+1,none) h 39 [.ref p] (.ok .none h)):Fun (m+3,none) h 56 [.ref p] (.ok .none h):=
 Fun.end rfl rfl (.cons (.tryOk (.cons (.expr (.call (by k_all) F1)) .nil)) .nil)
theorem jz{t:List Nat}{q:Int}(F1:Fun (m+1,none) h 39 [.ref p] (.exc h.length (dz h t q))):Fun (m+3,none) h 56 [.ref p] (.exc (h.length+1) (yv h t q 2)):=by
 refine aB (qU (m:=m) (part:=2) (CT:=[some (.ref p),none]) (e1:=.inl rfl) (by simp) (body:=[.expr (.call 39 [.C8 0])]) (.exc (.Dk (.call (by k_all) F1)))) λC4 H=>?_
 exact Fun.exc rfl rfl (.exc H)
noncomputable def vQ:List S:=im f_check_rights.body 1
def yw(h:Hp)(m p:Nat)(i:Int):Prop:=∀x1 x2,∃C4,Lp (m,none) [some (.ref p),x1,x2] h 1 (.rng i 4 1) vQ (.ok .next C4 h)
def iy(h:Hp)(m p:Nat)(i:Int):Prop:=∃t q,∀x1 x2,∃C4,Lp (m,none) [some (.ref p),x1,x2] h 1 (.rng i 4 1) vQ (.exc h.length C4 (dz h t q))
theorem zw:yw h m p 4:=λx1 x2=>⟨_,Lp.fin rfl⟩
theorem AK(hp:h[p]? =some (.inst 6 [(23,.ref g),(22,.ref Z),(24,.ref b),(25,.ref k),(26,.ref sd),(21,vside),(20,.int CV),(19,vep),(27,vhalf),(6,vfull),(28,vkey),(29,vhist)])) (hb:h[b]? =some (.list bd)) (lb:ae bd.length=true) (hg:h[g]? =some (.inst 3 gfs)) (fC:aG 15 gfs=some (.ref Cs)) (hC:h[Cs]? =some (.list [.none,.tup [.int 3,.int 1,.int 0,.int 2],.none,.tup [.int 27,.int 25,.int 24,.int 26]])) {i:Nat} (hi:i<4) (z:(bitAnd CV (1*2^i)==0)=true):(yw h (m+1) p (i+1)->yw h (m+1) p i)/\(iy h (m+1) p (i+1)->iy h (m+1) p i):=by
 have key:∀x2:Option V,Exs (m+1,none) [some (.ref p),some (.int i),x2] h vQ (.ok .cont [some (.ref p),some (.int i),x2] h):=λx2=>by
  rcases(by exact BX hi:i=0\/i=1\/i=2\/i=3)with rfl|rfl|rfl|rfl<;>exact .cont (.Db (by k_all) (by k_upd) (.cont .cont))
 have nx:∀x,aP x (.rng (i:Int) 4 1)=.one (.int i) (.rng (i+1) 4 1):=λx=>by
  rcases(BX hi)with rfl|rfl|rfl|rfl<;>rfl
 refine⟨λH x1 x2=>?_,λz=>bE z λt q H=>⟨t,q,λx1 x2=>?_⟩⟩
 ·refine aB (H (some (.int i)) x2) λC4 T=>?_
  exact⟨C4,Lp.cont (nx h) (key x2) T⟩
 ·refine aB (H (some (.int i)) x2) λC4 T=>?_
  exact⟨C4,Lp.cont (nx h) (key x2) T⟩
theorem yx(hp:h[p]? =some (.inst 6 [(23,.ref g),(22,.ref Z),(24,.ref b),(25,.ref k),(26,.ref sd),(21,vside),(20,.int CV),(19,vep),(27,vhalf),(6,vfull),(28,vkey),(29,vhist)])) (hb:h[b]? =some (.list bd)) (lb:ae bd.length=true) (hg:h[g]? =some (.inst 3 gfs)) (fC:aG 15 gfs=some (.ref Cs)) (hC:h[Cs]? =some (.list [.none,.tup [.int 3,.int 1,.int 0,.int 2],.none,.tup [.int 27,.int 25,.int 24,.int 26]])) (z:(bitAnd CV (1*2^0)==0)=false):iy h (m+2) p 0:=by
 have B:∀(m:Nat)(o:Option Nat)(t:List Nat)(q:Int),Fun (m+1,o) (h++[if true then .exc 1 false []else .inst 1 []]) 5 [.ref h.length,.str t,.int q] (.ok .none (h++[.exc 1 false [(0,.str t),(1,.int q)]])):=λm o t q=>bx
 have P:∀(m:Nat)(a c:Int),Fun (m,none) h 0 [.int a,.int c] (.ok (.int (a*8+c)) h):=λm a c=>make_piece
 exact⟨_,_,λx1 x2=>⟨_,Lp.exc (by rfl) (.cons (.Da (by k_all) (by k_upd) .nil) (.cons (.C9 (by k_all)) (.exc (.Db (by k_all) (by k_upd) (.exc (.raise (by k_all) (by k_upd)))))))⟩⟩
theorem yy(hp:h[p]? =some (.inst 6 [(23,.ref g),(22,.ref Z),(24,.ref b),(25,.ref k),(26,.ref sd),(21,vside),(20,.int CV),(19,vep),(27,vhalf),(6,vfull),(28,vkey),(29,vhist)])) (hb:h[b]? =some (.list bd)) (lb:ae bd.length=true) (hg:h[g]? =some (.inst 3 gfs)) (fC:aG 15 gfs=some (.ref Cs)) (hC:h[Cs]? =some (.list [.none,.tup [.int 3,.int 1,.int 0,.int 2],.none,.tup [.int 27,.int 25,.int 24,.int 26]])) (z:(bitAnd CV (1*2^2)==0)=false):iy h (m+2) p 2:=by
 have B:∀(m:Nat)(o:Option Nat)(t:List Nat)(q:Int),Fun (m+1,o) (h++[if true then .exc 1 false []else .inst 1 []]) 5 [.ref h.length,.str t,.int q] (.ok .none (h++[.exc 1 false [(0,.str t),(1,.int q)]])):=λm o t q=>bx
 have P:∀(m:Nat)(a c:Int),Fun (m,none) h 0 [.int a,.int c] (.ok (.int (a*8+c)) h):=λm a c=>make_piece
 exact⟨_,_,λx1 x2=>⟨_,Lp.exc (by rfl) (.cons (.Da (by k_all) (by k_upd) .nil) (.cons (.C9 (by k_all)) (.exc (.Db (by k_all) (by k_upd) (.exc (.raise (by k_all) (by k_upd)))))))⟩⟩
theorem yz(hp:h[p]? =some (.inst 6 [(23,.ref g),(22,.ref Z),(24,.ref b),(25,.ref k),(26,.ref sd),(21,vside),(20,.int CV),(19,vep),(27,vhalf),(6,vfull),(28,vkey),(29,vhist)])) (hb:h[b]? =some (.list bd)) (lb:ae bd.length=true) (hg:h[g]? =some (.inst 3 gfs)) (fC:aG 15 gfs=some (.ref Cs)) (hC:h[Cs]? =some (.list [.none,.tup [.int 3,.int 1,.int 0,.int 2],.none,.tup [.int 27,.int 25,.int 24,.int 26]])) {bk:Int} (z:(bitAnd CV (1*2^1)==0)=false) (q1:bd[3]? =some (.int bk)) (n1:(bk !=6)=true):iy h (m+2) p 1:=by
 have B:∀(m:Nat)(o:Option Nat)(t:List Nat)(q:Int),Fun (m+1,o) (h++[if true then .exc 1 false []else .inst 1 []]) 5 [.ref h.length,.str t,.int q] (.ok .none (h++[.exc 1 false [(0,.str t),(1,.int q)]])):=λm o t q=>bx
 have P:∀(m:Nat)(a c:Int),Fun (m,none) h 0 [.int a,.int c] (.ok (.int (a*8+c)) h):=λm a c=>make_piece
 exact⟨_,_,λx1 x2=>⟨_,Lp.exc (by rfl) (.cons (.Da (by k_all) (by k_upd) .nil) (.cons (.C9 (by k_all)) (.cons (.Da (by k_all) (by k_upd) .nil) (.exc (.Db (by k_all) (by k_upd) (.exc (.raise (by k_all) (by k_upd))))))))⟩⟩
theorem yA(hp:h[p]? =some (.inst 6 [(23,.ref g),(22,.ref Z),(24,.ref b),(25,.ref k),(26,.ref sd),(21,vside),(20,.int CV),(19,vep),(27,vhalf),(6,vfull),(28,vkey),(29,vhist)])) (hb:h[b]? =some (.list bd)) (lb:ae bd.length=true) (hg:h[g]? =some (.inst 3 gfs)) (fC:aG 15 gfs=some (.ref Cs)) (hC:h[Cs]? =some (.list [.none,.tup [.int 3,.int 1,.int 0,.int 2],.none,.tup [.int 27,.int 25,.int 24,.int 26]])) {bk br:Int} (z:(bitAnd CV (1*2^1)==0)=false) (q1:bd[3]? =some (.int bk)) (n1:(bk !=6)=false) (q2:bd[0]? =some (.int br)) (n2:(br !=4)=true):iy h (m+2) p 1:=by
 have B:∀(m:Nat)(o:Option Nat)(t:List Nat)(q:Int),Fun (m+1,o) (h++[if true then .exc 1 false []else .inst 1 []]) 5 [.ref h.length,.str t,.int q] (.ok .none (h++[.exc 1 false [(0,.str t),(1,.int q)]])):=λm o t q=>bx
 have P:∀(m:Nat)(a c:Int),Fun (m,none) h 0 [.int a,.int c] (.ok (.int (a*8+c)) h):=λm a c=>make_piece
 exact⟨_,_,λx1 x2=>⟨_,Lp.exc (by rfl) (.cons (.Da (by k_all) (by k_upd) .nil) (.cons (.C9 (by k_all)) (.cons (.Da (by k_all) (by k_upd) .nil) (.cons (.Da (by k_all) (by k_upd) .nil) (.exc (.Db (by k_all) (by k_upd) (.exc (.raise (by k_all) (by k_upd)))))))))⟩⟩
theorem yB(hp:h[p]? =some (.inst 6 [(23,.ref g),(22,.ref Z),(24,.ref b),(25,.ref k),(26,.ref sd),(21,vside),(20,.int CV),(19,vep),(27,vhalf),(6,vfull),(28,vkey),(29,vhist)])) (hb:h[b]? =some (.list bd)) (lb:ae bd.length=true) (hg:h[g]? =some (.inst 3 gfs)) (fC:aG 15 gfs=some (.ref Cs)) (hC:h[Cs]? =some (.list [.none,.tup [.int 3,.int 1,.int 0,.int 2],.none,.tup [.int 27,.int 25,.int 24,.int 26]])) {bk br:Int} (z:(bitAnd CV (1*2^1)==0)=false) (q1:bd[3]? =some (.int bk)) (n1:(bk !=6)=false) (q2:bd[0]? =some (.int br)) (n2:(br !=4)=false):
 (yw h (m+2) p 2->yw h (m+2) p 1)/\(iy h (m+2) p 2->iy h (m+2) p 1):=by
 have B:∀(m:Nat)(o:Option Nat)(t:List Nat)(q:Int),Fun (m+1,o) (h++[if true then .exc 1 false []else .inst 1 []]) 5 [.ref h.length,.str t,.int q] (.ok .none (h++[.exc 1 false [(0,.str t),(1,.int q)]])):=λm o t q=>bx
 have P:∀(m:Nat)(a c:Int),Fun (m,none) h 0 [.int a,.int c] (.ok (.int (a*8+c)) h):=λm a c=>make_piece
 refine⟨λH x1 x2=>?_,λz=>bE z λt q H=>⟨t,q,λx1 x2=>?_⟩⟩
 ·refine aB (H (some (.int 1)) (some (.tup [.int 3,.int 1,.int 0,.int 2]))) λC4 T=>?_
  exact⟨C4,Lp.next (by rfl) (.cons (.Da (by k_all) (by k_upd) .nil) (.cons (.C9 (by k_all)) (.cons (.Da (by k_all) (by k_upd) .nil) (.cons (.Da (by k_all) (by k_upd) .nil) (.cons (.Da (by k_all) (by k_upd) .nil) .nil))))) T⟩
 ·refine aB (H (some (.int 1)) (some (.tup [.int 3,.int 1,.int 0,.int 2]))) λC4 T=>?_
  exact⟨C4,Lp.next (by rfl) (.cons (.Da (by k_all) (by k_upd) .nil) (.cons (.C9 (by k_all)) (.cons (.Da (by k_all) (by k_upd) .nil) (.cons (.Da (by k_all) (by k_upd) .nil) (.cons (.Da (by k_all) (by k_upd) .nil) .nil))))) T⟩
theorem yC(hp:h[p]? =some (.inst 6 [(23,.ref g),(22,.ref Z),(24,.ref b),(25,.ref k),(26,.ref sd),(21,vside),(20,.int CV),(19,vep),(27,vhalf),(6,vfull),(28,vkey),(29,vhist)])) (hb:h[b]? =some (.list bd)) (lb:ae bd.length=true) (hg:h[g]? =some (.inst 3 gfs)) (fC:aG 15 gfs=some (.ref Cs)) (hC:h[Cs]? =some (.list [.none,.tup [.int 3,.int 1,.int 0,.int 2],.none,.tup [.int 27,.int 25,.int 24,.int 26]])) {bk:Int} (z:(bitAnd CV (1*2^3)==0)=false) (q1:bd[27]? =some (.int bk)) (n1:(bk !=14)=true):iy h (m+2) p 3:=by
 have B:∀(m:Nat)(o:Option Nat)(t:List Nat)(q:Int),Fun (m+1,o) (h++[if true then .exc 1 false []else .inst 1 []]) 5 [.ref h.length,.str t,.int q] (.ok .none (h++[.exc 1 false [(0,.str t),(1,.int q)]])):=λm o t q=>bx
 have P:∀(m:Nat)(a c:Int),Fun (m,none) h 0 [.int a,.int c] (.ok (.int (a*8+c)) h):=λm a c=>make_piece
 exact⟨_,_,λx1 x2=>⟨_,Lp.exc (by rfl) (.cons (.Da (by k_all) (by k_upd) .nil) (.cons (.C9 (by k_all)) (.cons (.Da (by k_all) (by k_upd) .nil) (.exc (.Db (by k_all) (by k_upd) (.exc (.raise (by k_all) (by k_upd))))))))⟩⟩
theorem yD(hp:h[p]? =some (.inst 6 [(23,.ref g),(22,.ref Z),(24,.ref b),(25,.ref k),(26,.ref sd),(21,vside),(20,.int CV),(19,vep),(27,vhalf),(6,vfull),(28,vkey),(29,vhist)])) (hb:h[b]? =some (.list bd)) (lb:ae bd.length=true) (hg:h[g]? =some (.inst 3 gfs)) (fC:aG 15 gfs=some (.ref Cs)) (hC:h[Cs]? =some (.list [.none,.tup [.int 3,.int 1,.int 0,.int 2],.none,.tup [.int 27,.int 25,.int 24,.int 26]])) {bk br:Int} (z:(bitAnd CV (1*2^3)==0)=false) (q1:bd[27]? =some (.int bk)) (n1:(bk !=14)=false) (q2:bd[24]? =some (.int br)) (n2:(br !=12)=true):iy h (m+2) p 3:=by
 have B:∀(m:Nat)(o:Option Nat)(t:List Nat)(q:Int),Fun (m+1,o) (h++[if true then .exc 1 false []else .inst 1 []]) 5 [.ref h.length,.str t,.int q] (.ok .none (h++[.exc 1 false [(0,.str t),(1,.int q)]])):=λm o t q=>bx
 have P:∀(m:Nat)(a c:Int),Fun (m,none) h 0 [.int a,.int c] (.ok (.int (a*8+c)) h):=λm a c=>make_piece
 exact⟨_,_,λx1 x2=>⟨_,Lp.exc (by rfl) (.cons (.Da (by k_all) (by k_upd) .nil) (.cons (.C9 (by k_all)) (.cons (.Da (by k_all) (by k_upd) .nil) (.cons (.Da (by k_all) (by k_upd) .nil) (.exc (.Db (by k_all) (by k_upd) (.exc (.raise (by k_all) (by k_upd)))))))))⟩⟩
theorem yE(hp:h[p]? =some (.inst 6 [(23,.ref g),(22,.ref Z),(24,.ref b),(25,.ref k),(26,.ref sd),(21,vside),(20,.int CV),(19,vep),(27,vhalf),(6,vfull),(28,vkey),(29,vhist)])) (hb:h[b]? =some (.list bd)) (lb:ae bd.length=true) (hg:h[g]? =some (.inst 3 gfs)) (fC:aG 15 gfs=some (.ref Cs)) (hC:h[Cs]? =some (.list [.none,.tup [.int 3,.int 1,.int 0,.int 2],.none,.tup [.int 27,.int 25,.int 24,.int 26]])) {bk br:Int} (z:(bitAnd CV (1*2^3)==0)=false) (q1:bd[27]? =some (.int bk)) (n1:(bk !=14)=false) (q2:bd[24]? =some (.int br)) (n2:(br !=12)=false):
 (yw h (m+2) p 4->yw h (m+2) p 3)/\(iy h (m+2) p 4->iy h (m+2) p 3):=by
 have B:∀(m:Nat)(o:Option Nat)(t:List Nat)(q:Int),Fun (m+1,o) (h++[if true then .exc 1 false []else .inst 1 []]) 5 [.ref h.length,.str t,.int q] (.ok .none (h++[.exc 1 false [(0,.str t),(1,.int q)]])):=λm o t q=>bx
 have P:∀(m:Nat)(a c:Int),Fun (m,none) h 0 [.int a,.int c] (.ok (.int (a*8+c)) h):=λm a c=>make_piece
 refine⟨λH x1 x2=>?_,λz=>bE z λt q H=>⟨t,q,λx1 x2=>?_⟩⟩
 ·refine aB (H (some (.int 3)) (some (.tup [.int 27,.int 25,.int 24,.int 26]))) λC4 T=>?_
  exact⟨C4,Lp.next (by rfl) (.cons (.Da (by k_all) (by k_upd) .nil) (.cons (.C9 (by k_all)) (.cons (.Da (by k_all) (by k_upd) .nil) (.cons (.Da (by k_all) (by k_upd) .nil) (.cons (.Da (by k_all) (by k_upd) .nil) .nil))))) T⟩
 ·refine aB (H (some (.int 3)) (some (.tup [.int 27,.int 25,.int 24,.int 26]))) λC4 T=>?_
  exact⟨C4,Lp.next (by rfl) (.cons (.Da (by k_all) (by k_upd) .nil) (.cons (.C9 (by k_all)) (.cons (.Da (by k_all) (by k_upd) .nil) (.cons (.Da (by k_all) (by k_upd) .nil) (.cons (.Da (by k_all) (by k_upd) .nil) .nil))))) T⟩
end
section
variable{h:Hp}{m p g Z b k sd Cs:Nat}{vside vep vhalf vfull vkey vhist:V}{gfs:List (Nat×V)}{bd:List V}{CV CZ:Int}
theorem tQ(hp:h[p]? =some (.inst 6 [(23,.ref g),(22,.ref Z),(24,.ref b),(25,.ref k),(26,.ref sd),(21,.int CZ),(20,.int CV),(19,vep),(27,vhalf),(6,vfull),(28,vkey),(29,vhist)])) (r0:0<=CV) (r1:CV<16) (H:yw h m p 0):Fun (m+1,none) h 39 [.ref p] (.ok .none h):=by
 have d0:decide (0<=CV)=true:=DX r0
 have d1:decide (CV<16)=true:=DX r1
 have d2:(!decide (CV<16))=false:=by(exists d1);rfl
 refine aB (H none none) λC4 T=>?_
 exact Fun.end rfl rfl (.cons (.Da (by k_all) (by k_upd) .nil) (.cons (.for (by k_all) (by rfl) T) .nil))
theorem qV(hp:h[p]? =some (.inst 6 [(23,.ref g),(22,.ref Z),(24,.ref b),(25,.ref k),(26,.ref sd),(21,.int CZ),(20,.int CV),(19,vep),(27,vhalf),(6,vfull),(28,vkey),(29,vhist)])) (r0:0<=CV) (r1:CV<16) (H:iy h m p 0):∃t q,Fun (m+1,none) h 39 [.ref p] (.exc h.length (dz h t q)):=by
 have d0:decide (0<=CV)=true:=DX r0
 have d1:decide (CV<16)=true:=DX r1
 have d2:(!decide (CV<16))=false:=by(exists d1);rfl
 refine bE H λt q T=>?_;clear H
 refine aB (T none none) λC4 T=>?_
 exact⟨t,q,Fun.exc rfl rfl (.cons (.Da (by k_all) (by k_upd) .nil) (.exc (.for (by k_all) (by rfl) T)))⟩
theorem ep_stands{sq c0 c1 c2 ahead:Int}(hp:h[p]? =some (.inst 6 [(23,.ref g),(22,.ref Z),(24,.ref b),(25,.ref k),(26,.ref sd),(21,.int CZ),(20,.int CV),(19,vep),(27,vhalf),(6,vfull),(28,vkey),(29,vhist)])) (hb:h[b]? =some (.list bd)) (lb:ae bd.length=true) (hg:h[g]? =some (.inst 3 gfs)) (f7:aG 7 gfs=some (.bool true)) (f3:aG 3 gfs=some (.int 6)) (f4:aG 4 gfs=some (.int 5)) (f5:aG 5 gfs=some (.int 30))
 (r0:0<=sq) (r1:sq<30) (ha:(CZ=0/\ahead=6)\/(CZ=1/\ahead= -6)) (q0:bd[sq.toNat]? =some (.int c0)) (n1:sq.fdiv 6=2->0<=sq+ahead) (q1:sq.fdiv 6=2->bd[(sq+ahead).toNat]? =some (.int c1)) (n2:sq.fdiv 6=2->0<=sq-ahead) (q2:sq.fdiv 6=2->bd[(sq-ahead).toNat]? =some (.int c2)):
 Fun (m+1,none) h 35 [.ref p,.int sq] (.ok (.bool (!(sq.fdiv 6 !=2)&& !(c0 !=0)&& !(c1 !=0)&&c2==(1-CZ)*8+1)) h):=by
 have P:∀(m:Nat)(a c:Int),Fun (m,none) h 0 [.int a,.int c] (.ok (.int (a*8+c)) h):=λm a c=>make_piece
 have d0:decide (sq<0)=false:=D9 (by exact Ez.mpr r0)
 have d1:decide (30<=sq)=false:=D9 (by exact Em.mpr r1)
 rcases ha with⟨rfl,rfl⟩|⟨rfl,rfl⟩
 ·cases e1:sq.fdiv 6 !=2 with
  |true=>exact Fun.ret rfl rfl (.cons (.C9 (by k_all)) (.cons (.Da (by k_all) (by k_upd) .nil) (.cons (.C9 (by k_all)) (.cons (.C9 (by k_all)) (.cons (.Db (by k_all) (by k_upd) (.cons (.C9 (by k_all)) (.cons (.C9 (by k_all)) .nil))) (.ret (.Db (by k_all) (by k_upd) (.ret (.ret .bool)))))))))
  |false=>
   have e:sq.fdiv 6=2:=by simpa using e1
   replace n1:=n1 e
   replace n2:=n2 e
   replace q1:=q1 e
   replace q2:=q2 e
   cases e2:c0 !=0 with
   |true=>exact Fun.ret rfl rfl (.cons (.C9 (by k_all)) (.cons (.Da (by k_all) (by k_upd) .nil) (.cons (.C9 (by k_all)) (.cons (.C9 (by k_all)) (.cons (.Db (by k_all) (by k_upd) (.cons (.C9 (by k_all)) (.cons (.C9 (by k_all)) .nil))) (.cons (.Da (by k_all) (by k_upd) .nil) (.ret (.Db (by k_all) (by k_upd) (.ret (.ret .bool))))))))))
   |false=>cases e3:c1 !=0 with
    |true=>exact Fun.ret rfl rfl (.cons (.C9 (by k_all)) (.cons (.Da (by k_all) (by k_upd) .nil) (.cons (.C9 (by k_all)) (.cons (.C9 (by k_all)) (.cons (.Db (by k_all) (by k_upd) (.cons (.C9 (by k_all)) (.cons (.C9 (by k_all)) .nil))) (.cons (.Da (by k_all) (by k_upd) .nil) (.ret (.Db (by k_all) (by k_upd) (.ret (.ret .bool))))))))))
    |false=>exact Fun.ret rfl rfl (.cons (.C9 (by k_all)) (.cons (.Da (by k_all) (by k_upd) .nil) (.cons (.C9 (by k_all)) (.cons (.C9 (by k_all)) (.cons (.Db (by k_all) (by k_upd) (.cons (.C9 (by k_all)) (.cons (.C9 (by k_all)) .nil))) (.cons (.Da (by k_all) (by k_upd) .nil) (.cons (.Da (by k_all) (by k_upd) .nil) (.ret (.ret (by k_all))))))))))
 ·cases e1:sq.fdiv 6 !=2 with
  |true=>exact Fun.ret rfl rfl (.cons (.C9 (by k_all)) (.cons (.Da (by k_all) (by k_upd) .nil) (.cons (.C9 (by k_all)) (.cons (.C9 (by k_all)) (.cons (.Da (by k_all) (by k_upd) .nil) (.ret (.Db (by k_all) (by k_upd) (.ret (.ret .bool)))))))))
  |false=>
   have e:sq.fdiv 6=2:=by simpa using e1
   replace n1:=n1 e
   replace n2:=n2 e
   replace q1:=q1 e
   replace q2:=q2 e
   cases e2:c0 !=0 with
   |true=>exact Fun.ret rfl rfl (.cons (.C9 (by k_all)) (.cons (.Da (by k_all) (by k_upd) .nil) (.cons (.C9 (by k_all)) (.cons (.C9 (by k_all)) (.cons (.Da (by k_all) (by k_upd) .nil) (.cons (.Da (by k_all) (by k_upd) .nil) (.ret (.Db (by k_all) (by k_upd) (.ret (.ret .bool))))))))))
   |false=>cases e3:c1 !=0 with
    |true=>exact Fun.ret rfl rfl (.cons (.C9 (by k_all)) (.cons (.Da (by k_all) (by k_upd) .nil) (.cons (.C9 (by k_all)) (.cons (.C9 (by k_all)) (.cons (.Da (by k_all) (by k_upd) .nil) (.cons (.Da (by k_all) (by k_upd) .nil) (.ret (.Db (by k_all) (by k_upd) (.ret (.ret .bool))))))))))
    |false=>exact Fun.ret rfl rfl (.cons (.C9 (by k_all)) (.cons (.Da (by k_all) (by k_upd) .nil) (.cons (.C9 (by k_all)) (.cons (.C9 (by k_all)) (.cons (.Da (by k_all) (by k_upd) .nil) (.cons (.Da (by k_all) (by k_upd) .nil) (.cons (.Da (by k_all) (by k_upd) .nil) (.ret (.ret (by k_all))))))))))
end
section
variable{h:Hp}{m p g Z b k sd P pwr:Nat}{vhalf vfull vkey vhist:V}{gfs zfs:List (Nat×V)}{CV CZ ep sq:Int}{s0 s1 k0 k1 k2 k3 k4 k5 k6 own pwm:Int}{pls pl:List V}
theorem ep_attacked(hp:h[p]? =some (.inst 6 [(23,.ref g),(22,.ref Z),(24,.ref b),(25,.ref k),(26,.ref sd),(21,.int CZ),(20,.int CV),(19,.int ep),(27,vhalf),(6,vfull),(28,vkey),(29,vhist)])) (hg:h[g]? =some (.inst 3 gfs)) (fP:aG 14 gfs=some (.ref P)) (hP:h[P]? =some (.list pls)) (n1:0<=1-CZ) (q1:pls[(1-CZ).toNat]? =some (.ref pwr)) (lP:ae pls.length=true)
 (hw:h[pwr]? =some (.list pl)) (n2:0<=sq) (q2:pl[sq.toNat]? =some (.int pwm)) (lw:ae pl.length=true) (F:∀m,Fun (m,none) h 32 [.ref p,.int CZ,.int 1] (.ok (.int (bitAnd own k1)) h)):
 Fun (m+1,none) h 36 [.ref p,.int sq] (.ok (.bool (bitAnd pwm (bitAnd own k1) !=0)) h):=Fun.ret rfl rfl (.ret (.ret (by k_all)))
theorem king_square(hp:h[p]? =some (.inst 6 [(23,.ref g),(22,.ref Z),(24,.ref b),(25,.ref k),(26,.ref sd),(21,.int CZ),(20,.int CV),(19,.int ep),(27,vhalf),(6,vfull),(28,vkey),(29,vhist)])) (hk:h[k]? =some (.list [.int k0,.int k1,.int k2,.int k3,.int k4,.int k5,.int k6])) (hs:h[sd]? =some (.list [.int s0,.int s1])) {sd' kq:Int} (n1:0<=sd') (q1:[V.int s0,V.int s1][sd'.toNat]? =some (.int own))
 (F:Fun (m,none) h 21 [.int (bitAnd own k6)] (.ok (.int kq) h)):Fun (m+1,none) h 33 [.ref p,.int sd'] (.ok (.int kq) h):=Fun.ret rfl rfl (.ret (.ret (by k_all)))
theorem in_check_of(hp:h[p]? =some (.inst 6 [(23,.ref g),(22,.ref Z),(24,.ref b),(25,.ref k),(26,.ref sd),(21,.int CZ),(20,.int CV),(19,.int ep),(27,vhalf),(6,vfull),(28,vkey),(29,vhist)])) (hs:h[sd]? =some (.list [.int s0,.int s1])) {sd' kq:Int} {a:Bool} (F1:Fun (m,none) h 33 [.ref p,.int sd'] (.ok (.int kq) h)) (F2:Fun (m,none) h 44 [.ref p,.int kq,.int (1-sd'),.int (bitOr s0 s1)] (.ok (.bool a) h)):
 Fun (m+1,none) h 45 [.ref p,.int sd'] (.ok (.bool a) h):=Fun.ret rfl rfl (.cons (.C9 (by k_all)) (.ret (.ret (.call (.cons (by k_all) (.cons (.call (by k_all) F1) (by k_all))) F2))))
variable{zP zE zR zs:Int}{rE rR rP N:Nat}{le lr rows:List V}{zr ze zd:Int}
theorem state_key(hp:h[p]? =some (.inst 6 [(23,.ref g),(22,.ref Z),(24,.ref b),(25,.ref k),(26,.ref sd),(21,.int CZ),(20,.int CV),(19,.int ep),(27,vhalf),(6,vfull),(28,vkey),(29,vhist)])) (hz:h[Z]? =some (.inst 5 [(18,.ref N),(19,.ref rE),(20,.ref rR),(21,.int zs)])) (hR:h[rR]? =some (.list lr)) (lR:ae lr.length=true) (r0:0<=CV) (qR:lr[CV.toNat]? =some (.int zr))
 (hE:h[rE]? =some (.list le)) (lE:ae le.length=true) (hg:h[g]? =some (.inst 3 gfs)) (f3:aG 3 gfs=some (.int 6)) (n6:0<=ep.fmod 6) (qE:le[(ep.fmod 6).toNat]? =some (.int ze)):
 ∃key:Int,∀m,Fun (m,none) h 28 [.ref p] (.ok (.int key) h):=by
 cases e1:decide (0<=ep)with
 |true=>cases e2:CZ==1 with
  |true=>exact⟨_,λm=>Fun.ret rfl rfl (.cons (.C9 (by k_all)) (.cons (.C9 (by k_all)) (.cons (.Db (by k_all) (by k_upd) (by k_all)) (.cons (.Db (by k_all) (by k_upd) (by k_all)) (by k_all)))))⟩
  |false=>exact⟨_,λm=>Fun.ret rfl rfl (.cons (.C9 (by k_all)) (.cons (.C9 (by k_all)) (.cons (.Db (by k_all) (by k_upd) (by k_all)) (.cons (.Da (by k_all) (by k_upd) (by k_all)) (by k_all)))))⟩
 |false=>cases e2:CZ==1 with
  |true=>exact⟨_,λm=>Fun.ret rfl rfl (.cons (.C9 (by k_all)) (.cons (.C9 (by k_all)) (.cons (.Da (by k_all) (by k_upd) (by k_all)) (.cons (.Db (by k_all) (by k_upd) (by k_all)) (by k_all)))))⟩
  |false=>exact⟨_,λm=>Fun.ret rfl rfl (.cons (.C9 (by k_all)) (.cons (.C9 (by k_all)) (.cons (.Da (by k_all) (by k_upd) (by k_all)) (.cons (.Da (by k_all) (by k_upd) (by k_all)) (by k_all)))))⟩
noncomputable abbrev AL:List S:=[.iff (.cmp (.C8 4) [.ne] [.gv 8]) [.aug 2 .bxor (.sub (.sub (.C8 1) (.C8 4)) (.C8 3))] [],.aug 3 .add (.int 1)]
theorem vR{bd:List Int}(hb:h[b]? =some (.list (bd.map .int))) (hN:h[N]? =some (.list rows)) (lN:ae rows.length=true)
 (ok:∀(i:Nat)(c:Int),bd[i]? =some c->c≠0->0<=c/\∃(r:Nat)(rw:List V)(z:Int),rows[c.toNat]? =some (.ref r)/\h[r]? =some (.list rw)/\rw[i]? =some (.int z)/\ae rw.length=true) {x0:Option V}:
 ∀(n i:Nat),i+n=bd.length->∀(key:Int)(x4:Option V),∃(key':Int)(y3 y4:Option V),Lp (m,none) [x0,some (.ref N),some (.int key),some (.int i),x4] h 4 (.lst b i) AL (.ok .next [x0,some (.ref N),some (.int key'),y3,y4] h):=by
 intro n
 induction n with
 |zero=>exact λi hl key x4=>⟨key,_,_,Lp.fin (nw hb (EH (by rw[DD];exact Dm.mp (ao [bd.length,i] [(.eq (.a (.v 1) (.n 0)) (.v 0),-1)] (.le (.v 0) (.v 1)) 1 rfl (Ds Int.ofNat hl)))))⟩
 |succ n ih=>
  intro i hl key x4
  obtain⟨c,hc⟩:∃c,bd[i]? =some c:=⟨_,DI (by exact Dt.mp (ao [i,bd.length,n] [(.eq (.a (.v 0) (.a (.v 2) (.n 1))) (.v 1),1),(.le (.n 0) (.v 2),1)] (.lt (.v 0) (.v 1)) 1 rfl (Ds Int.ofNat hl) (Dq _)))⟩
  have nx:aP h (.lst b i)=.one (.int c) (.lst b (i+1)):=kx hb (by(exists DZ,hc);rfl)
  have e1:((i:Int)+1)=((i+1:Nat):Int):=rfl
  have i0:0<=(i:Int):=by exact Dq _
  cases e:c !=0 with
  |true=>
   refine jQ (ok i c hc (by simpa using e)) λc0 r rw' z q1 q2 q3 q4=>?_
   obtain⟨key',y3,y4,T⟩:=ih (i+1) (by exact DJ (Dm.mp (ao [i,n,bd.length] [(.eq (.a (.v 0) (.a (.v 1) (.n 1))) (.v 2),1)] (.le (.a (.a (.v 0) (.n 1)) (.v 1)) (.v 2)) 1 rfl (Ds Int.ofNat hl))) (Dm.mp (ao [bd.length,i,n] [(.eq (.a (.v 1) (.a (.v 2) (.n 1))) (.v 0),-1)] (.le (.v 0) (.a (.a (.v 1) (.n 1)) (.v 2))) 1 rfl (Ds Int.ofNat hl)))) (bitXor key z) (some (.int c))
   rw[<-e1]at T
   exact⟨key',y3,y4,Lp.next nx (.cons (.Db (by k_all) (by k_upd) (by k_all)) (by k_all)) T⟩
  |false=>
   obtain⟨key',y3,y4,T⟩:=ih (i+1) (by exact DJ (Dm.mp (ao [i,n,bd.length] [(.eq (.a (.v 0) (.a (.v 1) (.n 1))) (.v 2),1)] (.le (.a (.a (.v 0) (.n 1)) (.v 1)) (.v 2)) 1 rfl (Ds Int.ofNat hl))) (Dm.mp (ao [bd.length,i,n] [(.eq (.a (.v 1) (.a (.v 2) (.n 1))) (.v 0),-1)] (.le (.v 0) (.a (.a (.v 1) (.n 1)) (.v 2))) 1 rfl (Ds Int.ofNat hl)))) key (some (.int c))
   rw[<-e1]at T
   exact⟨key',y3,y4,Lp.next nx (.cons (.Da (by k_all) (by k_upd) (by k_all)) (by k_all)) T⟩
end
theorem nA{h:Hp}{n c k:Nat}{fs:List (Nat×V)}{v:V}(q:h[n]? =some (.inst c fs)) (l:Nat.ble fs.length 100=true):setattr (.ref n) k v h=.ok .none (h.set n (.inst c (dI k v fs))):=by
 unfold setattr
 dsimp only
 exists q
 dsimp only
 exists(if_pos l);rfl
theorem nB{h:Hp}{n:Nat}{i:Int}{xs:List V}{v:V}(q:h[n]? =some (.list xs)) (n0:0<=i) (n1:i<xs.length) (l:ae xs.length=true):setitem (.ref n) (.int i) v h=.ok .none (h.set n (.list (xs.set i.toNat v))):=by
 unfold setitem
 dsimp only
 exists q
 dsimp only
 exists(if_pos (by simp[n0,n1,l]));rfl
structure PosAt (h:Hp) (p g Z b k sd hist:Nat) (bd kd sds:List Int) (CZ CV ep half full key:Int):Prop where
 hp:h[p]? =some (.inst 6 [(23,.ref g),(22,.ref Z),(24,.ref b),(25,.ref k),(26,.ref sd),(21,.int CZ),(20,.int CV),(19,.int ep),(27,.int half),(6,.int full),(28,.int key),(29,.ref hist)])
 hb:h[b]? =some (.list (bd.map .int))
 hk:h[k]? =some (.list (kd.map .int))
 hs:h[sd]? =some (.list (sds.map .int))
section
variable{h:Hp}{m p g Z b k sd hist N:Nat}{bd kd sds:List Int}{CZ CV ep half full key:Int}{rE rR:Nat}{zs:Int}{rows:List V}
theorem kind_of{c:Int}:Fun (m,none) h 2 [.int c] (.ok (.int (bitAnd c 7)) h):=Fun.ret rfl rfl (by k_all)
theorem side_of{c:Int}:Fun (m,none) h 1 [.int c] (.ok (.int (c.fdiv (2^3))) h):=Fun.ret rfl rfl (by k_all)
theorem put_piece{c:Int}{s:Nat}{kv sv z:Int}{r:Nat}{rw':List V}(P:PosAt h p g Z b k sd hist bd kd sds CZ CV ep half full key)(nd:[p,b,k,sd].Nodup)(hZ:h[Z]? =some (.inst 5 [(18,.ref N),(19,.ref rE),(20,.ref rR),(21,.int zs)])) (nZ:Z∉[p,b,k,sd])
 (hN:h[N]? =some (.list rows)) (nN:N∉[p,b,k,sd]) (lN:ae rows.length=true) (c0:0<=c) (q1:rows[c.toNat]? =some (.ref r)) (hr:h[r]? =some (.list rw')) (nr:r∉[p,b,k,sd]) (q2:rw'[s]? =some (.int z)) (lr:ae rw'.length=true)
 (s30:s<30) (lb:bd.length=30) (lk:kd.length=7) (ls:sds.length=2) (k0:0<=bitAnd c 7) (qk:kd[(bitAnd c 7).toNat]? =some kv) (sd0:0<=c.fdiv (2^3)) (qs:sds[(c.fdiv (2^3)).toNat]? =some sv):
 ∃h' key',Fun (m+1,none) h 31 [.ref p,.int c,.int s] (.ok .none h')/\
  PosAt h' p g Z b k sd hist (bd.set s c) (kd.set (bitAnd c 7).toNat (bitOr kv (1*2^s))) (sds.set (c.fdiv (2^3)).toNat (bitOr sv (1*2^s))) CZ CV ep half full key'/\(∀n,n∉[p,b,k,sd]->h'[n]? =h[n]?)/\h'.length=h.length:=by
 obtain⟨hp,hb,hk,hs⟩:=P
 simp only[List.nodup_cons,List.mem_cons,List.not_mem_nil,or_false,not_or,List.nodup_nil,and_true,not_false_eq_true]at nd nZ nN nr
 refine cJ nd λh'1 h'2 n6=>?_;refine cJ h'1 λn1 n2 n3=>?_;clear h'1;refine aA h'2 λn4 n5=>?_;clear h'2;clear nd
 refine dS nZ λz1 z2 z3 z4=>?_;clear nZ
 refine dS nN λw1 w2 w3 w4=>?_;clear nN
 refine dS nr λr1 r2 r3 r4=>?_;clear nr
 have i0:0<=(s:Int):=by exact Dq _
 have i1:(s:Int)<=1000:=by exact ao [s] [(.lt (.v 0) (.n 30),1)] (.le (.v 0) (.n 1000)) 1 rfl (Dt.mpr s30)
 have S1:=nB (v:=.int c) hb i0 (by rw[DD,lb];exact Dt.mpr s30) (by rw[DD,lb];rfl)
 generalize e1:h.set b (.list ((bd.map V.int).set (s:Int).toNat (.int c)))=h1 at S1
 have at1:∀n,n≠b->h1[n]? =h[n]? :=λn ne=>by(refine bt e1 ?_;exists(DB (Eb ne));rfl)
 have p1:=(at1 p n1).trans hp
 have k1:=(at1 k (Eb n4)).trans hk
 have K:∀m,Fun (m,none) h1 2 [.int c] (.ok (.int (bitAnd c 7)) h1):=λm=>kind_of
 have kvm:(kd.map V.int)[(bitAnd c 7).toNat]? =some (.int kv):=by(exists DZ,qk);rfl
 have kl:ae (kd.map V.int).length=true:=by rw[DD,lk];rfl
 have S2:=nB (v:=.int (bitOr kv (1*2^(s:Int).toNat))) k1 k0 ((Go k0).mp (by rw[DD];exact(Dr.mp qk).1)) kl
 generalize e2:h1.set k (.list ((kd.map V.int).set (bitAnd c 7).toNat (.int (bitOr kv (1*2^(s:Int).toNat)))))=h2 at S2
 have at2:∀n,n≠k->h2[n]? =h1[n]? :=λn ne=>by(refine bt e2 ?_;exists(DB (Eb ne));rfl)
 have p2:=(at2 p n2).trans p1
 have s2:=(at2 sd (Eb n6)).trans ((at1 sd (Eb n5)).trans hs)
 have Sd:∀m,Fun (m,none) h2 1 [.int c] (.ok (.int (c.fdiv (2^3))) h2):=λm=>side_of
 have svm:(sds.map V.int)[(c.fdiv (2^3)).toNat]? =some (.int sv):=by(exists DZ,qs);rfl
 have sl:ae (sds.map V.int).length=true:=by rw[DD,ls];rfl
 have S3:=nB (v:=.int (bitOr sv (1*2^(s:Int).toNat))) s2 sd0 ((Go sd0).mp (by rw[DD];exact(Dr.mp qs).1)) sl
 generalize e3:h2.set sd (.list ((sds.map V.int).set (c.fdiv (2^3)).toNat (.int (bitOr sv (1*2^(s:Int).toNat)))))=h3 at S3
 have at3:∀n,n≠sd->h3[n]? =h2[n]? :=λn ne=>by(refine bt e3 ?_;exists(DB (Eb ne));rfl)
 have all3:∀n,n≠b->n≠k->n≠sd->h3[n]? =h[n]? :=λn a1 a2 a3=>(at3 n a3).trans ((at2 n a2).trans (at1 n a1))
 have p3:=(all3 p n1 n2 n3).trans hp
 have Z3:=(all3 Z z2 z3 z4).trans hZ
 have N3:=(all3 N w2 w3 w4).trans hN
 have R3:=(all3 r r2 r3 r4).trans hr
 have S4:=nA (k:=28) (v:=.int (bitXor key z)) p3 rfl
 generalize e4:h3.set p (.inst 6 (dI 28 (.int (bitXor key z)) _))=h4 at S4
 have at4:∀n,n≠p->h4[n]? =h3[n]? :=λn ne=>by(refine bt e4 ?_;exists(DB (Eb ne));rfl)
 have G1:getitem (.ref k) (.int (bitAnd c 7)) h1=.ok (.int kv) h1:=gi k1 k0 kvm kl
 have G2:getitem (.ref sd) (.int (c.fdiv (2^3))) h2=.ok (.int sv) h2:=gi s2 sd0 svm sl
 have len:∀{x:Hp}{n:Nat}{o o':O},x[n]? =some o'->(x.set n o)[n]? =some o:=λe=>DG (Dr.mp e).1
 refine⟨h4,bitXor key z,Fun.end rfl rfl (.cons (.C9 (by k_all)) (.cons (.Dg (by k_all) (by k_all) (by k_all) S1)
  (.cons (.Dh (by k_all) (.call (by k_all) (K _)) G1 rfl (by k_all) rfl S2) (.cons (.Dh (by k_all) (.call (by k_all) (Sd _)) G2 rfl (by k_all) rfl S3) (.cons (.Di (by k_all) (ga p3 rfl) rfl (by k_all) rfl S4) .nil))))),⟨?_,?_,?_,?_⟩,λn hn=>?_,?_⟩
 ·refine bt e4 ?_;exact len p3
 ·exists(at4 b (Eb n1)),(at3 b n5),(at2 b n4);refine bt e1 ?_;exists(len hb)
  congr 2
  exact(G4 ..).symm
 ·exists(at4 k (Eb n2)),(at3 k n6);refine bt e2 ?_;exists(len k1)
  congr 2
  exact(G4 ..).symm
 ·exists(at4 sd (Eb n3));refine bt e3 ?_;exists(len s2)
  congr 2
  exact(G4 ..).symm
 ·simp only[List.mem_cons,List.not_mem_nil,or_false,not_or]at hn
  refine dS hn λa1 a2 a3 a4=>?_;clear hn
  exact(at4 n a1).trans (all3 n a2 a3 a4)
 ·refine bt e4 ?_;refine bt e3 ?_;refine bt e2 ?_;refine bt e1 ?_;simp
end
theorem au{x:Hp}{n:Nat}{o o':O}(e:x[n]? =some o):(x++[o'])[n]? =some o:=by
 exists(EV (Dr.mp e).1);exact e
theorem vS{h:Hp}{n:Nat}{k:Int}{x:V}(q:h[n]? =some (.list [x])) (n0:0<=k) (n1:k<=1000):ba .mul (.ref n) (.int k) h=.ok (.ref h.length) (h++[.list (List.replicate k.toNat x)]):=by
 unfold ba
 dsimp only
 exists q
 dsimp only
 exists(if_pos (by simp[n0,n1]));rfl
theorem bM{x:Hp}{p c:Nat}{fs:List (Nat×V)}(a:Nat)(v:V)(pf:x[p]? =some (.inst c fs)) (l:Nat.ble fs.length 100=true):
 ∃y:Hp,setattr (.ref p) a v x=.ok .none y/\y[p]? =some (.inst c (dI a v fs))/\(∀(n:Nat)(o:O),n≠p->x[n]? =some o->y[n]? =some o)/\y.length=x.length:=
 ⟨_,nA pf l,DG (Dr.mp pf).1,λn o ne e=>by(exists(DB (Eb ne)));exact e,FN ..⟩
theorem lI{h:Hp}{m g Z:Nat}{gfs:List (Nat×V)}(hg:h[g]? =some (.inst 3 gfs)) (f5:aG 5 gfs=some (.int 30)):
 ∃h':Hp,Fun (m,none) (h++[.inst 6 []]) 30 [.ref h.length,.ref g,.ref Z] (.ok .none h')/\
  PosAt h' h.length g Z (h.length+2) (h.length+4) (h.length+5) (h.length+6) (List.replicate 30 0) (List.replicate 7 0) [0,0] 0 0 (-1) 0 1 0/\(Mono h h')/\h'.length=h.length+7:=by
 have lt:∀(n:Nat)(o:O),h[n]? =some o->n≠h.length:=λn o e q=>by have:=(Dr.mp e).1;lia
 have gp:=lt g _ hg
 have x0:(h++[O.inst 6 []])[h.length]? =some (.inst 6 []):=last_get
 have o0:Mono h (h++[O.inst 6 []]):=Mono.app1
 refine bi (bM 23 (.ref g) x0 rfl) λy1 S1 p1 k1 l1=>?_
 refine bi (bM 22 (.ref Z) p1 rfl) λy2 S2 p2 k2 l2=>?_
 have l2:y2.length=h.length+1:=by(exists l2,l1);simp
 have o2:Mono h y2:=λn o e=>k2 n o (lt n o e) (k1 n o (lt n o e) (o0 n o e))
 have a3:(y2++[O.list [.int 0]])[y2.length]? =some (.list [.int 0]):=last_get
 have M3:=vS (k:=30) a3 (by decide) (by decide)
 have g3:=au (o':=O.list [.int 0]) (o2 g _ hg)
 refine bi (bM 24 (.ref (y2++[O.list [.int 0]]).length) (au (o':=O.list (List.replicate (30:Int).toNat (.int 0))) (au (o':=O.list [.int 0]) p2)) rfl) λy3 S3 p3 k3 l3=>?_
 have b3:=k3 (y2++[O.list [.int 0]]).length _ (by simp;exact Eg (Dt.mp (ao [Nat.cast (List.length h),Nat.cast (List.length y2)] [(.eq (.v 1) (.a (.v 0) (.n 1)),-1)] (.lt (.v 0) (.a (.v 1) (.n 1))) 1 rfl (Ds Int.ofNat l2)))) last_get
 have l3:y3.length=h.length+3:=by(exists l3);simp;exact l2
 have o3:Mono h y3:=λn o e=>k3 n o (lt n o e) (au (au (o2 n o e)))
 have a4:(y3++[O.list [.int 0]])[y3.length]? =some (.list [.int 0]):=last_get
 have M4:=vS (k:=7) a4 (by decide) (by decide)
 refine bi (bM 25 (.ref (y3++[O.list [.int 0]]).length) (au (o':=O.list (List.replicate (7:Int).toNat (.int 0))) (au (o':=O.list [.int 0]) p3)) rfl) λy4 S4 p4 k4 l4=>?_
 have b4:=k4 (y2++[O.list [.int 0]]).length _ (by simp;exact Eg (Dt.mp (ao [↑(List.length h),↑(List.length y2)] [(.eq (.v 1) (.a (.v 0) (.n 1)),-1)] (.lt (.v 0) (.a (.v 1) (.n 1))) 1 rfl (Ds Int.ofNat l2)))) (au (au b3))
 have c4:=k4 (y3++[O.list [.int 0]]).length _ (by simp;exact Eg (Dt.mp (ao [Nat.cast (List.length h),Nat.cast (List.length y3)] [(.eq (.v 1) (.a (.v 0) (.n 3)),-1)] (.lt (.v 0) (.a (.v 1) (.n 1))) 1 rfl (Ds Int.ofNat l3)))) last_get
 have l4:y4.length=h.length+5:=by(exists l4);simp;exact l3
 have o4:Mono h y4:=λn o e=>k4 n o (lt n o e) (au (au (o3 n o e)))
 refine bi (bM 26 (.ref y4.length) (au (o':=O.list [.int 0,.int 0]) p4) rfl) λy5 S5 p5 k5 l5=>?_
 have b5:=k5 (y2++[O.list [.int 0]]).length _ (by simp;lia) (au b4)
 have c5:=k5 (y3++[O.list [.int 0]]).length _ (by simp;exact Eg (Dt.mp (ao [↑(List.length h),↑(List.length y3)] [(.eq (.v 1) (.a (.v 0) (.n 3)),-1)] (.lt (.v 0) (.a (.v 1) (.n 1))) 1 rfl (Ds Int.ofNat l3)))) (au c4)
 have d5:=k5 y4.length _ (by exact Eg (Dt.mp (ao [Nat.cast (List.length h),Nat.cast (List.length y4)] [(.eq (.v 1) (.a (.v 0) (.n 5)),-1)] (.lt (.v 0) (.v 1)) 1 rfl (Ds Int.ofNat l4)))) last_get
 have l5:y5.length=h.length+6:=by(exists l5);simp;exact l4
 have o5:Mono h y5:=λn o e=>k5 n o (lt n o e) (au (o4 n o e))
 refine bi (bM 21 (.int 0) p5 rfl) λy6 S6 p6 k6 l6=>?_
 refine bi (bM 20 (.int 0) p6 rfl) λy7 S7 p7 k7 l7=>?_
 refine bi (bM 19 (.int (-1)) p7 rfl) λy8 S8 p8 k8 l8=>?_
 refine bi (bM 27 (.int 0) p8 rfl) λy9 S9 p9 k9 l9=>?_
 refine bi (bM 6 (.int 1) p9 rfl) λy10 S10 p10 k10 l10=>?_
 refine bi (bM 28 (.int 0) p10 rfl) λy11 S11 p11 k11 l11=>?_
 have kk:∀(n:Nat)(o:O),n≠h.length->y5[n]? =some o->y11[n]? =some o:=λn o ne e=>k11 n o ne (k10 n o ne (k9 n o ne (k8 n o ne (k7 n o ne (k6 n o ne e)))))
 have ll:y11.length=h.length+6:=by(exists l11,l10,l9,l8,l7,l6,l5;rfl)
 refine bi (bM 29 (.ref y11.length) (au (o':=O.list []) p11) rfl) λy12 S12 p12 k12 l12=>?_
 have fin:∀(n:Nat)(o:O),n≠h.length->y5[n]? =some o->y12[n]? =some o:=λn o ne e=>k12 n o ne (au (kk n o ne e))
 have e3:(y2++[O.list [.int 0]]).length=h.length+2:=by simp;exact l2
 have e4:(y3++[O.list [.int 0]]).length=h.length+4:=by simp;exact l3
 have e5:y4.length=h.length+5:=l4
 have e6:y11.length=h.length+6:=ll
 refine⟨y12,Fun.end rfl rfl (.cons (.Dd (by k_all) (by k_all) S1) (.cons (.Dd (by k_all) (by k_all) S2)
  (.cons (.Dd (.bin (.list (.cons (by k_all) .nil) rfl) (.attr (by k_all) (ga g3 f5)) M3) (by k_all) S3)
  (.cons (.Dd (.bin (.list (.cons (by k_all) .nil) rfl) (by k_all) M4) (by k_all) S4)
  (.cons (.Dd (.list (.cons (by k_all) (.cons (by k_all) .nil)) rfl) (by k_all) S5)
  (.cons (.Dd (by k_all) (by k_all) S6) (.cons (.Dd (by k_all) (by k_all) S7) (.cons (.Dd (by k_all) (by k_all) S8) (.cons (.Dd (by k_all) (by k_all) S9)
  (.cons (.Dd (by k_all) (by k_all) S10) (.cons (.Dd (by k_all) (by k_all) S11) (.cons (.Dd (.list .nil rfl) (by k_all) S12) .nil)))))))))))),⟨?_,?_,?_,?_⟩,λn o e=>fin n o (lt n o e) (o5 n o e),?_⟩
 ·exists p12,e3,e4,e5,e6;rfl
 ·refine bt e3 ?_;exact fin _ _ (by exact Eg (Dt.mp (ao [Nat.cast (List.length h),Nat.cast (List.length (y2++[O.list [V.int 0]]))] [(.eq (.v 1) (.a (.v 0) (.n 2)),-1)] (.lt (.v 0) (.v 1)) 1 rfl (Ds Int.ofNat e3)))) b5
 ·refine bt e4 ?_;exact fin _ _ (by exact Eg (Dt.mp (ao [Nat.cast (List.length h),Nat.cast (List.length (y3++[O.list [V.int 0]]))] [(.eq (.v 1) (.a (.v 0) (.n 4)),-1)] (.lt (.v 0) (.v 1)) 1 rfl (Ds Int.ofNat e4)))) c5
 ·refine bt e5 ?_;exact fin _ _ (by exact Eg (Dt.mp (ao [↑(List.length h),↑(List.length y4)] [(.eq (.v 1) (.a (.v 0) (.n 5)),-1)] (.lt (.v 0) (.v 1)) 1 rfl (Ds Int.ofNat e5)))) d5
 ·exists l12;simp;exact e6
theorem fW{h:Hp}{i hi:Int}(l:i<hi):aP h (.rng i hi 1)=.one (.int i) (.rng (i+1) hi 1):=by
 unfold aP
 dsimp only
 exists(if_pos (by decide)),(if_pos l);rfl
theorem jL{h:Hp}{i hi:Int}(l:¬i<hi):aP h (.rng i hi 1)=.fin:=by
 unfold aP
 dsimp only
 exists(if_pos (by decide)),(if_neg l);rfl
noncomputable def qW(kd:List Int)(c:Int)(s:Nat):List Int:=if c=0 then kd else kd.set (bitAnd c 7).toNat (bitOr (kd[(bitAnd c 7).toNat]?.getD 0) (1*2^s))
noncomputable def qX(sds:List Int)(c:Int)(s:Nat):List Int:=if c=0 then sds else sds.set (c.fdiv (2^3)).toNat (bitOr (sds[(c.fdiv (2^3)).toNat]?.getD 0) (1*2^s))
noncomputable def nW(bd:List Int):Nat->List Int
 |0=>List.replicate 7 0
 |n+1=>qW (nW bd n) (bd[n]?.getD 0) n
noncomputable def pe(bd:List Int):Nat->List Int
 |0=>[0,0]
 |n+1=>qX (pe bd n) (bd[n]?.getD 0) n
noncomputable def kQ(bd:List Int):Nat->List Int
 |0=>List.replicate 30 0
 |n+1=>if bd[n]?.getD 0=0 then kQ bd n else(kQ bd n).set n (bd[n]?.getD 0)
def ey(c:Int):Prop:=c=0\/(0<c/\c<15/\0<bitAnd c 7/\bitAnd c 7<7/\0<=c.fdiv (2^3)/\c.fdiv (2^3)<2)
theorem jM{bd:List Int}:∀n,(nW bd n).length=7:=by
 intro n
 induction n with
 |zero=>simp[nW]
 |succ n ih=>unfold nW qW;split<;>simp[ih]
theorem jN{bd:List Int}:∀n,(pe bd n).length=2:=by
 intro n
 induction n with
 |zero=>exact rfl
 |succ n ih=>unfold pe qX;split<;>simp[ih]
theorem sx{bd:List Int}:∀n,(kQ bd n).length=30:=by
 intro n
 induction n with
 |zero=>simp[kQ]
 |succ n ih=>unfold kQ;split<;>simp[ih]
noncomputable abbrev AM:List S:=[.iff (.cmp (.sub (.C8 5) (.C8 10)) [.ne] [.gv 8]) [.expr (.call 31 [.C8 9,.sub (.C8 5) (.C8 10),.C8 10])] []]
noncomputable abbrev sy(x0 x1 x2 x3 x4:Option V)(fb:Nat)(x6 x7 x8:Option V)(p:Nat)(x10:Option V):Env:=[x0,x1,x2,x3,x4,some (.ref fb),x6,x7,x8,some (.ref p),x10]
structure Zob (h:Hp) (Z N:Nat) (rE rR:Nat) (zs:Int) (rows:List V):Prop where
 hZ:h[Z]? =some (.inst 5 [(18,.ref N),(19,.ref rE),(20,.ref rR),(21,.int zs)])
 hN:h[N]? =some (.list rows)
 lN:ae rows.length=true
 row:∀c:Int,ey c->c≠0->∃(r:Nat)(rw:List V),rows[c.toNat]? =some (.ref r)/\h[r]? =some (.list rw)/\ae rw.length=true/\∀i,i<30->∃z:Int,rw[i]? =some (.int z)
theorem qY{h0:Hp}{m p g Z b k sd hist N rE rR fb:Nat}{zs:Int}{rows:List V}{bd:List Int}{CZ CV ep half full:Int}{x0 x1 x2 x3 x4 x6 x7 x8:Option V}(zb:Zob h0 Z N rE rR zs rows)(old:∀(n:Nat)(o:O),h0[n]? =some o->n∉[p,b,k,sd])
 (nd:[p,b,k,sd].Nodup) (hf:h0[fb]? =some (.list (bd.map .int))) (lb:bd.length=30) (eP:∀c∈bd,ey c):
 ∀(n i:Nat),i+n=30->∀(h:Hp)(key:Int)(x10:Option V),PosAt h p g Z b k sd hist (kQ bd i) (nW bd i) (pe bd i) CZ CV ep half full key->(Mono h0 h)->
  ∃(h':Hp)(key':Int)(y10:Option V),Lp (m+2,none) (sy x0 x1 x2 x3 x4 fb x6 x7 x8 p x10) h 10 (.rng i 30 1) AM (.ok .next (sy x0 x1 x2 x3 x4 fb x6 x7 x8 p y10) h')/\
   PosAt h' p g Z b k sd hist (kQ bd 30) (nW bd 30) (pe bd 30) CZ CV ep half full key'/\(∀n:Nat,n∉[p,b,k,sd]->h'[n]? =h[n]?)/\h'.length=h.length:=by
 intro n
 induction n with
 |zero=>
  intro i hl h key x10 P fx
  obtain rfl:i=30:=by exact DJ (Dm.mp (ao [i] [(.eq (.a (.v 0) (.n 0)) (.n 30),1)] (.le (.v 0) (.n 30)) 1 rfl (Ds Int.ofNat hl))) (Dm.mp (ao [i] [(.eq (.a (.v 0) (.n 0)) (.n 30),-1)] (.le (.n 30) (.v 0)) 1 rfl (Ds Int.ofNat hl)))
  exact⟨h,key,x10,Lp.fin (jL (by decide)),P,λ_ _=>rfl,rfl⟩
 |succ n ih=>
  intro i hl h key x10 P fx
  obtain⟨c,hc⟩:∃c,bd[i]? =some c:=⟨_,DI (by exact Dt.mp (ao [i,bd.length,n] [(.eq (.a (.v 0) (.a (.v 2) (.n 1))) (.n 30),1),(.eq (.v 1) (.n 30),-1),(.le (.n 0) (.v 2),1)] (.lt (.v 0) (.v 1)) 1 rfl (Ds Int.ofNat hl) (Ds Int.ofNat lb) (Dq _)))⟩
  have nx:aP h (.rng (i:Int) 30 1)=.one (.int i) (.rng ((i+1:Nat):Int) 30 1):=fW (by exact ao [i,n] [(.eq (.a (.v 0) (.a (.v 1) (.n 1))) (.n 30),1),(.le (.n 0) (.v 1),1)] (.lt (.v 0) (.n 30)) 1 rfl (Ds Int.ofNat hl) (Dq _))
  have hf':=fx _ _ hf
  have i0:0<=(i:Int):=by exact Dq _
  have q:(bd.map V.int)[(i:Int).toNat]? =some (.int c):=by(exists(show(i:Int).toNat=i from rfl),DZ,hc);rfl
  have lf:ae (bd.map V.int).length=true:=by rw[DD,lb];rfl
  have gc:=eP c (DR hc)
  have cd:bd[i]?.getD 0=c:=by(exists hc);rfl
  cases e:c !=0 with
  |false=>
   have e':c=0:=by simpa using e
   have P':PosAt h p g Z b k sd hist (kQ bd (i+1)) (nW bd (i+1)) (pe bd (i+1)) CZ CV ep half full key:=by
    have a1:kQ bd (i+1)=kQ bd i:=by show(if bd[i]?.getD 0=0 then _ else _)=_;(exists cd,(if_pos e');rfl)
    have a2:nW bd (i+1)=nW bd i:=by show qW _ (bd[i]?.getD 0) i=_;(exists cd);exact if_pos e'
    have a3:pe bd (i+1)=pe bd i:=by show qX _ (bd[i]?.getD 0) i=_;(exists cd);exact if_pos e'
    exists a1,a2,a3;exact P
   obtain⟨h',key',y10,T,P2,f2,l2⟩:=ih (i+1) (by exact DJ (Dm.mp (ao [i,n] [(.eq (.a (.v 0) (.a (.v 1) (.n 1))) (.n 30),1)] (.le (.a (.a (.v 0) (.n 1)) (.v 1)) (.n 30)) 1 rfl (Ds Int.ofNat hl))) (Dm.mp (ao [i,n] [(.eq (.a (.v 0) (.a (.v 1) (.n 1))) (.n 30),-1)] (.le (.n 30) (.a (.a (.v 0) (.n 1)) (.v 1))) 1 rfl (Ds Int.ofNat hl)))) h key (some (.int i)) P' fx
   exact⟨h',key',y10,Lp.next nx (.cons (.Da (by k_all) (by k_upd) .nil) .nil) T,P2,f2,l2⟩
  |true=>
   have e':c≠0:=by simpa using e
   refine bL (zb.row c gc e') λr rw' q1 q2 q3 q4=>?_
   refine aB (q4 i (by exact Dt.mp (ao [i,n] [(.eq (.a (.v 0) (.a (.v 1) (.n 1))) (.n 30),1),(.le (.n 0) (.v 1),1)] (.lt (.v 0) (.n 30)) 1 rfl (Ds Int.ofNat hl) (Dq _)))) λz q4=>?_
   rcases gc with g0|⟨g1,g2,g3,g4,g5,g6⟩
   ·exact absurd g0 e'
   obtain⟨kv,hkv⟩:∃kv,(nW bd i)[(bitAnd c 7).toNat]? =some kv:=⟨_,DI (by rw[jM];exact toNat_lt (ao [PySem.Builtin.bitAnd c 7] [(.lt (.v 0) (.n 7),1)] (.lt (.v 0) (.n 7)) 1 rfl g4) (Dt.mp (ao [] [] (.lt (.n 0) (.n 7)) 1 rfl)))⟩
   obtain⟨sv,hsv⟩:∃sv,(pe bd i)[(c.fdiv (2^3)).toNat]? =some sv:=⟨_,DI (by rw[jN];exact Dt.mp (ao [Nat.cast ((c.fdiv (2^3)).toNat),c.fdiv (2^3)] [(.lt (.v 1) (.n 2),1),(.eq (.v 0) (.v 1),1)] (.lt (.v 0) (.n 2)) 1 rfl g6 (DH g5)))⟩
   refine bL (put_piece (m:=m) (s:=i) P nd (fx _ _ zb.hZ) (old _ _ zb.hZ) (fx _ _ zb.hN) (old _ _ zb.hN) zb.lN (Eh g1) q1 (fx _ _ q2) (old _ _ q2) q4 q3 (by exact Dt.mp (ao [i,n] [(.eq (.a (.v 0) (.a (.v 1) (.n 1))) (.n 30),1),(.le (.n 0) (.v 1),1)] (.lt (.v 0) (.n 30)) 1 rfl (Ds Int.ofNat hl) (Dq _))) (sx i) (jM i) (jN i) (Eh g3) hkv g5 hsv) λh1 key1 F P1 f1 l1=>?_
   have P':PosAt h1 p g Z b k sd hist (kQ bd (i+1)) (nW bd (i+1)) (pe bd (i+1)) CZ CV ep half full key1:=by
    have a1:kQ bd (i+1)=(kQ bd i).set i c:=by show(if bd[i]?.getD 0=0 then _ else _)=_;(exists cd,(if_neg e');rfl)
    have a2:nW bd (i+1)=(nW bd i).set (bitAnd c 7).toNat (bitOr kv (1*2^i)):=by
     show qW _ (bd[i]?.getD 0) i=_
     exists cd;unfold qW;(exists(if_neg e'),hkv);rfl
    have a3:pe bd (i+1)=(pe bd i).set (c.fdiv (2^3)).toNat (bitOr sv (1*2^i)):=by
     show qX _ (bd[i]?.getD 0) i=_
     exists cd;unfold qX;(exists(if_neg e'),hsv);rfl
    exists a1,a2,a3;exact P1
   obtain⟨h',key',y10,T,P2,f2,l2⟩:=ih (i+1) (by exact DJ (Dm.mp (ao [i,n] [(.eq (.a (.v 0) (.a (.v 1) (.n 1))) (.n 30),1)] (.le (.a (.a (.v 0) (.n 1)) (.v 1)) (.n 30)) 1 rfl (Ds Int.ofNat hl))) (Dm.mp (ao [i,n] [(.eq (.a (.v 0) (.a (.v 1) (.n 1))) (.n 30),-1)] (.le (.n 30) (.a (.a (.v 0) (.n 1)) (.v 1))) 1 rfl (Ds Int.ofNat hl)))) h1 key1 (some (.int i)) P' λn o ho=>by(exists(f1 n (old n o ho)));exact fx n o ho
   exact⟨h',key',y10,Lp.next nx (.cons (.Db (by k_all) (by k_upd) (.cons (.expr (.call (.cons (by k_all) (.cons (by k_all) (.cons (by k_all) .nil))) F)) .nil)) .nil) T,P2,λn hn=>(f2 n hn).trans (f1 n hn),l2.trans l1⟩
section
variable{h:Hp}{m p g Z b k sd hist N rE rR:Nat}{bd kd sds:List Int}{CZ CV ep half full key zs:Int}{rows:List V}
theorem gy(P:PosAt h p g Z b k sd hist bd kd sds CZ CV ep half full key)(nd:[p,b,k,sd].Nodup)(a:Nat)(v:V){fs:List (Nat×V)}{s' r' e' a' f' k':Int}
 (e:dI a v [(23,.ref g),(22,.ref Z),(24,.ref b),(25,.ref k),(26,.ref sd),(21,.int CZ),(20,.int CV),(19,.int ep),(27,.int half),(6,.int full),(28,.int key),(29,.ref hist)]=
  [(23,.ref g),(22,.ref Z),(24,.ref b),(25,.ref k),(26,.ref sd),(21,.int s'),(20,.int r'),(19,.int e'),(27,.int a'),(6,.int f'),(28,.int k'),(29,.ref hist)]):
 ∃h1,setattr (.ref p) a v h=.ok .none h1/\PosAt h1 p g Z b k sd hist bd kd sds s' r' e' a' f' k'/\(∀n:Nat,n≠p->h1[n]? =h[n]?)/\h1.length=h.length:=by
 have S:=nA (k:=a) (v:=v) P.hp rfl
 rw[e]at S
 simp only[List.nodup_cons,List.mem_cons,List.not_mem_nil,or_false,not_or,List.nodup_nil,and_true,not_false_eq_true]at nd
 refine aA nd λh'1 _=>?_;refine cJ h'1 λn1 n2 n3=>?_;clear h'1;clear nd
 refine⟨_,S,⟨DG (Dr.mp P.hp).1,?_,?_,?_⟩,λn ne=>DB (Eb ne),FN ..⟩
 ·exists(DB n1);exact P.hb
 ·exists(DB n2);exact P.hk
 ·exists(DB n3);exact P.hs
theorem full_key(P:PosAt h p g Z b k sd hist bd kd sds CZ CV ep half full key)(zb:Zob h Z N rE rR zs rows)(lb:bd.length=30)(eP:∀c∈bd,ey c){k1:Int}(F:∀m,Fun (m,none) h 28 [.ref p] (.ok (.int k1) h)):
 ∃key':Int,Fun (m+2,none) h 29 [.ref p] (.ok (.int key') h):=by
 have hp:=P.hp
 have hZ:=zb.hZ
 have hb:=P.hb
 refine iG (vR (m:=m+1) (bd:=bd) (b:=b) (x0:=some (.ref p)) P.hb zb.hN zb.lN (λi c hc ne=>by
  obtain⟨r,rw',q1,q2,q3,q4⟩:=zb.row c (eP c (DR hc)) ne
  obtain⟨z,q4⟩:=q4 i (by have:=(Dr.mp hc).1;exact DA this (DK lb))
  rcases eP c (DR hc)with g0|⟨g1,_⟩
  ·exact absurd g0 ne
  ·exact⟨Eh g1,r,rw',z,q1,q2,q4,q3⟩) 30 0 (by exact Eq.symm lb) k1 none) λkey' y3 y4 T=>?_
 have mk:fF (.ref b) h=some (.lst b 0):=by
  show(match h[b]? with|some (.list _)=>some (It.lst b 0)|_=>none)=_
  exists hb;rfl
 exact⟨key',Fun.ret rfl rfl (.cons (.C9 (by k_all)) (.cons (.C9 (.call (by k_all) (F _))) (.cons (.C9 .int) (.cons (.for (by k_all) mk T) (.ret (.ret (.C8 rfl)))))))⟩
theorem settle_key(P:PosAt h p g Z b k sd hist bd kd sds CZ CV ep half full key)(nd:[p,b,k,sd].Nodup){k1:Int}(F:Fun (m,none) h 29 [.ref p] (.ok (.int k1) h)):
 ∃h1,Fun (m+1,none) h 34 [.ref p] (.ok .none h1)/\PosAt h1 p g Z b k sd hist bd kd sds CZ CV ep half full k1/\(∀n:Nat,n≠p->h1[n]? =h[n]?)/\h1.length=h.length:=by
 refine bi (gy (s':=CZ) (r':=CV) (e':=ep) (a':=half) (f':=full) (k':=k1) (fs:=[]) P nd 28 (.int k1) rfl) λh1 S P1 f1 l1=>?_
 exact⟨h1,Fun.end rfl rfl (.cons (.Dd (.call (by k_all) F) (by k_all) S) .nil),P1,f1,l1⟩
end
end
section
set_option maxRecDepth 100000
noncomputable def aM(L:Nat):List O:=
 [.inst 3 [(3,.int 6),(4,.int 5),(5,.int 30),(6,.int 1073741823),(7,.bool true),(8,.bool true),(9,.ref (L+1)),(10,.ref (L+2)),(11,.ref (L+3)),(12,.ref (L+12)),(13,.ref (L+5)),(14,.ref (L+8)),(15,.ref (L+9)),(16,.ref (L+30))],.list [.int 17043521,.int 34087042,.int 68174084,.int 136348168,.int 272696336,.int 545392672],.list [.int 63,.int 4032,.int 258048,.int 16515072,.int 1056964608],.list [.ref (L+14),.ref (L+16),.ref (L+18),.ref (L+20),.ref (L+22),.ref (L+24),.ref (L+26),.ref (L+28)],.list [],.list [.int 8448,.int 20992,.int 42048,.int 84096,.int 164096,.int 66048,.int 540676,.int 1343496,.int 2691089,.int 5382178,.int 10502148,.int 4227080,.int 34603266,.int 85983749,.int 172229706,.int 344459412,.int 672137512,.int 270533136,.int 67125376,.int 134250816,.int 285282944,.int 570565888,.int 67127808,.int 134251520,.int 1056768,.int 2117632,.int 4497408,.int 8994816,.int 1212416,.int 2162688],.list [.int 128,.int 320,.int 640,.int 1280,.int 2560,.int 1024,.int 8192,.int 20480,.int 40960,.int 81920,.int 163840,.int 65536,.int 524288,.int 1310720,.int 2621440,.int 5242880,.int 10485760,.int 4194304,.int 33554432,.int 83886080,.int 167772160,.int 335544320,.int 671088640,.int 268435456,.int 0,.int 0,.int 0,.int 0,.int 0,.int 0],.list [.int 0,.int 0,.int 0,.int 0,.int 0,.int 0,.int 2,.int 5,.int 10,.int 20,.int 40,.int 16,.int 128,.int 320,.int 640,.int 1280,.int 2560,.int 1024,.int 8192,.int 20480,.int 40960,.int 81920,.int 163840,.int 65536,.int 524288,.int 1310720,.int 2621440,.int 5242880,.int 10485760,.int 4194304],.list [.ref (L+6),.ref (L+7)],.list [.none,.tup [.int 3,.int 1,.int 0,.int 2],.none,.tup [.int 27,.int 25,.int 24,.int 26]],.list [],.list [.int 0],.list [.int 194,.int 453,.int 906,.int 1812,.int 3624,.int 3088,.int 12419,.int 28999,.int 57998,.int 115996,.int 231992,.int 197680,.int 794816,.int 1855936,.int 3711872,.int 7423744,.int 14847488,.int 12651520,.int 50868224,.int 118779904,.int 237559808,.int 475119616,.int 950239232,.int 809697280,.int 34340864,.int 85721088,.int 171442176,.int 342884352,.int 685768704,.int 281018368],.list [.int 0],.list [.int 17043520,.int 34087040,.int 68174080,.int 136348160,.int 272696320,.int 545392640,.int 17043456,.int 34086912,.int 68173824,.int 136347648,.int 272695296,.int 545390592,.int 17039360,.int 34078720,.int 68157440,.int 136314880,.int 272629760,.int 545259520,.int 16777216,.int 33554432,.int 67108864,.int 134217728,.int 268435456,.int 536870912,.int 0,.int 0,.int 0,.int 0,.int 0,.int 0],.list [.int 0],.list [.int 62,.int 60,.int 56,.int 48,.int 32,.int 0,.int 3968,.int 3840,.int 3584,.int 3072,.int 2048,.int 0,.int 253952,.int 245760,.int 229376,.int 196608,.int 131072,.int 0,.int 16252928,.int 15728640,.int 14680064,.int 12582912,.int 8388608,.int 0,.int 1040187392,.int 1006632960,.int 939524096,.int 805306368,.int 536870912,.int 0],.list [.int 0],.list [.int 0,.int 0,.int 0,.int 0,.int 0,.int 0,.int 1,.int 2,.int 4,.int 8,.int 16,.int 32,.int 65,.int 130,.int 260,.int 520,.int 1040,.int 2080,.int 4161,.int 8322,.int 16644,.int 33288,.int 66576,.int 133152,.int 266305,.int 532610,.int 1065220,.int 2130440,.int 4260880,.int 8521760],.list [.int 0],.list [.int 0,.int 1,.int 3,.int 7,.int 15,.int 31,.int 0,.int 64,.int 192,.int 448,.int 960,.int 1984,.int 0,.int 4096,.int 12288,.int 28672,.int 61440,.int 126976,.int 0,.int 262144,.int 786432,.int 1835008,.int 3932160,.int 8126464,.int 0,.int 16777216,.int 50331648,.int 117440512,.int 251658240,.int 520093696],.list [.int 0],.list [.int 270549120,.int 541098240,.int 8454656,.int 132096,.int 2048,.int 0,.int 135274496,.int 270548992,.int 541097984,.int 8454144,.int 131072,.int 0,.int 67633152,.int 135266304,.int 270532608,.int 541065216,.int 8388608,.int 0,.int 33554432,.int 67108864,.int 134217728,.int 268435456,.int 536870912,.int 0,.int 0,.int 0,.int 0,.int 0,.int 0,.int 0],.list [.int 0],.list [.int 0,.int 0,.int 0,.int 0,.int 0,.int 0,.int 2,.int 4,.int 8,.int 16,.int 32,.int 0,.int 132,.int 264,.int 528,.int 1056,.int 2048,.int 0,.int 8456,.int 16912,.int 33824,.int 67584,.int 131072,.int 0,.int 541200,.int 1082400,.int 2164736,.int 4325376,.int 8388608,.int 0],.list [.int 0],.list [.int 0,.int 0,.int 0,.int 0,.int 0,.int 0,.int 0,.int 1,.int 2,.int 4,.int 8,.int 16,.int 0,.int 64,.int 129,.int 258,.int 516,.int 1032,.int 0,.int 4096,.int 8256,.int 16513,.int 33026,.int 66052,.int 0,.int 262144,.int 528384,.int 1056832,.int 2113665,.int 4227330],.list [.int 0],.list [.int 0,.int 64,.int 4224,.int 270592,.int 17318400,.int 34636800,.int 0,.int 4096,.int 270336,.int 17317888,.int 34635776,.int 69271552,.int 0,.int 262144,.int 17301504,.int 34603008,.int 69206016,.int 138412032,.int 0,.int 16777216,.int 33554432,.int 67108864,.int 134217728,.int 268435456,.int 0,.int 0,.int 0,.int 0,.int 0,.int 0],.list [.int 0],.list [.int 2,.int 0,.int 0,.int 2,.int 0,.int 0,.int 0,.int 0,.int 0,.int 0,.int 0,.int 0,.int 0,.int 0,.int 0,.int 0,.int 0,.int 0,.int 0,.int 0,.int 0,.int 0,.int 0,.int 0,.int 8,.int 0,.int 0,.int 8,.int 0,.int 0]]
noncomputable def bC(L:Nat):List O:=
 [.inst 4 [(17,.int 2475696626433065010)],.list [.ref (L+33),.ref (L+34),.ref (L+35),.ref (L+36),.ref (L+37),.ref (L+38),.ref (L+39),.ref (L+40),.ref (L+41),.ref (L+42),.ref (L+43),.ref (L+44),.ref (L+45),.ref (L+46),.ref (L+47)],.list [],.list [.int 15102585824911130687,.int 1124511902515218495,.int 10091392043178606950,.int 9809076253684921989,.int 14283162462491272569,.int 6109553381426761977,.int 17261794835062652561,.int 3191179201076807374,.int 3569654474265522511,.int 10771360338685106394,.int 13554319065320986873,.int 9107244077858273303,.int 4423954238752025568,.int 302816337120237456,.int 929992703074266768,.int 13201782793364096460,.int 16203171830009834661,.int 12239947819920341238,.int 4373709390441580855,.int 10292731822464185070,.int 119100277400862896,.int 8084672385120601386,.int 120254283887102225,.int 6194208799155311475,.int 18230524308483807054,.int 5447661626739325059,.int 2088311148577570801,.int 5075897750597257556,.int 3176768077785134003,.int 11342067635593215866],.list [.int 14270025057512230275,.int 3346420707178986054,.int 13885355360619810273,.int 17216743709849697716,.int 5826665258482902124,.int 3744055246418880777,.int 11032831224926036104,.int 9211521690490320506,.int 17554694409743922926,.int 9231470194396607595,.int 13664917162834392543,.int 18354803147438087905,.int 5588703511665334093,.int 12467023657308902557,.int 1580463552969226093,.int 11874953405451523751,.int 16428396098815924910,.int 9128677872413183616,.int 731081842858116023,.int 14016110441357396510,.int 7489956831651066518,.int 11050085082954019174,.int 4424370035274419139,.int 1702425740756013385,.int 12215962641790962662,.int 6656531861600809344,.int 7623264068090978242,.int 9056239440278768843,.int 8758667365247278493,.int 6603441778764571057],.list [.int 15724527748387643650,.int 4502449096306338304,.int 5331828224655324716,.int 5233141742803658924,.int 4999960174423288888,.int 10730850917228149173,.int 3225869582043548465,.int 2852131461108250193,.int 12229747986381801364,.int 7058282998520815137,.int 3856541754049180671,.int 14108386077977445914,.int 11539786296691423545,.int 3391641854052443891,.int 8996897211249569324,.int 7197320890010993826,.int 3376443532445898321,.int 10684358629084807620,.int 5047815128645379910,.int 2559928943240280339,.int 6770012505810424531,.int 11208309619099050437,.int 18084268470054725920,.int 510489086540623668,.int 13864898685627367915,.int 12751884027453998008,.int 15424504245171816763,.int 10217410624572738722,.int 12817062520055570459,.int 14627962543781538760],.list [.int 16094075708996841735,.int 9679214265000521168,.int 15225075982370017338,.int 384657837064848298,.int 6014501688929400060,.int 18107597147611312658,.int 7384114248113610091,.int 13072194165516708362,.int 2838540634293925804,.int 10723638300738033625,.int 12388677500232720825,.int 7504372747862758761,.int 9175189229573628197,.int 16792249222855882365,.int 7184425206784066645,.int 8923252624303725194,.int 8577135822409884529,.int 11086257594886845659,.int 6806456668179216355,.int 5303702715902462336,.int 606080432880908764,.int 9828697755062796061,.int 17383636502572992053,.int 13186604339847681625,.int 2196116342234423641,.int 1186695897477968020,.int 13023836790686168516,.int 644892854505694538,.int 8060315874507128503,.int 882668028588592826],.list [.int 10469652379039279489,.int 5649265449032958095,.int 13311005453652487904,.int 15154407433971512118,.int 58059480147713443,.int 13710969358133984719,.int 1682245515916789641,.int 14900608170649472630,.int 11946262482440884842,.int 4682168422514555008,.int 2899233787844004917,.int 15500436386695665252,.int 1627912769876229069,.int 13406797102565177113,.int 3100665267659902551,.int 2174592430906115384,.int 16046846625186138991,.int 5901029785332267025,.int 5198112627107709808,.int 13766940148424980554,.int 6184995052957462414,.int 15446360094200554437,.int 2234953425404098171,.int 5557718123278449564,.int 264081644057592968,.int 11852965436764990072,.int 9227976972775056052,.int 13040448901224450874,.int 10712807683682027845,.int 10017823514998582298],.list [.int 10266723632812572654,.int 12009510340815252770,.int 7071246054621517591,.int 6819925089033537195,.int 12465110887355036608,.int 17024336119769810651,.int 3228582584132496816,.int 10799681523358638398,.int 920351402224176904,.int 4301896766867329863,.int 9003903326655287837,.int 15777019366868128155,.int 9103000570804635016,.int 173093822632714036,.int 5070176389828544802,.int 17937737511632843477,.int 18087195022984048366,.int 13829983613313391533,.int 12367368877032313425,.int 11736406537527488183,.int 8152197007214351395,.int 10175847256330257917,.int 16295748056942344030,.int 14983840961480855917,.int 6252118467796394894,.int 8484951428209540473,.int 851974400468662182,.int 8795164158861931064,.int 111797576495719887,.int 10559857559942742071],.list [],.list [],.list [.int 5197232220729630693,.int 13930642991563121342,.int 14322773173632850790,.int 4585173044348228033,.int 6794877233760067407,.int 16823843235692494518,.int 13370915580119772945,.int 8242016654965461029,.int 9409135847798498687,.int 16433079320152172273,.int 3695935589656311121,.int 14091754698388297003,.int 8806019835414022997,.int 244349107484706437,.int 522505419005543784,.int 5328619692439242723,.int 2514969650274567108,.int 15073300719791928222,.int 7713057765049509007,.int 8873462237139269971,.int 2540078325493060312,.int 3583690451198893369,.int 16373745079641312601,.int 6275551690823662183,.int 13508778973558806630,.int 6751254668744384322,.int 6609660943586489787,.int 18103642943598533631,.int 7604544321542384713,.int 9271745842150074722],.list [.int 4641595077531878074,.int 13967671652308851348,.int 14401755424735026239,.int 18430990344646460010,.int 8921646061465282608,.int 3604141344987593421,.int 2115191054951777030,.int 10505349377148882535,.int 18101326219524503464,.int 11429915761496053765,.int 5230741761158985518,.int 2995771712934222214,.int 5813540932196113784,.int 15458121120016835469,.int 16007891995829600033,.int 4556196318678257001,.int 2381372008799898877,.int 1735686355337312895,.int 15724436181986118329,.int 13840104168408990800,.int 6204689845412478079,.int 10073681715783251199,.int 9046609046506100130,.int 12343332979318320565,.int 7671491724503484923,.int 44804172552635999,.int 2501218363722804198,.int 10809165470073917707,.int 5674566461682474230,.int 11352713335905763896],.list [.int 11841595290113995624,.int 1645299972932615071,.int 13655751304105282251,.int 11519957921859429286,.int 4290475694516082409,.int 8000222536618787041,.int 4136210046339285837,.int 13163227306065126591,.int 1807854222015982680,.int 17729306543079423116,.int 11009140944375028220,.int 10386532522582094150,.int 260780512877857681,.int 3141959653203870303,.int 16430956222290377585,.int 17390416894166107540,.int 7785057444693612903,.int 3179400080249469134,.int 6441363450224558282,.int 13931665676819072074,.int 7058353031121567865,.int 12561451003381532164,.int 17085637822610217623,.int 15641897695915724757,.int 3549144662774796131,.int 11192940840517341477,.int 10997260824556457000,.int 6753667384898622704,.int 12524084338289508687,.int 12701889573632234573],.list [.int 10552896229722924392,.int 18229956653919416874,.int 17908130309732840062,.int 1073366952469211107,.int 5268129749006278070,.int 3135438358653106059,.int 9235080641769344699,.int 9221957503239875456,.int 11261736360442461363,.int 15298165725292394163,.int 17741941424691372351,.int 17636468501536883274,.int 9830977382442730606,.int 5045959927752792598,.int 7511439771205757430,.int 11559353539653642881,.int 2049113865897274017,.int 14792798073961717320,.int 9623820526114348090,.int 3500064770934599919,.int 16458563858121862325,.int 14360973879797986434,.int 14647056430468818610,.int 10156955606081110014,.int 1361501786815798653,.int 1844494271035197680,.int 7481765166541939127,.int 12018337776549029277,.int 288991198142900213,.int 7626823792684167055],.list [.int 11197631070245046122,.int 17427530290327779749,.int 228214424177238055,.int 6277515432637543193,.int 2470388104248351014,.int 14991747706353730985,.int 5890962702652955734,.int 9211675331459335086,.int 14346462863567681350,.int 7807330698089959344,.int 18207488189669882635,.int 10037893708264066767,.int 8883395091902678776,.int 8486760345241490398,.int 16938771906406159857,.int 3950883251075455620,.int 12361469660197547989,.int 6076544686069022032,.int 9728717063193408366,.int 2579036785885817277,.int 17226200430442661233,.int 15159232699784068269,.int 13284926938792995279,.int 1539742454153405734,.int 5662495961950121451,.int 4386661744011869303,.int 15210519461192702858,.int 5435711355035864700,.int 9674238700416220284,.int 3104232807360751929],.list [.int 17751973214571433948,.int 9207575461492852088,.int 688183933279918408,.int 3676510365110774449,.int 2889823820295597441,.int 1897662142342065942,.int 7279639848137297145,.int 3356296335026170664,.int 14629810071733949769,.int 9671056806395573436,.int 12674917277106734375,.int 15629820019979796871,.int 17362787404204748478,.int 15442819194556290969,.int 11516564707851001554,.int 16004914502290010725,.int 11436515503926966857,.int 10106928150740451577,.int 10156668132079323046,.int 3159106922758353077,.int 14088708498648070186,.int 3881252364551719820,.int 5420856389524551081,.int 2907978209931361851,.int 5142767625678227427,.int 11921454262968648311,.int 13660282554307467202,.int 9999089196396732535,.int 2680096182919349117,.int 18101708054581270847],.list [.int 18188167365082682071,.int 14767036276855742001,.int 11768075919387590375,.int 2169265190649751508,.int 9562202643865825120,.int 8676512001445253001],.list [.int 3086419347359900650,.int 14354075609680982910,.int 5068658916974991472,.int 13249261328860603471],.list [.int 0,.int 3086419347359900650,.int 14354075609680982910,.int 17142602046867083412,.int 5068658916974991472,.int 7818904696418909082,.int 9323741889344252686,.int 12371880561647323364,.int 13249261328860603471,.int 11316418795851597733,.int 8137229699008714545,.int 6500969458313196763,.int 17404629792865090623,.int 15806650208284106709,.int 3943536040027180865,.int 2048974180447349931],.inst 5 [(18,.ref (L+32)),(19,.ref (L+48)),(20,.ref (L+50)),(21,.int 7144484368358846378)]]
theorem vT(o0 o1 o2 o3:O)(m d:Nat):(ak prog (m+600)).fn (d+60,none) [o0,o1,o2,o3] 15 [.int 6,.int 5,.bool true,.bool true]=.ok (.ref 4) (o0::o1::o2::o3::aM 4):=by kernel_rfl
theorem vU(o0 o1 o2 o3:O)(m d:Nat):(ak prog (m+600)).fn (d+60,none) (o0::o1::o2::o3::aM 4) 27 [.ref 4,.int 9]=.ok (.ref 55) (o0::o1::o2::o3::(aM 4++bC 4)):=by kernel_rfl
theorem vV(o0 o1 o2 o3 o4 o5:O)(m d:Nat):(ak prog (m+600)).fn (d+60,none) [o0,o1,o2,o3,o4,o5] 15 [.int 6,.int 5,.bool true,.bool true]=.ok (.ref 6) (o0::o1::o2::o3::o4::o5::aM 6):=by kernel_rfl
theorem vW(o0 o1 o2 o3 o4 o5:O)(m d:Nat):(ak prog (m+600)).fn (d+60,none) (o0::o1::o2::o3::o4::o5::aM 6) 27 [.ref 6,.int 9]=.ok (.ref 57) (o0::o1::o2::o3::o4::o5::(aM 6++bC 6)):=by kernel_rfl
theorem vX(o0 o1 o2 o3 o4 o5 o6 o7:O)(m d:Nat):(ak prog (m+600)).fn (d+60,none) [o0,o1,o2,o3,o4,o5,o6,o7] 15 [.int 6,.int 5,.bool true,.bool true]=.ok (.ref 8) (o0::o1::o2::o3::o4::o5::o6::o7::aM 8):=by kernel_rfl
theorem vY(o0 o1 o2 o3 o4 o5 o6 o7:O)(m d:Nat):(ak prog (m+600)).fn (d+60,none) (o0::o1::o2::o3::o4::o5::o6::o7::aM 8) 27 [.ref 8,.int 9]=.ok (.ref 59) (o0::o1::o2::o3::o4::o5::o6::o7::(aM 8++bC 8)):=by kernel_rfl
theorem tR(o0 o1 o2 o3 o4 o5 o6 o7 o8 o9:O)(m d:Nat):(ak prog (m+600)).fn (d+60,none) [o0,o1,o2,o3,o4,o5,o6,o7,o8,o9] 15 [.int 6,.int 5,.bool true,.bool true]=.ok (.ref 10) (o0::o1::o2::o3::o4::o5::o6::o7::o8::o9::aM 10):=by kernel_rfl
theorem tS(o0 o1 o2 o3 o4 o5 o6 o7 o8 o9:O)(m d:Nat):(ak prog (m+600)).fn (d+60,none) (o0::o1::o2::o3::o4::o5::o6::o7::o8::o9::aM 10) 27 [.ref 10,.int 9]=.ok (.ref 61) (o0::o1::o2::o3::o4::o5::o6::o7::o8::o9::(aM 10++bC 10)):=by kernel_rfl
end
section
open PySem.Builtin (bitAnd bitOr bitXor bitNot)
noncomputable def nD(k:Nat):List V:=match(aM 0)[k]? with
 |some (.list xs)=>xs
 |_=>[]
noncomputable def tT(d:Nat):List V:=nD (14+2*d)
noncomputable def kingL:List V:=nD 12
noncomputable def knightL:List V:=nD 5
noncomputable def cE(s:Nat):List V:=nD (6+s)
noncomputable def getI(xs:List V)(i:Nat):Int:=match xs[i]? with
 |some (.int v)=>v
 |_=>0
noncomputable def cy(xs:List V):Bool:=xs.all λv=>match v with|.int _=>true|_=>false
theorem dq{xs:List V}{i:Nat}(a:cy xs=true)(l:i<xs.length):xs[i]? =some (.int (getI xs i)):=by
 have e:=DI l
 have:=DE.mp a _ (DR e)
 unfold getI
 exists e
 split at this
 ·rename_i v q;(exists q;rfl)
 ·cases this
structure GeoF (h:Hp) (g RM RR Kr Kn P Cs p0 p1:Nat) (gfs:List (Nat×V)) (rr:List V):Prop where
 obj:h[g]? =some (.inst 3 gfs)
 f3:aG 3 gfs=some (.int 6)
 f4:aG 4 gfs=some (.int 5)
 f5:aG 5 gfs=some (.int 30)
 f7:aG 7 gfs=some (.bool true)
 f10:aG 10 gfs=some (.ref RM)
 f11:aG 11 gfs=some (.ref RR)
 f12:aG 12 gfs=some (.ref Kr)
 f13:aG 13 gfs=some (.ref Kn)
 f14:aG 14 gfs=some (.ref P)
 f15:aG 15 gfs=some (.ref Cs)
 rm:h[RM]? =some (.list [.int 63,.int 4032,.int 258048,.int 16515072,.int 1056964608])
 rays:h[RR]? =some (.list rr)
 rl:ae rr.length=true
 ray:∀d:Nat,d<8->∃Rd,rr[d]? =some (.ref Rd)/\h[Rd]? =some (.list (tT d))
 king:h[Kr]? =some (.list kingL)
 knight:h[Kn]? =some (.list knightL)
 pawn:h[P]? =some (.list [.ref p0,.ref p1])
 pw0:h[p0]? =some (.list (cE 0))
 pw1:h[p1]? =some (.list (cE 1))
 cs:h[Cs]? =some (.list [.none,.tup [.int 3,.int 1,.int 0,.int 2],.none,.tup [.int 27,.int 25,.int 24,.int 26]])
theorem GeoF.mono{h h':Hp}{g RM RR Kr Kn P Cs p0 p1:Nat}{gfs:List (Nat×V)}{rr:List V}(G:GeoF h g RM RR Kr Kn P Cs p0 p1 gfs rr)(k:Mono h h'):GeoF h' g RM RR Kr Kn P Cs p0 p1 gfs rr:=
 ⟨k _ _ G.obj,G.f3,G.f4,G.f5,G.f7,G.f10,G.f11,G.f12,G.f13,G.f14,G.f15,k _ _ G.rm,k _ _ G.rays,G.rl,λd hd=>ai (G.ray d hd) λR a b=>⟨R,a,k _ _ b⟩,k _ _ G.king,k _ _ G.knight,k _ _ G.pawn,k _ _ G.pw0,k _ _ G.pw1,k _ _ G.cs⟩
theorem AN:∀d:Nat,d<8->cy (tT d)=true/\(tT d).length=30:=by decide+kernel
theorem jO:cy kingL=true/\kingL.length=30:=by decide+kernel
theorem gz:cy knightL=true/\knightL.length=30:=by decide+kernel
theorem cz:∀s:Nat,s<2->cy (cE s)=true/\(cE s).length=30:=by decide+kernel
section
variable{h:Hp}{m g RM RR Kr Kn P Cs p0 p1:Nat}{gfs:List (Nat×V)}{rr:List V}
noncomputable def eW(d sq:Nat)(occ:Int):Int:=yq (getI (tT d) sq) occ (jK d)
theorem pg(G:GeoF h g RM RR Kr Kn P Cs p0 p1 gfs rr){sq:Nat}{occ:Int}(hs:sq<30):∀d:Nat,d<8->∀m,Fun (m+1,none) h 16 [.ref g,.int d,.int sq,.int occ] (.ok (.int (eW d sq occ)) h):=λd hd m=>by
 refine ai (G.ray d hd) λRd q1 q2=>?_
 refine aA (AN d hd) λa l=>?_
 exact ray_attacks G.obj G.f11 G.rays (by exact Dq _) q1 G.rl q2 (by exact Dq _) (dq a (by(exists l);exact hs)) (by(exists l);rfl) (is_growing d hd)
noncomputable def sA(sq:Nat)(occ:Int):Int:=bitOr (bitOr (bitOr (bitOr 0 (eW 0 sq occ)) (eW 1 sq occ)) (eW 2 sq occ)) (eW 3 sq occ)
noncomputable def sB(sq:Nat)(occ:Int):Int:=bitOr (bitOr (bitOr (bitOr 0 (eW 4 sq occ)) (eW 5 sq occ)) (eW 6 sq occ)) (eW 7 sq occ)
noncomputable def qZ(sq s:Nat)(own occ k1 k2 k3 k4 k5 k6:Int):Bool:=
 bitOr (bitAnd (bitAnd (getI (cE (1-s)) sq) k1) own) (bitAnd (bitOr (bitAnd (getI knightL sq) k2) (bitAnd (getI kingL sq) k6)) own) !=0||
 (bitAnd (bitOr k4 k5) own !=0&&bitAnd (sA sq occ) (bitAnd (bitOr k4 k5) own) !=0)||(bitAnd (bitOr k3 k5) own !=0&&bitAnd (sB sq occ) (bitAnd (bitOr k3 k5) own) !=0)
variable{p Z b k sd hist:Nat}{bd:List Int}{k0 k1 k2 k3 k4 k5 k6 s0 s1 CZ CV ep half full key:Int}
theorem ph(G:GeoF h g RM RR Kr Kn P Cs p0 p1 gfs rr)(Q:PosAt h p g Z b k sd hist bd [k0,k1,k2,k3,k4,k5,k6] [s0,s1] CZ CV ep half full key){sq:Nat}(hs:sq<30){s:Nat}(h2:s<2){occ:Int}:
 Fun (m+6,none) h 44 [.ref p,.int sq,.int s,.int occ] (.ok (.bool (qZ sq s (if s=0 then s0 else s1) occ k1 k2 k3 k4 k5 k6)) h):=by
 have q0:0<=(sq:Int):=by lia
 have kg:=dq jO.1 (i:=sq) (by(exists(jO.2));exact hs)
 have kn:=dq gz.1 (i:=sq) (by(exists(gz.2));exact hs)
 have ks:h[k]? =some (.list [.int k0,.int k1,.int k2,.int k3,.int k4,.int k5,.int k6]):=Q.hk
 have ss:h[sd]? =some (.list [.int s0,.int s1]):=Q.hs
 have S1:∀m,Fun (m,none) h 40 [.ref p] (.ok (.int (bitOr k4 k5)) h):=λm=>straight_sliders Q.hp ks
 have S2:∀m,Fun (m,none) h 41 [.ref p] (.ok (.int (bitOr k3 k5)) h):=λm=>slanting_sliders Q.hp ks
 have R1:∀m,Fun (m+4,none) h 17 [.ref g,.int sq,.int occ] (.ok (.int (sA sq occ)) h):=λm=>rook_attacks (r:=λd=>eW d sq occ) λd hd m=>pg G hs d hd (m+1)
 have R2:∀m,Fun (m+4,none) h 18 [.ref g,.int sq,.int occ] (.ok (.int (sB sq occ)) h):=λm=>bishop_attacks (r:=λd=>eW d sq occ) λd hd m=>pg G hs d hd (m+1)
 rcases(by exact or2 h2:s=0\/s=1)with rfl|rfl
 ·have pw:=dq (cz 1 (by decide)).1 (i:=sq) (by(exists((cz 1 (by decide)).2));exact hs)
  have A:=pawn_attackers (m:=m+4) (CZ:=0) (sq:=(sq:Int)) (own:=s0) Q.hp ks ss G.obj G.f14 G.pawn (by decide) rfl rfl G.pw1 q0 pw (by(exists((cz 1 (by decide)).2));rfl) (by decide) rfl
  have B:=step_attackers (m:=m+4) (CZ:=0) Q.hp ks ss G.obj G.f13 G.f12 G.knight G.king q0 kn (by(exists(gz.2));rfl) kg (by(exists(jO.2));rfl) (by decide) rfl A
  exact is_attacked (m:=m+5) (CZ:=0) Q.hp ss (by decide) rfl B (S1 _) (S2 _) (R1 _) (R2 _)
 ·have pw:=dq (cz 0 (by decide)).1 (i:=sq) (by(exists((cz 0 (by decide)).2));exact hs)
  have A:=pawn_attackers (m:=m+4) (CZ:=1) (sq:=(sq:Int)) (own:=s1) Q.hp ks ss G.obj G.f14 G.pawn (by decide) rfl rfl G.pw0 q0 pw (by(exists((cz 0 (by decide)).2));rfl) (by decide) rfl
  have B:=step_attackers (m:=m+4) (CZ:=1) Q.hp ks ss G.obj G.f13 G.f12 G.knight G.king q0 kn (by(exists(gz.2));rfl) kg (by(exists(jO.2));rfl) (by decide) rfl A
  exact is_attacked (m:=m+5) (CZ:=1) Q.hp ss (by decide) rfl B (S1 _) (S2 _) (R1 _) (R2 _)
end
theorem yF{bd:List Int}(lb:bd.length=30):∀n,n<=30->∀i,(kQ bd n)[i]? =if i<n then bd[i]? else if i<30 then some 0 else none:=by
 intro n
 induction n with
 |zero=>
  intro _ i
  exists(if_neg (by exact Gp _))
  show(List.replicate 30 (0:Int))[i]? =_
  exists HL;rfl
 |succ n ih=>
  intro hn i
  obtain⟨c,hc⟩:∃c,bd[n]? =some c:=⟨_,DI (by exact Dt.mp (ao [n,bd.length] [(.le (.a (.v 0) (.n 1)) (.n 30),1),(.eq (.v 1) (.n 30),-1)] (.lt (.v 0) (.v 1)) 1 rfl (Dm.mpr hn) (Ds Int.ofNat lb)))⟩
  have ih:=ih (by exact ED hn)
  show(if bd[n]?.getD 0=0 then kQ bd n else(kQ bd n).set n (bd[n]?.getD 0))[i]? =_
  exists hc
  show(if c=0 then kQ bd n else(kQ bd n).set n c)[i]? =_
  by_cases e:i=n
  ·subst e
   exists(if_pos (by exact Gg _:i<i+1)),hc
   split
   ·rename_i z;rw[ih,if_neg (by exact Gb _),if_pos (by exact Es hn),z]
   ·rw[DG (by rw[sx];exact Es hn)]
  ·have a:(if c=0 then kQ bd n else(kQ bd n).set n c)[i]? =(kQ bd n)[i]? :=by
    split
    ·rfl
    ·exact DB (Eb e)
   rw[a,ih]
   by_cases l:i<n
   ·rw[if_pos l,if_pos (by exact Nat.lt_succ_of_lt l)]
   ·rw[if_neg l,if_neg (show¬i<n+1 by lia)]
theorem yG{bd:List Int}(lb:bd.length=30):kQ bd 30=bd:=by
 apply EY
 intro i
 rw[yF lb 30 (Dy _)]
 split
 ·rfl
 ·rename_i l
  rw[EH (by exact Dm.mp (ao [bd.length,i] [(.le (.n 30) (.v 1),1),(.eq (.v 0) (.n 30),1)] (.le (.v 0) (.v 1)) 1 rfl (Dm.mpr (Ew l)) (Ds Int.ofNat lb)))]
noncomputable def bpRest:List S:=f_build_position.body.drop 7
theorem vZ{h0:Hp}{m g RM RR Kr Kn P Cs p0 p1 Z N rE rR fb:Nat}{gfs:List (Nat×V)}{rr rows:List V}{zs CZ CV ep half full:Int}{bd:List Int}(G:GeoF h0 g RM RR Kr Kn P Cs p0 p1 gfs rr)(zb:Zob h0 Z N rE rR zs rows)(hf:h0[fb]? =some (.list (bd.map .int)))
 (lb:bd.length=30) (eP:∀c∈bd,ey c):
 ∃(h5:Hp)(p b k sd hist:Nat)(key:Int)(y10:Option V),[p,b,k,sd].Nodup/\PosAt h5 p g Z b k sd hist bd (nW bd 30) (pe bd 30) CZ CV (-1) half full key/\(Mono h0 h5)/\
  (∀n∈[p,b,k,sd],h0.length<=n)/\
  ∀rs,Exs (m+4,none) (sy (some (.tup [.ref fb,.int CZ,.int CV,.int ep])) (some (.int half)) (some (.int full)) (some (.ref g)) (some (.ref Z)) fb (some (.int CZ)) (some (.int CV)) (some (.int ep)) p y10) h5 bpRest rs->
   Exs (m+4,none) ([some (.tup [.ref fb,.int CZ,.int CV,.int ep]),some (.int half),some (.int full),some (.ref g),some (.ref Z)]++List.replicate 6 none) h0 f_build_position.body rs:=by
 refine bi (lI (m:=m+3) (Z:=Z) G.obj G.f5) λh1 F1 P1 k1 l1=>?_
 have lt:∀(n:Nat)(o:O),h0[n]? =some o->n<h0.length:=λn o e=>(Dr.mp e).1
 have nd:[h0.length,h0.length+2,h0.length+4,h0.length+5].Nodup:=by simp
 have ge:∀n∈[h0.length,h0.length+2,h0.length+4,h0.length+5],h0.length<=n:=by simp
 have old:∀(n:Nat)(o:O),h0[n]? =some o->n∉[h0.length,h0.length+2,h0.length+4,h0.length+5]:=λn o e m=>Gb _ (DA (lt n o e) (ge n m))
 refine iH (qY (m:=m+1) (x0:=some (.tup [.ref fb,.int CZ,.int CV,.int ep])) (x1:=some (.int half)) (x2:=some (.int full)) (x3:=some (.ref g)) (x4:=some (.ref Z)) (x6:=some (.int CZ)) (x7:=some (.int CV)) (x8:=some (.int ep))
  zb old nd hf lb eP 30 0 (by exact rfl) h1 0 none P1 k1) λh2 key y10 T P2 f2 l2=>?_
 rw[yG lb]at P2
 have m2:Mono h0 h2:=λn o e=>(f2 n (old n o e)).trans (k1 n o e)
 refine bi (gy (s':=CZ) (r':=0) (e':= -1) (a':=0) (f':=1) (k':=key) (fs:=[]) P2 nd 21 (.int CZ) rfl) λh3 S3 P3 f3 l3=>?_
 refine bi (gy (s':=CZ) (r':=CV) (e':= -1) (a':=0) (f':=1) (k':=key) (fs:=[]) P3 nd 20 (.int CV) rfl) λh4 S4 P4 f4 l4=>?_
 refine bi (gy (s':=CZ) (r':=CV) (e':= -1) (a':=half) (f':=1) (k':=key) (fs:=[]) P4 nd 27 (.int half) rfl) λh5 S5 P5 f5 l5=>?_
 refine bi (gy (s':=CZ) (r':=CV) (e':= -1) (a':=half) (f':=full) (k':=key) (fs:=[]) P5 nd 6 (.int full) rfl) λh6 S6 P6 f6 l6=>?_
 refine⟨h6,_,_,_,_,_,key,y10,nd,P6,λn o e=>?_,ge,λrs R=>?_⟩
 ·have ne:n≠h0.length:=by have:=lt n o e;exact Et this
  exists(f6 n ne),(f5 n ne),(f4 n ne),(f3 n ne);exact m2 n o e
 ·have g1:=k1 _ _ G.obj
  have N6:Ev (m+4,none) [some (.tup [.ref fb,.int CZ,.int CV,.int ep]),some (.int half),some (.int full),some (.ref g),some (.ref Z),some (.ref fb),some (.int CZ),some (.int CV),some (.int ep),none,none] h0 (.new 6 [.C8 3,.C8 4]) (.ok (.ref h0.length) h1):=
   Ev.new (ex:=false) rfl rfl (by k_all) rfl F1
  have U:Ev (m+4,none) ([some (.tup [.ref fb,.int CZ,.int CV,.int ep]),some (.int half),some (.int full),some (.ref g),some (.ref Z)]++List.replicate 6 none) h0 (.C8 0) (.ok (.tup [.ref fb,.int CZ,.int CV,.int ep]) h0):=.C8 rfl
  have X:Ex (m+4,none) _ h0 (.unpack [5,6,7,8] (.C8 0)) _:=Ex.unpack U rfl
  refine Exs.cons X (.cons (Ex.C9 N6) (.cons (.for (.Dc (.cons (.attr (.C8 rfl) (ga g1 G.f5)) .nil) rfl) rfl T) (.cons (.Dd (by k_all) (by k_all) S3) (.cons (.Dd (by k_all) (by k_all) S4) (.cons (.Dd (by k_all) (by k_all) S5) (.cons (.Dd (by k_all) (by k_all) S6) R))))))
noncomputable def dD(s0 s1 k6:Int):Bool:=!(bitAnd s0 k6==0)&& !(bitAnd (bitAnd s0 k6) (bitAnd s0 k6-1) !=0)&& !(bitAnd s1 k6==0)&& !(bitAnd (bitAnd s1 k6) (bitAnd s1 k6-1) !=0)
noncomputable def gQ(k1:Int):Bool:=!(bitAnd k1 (bitOr 63 1056964608) !=0)
noncomputable def gS(CV:Int)(i:Nat):Bool:=bitAnd CV (1*2^i)==0
noncomputable def bA(bd:List Int)(i:Nat):Int:=bd[i]?.getD 0
noncomputable def me(CV:Int)(bd:List Int):Bool:=gS CV 3||(!(bA bd 27 !=14)&& !(bA bd 24 !=12))
noncomputable def sC(CV:Int)(bd:List Int):Bool:=gS CV 1||(!(bA bd 3 !=6)&& !(bA bd 0 !=4))
noncomputable def gT(CV:Int)(bd:List Int):Bool:=gS CV 0&&(sC CV bd&&(gS CV 2&&me CV bd))
section
variable{h:Hp}{m g RM RR Kr Kn P Cs p0 p1:Nat}{gfs:List (Nat×V)}{rr:List V}{p Z b k sd hist:Nat}{bd kd sds:List Int}{CZ CV ep half full key:Int}
def AO(h:Hp)(m p:Nat)(i:Int)(c:Bool):Prop:=(c=true/\yw h m p i)\/(c=false/\iy h m p i)
theorem fq(lb:bd.length=30){i:Nat}(l:i<30):(bd.map V.int)[i]? =some (.int (bA bd i)):=by
 exists DZ
 unfold bA
 exists(DI (by exact DA l (DK (Eq.symm lb))));rfl
theorem tU(G:GeoF h g RM RR Kr Kn P Cs p0 p1 gfs rr)(Q:PosAt h p g Z b k sd hist bd kd sds CZ CV ep half full key)(lb:bd.length=30)(r0:0<=CV)(r1:CV<16):
 (gT CV bd=true/\Fun (m+3,none) h 39 [.ref p] (.ok .none h))\/(gT CV bd=false/\∃t q,Fun (m+3,none) h 39 [.ref p] (.exc h.length (dz h t q))):=by
 have lf:ae (bd.map V.int).length=true:=by rw[DD,lb];rfl
 have A4:AO h (m+2) p 4 true:=.inl ⟨rfl,zw⟩
 have skip:∀(i:Nat)(c:Bool),i<4->gS CV i=true->AO h (m+2) p (i+1) c->AO h (m+2) p i c:=λi c hi z A=>by
  refine aA (AK (m:=m+1) Q.hp Q.hb lf G.obj G.f15 G.cs hi z) λa1 a2=>?_
  exact A.imp (λ⟨x,y⟩=>⟨x,a1 y⟩) λ⟨x,y⟩=>⟨x,a2 y⟩
 have A3:AO h (m+2) p 3 (me CV bd):=by
  unfold me
  cases z:gS CV 3 with
  |true=>exact skip 3 _ (by decide) z A4
  |false=>
   have q1:=fq lb (i:=27) (by decide)
   have q2:=fq lb (i:=24) (by decide)
   cases n1:bA bd 27 !=14 with
   |true=>exact .inr ⟨rfl,yC Q.hp Q.hb lf G.obj G.f15 G.cs z q1 n1⟩
   |false=>cases n2:bA bd 24 !=12 with
    |true=>exact .inr ⟨rfl,yD Q.hp Q.hb lf G.obj G.f15 G.cs z q1 n1 q2 n2⟩
    |false=>exact .inl ⟨rfl,(yE Q.hp Q.hb lf G.obj G.f15 G.cs z q1 n1 q2 n2).1 zw⟩
 have A2:AO h (m+2) p 2 (gS CV 2&&me CV bd):=by
  cases z:gS CV 2 with
  |true=>exact skip 2 _ (by decide) z A3
  |false=>exact .inr ⟨rfl,yy Q.hp Q.hb lf G.obj G.f15 G.cs z⟩
 have A1:AO h (m+2) p 1 (sC CV bd&&(gS CV 2&&me CV bd)):=by
  unfold sC
  cases z:gS CV 1 with
  |true=>exact skip 1 _ (by decide) z A2
  |false=>
   have q1:=fq lb (i:=3) (by decide)
   have q2:=fq lb (i:=0) (by decide)
   cases n1:bA bd 3 !=6 with
   |true=>exact .inr ⟨rfl,yz Q.hp Q.hb lf G.obj G.f15 G.cs z q1 n1⟩
   |false=>cases n2:bA bd 0 !=4 with
    |true=>exact .inr ⟨rfl,yA Q.hp Q.hb lf G.obj G.f15 G.cs z q1 n1 q2 n2⟩
    |false=>
     refine aA (yB (m:=m) Q.hp Q.hb lf G.obj G.f15 G.cs z q1 n1 q2 n2) λa1 a2=>?_
     exact A2.imp (λ⟨x,y⟩=>⟨by(exists x);rfl,a1 y⟩) λ⟨x,y⟩=>⟨by(exists x);rfl,a2 y⟩
 have A0:AO h (m+2) p 0 (gT CV bd):=by
  unfold gT
  cases z:gS CV 0 with
  |true=>exact skip 0 _ (by decide) z A1
  |false=>exact .inr ⟨rfl,yx Q.hp Q.hb lf G.obj G.f15 G.cs z⟩
 rcases A0 with⟨c,A⟩|⟨c,A⟩
 ·exact .inl ⟨c,tQ Q.hp r0 r1 A⟩
 ·exact .inr ⟨c,qV Q.hp r0 r1 A⟩
end
section
variable{h:Hp}{m g RM RR Kr Kn P Cs p0 p1:Nat}{gfs:List (Nat×V)}{rr:List V}{p Z b k sd hist:Nat}{bd kd sds:List Int}{CZ CV ep half full key:Int}{k0 k1 k2 k3 k4 k5 k6 s0 s1:Int}
theorem q7(G:GeoF h g RM RR Kr Kn P Cs p0 p1 gfs rr)(Q:PosAt h p g Z b k sd hist bd [k0,k1,k2,k3,k4,k5,k6] [s0,s1] CZ CV ep half full key)
 (r0:0<=bitAnd s0 k6)(u0:bitAnd s0 k6<4294967296)(r1:0<=bitAnd s1 k6)(u1:bitAnd s1 k6<4294967296)(r2:0<=bitAnd k1 (bitOr 63 1056964608))(u2:bitAnd k1 (bitOr 63 1056964608)<4294967296):
 ((dD s0 s1 k6&&gQ k1)=true/\Fun (m+6,none) h 55 [.ref p] (.ok .none h))\/((dD s0 s1 k6&&gQ k1)=false/\∃t q,Fun (m+6,none) h 55 [.ref p] (.exc (h.length+1) (yv h t q 0))):=by
 have hk:h[k]? =some (.list [.int k0,.int k1,.int k2,.int k3,.int k4,.int k5,.int k6]):=Q.hk
 have hs:h[sd]? =some (.list [.int s0,.int s1]):=Q.hs
 by_cases kg:(bitAnd s0 k6==0)=false/\(bitAnd (bitAnd s0 k6) (bitAnd s0 k6-1) !=0)=false/\(bitAnd s1 k6==0)=false/\(bitAnd (bitAnd s1 k6) (bitAnd s1 k6-1) !=0)=false
 ·have e:dD s0 s1 k6=true:=by unfold dD;(exists(kg.1),(kg.2.1),(kg.2.2.1),(kg.2.2.2));rfl
  have F1:=vO (m:=m+1) Q.hp hk hs kg.1 kg.2.1 kg.2.2.1 kg.2.2.2
  exists e
  unfold gQ
  cases z:bitAnd k1 (bitOr 63 1056964608) !=0 with
  |false=>exact .inl ⟨rfl,jy (m:=m+3) F1 (vP (m:=m+1) Q.hp hk hs G.obj G.f10 G.f4 G.rm z)⟩
  |true=>
   refine bE (tP (m:=m) Q.hp hk hs G.obj G.f10 G.f4 G.rm r2 u2 z) λt q F2=>?_
   exact .inr ⟨rfl,t,q,iu (m:=m+3) F1 F2⟩
 ·have e:dD s0 s1 k6=false:=by
   cases q:dD s0 s1 k6 with
   |false=>rfl
   |true=>
    unfold dD at q
    simp only[Bool.and_eq_true,Bool.not_eq_true']at q
    exact absurd ⟨q.1.1.1,q.1.1.2,q.1.2,q.2⟩ kg
  refine bE (tO (m:=m) Q.hp hk hs r0 u0 r1 u1 kg) λt q F=>?_
  exists e
  exact .inr ⟨rfl,t,q,ir (m:=m+3) F⟩
noncomputable def ahead(CZ:Int):Int:=if CZ=0 then 6 else-6
noncomputable def iz(bd:List Int)(CZ sq:Int):Bool:=!(sq.fdiv 6 !=2)&& !(bA bd sq.toNat !=0)&& !(bA bd (sq+ahead CZ).toNat !=0)&&bA bd (sq-ahead CZ).toNat==(1-CZ)*8+1
theorem q8(G:GeoF h g RM RR Kr Kn P Cs p0 p1 gfs rr)(Q:PosAt h p g Z b k sd hist bd kd sds CZ CV ep half full key)(lb:bd.length=30)(hsd:CZ=0\/CZ=1){sq:Int}(r0:0<=sq)(r1:sq<30):
 Fun (m+1,none) h 35 [.ref p,.int sq] (.ok (.bool (iz bd CZ sq)) h):=by
 have lf:ae (bd.map V.int).length=true:=by rw[DD,lb];rfl
 have fd:sq.fdiv 6=2->12<=sq/\sq<18:=λe=>by
  rw[Fe _ (by decide)]at e
  exact zC e
 have ha:(CZ=0/\ahead CZ=6)\/(CZ=1/\ahead CZ= -6):=hsd.elim (λe=>.inl ⟨e,by(exists e);rfl⟩) λe=>.inr ⟨e,by(exists e);rfl⟩
 refine ep_stands Q.hp Q.hb lf G.obj G.f7 G.f3 G.f4 G.f5 r0 r1 ha (fq lb (by exact Dt.mp (ao [sq.toNat,sq] [(.lt (.v 1) (.n 30),1),(.eq (.v 0) (.v 1),1)] (.lt (.v 0) (.n 30)) 1 rfl r1 (DH r0)))) (λe=>?_) (λe=>?_) (λe=>?_) (λe=>?_)
 ·have:=fd e;rcases ha with⟨_,e⟩|⟨_,e⟩<;>(exists e)<;>exact Bk this (by decide) (by decide)
 ·exact fq lb (by have:=fd e;rcases ha with⟨_,e⟩|⟨_,e⟩<;>(exists e)<;>exact Bl this (by decide) (by decide))
 ·have:=fd e;rcases ha with⟨_,e⟩|⟨_,e⟩<;>(exists e)<;>exact Bm this (by decide) (by decide)
 ·exact fq lb (by have:=fd e;rcases ha with⟨_,e⟩|⟨_,e⟩<;>(exists e)<;>exact Bn this (by decide) (by decide))
noncomputable def iW(s:Nat)(sq:Nat)(own k1:Int):Bool:=bitAnd (getI (cE (1-s)) sq) (bitAnd own k1) !=0
theorem tV(G:GeoF h g RM RR Kr Kn P Cs p0 p1 gfs rr){s sq:Nat}(hs2:s<2)(Q:PosAt h p g Z b k sd hist bd [k0,k1,k2,k3,k4,k5,k6] [s0,s1] s CV ep half full key)(r1:sq<30):
 Fun (m+1,none) h 36 [.ref p,.int sq] (.ok (.bool (iW s sq (if s=0 then s0 else s1) k1)) h):=by
 have hk:h[k]? =some (.list [.int k0,.int k1,.int k2,.int k3,.int k4,.int k5,.int k6]):=Q.hk
 have hs:h[sd]? =some (.list [.int s0,.int s1]):=Q.hs
 rcases(by exact or2 hs2:s=0\/s=1)with rfl|rfl
 ·exact ep_attacked (CZ:=0) (own:=s0) Q.hp G.obj G.f14 G.pawn (by decide) rfl rfl G.pw1 (by exact Dq _) (dq (cz 1 (by decide)).1 (by(exists((cz 1 (by decide)).2));exact r1)) (by(exists((cz 1 (by decide)).2));rfl) λm=>pieces Q.hp hk hs (by decide) rfl (by decide) rfl
 ·exact ep_attacked (CZ:=1) (own:=s1) Q.hp G.obj G.f14 G.pawn (by decide) rfl rfl G.pw0 (by exact Dq _) (dq (cz 0 (by decide)).1 (by(exists((cz 0 (by decide)).2));exact r1)) (by(exists((cz 0 (by decide)).2));rfl) λm=>pieces Q.hp hk hs (by decide) rfl (by decide) rfl
theorem tW(G:GeoF h g RM RR Kr Kn P Cs p0 p1 gfs rr)(Q:PosAt h p g Z b k sd hist bd [k0,k1,k2,k3,k4,k5,k6] [s0,s1] CZ CV ep half full key){t q:Nat}(ht:t<2)(hq:q<30)(e:bitAnd (if t=0 then s0 else s1) k6=2^q):
 Fun (m+7,none) h 45 [.ref p,.int t] (.ok (.bool (qZ q (1-t) (if 1-t=0 then s0 else s1) (bitOr s0 s1) k1 k2 k3 k4 k5 k6)) h):=by
 have hk:h[k]? =some (.list [.int k0,.int k1,.int k2,.int k3,.int k4,.int k5,.int k6]):=Q.hk
 have hs:h[sd]? =some (.list [.int s0,.int s1]):=Q.hs
 have L:=qT (h:=h) (m:=m+2) q hq
 rcases(by lia:t=0\/t=1)with rfl|rfl
 ·have e:bitAnd s0 k6=2^q:=e
  rw[<-e]at L
  exact in_check_of (m:=m+6) (sd':=0) Q.hp hs (king_square Q.hp hk hs (by decide) rfl L) (ph G Q hq (s:=1) (by decide))
 ·have e:bitAnd s1 k6=2^q:=e
  rw[<-e]at L
  exact in_check_of (m:=m+6) (sd':=1) Q.hp hs (king_square Q.hp hk hs (by decide) rfl L) (ph G Q hq (s:=0) (by decide))
end
theorem Zob.mono{h h':Hp}{Z N rE rR:Nat}{zs:Int}{rows:List V}(zb:Zob h Z N rE rR zs rows)(k:Mono h h'):Zob h' Z N rE rR zs rows:=
 ⟨k _ _ zb.hZ,k _ _ zb.hN,zb.lN,λc a b=>dH (zb.row c a b) λr rw' x y z=>⟨r,rw',x,k _ _ y,z⟩⟩
noncomputable def tX(s q:Nat)(s0 s1 k1 k2 k3 k4 k5 k6 e:Int):Except Int Int:=if qZ q s (if s=0 then s0 else s1) (bitOr s0 s1) k1 k2 k3 k4 k5 k6 then .error 1 else .ok e
noncomputable def tY(s q:Nat)(bd:List Int)(CV ep s0 s1 k1 k2 k3 k4 k5 k6:Int):Except Int Int:=
 if(dD s0 s1 k6&&gQ k1)=true then
  if gT CV bd=true then
   if 0<=ep then
    if iz bd s ep=true then tX s q s0 s1 k1 k2 k3 k4 k5 k6 (if iW s ep.toNat (if s=0 then s0 else s1) k1=true then ep else-1)
    else .error 3
   else tX s q s0 s1 k1 k2 k3 k4 k5 k6 (-1)
  else .error 2
 else .error 0
def zx(h0:Hp)(m g Z:Nat)(bd kd sds:List Int)(s:Nat)(CV half full:Int)(args:List V):Except Int Int->Prop
 |.error part=>∃(n:Nat)(h':Hp)(x:Bool)(fs:List (Nat×V)),Fun (m+12,none) h0 57 args (.exc n h')/\h'[n]? =some (.exc 2 x fs)/\aG 2 fs=some (.int part)/\Mono h0 h'
 |.ok e=>∃(h':Hp)(p b k sd hist:Nat)(key:Int),Fun (m+12,none) h0 57 args (.ok (.ref p) h')/\PosAt h' p g Z b k sd hist bd kd sds s CV e half full key/\Mono h0 h'
def ExRes(h0:Hp)(m g Z:Nat)(bd kd sds:List Int)(s:Nat)(CV half full:Int)(CT:Env)(h:Hp)(ss:List S):Except Int Int->Prop
 |.error part=>∃(n:Nat)(h':Hp)(x:Bool)(fs:List (Nat×V))(C4:Env),Exs (m+12,none) CT h ss (.exc n C4 h')/\h'[n]? =some (.exc 2 x fs)/\aG 2 fs=some (.int part)/\Mono h0 h'
 |.ok e=>∃(h':Hp)(p b k sd hist:Nat)(key:Int)(C4:Env),Exs (m+12,none) CT h ss (.ok (.ret (.ref p)) C4 h')/\PosAt h' p g Z b k sd hist bd kd sds s CV e half full key/\Mono h0 h'
theorem ExRes.pre{h0:Hp}{m g Z:Nat}{bd kd sds:List Int}{s:Nat}{CV half full:Int}{CT env2:Env}{h h2:Hp}{ss ss2:List S}{r:Except Int Int}(k:∀rs,Exs (m+12,none) env2 h2 ss2 rs->Exs (m+12,none) CT h ss rs)
 (H:ExRes h0 m g Z bd kd sds s CV half full env2 h2 ss2 r):ExRes h0 m g Z bd kd sds s CV half full CT h ss r:=by
 cases r with
 |error part=>refine cV H λn h' x fs C4 a b=>?_;clear H;exact⟨n,h',x,fs,C4,k _ a,b⟩
 |ok e=>obtain⟨h',p,b,kk,sd,hist,key,C4,a,c⟩:=H;exact⟨h',p,b,kk,sd,hist,key,C4,k _ a,c⟩
theorem ExRes.raise{h0:Hp}{m g Z:Nat}{bd kd sds:List Int}{s:Nat}{CV half full:Int}{CT:Env}{h:Hp}{ss:List S}{part:Int}{t:List Nat}(mono:Mono h0 h)
 (k:∀C4:Env,Exs (m+12,none) CT h [.raise (.new 2 [.int part,.str t])] (.exc h.length CT (h++[.exc 2 false [(0,.str t),(2,.int part)]]))->Exs (m+12,none) CT h ss (.exc h.length CT (h++[.exc 2 false [(0,.str t),(2,.int part)]]))):
 ExRes h0 m g Z bd kd sds s CV half full CT h ss (.error part):=by
 have F:∀(m:Nat)(o:Option Nat)(t':List Nat)(q':Int),Fun (m+1,o) (h++[if true then .exc 2 false []else .inst 2 []]) 6 [.ref h.length,.int q',.str t'] (.ok .none (h++[.exc 2 false [(0,.str t'),(2,.int q')]])):=λm o t' q'=>bz
 exact⟨_,_,_,_,_,k CT (.exc (.raise (.new rfl rfl (.cons .int (.cons .str .nil)) rfl (F (m+10) _ _ _)) last_get)),last_get,rfl,Mono.app mono⟩
section
variable{h0 h:Hp}{m g RM RR Kr Kn P Cs p0 p1 Z N rE rR fb:Nat}{gfs:List (Nat×V)}{rr rows lr le:List V}{zs CV ep half full k0 k1 k2 k3 k4 k5 k6 s0 s1:Int}{bd:List Int}{s q:Nat}
noncomputable def bpTail:List S:=f_build_position.body.drop 10
theorem nF(G:GeoF h0 g RM RR Kr Kn P Cs p0 p1 gfs rr)(zb:Zob h0 Z N rE rR zs rows)(hR:h0[rR]? =some (.list lr)) (aR:cy lr=true) (nR:lr.length=16) (hE:h0[rE]? =some (.list le)) (aE:cy le=true) (nE:le.length=6)
 (lb:bd.length=30) (eP:∀c∈bd,ey c) (hs2:s<2) (r0:0<=CV) (r1:CV<16) {p b k sd hist:Nat} {key e:Int} (hq:q<30) (eq:bitAnd (if 1-s=0 then s0 else s1) k6=2^q) {CT:Env}
 (v9:CT[9]? =some (some (.ref p))) (v6:CT[6]? =some (some (.int s))) (nd:[p,b,k,sd].Nodup) (Q:PosAt h p g Z b k sd hist bd [k0,k1,k2,k3,k4,k5,k6] [s0,s1] s CV e half full key)
 (mono:Mono h0 h) (np:h0.length<=p):
 ExRes h0 m g Z bd [k0,k1,k2,k3,k4,k5,k6] [s0,s1] s CV half full CT h bpTail (tX s q s0 s1 k1 k2 k3 k4 k5 k6 e):=by
 have lt:∀(n:Nat)(o:O),h0[n]? =some o->n≠p:=λn o e=>by have:=(Dr.mp e).1;exact Et (DA this np)
 have fm:0<=e.fmod 6/\e.fmod 6<6:=⟨Fa _ (by decide),Fx _ (by decide)⟩
 have F28:∃key:Int,∀m,Fun (m,none) h 28 [.ref p] (.ok (.int key) h):=by
  exact state_key Q.hp (zb.mono mono).hZ (mono _ _ hR) (by rw[nR];rfl) r0 (dq aR (i:=CV.toNat) (by rw[nR];exact Dt.mp (ao [CV.toNat,CV] [(.lt (.v 1) (.n 16),1),(.eq (.v 0) (.v 1),1)] (.lt (.v 0) (.n 16)) 1 rfl r1 (DH r0)))) (mono _ _ hE) (by(exists nE);rfl) (mono _ _ G.obj) G.f3 fm.1 (dq aE (i:=(e.fmod 6).toNat) (by(exists nE);exact Dt.mp (ao [Nat.cast ((e.fmod 6).toNat),e.fmod 6] [(.lt (.v 1) (.n 6),1),(.eq (.v 0) (.v 1),1)] (.lt (.v 0) (.n 6)) 1 rfl fm.2 (DH fm.1))))
 obtain⟨k28,F28⟩:=F28
 obtain⟨k29,F29⟩:=full_key (m:=m+8) Q (zb.mono mono) lb eP F28
 refine bi (settle_key Q nd F29) λh1 F34 Q1 f1 l1=>?_
 have mono1:Mono h0 h1:=λn o e=>(f1 n (lt n o e)).trans (mono n o e)
 have ht:1-s<2:=by exact EB (Fd _ _)
 have C:=tW (m:=m+4) (G.mono mono1) Q1 ht hq eq
 have e1:1-(1-s)=s:=uF (by assumption)
 rw[e1]at C
 have e2:((1-s:Nat):Int)=1-(s:Int):=uG (by assumption)
 rw[e2]at C
 have pre:∀{ss:List S}{rs:RS},Exs (m+12,none) CT h1 ss rs->Exs (m+12,none) CT h (.expr (.call 34 [.C8 9])::ss) rs:=λR=>.cons (.expr (.call (.cons (.C8 v9) .nil) F34)) R
 unfold tX
 cases a:qZ q s (if s=0 then s0 else s1) (bitOr s0 s1) k1 k2 k3 k4 k5 k6 with
 |true=>
  exists(if_pos rfl)
  rw[a]at C
  refine ExRes.pre (env2:=CT) (h2:=h1) (ss2:=bpTail.tail) (λrs R=>pre R) (ExRes.raise (t:=[116,104,101,32,115,105,100,101,32,116,111,32,109,111,118,101,32,99,111,117,108,100,32,116,97,107,101,32,116,104,101,32,107,105,110,103]) mono1 λC4 H=>?_)
  exact .exc (.Db (.call (.cons (.C8 v9) (.cons (.bin .int (.C8 v6) rfl) .nil)) C) rfl H)
 |false=>
  exists(if_neg Do)
  rw[a]at C
  exact⟨h1,p,b,k,sd,hist,k29,_,pre (.cons (.Da (.call (.cons (.C8 v9) (.cons (.bin .int (.C8 v6) rfl) .nil)) C) rfl .nil) (.ret (.ret (.C8 v9)))),Q1,mono1⟩
end
section
variable{h0:Hp}{m g RM RR Kr Kn P Cs p0 p1 Z N rE rR fb:Nat}{gfs:List (Nat×V)}{rr rows lr le:List V}{zs CV ep half full k0 k1 k2 k3 k4 k5 k6 s0 s1:Int}{bd:List Int}{s q:Nat}
theorem build_position(G:GeoF h0 g RM RR Kr Kn P Cs p0 p1 gfs rr)(zb:Zob h0 Z N rE rR zs rows)(hR:h0[rR]? =some (.list lr)) (aR:cy lr=true) (nR:lr.length=16) (hE:h0[rE]? =some (.list le)) (aE:cy le=true) (nE:le.length=6)
 (hf:h0[fb]? =some (.list (bd.map .int))) (lb:bd.length=30) (eP:∀c∈bd,ey c) (hs2:s<2) (rt0:0<=CV) (rt1:CV<16) (e1:ep<30) (hkd:nW bd 30=[k0,k1,k2,k3,k4,k5,k6]) (hsd:pe bd 30=[s0,s1])
 (r0:0<=bitAnd s0 k6) (u0:bitAnd s0 k6<4294967296) (r1:0<=bitAnd s1 k6) (u1:bitAnd s1 k6<4294967296) (r2:0<=bitAnd k1 (bitOr 63 1056964608)) (u2:bitAnd k1 (bitOr 63 1056964608)<4294967296)
 (hq:q<30) (eq:dD s0 s1 k6=true->bitAnd (if 1-s=0 then s0 else s1) k6=2^q):
 zx h0 m g Z bd [k0,k1,k2,k3,k4,k5,k6] [s0,s1] s CV half full [.tup [.ref fb,.int s,.int CV,.int ep],.int half,.int full,.ref g,.ref Z] (tY s q bd CV ep s0 s1 k1 k2 k3 k4 k5 k6):=by
 refine jr (vZ (m:=m+8) (CZ:=(s:Int)) (CV:=CV) (ep:=ep) (half:=half) (full:=full) G zb hf lb eP) λh5 p b k sd hist key y10 nd Q mono new start=>?_
 rw[hkd,hsd]at Q
 have G5:=G.mono mono
 have np:h0.length<=p:=new p (by simp)
 have sd01:(s:Int)=0\/(s:Int)=1:=(or2 hs2).imp (Ds Int.ofNat) (Ds Int.ofNat)
 have lastb:∀(t:List Nat)(qq:Int)(o:O),(dz h5 t qq++[o])[h5.length+1]? =some o:=λt qq o=>by
  have:(dz h5 t qq).length=h5.length+1:=by simp[dz]
  refine bt this ?_;exact last_get
 generalize hE0:sy (some (.tup [.ref fb,.int s,.int CV,.int ep])) (some (.int half)) (some (.int full)) (some (.ref g)) (some (.ref Z)) fb (some (.int s)) (some (.int CV)) (some (.int ep)) p y10=CT at start
 have v9:CT[9]? =some (some (.ref p)):=by(refine bt hE0 ?_);rfl
 have v8:CT[8]? =some (some (.int ep)):=by(refine bt hE0 ?_);rfl
 have v6:CT[6]? =some (some (.int s)):=by(refine bt hE0 ?_);rfl
 clear hE0
 have key0:ExRes h0 m g Z bd [k0,k1,k2,k3,k4,k5,k6] [s0,s1] s CV half full CT h5 bpRest (tY s q bd CV ep s0 s1 k1 k2 k3 k4 k5 k6):=by
  unfold tY
  rcases q7 (m:=m+5) G5 Q r0 u0 r1 u1 r2 u2 with⟨c,F⟩|⟨c,t,qq,F⟩
  ·exists(if_pos c)
   have kb:=eq (by replace c:=and2 c;exact c.1)
   have pre1:∀{ss:List S}{rs:RS},Exs (m+12,none) CT h5 ss rs->Exs (m+12,none) CT h5 (.expr (.call 55 [.C8 9])::ss) rs:=λR=>.cons (.expr (.call (.cons (.C8 v9) .nil) F)) R
   rcases tU (m:=m+6) G5 Q lb rt0 rt1 with⟨c2,F2⟩|⟨c2,t,qq,F2⟩
   ·exists(if_pos c2)
    have F2:=kz (m:=m+8) F2
    refine ExRes.pre (ss2:=bpRest.drop 2) (h2:=h5) (env2:=CT)
     (λrs R=>pre1 (.cons (.expr (.call (.cons (.C8 v9) .nil) F2)) R)) ?_
    by_cases ge:0<=ep
    ·exists(if_pos ge)
     have dg:decide (0<=ep)=true:=DX ge
     have S:=q8 (m:=m+10) G5 Q lb sd01 ge e1
     cases st:iz bd s ep with
     |false=>
      exists(if_neg Do)
      rw[st]at S
      refine ExRes.raise (t:=[110,111,32,112,97,119,110,32,104,97,115,32,112,97,115,115,101,100,32,111,118,101,114,32,116,104,105,115,32,115,113,117,97,114,101]) mono λC4 H=>?_
      exact .exc (.Db (.Df (.C8 v8) .int rfl) (Ds some dg) (.exc (.Db (.not (.call (.cons (.C8 v9) (.cons (.C8 v8) .nil)) S) rfl) rfl H)))
     |true=>
      exists(if_pos rfl)
      rw[st]at S
      obtain⟨sq,rfl⟩:∃sq:Nat,ep=(sq:Int):=⟨ep.toNat,by exact Eq.symm (DH ge)⟩
      have A:=tV (m:=m+10) G5 hs2 Q (sq:=sq) (by exact Dt.mp (ao [sq] [(.lt (.v 0) (.n 30),1)] (.lt (.v 0) (.n 30)) 1 rfl e1))
      have tn:((sq:Nat):Int).toNat=sq:=rfl
      exists tn
      cases at_:iW s sq (if s=0 then s0 else s1) k1 with
      |false=>
       exists(if_neg Do)
       rw[at_]at A
       exact ExRes.pre (λrs R=>.cons (.Db (.Df (.C8 v8) .int rfl) (Ds some dg) (.cons (.Da (.not (.call (.cons (.C8 v9) (.cons (.C8 v8) .nil)) S) rfl) rfl .nil) (.cons (.Da (.call (.cons (.C8 v9) (.cons (.C8 v8) .nil)) A) rfl .nil) .nil))) R)
        (nF G zb hR aR nR hE aE nE lb eP hs2 rt0 rt1 hq kb v9 v6 nd Q mono np)
      |true=>
       exists(if_pos rfl)
       rw[at_]at A
       refine bi (gy (s':=(s:Int)) (r':=CV) (e':=(sq:Int)) (a':=half) (f':=full) (k':=key) (fs:=[]) Q nd 19 (.int sq) rfl) λh6 S6 Q6 f6 l6=>?_
       have mono6:Mono h0 h6:=λn o e=>(f6 n (by have:=(Dr.mp e).1;exact Et (DA this np))).trans (mono n o e)
       exact ExRes.pre (λrs R=>.cons (.Db (.Df (.C8 v8) .int rfl) (Ds some dg) (.cons (.Da (.not (.call (.cons (.C8 v9) (.cons (.C8 v8) .nil)) S) rfl) rfl .nil) (.cons (.Db (.call (.cons (.C8 v9) (.cons (.C8 v8) .nil)) A) rfl (.cons (.Dd (.C8 v8) (.C8 v9) S6) .nil)) .nil))) R)
        (nF G zb hR aR nR hE aE nE lb eP hs2 rt0 rt1 hq kb v9 v6 nd Q6 mono6 np)
    ·exists(if_neg ge)
     have dg:decide (0<=ep)=false:=D9 ge
     exact ExRes.pre (λrs R=>.cons (.Da (.Df (.C8 v8) .int rfl) (Ds some dg) .nil) R) (nF G zb hR aR nR hE aE nE lb eP hs2 rt0 rt1 hq kb v9 v6 nd Q mono np)
   ·exists(if_neg (by rw[c2];exact Do))
    have F2:=jz (m:=m+8) F2
    exact⟨_,_,_,_,_,pre1 (.exc (.Dk (.call (.cons (.C8 v9) .nil) F2))),lastb t qq _,rfl,λn o e=>au (au (mono n o e))⟩
  ·exists(if_neg (by rw[c];exact Do))
   exact⟨_,_,_,_,_,.exc (.Dk (.call (.cons (.C8 v9) .nil) F)),lastb t qq _,rfl,λn o e=>au (au (mono n o e))⟩
 have key1:=ExRes.pre (λrs R=>start rs R) key0
 revert key1
 cases tY s q bd CV ep s0 s1 k1 k2 k3 k4 k5 k6 with
 |error part=>exact λz=>cV z λn h' x fs C4 a b=>⟨n,h',x,fs,Fun.exc rfl rfl a,b⟩
 |ok e=>exact λz=>mE z λh' p b k sd hist key C4 a c=>⟨h',p,b,k,sd,hist,key,Fun.ret rfl rfl a,c⟩
end
def v0(h:Hp)(L:Nat)(T:List O):Prop:=∀(i:Nat)(o:O),T[i]? =some o->h[L+i]? =some o
theorem pi{pre T:Hp}:v0 (pre++T) pre.length T:=λi o e=>by
 rw[FT (Ey _ _),Nat.add_sub_cancel_left];exact e
noncomputable def BO(L:Nat):List (Nat×V):=match(aM L)[(0:Nat)]? with
 |some (.inst _ fs)=>fs
 |_=>[]
noncomputable def Cz(L:Nat):List V:=match(aM L)[(3:Nat)]? with
 |some (.list xs)=>xs
 |_=>[]
theorem v7{h:Hp}{L:Nat}(H:v0 h L (aM L)):GeoF h L (L+2) (L+3) (L+12) (L+5) (L+8) (L+9) (L+6) (L+7) (BO L) (Cz L) where
 obj:=H 0 _ rfl
 f3:=rfl
 f4:=rfl
 f5:=rfl
 f7:=rfl
 f10:=rfl
 f11:=rfl
 f12:=rfl
 f13:=rfl
 f14:=rfl
 f15:=rfl
 rm:=H 2 _ rfl
 rays:=H 3 _ rfl
 rl:=rfl
 ray:=λd hd=>by
  rcases CI (by assumption:d<8)with rfl|rfl|rfl|rfl|rfl|rfl|rfl|rfl
  ·exact⟨_,rfl,H 14 _ rfl⟩
  ·exact⟨_,rfl,H 16 _ rfl⟩
  ·exact⟨_,rfl,H 18 _ rfl⟩
  ·exact⟨_,rfl,H 20 _ rfl⟩
  ·exact⟨_,rfl,H 22 _ rfl⟩
  ·exact⟨_,rfl,H 24 _ rfl⟩
  ·exact⟨_,rfl,H 26 _ rfl⟩
  ·exact⟨_,rfl,H 28 _ rfl⟩
 king:=H 12 _ rfl
 knight:=H 5 _ rfl
 pawn:=H 8 _ rfl
 pw0:=H 6 _ rfl
 pw1:=H 7 _ rfl
 cs:=H 9 _ rfl
noncomputable def dN(k:Nat):List V:=match(bC 0)[k]? with
 |some (.list xs)=>xs
 |_=>[]
noncomputable def AP(L:Nat):List V:=match(bC L)[(1:Nat)]? with
 |some (.list xs)=>xs
 |_=>[]
theorem yH:∀k:Nat,k<12->cy (dN ([3,4,5,6,7,8,11,12,13,14,15,16].getD k 0))=true/\(dN ([3,4,5,6,7,8,11,12,13,14,15,16].getD k 0)).length=30:=by decide+kernel
theorem cA{h:Hp}{rows:List V}{c:Int}{r k:Nat}(hk:k<12)(a:rows[c.toNat]? =some (.ref r)) (b:h[r]? =some (.list (dN ([3,4,5,6,7,8,11,12,13,14,15,16].getD k 0)))):
 ∃(r:Nat)(rw:List V),rows[c.toNat]? =some (.ref r)/\h[r]? =some (.list rw)/\ae rw.length=true/\∀i,i<30->∃z:Int,rw[i]? =some (.int z):=by
 refine aA (yH k hk) λx y=>?_
 exact⟨r,_,a,b,by(exists y);rfl,λi hi=>⟨_,dq x (by(exists y);exact hi)⟩⟩
theorem AQ{h:Hp}{L:Nat}(H:v0 h (L+31) (bC L)):Zob h (L+51) (L+32) (L+48) (L+50) 7144484368358846378 (AP L) where
 hZ:=H 20 _ rfl
 hN:=H 1 _ rfl
 lN:=rfl
 row:=λc g ne=>by
  rcases g with g|⟨g1,g2,g3,g4,_⟩
  ·exact absurd g ne
  rcases(by lia:c=1\/c=2\/c=3\/c=4\/c=5\/c=6\/c=7\/c=8\/c=9\/c=10\/c=11\/c=12\/c=13\/c=14)with rfl|rfl|rfl|rfl|rfl|rfl|rfl|rfl|rfl|rfl|rfl|rfl|rfl|rfl
  ·exact cA (k:=0) (by decide) rfl (H 3 _ rfl)
  ·exact cA (k:=1) (by decide) rfl (H 4 _ rfl)
  ·exact cA (k:=2) (by decide) rfl (H 5 _ rfl)
  ·exact cA (k:=3) (by decide) rfl (H 6 _ rfl)
  ·exact cA (k:=4) (by decide) rfl (H 7 _ rfl)
  ·exact cA (k:=5) (by decide) rfl (H 8 _ rfl)
  ·exact absurd g4 (by decide+kernel)
  ·exact absurd g3 (by decide+kernel)
  ·exact cA (k:=6) (by decide) rfl (H 11 _ rfl)
  ·exact cA (k:=7) (by decide) rfl (H 12 _ rfl)
  ·exact cA (k:=8) (by decide) rfl (H 13 _ rfl)
  ·exact cA (k:=9) (by decide) rfl (H 14 _ rfl)
  ·exact cA (k:=10) (by decide) rfl (H 15 _ rfl)
  ·exact cA (k:=11) (by decide) rfl (H 16 _ rfl)
theorem tZ{h:Hp}{L:Nat}(H:v0 h (L+31) (bC L)):h[L+50]? =some (.list (dN 19))/\h[L+48]? =some (.list (dN 17)):=⟨H 19 _ rfl,H 17 _ rfl⟩
theorem wa:cy (dN 19)=true/\(dN 19).length=16/\cy (dN 17)=true/\(dN 17).length=6:=by decide+kernel
theorem cx(a b:Nat):bitAnd (a:Int) (b:Int)=((a&&&b:Nat):Int):=by
 exists(PyProof.Rows.bitAnd_pp (by exact Dq _) (by exact Dq _));rfl
theorem iX(x:Int):bitNot (bitNot x)=x:=by unfold bitNot;exact D8 (ao [x] [] (.le (.s (.g (.s (.g (.v 0)) (.n 1))) (.n 1)) (.v 0)) 1 rfl) (ao [x] [] (.le (.v 0) (.s (.g (.s (.g (.v 0)) (.n 1))) (.n 1))) 1 rfl)
theorem bS(a b:Nat):bitOr (a:Int) (b:Int)=((a|||b:Nat):Int):=by
 unfold bitOr
 rw[PyProof.Rows.bitAnd_nn (by unfold bitNot;exact Em.mpr (ao [a] [(.le (.n 0) (.v 0),1)] (.lt (.s (.g (.v 0)) (.n 1)) (.n 0)) 1 rfl (Dq _))) (by unfold bitNot;exact Em.mpr (ao [b] [(.le (.n 0) (.v 0),1)] (.lt (.s (.g (.v 0)) (.n 1)) (.n 0)) 1 rfl (Dq _))),iX,iX,iX];rfl
theorem nG(n:Nat):(1:Int)*2^n=((2^n:Nat):Int):=by rw[Int.one_mul];simp
noncomputable def cj(f:Nat->Bool):Nat->Nat
 |0=>0
 |n+1=>if f n then cj f n|||2^n else cj f n
theorem d8(f:Nat->Bool):∀n i,(cj f n).testBit i=(decide (i<n)&&f i):=by
 intro n
 induction n with
 |zero=>exact λi=>by simp[cj]
 |succ n ih=>
  intro i
  unfold cj
  split
  ·rename_i h
   rw[En,ih,E6]
   by_cases e:n=i
   ·subst e;simp[h]
   ·have:decide (i<n+1)=decide (i<n):=by simp;lia
    rw[this];simp[e]
  ·rename_i h
   rw[ih]
   by_cases e:i=n
   ·subst e;simp[h]
   ·have:decide (i<n+1)=decide (i<n):=by simp;lia
    rw[this]
theorem iA(f:Nat->Bool)(n:Nat):cj f n<2^n:=by
 apply Gf
 intro h
 refine ai (Nat.exists_ge_and_testBit_of_ge_two_pow h) λi hi ht=>?_
 rw[d8]at ht
 simp at ht
 lia
noncomputable def jo(bd:List Int)(κ i:Nat):Bool:=bA bd i !=0&&(bitAnd (bA bd i) 7).toNat==κ
noncomputable def jp(bd:List Int)(σ i:Nat):Bool:=bA bd i !=0&&((bA bd i).fdiv (2^3)).toNat==σ
theorem wb{bd:List Int}:∀n κ,κ<7->(nW bd n)[κ]? =some ((cj (jo bd κ) n:Nat):Int):=by
 intro n
 induction n with
 |zero=>
  intro κ h
  show(List.replicate 7 (0:Int))[κ]? =_
  exists HL,(if_pos h);rfl
 |succ n ih=>
  intro κ h
  have ih:=ih κ h
  show(qW (nW bd n) (bA bd n) n)[κ]? =_
  unfold qW cj jo
  by_cases z:bA bd n=0
  ·exists(if_pos z),ih
   exists z;rfl
  ·rw[if_neg z]
   have z':(bA bd n !=0)=true:=by simpa using z
   rw[z',Ec]
   by_cases e:(bitAnd (bA bd n) 7).toNat=κ
   ·rw[e,DG (by rw[jM];exact h),ih,if_pos (by simp)]
    show some (bitOr _ (1*2^n))=_
    rw[nG,Hd,bS];rfl
   ·rw[DB e,ih,if_neg (by simpa using e)];rfl
theorem wc{bd:List Int}:∀n σ,σ<2->(pe bd n)[σ]? =some ((cj (jp bd σ) n:Nat):Int):=by
 intro n
 induction n with
 |zero=>
  intro σ h
  show([0,0]:List Int)[σ]? =_
  rcases(by exact or2 h:σ=0\/σ=1)with rfl|rfl<;>rfl
 |succ n ih=>
  intro σ h
  have ih:=ih σ h
  show(qX (pe bd n) (bA bd n) n)[σ]? =_
  unfold qX cj jp
  by_cases z:bA bd n=0
  ·exists(if_pos z),ih
   exists z;rfl
  ·rw[if_neg z]
   have z':(bA bd n !=0)=true:=by simpa using z
   rw[z',Ec]
   by_cases e:((bA bd n).fdiv (2^3)).toNat=σ
   ·rw[e,DG (by rw[jN];exact h),ih,if_pos (by simp)]
    show some (bitOr _ (1*2^n))=_
    rw[nG,Hd,bS];rfl
   ·rw[DB e,ih,if_neg (by simpa using e)];rfl
noncomputable def digs:List Nat:=[48,49,50,51,52,53,54,55,56,57]
noncomputable def kA(acc:Int):List Nat->Option Int
 |[]=>some acc
 |c::r=>if ac c digs 0<0 then none else kA (acc*10+ac c digs 0) r
noncomputable def aS:List Nat->Int
 |[]=> -1
 |c::r=>if([c]==[48]&&decide ((1:Int)<((c::r).length:Nat)))=true then-1 else(kA 0 (c::r)).getD (-1)
section
variable{h:Hp}{m:Nat}
noncomputable abbrev we:List S:=[.C9 3 (.meth .find (.gv 16) [.C8 2]),.iff (.cmp (.C8 3) [.lt] [.int 0]) [.ret (some (.neg (.int 1)))] [],.C9 1 (.bin .add (.bin .mul (.C8 1) (.int 10)) (.C8 3))]
theorem wf{x0:Option V}:∀(r:List Nat)(acc:Int)(x2 x3:Option V),(∀v,kA acc r=some v->∃y2 y3,Lp (m,none) [x0,some (.int acc),x2,x3] h 2 (.str r) we (.ok .next [x0,some (.int v),y2,y3] h))/\
 (kA acc r=none->∃C4,Lp (m,none) [x0,some (.int acc),x2,x3] h 2 (.str r) we (.ok (.ret (.int (-1))) C4 h)):=by
 intro r
 induction r with
 |nil=>exact λacc x2 x3=>⟨λv e=>by cases e;exact⟨x2,x3,Lp.fin rfl⟩,λe=>by cases e⟩
 |cons c r ih=>
  intro acc x2 x3
  unfold kA
  obtain⟨a,b⟩:=ih (acc*10+ac c digs 0) (some (.str [c])) (some (.int (ac c digs 0)))
  by_cases z:ac c digs 0<0
  ·have d:decide (ac c digs 0<0)=true:=DX z
   exists(if_pos z)
   refine⟨λv e=>(by cases e),λ_=>⟨_,Lp.ret rfl (.cons (.C9 (by k_all)) (.ret (.Db (by k_all) (by k_upd) (.ret (.ret (by k_all))))))⟩⟩
  ·have d:decide (ac c digs 0<0)=false:=D9 z
   exists(if_neg z)
   refine⟨λv e=>?_,λe=>?_⟩
   ·refine bE (a v e) λy2 y3 T=>?_
    exact⟨y2,y3,Lp.next rfl (.cons (.C9 (by k_all)) (.cons (.Da (by k_all) (by k_upd) .nil) (.cons (.C9 (by k_all)) .nil))) T⟩
   ·refine aB (b e) λC4 T=>?_
    exact⟨C4,Lp.next rfl (.cons (.C9 (by k_all)) (.cons (.Da (by k_all) (by k_upd) .nil) (.cons (.C9 (by k_all)) .nil))) T⟩
theorem plain_number{t:List Nat}(l:ae t.length=true):Fun (m+1,none) h 47 [.str t] (.ok (.int (aS t)) h):=by
 induction t using List.casesOn with
 |nil=>exact Fun.ret rfl rfl (.ret (.Db (by k_all) (by k_upd) (.ret (.ret (by k_all)))))
 |cons c r=>
  have gi0:getitem (.str (c::r)) (.int 0) h=.ok (.str [c]) h:=by
   show(if ae (c::r).length=true then _ else _)=_
   exists(if_pos l);rfl
  have ln:bcall .len [.str (c::r)] h=.ok (.int ((c::r).length:Nat)) h:=if_pos l
  exists(show aS (c::r)=if([c]==[48]&&decide ((1:Int)<((c::r).length:Nat)))=true then-1 else(kA 0 (c::r)).getD (-1)from rfl)
  have tail:∀{CT:Env},CT=[some (.str (c::r)),none,none,none]->∃C4,Exs (m+1,none) CT h (f_plain_number.body.drop 1) (.ok (.ret (.int ((kA 0 (c::r)).getD (-1)))) C4 h):=λ{CT} e=>by
   subst e
   refine aA (wf (h:=h) (m:=m) (x0:=some (.str (c::r))) (c::r) 0 none none) λa b=>?_
   cases q:kA 0 (c::r)with
   |some v=>
    refine bE (a v q) λy2 y3 T=>?_
    exact⟨_,.cons (.C9 .int) (.cons (.for (.C8 rfl) rfl T) (.ret (.ret (.C8 rfl))))⟩
   |none=>
    refine aB (b q) λC4 T=>?_
    exact⟨_,.cons (.C9 .int) (.ret (.for (.C8 rfl) rfl T))⟩
  cases e1:[c]==[48]with
  |false=>
   rw[EF,if_neg Do]
   refine aB (tail rfl) λC4 T=>?_
   exact Fun.ret rfl rfl (.cons (.Da (by k_all) (by k_upd) .nil) T)
  |true=>
   cases e2:decide ((1:Int)<((c::r).length:Nat))with
   |true=>(exists(if_pos (by rfl)));exact Fun.ret rfl rfl (.ret (.Db (by k_all) (by k_upd) (.ret (.ret (by k_all)))))
   |false=>
    exists(if_neg (by simp))
    refine aB (tail rfl) λC4 T=>?_
    exact Fun.ret rfl rfl (.cons (.Da (by k_all) (by k_upd) .nil) T)
end
def Fen(h:Hp)(m f:Nat)(args:List V)(part:Int):Prop:=∃t,Fun (m,none) h f args (.exc h.length (h++[.exc 2 false [(0,.str t),(2,.int part)]]))
section
variable{h:Hp}{m:Nat}
noncomputable def dA(t:List Nat):Option Nat:=if(t==[119])=true then some 0 else if(t==[98])=true then some 1 else none
theorem read_side{t:List Nat}:(∀s,dA t=some s->Fun (m+2,none) h 50 [.str t] (.ok (.int s) h))/\(dA t=none->Fen h (m+2) 50 [.str t] 1):=by
 have F:∀(m:Nat)(o:Option Nat)(t':List Nat)(q':Int),Fun (m+1,o) (h++[if true then .exc 2 false []else .inst 2 []]) 6 [.ref h.length,.int q',.str t'] (.ok .none (h++[.exc 2 false [(0,.str t'),(2,.int q')]])):=λm o t' q'=>bz
 unfold dA
 cases e1:t==[119]with
 |true=>exact⟨λs e=>by(rw[if_pos rfl]at e;cases e;exact Fun.ret rfl rfl (.ret (.Db (by k_all) (by k_upd) (.ret (.ret (by k_all)))))),λe=>by(rw[if_pos rfl]at e;cases e)⟩
 |false=>cases e2:t==[98]with
  |true=>exact⟨λs e=>by(rw[if_neg Do,if_pos rfl]at e;cases e;exact Fun.ret rfl rfl (.cons (.Da (by k_all) (by k_upd) .nil) (.ret (.Db (by k_all) (by k_upd) (.ret (.ret (by k_all))))))),λe=>by(rw[if_neg Do,if_pos rfl]at e;cases e)⟩
  |false=>exact⟨λs e=>by(rw[if_neg Do,if_neg Do]at e;cases e),λe=>⟨_,Fun.exc rfl rfl (.cons (.Da (by k_all) (by k_upd) .nil) (.cons (.Da (by k_all) (by k_upd) .nil) (.exc (.raise (by k_all) (by k_upd)))))⟩⟩
theorem eX{c:Nat}:∀(l:List Nat)(k:Nat),ac c l k<(k+l.length:Nat)\/ac c l k= -1:=by
 intro l
 induction l with
 |nil=>exact λk=>.inr rfl
 |cons x l ih=>
  intro k
  unfold ac
  split
  ·left;simp;exact ao [k,l.length] [(.le (.n 0) (.v 1),1)] (.lt (.v 0) (.a (.v 0) (.a (.v 1) (.n 1)))) 1 rfl (Dq _)
  ·rcases ih (k+1)with h|h
   ·left;(exists E7);exact ao [ac c l (k+1),k,l.length] [(.lt (.v 0) (.a (.a (.v 1) (.n 1)) (.v 2)),1)] (.lt (.v 0) (.a (.v 1) (.a (.v 2) (.n 1)))) 1 rfl h
   ·exact .inr h
theorem t9{c:Nat}:∀(l:List Nat)(k:Nat),ac c l k= -1\/(k:Int)<=ac c l k:=by
 intro l
 induction l with
 |nil=>exact λk=>.inl rfl
 |cons x l ih=>
  intro k
  unfold ac
  split
  ·exact .inr (Gv _)
  ·rcases ih (k+1)with h|h
   ·exact .inl h
   ·right;exact ao [k,ac c l (k+1)] [(.le (.a (.v 0) (.n 1)) (.v 1),1)] (.le (.v 0) (.v 1)) 1 rfl h
noncomputable def rLet:List Nat:=[75,81,107,113]
noncomputable def cO(rt last:Int):List Nat->Option Int
 |[]=>some rt
 |c::r=>if ac c rLet 0<=last then none else cO (bitOr rt (1*2^(ac c rLet 0).toNat)) (ac c rLet 0) r
noncomputable def bJ(t:List Nat):Option Int:=if(t==[45])=true then some 0 else match cO 0 (-1) t with
 |some v=>if v=0 then none else some v
 |none=>none
noncomputable abbrev wg:List S:=im f_read_rights.body 3
theorem pj{x0:Option V}:∀(r:List Nat)(rt last:Int)(x3 x4:Option V),-1<=last->(∀v,cO rt last r=some v->∃y2 y3 y4,Lp (m+2,none) [x0,some (.int rt),some (.int last),x3,x4] h 3 (.str r) wg (.ok .next [x0,some (.int v),y2,y3,y4] h))/\
 (cO rt last r=none->∃t C4,Lp (m+2,none) [x0,some (.int rt),some (.int last),x3,x4] h 3 (.str r) wg (.exc h.length C4 (h++[.exc 2 false [(0,.str t),(2,.int 2)]]))):=by
 intro r
 induction r with
 |nil=>exact λrt last x3 x4 n=>⟨λv e=>by cases e;exact⟨_,x3,x4,Lp.fin rfl⟩,λe=>by cases e⟩
 |cons c r ih=>
  intro rt last x3 x4 n
  have F:∀(m:Nat)(o:Option Nat)(t':List Nat)(q':Int),Fun (m+1,o) (h++[if true then .exc 2 false []else .inst 2 []]) 6 [.ref h.length,.int q',.str t'] (.ok .none (h++[.exc 2 false [(0,.str t'),(2,.int q')]])):=λm o t' q'=>bz
  unfold cO
  by_cases z:ac c rLet 0<=last
  ·have d:decide (ac c rLet 0<=last)=true:=DX z
   exists(if_pos z)
   refine⟨λv e=>(by cases e),λ_=>⟨_,_,Lp.exc rfl (.cons (.C9 (by k_all)) (.exc (.Db (by k_all) (by k_upd) (.exc (.raise (by k_all) (by k_upd))))))⟩⟩
  ·have d:decide (ac c rLet 0<=last)=false:=D9 z
   exists(if_neg z)
   have n0:0<=ac c rLet 0:=by exact ao [ac c rLet 0,last] [(.lt (.v 1) (.v 0),1),(.le (.g (.n 1)) (.v 1),1)] (.le (.n 0) (.v 0)) 1 rfl (Em.mp (of_decide_eq_false d)) n
   have n1:ac c rLet 0<=1000:=by
    rcases eX (c:=c) rLet 0 with h|h
    ·have:((0+rLet.length:Nat):Int)=4:=rfl
     exact Eh (ES h (by decide))
    ·lia
   refine aA (ih (bitOr rt (1*2^(ac c rLet 0).toNat)) (ac c rLet 0) (some (.str [c])) (some (.int (ac c rLet 0))) (by exact Eh (Fu n (Em.mp z)))) λa b=>?_
   refine⟨λv e=>?_,λe=>?_⟩
   ·refine iG (a v e) λy2 y3 y4 T=>?_
    exact⟨y2,y3,y4,Lp.next rfl (.cons (.C9 (by k_all)) (.cons (.Da (by k_all) (by k_upd) .nil) (by k_all))) T⟩
   ·refine bE (b e) λt C4 T=>?_
    exact⟨t,C4,Lp.next rfl (.cons (.C9 (by k_all)) (.cons (.Da (by k_all) (by k_upd) .nil) (by k_all))) T⟩
theorem read_rights{t:List Nat}:(∀v,bJ t=some v->Fun (m+3,none) h 51 [.str t] (.ok (.int v) h))/\(bJ t=none->Fen h (m+3) 51 [.str t] 2):=by
 have F:∀(m:Nat)(o:Option Nat)(t':List Nat)(q':Int),Fun (m+1,o) (h++[if true then .exc 2 false []else .inst 2 []]) 6 [.ref h.length,.int q',.str t'] (.ok .none (h++[.exc 2 false [(0,.str t'),(2,.int q')]])):=λm o t' q'=>bz
 unfold bJ
 cases e1:t==[45]with
 |true=>exact⟨λs e=>by(rw[if_pos rfl]at e;cases e;exact Fun.ret rfl rfl (.ret (.Db (by k_all) (by k_upd) (.ret (.ret (by k_all)))))),λe=>by(rw[if_pos rfl]at e;cases e)⟩
 |false=>
  exists(if_neg Do)
  refine aA (pj (h:=h) (m:=m) (x0:=some (.str t)) t 0 (-1) none none (by exact Gv _)) λa b=>?_
  cases q:cO 0 (-1) t with
  |none=>
   refine bE (b q) λtt C4 T=>?_
   exact⟨λv e=>(by cases e),λ_=>⟨tt,Fun.exc rfl rfl (.cons (.Da (by k_all) (by k_upd) .nil) (.cons (.C9 (by k_all)) (.cons (.C9 (by k_all)) (.exc (.for (by k_all) rfl T)))))⟩⟩
  |some v=>
   refine iG (a v q) λy2 y3 y4 T=>?_
   dsimp only
   by_cases z:v=0
   ·have z':(v==0)=true:=by simpa using z
    exists(if_pos z)
    exact⟨λv e=>(by cases e),λ_=>⟨_,Fun.exc rfl rfl (.cons (.Da (by k_all) (by k_upd) .nil) (.cons (.C9 (by k_all)) (.cons (.C9 (by k_all)) (.cons (.for (by k_all) rfl T) (.exc (.Db (by k_all) (by k_upd) (.exc (.raise (by k_all) (by k_upd)))))))))⟩⟩
   ·have z':(v==0)=false:=by simpa using z
    exists(if_neg z)
    exact⟨λv' e=>(by cases e;exact Fun.ret rfl rfl (.cons (.Da (by k_all) (by k_upd) .nil) (.cons (.C9 (by k_all)) (.cons (.C9 (by k_all)) (.cons (.for (by k_all) rfl T) (.cons (.Da (by k_all) (by k_upd) .nil) (.ret (.ret (.C8 rfl))))))))),λe=>(by cases e)⟩
end
section
variable{h:Hp}{m:Nat}
noncomputable def fLet:List Nat:=[97,98,99,100,101,102,103,104]
noncomputable def rLt8:List Nat:=[49,50,51,52,53,54,55,56]
noncomputable def nH(f r:Int):Int:=if(decide (f<0)||decide (6<=f)||decide (r<0)||decide (5<=r))=true then-1 else r*6+f
noncomputable def cf(t:List Nat):Int:=zu (-1) (λa b=>nH (ac a fLet 0) (ac b rLt8 0)) t
theorem read_square{t:List Nat}(l:ae t.length=true):Fun (m,none) h 46 [.int 6,.int 5,.str t] (.ok (.int (cf t)) h):=by
 have ln:bcall .len [.str t] h=.ok (.int (t.length:Nat)) h:=if_pos l
 cases e:((t.length:Nat):Int) !=2 with
 |true=>
  have:cf t= -1:=pb λq=>GQ.mp e (Ds Int.ofNat q)
  exists this
  exact Fun.ret rfl rfl (.ret (.Db (by k_all) (by k_upd) (.ret (.ret (by k_all)))))
 |false=>
  refine bj (Fp (Il.mp e)) λa r e0 l0=>bj l0 λb r e1 l1=>?_
  cases EL l1;subst e1;subst e0
  have ga0:getitem (.str [a,b]) (.int 0) h=.ok (.str [a]) h:=rfl
  have gb0:getitem (.str [a,b]) (.int 1) h=.ok (.str [b]) h:=rfl
  show Fun _ h 46 _ (.ok (.int (nH (ac a fLet 0) (ac b rLt8 0))) h)
  have pre:∀{rs:RS},Exs (m,none) [some (.int 6),some (.int 5),some (.str [a,b]),some (.int (ac a fLet 0)),some (.int (ac b rLt8 0))] h (f_read_square.body.drop 3) rs->Exs (m,none) [some (.int 6),some (.int 5),some (.str [a,b]),none,none] h f_read_square.body rs:=
   λR=>.cons (.Da (by k_all) (by k_upd) .nil) (.cons (.C9 (by k_all)) (.cons (.C9 (by k_all)) R))
  generalize ac a fLet 0=f at pre
  generalize ac b rLt8 0=r at pre
  unfold nH
  cases d1:decide (f<0)with
  |true=>(exists(if_pos (by rfl)));exact Fun.ret rfl rfl (pre (.ret (.Db (.or (by k_all)) (by k_upd) (.ret (.ret (by k_all))))))
  |false=>cases d2:decide (6<=f)with
   |true=>(exists(if_pos (by rfl)));exact Fun.ret rfl rfl (pre (.ret (.Db (.or (by k_all)) (by k_upd) (.ret (.ret (by k_all))))))
   |false=>cases d3:decide (r<0)with
    |true=>(exists(if_pos (by rfl)));exact Fun.ret rfl rfl (pre (.ret (.Db (.or (by k_all)) (by k_upd) (.ret (.ret (by k_all))))))
    |false=>cases d4:decide (5<=r)with
     |true=>(exists(if_pos (by rfl)));exact Fun.ret rfl rfl (pre (.ret (.Db (.or (by k_all)) (by k_upd) (.ret (.ret (by k_all))))))
     |false=>(exists(if_neg (by simp)));exact Fun.ret rfl rfl (pre (.cons (.Da (.or (by k_all)) (by k_upd) .nil) (.ret (.ret (by k_all)))))
noncomputable def uy(t:List Nat):Option Int:=if(t==[45])=true then some (-1)else if cf t<0 then none else some (cf t)
theorem read_ep{t:List Nat}(l:ae t.length=true):(∀v,uy t=some v->Fun (m+2,none) h 52 [.str t,.int 6,.int 5] (.ok (.int v) h))/\(uy t=none->Fen h (m+2) 52 [.str t,.int 6,.int 5] 3):=by
 have F:∀(m:Nat)(o:Option Nat)(t':List Nat)(q':Int),Fun (m+1,o) (h++[if true then .exc 2 false []else .inst 2 []]) 6 [.ref h.length,.int q',.str t'] (.ok .none (h++[.exc 2 false [(0,.str t'),(2,.int q')]])):=λm o t' q'=>bz
 have S:∀m,Fun (m,none) h 46 [.int 6,.int 5,.str t] (.ok (.int (cf t)) h):=λm=>read_square l
 unfold uy
 cases e1:t==[45]with
 |true=>exact⟨λs e=>by(rw[if_pos rfl]at e;cases e;exact Fun.ret rfl rfl (.ret (.Db (by k_all) (by k_upd) (.ret (.ret (by k_all)))))),λe=>by(rw[if_pos rfl]at e;cases e)⟩
 |false=>
  exists(if_neg Do)
  by_cases z:cf t<0
  ·have d:decide (cf t<0)=true:=DX z
   exists(if_pos z)
   exact⟨λv e=>(by cases e),λ_=>⟨_,Fun.exc rfl rfl (.cons (.Da (by k_all) (by k_upd) .nil) (.cons (.C9 (by k_all)) (.exc (.Db (by k_all) (by k_upd) (.exc (.raise (by k_all) (by k_upd)))))))⟩⟩
  ·have d:decide (cf t<0)=false:=D9 z
   exists(if_neg z)
   exact⟨λv e=>(by cases e;exact Fun.ret rfl rfl (.cons (.Da (by k_all) (by k_upd) .nil) (.cons (.C9 (by k_all)) (.cons (.Da (by k_all) (by k_upd) .nil) (.ret (.ret (.C8 rfl))))))),λe=>(by cases e)⟩
noncomputable def nJ(least:Int):List Nat:=[97,32,119,104,111,108,101,32,110,117,109,98,101,114,32,102,114,111,109,32]++((PySem.Str.ofString (toString least)).cps.toList++([32,111,110,44,32,105,110,32,112,108,97,105,110,32,100,105,103,105,116,115]++[]))
theorem read_clock{t:List Nat}{part least:Int}(l:ae t.length=true)(sm:small least=true)(lt:ae (nJ least).length=true):
 (least<=aS t->Fun (m+2,none) h 53 [.str t,.int part,.int least] (.ok (.int (aS t)) h))/\(aS t<least->Fen h (m+2) 53 [.str t,.int part,.int least] part):=by
 have F:∀(m:Nat)(o:Option Nat)(t':List Nat)(q':Int),Fun (m+1,o) (h++[if true then .exc 2 false []else .inst 2 []]) 6 [.ref h.length,.int q',.str t'] (.ok .none (h++[.exc 2 false [(0,.str t'),(2,.int q')]])):=λm o t' q'=>bz
 have N:∀m,Fun (m+1,none) h 47 [.str t] (.ok (.int (aS t)) h):=λm=>plain_number l
 have q:aV [.str [97,32,119,104,111,108,101,32,110,117,109,98,101,114,32,102,114,111,109,32],.int least,.str [32,111,110,44,32,105,110,32,112,108,97,105,110,32,100,105,103,105,116,115]]=some (nJ least):=by
  show Option.map _ (if small least then _ else _)=_
  exists(if_pos sm);rfl
 refine⟨λz=>?_,λz=>?_⟩
 ·have d:decide (aS t<least)=false:=D9 (by exact Ez.mpr z)
  exact Fun.ret rfl rfl (.cons (.C9 (by k_all)) (.cons (.Da (by k_all) (by k_upd) .nil) (.ret (.ret (.C8 rfl)))))
 ·have d:decide (aS t<least)=true:=DX z
  exact⟨_,Fun.exc rfl rfl (.cons (.C9 (by k_all)) (.exc (.Db (by k_all) (by k_upd) (.exc (.raise (.new rfl rfl (.cons (.C8 rfl) (.cons (.fstr (.cons .str (.cons (.C8 rfl) (.cons .str .nil))) q lt) .nil)) rfl (F _ _ _ _)) last_get)))))⟩
end
noncomputable def lets:List Nat:=[46,80,78,66,82,81,75,46,46,112,110,98,114,113,107]
noncomputable def aZ(c:Nat):Int:=if([c]==[46])=true then-1 else ac c lets 0
noncomputable def fB(cs:List Int)(wd:Bool):List Nat->Option (List Int)
 |[]=>some cs
 |c::r=>if 0<=ac c digs 0 then(if(ac c digs 0==0||wd)=true then none else fB (cs++List.replicate (ac c digs 0).toNat 0) true r)
  else if aZ c<=0 then none else fB (cs++[aZ c]) false r
noncomputable def iY(t:List Nat):Option (List Int):=match fB [] false t with
 |some cs=>if((cs.length:Int) !=6)=true then none else some cs
 |none=>none
theorem wh{h:Hp}{n k:Nat}{xs ys:List V}(q1:h[n]? =some (.list xs)) (q2:h[k]? =some (.list ys)) (ne:n≠k) (l1:ae xs.length=true) (l2:ae ys.length=true):meth .extend (.ref n) [.ref k] h=.ok .none (h.set n (.list (xs++ys))):=by
 unfold meth
 dsimp only
 unfold jE
 dsimp only
 exists q1,q2
 dsimp only
 exists(if_pos (by simp[ne,l1,l2]));rfl
theorem AR{h:Hp}{n:Nat}{xs:List V}{v:V}(q1:h[n]? =some (.list xs)) (l1:ae xs.length=true):meth .append (.ref n) [v] h=.ok .none (h.set n (.list (xs++[v]))):=by
 unfold meth
 dsimp only
 unfold gj
 dsimp only
 exists q1
 dsimp only
 exists(if_pos l1);rfl
theorem iB{h:Hp}{n:Nat}{xs:List V}{m:MI}(hm:m=.extend\/m=.append\/m=.lindex)(q1:h[n]? =some (.list xs)):cn m (.ref n) h=true:=by
 rcases hm with rfl|rfl|rfl<;>(show bu (.ref n) h=true;unfold bu;dsimp only;(exists q1;rfl))
section
variable{m:Nat}
theorem piece_of{h:Hp}{c:Nat}:Fun (m,none) h 3 [.str [c]] (.ok (.int (aZ c)) h):=by
 unfold aZ
 cases e:[c]==[46]with
 |true=>(exists(if_pos rfl));exact Fun.ret rfl rfl (.ret (.Db (.or (by k_all)) (by k_upd) (.ret (.ret (by k_all)))))
 |false=>(exists(if_neg Do));exact Fun.ret rfl rfl (.cons (.Da (.or (by k_all)) (by k_upd) .nil) (.ret (.ret (by k_all))))
noncomputable abbrev nK:List S:=im f_read_row.body 2
theorem wi{h0:Hp}{cl:Nat}(hc:h0.length<=cl){x0 x1:Option V}:∀(r:List Nat)(cs:List Int)(wd:Bool)(h:Hp)(x4 x5 x6:Option V),h[cl]? =some (.list (cs.map .int))->(Mono h0 h)->cs.length+9*r.length<=100000->
 (∀cs',fB cs wd r=some cs'->∃(h':Hp)(b:Bool)(y4 y5 y6:Option V),Lp (m+3,none) [x0,x1,some (.ref cl),some (.bool wd),x4,x5,x6] h 4 (.str r) nK (.ok .next [x0,x1,some (.ref cl),some (.bool b),y4,y5,y6] h')/\h'[cl]? =some (.list (cs'.map .int))/\Mono h0 h')/\
 (fB cs wd r=none->∃(h':Hp)(C4:Env),Lp (m+3,none) [x0,x1,some (.ref cl),some (.bool wd),x4,x5,x6] h 4 (.str r) nK (.ok (.ret .none) C4 h')/\Mono h0 h'):=by
 intro r
 induction r with
 |nil=>exact λcs wd h x4 x5 x6 q mono bd=>⟨λcs' e=>by cases e;exact⟨h,wd,x4,x5,x6,Lp.fin rfl,q,mono⟩,λe=>by cases e⟩
 |cons c r ih=>
  intro cs wd h x4 x5 x6 q mono bd
  have P:∀m,Fun (m,none) h 3 [.str [c]] (.ok (.int (aZ c)) h):=λm=>piece_of
  have ll:ae (cs.map V.int).length=true:=by rw[DD];exact Du (by exact Dm.mp (ao [cs.length,r.length] [(.le (.a (.v 0) (.m 9 (.a (.v 1) (.n 1)))) (.n 100000),1),(.le (.n 0) (.v 1),9)] (.le (.v 0) (.n 100000)) 1 rfl (Dm.mpr bd) (Dq _)))
  have fr:∀{y:Hp}{n:Nat}{o:O},h0[n]? =some o->n≠cl:=λe=>by have:=(Dr.mp e).1;exact Et (DA this hc)
  unfold fB
  by_cases g:0<=ac c digs 0
  ·have d:decide (0<=ac c digs 0)=true:=DX g
   rw[if_pos g]
   have g9:(ac c digs 0).toNat<=9:=by
    rcases eX (c:=c) digs 0 with h|h
    ·have:((0+digs.length:Nat):Int)=10:=rfl
     exact EA ((Go g).mpr (ES h (by decide)))
    ·lia
   cases e1:ac c digs 0==0 with
   |true=>
    rw[Bool.true_or,if_pos rfl]
    exact⟨λv e=>(by cases e),λ_=>⟨h,_,Lp.ret rfl (.cons (.C9 (by k_all)) (.ret (.Db (by k_all) (by k_upd) (.ret (.Db (.or (by k_all)) (by k_upd) (.ret (.ret (by k_all)))))))),mono⟩⟩
   |false=>induction wd using Bool.casesOn with
    |true=>
     rw[E4,if_pos rfl]
     exact⟨λv e=>(by cases e),λ_=>⟨h,_,Lp.ret rfl (.cons (.C9 (by k_all)) (.ret (.Db (by k_all) (by k_upd) (.ret (.Db (.or (by k_all)) (by k_upd) (.ret (.ret (by k_all)))))))),mono⟩⟩
    |false=>
     rw[E4,if_neg Do]
     have a3:(h++[O.list [.int 0]])[h.length]? =some (.list [.int 0]):=last_get
     have M:=vS (k:=ac c digs 0) a3 g (by exact ao [ac c digs 0,Nat.cast ((ac c digs 0).toNat)] [(.le (.v 1) (.n 9),1),(.le (.v 0) (.v 1),1)] (.le (.v 0) (.n 1000)) 1 rfl (Dm.mpr g9) (FZ _))
     have qc:((h++[O.list [.int 0]])++[O.list (List.replicate (ac c digs 0).toNat (.int 0))])[cl]? =some (.list (cs.map .int)):=au (au q)
     have X:=wh qc (last_get (h:=h++[O.list [.int 0]])) (by have:=(Dr.mp q).1;simp;exact Et (Nat.lt_succ_of_lt this)) ll (by(exists HX);exact Du (by exact aT g9 rfl))
     generalize e2:((h++[O.list [.int 0]])++[O.list (List.replicate (ac c digs 0).toNat (.int 0))]).set cl (.list (cs.map V.int++List.replicate (ac c digs 0).toNat (.int 0)))=h1 at X
     have q1:h1[cl]? =some (.list ((cs++List.replicate (ac c digs 0).toNat 0).map .int)):=by
      refine bt e2 ?_;exists(DG (Dr.mp qc).1),Fs,List.map_replicate;rfl
     have mono1:Mono h0 h1:=λn o e=>by
      rw[<-e2,DB (Eb (fr (y:=h) e))];exact au (au (mono n o e))
     refine aA (ih (cs++List.replicate (ac c digs 0).toNat 0) true h1 (some (.str [c])) (some (.int (ac c digs 0))) x6 q1 mono1 (by simp at bd⊢;exact Dm.mp (ao [cs.length,Nat.cast ((ac c digs 0).toNat),r.length] [(.le (.v 1) (.n 9),1),(.le (.a (.v 0) (.m 9 (.a (.v 2) (.n 1)))) (.n 100000),1)] (.le (.a (.a (.v 0) (.v 1)) (.m 9 (.v 2))) (.n 100000)) 1 rfl (Dm.mpr g9) (Dm.mpr bd)))) λa b=>?_
     have B:Exs (m+3,none) [x0,x1,some (.ref cl),some (.bool false),some (.str [c]),x5,x6] h nK (.ok .next [x0,x1,some (.ref cl),some (.bool true),some (.str [c]),some (.int (ac c digs 0)),x6] h1):=
      .cons (.C9 (by k_all)) (.cons (.Db (by k_all) (by k_upd) (.cons (.Da (.or (by k_all)) (by k_upd) .nil) (.cons (.expr (.meth (.C8 rfl) (iB (.inl rfl) q) (.cons (.bin (.list (.cons (by k_all) .nil) rfl) (.C8 rfl) M) .nil) X)) (.cons (.C9 .bool) .nil)))) .nil)
     refine⟨λv e=>?_,λe=>?_⟩
     ·refine cV (a v e) λh' bb y4 y5 y6 T z=>?_
      exact⟨h',bb,y4,y5,y6,Lp.next rfl B T,z⟩
     ·refine aD (b e) λh' C4 T z=>?_
      exact⟨h',C4,Lp.next rfl B T,z⟩
  ·have d:decide (0<=ac c digs 0)=false:=D9 g
   exists(if_neg g)
   by_cases z:aZ c<=0
   ·have d2:decide (aZ c<=0)=true:=DX z
    exists(if_pos z)
    exact⟨λv e=>(by cases e),λ_=>⟨h,_,Lp.ret rfl (.cons (.C9 (by k_all)) (.ret (.Da (by k_all) (by k_upd) (.cons (.C9 (.call (by k_all) (P _))) (.ret (.Db (by k_all) (by k_upd) (.ret (.ret (by k_all))))))))),mono⟩⟩
   ·have d2:decide (aZ c<=0)=false:=D9 z
    exists(if_neg z)
    have X:=AR (v:=.int (aZ c)) q ll
    generalize e2:h.set cl (.list (cs.map V.int++[.int (aZ c)]))=h1 at X
    have q1:h1[cl]? =some (.list ((cs++[aZ c]).map .int)):=by
     refine bt e2 ?_;exists(DG (Dr.mp q).1),Fs;rfl
    have mono1:Mono h0 h1:=λn o e=>by
     refine bt e2 ?_;exists(DB (Eb (fr (y:=h) e)));exact mono n o e
    refine aA (ih (cs++[aZ c]) false h1 (some (.str [c])) (some (.int (ac c digs 0))) (some (.int (aZ c))) q1 mono1 (by simp at bd⊢;exact Dm.mp (ao [cs.length,r.length] [(.le (.a (.v 0) (.m 9 (.a (.v 1) (.n 1)))) (.n 100000),1)] (.le (.a (.a (.v 0) (.n 1)) (.m 9 (.v 1))) (.n 100000)) 1 rfl (Dm.mpr bd)))) λa b=>?_
    have B:Exs (m+3,none) [x0,x1,some (.ref cl),some (.bool wd),some (.str [c]),x5,x6] h nK (.ok .next [x0,x1,some (.ref cl),some (.bool false),some (.str [c]),some (.int (ac c digs 0)),some (.int (aZ c))] h1):=
     .cons (.C9 (by k_all)) (.cons (.Da (by k_all) (by k_upd) (.cons (.C9 (.call (by k_all) (P _))) (.cons (.Da (by k_all) (by k_upd) .nil) (.cons (.expr (.meth (.C8 rfl) (iB (.inr (.inl rfl)) q) (.cons (.C8 rfl) .nil) X)) (.cons (.C9 .bool) .nil))))) .nil)
    refine⟨λv e=>?_,λe=>?_⟩
    ·refine cV (a v e) λh' bb y4 y5 y6 T z=>?_
     exact⟨h',bb,y4,y5,y6,Lp.next rfl B T,z⟩
    ·refine aD (b e) λh' C4 T z=>?_
     exact⟨h',C4,Lp.next rfl B T,z⟩
end
theorem iC{h:Hp}{n:Nat}{xs:List V}(q:h[n]? =some (.list xs)) (l:ae xs.length=true):bcall .len [.ref n] h=.ok (.int (xs.length:Nat)) h:=by
 unfold bcall
 dsimp only
 unfold xj
 dsimp only
 exists q
 dsimp only
 exists(if_pos l);rfl
theorem wj:∀(r:List Nat)(cs:List Int)(wd:Bool)(cs':List Int),fB cs wd r=some cs'->cs'.length<=cs.length+9*r.length:=by
 intro r
 induction r with
 |nil=>exact λcs wd cs' e=>by cases e;simp
 |cons c r ih=>
  intro cs wd cs' e
  unfold fB at e
  split at e
  ·split at e
   ·exact bq e
   ·have:=ih _ _ _ e
    have g9:(ac c digs 0).toNat<=9:=by
     rcases eX (c:=c) digs 0 with h|h
     ·have:((0+digs.length:Nat):Int)=10:=rfl
      exact EA ((Go (by assumption)).mpr (ES h (by decide)))
     ·lia
    simp at this⊢;exact Dm.mp (ao [cs'.length,cs.length,r.length,Nat.cast ((ac c digs 0).toNat)] [(.le (.v 0) (.a (.a (.v 1) (.v 3)) (.m 9 (.v 2))),1),(.le (.v 3) (.n 9),1)] (.le (.v 0) (.a (.v 1) (.m 9 (.a (.v 2) (.n 1))))) 1 rfl (Dm.mpr this) (Dm.mpr g9))
  ·split at e
   ·exact bq e
   ·have:=ih _ _ _ e
    simp at this⊢;exact Dm.mp (ao [cs'.length,cs.length,r.length] [(.le (.v 0) (.a (.a (.v 1) (.n 1)) (.m 9 (.v 2))),1)] (.le (.v 0) (.a (.v 1) (.m 9 (.a (.v 2) (.n 1))))) 1 rfl (Dm.mpr this))
theorem read_row{h:Hp}{m:Nat}{t:List Nat}(lt:t.length<=1000):
 (∀cs,iY t=some cs->∃(h':Hp)(cl:Nat),Fun (m+4,none) h 48 [.str t,.int 6] (.ok (.ref cl) h')/\h'[cl]? =some (.list (cs.map .int))/\(Mono h h')/\h.length<=cl)/\
 (iY t=none->∃h':Hp,Fun (m+4,none) h 48 [.str t,.int 6] (.ok .none h')/\Mono h h'):=by
 refine aA (wi (m:=m) (h0:=h) (cl:=h.length) (Dy _) (x0:=some (.str t)) (x1:=some (.int 6)) t [] false (h++[.list []]) none none none last_get (Mono.app1) (by simp;exact Dm.mp (ao [t.length] [(.le (.v 0) (.n 1000),9)] (.le (.m 9 (.v 0)) (.n 100000)) 1 rfl (Dm.mpr lt)))) λa b=>?_
 unfold iY
 cases q:fB [] false t with
 |none=>
  refine aD (b q) λh' C4 T mono=>?_
  exact⟨λcs e=>(by cases e),λ_=>⟨h',Fun.ret rfl rfl (.cons (.C9 (.list .nil rfl)) (.cons (.C9 .bool) (.ret (.for (.C8 rfl) rfl T)))),mono⟩⟩
 |some cs=>
  refine pN (a cs q) λh' bb y4 y5 y6 T hc mono=>?_
  have cl:=wj _ _ _ _ q
  have L:=iC hc (by rw[DD];exact Du (by simp at cl;exact Dm.mp (ao [cs.length,t.length] [(.le (.v 0) (.m 9 (.v 1)),1),(.le (.v 1) (.n 1000),9)] (.le (.v 0) (.n 100000)) 1 rfl (Dm.mpr cl) (Dm.mpr lt))))
  rw[DD]at L
  have C:=Ev.Dc (m:=m+4) (CT:=[some (.str t),some (.int 6),some (.ref h.length),some (.bool bb),y4,y5,y6]) (Evs.cons (.C8 (i:=2) rfl) .nil) L
  dsimp only
  cases z:((cs.length:Int) !=6)with
  |true=>
   exists(if_pos rfl)
   exact⟨λcs e=>(by cases e),λ_=>⟨h',Fun.ret rfl rfl (.cons (.C9 (.list .nil rfl)) (.cons (.C9 .bool) (.cons (.for (.C8 rfl) rfl T) (.ret (.Db (.Df C (.C8 rfl) rfl) (Ds some z) (.ret (.ret .none))))))),mono⟩⟩
  |false=>
   exists(if_neg Do)
   exact⟨λcs' e=>(by cases e;exact⟨h',h.length,Fun.ret rfl rfl (.cons (.C9 (.list .nil rfl)) (.cons (.C9 .bool) (.cons (.for (.C8 rfl) rfl T) (.cons (.Da (.Df C (.C8 rfl) rfl) (Ds some z) .nil) (.ret (.ret (.C8 rfl))))))),hc,mono,Dy _⟩),λe=>(by cases e)⟩
noncomputable def kB(n:Nat):List Nat:=(PySem.Str.ofString (toString (n:Int))).cps.toList
theorem fX:∀n:Nat,n<202->(kB n).length<=10:=by decide+kernel
theorem fY{c:Nat}:∀t:List Nat,0<(aa c t).length/\(aa c t).length<=t.length+1:=by
 intro t
 induction t with
 |nil=>simp[aa]
 |cons x r ih=>
  have ih:=ih
  unfold aa
  split
  ·simp;exact ih.2
  ·cases q:aa c r with
   |nil=>rw[q]at ih;simp at ih
   |cons w ws=>rw[q]at ih;simp at ih⊢;exact Er ih
theorem dO{c:Nat}:∀t:List Nat,∀r∈aa c t,r.length<=t.length:=by
 intro t
 induction t with
 |nil=>exact λr h=>by simp[aa]at h;subst h;simp
 |cons x t ih=>
  intro r h
  have ih:=ih
  unfold aa at h
  split at h
  ·rcases Eo.mp h with h|h
   ·subst h;simp
   ·have:=ih r h;simp;exact Er this
  ·cases q:aa c t with
   |nil=>rw[q]at h;simp at h;subst h;simp
   |cons w ws=>
    rw[q]at h ih
    rcases Eo.mp h with h|h
    ·subst h;have:=ih w (DU ..);simp;exact this
    ·have:=ih r (DN _ h);simp;exact Er this
def yI(h:Hp)(m f:Nat)(args:List V)(part:Int):Prop:=∃(n:Nat)(h':Hp)(x:Bool)(fs:List (Nat×V)),Fun (m,none) h f args (.exc n h')/\h'[n]? =some (.exc 2 x fs)/\aG 2 fs=some (.int part)/\Mono h h'
theorem Fen.m{h:Hp}{m f:Nat}{args:List V}{part:Int}(F:Fen h m f args part):yI h m f args part:=by
 obtain⟨t,F⟩:=F
 exact⟨_,_,_,_,F,last_get,rfl,Mono.app1⟩
noncomputable def cP(rows:List (List Nat))(acc:List Int):Nat->Option (List Int)
 |0=>some acc
 |n+1=>match iY (rows[n]?.getD [])with
  |some cs=>cP rows (acc++cs) n
  |none=>none
theorem pk{t:List Nat}{cs:List Int}(e:iY t=some cs):cs.length=6:=by
 unfold iY at e
 split at e
 ·split at e
  ·exact bq e
  ·rename_i h
   cases e
   simp at h;exact DJ (Dm.mp (ao [cs.length] [(.eq (.v 0) (.n 6),1)] (.le (.v 0) (.n 6)) 1 rfl h)) (Dm.mp (ao [cs.length] [(.eq (.v 0) (.n 6),-1)] (.le (.n 6) (.v 0)) 1 rfl h))
 ·exact bq e
noncomputable abbrev q9:List S:=im f_read_board.body 3
theorem ra{m:Nat}{h0:Hp}{rl bl:Nat}{rows:List (List Nat)}{x0:Option V}(l5:rows.length=5)(rlen:∀r∈rows,r.length<=1000)(hr:h0[rl]? =some (.list (rows.map .str))) (hb:h0.length<=bl):
 ∀(n i:Nat),i+n=5->∀(h:Hp)(acc:List Int)(x5 x6:Option V),h[bl]? =some (.list (acc.map .int))->(Mono h0 h)->acc.length=6*i->
  (∀bd,cP rows acc n=some bd->∃(h':Hp)(y5 y6:Option V),Lp (m+5,none) [x0,some (.int 6),some (.int 5),some (.ref rl),some (.ref bl),x5,x6] h 5 (.rng i 5 1) q9 (.ok .next [x0,some (.int 6),some (.int 5),some (.ref rl),some (.ref bl),y5,y6] h')/\h'[bl]? =some (.list (bd.map .int))/\bd.length=30/\Mono h0 h')/\
  (cP rows acc n=none->∃(k:Nat)(h':Hp)(x:Bool)(fs:List (Nat×V))(C4:Env),Lp (m+5,none) [x0,some (.int 6),some (.int 5),some (.ref rl),some (.ref bl),x5,x6] h 5 (.rng i 5 1) q9 (.exc k C4 h')/\h'[k]? =some (.exc 2 x fs)/\aG 2 fs=some (.int 0)/\Mono h0 h'):=by
 intro n
 induction n with
 |zero=>
  intro i hi h acc x5 x6 q mono al
  obtain rfl:i=5:=by exact DJ (Dm.mp (ao [i] [(.eq (.a (.v 0) (.n 0)) (.n 5),1)] (.le (.v 0) (.n 5)) 1 rfl (Ds Int.ofNat hi))) (Dm.mp (ao [i] [(.eq (.a (.v 0) (.n 0)) (.n 5),-1)] (.le (.n 5) (.v 0)) 1 rfl (Ds Int.ofNat hi)))
  exact⟨λbd e=>by cases e;exact⟨h,x5,x6,Lp.fin (jL (by decide)),q,by exact al,mono⟩,λe=>by cases e⟩
 |succ n ih=>
  intro i hi h acc x5 x6 q mono al
  obtain⟨t,ht⟩:∃t,rows[n]? =some t:=⟨_,DI (by exact Dt.mp (ao [n,rows.length,i] [(.eq (.a (.v 2) (.a (.v 0) (.n 1))) (.n 5),1),(.eq (.v 1) (.n 5),-1),(.le (.n 0) (.v 2),1)] (.lt (.v 0) (.v 1)) 1 rfl (Ds Int.ofNat hi) (Ds Int.ofNat l5) (Dq _)))⟩
  have nx:aP h (.rng (i:Int) 5 1)=.one (.int i) (.rng ((i+1:Nat):Int) 5 1):=fW (by exact ao [i,n] [(.eq (.a (.v 0) (.a (.v 1) (.n 1))) (.n 5),1),(.le (.n 0) (.v 1),1)] (.lt (.v 0) (.n 5)) 1 rfl (Ds Int.ofNat hi) (Dq _))
  have gR:getitem (.ref rl) (.int (5-1-(i:Int))) h=.ok (.str t) h:=by
   refine gi (mono _ _ hr) (by exact ao [i,n] [(.eq (.a (.v 0) (.a (.v 1) (.n 1))) (.n 5),1),(.le (.n 0) (.v 1),1)] (.le (.n 0) (.s (.s (.n 5) (.n 1)) (.v 0))) 1 rfl (Ds Int.ofNat hi) (Dq _)) ?_ (by rw[DD,l5];rfl)
   exists(show(5-1-(i:Int)).toNat=n from Ds Int.toNat (D8 (ao [i,n] [(.eq (.a (.v 0) (.a (.v 1) (.n 1))) (.n 5),-1)] (.le (.s (.s (.n 5) (.n 1)) (.v 0)) (.v 1)) 1 rfl (Ds Int.ofNat hi)) (ao [i,n] [(.eq (.a (.v 0) (.a (.v 1) (.n 1))) (.n 5),1)] (.le (.v 1) (.s (.s (.n 5) (.n 1)) (.v 0))) 1 rfl (Ds Int.ofNat hi)):(5-1-(i:Int))=(n:Int))),DZ,ht;rfl
  refine aA (read_row (h:=h) (m:=m) (t:=t) (rlen t (DR ht))) λa b=>?_
  unfold cP
  exists ht,Hd
  have A:Evs (m+5,none) [x0,some (.int 6),some (.int 5),some (.ref rl),some (.ref bl),some (.int i),x6] h [.sub (.C8 3) (.bin .sub (.bin .sub (.C8 2) (.int 1)) (.C8 5)),.C8 1] (.ok [.str t,.int 6] h):=.cons (.sub (.C8 rfl) (.bin (.bin (.C8 rfl) .int rfl) (.C8 rfl) rfl) gR) (.cons (.C8 rfl) .nil)
  cases e:iY t with
  |none=>
   refine ai (b e) λh' F mono'=>?_
   have FB:∀(m:Nat)(o:Option Nat)(t':List Nat)(q':Int),Fun (m+1,o) (h'++[if true then .exc 2 false []else .inst 2 []]) 6 [.ref h'.length,.int q',.str t'] (.ok .none (h'++[.exc 2 false [(0,.str t'),(2,.int q')]])):=λm o t' q'=>bz
   have q1:aV [.str [114,97,110,107,32],.int ((i:Int)+1),.str [32,100,111,101,115,32,110,111,116,32,116,101,108,108,32],.int 6,.str [32,115,113,117,97,114,101,115]]=some ([114,97,110,107,32]++(kB (i+1)++([32,100,111,101,115,32,110,111,116,32,116,101,108,108,32]++(kB 6++([32,115,113,117,97,114,101,115]++[]))))):=by
    have sm:small ((i:Int)+1)=true:=Du (by exact eI (ao [i] [(.le (.n 0) (.v 0),1)] (.le (.g (.n 18446744073709551615)) (.a (.v 0) (.n 1))) 1 rfl (Dq _)) (ao [i,n] [(.eq (.a (.v 0) (.a (.v 1) (.n 1))) (.n 5),1),(.le (.n 0) (.v 1),1)] (.le (.a (.v 0) (.n 1)) (.n 18446744073709551615)) 1 rfl (Ds Int.ofNat hi) (Dq _)))
    show Option.map _ (if small ((i:Int)+1)then _ else _)=_
    exists(if_pos sm);rfl
   have l1:ae ([114,97,110,107,32]++(kB (i+1)++([32,100,111,101,115,32,110,111,116,32,116,101,108,108,32]++(kB 6++([32,115,113,117,97,114,101,115]++[]))))).length=true:=by
    have:=fX (i+1) (by exact Dt.mp (ao [i,n] [(.eq (.a (.v 0) (.a (.v 1) (.n 1))) (.n 5),1),(.le (.n 0) (.v 1),1)] (.lt (.a (.v 0) (.n 1)) (.n 202)) 1 rfl (Ds Int.ofNat hi) (Dq _)))
    have:=fX 6 (by exact EB (Fr _ _))
    refine Du ?_
    simp only[List.length_append,List.length_cons,List.length_nil];lia
   refine⟨λbd e=>(by cases e),λ_=>⟨h'.length,_,_,_,_,Lp.exc nx (.cons (.C9 (.call A F)) (.exc (.Db (.Df (.C8 rfl) .none rfl) rfl (.exc (.raise (.new rfl rfl (.cons .int (.cons (.fstr (.cons .str (.cons (.bin (.C8 rfl) .int rfl) (.cons .str (.cons (.C8 rfl) (.cons .str .nil))))) q1 l1) .nil)) rfl (FB _ _ _ _)) last_get))))),last_get,rfl,λn o e=>au (mono' n o (mono n o e))⟩⟩
  |some cs=>
   refine bL (a cs e) λh' cl F hc mono' hcl=>?_
   have cl6:=pk e
   have ne:bl≠cl:=by have:=(Dr.mp q).1;exact Et (DA this hcl)
   have X:=wh (mono' _ _ q) hc ne (by rw[DD];exact Du (by exact Dm.mp (ao [acc.length,i,n] [(.eq (.v 0) (.m 6 (.v 1)),1),(.eq (.a (.v 1) (.a (.v 2) (.n 1))) (.n 5),6),(.le (.n 0) (.v 2),6)] (.le (.v 0) (.n 100000)) 1 rfl (Ds Int.ofNat al) (Ds Int.ofNat hi) (Dq _)))) (by rw[DD,cl6];rfl)
   generalize e2:h'.set bl (.list (acc.map V.int++cs.map V.int))=h1 at X
   have q1:h1[bl]? =some (.list ((acc++cs).map .int)):=by(refine bt e2 ?_;exists(DG (Dr.mp (mono' _ _ q)).1),Fs;rfl)
   have mono1:Mono h0 h1:=λn o e=>by
    refine bt e2 ?_;exists(DB (by have:=(Dr.mp e).1;exact Eg (DA this hb)));exact mono' n o (mono n o e)
   refine aA (ih (i+1) (by exact DJ (Dm.mp (ao [i,n] [(.eq (.a (.v 0) (.a (.v 1) (.n 1))) (.n 5),1)] (.le (.a (.a (.v 0) (.n 1)) (.v 1)) (.n 5)) 1 rfl (Ds Int.ofNat hi))) (Dm.mp (ao [i,n] [(.eq (.a (.v 0) (.a (.v 1) (.n 1))) (.n 5),-1)] (.le (.n 5) (.a (.a (.v 0) (.n 1)) (.v 1))) 1 rfl (Ds Int.ofNat hi)))) h1 (acc++cs) (some (.int i)) (some (.ref cl)) q1 mono1 (by simp;exact DJ (Dm.mp (ao [acc.length,cs.length,i] [(.eq (.v 1) (.n 6),1),(.eq (.v 0) (.m 6 (.v 2)),1)] (.le (.a (.v 0) (.v 1)) (.m 6 (.a (.v 2) (.n 1)))) 1 rfl (Ds Int.ofNat cl6) (Ds Int.ofNat al))) (Dm.mp (ao [i,acc.length,cs.length] [(.eq (.v 2) (.n 6),-1),(.eq (.v 1) (.m 6 (.v 0)),-1)] (.le (.m 6 (.a (.v 0) (.n 1))) (.a (.v 1) (.v 2))) 1 rfl (Ds Int.ofNat cl6) (Ds Int.ofNat al))))) λa2 b2=>?_
   have B:Exs (m+5,none) [x0,some (.int 6),some (.int 5),some (.ref rl),some (.ref bl),some (.int i),x6] h q9 (.ok .next [x0,some (.int 6),some (.int 5),some (.ref rl),some (.ref bl),some (.int i),some (.ref cl)] h1):=
    .cons (.C9 (.call A F)) (.cons (.Da (.Df (.C8 rfl) .none rfl) rfl .nil) (.cons (.expr (.meth (.C8 rfl) (iB (.inl rfl) (mono' _ _ q)) (.cons (.C8 rfl) .nil) X)) .nil))
   refine⟨λbd e=>?_,λe=>?_⟩
   ·refine bQ (a2 bd e) λh2 y5 y6 T z=>?_
    exact⟨h2,y5,y6,Lp.next nx B T,z⟩
   ·refine cV (b2 e) λk h2 x fs C4 T z=>?_
    exact⟨k,h2,x,fs,C4,Lp.next nx B T,z⟩
noncomputable def cQ(t:List Nat):Option (List Int):=if((((aa 47 t).map V.str).length:Int) !=5)=true then none else cP (aa 47 t) [] 5
theorem fZ{h:Hp}{t:List Nat}{c:Nat}(l:ae t.length=true):meth .split (.str t) [.str [c]] h=.ok (.ref h.length) (h++[.list ((aa c t).map .str)]):=if_pos l
theorem read_board{h:Hp}{m:Nat}{t:List Nat}(lt:t.length<=200):
 (∀bd,cQ t=some bd->∃(h':Hp)(bl:Nat),Fun (m+6,none) h 49 [.str t,.int 6,.int 5] (.ok (.ref bl) h')/\h'[bl]? =some (.list (bd.map .int))/\bd.length=30/\Mono h h')/\
 (cQ t=none->yI h (m+6) 49 [.str t,.int 6,.int 5] 0):=by
 have lo:ae t.length=true:=Du (by exact aT lt rfl)
 have Sp:=fZ (h:=h) (c:=47) lo
 have sl:=fY (c:=47) t
 have hr:(h++[O.list ((aa 47 t).map V.str)])[h.length]? =some (.list ((aa 47 t).map V.str)):=last_get
 have L:=iC hr (by rw[DD];exact Du (by exact Dw sl.2 (Ea (aT lt rfl) _)))
 unfold cQ
 have Sx:Ev (m+6,none) [some (.str t),some (.int 6),some (.int 5),none,none,none,none] h (.meth .split (.C8 0) [.str [47]]) (.ok (.ref h.length) (h++[O.list ((aa 47 t).map V.str)])):=.meth (.C8 rfl) rfl (.cons .str .nil) Sp
 have C:=Ev.Dc (m:=m+6) (CT:=[some (.str t),some (.int 6),some (.int 5),some (.ref h.length),none,none,none]) (Evs.cons (.C8 (i:=3) rfl) .nil) L
 cases z:((((aa 47 t).map V.str).length:Int) !=5)with
 |true=>
  exists(if_pos rfl)
  refine⟨λbd e=>(by cases e),λ_=>?_⟩
  have FB:∀(m:Nat)(o:Option Nat)(t':List Nat)(q':Int),Fun (m+1,o) ((h++[O.list ((aa 47 t).map V.str)])++[if true then .exc 2 false []else .inst 2 []]) 6 [.ref (h++[O.list ((aa 47 t).map V.str)]).length,.int q',.str t'] (.ok .none ((h++[O.list ((aa 47 t).map V.str)])++[.exc 2 false [(0,.str t'),(2,.int q')]])):=λm o t' q'=>bz
  have q1:aV [.int ((((aa 47 t).map V.str).length:Nat):Int),.str [32,114,97,110,107,115,44,32,110,111,116,32],.int 5]=some (kB ((aa 47 t).map V.str).length++([32,114,97,110,107,115,44,32,110,111,116,32]++(kB 5++[]))):=by
   have sm:small ((((aa 47 t).map V.str).length:Nat):Int)=true:=Du (by simp;exact Dw sl.2 (Ea (aT lt rfl) _))
   show(if small ((((aa 47 t).map V.str).length:Nat):Int)then _ else _)=_
   exists(if_pos sm);rfl
  have l1:ae (kB ((aa 47 t).map V.str).length++([32,114,97,110,107,115,44,32,110,111,116,32]++(kB 5++[]))).length=true:=by
   have:=fX ((aa 47 t).map V.str).length (by simp;exact EB (Dw sl.2 (Ea lt _)))
   have:=fX 5 (by exact EB (Fr _ _))
   refine Du ?_
   simp only[List.length_append,List.length_cons,List.length_nil];lia
  exact⟨_,_,_,_,Fun.exc rfl rfl (.cons (.C9 Sx) (.exc (.Db (.Df C (.C8 rfl) rfl) (Ds some z) (.exc (.raise (.new rfl rfl (.cons .int (.cons (.fstr (.cons C (.cons .str (.cons (.C8 rfl) .nil))) q1 l1) .nil)) rfl (FB _ _ _ _)) last_get))))),last_get,rfl,λn o e=>au (au e)⟩
 |false=>
  exists(if_neg Do)
  have l5:(aa 47 t).length=5:=by simp at z;exact DJ (Dm.mp (ao [Nat.cast ((aa 47 t).length)] [(.eq (.v 0) (.n 5),1)] (.le (.v 0) (.n 5)) 1 rfl z)) (Dm.mp (ao [Nat.cast ((aa 47 t).length)] [(.eq (.v 0) (.n 5),-1)] (.le (.n 5) (.v 0)) 1 rfl z))
  have hb:((h++[O.list ((aa 47 t).map V.str)])++[O.list []])[(h++[O.list ((aa 47 t).map V.str)]).length]? =some (.list (([]:List Int).map V.int)):=last_get
  refine aA (ra (m:=m) (h0:=h++[O.list ((aa 47 t).map V.str)]) (x0:=some (.str t)) l5 (λr hr=>by have:=dO t r hr;exact Dw this (aT lt rfl)) hr (Dy _) 5 0 (by exact rfl) _ [] none none hb (Mono.app1) rfl) λa b=>?_
  refine⟨λbd e=>?_,λe=>?_⟩
  ·refine iH (a bd e) λh' y5 y6 T hc l30 mono=>?_
   exact⟨h',_,Fun.ret rfl rfl (.cons (.C9 Sx) (.cons (.Da (.Df C (.C8 rfl) rfl) (Ds some z) .nil) (.cons (.C9 (.list .nil rfl)) (.cons (.for (.Dc (.cons (.C8 rfl) .nil) rfl) rfl T) (.ret (.ret (.C8 rfl))))))),hc,l30,λn o e=>mono n o (au e)⟩
  ·refine fE (b e) λk h' x fs C4 T hx hf mono=>?_
   exact⟨k,h',x,fs,Fun.exc rfl rfl (.cons (.C9 Sx) (.cons (.Da (.Df C (.C8 rfl) rfl) (Ds some z) .nil) (.cons (.C9 (.list .nil rfl)) (.exc (.for (.Dc (.cons (.C8 rfl) .nil) rfl) rfl T))))),hx,hf,λn o e=>mono n o (au e)⟩
noncomputable def eA(q0 q1 q2 q3:List Nat):Except Int (List Int×Nat×Int×Int):=match cQ q0 with
 |none=>.error 0
 |some bd=>match dA q1 with
  |none=>.error 1
  |some s=>match bJ q2 with
   |none=>.error 2
   |some rt=>match uy q3 with
    |none=>.error 3
    |some e=>.ok (bd,s,rt,e)
theorem read_fields{h:Hp}{m pl g:Nat}{gfs:List (Nat×V)}{q0 q1 q2 q3 q4 q5:List Nat}(hp:h[pl]? =some (.list [.str q0,.str q1,.str q2,.str q3,.str q4,.str q5])) (hg:h[g]? =some (.inst 3 gfs)) (f3:aG 3 gfs=some (.int 6)) (f4:aG 4 gfs=some (.int 5))
 (l0:q0.length<=200) (l3:q3.length<=200):
 match eA q0 q1 q2 q3 with
 |.error part=>yI h (m+8) 54 [.ref pl,.ref g] part
 |.ok (bd,s,rt,e)=>∃(h':Hp)(bl:Nat),Fun (m+8,none) h 54 [.ref pl,.ref g] (.ok (.tup [.ref bl,.int s,.int rt,.int e]) h')/\h'[bl]? =some (.list (bd.map .int))/\bd.length=30/\Mono h h':=by
 have G0:getitem (.ref pl) (.int 0) h=.ok (.str q0) h:=gi hp (by decide) rfl rfl
 have A0:Evs (m+8,none) [some (.ref pl),some (.ref g),none,none,none] h [.sub (.C8 0) (.int 0),.attr (.C8 1) 3,.attr (.C8 1) 4] (.ok [.str q0,.int 6,.int 5] h):=.cons (.sub (.C8 rfl) .int G0) (.cons (.attr (.C8 rfl) (ga hg f3)) (.cons (.attr (.C8 rfl) (ga hg f4)) .nil))
 refine aA (read_board (h:=h) (m:=m+1) l0) λa b=>?_
 unfold eA
 cases e0:cQ q0 with
 |none=>
  refine fD (b e0) λn h' x fs F r=>?_
  exact⟨n,h',x,fs,Fun.exc rfl rfl (.exc (.Dl (.call A0 F))),r⟩
 |some bd=>
  refine bL (a bd e0) λh1 bl F0 hb l30 mono=>?_
  have hp1:=mono _ _ hp
  have hg1:=mono _ _ hg
  have G1:getitem (.ref pl) (.int 1) h1=.ok (.str q1) h1:=gi hp1 (by decide) rfl rfl
  have G2:getitem (.ref pl) (.int 2) h1=.ok (.str q2) h1:=gi hp1 (by decide) rfl rfl
  have G3:getitem (.ref pl) (.int 3) h1=.ok (.str q3) h1:=gi hp1 (by decide) rfl rfl
  have fin:∀{f:Nat}{args:List V}{part:Int}{k:Nat},Fen h1 k f args part->∃(n:Nat)(h':Hp)(x:Bool)(fs:List (Nat×V)),Fun (k,none) h1 f args (.exc n h')/\h'[n]? =some (.exc 2 x fs)/\aG 2 fs=some (.int part)/\Mono h h':=λF=>by
   refine cW F.m λn h' x fs a b c d=>?_
   exact⟨n,h',x,fs,a,b,c,Mono.trans mono d⟩
  refine aA (read_side (h:=h1) (m:=m+5) (t:=q1)) λa1 b1=>?_
  dsimp only
  cases e1:dA q1 with
  |none=>
   refine fD (fin (b1 e1)) λn h' x fs F r=>?_
   exact⟨n,h',x,fs,Fun.exc rfl rfl (.cons (.C9 (.call A0 F0)) (.exc (.Dl (.call (.cons (.sub (.C8 rfl) .int G1) .nil) F)))),r⟩
  |some s=>
   have F1:=a1 s e1
   refine aA (read_rights (h:=h1) (m:=m+4) (t:=q2)) λa2 b2=>?_
   dsimp only
   cases e2:bJ q2 with
   |none=>
    refine fD (fin (b2 e2)) λn h' x fs F r=>?_
    exact⟨n,h',x,fs,Fun.exc rfl rfl (.cons (.C9 (.call A0 F0)) (.cons (.C9 (.call (.cons (.sub (.C8 rfl) .int G1) .nil) F1)) (.exc (.Dl (.call (.cons (.sub (.C8 rfl) .int G2) .nil) F))))),r⟩
   |some rt=>
    have F2:=a2 rt e2
    refine aA (read_ep (h:=h1) (m:=m+5) (t:=q3) (Du (by exact aT l3 rfl))) λa3 b3=>?_
    have A3:Evs (m+8,none) [some (.ref pl),some (.ref g),some (.ref bl),some (.int s),some (.int rt)] h1 [.sub (.C8 0) (.int 3),.attr (.C8 1) 3,.attr (.C8 1) 4] (.ok [.str q3,.int 6,.int 5] h1):=.cons (.sub (.C8 rfl) .int G3) (.cons (.attr (.C8 rfl) (ga hg1 f3)) (.cons (.attr (.C8 rfl) (ga hg1 f4)) .nil))
    dsimp only
    cases e3:uy q3 with
    |none=>
     refine fD (fin (b3 e3)) λn h' x fs F r=>?_
     exact⟨n,h',x,fs,Fun.exc rfl rfl (.cons (.C9 (.call A0 F0)) (.cons (.C9 (.call (.cons (.sub (.C8 rfl) .int G1) .nil) F1)) (.cons (.C9 (.call (.cons (.sub (.C8 rfl) .int G2) .nil) F2)) (.exc (.retX (.tupX (.exc2 (.C8 rfl) (.exc2 (.C8 rfl) (.exc2 (.C8 rfl) (.exc1 (.call A3 F))))))))))),r⟩
    |some e=>
     have F3:=a3 e e3
     exact⟨h1,bl,Fun.ret rfl rfl (.cons (.C9 (.call A0 F0)) (.cons (.C9 (.call (.cons (.sub (.C8 rfl) .int G1) .nil) F1)) (.cons (.C9 (.call (.cons (.sub (.C8 rfl) .int G2) .nil) F2)) (.ret (.ret (.tup (.cons (.C8 rfl) (.cons (.C8 rfl) (.cons (.C8 rfl) (.cons (.call A3 F3) .nil)))) rfl)))))),hb,l30,mono⟩
noncomputable def KB(bd:List Int)(i:Nat):Int:=((cj (jo bd i) 30:Nat):Int)
noncomputable def SB(bd:List Int)(i:Nat):Int:=((cj (jp bd i) 30:Nat):Int)
theorem wk(bd:List Int):nW bd 30=[KB bd 0,KB bd 1,KB bd 2,KB bd 3,KB bd 4,KB bd 5,KB bd 6]:=by
 apply EY
 intro i
 by_cases h:i<7
 ·exists(wb 30 i h)
  rcases CJ (by assumption:i<7)with rfl|rfl|rfl|rfl|rfl|rfl|rfl<;>rfl
 ·exists(EH (by rw[jM];exact Ew h)),(EH (by simp;exact Ew h));rfl
theorem wm(bd:List Int):pe bd 30=[SB bd 0,SB bd 1]:=by
 apply EY
 intro i
 by_cases h:i<2
 ·exists(wc 30 i h)
  rcases(by exact or2 h:i=0\/i=1)with rfl|rfl<;>rfl
 ·exists(EH (by rw[jN];exact Ew h)),(EH (by simp;exact Ew h));rfl
theorem gU(a b:Nat)(h:a<2^30):0<=bitAnd (a:Int) (b:Int)/\bitAnd (a:Int) (b:Int)<4294967296:=by
 rw[cx]
 have:=Nat.and_le_left (n:=a) (m:=b)
 lia
theorem dh{c:Nat}:∀(l:List Nat)(k:Nat),ac c l k≠-1->c∈l:=by
 intro l
 induction l with
 |nil=>exact λk h=>absurd rfl h
 |cons x l ih=>
  intro k h
  unfold ac at h
  split at h
  ·rename_i e;(exists(D2 e));exact DU ..
  ·exact DN _ (ih (k+1) h)
theorem ua:∀c:Nat,c<128->aZ c<=0\/(0<aZ c/\aZ c<15/\0<bitAnd (aZ c) 7/\bitAnd (aZ c) 7<7/\0<=(aZ c).fdiv (2^3)/\(aZ c).fdiv (2^3)<2):=by decide+kernel
theorem rc{c:Nat}(h:¬aZ c<=0):ey (aZ c):=by
 have m:c∈lets:=by
  refine dh lets 0 λq=>h ?_
  unfold aZ
  split
  ·decide
  ·exists q;decide
 have l:c<128:=(by decide:∀x∈lets,x<128) c m
 rcases ua c l with q|q
 ·exact absurd q h
 ·exact .inr q
theorem ub:∀(r:List Nat)(cs:List Int)(wd:Bool)(cs':List Int),(∀c∈cs,ey c)->fB cs wd r=some cs'->∀c∈cs',ey c:=by
 intro r
 induction r with
 |nil=>exact λcs wd cs' g e=>by cases e;exact g
 |cons c r ih=>
  intro cs wd cs' g e
  unfold fB at e
  split at e
  ·split at e
   ·exact bq e
   ·refine ih _ _ _ (λx hx=>?_) e
    rcases FO.mp hx with hx|hx
    ·exact g x hx
    ·left;exact(List.mem_replicate.mp hx).2
  ·split at e
   ·exact bq e
   ·rename_i z
    refine ih _ _ _ (λx hx=>?_) e
    rcases FO.mp hx with hx|hx
    ·exact g x hx
    ·exists(GS.mp hx);exact rc z
theorem uc{t:List Nat}{cs:List Int}(e:iY t=some cs):∀c∈cs,ey c:=by
 unfold iY at e
 split at e
 ·rename_i cs0 q
  split at e
  ·exact bq e
  ·cases e;exact ub t [] false cs (λc h=>by cases h) q
 ·exact bq e
theorem pm{rows:List (List Nat)}:∀(n:Nat)(acc bd:List Int),(∀c∈acc,ey c)->cP rows acc n=some bd->∀c∈bd,ey c:=by
 intro n
 induction n with
 |zero=>exact λacc bd g e=>by cases e;exact g
 |succ n ih=>
  intro acc bd g e
  unfold cP at e
  split at e
  ·rename_i cs q
   refine ih _ _ (λx hx=>?_) e
   rcases FO.mp hx with hx|hx
   ·exact g x hx
   ·exact uc q x hx
  ·exact bq e
theorem pn{t:List Nat}{bd:List Int}(e:cQ t=some bd):∀c∈bd,ey c:=by
 unfold cQ at e
 split at e
 ·exact bq e
 ·exact pm 5 [] bd (λc h=>by cases h) e
theorem sD{w k:Nat}(h1:2^k<=w)(h2:w<2^(k+1)):w.testBit k=true:=by
 have:w/2^k=1:=by
  apply Nat.div_eq_of_lt_le
  ·rw[Ia];exact h1
  ·rw[Nat.pow_succ,Nat.mul_comm]at h2;exact h2
 exists Nat.testBit_eq_decide_div_mod_eq,this;rfl
theorem wn{w:Nat}(h0:w≠0)(h:w&&&(w-1)=0):w=2^w.log2:=by
 have a:=Nat.log2_self_le h0
 have b:=Nat.lt_log2_self (n:=w)
 rcases Nat.lt_or_eq_of_le a with l|e
 ·exfalso
  have t1:=sD a b
  have t2:(w-1).testBit w.log2=true:=sD (Nat.le_sub_one_of_lt l) (by exact Dt.mp (ao [Nat.cast (w-1),Nat.cast (2^(w.log2+1)),w] [(.lt (.v 2) (.v 1),1),(.le (.v 0) (.v 2),1)] (.lt (.v 0) (.v 1)) 1 rfl (Dt.mpr b) (Dm.mpr (Fd _ _))))
  have:(w&&&(w-1)).testBit w.log2=true:=by rw[Ej,t1,t2];rfl
  rw[h,Fi]at this
  exact aC this
 ·exact e.symm
noncomputable def cF(bd:List Int)(t:Nat):Nat:=cj (jp bd t) 30&&&cj (jo bd 6) 30
noncomputable def ft(bd:List Int)(t:Nat):Nat:=(cF bd t).log2
theorem wo(bd:List Int)(t:Nat):cF bd t<2^30:=Fv (Nat.and_le_left) (iA _ 30)
theorem ud(bd:List Int)(t:Nat):ft bd t<30:=by
 unfold ft
 by_cases h:cF bd t=0
 ·rw[h];decide
 ·exact(H8 h).mpr (wo bd t)
theorem pq{bd:List Int}{t:Nat}(h0:(bitAnd (SB bd t) (KB bd 6)==0)=false)(h1:(bitAnd (bitAnd (SB bd t) (KB bd 6)) (bitAnd (SB bd t) (KB bd 6)-1) !=0)=false):bitAnd (SB bd t) (KB bd 6)=2^ft bd t:=by
 have e:bitAnd (SB bd t) (KB bd 6)=((cF bd t:Nat):Int):=cx _ _
 rw[e]at h0 h1⊢
 have n0:cF bd t≠0:=by
  intro q
  rw[q]at h0
  cases h0
 have e2:((cF bd t:Nat):Int)-1=((cF bd t-1:Nat):Int):=by exact lM n0
 rw[e2,cx]at h1
 have z:cF bd t&&&(cF bd t-1)=0:=by
  exact Fp (Il.mp h1)
 have p:=wn n0 z
 unfold ft
 have:((cF bd t:Nat):Int)=((2^(cF bd t).log2:Nat):Int):=Ds _ p
 exists this
 simp
theorem kC{t:List Nat}{s:Nat}(e:dA t=some s):s<2:=by
 unfold dA at e
 split at e
 ·cases e;decide
 ·split at e
  ·cases e;decide
  ·exact bq e
theorem wq{t:List Nat}{v:Int}(e:uy t=some v):v<30/\(v= -1\/0<=v):=by
 unfold uy at e
 split at e
 ·cases e;decide
 ·split at e
  ·exact bq e
  ·rename_i z
   cases e
   have:cf t<30:=by
    by_cases l:t.length=2
    ·refine bj l λa r e0 l0=>bj l0 λb r e1 l1=>?_
     rw[e0,e1,EL l1]
     show nH _ _<30
     unfold nH
     split
     ·decide
     ·rename_i h
      simp at h
      lia
    ·rw[show cf t= -1 from pb l];decide
   exact And.intro this (Or.inr (Ez.mp z))
theorem rd:∀(r:List Nat)(rt:Nat)(last v:Int),rt<16-> -1<=last->cO rt last r=some v->0<=v/\v<16:=by
 intro r
 induction r with
 |nil=>exact λrt last v h n e=>by cases e;exact⟨(ao [rt] [(.le (.n 0) (.v 0),1)] (.le (.n 0) (.v 0)) 1 rfl (Dq _)),(ao [rt] [(.lt (.v 0) (.n 16),1)] (.lt (.v 0) (.n 16)) 1 rfl (Dt.mpr h))⟩
 |cons c r ih=>
  intro rt last v h n e
  unfold cO at e
  split at e
  ·exact bq e
  ·rename_i z
   have n0:0<=ac c rLet 0:=by exact ao [ac c rLet 0,last] [(.lt (.v 1) (.v 0),1),(.le (.g (.n 1)) (.v 1),1)] (.le (.n 0) (.v 0)) 1 rfl (Em.mp z) n
   have n1:ac c rLet 0<4:=by
    rcases eX (c:=c) rLet 0 with h|h
    ·have:((0+rLet.length:Nat):Int)=4:=rfl
     exact ES h (GX this)
    ·lia
   rw[nG,bS]at e
   refine ih _ _ v ?_ (by exact Eh (Fu n (Em.mp z))) e
   have:(ac c rLet 0).toNat<4:=by exact Dt.mp (ao [Nat.cast ((ac c rLet 0).toNat),ac c rLet 0] [(.lt (.v 1) (.n 4),1),(.eq (.v 0) (.v 1),1)] (.lt (.v 0) (.n 4)) 1 rfl n1 (DH n0))
   have p:2^(ac c rLet 0).toNat<2^4:=Nat.pow_lt_pow_right (by decide) this
   exact Nat.or_lt_two_pow (n:=4) h p
theorem fu{t:List Nat}{v:Int}(e:bJ t=some v):0<=v/\v<16:=by
 unfold bJ at e
 split at e
 ·cases e;decide
 ·split at e
  ·rename_i v' q
   split at e
   ·exact bq e
   ·cases e;exact rd t 0 (-1) _ (by decide) (by decide) q
  ·exact bq e
noncomputable def wr(bd:List Int)(s:Nat)(rt e:Int):Except Int Int:=tY s (ft bd (1-s)) bd rt e (SB bd 0) (SB bd 1) (KB bd 1) (KB bd 2) (KB bd 3) (KB bd 4) (KB bd 5) (KB bd 6)
theorem ue{h:Hp}{m L fb:Nat}{bd:List Int}{s:Nat}{rt e hf fl:Int}(H1:v0 h L (aM L))(H2:v0 h (L+31) (bC L))(hfb:h[fb]? =some (.list (bd.map .int))) (lb:bd.length=30) (eP:∀c∈bd,ey c) (hs:s<2) (r0:0<=rt) (r1:rt<16) (e1:e<30):
 zx h m L (L+51) bd [KB bd 0,KB bd 1,KB bd 2,KB bd 3,KB bd 4,KB bd 5,KB bd 6] [SB bd 0,SB bd 1] s rt hf fl [.tup [.ref fb,.int s,.int rt,.int e],.int hf,.int fl,.ref L,.ref (L+51)] (wr bd s rt e):=by
 refine dS wa λz1 z2 z3 z4=>?_
 refine aA (tZ H2) λy1 y2=>?_
 have a0:=gU (cj (jp bd 0) 30) (cj (jo bd 6) 30) (iA _ _)
 have a1:=gU (cj (jp bd 1) 30) (cj (jo bd 6) 30) (iA _ _)
 have a2:0<=bitAnd (KB bd 1) (bitOr 63 1056964608)/\bitAnd (KB bd 1) (bitOr 63 1056964608)<4294967296:=by
  have e:bitOr (63:Int) 1056964608=((63|||1056964608:Nat):Int):=bS 63 1056964608
  exists e
  exact gU _ _ (iA _ _)
 refine build_position (v7 H1) (AQ H2) y1 z1 z2 y2 z3 z4 hfb lb eP hs r0 r1 e1 (wk bd) (wm bd) a0.1 a0.2 a1.1 a1.2 a2.1 a2.2 (ud bd (1-s)) λk=>?_
 unfold dD at k
 refine zF k λk1 k2 k3 k4=>?_;clear k;(try simp only[Bool.not_eq_true']at k1 k2 k3 k4)
 rcases(by exact or2 hs:s=0\/s=1)with rfl|rfl
 ·exact pq (t:=1) k3 k4
 ·exact pq (t:=0) k1 k2
noncomputable def nL(t:List Nat):Except Int (List Int×Nat×Int×Int×Int×Int):=AJ (.error (-1)) (λq0 q1 q2 q3 q4 q5=>match eA q0 q1 q2 q3 with
 |.error p=>.error p
 |.ok (bd,s,rt,e)=>if aS q4<0 then .error 4 else if aS q5<1 then .error 5 else match wr bd s rt e with
  |.error p=>.error p
  |.ok e'=>.ok (bd,s,rt,e',aS q4,aS q5)) (aa 32 t)
theorem jq{q0 q1 q2 q3:List Nat}{bd:List Int}{s:Nat}{rt e:Int}(h:eA q0 q1 q2 q3=.ok (bd,s,rt,e)):cQ q0=some bd/\dA q1=some s/\bJ q2=some rt/\uy q3=some e:=by
 unfold eA at h
 cases a:cQ q0 with
 |none=>rw[a]at h;cases h
 |some b0=>
  rw[a]at h
  cases b:dA q1 with
  |none=>rw[b]at h;cases h
  |some s0=>
   rw[b]at h
   cases c:bJ q2 with
   |none=>rw[c]at h;cases h
   |some r0=>
    rw[c]at h
    cases d:uy q3 with
    |none=>rw[d]at h;cases h
    |some e0=>rw[d]at h;cases h;exact⟨rfl,rfl,rfl,rfl⟩
theorem kD:ae (nJ 0).length=true/\ae (nJ 1).length=true:=by decide+kernel
def AS(h:Hp)(m L:Nat)(t:List Nat):Except Int (List Int×Nat×Int×Int×Int×Int)->Prop
 |.error part=>yI h (m+14) 58 [.str t,.ref L,.ref (L+51)] part
 |.ok (bd,s,rt,e,hf,fl)=>∃(h':Hp)(p b k sd hist:Nat)(key:Int)(kd sds:List Int),Fun (m+14,none) h 58 [.str t,.ref L,.ref (L+51)] (.ok (.ref p) h')/\PosAt h' p L (L+51) b k sd hist bd kd sds s rt e hf fl key/\Mono h h'
theorem read_fen{h:Hp}{m L:Nat}{t:List Nat}(H1:v0 h L (aM L))(H2:v0 h (L+31) (bC L))(lt:t.length<=190):AS h m L t (nL t):=by
 have lo:ae t.length=true:=Du (by exact aT lt rfl)
 have sl:=fY (c:=32) t
 have se:=dO (c:=32) t
 have Sx:Ev (m+14,none) [some (.str t),some (.ref L),some (.ref (L+51)),none,none,none,none] h (.meth .split (.C8 0) [.str [32]]) (.ok (.ref h.length) (h++[O.list ((aa 32 t).map V.str)])):=.meth (.C8 rfl) rfl (.cons .str .nil) (fZ lo)
 have hr:(h++[O.list ((aa 32 t).map V.str)])[h.length]? =some (.list ((aa 32 t).map V.str)):=last_get
 have mono0:Mono h (h++[O.list ((aa 32 t).map V.str)]):=Mono.app1
 have Ln:=iC hr (by rw[DD];exact Du (by exact Dw sl.2 (Ea (aT lt rfl) _)))
 have C:=Ev.Dc (m:=m+14) (CT:=[some (.str t),some (.ref L),some (.ref (L+51)),some (.ref h.length),none,none,none]) (Evs.cons (.C8 (i:=3) rfl) .nil) Ln
 generalize eH:h++[O.list ((aa 32 t).map V.str)]=h1 at Sx hr mono0 Ln C
 cases z:((((aa 32 t).map V.str).length:Int) !=6)with
 |true=>
  have:nL t=.error (-1):=kt λq=>by rw[DD,q]at z;exact aC z
  exists this
  have FB:∀(m:Nat)(o:Option Nat)(t':List Nat)(q':Int),Fun (m+1,o) (h1++[if true then .exc 2 false []else .inst 2 []]) 6 [.ref h1.length,.int q',.str t'] (.ok .none (h1++[.exc 2 false [(0,.str t'),(2,.int q')]])):=λm o t' q'=>bz
  have q1:aV [.int ((((aa 32 t).map V.str).length:Nat):Int),.str [32,112,97,114,116,115,44,32,110,111,116,32,115,105,120]]=some (kB ((aa 32 t).map V.str).length++([32,112,97,114,116,115,44,32,110,111,116,32,115,105,120]++[])):=by
   have sm:small ((((aa 32 t).map V.str).length:Nat):Int)=true:=Du (by simp;exact Dw sl.2 (Ea (aT lt rfl) _))
   show(if small ((((aa 32 t).map V.str).length:Nat):Int)then _ else _)=_
   exists(if_pos sm);rfl
  have l1:ae (kB ((aa 32 t).map V.str).length++([32,112,97,114,116,115,44,32,110,111,116,32,115,105,120]++[])).length=true:=by
   have:=fX ((aa 32 t).map V.str).length (by simp;exact Dt.mp (ao [Nat.cast ((aa 32 t).length),t.length] [(.le (.v 0) (.a (.v 1) (.n 1)),1),(.le (.v 1) (.n 190),1)] (.lt (.v 0) (.n 202)) 1 rfl (Dm.mpr sl.2) (Dm.mpr lt)))
   refine Du ?_
   simp only[List.length_append,List.length_cons,List.length_nil];exact Ea (aT this rfl) _
  exact⟨_,_,_,_,Fun.exc rfl rfl (.cons (.C9 Sx) (.exc (.Db (.Df C .int rfl) (Ds some z) (.exc (.raise (.new rfl rfl (.cons (.neg .int) (.cons (.fstr (.cons C (.cons .str .nil)) q1 l1) .nil)) rfl (FB _ _ _ _)) last_get))))),last_get,rfl,Mono.app mono0⟩
 |false=>
  have l6:(aa 32 t).length=6:=by simp at z;exact DJ (Dm.mp (ao [Nat.cast ((aa 32 t).length)] [(.eq (.v 0) (.n 6),1)] (.le (.v 0) (.n 6)) 1 rfl z)) (Dm.mp (ao [Nat.cast ((aa 32 t).length)] [(.eq (.v 0) (.n 6),-1)] (.le (.n 6) (.v 0)) 1 rfl z))
  refine iI l6 λq0 q1 q2 q3 q4 q5 eq=>?_
  rw[eq]at hr se
  have sl0:=se q0 (by simp)
  have sl3:=se q3 (by simp)
  have sl4:=se q4 (by simp)
  have sl5:=se q5 (by simp)
  have hr:h1[h.length]? =some (.list [.str q0,.str q1,.str q2,.str q3,.str q4,.str q5]):=hr
  have G1:v0 h1 L (aM L):=λi o e=>mono0 _ _ (H1 i o e)
  have gg:=v7 G1
  have RF:=read_fields (m:=m+5) hr gg.obj gg.f3 gg.f4 (by exact Dw sl0 (aT lt rfl)) (by exact Dw sl3 (aT lt rfl)) (q0:=q0) (q3:=q3)
  have A54:Evs (m+14,none) [some (.str t),some (.ref L),some (.ref (L+51)),some (.ref h.length),none,none,none] h1 [.C8 3,.C8 1] (.ok [.ref h.length,.ref L] h1):=.cons (.C8 rfl) (.cons (.C8 rfl) .nil)
  unfold nL
  exists eq
  dsimp only[AJ]
  cases ef:eA q0 q1 q2 q3 with
  |error part=>
   rw[ef]at RF
   refine cW RF λn h' x fs F a b c=>?_;clear RF
   exact⟨n,h',x,fs,Fun.exc rfl rfl (.cons (.C9 Sx) (.cons (.Da (.Df C .int rfl) (Ds some z) .nil) (.exc (.Dl (.call A54 F))))),a,b,Mono.trans mono0 c⟩
  |ok r=>
   obtain⟨bd,s,rt,e⟩:=r
   rw[ef]at RF
   refine dS (jq ef) λi1 i2 i3 i4=>?_
   refine bL RF λh2 bl F hb l30 mono=>?_;clear RF
   have mono2:Mono h h2:=Mono.trans mono0 mono
   have hr2:=mono _ _ hr
   have g4:getitem (.ref h.length) (.int 4) h2=.ok (.str q4) h2:=gi hr2 (by decide) rfl rfl
   have g5:getitem (.ref h.length) (.int 5) h2=.ok (.str q5) h2:=gi hr2 (by decide) rfl rfl
   refine aA (read_clock (h:=h2) (m:=m+11) (t:=q4) (part:=4) (least:=0) (Du (by exact Dw sl4 (aT lt rfl))) rfl kD.1) λc4a c4b=>?_
   refine aA (read_clock (h:=h2) (m:=m+11) (t:=q5) (part:=5) (least:=1) (Du (by exact Dw sl5 (aT lt rfl))) rfl kD.2) λc5a c5b=>?_
   have pre:∀{rs:RS},Exs (m+14,none) [some (.str t),some (.ref L),some (.ref (L+51)),some (.ref h.length),some (.tup [.ref bl,.int s,.int rt,.int e]),none,none] h2 (f_read_fen.body.drop 3) rs->Exs (m+14,none) [some (.str t),some (.ref L),some (.ref (L+51)),none,none,none,none] h f_read_fen.body rs:=
    λR=>.cons (.C9 Sx) (.cons (.Da (.Df C .int rfl) (Ds some z) .nil) (.cons (.C9 (.call A54 F)) R))
   have A4:Evs (m+14,none) [some (.str t),some (.ref L),some (.ref (L+51)),some (.ref h.length),some (.tup [.ref bl,.int s,.int rt,.int e]),none,none] h2 [.sub (.C8 3) (.int 4),.int 4,.int 0] (.ok [.str q4,.int 4,.int 0] h2):=.cons (.sub (.C8 rfl) .int g4) (.cons .int (.cons .int .nil))
   dsimp only
   by_cases n4:aS q4<0
   ·exists(if_pos n4)
    refine cW ((c4b n4).m) λn h' x fs F4 a b c=>?_
    exact⟨n,h',x,fs,Fun.exc rfl rfl (pre (.exc (.Dl (.call A4 F4)))),a,b,Mono.trans mono2 c⟩
   ·exists(if_neg n4)
    have F4:=c4a (by exact Ez.mp n4)
    have A5:Evs (m+14,none) [some (.str t),some (.ref L),some (.ref (L+51)),some (.ref h.length),some (.tup [.ref bl,.int s,.int rt,.int e]),some (.int (aS q4)),none] h2 [.sub (.C8 3) (.int 5),.int 5,.int 1] (.ok [.str q5,.int 5,.int 1] h2):=.cons (.sub (.C8 rfl) .int g5) (.cons .int (.cons .int .nil))
    by_cases n5:aS q5<1
    ·exists(if_pos n5)
     refine cW ((c5b n5).m) λn h' x fs F5 a b c=>?_
     exact⟨n,h',x,fs,Fun.exc rfl rfl (pre (.cons (.C9 (.call A4 F4)) (.exc (.Dl (.call A5 F5))))),a,b,Mono.trans mono2 c⟩
    ·exists(if_neg n5)
     have F5:=c5a (by exact Ez.mp n5)
     have BR:=ue (m:=m+1) (hf:=aS q4) (fl:=aS q5) (λi o e=>mono2 _ _ (H1 i o e)) (λi o e=>mono2 _ _ (H2 i o e)) hb l30 (pn i1) (kC i2) (fu i3).1 (fu i3).2 (wq i4).1
     have AB:Evs (m+14,none) [some (.str t),some (.ref L),some (.ref (L+51)),some (.ref h.length),some (.tup [.ref bl,.int s,.int rt,.int e]),some (.int (aS q4)),some (.int (aS q5))] h2 [.C8 4,.C8 5,.C8 6,.C8 1,.C8 2] (.ok [.tup [.ref bl,.int s,.int rt,.int e],.int (aS q4),.int (aS q5),.ref L,.ref (L+51)] h2):=
      .cons (.C8 rfl) (.cons (.C8 rfl) (.cons (.C8 rfl) (.cons (.C8 rfl) (.cons (.C8 rfl) .nil))))
     cases ep:wr bd s rt e with
     |error part=>
      rw[ep]at BR
      refine cW BR λn h' x fs FB a b c=>?_;clear BR
      exact⟨n,h',x,fs,Fun.exc rfl rfl (pre (.cons (.C9 (.call A4 F4)) (.cons (.C9 (.call A5 F5)) (.exc (.retX (.call AB FB)))))),a,b,Mono.trans mono2 c⟩
     |ok e'=>
      rw[ep]at BR
      refine mD BR λh' p b k sd hist key FB Q c=>?_;clear BR
      exact⟨h',p,b,k,sd,hist,key,_,_,Fun.ret rfl rfl (pre (.cons (.C9 (.call A4 F4)) (.cons (.C9 (.call A5 F5)) (.ret (.ret (.call AB FB)))))),Q,Mono.trans mono2 c⟩
end
section
section
variable{d:Dp}{CT:Env}{e:E}{i:Nat}{fs:List E}{base:Hp}
theorem wt{P:Nat->Bool}{f:Nat->V}(hC:∀(c:Nat)(h':Hp),Chk d (CT.set i (some (.str [c]))) h' fs (.ok (P c) h'))(hE:∀(c:Nat)(h':Hp),P c=true->Ev d (CT.set i (some (.str [c]))) h' e (.ok (f c) h')):
 ∀(r:List Nat)(xs:List V),xs.length+r.length<=100000->Cp d CT (base++[.list xs]) e i (.str r) fs base.length (.ok () (base++[.list (xs++(r.filter P).map f)])):=by
 intro r
 induction r with
 |nil=>
  intro xs l
  have:base++[O.list (xs++(([]:List Nat).filter P).map f)]=base++[.list xs]:=by simp
  exists this;exact Cp.fin rfl
 |cons c r ih=>
  intro xs l
  simp only[List.length_cons]at l
  cases p:P c with
  |true=>
   have T:=ih (xs++[f c]) (by simp;exact Dm.mp (ao [xs.length,r.length] [(.le (.a (.v 0) (.a (.v 1) (.n 1))) (.n 100000),1)] (.le (.a (.a (.v 0) (.n 1)) (.v 1)) (.n 100000)) 1 rfl (Dm.mpr l)))
   exists(Gk (by exact p)),E0
   have e1:xs++[f c]++(r.filter P).map f=xs++f c::(r.filter P).map f:=by simp
   rw[e1]at T
   have C:=hC c (base++[.list xs])
   rw[p]at C
   refine Cp.yes rfl C (hE c _ p) last_get (Du (by exact Dm.mp (ao [xs.length,r.length] [(.le (.a (.v 0) (.a (.v 1) (.n 1))) (.n 100000),1),(.le (.n 0) (.v 1),1)] (.le (.v 0) (.n 100000)) 1 rfl (Dm.mpr l) (Dq _)))) ?_
   have e2:(base++[O.list xs]).set base.length (.list (xs++[f c]))=base++[.list (xs++[f c])]:=io
   exists e2;exact T
  |false=>
   have T:=ih xs (by exact Dm.mp (ao [xs.length,r.length] [(.le (.a (.v 0) (.a (.v 1) (.n 1))) (.n 100000),1)] (.le (.a (.v 0) (.v 1)) (.n 100000)) 1 rfl (Dm.mpr l)))
   exists(Gl (by rw[p];exact Do))
   have C:=hC c (base++[.list xs])
   rw[p]at C
   exact Cp.skip rfl C T
theorem nM{P:Int->Bool}{f:Int->V}{lo0 hi:Int}(hC:∀(c:Int)(h':Hp),lo0<=c->c<hi->Chk d (CT.set i (some (.int c))) h' fs (.ok (P c) h'))(hE:∀(c:Int)(h':Hp),lo0<=c->c<hi->P c=true->Ev d (CT.set i (some (.int c))) h' e (.ok (f c) h')):
 ∀(n:Nat)(lo:Int)(xs:List V),lo0<=lo->lo+n=hi->xs.length+n<=100000->Cp d CT (base++[.list xs]) e i (.rng lo hi 1) fs base.length (.ok () (base++[.list (xs++(((List.range n).map λ(k:Nat)=>lo+(k:Int)).filter P).map f)])):=by
 intro n
 induction n with
 |zero=>
  intro lo xs gl el l
  have:base++[O.list (xs++(((List.range 0).map λ(k:Nat)=>lo+(k:Int)).filter P).map f)]=base++[.list xs]:=by simp
  exists this;exact Cp.fin (jL (by exact Ez.mpr (ao [hi,lo] [(.eq (.a (.v 1) (.n 0)) (.v 0),-1)] (.le (.v 0) (.v 1)) 1 rfl el)))
 |succ n ih=>
  intro lo xs gl el l
  have re:(List.range (n+1)).map (λ(k:Nat)=>lo+(k:Int))=lo::(List.range n).map λ(k:Nat)=>(lo+1)+(k:Int):=by
   exists HU,E0,E8
   congr 1
   ·simp
   ·apply E5
    intro k _
    simp;exact D8 (ao [lo,k] [] (.le (.a (.v 0) (.a (.v 1) (.n 1))) (.a (.a (.v 0) (.n 1)) (.v 1))) 1 rfl) (ao [lo,k] [] (.le (.a (.a (.v 0) (.n 1)) (.v 1)) (.a (.v 0) (.a (.v 1) (.n 1)))) 1 rfl)
  exists re
  have nx:aP (base++[O.list xs]) (.rng lo hi 1)=.one (.int lo) (.rng (lo+1) hi 1):=fW (by exact ao [lo,hi,n] [(.eq (.a (.v 0) (.a (.v 2) (.n 1))) (.v 1),1),(.le (.n 0) (.v 2),1)] (.lt (.v 0) (.v 1)) 1 rfl el (Dq _))
  cases p:P lo with
  |true=>
   have T:=ih (lo+1) (xs++[f lo]) (by exact Eh (EN gl)) (by exact D8 (ao [lo,n,hi] [(.eq (.a (.v 0) (.a (.v 1) (.n 1))) (.v 2),1)] (.le (.a (.a (.v 0) (.n 1)) (.v 1)) (.v 2)) 1 rfl el) (ao [hi,lo,n] [(.eq (.a (.v 1) (.a (.v 2) (.n 1))) (.v 0),-1)] (.le (.v 0) (.a (.a (.v 1) (.n 1)) (.v 2))) 1 rfl el)) (by simp;exact Dm.mp (ao [xs.length,n] [(.le (.a (.v 0) (.a (.v 1) (.n 1))) (.n 100000),1)] (.le (.a (.a (.v 0) (.n 1)) (.v 1)) (.n 100000)) 1 rfl (Dm.mpr l)))
   exists(Gk (by exact p)),E0
   have e1:xs++[f lo]++(((List.range n).map λ(k:Nat)=>(lo+1)+(k:Int)).filter P).map f=xs++f lo::(((List.range n).map λ(k:Nat)=>(lo+1)+(k:Int)).filter P).map f:=by simp
   rw[e1]at T
   have C:=hC lo (base++[.list xs]) gl (by exact ao [lo,hi,n] [(.eq (.a (.v 0) (.a (.v 2) (.n 1))) (.v 1),1),(.le (.n 0) (.v 2),1)] (.lt (.v 0) (.v 1)) 1 rfl el (Dq _))
   rw[p]at C
   refine Cp.yes nx C (hE lo _ gl (by lia) p) last_get (Du (by exact Dm.mp (ao [xs.length,n] [(.le (.a (.v 0) (.a (.v 1) (.n 1))) (.n 100000),1),(.le (.n 0) (.v 1),1)] (.le (.v 0) (.n 100000)) 1 rfl (Dm.mpr l) (Dq _)))) ?_
   have e2:(base++[O.list xs]).set base.length (.list (xs++[f lo]))=base++[.list (xs++[f lo])]:=io
   exists e2;exact T
  |false=>
   have T:=ih (lo+1) xs (by exact Eh (EN gl)) (by exact D8 (ao [lo,n,hi] [(.eq (.a (.v 0) (.a (.v 1) (.n 1))) (.v 2),1)] (.le (.a (.a (.v 0) (.n 1)) (.v 1)) (.v 2)) 1 rfl el) (ao [hi,lo,n] [(.eq (.a (.v 1) (.a (.v 2) (.n 1))) (.v 0),-1)] (.le (.v 0) (.a (.a (.v 1) (.n 1)) (.v 2))) 1 rfl el)) (by exact Dm.mp (ao [xs.length,n] [(.le (.a (.v 0) (.a (.v 1) (.n 1))) (.n 100000),1)] (.le (.a (.v 0) (.v 1)) (.n 100000)) 1 rfl (Dm.mpr l)))
   exists(Gl (by rw[p];exact Do))
   have C:=hC lo (base++[.list xs]) gl (by lia)
   rw[p]at C
   exact Cp.skip nx C T
end
end
section
open PySem.Builtin (bitAnd bitOr bitXor bitNot)
noncomputable def bZ(c:Nat):Bool:=digs.contains c
noncomputable def f8(t:List Nat)(i:Nat):Int:=((t[t.length-1-i]?.getD 0:Nat):Int)-48
noncomputable def d9(t:List Nat):Option Int:=bI ((List.range t.length).map λi=>V.int (f8 t i*10^i))
noncomputable def bf(t:List Nat):Int:=match t with
 |[]=> -1
 |c::r=>if([c]==[48]&&(c::r) !=[48])=true then-1 else if((c::r).all bZ)=true then(d9 (c::r)).getD 0 else-1
theorem dP:∀xs:List Int,∃v,bI (xs.map V.int)=some v:=by
 intro xs
 induction xs with
 |nil=>exact⟨0,rfl⟩
 |cons x xs ih=>
  refine aB (ih) λv e=>?_
  exact⟨x+v,by show(bI (xs.map V.int)).map (x+·)=_;(exists e);rfl⟩
section
variable{h:Hp}{m:Nat}
theorem yJ{x0 x2:Option V}(c:Nat)(h':Hp):Chk (m,none) ([x0,none,x2].set 1 (some (.str [c]))) h' [.cmp (.C8 1) [.notin] [.str digs]] (.ok (!bZ c) h'):=by
 cases e:bZ c with
 |true=>exact Chk.stop (.Df (.C8 rfl) .str rfl) (Ds some (by show(!digs.contains c)=false;unfold bZ at e;(exists e);rfl))
 |false=>exact Chk.go (.Df (.C8 rfl) .str rfl) (Ds some (by show(!digs.contains c)=true;unfold bZ at e;(exists e);rfl)) .nil
theorem kE{h:Hp}{n:Nat}{xs:List V}(q:h[n]? =some (.list xs)) (l:ae xs.length=true):aO (.ref n) h=some (!xs.isEmpty):=by
 unfold aO
 dsimp only
 exists q
 dsimp only
 rw[if_pos l]
theorem uf{t:List Nat}(l:t.length<=1000){x2:Option V}:
 Ev (m+1,none) [some (.str t),none,x2] h (.comp (.C8 1) 1 (.C8 0) [.cmp (.C8 1) [.notin] [.str digs]]) (.ok (.ref h.length) (h++[.list ((t.filter λc=>!bZ c).map λc=>V.str [c])])):=by
 have T:=wt (d:=(m,none)) (CT:=[some (.str t),none,x2]) (i:=1) (e:=.C8 1) (fs:=[.cmp (.C8 1) [.notin] [.str digs]]) (base:=h) (P:=λc=>!bZ c) (f:=λc=>V.str [c]) (λc h'=>yJ c h') (λc h' _=>.C8 rfl) t [] (by simp;exact aT l rfl)
 rw[Ft]at T
 exact Ev.comp (.C8 rfl) rfl T
theorem AT{a b:Int}{h:Hp}(n0:0<=b)(n1:b<=1000)(sm:small a=true):ba .pow (.int a) (.int b) h=.ok (.int (a^b.toNat)) h:=by
 show(if(0<=b&&decide (b<=1000)&&small a)=true then R.ok (V.int (a^b.toNat)) h else .no)=_
 exists(if_pos (by simp[n0,n1,sm]));rfl
theorem sE{a b:Int}{h:Hp}(n:small a=true):ba .mul (.int a) (.int b) h=.ok (.int (a*b)) h:=if_pos (by(exists n);rfl)
theorem wu{h:Hp}{t:List Nat}{c:Nat}{k:Nat}(l:ae t.length=true)(hk:k<t.length)(e:t[t.length-1-k]? =some c):getitem (.str t) (.int (-1-(k:Int))) h=.ok (.str [c]) h:=by
 unfold getitem
 dsimp only
 exists(if_pos l),(if_neg (show¬(0:Int)<= -1-(k:Int) by exact Em.mpr (ao [k] [(.le (.n 0) (.v 0),1)] (.lt (.s (.g (.n 1)) (.v 0)) (.n 0)) 1 rfl (Dq _)))),(if_pos (show(0:Int)<= -1-(k:Int)+(t.length:Int) by exact ao [k,t.length] [(.lt (.v 0) (.v 1),1)] (.le (.n 0) (.a (.s (.g (.n 1)) (.v 0)) (.v 1))) 1 rfl (Dt.mpr hk)))
 have:(-1-(k:Int)+(t.length:Int)).toNat=t.length-1-k:=xg _ _
 rw[this,e]
theorem pr{c:Nat}(h:bZ c=true):48<=c/\c<=57:=by
 have m:c∈digs:=DS.mp h
 exact(by decide:∀x∈digs,48<=x/\x<=57) c m
theorem rf{t:List Nat}(al:t.all bZ=true)(l:t.length<=1000){x1:Option V}:
 Ev (m+1,none) [some (.str t),x1,none] h (.comp (.bin .mul (.bin .sub (.Dc .ord [.sub (.C8 0) (.bin .sub (.neg (.int 1)) (.C8 2))]) (.int 48)) (.bin .pow (.int 10) (.C8 2))) 2 (.Dc .range [.Dc .len [.C8 0]]) [])
  (.ok (.ref h.length) (h++[.list ((List.range t.length).map λi=>V.int (f8 t i*10^i))])):=by
 have lo:ae t.length=true:=Du (by exact aT l rfl)
 have T:=nM (d:=(m,none)) (CT:=[some (.str t),x1,none]) (i:=2) (e:=.bin .mul (.bin .sub (.Dc .ord [.sub (.C8 0) (.bin .sub (.neg (.int 1)) (.C8 2))]) (.int 48)) (.bin .pow (.int 10) (.C8 2))) (fs:=[]) (base:=h) (lo0:=0) (hi:=t.length) (P:=λ_=>true)
  (f:=λc=>V.int (f8 t c.toNat*10^c.toNat)) (λc h' _ _=>.nil) (λc h' c0 c1 _=>by
   obtain⟨k,rfl⟩:∃k:Nat,c=(k:Int):=⟨c.toNat,by exact Eq.symm (DH c0)⟩
   have kl:k<t.length:=by exact Dt.mp c1
   obtain⟨ch,hc⟩:∃ch,t[t.length-1-k]? =some ch:=⟨_,DI (zD (by assumption))⟩
   have dg:=pr (DE.mp al ch (DR hc))
   have dv:f8 t ((k:Int)).toNat=(ch:Int)-48:=by
    show((t[t.length-1-k]?.getD 0:Nat):Int)-48=_
    exists hc;rfl
   exists dv
   exact .bin (.bin (.Dc (.cons (.sub (.C8 rfl) (.bin (.neg .int) (.C8 rfl) rfl) (wu lo kl hc)) .nil) rfl) .int rfl) (.bin .int (.C8 rfl) (AT c0 (by exact ao [k,t.length] [(.lt (.v 0) (.v 1),1),(.le (.v 1) (.n 1000),1)] (.le (.v 0) (.n 1000)) 1 rfl (Dt.mpr kl) (Dm.mpr l)) rfl)) (sE (Du (by exact eI (ao [ch] [(.le (.n 48) (.v 0),1)] (.le (.g (.n 18446744073709551615)) (.s (.v 0) (.n 48))) 1 rfl (Dm.mpr dg.1)) (ao [ch] [(.le (.v 0) (.n 57),1)] (.le (.s (.v 0) (.n 48)) (.n 18446744073709551615)) 1 rfl (Dm.mpr dg.2)))))) t.length 0 [] (by decide) (by exact D8 (ao [t.length] [] (.le (.a (.n 0) (.v 0)) (.v 0)) 1 rfl) (ao [t.length] [] (.le (.v 0) (.a (.n 0) (.v 0))) 1 rfl)) (by simp;exact aT l rfl)
 have e:([]:List V)++((((List.range t.length).map λ(k:Nat)=>(0:Int)+(k:Int)).filter λ_=>true).map λc=>V.int (f8 t c.toNat*10^c.toNat))=(List.range t.length).map λi=>V.int (f8 t i*10^i):=by
  rw[Ft,GG.mpr (λ_ _=>rfl),E8]
  apply E5
  intro k _
  simp
 rw[e]at T
 have mk:fF (.rng 0 (t.length:Int) 1) h=some (.rng 0 (t.length:Int) 1):=by
  have t2:ja (t.length:Int)=true:=Du (by exact eI (ao [t.length] [(.le (.n 0) (.v 0),1)] (.le (.g (.n 2000000000000000000)) (.v 0)) 1 rfl (Dq _)) (ao [t.length] [(.le (.v 0) (.n 1000),1)] (.le (.v 0) (.n 2000000000000000000)) 1 rfl (Dm.mpr l)))
  show(if(ja 0&&ja (t.length:Int))=true then some (It.rng 0 (t.length:Int) 1)else none)=_
  exists t2;rfl
 exact Ev.comp (.Dc (.cons (.Dc (.cons (.C8 rfl) .nil) (if_pos lo)) .nil) (if_pos (by exact Du (by exact eI (ao [t.length] [(.le (.n 0) (.v 0),1)] (.le (.g (.n 18446744073709551615)) (.v 0)) 1 rfl (Dq _)) (ao [t.length] [(.le (.v 0) (.n 1000),1)] (.le (.v 0) (.n 18446744073709551615)) 1 rfl (Dm.mpr l)))))) mk T
end
section
variable{h:Hp}{m:Nat}
theorem AU{h:Hp}{n:Nat}{xs:List V}{v:Int}(q:h[n]? =some (.list xs)) (e:bI xs=some v):bcall .sum [.ref n] h=.ok (.int v) h:=by
 unfold bcall
 dsimp only
 unfold xk
 dsimp only
 exists q
 dsimp only
 exists e;rfl
theorem lJ(t:List Nat):∃v,d9 t=some v:=by
 refine aB (dP ((List.range t.length).map λi=>f8 t i*10^i)) λv e=>?_
 refine⟨v,?_⟩
 unfold d9
 refine bt e ?_;exists E8;rfl
theorem mf{t:List Nat}(l:t.length<=1000):∃h':Hp,Fun (m+1,none) h 63 [.str t] (.ok (.int (bf t)) h')/\Mono h h':=by
 induction t using List.casesOn with
 |nil=>exact⟨h,Fun.ret rfl rfl (.ret (.Db (.or (.stop (.Df (.C8 rfl) .str rfl) rfl)) rfl (.ret (.ret (.neg .int))))),Mono.refl⟩
 |cons c r=>
  have lo:ae (c::r).length=true:=Du (by exact aT l rfl)
  have g0:getitem (.str (c::r)) (.int 0) h=.ok (.str [c]) h:=by
   unfold getitem
   dsimp only
   exists(if_pos lo);rfl
  have A1:∀{rv:R V},Ands (m+1,none) [some (.str (c::r)),none,none] h false [.and [.cmp (.sub (.C8 0) (.int 0)) [.eq] [.str [48]],.cmp (.C8 0) [.ne] [.str [48]]],.comp (.C8 1) 1 (.C8 0) [.cmp (.C8 1) [.notin] [.str [48,49,50,51,52,53,54,55,56,57]]]] rv->Ev (m+1,none) [some (.str (c::r)),none,none] h
   (.or [.cmp (.C8 0) [.eq] [.str []],.and [.cmp (.sub (.C8 0) (.int 0)) [.eq] [.str [48]],.cmp (.C8 0) [.ne] [.str [48]]],.comp (.C8 1) 1 (.C8 0) [.cmp (.C8 1) [.notin] [.str [48,49,50,51,52,53,54,55,56,57]]]]) rv:=λH=>.or (.go (.Df (.C8 rfl) .str rfl) rfl H)
  have N:∀b:Bool,([c]==[48]&&(c::r) !=[48])=b->Ev (m+1,none) [some (.str (c::r)),none,none] h (.and [.cmp (.sub (.C8 0) (.int 0)) [.eq] [.str [48]],.cmp (.C8 0) [.ne] [.str [48]]]) (.ok (.bool b) h):=λb e=>by
   cases e1:([c]==[48])with
   |false=>rw[e1]at e;cases e;exact .and (.stop (.Df (.sub (.C8 rfl) .int g0) .str (Ds some e1)) rfl)
   |true=>
    rw[e1]at e
    exact .and (.go (.Df (.sub (.C8 rfl) .int g0) .str (Ds some e1)) rfl (.one (.Df (.C8 rfl) .str (Ds some e))))
  unfold bf
  dsimp only
  cases e:([c]==[48]&&(c::r) !=[48])with
  |true=>
   exists(if_pos rfl)
   exact⟨h,Fun.ret rfl rfl (.ret (.Db (A1 (.stop (N true e) rfl)) rfl (.ret (.ret (.neg .int))))),Mono.refl⟩
  |false=>
   exists(if_neg Do)
   have B:=uf (h:=h) (m:=m) l (x2:=none)
   have D:=A1 (.go (N false e) rfl (.one B))
   have fl:(((c::r).filter λc=>!bZ c).map λc=>V.str [c]).length<=1000:=by
    rw[DD]
    exact Dw (List.length_filter_le _ _) l
   have T:=kE (h:=h++[.list (((c::r).filter λc=>!bZ c).map λc=>V.str [c])]) (n:=h.length) last_get (Du (by exact aT fl rfl))
   have E:(((c::r).filter λc=>!bZ c).map λc=>V.str [c]).isEmpty=(c::r).all bZ:=by
    exists List.isEmpty_map
    generalize c::r=u
    induction u with
    |nil=>rfl
    |cons x u ih=>
     cases ex:bZ x with
     |true=>(exists(Gl (by simp[ex])),ih);simp[ex]
     |false=>(exists(Gk (by simp[ex])));simp[ex]
   rw[E]at T
   have mono:∀(n:Nat)(o:O),h[n]? =some o->(h++[O.list (((c::r).filter λc=>!bZ c).map λc=>V.str [c])])[n]? =some o:=Mono.app1
   generalize h++[O.list (((c::r).filter λc=>!bZ c).map λc=>V.str [c])]=h1 at D T mono
   cases al:(c::r).all bZ with
   |false=>
    exists(if_neg Do)
    rw[al]at T
    exact⟨h1,Fun.ret rfl rfl (.ret (.Db D T (.ret (.ret (.neg .int))))),mono⟩
   |true=>
    exists(if_pos rfl)
    rw[al]at T
    refine aB (lJ (c::r)) λv ev=>?_
    exists ev
    exact⟨_,Fun.ret rfl rfl (.cons (.Da D T .nil) (.ret (.ret (.Dc (.cons (rf al l) .nil) (AU last_get ev))))),Mono.app mono⟩
end
noncomputable def dg6:List Nat:=[49,50,51,52,53,54]
noncomputable def lt12:List Nat:=[80,78,66,82,81,75,112,110,98,114,113,107]
noncomputable def D6:List V:=dg6.map λc=>.str [c]
noncomputable def eY(wd:Bool)(wide:List Nat):List Nat->Option (List Nat)
 |[]=>some wide
 |c::r=>if(dg6.contains c&& !wd)=true then eY true (wide++List.replicate (c-48) 46) r else if lt12.contains c=true then eY (dg6.contains c) (wide++[c]) r else none
noncomputable def eZ(CU:List Nat):List (List Nat)->Option (List Nat)
 |[]=>some CU
 |r::rs=>match eY false [] r with
  |some w=>if((w.length:Int) !=6)=true then none else eZ (w++CU) rs
  |none=>none
noncomputable def bh(t:List Nat):List Nat:=match eZ [] (aa 47 t)with
 |some c=>if(((((aa 47 t).map V.str).length:Nat):Int)==5)=true then c else[]
 |none=>[]
theorem kF{s:List Nat}{n:Nat}{h:Hp}{xs:List V}(q:h[n]? =some (.list xs)):isin (.str s) (.ref n) h=cK s xs:=by
 have:isin (.str s) (.ref n) h=(match h[n]? with|some (.list xs)=>cK s xs|some (.dict kvs)=>some (cL s kvs).isSome|_=>none):=by
  induction s using List.casesOn with
  |nil=>rfl
  |cons a r=>cases r<;>rfl
 exists this,q;rfl
theorem rg(c:Nat):∀l:List Nat,cK [c] (l.map λx=>V.str [x])=some (l.contains c):=by
 intro l
 induction l with
 |nil=>exact rfl
 |cons x l ih=>
  show(cK [c] (l.map λx=>V.str [x])).map (λb=>[x]==[c]||b)=_
  exists(ih)
  have:([x]==[c])=(c==x):=by
   exists(show([x]==[c])=((x==c)&&(([]:List Nat)==[]))from rfl)
   simp[Bool.beq_comm]
  exists Eu;refine bt this ?_;rfl
theorem yK:ae dg6.length=true:=rfl
theorem wv{c:Nat}(h:dg6.contains c=true)(hp:Hp):slice (.str [46,46,46,46,46,46]) none (some (.int ((c:Int)-48))) hp=.ok (.str (List.replicate (c-48) 46)) hp/\(List.replicate (c-48) 46:List Nat).length<=6:=by
 have m:c∈dg6:=DS.mp h
 simp only[dg6,List.mem_cons,List.not_mem_nil,or_false]at m
 rcases m with rfl|rfl|rfl|rfl|rfl|rfl<;>exact⟨rfl,by decide⟩
theorem cR{a b:List Nat}{h:Hp}(l:a.length+b.length<=100000):ba .add (.str a) (.str b) h=.ok (.str (a++b)) h:=if_pos (Du l)
theorem yL{s:List Nat}{h:Hp}(l:ae s.length=true):bcall .list [.str s] h=.ok (.ref h.length) (h++[.list (s.map λc=>.str [c])]):=if_pos l
noncomputable def lcOut:List S:=im f_law_cells.body 2
noncomputable def nO:List S:=im lcOut 2
section
variable{m:Nat}
theorem yM{x0 x1 x2 x3:Option V}:∀(r:List Nat)(wd:Bool)(wide last:List Nat)(x6:Option V)(h:Hp),cK last D6=some wd->wide.length+6*r.length<=100000->
 (∀w,eY wd wide r=some w->∃(h':Hp)(y5 y6:Option V),Lp (m,none) [x0,x1,x2,x3,some (.str wide),some (.str last),x6] h 6 (.str r) nO (.ok .next [x0,x1,x2,x3,some (.str w),y5,y6] h')/\Mono h h')/\
 (eY wd wide r=none->∃(h':Hp)(C4:Env),Lp (m,none) [x0,x1,x2,x3,some (.str wide),some (.str last),x6] h 6 (.str r) nO (.ok (.ret (.str [])) C4 h')/\Mono h h'):=by
 intro r
 induction r with
 |nil=>exact λwd wide last x6 h il bd=>⟨λw e=>by cases e;exact⟨h,_,x6,Lp.fin rfl,Mono.refl⟩,λe=>by cases e⟩
 |cons c r ih=>
  intro wd wide last x6 h il bd
  simp only[List.length_cons]at bd
  have LB:cK [c] D6=some (dg6.contains c):=rg c dg6
  unfold eY
  have nx:aP h (.str (c::r))=.one (.str [c]) (.str r):=rfl
  have TT:∃h1:Hp,Ev (m,none) [x0,x1,x2,x3,some (.str wide),some (.str last),some (.str [c])] h (.and [.cmp (.C8 6) [.isin] [.str [49,50,51,52,53,54]],.cmp (.C8 5) [.notin] [.Dc .list [.str [49,50,51,52,53,54]]]]) (.ok (.bool (dg6.contains c&& !wd)) h1)/\Mono h h1:=by
   cases e:dg6.contains c with
   |false=>exact⟨h,.and (.stop (.Df (.C8 rfl) .str (Ds some e)) rfl),Mono.refl⟩
   |true=>
    refine⟨h++[O.list D6],.and (.go (.Df (.C8 rfl) .str (Ds some e)) rfl (.one (.Df (.C8 rfl) (.Dc (.cons .str .nil) (yL yK)) ?_))),Mono.app1⟩
    show(isin (.str last) (.ref h.length) (h++[O.list D6])).map (!·)=_
    exists(kF last_get),il;rfl
  refine ai TT λh1 TE mono1=>?_;clear TT
  cases t:(dg6.contains c&& !wd)with
  |true=>
   exists(if_pos rfl)
   rw[t]at TE
   have c6:dg6.contains c=true:=by replace t:=and2 t;exact t.1
   refine aA (wv c6 h1) λsl ll=>?_
   rw[c6]at LB
   refine aA (ih true (wide++List.replicate (c-48) 46) [c] (some (.str [c])) h1 LB (by(exists D0);exact Dm.mp (ao [wide.length,Nat.cast ((List.replicate (c-48) 46).length),r.length] [(.le (.v 1) (.n 6),1),(.le (.a (.v 0) (.m 6 (.a (.v 2) (.n 1)))) (.n 100000),1)] (.le (.a (.a (.v 0) (.v 1)) (.m 6 (.v 2))) (.n 100000)) 1 rfl (Dm.mpr ll) (Dm.mpr bd)))) λi1 i2=>?_
   have B:Exs (m,none) [x0,x1,x2,x3,some (.str wide),some (.str last),some (.str [c])] h nO (.ok .next [x0,x1,x2,x3,some (.str (wide++List.replicate (c-48) 46)),some (.str [c]),some (.str [c])] h1):=
    .cons (.Db TE rfl (.cons (.aug rfl rfl (.slice01 .str (.bin (.Dc (.cons (.C8 rfl) .nil) rfl) .int rfl) sl) (cR (by exact Dm.mp (ao [wide.length,Nat.cast ((List.replicate (c-48) 46).length),r.length] [(.le (.v 1) (.n 6),1),(.le (.a (.v 0) (.m 6 (.a (.v 2) (.n 1)))) (.n 100000),1),(.le (.n 0) (.v 2),6)] (.le (.a (.v 0) (.v 1)) (.n 100000)) 1 rfl (Dm.mpr ll) (Dm.mpr bd) (Dq _))))) .nil)) (.cons (.C9 (.C8 rfl)) .nil)
   exact⟨λw e=>bQ (i1 w e) λh' y5 y6 L k=>⟨h',y5,y6,Lp.next nx B L,Mono.trans mono1 k⟩,λe=>aD (i2 e) λh' C4 L k=>⟨h',C4,Lp.next nx B L,Mono.trans mono1 k⟩⟩
  |false=>
   exists(if_neg Do)
   rw[t]at TE
   cases e2:lt12.contains c with
   |true=>
    exists(if_pos rfl)
    refine aA (ih (dg6.contains c) (wide++[c]) [c] (some (.str [c])) h1 LB (by(exists D0);simp;exact Dm.mp (ao [wide.length,r.length] [(.le (.a (.v 0) (.m 6 (.a (.v 1) (.n 1)))) (.n 100000),1)] (.le (.a (.a (.v 0) (.n 1)) (.m 6 (.v 1))) (.n 100000)) 1 rfl (Dm.mpr bd)))) λi1 i2=>?_
    have B:Exs (m,none) [x0,x1,x2,x3,some (.str wide),some (.str last),some (.str [c])] h nO (.ok .next [x0,x1,x2,x3,some (.str (wide++[c])),some (.str [c]),some (.str [c])] h1):=
     .cons (.Da TE rfl (.cons (.Db (.Df (.C8 rfl) .str (Ds some e2)) rfl (.cons (.aug rfl rfl (.C8 rfl) (cR (by simp;exact Dm.mp (ao [wide.length,r.length] [(.le (.a (.v 0) (.m 6 (.a (.v 1) (.n 1)))) (.n 100000),1),(.le (.n 0) (.v 1),6)] (.le (.v 0) (.n 99999)) 1 rfl (Dm.mpr bd) (Dq _))))) .nil)) .nil)) (.cons (.C9 (.C8 rfl)) .nil)
    exact⟨λw e=>bQ (i1 w e) λh' y5 y6 L k=>⟨h',y5,y6,Lp.next nx B L,Mono.trans mono1 k⟩,λe=>aD (i2 e) λh' C4 L k=>⟨h',C4,Lp.next nx B L,Mono.trans mono1 k⟩⟩
   |false=>
    exists(if_neg Do)
    exact⟨λw e=>(by cases e),λ_=>⟨h1,_,Lp.ret nx (.ret (.Da TE rfl (.ret (.Da (.Df (.C8 rfl) .str (Ds some e2)) rfl (.ret (.ret .str)))))),mono1⟩⟩
theorem sF{α:Type}{rows:List α}{i:Nat}{r:α}{rs:List α}(h:rows.drop i=r::rs):rows[i]? =some r/\rows.drop (i+1)=rs:=by
 constructor
 ·have:(rows.drop i)[0]? =some r:=by(exists h);rfl
  rw[Fw]at this
  exact this
 ·refine bt FU ?_;exists h;rfl
theorem yN{rows:List (List Nat)}{rl:Nat}{x0 x1:Option V}(rlen:∀r∈rows,r.length<=1000):∀(rs:List (List Nat))(i:Nat)(CU:List Nat)(x3 x4 x5 x6:Option V)(h:Hp),rows.drop i=rs->h[rl]? =some (.list (rows.map .str))->CU.length+6*rs.length<=90000->
 (∀w,eZ CU rs=some w->∃(h':Hp)(y3 y4 y5 y6:Option V),Lp (m+1,none) [x0,x1,some (.str CU),x3,x4,x5,x6] h 3 (.lst rl i) lcOut (.ok .next [x0,x1,some (.str w),y3,y4,y5,y6] h')/\Mono h h')/\
 (eZ CU rs=none->∃(h':Hp)(C4:Env),Lp (m+1,none) [x0,x1,some (.str CU),x3,x4,x5,x6] h 3 (.lst rl i) lcOut (.ok (.ret (.str [])) C4 h')/\Mono h h'):=by
 intro rs
 induction rs with
 |nil=>
  intro i CU x3 x4 x5 x6 h dr hr bd
  have fin:aP h (.lst rl i)=.fin:=nw hr (by
   rw[EG,DD]
   exact FK.mp dr)
  exact⟨λw e=>by cases e;exact⟨h,x3,x4,x5,x6,Lp.fin fin,Mono.refl⟩,λe=>by cases e⟩
 |cons r rs ih=>
  intro i CU x3 x4 x5 x6 h dr hr bd
  simp only[List.length_cons]at bd
  refine aA (sF dr) λa1 a2=>?_
  have rm:r.length<=1000:=rlen r (DR a1)
  have nx:aP h (.lst rl i)=.one (.str r) (.lst rl (i+1)):=kx hr (by(exists DZ,a1);rfl)
  refine aA (yM (m:=m) (x0:=x0) (x1:=x1) (x2:=some (.str CU)) (x3:=some (.str r)) r false [] [] x6 h rfl (by simp;exact Dm.mp (ao [r.length] [(.le (.v 0) (.n 1000),6)] (.le (.m 6 (.v 0)) (.n 100000)) 1 rfl (Dm.mpr rm)))) λl1 l2=>?_
  have pre:∀{rs:RS},Exs (m+1,none) [x0,x1,some (.str CU),some (.str r),some (.str []),some (.str []),x6] h (lcOut.drop 2) rs->Exs (m+1,none) [x0,x1,some (.str CU),some (.str r),x4,x5,x6] h lcOut rs:=λR=>.cons (.C9 .str) (.cons (.C9 .str) R)
  unfold eZ
  cases e:eY false [] r with
  |none=>
   refine aD (l2 e) λh' C4 L k=>?_
   exact⟨λw e=>(by cases e),λ_=>⟨h',C4,Lp.ret nx (pre (.ret (.for (.C8 rfl) rfl L))),k⟩⟩
  |some w=>
   refine bQ (l1 w e) λh1 y5 y6 L k=>?_
   dsimp only
   have lw:ae w.length=true:=by
    have:∀(r:List Nat)(wd:Bool)(wide w:List Nat),eY wd wide r=some w->w.length<=wide.length+6*r.length:=by
     intro r
     induction r with
     |nil=>intro wd wide w e;cases e;simp
     |cons c r ih=>
      intro wd wide w e
      unfold eY at e
      split at e
      ·rename_i t
       replace t:=and2 t
       have:=ih _ _ _ e
       have l6:=(wv t.1 []).2
       rw[D0]at this
       simp only[List.length_cons];lia
      ·split at e
       ·have:=ih _ _ _ e
        rw[D0]at this
        simp only[List.length_cons,List.length_nil]at this⊢;lia
       ·exact bq e
    have:=this r false [] w e
    exact Du (by simp at this;exact Dm.mp (ao [w.length,r.length] [(.le (.v 0) (.m 6 (.v 1)),1),(.le (.v 1) (.n 1000),6)] (.le (.v 0) (.n 100000)) 1 rfl (Dm.mpr this) (Dm.mpr rm)))
   have LN:Ev (m+1,none) [x0,x1,some (.str CU),some (.str r),some (.str w),y5,y6] h1 (.cmp (.Dc .len [.C8 4]) [.ne] [.int 6]) (.ok (.bool ((w.length:Int) !=6)) h1):=.Df (.Dc (.cons (.C8 rfl) .nil) (if_pos lw)) .int rfl
   cases w6:((w.length:Int) !=6)with
   |true=>
    exists(if_pos rfl)
    rw[w6]at LN
    exact⟨λw e=>(by cases e),λ_=>⟨h1,_,Lp.ret nx (pre (.cons (.for (.C8 rfl) rfl L) (.ret (.Db LN rfl (.ret (.ret .str)))))),k⟩⟩
   |false=>
    exists(if_neg Do)
    rw[w6]at LN
    have w6':w.length=6:=by simp at w6;exact DJ (Dm.mp (ao [w.length] [(.eq (.v 0) (.n 6),1)] (.le (.v 0) (.n 6)) 1 rfl w6)) (Dm.mp (ao [w.length] [(.eq (.v 0) (.n 6),-1)] (.le (.n 6) (.v 0)) 1 rfl w6))
    have B:Exs (m+1,none) [x0,x1,some (.str CU),some (.str r),x4,x5,x6] h lcOut (.ok .next [x0,x1,some (.str (w++CU)),some (.str r),some (.str w),y5,y6] h1):=
     pre (.cons (.for (.C8 rfl) rfl L) (.cons (.Da LN rfl .nil) (.cons (.C9 (.bin (.C8 rfl) (.C8 rfl) (cR (by exact Dm.mp (ao [w.length,CU.length,rs.length] [(.eq (.v 0) (.n 6),1),(.le (.a (.v 1) (.m 6 (.a (.v 2) (.n 1)))) (.n 90000),1),(.le (.n 0) (.v 2),6)] (.le (.a (.v 0) (.v 1)) (.n 100000)) 1 rfl (Ds Int.ofNat w6') (Dm.mpr bd) (Dq _)))))) .nil)))
    refine aA (ih (i+1) (w++CU) (some (.str r)) (some (.str w)) y5 y6 h1 a2 (k _ _ hr) (by(exists D0);exact Dm.mp (ao [w.length,CU.length,rs.length] [(.eq (.v 0) (.n 6),1),(.le (.a (.v 1) (.m 6 (.a (.v 2) (.n 1)))) (.n 90000),1)] (.le (.a (.a (.v 0) (.v 1)) (.m 6 (.v 2))) (.n 90000)) 1 rfl (Ds Int.ofNat w6') (Dm.mpr bd)))) λi1 i2=>?_
    exact⟨λw e=>cV (i1 w e) λh' z3 z4 z5 z6 L k2=>⟨h',z3,z4,z5,z6,Lp.next nx B L,Mono.trans k k2⟩,λe=>aD (i2 e) λh' C4 L k2=>⟨h',C4,Lp.next nx B L,Mono.trans k k2⟩⟩
theorem ug{h:Hp}{t:List Nat}(lt:t.length<=200):∃h':Hp,Fun (m+2,none) h 62 [.str t] (.ok (.str (bh t)) h')/\Mono h h':=by
 have lo:ae t.length=true:=Du (by exact aT lt rfl)
 have sl:=fY (c:=47) t
 have se:=dO (c:=47) t
 have Sx:Ev (m+2,none) [some (.str t),none,none,none,none,none,none] h (.meth .split (.C8 0) [.str [47]]) (.ok (.ref h.length) (h++[O.list ((aa 47 t).map V.str)])):=.meth (.C8 rfl) rfl (.cons .str .nil) (fZ lo)
 have hr:(h++[O.list ((aa 47 t).map V.str)])[h.length]? =some (.list ((aa 47 t).map V.str)):=last_get
 have mono0:Mono h (h++[O.list ((aa 47 t).map V.str)]):=Mono.app1
 generalize h++[O.list ((aa 47 t).map V.str)]=h1 at Sx hr mono0
 refine aA (yN (m:=m) (x0:=some (.str t)) (x1:=some (.ref h.length)) (rows:=aa 47 t) (rl:=h.length) (λr hr=>by have:=se r hr;exact Dw this (aT lt rfl)) (aa 47 t) 0 [] none none none none h1 rfl hr (by simp;exact Dm.mp (ao [Nat.cast ((aa 47 t).length),t.length] [(.le (.v 0) (.a (.v 1) (.n 1)),6),(.le (.v 1) (.n 200),6)] (.le (.m 6 (.v 0)) (.n 90000)) 1 rfl (Dm.mpr sl.2) (Dm.mpr lt)))) λl1 l2=>?_
 have mk:fF (.ref h.length) h1=some (.lst h.length 0):=by
  show(match h1[h.length]? with|some (.list _)=>some (It.lst h.length 0)|_=>none)=_
  exists hr;rfl
 unfold bh
 cases e:eZ [] (aa 47 t)with
 |none=>
  refine aD (l2 e) λh' C4 L k=>?_
  exact⟨h',Fun.ret rfl rfl (.cons (.C9 Sx) (.cons (.C9 .str) (.ret (.for (.C8 rfl) mk L)))),Mono.trans mono0 k⟩
 |some w=>
  refine cV (l1 w e) λh' y3 y4 y5 y6 L k=>?_
  have Ln:=iC (k _ _ hr) (by rw[DD];exact Du (by exact Dw sl.2 (Ea (aT lt rfl) _)))
  refine⟨h',Fun.ret rfl rfl (.cons (.C9 Sx) (.cons (.C9 .str) (.cons (.for (.C8 rfl) mk L) (.ret (.ret ?_))))),Mono.trans mono0 k⟩
  dsimp only
  cases z:(((((aa 47 t).map V.str).length:Nat):Int)==5)with
  |true=>(exists(if_pos rfl));exact .iteT (.Df (.Dc (.cons (.C8 rfl) .nil) Ln) .int (Ds some z)) rfl (.C8 rfl)
  |false=>(exists(if_neg Do));exact .iteF (.Df (.Dc (.cons (.C8 rfl) .nil) Ln) .int (Ds some z)) rfl .str
end
section
variable{d:Dp}{CT:Env}{h:Hp}{e1 e2:E}{p q:Bool}
theorem Ev.and2(a:Ev d CT h e1 (.ok (.bool p) h))(b:Ev d CT h e2 (.ok (.bool q) h)):Ev d CT h (.and [e1,e2]) (.ok (.bool (p&&q)) h):=by
 induction p using Bool.casesOn with
 |true=>exact .and (.go a rfl (.one b))
 |false=>exact .and (.stop a rfl)
theorem Ev.or2(a:Ev d CT h e1 (.ok (.bool p) h))(b:Ev d CT h e2 (.ok (.bool q) h)):Ev d CT h (.or [e1,e2]) (.ok (.bool (p||q)) h):=by
 induction p using Bool.casesOn with
 |true=>exact .or (.stop a rfl)
 |false=>exact .or (.go a rfl (.one b))
end
noncomputable def cH(x:Int):Int:=if x<0 then-x else x
noncomputable def CA(a b:Int):Int:=if a<b then b else a
noncomputable def dR(a b:Int):Int:=b.fmod 6-a.fmod 6
noncomputable def dU(a b:Int):Int:=b.fdiv 6-a.fdiv 6
noncomputable def aY(a b:Int):Int:=CA (cH (dR a b)) (cH (dU a b))
noncomputable def eR(a b k:Int):Int:=a+(dR a b).fdiv (aY a b)*k+6*(dU a b).fdiv (aY a b)*k
noncomputable def ag(CU:List Nat)(i:Int):Nat:=CU[i.toNat]?.getD 0
noncomputable def f9(g:Int->Nat):Nat->Int->Bool
 |0,_=>true
 |n+1,k=>if[g k] !=[46]then false else f9 g n (k+1)
noncomputable def straight(a b:Int):Bool:=dR a b==0||dU a b==0||cH (dR a b)==cH (dU a b)
noncomputable def dE(CU:List Nat)(man:Nat)(a b:Int):Bool:=
 if[80,112].contains man=true then cH (dR a b)==1&&dU a b==(if([man]==[80])=true then 1 else-1)
 else if[78,110].contains man=true then cH (dR a b)*cH (dU a b)==2
 else if([75,107].contains man||aY a b==1)=true then aY a b==1&&([75,107,81,113].contains man||(cH (dR a b)==cH (dU a b))==[66,98].contains man)
 else if(!(dR a b==0||dU a b==0)&&(cH (dR a b) !=cH (dU a b)||[82,114].contains man))=true then false
 else if((dR a b==0||dU a b==0)&&[66,98].contains man)=true then false
 else f9 (λk=>ag CU (eR a b k)) (aY a b-1).toNat 1
theorem yO:∀a<30,∀b<30,∀k<6,(!(straight (a:Nat) (b:Nat)&&decide (1<=k)&&decide (((k:Nat):Int)<aY (a:Nat) (b:Nat)))||(decide (0<=eR (a:Nat) (b:Nat) (k:Nat))&&decide (eR (a:Nat) (b:Nat) (k:Nat)<30)))=true:=by decide+kernel
theorem ww{a b k:Nat}(ha:a<30)(hb:b<30)(s:straight (a:Nat) (b:Nat)=true)(k6:k<6)(k1:1<=k)(kf:((k:Nat):Int)<aY (a:Nat) (b:Nat)):0<=eR (a:Nat) (b:Nat) (k:Nat)/\eR (a:Nat) (b:Nat) (k:Nat)<30:=by
 have:=yO a ha b hb k k6
 rw[s]at this
 simpa[k1,kf]using this
theorem wx:∀a<30,∀b<30,aY (a:Nat) (b:Nat)<=5/\0<=aY (a:Nat) (b:Nat)/\(a≠b->aY (a:Nat) (b:Nat)≠0)/\small (cH (dR (a:Nat) (b:Nat)))=true:=by decide+kernel
theorem bT{CU:List Nat}{i:Int}{h:Hp}(n0:0<=i)(n1:i<(CU.length:Nat))(l:ae CU.length=true):getitem (.str CU) (.int i) h=.ok (.str [ag CU i]) h:=by
 unfold getitem
 dsimp only
 exists(if_pos l),(if_pos n0),(if_pos n0)
 obtain⟨c,hc⟩:∃c,CU[i.toNat]? =some c:=⟨_,DI (by exact(Go n0).mpr n1)⟩
 unfold ag
 exists hc;rfl
noncomputable def AV:List S:=im f_law_takes.body 9
section
variable{m:Nat}{h:Hp}
theorem nP{a b:Int}{h:Hp}(n:b≠0)(s:small b=true):ba .fdiv (.int a) (.int b) h=.ok (.int (a.fdiv b)) h:=if_pos (by(exists s);simp[n])
theorem rh{CU:List Nat}{a b:Int}{x3:Option V}(fz:aY a b≠0)(sf:small (aY a b)=true)
 (G:∀k:Int,1<=k->k<aY a b->getitem (.str CU) (.int (eR a b k)) h=.ok (.str [ag CU (eR a b k)]) h)(hf:aY a b<=5):
 ∀(n:Nat)(k:Int)(x7:Option V),1<=k->k+n=aY a b->∃C4,Lp (m,none) [some (.str CU),some (.int a),some (.int b),x3,some (.int (dR a b)),some (.int (dU a b)),some (.int (aY a b)),x7] h 7 (.rng k (aY a b) 1) AV
  (.ok (if f9 (λk=>ag CU (eR a b k)) n k=true then .next else .ret (.bool false)) C4 h):=by
 intro n
 induction n with
 |zero=>exact λk x7 k1 e=>⟨_,Lp.fin (jL (by exact Ez.mpr (ao [aY a b,k] [(.eq (.a (.v 1) (.n 0)) (.v 0),-1)] (.le (.v 0) (.v 1)) 1 rfl e)))⟩
 |succ n ih=>
  intro k x7 k1 e
  have nx:aP h (.rng k (aY a b) 1)=.one (.int k) (.rng (k+1) (aY a b) 1):=fW (by exact ao [k,aY a b,n] [(.eq (.a (.v 0) (.a (.v 2) (.n 1))) (.v 1),1),(.le (.n 0) (.v 2),1)] (.lt (.v 0) (.v 1)) 1 rfl e (Dq _))
  have sk:small k=true:=Du (by exact eI (ao [k] [(.le (.n 1) (.v 0),1)] (.le (.g (.n 18446744073709551615)) (.v 0)) 1 rfl k1) (ao [k,n,aY a b] [(.eq (.a (.v 0) (.a (.v 1) (.n 1))) (.v 2),1),(.le (.v 2) (.n 5),1),(.le (.n 0) (.v 1),1)] (.le (.v 0) (.n 18446744073709551615)) 1 rfl e hf (Dq _)))
  have T:Ev (m,none) [some (.str CU),some (.int a),some (.int b),x3,some (.int (dR a b)),some (.int (dU a b)),some (.int (aY a b)),some (.int k)] h (.cmp (.sub (.C8 0) (.bin .add (.bin .add (.C8 1) (.bin .mul (.bin .fdiv (.C8 4) (.C8 6)) (.C8 7))) (.bin .mul (.bin .mul (.int 6) (.bin .fdiv (.C8 5) (.C8 6))) (.C8 7)))) [.ne] [.str [46]])
   (.ok (.bool ([ag CU (eR a b k)] !=[46])) h):=
   .Df (.sub (.C8 rfl) (.bin (.bin (.C8 rfl) (.bin (.bin (.C8 rfl) (.C8 rfl) (nP fz sf)) (.C8 rfl) (mul_r sk)) rfl) (.bin (.bin .int (.bin (.C8 rfl) (.C8 rfl) (nP fz sf)) (sE rfl)) (.C8 rfl) (mul_r sk)) rfl) (G k k1 (by exact ao [k,aY a b,n] [(.eq (.a (.v 0) (.a (.v 2) (.n 1))) (.v 1),1),(.le (.n 0) (.v 2),1)] (.lt (.v 0) (.v 1)) 1 rfl e (Dq _)))) .str rfl
  unfold f9
  cases z:([ag CU (eR a b k)] !=[46])with
  |true=>
   rw[z]at T
   exact⟨_,Lp.ret nx (.ret (.Db T rfl (.ret (.ret .bool))))⟩
  |false=>
   rw[z]at T
   refine aB (ih (k+1) (some (.int k)) (by exact Eh (EN k1)) (by exact D8 (ao [k,n,aY a b] [(.eq (.a (.v 0) (.a (.v 1) (.n 1))) (.v 2),1)] (.le (.a (.a (.v 0) (.n 1)) (.v 1)) (.v 2)) 1 rfl e) (ao [aY a b,k,n] [(.eq (.a (.v 1) (.a (.v 2) (.n 1))) (.v 0),-1)] (.le (.v 0) (.a (.a (.v 1) (.n 1)) (.v 2))) 1 rfl e))) λC4 L=>?_
   exact⟨C4,Lp.next nx (.cons (.Da T rfl .nil) .nil) L⟩
theorem uh{CU:List Nat}(lc:CU.length=30){a b:Nat}(ha:a<30)(hb:b<30)(ne:a≠b):
 Fun (m+1,none) h 65 [.str CU,.int a,.int b] (.ok (.bool (dE CU (ag CU a) a b)) h):=by
 refine dS (wx a ha b hb) λf5 f0 fn sR=>?_
 have fz:=fn ne
 have sf:small (aY (a:Nat) (b:Nat))=true:=Du (by exact eI (ao [aY ↑a ↑b] [(.le (.n 0) (.v 0),1)] (.le (.g (.n 18446744073709551615)) (.v 0)) 1 rfl f0) (ao [aY ↑a ↑b] [(.le (.v 0) (.n 5),1)] (.le (.v 0) (.n 18446744073709551615)) 1 rfl f5))
 have lo:ae CU.length=true:=by(exists lc);rfl
 have g0:getitem (.str CU) (.int (a:Nat)) h=.ok (.str [ag CU (a:Nat)]) h:=bT (by exact Dq _) (by exact ao [a,CU.length] [(.lt (.v 0) (.n 30),1),(.eq (.v 1) (.n 30),-1)] (.lt (.v 0) (.v 1)) 1 rfl (Dt.mpr ha) (Ds Int.ofNat lc)) lo
 generalize ag CU (a:Nat)=man at g0
 have pre:∀{rs:RS},Exs (m+1,none) [some (.str CU),some (.int a),some (.int b),some (.str [man]),some (.int (dR a b)),some (.int (dU a b)),some (.int (aY a b)),none] h (f_law_takes.body.drop 4) rs->
  Exs (m+1,none) ([some (.str CU),some (.int a),some (.int b)]++List.replicate 5 none) h f_law_takes.body rs:=λR=>
  .cons (.C9 (.sub (.C8 rfl) (.C8 rfl) g0)) (.cons (.C9 (.bin (.bin (.C8 rfl) .int rfl) (.bin (.C8 rfl) .int rfl) rfl)) (.cons (.C9 (.bin (.bin (.C8 rfl) .int rfl) (.bin (.C8 rfl) .int rfl) rfl))
   (.cons (.C9 (.Dc (.cons (.Dc (.cons (.C8 rfl) .nil) rfl) (.cons (.Dc (.cons (.C8 rfl) .nil) rfl) .nil)) rfl)) R)))
 generalize eE:[some (V.str CU),some (V.int a),some (V.int b),some (V.str [man]),some (V.int (dR a b)),some (V.int (dU a b)),some (V.int (aY a b)),none]=CT at pre
 have v3:CT[3]? =some (some (.str [man])):=by(refine bt eE ?_);rfl
 have v4:CT[4]? =some (some (.int (dR a b))):=by(refine bt eE ?_);rfl
 have v5:CT[5]? =some (some (.int (dU a b))):=by(refine bt eE ?_);rfl
 have v6:CT[6]? =some (some (.int (aY a b))):=by(refine bt eE ?_);rfl
 have aR:Ev (m+1,none) CT h (.Dc .abs [.C8 4]) (.ok (.int (cH (dR a b))) h):=.Dc (.cons (.C8 v4) .nil) rfl
 have aU:Ev (m+1,none) CT h (.Dc .abs [.C8 5]) (.ok (.int (cH (dU a b))) h):=.Dc (.cons (.C8 v5) .nil) rfl
 have mi:∀l:List Nat,Ev (m+1,none) CT h (.cmp (.C8 3) [.isin] [.str l]) (.ok (.bool (l.contains man)) h):=λl=>.Df (.C8 v3) .str rfl
 have z4:Ev (m+1,none) CT h (.or [.cmp (.C8 4) [.eq] [.int 0],.cmp (.C8 5) [.eq] [.int 0]]) (.ok (.bool (dR a b==0||dU a b==0)) h):=.or2 (.Df (.C8 v4) .int rfl) (.Df (.C8 v5) .int rfl)
 have f1:Ev (m+1,none) CT h (.cmp (.C8 6) [.eq] [.int 1]) (.ok (.bool (aY a b==1)) h):=.Df (.C8 v6) .int rfl
 have t5:Ev (m+1,none) CT h (.or [.cmp (.C8 3) [.isin] [.str [75,107]],.cmp (.C8 6) [.eq] [.int 1]]) (.ok (.bool ([75,107].contains man||aY a b==1)) h):=.or2 (mi _) f1
 have t6:Ev (m+1,none) CT h (.and [.not (.or [.cmp (.C8 4) [.eq] [.int 0],.cmp (.C8 5) [.eq] [.int 0]]),.or [.cmp (.Dc .abs [.C8 4]) [.ne] [.Dc .abs [.C8 5]],.cmp (.C8 3) [.isin] [.str [82,114]]]]) (.ok (.bool (!(dR a b==0||dU a b==0)&&(cH (dR a b) !=cH (dU a b)||[82,114].contains man))) h):=.and2 (.not z4 rfl) (.or2 (.Df aR aU rfl) (mi _))
 have t7:Ev (m+1,none) CT h (.and [.or [.cmp (.C8 4) [.eq] [.int 0],.cmp (.C8 5) [.eq] [.int 0]],.cmp (.C8 3) [.isin] [.str [66,98]]]) (.ok (.bool ((dR a b==0||dU a b==0)&&[66,98].contains man)) h):=.and2 z4 (mi _)
 unfold dE
 cases c1:[80,112].contains man with
 |true=>
  exists(if_pos rfl)
  have T:=mi [80,112]
  rw[c1]at T
  have I:Ev (m+1,none) CT h (.ite (.cmp (.C8 3) [.eq] [.str [80]]) (.int 1) (.neg (.int 1))) (.ok (.int (if([man]==[80])=true then 1 else-1)) h):=by
   cases q:[man]==[80]with
   |true=>exact .iteT (.Df (.C8 v3) .str (Ds some q)) rfl .int
   |false=>exact .iteF (.Df (.C8 v3) .str (Ds some q)) rfl (.neg .int)
  exact Fun.ret rfl rfl (pre (.ret (.Db T rfl (.ret (.ret (.and2 (.Df aR .int rfl) (.Df (.C8 v5) I rfl)))))))
 |false=>
  exists(if_neg Do)
  have T1:=mi [80,112]
  rw[c1]at T1
  cases c2:[78,110].contains man with
  |true=>
   exists(if_pos rfl)
   have T:=mi [78,110]
   rw[c2]at T
   exact Fun.ret rfl rfl (pre (.cons (.Da T1 rfl .nil) (.ret (.Db T rfl (.ret (.ret (.Df (.bin aR aU (sE sR)) .int rfl)))))))
  |false=>
   exists(if_neg Do)
   have T2:=mi [78,110]
   rw[c2]at T2
   cases c3:([75,107].contains man||aY a b==1)with
   |true=>
    exists(if_pos rfl)
    rw[c3]at t5
    exact Fun.ret rfl rfl (pre (.cons (.Da T1 rfl .nil) (.cons (.Da T2 rfl .nil) (.ret (.Db t5 rfl (.ret (.ret (.and2 f1 (.or2 (mi _) (.Df (.Df aR aU rfl) (mi _) rfl))))))))))
   |false=>
    exists(if_neg Do)
    rw[c3]at t5
    cases c4:(!(dR a b==0||dU a b==0)&&(cH (dR a b) !=cH (dU a b)||[82,114].contains man))with
    |true=>
     exists(if_pos rfl)
     rw[c4]at t6
     exact Fun.ret rfl rfl (pre (.cons (.Da T1 rfl .nil) (.cons (.Da T2 rfl .nil) (.cons (.Da t5 rfl .nil) (.ret (.Db t6 rfl (.ret (.ret .bool))))))))
    |false=>
     exists(if_neg Do)
     rw[c4]at t6
     cases c5:((dR a b==0||dU a b==0)&&[66,98].contains man)with
     |true=>
      exists(if_pos rfl)
      rw[c5]at t7
      exact Fun.ret rfl rfl (pre (.cons (.Da T1 rfl .nil) (.cons (.Da T2 rfl .nil) (.cons (.Da t5 rfl .nil) (.cons (.Da t6 rfl .nil) (.ret (.Db t7 rfl (.ret (.ret .bool)))))))))
     |false=>
      exists(if_neg Do)
      rw[c5]at t7
      have st:straight (a:Nat) (b:Nat)=true:=by
       unfold straight
       cases u1:(dR a b==0||dU a b==0)with
       |true=>rfl
       |false=>
        rw[u1]at c4
        cases u2:(cH (dR a b)==cH (dU a b))with
        |true=>rfl
        |false=>
         have:(cH (dR a b) !=cH (dU a b))=true:=by unfold bne;(exists u2);rfl
         rw[this]at c4;cases c4
      refine aB (rh (h:=h) (m:=m) (CU:=CU) (a:=a) (b:=b) (x3:=some (.str [man])) fz sf (λk k1 k2=>by
       obtain⟨n,rfl⟩:∃n:Nat,k=(n:Int):=⟨k.toNat,(DH (FA (by decide) k1)).symm⟩
       have w:=ww ha hb st (k:=n) (by exact Dt.mp (ao [n,aY ↑a ↑b] [(.lt (.v 0) (.v 1),1),(.le (.v 1) (.n 5),1)] (.lt (.v 0) (.n 6)) 1 rfl k2 f5)) (by exact Dm.mp (ao [n] [(.le (.n 1) (.v 0),1)] (.le (.n 1) (.v 0)) 1 rfl k1)) k2
       exact bT w.1 (by exact ao [eR ↑a ↑b ↑n,CU.length] [(.lt (.v 0) (.n 30),1),(.eq (.v 1) (.n 30),-1)] (.lt (.v 0) (.v 1)) 1 rfl w.2 (Ds Int.ofNat lc)) lo) f5 (aY a b-1).toNat 1 none (by exact Gv _) (by rw[DH (Int.le_sub_one_of_lt (Int.lt_iff_le_and_ne.mpr ⟨f0,Eb fz⟩))];exact(HP _ _).trans (GO _ _))) λC4 L=>?_
      have X:Ev (m+1,none) CT h (.Dc .range [.int 1,.C8 6]) (.ok (.rng 1 (aY a b) 1) h):=.Dc (.cons .int (.cons (.C8 v6) .nil)) (if_pos (by(exists sf);rfl))
      have mk:fF (.rng 1 (aY a b) 1) h=some (.rng 1 (aY a b) 1):=by
       have t2:ja (aY (a:Nat) (b:Nat))=true:=Du (by exact eI (ao [aY ↑a ↑b] [(.le (.n 0) (.v 0),1)] (.le (.g (.n 2000000000000000000)) (.v 0)) 1 rfl f0) (ao [aY ↑a ↑b] [(.le (.v 0) (.n 5),1)] (.le (.v 0) (.n 2000000000000000000)) 1 rfl f5))
       show(if(ja 1&&ja (aY (a:Nat) (b:Nat)))=true then some (It.rng 1 (aY a b) 1)else none)=_
       exists t2;rfl
      rw[eE]at L
      cases c6:f9 (λk=>ag CU (eR a b k)) (aY a b-1).toNat 1 with
      |true=>
       rw[c6,if_pos rfl]at L
       exact Fun.ret rfl rfl (pre (.cons (.Da T1 rfl .nil) (.cons (.Da T2 rfl .nil) (.cons (.Da t5 rfl .nil) (.cons (.Da t6 rfl .nil) (.cons (.Da t7 rfl .nil) (.cons (.for X mk L) (.ret (.ret .bool)))))))))
      |false=>
       rw[c6,if_neg Do]at L
       exact Fun.ret rfl rfl (pre (.cons (.Da T1 rfl .nil) (.cons (.Da T2 rfl .nil) (.cons (.Da t5 rfl .nil) (.cons (.Da t6 rfl .nil) (.cons (.Da t7 rfl .nil) (.ret (.for X mk L))))))))
end
noncomputable def dF(CU men:List Nat)(goal:Nat):Bool:=(List.range 30).any λa=>(a !=goal&&[ag CU a] !=[46])&&(men.contains (ag CU a)&&dE CU (ag CU a) a goal)
theorem pt(b:Int->Bool):∀l:List Int,eg true (l.map λc=>V.bool (b c))=some (l.any b):=by
 intro l
 induction l with
 |nil=>exact rfl
 |cons x l ih=>
  show(eg true (l.map λc=>V.bool (b c))).map (λa=>b x==true||a)=_
  rw[ih,ER]
  cases b x<;>rfl
section
variable{m:Nat}{h:Hp}
theorem kG{CU men:List Nat}(lc:CU.length=30){goal:Nat}(hg:goal<30):
 ∃h':Hp,Fun (m+3,none) h 66 [.str CU,.str men,.int goal] (.ok (.bool (dF CU men goal)) h')/\Mono h h':=by
 have lo:ae CU.length=true:=by(exists lc);rfl
 have g0:∀(k:Nat)(h:Hp),k<30->getitem (.str CU) (.int (k:Nat)) h=.ok (.str [ag CU (k:Nat)]) h:=λk h hk=>bT (by exact Dq _) (by exact ao [k,CU.length] [(.lt (.v 0) (.n 30),1),(.eq (.v 1) (.n 30),-1)] (.lt (.v 0) (.v 1)) 1 rfl (Dt.mpr hk) (Ds Int.ofNat lc)) lo
 let P:Int->Bool:=λc=>c !=(goal:Int)&&[ag CU c] !=[46]
 let q:Int->Bool:=λc=>men.contains (ag CU c)&&dE CU (ag CU c) c goal
 have T:=nM (d:=(m+2,none)) (CT:=[some (.str CU),some (.str men),some (.int goal),none]) (i:=3) (e:=.and [.cmp (.sub (.C8 0) (.C8 3)) [.isin] [.C8 1],.call 65 [.C8 0,.C8 3,.C8 2]])
  (fs:=[.and [.cmp (.C8 3) [.ne] [.C8 2],.cmp (.sub (.C8 0) (.C8 3)) [.ne] [.str [46]]]]) (base:=h) (lo0:=0) (hi:=30) (P:=P) (f:=λc=>V.bool (q c))
  (λc h' c0 c1=>by
   obtain⟨k,rfl⟩:∃k:Nat,c=(k:Int):=⟨c.toNat,by exact Eq.symm (DH c0)⟩
   have A:Ev (m+2,none) [some (.str CU),some (.str men),some (.int goal),some (.int k)] h' (.and [.cmp (.C8 3) [.ne] [.C8 2],.cmp (.sub (.C8 0) (.C8 3)) [.ne] [.str [46]]]) (.ok (.bool (P k)) h'):=
    .and2 (.Df (.C8 rfl) (.C8 rfl) rfl) (.Df (.sub (.C8 rfl) (.C8 rfl) (g0 k h' (by exact Dt.mp (ao [k] [(.lt (.v 0) (.n 30),1)] (.lt (.v 0) (.n 30)) 1 rfl c1)))) .str rfl)
   cases z:P k with
   |true=>rw[z]at A;exact .go A rfl .nil
   |false=>rw[z]at A;exact .stop A rfl)
  (λc h' c0 c1 pc=>by
   obtain⟨k,rfl⟩:∃k:Nat,c=(k:Int):=⟨c.toNat,by exact Bo c0⟩
   have ne:k≠goal:=λe=>by
    have:(((k:Int) !=(goal:Int))&&[ag CU k] !=[46])=true:=pc
    rw[e]at this;simp at this
   exact .and2 (.Df (.sub (.C8 rfl) (.C8 rfl) (g0 k h' (by exact Dt.mp (ES c1 (by decide))))) (.C8 rfl) rfl) (.call (.cons (.C8 rfl) (.cons (.C8 rfl) (.cons (.C8 rfl) .nil))) (uh lc (by lia) hg ne))) 30 0 [] (by decide) (by decide) (by decide)
 rw[Ft]at T
 have C:=Ev.comp (m:=m+2) (i:=3) (e:=.and [.cmp (.sub (.C8 0) (.C8 3)) [.isin] [.C8 1],.call 65 [.C8 0,.C8 3,.C8 2]]) (fs:=[.and [.cmp (.C8 3) [.ne] [.C8 2],.cmp (.sub (.C8 0) (.C8 3)) [.ne] [.str [46]]]]) (CT:=[some (.str CU),some (.str men),some (.int goal),none]) (a:=.Dc .range [.int 30]) (x:=.rng 0 30 1) (h:=h) (h1:=h) (.Dc (.cons .int .nil) rfl) rfl T
 have E:dF CU men goal=((((List.range 30).map λ(k:Nat)=>(0:Int)+(k:Int)).filter P).any q):=by
  exists List.any_filter,List.any_map
  unfold dF
  congr 1
  funext k
  show _=(((0+(k:Int)) !=(goal:Int)&&[ag CU (0+(k:Int))] !=[46])&&(men.contains (ag CU (0+(k:Int)))&&dE CU (ag CU (0+(k:Int))) (0+(k:Int)) goal))
  rw[FQ]
  have:((k:Int) !=(goal:Int))=(k !=goal):=by
   exists(propext EX);simp;lia
  rw[this]
 refine⟨_,Fun.ret rfl rfl (.ret (.ret (.Df .bool C ?_))),Mono.app1⟩
 show(match(h++[O.list ((((List.range 30).map λ(k:Nat)=>(0:Int)+(k:Int)).filter P).map λc=>V.bool (q c))])[h.length]? with|some (.list xs)=>eg true xs|_=>none)=_
 exists last_get
 dsimp only
 rw[pt,E]
end
noncomputable def AW(r:Int)(c:Int):Bool:=bitAnd (r.fdiv (2^c.toNat)) 1 !=0
noncomputable def gH(r:Int):List V:=(((List.range 4).map λ(k:Nat)=>(0:Int)+(k:Int)).filter (AW r)).map λc=>V.str [ag [75,81,107,113] c]
noncomputable def sG(r:Int):List Nat:=(cr [] (gH r)).getD []
noncomputable def eB:Nat->List (List Nat×V)
 |0=>[([45],.int 0)]
 |r+1=>xi (sG (r+1:Nat)) (.int (r+1:Nat)) (eB r)
noncomputable def wingT:List (List Nat×Int):=[([45],0),([75],1),([81],2),([75,81],3),([107],4),([75,107],5),([81,107],6),([75,81,107],7),([113],8),([75,113],9),([81,113],10),([75,81,113],11),([107,113],12),([75,107,113],13),([81,107,113],14),([75,81,107,113],15)]
noncomputable def iD(t:List Nat):Option Int:=wingT.lookup t
theorem pu:∀r:Nat,r<16->cr [] (gH (r:Nat))=some (sG (r:Nat))/\ae (sG (r:Nat)).length=true/\Nat.ble (eB r).length 100=true:=by decide+kernel
theorem wy:eB 15=wingT.map λp=>(p.1,V.int p.2):=by rfl
theorem mj{s:List Nat}:∀l:List (List Nat×Int),cL s (l.map λp=>(p.1,V.int p.2))=(l.lookup s).map V.int
 |[]=>rfl
 |(k,v)::l=>by
  show(if(k==s)=true then some (V.int v)else cL s (l.map λp=>(p.1,V.int p.2)))=_
  exists(mj l)
  show _=(match s==k with|true=>some v|false=>l.lookup s).map V.int
  have:(s==k)=(k==s):=Gc
  exists this
  cases k==s<;>rfl
theorem ui{s:List Nat}{n:Nat}{h:Hp}{kvs:List (List Nat×V)}(q:h[n]? =some (.dict kvs)):isin (.str s) (.ref n) h=some (cL s kvs).isSome:=by
 have:isin (.str s) (.ref n) h=(match h[n]? with|some (.list xs)=>cK s xs|some (.dict kvs)=>some (cL s kvs).isSome|_=>none):=by
  induction s using List.casesOn with
  |nil=>rfl
  |cons a r=>cases r<;>rfl
 exists this,q;rfl
theorem wz{s:List Nat}{n:Nat}{h:Hp}{kvs:List (List Nat×V)}{v:V}(q:h[n]? =some (.dict kvs)) (e:cL s kvs=some v):getitem (.ref n) (.str s) h=.ok v h:=by
 unfold getitem
 dsimp only
 exists q
 dsimp only
 exists e;rfl
theorem sH{sep t:List Nat}{n:Nat}{h:Hp}{xs:List V}(q:h[n]? =some (.list xs)) (e:cr sep xs=some t) (l:ae t.length=true) (l2:ae sep.length=true):meth .join (.str sep) [.ref n] h=.ok (.str t) h:=by
 unfold meth
 dsimp only
 unfold rU
 dsimp only
 exists q
 dsimp only
 exists e
 exact if_pos (by rw[l,l2];rfl)
noncomputable def AX:List S:=im f_law_wings.body 1
section
variable{m:Nat}
theorem rj{h:Hp}{x0 x2:Option V}{r:Nat}:Ev (m+1,none) [x0,some (.int r),x2] h (.comp (.sub (.str [75,81,107,113]) (.C8 2)) 2 (.Dc .range [.int 4]) [.bin .band (.bin .rsh (.C8 1) (.C8 2)) (.int 1)]) (.ok (.ref h.length) (h++[.list (gH r)])):=by
 have T:=nM (d:=(m,none)) (CT:=[x0,some (.int r),none]) (i:=2) (e:=.sub (.str [75,81,107,113]) (.C8 2)) (fs:=[.bin .band (.bin .rsh (.C8 1) (.C8 2)) (.int 1)]) (base:=h) (lo0:=0) (hi:=4) (P:=AW r) (f:=λc=>V.str [ag [75,81,107,113] c])
  (λc h' c0 c1=>by
   have A:Ev (m,none) [x0,some (.int r),some (.int c)] h' (.bin .band (.bin .rsh (.C8 1) (.C8 2)) (.int 1)) (.ok (.int (bitAnd ((r:Int).fdiv (2^c.toNat)) 1)) h'):=.bin (.bin (.C8 rfl) (.C8 rfl) (rsh_ok c0)) .int rfl
   cases z:AW r c with
   |true=>exact .go A (Ds some z) .nil
   |false=>exact .stop A (Ds some z))
  (λc h' c0 c1 _=>.sub .str (.C8 rfl) (bT c0 c1 rfl)) 4 0 [] (by decide) (by decide) (by decide)
 rw[Ft]at T
 exact Ev.comp (.Dc (.cons .int .nil) rfl) rfl T
theorem rn{D:Nat}{x0:Option V}(e0:x0=some (.ref D)):∀(n r:Nat)(x1 x2:Option V)(h:Hp),r+n=15->h[D]? =some (.dict (eB r))->
 ∃(h':Hp)(y1 y2:Option V),Lp (m+1,none) [x0,x1,x2] h 1 (.rng ((r:Int)+1) 16 1) AX (.ok .next [x0,y1,y2] h')/\h'[D]? =some (.dict (eB 15))/\∀(k:Nat)(o:O),k≠D->h[k]? =some o->h'[k]? =some o:=by
 intro n
 induction n with
 |zero=>
  intro r x1 x2 h e q
  have:r=15:=by exact DJ (Dm.mp (ao [r] [(.eq (.a (.v 0) (.n 0)) (.n 15),1)] (.le (.v 0) (.n 15)) 1 rfl (Ds Int.ofNat e))) (Dm.mp (ao [r] [(.eq (.a (.v 0) (.n 0)) (.n 15),-1)] (.le (.n 15) (.v 0)) 1 rfl (Ds Int.ofNat e)))
  subst this
  exact⟨h,x1,x2,Lp.fin rfl,q,λk o _ e=>e⟩
 |succ n ih=>
  intro r x1 x2 h e q
  refine cJ (pu (r+1) (by exact Dt.mp (ao [r,n] [(.eq (.a (.v 0) (.a (.v 1) (.n 1))) (.n 15),1),(.le (.n 0) (.v 1),1)] (.lt (.a (.v 0) (.n 1)) (.n 16)) 1 rfl (Ds Int.ofNat e) (Dq _)))) λj1 j2 _=>?_
  have j3:=(pu r (by exact Dt.mp (ao [r,n] [(.eq (.a (.v 0) (.a (.v 1) (.n 1))) (.n 15),1),(.le (.n 0) (.v 1),1)] (.lt (.v 0) (.n 16)) 1 rfl (Ds Int.ofNat e) (Dq _)))).2.2
  have C:=rj (m:=m) (h:=h) (x0:=x0) (x2:=x2) (r:=r+1)
  have q1:(h++[O.list (gH (r+1:Nat))])[D]? =some (.dict (eB r)):=au q
  have J:=sH (h:=h++[O.list (gH (r+1:Nat))]) last_get j1 j2 rfl
  have ne:∀(k:Nat)(o:O),k≠D->h[k]? =some o->((h++[O.list (gH (r+1:Nat))]).set D (.dict (eB (r+1))))[k]? =some o:=λk o nk e=>by
   exists(DB (λe=>nk e.symm));exact au e
  have hd:((h++[O.list (gH (r+1:Nat))]).set D (.dict (eB (r+1))))[D]? =some (.dict (eB (r+1))):=by
   exists(DG (Dr.mp q1).1);rfl
  have ST:setitem (.ref D) (.str (sG (r+1:Nat))) (.int (r+1:Nat)) (h++[O.list (gH (r+1:Nat))])=.ok .none ((h++[O.list (gH (r+1:Nat))]).set D (.dict (eB (r+1)))):=by
   unfold setitem
   dsimp only
   exists q1
   exact if_pos j3
  generalize(h++[O.list (gH (r+1:Nat))]).set D (.dict (eB (r+1)))=h2 at ne hd ST
  refine du (ih (r+1) (some (.int (r+1:Nat))) x2 h2 (by exact DJ (Dm.mp (ao [r,n] [(.eq (.a (.v 0) (.a (.v 1) (.n 1))) (.n 15),1)] (.le (.a (.a (.v 0) (.n 1)) (.v 1)) (.n 15)) 1 rfl (Ds Int.ofNat e))) (Dm.mp (ao [r,n] [(.eq (.a (.v 0) (.a (.v 1) (.n 1))) (.n 15),-1)] (.le (.n 15) (.a (.a (.v 0) (.n 1)) (.v 1))) 1 rfl (Ds Int.ofNat e)))) hd) λh' y1 y2 L a b=>?_
  have nx:aP h (.rng ((r:Int)+1) 16 1)=.one (.int (r+1:Nat)) (.rng (((r+1:Nat):Int)+1) 16 1):=by
   have:=fW (h:=h) (i:=(r:Int)+1) (hi:=16) (by exact ao [r,n] [(.eq (.a (.v 0) (.a (.v 1) (.n 1))) (.n 15),1),(.le (.n 0) (.v 1),1)] (.lt (.a (.v 0) (.n 1)) (.n 16)) 1 rfl (Ds Int.ofNat e) (Dq _))
   exists this
   rfl
  refine⟨h',y1,y2,Lp.next nx (.cons (.Dg (.C8 rfl) (.C8 (by rw[e0];rfl)) (.meth .str rfl (.cons C .nil) J) ST) .nil) L,a,λk o nk e=>b k o nk (ne k o nk e)⟩
theorem ml{h:Hp}:∃(h':Hp)(D:Nat),Fun (m+2,none) h 64 [] (.ok (.ref D) h')/\h'[D]? =some (.dict (eB 15))/\Mono h h':=by
 refine du (rn (m:=m) (D:=h.length) rfl 15 0 none none (h++[.dict (eB 0)]) rfl last_get) λh' y1 y2 L a b=>?_
 exact⟨h',h.length,Fun.ret rfl rfl (.cons (.C9 .dict1) (.cons (.for (.Dc (.cons .int (.cons .int .nil)) rfl) rfl L) (.ret (.ret (.C8 rfl))))),a,λn o e=>b n o (by have:=(Dr.mp e).1;exact Et this) (au e)⟩
noncomputable def B5(q:Int):List Nat:=[ag [97,98,99,100,101,102] (q.fmod 6)]++[ag [49,50,51,52,53] (q.fdiv 6)]
noncomputable def namesL:List (List Nat):=(List.range 30).map λk=>B5 (k:Nat)
theorem AY:∀k:Nat,k<30->0<=((k:Nat):Int).fmod 6/\((k:Nat):Int).fmod 6<6/\0<=((k:Nat):Int).fdiv 6/\((k:Nat):Int).fdiv 6<5:=by decide+kernel
theorem uj{h:Hp}{CT:Env}{l:CT.length=12}:Ev (m+1,none) CT h (.comp (.bin .add (.sub (.str [97,98,99,100,101,102]) (.bin .mod (.C8 10) (.int 6))) (.sub (.str [49,50,51,52,53]) (.bin .fdiv (.C8 10) (.int 6)))) 10 (.Dc .range [.int 30]) []) (.ok (.ref h.length) (h++[.list (namesL.map V.str)])):=by
 have T:=nM (d:=(m,none)) (CT:=CT.set 10 none) (i:=10) (e:=.bin .add (.sub (.str [97,98,99,100,101,102]) (.bin .mod (.C8 10) (.int 6))) (.sub (.str [49,50,51,52,53]) (.bin .fdiv (.C8 10) (.int 6)))) (fs:=[]) (base:=h) (lo0:=0) (hi:=30) (P:=λ_=>true) (f:=λc=>V.str (B5 c))
  (λc h' _ _=>.nil)
  (λc h' c0 c1 _=>by
   have v:((CT.set 10 none).set 10 (some (.int c)))[10]? =some (some (.int c)):=DG (by(exists FN);exact Dt.mp (ao [Nat.cast (List.length CT)] [(.eq (.v 0) (.n 12),-1)] (.lt (.n 10) (.v 0)) 1 rfl (Ds Int.ofNat l)))
   obtain⟨k,rfl⟩:∃k:Nat,c=(k:Int):=⟨c.toNat,by exact Eq.symm (DH c0)⟩
   refine dS (AY k (by exact Dt.mp (ao [k] [(.lt (.v 0) (.n 30),1)] (.lt (.v 0) (.n 30)) 1 rfl c1))) λs1 s2 s3 s4=>?_
   exact .bin (.sub .str (.bin (.C8 v) .int rfl) (bT s1 s2 rfl)) (.sub .str (.bin (.C8 v) .int rfl) (bT s3 s4 rfl)) rfl) 30 0 [] (by decide) (by decide) (by decide)
 have e:([]:List V)++((((List.range 30).map λ(k:Nat)=>(0:Int)+(k:Int)).filter λ_=>true).map λc=>V.str (B5 c))=namesL.map V.str:=by
  rw[Ft,GG.mpr (λ_ _=>rfl),E8]
  unfold namesL
  exists E8
  apply E5
  intro k _
  show V.str (B5 (0+(k:Int)))=_
  rw[FQ];rfl
 rw[e]at T
 exact Ev.comp (.Dc (.cons .int .nil) rfl) rfl T
end
def Tru(d:Dp)(CT:Env)(h:Hp)(e:E)(b:Bool):Prop:=∃v,Ev d CT h e (.ok v h)/\aO v h=some b
section
variable{d:Dp}{CT:Env}{h:Hp}{e e1 e2 e3:E}{p q r:Bool}
theorem Tru.ev(a:Ev d CT h e (.ok (.bool p) h)):Tru d CT h e p:=⟨_,a,rfl⟩
theorem Tru.int{i:Int}(a:Ev d CT h e (.ok (.int i) h)):Tru d CT h e (i !=0):=⟨_,a,rfl⟩
theorem Tru.and(a:Tru d CT h e1 p)(b:p=true->Tru d CT h e2 q):Tru d CT h (.and [e1,e2]) (p&&q):=by
 obtain⟨v,a,ta⟩:=a
 induction p using Bool.casesOn with
 |true=>
  obtain⟨w,b,tb⟩:=b rfl
  exact⟨w,.and (.go a ta (.one b)),tb⟩
 |false=>exact⟨v,.and (.stop a ta),ta⟩
theorem Tru.or3(a:Tru d CT h e1 p)(b:p=false->Tru d CT h e2 q)(c:p=false->q=false->Tru d CT h e3 r):Tru d CT h (.or [e1,e2,e3]) (p||(q||r)):=by
 obtain⟨v,a,ta⟩:=a
 induction p using Bool.casesOn with
 |true=>exact⟨v,.or (.stop a ta),ta⟩
 |false=>
  obtain⟨w,b2,tb⟩:=b rfl
  induction q using Bool.casesOn with
  |true=>exact⟨w,.or (.go a ta (.stop b2 tb)),tb⟩
  |false=>
   obtain⟨u,c,tc⟩:=c rfl rfl
   exact⟨u,.or (.go a ta (.go b2 tb (.one c))),tc⟩
end
theorem nQ{s:List Nat}{k:Nat}{h:Hp}(l:ae s.length=true)(sm:small (k:Int)=true):slice (.str s) none (some (.int (k:Nat))) h=.ok (.str (s.take k)) h:=by
 unfold slice
 have:(0<=((k:Nat):Int)&&small (k:Nat))=true:=by(exists sm);simp
 simp only[this,if_true,l]
 rfl
theorem nS{s:List Nat}{k:Nat}{h:Hp}(l:ae s.length=true)(sm:small (k:Int)=true):slice (.str s) (some (.int (k:Nat))) none h=.ok (.str (s.drop k)) h:=by
 unfold slice
 have:(0<=((k:Nat):Int)&&small (k:Nat))=true:=by(exists sm);simp
 simp only[this,if_true,l]
 exists(show((s.length:Int).toNat)=s.length from rfl),Ha
 rfl
noncomputable def gV:List Nat:=[80,78,66,82,81,75,45,45,112,110,98,114,113,107]
noncomputable def aj(CU:List Nat):List Int:=CU.map λc=>ac c gV 0+1
noncomputable def dQ(s:Nat):List Nat:=if s=0 then[80,78,66,82,81,75]else[112,110,98,114,113,107]
noncomputable def dj(CU:List Nat)(s:Nat):Nat:=(ac (ag [107,75] s) CU 0).toNat
abbrev Rd:=List Int×Nat×Int×Int×Int×Int
noncomputable def uk(CU:List Nat)(s:Nat)(rt e hf fl:Int):Except Int Rd:=if dF CU (dQ s) (dj CU s)=true then .error 1 else .ok (aj CU,s,rt,e,hf,fl)
def LEx(h0:Hp)(m:Nat)(CT:Env)(h:Hp)(ss:List S):Except Int Rd->Prop
 |.error p=>∃(C4:Env)(h':Hp),Exs (m+6,none) CT h ss (.ok (.ret (.int p)) C4 h')/\Mono h0 h'
 |.ok (bd,s,rt,e,hf,fl)=>∃(C4:Env)(h':Hp)(b:Nat),Exs (m+6,none) CT h ss (.ok (.ret (.tup [.ref b,.int s,.int rt,.int e,.int hf,.int fl])) C4 h')/\h'[b]? =some (.list (bd.map .int))/\h0.length<=b/\Mono h0 h'
theorem LEx.pre{h0:Hp}{m:Nat}{CT env2:Env}{h h2:Hp}{ss ss2:List S}{r:Except Int Rd}(k:∀rs,Exs (m+6,none) env2 h2 ss2 rs->Exs (m+6,none) CT h ss rs)(H:LEx h0 m env2 h2 ss2 r):LEx h0 m CT h ss r:=by
 induction r using Except.casesOn with
 |error p=>exact aD H λC4 h' a b=>⟨C4,h',k _ a,b⟩
 |ok x=>exact bQ H λC4 h' b a c=>⟨C4,h',b,k _ a,c⟩
theorem LEx.part{h0:Hp}{m:Nat}{CT:Env}{h h2:Hp}{ss:List S}{p:Int}(mono:Mono h0 h2)(k:Exs (m+6,none) CT h ss (.ok (.ret (.int p)) CT h2)):LEx h0 m CT h ss (.error p):=⟨CT,h2,k,mono⟩
theorem iZ{c:Nat}:∀(l:List Nat)(k:Nat),l.contains c=true->(k:Int)<=ac c l k/\ac c l k<(k+l.length:Nat):=λl k h=>by
 have hc:ac c l k≠-1:=by
  induction l generalizing k with
  |nil=>exact aC h
  |cons x l ih=>
   show(if(x==c)=true then(k:Int)else ac c l (k+1))≠-1
   by_cases e:(x==c)=true
   ·exists(if_pos e);exact E9 (ao [k] [(.le (.n 0) (.v 0),1)] (.lt (.g (.n 1)) (.v 0)) 1 rfl (Dq _))
   ·exists(if_neg e)
    rw[Eu]at h
    have e':(c==x)=false:=by
     exists Gc;exact Bool.eq_false_iff.mpr e
    rw[e',E4]at h
    exact ih (k+1) h
 exact⟨(t9 l k).resolve_left hc,(eX l k).resolve_right hc⟩
section
variable{m:Nat}
theorem nT{h0 h:Hp}{CU:List Nat}(lc:CU.length=30){s:Nat}(hs:s<2)(ck:CU.contains (ag [107,75] s)=true){rt e hf fl:Int}{x0 x1 x4 x9:Option V}(mono:Mono h0 h):
 LEx h0 m [x0,x1,some (.str CU),some (.int rt),x4,some (.int hf),some (.int fl),some (.int s),some (.int e),x9,none,none] h (f_law_read.body.drop 17) (uk CU s rt e hf fl):=by
 have lo:ae CU.length=true:=by(exists lc);rfl
 refine aA (iZ CU 0 ck) λk0 k1=>?_
 have hk:dj CU s<30:=by unfold dj;exact toNat_lt (ao [ac (ag [107,75] ↑s) CU 0,CU.length] [(.lt (.v 0) (.a (.n 0) (.v 1)),1),(.eq (.v 1) (.n 30),1)] (.lt (.v 0) (.n 30)) 1 rfl k1 (Ds Int.ofNat lc)) (Dt.mp (ao [] [] (.lt (.n 0) (.n 30)) 1 rfl))
 have ek:ac (ag [107,75] s) CU 0=(dj CU s:Int):=by unfold dj;lia
 have gm:∀h1:Hp,getitem (.ref h1.length) (.int s) (h1++[O.list [.str [80,78,66,82,81,75],.str [112,110,98,114,113,107]]])=.ok (.str (dQ s)) (h1++[O.list [.str [80,78,66,82,81,75],.str [112,110,98,114,113,107]]]):=λh1=>
  gi last_get (by exact Dq _) (by rcases(by exact or2 hs:s=0\/s=1)with rfl|rfl<;>rfl) rfl
 have si:∀h1:Hp,meth .sindex (.str CU) [.str [ag [107,75] s]] h1=.ok (.int (dj CU s:Nat)) h1:=λh1=>by
  refine bt ek ?_;exact if_pos ck
 have gk:∀h1:Hp,getitem (.str [107,75]) (.int s) h1=.ok (.str [ag [107,75] s]) h1:=λh1=>bT (by exact Dq _) (by simp;exact ao [s] [(.lt (.v 0) (.n 2),1)] (.lt (.v 0) (.n 2)) 1 rfl (Dt.mpr hs)) rfl
 refine ai (kG (m:=m+2) (h:=h++[O.list [.str [80,78,66,82,81,75],.str [112,110,98,114,113,107]]]) (men:=dQ s) lc hk) λh' F k=>?_
 have mono':Mono h0 h':=λn o e=>k n o (au (mono n o e))
 have C:Ev (m+6,none) [x0,x1,some (.str CU),some (.int rt),x4,some (.int hf),some (.int fl),some (.int s),some (.int e),x9,none,none] h
  (.call 66 [.C8 2,.sub (.list [.str [80,78,66,82,81,75],.str [112,110,98,114,113,107]]) (.C8 7),.meth .sindex (.C8 2) [.sub (.str [107,75]) (.C8 7)]]) (.ok (.bool (dF CU (dQ s) (dj CU s))) h'):=
  .call (.cons (.C8 rfl) (.cons (.sub (.list (.cons .str (.cons .str .nil)) rfl) (.C8 rfl) (gm h)) (.cons (.meth (.C8 rfl) rfl (.cons (.sub .str (.C8 rfl) (gk _)) .nil) (si _)) .nil))) F
 unfold uk
 cases hu:dF CU (dQ s) (dj CU s)with
 |true=>
  exists(if_pos rfl)
  rw[hu]at C
  exact⟨_,_,.ret (.Db C rfl (.ret (.ret .int))),mono'⟩
 |false=>
  exists(if_neg Do)
  rw[hu]at C
  have T:=wt (d:=(m+5,none)) (CT:=[x0,x1,some (.str CU),some (.int rt),x4,some (.int hf),some (.int fl),some (.int s),some (.int e),x9,none,none]) (i:=11) (e:=.bin .add (.meth .find (.str gV) [.C8 11]) (.int 1)) (fs:=[]) (base:=h') (P:=λ_=>true) (f:=λc=>V.int (ac c gV 0+1))
   (λc h'=>.nil) (λc h' _=>.bin (.meth .str rfl (.cons (.C8 rfl) .nil) rfl) .int rfl) CU [] (by simp;exact Dm.mp (ao [CU.length] [(.eq (.v 0) (.n 30),1)] (.le (.v 0) (.n 100000)) 1 rfl (Ds Int.ofNat lc)))
  rw[Ft,GG.mpr (λ_ _=>rfl)]at T
  have e1:CU.map (λc=>V.int (ac c gV 0+1))=(aj CU).map V.int:=by unfold aj;(exists E8);rfl
  rw[e1]at T
  refine⟨_,_,h'.length,.cons (.Da C rfl .nil) (.ret (.ret (.tup (.cons (.comp (.C8 rfl) rfl T) (.cons (.C8 rfl) (.cons (.C8 rfl) (.cons (.C8 rfl) (.cons (.C8 rfl) (.cons (.C8 rfl) .nil)))))) rfl))),last_get,?_,Mono.app mono'⟩
  have:h0.length<=h'.length:=by
   cases hh:h0.length with
   |zero=>exact FG _
   |succ n=>
    obtain⟨o,ho⟩:∃o,h0[n]? =some o:=⟨_,DI (by exact Es (DK (Eq.symm hh)))⟩
    have:=(Dr.mp (mono' n o ho)).1
    exact FY this
  exact this
end
noncomputable def cG(s:Nat):Int:=6-12*(s:Int)
noncomputable def mm(CU:List Nat)(s:Nat)(e:Int):Bool:=!(e.fdiv 6==2)||(!([ag CU e]++[ag CU (e+cG s)]==[46,46])|| !([ag CU (e-cG s)]==[ag [112,80] s]))
noncomputable def wA(CU:List Nat)(s:Nat)(rt e hf fl:Int):Except Int Rd:=if 0<=e then(if mm CU s e=true then .error 3 else uk CU s rt (if dF CU [ag [80,112] s] e.toNat=true then e else-1) hf fl)else uk CU s rt (-1) hf fl
noncomputable def pv(CU:List Nat):Bool:=!((CU.count 75:Int)==1)||(!((CU.count 107:Int)==1)||((CU.take 6++CU.drop 24).map λx=>if x==80 then 112 else x).contains 112)
noncomputable def ul(CU:List Nat)(rt:Int):Bool:=bitAnd rt 5 !=0||((bitAnd rt 2 !=0&& !([ag CU 0]++[ag CU 3]==[82,75]))||(bitAnd rt 8 !=0&& !([ag CU 24]++[ag CU 27]==[114,107])))
noncomputable def kH(CU:List Nat)(s:Nat)(rt e hf fl:Int):Except Int Rd:=if pv CU=true then .error 0 else if ul CU rt=true then .error 2 else wA CU s rt e hf fl
noncomputable def uz(t:List Nat):Option Int:=if(t==[45])=true then some (-1)else bV t (namesL.map V.str) 0
theorem mn:ff (namesL.map V.str)=true/\ae (namesL.map V.str).length=true:=by decide+kernel
theorem mo{s:List Nat}{v:Int}:∀(l:List (List Nat))(i:Nat),bV s (l.map V.str) i=some v->(i:Int)<=v/\v<(i+l.length:Nat):=by
 intro l
 induction l with
 |nil=>exact λi e=>by cases e
 |cons x l ih=>
  intro i e
  have e:(if(x==s)=true then some (i:Int)else bV s (l.map V.str) (i+1))=some v:=e
  split at e
  ·cases e;simp;exact ao [i,l.length] [(.le (.n 0) (.v 1),1)] (.lt (.v 0) (.a (.v 0) (.a (.v 1) (.n 1)))) 1 rfl (Dq _)
  ·have:=ih (i+1) e
   exact⟨FA (Dm.mpr (Ee i)) this.1,by have q:=this.2;rw[Nat.succ_add]at q;exact q⟩
theorem eC{s:Nat}(hs:s<2){e:Int}(h:12<=e/\e<18):(0<=e+cG s/\e+cG s<30)/\0<=e-cG s/\e-cG s<30:=by
 have h1:=h.1
 have h2:=h.2
 rcases or2 hs with rfl|rfl
 ·show(0<=e+6/\e+6<30)/\0<=e-6/\e-6<30
  lia
 ·show(0<=e+ -6/\e+ -6<30)/\0<=e- -6/\e- -6<30
  lia
theorem AZ{t:List Nat}{v:Int}(e:uz t=some v):v<30/\(v= -1\/0<=v):=by
 unfold uz at e
 split at e
 ·cases e;exact⟨(ao [] [] (.lt (.g (.n 1)) (.n 30)) 1 rfl),(.inl (D8 (ao [] [] (.le (.g (.n 1)) (.g (.n 1))) 1 rfl) (ao [] [] (.le (.g (.n 1)) (.g (.n 1))) 1 rfl)))⟩
 ·have:=mo namesL 0 e
  exact⟨this.2,.inr this.1⟩
theorem yP{t:List Nat}{v:Int}(e:uz t=some v):(0<=v/\(t==[45])=false/\bV t (namesL.map V.str) 0=some v)\/(v= -1/\(t==[45])=true):=by
 unfold uz at e
 cases z:t==[45]with
 |true=>rw[z]at e;cases e;exact .inr ⟨rfl,rfl⟩
 |false=>
  rw[z,if_neg Do]at e
  have:=mo namesL 0 e
  exact .inl ⟨by exact ao [v] [(.le (.n 0) (.v 0),1)] (.le (.n 0) (.v 0)) 1 rfl this.1,rfl,e⟩
theorem A6{n:Nat}{s:List Nat}{h:Hp}{xs:List V}{i:Int}(q:h[n]? =some (.list xs)) (a:ff xs=true) (l:ae xs.length=true) (e:bV s xs 0=some i):meth .lindex (.ref n) [.str s] h=.ok (.int i) h:=by
 unfold meth
 dsimp only
 unfold mG
 dsimp only
 exists q
 dsimp only
 exists(if_pos (by rw[a,l];rfl)),e;rfl
section
variable{m:Nat}
theorem A7{h0 h:Hp}{CU q0 q1 q2 q3 q4 q5:List Nat}(lc:CU.length=30){s:Nat}(hs:s<2)(ck:CU.contains (ag [107,75] s)=true){rt e hf fl:Int}{x0 x9:Option V}{pl nl:Nat}(hp:h[pl]? =some (.list [.str q0,.str q1,.str q2,.str q3,.str q4,.str q5]))
 (hn:h[nl]? =some (.list (namesL.map V.str))) (ee:uz q3=some e) (mono:Mono h0 h):
 LEx h0 m [x0,some (.ref pl),some (.str CU),some (.int rt),some (.ref nl),some (.int hf),some (.int fl),some (.int s),some (.int (-1)),x9,none,none] h (f_law_read.body.drop 16) (wA CU s rt e hf fl):=by
 have lo:ae CU.length=true:=by(exists lc);rfl
 have g3:getitem (.ref pl) (.int 3) h=.ok (.str q3) h:=gi hp (by decide) rfl rfl
 have e30:=(AZ ee).1
 rcases yP ee with⟨e0,z,ei⟩|⟨rfl,z⟩
 ·unfold wA
  exists(if_pos e0)
  have T0:Ev (m+6,none) [x0,some (.ref pl),some (.str CU),some (.int rt),some (.ref nl),some (.int hf),some (.int fl),some (.int s),some (.int (-1)),x9,none,none] h (.cmp (.sub (.C8 1) (.int 3)) [.ne] [.str [45]]) (.ok (.bool true) h):=
   .Df (.sub (.C8 rfl) .int g3) .str (Ds some (by show(!(q3==[45]))=true;rw[z];rfl))
  have I0:Ev (m+6,none) [x0,some (.ref pl),some (.str CU),some (.int rt),some (.ref nl),some (.int hf),some (.int fl),some (.int s),some (.int (-1)),x9,none,none] h (.meth .lindex (.C8 4) [.sub (.C8 1) (.int 3)]) (.ok (.int e) h):=
   .meth (.C8 rfl) (iB (.inr (.inr rfl)) hn) (.cons (.sub (.C8 rfl) .int g3) .nil) (A6 hn mn.1 mn.2 ei)
  have B0:Ev (m+6,none) [x0,some (.ref pl),some (.str CU),some (.int rt),some (.ref nl),some (.int hf),some (.int fl),some (.int s),some (.int e),x9,none,none] h (.bin .sub (.int 6) (.bin .mul (.int 12) (.C8 7))) (.ok (.int (cG s)) h):=
   .bin .int (.bin .int (.C8 rfl) (sE rfl)) rfl
  have fd:e.fdiv 6=2->12<=e/\e<18:=λq=>by
   rw[Fe _ (by decide)]at q
   exact zC q
  have TB:Tru (m+6,none) [x0,some (.ref pl),some (.str CU),some (.int rt),some (.ref nl),some (.int hf),some (.int fl),some (.int s),some (.int e),some (.int (cG s)),none,none] h
   (.or [.cmp (.bin .fdiv (.C8 8) (.int 6)) [.ne] [.int 2],.cmp (.bin .add (.sub (.C8 2) (.C8 8)) (.sub (.C8 2) (.bin .add (.C8 8) (.C8 9)))) [.ne] [.str [46,46]],.cmp (.sub (.C8 2) (.bin .sub (.C8 8) (.C8 9))) [.ne] [.sub (.str [112,80]) (.C8 7)]]) (mm CU s e):=by
   have in6:(!(e.fdiv 6==2))=false->12<=e/\e<18:=λq=>fd (by simpa using q)
   exact .or3 (.ev (.Df (.bin (.C8 rfl) .int rfl) .int rfl)) (λq=>by
    have:=in6 q
    exact .ev (.Df (.bin (.sub (.C8 rfl) (.C8 rfl) (bT (by exact e0) (by exact ao [e,CU.length] [(.lt (.v 0) (.n 18),1),(.eq (.v 1) (.n 30),-1)] (.lt (.v 0) (.v 1)) 1 rfl this.2 (Ds Int.ofNat lc)) lo)) (.sub (.C8 rfl) (.bin (.C8 rfl) (.C8 rfl) rfl) (bT (eC hs this).1.1 (by rw[lc];exact(eC hs this).1.2) lo)) rfl) .str rfl)) (λq _=>by
    have:=in6 q
    exact .ev (.Df (.sub (.C8 rfl) (.bin (.C8 rfl) (.C8 rfl) rfl) (bT (eC hs this).2.1 (by rw[lc];exact(eC hs this).2.2) lo)) (.sub .str (.C8 rfl) (bT (by exact Dq _) (by simp;exact ao [s] [(.lt (.v 0) (.n 2),1)] (.lt (.v 0) (.n 2)) 1 rfl (Dt.mpr hs)) rfl)) rfl))
  cases be:mm CU s e with
  |true=>
   exists(if_pos rfl)
   rw[be]at TB
   obtain⟨v,TB,tv⟩:=TB
   exact⟨_,h,.ret (.Db T0 rfl (.cons (.C9 I0) (.cons (.C9 B0) (.ret (.Db TB tv (.ret (.ret .int))))))),mono⟩
  |false=>
   exists(if_neg Do)
   rw[be]at TB
   obtain⟨v,TB,tv⟩:=TB
   obtain⟨h1,F,k⟩:=kG (m:=m+2) (h:=h) (men:=[ag [80,112] s]) (goal:=e.toNat) lc (by exact Dt.mp (ao [e.toNat,e] [(.lt (.v 1) (.n 30),1),(.eq (.v 0) (.v 1),1)] (.lt (.v 0) (.n 30)) 1 rfl e30 (DH e0)))
   have et:((e.toNat:Nat):Int)=e:=by exact DH e0
   rw[et]at F
   have C:Ev (m+6,none) [x0,some (.ref pl),some (.str CU),some (.int rt),some (.ref nl),some (.int hf),some (.int fl),some (.int s),some (.int e),some (.int (cG s)),none,none] h (.not (.call 66 [.C8 2,.sub (.str [80,112]) (.C8 7),.C8 8])) (.ok (.bool (!dF CU [ag [80,112] s] e.toNat)) h1):=
    .not (.call (.cons (.C8 rfl) (.cons (.sub .str (.C8 rfl) (bT (by exact Dq _) (by simp;exact ao [s] [(.lt (.v 0) (.n 2),1)] (.lt (.v 0) (.n 2)) 1 rfl (Dt.mpr hs)) rfl)) (.cons (.C8 rfl) .nil))) F) rfl
   have mono1:Mono h0 h1:=Mono.trans mono k
   cases hu:dF CU [ag [80,112] s] e.toNat with
   |true=>
    exists(if_pos rfl)
    rw[hu]at C
    exact LEx.pre (λrs R=>.cons (.Db T0 rfl (.cons (.C9 I0) (.cons (.C9 B0) (.cons (.Da TB tv .nil) (.cons (.Da C rfl .nil) .nil))))) R) (nT (x9:=some (.int (cG s))) lc hs ck mono1)
   |false=>
    exists(if_neg Do)
    rw[hu]at C
    exact LEx.pre (λrs R=>.cons (.Db T0 rfl (.cons (.C9 I0) (.cons (.C9 B0) (.cons (.Da TB tv .nil) (.cons (.Db C rfl (.cons (.C9 (.neg .int)) .nil)) .nil))))) R) (nT (x9:=some (.int (cG s))) lc hs ck mono1)
 ·unfold wA
  exists(if_neg (by decide))
  have T0:Ev (m+6,none) [x0,some (.ref pl),some (.str CU),some (.int rt),some (.ref nl),some (.int hf),some (.int fl),some (.int s),some (.int (-1)),x9,none,none] h (.cmp (.sub (.C8 1) (.int 3)) [.ne] [.str [45]]) (.ok (.bool false) h):=
   .Df (.sub (.C8 rfl) .int g3) .str (Ds some (by show(!(q3==[45]))=false;(exists z);rfl))
  exact LEx.pre (λrs R=>.cons (.Da T0 rfl .nil) R) (nT (x9:=x9) lc hs ck mono)
theorem um{q1:List Nat}{s:Nat}(es:dA q1=some s):(if(q1==[119])=true then(0:Int)else 1)=(s:Int):=by
 unfold dA at es
 cases z:q1==[119]with
 |true=>rw[z]at es;cases es;rfl
 |false=>
  rw[z,if_neg Do]at es
  split at es
  ·cases es;rfl
  ·exact bq es
theorem un{h0 h:Hp}{CU q0 q1 q2 q3 q4 q5:List Nat}(lc:CU.length=30){s:Nat}(es:dA q1=some s){rt e hf fl:Int}{x0:Option V}{pl nl:Nat}(hp:h[pl]? =some (.list [.str q0,.str q1,.str q2,.str q3,.str q4,.str q5]))
 (hn:h[nl]? =some (.list (namesL.map V.str))) (ee:uz q3=some e) (mono:Mono h0 h):
 LEx h0 m [x0,some (.ref pl),some (.str CU),some (.int rt),some (.ref nl),some (.int hf),some (.int fl),none,none,none,none,none] h (f_law_read.body.drop 12) (kH CU s rt e hf fl):=by
 have lo:ae CU.length=true:=by(exists lc);rfl
 have hs:s<2:=kC es
 have g1:getitem (.ref pl) (.int 1) h=.ok (.str q1) h:=gi hp (by decide) rfl rfl
 generalize hE:[x0,some (V.ref pl),some (.str CU),some (.int rt),some (.ref nl),some (.int hf),some (.int fl),none,none,none,none,none]=CT
 have v1:CT[1]? =some (some (.ref pl)):=by(refine bt hE ?_);rfl
 have v2:CT[2]? =some (some (.str CU)):=by(refine bt hE ?_);rfl
 have v3:CT[3]? =some (some (.int rt)):=by(refine bt hE ?_);rfl
 have cg:∀k:Nat,k<30->getitem (.str CU) (.int (k:Nat)) h=.ok (.str [ag CU (k:Nat)]) h:=λk hk=>bT (Dq _) (by exact ao [k,CU.length] [(.lt (.v 0) (.n 30),1),(.eq (.v 1) (.n 30),-1)] (.lt (.v 0) (.v 1)) 1 rfl (Dt.mpr hk) (Ds Int.ofNat lc)) lo
 have TK:Tru (m+6,none) CT h (.or [.cmp (.meth .count (.C8 2) [.str [75]]) [.ne] [.int 1],.cmp (.meth .count (.C8 2) [.str [107]]) [.ne] [.int 1],.cmp (.str [112]) [.isin] [.repl (.bin .add (.slice (.C8 2) none (some (.int 6))) (.slice (.C8 2) (some (.int 24)) none)) 80 112]]) (pv CU):=
  .or3 (.ev (.Df (.meth (.C8 v2) rfl (.cons .str .nil) rfl) .int rfl)) (λ_=>.ev (.Df (.meth (.C8 v2) rfl (.cons .str .nil) rfl) .int rfl)) (λ_ _=>.ev (.Df .str (.repl (.bin (.slice01 (.C8 v2) .int (nQ (k:=6) lo rfl)) (.slice10 (.C8 v2) .int (nS (k:=24) lo rfl)) (cR (by simp;exact Dm.mp (ao [Nat.cast (Min.min 6 CU.length),Nat.cast (CU.length-24),CU.length] [(.eq (.v 2) (.n 30),1),(.le (.v 0) (.n 6),1),(.le (.v 1) (.v 2),1)] (.le (.a (.v 0) (.v 1)) (.n 100000)) 1 rfl (Ds Int.ofNat lc) (Dm.mpr (Fq _ _)) (Dm.mpr (Fd _ _)))))) (by
   have:ae (CU.take 6++CU.drop 24).length=true:=Du (by simp;exact Dm.mp (ao [Nat.cast (Min.min 6 CU.length),Nat.cast (CU.length-24),CU.length] [(.eq (.v 2) (.n 30),1),(.le (.v 0) (.n 6),1),(.le (.v 1) (.v 2),1)] (.le (.a (.v 0) (.v 1)) (.n 100000)) 1 rfl (Ds Int.ofNat lc) (Dm.mpr (Fq _ _)) (Dm.mpr (Fd _ _))))
   exists this;rfl)) rfl))
 have TW:Tru (m+6,none) CT h (.or [.bin .band (.C8 3) (.int 5),.and [.bin .band (.C8 3) (.int 2),.cmp (.bin .add (.sub (.C8 2) (.int 0)) (.sub (.C8 2) (.int 3))) [.ne] [.str [82,75]]],.and [.bin .band (.C8 3) (.int 8),.cmp (.bin .add (.sub (.C8 2) (.int 24)) (.sub (.C8 2) (.int 27))) [.ne] [.str [114,107]]]]) (ul CU rt):=
  .or3 (.int (.bin (.C8 v3) .int rfl)) (λ_=>.and (.int (.bin (.C8 v3) .int rfl)) λ_=>.ev (.Df (.bin (.sub (.C8 v2) .int (cg 0 (by decide))) (.sub (.C8 v2) .int (cg 3 (by decide))) rfl) .str rfl))
   (λ_ _=>.and (.int (.bin (.C8 v3) .int rfl)) λ_=>.ev (.Df (.bin (.sub (.C8 v2) .int (cg 24 (by decide))) (.sub (.C8 v2) .int (cg 27 (by decide))) rfl) .str rfl))
 unfold kH
 cases bk:pv CU with
 |true=>
  exists(if_pos rfl)
  rw[bk]at TK
  obtain⟨v,TK,tv⟩:=TK
  exact LEx.part mono (.ret (.Db TK tv (.ret (.ret .int))))
 |false=>
  exists(if_neg Do)
  rw[bk]at TK
  obtain⟨v,TK,tv⟩:=TK
  cases bw:ul CU rt with
  |true=>
   exists(if_pos rfl)
   rw[bw]at TW
   obtain⟨w,TW,tw⟩:=TW
   exact LEx.part mono (.cons (.Da TK tv .nil) (.ret (.Db TW tw (.ret (.ret .int)))))
  |false=>
   exists(if_neg Do)
   rw[bw]at TW
   obtain⟨w,TW,tw⟩:=TW
   have SD:Ev (m+6,none) CT h (.ite (.cmp (.sub (.C8 1) (.int 1)) [.eq] [.str [119]]) (.int 0) (.int 1)) (.ok (.int s) h):=by
    have e:=um es
    cases z:q1==[119]with
    |true=>rw[z,if_pos rfl]at e;rw[<-e];exact .iteT (.Df (.sub (.C8 v1) .int g1) .str (Ds some z)) rfl .int
    |false=>rw[z,if_neg Do]at e;rw[<-e];exact .iteF (.Df (.sub (.C8 v1) .int g1) .str (Ds some z)) rfl .int
   have ck:CU.contains (ag [107,75] s)=true:=by
    unfold pv at bk
    simp only[Bool.or_eq_false_iff,Bool.not_eq_false']at bk
    obtain⟨b1,b2,_⟩:=bk
    have c1:CU.count 75=1:=Fp (DQ.mp b1)
    have c2:CU.count 107=1:=Fp (DQ.mp b2)
    exists(propext DS)
    rcases(by exact or2 hs:s=0\/s=1)with rfl|rfl
    ·exact GT.mp (by show 0<CU.count 107;exact Es (DK (Eq.symm c2)))
    ·exact GT.mp (by show 0<CU.count 75;exact Es (DK (Eq.symm c1)))
   subst hE
   exact LEx.pre (λrs R=>.cons (.Da TK tv .nil) (.cons (.Da TW tw .nil) (.cons (.C9 SD) (.cons (.C9 (.neg .int)) R)))) (A7 lc hs ck hp hn ee mono)
end
noncomputable def uo(t:List Nat):Except Int Rd:=AJ (.error (-1)) (λq0 q1 q2 q3 q4 q5=>
 if(bh q0==[])=true then .error 0 else match dA q1 with
 |none=>.error 1
 |some s=>match iD q2 with
  |none=>.error 2
  |some rt=>match uz q3 with
   |none=>.error 3
   |some e=>if bf q4<0 then .error 4 else if bf q5<1 then .error 5 else kH (bh q0) s rt e (bf q4) (bf q5)) (aa 32 t)
theorem py(c:Nat):∀t:List Nat,(aa c t).length=t.count c+1:=by
 intro t
 induction t with
 |nil=>exact rfl
 |cons x r ih=>
  have ih:=ih
  unfold aa
  by_cases e:(x==c)=true
  ·exists(if_pos e),E7,ih
   have:x=c:=by simpa using e
   exists this,Ic;rfl
  ·exists(if_neg e)
   have:x≠c:=by simpa using e
   exists(HY this)
   cases q:aa c r with
   |nil=>rw[q]at ih;simp at ih
   |cons w ws=>rw[q]at ih;exact ih
theorem rp{t:List Nat}(h:(bh t==[])=false):(bh t).length=30:=by
 have R:∀(rs:List (List Nat))(acc c:List Nat),eZ acc rs=some c->c.length=acc.length+6*rs.length:=by
  intro rs
  induction rs with
  |nil=>intro acc c e;cases e;rfl
  |cons r rs ih=>
   intro acc c e
   unfold eZ at e
   cases q:eY false [] r with
   |none=>rw[q]at e;exact bq e
   |some w=>
    rw[q]at e
    dsimp only at e
    split at e
    ·exact bq e
    ·rename_i n6
     have w6:w.length=6:=by simp at n6;exact DJ (Dm.mp (ao [w.length] [(.eq (.v 0) (.n 6),1)] (.le (.v 0) (.n 6)) 1 rfl n6)) (Dm.mp (ao [w.length] [(.eq (.v 0) (.n 6),-1)] (.le (.n 6) (.v 0)) 1 rfl n6))
     have:=ih _ _ e
     rw[D0]at this
     simp only[List.length_cons];lia
 unfold bh at h⊢
 cases q:eZ [] (aa 47 t)with
 |none=>rw[q]at h;cases h
 |some c=>
  rw[q]at h
  dsimp only at h⊢
  split at h
  ·rename_i n5
   exists(if_pos n5)
   have:=R _ _ _ q
   simp at n5 this
   lia
  ·cases h
theorem rq{s:List Nat}:∀(l:List (List Nat))(i:Nat),cK s (l.map V.str)=some (bV s (l.map V.str) i).isSome:=by
 intro l
 induction l with
 |nil=>exact λi=>rfl
 |cons x l ih=>
  intro i
  show(cK s (l.map V.str)).map (λb=>x==s||b)=some (if(x==s)=true then some (i:Int)else bV s (l.map V.str) (i+1)).isSome
  exists(ih (i+1))
  cases x==s<;>rfl
theorem kI{t:List Nat}:cL t (eB 15)=(iD t).map V.int:=by rw[wy,mj];rfl
def BP(h:Hp)(m:Nat)(t:List Nat):Except Int Rd->Prop
 |.error p=>∃h':Hp,Fun (m+6,none) h 67 [.str t] (.ok (.int p) h')/\Mono h h'
 |.ok (bd,s,rt,e,hf,fl)=>∃(h':Hp)(b:Nat),Fun (m+6,none) h 67 [.str t] (.ok (.tup [.ref b,.int s,.int rt,.int e,.int hf,.int fl]) h')/\h'[b]? =some (.list (bd.map .int))/\h.length<=b/\Mono h h'
section
variable{m:Nat}
theorem LEx.fun{h:Hp}{t:List Nat}{r:Except Int Rd}(H:LEx h m [some (.str t),none,none,none,none,none,none,none,none,none,none,none] h f_law_read.body r):BP h m t r:=by
 induction r using Except.casesOn with
 |error p=>exact aD H λC4 h' a b=>⟨h',Fun.ret rfl rfl a,b⟩
 |ok x=>exact bQ H λC4 h' b a c=>⟨h',b,Fun.ret rfl rfl a,c⟩
theorem pz{h:Hp}{t:List Nat}(lt:t.length<=190):BP h m t (uo t):=by
 apply LEx.fun
 have lo:ae t.length=true:=Du (by exact aT lt rfl)
 have se:=dO (c:=32) t
 have Sx:Ev (m+6,none) [some (.str t),none,none,none,none,none,none,none,none,none,none,none] h (.meth .split (.C8 0) [.str [32]]) (.ok (.ref h.length) (h++[O.list ((aa 32 t).map V.str)])):=.meth (.C8 rfl) rfl (.cons .str .nil) (fZ lo)
 have hr:(h++[O.list ((aa 32 t).map V.str)])[h.length]? =some (.list ((aa 32 t).map V.str)):=last_get
 have mono0:Mono h (h++[O.list ((aa 32 t).map V.str)]):=Mono.app1
 generalize h++[O.list ((aa 32 t).map V.str)]=h1 at Sx hr mono0
 have C:Ev (m+6,none) [some (.str t),some (.ref h.length),none,none,none,none,none,none,none,none,none,none] h1 (.cmp (.meth .count (.C8 0) [.str [32]]) [.ne] [.int 5]) (.ok (.bool (!((t.count 32:Int)==5))) h1):=.Df (.meth (.C8 rfl) rfl (.cons .str .nil) rfl) .int rfl
 have cs:=py 32 t
 cases z:(!((t.count 32:Int)==5))with
 |true=>
  rw[z]at C
  have z:((t.count 32:Int)==5)=false:=by simpa using z
  have:uo t=.error (-1):=kt λq=>by
   rw[show t.count 32=5 from GU (cs.symm.trans q)]at z;exact aC z.symm
  exists this
  exact⟨_,h1,.cons (.C9 Sx) (.ret (.Db C rfl (.ret (.ret (.neg .int))))),mono0⟩
 |false=>
  rw[z]at C
  have l6:(aa 32 t).length=6:=cs.trans (Ds Nat.succ (Fp (DQ.mp ((Bool.not_eq_false' _).mp z))))
  refine iI l6 λq0 q1 q2 q3 q4 q5 eq=>?_
  rw[eq]at hr se
  have sl0:=se q0 (by simp)
  have sl4:=se q4 (by simp)
  have sl5:=se q5 (by simp)
  have hr:h1[h.length]? =some (.list [.str q0,.str q1,.str q2,.str q3,.str q4,.str q5]):=hr
  refine ai (ug (m:=m+3) (h:=h1) (t:=q0) (by exact Dw sl0 (aT lt rfl))) λh2 F62 k2=>?_
  have hr2:=k2 _ _ hr
  have mono2:Mono h h2:=Mono.trans mono0 k2
  have P0:∀rs,Exs (m+6,none) [some (.str t),some (.ref h.length),some (.str (bh q0)),none,none,none,none,none,none,none,none,none] h2 (f_law_read.body.drop 3) rs->Exs (m+6,none) [some (.str t),none,none,none,none,none,none,none,none,none,none,none] h f_law_read.body rs:=λrs R=>
   .cons (.C9 Sx) (.cons (.Da C rfl .nil) (.cons (.C9 (.call (.cons (.sub (.C8 rfl) .int (gi hr (by decide) rfl rfl)) .nil) F62)) R))
  refine LEx.pre P0 ?_
  clear P0 C Sx F62
  unfold uo
  exists eq
  dsimp only[AJ]
  have T0:Ev (m+6,none) [some (.str t),some (.ref h.length),some (.str (bh q0)),none,none,none,none,none,none,none,none,none] h2 (.cmp (.C8 2) [.eq] [.str []]) (.ok (.bool (bh q0==[])) h2):=.Df (.C8 rfl) .str rfl
  cases z0:bh q0==[]with
  |true=>
   exists(if_pos rfl)
   rw[z0]at T0
   exact LEx.part mono2 (.ret (.Db T0 rfl (.ret (.ret .int))))
  |false=>
   exists(if_neg Do)
   rw[z0]at T0
   have lc:=rp z0
   refine LEx.pre (λrs R=>.cons (.Da T0 rfl .nil) R) (?_:LEx h m _ _ (f_law_read.body.drop 4) _)
   have G1:Ev (m+6,none) [some (.str t),some (.ref h.length),some (.str (bh q0)),none,none,none,none,none,none,none,none,none] h2 (.cmp (.sub (.C8 1) (.int 1)) [.notin] [.list [.str [119],.str [98]]]) (.ok (.bool (!(dA q1).isSome)) (h2++[O.list [.str [119],.str [98]]])):=by
    refine .Df (.sub (.C8 rfl) .int (gi hr2 (by decide) rfl rfl)) (.list (.cons .str (.cons .str .nil)) rfl) ?_
    show(isin (.str q1) (.ref h2.length) (h2++[O.list [.str [119],.str [98]]])).map (!·)=_
    exists(kF last_get)
    show some (!([119]==q1||([98]==q1||false)))=_
    have e1:([119]==q1)=(q1==[119]):=Gc
    have e2:([98]==q1)=(q1==[98]):=Gc
    exists e1,e2
    unfold dA
    cases q1==[119]<;>cases q1==[98]<;>rfl
   have hr3:=au (o':=O.list [.str [119],.str [98]]) hr2
   have mono3:Mono h (h2++[O.list [.str [119],.str [98]]]):=Mono.app mono2
   generalize h2++[O.list [.str [119],.str [98]]]=h3 at G1 hr3 mono3
   cases es:dA q1 with
   |none=>
    rw[es]at G1
    exact LEx.part mono3 (.ret (.Db G1 rfl (.ret (.ret .int))))
   |some s=>
    rw[es]at G1
    dsimp only
    refine LEx.pre (λrs R=>.cons (.Da G1 rfl .nil) R) (?_:LEx h m _ _ (f_law_read.body.drop 5) _)
    refine dH (ml (m:=m+3) (h:=h3)) λh4 D4 F4 d4 k4=>?_
    refine dH (ml (m:=m+3) (h:=h4)) λh5 D5 F5 d5 k5=>?_
    have mono4:Mono h h4:=Mono.trans mono3 k4
    have hr4:=k4 _ _ hr3
    have G2:Ev (m+6,none) [some (.str t),some (.ref h.length),some (.str (bh q0)),none,none,none,none,none,none,none,none,none] h3 (.cmp (.sub (.C8 1) (.int 2)) [.notin] [.call 64 []]) (.ok (.bool (!(iD q2).isSome)) h4):=by
     refine .Df (.sub (.C8 rfl) .int (gi hr3 (by decide) rfl rfl)) (.call .nil F4) ?_
     show(isin (.str q2) (.ref D4) h4).map (!·)=_
     exists(ui d4),kI
     cases iD q2<;>rfl
    cases ew:iD q2 with
    |none=>
     rw[ew]at G2
     exact LEx.part mono4 (.ret (.Db G2 rfl (.ret (.ret .int))))
    |some rt=>
     rw[ew]at G2
     dsimp only
     have hr5:=k5 _ _ hr4
     have mono5:Mono h h5:=Mono.trans mono4 k5
     have G3:Ev (m+6,none) [some (.str t),some (.ref h.length),some (.str (bh q0)),none,none,none,none,none,none,none,none,none] h4 (.sub (.call 64 []) (.sub (.C8 1) (.int 2))) (.ok (.int rt) h5):=
      .sub (.call .nil F5) (.sub (.C8 rfl) .int (gi hr5 (by decide) rfl rfl)) (wz d5 (by(exists kI,ew);rfl))
     have N:=uj (m:=m+5) (h:=h5) (CT:=[some (.str t),some (.ref h.length),some (.str (bh q0)),some (.int rt),none,none,none,none,none,none,none,none]) (l:=rfl)
     refine LEx.pre (λrs R=>.cons (.Da G2 rfl .nil) (.cons (.C9 G3) (.cons (.C9 N) R))) (?_:LEx h m _ _ (f_law_read.body.drop 8) _)
     have hn:(h5++[O.list (namesL.map V.str)])[h5.length]? =some (.list (namesL.map V.str)):=last_get
     have hr6:=au (o':=O.list (namesL.map V.str)) hr5
     have mono6:Mono h (h5++[O.list (namesL.map V.str)]):=Mono.app mono5
     clear N
     generalize h5++[O.list (namesL.map V.str)]=h6 at hn hr6 mono6
     generalize h5.length=nl at hn
     show LEx h m [some (.str t),some (.ref h.length),some (.str (bh q0)),some (.int rt),some (.ref nl),none,none,none,none,none,none,none] h6 (f_law_read.body.drop 8) _
     have g3:getitem (.ref h.length) (.int 3) h6=.ok (.str q3) h6:=gi hr6 (by decide) rfl rfl
     have T3:Tru (m+6,none) [some (.str t),some (.ref h.length),some (.str (bh q0)),some (.int rt),some (.ref nl),none,none,none,none,none,none,none] h6 (.and [.cmp (.sub (.C8 1) (.int 3)) [.ne] [.str [45]],.cmp (.sub (.C8 1) (.int 3)) [.notin] [.C8 4]]) (!(q3==[45])&& !(bV q3 (namesL.map V.str) 0).isSome):=
      .and (.ev (.Df (.sub (.C8 rfl) .int g3) .str rfl)) λ_=>.ev (.Df (.sub (.C8 rfl) .int g3) (.C8 rfl) (by
       show(isin (.str q3) (.ref nl) h6).map (!·)=_
       exists(kF hn),(rq namesL 0);rfl))
     have e3:(!(q3==[45])&& !(bV q3 (namesL.map V.str) 0).isSome)= !(uz q3).isSome:=by
      unfold uz
      cases q3==[45]<;>simp
     rw[e3]at T3
     obtain⟨v3,T3,tv3⟩:=T3
     cases ee:uz q3 with
     |none=>
      rw[ee]at tv3
      exact LEx.part mono6 (.ret (.Db T3 tv3 (.ret (.ret .int))))
     |some e=>
      rw[ee]at tv3
      dsimp only
      refine ai (mf (m:=m+4) (h:=h6) (t:=q4) (by exact Dw sl4 (aT lt rfl))) λh7 F7 k7=>?_
      obtain⟨h8,F8,k8⟩:=mf (m:=m+4) (h:=h7) (t:=q5) (by exact Dw sl5 (aT lt rfl))
      have hr7:=k7 _ _ hr6
      have hr8:=k8 _ _ hr7
      have mono8:Mono h h8:=λn o e=>k8 n o (k7 n o (mono6 n o e))
      refine LEx.pre (λrs R=>.cons (.Da T3 tv3 .nil) (.cons (.C9 (.call (.cons (.sub (.C8 rfl) .int (gi hr6 (by decide) rfl rfl)) .nil) F7)) (.cons (.C9 (.call (.cons (.sub (.C8 rfl) .int (gi hr7 (by decide) rfl rfl)) .nil) F8)) R))) (?_:LEx h m _ _ (f_law_read.body.drop 11) _)
      show LEx h m [some (.str t),some (.ref h.length),some (.str (bh q0)),some (.int rt),some (.ref nl),some (.int (bf q4)),some (.int (bf q5)),none,none,none,none,none] h8 (f_law_read.body.drop 11) _
      have hn8:=k8 _ _ (k7 _ _ hn)
      have C5:Ev (m+6,none) [some (.str t),some (.ref h.length),some (.str (bh q0)),some (.int rt),some (.ref nl),some (.int (bf q4)),some (.int (bf q5)),none,none,none,none,none] h8 (.cmp (.C8 5) [.lt] [.int 0]) (.ok (.bool (decide (bf q4<0))) h8):=.Df (.C8 rfl) .int rfl
      have C6:Ev (m+6,none) [some (.str t),some (.ref h.length),some (.str (bh q0)),some (.int rt),some (.ref nl),some (.int (bf q4)),some (.int (bf q5)),none,none,none,none,none] h8 (.cmp (.C8 6) [.lt] [.int 1]) (.ok (.bool (decide (bf q5<1))) h8):=.Df (.C8 rfl) .int rfl
      have OR:=Ev.or2 C5 C6
      by_cases n4:bf q4<0
      ·exists(if_pos n4)
       rw[DX n4]at OR C5
       exact LEx.part mono8 (.ret (.Db OR rfl (.ret (.ret (.iteT C5 rfl .int)))))
      ·exists(if_neg n4)
       rw[D9 n4]at OR C5
       by_cases n5:bf q5<1
       ·exists(if_pos n5)
        rw[DX n5]at OR
        exact LEx.part mono8 (.ret (.Db OR rfl (.ret (.ret (.iteF C5 rfl .int)))))
       ·exists(if_neg n5)
        rw[D9 n5]at OR
        exact LEx.pre (λrs R=>.cons (.Da OR rfl .nil) R) (un lc es hr8 hn8 ee mono8)
end
noncomputable def SG:List (List Nat):=[[49,50,51,52,53,54,55,56,57,47,48,75,107,81,113,82,114,66,98,78,110,80,112,46],[119,98,87,45],[75,81,107,113,45,65],[97,98,99,100,101,102,103,49,50,51,52,53,54,45],[48,49,50,51,52,53,54,55,56,57,45,120],[32,48,49,50,51,52,53,54,55,56,57,43]]
theorem BQ:∀k:Nat,k<6->∃s,SG[k]? =some s/\0<s.length/\s.length<=24:=by
 intro k hk
 rcases(by exact BY hk:k=0\/k=1\/k=2\/k=3\/k=4\/k=5)with rfl|rfl|rfl|rfl|rfl|rfl<;>exact⟨_,rfl,by decide,by decide⟩
theorem mq{m:Nat}{h:Hp}:Fun (m,none) h 60 [] (.ok (.ref h.length) (h++[.list (SG.map V.str)])):=
 Fun.ret rfl rfl (.ret (.ret (.list (.cons .str (.cons .str (.cons .str (.cons .str (.cons .str (.cons .str .nil)))))) rfl)))
theorem wB{a b:Int}{h:Hp}(n:b≠0):ba .mod (.int a) (.int b) h=.ok (.int (a.fmod b)) h:=if_pos (by simp[n])
theorem A8{h:Hp}{n:Nat}{k:Nat}{xs:List V}{v:V}(q:h[n]? =some (.list xs)) (l:k<xs.length) (lo:ae xs.length=true):setitem (.ref n) (.int (k:Nat)) v h=.ok .none (h.set n (.list (xs.set k v))):=by
 unfold setitem
 dsimp only
 exists q
 dsimp only
 exists(if_pos (by rw[lo];simp[l]))
 rfl
theorem CB{m:Nat}{h:Hp}{P B:Nat}{qs:List (List Nat)}{n:Int}(hp:h[P]? =some (.list (qs.map V.str))) (l6:qs.length=6) (hB:∀q∈qs,q.length<=B) (b500:B<=500):
 ∃(h':Hp)(qs':List (List Nat)),Fun (m+1,none) h 61 [.ref P,.int n] (.ok .none h')/\h'.length=h.length+2/\h'[P]? =some (.list (qs'.map V.str))/\qs'.length=6/\(∀q∈qs',q.length<=B+1)/\∀(k:Nat)(o:O),k≠P->h[k]? =some o->h'[k]? =some o:=by
 have a0:0<=n.fmod 6:=Fa _ (by decide)
 have a6:n.fmod 6<6:=Fx _ (by decide)
 obtain⟨k,ek⟩:∃k:Nat,n.fmod 6=(k:Int):=⟨(n.fmod 6).toNat,by exact Eq.symm (DH a0)⟩
 have hk:k<6:=by exact Dt.mp (ao [k,n.fmod 6] [(.eq (.v 1) (.v 0),-1),(.lt (.v 1) (.n 6),1)] (.lt (.v 0) (.n 6)) 1 rfl ek a6)
 obtain⟨q,hq⟩:∃q,qs[k]? =some q:=⟨_,DI (by exact DA hk (DK (Eq.symm l6)))⟩
 have ql:=hB q (DR hq)
 have lo:ae q.length=true:=Du (by exact Dw ql (aT b500 rfl))
 have lm:ae (qs.map V.str).length=true:=by rw[DD,l6];rfl
 refine bo (BQ k hk) λsg s1 s2 s3=>?_
 have lsg:ae sg.length=true:=Du (by exact aT s3 rfl)
 obtain⟨p,ep⟩:∃p:Nat,((n.fdiv 6).fdiv 3).fmod ((q.length:Int)+1)=(p:Int):=⟨_,(DH (Fa _ (by exact EN (Dq _)))).symm⟩
 have hpl:p<=q.length:=by
  have:=Fx ((n.fdiv 6).fdiv 3) (b:=(q.length:Int)+1) (by exact EN (Dq _))
  exact EA (jS this ep rfl)
 obtain⟨z,ez⟩:∃z:Nat,(((n.fdiv 6).fdiv 3).fdiv ((q.length:Int)+1)).fmod (sg.length:Int)=(z:Int):=⟨_,(DH (Fa _ (by exact Hq.mpr s2))).symm⟩
 have hz:z<sg.length:=by
  have:=Fx (((n.fdiv 6).fdiv 3).fdiv ((q.length:Int)+1)) (b:=(sg.length:Int)) (by exact Hq.mpr s2)
  exact jS this ez rfl
 let sign:List Nat:=[ag sg (z:Nat)]
 have gq:getitem (.ref P) (.int k) h=.ok (.str q) h:=gi hp (by exact Dq _) (by(exists(show((k:Int)).toNat=k from rfl),DZ,hq);rfl) lm
 let h2:Hp:=h++[O.list (SG.map V.str)]++[O.list (SG.map V.str)]
 have hs1:((h++[O.list (SG.map V.str)])++[O.list (SG.map V.str)])[h.length]? =some (O.list (SG.map V.str)):=au last_get
 have gs1:getitem (.ref h.length) (.int k) (h++[O.list (SG.map V.str)])=.ok (.str sg) (h++[O.list (SG.map V.str)]):=gi last_get (by exact Dq _) (by(exists(show((k:Int)).toNat=k from rfl),DZ,s1);rfl) rfl
 have gs2:getitem (.ref (h++[O.list (SG.map V.str)]).length) (.int k) h2=.ok (.str sg) h2:=gi last_get (by exact Dq _) (by(exists(show((k:Int)).toNat=k from rfl),DZ,s1);rfl) rfl
 have lenq:∀{CT:Env}{h:Hp}{x2 x4 x5 x6:Option V}{n':Int},Ev (m+1,none) [some (.ref P),some (.int n'),x2,some (.str q),x4,x5,x6] h (.bin .add (.Dc .len [.C8 3]) (.int 1)) (.ok (.int ((q.length:Int)+1)) h):=.bin (.Dc (.cons (.C8 rfl) .nil) (if_pos lo)) .int rfl
 have fd1:∀{a:Int}{h:Hp},ba .fdiv (.int a) (.int ((q.length:Int)+1)) h=.ok (.int (a.fdiv ((q.length:Int)+1))) h:=nP (by exact E9 (EN (Dq _))) (Du (by exact eI (ao [q.length] [(.le (.n 0) (.v 0),1)] (.le (.g (.n 18446744073709551615)) (.a (.v 0) (.n 1))) 1 rfl (Dq _)) (ao [q.length,B] [(.le (.v 0) (.v 1),1),(.le (.v 1) (.n 500),1)] (.le (.a (.v 0) (.n 1)) (.n 18446744073709551615)) 1 rfl (Dm.mpr ql) (Dm.mpr b500))))
 have md1:∀{a:Int}{h:Hp},ba .mod (.int a) (.int ((q.length:Int)+1)) h=.ok (.int (a.fmod ((q.length:Int)+1))) h:=wB (by exact E9 (EN (Dq _)))
 have md2:∀{a:Int}{h:Hp},ba .mod (.int a) (.int (sg.length:Nat)) h=.ok (.int (a.fmod (sg.length:Nat))) h:=wB (by exact E9 (Hq.mpr s2))
 have hp2:h2[P]? =some (.list (qs.map V.str)):=au (au hp)
 have pre:∀{rs:RS},Exs (m+1,none) [some (.ref P),some (.int ((n.fdiv 6).fdiv 3)),some (.int k),some (.str q),some (.int ((n.fdiv 6).fmod 3)),some (.int p),some (.str sign)] h2 (f_law_bend.body.drop 7) rs->Exs (m+1,none) ([some (.ref P),some (.int n)]++List.replicate 5 none) h f_law_bend.body rs:=λR=>by
  have A:Ev (m+1,none) ([some (.ref P),some (.int n)]++List.replicate 5 none) h (.bin .mod (.C8 1) (.int 6)) (.ok (.int k) h):=by(refine bt ek ?_);exact .bin (.C8 rfl) .int rfl
  have D:Ev (m+1,none) [some (.ref P),some (.int ((n.fdiv 6).fdiv 3)),some (.int k),some (.str q),some (.int ((n.fdiv 6).fmod 3)),none,none] h (.bin .mod (.C8 1) (.bin .add (.Dc .len [.C8 3]) (.int 1))) (.ok (.int p) h):=by(refine bt ep ?_);exact .bin (.C8 rfl) (lenq (CT:=[])) md1
  have M:Ev (m+1,none) [some (.ref P),some (.int ((n.fdiv 6).fdiv 3)),some (.int k),some (.str q),some (.int ((n.fdiv 6).fmod 3)),some (.int p),none] (h++[O.list (SG.map V.str)]) (.bin .mod (.bin .fdiv (.C8 1) (.bin .add (.Dc .len [.C8 3]) (.int 1))) (.Dc .len [.sub (.call 60 []) (.C8 2)])) (.ok (.int z) h2):=by
   refine bt ez ?_
   exact .bin (.bin (.C8 rfl) (lenq (CT:=[])) fd1) (.Dc (.cons (.sub (.call .nil mq) (.C8 rfl) gs2) .nil) (if_pos lsg)) md2
  exact .cons (.C9 A) (.cons (.C9 (.sub (.C8 rfl) (.C8 rfl) gq)) (.cons (.C9 (.bin (.C8 rfl) .int rfl)) (.cons (.C9 (.bin (.C8 rfl) .int rfl)) (.cons (.C9 (.bin (.C8 rfl) .int rfl)) (.cons (.C9 D)
   (.cons (.C9 (.sub (.sub (.call .nil mq) (.C8 rfl) gs1) M (bT (by exact Dq _) (by exact Dt.mpr hz) lsg))) R))))))
 have fin:∀(w:List Nat),w.length<=B+1->Exs (m+1,none) [some (.ref P),some (.int ((n.fdiv 6).fdiv 3)),some (.int k),some (.str q),some (.int ((n.fdiv 6).fmod 3)),some (.int p),some (.str sign)] h2 (f_law_bend.body.drop 7)
  (.ok .next [some (.ref P),some (.int ((n.fdiv 6).fdiv 3)),some (.int k),some (.str q),some (.int ((n.fdiv 6).fmod 3)),some (.int p),some (.str sign)] (h2.set P (.list ((qs.map V.str).set k (.str w)))))->
  ∃(h':Hp)(qs':List (List Nat)),Fun (m+1,none) h 61 [.ref P,.int n] (.ok .none h')/\h'.length=h.length+2/\h'[P]? =some (.list (qs'.map V.str))/\qs'.length=6/\(∀q∈qs',q.length<=B+1)/\∀(k:Nat)(o:O),k≠P->h[k]? =some o->h'[k]? =some o:=λw wl R=>by
  refine⟨_,qs.set k w,Fun.end rfl rfl (pre R),?_,?_,?_,?_,?_⟩
  ·simp[h2]
  ·exists(DG (Dr.mp hp2).1),G4;rfl
  ·exists FN;exact l6
  ·intro x hx
   rcases List.mem_or_eq_of_mem_set hx with hx|rfl
   ·have:=hB x hx;exact Er this
   ·exact wl
  ·intro j o nj e
   exists(DB (λe=>nj e.symm))
   exact au (au e)
 have SI:∀w:List Nat,setitem (.ref P) (.int k) (.str w) h2=.ok .none (h2.set P (.list ((qs.map V.str).set k (.str w)))):=λw=>A8 hp2 (by rw[DD];exact DA hk (DK (Eq.symm l6))) lm
 have sp:small ((p:Nat):Int)=true:=Du (by exact eI (ao [p] [(.le (.n 0) (.v 0),1)] (.le (.g (.n 18446744073709551615)) (.v 0)) 1 rfl (Dq _)) (ao [p,q.length,B] [(.le (.v 0) (.v 1),1),(.le (.v 1) (.v 2),1),(.le (.v 2) (.n 500),1)] (.le (.v 0) (.n 18446744073709551615)) 1 rfl (Dm.mpr hpl) (Dm.mpr ql) (Dm.mpr b500)))
 have sp1:small (((p+1:Nat)):Int)=true:=Du (by exact eI (ao [p] [(.le (.n 0) (.v 0),1)] (.le (.g (.n 18446744073709551615)) (.a (.v 0) (.n 1))) 1 rfl (Dq _)) (ao [p,q.length,B] [(.le (.v 0) (.v 1),1),(.le (.v 1) (.v 2),1),(.le (.v 2) (.n 500),1)] (.le (.a (.v 0) (.n 1)) (.n 18446744073709551615)) 1 rfl (Dm.mpr hpl) (Dm.mpr ql) (Dm.mpr b500)))
 have ls:sign.length=1:=rfl
 cases z0:((n.fdiv 6).fmod 3==0)with
 |true=>
  exact fin (q.take p++sign++q.drop p) (by simp[ls];exact Dw (DK (by rw[Nat.add_left_comm,uE,Nat.add_comm])) (Nat.succ_le_succ ql)) (.cons (.Db (.Df (.C8 rfl) .int (Ds some z0)) rfl (.cons (.Dg (.bin (.bin (.slice01 (.C8 rfl) (.C8 rfl) (nQ lo sp)) (.C8 rfl) (cR (by simp[ls];exact Dm.mp (ao [Nat.cast (Min.min p q.length),q.length,B] [(.le (.v 1) (.v 2),1),(.le (.v 2) (.n 500),1),(.le (.v 0) (.v 1),1)] (.le (.v 0) (.n 99999)) 1 rfl (Dm.mpr ql) (Dm.mpr b500) (Dm.mpr (EI _ _)))))) (.slice10 (.C8 rfl) (.C8 rfl) (nS lo sp)) (cR (by simp[ls];exact Dm.mp (ao [Nat.cast (Min.min p q.length),Nat.cast (q.length-p),q.length,B] [(.le (.v 2) (.v 3),2),(.le (.v 3) (.n 500),2),(.le (.v 0) (.v 2),1),(.le (.v 1) (.v 2),1)] (.le (.a (.a (.v 0) (.n 1)) (.v 1)) (.n 100000)) 1 rfl (Dm.mpr ql) (Dm.mpr b500) (Dm.mpr (EI _ _)) (Dm.mpr (Fd _ _)))))) (.C8 rfl) (.C8 rfl) (SI _)) .nil)) .nil)
 |false=>
  cases z1:((n.fdiv 6).fmod 3==1)with
  |true=>
   exact fin (q.take p++sign++q.drop (p+1)) (by simp[ls];exact lO ql (Dy _)) (.cons (.Da (.Df (.C8 rfl) .int (Ds some z0)) rfl (.cons (.Db (.Df (.C8 rfl) .int (Ds some z1)) rfl (.cons (.Dg (.bin (.bin (.slice01 (.C8 rfl) (.C8 rfl) (nQ lo sp)) (.C8 rfl) (cR (by simp[ls];exact Dm.mp (ao [↑(Min.min p q.length),q.length,B] [(.le (.v 1) (.v 2),1),(.le (.v 2) (.n 500),1),(.le (.v 0) (.v 1),1)] (.le (.v 0) (.n 99999)) 1 rfl (Dm.mpr ql) (Dm.mpr b500) (Dm.mpr (EI _ _)))))) (.slice10 (.C8 rfl) (.bin (.C8 rfl) .int rfl) (nS lo sp1)) (cR (by simp[ls];exact Dm.mp (ao [↑(Min.min p q.length),↑(q.length-(p+1)),q.length,B] [(.le (.v 2) (.v 3),2),(.le (.v 3) (.n 500),2),(.le (.v 0) (.v 2),1),(.le (.v 1) (.v 2),1)] (.le (.a (.a (.v 0) (.n 1)) (.v 1)) (.n 100000)) 1 rfl (Dm.mpr ql) (Dm.mpr b500) (Dm.mpr (EI _ _)) (Dm.mpr (Fd _ _)))))) (.C8 rfl) (.C8 rfl) (SI _)) .nil)) .nil)) .nil)
  |false=>
   exact fin (q.take p++q.drop (p+1)) (by simp;exact Fh (q.length-(p+1))▸lO ql (FG 1)) (.cons (.Da (.Df (.C8 rfl) .int (Ds some z0)) rfl (.cons (.Da (.Df (.C8 rfl) .int (Ds some z1)) rfl (.cons (.Dg (.bin (.slice01 (.C8 rfl) (.C8 rfl) (nQ lo sp)) (.slice10 (.C8 rfl) (.bin (.C8 rfl) .int rfl) (nS lo sp1)) (cR (by simp;exact Dm.mp (ao [↑(Min.min p q.length),↑(q.length-(p+1)),q.length,B] [(.le (.v 2) (.v 3),2),(.le (.v 3) (.n 500),2),(.le (.v 0) (.v 2),1),(.le (.v 1) (.v 2),1)] (.le (.a (.v 0) (.v 1)) (.n 100000)) 1 rfl (Dm.mpr ql) (Dm.mpr b500) (Dm.mpr (EI _ _)) (Dm.mpr (Fd _ _)))))) (.C8 rfl) (.C8 rfl) (SI _)) .nil)) .nil)) .nil)
noncomputable def CC:S->List V
 |.ret (some (.list es))=>es.map λe=>match e with|.str a=>.str a|_=>.none
 |_=>[]
noncomputable def TX:List V:=CC (f_law_texts.body.getD 0 .pass)
theorem uq{m:Nat}{h:Hp}:Fun (m,none) h 59 [] (.ok (.ref h.length) (h++[.list TX])):=
 Fun.ret rfl rfl (.ret (.ret (.list (.cons .str (.cons .str (.cons .str (.cons .str (.cons .str (.cons .str .nil)))))) rfl)))
theorem BS:∀k:Nat,k<6->∃s,TX[k]? =some (.str s)/\ae s.length=true/\(aa 32 s).length=6/\∀q∈aa 32 s,q.length<=25:=by
 intro k hk
 rcases(by exact BY hk:k=0\/k=1\/k=2\/k=3\/k=4\/k=5)with rfl|rfl|rfl|rfl|rfl|rfl<;>exact⟨_,rfl,by decide+kernel,by decide+kernel,by decide+kernel⟩
noncomputable def A9:List S:=im f_law.body 2
noncomputable abbrev pA(x2 x3 x4 x5 x6 x7 x8 x9:Option V):Env:=[none,some (.ref 0),x2,x3,x4,x5,x6,x7,x8,x9]
theorem BU{m R P:Nat}{L:List Int}:∀(rs:List Int)(i B:Nat)(qs:List (List Nat))(x3:Option V)(h:Hp),L.drop i=rs->R≠P->h[R]? =some (.list (L.map V.int))->h[P]? =some (.list (qs.map V.str))->qs.length=6->(∀q∈qs,q.length<=B)->B+rs.length<=500->
 ∃(h':Hp)(qs':List (List Nat))(y3:Option V),Lp (m+2,none) (pA (some (.ref P)) x3 none none none none none none) h 3 (.lst R i) A9 (.ok .next (pA (some (.ref P)) y3 none none none none none none) h')/\
  h'.length=h.length+2*rs.length/\h'[P]? =some (.list (qs'.map V.str))/\qs'.length=6/\∀q∈qs',q.length<=B+rs.length:=by
 intro rs
 induction rs with
 |nil=>
  intro i B qs x3 h dr ne hr hp l6 hB b5
  refine⟨h,qs,x3,Lp.fin (nw hr ?_),rfl,hp,l6,hB⟩
  rw[EG,DD]
  exact FK.mp dr
 |cons n rs ih=>
  intro i B qs x3 h dr ne hr hp l6 hB b5
  simp only[List.length_cons]at b5⊢
  refine aA (sF dr) λa1 a2=>?_
  have nx:aP h (.lst R i)=.one (.int n) (.lst R (i+1)):=kx hr (by(exists DZ,a1);rfl)
  refine pM (CB (m:=m) (n:=n) hp l6 hB (by exact Dm.mp (ao [B,rs.length] [(.le (.a (.v 0) (.a (.v 1) (.n 1))) (.n 500),1),(.le (.n 0) (.v 1),1)] (.le (.v 0) (.n 500)) 1 rfl (Dm.mpr b5) (Dq _)))) λh1 qs1 F l1 p1 l61 B1 k1=>?_
  refine dT (ih (i+1) (B+1) qs1 (some (.int n)) h1 a2 ne (k1 _ _ ne hr) p1 l61 B1 (by exact Dm.mp (ao [B,rs.length] [(.le (.a (.v 0) (.a (.v 1) (.n 1))) (.n 500),1)] (.le (.a (.a (.v 0) (.n 1)) (.v 1)) (.n 500)) 1 rfl (Dm.mpr b5)))) λh' qs' y3 T l' p' l6' B'=>?_
  exact⟨h',qs',y3,Lp.next nx (.cons (.expr (.call (.cons (.C8 rfl) (.cons (.C8 rfl) .nil)) F)) .nil) T,by exact DJ (Dm.mp (ao [Nat.cast (List.length h'),Nat.cast (List.length h),rs.length,Nat.cast (List.length h1)] [(.eq (.v 0) (.a (.v 3) (.m 2 (.v 2))),1),(.eq (.v 3) (.a (.v 1) (.n 2)),1)] (.le (.v 0) (.a (.v 1) (.m 2 (.a (.v 2) (.n 1))))) 1 rfl (Ds Int.ofNat l') (Ds Int.ofNat l1))) (Dm.mp (ao [Nat.cast (List.length h),rs.length,Nat.cast (List.length h'),Nat.cast (List.length h1)] [(.eq (.v 2) (.a (.v 3) (.m 2 (.v 1))),-1),(.eq (.v 3) (.a (.v 0) (.n 2)),-1)] (.le (.a (.v 0) (.m 2 (.a (.v 1) (.n 1)))) (.v 2)) 1 rfl (Ds Int.ofNat l') (Ds Int.ofNat l1))),p',l6',λq hq=>by have:=B' q hq;lia⟩
theorem wC{h:Hp}{n k:Nat}{xs:List V}(q:h[n]? =some (.list xs)) (l:ae xs.length=true) (sm:small (k:Int)=true):slice (.ref n) (some (.int (k:Nat))) none h=.ok (.ref h.length) (h++[.list (xs.drop k)]):=by
 unfold slice
 have:(0<=((k:Nat):Int)&&small (k:Nat))=true:=by(exists sm);simp
 simp only[q,this,if_true,l]
 exists(show((xs.length:Int).toNat)=xs.length from rfl),Ha
 rfl
theorem BV{a b c d e f:List Nat}{B:Nat}(hB:∀q∈[a,b,c,d,e,f],q.length<=B):∃t,cr [32] ([a,b,c,d,e,f].map V.str)=some t/\t.length<=6*B+5:=by
 have ha:=hB a (by simp)
 have hb:=hB b (by simp)
 have hc:=hB c (by simp)
 have hd:=hB d (by simp)
 have he:=hB e (by simp)
 have hf:=hB f (by simp)
 refine⟨a++([32]++(b++([32]++(c++([32]++(d++([32]++(e++([32]++f))))))))),rfl,?_⟩
 simp only[List.length_append,List.length_cons,List.length_nil]
 exact Dm.mp (ao [a.length,b.length,c.length,d.length,e.length,f.length,B] [(.le (.v 5) (.v 6),1),(.le (.v 4) (.v 6),1),(.le (.v 3) (.v 6),1),(.le (.v 2) (.v 6),1),(.le (.v 1) (.v 6),1),(.le (.v 0) (.v 6),1)] (.le (.a (.v 0) (.a (.a (.n 0) (.n 1)) (.a (.v 1) (.a (.a (.n 0) (.n 1)) (.a (.v 2) (.a (.a (.n 0) (.n 1)) (.a (.v 3) (.a (.a (.n 0) (.n 1)) (.a (.v 4) (.a (.a (.n 0) (.n 1)) (.v 5))))))))))) (.a (.m 6 (.v 6)) (.n 5))) 1 rfl (Dm.mpr hf) (Dm.mpr he) (Dm.mpr hd) (Dm.mpr hc) (Dm.mpr hb) (Dm.mpr ha))
theorem yQ{h:Hp}{k:Nat}(l:h.length=4+2*k)(hk:k<=3)(d:Nat):
 Fun (d+60,none) h 15 [.int 6,.int 5,.bool true,.bool true] (.ok (.ref h.length) (h++aM h.length))/\Fun (d+60,none) (h++aM h.length) 27 [.ref h.length,.int 9] (.ok (.ref (h.length+51)) (h++(aM h.length++bC h.length))):=by
 rcases(by exact BX (EB hk):k=0\/k=1\/k=2\/k=3)with rfl|rfl|rfl|rfl
 ·refine jC (yo l) λo0 o1 o2 o3 e'1=>?_;subst e'1
  exact⟨Fun.kern 600 λm=>vT o0 o1 o2 o3 m d,Fun.kern 600 λm=>vU o0 o1 o2 o3 m d⟩
 ·refine bQ (tN (n:=4) l) λa0 a1 h e'2 l1=>?_;subst e'2
  refine jC (yo l1) λo0 o1 o2 o3 e'3=>?_;subst e'3
  exact⟨Fun.kern 600 λm=>vV a0 a1 o0 o1 o2 o3 m d,Fun.kern 600 λm=>vW a0 a1 o0 o1 o2 o3 m d⟩
 ·refine bQ (tN (n:=6) l) λa0 a1 h e'4 l1=>?_;subst e'4
  refine bQ (tN (n:=4) l1) λa2 a3 h e'5 l2=>?_;subst e'5
  refine jC (yo l2) λo0 o1 o2 o3 e'6=>?_;subst e'6
  exact⟨Fun.kern 600 λm=>vX a0 a1 a2 a3 o0 o1 o2 o3 m d,Fun.kern 600 λm=>vY a0 a1 a2 a3 o0 o1 o2 o3 m d⟩
 ·refine bQ (tN (n:=8) l) λa0 a1 h e'7 l1=>?_;subst e'7
  refine bQ (tN (n:=6) l1) λa2 a3 h e'8 l2=>?_;subst e'8
  refine bQ (tN (n:=4) l2) λa4 a5 h e'9 l3=>?_;subst e'9
  refine jC (yo l3) λo0 o1 o2 o3 e'10=>?_;subst e'10
  exact⟨Fun.kern 600 λm=>tR a0 a1 a2 a3 a4 a5 o0 o1 o2 o3 m d,Fun.kern 600 λm=>tS a0 a1 a2 a3 a4 a5 o0 o1 o2 o3 m d⟩
theorem wD(L:Nat):(aM L).length=31:=rfl
theorem gI:∀l:List Int,dw (l.map V.int) (l.map V.int)=true:=by
 intro l
 induction l with
 |nil=>exact rfl
 |cons x l ih=>
  show(x==x&&dw (l.map V.int) (l.map V.int))=true
  exists(ih);simp
theorem yR{h:Hp}{n k:Nat}{l:List Int}{a b c d e:Int}(ne:n≠k)(q1:h[n]? =some (.list (l.map V.int))) (q2:h[k]? =some (.list (l.map V.int))) (lo:ae (l.map V.int).length=true):
 fG .eq (.tup [.ref n,.int a,.int b,.int c,.int d,.int e]) (.tup [.ref k,.int a,.int b,.int c,.int d,.int e]) h=some true:=by
 have T:fc (.tup [.ref n,.int a,.int b,.int c,.int d,.int e]) (.tup [.ref k,.int a,.int b,.int c,.int d,.int e]) h=true:=by
  unfold fc
  dsimp only
  exists q1,q2
  dsimp only
  have:dw [V.int a,.int b,.int c,.int d,.int e] [.int a,.int b,.int c,.int d,.int e]=true:=gI [a,b,c,d,e]
  rw[this,gI,lo,GQ.mpr ne];rfl
 show(if fc _ _ h=true then some true else none)=_
 exists(if_pos T);rfl
theorem rz{rows:List (List Nat)}:∀(n:Nat)(acc bd:List Int),cP rows acc n=some bd->bd.length=acc.length+6*n:=by
 intro n
 induction n with
 |zero=>exact λacc bd e=>by cases e;rfl
 |succ n ih=>
  intro acc bd e
  unfold cP at e
  cases q:iY (rows[n]?.getD [])with
  |none=>rw[q]at e;exact bq e
  |some cs=>
   rw[q]at e
   have:=ih _ _ e
   rw[D0,pk q]at this
   lia
theorem rA{t:List Nat}{bd:List Int}(e:cQ t=some bd):bd.length=30:=by
 unfold cQ at e
 split at e
 ·exact bq e
 ·exact rz 5 [] bd e
theorem wE{t:List Nat}{bd:List Int}{s:Nat}{rt e hf fl:Int}(h:nL t=.ok (bd,s,rt,e,hf,fl)):bd.length=30:=by
 by_cases l6:(aa 32 t).length=6
 ·refine iI l6 λq0 q1 q2 q3 q4 q5 eq=>?_
  unfold nL at h
  rw[eq]at h
  dsimp only[AJ]at h
  cases f:eA q0 q1 q2 q3 with
  |error p=>rw[f]at h;cases h
  |ok r=>
   obtain⟨bd',s',rt',e'⟩:=r
   rw[f]at h
   dsimp only at h
   split at h
   ·cases h
   ·split at h
    ·cases h
    ·split at h
     ·cases h
     ·cases h
      exact rA (jq f).1
 ·cases(kt l6).symm.trans h
theorem wF(EQ:∀t:List Nat,t.length<=190->nL t=uo t)(xs:List Int):∃n d C4 C7,d<=150/\(ak prog n).exs (d,none) [none,some (.ref 0),none,none,none,none,none,none,none,none] [.list ((xs.take 4).map V.int)] f_law.body.tail=.ok (.ret (.bool true)) C4 C7:=by
 have l4:(xs.take 4).length<=4:=by(exists Hb);exact Fq _ _
 generalize xs.take 4=ys at l4
 have lo:ae (ys.map V.int).length=true:=by rw[DD];exact Du (by exact aT l4 rfl)
 have h00:([O.list (ys.map V.int)]:Hp)[(0:Nat)]? =some (.list (ys.map V.int)):=rfl
 obtain⟨i0,I0⟩:∃i:Int,Ev (100,none) (pA none none none none none none none none) ([O.list (ys.map V.int)]++[.list TX]) (.ite (.C8 1) (.sub (.C8 1) (.int 0)) (.int 0)) (.ok (.int i) ([O.list (ys.map V.int)]++[.list TX])):=by
  have q0:([O.list (ys.map V.int)]++[O.list TX])[(0:Nat)]? =some (.list (ys.map V.int)):=rfl
  have tl:=kE q0 lo
  induction ys using List.casesOn with
  |nil=>exact⟨0,.iteF (.C8 rfl) tl .int⟩
  |cons y ys=>exact⟨y,.iteT (.C8 rfl) tl (.sub (.C8 rfl) .int (gi q0 (by decide) rfl lo))⟩
 have a0:0<=i0.fmod 6:=Fa _ (by decide)
 have a6:i0.fmod 6<6:=Fx _ (by decide)
 obtain⟨k,ek⟩:∃k:Nat,i0.fmod 6=(k:Int):=⟨(i0.fmod 6).toNat,by exact Eq.symm (DH a0)⟩
 refine bi (BS k (by exact Dt.mp (ao [k,i0.fmod 6] [(.eq (.v 1) (.v 0),-1),(.lt (.v 1) (.n 6),1)] (.lt (.v 0) (.n 6)) 1 rfl ek a6))) λs s1 s2 s3 s4=>?_
 have E2:Ev (100,none) (pA none none none none none none none none) [O.list (ys.map V.int)] (.meth .split (.sub (.call 59 []) (.bin .mod (.ite (.C8 1) (.sub (.C8 1) (.int 0)) (.int 0)) (.int 6))) [.str [32]])
  (.ok (.ref 2) [O.list (ys.map V.int),.list TX,.list ((aa 32 s).map V.str)]):=
  .meth (.sub (.call .nil uq) (.bin I0 .int (show ba .mod (.int i0) (.int 6) _=.ok (.int k) _ by(refine bt ek ?_);rfl)) (gi last_get (by exact Dq _) s1 rfl)) rfl (.cons .str .nil) (fZ s2)
 have E3:Ev (100,none) (pA (some (.ref 2)) none none none none none none none) [O.list (ys.map V.int),.list TX,.list ((aa 32 s).map V.str)] (.slice (.C8 1) (some (.int 1)) none)
  (.ok (.ref 3) [O.list (ys.map V.int),.list TX,.list ((aa 32 s).map V.str),.list ((ys.drop 1).map V.int)]):=by
  exists List.map_drop
  exact .slice10 (.C8 rfl) .int (wC (k:=1) (h:=[O.list (ys.map V.int),.list TX,.list ((aa 32 s).map V.str)]) rfl lo rfl)
 have d3:(ys.drop 1).length<=3:=by rw[List.length_drop];exact Nat.sub_le_of_le_add l4
 refine dT (BU (m:=97) (R:=3) (P:=2) (ys.drop 1) 0 25 (aa 32 s) none [O.list (ys.map V.int),.list TX,.list ((aa 32 s).map V.str),.list ((ys.drop 1).map V.int)] rfl (by decide) rfl rfl s3 s4 (by exact Dm.mp (ao [Nat.cast ((List.drop 1 ys).length)] [(.le (.v 0) (.n 3),1)] (.le (.a (.n 25) (.v 0)) (.n 500)) 1 rfl (Dm.mpr d3)))) λh1 qs y3 LP hl hP l6 hB=>?_
 generalize(ys.drop 1).length=kb at d3 hl hB
 have hl:h1.length=4+2*kb:=hl
 obtain⟨t,jt,tl⟩:∃t,cr [32] (qs.map V.str)=some t/\t.length<=190:=by
  refine iI l6 λa b c d e f eqs=>?_
  ·subst eqs
   obtain⟨t,e1,e2⟩:=BV hB
   exact⟨t,e1,by exact Dm.mp (ao [t.length,kb] [(.le (.v 0) (.a (.m 6 (.a (.n 25) (.v 1))) (.n 5)),1),(.le (.v 1) (.n 3),6)] (.le (.v 0) (.n 190)) 1 rfl (Dm.mpr e2) (Dm.mpr d3))⟩
 have lt:ae t.length=true:=Du (by exact aT tl rfl)
 have mlk:cn .join (.str [32]) h1=true:=rfl
 obtain⟨GR,ZR⟩:=yQ hl d3 39
 have H1:v0 (h1++(aM h1.length++bC h1.length)) h1.length (aM h1.length):=λi o e=>by
  rw[<-F9]
  have:=pi (pre:=h1) (T:=aM h1.length) i o e
  rw[EV (Dr.mp this).1]
  exact this
 have H2:v0 (h1++(aM h1.length++bC h1.length)) (h1.length+31) (bC h1.length):=λi o e=>by
  rw[<-F9]
  have:=pi (pre:=h1++aM h1.length) (T:=bC h1.length) i o e
  rw[D0,wD]at this
  exact this
 have RF:=read_fen (m:=84) H1 H2 tl
 have pre:∀{rs:RS},Exs (100,none) (pA (some (.ref 2)) y3 (some (.str t)) (some (.ref h1.length)) (some (.ref (h1.length+51))) none none none) (h1++(aM h1.length++bC h1.length)) (f_law.body.drop 6) rs->Exs (100,none) (pA none none none none none none none none) [O.list (ys.map V.int)] f_law.body.tail rs:=λR=>
  .cons (.C9 E2) (.cons (.for E3 rfl LP) (.cons (.C9 (.meth .str rfl (.cons (.C8 rfl) .nil) (sH hP jt lt rfl))) (.cons (.C9 (.call (.cons .int (.cons .int (.cons .bool (.cons .bool .nil)))) GR)) (.cons (.C9 (.call (.cons (.C8 rfl) (.cons .int .nil)) ZR)) R))))
 generalize h1++(aM h1.length++bC h1.length)=h2 at pre RF
 generalize h1.length=L at pre RF
 suffices S:∃C4 C7,Exs (100,none) (pA (some (.ref 2)) y3 (some (.str t)) (some (.ref L)) (some (.ref (L+51))) none none none) h2 (f_law.body.drop 6) (.ok (.ret (.bool true)) C4 C7) by
  obtain⟨C4,C7,S⟩:=S
  obtain⟨n,hn⟩:=(pre S).run
  exact⟨n,100,C4,C7,by decide,hn⟩
 clear pre GR ZR LP E2 E3 I0
 cases er:nL t with
 |error part=>
  rw[er]at RF
  refine cW RF λn h' x fs F q f2 mono=>?_;clear RF
  have LR:=pz (m:=93) (h:=h') tl
  rw[<-EQ t tl,er]at LR
  refine ai LR λh'' F' k'=>?_;clear LR
  exact⟨_,h'',.cons (.tryX (m:=99) (.exc (.Dl (.call (.cons (.C8 rfl) (.cons (.C8 rfl) (.cons (.C8 rfl) .nil))) F))) q (.cons (.C9 (.attr (.C8 rfl) (ga_exc q f2))) .nil)) (.ret (.ret (.Df (.C8 rfl) (.call (.cons (.C8 rfl) .nil) F') (Ds some (DO part)))))⟩
 |ok r=>
  obtain⟨bd,s,rt,e,hf,fl⟩:=r
  rw[er]at RF
  refine dV RF λh' p b k sd hist key kd sds F Q mono=>?_;clear RF
  have LR:=pz (m:=93) (h:=h') tl
  rw[<-EQ t tl,er]at LR
  refine bL LR λh'' b' F' hb' lb' k'=>?_;clear LR
  have hb:=Q.hb
  have lb:b<h'.length:=(Dr.mp hb).1
  have gp:∀(j:Nat)(v:V),aG j [(23,.ref L),(22,.ref (L+51)),(24,.ref b),(25,.ref k),(26,.ref sd),(21,.int s),(20,.int rt),(19,.int e),(27,.int hf),(6,.int fl),(28,.int key),(29,.ref hist)]=some v->getattr (.ref p) j h'=.ok v h':=λj v e=>ga Q.hp e
  have lbd:ae (bd.map V.int).length=true:=by rw[DD,wE er];rfl
  exact⟨_,h'',.cons (.tryOk (m:=99) (.cons (.C9 (.call (.cons (.C8 rfl) (.cons (.C8 rfl) (.cons (.C8 rfl) .nil))) F)) (.cons (.C9 (.tup (.cons (.attr (.C8 rfl) (gp 24 _ rfl)) (.cons (.attr (.C8 rfl) (gp 21 _ rfl)) (.cons (.attr (.C8 rfl) (gp 20 _ rfl)) (.cons (.attr (.C8 rfl) (gp 19 _ rfl)) (.cons (.attr (.C8 rfl) (gp 27 _ rfl)) (.cons (.attr (.C8 rfl) (gp 6 _ rfl)) .nil)))))) rfl)) .nil)))
   (.ret (.ret (.Df (.C8 rfl) (.call (.cons (.C8 rfl) .nil) F') (yR (by exact Et (DA lb lb')) (k' _ _ hb) hb' lbd))))⟩
noncomputable def w7(c:Nat):Bool:=c==46||lt12.contains c
noncomputable def cq(t:List Nat):Option (List Nat):=match eY false [] t with
 |some w=>if((w.length:Int) !=6)=true then none else some w
 |none=>none
theorem cB{l:List Nat}{p:Nat->Bool}(h:l.all p=true){c:Nat}(m:c∈l):p c=true:=DE.mp h c m
theorem wG{c:Nat}(h:0<=ac c digs 0):c∈digs:=dh digs 0 (by exact E9 (ao [ac c digs 0] [(.le (.n 0) (.v 0),1)] (.lt (.g (.n 1)) (.v 0)) 1 rfl h))
theorem nU:digs.all (λc=>ac c digs 0==(c:Int)-48&&decide (48<=c)&&(c==48||dg6.contains c||decide (54<c))&& !lt12.contains c&&(dg6.contains c==(decide (48<c)&&decide (c<55))))=true:=by decide
theorem yS:dg6.all (λc=>digs.contains c)=true:=by decide
theorem wH:lt12.all (λc=>(ac c gV 0+1==aZ c)&&decide (0<aZ c)&&decide (ac c digs 0<0)&& !dg6.contains c)=true:=by decide
theorem yT:lets.all (λc=>c==46||lt12.contains c)=true:=by decide
theorem wI{c:Nat}(h:¬aZ c<=0):lt12.contains c=true:=by
 unfold aZ at h
 split at h
 ·lia
 ·rename_i n
  have m:c∈lets:=dh lets 0 (by exact E9 (ao [ac c lets 0] [(.lt (.n 0) (.v 0),1)] (.lt (.g (.n 1)) (.v 0)) 1 rfl (Em.mp h)))
  have:=cB yT m
  rw[FM]at this
  rcases this with e|e
  ·have:c=46:=by simpa using e
   subst this;exact absurd rfl n
  ·exact e
theorem i5(a b:List Nat):aj (a++b)=aj a++aj b:=by unfold aj;(exists Fs;rfl)
theorem rB(n:Nat):aj (List.replicate n 46)=List.replicate n 0:=by unfold aj;(exists List.map_replicate);rfl
theorem ur:∀(r:List Nat)(cs:List Int)(wd:Bool)(cs':List Int),fB cs wd r=some cs'->cs.length<=cs'.length:=by
 intro r
 induction r with
 |nil=>exact λcs wd cs' e=>by cases e;exact Dy _
 |cons c r ih=>
  intro cs wd cs' e
  unfold fB at e
  split at e
  ·split at e
   ·exact bq e
   ·have:=ih _ _ _ e
    rw[D0]at this;exact Dw (Ey _ _) this
  ·split at e
   ·exact bq e
   ·have:=ih _ _ _ e
    rw[D0]at this;exact Dw (Ey _ _) this
theorem wJ:∀(r wide:List Nat)(wd:Bool),(∀w,eY wd wide r=some w->fB (aj wide) wd r=some (aj w))/\(eY wd wide r=none->fB (aj wide) wd r=none\/∃cs,fB (aj wide) wd r=some cs/\6<cs.length):=by
 intro r
 induction r with
 |nil=>exact λwide wd=>⟨λw e=>by cases e;rfl,λe=>by cases e⟩
 |cons c r ih=>
  intro wide wd
  unfold eY fB
  by_cases dg:0<=ac c digs 0
  ·rw[if_pos dg]
   have m:=wG dg
   have v:=cB nU m
   refine xh v λv1 v2 v3 v4 v5=>?_;clear v;(try simp only[beq_iff_eq,decide_eq_true_eq,Bool.not_eq_true']at v1 v2 v3 v4 v5)
   rw[v4,if_neg Do]
   induction wd using Bool.casesOn with
   |true=>
    rw[Gd,EM,if_neg Do,Fg,if_pos rfl]
    exact⟨λw e=>(by cases e),λ_=>.inl rfl⟩
   |false=>
    rw[GA,EK,HG,v1]
    by_cases z:c=48
    ·subst z
     rw[if_neg (by decide),if_pos (by decide)]
     exact⟨λw e=>(by cases e),λ_=>.inl rfl⟩
    ·have nz:(((c:Int)-48)==0)=false:=Ef.mpr λq=>z (Fp (Int.sub_eq_zero.mp q))
     rw[nz,if_neg Do]
     have tn:((c:Int)-48).toNat=c-48:=Int.toNat_sub c 48
     exists tn
     by_cases l6:c<55
     ·have d6:dg6.contains c=true:=by rw[v5,DX (Nat.lt_of_le_of_ne v2 (Eb z)),DX l6];rfl
      exists d6,(if_pos rfl)
      have ih:=ih (wide++List.replicate (c-48) 46) true
      rw[i5,rB]at ih
      exact ih
     ·have d6:dg6.contains c=false:=by rw[v5,D9 l6,EM]
      exists d6,(if_neg Do)
      refine⟨λw e=>(by cases e),λ_=>?_⟩
      cases q:fB (aj wide++List.replicate (c-48) 0) true r with
      |none=>exact .inl rfl
      |some cs=>
       have:=ur _ _ _ _ q
       rw[D0,HX]at this
       exact .inr ⟨cs,rfl,Dw (Dw (Nat.le_sub_of_add_le (Ew l6):7<=c-48) (Fr _ _)) this⟩
  ·rw[if_neg dg]
   have n6:dg6.contains c=false:=by
    cases z:dg6.contains c with
    |false=>rfl
    |true=>
     have:=cB yS (DS.mp z)
     have v:=cB nU (DS.mp this)
     simp only[Bool.and_eq_true,beq_iff_eq,decide_eq_true_eq]at v
     exact absurd (by rw[v.1.1.1.1];exact Int.sub_nonneg.mpr (Dm.mpr v.1.1.1.2)) dg
   rw[n6,EF,if_neg Do]
   cases z:lt12.contains c with
   |true=>
    exists(if_pos rfl)
    have v:=cB wH (DS.mp z)
    simp only[Bool.and_eq_true,beq_iff_eq,decide_eq_true_eq]at v
    exists(if_neg (by exact Em.mpr v.1.1.2))
    have ih:=ih (wide++[c]) false
    rw[i5]at ih
    have e1:aj [c]=[aZ c]:=by show[ac c gV 0+1]=_;(exists(v.1.1.1);rfl)
    rw[e1]at ih
    exact ih
   |false=>
    exists(if_neg Do)
    have:aZ c<=0:=by
     by_cases q:aZ c<=0
     ·exact q
     ·rw[wI q]at z;cases z
    exists(if_pos this)
    exact⟨λw e=>(by cases e),λ_=>.inl rfl⟩
theorem yU(t:List Nat):iY t=(cq t).map aj:=by
 refine aA (wJ t [] false) λa b=>?_
 have e0:aj []=[]:=rfl
 rw[e0]at a b
 unfold iY cq
 cases q:eY false [] t with
 |some w=>
  exists(a w q)
  dsimp only
  have:(aj w).length=w.length:=by unfold aj;rw[DD]
  exists this
  cases((w.length:Int) !=6)<;>rfl
 |none=>
  rcases b q with e|⟨cs,e,l⟩
  ·exists e;rfl
  ·exists e
   dsimp only
   exists(if_pos (by simp;exact E9 (ao [cs.length] [(.lt (.n 6) (.v 0),1)] (.lt (.n 6) (.v 0)) 1 rfl (Dt.mpr l))));rfl
theorem yV:∀(r wide w:List Nat)(wd:Bool),wide.all w7=true->eY wd wide r=some w->w.all w7=true:=by
 intro r
 induction r with
 |nil=>exact λwide w wd a e=>by cases e;exact a
 |cons c r ih=>
  intro wide w wd a e
  unfold eY at e
  split at e
  ·refine ih _ w _ ?_ e
   rw[List.all_append,a,Ec,DE]
   intro x hx
   exists((List.mem_replicate.mp hx).2);rfl
  ·split at e
   ·rename_i z
    refine ih _ w _ ?_ e
    exists List.all_append,a
    show(true&&(w7 c&&true))=true
    unfold w7
    rw[z,Fg];rfl
   ·exact bq e
theorem iE{t w:List Nat}(e:cq t=some w):w.all w7=true/\w.length=6:=by
 unfold cq at e
 cases q:eY false [] t with
 |none=>rw[q]at e;exact bq e
 |some w'=>
  rw[q]at e
  dsimp only at e
  split at e
  ·exact bq e
  ·rename_i n
   cases e
   exact⟨yV _ _ _ _ rfl q,by simp at n;exact DJ (Dm.mp (ao [w.length] [(.eq (.v 0) (.n 6),1)] (.le (.v 0) (.n 6)) 1 rfl n)) (Dm.mp (ao [w.length] [(.eq (.v 0) (.n 6),-1)] (.le (.n 6) (.v 0)) 1 rfl n))⟩
theorem ea(acc r:List Nat)(rs:List (List Nat)):eZ acc (r::rs)=match cq r with
 |some w=>eZ (w++acc) rs
 |none=>none:=by
 show(match eY false [] r with
  |some w=>if((w.length:Int) !=6)=true then none else eZ (w++acc) rs
  |none=>none)=_
 unfold cq
 cases q:eY false [] r with
 |none=>rfl
 |some w=>
  dsimp only
  cases((w.length:Int) !=6)<;>rfl
theorem dB{rows:List (List Nat)}{acc:List Int}{n:Nat}{r:List Nat}(h:rows[n]? =some r):cP rows acc (n+1)=match cq r with
 |some w=>cP rows (acc++aj w) n
 |none=>none:=by
 rw[cP,h]
 show(match iY r with|some cs=>cP rows (acc++cs) n|none=>none)=_
 rw[yU]
 cases cq r<;>rfl
theorem rC(t:List Nat):(bh t=[]/\cQ t=none)\/(cQ t=some (aj (bh t))/\(bh t).all w7=true/\(bh t).length=30):=by
 unfold bh cQ
 rw[DD]
 by_cases l5:(aa 47 t).length=5
 ·have e1:((((aa 47 t).length:Nat):Int)==5)=true:=by(exists l5);rfl
  have e2:((((aa 47 t).length:Nat):Int) !=5)=false:=by(exists l5);rfl
  rw[e1,e2,if_neg Do]
  refine yn l5 λr0 r1 r2 r3 r4 hq=>?_
  ·rw[hq]
   rw[ea]
   have B:cP [r0,r1,r2,r3,r4] [] 5=(match cq r4 with
    |none=>none
    |some c4=>match cq r3 with
     |none=>none
     |some c3=>match cq r2 with
      |none=>none
      |some c2=>match cq r1 with
       |none=>none
       |some c1=>match cq r0 with
        |none=>none
        |some c0=>some (aj (c4++(c3++(c2++(c1++c0)))))):=by
    exists(dB (r:=r4) rfl)
    cases cq r4 with
    |none=>rfl
    |some c4=>
     dsimp only
     rw[dB (r:=r3) rfl]
     cases cq r3 with
     |none=>rfl
     |some c3=>
      dsimp only
      rw[dB (r:=r2) rfl]
      cases cq r2 with
      |none=>rfl
      |some c2=>
       dsimp only
       rw[dB (r:=r1) rfl]
       cases cq r1 with
       |none=>rfl
       |some c1=>
        dsimp only
        rw[dB (r:=r0) rfl]
        cases cq r0 with
        |none=>rfl
        |some c0=>
         show some _=some _
         simp only[i5,List.nil_append,List.append_assoc]
   rw[B]
   clear B
   cases q0:cq r0 with
   |none=>
    refine .inl ⟨rfl,?_⟩
    cases cq r4<;>cases cq r3<;>cases cq r2<;>cases cq r1<;>rfl
   |some w0=>
    dsimp only
    rw[ea]
    cases q1:cq r1 with
    |none=>
     refine .inl ⟨rfl,?_⟩
     cases cq r4<;>cases cq r3<;>cases cq r2<;>rfl
    |some w1=>
     dsimp only
     rw[ea]
     cases q2:cq r2 with
     |none=>
      refine .inl ⟨rfl,?_⟩
      cases cq r4<;>cases cq r3<;>rfl
     |some w2=>
      dsimp only
      rw[ea]
      cases q3:cq r3 with
      |none=>
       refine .inl ⟨rfl,?_⟩
       cases cq r4<;>rfl
      |some w3=>
       dsimp only
       rw[ea]
       cases q4:cq r4 with
       |none=>exact .inl ⟨rfl,rfl⟩
       |some w4=>
        refine aA (iE q0) λa0 l0=>?_
        refine aA (iE q1) λa1 l1=>?_
        refine aA (iE q2) λa2 l2=>?_
        refine aA (iE q3) λa3 l3=>?_
        refine aA (iE q4) λa4 l4=>?_
        refine .inr ⟨?_,?_,?_⟩
        ·show some _=some (aj (w4++(w3++(w2++(w1++(w0++[]))))))
         rw[Hl]
        ·show(w4++(w3++(w2++(w1++(w0++[]))))).all w7=true
         simp only[List.all_append,a0,a1,a2,a3,a4];rfl
        ·show(w4++(w3++(w2++(w1++(w0++[]))))).length=30
         simp only[List.length_append,l0,l1,l2,l3,l4];rfl
 ·have e1:((((aa 47 t).length:Nat):Int)==5)=false:=by simp;lia
  have e2:((((aa 47 t).length:Nat):Int) !=5)=true:=by simp;lia
  rw[e1,e2,if_pos rfl]
  refine .inl ⟨?_,rfl⟩
  cases eZ [] (aa 47 t)with
  |none=>rfl
  |some c=>rfl
noncomputable def iF:List Nat->List (List Nat)
 |[]=>[[]]
 |x::l=>iF l++(iF l).map (x::·)
theorem rF{l x:List Nat}:∀(n j:Nat),x∈iF (l.drop (j+n))->x∈iF (l.drop j):=by
 intro n
 induction n with
 |zero=>exact λj h=>h
 |succ n ih=>
  intro j h
  have h1:x∈iF (l.drop (j+1)):=ih (j+1) (by(exists(show j+1+n=j+(n+1) by exact DJ (Dm.mp (ao [j,n] [] (.le (.a (.a (.v 0) (.n 1)) (.v 1)) (.a (.v 0) (.a (.v 1) (.n 1)))) 1 rfl)) (Dm.mp (ao [j,n] [] (.le (.a (.v 0) (.a (.v 1) (.n 1))) (.a (.a (.v 0) (.n 1)) (.v 1))) 1 rfl))));exact h)
  cases q:l.drop j with
  |nil=>
   have:l.drop (j+1)=[]:=by(refine bt FU ?_;exists q);rfl
   rw[this]at h1;exact h1
  |cons a t=>
   have:l.drop (j+1)=t:=by(refine bt FU ?_;exists q);rfl
   rw[this]at h1
   exact GB _ h1
theorem yW:∀c∈rLet,∃i:Nat,i<4/\ac c rLet 0=(i:Int)/\rLet.drop i=c::rLet.drop (i+1):=by
 intro c hc
 simp only[rLet,List.mem_cons,List.not_mem_nil,or_false]at hc
 rcases hc with rfl|rfl|rfl|rfl
 ·exact⟨0,by decide,rfl,rfl⟩
 ·exact⟨1,by decide,rfl,rfl⟩
 ·exact⟨2,by decide,rfl,rfl⟩
 ·exact⟨3,by decide,rfl,rfl⟩
theorem rG:∀(r:List Nat)(rt:Int)(j:Nat)(v:Int),cO rt ((j:Int)-1) r=some v->r∈iF (rLet.drop j):=by
 intro r
 induction r with
 |nil=>
  intro rt j v e
  generalize rLet.drop j=l
  induction l with
  |nil=>exact GS.mpr rfl
  |cons x l ih=>exact GB _ ih
 |cons c r ih=>
  intro rt j v e
  unfold cO at e
  split at e
  ·exact bq e
  ·rename_i n
   have m:c∈rLet:=dh rLet 0 (by exact E9 (ao [ac c rLet 0,j] [(.lt (.s (.v 1) (.n 1)) (.v 0),1),(.le (.n 0) (.v 1),1)] (.lt (.g (.n 1)) (.v 0)) 1 rfl (Em.mp n) (Dq _)))
   refine bo (yW c m) λi i4 fi di=>?_
   rw[fi]at n e
   have ih:=ih _ (i+1) v (by(exists(show(((i+1:Nat):Int)-1)=(i:Int) by exact D8 (ao [i] [] (.le (.s (.a (.v 0) (.n 1)) (.n 1)) (.v 0)) 1 rfl) (ao [i] [] (.le (.v 0) (.s (.a (.v 0) (.n 1)) (.n 1))) 1 rfl)));exact e)
   refine rF (i-j) j ?_
   exists(show j+(i-j)=i by lia),di
   exact HZ _ (Im ih)
theorem wK:((([45]:List Nat)::iF rLet).all λt=>bJ t==iD t)=true:=by decide+kernel
theorem yX:(wingT.all λp=>(([45]:List Nat)::iF rLet).contains p.1)=true:=by decide+kernel
theorem sJ{t:List Nat}{v:Int}:∀l:List (List Nat×Int),l.lookup t=some v->(t,v)∈l
 |[],e=>by cases e
 |(k,w)::l,e=>by
  have e:(match t==k with|true=>some w|false=>l.lookup t)=some v:=e
  cases q:t==k with
  |true=>rw[q]at e;cases e;rw[DQ.mp q];exact DU
  |false=>rw[q]at e;exact DN _ (sJ l e)
theorem pB(t:List Nat):bJ t=iD t:=by
 by_cases m:t∈(([45]:List Nat)::iF rLet)
 ·exact DQ.mp (DE.mp wK t m)
 ·have a:bJ t=none:=by
   cases q:bJ t with
   |none=>rfl
   |some v=>
    unfold bJ at q
    split at q
    ·rename_i z
     exact absurd (Eo.mpr (.inl (DQ.mp z))) m
    ·cases o:cO 0 (-1) t with
     |none=>rw[o]at q;exact bq q
     |some w=>exact absurd (DN _ (rG t 0 0 w o)) m
  have b:iD t=none:=by
   cases q:iD t with
   |none=>rfl
   |some v=>
    have:=DE.mp yX _ (sJ _ q)
    exact absurd (DS.mp this) m
  exists a,b;rfl
noncomputable def wL(t:List Nat):Option Int:=if cf t<0 then none else some (cf t)
theorem us:(namesL.all λt=>bV t (namesL.map V.str) 0==wL t)=true:=by decide+kernel
theorem Ba:(fLet.all λa=>rLt8.all λb=>decide (nH (ac a fLet 0) (ac b rLt8 0)<0)||namesL.contains [a,b])=true:=by decide+kernel
theorem pC{t:List Nat}:∀(l:List (List Nat))(i:Nat),t∉l->bV t (l.map V.str) i=none:=by
 intro l
 induction l with
 |nil=>exact λi n=>rfl
 |cons x l ih=>
  intro i n
  show(if(x==t)=true then some (i:Int)else bV t (l.map V.str) (i+1))=none
  exists(if_neg (λe=>n (by rw[DQ.mp e];exact DU))),(ih (i+1) (λe=>n (DN _ e)));rfl
theorem yY(t:List Nat):uy t=uz t:=by
 unfold uy uz
 cases t==[45]with
 |true=>rfl
 |false=>
  rw[if_neg Do,if_neg Do]
  show wL t=_
  by_cases m:t∈namesL
  ·exact(DQ.mp (DE.mp us t m)).symm
  ·exists(pC _ _ m)
   unfold wL
   rw[if_pos]
   by_cases q:cf t<0
   ·exact q
   ·exfalso
    match t,q,m with
    |[],q,m=>exact q (by decide)
    |[a],q,m=>exact q (by show(-1:Int)<0;decide)
    |[a,b],q,m=>
     have q:¬nH (ac a fLet 0) (ac b rLt8 0)<0:=q
     have fa:ac a fLet 0≠-1:=λe=>q (by(exists e);unfold nH;(exists(if_pos (by simp)));decide)
     have fb:ac b rLt8 0≠-1:=λe=>q (by(exists e);unfold nH;(exists(if_pos (by simp)));decide)
     have:=DE.mp (DE.mp Ba a (dh _ _ fa)) b (dh _ _ fb)
     rw[FM]at this
     rcases this with e|e
     ·exact q (Fz e)
     ·exact m (DS.mp e)
    |_::_::_::_,q,m=>exact q (by show(-1:Int)<0;decide)
theorem pD:∀(a b:List Int),bI ((a++b).map V.int)=(bI (a.map V.int)).bind λx=>(bI (b.map V.int)).map (x+·):=by
 intro a
 induction a with
 |nil=>
  intro b
  refine aB (dP b) λv e=>?_
  show bI (b.map V.int)=(some (0:Int)).bind λx=>(bI (b.map V.int)).map (x+·)
  exists e;simp
 |cons x a ih=>
  intro b
  show(bI ((a++b).map V.int)).map (x+·)=((bI (a.map V.int)).map (x+·)).bind _
  exists(ih b)
  refine aB (dP a) λv e=>?_
  refine aB (dP b) λw e2=>?_
  rw[e,e2]
  simp[Int.add_assoc]
theorem rH{c:Nat}{r:List Nat}{v:Int}(e:d9 r=some v):d9 (c::r)=some (((c:Int)-48)*10^r.length+v):=by
 unfold d9 at e⊢
 have h1:(List.range (c::r).length).map (λi=>V.int (f8 (c::r) i*10^i))=(((List.range r.length).map λi=>f8 r i*10^i)++[((c:Int)-48)*10^r.length]).map V.int:=by
  exists E7,List.range_succ,Fs,Fs,E8
  congr 1
  ·apply E5
   intro i hi
   have hi:=Ei.mp hi
   have:f8 (c::r) i=f8 r i:=by
    unfold f8
    exists(show(c::r).length-1-i=(r.length-1-i)+1 by rw[E7];exact sQ (by assumption)),HM;rfl
   exists this;rfl
  ·have:f8 (c::r) r.length=(c:Int)-48:=by
    unfold f8
    exists(show(c::r).length-1-r.length=0 by rw[E7];lia);rfl
   show[V.int (f8 (c::r) r.length*10^r.length)]=_
   exists this;rfl
 have h2:(List.range r.length).map (λi=>V.int (f8 r i*10^i))=((List.range r.length).map λi=>f8 r i*10^i).map V.int:=by(exists E8);rfl
 rw[h2]at e
 rw[h1,pD,e]
 show some (v+(((c:Int)-48)*10^r.length+0))=_
 congr 1;lia
theorem rI{c:Nat}:(bZ c=true/\¬ac c digs 0<0/\ac c digs 0=(c:Int)-48)\/(bZ c=false/\ac c digs 0<0):=by
 unfold bZ
 cases z:digs.contains c with
 |true=>
  have v:=cB nU (DS.mp z)
  simp only[Bool.and_eq_true,beq_iff_eq,decide_eq_true_eq]at v
  exact .inl ⟨rfl,by exact Ez.mpr (ao [ac c digs 0,c] [(.le (.n 48) (.v 1),1),(.eq (.v 0) (.s (.v 1) (.n 48)),-1)] (.le (.n 0) (.v 0)) 1 rfl (Dm.mpr v.1.1.1.2) v.1.1.1.1),v.1.1.1.1⟩
 |false=>
  refine .inr ⟨rfl,?_⟩
  by_cases q:ac c digs 0<0
  ·exact q
  ·have:=DS.mpr (wG (c:=c) (by exact Ez.mp q))
   rw[z]at this;exact aC this
theorem wM:∀(t:List Nat)(acc:Int),(t.all bZ=true->∃v,d9 t=some v/\kA acc t=some (acc*10^t.length+v))/\(t.all bZ=false->kA acc t=none):=by
 intro t
 induction t with
 |nil=>exact λacc=>⟨λ_=>⟨0,rfl,by show some acc=_;simp⟩,λe=>by cases e⟩
 |cons c r ih=>
  intro acc
  unfold kA
  exists Fl
  rcases rI (c:=c)with⟨d,n,f⟩|⟨d,n⟩
  ·rw[d,if_neg n,f,Ec]
   refine aA (ih (acc*10+((c:Int)-48))) λa b=>?_
   refine⟨λe=>?_,b⟩
   refine ai (a e) λv e1 e2=>?_
   refine⟨_,rH e1,?_⟩
   rw[e2,E7,Int.pow_succ]
   congr 1
   rw[Int.add_mul,Hy,Int.mul_comm 10];lia
  ·rw[d,if_pos n]
   exact⟨λe=>(by cases e),λ_=>rfl⟩
theorem kJ(t:List Nat):aS t=bf t:=by
 induction t using List.casesOn with
 |nil=>rfl
 |cons c r=>
  unfold aS bf
  dsimp only
  have e:([c]==[48]&&decide ((1:Int)<((c::r).length:Nat)))=([c]==[48]&&(c::r) !=[48]):=by
   cases z:[c]==[48]with
   |false=>rfl
   |true=>
    have:c=48:=by have:=DQ.mp z;injection this
    subst this
    rw[Ec,Ec]
    induction r using List.casesOn with
    |nil=>rfl
    |cons x r=>
     have:((48::x::r:List Nat) !=[48])=true:=by simp
     exists this,F6
     simp only[List.length_cons];exact ao [r.length] [(.le (.n 0) (.v 0),1)] (.lt (.n 1) (.a (.a (.v 0) (.n 1)) (.n 1))) 1 rfl (Dq _)
  exists e
  cases([c]==[48]&&(c::r) !=[48])with
  |true=>rfl
  |false=>
   exists(if_neg Do),(if_neg Do)
   refine aA (wM (c::r) 0) λa b=>?_
   cases al:(c::r).all bZ with
   |true=>
    refine ai (a al) λv e1 e2=>?_
    exists e1,e2,(if_pos rfl)
    show 0*_+v=v
    rw[HO,FQ]
   |false=>(exists(b al),(if_neg Do));rfl
noncomputable def okL:List Nat:=46::lt12
theorem yZ{c:Nat}(h:w7 c=true):c∈okL:=by
 unfold w7 at h
 rw[FM]at h
 rcases h with e|e
 ·exists(DQ.mp e);exact DU
 ·exact DN _ (DS.mp e)
noncomputable def val(c:Nat):Int:=ac c gV 0+1
structure Cells (CU:List Nat):Prop where
 len:CU.length=30
 ok:CU.all w7=true
theorem Cells.at{CU:List Nat}(K:Cells CU){i:Nat}(h:i<30):CU[i]? =some (ag CU (i:Nat)):=by
 have e:=DI (show i<CU.length by(exists K.len);exact h)
 unfold ag
 exists(show((i:Int)).toNat=i from rfl),e;rfl
theorem Cells.mem{CU:List Nat}(K:Cells CU){i:Nat}(h:i<30):ag CU (i:Nat)∈okL:=yZ (DE.mp K.ok _ (DR (K.at h)))
theorem dk{CU:List Nat}(K:Cells CU){i:Nat}(h:i<30):bA (aj CU) i=val (ag CU (i:Nat)):=by
 unfold bA aj
 exists DZ,(K.at h);rfl
theorem y0:(okL.all λc=>((val c==0)==(c==46))&&((val c==1)==(c==80))&&((val c==9)==(c==112))&&((val c==6)==(c==75))&&((val c==14)==(c==107))&&((val c==4)==(c==82))&&((val c==12)==(c==114)))=true:=by decide+kernel
theorem eD{c:Nat}(h:c∈okL):(val c==0)=(c==46)/\(val c==1)=(c==80)/\(val c==9)=(c==112)/\(val c==6)=(c==75)/\(val c==14)=(c==107)/\(val c==4)=(c==82)/\(val c==12)=(c==114):=by
 have:=cB y0 h
 refine Bp this λa b c d e f g=>?_;clear this;(try simp only[beq_iff_eq]at a b c d e f g)
 exact⟨a,b,c,d,e,f,g⟩
theorem wN:((List.range 7).all λk=>okL.all λc=>(val c !=0&&(bitAnd (val c) 7).toNat==k)==(if k=0 then false else(c==ag [46,80,78,66,82,81,75] k||c==ag [46,112,110,98,114,113,107] k)))=true:=by decide+kernel
theorem wO:((List.range 2).all λk=>okL.all λc=>(val c !=0&&((val c).fdiv (2^3)).toNat==k)==(dQ k).contains c)=true:=by decide+kernel
noncomputable def gb(κ:Nat)(c:Nat):Bool:=if κ=0 then false else(c==ag [46,80,78,66,82,81,75] κ||c==ag [46,112,110,98,114,113,107] κ)
section
variable{CU:List Nat}
noncomputable def KN(CU:List Nat)(κ:Nat):Nat:=cj (jo (aj CU) κ) 30
noncomputable def SN(CU:List Nat)(σ:Nat):Nat:=cj (jp (aj CU) σ) 30
theorem fv(K:Cells CU){κ i:Nat}(k7:κ<7)(h:i<30):(KN CU κ).testBit i=gb κ (ag CU (i:Nat)):=by
 unfold KN
 rw[d8,DX h,Ec]
 unfold jo
 exists(dk K h)
 exact DQ.mp (cB (DE.mp wN κ (Ei.mpr k7)) (K.mem h))
theorem kK(K:Cells CU){σ i:Nat}(k2:σ<2)(h:i<30):(SN CU σ).testBit i=(dQ σ).contains (ag CU (i:Nat)):=by
 unfold SN
 rw[d8,DX h,Ec]
 unfold jp
 exists(dk K h)
 exact DQ.mp (cB (DE.mp wO σ (Ei.mpr k2)) (K.mem h))
theorem nV{f:Nat->Bool}{i:Nat}(h:¬i<30):(cj f 30).testBit i=false:=by rw[d8,D9 h,EF]
theorem mr{c:Nat}:∀l:List Nat,l.count c=1↔∃q:Nat,l[q]? =some c/\∀j:Nat,l[j]? =some c->j=q:=by
 intro l
 induction l with
 |nil=>exact⟨λh=>(by cases h),λ⟨q,e,_⟩=>(by cases e)⟩
 |cons x l ih=>
  by_cases e:x=c
  ·subst e
   exists Ic
   constructor
   ·intro h
    have z:l.count x=0:=by exact GU h
    refine⟨0,rfl,λj hj=>?_⟩
    induction j using Nat.casesOn with
    |zero=>rfl
    |succ j=>
     have m:=DR (show l[j]? =some x from hj)
     have:=GT.mpr m
     exact absurd this (Nat.not_lt_of_le (DK z))
   ·rintro⟨q,hq,u⟩
    have q0:=u 0 rfl
    subst q0
    have:l.count x=0:=by
     exists(propext List.count_eq_zero)
     intro m
     refine aB (FL m) λj hj=>?_
     have:=u (j+1) hj
     exact absurd this (Ff _)
    exact DJ (Ea (DK this) _) (Fr _ _)
  ·exists(HY e),(propext (ih))
   constructor
   ·rintro⟨q,hq,u⟩
    refine⟨q+1,hq,λj hj=>?_⟩
    induction j using Nat.casesOn with
    |zero=>injection hj with hj;exact absurd hj e
    |succ j=>rw[u j hj]
   ·rintro⟨q,hq,u⟩
    induction q using Nat.casesOn with
    |zero=>injection hq with hq;exact absurd hq e
    |succ q=>exact⟨q,hq,λj hj=>by have:=u (j+1) hj;exact GU this⟩
theorem za(q:Nat):(2^q:Nat)&&&(2^q-1)=0:=by
 apply GC
 intro i
 rw[Ej,E6,Nat.testBit_two_pow_sub_one,Fi]
 by_cases e:q=i
 ·subst e;simp
 ·simp[e]
theorem zc{w:Nat}:(w≠0/\w&&&(w-1)=0)↔∃q,w=2^q:=by
 constructor
 ·rintro⟨a,b⟩;exact⟨_,wn a b⟩
 ·rintro⟨q,rfl⟩;exact⟨Eg (Nat.two_pow_pos q),za q⟩
noncomputable def dG(t:Nat):Nat:=if t=0 then 75 else 107
theorem wP:((List.range 2).all λt=>okL.all λc=>((dQ t).contains c&&gb 6 c)==(c==dG t))=true:=by decide+kernel
theorem i6(K:Cells CU){t i:Nat}(ht:t<2)(h:i<30):(cF (aj CU) t).testBit i=(ag CU (i:Nat)==dG t):=by
 have a:=kK K ht h
 have b:=fv K (κ:=6) (by decide) h
 unfold SN at a
 unfold KN at b
 unfold cF
 rw[Ej,a,b]
 exact DQ.mp (cB (DE.mp wP t (Ei.mpr ht)) (K.mem h))
theorem pE(bd:List Int){t i:Nat}(h:¬i<30):(cF bd t).testBit i=false:=by
 unfold cF
 rw[Ej,nV h,EF]
theorem i7(K:Cells CU){t:Nat}(ht:t<2){q:Nat}:cF (aj CU) t=2^q↔CU[q]? =some (dG t)/\∀j:Nat,CU[j]? =some (dG t)->j=q:=by
 have in30:∀{j:Nat}{c:Nat},CU[j]? =some c->j<30:=λe=>by have:=(Dr.mp e).1;rw[K.len]at this;exact this
 constructor
 ·intro e
  have hb:∀i,(cF (aj CU) t).testBit i=decide (q=i):=λi=>by(exists e,E6;rfl)
  have hq:q<30:=by
   by_cases h:q<30
   ·exact h
   ·have:=hb q
    rw[pE _ h]at this
    simp at this
  constructor
  ·have:=hb q
   rw[i6 K ht hq,DX rfl,DQ]at this
   exists(K.at hq),this;rfl
  ·intro j hj
   have j30:=in30 hj
   have:=hb j
   rw[i6 K ht j30]at this
   have c:ag CU (j:Nat)=dG t:=by have:=K.at j30;rw[hj]at this;injection this with this;exact this.symm
   rw[c,DO]at this
   exact(Fz this.symm).symm
 ·rintro⟨a,u⟩
  apply GC
  intro i
  exists E6
  by_cases h:i<30
  ·exists(i6 K ht h)
   by_cases e:q=i
   ·subst e
    have:ag CU (q:Nat)=dG t:=by have:=K.at h;rw[a]at this;injection this with this;exact this.symm
    exists this;simp
   ·exists(D9 e),(propext Ef)
    intro c
    have:=K.at h
    rw[c]at this
    exact e (u i this).symm
  ·exists(pE _ h)
   have:=in30 a
   exact(D9 (by exact Et (DA this (Ew h)))).symm
theorem mu(K:Cells CU){t:Nat}(ht:t<2):(!(bitAnd (SB (aj CU) t) (KB (aj CU) 6)==0)&& !(bitAnd (bitAnd (SB (aj CU) t) (KB (aj CU) 6)) (bitAnd (SB (aj CU) t) (KB (aj CU) 6)-1) !=0))=((CU.count (dG t):Int)==1):=by
 have e:bitAnd (SB (aj CU) t) (KB (aj CU) 6)=((cF (aj CU) t:Nat):Int):=cx _ _
 exists e
 have C:((CU.count (dG t):Int)==1)=true↔∃q,cF (aj CU) t=2^q:=by
  exists(propext DQ)
  have:(CU.count (dG t):Int)=1↔CU.count (dG t)=1:=⟨Fp,Ds Int.ofNat⟩
  rw[this,mr]
  constructor
  ·rintro⟨q,h⟩;exact⟨q,(i7 K ht).mpr h⟩
  ·rintro⟨q,h⟩;exact⟨q,(i7 K ht).mp h⟩
 exists(propext EX),(propext C);refine bt (propext zc) ?_
 generalize cF (aj CU) t=w
 by_cases z:w=0
 ·subst z;simp
 ·have w1:((w:Nat):Int)-1=((w-1:Nat):Int):=lM z
  rw[w1,cx]
  have a:(((w:Nat):Int)==0)=false:=by simp[z]
  rw[a]
  simp only[Bool.not_false,Bool.true_and,Bool.not_eq_true',bne_eq_false_iff_eq]
  constructor
  ·intro h;exact⟨z,by exact DJ (Dm.mp (ao [Nat.cast (w&&&w-1)] [(.eq (.v 0) (.n 0),1)] (.le (.v 0) (.n 0)) 1 rfl h)) (Dm.mp (ao [Nat.cast (w&&&w-1)] [(.eq (.v 0) (.n 0),-1)] (.le (.n 0) (.v 0)) 1 rfl h))⟩
  ·rintro⟨_,h⟩;exact D8 (ao [Nat.cast (w&&&w-1)] [(.eq (.v 0) (.n 0),1)] (.le (.v 0) (.n 0)) 1 rfl (Ds Int.ofNat h)) (ao [Nat.cast (w&&&w-1)] [(.eq (.v 0) (.n 0),-1)] (.le (.n 0) (.v 0)) 1 rfl (Ds Int.ofNat h))
noncomputable def outer:Nat:=63|||1056964608
theorem mv:∀i<30,outer.testBit i=(decide (i<6)||decide (24<=i)):=by decide+kernel
theorem wQ:(okL.all λc=>gb 1 c==((if c==80 then 112 else c)==112))=true:=by decide+kernel
theorem rJ(K:Cells CU):gQ (KB (aj CU) 1)= !((CU.take 6++CU.drop 24).map λx=>if x==80 then 112 else x).contains 112:=by
 have e:bitAnd (KB (aj CU) 1) (bitOr 63 1056964608)=((KN CU 1&&&outer:Nat):Int):=by
  have:bitOr (63:Int) 1056964608=((63|||1056964608:Nat):Int):=bS 63 1056964608
  exists this;exact cx _ _
 unfold gQ
 exists e
 congr 1
 exists(propext EX),(propext GQ)
 have:(((KN CU 1&&&outer:Nat):Int)≠0)↔∃i,(KN CU 1&&&outer).testBit i=true:=by
  constructor
  ·intro h
   have h:(KN CU 1&&&outer)≠0:=λz=>h (by(exists z);rfl)
   refine aB (Hg h) λi hi=>?_
   exact⟨i,hi⟩
  ·rintro⟨i,hi⟩ z
   have z:(KN CU 1&&&outer)=0:=by exact DJ (Dm.mp (ao [Nat.cast (KN CU 1&&&outer)] [(.eq (.v 0) (.n 0),1)] (.le (.v 0) (.n 0)) 1 rfl z)) (Dm.mp (ao [Nat.cast (KN CU 1&&&outer)] [(.eq (.v 0) (.n 0),-1)] (.le (.n 0) (.v 0)) 1 rfl z))
   rw[z,Fi]at hi;exact aC hi
 exists(propext this),(propext DS),(propext List.mem_map)
 have P:∀{i:Nat},i<30->(KN CU 1).testBit i=((if ag CU (i:Nat)==80 then 112 else ag CU (i:Nat))==112):=λh=>by
  exists(fv K (by decide) h)
  exact DQ.mp (cB wQ (K.mem h))
 constructor
 ·rintro⟨i,hi⟩
  rw[Ej,DY]at hi
  have h:i<30:=by
   by_cases h:i<30
   ·exact h
   ·have:=hi.1
    unfold KN at this
    rw[nV h]at this;exact aC this
  have o:=hi.2
  rw[mv i h,FM,F6,F6]at o
  refine⟨ag CU (i:Nat),?_,?_⟩
  ·exists(propext FO)
   rcases o with o|o
   ·left
    refine DR (i:=i) ?_
    exists(HH o),(K.at h);rfl
   ·right
    refine DR (i:=i-24) ?_
    exists Fw,(show 24+(i-24)=i by exact FP o),(K.at h);rfl
  ·have:=hi.1
   rw[P h,DQ]at this
   exact this
 ·rintro⟨x,hx,ex⟩
  have:∃i,i<30/\CU[i]? =some x/\(i<6\/24<=i):=by
   (replace hx:=FO.mp hx)
   rcases hx with hx|hx
   ·refine aB (FL hx) λj hj=>?_
    have j6:j<6:=by have:=(Dr.mp hj).1;rw[Hb]at this;exact DA this (Fq _ _)
    rw[HH j6]at hj
    exact⟨j,by exact Bj j6 rfl,hj,.inl j6⟩
   ·refine aB (FL hx) λj hj=>?_
    rw[Fw]at hj
    have:=(Dr.mp hj).1
    rw[K.len]at this
    exact⟨24+j,this,hj,.inr (by exact Ey _ _)⟩
  refine bo this λi h hi o=>?_;clear this
  refine⟨i,?_⟩
  rw[Ej,mv i h,P h]
  have c:ag CU (i:Nat)=x:=by have:=K.at h;rw[hi]at this;injection this with this;exact this.symm
  rw[c,ex]
  rcases o with o|o
  ·rw[DX o];rfl
  ·rw[DX o,Fg];rfl
theorem pF(K:Cells CU):(dD (SB (aj CU) 0) (SB (aj CU) 1) (KB (aj CU) 6)&&gQ (KB (aj CU) 1))= !pv CU:=by
 have a:=mu K (t:=0) (by decide)
 have b:=mu K (t:=1) (by decide)
 have c:=rJ K
 unfold dD pv
 rw[show dG 0=75 from rfl]at a
 rw[show dG 1=107 from rfl]at b
 exists c;refine bt a ?_;refine bt b ?_
 generalize(!(bitAnd (SB (aj CU) 0) (KB (aj CU) 6)==0))=p1
 generalize(!(bitAnd (bitAnd (SB (aj CU) 0) (KB (aj CU) 6)) (bitAnd (SB (aj CU) 0) (KB (aj CU) 6)-1) !=0))=p2
 generalize(!(bitAnd (SB (aj CU) 1) (KB (aj CU) 6)==0))=p3
 generalize(!(bitAnd (bitAnd (SB (aj CU) 1) (KB (aj CU) 6)) (bitAnd (SB (aj CU) 1) (KB (aj CU) 6)-1) !=0))=p4
 generalize((CU.take 6++CU.drop 24).map λx=>if x==80 then 112 else x).contains 112=p5
 revert p1 p2 p3 p4 p5
 decide
theorem rK:∀r<16,∀a b c d:Bool,(gS ((r:Nat):Int) 0&&((gS ((r:Nat):Int) 1||(!(!b)&& !(!a)))&&(gS ((r:Nat):Int) 2&&(gS ((r:Nat):Int) 3||(!(!d)&& !(!c))))))= !(bitAnd ((r:Nat):Int) 5 !=0||((bitAnd ((r:Nat):Int) 2 !=0&& !(a&&(b&&true)))||(bitAnd ((r:Nat):Int) 8 !=0&& !(c&&(d&&true))))):=by decide+kernel
theorem rL(K:Cells CU){rt:Int}(r0:0<=rt)(r1:rt<16):gT rt (aj CU)= !ul CU rt:=by
 obtain⟨r,rfl⟩:∃r:Nat,rt=(r:Int):=⟨rt.toNat,by exact Eq.symm (DH r0)⟩
 have e3:(bA (aj CU) 3 !=6)= !(ag CU 3==75):=by(exists(dk K (by decide)));unfold bne;(exists((eD (K.mem (i:=3) (by decide))).2.2.2.1));rfl
 have e0:(bA (aj CU) 0 !=4)= !(ag CU 0==82):=by(exists(dk K (by decide)));unfold bne;(exists((eD (K.mem (i:=0) (by decide))).2.2.2.2.2.1));rfl
 have e27:(bA (aj CU) 27 !=14)= !(ag CU 27==107):=by(exists(dk K (by decide)));unfold bne;(exists((eD (K.mem (i:=27) (by decide))).2.2.2.2.1));rfl
 have e24:(bA (aj CU) 24 !=12)= !(ag CU 24==114):=by(exists(dk K (by decide)));unfold bne;(exists((eD (K.mem (i:=24) (by decide))).2.2.2.2.2.2));rfl
 unfold gT sC me ul
 exists e3,e0,e27,e24
 exact rK r (by exact Dt.mp (ao [r] [(.lt (.v 0) (.n 16),1)] (.lt (.v 0) (.n 16)) 1 rfl r1)) (ag CU 0==82) (ag CU 3==75) (ag CU 24==114) (ag CU 27==107)
theorem pG(K:Cells CU){s:Nat}(hs:s<2){e:Int}(e0:0<=e)(e1:e<30):iz (aj CU) s e= !mm CU s e:=by
 unfold iz mm
 have ah:ahead (s:Nat)=cG s:=by
  rcases(or2 hs)with rfl|rfl<;>rfl
 exists ah
 unfold bne
 cases z:(e.fdiv 6==2)with
 |false=>rfl
 |true=>
  have fd:12<=e/\e<18:=by
   have:=DQ.mp z
   rw[Fe _ (by decide)]at this
   exact zC this
  have C:∀{i:Int},0<=i->i<30->bA (aj CU) i.toNat=val (ag CU i)/\ag CU i∈okL:=λ{i} a b=>by
   obtain⟨k,rfl⟩:∃k:Nat,i=(k:Int):=⟨i.toNat,(DH a).symm⟩
   exact⟨dk K (Dt.mp b),K.mem (Dt.mp b)⟩
  refine aA (C (i:=e) e0 e1) λc1 m1=>?_
  refine aA (C (i:=e+cG s) (eC hs fd).1.1 (eC hs fd).1.2) λc2 m2=>?_
  refine aA (C (i:=e-cG s) (eC hs fd).2.1 (eC hs fd).2.2) λc3 m3=>?_
  exists c1,c2,c3,((eD m1).1),((eD m2).1)
  have l:(val (ag CU (e-cG s))==(1-(s:Int))*8+1)=(ag CU (e-cG s)==ag [112,80] s):=by
   rcases(or2 hs)with rfl|rfl
   ·exact(eD m3).2.2.1
   ·exact(eD m3).2.1
  exists l
  show _= !(!true||(!((ag CU e==46)&&((ag CU (e+cG s)==46)&&true))|| !((ag CU (e-cG s)==ag [112,80] s)&&true)))
  generalize(ag CU e==46)=a
  generalize(ag CU (e+cG s)==46)=b
  generalize(ag CU (e-cG s)==ag [112,80] s)=c
  revert a b c;decide
end
noncomputable def BW(ray stop:Int)(grow:Bool):Int:=
 if stop=0 then ray else if grow then bitAnd ray (bitXor stop (stop-1))else
 let b0:=stop.fdiv (2^1)
 let b1:=bitOr b0 (b0.fdiv (2^1))
 let b2:=bitOr b1 (b1.fdiv (2^2))
 let b3:=bitOr b2 (b2.fdiv (2^4))
 let b4:=bitOr b3 (b3.fdiv (2^8))
 let b5:=bitOr b4 (b4.fdiv (2^16))
 let b6:=bitOr b5 (b5.fdiv (2^32))
 bitAnd ray (bitNot b6)
theorem Bb(ray occ:Int)(g:Bool):yq ray occ g=BW ray (bitAnd ray occ) g:=rfl
noncomputable def bK(xs:List V)(b:Nat):Nat:=(getI xs b).toNat
noncomputable def bG(d b:Nat):Nat:=bK (tT d) b
noncomputable def CD(w:Nat):List Nat:=(List.range 30).filter w.testBit
noncomputable def kL:List Nat->Nat
 |[]=>0
 |x::l=>kL l|||2^x
noncomputable def ut:List Nat->List Nat
 |[]=>[0]
 |x::l=>ut l++(ut l).map (·|||2^x)
theorem zf(o:Nat):∀l:List Nat,kL l&&&o∈ut l:=by
 intro l
 induction l with
 |nil=>
  show 0&&&o∈[0]
  rw[Nat.zero_and];exact GS.mpr rfl
 |cons x l ih=>
  have ih:=ih
  show(kL l|||2^x)&&&o∈ut l++(ut l).map (·|||2^x)
  have e:(kL l|||2^x)&&&o=if o.testBit x then(kL l&&&o)|||2^x else kL l&&&o:=by
   apply GC
   intro i
   by_cases h:o.testBit x=true
   ·rw[if_pos h,Ej,En,En,Ej,E6]
    by_cases e:x=i
    ·subst e;simp[h]
    ·simp[e]
   ·rw[if_neg h,Ej,En,Ej,E6]
    by_cases e:x=i
    ·subst e;simp at h;simp[h]
    ·simp[e]
  rw[e]
  split
  ·exact HZ _ (Im ih)
  ·exact GB _ ih
noncomputable def clear(a b o:Nat):Bool:=(List.range (aY a b-1).toNat).all λk=>!o.testBit (eR a b ((k+1:Nat):Int)).toNat
noncomputable def jA(d b s:Nat):Nat:=cj (λa=>(bG d b).testBit a&&clear a b s) 30
theorem zg:∀d<8,∀b<30,((ut (CD (bG d b))).all λs=>BW (bG d b:Nat) (s:Nat) (jK d)==((jA d b s:Nat):Int))=true:=by decide+kernel
theorem wR:∀d<8,∀b<30,kL (CD (bG d b))=bG d b/\getI (tT d) b=((bG d b:Nat):Int)/\bG d b<2^30:=by decide+kernel
theorem Bc:∀d<8,∀b<30,∀a<30,(!(bG d b).testBit a||(List.range (aY a b-1).toNat).all λk=>(bG d b).testBit (eR a b ((k+1:Nat):Int)).toNat)=true:=by decide+kernel
theorem uu{d b a:Nat}(hd:d<8)(hb:b<30)(ha:a<30)(r:(bG d b).testBit a=true)(o:Nat):clear a b (bG d b&&&o)=clear a b o:=by
 have:=Bc d hd b hb a ha
 rw[r,Gd,E4]at this
 unfold clear
 generalize List.range (aY a b-1).toNat=l at this
 induction l with
 |nil=>rfl
 |cons k l ih=>
  rw[Fl,DY]at this
  rw[Fl,Fl,ih this.2,Ej,this.1,Ec]
theorem eF{d b a o:Nat}(hd:d<8)(hb:b<30)(ha:a<30):(jA d b (bG d b&&&o)).testBit a=((bG d b).testBit a&&clear a b o):=by
 unfold jA
 rw[d8,DX ha,Ec]
 cases r:(bG d b).testBit a with
 |false=>rfl
 |true=>rw[uu hd hb ha r]
theorem eG{d b o:Nat}(hd:d<8)(hb:b<30):eW d b (o:Nat)=((jA d b (bG d b&&&o):Nat):Int):=by
 refine cJ (wR d hd b hb) λa1 a2 _=>?_
 unfold eW
 rw[a2,Bb,cx]
 have m:=zf o (CD (bG d b))
 rw[a1]at m
 exact DQ.mp (DE.mp (zg d hd b hb) _ m)
noncomputable def mw(b o:Nat):Nat:=0|||jA 0 b (bG 0 b&&&o)|||jA 1 b (bG 1 b&&&o)|||jA 2 b (bG 2 b&&&o)|||jA 3 b (bG 3 b&&&o)
noncomputable def mx(b o:Nat):Nat:=0|||jA 4 b (bG 4 b&&&o)|||jA 5 b (bG 5 b&&&o)|||jA 6 b (bG 6 b&&&o)|||jA 7 b (bG 7 b&&&o)
theorem pH(a:Nat):bitOr 0 (a:Int)=((0|||a:Nat):Int):=bS 0 a
theorem zh{b o:Nat}(hb:b<30):sA b (o:Nat)=((mw b o:Nat):Int):=by
 unfold sA mw
 rw[eG (by decide) hb,eG (by decide) hb,eG (by decide) hb,eG (by decide) hb,pH,bS,bS,bS]
theorem zi{b o:Nat}(hb:b<30):sB b (o:Nat)=((mx b o:Nat):Int):=by
 unfold sB mx
 rw[eG (by decide) hb,eG (by decide) hb,eG (by decide) hb,eG (by decide) hb,pH,bS,bS,bS]
noncomputable def kM(a b:Int):Bool:=dR a b==0||dU a b==0
noncomputable def kN(a b:Int):Bool:=cH (dR a b)==cH (dU a b)
theorem my:∀b<30,∀a<30,((bG 0 b).testBit a||(bG 1 b).testBit a||(bG 2 b).testBit a||(bG 3 b).testBit a)=(a !=b&&kM (a:Nat) (b:Nat))/\
 ((bG 4 b).testBit a||(bG 5 b).testBit a||(bG 6 b).testBit a||(bG 7 b).testBit a)=(a !=b&&kN (a:Nat) (b:Nat)):=by decide+kernel
theorem wS{a b o:Nat}(ha:a<30)(hb:b<30):(mw b o).testBit a=(a !=b&&kM (a:Nat) (b:Nat)&&clear a b o):=by
 unfold mw
 rw[En,En,En,En,Fi,eF (by decide) hb ha,eF (by decide) hb ha,eF (by decide) hb ha,eF (by decide) hb ha,<-(my b hb a ha).1]
 generalize(bG 0 b).testBit a=p0
 generalize(bG 1 b).testBit a=p1
 generalize(bG 2 b).testBit a=p2
 generalize(bG 3 b).testBit a=p3
 generalize clear a b o=p4
 revert p0 p1 p2 p3 p4;decide
theorem wT{a b o:Nat}(ha:a<30)(hb:b<30):(mx b o).testBit a=(a !=b&&kN (a:Nat) (b:Nat)&&clear a b o):=by
 unfold mx
 rw[En,En,En,En,Fi,eF (by decide) hb ha,eF (by decide) hb ha,eF (by decide) hb ha,eF (by decide) hb ha,<-(my b hb a ha).2]
 generalize(bG 4 b).testBit a=p0
 generalize(bG 5 b).testBit a=p1
 generalize(bG 6 b).testBit a=p2
 generalize(bG 7 b).testBit a=p3
 generalize clear a b o=p4
 revert p0 p1 p2 p3 p4;decide
theorem uv:∀b<30,∀a<30,((bK (cE 1) b).testBit a=(a !=b&&(cH (dR (a:Nat) (b:Nat))==1&&dU (a:Nat) (b:Nat)==1)))/\((bK (cE 0) b).testBit a=(a !=b&&(cH (dR (a:Nat) (b:Nat))==1&&dU (a:Nat) (b:Nat)== -1)))/\
 ((bK knightL b).testBit a=(a !=b&&cH (dR (a:Nat) (b:Nat))*cH (dU (a:Nat) (b:Nat))==2))/\((bK kingL b).testBit a=(a !=b&&aY (a:Nat) (b:Nat)==1)):=by decide+kernel
theorem kO:∀b<30,getI (cE 1) b=((bK (cE 1) b:Nat):Int)/\getI (cE 0) b=((bK (cE 0) b:Nat):Int)/\getI knightL b=((bK knightL b:Nat):Int)/\getI kingL b=((bK kingL b:Nat):Int):=by decide+kernel
theorem wU:∀b<30,∀a<30,(a==b||((!(aY (a:Nat) (b:Nat)==1)||(kN (a:Nat) (b:Nat)== !kM (a:Nat) (b:Nat)))&& !(kM (a:Nat) (b:Nat)&&kN (a:Nat) (b:Nat))))=true:=by decide+kernel
theorem wV(g:Int->Nat):∀(n:Nat)(k:Int),f9 g n k=(List.range n).all λj=>g (k+(j:Nat))==46:=by
 intro n
 induction n with
 |zero=>exact λk=>rfl
 |succ n ih=>
  intro k
  have e:([g k] !=[46])= !(g k==46):=by
   show(!((g k==46)&&true))=_
   rw[EK]
  unfold f9
  exists e,HU,Fl,List.all_map,(ih (k+1))
  have e2:((λ(j:Nat)=>g (k+(j:Nat))==46)∘Nat.succ)=λj=>g (k+1+(j:Nat))==46:=by
   funext j
   show(g (k+((j+1:Nat):Int))==46)=_
   exists(show k+((j+1:Nat):Int)=k+1+(j:Int) by exact D8 (ao [k,j] [] (.le (.a (.v 0) (.a (.v 1) (.n 1))) (.a (.a (.v 0) (.n 1)) (.v 1))) 1 rfl) (ao [k,j] [] (.le (.a (.a (.v 0) (.n 1)) (.v 1)) (.a (.v 0) (.a (.v 1) (.n 1)))) 1 rfl));rfl
  exists e2
  show _=((g (k+0)==46)&&_)
  rw[Fy]
  cases g k==46<;>rfl
theorem rM{CU:List Nat}{a b o:Nat}(ha:a<30)(hb:b<30)(st:straight (a:Nat) (b:Nat)=true)(O:∀i:Nat,i<30->o.testBit i= !(ag CU (i:Nat)==46)):
 f9 (λk=>ag CU (eR a b k)) (aY (a:Nat) (b:Nat)-1).toNat 1=clear a b o:=by
 rw[wV]
 unfold clear
 have f5:=wx a ha b hb
 exists(propext EX),(propext DE),(propext DE)
 have E:∀k∈List.range (aY (a:Nat) (b:Nat)-1).toNat,(ag CU (eR a b (1+(k:Nat)))==46)= !o.testBit (eR a b ((k+1:Nat):Int)).toNat:=λk hk=>by
  have hk:=Ei.mp hk
  have hk':=Int.lt_toNat.mp hk
  have w:=ww ha hb st (k:=k+1) (Dt.mp (ao [k,aY a b] [(.lt (.v 0) (.s (.v 1) (.n 1)),1),(.le (.v 1) (.n 5),1)] (.lt (.a (.v 0) (.n 1)) (.n 6)) 1 rfl hk' f5.1)) (by exact Fr _ _) (ao [k,aY a b] [(.lt (.v 0) (.s (.v 1) (.n 1)),1)] (.lt (.a (.v 0) (.n 1)) (.v 1)) 1 rfl hk')
  exists(show(1:Int)+(k:Nat)=((k+1:Nat):Int) by exact D8 (ao [k] [] (.le (.a (.n 1) (.v 0)) (.a (.v 0) (.n 1))) 1 rfl) (ao [k] [] (.le (.a (.v 0) (.n 1)) (.a (.n 1) (.v 0))) 1 rfl))
  generalize eR a b ((k+1:Nat):Int)=i at w
  obtain⟨n,rfl⟩:∃n:Nat,i=(n:Int):=⟨i.toNat,by exact Eq.symm (DH w.1)⟩
  rw[show((n:Int)).toNat=n from rfl,O n (by exact Dt.mp (ao [n] [(.lt (.v 0) (.n 30),1)] (.lt (.v 0) (.n 30)) 1 rfl w.2)),Bool.not_not]
 exact⟨λh k hk=>by(refine bt (E k hk) ?_);exact h k hk,λh k hk=>by(exists(E k hk));exact h k hk⟩
noncomputable def pI(c:Nat)(pw kn kg rk bs:Bool):Bool:=if[80,112].contains c then pw else if[78,110].contains c then kn else if[75,107].contains c then kg else if[82,114].contains c then rk else if[66,98].contains c then bs else(rk||bs)
noncomputable def rN(c:Nat)(far1 o g p:Bool):Bool:=
 if([75,107].contains c||far1)=true then far1&&([75,107,81,113].contains c||g==[66,98].contains c)
 else if(!o&&(!g||[82,114].contains c))=true then false
 else if(o&&[66,98].contains c)=true then false
 else p
theorem uw:([66,98,82,114,81,113].all λc=>[false,true].all λfar1=>[false,true].all λo=>[false,true].all λg=>[false,true].all λp=>
 !((!far1||(g== !o))&& !(o&&g)&&(!far1||p))||(rN c far1 o g p==pI c false false false (o&&p) (g&&p)))=true:=by decide
theorem cS{p:Bool->Bool}(h:([false,true].all p)=true)(b:Bool):p b=true:=by
 have:=DE.mp h b (by cases b<;>simp)
 exact this
theorem ux{c:Nat}(hc:c∈[66,98,82,114,81,113]){far1 o g p:Bool}(h1:far1=true->g= !o)(h2:(o&&g)=false)(h3:far1=true->p=true):rN c far1 o g p=pI c false false false (o&&p) (g&&p):=by
 have:=cS (cS (cS (cS (DE.mp uw c hc) far1) o) g) p
 rw[h2]at this
 have e1:(!far1||(g== !o))=true:=by
  induction far1 using Bool.casesOn with
  |false=>rfl
  |true=>(exists(h1 rfl));simp
 have e2:(!far1||p)=true:=by
  induction far1 using Bool.casesOn with
  |false=>rfl
  |true=>(exists(h3 rfl));rfl
 rw[e1,e2]at this
 exact DQ.mp this
section
variable{CU:List Nat}
theorem pJ{a b o c:Nat}(hc:c∈[66,98,82,114,81,113])(ha:a<30)(hb:b<30)(ne:a≠b)(O:∀i:Nat,i<30->o.testBit i= !(ag CU (i:Nat)==46)):
 dE CU c a b=pI c false false false (kM (a:Nat) (b:Nat)&&clear a b o) (kN (a:Nat) (b:Nat)&&clear a b o):=by
 have n1:[80,112].contains c=false/\[78,110].contains c=false:=by
  simp only[List.mem_cons,List.not_mem_nil,or_false]at hc
  rcases hc with rfl|rfl|rfl|rfl|rfl|rfl<;>exact⟨rfl,rfl⟩
 have nf:=wU b hb a ha
 have ab:(a==b)=false:=by simp[ne]
 rw[ab,E4,DY]at nf
 refine aA nf λnf1 nf2=>?_;clear nf
 have T:dE CU c a b=rN c (aY (a:Nat) (b:Nat)==1) (kM (a:Nat) (b:Nat)) (kN (a:Nat) (b:Nat)) (f9 (λk=>ag CU (eR a b k)) (aY (a:Nat) (b:Nat)-1).toNat 1):=by
  unfold dE
  rw[n1.1,n1.2,if_neg Do,if_neg Do]
  rfl
 have h1:(aY (a:Nat) (b:Nat)==1)=true->kN (a:Nat) (b:Nat)= !kM (a:Nat) (b:Nat):=λe=>by
  rw[e,Gd,E4]at nf1
  exact DQ.mp nf1
 have h2:(kM (a:Nat) (b:Nat)&&kN (a:Nat) (b:Nat))=false:=by
  cases q:(kM (a:Nat) (b:Nat)&&kN (a:Nat) (b:Nat))with
  |false=>rfl
  |true=>rw[q]at nf2;cases nf2
 have h3:(aY (a:Nat) (b:Nat)==1)=true->f9 (λk=>ag CU (eR a b k)) (aY (a:Nat) (b:Nat)-1).toNat 1=true:=λe=>by
  exists(DQ.mp e);rfl
 have P:∀l:Bool,(l=true->straight (a:Nat) (b:Nat)=true)->(l&&f9 (λk=>ag CU (eR a b k)) (aY (a:Nat) (b:Nat)-1).toNat 1)=(l&&clear a b o):=λl hl=>by
  induction l using Bool.casesOn with
  |false=>rfl
  |true=>(exists(rM ha hb (hl rfl) O);rfl)
 exists T,(ux hc h1 h2 h3),(P _ (λe=>by unfold straight;unfold kM at e;rw[e];rfl)),(P _ (λe=>by unfold straight;unfold kN at e;rw[e,Fg]));rfl
theorem kP{a b o c s:Nat}(hs:s<2)(hc:(dQ s).contains c=true)(ha:a<30)(hb:b<30)(O:∀i:Nat,i<30->o.testBit i= !(ag CU (i:Nat)==46)):
 (a !=b&&dE CU c a b)=pI c ((bK (cE (1-s)) b).testBit a) ((bK knightL b).testBit a) ((bK kingL b).testBit a) ((mw b o).testBit a) ((mx b o).testBit a):=by
 refine dS (uv b hb a ha) λt1 t2 t3 t4=>?_
 have rb:=wS (o:=o) ha hb
 have bb:=wT (o:=o) ha hb
 by_cases ne:a=b
 ·have z:(a !=b)=false:=by simp[ne]
  rw[z,EF]at t1 t2 t3 t4
  rw[z,EF,EF]at rb bb
  have t0:(bK (cE (1-s)) b).testBit a=false:=by
   rcases(by exact or2 hs:s=0\/s=1)with rfl|rfl
   ·exact t1
   ·exact t2
  rw[z,EF,t0,t3,t4,rb,bb]
  unfold pI
  repeat' split
  all_goals rfl
 ·have z:(a !=b)=true:=by simp[ne]
  rw[z,Ec]at t1 t2 t3 t4
  rw[z,Ec]at rb bb
  rw[z,Ec,rb,bb,t3,t4]
  have sl:c∈[66,98,82,114,81,113]->dE CU c a b=pI c ((bK (cE (1-s)) b).testBit a) (cH (dR (a:Nat) (b:Nat))*cH (dU (a:Nat) (b:Nat))==2) (aY (a:Nat) (b:Nat)==1) (kM (a:Nat) (b:Nat)&&clear a b o) (kN (a:Nat) (b:Nat)&&clear a b o):=λhm=>by
   rw[pJ hm ha hb ne O]
   simp only[List.mem_cons,List.not_mem_nil,or_false]at hm
   rcases hm with rfl|rfl|rfl|rfl|rfl|rfl<;>rfl
  have m:=DS.mp hc
  rcases(or2 hs)with rfl|rfl
  ·simp only[dQ,if_true,List.mem_cons,List.not_mem_nil,or_false]at m
   rcases m with rfl|rfl|rfl|rfl|rfl|rfl
   ·exact t1.symm
   ·rfl
   ·exact sl (by decide)
   ·exact sl (by decide)
   ·exact sl (by decide)
   ·exact(show dE CU 75 a b=((aY (a:Nat) (b:Nat)==1)&&true)from rfl).trans (EK _)
  ·have m:c∈[112,110,98,114,113,107]:=m
   simp only[List.mem_cons,List.not_mem_nil,or_false]at m
   rcases m with rfl|rfl|rfl|rfl|rfl|rfl
   ·exact t2.symm
   ·rfl
   ·exact sl (by decide)
   ·exact sl (by decide)
   ·exact sl (by decide)
   ·exact(show dE CU 107 a b=((aY (a:Nat) (b:Nat)==1)&&true)from rfl).trans (EK _)
noncomputable def CE(pw kn kg rk bs k1 k2 k3 k4 k5 k6 own:Bool):Bool:=(((pw&&k1)&&own)||(((kn&&k2)||(kg&&k6))&&own))||(rk&&((k4||k5)&&own))||(bs&&((k3||k5)&&own))
theorem zj:((List.range 2).all λs=>okL.all λc=>[false,true].all λpw=>[false,true].all λkn=>[false,true].all λkg=>[false,true].all λrk=>[false,true].all λbs=>
 CE pw kn kg rk bs (gb 1 c) (gb 2 c) (gb 3 c) (gb 4 c) (gb 5 c) (gb 6 c) ((dQ s).contains c)==((dQ s).contains c&&pI c pw kn kg rk bs))=true:=by decide+kernel
theorem zk:((List.range 2).all λs=>okL.all λc=>!(dQ s).contains c|| !(c==46))=true:=by decide+kernel
theorem B6{n:Nat}(h:∀i,¬i<30->n.testBit i=false):((n:Int) !=0)=(List.range 30).any n.testBit:=by
 exists(propext EX),(propext GQ),(propext G7)
 constructor
 ·intro z
  have z:n≠0:=λe=>z (by(exists e);rfl)
  refine aB (Hg z) λi hi=>?_
  refine⟨i,Ei.mpr ?_,hi⟩
  by_cases q:i<30
  ·exact q
  ·rw[h i q]at hi;cases hi
 ·rintro⟨i,_,hi⟩ z
  have z:n=0:=by exact DJ (Dm.mp (ao [n] [(.eq (.v 0) (.n 0),1)] (.le (.v 0) (.n 0)) 1 rfl z)) (Dm.mp (ao [n] [(.eq (.v 0) (.n 0),-1)] (.le (.n 0) (.v 0)) 1 rfl z))
  rw[z,Fi]at hi;cases hi
theorem wW{p q:Nat->Bool}:∀l:List Nat,(l.any p||l.any q)=l.any λx=>p x||q x:=by
 intro l
 induction l with
 |nil=>exact rfl
 |cons x l ih=>
  rw[ER,ER,ER,<-ih]
  cases p x<;>cases q x<;>simp
theorem pK{p q:Nat->Bool}:∀l:List Nat,(∀x∈l,p x=q x)->l.any p=l.any q:=by
 intro l
 induction l with
 |nil=>exact λ_=>rfl
 |cons x l ih=>exact λh=>by rw[ER,ER,h x DU,ih λy hy=>h y (DN _ hy)]
theorem sK{σ i:Nat}(h:¬i<30):(SN CU σ).testBit i=false:=nV h
theorem sL(K:Cells CU):∀i:Nat,i<30->(SN CU 0|||SN CU 1).testBit i= !(ag CU (i:Nat)==46):=λi h=>by
 rw[En,kK K (by decide) h,kK K (by decide) h]
 have m:=K.mem h
 generalize ag CU (i:Nat)=c at m
 exact DQ.mp (cB (p:=λc=>((dQ 0).contains c||(dQ 1).contains c)== !(c==46)) (by decide+kernel) m)
theorem wX(K:Cells CU){s b:Nat}(hs:s<2)(hb:b<30):qZ b s (SN CU s:Nat) (bitOr (SN CU 0:Nat) (SN CU 1:Nat)) (KN CU 1:Nat) (KN CU 2:Nat) (KN CU 3:Nat) (KN CU 4:Nat) (KN CU 5:Nat) (KN CU 6:Nat)=dF CU (dQ s) b:=by
 refine dS (kO b hb) λw1 w0 w2 w3=>?_
 have wp:getI (cE (1-s)) b=((bK (cE (1-s)) b:Nat):Int):=by
  rcases(or2 hs)with rfl|rfl
  ·exact w1
  ·exact w0
 unfold qZ
 rw[bS (SN CU 0),zh hb,zi hb,wp,w2,w3]
 simp only[cx,bS]
 have cut:∀S R:Nat,(((S:Nat):Int) !=0&&(((R&&&S:Nat)):Int) !=0)=((((R&&&S:Nat)):Int) !=0):=λS R=>by
  by_cases z:S=0
  ·subst z;rw[Nat.and_zero];rfl
  ·have:(((S:Nat):Int) !=0)=true:=by simp[z]
   rw[this,Ec]
 rw[cut,cut,B6,B6,B6,wW,wW]
 ·unfold dF
  apply pK
  intro a ha
  have ha:=Ei.mp ha
  have TP:(dQ s).contains (ag CU (a:Nat))=true->_:=λh=>kP (o:=SN CU 0|||SN CU 1) hs h ha hb (sL K)
  simp only[Nat.testBit_or,Nat.testBit_and]
  rw[fv K (by decide) ha,fv K (by decide) ha,fv K (by decide) ha,fv K (by decide) ha,fv K (by decide) ha,fv K (by decide) ha,kK K hs ha]
  have m:=K.mem ha
  have e46:([ag CU (a:Nat)] !=[46])= !(ag CU (a:Nat)==46):=by
   show(!((ag CU (a:Nat)==46)&&true))=_
   rw[EK]
  exists e46
  generalize ag CU (a:Nat)=c at m TP
  have H:=DQ.mp (cS (cS (cS (cS (cS (DE.mp (DE.mp zj s (Ei.mpr hs)) c m) ((bK (cE (1-s)) b).testBit a)) ((bK knightL b).testBit a)) ((bK kingL b).testBit a)) ((mw b (SN CU 0|||SN CU 1)).testBit a)) ((mx b (SN CU 0|||SN CU 1)).testBit a))
  refine Eq.trans H ?_
  cases q:(dQ s).contains c with
  |false=>rw[EF,EF,EM]
  |true=>
   have d:=DE.mp (DE.mp zk s (Ei.mpr hs)) c m
   rw[q,Gd,E4]at d
   rw[<-TP q,d,EK,Ec,Ec]
 ·intro i hi;simp only[Nat.testBit_and,sK hi,Bool.and_false]
 ·intro i hi;simp only[Nat.testBit_and,sK hi,Bool.and_false]
 ·intro i hi;simp only[Nat.testBit_or,Nat.testBit_and,sK hi,Bool.and_false,Bool.or_false]
theorem wY:((List.range 2).all λs=>okL.all λc=>((gb 1 c&&(dQ s).contains c)==(c==ag [80,112] s))&&(!(c==ag [80,112] s)||(!(c==46)&&(dQ s).contains c&&([80,112].contains c))))=true:=by decide+kernel
theorem rO(K:Cells CU){s b:Nat}(hs:s<2)(hb:b<30):iW s b (SN CU s:Nat) (KN CU 1:Nat)=dF CU [ag [80,112] s] b:=by
 refine dS (kO b hb) λw1 w0 w2 w3=>?_
 have wp:getI (cE (1-s)) b=((bK (cE (1-s)) b:Nat):Int):=by
  rcases(or2 hs)with rfl|rfl
  ·exact w1
  ·exact w0
 unfold iW
 rw[wp,cx,cx,B6]
 ·unfold dF
  apply pK
  intro a ha
  have ha:=Ei.mp ha
  have TP:(dQ s).contains (ag CU (a:Nat))=true->_:=λh=>kP (o:=SN CU 0|||SN CU 1) hs h ha hb (sL K)
  rw[Ej,Ej,fv K (by decide) ha,kK K hs ha]
  have m:=K.mem ha
  have e46:([ag CU (a:Nat)] !=[46])= !(ag CU (a:Nat)==46):=by
   show(!((ag CU (a:Nat)==46)&&true))=_
   rw[EK]
  exists e46
  generalize ag CU (a:Nat)=c at m TP
  have P:=DE.mp (DE.mp wY s (Ei.mpr hs)) c m
  rw[DY,DQ]at P
  refine aA P λP1 P2=>?_;clear P
  have e1:((dQ s).contains c&&gb 1 c)=(c==ag [80,112] s):=by rw[<-P1,Bool.and_comm]
  have e2:([ag [80,112] s]:List Nat).contains c=(c==ag [80,112] s):=by
   show((c==ag [80,112] s)||false)=_
   rw[HG]
  exists e1,e2
  cases q:(c==ag [80,112] s)with
  |false=>rw[EM,EF,EM]
  |true=>
   rw[q,Gd,E4,DY,DY]at P2
   refine aA P2 λh'1 P5=>?_;refine aA h'1 λP3 P4=>?_;clear h'1;clear P2
   have:=TP P4
   unfold pI at this
   rw[P5,if_pos rfl]at this
   rw[EK,Ec,P3,EK,this]
 ·intro i hi;simp only[Nat.testBit_and,sK hi,Bool.and_false,Bool.false_and]
theorem rQ{c:Nat}:∀(l:List Nat)(k:Nat),l.contains c=true->l[(ac c l k-k).toNat]? =some c:=by
 intro l
 induction l with
 |nil=>exact λk h=>by cases h
 |cons x l ih=>
  intro k h
  show(x::l)[((if(x==c)=true then(k:Int)else ac c l (k+1))-k).toNat]? =some c
  by_cases e:(x==c)=true
  ·exists(if_pos e),(show(((k:Int))-k).toNat=0 from Ds Int.toNat (HQ _))
   refine bt (DQ.mp e) ?_;rfl
  ·exists(if_neg e)
   rw[Eu]at h
   have e':(c==x)=false:=by(exists Gc);exact Bool.eq_false_iff.mpr e
   rw[e',E4]at h
   have ih:=ih (k+1) h
   refine aA (iZ l (k+1) h) λb0 _=>?_
   exists((Ds Int.toNat (D8 (ao [ac c l (k+1),k] [] (.le (.s (.v 0) (.v 1)) (.a (.s (.v 0) (.a (.v 1) (.n 1))) (.n 1))) 1 rfl) (ao [ac c l (k+1),k] [] (.le (.a (.s (.v 0) (.a (.v 1) (.n 1))) (.n 1)) (.s (.v 0) (.v 1))) 1 rfl))).trans (Int.toNat_add_nat (Int.sub_nonneg.mpr b0) 1)),HM
   exact ih
theorem zl(K:Cells CU){s:Nat}(hs:s<2)(one:CU.count (dG (1-s))=1):ft (aj CU) (1-s)=dj CU s/\dj CU s<30:=by
 refine ai ((mr CU).mp one) λq a u=>?_
 have W:=(i7 K (t:=1-s) (by exact EB (Fd _ _))).mpr ⟨a,u⟩
 have e:ag [107,75] s=dG (1-s):=by
  rcases(or2 hs)with rfl|rfl<;>rfl
 have ct:CU.contains (dG (1-s))=true:=DS.mpr (DR a)
 have g:=rQ CU 0 ct
 have r:=iZ CU 0 ct
 unfold ft dj
 exists W,Nat.log2_two_pow,e
 have:=u _ g
 refine⟨by(refine bt this ?_);simp,?_⟩
 have:=K.len
 lia
theorem wZ(K:Cells CU){s:Nat}(hs:s<2){rt e hf fl:Int}(r0:0<=rt)(r1:rt<16)(e1:e<30):
 (match wr (aj CU) s rt e with|.error p=>Except.error p|.ok e'=>Except.ok (aj CU,s,rt,e',hf,fl))=kH CU s rt e hf fl:=by
 unfold wr tY kH
 exists(pF K),(rL K r0 r1)
 cases bk:pv CU with
 |true=>rfl
 |false=>
  rw[GA,if_pos rfl,if_neg Do]
  cases bw:ul CU rt with
  |true=>rfl
  |false=>
   rw[GA,if_pos rfl,if_neg Do]
   have one:CU.count (dG (1-s))=1:=by
    unfold pv at bk
    simp only[Bool.or_eq_false_iff,Bool.not_eq_false']at bk
    refine cJ bk λb1 b2 _=>?_;clear bk
    have c1:=DQ.mp b1
    have c2:=DQ.mp b2
    rcases(or2 hs)with rfl|rfl
    ·show CU.count 107=1;exact DJ (Dm.mp (ao [Nat.cast (List.count 107 CU)] [(.eq (.v 0) (.n 1),1)] (.le (.v 0) (.n 1)) 1 rfl c2)) (Dm.mp (ao [Nat.cast (List.count 107 CU)] [(.eq (.v 0) (.n 1),-1)] (.le (.n 1) (.v 0)) 1 rfl c2))
    ·show CU.count 75=1;exact DJ (Dm.mp (ao [Nat.cast (List.count 75 CU)] [(.eq (.v 0) (.n 1),1)] (.le (.v 0) (.n 1)) 1 rfl c1)) (Dm.mp (ao [Nat.cast (List.count 75 CU)] [(.eq (.v 0) (.n 1),-1)] (.le (.n 1) (.v 0)) 1 rfl c1))
   refine aA (zl K hs one) λkq k30=>?_
   have own:(if s=0 then SB (aj CU) 0 else SB (aj CU) 1)=((SN CU s:Nat):Int):=by
    rcases(or2 hs)with rfl|rfl<;>rfl
   have A:qZ (ft (aj CU) (1-s)) s (if s=0 then SB (aj CU) 0 else SB (aj CU) 1) (bitOr (SB (aj CU) 0) (SB (aj CU) 1)) (KB (aj CU) 1) (KB (aj CU) 2) (KB (aj CU) 3) (KB (aj CU) 4) (KB (aj CU) 5) (KB (aj CU) 6)=dF CU (dQ s) (dj CU s):=by
    exists own,kq
    exact wX K hs k30
   have FE:∀e:Int,(match tX s (ft (aj CU) (1-s)) (SB (aj CU) 0) (SB (aj CU) 1) (KB (aj CU) 1) (KB (aj CU) 2) (KB (aj CU) 3) (KB (aj CU) 4) (KB (aj CU) 5) (KB (aj CU) 6) e with|.error p=>Except.error p|.ok e'=>Except.ok (aj CU,s,rt,e',hf,fl))=uk CU s rt e hf fl:=λe=>by
    unfold tX uk
    exists A
    cases dF CU (dQ s) (dj CU s)<;>rfl
   unfold wA
   by_cases e0:0<=e
   ·exists(if_pos e0),(if_pos e0),(pG K hs e0 e1)
    cases be:mm CU s e with
    |true=>rfl
    |false=>
     rw[GA,if_pos rfl,if_neg Do]
     have E:iW s e.toNat (if s=0 then SB (aj CU) 0 else SB (aj CU) 1) (KB (aj CU) 1)=dF CU [ag [80,112] s] e.toNat:=by
      exists own
      exact rO K hs (by exact Dt.mp (ao [e.toNat,e] [(.lt (.v 1) (.n 30),1),(.eq (.v 0) (.v 1),1)] (.lt (.v 0) (.n 30)) 1 rfl e1 (DH e0)))
     exists E
     exact FE _
   ·exists(if_neg e0),(if_neg e0)
    exact FE _
end
theorem lK(t:List Nat):nL t=uo t:=by
 by_cases l6:(aa 32 t).length=6
 case neg=>exact(kt l6).trans (kt l6).symm
 ·refine iI l6 λq0 q1 q2 q3 q4 q5 eq=>?_
  unfold nL uo
  rw[eq]
  dsimp only[AJ]
  unfold eA
  rcases rC q0 with⟨c0,b0⟩|⟨b0,ok,len⟩
  ·exists c0,b0;rfl
  ·have K:Cells (bh q0):=⟨len,ok⟩
   have ne:(bh q0==[])=false:=by
    cases q:bh q0 with
    |nil=>rw[q]at len;cases len
    |cons x l=>rfl
   exists b0,ne,(if_neg Do)
   dsimp only
   cases es:dA q1 with
   |none=>rfl
   |some s=>
    dsimp only
    have rb:=pB q2
    refine bt rb ?_
    cases er:bJ q2 with
    |none=>rfl
    |some rt=>
     dsimp only
     refine bt (yY q3) ?_
     cases ee:uy q3 with
     |none=>rfl
     |some e=>
      dsimp only
      exists(kJ q4),(kJ q5)
      by_cases n4:bf q4<0
      ·exists(if_pos n4),(if_pos n4);rfl
      ·exists(if_neg n4),(if_neg n4)
       by_cases n5:bf q5<1
       ·exists(if_pos n5),(if_pos n5);rfl
       ·exists(if_neg n5),(if_neg n5)
        exact wZ K (kC es) (fu er).1 (fu er).2 (wq ee).1
end
theorem all_holds:PySem.Challenge.rw_nt0456_01.Holds:=vM λxs _=>wF (λt _=>lK t) xs
end CF
theorem PySem.Challenge.cw_nt0456_01_holds : PySem.Challenge.rw_nt0456_01.Holds :=
  CF.all_holds
