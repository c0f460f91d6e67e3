import PyProof.Rows.All
import PyProof.NsDelKeeps
import PyProof.EnumFor
import PyProof.EnumMake
import PyProof.EnumStmt
import PyProof.ForAny
import PyProof.Rows.TupAssign
import PyProof.AutoIntOps
import PyProof.SliceList
import KE.KDictList
import KE.KTryMore
import KE.KNest
import PyProof.DictValues
import KE.KRevSl
import PyProof.ListMulRoad
import PyProof.ListOps
import PyProof.InstStoreFacts
import Wide.All
import OpenK.AllK
import Wide.FinOn
import Open.Tops
import Lean
import PySem.Challenge.RW_nz0072_01
set_option Elab.async false
set_option autoImplicit false
set_option maxRecDepth 100000
set_option maxHeartbeats 0
set_option linter.all false
set_option genSizeOf false
set_option genInjectivity false
open Option renaming some.inj→Za,map→P6,isSome_map→Pf
open _root_ renaming List→Zb,Nat→Zc,Option→Zd,congrArg→Ze,Bool→Zh,Int→Zw,of_decide_eq_true→Y2,decide_eq_true→Y6,absurd→Y8,decide_eq_false→Ym,Array→X9,trivial→Xe,DecidableEq→Xh,beq_self_eq_true→Xs,or_false→Un,of_decide_eq_false→S7,if_false→Se,and_iff_left→Sg,or_iff_left→Sq
open PySem renaming Value→Zf,wpAny_bind→Zg,Addr→Zj,wpAny_pure→Zq,Shared→Zs,Heap.get?_push_of_some→Zv,wpAny_holding→Y0,DictEntry→Y4,wpAny_mono→Y9,Heap.get?_push_size→Yb,Heap→Yc,OsState→Ye,World→Yo,Heap.get?_update_self→Ys,Around→Yu,Params→Yv,wpAny_standAt→Yw,Obj.mapFields→Yx,swappedStores→X2,Value.ref→X3,NameKind→X5,Obj.data_mapFields→X6,Value.none→Xa,Operator→Xf,starEach→Xj,PyData.keyHash→Xk,sysModules→Xl,Heap.get?_update_other→Xo,Heap.SameBut.update→Xp,Heap.SameBut→Xw,tupleKind→Xz,holding→W8,wpAny_field→W9,sizeLine_eq→Wa,tupleKind_room_in1→Wf,F.excBase_ValueError→Wg,Obj.isFreed_of_fields→Wm,wpAny_loadPart_at→Wo,mainGlobals→Wp,Scope→Wq,Builtin.List.listTooLong→Wy,Builtin.Range.rangeSize→Wz,strKind_is→V0,Heap.lt_size→V4,Value.ref.inj→V6,F.slot_dict_get→V7,wpAny_newObj_type→V8,wpAny_setField→Va,wpAny_isSubtype_exc→Vk,slot_list_setitem→Vv,getMethod_builtin→Vx,F.entry_dict_get→Vy,wpAny_call_entry→U4,Obj.mapSeq→U5,Value.builtin→Ua,wpAny_typeNameOfWhole_valiter→Ub,wpAny_execs_nil→Ud,Code.builtin→Ul,Builtin.List.listSubscript?→Um,PyData.eqv→Uo,Obj.cls_mapFields→Ut,wpAny_typeNameOf_valiter→Uy,NameKind.free→T0,wpAny_callSpecial?_slot→T3,F.plainAttrs_list→T4,codeAny_mono→T9,Builtin.List.listItems→Td,wpAny_isOneOf_valiter→Tg,wpAny_loadPart→Tj,codeAny_call_builtin→Tk,Heap.get?_none_of_le→Tq,Value.int→Ts,EntryCells.newEntry→Tv,wpAny_release→Tz,wpAny_call→S6,wpAny_truthy_bool→Sc,call_meetsIn→Sf,Str.ofString→Sh,F.slot_dict_valueiterator_next→Sp,Shared.heap→Sr,wpAny_specialOf→Sv,Builtin.Dict_items.ownsTuple→R1,Builtin.Range.rangeFitsLong→R3,wpAny_listPart→R4,wpAny_Name→R5,call_meets→R6,Heap.size_push→Ra,entry_list_setitem→Re,F.slot_list_extend→Rf,F.slot_dict_values→Rg,NameKind.cell→Rh,wpAny_list_append_plain→Rm,args_list_setitem→Rq,F.plainAttrs_dict→Rr,F.args_dict_get_3→Rs,F.args_dict_get_2→Rt,F.slot_dict_values_iter→Rx,Builtin.List.listUpdate→Ry,wpAny_mkText→Rz,wpAny_storeName_local→Q5,F.slot_list_pop→Q7,Builtin.Dict.showsAll→Q8,wpAny_of_eq→Qa,wpAny_newFunctionEnv→Qb,wpAny_loadName_local→Qc,wpAny_letTemporaryGo→Qd,wpAny_Expr_any→Qh,Heap.ExtBut→Qp,Around.frames_deeper→Qq,wpAny_setItem_pairs→Qr,wpAt_of_wpAny→Qs,ExceptHandler→Qt,Heap.get?_update_ne→Qy,Builtin.Range.small→P1,wpAny_setItem_heap→P3,call→P4,Expr.casesOn→P5,Code.quiet_builtin→Pa,wpAny_sequenceKey→Pb,wpAny_dictEntries→Pc,wpAny_assign_Name→Pd,PyData.canLayAll0→Pe,Heap.SameBut.refl→Pl
open Nat renaming beq→Zi,succ→Zk,ble→Zl,le_of_ble_eq_true→Zm,add→Zn,eq_of_beq_eq_true→Zr,le_trans→Zu,rec→Zz,lt_of_not_le→Y1,mul→Yd,le_refl→Yg,sub→Yh,add_le_add_left→Yp,zero_le→Yt,lt_of_le_of_lt→Yy,lt_of_lt_of_le→X7,succ_le_succ→X8,le_of_eq→Xb,le_of_lt→Xi,lt_succ_of_le→Xm,add_le_add→Xn,le_add_right→Xu,lt_succ_self→We,sub_add_cancel→Wh,zero_add→Ws,le_of_succ_le→Wt,beq_refl→Wu,ne_of_lt→V1,le_of_add_right_le→V2,mod→V9,pred→Vb,casesOn→Vc,le_of_not_lt→Vg,add_comm→Vh,add_sub_cancel'→Vl,succ_add_eq_add_succ→Vq,ne_of_beq_eq_false→Vz,le_of_succ_le_succ→U0,ble_eq_true_of_le→U3,min_le_right→U6,not_lt_zero→Ue,succ.inj→Uh,mul_succ→Ui,div→Uj,le_succ→Uu,add_assoc→Uz,mul_div_cancel_left→T5,succ_pos→Tc,add_le_add_right→Tm,lt_irrefl→S3,succ_add→Si,sub_sub_self→Sn,min_le_left→Sw,mul_le_mul_left_iff→Rv,add_sub_cancel_left→Rw,sub_lt_iff_lt_add'→Q1,ne_of_gt→Q2,mul_lt_mul_left→Qv,lt_succ_of_lt→Pg,le_of_lt_succ→Ph
open List renaming rec→Zo,size_toArray→Zy,length_map→Yi,length_append→Yk,lookup_cons→Yl,mem_of_getElem?→Yr,append_nil→X4,getElem?_map→Xc,getElem?_toArray→Xr,not_mem_nil→Xv,zip_cons_cons→Wj,replicate→Wk,mem_cons→Wv,getElem?_eq_getElem→Ww,cons.inj→Wx,contains_cons→V3,getElem?_eq_none_iff→Vi,replicate_succ→Vm,mem_map_of_mem→Vn,map_cons→Vt,nodup_nil→U1,map→U2,length_take→U7,length_drop→U8,length_cons→U9,map_congr_left→Ug,reverse_cons→Uv,flatten_cons→Uw,filter_cons_of_pos→T6,filter_cons_of_neg→T7,find?_cons→Tf,take_append_drop→Th,lookup→To,append_toArray→Tt,any_cons→S4,map_map→Sj,length_range→Sk,append_assoc→Sl,cons_append→So,length→Su,zip_append→Sy,length_set→Sz,forIn_cons→R0,getElem?_append_right→R7,forIn_nil→R8,getElem?_append_left→Rc,take_nil→Ri,filterMap_cons_some→Rj,drop_nil→Rl,getElem?_set_self→Q3,mem_of_mem_take→Ql,map_id→Qm,getElem?_set_ne→Qn,filterMap_cons→Qw,zip_nil_right→P7,range→P8,foldl→P9,push_toArray→Pi,getElem?_inj→Pj
open Bool renaming rec→Zp,false_ne_true→Yn,false_eq_true→Ur,and_false→Us,or_true→Te
open Int renaming ofNat→Zx,natCast_nonneg→X0,le_trans→Xd,fmod→Xy,lt_of_le_of_lt→Wl,eq_ofNat_of_zero_le→Vw,le_of_eq→Uk,lt_of_lt_of_le→Up,fdiv→Uq,le_refl→Ux,neg_le_neg→Tp,negSucc_lt_zero→Tu,le_natAbs→S5,fdiv_eq_ediv_of_nonneg→R9,add_zero→Q4,neg_le_of_neg_le→Qo,toNat_of_nonneg→Qx,toNat_natCast→Pk
open PySem.W renaming look_both→Yj,Fast.te17119622794617984870→Wb,Fast.te10792542408131684335→Wc,boot_heap→Wn,listOf→Vo,Looks.of_pure→T1,looks_pair→T8,Fast.te18344453789297297638→S1,Fast.te14364793385576792824→S2,boot_drawn→S8,Fast.te8326940854005059898→S9,Fast.te797321630700447069→Sb,looks_findIn→Sd,boot_toks→Sm,WTm.value→Rn,Fast.named_eq→Q6,looks_mroIn→Qf,looks_clsIn→Qg,Looks.ld→Qk
open False renaming elim→Xg
open Prod renaming fst→Xq,snd→Vp,mk.inj→Ss
open Decidable renaming em→Xx
open Classical renaming em→V5
open Eq renaming trans→Vd
open Ne renaming symm→Ve
open Array renaming getElem?_eq_getElem→Vj,size_setIfInBounds→T2,toList_append→Tw,length_toList→Tx,getElem?_toList→Q9
open ForInStep renaming yield→Vu
open PyProof.Rows renaming add_int→Uc,markedEach_of_false→Uf,wpAny_operate'→Ti,floordiv_int→Rb,tail_any→Qe,neg_int→Qi,mod_int→Qj,gt_int→Qu
open PyProof renaming noPylong_small→Q0
open PySem.Calls renaming call_len_list→Qz
noncomputable section
open PySem PySem.W
namespace Mine
def ae{β:Type}(b:Zh)(t e:β):β:=Zp e t b
def aa{α β:Type}(o:Zd α)(n:β)(s:α→β):β:=Option.rec n s o
def ak(a b:Zh):Zh:=Zp false b a
def aG(a b:Zh):Zh:=Zp b true a
def ay(a:Zh):Zh:=Zp true false a
inductive Tr(α:Type)where
 |nil
 |node(v:α)(l r:Tr α)
def Tr.get{α:Type}(t:Tr α):Zc→Zd α:=
 Tr.rec (λ_=>none) (λv _ _ il ir i=>Zp (Zp (ir (Yh (Uj i (nat_lit 2)) (nat_lit 1))) (il (Uj i (nat_lit 2))) (Zi (V9 i (nat_lit 2)) (nat_lit 1))) (some v) (Zi i (nat_lit 0))) t
def Tr.ins{α:Type}(t:Tr α):Zc→α→Tr α:=
 Tr.rec (λ_ o=>.node o .nil .nil) (λv l r il ir i o=>Zp (Zp (.node v l (ir (Yh (Uj i (nat_lit 2)) (nat_lit 1)) o)) (.node v (il (Uj i (nat_lit 2)) o) r) (Zi (V9 i (nat_lit 2)) (nat_lit 1))) (.node o l r) (Zi i (nat_lit 0))) t
inductive BS(α:Type)where
 |nil
 |node(k:Zc)(v:α)(l r:BS α)
def BS.get{α:Type}(t:BS α)(n:Zc):Zd α:=BS.rec none (λk v _ _ il ir=>Zp (Zp ir il (Zl n k)) (some v) (Zi n k)) t
def aB{α:Type}(l:Zb α):Zc→Zd α:=Zo (λ_=>none) (λa _ ih i=>Zz (some a) (λj _=>ih j) i) l
def nB{α:Type}(l:Zb α)(v:α):Zc→Zb α:=Zo (λ_=>[]) (λa r ih i=>Zz (v::r) (λj _=>a::ih j) i) l
def aY{α:Type}(k:Zc)(l:Zb (Zc×α)):Zd α:=Zo none (λp _ ih=>Zp ih (some p.2) (Zi k p.1)) l
def eR{α:Type}(k:Zc)(v:α)(l:Zb (Zc×α)):Zb (Zc×α):=Zo [(k,v)] (λp r ih=>Zp (p::ih) ((p.1,v)::r) (Zi k p.1)) l
def aK(k:Zc)(l:Zb Zc):Zh:=Zo false (λx _ ih=>Zp ih true (Zi k x)) l
def aJ{α:Type}(l:Zb α):Zc:=Zo (nat_lit 0) (λ_ _ ih=>Zk ih) l
def aD{α:Type}(l k:Zb α):Zb α:=Zo k (λa _ ih=>a::ih) l
def pj{α:Type}(l:Zb α):Zc→Zb α:=Zo (λ_=>[]) (λa r ih i=>Zz (a::r) (λj _=>ih j) i) l
def iI{α:Type}(l:Zb α):Zc→Zb α:=Zo (λ_=>[]) (λa _ ih i=>Zz [] (λj _=>a::ih j) i) l
def HR{α:Type}(l:Zb α):Zb α→Zb α:=Zo (λacc=>acc) (λa _ ih acc=>ih (a::acc)) l
def ag{α β:Type}(f:α→β)(l:Zb α):Zb β:=Zo [] (λa _ ih=>f a::ih) l
def aM{α:Type}(p:α→Zh)(l:Zb α):Zh:=Zo true (λa _ ih=>Zp false ih (p a)) l
def j3{α β:Type}(f:α→Zd β)(l:Zb α):Zd (Zb β):=Zo (some []) (λa _ ih=>aa (f a) none λb=>aa ih none λr=>some (b::r)) l
def one{α β:Type}(l:Zb α)(n:β)(f:α→β):β:=Zo n (λv r _=>Zo (f v) (λ_ _ _=>n) r) l
def two{α β:Type}(l:Zb α)(n:β)(f:α→α→β):β:=Zo n (λv r _=>one r n (f v)) l
inductive Ty where
 |bool|int|str|range|list|enumerate|I8
inductive Bl where
 |len|isinstance|abs|min|sum
def Ty.name(t:Ty):String:=Ty.rec "bool" "int" "str" "range" "list" "enumerate" "ValueError" t
def Bl.name(b:Bl):String:=Bl.rec "len" "isinstance" "abs" "min" "sum" b
inductive AV where
 |none
 |bool(b:Zh)
 |int(i:Zw)
 |cB(p:Zc)(b:Zh)
 |nx(p:Zc)
 |dA(p:Zc)(b:Zh)
 |cnt(r k:Zc)
 |md(m r:Zc)
 |sy(k:Zc)
 |txt
 |ref(i:Zc)
 |au(a:Zj)
 |ty(t:Ty)
 |bl(b:Bl)
 |tup(xs:Zb AV)
 |af(xs:Zb AV)
 |dh(c:Zj)(fs:Zb (Zc×AV))
 |bz
 |range(n:Zw)
 |vals(d n:Zc)
 |eK(k:Zc)(cl:Zb Zc)
 |any
inductive AO where
 |inst(c:Zj)(fs:Zb (Zc×AV))
 |exc(c:Zj)(fs:Zb (Zc×AV))
 |kE(c:Zj)(fs:Zb (Zc×AV))
 |list(xs:Zb AV)
 |dict(es:Zb (AV×AV))
 |map(es:Zb (Zc×Zd AV))
 |lI(es:Zb ((Zc×Zc)×AV))
 |iG(r t k:Zc)
 |cell(v:Zd AV)
 |tab
end Mine
namespace Mine
structure AH where
 size:Zc
 t:Tr AO
namespace AH
def get(h:AH)(i:Zc):Zd AO:=h.t.get i
def set(h:AH)(i:Zc)(o:AO):AH:=⟨h.size,h.t.ins i o⟩
def push(h:AH)(o:AO):AH:=⟨Zk h.size,h.t.ins h.size o⟩
def build(l:Zb AO):Zc→Tr AO→Tr AO:=Zo (λ_ t=>t) (λo _ ih n t=>ih (Zk n) (t.ins n o)) l
def ofList(l:Zb AO):AH:=⟨aJ l,build l (nat_lit 0) .nil⟩
end AH
inductive Res(α:Type)where
 |ok(a:α)(h:AH)
 |exc(e:Zc)(h:AH)
 |bad
abbrev AM(α:Type):=AH→Res α
namespace AM
def pure{α:Type}(a:α):AM α:=λh=>.ok a h
def bind{α β:Type}(m:AM α)(f:α→AM β):AM β:=λh=>Res.rec (λa h'=>f a h') (λe h'=>.exc e h') .bad (m h)
def fail{α:Type}:AM α:=λ_=>.bad
def new(o:AO):AM AV:=λh=>.ok (.ref h.size) (h.push o)
end AM
inductive CE where
 |con(v:AV)
 |g(k:Zc)
 |loc(i:Zc)
 |da(i:Zc)
 |a(o:CE)(a:Zc)
 |xN(u:Zh)(e:CE)(es:Zb CE)
 |b(op:Xf)(a b:CE)
 |neg(a:CE)
 |nt(a:CE)
 |i(t a b:CE)
 |dict(kvs:Zb CE)
 |list(es:Zb CE)
 |tup(es:Zb CE)
 |tupS(e s:CE)
 |p(op:CmpOp)(a b:CE)
 |xU(o1 o2:CmpOp)(a b c:CE)
 |f(f:CE)(args:Zb CE)
 |m(o:CE)(m:Zc)(args:Zb CE)
 |t(o i:CE)
 |rev(o:CE)
 |comp(it elt:CE)(nW:Zb CE)(cl:Zb Zc)
 |tst(e:CE)
 |eS(a:CE)
 |dJ(u:Zh)(e:CE)(es:Zb CE)
inductive CT where
 |loc(i:Zc)
 |da(i:Zc)
 |a(o:CE)(a:Zc)
 |t(o i:CE)
 |cut(o i:CE)
 |tup(ts:Zb CT)
inductive CS where
 |skip
 |pass
 |seq(a b:CS)
 |e(e:CE)
 |ret(e:CE)
 |t9
 |s(t:CT)(e:CE)
 |aug(o:CE)(a:Zc)(op:Xf)(e:CE)
 |i(t:CE)(a b:CS)
 |p4(t:CE)(b:CS)
 |fb(kA:Zh)(t:CT)(it:CE)(b:CS)
 |AQ(e:CE)(g:Zc)(k:Zj)(slot:Zc)(hb:CS)
 |raise(e:CE)
 |cut(j:Zc)
 |sY(k j:Zc)(cl:Zb Zc)
structure aw where
 np:Zc
 hY:Zb AV
 locs:Zb (Zd Zc)
 e9:Zb (Zd Zc)
 body:CS
structure bU where
 init:Zj
 meths:Zb (Zc×Zj)
 fields:Zb Zc
 AC:Zb Zj
 isExc:Zh:=false
inductive SO where
 |seq(tuple:Zh)(xs:Zb AV)
 |dict(es:Zb (AV×AV))
structure fN where
 name:Str
 qual:Str
 params:Arguments
 body:Zb Stmt
 scope:Wq
structure Fm where
 vars:Zb AV
 cells:Zb Zc
 tn:Zh
inductive SR where
 |nx(fm:Fm)(h:AH)
 |rt(v:AV)(h:AH)
 |ex(e:Zc)(h:AH)
 |bad
inductive Cv where
 |cB(p:Zc)
 |dA(p:Zc)
 |cnt(r:Zc)
 |md
 |pr(p:Zc)
 |tt(p:Zc)
 |vk(p:Zc)
structure aO where
 N:Zc
 sel:Zb Zc
 aR:Zb Zc
 mode:Zc:=0
 bp:Zc→Zh:=λ_=>false
 cv:Zb (Zc×Cv):=[]
 mp:Zb (Zc×Zb Zc):=[]
 km:Zb (Zc×Zb (Zc×Zc)):=[]
 bg:Zb (Zc×Zc):=[]
 fg:Zc→Zc→Zh:=λ_ _=>false
 fk:Zc→Zc→Zh:=λ_ _=>false
 lm:Zb (Zc×Zc):=[]
 c:Zc→Zw:=λ_=>0
 kp:Zc→Zh:=λ_=>true
structure Ev where
 hd:Zh
 n0:Zc
 hold:Zb AV
abbrev bc:=Zh→AV→Zb AV→AM AV
abbrev SM:=Fm→AH→SR
structure SE where
 fn:Zj→Zd aw
 eK:Zc→Zd aw
 cls:Zj→Zd bU
 obj:Zj→Zd SO
 nm:Zc→Zd Str
 gl:Zc→Zd AV
 fs:Zc→Zd fN
 hook:Zc→Fm→AH→Zd aO
def lL:Zc:=0
def nh:Zc:=1
def wk:Zc:=2
def zH:Zc:=3
def zJ:Zc:=4
def zK:Zc:=5
def G6:Zc:=6
noncomputable def AV.sel{β:Type}(v:AV)(n:β)(none_:β:=n)(mB:Zh→β:=λ_=>n)(cU:Zw→β:=λ_=>n)(xb:Zc→Zh→β:=λ_ _=>n)(wp:Zc→β:=λ_=>n)(A2:Zc→Zh→β:=λ_ _=>n)(xW:Zc→Zc→β:=λ_ _=>n)(fG:Zc→Zc→β:=λ_ _=>n)(gU:Zc→β:=λ_=>n)(AW:β:=n)(jY:Zc→β:=λ_=>n)(kR:Zj→β:=λ_=>n)(p0:Ty→β:=λ_=>n)(sF:Bl→β:=λ_=>n)(j7:Zb AV→β:=λ_=>n)(EW:Zb AV→β:=λ_=>n)(yf:Zj→Zb (Zc×AV)→β:=λ_ _=>n)(ye:β:=n)(HE:Zw→β:=λ_=>n)(xa:Zc→Zc→β:=λ_ _=>n)(sH:Zc→Zb Zc→β:=λ_ _=>n)(xv:β:=n):β:=AV.casesOn (motive_1:=λ_=>β) v none_ mB cU xb wp A2 xW fG gU AW jY kR p0 sF j7 EW yf ye HE xa sH xv
noncomputable def AO.sel{β:Type}(v:AO)(n:β)(qV:Zj→Zb (Zc×AV)→β:=λ_ _=>n)(vh:Zj→Zb (Zc×AV)→β:=λ_ _=>n)(vj:Zj→Zb (Zc×AV)→β:=λ_ _=>n)(pF:Zb AV→β:=λ_=>n)(pi:Zb (AV×AV)→β:=λ_=>n)(q9:Zb (Zc×Zd AV)→β:=λ_=>n)(qZ:Zb ((Zc×Zc)×AV)→β:=λ_=>n)(uR:Zc→Zc→Zc→β:=λ_ _ _=>n)(uT:Zd AV→β:=λ_=>n)(IR:β:=n):β:=AO.casesOn (motive:=λ_=>β) v qV vh vj pF pi q9 qZ uR uT IR
def bK(v:AV):Zd Zh:=v.sel none (mB:=some)
def c9(v:AV):Zd Zw:=v.sel none (cU:=some)
def gK(v:AV):Zd Zc:=v.sel none (jY:=some)
def si(v:AV):Zd Zj:=v.sel none (kR:=some)
def cY(v:AV):Zd Zc:=v.sel none (gU:=some)
def dX(v:AV):Zd (Zb AV):=v.sel none (j7:=some)
def r9(v:AV):Zd (Zb AV):=v.sel none (EW:=some)
def uL(v:AV):Zd (Zj×Zb (Zc×AV)):=v.sel none (yf:=λc fs=>some (c,fs))
def Cz(v:AV):Zd (Zc×Zh):=v.sel none (xb:=λp b=>some (p,b))
def CA(v:AV):Zd (Zc×Zh):=v.sel none (A2:=λp b=>some (p,b))
def qz(v:AV):Zd (Zc×Zc):=v.sel none (xW:=λr k=>some (r,k))
def Cw(v:AV):Zd (Zc×Zc):=v.sel none (fG:=λr k=>some (r,k))
def nP(v:AV):Zd Zw:=v.sel none (HE:=some)
def iD(v:AV):Zd (Zc×Zc):=v.sel none (xa:=λr k=>some (r,k))
def isNone(v:AV):Zh:=v.sel false (none_:=true)
def yP(v:AV):Zh:=v.sel false (AW:=true)
def yI(v:AV):Zh:=v.sel false (ye:=true)
def isAny(v:AV):Zh:=v.sel false (xv:=true)
def sd(v:AO):Zd (Zj×Zb (Zc×AV)):=v.sel none (qV:=λc fs=>some (c,fs))
def qA(v:AO):Zd (Zj×Zb (Zc×AV)):=v.sel none (vh:=λc fs=>some (c,fs))
def xz(v:AO):Zd (Zj×Zb (Zc×AV)):=v.sel none (vj:=λc fs=>some (c,fs))
def jg(v:AO):Zd (Zb AV):=v.sel none (pF:=some)
def nO(v:AO):Zd (Zb (AV×AV)):=v.sel none (pi:=some)
def Cu(v:AO):Zd (Zb (Zc×Zd AV)):=v.sel none (q9:=some)
def uM(v:AO):Zd (Zb ((Zc×Zc)×AV)):=v.sel none (qZ:=some)
def uH(v:AO):Zd (Zc×Zc×Zc):=v.sel none (uR:=λr t k=>some (r,t,k))
def yO(v:AO):Zh:=v.sel false (IR:=true)
def xx(v:AO):Zd (Zd AV):=v.sel none (uT:=some)
def sg(o:SO):Zd (Zh×Zb AV):=SO.rec (λt xs=>some (t,xs)) (λ_=>none) o
def uJ(o:SO):Zd (Zb (AV×AV)):=SO.rec (λ_ _=>none) some o
def dS{α:Type}(a b:Zd α):Zd α:=aa a b some
def aq{α β:Type}(a:Zd α)(f:α→Zd β):Zd β:=aa a none f
section
variable(S:SE)(h:AH)
def pZ(a:AV):Zd Zh:=ae (isNone a) (some false) (bK a)
def nu(a:AV):Zd AO:=aq (gK a) h.get
def nC(a:AV):Zd SO:=aq (si a) S.obj
def WM(o:AO):Zd (Zj×Zb (Zc×AV)):=dS (sd o) (dS (qA o) (xz o))
def pE(v:AV):Zd (Zj×Zb (Zc×AV)):=dS (aq (nu h v) WM) (uL v)
def hG(v:AV):Zd (Zh×Zb AV):=dS (aq (nu h v) λo=>aq (jg o) λxs=>some (false,xs)) (dS (aq (dX v) λxs=>some (true,xs)) (dS (aq (r9 v) λxs=>some (false,xs)) (aq (nC S v) sg)))
def jv(v:AV):Zd (Zb AV):=dS (aq (nu h v) jg) (dS (r9 v) (aq (aq (nC S v) sg) λq=>Zp (some q.2) none q.1))
def vf(v:AV):Zd (Zb (AV×AV)):=dS (aq (nu h v) nO) (dS (ae (yI v) (some []) none) (aq (nC S v) uJ))
def ZR(v:AV):Zd (Zb (Zc×Zd AV)):=aq (nu h v) Cu
def mz(v:AV)(a:Zc):AM AV:=λh=>aa (aq (pE h v) λq=>aY a q.2) .bad λx=>.ok x h
def zo(c:Zj)(a:Zc)(fs:Zb (Zc×AV)):Zh:=aa (aY a fs) (aa (S.cls c) false λci=>ak (aK a ci.fields) (Zl (aJ fs) 60)) λ_=>true
def oX(v:AV)(a:Zc)(x:AV):AM Unit:=λh=>aa (gK v) .bad λi=>aa (h.get i) .bad λo=>aa (sd o) (aa (qA o) .bad λq=>ae (zo S q.1 a q.2) (.ok () (h.set i (.exc q.1 (eR a x q.2)))) .bad)
 λq=>ae (zo S q.1 a q.2) (.ok () (h.set i (.inst q.1 (eR a x q.2)))) .bad
inductive Meth where
 |fn(f:AV)(first:Zb AV)
 |append(i:Zc)
 |extend(i:Zc)
 |pop(i:Zc)
 |kz(v:AV)
 |yT(i:Zc)
 |xJ(i:Zc)
 |values(i:Zc)
 |yc
def zv(c:Zj)(a:Zc)(v:AV)(fs:Zb (Zc×AV)):Zd Meth:=
 aq (S.cls c) λci=>ae ci.isExc none (aq (aY a ci.meths) λf=>aa (aY a fs) (some (.fn (.au f) [v])) λ_=>none)
def GS(i:Zc)(a:Zc)(o:AO):Zd Meth:=o.sel none (qV:=λc fs=>zv S c a (.ref i) fs)
 (pF:=λ_=>ae (Zi a wk) (some (.append i)) (ae (Zi a zH) (some (.extend i)) (ae (Zi a zJ) (some (.pop i)) none)))
 (pi:=λ_=>ae (Zi a nh) (some (.kz (.ref i))) (ae (Zi a zK) (some (.values i)) none))
 (q9:=λ_=>ae (Zi a nh) (some (.kz (.ref i))) none)
 (qZ:=λ_=>ae (Zi a nh) (some (.yT i)) none)
 (uR:=λ_ _ _=>ae (Zi a wk) (some (.xJ i)) none)
def GR(v:AV)(a:Zc)(h:AH):Zd Meth:=v.sel none (jY:=λi=>aq (h.get i) (GS S i a))
 (kR:=λs=>aa (S.cls s) (ae (Zi a nh) (aq (aq (S.obj s) uJ) λ_=>some (.kz (.au s))) none)
  λci=>ae (Zi a lL) (aq (aY a ci.meths) λf=>some (.fn (.au f) [])) none)
 (yf:=λc fs=>zv S c a (.dh c fs) fs)
 (ye:=ae (Zi a nh) (some (.kz .bz)) none)
 (p0:=λt=>Ty.rec none none none none none none (ae (Zi a lL) (some .yc) none) t)
inductive At where
 |n
 |b(x:Zh)
 |i(x:Zw)
 |k(p:Zc)(b:Zh)
 |s(x:Zc)
noncomputable def fD(a:AV):Zd At:=a.sel none (none_:=some .n) (mB:=λb=>some (.b b)) (cU:=λi=>some (.i i)) (xb:=λp b=>some (.k p b)) (gU:=λk=>some (.s k))
noncomputable def At.sel{β:Type}(x:At)(n:β)(n_:β:=n)(b_:Zh→β:=λ_=>n)(i_:Zw→β:=λ_=>n)(k_:Zc→Zh→β:=λ_ _=>n)(s_:Zc→β:=λ_=>n):β:=At.casesOn (motive:=λ_=>β) x n_ b_ i_ k_ s_
def eqB(a b:Zh):Zh:=Zp (ay b) b a
def AD(a b:AV):Zd Zh:=aq (cY a) λx=>aq (cY b) λy=>some (Zi x y)
def FN(a b:AV):Zd Zh:=aq (c9 a) λx=>aq (c9 b) λy=>some (decide (x=y))
def F8(xs:Zb AV):Zb AV→Zd Zh:=
 Zo (λys=>Zo (some true) (λ_ _ _=>none) ys) (λx _ ih ys=>Zo none (λy r _=>aq (dS (AD x y) (FN x y)) λb=>Zp (some false) (ih r) b) ys) xs
def oz(a b:AV):Zd Zh:=dS (AD a b) (aq (dX a) λxs=>aq (dX b) λys=>F8 xs ys)
def aT{α:Type}(o:Zd α):Zh:=aa o false λ_=>true
def XI(xs:Zb AV):Zh:=Zo false (λx r _=>aG (ak (aT (c9 x)) (aM (λy=>aT (c9 y)) r)) (ak (aT (cY x)) (aM (λy=>aT (cY y)) r))) xs
def yK(a:AV):Zh:=aG (aT (cY a)) (aa (dX a) false XI)
def isKey(a:AV):Zh:=aG (yP a) (yK a)
def iO(k:AV)(l:Zb (AV×AV)):Zd (Zd AV):=Zo (some none) (λp _ ih=>aq (oz p.1 k) λb=>Zp ih (some (some p.2)) b) l
def putK(k v:AV)(l:Zb (AV×AV)):Zd (Zb (AV×AV)):=
 Zo (some [(k,v)]) (λp r ih=>aq (oz p.1 k) λb=>Zp (aq ih λr'=>some (p::r')) (some ((p.1,v)::r)) b) l
def sM(d k:AV):Zd (Zd AV):=aa (ZR h d) (aq (vf S h d) λes=>ae (isKey k) (iO k es) none)
 λms=>aq (cY k) λs=>some (aa (aY s ms) none λo=>o)
def qX(n:Zc):AV→Zh:=Zz (λ_=>false) (λ_ ih a=>aa (fD a) (aa (hG S h a) false λp=>aM ih p.2) λ_=>true) n
def b2i(b:Zh):Zw:=Zp 0 1 b
def uO(x:At):Zd Zw:=x.sel none (b_:=λx=>some (b2i x)) (i_:=some)
noncomputable def Ke(x y:At):Zh:=x.sel false (n_:=y.sel false (n_:=true)) (k_:=λ_ b=>y.sel false (k_:=λ_ _=>b)) (s_:=λx=>y.sel false (s_:=λy=>Zi x y))
def xB(x y:At):Zh:=aa (uO x) (Ke x y) λi=>aa (uO y) false λj=>decide (i=j)
def vg(eq:AV→AV→Zh)(xs:Zb AV):Zb AV→Zh:=
 Zo (λys=>Zo true (λ_ _ _=>false) ys) (λx _ ih ys=>Zo false (λy r _=>Zp false (ih r) (eq x y)) ys) xs
def sV(n:Zc):AV→AV→Zh:=Zz (λ_ _=>false) (λ_ ih a b=>
 aa (fD a) (aa (fD b) (aa (hG S h a) false λp=>aa (hG S h b) false λq=>Zp false (vg ih p.2 q.2) (eqB p.1 q.1)) λ_=>false)
  λx=>aa (fD b) false λy=>xB x y) n
def yJ(x:At):Zd (Zc×Zh):=x.sel none (k_:=λp b=>some (p,b))
def zw(x y:At):Zh:=aa (yJ x) (aa (yJ y) true λ_=>ay (aT (uO x))) λp=>aa (yJ y) (ay (aT (uO y))) λq=>ak (Zi p.1 q.1) q.2
def v8(f:AV→AV→Zh)(xs:Zb AV):Zb AV→Zh:=
 Zo (λ_=>true) (λx _ ih ys=>Zo true (λy r _=>ak (f x y) (ih r)) ys) xs
def tN(n:Zc):AV→AV→Zh:=Zz (λ_ _=>true) (λ_ ih a b=>
 aa (fD a) (aa (hG S h a) true λp=>aa (hG S h b) true λq=>v8 ih p.2 q.2) λx=>aa (fD b) true λy=>zw x y) n
def oP(a:AV):Zd Zc:=aq (Cz a) λq=>ae q.2 (some q.1) none
def A1(a b:AV):Zd Zh:=aq (CA a) λp=>aq (dX b) λxs=>two xs none λx y=>aq (oP x) λq=>aq (oP y) λr=>ae (ak (Zi p.1 q) (Zi (Zk p.1) r)) (some p.2) none
def NZ(x y:Zb (AV×AV)):Zd Zh:=Zo (Zo (some true) (λ_ _ _=>none) y) (λ_ _ _=>none) x
def sU(a b:AV):Zd Zh:=dS (A1 a b) (ae (ak (qX S h 8 a) (qX S h 8 b)) (ae (tN S h 8 a b) (some (sV S h 8 a b)) none) (aq (vf S h a) λx=>aq (vf S h b) λy=>NZ x y))
def xX(x c:AV):Zd Zh:=aa (hG S h c) (aq (sM S h c x) λo=>some (aT o)) λq=>aq (cY x) λk=>aq (j3 cY q.2) λl=>some (aK k l)
def FZ(a:AV):Zd Zh:=a.sel (some false) (none_:=some true) (xv:=none) (kR:=λ_=>none) (p0:=λ_=>none) (sF:=λ_=>none) (A2:=λ_ _=>none)
def wo(o:Zd Zh):Zd Zh:=aq o λb=>some (ay b)
def vG(f:Zw→Zw→Zh)(a b:AV):Zd Zh:=aq (c9 a) λi=>aq (c9 b) λj=>some (f i j)
def Ff(a b:AV):Zd Zh:=aq (qz a) λq=>aq (c9 b) λm=>ae (ak (Zl q.2 2000) (decide (20000≤m))) (some false) none
def yL(a b:AV):Zd Zh:=ae (isNone b) (FZ a) none
def eD(op:CmpOp)(a b:AV):Zd Zh:=CmpOp.rec (sU S h a b) (wo (sU S h a b)) (vG (λi j=>decide (i<j)) a b) (vG (λi j=>decide (i≤j)) a b) (dS (Ff a b) (vG (λi j=>decide (j<i)) a b)) none
 (yL a b) (wo (yL a b)) (xX S h a b) (wo (xX S h a b)) op
def ez:Zc:=100000
def apart(i:Zc)(v:AV):Zh:=aa (gK v) true λj=>ay (Zi i j)
def wt{β:Type}(op:Xf)(n:β)(add:β:=n)(sub:β:=n)(mul:β:=n)(mod:β:=n)(pow:β:=n)(fd:β:=n):β:=Operator.rec add sub mul n n mod pow n n n n n fd op
def arith(op:Xf)(i j:Zw):Zd Zw:=wt op none (add:=some (i+j)) (sub:=some (i-j)) (mul:=ae (ak (Zl i.natAbs 1000000) (Zl j.natAbs 1000000)) (some (i*j)) none)
 (fd:=ae (ak (ay (decide (j=0))) (Zl j.natAbs 1000000)) (some (Uq i j)) none) (mod:=ae (decide (j=0)) none (some (Xy i j))) (pow:=ae (ak (decide (i=10)) (decide (j=6))) (some 1000000) none)
def isAdd(op:Xf):Zh:=wt op false (add:=true)
def FY(op:Xf):Zh:=wt op false (mul:=true)
def zq(op:Xf)(m r j:Zc):Zd AV:=wt op none (add:=some (.md m (V9 (Zn r j) m))) (mod:=ae (ak (Zl j 1000000) (Zi (V9 m j) (nat_lit 0))) (some (.int (V9 r j))) none)
 (fd:=ae (ak (Zl j 1000000) (Zi (V9 m j) (nat_lit 0))) (some (.md (Uj m j) (Uj r j))) none)
def ajf(op:Xf)(a b:AV):Zd AV:=aq (c9 b) λj=>dS (aq (Cw a) λq=>ae (decide (0<j)) (zq op q.1 q.2 j.toNat) none)
 (ae (ak (isAdd op) (decide (j=1))) (dS (aq (qz a) λq=>some (.cnt q.1 (Zk q.2))) (aq (oP a) λp=>some (.nx p))) none)
def wF(n:Zc)(xs:Zb AV):Zb AV:=Zz [] (λ_ ih=>aD xs ih) n
def uG(op:Xf)(a b:AV):Zd AV:=dS (ajf op a b) (aq (c9 a) λi=>aq (c9 b) λj=>aq (arith op i j) λk=>some (.int k))
def binI(op:Xf)(a b:AV):AM AV:=λh=>aa (uG op a b)
 (ae (ak (isAdd op) (ak (aT (cY a)) (aT (cY b)))) (.ok .txt h)
  (aa (jv S h a) .bad λxs=>aa (c9 b)
   (ae (isAdd op) (aa (jv S h b) .bad λys=>ae (Zl (Zn (aJ xs) (aJ ys)) ez) (AM.new (.list (aD xs ys)) h) .bad) .bad)
   λj=>ae (ak (FY op) (ak (Zl (aJ xs) 1) (ak (decide (0≤j)) (decide (j≤1000))))) (AM.new (.list (wF j.toNat xs)) h) .bad))
 λv=>.ok v h
def sC(op:Xf)(a b:AV):Zd AV:=ae (isAdd op) (uG op a b) none
def CD(xs:Zb AV)(k:Zw):Zd AV:=Int.rec (λp=>aB xs p) (λp=>ae (Zl (Zk p) (aJ xs)) (aB xs (Yh (aJ xs) (Zk p))) none) k
def Gb(o i:AV):AM AV:=λh=>aa (aa (hG S h o) (aq (sM S h o i) λr=>r) λq=>aq (c9 i) λk=>CD q.2 k) .bad λv=>.ok v h
def mY(v:AV):Zd Zc:=aq (c9 v) λk=>Int.rec some (λ_=>none) k
def rK(k:AV):Zd (Zc×Zc):=aq (dX k) λxs=>two xs none λx y=>aq (cY x) λa=>aq (cY y) λb=>some (a,b)
def gv{α:Type}(a b:Zc)(l:Zb ((Zc×Zc)×α)):Zd α:=Zo none (λp _ ih=>Zp ih (some p.2) (ak (Zi a p.1.1) (Zi b p.1.2))) l
def oY{α:Type}(a b:Zc)(v:α)(l:Zb ((Zc×Zc)×α)):Zb ((Zc×Zc)×α):=Zo [] (λp r ih=>Zp (p::ih) ((p.1,v)::r) (ak (Zi a p.1.1) (Zi b p.1.2))) l
def ahu(i v:AV)(o:AO):Zd AO:=o.sel none (pF:=λxs=>aq (mY i) λp=>ae (Zl (Zk p) (aJ xs)) (some (.list (nB xs v p))) none)
 (pi:=λes=>ae (ak (yK i) (Zl (aJ es) ez)) (aq (putK i v es) λef=>some (.dict ef)) none)
 (q9:=λms=>aq (cY i) λs=>aq (aY s ms) λ_=>some (.map (eR s (some v) ms)))
 (qZ:=λms=>aq (rK i) λs=>aq (gv s.1 s.2 ms) λ_=>some (.lI (oY s.1 s.2 v ms)))
def wP(o i v:AV):AM Unit:=λh=>aa (gK o) .bad λl=>aa (aq (h.get l) (ahu i v)) .bad λo'=>.ok () (h.set l o')
end
end Mine
namespace Mine
section
variable(S:SE)(c:bc)(hd:Zh)
def xS(fm:Fm)(j:Zc):AM AV:=λh=>aa (aB fm.cells j) .bad λi=>aa (aq (h.get i) xx) .bad λc=>aa c .bad λv=>.ok v h
def gP(fm:Fm)(j:Zc):AM AV:=λh=>aa (aB fm.vars j) .bad λv=>ae (isAny v) .bad (.ok v h)
def bG(fm:Fm)(j:Zc)(v:AV):Fm:=⟨nB fm.vars v j,fm.cells,fm.tn⟩
def Ar(fm:Fm)(j:Zc)(v:AV):AM Fm:=λh=>aa (aB fm.cells j) .bad λi=>aa (aq (h.get i) xx) .bad λ_=>.ok fm (h.set i (.cell (some v)))
def dD(pu:Zh)(v:AV)(i:Zc):AM (Zd AV):=λh=>aa (nP v) (aa (iD v) (aa (hG S h v) .bad λq=>.ok (aB q.2 i) h)
 λq=>ae pu (aa (aq (h.get q.1) nO) .bad λes=>ae (Zi (aJ es) q.2) (.ok (aa (aB es i) none λp=>some p.2) h) .bad) .bad) λn=>.ok (ae (decide ((i:Zw)<n)) (some (.int i)) none) h
def wi(v:AV)(i:Zc):AM (Zd AV):=λh=>aa (jv S h v) .bad λxs=>.ok (aa (aB xs i) none λx=>some (.tup [.int i,x])) h
def pairUp(l:Zb AV):Zd (Zb (AV×AV)):=
 (Zo (motive:=λ_=>Zd AV→Zd (Zb (AV×AV))) (λk=>aa k (some []) λ_=>none) (λv _ ih k=>aa k (ih (some v)) λkv=>aa (ih none) none λr=>some ((kv,v)::r)) l) none
def sG(l:Zb (AV×AV)):Zb (AV×AV)→Zd (Zb (AV×AV)):=
 Zo (λacc=>some acc) (λp _ ih acc=>aq (cY p.1) λ_=>aa (putK p.1 p.2 acc) none ih) l
def cw:Zc:=1000000
def qP(o:AO):Zh:=aa (qA o) false λq=>aa (S.cls q.1) false λci=>ci.isExc
def pb(d:Zc)(y:AV):AM Unit:=λh=>aa (aq (h.get d) jg) .bad λxs=>ae (Zl (aJ xs) ez) (.ok () (h.set d (.list (aD xs [y])))) .bad
def zu(m:Meth)(vs:Zb AV):AM AV:=Meth.rec (λf first=>c hd f (aD first vs))
 (λi h=>one vs .bad λv=>AM.bind (pb i v) (λ_=>AM.pure .none) h)
 (λi h=>one vs .bad λv=>aa (aq (h.get i) jg) .bad λxs=>aa (jv S h v) .bad λys=>ae (ak (apart i v) (Zl (Zn (aJ xs) (aJ ys)) ez)) (.ok .none (h.set i (.list (aD xs ys)))) .bad)
 (λi h=>Zo (aa (aq (h.get i) jg) .bad λxs=>aa (aB xs (Vb (aJ xs))) .bad λv=>.ok v (h.set i (.list (iI xs (Vb (aJ xs)))))) (λ_ _ _=>.bad) vs)
 (λd h=>Zo .bad (λk r _=>aa (sM S h d k) .bad λo=>Zo (.ok (aa o .none λv=>v) h) (λx r _=>Zo (.ok (aa o x λv=>v) h) (λ_ _ _=>.bad) r) r) vs)
 (λi h=>one vs .bad λk=>aa (aq (h.get i) uM) .bad λes=>aa (aq (rK k) λs=>gv s.1 s.2 es) .bad λv=>.ok v h)
 (λi h=>one vs .bad λ_=>aa (aq (h.get i) uH) .bad λq=>ae (Zl q.2.2 1000) (.ok .none (h.set i (.iG q.1 q.2.1 (Zk q.2.2)))) .bad)
 (λi h=>Zo (aa (aq (h.get i) nO) .bad λes=>ae (Zl (aJ es) ez) (.ok (.vals i (aJ es)) h) .bad) (λ_ _ _=>.bad) vs)
 (λh=>two vs .bad λv _=>aa (gK v) .bad λi=>aa (h.get i) .bad λo=>ae (qP S o) (.ok .none (h.set i o)) .bad) m
def Hp{α β:Type}(r:Res α)(k:Res β):Res β:=Res.rec (λ_ _=>k) (λ_ _=>.bad) .bad r
def zO{α:Type}(m:AM α):AM α:=λh=>Res.rec .ok (λ_ _=>.bad) .bad (m h)
def mE(pu:Zh)(it:AV)(cl:Zb Zc)(nW:Fm→AM Zh)(elt:Fm→AM AV)(d:Zc)(n:Zc):Zc→AM AV:=
 Zz (λ_=>AM.fail) (λ_ ih i=>AM.bind (dD S pu it i) λo=>aa o
  (λh=>Zp (.ok (.ref d) h) .bad hd)
  λv=>AM.bind (nW ⟨[v],cl,false⟩) λb=>Zp (ih (Zk i)) (AM.bind (elt ⟨[v],cl,false⟩) λy=>AM.bind (pb d y) λ_=>ih (Zk i)) b) n
def FW(e:CE):Zh:=CE.casesOn (motive_1:=λ_=>Zh) e (λ_=>false) (λ_=>false) (λi=>Zi i (nat_lit 0)) (λ_=>false) (λ_ _=>false) (λ_ _ _=>false) (λ_ _ _=>false) (λ_=>false) (λ_=>false) (λ_ _ _=>false) (λ_=>false) (λ_=>false) (λ_=>false) (λ_ _=>false) (λ_ _ _=>false) (λ_ _ _ _ _=>false) (λ_ _=>false) (λ_ _ _=>false) (λ_ _=>false) (λ_=>false) (λ_ _ _ _=>false) (λ_=>false) (λ_=>false) (λ_ _ _=>false)
def pureE(e:CE)(nW:Zb CE):Zh:=CE.casesOn (motive_1:=λ_=>Zh) e (λ_=>false) (λ_=>false) (λ_=>false) (λ_=>false) (λo _=>ak (FW o) (Zo true (λ_ _ _=>false) nW)) (λ_ _ _=>false) (λ_ _ _=>false) (λ_=>false) (λ_=>false) (λ_ _ _=>false) (λ_=>false) (λ_=>false) (λ_=>false) (λ_ _=>false) (λ_ _ _=>false) (λ_ _ _ _ _=>false) (λ_ _=>false) (λ_ _ _=>false) (λ_ _=>false) (λ_=>false) (λ_ _ _ _=>false) (λ_=>false) (λ_=>false) (λ_ _ _=>false)
def wx(fm:Fm)(cl:Zb Zc):Zd (Zb Zc):=j3 (aB fm.cells) cl
def LT(vs:Zb AV):Zd Zh:=Zo (some true) (λv r _=>Zo (bK v) (λ_ _ _=>none) r) vs
def lr(l:Fm→AM (Zb AV)):Fm→AM Zh:=λfm=>AM.bind (l fm) λvs h=>aa (LT vs) .bad λb=>.ok b h
def G2(vs:Zb AV):AM AV:=λh=>ae (Zl (aJ vs) ez) (AM.new (.list vs) h) .bad
def tK(v:AV):Fm→AM AV:=λ_ h=>ae (isAny v) .bad (.ok v h)
def vX(k:Zc):Fm→AM AV:=λ_ h=>aa (S.gl k) .bad λv=>.ok v h
def tH(a:Zc)(io:Fm→AM AV):Fm→AM AV:=λfm=>AM.bind (io fm) λo=>mz o a
def oK{α:Type}(o:Zd α)(f:α→AM AV):AM AV:=λh=>aa o .bad λa=>f a h
def y9(op:Xf)(ia ib:Fm→AM AV):Fm→AM AV:=λfm=>AM.bind (ia fm) λx=>AM.bind (ib fm) λy=>binI S op x y
def zg(ia:Fm→AM AV):Fm→AM AV:=λfm=>AM.bind (ia fm) λx=>oK (c9 x) λi=>AM.pure (.int (-i))
def zh(ia:Fm→AM AV):Fm→AM AV:=λfm=>AM.bind (ia fm) λx=>oK (pZ x) λb=>AM.pure (.bool (ay b))
def zj(ia:Fm→AM AV):Fm→AM AV:=λfm=>AM.bind (ia fm) λx=>oK (bK x) λb=>AM.pure (.bool (ay b))
def vY(it ia ib:Fm→AM AV):Fm→AM AV:=λfm=>AM.bind (it fm) λx=>oK (bK x) λb=>Zp (ib fm) (ia fm) b
def yM(o:AO):Zh:=aa (nO o) false λes=>Zo true (λ_ _ _=>false) es
def zb(l:Fm→AM (Zb AV)):Fm→AM AV:=λfm h=>AM.bind (l fm) (λvs h'=>aa (aq (pairUp vs) λps=>sG ps []) .bad λes=>aa (h'.get h.size) .bad λo=>ae (yM o) (.ok (.ref h.size) (h'.set h.size (.dict es))) .bad) (h.push (.dict []))
def zd(l:Fm→AM (Zb AV)):Fm→AM AV:=λfm=>AM.bind (l fm) G2
def zl(l:Fm→AM (Zb AV)):Fm→AM AV:=λfm=>AM.bind (l fm) λvs h=>ae (Zl (aJ vs) ez) (.ok (.tup vs) h) .bad
def zm(ie is:Fm→AM AV):Fm→AM AV:=λfm=>AM.bind (ie fm) λv=>AM.bind (is fm) λt h=>aa (hG S h t) .bad λq=>ae (Zl (aJ q.2) ez) (.ok (.tup (v::q.2)) h) .bad
def tI(op:CmpOp)(ia ib:Fm→AM AV):Fm→AM AV:=λfm=>AM.bind (ia fm) λx=>AM.bind (ib fm) λy h=>aa (eD S h op x y) .bad λb=>.ok (.bool b) h
def tJ(o1 o2:CmpOp)(ia ib ic:Fm→AM AV):Fm→AM AV:=λfm=>AM.bind (ia fm) λx=>AM.bind (ib fm) λy h=>aa (eD S h o1 x y) .bad λb=>
 Zp (.ok (.bool false) h) (AM.bind (ic fm) (λz h=>aa (eD S h o2 y z) .bad λb=>.ok (.bool b) h) h) b
def pw(vs:Zb AV)(m:AM AV):AM AV:=λh=>ae (Zl (aJ vs) 90) (m h) .bad
def za(i:Fm→AM AV)(l:Fm→AM (Zb AV)):Fm→AM AV:=λfm=>AM.bind (i fm) λf=>AM.bind (l fm) λvs=>pw vs (c hd f vs)
def ze(m:Zc)(i:Fm→AM AV)(l:Fm→AM (Zb AV)):Fm→AM AV:=λfm=>AM.bind (i fm) λo h=>aa (GR S o m h) .bad λme=>AM.bind (l fm) (λvs=>pw vs (zu S c hd me vs)) h
def zc(io ii:Fm→AM AV):Fm→AM AV:=λfm=>AM.bind (io fm) λo=>AM.bind (ii fm) λi=>Gb S o i
def zi(io:Fm→AM AV):Fm→AM AV:=λfm=>AM.bind (io fm) λo h=>aa (jv S h o) .bad λxs=>.ok (.af (HR xs [])) h
def vW(pu:Zh)(cl:Zb Zc)(ii ie:Fm→AM AV)(lc:Fm→AM (Zb AV)):Fm→AM AV:=λfm h=>aa (wx fm cl) .bad λcl=>AM.bind (ii fm) (λit h=>Hp (dD S pu it (nat_lit 0) h) (zO (mE S hd pu it cl (lr lc) ie h.size cw (nat_lit 0)) (h.push (.list [])))) h
def zk(ie:Fm→AM AV):Fm→AM AV:=λfm=>AM.bind (ie fm) λv=>oK (pZ v) λb=>AM.pure (.bool b)
def ZI(tr:AV→Zd Zh)(u:Zh)(ie:Fm→AM AV)(r:Fm→AM AV):Fm→AM AV:=λfm=>AM.bind (ie fm) λv=>oK (tr v) λb=>Zp (r fm) (AM.pure v) (eqB b u)
def dI:Fm→AM (Zb AV):=λ_=>AM.pure []
def dQ(i:Fm→AM AV)(l:Fm→AM (Zb AV)):Fm→AM (Zb AV):=λfm=>AM.bind (i fm) λv=>AM.bind (l fm) λvs=>AM.pure (v::vs)
def oH(tr:AV→Zd Zh)(u:Zh)(l:Zb (Fm→AM AV)):(Fm→AM AV)→Fm→AM AV:=Zo (λm=>m) (λm _ ih m0=>ZI tr u m0 (ih m)) l
def aC(e:CE):Fm→AM AV:=
 CE.rec (motive_1:=λ_=>Fm→AM AV) (motive_2:=λ_=>Zb (Fm→AM AV))
  tK (λk=>vX S k) (λi fm=>gP fm i) (λi fm=>xS fm i) (λ_ a io=>tH a io) (λu _ _ ie l=>oH pZ u l ie) (λop _ _=>y9 S op) (λ_=>zg) (λ_=>zh) (λ_ _ _=>vY)
  (λ_ l=>zb (Zo dI (λm _=>dQ m) l)) (λ_ l=>zd (Zo dI (λm _=>dQ m) l)) (λ_ l=>zl (Zo dI (λm _=>dQ m) l)) (λ_ _=>zm S) (λop _ _=>tI S op) (λo1 o2 _ _ _=>tJ S o1 o2)
  (λ_ _ f l=>za c hd f (Zo dI (λm _=>dQ m) l)) (λ_ m _ o l=>ze S c hd m o (Zo dI (λm _=>dQ m) l)) (λ_ _=>zc S) (λ_=>zi S)
  (λ_ e nW cl ii ie l=>vW S hd (pureE e nW) cl ii ie (Zo dI (λm _=>dQ m) l)) (λ_=>zk) (λ_=>zj) (λu _ _ ie l=>oH bK u l ie) [] (λ_ _ m l=>m::l) e
def sB{α:Type}(fm:Fm)(m:AM α)(h:AH)(f:α→AH→SR):SR:=Res.rec f (λe h=>Zp (.ex e h) .bad fm.tn) .bad (m h)
def IJ(oe ie:CE)(v:AV)(fm:Fm):AM Fm:=AM.bind (aC S c hd oe fm) λov=>AM.bind (aC S c hd ie fm) λk=>λh=>
 aa (gK ov) .bad λl=>aa (mY k) .bad λi=>aa (jv S h v) .bad λys=>aa (aq (h.get l) jg) .bad λxs=>
  ae (ak (apart l v) (ak (Zl i (aJ xs)) (ak (Zl (aJ ys) 1) (Zl (aJ xs) ez)))) (.ok fm (h.set l (.list (aD (iI xs i) ys)))) .bad
def eZ(t:CT):AV→Fm→AM Fm:=
 CT.rec (motive_1:=λ_=>AV→Fm→AM Fm) (motive_2:=λ_=>Zb AV→Fm→AM Fm)
  (λi v fm=>AM.pure (bG fm i v)) (λi v fm=>Ar fm i v)
  (λo a v fm=>AM.bind (aC S c hd o fm) λov=>AM.bind (oX S ov a v) λ_=>AM.pure fm)
  (λo i v fm=>AM.bind (aC S c hd o fm) λov=>AM.bind (aC S c hd i fm) λk=>AM.bind (wP ov k v) λ_=>AM.pure fm)
  (λo i v fm=>IJ S c hd o i v fm)
  (λts l v fm h=>aa (dX v) .bad λxs=>ae (Zi (aJ xs) (aJ ts)) (Zp (l xs fm h) .bad hd) .bad)
  (λxs fm=>Zo (AM.pure fm) (λ_ _ _=>AM.fail) xs)
  (λ_ _ i l xs fm=>Zo AM.fail (λv r _=>AM.bind (i v fm) λfm=>l r fm) xs) t
def gp(nx:Zc→AM (Zd AV))(asg:AV→Fm→AM Fm)(body:SM)(n:Zc):Zc→SM:=
 Zz (λ_ _ _=>.bad) (λ_ ih i fm h=>sB fm (nx i) h λo h=>aa o (Zp (.nx fm h) .bad hd)
  λv=>sB fm (asg v fm) h λfm h=>SR.rec (λfm h=>ih (Zk i) fm h) .rt .ex .bad (body fm h)) n
def fH(r:SR):SR:=SR.rec .nx .rt (λ_ _=>.bad) .bad r
def rR(t:Fm→AM AV)(body:SM)(n:Zc):SM:=
 Zz (λ_ _=>.bad) (λ_ ih fm h=>sB fm (t fm) h λv h=>aa (bK v) .bad λb=>Zp (.nx fm h) (SR.rec (λfm h=>ih fm h) .rt .ex .bad (body fm h)) b) n
def rI(ci:bU)(ce k:Zj):Zh:=aG (Zi ce k) (aK k ci.AC)
def Ey(h:AH)(e:Zc)(k:Zj):Zh:=aa (aq (h.get e) xz) false λq=>aa (S.cls q.1) false λci=>ak ci.isExc (rI ci q.1 k)
end
section
variable(I:aO)(H:AH)(aH:Zb (Zc×Zc))
def E2{α β:Type}(f:β→α→β)(l:Zb α):β→β:=Zo (λb=>b) (λa _ ih b=>ih (f b a)) l
def prune{α:Type}(t:Tr α):Zc→Tr α:=Tr.rec (λ_=>.nil) (λv _ _ il ir n=>Zz .nil (λm _=>.node v (il (Uj (Zk m) (nat_lit 2))) (ir (Uj m (nat_lit 2)))) n) t
def gA(N:Zc)(sel:Zb Zc):Zb (Zc×Zc):=Zo (λ_=>[]) (λi _ ih k=>(i,k)::ih (Zk k)) sel N
def aO.live:Zh:=Zl I.mode 1
def aO.tv(p:Zc):Zh:=ak (Zi I.mode 1) (I.bp p)
def E7(f:AV→AV)(o:AO):AV:=o.sel .any (pF:=λxs=>.af (ag f xs)) (qV:=λc fs=>.dh c (ag (λp=>(p.1,ae (aG (Zi p.1 (nat_lit 13)) (Zi p.1 (nat_lit 14))) .any (f p.2))) fs))
 (pi:=λes=>Zo .bz (λ_ _ _=>.any) es)
def f6(i:Zc):Zd Zc:=ae (Zl (Zk i) I.N) (some i) (aY i aH)
def rQ(g:Zc→AV)(a:AV):AV:=
 AV.rec (motive_1:=λ_=>AV) (motive_2:=λ_=>Zb AV) (motive_3:=λ_=>Zb (Zc×AV)) (motive_4:=λ_=>Zc×AV)
  .none .bool .int (λp b=>ae I.live (.cB p (ae (I.tv p) false b)) .any) (λp=>ae I.live (ae (I.tv p) (.cB p true) (.nx p)) .any) (λp b=>ae I.live (.dA p (ae (aG (I.tv p) (I.tv (Zk p))) false b)) .any) (λ_ _=>.any) .md .sy .txt
  (λi=>aa (f6 I aH i) (g i) .ref) .au .ty .bl (λ_ l=>.tup l) (λ_ l=>.af l) (λc _ l=>.dh c l) .bz .range (λ_ _=>.any) (λk ids=>aa (j3 (f6 I aH) ids) .any (.eK k)) .any
  [] (λ_ _ x l=>x::l) [] (λ_ _ x l=>x::l) (λk _ x=>(k,x)) a
def bL(n:Zc):AV→AV:=Zz (rQ I aH λ_=>.any) (λ_ f=>rQ I aH λi=>aa (H.get i) .any (E7 f)) n
def DG(r k:Zc):AV:=ae (Zl k 200) (Zz .any (λr _=>.cnt r (nat_lit 0)) r) .any
def uY(c:Zc→Zw)(v:AV)(p:Zc):AV:=ae (isNone v) (.dA p false) (aa (ae (Zi I.mode 2) (dX v) none) .any λxs=>two xs .any λx y=>aa (c9 x) .any λi=>aa (c9 y) .any λj=>ae (ak (decide (i≤c p)) (decide (j≤c (Zk p)))) (.dA p (ak (decide (i=c p)) (decide (j=c (Zk p))))) .any)
def sJ(c:Zc→Zw)(v:AV)(q:Cv):AV:=Cv.rec (λp=>aa (ae (Zi I.mode 2) (c9 v) none) .any λi=>ae (decide (i≤c p)) (.cB p (decide (i=c p))) .any)
 (uY I c v)
 (λr=>aa (c9 v) .any λi=>ae (decide (i+200*r≤18000)) (.cnt r (nat_lit 0)) .any)
 (aa (c9 v) .any λi=>ae (decide (0≤i)) (.md (nat_lit 1) (nat_lit 0)) .any)
 (λp=>aa (ae (Zi I.mode 2) (dX v) none) .any λxs=>two xs .any λx y=>aa (c9 x) .any λi=>ae (decide (i≤c p)) (.tup [.cB p (decide (i=c p)),bL I H aH 7 y]) .any)
 (λp=>aa (ae (Zi I.mode 2) (dX v) none) .any λxs=>two xs .any λx y=>aa (c9 x) .any λi=>aa (c9 y) .any λj=>ae (ak (decide (i≤c p)) (decide (j≤c (Zk p)))) (.tup [.cB p (decide (i=c p)),.cB (Zk p) (decide (j=c (Zk p)))]) .any)
 (λp=>aa (ae (Zi I.mode 2) (c9 v) none) (uY I c v p) λi=>ae (decide (i≤c (Zk p))) (.cB (Zk p) (decide (i=c (Zk p)))) .any) q
def EJ(v:AV):AV:=aa (dX v) .any λxs=>two xs .any λx _=>.tup [bL I H aH 7 x,.any]
def o3(c:Zc→Zw)(j k:Zc)(v:AV):AV:=ae (I.fg j k) .any (ae (I.fk j k) (EJ I H aH v) (aa (aY k I.cv)
 (aa (qz v) (aa (aq (dX v) λxs=>two xs none λx y=>aq (oP x) λp=>aq (oP y) λq=>ae (ak (Zi q (Zk p)) (ak I.live (ak (ay (I.tv p)) (ay (I.tv q))))) (some p) none) (bL I H aH 7 v) λp=>.dA p true)
  λq=>ae (Zi I.mode 1) (DG q.1 q.2) v)
 (sJ I H aH c v)))
def w5(f:AV→AV)(es:Zb (AV×AV))(ks:Zb Zc):Zd (Zb (Zc×Zd AV)):=j3 (λk=>aq (iO (.sy k) es) λo=>some (k,aa o none λv=>some (f v))) ks
def qY(es:Zb (AV×AV))(ks:Zb Zc):Zh:=aM (λp=>aa (cY p.1) false λk=>aK k ks) es
def yq(a b:Zc)(l:Zb (Zc×Zc)):Zh:=Zo false (λp _ ih=>aG (ak (Zi a p.1) (Zi b p.2)) ih) l
def vR(es:Zb (AV×AV))(ks:Zb (Zc×Zc)):Zh:=aM (λp=>aa (rK p.1) false λq=>yq q.1 q.2 ks) es
def w4(f:AV→AV)(es:Zb (AV×AV))(ks:Zb (Zc×Zc)):Zd (Zb ((Zc×Zc)×AV)):=j3 (λk=>aq (iO (.tup [.sy k.1,.sy k.2]) es) λo=>some (k,f (aa o .none λv=>v))) ks
def wZ(c:Zc→Zw)(p:AV×AV):AV:=aa (aq (cY p.1) λk=>aY k I.cv) (bL I H aH 7 p.2) (sJ I H aH c p.2)
def uo(c:Zc→Zw)(es:Zb (AV×AV)):AO:=.dict (ag (λp=>(p.1,wZ I H aH c p)) es)
def rP(c:Zc→Zw)(j:Zc)(o:AO):AO:=o.sel o (qV:=λcl fs=>.inst cl (ag (λp=>(p.1,o3 I H aH c j p.1 p.2)) fs))
 (pF:=λxs=>aa (aY j I.bg) (.list (ag (bL I H aH 7) xs)) λr=>ae (Zl (Zn (aJ xs) (Yd 200 r)) 18000) (.iG r (aJ xs) (nat_lit 0)) (.list (ag (bL I H aH 7) xs)))
 (uR:=λr t k=>ae (ak (Zi I.mode 1) (Zl k 200)) (Zz (.iG r t k) (λr' _=>.iG r' (Zn t k) (nat_lit 0)) r) (.iG r t k))
 (pi:=λes=>aa (aY j I.mp) (aa (aq (aY j I.km) λks=>ae (ak (vR es ks) (Zl (aJ ks) 1000)) (w4 (o3 I H aH c j 1000) es ks) none) (uo I H aH c es) .lI)
  λks=>aa (ae (ak (qY es ks) (Zl (aJ ks) 1000)) (w5 (bL I H aH 7) es ks) none) (uo I H aH c es) .map)
 (q9:=λms=>.map (ag (λp=>(p.1,aa p.2 none λv=>some (bL I H aH 7 v))) ms))
 (qZ:=λms=>.lI (ag (λp=>(p.1,o3 I H aH c j 1000 p.2)) ms))
 (uT:=λx=>.cell (aa x none λv=>some (bL I H aH 7 v)))
noncomputable def tX(o:AO):Zh:=o.sel true (vh:=λ_ _=>false) (vj:=λ_ _=>false)
def Hn(j:Zc):Zh:=aa (H.get j) false tX
def wn(l:Zb Zc):Zh:=Zo true (λx r ih=>ak (ay (aK x r)) ih) l
def mV(F:Zc→AO→AO)(g:Zc→Zd AO)(ps:Zb (Zc×Zc))(t:Tr AO):Tr AO:=E2 (λt p=>aa (g p.1) t λo=>t.ins p.2 (F p.1 o)) ps t
def cC(c:Zc→Zw):AH:=
 ⟨Zn I.N (aJ I.sel),prune (mV (rP I H (gA I.N I.sel) c) H.get (gA I.N I.sel) (mV (rP I H (gA I.N I.sel) c) H.get (ag (λj=>(j,j)) I.aR) H.t)) (Zn I.N (aJ I.sel))⟩
def ei(a:AV):Zh:=
 AV.rec (motive_1:=λ_=>Zh) (motive_2:=λ_=>Zh) (motive_3:=λ_=>Zh) (motive_4:=λ_=>Zh)
  true (λ_=>true) (λ_=>true) (λp _=>ak I.live (ay (I.tv p))) (λp=>ak I.live (ay (I.tv p))) (λp _=>ak I.live (ak (ay (I.tv p)) (ay (I.tv (Zk p))))) (λ_ _=>true) (λ_ _=>true) (λ_=>true) true
  (λi=>Zl (Zk i) I.N) (λ_=>true) (λ_=>true) (λ_=>true) (λ_ l=>l) (λ_ l=>l) (λ_ _ l=>l) true (λ_=>true) (λd _=>Zl (Zk d) I.N) (λ_ ids=>aM (λi=>Zl (Zk i) I.N) ids) true
  true (λ_ _ x l=>ak x l) true (λ_ _ x l=>ak x l) (λ_ _ x=>x) a
def eF(o:AO):Zh:=o.sel true (qV:=λ_ fs=>aM (λp=>ei I p.2) fs) (vh:=λ_ fs=>aM (λp=>ei I p.2) fs) (vj:=λ_ fs=>aM (λp=>ei I p.2) fs) (pF:=aM (ei I)) (pi:=aM λp=>ei I p.2)
 (q9:=aM λp=>aa p.2 true (ei I)) (qZ:=aM λp=>ei I p.2) (uT:=λv=>aa v true (ei I))
def eE(t:AH):Zc→Zh:=Zz true λj ih=>ak ih (aG (aK j I.aR) (aa (t.get j) false (eF I)))
def cI(ev:Ev)(fm:Fm):Zh:=ak (Zl I.N H.size) (ak (aM (λi=>ak (Zl I.N i) (Hn H i)) I.sel) (ak (wn I.sel) (ak (wn I.aR) (ak (aM (λj=>ak (Zl (Zk j) I.N) (Hn H j)) I.aR)
 (ak (Zl ev.n0 I.N) (ak (aM (ei I) ev.hold) (aM (λi=>Zl (Zk i) I.N) fm.cells)))))))
def DO(l:Zb (Zc×Zc))(vs:Zb AV):Zb AV:=E2 (λvs p=>aa (aq (aq (aB vs p.1) mY) λn=>some (AV.md p.2 (V9 n p.2))) vs λv=>nB vs v p.1) l vs
def tD(p:Zc→Zh)(l:Zb AV):Zc→Zb AV:=Zo (λ_=>[]) (λa _ ih k=>ae (p k) a .any::ih (Zk k)) l
def dC(fm:Fm):Fm:=⟨ag (bL I H (gA I.N I.sel) 7) (tD I.kp (DO I.lm fm.vars) (nat_lit 0)),fm.cells,Zp (Zp true false (Zi I.mode 3)) fm.tn (Zi I.mode 0)⟩
def nY(ev:Ev):SM:=λfm h=>ae (cI I h ev fm) (ae (eE I (cC I h I.c) I.N) (.nx (dC I h fm) (cC I h I.c)) .bad) .bad
end
section
variable(S:SE)(c:bc)
def uf(e:Ev→Fm→AM AV)(k:Zj)(slot:Zc)(hb:Ev→SM)(ev:Ev):SM:=λfm h=>Res.rec (λ_ h=>.nx fm h)
 (λe h=>Zp (ae (Ey S h e k) (SR.rec (λfm h=>.nx (bG fm slot .any) h) (λ_ _=>.bad) (λ_ _=>.bad) .bad (hb ⟨true,ev.n0,ev.hold⟩ (bG fm slot (.ref e)) h)) .bad) .bad ev.hd) .bad (e ev fm h)
def nz(fm:Fm)(v:AV)(h:AH):SR:=Zp (.rt v h) .bad fm.tn
def aj(s:CS):Ev→SM:=
 CS.rec (motive:=λ_=>Ev→SM) (λ_ fm h=>.nx fm h) (λ_ fm h=>.nx fm h)
  (λ_ _ ia ib ev fm h=>SR.rec (λfm h=>ib ev fm h) .rt .ex .bad (ia ev fm h))
  (λe ev fm h=>sB fm (aC S c ev.hd e fm) h λ_ h=>.nx fm h)
  (λe ev fm h=>sB fm (aC S c ev.hd e fm) h λv h=>nz fm v h)
  (λ_ fm h=>nz fm .none h)
  (λt e ev fm h=>sB fm (aC S c ev.hd e fm) h λv h=>sB fm (eZ S c ev.hd t v fm) h λfm h=>.nx fm h)
  (λo a op e ev fm h=>sB fm (aC S c ev.hd o fm) h λov h=>sB fm (mz ov a) h λold h=>sB fm (aC S c ev.hd e fm) h λd h=>aa (sC op old d) .bad λk=>
   sB fm (oX S ov a k) h λ_ h=>.nx fm h)
  (λt _ _ ia ib ev fm h=>sB fm (aC S c ev.hd t fm) h λv h=>aa (bK v) .bad λb=>Zp (ib ev fm h) (ia ev fm h) b)
  (λt _ ib ev fm h=>fH (rR (aC S c ev.hd t) (ib ev) cw fm h))
  (λkA t it _ ib ev fm h=>sB fm (aC S c ev.hd it fm) h λsrc h=>fH (gp ev.hd (Zp (dD S false src) (wi S src) kA) (eZ S c ev.hd t) (ib ⟨ev.hd,ev.n0,src::ev.hold⟩) cw (nat_lit 0) fm h))
  (λe _ k slot _ ih=>uf S (λev=>aC S c ev.hd e) k slot ih)
  (λe ev fm h=>sB fm (aC S c ev.hd e fm) h λv h=>aa (gK v) .bad λi=>aa (h.get i) .bad λo=>aa (qA o) .bad λq=>ae (ak (qP S o) (ak (ay ev.hd) (ay fm.tn))) (.ex i (h.set i (.kE q.1 q.2))) .bad)
  (λj ev fm h=>aa (S.hook j fm h) (.nx fm h) λI=>nY I ev fm h)
  (λk j cl _ fm h=>aa (wx fm cl) .bad λids=>aa (h.get (nat_lit 0)) .bad λo=>ae (yO o) (.nx (bG fm j (.eK k ids)) (h.set (nat_lit 0) .tab)) .bad)
  s
def uV(h:AH)(x:AV):Zd Zj:=aq (dS (aq (uL x) λq=>some q.1) (aq (aq (nu h x) sd) λq=>some q.1)) λc=>aq (S.cls c) λci=>ae ci.isExc none (some c)
noncomputable def w7(a:AV):Zd Zc:=a.sel none (none_:=some (nat_lit 0)) (mB:=λ_=>some (nat_lit 1)) (cU:=λ_=>some (nat_lit 2)) (xb:=λ_ _=>some (nat_lit 2)) (wp:=λ_=>some (nat_lit 2)) (xW:=λ_ _=>some (nat_lit 2)) (fG:=λ_ _=>some (nat_lit 2)) (gU:=λ_=>some (nat_lit 3)) (AW:=some (nat_lit 3))
def i0(t:Ty):Zd (Zc→Zh):=Ty.rec (some λc=>Zi c (nat_lit 1)) (some λc=>aG (Zi c (nat_lit 1)) (Zi c (nat_lit 2))) (some λc=>Zi c (nat_lit 3)) none none none none t
def Ka(a:AV):Zd Ty:=a.sel none (p0:=some)
def FV(h:AH)(x:AV)(k:AV):Zd Zh:=aa (Ka k) (aq (si k) λc=>aq (S.cls c) λ_=>aa (w7 x) (aq (uV S h x) λce=>aq (S.cls ce) λci=>some (rI ci ce c)) λ_=>some false)
 λT=>aq (i0 T) λf=>aa (w7 x) (aq (uV S h x) λ_=>some false) λc=>some (f c)
def rJ(xs:Zb AV):Zd Zw:=Zo (some 0) (λx _ ih=>aq (c9 x) λi=>aq ih λn=>some (i+n)) xs
def oZ(x:AV):Zh:=aa (c9 x) false λi=>Zl i.natAbs 1000000
def Do(hd:Zh)(b:Bl)(args:Zb AV):AM AV:=λh=>aa (Bl.rec (motive:=λ_=>Zd AV)
 (one args none λx=>aa (hG S h x) (aq (aq (nu h x) uH) λq=>some (.int (Zn q.2.1 q.2.2))) λq=>some (.int (aJ q.2)))
 (two args none λx k=>aq (FV S h x k) λb=>some (.bool b))
 (one args none λx=>aq (c9 x) λi=>some (.int i.natAbs))
 (two args none λx y=>aq (c9 x) λi=>aq (c9 y) λj=>Zp (some (.int (ae (decide (j<i)) j i))) none hd)
 (one args none λl=>aq (jv S h l) λxs=>aq (rJ xs) λn=>Zp (ae (ak (Zl (aJ xs) ez) (aM oZ xs)) (some (.int n)) none) none hd) b) .bad λv=>.ok v h
def I5(hd:Zh)(T:Ty)(args:Zb AV):AM AV:=λh=>one args .bad λx=>Ty.rec (motive:=λ_=>Res AV) .bad (aa (bK x) .bad λb=>.ok (.int (b2i b)) h) .bad
 (aa (c9 x) .bad λn=>ae (Zl n.natAbs ez) (.ok (.range n) h) .bad)
 (Zp (aa (dS (jv S h x) (aq (aq (nu h x) nO) λes=>ae (ak (Zl (aJ es) ez) (aM (λp=>aT (cY p.1)) es)) (some (ag (λp=>p.1) es)) none)) .bad λxs=>AM.new (.list xs) h) .bad hd) .bad .bad T
def Cl(f:aw)(args:Zb AV):Zd (Zb AV):=
 ae (ak (Zl (aJ args) f.np) (Zl f.np (Zn (aJ args) (aJ f.hY)))) (some (aD args (pj f.hY (Yh (aJ f.hY) (Yh f.np (aJ args)))))) none
def mR(args:Zb AV)(o:Zd Zc):AV:=aa (aq o (aB args)) .any λv=>v
def uU(args:Zb AV)(l:Zb (Zd Zc)):AM (Zb Zc):=Zo (AM.pure []) (λo _ ih h=>AM.bind ih (λr=>AM.pure (h.size::r)) (h.push (.cell (aq o (aB args))))) l
def gQ(r:SR):Res AV:=SR.rec (λfm h=>Zp (.ok .none h) .bad fm.tn) (λv h=>.ok v h) .exc .bad r
def qG(mb:Ev→SM)(hd:Zh)(f:aw)(cl:Zb Zc)(args:Zb AV):AM AV:=λh0=>aa (Cl f args) .bad λargs=>AM.bind (uU args f.e9) (λcs h=>gQ (mb ⟨hd,h0.size,[]⟩ ⟨ag (mR args) f.locs,aD cs cl,false⟩ h)) h0
def v5(hd:Zh)(a:Zj)(args:Zb AV)(ci:bU):AM AV:=λh=>
 AM.bind (c hd (.au ci.init) (.ref h.size::args)) (λv h'=>ae (isNone v) (.ok (.ref h.size) h') .bad) (h.push (Zp (.inst a []) (.exc a []) ci.isExc))
def nV(hd:Zh)(fv:AV)(args:Zb AV):AM AV:=fv.sel AM.fail
 (kR:=λa=>aa (S.fn a) (aa (S.cls a) AM.fail (v5 c hd a args)) λf=>qG (aj S c f.body) hd f [] args)
 (sH:=λk cl=>aa (S.eK k) AM.fail λf=>qG (aj S c f.body) hd f cl args)
 (sF:=λb=>Do S hd b args) (p0:=λT=>I5 S hd T args)
end
def e8(S:SE)(n:Zc):bc:=Zz (λ_ _ _=>AM.fail) (λ_ ih=>nV S ih) n
end Mine
namespace Mine
def kF(h:AH)(v:AV)(a:Zc):Zd AV:=aq (pE h v) λq=>aY a q.2
def q8(h:AH)(i:Zc):Zb AV:=aa (aq (h.get i) jg) [] λl=>l
def kL(o:Zd AV):Zc:=aa (aq o gK) 0 λi=>i
noncomputable def phs:Zb ((Zc×Zc)×Zc):=[((86,2),15),((86,3),0),((86,10),1),((86,22),14),((246,1),2),((246,6),3),((246,11),4),((244,1),5),((244,6),6),((244,11),7),((243,1),8),((243,6),9),((243,11),10),((245,1),11),((245,6),12),((245,11),13)]
def Jb(h:AH):Zd Zc:=aq (aB (q8 h 15) (Vb (aJ (q8 h 15)))) λf=>aq (kF h f 41) λcd=>aq (aq (kF h cd 24) cY) λnm=>aq (aq (kF h f 59) mY) λpc=>gv nm pc phs
def jM(h:AH):Zh:=aa (aq (kF h (.ref 14) 75) bK) false λb=>b
def dj(c:Zh):Zc:=Zp (nat_lit 54) (nat_lit 68) c
def RX(h:AH)(f:AV):Zb Zc:=(λsk=>(λlt=>[sk,kL (some f),kL (kF h (.ref lt) 21),lt]) (kL (aB (q8 h sk) 0))) (kL (kF h f 60))
def ajF(h:AH):Zb Zc:=aD (aa (aB (q8 h 23) 1) [] λv=>[kL (kF h v 21),kL (some v)]) (Zo [] (λ_ r _=>Zo [] (λf _ ih=>aD (RX h f) ih) r) (q8 h 15))
def WX(v:AV):Zh:=aT (dX v)
def trC(h:AH)(i:Zc):Zb Zc:=aa (aB [54,55,56,57,0,58,59,0,60,61,0,62,63,0] i) [] λa=>ae (aa (kF h (.ref a) 67) false WX) [a] []
def abN(h:AH)(m:Zc):Zh:=aT (aq (aq (kF h (.ref m) 34) dX) λxs=>two xs none λ_ y=>gK y)
def trK(h:AH)(i:Zc):Zb Zc:=Zo [] (λm _ ih=>ae (abN h m) (m::ih) ih) (aa (aB [[],[],[34],[34],[34],[37,5,8],[37,5,8],[37,5,8],[42],[42],[42],[47],[47],[47]] i) [] λl=>l)
def F1(h:AH)(a:Zc):Zh:=aa (kF h (.ref 3) a) false λv=>v.sel false (wp:=λ_=>true)
def NU(h:AH)(n:Zc):Zb Zc:=aa (aq (h.get n) sd) [] λq=>ae (Zi q.1 327) (aa (aY 14 q.2) [] λm=>[kL (kF h m 28)]) []
def WK(c b0 b1:Zh)(en:Zb Zc):aO:={N:=dj c,sel:=[],aR:=26::3::15::23::aD (ae (ak c (aG b0 b1)) [54,55,56,57,58,59,60,61,62,63] []) (ae b1 (5::8::34::37::42::47::aD (ae c [64,65,66,67] []) en) []),mode:=1,bp:=λp=>Zz b0 (λ_ _=>b1) p,fg:=λ_ k=>aK k [40,49,54],fk:=λ_ k=>Zi k 34,kp:=λk=>Zi k 0}
def FR(c:Zh)(sel aR:Zb Zc):aO:={N:=dj c,sel:=sel,aR:=26::3::15::23::aR,mode:=1,kp:=λk=>Zi k 0}
def vF:aO:={N:=27,sel:=[29,37,62,69,76,86,94,108,110,111,150,152,153,154,155,211,213,214,215,216,258,260,261,262,263,44,45,51,56,127,138,169,193,230,240,277,287,149,204,251,298,48,49],aR:=[3,4,5,6,7,8,15,16,17,23,24,25,26],mode:=2,cv:=[(70,.cB 0),(71,.cB 1),(67,.dA 0),(34,.pr 1),(200,.cnt 81),(201,.md),(69,.md)],mp:=[(6,[239]),(7,[236,237,246,244,245]),(110,[239]),(111,[236,237]),(152,[239]),(153,[236,237,243]),(213,[239]),(214,[236,237]),(260,[239]),(261,[236,237])],bg:=[(26,81)],fg:=λj k=>ak (aK k [40,49]) (aK j [51,56,127,138,169,193,230,240,287]),c:=λp=>Zz 5 (λ_ _=>0) p,kp:=λk=>Zi k 0}
def vE:aO:={N:=27,sel:=[29,37,58,65,72,82,90,104,106,107,142,144,145,146,147,199,201,202,203,204,242,244,245,246,247,44,45,48,49],aR:=[3,4,5,6,7,8,15,16,17,23,24,25,26],mode:=2,cv:=[(70,.cB 0),(71,.cB 1),(67,.dA 0),(34,.pr 1),(200,.cnt 81),(201,.md),(69,.md)],mp:=[(6,[239]),(7,[236,237,246,244,245]),(106,[239]),(107,[236,237]),(144,[239]),(145,[236,237,243]),(201,[239]),(202,[236,237]),(244,[239]),(245,[236,237])],bg:=[(26,81)],fg:=λj k=>ak (aK k [40,49]) (aK j []),c:=λp=>Zz 5 (λ_ _=>0) p,kp:=λk=>Zi k 0}
def Nr(h:AH)(i:Zc):Zd AV:=aq (aq (h.get i) nO) λes=>Zo none (λp _ ih=>ae (aa (cY p.1) false λk=>Zi k 275) (some p.2) ih) es
def WJ:aO:={N:=1,sel:=[1,4,5,6,7,8,9,10,11,12,13,14,15,16],aR:=[],mode:=2,cv:=[(275,.tt 0),(1000,.vk 0)],mp:=[(5,[236,237]),(7,[236,237]),(9,[236,237]),(11,[236,237]),(13,[236,237])],km:=[(15,[(264,236),(264,237),(246,236),(246,237),(246,239),(244,236),(244,237),(244,239),(243,236),(243,237),(243,239),(245,236),(245,237),(245,239)])],kp:=λk=>aK k [1,3,4,5]}
def dZ(tn:Zh)(h:AH):Zd aO:=aq (Jb h) λj=>ae tn
 (some (Zz (WK (jM h) (F1 h 70) (F1 h 71) (NU h (dj (jM h)))) (λi _=>ae (Zi i 14) (FR (jM h) [] [52]) (FR (jM h) (ajF h) (aD (ae (jM h) (trC h i) []) (trK h i)))) j))
 (ae (Zi j 14) (some (ae (jM h) vF vE)) none)
def VI(h:AH):Zd aO:=some {N:=27,sel:=ae (jM h) [54,55,56,57,58,59,60,61,62,63,64,65,66,67] [],aR:=[2,3,4,5,6,7,8,10,14,15,16,17,23,24,26],mode:=3,kp:=λk=>Zi k 0}
def HM(v:Zd AV):Zb Zc:=aa (aq v gK) [] λi=>[i]
def WT(h:AH)(k:Zc):Zh:=aa (aq (aq (Nr h 1) λv=>aq (dX v) λxs=>aB xs k) λv=>some (v.sel false (wp:=λ_=>true))) false λb=>b
def vz(fm:Fm)(h:AH):Zd aO:=ae fm.tn (some {N:=15,sel:=[],aR:=[14],kp:=λk=>aK k [1,3,4,5]})
 (Zo none (λ_ _ _=>some {WJ with c:=λp=>Zz 5 (λ_ _=>0) p}) (q8 h (kL (aB fm.vars 4))))
def tq(o:Zh)(fm:Fm)(h:AH):Zd aO:=ae fm.tn (some {N:=15,sel:=aD (HM (aB fm.vars 6)) (ae o (HM (aB fm.vars 7)) []),aR:=[1,13],mode:=1,bp:=λp=>WT h p,kp:=λk=>aK k (ae o [1,3,4,5,6,7] [1,3,4,5,6])}) none
def vA(fm:Fm)(h:AH):Zd aO:=ae (aT (aq (h.get 13) uM)) (some {N:=Zk (kL (aB fm.vars 4)),sel:=[kL (aB fm.vars 5)],aR:=[13],kp:=λk=>Zl k 6}) none
def VJ:Zd aO:=some {N:=1,sel:=[14,12],aR:=[],mode:=3,kp:=λk=>aK k [3,4]}
def FB:Zd aO:=some {N:=3,sel:=[6,9,13,15,16,20,27,3,45,55,56,57,58,59,60,92,128,160,192,241,245,246,248,4],aR:=[],kp:=λk=>ak (Zl 1 k) (Zl k 6)}
noncomputable def oq:Zd aO:=some {N:=1,sel:=[],aR:=[],kp:=λk=>Zl k 1}
def vB(fm:Fm):Zd aO:=some {N:=1,sel:=[kL (aB fm.vars 3)],aR:=[],kp:=λk=>Zl k 3}
def FC:Zd aO:=some {N:=3,sel:=[],aR:=[],kp:=λk=>ak (Zl 1 k) (Zl k 4)}
noncomputable def yz:Zd aO:=some {N:=2,sel:=[],aR:=[],kp:=λk=>Zl k 2}
noncomputable def yA:Zd aO:=some {N:=2,sel:=[],aR:=[],kp:=λk=>Zl k 1}
def mQ(j:Zc)(fm:Fm)(h:AH):Zd aO:=aa (aB [dZ fm.tn h,VI h,FB,vz fm h,tq false fm h,vA fm h,VJ,oq,vB fm,FC,tq true fm h,yz,yA] j) none λo=>o
abbrev pr:Program:=PySem.Challenge.pw_nz0072_01
def iw(i:Zc):Stmt:=(pr.main.body[i]?).getD default
def qF(i j:Zc):Stmt:=match iw i with|.ClassDef _ _ _ b _ _ _ _ _ _ _=>(b[j]?).getD default|_=>default
def fArgs:Stmt→Arguments|.FunctionDef _ a ..=>a|_=>default
def fBody:Stmt→Zb Stmt|.FunctionDef _ _ b ..=>b|_=>[]
def fScope:Stmt→Scope|.FunctionDef _ _ _ _ _ _ s ..=>s|_=>default
abbrev E(P:Yv)(k:Str)(t:Zc)(v:Zf):Y4:=⟨Xk P k,.str k t,v⟩
abbrev ob(c:Zf)(d:Data):Obj:={cls:=c,data:=d}
abbrev sq(xs:Zb Zf)(n:Zc):Data:=.seq ⟨xs⟩ n
abbrev dc(es:Zb Y4)(n:Zc):Data:=.dict ⟨es⟩ n
abbrev fl(xs:Zb Zf):Data:=.fields ⟨xs⟩
abbrev EZ(st:Stmt)(name qual:Str):Data:=.func {name:=name,qualname:=qual,params:=fArgs st,body:=.stmts (fBody st),scope:=fScope st,globals:=0,closure:=[],defaults:=.none,kwdefaults:=.none}
abbrev EY(st:Stmt)(name qual:Str)(dv md cd:Zf)(b:Zc):Data:=.func {name:=name,qualname:=qual,params:=fArgs st,body:=.stmts (fBody st),scope:=fScope st,globals:=Wp,closure:=[],defaults:=dv,kwdefaults:=.none,pyModule:=md,code:=cd,builtins:=b}
abbrev kc(name:Str)(bases mro:Zb Zf)(ns:Zc)(q:Str)(subs:Zb Zf):Data:=.cls {name:=name,bases:=bases,mro:=mro,ns:=ns,qualname:=q,subclasses:=subs}
def upd:Zb Obj→Zb (Zc×Obj)→Zb Obj
 |l,[]=>l
 |l,(a,o)::r=>upd (l.set a o) r
def zV:Zb Obj→Zb Obj
 |[]=>[]
 |[x]=>[x]
 |x::_::r=>x::zV r
noncomputable def up:Zc→Zb Obj→BT
 |0,_=>.nil
 |_+1,[]=>.nil
 |n+1,o::r=>.node o (up n (zV r)) (up n (zV r.tail))
noncomputable abbrev Gr:Life:={}
abbrev rH(l:Zb Obj)(n t:Zc)(os:Ye):SharedT:=⟨up 14 l,n,Gr,#[],{},t,os⟩
def o0:Env:={scope:=pr.main.scope,locals:=mainNs,globals:=mainNs,cells:=[],code:=.ref 13,frame:=some 14}
def j6:Code:=.body pr.main.body o0
def wW(i n:Zc):Zb Stmt:=(pr.main.body.drop i).take n
abbrev P0:Pos:=⟨0,0,0,0⟩
abbrev Runs(w:Yo)(i n k:Zc)(s:SharedT)(p:Pos)(s':SharedT)(p':Pos):Prop:=
 segRunT treeTable pr w 11 (some (.ref 6)) 1 k s (piecesOf (wW i n) o0 j6 p [topFrame P0])=some (.next,s',j6,p')
theorem cg{w:Yo}{i n k:Zc}{s s':SharedT}{p p':Pos}
  (h:PySem.W.Fast.tw10110043849684766642 PySem.W.Fast.tw14364793385576792824 pr w 11 (some (.ref 6)) 1 k s ⟨(PySem.W.Fast.tw12563942051412417395 (wW i n) o0).wrap doneF deadEnd id id,j6,p,[topFrame P0]⟩=some (.next,s',j6,p')):
  Runs w i n k s p s' p':=by
 unfold Runs piecesOf
 rw[PySem.W.Fast.te10110043849684766642,S2,PySem.W.Fast.te12563942051412417395]
 exact h
def lP:Stmt→Str×Pos×Zb Str|.FunctionDef n _ _ _ _ _ _ _ _ p=>(n,p,[])|.ClassDef n _ _ _ _ _ _ _ _ l p=>(n,p,l)|_=>default
def zs(l:Zb Str):Zc→Zb Zf:=Zo (λ_=>[]) (λx _ ih t=>.str x t::ih (t+1)) l
def lcs(k:X5)(l:Zb (Str×X5)):Zb Str:=Zo [] (λp _ ih=>bif p.2==k then p.1::ih else ih) l
abbrev tp(xs:Zb Zf):Obj:=ob (.type "tuple") (sq xs 0)
abbrev iv(n:Zc):Zf:=.int (Zx n) 0
abbrev DU:Str:="/claim/cut.py"
noncomputable def uS(nm q:Str)(t ln ac fg a:Zc)(i:Zh)(v c f:Zf)(t2:Zc):Obj:=ob (.type "code") (fl [.str nm t,.str q (t+1),.str DU (t+2),iv ln,iv ac,iv 0,iv 0,iv fg,.ref a,.bool i,iv 181,.ref (a+1),.none,v,c,f,iv t2,iv ln,.str DU (t2+1)])
def gO(st:Stmt)(q:Str)(m dv:Zf)(a t p:Zc)(v c:Zf)(t2:Zc)(r:Zb Obj):Zb Obj:=ob .none (EZ st (lP st).1 q)::uS (lP st).1 q t (lP st).2.1.line (fArgs st).args.length 3 a true v c (.ref p) t2::ob (.type "function") (EY st (lP st).1 q dv m (.ref (p+1)) 0)::r
def fO(st:Stmt)(q:Str)(m:Zf)(a t:Zc)(dv:Zf)(nv:Zh)(r:Zb Obj):Zb Obj:=
 tp []::ob .none (fl [])::Zp (gO st q m dv a t (a+2) .none .none (t+3) r)
  (tp (zs (lcs .local (fScope st).names) (t+3))::tp (zs (lcs .cell (fScope st).names) (t+3+(lcs .local (fScope st).names).length))::gO st q m dv a t (a+4) (.ref (a+2)) (.ref (a+3)) (t+3+((lcs .local (fScope st).names).length+(lcs .cell (fScope st).names).length)) r) nv
def g7(i:Zc)(m:Zf)(a t:Zc):Zb Obj→Zb Obj:=fO (iw i) (lP (iw i)).1 m a t .none true
def g5(i:Zc)(m:Zf)(a t:Zc):Zb Obj→Zb Obj:=fO (iw i) (lP (iw i)).1 m a t .none false
abbrev Me:=Zc×Str×Zc×Zc×Zb (Zb Zf)×Zh
noncomputable def nm(j:Zc)(q:Str)(a t:Zc):Me:=(j,q,a,t,[],true)
noncomputable def nn(j:Zc)(q:Str)(a t:Zc):Me:=(j,q,a,t,[],false)
def mO(i:Zc)(m:Zf)(x:Me)(r:Zb Obj):Zb Obj:=x.2.2.2.2.1.map tp++fO (qF i x.1) x.2.1 m x.2.2.1 x.2.2.2.1 (Zo .none (λ_ _ _=>.ref (x.2.2.1-1)) x.2.2.2.2.1) x.2.2.2.2.2 r
def meT(i:Zc)(x:Me):Zc:=x.2.2.2.1+5+Zp 0 ((lcs .local (fScope (qF i x.1)).names).length+(lcs .cell (fScope (qF i x.1)).names).length) x.2.2.2.2.2
noncomputable def GP(x:Me):Zc:=x.2.2.1+Zp 4 6 x.2.2.2.2.2
noncomputable def w8(n:Str)(ba ml:Zb Zf)(i T:Zc)(b:Zd Zf)(nw:String)(su:Zb Zf):Obj:=⟨.type "type",none,kc n ba (.ref i::ml) (i-1) n su,⟨[b,none,some (.str n T),some (.str n (T+8)),some (.builtin nw),some (.bool true)]⟩⟩
def cG(P:Yv)(i:Zc)(bs ba ml:Zb Zf)(b:Zd Zf)(nw:String)(hd hw:Zc)(m:Zf)(j T s te:Zc)(ms:Zb Me)(r:Zb Obj):Zb Obj:=
 let st:=lP (iw i)
 let mem:=ms.map λx=>E P (lP (qF i x.1)).1 (meT i x) (.ref (GP x))
 let tt:=te+st.2.2.length
 let k:=s+2
 tp bs::ob (.type "builtin_function_or_method") (fl [.builtin "type.__prepare__",.type "type"])::
 ob (.type "dict") (dc (E P "__module__" (T+7) m::E P "__qualname__" (T+9) (.str st.1 (T+8))::E P "__firstlineno__" (T+11) (.int (Zx st.2.1.line) (T+10))::(mem++[E P "__static_attributes__" tt (.ref s)])) (ms.length+4))::
 tp []::ob .none (fl (Zo [] (λx _ ih=>iv (lP (qF i x.1)).2.1.line::iv (lP (qF i x.1)).2.1.col::.ref (GP x-1)::ih) ms))::
 uS st.1 st.1 (T+2) st.2.1.line 0 0 (j+3) false .none .none .none (T+5)::
 ⟨.type "frame",none,.plain,⟨[some (.ref (j+5)),some (.ref 3),some (.ref (j+2)),none,some m,none,some (.ref 0)]⟩⟩::
 ms.foldr (mO i m) (tp (zs st.2.2 te)::
 ob (.type "dict") (dc (E P "__module__" (T+7) m::E P "__firstlineno__" (T+11) (.int (Zx st.2.1.line) (T+10))::(mem++E P "__static_attributes__" tt (.ref s)::([E P "__dict__" (tt+2) (.ref (k+1))].take hd++([E P "__weakref__" (tt+2*hd+2) (.ref (k+hd+1))].take hw++[E P "__doc__" (tt+2*hd+2*hw+1) .none])))) (hd+hw+2))::
 w8 st.1 ba ml k T b nw []::
 ([ob (.type "getset_descriptor") (fl [.str "__dict__" (tt+1),.ref k,.builtin "function.__dict__",.builtin "function.__dict__#set"])].take hd++([ob (.type "getset_descriptor") (fl [.str "__weakref__" (tt+2*hd+1),.ref k,.builtin "ExceptionGroup.__weakref__",.none])].take hw++
 ob (.type "super") (fl [.ref k,.ref k,.ref k])::ob (.type "builtin_function_or_method") (fl [.builtin "object.__init_subclass__",.ref k])::r)))
abbrev pO:Zb Zf:=[.type "object"]
abbrev A0:Zb Zf:=[.type "ValueError",.type "Exception",.type "BaseException",.type "object"]
def c0(P:Yv)(i:Zc):Zf→Zc→Zc→Zc→Zc→Zb Me→Zb Obj→Zb Obj:=cG P i [] pO pO none "object.__new__" 1 1
def c1(P:Yv)(i b:Zc)(m:Zf)(j:Zc):Zc→Zc→Zc→Zb Me→Zb Obj→Zb Obj:=cG P i [.ref b] [.ref b] (.ref b::pO) (some (.ref j)) "object.__new__" 0 0 m j
def c2(P:Yv)(i:Zc)(m:Zf)(j:Zc):Zc→Zc→Zc→Zb Me→Zb Obj→Zb Obj:=cG P i [.ref 39] [.ref 39] (.ref 39::A0) (some (.ref j)) "ValueError.__new__" 0 0 m j
def c3(P:Yv)(i:Zc)(m:Zf)(j:Zc):Zc→Zc→Zc→Zb Me→Zb Obj→Zb Obj:=cG P i [.type "ValueError"] [.type "ValueError"] A0 (some (.ref j)) "ValueError.__new__" 0 1 m j
abbrev m0:Zf:=.str "__main__" 164
abbrev m1:Zf:=.str "gemrows.errors" 194
abbrev m2:Zf:=.str "gemrows.things" 290
abbrev m3:Zf:=.str "gemrows.machine" 849
abbrev m4:Zf:=.str "gemrows.lines" 1356
abbrev m5:Zf:=.str "gemrows.machinecalls" 1636
abbrev m6:Zf:=.str "gemrows.machinedefs" 1710
abbrev m7:Zf:=.str "gemrows.rows" 1780
abbrev m8:Zf:=.str "gemrows.world" 1938
abbrev m9:Zf:=.str "law_nz0072_01" 2454
noncomputable def gG(P:Yv):Zb Y4:=[E P "__doc__" 166 .none,E P "__package__" 167 .none,E P "__loader__" 168 (.builtin "__main__.__loader__#opaque"),E P "__spec__" 169 .none,E P "__annotations__" 170 (.ref 6),E P "__builtins__" 171 (.ref 4),E P "__file__" 173 (.str "/claim/cut.py" 172),E P "__cached__" 174 .none,E P "_wall" 193 (.ref 21),E P "GemError" 223 (.ref 39),E P "BadRows" 239 (.ref 52),E P "StepsOver" 264 (.ref 71),E P "Raised" 289 (.ref 90),E P "SIMPLE_ESCAPES" 325 (.ref 93),E P "OPERATORS" 353 (.ref 94),E P "DEEPEST_KEY" 355 (.int 12 354),E P "Thing" 390 (.ref 111),E P "Text" 418 (.ref 133),E P "ListThing" 445 (.ref 153),E P "TableThing" 497 (.ref 191),E P "RangeThing" 528 (.ref 211),E P "ProcThing" 571 (.ref 232),E P "ErrorThing" 599 (.ref 252),E P "FiberThing" 629 (.ref 272),E P "ModuleThing" 676 (.ref 299),E P "Entry" 728 (.ref 327),E P "sort_of" 735 (.ref 338),E P "same" 744 (.ref 345),E P "code_of" 750 (.ref 351),E P "is_word" 758 (.ref 358),E P "is_label" 765 (.ref 365),E P "is_plain_symbol" 772 (.ref 372),E P "full_name" 779 (.ref 379),E P "show_letter" 789 (.ref 386),E P "show_text" 795 (.ref 391),E P "show_symbol" 802 (.ref 398),E P "show_pair" 811 (.ref 405),E P "show_range" 821 (.ref 412),E P "show_thing" 827 (.ref 417),E P "show_error" 838 (.ref 424),E P "show" 848 (.ref 432),E P "RESCUES" 853 (.ref 433),E P "ENSURES" 855 (.ref 434),E P "LAST_ERROR" 857 (.str "$!" 856),E P "NOWHERE" 864 (.ref 435),E P "Way" 897 (.ref 453),E P "Scope" 938 (.ref 482),E P "Call" 994 (.ref 511),E P "Frame" 1056 (.ref 546),E P "ConstCache" 1094 (.ref 572),E P "Machine" 1273 (.ref 702),E P "op_push" 1282 (.ref 713),E P "op_pop" 1291 (.ref 720),E P "op_getl" 1300 (.ref 727),E P "op_setl" 1309 (.ref 734),E P "op_getc" 1318 (.ref 741),E P "op_list" 1327 (.ref 748),E P "op_append" 1337 (.ref 755),E P "op_jump" 1346 (.ref 762),E P "op_leave" 1355 (.ref 769),E P "has_thing" 1366 (.ref 776),E P "own_line" 1375 (.ref 783),E P "ahead_count" 1381 (.ref 788),E P "made_line" 1387 (.ref 793),E P "line_of" 1395 (.ref 800),E P "PRIVATE_NAMES" 1400 (.ref 801),E P "PRIVATE_KERNEL" 1414 (.ref 802),E P "GivenEntry" 1430 (.ref 812),E P "sight_of" 1438 (.ref 821),E P "given_entry" 1455 (.ref 828),E P "entry_at" 1465 (.ref 835),E P "first_entry" 1476 (.ref 842),E P "find" 1485 (.ref 849),E P "raise_version" 1492 (.ref 856),E P "need_unfrozen" 1500 (.ref 863),E P "own_module" 1509 (.ref 870),E P "define" 1518 (.ref 877),E P "kind_word" 1525 (.ref 884),E P "need_mixin" 1535 (.ref 891),E P "include" 1544 (.ref 898),E P "prepend" 1553 (.ref 905),E P "NoCache" 1592 (.ref 929),E P "CallCache" 1635 (.ref 957),E P "Sent" 1690 (.ref 986),E P "cache_for" 1700 (.ref 997),E P "enter" 1709 (.ref 1004),E P "place_of_names" 1720 (.ref 1011),E P "enter_body" 1734 (.ref 1018),E P "known_module" 1748 (.ref 1025),E P "need_class" 1757 (.ref 1032),E P "op_class" 1769 (.ref 1039),E P "op_module" 1779 (.ref 1046),E P "Row" 1827 (.ref 1071),E P "Catch" 1872 (.ref 1099),E P "Code" 1937 (.ref 1134),E P "MODULES" 1943 (.ref 1139),E P "BUILTINS" 2060 (.ref 1140),E P "MIXED" 2082 (.ref 1143),E P "UNMADE" 2089 (.ref 1151),E P "World" 2445 (.ref 1406),E P "is_around" 2453 (.ref 1417),E P "_law_spots" 2460 (.ref 1418),E P "_law_reading" 2469 (.ref 1425),E P "_law_body" 2481 (.ref 1432),E P "_law_program" 2487 (.ref 1437),E P "_law_table" 2499 (.ref 1444),E P "_law_module" 2508 (.ref 1451),E P "_law_do" 2521 (.ref 1458),E P "_law_deeds" 2534 (.ref 1465),E P "_law_line" 2540 (.ref 1470),E P "_law_seen" 2550 (.ref 1477),E P "_law_found" 2559 (.ref 1484),E P "_law_read" 2574 (.ref 1491),E P "_law_asked" 2585 (.ref 1498),E P "_law_make" 2593 (.ref 1505),E P "_law_turned" 2607 (.ref 1512),E P "_law_due" 2621 (.ref 1519),E P "_law_lone" 2630 (.ref 1526),E P "_law_plain" 2636 (.ref 1531),E P "law" 2642 (.ref 1536)]
def gd(P:Yv)(m:Zf)(n:Zc):Obj:=ob (.type "dict") (dc (E P "__name__" 165 m::(gG P).take n) (n+1))
noncomputable def gt(n:Zc):Obj:=ob .none (fl ((Zo [] (λx _ ih=>iv x.1::iv 0::.ref x.2::ih) [(1,20),(5,27),(10,48),(12,60),(17,79),(26,100),(35,121),(40,141),(45,161),(65,199),(72,219),(85,240),(91,260),(99,280),(117,307),(131,337),(139,344),(144,350),(155,357),(162,364),(164,371),(172,378),(180,385),(190,390),(193,397),(195,404),(199,411),(203,416),(224,423),(230,431),(246,441),(252,463),(263,492),(279,521),(308,556),(326,582),(453,712),(455,719),(457,726),(459,733),(461,740),(463,747),(465,754),(468,761),(470,768),(473,775),(478,782),(486,787),(488,792),(495,799),(501,808),(503,820),(507,827),(520,834),(527,841),(533,848),(535,855),(537,862),(540,869),(555,876),(559,883),(561,890),(567,897),(573,904),(579,911),(588,939),(607,967),(621,996),(630,1003),(635,1010),(638,1017),(644,1024),(652,1031),(661,1038),(671,1045),(678,1052),(689,1081),(700,1109),(726,1157),(949,1416),(957,1424),(960,1431),(968,1436),(980,1443),(999,1450),(1004,1457),(1015,1464),(1029,1469),(1035,1476),(1040,1483),(1045,1490),(1055,1497),(1060,1504),(1063,1511),(1072,1518),(1091,1525),(1096,1530),(1098,1535)]:Zb Zf).take n))
noncomputable def Al(n:Zc):Obj:=w8 "GemError" [.type "ValueError"] A0 39 196 (some (.ref 22)) "ValueError.__new__" (([52,71,90]:Zb Zc).map .ref|>.take n)
noncomputable def oR(n:Zc):Obj:=w8 "Thing" pO pO 111 356 none "object.__new__" (([133,153,191,211,232,252,272,299]:Zb Zc).map .ref|>.take n)
noncomputable def afb(n:Zc):Obj:=w8 "Entry" pO pO 327 677 none "object.__new__" (([812]:Zb Zc).map .ref|>.take n)
noncomputable def gH(P:Yv):Zb Y4:=[E P "BasicObject" 1944 .none,E P "Object" 1946 (.str "BasicObject" 1947),E P "Module" 1949 (.str "Object" 1950),E P "Class" 1952 (.str "Module" 1953),E P "Kernel" 1955 .none,E P "Comparable" 1957 .none,E P "Enumerable" 1959 .none,E P "NilClass" 1961 (.str "Object" 1962),E P "TrueClass" 1964 (.str "Object" 1965),E P "FalseClass" 1967 (.str "Object" 1968),E P "Numeric" 1970 (.str "Object" 1971),E P "Integer" 1973 (.str "Numeric" 1974),E P "String" 1976 (.str "Object" 1977),E P "Symbol" 1979 (.str "Object" 1980),E P "Array" 1982 (.str "Object" 1983),E P "Hash" 1985 (.str "Object" 1986),E P "Range" 1988 (.str "Object" 1989),E P "Proc" 1991 (.str "Object" 1992),E P "Fiber" 1994 (.str "Object" 1995),E P "Exception" 1997 (.str "Object" 1998),E P "ScriptError" 2000 (.str "Exception" 2001),E P "NotImplementedError" 2003 (.str "ScriptError" 2004),E P "SystemStackError" 2006 (.str "Exception" 2007),E P "StandardError" 2009 (.str "Exception" 2010),E P "ArgumentError" 2012 (.str "StandardError" 2013),E P "UncaughtThrowError" 2015 (.str "ArgumentError" 2016),E P "FiberError" 2018 (.str "StandardError" 2019),E P "IndexError" 2021 (.str "StandardError" 2022),E P "KeyError" 2024 (.str "IndexError" 2025),E P "StopIteration" 2027 (.str "IndexError" 2028),E P "LocalJumpError" 2030 (.str "StandardError" 2031),E P "NameError" 2033 (.str "StandardError" 2034),E P "NoMethodError" 2036 (.str "NameError" 2037),E P "NoMatchingPatternError" 2039 (.str "StandardError" 2040),E P "NoMatchingPatternKeyError" 2042 (.str "NoMatchingPatternError" 2043),E P "RangeError" 2044 (.str "StandardError" 2045),E P "RuntimeError" 2046 (.str "StandardError" 2047),E P "FrozenError" 2048 (.str "RuntimeError" 2049),E P "TypeError" 2050 (.str "StandardError" 2051),E P "ZeroDivisionError" 2052 (.str "StandardError" 2053)]
def L0(P:Yv):Zb Obj:=(Wn P).objs.toList.take 3++gd P (.str "__main__" 164) 8::(((Wn P).objs.toList.drop 4).take 7++[tp [],ob .none (fl []),uS "<module>" "<module>" 182 1 0 0 11 false .none .none .none 185,⟨.type "frame",none,.plain,⟨[some (.ref 13),some (.ref 3),some (.ref 3),none,some (.str "__main__" 164),none,some (.ref 0)]⟩⟩])
def L1(P:Yv):Zb Obj:=upd (L0 P) [(3,gd P m1 10),(12,gt 6)]++(g7 0 m0 15 187<|c3 P 2 m1 22 196 37 217 [(0,"GemError.__init__",30,209,[[.str "" 208]],true)]<|[])
def L2(P:Yv):Zb Obj:=upd (L1 P) [(3,gd P m1 11),(12,gt 9),(39,Al 1)]++(c2 P 3 m1 43 224 50 236 []<|[])
def L3(P:Yv):Zb Obj:=upd (L2 P) [(3,gd P m1 12),(12,gt 12),(39,Al 2)]++(c2 P 4 m1 55 240 69 260 [nm 0 "StepsOver.__init__" 62 252]<|[])
def L4(P:Yv):Zb Obj:=upd (L3 P) [(3,gd P m2 13),(12,gt 15),(39,Al 3)]++(c2 P 5 m1 74 265 88 285 [nm 0 "Raised.__init__" 81 277]<|[])
def L5(P:Yv):Zb Obj:=upd (L4 P) [(3,gd P m2 16)]++(.cons (ob (.type "dict") (dc [E P "\\" 292 (.str "\\\\" 293),E P "\"" 294 (.str "\\\"" 295),E P "\n" 296 (.str "\\n" 297),E P "\t" 298 (.str "\\t" 299),E P "\x0d" 300 (.str "\\r" 301),E P "\x1b" 302 (.str "\\e" 303),E P "\x07" 304 (.str "\\a" 305),E P "\x08" 306 (.str "\\b" 307),E P "\x0b" 308 (.str "\\v" 309),E P "\x0c" 310 (.str "\\f" 311),E P "\x7f" 312 (.str "\\x7F" 313)] 11))<|.cons (tp (zs ["+","-","*","/","%","**","==","!=","<",">","<=",">=","<=>","===","[]","[]=","<<",">>","!","~","+@","-@","&","|","^","=~","!~"] 326))<|[])
def L6(P:Yv):Zb Obj:=upd (L5 P) [(3,gd P m2 17),(12,gt 18)]++(c0 P 10 m2 95 356 109 377 [nm 0 "Thing.__init__" 102 368]<|[])
def L7(P:Yv):Zb Obj:=upd (L6 P) [(3,gd P m2 18),(12,gt 21),(111,oR 1)]++(c1 P 11 111 m2 116 391 131 414 [(0,"Text.__init__",124,404,[[.str "" 403]],true)]<|[])
def L8(P:Yv):Zb Obj:=upd (L7 P) [(3,gd P m2 19),(12,gt 24),(111,oR 2)]++(c1 P 12 111 m2 136 419 151 441 [(0,"ListThing.__init__",144,431,[[.none]],true)]<|[])
def L9(P:Yv):Zb Obj:=upd (L8 P) [(3,gd P m2 20),(12,gt 27),(111,oR 3)]++(c1 P 13 111 m2 156 446 189 492 [nm 0 "TableThing.__init__" 163 458,nm 1 "TableThing.put" 170 467,nm 2 "TableThing.row" 177 478,nn 3 "TableThing.pairs" 184 486]<|[])
def Bf(P:Yv):Zb Obj:=upd (L9 P) [(3,gd P m2 21),(12,gt 30),(111,oR 4)]++(c1 P 14 111 m2 194 498 209 522 [(0,"RangeThing.__init__",202,510,[[.none,.none,.bool false]],true)]<|[])
def Bg(P:Yv):Zb Obj:=upd (Bf P) [(3,gd P m2 22),(12,gt 33),(111,oR 5)]++(c1 P 15 111 m2 214 529 230 559 [(0,"ProcThing.__init__",223,541,[[],[.none,.none,.none,.none,.ref 221,.none,.none,.bool false,.none]],true)]<|[])
def Bh(P:Yv):Zb Obj:=upd (Bg P) [(3,gd P m2 23),(12,gt 36),(111,oR 6)]++(c1 P 16 111 m2 235 572 250 594 [(0,"ErrorThing.__init__",243,584,[[.none]],true)]<|[])
def Bi(P:Yv):Zb Obj:=upd (Bh P) [(3,gd P m2 24),(12,gt 39),(111,oR 7)]++(c1 P 17 111 m2 255 600 270 622 [(0,"FiberThing.__init__",263,612,[[.none]],true)]<|[])
def Bj(P:Yv):Zb Obj:=upd (Bi P) [(3,gd P m2 25),(12,gt 42),(111,oR 8)]++(c1 P 18 111 m2 275 630 297 662 [(0,"ModuleThing.__init__",283,642,[[.none,.bool false,.none,.none]],true),nm 1 "ModuleThing.is_own" 290 655]<|[])
def Bk(P:Yv):Zb Obj:=upd (Bj P) [(3,gd P m2 30),(12,gt 57)]++(c0 P 19 m2 302 677 325 713 [(0,"Entry.__init__",310,690,[[.none,.none,.str "public" 689]],true),(1,"Entry.moved",318,703,[[.none]],true)]<|g7 20 m2 332 729<|g7 21 m2 339 736<|.cons (tp [.int 12 354])<|fO (iw 22) "code_of" m2 347 745 (.ref 346) false<|g7 23 m2 352 751<|[])
def Bm(P:Yv):Zb Obj:=upd (Bk P) [(3,gd P m3 44),(12,gt 90)]++(g7 24 m2 359 759<|g7 25 m2 366 766<|g7 26 m2 373 773<|g7 27 m2 380 780<|g5 28 m2 387 790<|g7 29 m2 392 796<|g7 30 m2 399 803<|g7 31 m2 406 812<|g5 32 m2 413 822<|g7 33 m2 418 828<|.cons (tp [.int 6 839])<|fO (iw 34) "show" m2 426 840 (.ref 425) true<|.cons (tp (zs ["rescue","ensure"] 851))<|.cons (tp [.str "ensure" 854])<|[])
def Bn(P:Yv):Zb Obj:=upd (Bm P) [(3,gd P m3 46),(12,gt 93)]++(.cons (ob (.type "dict") (dc [E P "break" 858 (.str "break from proc-closure" 859),E P "return" 860 (.str "unexpected return" 861)] 2))<|c0 P 40 m3 436 865 451 887 [(0,"Way.__init__",444,877,[[.none]],true)]<|[])
def Bo(P:Yv):Zb Obj:=upd (Bn P) [(3,gd P m3 47),(12,gt 96)]++(c0 P 41 m3 458 898 480 929 [(0,"Scope.__init__",466,910,[[.none]],true),nm 1 "Scope.at" 473 919]<|[])
def Bp(P:Yv):Zb Obj:=upd (Bo P) [(3,gd P m3 48),(12,gt 99)]++(c0 P 42 m3 487 939 509 977 [(0,"Call.__init__",495,951,[[.bool false]],true),nm 1 "Call.copy_for" 502 967]<|[])
def Bq(P:Yv):Zb Obj:=upd (Bp P) [(3,gd P m3 49),(12,gt 102)]++(c0 P 43 m3 516 995 544 1037 [nm 0 "Frame.__init__" 523 1007,nm 1 "Frame.pop" 530 1019,nm 2 "Frame.is_meant" 537 1028]<|[])
def Br(P:Yv):Zb Obj:=upd (Bq P) [(3,gd P m3 50),(12,gt 105)]++(c0 P 44 m3 551 1057 570 1082 [nm 0 "ConstCache.__init__" 558 1069,nn 1 "ConstCache.look" 565 1076]<|[])
def Bs(P:Yv):Zb Obj:=upd (Br P) [(3,gd P m3 51),(12,gt 108)]++(c0 P 45 m3 577 1095 700 1257 [(0,"Machine.__init__",585,1107,[[.bool true]],true),nm 1 "Machine.number" 592 1117,nm 2 "Machine.adopt" 599 1124,nn 3 "Machine.begin" 606 1133,nm 4 "Machine.push_frame" 611 1139,nm 5 "Machine.run" 618 1147,nm 6 "Machine.finish" 625 1157,nm 7 "Machine.answer" 632 1166,nm 8 "Machine.ended" 639 1175,nm 9 "Machine.raise_error" 646 1183,nm 10 "Machine.comes_from" 653 1192,nm 11 "Machine.leave_by" 660 1201,nm 12 "Machine.take" 667 1213,nm 13 "Machine.fallen" 674 1223,nn 14 "Machine.has_end" 681 1231,nm 15 "Machine.raise_nowhere" 686 1237,nm 16 "Machine.constant" 693 1246]<|[])
def Bt(P:Yv):Zb Obj:=upd (Bs P) [(3,gd P m4 63),(12,gt 144)]++(g7 46 m3 707 1274<|g7 47 m3 714 1283<|g7 48 m3 721 1292<|g7 49 m3 728 1301<|g7 50 m3 735 1310<|g7 51 m3 742 1319<|g7 52 m3 749 1328<|g7 53 m3 756 1338<|g7 54 m3 763 1347<|g7 56 m4 770 1358<|g7 57 m4 777 1367<|g5 58 m4 784 1376<|[])
def Bu(P:Yv):Zb Obj:=upd (Bt P) [(3,gd P m4 70),(12,gt 159),(327,afb 1)]++(g5 59 m4 789 1382<|g7 60 m4 794 1388<|.cons (tp (zs ["initialize","initialize_copy","method_missing","respond_to_missing?"] 1396))<|.cons (tp (zs ["puts","print","p","raise","loop","catch","throw","proc","lambda","block_given?","Array","Integer","__write"] 1401))<|c1 P 63 327 m4 803 1415 810 1427 []<|g7 64 m4 815 1431<|g7 65 m4 822 1439<|[])
def Bv(P:Yv):Zb Obj:=upd (Bu P) [(3,gd P m4 81),(12,gt 192)]++(g7 66 m4 829 1456<|g7 67 m4 836 1466<|g7 68 m4 843 1477<|g7 69 m4 850 1486<|g7 70 m4 857 1493<|g7 71 m4 864 1501<|g7 72 m4 871 1510<|g7 73 m4 878 1519<|g7 74 m4 885 1526<|g7 75 m4 892 1536<|g7 76 m4 899 1545<|[])
def Bw(P:Yv):Zb Obj:=upd (Bv P) [(3,gd P m4 82),(12,gt 195)]++(c0 P 77 m4 906 1554 927 1583 [nm 0 "NoCache.__init__" 913 1566,nm 1 "NoCache.look" 920 1573]<|[])
def Bx(P:Yv):Zb Obj:=upd (Bw P) [(3,gd P m5 83),(12,gt 198)]++(c0 P 78 m4 934 1593 955 1622 [nm 0 "CallCache.__init__" 941 1605,nm 1 "CallCache.look" 948 1612]<|[])
def By(P:Yv):Zb Obj:=upd (Bx P) [(3,gd P m6 87),(12,gt 210)]++(c0 P 80 m5 962 1638 984 1675 [(0,"Sent.__init__",970,1651,[[.none,.str "call" 1650,.none,.none]],true),nm 1 "Sent.renamed" 977 1665]<|g7 81 m5 991 1691<|g7 82 m5 998 1701<|g7 84 m6 1005 1712<|[])
def Bz(P:Yv):Zb Obj:=upd (By P) [(3,gd P m7 92),(12,gt 225)]++(g7 85 m6 1012 1721<|g7 86 m6 1019 1735<|g7 87 m6 1026 1749<|g7 88 m6 1033 1758<|g7 89 m6 1040 1770<|[])
def BA(P:Yv):Zb Obj:=upd (Bz P) [(3,gd P m7 93),(12,gt 228)]++(c0 P 91 m7 1047 1782 1069 1815 [(0,"Row.__init__",1055,1795,[[.none,.none,.none,.int 0 1794]],true),nm 1 "Row.with_target" 1062 1807]<|[])
def BB(P:Yv):Zb Obj:=upd (BA P) [(3,gd P m7 94),(12,gt 231)]++(c0 P 92 m7 1076 1828 1097 1860 [nm 0 "Catch.__init__" 1083 1840,nm 1 "Catch.covers" 1090 1852]<|[])
def BC(P:Yv):Zb Obj:=upd (BB P) [(3,gd P m8 96),(12,gt 234)]++(c0 P 93 m7 1104 1873 1132 1921 [nm 0 "Code.__init__" 1111 1885,nm 1 "Code.catch_at" 1118 1900,nm 2 "Code.with_rows" 1125 1910]<|.cons (tp (zs ["Kernel","Comparable","Enumerable"] 1940))<|[])
def BD(P:Yv):Zb Obj:=upd (BC P) [(3,gd P m8 97)]++(.cons (ob (.type "dict") (dc (((gH P).drop 0).take 40) 40))<|.cons (ob (.type "dict") (dc (((gH P).drop 17).take 17) 17))<|.cons (ob (.type "dict") (dc (((gH P).drop 34).take 6) 6))<|[])
def BE(P:Yv):Zb Obj:=upd (BD P) [(3,gd P m8 99)]++(.cons (ob (.type "dict") (dc [E P "Object" 2061 (.ref 1144),E P "Numeric" 2063 (.ref 1145),E P "String" 2065 (.ref 1146),E P "Symbol" 2067 (.ref 1147),E P "Array" 2069 (.ref 1148),E P "Hash" 2071 (.ref 1149),E P "Range" 2073 (.ref 1150)] 7))<|.cons (tp [.str "Kernel" 2062])<|.cons (tp [.str "Comparable" 2064])<|.cons (tp [.str "Comparable" 2066])<|.cons (tp [.str "Comparable" 2068])<|.cons (tp [.str "Enumerable" 2070])<|.cons (tp [.str "Enumerable" 2072])<|.cons (tp [.str "Enumerable" 2074])<|.cons (tp (zs ["NilClass","TrueClass","FalseClass","Integer","Numeric","Symbol"] 2083))<|[])
def BF(P:Yv):Zb Obj:=upd (BE P) [(3,gd P m8 100),(12,gt 237)]++(c0 P 99 m8 1152 2090 1404 2423 [(0,"World.__init__",1160,2103,[[.none,.none,.int 20000 2102]],true),nm 1 "World.tick" 1167 2115,nm 2 "World.write" 1174 2122,nm 3 "World.number" 1181 2130,nm 4 "World.next_ident" 1188 2137,nm 5 "World.ident" 1195 2144,nm 6 "World.builtin" 1202 2153,nn 7 "World.make_builtin" 1209 2162,nm 8 "World.give_own" 1214 2168,(9,"World.new_module",1222,2176,[[.none,.none,.none]],true),nm 10 "World.class_of" 1229 2191,nm 11 "World.own_of" 1236 2199,nm 12 "World.own_behind" 1243 2207,nm 13 "World.root_of" 1250 2215,nm 14 "World.real_class" 1257 2223,nm 15 "World.text" 1264 2231,nm 16 "World.list_of" 1271 2239,nm 17 "World.table_of" 1278 2247,nm 18 "World.key_of" 1285 2255,nm 19 "World.range_of" 1292 2263,nm 20 "World.proc" 1299 2273,nm 21 "World.thing" 1306 2290,nm 22 "World.is_error_class" 1313 2300,nm 23 "World.spread" 1320 2308,nm 24 "World.error" 1327 2316,nm 25 "World.fail" 1334 2325,nm 26 "World.need_thawed" 1341 2334,nm 27 "World.set_field" 1348 2343,nm 28 "World.describe" 1355 2353,nm 29 "World.own_constant" 1362 2361,nm 30 "World.find_constant" 1369 2370,nm 31 "World.constant" 1376 2383,nm 32 "World.find_in" 1383 2394,nm 33 "World.constant_in" 1390 2403,nm 34 "World.set_constant" 1397 2412]<|[])
def BG(P:Yv):Zb Obj:=upd (BF P) [(3,gd P m9 112),(12,gt 270)]++(g7 100 m8 1411 2446<|.cons (ob (.type "list") (sq [.str "C" 2456,.str "E" 2457,.str "D" 2458,.str "M" 2459] 0))<|g7 103 m9 1419 2461<|g7 104 m9 1426 2470<|g5 105 m9 1433 2482<|.cons (tp [])<|.cons (ob .none (fl []))<|.cons (tp (zs ["scene","ask","turn","more","heir"] 2491))<|.cons (tp [.str "scene" 2496])<|.cons (ob .none (EZ (iw 106) "_law_table" "_law_table"))<|.cons (uS "_law_table" "_law_table" 2488 980 1 3 1438 true (.ref 1440) (.ref 1441) (.ref 1442) 2497)<|.cons (ob (.type "function") (EY (iw 106) "_law_table" "_law_table" .none (.str "law_nz0072_01" 2454) (.ref 1443) 0))<|g7 107 m9 1445 2500<|g7 108 m9 1452 2509<|g7 109 m9 1459 2522<|g5 110 m9 1466 2535<|g7 111 m9 1471 2541<|g7 112 m9 1478 2551<|[])
def uw(P:Yv):Zb Obj:=upd (BG P) [(3,gd P m9 120),(12,gt 294)]++(g7 113 m9 1485 2560<|g7 114 m9 1492 2575<|g7 115 m9 1499 2586<|g7 116 m9 1506 2594<|g7 117 m9 1513 2608<|g7 118 m9 1520 2622<|g5 119 m9 1527 2631<|g5 120 m9 1532 2637<|[])
abbrev Zt(l:Yv→Zb Obj)(n t:Zc)(p:Pos)(w:Yo)(os:Ye):SharedT×Pos:=(rH (l w.params) n t os,p)
abbrev Z0:=Zt L0 15 187 ⟨0,0,0,0⟩
abbrev Z1:=Zt L1 43 224 ⟨5,0,9,28⟩
abbrev Z2:=Zt L2 55 240 ⟨10,0,11,8⟩
abbrev Z3:=Zt L3 74 265 ⟨12,0,16,24⟩
abbrev Z4:=Zt L4 93 292 ⟨22,0,22,8⟩
abbrev Z5:=Zt L5 95 356 ⟨25,0,25,11⟩
abbrev Z6:=Zt L6 116 391 ⟨26,0,34,25⟩
abbrev Z7:=Zt L7 136 419 ⟨35,0,39,24⟩
abbrev Z8:=Zt L8 156 446 ⟨40,0,44,51⟩
abbrev Z9:=Zt L9 194 498 ⟨45,0,64,63⟩
abbrev BQ:=Zt Bf 214 529 ⟨65,0,71,27⟩
abbrev BR:=Zt Bg 235 572 ⟨72,0,84,30⟩
abbrev BU:=Zt Bh 255 600 ⟨85,0,90,25⟩
abbrev BV:=Zt Bi 275 630 ⟨91,0,98,24⟩
abbrev BW:=Zt Bj 302 677 ⟨99,0,116,40⟩
abbrev BY:=Zt Bk 359 759 ⟨155,0,161,15⟩
abbrev xo:=Zt Bm 435 858 ⟨244,0,244,10⟩
abbrev xq:=Zt Bn 458 898 ⟨246,0,251,22⟩
abbrev BZ:=Zt Bo 487 939 ⟨252,0,262,20⟩
abbrev B0:=Zt Bp 516 995 ⟨263,0,278,16⟩
abbrev B1:=Zt Bq 551 1057 ⟨279,0,307,82⟩
abbrev B2:=Zt Br 577 1095 ⟨308,0,325,25⟩
abbrev B3:=Zt Bs 707 1274 ⟨326,0,452,66⟩
abbrev B4:=Zt Bt 789 1382 ⟨486,0,487,60⟩
abbrev B5:=Zt Bu 829 1456 ⟨507,0,519,81⟩
abbrev B6:=Zt Bv 906 1554 ⟨573,0,578,28⟩
abbrev B7:=Zt Bw 934 1593 ⟨579,0,587,40⟩
abbrev B8:=Zt Bx 962 1638 ⟨606,0,606,8⟩
abbrev B9:=Zt By 1012 1721 ⟨635,0,637,78⟩
abbrev Ca:=Zt Bz 1047 1782 ⟨677,0,677,8⟩
abbrev Cb:=Zt BA 1076 1828 ⟨678,0,688,16⟩
abbrev Cc:=Zt BB 1104 1873 ⟨689,0,699,46⟩
abbrev xr:=Zt BC 1140 1944 ⟨722,0,722,7⟩
abbrev uE:=Zt BD 1143 2061 ⟨723,0,723,8⟩
abbrev xt:=Zt BE 1152 2090 ⟨725,0,725,6⟩
abbrev Cd:=Zt BF 1411 2446 ⟨726,0,948,31⟩
abbrev Ce:=Zt BG 1485 2560 ⟨1040,0,1044,12⟩
abbrev JP:=Zt uw 1537 2643 ⟨1098,0,1115,15⟩
abbrev Ru(i n k:Zc)(a b:Yo→Ye→SharedT×Pos)(w:Yo)(os:Ye):Prop:=Runs w i n k (a w os).1 (a w os).2 (b w os).1 (b w os).2
theorem aeq(w:Yo)(os:Ye):Ru 0 3 259 Z0 Z1 w os:=cg (by kernel_rfl)
theorem aer(w:Yo)(os:Ye):Ru 3 1 214 Z1 Z2 w os:=cg (by kernel_rfl)
theorem aeC(w:Yo)(os:Ye):Ru 4 1 246 Z2 Z3 w os:=cg (by kernel_rfl)
theorem aeN(w:Yo)(os:Ye):Ru 5 2 255 Z3 Z4 w os:=cg (by kernel_rfl)
theorem aeV(w:Yo)(os:Ye):Ru 7 3 222 Z4 Z5 w os:=byRow2 "special-get-raises" (P:=λw=>Ru 7 3 222 Z4 Z5 w os) (λw=>cg (by kernel_rfl)) (λw=>cg (by kernel_rfl)) w
theorem aeW(w:Yo)(os:Ye):Ru 10 1 229 Z5 Z6 w os:=cg (by kernel_rfl)
theorem aeX(w:Yo)(os:Ye):Ru 11 1 250 Z6 Z7 w os:=cg (by kernel_rfl)
theorem aeY(w:Yo)(os:Ye):Ru 12 1 249 Z7 Z8 w os:=cg (by kernel_rfl)
theorem aeZ(w:Yo)(os:Ye):Ru 13 1 343 Z8 Z9 w os:=cg (by kernel_rfl)
theorem ae0(w:Yo)(os:Ye):Ru 14 1 253 Z9 BQ w os:=cg (by kernel_rfl)
theorem aes(w:Yo)(os:Ye):Ru 15 1 267 BQ BR w os:=cg (by kernel_rfl)
theorem aet(w:Yo)(os:Ye):Ru 16 1 250 BR BU w os:=cg (by kernel_rfl)
theorem aeu(w:Yo)(os:Ye):Ru 17 1 252 BU BV w os:=cg (by kernel_rfl)
theorem aev(w:Yo)(os:Ye):Ru 18 1 293 BV BW w os:=cg (by kernel_rfl)
theorem aew(w:Yo)(os:Ye):Ru 19 5 391 BW BY w os:=cg (by kernel_rfl)
theorem aex(w:Yo)(os:Ye):Ru 24 15 371 BY xo w os:=cg (by kernel_rfl)
theorem aey(w:Yo)(os:Ye):Ru 39 2 268 xo xq w os:=byRow2 "special-get-raises" (P:=λw=>Ru 39 2 268 xo xq w os) (λw=>cg (by kernel_rfl)) (λw=>cg (by kernel_rfl)) w
theorem aez(w:Yo)(os:Ye):Ru 41 1 260 xq BZ w os:=cg (by kernel_rfl)
theorem aeA(w:Yo)(os:Ye):Ru 42 1 275 BZ B0 w os:=cg (by kernel_rfl)
theorem aeB(w:Yo)(os:Ye):Ru 43 1 304 B0 B1 w os:=cg (by kernel_rfl)
theorem aeD(w:Yo)(os:Ye):Ru 44 1 254 B1 B2 w os:=cg (by kernel_rfl)
theorem aeE(w:Yo)(os:Ye):Ru 45 1 754 B2 B3 w os:=cg (by kernel_rfl)
theorem aeF(w:Yo)(os:Ye):Ru 46 13 378 B3 B4 w os:=cg (by kernel_rfl)
theorem aeG(w:Yo)(os:Ye):Ru 59 7 376 B4 B5 w os:=cg (by kernel_rfl)
theorem aeH(w:Yo)(os:Ye):Ru 66 11 341 B5 B6 w os:=cg (by kernel_rfl)
theorem aeI(w:Yo)(os:Ye):Ru 77 1 257 B6 B7 w os:=cg (by kernel_rfl)
theorem aeJ(w:Yo)(os:Ye):Ru 78 2 270 B7 B8 w os:=cg (by kernel_rfl)
theorem aeK(w:Yo)(os:Ye):Ru 80 5 375 B8 B9 w os:=cg (by kernel_rfl)
theorem aeL(w:Yo)(os:Ye):Ru 85 6 179 B9 Ca w os:=cg (by kernel_rfl)
theorem aeM(w:Yo)(os:Ye):Ru 91 1 265 Ca Cb w os:=cg (by kernel_rfl)
theorem aeO(w:Yo)(os:Ye):Ru 92 1 263 Cb Cc w os:=cg (by kernel_rfl)
theorem aeP(w:Yo)(os:Ye):Ru 93 3 329 Cc xr w os:=cg (by kernel_rfl)
theorem aeQ(w:Yo)(os:Ye):Ru 96 1 759 xr uE w os:=byRow2 "special-get-raises" (P:=λw=>Ru 96 1 759 xr uE w os) (λw=>cg (by kernel_rfl)) (λw=>cg (by kernel_rfl)) w
theorem aeR(w:Yo)(os:Ye):Ru 97 2 146 uE xt w os:=byRow2 "special-get-raises" (P:=λw=>Ru 97 2 146 uE xt w os) (λw=>cg (by kernel_rfl)) (λw=>cg (by kernel_rfl)) w
theorem aeS(w:Yo)(os:Ye):Ru 99 1 1366 xt Cd w os:=cg (by kernel_rfl)
theorem aeT(w:Yo)(os:Ye):Ru 100 13 369 Cd Ce w os:=cg (by kernel_rfl)
theorem aeU(w:Yo)(os:Ye):Ru 113 8 256 Ce JP w os:=cg (by kernel_rfl)
def al(l:Zb CS):CS:=Zo .skip (λa _ ih=>.seq a ih) l
def pl(n m:Zc):Zb (Zd Zc):=Zz (λ_=>Zz [] (λ_ ih=>none::ih) m) (λ_ ih i=>some i::ih (Zk i)) n 0
def lf{α:Type}(k:Zc)(v:α):BS α:=.node k v .nil .nil
def cy(k:Zc):CE:=.con (.sy k)
def ci(k:Zw):CE:=.con (.int k)
def cN:CE:=.con .none
def cT:CE:=.con (.bool true)
def cF:CE:=.con (.bool false)
def l0:CE:=.loc 0
def l1:CE:=.loc 1
def l2:CE:=.loc 2
def l3:CE:=.loc 3
def l4:CE:=.loc 4
def l5:CE:=.loc 5
def l6:CE:=.loc 6
def l7:CE:=.loc 7
def l8:CE:=.loc 8
def l9:CE:=.loc 9
def XM:CE:=.loc 10
def u0:CT:=.loc 0
def u1:CT:=.loc 1
def u2:CT:=.loc 2
def u3:CT:=.loc 3
def u4:CT:=.loc 4
def u5:CT:=.loc 5
def u6:CT:=.loc 6
def u7:CT:=.loc 7
def u8:CT:=.loc 8
def u9:CT:=.loc 9
def u10:CT:=.loc 10
noncomputable def wm:Zb Str:="__init__"::"get"::"append"::"extend"::"pop"::"values"::"enumerate"::""::"ValueError"::"reason"::"GemError"::"a Ruby error"::"thing"::"number"::"owner"::"fields"::"own"::"frozen"::"ident"::"Thing"::"text"::"items"::"message"::"cause"::"name"::"is_class"::"parent"::"outer"::"methods"::"constants"::"mixed"::"ahead"::"attached"::"native"::"kept"::"public"::"sort"::"params"::"body"::"sight"::"nesting"::"code"::"nil"::"isinstance"::"bool"::"int"::"str"::"sym"::"sort_of"::"value"::"tag"::"slots"::"range"::"self_value"::"entry"::"args"::"block"::"definer"::"is_lambda"::"pc"::"stack"::"scope"::"call"::"proc"::"waits"::"after"::"held"::"versions"::"hits"::"misses"::"const_version"::"version"::"constant"::"world"::"table"::"cached"::"frames"::"fiber"::"codes"::"caches"::"finished"::"children"::"adopt"::"Object"::"builtin"::"Call"::"main"::"program"::"private"::"Frame"::"starts"::"Scope"::"push_frame"::"len"::"rows"::"BadRows"::"behind the last row"::"tick"::"op"::"raise_error"::"Raised"::"after_value"::"ended"::"answer"::"fiber_ended"::"globals"::"LAST_ERROR"::"ErrorThing"::"comes_from"::"raise"::"leave_by"::"has_end"::"raise_nowhere"::"break"::"is_meant"::"RESCUES"::"ENSURES"::"catch_at"::"Way"::"take"::"finish"::"fallen"::"depth"::"target"::"ConstCache"::"look"::"a"::"at"::"b"::"list_of"::"same"::"own_line"::"sum"::"line_of"::"ahead_count"::"has_thing"::"made_line"::"natives"::"control"::"GivenEntry"::"sight_of"::"prelude"::"read"::"kind"::"seq"::"parts"::"tree"::"given_entry"::"gone"::"entry_at"::"none"::"first_entry"::"FrozenError"::"can't modify frozen "::"kind_word"::": "::"full_name"::"fail"::"need_unfrozen"::"raise_version"::"ModuleThing"::"class_of"::"TypeError"::"wrong argument type "::" (expected Module)"::"ArgumentError"::"cyclic include detected"::"need_mixin"::"find"::"receiver"::"is_written"::"NoCache"::"CallCache"::"class"::"enter"::"Sent"::"module"::"place_of_names"::"own_constant"::" is not a "::"real_class"::"superclass must be an instance of Class (given an instance of "::")"::"is_own"::"can't make subclass of singleton class"::"Class"::"can't make subclass of Class"::"c"::"need_class"::"known_module"::"new_module"::"set_constant"::"superclass mismatch for class "::"enter_body"::"line"::"first"::"last"::"catches"::"covers"::"most"::"taken"::"last_number"::"last_ident"::"symbol_idents"::"made"::"out"::"is_ready"::"list"::"give_own"::"StepsOver"::"make_builtin"::"MODULES"::"BUILTINS"::"Module"::"MIXED"::"."::"own_module"::"Text"::"String"::"ListThing"::"Array"::"error"::"show"::"find_constant"::"NameError"::"uninitialized constant "::" is not a class/module"::"need_thawed"::"is_around"::"Row"::"getc"::"jump"::"push"::"Catch"::"rescue"::"_law_reading"::"X"::"Y"::"ask"::"f"::"Code"::"leave"::"_law_body"::"E"::"C"::"D"::"M"::"setl"::"turn"::"getl"::"getheir"::"more"::"all"::"op_getc"::"op_jump"::"op_pop"::"op_push"::"op_append"::"op_list"::"op_getl"::"op_setl"::"op_leave"::"op_class"::"op_module"::"top"::"_law_module"::"set"::"define"::"Entry"::"include"::"prepend"::"min"::"abs"::"_law_line"::"_law_seen"::"turns"::"looks"::"_law_found"::"_law_spots"::"_law_turned"::"_law_read"::"_law_make"::"_law_lone"::"_law_asked"::"_law_plain"::"_law_deeds"::"_law_due"::"deeds"::"round"::"Machine"::"World"::"_law_table"::"_law_program"::"begin"::"run"::"cache_for"::"_law_do"::"ensure"::"Kernel"::"Comparable"::"Enumerable"::"BasicObject"::"NilClass"::"TrueClass"::"FalseClass"::"Numeric"::"Integer"::"Symbol"::"Hash"::"Range"::"Proc"::"Fiber"::"Exception"::"ScriptError"::"NotImplementedError"::"SystemStackError"::"StandardError"::"UncaughtThrowError"::"FiberError"::"IndexError"::"KeyError"::"StopIteration"::"LocalJumpError"::"NoMethodError"::"NoMatchingPatternError"::"NoMatchingPatternKeyError"::"RangeError"::"RuntimeError"::"ZeroDivisionError"::"$!"::[]
def Op:aw:=⟨2,[.sy 7],pl 2 0,[],al [.e (.m (.g 8) 0 [l0,l1]),.s (.a l0 9) l1]⟩
def OI:aw:=⟨2,[],pl 2 0,[],al [.e (.m (.g 10) 0 [l0,cy 11]),.s (.a l0 12) l1]⟩
def OO:aw:=⟨3,[],pl 3 0,[],al [.s (.a l0 13) l1,.s (.a l0 14) l2,.s (.a l0 15) (.dict []),.s (.a l0 16) cN,.s (.a l0 17) cF,.s (.a l0 18) cN]⟩
def ON:aw:=⟨4,[.sy 7],pl 4 0,[],al [.e (.m (.g 19) 0 [l0,l1,l2]),.s (.a l0 20) l3]⟩
def Oq:aw:=⟨4,[.none],pl 4 0,[],al [.e (.m (.g 19) 0 [l0,l1,l2]),.s (.a l0 21) (.i (.p .Is l3 cN) (.list []) l3)]⟩
def Om:aw:=⟨4,[.none],pl 4 0,[],al [.e (.m (.g 19) 0 [l0,l1,l2]),.s (.a l0 22) l3,.s (.a l0 23) cN]⟩
def OE:aw:=⟨7,[.none,.bool false,.none,.none],pl 7 0,[],al [.e (.m (.g 19) 0 [l0,l1,l2]),.s (.a l0 24) l3,.s (.a l0 25) l4,.s (.a l0 26) l5,.s (.a l0 27) l6,.s (.a l0 28) (.dict []),.s (.a l0 29) (.dict []),.s (.a l0 30) (.list []),.s (.a l0 31) (.list []),.s (.a l0 32) cN,.s (.a l0 33) cN,.s (.a l0 34) cN]⟩
def OF:aw:=⟨1,[],pl 1 0,[],al [.ret (.p .IsNot (.a l0 32) cN)]⟩
def Ol:aw:=⟨7,[.none,.none,.sy 35],pl 7 0,[],al [.s (.a l0 24) l1,.s (.a l0 14) l2,.s (.a l0 36) l3,.s (.a l0 37) l4,.s (.a l0 38) l5,.s (.a l0 39) l6,.s (.a l0 40) (.tup []),.s (.a l0 41) cN]⟩
def QG:aw:=⟨1,[],pl 1 0,[],al [.i (.p .Is l0 cN) (al [.ret (cy 42)]) .skip,.i (.tst (.f (.g 43) [l0,.g 44])) (al [.ret (cy 44)]) .skip,.i (.tst (.f (.g 43) [l0,.g 45])) (al [.ret (cy 45)]) .skip,.ret (.i (.tst (.f (.g 43) [l0,.g 46])) (cy 47) (cy 12))]⟩
def QF:aw:=⟨2,[],pl 2 1,[],al [.s u2 (.f (.g 48) [l0]),.i (.p .NotEq l2 (.f (.g 48) [l1])) (al [.ret cF]) .skip,.ret (.i (.p .Eq l2 (cy 12)) (.p .Eq (.a l0 13) (.a l1 13)) (.p .Eq l0 l1))]⟩
def OP:aw:=⟨4,[.none],pl 4 0,[],al [.s (.a l0 36) l1,.s (.a l0 49) l2,.s (.a l0 50) l3]⟩
def OK:aw:=⟨3,[.none],pl 3 0,[],al [.s (.a l0 51) l1,.s (.a l0 27) l2]⟩
def OL:aw:=⟨2,[],pl 2 2,[],al [.s u2 l0,.fb false u3 (.f (.g 52) [l1]) (al [.s u2 (.a l2 27)]),.ret l2]⟩
def Oe:aw:=⟨10,[.bool false],pl 10 0,[],al [.s (.a l0 53) l1,.s (.a l0 54) l2,.s (.a l0 55) l3,.s (.a l0 56) l4,.s (.a l0 13) l5,.s (.a l0 40) l6,.s (.a l0 57) l7,.s (.a l0 36) l8,.s (.a l0 58) l9,.s (.a l0 39) (cy 35)]⟩
def On:aw:=⟨6,[],pl 6 0,[],al [.s (.a l0 41) l1,.s (.a l0 59) l2,.s (.a l0 60) l3,.s (.a l0 61) l4,.s (.a l0 62) l5,.s (.a l0 13) cN,.s (.a l0 63) cN,.s (.a l0 64) cN,.s (.a l0 65) cN,.s (.a l0 66) cN,.s (.a l0 50) cN,.s (.a l0 39) (cy 35)]⟩
def Oo:aw:=⟨2,[],pl 2 1,[],al [.i (.p .Eq l1 (ci 0)) (al [.ret (.list [])]) .skip,.s u2 (.con .any),.s (.cut (.a l0 60) (.neg l1)) (.list []),.ret l2]⟩
def Oj:aw:=⟨1,[],pl 1 0,[],al [.s (.a l0 67) cN,.s (.a l0 40) cN,.s (.a l0 49) cN,.s (.a l0 68) (ci 0),.s (.a l0 69) (ci 0)]⟩
def Ok:aw:=⟨4,[],pl 4 2,[],al [.s (.tup [u4,u5]) (.tup [.tup [.a l1 70,.a l1 71],.comp l2 (.a l0 13) [] []]),.i (.dJ false (.p .Eq (.a l0 67) l4) [.p .Eq (.a l0 40) l5]) (al [.aug l0 68 .Add (ci 1),.ret (.a l0 49)]) .skip,.aug l0 69 .Add (ci 1),.s (.a l0 49) (.m l1 72 [l2,l3]),.s (.tup [.a l0 67,.a l0 40]) (.tup [l4,l5]),.ret (.a l0 49)]⟩
def Os:aw:=⟨4,[.bool true],pl 4 0,[],al [.s (.a l0 73) l1,.s (.a l0 74) l2,.s (.a l0 75) l3,.s (.a l0 76) (.list []),.s (.a l0 77) cN,.s (.a l0 78) (ci 0),.s (.a l0 79) (.dict []),.s (.a l0 29) (.dict []),.s (.a l0 80) cN]⟩
def OA:aw:=⟨1,[],pl 1 0,[],al [.ret (.m (.a l0 73) 13 [])]⟩
def Ot:aw:=⟨2,[],pl 2 1,[],al [.aug l0 78 .Add (ci 1),.s (.a l1 13) (.a l0 78),.fb false u2 (.a l1 81) (al [.e (.m l0 82 [l2])])]⟩
def Ov:aw:=⟨2,[],pl 2 3,[],al [.e (.m l0 82 [l1]),.s u2 (.m (.a l0 73) 84 [cy 83]),.s u3 (.f (.g 85) [.a (.a l0 73) 86,cN,.list [],cN,.m l0 13 [],.list [],l2,cy 87]),.s (.a l3 39) (cy 88),.s u4 (.f (.g 89) [l1,.t (.a l1 90) (ci 0),.list [],.f (.g 91) [.comp (.a l1 51) cN [] []],l3]),.s (.a l4 13) (.a l3 13),.e (.m l0 92 [l4])]⟩
def OB:aw:=⟨2,[],pl 2 0,[],al [.e (.m (.a l0 76) 2 [l1])]⟩
def sX:aw:=⟨1,[],pl 1 3,[],al [.p4 (.p .Is (.a l0 80) cN) (al [.cut 0,.s u1 (.t (.a l0 76) (.neg (ci 1))),.i (.eS (.xU .LtE .Lt (ci 0) (.a l1 59) (.f (.g 93) [.a (.a l1 41) 94]))) (al [.raise (.f (.g 95) [cy 96])]) .skip,.s u2 (.t (.a (.a l1 41) 94) (.a l1 59)),.aug l1 59 .Add (ci 1),.e (.m (.a l0 73) 97 []),.AQ (.f (.t (.a l0 74) (.a l2 98)) [l0,l1,l2]) 100 90 3 (al [.e (.m l0 99 [.a l3 12])])]),.cut 1,.ret (.a l0 80)]⟩
def Oy:aw:=⟨2,[],pl 2 1,[],al [.s u2 (.m (.a l0 76) 4 []),.i (.p .IsNot (.a l2 65) cN) (al [.s u1 (.f (.t (.a l0 74) (cy 101)) [l0,l2,l1])]) .skip,.i (.p .Eq (.f (.g 93) [.a l0 76]) (ci 0)) (al [.e (.m l0 102 [l1])]) (al [.e (.m l0 103 [.t (.a l0 76) (.neg (ci 1)),l1])])]⟩
def Ou:aw:=⟨3,[],pl 3 0,[],al [.s (.a l1 64) cN,.e (.m (.a l1 60) 2 [l2])]⟩
def Ox:aw:=⟨2,[],pl 2 0,[],al [.i (.p .Is (.a l0 77) cN) (al [.s (.a l0 80) (.tup [cy 49,l1])]) (al [.e (.f (.t (.a l0 74) (cy 104)) [l0,l1])])]⟩
def OC:aw:=⟨2,[],pl 2 1,[],al [.s u2 (.m (.a (.a l0 73) 105) 1 [.g 106]),.i (.dJ false (.p .Is (.a l1 23) cN) [.tst (.f (.g 43) [l2,.g 107]),.eS (.tst (.m l0 108 [l2,l1]))]) (al [.s (.a l1 23) l2]) .skip,.e (.m l0 110 [cy 109,l1,cN])]⟩
def Oz:aw:=⟨4,[],pl 4 2,[],al [.i (.dJ false (.p .NotEq l1 (cy 109)) [.eS (.tst (.m l0 111 [l1,l3]))]) (al [.e (.m l0 112 [l1,l3]),.t9]) .skip,.p4 (.p .Gt (.f (.g 93) [.a l0 76]) (ci 0)) (al [.s u4 (.t (.a l0 76) (.neg (ci 1))),.i (.dJ false (.p .Eq l1 (cy 113)) [.tst (.m l4 114 [l1,l3])]) (al [.e (.m l0 103 [l4,l2]),.t9]) .skip,.s u5 (.m (.a l4 41) 117 [.b .Sub (.a l4 59) (ci 1),.i (.p .Eq l1 (cy 109)) (.g 115) (.g 116)]),.i (.p .IsNot l5 cN) (al [.e (.m l0 119 [l4,l5,.f (.g 118) [l1,l2,l3]]),.t9]) .skip,.i (.tst (.m l4 114 [l1,l3])) (al [.e (.m l0 120 [l2]),.t9]) .skip,.e (.m (.a l0 76) 4 [])]),.e (.m l0 121 [l2])]⟩
def OD:aw:=⟨4,[],pl 4 0,[],al [.s (.cut (.a l1 60) (.a l2 122)) (.list [l3]),.s (.a l1 59) (.a l2 123),.s (.a l1 64) cN]⟩
def Ow:aw:=⟨3,[],pl 3 2,[],al [.s u3 (.a (.a l1 62) 40),.i (.eS (.tst (.a l0 75))) (al [.ret (.m (.a l0 73) 72 [l3,l2])]) .skip,.s u4 (.tup [.a (.a l1 41) 13,.a l1 59]),.i (.p .NotIn l4 (.a l0 29)) (al [.s (.t (.a l0 29) l4) (.f (.g 124) [])]) .skip,.ret (.m (.t (.a l0 29) l4) 125 [.a l0 73,l3,l2])]⟩
def PZ:aw:=⟨3,[],pl 3 0,[],al [.e (.m (.a l1 60) 2 [.a l2 126])]⟩
def PY:aw:=⟨3,[],pl 3 0,[],al [.e (.m (.a l1 60) 4 [])]⟩
def PS:aw:=⟨3,[],pl 3 0,[],al [.e (.m (.a l1 60) 2 [.t (.a (.m (.a l1 61) 127 [.a l2 126]) 51) (.a l2 128)])]⟩
def QA:aw:=⟨3,[],pl 3 0,[],al [.s (.t (.a (.m (.a l1 61) 127 [.a l2 126]) 51) (.a l2 128)) (.m (.a l1 60) 4 [])]⟩
def PR:aw:=⟨3,[],pl 3 0,[],al [.e (.m (.a l1 60) 2 [.m l0 72 [l1,.a l2 126]])]⟩
def PW:aw:=⟨3,[],pl 3 0,[],al [.e (.m (.a l1 60) 2 [.m (.a l0 73) 129 [.m l1 4 [.a l2 126]]])]⟩
def PP:aw:=⟨3,[],pl 3 1,[],al [.s u3 (.m (.a l1 60) 4 []),.e (.m (.a (.t (.a l1 60) (.neg (ci 1))) 21) 2 [l3])]⟩
def PU:aw:=⟨3,[],pl 3 0,[],al [.s (.a l1 59) (.a l2 126)]⟩
def PV:aw:=⟨3,[],pl 3 0,[],al [.e (.m l0 120 [.m (.a l1 60) 4 []])]⟩
def PG:aw:=⟨2,[],pl 2 1,[],al [.fb false u2 l0 (al [.i (.tst (.f (.g 130) [l2,l1])) (al [.ret cT]) .skip]),.ret cF]⟩
def QB:aw:=⟨1,[],pl 1 2,[],al [.s u1 (.list []),.fb false u2 (.rev (.a l0 31)) (al [.e (.m l1 3 [.f (.g 131) [l2]])]),.e (.m l1 2 [l0]),.fb false u2 (.rev (.a l0 30)) (al [.e (.m l1 3 [.f (.g 131) [l2]])]),.ret l1]⟩
def Pw:aw:=⟨1,[],pl 1 0,[],al [.ret (.f (.g 132) [.comp (.a l0 31) (.f (.g 93) [.f (.g 131) [l0]]) [] []])]⟩
def PL:aw:=⟨2,[],pl 2 4,[none],al [.s u2 (.i (.p .Is (.a l1 26) cN) (.list []) (.f (.g 133) [l0,.a l1 26])),.s (.tup [.da 0,u3]) (.tup [.list [],.f (.g 134) [l1]]),.fb true (.tup [u4,u5]) (.f (.g 131) [l1]) (al [.i (.dJ false (.eS (.tst (.f (.g 135) [.da 0,l5]))) [.dJ true (.p .Lt l4 l3) [.eS (.tst (.f (.g 135) [l2,l5]))]]) (al [.e (.m (.da 0) 2 [l5])]) .skip]),.ret (.b .Add (.da 0) (.comp l2 l0 [.eS (.tst (.f (.g 135) [.da 0,l0]))] [0]))]⟩
def PK:aw:=⟨2,[],pl 2 0,[],al [.i (.dJ true (.p .Is (.a l1 34) cN) [.p .NotEq (.t (.a l1 34) (ci 0)) (.a l0 71)]) (al [.s (.a l1 34) (.tup [.a l0 71,.f (.g 136) [l0,l1]])]) .skip,.ret (.t (.a l1 34) (ci 1))]⟩
def PF:aw:=⟨3,[],pl 3 8,[],al [.s u3 (.m (.m (.a l0 137) 1 [.a l1 33,.dict []]) 1 [l2]),.i (.p .IsNot l3 cN) (al [.s u4 (.i (.tst (.f (.g 43) [l3,.g 46])) (cy 138) (cy 33)),.ret (.f (.g 139) [l2,l1,l4,cN,l3,.f (.g 140) [l1,l2]])]) .skip,.s u5 (.m (.m (.a l0 141) 1 [.a l1 33,.dict []]) 1 [l2]),.i (.p .Is l5 cN) (al [.ret cN]) .skip,.s u6 (.m l0 142 [l5]),.p4 (.p .Eq (.a l6 143) (cy 144)) (al [.s u6 (.t (.t (.a l6 145) (ci 0)) (ci 0))]),.s (.tup [u7,u8,u9,u10]) (.a l6 145),.ret (.f (.g 139) [l8,l1,cy 146,l9,XM,.f (.g 140) [l1,l2]])]⟩
def PB:aw:=⟨3,[],pl 3 1,[],al [.s u3 (.m (.a l1 28) 1 [l2]),.i (.dJ false (.p .Is l3 cN) [.p .IsNot (.a l1 33) cN]) (al [.s u3 (.f (.g 147) [l0,l1,l2]),.i (.p .IsNot l3 cN) (al [.s (.t (.a l1 28) l2) l3]) .skip]) .skip,.ret (.i (.dJ true (.p .Is l3 cN) [.p .Eq (.a l3 36) (cy 148)]) cN l3)]⟩
def PD:aw:=⟨3,[],pl 3 2,[],al [.fb false u3 l1 (al [.s u4 (.f (.g 149) [l0,l3,l2]),.i (.p .IsNot l4 cN) (al [.ret (.i (.p .Eq (.a l4 36) (cy 150)) cN l4)]) .skip]),.ret cN]⟩
def PC:aw:=⟨3,[],pl 3 0,[],al [.ret (.f (.g 151) [l0,.f (.g 133) [l0,l1],l2])]⟩
def QE:aw:=⟨1,[],pl 1 0,[],al [.aug l0 71 .Add (ci 1)]⟩
def PO:aw:=⟨2,[],pl 2 0,[],al [.i (.tst (.a l1 17)) (al [.e (.m l0 157 [cy 152,.b .Add (.b .Add (.b .Add (cy 153) (.f (.g 154) [l1])) (cy 155)) (.f (.g 156) [l1])])]) .skip]⟩
def Py:aw:=⟨3,[],pl 3 0,[],al [.e (.f (.g 158) [l0,l1]),.s (.t (.a l1 28) (.a l2 24)) l2,.e (.f (.g 159) [l0])]⟩
def PN:aw:=⟨3,[],pl 3 1,[],al [.i (.dJ true (.eS (.tst (.f (.g 43) [l2,.g 160]))) [.tst (.a l2 25)]) (al [.s u3 (.f (.g 156) [.m l0 161 [l2]]),.e (.m l0 157 [cy 162,.b .Add (.b .Add (cy 163) l3) (cy 164)])]) .skip,.i (.tst (.f (.g 135) [.f (.g 131) [l2],l1])) (al [.e (.m l0 157 [cy 165,cy 166])]) .skip]⟩
def PH:aw:=⟨3,[],pl 3 0,[],al [.e (.f (.g 167) [l0,l1,l2]),.e (.f (.g 158) [l0,l1]),.i (.eS (.tst (.f (.g 135) [.a l1 30,l2]))) (al [.e (.m (.a l1 30) 2 [l2]),.e (.f (.g 159) [l0])]) .skip]⟩
def QD:aw:=⟨3,[],pl 3 0,[],al [.e (.f (.g 167) [l0,l1,l2]),.e (.f (.g 158) [l0,l1]),.i (.eS (.tst (.f (.g 135) [.a l1 31,l2]))) (al [.e (.m (.a l1 31) 2 [l2]),.e (.f (.g 159) [l0])]) .skip]⟩
def OG:aw:=⟨1,[],pl 1 0,[],al [.s (.a l0 68) (ci 0),.s (.a l0 69) (ci 0)]⟩
def OH:aw:=⟨4,[],pl 4 0,[],al [.aug l0 69 .Add (ci 1),.ret (.f (.g 168) [l1,l2,l3])]⟩
def Oc:aw:=⟨1,[],pl 1 0,[],al [.s (.a l0 71) (.neg (ci 1)),.s (.a l0 13) (.neg (ci 1)),.s (.a l0 24) cN,.s (.a l0 54) cN,.s (.a l0 68) (ci 0),.s (.a l0 69) (ci 0)]⟩
def Od:aw:=⟨4,[],pl 4 0,[],al [.i (.dJ false (.p .Eq (.a l0 71) (.a l1 71)) [.p .Eq (.a l0 13) (.a l2 13),.p .Eq (.a l0 24) l3]) (al [.aug l0 68 .Add (ci 1),.ret (.a l0 54)]) .skip,.aug l0 69 .Add (ci 1),.s (.a l0 54) (.f (.g 168) [l1,l2,l3]),.s (.tup [.a l0 71,.a l0 13,.a l0 24]) (.tup [.a l1 71,.a l2 13,l3]),.ret (.a l0 54)]⟩
def OM:aw:=⟨8,[.none,.sy 62,.none,.none],pl 8 0,[],al [.s (.a l0 169) l1,.s (.a l0 24) l2,.s (.a l0 55) l3,.s (.a l0 56) l4,.s (.a l0 143) l5,.s (.a l0 65) l6,.s (.a l0 66) l7,.s (.a l0 170) cF]⟩
def Px:aw:=⟨2,[],pl 2 2,[],al [.i (.eS (.tst (.a l0 75))) (al [.ret (.f (.g 171) [])]) .skip,.s u2 (.tup [.a (.a l1 41) 13,.a l1 59]),.s u3 (.m (.a l0 79) 1 [l2]),.i (.p .Is l3 cN) (al [.s u3 (.f (.g 172) []),.s (.t (.a l0 79) l2) l3]) .skip,.ret l3]⟩
def Pz:aw:=⟨3,[],pl 3 0,[],al [.s (.tup [.a l1 65,.a l1 66]) (.tup [.a l2 65,.a l2 66]),.e (.m l0 92 [l1]),.ret l1]⟩
def QC:aw:=⟨2,[],pl 2 1,[],al [.s u2 (.a (.a l1 62) 40),.ret (.i (.p .Gt (.f (.g 93) [l2]) (ci 0)) (.t l2 (ci 0)) (.m (.a l0 73) 84 [cy 83]))]⟩
def PA:aw:=⟨4,[],pl 4 4,[],al [.s (.tup [u4,u5]) (.tup [.m (.a l0 73) 13 [],.tupS l2 (.a (.a l1 62) 40)]),.s u6 (.f (.g 85) [l2,cN,.list [],cN,l4,l5,l2,cy 173,cF]),.s u7 (.f (.g 89) [l3,.t (.a l3 90) (ci 0),.list [],.f (.g 91) [.b .Mult (.list [cN]) (.f (.g 93) [.a l3 51]),cN],l6]),.s (.a l7 13) l4,.e (.f (.g 174) [l0,l7,.f (.g 175) [l2,cy 173,.list []]])]⟩
def PJ:aw:=⟨4,[],pl 4 4,[],al [.s (.tup [u4,u5]) (.tup [.a l0 73,.i (.tst l3) (cy 173) (cy 176)]),.s (.tup [u6,u7]) (.m l4 178 [.f (.g 177) [l0,l1],l2]),.i (.eS (.tst l6)) (al [.ret cN]) .skip,.i (.dJ true (.eS (.tst (.f (.g 43) [l7,.g 160]))) [.p .NotEq (.a l7 25) l3]) (al [.e (.m l4 157 [cy 162,.b .Add (.b .Add l2 (cy 179)) l5])]) .skip,.ret l7]⟩
def PM:aw:=⟨2,[],pl 2 1,[],al [.i (.dJ true (.eS (.tst (.f (.g 43) [l1,.g 160]))) [.eS (.tst (.a l1 25))]) (al [.s u2 (.f (.g 156) [.m l0 180 [.m l0 161 [l1]]]),.e (.m l0 157 [cy 162,.b .Add (.b .Add (cy 181) l2) (cy 182)])]) .skip,.i (.tst (.m l1 183 [])) (al [.e (.m l0 157 [cy 162,cy 184])]) .skip,.i (.p .Eq (.a l1 33) (cy 185)) (al [.e (.m l0 157 [cy 162,cy 186])]) .skip,.ret l1]⟩
def PQ:aw:=⟨3,[],pl 3 3,[],al [.s u3 (.a l0 73),.s u4 (.i (.tst (.a l2 187)) (.f (.g 188) [l3,.m (.a l1 60) 4 []]) cN),.s u5 (.f (.g 189) [l0,l1,.a l2 126,cT]),.i (.p .Is l5 cN) (al [.s u5 (.m l3 190 [cN,cT,l4]),.e (.m l3 191 [.f (.g 177) [l0,l1],.a l2 126,l5])]) (al [.i (.dJ false (.p .IsNot l4 cN) [.dJ true (.p .Is (.a l5 26) cN) [.eS (.tst (.f (.g 130) [.a l5 26,l4]))]]) (al [.e (.m l3 157 [cy 162,.b .Add (cy 192) (.a l2 126)])]) .skip]),.e (.f (.g 193) [l0,l1,l5,.t (.a (.a l1 41) 81) (.a l2 128)])]⟩
def PX:aw:=⟨3,[],pl 3 1,[],al [.s u3 (.f (.g 189) [l0,l1,.a l2 126,cF]),.i (.p .Is l3 cN) (al [.s u3 (.m (.a l0 73) 190 [cN,cF]),.e (.m (.a l0 73) 191 [.f (.g 177) [l0,l1],.a l2 126,l3])]) .skip,.e (.f (.g 193) [l0,l1,l3,.t (.a (.a l1 41) 81) (.a l2 128)])]⟩
def OJ:aw:=⟨6,[.none,.none,.none,.int 0],pl 6 0,[],al [.s (.a l0 98) l1,.s (.a l0 126) l2,.s (.a l0 128) l3,.s (.a l0 187) l4,.s (.a l0 194) l5]⟩
def Of:aw:=⟨6,[],pl 6 0,[],al [.s (.a l0 36) l1,.s (.a l0 195) l2,.s (.a l0 196) l3,.s (.a l0 123) l4,.s (.a l0 122) l5]⟩
def Og:aw:=⟨2,[],pl 2 0,[],al [.ret (.xU .LtE .Lt (.a l0 195) l1 (.a l0 196))]⟩
def Oh:aw:=⟨9,[],pl 9 0,[],al [.s (.a l0 143) l1,.s (.a l0 24) l2,.s (.a l0 37) l3,.s (.a l0 51) l4,.s (.a l0 94) l5,.s (.a l0 197) l6,.s (.a l0 81) l7,.s (.a l0 90) l8,.s (.a l0 13) cN]⟩
def Oi:aw:=⟨3,[],pl 3 1,[],al [.fb false u3 (.a l0 197) (al [.i (.dJ false (.p .In (.a l3 36) l2) [.tst (.m l3 198 [l1])]) (al [.ret l3]) .skip]),.ret cN]⟩
def OQ:aw:=⟨5,[.none,.none,.int 20000],pl 5 1,[],al [.s (.a l0 137) l1,.s (.a l0 141) (.i (.p .Is l2 cN) (.dict []) l2),.s (.a l0 142) l3,.s (.a l0 199) l4,.s (.a l0 200) (ci 0),.s (.a l0 201) (ci 0),.s (.a l0 202) (ci 8),.s (.a l0 203) (.dict []),.s (.a l0 204) (.dict []),.s (.a l0 71) (ci 0),.s (.a l0 70) (ci 0),.s (.a l0 105) (.dict []),.s (.a l0 205) (.list []),.s (.a l0 206) cF,.s (.a l0 86) (.f (.g 19) [.m l0 13 [],.m l0 84 [cy 83]]),.s (.a l0 206) cT,.fb false u5 (.f (.g 207) [.a l0 204]) (al [.e (.m l0 208 [l5])])]⟩
def O5:aw:=⟨1,[],pl 1 0,[],al [.aug l0 200 .Add (ci 1),.i (.p .Gt (.a l0 200) (.a l0 199)) (al [.raise (.f (.g 209) [.a l0 199])]) .skip]⟩
def O1:aw:=⟨1,[],pl 1 0,[],al [.aug l0 201 .Add (ci 1),.ret (.a l0 201)]⟩
def OR:aw:=⟨2,[],pl 2 1,[],al [.s u2 (.m (.a l0 204) 1 [l1]),.ret (.i (.p .Is l2 cN) (.m l0 210 [l1]) l2)]⟩
def OY:aw:=⟨2,[],[some 1,none,none,none],[some 0],al [.s u1 (.p .NotIn l0 (.g 211)),.s u2 (.f (.g 160) [.m (.da 0) 13 [],cN,l0,l1]),.s (.t (.a (.da 0) 204) l0) l2,.s (.a l2 33) l0,.s u3 (.t (.g 212) l0),.s (.a l2 26) (.i (.p .Is l3 cN) cN (.m (.da 0) 84 [l3])),.s (.a l2 14) (.m (.da 0) 84 [.i (.tst l1) (cy 185) (cy 213)]),.s (.a l2 30) (.comp (.m (.g 214) 1 [l0,.tup []]) (.m (.da 0) 84 [l0]) [] [0]),.i (.tst (.a (.da 0) 206)) (al [.e (.m (.da 0) 208 [l0])]) .skip,.ret l2]⟩
def OW:aw:=⟨2,[],pl 2 0,[],al [.i (.dJ true (.p .In (.b .Add l1 (cy 215)) (.a l0 137)) [.p .In (.b .Add l1 (cy 215)) (.a l0 141)]) (al [.e (.f (.g 216) [l0,.t (.a l0 204) l1])]) .skip]⟩
def O0:aw:=⟨6,[.none,.none,.none],pl 6 3,[],al [.s u6 (.m l0 84 [.i (.tst l2) (cy 185) (cy 213)]),.i (.dJ false (.tst l2) [.p .Is l3 cN]) (al [.s u3 (.m l0 84 [cy 83])]) .skip,.s u7 (.i (.dJ true (.p .Is l4 cN) [.tst (.f (.g 130) [l4,.m l0 84 [cy 83]])]) cN l4),.s u8 (.f (.g 160) [.m l0 13 [],l6,l1,l2,l3,l7]),.s (.a l8 32) l5,.ret l8]⟩
def O4:aw:=⟨2,[],pl 2 0,[],al [.ret (.f (.g 217) [.m l0 13 [],.m l0 84 [cy 218],l1])]⟩
def OX:aw:=⟨2,[],pl 2 0,[],al [.ret (.f (.g 219) [.m l0 13 [],.m l0 84 [cy 220],.f (.g 207) [l1]])]⟩
def OT:aw:=⟨3,[],pl 3 0,[],al [.ret (.f (.g 107) [.m l0 13 [],.m l0 84 [l1],.m l0 20 [l2]])]⟩
def OU:aw:=⟨3,[],pl 3 0,[],al [.raise (.f (.g 100) [.m l0 221 [l1,l2]])]⟩
def OZ:aw:=⟨2,[],pl 2 1,[],al [.i (.dJ true (.eS (.tst (.f (.g 43) [l1,.g 19]))) [.tst (.a l1 17)]) (al [.s u2 (.f (.g 156) [.m l0 180 [.m l0 161 [l1]]]),.e (.m l0 157 [cy 152,.b .Add (.b .Add (.b .Add (cy 153) l2) (cy 155)) (.f (.g 222) [l1])])]) .skip]⟩
def O2:aw:=⟨3,[],pl 3 0,[],al [.i (.p .In l2 (.a l1 29)) (al [.ret (.tup [cT,.t (.a l1 29) l2])]) .skip,.i (.dJ false (.p .In l2 (.g 212)) [.p .Eq (.a l1 33) (cy 83)]) (al [.ret (.tup [cT,.m l0 84 [l2]])]) .skip,.ret (.tup [cF,cN])]⟩
def OV:aw:=⟨3,[],pl 3 4,[],al [.s u3 (.m l0 84 [cy 83]),.fb false u4 l1 (al [.s u5 (.i (.eS (.tst (.f (.g 130) [l4,l3]))) (.m l0 178 [l4,l2]) (.tup [cF,cN])),.i (.tst (.t l5 (ci 0))) (al [.ret l5]) .skip]),.s u6 (.i (.p .Gt (.f (.g 93) [l1]) (ci 0)) (.f (.g 133) [l0,.t l1 (ci 0)]) (.list [])),.fb false u4 (.b .Add l6 (.list [l3])) (al [.s u5 (.m l0 178 [l4,l2]),.i (.tst (.t l5 (ci 0))) (al [.ret l5]) .skip]),.ret (.tup [cF,cN])]⟩
def OS:aw:=⟨3,[],pl 3 2,[],al [.s (.tup [u3,u4]) (.m l0 223 [l1,l2]),.i (.eS (.tst l3)) (al [.e (.m l0 157 [cy 224,.b .Add (cy 225) l2])]) .skip,.ret l4]⟩
def O3:aw:=⟨4,[],pl 4 1,[],al [.i (.eS (.tst (.f (.g 43) [l1,.g 160]))) (al [.e (.m l0 157 [cy 162,.b .Add (.f (.g 222) [l1]) (cy 226)])]) .skip,.e (.m l0 227 [l1]),.s (.t (.a l1 29) l2) l3,.s u4 (.xN false (.f (.g 43) [l3,.g 160]) [.p .Is (.a l3 24) cN,.nt (.m l3 183 [])]),.i (.dJ false (.tst l4) [.eS (.tst (.f (.g 228) [l3,l1]))]) (al [.s (.a l3 24) l2,.s (.a l3 27) (.i (.tst (.f (.g 130) [l1,.m l0 84 [cy 83]])) cN l1)]) .skip,.aug l0 70 .Add (ci 1)]⟩
def PI:aw:=⟨2,[],pl 2 0,[],al [.p4 (.p .IsNot l1 cN) (al [.i (.tst (.f (.g 130) [l0,l1])) (al [.ret cT]) .skip,.s u1 (.a l1 27)]),.ret cF]⟩
def Ps:aw:=⟨3,[],pl 3 0,[],al [.s (.t l0 (cy 94)) (.b .Add (.t l0 (cy 94)) (.list [.f (.g 229) [cy 230,l1],.f (.g 229) [cy 231,.b .Add l2 (ci 4)],.f (.g 229) [cy 4],.f (.g 229) [cy 232,ci 0],.f (.g 229) [cy 2]])),.e (.m (.t l0 (cy 197)) 2 [.f (.g 233) [cy 234,l2,.b .Add l2 (ci 1),.b .Add l2 (ci 2),ci 1]])]⟩
def O7:aw:=⟨4,[],pl 4 2,[],al [.s u4 (.dict [cy 94,.list [.f (.g 229) [cy 207,ci 0]],cy 197,.list []]),.e (.f (.g 235) [l4,cy 236,ci 1]),.e (.f (.g 235) [l4,cy 237,ci 6]),.s (.t l4 (cy 94)) (.b .Add (.t l4 (cy 94)) (.list [.f (.g 229) [cy 238,cy 239],.f (.g 229) [cy 2]])),.fb false u5 l2 (al [.s (.t l4 (cy 94)) (.b .Add (.t l4 (cy 94)) (.list [l5,.f (.g 229) [cy 2]]))]),.ret (.f (.g 240) [l0,l1,cN,.list [],.b .Add (.t l4 (cy 94)) (.list [.f (.g 229) [cy 241]]),.t l4 (cy 197),l3,.list [ci 0]])]⟩
def Pr:aw:=⟨0,[],pl 0 6,[],al [.s u0 (.f (.g 242) [cy 173,cy 243,.list [],.list []]),.s u1 (.f (.g 242) [cy 173,cy 244,.list [.f (.g 229) [cy 173,cy 243,ci 0,cF]],.list [l0]]),.s (.tup [u2,u3]) (.tup [.f (.g 242) [cy 173,cy 245,.list [],.list []],.f (.g 242) [cy 173,cy 246,.list [],.list []]]),.s u4 (.dict [cy 94,.list [.f (.g 229) [cy 207,ci 0],.f (.g 229) [cy 247,ci 0,ci 0],.f (.g 229) [cy 248],.f (.g 229) [cy 249,ci 0,ci 0],.f (.g 229) [cy 207,ci 0]],cy 197,.list []]),.e (.f (.g 235) [l4,cy 236,ci 5]),.e (.f (.g 235) [l4,cy 237,ci 10]),.s (.t l4 (cy 197)) (.comp (.t l4 (cy 197)) (.f (.g 233) [.a l0 36,.a l0 195,.a l0 196,.a l0 123,ci 2]) [] []),.s u5 (.b .Add (.t l4 (cy 94)) (.list [.f (.g 229) [cy 176,cy 246,ci 2],.f (.g 229) [cy 2],.f (.g 229) [cy 173,cy 244,ci 0,cF],.f (.g 229) [cy 2]])),.s u5 (.b .Add l5 (.list [.f (.g 229) [cy 250],.f (.g 229) [cy 173,cy 245,ci 1,cT],.f (.g 229) [cy 2],.f (.g 229) [cy 2],.f (.g 229) [cy 4]])),.s u5 (.b .Add l5 (.list [.f (.g 229) [cy 251,ci 2],.f (.g 229) [cy 249,ci 0,ci 0],.f (.g 229) [cy 241]])),.ret (.f (.g 240) [cy 87,cy 86,cN,.list [cy 252],l5,.t l4 (cy 197),.list [l1,l2,l3],.list [ci 0]])]⟩
def Pu:aw:=⟨1,[],pl 0 4,[some 0],al [.sY 0 0 [0],.sY 1 1 [0],.sY 2 2 [0],.sY 3 3 [],.ret (.dict [cy 230,.g 253,cy 231,.g 254,cy 4,.g 255,cy 232,.g 256,cy 2,.g 257,cy 207,.g 258,cy 249,.g 259,cy 247,.g 260,cy 241,.g 261,cy 173,.g 262,cy 176,.g 263,cy 238,l0,cy 248,l1,cy 251,l2,cy 250,l3])]⟩
def Pp:aw:=⟨2,[],pl 2 1,[],al [.s u2 (.m l0 84 [cy 83]),.i (.p .Eq l1 (cy 264)) (al [.ret l2]) .skip,.ret (.t (.m l0 178 [.i (.p .Eq l1 (cy 243)) (.f (.g 265) [l0,cy 244]) l2,l1]) (ci 1))]⟩
def O8:aw:=⟨2,[],pl 2 5,[],al [.s (.tup [u2,u3,u4,u5]) l1,.s u6 (.f (.g 265) [l0,l3]),.i (.p .Eq l2 (cy 266)) (al [.e (.m l0 191 [l6,l4,l5])]) (al [.i (.p .Eq l2 (cy 267)) (al [.e (.f (.g 267) [l0,l6,.f (.g 268) [cy 239,l6,cy 146,cN,l5]])]) (al [.i (.p .Eq l2 (cy 269)) (al [.e (.f (.g 269) [l0,l6,.f (.g 265) [l0,cy 246]])]) (al [.i (.p .Eq l2 (cy 270)) (al [.e (.f (.g 270) [l0,l6,.f (.g 265) [l0,cy 246]])]) .skip])])])]⟩
def jn:aw:=⟨1,[],pl 1 6,[],al [.s u1 (.list [.tup [cy 266,cy 264,cy 236,ci 1]]),.fb false u2 (.f (.g 52) [.f (.g 271) [ci 5,.f (.g 93) [l0]]]) (al [.cut 11,.s (.tup [u3,u4]) (.tup [.b .Mod (.f (.g 272) [.t l0 l2]) (.b .Pow (ci 10) (ci 6)),.b .Add (ci 10) l2]),.s (.tup [u5,u6]) (.tup [.b .Mod l3 (ci 7),.t (.list [cy 244,cy 243,cy 245,cy 264,cy 246]) (.b .Mod (.b .FloorDiv l3 (ci 7)) (ci 5))]),.i (.p .Lt l5 (ci 3)) (al [.e (.m l1 2 [.tup [cy 266,l6,.t (.list [cy 236,cy 237,cy 236]) l5,l4]])]) (al [.i (.p .Eq l5 (ci 3)) (al [.e (.m l1 2 [.tup [cy 150,cy 264,cy 236,ci 0]])]) (al [.i (.p .Eq l5 (ci 4)) (al [.e (.m l1 2 [.tup [cy 267,l6,cy 239,l4]])]) (al [.e (.m l1 2 [.tup [.t (.list [cy 269,cy 270]) (.b .Sub l5 (ci 5)),.t (.list [cy 244,cy 243,cy 245]) (.b .Mod (.b .FloorDiv l3 (ci 7)) (ci 3)),cy 236,ci 0]])])])])]),.cut 12,.ret (.b .Add l1 (.b .Mult (.list [.tup [cy 150,cy 264,cy 236,ci 0]]) (.f (.g 45) [.p .Eq l0 (.list [])])))]⟩
def Pm:aw:=⟨2,[],pl 2 3,[none],al [.s u2 (.t l0 l1),.s u3 (.i (.p .Eq l1 (cy 245)) (.f (.g 273) [l0,cy 244]) (.list [])),.s (.da 0) (.b .Mult (.list [cy 246]) (.f (.g 45) [.t l2 (cy 270)])),.s u4 (.b .Mult (.list [cy 246]) (.f (.g 45) [.xN false (.t l2 (cy 269)) [.nt (.t l2 (cy 270)),.p .NotIn (cy 246) l3]])),.ret (.b .Add (.b .Add (.b .Add (.da 0) (.list [l1])) l4) (.comp l3 l0 [.p .NotIn l0 (.da 0)] [0]))]⟩
def Pt:aw:=⟨3,[],pl 3 1,[],al [.fb false u3 (.b .Add (.b .Add l1 (.i (.p .NotEq l1 (.list [])) (.f (.g 273) [l0,.t l1 (ci 0)]) (.list []))) (.list [cy 264])) (al [.i (.p .In l2 (.t (.t l0 l3) (cy 266))) (al [.ret (.t (.t (.t l0 l3) (cy 266)) l2)]) .skip]),.ret cN]⟩
def O9:aw:=⟨2,[],pl 2 1,[],al [.fb false u2 (.b .Add (.f (.g 273) [l0,l1]) (.list [cy 264])) (al [.i (.p .IsNot (.t (.t l0 l2) (cy 239)) cN) (al [.ret (.t (.t l0 l2) (cy 239))]) .skip]),.ret (ci 0)]⟩
def n8:aw:=⟨5,[],pl 5 4,[],al [.s u5 (.list []),.fb false u6 l4 (al [.cut 5,.s u7 (.f (.g 274) [l0,l3,l6]),.s u8 (.tup [l2,l6]),.s (.t l1 (cy 68)) (.b .Add (.t l1 (cy 68)) (.f (.g 45) [.p .Eq (.m (.t l1 (cy 34)) 1 [l8]) (.t l0 (cy 275))])),.i (.p .IsNot l7 cN) (al [.s (.t (.t l1 (cy 34)) l8) (.t l0 (cy 275))]) .skip,.e (.m l5 2 [.i (.p .Is l7 cN) (ci 0) l7])]),.cut 5,.ret l5]⟩
def O6:aw:=⟨4,[],pl 4 1,[],al [.s u4 (.tup [l2,cy 239]),.s (.t l1 (cy 276)) (.b .Add (.t l1 (cy 276)) (.f (.g 45) [.p .Eq (.m (.t l1 (cy 34)) 1 [l4]) (.t (.t l0 (cy 275)) (ci 1))])),.s (.t (.t l1 (cy 34)) l4) (.t (.t l0 (cy 275)) (ci 1)),.ret (.f (.g 277) [l0,l3])]⟩
def Po:aw:=⟨2,[],pl 2 0,[],al [.i (.eS (.tst (.t (.t l0 l1) (cy 204)))) (al [.s (.tup [.t (.t l0 l1) (cy 204),.t l0 (cy 275)]) (.tup [cT,.tup [.b .Add (.t (.t l0 (cy 275)) (ci 0)) (ci 1),.t (.t l0 (cy 275)) (ci 1)]])]) .skip]⟩
def Pv:aw:=⟨2,[],pl 2 6,[],al [.s (.tup [u2,u3,u4,u5]) l1,.s (.tup [u6,u7]) (.t l0 (cy 275)),.i (.p .Eq l2 (cy 266)) (al [.s (.tup [.t (.t (.t l0 l3) (cy 266)) l4,.t l0 (cy 275)]) (.tup [l5,.tup [.b .Add l6 (ci 1),l7]])]) (al [.i (.p .Eq l2 (cy 267)) (al [.s (.tup [.t (.t l0 l3) (cy 239),.t l0 (cy 275)]) (.tup [l5,.tup [l6,.b .Add l7 (ci 1)]])]) (al [.i (.dJ false (.p .In l2 (.tup [cy 269,cy 270])) [.eS (.tst (.t (.t l0 l3) l2))]) (al [.s (.tup [.t (.t l0 l3) l2,.t l0 (cy 275)]) (.tup [cT,.tup [l6,.b .Add l7 (ci 1)]])]) .skip])])]⟩
def n7:aw:=⟨1,[],pl 1 7,[],al [.s u1 (.dict [cy 275,.tup [ci 0,ci 0]]),.fb false u2 (.b .Add (.g 278) (.list [cy 264])) (al [.s (.t l1 l2) (.dict [cy 266,.dict [],cy 239,cN,cy 269,cF,cy 270,cF,cy 204,cF])]),.s (.tup [u3,u4]) (.tup [.dict [cy 68,ci 0,cy 276,ci 0,cy 34,.dict []],.list []]),.fb false u5 l0 (al [.cut 3,.e (.f (.g 279) [l1,l5]),.cut 4,.s u6 (.f (.g 280) [l1,l3,cy 264,.list [],.list [cy 236,cy 237]]),.cut 4,.e (.f (.g 281) [l1,cy 246]),.e (.m l6 2 [.b .Add (.f (.g 280) [l1,l3,cy 246,.list [cy 246],.list [cy 236,cy 237]]) (.list [.f (.g 282) [l1,l3]])]),.cut 4,.e (.f (.g 281) [l1,cy 244]),.s u7 (.b .Add (.f (.g 280) [l1,l3,cy 244,.list [cy 244],.list [cy 236,cy 237]]) (.list [.f (.g 283) [l1,l3,cy 244,cy 244]])),.cut 10,.e (.f (.g 281) [l1,cy 243]),.e (.m l7 2 [.b .Add (.f (.g 280) [l1,l3,cy 243,.list [cy 243,cy 244],.list [cy 236,cy 237]]) (.list [.f (.g 283) [l1,l3,cy 243,cy 243]])]),.e (.m l6 2 [l7]),.cut 4,.e (.f (.g 281) [l1,cy 245]),.e (.m l6 2 [.b .Add (.f (.g 280) [l1,l3,cy 245,.list [cy 245],.list [cy 236,cy 237]]) (.list [.f (.g 283) [l1,l3,cy 245,cy 245]])]),.cut 4,.e (.m l4 2 [l6])]),.cut 6,.ret (.tup [l4,l3])]⟩
def Pn:aw:=⟨2,[],pl 2 1,[],al [.s u2 (.tup [cy 246,cy 239]),.s (.t l1 (cy 276)) (.b .Add (.t l1 (cy 276)) (.f (.g 45) [.p .Eq (.m (.t l1 (cy 34)) 1 [l2]) (.t (.t l0 (cy 275)) (ci 1))])),.s (.t (.t l1 (cy 34)) l2) (.t (.t l0 (cy 275)) (ci 1)),.ret (.i (.p .Is (.t (.t l0 (cy 246)) (cy 239)) cN) (ci 0) (.t (.t l0 (cy 246)) (cy 239)))]⟩
def Pq:aw:=⟨1,[],pl 1 0,[],al [.ret (.i (.tst (.f (.g 43) [l0,.g 45])) l0 (.comp (.a l0 21) (.f (.g 284) [l0]) [] []))]⟩
def n9:aw:=⟨1,[],pl 1 8,[],al [.s u1 (.f (.g 285) [l0]),.cut 7,.s (.tup [u2,u3]) (.f (.g 286) [l1]),.cut 8,.fb false u4 (.i (.p .Gt (.f (.g 93) [l0]) (ci 1)) (.list [cT,cF]) (.list [cT])) (al [.cut 9,.s u5 (.dict [cy 287,l1,cy 288,.neg (ci 1),cy 276,.list []]),.s u6 (.f (.g 289) [.f (.g 290) [.dict []],.f (.g 291) [l5],l4]),.e (.m l6 293 [.f (.g 292) []]),.cut 2,.s (.tup [u7,u8]) (.m l6 294 []),.i (.dJ true (.p .NotEq l7 (cy 49)) [.p .NotEq (.f (.g 284) [l8]) l2]) (al [.ret cF]) .skip,.i (.tst l4) (al [.i (.p .NotEq (.f (.g 132) [.comp (.m (.a l6 29) 5 []) (.a l0 68) [] []]) (.t l3 (cy 68))) (al [.ret cF]) .skip,.i (.dJ true (.p .NotEq (.f (.g 132) [.comp (.m (.a l6 79) 5 []) (.a l0 68) [] []]) (.t l3 (cy 276))) [.p .NotEq (.f (.g 93) [.t l5 (cy 276)]) (.b .Mult (ci 4) (.f (.g 93) [l1]))]) (al [.ret cF]) .skip]) (al [.i (.dJ true (.p .NotEq (.a l6 79) (.dict [])) [.p .NotEq (.a l6 29) (.dict [])]) (al [.ret cF]) .skip])]),.ret cT]⟩
def XF:aw:=⟨3,[],pl 3 2,[],al [.s u3 (.f (.g 295) [l0,l1]),.e (.m (.t (.da 0) (cy 276)) 2 [l3]),.s u4 (.m l3 125 [.a l0 73,.a (.a l1 62) 53,.a l2 126]),.e (.m (.a l1 60) 2 [.i (.p .Is l4 cN) (ci 0) (.a l4 38)])]⟩
def vP:aw:=⟨3,[],pl 3 0,[],al [.s (.t (.da 0) (cy 288)) (.b .Add (.t (.da 0) (cy 288)) (ci 1)),.e (.f (.g 296) [.a l0 73,.t (.t (.da 0) (cy 287)) (.t (.da 0) (cy 288))])]⟩
def XG:aw:=⟨3,[],pl 3 0,[],al [.i (.p .Lt (.b .Add (.t (.da 0) (cy 288)) (ci 1)) (.f (.g 93) [.t (.da 0) (cy 287)])) (al [.s (.a l1 59) (.a l2 126)]) .skip]⟩
def XH:aw:=⟨3,[],pl 3 0,[],al [.e (.m (.a l1 60) 2 [.t (.m (.a l0 73) 178 [.m (.a l0 73) 84 [cy 83],cy 244]) (ci 1)])]⟩
noncomputable def KY:bU:=⟨36,[(0,36)],[9],[],true⟩
noncomputable def K3:bU:=⟨87,[(0,87)],[9,12],[39],true⟩
noncomputable def K8:bU:=⟨108,[(0,108)],[13,14,15,16,17,18],[],false⟩
noncomputable def K7:bU:=⟨130,[(0,130)],[13,14,15,16,17,18,20],[111],false⟩
noncomputable def KZ:bU:=⟨150,[(0,150)],[13,14,15,16,17,18,21],[111],false⟩
noncomputable def KW:bU:=⟨249,[(0,249)],[13,14,15,16,17,18,22,23],[111],false⟩
noncomputable def K1:bU:=⟨289,[(0,289),(183,296)],[13,14,15,16,17,18,24,25,26,27,28,29,30,31,32,33,34],[111],false⟩
noncomputable def KV:bU:=⟨316,[(0,316)],[24,14,36,37,38,39,40,41],[],false⟩
noncomputable def K9:bU:=⟨450,[(0,450)],[36,49,50],[],false⟩
noncomputable def K5:bU:=⟨472,[(0,472),(127,479)],[51,27],[],false⟩
noncomputable def KQ:bU:=⟨501,[(0,501)],[53,54,55,56,13,40,57,36,58,39],[],false⟩
noncomputable def KX:bU:=⟨529,[(0,529),(4,536)],[41,59,60,61,62,13,63,64,65,66,50,39],[],false⟩
noncomputable def KU:bU:=⟨564,[(0,564),(125,569)],[67,40,49,68,69],[],false⟩
noncomputable def K0:bU:=⟨591,[(0,591),(13,598),(82,605),(293,610),(92,617),(294,624),(120,631),(103,638),(102,645),(99,652),(110,666),(119,673),(72,699)],[73,74,75,76,77,78,79,29,80],[],false⟩
noncomputable def K2:bU:=⟨919,[(0,919),(125,926)],[68,69],[],false⟩
noncomputable def KR:bU:=⟨947,[(0,947),(125,954)],[71,13,24,54,68,69],[],false⟩
noncomputable def K6:bU:=⟨976,[(0,976)],[169,24,55,56,143,65,66,170],[],false⟩
noncomputable def K4:bU:=⟨1061,[(0,1061)],[98,126,128,187,194],[],false⟩
noncomputable def KS:bU:=⟨1089,[(0,1089),(198,1096)],[36,195,196,123,122],[],false⟩
noncomputable def KT:bU:=⟨1117,[(0,1117),(117,1124)],[143,24,37,51,94,197,81,90,13],[],false⟩
noncomputable def La:bU:=⟨1166,[(0,1166),(97,1173),(13,1187),(84,1208),(210,1213),(208,1220),(190,1228),(20,1270),(129,1277),(221,1333),(157,1340),(227,1347),(178,1368),(223,1375),(72,1382),(191,1403)],[137,141,142,199,200,201,202,203,204,71,70,105,205,206,86],[],false⟩
def yi:BS aw:=.node 898 PH (.node 645 Ox (.node 479 OL (.node 289 OE (.node 130 ON (.node 87 OI (lf 36 Op) (lf 108 OO)) (.node 249 Om (lf 150 Oq) .nil)) (.node 345 QF (.node 316 Ol (lf 296 OF) (lf 338 QG)) (.node 472 OK (lf 450 OP) .nil))) (.node 598 OA (.node 564 Oj (.node 529 On (lf 501 Oe) (lf 536 Oo)) (.node 591 Os (lf 569 Ok) .nil)) (.node 624 sX (.node 610 Ov (lf 605 Ot) (lf 617 OB)) (.node 638 Ou (lf 631 Oy) .nil)))) (.node 776 PG (.node 727 PS (.node 699 Ow (.node 666 Oz (lf 652 OC) (lf 673 OD)) (.node 720 PY (lf 713 PZ) .nil)) (.node 755 PP (.node 741 PR (lf 734 QA) (lf 748 PW)) (.node 769 PV (lf 762 PU) .nil))) (.node 842 PD (.node 800 PK (.node 788 Pw (lf 783 QB) (lf 793 PL)) (.node 835 PB (lf 828 PF) .nil)) (.node 863 PO (.node 856 QE (lf 849 PC) .nil) (.node 891 PN (lf 877 Py) .nil))))) (.node 1277 OX (.node 1046 PX (.node 997 Px (.node 947 Oc (.node 919 OG (lf 905 QD) (lf 926 OH)) (.node 976 OM (lf 954 Od) .nil)) (.node 1025 PJ (.node 1011 QC (lf 1004 Pz) (lf 1018 PA)) (.node 1039 PQ (lf 1032 PM) .nil))) (.node 1173 O5 (.node 1117 Oh (.node 1089 Of (lf 1061 OJ) (lf 1096 Og)) (.node 1166 OQ (lf 1124 Oi) .nil)) (.node 1220 OW (.node 1208 OR (lf 1187 O1) (lf 1213 OY)) (.node 1270 O4 (lf 1228 O0) .nil)))) (.node 1458 O8 (.node 1403 O3 (.node 1368 O2 (.node 1340 OU (lf 1333 OT) (lf 1347 OZ)) (.node 1382 OS (lf 1375 OV) .nil)) (.node 1437 Pr (.node 1425 Ps (lf 1417 PI) (lf 1432 O7)) (.node 1451 Pp (lf 1444 Pu) .nil))) (.node 1505 Po (.node 1484 O9 (.node 1470 Pm (lf 1465 jn) (lf 1477 Pt)) (.node 1498 O6 (lf 1491 n8) .nil)) (.node 1526 Pn (.node 1519 n7 (lf 1512 Pv) .nil) (.node 1536 n9 (lf 1531 Pq) .nil)))))
def xT:BS aw:=.node 2 XG (.node 1 vP (lf 0 XF) .nil) (lf 3 XH)
noncomputable def kt:BS bU:=.node 511 KQ (.node 252 KW (.node 111 K8 (.node 90 K3 (lf 39 KY) .nil) (.node 153 KZ (lf 133 K7) .nil)) (.node 453 K9 (.node 327 KV (lf 299 K1) .nil) (lf 482 K5))) (.node 986 K6 (.node 702 K0 (.node 572 KU (lf 546 KX) .nil) (.node 957 KR (lf 929 K2) .nil)) (.node 1134 KT (.node 1099 KS (lf 1071 K4) .nil) (lf 1406 La)))
noncomputable def zU:BS SO:=.node 1144 (.seq true [.sy 298]) (.node 1140 (.dict [(.sy 301,.none),(.sy 83,.sy 301),(.sy 213,.sy 83),(.sy 185,.sy 213),(.sy 298,.none),(.sy 299,.none),(.sy 300,.none),(.sy 302,.sy 83),(.sy 303,.sy 83),(.sy 304,.sy 83),(.sy 305,.sy 83),(.sy 306,.sy 305),(.sy 218,.sy 83),(.sy 307,.sy 83),(.sy 220,.sy 83),(.sy 308,.sy 83),(.sy 309,.sy 83),(.sy 310,.sy 83),(.sy 311,.sy 83),(.sy 312,.sy 83),(.sy 313,.sy 312),(.sy 314,.sy 313),(.sy 315,.sy 312),(.sy 316,.sy 312),(.sy 165,.sy 316),(.sy 317,.sy 165),(.sy 318,.sy 316),(.sy 319,.sy 316),(.sy 320,.sy 319),(.sy 321,.sy 319),(.sy 322,.sy 316),(.sy 224,.sy 316),(.sy 323,.sy 224),(.sy 324,.sy 316),(.sy 325,.sy 324),(.sy 326,.sy 316),(.sy 327,.sy 316),(.sy 152,.sy 327),(.sy 162,.sy 316),(.sy 328,.sy 316)]) (.node 1139 (.seq true [.sy 298,.sy 299,.sy 300]) (lf 433 (.seq true [.sy 234,.sy 297])) .nil) (lf 1143 (.dict [(.sy 83,.au 1144),(.sy 305,.au 1145),(.sy 218,.au 1146),(.sy 307,.au 1147),(.sy 220,.au 1148),(.sy 308,.au 1149),(.sy 309,.au 1150)]))) (.node 1148 (.seq true [.sy 300]) (lf 1146 (.seq true [.sy 299])) (lf 1418 (.seq false [.sy 244,.sy 243,.sy 245,.sy 246])))
noncomputable def ym:BS AV:=.node 212 (.au 1140) (.node 132 (.bl .sum) (.node 89 (.au 546) (.node 44 (.ty .bool) (.node 10 (.au 39) (.node 8 (.ty .I8) (lf 6 (.ty .enumerate)) .nil) (.node 43 (.bl .isinstance) (lf 19 (.au 111)) .nil)) (.node 48 (.au 338) (.node 46 (.ty .str) (lf 45 (.ty .int)) .nil) (.node 85 (.au 511) (lf 52 (.ty .range)) .nil))) (.node 115 (.au 433) (.node 100 (.au 90) (.node 93 (.bl .len) (lf 91 (.au 482)) .nil) (.node 107 (.au 252) (lf 106 (.sy 329)) .nil)) (.node 130 (.au 345) (.node 124 (.au 572) (lf 118 (.au 453)) .nil) (lf 131 (.au 783))))) (.node 168 (.au 849) (.node 149 (.au 835) (.node 135 (.au 776) (.node 134 (.au 788) (lf 133 (.au 800)) .nil) (.node 147 (.au 828) (lf 136 (.au 793)) .nil)) (.node 159 (.au 856) (.node 158 (.au 863) (lf 151 (.au 842)) .nil) (.node 167 (.au 891) (lf 160 (.au 299)) .nil))) (.node 188 (.au 1032) (.node 174 (.au 1004) (.node 172 (.au 957) (lf 171 (.au 929)) .nil) (.node 177 (.au 1011) (lf 175 (.au 986)) .nil)) (.node 207 (.ty .list) (.node 193 (.au 1018) (lf 189 (.au 1025)) .nil) (lf 211 (.au 1139)))))) (.node 268 (.au 327) (.node 255 (.au 720) (.node 233 (.au 1099) (.node 219 (.au 153) (.node 217 (.au 133) (lf 214 (.au 1143)) .nil) (.node 229 (.au 1071) (lf 228 (.au 1417)) .nil)) (.node 242 (.au 1432) (.node 240 (.au 1134) (lf 235 (.au 1425)) .nil) (.node 254 (.au 762) (lf 253 (.au 741)) .nil))) (.node 261 (.au 769) (.node 258 (.au 748) (.node 257 (.au 755) (lf 256 (.au 713)) .nil) (.node 260 (.au 734) (lf 259 (.au 727)) .nil)) (.node 265 (.au 1451) (.node 263 (.au 1046) (lf 262 (.au 1039)) .nil) (lf 267 (.au 877))))) (.node 282 (.au 1526) (.node 274 (.au 1477) (.node 271 (.bl .min) (.node 270 (.au 905) (lf 269 (.au 898)) .nil) (.node 273 (.au 1470) (lf 272 (.bl .abs)) .nil)) (.node 279 (.au 1512) (.node 278 (.au 1418) (lf 277 (.au 1484)) .nil) (.node 281 (.au 1505) (lf 280 (.au 1491)) .nil))) (.node 290 (.au 1406) (.node 285 (.au 1465) (.node 284 (.au 1531) (lf 283 (.au 1498)) .nil) (.node 289 (.au 702) (lf 286 (.au 1519)) .nil)) (.node 295 (.au 997) (.node 292 (.au 1437) (lf 291 (.au 1444)) .nil) (lf 296 (.au 1458))))))
def ajE:Zb Stmt:=fBody (iw 106)
def rj(j:Zc):Stmt:=(ajE[j]?).getD default
def vo(nm qn:Str)(st:Stmt):fN:=⟨nm,qn,fArgs st,fBody st,fScope st⟩
def oi:Zb fN:=[vo "ask" "_law_table.<locals>.ask" (rj 0),vo "turn" "_law_table.<locals>.turn" (rj 1),vo "more" "_law_table.<locals>.more" (rj 2),vo "heir" "_law_table.<locals>.heir" (rj 3)]
def S0:SE:=⟨yi.get,xT.get,kt.get,zU.get,aB wm,ym.get,aB oi,mQ⟩
def wB(l c:Zc)(j:Zc)(r:Zd Str):Zd Str:=ae (ak (Zi (rj j).pos.line l) (Zi (rj j).pos.col c)) (aa (aB oi j) none λf=>some f.qual) r
def qaV(l c:Zc):Zd Str:=wB l c 0 (wB l c 1 (wB l c 2 (wB l c 3 none)))
end Mine
end
noncomputable section
open PySem PySem.W PyProof.Rows
namespace Mine
abbrev lj:Zd Zf:=some (.ref 6)
theorem cK{w:Yo}{i n k:Zc}{s s':SharedT}{p p':Pos}{N:Zc}{r:Zs}(h:Runs w i n k s p s' p')
  (hk:topRun treeTable pr w 11 lj N s'.abs (restOf (pr.main.body.drop (i+n)) o0 j6 p' [topFrame P0])=some r):
  topRun treeTable pr w 11 lj (k+N) s.abs (restOf (pr.main.body.drop i) o0 j6 p [topFrame P0])=some r:=by
 have e:pr.main.body.drop i=wW i n++pr.main.body.drop (i+n):=by
  unfold wW
  rw[←List.drop_drop]
  exact(Th n _).symm
 rw[e]
 exact piece_app (segRun_of h) hk
abbrev wL(w:Yo)(os:Ye):Zs:=(rH (uw w.params) 1537 2643 os).abs
theorem fin_run(w:Yo)(os:Ye):topRun treeTable pr w 11 lj 2 (wL w os) (restOf (pr.main.body.drop 121) o0 j6 ⟨1098,0,1115,15⟩ [topFrame P0])=some (wL w os):=by
 rw[show pr.main.body.drop 121=[] from by kernel_rfl]
 refine piece_nil ?_
 kernel_rfl
theorem adF(w:Yo)(os:Ye):topGo treeTable pr w 11 lj 12 ⟨Wn w.params,#[],S8,Sm,os⟩ (topStub pr)=some ((rH (L0 w.params) 15 187 os).abs,⟨denote treeTable j6,j6,P0,[topFrame P0]⟩):=by
 rw[PySem.W.Fast.te15667345088766844465,PySem.W.Fast.te11892475500146522536,S2]
 kernel_rfl
theorem Kx(w:Yo)(os:Ye):segRun treeTable pr w 11 lj 1 1 (rH (L0 w.params) 15 187 os).abs (blockOf pr.main.body o0 j6 P0 [topFrame P0])=some (.next,(rH (L0 w.params) 15 187 os).abs,j6,P0):=by
 rw[PySem.W.Fast.te14374325043358763698]
 kernel_rfl
theorem KA(w:Yo)(os:Ye):topRun treeTable pr w 11 lj (259+(214+(246+(255+(222+(229+(250+(249+(343+(253+(267+(250+(252+(293+(391+(371+(268+(260+(275+(304+(254+(754+(378+(376+(341+(257+(270+(375+(179+(265+(263+(329+(759+(146+(1366+(369+(256+2))))))))))))))))))))))))))))))))))))) (rH (L0 w.params) 15 187 os).abs (restOf (pr.main.body.drop 0) o0 j6 P0 [topFrame P0])=some (wL w os):=
 cK (aeq w os)<|cK (aer w os)<|cK (aeC w os)<|cK (aeN w os)<|cK (aeV w os)<|cK (aeW w os)<|cK (aeX w os)<|cK (aeY w os)<|cK (aeZ w os)<|cK (ae0 w os)<|cK (aes w os)<|cK (aet w os)<|cK (aeu w os)<|cK (aev w os)<|cK (aew w os)<|cK (aex w os)<|cK (aey w os)<|cK (aez w os)<|cK (aeA w os)<|cK (aeB w os)<|cK (aeD w os)<|cK (aeE w os)<|cK (aeF w os)<|cK (aeG w os)<|cK (aeH w os)<|cK (aeI w os)<|cK (aeJ w os)<|cK (aeK w os)<|cK (aeL w os)<|cK (aeM w os)<|cK (aeO w os)<|cK (aeP w os)<|cK (aeQ w os)<|cK (aeR w os)<|cK (aeS w os)<|cK (aeT w os)<|cK (aeU w os)<|fin_run w os
theorem whole_run(w:Yo)(os:Ye):topRun treeTable pr w 11 lj (12+(1+(259+(214+(246+(255+(222+(229+(250+(249+(343+(253+(267+(250+(252+(293+(391+(371+(268+(260+(275+(304+(254+(754+(378+(376+(341+(257+(270+(375+(179+(265+(263+(329+(759+(146+(1366+(369+(256+2))))))))))))))))))))))))))))))))))))))) ⟨Wn w.params,#[],S8,Sm,os⟩ (topStub pr)=some (wL w os):=by
 refine go_top (adF w os) (piece_block (Kx w os) ?_)
 have h:=KA w os
 rwa [List.drop_zero]at h
theorem acj:∀w:Yo,(fencedOpening treeTable pr w 30000).map (λs=>(s.heap,s.gens,s.drawn,s.toks))=some (Wn w.params,Array.mk [],S8,Sm):=
 boot_open (by kernel_rfl) (by kernel_rfl) (λs=>by kernel_rfl)
theorem aib:∀w:Yo,((Wn w.params).isNs Wp&&(#[]:X9 GenState).size==0,(Wn w.params).objs.size,(Wn w.params).nsMap Wp "__annotations__")=(true,11,lj):=λw=>by kernel_rfl
def q1:Program:={pr with main:={pr.main with body:=[iw 120]}}
noncomputable def ip:Zb Str:=(["_wall","GemError","BadRows","StepsOver","Raised","SIMPLE_ESCAPES","OPERATORS","DEEPEST_KEY","Thing","Text","ListThing","TableThing","RangeThing","ProcThing","ErrorThing","FiberThing","ModuleThing","Entry","sort_of","same","code_of","is_word","is_label","is_plain_symbol","full_name","show_letter","show_text","show_symbol","show_pair","show_range","show_thing","show_error","show","RESCUES","ENSURES","LAST_ERROR","NOWHERE","Way","Scope","Call","Frame","ConstCache","Machine","op_push","op_pop","op_getl","op_setl","op_getc","op_list","op_append","op_jump","op_leave","has_thing","own_line","ahead_count","made_line","line_of","PRIVATE_NAMES","PRIVATE_KERNEL","GivenEntry","sight_of","given_entry","entry_at","first_entry","find","raise_version","need_unfrozen","own_module","define","kind_word","need_mixin","include","prepend","NoCache","CallCache","Sent","cache_for","enter","place_of_names","enter_body","known_module","need_class","op_class","op_module","Row","Catch","Code","MODULES","BUILTINS","MIXED","UNMADE","World","is_around","_law_spots","_law_reading","_law_body","_law_program","_law_table","_law_module","_law_do","_law_deeds","_law_line","_law_seen","_law_found","_law_read","_law_asked","_law_make","_law_turned","_law_due","_law_lone","_law_plain"]:Zb String).map Sh
abbrev hF(P:Yv):Yc:=absHeap (up 14 (uw P)) 1537 Gr
abbrev f7(w:Yo)(os:Ye):Zs:=⟨hF w.params,#[],{},2643,os⟩
theorem YB(w:Yo)(os:Ye):(staticsOk (importedModules pr.main.body) (Wn w.params) (hF w.params)&&namesBound pr (hF w.params)&&gensDone (f7 w os)&&laidKept (Wn w.params) (hF w.params))=true:=by kernel_rfl
theorem YC(w:Yo)(os:Ye):seen ((recsOf q1).map (·.name)) (ownsOf q1) [] {f7 w os with gens:=#[]}=expectedOf q1:=by kernel_rfl
theorem YD(w:Yo)(os:Ye):(f7 w os).heap.bltView=bltViewBooted:=by kernel_rfl
theorem YE(w:Yo)(os:Ye):((f7 w os).heap.keysOk (looseW q1 ip) ((recsOf q1).map (·.name)) ((litsOf q1).map (·.1)) ((clssOf q1 (looseW q1 ip)).map (·.name))&&(f7 w os).heap.accountedOkI (importedModules pr.main.body)&&(f7 w os).heap.isNs Wp&&(f7 w os).heap.isNs builtinsNs&&tablesOk q1 (f7 w os).heap&&true&&(if true then(f7 w os).gens.size==0 else !leftWithCleanup (f7 w os).gens))=true:=by kernel_rfl
theorem YF(w:Yo)(os:Ye):tabsOk q1 (f7 w os)=true:=by kernel_rfl
theorem YG(w:Yo)(os:Ye):(pinSeenD q1 (drecsOf q1) (f7 w os),plainSeenE q1 (looseW q1 ip) (f7 w os),plainSeenD q1 ip (f7 w os),wideSeen q1 (f7 w os),clsSeenW q1 ip (f7 w os))=(pinGoodD (drecsOf q1),plainGoodE q1 (looseW q1 ip),plainGoodD q1 ip,wideGood q1,clsGoodW q1 ip):=by kernel_rfl
theorem YS(w:Yo):(λos=>((staticsOk (importedModules pr.main.body) (Wn w.params) (hF w.params)&&namesBound pr (hF w.params)&&gensDone (f7 w os)&&laidKept (Wn w.params) (hF w.params)),
  openSeen q1 ip (importedModules pr.main.body) (λ_=>true) true (f7 w os),((f7 w os).heap,(f7 w os).toks)))=λ_=>(true,openGood q1 ip,(hF w.params,2643)):=by
 funext os
 refine T8 (YB w os) (T8 ?_ rfl)
 unfold openSeen openGood
 exact T8 (YC w os) (T8 (YD w os) (T8 (YE w os) (T8 (YF w os) (YG w os))))
theorem akn(w:Yo)(os:Ye):topRun treeTable pr w 11 lj (12+(1+(259+(214+(246+(255+(222+(229+(250+(249+(343+(253+(267+(250+(252+(293+(391+(371+(268+(260+(275+(304+(254+(754+(378+(376+(341+(257+(270+(375+(179+(265+(263+(329+(759+(146+(1366+(369+(256+2))))))))))))))))))))))))))))))))))))))) ⟨Wn w.params,#[],S8,Sm,os⟩ (topStub pr)=some ⟨hF w.params,#[],{},2643,os⟩:=(whole_run w os).trans (by kernel_rfl)
theorem XY:LeftO pr q1 ip (λ_=>true) (λs=>(s.heap,s.toks)) (λw=>(hF w.params,2643)) 30000:=by
 have le:Zl (12+(1+(259+(214+(246+(255+(222+(229+(250+(249+(343+(253+(267+(250+(252+(293+(391+(371+(268+(260+(275+(304+(254+(754+(378+(376+(341+(257+(270+(375+(179+(265+(263+(329+(759+(146+(1366+(369+(256+2))))))))))))))))))))))))))))))))))))))) 30000=true:=by kernel_rfl
 have h:=@LeftO.of_pieces pr q1 ip (λ_=>true) (Yc×Zc) (λs=>(s.heap,s.toks)) (λw=>(hF w.params,2643)) 30000 true Wn hF #[] #[] S8 {} Sm 2643 11 lj (12+(1+(259+(214+(246+(255+(222+(229+(250+(249+(343+(253+(267+(250+(252+(293+(391+(371+(268+(260+(275+(304+(254+(754+(378+(376+(341+(257+(270+(375+(179+(265+(263+(329+(759+(146+(1366+(369+(256+2)))))))))))))))))))))))))))))))))))))))
 exact h acj aib akn le YS
theorem agn:sreFenced PySem.Challenge.rw_nz0072_01.row.prog.main=true:=by kernel_rfl
theorem ago:((moduleNames PySem.Challenge.rw_nz0072_01.row.prog.main.body).isEmpty||lookedIntoSs (moduleNames PySem.Challenge.rw_nz0072_01.row.prog.main.body) PySem.Challenge.rw_nz0072_01.row.prog.main.body)=true:=by kernel_rfl
theorem agp:namesResolve PySem.Challenge.rw_nz0072_01.row.prog=true:=by rw[PySem.W.Fast.te8377067652309620493];kernel_rfl
theorem agq:PySem.Challenge.rw_nz0072_01.row.prog.boundNames.all (λn=>!worldNames.contains n)=true:=by rw[S1];kernel_rfl
theorem agr:noRoadLSs {strict:=!(importedModules PySem.Challenge.rw_nz0072_01.row.prog.main.body).all cThrough.contains,foot:=none,bare:=(["vars","dir","locals"]:Zb Str).filter (readsOut PySem.Challenge.rw_nz0072_01.row.prog PySem.Challenge.rw_nz0072_01.row.prog.main.body)} PySem.Challenge.rw_nz0072_01.row.prog.main.body=true:=by rw[S9];kernel_rfl
theorem ags:(namesMeet PySem.Challenge.rw_nz0072_01.row.prog PySem.Challenge.rw_nz0072_01.row.prog.main.body λ_ n=>attrL n)=true:=by rw[Wb];kernel_rfl
theorem agb:decide (PySem.Challenge.rw_nz0072_01.foot≤(behindTheImports PySem.Challenge.rw_nz0072_01.prog).length)=true:=by kernel_rfl
theorem agc:PySem.Challenge.rw_nz0072_01.footing.all footLine=true:=by rw[PySem.W.Fast.te10501279942588096481];kernel_rfl
theorem agd:noClassBlock PySem.Challenge.rw_nz0072_01.prog PySem.Challenge.rw_nz0072_01.footing=true:=by rw[PySem.W.Fast.te8179353310426384613];kernel_rfl
theorem age:PySem.Challenge.rw_nz0072_01.most.all (λn=>decide (63≤n))=true:=by kernel_rfl
theorem agf:PySem.Challenge.rw_nz0072_01.bound.all (λn=>decide (2^63≤n))=true:=by kernel_rfl
theorem agg:noRoadLSs {strict:=true,foot:=some PySem.Challenge.rw_nz0072_01.bound',writes:=PySem.Challenge.rw_nz0072_01.writes,may:=PySem.Challenge.rw_nz0072_01.may} PySem.Challenge.rw_nz0072_01.footing=true:=by rw[S9,Sb];kernel_rfl
theorem agh:defStands PySem.Challenge.rw_nz0072_01.about PySem.Challenge.rw_nz0072_01.above=true:=by rw[PySem.W.Fast.te9558739934217749035];kernel_rfl
theorem agi:PySem.Challenge.rw_nz0072_01.namesIt=true:=by rw[PySem.W.Fast.te16286561074155671207];kernel_rfl
theorem af1:(["type","isinstance","issubclass","getattr","hasattr"]:Zb Str).all (λn=>PySem.Challenge.rw_nz0072_01.about !=[n])=true:=by kernel_rfl
theorem af2:(PySem.Challenge.rw_nz0072_01.bound'.all λn=>!builtinNamed n||PySem.Challenge.rw_nz0072_01.about==[n]||!PySem.Challenge.rw_nz0072_01.reads n)=true:=by rw[Q6,Sb,PySem.W.Fast.te6984425678791042302];kernel_rfl
theorem af3:(!PySem.Challenge.rw_nz0072_01.writes||(PySem.Challenge.rw_nz0072_01.prog.main.body.flatMap importedNames).all λn=>!PySem.Challenge.rw_nz0072_01.reads n)=true:=by kernel_rfl
theorem af4:(PySem.Challenge.rw_nz0072_01.prog.main.body.flatMap importedNames).all (λn=>!PySem.Challenge.rw_nz0072_01.reads n||(drawsOf n PySem.Challenge.rw_nz0072_01.prog.main.body).all λmn=>mn.2!=("attrgetter":Str)&&mn.2!=("methodcaller":Str))=true:=by kernel_rfl
theorem af5:namesMeet PySem.Challenge.rw_nz0072_01.prog PySem.Challenge.rw_nz0072_01.footing (λsc n=>(!(["type","isinstance","issubclass","getattr","hasattr"]:Zb Str).contains n||sc.names.lookup n==some .globalImplicit)&&(PySem.Challenge.rw_nz0072_01.may !=some n||sc.kind==.module||sc.names.lookup n==some .globalImplicit))=true:=by rw[Wb];kernel_rfl
theorem af6:PySem.Challenge.rw_nz0072_01.own.contains PySem.Challenge.rw_nz0072_01.name=true:=by rw[Wc];kernel_rfl
theorem af7:(PySem.Challenge.rw_nz0072_01.own.eraseDups.length==PySem.Challenge.rw_nz0072_01.own.length)=true:=by rw[Wc];kernel_rfl
theorem af8:PySem.Challenge.rw_nz0072_01.own.all (λn=>!builtinNamed n)=true:=by rw[Wc,Q6];kernel_rfl
theorem af9:namesMeet PySem.Challenge.rw_nz0072_01.prog PySem.Challenge.rw_nz0072_01.above (λ_ n=>!PySem.Challenge.rw_nz0072_01.own.contains n)=true:=by rw[Wb,Wc];kernel_rfl
theorem aga:(namesMeet PySem.Challenge.rw_nz0072_01.prog PySem.Challenge.rw_nz0072_01.footing λsc n=>sc.kind==.module||sc.names.lookup n !=some .globalExplicit)=true:=by rw[Wb];kernel_rfl
theorem agl:PySem.Challenge.rw_nz0072_01.row.prog.boundNames.contains PySem.Challenge.rw_nz0072_01.row.name=true:=by rw[S1];kernel_rfl
theorem agm:(!startupNames.contains PySem.Challenge.rw_nz0072_01.row.name)=true:=by kernel_rfl
theorem agy:looksOpen PySem.Challenge.rw_nz0072_01.row.prog=true:=by
 unfold looksOpen
 exact(Yj (Yj (Yj (Yj (Yj agn ago) agp) agq) agr) ags)
theorem agz:PySem.Challenge.rw_nz0072_01.row.partSaid=true:=by
 unfold OpenRow.partSaid
 exact(Yj (Yj (Yj (Yj (Yj (Yj (Yj (Yj (Yj (Yj (Yj (Yj (Yj agy (by kernel_rfl)) (by kernel_rfl)) (by kernel_rfl)) (by kernel_rfl)) (by kernel_rfl)) (by kernel_rfl)) (by kernel_rfl)) (by kernel_rfl)) (by kernel_rfl)) (by kernel_rfl)) (by kernel_rfl)) (by kernel_rfl)) (by kernel_rfl))
theorem agA:PySem.Challenge.rw_nz0072_01.row.wellSaid=true:=by
 unfold OpenRow.wellSaid
 exact(Yj (Yj agz agl) agm)
theorem afA:PySem.Challenge.rw_nz0072_01.wellSaid=true:=by
 unfold OpenLaw.wellSaid
 exact(Yj (Yj (Yj (Yj (Yj (Yj (Yj (Yj (Yj (Yj (Yj (Yj (Yj (Yj (Yj (Yj (Yj (Yj agA agb) agc) agd) age) agf) agg) agh) agi) af1) af2) af3) af4) af5) af6) af7) af8) af9) aga)
def vS:DefRec:={name:="law",params:=fArgs (iw 120),body:=fBody (iw 120),scope:=fScope (iw 120),pos:=(iw 120).pos}
abbrev mU:OpenRow:=PySem.Challenge.rw_nz0072_01.row
abbrev uD(s:Zs):Yc×Zc:=(s.heap,s.toks)
abbrev uC(w:Yo):Yc×Zc:=(hF w.params,2643)
abbrev uB:(Str→Zd Zf)→Yc→Prop:=λ_ _=>True
theorem UX(call:WalkX q1 ip uB uD uC mU.toRowW vS [] λf vs=>P4 f vs):PySem.Challenge.rw_nz0072_01.Holds:=by
 refine holds_law afA λafz=>?_
 refine holds_openX (q:=q1) (loose:=ip) (Xt:=λ_=>true) (XP:=uB) (Yf:=uD) (Ya:=uC) (d:=vS) (kwd:=[]) (N:=30000) XY (λ_ _=>trivial) (λ_ _ _ _ _=>trivial) ?h1 ?h2 ?h3 ?h4 ?h5 afz ?h7 ?h8 ?h9 call
 case h1=>kernel_rfl
 case h2=>kernel_rfl
 case h3=>kernel_rfl
 case h4=>exactλs _=>recFacts_of (R:=[]) rfl
 case h5=>rfl
 case h7=>kernel_rfl
 case h8=>exact⟨by kernel_rfl,by kernel_rfl,by kernel_rfl,by kernel_rfl,by kernel_rfl,by kernel_rfl⟩
 case h9=>w_witness2
def Ki{B:Yo→Prop}(_:(∀w,B w)→True):Yo→Prop:=B
def BX:Yo→Prop:=Ki λ_:WalkX q1 ip uB uD uC mU.toRowW vS [] λf vs=>P4 f vs=>trivial
theorem Ji(h:∀w,BX w):WalkX q1 ip uB uD uC mU.toRowW vS [] λf vs=>P4 f vs:=h
def W0:Yo:=@Classical.epsilon Yo ⟨⟨λ_ _=>0,{strHash:=λ_=>0,shareClass:=λ_=>0,mergeTok:=λt=>t,idOf:=λ_=>0,idOfShared:=λ_ _=>0,followText:=λ_=>false,idOfImm:=λ_=>0}⟩⟩ λw=>¬BX w
theorem Jj(h:BX W0):∀w,BX w:=λw=>Classical.byContradiction λn=>(show¬BX W0 from Classical.epsilon_spec (p:=λw=>¬BX w) ⟨w,n⟩) h
end Mine
end
noncomputable section
open PySem PySem.W PySem.Calls PyProof.Rows
namespace Mine
structure lV where
 S:SE
 pr:Program
 w:Yo
 h0:Yc
 tb:Zj
 tc:Zj
 qa:Zc→Zc→Zd Str
def T:lV:=⟨S0,pr,W0,hideAll (hF W0.params) [1439],1439,1443,qaV⟩
abbrev lV.P(T:lV):Yv:=T.w.params
abbrev lV.M(T:lV):Model:=model T.pr T.w
structure Ly where
 ρ:Zc→Zd (Zj×Zd Zj)
 τ:Zc→Zw
 Mu:Zj→Prop
 ar:Zj→Prop
inductive bV(p:Zj×Zd Zj)(a:Zj):Prop
 |x(e:a=p.1)
 |d(e:p.2=some a)
inductive xk(ρ:Zc→Zd (Zj×Zd Zj))(a:Zj):Prop
 |mk{i:Zc}{p:Zj×Zd Zj}(e:ρ i=some p)(f:bV p a)
abbrev Ly.foot(Y:Ly)(a:Zj):Prop:=xk Y.ρ a
def bZ(l:Zb (Str×X5)):Zb Str:=(l.filter λp=>p.2==.free).map (·.1)
def cellsOf(l:Zb (Str×X5)):Zb Str:=(l.filter λp=>p.2==.cell).map (·.1)
section
variable(Y:Ly)(h:Yc)
def iJ(frees:Zb Str)(ids:Zb Zc)(cells:Zb (Str×Zj)):Prop:=∀(j:Zc)(x:Str),frees[j]?=some x→∃i p,ids[j]?=some i∧Y.ρ i=some p∧cells.lookup x=some p.1
structure Fz(a:Zj)(o:Obj):Prop where
 g:h.get? a=some o
 n:¬Y.Mu a
def j8(C:Zj)(fs:Zb (Zc×AV)):Prop:=∃ci,T.S.cls C=some ci∧∀kv∈fs,kv.1∈ci.fields
inductive iL(p:Zc)(b:Zh)(v:Zf):Prop
 |n(q:v=.none)(f:b=false)
 |t{i j:Zw}{t u:Tok}{a:Zj}{o:Obj}{n:Zc}(q:v=.ref a)(e:i≤Y.τ p)(e':j≤Y.τ (p+1))(g:b=(decide (i=Y.τ p)&&decide (j=Y.τ (p+1))))(f:Fz Y h a o)(hc:o.cls=.type "tuple")(hd:o.data=.seq #[.int i t,.int j u] n)
inductive fQ(r:Zb Zf→Prop)(v:Zf):Prop
 |mk{vs:Zb Zf}{a:Zj}{o:Obj}{n:Zc}(q:v=.ref a)(r:r vs)(l:vs.length≤2000000)(f:Fz Y h a o)(hc:o.cls=.type "tuple")(hd:o.data=.seq vs.toArray n)
inductive hO(r:Zb Zf→Prop)(v:Zf):Prop
 |mk{vs:Zb Zf}{a:Zj}{n:Zc}(q:v=.ref a)(r:r vs)(l:vs.length≤2000000)(f:Fz Y h a (listOf vs.toArray n))
inductive hM(C:Zj)(fs:Zb (Zc×AV))(r:Zb Y4→Prop)(v:Zf):Prop
 |mk{a d:Zj}{es:Zb Y4}{n:Zc}(q:v=.ref a)(fi:j8 C fs)(r:r es)(f:Fz Y h a (instObj C d))(g:Fz Y h d (dictOf es n))
inductive jc(v:Zf):Prop
 |mk{a:Zj}{n:Zc}(q:v=.ref a)(f:Fz Y h a (dictOf [] n))
inductive jI(n:Zw)(v:Zf):Prop
 |mk{a:Zj}{t₀ aj6 aj7:Tok}(q:v=.ref a)(b:n.natAbs≤100000)(f:Fz Y h a {cls:=.type "range",data:=.fields #[.int 0 t₀,.int n aj6,.int 1 aj7]})
inductive jJ(d n:Zc)(v:Zf):Prop
 |mk{p:Zj×Zd Zj}{a:Zj}(q:v=.ref a)(e:Y.ρ d=some p)(l:n≤100000)(f:Fz Y h a {cls:=.type "dict_values",data:=.fields #[.ref p.1]})
inductive hL(k:Zc)(ids:Zb Zc)(v:Zf):Prop
 |mk{a c:Zj}{f:fN}{cells:Zb (Str×Zj)}{fo co:Obj}{kV doc pm ct:Zf}{an:Zd Zj}{vs:X9 Zf}{t:Tok}(q:v=.ref a)(hk:T.S.fs k=some f)(ho:Fz Y h a fo)(hf:fo.data=.func (fnX f.name f.qual f.params f.body f.scope cells .none kV doc pm an (.ref c) ct))(hc:fo.cls=.type "function")
   (hq:Fz Y h c co)(hd:co.data=.fields vs)(h1:vs[1]?=some (.str f.qual t))(ha:iJ Y (bZ f.scope.names) ids cells)(l:ids.length=(bZ f.scope.names).length)
inductive hS(a:Zf→Prop)(b:Zb Zf→Prop)(vs:Zb Zf):Prop
 |mk{u:Zf}{us:Zb Zf}(q:vs=u::us)(a:a u)(b:b us)
inductive iC(k:Zc)(a:Zf→Prop)(b:Zb Y4→Prop)(es:Zb Y4):Prop
 |mk{e:Y4}{x:Str}{t:Tok}{r:Zb Y4}(q:es=e::r)(hk:T.S.nm k=some x)(he:e.key=.str x t)(hh:e.hash=Xk T.P x)(a:a e.val)(b:b r)
def V(a:AV):Zf→Prop:=AV.rec (motive_1:=λ_=>Zf→Prop) (motive_2:=λ_=>Zb Zf→Prop) (motive_3:=λ_=>Zb Y4→Prop) (motive_4:=λ_=>Zf→Prop)
 (·=.none) (λb v=>v=.bool b) (λi v=>∃t,v=.int i t) (λp b v=>∃i t,v=.int i t∧i≤Y.τ p∧b=decide (i=Y.τ p)) (λp v=>∃t,v=.int (Y.τ p+1) t) (λp b=>iL Y h p b) (λr k v=>∃i t,v=.int i t∧i+200*r≤18000+k) (λm r v=>∃i t,v=.int i t∧0≤i∧i.toNat%m=r) (λk v=>∃x t,v=.str x t∧T.S.nm k=some x) (λv=>∃x t,v=.str x t∧x.length≤400) (λi v=>∃p,v=.ref p.1∧Y.ρ i=some p) (λa v=>v=.ref a) (λT v=>v=.type T.name) (λb v=>v=.builtin b.name) (λ_ r=>fQ Y h r) (λ_ r=>hO Y h r) (λC fs r=>hM Y h C fs r) (jc Y h) (λn=>jI Y h n) (λd n=>jJ Y h d n) (λk ids=>hL Y h k ids) (λv=>handedIn v=true) (·=[]) (λ_ _ a b=>hS a b) (·=[]) (λp _ a b=>iC p.1 a b) (λ_ _ a=>a) a
def Vs(l:Zb AV):Zb Zf→Prop:=AV.rec_1 (motive_1:=λ_=>Zf→Prop) (motive_2:=λ_=>Zb Zf→Prop) (motive_3:=λ_=>Zb Y4→Prop) (motive_4:=λ_=>Zf→Prop)
 (·=.none) (λb v=>v=.bool b) (λi v=>∃t,v=.int i t) (λp b v=>∃i t,v=.int i t∧i≤Y.τ p∧b=decide (i=Y.τ p)) (λp v=>∃t,v=.int (Y.τ p+1) t) (λp b=>iL Y h p b) (λr k v=>∃i t,v=.int i t∧i+200*r≤18000+k) (λm r v=>∃i t,v=.int i t∧0≤i∧i.toNat%m=r) (λk v=>∃x t,v=.str x t∧T.S.nm k=some x) (λv=>∃x t,v=.str x t∧x.length≤400) (λi v=>∃p,v=.ref p.1∧Y.ρ i=some p) (λa v=>v=.ref a) (λT v=>v=.type T.name) (λb v=>v=.builtin b.name) (λ_ r=>fQ Y h r) (λ_ r=>hO Y h r) (λC fs r=>hM Y h C fs r) (jc Y h) (λn=>jI Y h n) (λd n=>jJ Y h d n) (λk ids=>hL Y h k ids) (λv=>handedIn v=true) (·=[]) (λ_ _ a b=>hS a b) (·=[]) (λp _ a b=>iC p.1 a b) (λ_ _ a=>a) l
def Vf(l:Zb (Zc×AV)):Zb Y4→Prop:=AV.rec_2 (motive_1:=λ_=>Zf→Prop) (motive_2:=λ_=>Zb Zf→Prop) (motive_3:=λ_=>Zb Y4→Prop) (motive_4:=λ_=>Zf→Prop)
 (·=.none) (λb v=>v=.bool b) (λi v=>∃t,v=.int i t) (λp b v=>∃i t,v=.int i t∧i≤Y.τ p∧b=decide (i=Y.τ p)) (λp v=>∃t,v=.int (Y.τ p+1) t) (λp b=>iL Y h p b) (λr k v=>∃i t,v=.int i t∧i+200*r≤18000+k) (λm r v=>∃i t,v=.int i t∧0≤i∧i.toNat%m=r) (λk v=>∃x t,v=.str x t∧T.S.nm k=some x) (λv=>∃x t,v=.str x t∧x.length≤400) (λi v=>∃p,v=.ref p.1∧Y.ρ i=some p) (λa v=>v=.ref a) (λT v=>v=.type T.name) (λb v=>v=.builtin b.name) (λ_ r=>fQ Y h r) (λ_ r=>hO Y h r) (λC fs r=>hM Y h C fs r) (jc Y h) (λn=>jI Y h n) (λd n=>jJ Y h d n) (λk ids=>hL Y h k ids) (λv=>handedIn v=true) (·=[]) (λ_ _ a b=>hS a b) (·=[]) (λp _ a b=>iC p.1 a b) (λ_ _ a=>a) l
end
structure cO(Y:Ly)(h:Yc)(Y':Ly)(h':Yc):Prop where
 τ:Y'.τ=Y.τ
 ids:∀(i:Zc)(p:Zj×Zd Zj),Y.ρ i=some p→∃q,Y'.ρ i=some (p.1,q)
 keep:∀(a:Zj)(o:Obj),Fz Y h a o→Fz Y' h' a o
theorem cO.refl(Y:Ly)(h:Yc):cO Y h Y h:=⟨rfl,λ_ p e=>⟨p.2,e⟩,λ_ _ e=>e⟩
theorem cO.trans{Y Y' r7:Ly}{h h' tf:Yc}(x:cO Y h Y' h')(y:cO Y' h' r7 tf):cO Y h r7 tf:=
 ⟨y.τ.trans x.τ,λi p e=>(x.ids i p e).elim λq e'=>y.ids i (p.1,q) e',λa o n=>y.keep a o (x.keep a o n)⟩
section
variable{Y Y':Ly}{h h':Yc}(m:cO Y h Y' h')
include m
theorem iJ.mono{fr:Zb Str}{ids:Zb Zc}{cells:Zb (Str×Zj)}(x:iJ Y fr ids cells):iJ Y' fr ids cells:=λj y e=>
 (x j y e).elim λi z=>z.elim λp z=>(m.ids i _ z.2.1).elim λq b=>⟨i,(p.1,q),z.1,b,z.2.2⟩
theorem iL.mono{p:Zc}{b:Zh}{v:Zf}:iL Y h p b v→iL Y' h' p b v
 |.n q f=>.n q f
 |.t q e e' g f hc hd=>.t q (m.τ▸e) (m.τ▸e') (m.τ▸g) (m.keep _ _ f) hc hd
theorem fQ.mono{r r':Zb Zf→Prop}(k:∀vs,r vs→r' vs){v:Zf}:fQ Y h r v→fQ Y' h' r' v
 |.mk q r l f hc hd=>.mk q (k _ r) l (m.keep _ _ f) hc hd
theorem hO.mono{r r':Zb Zf→Prop}(k:∀vs,r vs→r' vs){v:Zf}:hO Y h r v→hO Y' h' r' v
 |.mk q r l f=>.mk q (k _ r) l (m.keep _ _ f)
theorem hM.mono{C:Zj}{fs:Zb (Zc×AV)}{r r':Zb Y4→Prop}(k:∀vs,r vs→r' vs){v:Zf}:hM Y h C fs r v→hM Y' h' C fs r' v
 |.mk q fi r f g=>.mk q fi (k _ r) (m.keep _ _ f) (m.keep _ _ g)
theorem jJ.mono{d n:Zc}{v:Zf}:jJ Y h d n v→jJ Y' h' d n v
 |.mk q e l f=>(m.ids _ _ e).elim λq' e'=>.mk (p:=(_,q')) q e' l (m.keep _ _ f)
theorem hL.mono{k:Zc}{ids:Zb Zc}{v:Zf}:hL Y h k ids v→hL Y' h' k ids v
 |.mk q hk ho hf hc hq hd h1 ha l=>.mk q hk (m.keep _ _ ho) hf hc (m.keep _ _ hq) hd h1 (ha.mono m) l
omit m in
theorem hS.imp{a a':Zf→Prop}{b b':Zb Zf→Prop}(f:∀v,a v→a' v)(g:∀v,b v→b' v){vs:Zb Zf}:hS a b vs→hS a' b' vs
 |.mk q x y=>.mk q (f _ x) (g _ y)
omit m in
theorem iC.imp{k:Zc}{a a':Zf→Prop}{b b':Zb Y4→Prop}(f:∀v,a v→a' v)(g:∀v,b v→b' v){vs:Zb Y4}:iC k a b vs→iC k a' b' vs
 |.mk q hk he hh x y=>.mk q hk he hh (f _ x) (g _ y)
omit m in
theorem V.mono(m:cO Y h Y' h')(a:AV):∀v,V Y h a v→V Y' h' a v:=
 AV.rec (motive_1:=λa=>∀v,V Y h a v→V Y' h' a v) (motive_2:=λl=>∀v,Vs Y h l v→Vs Y' h' l v) (motive_3:=λl=>∀v,Vf Y h l v→Vf Y' h' l v) (motive_4:=λp=>∀v,V Y h p.2 v→V Y' h' p.2 v)
  (λ_ x=>x) (λ_ _ x=>x) (λ_ _ x=>x) (λ_ _ _ x=>x.elim λi x=>x.elim λt x=>⟨i,t,x.1,m.τ▸x.2.1,m.τ▸x.2.2⟩) (λ_ _ x=>x.elim λt a=>⟨t,m.τ▸a⟩) (λ_ _ _=>iL.mono m) (λ_ _ _ x=>x) (λ_ _ _ x=>x) (λ_ _ x=>x) (λ_ x=>x)
  (λ_ _ x=>x.elim λ_ x=>(m.ids _ _ x.2).elim λq e=>⟨(_,q),x.1,e⟩) (λ_ _ x=>x) (λ_ _ x=>x) (λ_ _ x=>x) (λ_ k _=>fQ.mono m k) (λ_ k _=>hO.mono m k) (λ_ _ k _=>hM.mono m k) (λ_ x=>jc.casesOn x λq f=>⟨q,m.keep _ _ f⟩) (λ_ _ x=>jI.casesOn x λq b f=>⟨q,b,m.keep _ _ f⟩)
  (λ_ _ _=>jJ.mono m) (λ_ _ _=>hL.mono m) (λ_ x=>x) (λ_ x=>x) (λ_ _ k l _=>hS.imp k l) (λ_ x=>x) (λ_ _ k l _=>iC.imp k l) (λ_ _ k=>k) a
end
theorem Vs.imp{Y Y':Ly}{h h':Yc}(f:∀x v,V Y h x v→V Y' h' x v)(xs:Zb AV):∀vs,Vs Y h xs vs→Vs Y' h' xs vs:=Zo (motive:=λxs=>∀vs,Vs Y h xs vs→Vs Y' h' xs vs) (λ_ x=>x) (λx _ ih _=>hS.imp (f x) ih) xs
theorem Vf.imp{Y Y':Ly}{h h':Yc}(f:∀x v,V Y h x v→V Y' h' x v)(xs:Zb (Zc×AV)):∀vs,Vf Y h xs vs→Vf Y' h' xs vs:=Zo (motive:=λxs=>∀vs,Vf Y h xs vs→Vf Y' h' xs vs) (λ_ x=>x) (λx _ ih _=>iC.imp (f x.2) ih) xs
theorem Vs.mono{Y Y':Ly}{h h':Yc}(m:cO Y h Y' h'){xs:Zb AV}{vs:Zb Zf}(x:Vs Y h xs vs):Vs Y' h' xs vs:=Vs.imp (V.mono m) xs vs x
theorem Vf.mono{Y Y':Ly}{h h':Yc}(m:cO Y h Y' h'){xs:Zb (Zc×AV)}{vs:Zb Y4}(x:Vf Y h xs vs):Vf Y' h' xs vs:=Vf.imp (V.mono m) xs vs x
theorem lC{v u:Zf}(e:v=u)(h:handedIn u=true):handedIn v=true:=e▸h
theorem V.handed{Y:Ly}{h:Yc}(a:AV)(v:Zf):V Y h a v→handedIn v=true:=
 have i:∀{P:Zw→Prop},(∃i t,v=.int i t∧P i)→handedIn v=true:=λx=>x.elim λ_ x=>x.elim λ_ x=>lC x.1 rfl
 have s:∀{P:Str→Prop},(∃i t,v=.str i t∧P i)→handedIn v=true:=λx=>x.elim λ_ x=>x.elim λ_ x=>lC x.1 rfl
 have r:∀{a:Zj},v=.ref a→handedIn v=true:=λx=>lC x rfl
 AV.casesOn (motive_1:=λa=>V Y h a v→handedIn v=true) a (λe=>lC e rfl) (λb e=>lC e (by cases b<;>rfl)) (λ_ x=>x.elim λ_ e=>lC e rfl) (λ_ _=>i) (λ_ x=>x.elim λ_ e=>lC e rfl) (λ_ _ x=>iL.casesOn (motive:=λ_=>handedIn v=true) x (λe _=>lC e rfl) (λe _ _ _ _ _ _=>r e)) (λ_ _=>i) (λ_ _=>i)
  (λ_=>s) s (λ_ x=>x.elim λ_ e=>r e.1) (λ_=>r) (λ_ e=>lC e rfl) (λb e=>lC e (by cases b<;>decide+kernel)) (λ_ x=>fQ.casesOn x λe _ _ _ _ _=>r e) (λ_ x=>hO.casesOn x λe _ _ _=>r e) (λ_ _ x=>hM.casesOn x λe _ _ _ _=>r e) (λx=>jc.casesOn x λe _=>r e) (λ_ x=>jI.casesOn x λe _ _=>r e)
  (λ_ _ x=>jJ.casesOn x λe _ _ _=>r e) (λ_ _ x=>hL.casesOn x λe _ _ _ _ _ _ _ _ _=>r e) (λe=>e)
end Mine
end
noncomputable section
open PySem PySem.W
namespace Mine
section
variable{α:Type}{v o:α}{l r t:Tr α}{k n:Zc}
theorem z2:0<2:=Tc 1
theorem qR(k:Zc):(2*k+1)/2=k∧(2*k+1)%2=1:=⟨Nat.mul_add_div z2 k 1,Nat.mul_add_mod 2 k 1⟩
theorem vt(k:Zc):(2*k+2)/2-1=k∧(2*k+2)%2=0:=⟨Ze (·-1) (T5 (k+1) z2),Nat.mul_mod_right 2 (k+1)⟩
theorem gr:(Tr.node v l r).get (2*k+1)=l.get k:=by
 show(Zp (r.get ((2*k+1)/2-1)) (l.get ((2*k+1)/2)) (Zi ((2*k+1)%2) 1):Zd α)=_
 rw[(qR k).1,(qR k).2];rfl
theorem gq:(Tr.node v l r).get (2*k+2)=r.get k:=by
 show(Zp (r.get ((2*k+2)/2-1)) (l.get ((2*k+2)/2)) (Zi ((2*k+2)%2) 1):Zd α)=_
 rw[(vt k).1,(vt k).2];rfl
theorem qU:(Tr.node v l r).ins (2*k+1) o=.node v (l.ins k o) r:=by
 show(Zp (.node v l (r.ins ((2*k+1)/2-1) o)) (.node v (l.ins ((2*k+1)/2) o) r) (Zi ((2*k+1)%2) 1):Tr α)=_
 rw[(qR k).1,(qR k).2];rfl
theorem qT:(Tr.node v l r).ins (2*k+2) o=.node v l (r.ins k o):=by
 show(Zp (.node v l (r.ins ((2*k+2)/2-1) o)) (.node v (l.ins ((2*k+2)/2) o) r) (Zi ((2*k+2)%2) 1):Tr α)=_
 rw[(vt k).1,(vt k).2];rfl
theorem WD(i:Zc):(∃k,i=2*k)∨∃k,i=2*k+1:=by
 induction i with
 |zero=>exact .inl ⟨0,rfl⟩
 |succ i ih=>exact ih.elim (λh=>.inr (h.elim λk e=>⟨k,e▸rfl⟩)) λh=>.inl (h.elim λk e=>⟨k+1,e▸rfl⟩)
theorem idx{P:Zc→Prop}(z:P 0)(e:∀k,P (2*k+1))(d:∀k,P (2*k+2))(i:Zc):P i:=
 (WD i).elim (λh=>h.elim λk q=>q▸Vc (motive:=λk=>P (2*k)) k z d) λh=>h.elim λk q=>q▸e k
inductive c8:Tr α→Zc→Prop
 |nil:c8 .nil 0
 |e{v:α}{l r:Tr α}{k:Zc}:c8 l k→c8 r k→c8 (.node v l r) (2*k+1)
 |o{v:α}{l r:Tr α}{k:Zc}:c8 l (k+1)→c8 r k→c8 (.node v l r) (2*k+2)
theorem f9{k a:Zc}:(2*k+1<2*a+1↔k<a)∧(2*k+2<2*a+1↔k<a)∧(2*k+1<2*a+2↔k<a+1)∧(2*k+2<2*a+2↔k<a):=
 have m:∀{k a:Zc},2*k≤2*a↔k≤a:=λ{_ _}=>Rv z2
 ⟨Nat.succ_lt_succ_iff.trans (Qv z2),Nat.lt_succ_iff.trans (m (k:=k+1)),Nat.lt_succ_iff.trans (Nat.succ_le_succ_iff.trans (m.trans Nat.lt_succ_iff.symm)),(Qv (b:=k+1) (c:=a+1) z2).trans Nat.succ_lt_succ_iff⟩
theorem c8.x7(d:c8 t n):∀i,i<n↔∃o,t.get i=some o:=by
 induction d with
 |nil=>exactλi=>⟨λh=>Y8 h (Ue i),λh=>h.elim λ_ e=>nomatch e⟩
 |e _ _ il ir=>exact idx ⟨λ_=>⟨_,rfl⟩,λ_=>Tc _⟩ (λk=>by rw[gr];exact f9.1.trans (il k)) λk=>by rw[gq];exact f9.2.1.trans (ir k)
 |o _ _ il ir=>exact idx ⟨λ_=>⟨_,rfl⟩,λ_=>Tc _⟩ (λk=>by rw[gr];exact f9.2.2.1.trans (il k)) λk=>by rw[gq];exact f9.2.2.2.trans (ir k)
theorem c8.set(d:c8 t n):∀i,i<n→c8 (t.ins i o) n:=by
 induction d with
 |nil=>exactλi h=>Y8 h (Ue i)
 |e dl dr il ir=>exact idx (λ_=>.e dl dr) (λk h=>by rw[qU];exact .e (il k (f9.1.mp h)) dr) λk h=>by rw[qT];exact .e dl (ir k (f9.2.1.mp h))
 |o dl dr il ir=>exact idx (λ_=>.o dl dr) (λk h=>by rw[qU];exact .o (il k (f9.2.2.1.mp h)) dr) λk h=>by rw[qT];exact .o dl (ir k (f9.2.2.2.mp h))
theorem c8.push(d:c8 t n):c8 (t.ins n o) (n+1):=by
 induction d with
 |nil=>exact .e .nil .nil
 |e dl dr il ir=>rw[qU];exact .o il dr
 |o dl dr il ir=>rw[qT];exact .e (k:=_+1) dl ir
theorem jd{k a:Zc}:(2*k+1≤2*a+1→k≤a)∧(2*k+2≤2*a+1→k≤a)∧(2*k+1≤2*a+2→k≤a+1)∧(2*k+2≤2*a+2→k≤a):=
 have m:∀{k a:Zc},2*k≤2*a→k≤a:=λ{_ _}=>(Rv z2).mp
 ⟨λh=>m (U0 h),λh=>m (Wt (U0 h)),λh=>m (a:=a+1) (Wt h),λh=>U0 (m (k:=k+1) (a:=a+1) h)⟩
theorem c8.self(d:c8 t n):∀i,i≤n→(t.ins i o).get i=some o:=by
 induction d with
 |nil=>exactλi h=>Nat.le_zero.mp h▸rfl
 |e dl dr il ir=>exact idx (λ_=>rfl) (λk h=>by rw[qU,gr];exact il k (jd.1 h)) λk h=>by rw[qT,gq];exact ir k (jd.2.1 h)
 |o dl dr il ir=>exact idx (λ_=>rfl) (λk h=>by rw[qU,gr];exact il k (jd.2.2.1 h)) λk h=>by rw[qT,gq];exact ir k (jd.2.2.2 h)
theorem c8.ne(d:c8 t n):∀i,i≤n→∀j,j≠i→(t.ins i o).get j=t.get j:=by
 have ne1:∀{j k:Zc},2*j+1≠2*k+1→j≠k:=λh e=>h (e▸rfl)
 have ne2:∀{j k:Zc},2*j+2≠2*k+2→j≠k:=λh e=>h (e▸rfl)
 have nR:∀{v:α}{l r:Tr α}(j:Zc),j≠0→((Tr.node v l r).ins 0 o).get j=(Tr.node v l r).get j:=λ{v l r}=>idx (λh=>Y8 rfl h) (λk _=>(gr (v:=o)).trans gr.symm) λk _=>(gq (v:=o)).trans gq.symm
 have od:∀{v:α}{l r:Tr α}(k:Zc),(∀j,j≠k→(l.ins k o).get j=l.get j)→∀j,j≠2*k+1→((Tr.node v l r).ins (2*k+1) o).get j=(Tr.node v l r).get j:=λ{v l r} k ih=>by
  rw[qU];exact idx (λ_=>rfl) (λj h=>gr.trans ((ih j (ne1 h)).trans gr.symm)) λj _=>gq.trans gq.symm
 have ev:∀{v:α}{l r:Tr α}(k:Zc),(∀j,j≠k→(r.ins k o).get j=r.get j)→∀j,j≠2*k+2→((Tr.node v l r).ins (2*k+2) o).get j=(Tr.node v l r).get j:=λ{v l r} k ih=>by
  rw[qT];exact idx (λ_=>rfl) (λj _=>gr.trans gr.symm) λj h=>gq.trans ((ih j (ne2 h)).trans gq.symm)
 induction d with
 |nil=>exactλi h=>Nat.le_zero.mp h▸idx (λh=>Y8 rfl h) (λk _=>gr) λk _=>gq
 |e dl dr il ir=>exact idx (λ_=>nR) (λk h=>od k (il k (jd.1 h))) λk h=>ev k (ir k (jd.2.1 h))
 |o dl dr il ir=>exact idx (λ_=>nR) (λk h=>od k (il k (jd.2.2.1 h))) λk h=>ev k (ir k (jd.2.2.2 h))
end
end Mine
end
noncomputable section
open PySem PySem.W PySem.Calls PyProof.Rows
namespace Mine
abbrev lV.sk(T:lV):KeyKind T.pr T.w Str:=strKind T.pr T.w
abbrev lV.ik(T:lV):KeyKind T.pr T.w Zw:=intKind T.pr T.w
def fB(Y:Ly)(h:Yc)(v:Zd AV)(u:Zd Zf):Prop:=aa v (u=none) λv=>∃w,u=some w∧V Y h v w
section
variable(Y:Ly)(h:Yc)
inductive gW(k:AV)(a:Zf→Prop)(b:Zb (Str×Zf)→Prop)(kvs:Zb (Str×Zf)):Prop
 |mk{n:Zc}{x:Str}{u:Zf}{r:Zb (Str×Zf)}(q:kvs=(x,u)::r)(hk:k=.sy n)(hn:T.S.nm n=some x)(a:a u)(b:b r)
def cu(es:Zb (AV×AV)):Zb (Str×Zf)→Prop:=Zo (motive:=λ_=>Zb (Str×Zf)→Prop) (·=[]) (λp _ ih=>gW p.1 (V Y h p.2) ih) es
inductive fP{K:Type}(ky:Zb AV→K→Prop)(k:AV)(a:Zf→Prop)(b:Zb (K×Zj×Zf)→Prop)(xs:Zb (K×Zj×Zf)):Prop
 |mk{ks:Zb AV}{x:K}{t:Zj}{u:Zf}{r:Zb (K×Zj×Zf)}{o:Obj}(q:xs=(x,t,u)::r)(hk:k=.tup ks)(hx:ky ks x)(f:Fz Y h t o)(a:a u)(b:b r)
def bT{K:Type}(ky:Zb AV→K→Prop)(es:Zb (AV×AV)):Zb (K×Zj×Zf)→Prop:=Zo (motive:=λ_=>Zb (K×Zj×Zf)→Prop) (·=[]) (λp _ ih=>fP Y h ky p.1 (V Y h p.2) ih) es
inductive j9{K:Type}(a:K→Prop)(b:Zb K→Prop)(ks:Zb K):Prop
 |mk{k:K}{r:Zb K}(q:ks=k::r)(a:a k)(b:b r)
def cq{K:Type}(one:AV→K→Prop)(l:Zb AV):Zb K→Prop:=Zo (motive:=λ_=>Zb K→Prop) (·=[]) (λx _ ih=>j9 (one x) ih) l
def pQ(a:AV)(k:Zw):Prop:=a=.int k
def pR(a:AV)(k:Str):Prop:=∃n,a=.sy n∧T.S.nm n=some k
abbrev nM:Zb AV→Zb Zw→Prop:=cq pQ
abbrev lh:Zb AV→Zb Str→Prop:=cq pR
variable(p:Zj×Zd Zj)
inductive jF(C:Zj)(fs:Zb (Zc×AV)):Prop
 |mk{d:Zj}{es:Zb Y4}{n:Zc}(q:p.2=some d)(hx:h.get? p.1=some (instObj C d))(hd:h.get? d=some (dictOf es n))(r:Vf Y h fs es)(f:j8 C fs)(l:fs.length≤61)
inductive eC(Z:X9 Zf→Prop)(C:Zj)(fs:Zb (Zc×AV)):Prop
 |z{o:Obj}{vs:X9 Zf}(q:p.2=none)(f:fs=[])(hx:h.get? p.1=some o)(a:o.cls=.ref C)(b:o.dict=none)(c:o.data=.fields vs)(e:Z vs)
 |s{d:Zj}{o:Obj}{vs:X9 Zf}{es:Zb Y4}{n:Zc}(q:p.2=some d)(hx:h.get? p.1=some o)(a:o.cls=.ref C)(b:o.dict=some d)(c:o.data=.fields vs)(e:Z vs)(hd:h.get? d=some (dictOf es n))(r:Vf Y h fs es)(f:j8 C fs)(l:fs.length≤61)
inductive eU(xs:Zb AV):Prop
 |mk{vs:Zb Zf}{n:Zc}(q:p.2=none)(hx:h.get? p.1=some (listOf vs.toArray n))(r:Vs Y h xs vs)(l:vs.length≤2000000)
inductive eB(es:Zb (AV×AV)):Prop
 |s{kvs:Zb (Str×Zf)}(q:p.2=none)(hd:h.DictOf T.sk p.1 kvs)(r:cu Y h es kvs)
 |i{xs:Zb (Zb Zw×Zj×Zf)}(q:p.2=none)(hd:h.DictOfH (Xz T.ik) p.1 xs)(r:bT Y h nM es xs)
 |t{xs:Zb (Zb Str×Zj×Zf)}(q:p.2=none)(hd:h.DictOfH (Xz T.sk) p.1 xs)(r:bT Y h lh es xs)
inductive i5(ms:Zb (Zc×Zd AV)):Prop
 |mk{kvs:Zb (Str×Zf)}(q:p.2=none)(hd:h.DictOf T.sk p.1 kvs)(a:∀k y,T.S.nm k=some y→fB Y h (aq (aY k ms) λo=>o) (valueAt kvs y))(b:∀kv∈kvs,∃k,T.S.nm k=some kv.1∧aT (aY k ms)=true)(l:ms.length≤1000)
inductive iK(ms:Zb ((Zc×Zc)×AV)):Prop
 |mk{xs:Zb (Zb Str×Zj×Zf)}(q:p.2=none)(hd:h.DictOfH (Xz T.sk) p.1 xs)(n:∀y∈xs,∃o,Fz Y h y.2.1 o)(a:∀a b y z v,T.S.nm a=some y→T.S.nm b=some z→gv a b ms=some v→V Y h v (((atKey xs [y,z]).map (·.2)).getD .none))
   (b:∀y∈xs,∃a b u v,y.1=[u,v]∧T.S.nm a=some u∧T.S.nm b=some v∧aT (gv a b ms)=true)(l:ms.length≤1000)
inductive lb(r t k:Zc):Prop
 |mk{n:Zc}{vs:Zb Zf}(q:p.2=none)(hx:h.get? p.1=some (listOf vs.toArray n))(l:vs.length=t+k)(a:t+200*r≤18000)(b:k≤1001)
inductive lg(v:Zd AV):Prop
 |mk{u:Zd Zf}{o:Obj}(q:p.2=none)(hx:h.get? p.1=some o)(hd:o.data=.cell u)(r:fB Y h v u)
inductive jG:Prop
 |mk{ps:X9 Zf}(q:p=(T.tb,none))(hx:h.get? T.tb=some {cls:=.none,data:=.fields ps})(a:TriplesOk ps.toList)(b:∀pos v,codeAmong pos ps.toList=some v→∃c q co vs t,v=.ref c∧T.qa pos.line pos.col=some q∧Fz Y h c co∧co.data=.fields vs∧vs[1]?=some (.str q t))
def RO(o:AO):Prop:=AO.casesOn (motive:=λ_=>Prop) o (jF Y h p) (eC Y h p λvs=>vs.size=6∧vs[1]?=some .none) (eC Y h p λvs=>vs.size=6) (eU Y h p) (eB Y h p) (i5 Y h p) (iK Y h p) (lb h p) (lg Y h p) (jG Y h p)
end
structure Step(own:Zj→Prop)(Y:Ly)(h:Yc)(Y':Ly)(h':Yc):Prop where
 τ:Y'.τ=Y.τ
 ar:∀a,¬own a→(Y'.ar a↔Y.ar a)
 ids:∀(i:Zc)(p:Zj×Zd Zj),Y.ρ i=some p→∃q,Y'.ρ i=some (p.1,q)∧(p.2=none∨q=p.2)
 mu:∀a,Y.Mu a→Y'.Mu a
 fX:∀a,Y'.Mu a→Y.Mu a∨h.get? a=none
 ft:∀a,Y'.foot a→Y.foot a∨h.get? a=none
 keep:∀(a:Zj)(o:Obj),¬own a→¬Y.foot a→¬Y.ar a→h.get? a=some o→h'.get? a=some o
 dy:∀a,¬own a→Y.ar a→∀m,h.Ns a m→h'.Ns a m
 c7:∀(a:Zj)(o:Obj),h.get? a=some o→∃o',h'.get? a=some o'
 ow:∀a,own a→Y.Mu a∨h.get? a=none
abbrev No:Zj→Prop:=λ_=>False
structure Rep(Y:Ly)(H:AH)(h:Yc):Prop where
 len:∀i,i<H.size↔∃p,Y.ρ i=some p
 dg:c8 H.t H.size
 obj:∀(i:Zc)(o:AO)(p:Zj×Zd Zj),H.get i=some o→Y.ρ i=some p→RO Y h p o
 inj:∀{i j:Zc}{p q:Zj×Zd Zj}{a:Zj},Y.ρ i=some p→Y.ρ j=some q→bV p a→bV q a→i=j
 sub:∀a,Y.foot a→Y.Mu a
 apart:∀a,Y.foot a→¬Y.ar a
 eg:∀a,Y.ar a→Y.Mu a
 new:∀a,Y.Mu a→T.h0.get? a=none
 there:∀a,Y.Mu a→∃o,h.get? a=some o
 base:T.h0.StaysIn h
theorem ack{α:Type}{o:Zd α}{n:Prop}{f g:α→Prop}(k:∀a,f a→g a)(x:aa o n f):aa o n g:=by
 cases o with
 |none=>exact x
 |some a=>exact k a x
section
variable{Y Y':Ly}{h h':Yc}(m:cO Y h Y' h')
include m
theorem fB.mono{v:Zd AV}{u:Zd Zf}(x:fB Y h v u):fB Y' h' v u:=ack (λv y=>y.elim λw z=>⟨w,z.1,V.mono m v w z.2⟩) x
theorem cu.mono(es:Zb (AV×AV)):∀kvs,cu Y h es kvs→cu Y' h' es kvs:=
 Zo (motive:=λes=>∀kvs,cu Y h es kvs→cu Y' h' es kvs) (λ_ x=>x) (λp _ ih _ x=>gW.casesOn x λq hk hn a b=>.mk q hk hn (V.mono m _ _ a) (ih _ b)) es
theorem bT.mono{K:Type}{ky:Zb AV→K→Prop}(es:Zb (AV×AV)):∀xs,bT Y h ky es xs→bT Y' h' ky es xs:=
 Zo (motive:=λes=>∀xs,bT Y h ky es xs→bT Y' h' ky es xs) (λ_ x=>x) (λp _ ih _ x=>fP.casesOn x λq hk hx f a b=>.mk q hk hx (m.keep _ _ f) (V.mono m _ _ a) (ih _ b)) es
omit m in
theorem bT.at_{K:Type}{ky:Zb AV→K→Prop}(es:Zb (AV×AV)):∀xs,bT Y h ky es xs→∀x∈xs,∃o,Fz Y h x.2.1 o:=
 Zo (motive:=λes=>∀xs,bT Y h ky es xs→∀x∈xs,∃o,Fz Y h x.2.1 o) (λ_ e=>e▸λ_ hx=>nomatch hx) (λp _ ih _ x=>fP.casesOn x λq _ _ f _ b=>q▸List.forall_mem_cons.mpr ⟨⟨_,f⟩,ih _ b⟩) es
theorem DictOfH.keeps{K:Type}[Xh K]{knd:KeyKind T.pr T.w K}{d:Zj}{xs:Zb (Zb K×Zj×Zf)}(x:h.DictOfH (Xz knd) d xs)(kd:∀o,h.get? d=some o→h'.get? d=some o)(k:∀y∈xs,∃o,Fz Y h y.2.1 o):h'.DictOfH (Xz knd) d xs:=by
 obtain⟨o,es,ep,ho,hx,hd,he,hk,hn⟩:=x
 refine⟨o,es,ep,kd _ ho,hx,hd,he,λy hy=>?_,hn⟩
 obtain⟨o',it,n',g1,g2⟩:=hk y hy
 obtain⟨o2,f⟩:=k y hy
 have f':=m.keep _ _ f
 exact⟨o',it,n',f'.g.trans (f.g.symm.trans g1),g2⟩
omit m in
theorem DictOf.keeps{d:Zj}{kvs:Zb (Str×Zf)}(x:h.DictOf T.sk d kvs)(kd:∀o,h.get? d=some o→h'.get? d=some o):h'.DictOf T.sk d kvs:=by
 obtain⟨o,es,ep,ho,q⟩:=x
 exact⟨o,es,ep,kd _ ho,q⟩
theorem eC.mono{p:Zj×Zd Zj}{Z:X9 Zf→Prop}{C:Zj}{fs:Zb (Zc×AV)}(k:∀b,bV p b→∀o,h.get? b=some o→h'.get? b=some o):eC Y h p Z C fs→eC Y' h' p Z C fs
 |.z q f hx a b c e=>.z q f (k _ (.x rfl) _ hx) a b c e
 |.s q hx a b c e hd r f l=>.s q (k _ (.x rfl) _ hx) a b c e (k _ (.d q) _ hd) (r.mono m) f l
theorem RO.mono{p:Zj×Zd Zj}{o:AO}(k:∀b,bV p b→∀o,h.get? b=some o→h'.get? b=some o):RO Y h p o→RO Y' h' p o:=
 have kx:∀o,h.get? p.1=some o→h'.get? p.1=some o:=k _ (.x rfl)
 AO.casesOn (motive:=λo=>RO Y h p o→RO Y' h' p o) o (λ_ _ x=>jF.casesOn x λq hx hd r f l=>.mk q (kx _ hx) (k _ (.d q) _ hd) (r.mono m) f l) (λ_ _=>eC.mono m k) (λ_ _=>eC.mono m k)
  (λ_ x=>eU.casesOn x λq hx r l=>.mk q (kx _ hx) (r.mono m) l)
  (λ_ x=>eB.casesOn x (λq hd r=>.s q (DictOf.keeps hd kx) (cu.mono m _ _ r)) (λq hd r=>.i q (DictOfH.keeps m hd kx (bT.at_ _ _ r)) (bT.mono m _ _ r)) (λq hd r=>.t q (DictOfH.keeps m hd kx (bT.at_ _ _ r)) (bT.mono m _ _ r)))
  (λ_ x=>i5.casesOn x λq hd a b l=>.mk q (DictOf.keeps hd kx) (λk y e=>(a k y e).mono m) b l)
  (λ_ x=>iK.casesOn x λq hd n a b l=>.mk q (DictOfH.keeps m hd kx n) (λy hy=>(n y hy).elim λo f=>⟨o,m.keep _ _ f⟩) (λx y u w v e1 e2 e3=>V.mono m _ _ (a x y u w v e1 e2 e3)) b l)
  (λ_ _ _ x=>lb.casesOn x λq hx l a b=>.mk q (kx _ hx) l a b) (λ_ x=>lg.casesOn x λq hx hd r=>.mk q (kx _ hx) hd (r.mono m))
  (λx=>jG.casesOn x λq hx a b=>.mk q (k _ (.x (Ze Xq q).symm) _ hx) a λpos v e=>(b pos v e).elim λc z=>z.elim λr z=>z.elim λco z=>z.elim λvs z=>z.elim λt z=>⟨c,r,co,vs,t,z.1,z.2.1,m.keep _ _ z.2.2.1,z.2.2.2⟩)
end
section
variable{own:Zj→Prop}{Y Y' r7:Ly}{H H':AH}{h h' tf:Yc}
theorem Step.gone(x:Step own Y h Y' h'){a:Zj}(e:h'.get? a=none):h.get? a=none:=by
 cases q:h.get? a with
 |none=>rfl
 |some o=>obtain⟨o',e'⟩:=x.c7 a o q;exact Y8 (e.symm.trans e') (λz=>nomatch z)
theorem Step.trans(x:Step own Y h Y' h')(y:Step own Y' h' r7 tf):Step own Y h r7 tf where
 τ:=y.τ.trans x.τ
 ar a n:=(y.ar a n).trans (x.ar a n)
 ids i p e:=by
  obtain⟨q,e',z⟩:=x.ids i p e
  obtain⟨q',e2,z'⟩:=y.ids i _ e'
  exact⟨q',e2,z.elim .inl λz=>z'.imp (λw=>z.symm.trans w) λw=>Vd w z⟩
 mu a e:=y.mu a (x.mu a e)
 fX a e:=(y.fX a e).elim (x.fX a) λe=>.inr (x.gone e)
 ft a e:=(y.ft a e).elim (x.ft a) λe=>.inr (x.gone e)
 keep a o w n n' e:=y.keep a o w (λq=>(x.ft a q).elim n λq=>nomatch q.symm.trans e) (λq=>n' ((x.ar a w).mp q)) (x.keep a o w n n' e)
 dy a n e m q:=y.dy a n ((x.ar a n).mpr e) m (x.dy a n e m q)
 c7 a o e:=(x.c7 a o e).elim λo' e'=>y.c7 a o' e'
 ow:=x.ow
theorem Step.refl(Y:Ly)(h:Yc):Step No Y h Y h:=
 ⟨rfl,λ_ _=>.rfl,λ_ p e=>⟨p.2,e,.inr rfl⟩,λ_ e=>e,λ_ e=>.inl e,λ_ e=>.inl e,λ_ _ _ _ _ e=>e,λ_ _ _ _ e=>e,λ_ o e=>⟨o,e⟩,λ_=>Xg⟩
theorem Step.weaken{own':Zj→Prop}(x:Step own Y h Y' h')(k:∀a,own a→own' a)(ow:∀a,own' a→Y.Mu a∨h.get? a=none):Step own' Y h Y' h':=
 ⟨x.τ,λa n=>x.ar a λq=>n (k a q),x.ids,x.mu,x.fX,x.ft,λa o n=>x.keep a o λq=>n (k a q),λa n=>x.dy a λq=>n (k a q),x.c7,ow⟩
theorem Step.mono(x:Step own Y h Y' h')(R:Rep Y H h):cO Y h Y' h' where
 τ:=x.τ
 ids i p e:=(x.ids i p e).elim λq z=>⟨q,z.1⟩
 keep a o f:=Fz.casesOn f λg n=>.mk (x.keep a o (λq=>(x.ow a q).elim n λz=>nomatch z.symm.trans g) (λq=>n (R.sub a q)) (λq=>n (R.eg a q)) g) λq=>(x.fX a q).elim n λz=>nomatch z.symm.trans g
theorem Rep.Hm(R:Rep Y H h)(st:Step No Y h Y' h')(len:∀i,i<H'.size↔∃p,Y'.ρ i=some p)(dn:c8 H'.t H'.size)(obj:∀(i:Zc)(o:AO)(p:Zj×Zd Zj),H'.get i=some o→Y'.ρ i=some p→RO Y' h' p o)
  (inj:∀{i j:Zc}{p q:Zj×Zd Zj}{a:Zj},Y'.ρ i=some p→Y'.ρ j=some q→bV p a→bV q a→i=j)(sub:∀a,Y'.foot a→Y'.Mu a)(th:∀a,Y'.Mu a→h.get? a=none→∃o,h'.get? a=some o):Rep Y' H' h' where
 len:=len
 dg:=dn
 obj:=obj
 inj:=inj
 sub:=sub
 apart a ha hf:=by
  have hf:=(st.ar a id).mp hf
  exact(st.ft a ha).elim (λq=>R.apart a q hf) λq=>(R.there a (R.eg a hf)).elim λ_ e=>nomatch q.symm.trans e
 eg a hf:=st.mu a (R.eg a ((st.ar a id).mp hf))
 new a ha:=(st.fX a ha).elim (R.new a) λq=>by
  cases z:T.h0.get? a with
  |none=>rfl
  |some o=>exact nomatch q.symm.trans (R.base a o z)
 there a ha:=by
  cases z:h.get? a with
  |none=>exact th a ha z
  |some o=>exact st.c7 a o z
 base b ob e:=by
  have n:¬Y.Mu b:=λq=>nomatch(R.new b q).symm.trans e
  exact st.keep b ob id (λq=>n (R.sub b q)) (λq=>n (R.eg b q)) (R.base b ob e)
theorem Rep.Iw(R:Rep Y H h)(m:cO Y h Y' h'){D:Zj→Prop}(keep:∀(b:Zj)(ob:Obj),¬D b→¬Y.ar b→h.get? b=some ob→h'.get? b=some ob){i:Zc}{p:Zj×Zd Zj}{o:AO}(e:Y.ρ i=some p)(d:∀b,bV p b→¬D b)(r:RO Y h p o):RO Y' h' p o:=
 r.mono m λb hb ob eb=>keep b ob (d b hb) (R.apart b (.mk e hb)) eb
structure Keeps(D:Zj→Prop)(Y:Ly)(h h':Yc):Prop where
 keep:∀(b:Zj)(ob:Obj),¬D b→¬Y.ar b→h.get? b=some ob→h'.get? b=some ob
 dy:∀b,Y.ar b→∀m,h.Ns b m→h'.Ns b m
 c7:∀(a:Zj)(o:Obj),h.get? a=some o→∃o',h'.get? a=some o'
theorem Keeps.all{D:Zj→Prop}(k:∀(b:Zj)(ob:Obj),h.get? b=some ob→h'.get? b=some ob):Keeps D Y h h':=⟨λb ob _ _=>k b ob,λb _ m x=>x.keeps k,λa o e=>⟨o,k a o e⟩⟩
theorem Step.grow(k:Keeps No Y h h'):Step No Y h Y h':=
 ⟨rfl,λ_ _=>.rfl,λ_ p e=>⟨p.2,e,.inr rfl⟩,λ_ e=>e,λ_ e=>.inl e,λ_ e=>.inl e,λa o _ _ n e=>k.keep a o id n e,λa _ ha m=>k.dy a ha m,k.c7,λ_=>Xg⟩
theorem Rep.grow(R:Rep Y H h)(k:Keeps No Y h h'):Rep Y H h':=
 have st:Step No Y h Y h':=.grow k
 have m:=st.mono R
 R.Hm st R.len R.dg (λi o p e1 e2=>R.Iw m k.keep e2 (λ_ _=>id) (R.obj i o p e1 e2)) R.inj R.sub λa ha q=>(R.there a ha).elim λ_ e=>nomatch q.symm.trans e
noncomputable def Ly.at_(Y:Ly)(i:Zc)(q:Zj×Zd Zj):Ly:=⟨λj=>if j=i then some q else Y.ρ j,Y.τ,λa=>Y.Mu a∨bV q a,Y.ar⟩
theorem iE(Y:Ly)(i:Zc)(q:Zj×Zd Zj):(Y.at_ i q).ρ i=some q:=if_pos rfl
theorem gY{Y:Ly}{i j:Zc}{q:Zj×Zd Zj}(n:j≠i):(Y.at_ i q).ρ j=Y.ρ j:=if_neg n
theorem Step.at_{i:Zc}{q:Zj×Zd Zj}(hp:∀p,Y.ρ i=some p→q.1=p.1∧(p.2=none∨q.2=p.2))(hq:∀a,bV q a→(∃p,Y.ρ i=some p∧bV p a)∨h.get? a=none)(k:Keeps (λa=>∃p,Y.ρ i=some p∧bV p a) Y h h')(mu:∀a,Y.foot a→Y.Mu a):Step No Y h (Y.at_ i q) h' where
 τ:=rfl
 ar _ _:=.rfl
 ids j u e:=(Xx (j=i)).elim (λz=>by
  subst z
  have w:=hp u e
  exact⟨q.2,w.1▸iE Y j q,w.2⟩) λz=>⟨u.2,(gY z).trans e,.inr rfl⟩
 mu a ha:=.inl ha
 fX a ha:=ha.elim .inl λha=>(hq a ha).imp (λz=>z.elim λp z=>mu a (.mk z.1 z.2)) id
 ft a ha:=ha.casesOn λ{j u} e f=>(Xx (j=i)).elim (λz=>by
  subst z
  rw[iE]at e
  exact(hq a (Za e▸f)).imp (λz=>z.elim λp z=>.mk z.1 z.2) id) λz=>.inl (.mk ((gY z).symm.trans e) f)
 keep a o _ n n' e:=k.keep a o (λq=>n (q.elim λp z=>.mk z.1 z.2)) n' e
 dy a _ ha m:=k.dy a ha m
 c7:=k.c7
 ow _:=Xg
theorem Rep.put(R:Rep Y H h){i:Zc}{q:Zj×Zd Zj}{o:AO}(hp:∀p,Y.ρ i=some p→q.1=p.1∧(p.2=none∨q.2=p.2))(hq:∀a,bV q a→(∃p,Y.ρ i=some p∧bV p a)∨h.get? a=none)(k:Keeps (λa=>∃p,Y.ρ i=some p∧bV p a) Y h h')
  (th:∀a,bV q a→∃o,h'.get? a=some o)(len:∀j,j<H'.size↔j<H.size∨j=i)(dn:c8 H'.t H'.size)(g:∀j,j≠i→H'.get j=H.get j)(gi:H'.get i=some o)(ro:cO Y h (Y.at_ i q) h'→RO (Y.at_ i q) h' q o):Step No Y h (Y.at_ i q) h'∧Rep (Y.at_ i q) H' h':=by
 have st:Step No Y h (Y.at_ i q) h':=.at_ hp hq k R.sub
 have m:=st.mono R
 have EE:∀{j:Zc}{u:Zj×Zd Zj}{a:Zj},j≠i→Y.ρ j=some u→bV u a→¬bV q a:=λn e f f'=>(hq _ f').elim (λz=>z.elim λp z=>n (R.inj e z.1 f z.2)) λz=>(R.there _ (R.sub _ (.mk e f))).elim λ_ e=>nomatch z.symm.trans e
 refine⟨st,R.Hm st (λj=>(len j).trans ?_) dn (λj oj u ej eu=>?_) (λ{j1 j2 p1 p2 a} e1 e2 f1 f2=>?_) (λa ha=>ha.casesOn λ{j u} e f=>?_) λa ha z=>ha.elim (λha=>(R.there a ha).elim λ_ e=>nomatch z.symm.trans e) (th a)⟩
 ·by_cases z:j=i
  ·exact⟨λ_=>⟨q,z▸iE Y j q⟩,λ_=>.inr z⟩
  ·rw[gY z];exact⟨λw=>w.elim (R.len j).mp λw=>Y8 w z,λw=>.inl ((R.len j).mpr w)⟩
 ·by_cases z:j=i
  ·subst z
   exact Za ((iE Y j q).symm.trans eu)▸Za (gi.symm.trans ej)▸ro m
  ·have eu:=(gY z).symm.trans eu
   exact R.Iw m k.keep eu (λb f w=>w.elim λp w=>z (R.inj eu w.1 f w.2)) (R.obj j oj u ((g j z).symm.trans ej) eu)
 ·by_cases z1:j1=i
  ·by_cases z2:j2=i
   ·exact z1.trans z2.symm
   ·subst z1
    exact Y8 (Za ((iE Y j1 q).symm.trans e1)▸f1) (EE z2 ((gY z2).symm.trans e2) f2)
  ·by_cases z2:j2=i
   ·subst z2
    exact Y8 (Za ((iE Y j2 q).symm.trans e2)▸f2) (EE z1 ((gY z1).symm.trans e1) f1)
   ·exact R.inj ((gY z1).symm.trans e1) ((gY z2).symm.trans e2) f1 f2
 ·by_cases z:j=i
  ·subst z
   exact .inr (Za ((iE Y j q).symm.trans e)▸f)
  ·exact .inl (R.sub a (.mk ((gY z).symm.trans e) f))
end
end Mine
namespace Mine
abbrev PE:=PySem.Expr
structure Rest(s s':Zs):Prop where
 a:s'.gens=s.gens
 b:s'.drawn=s.drawn
 c:s'.os=s.os
theorem Rest.refl(s:Zs):Rest s s:=⟨rfl,rfl,rfl⟩
theorem Rest.trans{s s' Ak:Zs}(x:Rest s s')(y:Rest s' Ak):Rest s Ak:=⟨y.a.trans x.a,y.b.trans x.b,y.c.trans x.c⟩
structure Wd where
 Y:Ly
 s:Zs
 H:AH
 R:Rep Y H s.heap
abbrev Wd.h(W:Wd):Yc:=W.s.heap
abbrev Wd.V(W:Wd):AV→Zf→Prop:=Mine.V W.Y W.h
abbrev Wd.Vs(W:Wd):Zb AV→Zb Zf→Prop:=Mine.Vs W.Y W.h
structure Le(W W':Wd):Prop where
 st:Step No W.Y W.h W'.Y W'.h
 re:Rest W.s W'.s
theorem Le.refl(W:Wd):Le W W:=⟨.refl _ _,.refl _⟩
theorem Le.trans{W W' BO:Wd}(x:Le W W')(y:Le W' BO):Le W BO:=⟨x.st.trans y.st,x.re.trans y.re⟩
theorem Le.mono{W W':Wd}(x:Le W W'):cO W.Y W.h W'.Y W'.h:=x.st.mono W.R
theorem Le.v{W W':Wd}(x:Le W W'){a:AV}{u:Zf}(v:W.V a u):W'.V a u:=V.mono x.mono a u v
theorem Le.vs{W W':Wd}(x:Le W W'){a:Zb AV}{u:Zb Zf}(v:W.Vs a u):W'.Vs a u:=Vs.mono x.mono v
noncomputable def Wd.tok(W:Wd)(tk:Zc):Wd:=⟨W.Y,{W.s with toks:=tk},W.H,W.R⟩
theorem Le.tok(W:Wd)(tk:Zc):Le W (W.tok tk):=⟨.refl _ _,⟨rfl,rfl,rfl⟩⟩
structure Cn where
 A:Yu
 envs:Zb Env
 n:Zc
 hd:Zh
structure k9(Y:Ly)(h:Yc)(env:Env):Prop where
 kind:env.scope.kind≠.module
 fr:Y.ar env.locals
 frame:env.frame=some env.locals
 new:T.h0.get? env.locals=none
 ns:∃m,h.Ns env.locals m
structure eT(c:Cn)(Y:Ly)(h:Yc):Prop where
 depth:c.A.depth+8*c.n≤980
 units:c.A.units+40*c.n≤9700
 hand:c.hd=false→c.A.handled=none
 stack:c.A.frames=some c.envs
 iR:∀env∈c.envs,k9 Y h env
theorem k9.step{Y Y':Ly}{h h':Yc}{env:Env}(x:k9 Y h env){own:Zj→Prop}(st:Step own Y h Y' h')(n:own env.locals→Y.ar env.locals→Y'.ar env.locals∧∃m,h'.Ns env.locals m):k9 Y' h' env:=
 have z:Y'.ar env.locals∧∃m,h'.Ns env.locals m:=(V5 (own env.locals)).elim (λq=>n q x.fr) λq=>⟨(st.ar _ q).mpr x.fr,x.ns.elim λm z=>⟨m,st.dy _ q x.fr m z⟩⟩
 ⟨x.kind,z.1,x.frame,x.new,z.2⟩
theorem eT.step{c:Cn}{Y Y':Ly}{h h':Yc}(x:eT c Y h){own:Zj→Prop}(st:Step own Y h Y' h')(n:∀a,own a→Y.ar a→Y'.ar a∧∃m,h'.Ns a m):eT c Y' h':=
 ⟨x.depth,x.units,x.hand,x.stack,λenv he=>(x.iR env he).step st (n _)⟩
theorem TS{Y:Ly}{h:Yc}{envs:Zb Env}(x:∀env∈envs,k9 Y h env):h.FunFrames T.h0 envs:=by
 induction envs with
 |nil=>trivial
 |cons env r ih=>
  have z:=x env (.head _)
  exact z.ns.elim λm ns=>Heap.FunFrames.cons z.kind z.frame ns z.new (ih λe he=>x e (.tail _ he))
structure Off(Y:Ly)(a:Zj):Prop where
 mu:Y.Mu a
 ft:¬Y.foot a
 fr:¬Y.ar a
inductive uA(Y:Ly)(lo h:Yc)(v:Zd Zf):Prop
 |n(e:v=some .none)
 |t{t:Zj}{o:Obj}{ts:X9 Zf}(e:v=some (.ref t))(l:lo.get? t=none)(f:Off Y t)(g:h.get? t=some o)(d:o.data=.fields ts)(k:ts[3]?=some .none)
structure i4(W:Wd)(i:Zc)(lo:Yc)(envs:Zb Env)(e:Zj):Prop where
 kE:∃c fs,W.H.get i=some (.kE c fs)
 ff:W.h.FunFrames T.h0 envs
 tb:∃oe vs,W.h.get? e=some oe∧oe.data=.fields vs∧vs.size=6∧uA W.Y lo W.h vs[1]?
theorem uA.lower{Y:Ly}{lo pG h:Yc}{v:Zd Zf}(k:∀a,lo.get? a=none→pG.get? a=none):uA Y lo h v→uA Y pG h v
 |.n e=>.n e
 |.t e l f g d q=>.t e (k _ l) f g d q
theorem i4.lower{W:Wd}{i:Zc}{lo pG:Yc}{envs:Zb Env}{e:Zj}(x:i4 W i lo envs e)(k:∀a,lo.get? a=none→pG.get? a=none):i4 W i pG envs e:=
 ⟨x.kE,x.ff,x.tb.elim λoe z=>z.elim λvs z=>⟨oe,vs,z.1,z.2.1,z.2.2.1,z.2.2.2.lower k⟩⟩
inductive aS{α β:Type}(V:Wd→α→β→Prop)(W:Wd)(r:Res α):β→Zs→Prop
 |mk{b:β}(W':Wd)(a:α)(e:r=.ok a W'.H)(le:Le W W')(v:V W' a b):aS V W r b W'.s
inductive cV{α:Type}(envs:Zb Env)(W:Wd)(r:Res α):Zf→Zs→Prop
 |mk(W':Wd)(i:Zc)(p:Zj×Zd Zj)(q:r=.exc i W'.H)(le:Le W W')(ep:W'.Y.ρ i=some p)(fl:i4 W' i W.h envs p.1):cV envs W r (.ref p.1) W'.s
def bh{α β:Type}(c:Cn)(V:Wd→α→β→Prop)(W:Wd)(r:Res α)(t:Sem β):Prop:=r≠.bad→wpAny T.M c.A t (aS V W r) (cV c.envs W r) W.s
abbrev VV(W:Wd)(a:AV)(u:Zf):Prop:=W.V a u
abbrev VL(W:Wd)(a:Zb AV)(u:Zb Zf):Prop:=W.Vs a u
abbrev VB(_:Wd)(a:AV)(b:Zh):Prop:=a=.bool b
abbrev VU(_:Wd)(_:Unit)(_:Unit):Prop:=True
section
variable{α β rU Jd:Type}{c:Cn}{V:Wd→α→β→Prop}{V':Wd→rU→Jd→Prop}{W W':Wd}{r:Res α}{t:Sem β}
theorem cV.step{r':Res rU}(le:Le W W')(hr:∀i H,r=.exc i H→r'=.exc i H){e:Zf}{s:Zs}(x:cV c.envs W' r e s):cV c.envs W r' e s:=
 cV.casesOn x λW2 i p q bD ep fl=>.mk W2 i p (hr _ _ q) (le.trans bD) ep (fl.lower λ_=>le.st.gone)
theorem aS.step(le:Le W W'){b:β}{s:Zs}(x:aS V W' r b s):aS V W r b s:=aS.casesOn x λW2 a e bD v=>.mk W2 a e (le.trans bD) v
theorem gf{m:AM α}{f:α→AM rU}{H H':AH}{a:α}(e:m H=.ok a H'):AM.bind m f H=f a H':=by unfold AM.bind;rw[e]
theorem jL{m:AM α}{f:α→AM rU}{H H':AH}{i:Zc}(e:m H=.exc i H'):AM.bind m f H=.exc i H':=by unfold AM.bind;rw[e]
theorem xK{m:AM α}{f:α→AM rU}{H:AH}(e:m H=.bad):AM.bind m f H=.bad:=by unfold AM.bind;rw[e]
theorem bh.le(le:Le W W')(x:bh c V W' r t)(hb:r≠.bad):wpAny T.M c.A t (aS V W r) (cV c.envs W r) W'.s:=Y9 (x hb) (λ_ _=>aS.step le) λ_ _=>cV.step le λ_ _=>id
theorem bh.bind{m:AM α}{f:α→AM rU}{k:β→Sem Jd}(x:bh c V W (m W.H) t)(y:∀(W':Wd)(a:α)(b:β),m W.H=.ok a W'.H→Le W W'→V W' a b→bh c V' W' (f a W'.H) (k b)):bh c V' W (AM.bind m f W.H) (t>>=k):=λhb=>
 Zg (Y9 (x λe=>hb (xK e)) (λb s z=>aS.casesOn (motive:=λs _=>wpAny T.M c.A (k b) (aS V' W (AM.bind m f W.H)) (cV c.envs W (AM.bind m f W.H)) s) z λW' a e le v=>by
  have e':=gf (f:=f) e
  rw[e']
  exact(y W' a b e le v).le le (e'▸hb)) λ_ _=>cV.step (.refl W) λ_ _=>jL)
theorem bh.of{Ia:Res α}(h:∀r,Ia=r→r≠.bad→wpAny T.M c.A t (aS V W r) (cV c.envs W r) W.s):bh c V W Ia t:=h _ rfl
theorem bh.hold{vs:Zb Zf}(x:bh c V W r t):bh c V W r (W8 vs t):=λhb=>Y0 (x hb)
theorem bh.iZ{p:Pos}(x:bh c V W r t):bh c V W r (standAt p>>=λ_=>t):=λhb=>Zg (Yw (x hb))
theorem bh.op{vs:Zb Zf}{V:Wd→α→Zf→Prop}{t:Sem Zf}(x:bh c V W r t):bh c V W r (operate vs t):=λhb=>Ti (x hb)
theorem bh.IU{k:β→Sem Unit}(x:bh c V W r t)(hk:∀(b:β)(s:Zs)(Q:Unit→Zs→Prop)(E:Zf→Zs→Prop),Q () s→wpAny T.M c.A (k b) Q E s):bh c V W r (t>>=λb=>k b>>=λ_=>pure b):=
 λhb=>Zg (Y9 (x hb) (λb s' z=>Zg (hk b s' _ _ (Zq z))) λ_ _ z=>z)
theorem bh.cast{t':Sem β}(x:bh c V W r t)(e:t'=t):bh c V W r t':=e▸x
theorem bh.done{a:α}{b:β}(v:V W a b):bh c V W (.ok a W.H) (pure b):=λ_=>Zq (.mk W a rfl (.refl W) v)
theorem bh.at_{a:α}(e:r=.ok a W.H)(h:∀(Q:β→Zs→Prop)(E:Zf→Zs→Prop),(∀b tk,V (W.tok tk) a b→Q b {W.s with toks:=tk})→wpAny T.M c.A t Q E W.s):bh c V W r t:=
 λ_=>h _ _ λb tk v=>.mk (W.tok tk) a e (.tok W tk) v
end
theorem aF{α:Type}{a:α}{P:Prop}(h:none=some a):P:=nomatch h
theorem aA{P:Prop}(h:false=true):P:=nomatch h
section
variable{α β:Type}{o:Zd α}{P:Prop}
theorem oB{f:α→Res β}{r:Res β}(e:aa o .bad f=r)(h:r≠.bad)(k:∀a,o=some a→f a=r→P):P:=by
 cases o with
 |none=>exact Y8 e.symm h
 |some a=>exact k a rfl e
theorem oS{f:α→SR}{r:SR}(e:aa o .bad f=r)(h:r≠.bad)(k:∀a,o=some a→f a=r→P):P:=by
 cases o with
 |none=>exact Y8 e.symm h
 |some a=>exact k a rfl e
theorem oN{f:α→Zd β}{b:β}(e:aq o f=some b)(k:∀a,o=some a→f a=some b→P):P:=by
 cases o with
 |none=>exact aF e
 |some a=>exact k a rfl e
theorem oT{f:α→Zh}(e:aa o false f=true)(k:∀a,o=some a→f a=true→P):P:=by
 cases o with
 |none=>exact aA e
 |some a=>exact k a rfl e
theorem oE{n:β}{f:α→β}{r:β}(e:aa o n f=r)(z:o=none→n=r→P)(k:∀a,o=some a→f a=r→P):P:=by
 cases o with
 |none=>exact z rfl e
 |some a=>exact k a rfl e
theorem oO{p:Zd α}{a:α}(e:dS o p=some a)(x:o=some a→P)(y:p=some a→P):P:=by
 cases o with
 |none=>exact y e
 |some b=>exact x e
theorem bB{b:Zh}{r t:Res β}(e:ae b t .bad=r)(h:r≠.bad)(k:b=true→t=r→P):P:=by
 cases b with
 |false=>exact Y8 e.symm h
 |true=>exact k rfl e
theorem bF{b:Zh}{r t:Res β}(e:ae b .bad t=r)(h:r≠.bad)(k:b=false→t=r→P):P:=by
 cases b with
 |true=>exact Y8 e.symm h
 |false=>exact k rfl e
theorem bN{b:Zh}{a:α}{t:Zd α}(e:ae b t none=some a)(k:b=true→t=some a→P):P:=by
 cases b with
 |false=>exact aF e
 |true=>exact k rfl e
theorem bA{a b:Zh}(e:ak a b=true)(k:a=true→b=true→P):P:=by
 cases a with
 |false=>exact aA e
 |true=>exact k rfl e
theorem bO{a b:Zh}(e:aG a b=true)(x:a=true→P)(y:b=true→P):P:=by
 cases a with
 |false=>exact y e
 |true=>exact x rfl
theorem bE{n t r:β}{b:Zh}(e:ae b t n=r)(k:b=true→t=r→P)(z:b=false→n=r→P):P:=by
 cases b with
 |false=>exact z rfl e
 |true=>exact k rfl e
end
theorem eG{b:Zh}(e:ay b=true):b=false:=by
 cases b with
 |false=>rfl
 |true=>exact aA e
end Mine
namespace Mine
theorem Co{a:AV}{b:Zh}(e:bK a=some b):a=.bool b:=by revert e;cases a<;>first|exact aF|exactλe=>Za e▸rfl
theorem Ct{a:AV}{b:Zw}(e:c9 a=some b):a=.int b:=by revert e;cases a<;>first|exact aF|exactλe=>Za e▸rfl
theorem qB{a:AV}{b:Zc}(e:gK a=some b):a=.ref b:=by revert e;cases a<;>first|exact aF|exactλe=>Za e▸rfl
theorem sj{a:AV}{b:Zj}(e:si a=some b):a=.au b:=by revert e;cases a<;>first|exact aF|exactλe=>Za e▸rfl
theorem jj{a:AV}{b:Zc}(e:cY a=some b):a=.sy b:=by revert e;cases a<;>first|exact aF|exactλe=>Za e▸rfl
theorem nQ{a:AV}{b:Zb AV}(e:dX a=some b):a=.tup b:=by revert e;cases a<;>first|exact aF|exactλe=>Za e▸rfl
theorem Cs{a:AV}{b:Zb AV}(e:r9 a=some b):a=.af b:=by revert e;cases a<;>first|exact aF|exactλe=>Za e▸rfl
theorem Cr{a:AV}{b:Zj×Zb (Zc×AV)}(e:uL a=some b):a=.dh b.1 b.2:=by revert e;cases a<;>first|exact aF|exactλe=>Za e▸rfl
theorem Kc{a:AV}{b:Zc×Zh}(e:Cz a=some b):a=.cB b.1 b.2:=by revert e;cases a<;>first|exact aF|exactλe=>Za e▸rfl
theorem Kb{a:AV}{b:Zc×Zh}(e:CA a=some b):a=.dA b.1 b.2:=by revert e;cases a<;>first|exact aF|exactλe=>Za e▸rfl
theorem uI{a:AV}{b:Zc×Zc}(e:qz a=some b):a=.cnt b.1 b.2:=by revert e;cases a<;>first|exact aF|exactλe=>Za e▸rfl
theorem Cx{a:AV}{b:Zc×Zc}(e:Cw a=some b):a=.md b.1 b.2:=by revert e;cases a<;>first|exact aF|exactλe=>Za e▸rfl
theorem J8{a:AV}{b:Zw}(e:nP a=some b):a=.range b:=by revert e;cases a<;>first|exact aF|exactλe=>Za e▸rfl
theorem Cy{a:AV}{b:Zc×Zc}(e:iD a=some b):a=.vals b.1 b.2:=by revert e;cases a<;>first|exact aF|exactλe=>Za e▸rfl
theorem yN{a:AV}(e:isNone a=true):a=.none:=by revert e;cases a<;>first|exact aA|exactλ_=>rfl
theorem WY{a:AV}(e:yP a=true):a=.txt:=by revert e;cases a<;>first|exact aA|exactλ_=>rfl
theorem FU{a:AV}(e:yI a=true):a=.bz:=by revert e;cases a<;>first|exact aA|exactλ_=>rfl
theorem yG{a:AV}(e:isAny a=true):a=.any:=by revert e;cases a<;>first|exact aA|exactλ_=>rfl
theorem xA{a:AO}{b:Zj×Zb (Zc×AV)}(e:sd a=some b):a=.inst b.1 b.2:=by revert e;cases a<;>first|exact aF|exactλe=>Za e▸rfl
theorem uK{a:AO}{b:Zj×Zb (Zc×AV)}(e:qA a=some b):a=.exc b.1 b.2:=by revert e;cases a<;>first|exact aF|exactλe=>Za e▸rfl
theorem Cq{a:AO}{b:Zj×Zb (Zc×AV)}(e:xz a=some b):a=.kE b.1 b.2:=by revert e;cases a<;>first|exact aF|exactλe=>Za e▸rfl
theorem uN{a:AO}{b:Zb AV}(e:jg a=some b):a=.list b:=by revert e;cases a<;>first|exact aF|exactλe=>Za e▸rfl
theorem pd{a:AO}{b:Zb (AV×AV)}(e:nO a=some b):a=.dict b:=by revert e;cases a<;>first|exact aF|exactλe=>Za e▸rfl
theorem J7{a:AO}{b:Zb (Zc×Zd AV)}(e:Cu a=some b):a=.map b:=by revert e;cases a<;>first|exact aF|exactλe=>Za e▸rfl
theorem J6{a:AO}{b:Zb ((Zc×Zc)×AV)}(e:uM a=some b):a=.lI b:=by revert e;cases a<;>first|exact aF|exactλe=>Za e▸rfl
theorem Cm{a:AO}{b:Zc×Zc×Zc}(e:uH a=some b):a=.iG b.1 b.2.1 b.2.2:=by revert e;cases a<;>first|exact aF|exactλe=>Za e▸rfl
theorem Cp{a:AO}{b:Zd AV}(e:xx a=some b):a=.cell b:=by revert e;cases a<;>first|exact aF|exactλe=>Za e▸rfl
theorem WW{a:AO}(e:yO a=true):a=.tab:=by revert e;cases a<;>first|exact aA|exactλ_=>rfl
theorem J9{a:SO}{b:Zh×Zb AV}(e:sg a=some b):a=.seq b.1 b.2:=by revert e;cases a<;>first|exact aF|exactλe=>Za e▸rfl
theorem xy{a:SO}{b:Zb (AV×AV)}(e:uJ a=some b):a=.dict b:=by revert e;cases a<;>first|exact aF|exactλe=>Za e▸rfl
def nk(x:Str):Zh:=ak (ay (x==("__debug__":Str))) (ay (x==("__classdict__":Str)))
structure Jy(K:Frag)(C:Zj)(x:Str):Prop where
 ga:findIn K (.ref C) "__getattribute__"=some (some (.builtin "object.__getattribute__"))
 hd:hasDictIn K C=true
 no:findIn K (.ref C) x=some none
structure A7(K:Frag)(C:Zj)(x:Str):Prop where
 ga:findIn K (.ref C) "__getattribute__"=some (some (.builtin "BaseException.__getattribute__"))
 hk:findIn K (.ref C) "__getattr__"=some none
 mr:mroIn K C (.type "BaseException")=some true
 hd:hasDictIn K C=true
 no:findIn K (.ref C) x=some none
def rN(b:Zh):Zb Zf:=Zp [.type "object"] [.type "ValueError",.type "Exception",.type "BaseException",.type "object"] b
structure rZ(K:Frag)(C:Zj)(x:Str):Prop where
 sa:findIn K (.ref C) "__setattr__"=some (some (.builtin "object.__setattr__"))
 ov:∃cd l b,clsIn K C=some cd∧cd.mro=(l:Zb Zj).map .ref++rN b
 tk:takerIn K C x=some none
 hd:hasDictIn K C=true
structure A8(ci:bU)(C:Zj)(k:Zc)(x:Str)(K:Frag):Prop where
 nm:T.S.nm k=some x
 dG:K.In T.h0
 get:ci.isExc=false→Jy K C x
 exc:ci.isExc=true→A7 K C x
 set:rZ K C x
structure A9(mg mb:Str→Zd Zf)(k:Zc)(v:AV)(x:Str)(u:Zf):Prop where
 nm:T.S.nm k=some x
 ok:nk x=true
 v:∀Y h,V Y h v u
 at_:mg x=some u∨(mg x=none∧mb x=some u)
structure JL:Prop where
 G8:T.h0.NoLimit
 top:∃a o,T.h0.get? a=some o∧T.h0.objs.size≤a+1
 pJ:∀{j k:Zc}{x:Str},T.S.nm j=some x→T.S.nm k=some x→j=k
 zI:∀{k:Zc}{x:Str},T.S.nm k=some x→x.length≤200∧PyData.strOk x=true
 glob:∃mg mb,T.h0.Ns Wp mg∧T.h0.Ns builtinsNs mb∧∀k v,T.S.gl k=some v→∃x u,A9 mg mb k v x u
 fld:∀{C:Zj}{ci:bU}{k:Zc},T.S.cls C=some ci→k∈ci.fields→∃x K,A8 ci C k x K
 Hk:∀{a:Zj}{xs:Zb AV},T.S.obj a=some (.seq false xs)→∃vs nn,T.h0.get? a=some (listOf vs.toArray nn)∧(∀Y h,Vs Y h xs vs)∧vs.length≤2000000
 Hl:∀{a:Zj}{xs:Zb AV},T.S.obj a=some (.seq true xs)→∃vs,IsTup T.h0 a vs.toArray∧(∀Y h,Vs Y h xs vs)∧vs.length≤2000000
 wq:∀{a:Zj}{es:Zb (AV×AV)},T.S.obj a=some (.dict es)→∃kvs,T.h0.DictOf T.sk a kvs∧(∀Y h,cu Y h es kvs)∧kvs.length≤2000000
 noSys:∀(a:Zj),(T.S.obj a).isSome=true→(a==Xl)=false
 sys:∃o,T.h0.get? Xl=some o∧∀n,o≠dictOf [] n
abbrev TB:BT:=up 14 (uw W0.params)
def gB(a:Zc):Zd Obj:=ae (ak (Zl a 1536) (ay (Zi a 1439))) (aq (TB.get a) alive) none
theorem kJ{a:Zc}{o:Obj}(h:gB a=some o):T.h0.get? a=some o:=bN h λq h=>bA q λq1 q2=>oN h λo' g h=>
 hideAll_get _ ((abs_get (Xm (Zm q1)) g).trans h) λm=>by
  rw[List.mem_singleton.mp m]at q2;exact aA q2
def KF(l:Zb Zc):Frag:=Zo [] (λa _ ih=>aa (gB a) ih λo=>(a,o)::ih) l
theorem o7(l:Zb Zc):(KF l).In T.h0:=by
 induction l with
 |nil=>exactλ_ _ h=>nomatch h
 |cons b r ih=>
  intro a o h
  refine oE (o:=gB b) (n:=KF r) (f:=λp=>(b,p)::KF r) (r:=KF (b::r)) rfl (λ_ q=>ih a o ((Ze (To a) q).trans h)) λp g q=>?_
  rw[←q,Yl]at h
  cases e:a==b with
  |true=>rw[e]at h;rw[←Za h,eq_of_beq e];exact kJ g
  |false=>rw[e]at h;exact ih a o h
def fh{α β:Type}(F:Zc→α→β)(t:BS α):Zb β→Zb β:=BS.rec (λx=>x) (λk v _ _ il ir x=>F k v::il (ir x)) t
theorem nS{α β:Type}{F G:Zc→α→β}{t:BS α}:∀{x y:Zb β},fh F t x=fh G t y→x=y∧∀k v,t.get k=some v→F k v=G k v:=by
 induction t with
 |nil=>exactλh=>⟨h,λ_ _=>aF⟩
 |node k v l r il ir=>
  intro x y h
  injection(show F k v::fh F l (fh F r x)=G k v::fh G l (fh G r y) from h)with h1 h2
  obtain⟨h3,h4⟩:=il h2
  obtain⟨h5,h6⟩:=ir h3
  refine⟨h5,λn u e=>?_⟩
  have e:(Zp (Zp (r.get n) (l.get n) (Zl n k)) (some v) (Zi n k):Zd α)=some u:=e
  cases q:Zi n k with
  |true=>rw[q]at e;rw[Zr q,←Za e];exact h1
  |false=>
   rw[q]at e
   cases q2:Zl n k with
   |true=>rw[q2]at e;exact h4 n u e
   |false=>rw[q2]at e;exact h6 n u e
theorem kO{α β:Type}{F G:α→β}{l:Zb α}(h:ag F l=ag G l):∀x∈l,F x=G x:=by
 induction l with
 |nil=>exactλ_ m=>nomatch m
 |cons a r ih=>
  injection(show F a::ag F r=G a::ag G r from h)with h1 h2
  intro x m
  cases m with
  |head=>exact h1
  |tail _ m=>exact ih h2 x m
def tk(v:Zf):Tok:=match v with
 |.int _ t=>t
 |.str _ t=>t
 |_=>0
def refOf(v:Zf):Zd Zc:=match v with
 |.ref a=>some a
 |_=>none
def pV(o:Zd Obj):Zb Zf×Zc:=aa o ([],0) λo=>match o.data with
 |.seq vs n=>(vs.toList,n)
 |_=>([],0)
def gZ(o:Zd Obj):Zb Y4×Zc:=aa o ([],0) λo=>match o.data with
 |.dict vs n=>(vs.toList,n)
 |_=>([],0)
def lw(o:Zd Obj):Zb Zf:=aa o [] λo=>match o.data with
 |.fields vs=>vs.toList
 |_=>[]
def fdOf(o:Zd Obj):FuncData:=aa o default λo=>match o.data with
 |.func fd=>fd
 |_=>default
def Jc(o:Zd Obj)(d:Data):Zd Obj:=aa o none λo=>some ⟨o.cls,o.dict,d,o.slots⟩
def lK(a:AV)(u:Zf):Zf:=a.sel u (none_:=.none) (mB:=.bool) (cU:=λi=>.int i (tk u)) (gU:=λk=>aa (T.S.nm k) .none λx=>.str x (tk u)) (kR:=.ref) (p0:=λt=>.type t.name) (sF:=λb=>.builtin b.name)
def pP(a:AV):Zh:=a.sel false (none_:=true) (mB:=λ_=>true) (cU:=λ_=>true) (gU:=λk=>aT (T.S.nm k)) (kR:=λ_=>true) (p0:=λ_=>true) (sF:=λ_=>true)
theorem zx{Y:Ly}{h:Yc}(a:AV)(u:Zf):pP a=true→V Y h a (lK a u):=
 AV.casesOn (motive_1:=λa=>pP a=true→V Y h a (lK a u)) a (λ_=>rfl) (λ_ _=>rfl) (λ_ _=>⟨_,rfl⟩) (λ_ _=>aA) (λ_=>aA) (λ_ _=>aA) (λ_ _=>aA) (λ_ _=>aA) (λk e=>oT e λx q _=>⟨x,tk u,Ze (λo=>aa o Xa λx=>.str x (tk u)) q,q⟩) aA (λ_=>aA) (λ_ _=>rfl) (λ_ _=>rfl) (λ_ _=>rfl) (λ_=>aA) (λ_=>aA) (λ_ _=>aA) aA (λ_=>aA) (λ_ _=>aA) (λ_ _=>aA) aA
def t8(xs:Zb AV):Zb Zf→Zb Zf:=Zo (λ_=>[]) (λa _ ih us=>lK a (us.headD .none)::ih us.tail) xs
theorem uF{α:Type}{p:α→Zh}{x:α}{r:Zb α}{P:Prop}(e:aM p (x::r)=true)(k:p x=true→aM p r=true→P):P:=bE (b:=p x) (t:=aM p r) (n:=false) e k λ_=>aA
theorem Ai{Y:Ly}{h:Yc}{xs:Zb AV}:∀us,aM pP xs=true→Vs Y h xs (t8 xs us):=by
 induction xs with
 |nil=>exactλ_ _=>rfl
 |cons a r ih=>exactλus e=>uF e λe1 e2=>.mk rfl (zx a _ e1) (ih _ e2)
def jw(x:Str):Zc:=x.cps.toList.foldl (λa c=>a*2097152+c+1) 0
def tP(l:Zb Zc):Zh:=Zo true (λa r ih=>ak (ay (aK a r)) ih) l
theorem Fo{a:Zc}{l:Zb Zc}(m:a∈l):aK a l=true:=by
 induction m with
 |head r=>show(Zp (aK a r) true (Zi a a):Zh)=true;rw[Wu]
 |tail b _ ih=>show(Zp (aK a _) true (Zi a b):Zh)=true;rw[ih];cases Zi a b<;>rfl
theorem He{α:Type}{x:α}:∀{l:Zb α}{k:Zc},aB l k=some x→x∈l:=λ{l}=>by
 induction l with
 |nil=>exact aF
 |cons a r ih=>
  intro k e
  cases k with
  |zero=>cases e;exact .head _
  |succ k=>exact .tail _ (ih e)
theorem abK{l:Zb Str}:tP (ag jw l)=true→∀{j k:Zc}{x:Str},aB l j=some x→aB l k=some x→j=k:=by
 have hm:∀{l:Zb Str}{x:Str},x∈l→jw x∈ag jw l:=λm=>by
  induction m with
  |head=>exact .head _
  |tail _ _ ih=>exact .tail _ ih
 induction l with
 |nil=>exactλ_ _ _ _=>aF
 |cons y r ih=>
  intro h j k x a b
  refine bA (a:=ay (aK (jw y) (ag jw r))) h λh1 h2=>?_
  have no:∀{i:Zc},aB r i=some y→j=k:=λe=>aA ((Ze ay (Fo (hm (He e)))).symm.trans h1)
  cases j with
  |zero=>
   cases k with
   |zero=>rfl
   |succ k=>cases a;exact no b
  |succ j=>
   cases k with
   |zero=>cases b;exact no a
   |succ k=>exact Ze _ (ih h2 a b)
theorem abS:tP (ag jw wm)=true:=by kernel_rfl
theorem abR:ag (λx=>ak (Zl x.length 200) (PyData.strOk x)) wm=ag (λ_=>true) wm:=by kernel_rfl
def tz(v:Zf):Zh:=match v with
 |.str _ _=>true
 |_=>false
theorem WV{v:Zf}(e:tz v=true):∃x t,v=.str x t:=by
 unfold tz at e
 split at e
 ·exact⟨_,_,rfl⟩
 ·exact aA e
theorem ab7{a:Zc}(g:gB a=Jc (gB a) (.dict (gZ (gB a)).1.toArray (gZ (gB a)).2))(z:aT (gB a)=true)(s:aM (λe=>tz e.key) (gZ (gB a)).1=true):T.h0.Ns a (nsFind (gZ (gB a)).1.toArray):=oT z λo q _=>by
 rw[q]at g
 refine⟨_,_,_,kJ (q.trans g),rfl,λe m=>?_,λ_=>by rw[q]⟩
 have m:e∈(gZ (gB a)).1:=by rw[q];exact Array.mem_toList_iff.mpr m
 have:∀{l:Zb Y4},aM (λe=>tz e.key) l=true→e∈l→∃n t,e.key=.str n t:=λ{l} h m=>by
  induction m with
  |head=>exact uF h λh _=>WV h
  |tail _ _ ih=>exact uF h λ_ h=>ih h
 exact this s m
theorem ab6:ag (λa=>(gB a,ak (aT (gB a)) (aM (λe=>tz e.key) (gZ (gB a)).1))) [0,2,3]=ag (λa=>(Jc (gB a) (.dict (gZ (gB a)).1.toArray (gZ (gB a)).2),true)) [0,2,3]:=by kernel_rfl
theorem tU{a:Zc}(m:a∈[0,2,3]):T.h0.Ns a (nsFind (gZ (gB a)).1.toArray):=
 have q:=kO ab6 a m
 bA (Ze Vp q) λz s=>ab7 (Ze Xq q) z s
def iQ(a:Zc)(x:Str):Zd Zf:=nsFind (gZ (gB a)).1.toArray x
def fj(k:Zc):Str:=aa (T.S.nm k) default λx=>x
def gu(k:Zc):Zf:=aa (dS (iQ 3 (fj k)) (iQ 0 (fj k))) .none λu=>u
theorem TZ:fh (λk v=>(T.S.nm k,dS (iQ 3 (fj k)) (iQ 0 (fj k)),ak (nk (fj k)) (pP v))) ym []=fh (λk v=>(some (fj k),some (lK v (gu k)),true)) ym []:=by kernel_rfl
theorem ahQ{k:Zc}{v:AV}(e:T.S.gl k=some v):∃x u,A9 (iQ 3) (iQ 0) k v x u:=by
 have q:=(nS TZ).2 k v e
 refine bA (Ze (·.2.2) q) λq3 q4=>⟨fj k,lK v (gu k),Ze (·.1) q,q3,λY h=>zx v _ q4,?_⟩
 have q2:dS (iQ 3 (fj k)) (iQ 0 (fj k))=some (lK v (gu k)):=Ze (·.2.1) q
 generalize lK v (gu k)=u at q2⊢
 cases z:iQ 3 (fj k)with
 |none=>rw[z]at q2;exact .inr ⟨rfl,q2⟩
 |some w=>rw[z]at q2;exact .inl q2
def ab5(n:Zc):Zb Zc:=Zo [] (λe _ ih=>aa (refOf e.val) ih λf=>f::ih) (gZ (gB n)).1
def hX(o:Zd Obj):ClassData:=aa o default λo=>match o.data with
 |.cls cd=>cd
 |_=>default
def Dv(deep:Zh)(C:Zc):Zb Zc:=Zo [] (λv _ ih=>aa (refOf v) ih λb=>b::(hX (gB b)).ns::aD (ae deep (ab5 (hX (gB b)).ns) []) ih) (hX (gB C)).mro
def KC(C:Zc):Frag:=KF (cStatics::Dv true C)
def LJ{α:Type}(t:BS α):Zb Zc:=BS.rec [] (λk _ _ _ il ir=>aD il (k::ir)) t
def KI:Frag:=KF (cStatics::Zo [] (λC _ ih=>aD (Dv false C) ih) (LJ kt))
def refsOf(l:Zb Zf):Zb Zc:=Zo [] (λv _ ih=>aa (refOf v) ih λb=>b::ih) l
def Dw(C:Zc)(ci:bU):=(ag (λk=>(T.S.nm k,findIn (KC C) (.ref C) (fj k),takerIn (KC C) C (fj k))) ci.fields,findIn (KC C) (.ref C) "__getattribute__",findIn (KC C) (.ref C) "__getattr__",mroIn (KC C) C (.type "BaseException"),findIn (KC C) (.ref C) "__setattr__",hasDictIn (KC C) C,aq (clsIn (KC C) C) λcd=>some cd.mro)
def Dy(C:Zc)(ci:bU):Zb (Zd Str×Zd (Zd Zf)×Zd (Zd Zf))×Zd (Zd Zf)×Zd (Zd Zf)×Zd Zh×Zd (Zd Zf)×Zh×Zd (Zb Zf):=(ag (λk=>(some (fj k),some none,some none)) ci.fields,some (some (.builtin (ae ci.isExc "BaseException.__getattribute__" "object.__getattribute__"))),some none,some ci.isExc,some (some (.builtin "object.__setattr__")),true,some ((refsOf (hX (gB C)).mro).map .ref++rN ci.isExc))
theorem LM:fh Dw kt []=fh Dy kt []:=by kernel_rfl
theorem Aq{C:Zj}{ci:bU}(e:T.S.cls C=some ci):Dw C ci=Dy C ci:=(nS LM).2 C ci e
theorem QU{C:Zj}{ci:bU}{k:Zc}(e:T.S.cls C=some ci)(m:k∈ci.fields):A8 ci C k (fj k) (KC C):=by
 have q:=Aq e
 have f:=kO (Ze (·.1) q) k m
 refine⟨Ze (·.1) f,o7 _,λi=>⟨?_,Ze (·.2.2.2.2.2.1) q,Ze (·.2.1) f⟩,λi=>⟨?_,Ze (·.2.2.1) q,?_,Ze (·.2.2.2.2.2.1) q,Ze (·.2.1) f⟩,Ze (·.2.2.2.2.1) q,?_,Ze (·.2.2) f,Ze (·.2.2.2.2.2.1) q⟩
 ·exact(Ze (·.2.1) q).trans (Ze (λb=>some (some (Ua (ae b "BaseException.__getattribute__" "object.__getattribute__")))) i)
 ·exact(Ze (·.2.1) q).trans (Ze (λb=>some (some (Ua (ae b "BaseException.__getattribute__" "object.__getattribute__")))) i)
 ·exact(Ze (·.2.2.2.1) q).trans (Ze some i)
 ·exact oN (Ze (·.2.2.2.2.2.2) q) λcd h e=>⟨cd,_,_,h,Za e⟩
def keyOf(p:AV×AV):Str:=p.1.sel default (gU:=fj)
def Ho(p:AV×AV):Zh:=ak (p.1.sel false (gU:=λk=>aT (T.S.nm k))) (pP p.2)
def Ah(es:Zb (AV×AV)):Zb Y4→Zb Y4:=Zo (λ_=>[]) (λp _ ih ds=>⟨Xk T.P (keyOf p),.str (keyOf p) (tk (ds.headD ⟨0,.none,.none⟩).key),lK p.2 (ds.headD ⟨0,.none,.none⟩).val⟩::ih ds.tail) es
def rC(es:Zb (AV×AV)):Zb Y4→Zb (Str×Zf):=Zo (λ_=>[]) (λp _ ih ds=>(keyOf p,lK p.2 (ds.headD ⟨0,.none,.none⟩).val)::ih ds.tail) es
theorem aic{k:AV}{P:AV→Prop}(h:∀n x,T.S.nm n=some x→P (.sy n))(e:k.sel false (gU:=λk=>aT (T.S.nm k))=true):P k:=by
 revert e;cases k<;>first|exact aA|exactλe=>oT e λx q _=>h _ x q
theorem abU{n:Zc}{x:Str}(e:T.S.nm n=some x):fj n=x:=Ze (λo=>aa o default λx=>x) e
theorem ad4{es:Zb (AV×AV)}:∀ds,aM Ho es=true→(∀Y h,cu Y h es (rC es ds))∧Pairs T.sk (Ah es ds) (rC es ds)∧∀e∈Ah es ds,∃k,T.sk.is k e.key=true∧e.hash=T.sk.hash k:=by
 induction es with
 |nil=>exactλ_ _=>⟨λ_ _=>rfl,.nil,λ_ m=>nomatch m⟩
 |cons p r ih=>
  refineλds e=>uF e λe1 e2=>bA e1 λe3 e4=>?_
  obtain⟨i1,i2,i3⟩:=ih ds.tail e2
  have hs:T.sk.is (keyOf p) (.str (keyOf p) (tk (ds.headD ⟨0,.none,.none⟩).key))=true:=Xs (keyOf p)
  refine⟨λY h=>aic (P:=λk=>gW k (V Y h p.2) (cu Y h r) ((AV.sel k default (gU:=fj),lK p.2 (ds.headD ⟨0,.none,.none⟩).val)::rC r ds.tail)) (λn x q=>.mk rfl rfl (q.trans (Ze some (abU q).symm)) (zx _ _ e4) (i1 Y h)) e3,.cons hs rfl i2,λen m=>?_⟩
  cases m with
  |head=>exact⟨keyOf p,hs,rfl⟩
  |tail _ m=>exact i3 en m
theorem ab8{l:Zb Str}{x:Str}(m:x∈l):jw x∈ag jw l:=by
 induction m with
 |head=>exact .head _
 |tail _ _ ih=>exact .tail _ ih
theorem wf{l:Zb Str}:tP (ag jw l)=true→l.Nodup:=by
 induction l with
 |nil=>exactλ_=>.nil
 |cons y r ih=>exactλh=>bA (a:=ay (aK (jw y) (ag jw r))) h λh1 h2=>List.nodup_cons.mpr ⟨λm=>aA ((Ze ay (Fo (ab8 m))).symm.trans h1),ih h2⟩
theorem HK{es:Zb (AV×AV)}:∀ds,(rC es ds).map (·.1)=ag keyOf es∧(rC es ds).length=aJ es:=by
 induction es with
 |nil=>exactλ_=>⟨rfl,rfl⟩
 |cons p r ih=>exactλds=>⟨Ze (keyOf p::·) (ih ds.tail).1,Ze Zk (ih ds.tail).2⟩
theorem HL{xs:Zb AV}:∀us,(t8 xs us).length=aJ xs:=by
 induction xs with
 |nil=>exactλ_=>rfl
 |cons p r ih=>exactλus=>Ze Zk (ih us.tail)
def It(o:Zd Obj)(so:SO):Obj:=SO.rec (λt xs=>Zp (listOf (t8 xs (pV o).1).toArray (pV o).2) ⟨.type "tuple",none,.seq (t8 xs (pV o).1).toArray (pV o).2,#[]⟩ t) (λes=>⟨.type "dict",none,.dict (Ah es (gZ o).1).toArray (gZ o).2,#[]⟩) so
def Ir(so:SO):Zh:=SO.rec (λ_ xs=>ak (aM pP xs) (Zl (aJ xs) 2000000)) (λes=>ak (aM Ho es) (ak (Zl (aJ es) 2000000) (tP (ag jw (ag keyOf es))))) so
theorem aca:fh (λa so=>(gB a,Ir so,a==Xl)) zU []=fh (λa so=>(some (It (gB a) so),true,false)) zU []:=by kernel_rfl
theorem wT{a:Zj}{so:SO}(e:T.S.obj a=some so):(gB a,Ir so,a==Xl)=(some (It (gB a) so),true,false):=(nS aca).2 a so e
theorem wX:(aT (gB Xl),(gZ (gB Xl)).1.isEmpty,aT (gB 1536),iQ 2 "sys.recursionlimit")=(true,false,true,none):=by kernel_rfl
theorem O:JL where
 G8:=⟨_,tU (.tail _ (.head _)),Ze (·.2.2.2) wX⟩
 top:=oT (o:=gB 1536) (f:=λ_=>true) (Ze (·.2.2.1) wX) λo q _=>⟨1536,o,kJ q,Xb ((hideAll_size _ _).trans (absHeap_size _ _ _))⟩
 pJ:=abK abS
 zI e:=bA (kO abR _ (He e)) λa b=>⟨Zm a,b⟩
 glob:=⟨_,_,tU (.tail _ (.tail _ (.head _))),tU (.head _),λ_ _=>ahQ⟩
 fld e m:=⟨_,_,QU e m⟩
 Hk e:=have q:=wT e;bA (Ze (·.2.1) q) λq1 q2=>⟨_,_,kJ (Ze (·.1) q),λ_ _=>Ai _ q1,Zu (Xb (HL _)) (Zm q2)⟩
 Hl e:=have q:=wT e;bA (Ze (·.2.1) q) λq1 q2=>⟨_,⟨_,kJ (Ze (·.1) q),rfl,_,rfl⟩,λ_ _=>Ai _ q1,Zu (Xb (HL _)) (Zm q2)⟩
 wq {a es} e:=have q:=wT e;bA (Ze (·.2.1) q) λq1 q2=>bA q2 λq2 q3=>by
  obtain⟨d1,d2,d3⟩:=ad4 (es:=es) (gZ (gB a)).1 q1
  exact⟨rC es (gZ (gB a)).1,⟨_,_,_,kJ (Ze (·.1) q),⟨rfl,rfl,rfl⟩,rfl,λe m=>d3 e (Array.mem_toList_iff.mpr m),d2,(HK _).1▸wf q3⟩,d1,Zu (Xb (HK _).2) (Zm q2)⟩
 noSys a e:=oT (o:=T.S.obj a) (f:=λ_=>true) (by revert e;cases T.S.obj a<;>exact id) λso q _=>Ze (·.2.2) (wT q)
 sys:=oT (o:=gB Xl) (f:=λ_=>true) (Ze (·.1) wX) λo q _=>⟨o,kJ q,λn z=>by
  have e:(gZ (gB Xl)).1.isEmpty=false:=Ze (·.2.1) wX
  rw[q,z]at e;exact aA e.symm⟩
end Mine
namespace Mine
structure aQ where
 ls:Zb Str
 cs:Zb Str
 cA:Zb (Str×X5)
 at_:Zd Str
structure nJ(cx:aQ)(env:Env):Prop where
 kind:env.scope.kind=.function
 pz:env.globals=Wp
 blt:env.builtins=builtinsNs
 nm:env.scope.names=cx.cA
 locs:∀(i:Zc)(x:Str),cx.ls[i]?=some x→cx.cA.lookup x=some .local
 nd:cx.ls.Nodup
 e9:∀(j:Zc)(x:Str),cx.cs[j]?=some x→cx.cA.lookup x=some .cell∨cx.cA.lookup x=some .free
 at_:∀q,cx.at_=some q→env.code=.ref T.tc∧env.qual=q
inductive A5(Y:Ly)(env:Env)(x:Str)(i:Zd Zc):Prop
 |mk{j:Zc}{p:Zj×Zd Zj}(a:i=some j)(b:Y.ρ j=some p)(c:env.cells.lookup x=some p.1)
structure gE(cx:aQ)(env:Env)(fm:Fm)(Y:Ly)(h:Yc):Prop where
 st:nJ cx env
 e9:∀(j:Zc)(x:Str),cx.cs[j]?=some x→A5 Y env x (aB fm.cells j)
 fr:∃m,h.Ns env.locals m∧∀(i:Zc)(x:Str)(v:AV),cx.ls[i]?=some x→aB fm.vars i=some v→isAny v=false→∃u,m x=some u∧V Y h v u
 ju:Y.ar env.locals
theorem gE.move{cx:aQ}{env:Env}{fm:Fm}{Y Y':Ly}{h h':Yc}(x:gE cx env fm Y h)(m:cO Y h Y' h')(fr:Y.ar env.locals→Y'.ar env.locals)(k:∀m,h.Ns env.locals m→h'.Ns env.locals m):gE cx env fm Y' h' where
 st:=x.st
 e9 j y e:=(x.e9 j y e).casesOn λa b c=>(m.ids _ _ b).elim λq b'=>.mk (p:=(_,q)) a b' c
 fr:=x.fr.elim λmp z=>⟨mp,k _ z.1,λi y v e1 e2 e3=>(z.2 i y v e1 e2 e3).elim λu w=>⟨u,w.1,V.mono m v u w.2⟩⟩
 ju:=fr x.ju
theorem gE.step{cx:aQ}{env:Env}{fm:Fm}{W W':Wd}(x:gE cx env fm W.Y W.h)(le:Le W W'):gE cx env fm W'.Y W'.h:=x.move le.mono (le.st.ar _ id).mpr (le.st.dy _ id x.ju)
structure Gd(n:Zc)(cx:aQ)(c:Cn)(env:Env)(fm:Fm)(W:Wd):Prop where
 n:c.n=n
 a:eT c W.Y W.h
 f:gE cx env fm W.Y W.h
theorem Gd.le{n:Zc}{cx:aQ}{c:Cn}{env:Env}{fm:Fm}{W W':Wd}(g:Gd n cx c env fm W)(le:Le W W'):Gd n cx c env fm W':=⟨g.n,g.a.step le.st λ_=>Xg,g.f.step le⟩
def aP(n:Zc)(cx:aQ)(e:PE)(m:Zh→Fm→AM AV):Prop:=∀{c:Cn}{env:Env}{fm:Fm}{W:Wd},Gd n cx c env fm W→bh c VV W (m c.hd fm W.H) (eval e env)
def gJ(n:Zc)(cx:aQ)(e:PE)(m:Zh→Fm→AM AV):Prop:=∀{c:Cn}{env:Env}{fm:Fm}{W:Wd},Gd n cx c env fm W→bh c VB W (m c.hd fm W.H) (isTrue e env (eval e env))
def o9(n:Zc)(cx:aQ)(es:Zb PE)(m:Zh→Fm→AM (Zb AV)):Prop:=∀{c:Cn}{env:Env}{fm:Fm}{W:Wd}{pos:Pos},Gd n cx c env fm W→bh c VL W (m c.hd fm W.H) (spliced (backTo pos (Xj es env)))
section
variable{n:Zc}{cx:aQ}
def uW(v:AV):Zd Const:=v.sel none (none_:=some .none) (mB:=λb=>some (.bool b)) (cU:=λi=>some (.int i)) (gU:=λk=>aq (T.S.nm k) λx=>some (.str x))
theorem ais{v:AV}{k:Const}{j:Zc}{p:Pos}(e:uW v=some k):aP n cx (.Constant k j p) (λ_=>tK v):=by
 intro c env fm W g
 refine .at_ (a:=v) (by revert e;cases v<;>first|exactλe=>aF e|exactλ_=>rfl) λQ E h=>?_
 revert e h
 cases v<;>first|exactλe=>aF e|skip
 ·exactλe h=>Za e▸Zq (h _ W.s.toks rfl)
 ·exactλe h=>Za e▸Zq (h _ W.s.toks rfl)
 ·exactλe h=>Za e▸wpAny_mkInt (h _ _ ⟨_,rfl⟩)
 ·exactλe h=>oN e λx hx e=>Za e▸Rz (h _ _ ⟨_,_,rfl,hx⟩)
theorem tW{x:Str}(h:nk x=true):(x==("__debug__":Str))=false:=bA h λa _=>eG a
theorem acb{x:Str}(h:nk x=true):(x==("__classdict__":Str))=false:=bA h λ_ a=>eG a
theorem nJ.look{env:Env}(C:nJ cx env){x:Str}{k:X5}(e:cx.cA.lookup x=some k):env.kindOf x=some k:=(Ze (To x) C.nm).trans e
theorem aiD{x:Str}{i:Zc}{p:Pos}(e:cx.ls[i]?=some x)(ok:nk x=true):aP n cx (.Name x p) (λ_ fm=>gP fm i):=by
 intro c env fm W g
 refine .of λr hr hb=>oB hr hb λv h1 hr=>bF hr hb λh2 hr=>?_
 obtain⟨m,ns,k⟩:=g.f.fr
 obtain⟨u,a,b⟩:=k i x v e h1 h2
 exact R5 (Qc g.f.st.kind (g.f.st.look (g.f.st.locs i x e)) ns a (.mk W v hr.symm (.refl W) b)) (tW ok)
theorem aip{x:Str}{j:Zc}{p:Pos}(e:cx.cs[j]?=some x)(ok:nk x=true):aP n cx (.Name x p) (λ_ fm=>xS fm j):=by
 intro c env fm W g
 obtain⟨a,b,l⟩:=g.f.e9 j x e
 refine .of λr hr hb=>oB hr hb λi h1 hr=>oB hr hb λoc h2 hr=>oB hr hb λv h3 hr=>oN h2 λo ho hc=>?_
 rw[Za (a.symm.trans h1)]at b
 have ro:=W.R.obj i o _ ho b
 rw[Cp hc,h3]at ro
 obtain⟨q,hx,hd,w,hw,rv⟩:=ro
 rw[hw]at hd
 have k:aS VV W r w W.s:=.mk W v hr.symm (.refl W) rv
 rcases g.f.st.e9 j x e with kd|kd
 ·exact R5 (wpAny_loadName_cell g.f.st.kind (g.f.st.look kd) l ⟨_,hx,hd⟩ k) (tW ok)
 ·exact R5 (wpAny_loadName_free g.f.st.kind (g.f.st.look kd) l ⟨_,hx,hd⟩ k (acb ok)) (tW ok)
theorem yn{c:Cn}{env:Env}{W:Wd}{x:Str}{k:Zc}{v:AV}{p:Pos}(C:nJ cx env)(hx:T.S.nm k=some x)(hk:cx.cA.lookup x=some .globalImplicit)(gl:T.S.gl k=some v){Q:Zf→Zs→Prop}{E:Zf→Zs→Prop}(h:∀u,W.V v u→Q u W.s):wpAny T.M c.A (eval (.Name x p) env) Q E W.s:=by
 obtain⟨mg,mb,h1,h2,h3⟩:=O.glob
 obtain⟨y,u,g⟩:=h3 k v gl
 have hu:=g.at_
 rw[Za (g.nm.symm.trans hx)]at hu
 have ok:=g.ok
 rw[Za (g.nm.symm.trans hx)]at ok
 refine Name_function_global C.kind (C.look hk) ?_ (tW ok)
 rcases hu with hu|hu
 ·exact loadGlobal_global (C.pz▸h1.keeps W.R.base) hu (h u (g.v _ _))
 ·exact loadGlobal_builtin (C.pz▸h1.keeps W.R.base) hu.1 (C.blt▸h2.keeps W.R.base) hu.2 (h u (g.v _ _))
theorem aiw{x:Str}{k:Zc}{p:Pos}(hx:T.S.nm k=some x)(hk:cx.cA.lookup x=some .globalImplicit):aP n cx (.Name x p) (λ_=>vX T.S k):=by
 intro c env fm W g
 exact .of λr hr hb=>oB hr hb λv h1 hr=>yn g.f.st hx hk h1 λu b=>.mk W v hr.symm (.refl W) b
end
inductive xj(W:Wd)(C:Zj)(fs:Zb (Zc×AV))(u:Zf):Prop
 |mk{x:Zj}{ox:Obj}{es:Zb Y4}{n:Zc}(q:u=.ref x)(f:j8 C fs)(I:InstAt W.h x ox C (some (dictOf es n)))(r:Vf W.Y W.h fs es)
section
variable{c:Cn}{W:Wd}{u:Zf}{v w:AV}{a:Zc}
theorem Ez{Z:X9 Zf→Prop}{p:Zj×Zd Zj}{C:Zj}{fs:Zb (Zc×AV)}(e:aY a fs=some w):eC W.Y W.h p Z C fs→xj W C fs (.ref p.1)
 |.z _ f _ _ _ _ _=>aF ((f▸rfl:none=aY a fs).trans e)
 |.s _ hx a b c _ hd r f _=>.mk rfl f ⟨hx,a,by unfold notCls;rw[c],by rw[b];exact hd⟩ r
theorem EV(rv:W.V v u){q:Zj×Zb (Zc×AV)}(e:pE W.H v=some q)(e2:aY a q.2=some w):xj W q.1 q.2 u:=
 oO e (λe=>oN e λo h1 h2=>oN h1 λi h3 h4=>by
  have rv:W.V (.ref i) u:=qB h3▸rv
  obtain⟨p,z,hp⟩:=rv
  have ro:=W.R.obj i o p h4 hp
  rw[z]
  refine oO h2 (λh=>?_) λh=>oO h (λh=>?_) λh=>?_
  ·rw[xA h]at ro
   obtain⟨q,hx,hd,r,f,l⟩:=ro
   exact .mk rfl f ⟨hx,rfl,rfl,hd⟩ r
  ·rw[uK h]at ro;exact Ez e2 ro
  ·rw[Cq h]at ro;exact Ez e2 ro) λe=>by
  have rv:W.V (.dh q.1 q.2) u:=Cr e▸rv
  obtain⟨z,fi,r,f,g⟩:=rv
  exact .mk z fi ⟨f.g,rfl,rfl,g.g⟩ r
theorem vT{α:Type}{a:Zc}{v:α}{l:Zb (Zc×α)}:aY a l=some v→(a,v)∈l:=by
 induction l with
 |nil=>exact aF
 |cons p r ih=>
  intro e
  have e:(Zp (aY a r) (some p.2) (Zi a p.1):Zd α)=some v:=e
  cases q:Zi a p.1 with
  |false=>rw[q]at e;exact .tail _ (ih e)
  |true=>rw[q]at e;rw[Zr q,←Za e];exact .head _
theorem TY{x y:Str}{e:Y4}{t:Tok}{r:Zb Y4}(he:e.key=.str y t):getL x (e::r)=if y=x then some (some e.val)else getL x r:=by
 have ks:e.key.isStr x=decide (y=x):=by rw[he];rfl
 have nr:e.refKey=false:=by unfold DictEntry.refKey;rw[he]
 unfold getL
 rw[Tf,ks,S4,nr]
 by_cases q:y=x
 ·rw[if_pos q,Y6 q]
 ·rw[if_neg q,Ym q];rfl
theorem jT{α:Type}(k j:Zc)(v:α)(l:Zb (Zc×α)):aY k ((j,v)::l)=if k=j then some v else aY k l:=by
 show(Zp (aY k l) (some v) (Zi k j):Zd α)=_
 by_cases e:k=j
 ·rw[if_pos e,e,Wu]
 ·rw[if_neg e,show Zi k j=false from(Bool.eq_false_iff.mpr λz=>e (Zr z))]
theorem Vf.look{Y:Ly}{h:Yc}{x:Str}(hx:T.S.nm a=some x){fs:Zb (Zc×AV)}:∀{es:Zb Y4},Vf Y h fs es→aa (aY a fs) (getL x es=some none) λv=>∃u,getL x es=some (some u)∧V Y h v u:=by
 induction fs with
 |nil=>intro es r;rw[show es=[] from r];exact rfl
 |cons p fs ih=>
  intro es r
  obtain⟨rfl,hk,he,hh,ra,rs⟩:=(r:iC p.1 (V Y h p.2) (Vf Y h fs) es)
  rw[TY he,show aY a (p::fs)=_ from jT a p.1 p.2 fs]
  by_cases q:a=p.1
  ·rw[if_pos q,if_pos (Za (hk.symm.trans (q▸hx)))];exact⟨_,rfl,ra⟩
  ·rw[if_neg q,if_neg λz=>q (O.pJ hx (hk.trans (Ze some z)))];exact ih rs
theorem YP{α:Type}{o:Zd α}{P:Prop}{f:α→Prop}{a:α}(z:aa o P f)(e:o=some a):f a:=by rw[e]at z;exact z
end
end Mine
namespace Mine
section
variable{α β:Type}{V:Wd→α→β→Prop}{W:Wd}{r:Res α}{a:α}{b:β}{h':Yc}{tk:Zc}
structure qs(W:Wd)(s:Zs)(H:AH)(i:Zc)(q:Zj×Zd Zj)(W':Wd):Prop where
 s:W'.s=s
 H:W'.H=H
 le:Le W W'
 at_:W'.Y.ρ i=some q
theorem Wd.put{i:Zc}{q:Zj×Zd Zj}{o:AO}{H':AH}(hp:∀p,W.Y.ρ i=some p→q.1=p.1∧(p.2=none∨q.2=p.2))(hq:∀a,bV q a→(∃p,W.Y.ρ i=some p∧bV p a)∨W.h.get? a=none)(k:Keeps (λa=>∃p,W.Y.ρ i=some p∧bV p a) W.Y W.h h')
  (th:∀a,bV q a→∃o,h'.get? a=some o)(len:∀j,j<H'.size↔j<W.H.size∨j=i)(dn:c8 H'.t H'.size)(g:∀j,j≠i→H'.get j=W.H.get j)(gi:H'.get i=some o)(ro:∀Y',Y'.ρ i=some q→cO W.Y W.h Y' h'→RO Y' h' q o):∃W',qs W {W.s with heap:=h',toks:=tk} H' i q W':=
 have z:=W.R.put (H':=H') hp hq k th len dn g gi (ro _ (iE W.Y i q))
 ⟨⟨W.Y.at_ i q,{W.s with heap:=h',toks:=tk},H',z.2⟩,rfl,rfl,⟨z.1,rfl,rfl,rfl⟩,iE W.Y i q⟩
theorem aS.xc{i:Zc}{q:Zj×Zd Zj}{H':AH}{s:Zs}(er:r=.ok a H')(x:∃W',qs W s H' i q W')(v:∀W':Wd,Le W W'→W'.Y.ρ i=some q→V W' a b):aS V W r b s:=x.elim λW' z=>z.s▸.mk W' a (z.H.symm▸er) z.le (v W' z.le z.at_)
theorem aS.put{i:Zc}{q:Zj×Zd Zj}{o:AO}{H':AH}(er:r=.ok a H')(hp:∀p,W.Y.ρ i=some p→q.1=p.1∧(p.2=none∨q.2=p.2))(hq:∀a,bV q a→(∃p,W.Y.ρ i=some p∧bV p a)∨W.h.get? a=none)(k:Keeps (λa=>∃p,W.Y.ρ i=some p∧bV p a) W.Y W.h h')
  (th:∀a,bV q a→∃o,h'.get? a=some o)(len:∀j,j<H'.size↔j<W.H.size∨j=i)(dn:c8 H'.t H'.size)(g:∀j,j≠i→H'.get j=W.H.get j)(gi:H'.get i=some o)(ro:∀Y',Y'.ρ i=some q→cO W.Y W.h Y' h'→RO Y' h' q o)
  (v:∀W':Wd,Le W W'→W'.Y.ρ i=some q→V W' a b):aS V W r b {W.s with heap:=h',toks:=tk}:=.xc er (Wd.put hp hq k th len dn g gi ro) v
theorem Keeps.one{D:Zj→Prop}{d:Zj}(hd:D d)(n:¬W.Y.ar d)(sb:Xw d W.h h')(th:∃o,h'.get? d=some o):Keeps D W.Y W.h h' where
 keep b ob nb _ e:=(sb.2 b λq=>nb (q▸hd)).trans e
 dy b hb m x:=x.sameBut sb λq=>n (q▸hb)
 c7 b ob e:=(Xx (b=d)).elim (λq=>q▸th) λq=>⟨ob,(sb.2 b q).trans e⟩
theorem Wd.turn{i:Zc}{p:Zj×Zd Zj}{o:AO}(hp:W.Y.ρ i=some p){d:Zj}(hd:bV p d)(sb:Xw d W.h h')(th:∃o,h'.get? d=some o)(ro:∀Y',cO W.Y W.h Y' h'→RO Y' h' p o):∃W',qs W {W.s with heap:=h',toks:=tk} (W.H.set i o) i p W':=
 have lt:=(W.R.len i).mpr ⟨p,hp⟩
 have K:Keeps (λa=>∃p,W.Y.ρ i=some p∧bV p a) W.Y W.h h':=.one ⟨p,hp,hd⟩ (W.R.apart d (.mk hp hd)) sb th
 Wd.put (λp' e=>Za (hp.symm.trans e)▸⟨rfl,.inr rfl⟩) (λa f=>.inl ⟨p,hp,f⟩) K (λb f=>(W.R.there b (W.R.sub b (.mk hp f))).elim λo e=>K.c7 b o e) (λj=>⟨.inl,λz=>z.elim id λe=>e▸lt⟩) (W.R.dg.set i lt)
  (W.R.dg.ne i (Xi lt)) (W.R.dg.self i (Xi lt)) λY' _=>ro Y'
theorem aS.turn{i:Zc}{p:Zj×Zd Zj}{o:AO}(er:r=.ok a (W.H.set i o))(hp:W.Y.ρ i=some p){d:Zj}(hd:bV p d)(sb:Xw d W.h h')(th:∃o,h'.get? d=some o)(ro:∀Y',cO W.Y W.h Y' h'→RO Y' h' p o)(v:∀W':Wd,Le W W'→V W' a b):aS V W r b {W.s with heap:=h',toks:=tk}:=
 .xc er (Wd.turn hp hd sb th ro) λW' le _=>v W' le
theorem Wd.new{q:Zj×Zd Zj}{o:AO}(hq:∀a,bV q a→W.h.get? a=none∧∃o,h'.get? a=some o)(k:Keeps No W.Y W.h h')(ro:∀Y',cO W.Y W.h Y' h'→RO Y' h' q o):∃W',qs W {W.s with heap:=h',toks:=tk} (W.H.push o) W.H.size q W':=
 have no:∀p,W.Y.ρ W.H.size=some p→False:=λp e=>S3 _ ((W.R.len _).mpr ⟨p,e⟩)
 Wd.put (λp e=>(no p e).elim) (λa f=>.inr (hq a f).1) ⟨λb ob _=>k.keep b ob id,k.dy,k.c7⟩ (λa f=>(hq a f).2) (λj=>Nat.lt_succ_iff_lt_or_eq) W.R.dg.push (W.R.dg.ne _ (Yg _)) (W.R.dg.self _ (Yg _)) λY' _=>ro Y'
theorem aS.new{q:Zj×Zd Zj}{o:AO}(er:r=.ok a (W.H.push o))(hq:∀a,bV q a→W.h.get? a=none∧∃o,h'.get? a=some o)(k:Keeps No W.Y W.h h')(ro:∀Y',cO W.Y W.h Y' h'→RO Y' h' q o)(v:∀W':Wd,Le W W'→W'.Y.ρ W.H.size=some q→V W' a b):aS V W r b {W.s with heap:=h',toks:=tk}:=
 .xc er (Wd.new hq k ro) v
theorem aS.grow(er:r=.ok a W.H)(k:Keeps No W.Y W.h h')(v:∀W':Wd,Le W W'→W'.Y=W.Y→W'.s={W.s with heap:=h',toks:=tk}→V W' a b):aS V W r b {W.s with heap:=h',toks:=tk}:=
 have le:Le W ⟨W.Y,{W.s with heap:=h',toks:=tk},W.H,W.R.grow k⟩:=⟨.grow k,rfl,rfl,rfl⟩
 .mk ⟨W.Y,{W.s with heap:=h',toks:=tk},W.H,W.R.grow k⟩ a er le (v _ le rfl rfl)
theorem Wd.fresh(W:Wd){b:Zc}(h:W.h.objs.size≤b):W.h.get? b=none∧¬W.Y.Mu b:=
 have e:=Tq h
 ⟨e,λq=>(W.R.there b q).elim λ_ z=>nomatch e.symm.trans z⟩
end
section
open PySem.Builtin PySem.Builtin.ObjectAttr
variable{prog:Program}{w:Yo}{A:Yu}{E:Zf→Zs→Prop}{s:Zs}{K:Frag}{x C dx:Zj}{ox:Obj}{od:Zd Obj}{name:Str}{v:Zf}
theorem N7{expr:Zh}{Q:Zf→Zs→Prop}(X:K.In s.heap)(I:InstAt s.heap x ox C od)(k:A7 K C name)(hf:findObj K C od name=some (.value v))(hh:handedIn v=true)(h:Q v {s with toks:=s.toks+1}):wpAny (model prog w) A (getAttr (.ref x) name expr) Q E s:=by
 have ht:=I.type (M:=model prog w)
 have FX:=PySem.F.excAttr_ValueError
 refine Zg (Rz (Y0 (Zg (ht _ _ _ _ (λ_ _ e=>e) (Zg (Sd X k.ga _ _ _ _ (λ_ _ e=>e) ?_))))))
 have ne:(onTheHeap (.ref C)&&Ua "BaseException.__getattribute__"==Ua "object.__getattribute__")=false:=(Ze (_&&·) (by decide+kernel)).trans (Us _)
 dsimp only
 rw[ne,if_neg Yn]
 have hb:Looks (model prog w) s.heap (hookBefore (.ref C)) none:=looks_hook X (by show(if true=true then findIn K (.ref C) _ else _)=_;rw[if_pos rfl];exact k.hk)
 refine Zg (hb _ _ _ _ (λ_ _ e=>e) (Zg (wpAny_attempt (Y0 ?_))))
 unfold callGetattribute
 rw[show(expr&&onTheHeap (Ua "BaseException.__getattribute__"))=false from Us _,if_neg Yn]
 unfold boundAndCalled
 rw[FX.ga.bind]
 refine Zg (Zq (S6 (Tk FX.ga.plain PySem.F.entry_bexc_ga ?_)))
 refine @check_slot (model prog w) _ _ {s with toks:=s.toks+1} "BaseException.__getattribute__" "BaseException" "__getattribute__" (.ref x) [.str name s.toks] [] _ (by decide+kernel) (by decide+kernel) (ht.andThen (Qf X k.mr)) (PySem.F.args_bexc_ga (.ref x) (.str name s.toks)) ?_
 unfold Builtin.«object.__getattribute__»
 refine Zg (Zq (Zg (Zq (Zg (ht _ _ _ _ (λ_ _ e=>e) (Zg (looks_find (M:=model prog w) X I hf _ _ _ _ (λ_ _ e=>e) (Zq ?_))))))))
 show wpAny _ _ (handedOut v) _ _ _
 rw[handedOut_of hh];exact Zq h
theorem ad5(self:Zf)(b:Zh)(l:Zb Zj):refuseLoop self "__setattr__" (l.map .ref++rN b)=pure ():=by
 induction l with
 |nil=>cases b with
  |false=>exact PySem.F.store_object.passes self
  |true=>exact PySem.F.store_ValueError.passes self
 |cons c r ih=>exact(refuseLoop_ref ..).trans ih
theorem ajG(b:Zh)(l:Zb Zj):(l.map X3++rN b).contains (.type "object")=true:=by
 induction l with
 |nil=>cases b<;>decide+kernel
 |cons c r ih=>exact(V3 ..).trans ((Ze (_||·) ih).trans (Te _))
theorem ajH(b:Zh)(l:Zb Zj):(l.map X3++rN b).isEmpty=false:=by cases l<;>cases b<;>rfl
theorem ajq{R:Result→Zs→Prop}{tk:Tok}(X:K.In s.heap)(I:InstAt s.heap x ox C od)(k:rZ K C name)
  (h:∀b,wpAny (model prog w) A.in1 (storeInOwnDict (.ref x) (.ref C) (.str name tk) name v b)
   (λfin s'=>match fin with|.done f=>R (.ok f) s'|.again c'=>c'.quiet=true∧codeAny (model prog w) A c' R s') (λe s'=>R (.error e) s') s):
  codeAny (model prog w) A (.call (.builtin "object.__setattr__") ⟨[.ref x,.str name tk,v],[]⟩) R s:=by
 have SF:=PySem.F.store_object
 obtain⟨cd,l,b,hc,ho⟩:=k.ov
 have hm:Looks (model prog w) s.heap (mroOf (.ref C)) (l.map .ref++rN b):=ho▸(Qg X hc).andThen .now
 have sub:Looks (model prog w) s.heap (isInstance (.ref x) (.type "object")) true:=I.type.andThen (Qf X (by unfold mroIn;rw[hc,Option.bind_some,ho,ajH,if_neg Yn,ajG]))
 refine Tk SF.slot.plain SF.entry (@check_slot (model prog w) _ _ s "object.__setattr__" "object" "__setattr__" (.ref x) [.str name tk,v] [] _ SF.kind SF.split sub (SF.args (.ref x) (.str name tk) v) ?_)
 obtain⟨attr,ha,hr⟩:=Option.bind_eq_some_iff.mp k.tk
 have L3:Looks (model prog w) s.heap (storeTaker? attr) none:=by
  cases attr with
  |none=>exact .now
  |some a=>
   obtain⟨b,hb,hr⟩:=Option.map_eq_some_iff.mp hr
   refine(looks_takesIn X hb).andThen ?_
   cases b with
   |false=>exact .now
   |true=>exact nomatch hr
 rw[osa_eq,refuse_eq]
 refine Zg (Zg (I.type.here (Zg (hm.here ?_))))
 rw[ad5]
 exact Zq (Zg (I.type.here (Zg ((Sd X ha).here (Zg (L3.here (h _)))))))
theorem JX{es:Zb Y4}{u:Zd Zf}(hl:getL name es=some u):(!es.toArray.any (·.key.isStr name)&&es.toArray.any (·.refKey))=false:=by
 rw[←Array.any_toList,←Array.any_toList]
 unfold getL at hl
 cases q:es.find? (·.key.isStr name)with
 |some en=>rw[List.any_eq_true.mpr ⟨en,List.mem_of_find?_eq_some q,List.find?_some q⟩];rfl
 |none=>
  rw[q]at hl
  cases z:es.any (·.refKey)with
  |true=>rw[z]at hl;exact nomatch hl
  |false=>exact Us _
theorem HC{es:Zb Y4}{n:Zc}{tk0:Tok}{u:Zd Zf}{Q:Fin→Zs→Prop}(D:s.heap.get? dx=some (dictOf es n))(hl:getL name es=some u)(hz:(putL name (Xk w.params name) (.str name s.toks) v es).length≤1000)
  (h:∀h',Xw dx s.heap h'→h'.get? dx=some (dictOf (putL name (Xk w.params name) (.str name s.toks) v es) (putN name es n))→Q (.done (.ret .none)) {s with heap:=h',toks:=s.toks+1}):
  wpAny (model prog w) A (storeInDict dx (.str name tk0) name v) Q E s:=by
 refine Zg (Zq (Zg ?_))
 unfold nsSet
 refine Zg (Zg (wpAny_askSetting (Zq (Zg (Rz (Zg (Tj D ?_)))))))
 dsimp only[dictOf]
 rw[aRefKeyMayBeTheName_at,JX hl]
 refine wpAny_updatePart D ?_
 have e:Obj.putName name (Xk w.params name) (.str name s.toks) v (dictOf es n)=dictOf (putL name (Xk w.params name) (.str name s.toks) v es) (putN name es n):=putName_dict _ _ _ _ _ _
 have D':(s.heap.update dx (Obj.putName name (Xk w.params name) (.str name s.toks) v)).get? dx=some (dictOf (putL name (Xk w.params name) (.str name s.toks) v es) (putN name es n)):=(Ys _ D (by rw[e];rfl)).trans (Ze some e)
 exact Zg (wpAny_lookBehind D' (pastItsLine_dict (Zu (Zy ..▸hz) (by decide))) (Zq (h _ (Xp ..) D')))
theorem Il{Q:Unit→Zs→Prop}(X:K.In s.heap)(I:InstAt s.heap x ox C od)(k:rZ K C name)
  (h:∀b,wpAny (model prog w) A.in1 (storeInOwnDict (.ref x) (.ref C) (.str name s.toks) name v b) (λfin s'=>match fin with|.done (.ret _)=>Q () s'|_=>False) (λ_ _=>False) {s with toks:=s.toks+1}):
  wpAny (model prog w) A (setAttr (.ref x) name v) Q E s:=by
 refine set_plain X I k.sa (ajq (s:={s with toks:=s.toks+1}) X I k λb=>Y9 (h b) (λfin s' z=>?_) λ_ _ z=>z.elim)
 rcases fin with(_|_|_|_)|_<;>first|exact z|exact z.elim
theorem HB{k:Zf}{VX:Zw}{es:Zb Y4}:(putL name VX k v es).length≤es.length+1:=by
 induction es with
 |nil=>exact Yg _
 |cons a r ih=>unfold putL;split<;>first|exact Uu _|exact X8 ih
theorem ahx{es:Zb Y4}{n:Zc}{u:Zd Zf}{Q:Unit→Zs→Prop}(X:K.In s.heap)(I:InstAt s.heap x ox C (some (dictOf es n)))(hd:ox.dict=some dx)(k:rZ K C name)(hl:getL name es=some u)(hz:es.length≤900)
  (h:∀h',Xw dx s.heap h'→h'.get? dx=some (dictOf (putL name (Xk w.params name) (.str name (s.toks+1)) v es) (putN name es n))→Q () {s with heap:=h',toks:=s.toks+2}):
  wpAny (model prog w) A (setAttr (.ref x) name v) Q E s:=by
 refine Il X I k λb=>?_
 obtain⟨cd,hc,fV⟩:=any_some k.hd
 have D:=I.dict
 rw[hd]at D
 obtain⟨hx,Fs,hn,-⟩:=I
 obtain⟨oc,odi,oda,osl⟩:=ox
 subst Fs hd
 refine Zg (Zq (Zg (Zg (Tj hx (Zg ((Qg X hc).here (s:={s with toks:=s.toks+1}) ?_))))))
 rw[fV]
 exact Zq (a:=some dx) (HC (s:={s with toks:=s.toks+1}) D hl (Zu HB (Zu (X8 hz) (by decide))) λh' sb cH=>h h' sb cH)
theorem ahA{ws:X9 Zf}{sl:X9 (Zd Zf)}{Q:Unit→Zs→Prop}(X:K.In s.heap)(hx:s.heap.get? x=some ⟨.ref C,none,.fields ws,sl⟩)(k:rZ K C name)
  (h:∀h',h'.get? x=some ⟨.ref C,some s.heap.objs.size,.fields ws,sl⟩→h'.get? s.heap.objs.size=some (dictOf [⟨Xk w.params name,.str name (s.toks+1),v⟩] 1)→(∀b o,b≠x→s.heap.get? b=some o→h'.get? b=some o)→Q () {s with heap:=h',toks:=s.toks+2}):
  wpAny (model prog w) A (setAttr (.ref x) name v) Q E s:=by
 refine Il (od:=none) X ⟨hx,rfl,rfl,trivial⟩ k λb=>?_
 obtain⟨cd,hc,fV⟩:=any_some k.hd
 refine Zg (Zq (Zg (Zg (Tj hx (Zg ((Qg X hc).here (s:={s with toks:=s.toks+1}) ?_))))))
 rw[fV]
 have xs:x≠s.heap.objs.size:=V1 (V4 hx)
 have FF:=Zv {cls:=.type "dict",data:=.dict #[]} hx
 have WA:=Ys (λo=>{o with dict:=some s.heap.objs.size}) FF rfl
 have hd2:((s.heap.push {cls:=.type "dict",data:=.dict #[]}).update x λo=>{o with dict:=some s.heap.objs.size}).get? s.heap.objs.size=some (dictOf [] 0):=(Qy _ _ _ _ xs.symm).trans (Heap.get?_push_at rfl rfl)
 show wpAny _ _ (alloc {cls:=Value.type "dict",data:=Data.dict #[]}>>=λd=>update x (λo=>{o with dict:=some d})>>=λ_=>dictMade (.ref C) x d) _ _ _
 exact Zg (wpAny_alloc (s:={s with toks:=s.toks+1}) (Zg (wpAny_update FF (Zq (a:=some s.heap.objs.size) (HC (es:=[]) (n:=0) (u:=none) hd2 rfl (Zu HB (show 0+1≤1000 by decide)) λh' sb cH=>h h' ((sb.2 x xs).trans WA) cH λb o ne e=>
  (sb.2 b (V1 (V4 e))).trans ((Qy _ _ _ _ ne).trans (Zv _ e)))))))
end
end Mine
namespace Mine
section
variable{c:Cn}{W:Wd}{u:Zf}{v w:AV}{a:Zc}{x:Str}
theorem CG{A:Yu}{C:Zj}{fs:Zb (Zc×AV)}(f:xj W C fs u)(hx:T.S.nm a=some x)(e:aY a fs=some w){expr:Zh}{Q:Zf→Zs→Prop}{E:Zf→Zs→Prop}(h:∀u' tk,W.V w u'→Q u' {W.s with toks:=tk}):wpAny T.M A (getAttr u x expr) Q E W.s:=by
 obtain⟨q,⟨ci,hc,hf⟩,I,r⟩:=f
 obtain⟨y,K,F⟩:=O.fld hc (hf _ (vT e))
 rw[q,Za (hx.symm.trans F.nm)]
 obtain⟨g,e2,vu⟩:=YP (Vf.look F.nm r) e
 have X:=F.dG.keeps W.R.base
 cases q:ci.isExc with
 |false=>exact get_value X I (F.get q).ga (findObj_own (F.get q).hd (F.get q).no rfl e2) (V.handed _ _ vu) (h _ _ vu)
 |true=>exact N7 X I (F.exc q) (findObj_own (F.exc q).hd (F.exc q).no rfl e2) (V.handed _ _ vu) (h _ _ vu)
theorem Im(rv:W.V v u)(hx:T.S.nm a=some x){expr:Zh}:bh c VV W (mz v a W.H) (getAttr u x expr):=
 .of λr hr hb=>oB hr hb λw h1 hr=>oN h1 λq h2 h3=>CG (EV rv h2 h3) hx h3 λu' tk vu=>.mk (W.tok tk) w hr.symm (.tok W tk) vu
theorem uh{α:Type}(k j:Zc)(v u:α)(l:Zb (Zc×α)):eR k v ((j,u)::l)=if k=j then(j,v)::l else(j,u)::eR k v l:=by
 show(Zp ((j,u)::eR k v l) ((j,v)::l) (Zi k j):Zb (Zc×α))=_
 by_cases e:k=j
 ·rw[if_pos e,e,Wu]
 ·rw[if_neg e,show Zi k j=false from(Bool.eq_false_iff.mpr λz=>e (Zr z))]
theorem Vf.set{Y:Ly}{h:Yc}(hx:T.S.nm a=some x){t:Tok}{fs:Zb (Zc×AV)}(hv:V Y h v u):∀{es:Zb Y4},Vf Y h fs es→Vf Y h (eR a v fs) (putL x (Xk T.P x) (.str x t) u es):=by
 induction fs with
 |nil=>intro es r;rw[show es=[] from r];exact .mk rfl hx rfl rfl hv rfl
 |cons p fs ih=>
  intro es r
  obtain⟨rfl,hk,he,hh,ra,rs⟩:=(r:iC p.1 (V Y h p.2) (Vf Y h fs) es)
  rename_i e y t' ef
  have ks:e.key.isStr x=decide (y=x):=by rw[he];rfl
  unfold putL
  rw[ks,show eR a v (p::fs)=_ from uh a p.1 v p.2 fs]
  by_cases q:a=p.1
  ·rw[if_pos q,Y6 (Za (hk.symm.trans (q▸hx)))];exact .mk rfl hk he hh hv rs
  ·rw[if_neg q,Ym λz=>q (O.pJ hx (hk.trans (Ze some z)))];exact .mk rfl hk he hh ra (ih rs)
theorem Vf.len{Y:Ly}{h:Yc}{fs:Zb (Zc×AV)}:∀{es:Zb Y4},Vf Y h fs es→fs.length=es.length:=by
 induction fs with
 |nil=>intro es r;rw[show es=[] from r];rfl
 |cons p fs ih=>
  intro es r
  obtain⟨rfl,_,_,_,_,rs⟩:=(r:iC p.1 (V Y h p.2) (Vf Y h fs) es)
  exact Ze (·+1) (ih rs)
theorem dH{α:Type}(l:Zb α):aJ l=l.length:=by
 induction l with
 |nil=>rfl
 |cons a r ih=>exact Ze Zk ih
theorem Fp{k:Zc}{l:Zb Zc}:aK k l=true→k∈l:=by
 induction l with
 |nil=>exact aA
 |cons a r ih=>
  intro h
  have h:(Zp (aK k r) true (Zi k a):Zh)=true:=h
  cases q:Zi k a with
  |true=>rw[Zr q];exact .head _
  |false=>rw[q]at h;exact .tail _ (ih h)
theorem Ii{fs:Zb (Zc×AV)}:(eR a v fs).length≤fs.length+1∧∀w,aY a fs=some w→(eR a v fs).length=fs.length:=by
 induction fs with
 |nil=>exact⟨Yg _,λw e=>aF e⟩
 |cons p r ih=>
  rw[show eR a v (p::r)=_ from uh a p.1 v p.2 r,show aY a (p::r)=_ from jT a p.1 p.2 r]
  by_cases q:a=p.1
  ·rw[if_pos q,if_pos q];exact⟨Uu _,λ_ _=>rfl⟩
  ·rw[if_neg q,if_neg q];exact⟨X8 ih.1,λw e=>Ze (·+1) (ih.2 w e)⟩
theorem ahs{fs:Zb (Zc×AV)}{l:Zb Zc}(hf:∀kv∈fs,kv.1∈l)(ha:a∈l):∀kv∈eR a v fs,kv.1∈l:=by
 induction fs with
 |nil=>exact List.forall_mem_cons.mpr ⟨ha,λ_ h=>nomatch h⟩
 |cons p r ih=>
  rw[show eR a v (p::r)=_ from uh a p.1 v p.2 r]
  have hf:=List.forall_mem_cons.mp hf
  by_cases q:a=p.1
  ·rw[if_pos q];exact List.forall_mem_cons.mpr hf
  ·rw[if_neg q];exact List.forall_mem_cons.mpr ⟨hf.1,ih hf.2⟩
theorem zp{C:Zj}{fs:Zb (Zc×AV)}(g:zo T.S C a fs=true)(f:fs=[]∨j8 C fs)(l:fs.length≤61){P:Prop}(k:∀ci,T.S.cls C=some ci→a∈ci.fields→j8 C (eR a v fs)→(eR a v fs).length≤61→P):P:=
 have done:∀ci,T.S.cls C=some ci→a∈ci.fields→(eR a v fs).length≤61→P:=λci hc ha hl=>k ci hc ha ⟨ci,hc,ahs (f.elim (λe=>e▸λ_ h=>nomatch h) λ⟨ci',UQ,hf⟩=>Za (UQ.symm.trans hc)▸hf) ha⟩ hl
 oE (o:=aY a fs) g (λ_ g=>oT g λci hc g=>bA g λg1 g2=>done ci hc (Fp g1) (Zu Ii.1 (X8 (dH fs▸Zm g2))))
  λw hw _=>f.elim (λe=>aF ((e▸rfl:none=aY a fs).trans hw)) λ⟨ci,hc,hf⟩=>done ci hc (hf _ (vT hw)) (Ii.2 w hw▸l)
theorem abM{h:Yc}{a b:Zj}{o o':Obj}(e:h.get? a=some o)(e':h.get? b=some o')(n:o≠o'):a≠b:=λz=>n (Za (e.symm.trans (z▸e')))
variable{i:Zc}{p:Zj×Zd Zj}{C:Zj}{fs:Zb (Zc×AV)}
theorem Ik{o':AO}{r:Res Unit}{d:Zj}{ox:Obj}{es:Zb Y4}{n:Zc}{ci:bU}(er:r=.ok () (W.H.set i o'))(hp:W.Y.ρ i=some p)(q:p.2=some d)(I:InstAt W.h p.1 ox C (some (dictOf es n)))(hd:ox.dict=some d)(nd:ox≠dictOf es n)(r0:Vf W.Y W.h fs es)(l:fs.length≤61)(hx:T.S.nm a=some x)(rv:W.V v u)(hc:T.S.cls C=some ci)(ha:a∈ci.fields)
  (ro:∀Y' h' ef n',h'.get? p.1=some ox→h'.get? d=some (dictOf ef n')→Vf Y' h' (eR a v fs) ef→RO Y' h' p o'):wpAny T.M c.A (setAttr (.ref p.1) x u) (aS VU W r) (cV c.envs W r) W.s:=by
 obtain⟨y,K,F⟩:=O.fld hc ha
 have D:=I.dict
 rw[hd]at D
 have D:W.h.get? d=some (dictOf es n):=D
 obtain⟨g,e2⟩:∃g,getL x es=some g:=by
  have z:=Vf.look hx r0
  cases q:aY a fs with
  |none=>rw[q]at z;exact⟨_,z⟩
  |some w=>rw[q]at z;exact z.elim λ_ z=>⟨_,z.1⟩
 have k:=F.set
 rw[Za (F.nm.symm.trans hx)]at k
 exact ahx (F.dG.keeps W.R.base) I hd k e2 (Zu (r0.len▸l) (by decide)) λh' sb cH=>.turn er hp (.d q) sb ⟨_,cH⟩ (λY' m=>ro Y' h' _ _ ((sb.2 _ (abM I.1 D nd)).trans I.1) cH ((r0.mono m).set hx (V.mono m _ _ rv))) λ_ _=>trivial
theorem ahw{r:Res Unit}{ci:bU}{o:Obj}{vs:X9 Zf}(er:r=.ok () (W.H.set i (.exc C (eR a v fs))))(hp:W.Y.ρ i=some p)(q:p.2=none)(f:fs=[])(h1:W.h.get? p.1=some o)(h2:o.cls=.ref C)(h3:o.dict=none)(h4:o.data=.fields vs)(h5:vs.size=6∧vs[1]?=some .none)(hx:T.S.nm a=some x)(rv:W.V v u)(hc:T.S.cls C=some ci)(ha:a∈ci.fields)
  (hf:j8 C (eR a v fs))(hl:(eR a v fs).length≤61):wpAny T.M c.A (setAttr (.ref p.1) x u) (aS VU W r) (cV c.envs W r) W.s:=by
 obtain⟨y,K,F⟩:=O.fld hc ha
 have k:=F.set
 rw[Za (F.nm.symm.trans hx)]at k
 obtain⟨oc,odd,dt,sl⟩:=o
 subst h2 h3 h4 f
 have lt:=(W.R.len i).mpr ⟨p,hp⟩
 have sz:=W.fresh (Yg _)
 refine ahA (F.dG.keeps W.R.base) h1 k λh' cH at2 kp=>?_
 have fe:∀b,bV (p.1,some W.h.objs.size) b→b=p.1∨b=W.h.objs.size:=λb f=>f.casesOn .inl λe=>.inr (Za e).symm
 refine .put (q:=(p.1,some W.h.objs.size)) er (λp' e=>Za (hp.symm.trans e)▸⟨rfl,.inl q⟩) (λb f=>(fe b f).imp (λe=>⟨p,hp,.x e⟩) λe=>by rw[e];exact sz.1) ⟨λb ob n _ e=>kp b ob (λz=>n ⟨p,hp,.x z⟩) e,λb hb m ns=>?_,λb ob e=>(Xx (b=p.1)).elim (λz=>⟨_,z▸cH⟩) λz=>⟨ob,kp b ob z e⟩⟩
  (λb f=>(fe b f).elim (λe=>⟨_,e▸cH⟩) λe=>⟨_,e▸at2⟩) (λj=>⟨.inl,λz=>z.elim id λe=>e▸lt⟩) (W.R.dg.set i lt) (W.R.dg.ne i (Xi lt)) (W.R.dg.self i (Xi lt))
  (λY' _ m=>.s rfl cH rfl rfl rfl h5 at2 (.mk rfl hx rfl rfl (V.mono m _ _ rv) rfl) hf hl) λ_ _ _=>trivial
 obtain⟨o1,es,ep,h1,r⟩:=ns
 exact⟨o1,es,ep,kp b o1 (λz=>W.R.apart _ (.mk hp (.x z)) hb) h1,r⟩
theorem Io{o:AV}{ou:Zf}(ro:W.V o ou)(rv:W.V v u)(hx:T.S.nm a=some x):bh c VU W (oX T.S o a v W.H) (setAttr ou x u):=by
 refine .of λr hr hb=>oB hr hb λi h1 hr=>oB hr hb λob h2 hr=>?_
 have ro:W.V (.ref i) ou:=qB h1▸ro
 obtain⟨p,rfl,hp⟩:=ro
 have ro:=W.R.obj i ob p h2 hp
 refine oE hr (λ_ hr=>oB hr hb λq h3 hr=>bB hr hb λg er=>?_) λq h3 hr=>bB hr hb λg er=>?_
 ·rw[uK h3]at ro
  obtain⟨z1,z2,h1,h2,h3,h4,h5⟩|⟨z1,h1,h2,h3,h4,h5,hd,r0,f,l⟩:=(ro:eC _ _ _ _ _ _)
  ·exact zp g (.inl z2) (z2▸Yt _) λci hc ha hf hl=>ahw er.symm hp z1 z2 h1 h2 h3 h4 h5 hx rv hc ha hf hl
  ·exact zp g (.inr f) l λci hc ha hf hl=>Ik er.symm hp z1 ⟨h1,h2,by unfold notCls;rw[h4],by rw[h3];exact hd⟩ h3 (λz=>nomatch h4.symm.trans (Ze Obj.data z)) r0 l hx rv hc ha λY' h' ef n' e1 e2 r1=>.s z1 e1 h2 h3 h4 h5 e2 r1 hf hl
 ·rw[xA h3]at ro
  obtain⟨z1,h1,hd,r0,f,l⟩:=(ro:jF _ _ _ _ _)
  exact zp g (.inr f) l λci hc ha hf hl=>Ik er.symm hp z1 ⟨h1,rfl,rfl,hd⟩ rfl (λz=>nomatch Ze Obj.data z) r0 l hx rv hc ha λY' h' ef n' e1 e2 r1=>.mk z1 e1 e2 r1 hf hl
end
end Mine
namespace Mine
section
variable{n:Zc}{cx:aQ}{c:Cn}{W:Wd}
theorem ail{o:PE}{m:Zh→Fm→AM AV}{x:Str}{a:Zc}{p:Pos}(ns:∀(env:Env)(t:Sem Zf),attributeBase o x env t=t)(hx:T.S.nm a=some x)(ih:aP n cx o m):aP n cx (.Attribute o x p) (λhd=>tH a (m hd)):=λ{c env fm W} g=>
 .cast (t:=do let o'←eval o env;standAt p.atName;let r←W8 [o'] (getAttr o' x true);letTemporaryGo o o' r;pure r) (.bind (ih g) λW1 a b _ le v=>.iZ ((Im v hx).hold.IU λb s Q E h=>Qd h)) (by
  show(do let o'←attributeBase o x env (eval o env);standAt p.atName;let r←W8 [o'] (getAttr o' x true);letTemporaryGo o o' r;pure r)=_
  rw[ns])
theorem AP{A:Yu}{v:AV}{u:Zf}{b:Zh}(rv:W.V v u)(e:pZ v=some b){Q:Zh→Zs→Prop}{E:Zf→Zs→Prop}(h:Q b W.s):wpAny T.M A (truthy u) Q E W.s:=
 bE (b:=isNone v) e (λz e=>by
  have rv:W.V .none u:=yN z▸rv
  rw[show u=.none from rv]
  exact truthy_none (Za e▸h)) λ_ e=>by
  have rv:W.V (.bool b) u:=Co e▸rv
  rw[show u=.bool b from rv]
  exact Sc h
inductive ma(n:Zc)(cx:aQ)(B:(PE→(Zh→Fm→AM AV)→Prop)):Zb PE→(Zh→Zb (Fm→AM AV))→Prop
 |nil:ma n cx B [] λ_=>[]
 |cons{e:PE}{es:Zb PE}{m:Zh→Fm→AM AV}{ms:Zh→Zb (Fm→AM AV)}:B e m→ma n cx B es ms→ma n cx B (e::es) λhd=>m hd::ms hd
def rq(u:Zh):BoolOp:=Zp .And .Or u
theorem ain{u:Zh}{es:Zb PE}{ms:Zh→Zb (Fm→AM AV)}(hs:ma n cx (aP n cx) es ms):∀{e:PE}{m:Zh→Fm→AM AV}{p:Pos},aP n cx e m→aP n cx (.BoolOp (rq u) (e::es) p) (λhd=>oH pZ u (ms hd) (m hd)):=by
 induction hs with
 |nil=>exactλih _ _ _ _ g=>ih g
 |@cons f es m' ms hf _ yF=>
  intro e m p ih c env fm W g
  refine .bind (m:=m c.hd fm) (t:=eval e env) (ih g) λW1 a b _ le v=>.iZ (.of λr hr hb=>oB hr hb λq hq hr=>Zg (Y0 (AP v hq ?_)))
  have g1:=g.le le
  have rest:oH pZ u (ms c.hd) (m' c.hd) fm W1.H=r→wpAny T.M c.A (eval (.BoolOp (rq u) (f::es) p) env) (aS VV W1 r) (cV c.envs W1 r) W1.s:=λz=>(z▸yF hf g1:bh c VV W1 r _) hb
  have stop:AM.pure a W1.H=r→wpAny T.M c.A (pure b) (aS VV W1 r) (cV c.envs W1 r) W1.s:=λz=>Zq (.mk W1 a z.symm (.refl W1) v)
  cases u<;>cases q
  ·exact stop hr
  ·exact rest hr
  ·exact rest hr
  ·exact stop hr
theorem aiI{u:Zh}{es:Zb PE}{ms:Zh→Zb (Fm→AM AV)}(hs:ma n cx (gJ n cx) es ms):∀{e:PE}{m:Zh→Fm→AM AV}{p:Pos},gJ n cx e m→gJ n cx (.BoolOp (rq u) (e::es) p) (λhd=>oH bK u (ms hd) (m hd)):=by
 induction hs with
 |nil=>
  intro e m p ih c env fm W g hb
  refine Zg (Y9 (ih g hb) (λb s' z=>?_) λ_ _ z=>z)
  cases u<;>cases b<;>exact Zq z
 |@cons f es m' ms hf _ yF=>
  intro e m p ih c env fm W g
  refine .bind (m:=m c.hd fm) (t:=isTrue e env (eval e env)) (ih g) λW1 a b _ le v=>.of λr hr hb=>?_
  have v:a=.bool b:=v
  have g1:=g.le le
  rw[v]at hr
  have rest:oH bK u (ms c.hd) (m' c.hd) fm W1.H=r→wpAny T.M c.A (isTrue (.BoolOp (rq u) (f::es) p) env (eval (.BoolOp (rq u) (f::es) p) env)) (aS VB W1 r) (cV c.envs W1 r) W1.s:=λz=>(z▸yF hf g1:bh c VB W1 r _) hb
  have stop:AM.pure (.bool b) W1.H=r→wpAny T.M c.A (pure b) (aS VB W1 r) (cV c.envs W1 r) W1.s:=λz=>Zq (.mk W1 (.bool b) z.symm (.refl W1) rfl)
  cases u<;>cases b
  ·exact stop hr
  ·exact rest hr
  ·exact rest hr
  ·exact stop hr
theorem aiP{e:PE}{m:Zh→Fm→AM AV}(nf:∀env,isTrue e env (eval e env)=(do let v←eval e env;standAt e.pos;W8 [v] (truthy v)))(ih:aP n cx e m):gJ n cx e (λhd=>zk (m hd)):=λ{c env fm W} g=>
 .cast (.bind (ih g) λW1 a b _ le v=>.iZ (.hold (.of λr hr hb=>oB hr hb λq hq hr=>AP v hq (.mk W1 (.bool q) hr.symm (.refl W1) rfl)))) (nf env)
theorem xM{W1:Wd}{a:AV}{b:Zh}{f:Zh→AM AV}{α:Type}{V:Wd→AV→α→Prop}{t:Sem α}(v:a=.bool b)(k:bh c V W1 (f b W1.H) t):bh c V W1 (oK (bK a) f W1.H) t:=by rw[v];exact k
theorem aiM{x:PE}{m:Zh→Fm→AM AV}{p:Pos}(ih:gJ n cx x m):gJ n cx (.UnaryOp .Not x p) (λhd=>zj (m hd)):=λg=>
 .bind (ih g) λW1 a b _ le v=>xM (V:=VB) v (.done (by cases b<;>rfl))
theorem aiL{q x y:PE}{mq mx my:Zh→Fm→AM AV}{p:Pos}(iq:gJ n cx q mq)(ix:gJ n cx x mx)(iy:gJ n cx y my):gJ n cx (.IfExp q x y p) (λhd=>vY (mq hd) (mx hd) (my hd)):=λ{c env fm W} g=>
 .bind (t:=isTrue q env (eval q env)) (iq g) λW1 a b _ le v=>xM (V:=VB) v (by
  cases b with
  |true=>exact ix (g.le le)
  |false=>exact iy (g.le le))
theorem aiz{q x y:PE}{mq mx my:Zh→Fm→AM AV}{p:Pos}(iq:gJ n cx q mq)(ix:aP n cx x mx)(iy:aP n cx y my):aP n cx (.IfExp q x y p) (λhd=>vY (mq hd) (mx hd) (my hd)):=λ{c env fm W} g=>
 .bind (t:=isTrue q env (eval q env)) (iq g) λW1 a b _ le v=>xM (V:=VV) v (by
  cases b with
  |true=>exact ix (g.le le)
  |false=>exact iy (g.le le))
theorem aiC{es:Zb PE}{ms:Zh→Zb (Fm→AM AV)}(hs:ma n cx (aP n cx) es ms)(st:∀env,Xj es env=es.map λe=>(false,eval e env)):o9 n cx es (λhd=>Zo dI (λm _=>dQ m) (ms hd)):=by
 intro c env fm W pos g
 specialize st env
 rw[st]
 clear st
 revert W
 induction hs with
 |nil=>exactλg=>.done rfl
 |@cons e es m ms he _ ih=>
  exactλg=>.bind (he g) λW1 a b _ le v=>.bind (t:=W8 [b] _) (.hold (ih (g.le le))) λW2 as bs _ bD vs=>.done (hS.mk rfl (bD.v v) vs)
end
end Mine
namespace Mine
theorem fY{α:Type}(l:Zb α):∀(i:Zc),aB l i=l[i]?:=by
 induction l with
 |nil=>exactλ_=>rfl
 |cons a r ih=>exactλi=>Vc i rfl ih
theorem mw{α:Type}(l k:Zb α):aD l k=l++k:=by
 induction l with
 |nil=>rfl
 |cons a r ih=>exact Ze (a::·) ih
theorem Nz{α:Type}(l:Zb α):∀(i:Zc),pj l i=l.drop i:=by
 induction l with
 |nil=>exactλi=>(Rl (i:=i)).symm
 |cons a r ih=>exactλi=>Vc i rfl ih
theorem IS{α:Type}(l:Zb α):∀(i:Zc),iI l i=l.take i:=by
 induction l with
 |nil=>exactλi=>(Ri (i:=i)).symm
 |cons a r ih=>exactλi=>Vc i rfl λj=>Ze (a::·) (ih j)
theorem pW{α:Type}(v:α)(l:Zb α):∀(i:Zc),nB l v i=l.set i v:=by
 induction l with
 |nil=>exactλi=>rfl
 |cons a r ih=>exactλi=>Vc i rfl λj=>Ze (a::·) (ih j)
theorem aeg{α:Type}(l:Zb α):∀(k:Zb α),HR l k=l.reverse++k:=by
 induction l with
 |nil=>exactλ_=>rfl
 |cons a r ih=>exactλk=>(ih (a::k)).trans (by rw[Uv,Sl];rfl)
theorem lJ{α β:Type}(f:α→β)(l:Zb α):ag f l=l.map f:=by
 induction l with
 |nil=>rfl
 |cons a r ih=>exact Ze (f a::·) ih
section
variable{Y:Ly}{h:Yc}
theorem Vs.inv{x:AV}{xs:Zb AV}{vs:Zb Zf}(r:Vs Y h (x::xs) vs):hS (V Y h x) (Vs Y h xs) vs:=r
theorem Vs.cons{x:AV}{xs:Zb AV}{v:Zf}{vs:Zb Zf}(a:V Y h x v)(b:Vs Y h xs vs):Vs Y h (x::xs) (v::vs):=hS.mk rfl a b
theorem Vs.nil:Vs Y h [] []:=rfl
theorem Vs.len{xs:Zb AV}:∀{vs:Zb Zf},Vs Y h xs vs→xs.length=vs.length:=by
 induction xs with
 |nil=>exactλr=>(show _=[] from r)▸rfl
 |cons x xs ih=>
  intro vs r
  obtain⟨rfl,_,b⟩:=Vs.inv r
  exact Ze (·+1) (ih b)
theorem Vs.app{xs ys:Zb AV}{us:Zb Zf}(k:Vs Y h ys us):∀{vs:Zb Zf},Vs Y h xs vs→Vs Y h (xs++ys) (vs++us):=by
 induction xs with
 |nil=>exactλr=>(show _=[] from r)▸k
 |cons x xs ih=>
  intro vs r
  obtain⟨rfl,a,b⟩:=Vs.inv r
  exact .cons a (ih b)
theorem Vs.get{xs:Zb AV}{x:AV}:∀{vs:Zb Zf}{i:Zc},Vs Y h xs vs→aB xs i=some x→∃v,vs[i]?=some v∧V Y h x v:=by
 induction xs with
 |nil=>exactλ_ e=>aF e
 |cons y xs ih=>
  intro vs i r e
  obtain⟨rfl,a,b⟩:=Vs.inv r
  cases i with
  |zero=>exact⟨_,rfl,Za e▸a⟩
  |succ i=>exact(ih (i:=i) b e).elim λv z=>⟨v,z⟩
theorem Vs.take{xs:Zb AV}:∀{vs:Zb Zf}(i:Zc),Vs Y h xs vs→Vs Y h (xs.take i) (vs.take i):=by
 induction xs with
 |nil=>exactλi r=>by rw[show _=[] from r,Ri,Ri];exact .nil
 |cons x xs ih=>
  intro vs i r
  obtain⟨rfl,a,b⟩:=Vs.inv r
  cases i with
  |zero=>exact rfl
  |succ i=>exact .cons a (ih i b)
theorem Vs.drop{xs:Zb AV}:∀{vs:Zb Zf}(i:Zc),Vs Y h xs vs→Vs Y h (xs.drop i) (vs.drop i):=by
 induction xs with
 |nil=>exactλi r=>by rw[show _=[] from r,Rl,Rl];exact .nil
 |cons x xs ih=>
  intro vs i r
  cases i with
  |zero=>exact r
  |succ i=>
   obtain⟨rfl,a,b⟩:=Vs.inv r
   exact ih i b
theorem Vs.rev{xs:Zb AV}:∀{vs:Zb Zf},Vs Y h xs vs→Vs Y h xs.reverse vs.reverse:=by
 induction xs with
 |nil=>exactλr=>(show _=[] from r)▸rfl
 |cons x xs ih=>
  intro vs r
  obtain⟨rfl,a,b⟩:=Vs.inv r
  rw[Uv,Uv]
  exact Vs.app (.cons a .nil) (ih b)
theorem Vs.rep{xs:Zb AV}{vs:Zb Zf}(r:Vs Y h xs vs)(k:Zc):Vs Y h (wF k xs) (Wk k vs).flatten:=by
 induction k with
 |zero=>exact rfl
 |succ k ih=>rw[Vm,Uw,show wF (k+1) xs=_ from mw xs (wF k xs)];exact ih.app r
end
section
variable{α β:Type}{V:Wd→α→β→Prop}{W:Wd}{r:Res α}{a:α}{b:β}{tk:Zc}{c:Cn}
theorem jX{b d:Zj}(f:bV (d,none) b):b=d:=f.casesOn id λe=>nomatch e
theorem Wd.list{W:Wd}{xs:Zb AV}{vs:Zb Zf}{tk:Zc}(rv:W.Vs xs vs)(l:vs.length≤2000000):∃W',qs W {W.s with heap:=W.h.push {cls:=.type "list",data:=.seq vs.toArray},toks:=tk} (W.H.push (.list xs)) W.H.size (W.h.objs.size,none) W':=
 have g:(W.h.push {cls:=.type "list",data:=.seq vs.toArray}).get? W.h.objs.size=some (listOf vs.toArray 0):=Yb _ rfl
 Wd.new (λb f=>jX f▸⟨(W.fresh (Yg _)).1,_,g⟩) (.all λb ob e=>Zv _ e) λY' m=>eU.mk rfl g (rv.mono m) l
theorem aS.list{r:Res AV}{xs:Zb AV}{vs:Zb Zf}(er:r=.ok (.ref W.H.size) (W.H.push (.list xs)))(rv:W.Vs xs vs)(l:vs.length≤2000000):aS VV W r (.ref W.h.objs.size) {W.s with heap:=W.h.push {cls:=.type "list",data:=.seq vs.toArray},toks:=tk}:=
 .xc er (Wd.list rv l) λW' _ e=>⟨_,rfl,e⟩
theorem aS.fz{o:Obj}(er:r=.ok a W.H)(nf:o.isFreed=false)(v:∀W':Wd,Le W W'→Fz W'.Y W'.h W.h.objs.size o→V W' a b):aS V W r b {W.s with heap:=W.h.push o,toks:=tk}:=
 .grow er (.all λb ob e=>Zv _ e) λW' le eY es=>v W' le ⟨(Ze (λs=>s.heap.get? W.h.objs.size) es).trans (Yb _ nf),eY▸(W.fresh (Yg _)).2⟩
theorem big{n:Zc}(h:n≤ez):n≤2000000:=Zu h (by decide)
theorem kQ{n:Zc}(h:n≤ez):n≤sizeLine:=Zu h (by rw[Wa];decide)
theorem oC{xs:Zb AV}{vs:Zb Zf}{Y:Ly}{h:Yc}(r:Vs Y h xs vs){m:Zc}(g:Zl (aJ xs) m=true):vs.length≤m:=r.len▸dH xs▸Zm g
theorem ah8{xs:Zb AV}{vs:Zb Zf}(rv:W.Vs xs vs):bh c VV W (G2 xs W.H) (newList vs):=.of λr hr hb=>bB hr hb λg hr=>
 have l:=oC rv g
 wpAny_newList (.list (tk:=W.s.toks) hr.symm rv (big l)) (kQ l)
variable{n:Zc}{cx:aQ}
theorem aiB{es:Zb PE}{ms:Zh→Fm→AM (Zb AV)}{p:Pos}(ih:o9 n cx es ms):aP n cx (.List es p) (λhd=>zd (ms hd)):=λ{c env fm W} g=>.iZ (.bind (ih g) λW1 a b _ le v=>ah8 v)
theorem aiN{es:Zb PE}{k:Zc}{ms:Zh→Fm→AM (Zb AV)}{p:Pos}(ih:o9 n cx es ms):aP n cx (.Tuple es k p) (λhd=>zl (ms hd)):=λ{c env fm W} g=>.iZ (.bind (ih g) λW1 a b _ le v=>.of λr hr hb=>bB hr hb λg hr=>
 have l:=oC v g
 wpAny_newTuple (.fz (tk:=W1.s.toks) hr.symm rfl λW' bD f=>fQ.mk rfl (bD.vs v) (big l) f rfl rfl) (kQ l))
end
inductive LstAt(W:Wd)(xs:Zb AV)(u:Zf):Prop
 |mk{l:Zj}{vs:Zb Zf}{n:Zc}(q:u=.ref l)(g:W.h.get? l=some (listOf vs.toArray n))(r:W.Vs xs vs)(len:vs.length≤2000000)
inductive SeqAt(W:Wd)(t:Zh)(xs:Zb AV)(u:Zf):Prop
 |l(b:t=false)(x:LstAt W xs u)
 |t{l:Zj}{vs:Zb Zf}(b:t=true)(q:u=.ref l)(g:IsTup W.h l vs.toArray)(r:W.Vs xs vs)(len:vs.length≤2000000)
section
variable{W:Wd}{a:AV}{u:Zf}
theorem GH(rv:W.V a u){o:AO}(e:nu W.H a=some o){xs:Zb AV}(e2:jg o=some xs):LstAt W xs u:=
 oN e λi h1 h2=>by
  obtain⟨p,rfl,hp⟩:=(qB h1▸rv:W.V (.ref i) u)
  obtain⟨_,hx,r,l⟩:=(uN e2▸W.R.obj i o p h2 hp:RO W.Y W.h p (.list xs))
  exact .mk rfl hx r l
theorem GG(rv:W.V a u){xs:Zb AV}(e:r9 a=some xs):LstAt W xs u:=by
 obtain⟨q,r,l,f⟩:=(Cs e▸rv:W.V (.af xs) u)
 exact .mk q f.g r l
theorem Ih(rv:W.V a u){q:Zh×Zb AV}(e:aq (nC T.S a) sg=some q):SeqAt W q.1 q.2 u:=
 oN e λo h1 h2=>oN h1 λx h3 h4=>by
  have ru:u=.ref x:=(sj h3▸rv:W.V (.au x) u)
  rw[J9 h2]at h4
  obtain⟨t,xs⟩:=q
  cases t with
  |true=>obtain⟨vs,h5,h6,h7⟩:=O.Hl h4;exact .t rfl ru (h5.keeps W.R.base) (h6 _ _) h7
  |false=>obtain⟨vs,nn,h5,h6,h7⟩:=O.Hk h4;exact .l rfl (.mk ru (W.R.base _ _ h5) (h6 _ _) h7)
theorem oW(rv:W.V a u){q:Zh×Zb AV}(e:hG T.S W.H a=some q):SeqAt W q.1 q.2 u:=
 oO e (λe=>oN e λo h1 e=>oN e λxs h2 e=>Za e▸.l rfl (GH rv h1 h2)) λe=>oO e (λe=>oN e λxs h1 e=>Za e▸by
  obtain⟨q,r,l,f,hc,hd⟩:=(nQ h1▸rv:W.V (.tup xs) u)
  exact .t rfl q ⟨_,f.g,hc,_,hd⟩ r l) λe=>oO e (λe=>oN e λxs h1 e=>Za e▸.l rfl (GG rv h1)) (Ih rv)
theorem mW(rv:W.V a u){xs:Zb AV}(e:jv T.S W.H a=some xs):LstAt W xs u:=
 oO e (λe=>oN e λo h1 e=>GH rv h1 e) λe=>oO e (GG rv) λe=>oN e λq h1 e=>by
  obtain⟨t,ys⟩:=q
  have z:=Ih rv h1
  cases t with
  |true=>exact nomatch e
  |false=>rw[←Za e];exact SeqAt.casesOn z (λ_ x=>x) λb _ _ _ _=>aA b
theorem LstAt.iV{l:Zj}{vs:Zb Zf}{n:Zc}{h:Yc}(g:h.get? l=some (listOf vs.toArray n)):h.IsList l vs.toArray:=⟨_,g,rfl,n,rfl⟩
end
end Mine
namespace Mine
section
variable{W:Wd}{A:Yu}{E:Zf→Zs→Prop}
theorem V.cU{Y:Ly}{h:Yc}{a:AV}{u:Zf}{i:Zw}(e:c9 a=some i)(r:V Y h a u):∃t,u=.int i t:=(Ct e▸r:V Y h (.int i) u)
theorem vH{op:Xf}(e:isAdd op=true):op=.Add:=by revert e;cases op<;>first|exact aA|exactλ_=>rfl
theorem WQ{op:Xf}(e:FY op=true):op=.Mult:=by revert e;cases op<;>first|exact aA|exactλ_=>rfl
theorem J5{op:Xf}{i j k:Zw}{t u:Tok}{s:Zs}{Q:Zf→Zs→Prop}(e:arith op i j=some k)(h:∀tk,Q (.int k tk) {s with toks:=s.toks+1}):wpAny T.M A (binaryOp op (.int i t) (.int j u)) Q E s:=by
 revert e
 cases op<;>first|exactλe=>aF e|skip
 ·exactλe=>Uc (Za e▸h _)
 ·exactλe=>PyProof.Rows.sub_int (Za e▸h _)
 ·exactλe=>bN e λg e=>bA g λg _=>
   have g:=Int.ofNat_le.mpr (Zm g)
   PyProof.Rows.mul_int (Za e▸h _) (IntMulOk.of_left (intBits_le_64 (Up (show-(2^64)< -(1000000:Zw) by decide) (Qo (Xd (Int.natAbs_neg i▸S5) g))) (Wl S5 (Wl g (by decide)))))
 ·exactλe=>bE (b:=decide (j=0)) (t:=none) (n:=some (Xy i j)) e (λ_ e=>aF e) λg e=>Qj (S7 g) (Za e▸h _)
 ·exactλe=>bN e λg e=>bA g λg1 g2=>by
   rw[Y2 g1,Y2 g2]
   have z:(10:Zw)^Int.toNat 6=k:=(by decide:(10:Zw)^Int.toNat 6=1000000).trans (Za e)
   exact PyProof.Rows.pow_int (by decide) (by decide+kernel) (z▸h _)
 ·exactλe=>bN e λg e=>bA g λg1 g2=>Rb (λq=>by rw[q]at g1;exact aA g1) (Za e▸h _) (.inl (Q0 (Yy (Zm g2) (by decide))))
theorem ZU{op:Xf}{m r:Zc}{i j:Zw}{t u:Tok}{c:AV}{Q:Zf→Zs→Prop}(ge:0≤i)(em:i.toNat%m=r)(g:0<j)(e:zq op m r j.toNat=some c)(h:∀v tk,W.V c v→Q v {W.s with toks:=tk}):wpAny T.M A (binaryOp op (.int i t) (.int j u)) Q E W.s:=by
 obtain⟨k,rfl⟩:=Vw ge
 obtain⟨d,rfl⟩:=Vw (Int.le_of_lt g)
 have em:k%m=r:=em
 have jz:(d:Zw)≠0:=λz=>Int.lt_irrefl _ (z▸g)
 have dz:(0:Zw)≤d:=X0 d
 have dv:Zi (V9 m d) 0=true→d∣m:=λg=>Nat.dvd_of_mod_eq_zero (Zr g)
 have e:zq op m r d=some c:=e
 revert e
 cases op<;>first|exactλe=>aF e|skip
 ·exactλe=>Uc (h _ _ (Za e▸⟨_,_,rfl,X0 (k+d),em▸(Nat.mod_add_mod k m d).symm⟩))
 ·exactλe=>bN e λg e=>bA g λ_ g=>Qj jz (h _ _ (Za e▸⟨_,Ze (Ts · _) ((Int.fmod_eq_emod_of_nonneg _ dz).trans ((Int.natCast_emod k d).symm.trans (Ze Nat.cast (em▸(Nat.mod_mod_of_dvd k (dv g)).symm))))⟩))
 ·exactλe=>bN e λg e=>bA g λg1 g=>Rb jz (h _ _ (Za e▸⟨_,_,rfl,(R9 (k:Zw) dz).symm▸X0 (k/d),by
   rw[R9 _ dz]
   show k/d%(m/d)=r/d
   have hm:m=d*(m/d):=(Nat.mul_div_cancel' (dv g)).symm
   rw[←em]
   generalize m/d=q at hm
   rw[hm]
   exact(Nat.mod_mul_right_div_self k d q).symm⟩)) (.inl (Q0 (Yy (Zm g1) (by decide))))
theorem rm{a:AV}{p:Zc}{u:Zf}{Y:Ly}{h:Yc}(e:oP a=some p)(r:V Y h a u):∃t,u=.int (Y.τ p) t:=
 oN e λq h1 e=>bN e λh2 e=>by
  obtain⟨i,t,rfl,_,z⟩:=(Kc h1▸r:V Y h (.cB q.1 q.2) u)
  exact⟨t,Ze (Ts · t) ((Y2 (z.symm.trans h2)).trans (Ze Y.τ (Za e)))⟩
theorem DH{i:Zw}{r k:Zc}(le:i+200*r≤18000+k):i+1+200*r≤18000+(k+1:Zc):=
 Xd (Uk (Int.add_right_comm i 1 (200*r))) (Xd (Int.add_le_add_right le 1) (Uk (Int.add_assoc 18000 k 1)))
theorem J3{op:Xf}{a b c:AV}{u v:Zf}{Q:Zf→Zs→Prop}(t:Sem Zf)(ht:∀{i j:Zw}{x y:Tok},u=.int i x→v=.int j y→(∀Q',wpAny T.M A (binaryOp op (.int i x) (.int j y)) Q' E W.s→wpAny T.M A t Q' E W.s))(ra:W.V a u)(rb:W.V b v)(e:uG op a b=some c)(h:∀v tk,W.V c v→Q v {W.s with toks:=tk}):wpAny T.M A t Q E W.s:=
 oO e (λe=>oN e λj hj e=>(V.cU hj rb).elim λy ey=>oO e (λe=>oN e λq hq e=>bN e λg e=>by
   obtain⟨i,x,ex,ge,em⟩:=(Cx hq▸ra:W.V (.md q.1 q.2) u)
   exact ht ex ey _ (ZU ge em (Y2 g) e h)) λe=>bN e λg e=>bA g λg1 g2=>by
   have g1:=vH g1
   have g2:=Y2 g2
   subst g1 g2
   refine oO e (λe=>oN e λq hq e=>?_) λe=>oN e λp hp e=>?_
   ·obtain⟨i,x,ex,le⟩:=(uI hq▸ra:W.V (.cnt q.1 q.2) u)
    exact ht ex ey _ (Uc (h _ _ (Za e▸⟨_,_,rfl,DH le⟩)))
   ·obtain⟨x,ex⟩:=rm hp ra
    exact ht ex ey _ (Uc (h _ _ (Za e▸⟨_,rfl⟩))))
  λe=>oN e λi hi e=>oN e λj hj e=>oN e λk hk e=>(V.cU hi ra).elim λx ex=>(V.cU hj rb).elim λy ey=>ht ex ey _ (J5 hk λtk=>h _ _ (Za e▸⟨tk,rfl⟩))
theorem mul_list{l:Zj}{items:X9 Zf}{k:Zc}{x:Zw}{u:Tok}{s:Zs}{Q:Zf→Zs→Prop}(hl:s.heap.get? l=some (listOf items k))(VG:0≤x)(VA:x≤1000)(jr:items.size*x.toNat≤100000)
  (h:Q (.ref s.heap.objs.size) {s with heap:=s.heap.push {cls:=.type "list",data:=.seq (P9 (λx1 x2=>x1++x2) #[] (Wk (if items.isEmpty=true then 0 else x.toNat) items))}}):wpAny T.M A (binaryOp .Mult (.ref l) (.int x u)) Q E s:=
 wpAny_binaryOp_repeat_ref (T:="list") (U:="int") (by decide) ⟨_,hl,rfl⟩ (λs'=>typeIs_int s' x u) noFill_list_mul F.fills_int_mul F.slot_int_rmul repeat_list F.slot_int_index.lookup
  (R6 F.slot_int_rmul (typeIs_int s x u) F.entry_int_rmul (F.args_int_rmul_2 _ _) (int___rmul___int_list x u l items k)
   ⟨hl,rfl,⟨_,hl,rfl⟩,R6 F.slot_list_mul ⟨_,hl,rfl⟩ F.entry_list_mul (F.args_list_mul_2 _ _)
    (AutoListH.list___mul___list_int_3 l items k x u (by unfold Builtin.List.listFitsIndex;rw[Y6 (Xd (by decide) VG),Y6 (Wl VA (by decide))];exact Yn) (by omega) (by unfold Wy;rw[Wa];simp;omega))
    ⟨hl,h⟩⟩)
theorem RK(k:Zc)(xs:Zb Zf):∀(acc:X9 Zf),(P9 (λx1 x2=>x1++x2) acc (Wk k xs.toArray)).toList=acc.toList++(Wk k xs).flatten:=by
 induction k with
 |zero=>exactλacc=>(X4 _).symm
 |succ k ih=>exactλacc=>by rw[Vm,List.foldl_cons,ih,Vm,Uw,Tw,Sl]
theorem aec(k:Zc)(vs:Zb Zf):P9 (λx1 x2=>x1++x2) #[] (Wk (if vs.toArray.isEmpty=true then 0 else k) vs.toArray)=((Wk k vs).flatten).toArray:=by
 apply Array.ext'
 rw[RK]
 cases vs with
 |cons v r=>rfl
 |nil=>
  show[]=(Wk k []).flatten
  induction k with
  |zero=>rfl
  |succ k ih=>rw[Vm,Uw];exact ih
theorem aed{k:Zc}{vs:Zb Zf}(h:vs.length≤1):(Wk k vs).flatten.length≤k:=by
 induction k with
 |zero=>exact Yg _
 |succ k ih=>rw[Vm,Uw,Yk,Vh];exact Xn ih h
theorem IG{Y:Ly}{h:Yc}{a:AV}{u:Zf}(e:aT (cY a)=true)(r:V Y h a u):∃x t,u=.str x t∧x.length≤200:=
 oT e λk hk _=>by
  obtain⟨x,t,q,hx⟩:=(jj hk▸r:V Y h (.sy k) u)
  exact⟨x,t,q,(O.zI hx).1⟩
variable{c:Cn}
theorem ah6{op:Xf}{a b:AV}{u v:Zf}(ra:W.V a u)(rb:W.V b v):bh c VV W (binI T.S op a b W.H) (binaryOp op u v):=
 .of λr hr hb=>oE hr (λ_ hr=>bE hr (λg hr=>bA g λg1 g=>bA g λg2 g3=>by
   obtain⟨x,t,rfl,l1⟩:=IG g2 ra
   obtain⟨y,t',rfl,l2⟩:=IG g3 rb
   have l:(x++y).length≤400:=Str.length_append x y▸Xn l1 l2
   rw[vH g1]
   exact PyProof.Rows.add_str (λt' tk=>.mk (W.tok tk) .txt hr.symm (.tok W tk) ⟨_,_,rfl,l⟩) (kQ (Zu (Xn l1 l2) (show 400≤ez by decide)))) λ_ hr=>oB hr hb λxs h1 hr=>by
   obtain⟨rfl,g0,rv,ll⟩:=mW ra h1
   refine oE hr (λ_ hr=>bB hr hb λg hr=>oB hr hb λys h2 hr=>bB hr hb λg2 hr=>?_) λj hj hr=>bB hr hb λg hr=>bA g λg1 g=>bA g λg2 g=>bA g λg3 g4=>?_
   ·obtain⟨rfl,g1,H9,_⟩:=mW rb h2
    have l:=Zm g2
    rw[dH,dH,rv.len,H9.len]at l
    rw[vH g]
    refine PySem.P.add_list g0 g1 ?_ (kQ l)
    rw[Tt]
    rw[mw]at hr
    exact .list (tk:=W.s.toks) hr.symm (H9.app rv) (Yk▸big l)
   ·obtain⟨y,rfl⟩:=V.cU hj rb
    rw[WQ g1]
    have l1:=oC rv g2
    have hi:=Y2 g4
    have tn:j.toNat≤1000:=Int.toNat_le.mpr hi
    refine mul_list g0 (Y2 g3) hi (by rw[Zy];exact Zu (Nat.mul_le_mul l1 tn) (by decide)) ?_
    rw[aec]
    exact .list (tk:=W.s.toks) hr.symm (rv.rep _) (Zu (aed l1) (Zu tn (by decide)))) λc' hc hr=>J3 _ (λe1 e2 Q h=>by rw[e1,e2];exact h) ra rb hc λv tk h=>.mk (W.tok tk) c' hr.symm (.tok W tk) h
variable{n:Zc}{cx:aQ}
theorem aim{x y:PE}{op:Xf}{p:Pos}{mx my:Zh→Fm→AM AV}(ix:aP n cx x mx)(iy:aP n cx y my):aP n cx (.BinOp x op y p) (λhd=>y9 T.S op (mx hd) (my hd)):=λ{c env fm W} g=>
 .bind (t:=eval x env) (ix g) λW1 a u _ d6 v1=>.bind (iy (g.le d6)).hold λW2 b w _ bD v2=>.iZ (.op (ah6 (bD.v v1) v2))
theorem aiF{x:PE}{p:Pos}{mx:Zh→Fm→AM AV}(ix:aP n cx x mx):aP n cx (.UnaryOp .USub x p) (λhd=>zg (mx hd)):=λ{c env fm W} g=>
 .bind (t:=eval x env) (ix g) λW1 a u _ d6 v1=>.iZ (.hold (.of λr hr hb=>oB hr hb λi h1 hr=>(V.cU h1 v1).elim λt e=>e▸Qi (.mk (W1.tok _) (.int (-i)) hr.symm (.tok W1 _) ⟨_,rfl⟩)))
theorem aiG{x:PE}{p:Pos}{mx:Zh→Fm→AM AV}(ix:aP n cx x mx):aP n cx (.UnaryOp .Not x p) (λhd=>zh (mx hd)):=λ{c env fm W} g=>
 .bind (t:=eval x env) (ix g) λW1 a u _ d6 v1=>.iZ (.hold (.of λr hr hb=>oB hr hb λb h1 hr=>PyProof.Rows.not_of (AP v1 h1 (.mk W1 (.bool (ay b)) hr.symm (.refl W1) (by cases b<;>rfl)))))
end
end Mine
namespace Mine
structure o8{K:Type}[Xh K](knd:KeyKind T.pr T.w K)(one:AV→K→Prop):Prop where
 is:∀{Y:Ly}{h:Yc}{a:AV}{k:K}{u:Zf},one a k→V Y h a u→knd.is k u=true
 eq:∀{a b:AV}{k j:K}{c:Zh},one a k→one b j→dS (AD a b) (FN a b)=some c→c=decide (k=j)
theorem kI:o8 T.ik pQ:=⟨λ{Y h a k u} e r=>by
  obtain⟨t,rfl⟩:=(e▸r:V Y h (.int k) u)
  exact intKind_is _ _ _ _,λ{a b k j c} e e' z=>by rw[show a=.int k from e,show b=.int j from e']at z;exact(Za z).symm⟩
theorem abx{i j:Zc}{P:Prop}[Decidable P](h:i=j↔P):Zi i j=decide P:=by
 by_cases q:i=j
 ·rw[q,Wu,Y6 (h.mp q)]
 ·rw[Ym λp=>q (h.mpr p)];exact Bool.eq_false_iff.mpr λz=>q (Zr z)
theorem tS{i j:Zc}{x y:Str}(hx:T.S.nm i=some x)(hy:T.S.nm j=some y):Zi i j=decide (x=y):=abx ⟨λq=>Za (hx.symm.trans (q▸hy)),λq=>O.pJ hx (q▸hy)⟩
theorem kS:o8 T.sk pR:=⟨λ{Y h a k u} e r=>by
  obtain⟨n,e,hn⟩:=e
  obtain⟨x,t,rfl,hx⟩:=(e▸r:V Y h (.sy n) u)
  rw[Za (hn.symm.trans hx)]
  exact V0 _ _ _ _,λ{a b k j c} e e' z=>by
  obtain⟨n,e,hn⟩:=e
  obtain⟨m,e',hm⟩:=e'
  rw[e,e']at z
  exact(Za z).symm.trans (tS hn hm)⟩
section
variable{K:Type}[Xh K]{knd:KeyKind T.pr T.w K}{one:AV→K→Prop}(hk:o8 knd one)
include hk
theorem cq.items{Y:Ly}{h:Yc}{xs:Zb AV}:∀{ks:Zb K}{vs:Zb Zf},cq one xs ks→Vs Y h xs vs→ItemsAre knd ks vs:=by
 induction xs with
 |nil=>exactλa r=>by rw[show _=[] from a,show _=[] from r];exact .nil
 |cons x xs ih=>
  intro ks vs a r
  obtain⟨rfl,a1,a2⟩:=(a:j9 (one x) (cq one xs) ks)
  obtain⟨rfl,r1,r2⟩:=r.inv
  exact .cons (hk.is a1 r1) (ih a2 r2)
theorem cq.dec{xs:Zb AV}:∀{ys:Zb AV}{ks js:Zb K}{c:Zh},cq one xs ks→cq one ys js→F8 xs ys=some c→c=decide (ks=js):=by
 induction xs with
 |nil=>
  intro ys ks js c a b e
  cases ys with
  |nil=>rw[show ks=[] from a,show js=[] from b,←Za e];rfl
  |cons _ _=>exact aF e
 |cons x xs ih=>
  intro ys ks js c a b e
  cases ys with
  |nil=>exact aF e
  |cons y ys=>
   obtain⟨rfl,a1,a2⟩:=(a:j9 (one x) (cq one xs) ks)
   obtain⟨rfl,b1,b2⟩:=(b:j9 (one y) (cq one ys) js)
   refine oN e λq hq e=>?_
   have z:=hk.eq a1 b1 hq
   cases q with
   |true=>rw[ih a2 b2 e,Y2 z.symm];exact decide_eq_decide.mpr ⟨Ze _,λw=>(Wx w).2⟩
   |false=>exact(Za e).symm.trans (Ym λw=>S7 z.symm (Wx w).1).symm
end
theorem qt{p:AV→Zh}{x:AV}{r:Zb AV}:aM p (x::r)=Zp false (aM p r) (p x):=rfl
theorem Cg{P:AV→Zd Zc}{K:Type}{one:AV→K→Prop}{p:AV→Zh}{Y:Ly}{h:Yc}(hp:∀{a u},p a=true→V Y h a u→∃k,one a k){xs:Zb AV}:∀{vs:Zb Zf},aM p xs=true→Vs Y h xs vs→∃ks,cq one xs ks:=by
 induction xs with
 |nil=>exactλ_ _=>⟨[],rfl⟩
 |cons x xs ih=>
  intro vs e r
  obtain⟨_,r1,r2⟩:=r.inv
  cases q:p x with
  |false=>rw[qt,q]at e;exact aA e
  |true=>
   rw[qt,q]at e
   exact(hp q r1).elim λk z=>(ih e r2).elim λks w=>⟨k::ks,.mk rfl z w⟩
inductive p9(W:Wd)(k:AV)(u:Zf):Prop
 |sy{j:Zc}{x:Str}{t:Tok}(q:k=.sy j)(r:u=.str x t)(e:T.S.nm j=some x)
 |txt{x:Str}{t:Tok}(q:k=.txt)(r:u=.str x t)
 |dG{xs:Zb AV}{ks:Zb Zw}{a:Zj}{o:Obj}(q:k=.tup xs)(r:u=.ref a)(ne:xs≠[])(z:nM xs ks)(e:IsTupleKey T.ik W.h ks a)(f:Fz W.Y W.h a o)
 |oA{xs:Zb AV}{ks:Zb Str}{a:Zj}{o:Obj}(q:k=.tup xs)(r:u=.ref a)(ne:xs≠[])(z:lh xs ks)(e:IsTupleKey T.sk W.h ks a)(f:Fz W.Y W.h a o)
theorem Ch{p:AV→Zh}{x:AV}{r:Zb AV}(a:p x=true)(b:aM p r=true):aM p (x::r)=true:=(Ze (Zp (motive:=λ_=>Zh) false (aM p r)) a).trans b
theorem yS{W:Wd}{k:AV}{u:Zf}(r:W.V k u)(e:isKey k=true):p9 W k u:=
 bO e (λe=>by
  have q:=WY e
  obtain⟨x,t,z,_⟩:=(q▸r:W.V .txt u)
  exact .txt q z) λe=>bO e (λe=>oT e λj hj _=>by
  obtain⟨x,t,q,hx⟩:=(jj hj▸r:W.V (.sy j) u)
  exact .sy (jj hj) q hx) λe=>oT e λxs hx e=>by
  obtain⟨q,rv,l,f,hc,hd⟩:=(nQ hx▸r:W.V (.tup xs) u)
  cases xs with
  |nil=>exact aA e
  |cons x xs=>
   refine bO e (λe=>bA e λe1 e2=>?_) λe=>bA e λe1 e2=>?_
   ·obtain⟨ks,z⟩:=Cg (P:=cY) (one:=pQ) (λ{a u} e r=>oT e λi hi _=>⟨i,Ct hi⟩) (Ch (p:=λy=>aT (c9 y)) e1 e2) rv
    exact .dG (nQ hx) q (List.cons_ne_nil _ _) z ⟨_,_,_,f.g,hc,hd,z.items kI rv⟩ f
   ·obtain⟨ks,z⟩:=Cg (P:=cY) (one:=pR) (λ{a u} e r=>oT e λi hi _=>by
     obtain⟨x,t,_,hx⟩:=(jj hi▸r:V _ _ (.sy i) u)
     exact⟨x,i,jj hi,hx⟩) (Ch (p:=λy=>aT (cY y)) e1 e2) rv
    exact .oA (nQ hx) q (List.cons_ne_nil _ _) z ⟨_,_,_,f.g,hc,hd,z.items kS rv⟩ f
inductive Dk(h:Yc)(d:Zj)(key:Zf)(o:Zd Zf):Prop
 |str{x:Str}{t:Tok}{f:Str→Zd Zf}(q:key=.str x t)(m:h.MapOf T.sk d f)(e:o=f x)
 |tup{K:Type}[Xh K]{knd:KeyKind T.pr T.w K}{a:Zj}{ks:Zb K}{xs:Zb (Zb K×Zj×Zf)}(q:key=.ref a)(k:IsTupleKey knd h ks a)(m:h.DictOfH (Xz knd) d xs)(e:o=(atKey xs ks).map (·.2))
inductive qh(W:Wd)(o:Zd AV)(d:Zj)(key:Zf):Prop
 |mk{o':Zd Zf}(k:Dk W.h d key o')(v:fB W.Y W.h o o')
theorem tu{α:Type}{P:Prop}[Decidable P]{b:Zh}(h:b=decide P)(x y:α):(if P then x else y)=Zp y x b:=by
 by_cases p:P
 ·rw[if_pos p,h,Y6 p]
 ·rw[if_neg p,h,Ym p]
theorem uu(x y:Str)(u:Zf)(kvs:Zb (Str×Zf)):valueAt ((y,u)::kvs) x=if y=x then some u else valueAt kvs x:=by
 unfold valueAt
 rw[Tf]
 by_cases q:y=x
 ·rw[if_pos q,Y6 q];rfl
 ·rw[if_neg q,Ym q]
theorem sA{K:Type}[Xh K](x y:K)(a:Zj)(u:Zf)(xs:Zb (K×Zj×Zf)):(atKey ((y,a,u)::xs) x).map (·.2)=if y=x then some u else(atKey xs x).map (·.2):=by
 unfold atKey
 rw[Tf]
 by_cases q:y=x
 ·rw[if_pos q,Y6 q];rfl
 ·rw[if_neg q,Ym q]
section
variable{Y:Ly}{h:Yc}
theorem EN{k a v:AV}{es:Zb (AV×AV)}{o:Zd AV}{P:Prop}[Decidable P]{u:Zf}{r:Zd Zf}(e:iO k ((a,v)::es)=some o)(hq:∀b,oz a k=some b→b=decide P)(ru:V Y h v u)(ih:iO k es=some o→fB Y h o r):fB Y h o (if P then some u else r):=
 oN e λb hb e=>by
  rw[tu (hq b hb)]
  cases b with
  |true=>exact Za e▸⟨u,rfl,ru⟩
  |false=>exact ih e
theorem EO{k:Zc}{x:Str}(hx:T.S.nm k=some x){es:Zb (AV×AV)}{o:Zd AV}:∀{kvs:Zb (Str×Zf)},cu Y h es kvs→iO (.sy k) es=some o→fB Y h o (valueAt kvs x):=by
 induction es with
 |nil=>exactλr e=>by rw[show _=[] from r,←Za e];exact rfl
 |cons p es ih=>
  intro kvs r e
  obtain⟨rfl,hk,hn,a,b⟩:=(r:gW p.1 (V Y h p.2) (cu Y h es) kvs)
  rw[uu]
  exact EN e (λb hb=>by rw[hk]at hb;exact(Za hb).symm.trans (tS hn hx)) a (ih b)
theorem EL{K:Type}[Xh K]{knd:KeyKind T.pr T.w K}{one:AV→K→Prop}(hk:o8 knd one){zs:Zb AV}{ks:Zb K}(hz:cq one zs ks){es:Zb (AV×AV)}{o:Zd AV}:∀{xs:Zb (Zb K×Zj×Zf)},bT Y h (cq one) es xs→iO (.tup zs) es=some o→fB Y h o ((atKey xs ks).map (·.2)):=by
 induction es with
 |nil=>exactλr e=>by rw[show _=[] from r,←Za e];exact rfl
 |cons p es ih=>
  intro xs r e
  obtain⟨rfl,yw,hx,f,a,b⟩:=(r:fP Y h (cq one) p.1 (V Y h p.2) (bT Y h (cq one) es) xs)
  rw[sA]
  exact EN e (λb hb=>by rw[yw]at hb;exact cq.dec hk hx hz hb) a (ih b)
end
def jE(h:Yc)(d:Zj):Prop:=∃o ep,h.get? d=some o∧o.ExactDict∧o.data=.dict #[] ep
theorem jE.st{h:Yc}{d:Zj}(z:jE h d):h.DictOf T.sk d []:=by
 obtain⟨o,ep,ho,hx,hd⟩:=z
 exact⟨o,#[],ep,ho,hx,hd,(λe he=>nomatch he),.nil,U1⟩
theorem jE.hp{K:Type}[Xh K]{knd:KeyKind T.pr T.w K}{h:Yc}{d:Zj}(z:jE h d):h.DictOfH (Xz knd) d []:=by
 obtain⟨o,ep,ho,hx,hd⟩:=z
 exact⟨o,#[],ep,ho,hx,hd,rfl,(λx hx=>nomatch hx),U1⟩
theorem jE.zX{h:Yc}{d:Zj}(z:h.DictOf T.sk d []):jE h d:=by
 obtain⟨o,es,ep,ho,hx,lF,_,hp,_⟩:=z
 have:es=#[]:=by
  cases e:es.toList with
  |nil=>exact Array.toList_eq_nil_iff.mp e
  |cons a r=>rw[e]at hp;cases hp
 exact⟨o,ep,ho,hx,this▸lF⟩
theorem jE.zW{K:Type}[Xh K]{knd:KeyKind T.pr T.w K}{h:Yc}{d:Zj}(z:h.DictOfH (Xz knd) d []):jE h d:=by
 obtain⟨o,es,ep,ho,hx,lF,he,_⟩:=z
 exact⟨o,ep,ho,hx,Array.toList_eq_nil_iff.mp he▸lF⟩
theorem eB.emp{Y:Ly}{h:Yc}{p:Zj×Zd Zj}:eB Y h p []→jE h p.1
 |.s _ hd r=>.zX ((show _=[] from r)▸hd)
 |.i _ hd r=>.zW ((show _=[] from r)▸hd)
 |.t _ hd r=>.zW ((show _=[] from r)▸hd)
section
variable{W:Wd}{d:Zj}{k:AV}{key:Zf}{o:Zd AV}
theorem yZ(z:jE W.h d)(ki:p9 W k key)(e:o=none):qh W o d key:=by
 have n:∀{o'},Dk W.h d key o'→o'=none→qh W o d key:=λk q=>.mk k (by rw[e,q];exact rfl)
 cases ki with
 |sy q r hk=>exact n (.str (f:=valueAt []) r z.st.mapOf rfl) rfl
 |txt q r=>exact n (.str (f:=valueAt []) r z.st.mapOf rfl) rfl
 |dG q r _ _ hk _=>exact n (.tup (xs:=[]) r hk z.hp rfl) rfl
 |oA q r _ _ hk _=>exact n (.tup (xs:=[]) r hk z.hp rfl) rfl
theorem GD{kvs:Zb (Str×Zf)}{es:Zb (AV×AV)}(hd:W.h.DictOf T.sk d kvs)(r:cu W.Y W.h es kvs)(ki:p9 W k key)(e:iO k es=some o):qh W o d key:=by
 cases es with
 |nil=>exact yZ (.zX ((show _=[] from r)▸hd)) ki (Za e).symm
 |cons p es=>
  cases ki with
  |sy q z hk=>exact .mk (.str z hd.mapOf rfl) (EO hk r (q▸e))
  |_ q=>
   obtain⟨_,hp,_,_,_⟩:=(r:gW p.1 (V W.Y W.h p.2) (cu W.Y W.h es) kvs)
   exact oN e λb hb _=>by rw[hp,q]at hb;exact aF hb
theorem GB{K:Type}[Xh K]{knd:KeyKind T.pr T.w K}{one:AV→K→Prop}(hk:o8 knd one){xs:Zb (Zb K×Zj×Zf)}{es:Zb (AV×AV)}(hd:W.h.DictOfH (Xz knd) d xs)(r:bT W.Y W.h (cq one) es xs)(ki:p9 W k key)
  (own:(∀ws js,cq one ws js→oz (.tup ws) k=none)∨∃zs ks a,k=.tup zs∧key=.ref a∧cq one zs ks∧IsTupleKey knd W.h ks a)(e:iO k es=some o):qh W o d key:=by
 cases es with
 |nil=>exact yZ (.zW ((show _=[] from r)▸hd)) ki (Za e).symm
 |cons p es=>
  rcases own with q|⟨zs,ks,a,q,z,hz,ht⟩
  ·obtain⟨_,hp,hx,_,_,_⟩:=(r:fP W.Y W.h (cq one) p.1 (V W.Y W.h p.2) (bT W.Y W.h (cq one) es) xs)
   exact oN e λb hb _=>by rw[hp,q _ _ hx]at hb;exact aF hb
  ·exact .mk (.tup z ht hd rfl) (EL hk hz r (q▸e))
theorem Gn{ki:p9 W k key}:(∀ws js,nM ws js→oz (.tup ws) k=none)∨∃zs ks a,k=.tup zs∧key=.ref a∧nM zs ks∧IsTupleKey T.ik W.h ks a:=by
 cases ki with
 |sy q=>exact .inl λ_ _ _=>q▸rfl
 |txt q=>exact .inl λ_ _ _=>q▸rfl
 |dG q z _ hz hk _=>exact .inr ⟨_,_,_,q,z,hz,hk⟩
 |@oA xs _ _ _ q z ne hz hk _=>
  refine .inl λws js h=>q▸?_
  cases xs with
  |nil=>exact Y8 rfl ne
  |cons y ys=>
   obtain⟨_,⟨n,e,_⟩,_⟩:=(hz:j9 (pR y) (cq pR ys) _)
   cases ws with
   |nil=>rfl
   |cons w ws=>
    obtain⟨_,e',_⟩:=(h:j9 (pQ w) (cq pQ ws) _)
    rw[e,show w=_ from e'];rfl
theorem Go{ki:p9 W k key}:(∀ws js,lh ws js→oz (.tup ws) k=none)∨∃zs ks a,k=.tup zs∧key=.ref a∧lh zs ks∧IsTupleKey T.sk W.h ks a:=by
 cases ki with
 |sy q=>exact .inl λ_ _ _=>q▸rfl
 |txt q=>exact .inl λ_ _ _=>q▸rfl
 |oA q z _ hz hk _=>exact .inr ⟨_,_,_,q,z,hz,hk⟩
 |@dG xs _ _ _ q z ne hz hk _=>
  refine .inl λws js h=>q▸?_
  cases xs with
  |nil=>exact Y8 rfl ne
  |cons y ys=>
   obtain⟨_,e,_⟩:=(hz:j9 (pQ y) (cq pQ ys) _)
   cases ws with
   |nil=>rfl
   |cons w ws=>
    obtain⟨_,⟨n,e',_⟩,_⟩:=(h:j9 (pR w) (cq pR ws) _)
    rw[show y=_ from e,e'];rfl
theorem noSys{a:Zj}{o:Obj}(n:W.Y.Mu a∨∃n,W.h.get? a=some (dictOf [] n)):(a==Xl)=false:=by
 rw[beq_eq_false_iff_ne];intro q
 obtain⟨o,e,ne⟩:=O.sys
 rcases n with n|⟨n,z⟩
 ·exact nomatch(W.R.new _ (q▸n)).symm.trans e
 ·exact ne n (Za ((W.R.base _ _ e).symm.trans (q▸z)))
inductive A6(W:Wd)(o:Zd AV)(u key:Zf):Prop
 |mk{d:Zj}(q:u=.ref d)(n:(d==Xl)=false)(l:qh W o d key)
theorem y0{dv:AV}{du:Zf}(rd:W.V dv du)(rk:W.V k key)(e:sM T.S W.H dv k=some o):A6 W o du key:=
 have ref:∀{ob:AO}{i:Zc},gK dv=some i→W.H.get i=some ob→(∀p,RO W.Y W.h p ob→qh W o p.1 key)→A6 W o du key:=λ{ob i} hi ho k=>by
  obtain⟨p,rfl,hp⟩:=(qB hi▸rd:W.V (.ref i) du)
  exact .mk rfl (noSys (o:=default) (.inl (W.R.sub _ (.mk hp (.x rfl))))) (k p (W.R.obj i ob p ho hp))
 oE e (λ_ e=>oN e λes hd e=>bN e λg e=>
   have ki:=yS rk g
   oO hd (λhd=>oN hd λob h1 h2=>oN h1 λi h3 h4=>ref h3 h4 λp ro=>by
    rw[pd h2]at ro
    cases(ro:eB W.Y W.h p es)with
    |s _ hd r=>exact GD hd r ki e
    |i _ hd r=>exact GB kI hd r ki (Gn (ki:=ki)) e
    |t _ hd r=>exact GB kS hd r ki (Go (ki:=ki)) e) λhd=>oO hd (λhd=>bN hd λh1 h2=>by
    obtain⟨q,f⟩:=(FU h1▸rd:W.V .bz du)
    exact .mk q (noSys (o:=default) (.inr ⟨_,f.g⟩)) (yZ ⟨_,_,f.g,⟨rfl,rfl,rfl⟩,rfl⟩ ki (by rw[←Za h2]at e;exact(Za e).symm))) λhd=>oN hd λob h1 h2=>oN h1 λx h3 h4=>by
    obtain⟨kvs,h5,h6,h7⟩:=O.wq (xy h2▸h4)
    exact .mk (sj h3▸rd:W.V (.au x) du) (O.noSys x (by rw[h4];rfl)) (GD (DictOf.keeps h5 λo=>W.R.base _ o) (h6 _ _) ki e)) λms hm e=>oN hm λob h1 h2=>oN h1 λi h3 h4=>oN e λj hj e=>ref h3 h4 λp ro=>by
  rw[J7 h2]at ro
  obtain⟨_,hd,a,_,_⟩:=(ro:i5 W.Y W.h p ms)
  obtain⟨x,t,z,hx⟩:=(jj hj▸rk:W.V (.sy j) key)
  exact .mk (.str z hd.mapOf rfl) (Za e▸a j x hx)
end
end Mine
namespace Mine
theorem not_eq(b:Zh):ay b=!b:=by cases b<;>rfl
theorem WU{Y:Ly}{h:Yc}{o:Zd AV}{r:Zd Zf}(v:fB Y h o r):aT o=r.isSome:=by
 cases o with
 |none=>rw[show r=none from v];rfl
 |some a=>obtain⟨u,q,_⟩:=(v:∃w,r=some w∧V Y h a w);rw[q];rfl
section
variable{s:Zs}{A:Yu}{Q:Zf→Zs→Prop}{E:Zf→Zs→Prop}{d:Zj}{key dflt:Zf}{o:Zd Zf}(hu:A.units+1<cLine)
include hu
theorem Nv(ns:(d==Xl)=false)(k:Dk s.heap d key o)(h:∀tk,Q (.bool o.isSome) {s with toks:=tk}):wpAny T.M A (compareOp .In key (.ref d)) Q E s:=by
 cases k with
 |str q m e=>rw[q];exact wpAny_in_of (V0 _ _ _ _) ns m (e▸h _)
 |tup q k m e=>rw[q];rw[e,Pf]at h;exact wpAny_in_heap (Wf hu) k ns m (h _)
theorem Nx(ns:(d==Xl)=false)(k:Dk s.heap d key o)(h:∀tk,Q (.bool (!o.isSome)) {s with toks:=tk}):wpAny T.M A (compareOp .NotIn key (.ref d)) Q E s:=by
 cases k with
 |str q m e=>rw[q];exact wpAny_notIn_of (V0 _ _ _ _) ns m (e▸h _)
 |tup q k m e=>rw[q];rw[e,Pf]at h;exact wpAny_notIn_heap (Wf hu) k ns m (h _)
theorem Nw{u:Zf}(k:Dk s.heap d key (some u))(h:∀tk,Q u {s with toks:=tk}):wpAny T.M A (getItem (.ref d) key) Q E s:=by
 cases k with
 |str q m e=>rw[q];exact wpAny_getItem_of (V0 _ _ _ _) m e.symm (h _)
 |tup q k m e=>
  obtain⟨p,e1,e2⟩:=Option.map_eq_some_iff.mp e.symm
  rw[q];exact wpAny_getItem_heap (Wf hu) k m e1 (e2▸h _)
omit hu in
theorem x6(k:Dk s.heap d key o):s.TypeIs (.ref d) "dict":=by
 cases k with
 |str _ m _=>exact m.typeIs
 |tup _ _ m _=>exact m.typeIs
theorem Ej(ns:(d==Xl)=false)(k:Dk s.heap d key o)(h:∀tk,Q (o.getD .none) {s with toks:=tk}):wpAny T.M A (call (.builtin "dict.get") [.ref d,key]) Q E s:=by
 have t:=x6 k
 cases k with
 |str q m e=>rw[q];exact Sf V7 t Vy (Rt _ _) (meets_dict_get T.sk d (V0 _ _ _ _) ns) ⟨_,m,e▸h _⟩
 |@tup K _ knd _ _ _ q k m e=>rw[q];exact Sf V7 t Vy (Rt _ _) (meetsH_dict_get (Xz knd) d _ ns) ⟨Wf hu,_,_,k,m,e▸h _⟩
theorem Nu(ns:(d==Xl)=false)(k:Dk s.heap d key o)(h:∀tk,Q (o.getD dflt) {s with toks:=tk}):wpAny T.M A (call (.builtin "dict.get") [.ref d,key,dflt]) Q E s:=by
 have t:=x6 k
 cases k with
 |str q m e=>rw[q];exact Sf V7 t Vy (Rs _ _ _) (meets_dict_get_default T.sk d (V0 _ _ _ _) ns dflt) ⟨_,m,e▸h _⟩
 |@tup K _ knd _ _ _ q k m e=>rw[q];exact Sf V7 t Vy (Rs _ _ _) (meetsH_dict_get_default (Xz knd) d _ ns dflt) ⟨Wf hu,_,_,k,m,e▸h _⟩
end
def o5(Y:Ly)(x:At)(d:PyData):Prop:=At.casesOn (motive:=λ_=>Prop) x (d=.none) (λb=>d=.bool b) (λi=>d=.int i) (λp b=>∃i,d=.int i∧b=decide (i=Y.τ p)) (λk=>∃y,T.S.nm k=some y∧d=.str y)
def wM(t:Zh)(l:Zb PyData):PyData:=Zp (.list l) (.tuple l) t
inductive p6(H:AH)(ih:AV→PyData→Prop)(a:AV)(d:PyData):Prop
 |mk{q:Zh×Zb AV}{ds:Zb PyData}(e:hG T.S H a=some q)(z:d=wM q.1 ds)(k:cq ih q.2 ds)
def DR(Y:Ly)(H:AH)(n:Zc):AV→PyData→Prop:=Zz (λ_ _=>False) (λ_ ih a d=>aa (fD a) (p6 H ih a d) λx=>o5 Y x d) n
inductive Rd(h:Yc)(n:Zc)(P:PyData→Prop)(u:Zf):Prop
 |mk{d:PyData}{as:Zb Zj}(r:Reads h u d as)(l:d.canLay0=true)(k:d.depth≤n)(p:P d)
inductive JK(h:Yc)(n:Zc)(P:Zb PyData→Prop)(us:Zb Zf):Prop
 |mk{d:Zb PyData}{as:Zb Zj}(r:ReadsAll h us d as)(l:Pe d=true)(k:PyData.depthAll d≤n)(p:P d)
section
variable{W:Wd}
theorem ad2{a:AV}{u:Zf}{n:Zc}{x:At}:W.V a u→fD a=some x→Rd W.h n (o5 W.Y x) u:=by
 have z:∀{d:PyData},d.depth=0→d.depth≤n:=λe=>e▸Yt n
 cases a<;>first|exactλ_ e=>aF e|skip
 ·exactλr e=>by rw[show u=_ from r,←Za e];exact .mk .none rfl (z rfl) rfl
 ·exactλr e=>by rw[show u=_ from r,←Za e];exact .mk (.bool _) rfl (z rfl) rfl
 ·exactλr e=>by obtain⟨t,q⟩:=r;rw[q,←Za e];exact .mk (.int _ _) rfl (z rfl) rfl
 ·exactλr e=>by obtain⟨i,t,q,_,w⟩:=r;rw[q,←Za e];exact .mk (.int _ _) rfl (z rfl) ⟨i,rfl,w⟩
 ·exactλr e=>by obtain⟨x,t,q,w⟩:=r;rw[q,←Za e];exact .mk (.str _ _) (O.zI w).2 (z rfl) ⟨x,w,rfl⟩
theorem HI{n:Zc}{p:AV→Zh}{P:AV→PyData→Prop}(ih:∀{a u},W.V a u→p a=true→Rd W.h n (P a) u){xs:Zb AV}:∀{vs:Zb Zf},W.Vs xs vs→aM p xs=true→JK W.h n (cq P xs) vs:=by
 induction xs with
 |nil=>exactλr _=>by rw[show _=[] from r];exact .mk .nil rfl (Yt _) rfl
 |cons x xs yE=>
  intro vs r e
  obtain⟨rfl,a,b⟩:=r.inv
  cases q:p x with
  |false=>rw[qt,q]at e;exact aA e
  |true=>
   rw[qt,q]at e
   obtain⟨r1,l1,k1,p1⟩:=ih a q
   obtain⟨r2,l2,k2,p2⟩:=yE b e
   exact .mk (.cons r1 r2) (by unfold Pe;rw[l1,l2];rfl) (by unfold PyData.depthAll;exact Nat.max_le.mpr ⟨k1,k2⟩) (.mk rfl p1 p2)
theorem HJ(n:Zc):∀{a:AV}{u:Zf},W.V a u→qX T.S W.H n a=true→Rd W.h n (DR W.Y W.H n a) u:=by
 induction n with
 |zero=>exactλ_ e=>aA e
 |succ n ih=>
  intro a u r e
  refine oE (o:=fD a) e (λh1 e=>oT e λq h2 e=>?_) λx h1 _=>?_
  ·have dr:∀{ds},cq (DR W.Y W.H n) q.2 ds→DR W.Y W.H (n+1) a (wM q.1 ds):=λk=>by
    show aa (fD a) _ _
    rw[h1];exact .mk h2 rfl k
   obtain⟨t,xs⟩:=q
   cases oW r h2 with
   |l b x=>
    have b:t=false:=b
    subst b
    obtain⟨q,g,rv,_⟩:=x
    obtain⟨r',l,k,p⟩:=HI ih rv e
    rw[q]
    exact .mk (.list g rfl rfl r') (by unfold PyData.canLay0;exact l) (by unfold PyData.depth;exact X8 k) (dr p)
   |t b q g rv _=>
    have b:t=true:=b
    subst b
    obtain⟨r',l,k,p⟩:=HI ih rv e
    obtain⟨o,ho,hc,nn,hd⟩:=g
    rw[q]
    exact .mk (.tuple ho hc hd r') (by unfold PyData.canLay0;exact l) (by unfold PyData.depth;exact X8 k) (dr p)
  ·obtain⟨r,l,k,p⟩:=ad2 r h1
   exact .mk r l k (by show aa (fD a) _ _;rw[h1];exact p)
theorem CF{x:At}{d:PyData}{t:Zh}{ds:Zb PyData}(r:o5 W.Y x d):Uo d (wM t ds)=false∧Uo (wM t ds) d=false:=by
 cases x with
 |k p b=>obtain⟨i,q,_⟩:=r;rw[q];cases t<;>exact⟨rfl,rfl⟩
 |s k=>obtain⟨i,_,q⟩:=r;rw[q];cases t<;>exact⟨rfl,rfl⟩
 |_=>rw[show d=_ from r];cases t<;>exact⟨rfl,rfl⟩
theorem Kf{x y:At}{d e:PyData}(mx:zw x y=true)(hx:o5 W.Y x d)(hy:o5 W.Y y e):xB x y=Uo d e:=by
 cases x with
 |k p b=>
  obtain⟨i,q,e1⟩:=hx
  rw[q]
  cases y with
  |k p' c=>
   obtain⟨j,q',e2⟩:=hy
   rw[q']
   exact bA mx λm1 m2=>e1.trans (decide_eq_decide.mpr (by rw[Y2 (e2.symm.trans m2),show p=p' from Zr m1]))
  |n=>rw[show e=_ from hy];rfl
  |s k=>obtain⟨y,_,q⟩:=hy;rw[q];rfl
  |_=>exact aA mx
 |s a=>
  obtain⟨z,hz,q⟩:=hx
  rw[q]
  cases y with
  |s b=>obtain⟨z',WB,q'⟩:=hy;rw[q'];exact tS hz WB
  |k p b=>obtain⟨i,q,_⟩:=hy;rw[q];rfl
  |_=>rw[show e=_ from hy];rfl
 |n=>
  rw[show d=_ from hx]
  cases y with
  |k p b=>obtain⟨i,q,_⟩:=hy;rw[q];rfl
  |s k=>obtain⟨y,_,q⟩:=hy;rw[q];rfl
  |_=>rw[show e=_ from hy];rfl
 |b a=>
  rw[show d=_ from hx]
  cases y with
  |k p b=>exact aA mx
  |s k=>obtain⟨y,_,q⟩:=hy;rw[q];rfl
  |b c=>rw[show e=_ from hy];cases a<;>cases c<;>rfl
  |_=>rw[show e=_ from hy];cases a<;>rfl
 |i a=>
  rw[show d=_ from hx]
  cases y with
  |k p b=>exact aA mx
  |s k=>obtain⟨y,_,q⟩:=hy;rw[q];rfl
  |b c=>rw[show e=_ from hy];cases c<;>rfl
  |_=>rw[show e=_ from hy];rfl
theorem N0{f g:AV→AV→Zh}{P:AV→PyData→Prop}(ih:∀{a b d e},P a d→P b e→g a b=true→f a b=Uo d e){xs:Zb AV}:∀{ys:Zb AV}{ds es:Zb PyData},cq P xs ds→cq P ys es→v8 g xs ys=true→vg f xs ys=PyData.eqvAll ds es:=by
 induction xs with
 |nil=>
  intro ys ds es r1 r2 _
  rw[show ds=[] from r1]
  cases ys with
  |nil=>rw[show es=[] from r2];rfl
  |cons y ys=>obtain⟨q,_,_⟩:=(r2:j9 _ _ _);rw[q];rfl
 |cons x r yE=>
  intro ys ds es r1 r2 e
  obtain⟨q1,a1,a2⟩:=(r1:j9 _ _ _)
  rw[q1]
  cases ys with
  |nil=>rw[show es=[] from r2];rfl
  |cons y ys=>
   obtain⟨q2,b1,b2⟩:=(r2:j9 _ _ _)
   rw[q2]
   refine bA e λe1 e2=>?_
   show(Zp false (vg f r ys) (f x y):Zh)=_
   rw[ih a1 b1 e1,yE a2 b2 e2,PyData.eqvAll]
   cases Uo _ _<;>rfl
theorem N1(n:Zc):∀{a b:AV}{d e:PyData},DR W.Y W.H n a d→DR W.Y W.H n b e→tN T.S W.H n a b=true→sV T.S W.H n a b=Uo d e:=by
 induction n with
 |zero=>exactλr=>r.elim
 |succ n ih=>
  intro a b d e ra rb em
  have ra:aa (fD a) (p6 W.H (DR W.Y W.H n) a d) (o5 W.Y · d):=ra
  have rb:aa (fD b) (p6 W.H (DR W.Y W.H n) b e) (o5 W.Y · e):=rb
  have em:aa (fD a) (aa (hG T.S W.H a) true λp=>aa (hG T.S W.H b) true λq=>v8 (tN T.S W.H n) p.2 q.2) (λx=>aa (fD b) true λy=>zw x y)=true:=em
  show aa (fD a) (aa (fD b) (aa (hG T.S W.H a) false λp=>aa (hG T.S W.H b) false λq=>Zp false (vg (sV T.S W.H n) p.2 q.2) (eqB p.1 q.1)) λ_=>false) (λx=>aa (fD b) false λy=>xB x y)=_
  cases h1:fD a with
  |some x=>
   rw[h1]at ra em
   cases h2:fD b with
   |some y=>rw[h2]at rb em;exact Kf em ra rb
   |none=>
    rw[h2]at rb
    obtain⟨_,z,_⟩:=(rb:p6 _ _ _ _)
    rw[z];exact(CF ra).1.symm
  |none=>
   rw[h1]at ra em
   obtain⟨h3,z,k⟩:=(ra:p6 _ _ _ _)
   cases h2:fD b with
   |some y=>rw[h2]at rb;rw[z];exact(CF rb).2.symm
   |none=>
    rw[h2]at rb
    obtain⟨h4,z2,k2⟩:=(rb:p6 _ _ _ _)
    rename_i p _ q _
    obtain⟨t,xs⟩:=p
    obtain⟨t',ys⟩:=q
    rw[h3,h4]at em⊢
    rw[z,z2]
    have em:v8 (tN T.S W.H n) xs ys=true:=by rw[h2]at em;exact em
    have w:=N0 (f:=sV T.S W.H n) (P:=DR W.Y W.H n) ih k k2 em
    cases t<;>cases t'<;>first|exact w|rfl
end
end Mine
namespace Mine
section
variable{Y:Ly}{h:Yc}{a:AV}{u:Zf}
theorem V.jY{i:Zc}(e:gK a=some i)(r:V Y h a u):∃p,u=.ref p.1∧Y.ρ i=some p:=(qB e▸r:V Y h (.ref i) u)
theorem V.kR{i:Zj}(e:si a=some i)(r:V Y h a u):u=.ref i:=(sj e▸r:V Y h (.au i) u)
theorem V.gU{k:Zc}(e:cY a=some k)(r:V Y h a u):∃x t,u=.str x t∧T.S.nm k=some x:=(jj e▸r:V Y h (.sy k) u)
theorem V.j7{xs:Zb AV}(e:dX a=some xs)(r:V Y h a u):fQ Y h (Vs Y h xs) u:=(nQ e▸r:V Y h (.tup xs) u)
theorem V.QH(e:yI a=true)(r:V Y h a u):jc Y h u:=(FU e▸r:V Y h .bz u)
theorem V.mB{b:Zh}(e:bK a=some b)(r:V Y h a u):u=.bool b:=(Co e▸r:V Y h (.bool b) u)
theorem V.adO{n:Zw}(e:nP a=some n)(r:V Y h a u):jI Y h n u:=(J8 e▸r:V Y h (.range n) u)
theorem V.xa{q:Zc×Zc}(e:iD a=some q)(r:V Y h a u):jJ Y h q.1 q.2 u:=(Cy e▸r:V Y h (.vals q.1 q.2) u)
theorem V.QN{q:Zj×Zb (Zc×AV)}(e:uL a=some q)(r:V Y h a u):hM Y h q.1 q.2 (Vf Y h q.2) u:=(Cr e▸r:V Y h (.dh q.1 q.2) u)
theorem V.none_(e:isNone a=true)(r:V Y h a u):u=.none:=(yN e▸r:V Y h .none u)
theorem Vs.kP{us:Zb Zf}(r:Vs Y h [] us):us=[]:=r
end
theorem eT.room{c:Cn}{Y:Ly}{h:Yc}(a:eT c Y h):c.A.units+70<cLine:=Yy (Tm (V2 a.units) 70) (by decide)
section
variable{W:Wd}{A:Yu}
def p5(A:Yu)(W:Wd)(op:CmpOp)(u v:Zf)(b:Zh):Prop:=∀(Q:Zf→Zs→Prop)(E:Zf→Zs→Prop),(∀tk,Q (.bool b) {W.s with toks:=tk})→wpAny T.M A (compareOp op u v) Q E W.s
structure r6(A:Yu)(W:Wd)(p q:CmpOp)(u v:Zf)(b:Zh):Prop where
 y:p5 A W p u v b
 n:p5 A W q u v (!b)
theorem vr(j k:Zc)(l:Zb Zc):aK j (k::l)=(Zi j k||aK j l):=by
 show(Zp (aK j l) true (Zi j k):Zh)=_
 cases Zi j k<;>rfl
inductive Strs(vs:Zb Zf)(l:Zb Zc):Prop
 |mk{ys:Zb Str}(a:StrsAre vs ys)(b:∀k x,T.S.nm k=some x→ys.any (·==x)=aK k l)
theorem IA{xs:Zb AV}:∀{vs:Zb Zf}{l:Zb Zc},W.Vs xs vs→j3 cY xs=some l→Strs vs l:=by
 induction xs with
 |nil=>exactλr e=>by rw[show _=[] from r,←Za e];exact .mk .nil λ_ _ _=>rfl
 |cons x xs ih=>
  intro vs l r e
  obtain⟨rfl,a,rr⟩:=r.inv
  refine oN e λk h1 e=>oN e λl' h2 e=>?_
  obtain⟨y,t,rfl,hy⟩:=V.gU h1 a
  obtain⟨ha,hb⟩:=ih rr h2
  rw[←Za e]
  exact .mk (.cons _ _ ha) λj x hx=>by rw[S4,hb j x hx,vr];exact Ze (·||_) ((tS hx hy).trans (decide_eq_decide.mpr eq_comm)).symm
theorem FP(hu:A.units+70<cLine){x c:AV}{u v:Zf}(rx:W.V x u)(rc:W.V c v){b:Zh}(e:xX T.S W.H x c=some b):r6 A W .In .NotIn u v b:=
 have hu:A.units+1<cLine:=Yy (Yp (by decide) _) hu
 oE e (λ_ e=>oN e λo g e=>by
  obtain⟨q,ns,dk,r⟩:=y0 rc rx g
  rw[q,←Za e,WU r]
  exact⟨λ_ _ h=>Nv hu ns dk h,λ_ _ h=>Nx hu ns dk h⟩) λq h e=>oN e λk h1 e=>oN e λl h2 e=>by
  obtain⟨y,tk,q1,hy⟩:=V.gU h1 rx
  rw[q1,←Za e]
  cases oW rc h with
  |l _ x=>
   obtain⟨q2,g,rv,_⟩:=x
   obtain⟨ha,hb⟩:=IA rv h2
   rw[q2,←hb k y hy]
   exact⟨λ_ _ h=>in_list_strs (LstAt.iV g) ha (h _),λ_ _ h=>notin_list_strs (LstAt.iV g) ha (h _)⟩
  |t _ q2 g rv _=>
   obtain⟨ha,hb⟩:=IA rv h2
   rw[q2,←hb k y hy]
   exact⟨λ_ _ h=>in_tuple_strs g ha (h _),λ_ _ h=>notin_tuple_strs g ha (h _)⟩
inductive Ju(W:Wd)(u:Zf):Prop
 |mk{d:Zj}(q:u=.ref d)(n:(d==Xl)=false)(z:jE W.h d)
theorem Ep{dv:AV}{du:Zf}(rd:W.V dv du)(hd:vf T.S W.H dv=some []):Ju W du:=
 oO hd (λhd=>oN hd λob h1 h2=>oN h1 λi h3 h4=>by
   obtain⟨p,q,hp⟩:=V.jY h3 rd
   exact .mk q (noSys (o:=default) (.inl (W.R.sub _ (.mk hp (.x rfl))))) (show eB W.Y W.h p [] from(pd h2▸h4:W.H.get i=some (.dict []))|>λh4=>W.R.obj i _ p h4 hp).emp) λhd=>oO hd (λhd=>bN hd λh1 _=>by
   obtain⟨q,f⟩:=V.QH h1 rd
   exact .mk q (noSys (o:=default) (.inr ⟨_,f.g⟩)) ⟨_,_,f.g,⟨rfl,rfl,rfl⟩,rfl⟩) λhd=>oN hd λob h1 h2=>oN h1 λx h3 h4=>by
   obtain⟨kvs,h5,h6,h7⟩:=O.wq (xy h2▸h4)
   exact .mk (V.kR h3 rd) (O.noSys x (by rw[h4];rfl)) (.zX (DictOf.keeps ((show kvs=[] from h6 W.Y W.h)▸h5) λo=>W.R.base _ o))
theorem wQ{d:PyData}(l:d.canLay0=true)(k:d.depth≤8):SeqAt.shaped d=true:=by
 unfold SeqAt.shaped;rw[l,Bool.true_and];exact Y6 (Zu k (by decide))
theorem x5(hu:A.units+70<cLine){u v:Zf}{c:Zh}{P P':PyData→Prop}(r:Rd W.h 8 P u)(r':Rd W.h 8 P' v)(h:∀d e,P d→P' e→c=Uo d e):r6 A W .Eq .NotEq u v c:=by
 obtain⟨r1,l1,k1,p1⟩:=r
 obtain⟨r2,l2,k2,p2⟩:=r'
 have hu:A.units+64<cLine:=Yy (Yp (by decide) _) hu
 have e:=h _ _ p1 p2
 exact⟨λ_ _ h=>eq_dataH r1 r2 (wQ l1 k1) (wQ l2 k2) hu (e▸h _),λ_ _ h=>ne_dataH r1 r2 (wQ l1 k1) (wQ l2 k2) hu (e▸h _)⟩
theorem Hu{a:Zj}{o:Obj}{n:Zc}{i j:Zw}{t u:Tok}(f:Fz W.Y W.h a o)(hc:o.cls=.type "tuple")(hd:o.data=.seq #[.int i t,.int j u] n):Rd W.h 8 (λd=>d=.tuple [.int i,.int j]) (.ref a):=
 .mk (.tuple f.g hc hd (.cons (.int i t) (.cons (.int j u) .nil))) rfl (show 1≤8 by decide) rfl
theorem w6{α β:Type}{l:Zb α}{f:α→α→Zd β}{b:β}{P:Prop}(e:two l none f=some b)(k:∀x y,l=[x,y]→f x y=some b→P):P:=by
 rcases l with _|⟨x,_|⟨y,_|⟨z,r⟩⟩⟩
 ·exact aF e
 ·exact aF e
 ·exact k x y rfl e
 ·exact aF e
theorem akh(hu:A.units+70<cLine){a b:AV}{u v:Zf}(ra:W.V a u)(rb:W.V b v){c:Zh}(e:A1 a b=some c):r6 A W .Eq .NotEq u v c:=by
 refine oN e λp h1 e=>oN e λxs h2 e=>w6 e λx y hx e=>oN e λq h3 e=>oN e λr h4 e=>bN e λg e=>bA g λg1 g2=>?_
 obtain⟨q2,rv,_,f,hc,hd⟩:=V.j7 h2 rb
 rw[hx]at rv
 obtain⟨e1,x1,rv⟩:=rv.inv
 obtain⟨e2,x2,rv⟩:=rv.inv
 obtain⟨t1,w1⟩:=rm h3 x1
 obtain⟨t2,w2⟩:=rm h4 x2
 rw[e1,e2,w1,w2,rv.kP]at hd
 have R2:=Hu f hc hd
 rw[←q2,←show p.1=q from Zr g1,←show p.1+1=r from Zr g2]at R2
 cases(show iL W.Y W.h p.1 p.2 u from(Kb h1▸ra:W.V (.dA p.1 p.2) u))with
 |n q f=>exact x5 hu (P:=λd=>d=.none) (q▸.mk .none rfl (Yt _) rfl) R2 λd d' z z'=>by rw[z,z',←Za e,f];rfl
 |t q _ _ g f hc hd=>exact x5 hu (q▸Hu f hc hd) R2 λd d' z z'=>by rw[z,z',←Za e,g];exact Ze (_&&·) (Bool.and_true _).symm
theorem Eu(hu:A.units+70<cLine){a b:AV}{u v:Zf}(ra:W.V a u)(rb:W.V b v){c:Zh}(e:sU T.S W.H a b=some c):r6 A W .Eq .NotEq u v c:=
 oO e (akh hu ra rb) λe=>bE e (λg e=>bA g λg1 g2=>bN e λg3 e=>x5 hu (HJ 8 ra g1) (HJ 8 rb g2) λd d' z z'=>(Za e).symm.trans (N1 8 z z' g3)) λ_ e=>oN e λx h1 e=>oN e λy h2 e=>by
  cases x with
  |cons _ _=>exact aF e
  |nil=>
   cases y with
   |cons _ _=>exact aF e
   |nil=>
    obtain⟨q1,n1,z1⟩:=Ep ra h1
    obtain⟨q2,n2,z2⟩:=Ep rb h2
    rw[q1,q2,←Za e]
    have hu:A.units<cLine:=Yy (Xu _ _) hu
    exact⟨λ_ _ h=>keq_eq (r:=true) n1 n2 z1.st z2.st hu (λ_=>.nil) (h _),λ_ _ h=>keq_ne (r:=true) n1 n2 z1.st z2.st hu (λ_=>.nil) (h _)⟩
theorem int_at{op:CmpOp}{f:Zw→Zw→Zh}(hf:∀{i j:Zw}{t t':Tok},p5 A W op (.int i t) (.int j t') (f i j)){a b:AV}{u v:Zf}(ra:W.V a u)(rb:W.V b v){c:Zh}(e:vG f a b=some c):p5 A W op u v c:=
 oN e λi h1 e=>oN e λj h2 e=>by
  obtain⟨t,q1⟩:=V.cU h1 ra
  obtain⟨t',q2⟩:=V.cU h2 rb
  rw[q1,q2,←Za e];exact hf
theorem WR{a:AV}{u:Zf}{c:Zh}{Y:Ly}{h:Yc}:V Y h a u→FZ a=some c→(u==.none)=c:=by
 have k:∀{v:Zf},some false=some c→u=v→(v==.none)=false→(u==.none)=c:=λe q h=>by rw[q,←Za e];exact h
 cases a<;>first|exactλ_ e=>aF e|skip
 ·exactλr e=>by rw[show u=_ from r,←Za e];rfl
 all_goals first|(intro r e;exact k e r rfl)|(intro r e;obtain⟨_,q⟩:=r;exact k e q rfl)|(intro r e;obtain⟨_,q,_⟩:=r;exact k e q rfl)|(intro r e;obtain⟨_,_,q,_⟩:=r;exact k e q rfl)|(intro r e;cases r with|mk q=>exact k e q rfl)|skip
theorem F0{a b:AV}{u v:Zf}(ra:W.V a u)(rb:W.V b v){c:Zh}(e:yL a b=some c):r6 A W .Is .IsNot u v c:=
 bN e λg e=>by
  rw[show v=.none from V.none_ g rb,←WR ra e]
  exact⟨λ_ _ h=>is_none (h _),λ_ _ h=>isNot_none (h _)⟩
theorem UH{a b:AV}{u v:Zf}(ra:W.V a u)(rb:W.V b v){c:Zh}(e:Ff a b=some c):p5 A W .Gt u v c:=
 oN e λq h1 e=>oN e λm h2 e=>bN e λg e=>bA g λg1 g2=>by
  obtain⟨i,t,q1,le⟩:=(uI h1▸ra:W.V (.cnt q.1 q.2) u)
  obtain⟨t',q2⟩:=V.cU h2 rb
  have g1:=Zm g1
  have g2:=Y2 g2
  rw[q1,q2,←Za e]
  refineλ_ _ h=>Qu ?_
  rw[Ym (show¬m<i by omega)]
  exact h _
theorem zQ{o:Zd Zh}{c:Zh}{P:Prop}(e:wo o=some c)(k:∀b,o=some b→(!b)=c→P):P:=oN e λb h e=>k b h ((not_eq b).symm.trans (Za e))
theorem xV(hu:A.units+70<cLine){op:CmpOp}{a b:AV}{u v:Zf}(ra:W.V a u)(rb:W.V b v){c:Zh}(e:eD T.S W.H op a b=some c):p5 A W op u v c:=by
 cases op with
 |Eq=>exact(Eu hu ra rb e).y
 |NotEq=>exact zQ e λb h q=>q▸(Eu hu ra rb h).n
 |Lt=>exact int_at (λ{i j t t'} _ _ h=>PyProof.Rows.lt_int (h _)) ra rb e
 |LtE=>exact int_at (λ{i j t t'} _ _ h=>PyProof.Rows.le_int (h _)) ra rb e
 |Gt=>exact oO e (UH ra rb) (int_at (λ{i j t t'} _ _ h=>Qu (h _)) ra rb)
 |Is=>exact(F0 ra rb e).y
 |IsNot=>exact zQ e λb h q=>q▸(F0 ra rb h).n
 |In=>exact(FP hu ra rb e).y
 |NotIn=>exact zQ e λb h q=>q▸(FP hu ra rb h).n
 |_=>exact aF e
end
end Mine
namespace Mine
theorem aS.TT{α β:Type}{V:Wd→α→β→Prop}{W:Wd}{r:Res α}{a:α}{b:β}{tk:Zc}{h1:Yc}{o:Obj}(er:r=.ok a W.H)(k:∀(b:Zj)(ob:Obj),W.h.get? b=some ob→h1.get? b=some ob)(sz:W.h.objs.size≤h1.objs.size)(nf:o.isFreed=false)
  (v:∀W':Wd,Le W W'→Fz W'.Y W'.h h1.objs.size o→V W' a b):aS V W r b {W.s with heap:=h1.push o,toks:=tk}:=
 .grow er (.all λb ob e=>Zv _ (k b ob e)) λW' le eY es=>v W' le ⟨(Ze (λs=>s.heap.get? h1.objs.size) es).trans (Yb _ nf),eY▸(W.fresh sz).2⟩
section
variable{n:Zc}{cx:aQ}{c:Cn}
def mc(op:CmpOp)(a b:AV):AM AV:=λh=>aa (eD T.S h op a b) .bad λb=>.ok (.bool b) h
structure xe{β:Type}(V:Wd→AV→β→Prop)(K:CmpOp→Zf→Zf→Sem β)(F:Zf→β):Prop where
 k:∀{c:Cn}{W:Wd}{op:CmpOp}{a b:AV}{u v:Zf},c.A.units+70<cLine→W.V a u→W.V b v→bh c V W (mc op a b W.H) (K op u v)
 f:∀W,V W (.bool false) (F (.bool false))
def kV(op:CmpOp)(u v:Zf):Sem Zf:=operate [u,v] (compareOp op u v)
noncomputable def kB(op:CmpOp)(u v:Zf):Sem Zh:=operate [u,v] (compareOp op u v)>>=λc=>W8 [c] (truthy c)
theorem DC:xe VV kV id:=⟨λhu ra rb=>.of λr hr hb=>oB hr hb λx hx hr=>Ti (xV hu ra rb hx _ _ λtk=>.mk (Wd.tok _ tk) _ hr.symm (.tok _ tk) rfl),λ_=>rfl⟩
theorem DB:xe VB kB (λ_=>false):=⟨λhu ra rb=>.of λr hr hb=>oB hr hb λx hx hr=>Zg (Ti (xV hu ra rb hx _ _ λtk=>Y0 (Sc (.mk (Wd.tok _ tk) _ hr.symm (.tok _ tk) rfl)))),λ_=>rfl⟩
section
variable{β:Type}{V:Wd→AV→β→Prop}{K:CmpOp→Zf→Zf→Sem β}{F:Zf→β}(k:xe V K F){l r q:PE}{p:Pos}{o1 o2:CmpOp}{ml mr mq:Zh→Fm→AM AV}{env:Env}{fm:Fm}{W:Wd}
include k
theorem DD(il:aP n cx l ml)(ir:aP n cx r mr)(g:Gd n cx c env fm W):bh c V W (tI T.S o1 (ml c.hd) (mr c.hd) fm W.H) (do let u←eval l env;let v←W8 [u] (eval r env);standAt p;K o1 u v):=
 .bind (il g) λW1 a u _ le v=>.bind (ir (g.le le)).hold λW2 b w _ bD v2=>.iZ (k.k ((g.le le).le bD).a.room (bD.v v) v2)
theorem DF(il:aP n cx l ml)(ir:aP n cx r mr)(iq:aP n cx q mq)(g:Gd n cx c env fm W):bh c V W (tJ T.S o1 o2 (ml c.hd) (mr c.hd) (mq c.hd) fm W.H) (do
  let u←eval l env
  let v←W8 [u] (eval r env)
  standAt p
  let c←W8 [u,v] (compareOp o1 u v)
  release [u,v] [c]
  if←W8 [c,v] (truthy c)then(do let w←W8 [v] (eval q env);standAt p;K o2 v w)else pure (F c)):=
 .bind (il g) λW1 a u _ le v=>.bind (ir (g.le le)).hold λW2 b w _ bD v2=>.iZ (.of λres hr hb=>oB hr hb λx hx hr=>by
  have g2:=(g.le le).le bD
  refine Zg (Y0 (xV g2.a.room (bD.v v) v2 hx _ _ λtk=>Zg (wpAny_release' (Zg (Y0 (Sc ?_))))))
  cases x with
  |false=>exact Zq (.mk (W2.tok tk) _ hr.symm (.tok W2 tk) (k.f _))
  |true=>
   have dO:=Le.tok W2 tk
   exact bh.le dO (hr▸.bind (iq (g2.le dO)).hold λW4 d w' _ q6 v4=>.iZ (k.k ((g2.le dO).le q6).a.room ((dO.trans q6).v v2) v4)) hb)
end
variable{l r q:PE}{p:Pos}{o1 o2:CmpOp}{ml mr mq:Zh→Fm→AM AV}
theorem aiq(hm:lastMarks [o1] [r]=false)(il:aP n cx l ml)(ir:aP n cx r mr):aP n cx (.Compare l [o1] [r] p) (λhd=>tI T.S o1 (ml hd) (mr hd)):=λ{c env fm W} g=>
 .cast (DD (p:=p) DC il ir g) (by
  show(do compareChain p (←eval l env) [o1] (markedEach [o1] [r] (evalEach [r] env)))=_
  rw[Uf _ _ _ hm];rfl)
theorem aiJ(hm:lastMarks [o1] [r]=false)(il:aP n cx l ml)(ir:aP n cx r mr):gJ n cx (.Compare l [o1] [r] p) (λhd=>tI T.S o1 (ml hd) (mr hd)):=λ{c env fm W} g=>
 .cast (DD (p:=p) DB il ir g) (by
  show(do testChain p (←eval l env) [o1] (markedEach [o1] [r] (evalEach [r] env)))=_
  rw[Uf _ _ _ hm];rfl)
theorem air(hm:lastMarks [o1,o2] [r,q]=false)(il:aP n cx l ml)(ir:aP n cx r mr)(iq:aP n cx q mq):aP n cx (.Compare l [o1,o2] [r,q] p) (λhd=>tJ T.S o1 o2 (ml hd) (mr hd) (mq hd)):=λ{c env fm W} g=>
 .cast (DF (p:=p) DC il ir iq g) (by
  show(do compareChain p (←eval l env) [o1,o2] (markedEach [o1,o2] [r,q] (evalEach [r,q] env)))=_
  rw[Uf _ _ _ hm];rfl)
theorem aiK(hm:lastMarks [o1,o2] [r,q]=false)(il:aP n cx l ml)(ir:aP n cx r mr)(iq:aP n cx q mq):gJ n cx (.Compare l [o1,o2] [r,q] p) (λhd=>tJ T.S o1 o2 (ml hd) (mr hd) (mq hd)):=λ{c env fm W} g=>
 .cast (DF (p:=p) DB il ir iq g) (by
  show(do testChain p (←eval l env) [o1,o2] (markedEach [o1,o2] [r,q] (evalEach [r,q] env)))=_
  rw[Uf _ _ _ hm];rfl)
inductive ux(n:Zc):Zw→Zc→Prop
 |p(j:Zc):ux n (.ofNat j) j
 |n{p:Zc}(h:p+1≤n):ux n (.negSucc p) (n-(p+1))
theorem Kh{xs:Zb AV}{k:Zw}{v:AV}(e:CD xs k=some v):∃j,aB xs j=some v∧ux xs.length k j:=by
 cases k with
 |ofNat p=>exact⟨p,e,.p p⟩
 |negSucc p=>
  refine bN e λg e=>?_
  have g:=Zm g
  rw[dH]at g e
  exact⟨_,e,.n g⟩
theorem neg_add{p m:Zc}:(Int.negSucc p+m).toNat=m-(p+1):=(Ze Int.toNat (Int.add_comm _ _)).trans (Int.toNat_sub m (p+1))
theorem Hf{α:Type}{l:Zb α}{i:Zc}{a:α}(e:l[i]?=some a):i<l.length:=(List.getElem?_eq_some_iff.mp e).1
section
variable{A:Yu}{s:Zs}{Q:Zf→Zs→Prop}{E:Zf→Zs→Prop}{l:Zj}{vs:Zb Zf}{k:Zw}{j:Zc}{t:Tok}{x:Zf}(len:vs.length≤2000000)(i:ux vs.length k j)(hx:vs[j]?=some x)(h:Q x s)
include len i hx h
theorem item_list(hl:s.heap.IsList l vs.toArray):wpAny T.M A (getItem (.ref l) (.int k t)) Q E s:=by
 have ax:∀{j},vs[j]?=some x→vs.toArray[j]?=some x:=λe=>(Xr ..).trans e
 cases i with
 |p=>exact wpAny_getItem_list hl (X0 j) (Up (Int.ofNat_lt.mpr (Hf hx)) (Xd (Int.ofNat_le.mpr len) (by decide))) (ax hx) h
 |n g=>
  have lo:=Tp (Int.ofNat_le.mpr g)
  exact wpAny_getItem_list_neg hl (Tu _) (by rw[Zy];exact lo) (Xd (Xd (by decide) (Tp (Int.ofNat_le.mpr len))) lo) (by rw[Zy,neg_add];exact ax hx) h
theorem item_tup(hl:IsTup s.heap l vs.toArray):wpAny T.M A (getItem (.ref l) (.int k t)) Q E s:=by
 have ax:∀{j},vs[j]?=some x→vs.toArray[j]?=some x:=λe=>(Xr ..).trans e
 cases i with
 |p=>
  have lt:=Int.ofNat_lt.mpr (Hf hx)
  refine getItem_tuple hl (Xd (by decide) (X0 j)) (Up lt (Xd (Int.ofNat_le.mpr len) (by decide))) ?_ (ax hx) h
  unfold seqIndex?
  dsimp only
  rw[Zy,if_neg (Int.not_lt.mpr (X0 j):¬Zx j<0)]
  exact if_pos (Bool.and_eq_true_iff.mpr ⟨Y6 (X0 j),Y6 lt⟩)
 |@n p g=>
  have lo:=Tp (Int.ofNat_le.mpr g)
  refine getItem_tuple hl (Xd (Xd (by decide) (Tp (Int.ofNat_le.mpr len))) lo) (Up (Tu _) (by decide)) ?_ (ax hx) h
  rw[Zy,←neg_add]
  exact PySem.seqIndex_neg (Tu _) lo
end
theorem ah7{W:Wd}(hu:c.A.units+70<cLine){a i:AV}{u w:Zf}(ra:W.V a u)(ri:W.V i w){value slice:PE}(hs:∀u w,subscripted slice false u w=operate [u,w] (getItem u w)):bh c VV W (Gb T.S a i W.H) (subscriptTail value slice u w):=.of λr hr hb=>oB hr hb λv hv hr=>
 oE hv (λ_ e=>oN e λo g e=>by
  obtain⟨q,ns,dk,r⟩:=y0 ra ri g
  rw[e]at r
  obtain⟨x,q2,rv⟩:=(r:∃w,_=some w∧W.V v w)
  rw[q2]at dk
  rw[q]
  exact Qe (x6 dk) PySem.slot_dict_getitem.lookup (Nw (Yy (Yp (by decide) _) hu) dk λtk=>.mk (W.tok tk) v hr.symm (.tok W tk) rv) (hs _ _)) λq h e=>oN e λk hk e=>by
  obtain⟨tk,rfl⟩:=V.cU hk ri
  obtain⟨j,e,ij⟩:=Kh e
  cases oW ra h with
  |l _ x=>
   obtain⟨q,g,rv,len⟩:=x
   obtain⟨x,hx,vx⟩:=rv.get e
   rw[q]
   exact Qe (LstAt.iV g).typeIs PySem.slot_list_getitem.lookup (item_list len (rv.len▸ij) hx (.mk W v hr.symm (.refl W) vx) (LstAt.iV g)) (hs _ _)
  |t _ q g rv len=>
   obtain⟨x,hx,vx⟩:=rv.get e
   rw[q]
   exact Qe g.typeIs PySem.F.slot_tuple_getitem.lookup (item_tup len (rv.len▸ij) hx (.mk W v hr.symm (.refl W) vx) g) (hs _ _)
theorem aiA{v i:PE}{p:Pos}{mv mi:Zh→Fm→AM AV}(hs:∀u w,subscripted i false u w=operate [u,w] (getItem u w))(iv:aP n cx v mv)(ii:aP n cx i mi):aP n cx (.Subscript v i p) (λhd=>zc T.S (mv hd) (mi hd)):=λ{c env fm W} g=>
 .bind (t:=eval v env) (iv g) λW1 a u _ le v1=>.bind (ii (g.le le)).hold λW2 b w _ bD v2=>.iZ (ah7 ((g.le le).le bD).a.room (bD.v v1) v2 hs)
theorem aiH{v:PE}{p sp q r:Pos}{k:Zc}{mv:Zh→Fm→AM AV}(iv:aP n cx v mv):aP n cx (.Subscript v (.Slice none none (some (.UnaryOp .USub (.Constant (.int 1) k q) r)) sp) p) (λhd=>zi T.S (mv hd)):=λ{c env fm W} g=>
 .bind (t:=eval v env) (iv g) λW1 a u _ le v1=>.of λres hr hb=>oB hr hb λxs h1 hr=>by
  obtain⟨q,hl,rv,len⟩:=mW v1 h1
  rw[q]
  refine Zg (Y0 (wpAny_Slice ?_))
  rw[evalPart_none,evalPart_some]
  refine Zq (Zq ?_)
  refine Zg (wpAny_mkInt (Zg (Yw (Y0 (Qi ?_)))))
  refine Zg (Yw ?_)
  have Fw:=LstAt.iV (Zv {cls:=.type "slice",data:=.fields #[.none,.none,.int (-1) (W1.s.toks+1)]} hl)
  refine Qe Fw.typeIs PySem.slot_list_getitem.lookup (wpAny_getItem_list_slice Fw ⟨_,Yb _ rfl,rfl,rfl⟩ .none .none (.int _ _) (by decide) ?_ (by rw[Wa,Zy];exact Zu len (by decide))) rfl
  rw[krv_pick]
  exact .TT (h1:=W1.h.push _) (tk:=W1.s.toks+2) hr.symm (λb ob e=>Zv _ e) (Ra ..▸Uu _) rfl λW' le f=>hO.mk rfl (le.vs (by rw[aeg,X4];exact rv.rev)) (by rw[List.length_reverse];exact len) f
end
end Mine
namespace Mine
theorem lX{h h':Yc}{a:Zj}{m:Str→Zd Zf}(x:h.Ns a m)(k:∀o,h.get? a=some o→h'.get? a=some o):h'.Ns a m:=x.elim λo z=>z.elim λes z=>z.elim λep z=>⟨o,es,ep,k o z.1,z.2⟩
def Ly.ta(Y:Ly)(τ:Zc→Zw):Ly:=⟨Y.ρ,τ,Y.Mu,Y.ar⟩
def Ly.pr(Y:Ly)(Mu ar:Zj→Prop):Ly:=⟨Y.ρ,Y.τ,Mu,ar⟩
structure eW(own:Zj→Prop)(W:Wd)(Mu ar:Zj→Prop)(s:Zs):Prop where
 re:Rest W.s s
 k:∀(b:Zj)(o:Obj),¬own b→W.h.get? b=some o→s.heap.get? b=some o
 mu:∀a,¬own a→(Mu a↔W.Y.Mu a)
 fr:∀a,¬own a→(ar a↔W.Y.ar a)
 ft:∀a,own a→¬W.Y.foot a
 ow:∀a,own a→W.Y.Mu a∨W.h.get? a=none
 th:∀a,own a→Mu a→∃o,s.heap.get? a=some o
 fm:∀a,own a→ar a→Mu a
section
variable{own:Zj→Prop}{W:Wd}{Mu ar:Zj→Prop}{s:Zs}(x:eW own W Mu ar s)
include x
theorem eW.mono:cO W.Y W.h (W.Y.pr Mu ar) s.heap where
 τ:=rfl
 ids _ p e:=⟨p.2,e⟩
 keep a o f:=Fz.casesOn f λg n=>
  have no:¬own a:=λq=>(x.ow a q).elim n λz=>nomatch z.symm.trans g
  .mk (x.k a o no g) λq=>n ((x.mu a no).mp q)
theorem eW.rep:Rep (W.Y.pr Mu ar) W.H s.heap:=
 have cl:∀{a:Zj}{P:Prop},(own a→P)→(¬own a→P)→P:=λy n=>(V5 _).elim y n
 have tn:∀{a:Zj},W.h.get? a=none→T.h0.get? a=none:=λ{a} e=>by
  cases z:T.h0.get? a with
  |none=>rfl
  |some o=>exact nomatch e.symm.trans (W.R.base a o z)
 have nf:∀{a:Zj},W.Y.foot a→¬own a:=λf q=>x.ft _ q f
 {len:=W.R.len
  dg:=W.R.dg
  obj:=λi o p e1 e2=>(W.R.obj i o p e1 e2).mono x.mono λb hb ob eb=>x.k b ob (nf (.mk e2 hb)) eb
  inj:=W.R.inj
  sub:=λa ha=>(x.mu a (nf ha)).mpr (W.R.sub a ha)
  apart:=λa ha q=>W.R.apart a ha ((x.fr a (nf ha)).mp q)
  eg:=λa ha=>cl (λo=>x.fm a o ha) λo=>(x.mu a o).mpr (W.R.eg a ((x.fr a o).mp ha))
  new:=λa ha=>cl (λo=>(x.ow a o).elim (W.R.new a) tn) λo=>W.R.new a ((x.mu a o).mp ha)
  there:=λa ha=>cl (λo=>x.th a o ha) λo=>(W.R.there a ((x.mu a o).mp ha)).elim λob e=>⟨ob,x.k a ob o e⟩
  base:=λb ob e=>x.k b ob (λo=>(x.ow b o).elim (λq=>nomatch(W.R.new b q).symm.trans e) λq=>nomatch(tn q).symm.trans e) (W.R.base b ob e)}
end
def Wd.pv(W:Wd){own:Zj→Prop}{Mu ar:Zj→Prop}{s:Zs}(x:eW own W Mu ar s):Wd:=⟨W.Y.pr Mu ar,s,W.H,x.rep⟩
structure Lo(K:Prop)(own:Zj→Prop)(W W':Wd):Prop where
 st:Step own (W.Y.ta W'.Y.τ) W.h W'.Y W'.h
 t:K→W'.Y.τ=W.Y.τ
 re:Rest W.s W'.s
 pv:∀a,own a→W'.Y.Mu a∧¬W'.Y.foot a
section
variable{K:Prop}{own:Zj→Prop}{W0 W W':Wd}
theorem Le.off(y:Le W W'){a:Zj}(x:W.Y.Mu a∧¬W.Y.foot a):W'.Y.Mu a∧¬W'.Y.foot a:=⟨y.st.mu a x.1,λq=>(y.st.ft a q).elim x.2 λz=>(W.R.there a x.1).elim λ_ e=>nomatch z.symm.trans e⟩
theorem Step.ta{Y Y':Ly}{h h':Yc}{τ Je:Zc→Zw}(z:Step own (Y.ta τ) h Y' h')(e:Y'.τ=Je):Step own (Y.ta Je) h Y' h':=⟨e,z.ar,z.ids,z.mu,z.fX,z.ft,z.keep,z.dy,z.c7,z.ow⟩
theorem Lo.le(x:Lo K own W0 W)(y:Le W W'):Lo K own W0 W':=⟨(x.st.trans (y.st.weaken (λ_=>Xg) λa q=>.inl (x.pv a q).1)).ta rfl,λk=>y.st.τ.trans (x.t k),x.re.trans y.re,λa q=>y.off (x.pv a q)⟩
theorem Lo.str(x:Lo K own W0 W)(k:K):Step own W0.Y W0.h W.Y W.h:=⟨x.t k,x.st.ar,x.st.ids,x.st.mu,x.st.fX,x.st.ft,x.st.keep,x.st.dy,x.st.c7,x.st.ow⟩
theorem Lo.mono(x:Lo K own W0 W)(k:K):cO W0.Y W0.h W.Y W.h:=(x.str k).mono W0.R
theorem Lo.im{K':Prop}(x:Lo K own W0 W)(k:K'→K):Lo K' own W0 W:=⟨x.st,λq=>x.t (k q),x.re,x.pv⟩
theorem Le.keep(y:Le W W'){a:Zj}(x:W.Y.Mu a∧¬W.Y.foot a)(n:¬W.Y.ar a){o:Obj}(e:W.h.get? a=some o):W'.h.get? a=some o:=y.st.keep a o id x.2 n e
section
variable{P F:Zj→Prop}{s:Zs}
theorem eW.alloc(re:Rest W.s s)(k:∀(b:Zj)(o:Obj),W.h.get? b=some o→s.heap.get? b=some o)(fp:∀a,P a→W.h.get? a=none∧∃o,s.heap.get? a=some o)(fF:∀a,F a→P a):eW P W (λa=>W.Y.Mu a∨P a) (λa=>W.Y.ar a∨F a) s where
 re:=re
 k b o _:=k b o
 mu a n:=Sq n
 fr a n:=Sq λq=>n (fF a q)
 ft a q f:=(W.R.there a (W.R.sub a f)).elim λ_ e=>nomatch(fp a q).1.symm.trans e
 ow a q:=.inr (fp a q).1
 th a q _:=(fp a q).2
 fm a q _:=.inr q
theorem Lo.alloc(x:Lo K own W0 W)(y:eW P W (λa=>W.Y.Mu a∨P a) (λa=>W.Y.ar a∨F a) s)(fp:∀a,P a→W.h.get? a=none):Lo K (λa=>own a∨P a) W0 (W.pv y)where
 st:={
  τ:=rfl
  ar:=λa n=>(y.fr a λq=>n (.inr q)).trans (x.st.ar a λq=>n (.inl q))
  ids:=x.st.ids
  mu:=λa q=>.inl (x.st.mu a q)
  fX:=λa q=>q.elim (x.st.fX a) λq=>.inr (x.st.gone (fp a q))
  ft:=x.st.ft
  keep:=λa o n f r e=>y.k a o (λq=>n (.inr q)) (x.st.keep a o (λq=>n (.inl q)) f r e)
  dy:=λa n f m q=>lX (x.st.dy a (λq=>n (.inl q)) f m q) λo=>y.k a o λq=>n (.inr q)
  c7:=λa o e=>(x.st.c7 a o e).elim λo' e'=>⟨o',y.k a o' (λq=>nomatch(fp a q).symm.trans e') e'⟩
  ow:=λa q=>q.elim (x.st.ow a) λq=>.inr (x.st.gone (fp a q))}
 t:=x.t
 re:=x.re.trans y.re
 pv a q:=q.elim (λq=>⟨.inl (x.pv a q).1,(x.pv a q).2⟩) λq=>⟨.inr q,y.ft a q⟩
end
variable{s:Zs}
theorem eW.turn{D:Zj→Prop}(re:Rest W.s s)(hd:∀a,D a→W.Y.Mu a∧¬W.Y.foot a)(k:∀(b:Zj)(o:Obj),¬D b→W.h.get? b=some o→s.heap.get? b=some o)(th:∀a,D a→∃o,s.heap.get? a=some o):eW D W W.Y.Mu W.Y.ar s where
 re:=re
 k b o:=k b o
 mu a _:=.rfl
 fr a _:=.rfl
 ft a q:=(hd a q).2
 ow a q:=.inl (hd a q).1
 th a q _:=th a q
 fm a q _:=(hd a q).1
theorem Lo.turn{D:Zj→Prop}(x:Lo K own W0 W)(hd:∀a,D a→own a)(y:eW D W W.Y.Mu W.Y.ar s):Lo K own W0 (W.pv y):=
 have ne:∀{a},¬own a→¬D a:=λn q=>n (hd _ q)
 ⟨{x.st with
  keep:=λa o n f r e=>y.k a o (ne n) (x.st.keep a o n f r e)
  dy:=λa n f m q=>lX (x.st.dy a n f m q) λo=>y.k a o (ne n)
  c7:=λa o e=>(V5 (D a)).elim (λq=>y.th a q (x.pv a (hd a q)).1) λq=>(x.st.c7 a o e).elim λo' e'=>⟨o',y.k a o' q e'⟩},x.t,x.re.trans y.re,x.pv⟩
theorem eW.close{D:Zj→Prop}(re:Rest W.s s)(hd:∀a,D a→W.Y.Mu a∧¬W.Y.foot a)(k:∀(b:Zj)(o:Obj),¬D b→W.h.get? b=some o→s.heap.get? b=some o):eW D W (λa=>W.Y.Mu a∧¬D a) (λa=>W.Y.ar a∧¬D a) s where
 re:=re
 k:=k
 mu a n:=Sg n
 fr a n:=Sg n
 ft a q:=(hd a q).2
 ow a q:=.inl (hd a q).1
 th a q z:=Y8 q z.2
 fm a q z:=Y8 q z.2
theorem Lo.close{D:Zj→Prop}(x:Lo K own W0 W)(h0:∀a,D a→own a∧W0.h.get? a=none)(y:eW D W (λa=>W.Y.Mu a∧¬D a) (λa=>W.Y.ar a∧¬D a) s):Lo K (λa=>own a∧¬D a) W0 (W.pv y):=
 have no:∀{a o},W0.h.get? a=some o→¬D a:=λe q=>nomatch(h0 _ q).2.symm.trans e
 have nm:∀{a},W0.Y.Mu a→¬D a:=λm=>(W0.R.there _ m).elim λ_ e=>no e
 have nw:∀{a},¬(own a∧¬D a)→¬D a→¬own a:=λn d q=>n ⟨q,d⟩
 {st:={
   τ:=rfl
   ar:=λa n=>(V5 (D a)).elim (λd=>⟨λz=>Y8 d z.2,λz=>Y8 d (nm (W0.R.eg a z))⟩) λd=>(y.fr a d).trans (x.st.ar a (nw n d))
   ids:=x.st.ids
   mu:=λa q=>⟨x.st.mu a q,nm q⟩
   fX:=λa q=>x.st.fX a q.1
   ft:=x.st.ft
   keep:=λa o n f r e=>y.k a o (no e) (x.st.keep a o (nw n (no e)) f r e)
   dy:=λa n f m q=>lX (x.st.dy a (nw n (nm (W0.R.eg a f))) f m q) λo=>y.k a o (nm (W0.R.eg a f))
   c7:=λa o e=>(x.st.c7 a o e).elim λo' e'=>⟨o',y.k a o' (no e) e'⟩
   ow:=λa q=>x.st.ow a q.1}
  t:=x.t
  re:=x.re.trans y.re
  pv:=λa q=>⟨⟨(x.pv a q.1).1,q.2⟩,(x.pv a q.1).2⟩}
theorem Lo.un(x:Lo K own W0 W)(k:K)(n:∀a,¬own a):Le W0 W:=⟨(x.str k).weaken (λa q=>(n a q).elim) λ_=>Xg,x.re⟩
theorem Lo.cast{own':Zj→Prop}(x:Lo K own W0 W)(k:∀a,own a↔own' a):Lo K own' W0 W:=⟨x.st.weaken (λa=>(k a).mp) λa q=>x.st.ow a ((k a).mpr q),x.t,x.re,λa q=>x.pv a ((k a).mpr q)⟩
theorem eT.lo{c:Cn}(x:eT c W0.Y W0.h)(l:Lo K own W0 W)(f:∀a,own a→W0.h.get? a=none):eT c W.Y W.h:=eT.step (Y:=W0.Y.ta W.Y.τ) ⟨x.depth,x.units,x.hand,x.stack,λenv he=>(λz=>⟨z.kind,z.fr,z.frame,z.new,z.ns⟩:k9 W0.Y W0.h env→k9 (W0.Y.ta W.Y.τ) W0.h env) (x.iR env he)⟩ l.st λa q z=>(W0.R.there a (W0.R.eg a z)).elim λ_ e=>nomatch(f a q).symm.trans e
theorem Lo.refl(W:Wd):Lo K No W W:=⟨.refl _ _,λ_=>rfl,.refl _,λ_=>Xg⟩
end
end Mine
namespace Mine
def uy(h:Yc)(d:Zj)(es:X9 Y4)(ep:Zc):Prop:=∃o,h.get? d=some o∧o.data=.dict es ep
section
variable{prog:Program}{w:Yo}{A:Yu}{E:Zf→Zs→Prop}{s:Zs}{it d:Zj}{i ep:Zc}{es:X9 Y4}
theorem akb{v:Zj}{Q:Zf→Zs→Prop}(hv:s.heap.IsValuesView v d)(hm:uy s.heap d es ep)
  (hQ:Q (.ref s.heap.objs.size) {s with heap:=s.heap.push {cls:=.type "dict_valueiterator",data:=.fields #[.ref d,.int 0 0,.int es.size 0,.int ep 0]}}):wpAny (model prog w) A (pyIter (.ref v)) Q E s:=by
 obtain⟨ov,a1,a2,a3⟩:=id hv
 obtain⟨o,b1,b2⟩:=id hm
 refine wpAny_pyIter_slot hv.typeIs Rx (U4 Rx hv.typeIs F.entry_dict_values_iter ?_ (F.args_dict_values_iter_1 _))
 unfold Builtin.«dict_values.__iter__» Builtin.Dict_items.dictOf Builtin.Dict_items.newIterator
 refine Zg (Zq ?_)
 refine Zg ?_
 refine Zg (W9 a1 a3 (x:=.ref d) rfl (Zq ?_))
 refine Zg ?_
 refine Zg (Pc b1 b2 ?_)
 refine Zg (wpAny_dictEpoch b1 b2 ?_)
 simp only[show R1 "dict_valueiterator"=false from by decide,Ur,Se]
 refine V8 (Zq ⟨_,rfl,"dict_valueiterator",_,⟨_,Yb _ rfl,rfl⟩,F.slot_dict_valueiterator_next.lookup,?_⟩)
 simpa [rawInt]using hQ
theorem aka{Q:Zd Zf→Zs→Prop}(hit:s.heap.IsValIter it d i es.size ep)(hm:uy s.heap d es ep)
  (ajc:∀lt:i<es.size,(∀h',h'.IsValIter it d (i+1) es.size ep→Xw it s.heap h'→Q (some es[i].val) {s with heap:=h'}))
  (none_:es.size≤i→A.handled=none∧∀h',Qp it s.heap h'→Q none {s with heap:=h'}):wpAny (model prog w) A (pyNext (.ref it)) Q E s:=by
 obtain⟨o,ho,hc,hd⟩:=id hit
 obtain⟨od,FA,lF⟩:=id hm
 unfold pyNext
 refine Zg (wpAny_attempt (T3 (name:=Sh "__next__") hit.typeIs Sp
  (U4 Sp hit.typeIs F.entry_dict_valueiterator_next ?_ (F.args_dict_valueiterator_next_1 _))))
 refine Zg (Zq (Zg (Zg ?_)))
 first|refine Zg (Ub hit.typeIs (Zq ?_))|refine Zg (Uy hit.typeIs (Zq ?_))
 refine Zg (wpAny_fieldsOf ho hd ?_)
 simp only[show R1 "dict_valueiterator"=false from by decide,Ur,Se]
 show wpAny _ _ (if(X3 d==Xa)=true then _ else _) _ _ s
 rw[if_neg (show¬((X3 d==Xa)=true) from Yn)]
 refine Zg (Zq (Zg (Pc FA lF ?_)))
 rw[if_neg (by simp)]
 refine Zg (Zq (Zg (wpAny_dictEpoch FA lF ?_)))
 rw[if_neg (by simp)]
 refine Zq ?_
 by_cases lt:i<es.size
 ·simp only[show¬((i:Zw)<0) from by omega,Se,Pk,Vj lt]
  refine Zg ?_
  first|refine Zg (Ub hit.typeIs (Zq ?_))|refine Zg (Uy hit.typeIs (Zq ?_))
  refine Zg (Tg hit.typeIs ?_)
  show wpAny _ _ (setField (.ref it) 1 (rawInt ((i:Zw)+1))>>=_) _ _ s
  refine Zg (Va ho hd (by simp) ?_)
  have yv:(s.heap.update it (Yx (·.setIfInBounds 1 (rawInt ((i:Zw)+1))))).IsValIter it d (i+1) es.size ep:=
   ⟨_,Ys _ ho (Wm (X6 hd _)),(Ut ..).trans hc,by rw[X6 hd];simp[rawInt]⟩
  refine Zg (Y0 ?_)
  refine Zg (Tg (s:={s with heap:=s.heap.update it (Yx (·.setIfInBounds 1 (rawInt ((i:Zw)+1))))}) yv.typeIs ?_)
  refine Zg (Tg (s:={s with heap:=s.heap.update it (Yx (·.setIfInBounds 1 (rawInt ((i:Zw)+1))))}) yv.typeIs ?_)
  show wpAny _ _ (pure es[i].val) _ _ _
  exact Zq (Zq ⟨_,rfl,Zq (ajc lt _ yv (Xp ..))⟩)
 ·have ge:es.size≤i:=Vg lt
  obtain⟨hh,hQ⟩:=none_ ge
  simp only[show¬((i:Zw)<0) from by omega,Se,Pk,Array.getElem?_eq_none ge]
  refine Zg ?_
  first|refine Zg (Ub hit.typeIs (Zq ?_))|refine Zg (Uy hit.typeIs (Zq ?_))
  show wpAny _ _ (setField (.ref it) 0 .none>>=_) _ _ s
  refine Zg (Va ho hd (by simp) ?_)
  show wpAny _ _ (newExc (.type "StopIteration") []>>=_) _ _ _
  refine Zg ?_
  simp only[newExc,newTuple]
  refine Zg (V8 ?_ (by size_fits))
  refine Zg (m:=firstArgMember _ _) (Qa (a:=Xa) (by first|rfl|(simp only[firstArgMember];rfl)) ?_)
  refine V8 ?_ (by size_fits)
  simp only[raiseNew]
  refine Zg (wpAny_handled ?_)
  rw[show A.in1.handled=none from hh]
  refine Zg (Zq (wpAny_throw ?_))
  refine Zg (wpAny_isInstance (T:="StopIteration") (b:=true) ⟨_,Yb _ rfl,rfl⟩ isSubtype_stop ?_)
  exact Zq (hQ _ (((Xp ..).extBut.push _).push _))
end
def pU(v:AV):Zh:=aa (dX v) (aa (aq (nC T.S v) sg) false λq=>q.1) λ_=>true
theorem ajY{v:AV}{i:Zc}(e:gK v=some i):dX v=none∧nC T.S v=none:=by rw[qB e];exact⟨rfl,rfl⟩
theorem QT{v:AV}{xs:Zb AV}(e:r9 v=some xs):dX v=none∧nC T.S v=none:=by rw[Cs e];exact⟨rfl,rfl⟩
theorem ajk{v:AV}{o:SO}(e:nC T.S v=some o):dX v=none:=oN e λx h _=>by rw[sj h];rfl
theorem Ie{v:AV}(e:dX v=none∧nC T.S v=none):pU v=false:=by unfold pU;rw[e.1,e.2];rfl
theorem Ig{H:AH}{v:AV}{q:Zh×Zb AV}(e:hG T.S H v=some q):pU v=q.1:=
 oO e (λe=>oN e λo h1 e=>oN e λxs _ e=>oN h1 λi h3 _=>(Ie (ajY h3)).trans (Ze Xq (Za e))) λe=>oO e (λe=>oN e λxs h1 e=>by
  unfold pU;rw[h1,←Za e];rfl) λe=>oO e (λe=>oN e λxs h1 e=>(Ie (QT h1)).trans (Ze Xq (Za e))) λe=>oN e λo h1 _=>by
  unfold pU;rw[ajk h1,e];rfl
inductive gF(W:Wd)(src:AV)(l I:Zj)(i:Zc):Prop
 |jZ{n:Zw}(e:nP src=some n)(z:IsRangeIter W.h I (i:Zw) (Wz 0 n 1-i) 1)
 |vals{q:Zc×Zc}{p:Zj×Zd Zj}{es:X9 Y4}{ep:Zc}(nr:nP src=none)(e:iD src=some q)(hp:W.Y.ρ q.1=some p)(z:W.h.IsValIter I p.1 i es.size ep)(r:uy W.h p.1 es ep)(n:es.size=q.2)
 |tup(nr:nP src=none)(nv:iD src=none)(k:pU src=true)(z:W.h.IsTupleIter I l i)
 |lst(nr:nP src=none)(nv:iD src=none)(k:pU src=false)(z:W.h.IsListIter I l i)
structure JB(src:AV)(I:Zj)(W W':Wd):Prop where
 k:∀o,W.h.get? I=some o→W'.h.get? I=some o
 ids:∀(i:Zc)(p:Zj×Zd Zj),W.Y.ρ i=some p→∃q,W'.Y.ρ i=some (p.1,q)
 d:∀(q:Zc×Zc)(p:Zj×Zd Zj),iD src=some q→W.Y.ρ q.1=some p→∀o,W.h.get? p.1=some o→W'.h.get? p.1=some o
theorem gF.step{W W':Wd}{src:AV}{l I:Zj}{i:Zc}(k:JB src I W W'):gF W src l I i→gF W' src l I i
 |.jZ e z=>.jZ e (k.k _ z)
 |.vals (p:=p) nr e r z d n=>(k.ids _ _ r).elim λq r'=>.vals (p:=(p.1,q)) nr e r' (z.elim λo z=>⟨o,k.k o z.1,z.2⟩) (d.elim λo d=>⟨o,k.d _ _ e r o d.1,d.2⟩) n
 |.tup nr nv q z=>.tup nr nv q (z.elim λo z=>⟨o,k.k o z.1,z.2⟩)
 |.lst nr nv q z=>.lst nr nv q (z.elim λo z=>⟨o,k.k o z.1,z.2⟩)
theorem XD{A:Yu}{W:Wd}{src:AV}{l I:Zj}{i:Zc}(x:gF W src l I i){Q:Zf→Zs→Prop}{E:Zf→Zs→Prop}(h:Q (.ref I) W.s):wpAny T.M A (pyIter (.ref I)) Q E W.s:=by
 cases x with
 |jZ _ z=>exact wpAny_pyIter_rangeiter z h
 |vals _ _ _ z=>exact wpAny_pyIter_valiter z h
 |tup _ _ _ z=>exact wpAny_pyIter_tupleiter z h
 |lst _ _ _ z=>exact wpAny_pyIter_listiter z h
theorem HY(n:Zw):Wz 0 n 1=if 0<n then n else 0:=by
 unfold Wz
 rw[if_pos (by decide)]
 split
 ·rw[Int.ediv_one,Int.sub_zero,Int.sub_add_cancel]
 ·rfl
theorem HT{n:Zw}{i:Zc}:(0<Wz 0 n 1-(i:Zw))↔(i:Zw)<n:=by
 rw[HY,Int.sub_pos]
 split
 ·exact .rfl
 ·rename_i h
  exact⟨λq=>Y8 q (Int.not_lt.mpr (X0 i)),λq=>Y8 (Wl (X0 i) q) h⟩
theorem aep{n:Zw}(b:n.natAbs≤100000):P1 0 n 1=true:=by
 have lo:-(2^63)≤n:=Xd (show-(2^63)≤-(100000:Zw) by decide) (Qo (Xd (Int.natAbs_neg n▸S5) (Int.ofNat_le.mpr b)))
 have hi:n<2^63:=Wl S5 (Wl (Int.ofNat_le.mpr b) (by decide))
 have f:∀{i:Zw},-(2^63)≤i→i<2^63→R3 i=true:=λa b=>Bool.and_eq_true_iff.mpr ⟨Y6 a,Y6 b⟩
 unfold P1
 rw[HY,f (i:=0) (by decide) (by decide),f lo hi,f (i:=1) (by decide) (by decide)]
 have z:(n==0||R3 (n+0))=true:=by rw[Q4,f lo hi,Te]
 split
 ·rw[f lo hi];exact z
 ·rw[f (i:=0) (by decide) (by decide)];rfl
inductive JJ(W:Wd)(d:Zj)(es:Zb (AV×AV)):Prop
 |mk{jN:X9 Y4}{ep:Zc}(r:uy W.h d jN ep)(v:W.Vs (es.map (·.2)) (jN.toList.map (·.val)))
theorem akj{Y:Ly}{h:Yc}{es:Zb (AV×AV)}:∀{kvs:Zb (Str×Zf)}{ds:Zb Y4},cu Y h es kvs→Pairs T.sk ds kvs→Vs Y h (es.map (·.2)) (ds.map (·.val)):=by
 induction es with
 |nil=>exactλr p=>by rw[show _=[] from r]at p;cases p;exact rfl
 |cons e es ih=>
  intro kvs ds r p
  obtain⟨rfl,_,_,a,b⟩:=(r:gW e.1 (V Y h e.2) (cu Y h es) kvs)
  cases p with
  |@cons e' _ _ _ _ q p=>
   have a:V Y h e.2 e'.val:=by rw[q];exact a
   exact Vs.cons a (ih b p)
theorem I9{K:Type}[Xh K]{knd:KeyKind T.pr T.w K}{ky:Zb AV→Zb K→Prop}{Y:Ly}{h:Yc}{es:Zb (AV×AV)}:∀{xs:Zb (Zb K×Zj×Zf)},bT Y h ky es xs→Vs Y h (es.map (·.2)) ((xs.map (entryOfKey (Xz knd))).map (·.val)):=by
 induction es with
 |nil=>exactλr=>by rw[show _=[] from r];exact rfl
 |cons e es ih=>
  intro xs r
  obtain⟨rfl,_,_,_,a,b⟩:=(r:fP Y h ky e.1 (V Y h e.2) (bT Y h ky es) xs)
  exact Vs.cons a (ih b)
theorem HF{W:Wd}{p:Zj×Zd Zj}{es:Zb (AV×AV)}:eB W.Y W.h p es→JJ W p.1 es
 |.s _ hd r=>hd.elim λo z=>z.elim λjN z=>z.elim λep z=>.mk ⟨o,z.1,z.2.2.1⟩ (akj r z.2.2.2.2.1)
 |.i _ hd r=>hd.elim λo z=>z.elim λjN z=>z.elim λep z=>.mk ⟨o,z.1,z.2.2.1⟩ (z.2.2.2.1▸I9 r)
 |.t _ hd r=>hd.elim λo z=>z.elim λjN z=>z.elim λep z=>.mk ⟨o,z.1,z.2.2.1⟩ (z.2.2.2.1▸I9 r)
theorem Ag{W:Wd}{es:Zb (AV×AV)}{jN:X9 Y4}(v:W.Vs (es.map (·.2)) (jN.toList.map (·.val))):jN.size=aJ es:=by
 have z:=v.len
 rw[Yi,Yi,Tx]at z
 rw[dH];exact z.symm
structure Mv(D:Zj→Prop)(W W':Wd):Prop where
 H:W'.H=W.H
 m:cO W.Y W.h W'.Y W'.h
 fr:∀a,¬D a→(W'.Y.ar a↔W.Y.ar a)
 k:∀(b:Zj)(o:Obj),¬D b→W.h.get? b=some o→W'.h.get? b=some o
structure JC(K:Prop)(own:Zj→Prop)(W0 W W':Wd)(src:AV)(l I:Zj):Prop where
 mv:Mv (·=I) W W'
 lo:Lo K (λa=>own a∨a=I) W0 W'
 fr:¬W'.Y.ar I
 it:gF W' src l I 0
 f0:W0.h.get? I=none
 nw:W.h.get? I=none
theorem Ge{K:Prop}{own:Zj→Prop}{W0 W:Wd}(x:Lo K own W0 W){pu:Zh}{src:AV}{u:Zf}(rv:W.V src u)(hb:dD T.S pu src 0 W.H≠.bad){A:Yu}{Q:Zf→Zs→Prop}{E:Zf→Zs→Prop}
  (h:∀(l I:Zj)(W':Wd),u=.ref l→JC K own W0 W W' src l I→Q (.ref I) W'.s):wpAny T.M A (pyIter u) Q E W.s:=by
 have no:=W.fresh (Yg _)
 have got:∀(l:Zj)(o:Obj),u=.ref l→o.isFreed=false→(∀W':Wd,W'.Y.ρ=W.Y.ρ→W'.h=W.h.push o→gF W' src l W.h.objs.size 0)→Q (.ref W.h.objs.size) {W.s with heap:=W.h.push o}:=λl o q nf k=>
  have y:eW (·=W.h.objs.size) W (λa=>W.Y.Mu a∨a=W.h.objs.size) (λa=>W.Y.ar a∨No a) {W.s with heap:=W.h.push o}:=.alloc ⟨rfl,rfl,rfl⟩ (λb ob e=>Zv _ e) (λa e=>e▸⟨no.1,o,Yb _ nf⟩) λ_=>Xg
  h l _ (W.pv y) q ⟨⟨rfl,y.mono,λa n=>Sq id,λb ob _ e=>Zv _ e⟩,x.alloc y λa e=>e▸no.1,λz=>z.elim (λz=>no.2 (W.R.eg _ z)) id,k _ rfl rfl,x.st.gone no.1,no.1⟩
 obtain⟨r,hr⟩:∃r,dD T.S pu src 0 W.H=r:=⟨_,rfl⟩
 rw[hr]at hb
 refine oE hr (λnr e=>oE e (λnv e=>?_) λq nv e=>?_) λn e1 _=>?_
 ·refine oB e hb λq h2 _=>?_
  have k:=Ig h2
  cases oW rv h2 with
  |l b x=>
   obtain⟨q,g,_,_⟩:=x
   rw[q]
   exact wpAny_pyIter_list (LstAt.iV g) (got _ _ q rfl λW' _ e=>.lst nr nv (k.trans b) (e▸⟨_,Yb _ rfl,rfl,rfl⟩))
  |t b q g _ _=>
   rw[q]
   exact wpAny_pyIter_tuple g (got _ _ q rfl λW' _ e=>.tup nr nv (k.trans b) (e▸⟨_,Yb _ rfl,rfl,rfl⟩))
 ·refine bB e hb λ_ e=>oB e hb λes h2 e=>bB e hb λg _=>oN h2 λob h3 h4=>?_
  obtain⟨q',hp,l,f⟩:=V.xa nv rv
  rw[pd h4]at h3
  obtain⟨r,v⟩:=HF (W.R.obj _ _ _ h3 hp)
  have sz:=(Ag v).trans (Zr g)
  rw[q']
  exact akb ⟨_,f.g,rfl,rfl⟩ r (got _ _ q' rfl λW' e1 e=>.vals nr nv (e1▸hp) (e▸⟨_,Yb _ rfl,rfl,rfl⟩) (r.elim λo z=>⟨o,e▸Zv _ z.1,z.2⟩) sz)
 ·obtain⟨q,b,f⟩:=V.adO e1 rv
  rw[q]
  refine wpAny_pyIter_range f.g (aep b) (got _ _ q rfl λW' _ e=>.jZ e1 (e▸?_))
  exact(Yb W.h (o:={cls:=.type "range_iterator",data:=.fields #[rawInt 0,rawInt (Wz 0 n 1),rawInt 1]}) rfl).trans (by rw[show((0:Zc):Zw)=0 from rfl,Int.sub_zero])
end Mine
namespace Mine
structure Bd(K:Prop)(own:Zj→Prop)(W0 W W':Wd)(src:AV)(l I:Zj)(i:Zc):Prop where
 mv:Mv (·=I) W W'
 lo:Lo K own W0 W'
 it:gF W' src l I i
 fr:W'.Y.ar=W.Y.ar
structure Bc(K:Prop)(own:Zj→Prop)(W0 W W':Wd)(I:Zj):Prop where
 mv:Mv (·=I) W W'
 lo:Lo K (λa=>own a∧a≠I) W0 W'
section
variable{K:Prop}{own:Zj→Prop}{W0 W:Wd}(x:Lo K own W0 W)
include x
theorem zB{D:Zj→Prop}(hI:∀a,D a→own a){tk:Zc}{h':Yc}(k:∀(b:Zj)(o:Obj),¬D b→W.h.get? b=some o→h'.get? b=some o)(there:∀a,D a→∃o,h'.get? a=some o){P:Zs→Prop}
  (h:∀W':Wd,W'.Y=W.Y→W'.h=h'→Mv D W W'→Lo K own W0 W'→P W'.s):P {W.s with heap:=h',toks:=tk}:=
 have y:eW D W W.Y.Mu W.Y.ar {W.s with heap:=h',toks:=tk}:=.turn ⟨rfl,rfl,rfl⟩ (λa q=>x.pv a (hI a q)) k there
 h (W.pv y) rfl rfl ⟨rfl,y.mono,λ_ _=>.rfl,k⟩ (x.turn hI y)
theorem zA{D:Zj→Prop}(hI:∀a,D a→own a∧W0.h.get? a=none){h':Yc}{tk:Zc}(k:∀(b:Zj)(o:Obj),¬D b→W.h.get? b=some o→h'.get? b=some o){P:Zs→Prop}(h:∀W':Wd,Mv D W W'→Lo K (λa=>own a∧¬D a) W0 W'→P W'.s):P {W.s with heap:=h',toks:=tk}:=
 have y:eW D W (λa=>W.Y.Mu a∧¬D a) (λa=>W.Y.ar a∧¬D a) {W.s with heap:=h',toks:=tk}:=.close ⟨rfl,rfl,rfl⟩ (λa q=>x.pv a (hI a q).1) k
 h (W.pv y) ⟨rfl,y.mono,λa n=>Sg n,k⟩ (x.close hI y)
variable{src:AV}{l I:Zj}{i:Zc}{A:Yu}{Q:Zd Zf→Zs→Prop}{E:Zf→Zs→Prop}
theorem vM(hI:own I){v:Zf}{tk:Zc}{h':Yc}(sb:Xw I W.h h')(it:∀W':Wd,W'.Y.ρ=W.Y.ρ→W'.h=h'→gF W' src l I (i+1))(there:∃o,h'.get? I=some o)
  (h:∀W':Wd,Bd K own W0 W W' src l I (i+1)→Q (some v) W'.s):Q (some v) {W.s with heap:=h',toks:=tk}:=
 zB x (D:=(·=I)) (P:=Q (some v)) (λa e=>e▸hI) (λb o n e=>(sb.2 b n).trans e) (λa e=>e▸there) λW' e1 e2 m lo=>h W' ⟨m,lo,it W' (Ze Ly.ρ e1) e2,Ze Ly.ar e1⟩
theorem vL(hI:own I)(f0:W0.h.get? I=none){h':Yc}{tk:Zc}(ex:Qp I W.h h')(h:∀W':Wd,Bc K own W0 W W' I→Q none W'.s):Q none {W.s with heap:=h',toks:=tk}:=
 zA x (D:=(·=I)) (P:=Q none) (λa(e:a=I)=>e▸⟨hI,f0⟩) (λb o n e=>ex b o n e) λW' m lo=>h W' ⟨m,lo⟩
theorem Gc(hI:own I)(f0:W0.h.get? I=none){pu:Zh}(rv:W.V src (.ref l))(it:gF W src l I i){r:Res (Zd AV)}(hr:dD T.S pu src i W.H=r)(hb:r≠.bad)
  (item:∀(a:AV)(v:Zf)(W':Wd),r=.ok (some a) W.H→Bd K own W0 W W' src l I (i+1)→W.V a v→Q (some v) W'.s)(fin:r=.ok none W.H→A.handled=none∧∀W':Wd,Bc K own W0 W W' I→Q none W'.s):wpAny T.M A (pyNext (.ref I)) Q E W.s:=by
 refine oE hr (λnr e=>oE e (λnv e=>?_) λq nv e=>?_) λn e1 e=>?_
 ·refine oB e hb λq h2 e=>?_
  have hk:=Ig h2
  have sq:∀{vs:Zb Zf}{Y:Ly},Mine.Vs W.Y W.h q.2 vs→(∃a v,r=.ok (some a) W.H∧vs[i]?=some v∧W.V a v)∨(r=.ok none W.H∧vs[i]?=none):=λ{vs Y} rv=>by
   cases z:aB q.2 i with
   |some a=>
    obtain⟨v,z1,z2⟩:=rv.get z
    exact .inl ⟨a,v,z▸e.symm,z1,z2⟩
   |none=>
    refine .inr ⟨z▸e.symm,?_⟩
    rw[fY,Vi,rv.len]at z
    exact List.getElem?_eq_none_iff.mpr z
  have ax:∀{vs:Zb Zf}{o:Zd Zf},vs[i]?=o→vs.toArray[i]?=o:=λe=>(Xr ..).trans e
  cases it with
  |jZ e'=>exact aF (nr.symm.trans e')
  |vals _ e'=>exact aF (nv.symm.trans e')
  |tup _ _ k z=>
   cases oW rv h2 with
   |l b=>exact aA ((hk.trans b).symm.trans k)
   |t _ q g Aj _=>
    injection q with q;subst q
    rcases sq (Y:=W.Y) Aj with⟨a,v,z1,z2,z3⟩|⟨z1,z2⟩
    ·exact wpAny_pyNext_tuple_item z g (ax z2) λh' kN sb=>vM x hI (tk:=W.s.toks) sb (λW' _ e=>.tup nr nv k (e▸kN)) (kN.elim λo z=>⟨o,z.1⟩) λW' n=>item a v W' z1 n z3
    ·exact wpAny_pyNext_tuple_end (fin z1).1 z g (ax z2) λh' ex=>vL x hI f0 (tk:=W.s.toks) ex (fin z1).2
  |lst _ _ k z=>
   cases oW rv h2 with
   |t b=>exact aA (k.symm.trans (hk.trans b))
   |l _ y=>
    obtain⟨q,g,Aj,_⟩:=y
    injection q with q;subst q
    rcases sq (Y:=W.Y) Aj with⟨a,v,z1,z2,z3⟩|⟨z1,z2⟩
    ·exact wpAny_pyNext_list_item z (LstAt.iV g) (ax z2) λh' kN sb=>vM x hI (tk:=W.s.toks) sb (λW' _ e=>.lst nr nv k (e▸kN)) (kN.elim λo z=>⟨o,z.1⟩) λW' n=>item a v W' z1 n z3
    ·exact wpAny_pyNext_list_end (fin z1).1 z (LstAt.iV g) (ax z2) λh' ex=>vL x hI f0 (tk:=W.s.toks) ex (fin z1).2
 ·refine bB e hb λ_ e=>oB e hb λes h2 e=>bB e hb λg e=>oN h2 λob h3 h4=>?_
  cases it with
  |jZ e'=>exact aF (nr.symm.trans e')
  |tup _ zT=>exact aF (zT.symm.trans nv)
  |lst _ zT=>exact aF (zT.symm.trans nv)
  |vals _ e' hp z d sz=>
   have e':=Za (nv.symm.trans e')
   subst e'
   rw[pd h4]at h3
   obtain⟨d',v⟩:=HF (W.R.obj _ _ _ h3 hp)
   obtain⟨o,d1,d2⟩:=d
   obtain⟨o',d3,d4⟩:=d'
   have q:=Za (d1.symm.trans d3)
   rw[←q,d2]at d4
   injection d4 with d4 d5
   subst d4
   refine aka z ⟨o,d1,d2⟩ (λlt h' kN sb=>?_) λge=>?_
   ·have vi:((_:X9 Y4).toList.map (·.val))[i]?=some _:=(Xc ..).trans (Ze (P6 (·.val)) ((Q9 ..).trans (Vj lt)))
    cases y:aB es i with
    |none=>
     rw[fY,Vi,←dH,←Ag v]at y
     exact Y8 lt (Nat.not_lt.mpr y)
    |some kv=>
     obtain⟨u,u1,u2⟩:=v.get (i:=i) ((fY ..).trans ((Xc ..).trans (Ze (P6 (·.2)) ((fY ..).symm.trans y))))
     have uq:=Za (vi.symm.trans u1)
     have uq:_=u:=uq
     rw[←uq]at u2
     refine vM x hI (tk:=W.s.toks) sb (λW' e2 e1=>.vals nr nv (e2▸hp) (e1▸kN) ⟨o,e1▸(sb.2 _ ?_).trans d1,d2⟩ sz) (kN.elim λo z=>⟨o,z.1⟩) λW' n=>item kv.2 _ W' (by rw[y]at e;exact e.symm) n u2
     exactλq=>(x.pv I hI).2 (q▸.mk hp (.x rfl))
   ·have y:aB es i=none:=by
     rw[fY,Vi,←dH,←Ag v];exact ge
    have z1:r=.ok none W.H:=by rw[y]at e;exact e.symm
    exact⟨(fin z1).1,λh' ex=>vL x hI f0 (tk:=W.s.toks) ex (fin z1).2⟩
 ·cases it with
  |vals nr=>exact aF (nr.symm.trans e1)
  |tup nr=>exact aF (nr.symm.trans e1)
  |lst nr=>exact aF (nr.symm.trans e1)
  |jZ e' z=>
   have e':=Za (e1.symm.trans e')
   subst e'
   cases c:decide ((i:Zw)<n)with
   |true=>
    rw[c]at e
    refine wpAny_pyNext_range_item z (HT.mpr (Y2 c)) λh' kN sb=>vM x hI sb (λW' _ q=>.jZ e1 ?_) ⟨_,kN⟩ λW' n=>item _ _ W' e.symm n ⟨_,rfl⟩
    rw[q,Int.natCast_succ,←Int.sub_sub]
    exact kN
   |false=>
    rw[c]at e
    exact wpAny_pyNext_range_end (fin e.symm).1 z (Int.not_lt.mp λq=>S7 c (HT.mp q)) λh' ex=>vL x hI f0 (tk:=W.s.toks) ex (fin e.symm).2
end
end Mine
namespace Mine
theorem rF{α β:Type}{f:α→Zd β}{l:Zb α}:∀{r:Zb β},j3 f l=some r→r.length=l.length∧∀(j:Zc)(a:α),l[j]?=some a→∃b,f a=some b∧r[j]?=some b:=by
 induction l with
 |nil=>exactλe=>by rw[←Za e];exact⟨rfl,λ_ _ z=>nomatch z⟩
 |cons a l ih=>
  exactλe=>oN e λb h1 e=>oN e λr' h2 e=>by
   rw[←Za e]
   exact⟨Ze (·+1) (ih h2).1,λj c z=>Vc (motive:=λj=>(a::l)[j]?=some c→∃d,f c=some d∧(b::r')[j]?=some d) j (λz=>⟨b,Za z▸h1,rfl⟩) (λj z=>(ih h2).2 j c z) z⟩
def oQ(cA names:Zb (Str×X5)):Zb (Str×X5):=names.map λ(n,k)=>if(k==.free&&cA.lookup n==some .cell)then(n,.cell)else(n,k)
noncomputable def fS(cx:aQ)(x:Str)(sc:Wq):aQ:=⟨[x],bZ sc.names,oQ cx.cA sc.names,none⟩
structure rW(cx:aQ)(x:Str)(sc:Wq)(cl:Zb Zc):Prop where
 kind:sc.kind=.function
 abY:∀p∈sc.names,p.2≠.cell
 look:∀p∈sc.names,p.2=.local→sc.names.lookup p.1=some .local
 Gz:(oQ cx.cA sc.names).lookup x=some .local
 da:∀(j:Zc)(y:Str),(bZ sc.names)[j]?=some y→((oQ cx.cA sc.names).lookup y=some .cell∨(oQ cx.cA sc.names).lookup y=some .free)∧∃c:Zc,cl[j]?=some c∧cx.cs[c]?=some y
 len:cl.length=(bZ sc.names).length
theorem LC{env:Env}(names:Zb (Str×X5)):∀{acc:Zb (Str×Zj)},(∀x∈bZ names,∃a,env.cells.lookup x=some a)→
  ∃cells,(forIn names acc λ(p:Str×X5)(cs:Zb (Str×Zj))=>(match p with|(name,kind)=>if(kind==.free)=true then(do let c←cellOf env name;pure (Vu ((name,c)::cs)))else pure (Vu cs):Sem (ForInStep (Zb (Str×Zj)))))=pure cells∧
   ∀x,x∈bZ names∨acc.lookup x=env.cells.lookup x→cells.lookup x=env.cells.lookup x:=by
 induction names with
 |nil=>exactλ{acc} _=>⟨acc,R8,λx z=>z.elim (λz=>nomatch z) id⟩
 |cons p r ih=>
  obtain⟨y,k⟩:=p
  intro acc h
  rw[R0]
  by_cases hk:(k==T0)=true
  ·have hf:bZ ((y,k)::r)=y::bZ r:=by unfold bZ;rw[T6 (p:=λp:Str×X5=>p.2==.free) hk];rfl
   rw[hf]at h⊢
   obtain⟨a,ha⟩:=h y (.head _)
   obtain⟨cells,e,q⟩:=ih (acc:=(y,a)::acc) λx hx=>h x (.tail _ hx)
   refine⟨cells,?_,λx z=>q x ?_⟩
   ·show(if(k==T0)=true then _ else _)>>=_=_
    rw[if_pos hk,show cellOf env y=pure a by unfold cellOf;rw[ha]]
    exact e
   ·by_cases w:x=y
    ·exact .inr (by rw[w,ha,Yl,Xs])
    ·rw[Yl,beq_eq_false_iff_ne.mpr w]
     exact z.imp (λz=>(List.mem_cons.mp z).resolve_left w) id
  ·have hf:bZ ((y,k)::r)=bZ r:=by unfold bZ;rw[T7 (p:=λp:Str×X5=>p.2==.free) hk]
   rw[hf]at h⊢
   obtain⟨cells,e,q⟩:=ih (acc:=acc) h
   refine⟨cells,?_,q⟩
   show(if(k==T0)=true then _ else _)>>=_=_
   rw[if_neg hk]
   exact e
section
variable{cx:aQ}{x:Str}{sc:Wq}{cl ids:Zb Zc}{env:Env}{fm:Fm}{Y:Ly}{h:Yc}
theorem Du(F:gE cx env fm Y h)(hc:∀(j:Zc)(y:Str),(bZ sc.names)[j]?=some y→∃c:Zc,cl[j]?=some c∧cx.cs[c]?=some y)(pk:wx fm cl=some ids):∃cells,closureFor sc env=pure cells∧iJ Y (bZ sc.names) ids cells:=by
 have at_:∀(j:Zc)(y:Str),(bZ sc.names)[j]?=some y→∃i p,ids[j]?=some i∧Y.ρ i=some p∧env.cells.lookup y=some p.1:=λj y e=>by
  obtain⟨c,c1,c2⟩:=hc j y e
  obtain⟨i,i1,i2⟩:=(rF pk).2 j c c1
  obtain⟨a,b,d⟩:=F.e9 c y c2
  exact⟨i,_,i2,Za (a.symm.trans i1)▸b,d⟩
 have mem:∀y∈bZ sc.names,∃j:Zc,(bZ sc.names)[j]?=some y:=λy hy=>(List.mem_iff_getElem?.mp hy)
 obtain⟨cells,e,q⟩:=LC (env:=env) sc.names (acc:=[]) λy hy=>(mem y hy).elim λj hj=>(at_ j y hj).elim λi z=>z.elim λp z=>⟨p.1,z.2.2⟩
 refine⟨cells,?_,λj y hj=>?_⟩
 ·unfold closureFor
  exact(Ze (λt=>t>>=λcs=>pure cs) e).trans rfl
 ·obtain⟨i,p,a,b,d⟩:=at_ j y hj
  exact⟨i,p,a,b,(q y (.inl (Yr hj))).trans d⟩
theorem DJ(C:nJ cx env)(ok:rW cx x sc cl)(cells:Zb (Str×Zj))(a:Zj):nJ (fS cx x sc) (compEnvC sc cells a env)where
 kind:=ok.kind
 pz:=C.pz
 blt:=C.blt
 nm:=Ug λp _=>by
  obtain⟨n,k⟩:=p
  show(if(k==T0&&env.scope.kind==.function&&env.scope.names.lookup n==some .cell)=true then _ else _)=_
  rw[C.kind,C.nm]
  show(if(k==T0&&true&&_)=true then _ else _)=_
  rw[Bool.and_true]
 locs i y e:=Vc (motive:=λi=>[x][i]?=some y→(oQ cx.cA sc.names).lookup y=some .local) i (λe=>Za e▸ok.Gz) (λ_ e=>nomatch e) e
 nd:=List.nodup_cons.mpr ⟨(λq=>nomatch q),U1⟩
 e9 j y e:=(ok.da j y e).1
 at_:=λ_ e=>nomatch e
theorem LV(C:nJ cx env)(ok:rW cx x sc cl){cells:Zb (Str×Zj)}{a:Zj}(ca:iJ Y (bZ sc.names) ids cells){m:Str→Zd Zf}(ns:h.Ns a m){w:AV}{v:Zf}(mx:m x=some v)(vv:V Y h w v)(inf:Y.ar a):
  gE (fS cx x sc) (compEnvC sc cells a env) ⟨[w],ids,false⟩ Y h where
 st:=DJ C ok cells a
 e9 j y e:=(ca j y e).elim λi z=>z.elim λp z=>.mk ((fY ids j).trans z.1) z.2.1 z.2.2
 fr:=⟨m,ns,λi y u e1 e2 _=>Vc (motive:=λi=>[x][i]?=some y→aB [w] i=some u→∃u',m y=some u'∧V Y h u u') i (λe1 e2=>⟨v,Za e1▸mx,Za e2▸vv⟩) (λ_ e1=>nomatch e1) e1 e2⟩
 ju:=inf
end
noncomputable abbrev FK(ifs:Zb PE)(env:Env):Sem Zh:=forIn ifs true λc r=>if r=true then do let ok←isTrue c env (eval c env);pure (Vu ok)else pure (Vu r)
abbrev VQ(_:Wd)(a b:Zh):Prop:=a=b
def qr(n:Zc)(cx:aQ)(ifs:Zb PE)(m:Zh→Fm→AM Zh):Prop:=∀{c:Cn}{env:Env}{fm:Fm}{W:Wd},Gd n cx c env fm W→bh c VQ W (m c.hd fm W.H) (FK ifs env)
theorem aix{n:Zc}{cx:aQ}:qr n cx [] (λ_=>lr dI):=λ{c env fm W} g _=>wpAny_tests_nil (.mk W true rfl (.refl W) rfl)
theorem aiy{n:Zc}{cx:aQ}{q:PE}{mq:Zh→Fm→AM AV}(iq:gJ n cx q mq):qr n cx [q] (λhd=>lr (dQ (mq hd) dI)):=λ{c env fm W} g=>by
 have z:∀r,lr (dQ (mq c.hd) dI) fm W.H=r→r≠.bad→wpAny T.M c.A (isTrue q env (eval q env)) (aS VQ W r) (cV c.envs W r) W.s:=λr hr hb=>by
  have e:lr (dQ (mq c.hd) dI) fm W.H=AM.bind (mq c.hd fm) (λv h=>aa (bK v) .bad λb=>.ok b h) W.H:=by
   show AM.bind (AM.bind (mq c.hd fm) λv=>AM.bind (dI fm) λvs=>AM.pure (v::vs)) _ W.H=_
   unfold AM.bind
   cases mq c.hd fm W.H<;>rfl
  rw[e]at hr
  have hm:mq c.hd fm W.H≠.bad:=λq=>hb (hr▸xK q)
  refine Y9 (iq g hm) (λb s' z=>?_) λ_ _ z=>z.step (.refl W) λi H e=>hr▸jL e
  obtain⟨W',a,e1,le,v⟩:=z
  have v:a=.bool b:=v
  exact .mk W' b (hr▸(gf e1).trans (by rw[v];rfl)) le rfl
 exact .of λr hr hb=>wpAny_tests_one (Y9 (z r hr hb) (λ_ _ z=>z) λ_ _ z=>z)
end Mine
namespace Mine
structure A4(W W':Wd)(D:Zj):Prop where
 le:Le W W'
 k:∀(b:Zj)(o:Obj),b≠D→W.h.get? b=some o→W'.h.get? b=some o
theorem Cj{W:Wd}{d:Zc}{p:Zj×Zd Zj}{y:AV}{u:Zf}(hp:W.Y.ρ d=some p)(ru:W.V y u){r:Res Unit}(hr:pb d y W.H=r)(hb:r≠.bad){A:Yu}{Q:Zf→Zs→Prop}{E:Zf→Zs→Prop}
  (h:∀W':Wd,r=.ok () W'.H→A4 W W' p.1→Q .none W'.s):wpAny T.M A (call (.builtin "list.append") [.ref p.1,u]) Q E W.s:=
 oB hr hb λxs h1 hr=>bB hr hb λg hr=>oN h1 λo h2 h3=>by
  rw[uN h3]at h2
  obtain⟨q,hx,rv,l⟩:=(W.R.obj _ _ _ h2 hp:eU W.Y W.h p xs)
  have l1:=oC rv g
  refine Rm ⟨_,hx⟩ (λh' pl sb=>?_) (by rw[Zy];exact kQ l1)
  obtain⟨n',pl⟩:=pl
  rw[Pi]at pl
  obtain⟨W',z⟩:=W.turn (o:=.list (aD xs [y])) (tk:=W.s.toks) hp (.x rfl) sb ⟨_,pl⟩ λY' m=>eU.mk q pl (by rw[mw];exact Vs.app (.cons (V.mono m _ _ ru) .nil) (rv.mono m)) (by rw[Yk];exact Zu (X8 l1) (by decide))
  have e:W'.s={W.s with heap:=h'}:=z.s
  exact e▸h W' (z.H.symm▸hr.symm) ⟨z.le,λb ob n eb=>(Ze (λs=>s.heap.get? b) e).trans ((sb.2 b n).trans eb)⟩
abbrev VP{α β:Type}(pu:Zh)(W:Wd)(V:Wd→α→β→Prop):Wd→α→β→Prop:=λW' a b=>V W' a b∧(pu=true→W'.h=W.h)
def qq(pu:Zh)(n:Zc)(cx:aQ)(e:PE)(m:Zh→Fm→AM AV):Prop:=∀{c:Cn}{env:Env}{fm:Fm}{W:Wd},Gd n cx c env fm W→bh c (VP pu W VV) W (m c.hd fm W.H) (eval e env)
def uz(pu:Zh)(n:Zc)(cx:aQ)(ifs:Zb PE)(m:Zh→Fm→AM Zh):Prop:=∀{c:Cn}{env:Env}{fm:Fm}{W:Wd},Gd n cx c env fm W→bh c (VP pu W VQ) W (m c.hd fm W.H) (FK ifs env)
theorem bh.vp{α β:Type}{c:Cn}{V:Wd→α→β→Prop}{W:Wd}{r:Res α}{t:Sem β}(x:bh c V W r t):bh c (VP false W V) W r t:=λhb=>Y9 (x hb) (λ_ _ z=>aS.casesOn z λW' a e le v=>.mk W' a e le ⟨v,(λq=>nomatch q)⟩) λ_ _ z=>z
structure kY(pu:Zh)(own:Zj→Prop)(W0 W:Wd)(src:AV)(l I C:Zj)(d:Zc)(D:Zj)(i:Zc):Prop where
 lo:Lo True own W0 W
 it:gF W src l I i
 ns:∃m,W.h.Ns C m
 sv:W.V src (.ref l)
 dp:∃q,W.Y.ρ d=some (D,q)
 nd:∀q,iD src=some q→q.1≠d∧pu=true
 mN:W.Y.ar C
 mP:¬W.Y.ar I
structure Jk(own:Zj→Prop)(W0 W:Wd)(I C:Zj)(d:Zc)(D:Zj):Prop where
 lo:Lo True (λa=>own a∧a≠I) W0 W
 ns:∃m,W.h.Ns C m
 dp:∃q,W.Y.ρ d=some (D,q)
section
variable{n:Zc}{cx:aQ}{pu:Zh}{own:Zj→Prop}{W0:Wd}{src:AV}{l I C:Zj}{d:Zc}{D:Zj}
theorem kY.le{W W':Wd}{i:Zc}(v:kY pu own W0 W src l I C d D i)(hI:own I)(le:Le W W')(k:pu=true→W'.h=W.h):kY pu own W0 W' src l I C d D i where
 lo:=v.lo.le le
 it:=v.it.step ⟨λo e=>le.keep (v.lo.pv I hI) v.mP e,le.mono.ids,λq p e hp o eo=>(Ze (Heap.get? · p.1) (k (v.nd q e).2)).trans eo⟩
 ns:=v.ns.elim λm z=>⟨m,le.st.dy C id v.mN m z⟩
 sv:=le.v v.sv
 dp:=v.dp.elim λq e=>le.mono.ids _ (D,q) e
 nd:=v.nd
 mN:=(le.st.ar C id).mpr v.mN
 mP q:=v.mP ((le.st.ar I id).mp q)
theorem kY.app{W W':Wd}{i:Zc}(v:kY pu own W0 W src l I C d D i)(hI:own I)(a:A4 W W' D):kY pu own W0 W' src l I C d D i:=
 have le:=a.le
 {lo:=v.lo.le le
  it:=v.it.step ⟨λo e=>le.keep (v.lo.pv I hI) v.mP e,le.mono.ids,λq p e hp o eo=>a.k p.1 o (λz=>v.dp.elim λq' e'=>(v.nd q e).1 (W.R.inj hp e' (.x rfl) (.x z))) eo⟩
  ns:=v.ns.elim λm z=>⟨m,le.st.dy C id v.mN m z⟩
  sv:=le.v v.sv
  dp:=v.dp.elim λq e=>le.mono.ids _ (D,q) e
  nd:=v.nd
  mN:=(le.st.ar C id).mpr v.mN
  mP:=λq=>v.mP ((le.st.ar I id).mp q)}
theorem EC{α β:Type}{r:Res α}{m:AM β}{f:β→AM α}{H H':AH}{e:Zc}(go:AM.bind m f H=r)(hx:∀i H,r≠.exc i H)(q:m H=.exc e H'):False:=hx _ _ (go.symm.trans (jL q))
theorem iF{α β:Type}{r:Res α}{m:AM β}{f:β→AM α}{H:AH}(go:AM.bind m f H=r)(hb:r≠.bad):m H≠.bad:=λq=>hb (go.symm.trans (xK q))
theorem LW{c:Cn}{x:Str}{xp:Pos}{sc:Wq}{cl ids:Zb Zc}{iter:PE}{ifs:Zb PE}{e:PE}{p:Pos}{env:Env}{cells:Zb (Str×Zj)}{elt:Zh→Fm→AM AV}{tst:Zh→Fm→AM Zh}
  (hn:c.n=n)(a0:eT c W0.Y W0.h)(C0:nJ cx env)(ok:rW cx x sc cl)(ca:iJ W0.Y (bZ sc.names) ids cells)
  (yQ:uz pu n (fS cx x sc) ifs tst)(ie:qq pu n (fS cx x sc) e elt)(hI:own I)(hC:own C)(fo:∀a,own a→W0.h.get? a=none)(CI:C≠I)
  {R:Result→Zs→Prop}{r:Res AV}(hb:r≠.bad)(hx:∀i H,r≠.exc i H)(fin:∀W:Wd,r=.ok (.ref d) W.H→Jk own W0 W I C d D→R (.ok .next) W.s)
  {W:Wd}{k i:Zc}(go:mE T.S c.hd pu src ids (tst c.hd) (elt c.hd) d k i W.H=r)(v:kY pu own W0 W src l I C d D i):
  codeAny T.M c.A (.compLoop (.ListComp e [⟨.Name x xp,iter,ifs,0⟩] sc p) 0 (.ref I) (.ref D) (compEnvC sc cells C env)) R W.s:=by
 refine codeAny_compLoop_tests (λk s=>∃i W,W.s=s∧kY pu own W0 W src l I C d D i∧mE T.S c.hd pu src ids (tst c.hd) (elt c.hd) d k i W.H=r) (λk s UK=>?_) k ⟨i,W,rfl,v,go⟩
 obtain⟨i,W,rfl,v,go⟩:=UK
 cases k with
 |zero=>exact Y8 go.symm hb
 |succ k=>
  have go:AM.bind (dD T.S pu src i) (λo=>aa o (λh=>Zp (.ok (.ref d) h) .bad c.hd) λv=>AM.bind (tst c.hd ⟨[v],ids,false⟩) λb=>Zp (mE T.S c.hd pu src ids (tst c.hd) (elt c.hd) d k (Zk i)) (AM.bind (elt c.hd ⟨[v],ids,false⟩) λy=>AM.bind (pb d y) λ_=>mE T.S c.hd pu src ids (tst c.hd) (elt c.hd) d k (Zk i)) b) W.H=r:=go
  refine Gc v.lo hI (fo I hI) v.sv v.it rfl (iF go hb) (λa u W1 h1 n1 va=>?_) λh1=>?_
  ·rw[gf h1,←n1.mv.H]at go
   obtain⟨m,ns⟩:=v.ns
   have ns1:=lX ns λo=>n1.mv.k C o CI
   have E6:W1.Y.ar C:=(n1.mv.fr C CI).mpr v.mN
   refine Pd (Q5 (env:=compEnvC sc cells C env) (m:=m) (DJ C0 ok cells C|>.look ok.Gz) ns1 (λh2 zR sb=>?_) (by show(sc.kind==.class||(sc.kind==.module&&_))=false;rw[ok.kind];rfl))
   have y:eW (·=C) W1 W1.Y.Mu W1.Y.ar {W1.s with heap:=h2,toks:=W1.s.toks+1}:=.turn ⟨rfl,rfl,rfl⟩ (λa e=>e▸n1.lo.pv C hC) (λb o nb e=>(sb.2 b nb).trans e) (λa e=>e▸zR.elim λo z=>z.elim λ_ z=>z.elim λ_ z=>⟨o,z.1⟩)
   have v2:kY pu own W0 (W1.pv y) src l I C d D (i+1):={
    lo:=n1.lo.turn (D:=(·=C)) (λa e=>e▸hC) y
    it:=n1.it.step ⟨λo e=>(sb.2 I CI.symm).trans e,λ_ p e=>⟨p.2,e⟩,λq p e hp o eo=>(sb.2 p.1 λz=>(n1.lo.pv C hC).2 ((show p.1=C from z)▸.mk hp (.x rfl))).trans eo⟩
    ns:=⟨_,zR⟩
    sv:=V.mono y.mono _ _ (V.mono n1.mv.m _ _ v.sv)
    dp:=v.dp.elim λq e=>n1.mv.m.ids _ (D,q) e
    nd:=v.nd
    mN:=E6
    mP:=λq=>v.mP (n1.fr▸q)}
   have va2:(W1.pv y).V a u:=V.mono y.mono _ _ (V.mono n1.mv.m _ _ va)
   have g2:Gd n (fS cx x sc) c (compEnvC sc cells C env) ⟨[a],ids,false⟩ (W1.pv y):=⟨hn,a0.lo v2.lo fo,LV C0 ok (ca.mono (v2.lo.mono trivial)) zR (if_pos rfl) va2 E6⟩
   have go:AM.bind (tst c.hd ⟨[a],ids,false⟩) (λb=>Zp (mE T.S c.hd pu src ids (tst c.hd) (elt c.hd) d k (Zk i)) (AM.bind (elt c.hd ⟨[a],ids,false⟩) λy=>AM.bind (pb d y) λ_=>mE T.S c.hd pu src ids (tst c.hd) (elt c.hd) d k (Zk i)) b) (W1.pv y).H=r:=go
   refine Y9 (yQ g2 (iF go hb)) (λb s3 z=>?_) λe' s3 z=>cV.casesOn z λW' j p' q _ _ _=>(EC go hx q).elim
   obtain⟨W3,b',e3,dO,vb,k3⟩:=z
   have vb:b'=b:=vb
   rw[gf e3,vb]at go
   have v3:=v2.le hI dO k3
   have g3:=g2.le dO
   cases b with
   |false=>exact⟨k,We _,i+1,W3,rfl,v3,go⟩
   |true=>
    have go:AM.bind (elt c.hd ⟨[a],ids,false⟩) (λy=>AM.bind (pb d y) λ_=>mE T.S c.hd pu src ids (tst c.hd) (elt c.hd) d k (Zk i)) W3.H=r:=go
    show wpAny _ _ _ _ _ _
    refine Y9 (ie g3 (iF go hb)) (λb s4 z=>?_) λe' s3 z=>cV.casesOn z λW' j p' q _ _ _=>(EC go hx q).elim
    obtain⟨W4,y4,e4,q6,vy,k4⟩:=z
    rw[gf e4]at go
    have v4:=v3.le hI q6 k4
    obtain⟨q4,Ny⟩:=v4.dp
    refine Cj (p:=(D,q4)) Ny vy rfl (iF go hb) λW5 h5 a5=>?_
    rw[gf h5]at go
    exact⟨k,We _,i+1,W5,rfl,v4.app hI a5,go⟩
  ·rw[gf h1]at go
   cases hd:c.hd with
   |true=>rw[hd]at go;exact Y8 go.symm hb
   |false=>
    rw[hd]at go
    refine⟨a0.hand hd,λW1 n1=>fin W1 (by rw[n1.mv.H];exact go.symm) ⟨n1.lo,v.ns.elim λm ns=>⟨m,lX ns λo=>n1.mv.k C o CI⟩,v.dp.elim λq e=>n1.mv.m.ids _ (D,q) e⟩⟩
end
end Mine
namespace Mine
theorem ace{α β:Type}{r:Res α}{k s:Res β}{P:Prop}(e:Hp r k=s)(hb:s≠.bad)(h:r≠.bad→k=s→P):P:=by
 cases r with
 |ok a H=>exact h (λq=>nomatch q) e
 |_=>exact Y8 e.symm hb
theorem abX{α:Type}{m:AM α}{H:AH}{s:Res α}(e:zO m H=s)(hb:s≠.bad):m H=s∧∀i H',s≠.exc i H':=by
 revert e
 unfold zO
 cases m H with
 |ok a H'=>exactλe=>⟨e,λi H' q=>nomatch e.trans q⟩
 |_=>exactλe=>Y8 e.symm hb
theorem I6{src:AV}{q:Zc×Zc}(e:iD src=some q):nP src=none:=by rw[Cy e];rfl
theorem I7{pu:Zh}{src:AV}{H:AH}{q:Zc×Zc}(e:iD src=some q)(hb:dD T.S pu src 0 H≠.bad):pu=true:=by
 cases pu with
 |true=>rfl
 |false=>exact Y8 (by unfold dD;rw[I6 e,e];rfl) hb
theorem gF.akc{W:Wd}{src:AV}{l I:Zj}{i:Zc}{q:Zc×Zc}(e:iD src=some q):gF W src l I i→q.1<W.H.size
 |.jZ e' _=>aF ((I6 e).symm.trans e')
 |.tup _ nv _ _=>aF (nv.symm.trans e)
 |.lst _ nv _ _=>aF (nv.symm.trans e)
 |.vals _ e' hp _ _ _=>Za (e'.symm.trans e)▸(W.R.len _).mpr ⟨_,hp⟩
variable{n:Zc}{cx:aQ}
theorem Iq{pu:Zh}{x:Str}{xp:Pos}{it e:PE}{ifs:Zb PE}{sc:Wq}{p:Pos}{cl:Zb Zc}{mi elt:Zh→Fm→AM AV}{tl:Zh→Fm→AM (Zb AV)}(ok:rW cx x sc cl)(ns:∀env y,foldedSetIterable it env y=pure y)
  (ii:aP n cx it mi)(yQ:uz pu n (fS cx x sc) ifs λhd=>lr (tl hd))(ie:qq pu n (fS cx x sc) e elt):
  aP n cx (.ListComp e [⟨.Name x xp,it,ifs,0⟩] sc p) (λhd=>vW T.S hd pu cl (mi hd) (elt hd) (tl hd)):=λ{c env fm W} g=>.of λr hr hb=>oB hr hb λids pk hr=>by
 rw[eval_ListComp]
 obtain⟨cells,US,ca⟩:=Du g.f (λj y e=>(ok.da j y e).2) pk
 refine wpAny_comprehension_free (use:=none) (g:=⟨.Name x xp,it,ifs,0⟩) (gs:=[]) rfl (ns env) US ok.kind (λy hy hl=>ok.look y hy hl) ?_
 refine Y9 (ii g (iF hr hb)) (λu s1 z=>?_) λe' s' z=>z.step (.refl W) λi H e=>hr.symm.trans (jL e)
 obtain⟨W1,src,e1,le,v1⟩:=z
 have g1:=g.le le
 refine ace ((gf e1).symm.trans hr) hb λnb hr=>?_
 obtain⟨go,hx⟩:=abX hr hb
 generalize cw=K at go
 refine Ge (Lo.refl (K:=True) W1) v1 nb λl I W2 q n2=>?_
 refine wpAny_newList ?_ (Yt _)
 obtain⟨W3,w3⟩:=W2.list (xs:=[]) (vs:=[]) (tk:=W2.s.toks) rfl (Yt _)
 have e3:W3.s={W2.s with heap:=W2.h.push {cls:=.type "list",data:=.seq ([]:Zb Zf).toArray}}:=w3.s
 show wpAny _ _ _ _ _ {W2.s with heap:=W2.h.push {cls:=.type "list",data:=.seq ([]:Zb Zf).toArray}}
 rw[←e3]
 refine Qb ok.abY (λy hy=>nomatch hy) (λh4 Hc sb4=>?_) ok.kind
 have yX:=n2.lo.le w3.le
 have no:=W3.fresh (Yg _)
 have k4:∀(b:Zj)(o:Obj),W3.h.get? b=some o→h4.get? b=some o:=λb o e=>(sb4.2 b (V1 (V4 e))).trans (Zv _ e)
 have y:eW (·=W3.h.objs.size) W3 (λa=>W3.Y.Mu a∨a=W3.h.objs.size) (λa=>W3.Y.ar a∨a=W3.h.objs.size) {W3.s with heap:=h4,toks:=W3.s.toks+0}:=.alloc ⟨rfl,rfl,rfl⟩ k4 (λa e=>e▸⟨no.1,Hc.elim λo z=>z.elim λ_ z=>z.elim λ_ z=>⟨o,z.1⟩⟩) λ_=>id
 have Gy:=yX.alloc y λa e=>e▸no.1
 have Gk:∀(b:Zj)(o:Obj),W2.h.get? b=some o→W3.h.get? b=some o:=λb o e=>(Ze (λs=>s.heap.get? b) e3).trans (Zv _ e)
 have i1:W1.h.get? I=none:=n2.f0
 have c1:W1.h.get? W3.h.objs.size=none:=yX.st.gone no.1
 have CI:W3.h.objs.size≠I:=λq=>no.2 (q▸(yX.pv I (.inr rfl)).1)
 have fo:∀a,((No a∨a=I)∨a=W3.h.objs.size)→W1.h.get? a=none:=λa z=>z.elim (λz=>z.elim Xg λz=>z▸i1) λz=>z▸c1
 have v:kY pu (λa=>(No a∨a=I)∨a=W3.h.objs.size) W1 (W3.pv y) src l I W3.h.objs.size W2.H.size W2.h.objs.size 0:={
  lo:=Gy
  it:=n2.it.step ⟨λo e=>k4 I o (Gk I o e),w3.le.mono.ids,λ_ p _ _ o e=>k4 p.1 o (Gk p.1 o e)⟩
  ns:=⟨_,Hc⟩
  sv:=V.mono (Gy.mono trivial) _ _ (q▸v1)
  dp:=⟨_,w3.at_⟩
  nd:=λq e=>⟨V1 (n2.it.akc e),I7 e nb⟩
  mN:=.inr rfl
  mP:=λq=>q.elim (λq=>n2.fr ((w3.le.st.ar I id).mp q)) λq=>CI q.symm}
 have loop:=LW (W:=W3.pv y) (l:=l) (d:=W2.H.size) (D:=W2.h.objs.size) (tst:=λhd=>lr (tl hd)) (elt:=elt) (k:=K) (xp:=xp) (iter:=it) (p:=p) (R:=compPost T.M c.A (cV c.envs W r) none (aS VV W r) (.ref W2.h.objs.size) W3.h.objs.size) g1.n g1.a g1.f.st ok (ca.mono le.mono) yQ ie (.inl (.inr rfl)) (.inr rfl) fo CI hb hx (λW5 h5 n5=>by
  obtain⟨m,ns5⟩:=n5.ns
  refine⟨m,ns5,λh6 sb6=>?_⟩
  have UJ:=n5.lo.pv W3.h.objs.size ⟨.inr rfl,CI⟩
  have y6:eW (·=W3.h.objs.size) W5 (λa=>W5.Y.Mu a∧¬a=W3.h.objs.size) (λa=>W5.Y.ar a∧¬a=W3.h.objs.size) {W5.s with heap:=h6}:=.close (D:=(·=W3.h.objs.size)) ⟨rfl,rfl,rfl⟩ (λa(e:a=W3.h.objs.size)=>e▸UJ) λb o nb e=>(sb6.2 b nb).trans e
  have XX:Le W1 (W5.pv y6):=(n5.lo.close (λa(e:a=W3.h.objs.size)=>⟨⟨.inr e,λq=>CI (e.symm.trans q)⟩,e▸c1⟩) y6).un trivial λa z=>z.1.1.elim (λq=>q.elim id z.1.2) z.2
  exact .mk (W5.pv y6) (.ref W2.H.size) h5 (le.trans XX) (n5.dp.elim λq e=>⟨(W2.h.objs.size,q),rfl,e⟩)) (show mE T.S c.hd pu src ids (lr (tl c.hd)) (elt c.hd) W2.H.size K 0 W3.H=r by rw[w3.H,n2.mv.H];exact go) v
 exact codeAny_compStart_list loop (XD v.it loop)
end Mine
namespace Mine
variable{n:Zc}{cx:aQ}
theorem aP.ep{e:PE}{m:Zh→Fm→AM AV}(x:aP n cx e m):qq false n cx e m:=λg=>(x g).vp
theorem qr.tp{ifs:Zb PE}{m:Zh→Fm→AM Zh}(x:qr n cx ifs m):uz false n cx ifs m:=λg=>(x g).vp
theorem ajP:uz true n cx [] (λ_=>lr dI):=λ{c env fm W} g _=>wpAny_tests_nil (.mk W true rfl (.refl W) ⟨rfl,λ_=>rfl⟩)
theorem NY{y z:Str}{i a:Zc}{p q:Pos}(e:cx.ls[i]?=some y)(ok:nk y=true)(ns:∀(env:Env)(t:Sem Zf),attributeBase (.Name y q) z env t=t)(hz:T.S.nm a=some z):qq true n cx (.Attribute (.Name y q) z p) (λ_=>tH a λfm=>gP fm i):=by
 intro c env fm W g
 refine .cast (t:=do let o'←eval (.Name y q) env;standAt p.atName;let r←W8 [o'] (getAttr o' z true);letTemporaryGo (.Name y q) o' r;pure r) (.of λr hr hb=>?_) (by
  show(do let o'←attributeBase (.Name y q) z env (eval (.Name y q) env);standAt p.atName;let r←W8 [o'] (getAttr o' z true);letTemporaryGo (.Name y q) o' r;pure r)=_
  rw[ns])
 have nb:=iF hr hb
 refine oB rfl nb λv h1 _=>?_
 have go:AM.bind (λh=>ae (isAny v) .bad (.ok v h)) (λo=>mz o a) W.H=r:=by
  have hr:AM.bind (gP fm i) (λo=>mz o a) W.H=r:=hr
  have h:gP fm i=λh=>ae (isAny v) .bad (.ok v h):=by unfold gP;rw[h1];rfl
  rw[h]at hr;exact hr
 cases z:isAny v with
 |true=>rw[z]at go;exact Y8 go.symm hb
 |false=>
  rw[z]at go
  obtain⟨m,ns,k⟩:=g.f.fr
  obtain⟨u,a,b⟩:=k i y v e h1 z
  refine Zg (R5 (Qc g.f.st.kind (g.f.st.look (g.f.st.locs i y e)) ns a ?_) (tW ok))
  refine oB (show aa (aq (pE W.H v) λq=>aY _ q.2) .bad (λx=>.ok x W.H)=r from go) hb λw h3 hr=>oN h3 λq h4 h5=>?_
  refine Zg (Yw (Zg (Y0 (CG (EV b h4 h5) hz h5 λu' tk vu=>Zg (Qd (Zq ?_))))))
  exact .mk (W.tok tk) w hr.symm (.tok W tk) ⟨vu,λ_=>rfl⟩
theorem Iz(y:Str)(w:Zf)(r:Zb (Str×Zf))(x:Str)(u:Zf)(nd:y=x→∀p∈r,p.1≠x):stored ((y,w)::r) x u=if y=x then(y,u)::r else(y,w)::stored r x u:=by
 unfold stored
 by_cases q:y=x
 ·have:r.map (λkv=>if kv.1=x then(kv.1,u)else kv)=r:=(Ug λp hp=>if_neg (nd q p hp)).trans (Qm r)
  rw[S4,Y6 q,if_pos q,Vt,if_pos q,this];rfl
 ·rw[S4,Ym q,if_neg q,Vt,if_neg q]
  show(if r.any _=true then _ else _)=_
  split<;>rfl
theorem HA{Y:Ly}{h:Yc}{k:Zc}{x:Str}(hx:T.S.nm k=some x){v:AV}{u:Zf}(hv:V Y h v u){es:Zb (AV×AV)}:∀{kvs:Zb (Str×Zf)}{ef:Zb (AV×AV)},cu Y h es kvs→(kvs.map (·.1)).Nodup→putK (.sy k) v es=some ef→cu Y h ef (stored kvs x u):=by
 induction es with
 |nil=>exactλr _ e=>by rw[show _=[] from r,←Za e];exact gW.mk rfl rfl hx hv rfl
 |cons p es ih=>
  intro kvs ef r nd e
  obtain⟨rfl,hk,hn,a,b⟩:=(r:gW p.1 (V Y h p.2) (cu Y h es) kvs)
  have nd:=List.nodup_cons.mp nd
  refine oN e λc hc e=>?_
  rw[hk]at hc
  have z:=(Za hc).symm.trans (tS hn hx)
  rw[Iz _ _ _ _ _ λz p hp q=>nd.1 (List.mem_map.mpr ⟨p,hp,q.trans z.symm⟩),tu z]
  cases c with
  |true=>rw[←Za e];exact gW.mk rfl hk hn hv b
  |false=>exact oN e λr' h2 e=>by rw[←Za e];exact gW.mk rfl hk hn a (ih b nd.2 h2)
theorem ajr{kvs:Zb (Str×Zf)}{x:Str}{u:Zf}(nd:(kvs.map (·.1)).Nodup):((stored kvs x u).map (·.1)).Nodup:=by
 unfold stored
 split
 ·rw[Sj,Ug (g:=(·.1)) λkv _=>?_]
  ·exact nd
  ·show(if kv.1=x then(kv.1,u)else kv).1=kv.1
   split<;>rfl
 ·rename_i hn
  rw[List.map_append,List.nodup_append]
  exact⟨nd,List.nodup_cons.mpr ⟨(λq=>nomatch q),U1⟩,λy hy z hz q=>(List.mem_map.mp hy).elim λp hp=>hn (List.any_eq_true.mpr ⟨p,hp.1,Y6 (hp.2.trans (q.trans (List.mem_singleton.mp hz)))⟩)⟩
def flat(l:Zb (Zf×Zf)):Zb Zf:=Zo [] (λp _ ih=>p.1::p.2::ih) l
def pairsOf(l:Zb (PE×PE))(env:Env)(pos:Pos):Zb (Sem Zf×Sem Zf):=l.map λp=>(eval p.1 env,do let x←eval p.2 env;standAt pos;pure x)
theorem acn{env:Env}{pos:Pos}(l:Zb (PE×PE)):(evalEachOpt (l.map λp=>some p.1) env).zip ((evalEach (l.map (·.2)) env).map λv=>do let x←v;standAt pos;pure x)=(pairsOf l env pos).map λp=>(some p.1,p.2):=by
 induction l with
 |nil=>rfl
 |cons p l ih=>exact Ze (_::·) ih
def qp(n:Zc)(cx:aQ)(l:Zb (PE×PE))(m:Zh→Fm→AM (Zb AV)):Prop:=∀{c:Cn}{env:Env}{fm:Fm}{W:Wd}{pos:Pos},Gd n cx c env fm W→bh c (λW l us=>W.Vs l (flat us)) W (m c.hd fm W.H) (evalPairs (pairsOf l env pos))
theorem aiv:qp n cx [] (λ_=>dI):=λ_=>.done rfl
theorem ait{k v:PE}{l:Zb (PE×PE)}{mk mv:Zh→Fm→AM AV}{ms:Zh→Fm→AM (Zb AV)}(ik:aP n cx k mk)(iv:aP n cx v mv)(ir:qp n cx l ms):qp n cx ((k,v)::l) (λhd=>dQ (mk hd) (dQ (mv hd) (ms hd))):=λ{c env fm W pos} g=>by
 have e:∀H,dQ (mk c.hd) (dQ (mv c.hd) (ms c.hd)) fm H=AM.bind (mk c.hd fm) (λa=>AM.bind (mv c.hd fm) λb=>AM.bind (ms c.hd fm) λl=>AM.pure (a::b::l)) H:=λH=>by
  show AM.bind (mk c.hd fm) (λa=>AM.bind (AM.bind (mv c.hd fm) λb=>AM.bind (ms c.hd fm) λl=>AM.pure (b::l)) λl=>AM.pure (a::l)) H=_
  unfold AM.bind
  cases mk c.hd fm H with
  |ok a H'=>
   show(Res.rec _ _ _ (Res.rec _ _ _ (mv c.hd fm H')):Res (Zb AV))=Res.rec _ _ _ (mv c.hd fm H')
   cases mv c.hd fm H' with
   |ok b H'=>
    show(Res.rec _ _ _ (Res.rec _ _ _ (ms c.hd fm H')):Res (Zb AV))=Res.rec _ _ _ (ms c.hd fm H')
    cases ms c.hd fm H'<;>rfl
   |_=>rfl
  |_=>rfl
 show bh c _ W (dQ (mk c.hd) (dQ (mv c.hd) (ms c.hd)) fm W.H) _
 rw[e]
 exact .cast (t:=(do let kv←eval k env;let vv←W8 [kv] (do let x←eval v env;standAt pos;pure x);return(kv,vv)::(←W8 [kv,vv] (evalPairs (pairsOf l env pos))))) (.bind (ik g) λW1 a u _ d6 v1=>
  .bind (bh.hold ((iv (g.le d6)).IU λ_ _ _ _ h=>Yw h)) λW2 b w _ bD v2=>.bind (bh.hold (ir ((g.le d6).le bD))) λW3 l us _ dO v3=>.done (hS.mk rfl (dO.v (bD.v v1)) (hS.mk rfl (dO.v v2) v3))) rfl
theorem KG{Y:Ly}{h:Yc}{us:Zb (Zf×Zf)}:∀{l:Zb AV}{ps acc es:Zb (AV×AV)}{kacc:Zb (Str×Zf)},Vs Y h l (flat us)→pairUp l=some ps→sG ps acc=some es→cu Y h acc kacc→(kacc.map (·.1)).Nodup→∃kvs,Carries T.sk us kvs∧cu Y h es (merged kacc kvs):=by
 induction us with
 |nil=>
  intro l ps acc es kacc rv e1 e2 ra nd
  cases l with
  |cons a l=>obtain⟨q,_,_⟩:=rv.inv;exact nomatch q
  |nil=>
   rw[←Za e1]at e2
   exact⟨[],trivial,Za e2▸ra⟩
 |cons u us ih=>
  intro l ps acc es kacc rv e1 e2 ra nd
  cases l with
  |nil=>exact nomatch(show flat (u::us)=[] from rv)
  |cons a l=>
   obtain⟨q,va,rv⟩:=rv.inv
   cases l with
   |nil=>exact nomatch(Wx q).2.trans (show _=[] from rv)
   |cons b l=>
    obtain⟨q',vb,rv⟩:=rv.inv
    have q2:=Wx ((Wx q).2.trans q')
    rw[←(Wx q).1]at va
    rw[←q2.1]at vb
    rw[←q2.2]at rv
    have e1:aa (pairUp l) none (λr=>some ((a,b)::r))=some ps:=e1
    refine oN e1 λpS h1 e1=>?_
    rw[←Za e1]at e2
    refine oN (show aq (cY a) (λ_=>aa (putK a b acc) none (sG pS))=some es from e2) λj hj e2=>oN (show aq (putK a b acc) (sG pS)=some es from e2) λakr h2 e2=>?_
    obtain⟨x,t,qx,hx⟩:=V.gU hj va
    rw[jj hj]at h2
    obtain⟨kvs,c,d⟩:=ih rv h1 e2 (HA hx vb ra nd h2) (ajr nd)
    exact⟨(x,u.2)::kvs,⟨by rw[qx];exact V0 T.pr T.w x t,rfl,c⟩,d⟩
theorem WS{o:AO}(e:yM o=true):o=.dict []:=oT e λes h e=>by
 rw[pd h]
 cases es with
 |nil=>rfl
 |cons _ _=>exact aA e
theorem eB.none{Y:Ly}{h:Yc}{p:Zj×Zd Zj}{es:Zb (AV×AV)}:eB Y h p es→p.2=.none
 |.s q _ _=>q
 |.i q _ _=>q
 |.t q _ _=>q
theorem Wd.dict(W:Wd):∃W',qs W {W.s with heap:=W.h.push {cls:=.type "dict",data:=.dict #[]}} (W.H.push (.dict [])) W.H.size (W.h.objs.size,.none) W':=
 have g:(W.h.push {cls:=.type "dict",data:=.dict #[]}).get? W.h.objs.size=some {cls:=.type "dict",data:=.dict #[]}:=Yb _ rfl
 Wd.new (tk:=W.s.toks) (λb f=>jX f▸⟨(W.fresh (Yg _)).1,_,g⟩) (.all λb ob e=>Zv _ e) λY' m=>.s rfl (jE.st ⟨_,_,g,⟨rfl,rfl,rfl⟩,rfl⟩) rfl
theorem aiu{l:Zb (PE×PE)}{p:Pos}{ms:Zh→Fm→AM (Zb AV)}(len:l.length≤15)(ih:qp n cx l ms):aP n cx (.Dict (l.map λp=>some p.1) (l.map (·.2)) p) (λhd=>zb (ms hd)):=λ{c env fm W} g=>.of λr hr hb=>by
 obtain⟨W1,w1⟩:=W.dict
 have g1:=g.le w1.le
 have hr:AM.bind (ms c.hd fm) (λvs h'=>aa (aq (pairUp vs) λps=>sG ps []) .bad λes=>aa (h'.get W.H.size) .bad λo=>ae (yM o) (.ok (.ref W.H.size) (h'.set W.H.size (.dict es))) .bad) W1.H=r:=w1.H▸hr
 have e1:{W.s with heap:=W.h.push {cls:=.type "dict",data:=.dict #[]}}=W1.s:=w1.s.symm
 have nb:=iF hr hb
 have ex:∀{e s'},cV c.envs W1 (ms c.hd fm W1.H) e s'→cV c.envs W r e s':=λz=>z.step w1.le λi H e=>hr.symm.trans (jL e)
 have done:∀(us:Zb (Zf×Zf))(s2:Zs),aS (λW l us=>W.Vs l (flat us)) W1 (ms c.hd fm W1.H) us s2→∃kvs,Carries T.sk us kvs∧s2.heap.DictOf T.sk W.h.objs.size []∧∀h' tk,h'.DictOf T.sk W.h.objs.size (merged [] kvs)→Xw W.h.objs.size s2.heap h'→aS VV W r (.ref W.h.objs.size) {s2 with heap:=h',toks:=tk}:=λus s2 z=>by
  obtain⟨W2,l,e2,bD,rv⟩:=z
  refine oB ((gf e2).symm.trans hr) hb λes h1 hr=>oB hr hb λo h2 hr=>bB hr hb λh3 hr=>oN h1 λps h4 h5=>?_
  rw[WS h3]at h2
  obtain⟨q,hp,_⟩:=bD.st.ids _ _ w1.at_
  have ro:eB W2.Y W2.h (W.h.objs.size,q) []:=W2.R.obj _ _ _ h2 hp
  obtain⟨kvs,c,d⟩:=KG rv h4 h5 (Y:=W2.Y) (h:=W2.h) (kacc:=[]) rfl U1
  refine⟨kvs,c,ro.emp.st,λh' tk fV sb=>?_⟩
  have th:∃o,h'.get? W.h.objs.size=some o:=fV.elim λo z=>z.elim λ_ z=>z.elim λ_ z=>⟨o,z.1⟩
  exact aS.step (w1.le.trans bD) (.turn (o:=.dict es) hr.symm hp (.x rfl) sb th (λY' m=>.s ro.none fV (cu.mono m _ _ d)) λW' le=>⟨_,rfl,(le.st.ids _ _ hp).choose_spec.1⟩)
 cases l with
 |nil=>
  show wpAny _ _ (eval (.Dict [] [] p) env) _ _ _
  rw[eval_Dict_empty]
  simp only[newDict,newObj]
  refine Zg (Yw (Zg (wpAny_alloc ?_)))
  show wpAny _ _ (evalPairs (pairsOf [] env p)>>=λ_=>pure (X3 W.h.objs.size)) _ _ {W.s with heap:=W.h.push {cls:=.type "dict",data:=.dict #[]}}
  rw[e1]
  refine Zg (Y9 (wpAny_evalPairs_len (ih g1 nb)) (λus s2 z=>Zq ?_) λ_ _=>ex)
  obtain⟨kvs,c,d,k⟩:=done us s2 z.2
  cases us with
  |cons _ _=>exact nomatch z.1
  |nil=>
   cases kvs with
   |cons _ _=>exact c.elim
   |nil=>exact k s2.heap s2.toks d (Pl _ _)
 |cons q l=>
  refine wpAny_Dict_pairs (knd:=T.sk) (acn (q::l)) (λq=>nomatch q) ((Yi ..).symm▸len) ?_
  show wpAny _ _ _ _ _ {W.s with heap:=W.h.push {cls:=.type "dict",data:=.dict #[]}}
  rw[e1]
  refine Y9 (ih g1 nb) (λus s2 z=>?_) λ_ _=>ex
  obtain⟨kvs,c,d,k⟩:=done us s2 z
  exact⟨kvs,c,d,λh' x y=>k h' _ x y⟩
end Mine
namespace Mine
section
variable{α:Type}
theorem YQ{ns:Zb Str}{x:Str}:∀{vs:Zb α},x∉ns→(ns.zip vs).lookup x=none:=by
 induction ns with
 |nil=>exactλ_=>rfl
 |cons n ns ih=>
  intro vs h
  cases vs with
  |nil=>rfl
  |cons v vs=>
   rw[Wj,Yl,beq_eq_false_iff_ne.mpr λq:x=n=>h (q▸.head _)]
   exact ih λq=>h (.tail _ q)
theorem YR{ns:Zb Str}{x:Str}:∀{vs:Zb α},x∈ns→ns.length=vs.length→∃v,(ns.zip vs).lookup x=some v:=by
 induction ns with
 |nil=>exactλh=>nomatch h
 |cons n ns ih=>
  intro vs h l
  cases vs with
  |nil=>exact nomatch l
  |cons v vs=>
   rw[Wj,Yl]
   by_cases q:x=n
   ·rw[q,Xs];exact⟨v,rfl⟩
   ·rw[beq_eq_false_iff_ne.mpr q];exact ih ((List.mem_cons.mp h).resolve_left q) (Uh l)
theorem YL{a b:Zb (Str×α)}{x:Str}(h:a.lookup x=none):(a++b).lookup x=b.lookup x:=by
 induction a with
 |nil=>rfl
 |cons p a ih=>
  obtain⟨y,v⟩:=p
  rw[So,Yl]
  rw[Yl]at h
  cases q:x==y with
  |true=>rw[q]at h;exact nomatch h
  |false=>rw[q]at h;exact ih h
theorem akq{a b:Zb Str}{u:Zb α}(h:a.length=u.length):(a++b).zip u=a.zip u:=by
 have z:=Sy (r₁:=b) (r₂:=([]:Zb α)) h
 rw[X4,P7,X4]at z
 exact z
theorem JR{ns:Zb Str}:∀{vs:Zb α}{m:Zb (Str×α)},ns.Nodup→ns.length=vs.length→(∀x∈ns,m.lookup x=(ns.zip vs).lookup x)→ns.filterMap (λn=>(m.lookup n).map (n,·))=ns.zip vs:=by
 induction ns with
 |nil=>exactλ_ _ _=>rfl
 |cons n ns ih=>
  intro vs m nd l h
  cases vs with
  |nil=>exact nomatch l
  |cons v vs=>
   have nd:=List.nodup_cons.mp nd
   have e1:=h n (.head _)
   rw[Wj,Yl,Xs]at e1
   rw[Qw,e1]
   refine Ze (_::·) (ih nd.2 (Uh l) λx hx=>?_)
   have e:=h x (.tail _ hx)
   rw[Wj,Yl,beq_eq_false_iff_ne.mpr λe:x=n=>nd.1 (e▸hx)]at e
   exact e
end
section
variable{f:Str×Zf→Zb (Str×Zf)→Sem (ForInStep (Zb (Str×Zf)))}(hf:∀n d sl,f (n,d) sl=if(sl.lookup n).isNone=true then pure (.yield (sl++[(n,d)]))else pure (.yield sl))
include hf
theorem Nq{b:Zb Str}:∀{ds:Zb Zf}{sl:Zb (Str×Zf)},(∀x∈b,sl.lookup x=none)→b.Nodup→forIn (b.zip ds) sl f=(pure (sl++b.zip ds):Sem _):=by
 induction b with
 |nil=>exactλ{ds sl} _ _=>by rw[List.zip_nil_left,R8,X4]
 |cons x b ih=>
  intro ds sl h nd
  cases ds with
  |nil=>rw[P7,R8,X4]
  |cons d ds=>
   have nd:=List.nodup_cons.mp nd
   rw[Wj,R0,hf,if_pos (by rw[h x (.head _)];rfl),pure_bind]
   show forIn (b.zip ds) (sl++[(x,d)]) f=_
   rw[ih (λy hy=>by rw[YL (h y (.tail _ hy)),Yl,beq_eq_false_iff_ne.mpr λe:y=x=>nd.1 (e▸hy)];rfl) nd.2,Sl];rfl
theorem Np{a b:Zb Str}(ds:Zb Zf){sl:Zb (Str×Zf)}(hb:∀x∈b,sl.lookup x=none)(nd:b.Nodup):∀{us:Zb Zf},a.length=us.length→(∀x∈a,∃v,sl.lookup x=some v)→forIn (a.zip us++b.zip ds) sl f=(pure (sl++b.zip ds):Sem _):=by
 induction a with
 |nil=>exactλ_ _=>Nq hf hb nd
 |cons x a ih=>
  intro us l ha
  cases us with
  |nil=>exact nomatch l
  |cons u us=>
   rw[Wj,So,R0,hf,if_neg (by obtain⟨v,e⟩:=ha x (.head _);rw[e];exact Yn),pure_bind]
   exact ih (Uh l) λy hy=>ha y (.tail _ hy)
end
theorem tR{b:Zh}(h:b=false):¬b=true:=by rw[h];exact Yn
theorem Kv{fd:FuncData}{l:Zb Arg}{dx:Zb PE}(hp:fd.params=⟨[],l,none,[],[],none,dx⟩){a b:Zb Str}(hn:l.map (·.arg)=a++b)(nd:(a++b).Nodup){vals d1 d2:Zb Zf}(ha:a.length=vals.length)(hb:b.length=d2.length)(h1:d1.length≤a.length)
  {s:Zs}{o:Zd (X9 Zf)}(ho:(o.getD #[]).toList=d1++d2)(hd:∀(M:Model)(A:Yu)(E:Zf→Zs→Prop)(Q:Zd (X9 Zf)→Zs→Prop),Q o s→wpAny M A (seqItems? fd.defaults) Q E s):BindsTo s fd ⟨vals,[]⟩ ((a++b).zip (vals++d2)):=by
 intro M A E Q hq
 have lf:(a++b).length-(d1++d2).length=a.length-d1.length:=by rw[Yk,Yk,hb];exact Nat.add_sub_add_right ..
 have fa:a.length-d1.length≤a.length:=Nat.sub_le ..
 have d0:(d1++d2).drop ((d1++d2).length-(a++b).length)=d1++d2:=by
  rw[Yk,Yk,←hb,Nat.sub_eq_zero_of_le (Tm h1 _)];rfl
 have G0:=List.nodup_append.mp nd
 have FM:∀x∈a,∃v,(a.zip vals).lookup x=some v:=λx hx=>YR hx ha
 have WF:∀x∈b,(a.zip vals).lookup x=none:=λx hx=>YQ λq=>G0.2.2 x q x hx rfl
 have fl:((a++b).take (a.length-d1.length)).filter (λn=>(To n (a.zip vals)).isNone)=[]:=List.filter_eq_nil_iff.mpr λx hx=>by
  rw[List.take_append_of_le_length fa]at hx
  obtain⟨v,e⟩:=FM x (Ql hx)
  rw[e];exact Yn
 have lp:forIn (((a++b).drop (a.length-d1.length)).zip (d1++d2)) (a.zip vals) (λ(x:Str×Zf) xu=>if(To x.fst xu).isNone=true then pure (Vu (xu++[(x.fst,x.snd)]))else pure (Vu xu))=(pure ((a++b).zip (vals++d2)):Sem _):=by
  rw[List.drop_append_of_le_length fa,Sy (by rw[U8];exact Sn h1),Sy ha]
  exact Np (λ_ _ _=>rfl) d2 WF G0.2.1 (by rw[U8];exact Sn h1) λx hx=>FM x (List.mem_of_mem_drop hx)
 have hg:(decide (vals.length>(a++b).length))=false:=Ym (Nat.not_lt.mpr (by rw[Yk,←ha];exact Xu ..))
 have az:=JR (m:=(a++b).zip (vals++d2)) nd (by rw[Yk,Yk,ha,hb]) λx _=>rfl
 unfold bindArgs
 rw[hp]
 refine Zg (Zq (Zg (hd _ _ _ _ ?_)))
 have e0:U2 (λx:Arg=>x.arg) []++U2 (λx=>x.arg) l=a++b:=hn
 have sl:(U2 (λx:Arg=>x.arg) []++U2 (λx=>x.arg) l).zip vals=a.zip vals:=(Ze (List.zip · vals) e0).trans (akq ha)
 have fi:(U2 (λx:Arg=>x.arg) []++U2 (λx=>x.arg) l).length-(List.drop ((o.getD #[]).toList.length-(U2 (λx:Arg=>x.arg) []++U2 (λx=>x.arg) l).length) (o.getD #[]).toList).length=a.length-d1.length:=by rw[e0,ho,d0,lf]
 rw[if_neg (tR (by rw[e0,hg];rfl))]
 rw[if_neg (tR (by dsimp only;rw[sl,fi,e0,fl];rfl))]
 refine Zg (Qa (a:=(a++b).zip (vals++d2)) (Vd (by dsimp only;rw[sl,fi,e0,ho,d0]) lp) ?_)
 refine Zg (Zq ?_)
 show wpAny M A (pure (List.filterMap (λn=>(To n ((a++b).zip (vals++d2))).map (n,·)) (U2 (λx:Arg=>x.arg) []++U2 (λx=>x.arg) l++[]))) Q E s
 rw[e0,X4,az]
 exact Zq hq
end Mine
namespace Mine
section
variable{M:Model}{A:Yu}{E:Zf→Zs→Prop}{s:Zs}
theorem zn(o:Obj)(f:X9 Zf→X9 Zf):(Yx f o).dict=o.dict:=by
 obtain⟨c,d,dt,sl⟩:=o;cases dt<;>rfl
theorem NX{base:Yc}{env:Env}{outer:Zb Env}{L e:Zj}{oe:Obj}{vs:X9 Zf}{head:Zf}{UN:Zh}{Q:Unit→Zs→Prop}
  (qS:A.frames=some (env::outer))(hl:s.heap.FunFrames base (env::outer))(hf:env.frame=some L)(he:s.heap.get? e=some oe)(hd:oe.data=.fields vs)(jr:1<vs.size)
  (h:∀h' Tn oT ts,s.heap.get? Tn=none→(∀(b:Zj)(o:Obj),b∉(env::outer).filterMap (·.frame)→b≠e→s.heap.get? b=some o→h'.get? b=some o)→
   (∀(b:Zj)(o:Obj),b∈(env::outer).filterMap (·.frame)→s.heap.get? b=some o→∃sl,h'.get? b=some {o with slots:=sl})→
   h'.get? e=some (Yx (·.setIfInBounds 1 (X3 Tn)) oe)→h'.get? Tn=some oT→oT.data=.fields ts→ts[3]?=some .none→Q () {s with heap:=h'}):
  wpAny M A (do let a←frameOf env;let pl←entryPlaceOf L UN;let b←Tv head a .none (rawInt L) .none pl;setField (.ref e) 1 b) (λ_ s'=>wpAny M A (setFlight (.ref e) none) Q E s') E s:=by
 have G4:e∉(env::outer).filterMap (·.frame):=λhm=>by
  obtain⟨_,o,ho,nf⟩:=hl.mem hm
  rw[he]at ho;cases ho;exact nf vs hd
 refine Zg (wpAny_frameOf_fun qS hl hf λh1 hs=>?_)
 refine Zg (wpAny_entryPlaceOf λpl yB=>?_)
 unfold Tv newFields
 refine Zg (V8 ?_ (yB.sizeOk5 _ _ _ _ _))
 generalize VH:([head,X3 L,Xa,rawInt L,Xa]++(if pl.isEmpty then Wk 6 Xa else pl)).toArray=tv
 have IX:3<tv.size:=by
  rw[←VH];simp only[Zy,Yk,U9,List.length_nil];omega
 have e1:h1.get? e=some oe:=(hs.2.1 e G4).trans he
 have e2:=Zv (h:=h1) {cls:=.type "traceback",dict:=none,data:=.fields tv} e1
 refine Va e2 hd jr ?_
 have ne:h1.objs.size≠e:=Q2 (V4 e1)
 have d3:=X6 hd (·.setIfInBounds 1 (X3 h1.objs.size))
 have e3:=Ys (Yx (·.setIfInBounds 1 (X3 h1.objs.size))) e2 (Wm d3)
 have t2:(h1.push {cls:=.type "traceback",dict:=none,data:=.fields tv}).get? h1.objs.size=some {cls:=.type "traceback",dict:=none,data:=.fields tv}:=Yb h1 rfl
 have t3:=(Xo (h1.push {cls:=.type "traceback",dict:=none,data:=.fields tv}) (Yx (·.setIfInBounds 1 (X3 h1.objs.size))) (Ve ne)).trans t2
 unfold setFlight
 refine Zg (W9 e3 d3 (x:=.ref h1.objs.size) (by simp[jr]) ?_)
 rw[if_pos (show(X3 h1.objs.size !=Xa)=true from by simp)]
 refine Va t3 rfl IX ?_
 have keep:∀(b:Zj)(o:Obj),b≠e→h1.get? b=some o→
   (((h1.push {cls:=.type "traceback",dict:=none,data:=.fields tv}).update e (Yx (·.setIfInBounds 1 (X3 h1.objs.size)))).update h1.objs.size
    (Yx (·.setIfInBounds 3 ((none:Zd Zj).elim Xa λf=>rawInt f)))).get? b=some o:=λb o nb hb=>by
  have:h1.objs.size≠b:=Q2 (V4 hb)
  rw[Xo _ _ this,Xo _ _ (Ve nb)]
  exact Zv _ hb
 have t4:=Ys (Yx (·.setIfInBounds 3 ((none:Zd Zj).elim Xa λf=>rawInt f))) t3 (Wm (X6 rfl _))
 refine h _ h1.objs.size _ _ ?_ (λb o nf nb hb=>keep b o nb ((hs.2.1 b nf).trans hb)) (λb o hf hb=>?_) ?_ t4 (X6 rfl _) (by simp[Array.getElem?_setIfInBounds,IX])
 ·exact Tq (Xb hs.1.symm)
 ·obtain⟨sl,q⟩:=hs.2.2 b o hb
  exact⟨sl,keep b _ (λz=>G4 (z▸hf)) q⟩
 ·rw[Xo _ _ ne];exact e3
end
theorem iX{α:Type}{o:Zd α}{a:α}{P:Prop}(x:o=none)(y:o=some a):P:=nomatch x.symm.trans y
theorem Ns.slots{h h':Yc}{a:Zj}{m:Str→Zd Zf}(x:h.Ns a m)(k:∀o,h.get? a=some o→∃sl,h'.get? a=some {o with slots:=sl}):h'.Ns a m:=
 x.elim λo z=>z.elim λes z=>z.elim λep z=>(k o z.1).elim λsl e=>⟨_,es,ep,e,z.2⟩
structure BI(K:Prop)(own:Zj→Prop)(W0 W W':Wd)(i:Zc)(e:Zj)(outer:Zb Env):Prop where
 H:W'.H=W.H
 ρ:W'.Y.ρ=W.Y.ρ
 ar:W'.Y.ar=W.Y.ar
 m:cO W.Y W.h W'.Y W'.h
 lo:Lo K own W0 W'
 ns:∀a,W.Y.ar a→∀m,W.h.Ns a m→W'.h.Ns a m
 fl:i4 W' i W0.h outer e
section
variable{A:Yu}{env:Env}{outer:Zb Env}{K:Prop}{own:Zj→Prop}{W0 W:Wd}{i:Zc}{p:Zj×Zd Zj}{E:Zf→Zs→Prop}{Q:Unit→Zs→Prop}
theorem Hb(fs:∀ya∈env::outer,k9 W.Y W.h ya)(lo:Lo K own W0 W)(hp:W.Y.ρ i=some p){C:Zj}{rS:Zb (Zc×AV)}(xd:W.H.get i=some (.kE C rS))(ff:W.h.FunFrames T.h0 (env::outer)){oe:Obj}{vs:X9 Zf}(he:W.h.get? p.1=some oe)(hd:oe.data=.fields vs)(jr:vs.size=6)
  (qS:A.frames=some (env::outer))(D:Zj→Prop){s1:Zs}(head:Zf)(hn:Zh)(es:s1={W.s with heap:=s1.heap})(kD:∀(b:Zj)(o:Obj),¬D b→W.h.get? b=some o→s1.heap.get? b=some o)
  (hD:∀a,D a→Off W.Y a∧W0.h.get? a=none∧(∃o ts,W.h.get? a=some o∧o.data=.fields ts)∧∃o,s1.heap.get? a=some o)(QK:s1.heap.FunFrames T.h0 (env::outer))(h:∀W',BI K own W0 W W' i p.1 outer→Q () W'.s):
  wpAny T.M A (do let a←frameOf env;let pl←entryPlaceOf env.locals hn;let b←Tv head a .none (rawInt env.locals) .none pl;setField (.ref p.1) 1 b) (λ_ s'=>wpAny T.M A (setFlight (.ref p.1) none) Q E s') E s1:=by
 have WG:∀b∈(env::outer).filterMap (·.frame),W.Y.ar b:=λb hb=>by
  obtain⟨e,he,q⟩:=List.mem_filterMap.mp hb
  exact Za ((fs e he).frame.symm.trans q)▸(fs e he).fr
 have pe:W.Y.foot p.1:=.mk hp (.x rfl)
 have zE:∀{a},W.Y.foot a→¬D a:=λf q=>(hD _ q).1.ft f
 have GY:∀{a},W.Y.ar a→¬D a:=λf q=>(hD _ q).1.fr f
 refine NX qS QK (fs env (.head _)).frame (kD _ _ (zE pe) he) hd (jr▸by decide) λh' Tn oT ts fT kp kf ke hT lD h3=>?_
 have Hz:∀(b:Zj)(ob:Obj),W.h.get? b=some ob→∃o',s1.heap.get? b=some o':=λb ob e=>(V5 (D b)).elim (λd=>(hD b d).2.2.2) λd=>⟨ob,kD b ob d e⟩
 have vm:W.h.get? Tn=none:=by
  cases q:W.h.get? Tn with
  |none=>rfl
  |some ob=>exact(Hz Tn ob q).elim λ_ e=>nomatch fT.symm.trans e
 have vN:∀(b:Zj)(ob:Obj),¬W.Y.ar b→b≠p.1→¬D b→W.h.get? b=some ob→h'.get? b=some ob:=λb ob n1 n2 n3 e=>kp b ob (λq=>n1 (WG b q)) n2 (kD b ob n3 e)
 have Hd:∀a,W.Y.ar a→∀m,W.h.Ns a m→h'.Ns a m:=λa ha m x=>Ns.slots x λob e=>(V5 (a∈(env::outer).filterMap (·.frame))).elim (λz=>kf a ob z (kD a ob (GY ha) e)) λz=>⟨ob.slots,kp a ob z (λq=>W.R.apart _ pe (q▸ha)) (kD a ob (GY ha) e)⟩
 have c7:∀(b:Zj)(ob:Obj),W.h.get? b=some ob→∃o',h'.get? b=some o':=λb ob e=>(Hz b ob e).elim λo1 e1=>(Xx (b=p.1)).elim (λz=>⟨_,z▸ke⟩) λz1=>(V5 (b∈(env::outer).filterMap (·.frame))).elim (λz=>(kf b o1 z e1).elim λ_ q=>⟨_,q⟩) λz=>⟨_,kp b o1 z z1 e1⟩
 have GX:¬W.Y.Mu Tn:=λq=>(W.R.there Tn q).elim λ_ e=>nomatch vm.symm.trans e
 let Y':Ly:=W.Y.pr (λa=>W.Y.Mu a∨a=Tn) W.Y.ar
 have m:cO W.Y W.h Y' h':=⟨rfl,λ_ q e=>⟨q.2,e⟩,λa ob f=>Fz.casesOn f λg n=>.mk (vN a ob (λq=>n (W.R.eg a q)) (λq=>n (q▸W.R.sub _ pe)) (λq=>n (hD a q).1.mu) g) λq=>q.elim n λq=>iX vm (q▸g)⟩
 have base:T.h0.StaysIn h':=λb ob e=>(m.keep b ob ⟨W.R.base b ob e,λq=>nomatch(W.R.new b q).symm.trans e⟩).g
 have roe:RO W.Y W.h p (.kE C rS)→RO Y' h' p (.kE C rS):=λr=>by
  have sz:∀{o2:Obj}{v2:X9 Zf},W.h.get? p.1=some o2→o2.data=.fields v2→oe=o2∧vs=v2:=λa b=>by
   have e:=Za (he.symm.trans a)
   rw[←e,hd]at b
   injection b with b
   exact⟨e,b⟩
  have z6:(vs.setIfInBounds 1 (X3 Tn)).size=6:=(T2 ..).trans jr
  cases(r:eC W.Y W.h p (λvs=>vs.size=6) C rS)with
  |z q f hx a b c e=>
   obtain⟨e1,e2⟩:=sz hx c
   exact eC.z q f ke ((Ut _ _).trans (e1▸a)) ((zn _ _).trans (e1▸b)) (X6 hd _) z6
  |s q hx a b c e lF r f l=>
   obtain⟨e1,e2⟩:=sz hx c
   have df:=xk.mk hp (.d q)
   exact eC.s q ke ((Ut _ _).trans (e1▸a)) ((zn _ _).trans (e1▸b)) (X6 hd _) z6 (vN _ _ (W.R.apart _ df) (λz=>by rw[z,he]at lF;rw[Za lF]at hd;exact nomatch hd) (zE df) lF) (r.mono m) f l
 have R':Rep Y' W.H h':={
  len:=W.R.len
  dg:=W.R.dg
  obj:=λj oj u e1 e2=>(Xx (j=i)).elim (λq=>by
   subst q
   have e2:=Za (hp.symm.trans e2)
   have e1:=Za (xd.symm.trans e1)
   exact e2▸e1▸roe (W.R.obj j _ _ xd hp)) λq=>(W.R.obj j oj u e1 e2).mono m λb hb ob e=>vN b ob (W.R.apart b (.mk e2 hb)) (λz=>q (W.R.inj e2 hp hb (.x z))) (zE (.mk e2 hb)) e
  inj:=W.R.inj
  sub:=λa ha=>.inl (W.R.sub a ha)
  apart:=W.R.apart
  eg:=λa ha=>.inl (W.R.eg a ha)
  new:=λa ha=>ha.elim (W.R.new a) λha=>by
   cases q:T.h0.get? a with
   |none=>rfl
   |some ob=>exact nomatch(ha▸vm).symm.trans (W.R.base a ob q)
  there:=λa ha=>ha.elim (λha=>(W.R.there a ha).elim λob e=>c7 a ob e) λha=>⟨_,ha▸hT⟩
  base:=base}
 have ED:W0.h.get? Tn=none:=lo.st.gone vm
 have pG:Lo K own W0 ⟨Y',{W.s with heap:=h'},W.H,R'⟩:={
  st:={
   τ:=rfl
   ar:=lo.st.ar
   ids:=lo.st.ids
   mu:=λa ha=>.inl (lo.st.mu a ha)
   fX:=λa ha=>ha.elim (lo.st.fX a) λha=>.inr (ha▸ED)
   ft:=lo.st.ft
   keep:=λa ob n f r e=>vN a ob (λq=>r ((lo.st.ar a n).mp q)) (λq=>(lo.st.ft _ pe).elim (λz=>f (q▸z)) λz=>iX z (q▸e)) (λq=>iX (hD a q).2.1 e) (lo.st.keep a ob n f r e)
   dy:=λa n f m x=>Hd a ((lo.st.ar a n).mpr f) m (lo.st.dy a n f m x)
   c7:=λa ob e=>(lo.st.c7 a ob e).elim λo' e'=>c7 a o' e'
   ow:=lo.st.ow}
  t:=lo.t
  re:=lo.re.trans ⟨rfl,rfl,rfl⟩
  pv:=λa q=>⟨.inl (lo.pv a q).1,(lo.pv a q).2⟩}
 obtain⟨_,_,QL⟩:=id ff
 have QQ:i4 ⟨Y',{W.s with heap:=h'},W.H,R'⟩ i W0.h outer p.1:=by
  refine⟨⟨C,rS,xd⟩,QL.of_keeps λb ob e nf=>?_,_,_,ke,X6 hd _,(T2 ..).trans jr,.t ?_ ED ⟨.inr rfl,λq=>GX (W.R.sub _ q),λq=>GX (W.R.eg _ q)⟩ hT lD h3⟩
  ·have z1:b≠p.1:=λq=>by rw[q,he]at e;exact nf _ (Za e▸hd)
   have z3:¬D b:=λq=>by obtain⟨o2,t2,a,c⟩:=(hD b q).2.2.1;rw[a]at e;exact nf _ (Za e▸c)
   exact(V5 (b∈(env::outer).filterMap (·.frame))).elim (λz2=>(kf b ob z2 (kD b ob z3 e)).elim λsl q=>⟨_,q,rfl⟩) λz2=>⟨ob,kp b ob z2 z1 (kD b ob z3 e),rfl⟩
  ·exact Array.getElem?_setIfInBounds_self_of_lt (jr▸by decide)
 rw[es]
 exact h ⟨Y',{W.s with heap:=h'},W.H,R'⟩ ⟨rfl,rfl,rfl,m,pG,Hd,QQ⟩
theorem Ha(qS:A.frames=some (env::outer))(fs:∀ya∈env::outer,k9 W.Y W.h ya)(lo:Lo K own W0 W)(hp:W.Y.ρ i=some p)(fl:i4 W i W0.h (env::outer) p.1)(h:∀W',BI K own W0 W W' i p.1 outer→Q () W'.s):
  wpAny T.M A (noteFrame (.ref p.1) env) (λ_ s'=>wpAny T.M A (setFlight (.ref p.1) none) Q E s') E W.s:=by
 obtain⟨⟨C,rS,xd⟩,ff,oe,vs,he,hd,jr,tb⟩:=fl
 unfold noteFrame
 rw[(fs env (.head _)).frame]
 dsimp only
 cases tb with
 |n h1=>
  refine Zg (W9 he hd h1 ?_)
  rw[if_neg (by decide)]
  exact Hb fs lo hp xd ff he hd jr qS (λ_=>False) .none _ rfl (λ_ _ _ e=>e) (λ_=>Xg) ff h
 |@t Tb oT ts h1 vl off hT lD h3=>
  refine Zg (W9 he hd h1 ?_)
  rw[if_pos (show(X3 Tb !=Xa)=true from rfl)]
  refine Zg (W9 hT lD h3 ?_)
  rw[if_neg (show¬((Xa==rawInt env.locals)=true) from Yn)]
  refine Zg (Va hT lD (Array.getElem?_eq_some_iff.mp h3).1 ?_)
  have kT:∀(b:Zj)(ob:Obj),b≠Tb→W.h.get? b=some ob→(W.h.update Tb (Yx (·.setIfInBounds 3 Xa))).get? b=some ob:=λb ob nb e=>(Xo _ _ (Ve nb)).trans e
  have tT:=Ys (Yx (·.setIfInBounds 3 Xa)) hT (Wm (X6 lD _))
  exact Hb fs lo hp xd ff he hd jr qS (·=Tb) (s1:={W.s with heap:=W.h.update Tb (Yx (·.setIfInBounds 3 Xa))}) (.ref Tb) _ rfl kT (λa(e:a=Tb)=>by rw[e];exact⟨off,vl,⟨oT,ts,hT,lD⟩,_,tT⟩) (ff.of_keeps λb ob e nf=>⟨ob,kT b ob (λq=>by rw[q,hT]at e;exact nf _ (Za e▸lD)) e,rfl⟩) h
end
end Mine
namespace Mine
structure Sx where
 c:Cn
 env:Env
 own:Zj→Prop
 W0:Wd
 ev:Ev
 hv:Zb Zf
 a9:Zj→Obj→Prop
structure i7(n:Zc)(X:Sx):Prop where
 n:X.c.n=n
 hd:X.ev.hd=X.c.hd
 e:∃o,X.c.envs=X.env::o
 ol:X.own X.env.locals
 fo:∀a,X.own a→X.W0.h.get? a=none
 n0:X.ev.n0=X.W0.H.size
structure Be(X:Sx)(W:Wd)(a:Zj)(o:Obj):Prop where
 own:X.own a
 ne:a≠X.env.locals
 fr:¬W.Y.ar a
 g:W.h.get? a=some o
structure Sa(cx:aQ)(X:Sx)(fm:Fm)(W:Wd):Prop where
 a:eT X.c W.Y W.h
 f:gE cx X.env fm W.Y W.h
 lo:Lo (fm.tn=false) X.own X.W0 W
 hv:W.Vs X.ev.hold X.hv
 a9:∀{a:Zj}{o:Obj},X.a9 a o→Be X W a o
section
variable{n:Zc}{cx:aQ}{X:Sx}{fm:Fm}{W W':Wd}
theorem Sa.gd(a:Sa cx X fm W)(g:i7 n X):Gd n cx X.c X.env fm W:=⟨g.n,a.a,a.f⟩
theorem Sa.le(a:Sa cx X fm W)(le:Le W W'):Sa cx X fm W':=⟨a.a.step le.st λ_=>Xg,a.f.step le,a.lo.le le,le.vs a.hv,λh=>have z:=a.a9 h;⟨z.own,z.ne,λq=>z.fr ((le.st.ar _ id).mp q),le.keep (a.lo.pv _ z.own) z.fr z.g⟩⟩
theorem gE.ns{env:Env}{Y:Ly}{h:Yc}(f:gE cx env fm Y h):∃m,h.Ns env.locals m:=f.fr.elim λm z=>⟨m,z.1⟩
end
inductive lZ(cx:aQ)(X:Sx)(r:SR):Flow→Zs→Prop
 |nx(fm:Fm)(W:Wd)(e:r=.nx fm W.H)(a:Sa cx X fm W):lZ cx X r .next W.s
 |rt(v:AV)(u:Zf)(W:Wd)(e:r=.rt v W.H)(lo:Lo True X.own X.W0 W)(rv:W.V v u):lZ cx X r (.ret u) W.s
inductive hJ(X:Sx)(r:SR):Zf→Zs→Prop
 |mk(W:Wd)(i:Zc)(p:Zj×Zd Zj)(q:r=.ex i W.H)(lo:Lo True X.own X.W0 W)(ep:W.Y.ρ i=some p)(fl:i4 W i X.W0.h X.c.envs p.1)(fr:W.Y.ar X.env.locals)(ns:∃m,W.h.Ns X.env.locals m):hJ X r (.ref p.1) W.s
def eJ(n:Zc)(cx:aQ)(st:Stmt)(m:Ev→SM):Prop:=∀{X:Sx}{fm:Fm}{W:Wd},i7 n X→Sa cx X fm W→∀{r:SR},m X.ev fm W.H=r→r≠.bad→wpAny T.M X.c.A (exec st X.env) (lZ cx X r) (hJ X r) W.s
def fC(n:Zc)(cx:aQ)(ss:Zb Stmt)(m:Ev→SM):Prop:=∀{X:Sx}{fm:Fm}{W:Wd},i7 n X→Sa cx X fm W→∀{r:SR},m X.ev fm W.H=r→r≠.bad→wpAny T.M X.c.A (execs ss X.env) (lZ cx X r) (hJ X r) W.s
section
variable{n:Zc}{cx:aQ}{X:Sx}{fm:Fm}{W:Wd}{r:SR}
theorem ug{α:Type}{m:AM α}{f:α→AH→SR}{H H':AH}{a:α}(hr:sB fm m H f=r)(e:m H=.ok a H'):f a H'=r:=by unfold sB at hr;rw[e]at hr;exact hr
theorem rE{α:Type}{m:AM α}{f:α→AH→SR}{H:AH}(hr:sB fm m H f=r)(hb:r≠.bad):m H≠.bad:=λe=>hb (by unfold sB at hr;rw[e]at hr;exact hr.symm)
theorem Ib{α:Type}{m:AM α}{f:α→AH→SR}{H H':AH}{i:Zc}(hr:sB fm m H f=r)(hb:r≠.bad)(e:m H=.exc i H'):fm.tn=false∧r=.ex i H':=by
 unfold sB at hr
 rw[e]at hr
 cases q:fm.tn with
 |false=>rw[q]at hr;exact⟨rfl,hr.symm⟩
 |true=>rw[q]at hr;exact Y8 hr.symm hb
theorem St.e{α β:Type}{V:Wd→α→β→Prop}{m:AM α}{f:α→AH→SR}{t:Sem β}(a:Sa cx X fm W)(x:bh X.c V W (m W.H) t)(hr:sB fm m W.H f=r)(hb:r≠.bad){Q:β→Zs→Prop}(y:∀(W':Wd)(v:α)(b:β),Sa cx X fm W'→Le W W'→V W' v b→f v W'.H=r→Q b W'.s):wpAny T.M X.c.A t Q (hJ X r) W.s:=
 Y9 (x (rE hr hb)) (λb s z=>aS.casesOn (motive:=λs _=>Q b s) z λW' v e le vv=>y W' v _ (a.le le) le vv (ug hr e)) λe s z=>cV.casesOn (motive:=λe s _=>hJ X r e s) z λW' i p q le ep fl=>
  have z:=Ib hr hb q
  have f:=a.f.step le
  .mk W' i p z.2 ((a.lo.le le).im λ_=>z.1) ep (fl.lower λ_=>a.lo.st.gone) f.ju f.ns
theorem H6{v:AV}{H:AH}(hr:nz fm v H=r)(hb:r≠.bad):fm.tn=false∧r=.rt v H:=by
 unfold nz at hr
 cases q:fm.tn with
 |false=>rw[q]at hr;exact⟨rfl,hr.symm⟩
 |true=>rw[q]at hr;exact Y8 hr.symm hb
variable{c:bc}
theorem aiV{e:PE}{p:Pos}{m:Zh→Fm→AM AV}(nc:∀env,swapsWith e none p.line env=pure false)(j:aP n cx e m):eJ n cx (.Expr e p) (λev fm h=>sB fm (m ev.hd fm) h λ_ h=>.nx fm h):=λ{X fm W} g a{r} hr hb=>
 Qh (St.e a (j (a.gd g)) (g.hd▸hr) hb λW' v b a' _ _ hr=>.nx fm W' hr.symm a') (by unfold interactive;rw[a.f.st.kind];rfl) (nc _)
theorem ai0{p:Pos}:eJ n cx (.Pass p) (λ_ fm h=>.nx fm h):=λ{X fm W} g a{r} hr hb=>Zg (Yw (Zq (.nx fm W hr.symm a)))
theorem ai3{p:Pos}:eJ n cx (.Return none p) (λ_ fm h=>nz fm .none h):=λ{X fm W} g a{r} hr hb=>
 have z:=H6 hr hb
 wpAny_Return_none (.rt .none .none W z.2 (a.lo.im λ_=>z.1) rfl)
theorem ai2{e:PE}{p:Pos}{m:Zh→Fm→AM AV}(j:aP n cx e m):eJ n cx (.Return (some e) p) (λev fm h=>sB fm (m ev.hd fm) h λv h=>nz fm v h):=λ{X fm W} g a{r} hr hb=>
 wpAny_Return_some (St.e a (j (a.gd g)) (g.hd▸hr) hb λW' v u a' _ rv hr=>
  have z:=H6 hr hb
  .rt v u W' z.2 (a'.lo.im λ_=>z.1) rv)
theorem aiZ{q:PE}{x y:Zb Stmt}{p:Pos}{mq:Zh→Fm→AM AV}{mx my:Ev→SM}(jq:gJ n cx q mq)(jx:fC n cx x mx)(jy:fC n cx y my):eJ n cx (.If q x y p) (λev fm h=>sB fm (mq ev.hd fm) h λv h=>aa (bK v) .bad λb=>Zp (my ev fm h) (mx ev fm h) b):=λ{X fm W} g a{r} hr hb=>
 wpAny_If (St.e (f:=λv h=>aa (bK v) .bad λb=>Zp (my X.ev fm h) (mx X.ev fm h) b) a (jq (a.gd g)) (g.hd▸hr) hb λW' v b a' _ rv hr=>by
  rw[show v=.bool b from rv]at hr
  cases b with
  |true=>exact jx g a' hr hb
  |false=>exact jy g a' hr hb)
theorem aiT:fC n cx [] (λ_ fm h=>.nx fm h):=λ{X fm W} g a{r} hr hb=>Ud (.nx fm W hr.symm a)
theorem aiQ{st:Stmt}{ss:Zb Stmt}{m ms:Ev→SM}(j:eJ n cx st m)(js:fC n cx ss ms):fC n cx (st::ss) (λev fm h=>SR.rec (λfm h=>ms ev fm h) .rt .ex .bad (m ev fm h)):=λ{X fm W} g a{r} hr hb=>by
 have hr:SR.rec (motive:=λ_=>SR) (λfm h=>ms X.ev fm h) .rt .ex .bad (m X.ev fm W.H)=r:=hr
 have nb:m X.ev fm W.H≠.bad:=λq=>hb (by rw[←hr,q])
 refine wpAny_execs_cons (Y9 (j g a rfl nb) (λfl s z=>?_) λe s z=>?_)
 ·cases z with
  |nx fm' W' e a'=>rw[e]at hr;exact js g a' hr hb
  |rt v u W' e lo rv=>rw[e]at hr;exact .rt v u W' hr.symm lo rv
 ·cases z with
  |mk W' i p q lo ep fl fr ns=>rw[q]at hr;exact .mk W' i p hr.symm lo ep fl fr ns
theorem aiR{ss:Zb Stmt}{m ms:Ev→SM}(j:∀{X:Sx}{fm:Fm}{W:Wd},i7 n X→Sa cx X fm W→∀{r:SR},m X.ev fm W.H=r→r≠.bad→∃fm' W',r=.nx fm' W'.H∧W'.s=W.s∧Sa cx X fm' W')(js:fC n cx ss ms):fC n cx ss (λev fm h=>SR.rec (λfm h=>ms ev fm h) .rt .ex .bad (m ev fm h)):=λ{X fm W} g a{r} hr hb=>by
 have hr:SR.rec (motive:=λ_=>SR) (λfm h=>ms X.ev fm h) .rt .ex .bad (m X.ev fm W.H)=r:=hr
 have nb:m X.ev fm W.H≠.bad:=λq=>hb (by rw[←hr,q])
 obtain⟨fm',W',e,es,a'⟩:=j g a rfl nb
 rw[e]at hr
 exact es▸js g a' hr hb
end
end Mine
namespace Mine
theorem Kj{Y:Ly}{i:Zc}{q:Zj×Zd Zj}{b:Zj}:(Y.at_ i q).foot b→Y.foot b∨bV q b:=λz=>z.casesOn λ{j u} e f=>(Xx (j=i)).elim (λz=>by
 subst z
 rw[iE]at e
 exact .inr (Za e▸f)) λz=>.inl (.mk ((gY z).symm.trans e) f)
structure Jf(K:Prop)(own:Zj→Prop)(W0 W W':Wd)(a:Zj)(o:AO):Prop where
 s:W'.s=W.s
 H:W'.H=W.H.push o
 at_:W'.Y.ρ W.H.size=some (a,none)
 m:cO W.Y W.h W'.Y W'.h
 lo:Lo K own W0 W'
 ft:∀b,W'.Y.foot b→W.Y.foot b∨b=a
 mu:∀b,W.Y.Mu b→W'.Y.Mu b
 ar:W'.Y.ar=W.Y.ar
theorem Lo.adopt{K:Prop}{own:Zj→Prop}{W0 W:Wd}{a:Zj}{o:AO}(x:Lo K own W0 W)(off:Off W.Y a)(f0:W0.h.get? a=none)(na:¬own a)(ro:∀Y',cO W.Y W.h Y' W.h→RO Y' W.h (a,none) o):∃W',Jf K own W0 W W' a o:=by
 have no:∀p,W.Y.ρ W.H.size=some p→False:=λp e=>S3 _ ((W.R.len _).mpr ⟨p,e⟩)
 have ne:∀{j p},W.Y.ρ j=some p→j≠W.H.size:=λe q=>no _ (q▸e)
 have m:cO W.Y W.h (W.Y.at_ W.H.size (a,none)) W.h:=⟨rfl,λj p e=>⟨p.2,(gY (ne e)).trans e⟩,λb ob f=>⟨f.g,λq=>q.elim f.n λq=>f.n (jX q▸off.mu)⟩⟩
 have fo:∀{b},(W.Y.at_ W.H.size (a,none)).foot b→W.Y.foot b∨b=a:=λz=>(Kj z).imp id jX
 have R:Rep (W.Y.at_ W.H.size (a,none)) (W.H.push o) W.h:={
  len:=λj=>Nat.lt_succ_iff_lt_or_eq.trans ((Xx (j=W.H.size)).elim (λz=>⟨λ_=>⟨(a,none),z.symm▸iE W.Y W.H.size (a,none)⟩,λ_=>.inr z⟩) λz=>by rw[gY z];exact⟨λw=>(W.R.len j).mp (w.resolve_right z),λw=>.inl ((W.R.len j).mpr w)⟩)
  dg:=W.R.dg.push
  obj:=λj oj u ej eu=>(Xx (j=W.H.size)).elim (λz=>by
   subst z
   exact Za ((iE ..).symm.trans eu)▸Za ((W.R.dg.self _ (Yg _)).symm.trans ej)▸ro _ m) λz=>(W.R.obj j oj u ((W.R.dg.ne _ (Yg _) j z).symm.trans ej) ((gY z).symm.trans eu)).mono m λb _ ob e=>e
  inj:=λ{j1 j2 p1 p2 b} e1 e2 f1 f2=>by
   have fr:∀{j p},j≠W.H.size→(W.Y.at_ W.H.size (a,none)).ρ j=some p→bV p b→bV (a,none) b→False:=λn e f f'=>off.ft (jX f'▸.mk ((gY n).symm.trans e) f)
   by_cases z1:j1=W.H.size
   ·by_cases z2:j2=W.H.size
    ·exact z1.trans z2.symm
    ·subst z1;exact(fr z2 e2 f2 (Za ((iE ..).symm.trans e1)▸f1)).elim
   ·by_cases z2:j2=W.H.size
    ·subst z2;exact(fr z1 e1 f1 (Za ((iE ..).symm.trans e2)▸f2)).elim
    ·exact W.R.inj ((gY z1).symm.trans e1) ((gY z2).symm.trans e2) f1 f2
  sub:=λb hb=>.inl ((fo hb).elim (W.R.sub b) λq=>q▸off.mu)
  apart:=λb hb q=>(fo hb).elim (λz=>W.R.apart b z q) λz=>off.fr (z▸q)
  eg:=λb hb=>.inl (W.R.eg b hb)
  new:=λb hb=>W.R.new b (hb.elim id λq=>jX q▸off.mu)
  there:=λb hb=>W.R.there b (hb.elim id λq=>jX q▸off.mu)
  base:=W.R.base}
 refine⟨⟨W.Y.at_ W.H.size (a,none),W.s,W.H.push o,R⟩,rfl,rfl,iE ..,m,{st:=?_,t:=x.t,re:=x.re,pv:=λb q=>⟨.inl (x.pv b q).1,λz=>(fo z).elim (x.pv b q).2 λz=>na (z▸q)⟩},λb=>fo,λb=>.inl,rfl⟩
 exact{
  τ:=rfl
  ar:=x.st.ar
  ids:=λj p e=>(x.st.ids j p e).elim λq z=>⟨q,(gY (ne z.1)).trans z.1,z.2⟩
  mu:=λb q=>.inl (x.st.mu b q)
  fX:=λb q=>q.elim (x.st.fX b) λq=>.inr (jX q▸f0)
  ft:=λb q=>(fo q).elim (x.st.ft b) λq=>.inr (q▸f0)
  keep:=x.st.keep
  dy:=x.st.dy
  c7:=x.st.c7
  ow:=x.st.ow}
inductive Jl(K:Prop)(own:Zj→Prop)(W0 W:Wd)(cs:Zb Zj)(ids:Zb Zc)(W':Wd):Prop
 |mk(s:W'.s=W.s)(m:cO W.Y W.h W'.Y W'.h)(lo:Lo K own W0 W')(ar:W'.Y.ar=W.Y.ar)(at_:∀(j:Zc)(c:Zj),cs[j]?=some c→∃i q,ids[j]?=some i∧W'.Y.ρ i=some (c,q))(len:ids.length=cs.length)
theorem Lq{K:Prop}{own:Zj→Prop}{W0:Wd}{args:Zb AV}{l:Zb (Zd Zc)}:∀{cs:Zb Zj}{W:Wd},Lo K own W0 W→cs.length=l.length→(∀c∈cs,Off W.Y c∧W0.h.get? c=none∧¬own c)→cs.Nodup→
  (∀(j:Zc)(o:Zd Zc)(c:Zj),l[j]?=some o→cs[j]?=some c→∃ob u,W.h.get? c=some ob∧ob.data=.cell u∧fB W.Y W.h (aq o (aB args)) u)→∃ids W',uU args l W.H=.ok ids W'.H∧Jl K own W0 W cs ids W':=by
 induction l with
 |nil=>
  intro cs W lo hl _ _ _
  cases cs with
  |cons _ _=>exact nomatch hl
  |nil=>exact⟨[],W,rfl,.mk rfl (.refl ..) lo rfl (λ_ _ z=>nomatch z) rfl⟩
 |cons o l ih=>
  intro cs W lo hl off nd hc
  cases cs with
  |nil=>exact nomatch hl
  |cons c cs=>
   have nd:=List.nodup_cons.mp nd
   obtain⟨oc,c0,nc⟩:=off c (.head _)
   obtain⟨ob,u,e1,e2,e3⟩:=hc 0 o c rfl rfl
   obtain⟨W1,a1⟩:=lo.adopt (o:=.cell (aq o (aB args))) oc c0 nc λY' m=>lg.mk rfl e1 e2 (e3.mono m)
   have h1:W1.h=W.h:=Ze Sr a1.s
   obtain⟨ids,W2,e4,s,m,oG,fr,at_,len⟩:=ih (cs:=cs) a1.lo (Uh hl) (λd hd=>
    have z:=off d (.tail _ hd)
    ⟨⟨a1.mu d z.1.mu,λq=>(a1.ft d q).elim z.1.ft λq=>nd.1 (q▸hd),a1.ar▸z.1.fr⟩,z.2⟩) nd.2 λj o' d x y=>by
    obtain⟨ob,u,a,b,r⟩:=hc (j+1) o' d x y
    exact⟨ob,u,h1▸a,b,r.mono a1.m⟩
   refine⟨W.H.size::ids,W2,?_,.mk (s.trans a1.s) (a1.m.trans m) oG (fr.trans a1.ar) (λj d x=>?_) (Ze (·+1) len)⟩
   ·show AM.bind (uU args l) (λr=>AM.pure (W.H.size::r)) (W.H.push (.cell (aq o (aB args))))=_
    rw[←a1.H,gf e4];rfl
   ·cases j with
    |zero=>exact(m.ids _ _ a1.at_).elim λq z=>⟨W.H.size,q,rfl,Za x▸z⟩
    |succ j=>exact at_ j d x
theorem YM{α:Type}{ns:Zb Str}{x:Str}:∀{vs:Zb α},(ns.zip vs).lookup x=aq (ns.findIdx? (·==x)) λj=>vs[j]?:=by
 induction ns with
 |nil=>exact rfl
 |cons n ns ih=>
  intro vs
  rw[List.findIdx?_cons]
  cases vs with
  |nil=>cases h:(if(n==x)=true then some 0 else P6 (λi=>i+1) (List.findIdx? (·==x) ns))<;>rfl
  |cons v vs=>
   rw[Wj,Yl]
   by_cases q:n=x
   ·rw[q,Xs];rfl
   ·rw[beq_eq_false_iff_ne.mpr (Ve q),if_neg (tR (beq_eq_false_iff_ne.mpr q)),ih]
    cases List.findIdx? (·==x) ns<;>rfl
theorem Vs.opt{Y:Ly}{h:Yc}{xs:Zb AV}:∀{vs:Zb Zf}(j:Zc),Vs Y h xs vs→fB Y h (aB xs j) vs[j]?:=by
 induction xs with
 |nil=>exactλj r=>by rw[r.kP];exact rfl
 |cons x xs ih=>
  intro vs j r
  obtain⟨rfl,a,b⟩:=r.inv
  exact Vc (motive:=λj=>fB Y h (aB (x::xs) j) (_::_)[j]?) j ⟨_,rfl,a⟩ λj=>ih j b
theorem Ck{Y:Ly}{h:Yc}{args:Zb AV}{vs:Zb Zf}{ns:Zb Str}{x:Str}(r:Vs Y h args vs):fB Y h (aq (ns.findIdx? (·==x)) (aB args)) ((ns.zip vs).lookup x):=by
 rw[YM]
 cases ns.findIdx? (·==x)with
 |none=>exact rfl
 |some j=>exact r.opt j
theorem GC{α:Type}{l:Zb (Str×α)}{x:Str}(h:x∉l.map (·.1)):l.lookup x=none:=by
 induction l with
 |nil=>rfl
 |cons p l ih=>
  rw[Yl,beq_eq_false_iff_ne.mpr λq:x=p.1=>h (q▸.head _)]
  exact ih λq=>h (.tail _ q)
theorem Ab{α:Type}{o:Zd α}:o.or none=o:=by cases o<;>rfl
theorem Dl{kindOf:Str→Zd X5}{x:Str}{binds:Zb (Str×Zf)}:∀{m:Str→Zd Zf},(binds.map (·.1)).Nodup→(kindOf x=some .local→bindL kindOf binds m x=(binds.lookup x).or (m x))∧(kindOf x≠some .local→bindC kindOf binds m x=(binds.lookup x).or (m x)):=by
 induction binds with
 |nil=>exactλ_=>⟨λ_=>rfl,λ_=>rfl⟩
 |cons p r ih=>
  obtain⟨n,v⟩:=p
  intro m nd
  have nd:=List.nodup_cons.mp nd
  rw[Yl]
  by_cases q:x=n
  ·subst q
   have z:r.lookup x=none:=GC nd.1
   rw[Xs]
   refine⟨λhk=>?_,λhk=>?_⟩
   ·unfold bindL
    rw[(ih nd.2).1 hk,z,if_pos hk]
    exact if_pos rfl
   ·unfold bindC
    rw[(ih nd.2).2 hk,z,if_neg hk]
    exact if_pos rfl
  ·rw[beq_eq_false_iff_ne.mpr q]
   refine⟨λhk=>?_,λhk=>?_⟩
   ·unfold bindL
    rw[(ih nd.2).1 hk]
    refine Ze _ ?_
    split
    ·exact if_neg q
    ·rfl
   ·unfold bindC
    rw[(ih nd.2).2 hk]
    refine Ze _ ?_
    split
    ·rfl
    ·exact if_neg q
theorem YN{α:Type}{a b:Zb (Str×α)}{x:Str}:(a++b).lookup x=(a.lookup x).or (b.lookup x):=by
 induction a with
 |nil=>rfl
 |cons p a ih=>
  rw[So,Yl,Yl]
  cases x==p.1 with
  |true=>rfl
  |false=>exact ih
theorem YO{l:Zb (Str×Zf)}{x:Str}(nd:(l.map (·.1)).Nodup):l.reverse.lookup x=l.lookup x:=by
 induction l with
 |nil=>rfl
 |cons p r ih=>
  have nd:=List.nodup_cons.mp nd
  rw[Uv,YN,ih nd.2,Yl,Yl]
  by_cases q:x=p.1
  ·rw[GC (q▸nd.1),q,Xs];rfl
  ·rw[beq_eq_false_iff_ne.mpr q];exact Ab
theorem SG{l:Zb (Str×X5)}{x:Str}{k:X5}{n:Zc}{acc:Zb (Str×Zj)}(h:x∉cellsOf l):(cellsFrom n l acc).lookup x=acc.lookup x:=by
 induction l generalizing n acc with
 |nil=>rfl
 |cons p r ih=>
  obtain⟨z,k⟩:=p
  unfold cellsFrom
  by_cases hk:(k==Rh)=true
  ·have hf:cellsOf ((z,k)::r)=z::cellsOf r:=by unfold cellsOf;rw[T6 (p:=λp:Str×X5=>p.2==.cell) hk];rfl
   rw[hf]at h
   rw[if_pos hk,ih λq=>h (.tail _ q),Yl,beq_eq_false_iff_ne.mpr λq:x=z=>h (q▸.head _)]
  ·have hf:cellsOf ((z,k)::r)=cellsOf r:=by unfold cellsOf;rw[T7 (p:=λp:Str×X5=>p.2==.cell) hk]
   rw[hf]at h
   rw[if_neg hk];exact ih h
theorem Dp{l:Zb (Str×X5)}:∀{n:Zc}{acc:Zb (Str×Zj)},(cellsOf l).Nodup→∀(j:Zc)(x:Str),(cellsOf l)[j]?=some x→(cellsFrom n l acc).lookup x=some (n+j):=by
 induction l with
 |nil=>exactλ_ _ _ e=>nomatch e
 |cons p r ih=>
  obtain⟨z,k⟩:=p
  intro n acc nd j x e
  unfold cellsFrom
  by_cases hk:(k==Rh)=true
  ·have hf:cellsOf ((z,k)::r)=z::cellsOf r:=by unfold cellsOf;rw[T6 (p:=λp:Str×X5=>p.2==.cell) hk];rfl
   rw[hf]at nd e
   have nd:=List.nodup_cons.mp nd
   rw[if_pos hk]
   cases j with
   |zero=>
    have e:z=x:=Za e
    subst e
    rw[SG (k:=k) nd.1,Yl,Xs];rfl
   |succ j=>rw[ih nd.2 j x e];exact Ze some (Vq n j)
  ·have hf:cellsOf ((z,k)::r)=cellsOf r:=by unfold cellsOf;rw[T7 (p:=λp:Str×X5=>p.2==.cell) hk]
   rw[hf]at nd e
   rw[if_neg hk];exact ih nd j x e
theorem zt{l:Zb (Str×X5)}{k:X5}{x:Str}(h:x∈(l.filter λp=>p.2==k).map (·.1)):(x,k)∈l:=(List.mem_map.mp h).elim λp z=>by
 obtain⟨y,j⟩:=p
 have w:=List.mem_filter.mp z.1
 rw[←show y=x from z.2,←show j=k from eq_of_beq w.2];exact w.1
structure o6(n:Zc)(f:aw)(fs:fN)(nd:Zc)(l:Zb Arg)(dx:Zb PE)(ls:Zb Str)(P:Zd Str)(mb:Ev→SM):Prop where
 par:fs.params=⟨[],l,none,[],[],none,dx⟩
 nodup:(l.map (·.arg)).Nodup
 np:f.np=l.length
 nd_:nd≤l.length
 kind:fs.scope.kind=.function
 co:fs.scope.isCoroutine=false
 gen:fs.scope.isGenerator=false
 look:∀p∈fs.scope.names,fs.scope.names.lookup p.1=some p.2
 aco:∀x∈l.map (·.arg),fs.scope.names.lookup x=some .local∨fs.scope.names.lookup x=some .cell
 ZD:ls.Nodup
 GF:∀x∈ls,fs.scope.names.lookup x=some .local
 Dq:(cellsOf fs.scope.names).Nodup
 one:cellsOf fs.scope.names=[]∨bZ fs.scope.names=[]
 locs:f.locs=ls.map (λx=>(l.map (·.arg)).findIdx? (·==x))
 e9:f.e9=(cellsOf fs.scope.names).map (λx=>(l.map (·.arg)).findIdx? (·==x))
 body:fC n ⟨ls,cellsOf fs.scope.names++bZ fs.scope.names,fs.scope.names,P⟩ fs.body mb
structure xh(fs:fN)(code:Zf)(binds:Zb (Str×Zf))(h:Yc)(cells:Zb (Str×Zj))(env:Env)(h1:Yc):Prop where
 code:env.code=code
 qual:env.qual=fs.qual++".<locals>."
 scope:env.scope=fs.scope
 locals:env.locals=h.objs.size
 globals:env.globals=Wp
 builtins:env.builtins=builtinsNs
 frame:env.frame=some h.objs.size
 keep:∀(b:Zj)(o:Obj),h.get? b=some o→h1.get? b=some o
 ns:∃m,h1.Ns h.objs.size m∧∀x,fs.scope.names.lookup x=some .local→m x=binds.lookup x
 da:∀(j:Zc)(x:Str),(cellsOf fs.scope.names)[j]?=some x→env.cells.lookup x=some (h.objs.size+1+j)∧h1.IsCell (h.objs.size+1+j) (binds.lookup x)
 SD:∀(x:Str)(c:Zj),x∈bZ fs.scope.names→cells.lookup x=some c→env.cells.lookup x=some c
theorem NV{n:Zc}{f:aw}{fs:fN}{nd:Zc}{l:Zb Arg}{dx:Zb PE}{ls:Zb Str}{P:Zd Str}{mb:Ev→SM}(rel:o6 n f fs nd l dx ls P mb){M:Model}{A:Yu}{s:Zs}{vals:Zb Zf}{cells:Zb (Str×Zj)}(hz:cells=[]∨cellsOf fs.scope.names=[]){fn:Zd Zj}{code:Zf}
  {Q:Env→Zs→Prop}{E:Zf→Zs→Prop}(hl:l.length=vals.length)(h:∀env h1 tk,xh fs code ((l.map (·.arg)).zip vals) s.heap cells env h1→Q env {s with heap:=h1,toks:=tk}):
  wpAny M A (newFunctionEnv fs.scope Wp cells ((l.map (·.arg)).zip vals) (fs.qual++".<locals>.") fn code none builtinsNs) Q E s:=by
 have zG:(((l.map (·.arg)).zip vals).map (·.1)).Nodup:=by
  rw[List.map_fst_zip (by rw[Yi];exact Xb hl)];exact rel.nodup
 have FT:∀x∈(l.map (·.arg)).zip vals,fs.scope.names.lookup x.1=some .local∨fs.scope.names.lookup x.1=some .cell:=λx hx=>rel.aco x.1 (List.of_mem_zip hx).1
 by_cases z:cellsOf fs.scope.names=[]
 ·have nc:∀x∈fs.scope.names,x.2≠.cell:=λx hx q=>by
   have w:x.1∈cellsOf fs.scope.names:=Vn (List.mem_filter.mpr ⟨hx,by rw[q];rfl⟩)
   rw[z]at w;exact nomatch w
  refine Qb nc (λx hx=>(FT x hx).resolve_right λq=>nc _ (mem_of_lookup q) rfl) (λh1 ns sb=>?_) rel.kind
  exact h _ _ _ ⟨rfl,rfl,rfl,rfl,rfl,rfl,rfl,λb o e=>sb.extBut b o (V1 (V4 e)) (Zv _ e),⟨_,ns,λx _=>YO zG⟩,(λj x e=>by rw[z]at e;exact nomatch e),λx c _ e=>e⟩
 ·have hc:cells=[]:=hz.resolve_right z
  subst hc
  refine wpAny_newFunctionEnv_cells rel.kind (λx hx=>(FT x hx).imp id λq=>⟨q,?_⟩) λenv he s' x=>?_
  ·obtain⟨j,e⟩:=List.mem_iff_getElem?.mp (show x.1∈cellsOf fs.scope.names from Vn (f:=(·.1)) (List.mem_filter.mpr ⟨mem_of_lookup q,rfl⟩))
   rw[Dp rel.Dq j _ e];rfl
  ·subst he
   obtain⟨h1,tk,rfl,_⟩:=x.done
   have RP:bZ fs.scope.names=[]:=rel.one.resolve_left z
   refine h _ _ _ ⟨rfl,rfl,rfl,rfl,rfl,rfl,rfl,x.toInCall.keep,⟨_,x.toInCall.ns,λy hy=>((Dl zG).1 hy).trans Ab⟩,λj y e=>?_,λy c hy _=>by rw[RP]at hy;exact nomatch hy⟩
   have lk:=Dp (n:=s.heap.objs.size+1) (acc:=[]) rel.Dq j y e
   refine⟨lk,?_⟩
   have w:=x.cell y _ lk
   rw[(Dl zG).2 (by
    show fs.scope.names.lookup y≠_
    rw[rel.look _ (zt (k:=.cell) (Yr e))];exactλq=>nomatch q)]at w
   exact Ab (o:=((l.map (·.arg)).zip vals).lookup y)▸w
end Mine
namespace Mine
section
variable{K:Prop}{own own':Zj→Prop}{W0 W:Wd}
theorem Lo.less(x:Lo K own W0 W)(k:∀a,own' a→own a)(f:∀a,own a→¬own' a→W0.h.get? a=none∧¬W.Y.ar a):Lo K own' W0 W:=
 have no:∀{a o},¬own' a→W0.h.get? a=some o→¬own a:=λn e q=>iX (f _ q n).1 e
 have nf:∀{a},¬own' a→W0.Y.ar a→¬own a:=λn q=>(W0.R.there _ (W0.R.eg _ q)).elim λ_ e=>no n e
 {st:={x.st with
   ar:=λa n=>(V5 (own a)).elim (λq=>⟨λz=>Y8 z (f a q n).2,λz=>Y8 q (nf n z)⟩) (x.st.ar a)
   keep:=λa o n ft fr e=>x.st.keep a o (no n e) ft fr e
   dy:=λa n fr=>x.st.dy a (nf n fr) fr
   ow:=λa q=>x.st.ow a (k a q)}
  t:=x.t
  re:=x.re
  pv:=λa q=>x.pv a (k a q)}
structure Left(W0 W W':Wd):Prop where
 s:W'.s=W.s
 H:W'.H=W.H
 ρ:W'.Y.ρ=W.Y.ρ
 m:cO W.Y W.h W'.Y W'.h
 le:Le W0 W'
 mu:∀a,W.Y.Mu a→W'.Y.Mu a
 fr:∀a,W'.Y.ar a→W.Y.ar a
theorem Lo.leave(x:Lo K own W0 W)(k:K)(f0:∀a,own a→W0.h.get? a=none):∃W',Left W0 W W':=
 have y:eW own W W.Y.Mu (λa=>W.Y.ar a∧¬own a) W.s:=⟨.refl _,λ_ _ _ e=>e,λ_ _=>.rfl,λa n=>Sg n,λa q=>(x.pv a q).2,λa q=>.inl (x.pv a q).1,λa _ m=>W.R.there a m,λa q z=>Y8 q z.2⟩
 have z:Lo K own W0 (W.pv y):=⟨⟨rfl,λa n=>(y.fr a n).trans (x.st.ar a n),x.st.ids,x.st.mu,x.st.fX,x.st.ft,x.st.keep,x.st.dy,x.st.c7,x.st.ow⟩,x.t,x.re,x.pv⟩
 ⟨W.pv y,rfl,rfl,rfl,y.mono,(z.less (own':=No) (λ_=>Xg) λa q _=>⟨f0 a q,λz=>z.2 q⟩).un k λ_=>id,λ_=>id,λ_ z=>z.1⟩
end
inductive nI(c:Cn)(W:Wd)(r:Res AV):Result→Zs→Prop
 |ok{v:Zf}{s:Zs}(z:aS VV W r v s):nI c W r (.ok (.ret v)) s
 |ex{e:Zf}{s:Zs}(z:cV c.envs W r e s):nI c W r (.error e) s
def EX(fs:fN)(ls:Zb Str)(P:Zd Str):aQ:=⟨ls,cellsOf fs.scope.names++bZ fs.scope.names,fs.scope.names,P⟩
section
variable{n:Zc}{f:aw}{fs:fN}{nd:Zc}{l:Zb Arg}{dx:Zb PE}{ls:Zb Str}{P:Zd Str}{code:Zf}{mb:Ev→SM}{W:Wd}{args:Zb AV}{vals:Zb Zf}{cells:Zb (Str×Zj)}{ids:Zb Zc}{env:Env}{h1:Yc}
theorem NW(rel:o6 n f fs nd l dx ls P mb)(hp:∀q,P=some q→code=.ref T.tc∧fs.qual++".<locals>."=q)(en:xh fs code ((l.map (·.arg)).zip vals) W.h cells env h1)(rv:W.Vs args vals)(ca:iJ W.Y (bZ fs.scope.names) ids cells){W2:Wd}(h2:W2.h=h1)(m:cO W.Y W.h W2.Y W2.h){mD:Zb Zc}(len:mD.length=(cellsOf fs.scope.names).length)
  (at_:∀(j:Zc)(x:Str),(cellsOf fs.scope.names)[j]?=some x→∃i q,mD[j]?=some i∧W2.Y.ρ i=some (W.h.objs.size+1+j,q))(fr:W2.Y.ar W.h.objs.size):gE (EX fs ls P) env ⟨ag (mR args) f.locs,aD mD ids,false⟩ W2.Y W2.h where
 st:={
  kind:=en.scope▸rel.kind
  pz:=en.globals
  blt:=en.builtins
  nm:=Ze Scope.names en.scope
  locs:=λi x e=>rel.GF x (Yr e)
  nd:=rel.ZD
  e9:=λj x e=>by
   have e:(cellsOf fs.scope.names++bZ fs.scope.names)[j]?=some x:=e
   have e:=List.mem_append.mp (Yr e)
   exact e.imp (λe=>rel.look _ (zt (k:=.cell) e)) λe=>rel.look _ (zt (k:=.free) e)
  at_:=by
   rw[en.code,en.qual];exact hp}
 e9 j x e:=by
  have e:(cellsOf fs.scope.names++bZ fs.scope.names)[j]?=some x:=e
  show A5 _ _ _ (aB (aD mD ids) j)
  rw[fY,mw]
  by_cases hj:j<(cellsOf fs.scope.names).length
  ·rw[Rc hj]at e
   rw[Rc (len.symm▸hj)]
   obtain⟨i,q,a,b⟩:=at_ j x e
   exact .mk (p:=(_,q)) a b (en.da j x e).1
  ·have hj:=Vg hj
   rw[R7 hj]at e
   rw[R7 (len.symm▸hj),len]
   obtain⟨i,p,a,b,d⟩:=ca _ x e
   obtain⟨q,b⟩:=m.ids i _ b
   exact .mk (p:=(_,q)) a b (en.SD x p.1 (Yr e) d)
 fr:=by
  obtain⟨mp,ns,hm⟩:=en.ns
  rw[en.locals]
  refine⟨mp,h2▸ns,λi x v e1 e2 e3=>?_⟩
  have e1:ls[i]?=some x:=e1
  have e2:aB (ag (mR args) f.locs) i=some v:=e2
  rw[fY,lJ,rel.locs,Sj,Xc,e1]at e2
  have e2:aa (aq ((l.map (·.arg)).findIdx? (·==x)) (aB args)) .any (λv=>v)=v:=Za e2
  rw[hm x (rel.GF x (Yr e1))]
  have z:=Ck (ns:=l.map (·.arg)) (x:=x) rv
  cases q:aq ((l.map (·.arg)).findIdx? (·==x)) (aB args)with
  |none=>rw[q]at e2;rw[←e2]at e3;exact aA e3.symm
  |some w=>
   rw[q]at e2 z
   obtain⟨u,a,b⟩:=(z:∃u,_=some u∧W.V w u)
   exact⟨u,a,V.mono m _ _ ((show w=v from e2)▸b)⟩
 ju:=en.locals▸fr
end
end Mine
namespace Mine
theorem Off.leave{W0 W W':Wd}(z:Left W0 W W'){a:Zj}(o:Off W.Y a):Off W'.Y a:=⟨z.mu a o.mu,λq=>o.ft (z.ρ▸q:xk W.Y.ρ a),λq=>o.fr (z.fr a q)⟩
theorem i4.leave{W0 W W':Wd}(z:Left W0 W W'){i:Zc}{lo:Yc}{envs:Zb Env}{e:Zj}(x:i4 W i lo envs e):i4 W' i lo envs e:=by
 have h:W'.h=W.h:=Ze Sr z.s
 obtain⟨a,b,oe,vs,c,d,f,g⟩:=x
 refine⟨z.H▸a,h▸b,oe,vs,h▸c,d,f,?_⟩
 cases g with
 |n e=>exact .n e
 |t e l o g d k=>exact .t e l (o.leave z) (h▸g) d k
section
variable{n:Zc}{f:aw}{fs:fN}{nd:Zc}{l:Zb Arg}{dx:Zb PE}{ls:Zb Str}{P:Zd Str}{code:Zf}{mb:Ev→SM}{W:Wd}{c:Cn}{args:Zb AV}{vals:Zb Zf}{cells:Zb (Str×Zj)}{ids:Zb Zc}{env:Env}{h1:Yc}{tk:Zc}{r:Res AV}
theorem Ky(rel:o6 n f fs nd l dx ls P mb)(hp:∀q,P=some q→code=.ref T.tc∧fs.qual++".<locals>."=q)(hn:c.n=n+1)(ao:eT c W.Y W.h)(rv:W.Vs args vals)(la:l.length=vals.length)(ca:iJ W.Y (bZ fs.scope.names) ids cells)(en:xh fs code ((l.map (·.arg)).zip vals) W.h cells env h1)
  (hr:AM.bind (uU args f.e9) (λcs h=>gQ (mb ⟨c.hd,W.H.size,[]⟩ ⟨ag (mR args) f.locs,aD cs ids,false⟩ h)) W.H=r)(hb:r≠.bad){R:Result→Zs→Prop}(hR:∀x s',nI c W r x s'→R x s'):codeAny T.M c.A (.func fs.body env) R {W.s with heap:=h1,toks:=tk}:=by
 obtain⟨m,ns,hm⟩:=en.ns
 let cs:Zb Zj:=(P8 (cellsOf fs.scope.names).length).map λj=>W.h.objs.size+1+j
 have x0:∀(j:Zc)(a:Zj),cs[j]?=some a→j<(cellsOf fs.scope.names).length∧a=W.h.objs.size+1+j:=λj a e=>by
  have e:((P8 (cellsOf fs.scope.names).length).map λj=>W.h.objs.size+1+j)[j]?=some a:=e
  rw[Xc]at e
  obtain⟨i,e1,e2⟩:=Option.map_eq_some_iff.mp e
  obtain⟨lt,e1⟩:=List.getElem?_eq_some_iff.mp e1
  rw[List.getElem_range]at e1
  exact⟨(by rw[Sk]at lt;exact lt),e2.symm.trans (Ze (W.h.objs.size+1+·) e1.symm)⟩
 have DM:∀a∈cs,∃(j:Zc)(x:Str),(cellsOf fs.scope.names)[j]?=some x∧a=W.h.objs.size+1+j:=λa ha=>(List.mem_iff_getElem?.mp ha).elim λj e=>⟨j,_,Ww (x0 j a e).1,(x0 j a e).2⟩
 have big:∀a∈cs,W.h.objs.size<a:=λa ha=>(DM a ha).elim λj z=>z.elim λx z=>z.2▸Xu (W.h.objs.size+1) j
 have fresh:∀a:Zj,(a=W.h.objs.size∨a∈cs)→W.h.get? a=none:=λa z=>(W.fresh (z.elim (λq=>Xb q.symm) λq=>Xi (big a q))).1
 have y:eW (λa=>a=W.h.objs.size∨a∈cs) W (λa=>W.Y.Mu a∨(a=W.h.objs.size∨a∈cs)) (λa=>W.Y.ar a∨a=W.h.objs.size) {W.s with heap:=h1,toks:=tk}:=.alloc ⟨rfl,rfl,rfl⟩ en.keep (λa z=>⟨fresh a z,z.elim (λq=>q▸ns.elim λo z=>z.elim λ_ z=>z.elim λ_ z=>⟨o,z.1⟩) λq=>by
  obtain⟨j,x,hx,e⟩:=DM a q
  obtain⟨o,ho,_⟩:=(en.da j x hx).2
  exact⟨o,e▸ho⟩⟩) λa=>.inl
 have lo1:Lo ((false:Zh)=false) (·=W.h.objs.size) W (W.pv y):=((Lo.refl W).alloc y fresh).less (λa q=>.inr (.inl q)) λa q nq=>by
  have hc:a∈cs:=q.elim Xg λq=>q.resolve_left nq
  exact⟨fresh a (.inr hc),λz=>z.elim (λz=>(W.R.there a (W.R.eg a z)).elim λ_ e=>iX (fresh a (.inr hc)) e) nq⟩
 have m1:=y.mono
 obtain⟨mD,W2,e1,s2,m2,oG,RS,at2,XZ⟩:=Lq (args:=args) (l:=f.e9) (cs:=cs) lo1 (by rw[rel.e9,Yi,Yi,Sk]) (λa ha=>⟨⟨.inr (.inr ha),λq=>(W.R.there a (W.R.sub a q)).elim λ_ e=>iX (fresh a (.inr ha)) e,λq=>q.elim (λq=>(W.R.there a (W.R.eg a q)).elim λ_ e=>iX (fresh a (.inr ha)) e) λq=>S3 _ (q▸big a ha)⟩,fresh a (.inr ha),λq=>S3 _ (q▸big a ha)⟩)
  (List.Pairwise.map _ (λa b(h:a≠b) q=>h (Nat.add_left_cancel q)) List.nodup_range) λj o a x1 x2=>by
   obtain⟨hj,q⟩:=x0 j a x2
   have hx:(cellsOf fs.scope.names)[j]?=some _:=Ww hj
   obtain⟨_,ob,ho,hd⟩:=en.da j _ hx
   rw[rel.e9,Xc,hx]at x1
   have z:=(Ck (ns:=l.map (·.arg)) (x:=(cellsOf fs.scope.names)[j]) rv).mono m1
   exact⟨ob,_,q▸ho,hd,Za x1▸z⟩
 have hr:=(gf (f:=λcs h=>gQ (mb ⟨c.hd,W.H.size,[]⟩ ⟨ag (mR args) f.locs,aD cs ids,false⟩ h)) e1).symm.trans hr
 have h2:W2.h=h1:=Ze Sr s2
 have f0:∀a,a=W.h.objs.size→W.h.get? a=none:=λa q=>fresh a (.inl q)
 have RU:W2.Y.ar W.h.objs.size:=RS▸.inr rfl
 have fr:=NW rel hp en rv ca h2 (m1.trans m2) (XZ.trans (by rw[Yi,Sk])) (λj x hx=>at2 j (W.h.objs.size+1+j) (by
  show((P8 (cellsOf fs.scope.names).length).map λj=>W.h.objs.size+1+j)[j]?=_
  rw[Xc,List.getElem?_range (List.getElem?_eq_some_iff.mp hx).1];rfl)) RU
 have JY:=ao.lo oG f0
 let X:Sx:=⟨⟨c.A.deeper env,env::c.envs,n,c.hd⟩,env,(·=W.h.objs.size),W,⟨c.hd,W.H.size,[]⟩,[],λ_ _=>False⟩
 have g:i7 n X:=⟨rfl,rfl,⟨_,rfl⟩,en.locals,f0,rfl⟩
 have UI:T.h0.get? env.locals=none:=by
  cases q:T.h0.get? env.locals with
  |none=>rfl
  |some o=>exact iX (f0 _ en.locals) (W.R.base _ o q)
 have kn:env.scope.kind≠.module:=by rw[en.scope,rel.kind];exact(λq=>nomatch q)
 have fun1:∀{Y:Ly}{h:Yc},Y.ar env.locals→(∃m,h.Ns env.locals m)→k9 Y h env:=λa b=>⟨kn,a,en.frame.trans (Ze some en.locals.symm),UI,b⟩
 have a:Sa (EX fs ls P) X ⟨ag (mR args) f.locs,aD mD ids,false⟩ W2:={
  a:={
   depth:=Zu (Xb (by show c.A.depth+1+8*n=c.A.depth+(1+8*n);exact Uz ..)) (Zu (Yp (by rw[hn,Ui,Vh];exact Yp (by decide) _) _) ao.depth)
   units:=Zu (Xb (by show c.A.units+3+40*n=c.A.units+(3+40*n);exact Uz ..)) (Zu (Yp (by rw[hn,Ui,Vh];exact Yp (by decide) _) _) ao.units)
   hand:=ao.hand
   stack:=Qq ao.stack
   iR:=λe he=>(List.mem_cons.mp he).elim (λq=>q▸fun1 fr.ju fr.ns) (JY.iR e)}
  f:=fr
  lo:=oG
  hv:=rfl
  a9:=Xg}
 have e2:{W.s with heap:=h1,toks:=tk}=W2.s:=s2.symm
 rw[e2]
 have nb:mb X.ev ⟨ag (mR args) f.locs,aD mD ids,false⟩ W2.H≠.bad:=λq=>hb (hr.symm.trans (by
  show gQ (mb X.ev ⟨ag (mR args) f.locs,aD mD ids,false⟩ W2.H)=_
  rw[q];rfl))
 have hr:gQ (mb X.ev ⟨ag (mR args) f.locs,aD mD ids,false⟩ W2.H)=r:=hr
 refine codeAny_func (Y9 (rel.body g a rfl nb) (λfl s' z=>hR _ _ ?_) λe s' z=>?_)
 ·cases z with
  |nx fm' W3 e a3=>
   rw[e]at hr
   have hr:(Zp (.ok .none W3.H) .bad fm'.tn:Res AV)=r:=hr
   cases q:fm'.tn with
   |true=>rw[q]at hr;exact Y8 hr.symm hb
   |false=>
    rw[q]at hr
    obtain⟨W4,z⟩:=a3.lo.leave q f0
    exact .ok (z.s▸.mk W4 .none (hr.symm.trans (z.H▸rfl)) z.le rfl)
  |rt v u W3 e lo rv=>
   rw[e]at hr
   obtain⟨W4,z⟩:=lo.leave trivial f0
   exact .ok (z.s▸.mk W4 v (hr.symm.trans (z.H▸rfl)) z.le (V.mono z.m _ _ rv))
 ·cases z with
  |mk W3 i p q lo ep fl RT ns3=>
   rw[q]at hr
   have JZ:=ao.lo lo f0
   unfold«leaving»
   refine Zg (Ha (Qq ao.stack) (λe he=>(List.mem_cons.mp he).elim (λq=>q▸fun1 RT ns3) (JZ.iR e)) lo ep fl λW4 n4=>hR _ _ ?_)
   obtain⟨W5,z⟩:=n4.lo.leave trivial f0
   exact .ex (z.s▸.mk W5 i p (hr.symm.trans (by rw[z.H,n4.H];rfl)) z.le ((congrFun (z.ρ.trans n4.ρ) i).trans ep) (n4.fl.leave z))
end
end Mine
namespace Mine
inductive rX(h:Yc)(a:Zj)(fs:fN)(cells:Zb (Str×Zj))(dvs:Zb Zf)(P:Zd Str):Prop
 |mk{fo:Obj}{dV kV doc pm ct:Zf}{an:Zd Zj}{mC:Zf}(g:h.get? a=some fo)(d:fo.data=.func (fnX fs.name fs.qual fs.params fs.body fs.scope cells dV kV doc pm an mC ct))(cr:h.CodeRec mC fs.qual)(hp:∀q,P=some q→mC=.ref T.tc∧fs.qual++".<locals>."=q)(df:(dV=.none∧dvs=[])∨∃t ob nn,dV=.ref t∧h.get? t=some ob∧ob.data=.seq dvs.toArray nn)
theorem J4{f:aw}{args xw:Zb AV}{P:Prop}(e:Cl f args=some xw)(k:args.length≤f.np→f.np≤args.length+f.hY.length→xw=args++f.hY.drop (f.hY.length-(f.np-args.length))→P):P:=bN e λg e=>bA g λg1 g2=>by
 have g1:=Zm g1
 have g2:=Zm g2
 rw[dH]at g1 g2
 rw[dH,dH,mw,Nz]at e
 exact k g1 (dH f.hY▸g2) (Za e).symm
section
variable{n:Zc}{f:aw}{fs:fN}{l:Zb Arg}{dx:Zb PE}{ls:Zb Str}{P:Zd Str}{mb:Ev→SM}{W:Wd}{c:Cn}{args:Zb AV}{us dvs:Zb Zf}{cells:Zb (Str×Zj)}{ids:Zb Zc}{a:Zj}{r:Res AV}
theorem E0(rel:o6 n f fs dvs.length l dx ls P mb)(hn:c.n=n+1)(ao:eT c W.Y W.h)(rv:W.Vs args us)(fa:rX W.h a fs cells dvs P)(rd:W.Vs f.hY dvs)(hz:cells=[]∨cellsOf fs.scope.names=[])(ca:iJ W.Y (bZ fs.scope.names) ids cells)
  (hr:qG mb c.hd f ids args W.H=r)(hb:r≠.bad):codeAny T.M c.A (.call (.ref a) ⟨us,[]⟩) (nI c W r) W.s:=oB hr hb λxw ha hr=>J4 ha λg1 g2 q=>by
 subst q
 obtain⟨a1,a2,a3,hp,a4⟩:=fa
 rw[rel.np,rv.len]at g1
 rw[rel.np,rv.len,rd.len]at g2
 have g3:=rel.nd_
 have ld:(l.map (·.arg)).length=l.length:=Yi ..
 have e1:f.hY.length-(f.np-args.length)=dvs.length-(l.length-us.length):=by rw[rd.len,rv.len,rel.np]
 have sb:l.length-us.length≤dvs.length:=Nat.sub_le_iff_le_add'.mpr g2
 have ta:=Th us.length (l.map (·.arg))
 have td:=Th (dvs.length-(l.length-us.length)) dvs
 have ea:((l.map (·.arg)).take us.length).length=us.length:=by rw[U7,ld];exact Nat.min_eq_left g1
 have eb:((l.map (·.arg)).drop us.length).length=(dvs.drop (dvs.length-(l.length-us.length))).length:=by rw[U8,U8,ld];exact(Sn sb).symm
 have bt:∀{dV kV doc pm ct:Zf}{an:Zd Zj}{mC:Zf},((dV=.none∧dvs=[])∨∃t ob nn,dV=.ref t∧W.h.get? t=some ob∧ob.data=.seq dvs.toArray nn)→
   BindsTo W.s (fnX fs.name fs.qual fs.params fs.body fs.scope cells dV kV doc pm an mC ct) ⟨us,[]⟩ ((l.map (·.arg)).zip (us++dvs.drop (dvs.length-(l.length-us.length)))):=λ{dV kV doc pm ct an mC} df=>by
  have b:=λ{o}=>Kv (o:=o) (fd:=fnX fs.name fs.qual fs.params fs.body fs.scope cells dV kV doc pm an mC ct) rel.par ta.symm (ta.symm▸rel.nodup) ea eb (d1:=dvs.take (dvs.length-(l.length-us.length))) (by
   rw[U7,ea]
   exact Zu (Sw ..) (Nat.sub_le_iff_le_add.mpr (Zu g3 (by rw[Vl g1];exact Yg _)))) (s:=W.s)
  rw[ta]at b
  rcases df with⟨q,z⟩|⟨t,ob,nn,q,b2,b3⟩
  ·exact b (o:=none) (td.trans z).symm λM A E Q h=>by rw[show(fnX fs.name fs.qual fs.params fs.body fs.scope cells dV kV doc pm an mC ct).defaults=Xa from q];exact Zq h
  ·exact b (o:=some dvs.toArray) td.symm λM A E Q h=>by rw[show(fnX fs.name fs.qual fs.params fs.body fs.scope cells dV kV doc pm an mC ct).defaults=X3 t from q];exact wpAny_seqItems b2 b3 h
 refine codeAny_call_function (Yy (V2 ao.depth) (by decide)) a1 a2 rel.co rel.gen rfl a3 (bt a4 _ _ _ _ ?_)
 have la:l.length=(us++dvs.drop (dvs.length-(l.length-us.length))).length:=by
  rw[Yk,←eb,U8,ld];exact(Vl g1).symm
 exact NV rel hz la λenv h1 tk en=>⟨(O.G8.keeps W.R.base).keeps en.keep,Ky rel hp hn ao (Vs.app (e1▸rd.drop _) rv) la ca en hr hb λ_ _=>id⟩
end
end Mine
namespace Mine
theorem ajL(C:Zj)(rest:Zb Zf)(kw:Zb (Str×Zf)):(Ul "type.__call__" ⟨.ref C::rest,kw⟩).weight=1:=by kernel_rfl
theorem ajK(a:Args):(Ul "type.__call__" a).cUnits=1:=by kernel_rfl
theorem ajJ(a:Args):(Ul "type.__call__" a).envs=[]:=by kernel_rfl
structure nK(h:Yc)(C:Zj):Prop where
 obj:∃nm q N bs bm lE sn sub ab col dd k0 k1 k2 k3 k5,h.get? C=some (excClassObj nm q C N bs bm lE sn sub ab col dd k0 k1 k2 k3 k5 "ValueError.__new__")∧bm.contains (.type "ValueError")=true∧bm.contains (.type "AttributeError")=false∧bm.contains (.type "NameError")=false
theorem nK.keeps{h h':Yc}{C:Zj}(x:nK h C)(k:∀(b:Zj)(o:Obj),h.get? b=some o→h'.get? b=some o):nK h' C:=by
 obtain⟨nm,q,N,bs,bm,lE,sn,sub,ab,col,dd,k0,k1,k2,k3,k5,e,t⟩:=x.obj
 exact⟨nm,q,N,bs,bm,lE,sn,sub,ab,col,dd,k0,k1,k2,k3,k5,k _ _ e,t⟩
section
variable{prog:Program}{w:Yo}{A:Yu}{C:Zj}{R:Result→Zs→Prop}{h:Yc}{g:X9 GenState}{d:Drawn}{t:Zc}{os:Ye}
noncomputable abbrev n6(C tp:Zj):Obj:={cls:=.ref C,data:=.fields #[.ref tp,.none,.none,.none,.bool false,.none]}
section
variable{nm q:Str}{N:Zj}{bs bm:Zb Zf}{lE:Zh}{sn:Zb Str}{sub:Zb Zf}{ab:Zh}{col:Zd Zh}{dd:Zd Zj}{k0 k1 k2 k3 k5:Zd Zf}
theorem N4{M:Model}{E:Zf→Zs→Prop}{rest:Zb Zf}{Q:Unit→Zs→Prop}(hC:h.get? C=some (excClassObj nm q C N bs bm lE sn sub ab col dd k0 k1 k2 k3 k5 "ValueError.__new__"))(h1:bm.contains (.type "ValueError")=true)
  (hq:Q () ⟨h,g,d,t,os⟩):wpAny M A (checkBuiltinCall "ValueError.__new__" ⟨.ref C::rest,[]⟩) Q E ⟨h,g,d,t,os⟩:=by
 have F:=Wg
 have has:(X3 C::bm).contains (.type "ValueError")=true:=by rw[V3,h1,Te]
 have akA:=F.noStar
 simp only[checkBuiltinCall,F.newKind,F.newSplit,F.newRow]
 repeat(first|refine Wo hC ?_|(refine Vk hC ?_;rw[has])|refine wpAny_staticBase_exc hC ?_|refine wpAny_madeBy_exc hC ?_|simp only[bne_self_eq_false,Ur,Se]|wp_step)
 exact hq
theorem N9{rest:Zb Zf}(hC:h.get? C=some (excClassObj nm q C N bs bm lE sn sub ab col dd k0 k1 k2 k3 k5 "ValueError.__new__"))(h1:bm.contains (.type "ValueError")=true)(h2:bm.contains (.type "AttributeError")=false)(h3:bm.contains (.type "NameError")=false)
  (hq:R (.ok (.ret (.ref (h.objs.size+1)))) ⟨(h.push {cls:=.type "tuple",data:=.seq rest.toArray}).push (n6 C h.objs.size),g,d,t,os⟩)(len:rest.length≤sizeLine):
  codeAny (model prog w) A (.builtin "ValueError.__new__" ⟨.ref C::rest,[]⟩) R ⟨h,g,d,t,os⟩:=by
 have F:=Wg
 have ends:=F.ends
 have c1:(X3 C::bm).contains (.type "ValueError")=true:=by rw[V3,h1,Te]
 have c2:(X3 C::bm).contains (.type "AttributeError")=false:=by rw[V3,h2];rfl
 have c3:(X3 C::bm).contains (.type "NameError")=false:=by rw[V3,h3];rfl
 refine codeAny_builtinAt F.entry ?_
 unfold Builtin.«BaseException.__new__»
 refine PySem.wpAt_bind ?_
 show PySem.wpAt _ _ _ (stack>>=_) _ _ _
 refine PySem.wpAt_bind (PySem.wpAt_stack λp below=>Qs ?_)
 wp_walk
 refine Qs ?_
 rw[F.owner]
 repeat(first|with_reducible refine wpAny_madeHere_exc F.canon hC ?_|with_reducible refine Wo hC ?_|(with_reducible refine Vk hC ?_;first|rw[c1]|rw[c2]|rw[c3])|wp_step)
 show R _ _
 rw[Ra]
 exact hq
end
theorem N6{rest:Zb Zf}{fI:Zj}{K:Frag}(X:K.In h)(Y:nK h C)(hi:findIn K (.ref C) "__init__"=some (some (.ref fI)))(hf:typeIn K (.ref fI)=some (.type "function"))(len:rest.length≤sizeLine)
  (hq:codeAny (model prog w) (A.under (.builtin "type.__call__" ⟨.ref C::rest,[]⟩)) (.call (.ref fI) ⟨.ref (h.objs.size+1)::rest,[]⟩) (InitBack (h.objs.size+1) R) ⟨(h.push {cls:=.type "tuple",data:=.seq rest.toArray}).push (n6 C h.objs.size),g,d,t,os⟩):
  codeAny (model prog w) A (.call (.ref C) ⟨rest,[]⟩) R ⟨h,g,d,t,os⟩:=by
 obtain⟨nm,q,N,bs,bm,lE,sn,sub,ab,col,dd,k0,k1,k2,k3,k5,hC,m1,m2,m3⟩:=Y.obj
 have Fn:=Wg
 have hBn:([Value.type "ValueError",.type "Exception",.type "BaseException",.type "object"]:Zb Zf).contains (.type "ValueError")=true:=by decide+kernel
 have f1:=tc_lookup
 have f2:=tc_bind (.ref C)
 have hT:(⟨h,g,d,t,os⟩:Zs).TypeIs (.ref C) "type":=⟨_,hC,rfl⟩
 refine codeAny_of_tree ?_
 show wpAny _ _ (callAny (.ref C) _) _ _ _
 repeat(any_goals (first|assumption|with_reducible refine Wo hC ?_|wp_step))
 refine⟨rfl,?_⟩
 refine codeAny_call_builtin_at (Pa _ (by decide+kernel)) entry_typeCall (wpAny_check_type_call_sub hC ?_)
 unfold Builtin.«type.__call__»
 repeat(first|with_reducible refine Wo hC ?_|with_reducible refine wpAny_madeBy_exc hC ?_|wp_step)
 refine codeAny_call_builtin_code (Pa _ Fn.quiet) (N4 hC m1 ?_)
 refine N9 hC m1 m2 m3 ?_ len
 show wpAny _ _ _ _ _ _
 have kp:∀(b:Zj)(o:Obj),h.get? b=some o→((h.push {cls:=.type "tuple",data:=.seq rest.toArray}).push (n6 C h.objs.size)).get? b=some o:=λb o e=>Zv _ (Zv _ e)
 have Fi:=kp _ _ hC
 have Fv:((h.push {cls:=.type "tuple",data:=.seq rest.toArray}).push (n6 C h.objs.size)).get? (h.objs.size+1)=some (n6 C h.objs.size):=by heap_get
 have Fq:(X3 C::bm).contains (.ref C)=true:=by simp
 unfold isInstance
 repeat(first|with_reducible refine Wo Fv ?_|(with_reducible refine Vk Fi ?_;rw[Fq])|wp_step)
 show wpAny (model prog w) _ (isSubtype (.ref C) (.ref C)) _ _ ⟨(h.push {cls:=.type "tuple",data:=.seq rest.toArray}).push (n6 C h.objs.size),g,d,t,os⟩
 refine Vk Fi ?_
 rw[Fq]
 have t1:Looks (model prog w) ((h.push {cls:=.type "tuple",data:=.seq rest.toArray}).push (n6 C h.objs.size)) (typeOf (.ref (h.objs.size+1))) (.ref C):=(Qk Fv).andThen .now
 have i1:=Sd (M:=model prog w) (X.keeps kp) hi
 have b1:=bind_fn (M:=model prog w) (X.keeps kp) (.ref (h.objs.size+1)) hf
 simp only[Bool.not_true,Ur,Se]
 unfold callSpecial? specialOf
 repeat(first|with_reducible refine S6 ?_|lk)
 refine T9 hq λr s' z=>?_
 rcases r with e|(v|_|_|_)<;>first|exact z|exact z.elim|skip
 obtain⟨rfl,z⟩:=z
 exact Zq (Zq z)
end
end Mine
namespace Mine
def vJ(v:AV):Zh:=v.sel false (kR:=λ_=>true) (sH:=λ_ _=>true)
def lU(n:Zc)(c:bc):Prop:=∀{k:Cn}{W:Wd}{fv:AV}{args:Zb AV}{u:Zf}{us:Zb Zf}{r:Res AV},k.n=n→eT k W.Y W.h→vJ fv=true→W.V fv u→W.Vs args us→us.length+n≤500→c k.hd fv args W.H=r→r≠.bad→codeAny T.M k.A (.call u ⟨us,[]⟩) (nI k W r) W.s
def p8(M:Model)(u:Zf)(h:Yc):Prop:=∃k,Looks M h (keeperOf u) k
def gD(n:Zc)(c:bc):Prop:=∀{k:Cn}{W:Wd}{fv:AV}{args:Zb AV}{u:Zf}{us:Zb Zf}{r:Res AV},k.n=n→eT k W.Y W.h→W.V fv u→W.Vs args us→us.length≤100→c k.hd fv args W.H=r→r≠.bad→p8 T.M u W.h∧wpAny T.M k.A (call u us) (aS VV W r) (cV k.envs W r) W.s
noncomputable def nG(c:Zc):String:=Zz "NoneType" (λc _=>Zz "bool" (λc _=>Zz "int" (λ_ _=>"str") c) c) c
noncomputable def ww(K:Frag)(C:Zj):Zh:=plainGet K C "__class__"&&hasDictIn K C&&findIn K (.ref C) "__class__"==some (some (.builtin "object.__class__"))&&mroIn K C (.type "object")==some true
structure Bb(K:Frag):Prop where
 gs:specialIn K (.builtin "object.__class__") "__get__"=some (some (.builtin "getset_descriptor.__get__"))
 tk:takesIn K (.builtin "object.__class__")=some true
 own:∀C ci,T.S.cls C=some ci→ci.isExc=false→ww K C=true
 oo:∀C ci D cj,T.S.cls C=some ci→T.S.cls D=some cj→kitOne K (.ref C) (.ref D)=some (rI ci C D)
 ot:∀C ci U f,T.S.cls C=some ci→i0 U=some f→kitOne K (.ref C) (.type U.name)=some false
 to:∀D cj c,T.S.cls D=some cj→c<4→kitOne K (.type (nG c)) (.ref D)=some false
 tt:∀c U f,c<4→i0 U=some f→kitOne K (.type (nG c)) (.type U.name)=some (f c)
structure Jn(C:Zj)(f:Zj)(K:Frag)(mc:Zf):Prop where
 dG:K.In T.h0
 ga:specialIn K (.ref C) "__getattribute__"=some (some (.builtin "type.__getattribute__"))
 rd:readsIn K C mc=true
 fd:findCls K (.ref C) mc "__init__"=some (.val (.ref f))
structure JF(K:Frag)(C:Zj)(x:Str)(f:Zj):Prop where
 ga:findIn K (.ref C) "__getattribute__"=some (some (.builtin "object.__getattribute__"))
 gt:findIn K (.ref C) "__getattr__"=some none
 fd:findIn K (.ref C) x=some (some (.ref f))
 ty:typeIn K (.ref f)=some (.type "function")
structure JE(C:Zj)(ci:bU)(K:Frag):Prop where
 dG:K.In T.h0
 m:∀a f,aY a ci.meths=some f→∃x,T.S.nm a=some x∧JF K C x f
structure Jo(C:Zj)(ci:bU)(K:Frag):Prop where
 dG:K.In T.h0
 keep:keepIn K (.ref C)=true
 init:findIn K (.ref C) "__init__"=some (some (.ref ci.init))
 ty:typeIn K (.ref ci.init)=some (.type "function")
 mks:ci.isExc=false→makesIn K C=true
 ex:ci.isExc=true→nK T.h0 C
structure JN(mg:Str→Zd Zf):Prop where
 C:CodeHd T.h0 T.tc T.tb
 hg:T.h0.Ns Wp mg
 hB:T.h0.BuiltinsAt mg T.tb
 ng:Wp≠T.tb
structure Jw:Prop where
 tab:∃mg,JN mg
 GZ:T.S.nm lL=some "__init__"
 abt:T.S.nm nh=some "get"
 abp:T.S.nm wk=some "append"
 abr:T.S.nm zH=some "extend"
 abu:T.S.nm zJ=some "pop"
 abv:T.S.nm zK=some "values"
 abq:T.S.nm G6=some "enumerate"
 TU:T.S.gl G6=some (.ty .enumerate)
 LI:∀C ci f,T.S.cls C=some ci→aY lL ci.meths=some f→∃K mc,Jn C f K mc
 WZ:∃K:Frag,K.In T.h0∧Bb K
 Ob:∃K:Frag,K.In T.h0∧∀C ci k,T.S.cls C=some ci→ci.isExc=true→rI ci C k=true→exmOne K (.ref C) (.ref k)=some true
 rai:∃K:Frag,K.In T.h0∧∀C ci,T.S.cls C=some ci→ci.isExc=true→mroIn K C (.type "BaseException")=some true∧typeIn K (.ref C)=some (.type "type")
 cls:∀C ci,T.S.cls C=some ci→∃K,Jo C ci K
 aaz:∀C ci,T.S.cls C=some ci→ci.isExc=false→∃K,JE C ci K
def uj(o:Zd Obj)(i:Zc):Zd Zf:=aa o none λo=>(o.slots[i]?).getD none
def Dx(C:Zc)(ci:bU):=(ag (λp=>(T.S.nm p.1,findIn (KC C) (.ref C) (fj p.1),typeIn (KC C) (.ref p.2))) ci.meths,aa (aY lL ci.meths) none λ_=>findCls (KC C) (.ref C) (.type "type") "__init__",
 specialIn (KC C) (.ref C) "__getattribute__",readsIn (KC C) C (.type "type"),keepIn (KC C) (.ref C),findIn (KC C) (.ref C) "__init__",typeIn (KC C) (.ref ci.init),ae ci.isExc (mroIn KI C (.type "BaseException")) (some (makesIn (KC C) C)),ae ci.isExc true (ww KI C),typeIn KI (.ref C),
 ag (λk=>ae ci.isExc (exmOne KI (.ref C) (.ref k)) none) (C::ci.AC),ae ci.isExc (gB C) none,ag (λn=>ae ci.isExc ((hX (gB C)).mro.tail.contains (.type n)) (n=="ValueError")) ["ValueError","AttributeError","NameError"])
def Ew(C:Zc)(o:Zd Obj):Obj:=excClassObj (hX o).name (hX o).qualname C (hX o).ns (hX o).bases (hX o).mro.tail (hX o).hasDict (hX o).slotNames (hX o).subclasses (hX o).abstract (hX o).collection (aa o none (·.dict)) (uj o 0) (uj o 1) (uj o 2) (uj o 3) (uj o 5) "ValueError.__new__"
def Dz(C:Zc)(ci:bU):Zb (Zd Str×Zd (Zd Zf)×Zd Zf)×Zd CFound×Zd (Zd Zf)×Zh×Zh×Zd (Zd Zf)×Zd Zf×Zd Zh×Zh×Zd Zf×Zb (Zd Zh)×Zd Obj×Zb Zh:=(ag (λp=>(some (fj p.1),some (some (.ref p.2)),some (.type "function"))) ci.meths,aa (aY lL ci.meths) none λf=>some (.val (.ref f)),
 some (some (.builtin "type.__getattribute__")),true,true,some (some (.ref ci.init)),some (.type "function"),some true,true,some (.type "type"),
 ag (λk=>ae ci.isExc (some true) none) (C::ci.AC),ae ci.isExc (some (Ew C (gB C))) none,[true,false,false])
theorem LH:fh Dx kt []=fh Dz kt []:=by kernel_rfl
noncomputable def ut:Zb Ty:=[.bool,.int,.str,.range,.list,.enumerate,.I8]
theorem I3(t:Ty):t∈ut:=Ty.rec (.head _) (.tail _ (.head _)) (.tail _ (.tail _ (.head _))) (.tail _ (.tail _ (.tail _ (.head _)))) (.tail _ (.tail _ (.tail _ (.tail _ (.head _))))) (.tail _ (.tail _ (.tail _ (.tail _ (.tail _ (.head _)))))) (.tail _ (.tail _ (.tail _ (.tail _ (.tail _ (.tail _ (.head _))))))) t
theorem GI{c:Zc}(h:c<4):c∈[0,1,2,3]:=List.mem_range.mpr h
def F3(C:Zc)(ci:bU):=(fh (λD _=>kitOne KI (.ref C) (.ref D)) kt [],ag (λU=>aq (i0 U) λ_=>kitOne KI (.ref C) (.type U.name)) ut,ag (λc=>kitOne KI (.type (nG c)) (.ref C)) [0,1,2,3])
def F4(C:Zc)(ci:bU):=(fh (λD _=>some (rI ci C D)) kt [],ag (λU=>aq (i0 U) λ_=>some false) ut,ag (λ_=>some false) [0,1,2,3])
theorem XB:fh F3 kt []=fh F4 kt []:=by kernel_rfl
theorem XC:ag (λc=>ag (λU=>aq (i0 U) λ_=>kitOne KI (.type (nG c)) (.type U.name)) ut) [0,1,2,3]=ag (λc=>ag (λU=>aq (i0 U) λf=>some (f c)) ut) [0,1,2,3]:=by kernel_rfl
theorem F6:(specialIn KI (.builtin "object.__class__") "__get__",takesIn KI (.builtin "object.__class__"))=(some (some (.builtin "getset_descriptor.__get__")),some true):=by kernel_rfl
theorem I4{U:Ty}{f:Zc→Zh}{F:Zd Zh}{G:(Zc→Zh)→Zd Zh}(e:(aq (i0 U) λ_=>F)=aq (i0 U) G)(q:i0 U=some f):F=G f:=by
 rw[q]at e;exact e
def sOf(v:Zf):Str:=match v with
 |.str x _=>x
 |_=>default
def FJ(v:Zf):Zw:=match v with
 |.int x _=>x
 |_=>0
def Kr(v:Zf):Zh:=match v with
 |.bool x=>x
 |_=>true
def cf(i:Zc):Zf:=(lw (gB 1443)).toArray.getD i .none
def IP:=(gB 1443,(lw (gB 1443)).toArray[11]?,ag cf [11,18,7,9,10])
def IQ:Zd Obj×Zd Zf×Zb Zf:=(aa (gB 1443) none λo=>some ⟨.type "code",o.dict,.fields (lw (gB 1443)).toArray,o.slots⟩,some (.ref 1439),[.ref 1439,.str (sOf (cf 18)) (tk (cf 18)),.int (FJ (cf 7)) (tk (cf 7)),.bool (Kr (cf 9)),.int (FJ (cf 10)) (tk (cf 10))])
theorem um:(aT (gB 1443),aT (gB 4),IP,iQ 3 "__builtins__",gB 4)=(true,true,IQ,some (.ref 4),aa (gB 4) none λo=>some ⟨.type "module",some builtinsNs,.plain,o.slots⟩):=by kernel_rfl
theorem abT:ag T.S.nm [0,1,2,3,4,5,6]=([some "__init__",some "get",some "append",some "extend",some "pop",some "values",some "enumerate"]:Zb (Zd Str)):=by kernel_rfl
theorem gM{α:Type}{a b:α}{x y:Zb α}(e:a::x=b::y):a=b∧x=y:=by injection e with e1 e2;exact⟨e1,e2⟩
section
variable{C:Zj}{ci:bU}(e:T.S.cls C=some ci)
include e
theorem iY:Dx C ci=Dz C ci:=(nS LH).2 C ci e
theorem As:F3 C ci=F4 C ci:=(nS XB).2 C ci e
theorem Oa(i:ci.isExc=true):nK T.h0 C:=by
 have q:=Ze (·.2.2.2.2.2.2.2.2.2.2.2.1) (iY e)
 have z:=Ze (·.2.2.2.2.2.2.2.2.2.2.2.2) (iY e)
 have q:ae ci.isExc (gB C) none=ae ci.isExc (some (Ew C (gB C))) none:=q
 have z:ag (λn=>ae ci.isExc ((hX (gB C)).mro.tail.contains (.type n)) (n=="ValueError")) ["ValueError","AttributeError","NameError"]=[true,false,false]:=z
 rw[i]at q z
 obtain⟨z1,z⟩:=gM z
 obtain⟨z2,z⟩:=gM z
 exact⟨_,_,_,_,_,_,_,_,_,_,_,_,_,_,_,_,kJ q,z1,z2,(gM z).1⟩
theorem zz{a:Zc}{f:Zj}(m:aY a ci.meths=some f):(T.S.nm a,findIn (KC C) (.ref C) (fj a),typeIn (KC C) (.ref f))=(some (fj a),some (some (.ref f)),some (.type "function")):=kO (Ze (·.1) (iY e)) (a,f) (vT m)
end
theorem KE:T.h0.BuiltinsAt (iQ 3) 1439:=oT (o:=gB 4) (f:=λ_=>true) (Ze (·.2.1) um) λo q _=>by
 have g:gB 4=aa (gB 4) none λo=>some ⟨.type "module",some builtinsNs,.plain,o.slots⟩:=Ze (·.2.2.2.2) um
 rw[q]at g
 exact⟨4,⟨.type "module",some builtinsNs,.plain,o.slots⟩,Ze (·.2.2.2.1) um,by decide,by decide,by decide,kJ (q.trans g),rfl,rfl,rfl⟩
theorem FO:Jw:=by
 have nm:=abT
 obtain⟨n0,nm⟩:=gM nm
 obtain⟨n1,nm⟩:=gM nm
 obtain⟨n2,nm⟩:=gM nm
 obtain⟨n3,nm⟩:=gM nm
 obtain⟨n4,nm⟩:=gM nm
 obtain⟨n5,nm⟩:=gM nm
 refine⟨⟨_,?_,tU (.tail _ (.tail _ (.head _))),KE,by decide⟩,n0,n1,n2,n3,n4,n5,(gM nm).1,rfl,λC ci f e l=>⟨KC C,.type "type",o7 _,Ze (·.2.2.1) (iY e),Ze (·.2.2.2.1) (iY e),?_⟩,
  ⟨KI,o7 _,Ze (·.1) F6,Ze (·.2) F6,λC ci e i=>?_,λC ci D cj e e'=>(nS (F:=λD _=>kitOne KI (.ref C) (.ref D)) (G:=λD _=>some (rI ci C D)) (t:=kt) (Ze (·.1) (As e))).2 D cj e',λC ci U f e q=>I4 (F:=kitOne KI (.ref C) (.type U.name)) (G:=λ_=>some false) (kO (F:=λU=>aq (i0 U) λ_=>kitOne KI (.ref C) (.type U.name)) (G:=λU=>aq (i0 U) λ_=>some false) (Ze (·.2.1) (As e)) U (I3 U)) q,λD cj c e l=>kO (F:=λc=>kitOne KI (.type (nG c)) (.ref D)) (G:=λ_=>some false) (Ze (·.2.2) (As e)) c (GI l),λc U f l q=>I4 (F:=kitOne KI (.type (nG c)) (.type U.name)) (G:=λf=>some (f c)) (kO (F:=λU=>aq (i0 U) λ_=>kitOne KI (.type (nG c)) (.type U.name)) (G:=λU=>aq (i0 U) λf=>some (f c)) (kO XC c (GI l)) U (I3 U)) q⟩,
  ⟨KI,o7 _,λC ci k e i s=>?_⟩,⟨KI,o7 _,λC ci e i=>⟨?_,Ze (·.2.2.2.2.2.2.2.2.2.1) (iY e)⟩⟩,
  λC ci e=>⟨KC C,o7 _,Ze (·.2.2.2.2.1) (iY e),Ze (·.2.2.2.2.2.1) (iY e),Ze (·.2.2.2.2.2.2.1) (iY e),λi=>?_,Oa e⟩,λC ci e i=>⟨KC C,o7 _,λa f m=>⟨fj a,Ze (·.1) (zz e m),?_,Ze (·.2.2.1) (Aq e),Ze (·.2.1) (zz e m),Ze (·.2.2) (zz e m)⟩⟩⟩
 ·refine oT (o:=gB 1443) (f:=λ_=>true) (Ze (·.1) um) λo q _=>?_
  have z:IP=IQ:=Ze (·.2.2.1) um
  have g:gB 1443=aa (gB 1443) none λo=>some ⟨.type "code",o.dict,.fields (lw (gB 1443)).toArray,o.slots⟩:=Ze (·.1) z
  replace g:=g.trans (Ze (λz=>aa z none λo=>some (⟨.type "code",o.dict,.fields (lw (gB 1443)).toArray,o.slots⟩:Obj)) q)
  obtain⟨c1,y⟩:=gM (Ze (·.2.2) z)
  obtain⟨c2,y⟩:=gM y
  obtain⟨c3,y⟩:=gM y
  obtain⟨c4,y⟩:=gM y
  exact⟨⟨.type "code",o.dict,.fields (lw (gB 1443)).toArray,o.slots⟩,(lw (gB 1443)).toArray,_,_,_,_,_,_,_,kJ g,rfl,rfl,Ze (·.2.1) z,c1,c2,c3,c4,(gM y).1,by decide⟩
 ·have q:aa (aY lL ci.meths) none (λ_=>findCls (KC C) (.ref C) (.type "type") "__init__")=aa (aY lL ci.meths) none λf=>some (.val (.ref f)):=Ze (·.2.1) (iY e)
  rw[l]at q;exact q
 ·have q:ae ci.isExc true (ww KI C)=true:=Ze (·.2.2.2.2.2.2.2.2.1) (iY e)
  rw[i]at q;exact q
 ·have q:ae ci.isExc (exmOne KI (.ref C) (.ref k)) none=ae ci.isExc (some true) none:=kO (F:=λk=>ae ci.isExc (exmOne KI (.ref C) (.ref k)) none) (G:=λ_=>ae ci.isExc (some true) none) (Ze (·.2.2.2.2.2.2.2.2.2.2.1) (iY e)) k (bO s (λs=>List.mem_cons.mpr (.inl (Zr s).symm)) λs=>List.mem_cons.mpr (.inr (Fp s)))
  rw[i]at q;exact q
 ·have q:ae ci.isExc (mroIn KI C (.type "BaseException")) (some (makesIn (KC C) C))=some true:=Ze (·.2.2.2.2.2.2.2.1) (iY e)
  rw[i]at q;exact q
 ·have q:ae ci.isExc (mroIn KI C (.type "BaseException")) (some (makesIn (KC C) C))=some true:=Ze (·.2.2.2.2.2.2.2.1) (iY e)
  rw[i]at q;exact Za q
 ·have q:findIn (KC C) (.ref C) "__getattribute__"=some (some (.builtin (ae ci.isExc "BaseException.__getattribute__" "object.__getattribute__"))):=Ze (·.2.1) (Aq e)
  rw[i]at q;exact q
end Mine
namespace Mine
theorem V.ref{Y:Ly}{h:Yc}{i:Zc}{p:Zj×Zd Zj}(e:Y.ρ i=some p):V Y h (.ref i) (.ref p.1):=⟨p,rfl,e⟩
theorem eT.tc{c:Cn}{n:Zc}{Y:Ly}{h:Yc}(x:eT c Y h)(hn:c.n=n+1){C:Zj}{rest:Zb Zf}{kw:Zb (Str×Zf)}:eT ⟨c.A.under (.builtin "type.__call__" ⟨.ref C::rest,kw⟩),c.envs,n,c.hd⟩ Y h where
 depth:=Zu (Xb (by show c.A.depth+(Ul "type.__call__" ⟨.ref C::rest,kw⟩).weight+8*n=c.A.depth+(1+8*n);rw[ajL];exact Uz ..)) (Zu (Yp (by rw[hn,Ui,Vh];exact Yp (by decide) _) _) x.depth)
 units:=Zu (Xb (by show c.A.units+(Ul "type.__call__" ⟨.ref C::rest,kw⟩).cUnits+40*n=c.A.units+(1+40*n);rw[ajK];exact Uz ..)) (Zu (Yp (by rw[hn,Ui,Vh];exact Yp (by decide) _) _) x.units)
 hand:=x.hand
 stack:=by
  show pushEnvs (Ul "type.__call__" ⟨.ref C::rest,kw⟩).envs c.A.frames=some c.envs
  rw[ajJ];exact x.stack
 iR:=x.iR
theorem ZQ{n:Zc}{c:bc}(hc:lU n c){C:Zj}{ci:bU}(ec:T.S.cls C=some ci){k:Cn}{W:Wd}{args:Zb AV}{us:Zb Zf}{r:Res AV}(hn:k.n=n+1)(ao:eT k W.Y W.h)(rv:W.Vs args us)(len:us.length+(n+1)≤500)(hr:v5 c k.hd C args ci W.H=r)(hb:r≠.bad):
  codeAny T.M k.A (.call (.ref C) ⟨us,[]⟩) (nI k W r) W.s:=by
 obtain⟨K,X⟩:=FO.cls C ci ec
 have dG:=X.dG.keeps W.R.base
 have no0:=(W.fresh (Yg _)).1
 have no1:=(W.fresh (Uu _)).1
 have main:∀(o1 o2:Obj)(q:Zd Zj),o1.isFreed=false→o2.isFreed=false→(∀a,bV (W.h.objs.size+1,q) a→a=W.h.objs.size∨a=W.h.objs.size+1)→
   (∀Y' h1,h1.get? W.h.objs.size=some o1→h1.get? (W.h.objs.size+1)=some o2→RO Y' h1 (W.h.objs.size+1,q) (Zp (.inst C []) (.exc C []) ci.isExc))→
   codeAny T.M (k.A.under (.builtin "type.__call__" ⟨.ref C::us,[]⟩)) (.call (.ref ci.init) ⟨.ref (W.h.objs.size+1)::us,[]⟩) (InitBack (W.h.objs.size+1) (nI k W r)) {W.s with heap:=(W.h.push o1).push o2}:=λo1 o2 q f1 f2 UZ ro=>by
  have g1:((W.h.push o1).push o2).get? W.h.objs.size=some o1:=Zv _ (Yb _ f1)
  have g2:((W.h.push o1).push o2).get? (W.h.objs.size+1)=some o2:=by
   have z:=Yb (W.h.push o1) (o:=o2) f2
   rw[Ra]at z;exact z
  obtain⟨W1,w1⟩:=Wd.new (W:=W) (tk:=W.s.toks) (q:=(W.h.objs.size+1,q)) (o:=Zp (.inst C []) (.exc C []) ci.isExc) (λa f=>(UZ a f).elim (λe=>e▸⟨no0,_,g1⟩) λe=>e▸⟨no1,_,g2⟩) (.all λb ob e=>Zv _ (Zv _ e)) λY' _=>ro Y' _ g1 g2
  have hr:AM.bind (c k.hd (.au ci.init) (.ref W.H.size::args)) (λv h'=>ae (isNone v) (.ok (.ref W.H.size) h') .bad) W1.H=r:=w1.H▸hr
  have e:W1.s={W.s with heap:=(W.h.push o1).push o2}:=w1.s
  rw[←e]
  refine T9 (hc (k:=⟨k.A.under (.builtin "type.__call__" ⟨.ref C::us,[]⟩),k.envs,n,k.hd⟩) (W:=W1) (fv:=.au ci.init) rfl ((ao.step w1.le.st λ_=>Xg).tc hn) rfl rfl (Vs.cons (V.ref w1.at_) (w1.le.vs rv)) (Zu (Xb (by rw[U9];exact Vq us.length n)) len) rfl (iF hr hb)) λx s' z=>?_
  cases z with
  |ex z=>exact .ex (z.step w1.le λi H e=>hr.symm.trans (jL e))
  |ok z=>
   obtain⟨W2,v,e2,bD,rv2⟩:=z
   refine bB ((gf e2).symm.trans hr) hb λg hr=>⟨V.none_ g rv2,.ok (.mk W2 _ hr.symm (w1.le.trans bD) ?_)⟩
   exact(bD.mono.ids _ _ w1.at_).elim λq' z=>⟨(W.h.objs.size+1,q'),rfl,z⟩
 obtain⟨Y,⟨hh,g,d,t,os⟩,H,R⟩:=W
 cases q:ci.isExc with
 |false=>
  rw[q]at main
  refine make_core (makes_of (M:=T.M) dG (X.mks q)) (Sd dG X.init) (λself=>bind_fn dG self X.ty) (.inl rfl) ?_
  exact main emptyDict (instObj C hh.objs.size) (some hh.objs.size) rfl rfl (λa f=>f.casesOn .inr λe=>.inl (Za e).symm) λY' h1 g1 g2=>jF.mk (n:=0) (es:=[]) rfl g2 g1 rfl ⟨ci,ec,λkv h=>nomatch h⟩ (Yt _)
 |true=>
  rw[q]at main
  refine N6 dG ((X.ex q).keeps R.base) X.init X.ty (Zu (V2 len) (by rw[Wa];decide)) ?_
  exact main {cls:=.type "tuple",data:=.seq us.toArray} (n6 C hh.objs.size) none rfl rfl (λa f=>.inr (jX f)) λY' h1 g1 g2=>eC.z rfl rfl g2 rfl rfl rfl ⟨rfl,rfl⟩
end Mine
namespace Mine
def JH(u:Zf):Prop:=u≠.builtin "__main__.__loader__#opaque"
inductive xn(K:Frag)(u:Zf)(c:Zc):Prop
 |mk(z:KitX K u (.type (nG c)) λ_=>True)(n:JH u)(lt:c<4)
section
variable{K:Frag}{W:Wd}{x:AV}{u:Zf}
theorem AX{c:Zc}:W.V x u→w7 x=some c→xn K u c:=by
 have I:∀{i:Zw}{t:Tok},u=.int i t→some 2=some c→xn K u c:=λq e=>by rw[q,←Za e];exact .mk kitx_int (λq=>nomatch q) (by decide)
 have S:∀{i:Str}{t:Tok},u=.str i t→some 3=some c→xn K u c:=λq e=>by rw[q,←Za e];exact .mk kitx_str (λq=>nomatch q) (by decide)
 cases x<;>first|exactλ_ e=>aF e|skip
 ·exactλr e=>by rw[show u=.none from r,←Za e];exact .mk kitx_none (λq=>nomatch q) (by decide)
 ·exactλr e=>by rw[show u=.bool _ from r,←Za e];exact .mk kitx_bool (λq=>nomatch q) (by decide)
 all_goals first|(exactλr e=>r.elim λ_ q=>I q e)|(exactλr e=>r.elim λ_ r=>r.elim λ_ r=>I r.1 e)|exactλr e=>r.elim λ_ r=>r.elim λ_ r=>S r.1 e
inductive ClsAt(W:Wd)(u:Zf)(C:Zj):Prop
 |mk{a:Zj}{ox od:Obj}{ci:bU}(q:u=.ref a)(I:InstAt W.h a ox C (some od))(hc:T.S.cls C=some ci)(hx:ci.isExc=false)
theorem LK(rx:W.V x u){C:Zj}(e:uV T.S W.H x=some C):ClsAt W u C:=oN e λD h1 e=>oN e λci h2 e=>bE e (λ_ e=>aF e) λhx e=>by
 have e:=Za e
 subst e
 refine oO h1 (λh=>oN h λq h3 h=>?_) λh=>oN h λq h3 h=>oN h3 λo h4 h5=>oN h4 λi h6 h7=>?_
 ·obtain⟨z,fi,r,f,g⟩:=V.QN h3 rx
  have h:=Za h
  subst h
  exact .mk z ⟨f.g,rfl,rfl,g.g⟩ h2 hx
 ·obtain⟨p,z,hp⟩:=V.jY h6 rx
  rw[xA h5]at h7
  obtain⟨q2,pC,hd,_,_,_⟩:=(W.R.obj _ _ _ h7 hp:jF W.Y W.h p q.1 q.2)
  have h:=Za h
  subst h
  exact .mk z ⟨pC,rfl,rfl,hd⟩ h2 hx
variable{A:Yu}{E:Zf→Zs→Prop}{Q:Zf→Zs→Prop}{w:Zf}{b:Zh}
theorem F7{c:Zc}(X:K.In T.h0)(rx:W.V x u)(e:w7 x=some c)(k:kitOne K (.type (nG c)) w=some b)(h:∀tk,Q (.bool b) {W.s with toks:=tk}):wpAny T.M A (call (.builtin "isinstance") [u,w]) Q E W.s:=
 (AX (K:=K) rx e).casesOn λz n _=>kia_one z (X.keeps W.R.base) trivial k n h
theorem F5{C:Zj}(X:K.In T.h0)(I:Bb K)(rx:W.V x u)(e:uV T.S W.H x=some C)(k:∀ci,T.S.cls C=some ci→kitOne K (.ref C) w=some b)(h:∀tk,Q (.bool b) {W.s with toks:=tk}):wpAny T.M A (call (.builtin "isinstance") [u,w]) Q E W.s:=by
 obtain⟨q,ia,hc,hx⟩:=LK rx e
 have ok:=I.own C _ hc hx
 unfold ww at ok
 obtain⟨ok,k4⟩:=Bool.and_eq_true_iff.mp ok
 obtain⟨ok,k3⟩:=Bool.and_eq_true_iff.mp ok
 obtain⟨k1,k2⟩:=Bool.and_eq_true_iff.mp ok
 rw[q]
 exact kia_one (kitx_own k1 k2 (eq_of_beq k3) I.gs I.tk (eq_of_beq k4)) (X.keeps W.R.base) ia (k _ hc) (λq=>nomatch q) h
theorem XA{k:AV}(rx:W.V x u)(rk:W.V k w)(e:FV T.S W.H x k=some b)(h:∀tk,Q (.bool b) {W.s with toks:=tk}):wpAny T.M A (call (.builtin "isinstance") [u,w]) Q E W.s:=by
 obtain⟨K,X,I⟩:=FO.WZ
 refine oE e (λ_ e=>oN e λc h1 e=>oN e λcj h2 e=>?_) λU hU e=>oN e λf hf e=>?_
 ·rw[V.kR h1 rk]
  refine oE e (λ_ e=>oN e λC h3 e=>oN e λci h4 e=>?_) λn h3 e=>?_
  ·exact F5 X I rx h3 (λ_ _=>(Za e)▸I.oo C ci c cj h4 h2) h
  ·exact F7 X rx h3 ((Za e)▸(AX (K:=K) rx h3).casesOn λ_ _ m=>I.to c cj _ h2 m) h
 ·have q:w=.type U.name:=by
   have z:k=.ty U:=by revert hU;clear e rk;cases k<;>first|exactλe=>aF e|exactλe=>Za e▸rfl
   rw[z]at rk;exact rk
  rw[q]
  refine oE e (λ_ e=>oN e λC h3 e=>?_) λn h3 e=>?_
  ·exact F5 X I rx h3 (λci hc=>(Za e)▸I.ot C ci U f hc hf) h
  ·exact F7 X rx h3 ((Za e)▸(AX (K:=K) rx h3).casesOn λ_ _ m=>I.tt _ U f m hf) h
end
end Mine
namespace Mine
section
variable{A:Yu}{s:Zs}
theorem ajZ(l:Zj)(dd:Zd Zj)(sl:X9 (Zd Zf))(items:X9 Zf)(n:Zc):
  Meets (Builtin.«tuple.__len__» ⟨[.ref l],[]⟩) (λ_ R s=>s.heap.get? l=some {cls:=.type "tuple",dict:=dd,data:=.seq items n,slots:=sl}∧R (.ok (.ret (Ts (items.size:Zw) s.toks))) {s with heap:=s.heap,toks:=s.toks+1}):=
 .of_wp λprog w A R s h=>by obtain⟨hp,g,d,tk,os⟩:=s;obtain⟨hl,h⟩:=h;have f1:=PySem.AutoSeq1.idx_int;have f2:=PySem.AutoSeq1.sub_tuple_tuple;have f3:=PySem.AutoSeq1.sub_list_list;have f4:=PySem.AutoSeq1.sub_tuple_list;have f5:=PySem.AutoSeq1.sub_list_tuple;wp_walk using wpAny_loadPart' hl;exact⟨_,rfl,h⟩
theorem Lh{l:Zj}{items:X9 Zf}{pr:Program}{w:Yo}{E:Zf→Zs→Prop}{Q:Zf→Zs→Prop}(hl:IsTup s.heap l items)(yt:(items.size:Zw)<2^63)
  (h:Q (.int items.size (s.toks+1)) {s with toks:=s.toks+1+1}):wpAny (model pr w) A (call (.builtin "len") [.ref l]) Q E s:=by
 obtain⟨⟨c,dd,dt,sl⟩,ho,hc,n,hd⟩:=hl
 obtain rfl:c=.type "tuple":=hc
 obtain rfl:dt=.seq items n:=hd
 exact call_len_meets ⟨_,ho,rfl⟩ PySem.F.slot_tuple_len PySem.F.entry_tuple_len (PySem.F.args_tuple_len_1 _) (ajZ l dd sl items n) (by omega) (by omega) (λ_ hq=>⟨ho,hq⟩) h
end
theorem Aa{α β:Type}{l:Zb α}{f:α→Zd β}{b:β}{P:Prop}(e:one l none f=some b)(k:∀x,l=[x]→f x=some b→P):P:=by
 rcases l with _|⟨x,_|⟨y,r⟩⟩
 ·exact aF e
 ·exact k x rfl e
 ·exact aF e
section
variable{Y:Ly}{h:Yc}{x y:AV}{us:Zb Zf}
theorem Vs.one(r:Vs Y h [x] us):∃u,us=[u]∧V Y h x u:=r.inv.casesOn λq a b=>⟨_,q.trans (Ze _ b.kP),a⟩
theorem Vs.two(r:Vs Y h [x,y] us):∃u v,us=[u,v]∧V Y h x u∧V Y h y v:=r.inv.casesOn λq a b=>(Vs.one b).elim λv z=>⟨_,v,q.trans (Ze _ z.1),a,z.2⟩
end
inductive JA(vs:Zb Zf)(n:Zw):Prop
 |mk{l:Zb (Zw×Tok)}(q:vs=l.map λp=>Ts p.1 p.2)(s:n=(l.map (·.1)).sum)(b:∀p∈l,p.1.natAbs≤1000000)
theorem ints_of{Y:Ly}{h:Yc}{xs:Zb AV}:∀{vs:Zb Zf}{n:Zw},Vs Y h xs vs→rJ xs=some n→aM oZ xs=true→JA vs n:=by
 induction xs with
 |nil=>exactλr e _=>by rw[r.kP,←Za e];exact .mk (l:=[]) rfl rfl λ_ h=>nomatch h
 |cons x xs ih=>
  intro vs n r e g
  obtain⟨rfl,a,b⟩:=r.inv
  cases q:oZ x with
  |false=>rw[qt,q]at g;exact aA g
  |true=>
   rw[qt,q]at g
   refine oN e λi h1 e=>oN e λm h2 e=>?_
   obtain⟨q1,s,bd⟩:=ih b h2 g
   obtain⟨t,rfl⟩:=V.cU h1 a
   have z:Zl i.natAbs 1000000=true:=by unfold oZ at q;rw[h1]at q;exact q
   rw[q1,←Za e,s]
   exact .mk (l:=(i,t)::_) rfl rfl λp hp=>(List.mem_cons.mp hp).elim (λe=>e▸Zm z) (bd p)
theorem Hg{l:Zb (Zw×Tok)}{j:Zc}(h:j<l.length):numAt l.toArray j=(l.get ⟨j,h⟩).1:=by unfold numAt;rw[Xr,Ww h];rfl
theorem Hx(l:Zb (Zw×Tok))(j:Zc)(h:j≤l.length):preSum (numAt l.toArray) j=((l.take j).map (λp:Zw×Tok=>p.1)).sum:=by
 induction j with
 |zero=>rfl
 |succ j ih=>
  rw[preSum,ih (Wt h),List.take_add_one,List.map_append,List.sum_append,Hg h,Ww h]
  exact Ze (_+·) (Q4 _).symm
theorem ady(l:Zb (Zw×Tok)):preSum (numAt l.toArray) l.toArray.size=(l.map (·.1)).sum:=(Hx l l.length (Yg _)).trans (by rw[List.take_length])
theorem sum_bound{l:Zb (Zw×Tok)}(h:∀p∈l,p.1.natAbs≤1000000):((l.map (λp:Zw×Tok=>p.1)).sum).natAbs≤1000000*l.length:=by
 induction l with
 |nil=>exact Yg _
 |cons p r ih=>
  rw[Vt,List.sum_cons,U9,Ui,Vh]
  exact Zu (Int.natAbs_add_le ..) (Xn (h p (.head _)) (ih λq hq=>h q (.tail _ hq)))
theorem FQ{i:Zw}(h:i.natAbs≤1000000*100000):InLong i:=by unfold InLong;omega
theorem ajA{ps:Zb (Zw×Tok)}(pl:ps.length≤100000)(bd:∀p∈ps,p.1.natAbs≤1000000){j:Zc}(hj:j<ps.toArray.size):InLong (numAt ps.toArray j)∧InLong (preSum (numAt ps.toArray) (j+1)):=
 ⟨FQ ((Hg hj).symm▸Zu (bd _ (List.getElem_mem hj)) (by decide)),FQ (Hx ps (j+1) hj▸Zu (sum_bound λp hp=>bd p (Ql hp)) (Nat.mul_le_mul_left _ (Zu (show(ps.take (j+1)).length≤ps.length by rw[U7];exact U6 ..) pl)))⟩
section
variable{W:Wd}{A:Yu}{E:Zf→Zs→Prop}{hd:Zh}{r:Res AV}
theorem tY{i:Zw}{tk:Zc}{t:Tok}(hr:.ok (.int i) W.H=r){u:Zf}(q:u=.int i t):aS VV W r u {W.s with toks:=tk}:=.mk (W.tok tk) _ hr.symm (.tok W tk) ⟨t,q⟩
theorem grown{h':Yc}{tk:Zc}(k:∀(b:Zj)(o:Obj),W.h.get? b=some o→h'.get? b=some o){i:Zw}{t:Tok}(hr:.ok (.int i) W.H=r){u:Zf}(q:u=.int i t):aS VV W r u {W.s with heap:=h',toks:=tk}:=.grow hr.symm (.all k) λW' _ _ _=>⟨t,q⟩
theorem abs_eq(i:Zw):(i.natAbs:Zw)=if i<0 then-i else i:=by split<;>omega
theorem fits{n:Zc}(h:n≤2000000):(n:Zw)<2^63:=Wl (Int.ofNat_le.mpr h) (by decide)
theorem KH(hh:hd=false→A.handled=none){b:Bl}{args:Zb AV}{us:Zb Zf}(rv:W.Vs args us)(hr:Do T.S hd b args W.H=r)(hb:r≠.bad):wpAny T.M A (call (.builtin b.name) us) (aS VV W r) E W.s:=oB hr hb λv hv he=>by
 cases b with
 |len=>
  refine Aa hv λx q e=>?_
  subst q
  obtain⟨u,rfl,rx⟩:=rv.one
  refine oE e (λ_ e=>oN e λq h1 e=>oN h1 λo h2 h3=>oN h2 λi h4 h5=>?_) λq h1 e=>?_
  ·obtain⟨p,z,hp⟩:=V.jY h4 rx
   rw[Cm h3]at h5
   obtain⟨q2,hx,l,a,b⟩:=(W.R.obj _ _ _ h5 hp:lb W.h p q.1 q.2.1 q.2.2)
   rw[z]
   have lt:q.2.1+q.2.2≤2000000:=Zu (Xn (V2 a) b) (by decide)
   exact Qz (LstAt.iV hx) (by rw[Zy,l];exact fits lt) (tY (by rw[←Za e]at he;exact he) (by rw[Zy,l];rfl))
  ·rw[←Za e]at he
   cases oW rx h1 with
   |l _ z=>
    obtain⟨z,g,rs,l⟩:=z
    rw[z]
    exact Qz (LstAt.iV g) (by rw[Zy];exact fits l) (tY he (by rw[Zy,dH,rs.len]))
   |t _ z g rs l=>
    rw[z]
    exact Lh g (by rw[Zy];exact fits l) (tY he (by rw[Zy,dH,rs.len]))
 |isinstance=>
  refine w6 hv λx k q e=>?_
  subst q
  obtain⟨u,w,rfl,rx,rk⟩:=rv.two
  exact oN e λb h1 e=>XA rx rk h1 λtk=>.mk (W.tok tk) v he.symm (.tok W tk) ((Za e)▸rfl)
 |abs=>
  refine Aa hv λx q e=>?_
  subst q
  obtain⟨u,rfl,rx⟩:=rv.one
  refine oN e λi h1 e=>?_
  rw[←Za e]at he
  obtain⟨t,z⟩:=V.cU h1 rx
  rw[z]
  exact call_abs_int λu tk=>tY he (by rw[abs_eq])
 |min=>
  refine w6 hv λx y q e=>?_
  subst q
  obtain⟨u,w,rfl,rx,ry⟩:=rv.two
  refine oN e λi h1 e=>oN e λj h2 e=>?_
  obtain⟨t,z⟩:=V.cU h1 rx
  obtain⟨t2,z2⟩:=V.cU h2 ry
  rw[z,z2]
  cases hd with
  |true=>exact aF e
  |false=>
   rw[←Za e]at he
   refine min_two_ints (hh rfl) λh' tk k=>?_
   by_cases q:j<i
   ·rw[Y6 q]at he;rw[if_pos q];exact grown k he rfl
   ·rw[Ym q]at he;rw[if_neg q];exact grown k he rfl
 |sum=>
  refine Aa hv λx q e=>?_
  subst q
  obtain⟨u,rfl,rx⟩:=rv.one
  refine oN e λxs h1 e=>oN e λn h2 e=>?_
  cases hd with
  |true=>exact aF e
  |false=>
   refine bN e λg e=>bA g λg1 g2=>?_
   rw[←Za e]at he
   obtain⟨z,hl,rs,ll⟩:=mW rx h1
   obtain⟨q,s,bd⟩:=ints_of rs h2 g2
   have pl:=oC rs g1
   rw[q,Yi]at pl
   rw[z]
   refine sum_intList (hh rfl) (by
    have z:=LstAt.iV hl
    rw[q,←List.map_toArray]at z
    exact z) (λj hj=>ajA pl bd hj) λh' tk t' k=>grown k he (by rw[ady,s])
end
end Mine
namespace Mine
theorem tZ{α β:Type}{l:Zb α}{f:α→Res β}{r:Res β}{P:Prop}(e:one l .bad f=r)(hb:r≠.bad)(k:∀x,l=[x]→f x=r→P):P:=by
 rcases l with _|⟨x,_|⟨y,q⟩⟩
 ·exact Y8 e.symm hb
 ·exact k x rfl e
 ·exact Y8 e.symm hb
inductive JG(W:Wd)(es:Zb (AV×AV))(d:Zj):Prop
 |mk{kvs:Zb (Str×Zf)}(hd:W.h.DictOf T.sk d kvs)(r:cu W.Y W.h es kvs)
theorem abw{W:Wd}{p:Zj×Zd Zj}{es:Zb (AV×AV)}(ro:eB W.Y W.h p es)(sy:aM (λp:AV×AV=>aT (cY p.1)) es=true):JG W es p.1:=by
 cases es with
 |nil=>exact .mk (kvs:=[]) ro.emp.st rfl
 |cons x es=>
  have hk:aT (cY x.1)=true:=by
   cases q:aT (cY x.1)with
   |true=>rfl
   |false=>rw[show aM (λp:AV×AV=>aT (cY p.1)) (x::es)=Zp false (aM _ es) (aT (cY x.1)) from rfl,q]at sy;exact aA sy
  cases ro with
  |s _ hd r=>exact .mk hd r
  |i _ hd r=>obtain⟨_,q,_⟩:=(r:fP _ _ _ x.1 _ _ _);rw[q]at hk;exact aA hk
  |t _ hd r=>obtain⟨_,q,_⟩:=(r:fP _ _ _ x.1 _ _ _);rw[q]at hk;exact aA hk
theorem XJ{Y Y':Ly}{h h':Yc}{es:Zb (AV×AV)}:∀{kvs:Zb (Str×Zf)}{vs:Zb Zf},cu Y h es kvs→vs.length=kvs.length→(∀(j:Zc)(v:Zf),vs[j]?=some v→∃k x,kvs[j]?=some (k,x)∧T.sk.is k v=true)→Vs Y' h' (es.map (·.1)) vs:=by
 induction es with
 |nil=>
  intro kvs vs r l _
  rw[show kvs=[] from r]at l
  cases vs with
  |nil=>exact rfl
  |cons _ _=>exact nomatch l
 |cons e es ih=>
  intro kvs vs r l k
  obtain⟨rfl,hk,hn,_,b⟩:=(r:gW e.1 (V Y h e.2) (cu Y h es) kvs)
  cases vs with
  |nil=>exact nomatch l
  |cons v vs=>
   obtain⟨y,w,q,z⟩:=k 0 v rfl
   have q:=Ze Xq (Za q)
   obtain⟨t,ev⟩:=Value.isStrOf_shape z
   refine .cons ?_ (ih b (Uh l) λj v e=>k (j+1) v e)
   show V Y' h' e.1 v
   rw[hk]
   exact⟨y,t,ev,hn.trans (Ze some q)⟩
theorem cu.len{Y:Ly}{h:Yc}{es:Zb (AV×AV)}:∀{kvs:Zb (Str×Zf)},cu Y h es kvs→es.length=kvs.length:=by
 induction es with
 |nil=>exactλr=>by rw[show _=[] from r];rfl
 |cons e es ih=>
  intro kvs r
  obtain⟨rfl,_,_,_,b⟩:=(r:gW e.1 (V Y h e.2) (cu Y h es) kvs)
  exact Ze (·+1) (ih b)
section
variable{W:Wd}{A:Yu}{E:Zf→Zs→Prop}{hd:Zh}{r:Res AV}
theorem G3{h':Yc}{tk c:Zc}{xs:Zb AV}{vs:Zb Zf}(k:∀(b:Zj)(o:Obj),W.h.get? b=some o→h'.get? b=some o)(e:h'.get? W.h.objs.size=some (listOf vs.toArray c))(rv:W.Vs xs vs)(l:vs.length≤2000000)(hr:.ok (.ref W.H.size) (W.H.push (.list xs))=r):aS VV W r (.ref W.h.objs.size) {W.s with heap:=h',toks:=tk}:=
 .new (q:=(W.h.objs.size,none)) hr.symm (λb f=>jX f▸⟨(W.fresh (Yg _)).1,_,e⟩) (.all k) (λY' m=>eU.mk rfl e (rv.mono m) l) λW' _ e=>⟨_,rfl,e⟩
theorem aj5(hh:hd=false→A.handled=none){U:Ty}{args:Zb AV}{us:Zb Zf}(rv:W.Vs args us)(hr:I5 T.S hd U args W.H=r)(hb:r≠.bad):wpAny T.M A (call (.type U.name) us) (aS VV W r) E W.s:=tZ hr hb λx q he=>by
 subst q
 obtain⟨u,rfl,rx⟩:=rv.one
 cases U with
 |int=>
  refine oB he hb λb h1 he=>?_
  rw[V.mB h1 rx]
  exact call_int_bool (tY he (by cases b<;>rfl))
 |range=>
  refine oB he hb λn h1 he=>bB he hb λg he=>?_
  obtain⟨t,z⟩:=V.cU h1 rx
  rw[z]
  exact call_range_1 (.fz he.symm rfl λW' _ f=>jI.mk rfl (Zm g) f)
 |list=>
  cases hd with
  |true=>exact Y8 he.symm hb
  |false=>
   refine oB he hb λxs h1 he=>oO h1 (λh1=>?_) λh1=>oN h1 λes h2 h1=>bN h1 λg h1=>bA g λg1 g2=>oN h2 λo h3 h4=>oN h3 λi h5 h6=>?_
   ·obtain⟨z,hl,rs,ll⟩:=mW rx h1
    rw[z]
    exact call_list_seq _ (.inl rfl) hl rfl rfl (λh' c' k cH=>G3 (tk:=W.s.toks) k cH rs ll he) (by rw[Wa,Zy];exact Zu ll (by decide))
   ·obtain⟨p,z,hp⟩:=V.jY h5 rx
    rw[pd h4]at h6
    obtain⟨UW,rk⟩:=abw (W.R.obj _ _ _ h6 hp) g2
    have g1:=Zm g1
    rw[dH,rk.len]at g1
    have g3:=big g1
    obtain⟨ep,yr⟩:=UW.dictAt
    rw[z]
    refine kdl_call (kdl_dict (knd:=T.sk) (ep:=ep) (noSys (o:=default) (.inl (W.R.sub _ (.mk hp (.x rfl)))))) (hh rfl) yr (kQ g1) λh' tk acc c' hk hD yp=>?_
    refine G3 (vs:=acc.toList) (c:=c') hk (by rw[Array.toArray_toList];exact hD) ?_ (by rw[Tx,yp.1];exact g3) he
    rw[←Za h1,lJ]
    exact XJ rk (by rw[Tx];exact yp.1) λj v e=>yp.2 j v (by rw[←Q9];exact e)
 |_=>exact Y8 he.symm hb
end
end Mine
namespace Mine
theorem N2{M:Model}{A:Yu}{E:Zf→Zs→Prop}{s:Zs}{f:Zf}{Q:Args→Zs→Prop}:∀{args:Zb (Zh×Sem Zf)},(∀x∈args,x.1=false)→wpAny M A (spliced args) (λvs s'=>Q ⟨vs,[]⟩ s') E s→wpAny M A (evalArgs f true args []) Q E s
 |[],_,h=>by
  unfold evalArgs
  show wpAny M A (spliced []>>=_) Q E s
  refine Zg (Y9 h (λvs s' h'=>?_) λ_ _ x=>x)
  exact Zg (Zq (Y0 (Zg (Zq (Zg (Zq (Zq h')))))))
 |(b,x)::r,hp,h=>by
  obtain rfl:b=false:=hp _ (.head _)
  exact evalArgs_plain h
theorem xR{M:Model}{A:Yu}{E:Zf→Zs→Prop}{s:Zs}{pos:Pos}{f:Zf}{first:Zb Zf}{Q:Zf→Zs→Prop}{args:Zb (Zh×Sem Zf)}(hp:∀x∈args,x.1=false)
  (h:wpAny M A (spliced args) (λvs rL=>p8 M f rL.heap∧wpAny M A (call f (first++vs)) Q E rL) E s):wpAny M A (callWith pos f first args []) Q E s:=by
 have yB:args.any (·.1)=false:=List.any_eq_false.mpr λx hx=>tR (hp x hx)
 unfold callWith
 refine Zg (Y0 (N2 hp (Y9 h (λvs rL FG=>Zg (Yw ?_)) λ_ _ x=>x)))
 obtain⟨k,L⟩:=FG.1
 simp only[yB,List.any_nil,Bool.or_false]
 refine Zg (L.here ?_)
 have h2:=FG.2
 have tail:∀{t:Sem Zf},wpAny M A t Q E rL→wpAny M A (t>>=λr=>W8 [r] point>>=λ_=>pure r) Q E rL:=
  λht=>Zg (Y9 ht (λr akE hr=>Zg (Y0 (wpAny_point (Zq hr)))) λ_ _ x=>x)
 have marked (mk:Zf):wpAny M A (callMarked mk f (first++vs) []) Q E rL:=by unfold callMarked;exact Calls.wpAny_keep h2
 cases k<;>dsimp only<;>first|exact tail h2|exact tail (Ti h2)|(split<;>first|exact tail h2|exact tail (marked _))
section
variable{n:Zc}{cx:aQ}{c:bc}
theorem args_call(hc:gD n c){args:Zb PE}{ms:Zh→Fm→AM (Zb AV)}(hp:∀env pos,∀x∈backTo pos (Xj args env),x.1=false)(ja:o9 n cx args ms){k:Cn}{env:Env}{fm:Fm}{W:Wd}{pos:Pos}{fv:AV}{u:Zf}{fst:Zb AV}{first:Zb Zf}
  (g:Gd n cx k env fm W)(rf:W.V fv u)(r1:W.Vs fst first)(l1:fst.length≤1):bh k VV W (AM.bind (ms k.hd fm) (λvs=>pw vs (c k.hd fv (aD fst vs))) W.H) (callWith pos u first (backTo pos (Xj args env)) []):=.of λr hr hb=>
 xR (hp env pos) (Y9 (ja g (iF hr hb)) (λus s1 z=>by
  obtain⟨W1,vs,e1,le,rv⟩:=z
  refine bB ((gf e1).symm.trans hr) hb λg1 hr=>?_
  have ra:=Vs.app rv (le.vs r1)
  rw[mw]at hr
  have z:=hc g.n (g.le le).a (le.v rf) ra (by
   rw[Yk,←r1.len]
   exact Zu (Xn l1 (oC rv g1)) (by decide)) hr hb
  exact⟨z.1,Y9 z.2 (λ_ _ z=>z.step le) λ_ _ z=>z.step le λ_ _=>id⟩) λe s' z=>z.step (.refl W) λi H e=>hr.symm.trans (jL e))
theorem aio(hc:gD n c){f:PE}{args:Zb PE}{p:Pos}{mf:Zh→Fm→AM AV}{ms:Zh→Fm→AM (Zb AV)}(na:∀env,eval (.Call f args [] p) env=(do let fv←eval f env;callWith p fv [] (backTo p (Xj args env)) []))(hp:∀env pos,∀x∈backTo pos (Xj args env),x.1=false)
  (jf:aP n cx f mf)(ja:o9 n cx args ms):aP n cx (.Call f args [] p) (λhd=>za c hd (mf hd) (ms hd)):=λ{k env fm W} g=>
 .cast (.bind (jf g) λW1 x u _ le v=>args_call hc hp ja (g.le le) v (fst:=[]) (first:=[]) rfl (Yt _)) (na env)
end
end Mine
namespace Mine
def iA(W:Wd)(i:Zc)(b:String)(fv:Zf)(first:Zb Zf):Prop:=∃p,W.Y.ρ i=some p∧fv=.builtin b∧first=[.ref p.1]
structure FnAt(W:Wd)(f:AV)(fst:Zb AV)(fv:Zf)(first:Zb Zf):Prop where
 v:W.V f fv
 vs:W.Vs fst first
 l:fst.length≤1
def MethAt(W:Wd)(me:Meth):Zf→Zb Zf→Prop:=Meth.casesOn (motive:=λ_=>Zf→Zb Zf→Prop) me (FnAt W) (λi=>iA W i "list.append") (λi=>iA W i "list.extend") (λi=>iA W i "list.pop")
 (λv fv first=>∃u,W.V v u∧fv=.builtin "dict.get"∧first=[u]) (λi=>iA W i "dict.get") (λi=>iA W i "list.append") (λi=>iA W i "dict.values") (λfv first=>fv=.builtin "ValueError.__init__"∧first=[])
theorem iA.le{W W':Wd}(le:Le W W'){i:Zc}{b:String}{fv:Zf}{first:Zb Zf}(x:iA W i b fv first):iA W' i b fv first:=x.elim λp z=>(le.mono.ids _ _ z.1).elim λq e=>⟨(p.1,q),e,z.2⟩
theorem MethAt.le{W W':Wd}(le:Le W W'){me:Meth}{fv:Zf}{first:Zb Zf}:MethAt W me fv first→MethAt W' me fv first:=
 Meth.casesOn (motive:=λme=>MethAt W me fv first→MethAt W' me fv first) me (λ_ _ x=>⟨le.v x.v,le.vs x.vs,x.l⟩) (λ_=>iA.le le) (λ_=>iA.le le) (λ_=>iA.le le) (λ_ x=>x.elim λu z=>⟨u,le.v z.1,z.2⟩) (λ_=>iA.le le) (λ_=>iA.le le) (λ_=>iA.le le) λx=>x
section
variable{W:Wd}{A:Yu}{E:Zf→Zs→Prop}{i:Zc}{p:Zj×Zd Zj}{vs:Zb AV}{us:Zb Zf}{r:Res AV}
theorem Gs(h2:W.H.get i=some (.list vs))(hp:W.Y.ρ i=some p):eU W.Y W.h p vs:=W.R.obj _ _ _ h2 hp
theorem ZJ(hp:W.Y.ρ i=some p)(rv:W.Vs vs us)(hr:one vs .bad (λv=>AM.bind (pb i v) (λ_=>AM.pure .none) W.H)=r)(hb:r≠.bad):wpAny T.M A (call (.builtin "list.append") (.ref p.1::us)) (aS VV W r) E W.s:=tZ hr hb λx q hr=>by
 subst q
 obtain⟨u,rfl,rx⟩:=rv.one
 exact Cj hp rx rfl (iF hr hb) λW' h5 a5=>.mk W' .none (hr.symm.trans (gf h5)) a5.le rfl
theorem ZK(hp:W.Y.ρ i=some p)(rv:W.Vs vs us)(hr:one vs .bad (λ_=>aa (aq (W.H.get i) uH) .bad λq=>ae (Zl q.2.2 1000) (.ok .none (W.H.set i (.iG q.1 q.2.1 (Zk q.2.2)))) .bad)=r)(hb:r≠.bad):wpAny T.M A (call (.builtin "list.append") (.ref p.1::us)) (aS VV W r) E W.s:=
 tZ hr hb λx q he=>oB he hb λq' h1 he=>bB he hb λg he=>oN h1 λo h2 h3=>by
 subst q
 obtain⟨u,rfl,rx⟩:=rv.one
 rw[Cm h3]at h2
 obtain⟨q2,hx,l,a,b⟩:=(W.R.obj _ _ _ h2 hp:lb W.h p q'.1 q'.2.1 q'.2.2)
 have g:=Zm g
 refine Rm ⟨_,hx⟩ (λh' pl sb=>?_) (by rw[Zy,l,Wa];exact Zu (Xn (V2 a) g) (by decide))
 obtain⟨n',pl⟩:=pl
 rw[Pi]at pl
 exact .turn (o:=.iG q'.1 q'.2.1 (q'.2.2+1)) (tk:=W.s.toks) he.symm hp (.x rfl) sb ⟨_,pl⟩ (λY' m=>lb.mk q2 pl (by rw[Yk,l];rfl) a (X8 g)) λ_ _=>rfl
theorem ZN(hp:W.Y.ρ i=some p)(rv:W.Vs vs us)(hr:one vs .bad (λv=>aa (aq (W.H.get i) jg) .bad λxs=>aa (jv T.S W.H v) .bad λys=>ae (ak (apart i v) (Zl (Zn (aJ xs) (aJ ys)) ez)) (.ok .none (W.H.set i (.list (aD xs ys)))) .bad)=r)(hb:r≠.bad):
  wpAny T.M A (call (.builtin "list.extend") (.ref p.1::us)) (aS VV W r) E W.s:=tZ hr hb λx q he=>oB he hb λxs h1 he=>oB he hb λys h4 he=>bB he hb λg he=>bA g λ_ g=>oN h1 λo h2 h3=>by
 subst q
 obtain⟨u,rfl,rx⟩:=rv.one
 rw[uN h3]at h2
 cases Gs h2 hp with
 |@mk ws n q2 hx rl ll=>
  cases mW rx h4 with
  |@mk l zs m q3 hl rs _=>
   have g:aJ xs+aJ ys≤ez:=Zm g
   rw[dH,dH,rl.len,rs.len]at g
   have sz:ws.length+zs.length≤sizeLine:=kQ g
   rw[q3]
   refine R6 Rf ⟨_,hx,rfl⟩ PySem.F.entry_list_extend (PySem.F.args_list_extend_2 _ _) (PySem.AutoSeq1.list_extend_list_list_0 p.1 ws.toArray n l zs.toArray m ?_ ?_ ?_) ⟨hx,hl,?_⟩
   ·rw[Zy,Zy]
    unfold Wy
    rw[Ym (Nat.not_lt.mpr sz),Us];exact Yn
   ·rw[Zy];exact Zu (Xu ..) sz
   ·rw[Zy,Zy];exact Zu sz (Uu _)
   have cH:=Ys (U5 λx=>x++zs.toArray) hx rfl
   have e2:∃n',U5 (λx=>x++zs.toArray) (listOf ws.toArray n)=listOf (ws++zs).toArray n':=⟨_,Ze (listOf · _) (Tt ..)⟩
   obtain⟨n',e2⟩:=e2
   exact .turn (o:=.list (aD xs ys)) (tk:=W.s.toks) he.symm hp (.x rfl) (Xp ..) ⟨_,cH⟩ (λY' m=>eU.mk q2 (cH.trans (Ze some e2)) (by rw[mw];exact Vs.app (rs.mono m) (rl.mono m)) (by rw[Yk];exact big g)) λ_ _=>rfl
end
end Mine
namespace Mine
theorem ake{prog:Program}{w:Yo}{d:Zj}{A:Yu}{E:Zf→Zs→Prop}{s:Zs}(hd:(d==Xl)=false){o:Obj}{es:X9 Y4}{ep:Zc}(ho:s.heap.get? d=some o)(hx:o.ExactDict){Q:Zf→Zs→Prop}
  (h:Q (.ref s.heap.objs.size) {s with heap:=s.heap.push {cls:=.type "dict_values",data:=.fields #[.ref d]}}):wpAny (model prog w) A (call (.builtin "dict.values") [.ref d]) Q E s:=by
 have hT:s.TypeIs (.ref d) "dict":=⟨o,ho,hx.1⟩
 refine U4 Rg hT PySem.F.entry_dict_values ?_ (PySem.F.args_dict_values_1 _)
 refine Zg ?_
 unfold Builtin.Dict.noArgs
 refine Zg (wpAny_notOrdered_dict hT ?_)
 show wpAny _ _ (pure d) _ _ s
 refine Zq ?_
 show wpAny _ _ (Q8 d>>=_) _ _ s
 unfold Q8
 rw[if_neg (by rw[hd];exact Yn)]
 refine Zg (Zq ?_)
 exact Zg (V8 (Zq ⟨_,rfl,h⟩))
theorem adw{ws:Zb Zf}{n:Zc}:∃n',U5 (λxs=>xs.eraseIdxIfInBounds (ws.toArray.size-1)) (listOf ws.toArray n)=listOf (ws.take (ws.length-1)).toArray n':=by
 have e:ws.toArray.eraseIdxIfInBounds (ws.toArray.size-1)=(ws.take (ws.length-1)).toArray:=by
  cases ws with
  |nil=>rfl
  |cons a r=>
   unfold Array.eraseIdxIfInBounds
   rw[dif_pos (show(a::r).toArray.size-1<(a::r).toArray.size from We _)]
   apply Array.ext'
   rw[Array.toList_eraseIdx,List.eraseIdx_eq_take_drop_succ]
   show List.take r.length (a::r)++List.drop (r.length+1) (a::r)=List.take r.length (a::r)
   exact(Ze (_++·) (List.drop_eq_nil_of_le (as:=a::r) (Yg (r.length+1)))).trans (X4 _)
 exact⟨_,Ze (listOf · _) e⟩
section
variable{W:Wd}{A:Yu}{E:Zf→Zs→Prop}{i:Zc}{p:Zj×Zd Zj}{vs:Zb AV}{us:Zb Zf}{r:Res AV}
theorem G5{α β:Type}{l:Zb α}{t r:Res β}{P:Prop}(e:Zo (motive:=λ_=>Res β) t (λ_ _ _=>.bad) l=r)(hb:r≠.bad)(k:l=[]→t=r→P):P:=by
 cases l with
 |nil=>exact k rfl e
 |cons _ _=>exact Y8 e.symm hb
theorem ZP(hp:W.Y.ρ i=some p)(rv:W.Vs vs us)(hr:Zo (motive:=λ_=>Res AV) (aa (aq (W.H.get i) jg) .bad λxs=>aa (aB xs (Vb (aJ xs))) .bad λv=>.ok v (W.H.set i (.list (iI xs (Vb (aJ xs)))))) (λ_ _ _=>.bad) vs=r)(hb:r≠.bad):
  wpAny T.M A (call (.builtin "list.pop") (.ref p.1::us)) (aS VV W r) E W.s:=G5 hr hb λq he=>oB he hb λxs h1 he=>oB he hb λv h4 he=>oN h1 λo h2 h3=>by
 rw[q]at rv
 rw[rv.kP]
 rw[uN h3]at h2
 cases Gs h2 hp with
 |@mk ws n q2 hx rl ll=>
  obtain⟨u,hu,ru⟩:=rl.get h4
  rw[dH,rl.len]at hu
  refine R6 Q7 ⟨_,hx,rfl⟩ PySem.F.entry_list_pop (PySem.F.args_list_pop_1 _) (PySem.MeetsSeq.list_pop_last p.1 ws.toArray n u ((Xr ..).trans hu) (by rw[Wa,Zy];exact Zu ll (by decide))) ⟨hx,?_⟩
  have cH:=Ys (U5 λxs=>xs.eraseIdxIfInBounds (ws.toArray.size-1)) hx rfl
  obtain⟨n',e2⟩:=adw (ws:=ws) (n:=n)
  exact .turn (o:=.list (iI xs (Vb (aJ xs)))) (tk:=W.s.toks) he.symm hp (.x rfl) (Xp ..) ⟨_,cH⟩ (λY' m=>eU.mk q2 (cH.trans (Ze some e2)) (by rw[IS,dH,rl.len];exact(rl.take _).mono m) (by rw[U7];exact Zu (U6 ..) ll)) λW' le=>le.v ru
theorem some_or{o:Zd AV}{o':Zd Zf}{x:AV}{u:Zf}(v:fB W.Y W.h o o')(d:W.V x u):W.V (aa o x λv=>v) (o'.getD u):=by
 cases o with
 |none=>rw[show o'=none from v];exact d
 |some a=>obtain⟨w,q,z⟩:=(v:∃w,o'=some w∧W.V a w);rw[q];exact z
theorem ZL(hu:A.units+1<cLine){d:AV}{du:Zf}(rd:W.V d du)(rv:W.Vs vs us)(hr:Zo (motive:=λ_=>Res AV) .bad (λk r _=>aa (sM T.S W.H d k) .bad λo=>Zo (.ok (aa o .none λv=>v) W.H) (λx r _=>Zo (.ok (aa o x λv=>v) W.H) (λ_ _ _=>.bad) r) r) vs=r)(hb:r≠.bad):
  wpAny T.M A (call (.builtin "dict.get") (du::us)) (aS VV W r) E W.s:=by
 cases vs with
 |nil=>exact Y8 hr.symm hb
 |cons k vs=>
  obtain⟨q,rk,rv⟩:=rv.inv
  refine oB hr hb λo e he=>?_
  obtain⟨q2,ns,dk,v⟩:=y0 rd rk e
  rw[q,q2]
  cases vs with
  |nil=>
   rw[rv.kP]
   exact Ej hu ns dk λtk=>.mk (W.tok tk) _ he.symm (.tok W tk) (some_or v (show W.V .none .none from rfl))
  |cons x vs=>
   obtain⟨q3,rx,rv⟩:=rv.inv
   cases vs with
   |cons _ _=>exact Y8 he.symm hb
   |nil=>
    rw[q3,rv.kP]
    exact Nu hu ns dk λtk=>.mk (W.tok tk) _ he.symm (.tok W tk) (some_or v rx)
inductive BJ(W:Wd)(a b:Zc)(u:Zf):Prop
 |mk{y z:Str}{l:Zj}{o:Obj}(q:u=.ref l)(h1:T.S.nm a=some y)(h2:T.S.nm b=some z)(k:IsTupleKey T.sk W.h [y,z] l)(f:Fz W.Y W.h l o)
theorem IE{k:AV}{u:Zf}(r:W.V k u){q:Zc×Zc}(e:rK k=some q):k=.tup [.sy q.1,.sy q.2]∧BJ W q.1 q.2 u:=oN e λxs h1 e=>w6 e λx y hx e=>oN e λa h2 e=>oN e λb h3 e=>by
 have ek:=nQ h1
 rw[hx,jj h2,jj h3]at ek
 rw[←Za e]
 refine⟨ek,?_⟩
 obtain⟨q1,rv,_,f,hc,hd⟩:=V.j7 h1 r
 rw[hx]at rv
 obtain⟨e1,x1,rv⟩:=rv.inv
 obtain⟨e2,x2,rv⟩:=rv.inv
 obtain⟨y,t,e3,hy⟩:=V.gU h2 x1
 obtain⟨z,t2,e4,hz⟩:=V.gU h3 x2
 rw[e1,e2,e3,e4,rv.kP]at hd
 exact .mk q1 hy hz ⟨_,_,_,f.g,hc,hd,.cons (V0 _ _ _ _) (.cons (V0 _ _ _ _) .nil)⟩ f
theorem E3(hp:W.Y.ρ i=some p):(p.1==Xl)=false:=noSys (o:=default) (.inl (W.R.sub _ (.mk hp (.x rfl))))
theorem ZO(hu:A.units+1<cLine)(hp:W.Y.ρ i=some p)(rv:W.Vs vs us)(hr:one vs .bad (λk=>aa (aq (W.H.get i) uM) .bad λes=>aa (aq (rK k) λs=>gv s.1 s.2 es) .bad λv=>.ok v W.H)=r)(hb:r≠.bad):wpAny T.M A (call (.builtin "dict.get") (.ref p.1::us)) (aS VV W r) E W.s:=
 tZ hr hb λx q he=>oB he hb λes h1 he=>oB he hb λv h4 he=>oN h1 λo h2 h3=>oN h4 λs h5 h6=>by
 subst q
 obtain⟨u,rfl,rx⟩:=rv.one
 obtain⟨_,q,hy,hz,hk,_⟩:=IE rx h5
 rw[J6 h3]at h2
 obtain⟨_,hd,_,a,_,_⟩:=(W.R.obj _ _ _ h2 hp:iK W.Y W.h p es)
 rw[q]
 exact Ej hu (E3 hp) (Dk.tup rfl hk hd rfl) λtk=>.mk (W.tok tk) v he.symm (.tok W tk) (a _ _ _ _ _ hy hz h6)
theorem m_values(hp:W.Y.ρ i=some p)(rv:W.Vs vs us)(hr:Zo (motive:=λ_=>Res AV) (aa (aq (W.H.get i) nO) .bad λes=>ae (Zl (aJ es) ez) (.ok (.vals i (aJ es)) W.H) .bad) (λ_ _ _=>.bad) vs=r)(hb:r≠.bad):wpAny T.M A (call (.builtin "dict.values") (.ref p.1::us)) (aS VV W r) E W.s:=
 G5 hr hb λq he=>oB he hb λes h1 he=>bB he hb λg he=>oN h1 λo h2 h3=>by
 rw[q]at rv
 rw[rv.kP]
 rw[pd h3]at h2
 have ro:eB W.Y W.h p es:=W.R.obj _ _ _ h2 hp
 have fin:∀{o:Obj}{jN:X9 Y4}{ep:Zc},W.h.get? p.1=some o→o.ExactDict→o.data=.dict jN ep→wpAny T.M A (call (.builtin "dict.values") [.ref p.1]) (aS VV W r) E W.s:=λ{o jN ep} a b d=>
  ake (E3 hp) (es:=jN) (ep:=ep) a b (.fz (tk:=W.s.toks) he.symm rfl λW' le f=>(le.mono.ids _ _ hp).elim λq' z=>jJ.mk rfl z (Zm g) f)
 cases ro with
 |s _ hd _=>obtain⟨_,_,_,a,b,d,_⟩:=hd;exact fin a b d
 |i _ hd _=>obtain⟨_,_,_,a,b,d,_⟩:=hd;exact fin a b d
 |t _ hd _=>obtain⟨_,_,_,a,b,d,_⟩:=hd;exact fin a b d
end
end Mine
namespace Mine
theorem Kt{prog:Program}{w:Yo}{A:Yu}{E:Zf→Zs→Prop}{s:Zs}{e:Zj}{v v0:Zf}{ob:Obj}{vs:X9 Zf}{Q:Fin→Zs→Prop}(he:s.heap.get? e=some ob)(hd:ob.data=.fields vs)(h0:vs[0]?=some v0)
  (h:Q (.done (.ret .none)) {s with heap:=(s.heap.push {cls:=.type "tuple",data:=.seq #[v]}).update e (Yx (·.setIfInBounds 0 (.ref s.heap.objs.size)))}):
  wpAny (model prog w) A (Builtin.«BaseException.__init__» ⟨[.ref e,v],[]⟩) Q E s:=by
 unfold Builtin.«BaseException.__init__»
 dsimp only
 rw[if_neg (by simp)]
 unfold newTuple Builtin.BaseException.bexcPut
 have jr:0<vs.size:=(Array.getElem?_eq_some_iff.mp h0).1
 have Fu:=Zv (h:=s.heap) {cls:=.type "tuple",data:=.seq #[v]} he
 refine Zg (V8 (Zg (Zg (W9 Fu hd h0 (Zg (Va Fu hd jr ?_))))) (by size_fits))
 cases v0<;>first|exact wpAny_letGo (Zq h)|exact Zq (Zq h)
theorem WH{M:Model}{A:Yu}{E:Zf→Zs→Prop}{h:Yc}{g:X9 GenState}{d:Drawn}{t:Zc}{os:Ye}{nm q:Str}{C N:Zj}{bs bm:Zb Zf}{lE:Zh}{sn:Zb Str}{sub:Zb Zf}{ab:Zh}{col:Zd Zh}{dd:Zd Zj}{k0 k1 k2 k3 k5:Zd Zf}
  {e:Zj}{oe:Obj}{rest:Zb Zf}{Q:Unit→Zs→Prop}(hC:h.get? C=some (excClassObj nm q C N bs bm lE sn sub ab col dd k0 k1 k2 k3 k5 "ValueError.__new__"))(h1:bm.contains (.type "ValueError")=true)(he:h.get? e=some oe)(UT:oe.cls=.ref C)(hq:Q () ⟨h,g,d,t,os⟩):
  wpAny M A (checkBuiltinCall "ValueError.__init__" ⟨.ref e::rest,[]⟩) Q E ⟨h,g,d,t,os⟩:=by
 have F:=Wg
 have UR:(X3 C::bm).contains (.type "ValueError")=true:=by rw[V3,h1,Te]
 have akw:=F.noStar
 simp only[checkBuiltinCall,F.initKind,F.initSplit,F.initRow]
 repeat(first|(with_reducible refine Wo he ?_;rw[UT])|with_reducible refine Wo hC ?_|(with_reducible refine Vk hC ?_;rw[UR])|wp_step)
 refine wpAny_onRaise ?_
 rw[show∀(a b:String)(n:Zc),Bind.check ⟨.positional,"*","ValueError",.self,[⟨"args",.varPos,false⟩]⟩ a b n (U2 (λx=>x.fst) ({pos:=X3 e::rest}:Args).kw)=pure () from
  λa b n=>check_star_args _ _ _ _ _ _]
 exact Zq hq
theorem N8{prog:Program}{w:Yo}{A:Yu}{E:Zf→Zs→Prop}{s:Zs}{e C:Zj}{v v0:Zf}{ob:Obj}{vs:X9 Zf}{Q:Zf→Zs→Prop}(X:nK s.heap C)(he:s.heap.get? e=some ob)(hc:ob.cls=.ref C)(hd:ob.data=.fields vs)(h0:vs[0]?=some v0)
  (h:Q .none {s with heap:=(s.heap.push {cls:=.type "tuple",data:=.seq #[v]}).update e (Yx (·.setIfInBounds 0 (.ref s.heap.objs.size)))}):
  wpAny (model prog w) A (call (.builtin "ValueError.__init__") [.ref e,v]) Q E s:=by
 obtain⟨nm,q,N,bs,bm,lE,sn,sub,ab,col,dd,k0,k1,k2,k3,k5,hC,m1,m2,m3⟩:=X.obj
 have F:=Wg
 obtain⟨hp,g,d,tk,os⟩:=s
 refine S6 (Tk F.init.plain F.initEntry ?_)
 exact WH hC m1 he hc (Kt he hd h0 h)
noncomputable def ui(h:Yc)(x1:Zj)(x:Zf):Yc:=(h.push {cls:=.type "tuple",data:=.seq #[x]}).update x1 (Yx (·.setIfInBounds 0 (.ref h.objs.size)))
section
variable{W:Wd}{A:Yu}{E:Zf→Zs→Prop}{i:Zc}{p:Zj×Zd Zj}{vs:Zb AV}{us:Zb Zf}{r:Res AV}{C:Zj}{fs:Zb (Zc×AV)}
theorem EA(er:r=.ok .none (W.H.set i (.exc C fs)))(hp:W.Y.ρ i=some p)(ex:nK W.h C){ob:Obj}{ws:X9 Zf}{x:Zf}(cH:W.h.get? p.1=some ob)(hc:ob.cls=.ref C)(hd:ob.data=.fields ws)(sz:ws.size=6∧ws[1]?=some .none)
  (fin:∀(h':Yc)(rn:Obj)(uv:X9 Zf)(Y':Ly),cO W.Y W.h Y' h'→h'.get? p.1=some rn→rn.cls=ob.cls→rn.dict=ob.dict→rn.data=.fields uv→uv.size=6∧uv[1]?=some .none→(∀b,b≠p.1→∀o,W.h.get? b=some o→h'.get? b=some o)→RO Y' h' p (.exc C fs)):
  wpAny T.M A (call (.builtin "ValueError.__init__") [.ref p.1,x]) (aS VV W r) E W.s:=by
 refine N8 ex cH hc hd (v0:=ws[0]'(by rw[sz.1];decide)) (Vj _) ?_
 have lt:=(W.R.len i).mpr ⟨p,hp⟩
 have d3:=X6 hd (·.setIfInBounds 0 (.ref W.h.objs.size))
 have self:(ui W.h p.1 x).get? p.1=some (Yx (·.setIfInBounds 0 (.ref W.h.objs.size)) ob):=Ys _ (Zv _ cH) (Wm d3)
 have kp:∀b,b≠p.1→∀o,W.h.get? b=some o→(ui W.h p.1 x).get? b=some o:=λb n o e=>(Xo _ _ (Ve n)).trans (Zv _ e)
 have pr:∀(b:Zj)(ob:Obj),W.h.get? b=some ob→∃o',(ui W.h p.1 x).get? b=some o':=λb ob e=>(Xx (b=p.1)).elim (λq=>⟨_,(Ze (ui W.h p.1 x).get? q).trans self⟩) λq=>⟨ob,kp b q ob e⟩
 refine .put (h':=ui W.h p.1 x) (tk:=W.s.toks) er (λp' e=>Za (hp.symm.trans e)▸⟨rfl,.inr rfl⟩) (λa f=>.inl ⟨p,hp,f⟩) ⟨λb ob n _ e=>kp b (λq=>n ⟨p,hp,.x q⟩) ob e,λb hb m ns=>lX ns λo=>kp b (λq=>W.R.apart _ (.mk hp (.x q)) hb) o,pr⟩
  (λb f=>(W.R.there b (W.R.sub b (.mk hp f))).elim λo e=>pr b o e) (λj=>⟨.inl,λz=>z.elim id λe=>e▸lt⟩) (W.R.dg.set i lt) (W.R.dg.ne i (Xi lt)) (W.R.dg.self i (Xi lt)) (λY' _ m=>fin _ _ _ Y' m self (Ut _ _) (zn _ _) d3 ⟨(T2 ..).trans sz.1,(Array.getElem?_setIfInBounds_ne (by decide)).trans sz.2⟩ kp) λ_ _ _=>rfl
theorem N3{o:AO}(g:qP T.S o=true){P:Prop}(k:∀C fs ci,o=.exc C fs→T.S.cls C=some ci→ci.isExc=true→P):P:=oT g λq h g=>oT g λci hc g=>k q.1 q.2 ci (uK h) hc g
theorem ZM(rv:W.Vs vs us)(hr:two vs .bad (λv _=>aa (gK v) .bad λi=>aa (W.H.get i) .bad λo=>ae (qP T.S o) (.ok .none (W.H.set i o)) .bad)=r)(hb:r≠.bad):wpAny T.M A (call (.builtin "ValueError.__init__") us) (aS VV W r) E W.s:=by
 have tw:∀{P:Prop},(∀x y,vs=[x,y]→aa (gK x) .bad (λi=>aa (W.H.get i) .bad λo=>ae (qP T.S o) (.ok .none (W.H.set i o)) .bad)=r→P)→P:=λ{P} k=>by
  rcases vs with _|⟨x,_|⟨y,_|⟨z,q⟩⟩⟩
  ·exact Y8 hr.symm hb
  ·exact Y8 hr.symm hb
  ·exact k x y rfl hr
  ·exact Y8 hr.symm hb
 refine tw λx y q he=>oB he hb λi h1 he=>oB he hb λo h2 he=>bB he hb λg he=>N3 g λC fs ci ho hc hx=>?_
 subst q
 obtain⟨u,w,rfl,rx,_⟩:=rv.two
 obtain⟨p,z,hp⟩:=V.jY h1 rx
 subst ho
 obtain⟨K,X⟩:=FO.cls C ci hc
 have ex:=(X.ex hx).keeps W.R.base
 rw[z]
 cases(W.R.obj _ _ _ h2 hp:eC W.Y W.h p (λvs=>vs.size=6∧vs[1]?=some .none) C fs)with
 |z q f hx a b c e=>exact EA he.symm hp ex hx a c e λh' rn uv Y' m g1 g2 g3 g4 g5 kp=>eC.z q f g1 (g2.trans a) (g3.trans b) g4 g5
 |s q hx a b c e hd rr f l=>exact EA he.symm hp ex hx a c e λh' rn uv Y' m g1 g2 g3 g4 g5 kp=>eC.s q g1 (g2.trans a) (g3.trans b) g4 g5 (kp _ (λz=>by rw[z,hx]at hd;rw[Za hd]at c;exact nomatch c) _ hd) (rr.mono m) f l
end
end Mine
namespace Mine
theorem WI:findCls [] (.type "ValueError") (.type "type") "__init__"=some (.val (.builtin "ValueError.__init__")):=by kernel_rfl
theorem akf{prog:Program}{w:Yo}{A:Yu}{E:Zf→Zs→Prop}{s:Zs}{h₀:Yc}{L:Zj}{m:Str→Zd Zf}{pl:Sem Zh}{Q:Zf×Zb Zf→Zs→Prop}(F:Fr h₀ L s.heap m){u:Zf}(hu:u=.type "ValueError"){x:Str}(hx:x="__init__")
  (h:∀v,v=.builtin "ValueError.__init__"→Q (v,[]) {s with toks:=s.toks+1}):wpAny (model prog w) A (getMethod u x pl) Q E s:=by
 subst hu
 have a:typeOf (.type "ValueError")=pure (.type "type"):=kitMeta_of (by decide+kernel)
 have b:Manifest.isStub "ValueError"=false:=by decide+kernel
 have c:=WI
 have d:handedIn (.builtin "ValueError.__init__")=true:=by decide+kernel
 rw[←hx]at c
 have h:=h _ rfl
 generalize Ua "ValueError.__init__"=v at c d h
 generalize"ValueError"=T at a b c⊢
 exact method_type (K:=[]) F (λ_ _ q=>nomatch q) a b c d h
def GM(A:Yu)(W:Wd)(x:Str)(pl:Sem Zh)(E:Zf→Zs→Prop)(u:Zf)(me:Meth):Prop:=∀Q:Zf×Zb Zf→Zs→Prop,(∀fv first tk,MethAt W me fv first→Q (fv,first) {W.s with toks:=tk})→wpAny T.M A (getMethod u x pl) Q E W.s
section
variable{A:Yu}{E:Zf→Zs→Prop}{W:Wd}{x:Str}{a:Zc}{pl:Sem Zh}{me:Meth}(hx:T.S.nm a=some x)
include hx
theorem pK{k:Zc}{y:Str}(hy:T.S.nm k=some y)(q:Zi a k=true):x=y:=by
 rw[Zr q,hy]at hx;exact(Za hx).symm
theorem Fb{C addr:Zj}{ox:Obj}{fs:Zb (Zc×AV)}{es:Zb Y4}{n:Zc}{v:AV}(I:InstAt W.h addr ox C (some (dictOf es n)))(r:Vf W.Y W.h fs es)(rv:W.V v (.ref addr))(e:zv T.S C a v fs=some me):GM A W x pl E (.ref addr) me:=λQ h=>
 oN e λci hc e=>bE e (λ_ e=>aF e) λhi e=>oN e λf hf e=>oE e (λno e=>by
  obtain⟨K,X⟩:=FO.aaz C ci hc hi
  obtain⟨y,hy,ok⟩:=X.m a f hf
  have q:=Za (hx.symm.trans hy)
  subst q
  have sh:shadowIn (some (dictOf es n)) x=some false:=by
   have z:=r.look hx
   rw[no]at z
   show(lookIn x (dictOf es n)).map _=_
   rw[lookIn_dict,show getL x es=some none from z];rfl
  exact method_fn (X.dG.keeps W.R.base) I ok.ga ok.gt ok.fd ok.ty sh (h _ _ W.s.toks (Za e▸⟨rfl,.cons rv .nil,Yg _⟩))) λ_ _ e=>aF e
theorem s9{d:Zj}{o1:Obj}(g1:W.h.get? d=some o1)(g2:o1.ExactDict){m:Meth}(hm:MethAt W m (.builtin "dict.get") [.ref d])(e:ae (Zi a nh) (some m) none=some me):GM A W x pl E (.ref d) me:=λQ h=>bN e λq e=>by
 rw[pK hx FO.abt q]
 exact Vx (T:="dict") ⟨o1,g1,g2.1⟩ Rr V7 PySem.F.type_dict_get (λb q=>⟨o1,V6 q▸g1,g2.2.1⟩) (h _ _ W.s.toks (Za e▸hm))
theorem Fc{i:Zc}{p:Zj×Zd Zj}(hp:W.Y.ρ i=some p){vs:X9 Zf}{n:Zc}(h1:W.h.get? p.1=some (listOf vs n)){m1:Meth}(hm:MethAt W m1 (.builtin "list.append") [.ref p.1]){t:Zd Meth}(ht:∀m,t=some m→GM A W x pl E (.ref p.1) m)(e:ae (Zi a wk) (some m1) t=some me):GM A W x pl E (.ref p.1) me:=λQ h=>bE e (λq e=>by
 rw[pK hx FO.abp q]
 exact Vx ⟨_,h1,rfl⟩ T4 PySem.F.slot_list_append PySem.F.type_list_append (λb q=>⟨_,V6 q▸h1,rfl⟩) (h _ _ W.s.toks (Za e▸hm))) λ_ e=>ht me e Q h
theorem UC{i:Zc}{p:Zj×Zd Zj}(hp:W.Y.ρ i=some p){vs:X9 Zf}{n:Zc}(h1:W.h.get? p.1=some (listOf vs n))(e:ae (Zi a zH) (some (.extend i)) (ae (Zi a zJ) (some (Meth.pop i)) none)=some me):GM A W x pl E (.ref p.1) me:=λQ h=>
 have nd:∀b,X3 p.1=.ref b→∃o,W.h.get? b=some o∧o.dict=none:=λb q=>⟨_,V6 q▸h1,rfl⟩
 bE e (λq e=>by
  rw[pK hx FO.abr q]
  exact Vx ⟨_,h1,rfl⟩ T4 Rf PySem.F.type_list_extend nd (h _ _ W.s.toks (Za e▸⟨p,hp,rfl,rfl⟩))) λ_ e=>bN e λq e=>by
  rw[pK hx FO.abu q]
  exact Vx ⟨_,h1,rfl⟩ T4 Q7 PySem.F.type_list_pop nd (h _ _ W.s.toks (Za e▸⟨p,hp,rfl,rfl⟩))
theorem yo{i:Zc}{p:Zj×Zd Zj}(hp:W.Y.ρ i=some p){o1:Obj}(g1:W.h.get? p.1=some o1)(g2:o1.ExactDict)(e:ae (Zi a nh) (some (Meth.kz (.ref i))) (ae (Zi a zK) (some (.values i)) none)=some me):GM A W x pl E (.ref p.1) me:=
 bE e (λq e=>s9 hx g1 g2 (m:=.kz (.ref i)) ⟨_,V.ref hp,rfl,rfl⟩ (by rw[q];exact e)) λ_ e Q h=>bN e λq e=>by
  rw[pK hx FO.abv q]
  exact Vx (T:="dict") ⟨o1,g1,g2.1⟩ Rr Rg PySem.F.type_dict_values (λb q=>⟨o1,V6 q▸g1,g2.2.1⟩) (h _ _ W.s.toks (Za e▸⟨p,hp,rfl,rfl⟩))
theorem UD{i:Zc}{p:Zj×Zd Zj}(hp:W.Y.ρ i=some p){ob:AO}(ho:W.H.get i=some ob)(e:GS T.S i a ob=some me):GM A W x pl E (.ref p.1) me:=by
 have ro:=W.R.obj i ob p ho hp
 cases ob with
 |inst C fs=>
  obtain⟨q,VZ,hd,r,fi,_⟩:=(ro:jF W.Y W.h p C fs)
  exact Fb hx ⟨VZ,rfl,rfl,hd⟩ r (V.ref hp) e
 |list xs=>
  obtain⟨q,h1,_⟩:=(ro:eU W.Y W.h p xs)
  exact Fc hx hp h1 (m1:=.append i) ⟨p,hp,rfl,rfl⟩ (λm e=>UC hx hp h1 e) e
 |iG r t k=>
  obtain⟨q,h1,_⟩:=(ro:lb W.h p r t k)
  exact Fc hx hp h1 (m1:=.xJ i) ⟨p,hp,rfl,rfl⟩ (λm e=>aF e) e
 |map es=>
  obtain⟨_,⟨_,_,_,a,b,_⟩,_⟩:=(ro:i5 W.Y W.h p es)
  exact s9 hx a b (m:=.kz (.ref i)) ⟨_,V.ref hp,rfl,rfl⟩ e
 |lI es=>
  obtain⟨_,⟨_,_,_,a,b,_⟩,_⟩:=(ro:iK W.Y W.h p es)
  exact s9 hx a b (m:=.yT i) ⟨p,hp,rfl,rfl⟩ e
 |dict es=>
  cases(ro:eB W.Y W.h p es)with
  |s _ hd _=>obtain⟨_,_,_,a,b,_⟩:=hd;exact yo hx hp a b e
  |i _ hd _=>obtain⟨_,_,_,a,b,_⟩:=hd;exact yo hx hp a b e
  |t _ hd _=>obtain⟨_,_,_,a,b,_⟩:=hd;exact yo hx hp a b e
 |_=>exact aF e
theorem UE{sa:Zj}(e:aa (T.S.cls sa) (ae (Zi a nh) (aq (aq (T.S.obj sa) uJ) λ_=>some (Meth.kz (.au sa))) none) (λci=>ae (Zi a lL) (aq (aY a ci.meths) λf=>some (.fn (.au f) [])) none)=some me):GM A W x pl E (.ref sa) me:=
 oE e (λ_ e=>bN e λq e=>oN e λes h1 e=>oN h1 λso h2 h3=>by
  obtain⟨kvs,⟨_,_,_,a,b,_⟩,_⟩:=O.wq (xy h3▸h2)
  exact s9 hx (W.R.base _ _ a) b (m:=.kz (.au sa)) ⟨_,rfl,rfl,rfl⟩ (by rw[q];exact e)) λci hc e=>bN e λq e=>oN e λf hf e=>by
  intro Q h
  rw[pK hx FO.GZ q]
  rw[Zr q]at hf
  obtain⟨K,mc,X⟩:=FO.LI sa ci f hc hf
  have dG:=X.dG.keeps W.R.base
  exact method_cls dG X.ga (cls_value dG X.rd X.fd rfl (h _ _ _ (Za e▸⟨rfl,rfl,Yt _⟩)))
theorem UG{u:Zf}(hu:u=.type "ValueError")(e:ae (Zi a lL) (some Meth.yc) none=some me):GM A W x pl E u me:=λQ h=>bN e λq e=>by
 obtain⟨mg,mb,h1,_⟩:=O.glob
 have F:Fr {} Wp W.h mg:=⟨h1.keeps W.R.base,(λb o e=>iX (Tq (Yt b)) e),Yt _⟩
 exact akf F hu (pK hx FO.GZ q) λv q=>h v [] _ (Za e▸⟨q,rfl⟩)
end
theorem aaC{A:Yu}{E:Zf→Zs→Prop}{W:Wd}{x:Str}{a:Zc}{pl:Sem Zh}{me:Meth}{o:AV}{u:Zf}(hx:T.S.nm a=some x)(rv:W.V o u)(e:GR T.S o a W.H=some me):GM A W x pl E u me:=by
 cases o<;>first|exact aF e|skip
 ·obtain⟨p,q,hp⟩:=rv
  rw[q]
  exact oN e λob ho e=>UD hx hp ho e
 ·rw[show u=_ from rv];exact UE hx e
 ·rename_i t
  cases t<;>first|exact aF e|exact UG hx rv e
 ·have ud:=rv
  obtain⟨q,fi,r,f,g⟩:=(rv:hM W.Y W.h _ _ (Vf W.Y W.h _) u)
  rw[q]at ud⊢
  exact Fb hx ⟨f.g,rfl,rfl,g.g⟩ r ud e
 ·have ud:=rv
  obtain⟨q,f⟩:=(rv:jc W.Y W.h u)
  rw[q]at ud⊢
  exact s9 hx f.g ⟨rfl,rfl,rfl⟩ (m:=.kz .bz) ⟨_,ud,rfl,rfl⟩ e
end Mine
namespace Mine
variable{n:Zc}{cx:aQ}{c:bc}
theorem aaA(hc:gD n c){k:Cn}{W:Wd}(hn:k.n=n)(ao:eT k W.Y W.h){me:Meth}{fv:Zf}{first:Zb Zf}(mr:MethAt W me fv first){vs:Zb AV}{us:Zb Zf}{r:Res AV}(rv:W.Vs vs us)(len:us.length≤90)(hr:zu T.S c k.hd me vs W.H=r)(hb:r≠.bad):
  p8 T.M fv W.h∧wpAny T.M k.A (call fv (first++us)) (aS VV W r) (cV k.envs W r) W.s:=by
 have hu:k.A.units+1<cLine:=Yy (Yp (by decide) _) ao.room
 have b:∀{id:String}{fv:Zf}{f:Zf}{first:Zb Zf},fv=.builtin id→first=[f]→wpAny T.M k.A (call (.builtin id) (f::us)) (aS VV W r) (cV k.envs W r) W.s→p8 T.M fv W.h∧wpAny T.M k.A (call fv (first++us)) (aS VV W r) (cV k.envs W r) W.s:=λe1 e2 h=>by
  rw[e1,e2];exact⟨⟨.machine,T1 rfl⟩,h⟩
 cases me with
 |fn f fst=>
  have mr:FnAt W f fst fv first:=mr
  have hr:c k.hd f (aD fst vs) W.H=r:=hr
  rw[mw]at hr
  exact hc hn ao mr.v (Vs.app rv mr.vs) (by rw[Yk,←mr.vs.len];exact Zu (Xn mr.l len) (by decide)) hr hb
 |append i=>obtain⟨p,hp,e1,e2⟩:=mr;exact b e1 e2 (ZJ hp rv hr hb)
 |extend i=>obtain⟨p,hp,e1,e2⟩:=mr;exact b e1 e2 (ZN hp rv hr hb)
 |pop i=>obtain⟨p,hp,e1,e2⟩:=mr;exact b e1 e2 (ZP hp rv hr hb)
 |kz d=>obtain⟨u,rd,e1,e2⟩:=mr;exact b e1 e2 (ZL hu rd rv hr hb)
 |yT i=>obtain⟨p,hp,e1,e2⟩:=mr;exact b e1 e2 (ZO hu hp rv hr hb)
 |xJ i=>obtain⟨p,hp,e1,e2⟩:=mr;exact b e1 e2 (ZK hp rv hr hb)
 |values i=>obtain⟨p,hp,e1,e2⟩:=mr;exact b e1 e2 (m_values hp rv hr hb)
 |yc=>
  obtain⟨e1,e2⟩:=mr
  rw[e1,e2];exact⟨⟨.machine,T1 rfl⟩,ZM rv hr hb⟩
structure BH(o:PE)(x:Str)(ap p:Pos)(args:Zb PE):Prop where
 base:∀(env:Env)(t:Sem Zf),attributeBase o x env t=t
 QJ:args.length≤28
 pos:(ap.endLine==p.line)=true
 plain:∀env pos,∀x∈backTo pos (Xj args env),x.1=false
theorem aaB{o:PE}{x:Str}{ap p:Pos}{args:Zb PE}(f:BH o x ap p args)(env:Env):eval (.Call (.Attribute o x ap) args [] p) env=(do
   let ov←eval o env
   standAt ap.atName
   let(f,first)←W8 [ov] (getMethod ov x (do return(←importBound o env).getD true))
   callWith p f first (backTo p (Xj args env)) []):=by
 show(do
   let ov←attributeBase o x env (eval o env)
   standAt ap.atName
   methodCall o x ap p env ov (args.length+0) (backTo p (Xj args env)) (backToKw p []))=_
 rw[f.base]
 have ff:methodCallForm (args.length+0) (backTo p (Xj args env)) []=true:=by
  unfold methodCallForm
  rw[List.all_eq_true.mpr λx hx=>by rw[f.plain env p x hx];rfl]
  exact Y6 (Yy f.QJ (by decide))
 have mc:∀ov,methodCall o x ap p env ov (args.length+0) (backTo p (Xj args env)) (backToKw p [])=(do
   let(f,first)←W8 [ov] (getMethod ov x (do return(←importBound o env).getD true))
   callWith p f first (backTo p (Xj args env)) []):=λov=>by
  unfold methodCall
  show(do
   let(f,first)←W8 [ov] (calleeOf (methodCallForm (args.length+0) (backTo p (Xj args env)) []) o env ov x)
   let Lb←methodCallPos (methodCallForm (args.length+0) (backTo p (Xj args env)) []) o env ap p
   callWith Lb f first (backTo p (Xj args env)) [])=_
  rw[ff]
  unfold methodCallPos
  rw[f.pos];rfl
 exact Ze (eval o env>>=·) (funext λov=>Ze (standAt ap.atName>>=·) (funext λ_=>mc ov))
theorem aiE(hc:gD n c){o:PE}{x:Str}{a:Zc}{ap p:Pos}{args:Zb PE}{mo:Zh→Fm→AM AV}{ms:Zh→Fm→AM (Zb AV)}(f:BH o x ap p args)(hx:T.S.nm a=some x)(jo:aP n cx o mo)(ja:o9 n cx args ms):
  aP n cx (.Call (.Attribute o x ap) args [] p) (λhd=>ze T.S c hd a (mo hd) (ms hd)):=λ{k env fm W} g=>.cast (.bind (jo g) λW1 ov u _ le v1=>.iZ (.of λr hr hb=>oB hr hb λme e2 hr=>by
 have g1:=g.le le
 refine Zg (Y0 (aaC hx v1 e2 _ λfv first tk mr=>?_))
 have bD:=Le.tok W1 tk
 refine xR (f.plain env p) (Y9 (ja (g1.le bD) (iF hr hb)) (λus s2 z=>?_) λe s' z=>z.step bD λi H e=>hr.symm.trans (jL e))
 obtain⟨W2,vs,e3,dO,rv⟩:=z
 refine bB ((gf e3).symm.trans hr) hb λgl hr=>?_
 obtain⟨k1,k2⟩:=aaA hc g.n ((g1.le bD).le dO).a (mr.le (bD.trans dO)) rv (oC rv gl) hr hb
 exact⟨k1,Y9 k2 (λ_ _ z=>z.step (bD.trans dO)) λ_ _ z=>z.step (bD.trans dO) λ_ _=>id⟩)) (aaB f env)
end Mine
namespace Mine
variable{n:Zc}{cx:aQ}
theorem Iv{A:Yu}{s:Zs}{E:Zf→Zs→Prop}{a:Zj}{o:Obj}{U:String}{a9:X9 Zf}{k:Zc}{Q:Zb Zf→Zs→Prop}(ho:s.heap.get? a=some o)(hc:o.cls=.type U)(hd:o.data=.seq a9 k)(hT:U="list"∨U="tuple")
  (hz:a9.size≤sizeLine)(h:∀h',(∀b o',s.heap.get? b=some o'→h'.get? b=some o')→Q a9.toList {s with heap:=h'}):StarOf T.M A E (.ref a) Q s:=by
 have Fj:s.TypeIs (.ref a) U:=⟨o,ho,hc⟩
 have z:wpAny T.M A (collect (.ref a)) Q E s:=wpAny_collect_seq a hT ho hc hd h hz
 unfold StarOf notIterableAtAll
 rcases hT with rfl|rfl
 ·exact Zg (Sv Fj PySem.F.slot_list_iter.lookup (Zq ⟨rfl,z⟩))
 ·exact Zg (Sv Fj PySem.F.slot_tuple_iter.lookup (Zq ⟨rfl,z⟩))
theorem SeqAt.star{W:Wd}{t:Zh}{xs:Zb AV}{u:Zf}{A:Yu}{E:Zf→Zs→Prop}{Q:Zb Zf→Zs→Prop}(z:SeqAt W t xs u)(h:∀vs h',W.Vs xs vs→vs.length≤2000000→(∀b o',W.h.get? b=some o'→h'.get? b=some o')→Q vs {W.s with heap:=h'}):StarOf T.M A E u Q W.s:=by
 have sz:∀{vs:Zb Zf},vs.length≤2000000→vs.toArray.size≤sizeLine:=λl=>by rw[Wa,Zy];exact Zu l (by decide)
 cases z with
 |l _ x=>
  obtain⟨q,g,rv,l⟩:=x
  rw[q]
  exact Iv g rfl rfl (.inl rfl) (sz l) λh' k=>h _ h' rv l k
 |t _ q g rv l=>
  obtain⟨o,ho,hc,k,hd⟩:=g
  rw[q]
  exact Iv ho hc hd (.inr rfl) (sz l) λh' k=>h _ h' rv l k
theorem aiO{e sx:PE}{k:Zc}{p q:Pos}{me ms:Zh→Fm→AM AV}(se:∀env,Xj [e,.Starred sx q] env=[(false,eval e env),(true,eval sx env)])(je:aP n cx e me)(js:aP n cx sx ms):aP n cx (.Tuple [e,.Starred sx q] k p) (λhd=>zm T.S (me hd) (ms hd)):=λ{c env fm W} g=>.iZ (.of λr hr hb=>by
 refine Zg ?_
 rw[se]
 refine spliced_cons (Y9 (je g (iF hr hb)) (λu s1 z=>?_) λe s' z=>z.step (.refl W) λi H e=>hr.symm.trans (jL e))
 obtain⟨W1,v,e1,d6,v1⟩:=z
 have hr:=(gf e1).symm.trans hr
 refine ks_spliced (Y9 (js (g.le d6) (iF hr hb)) (λw s2 z=>?_) λe s' z=>z.step d6 λi H e=>hr.symm.trans (jL e))
 obtain⟨W2,t,e2,bD,v2⟩:=z
 refine oB ((gf e2).symm.trans hr) hb λq h3 hr=>bB hr hb λgl hr=>(oW v2 h3).star λvs h' rv l kp=>spliced_nil ?_
 have l2:=oC rv gl
 rw[X4]
 have l3:(u::vs).length≤2000000:=Zu (X8 l2) (by decide)
 refine wpAny_newTuple ?_ (by rw[Wa];exact Zu l3 (by decide))
 have y:Keeps No W2.Y W2.h h':=.all kp
 let W3:Wd:=⟨W2.Y,{W2.s with heap:=h'},W2.H,W2.R.grow y⟩
 have dO:Le W2 W3:=⟨.grow y,rfl,rfl,rfl⟩
 exact aS.step ((d6.trans bD).trans dO) (aS.fz (W:=W3) (tk:=W2.s.toks) hr.symm rfl λW' le f=>fQ.mk rfl (Vs.cons (le.v (dO.v (bD.v v1))) (le.vs (dO.vs rv))) l3 f rfl rfl))
end Mine
namespace Mine
theorem ahq{l:Zj}{a9:X9 Zf}{n:Zc}{i:Zw}{k:Zc}{t:Tok}{v:Zf}{E:Zf→Zs→Prop}{A:Yu}{s:Zs}{Q:Unit→Zs→Prop}(ho:s.heap.get? l=some (Vo a9 n))(hi:i=k)(hk:k<a9.size)(hs:a9.size≤2000000)
  (hQ:∀h' n',Xw l s.heap h'→h'.get? l=some (Vo (a9.setIfInBounds k v) n')→Q () {s with heap:=h'}):wpAny T.M A (setItem (.ref l) (.int i t) v) Q E s:=by
 have h0:0≤i:=by omega
 have yt:i<2^63:=by omega
 have hl:s.heap.IsList l a9:=⟨_,ho,rfl,n,rfl⟩
 unfold setItem
 refine Y0 ?_
 refine Zg (Pb hl.typeIs (by decide) ?_)
 refine Zg (T3 (name:=Sh "__setitem__") hl.typeIs Vv
  (U4 Vv hl.typeIs Re ?_ (Rq _ _ _)))
 show wpAny _ _ (Um (.int i t)>>=_) _ _ s
 refine Zg (wpAny_listSubscript_int (fitsIndex_of h0 yt) ?_)
 clear yt
 subst hi
 show wpAny _ _ ((seqItemAt l k>>=λr=>pure (r.map (k,·)))>>=_) _ _ s
 refine Zg (Zg (wpAny_seqItemAt ho rfl (Zq ?_)))
 rw[Vj hk]
 show wpAny _ _ (setSeqItemAt l k v>>=_) _ _ s
 have cH:(s.heap.update l (U5 (·.setIfInBounds k v))).get? l=some (Vo (a9.setIfInBounds k v) (if(a9.setIfInBounds k v).size==a9.size then n else n+1)):=Ys _ ho rfl
 refine Zg (wpAny_setSeqItemAt ho rfl ?_)
 first
  |exact Zg (Zq (Zq ⟨.none,rfl,Zq (hQ _ _ (Xp ..) cH)⟩))
  |exact Zq ⟨.none,rfl,Zq (hQ _ _ (Xp ..) cH)⟩
theorem Vs.set{Y:Ly}{h:Yc}{x:AV}{u:Zf}(r:V Y h x u){xs:Zb AV}:∀{vs:Zb Zf}(k:Zc),Vs Y h xs vs→Vs Y h (xs.set k x) (vs.set k u):=by
 induction xs with
 |nil=>exactλk z=>by rw[z.kP];exact rfl
 |cons y xs ih=>
  intro vs k z
  obtain⟨rfl,a,b⟩:=z.inv
  cases k with
  |zero=>exact .cons r b
  |succ k=>exact .cons a (ih k b)
theorem zF{Y:Ly}{h:Yc}{i:AV}{w:Zf}{k:Zc}(r:V Y h i w)(e:mY i=some k):∃t,w=.int (k:Zc) t:=oN e λj h1 e=>by
 obtain⟨t,q⟩:=V.cU h1 r
 cases j with
 |ofNat q'=>exact⟨t,q.trans (Ze (Ts · t) (Ze Zx (Za e)))⟩
 |negSucc _=>exact aF e
theorem Iy{K:Type}[Xh K](y:K)(b:Zj)(w:Zf)(r:Zb (K×Zj×Zf))(x:K)(a:Zj)(u:Zf)(nd:y=x→∀p∈r,p.1≠x):storedH ((y,b,w)::r) x a u=if y=x then(y,b,u)::r else(y,b,w)::storedH r x a u:=by
 unfold storedH atKey
 rw[Tf]
 by_cases q:y=x
 ·have z:r.map (putAt x u)=r:=(Ug λp hp=>if_neg (nd q p hp)).trans (Qm r)
  rw[Y6 q,if_pos q,Vt,z]
  show(if true=true then putAt x u (y,b,w)::r else _)=_
  rw[if_pos rfl]
  exact Ze (·::r) (if_pos q)
 ·rw[Ym q,if_neg q,Vt]
  rw[show putAt x u (y,b,w)=(y,b,w) from if_neg q]
  dsimp only
  split<;>rfl
theorem adK{K:Type}[Xh K]{knd:KeyKind T.pr T.w K}{one:AV→K→Prop}(hk:o8 knd one){Y:Ly}{h:Yc}{zs:Zb AV}{ks:Zb K}{a:Zj}{o:Obj}(hz:cq one zs ks)(fa:Fz Y h a o){v:AV}{u:Zf}(hv:V Y h v u){es:Zb (AV×AV)}:
  ∀{xs:Zb (Zb K×Zj×Zf)}{ef:Zb (AV×AV)},bT Y h (cq one) es xs→(xs.map (·.1)).Nodup→putK (.tup zs) v es=some ef→bT Y h (cq one) ef (storedH xs ks a u):=by
 induction es with
 |nil=>exactλr _ e=>by rw[show _=[] from r,←Za e];exact fP.mk rfl rfl hz fa hv rfl
 |cons p es ih=>
  intro xs ef r nd e
  obtain⟨rfl,hp,hx,f,a1,b⟩:=(r:fP Y h (cq one) p.1 (V Y h p.2) (bT Y h (cq one) es) xs)
  have nd:=List.nodup_cons.mp nd
  refine oN e λc hc e=>?_
  rw[hp]at hc
  rw[Iy _ _ _ _ _ _ _ λz p hp q=>nd.1 (List.mem_map.mpr ⟨p,hp,q.trans z.symm⟩),tu (cq.dec hk hx hz hc)]
  cases c with
  |true=>rw[←Za e];exact fP.mk rfl hp hx f hv b
  |false=>exact oN e λr' h2 e=>by rw[←Za e];exact fP.mk rfl hp hx f a1 (ih b nd.2 h2)
theorem bT.len{K:Type}{ky:Zb AV→K→Prop}{Y:Ly}{h:Yc}{es:Zb (AV×AV)}:∀{xs:Zb (K×Zj×Zf)},bT Y h ky es xs→es.length=xs.length:=by
 induction es with
 |nil=>exactλr=>by rw[show _=[] from r];rfl
 |cons e es ih=>
  intro xs r
  obtain⟨rfl,_,_,_,_,b⟩:=(r:fP Y h ky e.1 (V Y h e.2) (bT Y h ky es) xs)
  exact Ze (·+1) (ih b)
theorem tQ{h:Yc}{d:Zj}{kvs:Zb (Str×Zf)}(x:h.DictOf T.sk d kvs):(kvs.map (·.1)).Nodup∧∃o,h.get? d=some o:=x.elim λo z=>z.elim λ_ z=>z.elim λ_ z=>⟨z.2.2.2.2.2,o,z.1⟩
theorem tO{K:Type}[Xh K]{knd:KeyKind T.pr T.w K}{h:Yc}{d:Zj}{xs:Zb (Zb K×Zj×Zf)}(x:h.DictOfH (Xz knd) d xs):(xs.map (·.1)).Nodup∧∃o,h.get? d=some o:=x.elim λo z=>z.elim λ_ z=>z.elim λ_ z=>⟨z.2.2.2.2.2,o,z.1⟩
section
variable{W:Wd}{A:Yu}{E:Zf→Zs→Prop}{i v:AV}{w u:Zf}{l:Zc}{p:Zj×Zd Zj}{r:Res Unit}(hp:W.Y.ρ l=some p)(rv:W.V v u)
include hp rv
theorem set_list{xs:Zb AV}(ri:W.V i w)(ro:eU W.Y W.h p xs){k:Zc}(hk:mY i=some k)(g:Zl (Zk k) (aJ xs)=true)(he:.ok () (W.H.set l (.list (nB xs v k)))=r):wpAny T.M A (setItem (.ref p.1) w u) (aS VU W r) E W.s:=by
 have g:=Zm g
 obtain⟨t,q⟩:=zF ri hk
 cases ro with
 |@mk vs n q2 h1 h2 h3=>
  rw[dH,h2.len]at g
  rw[q]
  refine ahq h1 rfl (by rw[Zy];exact g) (by rw[Zy];exact h3) λh' n' sb cH=>?_
  exact .turn (o:=.list (nB xs v k)) (tk:=W.s.toks) he.symm hp (.x rfl) sb ⟨_,cH⟩ (λY' m=>eU.mk (vs:=vs.set k u) (n:=n') q2 (cH.trans (Ze (λz=>some (listOf z n')) (List.setIfInBounds_toArray ..))) (by rw[pW];exact(Vs.set rv k h2).mono m) (by rw[Sz];exact h3)) λ_ _=>trivial
theorem set_dict{es ef:Zb (AV×AV)}(hu:A.units+1<cLine)(ri:W.V i w)(ro:eB W.Y W.h p es)(g:yK i=true)(g2:Zl (aJ es) ez=true)(hq:putK i v es=some ef)(he:.ok () (W.H.set l (.dict ef))=r):wpAny T.M A (setItem (.ref p.1) w u) (aS VU W r) E W.s:=by
 have ik:isKey i=true:=by unfold isKey;rw[g];cases yP i<;>rfl
 have g2:=Zm g2
 rw[dH]at g2
 have no:=ro.none
 have st:∀{kvs:Zb (Str×Zf)}{j:Zc}{x:Str}{t:Tok},i=.sy j→w=.str x t→T.S.nm j=some x→W.h.DictOf T.sk p.1 kvs→cu W.Y W.h es kvs→wpAny T.M A (setItem (.ref p.1) w u) (aS VU W r) E W.s:=λ{kvs j x t} q z hx hd rk=>by
  rw[q]at hq
  rw[z]
  refine Qr (V0 _ _ _ _) hd (λh' fV sb=>?_) (by rw[←rk.len];exact kQ g2)
  exact .turn (o:=.dict ef) (tk:=W.s.toks+1) he.symm hp (.x rfl) sb (tQ fV).2 (λY' m=>.s no fV (cu.mono m _ _ (HA hx rv rk (tQ hd).1 hq))) λ_ _=>trivial
 have tp:∀{K:Type}[Xh K]{knd:KeyKind T.pr T.w K}{one:AV→K→Prop}(hk:o8 knd one)(mk:∀{Y':Ly}{h':Yc}{xs},h'.DictOfH (Xz knd) p.1 xs→bT Y' h' (cq one) ef xs→eB Y' h' p ef){zs:Zb AV}{ks:Zb K}{a:Zj}{o:Obj}{xs:Zb (Zb K×Zj×Zf)},
   i=.tup zs→w=.ref a→cq one zs ks→IsTupleKey knd W.h ks a→Fz W.Y W.h a o→W.h.DictOfH (Xz knd) p.1 xs→bT W.Y W.h (cq one) es xs→wpAny T.M A (setItem (.ref p.1) w u) (aS VU W r) E W.s:=λ{K _ knd one} hk mk{zs ks a o xs} q z hz ht f hd rk=>by
  rw[q]at hq
  rw[z]
  refine P3 (Wf hu) ht hd (λh' fV sb=>?_) (by rw[←rk.len];exact kQ g2)
  exact .turn (o:=.dict ef) he.symm hp (.x rfl) sb (tO fV).2 (λY' m=>mk fV (bT.mono m _ _ (adK hk hz f rv rk (tO hd).1 hq))) λ_ _=>trivial
 have bad:∀{q:AV×AV}{r':Zb (AV×AV)}{P:Prop},es=q::r'→oz q.1 i=none→P:=λ{q r' P} e n=>by
  rw[e]at hq
  exact oN hq λb hb _=>aF (n.symm.trans hb)
 cases es with
 |nil=>
  have z:=ro.emp
  cases yS ri ik with
  |sy q z' hx=>exact st q z' hx z.st rfl
  |txt q=>rw[q]at g;exact aA g
  |dG q z' _ hz ht f=>exact tp kI (.i no) q z' hz ht f z.hp rfl
  |oA q z' _ hz ht f=>exact tp kS (.t no) q z' hz ht f z.hp rfl
 |cons e es=>
  have ki:=yS ri ik
  cases ro with
  |s _ hd rk=>
   obtain⟨_,hk,_,_,_⟩:=(id rk:gW e.1 (V W.Y W.h e.2) (cu W.Y W.h es) _)
   cases ki with
   |sy q z' hx=>exact st q z' hx hd rk
   |txt q=>rw[q]at g;exact aA g
   |dG q=>exact bad rfl (by rw[hk,q];rfl)
   |oA q=>exact bad rfl (by rw[hk,q];rfl)
  |i _ hd rk=>
   obtain⟨_,hk,hx,_,_,_⟩:=(id rk:fP W.Y W.h nM e.1 (V W.Y W.h e.2) (bT W.Y W.h nM es) _)
   rcases Gn (ki:=ki)with n|⟨zs,ks,a,q,z',hz,ht⟩
   ·exact bad rfl (by rw[hk];exact n _ _ hx)
   ·cases ki with
    |dG _ z2 _ _ _ f=>exact tp kI (.i no) q z' hz ht (V6 (z'.symm.trans z2)▸f) hd rk
    |oA _ z2 _ _ _ f=>exact tp kI (.i no) q z' hz ht (V6 (z'.symm.trans z2)▸f) hd rk
    |sy q'=>exact nomatch q.symm.trans q'
    |txt q'=>exact nomatch q.symm.trans q'
  |t _ hd rk=>
   obtain⟨_,hk,hx,_,_,_⟩:=(id rk:fP W.Y W.h lh e.1 (V W.Y W.h e.2) (bT W.Y W.h lh es) _)
   rcases Go (ki:=ki)with n|⟨zs,ks,a,q,z',hz,ht⟩
   ·exact bad rfl (by rw[hk];exact n _ _ hx)
   ·cases ki with
    |dG _ z2 _ _ _ f=>exact tp kS (.t no) q z' hz ht (V6 (z'.symm.trans z2)▸f) hd rk
    |oA _ z2 _ _ _ f=>exact tp kS (.t no) q z' hz ht (V6 (z'.symm.trans z2)▸f) hd rk
    |sy q'=>exact nomatch q.symm.trans q'
    |txt q'=>exact nomatch q.symm.trans q'
end
end Mine
namespace Mine
theorem zP{α:Type}[Xh α]{l:Zb α}:∀{m:Zb α},l.Nodup→(∀x∈l,x∈m)→l.length≤m.length:=by
 induction l with
 |nil=>exactλ_ _=>Yt _
 |cons x l ih=>
  intro m nd h
  have nd:=List.nodup_cons.mp nd
  have hx:=h x (.head _)
  have z:=ih (m:=m.erase x) nd.2 λy hy=>(List.mem_erase_of_ne λe:y=x=>nd.1 (e▸hy)).mpr (h y (.tail _ hy))
  rw[List.length_erase_of_mem hx]at z
  exact Zu (X8 z) (Xb (Nat.succ_pred_eq_of_pos (List.length_pos_of_mem hx)))
theorem yV{α:Type}{k:Zc}{v:α}{l:Zb (Zc×α)}{j:Zc}:aY j (eR k v l)=if j=k then some v else aY j l:=by
 induction l with
 |nil=>exact jT j k v []
 |cons p r ih=>
  obtain⟨m,u⟩:=p
  rw[uh,jT]
  by_cases q:k=m
  ·rw[if_pos q,jT,q]
   by_cases z:j=m
   ·rw[if_pos z,if_pos z]
   ·rw[if_neg z,if_neg z,if_neg z]
  ·rw[if_neg q,jT,ih]
   by_cases z:j=m
   ·rw[if_pos z,if_pos z,if_neg λe=>q (e.symm.trans z)]
   ·rw[if_neg z,if_neg z]
theorem aht{α:Type}{k:Zc}{v w:α}{l:Zb (Zc×α)}(e:aY k l=some w):(eR k v l).length=l.length:=by
 induction l with
 |nil=>exact aF e
 |cons p r ih=>
  obtain⟨m,u⟩:=p
  rw[uh]
  rw[jT]at e
  by_cases q:k=m
  ·rw[if_pos q];rfl
  ·rw[if_neg q]at e⊢;exact Ze (·+1) (ih e)
theorem akd{kvs:Zb (Str×Zf)}{x y:Str}{u:Zf}(nd:(kvs.map (·.1)).Nodup):valueAt (stored kvs x u) y=if y=x then some u else valueAt kvs y:=by
 induction kvs with
 |nil=>
  show valueAt [(x,u)] y=_
  rw[uu]
  by_cases q:y=x
  ·rw[if_pos q,if_pos q.symm]
  ·rw[if_neg q,if_neg (Ve q)]
 |cons p r ih=>
  obtain⟨z,w⟩:=p
  have nd:=List.nodup_cons.mp nd
  rw[Iz z w r x u λe p hp q=>nd.1 (List.mem_map.mpr ⟨p,hp,q.trans e.symm⟩),uu y z w]
  by_cases q:z=x
  ·rw[if_pos q,uu,q]
   by_cases e:y=x
   ·rw[if_pos e,if_pos e.symm]
   ·rw[if_neg e,if_neg (Ve e),if_neg (Ve e)]
  ·rw[if_neg q,uu,ih nd.2]
   by_cases e:z=y
   ·rw[if_pos e,if_pos e,if_neg λw=>q (e.trans w)]
   ·rw[if_neg e,if_neg e]
theorem aay{kvs:Zb (Str×Zf)}{x:Str}{u:Zf}{kv:Str×Zf}(h:kv∈stored kvs x u):kv.1=x∨∃tG∈kvs,tG.1=kv.1:=by
 unfold stored at h
 split at h
 ·obtain⟨a,ha,e⟩:=List.mem_map.mp h
  refine .inr ⟨a,ha,?_⟩
  rw[←e];split<;>rfl
 ·exact(List.mem_append.mp h).elim (λh=>.inr ⟨kv,h,rfl⟩) λh=>.inl (Ze Xq (List.mem_singleton.mp h))
section
variable{W:Wd}{A:Yu}{E:Zf→Zs→Prop}{v:AV}{u:Zf}{l:Zc}{p:Zj×Zd Zj}{r:Res Unit}
theorem ahz(hp:W.Y.ρ l=some p)(rv:W.V v u){ms:Zb (Zc×Zd AV)}(ro:i5 W.Y W.h p ms){k:Zc}{x:Str}{t:Tok}(hx:T.S.nm k=some x){ov:Zd AV}(hl:aY k ms=some ov)(he:.ok () (W.H.set l (.map (eR k (some v) ms)))=r):wpAny T.M A (setItem (.ref p.1) (.str x t) u) (aS VU W r) E W.s:=by
 cases ro with
 |@mk kvs q hd a b len=>
  have sz:kvs.length≤1000:=by
   have z:=zP (m:=ms.map λm=>(T.S.nm m.1).getD x) (tQ hd).1 λz hz=>by
    obtain⟨kv,tj,e⟩:=List.mem_map.mp hz
    obtain⟨j,h1,h2⟩:=b kv tj
    refine oT h2 λw hw _=>List.mem_map.mpr ⟨(j,w),vT hw,?_⟩
    rw[show T.S.nm (j,w).1=some kv.1 from h1];exact e
   rw[Yi,Yi]at z
   exact Zu z len
  refine Qr (V0 _ _ _ _) hd (λh' fV sb=>?_) (kQ (Zu sz (by decide)))
  refine .turn (o:=.map (eR k (some v) ms)) (tk:=W.s.toks+1) he.symm hp (.x rfl) sb (tQ fV).2 (λY' m=>i5.mk q fV (λj y hy=>?_) (λkv tj=>?_) (by rw[aht hl];exact len)) λ_ _=>trivial
  ·rw[yV,akd (tQ hd).1]
   by_cases e:j=k
   ·rw[if_pos e,if_pos (Za (hy.symm.trans (e▸hx)))]
    exact⟨u,rfl,V.mono m _ _ rv⟩
   ·rw[if_neg e,if_neg λz:y=x=>e (O.pJ hy (z▸hx))]
    exact(a j y hy).mono m
  ·rcases aay tj with e|⟨tG,VF,e⟩
   ·exact⟨k,e▸hx,by rw[yV,if_pos rfl];rfl⟩
   ·obtain⟨j,h1,h2⟩:=b tG VF
    refine⟨j,e▸h1,?_⟩
    rw[yV]
    split
    ·rfl
    ·exact h2
end
end Mine
namespace Mine
theorem Ad(a b c d:Zc):ak (Zi a c) (Zi b d)=decide ((a,b)=(c,d)):=by
 by_cases q:a=c
 ·by_cases z:b=d
  ·rw[q,z,Wu,Wu,Y6 rfl];rfl
  ·rw[show Zi b d=false from Bool.eq_false_iff.mpr λw=>z (Zr w),Ym λe=>z (Ss e).2]
   cases Zi a c<;>rfl
 ·rw[show Zi a c=false from Bool.eq_false_iff.mpr λw=>q (Zr w),Ym λe=>q (Ss e).1];rfl
theorem oD{α:Type}(a b:Zc)(p:(Zc×Zc)×α)(l:Zb ((Zc×Zc)×α)):gv a b (p::l)=if(a,b)=p.1 then some p.2 else gv a b l:=(tu (Ad a b p.1.1 p.1.2) _ _).symm
theorem Ij{α:Type}(a b:Zc)(v:α)(p:(Zc×Zc)×α)(l:Zb ((Zc×Zc)×α)):oY a b v (p::l)=if(a,b)=p.1 then(p.1,v)::l else p::oY a b v l:=(tu (Ad a b p.1.1 p.1.2) _ _).symm
theorem ahv{α:Type}{a b:Zc}{v:α}{l:Zb ((Zc×Zc)×α)}:(oY a b v l).length=l.length:=by
 induction l with
 |nil=>rfl
 |cons p r ih=>rw[Ij];split<;>first|rfl|exact Ze (·+1) ih
theorem Gw{α:Type}{a b:Zc}{v w:α}{c d:Zc}{l:Zb ((Zc×Zc)×α)}(e:gv a b l=some w):gv c d (oY a b v l)=if(c,d)=(a,b)then some v else gv c d l:=by
 induction l with
 |nil=>exact aF e
 |cons p r ih=>
  rw[Ij,oD]
  rw[oD]at e
  by_cases q:(a,b)=p.1
  ·rw[if_pos q,oD]
   by_cases z:(c,d)=(a,b)
   ·rw[if_pos z,if_pos (z.trans q)]
   ·rw[if_neg z,if_neg (λk=>z (k.trans q.symm)),if_neg (λk=>z (k.trans q.symm))]
  ·rw[if_neg q,oD]
   rw[if_neg q]at e
   by_cases z:(c,d)=p.1
   ·rw[if_pos z,if_pos z,if_neg (λk=>q (k.symm.trans z))]
   ·rw[if_neg z,if_neg z,ih e]
theorem YH{α:Type}{a b:Zc}{w:α}{l:Zb ((Zc×Zc)×α)}(e:gv a b l=some w):((a,b),w)∈l:=by
 induction l with
 |nil=>exact aF e
 |cons p r ih=>
  rw[oD]at e
  by_cases q:(a,b)=p.1
  ·rw[if_pos q]at e;rw[q,←Za e];exact .head _
  ·rw[if_neg q]at e;exact .tail _ (ih e)
theorem Kg{K:Type}[Xh K]{xs:Zb (K×Zj×Zf)}{k j:K}{a:Zj}{v:Zf}(nd:(xs.map (·.1)).Nodup):(atKey (storedH xs k a v) j).map (·.2)=if j=k then some v else(atKey xs j).map (·.2):=by
 induction xs with
 |nil=>
  show(atKey [(k,a,v)] j).map (·.2)=_
  rw[sA]
  by_cases q:j=k
  ·rw[if_pos q,if_pos q.symm]
  ·rw[if_neg q,if_neg (Ve q)]
 |cons p r ih=>
  obtain⟨z,b,w⟩:=p
  have nd:=List.nodup_cons.mp nd
  rw[Iy z b w r k a v λe p hp q=>nd.1 (List.mem_map.mpr ⟨p,hp,q.trans e.symm⟩),sA j z b w r]
  by_cases q:z=k
  ·rw[if_pos q,sA,q]
   by_cases e:j=k
   ·rw[if_pos e,if_pos e.symm]
   ·rw[if_neg e,if_neg (Ve e),if_neg (Ve e)]
  ·rw[if_neg q,sA,ih nd.2]
   by_cases e:z=j
   ·rw[if_pos e,if_pos e,if_neg λw=>q (e.trans w)]
   ·rw[if_neg e,if_neg e]
theorem mem_storedH{K:Type}[Xh K]{xs:Zb (K×Zj×Zf)}{k:K}{a:Zj}{v:Zf}{y:K×Zj×Zf}(h:y∈storedH xs k a v):(∃z∈xs,z.1=y.1∧z.2.1=y.2.1)∨(y.1=k∧y.2.1=a):=by
 unfold storedH at h
 split at h
 ·obtain⟨z,hz,e⟩:=List.mem_map.mp h
  refine .inl ⟨z,hz,?_⟩
  rw[←e];unfold putAt;split<;>exact⟨rfl,rfl⟩
 ·exact(List.mem_append.mp h).elim (λh=>.inl ⟨y,h,rfl,rfl⟩) λh=>.inr (by rw[List.mem_singleton.mp h];exact⟨rfl,rfl⟩)
section
variable{W:Wd}{A:Yu}{E:Zf→Zs→Prop}{v:AV}{u:Zf}{l:Zc}{p:Zj×Zd Zj}{r:Res Unit}
theorem ahy(hu:A.units+1<cLine)(hp:W.Y.ρ l=some p)(rv:W.V v u){ms:Zb ((Zc×Zc)×AV)}(ro:iK W.Y W.h p ms){j k:Zc}{w:Zf}(hk:BJ W j k w){ov:AV}(hl:gv j k ms=some ov)(he:.ok () (W.H.set l (.lI (oY j k v ms)))=r):wpAny T.M A (setItem (.ref p.1) w u) (aS VU W r) E W.s:=by
 cases ro with
 |@mk xs q hd n a b len=>
  obtain⟨q1,hy,hz,key,f⟩:=hk
  rename_i y z _ _
  have sz:xs.length≤1000:=by
   have w:=zP (m:=ms.map λm=>[(T.S.nm m.1.1).getD y,(T.S.nm m.1.2).getD y]) (tO hd).1 λz hz=>by
    obtain⟨e,he,e2⟩:=List.mem_map.mp hz
    obtain⟨c,d,u',v',g1,g2,g3,g4⟩:=b e he
    refine oT g4 λw hw _=>List.mem_map.mpr ⟨((c,d),w),YH hw,?_⟩
    rw[show T.S.nm ((c,d),w).1.1=some u' from g2,show T.S.nm ((c,d),w).1.2=some v' from g3]
    exact g1.symm.trans e2
   rw[Yi,Yi]at w
   exact Zu w len
  rw[q1]
  refine P3 (Wf hu) key hd (λh' fV sb=>?_) (kQ (Zu sz (by decide)))
  refine .turn (o:=.lI (oY j k v ms)) he.symm hp (.x rfl) sb (tO fV).2 (λY' m=>iK.mk q fV (λe he=>?_) (λc d y' z' v' e1 e2 e3=>?_) (λe he=>?_) (by rw[ahv];exact len)) λ_ _=>trivial
  ·rcases mem_storedH he with⟨g,hg,_,e2⟩|⟨_,e2⟩
   ·exact(n g hg).elim λo z=>⟨o,e2▸m.keep _ _ z⟩
   ·exact⟨_,e2▸m.keep _ _ f⟩
  ·rw[Gw hl]at e3
   rw[Kg (tO hd).1]
   by_cases e:(c,d)=(j,k)
   ·rw[if_pos e]at e3
    have h1:=Za (e1.symm.trans ((Ss e).1▸hy))
    have h2:=Za (e2.symm.trans ((Ss e).2▸hz))
    rw[if_pos (by rw[h1,h2]),←Za e3]
    exact V.mono m _ _ rv
   ·rw[if_neg e]at e3
    rw[if_neg λw:[y',z']=[y,z]=>e (by
     have w1:=(Wx w).1
     have w2:=(Wx (Wx w).2).1
     rw[O.pJ e1 (w1▸hy),O.pJ e2 (w2▸hz)])]
    exact V.mono m _ _ (a _ _ _ _ _ e1 e2 e3)
  ·have is:∀{c d:Zc},aT (gv c d ms)=true→aT (gv c d (oY j k v ms))=true:=λh=>by
    rw[Gw hl]
    split
    ·rfl
    ·exact h
   rcases mem_storedH he with⟨g,hg,e1,_⟩|⟨e1,_⟩
   ·obtain⟨c,d,u',v',g1,g2,g3,g4⟩:=b g hg
    exact⟨c,d,u',v',e1▸g1,g2,g3,is g4⟩
   ·exact⟨j,k,y,z,e1,hy,hz,is (by rw[hl];rfl)⟩
theorem ah9{c:Cn}{o i:AV}{ou w:Zf}(hu:c.A.units+70<cLine)(ro:W.V o ou)(ri:W.V i w)(rv:W.V v u):bh c VU W (wP o i v W.H) (setItem ou w u):=.of λr hr hb=>oB hr hb λl h1 hr=>oB hr hb λo' h2 hr=>oN h2 λob h3 h4=>by
 have hu:c.A.units+1<cLine:=Yy (Yp (by decide) _) hu
 obtain⟨p,q,hp⟩:=V.jY h1 ro
 have wG:=W.R.obj _ _ _ h3 hp
 rw[q]
 cases ob with
 |list xs=>exact oN h4 λk hk e=>bN e λg e=>set_list hp rv ri wG hk g (by rw[Za e];exact hr)
 |dict es=>exact bN h4 λg e=>bA g λg1 g2=>oN e λef hq e=>set_dict hp rv hu ri wG g1 g2 hq (by rw[Za e];exact hr)
 |map ms=>
  refine oN h4 λk hk e=>oN e λov hl e=>?_
  obtain⟨x,t,z,hx⟩:=V.gU hk ri
  rw[z];exact ahz hp rv wG hx hl (by rw[Za e];exact hr)
 |lI ms=>exact oN h4 λs hs e=>oN e λov hl e=>ahy hu hp rv wG (IE ri hs).2 hl (by rw[Za e];exact hr)
 |_=>exact aF h4
end
end Mine
namespace Mine
inductive pa(cx:aQ)(X:Sx)(b:Zh)(r:Res Fm):Zs→Prop
 |mk(fm:Fm)(W:Wd)(t:fm.tn=b)(e:r=.ok fm W.H)(a:Sa cx X fm W):pa cx X b r W.s
inductive kk(X:Sx)(b:Zh)(r:Res Fm):Zf→Zs→Prop
 |mk(W:Wd)(i:Zc)(p:Zj×Zd Zj)(q:r=.exc i W.H)(lo:Lo (b=false) X.own X.W0 W)(ep:W.Y.ρ i=some p)(fl:i4 W i X.W0.h X.c.envs p.1)(fr:W.Y.ar X.env.locals)(ns:∃m,W.h.Ns X.env.locals m):kk X b r (.ref p.1) W.s
def iB(n:Zc)(cx:aQ)(t:PE)(m:Zh→AV→Fm→AM Fm):Prop:=∀{X:Sx}{fm:Fm}{W:Wd}{v:AV}{u:Zf},i7 n X→Sa cx X fm W→W.V v u→∀{r:Res Fm},m X.c.hd v fm W.H=r→r≠.bad→wpAny T.M X.c.A (assign t X.env u) (λ_ s=>pa cx X fm.tn r s) (kk X fm.tn r) W.s
section
variable{n:Zc}{cx:aQ}{X:Sx}{fm:Fm}{W:Wd}{r:Res Fm}
theorem Sa.ex{α:Type}(a:Sa cx X fm W){r0:Res α}(h:∀i H,r0=.exc i H→r=.exc i H){e:Zf}{s:Zs}(z:cV X.c.envs W r0 e s):kk X fm.tn r e s:=cV.casesOn (motive:=λe s _=>kk X fm.tn r e s) z λW' i p q le ep fl=>
 have f:=a.f.step le
 .mk W' i p (h i W'.H q) (a.lo.le le) ep (fl.lower λ_=>a.lo.st.gone) f.ju f.ns
theorem Ta.e{α β:Type}{V:Wd→α→β→Prop}{m:AM α}{f:α→AM Fm}{t:Sem β}(a:Sa cx X fm W)(x:bh X.c V W (m W.H) t)(hr:AM.bind m f W.H=r)(hb:r≠.bad){Q:β→Zs→Prop}(y:∀(W':Wd)(v:α)(b:β),Sa cx X fm W'→Le W W'→V W' v b→f v W'.H=r→Q b W'.s):wpAny T.M X.c.A t Q (kk X fm.tn r) W.s:=
 Y9 (x (iF hr hb)) (λb s z=>aS.casesOn (motive:=λs _=>Q b s) z λW' v e le vv=>y W' v _ (a.le le) le vv ((gf e).symm.trans hr)) λe s z=>a.ex (λi H e=>hr.symm.trans (jL e)) z
theorem gE.put{env:Env}{Y Y':Ly}{h h':Yc}(F:gE cx env fm Y h)(mo:cO Y h Y' h')(fr:Y'.ar env.locals){i:Zc}{x:Str}{v:AV}{o:Zd Zf}(e:cx.ls[i]?=some x){mp:Str→Zd Zf}(k:∀(i:Zc)(x:Str)(v:AV),cx.ls[i]?=some x→aB fm.vars i=some v→isAny v=false→∃u,mp x=some u∧V Y h v u)
  (ns:h'.Ns env.locals (λy=>if y=x then o else mp y))(rv:isAny v=false→∃u,o=some u∧V Y' h' v u):gE cx env (bG fm i v) Y' h' where
 st:=F.st
 e9 j y e:=(F.e9 j y e).casesOn λa b c=>(mo.ids _ _ b).elim λq b'=>.mk (p:=(_,q)) a b' c
 ju:=fr
 fr:=by
  refine⟨_,ns,λj y w e1 e2 e3=>?_⟩
  have e2:aB (nB fm.vars v i) j=some w:=e2
  rw[fY,pW]at e2
  by_cases q:j=i
  ·subst q
   have q:=Za (e.symm.trans e1)
   have hl:=(List.getElem?_eq_some_iff.mp e2).1
   rw[Sz]at hl
   rw[Q3 hl]at e2
   have e2:=Za e2
   obtain⟨u,ou,ru⟩:=rv (e2▸e3)
   exact⟨u,(if_pos q.symm).trans ou,e2▸ru⟩
  ·rw[Qn (Ve q),←fY]at e2
   obtain⟨w',a,b⟩:=k j y w e1 e2 e3
   refine⟨w',(if_neg λz=>q ?_).trans a,V.mono mo _ _ b⟩
   exact((Pj (List.getElem?_eq_some_iff.mp e).1 F.st.nd).mp (e.trans (z▸e1.symm))).symm
theorem Sa.put{x:Str}{i:Zc}{v:AV}{o:Zd Zf}(e:cx.ls[i]?=some x)(ol:X.own X.env.locals)(a:Sa cx X fm W){m:Str→Zd Zf}(k:∀(i:Zc)(x:Str)(v:AV),cx.ls[i]?=some x→aB fm.vars i=some v→isAny v=false→∃u,m x=some u∧W.V v u){h':Yc}{tk:Zc}(ns:h'.Ns X.env.locals (λy=>if y=x then o else m y))(sb:Xw X.env.locals W.h h')
  (rv:isAny v=false→∃u,o=some u∧W.V v u){P:Zs→Prop}(h:∀W':Wd,W'.Y=W.Y→W'.H=W.H→Sa cx X (bG fm i v) W'→P W'.s):P {W.s with heap:=h',toks:=tk}:=by
 have y:eW (·=X.env.locals) W W.Y.Mu W.Y.ar {W.s with heap:=h',toks:=tk}:=.turn ⟨rfl,rfl,rfl⟩ (λa' e=>e▸a.lo.pv _ ol) (λb o nb e=>(sb.2 b nb).trans e) (λa' e=>e▸ns.elim λo z=>z.elim λ_ z=>z.elim λ_ z=>⟨o,z.1⟩)
 have fr:(W.pv y).Y.ar X.env.locals:=a.f.ju
 refine h (W.pv y) rfl rfl ⟨?_,a.f.put y.mono fr e k ns (λn=>(rv n).elim λu z=>⟨u,z.1,V.mono y.mono _ _ z.2⟩),a.lo.turn (D:=(·=X.env.locals)) (λa' e=>e▸ol) y,Vs.mono y.mono a.hv,λh=>have z:=a.a9 h;⟨z.own,z.ne,z.fr,(sb.2 _ z.ne).trans z.g⟩⟩
 exact⟨a.a.depth,a.a.units,a.a.hand,a.a.stack,λenv he=>
  have z:=a.a.iR env he
  ⟨z.kind,z.fr,z.frame,z.new,(Xx (env.locals=X.env.locals)).elim (λq=>⟨_,q.symm▸ns⟩) λq=>z.ns.elim λm w=>⟨m,lX w λo eo=>(sb.2 _ q).trans eo⟩⟩⟩
theorem Ax{x:Str}{i:Zc}{v:AV}{u:Zf}{E:Zf→Zs→Prop}{Q:Unit→Zs→Prop}(e:cx.ls[i]?=some x)(g:i7 n X)(a:Sa cx X fm W)(rv:W.V v u)(h:∀W':Wd,W'.Y=W.Y→W'.H=W.H→Sa cx X (bG fm i v) W'→Q () W'.s){A:Yu}:wpAny T.M A (storeName X.env x u) Q E W.s:=by
 obtain⟨m,ns0,k⟩:=a.f.fr
 exact Q5 (a.f.st.look (a.f.st.locs i x e)) ns0 (λh' ns sb=>a.put e g.ol k ns sb (P:=Q ()) (λ_=>⟨u,rfl,rv⟩) h) (by rw[a.f.st.kind];rfl)
theorem xL{x:Str}{i:Zc}{v:AV}{u:Zf}(e:cx.ls[i]?=some x)(g:i7 n X)(a:Sa cx X fm W)(rv:W.V v u):wpAny T.M X.c.A (bindName X.env x u) (λ_ s=>pa cx X fm.tn (.ok (bG fm i v) W.H) s) (kk X fm.tn (.ok (bG fm i v) W.H)) W.s:=
 wpAny_bindName (Ax e g a rv λW' _ eH a'=>pa.mk (bG fm i v) W' rfl (eH▸rfl) a')
theorem aii{x:Str}{i:Zc}{p:Pos}(e:cx.ls[i]?=some x):iB n cx (.Name x p) (λ_ v fm=>AM.pure (bG fm i v)):=λ{X fm W v u} g a rv{r} hr hb=>by
 cases hr
 rw[arm_assign_Name]
 exact Zg (Yw (xL e g a rv))
theorem aif{x:Str}{j:Zc}{p:Pos}(e:cx.cs[j]?=some x)(nc:cx.cA.lookup x=some .cell):iB n cx (.Name x p) (λ_ v fm=>Ar fm j v):=λ{X fm W v u} g a rv{r} hr hb=>oB hr hb λi h1 hr=>oB hr hb λoc h2 hr=>oN h2 λo h3 h4=>by
 obtain⟨e1,e2,e3⟩:=a.f.e9 j x e
 rw[Za (e1.symm.trans h1)]at e2
 rw[Cp h4]at h3
 obtain⟨q,hx,hd,rr⟩:=(W.R.obj _ _ _ h3 e2:lg W.Y W.h _ oc)
 refine Pd (wpAny_storeName_cell a.f.st.kind (a.f.st.look nc) e3 ⟨_,hx,hd⟩ λh' ic sb=>?_)
 obtain⟨ob,pC,fV⟩:=ic
 obtain⟨W',w⟩:=W.turn (o:=.cell (some v)) (tk:=W.s.toks) e2 (.x rfl) sb ⟨_,pC⟩ λY' m=>lg.mk q pC fV ⟨u,rfl,V.mono m _ _ rv⟩
 have es:W'.s={W.s with heap:=h'}:=w.s
 exact es▸pa.mk fm W' rfl (hr.symm.trans (w.H▸rfl)) (a.le w.le)
theorem aie{o:PE}{x:Str}{at_:Zc}{p:Pos}{mo:Zh→Fm→AM AV}(hx:T.S.nm at_=some x)(jo:aP n cx o mo):iB n cx (.Attribute o x p) (λhd v fm=>AM.bind (mo hd fm) λov=>AM.bind (oX T.S ov at_ v) λ_=>AM.pure fm):=λ{X fm W v u} g a rv{r} hr hb=>by
 refine Zg (Y0 (Ta.e a (jo (a.gd g)) hr hb λW1 ov ou a1 d6 r1 hr=>?_))
 refine Zg (Yw (Zg (Y0 (Ta.e a1 (Io r1 (d6.v rv) hx) hr hb λW2 _ _ a2 _ _ hr=>Tz (.mk fm W2 rfl hr.symm a2)))))
theorem aih{o i:PE}{p:Pos}{mo mi:Zh→Fm→AM AV}(jo:aP n cx o mo)(ji:aP n cx i mi):iB n cx (.Subscript o i p) (λhd v fm=>AM.bind (mo hd fm) λov=>AM.bind (mi hd fm) λk=>AM.bind (wP ov k v) λ_=>AM.pure fm):=λ{X fm W v u} g a rv{r} hr hb=>by
 refine Zg (Y0 (Ta.e a (jo (a.gd g)) hr hb λW1 ov ou a1 d6 r1 hr=>?_))
 refine Zg (Y0 (Ta.e a1 (ji (a1.gd g)) hr hb λW2 k iu a2 bD r2 hr=>?_))
 refine Zg (Yw (Zg (Y0 (Ta.e a2 (ah9 a2.a.room (bD.v r1) r2 (bD.v (d6.v rv))) hr hb λW3 _ _ a3 _ _ hr=>Tz (.mk fm W3 rfl hr.symm a3)))))
end
end Mine
namespace Mine
def r5(n:Zc)(cx:aQ)(ts:Zb PE)(m:Zh→Zb AV→Fm→AM Fm):Prop:=∀{X:Sx}{fm:Fm}{W:Wd}{xs:Zb AV}{us:Zb Zf},i7 n X→Sa cx X fm W→W.Vs xs us→∀{r:Res Fm},m X.c.hd xs fm W.H=r→r≠.bad→wpAny T.M X.c.A (assignInOrder ((assignEach ts X.env).map (·.2)) us) (λ_ s=>pa cx X fm.tn r s) (kk X fm.tn r) W.s
section
variable{n:Zc}{cx:aQ}
theorem ai9:r5 n cx [] (λ_ xs fm=>Zo (AM.pure fm) (λ_ _ _=>AM.fail) xs):=λ{X fm W xs us} g a rv{r} hr hb=>by
 cases xs with
 |nil=>rw[rv.kP];exact Zq (.mk fm W rfl hr.symm a)
 |cons _ _=>exact Y8 hr.symm hb
theorem ai8{t:PE}{ts:Zb PE}{m:Zh→AV→Fm→AM Fm}{ms:Zh→Zb AV→Fm→AM Fm}(ns:∀env,assignEach (t::ts) env=(false,assign t env)::assignEach ts env)(jt:iB n cx t m)(js:r5 n cx ts ms):r5 n cx (t::ts) (λhd xs fm=>Zo AM.fail (λv r _=>AM.bind (m hd v fm) λfm=>ms hd r fm) xs):=λ{X fm W xs us} g a rv{r} hr hb=>by
 cases xs with
 |nil=>exact Y8 hr.symm hb
 |cons v xs=>
  obtain⟨q,r1,r2⟩:=rv.inv
  rename_i u us
  rw[ns,q]
  let X':Sx:=⟨X.c,X.env,X.own,X.W0,⟨X.ev.hd,X.ev.n0,xs++X.ev.hold⟩,us++X.hv,X.a9⟩
  refine Zg (Y0 (Y9 (jt (X:=X') ⟨g.n,g.hd,g.e,g.ol,g.fo,g.n0⟩ ⟨a.a,a.f,a.lo,Vs.app a.hv r2,λh=>have z:=a.a9 h;⟨z.own,z.ne,z.fr,z.g⟩⟩ r1 rfl (iF hr hb)) (λ_ s z=>?_) λe s z=>?_))
  ·obtain⟨aX,W1,t1,e1,a1⟩:=z
   have h1:=Vs.take xs.length a1.hv
   have h2:=Vs.drop xs.length a1.hv
   rw[List.take_left,r2.len,List.take_left]at h1
   rw[List.drop_left,r2.len,List.drop_left]at h2
   have z:=js g ⟨a1.a,a1.f,a1.lo,h2,λh=>have z:=a1.a9 h;⟨z.own,z.ne,z.fr,z.g⟩⟩ h1 ((gf e1).symm.trans hr) hb
   rw[t1]at z
   exact z
  ·obtain⟨W1,i,p,q,lo,ep,fl,fr,ns⟩:=z
   exact .mk W1 i p (hr.symm.trans (jL q)) lo ep fl fr ns
theorem aij{ts:Zb PE}{k L:Zc}{p:Pos}{ms:Zh→Zb AV→Fm→AM Fm}(na:∀env,∀x∈assignEach ts env,x.1=false)(hl:L=ts.length)(la:∀env,(assignEach ts env).length=ts.length)(js:r5 n cx ts ms):iB n cx (.Tuple ts k p) (λhd v fm h=>aa (dX v) .bad λxs=>ae (Zi (aJ xs) L) (Zp (ms hd xs fm h) .bad hd) .bad):=λ{X fm W v u} g a rv{r} hr hb=>oB hr hb λxs h1 hr=>bB hr hb λgl hr=>by
 obtain⟨q,rs,l1,⟨ho,hn⟩,hc,hd⟩:=V.j7 h1 rv
 rename_i vs ad o nn
 have gl:=Zr gl
 rw[dH,hl]at gl
 rw[q]
 cases hh:X.c.hd with
 |true=>rw[hh]at hr;exact Y8 hr.symm hb
 |false=>
  rw[hh]at hr
  refine wpAny_assign_Tuple (a.a.hand hh) (items:=vs.toArray) ⟨_,ho,hc,nn,hd⟩ ?_ ?_ λh' ex=>?_
  ·rw[la,←gl,rs.len];rfl
  ·rw[List.findIdx?_eq_none_iff];exactλx hx=>na _ x hx
  ·have y:Keeps No W.Y W.h h':=.all λb o e=>ex b o (V1 (V4 e)) e
   let W3:Wd:=⟨W.Y,{W.s with heap:=h'},W.H,W.R.grow y⟩
   have le:Le W W3:=⟨.grow y,rfl,rfl,rfl⟩
   exact js (W:=W3) g (a.le le) (le.vs rs) (by rw[hh];exact hr) hb
end
end Mine
namespace Mine
theorem KD(k n:Zc)(h:k≤n):sliceBounds (some (k:Zw)) none none n=((k:Zw),(n:Zw),(1:Zw)):=by
 unfold sliceBounds
 simp only[Option.getD_none]
 rw[if_neg (Int.not_lt.mpr (X0 k))]
 have h2:max (0:Zw) (min k n)=k:=by rw[Int.min_eq_left (Int.ofNat_le.mpr h),Int.max_eq_right (X0 k)]
 simp[h2]
section
variable{A:Yu}{E:Zf→Zs→Prop}{s:Zs}
theorem ahr{l sl b:Zj}{a9 ys:X9 Zf}{n m:Zc}{i:Zw}{k:Zc}{t:Tok}{Q:Unit→Zs→Prop}(ho:s.heap.get? l=some (Vo a9 n))(hb:s.heap.get? b=some (Vo ys m))(hs:s.heap.IsSliceOf sl (.int i t) .none .none)(hi:i=k)(hk:k≤a9.size)(z:a9.size+ys.size≤2000000)
  (hQ:∀h' n',Xw l s.heap h'→h'.get? l=some (Vo (a9.extract 0 k++ys) n')→Q () {s with heap:=h'}):wpAny T.M A (setItem (.ref l) (.ref sl) (.ref b)) Q E s:=by
 have hl:s.heap.IsList l a9:=⟨_,ho,rfl,n,rfl⟩
 obtain⟨os,vC,UU,on⟩:=id hs
 have Fk:s.TypeIs (.ref sl) "slice":=⟨os,vC,UU⟩
 have UM:s.TypeIs (.ref b) "list":=⟨_,hb,rfl⟩
 unfold setItem
 refine Y0 ?_
 refine Zg (Pb hl.typeIs (by decide) ?_)
 refine Zg (T3 (name:=Sh "__setitem__") hl.typeIs Vv
  (U4 Vv hl.typeIs Re ?_ (Rq _ _ _)))
 show wpAny _ _ (Um (.ref sl)>>=_) _ _ s
 refine Zg ?_
 unfold Um
 refine Zg (Sv Fk slice_no_index ?_)
 simp only[Option.isNone_none,if_true]
 refine Zq ?_
 show wpAny _ _ (typeOf (.ref sl)>>=_) _ _ s
 refine Zg (wpAny_typeOf Fk ?_)
 rw[if_neg (by decide)]
 rw[listSliceParts_eq]
 refine Zg (Zg (W9 vC on (x:=.none) rfl (Zg (R4 (k:=none) .none ?_))))
 rw[if_neg (by exact Yn)]
 refine Zg (W9 vC on (x:=.int i t) rfl (Zg (R4 (k:=some i) (.int i t) ?_)))
 refine Zg (W9 vC on (x:=.none) rfl (Zg (R4 (k:=none) .none (Zq ?_))))
 have items:∀{a:Zj}{xs:X9 Zf}{c:Zc}{Q:X9 Zf→Zs→Prop},s.heap.get? a=some (Vo xs c)→Q xs s→wpAny T.M A.in1 (Td (.ref a)) Q (λe s'=>E e s') s:=by
  intro a xs c Q ha hq
  unfold Td
  exact Zg (wpAny_seqItems ha rfl (Zq hq))
 have cont:∀{Q':Fin→Zs→Prop},(∀h' n',Xw l s.heap h'→h'.get? l=some (Vo (a9.extract 0 k++ys) n')→Q' (.done (.ret .none)) {s with heap:=h'})→wpAny T.M A.in1 (do
   let xs←Td (.ref l)
   let(start,stop,step)←sliceIndices (rawPart (some i)) (rawPart none) (rawPart none) xs.size
   if step==1 then
    rule "list.__setitem__.slice"
    if Wy (xs.size+ys.size)then unsupported "list.__setitem__:memory"
    Ry (.ref l) λxs=>xs.extract 0 start.toNat++ys++xs.extract (max start stop).toNat xs.size
    letGo (xs.extract start.toNat (max start stop).toNat).toList.reverse
    return←ret .none
   let places:=sliceRange start stop step
   if ys.size !=places.length then
    rule "list.__setitem__.extended-slice-size"
    raiseError"ValueError"s!"attempt to assign sequence of size {ys.size} to extended slice of size {places.length}"
   rule "list.__setitem__.extended-slice"
   Ry (.ref l) λxs=>(places.zip ys.toList).foldl (λxs(k,x)=>xs.setIfInBounds k x) xs
   letGo (places.filterMap (xs[·]?))
   ret .none) Q' (λe s'=>E e s') s:=by
  intro Q' hq
  refine Zg (items ho ?_)
  refine Zg (Qa (sliceIndices_raw (some i) none none a9.size (by simp)) ?_)
  subst hi
  rw[KD k a9.size hk]
  dsimp only
  rw[if_pos (by decide)]
  refine Zg (wpAny_rule ?_)
  have tl:Wy (a9.size+ys.size)=false:=by
   unfold Wy;rw[Wa];exact Ym (Nat.not_lt.mpr (Zu z (by decide)))
  rw[tl,if_neg (by decide)]
  have e1:((k:Zw)).toNat=k:=rfl
  have e2:(max (k:Zw) a9.size).toNat=a9.size:=by rw[Int.max_eq_right (Int.ofNat_le.mpr hk)];rfl
  have fe:a9.extract 0 k++ys++a9.extract a9.size a9.size=a9.extract 0 k++ys:=by simp
  let f:X9 Zf→X9 Zf:=λxs=>xs.extract 0 ((k:Zw)).toNat++ys++xs.extract (max (k:Zw) a9.size).toNat xs.size
  have ff:f a9=a9.extract 0 k++ys:=by
   show a9.extract 0 ((k:Zw)).toNat++ys++a9.extract (max (k:Zw) a9.size).toNat a9.size=_
   rw[e1,e2];exact fe
  obtain⟨n',e⟩:∃n',U5 f (Vo a9 n)=Vo (f a9) n':=⟨_,rfl⟩
  have cH:(s.heap.update l (U5 f)).get? l=some (Vo (a9.extract 0 k++ys) n'):=(Ys (U5 f) ho rfl).trans (Ze some (e.trans (Ze (λz=>Vo z n') ff)))
  have zf:(f a9).size≤sizeLine+1:=by
   rw[ff,Wa,Array.size_append,Array.size_extract];exact Zu (Tm (Zu (Nat.sub_le _ _) (U6 ..)) _) (Zu z (by decide))
  refine Zg (m:=updateSeq l f) (wpAny_updateSeq ho rfl ?_ (by rw[Wa];exact Zu (Zu (Xu _ _) z) (by decide)) zf)
  refine Zg (wpAny_letGo ?_)
  exact Zg (Zq (Zq (hq _ _ (Xp ..) cH)))
 by_cases same:Builtin.List.listSameRef (.ref l) (.ref b)=true
 ·rw[if_pos same]
  refine Zg (items hb ?_)
  exact cont λh' n' sb cH=>⟨_,rfl,Zq (hQ h' n' sb cH)⟩
 ·rw[if_neg same]
  refine Zg ?_
  unfold Builtin.List.listAllItems
  refine Zg (wpAny_typeOf UM ?_)
  rw[if_pos (by decide)]
  refine items hb ?_
  exact cont λh' n' sb cH=>⟨_,rfl,Zq (hQ h' n' sb cH)⟩
end
theorem aig{n:Zc}{cx:aQ}{o e:PE}{sp p:Pos}{mo me:Zh→Fm→AM AV}(jo:aP n cx o mo)(je:aP n cx e me):iB n cx (.Subscript o (.Slice (some e) none none sp) p) (λhd v fm=>AM.bind (mo hd fm) λov=>AM.bind (me hd fm) λk=>λh=>
  aa (gK ov) .bad λl=>aa (mY k) .bad λi=>aa (jv T.S h v) .bad λys=>aa (aq (h.get l) jg) .bad λxs=>
  ae (ak (apart l v) (ak (Zl i (aJ xs)) (ak (Zl (aJ ys) 1) (Zl (aJ xs) ez)))) (.ok fm (h.set l (.list (aD (iI xs i) ys)))) .bad):=λ{X fm W v u} g a rv{r} hr hb=>by
 refine Zg (Y0 (Ta.e a (jo (a.gd g)) hr hb λW1 ov ou a1 d6 r1 hr=>?_))
 refine Zg (Y0 (wpAny_Slice ?_))
 rw[evalPart_some]
 refine Ta.e a1 (je (a1.gd g)) hr hb λW2 k ku a2 bD r2 hr=>?_
 refine Zq (Zq ?_)
 refine oB hr hb λl h1 hr=>oB hr hb λi h2 hr=>oB hr hb λys h3 hr=>oB hr hb λxs h4 hr=>bB hr hb λgg hr=>oN h4 λob h5 h6=>?_
 refine bA gg λ_ gg=>bA gg λgb gg=>bA gg λgc gd=>?_
 obtain⟨pp,q,hp⟩:=V.jY h1 (bD.v r1)
 obtain⟨t,qk⟩:=zF r2 h2
 obtain⟨qb,hl,rs,ll⟩:=mW (bD.v (d6.v rv)) h3
 rename_i bb ws nn
 obtain⟨q2,hx,rx,lx⟩:eU W2.Y W2.h pp xs:=by
  cases ob with
  |list zs=>cases h6;exact W2.R.obj _ _ _ h5 hp
  |_=>cases h6
 rename_i vs nx
 have gb:=Zm gb
 have gc:=Zm gc
 have gd:=Zm gd
 rw[dH]at gb gc gd
 rw[q,qk,qb]
 refine Zg (Yw (Zg (Y0 ?_)))
 have y:Keeps No W2.Y W2.h (W2.h.push {cls:=.type "slice",data:=.fields #[.int (i:Zc) t,.none,.none]}):=.all λb o e=>Zv _ e
 let W3:Wd:=⟨W2.Y,{W2.s with heap:=_},W2.H,W2.R.grow y⟩
 have dO:Le W2 W3:=⟨.grow y,rfl,rfl,rfl⟩
 refine ahr (s:=W3.s) (Zv _ hx) (Zv _ hl) ⟨_,Yb _ rfl,rfl,rfl⟩ rfl (by rw[Zy,←rx.len];exact gb) (by rw[Zy,Zy,←rx.len,←rs.len];exact Zu (Xn gd gc) (by decide)) λh' n' sb cH=>?_
 have e4:vs.toArray.extract 0 i++ws.toArray=(vs.take i++ws).toArray:=by rw[List.extract_toArray,Tt];rfl
 rw[e4]at cH
 obtain⟨W',w⟩:=W3.turn (o:=.list (aD (iI xs i) ys)) (tk:=W3.s.toks) hp (.x rfl) sb ⟨_,cH⟩ λY' m=>eU.mk q2 cH (by rw[mw,IS];exact((Vs.app (dO.vs rs) (Vs.take i (dO.vs rx)))).mono m) (by
  rw[Yk,U7,←rs.len]
  exact Zu (Xn (Zu (Sw _ _) (Zu gb gd)) gc) (by decide))
 have es:W'.s={W3.s with heap:=h'}:=w.s
 exact Tz (es▸pa.mk fm W' rfl (hr.symm.trans (w.H▸rfl)) (a2.le (dO.trans w.le)))
end Mine
namespace Mine
section
variable{n:Zc}{cx:aQ}
theorem kk.toS{X:Sx}{fm:Fm}{r:SR}{m:AM Fm}{f:Fm→AH→SR}{H:AH}{e:Zf}{s:Zs}(hr:sB fm m H f=r)(hb:r≠.bad)(z:kk X fm.tn (m H) e s):hJ X r e s:=kk.casesOn (motive:=λe s _=>hJ X r e s) z λW i p q lo ep fl fr ns=>
 have z:=Ib hr hb q
 .mk W i p z.2 (lo.im λ_=>z.1) ep fl fr ns
theorem ai4{t e:PE}{p:Pos}{m:Zh→Fm→AM AV}{mt:Zh→AV→Fm→AM Fm}(nc:∀env,swapsWithSole [t] e p.line env=pure false)(sw:∀env:Env,(∀x,cx.cA.lookup x=some .cell→env.kindOf x=some .cell)→X2 [t] e env=pure none)(ns:∀env,assignEach [t] env=[(false,assign t env)])(jt:iB n cx t mt)(je:aP n cx e m):
  eJ n cx (.Assign [t] e p) (λev fm h=>sB fm (m ev.hd fm) h λv h=>sB fm (mt ev.hd v fm) h λfm h=>.nx fm h):=λ{X fm W} g a{r} hr hb=>by
 have hr:sB fm (m X.ev.hd fm) W.H (λv h=>sB fm (mt X.ev.hd v fm) h λfm h=>.nx fm h)=r:=hr
 rw[g.hd]at hr
 rw[PyProof.Rows.exec_Assign]
 refine Zg (Yw ?_)
 rw[nc]
 refine Zg (Zq ?_)
 rw[if_neg (by decide)]
 refine Zg (St.e a (je (a.gd g)) hr hb λW1 v u a1 d6 r1 hr=>?_)
 rw[sw _ λx e=>a.f.st.look e]
 refine Zg (Zq ?_)
 rw[ns]
 show wpAny T.M X.c.A (assign t X.env u>>=λ_=>pure Flow.next) _ _ W1.s
 refine Zg (Y9 (jt g a1 r1 rfl (rE hr hb)) (λ_ s z=>?_) λe s z=>z.toS hr hb)
 obtain⟨di,W2,_,e2,a2⟩:=z
 exact Zq (.nx di W2 (ug hr e2).symm a2)
end
end Mine
namespace Mine
theorem zN{r r':SR}(h:fH r=r')(hb:r'≠.bad):r=r'∧r'≠.bad∧∀i H,r'≠.ex i H:=by
 subst h
 cases r with
 |nx fm H=>exact⟨rfl,hb,λi H=>SR.noConfusion⟩
 |rt v H=>exact⟨rfl,hb,λi H=>SR.noConfusion⟩
 |ex i H=>exact Y8 rfl hb
 |bad=>exact Y8 rfl hb
section
variable{n:Zc}{cx:aQ}
theorem hJ.no{X:Sx}{r:SR}{e:Zf}{s:Zs}{P:Prop}(z:hJ X r e s)(nx:∀i H,r≠.ex i H):P:=hJ.casesOn (motive:=λ_ _ _=>P) z λW i p q _ _ _ _ _=>(nx i W.H q).elim
inductive BP(cx:aQ)(X:Sx)(mq:Fm→AM AV)(mb:SM)(r:SR)(k:Zc):Zs→Prop
 |mk(fm:Fm)(W:Wd)(e:rR mq mb k fm W.H=r)(a:Sa cx X fm W):BP cx X mq mb r k W.s
theorem ai7{q:PE}{b:Zb Stmt}{p:Pos}{mq:Zh→Fm→AM AV}{mb:Ev→SM}(jq:gJ n cx q mq)(jb:fC n cx b mb):eJ n cx (.While q b [] p) (λev fm h=>fH (rR (mq ev.hd) (mb ev) cw fm h)):=λ{X fm W} g a{r} hr hb=>by
 obtain⟨hr,hb,nx⟩:=zN hr hb
 rw[g.hd]at hr
 refine wpAny_While (codeAny_whileLoop (λk s=>BP cx X (mq X.c.hd) (mb X.ev) r k s) (λk s1 I=>?_) cw (.mk fm W hr a))
 obtain⟨aX,W1,e1,a1⟩:=I
 cases k with
 |zero=>exact Y8 e1.symm hb
 |succ k=>
  have e1:sB aX (mq X.c.hd aX) W1.H (λv h=>aa (bK v) .bad λb=>Zp (.nx aX h) (SR.rec (λfm h=>rR (mq X.c.hd) (mb X.ev) k fm h) .rt .ex .bad (mb X.ev aX h)) b)=r:=e1
  refine Y9 ?_ (λ_ _ h=>h) (λe s(z:hJ X r e s)=>z.no nx)
  refine St.e (m:=mq X.c.hd aX) a1 (jq (a1.gd g)) e1 hb λW2 v u a2 _ rv e2=>?_
  rw[show v=.bool u from rv]at e2
  cases u with
  |false=>
   rw[if_neg (by decide)]
   exact Ud (.nx aX W2 e2.symm a2)
  |true=>
   rw[if_pos rfl]
   have e2:SR.rec (motive:=λ_=>SR) (λfm h=>rR (mq X.c.hd) (mb X.ev) k fm h) .rt .ex .bad (mb X.ev aX W2.H)=r:=e2
   have nb:mb X.ev aX W2.H≠.bad:=λq=>hb (by rw[←e2,q])
   refine Y9 (jb g a2 rfl nb) (λfl s z=>?_) λe s z=>z.no λi H q=>nx i H (by rw[←e2,q])
   cases z with
   |nx jP W3 e3 a3=>rw[e3]at e2;exact⟨k,We _,.mk jP W3 e2 a3⟩
   |rt v u W3 e3 lo rv=>rw[e3]at e2;exact .rt v u W3 e2.symm lo rv
end
end Mine
namespace Mine
section
variable{A:Yu}{E:Zf→Zs→Prop}{W:Wd}
theorem uP{a b:Zw}{t u:Tok}{s:Zs}{Q:Zf→Zs→Prop}(h:∀v tk,Q (.int (a+b) v) {s with toks:=tk}):wpAny T.M A (inplaceOp .Add (.int a t) (.int b u)) Q E s:=
 PySem.AutoIntOps.iadd_0 (h _ _)
theorem Kk{a b c:AV}{u v:Zf}{Q:Zf→Zs→Prop}(ra:W.V a u)(rb:W.V b v)(e:uG .Add a b=some c)(h:∀v tk,W.V c v→Q v {W.s with toks:=tk}):wpAny T.M A (inplaceOp .Add u v) Q E W.s:=
 oO e (λe=>oN e λj hj e=>(V.cU hj rb).elim λy ey=>oO e (λe=>oN e λq hq e=>bN e λg e=>by
   obtain⟨i,x,ex,ge,em⟩:=(Cx hq▸ra:W.V (.md q.1 q.2) u)
   obtain⟨k,rfl⟩:=Vw ge
   obtain⟨d,rfl⟩:=Vw (Int.le_of_lt (Y2 g))
   have em:k%q.1=q.2:=em
   rw[ex,ey]
   exact uP λv tk=>h _ _ (Za (show some (AV.md q.1 (V9 (Zn q.2 d) q.1))=some c from e)▸⟨_,_,rfl,X0 (k+d),em▸(Nat.mod_add_mod k q.1 d).symm⟩)) λe=>bN e λg e=>bA g λg1 g2=>by
   have g2:=Y2 g2
   subst g2
   refine oO e (λe=>oN e λq hq e=>?_) λe=>oN e λp hp e=>?_
   ·obtain⟨i,x,ex,le⟩:=(uI hq▸ra:W.V (.cnt q.1 q.2) u)
    rw[ex,ey]
    exact uP λ_ _=>h _ _ (Za e▸⟨_,_,rfl,DH le⟩)
   ·obtain⟨x,ex⟩:=rm hp ra
    rw[ex,ey]
    exact uP λ_ _=>h _ _ (Za e▸⟨_,rfl⟩))
  λe=>oN e λi hi e=>oN e λj hj e=>oN e λk hk e=>(V.cU hi ra).elim λx ex=>(V.cU hj rb).elim λy ey=>by
   rw[ex,ey]
   exact uP λtk _=>h _ _ (Za e▸⟨tk,Ze (Ts · tk) (Za hk)⟩)
theorem ah5{cn:Cn}{op:Xf}{a b c:AV}{u v:Zf}(ra:W.V a u)(rb:W.V b v)(e:sC op a b=some c):bh cn VV W (AM.pure c W.H) (inplaceOp op u v):=
 .of λr hr hb=>bN e λg e=>by
  cases vH g
  exact Kk ra rb e λv tk h=>.mk (W.tok tk) c hr.symm (.tok W tk) h
end
theorem aiU{n:Zc}{cx:aQ}{o e:PE}{x:Str}{a:Zc}{op:Xf}{q p:Pos}{mo me:Zh→Fm→AM AV}(hx:T.S.nm a=some x)(jo:aP n cx o mo)(je:aP n cx e me):
  eJ n cx (.AugAssign (.Attribute o x q) op e p) (λev fm h=>sB fm (mo ev.hd fm) h λov h=>sB fm (mz ov a) h λold h=>sB fm (me ev.hd fm) h λd h=>aa (sC op old d) .bad λk=>sB fm (oX T.S ov a k) h λ_ h=>.nx fm h):=λ{X fm W} g a0{r} hr hb=>by
 have hr:sB fm (mo X.ev.hd fm) W.H (λov h=>sB fm (mz ov a) h λold h=>sB fm (me X.ev.hd fm) h λd h=>aa (sC op old d) .bad λk=>sB fm (oX T.S ov a k) h λ_ h=>.nx fm h)=r:=hr
 rw[g.hd]at hr
 refine Zg (Yw (Zg (St.e a0 (jo (a0.gd g)) hr hb λW1 ov ou a1 d6 r1 hr=>?_)))
 refine Zg (Y0 (Zg (Yw (Zg (St.e a1 (Im r1 hx) hr hb λW2 olv old a2 bD r2 hr=>?_)))))
 refine Zg (Y0 (St.e a2 (je (a2.gd g)) hr hb λW3 d dv a3 dO r3 hr=>?_))
 cases hk:sC op olv d with
 |none=>rw[hk]at hr;exact Y8 hr.symm hb
 |some k=>
 rw[hk]at hr
 refine Zg (Yw (St.e (m:=AM.pure k) (f:=λk h=>sB fm (oX T.S ov a k) h λ_ h=>.nx fm h) a3 (.op (ah5 (dO.v r2) r3 hk)) hr hb λW4 k nv a4 q6 r4 hr=>?_))
 exact Zg (Yw (Zg (Y0 (St.e a4 (Io (q6.v (dO.v (bD.v r1))) r4 hx) hr hb λW5 _ _ a5 _ _ hr=>Zg (Tz (Zq (.nx fm W5 hr.symm a5)))))))
end Mine
namespace Mine
theorem aj4{xs:Zb AV}(e:Zi (aJ xs) 2=true):∃a b,xs=[a,b]:=by
 rcases xs with _|⟨a,_|⟨b,_|⟨c,xs⟩⟩⟩<;>first|exact⟨_,_,rfl⟩|exact aA e
theorem ai5{n:Zc}{cx:aQ}{c:bc}{x y:Str}{px py:Pos}{k i j:Zc}{q p:Pos}{e:PE}{m:Zh→Fm→AM AV}(nc:∀env,swapsWithSole [.Tuple [.Name x px,.Name y py] k q] e p.line env=pure false)(ys:∀env:Env,env.scope.kind=.function→(∀(i:Zc)(z:Str),cx.ls[i]?=some z→env.kindOf z=some .local)→X2 [.Tuple [.Name x px,.Name y py] k q] e env=pure (some [x,y]))
  (nij:i≠j)(hi:cx.ls[i]?=some x)(hj:cx.ls[j]?=some y)(je:aP n cx e m):
  eJ n cx (.Assign [.Tuple [.Name x px,.Name y py] k q] e p) (λev fm h=>sB fm (m ev.hd fm) h λv h=>sB fm (eZ T.S c ev.hd (.tup [.loc i,.loc j]) v fm) h λfm h=>.nx fm h):=λ{X fm W} g a{r} hr hb=>by
 have hr:sB fm (m X.ev.hd fm) W.H (λv h=>sB fm (eZ T.S c X.ev.hd (.tup [.loc i,.loc j]) v fm) h λfm h=>.nx fm h)=r:=hr
 rw[g.hd]at hr
 refine PyProof.Rows.Assign_Tuple_swapped (names:=[x,y]) (St.e a (je (a.gd g)) hr hb λW1 av u a1 d6 r1 hr=>?_) (nc _) (ys _ a.f.st.kind λi z h=>a.f.st.look (a.f.st.locs i z h))
 have nb:=rE hr hb
 refine oB rfl nb λxs h1 e1=>bB e1 nb λgl _=>?_
 obtain⟨b1,b2,qx⟩:=aj4 gl
 rw[qx]at h1
 rw[nQ h1]at hr nb
 cases hh:X.c.hd with
 |true=>rw[hh]at nb;exact Y8 rfl nb
 |false=>
 obtain⟨qu,rs,l1,⟨ho,hn⟩,hc,hd⟩:=V.j7 h1 r1
 rename_i vs ad o nn
 ·rw[hh]at hr
  have hr:SR.nx (bG (bG fm i b1) j b2) W1.H=r:=hr
  obtain⟨u1,u2,q2,z1,z2⟩:=Vs.two rs
  subst q2
  rw[qu]
  refine wpAny_unpackItems_tuple (items:=#[u1,u2]) (a1.a.hand hh) ⟨_,ho,hc,nn,hd⟩ λh' ex=>?_
  have y':Keeps No W1.Y W1.h h':=.all λb o e=>ex b o (V1 (V4 e)) e
  let W2:Wd:=⟨W1.Y,{W1.s with heap:=h'},W1.H,W1.R.grow y'⟩
  have bD:Le W1 W2:=⟨.grow y',rfl,rfl,rfl⟩
  have a2:=a1.le bD
  let X':Sx:=⟨X.c,X.env,X.own,X.W0,⟨X.ev.hd,X.ev.n0,b1::X.ev.hold⟩,u1::X.hv,X.a9⟩
  show wpAny T.M X.c.A (W8 [u1] (bindName X.env y u2)>>=λ_=>W8 [] (bindName X.env x u1)>>=λ_=>pure ()) _ _ W2.s
  refine Zg (Y0 (Y9 (xL (X:=X') (n:=n) hj ⟨g.n,g.hd,g.e,g.ol,g.fo,g.n0⟩ ⟨a2.a,a2.f,a2.lo,Vs.cons (bD.v z1) a2.hv,λh=>have z:=a2.a9 h;⟨z.own,z.ne,z.fr,z.g⟩⟩ (bD.v z2)) (λ_ s z=>?_) λe s z=>?_))
  ·obtain⟨jP,W3,_,e3,a3⟩:=z
   obtain⟨q3,w1,w2⟩:=Vs.inv a3.hv
   injection q3 with q3 q4
   subst q3 q4
   refine Zg (Y0 (Y9 (xL (n:=n) hi g ⟨a3.a,a3.f,a3.lo,w2,λh=>have z:=a3.a9 h;⟨z.own,z.ne,z.fr,z.g⟩⟩ w1) (λ_ s z=>?_) λe s z=>?_))
   ·obtain⟨yg,W4,_,e4,a4⟩:=z
    injection e3 with e3 f3
    injection e4 with e4 f4
    refine Zq (.nx yg W4 ?_ a4)
    rw[←hr,←e4,←f4,←f3,←e3]
    refine Ze (SR.nx · W1.H) ?_
    unfold bG
    rw[pW,pW,pW,pW,List.set_comm _ _ nij]
   ·cases z with
    |mk _ _ _ q=>cases q
  ·cases z with
   |mk _ _ _ q=>cases q
end Mine
namespace Mine
section
variable{c:Cn}{env:Env}{fm:Fm}{D:Zj→Prop}{W W':Wd}{cx:aQ}(v:Mv D W W')(n:∀a,W.Y.ar a→¬D a)
include v n
theorem Mv.a(a:eT c W.Y W.h):eT c W'.Y W'.h:=⟨a.depth,a.units,a.hand,a.stack,λenv he=>
 have z:=a.iR env he
 have q:=n _ z.fr
 ⟨z.kind,(v.fr _ q).mpr z.fr,z.frame,z.new,z.ns.elim λm w=>⟨m,lX w λo=>v.k _ o q⟩⟩⟩
theorem Mv.f(a:gE cx env fm W.Y W.h):gE cx env fm W'.Y W'.h:=
 have q:=n _ a.ju
 a.move v.m (v.fr _ q).mpr λm w=>lX w λo=>v.k _ o q
end
structure Proto(A:Yu)(src:AV)(nx:Zc→AM (Zd AV))(t:PE)(u:Zf)(l:Zj)(D:Zj→Prop)(St:Zc→Wd→Prop):Prop where
 th:∀{i:Zc}{W:Wd},St i W→∀a,D a→∃o,W.h.get? a=some o
 at_:∀{i:Zc}{W W':Wd},St i W→(∀a o,D a→W.h.get? a=some o→W'.h.get? a=some o)→St i W'
 next:∀{K:Prop}{own:Zj→Prop}{W0 W:Wd}{i:Zc}{r:Res (Zd AV)},Lo K own W0 W→(∀a,D a→own a∧W0.h.get? a=none)→W.V src (.ref l)→St i W→nx i W.H=r→r≠.bad→∀{Q:Zf→Zs→Prop}{Q':Zs→Prop}{E:Zf→Zs→Prop},
  (∀(a:AV)(v:Zf)(W':Wd),r=.ok (some a) W.H→Mv D W W'→W'.Y.ar=W.Y.ar→Lo K own W0 W'→St (i+1) W'→W'.V a v→Q v W'.s)→(r=.ok none W.H→A.handled=none∧∀W':Wd,Mv D W W'→Lo K (λa=>own a∧¬D a) W0 W'→Q' W'.s)→
  wpAny T.M A (pyNext u) (λo s=>aa o (Q' s) λv=>wpAny T.M A (letOwnedTupleGo t u v) (λ_ s=>Q v s) E s) E W.s
noncomputable def Sx.loop(X:Sx)(src:AV)(l:Zj)(D:Zj→Prop)(h:Yc):Sx:=⟨X.c,X.env,λa=>X.own a∨D a,X.W0,⟨X.ev.hd,X.ev.n0,src::X.ev.hold⟩,.ref l::X.hv,λa o=>(D a∧h.get? a=some o)∨X.a9 a o⟩
inductive xi(cx:aQ)(X:Sx)(src:AV)(l:Zj)(D:Zj→Prop)(St:Zc→Wd→Prop)(go:Zc→Zc→SM)(r:SR)(k:Zc):Zs→Prop
 |mk(i:Zc)(fm:Fm)(W W1:Wd)(e:go k i fm W.H=r)(a:Sa cx (X.loop src l D W1.h) fm W)(s:St i W1):xi cx X src l D St go r k W.s
section
variable{n:Zc}{cx:aQ}
theorem RL{t:PE}{b:Zb Stmt}{mt:Zh→AV→Fm→AM Fm}{mb:Ev→SM}(jt:iB n cx t mt)(jb:fC n cx b mb){X:Sx}(g:i7 n X){nx:Zc→AM (Zd AV)}{src:AV}{u:Zf}{l:Zj}{D:Zj→Prop}{St:Zc→Wd→Prop}(P:Proto X.c.A src nx t u l D St)
  (d0:∀a,D a→X.W0.h.get? a=none∧¬X.own a)(hi:∀{a o},X.a9 a o→X.own a){r:SR}(hb:r≠.bad)(wh:∀i H,r≠.ex i H){k:Zc}{s:Zs}(I:xi cx X src l D St (gp X.c.hd nx (mt X.c.hd) (mb ⟨X.ev.hd,X.ev.n0,src::X.ev.hold⟩)) r k s):
  codeAny T.M X.c.A (.forLoop t u b [] X.env) (λr' s'=>match r' with|.ok f=>lZ cx X r f s'|.error e=>cameBackBy T.M X.c.A X.env (hJ X r) e s') s:=by
 have cast:∀{a},(X.own a∨D a)∧¬D a↔X.own a:=⟨λz=>z.1.resolve_right z.2,λz=>⟨.inl z,λd=>(d0 _ d).2 z⟩⟩
 refine codeAny_forLoop_any (xi cx X src l D St (gp X.c.hd nx (mt X.c.hd) (mb ⟨X.ev.hd,X.ev.n0,src::X.ev.hold⟩)) r) (λk s1 I=>?_) k I
 obtain⟨i,aX,W1,Wi,e1,a1,s1⟩:=I
 cases k with
 |zero=>exact Y8 e1.symm hb
 |succ k=>
  have e1:sB aX (nx i) W1.H (λo h=>aa o (Zp (.nx aX h) .bad X.c.hd) λv=>sB aX (mt X.c.hd v aX) h λfm h=>SR.rec (λfm h=>gp X.c.hd nx (mt X.c.hd) (mb ⟨X.ev.hd,X.ev.n0,src::X.ev.hold⟩) k (i+1) fm h) .rt .ex .bad (mb ⟨X.ev.hd,X.ev.n0,src::X.ev.hold⟩ fm h))=r:=e1
  have yR:∀{a o},D a→Wi.h.get? a=some o→Be (X.loop src l D Wi.h) W1 a o:=λd e=>a1.a9 (.inl ⟨d,e⟩)
  have nf:∀a,W1.Y.ar a→¬D a:=λa f d=>(P.th s1 a d).elim λo e=>(yR d e).fr f
  obtain⟨q,sv,hv⟩:=Vs.inv a1.hv
  injection q with q q'
  subst q q'
  refine Y9 (P.next a1.lo (λa d=>⟨.inr d,(d0 a d).1⟩) sv (P.at_ s1 λa o d e=>(yR d e).g) rfl (rE e1 hb) (λa v W2 h2 m2 f2 oG s2 va=>?_) λh2=>?_) (λo s z=>by cases o<;>exact z) λ_ _ z=>z
  ·have e2:=m2.H▸ug e1 h2
   have e2:sB aX (mt X.c.hd a aX) W2.H (λfm h=>SR.rec (λfm h=>gp X.c.hd nx (mt X.c.hd) (mb ⟨X.ev.hd,X.ev.n0,src::X.ev.hold⟩) k (i+1) fm h) .rt .ex .bad (mb ⟨X.ev.hd,X.ev.n0,src::X.ev.hold⟩ fm h))=r:=e2
   have gl:i7 n (X.loop src l D W2.h):=⟨g.n,g.hd,g.e,.inl g.ol,λa z=>z.elim (g.fo a) λd=>(d0 a d).1,g.n0⟩
   have a2:Sa cx (X.loop src l D W2.h) aX W2:=⟨m2.a nf a1.a,m2.f nf a1.f,oG,Vs.mono m2.m a1.hv,λz=>z.elim (λz=>(P.th s1 _ z.1).elim λo e=>
     have w:=yR z.1 e
     ⟨.inr z.1,w.ne,f2▸w.fr,z.2⟩) λz=>
    have w:=a1.a9 (.inr z)
    have nd:¬D _:=λd=>(d0 _ d).2 (hi z)
    ⟨w.own,w.ne,f2▸w.fr,m2.k _ _ nd w.g⟩⟩
   refine Y9 (jt gl a2 va rfl (rE e2 hb)) (λ_ s z=>?_) λe s z=>(kk.toS (fm:=aX) e2 hb z).no wh
   obtain⟨jP,W3,_,e3,a3⟩:=z
   have e3:=ug e2 e3
   have e3:SR.rec (motive:=λ_=>SR) (λfm h=>gp X.c.hd nx (mt X.c.hd) (mb ⟨X.ev.hd,X.ev.n0,src::X.ev.hold⟩) k (i+1) fm h) .rt .ex .bad (mb ⟨X.ev.hd,X.ev.n0,src::X.ev.hold⟩ jP W3.H)=r:=e3
   have nb:mb ⟨X.ev.hd,X.ev.n0,src::X.ev.hold⟩ jP W3.H≠.bad:=λq=>hb (by rw[←e3,q])
   refine Y9 (jb gl a3 rfl nb) (λfl s z=>?_) λe s z=>z.no λi H q=>wh i H (by rw[←e3,show mb ⟨X.ev.hd,X.ev.n0,src::X.ev.hold⟩ jP W3.H=_ from q])
   cases z with
   |nx yg W4 e4 a4=>exact⟨k,We _,.mk (i+1) yg W4 W2 (by rw[←e3,show mb ⟨X.ev.hd,X.ev.n0,src::X.ev.hold⟩ jP W3.H=_ from e4]) a4 s2⟩
   |rt v u W4 e4 lo rv=>
    have e4:SR.rt v W4.H=r:=by rw[←e3,show mb ⟨X.ev.hd,X.ev.n0,src::X.ev.hold⟩ jP W3.H=_ from e4]
    exact zA lo (D:=D) (h':=W4.h) (tk:=W4.s.toks) (P:=lZ cx X r (.ret u)) (λa d=>⟨.inr d,(d0 a d).1⟩) (λb o _ e=>e) λW5 m5 YJ=>.rt v u W5 (by rw[m5.H];exact e4.symm) (YJ.cast λa=>cast) (V.mono m5.m _ _ rv)
  ·have e2:=ug e1 h2
   cases hd:X.c.hd with
   |true=>rw[hd]at e2;exact Y8 e2.symm hb
   |false=>
    rw[hd]at e2
    refine⟨a1.a.hand hd,λW2 m2 oG=>Ud (.nx aX W2 (by rw[m2.H];exact e2.symm) ⟨m2.a nf a1.a,m2.f nf a1.f,oG.cast λa=>cast,Vs.mono m2.m hv,λz=>?_⟩)⟩
    have w:=a1.a9 (.inr z)
    have nd:¬D _:=λd=>(d0 _ d).2 (hi z)
    exact⟨hi z,w.ne,λq=>w.fr ((m2.fr _ nd).mp q),m2.k _ _ nd w.g⟩
theorem gF.go{W W':Wd}{src:AV}{l I:Zj}{i:Zc}(nv:iD src=none)(k:∀o,W.h.get? I=some o→W'.h.get? I=some o):gF W src l I i→gF W' src l I i
 |.jZ e z=>.jZ e (k _ z)
 |.vals _ e _ _ _ _=>aF (nv.symm.trans e)
 |.tup nr nv q z=>.tup nr nv q (z.elim λo z=>⟨o,k o z.1,z.2⟩)
 |.lst nr nv q z=>.lst nr nv q (z.elim λo z=>⟨o,k o z.1,z.2⟩)
theorem gF.th{W:Wd}{src:AV}{l I:Zj}{i:Zc}:gF W src l I i→∃o,W.h.get? I=some o
 |.jZ _ z=>⟨_,z⟩
 |.vals _ _ _ z _ _=>z.elim λo z=>⟨o,z.1⟩
 |.tup _ _ _ z=>z.elim λo z=>⟨o,z.1⟩
 |.lst _ _ _ z=>z.elim λo z=>⟨o,z.1⟩
theorem adH{A:Yu}{src:AV}{t:PE}{l I:Zj}(nv:iD src=none)(hg:∀it v,letOwnedTupleGo t it v=pure ()):Proto A src (dD T.S false src) t (.ref I) l (·=I) (λi W=>gF W src l I i)where
 th x a e:=e▸x.th
 at_ x k:=x.go nv λo=>k I o rfl
 next x d sv st hr hb _ _ _ item fin:=Gc x (d _ rfl).1 (d _ rfl).2 sv st hr hb (λa v W' h n va=>by
  show wpAny _ _ _ _ _ _
  rw[hg]
  exact Zq (item a v W' h n.mv n.fr n.lo n.it (V.mono n.mv.m _ _ va))) λh=>⟨(fin h).1,λW' n=>(fin h).2 W' n.mv n.lo⟩
theorem E5{t:PE}{b:Zb Stmt}{mt:Zh→AV→Fm→AM Fm}{mb:Ev→SM}(jt:iB n cx t mt)(jb:fC n cx b mb){X:Sx}(g:i7 n X){nx:Zc→AM (Zd AV)}{src:AV}{u:Zf}{l:Zj}{D:Zj→Prop}{St:Zc→Wd→Prop}(P:Proto X.c.A src nx t u l D St){fm:Fm}{W1 W2:Wd}
  (a1:Sa cx X fm W1)(sv:W1.V src (.ref l))(mv:Mv D W1 W2)(lo:Lo (fm.tn=false) (λa=>X.own a∨D a) X.W0 W2)(nw:∀a,D a→W1.h.get? a=none)(fr:∀a,D a→¬W2.Y.ar a)(st:St 0 W2){r:SR}(hr:fH (gp X.ev.hd nx (mt X.ev.hd) (mb ⟨X.ev.hd,X.ev.n0,src::X.ev.hold⟩) cw (nat_lit 0) fm W1.H)=r)(hb:r≠.bad):
  codeAny T.M X.c.A (.forLoop t u b [] X.env) (λr' s'=>match r' with|.ok f=>lZ cx X r f s'|.error e=>cameBackBy T.M X.c.A X.env (hJ X r) e s') W2.s:=by
 obtain⟨hr,hb,wh⟩:=zN hr hb
 rw[show gp X.ev.hd nx (mt X.ev.hd)=gp X.c.hd nx (mt X.c.hd) by rw[g.hd],←mv.H]at hr
 have no:∀a,D a→¬X.own a:=λa d q=>(W1.R.there _ (a1.lo.pv a q).1).elim λo e=>iX (nw a d) e
 have nf:∀a,W1.Y.ar a→¬D a:=λa f d=>(W1.R.there _ (W1.R.eg a f)).elim λo q=>iX (nw a d) q
 refine RL jt jb g P (λa d=>⟨a1.lo.st.gone (nw a d),no a d⟩) (λz=>(a1.a9 z).own) hb wh (k:=cw) (.mk 0 fm W2 W2 hr ⟨mv.a nf a1.a,mv.f nf a1.f,lo,Vs.cons (V.mono mv.m _ _ sv) (Vs.mono mv.m a1.hv),λz=>z.elim (λz=>⟨.inr z.1,λq=>no _ z.1 (q▸g.ol),fr _ z.1,z.2⟩) λz=>?_⟩ st)
 have w:=a1.a9 z
 have nd:¬D _:=λd=>iX (nw _ d) w.g
 exact⟨.inl w.own,w.ne,λq=>w.fr ((mv.fr _ nd).mp q),mv.k _ _ nd w.g⟩
theorem E4{hd:Zh}{nx:Zc→AM (Zd AV)}{asg:AV→Fm→AM Fm}{body:SM}{fm:Fm}{H:AH}{r:SR}(e:fH (gp hd nx asg body cw 0 fm H)=r)(hb:r≠.bad):nx 0 H≠.bad:=
 have z:=zN e hb
 rE (α:=Zd AV) (fm:=fm) (m:=nx 0) (r:=r) z.1 hb
theorem aiX{t it:PE}{b:Zb Stmt}{p:Pos}{mi:Zh→Fm→AM AV}{mt:Zh→AV→Fm→AM Fm}{mb:Ev→SM}(ns:∀env x,foldedSetIterable it env x=pure x)(hg:∀it v,letOwnedTupleGo t it v=pure ())(ji:aP n cx it mi)(jt:iB n cx t mt)(jb:fC n cx b mb):
  eJ n cx (.For t it b [] p) (λev fm h=>sB fm (mi ev.hd fm) h λsrc h=>fH (gp ev.hd (dD T.S false src) (mt ev.hd) (mb ⟨ev.hd,ev.n0,src::ev.hold⟩) cw (nat_lit 0) fm h)):=λ{X fm W} g a{r} hr hb=>
 wpAny_For (St.e (V:=VV) (m:=mi X.ev.hd fm) a (g.hd▸ji (a.gd g)) hr hb λW1 src u a1 d6 sv hr=>by
  have nb:=E4 hr hb
  have nv:iD src=none:=by
   cases h:iD src with
   |none=>rfl
   |some q=>exact aA (I7 h nb)
  refine Ge a1.lo sv nb λl I W2 q n2=>?_
  subst q
  exact E5 jt jb g (adH nv hg) a1 sv n2.mv n2.lo (λa e=>e▸n2.nw) (λa e=>e▸n2.fr) n2.it hr hb) (ns _)
end
end Mine
namespace Mine
section
variable{n:Zc}{cx:aQ}
structure Jv(l e it:Zj)(i:Zc)(W:Wd):Prop where
 e:∃old,PySem.IsEnum W.h e it (i:Zc) old
 it:W.h.IsListIter it l i
theorem adG{A:Yu}{src:AV}{ts:Zb PE}{k:Zc}{p:Pos}{l e it:Zj}(ne:e≠it):Proto A src (wi T.S src) (.Tuple ts k p) (.ref e) l (λa=>a=e∨a=it) (λi W=>Jv l e it i W)where
 th x a d:=d.elim (λq=>x.e.elim λold z=>q▸⟨_,z⟩) λq=>x.it.elim λo z=>q▸⟨o,z.1⟩
 at_ x k:=⟨x.e.elim λold z=>⟨old,k _ _ (.inl rfl) z⟩,x.it.elim λo z=>⟨o,k _ _ (.inr rfl) z.1,z.2⟩⟩
 next {K own W0 W i r} x d sv st hr hb Q Q' E item fin:=oB hr hb λxs h1 hr=>by
  obtain⟨qb,hl,rs,ll⟩:=mW sv h1
  injection qb with qb
  subst qb
  obtain⟨old,he⟩:=st.e
  rename_i vs _
  cases q:aB xs i with
  |none=>
   rw[q]at hr
   have q:vs.toArray[i]?=none:=by
    rw[fY,Vi,rs.len]at q
    exact(Xr ..).trans (List.getElem?_eq_none_iff.mpr q)
   exact PySem.wpAny_pyNext_enum_end (fin hr.symm).1 he st.it (LstAt.iV hl) q λh' ex=>zA x (tk:=W.s.toks) (P:=λs=>aa none _ _) d (λb o n=>ex b o λq=>n (.inr q)) (fin hr.symm).2
  |some a=>
   rw[q]at hr
   obtain⟨v,z1,z2⟩:=rs.get q
   refine PySem.wpAny_pyNext_enum_item he st.it (LstAt.iV hl) ((Xr ..).trans z1) ne λh' a1 a2 a3 a4 a5=>?_
   refine PySem.wpAny_letOwnedTupleGo_enum a1 λh2 a6 sb=>?_
   have nT:W.h.get? W.h.objs.size=none:=(W.fresh (Yg _)).1
   have ne1:W.h.objs.size≠e:=λz=>iX nT (z▸he)
   refine zB x (D:=λa=>a=e∨a=it) (tk:=W.s.toks+1) (h':=h2) (P:=λs=>_) (λa q=>(d a q).1) (λb o nb eb=>(sb.2 b λz=>nb (.inl z)).trans (a5 b o (λz=>nb (.inl z)) (λz=>nb (.inr z)) eb)) (λb q=>q.elim (λq=>q▸⟨_,a6⟩) λq=>q▸a2.elim λo z=>⟨o,(sb.2 it ne.symm).trans z.1⟩) λW' e1 e2 m lo=>item (.tup [.int i,a]) _ W' hr.symm m (Ze Ly.ar e1) lo ⟨⟨_,e2▸a6⟩,a2.elim λo z=>⟨o,e2▸(sb.2 it ne.symm).trans z.1,z.2⟩⟩ ?_
   exact fQ.mk (vs:=[.int i W.s.toks,v]) rfl (Vs.cons (x:=.int i) ⟨_,rfl⟩ (Vs.cons (V.mono m.m _ _ z2) .nil)) (show 2≤2000000 by decide) ⟨e2▸(sb.2 _ ne1).trans a3,λq=>(W.fresh (Yg _)).2 (e1▸q)⟩ rfl rfl
theorem aiY{ts:Zb PE}{k j:Zc}{pt:Pos}{it:PE}{b:Zb Stmt}{xp p q:Pos}{mi:Zh→Fm→AM AV}{mt:Zh→AV→Fm→AM Fm}{mb:Ev→SM}(se:∀env,eval (.Call (.Name "enumerate" xp) [it] [] q) env=(do let fv←eval (.Name "enumerate" xp) env;callWith q fv [] [(false,eval it env)] []))
  (hx:T.S.nm j=some "enumerate")(gi:cx.cA.lookup ("enumerate":Str)=some .globalImplicit)(gl:T.S.gl j=some (.ty .enumerate))(ji:aP n cx it mi)(jt:iB n cx (.Tuple ts k pt) mt)(jb:fC n cx b mb):
  eJ n cx (.For (.Tuple ts k pt) (.Call (.Name "enumerate" xp) [it] [] q) b [] p) (λev fm h=>sB fm (mi ev.hd fm) h λsrc h=>fH (gp ev.hd (wi T.S src) (mt ev.hd) (mb ⟨ev.hd,ev.n0,src::ev.hold⟩) cw (nat_lit 0) fm h)):=λ{X fm W} g a{r} hr hb=>by
 refine wpAny_For ?_
 rw[se]
 refine Zg (yn a.f.st hx gi gl λfv rf=>?_)
 rw[show fv=.type "enumerate" from rf]
 refine xR (λx z=>List.mem_singleton.mp z▸rfl) (spliced_cons (St.e (V:=VV) (m:=mi X.ev.hd fm) a (g.hd▸ji (a.gd g)) hr hb λW1 src u a1 d6 sv hr=>spliced_nil ⟨⟨.machine,T1 rfl⟩,?_⟩))
 refine oB (r:=wi T.S src 0 W1.H) rfl (E4 hr hb) λxs h1 _=>?_
 obtain⟨qb,hl,rs,ll⟩:=mW sv h1
 rename_i l _ _
 subst qb
 refine call_enumerate_list (LstAt.iV hl) λh' b1 b2 b3 kp=>PySem.wpAny_pyIter_enum b1 ?_
 have fr:∀a,a=W1.h.objs.size+1∨a=W1.h.objs.size→W1.h.get? a=none∧¬W1.Y.Mu a:=λa d=>d.elim (λe=>e▸W1.fresh (Uu _)) λe=>e▸W1.fresh (Yg _)
 have y:eW (λa=>a=W1.h.objs.size+1∨a=W1.h.objs.size) W1 (λa=>W1.Y.Mu a∨(a=W1.h.objs.size+1∨a=W1.h.objs.size)) (λa=>W1.Y.ar a∨No a) {W1.s with heap:=h'}:=.alloc ⟨rfl,rfl,rfl⟩ kp (λa d=>⟨(fr a d).1,d.elim (λe=>e▸⟨_,b1⟩) λe=>e▸b2.elim λo z=>⟨o,z.1⟩⟩) λ_=>Xg
 exact E5 jt jb g (adG (Nat.succ_ne_self _)) (W2:=W1.pv y) a1 sv ⟨rfl,y.mono,λa n=>Sq id,λb ob _ e=>kp b ob e⟩ (a1.lo.alloc y λa d=>(fr a d).1) (λa d=>(fr a d).1) (λa d z=>z.elim (λz=>(fr a d).2 (W1.R.eg _ z)) id) ⟨⟨_,b1⟩,b2⟩ hr hb
end
end Mine
namespace Mine
theorem bS{P:Prop}{b:Zh}{r t:SR}(e:ae b t .bad=r)(h:r≠.bad)(k:b=true→t=r→P):P:=by
 cases b with
 |false=>exact Y8 e.symm h
 |true=>exact k rfl e
theorem QV{A:Yu}{W0 W:Wd}{i:Zc}{e:Zj}{envs:Zb Env}{E:Zf→Zs→Prop}{Q:Unit→Zs→Prop}(le:Le W0 W)(fl:i4 W i W0.h envs e)(h:∀W':Wd,Le W0 W'→W'.H=W.H→W'.Y=W.Y→Q () W'.s):wpAny T.M A (setFlight (.ref e) none) Q E W.s:=by
 obtain⟨_,_,oe,vs,he,hd,_,tb⟩:=fl
 unfold setFlight
 cases tb with
 |n h1=>
  refine Zg (W9 he hd h1 ?_)
  rw[if_neg (by decide)]
  exact Zq (h W le rfl rfl)
 |@t Tb oT ts h1 vl off hT lD h3=>
  refine Zg (W9 he hd h1 ?_)
  rw[if_pos (show(X3 Tb !=Xa)=true from rfl)]
  refine Va hT lD (Array.getElem?_eq_some_iff.mp h3).1 ?_
  have tT:=Ys (Yx (·.setIfInBounds 3 Xa)) hT (Wm (X6 lD _))
  have z:=(Lo.refl (K:=True) W0).le le
  have x:Lo True (·=Tb) W0 W:=⟨z.st.weaken (λ_=>Xg) λa e=>.inr (e▸vl),z.t,z.re,λa e=>e▸⟨off.mu,off.ft⟩⟩
  exact zB x (D:=(·=Tb)) (tk:=W.s.toks) (P:=Q ()) (λ_=>id) (λb o n e=>(Xo _ _ (Ve n)).trans e) (λa(e:a=Tb)=>⟨Yx (·.setIfInBounds 3 Xa) oT,by rw[e];exact tT⟩) λW' e1 e2 m lo=>h W' ((lo.less (own':=No) (λ_=>Xg) λa e _=>⟨e▸vl,λq=>off.fr (e▸e1▸q)⟩).un trivial λ_=>id) m.H e1
section
variable{n:Zc}{cx:aQ}
theorem N5{W:Wd}{i:Zc}{p:Zj×Zd Zj}{C:Zj}{fs:Zb (Zc×AV)}(ep:W.Y.ρ i=some p)(xd:W.H.get i=some (.kE C fs)):Looks T.M W.h (typeOf (.ref p.1)) (.ref C):=
 eC.casesOn (W.R.obj i _ p xd ep:eC W.Y W.h p (λvs=>vs.size=6) C fs) (λ_ _ hx a _ _ _=>a▸(Qk hx).andThen .now) (λ_ hx a _ _ _ _ _ _ _=>a▸(Qk hx).andThen .now)
theorem ai6{e:PE}{pe typ p hp:Pos}{ty pL:Str}{b:Stmt}{bs:Zb Stmt}{k:Zj}{i j:Zc}{m:Zh→Fm→AM AV}{mh:Ev→SM}(hx:T.S.nm j=some ty)(gi:cx.cA.lookup ty=some .globalImplicit)(gl:T.S.gl j=some (.au k))(hi:cx.ls[i]?=some pL)(nc:∀env,swapsWith e none pe.line env=pure false)
  (je:aP n cx e m)(jh:fC n cx (b::bs) mh):eJ n cx (.Try [.Expr e pe] [.ExceptHandler (some (.Name ty typ)) (some pL) (b::bs) hp] [] [] p) (uf T.S (λev=>m ev.hd) k i mh):=λ{X fm W} g a{r} hr hb=>by
 have hr:Res.rec (motive:=λ_=>SR) (λ_ h=>.nx fm h) (λe h=>Zp (ae (Ey T.S h e k) (SR.rec (λfm h=>.nx (bG fm i .any) h) (λ_ _=>.bad) (λ_ _=>.bad) .bad (mh ⟨true,X.ev.n0,X.ev.hold⟩ (bG fm i (.ref e)) h)) .bad) .bad X.ev.hd) .bad (m X.ev.hd fm W.H)=r:=hr
 rw[g.hd]at hr
 refine wpAny_Try_except (wpAny_execs_cons (Qh (Y9 (je (a.gd g) λq=>hb (by rw[←hr,q])) (λu s1 z=>?_) λer s1 z=>?_) (by unfold interactive;rw[a.f.st.kind];rfl) (nc _)))
 ·obtain⟨W1,v,e1,d6,_⟩:=z
  rw[e1]at hr
  exact Ud (Ud (.nx fm W1 hr.symm (a.le d6)))
 ·obtain⟨W1,x,pp,e1,d6,ep,fl⟩:=z
  rw[e1]at hr
  cases hd:X.c.hd with
  |true=>rw[hd]at hr;exact Y8 hr.symm hb
  |false=>
   rw[hd]at hr
   refine bS hr hb λgx hr=>oT gx λq h1 gx=>oT gx λci hc gx=>bA gx λvK sub=>oN h1 λob h2 h3=>?_
   rw[Cq h3]at h2
   obtain⟨o,eo⟩:=g.e
   have a1:=a.le d6
   rw[eo]at fl
   refine Ha (outer:=o) (eo▸a1.a.stack) (eo▸a1.a.iR) ((Lo.refl (K:=True) W).le d6) ep fl λW2 n2=>?_
   have a2:=a.le (n2.lo.un trivial λ_=>id)
   have Es:W2.Y.ρ x=some pp:=n2.ρ▸ep
   refine wpAny_handleBy_cons (codeAny_handlers_test ?_) (λq=>nomatch q)
   refine yn (c:=⟨X.c.A.mark (some (.ref pp.1)),[],0,true⟩) a2.f.st hx gi gl λfv rf=>?_
   rw[show fv=.ref k from rf]
   obtain⟨K,dG,ex⟩:=FO.Ob
   refine(exm_one (dG.keeps W2.R.base) (N5 Es (n2.H.symm▸h2)) (ex q.1 ci k hc vK sub)).here ?_
   rw[if_pos rfl]
   refine codeAny_handlers_suite_as (QV (n2.lo.un trivial λ_=>id) n2.fl λW3 dO H3 Y3=>Ax hi g (a.le dO) (V.ref (Y3▸Es)) λW5 Y5 H5 a5=>?_)
   let X':Sx:=⟨⟨X.c.A.mark (some (.ref pp.1)),X.c.envs,X.c.n,true⟩,X.env,X.own,X.W0,⟨true,X.ev.n0,X.ev.hold⟩,X.hv,X.a9⟩
   have e5:W5.H=W1.H:=H5.trans (H3.trans n2.H)
   have hr:SR.rec (motive:=λ_=>SR) (λfm h=>.nx (bG fm i .any) h) (λ_ _=>.bad) (λ_ _=>.bad) .bad (mh X'.ev (bG fm i (.ref x)) W5.H)=r:=e5▸hr
   refine Y9 (jh (X:=X') ⟨g.n,rfl,g.e,g.ol,g.fo,g.n0⟩ ⟨⟨a5.a.depth,a5.a.units,(λq=>nomatch q),a5.a.stack,a5.a.iR⟩,a5.f,a5.lo,a5.hv,λz=>have w:=a5.a9 z;⟨w.own,w.ne,w.fr,w.g⟩⟩ rfl λq=>hb (by rw[←hr,q])) (λfl6 s6 z=>?_) λe' s6 z=>?_
   ·cases z with
    |nx QW W6 e6 a6=>
     rw[e6]at hr
     have a6:Sa cx X QW W6:=⟨⟨a6.a.depth,a6.a.units,a.a.hand,a6.a.stack,a6.a.iR⟩,a6.f,a6.lo,a6.hv,λz=>have w:=a6.a9 z;⟨w.own,w.ne,w.fr,w.g⟩⟩
     obtain⟨m6,ns6,k6⟩:=a6.f.fr
     exact wpAny_nameGoes_keeps (a6.f.st.look (a6.f.st.locs i pL hi)) ns6 (by rw[a6.f.st.kind];rfl) λh7 v7 ns7 sb7=>a6.put (P:=lZ cx X r .next) hi g.ol k6 ns7 sb7 (v:=.any) (λq=>nomatch q) λW7 Y7 H7 a7=>.nx _ W7 (H7.symm▸hr.symm) a7
    |rt v u W6 e6=>rw[e6]at hr;exact Y8 hr.symm hb
   ·cases z with
    |mk W6 i' p' e6=>rw[e6]at hr;exact Y8 hr.symm hb
end
end Mine
namespace Mine
inductive Raises(A:Yu)(E:Zf→Zs→Prop)(h:Yc):Zf→Zs→Prop
 |mk{a C:Zj}{ob:Obj}{vs:X9 Zf}{K:Frag}{s:Zs}(h1:s.heap.get? a=some ob)(h2:ob.cls=.ref C)(h3:ob.data=.fields vs)(h4:vs[1]?=some .none)(X:K.In s.heap)(h5:mroIn K C (.type "BaseException")=some true)(h6:typeIn K (.ref C)=some (.type "type"))(hh:A.handled=none)(h7:E (.ref a) s):Raises A E h (.ref a) s
theorem adN{A:Yu}{s:Zs}{env:Env}{x:Sem Zf}{E:Zf→Zs→Prop}{Q:Flow→Zs→Prop}(h:wpAny T.M A x (Raises A E s.heap) E s):wpAny T.M A (raiseStmt env (some x) none) Q E s:=by
 unfold raiseStmt
 refine Zg (Y9 h (λv s' hv=>?_) λ_ _ z=>z)
 obtain⟨h1,h2,h3,h4,X,h5,h6,hh,h7⟩:=hv
 rename_i a C ob vs K
 have ty:Looks T.M s'.heap (typeOf (.ref a)) (.ref C):=h2▸(Qk h1).andThen .now
 have it:Looks T.M s'.heap (isType (.ref a)) false:=by
  intro A' Q' E' Ak k q
  unfold isType loadHead
  refine Zg (Tj (k _ _ h1) ?_)
  rw[h3]
  exact Zq q
 refine Zg (Zq (Zg (Y0 ?_)))
 have ic:Looks T.M s'.heap (isExcClass (.ref a)) false:=it.andThen .now
 have ib:Looks T.M s'.heap (isInstance (.ref a) (.type "BaseException")) true:=ty.andThen (Qf X h5)
 unfold excFromValue
 refine Zg (ic.here ?_)
 rw[if_neg (by decide)]
 refine Zg (ib.here ?_)
 rw[if_pos rfl]
 refine Zq ?_
 dsimp only
 refine Zg (it.here ?_)
 rw[if_neg (by decide)]
 unfold raisedInstance
 refine Zg (Zg (ty.here (Zg ((looks_typeIn X h6).here ?_))))
 rw[if_pos (by decide)]
 refine Zq (Zg ?_)
 unfold setFlight
 refine Zg (W9 h1 h3 h4 ?_)
 rw[if_neg (by decide)]
 exact Zq (wpAny_raiseNew_none hh h7)
theorem ai1{n:Zc}{cx:aQ}{e:PE}{p:Pos}{m:Zh→Fm→AM AV}(je:aP n cx e m):eJ n cx (.Raise (some e) none p) (λev fm h=>sB fm (m ev.hd fm) h λv h=>aa (gK v) .bad λi=>aa (h.get i) .bad λo=>aa (qA o) .bad λq=>ae (ak (qP T.S o) (ak (ay ev.hd) (ay fm.tn))) (.ex i (h.set i (.kE q.1 q.2))) .bad):=λ{X fm W} g a{r} hr hb=>by
 show wpAny T.M X.c.A (standAt p>>=λ_=>raiseStmt X.env (some (eval e X.env>>=λv=>standAt p>>=λ_=>pure v)) none) _ _ W.s
 refine Zg (Yw (adN (Zg (St.e (V:=VV) (m:=m X.ev.hd fm) a (g.hd▸je (a.gd g)) hr hb λW1 v u a1 d6 rv hr=>Zg (Yw (Zq ?_))))))
 refine oS hr hb λi g1 hr=>oS hr hb λo g2 hr=>oS hr hb λq g3 hr=>bS hr hb λgg hr=>bA gg λgk gg=>bA gg λgh gt=>?_
 obtain⟨pp,rfl,hp⟩:=V.jY g1 rv
 rw[uK g3]at g2 gk
 obtain⟨K,X1,hk⟩:=FO.rai
 refine oT (o:=T.S.cls q.1) gk λci hc vK=>?_
 have main:∀(ob:Obj)(vs:X9 Zf),W1.h.get? pp.1=some ob→ob.cls=.ref q.1→ob.data=.fields vs→vs.size=6∧vs[1]?=some .none→(∀Y',cO W1.Y W1.h Y' W1.h→eC Y' W1.h pp (λvs=>vs.size=6) q.1 q.2)→Raises X.c.A (hJ X r) W.h (.ref pp.1) W1.s:=λob vs h1 h2 h3 h4 ro=>by
  obtain⟨W2,w⟩:=W1.turn (o:=.kE q.1 q.2) (tk:=W1.s.toks) hp (.x rfl) (Pl _ _) ⟨_,h1⟩ λY' m=>ro Y' m
  have es:W2.s=W1.s:=w.s
  have eh:W2.h=W1.h:=Ze Sr es
  have a2:=a1.le w.le
  have lt:=(W1.R.len i).mpr ⟨_,hp⟩
  obtain⟨q',VM⟩:=w.le.mono.ids _ _ hp
  refine .mk h1 h2 h3 h4.2 (X1.keeps W1.R.base) (hk _ ci hc vK).1 (hk _ ci hc vK).2 (a.a.hand (g.hd▸eG gh)) (es▸hJ.mk W2 i (pp.1,q') (w.H▸hr.symm) (a2.lo.im λ_=>eG gt) VM ⟨⟨q.1,q.2,?_⟩,TS a2.a.iR,ob,vs,eh▸h1,h3,h4.1,.n h4.2⟩ a2.f.ju a2.f.ns)
  rw[w.H]
  exact W1.R.dg.self i (Xi lt)
 cases(W1.R.obj i _ pp g2 hp:eC W1.Y W1.h pp (λvs=>vs.size=6∧vs[1]?=some .none) q.1 q.2)with
 |z a1 f hx a b c e=>exact main _ _ hx a c e λY' m=>.z a1 f hx a b c e.1
 |s a1 hx a b c e hd r f l=>exact main _ _ hx a c e λY' m=>.s a1 hx a b c e.1 hd (r.mono m) f l
theorem JT{p:Pos}{a b:Zw}{c v:Zf}{l:Zb Zf}(h:TriplesOk l)(e:codeAmong p (l++[rawInt a,rawInt b,c])=some v):codeAmong p l=some v∨(a=p.line∧b=p.col∧v=c):=by
 fun_induction TriplesOk l with
 |case1=>
  have e:(if(a==(p.line:Zw)&&b==(p.col:Zw))=true then some c else none)=some v:=e
  by_cases q:(a==(p.line:Zw)&&b==(p.col:Zw))=true
  ·rw[if_pos q]at e
   have q:=Bool.and_eq_true_iff.mp q
   exact .inr ⟨eq_of_beq q.1,eq_of_beq q.2,(Za e).symm⟩
  ·rw[if_neg q]at e;exact aF e
 |case2 a' t b' u x rest ih=>
  have e:(if(a'==(p.line:Zw)&&b'==(p.col:Zw))=true then some x else codeAmong p (rest++[rawInt a,rawInt b,c]))=some v:=e
  show(if(a'==(p.line:Zw)&&b'==(p.col:Zw))=true then some x else codeAmong p rest)=some v∨_
  by_cases q:(a'==(p.line:Zw)&&b'==(p.col:Zw))=true
  ·rw[if_pos q]at e⊢;exact .inl e
  ·rw[if_neg q]at e⊢;exact ih h e
 |case3 l h1 h2=>exact h.elim
def Jh(h:Yc)(Mu:Zj→Prop)(v:Zf)(pos:Pos):Prop:=∃c q co vs t,v=.ref c∧T.qa pos.line pos.col=some q∧(h.get? c=some co∧¬Mu c)∧co.data=.fields vs∧vs[1]?=some (.str q t)
theorem aiW{n k j:Zc}{cx:aQ}{name qual:Str}{params:Arguments}{body:Zb Stmt}{scope:Wq}{pos:Pos}{cl:Zb Zc}(UY:T.S.fs k=some ⟨name,qual,params,body,scope⟩)(hq:T.qa pos.line pos.col=some qual)(UV:params.defaults=[])(VD:params.kw_defaults=[])
  (ha:∀env,annTrees params none env=[])(el:cx.ls[j]?=some name)(hc:∀(j:Zc)(y:Str),(bZ scope.names)[j]?=some y→∃c:Zc,cl[j]?=some c∧cx.cs[c]?=some y)(len:cl.length=(bZ scope.names).length){q0:Str}(yr:cx.at_=some q0)(VS:q0++name=qual):
  eJ n cx (.FunctionDef name params body [] none [] scope none name pos) (λ_ fm h=>aa (wx fm cl) .bad λids=>aa (h.get (nat_lit 0)) .bad λo=>ae (yO o) (.nx (bG fm j (.eK k ids)) (h.set 0 .tab)) .bad):=λ{X fm W} g a{r} hr hb=>oS hr hb λids pk hr=>oS hr hb λob h1 hr=>bS hr hb λht hr=>by
 rw[WW ht]at h1
 obtain⟨Ft,VR⟩:=a.f.st.at_ q0 yr
 obtain⟨cells,Eo,ca⟩:=Du a.f hc pk
 have li:ids.length=(bZ scope.names).length:=(rF pk).1.trans len
 refine nestDef_K UV VD (ha X.env) ?_
 rw[show qualnameIn X.env name name=qual by unfold qualnameIn;rw[a.f.st.look (a.f.st.locs j name el),VR];exact VS]
 obtain⟨mg,K⟩:=FO.tab
 have R:=W.R
 have kb:=R.base
 have lt:=(R.dg.x7 0).mpr ⟨_,h1⟩
 obtain⟨p,hp⟩:=(R.len 0).mp lt
 obtain⟨q,hx,tr,am⟩:=(R.obj 0 _ p h1 hp:jG W.Y W.h p)
 subst q
 rename_i ps
 have hB:W.h.BuiltinsAt mg T.tb:=by
  obtain⟨bm,ob,b1,b2,b3,b4,b5,b6⟩:=K.hB
  exact⟨bm,ob,b1,b2,b3,b4,kb _ _ b5,b6⟩
 have mt:W.Y.Mu T.tb:=R.sub _ (.mk hp (.x rfl))
 have old:∀{b:Zj}{o:Obj},W.h.objs.size≤b→¬W.Y.Mu b:=λle q=>(R.there _ q).elim λo e=>Y8 (V4 e) (Nat.not_lt.mpr le)
 have key:∀(h2:Yc)(tk:Tok)(pS:X9 Zf)(f c:Zj)(fo co:Obj)(doc pm nX:Zf)(vs:X9 Zf)(t:Tok),Qp T.tb W.h h2→h2.get? T.tb=some (tabObj pS)→TriplesOk pS.toList→(∀pos v,codeAmong pos pS.toList=some v→Jh h2 W.Y.Mu v pos)→
   h2.get? f=some fo→fo.cls=.type "function"→fo.data=.func (fnX name qual params body scope cells .none .none doc pm none (.ref c) nX)→h2.get? c=some co→co.data=.fields vs→vs[1]?=some (.str qual t)→¬W.Y.Mu f→¬W.Y.Mu c→wpAny T.M X.c.A (storeName X.env name (.ref f)) (λ_ s=>lZ cx X r .next s) (hJ X r) {W.s with heap:=h2,toks:=tk}:=λh2 tk pS f c fo co doc pm nX vs t x hP tr' JS f1 f2 f3 c1 c2 c3 nf nc=>by
  have zL:∀{a},¬W.Y.Mu a→¬(W.Y.at_ 0 (T.tb,none)).Mu a:=λn q=>q.elim n λq=>n (jX q▸mt)
  have c7:∃o,h2.get? T.tb=some o:=⟨_,hP⟩
  obtain⟨st,R2⟩:=R.put (H':=W.H.set 0 .tab) (q:=(T.tb,none)) (o:=.tab) (λp e=>Za (hp.symm.trans e)▸⟨rfl,.inl rfl⟩) (λa f=>.inl ⟨_,hp,f⟩) ⟨λb ob nb _ e=>x b ob (λq=>nb ⟨_,hp,.x q⟩) e,λb hb m z=>z.extBut x λq=>R.apart _ (.mk hp (.x rfl)) (q▸hb),λb ob e=>(Xx (b=T.tb)).elim (λq=>q▸c7) λq=>⟨ob,x b ob q e⟩⟩
   (λa f=>jX f▸c7) (λj=>⟨.inl,λz=>z.elim id λe=>e▸lt⟩) (R.dg.set 0 lt) (R.dg.ne 0 (Xi lt)) (R.dg.self 0 (Xi lt)) λm=>jG.mk rfl hP tr' λpos v e=>(JS pos v e).elim λc z=>z.elim λq z=>z.elim λco z=>z.elim λvs z=>z.elim λt z=>⟨c,q,co,vs,t,z.1,z.2.1,⟨z.2.2.1.1,zL z.2.2.1.2⟩,z.2.2.2⟩
  let W2:Wd:=⟨W.Y.at_ 0 (T.tb,none),{W.s with heap:=h2,toks:=tk},W.H.set 0 .tab,R2⟩
  have le:Le W W2:=⟨st,rfl,rfl,rfl⟩
  have rv:W2.V (.eK k ids) (.ref f):=hL.mk rfl UY ⟨f1,zL nf⟩ f3 f2 ⟨c1,zL nc⟩ c2 c3 (ca.mono le.mono) li
  exact Ax (W:=W2) el g (a.le le) rv λW3 _ H3 a3=>.nx _ W3 (H3.symm▸hr.symm) a3
 cases q:codeAmong pos ps.toList with
 |none=>
  refine makeFunction_K Eo a.f.st.pz (K.hg.keeps kb) Ft (K.C.keeps kb) hx tr q K.ng hB λc' nX doc h' tk pC le lt' VT hP=>?_
  obtain⟨c,co,vs,t,ec,d1,d2,d3⟩:=VT
  injection ec with ec
  subst ec
  have kp:∀b o,h'.get? b=some o→(h'.push (fnMade name qual params body scope cells doc ((mg "__name__").getD .none) c' nX)).get? b=some o:=λb o e=>Zv _ e
  refine key _ _ _ _ c' _ co doc _ nX vs t (λb o n e=>kp _ _ (pC b o n e)) (kp _ _ hP) (by rw[Tw];exact TriplesOk_snoc _ _ _ _ tr) (λp v e=>?_) (Yb _ rfl) rfl rfl (kp _ _ d1) d2 d3 (old (o:=co) (Zu le (Xi lt'))) (old (o:=co) le)
  rw[Tw]at e
  rcases JT tr e with e|⟨e1,e2,e3⟩
  ·obtain⟨c2,q2,LU,vs2,t2,z1,z2,z3,z4⟩:=am p v e
   exact⟨c2,q2,LU,vs2,t2,z1,z2,⟨kp _ _ (pC _ _ (λq=>z3.n (q▸mt)) z3.g),z3.n⟩,z4⟩
  ·exact⟨c',qual,co,vs,t,e3,by rw[Int.ofNat.inj e1.symm,Int.ofNat.inj e2.symm];exact hq,⟨kp _ _ d1,old (o:=co) le⟩,d2,d3⟩
 |some cv=>
  obtain⟨c,q2,co,vs,t,z1,z2,z3,z4,z5⟩:=am pos cv q
  have e2:=Za (z2.symm.trans hq)
  subst e2 z1
  refine makeFunction_hit Eo a.f.st.pz (K.hg.keeps kb) Ft (K.C.keeps kb) hx tr q hB λnX doc h' tk hk le=>?_
  have kp:∀b o,W.h.get? b=some o→(h'.push {cls:=.type "function",data:=.func (fnX name q2 params body scope cells .none .none doc ((mg "__name__").getD .none) none (.ref c) nX)}).get? b=some o:=λb o e=>Zv _ (hk b o e)
  exact key _ _ _ _ c _ co doc _ nX vs t (λb o _ e=>kp b o e) (kp _ _ hx) tr (λp v e=>(am p v e).elim λc z=>z.elim λq z=>z.elim λco z=>z.elim λvs z=>z.elim λt z=>⟨c,q,co,vs,t,z.1,z.2.1,⟨kp _ _ z.2.2.1.g,z.2.2.1.n⟩,z.2.2.2⟩) (Yb _ rfl) rfl rfl (kp _ _ z3.g) z4 z5 (old (o:=co) le) z3.n
end Mine
namespace Mine
def ajV(I:aO)(aH:Zb (Zc×Zc))(g:Zc→AV)(l:Zb AV):Zb AV:=
 AV.rec_1 (motive_1:=λ_=>AV) (motive_2:=λ_=>Zb AV) (motive_3:=λ_=>Zb (Zc×AV)) (motive_4:=λ_=>Zc×AV)
  .none .bool .int (λp b=>ae I.live (.cB p (ae (I.tv p) false b)) .any) (λp=>ae I.live (ae (I.tv p) (.cB p true) (.nx p)) .any) (λp b=>ae I.live (.dA p (ae (aG (I.tv p) (I.tv (Zk p))) false b)) .any) (λ_ _=>.any) .md .sy .txt
  (λi=>aa (f6 I aH i) (g i) .ref) .au .ty .bl (λ_ l=>.tup l) (λ_ l=>.af l) (λc _ l=>.dh c l) .bz .range (λ_ _=>.any) (λk ids=>aa (j3 (f6 I aH) ids) .any (.eK k)) .any
  [] (λ_ _ x l=>x::l) [] (λ_ _ x l=>x::l) (λk _ x=>(k,x)) l
def IW(I:aO)(aH:Zb (Zc×Zc))(g:Zc→AV)(l:Zb (Zc×AV)):Zb (Zc×AV):=
 AV.rec_2 (motive_1:=λ_=>AV) (motive_2:=λ_=>Zb AV) (motive_3:=λ_=>Zb (Zc×AV)) (motive_4:=λ_=>Zc×AV)
  .none .bool .int (λp b=>ae I.live (.cB p (ae (I.tv p) false b)) .any) (λp=>ae I.live (ae (I.tv p) (.cB p true) (.nx p)) .any) (λp b=>ae I.live (.dA p (ae (aG (I.tv p) (I.tv (Zk p))) false b)) .any) (λ_ _=>.any) .md .sy .txt
  (λi=>aa (f6 I aH i) (g i) .ref) .au .ty .bl (λ_ l=>.tup l) (λ_ l=>.af l) (λc _ l=>.dh c l) .bz .range (λ_ _=>.any) (λk ids=>aa (j3 (f6 I aH) ids) .any (.eK k)) .any
  [] (λ_ _ x l=>x::l) [] (λ_ _ x l=>x::l) (λk _ x=>(k,x)) l
def YZ(I:aO)(l:Zb AV):Zh:=
 AV.rec_1 (motive_1:=λ_=>Zh) (motive_2:=λ_=>Zh) (motive_3:=λ_=>Zh) (motive_4:=λ_=>Zh)
  true (λ_=>true) (λ_=>true) (λp _=>ak I.live (ay (I.tv p))) (λp=>ak I.live (ay (I.tv p))) (λp _=>ak I.live (ak (ay (I.tv p)) (ay (I.tv (Zk p))))) (λ_ _=>true) (λ_ _=>true) (λ_=>true) true
  (λi=>Zl (Zk i) I.N) (λ_=>true) (λ_=>true) (λ_=>true) (λ_ l=>l) (λ_ l=>l) (λ_ _ l=>l) true (λ_=>true) (λd _=>Zl (Zk d) I.N) (λ_ ids=>aM (λi=>Zl (Zk i) I.N) ids) true
  true (λ_ _ x l=>ak x l) true (λ_ _ x l=>ak x l) (λ_ _ x=>x) l
def YY(I:aO)(l:Zb (Zc×AV)):Zh:=
 AV.rec_2 (motive_1:=λ_=>Zh) (motive_2:=λ_=>Zh) (motive_3:=λ_=>Zh) (motive_4:=λ_=>Zh)
  true (λ_=>true) (λ_=>true) (λp _=>ak I.live (ay (I.tv p))) (λp=>ak I.live (ay (I.tv p))) (λp _=>ak I.live (ak (ay (I.tv p)) (ay (I.tv (Zk p))))) (λ_ _=>true) (λ_ _=>true) (λ_=>true) true
  (λi=>Zl (Zk i) I.N) (λ_=>true) (λ_=>true) (λ_=>true) (λ_ l=>l) (λ_ l=>l) (λ_ _ l=>l) true (λ_=>true) (λd _=>Zl (Zk d) I.N) (λ_ ids=>aM (λi=>Zl (Zk i) I.N) ids) true
  true (λ_ _ x l=>ak x l) true (λ_ _ x l=>ak x l) (λ_ _ x=>x) l
structure Tl(I:aO)(H:AH)(aH:Zb (Zc×Zc))(c:Zc→Zw)(Y Y':Ly)(h:Yc):Prop where
 id:∀i k p,f6 I aH i=some k→Y.ρ i=some p→Y'.ρ k=some p
 mu:∀a,Y'.Mu a→Y.Mu a
 fz:∀i p a,f6 I aH i=none→Y.ρ i=some p→bV p a→¬Y'.Mu a
 τ:I.live=true→∀p,Y'.τ p=ae (I.tv p) (Y.τ p+1) (Y.τ p)
 c:I.mode=2→Y'.τ=c
 ro:∀i p o,H.get i=some o→Y.ρ i=some p→RO Y h p o
section
variable{Y Y':Ly}{h:Yc}{v:Zf}{p:Zc}{b:Zh}{r r':Zb Zf→Prop}{rf HS:Zb Y4→Prop}(k:∀a o,Fz Y h a o→Fz Y' h a o)
include k
theorem fQ.imp(g:∀vs,r vs→r' vs):fQ Y h r v→fQ Y' h r' v
 |.mk q x l f hc hd=>.mk q (g _ x) l (k _ _ f) hc hd
theorem hO.imp(g:∀vs,r vs→r' vs):hO Y h r v→hO Y' h r' v
 |.mk q x l f=>.mk q (g _ x) l (k _ _ f)
theorem hM.imp{C:Zj}{fs s8:Zb (Zc×AV)}(fi:j8 C fs→j8 C s8)(g:∀vs,rf vs→HS vs):hM Y h C fs rf v→hM Y' h C s8 HS v
 |.mk q f x a b=>.mk q (fi f) (g _ x) (k _ _ a) (k _ _ b)
theorem jc.imp:jc Y h v→jc Y' h v
 |.mk q f=>.mk q (k _ _ f)
theorem jI.imp{n:Zw}:jI Y h n v→jI Y' h n v
 |.mk q b f=>.mk q b (k _ _ f)
theorem hL.imp{j:Zc}{ids pD:Zb Zc}(g:∀fr cells,iJ Y fr ids cells→iJ Y' fr pD cells)(l:pD.length=ids.length):hL Y h j ids v→hL Y' h j pD v
 |.mk q hk ho hf hc hq hd h1 ha l'=>.mk q hk (k _ _ ho) hf hc (k _ _ hq) hd h1 (g _ _ ha) (l.trans l')
end
theorem kq{α:Type}{p:α→Zh}{x:α}{r:Zb α}(e:aM p (x::r)=true):p x=true∧aM p r=true:=by
 revert e
 show(Zp false (aM p r) (p x):Zh)=true→_
 cases p x with
 |false=>exactλe=>aA e
 |true=>exactλe=>⟨rfl,e⟩
theorem mm{α:Type}{p:α→Zh}{l:Zb α}:aM p l=true→∀x∈l,p x=true:=by
 induction l with
 |nil=>exactλ_ _ h=>nomatch h
 |cons y r ih=>exactλe=>List.forall_mem_cons.mpr ⟨(kq e).1,ih (kq e).2⟩
theorem IT{a b:Zw}{t:Zh}(e:b=ae t (a+1) a)(h:t=true):b=a+1:=by subst h;exact e
theorem AF{a b:Zw}{t:Zh}(e:b=ae t (a+1) a)(h:t=false):b=a:=by subst h;exact e
theorem AG{a b:Zw}{t:Zh}(e:b=ae t (a+1) a):a≤b:=by
 cases t with
 |true=>exact(show b=a+1 from e)▸Int.le_add_one (Ux a)
 |false=>exact(show b=a from e)▸Ux a
theorem AT{i a b:Zw}{t x:Zh}(e:b=ae t (a+1) a)(l:i≤a)(q:x=decide (i=a)):ae t false x=decide (i=b):=by
 cases t with
 |true=>
  rw[show b=a+1 from e]
  exact(Ym λz:i=a+1=>Int.not_le.mpr (Int.lt_add_one_iff.mpr (Ux a)) (z▸l)).symm
 |false=>rw[show b=a from e];exact q
theorem akg{i j a b a' b':Zw}{t u x:Zh}(e:b=ae t (a+1) a)(e':b'=ae u (a'+1) a')(l:i≤a)(l':j≤a')(q:x=(decide (i=a)&&decide (j=a'))):ae (aG t u) false x=(decide (i=b)&&decide (j=b')):=by
 rw[←AT e l rfl,←AT e' l' rfl,q]
 cases t<;>cases u<;>first|rfl|exact(Us _).symm
section
variable{I:aO}{H:AH}{aH:Zb (Zc×Zc)}{c:Zc→Zw}{Y Y':Ly}{h:Yc}(X:Tl I H aH c Y Y' h)
theorem y3{i:Zc}(e:Zl (Zk i) I.N=true):f6 I aH i=some i:=by unfold f6;rw[e];rfl
include X
theorem Tl.k(a:Zj)(o:Obj)(f:Fz Y h a o):Fz Y' h a o:=⟨f.g,λq=>f.n (X.mu a q)⟩
theorem Tl.ref{i k:Zc}{v:Zf}(e:f6 I aH i=some k):V Y h (.ref i) v→V Y' h (.ref k) v:=λz=>z.elim λp z=>⟨p,z.1,X.id i k p e z.2⟩
theorem Tl.cls{ids pD:Zb Zc}(e:j3 (f6 I aH) ids=some pD)(fr:Zb Str)(cells:Zb (Str×Zj))(z:iJ Y fr ids cells):iJ Y' fr pD cells:=λj x ex=>by
 obtain⟨i,p,a,b,d⟩:=z j x ex
 obtain⟨k,k1,k2⟩:=(rF e).2 j i a
 exact⟨k,p,k2,X.id i k p k1 b,d⟩
theorem Tl.dA{p:Zc}{b:Zh}{v:Zf}(l:I.live=true):iL Y h p b v→iL Y' h p (ae (aG (I.tv p) (I.tv (Zk p))) false b) v
 |.n q f=>.n q (by subst f;cases aG (I.tv p) (I.tv (Zk p))<;>rfl)
 |.t q e e' g f hc hd=>.t q (Xd e (AG (X.τ l p))) (Xd e' (AG (X.τ l (p+1)))) (akg (X.τ l p) (X.τ l (p+1)) e e' g) (X.k _ _ f) hc hd
theorem Tl.cB{p:Zc}{b:Zh}{v:Zf}(l:I.live=true):V Y h (.cB p b) v→V Y' h (.cB p (ae (I.tv p) false b)) v:=λz=>z.elim λi z=>z.elim λt z=>⟨i,t,z.1,Xd z.2.1 (AG (X.τ l p)),AT (X.τ l p) z.2.1 z.2.2⟩
theorem Tl.nx{p:Zc}{v:Zf}(l:I.live=true):V Y h (.nx p) v→V Y' h (ae (I.tv p) (.cB p true) (.nx p)) v:=λz=>z.elim λt z=>by
 have e:=X.τ l p
 cases q:I.tv p with
 |true=>exact⟨_,t,z,Uk (IT e q).symm,(Y6 (IT e q).symm).symm⟩
 |false=>exact⟨t,(AF e q).symm▸z⟩
omit X in
theorem vn{C:Zj}{fs s8:Zb (Zc×AV)}(e:s8.map (·.1)=fs.map (·.1))(f:j8 C fs):j8 C s8:=f.elim λci z=>⟨ci,z.1,λkv h=>by
 have h:=Vn (f:=(·.1)) h
 rw[e]at h
 obtain⟨tG,h',e'⟩:=List.mem_map.mp h
 exact e'▸z.2 tG h'⟩
omit X in
theorem ajU{g:Zc→AV}(fs:Zb (Zc×AV)):(IW I aH g fs).map (·.1)=fs.map (·.1):=by
 induction fs with
 |nil=>rfl
 |cons p r ih=>exact Ze (p.1::·) ih
omit X in
theorem kM{a x:AV}{v:Zf}{b:Zh}(k:V Y h a v)(f:b=true→V Y' h x v):V Y' h (ae b x .any) v:=by
 cases b with
 |true=>exact f rfl
 |false=>exact V.handed a v k
theorem IV{g:Zc→AV}(hg:∀i v,f6 I aH i=none→V Y h (.ref i) v→V Y' h (g i) v)(a:AV):∀v,V Y h a v→V Y' h (rQ I aH g a) v:=
 AV.rec (motive_1:=λa=>∀v,V Y h a v→V Y' h (rQ I aH g a) v) (motive_2:=λl=>∀v,Vs Y h l v→Vs Y' h (ajV I aH g l) v) (motive_3:=λl=>∀v,Vf Y h l v→Vf Y' h (IW I aH g l) v) (motive_4:=λp=>∀v,V Y h p.2 v→V Y' h (rQ I aH g p.2) v)
  (λ_ x=>x) (λ_ _ x=>x) (λ_ _ x=>x) (λp b v x=>kM (a:=.cB p b) x λl=>X.cB l x) (λp v x=>kM (a:=.nx p) x λl=>X.nx l x) (λp b v x=>kM (a:=.dA p b) x λl=>X.dA l x) (λr k v x=>V.handed (.cnt r k) v x) (λ_ _ _ x=>x) (λ_ _ x=>x) (λ_ x=>x)
  (λi v x=>by
   show V Y' h (aa (f6 I aH i) (g i) .ref) v
   cases q:f6 I aH i with
   |none=>exact hg i v q x
   |some k=>exact X.ref q x) (λ_ _ x=>x) (λ_ _ x=>x) (λ_ _ x=>x) (λ_ k _=>fQ.imp X.k k) (λ_ k _=>hO.imp X.k k) (λ_ fs k _=>hM.imp X.k (vn (ajU fs)) k) (λ_=>jc.imp X.k) (λ_ _=>jI.imp X.k)
  (λd n v x=>V.handed (.vals d n) v x) (λk ids v x=>by
   show V Y' h (aa (j3 (f6 I aH) ids) .any (.eK k)) v
   cases q:j3 (f6 I aH) ids with
   |none=>exact V.handed (.eK k ids) v x
   |some pD=>exact hL.imp X.k (X.cls q) (rF q).1 x) (λ_ x=>x) (λ_ x=>x) (λ_ _ k l _=>hS.imp k l) (λ_ x=>x) (λ_ _ k l _=>iC.imp k l) (λ_ _ k=>k) a
theorem vV(a:AV):ei I a=true→∀v,V Y h a v→V Y' h a v:=
 AV.rec (motive_1:=λa=>ei I a=true→∀v,V Y h a v→V Y' h a v) (motive_2:=λl=>YZ I l=true→∀v,Vs Y h l v→Vs Y' h l v) (motive_3:=λl=>YY I l=true→∀v,Vf Y h l v→Vf Y' h l v) (motive_4:=λp=>ei I p.2=true→∀v,V Y h p.2 v→V Y' h p.2 v)
  (λ_ _ x=>x) (λ_ _ _ x=>x) (λ_ _ _ x=>x) (λp b e v x=>bA e λl n=>by have z:=X.cB l x;rw[eG n]at z;exact z) (λp e v x=>bA e λl n=>by have z:=X.nx l x;rw[eG n]at z;exact z) (λp b e v x=>bA e λl n=>bA n λn1 n2=>by have z:=X.dA l x;rw[eG n1,eG n2]at z;exact z) (λ_ _ _ _ x=>x) (λ_ _ _ _ x=>x) (λ_ _ _ x=>x) (λ_ _ x=>x)
  (λ_ e _ x=>X.ref (y3 e) x) (λ_ _ _ x=>x) (λ_ _ _ x=>x) (λ_ _ _ x=>x) (λ_ k e _=>fQ.imp X.k (k e)) (λ_ k e _=>hO.imp X.k (k e)) (λ_ _ k e _=>hM.imp X.k id (k e)) (λ_ _=>jc.imp X.k) (λ_ _ _=>jI.imp X.k)
  (λd n e v x=>jJ.casesOn (motive:=λ_=>jJ Y' h d n v) x λq hp l f=>.mk q (X.id _ _ _ (y3 e) hp) l (X.k _ _ f)) (λk ids e v x=>hL.imp X.k (λfr cells z j y ey=>by
   obtain⟨i,p,a,b,d⟩:=z j y ey
   exact⟨i,p,a,X.id _ _ _ (y3 (mm e i (Yr a))) b,d⟩) rfl x) (λ_ _ x=>x) (λ_ _ x=>x) (λ_ _ k l e _=>bA e λe1 e2=>hS.imp (k e1) (l e2)) (λ_ _ x=>x) (λ_ _ k l e _=>bA e λe1 e2=>iC.imp (k e1) (l e2)) (λ_ _ k=>k) a
end
end Mine
namespace Mine
inductive P2{α:Type}(R:α→α→Prop):Zb α→Zb α→Prop
 |nil:P2 R [] []
 |cons{x y:α}{l m:Zb α}:R x y→P2 R l m→P2 R (x::l) (y::m)
def Rk{K α:Type}(R:α→α→Prop)(p q:K×α):Prop:=q.1=p.1∧R p.2 q.2
def Ro{α:Type}(R:α→α→Prop)(a b:Zd α):Prop:=aa a (b=none) λx=>∃y,b=some y∧R x y
theorem P2.map{α:Type}{R:α→α→Prop}(f:α→α)(h:∀x,R x (f x))(l:Zb α):P2 R l (ag f l):=by
 induction l with
 |nil=>exact .nil
 |cons x r ih=>exact .cons (h x) ih
theorem P2.same{α:Type}{R:α→α→Prop}{p:α→Zh}{l:Zb α}(e:aM p l=true)(h:∀x,p x=true→R x x):P2 R l l:=by
 induction l with
 |nil=>exact .nil
 |cons x r ih=>exact .cons (h x (kq e).1) (ih (kq e).2)
section
variable{K α:Type}{R:α→α→Prop}{l m:Zb (K×α)}
theorem P2.keys(x:P2 (Rk R) l m):m.map (·.1)=l.map (·.1):=by
 induction x with
 |nil=>rfl
 |cons a _ ih=>rw[Vt,Vt,ih,a.1]
theorem P2.len(x:P2 (Rk R) l m):m.length=l.length:=by
 have z:=Ze Su x.keys
 rw[Yi,Yi]at z;exact z
end
theorem Gu{α:Type}{R:α→α→Prop}{l m:Zb (Zc×α)}(x:P2 (Rk R) l m)(k:Zc):Ro R (aY k l) (aY k m):=by
 induction x with
 |nil=>exact rfl
 |@cons p q l m a _ ih=>
  obtain⟨j,u⟩:=p
  obtain⟨j',w⟩:=q
  obtain⟨e,r⟩:=a
  rw[jT,jT,show j'=j from e]
  by_cases z:k=j
  ·rw[if_pos z,if_pos z];exact⟨_,rfl,r⟩
  ·rw[if_neg z,if_neg z];exact ih
theorem Gv{α:Type}{R:α→α→Prop}{l m:Zb ((Zc×Zc)×α)}(x:P2 (Rk R) l m)(a b:Zc):Ro R (gv a b l) (gv a b m):=by
 induction x with
 |nil=>exact rfl
 |@cons p q l m w _ ih=>
  rw[oD,oD,w.1]
  by_cases z:(a,b)=p.1
  ·rw[if_pos z,if_pos z];exact⟨_,rfl,w.2⟩
  ·rw[if_neg z,if_neg z];exact ih
theorem Ro.inv{α:Type}{R:α→α→Prop}{a b:Zd α}{x:α}(r:Ro R a b)(e:b=some x):∃y,a=some y∧R y x:=by
 cases a with
 |none=>exact aF ((show b=none from r).symm.trans e)
 |some y=>exact(show∃x,b=some x∧R y x from r).elim λz w=>⟨y,rfl,Za (w.1.symm.trans e)▸w.2⟩
section
variable{Y Y':Ly}{h:Yc}
def RV(Y Y':Ly)(h:Yc)(a b:AV):Prop:=∀v,V Y h a v→V Y' h b v
theorem Vs.p2{l m:Zb AV}(x:P2 (RV Y Y' h) l m):∀vs,Vs Y h l vs→Vs Y' h m vs:=by
 induction x with
 |nil=>exactλ_ z=>z
 |cons a _ ih=>exactλ_=>hS.imp a ih
theorem Vf.p2{l m:Zb (Zc×AV)}(x:P2 (Rk (RV Y Y' h)) l m):∀vs,Vf Y h l vs→Vf Y' h m vs:=by
 induction x with
 |nil=>exactλ_ z=>z
 |@cons p q _ _ a _ ih=>exactλvs z=>(show iC q.1 _ _ vs from a.1▸iC.imp a.2 ih z)
theorem cu.p2{l m:Zb (AV×AV)}(x:P2 (Rk (RV Y Y' h)) l m):∀vs,cu Y h l vs→cu Y' h m vs:=by
 induction x with
 |nil=>exactλ_ z=>z
 |@cons p q _ _ a _ ih=>exactλvs z=>gW.casesOn (motive:=λ_=>gW q.1 _ _ vs) z λe hk hn u b=>.mk e (a.1.trans hk) hn (a.2 _ u) (ih _ b)
theorem fB.p2{a b:Zd AV}{u:Zd Zf}(r:Ro (RV Y Y' h) a b)(x:fB Y h a u):fB Y' h b u:=by
 cases a with
 |none=>rw[show b=none from r];exact x
 |some y=>
  obtain⟨z,e,r⟩:=(r:∃z,b=some z∧RV Y Y' h y z)
  obtain⟨w,q,v⟩:=(x:∃w,u=some w∧V Y h y w)
  exact e▸⟨w,q,r w v⟩
theorem Ro.join{a b:Zd (Zd AV)}(r:Ro (Ro (RV Y Y' h)) a b):Ro (RV Y Y' h) (aq a λo=>o) (aq b λo=>o):=by
 cases a with
 |none=>rw[show b=none from r];exact rfl
 |some y=>
  obtain⟨z,e,r⟩:=(r:∃z,b=some z∧Ro (RV Y Y' h) y z)
  exact e▸r
theorem Ro.aT{α:Type}{R:α→α→Prop}{a b:Zd α}(r:Ro R a b)(e:aT a=true):Mine.aT b=true:=by
 cases a with
 |none=>exact aA e
 |some y=>
  obtain⟨z,e,_⟩:=(r:∃z,b=some z∧R y z)
  exact e▸rfl
variable{p:Zj×Zd Zj}
theorem jF.p2{C:Zj}{fs gs:Zb (Zc×AV)}(x:P2 (Rk (RV Y Y' h)) fs gs):jF Y h p C fs→jF Y' h p C gs
 |.mk q hx hd r f l=>.mk q hx hd (Vf.p2 x _ r) (vn x.keys f) (x.len.symm▸l)
theorem eC.p2{Z:X9 Zf→Prop}{C:Zj}{fs gs:Zb (Zc×AV)}(x:P2 (Rk (RV Y Y' h)) fs gs):eC Y h p Z C fs→eC Y' h p Z C gs
 |.z q f hx a b c e=>.z q (List.eq_nil_of_length_eq_zero (x.len.trans (Ze Su f))) hx a b c e
 |.s q hx a b c e hd r f l=>.s q hx a b c e hd (Vf.p2 x _ r) (vn x.keys f) (x.len.symm▸l)
theorem eU.p2{xs ys:Zb AV}(x:P2 (RV Y Y' h) xs ys):eU Y h p xs→eU Y' h p ys
 |.mk q hx r l=>.mk q hx (Vs.p2 x _ r) l
theorem i5.p2{ms pI:Zb (Zc×Zd AV)}(x:P2 (Rk (Ro (RV Y Y' h))) ms pI):i5 Y h p ms→i5 Y' h p pI
 |.mk q hd a b l=>.mk q hd (λk y e=>fB.p2 (Gu x k).join (a k y e)) (λkv hk=>(b kv hk).elim λk z=>⟨k,z.1,(Gu x k).aT z.2⟩) (x.len.symm▸l)
theorem lg.p2{a b:Zd AV}(x:Ro (RV Y Y' h) a b):lg Y h p a→lg Y' h p b
 |.mk q hx hd r=>.mk q hx hd (r.p2 x)
variable(k:∀a o,Fz Y h a o→Fz Y' h a o)
include k
theorem bT.p2{K:Type}{ky:Zb AV→K→Prop}{l m:Zb (AV×AV)}(x:P2 (Rk (RV Y Y' h)) l m):∀vs,bT Y h ky l vs→bT Y' h ky m vs:=by
 induction x with
 |nil=>exactλ_ z=>z
 |@cons p q _ _ a _ ih=>exactλvs z=>fP.casesOn (motive:=λ_=>fP Y' h ky q.1 _ _ vs) z λe hk hx f u b=>.mk e (a.1.trans hk) hx (k _ _ f) (a.2 _ u) (ih _ b)
theorem eB.p2{es ef:Zb (AV×AV)}(x:P2 (Rk (RV Y Y' h)) es ef):eB Y h p es→eB Y' h p ef
 |.s q hd r=>.s q hd (cu.p2 x _ r)
 |.i q hd r=>.i q hd (bT.p2 k x _ r)
 |.t q hd r=>.t q hd (bT.p2 k x _ r)
theorem iK.p2{ms pI:Zb ((Zc×Zc)×AV)}(x:P2 (Rk (RV Y Y' h)) ms pI):iK Y h p ms→iK Y' h p pI
 |.mk q hd n a b l=>.mk q hd (λy hy=>(n y hy).elim λo f=>⟨o,k _ _ f⟩) (λc d y z v e1 e2 e3=>(Gv x c d).inv e3|>.elim λw z=>z.2 _ (a c d _ _ w e1 e2 z.1))
  (λy hy=>(b y hy).elim λc z=>z.elim λd z=>z.elim λu z=>z.elim λv z=>⟨c,d,u,v,z.1,z.2.1,z.2.2.1,(Gv x c d).aT z.2.2.2⟩) (x.len.symm▸l)
theorem jG.p2:jG Y h p→jG Y' h p
 |.mk q hx a b=>.mk q hx a λpos v e=>(b pos v e).elim λc z=>z.elim λr z=>z.elim λco z=>z.elim λvs z=>z.elim λt z=>⟨c,r,co,vs,t,z.1,z.2.1,k _ _ z.2.2.1,z.2.2.2⟩
end
theorem QO{k:Zc}{ks:Zb Zc}{es:Zb (AV×AV)}(e:qY es ks=true)(n:aK k ks=false):iO (.sy k) es=some none:=by
 induction es with
 |nil=>rfl
 |cons p es ih=>
  have e:=kq e
  refine oT e.1 λj hj hk=>?_
  show aq (oz p.1 (.sy k)) (λb=>Zp (iO (.sy k) es) (some (some p.2)) b)=_
  rw[jj hj]
  show(Zp (iO (.sy k) es) (some (some p.2)) (Zi j k):Zd (Zd AV))=_
  cases q:Zi j k with
  |true=>rw[Zr q]at hk;exact aA (n.symm.trans hk)
  |false=>exact ih e.2
theorem GN{f:AV→AV}{es:Zb (AV×AV)}{ks:Zb Zc}(he:qY es ks=true){k:Zc}:∀{l:Zb Zc}{ms:Zb (Zc×Zd AV)},w5 f es l=some ms→(aK k l=false→aK k ks=false)→(aK k l=true→aT (aY k ms)=true)∧∃o,iO (.sy k) es=some o∧(aq (aY k ms) λo=>o)=aa o none λv=>some (f v):=by
 intro l
 induction l with
 |nil=>exactλe n=>⟨λq=>aA q,none,QO he (n rfl),by rw[←Za e];rfl⟩
 |cons j l ih=>
  exactλ{ms} e n=>oN e λp hp e=>oN e λpI hm e=>oN hp λo ho hp=>by
   rw[←Za e,←Za hp,jT]
   by_cases q:k=j
   ·rw[if_pos q];exact⟨λ_=>rfl,o,q▸ho,rfl⟩
   ·have nb:Zi k j=false:=Bool.eq_false_iff.mpr λz=>q (Zr z)
    have e2:aK k (j::l)=aK k l:=by rw[vr,nb];exact Bool.false_or _
    rw[if_neg q,e2];exact ih hm λz=>n (e2.trans z)
theorem aki{Y:Ly}{h:Yc}{ks:Zb Zc}{es:Zb (AV×AV)}:∀{kvs:Zb (Str×Zf)},cu Y h es kvs→qY es ks=true→∀kv∈kvs,∃k,T.S.nm k=some kv.1∧aK k ks=true:=by
 induction es with
 |nil=>exactλr _ kv h=>nomatch(show _=[] from r)▸h
 |cons p es ih=>
  intro kvs r e
  obtain⟨rfl,hk,hn,_,b⟩:=(r:gW p.1 (V Y h p.2) (cu Y h es) kvs)
  have e':=kq e
  refine List.forall_mem_cons.mpr ⟨oT e'.1 λj hj z=>⟨_,hn,?_⟩,ih b e'.2⟩
  rw[hk]at hj;exact Za hj▸z
section
variable{Y Y':Ly}{h:Yc}{p:Zj×Zd Zj}{f:AV→AV}{es:Zb (AV×AV)}
theorem ZT(hf:∀a,RV Y Y' h a (f a)){ks:Zb Zc}{ms:Zb (Zc×Zd AV)}(he:qY es ks=true)(hm:w5 f es ks=some ms)(hl:ks.length≤1000)(x:eB Y h p es):i5 Y' h p ms:=by
 have ml:ms.length≤1000:=(rF hm).1▸hl
 have main:∀kvs,p.2=none→h.DictOf T.sk p.1 kvs→cu Y h es kvs→i5 Y' h p ms:=λkvs q hd r=>.mk q hd (λk y e=>by
  obtain⟨_,o,ho,eo⟩:=GN he (k:=k) hm id
  rw[eo]
  refine fB.p2 ?_ (EO e r ho)
  cases o with
  |none=>exact rfl
  |some v=>exact⟨_,rfl,hf v⟩) (λkv tj=>(aki r he kv tj).elim λk z=>⟨k,z.1,(GN he (k:=k) hm id).1 z.2⟩) ml
 have G9:∀{K:Type}{ky:Zb AV→K→Prop}{xs:Zb (K×Zj×Zf)},bT Y h ky es xs→es=[]:=λ{K ky xs} r=>by
  cases es with
  |nil=>rfl
  |cons e es=>
   obtain⟨_,hk,_⟩:=(r:fP Y h ky e.1 (V Y h e.2) (bT Y h ky es) xs)
   refine oT (kq he).1 λj hj _=>?_
   rw[hk]at hj;exact aF hj
 cases id x with
 |s q hd r=>exact main _ q hd r
 |i q hd r=>
  have e:=G9 r
  subst e
  exact main [] q x.emp.st rfl
 |t q hd r=>
  have e:=G9 r
  subst e
  exact main [] q x.emp.st rfl
end
end Mine
namespace Mine
theorem AU{α β:Type}{l:Zb α}{f:α→α→Zd β}{r:β}{P:Prop}(e:two l none f=some r)(k:∀x y,l=[x,y]→f x y=some r→P):P:=by
 rcases l with _|⟨x,_|⟨y,_|⟨z,q⟩⟩⟩
 ·exact aF e
 ·exact aF e
 ·exact k x y rfl e
 ·exact aF e
theorem IF{k:AV}{q:Zc×Zc}(e:rK k=some q):k=.tup [.sy q.1,.sy q.2]:=oN e λxs h1 e=>AU e λx y h2 e=>oN e λa h3 e=>oN e λb h4 e=>by
 rw[nQ h1,h2,jj h3,jj h4,←Za e]
theorem Gp{f:AV→AV}{es:Zb (AV×AV)}{a b:Zc}:∀{l:Zb (Zc×Zc)}{ms:Zb ((Zc×Zc)×AV)},w4 f es l=some ms→(yq a b l=true→aT (gv a b ms)=true)∧∀v,gv a b ms=some v→∃o,iO (.tup [.sy a,.sy b]) es=some o∧v=f (aa o .none λv=>v):=by
 intro l
 induction l with
 |nil=>exactλe=>⟨λq=>aA q,λv h=>by rw[←Za e]at h;exact aF h⟩
 |cons j l ih=>
  exactλ{ms} e=>oN e λp hp e=>oN e λpI hm e=>oN hp λo ho hp=>by
   rw[←Za e,←Za hp,oD]
   by_cases q:(a,b)=j
   ·rw[if_pos q];exact⟨λ_=>rfl,λv h=>⟨o,by rw[←ho,←q],(Za h).symm⟩⟩
   ·rw[if_neg q]
    refine⟨λh=>(ih hm).1 (bO h (λh=>?_) id),(ih hm).2⟩
    rw[Ad]at h;exact Y8 (Y2 h) q
theorem akk{Y:Ly}{h:Yc}{ks:Zb (Zc×Zc)}{es:Zb (AV×AV)}:∀{xs:Zb (Zb Str×Zj×Zf)},bT Y h lh es xs→vR es ks=true→∀y∈xs,∃a b u v,y.1=[u,v]∧T.S.nm a=some u∧T.S.nm b=some v∧yq a b ks=true:=by
 induction es with
 |nil=>exactλr _ y h=>nomatch(show _=[] from r)▸h
 |cons p es ih=>
  intro xs r e
  obtain⟨rfl,hk,hx,_,_,b⟩:=(r:fP Y h lh p.1 (V Y h p.2) (bT Y h lh es) xs)
  have e':=kq e
  refine List.forall_mem_cons.mpr ⟨oT e'.1 λq hq z=>?_,ih b e'.2⟩
  rw[IF hq]at hk
  injection hk with hk
  rw[←hk]at hx
  obtain⟨e1,⟨a,ea,na⟩,e2,⟨c,ec,nc⟩,e3⟩:=hx
  injection ea with ea
  injection ec with ec
  exact⟨_,_,_,_,e1.trans (Ze _ (e2.trans (Ze _ e3))),ea▸na,ec▸nc,z⟩
section
variable{Y Y':Ly}{h:Yc}{p:Zj×Zd Zj}{f:AV→AV}{es:Zb (AV×AV)}
theorem XL(k:∀a o,Fz Y h a o→Fz Y' h a o)(hf:∀a,RV Y Y' h a (f a)){ks:Zb (Zc×Zc)}{ms:Zb ((Zc×Zc)×AV)}(he:vR es ks=true)(hm:w4 f es ks=some ms)(hl:ks.length≤1000)(x:eB Y h p es):iK Y' h p ms:=by
 have ml:ms.length≤1000:=(rF hm).1▸hl
 have main:∀xs,p.2=none→h.DictOfH (Xz T.sk) p.1 xs→bT Y h lh es xs→iK Y' h p ms:=λxs q hd r=>.mk q hd (λy hy=>(bT.at_ _ _ r y hy).elim λo f=>⟨o,k _ _ f⟩) (λa b y z v e1 e2 e3=>by
  obtain⟨o,ho,ev⟩:=(Gp (a:=a) (b:=b) hm).2 v e3
  have w:=EL kS (zs:=[.sy a,.sy b]) (ks:=[y,z]) (.mk rfl ⟨a,rfl,e1⟩ (.mk rfl ⟨b,rfl,e2⟩ rfl)) r ho
  rw[ev]
  cases o with
  |none=>rw[show(atKey xs [y,z]).map (·.2)=none from w];exact hf .none .none rfl
  |some u=>
   obtain⟨w,e,wv⟩:=(w:∃w,(atKey xs [y,z]).map (·.2)=some w∧V Y h u w)
   rw[e];exact hf u w wv) (λy hy=>(akk r he y hy).elim λa z=>z.elim λb z=>z.elim λu z=>z.elim λv z=>⟨a,b,u,v,z.1,z.2.1,z.2.2.1,(Gp hm).1 z.2.2.2⟩) ml
 have emp:es=[]→p.2=none→iK Y' h p ms:=λe q=>by
  subst e
  exact main [] q x.emp.hp rfl
 cases id x with
 |t q hd r=>exact main _ q hd r
 |s q hd r=>
  refine emp ?_ q
  cases es with
  |nil=>rfl
  |cons e es=>
   obtain⟨_,hk,_⟩:=(r:gW e.1 (V Y h e.2) (cu Y h es) _)
   refine oT (kq he).1 λj hj _=>?_
   rw[hk]at hj;exact aF hj
 |i q hd r=>
  refine emp ?_ q
  cases es with
  |nil=>rfl
  |cons e es=>
   obtain⟨_,hk,hx,_⟩:=(r:fP Y h nM e.1 (V Y h e.2) (bT Y h nM es) _)
   refine oT (kq he).1 λj hj _=>?_
   rw[IF hj]at hk
   injection hk with hk
   rw[←hk]at hx
   obtain⟨_,e,_⟩:=hx
   exact nomatch(show AV.sy j.1=.int _ from e)
end
section
variable{Y Y':Ly}{h:Yc}{v:Zf}{a:AV}
theorem jB{α:Type}{o:Zd α}{f:α→AV}(k:V Y h a v)(g:∀x,o=some x→V Y' h (f x) v):V Y' h (aa o .any f) v:=by
 cases o with
 |none=>exact V.handed a v k
 |some x=>exact g x rfl
theorem TP{f:AV→AV}(hf:∀a,RV Y Y' h a (f a)){p:Zj×Zd Zj}{o:AO}(ro:RO Y h p o)(fz:∀a,bV p a→¬Y'.Mu a):V Y' h (E7 f o) (.ref p.1):=by
 cases o<;>first|exact rfl|skip
 ·rename_i C fs
  obtain⟨q,hx,hd,r,fi,l⟩:=(ro:jF Y h p C fs)
  have x:P2 (Rk (RV Y Y' h)) fs _:=P2.map (λp:Zc×AV=>(p.1,ae (aG (Zi p.1 (nat_lit 13)) (Zi p.1 (nat_lit 14))) .any (f p.2))) (λp=>⟨rfl,λv z=>by
   show V Y' h (ae (aG (Zi p.1 (nat_lit 13)) (Zi p.1 (nat_lit 14))) .any (f p.2)) v
   cases aG (Zi p.1 (nat_lit 13)) (Zi p.1 (nat_lit 14))with
   |true=>exact V.handed p.2 v z
   |false=>exact hf _ v z⟩) fs
  exact hM.mk rfl (vn x.keys fi) (Vf.p2 x _ r) ⟨hx,fz _ (.x rfl)⟩ ⟨hd,fz _ (.d q)⟩
 ·obtain⟨q,hx,r,l⟩:=(ro:eU Y h p _)
  exact hO.mk rfl (Vs.p2 (P2.map f hf _) _ r) (by exact l) ⟨hx,fz _ (.x rfl)⟩
 ·rename_i es
  cases es with
  |cons _ _=>exact rfl
  |nil=>
   obtain⟨⟨oc,od,dt,sl⟩,ep,ho,⟨h1,h2,h3⟩,h4⟩:=(ro:eB Y h p []).emp
   cases h1;cases h2;cases h3;cases h4
   exact jc.mk rfl ⟨ho,fz _ (.x rfl)⟩
variable{I:aO}{H:AH}{aH:Zb (Zc×Zc)}{c:Zc→Zw}(X:Tl I H aH c Y Y' h)
include X
theorem nE(n:Zc)(a:AV):RV Y Y' h a (bL I H aH n a):=by
 induction n generalizing a with
 |zero=>exact IV X (g:=λ_=>.any) (λi v _ z=>V.handed (.ref i) v z) a
 |succ n ih=>exact IV X (λi v q z=>jB z λo ho=>by
   obtain⟨p,e,hp⟩:=(z:∃p:Zj×Zd Zj,v=.ref p.1∧Y.ρ i=some p)
   exact e▸TP ih (X.ro i p o ho hp) λb f=>X.fz i p b q hp f) a
theorem ZF{α:Type}{o:Zd α}{x:α}(e:ae (Zi I.mode 2) o none=some x):o=some x∧Y'.τ=c:=bN e λg e=>⟨e,X.c (Zr g)⟩
theorem DV(a:AV)(p:Zc):RV Y Y' h a (uY I c a p):=by
 intro v z
 show V Y' h (ae (isNone a) (.dA p false) _) v
 cases hn:isNone a with
 |true=>
  rw[yN hn]at z
  exact iL.n z rfl
 |false=>
  exact jB z λxs hx=>by
   obtain⟨hx,e⟩:=ZF X hx
   obtain⟨q,rs,l,f,hc,hd⟩:=V.j7 hx z
   rcases xs with _|⟨x,_|⟨y,_|⟨w,r⟩⟩⟩
   ·exact V.handed a v z
   ·exact V.handed a v z
   ·refine jB z λi hi=>jB z λj hj=>kM (a:=a) z λg=>bA g λg1 g2=>?_
    obtain⟨u1,u2,e2,r1,r2⟩:=Vs.two rs
    obtain⟨t1,q1⟩:=V.cU hi r1
    obtain⟨t2,q2⟩:=V.cU hj r2
    rw[e2,q1,q2]at hd
    refine iL.t (i:=i) (j:=j) q (e▸Y2 g1) (e▸Y2 g2) ?_ (X.k _ _ f) hc hd
    rw[e];cases decide (i=c p)<;>rfl
   ·exact V.handed a v z
theorem DW(a:AV)(q:Cv):RV Y Y' h a (sJ I H aH c a q):=by
 intro v z
 have m2:∀{α:Type}{o:Zd α}{x:α},ae (Zi I.mode 2) o none=some x→o=some x∧Y'.τ=c:=λe=>bN e λg e=>⟨e,X.c (Zr g)⟩
 cases q with
 |cB p=>
  exact jB z λi hi=>kM (a:=a) z λg=>by
   obtain⟨hi,e⟩:=m2 hi
   obtain⟨t,q⟩:=V.cU hi z
   exact⟨i,t,q,e▸Y2 g,e▸rfl⟩
 |dA p=>exact DV X a p v z
 |cnt r=>
  exact jB z λi hi=>kM (a:=a) z λg=>by
   obtain⟨t,q⟩:=V.cU hi z
   exact⟨i,t,q,by have g:=Y2 g;exact g⟩
 |md=>
  exact jB z λi hi=>kM (a:=a) z λg=>by
   obtain⟨t,q⟩:=V.cU hi z
   exact⟨i,t,q,Y2 g,Nat.mod_one _⟩
 |tt p=>
  exact jB z λxs hx=>by
   obtain⟨hx,e⟩:=m2 hx
   rcases xs with _|⟨x,_|⟨y,_|⟨w,r⟩⟩⟩
   ·exact V.handed a v z
   ·exact V.handed a v z
   ·refine jB z λi hi=>jB z λj hj=>kM (a:=a) z λg=>bA g λg1 g2=>?_
    obtain⟨q,rs,l,f,hc,hd⟩:=V.j7 hx z
    obtain⟨u1,u2,e2,r1,r2⟩:=Vs.two rs
    obtain⟨t1,q1⟩:=V.cU hi r1
    obtain⟨t2,q2⟩:=V.cU hj r2
    exact fQ.mk q (e2▸Vs.cons (h:=h) (x:=.cB p _) ⟨i,t1,q1,e▸Y2 g1,e▸rfl⟩ (Vs.cons (h:=h) (x:=.cB (p+1) _) ⟨j,t2,q2,e▸Y2 g2,e▸rfl⟩ .nil)) l (X.k _ _ f) hc hd
   ·exact V.handed a v z
 |vk p=>
  show V Y' h (aa _ (uY I c a p) _) v
  cases hi:ae (Zi I.mode 2) (c9 a) none with
  |none=>exact DV X a p v z
  |some i=>
   obtain⟨hi,e⟩:=m2 hi
   exact kM (a:=a) z λg=>by
    obtain⟨t,q⟩:=V.cU hi z
    exact⟨i,t,q,e▸Y2 g,e▸rfl⟩
 |pr p=>
  exact jB z λxs hx=>by
   obtain⟨hx,e⟩:=m2 hx
   rcases xs with _|⟨x,_|⟨y,_|⟨w,r⟩⟩⟩
   ·exact V.handed a v z
   ·exact V.handed a v z
   ·refine jB z λi hi=>kM (a:=a) z λg=>?_
    obtain⟨q,rs,l,f,hc,hd⟩:=V.j7 hx z
    obtain⟨u1,u2,e2,r1,r2⟩:=Vs.two rs
    obtain⟨t1,q1⟩:=V.cU hi r1
    exact fQ.mk q (e2▸Vs.cons (x:=.cB p _) ⟨i,t1,q1,e▸Y2 g,e▸rfl⟩ (Vs.cons (nE X 7 y _ r2) .nil)) l (X.k _ _ f) hc hd
   ·exact V.handed a v z
theorem AN(j k:Zc)(a:AV):RV Y Y' h a (o3 I H aH c j k a):=by
 intro v z
 unfold o3
 cases I.fg j k with
 |true=>exact V.handed a v z
 |false=>
 show V Y' h (ae (I.fk j k) (EJ I H aH a) _) v
 cases I.fk j k with
 |true=>
  show V Y' h (aa (dX a) .any _) v
  exact jB z λxs hx=>by
   rcases xs with _|⟨x,_|⟨y,_|⟨w,r⟩⟩⟩
   ·exact V.handed a v z
   ·exact V.handed a v z
   ·obtain⟨q,rs,l,f,hc,hd⟩:=V.j7 hx z
    obtain⟨u1,u2,e2,r1,r2⟩:=Vs.two rs
    exact fQ.mk q (e2▸Vs.cons (nE X 7 x _ r1) (Vs.cons (show V Y' h .any u2 from V.handed y u2 r2) .nil)) l (X.k _ _ f) hc hd
   ·exact V.handed a v z
 |false=>
  show V Y' h (aa (aY k I.cv) _ (sJ I H aH c a)) v
  cases aY k I.cv with
  |some q=>exact DW X a q v z
  |none=>
   show V Y' h (aa (qz a) _ _) v
   cases hc:qz a with
   |some q=>
    rw[uI hc]at z⊢
    show V Y' h (ae (Zi I.mode 1) (DG q.1 q.2) (.cnt q.1 q.2)) v
    cases Zi I.mode 1 with
    |false=>exact z
    |true=>
     refine kM (a:=.cnt q.1 q.2) z λg=>?_
     obtain⟨i,t,e,le⟩:=z
     cases hr:q.1 with
     |zero=>rw[e];exact rfl
     |succ r=>
      rw[hr]at le
      refine⟨i,t,e,?_⟩
      have g:=Zm g
      omega
   |none=>
    show V Y' h (aa (aq (dX a) _) (bL I H aH 7 a) λp=>.dA p true) v
    refine Option.rec (motive:=λo=>(∀p,o=some p→V Y' h (.dA p true) v)→V Y' h (aa o (bL I H aH 7 a) λp=>.dA p true) v) (λ_=>nE X 7 a v z) (λp k=>k p rfl) (aq (dX a) λxs=>two xs none λx y=>aq (oP x) λp=>aq (oP y) λq=>ae (ak (Zi q (Zk p)) (ak I.live (ak (ay (I.tv p)) (ay (I.tv q))))) (some p) none) λp e=>?_
    refine oN e λxs hx e=>AU e λx y h2 e=>oN e λp' hp e=>oN e λq hq e=>bN e λg e=>bA g λg1 g=>bA g λg2 g=>bA g λg3 g4=>?_
    have e:=Za e
    subst e h2
    have g1:=Zr g1
    subst g1
    obtain⟨qv,rs,l,f,hc,hd⟩:=V.j7 hx z
    obtain⟨u1,u2,e2,r1,r2⟩:=Vs.two rs
    obtain⟨t1,q1⟩:=rm hp r1
    obtain⟨t2,q2⟩:=rm hq r2
    rw[e2,q1,q2]at hd
    have e3:=AF (X.τ g2 p') (eG g3)
    have e4:=AF (X.τ g2 (p'+1)) (eG g4)
    refine iL.t qv (Uk e3.symm) (Uk e4.symm) ?_ (X.k _ _ f) hc hd
    rw[Y6 e3.symm,Y6 e4.symm];rfl
theorem ajS(q:AV×AV):RV Y Y' h q.2 (wZ I H aH c q):=by
 intro v z
 show V Y' h (aa (aq (cY q.1) λk=>aY k I.cv) (bL I H aH 7 q.2) (sJ I H aH c q.2)) v
 cases aq (cY q.1) λk=>aY k I.cv with
 |none=>exact nE X 7 q.2 v z
 |some w=>exact DW X q.2 w v z
end
end Mine
namespace Mine
section
variable{Y Y':Ly}{h:Yc}{I:aO}{H:AH}{aH:Zb (Zc×Zc)}{c:Zc→Zw}(X:Tl I H aH c Y Y' h){p:Zj×Zd Zj}
include X
theorem Hr{f:AV→AV}(hf:∀a,RV Y Y' h a (f a))(o:Zd AV):Ro (RV Y Y' h) o (aa o none λv=>some (f v)):=by
 cases o with
 |none=>exact rfl
 |some v=>exact⟨_,rfl,hf v⟩
theorem Ks{j:Zc}{xs:Zb AV}(x:eU Y h p xs):RO Y' h p (aa (aY j I.bg) (.list (ag (bL I H aH 7) xs)) λr=>ae (Zl (Zn (aJ xs) (Yd 200 r)) 18000) (.iG r (aJ xs) (nat_lit 0)) (.list (ag (bL I H aH 7) xs))):=by
 have l0:eU Y' h p (ag (bL I H aH 7) xs):=eU.p2 (P2.map _ (nE X 7) xs) x
 cases aY j I.bg with
 |none=>exact l0
 |some r=>
  show RO Y' h p (ae (Zl (Zn (aJ xs) (Yd 200 r)) 18000) (.iG r (aJ xs) (nat_lit 0)) (.list (ag (bL I H aH 7) xs)))
  cases g:Zl (Zn (aJ xs) (Yd 200 r)) 18000 with
  |false=>exact l0
  |true=>exact eU.casesOn x λq hx r l=>lb.mk q hx (r.len.symm.trans (dH xs).symm) (Zm g) (Yt _)
theorem aei{r t k:Zc}(x:lb h p r t k):RO Y' h p (ae (ak (Zi I.mode 1) (Zl k 200)) (Zz (.iG r t k) (λr' _=>.iG r' (Zn t k) (nat_lit 0)) r) (.iG r t k)):=by
 cases g:ak (Zi I.mode 1) (Zl k 200)with
 |false=>exact x
 |true=>
  refine bA g λ_ g=>?_
  have g:=Zm g
  cases r with
  |zero=>exact x
  |succ r=>exact lb.casesOn x λq hx l a b=>lb.mk q hx l (by show t+k+200*r≤18000;omega) (Yt _)
theorem Nt{j:Zc}{es:Zb (AV×AV)}(x:eB Y h p es):RO Y' h p (aa (aY j I.mp) (aa (aq (aY j I.km) λks=>ae (ak (vR es ks) (Zl (aJ ks) 1000)) (w4 (o3 I H aH c j 1000) es ks) none) (uo I H aH c es) .lI)
  λks=>aa (ae (ak (qY es ks) (Zl (aJ ks) 1000)) (w5 (bL I H aH 7) es ks) none) (uo I H aH c es) .map):=by
 have d0:eB Y' h p (ag (λp=>(p.1,wZ I H aH c p)) es):=eB.p2 X.k (P2.map (λq:AV×AV=>(q.1,wZ I H aH c q)) (λq=>⟨rfl,ajS X q⟩) es) x
 have go:∀{α:Type}(o:Zd α)(f:α→AO),(∀a,o=some a→RO Y' h p (f a))→RO Y' h p (aa o (uo I H aH c es) f):=λo f k=>by
  cases o with
  |none=>exact d0
  |some a=>exact k a rfl
 cases aY j I.mp with
 |none=>exact go _ _ λms e=>oN e λks _ e=>bN e λg e=>bA g λg1 g2=>XL X.k (AN X j 1000) g1 e (dH ks▸Zm g2) x
 |some ks=>exact go _ _ λms e=>bN e λg e=>bA g λg1 g2=>ZT (nE X 7) g1 e (dH ks▸Zm g2) x
theorem AL(j:Zc)(o:AO):tX o=true→RO Y h p o→RO Y' h p (rP I H aH c j o):=
 AO.casesOn (motive:=λo=>tX o=true→RO Y h p o→RO Y' h p (rP I H aH c j o)) o (λ_ fs _=>jF.p2 (P2.map (λq:Zc×AV=>(q.1,o3 I H aH c j q.1 q.2)) (λq=>⟨rfl,AN X j q.1 q.2⟩) fs)) (λ_ _ e=>aA e) (λ_ _ e=>aA e) (λxs _=>Ks X) (λes _=>Nt X)
  (λms _=>i5.p2 (P2.map (λq:Zc×Zd AV=>(q.1,aa q.2 none λv=>some (bL I H aH 7 v))) (λq=>⟨rfl,Hr X (nE X 7) q.2⟩) ms)) (λms _=>iK.p2 X.k (P2.map (λq:(Zc×Zc)×AV=>(q.1,o3 I H aH c j 1000 q.2)) (λq=>⟨rfl,AN X j 1000 q.2⟩) ms)) (λ_ _ _ _=>aei X) (λv _=>lg.p2 (Hr X (nE X 7) v)) (λ_=>jG.p2 X.k)
theorem ZC(o:AO):eF I o=true→RO Y h p o→RO Y' h p o:=
 have lv:∀{K:Type}(q:K×AV),ei I q.2=true→Rk (RV Y Y' h) q q:=λq e=>⟨rfl,vV X q.2 e⟩
 have lo:∀(o:Zd AV),aa o true (ei I)=true→Ro (RV Y Y' h) o o:=λo e=>by
  cases o with
  |none=>exact rfl
  |some v=>exact⟨v,rfl,vV X v e⟩
 AO.casesOn (motive:=λo=>eF I o=true→RO Y h p o→RO Y' h p o) o (λ_ _ e=>jF.p2 (P2.same e lv)) (λ_ _ e=>eC.p2 (P2.same e lv)) (λ_ _ e=>eC.p2 (P2.same e lv)) (λ_ e=>eU.p2 (P2.same e (vV X))) (λ_ e=>eB.p2 X.k (P2.same e lv))
  (λ_ e=>i5.p2 (P2.same e λq e=>⟨rfl,lo q.2 e⟩)) (λ_ e=>iK.p2 X.k (P2.same e lv)) (λ_ _ _ _ x=>x) (λv e=>lg.p2 (lo v e)) (λ_=>jG.p2 X.k)
end
end Mine
namespace Mine
theorem adI{α:Type}{t:Tr α}{n:Zc}(d:c8 t n):∀m,m≤n→c8 (prune t m) m∧∀i,i<m→(prune t m).get i=t.get i:=by
 have ev:∀(a:Zc),(2*a+1)/2=a∧(2*a)/2=a:=λa=>⟨(qR a).1,T5 a z2⟩
 have od:∀(a:Zc),(2*a+2)/2=a+1∧(2*a+1)/2=a:=λa=>⟨T5 (a+1) z2,(qR a).1⟩
 have nd:∀{v:α}{l r:Tr α}{m':Zc},prune (.node v l r) (m'+1)=.node v (prune l ((m'+1)/2)) (prune r (m'/2)):=rfl
 have zero:∀{t:Tr α},c8 (prune t 0) 0∧∀i,i<0→(prune t 0).get i=t.get i:=λ{t}=>⟨by cases t<;>exact .nil,λi h=>Y8 h (Ue i)⟩
 induction d with
 |nil=>exactλm h=>Nat.le_zero.mp h▸zero
 |e dl dr il ir=>
  refine idx (λ_=>zero) (λa h=>?_) λa h=>?_
  ·rw[nd,(ev a).1,(ev a).2]
   have l:=il a (jd.1 h)
   have r:=ir a (jd.1 h)
   exact⟨.e l.1 r.1,idx (λ_=>rfl) (λj q=>by rw[gr,gr];exact l.2 j (f9.1.mp q)) λj q=>by rw[gq,gq];exact r.2 j (f9.2.1.mp q)⟩
  ·rw[nd,(od a).1,(od a).2]
   have l:=il (a+1) (f9.1.mp h)
   have r:=ir a (Xi (f9.1.mp h))
   exact⟨.o l.1 r.1,idx (λ_=>rfl) (λj q=>by rw[gr,gr];exact l.2 j (f9.2.2.1.mp q)) λj q=>by rw[gq,gq];exact r.2 j (f9.2.2.2.mp q)⟩
 |o dl dr il ir=>
  refine idx (λ_=>zero) (λa h=>?_) λa h=>?_
  ·rw[nd,(ev a).1,(ev a).2]
   have l:=il a (jd.2.2.1 h)
   have r:=ir a (Ph (f9.1.mp (Xm h)))
   exact⟨.e l.1 r.1,idx (λ_=>rfl) (λj q=>by rw[gr,gr];exact l.2 j (f9.1.mp q)) λj q=>by rw[gq,gq];exact r.2 j (f9.2.1.mp q)⟩
  ·rw[nd,(od a).1,(od a).2]
   have l:=il (a+1) (X8 (jd.2.2.2 h))
   have r:=ir a (jd.2.2.2 h)
   exact⟨.o l.1 r.1,idx (λ_=>rfl) (λj q=>by rw[gr,gr];exact l.2 j (f9.2.2.1.mp q)) λj q=>by rw[gq,gq];exact r.2 j (f9.2.2.2.mp q)⟩
theorem Gq{F:Zc→AO→AO}{g:Zc→Zd AO}{n:Zc}{ps:Zb (Zc×Zc)}:∀{t:Tr AO},c8 t n→(∀p∈ps,p.2<n)→(ps.map (·.2)).Nodup→c8 (mV F g ps t) n∧(∀p∈ps,∀o,g p.1=some o→(mV F g ps t).get p.2=some (F p.1 o))∧∀i,i∉ps.map (·.2)→(mV F g ps t).get i=t.get i:=by
 induction ps with
 |nil=>exactλd _ _=>⟨d,λ_ h=>(nomatch h),λ_ _=>rfl⟩
 |cons p r ih=>
  intro t d h nd
  have h:=List.forall_mem_cons.mp h
  have nd:=List.nodup_cons.mp nd
  show c8 (mV F g r (aa (g p.1) t λo=>t.ins p.2 (F p.1 o))) n∧(∀q∈p::r,∀o,g q.1=some o→(mV F g r (aa (g p.1) t λo=>t.ins p.2 (F p.1 o))).get q.2=_)∧∀i,_→(mV F g r (aa (g p.1) t λo=>t.ins p.2 (F p.1 o))).get i=_
  cases e:g p.1 with
  |none=>
   obtain⟨a,b,k⟩:=ih d h.2 nd.2
   exact⟨a,List.forall_mem_cons.mpr ⟨λo q=>aF (e.symm.trans q),b⟩,λi q=>k i λz=>q (.tail _ z)⟩
  |some o=>
   obtain⟨a,b,k⟩:=ih (d.set (o:=F p.1 o) p.2 h.1) h.2 nd.2
   exact⟨a,List.forall_mem_cons.mpr ⟨λo' q=>Za (e.symm.trans q)▸(k p.2 nd.1).trans (d.self p.2 (Xi h.1)),b⟩,λi q=>(k i λz=>q (.tail _ z)).trans (d.ne p.2 (Xi h.1) i λz=>q (z▸.head _))⟩
theorem UO{k:Zc}{l:Zb Zc}(e:aK k l=true):k∈l:=by
 induction l with
 |nil=>exact aA e
 |cons j l ih=>
  rw[vr]at e
  exact(Bool.or_eq_true_iff.mp e).elim (λz=>Zr z▸.head _) λz=>.tail _ (ih z)
theorem aax{k:Zc}{l:Zb Zc}(e:aK k l=false):k∉l:=by
 induction l with
 |nil=>exactλh=>nomatch h
 |cons j l ih=>
  rw[vr]at e
  have e:=Bool.or_eq_false_iff.mp e
  exactλh=>(List.mem_cons.mp h).elim (λz=>by rw[z,Wu]at e;exact aA e.1.symm) (ih e.2)
theorem G7{l:Zb Zc}(e:wn l=true):l.Nodup:=by
 induction l with
 |nil=>exact .nil
 |cons x r ih=>exact bA (a:=ay (aK x r)) (b:=wn r) e λa b=>List.nodup_cons.mpr ⟨aax (eG a),ih b⟩
theorem HQ{sel:Zb Zc}:∀{N:Zc},(gA N sel).map (·.2)=List.range' N sel.length:=by
 induction sel with
 |nil=>exact rfl
 |cons i r ih=>exactλ{N}=>Ze (N::·) (ih (N:=N+1))
theorem ad9{sel:Zb Zc}{i k:Zc}:∀{N:Zc},aY i (gA N sel)=some k→∃j,k=N+j∧sel[j]?=some i:=by
 induction sel with
 |nil=>exactλe=>aF e
 |cons x r ih=>
  intro N e
  rw[show aY i (gA N (x::r))=_ from jT i x N (gA (N+1) r)]at e
  by_cases q:i=x
  ·rw[if_pos q]at e;exact⟨0,(Za e).symm,Ze some q.symm⟩
  ·rw[if_neg q]at e
   obtain⟨j,e1,e2⟩:=ih e
   exact⟨j+1,e1.trans (Vq N j),e2⟩
theorem aeb{sel:Zb Zc}{i:Zc}:∀{N:Zc},aY i (gA N sel)=none→i∉sel:=by
 induction sel with
 |nil=>exactλ_ h=>nomatch h
 |cons x r ih=>
  intro N e
  rw[show aY i (gA N (x::r))=_ from jT i x N (gA (N+1) r)]at e
  by_cases q:i=x
  ·rw[if_pos q]at e;exact nomatch e
  ·rw[if_neg q]at e;exactλh=>(List.mem_cons.mp h).elim q (ih e)
theorem aea{sel:Zb Zc}{j i:Zc}(e:sel[j]?=some i):∀{N:Zc},(i,N+j)∈gA N sel:=by
 induction sel generalizing j with
 |nil=>exact nomatch e
 |cons x r ih=>
  intro N
  cases j with
  |zero=>rw[←Za e];exact .head _
  |succ j=>exact .tail _ ((Vq N j)▸ih (j:=j) e (N:=N+1))
structure Chk0(I:aO)(H:AH)(ev:Ev)(fm:Fm):Prop where
 le:I.N≤H.size
 sel:∀i∈I.sel,I.N≤i∧∃o,H.get i=some o∧tX o=true
 nd:I.sel.Nodup
 ndt:I.aR.Nodup
 aR:∀j∈I.aR,j<I.N∧∃o,H.get j=some o∧tX o=true
 n0:ev.n0≤I.N
 hold:aM (ei I) ev.hold=true
 cells:∀i∈fm.cells,i<I.N
structure kZ(I:aO)(H:AH)(ev:Ev)(fm:Fm):Prop extends Chk0 I H ev fm where
 low:∀j,j<I.N→j∈I.aR∨∃o,H.get j=some o∧eF I o=true
theorem ZB{I:aO}{H:AH}{n:Zc}(e:eE I H n=true):∀j,j<n→j∈I.aR∨∃o,H.get j=some o∧eF I o=true:=by
 induction n with
 |zero=>exactλj h=>Y8 h (Ue j)
 |succ n ih=>exact bA (a:=eE I H n) e λa b j h=>(Nat.lt_succ_iff_lt_or_eq.mp h).elim (ih a j) λq=>q▸bO b (λb=>.inl (UO b)) λb=>oT b λo ho b=>.inr ⟨o,ho,b⟩
theorem Lx{I:aO}{H:AH}{ev:Ev}{fm:Fm}(e:cI I H ev fm=true):Chk0 I H ev fm:=
 bA e λh1 e=>bA e λh2 e=>bA e λh3 e=>bA e λh4 e=>bA e λh5 e=>bA e λh6 e=>bA e λh7 h8=>
  ⟨Zm h1,λi hi=>bA (mm h2 i hi) λa b=>⟨Zm a,oT b λo ho b=>⟨o,ho,b⟩⟩,G7 h3,G7 h4,λj hj=>bA (mm h5 j hj) λa b=>⟨Zm a,oT b λo ho b=>⟨o,ho,b⟩⟩,Zm h6,h7,λi hi=>Zm (mm h8 i hi)⟩
structure Jq(I:aO)(H H':AH)(F:Zc→AO→AO):Prop where
 size:H'.size=I.N+I.sel.length
 dn:c8 H'.t H'.size
 tr:∀j o,j∈I.aR→H.get j=some o→H'.get j=some (F j o)
 low:∀j,j<I.N→j∉I.aR→H'.get j=H.get j
 sel:∀k i o,I.sel[k]?=some i→H.get i=some o→H'.get (I.N+k)=some (F i o)
theorem DQ{I:aO}{H:AH}{ev:Ev}{fm:Fm}(C:Chk0 I H ev fm)(dn:c8 H.t H.size)(c:Zc→Zw):Jq I H (cC I H c) (rP I H (gA I.N I.sel) c):=by
 let F:=rP I H (gA I.N I.sel) c
 have l1:I.N+I.sel.length≤H.size:=by
  have z:=zP (m:=List.range' I.N (H.size-I.N)) C.nd λi hi=>by
   obtain⟨a,o,b,_⟩:=C.sel i hi
   have lt:=(dn.x7 i).mpr ⟨o,b⟩
   exact List.mem_range'_1.mpr ⟨a,by rw[Vl C.le];exact lt⟩
  rw[List.length_range']at z
  exact Zu (Yp z _) (Xb (Vl C.le))
 have m1:(ag (λj=>(j,j)) I.aR).map (·.2)=I.aR:=by rw[lJ,Sj];exact Qm _
 obtain⟨d1,t1,n1⟩:=Gq (F:=F) (g:=H.get) (ps:=ag (λj=>(j,j)) I.aR) dn (λp hp=>by
  have z:=Vn (f:=(·.2)) hp
  rw[m1]at z
  exact X7 (C.aR _ z).1 C.le) (m1.symm▸C.ndt)
 have rg:∀{i},i∈(gA I.N I.sel).map (·.2)→I.N≤i∧i<I.N+I.sel.length:=λh=>List.mem_range'_1.mp (HQ▸h)
 obtain⟨d2,t2,n2⟩:=Gq (F:=F) (g:=H.get) (ps:=gA I.N I.sel) d1 (λp hp=>X7 (rg (Vn (f:=(·.2)) hp)).2 l1) (HQ▸List.nodup_range')
 obtain⟨d3,g3⟩:=adI d2 (I.N+aJ I.sel) (dH I.sel▸l1)
 have lt:∀{i},i<I.N→i<I.N+aJ I.sel:=λh=>X7 h (Xu _ _)
 have lo:∀{i},i<I.N→(cC I H c).get i=(mV F H.get (ag (λj=>(j,j)) I.aR) H.t).get i:=λh=>(g3 _ (lt h)).trans (n2 _ λz=>Nat.not_lt.mpr (rg z).1 h)
 refine⟨Ze (I.N+·) (dH I.sel),d3,λj o hj ho=>(lo (C.aR j hj).1).trans (t1 (j,j) (by rw[lJ];exact List.mem_map.mpr ⟨j,hj,rfl⟩) o ho),λj hj nj=>(lo hj).trans (n1 j (m1.symm▸nj)),λk i o hk ho=>?_⟩
 have lk:=(List.getElem?_eq_some_iff.mp hk).1
 exact(g3 _ (Nat.add_lt_add_left (dH I.sel▸lk) _)).trans (t2 _ (aea hk) o ho)
theorem Lw{I:aO}{H:AH}{ev:Ev}{fm:Fm}(C:Chk0 I H ev fm)(dn:c8 H.t H.size)(lo:eE I (cC I H I.c) I.N=true):kZ I H ev fm:=
 ⟨C,λj h=>if q:j∈I.aR then .inl q else(ZB lo j h).elim .inl λz=>z.elim λo z=>.inr ⟨o,((DQ C dn I.c).low j h q).symm.trans z.1,z.2⟩⟩
end Mine
namespace Mine
def aO.og(I:aO)(i:Zc):Zd Zc:=ae (Zl (Zk i) I.N) (some i) (aB I.sel (i-I.N))
def aO.gone(I:aO)(Y:Ly)(a:Zj):Prop:=∃i p,I.N≤i∧i∉I.sel∧Y.ρ i=some p∧bV p a
def aO.AE(I:aO)(τ kX:Zc→Zw):Zc→Zw:=ae I.live (λp=>ae (I.tv p) (τ p+1) (τ p)) (ae (Zi I.mode 2) I.c kX)
def aO.ly(I:aO)(Y:Ly)(kX:Zc→Zw):Ly:=⟨λi=>aq (I.og i) Y.ρ,I.AE Y.τ kX,λa=>Y.Mu a∧¬I.gone Y a,Y.ar⟩
section
variable{I:aO}{ev:Ev}{fm:Fm}{W W0:Wd}(C:kZ I W.H ev fm){i k:Zc}{p:Zj×Zd Zj}{a:Zj}
theorem tV(h:i<I.N):I.og i=some i:=by unfold aO.og;rw[U3 h];rfl
theorem zY(h:I.N≤i):I.og i=aB I.sel (i-I.N):=by
 unfold aO.og
 cases q:Zl (Zk i) I.N with
 |true=>exact Y8 (Zm q) (Nat.not_le.mpr (Xm h))
 |false=>rfl
include C
theorem kZ.og(e:I.og i=some k):(i<I.N∧k=i)∨(I.N≤i∧I.N≤k∧I.sel[i-I.N]?=some k):=by
 by_cases h:i<I.N
 ·rw[tV h]at e;exact .inl ⟨h,(Za e).symm⟩
 ·have h:=Vg h
  rw[zY h,fY]at e
  exact .inr ⟨h,(C.sel k (Yr e)).1,e⟩
theorem kZ.kept(e:I.og i=some k):¬(I.N≤k∧k∉I.sel):=λz=>(C.og e).elim (λw=>Nat.not_lt.mpr z.1 (w.2▸w.1)) λw=>z.2 (Yr w.2.2)
theorem kZ.inj{j:Zc}(e:I.og i=some k)(e':I.og j=some k):i=j:=by
 rcases C.og e with⟨a,b⟩|⟨a,b,d⟩
 ·rcases C.og e' with⟨a',b'⟩|⟨a',b',d'⟩
  ·exact b.symm.trans b'
  ·exact Y8 (b▸a) (Nat.not_lt.mpr b')
 ·rcases C.og e' with⟨a',b'⟩|⟨a',b',d'⟩
  ·exact Y8 (b'▸a') (Nat.not_lt.mpr b)
  ·have z:=(Pj (List.getElem?_eq_some_iff.mp d).1 C.nd).mp (d.trans d'.symm)
   rw[←Wh a,z,Wh a']
theorem kZ.foot{kX:Zc→Zw}:(I.ly W.Y kX).foot a→W.Y.foot a∧¬I.gone W.Y a:=λx=>x.casesOn λ{i p} e f=>oN e λk h e=>⟨.mk e f,λz=>z.elim λj z=>z.elim λq z=>C.kept h ((W.R.inj e z.2.2.1 f z.2.2.2)▸⟨z.1,z.2.1⟩)⟩
theorem kZ.aH(e:f6 I (gA I.N I.sel) i=some k):I.og k=some i:=by
 unfold f6 at e
 cases q:Zl (Zk i) I.N with
 |true=>
  rw[q]at e
  exact(Za (show some i=some k from e))▸tV (Zm q)
 |false=>
  rw[q]at e
  obtain⟨j,e1,e2⟩:=ad9 e
  rw[e1,zY (Xu _ _),Rw,fY];exact e2
theorem kZ.tl(kX:Zc→Zw)(c:Zc→Zw)(hc:I.mode=2→c=I.c):Tl I W.H (gA I.N I.sel) c W.Y (I.ly W.Y kX) W.h where
 id i k p e hp:=by
  show aq (I.og k) W.Y.ρ=some p
  rw[C.aH e];exact hp
 mu a q:=q.1
 fz i p a e hp f q:=q.2 ⟨i,p,by
  unfold f6 at e
  cases z:Zl (Zk i) I.N with
  |true=>rw[z]at e;exact nomatch e
  |false=>
   rw[z]at e
   exact⟨Vg λlt=>aA (z.symm.trans (U3 lt)),aeb e,hp,f⟩⟩
 τ l p:=by
  show ae I.live (λp=>ae (I.tv p) (W.Y.τ p+1) (W.Y.τ p)) _ p=_
  rw[l];rfl
 c m:=by
  show ae I.live _ (ae (Zi I.mode 2) I.c kX)=c
  unfold aO.live
  rw[m];exact(hc m).symm
 ro i p o e hp:=W.R.obj i o p e hp
theorem kZ.rep(kX:Zc→Zw):Rep (I.ly W.Y kX) (cC I W.H I.c) W.h:=
 have K:=DQ C.toChk0 W.R.dg I.c
 have X:=C.tl kX I.c λ_=>rfl
 {len:=λi=>by
   show _↔∃p,aq (I.og i) W.Y.ρ=some p
   rw[K.size]
   by_cases h:i<I.N
   ·rw[tV h];exact⟨λ_=>(W.R.len i).mp (X7 h C.le),λ_=>X7 h (Xu _ _)⟩
   ·have h:=Vg h
    rw[zY h,fY]
    refine⟨λlt=>?_,λz=>z.elim λp e=>oN e λk hk _=>?_⟩
    ·have z:=Ww ((Q1 h).mpr lt)
     obtain⟨_,o,ho,_⟩:=C.sel _ (Yr z)
     rw[z];exact(W.R.len _).mp ((W.R.dg.x7 _).mpr ⟨o,ho⟩)
    ·exact(Q1 h).mp (List.getElem?_eq_some_iff.mp hk).1
  dg:=K.dn
  obj:=λi o p ho VN=>oN VN λk hk hp=>by
   rcases C.og hk with⟨a,b⟩|⟨a,b,d⟩
   ·subst b
    rcases C.low k a with t|⟨o',h1,h2⟩
    ·obtain⟨_,o',h1,h2⟩:=C.aR k t
     exact Za ((K.tr k o' t h1).symm.trans ho)▸AL X k o' h2 (W.R.obj k o' p h1 hp)
    ·by_cases t:k∈I.aR
     ·obtain⟨_,o',h1,h2⟩:=C.aR k t
      exact Za ((K.tr k o' t h1).symm.trans ho)▸AL X k o' h2 (W.R.obj k o' p h1 hp)
     ·exact Za (h1.symm.trans ((K.low k a t).symm.trans ho))▸ZC X o' h2 (W.R.obj k o' p h1 hp)
   ·obtain⟨_,o',h1,h2⟩:=C.sel k (Yr d)
    have z:=K.sel _ k o' d h1
    rw[Vl a]at z
    exact Za (z.symm.trans ho)▸AL X k o' h2 (W.R.obj k o' p h1 hp)
  inj:=λ{i j p q a} hp hq f g=>oN hp λk hk hp=>oN hq λk' yw hq=>C.inj hk (W.R.inj hp hq f g▸yw)
  sub:=λa q=>⟨W.R.sub a (C.foot q).1,(C.foot q).2⟩
  apart:=λa q=>W.R.apart a (C.foot q).1
  eg:=λa q=>⟨W.R.eg a q,λz=>z.elim λi z=>z.elim λp z=>W.R.apart a (.mk z.2.2.1 z.2.2.2) q⟩
  new:=λa q=>W.R.new a q.1
  there:=λa q=>W.R.there a q.1
  base:=W.R.base}
theorem kZ.lo{K K':Prop}{own:Zj→Prop}(n0:W0.H.size≤I.N)(x:Lo K own W0 W)(t:K'→I.AE W.Y.τ W0.Y.τ=W0.Y.τ):Lo K' own W0 ⟨I.ly W.Y W0.Y.τ,W.s,cC I W.H I.c,C.rep W0.Y.τ⟩where
 st:={
  τ:=rfl
  ar:=x.st.ar
  ids:=λi p e=>by
   have lt:=X7 ((W0.R.len i).mpr ⟨p,e⟩) n0
   show∃q,aq (I.og i) W.Y.ρ=some (p.1,q)∧_
   rw[tV lt];exact x.st.ids i p e
  mu:=λa q=>⟨x.st.mu a q,λz=>z.elim λi z=>z.elim λp z=>(x.st.ft a (.mk z.2.2.1 z.2.2.2)).elim (λf=>f.casesOn λ{j q'} e f=>by
   obtain⟨q2,e2,r⟩:=x.st.ids j q' e
   have f2:bV (q'.1,q2) a:=f.casesOn (λe=>bV.x (p:=(q'.1,q2)) e) λd=>.d (r.elim (λr=>aF (r.symm.trans d)) λr=>r.trans d)
   exact Nat.not_lt.mpr z.1 (W.R.inj e2 z.2.2.1 f2 z.2.2.2▸X7 ((W0.R.len j).mpr ⟨_,e⟩) n0)) λf=>(W0.R.there a q).elim λ_ e=>iX f e⟩
  fX:=λa q=>x.st.fX a q.1
  ft:=λa q=>x.st.ft a (C.foot q).1
  keep:=x.st.keep
  dy:=x.st.dy
  c7:=x.st.c7
  ow:=x.st.ow}
 t:=t
 re:=x.re
 pv a q:=
  have z:=x.pv a q
  ⟨⟨z.1,λw=>w.elim λi w=>w.elim λp w=>z.2 (.mk w.2.2.1 w.2.2.2)⟩,λw=>z.2 (C.foot w).1⟩
end
def gX(Y Y':Ly)(h:Yc)(l m:Zb AV):Prop:=∀i v,aB m i=some v→isAny v=false→∃v0,aB l i=some v0∧isAny v0=false∧RV Y Y' h v0 v
theorem gX.trans{Y Y':Ly}{h:Yc}{l m k:Zb AV}(x:gX Y Y h l m)(y:gX Y Y' h m k):gX Y Y' h l k:=λi v e n=>(y i v e n).elim λv1 z=>(x i v1 z.1 z.2.1).elim λv0 w=>⟨v0,w.1,w.2.1,λu a=>z.2.2 u (w.2.2 u a)⟩
theorem gX.map{Y Y':Ly}{h:Yc}{f:AV→AV}(l:Zb AV)(fa:f .any=.any)(k:∀a,RV Y Y' h a (f a)):gX Y Y' h l (ag f l):=λi v e n=>by
 rw[fY,lJ,Xc]at e
 obtain⟨v0,h1,h2⟩:=Option.map_eq_some_iff.mp e
 subst h2
 refine⟨v0,(fY l i).trans h1,?_,k v0⟩
 cases q:isAny v0 with
 |false=>rfl
 |true=>rw[yG q,fa]at n;exact aA n.symm
theorem gX.cut{Y:Ly}{h:Yc}(q:Zb (Zc×Zc)):∀l,gX Y Y h l (DO q l):=by
 induction q with
 |nil=>exactλl i v e n=>⟨v,e,n,λ_ z=>z⟩
 |cons p r ih=>
  intro l
  refine gX.trans ?_ (ih _)
  show gX Y Y h l (aa (aq (aq (aB l p.1) mY) λn=>some (.md p.2 (V9 n p.2))) l λv=>nB l v p.1)
  cases hq:aq (aq (aB l p.1) mY) λn=>some (AV.md p.2 (V9 n p.2))with
  |none=>exactλi v e n=>⟨v,e,n,λ_ z=>z⟩
  |some w=>
   refine oN hq λn hn ew=>oN hn λv0 h0 hn=>λi v e nv=>?_
   have e:aB (nB l w p.1) i=some v:=e
   rw[fY,pW]at e
   by_cases z:i=p.1
   ·subst z
    have lt:=(List.getElem?_eq_some_iff.mp e).1
    rw[Sz]at lt
    rw[Q3 lt]at e
    refine⟨v0,h0,?_,λu ru=>?_⟩
    ·cases qa:isAny v0 with
     |false=>rfl
     |true=>rw[yG qa]at hn;exact aF hn
    ·obtain⟨t,et⟩:=zF ru hn
     rw[←Za e,←Za ew]
     exact⟨_,t,et,X0 n,rfl⟩
   ·rw[Qn (Ve z)]at e
    exact⟨v,(fY l i).trans e,nv,λ_ z=>z⟩
theorem gX.keep{Y:Ly}{h:Yc}(p:Zc→Zh)(l:Zb AV):gX Y Y h l (tD p l 0):=by
 have z:∀(l:Zb AV)(k i:Zc)(v:AV),aB (tD p l k) i=some v→isAny v=false→aB l i=some v:=by
  intro l
  induction l with
  |nil=>exactλ_ _ _ e _=>aF e
  |cons a l ih=>
   intro k i v e n
   cases i with
   |zero=>
    have e:some (ae (p k) a .any)=some v:=e
    rw[←Za e]at n⊢
    cases q:p k with
    |true=>rfl
    |false=>rw[q]at n;exact aA n.symm
   |succ i=>exact ih (k+1) i v e n
 exactλi v e n=>⟨v,z l 0 i v e n,n,λ_ q=>q⟩
theorem afo{n:Zc}{cx:aQ}{X:Sx}{fm:Fm}{W:Wd}{I:aO}(g:i7 n X)(a:Sa cx X fm W){r:SR}(hr:nY I X.ev fm W.H=r)(hb:r≠.bad):∃fm' W',r=.nx fm' W'.H∧W'.s=W.s∧Sa cx X fm' W':=by
 refine bS hr hb λh1 hr=>bS hr hb λh2 hr=>?_
 have C:=Lw (Lx h1) W.R.dg h2
 have X1:=C.tl X.W0.Y.τ I.c λ_=>rfl
 have n0:X.W0.H.size≤I.N:=g.n0▸C.n0
 refine⟨dC I W.H fm,⟨I.ly W.Y X.W0.Y.τ,W.s,cC I W.H I.c,C.rep X.W0.Y.τ⟩,hr.symm,rfl,?_⟩
 refine⟨⟨a.a.depth,a.a.units,a.a.hand,a.a.stack,λenv he=>have z:=a.a.iR env he;⟨z.kind,z.fr,z.frame,z.new,z.ns⟩⟩,?_,C.lo n0 a.lo λt=>?_,Vs.p2 (P2.same C.hold (vV X1)) _ a.hv,λh=>have z:=a.a9 h;⟨z.own,z.ne,z.fr,z.g⟩⟩
 ·obtain⟨m,ns,z⟩:=a.f.fr
  refine⟨a.f.st,λj x e=>?_,⟨m,ns,λi x v e1 e2 e3=>?_⟩,a.f.ju⟩
  ·obtain⟨e1,e2,e3⟩:=a.f.e9 j x e
   rename_i i p
   have lt:=C.cells i (Yr ((fY _ _).symm.trans e1))
   refine .mk (p:=p) e1 ?_ e3
   show aq (I.og i) W.Y.ρ=some p
   rw[tV lt];exact e2
  ·obtain⟨v0,h3,h4,h5⟩:=(gX.trans (gX.trans (gX.cut I.lm fm.vars) (gX.keep I.kp _)) (gX.map _ rfl (nE X1 7))) i v e2 e3
   exact(z i x v0 e1 h3 h4).elim λu w=>⟨u,w.1,h5 u w.2⟩
 ·have t:(Zp (Zp true false (Zi I.mode 3)) fm.tn (Zi I.mode 0):Zh)=false:=t
  unfold aO.AE aO.live
  cases q0:Zi I.mode 0 with
  |true=>
   rw[q0]at t
   have m0:=Zr q0
   have tv:∀p,I.tv p=false:=λp=>by unfold aO.tv;rw[m0];rfl
   rw[m0]
   show(λp=>ae (I.tv p) (W.Y.τ p+1) (W.Y.τ p))=_
   rw[←a.lo.t t]
   exact funext λp=>by rw[tv p];rfl
  |false=>
   rw[q0]at t
   cases q3:Zi I.mode 3 with
   |false=>rw[q3]at t;exact aA t.symm
   |true=>rw[Zr q3];rfl
theorem aiS{n:Zc}{cx:aQ}{ss:Zb Stmt}{j:Zc}{ms:Ev→SM}(js:fC n cx ss ms):fC n cx ss (λev fm h=>SR.rec (λfm h=>ms ev fm h) .rt .ex .bad ((aa (T.S.hook j fm h) (.nx fm h) λI=>nY I ev fm h:SR))):=
 aiR (m:=λev fm h=>aa (T.S.hook j fm h) (.nx fm h) λI=>nY I ev fm h) (λ{X fm W} g a{r} hr hb=>by
  have hr:aa (T.S.hook j fm W.H) (.nx fm W.H) (λI=>nY I X.ev fm W.H)=r:=hr
  cases q:T.S.hook j fm W.H with
  |none=>rw[q]at hr;exact⟨fm,W,hr.symm,rfl,a⟩
  |some I=>rw[q]at hr;exact afo g a hr hb) js
end Mine
namespace Mine
def yb(S:SE)(c:bc)(hd:Zh)(l:Zb CE):Zb (Fm→AM AV):=
 CE.rec_1 (motive_1:=λ_=>Fm→AM AV) (motive_2:=λ_=>Zb (Fm→AM AV))
  tK (λk=>vX S k) (λi fm=>gP fm i) (λi fm=>xS fm i) (λ_ a io=>tH a io) (λu _ _ ie l=>oH pZ u l ie) (λop _ _=>y9 S op) (λ_=>zg) (λ_=>zh) (λ_ _ _=>vY)
  (λ_ l=>zb (Zo dI (λm _=>dQ m) l)) (λ_ l=>zd (Zo dI (λm _=>dQ m) l)) (λ_ l=>zl (Zo dI (λm _=>dQ m) l)) (λ_ _=>zm S) (λop _ _=>tI S op) (λo1 o2 _ _ _=>tJ S o1 o2)
  (λ_ _ f l=>za c hd f (Zo dI (λm _=>dQ m) l)) (λ_ m _ o l=>ze S c hd m o (Zo dI (λm _=>dQ m) l)) (λ_ _=>zc S) (λ_=>zi S)
  (λ_ e nW cl ii ie l=>vW S hd (pureE e nW) cl ii ie (Zo dI (λm _=>dQ m) l)) (λ_=>zk) (λ_=>zj) (λu _ _ ie l=>oH bK u l ie) [] (λ_ _ m l=>m::l) l
structure BL where
 ks:Zb PE
 n:Zc
 t:Zc
 x:Zd Str
 s:Zd Wq
def WN(ks:Zb (Zd PE))(vs:Zb PE):Zb PE:=Zo (motive:=λ_=>Zb PE→Zb PE) (λ_=>[]) (λk _ ih vs=>aa k [] λk=>Zo [] (λv r _=>k::v::ih r) vs) ks vs
def isAt(e:PE):Zh:=P5 (motive_1:=λ_=>Zh) e (λ_ _ _=>false) (λ_ _ _=>false) (λ_ _ _ _=>false) (λ_ _ _=>false) (λ_ _ _ _=>false) (λ_ _ _ _=>false) (λ_ _ _=>false) (λ_ _ _=>false) (λ_ _ _ _=>false) (λ_ _ _ _=>false) (λ_ _ _ _ _=>false) (λ_ _ _ _=>false) (λ_ _=>false) (λ_ _=>false) (λ_ _=>false) (λ_ _ _ _=>false) (λ_ _ _ _=>false) (λ_ _ _ _=>false) (λ_ _=>false) (λ_ _ _=>false) (λ_ _ _=>true) (λ_ _ _=>false) (λ_ _=>false) (λ_ _=>false) (λ_ _=>false) (λ_ _ _=>false) (λ_ _ _ _=>false)
def dF(e:PE):BL:=P5 (motive_1:=λ_=>BL) e (λ_ vs _=>⟨vs,0,0,none,none⟩) (λ_ _ _=>⟨[],0,99,none,none⟩) (λl _ r _=>⟨[l,r],0,20,none,none⟩) (λ_ x _=>⟨[x],0,1,none,none⟩) (λ_ _ _ _=>⟨[],0,99,none,none⟩) (λt b o _=>⟨[t,b,o],0,2,none,none⟩) (λks vs _=>⟨WN ks vs,0,20,none,none⟩) (λ_ _ _=>⟨[],0,99,none,none⟩)
 (λe gs s _=>⟨e::Zo [] (λg _ _=>g.target::g.iter::g.ifs) gs,0,8,none,some s⟩) (λ_ _ _ _=>⟨[],0,99,none,none⟩) (λ_ _ _ _ _=>⟨[],0,99,none,none⟩) (λ_ _ _ _=>⟨[],0,99,none,none⟩) (λ_ _=>⟨[],0,99,none,none⟩) (λ_ _=>⟨[],0,99,none,none⟩) (λ_ _=>⟨[],0,99,none,none⟩) (λl _ rs _=>⟨l::rs,0,3,none,none⟩) (λf as _ _=>⟨f::as,0,Zp 11 20 (isAt f),none,none⟩)
 (λ_ _ _ _=>⟨[],0,99,none,none⟩) (λ_ _=>⟨[],0,99,none,none⟩) (λ_ k _=>⟨[],k,20,none,none⟩) (λv _ _=>⟨[v],0,5,none,none⟩) (λv s _=>⟨[v,s],0,20,none,none⟩) (λv _=>⟨[v],0,4,none,none⟩) (λx _=>⟨[],0,12,some x,none⟩) (λes _=>⟨es,0,10,none,none⟩) (λes k _=>⟨es,k,9,none,none⟩) (λl h s _=>⟨aD l.toList (aD h.toList s.toList),0,6,none,none⟩)
def kids(e:PE):Zb PE:=(dF e).ks
def mA(e:PE):Zc:=(dF e).n
def idOf(e:PE):Zd Str:=(dF e).x
def afP(e:PE):Zd Wq:=(dF e).s
def mS(k:Zc)(e:PE):Zh:=Zi (dF e).t k
def fq(k:Zc)(e:PE):Zh:=ak (Zl (dF e).t 50) (ay (Zi (dF e).t k))
structure BN(e:PE):Prop where
 base:ay (Zi (dF e).t 11)=true→∀(x:Str) env t,attributeBase e x env t=t
 star:ay (Zi (dF e).t 4)=true→∀env r,Xj (e::r) env=(false,eval e env)::Xj r env
 each:ay (Zi (dF e).t 4)=true→∀env r,assignEach (e::r) env=(false,assign e env)::assignEach r env
 tru:ay (Zl (dF e).t 3)=true→∀env,isTrue e env (eval e env)=(do let v←eval e env;standAt e.pos;W8 [v] (truthy v))
 sub:ay (Zi (dF e).t 6)=true→∀u w,subscripted e false u w=operate [u,w] (getItem u w)
 call:ay (Zi (dF e).t 5)=true→∀env as p,eval (.Call e as [] p) env=(do let fv←eval e env;callWith p fv [] (backTo p (Xj as env)) [])
 set:∀env x,foldedSetIterable e env x=pure x
 ID:ay (Zi (dF e).t 8)=true→∀env l,swapsWith e none l env=pure false
 aja:ay (Zi (dF e).t 8)=true→∀env l t,swapsWithSole [t] e l env=pure false
 go:ay (Zi (dF e).t 9)=true→ay (Zi (dF e).t 10)=true→∀it v,letOwnedTupleGo e it v=pure ()
theorem AJ(e:PE):Zl (dF e).t 50=true→BN e:=by
 cases e<;>first|exactλh=>aA h|skip
 case Call f as _ _=>exactλ_=>⟨by cases f<;>first|exactλh=>aA h|exactλ_ _ _ _=>rfl,λ_ _ _=>rfl,λ_ _ _=>rfl,λ_ _=>rfl,λ_ _ _=>rfl,λ_ _ _ _=>rfl,λ_ _=>rfl,λ_ _ _=>rfl,λ_ _ _ _=>rfl,λ_ _ _ _=>rfl⟩
 all_goals exactλ_=>⟨by first|exactλ_ _ _ _=>rfl|exactλh=>aA h,by first|exactλ_ _ _=>rfl|exactλh=>aA h,by first|exactλ_ _ _=>rfl|exactλh=>aA h,by first|exactλ_ _=>rfl|exactλh=>aA h,by first|exactλ_ _ _=>rfl|exactλh=>aA h,by first|exactλ_ _ _ _=>rfl|exactλh=>aA h,λ_ _=>rfl,by first|exactλ_ _ _=>rfl|exactλh=>aA h,by first|exactλ_ _ _ _=>rfl|exactλh=>aA h,by first|exactλ_ _ _ _=>rfl|exactλh _=>aA h|exactλ_ h=>aA h⟩
theorem Hw{es:Zb PE}{env:Env}(st:Xj es env=es.map λe=>(false,eval e env))(pos:Pos):∀x∈backTo pos (Xj es env),x.1=false:=λx h=>by
 unfold backTo at h
 rw[st,Sj]at h
 exact(List.mem_map.mp h).elim λe z=>z.2▸rfl
abbrev DE:=Zh→aQ→PE→PE×Zh
def aW(g:PE)(i:Zc):PE:=aa (aB (kids g) i) g λe=>e
def we(k:Zc)(g:PE)(f:Str→PE×Zh):PE×Zh:=aa (T.S.nm k) (g,false) f
def dL(l:Zb DE)(t:Zh)(cx:aQ):Zb PE→Zb PE×Zh:=Zo (λ_=>([],true)) (λd _ ih gs=>(λ(p:PE×Zh)(q:Zb PE×Zh)=>(p.1::q.1,ak (fq 4 p.1) (ak p.2 q.2))) (d t cx (Zo default (λg _ _=>g) gs)) (ih (Zo [] (λ_ r _=>r) gs))) l
def t7(l:Zb PE):Zb (PE×PE):=(Zo (motive:=λ_=>Zd PE→Zb (PE×PE)) (λ_=>[]) (λv _ ih k=>aa k (ih (some v)) λk=>(k,v)::ih none) l) none
def sW{α:Type}(l:Zb α):Zh:=Zo true (λ_ _ ih=>ay ih) l
def DI(cx:aQ)(x:Str)(sc:Wq)(cl:Zb Zc):Zh:=
 ak (sc.kind==.function) (ak (aM (λp=>ay (p.2==.cell)) sc.names) (ak (aM (λp=>aG (ay (p.2==.local)) (sc.names.lookup p.1==some .local)) sc.names) (ak ((oQ cx.cA sc.names).lookup x==some .local)
  (ak (aM (λy=>aG ((oQ cx.cA sc.names).lookup y==some .cell) ((oQ cx.cA sc.names).lookup y==some .free)) (bZ sc.names)) (ag (λc=>aB cx.cs c) cl==ag some (bZ sc.names))))))
def D4(v:AV):DE:=λt _ g=>(aa (uW v) g λk=>.Constant k (mA g) g.pos,ak (ay t) (aG (isAny v) (aT (uW v))))
def D7(k:Zc):DE:=λt cx g=>we k g λx=>(.Name x g.pos,ak (ay t) (cx.cA.lookup x==some .globalImplicit))
def pg(i:Zc):DE:=λt cx g=>aa (aB cx.ls i) (g,false) λx=>(.Name x g.pos,ak (ay t) (nk x))
def D0(j:Zc):DE:=λt cx g=>aa (aB cx.cs j) (g,false) λx=>(.Name x g.pos,ak (ay t) (nk x))
def DX(a:Zc)(io:DE):DE:=λt cx g=>we a g λx=>(λ(o:PE×Zh)=>(.Attribute o.1 x g.pos,ak (ay t) (ak (fq 11 o.1) o.2))) (io false cx (aW g 0))
def uZ(tm u:Zh)(ie:DE)(il:Zb DE):DE:=λt cx g=>(λ(p:PE×Zh)(q:Zb PE×Zh)=>(.BoolOp (rq u) (p.1::q.1) g.pos,ak (eqB t tm) (ak p.2 q.2))) (ie tm cx (aW g 0)) (dL il tm cx (pj (kids g) 1))
def DY(op:Xf)(ia ib:DE):DE:=λt cx g=>(λ(p q:PE×Zh)=>(.BinOp p.1 op q.1 g.pos,ak (ay t) (ak p.2 q.2))) (ia false cx (aW g 0)) (ib false cx (aW g 1))
def qJ(tm:Zh)(op:UnaryOp)(ia:DE):DE:=λt cx g=>(λ(p:PE×Zh)=>(.UnaryOp op p.1 g.pos,ak (eqB t tm) p.2)) (ia tm cx (aW g 0))
def D8(it ia ib:DE):DE:=λt cx g=>(λ(q p r:PE×Zh)=>(.IfExp q.1 p.1 r.1 g.pos,ak q.2 (ak p.2 r.2))) (it true cx (aW g 0)) (ia t cx (aW g 1)) (ib t cx (aW g 2))
def D5(il:Zb DE):DE:=λt cx g=>(λ(q:Zb PE×Zh)=>(.Dict ((t7 q.1).map λp=>some p.1) ((t7 q.1).map (·.2)) g.pos,ak (ay t) (ak (Zl (t7 q.1).length 15) (ak (sW q.1) q.2)))) (dL il false cx (kids g))
def dList(il:Zb DE):DE:=λt cx g=>(λ(q:Zb PE×Zh)=>(.List q.1 g.pos,ak (ay t) q.2)) (dL il false cx (kids g))
def Ee(il:Zb DE):DE:=λt cx g=>(λ(q:Zb PE×Zh)=>(.Tuple q.1 (mA g) g.pos,ak (ay t) q.2)) (dL il false cx (kids g))
def Ef(ia ib:DE):DE:=λt cx g=>(λ(p q:PE×Zh)=>(.Tuple [p.1,.Starred q.1 (aW g 1).pos] (mA g) g.pos,ak (ay t) (ak (fq 4 p.1) (ak p.2 q.2)))) (ia false cx (aW g 0)) (ib false cx (aW (aW g 1) 0))
def D1(o:CmpOp)(ia ib:DE):DE:=λ_ cx g=>(λ(p q:PE×Zh)=>(.Compare p.1 [o] [q.1] g.pos,ak (ay (lastMarks [o] [q.1])) (ak p.2 q.2))) (ia false cx (aW g 0)) (ib false cx (aW g 1))
def D2(o1 o2:CmpOp)(ia ib ic:DE):DE:=λ_ cx g=>(λ(p q r:PE×Zh)=>(.Compare p.1 [o1,o2] [q.1,r.1] g.pos,ak (ay (lastMarks [o1,o2] [q.1,r.1])) (ak p.2 (ak q.2 r.2)))) (ia false cx (aW g 0)) (ib false cx (aW g 1)) (ic false cx (aW g 2))
def DZ(ia:DE)(il:Zb DE):DE:=λt cx g=>(λ(p:PE×Zh)(q:Zb PE×Zh)=>(.Call p.1 q.1 [] g.pos,ak (ay t) (ak (fq 5 p.1) (ak p.2 q.2)))) (ia false cx (aW g 0)) (dL il false cx (pj (kids g) 1))
def Eb(a:Zc)(io:DE)(il:Zb DE):DE:=λt cx g=>we a g λx=>(λ(p:PE×Zh)(q:Zb PE×Zh)=>(.Call (.Attribute p.1 x (aW g 0).pos) q.1 [] g.pos,ak (ay t) (ak (fq 11 p.1) (ak (Zl q.1.length 28) (ak ((aW g 0).pos.endLine==g.pos.line) (ak p.2 q.2)))))) (io false cx (aW (aW g 0) 0)) (dL il false cx (pj (kids g) 1))
def D9(ia ib:DE):DE:=λt cx g=>(λ(p q:PE×Zh)=>(.Subscript p.1 q.1 g.pos,ak (ay t) (ak (fq 6 q.1) (ak p.2 q.2)))) (ia false cx (aW g 0)) (ib false cx (aW g 1))
def Ec(ia:DE):DE:=λt cx g=>(λ(p:PE×Zh)(s u k:PE)=>(.Subscript p.1 (.Slice none none (some (.UnaryOp .USub (.Constant (.int 1) (mA k) k.pos) u.pos)) s.pos) g.pos,ak (ay t) p.2)) (ia false cx (aW g 0)) (aW g 1) (aW (aW g 1) 0) (aW (aW (aW g 1) 0) 0)
def D3(cl:Zb Zc)(ii ie:DE)(ic:Zb DE):DE:=λt cx g=>aa (idOf (aW g 1)) (g,false) λx=>aa (afP g) (g,false) λsc=>
 (λ(p q:PE×Zh)(r:Zb PE×Zh)=>(.ListComp q.1 [⟨.Name x (aW g 1).pos,p.1,r.1,0⟩] sc g.pos,ak (ay t) (ak (fq 7 p.1) (ak (DI cx x sc cl) (ak p.2 (ak q.2 (ak r.2 (Zl (aJ r.1) 1)))))))) (ii false cx (aW g 2)) (ie false (fS cx x sc) (aW g 0)) (dL ic true (fS cx x sc) (pj (kids g) 3))
def Ed(ia:DE):DE:=λt cx g=>(λ(p:PE×Zh)=>(p.1,ak t (ak (ak (Zl (dF p.1).t 50) (ay (Zl (dF p.1).t 3))) p.2))) (ia false cx g)
def cJ(e:CE):DE:=CE.rec (motive_1:=λ_=>DE) (motive_2:=λ_=>Zb DE) D4 D7 pg D0 (λ_ a io=>DX a io) (λu _ _ ie l=>uZ false u ie l) (λop _ _=>DY op) (λ_=>qJ false .USub) (λ_=>qJ false .Not) (λ_ _ _=>D8) (λ_=>D5) (λ_=>dList) (λ_=>Ee) (λ_ _=>Ef) (λo _ _=>D1 o) (λo1 o2 _ _ _=>D2 o1 o2)
 (λ_ _ f l=>DZ f l) (λ_ m _ o l=>Eb m o l) (λ_ _=>D9) (λ_=>Ec) (λ_ _ _ cl ii ie l=>D3 cl ii ie l) (λ_=>Ed) (λ_=>qJ true .Not) (λu _ _ ie l=>uZ true u ie l) [] (λ_ _ d l=>d::l) e
def ph(l:Zb CE):Zb DE:=CE.rec_1 (motive_1:=λ_=>DE) (motive_2:=λ_=>Zb DE) D4 D7 pg D0 (λ_ a io=>DX a io) (λu _ _ ie l=>uZ false u ie l) (λop _ _=>DY op) (λ_=>qJ false .USub) (λ_=>qJ false .Not) (λ_ _ _=>D8) (λ_=>D5) (λ_=>dList) (λ_=>Ee) (λ_ _=>Ef) (λo _ _=>D1 o) (λo1 o2 _ _ _=>D2 o1 o2)
 (λ_ _ f l=>DZ f l) (λ_ m _ o l=>Eb m o l) (λ_ _=>D9) (λ_=>Ec) (λ_ _ _ cl ii ie l=>D3 cl ii ie l) (λ_=>Ed) (λ_=>qJ true .Not) (λu _ _ ie l=>uZ true u ie l) [] (λ_ _ d l=>d::l) l
end Mine
namespace Mine
def jH(t:Zh)(n:Zc)(cx:aQ)(e:PE)(m:Zh→Fm→AM AV):Prop:=Zp (motive:=λ_=>Prop) (aP n cx e m) (gJ n cx e m) t
section
variable{n:Zc}{c:bc}
def bu(n:Zc)(c:bc)(ce:CE):Prop:=∀t cx g,(cJ ce t cx g).2=true→jH t n cx (cJ ce t cx g).1 (λhd=>aC T.S c hd ce)
def i6(n:Zc)(c:bc)(l:Zb CE):Prop:=∀t cx gs,(dL (ph l) t cx gs).2=true→ma n cx (jH t n cx) (dL (ph l) t cx gs).1 (λhd=>yb T.S c hd l)∧∀env,Xj (dL (ph l) t cx gs).1 env=(dL (ph l) t cx gs).1.map λe=>(false,eval e env)
theorem sE{cx:aQ}{e:PE}{m:Zh→Fm→AM AV}(h:jH false n cx e m):aP n cx e m:=h
theorem oV{cx:aQ}{e:PE}{m:Zh→Fm→AM AV}(h:jH true n cx e m):gJ n cx e m:=h
theorem jC{α:Type}{o:Zd α}{g:PE}{f:α→PE×Zh}{P:PE→Prop}(h:(aa o (g,false) f).2=true)(r:∀x,o=some x→(f x).2=true→P (f x).1):P (aa o (g,false) f).1:=by
 cases o with
 |none=>exact aA h
 |some x=>exact r x rfl h
theorem aI{a b:Zh}(h:ak a b=true):a=true∧b=true:=bA h λx y=>⟨x,y⟩
theorem tF{t b:Zh}(h:ak (ay t) b=true):t=false∧b=true:=bA h λx y=>⟨eG x,y⟩
theorem sR{a b:Zh}(h:eqB a b=true):a=b:=by
 cases a<;>cases b<;>first|rfl|exact aA h
theorem dE{k:Zc}{e:PE}(h:fq k e=true):BN e∧ay (Zi (dF e).t k)=true:=bA h λa b=>⟨AJ e a,b⟩
theorem jU{α:Type}{l:Zb α}{i:Zc}{a:α}(e:aB l i=some a):l[i]?=some a:=(fY l i).symm.trans e
theorem acy(v:AV):bu n c (.con v):=by
 intro t cx g h
 obtain⟨ht,h⟩:=tF h
 subst ht
 have z:∀o,uW v=o→aG (isAny v) (aT o)=true→aP n cx (aa o g λk=>.Constant k (mA g) g.pos) (λ_=>tK v):=by
  intro o e q
  cases o with
  |some k=>exact @ais _ _ _ _ _ _ e
  |none=>
   intro c env fm W _ hb
   refine bO q (λq=>?_) λq=>aA q
   rw[yG q]at hb;exact Y8 rfl hb
 exact @z _ rfl h
theorem acA(k:Zc):bu n c (.g k):=by
 intro t cx g h
 refine jC (P:=λe=>jH t n cx e _) h λx hx h=>?_
 obtain⟨ht,h⟩:=tF h
 subst ht
 exact @aiw _ _ _ _ _ hx (eq_of_beq h)
theorem acE(i:Zc):bu n c (.loc i):=by
 intro t cx g h
 refine jC (P:=λe=>jH t n cx e _) h λx hx h=>?_
 obtain⟨ht,h⟩:=tF h
 subst ht
 exact @aiD _ _ _ _ _ (jU hx) h
theorem acu(i:Zc):bu n c (.da i):=by
 intro t cx g h
 refine jC (P:=λe=>jH t n cx e _) h λx hx h=>?_
 obtain⟨ht,h⟩:=tF h
 subst ht
 exact @aip _ _ _ _ _ (jU hx) h
theorem acq{o:CE}(a:Zc)(io:bu n c o):bu n c (.a o a):=by
 intro t cx g h
 refine jC (P:=λe=>jH t n cx e _) h λx hx h=>?_
 obtain⟨ht,h⟩:=tF h
 subst ht
 obtain⟨h1,h2⟩:=aI h
 exact @ail _ _ _ _ _ _ _ (λenv t=>(dE h1).1.base (dE h1).2 x env t) hx (@sE _ _ _ _ (@io false cx _ h2))
theorem acs{e:CE}{l:Zb CE}(u:Zh)(ie:bu n c e)(il:i6 n c l):bu n c (.xN u e l):=by
 intro t cx g h
 obtain⟨h1,h⟩:=aI h
 obtain⟨h2,h3⟩:=aI h
 rw[sR h1]at*
 exact @ain _ _ _ _ _ (il false cx _ h3).1 _ _ _ (@sE _ _ _ _ (@ie false cx _ h2))
theorem acJ{e:CE}{l:Zb CE}(u:Zh)(ie:bu n c e)(il:i6 n c l):bu n c (.dJ u e l):=by
 intro t cx g h
 obtain⟨h1,h⟩:=aI h
 obtain⟨h2,h3⟩:=aI h
 rw[sR h1]at*
 exact @aiI _ _ _ _ _ (il true cx _ h3).1 _ _ _ (@oV _ _ _ _ (@ie true cx _ h2))
theorem acr{a b:CE}(op:Xf)(ia:bu n c a)(ib:bu n c b):bu n c (.b op a b):=by
 intro t cx g h
 obtain⟨ht,h⟩:=tF h
 subst ht
 obtain⟨h1,h2⟩:=aI h
 exact @aim _ _ _ _ _ _ _ _ (@sE _ _ _ _ (@ia false cx _ h1)) (@sE _ _ _ _ (@ib false cx _ h2))
theorem acG{a:CE}(ia:bu n c a):bu n c (.neg a):=by
 intro t cx g h
 obtain⟨h1,h2⟩:=aI h
 rw[sR h1]at*
 exact @aiF _ _ _ _ _ (@sE _ _ _ _ (@ia false cx _ h2))
theorem acH{a:CE}(ia:bu n c a):bu n c (.nt a):=by
 intro t cx g h
 obtain⟨h1,h2⟩:=aI h
 rw[sR h1]at*
 exact @aiG _ _ _ _ _ (@sE _ _ _ _ (@ia false cx _ h2))
theorem acK{a:CE}(ia:bu n c a):bu n c (.eS a):=by
 intro t cx g h
 obtain⟨h1,h2⟩:=aI h
 rw[sR h1]at*
 exact @aiM _ _ _ _ _ (@oV _ _ _ _ (@ia true cx _ h2))
theorem acB{q a b:CE}(iq:bu n c q)(ia:bu n c a)(ib:bu n c b):bu n c (.i q a b):=by
 intro t cx g h
 obtain⟨h1,h⟩:=aI h
 obtain⟨h2,h3⟩:=aI h
 cases t with
 |true=>exact @aiL _ _ _ _ _ _ _ _ _ (@oV _ _ _ _ (@iq true cx _ h1)) (@oV _ _ _ _ (@ia true cx _ h2)) (@oV _ _ _ _ (@ib true cx _ h3))
 |false=>exact @aiz _ _ _ _ _ _ _ _ _ (@oV _ _ _ _ (@iq true cx _ h1)) (@sE _ _ _ _ (@ia false cx _ h2)) (@sE _ _ _ _ (@ib false cx _ h3))
theorem wS{l:Zb CE}{cx:aQ}{gs:Zb PE}(il:i6 n c l)(h:(dL (ph l) false cx gs).2=true):o9 n cx (dL (ph l) false cx gs).1 (λhd=>Zo dI (λm _=>dQ m) (yb T.S c hd l)):=aiC (il false cx gs h).1 (il false cx gs h).2
theorem aik{cx:aQ}{es:Zb PE}{ms:Zh→Zb (Fm→AM AV)}(hs:ma n cx (aP n cx) es ms):(sW es=true→qp n cx (t7 es) (λhd=>Zo dI (λm _=>dQ m) (ms hd)))∧∀(k:PE)(mk:Zh→Fm→AM AV),aP n cx k mk→sW es=false→qp n cx (t7 (k::es)) (λhd=>dQ (mk hd) (Zo dI (λm _=>dQ m) (ms hd))):=by
 induction hs with
 |nil=>exact⟨λ_=>@aiv _ _,λ_ _ _ e=>aA e.symm⟩
 |@cons e es m ms he _ ih=>
  obtain⟨i1,i2⟩:=ih
  refine⟨λev=>?_,λk mk hk ev=>?_⟩
  ·exact @i2 e m he (eG ev)
  ·refine @ait _ _ _ _ _ _ _ _ hk he (@i1 ?_)
   revert ev
   show ay (sW es)=false→_
   cases sW es with
   |false=>exactλq=>aA q.symm
   |true=>exactλ_=>rfl
theorem acz{l:Zb CE}(il:i6 n c l):bu n c (.dict l):=by
 intro t cx g h
 obtain⟨ht,h⟩:=tF h
 subst ht
 obtain⟨h1,h⟩:=aI h
 obtain⟨h2,h3⟩:=aI h
 exact @aiu _ _ _ _ _ (Zm h1) (@(aik (il false cx _ h3).1).1 h2)
theorem acD{l:Zb CE}(il:i6 n c l):bu n c (.list l):=by
 intro t cx g h
 obtain⟨ht,h⟩:=tF h
 subst ht
 exact @aiB _ _ _ _ _ (@wS _ _ _ _ _ il h)
theorem acM{l:Zb CE}(il:i6 n c l):bu n c (.tup l):=by
 intro t cx g h
 obtain⟨ht,h⟩:=tF h
 subst ht
 exact @aiN _ _ _ _ _ _ (@wS _ _ _ _ _ il h)
theorem acN{a b:CE}(ia:bu n c a)(ib:bu n c b):bu n c (.tupS a b):=by
 intro t cx g h
 obtain⟨ht,h⟩:=tF h
 subst ht
 obtain⟨h1,h⟩:=aI h
 obtain⟨h2,h3⟩:=aI h
 exact @aiO _ _ _ _ _ _ _ _ _ (λenv=>(dE h1).1.star (dE h1).2 env _) (@sE _ _ _ _ (@ia false cx _ h2)) (@sE _ _ _ _ (@ib false cx _ h3))
theorem acv{a b:CE}(o:CmpOp)(ia:bu n c a)(ib:bu n c b):bu n c (.p o a b):=by
 intro t cx g h
 obtain⟨h1,h⟩:=aI h
 obtain⟨h2,h3⟩:=aI h
 cases t with
 |true=>exact @aiJ _ _ _ _ _ _ _ _ (eG h1) (@sE _ _ _ _ (@ia false cx _ h2)) (@sE _ _ _ _ (@ib false cx _ h3))
 |false=>exact @aiq _ _ _ _ _ _ _ _ (eG h1) (@sE _ _ _ _ (@ia false cx _ h2)) (@sE _ _ _ _ (@ib false cx _ h3))
theorem acw{a b d:CE}(o1 o2:CmpOp)(ia:bu n c a)(ib:bu n c b)(id:bu n c d):bu n c (.xU o1 o2 a b d):=by
 intro t cx g h
 obtain⟨h1,h⟩:=aI h
 obtain⟨h2,h⟩:=aI h
 obtain⟨h3,h4⟩:=aI h
 cases t with
 |true=>exact @aiK _ _ _ _ _ _ _ _ _ _ _ (eG h1) (@sE _ _ _ _ (@ia false cx _ h2)) (@sE _ _ _ _ (@ib false cx _ h3)) (@sE _ _ _ _ (@id false cx _ h4))
 |false=>exact @air _ _ _ _ _ _ _ _ _ _ _ (eG h1) (@sE _ _ _ _ (@ia false cx _ h2)) (@sE _ _ _ _ (@ib false cx _ h3)) (@sE _ _ _ _ (@id false cx _ h4))
theorem act(hc:gD n c){f:CE}{l:Zb CE}(jf:bu n c f)(il:i6 n c l):bu n c (.f f l):=by
 intro t cx g h
 obtain⟨ht,h⟩:=tF h
 subst ht
 obtain⟨h1,h⟩:=aI h
 obtain⟨h2,h3⟩:=aI h
 exact @aio _ _ _ hc _ _ _ _ _ (λenv=>(dE h1).1.call (dE h1).2 env _ _) (λenv=>Hw ((il false cx _ h3).2 env)) (@sE _ _ _ _ (@jf false cx _ h2)) (@wS _ _ _ _ _ il h3)
theorem acF(hc:gD n c){o:CE}{l:Zb CE}(a:Zc)(jo:bu n c o)(il:i6 n c l):bu n c (.m o a l):=by
 intro t cx g h
 refine jC (P:=λe=>jH t n cx e _) h λx hx h=>?_
 obtain⟨ht,h⟩:=tF h
 subst ht
 obtain⟨h1,h⟩:=aI h
 obtain⟨h2,h⟩:=aI h
 obtain⟨h3,h⟩:=aI h
 obtain⟨h4,h5⟩:=aI h
 exact @aiE _ _ _ hc _ _ _ _ _ _ _ _ ⟨λenv t=>(dE h1).1.base (dE h1).2 x env t,Zm h2,h3,λenv=>Hw ((il false cx _ h5).2 env)⟩ hx (@sE _ _ _ _ (@jo false cx _ h4)) (@wS _ _ _ _ _ il h5)
theorem acC{a b:CE}(ia:bu n c a)(ib:bu n c b):bu n c (.t a b):=by
 intro t cx g h
 obtain⟨ht,h⟩:=tF h
 subst ht
 obtain⟨h1,h⟩:=aI h
 obtain⟨h2,h3⟩:=aI h
 exact @aiA _ _ _ _ _ _ _ (λu w=>(dE h1).1.sub (dE h1).2 u w) (@sE _ _ _ _ (@ia false cx _ h2)) (@sE _ _ _ _ (@ib false cx _ h3))
theorem acI{a:CE}(ia:bu n c a):bu n c (.rev a):=by
 intro t cx g h
 obtain⟨ht,h⟩:=tF h
 subst ht
 exact @aiH _ _ _ _ _ _ _ _ _ (@sE _ _ _ _ (@ia false cx _ h))
theorem acL{a:CE}(ia:bu n c a):bu n c (.tst a):=by
 intro t cx g h
 obtain⟨h1,h⟩:=aI h
 obtain⟨h2,h3⟩:=aI h
 obtain⟨h4,h5⟩:=aI h2
 subst h1
 exact @aiP _ _ _ _ (λenv=>(AJ _ h4).tru h5 env) (@sE _ _ _ _ (@ia false cx _ h3))
theorem acP:i6 n c []:=λt cx gs h=>⟨.nil,λ_=>rfl⟩
theorem acO{e:CE}{l:Zb CE}(ie:bu n c e)(il:i6 n c l):i6 n c (e::l):=λt cx gs h=>bA h λh1 h=>bA h λh2 h3=>⟨.cons (ie t cx _ h2) (il t cx _ h3).1,λenv=>((dE h1).1.star (dE h1).2 env _).trans (Ze (_::·) ((il t cx _ h3).2 env))⟩
theorem DK{cx:aQ}{x:Str}{sc:Wq}{cl:Zb Zc}(h:DI cx x sc cl=true):rW cx x sc cl:=bA h λh1 h=>bA h λh2 h=>bA h λh3 h=>bA h λh4 h=>bA h λh5 h6=>by
 have e6:=eq_of_beq h6
 rw[lJ,lJ]at e6
 refine⟨eq_of_beq h1,λp hp q=>?_,λp hp q=>?_,eq_of_beq h4,λj y e=>⟨bO (mm h5 y (Yr e)) (λz=>.inl (eq_of_beq z)) λz=>.inr (eq_of_beq z),?_⟩,?_⟩
 ·have z:=eG (mm h2 p hp)
  rw[q]at z;exact aA z.symm
 ·refine bO (mm h3 p hp) (λz=>?_) λz=>eq_of_beq z
  have z:=eG z
  rw[q]at z;exact aA z.symm
 ·have z:=Ze (·[j]?) e6
  have z:(cl.map λc=>aB cx.cs c)[j]?=((bZ sc.names).map some)[j]?:=z
  rw[Xc,Xc,e]at z
  obtain⟨k,h1,h2⟩:=Option.map_eq_some_iff.mp z
  exact⟨k,h1,jU h2⟩
 ·have z:=Ze Su e6
  rw[Yi,Yi]at z;exact z
theorem adJ{e:CE}{l:Zb CE}{P:Prop}(h:pureE e l=true)(k:∀a,e=.a (.loc 0) a→l=[]→P):P:=by
 revert h k
 cases e<;>first|exactλh=>aA h|skip
 rename_i o a
 intro h k
 refine bA (a:=FW o) h λh1 h2=>?_
 revert h1 k
 cases o<;>first|exactλ_ h=>aA h|skip
 rename_i i
 intro k h1
 have e:=Zr (show Zi i 0=true from h1)
 subst e
 cases l with
 |nil=>exact k a rfl rfl
 |cons _ _=>exact aA h2
theorem WE{cx:aQ}{es:Zb PE}{ms:Zh→Zb (Fm→AM AV)}(hs:ma n cx (jH true n cx) es ms)(h:Zl (aJ es) 1=true):qr n cx es (λhd=>lr (Zo dI (λm _=>dQ m) (ms hd))):=by
 cases hs with
 |nil=>exact aix
 |cons a r=>
  cases r with
  |nil=>exact aiy a
  |cons _ _=>exact aA h
theorem acx{a b:CE}{q:Zb CE}(cl:Zb Zc)(ia:bu n c a)(ib:bu n c b)(iq:i6 n c q):bu n c (.comp a b q cl):=by
 intro t cx g h
 refine jC (P:=λe=>jH t n cx e _) h λx hx h=>?_
 refine jC (P:=λe=>jH t n cx e _) h λsc hs h=>?_
 obtain⟨ht,h⟩:=tF h
 subst ht
 obtain⟨h1,h⟩:=aI h
 obtain⟨h2,h⟩:=aI h
 obtain⟨h3,h⟩:=aI h
 obtain⟨h4,h⟩:=aI h
 obtain⟨h5,h6⟩:=aI h
 have ns:∀env y,foldedSetIterable _ env y=pure y:=(dE h1).1.set
 have key:∀pu,pureE b q=pu→aP n cx (.ListComp (cJ b false (fS cx x sc) (aW g 0)).1 [⟨.Name x (aW g 1).pos,(cJ a false cx (aW g 2)).1,(dL (ph q) true (fS cx x sc) (pj (kids g) 3)).1,0⟩] sc g.pos) (λhd=>vW T.S hd pu cl (aC T.S c hd a) (aC T.S c hd b) (Zo dI (λm _=>dQ m) (yb T.S c hd q))):=by
  intro pu hp
  cases pu with
  |false=>exact @Iq _ _ _ _ _ _ _ _ _ _ _ _ _ _ (DK h2) ns (@sE _ _ _ _ (@ia false cx _ h3)) (@qr.tp _ _ _ _ (@WE _ _ _ _ (iq true _ _ h5).1 h6)) (@aP.ep _ _ _ _ (@sE _ _ _ _ (@ib false _ _ h4)))
  |true=>
   refine @adJ _ _ _ hp ?_
   intro k e1 e2
   subst e1 e2
   have ep:qq true n (fS cx x sc) (cJ (.a (.loc 0) k) false (fS cx x sc) (aW g 0)).1 (λhd=>aC T.S c hd (.a (.loc 0) k)):=by
    have z:∀o,T.S.nm k=o→(cJ (.a (.loc 0) k) false (fS cx x sc) (aW g 0)).2=true→qq true n (fS cx x sc) (aa o (aW g 0,false) λx'=>(λ(o:PE×Zh)=>(.Attribute o.1 x' (aW g 0).pos,ak (ay false) (ak (fq 11 o.1) o.2))) (pg 0 false (fS cx x sc) (aW (aW g 0) 0))).1 (λ_=>tH k λfm=>gP fm 0):=by
     intro o eo h4
     cases o with
     |none=>
      have h4:(aa (T.S.nm k) (aW g 0,false) λx'=>(λ(o:PE×Zh)=>(.Attribute o.1 x' (aW g 0).pos,ak (ay false) (ak (fq 11 o.1) o.2))) (pg 0 false (fS cx x sc) (aW (aW g 0) 0))).2=true:=h4
      rw[eo]at h4;exact @Xg _ (aA h4)
     |some z=>
      have h4:(aa (T.S.nm k) (aW g 0,false) λx'=>(λ(o:PE×Zh)=>(.Attribute o.1 x' (aW g 0).pos,ak (ay false) (ak (fq 11 o.1) o.2))) (pg 0 false (fS cx x sc) (aW (aW g 0) 0))).2=true:=h4
      rw[eo]at h4
      obtain⟨h7,h8⟩:=aI (show ak (fq 11 (pg 0 false (fS cx x sc) (aW (aW g 0) 0)).1) (pg 0 false (fS cx x sc) (aW (aW g 0) 0)).2=true from h4)
      exact @NY _ _ _ _ 0 _ _ _ rfl h8 (λenv t=>(dE h7).1.base (dE h7).2 z env t) eo
    exact @z _ rfl h4
   exact @Iq _ _ _ _ _ _ _ _ _ _ _ _ _ _ (DK h2) ns (@sE _ _ _ _ (@ia false cx _ h3)) (@ajP _ _) @ep
 exact @key _ rfl
theorem pk(hc:gD n c)(ce:CE):bu n c ce:=CE.rec (motive_1:=bu n c) (motive_2:=i6 n c) acy acA acE acu (λ_ a io=>acq a io) (λu _ _ ie il=>acs u ie il) (λop _ _=>acr op) (λ_=>acG) (λ_=>acH) (λ_ _ _=>acB) (λ_=>acz) (λ_=>acD) (λ_=>acM) (λ_ _=>acN) (λo _ _=>acv o) (λo1 o2 _ _ _=>acw o1 o2)
 (λ_ _ jf jl=>act hc jf jl) (λ_ a _ jo jl=>acF hc a jo jl) (λ_ _=>acC) (λ_=>acI) (λ_ _ _ cl ia ib iq=>acx cl ia ib iq) (λ_=>acL) (λ_=>acK) (λu _ _ ie il=>acJ u ie il) acP (λ_ _=>acO) ce
end
end Mine
namespace Mine
theorem ajX{e:PE}{P:PE→Prop}(h:mS 9 e=true)(k:∀ts j p,P (.Tuple ts j p)):P e:=by
 revert h
 cases e<;>first|exactλh=>aA h|exactλ_=>k _ _ _|skip
 rename_i f _ _ _
 exactλh=>aA (by cases f<;>exact h)
theorem F9{α:Type}{b:Zh}{x y z:α}(h1:x=z)(h2:y=z):(if b=true then x else y)=z:=by
 cases b with
 |true=>exact h1
 |false=>exact h2
section
variable{env:Env}{ts vs:Zb PE}{k j:Zc}{p q:Pos}
theorem IC{e:PE}:Zl (dF e).t 50=true→ay (Zi (dF e).t 9)=true→X2 [.Tuple ts k p] e env=pure none:=by
 cases e<;>first|exactλh=>aA h|exactλ_ h=>aA h|exactλ_ _=>rfl
theorem QX{f:PE→Zd Str}{pl:PE→Zh}(hf:∀x,pl x=false→f x=none):∀{ts:Zb PE},aM pl ts=false→(ts.filterMap f).length≠ts.length:=by
 intro ts
 induction ts with
 |nil=>exactλh=>aA h.symm
 |cons x r ih=>
  intro h
  have h:(Zp false (aM pl r) (pl x):Zh)=false:=h
  have le:=List.length_filterMap_le f r
  cases e:pl x with
  |false=>
   rw[List.filterMap_cons_none (hf x e)]
   exact V1 (Xm le)
  |true=>
   rw[e]at h
   have ne:=ih h
   rw[Qw]
   cases f x with
   |none=>exact V1 (Xm le)
   |some y=>exactλq=>ne (Uh q)
def wy(cA:Zb (Str×X5))(e:PE):Zh:=ak (mS 12 e) (aa (idOf e) true λx=>ay (cA.lookup x==some .cell))
theorem ajC{cA:Zb (Str×X5)}(hk:∀x,cA.lookup x=some .cell→env.kindOf x=some .cell)(h:aM (wy cA) ts=false):X2 [.Tuple ts k p] (.Tuple vs j q) env=pure none:=by
 unfold X2
 refine F9 rfl (F9 rfl ?_)
 refine(if_pos ?_)
 refine Bool.or_eq_true_iff.mpr (.inl (bne_iff_ne.mpr (QX (λx e=>?_) h)))
 revert e
 cases x<;>first|exactλ_=>rfl|skip
 rename_i x _
 intro e
 have z:(cA.lookup x==some .cell)=true:=by
  have e:ay (cA.lookup x==some .cell)=false:=e
  cases q:cA.lookup x==some Rh with
  |true=>rfl
  |false=>rw[q]at e;exact aA e.symm
 exact if_neg (by rw[hk x (eq_of_beq z)];exact Yn)
theorem ajb{e t:PE}{l:Zc}:Zl (dF e).t 50=true→ay (Zi (dF e).t 8)=false→mS 12 t=false→swapsWithSole [t] e l env=pure false:=by
 cases e<;>first|exactλh=>aA h|exactλ_ _ _=>rfl|skip
 intro _ _
 cases t<;>first|exactλ_=>rfl|exactλh=>aA h.symm
structure JM(x y:Str)(px py:Pos)(vs:Zb PE):Prop where
 len:vs.length=2
 star:aM (fq 4) vs=true
 line:(py.line==px.line)=true
 ne:(y==x)=false
 a:vs.all (foldedForSure 8)=false
 b:vs.all (constantsAlone 8)=false
theorem ajD{x y:Str}{px py:Pos}(Y:JM x y px py vs)(fk:env.scope.kind=.function)(hx:env.kindOf x=some .local)(hy:env.kindOf y=some .local):X2 [.Tuple [.Name x px,.Name y py] k p] (.Tuple vs j q) env=pure (some [x,y]):=by
 have hb:(env.blockKind !=.function)=false:=by unfold Env.blockKind;rw[fk];rfl
 have fm:∀{F:PE→Zd Str},F (.Name x px)=some x→F (.Name y py)=some y→[Expr.Name x px,Expr.Name y py].filterMap F=[x,y]:=λa b=>(Rj a).trans (Ze (x::·) ((Rj b).trans rfl))
 have ed:([x,y].eraseDups.length !=[x,y].length)=false:=by
  rw[List.eraseDups_cons,List.filter_cons,Y.ne];rfl
 unfold X2
 dsimp only
 rw[if_neg (by rw[Y.len,hb];exact Yn),if_neg,fm,ed,Y.a,Y.b]
 ·rfl
 ·exact if_pos (by rw[hx];exact Xs px.line)
 ·exact if_pos (by rw[hy];exact Y.line)
 ·refine tR (List.any_eq_false.mpr λv hv=>?_)
  have z:=(dE (mm Y.star v hv)).2
  revert z
  cases v<;>first|exactλ_=>Yn|exactλh=>aA h
end
end Mine
namespace Mine
def Kd(S:SE)(c:bc)(hd:Zh)(l:Zb CT):Zb AV→Fm→AM Fm:=
 CT.rec_1 (motive_1:=λ_=>AV→Fm→AM Fm) (motive_2:=λ_=>Zb AV→Fm→AM Fm)
  (λi v fm=>AM.pure (bG fm i v)) (λi v fm=>Ar fm i v)
  (λo a v fm=>AM.bind (aC S c hd o fm) λov=>AM.bind (oX S ov a v) λ_=>AM.pure fm)
  (λo i v fm=>AM.bind (aC S c hd o fm) λov=>AM.bind (aC S c hd i fm) λk=>AM.bind (wP ov k v) λ_=>AM.pure fm)
  (λo i v fm=>IJ S c hd o i v fm)
  (λts l v fm h=>aa (dX v) .bad λxs=>ae (Zi (aJ xs) (aJ ts)) (Zp (l xs fm h) .bad hd) .bad)
  (λxs fm=>Zo (AM.pure fm) (λ_ _ _=>AM.fail) xs)
  (λ_ _ i l xs fm=>Zo AM.fail (λv r _=>AM.bind (i v fm) λfm=>l r fm) xs) l
abbrev DT:=aQ→PE→PE×Zh
def rM(i:Zc):DT:=λcx g=>aa (aB cx.ls i) (g,false) λx=>(.Name x g.pos,true)
def II(j:Zc):DT:=λcx g=>aa (aB cx.cs j) (g,false) λx=>(.Name x g.pos,cx.cA.lookup x==some .cell)
def IH(o:CE)(a:Zc):DT:=λcx g=>we a g λx=>(λ(p:PE×Zh)=>(.Attribute p.1 x g.pos,p.2)) (cJ o false cx (aW g 0))
def IL(o i:CE):DT:=λcx g=>(λ(p q:PE×Zh)=>(.Subscript p.1 q.1 g.pos,ak p.2 q.2)) (cJ o false cx (aW g 0)) (cJ i false cx (aW g 1))
def IN(o e:CE):DT:=λcx g=>(λ(p q:PE×Zh)=>(.Subscript p.1 (.Slice (some q.1) none none (aW g 1).pos) g.pos,ak p.2 q.2)) (cJ o false cx (aW g 0)) (cJ e false cx (aW (aW g 1) 0))
def sK(l:Zb DT)(cx:aQ):Zb PE→Zb PE×Zh:=Zo (λ_=>([],true)) (λd _ ih gs=>(λ(p:PE×Zh)(q:Zb PE×Zh)=>(p.1::q.1,ak (fq 4 p.1) (ak p.2 q.2))) (d cx (Zo default (λg _ _=>g) gs)) (ih (Zo [] (λ_ r _=>r) gs))) l
def IO(l:Zb DT):DT:=λcx g=>(λ(q:Zb PE×Zh)=>(.Tuple q.1 (mA g) g.pos,q.2)) (sK l cx (kids g))
def gn(t:CT):DT:=CT.rec (motive_1:=λ_=>DT) (motive_2:=λ_=>Zb DT) rM II IH IL IN (λ_=>IO) [] (λ_ _ d l=>d::l) t
def ve(l:Zb CT):Zb DT:=CT.rec_1 (motive_1:=λ_=>DT) (motive_2:=λ_=>Zb DT) rM II IH IL IN (λ_=>IO) [] (λ_ _ d l=>d::l) l
section
variable{n:Zc}{c:bc}
def lY(n:Zc)(c:bc)(t:CT):Prop:=∀cx g,(gn t cx g).2=true→iB n cx (gn t cx g).1 (λhd=>eZ T.S c hd t)
structure JO(n:Zc)(c:bc)(l:Zb CT)(cx:aQ)(es:Zb PE):Prop where
 s:r5 n cx es (λhd=>Kd T.S c hd l)
 e:∀env,assignEach es env=es.map λt=>(false,assign t env)
 l:es.length=aJ l
def rY(n:Zc)(c:bc)(l:Zb CT):Prop:=∀cx gs,(sK (ve l) cx gs).2=true→JO n c l cx (sK (ve l) cx gs).1
def xm(n:Zc)(cx:aQ)(e:PE)(m:Zh→AV→Fm→AM Fm):Prop:=True→iB n cx e m
theorem ada(i:Zc):lY n c (.loc i):=by
 intro cx g h
 exact jC (P:=λe=>xm n cx e _) h (λx hx h _=>@aii _ _ _ _ _ (jU hx)) trivial
theorem ac7(i:Zc):lY n c (.da i):=by
 intro cx g h
 exact jC (P:=λe=>xm n cx e _) h (λx hx h _=>@aif _ _ _ _ _ (jU hx) (eq_of_beq h)) trivial
theorem ac6(hc:gD n c)(o:CE)(a:Zc):lY n c (.a o a):=by
 intro cx g h
 exact jC (P:=λe=>xm n cx e _) h (λx hx h _=>@aie _ _ _ _ _ _ _ hx (@sE _ _ _ _ (@pk _ _ hc o false cx _ h))) trivial
theorem ac9(hc:gD n c)(o i:CE):lY n c (.t o i):=by
 intro cx g h
 obtain⟨h1,h2⟩:=aI h
 exact @aih _ _ _ _ _ _ _ (@sE _ _ _ _ (@pk _ _ hc o false cx _ h1)) (@sE _ _ _ _ (@pk _ _ hc i false cx _ h2))
theorem ac8(hc:gD n c)(o i:CE):lY n c (.cut o i):=by
 intro cx g h
 obtain⟨h1,h2⟩:=aI h
 exact @aig _ _ _ _ _ _ _ _ (@sE _ _ _ _ (@pk _ _ hc o false cx _ h1)) (@sE _ _ _ _ (@pk _ _ hc i false cx _ h2))
theorem adb(ts:Zb CT)(il:rY n c ts):lY n c (.tup ts):=by
 intro cx g h
 have z:=il cx _ h
 show iB n cx (.Tuple (sK (ve ts) cx (kids g)).1 (mA g) g.pos) _
 revert z
 generalize(sK (ve ts) cx (kids g)).1=es
 intro z
 obtain⟨s,e,l⟩:=z
 exact @aij _ _ _ _ _ _ _ (λenv x hx=>by
  rw[e]at hx
  exact(List.mem_map.mp hx).elim λy z=>z.2▸rfl) l.symm (λenv=>by rw[e];exact Yi _) s
theorem ade:rY n c []:=λcx gs h=>⟨@ai9 _ _,λ_=>rfl,rfl⟩
theorem adc{t:CT}{l:Zb CT}(it:lY n c t)(il:rY n c l):rY n c (t::l):=by
 intro cx gs h
 obtain⟨h1,h⟩:=aI h
 obtain⟨h2,h3⟩:=aI h
 obtain⟨s,e,le⟩:=il cx _ h3
 have z:=λenv r=>(dE h1).1.each (dE h1).2 env r
 exact⟨@ai8 _ _ _ _ _ _ (λenv=>z env _) (@it cx _ h2) s,λenv=>(z env _).trans (Ze (_::·) (e env)),Ze Zk le⟩
theorem Af(hc:gD n c)(t:CT):lY n c t:=CT.rec (motive_1:=lY n c) (motive_2:=rY n c) ada ac7 (ac6 hc) (ac9 hc) (ac8 hc) adb ade (λ_ _=>adc) t
end
structure BK where
 ks:Zb PE
 bs:Zb (Zb Stmt)
 hs:Zb Qt
noncomputable def lG(h:Qt):Zb PE×Zb Stmt×Pos:=PySem.ExceptHandler.casesOn (motive_4:=λ_=>Zb PE×Zb Stmt×Pos) h λt _ b p=>(t.toList,b,p)
def rs(s:Stmt):BK:=PySem.Stmt.casesOn (motive_2:=λ_=>BK) s (λ_ _ _ _ _ _ _ _ _ _=>⟨[],[],[]⟩) (λ_ _ _ _ _ _ _ _ _ _=>⟨[],[],[]⟩) (λ_ _ _ _ _ _ _ _ _ _ _=>⟨[],[],[]⟩) (λv _=>⟨v.toList,[],[]⟩) (λ_ _=>⟨[],[],[]⟩) (λts v _=>⟨aD ts [v],[],[]⟩) (λ_ _ _ _ _ _ _=>⟨[],[],[]⟩) (λt _ v _=>⟨[t,v],[],[]⟩) (λ_ _ _ _ _=>⟨[],[],[]⟩) (λt it b _ _=>⟨[t,it],[b],[]⟩) (λ_ _ _ _ _=>⟨[],[],[]⟩) (λt b _ _=>⟨[t],[b],[]⟩) (λt b o _=>⟨[t],[b,o],[]⟩)
 (λ_ _ _=>⟨[],[],[]⟩) (λ_ _ _=>⟨[],[],[]⟩) (λ_ _ _=>⟨[],[],[]⟩) (λe _ _=>⟨e.toList,[],[]⟩) (λb hs _ _ _=>⟨[],[b],hs⟩) (λ_ _ _ _ _=>⟨[],[],[]⟩) (λ_ _ _=>⟨[],[],[]⟩) (λ_ _=>⟨[],[],[]⟩) (λ_ _ _ _=>⟨[],[],[]⟩) (λ_ _=>⟨[],[],[]⟩) (λ_ _=>⟨[],[],[]⟩) (λe _=>⟨[e],[],[]⟩) (λ_=>⟨[],[],[]⟩) (λ_=>⟨[],[],[]⟩) (λ_=>⟨[],[],[]⟩)
def g9{α:Type}[Inhabited α](l:Zb α):α:=Zo default (λg _ _=>g) l
def br(g:Stmt)(i:Zc):PE:=aa (aB (rs g).ks i) default λe=>e
def lQ(g:Stmt)(i:Zc):Zb Stmt:=aa (aB (rs g).bs i) [] λe=>e
abbrev xf:=aQ→Stmt→Stmt×Zh
abbrev Js:=aQ→Zb Stmt→Zb Stmt×Zh
abbrev DS:=xf×Js
def Am:xf:=λ_ g=>(g,false)
def s1(d:xf):DS:=(d,λ_ gs=>(gs,false))
def yH(s:CS):Zh:=CS.casesOn (motive:=λ_=>Zh) s false false (λ_ _=>false) (λ_=>false) (λ_=>false) false (λ_ _=>false) (λ_ _ _ _=>false) (λ_ _ _=>false) (λ_ _=>false) (λ_ _ _ _=>false) (λ_ _ _ _ _=>false) (λ_=>false) (λ_=>true) (λ_ _ _=>false)
def An(cut:Zh)(a b:DS):DS:=(Am,λcx gs=>Zp ((λ(p:Stmt×Zh)(q:Zb Stmt×Zh)=>(p.1::q.1,ak p.2 q.2)) (a.1 cx (g9 gs)) (b.2 cx (Zo [] (λ_ r _=>r) gs))) (b.2 cx gs) cut)
def afe(e:CE):DS:=s1 λcx g=>(λ(p:PE×Zh)=>(.Expr p.1 g.pos,ak (fq 8 p.1) p.2)) (cJ e false cx (br g 0))
def afj(e:CE):DS:=s1 λcx g=>(λ(p:PE×Zh)=>(.Return (some p.1) g.pos,p.2)) (cJ e false cx (br g 0))
def yY(t:CT):Zd (Zc×Zc):=CT.casesOn (motive_1:=λ_=>Zd (Zc×Zc)) t (λ_=>none) (λ_=>none) (λ_ _=>none) (λ_ _=>none) (λ_ _=>none) λl=>two l none λa b=>aq (l1 a) λi=>aq (l1 b) λj=>some (i,j)
where l1 (t:CT):Zd Zc:=CT.casesOn (motive_1:=λ_=>Zd Zc) t some (λ_=>none) (λ_ _=>none) (λ_ _=>none) (λ_ _=>none) λ_=>none
def tA(t:CT):Zh:=CT.casesOn (motive_1:=λ_=>Zh) t (λ_=>false) (λ_=>false) (λ_ _=>false) (λ_ _=>false) (λ_ _=>false) λ_=>true
def swB(cx:aQ)(t:CT)(u:PE)(e:PE):Zh:=aa (yY t) false λij=>aa (aB cx.ls ij.1) false λx=>aa (aB cx.ls ij.2) false λy=>ak (ay (Zi ij.1 ij.2)) (ak (Zi (kids e).length 2) (ak (mS 9 e) (ak (aM (fq 4) (kids e)) (ak ((aW u 1).pos.line==(aW u 0).pos.line) (ak (ay (y==x)) (ak (ay ((kids e).all (foldedForSure 8))) (ay ((kids e).all (constantsAlone 8)))))))))
def afk(t:CT)(e:CE):DS:=s1 λcx g=>(λ(u p:PE×Zh)=>(.Assign [u.1] p.1 g.pos,ak (ak (Zl (dF p.1).t 50) (aG (ay (Zi (dF p.1).t 8)) (ay (mS 12 u.1)))) (ak (fq 4 u.1) (ak u.2 (ak p.2 (aG (ay (tA t)) (aG (ay (mS 9 p.1)) (aG (ay (aM (wy cx.cA) (kids u.1))) (swB cx t u.1 p.1))))))))) (gn t cx (br g 0)) (cJ e false cx (br g 1))
def afc(o:CE)(a:Zc)(op:Xf)(e:CE):DS:=s1 λcx g=>aa (T.S.nm a) (g,false) λx=>(λ(p q:PE×Zh)=>(.AugAssign (.Attribute p.1 x (br g 0).pos) op q.1 g.pos,ak p.2 q.2)) (cJ o false cx (aW (br g 0) 0)) (cJ e false cx (br g 1))
def afg(t:CE)(a b:DS):DS:=s1 λcx g=>(λ(p:PE×Zh)(x y:Zb Stmt×Zh)=>(.If p.1 x.1 y.1 g.pos,ak p.2 (ak x.2 y.2))) (cJ t true cx (br g 0)) (a.2 cx (lQ g 0)) (b.2 cx (lQ g 1))
def afm(t:CE)(b:DS):DS:=s1 λcx g=>(λ(p:PE×Zh)(x:Zb Stmt×Zh)=>(.While p.1 x.1 [] g.pos,ak p.2 x.2)) (cJ t true cx (br g 0)) (b.2 cx (lQ g 0))
def aff(kA:Zh)(t:CT)(it:CE)(b:DS):DS:=s1 λcx g=>Zp
 ((λ(u p:PE×Zh)(x:Zb Stmt×Zh)=>(.For u.1 p.1 x.1 [] g.pos,ak (fq 7 p.1) (ak (fq 9 u.1) (ak (fq 10 u.1) (ak u.2 (ak p.2 x.2)))))) (gn t cx (br g 0)) (cJ it false cx (br g 1)) (b.2 cx (lQ g 0)))
 ((λ(u p:PE×Zh)(x:Zb Stmt×Zh)=>(.For u.1 (.Call (.Name "enumerate" (aW (br g 1) 0).pos) [p.1] [] (br g 1).pos) x.1 [] g.pos,ak (fq 4 p.1) (ak (mS 9 u.1) (ak (cx.cA.lookup ("enumerate":Str)==some .globalImplicit) (ak u.2 (ak p.2 x.2)))))) (gn t cx (br g 0)) (cJ it false cx (aW (br g 1) 1)) (b.2 cx (lQ g 0))) kA
def afl(e:CE)(k:Zc)(a:Zj)(i:Zc)(h:DS):DS:=s1 λcx g=>aa (T.S.nm k) (g,false) λty=>aa (aB cx.ls i) (g,false) λpL=>(λ(p:PE×Zh)(x:Zb Stmt×Zh)=>(.Try [.Expr p.1 (g9 (lQ g 0)).pos] [.ExceptHandler (some (.Name ty (g9 (lG (g9 (rs g).hs)).1).pos)) (some pL) x.1 (lG (g9 (rs g).hs)).2.2] [] [] g.pos,
 ak (cx.cA.lookup ty==some .globalImplicit) (ak (aa (aq (T.S.gl k) si) false λb=>Zi a b) (ak (fq 8 p.1) (ak (ay x.1.isEmpty) (ak p.2 x.2)))))) (cJ e false cx (br (g9 (lQ g 0)) 0)) (h.2 cx (lG (g9 (rs g).hs)).2.1)
def afi(e:CE):DS:=s1 λcx g=>(λ(p:PE×Zh)=>(.Raise (some p.1) none g.pos,p.2)) (cJ e false cx (br g 0))
def Ae(a:Arguments):Zh:=ak a.posonlyargs.isEmpty (ak a.vararg.isNone (ak a.kwonlyargs.isEmpty (ak a.kw_defaults.isEmpty a.kwarg.isNone)))
def afd(k j:Zc)(cl:Zb Zc):DS:=s1 λcx g=>aa (T.S.fs k) (g,false) λf=>(.FunctionDef f.name f.params f.body [] none [] f.scope none f.name g.pos,ak (T.qa g.pos.line g.pos.col==some f.qual) (ak f.params.defaults.isEmpty (ak (Ae f.params) (ak (aM (λa=>a.annotation.isNone) f.params.args)
 (ak (aB cx.ls j==some f.name) (ak (ag (λc=>aB cx.cs c) cl==ag some (bZ f.scope.names)) (aa cx.at_ false λq0=>q0++f.name==f.qual)))))))
def gm(s:CS):DS:=CS.rec (motive:=λ_=>DS) (Am,λ_ _=>([],true)) (s1 λ_ g=>(.Pass g.pos,true)) (λa _=>An (yH a)) afe afj (s1 λ_ g=>(.Return none g.pos,true)) afk afc (λt _ _=>afg t) (λt _=>afm t) (λkA t it _=>aff kA t it) (λe k a i _=>afl e k a i) afi (λ_=>s1 Am) afd s
end Mine
namespace Mine
section
variable{n:Zc}{c:bc}
structure cW(n:Zc)(c:bc)(q:CS):Prop where
 s:∀cx g,((gm q).1 cx g).2=true→eJ n cx ((gm q).1 cx g).1 (aj T.S c q)
 b:∀cx gs,((gm q).2 cx gs).2=true→fC n cx ((gm q).2 cx gs).1 (aj T.S c q)
theorem wu{α:Type}{o:Zd α}{g:Stmt}{f:α→Stmt×Zh}{P:Stmt→Prop}(h:(aa o (g,false) f).2=true)(r:∀x,o=some x→(f x).2=true→P (f x).1):P (aa o (g,false) f).1:=by
 cases o with
 |none=>exact aA h
 |some x=>exact r x rfl h
theorem oI{a b:Zh}(h:aG a b=true):a=true∨b=true:=bO h .inl .inr
theorem t5{α:Type}{o:Zd α}{f:α→Zh}(h:aa o false f=true):∃x,o=some x∧f x=true:=oT h λx a b=>⟨x,a,b⟩
theorem ac3:cW n c .skip:=⟨λcx g h=>aA h,λcx gs h=>@aiT _ _⟩
theorem acX:cW n c .pass:=⟨λcx g h=>@ai0 _ _ _,λcx gs h=>aA h⟩
theorem ac0:cW n c .t9:=⟨λcx g h=>@ai3 _ _ _,λcx gs h=>aA h⟩
theorem acS(j:Zc):cW n c (.cut j):=⟨λcx g h=>aA h,λcx gs h=>aA h⟩
theorem Mc{a:CS}{P:CS→Prop}(h:yH a=true)(k:∀j,P (.cut j)):P a:=by
 revert h
 cases a<;>first|exactλh=>aA h|exactλ_=>k _
theorem ac1{a b:CS}(ja:cW n c a)(jb:cW n c b):cW n c (.seq a b):=⟨λcx g h=>aA h,by
 intro cx gs h
 have key:∀q,yH a=q→((An q (gm a) (gm b)).2 cx gs).2=true→fC n cx ((An q (gm a) (gm b)).2 cx gs).1 (aj T.S c (.seq a b)):=by
  intro q hq h
  cases q with
  |true=>
   refine @Mc a (λa=>fC n cx ((gm b).2 cx gs).1 (aj T.S c (.seq a b))) hq ?_
   intro j
   exact @aiS _ _ _ _ _ (@cW.b _ _ _ jb cx gs h)
  |false=>
   obtain⟨h1,h2⟩:=aI h
   exact @aiQ _ _ _ _ _ _ (@cW.s _ _ _ ja cx _ h1) (@cW.b _ _ _ jb cx _ h2)
 exact @key _ rfl h⟩
variable(hc:gD n c)
include hc
theorem acT(e:CE):cW n c (.e e):=⟨by
 intro cx g h
 obtain⟨h1,h2⟩:=aI h
 exact @aiV _ _ _ _ _ (λenv=>(dE h1).1.ID (dE h1).2 env _) (@sE _ _ _ _ (@pk _ _ hc e false cx _ h2)),λcx gs h=>aA h⟩
theorem acZ(e:CE):cW n c (.ret e):=⟨by
 intro cx g h
 exact @ai2 _ _ _ _ _ (@sE _ _ _ _ (@pk _ _ hc e false cx _ h)),λcx gs h=>aA h⟩
theorem acY(e:CE):cW n c (.raise e):=⟨by
 intro cx g h
 exact @ai1 _ _ _ _ _ (@sE _ _ _ _ (@pk _ _ hc e false cx _ h)),λcx gs h=>aA h⟩
theorem acR(o:CE)(a:Zc)(op:Xf)(e:CE):cW n c (.aug o a op e):=⟨by
 intro cx g h
 refine wu (P:=λs=>True→eJ n cx s _) h (λx hx h=>?_) trivial
 intro _
 obtain⟨h1,h2⟩:=aI h
 exact @aiU _ _ _ _ _ _ _ _ _ _ _ hx (@sE _ _ _ _ (@pk _ _ hc o false cx _ h1)) (@sE _ _ _ _ (@pk _ _ hc e false cx _ h2)),λcx gs h=>aA h⟩
theorem acW(t:CE){a b:CS}(ja:cW n c a)(jb:cW n c b):cW n c (.i t a b):=⟨by
 intro cx g h
 obtain⟨h1,h⟩:=aI h
 obtain⟨h2,h3⟩:=aI h
 exact @aiZ _ _ _ _ _ _ _ _ _ (@oV _ _ _ _ (@pk _ _ hc t true cx _ h1)) (@cW.b _ _ _ ja cx _ h2) (@cW.b _ _ _ jb cx _ h3),λcx gs h=>aA h⟩
theorem ac5(t:CE){b:CS}(jb:cW n c b):cW n c (.p4 t b):=⟨by
 intro cx g h
 obtain⟨h1,h2⟩:=aI h
 exact @ai7 _ _ _ _ _ (λhd=>aC T.S c hd t) (aj T.S c b) (@oV _ _ _ _ (@pk _ _ hc t true cx _ h1)) (@cW.b _ _ _ jb cx _ h2),λcx gs h=>aA h⟩
omit hc in
theorem IB{t:CT}{cx:aQ}{g:PE}(ht:tA t=false)(h:(gn t cx g).2=true):∀e env,X2 [(gn t cx g).1] e env=pure none:=by
 cases t with
 |loc i=>exact jC (P:=λu=>∀e env,X2 [u] e env=pure none) h λx _ _ e env=>rfl
 |da i=>exact jC (P:=λu=>∀e env,X2 [u] e env=pure none) h λx _ _ e env=>rfl
 |a o a=>exact jC (P:=λu=>∀e env,X2 [u] e env=pure none) h λx _ _ e env=>rfl
 |t o i=>exactλe env=>rfl
 |cut o i=>exactλe env=>rfl
 |tup ts=>exact aA ht.symm
omit hc in
theorem IY{t:CT}{P:CT→Prop}(h:tA t=true)(k:∀ts,P (.tup ts)):P t:=by
 revert h
 cases t<;>first|exactλh=>aA h|exactλ_=>k _
omit hc in
theorem YK{t:CT}{q:Zc×Zc}(h:yY t=some q):t=.tup [.loc q.1,.loc q.2]:=by
 have l1:∀{a:CT}{i:Zc},yY.l1 a=some i→a=.loc i:=by
  intro a i h
  revert h
  cases a<;>first|exactλh=>aF h|exactλh=>Za h▸rfl
 revert h
 cases t<;>first|exactλh=>aF h|skip
 exactλh=>AU h λx y e h=>oN h λi hi h=>oN h λj hj h=>by rw[e,l1 hi,l1 hj,←Za h]
omit hc in
theorem AS{e:PE}(h:mS 9 e=true):∃j p,e=.Tuple (kids e) j p:=ajX (P:=λe=>∃j p,e=.Tuple (kids e) j p) h λts j p=>⟨j,p,rfl⟩
theorem ac2(t:CT)(e:CE):cW n c (.s t e):=⟨by
 intro cx g h
 obtain⟨h1,h⟩:=aI h
 obtain⟨h2,h⟩:=aI h
 obtain⟨h3,h⟩:=aI h
 obtain⟨h4,h5⟩:=aI h
 have je:=@sE _ _ _ _ (@pk _ _ hc e false cx (br g 1) h4)
 have nc:∀(env:Env) l,swapsWithSole [(gn t cx (br g 0)).1] (cJ e false cx (br g 1)).1 l env=pure false:=λenv l=>by
  cases z:ay (Zi (dF (cJ e false cx (br g 1)).1).t 8)with
  |true=>exact(AJ _ (aI h1).1).aja z env l _
  |false=>exact(oI (aI h1).2).elim (λy=>aA (z.symm.trans y)) λy=>ajb (aI h1).1 z (eG y)
 have b5:Zl (dF (cJ e false cx (br g 1)).1).t 50=true:=(aI h1).1
 have main:(∀env:Env,(∀x,cx.cA.lookup x=some .cell→env.kindOf x=some .cell)→X2 [(gn t cx (br g 0)).1] (cJ e false cx (br g 1)).1 env=pure none)→eJ n cx ((gm (.s t e)).1 cx g).1 (aj T.S c (.s t e)):=by
  intro sw
  exact @ai4 _ _ _ _ _ _ _ (λenv=>nc env _) sw (λenv=>(dE h2).1.each (dE h2).2 env []) (@Af _ _ hc t cx _ h3) @je
 have tp:(tA t=true→∀env:Env,(∀x,cx.cA.lookup x=some .cell→env.kindOf x=some .cell)→X2 [(gn t cx (br g 0)).1] (cJ e false cx (br g 1)).1 env=pure none)→∀env:Env,(∀x,cx.cA.lookup x=some .cell→env.kindOf x=some .cell)→X2 [(gn t cx (br g 0)).1] (cJ e false cx (br g 1)).1 env=pure none:=λk=>by
  cases q:tA t with
  |true=>exact k q
  |false=>exactλenv _=>IB q h3 _ env
 rcases oI h5 with q|h
 ·exact @main λenv _=>IB (eG q) h3 _ env
 rcases oI h with q|h
 ·exact @main (tp λz env _=>IY (P:=λt=>X2 [(gn t cx (br g 0)).1] (cJ e false cx (br g 1)).1 env=pure none) z λts=>IC b5 q)
 rcases oI h with q|h
 ·refine @main (tp λz env hk=>?_)
  have key:∀ts,ay (aM (wy cx.cA) (kids (gn (.tup ts) cx (br g 0)).1))=true→X2 [(gn (.tup ts) cx (br g 0)).1] (cJ e false cx (br g 1)).1 env=pure none:=λts q=>by
   cases z9:mS 9 (cJ e false cx (br g 1)).1 with
   |false=>exact IC b5 (by rw[show Zi (dF (cJ e false cx (br g 1)).1).t 9=false from z9];rfl)
   |true=>
    obtain⟨j,p,eq⟩:=AS z9
    rw[eq];exact ajC hk (eG q)
  exact IY (P:=λt=>ay (aM (wy cx.cA) (kids (gn t cx (br g 0)).1))=true→X2 [(gn t cx (br g 0)).1] (cJ e false cx (br g 1)).1 env=pure none) z key q
 ·obtain⟨ij,hl,h⟩:=t5 h
  obtain⟨x,hx,h⟩:=t5 h
  obtain⟨y,hy,h⟩:=t5 h
  obtain⟨k1,h⟩:=aI h
  obtain⟨k2,h⟩:=aI h
  obtain⟨k3,h⟩:=aI h
  obtain⟨k4,h⟩:=aI h
  obtain⟨k5,h⟩:=aI h
  obtain⟨k6,h⟩:=aI h
  obtain⟨k7,k8⟩:=aI h
  have et:=YK hl
  subst et
  have e1:∀{i x g0},aB cx.ls i=some x→(rM i cx g0).1=.Name x g0.pos:=λe=>by unfold rM;rw[e];rfl
  have eu:(gn (.tup [.loc ij.1,.loc ij.2]) cx (br g 0)).1=.Tuple [.Name x _,.Name y _] (mA (br g 0)) (br g 0).pos:=Ze (λl=>Expr.Tuple l (mA (br g 0)) (br g 0).pos) (by
   show[(rM ij.1 cx _).1,(rM ij.2 cx _).1]=_
   rw[e1 hx,e1 hy])
  obtain⟨j,p,ee⟩:=AS k3
  rw[eu]at k5
  show eJ n cx (.Assign [(gn (.tup [.loc ij.1,.loc ij.2]) cx (br g 0)).1] (cJ e false cx (br g 1)).1 g.pos) _
  rw[eu]
  exact @ai5 _ _ _ _ _ _ _ _ _ _ _ _ _ _ (λenv=>eu▸nc env g.pos.line) (λenv fk hl=>by
   rw[ee]
   exact ajD ⟨Zr k2,k4,k5,eG k6,eG k7,eG k8⟩ fk (hl _ _ (jU hx)) (hl _ _ (jU hy))) (λq=>by rw[q,Wu]at k1;exact aA k1) (jU hx) (jU hy) @je,λcx gs h=>aA h⟩
theorem acV(kA:Zh)(t:CT)(it:CE){b:CS}(jb:cW n c b):cW n c (.fb kA t it b):=⟨by
 intro cx g h
 cases kA with
 |false=>
  obtain⟨h1,h⟩:=aI h
  obtain⟨h2,h⟩:=aI h
  obtain⟨h3,h⟩:=aI h
  obtain⟨h4,h⟩:=aI h
  obtain⟨h5,h6⟩:=aI h
  exact @aiX _ _ _ _ _ _ (λhd=>aC T.S c hd it) (λhd=>eZ T.S c hd t) (aj T.S c b) (dE h1).1.set ((dE h2).1.go (dE h2).2 (dE h3).2) (@sE _ _ _ _ (@pk _ _ hc it false cx _ h5)) (@Af _ _ hc t cx _ h4) (@cW.b _ _ _ jb cx _ h6)
 |true=>
  obtain⟨h1,h⟩:=aI h
  obtain⟨h2,h⟩:=aI h
  obtain⟨h3,h⟩:=aI h
  obtain⟨h4,h⟩:=aI h
  obtain⟨h5,h6⟩:=aI h
  have jt:=@Af _ _ hc t cx _ h4
  have st:=(dE h1).1.star (dE h1).2
  obtain⟨j,p,eu⟩:=AS h2
  show eJ n cx (.For (gn t cx (br g 0)).1 (.Call (.Name "enumerate" (aW (br g 1) 0).pos) [(cJ it false cx (aW (br g 1) 1)).1] [] (br g 1).pos) ((gm b).2 cx (lQ g 0)).1 [] g.pos) _
  revert jt
  rw[eu]
  intro jt
  exact @aiY _ _ _ _ _ _ _ _ _ _ _ (λhd=>aC T.S c hd it) (λhd=>eZ T.S c hd t) (aj T.S c b) (λenv=>by
   show(do let fv←eval (.Name "enumerate" (aW (br g 1) 0).pos) env;callWith (br g 1).pos fv [] (backTo (br g 1).pos (Xj [(cJ it false cx (aW (br g 1) 1)).1] env)) [])=_
   rw[st];rfl) FO.abq (eq_of_beq h3) FO.TU (@sE _ _ _ _ (@pk _ _ hc it false cx _ h5)) @jt (@cW.b _ _ _ jb cx _ h6),λcx gs h=>aA h⟩
theorem ac4(e:CE)(k:Zc)(a:Zj)(i:Zc){hb:CS}(jh:cW n c hb):cW n c (.AQ e k a i hb):=⟨by
 intro cx g h
 refine wu (P:=λs=>True→eJ n cx s _) h (λty VY h=>?_) trivial
 refine wu (P:=λs=>True→eJ n cx s _) h λpL hn h=>?_
 intro _
 obtain⟨h1,h⟩:=aI h
 obtain⟨h2,h⟩:=aI h
 obtain⟨h3,h⟩:=aI h
 obtain⟨h4,h⟩:=aI h
 obtain⟨h5,h6⟩:=aI h
 obtain⟨b',UP,h2⟩:=t5 h2
 have gl:T.S.gl k=some (.au a):=oN UP λv hv e=>by rw[hv,sj e,Zr h2]
 have jb:=@cW.b _ _ _ jh cx (lG (g9 (rs g).hs)).2.1 h6
 revert jb h4
 show ay ((gm hb).2 cx (lG (g9 (rs g).hs)).2.1).1.isEmpty=true→fC n cx ((gm hb).2 cx (lG (g9 (rs g).hs)).2.1).1 _→eJ n cx (.Try [.Expr (cJ e false cx (br (g9 (lQ g 0)) 0)).1 (g9 (lQ g 0)).pos] [.ExceptHandler (some (.Name ty (g9 (lG (g9 (rs g).hs)).1).pos)) (some pL) ((gm hb).2 cx (lG (g9 (rs g).hs)).2.1).1 (lG (g9 (rs g).hs)).2.2] [] [] g.pos) _
 generalize((gm hb).2 cx (lG (g9 (rs g).hs)).2.1).1=l
 intro h4 jb
 cases l with
 |nil=>exact aA h4
 |cons b bs=>exact @ai6 _ _ _ _ _ _ _ _ _ _ _ _ _ _ _ _ VY (eq_of_beq h1) gl (jU hn) (λenv=>(dE h3).1.ID (dE h3).2 env _) (@sE _ _ _ _ (@pk _ _ hc e false cx _ h5)) @jb,λcx gs h=>aA h⟩
omit hc in
theorem JV{env:Env}:∀{l:Zb Arg},aM (λa=>a.annotation.isNone) l=true→annotationsOf l env=[]:=by
 intro l
 induction l with
 |nil=>exactλ_=>rfl
 |cons a r ih=>
  obtain⟨x,an,p⟩:=a
  intro h
  obtain⟨h1,h2⟩:=kq h
  cases an with
  |none=>exact ih h2
  |some _=>exact aA h1
omit hc in
theorem Hv{a:Arguments}(h:Ae a=true):a=⟨[],a.args,none,[],[],none,a.defaults⟩:=by
 obtain⟨po,l,va,ko,kd,kw,d⟩:=a
 obtain⟨h1,h⟩:=aI h
 obtain⟨h2,h⟩:=aI h
 obtain⟨h3,h⟩:=aI h
 obtain⟨h4,h5⟩:=aI h
 rw[show po=[] from List.isEmpty_iff.mp h1,show va=none from Option.isNone_iff_eq_none.mp h2,show ko=[] from List.isEmpty_iff.mp h3,show kd=[] from List.isEmpty_iff.mp h4,show kw=none from Option.isNone_iff_eq_none.mp h5]
omit hc in
theorem LA{cx:aQ}{cl:Zb Zc}{fr:Zb Str}(h:(ag (λc=>aB cx.cs c) cl==ag some fr)=true):(∀(j:Zc)(y:Str),fr[j]?=some y→∃c:Zc,cl[j]?=some c∧cx.cs[c]?=some y)∧cl.length=fr.length:=by
 have e6:=eq_of_beq h
 rw[lJ,lJ]at e6
 refine⟨λj y e=>?_,?_⟩
 ·have z:(cl.map λc=>aB cx.cs c)[j]?=(fr.map some)[j]?:=Ze (·[j]?) e6
  rw[Xc,Xc,e]at z
  obtain⟨k,h1,h2⟩:=Option.map_eq_some_iff.mp z
  exact⟨k,h1,jU h2⟩
 ·have z:=Ze Su e6
  rw[Yi,Yi]at z;exact z
omit hc in
theorem acU(k j:Zc)(cl:Zb Zc):cW n c (.sY k j cl):=⟨by
 intro cx g h
 refine wu (P:=λs=>True→eJ n cx s _) h (λf hf h=>?_) trivial
 intro _
 obtain⟨h1,h⟩:=aI h
 obtain⟨h2,h⟩:=aI h
 obtain⟨h3,h⟩:=aI h
 obtain⟨h4,h⟩:=aI h
 obtain⟨h5,h⟩:=aI h
 obtain⟨h6,h7⟩:=aI h
 obtain⟨q0,hq,h7⟩:=t5 h7
 obtain⟨c1,c2⟩:=LA h6
 have pe:=Hv h3
 exact @aiW _ _ _ _ _ f.qual _ _ _ _ _ hf (eq_of_beq h1) (List.isEmpty_iff.mp h2) (by rw[pe]) (λenv=>by
  rw[pe]
  unfold annTrees
  show annotationsOf (f.params.args++[]++[]++[]++[]) env++[]=[]
  rw[X4,X4,X4,X4,X4];exact JV h4) (jU (eq_of_beq h5)) c1 c2 q0 hq (eq_of_beq h7),λcx gs h=>aA h⟩
theorem pks(s:CS):cW n c s:=CS.rec (motive:=cW n c) ac3 acX (λ_ _=>ac1) (acT hc) (acZ hc) ac0 (ac2 hc) (acR hc) (λt _ _=>acW hc t) (λt _=>ac5 hc t) (λkA t it _=>acV hc kA t it) (λe k a i _=>ac4 hc e k a i) (acY hc) acS acU s
end
end Mine
namespace Mine
inductive Jx(a:Zj)(f:aw):Prop
 |mk{fs:fN}{dvs:Zb Zf}{l:Zb Arg}{dx:Zb PE}{ls:Zb Str}{P:Zd Str}(o:rX T.h0 a fs [] dvs P)(d:∀Y h,Vs Y h f.hY dvs)(fr:bZ fs.scope.names=[])(rel:∀n c,lU n c→gD n c→o6 n f fs dvs.length l dx ls P (aj T.S c f.body))
inductive Jm(k:Zc)(f:aw):Prop
 |mk{fs:fN}{l:Zb Arg}{dx:Zb PE}{ls:Zb Str}(hk:T.S.fs k=some fs)(d:f.hY=[])(ce:cellsOf fs.scope.names=[])(rel:∀n c,lU n c→gD n c→o6 n f fs 0 l dx ls none (aj T.S c f.body))
def q7(l:Zb (Str×X5)):Zb Str:=(l.filter λp=>p.2==.local).map (·.1)
def yU(l:Zb (Str×X5))(x:Str)(k:X5):Zh:=l.lookup x==some k
def qI(fs:fN)(P:Zd Str):aQ:=⟨q7 fs.scope.names,cellsOf fs.scope.names++bZ fs.scope.names,fs.scope.names,P⟩
def xY{α:Type}(l:Zb α):Zb α:=Zo [] (λa _ ih=>a::ih) l
theorem LX{α:Type}(l:Zb α):xY l=l:=by
 induction l with
 |nil=>rfl
 |cons a r ih=>exact Ze (a::·) ih
def Gg(fs:fN)(l:Zb Str):Zb (Zd Zc):=l.map λx=>(fs.params.args.map (·.arg)).findIdx? (·==x)
section
variable(f:aw)(fs:fN)(nd:Zc)(P:Zd Str)
def wC:=(Ae fs.params,f.np,Zl nd fs.params.args.length,fs.scope.kind,fs.scope.isCoroutine,fs.scope.isGenerator,ag (λl=>tP (ag jw l)) [fs.params.args.map (·.arg),q7 fs.scope.names,cellsOf fs.scope.names],ag (λp=>fs.scope.names.lookup p.1) fs.scope.names,
 aM (λx=>aG (yU fs.scope.names x .local) (yU fs.scope.names x .cell)) (fs.params.args.map (·.arg)),ag (λx=>yU fs.scope.names x .local) (q7 fs.scope.names),aG (cellsOf fs.scope.names).isEmpty (bZ fs.scope.names).isEmpty,f.locs,f.e9,xY ((gm f.body).2 (qI fs P) fs.body).1,((gm f.body).2 (qI fs P) fs.body).2)
def wD:Zh×Zc×Zh×ScopeKind×Zh×Zh×Zb Zh×Zb (Zd X5)×Zh×Zb Zh×Zh×Zb (Zd Zc)×Zb (Zd Zc)×Zb Stmt×Zh:=(true,fs.params.args.length,true,.function,false,false,[true,true,true],ag (λp=>some p.2) fs.scope.names,
 true,ag (λ_=>true) (q7 fs.scope.names),true,Gg fs (q7 fs.scope.names),Gg fs (cellsOf fs.scope.names),fs.body,true)
end
theorem HN{f:aw}{fs:fN}{nd:Zc}{P:Zd Str}(q:wC f fs nd P=wD fs){n:Zc}{c:bc}(hs:lU n c)(hc:gD n c):o6 n f fs nd fs.params.args fs.params.defaults (q7 fs.scope.names) P (aj T.S c f.body):=by
 obtain⟨d1,y⟩:=gM (Ze (·.2.2.2.2.2.2.1) q)
 obtain⟨d2,y⟩:=gM y
 have b:xY ((gm f.body).2 (qI fs P) fs.body).1=fs.body:=Ze (·.2.2.2.2.2.2.2.2.2.2.2.2.2.1) q
 have z:fC n (qI fs P) ((gm f.body).2 (qI fs P) fs.body).1 (aj T.S c f.body):=@cW.b _ _ _ (@pks _ _ hc f.body) (qI fs P) fs.body (Ze (·.2.2.2.2.2.2.2.2.2.2.2.2.2.2) q)
 rw[(LX _).symm.trans b]at z
 exact⟨Hv (Ze (·.1) q),wf d1,Ze (·.2.1) q,Zm (Ze (·.2.2.1) q),Ze (·.2.2.2.1) q,Ze (·.2.2.2.2.1) q,Ze (·.2.2.2.2.2.1) q,kO (Ze (·.2.2.2.2.2.2.2.1) q),
  λx m=>bO (mm (Ze (·.2.2.2.2.2.2.2.2.1) q) x m) (λe=>.inl (eq_of_beq e)) λe=>.inr (eq_of_beq e),wf d2,λx m=>eq_of_beq (kO (Ze (·.2.2.2.2.2.2.2.2.2.1) q) x m),wf (gM y).1,
  bO (Ze (·.2.2.2.2.2.2.2.2.2.2.1) q) (λe=>.inl (List.isEmpty_iff.mp e)) λe=>.inr (List.isEmpty_iff.mp e),Ze (·.2.2.2.2.2.2.2.2.2.2.2.1) q,Ze (·.2.2.2.2.2.2.2.2.2.2.2.2.1) q,
  @z⟩
def Iu(b:FuncBody):Zb Stmt:=match b with
 |.stmts l=>l
 |_=>[]
noncomputable def QY(fd:FuncData):FuncData:=fnX fd.name fd.qualname fd.params (Iu fd.body) fd.scope [] fd.defaults fd.kwdefaults fd.doc fd.pyModule fd.annotations fd.code fd.closureTuple
def mj(v:Zf):Zc:=aa (refOf v) 0 λa=>a
def yl(fd:FuncData):fN:=⟨fd.name,fd.qualname,fd.params,Iu fd.body,fd.scope⟩
def pOf(fd:FuncData):Zd Str:=ae (Zi (mj fd.code) 1443) (some (fd.qualname++".<locals>.")) none
def sO(f:aw)(v:Zf):Zb Zf:=t8 f.hY (pV (aq (refOf v) gB)).1
def rp(a:Zc)(f:Obj→Data):Zd Obj:=aq (gB a) λo=>some ⟨o.cls,o.dict,f o,o.slots⟩
def yj(a:Zc)(f:aw):=(λfd:FuncData=>(gB a,aT (gB a),fd.code,gB (mj fd.code),aT (gB (mj fd.code)),(lw (gB (mj fd.code))).toArray[1]?,fd.defaults,aq (refOf fd.defaults) gB,aa (refOf fd.defaults) f.hY.isEmpty λt=>aT (gB t),aM pP f.hY,bZ fd.scope.names,wC f (yl fd) (sO f fd.defaults).length (pOf fd))) (fdOf (gB a))
def yk(a:Zc)(f:aw):=(λfd:FuncData=>(rp a λ_=>.func (QY fd),true,X3 (mj fd.code),rp (mj fd.code) λ_=>.fields (lw (gB (mj fd.code))).toArray,true,some (Value.str fd.qualname (aa ((lw (gB (mj fd.code))).toArray[1]?) 0 tk)),aa (refOf fd.defaults) Xa .ref,aq (refOf fd.defaults) λt=>rp t λ_=>.seq (sO f fd.defaults).toArray (pV (gB t)).2,true,true,([]:Zb Str),wD (yl fd))) (fdOf (gB a))
theorem QZ:fh yj yi []=fh yk yi []:=by kernel_rfl
def Ds(k:Zc)(f:aw):=(aT (aB oi k),f.hY.isEmpty,aq (aB oi k) λfs=>some (cellsOf fs.scope.names,wC f fs 0 none))
def Dt(k:Zc)(f:aw):=(true,true,aq (aB oi k) λfs=>some (([]:Zb Str),wD fs))
theorem Lz:fh Ds xT []=fh Dt xT []:=by kernel_rfl
theorem z8{a:Zc}{f:Obj→Data}(e:gB a=rp a f)(z:aT (gB a)=true):∃o,T.h0.get? a=some o∧∃p,o.data=f p:=oT (o:=gB a) (f:=λ_=>true) z λo q _=>by
 unfold rp at e
 rw[q]at e
 exact⟨⟨o.cls,o.dict,f o,o.slots⟩,kJ (q.trans e),o,rfl⟩
theorem E1{a:Zj}{f:aw}(e:T.S.fn a=some f):Jx a f:=by
 have q:yj a f=yk a f:=(nS QZ).2 a f e
 revert q
 unfold yj yk
 generalize fdOf (gB a)=fd
 intro q
 obtain⟨o,g,_,d⟩:=z8 (Ze (·.1) q) (Ze (·.2.1) q)
 obtain⟨co,g2,_,d2⟩:=z8 (Ze (·.2.2.2.1) q) (Ze (·.2.2.2.2.1) q)
 have hc:fd.code=.ref (mj fd.code):=Ze (·.2.2.1) q
 refine .mk (fs:=yl fd) (dvs:=sO f fd.defaults) (.mk g d ⟨_,co,_,_,hc,g2,d2,Ze (·.2.2.2.2.2.1) q⟩ (λz hz=>bN hz λe1 e2=>⟨hc.trans (Ze X3 (Zr e1)),Za e2⟩) ?_) (λ_ _=>Ai _ (Ze (·.2.2.2.2.2.2.2.2.2.1) q)) (Ze (·.2.2.2.2.2.2.2.2.2.2.1) q) λn c=>HN (Ze (·.2.2.2.2.2.2.2.2.2.2.2) q)
 have d1:fd.defaults=aa (refOf fd.defaults) .none .ref:=Ze (·.2.2.2.2.2.2.1) q
 have d2:aq (refOf fd.defaults) gB=aq (refOf fd.defaults) λt=>rp t λ_=>.seq (sO f fd.defaults).toArray (pV (gB t)).2:=Ze (·.2.2.2.2.2.2.2.1) q
 have d3:aa (refOf fd.defaults) f.hY.isEmpty (λt=>aT (gB t))=true:=Ze (·.2.2.2.2.2.2.2.2.1) q
 cases z:refOf fd.defaults with
 |none=>
  rw[z]at d1 d3
  exact .inl ⟨d1,by unfold sO;rw[List.isEmpty_iff.mp d3];rfl⟩
 |some t=>
  rw[z]at d1 d2 d3
  obtain⟨ob,g,_,d⟩:=z8 d2 d3
  exact .inr ⟨t,ob,_,d1,g,d⟩
theorem LB{k:Zc}{f:aw}(e:T.S.eK k=some f):Jm k f:=by
 have q:Ds k f=Dt k f:=(nS Lz).2 k f e
 have q3:(aq (aB oi k) λfs=>some (cellsOf fs.scope.names,wC f fs 0 none))=aq (aB oi k) λfs=>some (([]:Zb Str),wD fs):=Ze (·.2.2) q
 refine oT (o:=aB oi k) (f:=λ_=>true) (Ze (·.1) q) λfs z _=>?_
 rw[z]at q3
 have q3:=Za q3
 exact .mk z (List.isEmpty_iff.mp (Ze (·.2.1) q)) (Ze Xq q3) λn c=>HN (Ze Vp q3)
theorem rX.keeps{h h':Yc}{a:Zj}{fs:fN}{cells:Zb (Str×Zj)}{dvs:Zb Zf}{P:Zd Str}(k:h.StaysIn h'):rX h a fs cells dvs P→rX h' a fs cells dvs P
 |.mk g d cr hp df=>.mk (k _ _ g) d (cr.elim λc z=>z.elim λco z=>z.elim λvs z=>z.elim λt z=>⟨c,co,vs,t,z.1,k _ _ z.2.1,z.2.2⟩) hp (df.imp id λz=>z.elim λt z=>z.elim λob z=>z.elim λnn z=>⟨t,ob,nn,z.1,k _ _ z.2.1,z.2.2⟩)
theorem WP{fv:AV}{P:AV→Prop}(s:∀a,P (.au a))(cl:∀k l,P (.eK k l))(h:vJ fv=true):P fv:=by
 revert h;cases fv<;>first|exact aA|exactλ_=>s _|exactλ_=>cl _ _
theorem Lc{n:Zc}{c:bc}(hs:lU n c)(hc:gD n c):lU (n+1) (nV T.S c):=λ{k W fv args u us r} hn ao kf rf rv len hr hb=>by
 revert rf hr
 refine WP (P:=λfv=>W.V fv u→nV T.S c k.hd fv args W.H=r→codeAny T.M k.A (.call u ⟨us,[]⟩) (nI k W r) W.s) (λa rf hr=>?_) (λj cl rf hr=>?_) kf
 ·have hr:aa (T.S.fn a) (aa (T.S.cls a) AM.fail (v5 c k.hd a args)) (λf=>qG (aj T.S c f.body) k.hd f [] args) W.H=r:=hr
  rw[show u=.ref a from rf]
  cases q:T.S.fn a with
  |some f=>
   rw[q]at hr
   obtain⟨o,d,fr,rel⟩:=E1 q
   exact E0 (rel n c hs hc) hn ao rv (o.keeps W.R.base) (d _ _) (.inl rfl) (λj x e=>by rw[fr]at e;exact nomatch e) hr hb
  |none=>
   rw[q]at hr
   cases q2:T.S.cls a with
   |none=>rw[q2]at hr;exact Y8 hr.symm hb
   |some ci=>rw[q2]at hr;exact ZQ hs q2 hn ao rv len hr hb
 ·have hr:aa (T.S.eK j) AM.fail (λf=>qG (aj T.S c f.body) k.hd f cl args) W.H=r:=hr
  cases q:T.S.eK j with
  |none=>rw[q]at hr;exact Y8 hr.symm hb
  |some f=>
   rw[q]at hr
   obtain⟨hk,d,ce,rel⟩:=LB q
   obtain⟨q1,VE,ho,hf,Fs,hq,hd,h1,ha,l⟩:=(rf:hL W.Y W.h j cl u)
   have e:=Za (hk.symm.trans VE)
   subst e
   rw[q1]
   exact E0 (dvs:=[]) (rel n c hs hc) hn ao rv (.mk ho.g hf ⟨_,_,_,_,rfl,hq.g,hd,h1⟩ (λ_ e=>nomatch e) (.inl ⟨rfl,rfl⟩)) (by rw[d];exact rfl) (.inr ce) ha hr hb
theorem Gl{h:Yc}{a:Zj}{o:Obj}{fd:FuncData}(g:h.get? a=some o)(d:o.data=.func fd):p8 T.M (.ref a) h:=⟨.frame,λ{A Q E s} k q=>by
 unfold keeperOf
 refine Zg (wpAny_load (k _ _ g) ?_)
 rw[d]
 exact Zq q⟩
theorem Ld{c:bc}{hd:Zh}{fv:AV}{args:Zb AV}{H:AH}{P:AV→Prop}(h:nV T.S c hd fv args H≠.bad)(s:∀a,P (.au a))(cl:∀k l,P (.eK k l))(b:∀b,P (.bl b))(t:∀t,P (.ty t)):P fv:=by
 revert h;cases fv<;>first|exactλh=>Y8 rfl h|exactλ_=>s _|exactλ_=>cl _ _|exactλ_=>b _|exactλ_=>t _
theorem Lf{n:Zc}{c:bc}(hs:lU (n+1) (nV T.S c)):gD (n+1) (nV T.S c):=λ{k W fv args u us r} hn ao rf rv len hr hb=>by
 have h8:k.n≤122:=Ph (Nat.lt_of_mul_lt_mul_left (a:=8) (Yy (Zu (Nat.le_add_left _ _) ao.depth) (by decide)))
 have s7:vJ fv=true→wpAny T.M k.A (call u us) (aS VV W r) (cV k.envs W r) W.s:=λkf=>S6 (T9 (hs hn ao kf rf rv (Zu (Xn len (hn▸h8)) (by decide)) hr hb) λx s z=>by
  cases z with
  |ok z=>exact z
  |ex z=>exact z)
 have nb:nV T.S c k.hd fv args W.H≠.bad:=λq=>hb (hr.symm.trans q)
 revert hr rf s7
 refine Ld (c:=c) (hd:=k.hd) (args:=args) (H:=W.H) (P:=λfv=>W.V fv u→nV T.S c k.hd fv args W.H=r→(vJ fv=true→wpAny T.M k.A (call u us) (aS VV W r) (cV k.envs W r) W.s)→p8 T.M u W.h∧wpAny T.M k.A (call u us) (aS VV W r) (cV k.envs W r) W.s) nb (λa rf hr s7=>⟨?_,s7 rfl⟩) (λj cl rf hr s7=>⟨?_,s7 rfl⟩) (λb rf hr _=>?_) (λt rf hr _=>?_)
 ·rw[show u=.ref a from rf]
  cases q:T.S.fn a with
  |some f=>
   obtain⟨o,_⟩:=E1 q
   obtain⟨g,d⟩:=o
   exact Gl (W.R.base _ _ g) d
  |none=>
   cases q2:T.S.cls a with
   |some ci=>
    obtain⟨K,X⟩:=FO.cls a ci q2
    exact(looks_keep X.keep (X.dG.keeps W.R.base)).elim λk z=>⟨k,z.2⟩
   |none=>
    have hr:aa (T.S.fn a) (aa (T.S.cls a) AM.fail (v5 c k.hd a args)) (λf=>qG (aj T.S c f.body) k.hd f [] args) W.H=r:=hr
    rw[q,q2]at hr
    exact Y8 hr.symm hb
 ·obtain⟨q1,_,ho,hf⟩:=(rf:hL W.Y W.h j cl u)
  rw[q1]
  exact Gl ho.g hf
 ·rw[show u=.builtin b.name from rf]
  exact⟨⟨.machine,T1 rfl⟩,KH ao.hand rv hr hb⟩
 ·rw[show u=.type t.name from rf]
  exact⟨⟨.machine,T1 rfl⟩,aj5 ao.hand rv hr hb⟩
theorem Li(n:Zc):lU n (e8 T.S n)∧gD n (e8 T.S n):=by
 induction n with
 |zero=>exact⟨λ{k W fv args u us r} _ _ _ _ _ _ hr hb=>Y8 hr.symm hb,λ{k W fv args u us r} _ _ _ _ _ hr hb=>Y8 hr.symm hb⟩
 |succ n ih=>
  have z:lU (n+1) (e8 T.S (n+1)):=Lc ih.1 ih.2
  exact⟨z,Lf z⟩
end Mine
end
noncomputable section
open PySem PySem.W
namespace Mine
structure St where
 v:Zc→Zh
 n:Zc→Zw
 fl:Zb AV
 ds:Zb AV
 xs:Zb AV
 rd:Zc
 lk:Zc
 tk:Zc
def bI(v:Zc→Zh)(i:Zc)(b:Zh):Zc→Zh:=λj=>ae (Zi j i) b (v j)
def de(n:Zc→Zw)(i:Zc)(x:Zw):Zc→Zw:=λj=>ae (Zi j i) x (n j)
section
variable(s:St)
def oo(k:Zc):Zd Zw:=ae (s.v k) (some (s.n k)) none
def nR(k p:Zc):Zd Zw:=ae (Zi (Zn (Yd 3 p) k) 0) (some (s.n 0)) (oo s (Zn (Yd 3 p) k))
def yW(p q:Zc):Zb Zc:=ae (s.v (Zk q)) [1,p] (p::ae (s.v q) [1] [])
def Gx:Zb Zc:=ae (s.v 20) [1,4,2] (4::ae (s.v 16) [1,2] (ae (s.v 15) [2,1] (ae (s.v 19) [1,2] [2])))
def oF(p:Zc):Zb Zc:=Zz [] (λ_ _=>Zz [1] (λ_ _=>Zz (aD (yW s 2 15) [0]) (λ_ _=>Zz (aD (yW s 3 17) [0]) (λ_ _=>aD (Gx s) [0]) (Yh p 3)) (Yh p 2)) (Yh p 1)) p
def zS(p:Zc):Zb Zc:=Zz [] (λ_ _=>ae (Zi p 3) [3,2] [p]) p
def fJ(i:Zc):Zc:=ae (Zl i 1) 0 (Uj (Zn i 1) 3)
def gz(i:Zc):Zc:=ae (Zl i 1) i (V9 (Yh i 2) 3)
def oa(l:Zb (Zd Zw)):Zd Zw:=Zo none (λa _ ih=>dS a ih) l
def c5(i:Zc):Zh:=Zi (gz i) 2
def look(i:Zc):Zd Zw:=oa (ag (nR s (gz i)) (ae (c5 i) (oF s (fJ i)) (aD (zS (fJ i)) (aD (oF s (fJ i)) [0]))))
def asks(i:Zc):Zh:=aG (c5 i) (ay (aT (oa (ag (nR s (gz i)) (zS (fJ i))))))
def val(o:Zd Zw):Zw:=aa o 0 λx=>x
def vO(p:Zc):Zc:=Zz 25 (λ_ _=>Zn 20 p) p
def rd(c:Zh)(i:Zc):St:=
 {s with
  v:=bI (bI (bI s.v (vO (fJ i)) (aG (s.v (vO (fJ i))) (ak (ay (s.v (Zn 30 i))) (asks s i)))) (Zn 30 i) (ak c (aG (c5 i) (aG (s.v (Zn 30 i)) (aT (look s i)))))) (Zn 50 i) (ae (s.v (Zn 30 i)) (s.v (Zn 50 i)) (aT (look s i)))
  n:=de (de s.n (Zn 30 i) (ae (s.v (Zn 30 i)) (s.n (Zn 30 i)+1) (s.n (Zn 30 i)))) (Zn 60 i) (ae (s.v (Zn 30 i)) (ae (c5 i) (ae (s.v (Zn 50 i)) (s.n (Zn 60 i)) 0) (s.n (Zn 60 i))) (val (look s i)))}
end
end Mine
namespace Mine
def bk(s:St)(j:Zc):Zc:=Zn s.lk (Uj (Yh j 2) 3)
def jW(o:Zd Zw):Zd AV:=aa o none λi=>some (.int i)
def vI(o:Zd Zw):AV:=aa o .none .int
noncomputable def eX(i:Zw):AV:=(.dh 327 [(24,(.sy 239)),(14,.any),(36,(.sy 146)),(37,.none),(38,(.int i)),(39,(.sy 35)),(40,(.tup [])),(41,.none)])
def eO(o:Zd Zw):Zd AV:=aa o none λi=>some (eX i)
def fL(b:Zh):Zb AV:=ae b [.ref 34] []
def aL(op a b c:AV):AV:=.dh 1071 [(98,op),(126,a),(128,b),(187,c),(194,.int 0)]
noncomputable def fG(n:Zw)(ow:AV)(nm:AV)(ic:Zh)(par out me co mi ah na ke:AV):AO:=.inst 299 [(13,.int n),(14,ow),(15,.bz),(16,.none),(17,.bool false),(18,.none),(24,nm),(25,.bool ic),(26,par),(27,out),(28,me),(29,co),(30,mi),(31,ah),(32,.none),(33,na),(34,ke)]
def spR(p:Zc):AV:=.ref (aa (aB [5,34,37,42,47] p) 0 λi=>i)
def vU(s:St)(p:Zc):Zb AV:=aD (ag spR (oF s p)) (ae (Zi p 1) [] [.ref 11,.ref 8])
def q5(b:Zh)(l:Zb AV):AV:=.tup [.cB 1 b,ae b (.af l) .any]
def lq(s:St)(i:Zc)(l:Zb Zw):AO:=.inst 572 [(67,.dA 0 (s.v (Zn 30 i))),(40,ae (s.v (Zn 30 i)) (.af (ag .int l)) .any),(49,ae (s.v (Zn 30 i)) (.int (s.n (Zn 60 i))) .any),(68,.int (s.n (Zn 30 i))),(69,.md 1 0)]
def vQ(s:St)(i:Zc)(n:Zw):AO:=.inst 957 [(71,.cB 1 (s.v (Zn 30 i))),(13,.int n),(24,.sy 239),(54,ae (s.v (Zn 30 i)) (ae (s.v (Zn 50 i)) (eX (s.n (Zn 60 i))) .none) .any),(68,.int (s.n (Zn 30 i))),(69,.md 1 0)]
noncomputable def pH:AV:=.dh 299 [(13,.any),(14,.any),(15,.bz),(16,.none),(17,(.bool false)),(18,.none),(24,(.sy 213)),(25,(.bool true)),(26,(.ref 5)),(27,.none),(28,.bz),(29,.bz),(30,(.af [])),(31,(.af [])),(32,.none),(33,(.sy 213)),(34,.none)]
noncomputable def y8(i:Zc)(nr:AV):AO:=(.inst 153 [(13,nr),(14,(.ref 27)),(15,.bz),(16,.none),(17,(.bool false)),(18,.none),(21,(.ref i))])
noncomputable def ltV(l:Zb AV):AV:=.dh 153 [(13,.any),(14,.any),(15,.bz),(16,.none),(17,(.bool false)),(18,.none),(21,.af l)]
noncomputable def RW(cd:Zc)(pc:Zw)(sk sf:Zc)(ne:Zb AV):AO:=(.inst 546 [(41,(.ref cd)),(59,(.int pc)),(60,(.ref sk)),(61,(.dh 482 [(51,(.af [])),(27,.none)])),(62,(.dh 511 [(53,(.ref sf)),(54,.none),(55,(.af [])),(56,.none),(13,.any),(40,(.tup ne)),(57,(.ref sf)),(36,(.sy 173)),(58,(.bool false)),(39,(.sy 35))])),(13,(.md 1 0)),(63,.none),(64,.none),(65,.none),(66,.none),(50,.none),(39,(.sy 35))])
noncomputable def Ku(b cd sf:Zc)(ne:Zb AV)(pc:Zw)(l:Zb AV):Zb AO:=[.list [.ref (Zn b 3)],RW cd pc b sf ne,.list l,y8 (Zn b 2) (.md 1 0)]
def b0:AO:=.tab
noncomputable def b1(s:St):AO:=(.dict [((.sy 68),(.int (s.n 50))),((.sy 276),(.int (s.n 51))),((.sy 34),.any)])
def b2(s:St):AO:=(.list s.fl)
noncomputable def b3(r:Zc):AO:=(.inst 1406 [(137,.bz),(141,.bz),(142,.none),(199,(.int 20000)),(200,(.cnt r 0)),(201,(.md 1 0)),(202,(.int 8)),(203,.bz),(204,(.ref 4)),(71,(.cB 1 true)),(70,(.cB 0 true)),(105,.bz),(205,(.af [])),(206,(.bool true)),(86,(.dh 111 [(13,.any),(14,.any),(15,.bz),(16,.none),(17,(.bool false)),(18,.none)]))])
noncomputable def b4:AO:=(.dict [((.sy 83),(.ref 5)),((.sy 301),(.ref 8)),((.sy 185),(.ref 9)),((.sy 213),pH),((.sy 298),(.ref 11)),((.sy 220),(.ref 27)),((.sy 300),(.ref 28)),((.sy 224),(.ref 29)),((.sy 316),(.ref 30)),((.sy 312),(.ref 31)),((.sy 218),(.ref 32)),((.sy 299),(.ref 33))])
def b5(s:St):AO:=(fG 2 (.ref 9) (.sy 83) true (.ref 8) .none (.ref 6) (.ref 7) (.af [(.ref 11)]) (.af []) (.sy 83) (q5 (s.v 22) [(.ref 5),(.ref 11),(.ref 8)]))
def b6(s:St):AO:=(.map [(239,(eO (oo s 2)))])
def b7(s:St):AO:=(.map [(236,(some (.int (s.n 0)))),(237,(jW (oo s 1))),(246,(some (.ref 34))),(244,(some (.ref 37))),(245,(some (.ref 47)))])
def b8(s:St):AO:=(fG 3 (.ref 9) (.sy 301) true .none .none .bz .bz (.af []) (.af []) (.sy 301) (q5 (s.v 22) [(.ref 8)]))
def b9:AO:=(fG 4 (.ref 9) (.sy 185) true pH .none .bz .bz (.af []) (.af []) (.sy 185) .none)
def qC(s:St):AO:=(.dict [((.sy 287),(.af s.ds)),((.sy 288),(.int (Zx s.rd))),((.sy 276),(.ref 26))])
def qD:AO:=(fG 6 pH (.sy 298) false .none .none .bz .bz (.af []) (.af []) (.sy 298) .none)
def qE:AO:=(.cell (some (.ref 10)))
noncomputable def xC:AO:=(.dict [((.sy 230),(.au 741)),((.sy 231),(.au 762)),((.sy 4),(.au 720)),((.sy 232),(.au 713)),((.sy 2),(.au 755)),((.sy 207),(.au 748)),((.sy 249),(.au 727)),((.sy 247),(.au 734)),((.sy 241),(.au 769)),((.sy 173),(.au 1039)),((.sy 176),(.au 1046)),((.sy 238),(.eK 0 [12])),((.sy 248),(.eK 1 [12])),((.sy 251),(.eK 2 [12])),((.sy 250),(.eK 3 []))])
noncomputable def CJ:AO:=(.inst 702 [(73,(.ref 3)),(74,(.ref 13)),(75,(.bool true)),(76,(.ref 15)),(77,.none),(78,(.int 5)),(79,(.ref 16)),(29,(.ref 17)),(80,.none)])
noncomputable def CH:AO:=(.inst 702 [(73,(.ref 3)),(74,(.ref 13)),(75,(.bool false)),(76,(.ref 15)),(77,.none),(78,(.int 5)),(79,(.ref 16)),(29,(.ref 17)),(80,.none)])
def CK(ar:Zb AV):AO:=(.list ar)
noncomputable def Km:AO:=(.dict [((.tup [(.int 5),(.int 12)]),(.ref 64)),((.tup [(.int 2),(.int 12)]),(.ref 65)),((.tup [(.int 3),(.int 12)]),(.ref 66)),((.tup [(.int 4),(.int 12)]),(.ref 67))])
def Kl:AO:=(.dict [])
noncomputable def Kn:AO:=(.dict [((.tup [(.int 1),(.int 6)]),(.ref 54)),((.tup [(.int 1),(.int 11)]),(.ref 55)),((.tup [(.int 5),(.int 2)]),(.ref 56)),((.tup [(.int 5),(.int 7)]),(.ref 57)),((.tup [(.int 2),(.int 2)]),(.ref 58)),((.tup [(.int 2),(.int 7)]),(.ref 59)),((.tup [(.int 3),(.int 2)]),(.ref 60)),((.tup [(.int 3),(.int 7)]),(.ref 61)),((.tup [(.int 4),(.int 2)]),(.ref 62)),((.tup [(.int 4),(.int 7)]),(.ref 63))])
def sD:AO:=(.dict [])
noncomputable def xD:AO:=(.inst 1134 [(143,(.sy 173)),(24,(.sy 243)),(37,.none),(51,(.af [])),(94,(.af [(aL (.sy 207) (.int 0) .none .none),(aL (.sy 230) (.sy 236) .none .none),(aL (.sy 231) (.int 5) .none .none),(aL (.sy 4) .none .none .none),(aL (.sy 232) (.int 0) .none .none),(aL (.sy 2) .none .none .none),(aL (.sy 230) (.sy 237) .none .none),(aL (.sy 231) (.int 10) .none .none),(aL (.sy 4) .none .none .none),(aL (.sy 232) (.int 0) .none .none),(aL (.sy 2) .none .none .none),(aL (.sy 238) (.sy 239) .none .none),(aL (.sy 2) .none .none .none),(aL (.sy 241) .none .none .none)])),(197,(.af [(.dh 1099 [(36,(.sy 234)),(195,(.int 1)),(196,(.int 2)),(123,(.int 3)),(122,(.int 1))]),(.dh 1099 [(36,(.sy 234)),(195,(.int 6)),(196,(.int 7)),(123,(.int 8)),(122,(.int 1))])])),(81,(.af [])),(90,(.af [(.int 0)])),(13,(.int 3))])
noncomputable def xE:AO:=(.inst 1134 [(143,(.sy 173)),(24,(.sy 244)),(37,.none),(51,(.af [])),(94,(.af [(aL (.sy 207) (.int 0) .none .none),(aL (.sy 230) (.sy 236) .none .none),(aL (.sy 231) (.int 5) .none .none),(aL (.sy 4) .none .none .none),(aL (.sy 232) (.int 0) .none .none),(aL (.sy 2) .none .none .none),(aL (.sy 230) (.sy 237) .none .none),(aL (.sy 231) (.int 10) .none .none),(aL (.sy 4) .none .none .none),(aL (.sy 232) (.int 0) .none .none),(aL (.sy 2) .none .none .none),(aL (.sy 238) (.sy 239) .none .none),(aL (.sy 2) .none .none .none),(aL (.sy 173) (.sy 243) (.int 0) (.bool false)),(aL (.sy 2) .none .none .none),(aL (.sy 241) .none .none .none)])),(197,(.af [(.dh 1099 [(36,(.sy 234)),(195,(.int 1)),(196,(.int 2)),(123,(.int 3)),(122,(.int 1))]),(.dh 1099 [(36,(.sy 234)),(195,(.int 6)),(196,(.int 7)),(123,(.int 8)),(122,(.int 1))])])),(81,(.af [(.ref 18)])),(90,(.af [(.int 0)])),(13,(.int 2))])
noncomputable def xF:AO:=(.inst 1134 [(143,(.sy 173)),(24,(.sy 245)),(37,.none),(51,(.af [])),(94,(.af [(aL (.sy 207) (.int 0) .none .none),(aL (.sy 230) (.sy 236) .none .none),(aL (.sy 231) (.int 5) .none .none),(aL (.sy 4) .none .none .none),(aL (.sy 232) (.int 0) .none .none),(aL (.sy 2) .none .none .none),(aL (.sy 230) (.sy 237) .none .none),(aL (.sy 231) (.int 10) .none .none),(aL (.sy 4) .none .none .none),(aL (.sy 232) (.int 0) .none .none),(aL (.sy 2) .none .none .none),(aL (.sy 238) (.sy 239) .none .none),(aL (.sy 2) .none .none .none),(aL (.sy 241) .none .none .none)])),(197,(.af [(.dh 1099 [(36,(.sy 234)),(195,(.int 1)),(196,(.int 2)),(123,(.int 3)),(122,(.int 1))]),(.dh 1099 [(36,(.sy 234)),(195,(.int 6)),(196,(.int 7)),(123,(.int 8)),(122,(.int 1))])])),(81,(.af [])),(90,(.af [(.int 0)])),(13,(.int 4))])
noncomputable def xG:AO:=(.inst 1134 [(143,(.sy 173)),(24,(.sy 246)),(37,.none),(51,(.af [])),(94,(.af [(aL (.sy 207) (.int 0) .none .none),(aL (.sy 230) (.sy 236) .none .none),(aL (.sy 231) (.int 5) .none .none),(aL (.sy 4) .none .none .none),(aL (.sy 232) (.int 0) .none .none),(aL (.sy 2) .none .none .none),(aL (.sy 230) (.sy 237) .none .none),(aL (.sy 231) (.int 10) .none .none),(aL (.sy 4) .none .none .none),(aL (.sy 232) (.int 0) .none .none),(aL (.sy 2) .none .none .none),(aL (.sy 238) (.sy 239) .none .none),(aL (.sy 2) .none .none .none),(aL (.sy 241) .none .none .none)])),(197,(.af [(.dh 1099 [(36,(.sy 234)),(195,(.int 1)),(196,(.int 2)),(123,(.int 3)),(122,(.int 1))]),(.dh 1099 [(36,(.sy 234)),(195,(.int 6)),(196,(.int 7)),(123,(.int 8)),(122,(.int 1))])])),(81,(.af [])),(90,(.af [(.int 0)])),(13,(.int 5))])
noncomputable def xH:AO:=(.inst 1134 [(143,(.sy 87)),(24,(.sy 86)),(37,.none),(51,(.af [(.sy 252)])),(94,(.af [(aL (.sy 207) (.int 0) .none .none),(aL (.sy 247) (.int 0) (.int 0) .none),(aL (.sy 248) .none .none .none),(aL (.sy 249) (.int 0) (.int 0) .none),(aL (.sy 207) (.int 0) .none .none),(aL (.sy 230) (.sy 236) .none .none),(aL (.sy 231) (.int 9) .none .none),(aL (.sy 4) .none .none .none),(aL (.sy 232) (.int 0) .none .none),(aL (.sy 2) .none .none .none),(aL (.sy 230) (.sy 237) .none .none),(aL (.sy 231) (.int 14) .none .none),(aL (.sy 4) .none .none .none),(aL (.sy 232) (.int 0) .none .none),(aL (.sy 2) .none .none .none),(aL (.sy 176) (.sy 246) (.int 2) .none),(aL (.sy 2) .none .none .none),(aL (.sy 173) (.sy 244) (.int 0) (.bool false)),(aL (.sy 2) .none .none .none),(aL (.sy 250) .none .none .none),(aL (.sy 173) (.sy 245) (.int 1) (.bool true)),(aL (.sy 2) .none .none .none),(aL (.sy 2) .none .none .none),(aL (.sy 4) .none .none .none),(aL (.sy 251) (.int 2) .none .none),(aL (.sy 249) (.int 0) (.int 0) .none),(aL (.sy 241) .none .none .none)])),(197,(.af [(.dh 1099 [(36,(.sy 234)),(195,(.int 5)),(196,(.int 6)),(123,(.int 7)),(122,(.int 2))]),(.dh 1099 [(36,(.sy 234)),(195,(.int 10)),(196,(.int 11)),(123,(.int 12)),(122,(.int 2))])])),(81,(.af [(.ref 19),(.ref 20),(.ref 21)])),(90,(.af [(.int 0)])),(13,(.int 1))])
def CL(db:Zb AV):AO:=(.list db)
def CM:AO:=(.list [(.ref 53)])
noncomputable def CN(pc:Zw):AO:=(.inst 546 [(41,(.ref 22)),(59,(.int pc)),(60,(.ref 23)),(61,(.dh 482 [(51,(.ref 24)),(27,.none)])),(62,(.dh 511 [(53,(.dh 111 [(13,.any),(14,.any),(15,.bz),(16,.none),(17,(.bool false)),(18,.none)])),(54,.none),(55,(.af [])),(56,.none),(13,.any),(40,(.af [])),(57,(.ref 5)),(36,(.sy 87)),(58,(.bool false)),(39,(.sy 88))])),(13,(.int 7)),(63,.none),(64,.none),(65,.none),(66,.none),(50,.none),(39,(.sy 35))])
def CO(s:St)(r:Zc)(j:Zc):AO:=(.iG r (bk s j) 0)
noncomputable def CP:AO:=(fG 9 (.ref 9) (.sy 220) true (.ref 5) .none .bz .bz (.af [(.ref 28)]) (.af []) (.sy 220) .any)
def CQ:AO:=(fG 10 pH (.sy 300) false .none .none .bz .bz (.af []) (.af []) (.sy 300) .any)
def CU:AO:=(fG 13 (.ref 9) (.sy 224) true (.ref 30) .none .bz .bz (.af []) (.af []) (.sy 224) .any)
def CV:AO:=(fG 14 (.ref 9) (.sy 316) true (.ref 31) .none .bz .bz (.af []) (.af []) (.sy 316) .any)
def CW:AO:=(fG 15 (.ref 9) (.sy 312) true (.ref 5) .none .bz .bz (.af []) (.af []) (.sy 312) .any)
noncomputable def CX:AO:=(fG 17 (.ref 9) (.sy 218) true (.ref 5) .none .bz .bz (.af [(.ref 33)]) (.af []) (.sy 218) .any)
def CY:AO:=(fG 18 pH (.sy 299) false .none .none .bz .bz (.af []) (.af []) (.sy 299) .any)
def CZ(s:St):AO:=(fG 19 pH (.sy 246) false .none .none (.ref 35) (.ref 36) (.af []) (.af []) .none (q5 (s.v 21) (vU s 1)))
def C1(s:St):AO:=(.map [(239,(eO (oo s 5)))])
def C2(s:St):AO:=(.map [(236,(jW (oo s 3))),(237,(jW (oo s 4)))])
def C3(s:St):AO:=(fG 24 (.ref 9) (.sy 244) true (.ref 5) .none (.ref 38) (.ref 39) (.ref 40) (.ref 41) .none (q5 (s.v 22) (vU s 2)))
def C4(s:St):AO:=(.map [(239,(eO (oo s 8)))])
def C5(s:St):AO:=(.map [(236,(jW (oo s 6))),(237,(jW (oo s 7))),(243,(some (.ref 42)))])
def C6(s:St):AO:=(.list (fL (s.v 15)))
def C7(s:St):AO:=(.list (fL (s.v 16)))
def C8(s:St):AO:=(fG 29 (.ref 9) (.sy 243) true (.ref 5) (.ref 37) (.ref 43) (.ref 44) (.ref 45) (.ref 46) .none (q5 (s.v 23) (vU s 3)))
def C9(s:St):AO:=(.map [(239,(eO (oo s 11)))])
def Da(s:St):AO:=(.map [(236,(jW (oo s 9))),(237,(jW (oo s 10)))])
def Db(s:St):AO:=(.list (fL (s.v 17)))
def Dc(s:St):AO:=(.list (fL (s.v 18)))
def Dd(s:St):AO:=(fG 34 (.ref 9) (.sy 245) true (.ref 37) .none (.ref 48) (.ref 49) (.ref 50) (.ref 51) .none (q5 (s.v 24) (vU s 4)))
def De(s:St):AO:=(.map [(239,(eO (oo s 14)))])
def Df(s:St):AO:=(.map [(236,(jW (oo s 12))),(237,(jW (oo s 13)))])
def Dg(s:St):AO:=(.list (fL (s.v 19)))
def Dh(s:St):AO:=(.list (fL (s.v 20)))
def xI(s:St):AO:=(.list s.xs)
noncomputable def Di:AO:=(.inst 153 [(13,(.int 8)),(14,(.ref 27)),(15,.bz),(16,.none),(17,(.bool false)),(18,.none),(21,(.ref 52))])
def tT(s:St)(r j:Zc)(pc:Zw)(db ar:Zb AV):Tr AO:=(.node b0 (.node (b1 s) (.node (b3 r) (.node (b7 s) (.node (CK ar) (.node CW (.node (lq s 12 [34]) .nil .nil) .nil) (.node (Dd s) .nil .nil)) (.node (CL db) (.node (C5 s) .nil .nil) (.node (lq s 1 []) .nil .nil))) (.node qD (.node xE (.node (C1 s) (.node (vQ s 13 34) .nil .nil) .nil) (.node (Dh s) .nil .nil)) (.node CP (.node (C9 s) .nil .nil) (.node (lq s 6 [24]) .nil .nil)))) (.node (b5 s) (.node b9 (.node Kn (.node CY (.node (vQ s 7 24) .nil .nil) .nil) (.node (Df s) .nil .nil)) (.node (CN pc) (.node (C7 s) .nil .nil) (.node (lq s 3 [19]) .nil .nil))) (.node xC (.node xG (.node (C3 s) .nil .nil) (.node Di .nil .nil)) (.node CU (.node (Db s) .nil .nil) (.node (lq s 9 [29,24]) .nil .nil))))) (.node (b2 s) (.node b4 (.node (b8 s) (.node Km (.node CX (.node (vQ s 4 19) .nil .nil) .nil) (.node (De s) .nil .nil)) (.node CM (.node (C6 s) .nil .nil) (.node (lq s 2 [19]) .nil .nil))) (.node qE (.node xF (.node (C2 s) .nil .nil) (.node (xI s) .nil .nil)) (.node CQ (.node (Da s) .nil .nil) (.node (lq s 8 [29,24]) .nil .nil)))) (.node (b6 s) (.node (qC s) (.node xD (.node (CZ s) (.node (vQ s 10 29) .nil .nil) .nil) (.node (Dg s) .nil .nil)) (.node (CO s r j) (.node (C8 s) .nil .nil) (.node (lq s 5 [24]) .nil .nil))) (.node CJ (.node xH (.node (C4 s) .nil .nil) (.node (lq s 0 []) .nil .nil)) (.node CV (.node (Dc s) .nil .nil) (.node (lq s 11 [34]) .nil .nil))))))
def IK(s:St)(r j:Zc)(pc:Zw)(db ar:Zb AV):Tr AO:=(.node b0 (.node (b1 s) (.node (b3 r) (.node (b7 s) (.node (CK ar) (.node CW .nil .nil) (.node (Dd s) .nil .nil)) (.node (CL db) (.node (C5 s) .nil .nil) .nil)) (.node qD (.node xE (.node (C1 s) .nil .nil) (.node (Dh s) .nil .nil)) (.node CP (.node (C9 s) .nil .nil) .nil))) (.node (b5 s) (.node b9 (.node sD (.node CY .nil .nil) (.node (Df s) .nil .nil)) (.node (CN pc) (.node (C7 s) .nil .nil) .nil)) (.node xC (.node xG (.node (C3 s) .nil .nil) (.node Di .nil .nil)) (.node CU (.node (Db s) .nil .nil) .nil)))) (.node (b2 s) (.node b4 (.node (b8 s) (.node Kl (.node CX .nil .nil) (.node (De s) .nil .nil)) (.node CM (.node (C6 s) .nil .nil) .nil)) (.node qE (.node xF (.node (C2 s) .nil .nil) (.node (xI s) .nil .nil)) (.node CQ (.node (Da s) .nil .nil) .nil))) (.node (b6 s) (.node (qC s) (.node xD (.node (CZ s) .nil .nil) (.node (Dg s) .nil .nil)) (.node (CO s r j) (.node (C8 s) .nil .nil) .nil)) (.node CH (.node xH (.node (C4 s) .nil .nil) .nil) (.node CV (.node (Dc s) .nil .nil) .nil)))))
def oL(c:Zh)(s:St)(r j:Zc)(pc:Zw)(db ar:Zb AV)(tl:Zb AO):AH:=⟨Zn (dj c) (aJ tl),AH.build tl (dj c) (Zp (IK s r j pc db ar) (tT s r j pc db ar) c)⟩
def tl(s:St)(i:Zc):AV:=.int (s.n (Zn 60 i))
def aem(b:Zc)(l:Zb AV):Zb AO:=[.list l,y8 b (.md 1 0)]
def wJ(s:St)(k:Zc):Zb AV:=iI [tl s 8,tl s 9,tl s 10] k
def rD(s:St)(k:Zc):Zb AV:=iI [tl s 5,tl s 6,tl s 7,ltV (wJ s 3)] k
def wK(s:St)(k:Zc):Zb AV:=iI [tl s 2,tl s 3,tl s 4] k
def wI(s:St)(k:Zc):Zb AV:=iI [tl s 11,tl s 12,tl s 13] k
def row(s:St)(k:Zc):Zb AV:=iI [tl s 0,tl s 1,ltV (wK s 3),ltV (rD s 4),ltV (wI s 3)] k
section
variable(c:Zh)(s:St)
def rr(j:Zc):Zc:=Zn s.tk (Yh 15 j)
def mn(j:Zc)(pc:Zw)(ar:Zb AV)(k:Zc)(l:Zb AO):AH:=oL c s (rr s j) j pc [.ref 53,.ref (Zk (dj c))] (.ref 25::ar) (aD (aem (dj c) (row s k)) l)
def bd(d cd sf:Zc)(ne:Zb AV)(pc:Zw)(l:Zb AV):Zb AO:=Ku (Zn (dj c) d) cd sf ne pc l
def fr(d:Zc):AV:=.ref (Zn (dj c) d)
def hR:AH:=oL c s (Zn s.tk 16) 0 2 [] [.ref 25] []
def hA:AH:=oL c s (Zn s.tk 15) 0 3 [] [.ref 25] []
def lH(j:Zc):AH:=aa (aB [hA c s,mn c s 1 10 [] 1 [],mn c s 2 16 [fr c 3] 2 (bd c 2 21 34 [.ref 34] 1 []),mn c s 3 16 [fr c 3] 2 (bd c 2 21 34 [.ref 34] 6 (wK s 1)),mn c s 4 16 [fr c 3] 2 (bd c 2 21 34 [.ref 34] 11 (wK s 2)),
 mn c s 5 18 [fr c 3] 3 (bd c 2 19 37 [.ref 37] 1 []),mn c s 6 18 [fr c 3] 3 (bd c 2 19 37 [.ref 37] 6 (rD s 1)),mn c s 7 18 [fr c 3] 3 (bd c 2 19 37 [.ref 37] 11 (rD s 2)),
 mn c s 8 18 [fr c 3,fr c 7] 3 (aD (bd c 2 19 37 [.ref 37] 14 (rD s 3)) (bd c 6 18 42 [.ref 42,.ref 37] 1 [])),mn c s 9 18 [fr c 3,fr c 7] 3 (aD (bd c 2 19 37 [.ref 37] 14 (rD s 3)) (bd c 6 18 42 [.ref 42,.ref 37] 6 (wJ s 1))),mn c s 10 18 [fr c 3,fr c 7] 3 (aD (bd c 2 19 37 [.ref 37] 14 (rD s 3)) (bd c 6 18 42 [.ref 42,.ref 37] 11 (wJ s 2))),
 mn c s 11 21 [fr c 3] 4 (bd c 2 20 47 [.ref 47] 1 []),mn c s 12 21 [fr c 3] 4 (bd c 2 20 47 [.ref 47] 6 (wI s 1)),mn c s 13 21 [fr c 3] 4 (bd c 2 20 47 [.ref 47] 11 (wI s 2)),mn c s 14 22 [] 5 []] j) (hA c s) λh=>h
end
end Mine
namespace Mine
inductive fA where
 |lf
 |nd(i:Zc)(l r:fA)
inductive PT(β:Type)where
 |lf(b:β)
 |nd(l r:PT β)
def tab{β:Type}(F:(Zc→Zh)→β)(d:fA):(Zc→Zh)→PT β:=fA.rec (λv=>.lf (F v)) (λi _ _ il ir v=>.nd (il (bI v i false)) (ir (bI v i true))) d
theorem w9{v:Zc→Zh}{i:Zc}{b:Zh}(h:v i=b):bI v i b=v:=funext λj=>by
 show ae (Zi j i) b (v j)=v j
 cases q:Zi j i with
 |false=>rfl
 |true=>rw[Zr q,h];rfl
theorem j5{β:Type}{F G:(Zc→Zh)→β}{d:fA}:∀{v:Zc→Zh},tab F d v=tab G d v→F v=G v:=by
 induction d with
 |lf=>intro v e;injection e
 |nd i l r il ir=>
  intro v e
  injection e with a b
  cases h:v i with
  |false=>exact w9 h▸il a
  |true=>exact w9 h▸ir b
def f8(s:CS):CS:=match s with|.seq _ b=>b|s=>s
def cS(s:CS):CS:=match s with|.seq a _=>a|s=>s
def H8:CS:=match sX.body with|.seq a _=>a|s=>s
def eQ:CE:=match H8 with|.p4 t _=>t|_=>.con .none
def fu:CS:=match H8 with|.p4 _ b=>(match b with|.seq _ b=>b|b=>b)|s=>s
def cQ:Ev:=⟨false,27,[]⟩
def cR:bc:=e8 S0 50
def turn(fm:Fm)(h:AH):Zd (Fm×AH):=SR.rec (λfm h=>Res.rec (λv h=>aa (bK v) none λb=>ae b (some (fm,h)) none) (λ_ _=>none) none (aC S0 cR false eQ fm h)) (λ_ _=>none) (λ_ _=>none) none (aj S0 cR fu cQ fm h)
def turns(k:Zc):Fm→AH→Zd (Fm×AH×aO):=Zz (λ_ _=>none) (λ_ ih fm h=>aa (turn fm h) none λp=>aa (dZ p.1.tn p.2) (ih p.1 p.2) λI=>some (p.1,p.2,I)) k
noncomputable def bX:Fm:=⟨[.ref 14,.any,.any,.any],[],true⟩
def mZ(c b0 b1:Zh):Zb Zc:=26::3::15::23::aD (ae (ak c (aG b0 b1)) [54,55,56,57,58,59,60,61,62,63] []) (ae b1 (5::8::34::37::42::47::ae c [64,65,66,67] []) [])
def lS(p:Zd (Fm×AH×aO)):Zd (Fm×AH×Zh×Zc×Zc×(Zc→Zh)×Zh):=aa p none λq=>some (dC q.2.2 q.2.1 q.1,cC q.2.2 q.2.1 q.2.2.c,cI q.2.2 q.2.1 cQ q.1,q.2.2.N,q.2.2.mode,q.2.2.bp,aM (λj=>aK j q.2.2.aR) (mZ (Zi q.2.2.N 68) (q.2.2.bp 0) (q.2.2.bp 1)))
def sT(k:Zc)(l:Zb Zc):fA:=Zo .lf (λp _ ih=>ae (Zi (Zn (Yd 3 p) k) 0) .lf (.nd (Zn (Yd 3 p) k) ih .lf)) l
def Ht(l:Zb Zc)(m:Zb Zc):Zb Zc:=Zo [] (λa _ ih=>ae (aK a m) ih (a::ih)) l
theorem Mb{I:aO}{ev:Ev}{fm:Fm}{h H':AH}(e:cC I h I.c=H')(c1:cI I h ev fm=true)(lo:eE I H' I.N=true):nY I ev fm h=.nx (dC I h fm) H':=by
 subst e
 show ae (cI I h ev fm) (ae (eE I (cC I h I.c) I.N) (SR.nx (dC I h fm) (cC I h I.c)) SR.bad) SR.bad=_
 rw[c1,lo];rfl
theorem kC{c:bc}{j:Zc}{I:aO}{ev:Ev}{fm:Fm}{h H':AH}(k:mQ j fm h=some I)(e:cC I h I.c=H')(c1:cI I h ev fm=true)(lo:eE I H' I.N=true):aj S0 c (.cut j) ev fm h=.nx (dC I h fm) H':=by
 show aa (mQ j fm h) (.nx fm h) (λI=>nY I ev fm h)=_
 rw[k];exact Mb e c1 lo
theorem Ex{c:bc}{j:Zc}{ev:Ev}{fm:Fm}{h:AH}(k:mQ j fm h=none):aj S0 c (.cut j) ev fm h=.nx fm h:=by
 show aa (mQ j fm h) (.nx fm h) (λI=>nY I ev fm h)=_
 rw[k];rfl
def Wr(n:Zc)(fm:Fm)(h:AH):SR:=rR (aC S0 cR false eQ) (λfm h=>aj S0 cR (.seq (.cut 0) fu) cQ fm h) n fm h
def Vr(n:Zc)(fm:Fm)(h:AH):SR:=SR.rec (motive:=λ_=>SR) (λfm h=>Wr n fm h) .rt .ex .bad (aj S0 cR fu cQ fm h)
theorem A3{fm aX:Fm}{h h1:AH}(e:turn fm h=some (aX,h1))(n:Zc):Vr (n+1) fm h=SR.rec (motive:=λ_=>SR) (λfm h=>Vr n fm h) .rt .ex .bad (aj S0 cR (.cut 0) cQ aX h1):=by
 unfold turn at e
 unfold Vr
 cases q:aj S0 cR fu cQ fm h with
 |nx di h2=>
  rw[q]at e
  have e:Res.rec (motive:=λ_=>Zd (Fm×AH)) (λv h=>aa (bK v) none λb=>ae b (some (di,h)) none) (λ_ _=>none) none (aC S0 cR false eQ di h2)=some (aX,h1):=e
  show sB di (aC S0 cR false eQ di) h2 (λv h=>aa (bK v) .bad λb=>Zp (.nx di h) (SR.rec (motive:=λ_=>SR) (λfm h=>Wr n fm h) .rt .ex .bad (aj S0 cR (.seq (.cut 0) fu) cQ di h)) b)=_
  unfold sB
  cases q2:aC S0 cR false eQ di h2 with
  |ok v h3=>
   rw[q2]at e
   have e:aa (bK v) none (λb=>ae b (some (di,h3)) none)=some (aX,h1):=e
   show aa (bK v) SR.bad (λb=>Zp (motive:=λ_=>SR) (.nx di h3) (SR.rec (motive:=λ_=>SR) (λfm h=>Wr n fm h) .rt .ex .bad (aj S0 cR (.seq (.cut 0) fu) cQ di h3)) b)=_
   cases q3:bK v with
   |none=>rw[q3]at e;exact nomatch e
   |some b=>
    rw[q3]at e
    cases b with
    |false=>exact nomatch e
    |true=>
     have e:=Za e
     have e1:=Ze Xq e
     have e2:=Ze Vp e
     subst e1 e2
     show SR.rec (motive:=λ_=>SR) (λfm h=>Wr n fm h) .rt .ex .bad (SR.rec (motive:=λ_=>SR) (λfm h=>aj S0 cR fu cQ fm h) .rt .ex .bad (aj S0 cR (.cut 0) cQ di h3))=_
     cases aj S0 cR (.cut 0) cQ di h3<;>rfl
  |exc i h3=>rw[q2]at e;exact nomatch e
  |bad=>rw[q2]at e;exact nomatch e
 |rt v h2=>rw[q]at e;exact nomatch e
 |ex i h2=>rw[q]at e;exact nomatch e
 |bad=>rw[q]at e;exact nomatch e
def gI(k:Zc)(fm:Fm)(h:AH)(fm':Fm)(h':AH):Prop:=∀n,∃n',n≤n'∧Vr (n+k) fm h=Vr n' fm' h'
theorem gI.trans{k l:Zc}{a b c:Fm}{x y z:AH}(p:gI k a x b y)(q:gI l b y c z):gI (l+k) a x c z:=λn=>by
 obtain⟨n1,h1,e1⟩:=p (n+l)
 obtain⟨n2,h2,e2⟩:=q (n1-l)
 refine⟨n2,Zu (Nat.le_sub_of_add_le h1) h2,?_⟩
 rw[←Uz,e1,←e2,Wh (Zu (Nat.le_add_left _ _) h1)]
theorem IZ{k:Zc}{fm':Fm}{h' H':AH}{I:aO}(q:cC I h' I.c=H')(c1:cI I h' cQ fm'=true)(lo:eE I H' I.N=true):∀{fm:Fm}{h:AH},turns k fm h=some (fm',h',I)→gI k fm h (dC I h' fm') H':=by
 induction k with
 |zero=>exactλe=>nomatch e
 |succ k ih=>
  intro fm h e n
  have e:aa (turn fm h) none (λp=>aa (dZ p.1.tn p.2) (turns k p.1 p.2) λI=>some (p.1,p.2,I))=some (fm',h',I):=e
  cases t:turn fm h with
  |none=>rw[t]at e;exact nomatch e
  |some p=>
   rw[t]at e
   have e:aa (dZ p.1.tn p.2) (turns k p.1 p.2) (λI=>some (p.1,p.2,I))=some (fm',h',I):=e
   cases u:dZ p.1.tn p.2 with
   |none=>
    rw[u]at e
    obtain⟨n1,h1,e1⟩:=ih e n
    refine⟨n1,h1,?_⟩
    rw[←e1]
    show Vr (n+k+1) fm h=_
    rw[A3 t,Ex (j:=0) (show mQ 0 p.1 p.2=none from u)]
   |some J=>
    rw[u]at e
    have e:=Za e
    have e1:p.1=fm':=Ze Xq e
    have e2:p.2=h':=Ze (·.2.1) e
    have e3:J=I:=Ze (·.2.2) e
    subst e1 e2 e3
    refine⟨n+k,Xu _ _,?_⟩
    show Vr (n+k+1) fm h=_
    rw[A3 t,kC (j:=0) (show mQ 0 p.1 p.2=some J from u) q c1 lo]
theorem AB{k:Zc}{fm di:Fm}{h H2:AH}{N m:Zc}{bp:Zc→Zh}(e:lS (turns k fm h)=some (di,H2,true,N,m,bp,true))(lo:∀I:aO,I.N=N→I.mode=m→I.bp=bp→aM (λj=>aK j I.aR) (mZ (Zi N 68) (bp 0) (bp 1))=true→eE I H2 N=true):gI k fm h di H2:=by
 cases t:turns k fm h with
 |none=>rw[t]at e;exact nomatch e
 |some q=>
  rw[t]at e
  have e:=Za e
  have e1:dC q.2.2 q.2.1 q.1=di:=Ze (·.1) e
  have e2:cC q.2.2 q.2.1 q.2.2.c=H2:=Ze (·.2.1) e
  have e3:cI q.2.2 q.2.1 cQ q.1=true:=Ze (·.2.2.1) e
  have e4:q.2.2.N=N:=Ze (·.2.2.2.1) e
  have e5:q.2.2.mode=m:=Ze (·.2.2.2.2.1) e
  have e6:q.2.2.bp=bp:=Ze (·.2.2.2.2.2.1) e
  have e7:aM (λj=>aK j q.2.2.aR) (mZ (Zi q.2.2.N 68) (q.2.2.bp 0) (q.2.2.bp 1))=true:=Ze (·.2.2.2.2.2.2) e
  rw[e4,e6]at e7
  rw[←e1]
  exact IZ e2 e3 (e4.symm▸lo q.2.2 e4 e5 e6 e7) t
structure Plain(a:AV):Prop where
 low:∀I,ei I a=true
 tr:∀I H aH n,bL I H aH n a=a
theorem o4{I:aO}{H:AH}{aH:Zb (Zc×Zc)}{a:AV}(h:∀g,rQ I aH g a=a)(n:Zc):bL I H aH n a=a:=by
 cases n<;>exact h _
theorem DL{x y:AV}{l k:Zb AV}(e:x=y)(f:l=k):x::l=y::k:=e▸f▸rfl
theorem Plain.fl{l:Zb AV}(h:∀a∈l,Plain a):Plain (.af l):=by
 induction l with
 |nil=>exact⟨λ_=>rfl,λI H aH n=>o4 (λ_=>rfl) n⟩
 |cons a l ih=>
  have ih:=ih λb m=>h b (.tail _ m)
  have ha:=h a (.head _)
  refine⟨λI=>?_,λI H aH n=>?_⟩
  ·show ak (ei I a) (ei I (.af l))=true
   rw[ha.low,ih.low];rfl
  ·have x:=ih.tr I H aH n
   have y:=ha.tr I H aH n
   revert x y
   cases n with
   |zero=>exactλx y=>by injection x with x;exact Ze AV.af (DL y x)
   |succ n=>exactλx y=>by injection x with x;exact Ze AV.af (DL y x)
theorem lows{l:Zb AV}(h:∀a∈l,Plain a)(I:aO):aM (ei I) l=true:=by
 induction l with
 |nil=>rfl
 |cons a l ih=>
  show Zp false (aM (ei I) l) (ei I a)=true
  rw[(h a (.head _)).low,ih λb m=>h b (.tail _ m)]
end Mine
namespace Mine
def tB(c:Zh)(s:St):Tr AO:=(.node b0 (.node (b1 s) (.node (.inst 1406 [(137,.bz),(141,.bz),(142,.none),(199,(.int 20000)),(200,(.int 0)),(201,(.int 7)),(202,(.int 8)),(203,.bz),(204,(.ref 4)),(71,(.int 0)),(70,(.int 0)),(105,.bz),(205,(.af [])),(206,(.bool true)),(86,(.dh 111 [(13,.any),(14,.any),(15,.bz),(16,.none),(17,(.bool false)),(18,.none)]))]) (.node sD (.node (.list [(.ref 25)]) .nil .nil) (.node (.list []) .nil .nil)) (.node qD (.node xE .nil .nil) .nil)) (.node (fG 2 (.ref 9) (.sy 83) true (.ref 8) .none (.ref 6) (.ref 7) (.af [(.ref 11)]) (.af []) (.sy 83) .none) (.node b9 (.node sD .nil .nil) (.node (.inst 546 [(41,(.ref 22)),(59,(.int 0)),(60,(.ref 23)),(61,(.dh 482 [(51,(.ref 24)),(27,.none)])),(62,(.dh 511 [(53,(.dh 111 [(13,.any),(14,.any),(15,.bz),(16,.none),(17,(.bool false)),(18,.none)])),(54,.none),(55,(.af [])),(56,.none),(13,.any),(40,(.af [])),(57,(.ref 5)),(36,(.sy 87)),(58,(.bool false)),(39,(.sy 88))])),(13,(.int 7)),(63,.none),(64,.none),(65,.none),(66,.none),(50,.none),(39,(.sy 35))]) .nil .nil)) (.node xC (.node xG .nil .nil) .nil))) (.node (b2 s) (.node (.dict [((.sy 83),(.ref 5)),((.sy 301),(.ref 8)),((.sy 185),(.ref 9)),((.sy 213),pH),((.sy 298),(.ref 11))]) (.node (fG 3 (.ref 9) (.sy 301) true .none .none .bz .bz (.af []) (.af []) (.sy 301) .none) (.node sD .nil .nil) (.node (.list [.none]) .nil .nil)) (.node qE (.node xF .nil .nil) .nil)) (.node sD (.node (.dict [((.sy 287),(.af s.ds)),((.sy 288),(.int (-1))),((.sy 276),(.ref 26))]) (.node xD .nil .nil) (.node (.list []) .nil .nil)) (.node (Zp CH CJ c) (.node xH .nil .nil) .nil))))
def hB(c:Zh)(s:St):AH:=⟨27,tB c s⟩
def jp:Fm:=⟨[.ref 14,.any,.any,.any],[],false⟩
noncomputable def pre(d:Zc→AV)(k:Zc):Zb AV:=Zz (λ_=>[]) (λ_ ih d=>d 0::ih (λj=>d (Zk j))) k d
noncomputable def olds(b n:Zc):Zb Zc:=Zz (λ_=>[]) (λ_ ih b=>b::ih (Zk b)) n b
def eA(t:Zc→Zw):AV:=ltV (row ⟨λ_=>false,λj=>t (Yh j 60),[],[],[],0,0,0⟩ 5)
def fw(c:Zh)(n:Zc→Zw)(fl ds:Zb AV):St:=⟨λj=>aG (Zi j 0) (aG (ak (Zl 21 j) (Zl j 24)) (ak c (aK j [34,37,40,43,41]))),λj=>ae (aG (Zi j 0) (aK j [60,62,65,68,71])) 1 (ae (ak (Zl 30 j) (Zl j 73)) (ae (aK j [50,51]) (n j) 0) (n j)),fl,ds,[],0,0,80⟩
def sum2(c:Zh)(p:Zd (Fm×AH×aO)):Zd (Fm×AH×Zh×Zh):=aa p none λq=>(λI=>some (dC I q.2.1 q.1,cC I q.2.1 I.c,cI I q.2.1 cQ q.1,ak (ay q.1.tn) (eqB (jM q.2.1) c))) (ae c vF vE)
def iS(c:Zh)(s:St)(nr:AV):AH:=oL c s (rr s 14) 14 22 [.ref 53,.ref (Zk (dj c))] [.ref 25] [.list (row s 5),y8 (dj c) nr]
noncomputable def lu:AV:=.tup [.sy 266,.sy 264,.sy 236,.int 1]
section
variable(n:Zc→Zw)(fl ds xs:Zb AV)(lk tk:Zc)(v:Zc→Zh)(d:Zc→AV)
theorem TR:sum2 true (turns 80 jp (hB true ⟨v,n,fl,lu::ds,xs,0,lk,tk⟩))=some (bX,iS true (fw true n fl (lu::ds)) (.int 11),true,true):=by kernel_rfl
theorem TQ:sum2 false (turns 80 jp (hB false ⟨v,n,fl,lu::ds,xs,0,lk,tk⟩))=some (bX,iS false (fw false n fl (lu::ds)) (.int 11),true,true):=by kernel_rfl
def LF(c:Zh)(m r:Zc)(nr:AV)(t:Zc→Zc→Zw):=lS (turns 6 bX (iS c ⟨v,n,fl,pre d m,ag (λk=>eA (t k)) (olds 0 r),r,lk,Zn tk 16⟩ nr))
def RF(c:Zh)(m r:Zc)(t:Zc→Zc→Zw):=some (bX,hR c ⟨v,n,fl,pre d m,aD (ag (λk=>eA (t k)) (olds 0 r)) [eA λi=>n (Zn 60 i)],r,Zn lk 4,tk⟩,true,dj c,1,(λ(_:Zc)=>false),true)
section
variable(nr:AV)(t:Zc→Zc→Zw)
theorem SZ:LF n fl lk tk v d true 2 0 nr t=RF n fl lk tk v d true 2 0 t:=by kernel_rfl
theorem TA:LF n fl lk tk v d true 3 0 nr t=RF n fl lk tk v d true 3 0 t:=by kernel_rfl
theorem TC:LF n fl lk tk v d true 3 1 nr t=RF n fl lk tk v d true 3 1 t:=by kernel_rfl
theorem TD:LF n fl lk tk v d true 4 0 nr t=RF n fl lk tk v d true 4 0 t:=by kernel_rfl
theorem TE:LF n fl lk tk v d true 4 1 nr t=RF n fl lk tk v d true 4 1 t:=by kernel_rfl
theorem TF:LF n fl lk tk v d true 4 2 nr t=RF n fl lk tk v d true 4 2 t:=by kernel_rfl
theorem TG:LF n fl lk tk v d true 5 0 nr t=RF n fl lk tk v d true 5 0 t:=by kernel_rfl
theorem TH:LF n fl lk tk v d true 5 1 nr t=RF n fl lk tk v d true 5 1 t:=by kernel_rfl
theorem TI:LF n fl lk tk v d true 5 2 nr t=RF n fl lk tk v d true 5 2 t:=by kernel_rfl
theorem TJ:LF n fl lk tk v d true 5 3 nr t=RF n fl lk tk v d true 5 3 t:=by kernel_rfl
theorem TK:LF n fl lk tk v d true 6 0 nr t=RF n fl lk tk v d true 6 0 t:=by kernel_rfl
theorem TL:LF n fl lk tk v d true 6 1 nr t=RF n fl lk tk v d true 6 1 t:=by kernel_rfl
theorem TM:LF n fl lk tk v d true 6 2 nr t=RF n fl lk tk v d true 6 2 t:=by kernel_rfl
theorem TN:LF n fl lk tk v d true 6 3 nr t=RF n fl lk tk v d true 6 3 t:=by kernel_rfl
theorem TO:LF n fl lk tk v d true 6 4 nr t=RF n fl lk tk v d true 6 4 t:=by kernel_rfl
theorem SH:LF n fl lk tk v d false 2 0 nr t=RF n fl lk tk v d false 2 0 t:=by kernel_rfl
theorem SI:LF n fl lk tk v d false 3 0 nr t=RF n fl lk tk v d false 3 0 t:=by kernel_rfl
theorem SJ:LF n fl lk tk v d false 3 1 nr t=RF n fl lk tk v d false 3 1 t:=by kernel_rfl
theorem SK:LF n fl lk tk v d false 4 0 nr t=RF n fl lk tk v d false 4 0 t:=by kernel_rfl
theorem SL:LF n fl lk tk v d false 4 1 nr t=RF n fl lk tk v d false 4 1 t:=by kernel_rfl
theorem SN:LF n fl lk tk v d false 4 2 nr t=RF n fl lk tk v d false 4 2 t:=by kernel_rfl
theorem SP:LF n fl lk tk v d false 5 0 nr t=RF n fl lk tk v d false 5 0 t:=by kernel_rfl
theorem SQ:LF n fl lk tk v d false 5 1 nr t=RF n fl lk tk v d false 5 1 t:=by kernel_rfl
theorem SS:LF n fl lk tk v d false 5 2 nr t=RF n fl lk tk v d false 5 2 t:=by kernel_rfl
theorem ST:LF n fl lk tk v d false 5 3 nr t=RF n fl lk tk v d false 5 3 t:=by kernel_rfl
theorem SU:LF n fl lk tk v d false 6 0 nr t=RF n fl lk tk v d false 6 0 t:=by kernel_rfl
theorem SV:LF n fl lk tk v d false 6 1 nr t=RF n fl lk tk v d false 6 1 t:=by kernel_rfl
theorem SW:LF n fl lk tk v d false 6 2 nr t=RF n fl lk tk v d false 6 2 t:=by kernel_rfl
theorem SX:LF n fl lk tk v d false 6 3 nr t=RF n fl lk tk v d false 6 3 t:=by kernel_rfl
theorem SY:LF n fl lk tk v d false 6 4 nr t=RF n fl lk tk v d false 6 4 t:=by kernel_rfl
end
end
end Mine
namespace Mine
noncomputable def QR:Zb (Zb Zc):=[[],[],[],[],[],[22],[2],[1],[22],[],[],[],[],[],[],[],[],[],[],[],[],[],[],[],[],[],[],[],[],[],[],[],[],[],[21],[5],[3,4],[22,16,15],[8],[6,7],[15],[16],[23,18,17],[11],[9,10],[17],[18],[24,20,16,15,19],[14],[12,13],[19],[20],[],[],[30],[31],[32],[33],[35],[36],[38],[39],[41],[42],[34,54],[37,57],[40,60],[43,63]]
def EP(i:Zc):fA:=Zo .lf (λk _ ih=>.nd k ih ih) (aa (aB QR i) [] λl=>l)
def I0(c b0 b1:Zh):aO:={N:=dj c,sel:=[],aR:=[],mode:=1,bp:=λp=>Zz b0 (λ_ _=>b1) p}
def tC(c:Zh)(s:St)(r j:Zc)(pc:Zw)(db ar:Zb AV):Tr AO:=Zp (IK s r j pc db ar) (tT s r j pc db ar) c
def YX(c b0 b1:Zh)(s:St)(r j:Zc)(pc:Zw)(db ar:Zb AV)(i:Zc):Zh:=aG (aK i (2::10::52::mZ c b0 b1)) (aa ((tC c s r j pc db ar).get i) false (eF (I0 c b0 b1)))
theorem ZA(c b0 b1:Zh)(v:Zc→Zh)(n:Zc→Zw)(fl ds xs:Zb AV)(bQ lk tk r j:Zc)(pc:Zw)(db ar:Zb AV):ag (λi=>tab (λv=>YX c b0 b1 ⟨v,n,fl,ds,xs,bQ,lk,tk⟩ r j pc db ar i) (EP i) v) (olds 0 (dj c))=ag (λi=>tab (λ_=>true) (EP i) v) (olds 0 (dj c)):=by
 cases c<;>cases b0<;>cases b1<;>kernel_rfl
theorem aU{α β:Type}{f g:α→β}{l:Zb α}(e:ag f l=ag g l){a:α}(m:a∈l):f a=g a:=by
 induction l with
 |nil=>exact nomatch m
 |cons b l ih=>
  have e:f b::ag f l=g b::ag g l:=e
  injection e with e1 e2
  exact(List.mem_cons.mp m).elim (λq=>q▸e1) (ih e2)
theorem nl{n i:Zc}:∀{b:Zc},b≤i→i<b+n→i∈olds b n:=by
 induction n with
 |zero=>exactλh k=>Y8 k (Nat.not_lt.mpr h)
 |succ n ih=>
  intro b h k
  show i∈b::olds (b+1) n
  by_cases q:i=b
  ·exact q▸.head _
  ·exact .tail _ (ih (Nat.lt_of_le_of_ne h (Ve q)) (by rw[Si];exact k))
theorem cb{i n:Zc}(h:i<n):i∈olds 0 n:=nl (Yt i) (by rw[Ws];exact h)
theorem ai{α:Type}{x y:α}{l k:Zb α}(e:x=y)(f:l=k):x::l=y::k:=e▸f▸rfl
theorem WL{α:Type}{t:Tr α}{a o:α}:∀{i j:Zc},t.get j=some a→i≠j→(t.ins i o).get j=some a:=by
 induction t with
 |nil=>exactλe=>nomatch e
 |node v l r il ir=>
  intro i j e ne
  have ge:∀(v:α)(l r:Tr α)(j:Zc),(Tr.node v l r).get j=Zp (Zp (r.get (j/2-1)) (l.get (j/2)) (Zi (j%2) 1)) (some v) (Zi j 0):=λ_ _ _ _=>rfl
  have ie:(Tr.node v l r).ins i o=Zp (Zp (.node v l (r.ins (i/2-1) o)) (.node v (l.ins (i/2) o) r) (Zi (i%2) 1)) (.node o l r) (Zi i 0):=rfl
  rw[ge]at e
  rw[ie]
  cases h0:Zi i 0 with
  |true=>
   show(Tr.node o l r).get j=some a
   rw[ge]
   cases h1:Zi j 0 with
   |true=>exact Y8 ((Zr h0).trans (Zr h1).symm) ne
   |false=>rw[h1]at e;exact e
  |false=>
   cases h2:Zi (i%2) 1 with
   |true=>
    show(Tr.node v (l.ins (i/2) o) r).get j=some a
    rw[ge]
    cases h1:Zi j 0 with
    |true=>rw[h1]at e;exact e
    |false=>
     rw[h1]at e
     cases h3:Zi (j%2) 1 with
     |false=>rw[h3]at e;exact e
     |true=>
      rw[h3]at e
      exact il e λq=>ne (by
       have a1:=Zr h2
       have a2:=Zr h3
       omega)
   |false=>
    show(Tr.node v l (r.ins (i/2-1) o)).get j=some a
    rw[ge]
    cases h1:Zi j 0 with
    |true=>rw[h1]at e;exact e
    |false=>
     rw[h1]at e
     cases h3:Zi (j%2) 1 with
     |true=>rw[h3]at e;exact e
     |false=>
      rw[h3]at e
      exact ir e λq=>ne (by
       have a1:=Vz h2
       have a2:=Vz h3
       have a3:=Vz h0
       have a4:=Vz h1
       omega)
theorem xP{l:Zb AO}{a:AO}{j:Zc}:∀{n:Zc}{t:Tr AO},t.get j=some a→j<n→(AH.build l n t).get j=some a:=by
 induction l with
 |nil=>exactλe _=>e
 |cons o l ih=>exactλ{n t} e h=>ih (n:=n+1) (t:=t.ins n o) (WL e (Q2 h)) (Pg h)
theorem y2{I:aO}{t:AH}{n:Zc}(h:∀j,j<n→aG (aK j I.aR) (aa (t.get j) false (eF I))=true):eE I t n=true:=by
 induction n with
 |zero=>rfl
 |succ n ih=>
  show ak (eE I t n) (aG (aK n I.aR) (aa (t.get n) false (eF I)))=true
  rw[ih λj q=>h j (Pg q),h n (We n)];rfl
theorem Hs{a b:Zh}(h:a=true):aG a b=true:=by rw[h];rfl
theorem lN{a b:Zh}(h:b=true):aG a b=true:=by rw[h];cases a<;>rfl
theorem Ci{l m:Zb Zc}{a:Zc}(e:aM (λj=>aK j m) l=true)(h:aK a l=true):aK a m=true:=by
 induction l with
 |nil=>exact nomatch h
 |cons b l ih=>
  have e:Zp (motive:=λ_=>Zh) false (aM (λj=>aK j m) l) (aK b m)=true:=e
  cases q:aK b m with
  |false=>rw[q]at e;exact nomatch e
  |true=>
   rw[q]at e
   have h:Zp (motive:=λ_=>Zh) (aK a l) true (Zi a b)=true:=h
   cases q2:Zi a b with
   |true=>rw[Zr q2];exact q
   |false=>rw[q2]at h;exact ih e h
theorem nU{a b:Zc}(h:a≠b):Zi a b=false:=by
 cases q:Zi a b with
 |false=>rfl
 |true=>exact Y8 (Zr q) h
structure fc(s:St):Prop where
 fl:∀a∈s.fl,Plain a
 ds:∀a∈s.ds,Plain a
 xs:∀a∈s.xs,Plain a
theorem y7{c b0 b1:Zh}{s:St}(P:fc s){r j:Zc}{pc:Zw}{db ar:Zb AV}{tl:Zb AO}{I:aO}(hN:I.N=dj c)(hm:I.mode=1)(hb:I.bp=λp=>Zz b0 (λ_ _=>b1) p)(ht:aM (λj=>aK j I.aR) (mZ c b0 b1)=true):eE I (oL c s r j pc db ar tl) (dj c)=true:=by
 have eI:∀o,eF I o=eF (I0 c b0 b1) o:=by
  obtain⟨N,sel,aR,mode,bp,cv,mp,km,bg,fg,fk,lm,cc,kp⟩:=I
  have hN:N=dj c:=hN
  have hm:mode=1:=hm
  have hb:bp=λp=>Zz b0 (λ_ _=>b1) p:=hb
  subst hN hm hb
  exactλ_=>rfl
 have gt:∀i o,i<dj c→(tC c s r j pc db ar).get i=some o→(oL c s r j pc db ar tl).get i=some o:=λi o h e=>xP e h
 refine y2 λi h=>?_
 have k:=j5 (aU (ZA c b0 b1 s.v s.n s.fl s.ds s.xs s.rd s.lk s.tk r j pc db ar) (nl (Yt i) (by rw[Ws];exact h)))
 have k:aG (aK i (2::10::52::mZ c b0 b1)) (aa ((tC c s r j pc db ar).get i) false (eF (I0 c b0 b1)))=true:=k
 cases q:aK i (mZ c b0 b1)with
 |true=>exact Hs (Ci ht q)
 |false=>
  have pl:∀{l:Zb AV},(∀a∈l,Plain a)→eF I (.list l)=true:=λh=>lows h I
  by_cases e2:i=2
  ·subst e2
   rw[gt 2 (b2 s) h (by cases c<;>rfl)]
   exact lN (pl P.fl)
  by_cases sP:i=10
  ·subst sP
   rw[gt 10 (qC s) h (by cases c<;>rfl)]
   refine lN ((eI (qC s)).trans ?_)
   show Zp (motive:=λ_=>Zh) false _ (ei (I0 c b0 b1) (.af s.ds))=true
   rw[(Plain.fl P.ds).low]
   cases c<;>rfl
  by_cases Em:i=52
  ·subst Em
   rw[gt 52 (xI s) h (by cases c<;>rfl)]
   exact lN (pl P.xs)
  have z:aK i (2::10::52::mZ c b0 b1)=false:=by
   show Zp (motive:=λ_=>Zh) (Zp (motive:=λ_=>Zh) (Zp (motive:=λ_=>Zh) (aK i (mZ c b0 b1)) true (Zi i 52)) true (Zi i 10)) true (Zi i 2)=false
   rw[nU e2,nU sP,nU Em,q]
  rw[z]at k
  have k:aa ((tC c s r j pc db ar).get i) false (eF (I0 c b0 b1))=true:=k
  cases q2:(tC c s r j pc db ar).get i with
  |none=>rw[q2]at k;exact nomatch k
  |some o=>
   rw[q2]at k
   rw[gt i o h q2]
   exact lN ((eI o).trans k)
end Mine
namespace Mine
noncomputable def tL(sr:Zc)(f:AV)(i q m:Zh):AO:=.dict [(.sy 266,.ref sr),(.sy 239,f),(.sy 269,.bool i),(.sy 270,.bool q),(.sy 204,.bool m)]
def vZ(x y:Zd Zw):AO:=.map [(236,jW x),(237,jW y)]
section
variable(s:St)
noncomputable def XK:AO:=.lI [((264,236),.dA 0 (s.v 30)),((264,237),.dA 0 (s.v 31)),((246,236),.dA 0 (s.v 32)),((246,237),.dA 0 (s.v 33)),((246,239),.cB 1 (s.v 34)),((244,236),.dA 0 (s.v 35)),((244,237),.dA 0 (s.v 36)),((244,239),.cB 1 (s.v 37)),((243,236),.dA 0 (s.v 38)),((243,237),.dA 0 (s.v 39)),((243,239),.cB 1 (s.v 40)),((245,236),.dA 0 (s.v 41)),((245,237),.dA 0 (s.v 42)),((245,239),.cB 1 (s.v 43))]
def mT:Tr AO:=(.node .tab (.node (.dict [(.sy 275,.tup [.cB 0 true,.cB 1 true]),(.sy 244,.ref 2),(.sy 243,.ref 4),(.sy 245,.ref 6),(.sy 246,.ref 8),(.sy 264,.ref 10)]) (.node (vZ (oo s 6) (oo s 7)) (.node (vZ (oo s 12) (oo s 13)) .nil .nil) (.node (.map [(236,some (.int (s.n 0))),(237,jW (oo s 1))]) .nil .nil)) (.node (vZ (oo s 9) (oo s 10)) (.node (vZ (oo s 3) (oo s 4)) .nil .nil) (.node (XK s) .nil .nil))) (.node (tL 3 (vI (oo s 8)) (s.v 15) (s.v 16) true) (.node (tL 5 (vI (oo s 11)) (s.v 17) (s.v 18) true) (.node (tL 9 (vI (oo s 5)) false false true) .nil .nil) (.node (.dict [(.sy 68,.int (s.n 50)),(.sy 276,.int (s.n 51)),(.sy 34,.ref 13)]) .nil .nil)) (.node (tL 7 (vI (oo s 14)) (s.v 19) (s.v 20) true) (.node (tL 11 (vI (oo s 2)) false false false) .nil .nil) (.node (.list s.xs) .nil .nil))))
def mH(l:Zb AO):AH:=⟨Zn 15 (aJ l),AH.build l 15 (mT s)⟩
def GV(k:Zc):Zb AV:=iI [tl s 5,tl s 6,tl s 7,.af (wJ s 3)] k
def rh(k:Zc):Zb AV:=iI [tl s 0,tl s 1,.af (wK s 3),.af (GV s 4),.af (wI s 3)] k
def md(i:Zc):St:={s with
  v:=bI s.v (Zn 30 i) (aG (c5 i) (aG (s.v (Zn 30 i)) (aT (look s i))))
  n:=de (de s.n (ae (c5 i) 51 50) (s.n (ae (c5 i) 51 50)+b2i (s.v (Zn 30 i)))) (Zn 60 i) (val (look s i))}
def bH(q:Zc):Zb AO:=aa (aB [[],[.list (rh s 2)],[.list (rh s 3)],[.list (rh s 3),.list (GV s 3)],[.list (rh s 4)],[.list (rh s 5)]] q) [] λl=>l
def q0(q:Zc):Zc:=Zz 0 (λq _=>Zn 2 (Yd 3 q)) q
def Cf(q:Zc):Zb AV:=aa (aB [[],[.sy 246],[.sy 244],[.sy 243,.sy 244],[.sy 245]] q) [] λl=>l
def cp(q:Zc):Zc:=aa (aB [16,17,17,18,17] q) 0 λx=>x
def Gm(q:Zc):Zc:=aa (aB [264,246,244,243,245] q) 0 λx=>x
def mG(q k:Zc):AH:=mH s (aD (bH s q) [.list (Cf q),.list [.sy 236,.sy 237],.list (iI [tl s (q0 q),tl s (Zk (q0 q))] k)])
end
def iP(q:Zc)(x:AV):Fm:=⟨[.ref 1,.ref 12,.sy (Gm q),.ref (Vb (cp q)),.ref (cp q),.ref (Zk (cp q)),x,.any,.any],[],false⟩
def fU(q:Zc):Ev:=⟨false,Zk (cp q),[.ref (cp q)]⟩
def cM:bc:=e8 S0 49
def jm(s:CS):CS:=match s with|.fb _ _ _ b=>b|s=>s
def rO(s:CS):CT:=match s with|.fb _ t _ _=>t|_=>.loc 0
def gy:CS:=cS (f8 n8.body)
def pT:CS:=f8 (jm gy)
def pX(q j:Zc)(fm:Fm)(h:AH):Zd (Zh×Fm×AH):=Res.rec (motive:=λ_=>Zd (Zh×Fm×AH)) (λo h=>aa o (some (false,fm,h)) λv=>Res.rec (motive:=λ_=>Zd (Zh×Fm×AH)) (λfm h=>some (true,fm,h)) (λ_ _=>none) none (eZ S0 cM false (rO gy) v fm h)) (λ_ _=>none) none (dD S0 false (.ref (cp q)) j h)
def ul(q:Zc)(p:Zd (Zh×Fm×AH)):Zd (Zh×Fm×AH×Zh×Zc×Zc×Zh):=aa p none λp=>aa (vA p.2.1 p.2.2) none λI=>some (p.1,dC I p.2.2 p.2.1,cC I p.2.2 I.c,cI I p.2.2 (fU q) p.2.1,I.N,I.mode,aK 13 I.aR)
noncomputable def lM(p:Zc)(g:Zb Zc→fA):fA:=(λtwo=>Zz (g []) (λ_ _=>Zz (g [1]) (λ_ _=>Zz (two 16 15 (g [2]) (g [2,1]) (g [1,2])) (λ_ _=>Zz (two 18 17 (g [3]) (g [3,1]) (g [1,3]))
  (λ_ _=>(λc=>.nd 20 (.nd 19 (two 16 15 (g [4,2]) (g [4,2,1]) (g [4,1,2])) (two 16 15 (g [4,1,2]) (g [4,2,1]) (g [4,1,2]))) (.nd 19 c c)) (two 16 15 (g [1,4,2]) (g [1,4,2]) (g [1,4,2])))
  (Yh p 3)) (Yh p 2)) (Yh p 1)) p)
 λi j x y z=>.nd i (.nd j x y) (.nd j z z)
def gT(q k:Zc):fA:=(λm=>.nd (Zn 30 (Zn (q0 q) k)) m m) (lM q λl=>sT k (aD (ae (Zi q 3) [3,2] (ae (Zi q 0) [] [q])) (aD (Ht l (ae (Zi q 3) [3,2] [q])) [0])))
section
variable(n:Zc→Zw)(fl ds xs:Zb AV)(r lk tk:Zc)(q j:Zc)(v:Zc→Zh)
def LG:=ul q (SR.rec (motive:=λ_=>Zd (Zh×Fm×AH)) (λfm h=>pX q (Zk j) fm h) (λ_ _=>none) (λ_ _=>none) none (aj S0 cM pT (fU q) (iP q (.sy (Zn 236 j))) (mG ⟨v,n,fl,ds,xs,r,lk,tk⟩ q j)))
def RG:=some (Zi j 0,iP q (.sy 237),mG (md ⟨v,n,fl,ds,xs,r,lk,tk⟩ (Zn (q0 q) j)) q (Zk j),true,Zk (cp q),0,true)
end
section
variable(n:Zc→Zw)(fl ds xs:Zb AV)(r lk tk:Zc)(v:Zc→Zh)
theorem aaE:tab (LG n fl ds xs r lk tk 0 0) (gT 0 0) v=tab (RG n fl ds xs r lk tk 0 0) (gT 0 0) v:=by kernel_rfl
theorem aaF:tab (LG n fl ds xs r lk tk 0 1) (gT 0 1) v=tab (RG n fl ds xs r lk tk 0 1) (gT 0 1) v:=by kernel_rfl
theorem aaG:tab (LG n fl ds xs r lk tk 1 0) (gT 1 0) v=tab (RG n fl ds xs r lk tk 1 0) (gT 1 0) v:=by kernel_rfl
theorem aaH:tab (LG n fl ds xs r lk tk 1 1) (gT 1 1) v=tab (RG n fl ds xs r lk tk 1 1) (gT 1 1) v:=by kernel_rfl
theorem aaI:tab (LG n fl ds xs r lk tk 2 0) (gT 2 0) v=tab (RG n fl ds xs r lk tk 2 0) (gT 2 0) v:=by kernel_rfl
theorem aaJ:tab (LG n fl ds xs r lk tk 2 1) (gT 2 1) v=tab (RG n fl ds xs r lk tk 2 1) (gT 2 1) v:=by kernel_rfl
theorem aaK:tab (LG n fl ds xs r lk tk 3 0) (gT 3 0) v=tab (RG n fl ds xs r lk tk 3 0) (gT 3 0) v:=by kernel_rfl
theorem aaL:tab (LG n fl ds xs r lk tk 3 1) (gT 3 1) v=tab (RG n fl ds xs r lk tk 3 1) (gT 3 1) v:=by kernel_rfl
theorem aaM:tab (LG n fl ds xs r lk tk 4 0) (gT 4 0) v=tab (RG n fl ds xs r lk tk 4 0) (gT 4 0) v:=by kernel_rfl
theorem aaN:tab (LG n fl ds xs r lk tk 4 1) (gT 4 1) v=tab (RG n fl ds xs r lk tk 4 1) (gT 4 1) v:=by kernel_rfl
end
end Mine
namespace Mine
def spN(p:Zc):Zc:=aa (aB [264,246,244,243,245] p) 0 λi=>i
def dW(d:Zc):Zc:=ae (Zl d 9) 266 (ae (Zl d 14) 267 (ae (Zl d 17) 269 (ae (Zl d 20) 270 150)))
def dP(d:Zc):Zc:=ae (Zl d 9) (Uj d 2) (ae (Zl d 14) (Yh d 10) (ae (Zl d 17) (Yh d 13) (ae (Zl d 20) (Yh d 16) 0)))
def dN(d:Zc):Zc:=ae (Zl d 9) (ae (Zi (V9 d 2) 1) 237 236) (ae (Zl d 14) 239 236)
def bn(d:Zc)(x:Zw):AV:=.tup [.sy (dW d),.sy (spN (dP d)),.sy (dN d),.int (ae (Zl d 14) x 0)]
def fM(v:Zc→Zh)(b:Zh):Zc→Zh:=λj=>ae (ak (Zl 30 j) (ak (Zl j 43) (aG b (ay (c5 (Yh j 30)))))) false (ae (ak b (ak (Zl 21 j) (Zl j 24))) false (v j))
def dd(s:St)(d:Zc)(x:Zw):St:=
 ae (Zl d 9) {s with rd:=Zk s.rd,v:=bI (fM s.v false) (Zn (Yd 3 (dP d)) (V9 d 2)) true,n:=de s.n (Zn (Yd 3 (dP d)) (V9 d 2)) x}
  (ae (Zl d 14) {s with rd:=Zk s.rd,v:=bI (fM s.v true) (Zn (Yd 3 (dP d)) 2) true,n:=de s.n (Zn (Yd 3 (dP d)) 2) x}
   (ae (Zl d 20) ((λk=>ae (s.v k) {s with rd:=Zk s.rd} {s with rd:=Zk s.rd,v:=bI (fM s.v true) k true}) (ae (Zl d 17) (Zn 15 (Yd 2 (Yh d 15))) (Zn 16 (Yd 2 (Yh d 18))))) {s with rd:=Zk s.rd}))
def nA:CS:=cS (f8 (f8 (f8 (f8 (f8 fu)))))
def nF(s:CS):Zj×Zc×CS:=match s with|.AQ _ _ k i b=>(k,i,b)|s=>(0,0,s)
def cX(X:bc):bc:=λhd f args h=>ae (f.sel false (sH:=λk _=>Zi k 1)) (X hd f args h) (cR hd f args h)
theorem KP:cX cR=cR:=funext λ_=>funext λf=>funext λ_=>funext λ_=>by
 unfold cX
 cases f.sel false (sH:=λk _=>Zi k 1)<;>rfl
def AR(c:bc)(r:SR):Zd (Fm×AH):=SR.rec (λfm h=>Res.rec (λv h=>aa (bK v) none λb=>ae b (some (fm,h)) none) (λ_ _=>none) none (aC S0 c false eQ fm h)) (λ_ _=>none) (λ_ _=>none) none r
def jV(r:SR):Fm:=SR.rec (λfm _=>fm) (λ_ _=>bX) (λ_ _=>bX) bX r
def fZ(r:SR):AH:=SR.rec (λ_ h=>h) (λ_ h=>h) (λ_ h=>h) ⟨0,.nil⟩ r
noncomputable def ae1:CS:=.seq (cS fu) (.seq (cS (f8 fu)) (.seq (cS (f8 (f8 fu))) (.seq (cS (f8 (f8 (f8 fu)))) (.seq (cS (f8 (f8 (f8 (f8 fu))))) .skip))))
section
variable(c:Zh)(s:St)
def HD:SR:=aj S0 cR ae1 cQ bX (hR c s)
def hT:AH:=fZ (HD c s)
def fT:Fm:=jV (HD c s)
noncomputable def qy:Zb AV:=[.ref 14,.ref 25,aL (.sy 248) .none .none .none]
end
theorem aj0(c:Zh)(X:bc)(v:Zc→Zh)(n:Zc→Zw)(fl ds xs:Zb AV)(r lk tk:Zc):AR (cX X) (aj S0 (cX X) fu cQ bX (hR c ⟨v,n,fl,ds,xs,r,lk,tk⟩))=
  AR (cX X) (SR.rec (λfm h=>.nx fm h) .rt .ex .bad (uf S0 (λ_ _=>X false (.eK 1 [12]) qy) (nF nA).1 (nF nA).2.1 (aj S0 (cX X) (nF nA).2.2) cQ (fT c ⟨v,n,fl,ds,xs,r,lk,tk⟩) (hT c ⟨v,n,fl,ds,xs,r,lk,tk⟩))):=by
 cases c<;>kernel_rfl
def h2(c:Zh)(s:St):AH:=(hT c s).set 10 (qC {s with rd:=Zk s.rd})
def kG:Fm:=⟨qy,[12],false⟩
theorem aj1(c:Zh)(X:bc)(z:Zc)(v:Zc→Zh)(n:Zc→Zw)(fl ds xs:Zb AV)(r lk tk:Zc):aj S0 X vP.body ⟨false,z,[]⟩ kG (hT c ⟨v,n,fl,ds,xs,r,lk,tk⟩)=
  SR.rec (λfm h=>.nx fm h) .rt .ex .bad (sB kG (AM.bind (AM.bind (AM.pure (.ref 3)) λa=>AM.bind (AM.bind (λh=>aa (aB ds (Zk r)) .bad λv=>.ok v h) λv=>AM.bind (dI kG) λvs=>AM.pure (v::vs)) λvs=>AM.pure (a::vs)) λvs=>pw vs (X false (.au 1458) vs)) (h2 c ⟨v,n,fl,ds,xs,r,lk,tk⟩) λ_ h=>.nx kG h):=by
 cases c<;>kernel_rfl
def zZ(r:Res AV):Zh:=Res.rec (λv _=>isNone v) (λ_ _=>false) false r
def lO(r:Res AV):AH:=Res.rec (λ_ h=>h) (λ_ h=>h) ⟨0,.nil⟩ r
def z7(r:Res AV):Zh:=Res.rec (λv _=>aa (bK v) false λb=>b) (λ_ _=>false) false r
def gj(d:Zc):Zc:=ae (Zl d 17) (Zn 15 (Yd 2 (Yh d 15))) (Zn 16 (Yd 2 (Yh d 18)))
def dT(d:Zc):fA:=ae (ak (Zl 15 d) (Zl d 20)) (.nd (gj d) .lf .lf) .lf
def x4(s:St)(d:Zc):Zh:=ak (ay (Zl d 9)) (aG (Zl d 14) (ak (Zl d 20) (ay (s.v (gj d)))))
def ajv(c:Zh)(s:St)(r:Res AV):=(zZ r,z7 (aC S0 cR false eQ (fT c s) (lO r)),lS (aa (dZ (fT c s).tn (lO r)) none λI=>some (fT c s,lO r,I)))
section
variable(n:Zc→Zw)(fl ds xs:Zb AV)(r lk tk:Zc)(x:Zw)(c:Zh)(d:Zc)(v:Zc→Zh)
def LD:=ajv c ⟨v,n,fl,ds,xs,r,lk,tk⟩ (e8 S0 49 false (.au 1458) [.ref 3,bn d x] (h2 c ⟨v,n,fl,ds,xs,r,lk,tk⟩))
def RD:=(true,true,some (bX,hA c (dd ⟨v,n,fl,ds,xs,r,lk,tk⟩ d x),true,dj c,1,(λ(p:Zc)=>Zz (motive:=λ_=>Zh) (Zl d 9) (λ_ _=>x4 ⟨v,n,fl,ds,xs,r,lk,tk⟩ d) p),true))
end
section
variable(n:Zc→Zw)(fl ds xs:Zb AV)(r lk tk:Zc)(x:Zw)(v:Zc→Zh)
theorem ag2:tab (LD n fl ds xs r lk tk x true 0) (dT 0) v=tab (RD n fl ds xs r lk tk x true 0) (dT 0) v:=by kernel_rfl
theorem ag3:tab (LD n fl ds xs r lk tk x true 1) (dT 1) v=tab (RD n fl ds xs r lk tk x true 1) (dT 1) v:=by kernel_rfl
theorem ahe:tab (LD n fl ds xs r lk tk x true 2) (dT 2) v=tab (RD n fl ds xs r lk tk x true 2) (dT 2) v:=by kernel_rfl
theorem ahh:tab (LD n fl ds xs r lk tk x true 3) (dT 3) v=tab (RD n fl ds xs r lk tk x true 3) (dT 3) v:=by kernel_rfl
theorem ahi:tab (LD n fl ds xs r lk tk x true 4) (dT 4) v=tab (RD n fl ds xs r lk tk x true 4) (dT 4) v:=by kernel_rfl
theorem ahj:tab (LD n fl ds xs r lk tk x true 5) (dT 5) v=tab (RD n fl ds xs r lk tk x true 5) (dT 5) v:=by kernel_rfl
theorem ahk:tab (LD n fl ds xs r lk tk x true 6) (dT 6) v=tab (RD n fl ds xs r lk tk x true 6) (dT 6) v:=by kernel_rfl
theorem ahl:tab (LD n fl ds xs r lk tk x true 7) (dT 7) v=tab (RD n fl ds xs r lk tk x true 7) (dT 7) v:=by kernel_rfl
theorem ahm:tab (LD n fl ds xs r lk tk x true 8) (dT 8) v=tab (RD n fl ds xs r lk tk x true 8) (dT 8) v:=by kernel_rfl
theorem ahn:tab (LD n fl ds xs r lk tk x true 9) (dT 9) v=tab (RD n fl ds xs r lk tk x true 9) (dT 9) v:=by kernel_rfl
theorem ag4:tab (LD n fl ds xs r lk tk x true 10) (dT 10) v=tab (RD n fl ds xs r lk tk x true 10) (dT 10) v:=by kernel_rfl
theorem ag5:tab (LD n fl ds xs r lk tk x true 11) (dT 11) v=tab (RD n fl ds xs r lk tk x true 11) (dT 11) v:=by kernel_rfl
theorem ag6:tab (LD n fl ds xs r lk tk x true 12) (dT 12) v=tab (RD n fl ds xs r lk tk x true 12) (dT 12) v:=by kernel_rfl
theorem ag7:tab (LD n fl ds xs r lk tk x true 13) (dT 13) v=tab (RD n fl ds xs r lk tk x true 13) (dT 13) v:=by kernel_rfl
theorem ag8:tab (LD n fl ds xs r lk tk x true 14) (dT 14) v=tab (RD n fl ds xs r lk tk x true 14) (dT 14) v:=by kernel_rfl
theorem ag9:tab (LD n fl ds xs r lk tk x true 15) (dT 15) v=tab (RD n fl ds xs r lk tk x true 15) (dT 15) v:=by kernel_rfl
theorem aha:tab (LD n fl ds xs r lk tk x true 16) (dT 16) v=tab (RD n fl ds xs r lk tk x true 16) (dT 16) v:=by kernel_rfl
theorem ahb:tab (LD n fl ds xs r lk tk x true 17) (dT 17) v=tab (RD n fl ds xs r lk tk x true 17) (dT 17) v:=by kernel_rfl
theorem ahc:tab (LD n fl ds xs r lk tk x true 18) (dT 18) v=tab (RD n fl ds xs r lk tk x true 18) (dT 18) v:=by kernel_rfl
theorem ahd:tab (LD n fl ds xs r lk tk x true 19) (dT 19) v=tab (RD n fl ds xs r lk tk x true 19) (dT 19) v:=by kernel_rfl
theorem ahf:tab (LD n fl ds xs r lk tk x true 20) (dT 20) v=tab (RD n fl ds xs r lk tk x true 20) (dT 20) v:=by kernel_rfl
theorem ahg:tab (LD n fl ds xs r lk tk x true 21) (dT 21) v=tab (RD n fl ds xs r lk tk x true 21) (dT 21) v:=by kernel_rfl
theorem agG:tab (LD n fl ds xs r lk tk x false 0) (dT 0) v=tab (RD n fl ds xs r lk tk x false 0) (dT 0) v:=by kernel_rfl
theorem agH:tab (LD n fl ds xs r lk tk x false 1) (dT 1) v=tab (RD n fl ds xs r lk tk x false 1) (dT 1) v:=by kernel_rfl
theorem agS:tab (LD n fl ds xs r lk tk x false 2) (dT 2) v=tab (RD n fl ds xs r lk tk x false 2) (dT 2) v:=by kernel_rfl
theorem agV:tab (LD n fl ds xs r lk tk x false 3) (dT 3) v=tab (RD n fl ds xs r lk tk x false 3) (dT 3) v:=by kernel_rfl
theorem agW:tab (LD n fl ds xs r lk tk x false 4) (dT 4) v=tab (RD n fl ds xs r lk tk x false 4) (dT 4) v:=by kernel_rfl
theorem agX:tab (LD n fl ds xs r lk tk x false 5) (dT 5) v=tab (RD n fl ds xs r lk tk x false 5) (dT 5) v:=by kernel_rfl
theorem agY:tab (LD n fl ds xs r lk tk x false 6) (dT 6) v=tab (RD n fl ds xs r lk tk x false 6) (dT 6) v:=by kernel_rfl
theorem agZ:tab (LD n fl ds xs r lk tk x false 7) (dT 7) v=tab (RD n fl ds xs r lk tk x false 7) (dT 7) v:=by kernel_rfl
theorem ag0:tab (LD n fl ds xs r lk tk x false 8) (dT 8) v=tab (RD n fl ds xs r lk tk x false 8) (dT 8) v:=by kernel_rfl
theorem ag1:tab (LD n fl ds xs r lk tk x false 9) (dT 9) v=tab (RD n fl ds xs r lk tk x false 9) (dT 9) v:=by kernel_rfl
theorem agI:tab (LD n fl ds xs r lk tk x false 10) (dT 10) v=tab (RD n fl ds xs r lk tk x false 10) (dT 10) v:=by kernel_rfl
theorem agJ:tab (LD n fl ds xs r lk tk x false 11) (dT 11) v=tab (RD n fl ds xs r lk tk x false 11) (dT 11) v:=by kernel_rfl
theorem agK:tab (LD n fl ds xs r lk tk x false 12) (dT 12) v=tab (RD n fl ds xs r lk tk x false 12) (dT 12) v:=by kernel_rfl
theorem agL:tab (LD n fl ds xs r lk tk x false 13) (dT 13) v=tab (RD n fl ds xs r lk tk x false 13) (dT 13) v:=by kernel_rfl
theorem agM:tab (LD n fl ds xs r lk tk x false 14) (dT 14) v=tab (RD n fl ds xs r lk tk x false 14) (dT 14) v:=by kernel_rfl
theorem agN:tab (LD n fl ds xs r lk tk x false 15) (dT 15) v=tab (RD n fl ds xs r lk tk x false 15) (dT 15) v:=by kernel_rfl
theorem agO:tab (LD n fl ds xs r lk tk x false 16) (dT 16) v=tab (RD n fl ds xs r lk tk x false 16) (dT 16) v:=by kernel_rfl
theorem agP:tab (LD n fl ds xs r lk tk x false 17) (dT 17) v=tab (RD n fl ds xs r lk tk x false 17) (dT 17) v:=by kernel_rfl
theorem agQ:tab (LD n fl ds xs r lk tk x false 18) (dT 18) v=tab (RD n fl ds xs r lk tk x false 18) (dT 18) v:=by kernel_rfl
theorem agR:tab (LD n fl ds xs r lk tk x false 19) (dT 19) v=tab (RD n fl ds xs r lk tk x false 19) (dT 19) v:=by kernel_rfl
theorem agT:tab (LD n fl ds xs r lk tk x false 20) (dT 20) v=tab (RD n fl ds xs r lk tk x false 20) (dT 20) v:=by kernel_rfl
theorem agU:tab (LD n fl ds xs r lk tk x false 21) (dT 21) v=tab (RD n fl ds xs r lk tk x false 21) (dT 21) v:=by kernel_rfl
end
end Mine
namespace Mine
noncomputable def aV(k:Zc)(s:CS):CS:=Zz (λs=>s) (λ_ ih s=>ih (f8 s)) k s
def pq:CS:=cS (aV 3 n7.body)
def dK:CS:=jm pq
def fK(k:Zc):CS:=cS (aV k dK)
def cD:bc:=e8 S0 50
def cZ:Ev:=⟨false,1,[]⟩
def bo(q:Zc)(d:AV):Fm:=⟨[.any,.ref 1,.any,.ref 12,.ref 14,d,ae (Zi q 0) .any (.ref 15),ae (Zi q 3) (.ref 16) .any],[],true⟩
def pY(o:Zd Zh)(p:Zd (Fm×AH)):Zd (Fm×AH×Zh×Zc×Zc×Zh×Zh×Zh×Zh):=aa p none λp=>aa (aa o (vz p.1 p.2) λb=>tq b p.1 p.2) none λI=>some (dC I p.2 p.1,cC I p.2 I.c,cI I p.2 cZ p.1,I.N,I.mode,I.bp 0,I.bp 1,aG (aT o) (aK 14 I.aR),aG (ay (aT o)) (ak (aK 1 I.aR) (aK 13 I.aR)))
def jA(r:SR):Zd (Fm×AH):=SR.rec (motive:=λ_=>Zd (Fm×AH)) (λfm h=>some (fm,h)) (λ_ _=>none) (λ_ _=>none) none r
section
variable(n:Zc→Zw)(fl ds xs:Zb AV)(r lk tk:Zc)(x:Zw)(d:Zc)(v:Zc→Zh)
def LE:=pY (some false) (jA (aj S0 cD (fK 1) cZ (bo 0 (bn d x)) (mH ⟨v,n,fl,ds,xs,r,lk,tk⟩ [])))
def RE:=some (bo 0 (bn d x),mH (dd ⟨v,n,fl,ds,xs,r,lk,tk⟩ d x) [],true,15,1,Zl d 9,x4 ⟨v,n,fl,ds,xs,r,lk,tk⟩ d,true,true)
end
def gS(q:Zc):CS:=fK (aa (aB [3,6,9,12,16] q) 0 λk=>k)
def mX(q:Zc):CS:=Zz .skip (λq _=>fK (aa (aB [5,8,11,15] q) 0 λk=>k)) q
def e2(q:Zc):CE:=match gS q with
 |.s _ (.b _ _ e)=>e
 |.e (.m _ _ (.b _ _ e::_))=>e
 |_=>.con .none
def Dj(X:bc)(r:Res AV)(q:Zc)(fm:Fm):AM AV:=AM.bind (λ_=>r) λx=>AM.bind (aC S0 X false (e2 q) fm) λy=>binI S0 .Add x y
def J0(X:bc)(r:Res AV)(q i:Zc)(fm:Fm)(h:AH):SR:=sB fm (AM.bind (AM.bind (Dj X r q fm) λv=>AM.bind (dI fm) λvs=>AM.pure (v::vs)) λvs=>pw vs (zu S0 X false (.append i) vs)) h λ_ h=>.nx fm h
def lz(X:bc)(r:Res AV)(q:Zc)(fm:Fm)(h:AH):SR:=
 Zz (sB fm (λ_=>r) h λv h=>sB fm (eZ S0 X false (.loc 6) v fm) h λfm h=>.nx fm h)
  (λq' _=>ae (Zi q 2) (sB fm (Dj X r q fm) h λv h=>sB fm (eZ S0 X false (.loc 7) v fm) h λfm h=>.nx fm h) (J0 X r q (ae (Zi q 3) 16 15) fm h)) q
def kr(q:Zc):Zb AV:=[.ref 1,.ref 12,.sy (Gm q),.ref (Vb (cp q)),.ref (cp q)]
def iT(s:St)(q:Zc):AH:=mH s (aD (bH s q) [.list (Cf q),.list [.sy 236,.sy 237]])
section
variable(n:Zc→Zw)(fl ds xs:Zb AV)(r lk tk:Zc)(v:Zc→Zh)(d:AV)(X:bc)(ev:Ev)
theorem RA(hd:ev.hd=false):aj S0 X (gS 0) ev (bo 0 d) (mH ⟨v,n,fl,ds,xs,r,lk,tk⟩ (bH ⟨v,n,fl,ds,xs,r,lk,tk⟩ 0))=lz X (X false (.au 1491) (kr 0) (iT ⟨v,n,fl,ds,xs,r,lk,tk⟩ 0)) 0 (bo 0 d) (mH ⟨v,n,fl,ds,xs,r,lk,tk⟩ (bH ⟨v,n,fl,ds,xs,r,lk,tk⟩ 0)):=by
 obtain⟨_,n0,ho⟩:=ev
 cases(hd:_=false)
 kernel_rfl
theorem RB(hd:ev.hd=false):aj S0 X (gS 1) ev (bo 1 d) (mH ⟨v,n,fl,ds,xs,r,lk,tk⟩ (bH ⟨v,n,fl,ds,xs,r,lk,tk⟩ 1))=lz X (X false (.au 1491) (kr 1) (iT ⟨v,n,fl,ds,xs,r,lk,tk⟩ 1)) 1 (bo 1 d) (mH ⟨v,n,fl,ds,xs,r,lk,tk⟩ (bH ⟨v,n,fl,ds,xs,r,lk,tk⟩ 1)):=by
 obtain⟨_,n0,ho⟩:=ev
 cases(hd:_=false)
 kernel_rfl
theorem RC(hd:ev.hd=false):aj S0 X (gS 2) ev (bo 2 d) (mH ⟨v,n,fl,ds,xs,r,lk,tk⟩ (bH ⟨v,n,fl,ds,xs,r,lk,tk⟩ 2))=lz X (X false (.au 1491) (kr 2) (iT ⟨v,n,fl,ds,xs,r,lk,tk⟩ 2)) 2 (bo 2 d) (mH ⟨v,n,fl,ds,xs,r,lk,tk⟩ (bH ⟨v,n,fl,ds,xs,r,lk,tk⟩ 2)):=by
 obtain⟨_,n0,ho⟩:=ev
 cases(hd:_=false)
 kernel_rfl
theorem RH(hd:ev.hd=false):aj S0 X (gS 3) ev (bo 3 d) (mH ⟨v,n,fl,ds,xs,r,lk,tk⟩ (bH ⟨v,n,fl,ds,xs,r,lk,tk⟩ 3))=lz X (X false (.au 1491) (kr 3) (iT ⟨v,n,fl,ds,xs,r,lk,tk⟩ 3)) 3 (bo 3 d) (mH ⟨v,n,fl,ds,xs,r,lk,tk⟩ (bH ⟨v,n,fl,ds,xs,r,lk,tk⟩ 3)):=by
 obtain⟨_,n0,ho⟩:=ev
 cases(hd:_=false)
 kernel_rfl
theorem RI(hd:ev.hd=false):aj S0 X (gS 4) ev (bo 4 d) (mH ⟨v,n,fl,ds,xs,r,lk,tk⟩ (bH ⟨v,n,fl,ds,xs,r,lk,tk⟩ 4))=lz X (X false (.au 1491) (kr 4) (iT ⟨v,n,fl,ds,xs,r,lk,tk⟩ 4)) 4 (bo 4 d) (mH ⟨v,n,fl,ds,xs,r,lk,tk⟩ (bH ⟨v,n,fl,ds,xs,r,lk,tk⟩ 4)):=by
 obtain⟨_,n0,ho⟩:=ev
 cases(hd:_=false)
 kernel_rfl
theorem mk1(hd:ev.hd=false):aj S0 cD (mX 1) ev (bo 1 d) (mH ⟨v,n,fl,ds,xs,r,lk,tk⟩ (bH ⟨v,n,fl,ds,xs,r,lk,tk⟩ 1))=.nx (bo 1 d) (mH ⟨v,n,fl,ds,xs,r,lk,tk⟩ (bH ⟨v,n,fl,ds,xs,r,lk,tk⟩ 1)):=by
 obtain⟨_,n0,ho⟩:=ev
 cases(hd:_=false)
 kernel_rfl
theorem mk2(hd:ev.hd=false):aj S0 cD (mX 2) ev (bo 2 d) (mH ⟨v,n,fl,ds,xs,r,lk,tk⟩ (bH ⟨v,n,fl,ds,xs,r,lk,tk⟩ 2))=.nx (bo 2 d) (mH ⟨v,n,fl,ds,xs,r,lk,tk⟩ (bH ⟨v,n,fl,ds,xs,r,lk,tk⟩ 2)):=by
 obtain⟨_,n0,ho⟩:=ev
 cases(hd:_=false)
 kernel_rfl
theorem mk3(hd:ev.hd=false):aj S0 cD (mX 3) ev (bo 3 d) (mH ⟨v,n,fl,ds,xs,r,lk,tk⟩ (bH ⟨v,n,fl,ds,xs,r,lk,tk⟩ 3))=.nx (bo 3 d) (mH ⟨v,n,fl,ds,xs,r,lk,tk⟩ (bH ⟨v,n,fl,ds,xs,r,lk,tk⟩ 3)):=by
 obtain⟨_,n0,ho⟩:=ev
 cases(hd:_=false)
 kernel_rfl
theorem mk4(hd:ev.hd=false):aj S0 cD (mX 4) ev (bo 4 d) (mH ⟨v,n,fl,ds,xs,r,lk,tk⟩ (bH ⟨v,n,fl,ds,xs,r,lk,tk⟩ 4))=.nx (bo 4 d) (mH ⟨v,n,fl,ds,xs,r,lk,tk⟩ (bH ⟨v,n,fl,ds,xs,r,lk,tk⟩ 4)):=by
 obtain⟨_,n0,ho⟩:=ev
 cases(hd:_=false)
 kernel_rfl
end
def jO(q:Zc):fA:=Zz .lf (λq' _=>(λm=>.nd (Zn 31 (Yd 3 q)) m m) (ae (Zi q 1) (sT 2 [1]) (lM q λl=>sT 2 (aD l [0])))) q
section
variable(n:Zc→Zw)(fl ds xs:Zb AV)(r lk tk:Zc)(q:Zc)(k:Zc)(x:Zw)(v:Zc→Zh)
def LQ:=pY (some (Zi q 2)) (jA (SR.rec (motive:=λ_=>SR) (λfm h=>ae (Zi q 3) (aj S0 cD (fK 13) cZ fm h) (.nx fm h)) .rt .ex .bad (lz cD (.ok (.ref (Zk (cp q))) (mG ⟨v,n,fl,ds,xs,r,lk,tk⟩ q 2)) q (bo q (bn k x)) (mH ⟨v,n,fl,ds,xs,r,lk,tk⟩ (bH ⟨v,n,fl,ds,xs,r,lk,tk⟩ q)))))
def sQ(s:St):St:=Zz s (λ_ _=>md s (Zn 1 (Yd 3 q))) q
def RQ:=some (bo (Zk q) (bn k x),mH (sQ q ⟨v,n,fl,ds,xs,r,lk,tk⟩) (bH (sQ q ⟨v,n,fl,ds,xs,r,lk,tk⟩) (Zk q)),true,15,1,false,false,true,true)
end
section
variable(n:Zc→Zw)(fl ds xs:Zb AV)(r lk tk:Zc)(x:Zw)(k:Zc)(v:Zc→Zh)
theorem ZZ:tab (LE n fl ds xs r lk tk x 0) (dT 0) v=tab (RE n fl ds xs r lk tk x 0) (dT 0) v:=by kernel_rfl
theorem me1:tab (LE n fl ds xs r lk tk x 1) (dT 1) v=tab (RE n fl ds xs r lk tk x 1) (dT 1) v:=by kernel_rfl
theorem me2:tab (LE n fl ds xs r lk tk x 2) (dT 2) v=tab (RE n fl ds xs r lk tk x 2) (dT 2) v:=by kernel_rfl
theorem me3:tab (LE n fl ds xs r lk tk x 3) (dT 3) v=tab (RE n fl ds xs r lk tk x 3) (dT 3) v:=by kernel_rfl
theorem me4:tab (LE n fl ds xs r lk tk x 4) (dT 4) v=tab (RE n fl ds xs r lk tk x 4) (dT 4) v:=by kernel_rfl
theorem me5:tab (LE n fl ds xs r lk tk x 5) (dT 5) v=tab (RE n fl ds xs r lk tk x 5) (dT 5) v:=by kernel_rfl
theorem me6:tab (LE n fl ds xs r lk tk x 6) (dT 6) v=tab (RE n fl ds xs r lk tk x 6) (dT 6) v:=by kernel_rfl
theorem me7:tab (LE n fl ds xs r lk tk x 7) (dT 7) v=tab (RE n fl ds xs r lk tk x 7) (dT 7) v:=by kernel_rfl
theorem me8:tab (LE n fl ds xs r lk tk x 8) (dT 8) v=tab (RE n fl ds xs r lk tk x 8) (dT 8) v:=by kernel_rfl
theorem me9:tab (LE n fl ds xs r lk tk x 9) (dT 9) v=tab (RE n fl ds xs r lk tk x 9) (dT 9) v:=by kernel_rfl
theorem aab:tab (LE n fl ds xs r lk tk x 10) (dT 10) v=tab (RE n fl ds xs r lk tk x 10) (dT 10) v:=by kernel_rfl
theorem aac:tab (LE n fl ds xs r lk tk x 11) (dT 11) v=tab (RE n fl ds xs r lk tk x 11) (dT 11) v:=by kernel_rfl
theorem aad:tab (LE n fl ds xs r lk tk x 12) (dT 12) v=tab (RE n fl ds xs r lk tk x 12) (dT 12) v:=by kernel_rfl
theorem aae:tab (LE n fl ds xs r lk tk x 13) (dT 13) v=tab (RE n fl ds xs r lk tk x 13) (dT 13) v:=by kernel_rfl
theorem aaf:tab (LE n fl ds xs r lk tk x 14) (dT 14) v=tab (RE n fl ds xs r lk tk x 14) (dT 14) v:=by kernel_rfl
theorem aag:tab (LE n fl ds xs r lk tk x 15) (dT 15) v=tab (RE n fl ds xs r lk tk x 15) (dT 15) v:=by kernel_rfl
theorem aah:tab (LE n fl ds xs r lk tk x 16) (dT 16) v=tab (RE n fl ds xs r lk tk x 16) (dT 16) v:=by kernel_rfl
theorem aai:tab (LE n fl ds xs r lk tk x 17) (dT 17) v=tab (RE n fl ds xs r lk tk x 17) (dT 17) v:=by kernel_rfl
theorem aaj:tab (LE n fl ds xs r lk tk x 18) (dT 18) v=tab (RE n fl ds xs r lk tk x 18) (dT 18) v:=by kernel_rfl
theorem aak:tab (LE n fl ds xs r lk tk x 19) (dT 19) v=tab (RE n fl ds xs r lk tk x 19) (dT 19) v:=by kernel_rfl
theorem aam:tab (LE n fl ds xs r lk tk x 20) (dT 20) v=tab (RE n fl ds xs r lk tk x 20) (dT 20) v:=by kernel_rfl
theorem aan:tab (LE n fl ds xs r lk tk x 21) (dT 21) v=tab (RE n fl ds xs r lk tk x 21) (dT 21) v:=by kernel_rfl
theorem mq0:tab (LQ n fl ds xs r lk tk 0 k x) (jO 0) v=tab (RQ n fl ds xs r lk tk 0 k x) (jO 0) v:=by kernel_rfl
theorem mq1:tab (LQ n fl ds xs r lk tk 1 k x) (jO 1) v=tab (RQ n fl ds xs r lk tk 1 k x) (jO 1) v:=by kernel_rfl
theorem mq2:tab (LQ n fl ds xs r lk tk 2 k x) (jO 2) v=tab (RQ n fl ds xs r lk tk 2 k x) (jO 2) v:=by kernel_rfl
theorem mq3:tab (LQ n fl ds xs r lk tk 3 k x) (jO 3) v=tab (RQ n fl ds xs r lk tk 3 k x) (jO 3) v:=by kernel_rfl
theorem mq4:tab (LQ n fl ds xs r lk tk 4 k x) (jO 4) v=tab (RQ n fl ds xs r lk tk 4 k x) (jO 4) v:=by kernel_rfl
end
end Mine
namespace Mine
def oM(t:Zc→Zw):AV:=.af (rh ⟨λ_=>false,λj=>t (Yh j 60),[],[],[],0,0,0⟩ 5)
def bJ(t:Zc→Zc→Zw)(r:Zc):Zb AV:=ag (λk=>oM (t k)) (olds 0 r)
def wO(d:AV)(p:Zd (Fm×AH)):Zd (Fm×AH):=aa p none λp=>some (bG p.1 5 d,p.2)
def nZ:CS:=aV 4 n7.body
noncomputable def mJ:CS:=.seq (cS n7.body) (.seq (cS (f8 n7.body)) (.seq (cS (aV 2 n7.body)) .skip))
def kU(r:Zc):St:=⟨(fw true (λ_=>0) [] []).v,(fw true (λ_=>0) [] []).n,[],[],[oM λi=>(fw true (λ_=>0) [] []).n (Zn 60 i)],r,0,0⟩
section
variable(n:Zc→Zw)(fl ds:Zb AV)(bQ lk tk:Zc)(v:Zc→Zh)(t:Zc→Zc→Zw)(d:AV)(k:Zc)(x:Zw)(ho:Zb AV)
def wV(r:Zc):St:=⟨v,n,fl,ds,bJ t r,bQ,lk,tk⟩
def LN(r:Zc):=pY none (wO (bn k x) (jA (aj S0 cD (fK 18) cZ (bo 5 d) (mH (wV n fl ds bQ lk tk v t r) (bH (wV n fl ds bQ lk tk v t r) 5)))))
def RN(r:Zc):=some (bo 0 (bn k x),mH ⟨v,n,fl,ds,aD (bJ t r) [oM λi=>n (Zn 60 i)],bQ,lk,tk⟩ [],true,15,0,false,false,true,true)
def LZ(r:Zc):SR:=SR.rec (λfm h=>aj S0 cD nZ cZ fm h) .rt .ex .bad (aj S0 cD (fK 18) cZ (bo 5 d) (mH (wV n fl ds bQ lk tk v t r) (bH (wV n fl ds bQ lk tk v t r) 5)))
def RZ(r:Zc):SR:=.rt (.tup [.ref 1,.ref 2]) (AH.ofList [.tab,.list (aD (bJ t r) [oM λi=>n (Zn 60 i)]),.dict [(.sy 68,.int (n 50)),(.sy 276,.int (n 51)),(.sy 34,.any)]])
noncomputable def kH:Fm:=⟨[.af ds,.any,.any,.any,.any,.any,.any,.any],[],false⟩
def LO:=pY none (wO (bn k x) (jA (SR.rec (motive:=λ_=>SR) (λfm h=>aj S0 cD dK ⟨false,1,ho⟩ (bG fm 5 lu) h) .rt .ex .bad (aj S0 cD mJ ⟨false,1,[]⟩ (kH ds) (AH.ofList [.tab])))))
def JI:=some (bo 0 (bn k x),mH (kU bQ) [],true,1,2,false,false,false,true)
end
section
variable(n:Zc→Zw)(fl ds:Zb AV)(bQ lk tk:Zc)(v:Zc→Zh)(t:Zc→Zc→Zw)(d:AV)(k:Zc)(x:Zw)(ho:Zb AV)
theorem mo:LO ds k x ho=JI bQ k x:=by kernel_rfl
theorem mn1:LN n fl ds bQ lk tk v t d k x 1=RN n fl ds bQ lk tk v t k x 1:=by kernel_rfl
theorem mn2:LN n fl ds bQ lk tk v t d k x 2=RN n fl ds bQ lk tk v t k x 2:=by kernel_rfl
theorem mn3:LN n fl ds bQ lk tk v t d k x 3=RN n fl ds bQ lk tk v t k x 3:=by kernel_rfl
theorem mn4:LN n fl ds bQ lk tk v t d k x 4=RN n fl ds bQ lk tk v t k x 4:=by kernel_rfl
theorem mz1:LZ n fl ds bQ lk tk v t d 1=RZ n t 1:=by kernel_rfl
theorem mz2:LZ n fl ds bQ lk tk v t d 2=RZ n t 2:=by kernel_rfl
theorem mz3:LZ n fl ds bQ lk tk v t d 3=RZ n t 3:=by kernel_rfl
theorem mz4:LZ n fl ds bQ lk tk v t d 4=RZ n t 4:=by kernel_rfl
theorem mz5:LZ n fl ds bQ lk tk v t d 5=RZ n t 5:=by kernel_rfl
end
end Mine
namespace Mine
def sI(w p q:Zc):Zc:=ae (Zl w 2) (Zn (Yd 2 (aa (aB [2,3,4,0,1] p) 0 λx=>x)) (ae (Zi w 1) 1 0)) (ae (Zi w 3) 21 (ae (Zi w 4) (Zn 10 (aa (aB [2,3,4,0,1] p) 0 λx=>x)) (ae (Zi w 5) (Zn 15 q) (Zn 18 q))))
noncomputable def eL:CS:=jm (cS (aV 1 jn.body))
noncomputable def x8(a b:Zw):CS:=.s (.tup [.loc 5,.loc 6]) (.tup [.con (.int a),.t (.list [.con (.sy 244),.con (.sy 243),.con (.sy 245),.con (.sy 264),.con (.sy 246)]) (.con (.int b))])
noncomputable def mI(c:Zw):CS:=match cS (aV 3 eL)with
 |.i t1 s1 (.seq (.i t2 s2 (.seq (.i t3 s3 _) _)) _)=>.i t1 s1 (.seq (.i t2 s2 (.seq (.i t3 s3 (.seq (.e (.m (.loc 1) 2 [.tup [.t (.list [.con (.sy 269),.con (.sy 270)]) (.b .Sub (.loc 5) (.con (.int 5))),.t (.list [.con (.sy 244),.con (.sy 243),.con (.sy 245)]) (.con (.int c)),.con (.sy 236),.con (.int 0)]])) .skip)) .skip)) .skip)
 |s=>s
def cE:bc:=e8 S0 50
def dm:Ev:=⟨false,1,[]⟩
def fE(kd:Zc→Zc)(k:Zc):Zb AV:=bn 0 1::ag (λj=>bn (kd j) (Zx (Zn 10 j))) (olds 0 k)
def oh(sc:Zb AV)(j:Zw)(o:Zb AV):Fm:=⟨.af sc::.ref 1::.int j::o,[],false⟩
def jK:Zb AV:=[.any,.any,.any,.any]
noncomputable def j0(x:Zc→Zw)(k:Zc)(r:Zb AV):Zb AV:=Zz (λ_=>r) (λ_ ih x=>.int (x 0)::ih (λj=>x (Zk j))) k x
def bP(x:Zw):Zw:=Xy (Zx x.natAbs) 1000000
def AK(l:Zb AV):Zb AV:=Zo [] (λ_ r _=>r) l
section
variable(kd:Zc→Zc)(x:Zc→Zw)(r:Zb AV)(N:Zw)(X:bc)(ev:Ev)(o:Zb AV)
def qc(j:Zc):=aj S0 cE (cS (aV 1 eL)) dm (oh (j0 x (Zk j) r) (Zx j) jK) (AH.ofList [.tab,.list (fE kd j)])
def qi(j:Zc):SR:=.nx (oh (j0 x (Zk j) r) (Zx j) [.int (bP (x j)),.int (Zx (Zn 10 j)),.any,.any]) (AH.ofList [.tab,.list (fE kd j)])
def g8(j:Zc)(o:Zb AV):Fm:=oh (j0 x (Zk j) r) (Zx j) (.int N::.int (Zx (Zn 10 j))::o)
def hE(j:Zc):AH:=AH.ofList [.tab,.list (fE kd j)]
def qd(j:Zc):=aj S0 cE (cS (aV 2 eL)) dm (g8 x r N j [.any,.any]) (hE kd j)
def qj(j:Zc):=aj S0 cE (x8 (Xy N 7) (Xy (Uq N 7) 5)) dm (g8 x r N j [.any,.any]) (hE kd j)
def jR(j:Zc):AH:=(hE kd j).push (.list [.sy 244,.sy 243,.sy 245,.sy 264,.sy 246])
def j4(p:Zc):AV:=aa (aB [.sy 244,.sy 243,.sy 245,.sy 264,.sy 246] p) .none λx=>x
def d8(j p:Zc)(w:Zw):=aj S0 cE (x8 w (Zx p)) dm (g8 x r N j [.any,.any]) (hE kd j)
def d9(j p:Zc)(w:Zw):SR:=.nx (g8 x r N j [.int w,j4 p]) (jR kd j)
def qe(j w p:Zc):=aj S0 cE (cS (aV 3 eL)) dm (g8 x r N j [.int (Zx w),j4 p]) (jR kd j)
def ql(j w p:Zc):=aj S0 cE (mI (Xy (Uq N 7) 3)) dm (g8 x r N j [.int (Zx w),j4 p]) (jR kd j)
def uk(hk:Zd aO)(o:Zd (Fm×AH)):Zd (Zd AV×Zb Zc×Zb AV×Zh×AH×Zh):=aa o none λp=>aa hk none λI=>some (aB p.1.vars 0,p.1.cells,AK (dC I p.2 p.1).vars,eqB p.1.tn false,cC I p.2 I.c,ak (cI I p.2 dm p.1) (eE I (cC I p.2 I.c) I.N))
end
section
variable(kd:Zc→Zc)(x:Zc→Zw)(r:Zb AV)(N:Zw)
def qf(j:Zc)(w p:Zc)(c:Zc):=uk yz (jA (SR.rec (motive:=λ_=>SR) (λfm h=>.nx (bG fm 2 (.int (Zx (Zk j)))) h) .rt .ex .bad (aj S0 cE (mI (Zx c)) dm (g8 x r N j [.int (Zx w),j4 p]) (jR kd j))))
def qg(j:Zc)(w p:Zc)(c:Zc):=uk yA (jA (aj S0 cE (mI (Zx c)) dm (g8 x r N j [.int (Zx w),j4 p]) (jR kd j)))
def qo(j:Zc)(w p:Zc)(c:Zc):=some (some (AV.af (j0 x (Zk j) r)),([]:Zb Zc),.ref 1::.any::jK,true,AH.ofList [.tab,.list (aD (fE kd j) [bn (sI w p c) (Zx (Zn 10 j))])],true)
def ck{β:Type}(F:Zc→Zc→Zc→β):Zb (Zb (Zb β)):=ag (λw=>ag (λp=>ag (F w p) (olds 0 3)) (olds 0 5)) (olds 0 7)
def qm(j:Zc)(w p:Zc)(c:Zc):=some (some (AV.af (j0 x (Zk j) r)),([]:Zb Zc),.ref 1::.int (Zx (Zk j))::jK,true,AH.ofList [.tab,.list (aD (fE kd j) [bn (sI w p c) (Zx (Zn 10 j))])],true)
theorem Mf:qc kd x r 0=qi kd x r 0:=by kernel_rfl
theorem Mg:qc kd x r 1=qi kd x r 1:=by kernel_rfl
theorem Mh:qc kd x r 2=qi kd x r 2:=by kernel_rfl
theorem Mi:qc kd x r 3=qi kd x r 3:=by kernel_rfl
theorem Mj:qc kd x r 4=qi kd x r 4:=by kernel_rfl
theorem Mm:qd kd x r N 0=qj kd x r N 0:=by kernel_rfl
theorem Mn:qd kd x r N 1=qj kd x r N 1:=by kernel_rfl
theorem Mo:qd kd x r N 2=qj kd x r N 2:=by kernel_rfl
theorem Mp:qd kd x r N 3=qj kd x r N 3:=by kernel_rfl
theorem Mq:qd kd x r N 4=qj kd x r N 4:=by kernel_rfl
theorem Ms(w:Zw):d8 kd x r N 0 0 w=d9 kd x r N 0 0 w:=by kernel_rfl
theorem Mt(w:Zw):d8 kd x r N 0 1 w=d9 kd x r N 0 1 w:=by kernel_rfl
theorem Mw(w:Zw):d8 kd x r N 0 2 w=d9 kd x r N 0 2 w:=by kernel_rfl
theorem Mx(w:Zw):d8 kd x r N 0 3 w=d9 kd x r N 0 3 w:=by kernel_rfl
theorem My(w:Zw):d8 kd x r N 0 4 w=d9 kd x r N 0 4 w:=by kernel_rfl
theorem Mz(w:Zw):d8 kd x r N 1 0 w=d9 kd x r N 1 0 w:=by kernel_rfl
theorem MC(w:Zw):d8 kd x r N 1 1 w=d9 kd x r N 1 1 w:=by kernel_rfl
theorem MD(w:Zw):d8 kd x r N 1 2 w=d9 kd x r N 1 2 w:=by kernel_rfl
theorem ME(w:Zw):d8 kd x r N 1 3 w=d9 kd x r N 1 3 w:=by kernel_rfl
theorem MF(w:Zw):d8 kd x r N 1 4 w=d9 kd x r N 1 4 w:=by kernel_rfl
theorem MG(w:Zw):d8 kd x r N 2 0 w=d9 kd x r N 2 0 w:=by kernel_rfl
theorem MH(w:Zw):d8 kd x r N 2 1 w=d9 kd x r N 2 1 w:=by kernel_rfl
theorem MI(w:Zw):d8 kd x r N 2 2 w=d9 kd x r N 2 2 w:=by kernel_rfl
theorem MJ(w:Zw):d8 kd x r N 2 3 w=d9 kd x r N 2 3 w:=by kernel_rfl
theorem MK(w:Zw):d8 kd x r N 2 4 w=d9 kd x r N 2 4 w:=by kernel_rfl
theorem ML(w:Zw):d8 kd x r N 3 0 w=d9 kd x r N 3 0 w:=by kernel_rfl
theorem MM(w:Zw):d8 kd x r N 3 1 w=d9 kd x r N 3 1 w:=by kernel_rfl
theorem MN(w:Zw):d8 kd x r N 3 2 w=d9 kd x r N 3 2 w:=by kernel_rfl
theorem MO(w:Zw):d8 kd x r N 3 3 w=d9 kd x r N 3 3 w:=by kernel_rfl
theorem MP(w:Zw):d8 kd x r N 3 4 w=d9 kd x r N 3 4 w:=by kernel_rfl
theorem MQ(w:Zw):d8 kd x r N 4 0 w=d9 kd x r N 4 0 w:=by kernel_rfl
theorem MR(w:Zw):d8 kd x r N 4 1 w=d9 kd x r N 4 1 w:=by kernel_rfl
theorem MT(w:Zw):d8 kd x r N 4 2 w=d9 kd x r N 4 2 w:=by kernel_rfl
theorem MU(w:Zw):d8 kd x r N 4 3 w=d9 kd x r N 4 3 w:=by kernel_rfl
theorem MV(w:Zw):d8 kd x r N 4 4 w=d9 kd x r N 4 4 w:=by kernel_rfl
theorem MX:ck (λw p _=>qe kd x r N 0 w p)=ck (λw p _=>ql kd x r N 0 w p):=by kernel_rfl
theorem M8:ck (qf kd x r N 0)=ck (qm kd x r 0):=by kernel_rfl
theorem Ni:ck (qg kd x r N 0)=ck (qo kd x r 0):=by kernel_rfl
theorem MY:ck (λw p _=>qe kd x r N 1 w p)=ck (λw p _=>ql kd x r N 1 w p):=by kernel_rfl
theorem M9:ck (qf kd x r N 1)=ck (qm kd x r 1):=by kernel_rfl
theorem Nj:ck (qg kd x r N 1)=ck (qo kd x r 1):=by kernel_rfl
theorem MZ:ck (λw p _=>qe kd x r N 2 w p)=ck (λw p _=>ql kd x r N 2 w p):=by kernel_rfl
theorem Na:ck (qf kd x r N 2)=ck (qm kd x r 2):=by kernel_rfl
theorem Nk:ck (qg kd x r N 2)=ck (qo kd x r 2):=by kernel_rfl
theorem M1:ck (λw p _=>qe kd x r N 3 w p)=ck (λw p _=>ql kd x r N 3 w p):=by kernel_rfl
theorem Nb:ck (qf kd x r N 3)=ck (qm kd x r 3):=by kernel_rfl
theorem Nl:ck (qg kd x r N 3)=ck (qo kd x r 3):=by kernel_rfl
theorem M2:ck (λw p _=>qe kd x r N 4 w p)=ck (λw p _=>ql kd x r N 4 w p):=by kernel_rfl
theorem Nc:ck (qf kd x r N 4)=ck (qm kd x r 4):=by kernel_rfl
theorem Nm:ck (qg kd x r N 4)=ck (qo kd x r 4):=by kernel_rfl
end
end Mine
namespace Mine
theorem hH{c:bc}{a b:CS}{ev:Ev}{fm fm':Fm}{h h':AH}(e:aj S0 c a ev fm h=.nx fm' h'):aj S0 c (.seq a b) ev fm h=aj S0 c b ev fm' h':=by
 show SR.rec (motive:=λ_=>SR) (λfm h=>aj S0 c b ev fm h) .rt .ex .bad (aj S0 c a ev fm h)=_
 rw[e]
theorem FS(x:Zw):Plain (.int x):=⟨λ_=>rfl,λ_ _ _ _=>o4 (λ_=>rfl) _⟩
theorem Ic{x:Zc→Zw}{r:Zb AV}(hr:∀a∈r,Plain a)(k:Zc):∀a∈j0 x k r,Plain a:=by
 induction k generalizing x with
 |zero=>exact hr
 |succ k ih=>exactλa m=>(List.mem_cons.mp (show a∈.int (x 0)::j0 (λj=>x (Zk j)) k r from m)).elim (λe=>e▸FS _) (ih a)
theorem Aw(ho:Zb AV)(fm:Fm)(h:AH):ag (λk=>aj S0 cE (cS (aV k eL)) ⟨false,1,ho⟩ fm h) [1,2,3]=ag (λk=>aj S0 cE (cS (aV k eL)) dm fm h) [1,2,3]:=by kernel_rfl
theorem Mk(kd:Zc→Zc)(x:Zc→Zw)(r:Zb AV):ag (λj=>qc kd x r j) (olds 0 5)=ag (λj=>qi kd x r j) (olds 0 5):=by
 exact(ai (Mf kd x r) (ai (Mg kd x r) (ai (Mh kd x r) (ai (Mi kd x r) (ai (Mj kd x r) rfl)))))
theorem Mr(kd:Zc→Zc)(x:Zc→Zw)(r:Zb AV)(N:Zw):ag (λj=>qd kd x r N j) (olds 0 5)=ag (λj=>qj kd x r N j) (olds 0 5):=by
 exact(ai (Mm kd x r N) (ai (Mn kd x r N) (ai (Mo kd x r N) (ai (Mp kd x r N) (ai (Mq kd x r N) rfl)))))
theorem MW(kd:Zc→Zc)(x:Zc→Zw)(r:Zb AV)(N w:Zw):ag (λj=>ag (λp=>d8 kd x r N j p w) (olds 0 5)) (olds 0 5)=ag (λj=>ag (λp=>d9 kd x r N j p w) (olds 0 5)) (olds 0 5):=by
 exact(ai (ai (Ms kd x r N w) (ai (Mt kd x r N w) (ai (Mw kd x r N w) (ai (Mx kd x r N w) (ai (My kd x r N w) rfl))))) (ai (ai (Mz kd x r N w) (ai (MC kd x r N w) (ai (MD kd x r N w) (ai (ME kd x r N w) (ai (MF kd x r N w) rfl))))) (ai (ai (MG kd x r N w) (ai (MH kd x r N w) (ai (MI kd x r N w) (ai (MJ kd x r N w) (ai (MK kd x r N w) rfl))))) (ai (ai (ML kd x r N w) (ai (MM kd x r N w) (ai (MN kd x r N w) (ai (MO kd x r N w) (ai (MP kd x r N w) rfl))))) (ai (ai (MQ kd x r N w) (ai (MR kd x r N w) (ai (MT kd x r N w) (ai (MU kd x r N w) (ai (MV kd x r N w) rfl))))) rfl)))))
theorem M3(kd:Zc→Zc)(x:Zc→Zw)(r:Zb AV)(N:Zw):ag (λj=>ck (λw p _=>qe kd x r N j w p)) (olds 0 5)=ag (λj=>ck (λw p _=>ql kd x r N j w p)) (olds 0 5):=by
 exact(ai (MX kd x r N) (ai (MY kd x r N) (ai (MZ kd x r N) (ai (M1 kd x r N) (ai (M2 kd x r N) rfl)))))
theorem Nd(kd:Zc→Zc)(x:Zc→Zw)(r:Zb AV)(N:Zw):ag (λj=>ck (qf kd x r N j)) (olds 0 5)=ag (λj=>ck (qm kd x r j)) (olds 0 5):=by
 exact(ai (M8 kd x r N) (ai (M9 kd x r N) (ai (Na kd x r N) (ai (Nb kd x r N) (ai (Nc kd x r N) rfl)))))
theorem Nn(kd:Zc→Zc)(x:Zc→Zw)(r:Zb AV)(N:Zw):ag (λj=>ck (qg kd x r N j)) (olds 0 5)=ag (λj=>ck (qo kd x r j)) (olds 0 5):=by
 exact(ai (Ni kd x r N) (ai (Nj kd x r N) (ai (Nk kd x r N) (ai (Nl kd x r N) (ai (Nm kd x r N) rfl)))))
theorem vq{β:Type}{F G:Zc→Zc→Zc→β}(e:ck F=ck G){w p q:Zc}(hw:w<7)(hp:p<5)(hq:q<3):F w p q=G w p q:=aU (aU (aU e (cb hw)) (cb hp)) (cb hq)
def wN(N:Zw):Zc:=(Xy N 7).toNat
def pN(N:Zw):Zc:=(Xy (Uq N 7) 5).toNat
def qN(N:Zw):Zc:=(Xy (Uq N 7) 3).toNat
theorem qQ(a:Zw){b:Zc}(hb:0<b):Xy a (Zx b)=Zx (Xy a (Zx b)).toNat∧(Xy a (Zx b)).toNat<b:=by
 have h0:(0:Zw)<Zx b:=Int.ofNat_lt.mpr hb
 have h1:=Int.fmod_nonneg_of_pos a h0
 have h2:=Int.fmod_lt_of_pos a h0
 refine⟨(Qx h1).symm,?_⟩
 have h3:=Qx h1
 revert h2 h3
 generalize Xy a (Zx b)=y
 intro h2 h3
 have h2:y<(b:Zw):=h2
 omega
def DA(N:Zw):Zc:=sI (wN N) (pN N) (qN N)
theorem wd(N:Zw):Xy N 7=Zx (wN N)∧Xy (Uq N 7) 5=Zx (pN N)∧Xy (Uq N 7) 3=Zx (qN N)∧wN N<7∧pN N<5∧qN N<3:=
 ⟨(qQ N (b:=7) (by decide)).1,(qQ _ (b:=5) (by decide)).1,(qQ _ (b:=3) (by decide)).1,(qQ N (b:=7) (by decide)).2,(qQ _ (b:=5) (by decide)).2,(qQ _ (b:=3) (by decide)).2⟩
section
variable{kd:Zc→Zc}{x:Zc→Zw}{r ho:Zb AV}(hh:∀a∈ho,Plain a)(hr:∀a∈r,Plain a){j:Zc}(hj:j<5)
include hj in
theorem aj2:aj S0 cE (aV 1 eL) ⟨false,1,ho⟩ (oh (j0 x (Zk j) r) (Zx j) jK) (AH.ofList [.tab,.list (fE kd j)])=SR.rec (motive:=λ_=>SR) (λfm h=>.nx fm h) .rt .ex .bad (aj S0 cE (mI (Zx (qN (bP (x j))))) dm (g8 x r (bP (x j)) j [.int (Zx (wN (bP (x j)))),j4 (pN (bP (x j)))]) (jR kd j)):=by
 obtain⟨a,b,d,hw,hp,hq⟩:=wd (bP (x j))
 have s1:aj S0 cE (cS (aV 1 eL)) ⟨false,1,ho⟩ (oh (j0 x (Zk j) r) (Zx j) jK) (AH.ofList [.tab,.list (fE kd j)])=.nx (g8 x r (bP (x j)) j [.any,.any]) (hE kd j):=(aU (Aw ho _ _) (a:=1) (.head _)).trans (aU (Mk kd x r) (cb hj))
 have s2:aj S0 cE (cS (aV 2 eL)) ⟨false,1,ho⟩ (g8 x r (bP (x j)) j [.any,.any]) (hE kd j)=.nx (g8 x r (bP (x j)) j [.int (Zx (wN (bP (x j)))),j4 (pN (bP (x j)))]) (jR kd j):=by
  refine(aU (Aw ho _ _) (a:=2) (.tail _ (.head _))).trans ((aU (Mr kd x r (bP (x j))) (cb hj)).trans ?_)
  show aj S0 cE (x8 (Xy (bP (x j)) 7) (Xy (Uq (bP (x j)) 7) 5)) dm _ _=_
  rw[a,b]
  exact aU (aU (MW kd x r (bP (x j)) (Zx (wN (bP (x j))))) (cb hj)) (cb hp)
 have s3:aj S0 cE (cS (aV 3 eL)) ⟨false,1,ho⟩ (g8 x r (bP (x j)) j [.int (Zx (wN (bP (x j)))),j4 (pN (bP (x j)))]) (jR kd j)=aj S0 cE (mI (Zx (qN (bP (x j))))) dm (g8 x r (bP (x j)) j [.int (Zx (wN (bP (x j)))),j4 (pN (bP (x j)))]) (jR kd j):=by
  refine(aU (Aw ho _ _) (a:=3) (.tail _ (.tail _ (.head _)))).trans ((vq (aU (M3 kd x r (bP (x j))) (cb hj)) hw hp hq).trans ?_)
  show aj S0 cE (mI (Xy (Uq (bP (x j)) 7) 3)) dm _ _=_
  rw[d]
 have e:aj S0 cE (aV 1 eL) ⟨false,1,ho⟩ (oh (j0 x (Zk j) r) (Zx j) jK) (AH.ofList [.tab,.list (fE kd j)])=aj S0 cE (.seq (cS (aV 1 eL)) (.seq (cS (aV 2 eL)) (.seq (cS (aV 3 eL)) .skip))) ⟨false,1,ho⟩ (oh (j0 x (Zk j) r) (Zx j) jK) (AH.ofList [.tab,.list (fE kd j)]):=rfl
 rw[e,hH s1,hH s2,←s3]
 rfl
end
theorem Lv{I:aO}{h:AH}{hd:Zh}{n0:Zc}{ho:Zb AV}{fm:Fm}(e:cI I h ⟨hd,n0,[]⟩ fm=true)(k:∀a∈ho,Plain a):cI I h ⟨hd,n0,ho⟩ fm=true:=by
 unfold cI at e⊢
 rw[lows k]
 exact e
theorem JU{a b:Zh}(h:ak a b=true):a=true∧b=true:=by
 cases a with
 |false=>exact nomatch h
 |true=>exact⟨rfl,h⟩
theorem uX{I:aO}{j:Zc}(hk:∀fm h,mQ j fm h=some I)(k0:I.kp 0=true)(km:I.mode=0)(kl:I.lm=[]){p:Zd (Fm×AH)}{sc:Zb AV}(hs:∀a∈sc,Plain a){tl:Zb AV}{H':AH}{ho:Zb AV}(hh:∀a∈ho,Plain a)(e:uk (some I) p=some (some (.af sc),[],tl,true,H',true)):∃fm h,p=some (fm,h)∧∀c,aj S0 c (.cut j) ⟨false,1,ho⟩ fm h=.nx ⟨.af sc::tl,[],false⟩ H':=by
 cases p with
 |none=>exact nomatch e
 |some p=>
  have e:some (aB p.1.vars 0,p.1.cells,AK (dC I p.2 p.1).vars,eqB p.1.tn false,cC I p.2 I.c,ak (cI I p.2 dm p.1) (eE I (cC I p.2 I.c) I.N))=some (some (.af sc),[],tl,true,H',true):=e
  have e:=Za e
  have e1:aB p.1.vars 0=some (.af sc):=Ze (·.1) e
  have e2:p.1.cells=[]:=Ze (·.2.1) e
  have e3:AK (dC I p.2 p.1).vars=tl:=Ze (·.2.2.1) e
  have e4:eqB p.1.tn false=true:=Ze (·.2.2.2.1) e
  have e5:cC I p.2 I.c=H':=Ze (·.2.2.2.2.1) e
  have e6:ak (cI I p.2 dm p.1) (eE I (cC I p.2 I.c) I.N)=true:=Ze (·.2.2.2.2.2) e
  have e6:=JU e6
  refine⟨p.1,p.2,rfl,λc=>?_⟩
  rw[kC (hk _ _) e5 (Lv e6.1 hh) (e5▸e6.2)]
  have et:p.1.tn=false:=by
   cases q:p.1.tn with
   |false=>rfl
   |true=>rw[q]at e4;exact nomatch e4
  have z:dC I p.2 p.1=⟨.af sc::tl,[],false⟩:=by
   obtain⟨⟨vars,cells,tn⟩,h⟩:=p
   have e2:cells=[]:=e2
   have et:tn=false:=et
   subst e2 et
   obtain⟨N,sel,aR,mode,bp,cv,mp,km',bg,fg,fk,lm,cc,kp⟩:=I
   have km:mode=0:=km
   have kl:lm=[]:=kl
   subst km kl
   have k0:kp 0=true:=k0
   cases vars with
   |nil=>exact nomatch e1
   |cons a l=>
    have e1:a=.af sc:=Za e1
    subst e1
    have e3:ag (bL _ _ _ 7) (tD kp l 1)=tl:=e3
    show Fm.mk (bL _ _ _ 7 (ae (kp 0) (.af sc) .any)::ag (bL _ _ _ 7) (tD kp l 1)) [] false=_
    rw[e3,k0]
    show Fm.mk (bL _ _ _ 7 (.af sc)::tl) [] false=_
    rw[(Plain.fl hs).tr]
  rw[z]
end Mine
namespace Mine
def dM(l:Zb Zw)(k:Zc):Zw:=aa (aB l k) 0 λx=>x
theorem Ap:∀{l:Zb Zw}{j:Zc},j≤l.length→ag AV.int l=j0 (dM l) j (ag AV.int (l.drop j)):=by
 intro l j
 induction j generalizing l with
 |zero=>exactλ_=>rfl
 |succ j ih=>
  intro h
  cases l with
  |nil=>exact Y8 h (Nat.not_succ_le_zero j)
  |cons a l=>exact Ze (AV.int a::·) (ih (l:=l) (U0 h))
theorem qW(l:Zb Zw):∀a∈ag AV.int l,Plain a:=by
 induction l with
 |nil=>exactλa h=>nomatch h
 |cons x l ih=>exactλa m=>(List.mem_cons.mp (show a∈AV.int x::ag AV.int l from m)).elim (λe=>e▸FS _) (ih a)
def bY(l:Zb Zw)(j:Zc):Zc:=DA (bP (dM l j))
def acg(n:Zc):∀b,olds b (n+1)=aD (olds b n) [b+n]:=by
 induction n with
 |zero=>exactλb=>rfl
 |succ n ih=>exactλb=>Ze (b::·) ((ih (b+1)).trans (by rw[Si];rfl))
theorem ZS{α β:Type}(f:α→β)(l k:Zb α):ag f (aD l k)=aD (ag f l) (ag f k):=by
 induction l with
 |nil=>rfl
 |cons a l ih=>exact Ze (f a::·) ih
theorem Md(kd:Zc→Zc)(j:Zc):fE kd (j+1)=aD (fE kd j) [bn (kd j) (Zx (Zn 10 j))]:=by
 show bn 0 1::ag (λj=>bn (kd j) (Zx (Zn 10 j))) (olds 0 (j+1))=bn 0 1::aD (ag (λj=>bn (kd j) (Zx (Zn 10 j))) (olds 0 j)) [bn (kd j) (Zx (Zn 10 j))]
 rw[acg,ZS,Ws];rfl
theorem Ea(l:Zb Zw)(j:Zc):aD (fE (bY l) j) [bn (sI (wN (bP (dM l j))) (pN (bP (dM l j))) (qN (bP (dM l j)))) (Zx (Zn 10 j))]=fE (bY l) (j+1):=(Md (bY l) j).symm
def mK(N:Zw):Ev:=⟨false,1,[.range N]⟩
def Fe(N:Zw)(n i:Zc)(fm:Fm)(h:AH):SR:=gp false (dD S0 false (.range N)) (eZ S0 cE false (.loc 2)) (aj S0 cE eL (mK N)) n i fm h
theorem EI(N:Zw)(n i:Zc)(fm:Fm)(h:AH):Fe N (n+1) i fm h=aa (ae (decide ((i:Zw)<N)) (some (.int (i:Zw))) none) (.nx fm h) λv=>SR.rec (motive:=λ_=>SR) (λfm h=>Fe N n (i+1) fm h) .rt .ex .bad (aj S0 cE eL (mK N) (bG fm 2 v) h):=rfl
theorem Fy(N:Zw):∀a∈[AV.range N],Plain a:=λa h=>(List.mem_singleton.mp h)▸⟨λ_=>rfl,λ_ _ _ _=>o4 (λ_=>rfl) _⟩
theorem EG{N:Zw}{n i:Zc}{fm:Fm}{h:AH}(e:N≤(i:Zw)):Fe N (n+1) i fm h=.nx fm h:=by
 rw[EI,Ym (Int.not_lt.mpr e)];rfl
theorem EH{N:Zw}{n i:Zc}{fm fm':Fm}{h H':AH}(e:(i:Zw)<N)(c:aj S0 cE (.cut 11) (mK N) (bG fm 2 (.int (Zx i))) h=.nx fm' H'):Fe N (n+1) i fm h=SR.rec (motive:=λ_=>SR) (λfm h=>Fe N n (i+1) fm h) .rt .ex .bad (aj S0 cE (aV 1 eL) (mK N) fm' H'):=by
 rw[EI,Y6 e]
 have z:aj S0 cE eL (mK N) (bG fm 2 (.int (Zx i))) h=aj S0 cE (aV 1 eL) (mK N) fm' H':=hH (a:=.cut 11) (b:=aV 1 eL) c
 show SR.rec (motive:=λ_=>SR) (λfm h=>Fe N n (i+1) fm h) .rt .ex .bad (aj S0 cE eL (mK N) (bG fm 2 (.int (Zx i))) h)=_
 rw[z]
theorem ab9{r:SR}{fm:Fm}{h:AH}(e:jA r=some (fm,h)):r=.nx fm h:=by
 cases r with
 |nx f k=>
  have e:=Za (show some (f,k)=some (fm,h) from e)
  have e1:f=fm:=Ze Xq e
  have e2:k=h:=Ze Vp e
  subst e1 e2;rfl
 |rt v h=>exact nomatch e
 |ex v h=>exact nomatch e
 |bad=>exact nomatch e
section
variable{l:Zb Zw}{N:Zw}
def GE(l:Zb Zw)(N:Zw)(j n:Zc):SR:=SR.rec (motive:=λ_=>SR) (λfm h=>Fe N n (j+1) fm h) .rt .ex .bad (aj S0 cE (aV 1 eL) (mK N) (oh (ag AV.int l) (Zx j) jK) (AH.ofList [.tab,.list (fE (bY l) j)]))
def pf(r:SR):SR:=SR.rec (motive:=λ_=>SR) (λfm h=>aj S0 cE (.cut 12) ⟨false,1,[]⟩ fm h) .rt .ex .bad (fH r)
theorem E9{j:Zc}(hj:j<5)(hl:j<l.length)(n:Zc):GE l N j n=SR.rec (motive:=λ_=>SR) (λfm h=>Fe N n (j+1) fm h) .rt .ex .bad (aj S0 cE (mI (Zx (qN (bP (dM l j))))) dm (g8 (dM l) (ag AV.int (l.drop (j+1))) (bP (dM l j)) j [.int (Zx (wN (bP (dM l j)))),j4 (pN (bP (dM l j)))]) (jR (bY l) j)):=by
 unfold GE
 rw[Ap hl,show aj S0 cE (aV 1 eL) (mK N) _ _=_ from aj2 (ho:=[.range N]) (kd:=bY l) (x:=dM l) (r:=ag AV.int (l.drop (j+1))) hj]
 cases aj S0 cE (mI (Zx (qN (bP (dM l j))))) dm (g8 (dM l) (ag AV.int (l.drop (j+1))) (bP (dM l j)) j [.int (Zx (wN (bP (dM l j)))),j4 (pN (bP (dM l j)))]) (jR (bY l) j)<;>rfl
theorem TX{j:Zc}(hj:j<5)(hl:j<l.length)(hN:((j+1:Zc):Zw)<N)(n:Zc):GE l N j (n+1)=GE l N (j+1) n:=by
 rw[E9 hj hl]
 obtain⟨_,_,_,hw,hp,hq⟩:=wd (bP (dM l j))
 have e:=vq (aU (Nd (bY l) (dM l) (ag AV.int (l.drop (j+1))) (bP (dM l j))) (cb hj)) hw hp hq
 obtain⟨fm,h,e1,e2⟩:=uX (j:=11) (λ_ _=>rfl) rfl rfl rfl (Ic (qW _) _) (Fy N) e
 have e2:=e2 cE
 revert e1
 cases aj S0 cE (mI (Zx (qN (bP (dM l j))))) dm (g8 (dM l) (ag AV.int (l.drop (j+1))) (bP (dM l j)) j [.int (Zx (wN (bP (dM l j)))),j4 (pN (bP (dM l j)))]) (jR (bY l) j)with
 |nx f1 h1=>
  intro e1
  have e1:=Za (show some (bG f1 2 (.int (Zx (Zk j))),h1)=some (fm,h) from e1)
  have e3:bG f1 2 (.int (Zx (j+1)))=fm:=Ze Xq e1
  have e4:h1=h:=Ze Vp e1
  subst e4
  rw[←e3,←Ap hl,Ea]at e2
  exact EH hN e2
 |rt v h=>exactλe=>nomatch e
 |ex v h=>exactλe=>nomatch e
 |bad=>exactλe=>nomatch e
theorem TW{j:Zc}(hj:j<5)(hl:j<l.length)(hN:N≤((j+1:Zc):Zw))(n:Zc):pf (GE l N j (n+1))=.nx ⟨.af (ag AV.int l)::.ref 1::.any::jK,[],false⟩ (AH.ofList [.tab,.list (fE (bY l) (j+1))]):=by
 rw[E9 hj hl]
 obtain⟨_,_,_,hw,hp,hq⟩:=wd (bP (dM l j))
 have e:=vq (aU (Nn (bY l) (dM l) (ag AV.int (l.drop (j+1))) (bP (dM l j))) (cb hj)) hw hp hq
 obtain⟨fm,h,e1,e2⟩:=uX (j:=12) (λ_ _=>rfl) rfl rfl rfl (Ic (qW _) _) (ho:=[]) (λ_ h=>nomatch h) e
 have e2:=e2 cE
 rw[ab9 e1]
 show pf (Fe N (n+1) (j+1) fm h)=_
 rw[EG hN]
 rw[←Ap hl,Ea]at e2
 exact e2
theorem TV(i:Zc):∀j,j+1+i≤5→j+1+i≤l.length→N=((j+1+i:Zc):Zw)→∀n,pf (GE l N j (n+1+i))=.nx ⟨.af (ag AV.int l)::.ref 1::.any::jK,[],false⟩ (AH.ofList [.tab,.list (fE (bY l) (j+1+i))]):=by
 induction i with
 |zero=>exactλj h1 h2 h3 n=>TW h1 h2 (Uk h3) n
 |succ i ih=>
  intro j h1 h2 h3 n
  show pf (GE l N j (n+1+i+1))=_
  rw[TX (by omega) (by omega) (by rw[h3];exact Int.ofNat_lt.mpr (by omega))]
  have z:=ih (j+1) (by omega) (by omega) (by rw[h3];exact Ze Zx (by omega)) n
  rw[show j+1+(i+1)=j+1+1+i by omega]
  exact z
end
end Mine
namespace Mine
theorem Kw{a b:Zc}(h:a≤b):Zl a b=true:=U3 h
def r8:Zb AV:=.any::jK
def dY(sc:Zb AV):Fm:=⟨.af sc::.ref 1::r8,[],false⟩
def zM:AV:=.tup [.sy 150,.sy 264,.sy 236,.int 0]
def eM(kd:Zc→Zc)(k:Zc):AH:=AH.ofList [.tab,.list (fE kd k)]
def kK(kd:Zc→Zc)(k:Zc):AH:=((eM kd k).push (.list [zM])).push (.list [])
theorem ae5(sc:Zb AV)(kd:Zc→Zc):aj S0 cE (cS jn.body) dm ⟨.af sc::.any::r8,[],false⟩ (AH.ofList [.tab])=.nx (dY sc) (eM kd 0):=by kernel_rfl
def wU(s:CS):CE:=match s with|.fb _ _ e _=>e|_=>.con .none
def pn:CS:=cS (aV 1 jn.body)
def v6(sc:Zb AV):Zw:=ae (decide (((aJ sc:Zc):Zw)<5)) ((aJ sc:Zc):Zw) 5
theorem afa(sc:Zb AV)(h:AH):aC S0 cE false (wU pn) (dY sc) h=ae (Zl (v6 sc).natAbs ez) (.ok (.range (v6 sc)) h) .bad:=by kernel_rfl
theorem ae7(sc:Zb AV)(kd:Zc→Zc):uk yz (some (bG (dY sc) 2 (.int 0),eM kd 0))=some (some (.af sc),[],.ref 1::.int 0::jK,true,eM kd 0,true):=by kernel_rfl
theorem ae8(sc:Zb AV)(kd:Zc→Zc):uk yA (some (dY sc,eM kd 0))=some (some (.af sc),[],.ref 1::r8,true,eM kd 0,true):=by kernel_rfl
noncomputable def aef:CE:=match cS (aV 3 jn.body)with|.ret (.b _ _ (.b _ e _))=>e|_=>.con .none
def ua(o:Zd Zh)(sc:Zb AV)(kd:Zc→Zc)(k:Zc):SR:=sB (dY sc) (AM.bind (gP (dY sc) 1) λx=>AM.bind (AM.bind (aC S0 cE false aef (dY sc)) λy=>AM.bind (AM.bind (vX S0 45 (dY sc)) λf=>AM.bind (AM.bind (λ_=>aa o .bad λb=>.ok (.bool b) (kK kd k)) λv=>AM.bind (dI (dY sc)) λvs=>AM.pure (v::vs)) λvs=>pw vs (cE false f vs)) λz=>binI S0 .Mult y z) λw=>binI S0 .Add x w) (eM kd k) λv h=>nz (dY sc) v h
theorem ae9(sc:Zb AV)(kd:Zc→Zc)(k:Zc):aj S0 cE (cS (aV 3 jn.body)) dm (dY sc) (eM kd k)=ua (eD S0 (kK kd k) .Eq (.af sc) (.ref 3)) sc kd k:=by kernel_rfl
def wE(b:Zh):Zb AV:=ae b [zM] []
def lA(kd:Zc→Zc)(k:Zc)(b:Zh):AH:=AH.ofList [.tab,.list (fE kd k),.list [zM],.list [],.list (wE b),.list (aD (fE kd k) (wE b))]
theorem ae6(sc:Zb AV)(kd:Zc→Zc):ag (λk=>(ua (some true) sc kd k,ua (some false) sc kd k)) (olds 0 6)=ag (λk=>(SR.rt (.ref 5) (lA kd k true),SR.rt (.ref 5) (lA kd k false))) (olds 0 6):=by kernel_rfl
theorem Ml(h:AH)(n:Zc)(l:Zb Zw):aM (qX S0 h (n+1)) (ag AV.int l)=true:=by
 induction l with
 |nil=>rfl
 |cons a l ih=>exact ih
theorem LS(kd:Zc→Zc)(k:Zc):eD S0 (kK kd k) .Eq (.af []) (.ref 3)=some true:=by kernel_rfl
theorem LR(kd:Zc→Zc)(k:Zc)(a:Zw)(l:Zb Zw):eD S0 (kK kd k) .Eq (.af (ag AV.int (a::l))) (.ref 3)=some false:=by
 have d:qX S0 (kK kd k) 8 (.af (ag AV.int (a::l)))=true:=Ml (kK kd k) 6 (a::l)
 have d2:qX S0 (kK kd k) 8 (.ref 3)=true:=by kernel_rfl
 have m:tN S0 (kK kd k) 8 (.af (ag AV.int (a::l))) (.ref 3)=true:=by kernel_rfl
 have q:sV S0 (kK kd k) 8 (.af (ag AV.int (a::l))) (.ref 3)=false:=by kernel_rfl
 have v:A1 (.af (ag AV.int (a::l))) (.ref 3)=none:=by kernel_rfl
 show sU S0 (kK kd k) (.af (ag AV.int (a::l))) (.ref 3)=some false
 unfold sU
 rw[v,d,d2,m,q]
 rfl
theorem YA(l:Zb Zw):aJ (ag AV.int l)=l.length:=by
 induction l with
 |nil=>rfl
 |cons a l ih=>exact Ze Zk ih
def nD(l:Zb Zw):Zc:=min l.length 5
theorem aaR(l:Zb Zw):v6 (ag AV.int l)=((nD l:Zc):Zw):=by
 unfold v6 nD
 rw[YA]
 by_cases h:((l.length:Zc):Zw)<5
 ·rw[Y6 h]
  have h:l.length<5:=Int.ofNat_lt.mp h
  rw[Nat.min_eq_left (Xi h)];rfl
 ·rw[Ym h]
  have h:5≤l.length:=Vg λq=>h (Int.ofNat_lt.mpr q)
  rw[Nat.min_eq_right h];rfl
def oy(l:Zb Zw):Zh:=match l with|[]=>true|_=>false
theorem Nh(l:Zb Zw):e8 S0 51 false (.au 1465) [.af (ag AV.int l)] (AH.ofList [.tab])=.ok (.ref 5) (lA (bY l) (nD l) (oy l)):=by
 have hn:nD l≤5:=U6 _ _
 have hl:nD l≤l.length:=Sw _ _
 have src:aC S0 cE false (wU pn) (dY (ag AV.int l)) (eM (bY l) 0)=.ok (.range (nD l)) (eM (bY l) 0):=by
  rw[afa,aaR]
  have:Zl ((nD l:Zc):Zw).natAbs ez=true:=Kw (Zu hn (by decide))
  rw[this];rfl
 have lp:aj S0 cE pn dm (dY (ag AV.int l)) (eM (bY l) 0)=fH (Fe (nD l) cw 0 (dY (ag AV.int l)) (eM (bY l) 0)):=by
  show sB (dY (ag AV.int l)) (aC S0 cE false (wU pn) (dY (ag AV.int l))) (eM (bY l) 0) (λsrc h=>fH (gp false (dD S0 false src) (eZ S0 cE false (.loc 2)) (aj S0 cE eL ⟨false,1,[src]⟩) cw 0 (dY (ag AV.int l)) h))=_
  unfold sB
  rw[src];rfl
 have cz:pf (Fe (nD l) cw 0 (dY (ag AV.int l)) (eM (bY l) 0))=.nx (dY (ag AV.int l)) (eM (bY l) (nD l)):=by
  cases q:nD l with
  |zero=>
   rw[show cw=999999+1 from rfl,EG (Ux _)]
   obtain⟨fm,h,e1,e2⟩:=uX (j:=12) (λ_ _=>rfl) rfl rfl rfl (qW l) (ho:=[]) (λ_ h=>nomatch h) (ae8 (ag AV.int l) (bY l))
   have e1:=Za e1
   have e3:dY (ag AV.int l)=fm:=Ze Xq e1
   have e4:eM (bY l) 0=h:=Ze Vp e1
   subst e3 e4
   exact e2 cE
  |succ i=>
   obtain⟨fm,h,e1,e2⟩:=uX (j:=11) (λ_ _=>rfl) rfl rfl rfl (qW l) (Fy ((i+1:Zc):Zw)) (ae7 (ag AV.int l) (bY l))
   have e1:=Za e1
   have e3:bG (dY (ag AV.int l)) 2 (.int 0)=fm:=Ze Xq e1
   have e4:eM (bY l) 0=h:=Ze Vp e1
   subst e3 e4
   have e5:cw=(cw-i-2)+1+i+1:=by
    have:cw=1000000:=rfl
    omega
   rw[e5,EH (N:=((i+1:Zc):Zw)) (i:=0) (Int.ofNat_lt.mpr (Tc i)) (e2 cE)]
   have z:=TV (l:=l) (N:=((i+1:Zc):Zw)) i 0 (by omega) (by omega) (Ze Zx (by omega)) (cw-i-2)
   rw[show 0+1+i=i+1 by omega]at z
   exact z
 show gQ (aj S0 cE jn.body dm ⟨.af (ag AV.int l)::.any::r8,[],false⟩ (AH.ofList [.tab]))=_
 have b0:aj S0 cE jn.body dm ⟨.af (ag AV.int l)::.any::r8,[],false⟩ (AH.ofList [.tab])=aj S0 cE (.seq pn (.seq (.cut 12) (aV 3 jn.body))) dm (dY (ag AV.int l)) (eM (bY l) 0):=hH (ae5 _ _)
 have b1:aj S0 cE (.seq pn (.seq (.cut 12) (aV 3 jn.body))) dm (dY (ag AV.int l)) (eM (bY l) 0)=SR.rec (motive:=λ_=>SR) (λfm h=>aj S0 cE (aV 3 jn.body) dm fm h) .rt .ex .bad (pf (Fe (nD l) cw 0 (dY (ag AV.int l)) (eM (bY l) 0))):=by
  show SR.rec (motive:=λ_=>SR) (λfm h=>SR.rec (motive:=λ_=>SR) (λfm h=>aj S0 cE (aV 3 jn.body) dm fm h) .rt .ex .bad (aj S0 cE (.cut 12) dm fm h)) .rt .ex .bad (aj S0 cE pn dm (dY (ag AV.int l)) (eM (bY l) 0))=_
  rw[lp]
  unfold pf
  cases fH (Fe (nD l) cw 0 (dY (ag AV.int l)) (eM (bY l) 0))<;>rfl
 rw[b0,b1,cz]
 show gQ (SR.rec (motive:=λ_=>SR) (λfm h=>.nx fm h) .rt .ex .bad (aj S0 cE (cS (aV 3 jn.body)) dm (dY (ag AV.int l)) (eM (bY l) (nD l))))=_
 have e:=aU (ae6 (ag AV.int l) (bY l)) (cb (Xm hn))
 rw[ae9]
 cases l with
 |nil=>
  have c:eD S0 (kK (bY []) (nD [])) .Eq (.af (ag AV.int [])) (.ref 3)=some true:=LS _ _
  rw[c,show ua (some true) (ag AV.int []) (bY []) (nD [])=_ from Ze Xq e];rfl
 |cons a l=>
  rw[LR,show ua (some false) (ag AV.int (a::l)) (bY (a::l)) (nD (a::l))=_ from Ze Vp e];rfl
noncomputable def mfL:Zb (Zb Zc):=[[],[],[8],[6,7],[11],[9,10],[14],[12,13],[5],[3,4],[2],[1],[],[],[]]
def GT(i:Zc):fA:=Zo .lf (λk _ ih=>.nd k ih ih) (aa (aB mfL i) [] λl=>l)
def uQ(b:Zh):Zc:=Zp 0 1 b
def IM(N:Zc)(b:Zh)(bp:Zc→Zh):aO:={N:=N,sel:=[],aR:=[],mode:=uQ b,bp:=bp}
def aaY(N:Zc)(b:Zh)(bp:Zc→Zh)(s:St)(i:Zc):Zh:=aG (aK i (14::ae b [1,13] [])) (aa ((mT s).get i) false (eF (IM N b bp)))
theorem aaZ(N:Zc)(b:Zh)(bp:Zc→Zh)(v:Zc→Zh)(n:Zc→Zw)(fl ds xs:Zb AV)(bQ lk tk:Zc):ag (λi=>tab (λv=>aaY (Zn N 15) b bp ⟨v,n,fl,ds,xs,bQ,lk,tk⟩ i) (GT i) v) (olds 0 15)=ag (λi=>tab (λ_=>true) (GT i) v) (olds 0 15):=by
 cases b<;>kernel_rfl
theorem FL{I:aO}{N:Zc}{b:Zh}(hN:I.N=N)(hm:I.mode=uQ b)(o:AO):eF I o=eF (IM N b I.bp) o:=by
 obtain⟨N',sel,aR,mode,bp,cv,mp,km,bg,fg,fk,lm,cc,kp⟩:=I
 have hN:N'=N:=hN
 have hm:mode=uQ b:=hm
 subst hN hm
 exact rfl
theorem y5{s:St}(hx:∀a∈s.xs,Plain a){tl:Zb AO}{I:aO}{N:Zc}{b:Zh}(hN:I.N=N+15)(hm:I.mode=uQ b)(ht:aM (λj=>aK j I.aR) (ae b [1,13] [])=true)
  (hl:∀i,15≤i→i<I.N→aG (aK i I.aR) (aa ((mH s tl).get i) false (eF (IM (N+15) b I.bp)))=true):eE I (mH s tl) I.N=true:=by
 refine y2 λi h=>?_
 by_cases Fh:15≤i
 ·have z:=hl i Fh h
  rw[show eF I=eF (IM (N+15) b I.bp) from funext (FL hN hm)]
  exact z
 ·have lt:i<15:=Y1 Fh
  have k:aG (aK i (14::ae b [1,13] [])) (aa ((mT s).get i) false (eF (IM (N+15) b I.bp)))=true:=j5 (aU (aaZ N b I.bp s.v s.n s.fl s.ds s.xs s.rd s.lk s.tk) (nl (Yt i) (by rw[Ws];exact lt)))
  have gt:∀o,(mT s).get i=some o→(mH s tl).get i=some o:=λo e=>xP e lt
  by_cases El:i=14
  ·subst El
   rw[gt (.list s.xs) rfl]
   exact lN (lows hx I)
  cases q:aK i (ae b [1,13] [])with
  |true=>exact Hs (Ci ht q)
  |false=>
   have z:aK i (14::ae b [1,13] [])=false:=by
    show Zp (motive:=λ_=>Zh) (aK i (ae b [1,13] [])) true (Zi i 14)=false
    rw[nU El,q]
   rw[z]at k
   have k:aa ((mT s).get i) false (eF (IM (N+15) b I.bp))=true:=k
   cases q2:(mT s).get i with
   |none=>rw[q2]at k;exact nomatch k
   |some o=>
    rw[q2]at k
    rw[gt o q2]
    exact lN ((FL hN hm o).trans k)
theorem Dr{I:aO}{h:AH}{hd:Zh}{n0:Zc}{ho:Zb AV}{fm:Fm}(e:cI I h ⟨hd,n0,[]⟩ fm=true)(k:∀a∈ho,Plain a):cI I h ⟨hd,n0,ho⟩ fm=true:=by
 unfold cI at e⊢
 rw[lows k]
 exact e
theorem Hh{r:SR}{p:Fm×AH}(e:jA r=some p):r=.nx p.1 p.2:=by
 cases r with
 |nx fm h=>rw[←Za (show some (fm,h)=some p from e)]
 |rt v h=>exact nomatch e
 |ex v h=>exact nomatch e
 |bad=>exact nomatch e
structure Jr(c:bc)(ev:Ev)(b:Zh)(r:SR)(fm':Fm)(H':AH):Prop where
 ex:∃aX h1,r=.nx aX h1∧aj S0 c (.cut (ae b 10 4)) ev aX h1=.nx fm' H'
theorem DP{c:bc}{b:Zh}{r:SR}{fm':Fm}{s:St}{tl:Zb AO}{x y z:Zh}{ho:Zb AV}(hx:∀a∈s.xs,Plain a)(k:∀a∈ho,Plain a)(e:pY (some b) (jA r)=some (fm',mH s tl,true,15,1,x,y,z,true)):Jr c ⟨false,1,ho⟩ b r fm' (mH s tl):=by
 cases q:jA r with
 |none=>rw[q]at e;exact nomatch e
 |some p=>
  rw[q]at e
  have e:aa (tq b p.1 p.2) none (λI=>some (dC I p.2 p.1,cC I p.2 I.c,cI I p.2 cZ p.1,I.N,I.mode,I.bp 0,I.bp 1,aG true (aK 14 I.aR),aG false (ak (aK 1 I.aR) (aK 13 I.aR))))=some (fm',mH s tl,true,15,1,x,y,z,true):=e
  cases u:tq b p.1 p.2 with
  |none=>rw[u]at e;exact nomatch e
  |some I=>
   rw[u]at e
   have e:=Za e
   have e1:dC I p.2 p.1=fm':=Ze (·.1) e
   have e2:cC I p.2 I.c=mH s tl:=Ze (·.2.1) e
   have e3:cI I p.2 cZ p.1=true:=Ze (·.2.2.1) e
   have e4:I.N=15:=Ze (·.2.2.2.1) e
   have e5:I.mode=1:=Ze (·.2.2.2.2.1) e
   have e6:ak (aK 1 I.aR) (aK 13 I.aR)=true:=Ze (·.2.2.2.2.2.2.2.2) e
   have ht:aM (λj=>aK j I.aR) (ae true [1,13] [])=true:=by
    show Zp (motive:=λ_=>Zh) false (Zp (motive:=λ_=>Zh) false true (aK 13 I.aR)) (aK 1 I.aR)=true
    revert e6
    cases aK 1 I.aR<;>cases aK 13 I.aR<;>exactλh=>h
   refine⟨p.1,p.2,Hh q,?_⟩
   rw[←e1]
   refine kC (I:=I) ?_ e2 (Dr e3 k) (y5 (N:=0) (b:=true) hx e4 e5 ht λi h1 h2=>Y8 (X7 h2 (Xb e4)) (Nat.not_lt.mpr h1))
   cases b<;>exact u
theorem DN{c:bc}{r:SR}{d:AV}{fm':Fm}{s:St}{x y z w:Zh}{ho:Zb AV}{N m:Zc}(hx:∀a∈s.xs,Plain a)(k:∀a∈ho,Plain a)(e:pY none (wO d (jA r))=some (fm',mH s [],true,N,m,x,y,z,w))(lo:(N=15∧m=0)∨N=1):∃aX h1,r=.nx aX h1∧aj S0 c (.cut 3) ⟨false,1,ho⟩ (bG aX 5 d) h1=.nx fm' (mH s []):=by
 cases q:jA r with
 |none=>rw[q]at e;exact nomatch e
 |some p=>
  rw[q]at e
  have e:aa (vz (bG p.1 5 d) p.2) none (λI=>some (dC I p.2 (bG p.1 5 d),cC I p.2 I.c,cI I p.2 cZ (bG p.1 5 d),I.N,I.mode,I.bp 0,I.bp 1,aG false (aK 14 I.aR),aG true (ak (aK 1 I.aR) (aK 13 I.aR))))=some (fm',mH s [],true,N,m,x,y,z,w):=e
  cases u:vz (bG p.1 5 d) p.2 with
  |none=>rw[u]at e;exact nomatch e
  |some I=>
   rw[u]at e
   have e:=Za e
   have e1:dC I p.2 (bG p.1 5 d)=fm':=Ze (·.1) e
   have e2:cC I p.2 I.c=mH s []:=Ze (·.2.1) e
   have e3:cI I p.2 cZ (bG p.1 5 d)=true:=Ze (·.2.2.1) e
   have e4:I.N=N:=Ze (·.2.2.2.1) e
   have e5:I.mode=m:=Ze (·.2.2.2.2.1) e
   refine⟨p.1,p.2,Hh q,?_⟩
   rw[←e1]
   refine kC (I:=I) u e2 (Dr e3 k) ?_
   rcases lo with⟨l1,l2⟩|l1
   ·subst l1 l2
    exact y5 (N:=0) (b:=false) hx e4 e5 rfl λi h1 h2=>Y8 (X7 h2 (Xb e4)) (Nat.not_lt.mpr h1)
   ·rw[e4,l1]
    show aG (aK 0 I.aR) true=true
    exact lN rfl
theorem ig{c:bc}{a b:CS}{ev:Ev}{fm fm':Fm}{h h':AH}(e:aj S0 c a ev fm h=.nx fm' h'):aj S0 c (.seq a b) ev fm h=aj S0 c b ev fm' h':=by
 show SR.rec (motive:=λ_=>SR) (λfm h=>aj S0 c b ev fm h) .rt .ex .bad (aj S0 c a ev fm h)=_
 rw[e]
theorem qw{a b:Zh}(h:ak a b=true):b=true:=by
 cases a with
 |false=>exact nomatch h
 |true=>exact h
theorem Lu{I:aO}{h:AH}{hd:Zh}{n0:Zc}{ho:Zb AV}{fm:Fm}(e:cI I h ⟨hd,n0,ho⟩ fm=true):cI I h ⟨hd,n0,[]⟩ fm=true:=by
 unfold cI at e⊢
 cases q:aM (ei I) ho with
 |true=>rw[show aM (ei I) (⟨hd,n0,ho⟩:Ev).hold=true from q]at e;exact e
 |false=>
  rw[show aM (ei I) (⟨hd,n0,ho⟩:Ev).hold=false from q]at e
  exact nomatch qw (qw (qw (qw (qw (qw e)))))
def Fg(q n i:Zc)(fm:Fm)(h:AH):SR:=gp false (dD S0 false (.ref (cp q))) (eZ S0 cM false (rO gy)) (aj S0 cM (jm gy) (fU q)) n i fm h
theorem QM(q n i:Zc)(fm:Fm)(h:AH):Fg q (n+1) i fm h=sB fm (dD S0 false (.ref (cp q)) i) h λo h=>aa o (.nx fm h) λv=>sB fm (eZ S0 cM false (rO gy) v fm) h λfm h=>SR.rec (motive:=λ_=>SR) (λfm h=>Fg q n (i+1) fm h) .rt .ex .bad (aj S0 cM (jm gy) (fU q) fm h):=rfl
theorem EK{q j:Zc}{b:Zh}{fm di:Fm}{h h2:AH}(e:pX q j fm h=some (b,di,h2))(n:Zc):Fg q (n+1) j fm h=ae b (SR.rec (motive:=λ_=>SR) (λfm h=>Fg q n (j+1) fm h) .rt .ex .bad (aj S0 cM (jm gy) (fU q) di h2)) (.nx di h2):=by
 rw[QM]
 unfold pX at e
 unfold sB
 cases q1:dD S0 false (.ref (cp q)) j h with
 |exc i hh=>rw[q1]at e;exact nomatch e
 |bad=>rw[q1]at e;exact nomatch e
 |ok o hh=>
  rw[q1]at e
  cases o with
  |none=>
   have e:some (false,fm,hh)=some (b,di,h2):=e
   have e:=Za e
   have e1:false=b:=Ze (·.1) e
   have e2:fm=di:=Ze (·.2.1) e
   have e3:hh=h2:=Ze (·.2.2) e
   subst e1 e2 e3;rfl
  |some v=>
   have e:Res.rec (motive:=λ_=>Zd (Zh×Fm×AH)) (λfm h=>some (true,fm,h)) (λ_ _=>none) none (eZ S0 cM false (rO gy) v fm hh)=some (b,di,h2):=e
   show Res.rec (motive:=λ_=>SR) (λfm h=>SR.rec (motive:=λ_=>SR) (λfm h=>Fg q n (j+1) fm h) .rt .ex .bad (aj S0 cM (jm gy) (fU q) fm h)) (λe h=>Zp (motive:=λ_=>SR) (.ex e h) .bad fm.tn) .bad (eZ S0 cM false (rO gy) v fm hh)=_
   cases q2:eZ S0 cM false (rO gy) v fm hh with
   |exc i hh=>rw[q2]at e;exact nomatch e
   |bad=>rw[q2]at e;exact nomatch e
   |ok jP h3=>
    rw[q2]at e
    have e:=Za (show some (true,jP,h3)=some (b,di,h2) from e)
    have e1:true=b:=Ze (·.1) e
    have e2:jP=di:=Ze (·.2.1) e
    have e3:h3=h2:=Ze (·.2.2) e
    subst e1 e2 e3;rfl
theorem aaO(s:St)(bp:Zc→Zh):ag (λq=>ag (λk=>ag (λi=>aa ((mG s q k).get i) false (eF (IM (Zk (cp q)) false bp))) (olds 15 (Yh (cp q) 14))) (olds 0 3)) (olds 0 5)=ag (λq=>ag (λk=>ag (λi=>true) (olds 15 (Yh (cp q) 14))) (olds 0 3)) (olds 0 5):=by kernel_rfl
theorem abQ{q:Zc}(hq:q<5):cp q=(Yh (cp q) 14)+14:=by
 have z:∀q∈olds 0 5,cp q=(Yh (cp q) 14)+14:=by
  intro q h
  repeat(rcases List.mem_cons.mp h with e|h;· subst e;rfl)
  exact nomatch h
 exact z q (cb hq)
structure Jp(q:Zc)(b':Zh)(p:Zd (Zh×Fm×AH))(fm':Fm)(H':AH):Prop where
 ex:∃fm h,p=some (b',fm,h)∧(∀c,aj S0 c (.cut 5) (fU q) fm h=.nx fm' H')∧∀c,aj S0 c (.cut 5) ⟨false,Zk (cp q),[]⟩ fm h=.nx fm' H'
theorem x3{q k:Zc}(hq:q<5)(hk:k<3){s:St}(hx:∀a∈s.xs,Plain a){b':Zh}{p:Zd (Zh×Fm×AH)}{fm':Fm}(e:ul q p=some (b',fm',mG s q k,true,Zk (cp q),0,true)):Jp q b' p fm' (mG s q k):=by
 cases p with
 |none=>exact nomatch e
 |some p=>
  have e:aa (vA p.2.1 p.2.2) none (λI=>some (p.1,dC I p.2.2 p.2.1,cC I p.2.2 I.c,cI I p.2.2 (fU q) p.2.1,I.N,I.mode,aK 13 I.aR))=some (b',fm',mG s q k,true,Zk (cp q),0,true):=e
  cases u:vA p.2.1 p.2.2 with
  |none=>rw[u]at e;exact nomatch e
  |some I=>
   rw[u]at e
   have e:=Za e
   have e0:p.1=b':=Ze (·.1) e
   have e1:dC I p.2.2 p.2.1=fm':=Ze (·.2.1) e
   have e2:cC I p.2.2 I.c=mG s q k:=Ze (·.2.2.1) e
   have e3:cI I p.2.2 (fU q) p.2.1=true:=Ze (·.2.2.2.1) e
   have e4:I.N=Zk (cp q):=Ze (·.2.2.2.2.1) e
   have e5:I.mode=0:=Ze (·.2.2.2.2.2.1) e
   have g:=abQ hq
   have e6:I.N=Yh (cp q) 14+15:=e4.trans (Ze Zk g)
   have lo:eE I (mG s q k) I.N=true:=y5 (N:=Yh (cp q) 14) (b:=false) hx e6 e5 rfl λi h1 h2=>by
    have z:=aU (aU (aU (aaO s I.bp) (cb hq)) (cb hk)) (a:=i) (nl h1 (by rw[Vh 15];exact e6▸h2))
    rw[show Yh (cp q) 14+15=Zk (cp q) from(Ze Zk g).symm]
    exact lN z
   refine⟨p.2.1,p.2.2,by rw[←e0],λc=>?_,λc=>?_⟩
   ·rw[←e1];exact kC (I:=I) u e2 e3 lo
   ·rw[←e1];exact kC (I:=I) u e2 (Lu e3) lo
theorem zr{s:St}(h:∀a∈s.xs,Plain a)(i:Zc):∀a∈(md s i).xs,Plain a:=h
theorem adR(s:St):ag (λq=>(aj S0 cM (cS n8.body) ⟨false,Zk (cp q),[]⟩ ⟨aD (kr q) [.any,.any,.any,.any],[],false⟩ (iT s q),ul q (pX q 0 (iP q .any) (mG s q 0)))) (olds 0 5)=ag (λq=>(SR.nx (iP q .any) (mG s q 0),some (true,iP q (.sy 236),mG s q 0,true,Zk (cp q),0,true))) (olds 0 5):=by kernel_rfl
theorem GU(s:St):ag (λq=>ag (λj=>tab (LG s.n s.fl s.ds s.xs s.rd s.lk s.tk q j) (gT q j) s.v) (olds 0 2)) (olds 0 5)=ag (λq=>ag (λj=>tab (RG s.n s.fl s.ds s.xs s.rd s.lk s.tk q j) (gT q j) s.v) (olds 0 2)) (olds 0 5):=by
 exact(ai (ai (aaE s.n s.fl s.ds s.xs s.rd s.lk s.tk s.v) (ai (aaF s.n s.fl s.ds s.xs s.rd s.lk s.tk s.v) rfl)) (ai (ai (aaG s.n s.fl s.ds s.xs s.rd s.lk s.tk s.v) (ai (aaH s.n s.fl s.ds s.xs s.rd s.lk s.tk s.v) rfl)) (ai (ai (aaI s.n s.fl s.ds s.xs s.rd s.lk s.tk s.v) (ai (aaJ s.n s.fl s.ds s.xs s.rd s.lk s.tk s.v) rfl)) (ai (ai (aaK s.n s.fl s.ds s.xs s.rd s.lk s.tk s.v) (ai (aaL s.n s.fl s.ds s.xs s.rd s.lk s.tk s.v) rfl)) (ai (ai (aaM s.n s.fl s.ds s.xs s.rd s.lk s.tk s.v) (ai (aaN s.n s.fl s.ds s.xs s.rd s.lk s.tk s.v) rfl)) rfl)))))
theorem adU(s:St)(q:Zc)(x:AV):aj S0 cM (aV 3 n8.body) ⟨false,Zk (cp q),[]⟩ (iP q x) (mG s q 2)=.rt (.ref (Zk (cp q))) (mG s q 2):=rfl
theorem VW(s:St):ag (λq=>(iT s q).size) (olds 0 5)=ag (λq=>Zk (cp q)) (olds 0 5):=by kernel_rfl
theorem ad1{q:Zc}(hq:q<5){s:St}(hx:∀a∈s.xs,Plain a):cD false (.au 1491) (kr q) (iT s q)=.ok (.ref (Zk (cp q))) (mG (md (md s (q0 q)) (Zk (q0 q))) q 2):=by
 have z0:=aU (adR s) (cb hq)
 have a0:=Ze Xq z0
 have a1:=Ze Vp z0
 have mgx:=aU (aU (GU s) (cb hq)) (cb (i:=0) (by decide))
 have mgy:=aU (aU (GU (md s (q0 q))) (cb hq)) (cb (i:=1) (by decide))
 have x1:ul q (SR.rec (motive:=λ_=>Zd (Zh×Fm×AH)) (λfm h=>pX q 1 fm h) (λ_ _=>none) (λ_ _=>none) none (aj S0 cM pT (fU q) (iP q (.sy 236)) (mG s q 0)))=some (true,iP q (.sy 237),mG (md s (q0 q)) q 1,true,Zk (cp q),0,true):=j5 mgx
 have y1:ul q (SR.rec (motive:=λ_=>Zd (Zh×Fm×AH)) (λfm h=>pX q 2 fm h) (λ_ _=>none) (λ_ _=>none) none (aj S0 cM pT (fU q) (iP q (.sy 237)) (mG (md s (q0 q)) q 1)))=some (false,iP q (.sy 237),mG (md (md s (q0 q)) (Zk (q0 q))) q 2,true,Zk (cp q),0,true):=j5 mgy
 obtain⟨f1,h1,p1,c1,_⟩:=(x3 hq (by decide) hx a1).ex
 obtain⟨f2,h2,p2,c2,_⟩:=(x3 hq (by decide) (zr hx _) x1).ex
 obtain⟨f3,h3,p3,_,c3⟩:=(x3 hq (by decide) (zr (zr hx _) _) y1).ex
 have step:∀{j:Zc}{fm fm':Fm}{H H':AH}{b:Zh}{di:Fm}{vw:AH},(∀c,aj S0 c (.cut 5) (fU q) fm H=.nx fm' H')→SR.rec (motive:=λ_=>Zd (Zh×Fm×AH)) (λfm h=>pX q j fm h) (λ_ _=>none) (λ_ _=>none) none (aj S0 cM pT (fU q) fm' H')=some (b,di,vw)→∀n,SR.rec (motive:=λ_=>SR) (λfm h=>Fg q (n+1) j fm h) .rt .ex .bad (aj S0 cM (jm gy) (fU q) fm H)=ae b (SR.rec (motive:=λ_=>SR) (λfm h=>Fg q n (j+1) fm h) .rt .ex .bad (aj S0 cM (jm gy) (fU q) di vw)) (.nx di vw):=λ{j fm fm' H H' b di vw} hc hs n=>by
  have e:aj S0 cM (jm gy) (fU q) fm H=aj S0 cM pT (fU q) fm' H':=ig (b:=pT) (hc cM)
  rw[e]
  cases r:aj S0 cM pT (fU q) fm' H' with
  |nx jP h3=>rw[r]at hs;exact EK hs n
  |rt v hh=>rw[r]at hs;exact nomatch hs
  |ex v hh=>rw[r]at hs;exact nomatch hs
  |bad=>rw[r]at hs;exact nomatch hs
 have loop:∀n,Fg q (n+3) 0 (iP q .any) (mG s q 0)=.nx f3 h3:=λn=>by
  rw[EK p1 (n+2)]
  show SR.rec (motive:=λ_=>SR) (λfm h=>Fg q (n+1+1) 1 fm h) .rt .ex .bad (aj S0 cM (jm gy) (fU q) f1 h1)=_
  rw[step c1 p2 (n+1)]
  show SR.rec (motive:=λ_=>SR) (λfm h=>Fg q (n+1) 2 fm h) .rt .ex .bad (aj S0 cM (jm gy) (fU q) f2 h2)=_
  rw[step c2 p3 n]
  rfl
 have sz:(iT s q).size=Zk (cp q):=aU (VW s) (cb hq)
 show gQ (aj S0 cM n8.body ⟨false,(iT s q).size,[]⟩ ⟨aD (kr q) [.any,.any,.any,.any],[],false⟩ (iT s q))=_
 rw[sz]
 have b1:aj S0 cM n8.body ⟨false,Zk (cp q),[]⟩ ⟨aD (kr q) [.any,.any,.any,.any],[],false⟩ (iT s q)=aj S0 cM (.seq gy (.seq (.cut 5) (aV 3 n8.body))) ⟨false,Zk (cp q),[]⟩ (iP q .any) (mG s q 0):=ig (b:=.seq gy (.seq (.cut 5) (aV 3 n8.body))) a0
 have b2:aj S0 cM gy ⟨false,Zk (cp q),[]⟩ (iP q .any) (mG s q 0)=.nx f3 h3:=by
  show fH (Fg q (999997+3) 0 (iP q .any) (mG s q 0))=_
  rw[loop];rfl
 rw[b1,ig b2,ig (c3 cM),adU]
 rfl
end Mine
namespace Mine
def lT(b:Zh)(p:Zc)(g:Zb Zc→fA):fA:=
 (λtwo=>Zz .lf (λ_ _=>Zz (g [1]) (λ_ _=>Zz (two 16 15 (g [2]) (g [2,1]) (g [1,2])) (λ_ _=>Zz (two 18 17 (g [3]) (g [3,1]) (g [1,3]))
  (λ_ _=>ae b (.nd 20 (.nd 16 (.nd 15 (.nd 19 (g [4,2]) (g [4,1,2])) (g [4,2,1])) (g [4,1,2])) (g [1,4,2]))
   (.nd 20 (.nd 16 (.nd 15 (.nd 19 (g [4,2]) (g [4,1,2])) (.nd 19 (g [4,2,1]) (g [4,2,1]))) (.nd 19 (g [4,1,2]) (g [4,1,2]))) (.nd 16 (.nd 15 (.nd 19 (g [1,4,2]) (g [1,4,2])) (.nd 19 (g [1,4,2]) (g [1,4,2]))) (.nd 19 (g [1,4,2]) (g [1,4,2])))))
  (Yh p 3)) (Yh p 2)) (Yh p 1)) p)
 λi j x y z=>.nd i (.nd j x y) (ae b z (.nd j z z))
def kT(p:Zc)(g:Zb Zc→fA):fA:=.nd (Zn 20 p) (lT false p g) (lT true p g)
def k1(p:Zc):fA:=ae (Zi p 0) .lf (.nd (Zn 20 p) .lf .lf)
def nT(k p:Zc):fA:=Zo (ae (Zi p 0) (sT k [0]) (kT p λl=>sT k (aD (Ht l (ae (Zi p 3) [3,2] [p])) [0]))) (λq _ ih=>.nd (Zn (Yd 3 q) k) ih (k1 p)) (ae (Zi p 0) [] (ae (Zi p 3) [3,2] [p]))
def rT(c:Zh)(i:Zc):fA:=
 ae (c5 i) ((λm=>ae c (.nd (Zn 30 i) m (.nd (Zn 50 i) (k1 (fJ i)) (k1 (fJ i)))) m) (kT (fJ i) λl=>sT 2 (ae (Zi (fJ i) 1) l (aD l [0]))))
  ((λm=>ae c (.nd (Zn 30 i) m (k1 (fJ i))) m) (nT (gz i) (fJ i)))
def fx(c:Zh)(i:Zc)(v:Zc→Zh):Zc→Zh:=(λv=>Zp (bI v (Zn 30 i) false) v c) (Zp v (bI v 22 true) (Zl 8 i))
section
variable(n:Zc→Zw)(fl ds xs:Zb AV)(r lk tk:Zc)(c:Zh)(i:Zc)(v:Zc→Zh)
def LL:=lS (turns 12 bX (lH c ⟨fx c i v,n,fl,ds,xs,r,lk,tk⟩ i))
def RR:=some (bX,lH c (rd ⟨fx c i v,n,fl,ds,xs,r,lk,tk⟩ c i) (Zk i),true,dj c,1,(λ(_:Zc)=>false),true)
end
section
variable(n:Zc→Zw)(fl ds xs:Zb AV)(r lk tk:Zc)(v:Zc→Zh)
theorem ahR:tab (LL n fl ds xs r lk tk true 0) (rT true 0) v=tab (RR n fl ds xs r lk tk true 0) (rT true 0) v:=by kernel_rfl
theorem ahS:tab (LL n fl ds xs r lk tk true 1) (rT true 1) v=tab (RR n fl ds xs r lk tk true 1) (rT true 1) v:=by kernel_rfl
theorem ahX:tab (LL n fl ds xs r lk tk true 2) (rT true 2) v=tab (RR n fl ds xs r lk tk true 2) (rT true 2) v:=by kernel_rfl
theorem ahY:tab (LL n fl ds xs r lk tk true 3) (rT true 3) v=tab (RR n fl ds xs r lk tk true 3) (rT true 3) v:=by kernel_rfl
theorem ahZ:tab (LL n fl ds xs r lk tk true 4) (rT true 4) v=tab (RR n fl ds xs r lk tk true 4) (rT true 4) v:=by kernel_rfl
theorem ah0:tab (LL n fl ds xs r lk tk true 5) (rT true 5) v=tab (RR n fl ds xs r lk tk true 5) (rT true 5) v:=by kernel_rfl
theorem ah1:tab (LL n fl ds xs r lk tk true 6) (rT true 6) v=tab (RR n fl ds xs r lk tk true 6) (rT true 6) v:=by kernel_rfl
theorem ah2:tab (LL n fl ds xs r lk tk true 7) (rT true 7) v=tab (RR n fl ds xs r lk tk true 7) (rT true 7) v:=by kernel_rfl
theorem ah3:tab (LL n fl ds xs r lk tk true 8) (rT true 8) v=tab (RR n fl ds xs r lk tk true 8) (rT true 8) v:=by kernel_rfl
theorem ah4:tab (LL n fl ds xs r lk tk true 9) (rT true 9) v=tab (RR n fl ds xs r lk tk true 9) (rT true 9) v:=by kernel_rfl
theorem ahT:tab (LL n fl ds xs r lk tk true 10) (rT true 10) v=tab (RR n fl ds xs r lk tk true 10) (rT true 10) v:=by kernel_rfl
theorem ahU:tab (LL n fl ds xs r lk tk true 11) (rT true 11) v=tab (RR n fl ds xs r lk tk true 11) (rT true 11) v:=by kernel_rfl
theorem ahV:tab (LL n fl ds xs r lk tk true 12) (rT true 12) v=tab (RR n fl ds xs r lk tk true 12) (rT true 12) v:=by kernel_rfl
theorem ahW:tab (LL n fl ds xs r lk tk true 13) (rT true 13) v=tab (RR n fl ds xs r lk tk true 13) (rT true 13) v:=by kernel_rfl
theorem ahC:tab (LL n fl ds xs r lk tk false 0) (rT false 0) v=tab (RR n fl ds xs r lk tk false 0) (rT false 0) v:=by kernel_rfl
theorem ahD:tab (LL n fl ds xs r lk tk false 1) (rT false 1) v=tab (RR n fl ds xs r lk tk false 1) (rT false 1) v:=by kernel_rfl
theorem ahI:tab (LL n fl ds xs r lk tk false 2) (rT false 2) v=tab (RR n fl ds xs r lk tk false 2) (rT false 2) v:=by kernel_rfl
theorem ahJ:tab (LL n fl ds xs r lk tk false 3) (rT false 3) v=tab (RR n fl ds xs r lk tk false 3) (rT false 3) v:=by kernel_rfl
theorem ahK:tab (LL n fl ds xs r lk tk false 4) (rT false 4) v=tab (RR n fl ds xs r lk tk false 4) (rT false 4) v:=by kernel_rfl
theorem ahL:tab (LL n fl ds xs r lk tk false 5) (rT false 5) v=tab (RR n fl ds xs r lk tk false 5) (rT false 5) v:=by kernel_rfl
theorem ahM:tab (LL n fl ds xs r lk tk false 6) (rT false 6) v=tab (RR n fl ds xs r lk tk false 6) (rT false 6) v:=by kernel_rfl
theorem ahN:tab (LL n fl ds xs r lk tk false 7) (rT false 7) v=tab (RR n fl ds xs r lk tk false 7) (rT false 7) v:=by kernel_rfl
theorem ahO:tab (LL n fl ds xs r lk tk false 8) (rT false 8) v=tab (RR n fl ds xs r lk tk false 8) (rT false 8) v:=by kernel_rfl
theorem ahP:tab (LL n fl ds xs r lk tk false 9) (rT false 9) v=tab (RR n fl ds xs r lk tk false 9) (rT false 9) v:=by kernel_rfl
theorem ahE:tab (LL n fl ds xs r lk tk false 10) (rT false 10) v=tab (RR n fl ds xs r lk tk false 10) (rT false 10) v:=by kernel_rfl
theorem ahF:tab (LL n fl ds xs r lk tk false 11) (rT false 11) v=tab (RR n fl ds xs r lk tk false 11) (rT false 11) v:=by kernel_rfl
theorem ahG:tab (LL n fl ds xs r lk tk false 12) (rT false 12) v=tab (RR n fl ds xs r lk tk false 12) (rT false 12) v:=by kernel_rfl
theorem ahH:tab (LL n fl ds xs r lk tk false 13) (rT false 13) v=tab (RR n fl ds xs r lk tk false 13) (rT false 13) v:=by kernel_rfl
end
end Mine
namespace Mine
def gC(k:Zc):Fm→AH→SR:=Zz (λ_ _=>.bad) (λ_ ih fm h=>SR.rec (λfm h=>Res.rec (λv h=>aa (bK v) .bad λb=>ae b (aa (dZ fm.tn h) (ih fm h) λ_=>.bad) (.nx fm h)) (λ_ _=>.bad) .bad (aC S0 cR false eQ fm h)) (λ_ _=>.bad) (λ_ _=>.bad) .bad (aj S0 cR fu cQ fm h)) k
def uc:CS:=match sX.body with|.seq _ b=>b|s=>s
def jD(r:SR):Zd AV:=SR.rec (λ_ _=>none) (λv _=>some v) (λ_ _=>none) none r
def d7(t:Zc→Zc→Zw)(r:Zc):Zb AV:=ag (λk=>eA (t k)) (olds 0 r)
section
variable(n:Zc→Zw)(fl ds xs:Zb AV)(lk tk:Zc)(v:Zc→Zh)(d:Zc→AV)(nr:AV)(t:Zc→Zc→Zw)
def iN(c:Zh)(r:Zc):SR:=SR.rec (λfm h=>aj S0 cR uc cQ fm h) .rt .ex .bad (gC 8 bX (iS c ⟨v,n,fl,pre d (Zk r),d7 t r,r,lk,tk⟩ nr))
theorem NO:jD (iN n fl lk tk v d nr t true 1)=some (.tup [.sy 49,ltV (aD (d7 t 1) [eA λi=>n (Zn 60 i)])]):=by kernel_rfl
theorem NP:jD (iN n fl lk tk v d nr t true 2)=some (.tup [.sy 49,ltV (aD (d7 t 2) [eA λi=>n (Zn 60 i)])]):=by kernel_rfl
theorem NQ:jD (iN n fl lk tk v d nr t true 3)=some (.tup [.sy 49,ltV (aD (d7 t 3) [eA λi=>n (Zn 60 i)])]):=by kernel_rfl
theorem NS:jD (iN n fl lk tk v d nr t true 4)=some (.tup [.sy 49,ltV (aD (d7 t 4) [eA λi=>n (Zn 60 i)])]):=by kernel_rfl
theorem NT:jD (iN n fl lk tk v d nr t true 5)=some (.tup [.sy 49,ltV (aD (d7 t 5) [eA λi=>n (Zn 60 i)])]):=by kernel_rfl
theorem NJ:jD (iN n fl lk tk v d nr t false 1)=some (.tup [.sy 49,ltV (aD (d7 t 1) [eA λi=>n (Zn 60 i)])]):=by kernel_rfl
theorem NK:jD (iN n fl lk tk v d nr t false 2)=some (.tup [.sy 49,ltV (aD (d7 t 2) [eA λi=>n (Zn 60 i)])]):=by kernel_rfl
theorem NL:jD (iN n fl lk tk v d nr t false 3)=some (.tup [.sy 49,ltV (aD (d7 t 3) [eA λi=>n (Zn 60 i)])]):=by kernel_rfl
theorem NM:jD (iN n fl lk tk v d nr t false 4)=some (.tup [.sy 49,ltV (aD (d7 t 4) [eA λi=>n (Zn 60 i)])]):=by kernel_rfl
theorem NN:jD (iN n fl lk tk v d nr t false 5)=some (.tup [.sy 49,ltV (aD (d7 t 5) [eA λi=>n (Zn 60 i)])]):=by kernel_rfl
end
end Mine
namespace Mine
theorem ahB(n:Zc→Zw)(fl ds xs:Zb AV)(r lk tk:Zc)(v:Zc→Zh)(c:Zh):ag (λi=>tab (LL n fl ds xs r lk tk c i) (rT c i) v) (olds 0 14)=ag (λi=>tab (RR n fl ds xs r lk tk c i) (rT c i) v) (olds 0 14):=by
 cases c
 ·exact(ai (ahC n fl ds xs r lk tk v) (ai (ahD n fl ds xs r lk tk v) (ai (ahI n fl ds xs r lk tk v) (ai (ahJ n fl ds xs r lk tk v) (ai (ahK n fl ds xs r lk tk v) (ai (ahL n fl ds xs r lk tk v) (ai (ahM n fl ds xs r lk tk v) (ai (ahN n fl ds xs r lk tk v) (ai (ahO n fl ds xs r lk tk v) (ai (ahP n fl ds xs r lk tk v) (ai (ahE n fl ds xs r lk tk v) (ai (ahF n fl ds xs r lk tk v) (ai (ahG n fl ds xs r lk tk v) (ai (ahH n fl ds xs r lk tk v) rfl))))))))))))))
 ·exact(ai (ahR n fl ds xs r lk tk v) (ai (ahS n fl ds xs r lk tk v) (ai (ahX n fl ds xs r lk tk v) (ai (ahY n fl ds xs r lk tk v) (ai (ahZ n fl ds xs r lk tk v) (ai (ah0 n fl ds xs r lk tk v) (ai (ah1 n fl ds xs r lk tk v) (ai (ah2 n fl ds xs r lk tk v) (ai (ah3 n fl ds xs r lk tk v) (ai (ah4 n fl ds xs r lk tk v) (ai (ahT n fl ds xs r lk tk v) (ai (ahU n fl ds xs r lk tk v) (ai (ahV n fl ds xs r lk tk v) (ai (ahW n fl ds xs r lk tk v) rfl))))))))))))))
theorem agj(n:Zc→Zw)(fl ds xs:Zb AV)(r lk tk:Zc)(x:Zw)(v:Zc→Zh)(c:Zh):ag (λd=>tab (LD n fl ds xs r lk tk x c d) (dT d) v) (olds 0 22)=ag (λd=>tab (RD n fl ds xs r lk tk x c d) (dT d) v) (olds 0 22):=by
 cases c
 ·exact(ai (agG n fl ds xs r lk tk x v) (ai (agH n fl ds xs r lk tk x v) (ai (agS n fl ds xs r lk tk x v) (ai (agV n fl ds xs r lk tk x v) (ai (agW n fl ds xs r lk tk x v) (ai (agX n fl ds xs r lk tk x v) (ai (agY n fl ds xs r lk tk x v) (ai (agZ n fl ds xs r lk tk x v) (ai (ag0 n fl ds xs r lk tk x v) (ai (ag1 n fl ds xs r lk tk x v) (ai (agI n fl ds xs r lk tk x v) (ai (agJ n fl ds xs r lk tk x v) (ai (agK n fl ds xs r lk tk x v) (ai (agL n fl ds xs r lk tk x v) (ai (agM n fl ds xs r lk tk x v) (ai (agN n fl ds xs r lk tk x v) (ai (agO n fl ds xs r lk tk x v) (ai (agP n fl ds xs r lk tk x v) (ai (agQ n fl ds xs r lk tk x v) (ai (agR n fl ds xs r lk tk x v) (ai (agT n fl ds xs r lk tk x v) (ai (agU n fl ds xs r lk tk x v) rfl))))))))))))))))))))))
 ·exact(ai (ag2 n fl ds xs r lk tk x v) (ai (ag3 n fl ds xs r lk tk x v) (ai (ahe n fl ds xs r lk tk x v) (ai (ahh n fl ds xs r lk tk x v) (ai (ahi n fl ds xs r lk tk x v) (ai (ahj n fl ds xs r lk tk x v) (ai (ahk n fl ds xs r lk tk x v) (ai (ahl n fl ds xs r lk tk x v) (ai (ahm n fl ds xs r lk tk x v) (ai (ahn n fl ds xs r lk tk x v) (ai (ag4 n fl ds xs r lk tk x v) (ai (ag5 n fl ds xs r lk tk x v) (ai (ag6 n fl ds xs r lk tk x v) (ai (ag7 n fl ds xs r lk tk x v) (ai (ag8 n fl ds xs r lk tk x v) (ai (ag9 n fl ds xs r lk tk x v) (ai (aha n fl ds xs r lk tk x v) (ai (ahb n fl ds xs r lk tk x v) (ai (ahc n fl ds xs r lk tk x v) (ai (ahd n fl ds xs r lk tk x v) (ai (ahf n fl ds xs r lk tk x v) (ai (ahg n fl ds xs r lk tk x v) rfl))))))))))))))))))))))
theorem xO(c:Zh):Zi (dj c) 68=c:=by cases c<;>rfl
theorem adT{c:Zh}{s:St}(P:fc s){i:Zc}(hi:i<14)(h1:8≤i→s.v 22=true)(h2:c=false→s.v (30+i)=false):gI 12 bX (lH c s i) bX (lH c (rd s c i) (i+1)):=by
 have k:=j5 (aU (ahB s.n s.fl s.ds s.xs s.rd s.lk s.tk s.v c) (nl (Yt i) (by rw[Ws];exact hi)))
 have e:fx c i s.v=s.v:=by
  have e1:(Zp s.v (bI s.v 22 true) (Zl 8 i):Zc→Zh)=s.v:=by
   cases q:Zl 8 i with
   |false=>rfl
   |true=>exact w9 (h1 (Zm q))
  show(λv=>Zp (motive:=λ_=>Zc→Zh) (bI v (Zn 30 i) false) v c) (Zp s.v (bI s.v 22 true) (Zl 8 i))=s.v
  rw[e1]
  cases c with
  |true=>rfl
  |false=>exact w9 (h2 rfl)
 have k:lS (turns 12 bX (lH c ⟨fx c i s.v,s.n,s.fl,s.ds,s.xs,s.rd,s.lk,s.tk⟩ i))=some (bX,lH c (rd ⟨fx c i s.v,s.n,s.fl,s.ds,s.xs,s.rd,s.lk,s.tk⟩ c i) (Zk i),true,dj c,1,(λ(_:Zc)=>false),true):=k
 rw[e]at k
 refine AB k λI a b d e=>?_
 rw[xO]at e
 have Q:fc (rd s c i):=⟨P.fl,P.ds,P.xs⟩
 have hb:I.bp=λp=>Zz false (λ_ _=>false) p:=d.trans (funext λp=>by cases p<;>rfl)
 have go:∀j,j<15→eE I (lH c (rd s c i) j) (dj c)=true:=λj hj=>by
  have z:∀m,m∈olds 0 15→eE I (lH c (rd s c i) m) (dj c)=true:=by
   intro m hm
   repeat(rcases List.mem_cons.mp hm with h|hm;· subst h;exact y7 Q a b hb e)
   exact nomatch hm
  exact z j (nl (Yt j) (by rw[Ws];exact hj))
 exact go (i+1) (Nat.succ_lt_succ hi)
def bR(c:Zh)(s:St)(k:Zc):St:=Zz s (λi ih=>rd ih c i) k
theorem HG{c:Zh}{s:St}(P:fc s)(k:Zc):fc (bR c s k):=by
 induction k with
 |zero=>exact P
 |succ k ih=>exact⟨ih.fl,ih.ds,ih.xs⟩
def Gh:fA:=Zo .lf (λk _ ih=>.nd k ih ih) [22,37,35,36,6,7]
theorem XE(c:Zh)(s:St):tab (λv=>aG (ak (ay (v 22)) (v 37)) (aG (ak (ay c) (aG (v 35) (aG (v 36) (v 37)))) ((bR c {s with v:=v} 8).v 22))) Gh s.v=tab (λ_=>true) Gh s.v:=by
 cases c<;>kernel_rfl
structure rV(c:Zh)(s:St):Prop where
 g:s.v 37=true→s.v 22=true
 u:c=false→∀i,i<14→s.v (30+i)=false
theorem rV.CC{c:Zh}{s:St}(h:rV c s):(bR c s 8).v 22=true:=by
 have k:aG (ak (ay (s.v 22)) (s.v 37)) (aG (ak (ay c) (aG (s.v 35) (aG (s.v 36) (s.v 37)))) ((bR c s 8).v 22))=true:=j5 (XE c s)
 have a:ak (ay (s.v 22)) (s.v 37)=false:=by
  cases q:s.v 37 with
  |true=>rw[h.g q];rfl
  |false=>cases s.v 22<;>rfl
 have b:ak (ay c) (aG (s.v 35) (aG (s.v 36) (s.v 37)))=false:=by
  cases c with
  |true=>rfl
  |false=>rw[h.u rfl 5 (by decide),h.u rfl 6 (by decide),h.u rfl 7 (by decide)];rfl
 rw[a,b]at k;exact k
theorem adZ(c:Zh)(s:St):ag (λi=>(bR c s (Zn 8 i)).v 22) (olds 0 6)=ag (λ_=>(bR c s 8).v 22) (olds 0 6):=by kernel_rfl
theorem ad0(s:St):ag (λi=>(bR false s i).v (Zn 30 i)) (olds 0 14)=ag (λi=>s.v (Zn 30 i)) (olds 0 14):=by kernel_rfl
theorem ad3{c:Zh}{s:St}(P:fc s)(h:rV c s):∀k,k≤14→gI (12*k) bX (lH c s 0) bX (lH c (bR c s k) k):=λk=>by
 induction k with
 |zero=>exactλ_ n=>⟨n,Yg _,rfl⟩
 |succ k ih=>
  intro hk
  have z:=gI.trans (ih (Wt hk)) (adT (HG P k) hk (λh8=>?_) λhc=>?_)
  ·rw[Ui,Vh];exact z
  ·obtain⟨j,rfl⟩:=Nat.exists_eq_add_of_le h8
   exact(aU (adZ c s) (nl (Yt j) (by omega))).trans h.CC
  ·subst hc
   exact(aU (ad0 s) (nl (Yt k) (by omega))).trans (h.u rfl k hk)
theorem acd{r:Res AV}(h:zZ r=true):r=.ok .none (lO r):=by
 cases r with
 |ok v hh=>
  have h:isNone v=true:=h
  have:v=.none:=by
   revert h;cases v<;>first|exactλ_=>rfl|exactλh=>nomatch h
  rw[this];rfl
 |exc i hh=>exact nomatch h
 |bad=>exact nomatch h
theorem acf{r:Res AV}(h:z7 r=true):∃hh,r=.ok (.bool true) hh:=by
 cases r with
 |ok v hh=>
  have h:aa (bK v) false (λb=>b)=true:=h
  revert h
  cases v<;>first|exactλh=>nomatch(show false=true from h)|skip
  rename_i b
  cases b with
  |false=>exactλh=>nomatch(show false=true from h)
  |true=>exactλ_=>⟨hh,rfl⟩
 |exc i hh=>exact nomatch h
 |bad=>exact nomatch h
theorem Ng{c:Zh}{s:St}{d:AV}{H:AH}(hd:aB s.ds (Zk s.rd)=some d)(e:e8 S0 49 false (.au 1458) [.ref 3,d] (h2 c s)=.ok .none H)(t:∃hh,aC S0 cR false eQ (fT c s) H=.ok (.bool true) hh)(tt:∀hh,aC S0 cR false eQ (fT c s) H=.ok (.bool true) hh→hh=H):turn bX (hR c s)=some (fT c s,H):=by
 have b:=aj1 c (e8 S0 49) (hT c s).size s.v s.n s.fl s.ds s.xs s.rd s.lk s.tk
 rw[hd]at b
 have b:aj S0 (e8 S0 49) vP.body ⟨false,(hT c s).size,[]⟩ kG (hT c s)=SR.rec (motive:=λ_=>SR) (λfm h=>.nx fm h) .rt .ex .bad (sB kG (e8 S0 49 false (.au 1458) [.ref 3,d]) (h2 c s) λ_ h=>.nx kG h):=b
 have e1:sB kG (e8 S0 49 false (.au 1458) [.ref 3,d]) (h2 c s) (λ_ h=>SR.nx kG h)=.nx kG H:=by
  unfold sB;rw[e]
 rw[e1]at b
 have call:cR false (.eK 1 [12]) qy (hT c s)=.ok .none H:=by
  show gQ (aj S0 (e8 S0 49) vP.body ⟨false,(hT c s).size,[]⟩ kG (hT c s))=_
  rw[b];rfl
 have a:=aj0 c cR s.v s.n s.fl s.ds s.xs s.rd s.lk s.tk
 rw[KP]at a
 have a:turn bX (hR c s)=AR cR (SR.rec (motive:=λ_=>SR) (λfm h=>.nx fm h) .rt .ex .bad (uf S0 (λ_ _=>cR false (.eK 1 [12]) qy) (nF nA).1 (nF nA).2.1 (aj S0 cR (nF nA).2.2) cQ (fT c s) (hT c s))):=a
 have e2:uf S0 (λ_ _=>cR false (.eK 1 [12]) qy) (nF nA).1 (nF nA).2.1 (aj S0 cR (nF nA).2.2) cQ (fT c s) (hT c s)=.nx (fT c s) H:=by
  show Res.rec (motive:=λ_=>SR) (λ_ h=>.nx (fT c s) h) _ .bad (cR false (.eK 1 [12]) qy (hT c s))=_
  rw[call]
 rw[a,e2]
 obtain⟨hh,q⟩:=t
 show Res.rec (motive:=λ_=>Zd (Fm×AH)) (λv h=>aa (bK v) none λb=>ae b (some (fT c s,h)) none) (λ_ _=>none) none (aC S0 cR false eQ (fT c s) H)=_
 rw[q,tt hh q];rfl
theorem ajM(fm:Fm)(H:AH){hh:AH}{v:AV}(e:aC S0 cR false eQ fm H=.ok v hh):hh=H:=by
 have e:AM.bind (AM.bind (gP fm 0) λo=>mz o 80) (λx=>AM.bind (tK .none fm) λy h=>aa (eD S0 h .Is x y) .bad λb=>.ok (.bool b) h) H=.ok v hh:=e
 unfold AM.bind gP mz at e
 cases q:aB fm.vars 0 with
 |none=>rw[q]at e;exact nomatch e
 |some w=>
  rw[q]at e
  cases q2:isAny w with
  |true=>
   have e:Res.rec (motive:=λ_=>Res AV) _ _ .bad (Res.rec (motive:=λ_=>Res AV) _ _ .bad (ae (isAny w) .bad (Res.ok w H)))=.ok v hh:=e
   rw[q2]at e;exact nomatch e
  |false=>
   have e:Res.rec (motive:=λ_=>Res AV) (λx h=>aa (eD S0 h .Is x .none) .bad λb=>.ok (.bool b) h) (λi h=>.exc i h) .bad (Res.rec (motive:=λ_=>Res AV) (λo h=>aa (aq (pE h o) λq=>aY 80 q.2) .bad λx=>.ok x h) (λi h=>.exc i h) .bad (ae (isAny w) .bad (Res.ok w H)))=.ok v hh:=e
   rw[q2]at e
   have e:Res.rec (motive:=λ_=>Res AV) (λx h=>aa (eD S0 h .Is x .none) .bad λb=>.ok (.bool b) h) (λi h=>.exc i h) .bad (aa (aq (pE H w) λq=>aY 80 q.2) .bad λx=>.ok x H)=.ok v hh:=e
   cases q3:aq (pE H w) λq=>aY 80 q.2 with
   |none=>rw[q3]at e;exact nomatch e
   |some x=>
    rw[q3]at e
    have e:aa (eD S0 H .Is x .none) .bad (λb=>Res.ok (.bool b) H)=.ok v hh:=e
    cases q4:eD S0 H .Is x .none with
    |none=>rw[q4]at e;exact nomatch e
    |some b=>rw[q4]at e;injection e with _ e;exact e.symm
theorem Nf{c:Zh}{s:St}(P:fc s){d:Zc}{x:Zw}(hd:d<22)(h:aB s.ds (Zk s.rd)=some (bn d x)):gI 1 bX (hR c s) bX (hA c (dd s d x)):=by
 have k:=j5 (aU (agj s.n s.fl s.ds s.xs s.rd s.lk s.tk x s.v c) (nl (Yt d) (by rw[Ws];exact hd)))
 have k1:zZ (e8 S0 49 false (.au 1458) [.ref 3,bn d x] (h2 c s))=true:=Ze (·.1) k
 have k2:z7 (aC S0 cR false eQ (fT c s) (lO (e8 S0 49 false (.au 1458) [.ref 3,bn d x] (h2 c s))))=true:=Ze (·.2.1) k
 have k3:=Ze (·.2.2) k
 have t:=Ng h (acd k1) (acf k2) λhh q=>ajM _ _ q
 have k3:lS (turns 1 bX (hR c s))=some (bX,hA c (dd s d x),true,dj c,1,(λ(p:Zc)=>Zz (motive:=λ_=>Zh) (Zl d 9) (λ_ _=>x4 s d) p),true):=by
  refine Vd ?_ k3
  show lS (aa (turn bX (hR c s)) none λp=>aa (dZ p.1.tn p.2) none λI=>some (p.1,p.2,I))=_
  rw[t];rfl
 have Q:fc (dd s d x):=by
  unfold dd
  cases Zl d 9 with
  |true=>exact⟨P.fl,P.ds,P.xs⟩
  |false=>
   cases Zl d 14 with
   |true=>exact⟨P.fl,P.ds,P.xs⟩
   |false=>
    cases Zl d 20 with
    |false=>exact⟨P.fl,P.ds,P.xs⟩
    |true=>
     show fc ((λk=>ae (s.v k) {s with rd:=Zk s.rd} {s with rd:=Zk s.rd,v:=bI (fM s.v true) k true}) _)
     generalize ae (Zl d 17) (Zn 15 (Yd 2 (Yh d 15))) (Zn 16 (Yd 2 (Yh d 18)))=k
     show fc (ae (s.v k) _ _)
     cases s.v k<;>exact⟨P.fl,P.ds,P.xs⟩
 refine AB k3 λI a b e f=>?_
 rw[xO]at f
 exact y7 Q a b e f
def vc(i d:Zc):fA:=.nd 22 (.nd i (.nd (gj d) .lf .lf) (.nd (gj d) .lf .lf)) (.nd i (.nd (gj d) .lf .lf) (.nd (gj d) .lf .lf))
theorem M4(s:St)(x:Zw):ag (λd=>tab (λv=>aG (ay (v 22)) (aG (ay ((dd {s with v:=v} d x).v 37)) ((dd {s with v:=v} d x).v 22))) (vc 37 d) s.v) (olds 0 22)=ag (λd=>tab (λ_=>true) (vc 37 d) s.v) (olds 0 22):=by kernel_rfl
theorem M6(s:St)(x:Zw):ag (λd=>ag (λi=>tab (λv=>aG (v (Zn 30 i)) (ay ((dd {s with v:=v} d x).v (Zn 30 i)))) (vc (Zn 30 i) d) s.v) (olds 0 14)) (olds 0 22)=ag (λd=>ag (λi=>tab (λ_=>true) (vc (Zn 30 i) d) s.v) (olds 0 14)) (olds 0 22):=by kernel_rfl
structure p7(c:Zh)(s:St):Prop where
 g:s.v 22=true
 u:c=false→∀i,i<14→s.v (30+i)=false
theorem Ac{a b:Zh}(h:aG a b=true)(k:a=false):b=true:=by rw[k]at h;exact h
theorem Eh{c:Zh}{s:St}(h:p7 c s){d:Zc}(hd:d<22)(x:Zw):rV c (dd s d x)where
 g q:=by
  have k:aG (ay (s.v 22)) (aG (ay ((dd s d x).v 37)) ((dd s d x).v 22))=true:=j5 (aU (M4 s x) (cb hd))
  exact Ac (Ac k (by rw[h.g];rfl)) (by rw[q];rfl)
 u hc i hi:=by
  have k:aG (s.v (Zn 30 i)) (ay ((dd s d x).v (Zn 30 i)))=true:=j5 (aU (aU (M6 s x) (cb hd)) (cb hi))
  have k:=Ac k (h.u hc i hi)
  show(dd s d x).v (Zn 30 i)=false
  cases q:(dd s d x).v (Zn 30 i)with
  |false=>rfl
  |true=>rw[q]at k;exact nomatch k
theorem adY(s:St):ag (λi=>(bR false s 14).v (Zn 30 i)) (olds 0 14)=ag (λ_=>false) (olds 0 14):=by kernel_rfl
theorem adV(c:Zh)(s:St):(bR c s 14).v 22=(bR c s 8).v 22:=by kernel_rfl
theorem adX{c:Zh}{s:St}(h:rV c s):p7 c (bR c s 14)where
 g:=(adV c s).trans h.CC
 u hc i hi:=by subst hc;exact aU (adY s) (cb hi)
theorem aen(t:Zc→Zw):Plain (eA t):=⟨λ_=>rfl,λ_ _ _ _=>o4 (λ_=>rfl) _⟩
def iH(s:St)(tk:Zc):St:={s with xs:=aD s.xs [eA λi=>s.n (Zn 60 i)],lk:=Zn s.lk 4,tk:=tk}
theorem GQ{α:Type}{l k:Zb α}{a:α}(m:a∈aD l k):a∈l∨a∈k:=by
 induction l with
 |nil=>exact .inr m
 |cons b l ih=>exact(List.mem_cons.mp (show a∈b::aD l k from m)).elim (λe=>.inl (e▸.head _)) λm=>(ih m).imp (.tail _) id
theorem wj{s:St}(P:fc s)(tk:Zc):fc (iH s tk):=⟨P.fl,P.ds,λa m=>(GQ m).elim (P.xs a) λm=>(List.mem_singleton.mp m)▸aen _⟩
theorem SC{c:Zh}{s:St}(P:fc s){tk:Zc}{nr:AV}(e:lS (turns 6 bX (iS c s nr))=some (bX,hR c (iH s tk),true,dj c,1,(λ(_:Zc)=>false),true)):gI 6 bX (iS c s nr) bX (hR c (iH s tk)):=by
 refine AB e λI a b d f=>?_
 rw[xO]at f
 exact y7 (wj P tk) a b (d.trans (funext λp=>by cases p<;>rfl)) f
def rG(c:Zh)(s:St)(tk d:Zc)(x:Zw):St:=bR c (dd (iH s tk) d x) 14
theorem Eg{s:St}(P:fc s)(d:Zc)(x:Zw):fc (dd s d x):=by
 unfold dd
 cases Zl d 9 with
 |true=>exact⟨P.fl,P.ds,P.xs⟩
 |false=>
  cases Zl d 14 with
  |true=>exact⟨P.fl,P.ds,P.xs⟩
  |false=>
   cases Zl d 20 with
   |false=>exact⟨P.fl,P.ds,P.xs⟩
   |true=>
    show fc ((λk=>ae (s.v k) {s with rd:=Zk s.rd} {s with rd:=Zk s.rd,v:=bI (fM s.v true) k true}) _)
    generalize ae (Zl d 17) (Zn 15 (Yd 2 (Yh d 15))) (Zn 16 (Yd 2 (Yh d 18)))=k
    show fc (ae (s.v k) _ _)
    cases s.v k<;>exact⟨P.fl,P.ds,P.xs⟩
theorem ajl{c:Zh}{s:St}(P:fc s)(tk d:Zc)(x:Zw):fc (rG c s tk d x):=HG (Eg (wj P tk) d x) 14
theorem ajm{c:Zh}{s:St}(h:p7 c s)(tk:Zc){d:Zc}(hd:d<22)(x:Zw):p7 c (rG c s tk d x):=adX (Eh (s:=iH s tk) ⟨h.g,h.u⟩ hd x)
theorem aek{c:Zh}{s:St}(P:fc s)(h:p7 c s){tk:Zc}{nr:AV}{d:Zc}{x:Zw}(hd:d<22)(hn:aB s.ds (Zk s.rd)=some (bn d x))(e:lS (turns 6 bX (iS c s nr))=some (bX,hR c (iH s tk),true,dj c,1,(λ(_:Zc)=>false),true)):
  gI 175 bX (iS c s nr) bX (iS c (rG c s tk d x) (.md 1 0)):=
 gI.trans (gI.trans (SC P e) (Nf (wj P tk) hd hn)) (ad3 (Eg (wj P tk) d x) (Eh (s:=iH s tk) ⟨h.g,h.u⟩ hd x) 14 (Yg _))
theorem ako(c:Zh)(n:Zc)(v:Zc→Zh)(m:Zc→Zw)(fl ds xs:Zb AV)(r lk tk:Zc):Wr (n+1) jp (hB c ⟨v,m,fl,ds,xs,r,lk,tk⟩)=Vr n jp (hB c ⟨v,m,fl,ds,xs,r,lk,tk⟩):=by
 cases c<;>kernel_rfl
def fW(c:Zh):aO:=ae c vF vE
theorem YW(c:Zh)(s:St)(r j:Zc)(pc:Zw)(db ar:Zb AV):ag (λi=>aG (aK i (2::10::(fW c).aR)) (aa ((tC c s r j pc db ar).get i) false (eF (fW c)))) (olds 0 27)=ag (λ_=>true) (olds 0 27):=by
 cases c<;>kernel_rfl
theorem YV{c:Zh}{s:St}(P:fc s){r j:Zc}{pc:Zw}{db ar:Zb AV}{tl:Zb AO}:eE (fW c) (oL c s r j pc db ar tl) 27=true:=by
 have lt:∀{i},i<27→i<dj c:=λh=>by cases c<;>exact X7 h (by decide)
 have gt:∀i o,i<dj c→(tC c s r j pc db ar).get i=some o→(oL c s r j pc db ar tl).get i=some o:=λi o h e=>xP e h
 refine y2 λi h=>?_
 have k:aG (aK i (2::10::(fW c).aR)) (aa ((tC c s r j pc db ar).get i) false (eF (fW c)))=true:=aU (YW c s r j pc db ar) (cb h)
 by_cases e2:i=2
 ·subst e2
  rw[gt 2 (b2 s) (lt h) (by cases c<;>rfl)]
  exact lN (lows P.fl _)
 by_cases sP:i=10
 ·subst sP
  rw[gt 10 (qC s) (lt h) (by cases c<;>rfl)]
  refine lN ?_
  show Zp (motive:=λ_=>Zh) false _ (ei (fW c) (.af s.ds))=true
  rw[(Plain.fl P.ds).low]
  cases c<;>rfl
 cases q:aK i (fW c).aR with
 |true=>rfl
 |false=>
  have z:aK i (2::10::(fW c).aR)=false:=by
   show Zp (motive:=λ_=>Zh) (Zp (motive:=λ_=>Zh) (aK i (fW c).aR) true (Zi i 10)) true (Zi i 2)=false
   rw[nU e2,nU sP,q]
  rw[z]at k
  have k:aa ((tC c s r j pc db ar).get i) false (eF (fW c))=true:=k
  cases q2:(tC c s r j pc db ar).get i with
  |none=>rw[q2]at k;exact nomatch k
  |some o=>
   rw[q2]at k
   rw[gt i o (lt h) q2]
   exact k
theorem aj3{k:Zc}{fm':Fm}{h':AH}{I:aO}:∀{fm:Fm}{h:AH},turns k fm h=some (fm',h',I)→dZ fm'.tn h'=some I:=by
 induction k with
 |zero=>exactλe=>nomatch e
 |succ k ih=>
  intro fm h e
  have e:aa (turn fm h) none (λp=>aa (dZ p.1.tn p.2) (turns k p.1 p.2) λI=>some (p.1,p.2,I))=some (fm',h',I):=e
  cases t:turn fm h with
  |none=>rw[t]at e;exact nomatch e
  |some p=>
   rw[t]at e
   have e:aa (dZ p.1.tn p.2) (turns k p.1 p.2) (λI=>some (p.1,p.2,I))=some (fm',h',I):=e
   cases u:dZ p.1.tn p.2 with
   |none=>rw[u]at e;exact ih e
   |some J=>
    rw[u]at e
    have e:=Za e
    have e1:p.1=fm':=Ze Xq e
    have e2:p.2=h':=Ze (·.2.1) e
    have e3:J=I:=Ze (·.2.2) e
    subst e1 e2 e3
    exact u
theorem VK{h:AH}{I:aO}(e:dZ false h=some I):I=fW (jM h):=by
 unfold dZ aq at e
 cases q:Jb h with
 |none=>rw[q]at e;exact nomatch e
 |some j=>
  rw[q]at e
  have e:ae (Zi j 14) (some (ae (jM h) vF vE)) none=some I:=e
  cases q2:Zi j 14 with
  |false=>rw[q2]at e;exact nomatch e
  |true=>rw[q2]at e;exact(Za e).symm
theorem Et{a b:Zh}(h:eqB a b=true):a=b:=by
 cases a<;>cases b<;>first|rfl|exact nomatch h
theorem E8{c:Zh}{s:St}{k:Zc}{H2:AH}(e:sum2 c (turns k jp (hB c s))=some (bX,H2,true,true))(lo:eE (fW c) H2 27=true):gI k jp (hB c s) bX H2:=by
 cases t:turns k jp (hB c s)with
 |none=>rw[t]at e;exact nomatch e
 |some q=>
  rw[t]at e
  have e:=Za e
  have e4:ak (ay q.1.tn) (eqB (jM q.2.1) c)=true:=Ze (·.2.2.2) e
  have tn:q.1.tn=false:=by
   cases z:q.1.tn with
   |false=>rfl
   |true=>rw[z]at e4;exact nomatch e4
  rw[tn]at e4
  have e4:eqB (jM q.2.1) c=true:=e4
  have hk:=aj3 (fm':=q.1) (h':=q.2.1) (I:=q.2.2) t
  rw[tn]at hk
  have eI:q.2.2=fW c:=(VK hk).trans (Ze fW (Et e4))
  have e1:dC (fW c) q.2.1 q.1=bX:=Ze (·.1) e
  have e2:cC (fW c) q.2.1 (fW c).c=H2:=Ze (·.2.1) e
  have e3:cI (fW c) q.2.1 cQ q.1=true:=Ze (·.2.2.1) e
  have eN:(fW c).N=27:=by cases c<;>rfl
  rw[←eI]at e1 e2 e3 eN
  rw[←e1]
  exact IZ e2 e3 (by rw[eN,eI];exact lo) t
theorem akl{fm aX:Fm}{h h1:AH}(e:aj S0 cR fu cQ fm h=.nx aX h1){h2:AH}(t:aC S0 cR false eQ aX h1=.ok (.bool false) h2)(n:Zc):Vr (n+1) fm h=.nx aX h2:=by
 unfold Vr
 rw[e]
 show sB aX (aC S0 cR false eQ aX) h1 (λv h=>aa (bK v) .bad λb=>Zp (.nx aX h) (SR.rec (motive:=λ_=>SR) (λfm h=>Wr n fm h) .rt .ex .bad (aj S0 cR (.seq (.cut 0) fu) cQ aX h)) b)=_
 unfold sB
 rw[t]
 rfl
theorem ajp{k:Zc}{fm':Fm}{h':AH}:∀{fm:Fm}{h:AH},gC k fm h=.nx fm' h'→∀n,Vr (n+k) fm h=.nx fm' h':=by
 induction k with
 |zero=>exactλe=>nomatch e
 |succ k ih=>
  intro fm h e n
  have e:SR.rec (motive:=λ_=>SR) (λfm h=>Res.rec (motive:=λ_=>SR) (λv h=>aa (bK v) .bad λb=>ae b (aa (dZ fm.tn h) (gC k fm h) λ_=>.bad) (.nx fm h)) (λ_ _=>.bad) .bad (aC S0 cR false eQ fm h)) (λ_ _=>.bad) (λ_ _=>.bad) .bad (aj S0 cR fu cQ fm h)=.nx fm' h':=e
  cases q:aj S0 cR fu cQ fm h with
  |rt v hh=>rw[q]at e;exact nomatch e
  |ex v hh=>rw[q]at e;exact nomatch e
  |bad=>rw[q]at e;exact nomatch e
  |nx aX h1=>
   rw[q]at e
   have e:Res.rec (motive:=λ_=>SR) (λv h=>aa (bK v) .bad λb=>ae b (aa (dZ aX.tn h) (gC k aX h) λ_=>.bad) (.nx aX h)) (λ_ _=>.bad) .bad (aC S0 cR false eQ aX h1)=.nx fm' h':=e
   cases t:aC S0 cR false eQ aX h1 with
   |exc v hh=>rw[t]at e;exact nomatch e
   |bad=>rw[t]at e;exact nomatch e
   |ok v h2=>
    rw[t]at e
    have e:aa (bK v) SR.bad (λb=>ae b (aa (dZ aX.tn h2) (gC k aX h2) λ_=>.bad) (.nx aX h2))=.nx fm' h':=e
    cases a:bK v with
    |none=>rw[a]at e;exact nomatch e
    |some b=>
     rw[a]at e
     have ev:v=.bool b:=by
      revert a;cases v<;>first|exactλa=>nomatch(show(none:Zd Zh)=some b from a)|exactλa=>Ze AV.bool (Za (show some _=some b from a))
     subst ev
     cases b with
     |false=>
      have e:SR.nx aX h2=.nx fm' h':=e
      rw[←e]
      exact akl q t (n+k)
     |true=>
      have e:aa (dZ aX.tn h2) (gC k aX h2) (λ_=>SR.bad)=.nx fm' h':=e
      cases u:dZ aX.tn h2 with
      |some J=>rw[u]at e;exact nomatch e
      |none=>
       rw[u]at e
       have tt:turn fm h=some (aX,h2):=by
        show SR.rec (motive:=λ_=>Zd (Fm×AH)) (λfm h=>Res.rec (motive:=λ_=>Zd (Fm×AH)) (λv h=>aa (bK v) none λb=>ae b (some (fm,h)) none) (λ_ _=>none) none (aC S0 cR false eQ fm h)) (λ_ _=>none) (λ_ _=>none) none (aj S0 cR fu cQ fm h)=_
        rw[q]
        show Res.rec (motive:=λ_=>Zd (Fm×AH)) (λv h=>aa (bK v) none λb=>ae b (some (aX,h)) none) (λ_ _=>none) none (aC S0 cR false eQ aX h1)=_
        rw[t];rfl
       show Vr (n+k+1) fm h=_
       rw[A3 tt,Ex (j:=0) (show mQ 0 aX h2=none from u)]
       exact ih e n
theorem run_eq{c:Zh}{v:Zc→Zh}{m:Zc→Zw}{fl ds xs:Zb AV}{r lk tk K:Zc}{fm:Fm}{h:AH}(hK:K≤900000)(p:gI K jp (hB c ⟨v,m,fl,ds,xs,r,lk,tk⟩) fm h){fm':Fm}{h':AH}(e:gC 8 fm h=.nx fm' h'):
  e8 S0 51 false (.au 624) [.ref 14] (hB c ⟨v,m,fl,ds,xs,r,lk,tk⟩)=gQ (aj S0 cR uc cQ fm' h'):=by
 have w:Wr cw jp (hB c ⟨v,m,fl,ds,xs,r,lk,tk⟩)=.nx fm' h':=by
  have e1:cw=(cw-K-1)+K+1:=by
   have:cw=1000000:=rfl
   omega
  rw[e1,ako]
  obtain⟨n',hn,q⟩:=p (cw-K-1)
  rw[q]
  have h8:8≤n':=by
   have:cw=1000000:=rfl
   omega
  rw[←Wh h8]
  exact ajp e _
 show gQ (aj S0 cR sX.body cQ jp (hB c ⟨v,m,fl,ds,xs,r,lk,tk⟩))=_
 have b:aj S0 cR sX.body cQ jp (hB c ⟨v,m,fl,ds,xs,r,lk,tk⟩)=SR.rec (motive:=λ_=>SR) (λfm h=>aj S0 cR uc cQ fm h) .rt .ex .bad (fH (Wr cw jp (hB c ⟨v,m,fl,ds,xs,r,lk,tk⟩))):=rfl
 rw[b,w];rfl
end Mine
namespace Mine
structure xg(s s':St):Prop where
 fl:s'.fl=s.fl
 ds:s'.ds=s.ds
 xs:s'.xs=s.xs
 rd:s'.rd=Zk s.rd
 lk:s'.lk=s.lk
 tk:s'.tk=s.tk
theorem vd(s:St)(d:Zc)(x:Zw):xg s (dd s d x):=by
 unfold dd
 cases Zl d 9 with
 |true=>exact⟨rfl,rfl,rfl,rfl,rfl,rfl⟩
 |false=>
  cases Zl d 14 with
  |true=>exact⟨rfl,rfl,rfl,rfl,rfl,rfl⟩
  |false=>
   cases Zl d 20 with
   |false=>exact⟨rfl,rfl,rfl,rfl,rfl,rfl⟩
   |true=>
    show xg s ((λk=>ae (s.v k) {s with rd:=Zk s.rd} {s with rd:=Zk s.rd,v:=bI (fM s.v true) k true}) _)
    generalize ae (Zl d 17) (Zn 15 (Yd 2 (Yh d 15))) (Zn 16 (Yd 2 (Yh d 18)))=k
    show xg s (ae (s.v k) _ _)
    cases s.v k<;>exact⟨rfl,rfl,rfl,rfl,rfl,rfl⟩
theorem GJ{α β:Type}(f:α→β)(l k:Zb α):ag f (aD l k)=aD (ag f l) (ag f k):=by
 induction l with
 |nil=>rfl
 |cons a l ih=>exact Ze (f a::·) ih
theorem Hq(n:Zc):∀b,olds b (n+1)=aD (olds b n) [b+n]:=by
 induction n with
 |zero=>exactλb=>rfl
 |succ n ih=>exactλb=>Ze (b::·) ((ih (b+1)).trans (by rw[Si];rfl))
theorem HW(t:Zc→Zc→Zw)(r:Zc):d7 t (r+1)=aD (d7 t r) [eA (t r)]:=by
 show ag _ (olds 0 (r+1))=_
 rw[Hq,GJ,Ws];rfl
def dq(kd:Zc→Zc)(xd:Zc→Zw)(k:Zc):AV:=Zz lu (λk _=>bn (kd (Zk k)) (xd (Zk k))) k
section
variable(c:Zh)(n:Zc→Zw)(fl:Zb AV)(m:Zc)(kd:Zc→Zc)(xd:Zc→Zw)
def MS(r:Zc):St:=Zz (fw c n fl (pre (dq kd xd) m)) (λr ih=>rG c ih (Yh 64 (Yd 16 r)) (kd (Zk r)) (xd (Zk r))) r
def tM(r i:Zc):Zw:=(MS c n fl m kd xd r).n (Zn 60 i)
structure JD(r:Zc):Prop where
 yu:(MS c n fl m kd xd r).fl=fl
 on:(MS c n fl m kd xd r).ds=pre (dq kd xd) m
 yD:(MS c n fl m kd xd r).xs=d7 (tM c n fl m kd xd) r
 vD:(MS c n fl m kd xd r).rd=r
 FE:(MS c n fl m kd xd r).tk=Yh 80 (Yd 16 r)
 Fx:(MS c n fl m kd xd r).lk=Yd 4 r
theorem wc(r:Zc):JD c n fl m kd xd r:=by
 induction r with
 |zero=>exact⟨rfl,rfl,rfl,rfl,rfl,rfl⟩
 |succ r ih=>
  have k:=vd (iH (MS c n fl m kd xd r) (Yh 64 (Yd 16 r))) (kd (Zk r)) (xd (Zk r))
  refine⟨k.fl.trans ih.yu,k.ds.trans ih.on,(k.xs.trans ?_).trans (HW _ r).symm,k.rd.trans (Ze Zk ih.vD),k.tk.trans ?_,k.lk.trans ?_⟩
  ·show aD (MS c n fl m kd xd r).xs [eA λi=>(MS c n fl m kd xd r).n (Zn 60 i)]=_
   rw[ih.yD];rfl
  ·show 64-16*r=80-16*(r+1)
   omega
  ·show Zn (MS c n fl m kd xd r).lk 4=_
   rw[ih.Fx];rfl
theorem GW(hf:∀a∈fl,Plain a)(r:Zc):fc (MS c n fl m kd xd r):=by
 induction r with
 |zero=>
  refine⟨hf,?_,λa h=>nomatch h⟩
  have z:∀(m:Zc)(d:Zc→AV),(∀k,Plain (d k))→∀a∈pre d m,Plain a:=λm=>by
   induction m with
   |zero=>exactλd _ a h=>nomatch h
   |succ m ih=>exactλd h a q=>(List.mem_cons.mp (show a∈d 0::pre (λj=>d (Zk j)) m from q)).elim (λe=>e▸h 0) (ih _ (λk=>h _) a)
  exact z m _ λk=>by cases k<;>exact⟨λ_=>rfl,λ_ _ _ _=>o4 (λ_=>rfl) _⟩
 |succ r ih=>exact ajl ih _ _ _
theorem abh(hk:∀k,kd k<22)(r:Zc):p7 c (MS c n fl m kd xd r):=by
 induction r with
 |zero=>
  refine⟨rfl,λhc=>?_⟩
  subst hc
  have z:ag (λi=>(fw false n fl (pre (dq kd xd) m)).v (Zn 30 i)) (olds 0 14)=ag (λ_=>false) (olds 0 14):=rfl
  exactλi hi=>aU z (cb hi)
 |succ r ih=>exact ajm ih _ (hk _) _
end
theorem RY(n:Zc→Zw)(fl:Zb AV)(lk tk:Zc)(v:Zc→Zh)(d:Zc→AV)(nr:AV)(t:Zc→Zc→Zw)(c:Zh):ag (λm=>ag (λr=>LF n fl lk tk v d c m r nr t) (olds 0 (Vb m))) [2,3,4,5,6]=ag (λm=>ag (λr=>RF n fl lk tk v d c m r t) (olds 0 (Vb m))) [2,3,4,5,6]:=by
 cases c
 ·exact(ai (ai (SH n fl lk tk v d nr t) rfl) (ai (ai (SI n fl lk tk v d nr t) (ai (SJ n fl lk tk v d nr t) rfl)) (ai (ai (SK n fl lk tk v d nr t) (ai (SL n fl lk tk v d nr t) (ai (SN n fl lk tk v d nr t) rfl))) (ai (ai (SP n fl lk tk v d nr t) (ai (SQ n fl lk tk v d nr t) (ai (SS n fl lk tk v d nr t) (ai (ST n fl lk tk v d nr t) rfl)))) (ai (ai (SU n fl lk tk v d nr t) (ai (SV n fl lk tk v d nr t) (ai (SW n fl lk tk v d nr t) (ai (SX n fl lk tk v d nr t) (ai (SY n fl lk tk v d nr t) rfl))))) rfl)))))
 ·exact(ai (ai (SZ n fl lk tk v d nr t) rfl) (ai (ai (TA n fl lk tk v d nr t) (ai (TC n fl lk tk v d nr t) rfl)) (ai (ai (TD n fl lk tk v d nr t) (ai (TE n fl lk tk v d nr t) (ai (TF n fl lk tk v d nr t) rfl))) (ai (ai (TG n fl lk tk v d nr t) (ai (TH n fl lk tk v d nr t) (ai (TI n fl lk tk v d nr t) (ai (TJ n fl lk tk v d nr t) rfl)))) (ai (ai (TK n fl lk tk v d nr t) (ai (TL n fl lk tk v d nr t) (ai (TM n fl lk tk v d nr t) (ai (TN n fl lk tk v d nr t) (ai (TO n fl lk tk v d nr t) rfl))))) rfl)))))
theorem NI(n:Zc→Zw)(fl:Zb AV)(lk tk:Zc)(v:Zc→Zh)(d:Zc→AV)(nr:AV)(t:Zc→Zc→Zw)(c:Zh):ag (λm=>jD (iN n fl lk tk v d nr t c (Vb m))) [2,3,4,5,6]=ag (λm=>some (.tup [.sy 49,ltV (aD (d7 t (Vb m)) [eA λi=>n (Zn 60 i)])])) [2,3,4,5,6]:=by
 cases c
 ·exact(ai (NJ n fl lk tk v d nr t) (ai (NK n fl lk tk v d nr t) (ai (NL n fl lk tk v d nr t) (ai (NM n fl lk tk v d nr t) (ai (NN n fl lk tk v d nr t) rfl)))))
 ·exact(ai (NO n fl lk tk v d nr t) (ai (NP n fl lk tk v d nr t) (ai (NQ n fl lk tk v d nr t) (ai (NS n fl lk tk v d nr t) (ai (NT n fl lk tk v d nr t) rfl)))))
theorem wz(d:Zc→AV)(m k:Zc)(h:k<m):aB (pre d m) k=some (d k):=by
 induction m generalizing d k with
 |zero=>exact Y8 h (Ue k)
 |succ m ih=>
  cases k with
  |zero=>rfl
  |succ k=>exact ih (λj=>d (Zk j)) k (Nat.lt_of_succ_lt_succ h)
theorem ajn{s:St}{f d x:Zb AV}{r t:Zc}(h1:s.fl=f)(h2:s.ds=d)(h3:s.xs=x)(h4:s.rd=r)(h5:s.tk=t):s=⟨s.v,s.n,f,d,x,r,s.lk,t⟩:=by
 subst h1 h2 h3 h4 h5;rfl
def ni(r:Zc):AV:=Zz (.int 11) (λ_ _=>.md 1 0) r
section
variable{c:Zh}{n:Zc→Zw}{fl:Zb AV}{m:Zc}{kd:Zc→Zc}{xd:Zc→Zw}(hf:∀a∈fl,Plain a)(hk:∀k,kd k<22)(hm:m∈[2,3,4,5,6])
theorem abg(r:Zc){tk:Zc}(ht:Yh 80 (Yd 16 r)=tk):MS c n fl m kd xd r=⟨(MS c n fl m kd xd r).v,(MS c n fl m kd xd r).n,fl,pre (dq kd xd) m,d7 (tM c n fl m kd xd) r,r,(MS c n fl m kd xd r).lk,tk⟩:=
 have k:=wc c n fl m kd xd r
 ajn k.yu k.on k.yD k.vD (k.FE.trans ht)
include hf hk hm in
theorem abi{v:Zc→Zh}{xs:Zb AV}{lk tk:Zc}(r:Zc)(hr:r<m):∃K,K≤80+175*r∧gI K jp (hB c ⟨v,n,fl,pre (dq kd xd) m,xs,0,lk,tk⟩) bX (iS c (MS c n fl m kd xd r) (ni r)):=by
 induction r with
 |zero=>
  refine⟨80,Yg _,?_⟩
  have low:eE (fW c) (iS c (MS c n fl m kd xd 0) (ni 0)) 27=true:=YV (GW c n fl m kd xd hf 0)
  obtain⟨m',rfl⟩:∃m',m=m'+1:=⟨m-1,(Wh (Yy (Yt _) hr)).symm⟩
  cases c
  ·exact E8 (TQ n fl (pre (λj=>dq kd xd (Zk j)) m') xs lk tk v) low
  ·exact E8 (TR n fl (pre (λj=>dq kd xd (Zk j)) m') xs lk tk v) low
 |succ r ih=>
  obtain⟨K,hK,p⟩:=ih (Nat.lt_of_succ_lt hr)
  have eM:16*r≤64:=by
   have:m≤6:=by
    revert hm;intro hm
    simp only[Wv,Xv,Un]at hm
    omega
   omega
  have et:Yh 80 (Yd 16 r)=Zn (Yh 64 (Yd 16 r)) 16:=by
   show 80-16*r=64-16*r+16
   omega
  have e:=aU (aU (RY (MS c n fl m kd xd r).n fl (MS c n fl m kd xd r).lk (Yh 64 (Yd 16 r)) (MS c n fl m kd xd r).v (dq kd xd) (ni r) (tM c n fl m kd xd) c) hm) (cb (i:=r) (Nat.lt_pred_of_succ_lt hr))
  have e:lS (turns 6 bX (iS c (MS c n fl m kd xd r) (ni r)))=some (bX,hR c (iH (MS c n fl m kd xd r) (Yh 64 (Yd 16 r))),true,dj c,1,(λ(_:Zc)=>false),true):=by
   rw[abg r et];exact e
  have q:=aek (GW c n fl m kd xd hf r) (abh c n fl m kd xd hk r) (hk (r+1)) (x:=xd (r+1)) (by rw[(wc c n fl m kd xd r).on,(wc c n fl m kd xd r).vD];exact wz _ m (r+1) hr) e
  exact⟨175+K,by omega,gI.trans p q⟩
end
end Mine
namespace Mine
theorem RM(X:bc)(r:Res AV)(q:Zc)(fm:Fm)(h h':AH):lz X r q fm h=lz X r q fm h':=by
 cases q with
 |zero=>rfl
 |succ q=>
  show ae (Zi (q+1) 2) _ _=ae (Zi (q+1) 2) _ _
  cases Zi (q+1) 2<;>rfl
theorem Av(k:Zc)(ho:Zb AV)(fm:Fm)(h:AH):ag (λk=>aj S0 cD (fK k) ⟨false,1,ho⟩ fm h) [1,13,18]=ag (λk=>aj S0 cD (fK k) cZ fm h) [1,13,18]:=by kernel_rfl
theorem aba(s:St)(k:Zc)(x:Zw):ag (λq=>tab (LQ s.n s.fl s.ds s.xs s.rd s.lk s.tk q k x) (jO q) s.v) (olds 0 5)=ag (λq=>tab (RQ s.n s.fl s.ds s.xs s.rd s.lk s.tk q k x) (jO q) s.v) (olds 0 5):=by
 exact(ai (mq0 s.n s.fl s.ds s.xs s.rd s.lk s.tk x k s.v) (ai (mq1 s.n s.fl s.ds s.xs s.rd s.lk s.tk x k s.v) (ai (mq2 s.n s.fl s.ds s.xs s.rd s.lk s.tk x k s.v) (ai (mq3 s.n s.fl s.ds s.xs s.rd s.lk s.tk x k s.v) (ai (mq4 s.n s.fl s.ds s.xs s.rd s.lk s.tk x k s.v) rfl)))))
theorem aaw(s:St)(x:Zw):ag (λd=>tab (LE s.n s.fl s.ds s.xs s.rd s.lk s.tk x d) (dT d) s.v) (olds 0 22)=ag (λd=>tab (RE s.n s.fl s.ds s.xs s.rd s.lk s.tk x d) (dT d) s.v) (olds 0 22):=by
 exact(ai (ZZ s.n s.fl s.ds s.xs s.rd s.lk s.tk x s.v) (ai (me1 s.n s.fl s.ds s.xs s.rd s.lk s.tk x s.v) (ai (me2 s.n s.fl s.ds s.xs s.rd s.lk s.tk x s.v) (ai (me3 s.n s.fl s.ds s.xs s.rd s.lk s.tk x s.v) (ai (me4 s.n s.fl s.ds s.xs s.rd s.lk s.tk x s.v) (ai (me5 s.n s.fl s.ds s.xs s.rd s.lk s.tk x s.v) (ai (me6 s.n s.fl s.ds s.xs s.rd s.lk s.tk x s.v) (ai (me7 s.n s.fl s.ds s.xs s.rd s.lk s.tk x s.v) (ai (me8 s.n s.fl s.ds s.xs s.rd s.lk s.tk x s.v) (ai (me9 s.n s.fl s.ds s.xs s.rd s.lk s.tk x s.v) (ai (aab s.n s.fl s.ds s.xs s.rd s.lk s.tk x s.v) (ai (aac s.n s.fl s.ds s.xs s.rd s.lk s.tk x s.v) (ai (aad s.n s.fl s.ds s.xs s.rd s.lk s.tk x s.v) (ai (aae s.n s.fl s.ds s.xs s.rd s.lk s.tk x s.v) (ai (aaf s.n s.fl s.ds s.xs s.rd s.lk s.tk x s.v) (ai (aag s.n s.fl s.ds s.xs s.rd s.lk s.tk x s.v) (ai (aah s.n s.fl s.ds s.xs s.rd s.lk s.tk x s.v) (ai (aai s.n s.fl s.ds s.xs s.rd s.lk s.tk x s.v) (ai (aaj s.n s.fl s.ds s.xs s.rd s.lk s.tk x s.v) (ai (aak s.n s.fl s.ds s.xs s.rd s.lk s.tk x s.v) (ai (aam s.n s.fl s.ds s.xs s.rd s.lk s.tk x s.v) (ai (aan s.n s.fl s.ds s.xs s.rd s.lk s.tk x s.v) rfl))))))))))))))))))))))
theorem RJ(s:St)(d:AV)(X:bc)(ev:Ev)(hd:ev.hd=false):ag (λq=>aj S0 X (gS q) ev (bo q d) (mH s (bH s q))) (olds 0 5)=ag (λq=>lz X (X false (.au 1491) (kr q) (iT s q)) q (bo q d) (mH s (bH s q))) (olds 0 5):=by
 exact(ai (RA s.n s.fl s.ds s.xs s.rd s.lk s.tk s.v d X ev hd) (ai (RB s.n s.fl s.ds s.xs s.rd s.lk s.tk s.v d X ev hd) (ai (RC s.n s.fl s.ds s.xs s.rd s.lk s.tk s.v d X ev hd) (ai (RH s.n s.fl s.ds s.xs s.rd s.lk s.tk s.v d X ev hd) (ai (RI s.n s.fl s.ds s.xs s.rd s.lk s.tk s.v d X ev hd) rfl)))))
theorem aaW(s:St)(d:AV)(ev:Ev)(hd:ev.hd=false):ag (λq=>aj S0 cD (mX q) ev (bo q d) (mH s (bH s q))) [1,2,3,4]=ag (λq=>.nx (bo q d) (mH s (bH s q))) [1,2,3,4]:=by
 exact(ai (mk1 s.n s.fl s.ds s.xs s.rd s.lk s.tk s.v d ev hd) (ai (mk2 s.n s.fl s.ds s.xs s.rd s.lk s.tk s.v d ev hd) (ai (mk3 s.n s.fl s.ds s.xs s.rd s.lk s.tk s.v d ev hd) (ai (mk4 s.n s.fl s.ds s.xs s.rd s.lk s.tk s.v d ev hd) rfl))))
def sS(q:Zc)(s:St):St:=sQ q (md (md s (q0 q)) (Zk (q0 q)))
def cm(s:St):St:=sS 4 (sS 3 (sS 2 (sS 1 (sS 0 s))))
theorem ue(q:Zc)(s:St):(sS q s).xs=s.xs:=by cases q<;>rfl
section
variable{k:Zc}{x:Zw}{ho:Zb AV}(hh:∀a∈ho,Plain a)
include hh
theorem Ip{q:Zc}(hq:q<5){s:St}(hx:∀a∈s.xs,Plain a):∃aX h1,SR.rec (motive:=λ_=>SR) (λfm h=>ae (Zi q 3) (aj S0 cD (fK 13) cZ fm h) (.nx fm h)) .rt .ex .bad (aj S0 cD (gS q) ⟨false,1,ho⟩ (bo q (bn k x)) (mH s (bH s q)))=.nx aX h1∧aj S0 cD (.cut (ae (Zi q 2) 10 4)) ⟨false,1,ho⟩ aX h1=.nx (bo (q+1) (bn k x)) (mH (sS q s) (bH (sS q s) (q+1))):=by
 have f:aj S0 cD (gS q) ⟨false,1,ho⟩ (bo q (bn k x)) (mH s (bH s q))=lz cD (cD false (.au 1491) (kr q) (iT s q)) q (bo q (bn k x)) (mH s (bH s q)):=aU (RJ s (bn k x) cD ⟨false,1,ho⟩ rfl) (cb hq)
 rw[f,ad1 hq hx]
 have m:=j5 (aU (aba (md (md s (q0 q)) (Zk (q0 q))) k x) (cb hq))
 rw[RM cD _ q (bo q (bn k x)) (mH s (bH s q)) (mH (md (md s (q0 q)) (Zk (q0 q))) (bH (md (md s (q0 q)) (Zk (q0 q))) q))]
 exact(DP (c:=cD) (s:=sS q s) (tl:=bH (sS q s) (q+1)) (by rw[ue];exact hx) hh m).ex
theorem wR{q:Zc}(h3:Zi q 3=false)(hq:q<5){s:St}(hx:∀a∈s.xs,Plain a)(rest:CS):aj S0 cD (.seq (gS q) (.seq (.cut (ae (Zi q 2) 10 4)) rest)) ⟨false,1,ho⟩ (bo q (bn k x)) (mH s (bH s q))=aj S0 cD rest ⟨false,1,ho⟩ (bo (q+1) (bn k x)) (mH (sS q s) (bH (sS q s) (q+1))):=by
 obtain⟨aX,h1,e1,e2⟩:=Ip (k:=k) (x:=x) hh hq hx
 rw[h3]at e1
 have e:aj S0 cD (gS q) ⟨false,1,ho⟩ (bo q (bn k x)) (mH s (bH s q))=.nx aX h1:=by
  revert e1
  cases aj S0 cD (gS q) ⟨false,1,ho⟩ (bo q (bn k x)) (mH s (bH s q))<;>exactλe=>e
 rw[ig e,ig e2]
theorem aia{s:St}(hx:∀a∈s.xs,Plain a)(rest:CS):aj S0 cD (.seq (gS 3) (.seq (fK 13) (.seq (.cut 4) rest))) ⟨false,1,ho⟩ (bo 3 (bn k x)) (mH s (bH s 3))=aj S0 cD rest ⟨false,1,ho⟩ (bo 4 (bn k x)) (mH (sS 3 s) (bH (sS 3 s) 4)):=by
 obtain⟨aX,h1,e1,e2⟩:=Ip (q:=3) (k:=k) (x:=x) hh (by decide) hx
 cases q:aj S0 cD (gS 3) ⟨false,1,ho⟩ (bo 3 (bn k x)) (mH s (bH s 3))with
 |nx fm h=>
  rw[q]at e1
  have e1:aj S0 cD (fK 13) cZ fm h=.nx aX h1:=e1
  have z:aj S0 cD (fK 13) ⟨false,1,ho⟩ fm h=.nx aX h1:=(aU (Av 0 ho fm h) (a:=13) (.tail _ (.head _))).trans e1
  have e2:aj S0 cD (.cut 4) ⟨false,1,ho⟩ aX h1=.nx (bo 4 (bn k x)) (mH (sS 3 s) (bH (sS 3 s) 4)):=e2
  rw[ig q,ig z,ig e2]
 |rt v h=>rw[q]at e1;exact nomatch e1
 |ex v h=>rw[q]at e1;exact nomatch e1
 |bad=>rw[q]at e1;exact nomatch e1
theorem aej(hk:k<22){s:St}(hx:∀a∈s.xs,Plain a):aj S0 cD (aV 1 dK) ⟨false,1,ho⟩ (bo 0 (bn k x)) (mH s [])=aj S0 cD (aV 18 dK) ⟨false,1,ho⟩ (bo 5 (bn k x)) (mH (cm (dd s k x)) (bH (cm (dd s k x)) 5)):=by
 have d:=j5 (aU (aaw s x) (cb hk))
 have yC:∀a∈(dd s k x).xs,Plain a:=by rw[(vd s k x).xs];exact hx
 obtain⟨aX,h1,e1,e2⟩:=(DP (c:=cD) (b:=false) (s:=dd s k x) (tl:=[]) yC hh d).ex
 have e1:aj S0 cD (fK 1) ⟨false,1,ho⟩ (bo 0 (bn k x)) (mH s [])=.nx aX h1:=(aU (Av 0 ho _ _) (a:=1) (.head _)).trans e1
 have a0:aj S0 cD (aV 1 dK) ⟨false,1,ho⟩ (bo 0 (bn k x)) (mH s [])=aj S0 cD (.seq (fK 1) (.seq (.cut 4) (aV 3 dK))) ⟨false,1,ho⟩ (bo 0 (bn k x)) (mH s []):=rfl
 have e2:aj S0 cD (.cut 4) ⟨false,1,ho⟩ aX h1=.nx (bo 0 (bn k x)) (mH (dd s k x) []):=e2
 rw[a0,ig e1,ig e2]
 have h0:∀a∈(sS 0 (dd s k x)).xs,Plain a:=by rw[ue];exact yC
 have h1:∀a∈(sS 1 (sS 0 (dd s k x))).xs,Plain a:=by rw[ue];exact h0
 have h2:∀a∈(sS 2 (sS 1 (sS 0 (dd s k x)))).xs,Plain a:=by rw[ue];exact h1
 have h3:∀a∈(sS 3 (sS 2 (sS 1 (sS 0 (dd s k x))))).xs,Plain a:=by rw[ue];exact h2
 have mk:=λ{q:Zc}(m:q∈[1,2,3,4])(s:St)=>aU (aaW s (bn k x) ⟨false,1,ho⟩ rfl) m
 refine(wR hh (q:=0) rfl (by decide) yC (aV 5 dK)).trans ?_
 refine(ig (a:=mX 1) (b:=.seq (gS 1) (.seq (.cut 4) (aV 8 dK))) (mk (.head _) _)).trans ?_
 refine(wR hh (q:=1) rfl (by decide) h0 (aV 8 dK)).trans ?_
 refine(ig (a:=mX 2) (b:=.seq (gS 2) (.seq (.cut 10) (aV 11 dK))) (mk (.tail _ (.head _)) _)).trans ?_
 refine(wR hh (q:=2) rfl (by decide) h1 (aV 11 dK)).trans ?_
 refine(ig (a:=mX 3) (b:=.seq (gS 3) (.seq (fK 13) (.seq (.cut 4) (aV 15 dK)))) (mk (.tail _ (.tail _ (.head _))) _)).trans ?_
 refine(aia hh h2 (aV 15 dK)).trans ?_
 refine(ig (a:=mX 4) (b:=.seq (gS 4) (.seq (.cut 4) (aV 18 dK))) (mk (.tail _ (.tail _ (.tail _ (.head _)))) _)).trans ?_
 exact wR hh (q:=4) rfl (by decide) h3 (aV 18 dK)
end
end Mine
namespace Mine
theorem abf(t:Zc→Zw):Plain (oM t):=⟨λ_=>rfl,λ_ _ _ _=>o4 (λ_=>rfl) _⟩
def nN(s:St):St:={s with xs:=aD s.xs [oM λi=>s.n (Zn 60 i)]}
section
variable(kd:Zc→Zc)(xd:Zc→Zw)
def EM(r:Zc):St:=Zz (kU 0) (λr ih=>nN (cm (dd ih (kd (Zk r)) (xd (Zk r))))) r
def tE(r i:Zc):Zw:=(EM kd xd r).n (Zn 60 i)
theorem zy(t:Zc→Zc→Zw)(r:Zc):bJ t (r+1)=aD (bJ t r) [oM (t r)]:=by
 show ag _ (olds 0 (r+1))=_
 rw[Hq,GJ,Ws];rfl
theorem x9(r:Zc):(EM kd xd r).xs=bJ (tE kd xd) (r+1):=by
 induction r with
 |zero=>rfl
 |succ r ih=>
  rw[zy,←ih]
  show aD (dd (EM kd xd r) (kd (r+1)) (xd (r+1))).xs _=_
  rw[(vd _ _ _).xs];rfl
theorem wa(t:Zc→Zc→Zw)(r:Zc):∀a∈bJ t r,Plain a:=by
 induction r with
 |zero=>exactλa h=>nomatch h
 |succ r ih=>rw[zy];exactλa m=>(GQ m).elim (ih a) λm=>(List.mem_singleton.mp m)▸abf _
end
theorem aa4(n:Zc→Zw)(fl ds:Zb AV)(bQ lk tk:Zc)(v:Zc→Zh)(t:Zc→Zc→Zw)(d:AV)(k:Zc)(x:Zw):ag (λr=>LN n fl ds bQ lk tk v t d k x r) [1,2,3,4]=ag (λr=>RN n fl ds bQ lk tk v t k x r) [1,2,3,4]:=by
 exact(ai (mn1 n fl ds bQ lk tk v t d k x) (ai (mn2 n fl ds bQ lk tk v t d k x) (ai (mn3 n fl ds bQ lk tk v t d k x) (ai (mn4 n fl ds bQ lk tk v t d k x) rfl))))
theorem abo(n:Zc→Zw)(fl ds:Zb AV)(bQ lk tk:Zc)(v:Zc→Zh)(t:Zc→Zc→Zw)(d:AV):ag (λr=>LZ n fl ds bQ lk tk v t d r) [1,2,3,4,5]=ag (λr=>RZ n t r) [1,2,3,4,5]:=by
 exact(ai (mz1 n fl ds bQ lk tk v t d) (ai (mz2 n fl ds bQ lk tk v t d) (ai (mz3 n fl ds bQ lk tk v t d) (ai (mz4 n fl ds bQ lk tk v t d) (ai (mz5 n fl ds bQ lk tk v t d) rfl)))))
theorem akp{s:St}{X:Zb AV}(h:s.xs=X):s=⟨s.v,s.n,s.fl,s.ds,X,s.rd,s.lk,s.tk⟩:=by subst h;rfl
def Fd(ds:Zb AV)(n i:Zc)(fm:Fm)(h:AH):SR:=gp false (dD S0 false (.af ds)) (eZ S0 cD false (.loc 5)) (aj S0 cD dK ⟨false,1,[.af ds]⟩) n i fm h
theorem yd(ds:Zb AV)(n i:Zc)(fm:Fm)(h:AH):Fd ds (n+1) i fm h=aa (aB ds i) (.nx fm h) λv=>SR.rec (motive:=λ_=>SR) (λfm h=>Fd ds n (i+1) fm h) .rt .ex .bad (aj S0 cD dK ⟨false,1,[.af ds]⟩ (bG fm 5 v) h):=by
 show Res.rec (motive:=λ_=>SR) (λo h=>aa o (.nx fm h) λv=>SR.rec (motive:=λ_=>SR) (λfm h=>Fd ds n (i+1) fm h) .rt .ex .bad (aj S0 cD dK ⟨false,1,[.af ds]⟩ (bG fm 5 v) h)) (λe h=>Zp (motive:=λ_=>SR) (.ex e h) .bad fm.tn) .bad (Res.ok (aB ds i) h)=_
 rfl
theorem QI{ds:Zb AV}{n i:Zc}{fm:Fm}{h:AH}(e:aB ds i=none):Fd ds (n+1) i fm h=.nx fm h:=by rw[yd,e];rfl
theorem EF{ds:Zb AV}{n i:Zc}{fm:Fm}{h:AH}{v:AV}(e:aB ds i=some v){fm':Fm}{H':AH}(c:aj S0 cD (.cut 3) ⟨false,1,[.af ds]⟩ (bG fm 5 v) h=.nx fm' H'):Fd ds (n+1) i fm h=SR.rec (motive:=λ_=>SR) (λfm h=>Fd ds n (i+1) fm h) .rt .ex .bad (aj S0 cD (aV 1 dK) ⟨false,1,[.af ds]⟩ fm' H'):=by
 rw[yd,e]
 have z:aj S0 cD dK ⟨false,1,[.af ds]⟩ (bG fm 5 v) h=aj S0 cD (aV 1 dK) ⟨false,1,[.af ds]⟩ fm' H':=ig (a:=.cut 3) (b:=aV 1 dK) c
 show SR.rec (motive:=λ_=>SR) (λfm h=>Fd ds n (i+1) fm h) .rt .ex .bad (aj S0 cD dK ⟨false,1,[.af ds]⟩ (bG fm 5 v) h)=_
 rw[z]
theorem adD(d:Zc→AV)(m:Zc):aB (pre d m) m=none:=by
 induction m generalizing d with
 |zero=>rfl
 |succ m ih=>exact ih _
theorem Hy{m:Zc}:∀{d:Zc→AV},(∀k,Plain (d k))→∀a∈pre d m,Plain a:=by
 induction m with
 |zero=>exactλd a h=>nomatch h
 |succ m ih=>exactλ{d} h a q=>(List.mem_cons.mp (show a∈d 0::pre (λj=>d (Zk j)) m from q)).elim (λe=>e▸h 0) (ih (λk=>h _) a)
theorem Ek(kd:Zc→Zc)(xd:Zc→Zw)(k:Zc):Plain (dq kd xd k):=by
 cases k<;>exact⟨λ_=>rfl,λ_ _ _ _=>o4 (λ_=>rfl) _⟩
theorem ajh(ds:Zb AV):aB (jV (aj S0 cD mJ cZ (kH ds) (AH.ofList [.tab]))).vars 0=some (.af ds):=by kernel_rfl
section
variable{kd:Zc→Zc}{xd:Zc→Zw}(hk:∀k,kd k<22){m:Zc}
def bq(kd:Zc→Zc)(xd:Zc→Zw)(m:Zc):Zb AV:=pre (dq kd xd) m
theorem yy:∀a∈[AV.af (bq kd xd m)],Plain a:=λa h=>(List.mem_singleton.mp h)▸Plain.fl (Hy (Ek kd xd))
def nL(kd:Zc→Zc)(xd:Zc→Zw)(m r n:Zc):SR:=SR.rec (motive:=λ_=>SR) (λfm h=>Fd (bq kd xd m) n (r+2) fm h) .rt .ex .bad (aj S0 cD (aV 1 dK) ⟨false,1,[.af (bq kd xd m)]⟩ (bo 0 (dq kd xd (r+1))) (mH (EM kd xd r) []))
include hk
theorem Fa(r n:Zc):nL kd xd m r n=SR.rec (motive:=λ_=>SR) (λfm h=>Fd (bq kd xd m) n (r+2) fm h) .rt .ex .bad (aj S0 cD (fK 18) cZ (bo 5 (dq kd xd (r+1))) (mH (cm (dd (EM kd xd r) (kd (r+1)) (xd (r+1)))) (bH (cm (dd (EM kd xd r) (kd (r+1)) (xd (r+1)))) 5))):=by
 have z:=aej (k:=kd (r+1)) (x:=xd (r+1)) (yy (kd:=kd) (xd:=xd) (m:=m)) (hk _) (s:=EM kd xd r) (by rw[x9];exact wa _ _)
 unfold nL
 rw[show dq kd xd (r+1)=bn (kd (r+1)) (xd (r+1)) from rfl,z]
 have e:∀fm h,aj S0 cD (aV 18 dK) ⟨false,1,[.af (bq kd xd m)]⟩ fm h=SR.rec (motive:=λ_=>SR) (λfm h=>.nx fm h) .rt .ex .bad (aj S0 cD (fK 18) cZ fm h):=λfm h=>by
  rw[←(aU (Av 0 [.af (bq kd xd m)] fm h) (a:=18) (.tail _ (.tail _ (.head _))))]
  rfl
 rw[e]
 cases aj S0 cD (fK 18) cZ (bo 5 (bn (kd (r+1)) (xd (r+1)))) (mH (cm (dd (EM kd xd r) (kd (r+1)) (xd (r+1)))) (bH (cm (dd (EM kd xd r) (kd (r+1)) (xd (r+1)))) 5))<;>rfl
theorem Er(r:Zc):cm (dd (EM kd xd r) (kd (r+1)) (xd (r+1)))=(λs:St=>(⟨s.v,s.n,s.fl,s.ds,bJ (tE kd xd) (r+1),s.rd,s.lk,s.tk⟩:St)) (cm (dd (EM kd xd r) (kd (r+1)) (xd (r+1)))):=
 akp (by
  show(dd (EM kd xd r) (kd (r+1)) (xd (r+1))).xs=_
  rw[(vd _ _ _).xs,x9])
theorem UF{r:Zc}(hr:r+2<m)(h4:r+1∈[1,2,3,4])(n:Zc):nL kd xd m r (n+1)=nL kd xd m (r+1) n:=by
 rw[Fa hk]
 have e:=aU (aa4 (cm (dd (EM kd xd r) (kd (r+1)) (xd (r+1)))).n (cm (dd (EM kd xd r) (kd (r+1)) (xd (r+1)))).fl (cm (dd (EM kd xd r) (kd (r+1)) (xd (r+1)))).ds (cm (dd (EM kd xd r) (kd (r+1)) (xd (r+1)))).rd (cm (dd (EM kd xd r) (kd (r+1)) (xd (r+1)))).lk (cm (dd (EM kd xd r) (kd (r+1)) (xd (r+1)))).tk (cm (dd (EM kd xd r) (kd (r+1)) (xd (r+1)))).v (tE kd xd) (dq kd xd (r+1)) (kd (r+2)) (xd (r+2))) h4
 have e:pY none (wO (bn (kd (r+2)) (xd (r+2))) (jA (aj S0 cD (fK 18) cZ (bo 5 (dq kd xd (r+1))) (mH (cm (dd (EM kd xd r) (kd (r+1)) (xd (r+1)))) (bH (cm (dd (EM kd xd r) (kd (r+1)) (xd (r+1)))) 5)))))=some (bo 0 (bn (kd (r+2)) (xd (r+2))),mH (EM kd xd (r+1)) [],true,15,0,false,false,true,true):=by
  have q:=Er (kd:=kd) (xd:=xd) hk r
  have q2:EM kd xd (r+1)=nN ((λs:St=>(⟨s.v,s.n,s.fl,s.ds,bJ (tE kd xd) (r+1),s.rd,s.lk,s.tk⟩:St)) (cm (dd (EM kd xd r) (kd (r+1)) (xd (r+1))))):=Ze nN q
  rw[q2]
  revert e q
  generalize cm (dd (EM kd xd r) (kd (r+1)) (xd (r+1)))=s
  intro e q
  rw[q];exact e
 obtain⟨aX,h1,e1,e2⟩:=DN (c:=cD) (s:=EM kd xd (r+1)) (by rw[x9];exact wa _ _) (yy (kd:=kd) (xd:=xd) (m:=m)) e (.inl ⟨rfl,rfl⟩)
 rw[e1]
 exact EF (wz _ m (r+2) hr) e2
def pM(r:SR):SR:=SR.rec (motive:=λ_=>SR) (λfm h=>aj S0 cD nZ cZ fm h) .rt .ex .bad (fH r)
theorem UB{r:Zc}(hr:r+2=m)(h4:r+1∈[1,2,3,4,5])(n:Zc):pM (nL kd xd m r (n+1))=.rt (.tup [.ref 1,.ref 2]) (AH.ofList [.tab,.list (bJ (tE kd xd) m),.dict [(.sy 68,.int ((EM kd xd (r+1)).n 50)),(.sy 276,.int ((EM kd xd (r+1)).n 51)),(.sy 34,.any)]]):=by
 rw[Fa hk]
 have e:=aU (abo (cm (dd (EM kd xd r) (kd (r+1)) (xd (r+1)))).n (cm (dd (EM kd xd r) (kd (r+1)) (xd (r+1)))).fl (cm (dd (EM kd xd r) (kd (r+1)) (xd (r+1)))).ds (cm (dd (EM kd xd r) (kd (r+1)) (xd (r+1)))).rd (cm (dd (EM kd xd r) (kd (r+1)) (xd (r+1)))).lk (cm (dd (EM kd xd r) (kd (r+1)) (xd (r+1)))).tk (cm (dd (EM kd xd r) (kd (r+1)) (xd (r+1)))).v (tE kd xd) (dq kd xd (r+1))) h4
 have e:SR.rec (motive:=λ_=>SR) (λfm h=>aj S0 cD nZ cZ fm h) .rt .ex .bad (aj S0 cD (fK 18) cZ (bo 5 (dq kd xd (r+1))) (mH (cm (dd (EM kd xd r) (kd (r+1)) (xd (r+1)))) (bH (cm (dd (EM kd xd r) (kd (r+1)) (xd (r+1)))) 5)))=.rt (.tup [.ref 1,.ref 2]) (AH.ofList [.tab,.list (bJ (tE kd xd) m),.dict [(.sy 68,.int ((EM kd xd (r+1)).n 50)),(.sy 276,.int ((EM kd xd (r+1)).n 51)),(.sy 34,.any)]]):=by
  have q:=Er (kd:=kd) (xd:=xd) hk r
  have q2:bJ (tE kd xd) m=aD (bJ (tE kd xd) (r+1)) [oM λi=>(cm (dd (EM kd xd r) (kd (r+1)) (xd (r+1)))).n (Zn 60 i)]:=by rw[←hr];exact zy _ _
  rw[q2,show(EM kd xd (r+1)).n=(cm (dd (EM kd xd r) (kd (r+1)) (xd (r+1)))).n from rfl]
  revert e q
  generalize cm (dd (EM kd xd r) (kd (r+1)) (xd (r+1)))=s
  intro e q
  rw[q];exact e
 revert e
 cases aj S0 cD (fK 18) cZ (bo 5 (dq kd xd (r+1))) (mH (cm (dd (EM kd xd r) (kd (r+1)) (xd (r+1)))) (bH (cm (dd (EM kd xd r) (kd (r+1)) (xd (r+1)))) 5))with
 |nx fm h=>
  intro e
  have z:Fd (bq kd xd m) (n+1) (r+2) fm h=.nx fm h:=QI (by rw[hr];exact adD _ m)
  show SR.rec (motive:=λ_=>SR) (λfm h=>aj S0 cD nZ cZ fm h) .rt .ex .bad (fH (Fd (bq kd xd m) (n+1) (r+2) fm h))=_
  rw[z];exact e
 |rt v h=>exactλe=>e
 |ex v h=>exactλe=>nomatch e
 |bad=>exactλe=>nomatch e
theorem UA(hm:m∈[2,3,4,5,6])(j:Zc):∀r,r+2+j=m→∀n,pM (nL kd xd m r (n+1+j))=.rt (.tup [.ref 1,.ref 2]) (AH.ofList [.tab,.list (bJ (tE kd xd) m),.dict [(.sy 68,.int ((EM kd xd (m-1)).n 50)),(.sy 276,.int ((EM kd xd (m-1)).n 51)),(.sy 34,.any)]]):=by
 have h6:m≤6:=by
  simp only[Wv,Xv,Un]at hm
  omega
 induction j with
 |zero=>
  intro r hr n
  have e:m-1=r+1:=by omega
  rw[e]
  exact UB hk hr (by
   simp only[Wv,Xv,Un]
   omega) n
 |succ j ih=>
  intro r hr n
  show pM (nL kd xd m r (n+1+j+1))=_
  rw[UF hk (by omega) (by
   simp only[Wv,Xv,Un]
   omega)]
  exact ih (r+1) (by omega) n
theorem Id{c:bc}{a b d r:CS}{ev:Ev}{fm fm':Fm}{h h':AH}(e:aj S0 c (.seq a (.seq b (.seq d .skip))) ev fm h=.nx fm' h'):aj S0 c (.seq a (.seq b (.seq d r))) ev fm h=aj S0 c r ev fm' h':=by
 have e:SR.rec (motive:=λ_=>SR) (λfm h=>SR.rec (motive:=λ_=>SR) (λfm h=>SR.rec (motive:=λ_=>SR) (λfm h=>.nx fm h) .rt .ex .bad (aj S0 c d ev fm h)) .rt .ex .bad (aj S0 c b ev fm h)) .rt .ex .bad (aj S0 c a ev fm h)=.nx fm' h':=e
 show SR.rec (motive:=λ_=>SR) (λfm h=>SR.rec (motive:=λ_=>SR) (λfm h=>SR.rec (motive:=λ_=>SR) (λfm h=>aj S0 c r ev fm h) .rt .ex .bad (aj S0 c d ev fm h)) .rt .ex .bad (aj S0 c b ev fm h)) .rt .ex .bad (aj S0 c a ev fm h)=_
 revert e
 cases aj S0 c a ev fm h with
 |nx f1 h1=>
  show SR.rec (motive:=λ_=>SR) (λfm h=>SR.rec (motive:=λ_=>SR) (λfm h=>.nx fm h) .rt .ex .bad (aj S0 c d ev fm h)) .rt .ex .bad (aj S0 c b ev f1 h1)=.nx fm' h'→SR.rec (motive:=λ_=>SR) (λfm h=>SR.rec (motive:=λ_=>SR) (λfm h=>aj S0 c r ev fm h) .rt .ex .bad (aj S0 c d ev fm h)) .rt .ex .bad (aj S0 c b ev f1 h1)=_
  cases aj S0 c b ev f1 h1 with
  |nx f2 h2=>
   show SR.rec (motive:=λ_=>SR) (λfm h=>.nx fm h) .rt .ex .bad (aj S0 c d ev f2 h2)=.nx fm' h'→SR.rec (motive:=λ_=>SR) (λfm h=>aj S0 c r ev fm h) .rt .ex .bad (aj S0 c d ev f2 h2)=_
   cases aj S0 c d ev f2 h2 with
   |nx f3 h3=>exactλe=>by injection e with a b;subst a b;rfl
   |rt v h=>exactλe=>nomatch e
   |ex v h=>exactλe=>nomatch e
   |bad=>exactλe=>nomatch e
  |rt v h=>exactλe=>nomatch e
  |ex v h=>exactλe=>nomatch e
  |bad=>exactλe=>nomatch e
 |rt v h=>exactλe=>nomatch e
 |ex v h=>exactλe=>nomatch e
 |bad=>exactλe=>nomatch e
theorem ajg{g6:Fm}{hA:AH}(p:aj S0 cD mJ cZ (kH (bq kd xd m)) (AH.ofList [.tab])=.nx g6 hA):aj S0 cD pq cZ g6 hA=fH (Fd (bq kd xd m) cw 0 g6 hA):=by
 have q:aB (jV (aj S0 cD mJ cZ (kH (bq kd xd m)) (AH.ofList [.tab]))).vars 0=some (.af (bq kd xd m)):=ajh (bq kd xd m)
 rw[p]at q
 have q:aB g6.vars 0=some (.af (bq kd xd m)):=q
 have e:gP g6 0 hA=.ok (.af (bq kd xd m)) hA:=by
  unfold gP
  rw[q];rfl
 show sB g6 (gP g6 0) hA (λsrc h=>fH (gp false (dD S0 false src) (eZ S0 cD false (.loc 5)) (aj S0 cD dK ⟨false,1,[src]⟩) cw 0 g6 h))=_
 unfold sB
 rw[e]
 rfl
theorem NC(hm:m∈[2,3,4,5,6]):e8 S0 51 false (.au 1519) [.af (bq kd xd m)] (AH.ofList [.tab])=.ok (.tup [.ref 1,.ref 2]) (AH.ofList [.tab,.list (bJ (tE kd xd) m),.dict [(.sy 68,.int ((EM kd xd (m-1)).n 50)),(.sy 276,.int ((EM kd xd (m-1)).n 51)),(.sy 34,.any)]]):=by
 have h2:2≤m:=by
  simp only[Wv,Xv,Un]at hm
  omega
 have e:=mo (bq kd xd m) 0 (kd 1) (xd 1) [.af (bq kd xd m)]
 obtain⟨aX,h1,e1,e2⟩:=DN (c:=cD) (s:=kU 0) (d:=bn (kd 1) (xd 1)) (wa (tE kd xd) 1) (yy (kd:=kd) (xd:=xd) (m:=m)) e (.inr rfl)
 show gQ (aj S0 cD n7.body cZ (kH (bq kd xd m)) (AH.ofList [.tab]))=_
 cases p:aj S0 cD mJ cZ (kH (bq kd xd m)) (AH.ofList [.tab])with
 |rt v h=>rw[show aj S0 cD mJ ⟨false,1,[]⟩ (kH (bq kd xd m)) (AH.ofList [.tab])=_ from p]at e1;exact nomatch e1
 |ex v h=>rw[show aj S0 cD mJ ⟨false,1,[]⟩ (kH (bq kd xd m)) (AH.ofList [.tab])=_ from p]at e1;exact nomatch e1
 |bad=>rw[show aj S0 cD mJ ⟨false,1,[]⟩ (kH (bq kd xd m)) (AH.ofList [.tab])=_ from p]at e1;exact nomatch e1
 |nx g6 hA=>
  rw[show aj S0 cD mJ ⟨false,1,[]⟩ (kH (bq kd xd m)) (AH.ofList [.tab])=_ from p]at e1
  have e1:aj S0 cD dK ⟨false,1,[.af (bq kd xd m)]⟩ (bG g6 5 lu) hA=.nx aX h1:=e1
  have b:aj S0 cD n7.body cZ (kH (bq kd xd m)) (AH.ofList [.tab])=aj S0 cD (.seq pq nZ) cZ g6 hA:=Id hk (r:=.seq pq nZ) p
  have v0:aj S0 cD pq cZ g6 hA=fH (Fd (bq kd xd m) cw 0 g6 hA):=ajg hk p
  rw[b]
  have b2:aj S0 cD (.seq pq nZ) cZ g6 hA=pM (Fd (bq kd xd m) cw 0 g6 hA):=by
   show SR.rec (motive:=λ_=>SR) (λfm h=>aj S0 cD nZ cZ fm h) .rt .ex .bad (aj S0 cD pq cZ g6 hA)=_
   rw[v0];rfl
  rw[b2]
  have e3:cw=(cw-m-1)+1+(m-2)+1+1:=by
   have:cw=1000000:=rfl
   have:m≤6:=by
    simp only[Wv,Xv,Un]at hm
    omega
   omega
  have n0:aB (bq kd xd m) 0=some lu:=wz _ m 0 (X7 (by decide) h2)
  rw[e3,yd,n0]
  show gQ (pM (SR.rec (motive:=λ_=>SR) (λfm h=>Fd (bq kd xd m) (cw-m-1+1+(m-2)+1) 1 fm h) .rt .ex .bad (aj S0 cD dK ⟨false,1,[.af (bq kd xd m)]⟩ (bG g6 5 lu) hA)))=_
  rw[e1]
  show gQ (pM (Fd (bq kd xd m) (cw-m-1+1+(m-2)+1) 1 aX h1))=_
  have n1:aB (bq kd xd m) 1=some (bn (kd 1) (xd 1)):=wz _ m 1 h2
  rw[EF n1 e2]
  show gQ (pM (nL kd xd m 0 (cw-m-1+1+(m-2))))=_
  rw[UA hk hm (m-2) 0 (by omega)]
  rfl
end
end Mine
namespace Mine
structure Jg(i:Zc)(s m:St):Prop where
 v:∀p,p≤4→s.v (Zn (Yd 3 p) (gz i))=m.v (Zn (Yd 3 p) (gz i))
 n:∀p,p≤4→s.n (Zn (Yd 3 p) (gz i))=m.n (Zn (Yd 3 p) (gz i))
 f:∀k,15≤k→k≤20→s.v k=m.v k
def lst(s:St)(i:Zc):Zb Zc:=ae (c5 i) (oF s (fJ i)) (aD (zS (fJ i)) (aD (oF s (fJ i)) [0]))
theorem ZE(s:St):ag (λi=>tab (λv=>aM (λp=>Zl p 4) (lst {s with v:=v} i)) (lM (fJ i) λ_=>.lf) s.v) (olds 0 14)=ag (λi=>tab (λ_=>true) (lM (fJ i) λ_=>.lf) s.v) (olds 0 14):=by kernel_rfl
theorem JQ{α:Type}{p:α→Zh}{l:Zb α}(h:aM p l=true){a:α}(m:a∈l):p a=true:=by
 induction l with
 |nil=>exact nomatch m
 |cons b l ih=>
  have h:Zp (motive:=λ_=>Zh) false (aM p l) (p b)=true:=h
  cases q:p b with
  |false=>rw[q]at h;exact nomatch h
  |true=>rw[q]at h;exact(List.mem_cons.mp m).elim (λe=>e▸q) (ih h)
theorem QP{f g:Zc→Zd Zw}{l:Zb Zc}(h:∀a∈l,f a=g a):oa (ag f l)=oa (ag g l):=by
 induction l with
 |nil=>rfl
 |cons a l ih=>
  show dS (f a) (oa (ag f l))=dS (g a) (oa (ag g l))
  rw[h a (.head _),ih λb m=>h b (.tail _ m)]
theorem YI{s m:St}(h:∀k,15≤k→k≤20→s.v k=m.v k)(p:Zc):oF s p=oF m p:=by
 unfold oF yW Gx
 rw[h 15 (by decide) (by decide),h 16 (by decide) (by decide),h 17 (by decide) (by decide),h 18 (by decide) (by decide),h 19 (by decide) (by decide),h 20 (by decide) (by decide)]
 all_goals rfl
theorem GA{i:Zc}(hi:i<14){s m:St}(h:Jg i s m):look s i=look m i:=by
 have e:look s i=oa (ag (nR s (gz i)) (lst s i)):=rfl
 have e2:look m i=oa (ag (nR m (gz i)) (lst m i)):=rfl
 have el:lst s i=lst m i:=by unfold lst;rw[YI h.f]
 rw[e,e2,el]
 have k:aM (λp=>Zl p 4) (lst m i)=true:=j5 (aU (ZE m) (cb hi))
 refine QP λp hp=>?_
 have le:=Zm (JQ k hp)
 unfold nR oo
 cases q:Zi (Zn (Yd 3 p) (gz i)) 0 with
 |true=>
  have z:=h.n p le
  rw[Zr q]at z
  rw[z]
  rfl
 |false=>rw[h.v p le,h.n p le];rfl
theorem gV{v:Zc→Zh}{i j:Zc}{b:Zh}(h:j≠i):bI v i b j=v j:=by
 unfold bI;rw[nU h];rfl
theorem iz{v:Zc→Zw}{i j:Zc}{b:Zw}(h:j≠i):de v i b j=v j:=by
 unfold de;rw[nU h];rfl
theorem AZ{v:Zc→Zh}{i:Zc}{b:Zh}:bI v i b i=b:=by unfold bI;rw[Wu];rfl
theorem AY{v:Zc→Zw}{i:Zc}{b:Zw}:de v i b i=b:=by unfold de;rw[Wu];rfl
theorem adP{i:Zc}(hi:i<14):gz i≤2:=Zm (aU (f:=λi=>Zl (gz i) 2) (g:=λ_=>true) (l:=olds 0 14) rfl (cb hi))
structure fy(s m:St):Prop where
 v:∀k,k≤20→s.v k=m.v k
 n:∀k,k≤14→s.n k=m.n k
theorem fy.look{s m:St}(h:fy s m){i:Zc}(hi:i<14):look s i=look m i:=
 have z:∀p,p≤4→Zn (Yd 3 p) (gz i)≤14:=λp hp=>by
  have:=adP hi
  show 3*p+gz i≤14
  omega
 GA hi ⟨λp hp=>h.v _ (Zu (z p hp) (by decide)),λp hp=>h.n _ (z p hp),λk _ h2=>h.v k h2⟩
theorem Gi(p:Zc):21≤vO p∧(p≤4→vO p≤25):=by
 cases p with
 |zero=>exact⟨by decide,λ_=>Yg _⟩
 |succ p=>exact⟨by show 21≤20+(p+1);omega,λh=>by show 20+(p+1)≤25;omega⟩
theorem adQ{i:Zc}(hi:i<14):fJ i≤4:=Zm (aU (f:=λi=>Zl (fJ i) 4) (g:=λ_=>true) (l:=olds 0 14) rfl (cb hi))
theorem adS(s:St)(c:Zh)(i:Zc):fy (rd s c i) s where
 v k h:=by
  have g:=(Gi (fJ i)).1
  show bI (bI (bI s.v _ _) (30+i) _) (50+i) _ k=s.v k
  rw[gV (by omega),gV (by omega),gV (by omega)]
 n k h:=by
  show de (de s.n (30+i) _) (60+i) _ k=s.n k
  rw[iz (by omega),iz (by omega)]
theorem fy.trans{a b d:St}(h:fy a b)(k:fy b d):fy a d:=⟨λi q=>(h.v i q).trans (k.v i q),λi q=>(h.n i q).trans (k.n i q)⟩
theorem fy.symm{a b:St}(h:fy a b):fy b a:=⟨λi q=>(h.v i q).symm,λi q=>(h.n i q).symm⟩
theorem HH(c:Zh)(s:St)(k:Zc):fy (bR c s k) s:=by
 induction k with
 |zero=>exact⟨λ_ _=>rfl,λ_ _=>rfl⟩
 |succ k ih=>exact(adS _ c k).trans ih
structure BM(c:Zh)(s S:St)(k i:Zc):Prop where
 w:S.v (30+i)=ae (Zl (i+1) k) (ak c (aG (c5 i) (aG (s.v (30+i)) (aT (look s i))))) (s.v (30+i))
 e:S.v (50+i)=ae (Zl (i+1) k) (ae (s.v (30+i)) (s.v (50+i)) (aT (look s i))) (s.v (50+i))
 h:S.n (30+i)=ae (Zl (i+1) k) (ae (s.v (30+i)) (s.n (30+i)+1) (s.n (30+i))) (s.n (30+i))
 t:S.n (60+i)=ae (Zl (i+1) k) (ae (s.v (30+i)) (ae (c5 i) (ae (s.v (50+i)) (s.n (60+i)) 0) (s.n (60+i))) (val (look s i))) (s.n (60+i))
theorem iM{a b:Zc}(h:a≤b):Zl a b=true:=U3 h
theorem hW{a b:Zc}(h:b<a):Zl a b=false:=by
 cases q:Zl a b with
 |false=>rfl
 |true=>exact Y8 (Zm q) (Nat.not_le.mpr h)
theorem Dm{i k:Zc}(h:i≠k):Zl (i+1) (k+1)=Zl (i+1) k:=by
 by_cases q:i+1≤k
 ·rw[iM q,iM (Nat.le_succ_of_le q)]
 ·rw[hW (Y1 q),hW (by omega)]
theorem adW{c:Zh}{s:St}{i:Zc}(hi:i<14):∀k,k≤14→BM c s (bR c s k) k i:=λk=>by
 induction k with
 |zero=>exactλ_=>⟨rfl,rfl,rfl,rfl⟩
 |succ k ih=>
  intro hk
  have ih:=ih (Wt hk)
  have g:=Gi (fJ k)
  have g2:=g.2 (adQ hk)
  have el:look (bR c s k) k=look s k:=(HH c s k).look hk
  by_cases q:i=k
  ·subst q
   have f:Zl (i+1) i=false:=hW (We i)
   have t:Zl (i+1) (i+1)=true:=iM (Yg _)
   obtain⟨a,b,d,e⟩:=ih
   rw[f]at a b d e
   have a:(bR c s i).v (30+i)=s.v (30+i):=a
   have b:(bR c s i).v (50+i)=s.v (50+i):=b
   have d:(bR c s i).n (30+i)=s.n (30+i):=d
   have e:(bR c s i).n (60+i)=s.n (60+i):=e
   refine⟨?_,?_,?_,?_⟩<;>rw[t]
   ·show bI (bI (bI (bR c s i).v _ _) (30+i) (ak c (aG (c5 i) (aG ((bR c s i).v (30+i)) (aT (look (bR c s i) i)))))) (50+i) _ (30+i)=ak c (aG (c5 i) (aG (s.v (30+i)) (aT (look s i))))
    rw[gV (by omega),AZ,a,el]
   ·show bI (bI (bI (bR c s i).v _ _) (30+i) _) (50+i) (ae ((bR c s i).v (30+i)) ((bR c s i).v (50+i)) (aT (look (bR c s i) i))) (50+i)=ae (s.v (30+i)) (s.v (50+i)) (aT (look s i))
    rw[AZ,a,b,el]
   ·show de (de (bR c s i).n (30+i) (ae ((bR c s i).v (30+i)) ((bR c s i).n (30+i)+1) ((bR c s i).n (30+i)))) (60+i) _ (30+i)=ae (s.v (30+i)) (s.n (30+i)+1) (s.n (30+i))
    rw[iz (by omega),AY,a,d]
   ·show de (de (bR c s i).n (30+i) _) (60+i) (ae ((bR c s i).v (30+i)) (ae (c5 i) (ae ((bR c s i).v (50+i)) ((bR c s i).n (60+i)) 0) ((bR c s i).n (60+i))) (val (look (bR c s i) i))) (60+i)=ae (s.v (30+i)) (ae (c5 i) (ae (s.v (50+i)) (s.n (60+i)) 0) (s.n (60+i))) (val (look s i))
    rw[AY,a,b,e,el]
  ·have f:=Dm q
   refine⟨?_,?_,?_,?_⟩<;>rw[f]
   ·refine Vd ?_ ih.w
    show bI (bI (bI (bR c s k).v _ _) (30+k) _) (50+k) _ (30+i)=_
    rw[gV (by omega),gV (by omega),gV (by omega)]
   ·refine Vd ?_ ih.e
    show bI (bI (bI (bR c s k).v _ _) (30+k) _) (50+k) _ (50+i)=_
    rw[gV (by omega),gV (by omega),gV (by omega)]
   ·refine Vd ?_ ih.h
    show de (de (bR c s k).n (30+k) _) (60+k) _ (30+i)=_
    rw[iz (by omega),iz (by omega)]
   ·refine Vd ?_ ih.t
    show de (de (bR c s k).n (30+k) _) (60+k) _ (60+i)=_
    rw[iz (by omega),iz (by omega)]
def iW(s:St)(k:Zc):St:=Zz s (λi ih=>md ih i) k
theorem v9(s:St):cm s=iW s 14:=by kernel_rfl
theorem Gf(b:Zh):50≤(ae b 51 50:Zc)∧(ae b 51 50:Zc)≤51:=by cases b<;>decide
theorem ZV(s:St)(i:Zc):fy (md s i) s where
 v k h:=by
  show bI s.v (30+i) _ k=s.v k
  rw[gV (by omega)]
 n k h:=by
  have g:=Gf (c5 i)
  show de (de s.n (ae (c5 i) 51 50) _) (60+i) _ k=s.n k
  rw[iz (by omega),iz (by omega)]
theorem GO(s:St)(k:Zc):fy (iW s k) s:=by
 induction k with
 |zero=>exact⟨λ_ _=>rfl,λ_ _=>rfl⟩
 |succ k ih=>exact(ZV _ k).trans ih
structure xl(s S:St)(k i:Zc):Prop where
 w:S.v (30+i)=ae (Zl (i+1) k) (aG (c5 i) (aG (s.v (30+i)) (aT (look s i)))) (s.v (30+i))
 t:Zl (i+1) k=true→S.n (60+i)=val (look s i)
theorem ZY{s:St}{i:Zc}(hi:i<14):∀k,k≤14→xl s (iW s k) k i:=λk=>by
 induction k with
 |zero=>exactλ_=>⟨rfl,λh=>nomatch h⟩
 |succ k ih=>
  intro hk
  have ih:=ih (Wt hk)
  have g:=Gf (c5 k)
  have el:look (iW s k) k=look s k:=(GO s k).look hk
  by_cases q:i=k
  ·subst q
   have f:Zl (i+1) i=false:=hW (We i)
   have t:Zl (i+1) (i+1)=true:=iM (Yg _)
   have a:=ih.w
   rw[f]at a
   have a:(iW s i).v (30+i)=s.v (30+i):=a
   refine⟨?_,λ_=>?_⟩
   ·rw[t]
    show bI (iW s i).v (30+i) (aG (c5 i) (aG ((iW s i).v (30+i)) (aT (look (iW s i) i)))) (30+i)=aG (c5 i) (aG (s.v (30+i)) (aT (look s i)))
    rw[AZ,a,el]
   ·show de (de (iW s i).n _ _) (60+i) (val (look (iW s i) i)) (60+i)=val (look s i)
    rw[AY,el]
  ·have f:=Dm q
   refine⟨?_,λh=>?_⟩
   ·rw[f]
    refine Vd ?_ ih.w
    show bI (iW s k).v (30+k) _ (30+i)=_
    rw[gV (by omega)]
   ·rw[f]at h
    refine Vd ?_ (ih.t h)
    show de (de (iW s k).n (ae (c5 k) 51 50) _) (60+k) _ (60+i)=_
    rw[iz (by omega),iz (by omega)]
theorem ZW(s:St):(iW s 14).n 50=s.n 50+b2i (s.v 30)+b2i (s.v 31)+b2i (s.v 32)+b2i (s.v 33)+b2i (s.v 35)+b2i (s.v 36)+b2i (s.v 38)+b2i (s.v 39)+b2i (s.v 41)+b2i (s.v 42):=by kernel_rfl
theorem ZX(s:St):(iW s 14).n 51=s.n 51+b2i (s.v 34)+b2i (s.v 37)+b2i (s.v 40)+b2i (s.v 43):=by kernel_rfl
end Mine
namespace Mine
def i1(d:Zc):Zc:=Zn (Yd 3 (dP d)) (V9 d 2)
def i2(d:Zc):Zc:=Zn (Yd 3 (dP d)) 2
section
variable(s:St){d:Zc}(x:Zw)
theorem qK(h:d≤9):(dd s d x).v=bI (fM s.v false) (i1 d) true∧(dd s d x).n=de s.n (i1 d) x:=by
 unfold dd;rw[iM h];exact⟨rfl,rfl⟩
theorem qL(h:9<d)(k:d≤14):(dd s d x).v=bI (fM s.v true) (i2 d) true∧(dd s d x).n=de s.n (i2 d) x:=by
 unfold dd;rw[hW h,iM k];exact⟨rfl,rfl⟩
theorem qM(h:14<d)(k:d≤20):(dd s d x).v=ae (s.v (gj d)) s.v (bI (fM s.v true) (gj d) true)∧(dd s d x).n=s.n:=by
 unfold dd;rw[hW (show 9<d by omega),hW h,iM k]
 show(ae (s.v (gj d)) ({s with rd:=Zk s.rd}:St) {s with rd:=Zk s.rd,v:=bI (fM s.v true) (gj d) true}).v=_∧(ae (s.v (gj d)) ({s with rd:=Zk s.rd}:St) {s with rd:=Zk s.rd,v:=bI (fM s.v true) (gj d) true}).n=_
 cases s.v (gj d)<;>exact⟨rfl,rfl⟩
theorem qO(h:20<d):(dd s d x).v=s.v∧(dd s d x).n=s.n:=by
 unfold dd;rw[hW (show 9<d by omega),hW (show 14<d by omega),hW h];exact⟨rfl,rfl⟩
end
theorem FH{d:Zc}(h:d≤9):i1 d≤13∧i1 d%3≤1:=by
 unfold i1 dP;rw[iM h]
 show 3*(d/2)+d%2≤13∧(3*(d/2)+d%2)%3≤1
 omega
theorem FI{d:Zc}(h:9<d)(k:d≤14):i2 d≤14:=by
 unfold i2 dP;rw[hW h,iM k]
 show 3*(d-10)+2≤14
 omega
theorem D6{d:Zc}(h:14<d)(k:d≤20):15≤gj d∧gj d≤20:=by
 unfold gj
 by_cases q:d≤17
 ·rw[iM q];show 15≤15+2*(d-15)∧15+2*(d-15)≤20;omega
 ·rw[hW (Y1 q)];show 15≤16+2*(d-18)∧16+2*(d-18)≤20;omega
theorem ajs{v w:Zc→Zh}{b:Zh}{j:Zc}(h:v j=w j):fM v b j=fM w b j:=by
 unfold fM;rw[h]
theorem Ay{v:Zc→Zh}{b:Zh}{j:Zc}(h:j<21∨43<j):fM v b j=v j:=by
 unfold fM
 rcases h with h|h
 ·rw[hW (show j<30 by omega),hW h];cases b<;>rfl
 ·rw[hW h,hW (show 24<j by omega)]
  cases Zl 30 j<;>cases b<;>cases Zl 21 j<;>rfl
theorem Az{v:Zc→Zh}{b:Zh}{i:Zc}(hi:i<14)(h:fM v b (30+i)=true):b=false∧c5 i=true∧v (30+i)=true:=by
 unfold fM at h
 rw[iM (show 30≤30+i by omega),iM (show 30+i≤43 by omega),show Yh (30+i) 30=i from Rw 30 i]at h
 cases b with
 |true=>exact nomatch h
 |false=>
  cases q:c5 i with
  |false=>rw[q]at h;exact nomatch h
  |true=>rw[q]at h;exact⟨rfl,rfl,h⟩
theorem Ei{s m:St}(hb:∀k,k≤20→s.v k=m.v k){d:Zc}{x:Zw}{j:Zc}(h:s.v j=m.v j):(dd s d x).v j=(dd m d x).v j:=by
 have u:∀(b:Zh)(i:Zc),bI (fM s.v b) i true j=bI (fM m.v b) i true j:=λb i=>by
  unfold bI;rw[ajs h]
 by_cases h1:d≤9
 ·rw[(qK s x h1).1,(qK m x h1).1];exact u _ _
 by_cases h2:d≤14
 ·rw[(qL s x (Y1 h1) h2).1,(qL m x (Y1 h1) h2).1];exact u _ _
 by_cases h3:d≤20
 ·have f:=D6 (Y1 h2) h3
  rw[(qM s x (Y1 h2) h3).1,(qM m x (Y1 h2) h3).1,hb _ f.2]
  cases m.v (gj d)with
  |true=>exact h
  |false=>exact u _ _
 ·rw[(qO s x (Y1 h3)).1,(qO m x (Y1 h3)).1];exact h
theorem M5{s m:St}{d:Zc}{x:Zw}{j:Zc}(h:s.n j=m.n j):(dd s d x).n j=(dd m d x).n j:=by
 have u:∀(i:Zc),de s.n i x j=de m.n i x j:=λi=>by unfold de;rw[h]
 by_cases h1:d≤9
 ·rw[(qK s x h1).2,(qK m x h1).2];exact u _
 by_cases h2:d≤14
 ·rw[(qL s x (Y1 h1) h2).2,(qL m x (Y1 h1) h2).2];exact u _
 by_cases h3:d≤20
 ·rw[(qM s x (Y1 h2) h3).2,(qM m x (Y1 h2) h3).2];exact h
 ·rw[(qO s x (Y1 h3)).2,(qO m x (Y1 h3)).2];exact h
theorem sL{s:St}{d:Zc}{x:Zw}{j:Zc}(h:14<j):(dd s d x).n j=s.n j:=by
 by_cases h1:d≤9
 ·have:=(FH h1).1
  rw[(qK s x h1).2,iz (by omega)]
 by_cases h2:d≤14
 ·have:=FI (Y1 h1) h2
  rw[(qL s x (Y1 h1) h2).2,iz (by omega)]
 by_cases h3:d≤20
 ·rw[(qM s x (Y1 h2) h3).2]
 ·rw[(qO s x (Y1 h3)).2]
theorem look_same{s m:St}(hv:s.v=m.v)(hn:s.n=m.n)(i:Zc):look s i=look m i:=by
 obtain⟨v,n,a,b,c,d,e,f⟩:=s
 obtain⟨v',n',a',b',c',d',e',f'⟩:=m
 have hv:v=v':=hv
 have hn:n=n':=hn
 subst hv hn
 rfl
theorem WO{i:Zc}(h:c5 i=true):gz i=2:=Zr h
structure Jt(s:St)(d:Zc)(x:Zw)(i:Zc):Prop where
 w:s.v (30+i)=true
 l:look (dd s d x) i=look s i
 e:(dd s d x).v (50+i)=s.v (50+i)
theorem M7{s:St}{d:Zc}{x:Zw}{i:Zc}(hi:i<14)(h:(dd s d x).v (30+i)=true):Jt s d x i:=by
 by_cases h1:d≤9
 ·obtain⟨ev,en⟩:=qK s x h1
  have g:=FH h1
  rw[ev,gV (by omega)]at h
  obtain⟨_,f,w⟩:=Az hi h
  have f:=WO f
  have ne:∀p,Zn (Yd 3 p) (gz i)≠i1 d:=λp e=>by
   have e:3*p+gz i=i1 d:=e
   omega
  refine⟨w,GA hi ⟨λp hp=>?_,λp hp=>?_,λk h1 h2=>?_⟩,?_⟩
  ·rw[ev,gV (ne p),Ay (.inl (by show 3*p+gz i<21;omega))]
  ·rw[en,iz (ne p)]
  ·rw[ev,gV (by omega),Ay (.inl (by omega))]
  ·rw[ev,gV (by omega),Ay (.inr (by omega))]
 by_cases h2:d≤14
 ·have g:=FI (Y1 h1) h2
  rw[(qL s x (Y1 h1) h2).1,gV (by omega)]at h
  exact nomatch(Az hi h).1
 by_cases h3:d≤20
 ·obtain⟨ev,en⟩:=qM s x (Y1 h2) h3
  have g:=D6 (Y1 h2) h3
  cases q:s.v (gj d)with
  |true=>
   rw[q]at ev
   have ev:(dd s d x).v=s.v:=ev
   exact⟨ev▸h,look_same ev en i,by rw[ev]⟩
  |false=>
   rw[q]at ev
   have ev:(dd s d x).v=bI (fM s.v true) (gj d) true:=ev
   rw[ev,gV (by omega)]at h
   exact nomatch(Az hi h).1
 ·obtain⟨ev,en⟩:=qO s x (Y1 h3)
  exact⟨ev▸h,look_same ev en i,by rw[ev]⟩
noncomputable def AA(s:St):Zw:=s.n 30+s.n 31+s.n 32+s.n 33+s.n 35+s.n 36+s.n 38+s.n 39+s.n 41+s.n 42
def sumF(s:St):Zw:=s.n 34+s.n 37+s.n 40+s.n 43
structure Rel(c:Zh)(s m:St)(r:Zc):Prop where
 b:fy s m
 w:c=true→∀i,i<14→s.v (30+i)=m.v (30+i)
 w0:c=false→∀i,i<14→s.v (30+i)=false
 t:∀i,i<14→s.n (60+i)=val (look s i)
 e:c=true→∀i,i<14→c5 i=true→s.v (50+i)=aT (look s i)
 mt:∀i,i<14→m.n (60+i)=val (look m i)
 h:c=true→m.n 50=AA s∧m.n 51=sumF s
 hb:c=true→∀i,i<14→0≤s.n (30+i)∧s.n (30+i)≤r
theorem VC{b:Zh}{n:Zw}:(ae b (n+1) n:Zw)=n+b2i b:=by
 cases b with
 |true=>rfl
 |false=>exact(Q4 n).symm
theorem Ko(b:Zh):0≤b2i b∧b2i b≤1:=by cases b<;>decide
theorem ajt{M m h0 h1 h2 h3 h5 h6 h8 h9 tg ti b0 b1 b2 b3 b5 b6 b8 b9 qD qE:Zw}(e:M=m+b0+b1+b2+b3+b5+b6+b8+b9+qD+qE)(q:m=h0+h1+h2+h3+h5+h6+h8+h9+tg+ti):M=(h0+b0)+(h1+b1)+(h2+b2)+(h3+b3)+(h5+b5)+(h6+b6)+(h8+b8)+(h9+b9)+(tg+qD)+(ti+qE):=by omega
theorem aju{M m h0 h1 h2 h3 b0 b1 b2 b3:Zw}(e:M=m+b0+b1+b2+b3)(q:m=h0+h1+h2+h3):M=(h0+b0)+(h1+b1)+(h2+b2)+(h3+b3):=by omega
theorem J1{X m:St}(h:fy X m):fy (nN X) m:=⟨h.v,h.n⟩
theorem J2(X:St)(i:Zc):look (nN X) i=look X i:=look_same rfl rfl i
theorem ad7{c:Zh}{s m SA MA S M0:St}{r:Zc}(h:Rel c s m r)(A:fy SA MA)(SB:fy S SA)(MB:fy M0 MA)(wA:c=true→∀i,i<14→SA.v (30+i)=MA.v (30+i))(ri:∀i,i<14→BM c SA S 14 i)(mi:∀i,i<14→xl MA M0 14 i)
  (ZG:M0.n 50=m.n 50+b2i (MA.v 30)+b2i (MA.v 31)+b2i (MA.v 32)+b2i (MA.v 33)+b2i (MA.v 35)+b2i (MA.v 36)+b2i (MA.v 38)+b2i (MA.v 39)+b2i (MA.v 41)+b2i (MA.v 42))(ZH:M0.n 51=m.n 51+b2i (MA.v 34)+b2i (MA.v 37)+b2i (MA.v 40)+b2i (MA.v 43))
  (hn:∀i,i<14→SA.n (30+i)=s.n (30+i))(tn:∀i,i<14→SA.n (60+i)=s.n (60+i))(dw:∀i,i<14→SA.v (30+i)=true→s.v (30+i)=true∧look SA i=look s i∧SA.v (50+i)=s.v (50+i)):Rel c S (nN M0) (r+1):=by
 have tt:∀{i},i<14→Zl (i+1) 14=true:=λh=>iM h
 have hits:c=true→∀i,i<14→S.n (30+i)=s.n (30+i)+b2i (MA.v (30+i)):=λhc i hi=>by
  have z:=(ri i hi).h
  rw[tt hi]at z
  have z:S.n (30+i)=ae (SA.v (30+i)) (SA.n (30+i)+1) (SA.n (30+i)):=z
  rw[z,VC,hn i hi,wA hc i hi]
 refine⟨SB.trans (A.trans (J1 MB).symm),λhc i hi=>?_,λhc i hi=>?_,λi hi=>?_,λhc i hi hf=>?_,λi hi=>?_,λhc=>⟨?_,?_⟩,λhc i hi=>?_⟩
 ·have a:=(ri i hi).w
  have b:=(mi i hi).w
  rw[tt hi]at a b
  have a:S.v (30+i)=ak c (aG (c5 i) (aG (SA.v (30+i)) (aT (look SA i)))):=a
  have b:M0.v (30+i)=aG (c5 i) (aG (MA.v (30+i)) (aT (look MA i))):=b
  show S.v (30+i)=M0.v (30+i)
  rw[a,b,wA hc i hi,A.look hi,hc];rfl
 ·have a:=(ri i hi).w
  rw[tt hi]at a
  have a:S.v (30+i)=ak c (aG (c5 i) (aG (SA.v (30+i)) (aT (look SA i)))):=a
  rw[a,hc];rfl
 ·have a:=(ri i hi).t
  rw[tt hi]at a
  have a:S.n (60+i)=ae (SA.v (30+i)) (ae (c5 i) (ae (SA.v (50+i)) (SA.n (60+i)) 0) (SA.n (60+i))) (val (look SA i)):=a
  rw[a,SB.look hi]
  cases q:SA.v (30+i)with
  |false=>rfl
  |true=>
   obtain⟨w,l,e⟩:=dw i hi q
   have hc:c=true:=by
    cases c with
    |true=>rfl
    |false=>exact nomatch(h.w0 rfl i hi).symm.trans w
   rw[l,tn i hi,h.t i hi]
   cases f:c5 i with
   |false=>rfl
   |true=>
    show ae (SA.v (50+i)) (val (look s i)) 0=val (look s i)
    rw[e,h.e hc i hi f]
    cases look s i<;>rfl
 ·have a:=(ri i hi).e
  rw[tt hi]at a
  have a:S.v (50+i)=ae (SA.v (30+i)) (SA.v (50+i)) (aT (look SA i)):=a
  rw[a,SB.look hi]
  cases q:SA.v (30+i)with
  |false=>rfl
  |true=>
   obtain⟨w,l,e⟩:=dw i hi q
   rw[l,e]
   exact h.e hc i hi hf
 ·show M0.n (60+i)=val (look (nN M0) i)
  rw[J2,MB.look hi]
  exact(mi i hi).t (tt hi)
 ·have e:=hits hc
  show M0.n 50=S.n 30+S.n 31+S.n 32+S.n 33+S.n 35+S.n 36+S.n 38+S.n 39+S.n 41+S.n 42
  rw[show S.n 30=_ from e 0 (by decide),show S.n 31=_ from e 1 (by decide),show S.n 32=_ from e 2 (by decide),show S.n 33=_ from e 3 (by decide),show S.n 35=_ from e 5 (by decide),show S.n 36=_ from e 6 (by decide),show S.n 38=_ from e 8 (by decide),show S.n 39=_ from e 9 (by decide),show S.n 41=_ from e 11 (by decide),show S.n 42=_ from e 12 (by decide)]
  exact ajt ZG (h.h hc).1
 ·have e:=hits hc
  show M0.n 51=S.n 34+S.n 37+S.n 40+S.n 43
  rw[show S.n 34=_ from e 4 (by decide),show S.n 37=_ from e 7 (by decide),show S.n 40=_ from e 10 (by decide),show S.n 43=_ from e 13 (by decide)]
  exact aju ZH (h.h hc).2
 ·rw[hits hc i hi]
  have a:=h.hb hc i hi
  have b:=Ko (MA.v (30+i))
  revert a b
  generalize s.n (30+i)=p
  generalize b2i (MA.v (30+i))=q
  intro a b
  omega
theorem abe(s:St)(i:Zc)(hi:i<14):xl s (cm s) 14 i:=(v9 s).symm▸ZY hi 14 (Yg _)
theorem abd(s:St):fy (cm s) s:=(v9 s).symm▸GO s 14
theorem abb(s:St):(cm s).n 50=s.n 50+b2i (s.v 30)+b2i (s.v 31)+b2i (s.v 32)+b2i (s.v 33)+b2i (s.v 35)+b2i (s.v 36)+b2i (s.v 38)+b2i (s.v 39)+b2i (s.v 41)+b2i (s.v 42):=(v9 s).symm▸ZW s
theorem abc(s:St):(cm s).n 51=s.n 51+b2i (s.v 34)+b2i (s.v 37)+b2i (s.v 40)+b2i (s.v 43):=(v9 s).symm▸ZX s
theorem abO(s:St)(tk:Zc):fy (iH s tk) s:=⟨λ_ _=>rfl,λ_ _=>rfl⟩
theorem ad8{c:Zh}{s m:St}{r:Zc}(h:Rel c s m r){d:Zc}(x:Zw)(tk:Zc):Rel c (rG c s tk d x) (nN (cm (dd m d x))) (r+1):=by
 have N:=(abO s tk).trans h.b
 have nv:(iH s tk).v=s.v:=rfl
 have nn:(iH s tk).n=s.n:=rfl
 have ln:∀i,look (iH s tk) i=look s i:=λi=>look_same nv nn i
 unfold rG
 generalize iH s tk=t at N nv nn ln
 refine ad7 h ⟨λk q=>Ei N.v (N.v k q),λk q=>M5 (N.n k q)⟩ (HH c _ 14) (abd _) (λhc i hi=>Ei N.v (by rw[nv];exact h.w hc i hi)) (λi hi=>adW hi 14 (Yg _)) (abe _) ?_ ?_ (λi hi=>(sL (by omega)).trans (by rw[nn])) (λi hi=>(sL (by omega)).trans (by rw[nn])) λi hi q=>?_
 ·have z:=abb (dd m d x)
  rw[show(dd m d x).n 50=m.n 50 from sL (by decide)]at z
  exact z
 ·have z:=abc (dd m d x)
  rw[show(dd m d x).n 51=m.n 51 from sL (by decide)]at z
  exact z
 ·obtain⟨w,l,e⟩:=M7 hi q
  exact⟨by rw[←nv];exact w,l.trans (ln i),e.trans (by rw[nv])⟩
def c6(a b:Zw):Zc→Zw:=λj=>ae (Zi j 50) a (ae (Zi j 51) b 0)
theorem ad6(c:Zh)(a b:Zw)(fl ds:Zb AV):Rel c (fw c (c6 a b) fl ds) (kU 0) 0:=by
 have v0:ag (λk=>(fw c (c6 a b) fl ds).v k) (olds 0 21)=ag (λk=>(kU 0).v k) (olds 0 21):=by cases c<;>kernel_rfl
 have n0:ag (λk=>(fw c (c6 a b) fl ds).n k) (olds 0 15)=ag (λk=>(kU 0).n k) (olds 0 15):=by kernel_rfl
 have w0:ag (λi=>(fw true (c6 a b) fl ds).v (Zn 30 i)) (olds 0 14)=ag (λi=>(kU 0).v (Zn 30 i)) (olds 0 14):=by kernel_rfl
 have w1:ag (λi=>(fw false (c6 a b) fl ds).v (Zn 30 i)) (olds 0 14)=ag (λ_=>false) (olds 0 14):=by kernel_rfl
 have t0:ag (λi=>(fw c (c6 a b) fl ds).n (Zn 60 i)) (olds 0 14)=ag (λi=>val (look (fw c (c6 a b) fl ds) i)) (olds 0 14):=by cases c<;>kernel_rfl
 have e0:ag (λi=>aG (ay (c5 i)) (eqB ((fw true (c6 a b) fl ds).v (Zn 50 i)) (aT (look (fw true (c6 a b) fl ds) i)))) (olds 0 14)=ag (λ_=>true) (olds 0 14):=by kernel_rfl
 have m0:ag (λi=>(kU 0).n (Zn 60 i)) (olds 0 14)=ag (λi=>val (look (kU 0) i)) (olds 0 14):=by kernel_rfl
 have h0:ag (λi=>(fw c (c6 a b) fl ds).n (Zn 30 i)) (olds 0 14)=ag (λ_=>0) (olds 0 14):=by kernel_rfl
 refine⟨⟨λk h=>aU v0 (cb (Xm h)),λk h=>aU n0 (cb (Xm h))⟩,λhc i hi=>?_,λhc i hi=>?_,λi hi=>aU t0 (cb hi),λhc i hi hf=>?_,λi hi=>aU m0 (cb hi),λhc=>⟨?_,?_⟩,λhc i hi=>?_⟩
 ·subst hc;exact aU w0 (cb hi)
 ·subst hc;exact aU w1 (cb hi)
 ·subst hc
  have z:aG (ay (c5 i)) (eqB ((fw true (c6 a b) fl ds).v (Zn 50 i)) (aT (look (fw true (c6 a b) fl ds) i)))=true:=aU e0 (cb hi)
  rw[hf]at z
  exact Et z
 ·show(kU 0).n 50=AA (fw c (c6 a b) fl ds)
  kernel_rfl
 ·show(kU 0).n 51=sumF (fw c (c6 a b) fl ds)
  kernel_rfl
 ·have z:(fw c (c6 a b) fl ds).n (30+i)=0:=aU h0 (cb hi)
  rw[z];exact⟨Ux _,Ux _⟩
theorem HO(c:Zh)(a b:Zw)(fl:Zb AV)(m:Zc)(kd:Zc→Zc)(xd:Zc→Zw)(r:Zc):Rel c (MS c (c6 a b) fl m kd xd r) (EM kd xd r) r:=by
 induction r with
 |zero=>exact ad6 c a b fl _
 |succ r ih=>exact ad8 ih _ _
theorem ajO(c:Zh)(a b:Zw)(fl:Zb AV)(m:Zc)(kd:Zc→Zc)(xd:Zc→Zw)(r:Zc){i:Zc}(hi:i<14):tM c (c6 a b) fl m kd xd r i=tE kd xd r i:=by
 have h:=HO c a b fl m kd xd r
 show(MS c (c6 a b) fl m kd xd r).n (60+i)=(EM kd xd r).n (60+i)
 rw[h.t i hi,h.mt i hi,h.b.look hi]
end Mine
namespace Mine
def cL:bc:=e8 S0 51
def lR(k:Zc):CS:=cS (aV k n9.body)
def JW(k:Zc):Zb AV:=Zz [] (λ_ ih=>.any::ih) k
def bM(vs:Zb AV)(k:Zc):Fm:=⟨aD vs (JW k),[],false⟩
def hZ:Ev:=⟨false,1,[]⟩
theorem XN(X:bc)(sc:Zb AV)(h:AH):aj S0 X (lR 0) hZ (bM [.af sc] 8) h=sB (bM [.af sc] 8) (λ_=>X false (.au 1465) [.af sc] h) h λv h=>.nx (bM [.af sc,v] 7) h:=by kernel_rfl
theorem XO(X:bc)(sc ds:Zb AV)(h:AH):aj S0 X (lR 2) hZ (bM [.af sc,.af ds] 7) h=sB (bM [.af sc,.af ds] 7) (λ_=>X false (.au 1519) [.af ds] h) h λv h=>sB (bM [.af sc,.af ds] 7) (eZ S0 X false (.tup [.loc 2,.loc 3]) v (bM [.af sc,.af ds] 7)) h λfm h=>.nx fm h:=by kernel_rfl
theorem GL{l:Zb AV}(h:∀a∈l,Plain a)(I:aO)(H:AH)(aH:Zb (Zc×Zc))(n:Zc):ag (bL I H aH n) l=l:=by
 induction l with
 |nil=>rfl
 |cons a l ih=>
  show bL I H aH n a::ag (bL I H aH n) l=a::l
  rw[(h a (.head _)).tr,ih λb m=>h b (.tail _ m)]
def jS(o:Zd aO):aO:=aa o {N:=0,sel:=[],aR:=[]} λI=>I
theorem KK(kd:Zc→Zc)(k:Zc)(b:Zh):cC (jS oq) (lA kd k b) (jS oq).c=AH.ofList [.tab]:=by kernel_rfl
theorem KL(sc:Zb AV)(kd:Zc→Zc)(k:Zc)(b:Zh):cI (jS oq) (lA kd k b) hZ (bM [.af sc,.ref 5] 7)=true:=by kernel_rfl
theorem KJ(sc:Zb AV)(kd:Zc→Zc)(k:Zc)(b:Zh):dC (jS oq) (lA kd k b) (bM [.af sc,.ref 5] 7)=bM [bL (jS oq) (lA kd k b) [] 7 (.af sc),.af (ag (bL (jS oq) (lA kd k b) [] 6) (aD (fE kd k) (wE b)))] 7:=by kernel_rfl
def om(rows:Zb AV)(a b:Zw):AH:=AH.ofList [.tab,.list rows,.dict [(.sy 68,.int a),(.sy 276,.int b),(.sy 34,.any)]]
def lB(a b:Zw):AH:=AH.ofList [.tab,.dict [(.sy 68,.int a),(.sy 276,.int b),(.sy 34,.any)]]
theorem KN(rows:Zb AV)(a b:Zw):cC (jS (vB (bM [.any,.any,.any,.ref 2] 5))) (om rows a b) (jS (vB (bM [.any,.any,.any,.ref 2] 5))).c=lB a b:=by kernel_rfl
def i8:aO:=jS (vB (bM [.any,.any,.any,.ref 2] 5))
theorem KO(sc ds rows:Zb AV)(a b:Zw):cI i8 (om rows a b) hZ (bM [.af sc,.af ds,.ref 1,.ref 2] 5)=true:=by kernel_rfl
theorem KM(sc ds rows:Zb AV)(a b:Zw):dC i8 (om rows a b) (bM [.af sc,.af ds,.ref 1,.ref 2] 5)=bM [bL i8 (om rows a b) [(2,1)] 7 (.af sc),bL i8 (om rows a b) [(2,1)] 7 (.af ds),.af (ag (bL i8 (om rows a b) [(2,1)] 6) rows),.ref 1] 5:=by kernel_rfl
def aZ(l:Zb Zw)(j:Zc):Zc:=Zz 0 (λj _=>ae (oy l) 21 (bY l j)) j
def a8(j:Zc):Zw:=Zz 1 (λj _=>Zx (Zn 10 j)) j
def mL(l:Zb Zw):Zc:=ae (oy l) 2 (nD l+1)
theorem adE(n:Zc):∀(d:Zc→AV)(b:Zc),pre (λj=>d (b+j)) n=ag d (olds b n):=by
 induction n with
 |zero=>exactλd b=>rfl
 |succ n ih=>
  intro d b
  have z:(λj=>d (b+Zk j))=λj=>d (b+1+j):=funext λj=>by rw[Si];rfl
  show d (b+0)::pre (λj=>d (b+Zk j)) n=d b::ag d (olds (b+1) n)
  rw[z,ih d (b+1)];rfl
theorem NA(l:Zb Zw):aD (fE (bY l) (nD l)) (wE (oy l))=bq (aZ l) a8 (mL l):=by
 cases l with
 |nil=>rfl
 |cons a l=>
  have e:bq (aZ (a::l)) a8 (mL (a::l))=lu::pre (λj=>bn (bY (a::l) j) (Zx (Zn 10 j))) (nD (a::l)):=rfl
  have z:pre (λj=>bn (bY (a::l) j) (Zx (Zn 10 j))) (nD (a::l))=ag (λj=>bn (bY (a::l) j) (Zx (Zn 10 j))) (olds 0 (nD (a::l))):=by
   rw[←adE]
   exact Ze (λf=>pre f (nD (a::l))) (funext λj=>by rw[Ws])
  rw[e,z]
  show aD (bn 0 1::ag _ _) []=_
  have an:∀k:Zb AV,aD k []=k:=λk=>by
   induction k with
   |nil=>rfl
   |cons a k ih=>exact Ze (a::·) ih
  rw[an];rfl
theorem LP(N:Zw):DA N<22:=by
 obtain⟨_,_,_,hw,hp,hq⟩:=wd N
 have z:ck (λw p q=>Zl (sI w p q) 21)=ck (λ_ _ _=>true):=by kernel_rfl
 exact Xm (Zm (vq z hw hp hq))
theorem Gj(l:Zb Zw)(j:Zc):aZ l j<22:=by
 cases j with
 |zero=>show 0<22;decide
 |succ j=>
  show ae (oy l) 21 (bY l j)<22
  cases oy l with
  |true=>show 21<22;decide
  |false=>exact LP _
theorem oJ(l:Zb Zw):mL l∈[2,3,4,5,6]:=by
 cases l with
 |nil=>exact .head _
 |cons a l=>
  show nD (a::l)+1∈_
  have h1:nD (a::l)≤5:=U6 _ _
  have h2:1≤nD (a::l):=Nat.le_min.mpr ⟨X8 (Yt _),by decide⟩
  revert h1 h2
  generalize nD (a::l)=n
  intro h1 h2
  simp only[Wv,Xv,Un]
  omega
def bv(l:Zb Zw):Zw:=(EM (aZ l) a8 (mL l-1)).n 50
def bw(l:Zb Zw):Zw:=(EM (aZ l) a8 (mL l-1)).n 51
def bj(l:Zb Zw):Zb AV:=bJ (tE (aZ l) a8) (mL l)
def bf(l:Zb Zw):Zb AV:=bq (aZ l) a8 (mL l)
theorem sN(l:Zb Zw):∀a∈bf l,Plain a:=Hy (Ek _ _)
theorem wH(l:Zb Zw):∀a∈bj l,Plain a:=wa _ _
theorem XT(l:Zb Zw):aj S0 cL n9.body hZ (bM [.af (ag AV.int l)] 8) (AH.ofList [.tab])=aj S0 cL (aV 4 n9.body) hZ (bM [.af (ag AV.int l),.af (bf l),.af (bj l),.ref 1] 5) (lB (bv l) (bw l)):=by
 have s0:aj S0 cL (lR 0) hZ (bM [.af (ag AV.int l)] 8) (AH.ofList [.tab])=.nx (bM [.af (ag AV.int l),.ref 5] 7) (lA (bY l) (nD l) (oy l)):=by
  rw[XN]
  unfold sB
  rw[show cL false (.au 1465) [.af (ag AV.int l)] (AH.ofList [.tab])=_ from Nh l]
 have s1:aj S0 cL (.cut 7) hZ (bM [.af (ag AV.int l),.ref 5] 7) (lA (bY l) (nD l) (oy l))=.nx (bM [.af (ag AV.int l),.af (bf l)] 7) (AH.ofList [.tab]):=by
  rw[kC (I:=jS oq) rfl (KK _ _ _) (KL _ _ _ _) rfl,KJ,(Plain.fl (qW l)).tr,NA]
  show SR.nx (bM [_,.af (ag _ (bf l))] 7) _=_
  rw[GL (sN l)]
 have s2:aj S0 cL (lR 2) hZ (bM [.af (ag AV.int l),.af (bf l)] 7) (AH.ofList [.tab])=.nx (bM [.af (ag AV.int l),.af (bf l),.ref 1,.ref 2] 5) (om (bj l) (bv l) (bw l)):=by
  rw[XO]
  unfold sB
  rw[show cL false (.au 1519) [.af (bf l)] (AH.ofList [.tab])=_ from NC (Gj l) (oJ l)]
  rfl
 have s3:aj S0 cL (.cut 8) hZ (bM [.af (ag AV.int l),.af (bf l),.ref 1,.ref 2] 5) (om (bj l) (bv l) (bw l))=.nx (bM [.af (ag AV.int l),.af (bf l),.af (bj l),.ref 1] 5) (lB (bv l) (bw l)):=by
  rw[kC (I:=i8) rfl (KN _ _ _) (KO _ _ _ _ _) rfl,KM,(Plain.fl (qW l)).tr,(Plain.fl (sN l)).tr,GL (wH l)]
 have e:aj S0 cL n9.body hZ (bM [.af (ag AV.int l)] 8) (AH.ofList [.tab])=aj S0 cL (.seq (lR 0) (.seq (.cut 7) (.seq (lR 2) (.seq (.cut 8) (aV 4 n9.body))))) hZ (bM [.af (ag AV.int l)] 8) (AH.ofList [.tab]):=rfl
 rw[e,hH s0,hH s1,hH s2,hH s3]
end Mine
namespace Mine
def ael(l:Zb Zw):AV:=eA (dM l)
theorem HU(t:Zc→Zw):eA t=ael (ag t (olds 0 14)):=by kernel_rfl
theorem GK{α β:Type}{f g:α→β}{l:Zb α}(h:∀a∈l,f a=g a):ag f l=ag g l:=by
 induction l with
 |nil=>rfl
 |cons a l ih=>
  show f a::ag f l=g a::ag g l
  rw[h a (.head _),ih λb m=>h b (.tail _ m)]
theorem ach{n:Zc}:∀{b i:Zc},i∈olds b n→i<b+n:=by
 induction n with
 |zero=>exactλh=>nomatch h
 |succ n ih=>
  intro b i h
  rcases List.mem_cons.mp (show i∈b::olds (b+1) n from h)with e|h
  ·omega
  ·have:=ih h;omega
theorem HV{t u:Zc→Zw}(h:∀i,i<14→t i=u i):eA t=eA u:=by
 rw[HU t,HU u,GK λi m=>h i (by have:=ach m;omega)]
theorem aeo{t u:Zc→Zc→Zw}(h:∀r i,i<14→t r i=u r i)(k:Zc):d7 t k=d7 u k:=GK λr _=>HV (h r)
def ny(r:SR):AH:=SR.rec (λ_ _=>⟨0,.nil⟩) (λ_ h=>h) (λ_ _=>⟨0,.nil⟩) ⟨0,.nil⟩ r
section
variable(c:Zh)(a b:Zw)(fl:Zb AV)(m:Zc)(kd:Zc→Zc)(xd:Zc→Zw)
def mF:St:=MS c (c6 a b) fl m kd xd (m-1)
def ES:SR:=iN (mF c a b fl m kd xd).n fl (Yd 4 (m-1)) (Yh 80 (Yd 16 (m-1))) (mF c a b fl m kd xd).v (dq kd xd) (ni (m-1)) (tE kd xd) c (m-1)
end
theorem ajo{s:St}{f d x:Zb AV}{r k t:Zc}(h1:s.fl=f)(h2:s.ds=d)(h3:s.xs=x)(h4:s.rd=r)(h5:s.tk=t)(h6:s.lk=k):s=⟨s.v,s.n,f,d,x,r,k,t⟩:=by
 subst h1 h2 h3 h4 h5 h6;rfl
theorem acl{r:SR}{v:AV}(h:jD r=some v):r=.rt v (ny r):=by
 cases r with
 |rt w hh=>rw[←Za (show some w=some v from h)];rfl
 |nx f hh=>exact nomatch h
 |ex f hh=>exact nomatch h
 |bad=>exact nomatch h
theorem Ix(k:Zc):∀fm h,(∃f x,gC k fm h=.nx f x)∨gC k fm h=.bad:=by
 induction k with
 |zero=>exactλ_ _=>.inr rfl
 |succ k ih=>
  intro fm h
  have e:gC (k+1) fm h=SR.rec (motive:=λ_=>SR) (λfm h=>Res.rec (motive:=λ_=>SR) (λv h=>aa (bK v) .bad λb=>ae b (aa (dZ fm.tn h) (gC k fm h) λ_=>.bad) (.nx fm h)) (λ_ _=>.bad) .bad (aC S0 cR false eQ fm h)) (λ_ _=>.bad) (λ_ _=>.bad) .bad (aj S0 cR fu cQ fm h):=rfl
  rw[e]
  cases aj S0 cR fu cQ fm h with
  |rt v x=>exact .inr rfl
  |ex v x=>exact .inr rfl
  |bad=>exact .inr rfl
  |nx f x=>
   show(∃g y,Res.rec (motive:=λ_=>SR) (λv h=>aa (bK v) .bad λb=>ae b (aa (dZ f.tn h) (gC k f h) λ_=>.bad) (.nx f h)) (λ_ _=>.bad) .bad (aC S0 cR false eQ f x)=.nx g y)∨Res.rec (motive:=λ_=>SR) (λv h=>aa (bK v) .bad λb=>ae b (aa (dZ f.tn h) (gC k f h) λ_=>.bad) (.nx f h)) (λ_ _=>.bad) .bad (aC S0 cR false eQ f x)=.bad
   cases aC S0 cR false eQ f x with
   |exc i y=>exact .inr rfl
   |bad=>exact .inr rfl
   |ok v y=>
    show(∃g z,aa (bK v) SR.bad (λb=>ae b (aa (dZ f.tn y) (gC k f y) λ_=>.bad) (.nx f y))=.nx g z)∨aa (bK v) SR.bad (λb=>ae b (aa (dZ f.tn y) (gC k f y) λ_=>.bad) (.nx f y))=.bad
    cases bK v with
    |none=>exact .inr rfl
    |some b=>
     cases b with
     |false=>exact .inl ⟨f,y,rfl⟩
     |true=>
      show(∃g z,aa (dZ f.tn y) (gC k f y) (λ_=>SR.bad)=.nx g z)∨aa (dZ f.tn y) (gC k f y) (λ_=>SR.bad)=.bad
      cases dZ f.tn y with
      |none=>exact ih f y
      |some J=>exact .inr rfl
theorem ae2{c:Zh}{a b:Zw}{fl:Zb AV}{m:Zc}{kd:Zc→Zc}{xd:Zc→Zw}(hf:∀a∈fl,Plain a)(hk:∀k,kd k<22)(hm:m∈[2,3,4,5,6])(v:Zc→Zh)(xs:Zb AV)(lk tk:Zc):
  e8 S0 51 false (.au 624) [.ref 14] (hB c ⟨v,c6 a b,fl,bq kd xd m,xs,0,lk,tk⟩)=.ok (.tup [.sy 49,ltV (d7 (tE kd xd) m)]) (ny (ES c a b fl m kd xd)):=by
 have h2:2≤m∧m≤6:=by
  simp only[Wv,Xv,Un]at hm
  omega
 obtain⟨K,hK,p⟩:=abi (c:=c) (n:=c6 a b) (xd:=xd) hf hk hm (v:=v) (xs:=xs) (lk:=lk) (tk:=tk) (m-1) (by omega)
 have k:=wc c (c6 a b) fl m kd xd (m-1)
 have told:∀r i,i<14→tM c (c6 a b) fl m kd xd r i=tE kd xd r i:=λr i hi=>ajO c a b fl m kd xd r hi
 have e:MS c (c6 a b) fl m kd xd (m-1)=⟨(mF c a b fl m kd xd).v,(mF c a b fl m kd xd).n,fl,pre (dq kd xd) m,d7 (tE kd xd) (m-1),m-1,Yd 4 (m-1),Yh 80 (Yd 16 (m-1))⟩:=
  ajo k.yu k.on (k.yD.trans (aeo told _)) k.vD k.FE k.Fx
 have o:=aU (NI (mF c a b fl m kd xd).n fl (Yd 4 (m-1)) (Yh 80 (Yd 16 (m-1))) (mF c a b fl m kd xd).v (dq kd xd) (ni (m-1)) (tE kd xd) c) hm
 have hp:Vb m=m-1:=rfl
 rw[hp]at o
 have rw1:aD (d7 (tE kd xd) (m-1)) [eA λi=>(mF c a b fl m kd xd).n (Zn 60 i)]=d7 (tE kd xd) m:=by
  have z:eA (λi=>(mF c a b fl m kd xd).n (Zn 60 i))=eA (tE kd xd (m-1)):=HV λi hi=>told (m-1) i hi
  rw[z,←HW,Wh (show 1≤m by omega)]
 rw[rw1]at o
 have o:jD (ES c a b fl m kd xd)=some (.tup [.sy 49,ltV (d7 (tE kd xd) m)]):=o
 rw[e]at p
 have hs:Zk (m-1)=m:=Wh (show 1≤m by omega)
 have e2:ES c a b fl m kd xd=SR.rec (motive:=λ_=>SR) (λfm h=>aj S0 cR uc cQ fm h) .rt .ex .bad (gC 8 bX (iS c ⟨(mF c a b fl m kd xd).v,(mF c a b fl m kd xd).n,fl,pre (dq kd xd) m,d7 (tE kd xd) (m-1),m-1,Yd 4 (m-1),Yh 80 (Yd 16 (m-1))⟩ (ni (m-1)))):=by
  unfold ES iN
  rw[hs]
 have q:=acl o
 cases z:gC 8 bX (iS c ⟨(mF c a b fl m kd xd).v,(mF c a b fl m kd xd).n,fl,pre (dq kd xd) m,d7 (tE kd xd) (m-1),m-1,Yd 4 (m-1),Yh 80 (Yd 16 (m-1))⟩ (ni (m-1)))with
 |nx fm' h'=>
  rw[z]at e2
  have e2:ES c a b fl m kd xd=aj S0 cR uc cQ fm' h':=e2
  have r:=run_eq (c:=c) (v:=v) (m:=c6 a b) (fl:=fl) (ds:=bq kd xd m) (xs:=xs) (r:=0) (lk:=lk) (tk:=tk) (by omega) p z
  rw[r,←e2]
  exact(Ze gQ q).trans rfl
 |rt w h'=>exact(Ix 8 _ _).elim (λq=>q.elim λ_ q=>q.elim λ_ q=>nomatch z.symm.trans q) λq=>nomatch z.symm.trans q
 |ex w h'=>exact(Ix 8 _ _).elim (λq=>q.elim λ_ q=>q.elim λ_ q=>nomatch z.symm.trans q) λq=>nomatch z.symm.trans q
 |bad=>rw[e2,z]at o;exact nomatch o
end Mine
namespace Mine
def fR:CS:=jm (lR 4)
def dU(k:Zc):CS:=cS (aV k fR)
def bW:Ev:=⟨false,1,[.ref 2]⟩
noncomputable def jQ(ds rows:Zb AV)(c:Zh):Fm:=⟨[.any,.af ds,.af rows,.ref 1,.bool c,.any,.any,.any,.any],[],false⟩
def h9(fl:Zb AV)(a b:Zw):AH:=AH.ofList [.tab,.dict [(.sy 68,.int a),(.sy 276,.int b),(.sy 34,.any)],.list fl]
def bi(two:Zh):Zb AV:=.bool true::ae two [.bool false] []
def eV(ds rows:Zb AV)(c two:Zh)(a b:Zw):SR:=aj S0 cL (.seq (dU 1) (.seq (dU 2) (.seq (dU 3) .skip))) bW (jQ ds rows c) (h9 (bi two) a b)
def tx(r:SR):Zh:=SR.rec (λ_ _=>true) (λ_ _=>false) (λ_ _=>false) false r
def gN:aO:=jS FB
def rB:Zb (Zc×Zc):=gA gN.N gN.sel
noncomputable def mM(ds rows:AV)(c:Zh):Fm:=⟨[.any,ds,rows,.ref 1,.bool c,.ref 10,.ref 14,.any,.any],[],false⟩
noncomputable def Ao(d:AV):AO:=.dict [((.sy 287),d),((.sy 288),(.int (-1))),((.sy 276),(.ref 26))]
def oU(two:Zh)(a b:Zw)(ds:Zb AV):St:=⟨λ_=>false,c6 a b,bi two,ds,[],0,0,0⟩
def rz(ds rows:Zb AV)(c two:Zh)(a b:Zw):=(tx (eV ds rows c two a b),cC gN (fZ (eV ds rows c two a b)) gN.c,dC gN (fZ (eV ds rows c two a b)) (jV (eV ds rows c two a b)),cI gN (fZ (eV ds rows c two a b)) bW (jV (eV ds rows c two a b)))
def rA(ds rows:Zb AV)(c two:Zh)(a b:Zw):=(true,(hB c (oU two a b ds)).set 10 (Ao (bL gN (fZ (eV ds rows c two a b)) rB 7 (.af ds))),mM (bL gN (fZ (eV ds rows c two a b)) rB 7 (.af ds)) (bL gN (fZ (eV ds rows c two a b)) rB 7 (.af rows)) c,true)
theorem adA(ds rows:Zb AV)(a b:Zw):rz ds rows true true a b=rA ds rows true true a b:=by kernel_rfl
theorem adB(ds rows:Zb AV)(a b:Zw):rz ds rows true false a b=rA ds rows true false a b:=by kernel_rfl
theorem adC(ds rows:Zb AV)(a b:Zw):rz ds rows false true a b=rA ds rows false true a b:=by kernel_rfl
theorem ahp(c two:Zh)(a b:Zw)(ds:Zb AV):(hB c (oU two a b ds)).set 10 (Ao (.af ds))=hB c (oU two a b ds):=by
 cases c<;>kernel_rfl
theorem YU(c two:Zh)(a b:Zw)(ds:Zb AV):eE gN (hB c (oU two a b ds)) 3=true:=by
 cases c<;>cases two<;>kernel_rfl
theorem F2{r:SR}(h:tx r=true):r=.nx (jV r) (fZ r):=by
 cases r with
 |nx f x=>rfl
 |rt v x=>exact nomatch h
 |ex v x=>exact nomatch h
 |bad=>exact nomatch h
theorem adx{ds rows:Zb AV}(hd:∀a∈ds,Plain a)(hr:∀a∈rows,Plain a){c two:Zh}{a b:Zw}(e:rz ds rows c two a b=rA ds rows c two a b):aj S0 cL (.cut 2) bW (jV (eV ds rows c two a b)) (fZ (eV ds rows c two a b))=.nx (mM (.af ds) (.af rows) c) (hB c (oU two a b ds))∧eV ds rows c two a b=.nx (jV (eV ds rows c two a b)) (fZ (eV ds rows c two a b)):=by
 have e1:=Ze (·.1) e
 have e2:=Ze (·.2.1) e
 have e3:=Ze (·.2.2.1) e
 have e4:=Ze (·.2.2.2) e
 have e1:tx (eV ds rows c two a b)=true:=e1
 have e2:cC gN (fZ (eV ds rows c two a b)) gN.c=(hB c (oU two a b ds)).set 10 (Ao (bL gN (fZ (eV ds rows c two a b)) rB 7 (.af ds))):=e2
 have e3:dC gN (fZ (eV ds rows c two a b)) (jV (eV ds rows c two a b))=mM (bL gN (fZ (eV ds rows c two a b)) rB 7 (.af ds)) (bL gN (fZ (eV ds rows c two a b)) rB 7 (.af rows)) c:=e3
 have e4:cI gN (fZ (eV ds rows c two a b)) bW (jV (eV ds rows c two a b))=true:=e4
 rw[(Plain.fl hd).tr,ahp]at e2
 rw[(Plain.fl hd).tr,(Plain.fl hr).tr]at e3
 refine⟨?_,F2 e1⟩
 rw[←e3]
 exact kC (I:=gN) rfl e2 e4 (YU c two a b ds)
end Mine
namespace Mine
noncomputable def aN(ds rows:AV)(c:Zh)(V:AV):Fm:=⟨[.any,ds,rows,.ref 1,.bool c,.ref 10,.ref 14,.sy 49,V],[],false⟩
theorem XR(X:bc)(d r:AV)(c:Zh)(v:Zc→Zh)(n:Zc→Zw)(fl ds xs:Zb AV)(bQ lk tk:Zc):aj S0 X (dU 5) bW (mM d r c) (hB c ⟨v,n,fl,ds,xs,bQ,lk,tk⟩)=sB (mM d r c) (λ_=>X false (.au 624) [.ref 14] (hB c ⟨v,n,fl,ds,xs,bQ,lk,tk⟩)) (hB c ⟨v,n,fl,ds,xs,bQ,lk,tk⟩) λu h=>sB (mM d r c) (eZ S0 X false (.tup [.loc 7,.loc 8]) u (mM d r c)) h λfm h=>.nx fm h:=by
 cases c<;>kernel_rfl
def bC(s:CS):CE:=match s with|.i t _ _=>t|_=>.con .none
theorem XQ(X:bc)(d r:AV)(c:Zh)(V:AV)(hV:isAny V=false)(hr:isAny r=false)(H:AH):aC S0 X false (bC (dU 6)) (aN d r c V) H=AM.bind (λ_=>X false (.au 1531) [V] H) (λx h=>AM.bind (gP (aN d r c V) 2) (λy h=>aa (eD S0 h .NotEq x y) .bad λb=>.ok (.bool b) h) h) H:=by
 have e:aC S0 X false (bC (dU 6)) (aN d r c V) H=AM.bind (AM.bind (AM.bind (gP (aN d r c V) 8) λv=>AM.bind (dI (aN d r c V)) λvs=>AM.pure (v::vs)) λvs=>pw vs (X false (.au 1531) vs)) (λx h=>AM.bind (gP (aN d r c V) 2) (λy h=>aa (eD S0 h .NotEq x y) .bad λb=>.ok (.bool b) h) h) H:=by kernel_rfl
 rw[e]
 have l:gP (aN d r c V) 8 H=.ok V H:=by
  show ae (isAny V) Res.bad (Res.ok V H)=_
  rw[hV];rfl
 unfold AM.bind
 rw[l]
 rfl
def ch(l:Zb Zh):Zh:=Zo true (λb _ ih=>Zp false ih b) l
def qH(t:Zc→Zw):Zh:=(λd=>ch [d 0,d 1,ch [d 2,d 3,d 4],ch [d 5,d 6,d 7,ch [d 8,d 9,d 10]],ch [d 11,d 12,d 13]]) λi=>decide (t i=t i)
theorem Lr(t:Zc→Zw):qH t=true:=by
 have e:(λi=>decide (t i=t i))=λ_=>true:=funext λi=>Y6 rfl
 unfold qH
 rw[e];rfl
def gL(t:Zc→Zc→Zw)(m:Zc):Zh:=ch (ag (λk=>qH (t k)) (olds 0 m))
theorem Ls(t:Zc→Zc→Zw)(m:Zc):gL t m=true:=by
 unfold gL
 have z:∀l:Zb Zc,ch (ag (λk=>qH (t k)) l)=true:=λl=>by
  induction l with
  |nil=>rfl
  |cons a l ih=>
   show Zp (motive:=λ_=>Zh) false (ch (ag (λk=>qH (t k)) l)) (qH (t a))=true
   rw[Lr,ih]
 exact z _
def gw(c two:Zh)(m:Zc)(n:Zc→Zw)(v:Zc→Zh)(d:Zc→AV)(t:Zc→Zc→Zw):Res AV:=e8 S0 51 false (.au 1531) [ltV (d7 t m)] (ny (iN n (bi two) (Yd 4 (m-1)) (Yh 80 (Yd 16 (m-1))) v d (ni (m-1)) t c (m-1)))
def gR(r:Res AV)(y:AV):Zd Zh:=Res.rec (λx h=>eD S0 h .NotEq x y) (λ_ _=>none) none r
section
variable(n:Zc→Zw)(v:Zc→Zh)(d:Zc→AV)(t:Zc→Zc→Zw)
theorem adr:gR (gw true true 2 n v d t) (.af (bJ t 2))=some (ay (gL t 2)):=by kernel_rfl
theorem ads:gR (gw true true 3 n v d t) (.af (bJ t 3))=some (ay (gL t 3)):=by kernel_rfl
theorem adt:gR (gw true true 4 n v d t) (.af (bJ t 4))=some (ay (gL t 4)):=by kernel_rfl
theorem adu:gR (gw true true 5 n v d t) (.af (bJ t 5))=some (ay (gL t 5)):=by kernel_rfl
theorem adv:gR (gw true true 6 n v d t) (.af (bJ t 6))=some (ay (gL t 6)):=by kernel_rfl
theorem adm:gR (gw true false 2 n v d t) (.af (bJ t 2))=some (ay (gL t 2)):=by kernel_rfl
theorem adn:gR (gw true false 3 n v d t) (.af (bJ t 3))=some (ay (gL t 3)):=by kernel_rfl
theorem ado:gR (gw true false 4 n v d t) (.af (bJ t 4))=some (ay (gL t 4)):=by kernel_rfl
theorem adp:gR (gw true false 5 n v d t) (.af (bJ t 5))=some (ay (gL t 5)):=by kernel_rfl
theorem adq:gR (gw true false 6 n v d t) (.af (bJ t 6))=some (ay (gL t 6)):=by kernel_rfl
theorem adh:gR (gw false true 2 n v d t) (.af (bJ t 2))=some (ay (gL t 2)):=by kernel_rfl
theorem adi:gR (gw false true 3 n v d t) (.af (bJ t 3))=some (ay (gL t 3)):=by kernel_rfl
theorem adj:gR (gw false true 4 n v d t) (.af (bJ t 4))=some (ay (gL t 4)):=by kernel_rfl
theorem adk:gR (gw false true 5 n v d t) (.af (bJ t 5))=some (ay (gL t 5)):=by kernel_rfl
theorem adl:gR (gw false true 6 n v d t) (.af (bJ t 6))=some (ay (gL t 6)):=by kernel_rfl
end
end Mine
namespace Mine
theorem adg(n:Zc→Zw)(v:Zc→Zh)(d:Zc→AV)(t:Zc→Zc→Zw):ag (λ(q:Zh×Zh)=>ag (λm=>gR (gw q.1 q.2 m n v d t) (.af (bJ t m))) [2,3,4,5,6]) [(true,true),(true,false),(false,true)]=ag (λ(q:Zh×Zh)=>ag (λm=>some (ay (gL t m))) [2,3,4,5,6]) [(true,true),(true,false),(false,true)]:=by
 exact(ai (ai (adr n v d t) (ai (ads n v d t) (ai (adt n v d t) (ai (adu n v d t) (ai (adv n v d t) rfl))))) (ai (ai (adm n v d t) (ai (adn n v d t) (ai (ado n v d t) (ai (adp n v d t) (ai (adq n v d t) rfl))))) (ai (ai (adh n v d t) (ai (adi n v d t) (ai (adj n v d t) (ai (adk n v d t) (ai (adl n v d t) rfl))))) rfl)))
noncomputable def xZ:Zb (Zh×Zh):=[(true,true),(true,false),(false,true)]
def QS(two:Zh):∀a∈bi two,Plain a:=λa h=>by
 have b:∀x,Plain (.bool x):=λx=>⟨λ_=>rfl,λ_ _ _ _=>o4 (λ_=>rfl) _⟩
 cases two with
 |true=>exact(List.mem_cons.mp h).elim (λe=>e▸b _) λh=>(List.mem_singleton.mp h)▸b _
 |false=>exact(List.mem_singleton.mp h)▸b _
section
variable(c two:Zh)(a b:Zw)(m:Zc)(kd:Zc→Zc)(xd:Zc→Zw)
def Ba:Res AV:=gw c two m (mF c a b (bi two) m kd xd).n (mF c a b (bi two) m kd xd).v (dq kd xd) (tE kd xd)
def HP:AH:=lO (Ba c two a b m kd xd)
def cP:AV:=ltV (d7 (tE kd xd) m)
end
theorem adf{r:Res AV}{y:AV}{b:Zh}(h:gR r y=some b):∃x,r=.ok x (lO r)∧eD S0 (lO r) .NotEq x y=some b:=by
 cases r with
 |ok x hh=>exact⟨x,rfl,h⟩
 |exc i hh=>exact nomatch h
 |bad=>exact nomatch h
theorem XU{c two:Zh}{a b:Zw}{m:Zc}{kd:Zc→Zc}{xd:Zc→Zw}(hk:∀k,kd k<22)(hm:m∈[2,3,4,5,6])(hc:(c,two)∈xZ)(rest:CS):
  aj S0 cL (.seq (dU 5) (.seq (dU 6) rest)) bW (mM (.af (bq kd xd m)) (.af (bJ (tE kd xd) m)) c) (hB c (oU two a b (bq kd xd m)))=aj S0 cL rest bW (aN (.af (bq kd xd m)) (.af (bJ (tE kd xd) m)) c (cP m kd xd)) (HP c two a b m kd xd):=by
 have s5:aj S0 cL (dU 5) bW (mM (.af (bq kd xd m)) (.af (bJ (tE kd xd) m)) c) (hB c (oU two a b (bq kd xd m)))=.nx (aN (.af (bq kd xd m)) (.af (bJ (tE kd xd) m)) c (cP m kd xd)) (ny (ES c a b (bi two) m kd xd)):=by
  have e:=XR cL (.af (bq kd xd m)) (.af (bJ (tE kd xd) m)) c (λ_=>false) (c6 a b) (bi two) (bq kd xd m) [] 0 0 0
  refine e.trans ?_
  have r:=ae2 (c:=c) (a:=a) (b:=b) (xd:=xd) (QS two) hk hm (λ_=>false) [] 0 0
  generalize ny (ES c a b (bi two) m kd xd)=H3 at r
  unfold sB
  rw[show cL false (.au 624) [.ref 14] (hB c ⟨λ_=>false,c6 a b,bi two,bq kd xd m,[],0,0,0⟩)=_ from r]
  rfl
 have z:=aU (aU (adg (mF c a b (bi two) m kd xd).n (mF c a b (bi two) m kd xd).v (dq kd xd) (tE kd xd)) hc) hm
 rw[Ls]at z
 have z:gR (Ba c two a b m kd xd) (.af (bJ (tE kd xd) m))=some false:=z
 obtain⟨x,e1,e2⟩:=adf z
 have call:cL false (.au 1531) [cP m kd xd] (ny (ES c a b (bi two) m kd xd))=.ok x (HP c two a b m kd xd):=e1
 have t6:aC S0 cL false (bC (dU 6)) (aN (.af (bq kd xd m)) (.af (bJ (tE kd xd) m)) c (cP m kd xd)) (ny (ES c a b (bi two) m kd xd))=.ok (.bool false) (HP c two a b m kd xd):=by
  rw[XQ cL _ _ c (cP m kd xd) rfl rfl]
  unfold AM.bind
  rw[call]
  have e2:eD S0 (HP c two a b m kd xd) .NotEq x (.af (bJ (tE kd xd) m))=some false:=e2
  show aa (eD S0 (HP c two a b m kd xd) .NotEq x (.af (bJ (tE kd xd) m))) Res.bad (λw=>Res.ok (AV.bool w) (HP c two a b m kd xd))=_
  rw[e2];rfl
 have s6:aj S0 cL (dU 6) bW (aN (.af (bq kd xd m)) (.af (bJ (tE kd xd) m)) c (cP m kd xd)) (ny (ES c a b (bi two) m kd xd))=.nx (aN (.af (bq kd xd m)) (.af (bJ (tE kd xd) m)) c (cP m kd xd)) (HP c two a b m kd xd):=by
  generalize ny (ES c a b (bi two) m kd xd)=H3 at t6
  generalize HP c two a b m kd xd=H4 at t6
  have e:aj S0 cL (dU 6) bW (aN (.af (bq kd xd m)) (.af (bJ (tE kd xd) m)) c (cP m kd xd)) H3=sB (aN (.af (bq kd xd m)) (.af (bJ (tE kd xd) m)) c (cP m kd xd)) (aC S0 cL false (bC (dU 6)) (aN (.af (bq kd xd m)) (.af (bJ (tE kd xd) m)) c (cP m kd xd))) H3 (λv h=>aa (bK v) .bad λb=>Zp (motive:=λ_=>SR) (.nx (aN (.af (bq kd xd m)) (.af (bJ (tE kd xd) m)) c (cP m kd xd)) h) (aj S0 cL (.seq (.ret (.con (.bool false))) .skip) bW (aN (.af (bq kd xd m)) (.af (bJ (tE kd xd) m)) c (cP m kd xd)) h) b):=rfl
  rw[e]
  unfold sB
  rw[t6]
  rfl
 rw[hH s5,hH s6]
end Mine
namespace Mine
def wY(s:CS):CS:=match s with|.i _ a _=>a|s=>s
def I1:CS:=cS (wY (dU 7))
def I2:CS:=cS (f8 (wY (dU 7)))
def lW(two:Zh)(m:Zc)(n:Zc→Zw)(v:Zc→Zh)(d:Zc→AV)(t:Zc→Zc→Zw):AH:=lO (gw true two m n v d t)
def pA(n:Zc→Zw):Zb Zw:=ag (λi=>n (Zn 30 i)) [0,1,2,3,5,6,8,9,11,12]
def pB(n:Zc→Zw):Zb Zw:=ag (λi=>n (Zn 30 i)) [4,7,10,13]
def iU(l:Zb Zw):AO:=.list (ag .int l)
def wg(X:bc)(l:Zb Zw)(e:CE)(fm:Fm)(H:AH):Res AV:=AM.bind (λ_=>X false (.bl .sum) [.ref H.size] (H.push (iU l))) (λu h=>AM.bind (aC S0 X false e fm) (λy h=>aa (eD S0 h .NotEq u y) .bad λb=>.ok (.bool b) h) h) H
def eP(e:CE):CE:=match e with|.p _ _ b=>b|e=>e
def aE(e:CE):CE:=match e with|.dJ _ a _=>a|e=>e
def jk(e:CE):CE:=match e with|.dJ _ _ (b::_)=>b|e=>e
section
variable(X:bc)(ds:Zb AV)(rows V:AV)(n:Zc→Zw)(v:Zc→Zh)(d:Zc→AV)(t:Zc→Zc→Zw)
def ka(two:Zh)(m:Zc):=(aC S0 X false (bC I1) (aN (.af ds) rows true V) (lW two m n v d t),((lW two m n v d t).push (iU (pA n))).get (lW two m n v d t).size)
def kh(two:Zh)(m:Zc):=(wg X (pA n) (eP (bC I1)) (aN (.af ds) rows true V) (lW two m n v d t),some (iU (pA n)))
def dB(two:Zh)(m:Zc):AH:=(lW two m n v d t).push (iU (pA n))
def kg(two:Zh)(m:Zc):=(aC S0 X false (aE (bC I2)) (aN (.af ds) rows true V) (dB n v d t two m),((dB n v d t two m).push (iU (pB n))).get (dB n v d t two m).size)
def kj(two:Zh)(m:Zc):=(wg X (pB n) (eP (aE (bC I2))) (aN (.af ds) rows true V) (dB n v d t two m),some (iU (pB n)))
def be(two:Zh)(m:Zc):AH:=(dB n v d t two m).push (iU (pB n))
theorem afu:ka X ds rows V n v d t true 2=kh X ds rows V n v d t true 2:=by kernel_rfl
theorem afK:kg X ds rows V n v d t true 2=kj X ds rows V n v d t true 2:=by kernel_rfl
theorem agB:(aC S0 cL false (eP (bC I1)) (aN (.af ds) rows true V) (dB n v d t true 2),aC S0 cL false (eP (aE (bC I2))) (aN (.af ds) rows true V) (be n v d t true 2))=(.ok (.int (n 50)) (dB n v d t true 2),.ok (.int (n 51)) (be n v d t true 2)):=by kernel_rfl
theorem afW:aC S0 cL false (jk (bC I2)) (aN (.af (pre d 2)) rows true V) (be n v d t true 2)=.ok (.bool false) (be n v d t true 2):=by kernel_rfl
theorem afv:ka X ds rows V n v d t true 3=kh X ds rows V n v d t true 3:=by kernel_rfl
theorem afL:kg X ds rows V n v d t true 3=kj X ds rows V n v d t true 3:=by kernel_rfl
theorem agC:(aC S0 cL false (eP (bC I1)) (aN (.af ds) rows true V) (dB n v d t true 3),aC S0 cL false (eP (aE (bC I2))) (aN (.af ds) rows true V) (be n v d t true 3))=(.ok (.int (n 50)) (dB n v d t true 3),.ok (.int (n 51)) (be n v d t true 3)):=by kernel_rfl
theorem afX:aC S0 cL false (jk (bC I2)) (aN (.af (pre d 3)) rows true V) (be n v d t true 3)=.ok (.bool false) (be n v d t true 3):=by kernel_rfl
theorem afw:ka X ds rows V n v d t true 4=kh X ds rows V n v d t true 4:=by kernel_rfl
theorem afM:kg X ds rows V n v d t true 4=kj X ds rows V n v d t true 4:=by kernel_rfl
theorem agD:(aC S0 cL false (eP (bC I1)) (aN (.af ds) rows true V) (dB n v d t true 4),aC S0 cL false (eP (aE (bC I2))) (aN (.af ds) rows true V) (be n v d t true 4))=(.ok (.int (n 50)) (dB n v d t true 4),.ok (.int (n 51)) (be n v d t true 4)):=by kernel_rfl
theorem afY:aC S0 cL false (jk (bC I2)) (aN (.af (pre d 4)) rows true V) (be n v d t true 4)=.ok (.bool false) (be n v d t true 4):=by kernel_rfl
theorem afx:ka X ds rows V n v d t true 5=kh X ds rows V n v d t true 5:=by kernel_rfl
theorem afN:kg X ds rows V n v d t true 5=kj X ds rows V n v d t true 5:=by kernel_rfl
theorem agE:(aC S0 cL false (eP (bC I1)) (aN (.af ds) rows true V) (dB n v d t true 5),aC S0 cL false (eP (aE (bC I2))) (aN (.af ds) rows true V) (be n v d t true 5))=(.ok (.int (n 50)) (dB n v d t true 5),.ok (.int (n 51)) (be n v d t true 5)):=by kernel_rfl
theorem afZ:aC S0 cL false (jk (bC I2)) (aN (.af (pre d 5)) rows true V) (be n v d t true 5)=.ok (.bool false) (be n v d t true 5):=by kernel_rfl
theorem afy:ka X ds rows V n v d t true 6=kh X ds rows V n v d t true 6:=by kernel_rfl
theorem afO:kg X ds rows V n v d t true 6=kj X ds rows V n v d t true 6:=by kernel_rfl
theorem agF:(aC S0 cL false (eP (bC I1)) (aN (.af ds) rows true V) (dB n v d t true 6),aC S0 cL false (eP (aE (bC I2))) (aN (.af ds) rows true V) (be n v d t true 6))=(.ok (.int (n 50)) (dB n v d t true 6),.ok (.int (n 51)) (be n v d t true 6)):=by kernel_rfl
theorem af0:aC S0 cL false (jk (bC I2)) (aN (.af (pre d 6)) rows true V) (be n v d t true 6)=.ok (.bool false) (be n v d t true 6):=by kernel_rfl
theorem afp:ka X ds rows V n v d t false 2=kh X ds rows V n v d t false 2:=by kernel_rfl
theorem afF:kg X ds rows V n v d t false 2=kj X ds rows V n v d t false 2:=by kernel_rfl
theorem agt:(aC S0 cL false (eP (bC I1)) (aN (.af ds) rows true V) (dB n v d t false 2),aC S0 cL false (eP (aE (bC I2))) (aN (.af ds) rows true V) (be n v d t false 2))=(.ok (.int (n 50)) (dB n v d t false 2),.ok (.int (n 51)) (be n v d t false 2)):=by kernel_rfl
theorem afR:aC S0 cL false (jk (bC I2)) (aN (.af (pre d 2)) rows true V) (be n v d t false 2)=.ok (.bool false) (be n v d t false 2):=by kernel_rfl
theorem afq:ka X ds rows V n v d t false 3=kh X ds rows V n v d t false 3:=by kernel_rfl
theorem afG:kg X ds rows V n v d t false 3=kj X ds rows V n v d t false 3:=by kernel_rfl
theorem agu:(aC S0 cL false (eP (bC I1)) (aN (.af ds) rows true V) (dB n v d t false 3),aC S0 cL false (eP (aE (bC I2))) (aN (.af ds) rows true V) (be n v d t false 3))=(.ok (.int (n 50)) (dB n v d t false 3),.ok (.int (n 51)) (be n v d t false 3)):=by kernel_rfl
theorem afS:aC S0 cL false (jk (bC I2)) (aN (.af (pre d 3)) rows true V) (be n v d t false 3)=.ok (.bool false) (be n v d t false 3):=by kernel_rfl
theorem afr:ka X ds rows V n v d t false 4=kh X ds rows V n v d t false 4:=by kernel_rfl
theorem afH:kg X ds rows V n v d t false 4=kj X ds rows V n v d t false 4:=by kernel_rfl
theorem agv:(aC S0 cL false (eP (bC I1)) (aN (.af ds) rows true V) (dB n v d t false 4),aC S0 cL false (eP (aE (bC I2))) (aN (.af ds) rows true V) (be n v d t false 4))=(.ok (.int (n 50)) (dB n v d t false 4),.ok (.int (n 51)) (be n v d t false 4)):=by kernel_rfl
theorem afT:aC S0 cL false (jk (bC I2)) (aN (.af (pre d 4)) rows true V) (be n v d t false 4)=.ok (.bool false) (be n v d t false 4):=by kernel_rfl
theorem afs:ka X ds rows V n v d t false 5=kh X ds rows V n v d t false 5:=by kernel_rfl
theorem afI:kg X ds rows V n v d t false 5=kj X ds rows V n v d t false 5:=by kernel_rfl
theorem agw:(aC S0 cL false (eP (bC I1)) (aN (.af ds) rows true V) (dB n v d t false 5),aC S0 cL false (eP (aE (bC I2))) (aN (.af ds) rows true V) (be n v d t false 5))=(.ok (.int (n 50)) (dB n v d t false 5),.ok (.int (n 51)) (be n v d t false 5)):=by kernel_rfl
theorem afU:aC S0 cL false (jk (bC I2)) (aN (.af (pre d 5)) rows true V) (be n v d t false 5)=.ok (.bool false) (be n v d t false 5):=by kernel_rfl
theorem aft:ka X ds rows V n v d t false 6=kh X ds rows V n v d t false 6:=by kernel_rfl
theorem afJ:kg X ds rows V n v d t false 6=kj X ds rows V n v d t false 6:=by kernel_rfl
theorem agx:(aC S0 cL false (eP (bC I1)) (aN (.af ds) rows true V) (dB n v d t false 6),aC S0 cL false (eP (aE (bC I2))) (aN (.af ds) rows true V) (be n v d t false 6))=(.ok (.int (n 50)) (dB n v d t false 6),.ok (.int (n 51)) (be n v d t false 6)):=by kernel_rfl
theorem afV:aC S0 cL false (jk (bC I2)) (aN (.af (pre d 6)) rows true V) (be n v d t false 6)=.ok (.bool false) (be n v d t false 6):=by kernel_rfl
end
end Mine
namespace Mine
theorem Ga{t:CE}{a:CS}{ev:Ev}{fm:Fm}{h h':AH}(e:aC S0 cL ev.hd t fm h=.ok (.bool false) h'):aj S0 cL (.i t a .skip) ev fm h=.nx fm h':=by
 show sB fm (aC S0 cL ev.hd t fm) h (λv h=>aa (bK v) .bad λb=>Zp (motive:=λ_=>SR) (.nx fm h) (aj S0 cL a ev fm h) b)=_
 unfold sB
 rw[e]
 rfl
theorem ne_int(h:AH)(x:Zw):eD S0 h .NotEq (.int x) (.int x)=some false:=by
 have e:eD S0 h .NotEq (.int x) (.int x)=some (ay (decide (x=x))):=by kernel_rfl
 rw[e,Y6 rfl];rfl
def sumZ(l:Zb Zw):Zw:=Zo 0 (λx _ ih=>x+ih) l
theorem ajw(l:Zb Zw):rJ (ag .int l)=some (sumZ l):=by
 induction l with
 |nil=>rfl
 |cons a l ih=>
  show aq (rJ (ag .int l)) (λn=>some (a+n))=_
  rw[ih];rfl
theorem aid{l:Zb Zw}(h:∀x∈l,x.natAbs≤1000000):aM oZ (ag .int l)=true:=by
 induction l with
 |nil=>rfl
 |cons a l ih=>
  show Zp (motive:=λ_=>Zh) false (aM oZ (ag .int l)) (Zl a.natAbs 1000000)=true
  rw[ih λx m=>h x (.tail _ m),iM (h a (.head _))]
theorem ajz{k:Zc}{h:AH}{l:Zb Zw}(g:h.get k=some (iU l))(n:Zl (aJ (ag AV.int l)) ez=true)(s:∀x∈l,x.natAbs≤1000000):cL false (.bl .sum) [.ref k] h=.ok (.int (sumZ l)) h:=by
 show aa (aq (jv S0 h (.ref k)) λxs=>aq (rJ xs) λn=>ae (ak (Zl (aJ xs) ez) (aM oZ xs)) (some (AV.int n)) none) Res.bad (λv=>Res.ok v h)=_
 have e:jv S0 h (.ref k)=some (ag .int l):=by
  show dS (aq (h.get k) jg) _=_
  rw[g];rfl
 rw[e]
 show aa (aq (rJ (ag .int l)) λn=>ae (ak (Zl (aJ (ag AV.int l)) ez) (aM oZ (ag .int l))) (some (AV.int n)) none) Res.bad (λv=>Res.ok v h)=_
 rw[ajw,n,aid s];rfl
theorem Kp(X:bc)(ds:Zb AV)(rows V:AV)(H:AH):aj S0 X (dU 7) bW (aN (.af ds) rows true V) H=aj S0 X (.seq I1 (.seq I2 .skip)) bW (aN (.af ds) rows true V) H:=by kernel_rfl
theorem G1{l:Zb Zw}{e:CE}{fm:Fm}{H:AH}{x:Zw}(g:(H.push (iU l)).get H.size=some (iU l))(n:Zl (aJ (ag AV.int l)) ez=true)(s:∀x∈l,x.natAbs≤1000000)(i:aC S0 cL false e fm (H.push (iU l))=.ok (.int x) (H.push (iU l)))(q:sumZ l=x):wg cL l e fm H=.ok (.bool false) (H.push (iU l)):=by
 unfold wg AM.bind
 rw[ajz g n s]
 generalize H.push (iU l)=H' at i
 show Res.rec (motive:=λ_=>Res AV) (λy h=>aa (eD S0 h .NotEq (.int (sumZ l)) y) .bad λb=>.ok (.bool b) h) (λe h=>.exc e h) .bad (aC S0 cL false e fm H')=_
 rw[i]
 show aa (eD S0 H' .NotEq (.int (sumZ l)) (.int x)) Res.bad (λb=>Res.ok (AV.bool b) H')=_
 rw[q,ne_int];rfl
theorem afn(X:bc)(ds:Zb AV)(rows V:AV)(n:Zc→Zw)(v:Zc→Zh)(d:Zc→AV)(t:Zc→Zc→Zw):ag (λtwo=>ag (λm=>ka X ds rows V n v d t two m) [2,3,4,5,6]) [true,false]=ag (λtwo=>ag (λm=>kh X ds rows V n v d t two m) [2,3,4,5,6]) [true,false]:=by
 exact(ai (ai (afu X ds rows V n v d t) (ai (afv X ds rows V n v d t) (ai (afw X ds rows V n v d t) (ai (afx X ds rows V n v d t) (ai (afy X ds rows V n v d t) rfl))))) (ai (ai (afp X ds rows V n v d t) (ai (afq X ds rows V n v d t) (ai (afr X ds rows V n v d t) (ai (afs X ds rows V n v d t) (ai (aft X ds rows V n v d t) rfl))))) rfl))
theorem afE(X:bc)(ds:Zb AV)(rows V:AV)(n:Zc→Zw)(v:Zc→Zh)(d:Zc→AV)(t:Zc→Zc→Zw):ag (λtwo=>ag (λm=>kg X ds rows V n v d t two m) [2,3,4,5,6]) [true,false]=ag (λtwo=>ag (λm=>kj X ds rows V n v d t two m) [2,3,4,5,6]) [true,false]:=by
 exact(ai (ai (afK X ds rows V n v d t) (ai (afL X ds rows V n v d t) (ai (afM X ds rows V n v d t) (ai (afN X ds rows V n v d t) (ai (afO X ds rows V n v d t) rfl))))) (ai (ai (afF X ds rows V n v d t) (ai (afG X ds rows V n v d t) (ai (afH X ds rows V n v d t) (ai (afI X ds rows V n v d t) (ai (afJ X ds rows V n v d t) rfl))))) rfl))
theorem agk(ds:Zb AV)(rows V:AV)(n:Zc→Zw)(v:Zc→Zh)(d:Zc→AV)(t:Zc→Zc→Zw):ag (λtwo=>ag (λm=>(aC S0 cL false (eP (bC I1)) (aN (.af ds) rows true V) (dB n v d t two m),aC S0 cL false (eP (aE (bC I2))) (aN (.af ds) rows true V) (be n v d t two m))) [2,3,4,5,6]) [true,false]=ag (λtwo=>ag (λm=>(Res.ok (.int (n 50)) (dB n v d t two m),Res.ok (.int (n 51)) (be n v d t two m))) [2,3,4,5,6]) [true,false]:=by
 exact(ai (ai (agB ds rows V n v d t) (ai (agC ds rows V n v d t) (ai (agD ds rows V n v d t) (ai (agE ds rows V n v d t) (ai (agF ds rows V n v d t) rfl))))) (ai (ai (agt ds rows V n v d t) (ai (agu ds rows V n v d t) (ai (agv ds rows V n v d t) (ai (agw ds rows V n v d t) (ai (agx ds rows V n v d t) rfl))))) rfl))
theorem afQ(rows V:AV)(n:Zc→Zw)(v:Zc→Zh)(d:Zc→AV)(t:Zc→Zc→Zw):ag (λtwo=>ag (λm=>aC S0 cL false (jk (bC I2)) (aN (.af (pre d m)) rows true V) (be n v d t two m)) [2,3,4,5,6]) [true,false]=ag (λtwo=>ag (λm=>.ok (.bool false) (be n v d t two m)) [2,3,4,5,6]) [true,false]:=by
 exact(ai (ai (afW rows V n v d t) (ai (afX rows V n v d t) (ai (afY rows V n v d t) (ai (afZ rows V n v d t) (ai (af0 rows V n v d t) rfl))))) (ai (ai (afR rows V n v d t) (ai (afS rows V n v d t) (ai (afT rows V n v d t) (ai (afU rows V n v d t) (ai (afV rows V n v d t) rfl))))) rfl))
theorem ur(two:Zh):two∈[true,false]:=by cases two<;>simp
theorem Kq{two:Zh}{m:Zc}(hm:m∈[2,3,4,5,6])(rows V:AV)(n:Zc→Zw)(v:Zc→Zh)(d:Zc→AV)(t:Zc→Zc→Zw)(s1:∀x∈pA n,x.natAbs≤1000000)(s2:∀x∈pB n,x.natAbs≤1000000)(q1:sumZ (pA n)=n 50)(q2:sumZ (pB n)=n 51):
  aj S0 cL (dU 7) bW (aN (.af (pre d m)) rows true V) (lW two m n v d t)=.nx (aN (.af (pre d m)) rows true V) (be n v d t two m):=by
 have a:=aU (aU (afn cL (pre d m) rows V n v d t) (ur two)) hm
 have b:=aU (aU (afE cL (pre d m) rows V n v d t) (ur two)) hm
 have e:=aU (aU (agk (pre d m) rows V n v d t) (ur two)) hm
 have f:=aU (aU (afQ rows V n v d t) (ur two)) hm
 have a1:=Ze Xq a
 have a2:=Ze Vp a
 have b1:=Ze Xq b
 have b2:=Ze Vp b
 have e1:=Ze Xq e
 have e2:=Ze Vp e
 have t1:aC S0 cL false (bC I1) (aN (.af (pre d m)) rows true V) (lW two m n v d t)=.ok (.bool false) (dB n v d t two m):=Vd a1 (G1 a2 rfl s1 e1 q1)
 have t2:aC S0 cL false (aE (bC I2)) (aN (.af (pre d m)) rows true V) (dB n v d t two m)=.ok (.bool false) (be n v d t two m):=Vd b1 (G1 b2 rfl s2 e2 q2)
 have f:aC S0 cL false (jk (bC I2)) (aN (.af (pre d m)) rows true V) (be n v d t two m)=.ok (.bool false) (be n v d t two m):=f
 rw[Kp]
 generalize lW two m n v d t=H1 at t1
 generalize dB n v d t two m=H2 at t1 t2
 generalize be n v d t two m=H3 at t2 f
 have t3:aC S0 cL false (bC I2) (aN (.af (pre d m)) rows true V) H2=.ok (.bool false) H3:=by
  have z:aC S0 cL false (bC I2) (aN (.af (pre d m)) rows true V) H2=AM.bind (aC S0 cL false (aE (bC I2)) (aN (.af (pre d m)) rows true V)) (λv=>oK (bK v) λb=>Zp (aC S0 cL false (jk (bC I2)) (aN (.af (pre d m)) rows true V)) (AM.pure v) (eqB b true)) H2:=rfl
  rw[z]
  unfold AM.bind
  rw[t2]
  exact f
 have x1:aj S0 cL I1 bW (aN (.af (pre d m)) rows true V) H1=.nx (aN (.af (pre d m)) rows true V) H2:=Ga (t:=bC I1) (a:=wY I1) t1
 have x2:aj S0 cL I2 bW (aN (.af (pre d m)) rows true V) H2=.nx (aN (.af (pre d m)) rows true V) H3:=Ga (t:=bC I2) (a:=wY I2) t3
 rw[hH x1,hH x2]
 rfl
end Mine
namespace Mine
def Au:CE:=wU (lR 4)
theorem aji(sc:Zb AV)(ds rows:AV)(a b:Zw):aC S0 cL false Au (bM [.af sc,ds,rows,.ref 1] 5) (lB a b)=(Zp (motive:=λ_=>AM AV) (λh=>.ok (.ref h.size) (h.push (.list [.bool true]))) (λh=>.ok (.ref h.size) (h.push (.list [.bool true,.bool false]))) (decide ((1:Zw)<((aJ sc:Zc):Zw)))) (lB a b):=by kernel_rfl
theorem ajj(two:Zh)(a b:Zw):(Zp (motive:=λ_=>AM AV) (λh=>.ok (.ref h.size) (h.push (.list [.bool true]))) (λh=>.ok (.ref h.size) (h.push (.list [.bool true,.bool false]))) two) (lB a b)=.ok (.ref 2) (h9 (bi two) a b):=by
 cases two<;>kernel_rfl
def i9:aO:=jS FC
def yh(d r:AV)(c:Zh):Fm:=⟨[.any,d,r,.ref 1,.bool c,.any,.any,.any,.any],[],false⟩
theorem xQ(sc ds rows:Zb AV)(two:Zh)(a b:Zw):(dD S0 false (.ref 2) 0 (h9 (bi two) a b),cC i9 (h9 (bi two) a b) i9.c,cI i9 (h9 (bi two) a b) bW (bM [.af sc,.af ds,.af rows,.ref 1,.bool true] 4),dC i9 (h9 (bi two) a b) (bM [.af sc,.af ds,.af rows,.ref 1,.bool true] 4),eE i9 (h9 (bi two) a b) 3)=(.ok (some (.bool true)) (h9 (bi two) a b),h9 (bi two) a b,true,yh (bL i9 (h9 (bi two) a b) [] 7 (.af ds)) (bL i9 (h9 (bi two) a b) [] 7 (.af rows)) true,true):=by
 cases two<;>kernel_rfl
section
variable(ds rows:Zb AV)(V:AV)(n:Zc→Zw)(v:Zc→Zh)(d:Zc→AV)(t:Zc→Zc→Zw)
def NB(two:Zh)(m:Zc):=(dD S0 false (.ref 2) 1 (be n v d t two m),(be n v d t two m).get 0)
def NR(two:Zh)(m:Zc):Res (Zd AV)×Zd AO:=(.ok (ae two (some (.bool false)) none) (be n v d t two m),some .tab)
noncomputable def sZ:Fm:=⟨[.any,.af ds,.af rows,.ref 1,.bool false,.ref 10,.ref 14,.sy 49,V],[],false⟩
def CB(m:Zc):=(cC i9 (be n v d t true m) i9.c,cI i9 (be n v d t true m) bW (sZ ds rows V),dC i9 (be n v d t true m) (sZ ds rows V))
def CR(m:Zc):=(h9 (bi true) (n 50) (n 51),true,yh (bL i9 (be n v d t true m) [] 7 (.af ds)) (bL i9 (be n v d t true m) [] 7 (.af rows)) false)
def Jz(m:Zc):AH:=lO (gw false true m n v d t)
def nH(m:Zc):SR:=aj S0 cL (dU 7) bW (aN (.af ds) (.af rows) false V) (Jz n v d t m)
def EB(m:Zc):=(tx (nH ds rows V n v d t m),jV (nH ds rows V n v d t m),dD S0 false (.ref 2) 2 (fZ (nH ds rows V n v d t m)),(fZ (nH ds rows V n v d t m)).get 0)
def ER(m:Zc):=(true,aN (.af ds) (.af rows) false V,Res.ok (none:Zd AV) (fZ (nH ds rows V n v d t m)),some AO.tab)
theorem abE:NB n v d t true 2=NR n v d t true 2:=by kernel_rfl
theorem abz:NB n v d t false 2=NR n v d t false 2:=by kernel_rfl
theorem Lj:CB ds rows V n v d t 2=CR ds rows n v d t 2:=by kernel_rfl
theorem ND:EB ds rows V n v d t 2=ER ds rows V n v d t 2:=by kernel_rfl
theorem abF:NB n v d t true 3=NR n v d t true 3:=by kernel_rfl
theorem abA:NB n v d t false 3=NR n v d t false 3:=by kernel_rfl
theorem Lk:CB ds rows V n v d t 3=CR ds rows n v d t 3:=by kernel_rfl
theorem NE:EB ds rows V n v d t 3=ER ds rows V n v d t 3:=by kernel_rfl
theorem abG:NB n v d t true 4=NR n v d t true 4:=by kernel_rfl
theorem abB:NB n v d t false 4=NR n v d t false 4:=by kernel_rfl
theorem Ll:CB ds rows V n v d t 4=CR ds rows n v d t 4:=by kernel_rfl
theorem NF:EB ds rows V n v d t 4=ER ds rows V n v d t 4:=by kernel_rfl
theorem abH:NB n v d t true 5=NR n v d t true 5:=by kernel_rfl
theorem abC:NB n v d t false 5=NR n v d t false 5:=by kernel_rfl
theorem Lm:CB ds rows V n v d t 5=CR ds rows n v d t 5:=by kernel_rfl
theorem NG:EB ds rows V n v d t 5=ER ds rows V n v d t 5:=by kernel_rfl
theorem abI:NB n v d t true 6=NR n v d t true 6:=by kernel_rfl
theorem abD:NB n v d t false 6=NR n v d t false 6:=by kernel_rfl
theorem Ln:CB ds rows V n v d t 6=CR ds rows n v d t 6:=by kernel_rfl
theorem NH:EB ds rows V n v d t 6=ER ds rows V n v d t 6:=by kernel_rfl
theorem aby:ag (λtwo=>ag (λm=>NB n v d t two m) [2,3,4,5,6]) [true,false]=ag (λtwo=>ag (λm=>NR n v d t two m) [2,3,4,5,6]) [true,false]:=by
 exact(ai (ai (abE n v d t) (ai (abF n v d t) (ai (abG n v d t) (ai (abH n v d t) (ai (abI n v d t) rfl))))) (ai (ai (abz n v d t) (ai (abA n v d t) (ai (abB n v d t) (ai (abC n v d t) (ai (abD n v d t) rfl))))) rfl))
theorem Lp:ag (λm=>CB ds rows V n v d t m) [2,3,4,5,6]=ag (λm=>CR ds rows n v d t m) [2,3,4,5,6]:=by
 exact(ai (Lj ds rows V n v d t) (ai (Lk ds rows V n v d t) (ai (Ll ds rows V n v d t) (ai (Lm ds rows V n v d t) (ai (Ln ds rows V n v d t) rfl)))))
theorem En:ag (λm=>EB ds rows V n v d t m) [2,3,4,5,6]=ag (λm=>ER ds rows V n v d t m) [2,3,4,5,6]:=by
 exact(ai (ND ds rows V n v d t) (ai (NE ds rows V n v d t) (ai (NF ds rows V n v d t) (ai (NG ds rows V n v d t) (ai (NH ds rows V n v d t) rfl)))))
end
end Mine
namespace Mine
def Fl(n i:Zc)(fm:Fm)(h:AH):SR:=gp false (dD S0 false (.ref 2)) (eZ S0 cL false (.loc 4)) (aj S0 cL fR bW) n i fm h
theorem EU(n i:Zc)(fm:Fm)(h:AH):Fl (n+1) i fm h=sB fm (dD S0 false (.ref 2) i) h λo h=>aa o (.nx fm h) λv=>SR.rec (motive:=λ_=>SR) (λfm h=>Fl n (i+1) fm h) .rt .ex .bad (aj S0 cL fR bW (bG fm 4 v) h):=rfl
theorem EQ{n i:Zc}{fm:Fm}{h:AH}(e:dD S0 false (.ref 2) i h=.ok none h):Fl (n+1) i fm h=.nx fm h:=by
 rw[EU];unfold sB;rw[e];rfl
theorem ET{n i:Zc}{fm:Fm}{h:AH}{v:AV}(e:dD S0 false (.ref 2) i h=.ok (some v) h){fm':Fm}{H':AH}(c:aj S0 cL (.cut 9) bW (bG fm 4 v) h=.nx fm' H'):Fl (n+1) i fm h=SR.rec (motive:=λ_=>SR) (λfm h=>Fl n (i+1) fm h) .rt .ex .bad (aj S0 cL (aV 1 fR) bW fm' H'):=by
 rw[EU];unfold sB;rw[e]
 have z:aj S0 cL fR bW (bG fm 4 v) h=aj S0 cL (aV 1 fR) bW fm' H':=hH (a:=.cut 9) (b:=aV 1 fR) c
 show SR.rec (motive:=λ_=>SR) (λfm h=>Fl n (i+1) fm h) .rt .ex .bad (aj S0 cL fR bW (bG fm 4 v) h)=_
 rw[z]
theorem wb(c:Zh)(n:Zc→Zw)(fl:Zb AV)(m:Zc)(kd:Zc→Zc)(xd:Zc→Zw){j:Zc}(hj:j=50∨j=51)(r:Zc):(MS c n fl m kd xd r).n j=n j:=by
 induction r with
 |zero=>rcases hj with h|h<;>subst h<;>rfl
 |succ r ih=>
  refine Vd ?_ ih
  have z:∀(s:St)(k:Zc),k≤14→(bR c s k).n j=s.n j:=λs k=>by
   induction k with
   |zero=>exactλ_=>rfl
   |succ k ik=>
    intro hk
    refine Vd ?_ (ik (Wt hk))
    show de (de (bR c s k).n (30+k) _) (60+k) _ j=_
    rw[iz (by omega),iz (by omega)]
  show(bR c (dd (iH (MS c n fl m kd xd r) (Yh 64 (Yd 16 r))) (kd (Zk r)) (xd (Zk r))) 14).n j=_
  rw[z _ 14 (Yg _),sL (by omega)]
  rfl
theorem ajx{M h0 h1 h2 h3 h5 h6 h8 h9 tg ti:Zw}(q:M=h0+h1+h2+h3+h5+h6+h8+h9+tg+ti):h0+(h1+(h2+(h3+(h5+(h6+(h8+(h9+(tg+(ti+0)))))))))=M:=by omega
theorem ajy{M h0 h1 h2 h3:Zw}(q:M=h0+h1+h2+h3):h0+(h1+(h2+(h3+0)))=M:=by omega
theorem aho{c:bc}{a b d r:CS}{ev:Ev}{fm fm':Fm}{h h':AH}(e:aj S0 c (.seq a (.seq b (.seq d .skip))) ev fm h=.nx fm' h'):aj S0 c (.seq a (.seq b (.seq d r))) ev fm h=aj S0 c r ev fm' h':=Id (kd:=λ_=>0) (λ_=>by decide) e
section
variable(l:Zb Zw)
def adz(l:Zb Zw):Zb AV:=pre (dq (aZ l) a8) (mL l)
theorem Dn{c two:Zh}(hc:(c,two)∈xZ)(pre:rz (bf l) (bj l) c two (bv l) (bw l)=rA (bf l) (bj l) c two (bv l) (bw l)):aj S0 cL (aV 1 fR) bW (jQ (bf l) (bj l) c) (h9 (bi two) (bv l) (bw l))=aj S0 cL (aV 7 fR) bW (aN (.af (bf l)) (.af (bj l)) c (cP (mL l) (aZ l) a8)) (HP c two (bv l) (bw l) (mL l) (aZ l) a8):=by
 obtain⟨p1,p2⟩:=adx (sN l) (wH l) pre
 have e:aj S0 cL (aV 1 fR) bW (jQ (bf l) (bj l) c) (h9 (bi two) (bv l) (bw l))=aj S0 cL (.seq (dU 1) (.seq (dU 2) (.seq (dU 3) (.seq (.cut 2) (.seq (dU 5) (.seq (dU 6) (aV 7 fR))))))) bW (jQ (bf l) (bj l) c) (h9 (bi two) (bv l) (bw l)):=rfl
 rw[e,aho (show aj S0 cL (.seq (dU 1) (.seq (dU 2) (.seq (dU 3) .skip))) bW (jQ (bf l) (bj l) c) (h9 (bi two) (bv l) (bw l))=_ from p2),hH p1]
 exact XU (Gj l) (oJ l) hc (aV 7 fR)
def dR(l:Zb Zw)(c two:Zh):Zc→Zw:=(mF c (bv l) (bw l) (bi two) (mL l) (aZ l) a8).n
def kW(l:Zb Zw)(c two:Zh):Zc→Zh:=(mF c (bv l) (bw l) (bi two) (mL l) (aZ l) a8).v
theorem KB(two:Zh):aj S0 cL (aV 1 fR) bW (jQ (bf l) (bj l) true) (h9 (bi two) (bv l) (bw l))=.nx (aN (.af (bf l)) (.af (bj l)) true (cP (mL l) (aZ l) a8)) (be (dR l true two) (kW l true two) (dq (aZ l) a8) (tE (aZ l) a8) two (mL l)):=by
 have hc:(true,two)∈xZ:=by
  cases two
  ·exact .tail _ (.head _)
  ·exact .head _
 have pre:rz (bf l) (bj l) true two (bv l) (bw l)=rA (bf l) (bj l) true two (bv l) (bw l):=by
  cases two
  ·exact adB _ _ _ _
  ·exact adA _ _ _ _
 rw[Dn l hc pre]
 have R:=HO true (bv l) (bw l) (bi two) (mL l) (aZ l) a8 (mL l-1)
 have zC:dR l true two 50=bv l:=wb true (c6 (bv l) (bw l)) (bi two) (mL l) (aZ l) a8 (.inl rfl) (mL l-1)
 have zD:dR l true two 51=bw l:=wb true (c6 (bv l) (bw l)) (bi two) (mL l) (aZ l) a8 (.inr rfl) (mL l-1)
 have q1:bv l=AA (MS true (c6 (bv l) (bw l)) (bi two) (mL l) (aZ l) a8 (mL l-1)):=(R.h rfl).1
 have q2:bw l=sumF (MS true (c6 (bv l) (bw l)) (bi two) (mL l) (aZ l) a8 (mL l-1)):=(R.h rfl).2
 have sm:∀i,i<14→(dR l true two (30+i)).natAbs≤1000000:=λi hi=>by
  have z:=R.hb rfl i hi
  have z:0≤dR l true two (30+i)∧dR l true two (30+i)≤((mL l-1:Zc):Zw):=z
  have h6:mL l≤6:=by
   have:=oJ l
   simp only[Wv,Xv,Un]at this
   omega
  revert z
  generalize dR l true two (30+i)=y
  intro z
  omega
 have sl:∀(k:Zb Zc),(∀i∈k,i<14)→∀x∈ag (λi=>dR l true two (Zn 30 i)) k,x.natAbs≤1000000:=λk=>by
  induction k with
  |nil=>exactλ_ x h=>nomatch h
  |cons a k ih=>exactλh x m=>(List.mem_cons.mp (show x∈dR l true two (Zn 30 a)::ag (λi=>dR l true two (Zn 30 i)) k from m)).elim (λe=>e▸sm a (h a (.head _))) (ih (λi m=>h i (.tail _ m)) x)
 have z1:sumZ (pA (dR l true two))=dR l true two 50:=by
  rw[zC];exact ajx q1
 have z2:sumZ (pB (dR l true two))=dR l true two 51:=by
  rw[zD];exact ajy q2
 have b7:=Kq (two:=two) (oJ l) (.af (bj l)) (cP (mL l) (aZ l) a8) (dR l true two) (kW l true two) (dq (aZ l) a8) (tE (aZ l) a8) (sl _ (by decide)) (sl _ (by decide)) z1 z2
 have e:aj S0 cL (aV 7 fR) bW (aN (.af (bf l)) (.af (bj l)) true (cP (mL l) (aZ l) a8)) (HP true two (bv l) (bw l) (mL l) (aZ l) a8)=aj S0 cL (.seq (dU 7) .skip) bW (aN (.af (adz l)) (.af (bj l)) true (cP (mL l) (aZ l) a8)) (lW two (mL l) (dR l true two) (kW l true two) (dq (aZ l) a8) (tE (aZ l) a8)):=rfl
 rw[e]
 exact hH b7
end
end Mine
namespace Mine
section
variable(l:Zb Zw)
def HX(two:Zh):AH:=be (dR l true two) (kW l true two) (dq (aZ l) a8) (tE (aZ l) a8) two (mL l)
theorem LY(two:Zh):aj S0 cL (.cut 9) bW (bM [.af (ag AV.int l),.af (bf l),.af (bj l),.ref 1,.bool true] 4) (h9 (bi two) (bv l) (bw l))=.nx (jQ (bf l) (bj l) true) (h9 (bi two) (bv l) (bw l)):=by
 have z:=xQ (ag AV.int l) (bf l) (bj l) two (bv l) (bw l)
 have z1:=Ze (·.2.1) z
 have z2:=Ze (·.2.2.1) z
 have z3:=Ze (·.2.2.2.1) z
 have z4:=Ze (·.2.2.2.2) z
 rw[kC (I:=i9) rfl z1 z2 z4,show dC i9 (h9 (bi two) (bv l) (bw l)) (bM [.af (ag AV.int l),.af (bf l),.af (bj l),.ref 1,.bool true] 4)=_ from z3,(Plain.fl (sN l)).tr,(Plain.fl (wH l)).tr]
 rfl
theorem Ma:aj S0 cL (.cut 9) bW (sZ (bf l) (bj l) (cP (mL l) (aZ l) a8)) (HX l true)=.nx (jQ (bf l) (bj l) false) (h9 (bi true) (bv l) (bw l)):=by
 have zC:dR l true true 50=bv l:=wb true (c6 (bv l) (bw l)) (bi true) (mL l) (aZ l) a8 (.inl rfl) (mL l-1)
 have zD:dR l true true 51=bw l:=wb true (c6 (bv l) (bw l)) (bi true) (mL l) (aZ l) a8 (.inr rfl) (mL l-1)
 have z:=aU (Lp (bf l) (bj l) (cP (mL l) (aZ l) a8) (dR l true true) (kW l true true) (dq (aZ l) a8) (tE (aZ l) a8)) (oJ l)
 have z1:cC i9 (HX l true) i9.c=h9 (bi true) (dR l true true 50) (dR l true true 51):=Ze (·.1) z
 have z2:cI i9 (HX l true) bW (sZ (bf l) (bj l) (cP (mL l) (aZ l) a8))=true:=Ze (·.2.1) z
 have z3:dC i9 (HX l true) (sZ (bf l) (bj l) (cP (mL l) (aZ l) a8))=yh (bL i9 (HX l true) [] 7 (.af (bf l))) (bL i9 (HX l true) [] 7 (.af (bj l))) false:=Ze (·.2.2) z
 rw[zC,zD]at z1
 rw[(Plain.fl (sN l)).tr,(Plain.fl (wH l)).tr]at z3
 have lo:eE i9 (h9 (bi true) (bv l) (bw l)) 3=true:=Ze (·.2.2.2.2) (xQ [] [] [] true (bv l) (bw l))
 generalize HX l true=H at z1 z2 z3
 rw[kC (I:=i9) rfl z1 z2 lo,z3]
 rfl
def HZ:AH:=fZ (nH (bf l) (bj l) (cP (mL l) (aZ l) a8) (dR l false true) (kW l false true) (dq (aZ l) a8) (tE (aZ l) a8) (mL l))
theorem Kz:aj S0 cL (aV 1 fR) bW (jQ (bf l) (bj l) false) (h9 (bi true) (bv l) (bw l))=.nx (aN (.af (bf l)) (.af (bj l)) false (cP (mL l) (aZ l) a8)) (HZ l):=by
 rw[Dn l (c:=false) (two:=true) (.tail _ (.tail _ (.head _))) (adC _ _ _ _)]
 have z:=aU (En (bf l) (bj l) (cP (mL l) (aZ l) a8) (dR l false true) (kW l false true) (dq (aZ l) a8) (tE (aZ l) a8)) (oJ l)
 have z1:tx (nH (bf l) (bj l) (cP (mL l) (aZ l) a8) (dR l false true) (kW l false true) (dq (aZ l) a8) (tE (aZ l) a8) (mL l))=true:=Ze (·.1) z
 have z2:jV (nH (bf l) (bj l) (cP (mL l) (aZ l) a8) (dR l false true) (kW l false true) (dq (aZ l) a8) (tE (aZ l) a8) (mL l))=aN (.af (bf l)) (.af (bj l)) false (cP (mL l) (aZ l) a8):=Ze (·.2.1) z
 have q:=F2 z1
 rw[z2]at q
 have b7:aj S0 cL (dU 7) bW (aN (.af (bf l)) (.af (bj l)) false (cP (mL l) (aZ l) a8)) (HP false true (bv l) (bw l) (mL l) (aZ l) a8)=.nx (aN (.af (bf l)) (.af (bj l)) false (cP (mL l) (aZ l) a8)) (HZ l):=q
 exact hH (b:=.skip) b7
theorem Hi(two:Zh):(dD S0 false (.ref 2) 1 (HX l two),(HX l two).get 0)=(.ok (ae two (some (.bool false)) none) (HX l two),some .tab):=aU (aU (aby (dR l true two) (kW l true two) (dq (aZ l) a8) (tE (aZ l) a8)) (ur two)) (oJ l)
theorem Hj:(dD S0 false (.ref 2) 2 (HZ l),(HZ l).get 0)=(.ok none (HZ l),some .tab):=Ze (·.2.2) (aU (En (bf l) (bj l) (cP (mL l) (aZ l) a8) (dR l false true) (kW l false true) (dq (aZ l) a8) (tE (aZ l) a8)) (oJ l))
theorem YT(two:Zh)(n:Zc):∃fm H,Fl (n+3) 0 (bM [.af (ag AV.int l),.af (bf l),.af (bj l),.ref 1] 5) (h9 (bi two) (bv l) (bw l))=.nx fm H∧fm.tn=false∧H.get 0=some .tab:=by
 have n0:dD S0 false (.ref 2) 0 (h9 (bi two) (bv l) (bw l))=.ok (some (.bool true)) (h9 (bi two) (bv l) (bw l)):=Ze (·.1) (xQ [] [] [] two (bv l) (bw l))
 have e0:Fl (n+2+1) 0 (bM [.af (ag AV.int l),.af (bf l),.af (bj l),.ref 1] 5) (h9 (bi two) (bv l) (bw l))=SR.rec (motive:=λ_=>SR) (λfm h=>Fl (n+2) (0+1) fm h) .rt .ex .bad (aj S0 cL (aV 1 fR) bW (jQ (bf l) (bj l) true) (h9 (bi two) (bv l) (bw l))):=ET n0 (LY l two)
 have b:aj S0 cL (aV 1 fR) bW (jQ (bf l) (bj l) true) (h9 (bi two) (bv l) (bw l))=.nx (aN (.af (bf l)) (.af (bj l)) true (cP (mL l) (aZ l) a8)) (HX l two):=KB l two
 rw[b]at e0
 have e0:Fl (n+3) 0 (bM [.af (ag AV.int l),.af (bf l),.af (bj l),.ref 1] 5) (h9 (bi two) (bv l) (bw l))=Fl (n+1+1) 1 (aN (.af (bf l)) (.af (bj l)) true (cP (mL l) (aZ l) a8)) (HX l two):=e0
 have n1:=Ze (·.1) (Hi l two)
 have g1:=Ze (·.2) (Hi l two)
 cases two with
 |false=>exact⟨_,_,e0.trans (EQ n1),rfl,g1⟩
 |true=>
  have e1:Fl (n+1+1) 1 (aN (.af (bf l)) (.af (bj l)) true (cP (mL l) (aZ l) a8)) (HX l true)=SR.rec (motive:=λ_=>SR) (λfm h=>Fl (n+1) (1+1) fm h) .rt .ex .bad (aj S0 cL (aV 1 fR) bW (jQ (bf l) (bj l) false) (h9 (bi true) (bv l) (bw l))):=ET n1 (Ma l)
  rw[Kz]at e1
  have e1:Fl (n+1+1) 1 (aN (.af (bf l)) (.af (bj l)) true (cP (mL l) (aZ l) a8)) (HX l true)=Fl (n+1) 2 (aN (.af (bf l)) (.af (bj l)) false (cP (mL l) (aZ l) a8)) (HZ l):=e1
  exact⟨_,_,(e0.trans e1).trans (EQ (Ze (·.1) (Hj l))),rfl,Ze (·.2) (Hj l)⟩
theorem XV:∃H,e8 S0 52 false (.au 1536) [.af (ag AV.int l)] (AH.ofList [.tab])=.ok (.bool true) H∧H.get 0=some .tab:=by
 obtain⟨fm,H,e,tn,g⟩:=YT l (decide ((1:Zw)<((aJ (ag AV.int l):Zc):Zw))) 999997
 refine⟨H,?_,g⟩
 show gQ (aj S0 cL n9.body hZ (bM [.af (ag AV.int l)] 8) (AH.ofList [.tab]))=_
 rw[XT]
 have src:aC S0 cL false Au (bM [.af (ag AV.int l),.af (bf l),.af (bj l),.ref 1] 5) (lB (bv l) (bw l))=.ok (.ref 2) (h9 (bi (decide ((1:Zw)<((aJ (ag AV.int l):Zc):Zw)))) (bv l) (bw l)):=(aji _ _ _ _ _).trans (ajj _ _ _)
 generalize h9 (bi (decide ((1:Zw)<((aJ (ag AV.int l):Zc):Zw)))) (bv l) (bw l)=H0 at e src
 have s4:aj S0 cL (lR 4) hZ (bM [.af (ag AV.int l),.af (bf l),.af (bj l),.ref 1] 5) (lB (bv l) (bw l))=.nx fm H:=by
  show sB (bM [.af (ag AV.int l),.af (bf l),.af (bj l),.ref 1] 5) (aC S0 cL false Au (bM [.af (ag AV.int l),.af (bf l),.af (bj l),.ref 1] 5)) (lB (bv l) (bw l)) (λsrc h=>fH (gp false (dD S0 false src) (eZ S0 cL false (.loc 4)) (aj S0 cL fR ⟨false,1,[src]⟩) cw 0 (bM [.af (ag AV.int l),.af (bf l),.af (bj l),.ref 1] 5) h))=_
  unfold sB
  rw[src]
  show fH (Fl (999997+3) 0 (bM [.af (ag AV.int l),.af (bf l),.af (bj l),.ref 1] 5) H0)=_
  rw[e];rfl
 have e5:aj S0 cL (aV 4 n9.body) hZ (bM [.af (ag AV.int l),.af (bf l),.af (bj l),.ref 1] 5) (lB (bv l) (bw l))=aj S0 cL (.seq (.ret (.con (.bool true))) .skip) hZ fm H:=hH (a:=lR 4) (b:=.seq (.ret (.con (.bool true))) .skip) s4
 rw[e5]
 show gQ (SR.rec (motive:=λ_=>SR) (λfm h=>.nx fm h) .rt .ex .bad (nz fm (.bool true) H))=_
 unfold nz
 rw[tn];rfl
end
end Mine
end
noncomputable section
open PySem PySem.W PySem.Calls PyProof.Rows
namespace Mine
noncomputable def Yz:Ly:=⟨λi=>Zz (some (1439,none)) (λ_ _=>none) i,λ_=>0,λa=>a=1439,λ_=>False⟩
theorem Yz.ub{i:Zc}{p:Zj×Zd Zj}(e:Yz.ρ i=some p):i=0∧p=(1439,none):=by
 cases i with
 |zero=>exact⟨rfl,(Za e).symm⟩
 |succ i=>exact aF e
theorem Yz.foot{a:Zj}(h:Yz.foot a):a=1439:=h.casesOn λe f=>by
 obtain⟨_,rfl⟩:=Yz.ub e
 exact f.casesOn id λq=>aF q
theorem WC{i:Zc}{o:AO}(e:(AH.ofList [.tab]).get i=some o)(z:i=0):o=.tab:=by
 subst z;exact(Za e).symm
theorem aee{h:Yc}(tb:h.get? 1439=some (tabObj #[]))(base:T.h0.StaysIn h):Rep Yz (AH.ofList [.tab]) h where
 len i:=⟨λq=>by rw[Nat.lt_one_iff.mp q];exact⟨_,rfl⟩,λq=>q.elim λp e=>by rw[(Yz.ub e).1];exact Tc 0⟩
 dg:=.e (k:=0) .nil .nil
 obj i o p e q:=by
  obtain⟨z,rfl⟩:=Yz.ub q
  obtain rfl:=WC e z
  exact jG.mk rfl tb trivial λpos v e=>by cases e
 inj e1 e2 _ _:=(Yz.ub e1).1.trans (Yz.ub e2).1.symm
 sub a:=Yz.foot
 apart _ _ h:=h
 eg _ h:=h.elim
 new a h:=by rw[show a=1439 from h];exact hideAll_none _ (.head _)
 there a h:=by rw[show a=1439 from h];exact⟨_,tb⟩
 base:=base
theorem XS:iQ 3 "law"=some (.ref 1536):=by kernel_rfl
theorem ajI:TB.get 1439=some ⟨.none,none,.fields #[],#[]⟩:=by kernel_rfl
theorem Ja{P:Yv}{h:Yc}{Y:Ly}:∀{vs:Zb Zf}{ds:Zb WData},WellAll P h vs ds→(∀d∈ds,∃i,d=.int i)→∃xs:Zb Zw,xs.length=ds.length∧Vs Y h (ag AV.int xs) vs
 |_,_,.nil,_=>⟨[],rfl,rfl⟩
 |_,_,.cons r rs,hd=>by
  obtain⟨xs,h1,h2⟩:=Ja (Y:=Y) rs λd m=>hd d (.tail _ m)
  obtain⟨i,rfl⟩:=hd _ (.head _)
  cases r with
  |int i t=>exact⟨i::xs,by rw[U9,U9,h1],Vs.cons (x:=.int i) ⟨t,rfl⟩ h2⟩
theorem XW{args:Zb WData}(h:mU.toRowW.claim.pre args=true):∃ds,args=[.list ds]∧(∀d∈ds,∃i,d=.int i)∧ds.length≤63:=by
 obtain⟨h1,h2⟩:=pre_splitW h
 obtain⟨d,r,rfl,h3,h4⟩:=hasAllW_cons (e:=.list .int) (es:=[]) h1
 obtain rfl:=hasAllW_nil h4
 obtain⟨ds,rfl,h5⟩:=hasW_list h3
 refine⟨ds,rfl,λd m=>hasW_int (hasItemsW_at h5 d m),?_⟩
 have e:mU.toRowW.pre=.and (.not (.lt (.lit (.int (63:Zc))) (.len (.arg 0)))) (.lit (.bool true)):=rfl
 rw[e]at h2
 by_cases q:ds.length≤63
 ·exact q
 ·exfalso
  have e2:Rn mU.toRowW.records (.lt (.lit (.int (63:Zc))) (.len (.arg 0))) {args:=[.list ds]}=some (.bool (decide (((63:Zc):Zw)<(ds.length:Zw)))):=rfl
  rw[Y6 (by omega)]at e2
  unfold WTm.holds at h2
  have e3:Rn mU.toRowW.records (.and (.not (.lt (.lit (.int (63:Zc))) (.len (.arg 0)))) (.lit (.bool true))) {args:=[.list ds]}=some (.bool false):=by
   simp only[Rn]at e2⊢
   rw[e2];rfl
  rw[e3]at h2
  cases h2
theorem Lg{s:Zs}(Rp:Rep Yz (AH.ofList [.tab]) s.heap){xs:Zb Zw}{l:Zj}(rv:V Yz s.heap (.af (ag AV.int xs)) (.ref l)){R:Result→Zs→Prop}
  (h:∀(W':Wd),Le ⟨Yz,s,AH.ofList [.tab],Rp⟩ W'→W'.H.get 0=some .tab→R (.ok (.ret (.bool true))) W'.s):codeAny T.M callerA (.call (.ref 1536) ⟨[.ref l],[]⟩) R s:=by
 obtain⟨H,e,g⟩:=XV xs
 refine T9 ((Li 52).1 (k:=⟨callerA,[],52,false⟩) (W:=⟨Yz,s,AH.ofList [.tab],Rp⟩) (fv:=.au 1536) (args:=[.af (ag AV.int xs)]) rfl ⟨by decide+kernel,by decide+kernel,λ_=>rfl,rfl,λenv he=>nomatch he⟩ rfl rfl (Vs.cons rv rfl) (show 1+52≤500 by decide) e (λq=>nomatch q)) λr s' z=>?_
 cases z with
 |ok z=>
  obtain⟨W',a,e1,le,v⟩:=z
  cases e1
  exact(show _=_ from v)▸h W' le g
 |ex z=>exact z.casesOn λ_ _ _ q=>nomatch q
theorem bx:BX W0:=by
 intro s0 s1 mg mb G Yq a o pm cd doc dV kV e1 e2 e3 e4 e5 gens args vals as L VO akv rd well akx
 have FD:s0.heap=hF W0.params:=Ze Xq Yq
 have base:T.h0.StaysIn s1.heap:=λb o e=>L.keeps b o (by rw[FD];exact of_hideAll _ e)
 obtain rfl:a=1536:=by
  have ns:=(tU (.tail _ (.tail _ (.head _)))).keeps base
  have u:mg "law"=iQ 3 "law":=G.T.g.agree ns "law"
  have e6:=(show some (.ref a)=mg "law" from e5.symm).trans (u.trans XS)
  injection e6 with e6
  injection e6
 obtain⟨ds,rfl,hi,hl⟩:=XW VO
 have AI:s1.heap.get? 1439=some (tabObj #[]):=L.keeps _ _ (by
  rw[FD]
  exact abs_get (by decide) ajI)
 have Rp:=aee AI base
 cases well with
 |cons wl wr=>
 cases wr
 cases wl with
 |@list l vs _ yx hw=>
 obtain⟨xs,hx,rv⟩:=Ja (Y:=Yz) hw hi
 have ln:¬Yz.Mu l:=λh=>by
  rw[show l=1439 from h,AI]at yx;cases yx
 have rl:V Yz s1.heap (.af (ag AV.int xs)) (.ref l):=hO.mk rfl rv (by rw[←rv.len,lJ,Yi,hx];omega) ⟨yx,ln⟩
 have UL:TabsAt [(1443,1439)] s1.heap:=λq hq=>by
  rw[List.mem_singleton]at hq;subst hq
  obtain⟨_,K⟩:=FO.tab
  exact⟨K.C.keeps base,AI⟩
 have key:codeAny (model mU.prog W0) callerA (.call (.ref 1536) ⟨[.ref l],[]⟩) (GoodWG mU.toRowW.claim (classAt s0.heap) (ExcName.means s0.heap) [.list ds] s1) s1:=by
  refine kn_post UL ?_ (Lg Rp rl λW' le g=>⟨⟨.inl ⟨.bool true,.bool true,[],rfl,?_,.bool true,?_,λ_=>⟨U1,λ_ h=>nomatch h⟩⟩,λb o e=>?_,le.re.c,le.re.a.trans L.gens⟩,?_,trivial⟩)
  ·exactλ_ _=>rfl
  ·exactλ_=>rfl
  ·show(WShape.has [] (.bool true) .bool&&WTm.holds [] (.eq .res (.lit (.bool true))) {args:=[.list ds],res:=some (.bool true),after:=[.list ds]})=true
   simp[WShape.has,WShape.arms,WTm.holds,Rn,same]
  ·refine le.st.keep b o (λh=>h) (λh=>?_) (λh=>h) (of_hideAll _ e)
   rw[Yz.foot h]at e
   have e:(hideAll s1.heap [1439]).get? 1439=some o:=e
   rw[hideAll_none _ (.head _)]at e;cases e
  ·obtain⟨q,e,_⟩:=le.st.ids 0 (1439,none) rfl
   exact jG.casesOn (show jG W'.Y W'.h (1439,q) from W'.R.obj 0 .tab _ g e) λ_ hx _ _=>⟨_,hx⟩
 refine S6 (T9 key λr s' z=>?_)
 match r,z with
  |.ok (.ret v),z=>exact z
  |.error e,z=>exact z
  |.ok .next,z=>obtain⟨⟨v,_,_,h,_⟩|⟨e,_,_,h,_⟩,_⟩:=z<;>cases h
  |.ok (.brk),z=>obtain⟨⟨v,_,_,h,_⟩|⟨e,_,_,h,_⟩,_⟩:=z<;>cases h
  |.ok (.cont),z=>obtain⟨⟨v,_,_,h,_⟩|⟨e,_,_,h,_⟩,_⟩:=z<;>cases h
theorem akz:PySem.Challenge.rw_nz0072_01.Holds:=UX (Ji (Jj bx))
end Mine
end
theorem PySem.Challenge.cw_nz0072_01_holds : PySem.Challenge.rw_nz0072_01.Holds :=
  Mine.akz
