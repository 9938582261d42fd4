import PyProof.Rows.All
import Wide.All
import OpenK.AllK
import Wide.FinOn
import KE.KRevIter
import Lean
import PySem.Challenge.RW_pq0490_01
open Array renaming getElem?_mapIdx→OP,length_toList→OQ,getElem?_eq_some_iff→yK
open Bool renaming false_eq_true→EP,and_eq_true→jD,not_eq_true'→lJ,eq_iff_iff→nR,or_eq_false_iff→sR
open ForInStep renaming yield→yM
open Int renaming le_of_lt_add_one→ES,lt_of_lt_of_le→ET,ofNat_sub→EU,self_le_toNat→EV,fmod_nonneg_of_pos→OU,natCast_nonneg→d9,le_trans→kP,ofNat_lt→kQ,ofNat_le→mQ,toNat→pF,le_add_one→vA,le_antisymm→vB,le_refl→vC,lt_of_le_of_lt→vD,toNat_natCast→vF,lt_toNat→yP,toNat_lt→yQ
open Int.ofNat renaming inj→vE
open List renaming drop_length→EW,find?_some→EX,getElem?_eq_none→EY,getElem_map→EZ,length_drop→F0,length_pos_of_mem→F1,mem_reverse→F2,replicate→F3,singleton_append→F4,takeWhile_sublist→F5,contains_eq_any_beq→OW,countP_eq_length_filter→OX,getElem?_append_left→OY,idxOf_lt_length_iff→OZ,mem_of_find?_eq_some→P0,set_append_left→P4,mem_append→bW,mem_cons_self→c8,mem_of_getElem?→cE,mem_singleton→cG,map_cons→cK,mem_cons_of_mem→cL,getElem?_eq_some_iff→cO,mem_map→cP,length_map→cT,mem_cons→cU,mem_append_right→cW,mem_append_left→dD,map_append→dR,length_set→eU,mem_filter→eZ,length_append→fR,all_eq_true→gJ,size_toArray→gK,filter_cons_of_pos→gW,nodup_cons→iH,lookup_cons→j5,filter_cons_of_neg→jE,getElem?_map→jF,append_nil→jW,mem_map_of_mem→kR,sum_cons→kT,getElem?_eq_getElem→lK,range→lL,cons_append→mR,contains_iff_mem→mS,filter_congr→mT,nodup_append→mU,take_add_one→mV,length_filter_le→nU,mem_iff_getElem?→nW,take_length→nX,length_singleton→pG,all_cons→qM,drop_eq_getElem_cons→qN,filter_append→qO,filter_cons→qP,length_cons→qQ,map_congr_left→qR,not_mem_nil→qT,takeWhile_cons_of_pos→qU,append_assoc→sX,filter_eq_self→sY,forall_mem_nil→sZ,getElem?_set_ne→tB,getElem?_set_self→tC,idxOf_cons→tD,takeWhile_cons_of_neg→tE,filter_filter→vG,map_id→vH,map_map→vI,map_reverse→vJ,mem_range→vK,nodup_nil→vL,any_eq_true→yR,any_toArray→yS,filter_map→yT,filter_nil→yU,idxOf_cons_self→yV,length_range→yW,map→yX,map_nil→yY,map_singleton→yZ,nil_append→z0,take_append_drop→z5,toArray→z6
open List.cons renaming injEq→OV
open Nat renaming add_assoc→F7,add_comm→F8,lt_irrefl→FA,ne_of_lt→FD,le_trans→aG,le_of_eq→b5,le_add_left→bY,le_refl→bZ,add_le_add→cY,le_of_lt→cZ,succ_le_succ→d7,ble→f9,add_le_add_left→fS,le_of_ble_eq_true→fT,le_add_right→gX,beq→iJ,succ_pos→iR,le_succ→j6,le_antisymm→lM,lt_succ_self→lN,not_lt→mW,zero_le→nY,ble_eq→pH,blt→qV,le_of_lt_succ→qW,lt_of_lt_of_le→tF,add_le_add_right→vM,lt_of_le_of_lt→vN,not_succ_le_zero→vO,sub_lt_sub_left→vP,le_of_succ_le_succ→z7,lt_trans→z8,mul_le_mul_left→z9
open Option renaming isSome_iff_exists→FF,map_eq_some_iff→mX,toList_some→mY,map_some→zA,mem_toList→zB
open Option.some renaming inj→bO
open Prod renaming snd→tG
open PyProof.Rows renaming callWith_builtin1→P6,eq_str→P7
open PySem renaming wpAt_of_wpAny→PF
open PySem.BindsTo renaming of_eq→cC
open PySem.Builtin.BaseException renaming bexcPut→OR
open PySem.Builtin.Range renaming rangeSize→OS
open PySem.Data renaming seq→mO
open PySem.EntryCells renaming newEntry→OT
open PySem.Env renaming kindOf→yL
open PySem.F renaming excBase_ValueError→FG,entry_dict_get→P8,plainAttrs_dict→P9,slot_list_append→PA,slot_list_extend→PB,slot_list_index→PC,type_dict_get→PD,slot_dict_get→zC
open PySem.Heap renaming size_push→ER,get?_push_of_some→d8,get?_push_size→j4,SameBut→sS,get?_none_of_le→sV,get?_update_other→sW,get?_update_self→v8,lt_size→v9,push→yO
open PySem.Heap.DictOf renaming new→yN
open PySem.Heap.SameBut renaming update→sU
open PySem.Manifest renaming isStub→F6
open PySem.Obj renaming data_mapFields→FE,isFreed_of_fields→P5,mapFields→pI
open PySem.PyData renaming keyHash→nZ
open PySem.Str renaming length_append→gO,ofString→iK
open PySem.callAny renaming viaDunder→PG
open PySem PySem.Spec PySem.Calls PyProof.Rows PySem.W
set_option Elab.async false
set_option linter.all false
set_option maxRecDepth 10000
set_option maxHeartbeats 4000000
set_option tactic.hygienic false
namespace Mine
@[elab_as_elim] theorem sb {α:Sort _} {P:α→Prop} {a b:α} (h:a=b) (e:P b):P a:=by cases h; exact e
@[elab_as_elim] theorem aY {α:Sort _} {P:α→Prop} {a b:α} (h:a=b) (e:P a):P b:=by cases h; exact e
noncomputable def DM (a b:Nat×Nat):Bool:=!(iJ a.1 b.1&&iJ a.2 b.2)
theorem b6 {a b:Nat×Nat} (h:DM a b=true):a≠b:=fun e=>by subst e; unfold DM at h; rw [Nat.beq_refl,Nat.beq_refl] at h; cases h
theorem kM {a b c:Nat×Nat} (e:a=c) (h:DM c b=true):a≠b:=e▸b6 h
theorem lD {a b:Nat} (h:iJ a b=false):a≠b:=Nat.ne_of_beq_eq_false h
theorem uR {t:Nat×Nat} {n a:Nat} (h:iJ t.1 n=false):t≠(n,a):=fun e=>lD h (congrArg Prod.fst e)
theorem ble {a b:Nat} (h:f9 a b=true):a≤b:=fT h
theorem bQ {L R a b:Nat} (h:a≤b) (k:L+b≤R+a):L≤R:=Nat.le_of_add_le_add_right (aG k (fS h R))
theorem dQ {L R a b c d:Nat} (h:a≤b) (h2:c≤d) (k:L+(b+d)≤R+(a+c)):L≤R:=bQ (cY h h2) k
theorem fX {L R a b c d e f:Nat} (h:a≤b) (h2:c≤d) (h3:e≤f) (k:L+(b+d+f)≤R+(a+c+e)):L≤R:=bQ (cY (cY h h2) h3) k
theorem HU {L R a b:Int} (h:a≤b) (k:L+b≤R+a):L≤R:=Int.le_of_add_le_add_right (kP k (Int.add_le_add_left h R))
theorem UC {L R a b c d:Int} (h:a≤b) (h2:c≤d) (k:L+(b+d)≤R+(a+c)):L≤R:=HU (Int.add_le_add h h2) k
theorem gU {a b:Nat} (h:a=b):b≤a:=b5 h.symm
theorem rH {L R a b c d e f g i:Nat} (h:a≤b) (h2:c≤d) (h3:e≤f) (h4:g≤i) (k:L+(b+d+f+i)≤R+(a+c+e+g)):L≤R:=bQ (cY (cY (cY h h2) h3) h4) k
theorem rI {L R a b c d e f g i p q:Nat} (h:a≤b) (h2:c≤d) (h3:e≤f) (h4:g≤i) (h5:p≤q) (k:L+(b+d+f+i+q)≤R+(a+c+e+g+p)):L≤R:=dQ (cY (cY (cY h h2) h3) h4) h5 k
theorem AI {L R a b c d e f g i p q r s:Nat} (h:a≤b) (h2:c≤d) (h3:e≤f) (h4:g≤i) (h5:p≤q) (h6:r≤s) (k:L+(b+d+f+i+q+s)≤R+(a+c+e+g+p+r)):L≤R:=fX (cY (cY (cY h h2) h3) h4) h5 h6 k
theorem HZ {L R a b c d e f g i p q r s u v:Nat} (h:a≤b) (h2:c≤d) (h3:e≤f) (h4:g≤i) (h5:p≤q) (h6:r≤s) (h7:u≤v) (k:L+(b+d+f+i+q+s+v)≤R+(a+c+e+g+p+r+u)):L≤R:=fX (cY (cY (cY (cY h h2) h3) h4) h5) h6 h7 k
theorem o1 {a b c:Nat} (h0:a+(b+1)<c):a+1+b<c:=bQ h0 (by simp +arith only)
theorem o2 {a b c d e f:Nat} (h0:a+b=c+(2+d+e)):f+a+b=f+c+(2+d+e):=lM (bQ (b5 h0) (by simp +arith only)) (bQ (gU h0) (by simp +arith only))
theorem o3 {a b c d e f g i j:Nat} (h0:a≤1) (h1:b+3 * c+1≤d+3 * e) (h2:f+g=b+(2+a+i)) (h3:j=c) (h4:g=2+i):f+3 * j≤d+3 * e:=HZ h0 h1 (b5 h2) (b5 h3) (b5 h3) (b5 h3) (gU h4) (by simp +arith only)
theorem o4 {a b c d e f g i j:Nat} (h0:a+3 * b+1≤c+3 * d) (h1:e+f=a+(2+g+i)) (h2:j=b) (h3:f=2+g+i):e+3 * j+1≤c+3 * d:=AI h0 (b5 h1) (b5 h2) (b5 h2) (b5 h2) (gU h3) (by simp +arith only)
theorem o5 {a b c d:Nat} (h0:a≤b) (h1:c+b<d):c+a<d:=dQ h0 h1 (by simp +arith only)
theorem o6 {a b c d:Nat} (h0:a+3 * b≤c+3 * d) (h1:c=0) (h2:d=13):a+3 * b≤39:=rI h0 (b5 h1) (b5 h2) (b5 h2) (b5 h2) (by simp +arith only)
theorem o7 {a b c d:Nat} (h0:a+b≤100000) (h1:c≤a+1) (h2:d<b):c+d≤100000:=fX h0 h1 h2 (by simp +arith only)
theorem o8 {a b c:Nat} (h0:a+b+c≤1000000):1+c≤10000000:=bQ h0 (by simp +arith only)
theorem o9 {a b c:Nat} (h0:a+b+c≤1000000):a+8≤10000000:=bQ h0 (by simp +arith only)
theorem aaU {a b c d:Nat} (h0:a+(b+2+c)+d≤1000000):2+c+d≤10000000:=bQ h0 (by simp +arith only)
theorem ab2 {a b c d:Nat} (h0:a+(b+2+c)+d≤1000000):2+c≤10000000:=bQ h0 (by simp +arith only)
theorem ab3 {a b c:Nat} (h0:a+b+c≤1000000):a+b≤10000000:=bQ h0 (by simp +arith only)
theorem ab4 {a b:Nat} (h0:a+b≤100000):a<1000000:=bQ h0 (by simp +arith only)
theorem KC {a b:Nat} (h0:a+1=b):0<b:=bQ (b5 h0) (by simp +arith only)
theorem KD {a b c:Nat} (h0:a+1=b) (h1:c<a):c+1<b:=dQ (b5 h0) h1 (by simp +arith only)
theorem ab5 {a b:Nat} (h0:a≤100000) (h1:b≤100):23+(a+2)+b≤10000000:=dQ h0 h1 (by simp +arith only)
theorem ab6 {a:Nat} (h0:a≤100000):23+(a+2)≤10000000:=bQ h0 (by simp +arith only)
theorem ab7 {a:Nat} (h0:a≤100000):a+2≤10000000:=bQ h0 (by simp +arith only)
theorem KG {a b:Nat} (h0:a+(b+1)≤60000):a+b≤60000:=bQ h0 (by simp +arith only)
theorem ab8 {a b c:Nat} (h0:a+1+b≤c+1):a+b≤c:=bQ h0 (by simp +arith only)
theorem ab9 {a:Nat}:a<a+1:=(by simp +arith only)
theorem abA {a b c:Nat} (h0:a+(b+1)≤60000) (h1:c≤a+1):c+b≤60000:=dQ h0 h1 (by simp +arith only)
theorem abB {a b c d e f g i:Nat} (h0:a+1+b≤c+1) (h1:d+e=b) (h2:e=2+f+g) (h3:i=g+(1+(f+a))):i+d≤c:=rH h0 (b5 h1) (gU h2) (b5 h3) (by simp +arith only)
theorem abC {a b c d e f g i j l m:Nat} (h0:a=b) (h1:c+(d+1)≤60000) (h2:b+1+e≤d+1) (h3:f+g=e) (h4:g=2+i+j) (h5:i=l) (h6:j=m):a+(l+1)+m≤1000000:=HZ (b5 h0) h1 h2 (b5 h3) (gU h4) (gU h5) (gU h6) (by simp +arith only)
theorem abD {a b c d e f g i:Nat} (h0:a+(b+1)≤60000) (h1:c+1+d≤b+1) (h2:e+f=d) (h3:f=2+g+i):i≤100000:=rH h0 h1 (b5 h2) (gU h3) (by simp +arith only)
theorem abE {a b c d e f g i j l:Nat} (h0:a=b) (h1:c+(d+1)≤60000) (h2:b+1+e≤d+1) (h3:f+g=e) (h4:g=2+i+j) (h5:i=l):a+l<1000000:=AI (b5 h0) h1 h2 (b5 h3) (gU h4) (gU h5) (by simp +arith only)
theorem abF {a b c d e f g i j l:Nat} (h0:a=b) (h1:c+(d+1)≤60000) (h2:b+1+e≤d+1) (h3:f+g=e) (h4:g=2+i+j) (h5:i=l):a+l≤1000000:=AI (b5 h0) h1 h2 (b5 h3) (gU h4) (gU h5) (by simp +arith only)
theorem abG {a b c d e f g i:Nat} (h0:a+(b+1)≤60000) (h1:c+1+d≤b+1) (h2:e+f=d) (h3:f=2+g+i):g≤100000:=rH h0 h1 (b5 h2) (gU h3) (by simp +arith only)
theorem KH {a b:Nat} (h0:a+(b+1)≤60000):a<1000000:=bQ h0 (by simp +arith only)
theorem abH {a b:Nat} (h0:a+(b+1)≤60000):a+1+b≤60000:=bQ h0 (by simp +arith only)
theorem KI {a:Nat} (h0:a≤50000):1+a≤60000:=bQ h0 (by simp +arith only)
theorem abI {a:Nat} (h0:a≤40000):1+a≤1000000:=bQ h0 (by simp +arith only)
theorem abJ {a b:Nat} (h0:a≤b) (h1:b≤50001):a≤100000:=dQ h0 h1 (by simp +arith only)
theorem KJ {a b c:Nat} (h0:a≤b) (h1:b<c) (h2:c≤50001):a<1000000:=fX h0 h1 h2 (by simp +arith only)
theorem KL {a:Int} (h0:a≤1000):a<2 ^ 62:=vD h0 (by decide)
theorem abK {a b:Int} (h0:0≤a) (h1:a≤b):-2 ^ 62≤b:=kP (by decide) (kP h0 h1)
theorem abL {a b:Int} (h0:a≤b) (h1:b≤1000):a<2 ^ 62:=vD (kP h0 h1) (by decide)
theorem KN {a:Int} (h0:0≤a):-2 ^ 62≤a:=kP (by decide) h0
theorem abM {a b:Int}:a - b=a - b:=rfl
theorem abN {a b:Int} (h0:a≤b) (h1:¬a<b):0=b - a:=(Int.sub_eq_zero.mpr (vB (Int.not_lt.mp h1) h0)).symm
theorem KO {a:Int}:a - (a:Int).toNat≤0:=Int.sub_nonpos_of_le (EV a)
theorem abO {a:Int} {b:Nat}:a - ((b+1:Nat):Int)=a - (b:Int) - 1:=(Int.sub_sub a b 1).symm
theorem abP {a:Int} {b:Nat}:a+((b+1:Nat):Int)=a+(b:Int)+1:=(Int.add_assoc a b 1).symm
theorem KP {a:Nat} {b:Int} (h0:a<b.toNat):0<b - (a:Int):=Int.sub_pos_of_lt (yP.mp h0)
theorem abQ {a b c:Nat} (h0:a≤b) (h1:b<c) (h2:c≤100000):a<1000000:=fX h0 h1 h2 (by simp +arith only)
theorem KQ {a:Nat} (h0:a<1000000):a≤1000000:=bQ h0 (by simp +arith only)
theorem KR {a:Nat} (h0:a<1000000):a≤999999:=bQ h0 (by simp +arith only)
theorem abR {a:Int} {b:Nat} (h0:a.toNat<b):a<(b:Int):=vD (EV a) (kQ.mpr h0)
theorem KS {a:Nat} {b:Int} (h0:a≤1000000) (h1:b.toNat<a):b<2 ^ 63:=vD (EV b) (ET (kQ.mpr h1) (kP (mQ.mpr h0) (by decide)))
theorem abS {a:Int} (h0:0≤a):-2 ^ 63≤a:=kP (by decide) h0
theorem abT {a b:Nat} (h0:a+64<b):a<b:=bQ h0 (by simp +arith only)
theorem abU {a b:Nat}:a - b≤a - min b a:=Nat.sub_le_sub_left (Nat.min_le_left b a) a
theorem abV {a b c:Nat} (h0:a≤100000) (h1:b≤c) (h2:c<a):b≤16777216:=fX h0 h1 h2 (by simp +arith only)
theorem abW {a b c:Nat} (h0:3≤a) (h1:b+a<c):b+3+(a - 3)<c:=vN (b5 ((F7 b 3 (a-3)).trans (congrArg (b+·) (Nat.add_sub_cancel' h0)))) h1
theorem abX {a b c:Nat} (h0:1≤a) (h1:b+a<c):b+1+(a - 1)<c:=vN (b5 ((F7 b 1 (a-1)).trans (congrArg (b+·) (Nat.add_sub_cancel' h0)))) h1
theorem abY {a b c:Nat} (h0:a+b<c):a<c:=bQ h0 (by simp +arith only)
theorem abZ {a b c:Nat} (h0:a≤1000000) (h1:a=b) (h2:c<b):(c:Int)<2 ^ 63 - 1:=ET (kQ.mpr (tF h2 (aG (gU h1) h0))) (by decide)
theorem xC {a:Nat} (h0:a≤1000000):(a:Int)<2 ^ 63:=vD (mQ.mpr h0) (by decide)
theorem ac0 {a:Int} {b:Nat} (h0:a<(b:Int)) (h1:b≤1000000):a<2 ^ 63:=Int.lt_trans h0 (xC h1)
theorem ac1 {a:Nat} {b:Int} (h0:a<b.toNat):(a:Int)<b:=yP.mp h0
theorem ac2 {a:Int}:a - 0=a:=Int.sub_zero a
theorem ac3 {a:Int} (h0:0≤a) (h1:¬0<a):0=a:=vB h0 (Int.not_lt.mp h1)
theorem ac4 {a b:Nat} (h0:(a:Int) - 1 - (b:Int)=((a - 1 - b:Nat):Int)):(a:Int) - 1 - ((b+1:Nat):Int)=((a - 1 - b:Nat):Int) - 1:=(Int.sub_sub _ (b:Int) 1).symm.trans (congrArg (· - 1) h0)
theorem ac5 {a b:Nat} (h0:(a:Int) - 1 - (b:Int)=((a - 1 - b:Nat):Int)):a - 1 - b<a:=vN (Nat.sub_le _ _) (Nat.sub_lt (vN (nY b) (kQ.mp (Int.lt_of_le_sub_one (Int.sub_nonneg.mp (le_of_le_of_eq (d9 _) h0.symm))))) Nat.one_pos)
theorem ac6 {a b:Nat} (h0:a<b):(b:Int) - 1 - (a:Int)=((b - 1 - a:Nat):Int):=((EU (Nat.le_sub_one_of_lt h0)).trans (congrArg (· - (a:Int)) (EU (vN (nY a) h0)))).symm
theorem KU {a:Int} (h0:0<a):a≠0:=Int.ne_of_gt h0
theorem ac7 {a:Int} {b c:Nat} (h0:0≤a) (h1:a+1≤(b:Int)) (h2:b=c):a.toNat<c:=Nat.lt_of_lt_of_eq ((yQ h0).mpr h1) h2
theorem ac8 {a b:Nat} (h0:a≤10000) (h1:b=1):a+2+b≤10000000:=dQ h0 (b5 h1) (by simp +arith only)
theorem ac9 {a:Nat} (h0:a≤10000):a+2≤10000000:=bQ h0 (by simp +arith only)
theorem acA {a b c:Nat} (h0:a≤30 * (b+1)) (h1:b<c) (h2:c≤20):a≤10000:=aG h0 (aG (z9 30 (aG h1 h2)) (fT rfl))
theorem acB {a b c d:Nat} (h0:a≤20) (h1:b<c) (h2:d≤30 * (b+1)):d+2+a≤30 * (c+1):=aG (b5 (F7 d 2 a)) (cY (aG h2 (z9 30 h1)) (aG (fS h0 2) (fT rfl)))
theorem acC {a:Int} {b c:Nat} (h0:0≤a) (h1:a<((b - c:Nat):Int)):c+a.toNat<b:=Nat.add_lt_of_lt_sub' ((yQ h0).mpr h1)
theorem acD {a:Int} {b:Nat} (h0:0≤a):(b:Int)+a=((b+a.toNat:Nat):Int):=congrArg ((b:Int)+·) (Int.toNat_of_nonneg h0).symm
theorem acE {a b:Nat} (h0:a<b):0<((b:Int) - (a:Int)).toNat:=yP.mpr (Int.sub_pos_of_lt (kQ.mpr h0))
theorem acF {a b c:Nat} (h0:a<((b:Int) - (c:Int)).toNat):c+a<b:=kQ.mp (Int.add_lt_of_lt_sub_left (yP.mp h0))
theorem KV {a:Int} (h0:0≤a) (h1:a<2):a=0∨a=1:=(Int.lt_or_eq_of_le (@ES a 1 h1)).elim (fun h=>.inl (vB (@ES a 0 h) h0)) .inr
theorem acG {a b c:Nat} (h0:a≤b * 201) (h1:b≤c) (h2:c≤20):a≤5000:=aG h0 (aG (Nat.mul_le_mul_right 201 (aG h1 h2)) (fT rfl))
theorem acH {a b c d e:Nat} (h0:a≤1000) (h1:b=c) (h2:d=a) (h3:e≤d) (h4:c≤1000):b+e≤1000000:=rI h0 (b5 h1) (b5 h2) h3 h4 (by simp +arith only)
theorem acI {a b c d e:Nat} (h0:a≤1000) (h1:b≤1000) (h2:c=b) (h3:d=a) (h4:e≤d - 1):1+c+e≤1000000:=aG (cY (fS (aG (b5 h2) h1) 1) (aG h4 (aG (Nat.sub_le _ _) (aG (b5 h3) h0)))) (fT rfl)
theorem acJ {a b:Nat} (h0:a≤1000) (h1:b=a):b - 1≤100000:=aG (Nat.sub_le _ _) (aG (b5 h1) (aG h0 (fT rfl)))
theorem acK {a b c d e f g i j:Nat} (h0:a+1+b≤100000) (h1:c+(d+e)+f≤b) (h2:g=c) (h3:i=d) (h4:j=e):g+(i+j)≤1000000:=rI h0 h1 (b5 h2) (b5 h3) (b5 h4) (by simp +arith only)
theorem acL {a b c d e f g i:Nat} (h0:a+1+b≤100000) (h1:c+(d+e)+f≤b) (h2:g=d) (h3:i=e):g+i≤1000000:=rH h0 h1 (b5 h2) (b5 h3) (by simp +arith only)
theorem acM {a b c:Nat} (h0:a+1+b≤100000) (h1:c=a):c<1000000:=dQ h0 (b5 h1) (by simp +arith only)
theorem acN {a b:Nat} (h0:a+(b+1)≤100000):a+1+b≤100000:=bQ h0 (by simp +arith only)
theorem acO {a b c d e:Nat} (h0:a≤1000) (h1:b=c) (h2:d=e) (h3:c≤a) (h4:e≤1000):b+d+1≤1000000:=rI h0 (b5 h1) (b5 h2) h3 h4 (by simp +arith only)
theorem acP {a b c d e:Nat} (h0:a≤1000) (h1:b=c) (h2:d=e) (h3:c≤a) (h4:e≤1000):b+d≤1000000:=rI h0 (b5 h1) (b5 h2) h3 h4 (by simp +arith only)
theorem acQ {a b:Nat}:min a b≤b:=Nat.min_le_right a b
theorem acR {a:Nat} (h0:a≤10000):8+a+1≤10000000:=bQ h0 (by simp +arith only)
theorem acS {a:Nat} (h0:a≤10000):8+a≤10000000:=bQ h0 (by simp +arith only)
theorem acT {a:Nat} (h0:a≤10000):8+a+1≤1000000:=bQ h0 (by simp +arith only)
theorem acU {a:Int} (h0:0≤a) (h1:a<3):a=0∨a=1∨a=2:=(Int.lt_or_eq_of_le (@ES a 2 h1)).elim (fun h=>(KV h0 h).imp id .inl) (fun h=>.inr (.inr h))
theorem acV {a:Int} {b:Nat} (h0:a≤11) (h1:(b:Int)<a):b<11:=kQ.mp (ET h1 h0)
theorem acW {a b c d e f g:Nat} (h0:a+1+b≤c+1) (h1:d+e=b) (h2:e=2+f+g):g+(f+a+1)+d≤c:=fX h0 (b5 h1) (gU h2) (by simp +arith only)
theorem acX {a b c d:Nat} (h0:a≤100) (h1:b≤a) (h2:c≤d) (h3:d≤101):b+c≤1000:=rH h0 h1 h2 h3 (by simp +arith only)
theorem acY {a b:Nat} (h0:a≤b - 1) (h1:0<b):a+1≤b:=aG (d7 h0) (b5 (Nat.sub_add_cancel h1))
theorem acZ {a b:Nat} (h0:a<b+1) (h1:¬a=b):a<b:=Nat.lt_of_le_of_ne (qW h0) h1
theorem ad0 {a b:Nat} (h0:¬a<b) (h1:¬a=b):1≤a - b:=Nat.sub_pos_of_lt (Nat.lt_of_le_of_ne (mW.mp h0) (Ne.symm h1))
theorem ad1 {a b c:Nat} (h0:a+b=c):a+1+b=c+1:=lM (bQ (b5 h0) (by simp +arith only)) (bQ (gU h0) (by simp +arith only))
theorem ad2 {a b c:Nat} (h0:a+b=c):a+(b+1)=c+1:=lM (bQ (b5 h0) (by simp +arith only)) (bQ (gU h0) (by simp +arith only))
theorem aaV {a b c d e:Nat} (h0:a≤b+5) (h1:c=d) (h2:b+3 * d≤39+5 * e):a+3 * c≤39+5 * (e+1):=rI h0 (b5 h1) (b5 h1) (b5 h1) h2 (by simp +arith only)
theorem aaW {a b c d e f g i:Nat} (h0:a+b≤c+d+5) (h1:e≤f+0) (h2:g=2+a+b) (h3:i=2+c+d):g+e≤i+f+5:=rH h0 h1 (b5 h2) (gU h3) (by simp +arith only)
theorem aaX {a b:Nat}:a+1+b≤a+b+5:=(by simp +arith only)
theorem aaY {a b:Nat}:a+(b+1)≤a+b+5:=(by simp +arith only)
theorem aaZ {a b c d e:Nat} (h0:a≤b∧c≤b∧d≤b+2∧e≤b):a≤b∧c≤b+1∧d≤b+3∧e≤b+1:=⟨bQ h0.1 (by simp +arith only),bQ h0.2.1 (by simp +arith only),bQ h0.2.2.1 (by simp +arith only),bQ h0.2.2.2 (by simp +arith only)⟩
theorem ab0 {a b c d e:Nat} (h0:a≤b∧c≤b∧d≤b+2∧e≤b):a≤b+1∧c≤b∧d≤b+3∧e≤b+1:=⟨bQ h0.1 (by simp +arith only),bQ h0.2.1 (by simp +arith only),bQ h0.2.2.1 (by simp +arith only),bQ h0.2.2.2 (by simp +arith only)⟩
theorem ab1 {a b:Int} (h0:0≤a) (h1:b≤1000):(b - a).toNat≤1000:=Int.toNat_le.mpr (kP (Int.sub_le_self b h0) h1)
theorem dC {p0 p1 p2:Prop} {C:Prop} (h:p0∧p1∧p2) (f:p0→p1→p2→C):C:=f h.1 h.2.1 h.2.2
theorem EH {p0 p1 p2 p3:Prop} {C:Prop} (h:p0∧p1∧p2∧p3) (f:p0→p1→p2→p3→C):C:=f h.1 h.2.1 h.2.2.1 h.2.2.2
theorem EI {p0 p1 p2 p3 p4:Prop} {C:Prop} (h:p0∧p1∧p2∧p3∧p4) (f:p0→p1→p2→p3→p4→C):C:=f h.1 h.2.1 h.2.2.1 h.2.2.2.1 h.2.2.2.2
theorem OH {p0 p1 p2 p3 p4 p5:Prop} {C:Prop} (h:p0∧p1∧p2∧p3∧p4∧p5) (f:p0→p1→p2→p3→p4→p5→C):C:=f h.1 h.2.1 h.2.2.1 h.2.2.2.1 h.2.2.2.2.1 h.2.2.2.2.2
theorem OI {p0 p1 p2 p3 p4 p5 p6:Prop} {C:Prop} (h:p0∧p1∧p2∧p3∧p4∧p5∧p6) (f:p0→p1→p2→p3→p4→p5→p6→C):C:=f h.1 h.2.1 h.2.2.1 h.2.2.2.1 h.2.2.2.2.1 h.2.2.2.2.2.1 h.2.2.2.2.2.2
theorem yI {p0 p1 p2 p3 p4 p5 p6 p7:Prop} {C:Prop} (h:p0∧p1∧p2∧p3∧p4∧p5∧p6∧p7) (f:p0→p1→p2→p3→p4→p5→p6→p7→C):C:=f h.1 h.2.1 h.2.2.1 h.2.2.2.1 h.2.2.2.2.1 h.2.2.2.2.2.1 h.2.2.2.2.2.2.1 h.2.2.2.2.2.2.2
theorem aV {α0:Sort _} {p0 p1:α0→Prop} {C:Prop} (h:∃ a0,p0 a0∧p1 a0) (f:∀ a0,p0 a0→p1 a0→C):C:=h.elim fun a0 h=>f a0 h.1 h.2
theorem c7 {α0:Sort _} {p0 p1 p2:α0→Prop} {C:Prop} (h:∃ a0,p0 a0∧p1 a0∧p2 a0) (f:∀ a0,p0 a0→p1 a0→p2 a0→C):C:=h.elim fun a0 h=>f a0 h.1 h.2.1 h.2.2
theorem EJ {α0:Sort _} {p0 p1 p2 p3:α0→Prop} {C:Prop} (h:∃ a0,p0 a0∧p1 a0∧p2 a0∧p3 a0) (f:∀ a0,p0 a0→p1 a0→p2 a0→p3 a0→C):C:=h.elim fun a0 h=>f a0 h.1 h.2.1 h.2.2.1 h.2.2.2
theorem v7 {α0:Sort _} {p0 p1 p2 p3 p4:α0→Prop} {C:Prop} (h:∃ a0,p0 a0∧p1 a0∧p2 a0∧p3 a0∧p4 a0) (f:∀ a0,p0 a0→p1 a0→p2 a0→p3 a0→p4 a0→C):C:=h.elim fun a0 h=>f a0 h.1 h.2.1 h.2.2.1 h.2.2.2.1 h.2.2.2.2
theorem OJ {α0:Sort _} {p0 p1 p2 p3 p4 p5:α0→Prop} {C:Prop} (h:∃ a0,p0 a0∧p1 a0∧p2 a0∧p3 a0∧p4 a0∧p5 a0) (f:∀ a0,p0 a0→p1 a0→p2 a0→p3 a0→p4 a0→p5 a0→C):C:=h.elim fun a0 h=>f a0 h.1 h.2.1 h.2.2.1 h.2.2.2.1 h.2.2.2.2.1 h.2.2.2.2.2
theorem sQ {α0:Sort _} {α1:Sort _} {p0:α0→α1→Prop} {C:Prop} (h:∃ a0 a1,p0 a0 a1) (f:∀ a0 a1,p0 a0 a1→C):C:=h.elim fun a0 h=>h.elim fun a1 h=>f a0 a1 h
theorem cN {α0:Sort _} {α1:Sort _} {p0 p1:α0→α1→Prop} {C:Prop} (h:∃ a0 a1,p0 a0 a1∧p1 a0 a1) (f:∀ a0 a1,p0 a0 a1→p1 a0 a1→C):C:=h.elim fun a0 h=>h.elim fun a1 h=>f a0 a1 h.1 h.2
theorem kN {α0:Sort _} {α1:Sort _} {p0 p1 p2:α0→α1→Prop} {C:Prop} (h:∃ a0 a1,p0 a0 a1∧p1 a0 a1∧p2 a0 a1) (f:∀ a0 a1,p0 a0 a1→p1 a0 a1→p2 a0 a1→C):C:=h.elim fun a0 h=>h.elim fun a1 h=>f a0 a1 h.1 h.2.1 h.2.2
theorem j0 {α0:Sort _} {α1:Sort _} {p0 p1 p2 p3:α0→α1→Prop} {C:Prop} (h:∃ a0 a1,p0 a0 a1∧p1 a0 a1∧p2 a0 a1∧p3 a0 a1) (f:∀ a0 a1,p0 a0 a1→p1 a0 a1→p2 a0 a1→p3 a0 a1→C):C:=h.elim fun a0 h=>h.elim fun a1 h=>f a0 a1 h.1 h.2.1 h.2.2.1 h.2.2.2
theorem ajH {α0:Sort _} {α1:Sort _} {p0 p1 p2 p3 p4 p5:α0→α1→Prop} {C:Prop} (h:∃ a0 a1,p0 a0 a1∧p1 a0 a1∧p2 a0 a1∧p3 a0 a1∧p4 a0 a1∧p5 a0 a1) (f:∀ a0 a1,p0 a0 a1→p1 a0 a1→p2 a0 a1→p3 a0 a1→p4 a0 a1→p5 a0 a1→C):C:=h.elim fun a0 h=>h.elim fun a1 h=>f a0 a1 h.1 h.2.1 h.2.2.1 h.2.2.2.1 h.2.2.2.2.1 h.2.2.2.2.2
theorem ajI {α0:Sort _} {α1:Sort _} {α2:Sort _} {p0:α0→α1→α2→Prop} {C:Prop} (h:∃ a0 a1 a2,p0 a0 a1 a2) (f:∀ a0 a1 a2,p0 a0 a1 a2→C):C:=h.elim fun a0 h=>h.elim fun a1 h=>h.elim fun a2 h=>f a0 a1 a2 h
theorem lI {α0:Sort _} {α1:Sort _} {α2:Sort _} {p0 p1:α0→α1→α2→Prop} {C:Prop} (h:∃ a0 a1 a2,p0 a0 a1 a2∧p1 a0 a1 a2) (f:∀ a0 a1 a2,p0 a0 a1 a2→p1 a0 a1 a2→C):C:=h.elim fun a0 h=>h.elim fun a1 h=>h.elim fun a2 h=>f a0 a1 a2 h.1 h.2
theorem mL {α0:Sort _} {α1:Sort _} {α2:Sort _} {p0 p1 p2:α0→α1→α2→Prop} {C:Prop} (h:∃ a0 a1 a2,p0 a0 a1 a2∧p1 a0 a1 a2∧p2 a0 a1 a2) (f:∀ a0 a1 a2,p0 a0 a1 a2→p1 a0 a1 a2→p2 a0 a1 a2→C):C:=h.elim fun a0 h=>h.elim fun a1 h=>h.elim fun a2 h=>f a0 a1 a2 h.1 h.2.1 h.2.2
theorem OL {α0:Sort _} {α1:Sort _} {α2:Sort _} {p0 p1 p2 p3:α0→α1→α2→Prop} {C:Prop} (h:∃ a0 a1 a2,p0 a0 a1 a2∧p1 a0 a1 a2∧p2 a0 a1 a2∧p3 a0 a1 a2) (f:∀ a0 a1 a2,p0 a0 a1 a2→p1 a0 a1 a2→p2 a0 a1 a2→p3 a0 a1 a2→C):C:=h.elim fun a0 h=>h.elim fun a1 h=>h.elim fun a2 h=>f a0 a1 a2 h.1 h.2.1 h.2.2.1 h.2.2.2
theorem OM {α0:Sort _} {α1:Sort _} {α2:Sort _} {p0 p1 p2 p3 p4 p5 p6:α0→α1→α2→Prop} {C:Prop} (h:∃ a0 a1 a2,p0 a0 a1 a2∧p1 a0 a1 a2∧p2 a0 a1 a2∧p3 a0 a1 a2∧p4 a0 a1 a2∧p5 a0 a1 a2∧p6 a0 a1 a2) (f:∀ a0 a1 a2,p0 a0 a1 a2→p1 a0 a1 a2→p2 a0 a1 a2→p3 a0 a1 a2→p4 a0 a1 a2→p5 a0 a1 a2→p6 a0 a1 a2→C):C:=h.elim fun a0 h=>h.elim fun a1 h=>h.elim fun a2 h=>f a0 a1 a2 h.1 h.2.1 h.2.2.1 h.2.2.2.1 h.2.2.2.2.1 h.2.2.2.2.2.1 h.2.2.2.2.2.2
theorem pD {α0:Sort _} {α1:Sort _} {α2:Sort _} {α3:Sort _} {p0 p1:α0→α1→α2→α3→Prop} {C:Prop} (h:∃ a0 a1 a2 a3,p0 a0 a1 a2 a3∧p1 a0 a1 a2 a3) (f:∀ a0 a1 a2 a3,p0 a0 a1 a2 a3→p1 a0 a1 a2 a3→C):C:=h.elim fun a0 h=>h.elim fun a1 h=>h.elim fun a2 h=>h.elim fun a3 h=>f a0 a1 a2 a3 h.1 h.2
theorem EK {α0:Sort _} {α1:Sort _} {α2:Sort _} {α3:Sort _} {p0 p1 p2:α0→α1→α2→α3→Prop} {C:Prop} (h:∃ a0 a1 a2 a3,p0 a0 a1 a2 a3∧p1 a0 a1 a2 a3∧p2 a0 a1 a2 a3) (f:∀ a0 a1 a2 a3,p0 a0 a1 a2 a3→p1 a0 a1 a2 a3→p2 a0 a1 a2 a3→C):C:=h.elim fun a0 h=>h.elim fun a1 h=>h.elim fun a2 h=>h.elim fun a3 h=>f a0 a1 a2 a3 h.1 h.2.1 h.2.2
theorem ajJ {α0:Sort _} {α1:Sort _} {α2:Sort _} {α3:Sort _} {p0 p1 p2 p3 p4:α0→α1→α2→α3→Prop} {C:Prop} (h:∃ a0 a1 a2 a3,p0 a0 a1 a2 a3∧p1 a0 a1 a2 a3∧p2 a0 a1 a2 a3∧p3 a0 a1 a2 a3∧p4 a0 a1 a2 a3) (f:∀ a0 a1 a2 a3,p0 a0 a1 a2 a3→p1 a0 a1 a2 a3→p2 a0 a1 a2 a3→p3 a0 a1 a2 a3→p4 a0 a1 a2 a3→C):C:=h.elim fun a0 h=>h.elim fun a1 h=>h.elim fun a2 h=>h.elim fun a3 h=>f a0 a1 a2 a3 h.1 h.2.1 h.2.2.1 h.2.2.2.1 h.2.2.2.2
theorem EL {α0:Sort _} {α1:Sort _} {α2:Sort _} {α3:Sort _} {α4:Sort _} {p0 p1 p2 p3:α0→α1→α2→α3→α4→Prop} {C:Prop} (h:∃ a0 a1 a2 a3 a4,p0 a0 a1 a2 a3 a4∧p1 a0 a1 a2 a3 a4∧p2 a0 a1 a2 a3 a4∧p3 a0 a1 a2 a3 a4) (f:∀ a0 a1 a2 a3 a4,p0 a0 a1 a2 a3 a4→p1 a0 a1 a2 a3 a4→p2 a0 a1 a2 a3 a4→p3 a0 a1 a2 a3 a4→C):C:=h.elim fun a0 h=>h.elim fun a1 h=>h.elim fun a2 h=>h.elim fun a3 h=>h.elim fun a4 h=>f a0 a1 a2 a3 a4 h.1 h.2.1 h.2.2.1 h.2.2.2
theorem yJ {α0:Sort _} {α1:Sort _} {α2:Sort _} {α3:Sort _} {α4:Sort _} {p0 p1 p2 p3 p4:α0→α1→α2→α3→α4→Prop} {C:Prop} (h:∃ a0 a1 a2 a3 a4,p0 a0 a1 a2 a3 a4∧p1 a0 a1 a2 a3 a4∧p2 a0 a1 a2 a3 a4∧p3 a0 a1 a2 a3 a4∧p4 a0 a1 a2 a3 a4) (f:∀ a0 a1 a2 a3 a4,p0 a0 a1 a2 a3 a4→p1 a0 a1 a2 a3 a4→p2 a0 a1 a2 a3 a4→p3 a0 a1 a2 a3 a4→p4 a0 a1 a2 a3 a4→C):C:=h.elim fun a0 h=>h.elim fun a1 h=>h.elim fun a2 h=>h.elim fun a3 h=>h.elim fun a4 h=>f a0 a1 a2 a3 a4 h.1 h.2.1 h.2.2.1 h.2.2.2.1 h.2.2.2.2
theorem ajK {α0:Sort _} {α1:Sort _} {α2:Sort _} {α3:Sort _} {α4:Sort _} {p0 p1 p2 p3 p4 p5 p6 p7:α0→α1→α2→α3→α4→Prop} {C:Prop} (h:∃ a0 a1 a2 a3 a4,p0 a0 a1 a2 a3 a4∧p1 a0 a1 a2 a3 a4∧p2 a0 a1 a2 a3 a4∧p3 a0 a1 a2 a3 a4∧p4 a0 a1 a2 a3 a4∧p5 a0 a1 a2 a3 a4∧p6 a0 a1 a2 a3 a4∧p7 a0 a1 a2 a3 a4) (f:∀ a0 a1 a2 a3 a4,p0 a0 a1 a2 a3 a4→p1 a0 a1 a2 a3 a4→p2 a0 a1 a2 a3 a4→p3 a0 a1 a2 a3 a4→p4 a0 a1 a2 a3 a4→p5 a0 a1 a2 a3 a4→p6 a0 a1 a2 a3 a4→p7 a0 a1 a2 a3 a4→C):C:=h.elim fun a0 h=>h.elim fun a1 h=>h.elim fun a2 h=>h.elim fun a3 h=>h.elim fun a4 h=>f a0 a1 a2 a3 a4 h.1 h.2.1 h.2.2.1 h.2.2.2.1 h.2.2.2.2.1 h.2.2.2.2.2.1 h.2.2.2.2.2.2.1 h.2.2.2.2.2.2.2
theorem ajL {α0:Sort _} {α1:Sort _} {α2:Sort _} {α3:Sort _} {α4:Sort _} {p0 p1 p2 p3 p4 p5 p6 p7 p8:α0→α1→α2→α3→α4→Prop} {C:Prop} (h:∃ a0 a1 a2 a3 a4,p0 a0 a1 a2 a3 a4∧p1 a0 a1 a2 a3 a4∧p2 a0 a1 a2 a3 a4∧p3 a0 a1 a2 a3 a4∧p4 a0 a1 a2 a3 a4∧p5 a0 a1 a2 a3 a4∧p6 a0 a1 a2 a3 a4∧p7 a0 a1 a2 a3 a4∧p8 a0 a1 a2 a3 a4) (f:∀ a0 a1 a2 a3 a4,p0 a0 a1 a2 a3 a4→p1 a0 a1 a2 a3 a4→p2 a0 a1 a2 a3 a4→p3 a0 a1 a2 a3 a4→p4 a0 a1 a2 a3 a4→p5 a0 a1 a2 a3 a4→p6 a0 a1 a2 a3 a4→p7 a0 a1 a2 a3 a4→p8 a0 a1 a2 a3 a4→C):C:=h.elim fun a0 h=>h.elim fun a1 h=>h.elim fun a2 h=>h.elim fun a3 h=>h.elim fun a4 h=>f a0 a1 a2 a3 a4 h.1 h.2.1 h.2.2.1 h.2.2.2.1 h.2.2.2.2.1 h.2.2.2.2.2.1 h.2.2.2.2.2.2.1 h.2.2.2.2.2.2.2.1 h.2.2.2.2.2.2.2.2
theorem ajM {α0:Sort _} {α1:Sort _} {α2:Sort _} {α3:Sort _} {α4:Sort _} {p0 p1 p2 p3 p4 p5 p6 p7 p8 p9:α0→α1→α2→α3→α4→Prop} {C:Prop} (h:∃ a0 a1 a2 a3 a4,p0 a0 a1 a2 a3 a4∧p1 a0 a1 a2 a3 a4∧p2 a0 a1 a2 a3 a4∧p3 a0 a1 a2 a3 a4∧p4 a0 a1 a2 a3 a4∧p5 a0 a1 a2 a3 a4∧p6 a0 a1 a2 a3 a4∧p7 a0 a1 a2 a3 a4∧p8 a0 a1 a2 a3 a4∧p9 a0 a1 a2 a3 a4) (f:∀ a0 a1 a2 a3 a4,p0 a0 a1 a2 a3 a4→p1 a0 a1 a2 a3 a4→p2 a0 a1 a2 a3 a4→p3 a0 a1 a2 a3 a4→p4 a0 a1 a2 a3 a4→p5 a0 a1 a2 a3 a4→p6 a0 a1 a2 a3 a4→p7 a0 a1 a2 a3 a4→p8 a0 a1 a2 a3 a4→p9 a0 a1 a2 a3 a4→C):C:=h.elim fun a0 h=>h.elim fun a1 h=>h.elim fun a2 h=>h.elim fun a3 h=>h.elim fun a4 h=>f a0 a1 a2 a3 a4 h.1 h.2.1 h.2.2.1 h.2.2.2.1 h.2.2.2.2.1 h.2.2.2.2.2.1 h.2.2.2.2.2.2.1 h.2.2.2.2.2.2.2.1 h.2.2.2.2.2.2.2.2.1 h.2.2.2.2.2.2.2.2.2
theorem ajN {α0:Sort _} {α1:Sort _} {α2:Sort _} {α3:Sort _} {α4:Sort _} {α5:Sort _} {α6:Sort _} {α7:Sort _} {p0 p1 p2 p3 p4 p5 p6 p7:α0→α1→α2→α3→α4→α5→α6→α7→Prop} {C:Prop} (h:∃ a0 a1 a2 a3 a4 a5 a6 a7,p0 a0 a1 a2 a3 a4 a5 a6 a7∧p1 a0 a1 a2 a3 a4 a5 a6 a7∧p2 a0 a1 a2 a3 a4 a5 a6 a7∧p3 a0 a1 a2 a3 a4 a5 a6 a7∧p4 a0 a1 a2 a3 a4 a5 a6 a7∧p5 a0 a1 a2 a3 a4 a5 a6 a7∧p6 a0 a1 a2 a3 a4 a5 a6 a7∧p7 a0 a1 a2 a3 a4 a5 a6 a7) (f:∀ a0 a1 a2 a3 a4 a5 a6 a7,p0 a0 a1 a2 a3 a4 a5 a6 a7→p1 a0 a1 a2 a3 a4 a5 a6 a7→p2 a0 a1 a2 a3 a4 a5 a6 a7→p3 a0 a1 a2 a3 a4 a5 a6 a7→p4 a0 a1 a2 a3 a4 a5 a6 a7→p5 a0 a1 a2 a3 a4 a5 a6 a7→p6 a0 a1 a2 a3 a4 a5 a6 a7→p7 a0 a1 a2 a3 a4 a5 a6 a7→C):C:=h.elim fun a0 h=>h.elim fun a1 h=>h.elim fun a2 h=>h.elim fun a3 h=>h.elim fun a4 h=>h.elim fun a5 h=>h.elim fun a6 h=>h.elim fun a7 h=>f a0 a1 a2 a3 a4 a5 a6 a7 h.1 h.2.1 h.2.2.1 h.2.2.2.1 h.2.2.2.2.1 h.2.2.2.2.2.1 h.2.2.2.2.2.2.1 h.2.2.2.2.2.2.2
theorem bM {α:Type} {x:α} {p:Prop} (h:none=some x):p:=nomatch h
theorem dK {α:Type} {x:α} {p:Prop} (h:some x=none):p:=nomatch h
theorem rX {g h:Heap} (k:∀ b o,g.get? b=some o→h.get? b=some o) {b:Addr} (e:h.get? b=none):g.get? b=none:=by
 cases q:g.get? b with
 | none=>rfl
 | some o=>rw [k b o q] at e; exact dK e
theorem nB {p:Prop} (h:false=true):p:=nomatch h
theorem rY {p:Prop} (h:true=false):p:=nomatch h
open Classical in
noncomputable def lX (h:Heap) (p:Addr→Prop):Heap :=
 ⟨h.objs.mapIdx fun i o=>if p i then {o with data:=.freed} else o,h.life⟩
theorem get_map {h:Heap} {a:Addr}:h.get? a=(match h.objs[a]? with
  | some o=>(match o.data with | .freed=>none | _=>some o)
  | none=>none):=by
 show (match h.objs[a]? with
  | some {cls:=cls,dict:=dict,data:=Data.freed,slots:=slots}=>none
  | o=>o)=_
 cases h.objs[a]? with
 | none=>rfl
 | some o =>
  obtain ⟨c,d,x,s⟩:=o
  cases x<;>rfl
theorem wG {h:Heap} {p:Addr→Prop} {a:Addr} (hp:p a):(lX h p).get? a=none:=by
 refine sb get_map ?_
 unfold lX
 refine sb OP ?_
 cases h.objs[a]? with
 | none=>rfl
 | some o=>exact sb (zA _ _) (sb (if_pos hp) rfl)
theorem wF {h:Heap} {p:Addr→Prop} {a:Addr} (hp:¬p a):(lX h p).get? a=h.get? a:=by
 refine sb get_map (sb get_map ?_)
 unfold lX
 refine sb OP ?_
 cases h.objs[a]? with
 | none=>rfl
 | some o=>exact sb (zA _ _) (sb (if_neg hp) rfl)
theorem ad3 {h:Heap} {p:Addr→Prop} {a:Addr} {o:Obj} (e:(lX h p).get? a=some o):h.get? a=some o∧¬p a:=by
 by_cases hp:p a
 ·rw [wG hp] at e; exact bM e
 ·exact ⟨by rw [←wF hp]; exact e,hp⟩
noncomputable abbrev Tag:=Nat×Nat
set_option genSizeOf false in
inductive GK where
 | inst (C:Addr) (fs:List (Str×Value))
 | list (xs:List Value)
 | tup (xs:List Value)
 | aZ (es:List (Str×Value))
 | cR (es:List (Int×Value))
 | exc (C:Addr) (fs:List (Str×Value))
 | cS (C:Addr) (fs:List (Str×Value))
 | lit (l:Addr) (i:Nat)
 | eT (l:Addr) (i:Int)
 | mH (l:Addr) (i:Nat)
 | eG (x left:Int)
 | ns
noncomputable def GK.dE:GK→Bool
 | .inst _ _=>true
 | .exc _ fs=>!fs.isEmpty
 | .cS _ fs=>!fs.isEmpty
 | _=>false
theorem wI {b:Bool} (h:b=false):(!b)=true:=h▸rfl
theorem IB {b:Bool} (h:(!b)=true):b=false:=by cases b with
 | true=>cases h
 | false=>rfl
set_option genSizeOf false in
structure GO where
 tag:Tag
 k:GK
noncomputable abbrev Gh:=Addr→Option GO
noncomputable def upd (G:Gh) (a:Addr) (x:GO):Gh:=fun b=>if b=a then some x else G b
theorem aI (G:Gh) (a:Addr) (x:GO):upd G a x a=some x:=by exact if_pos rfl
theorem bF {G:Gh} {a b:Addr} {x:GO} (h:b≠a):upd G a x b=G b:=by exact if_neg ‹_›
theorem bG {G:Gh} {a b:Addr} {x y:GO} (hb:G b=some y) (ha:G a=none):upd G a x b=some y:=by
 exact sb (bF (fun e=>by rw [e,ha] at hb; exact bM hb)) hb
theorem b9 {G:Gh} {a b:Addr} {x y z:GO} (hb:G b=some y) (ha:G a=some z) (ht:y.tag≠z.tag):upd G a x b=some y:=by
 exact sb (bF (fun e=>by rw [e,ha] at hb; obtain rfl:=bO hb; exact ht rfl)) hb
noncomputable def SK:List DictEntry→List (Str×Value)→Prop
 | [],[]=>True
 | e::es,p::ps=>((∃ t,e.key=.str p.1 t)∧e.val=p.2)∧SK es ps
 | _,_=>False
noncomputable def jQ (fs:List (Str×Value)) (n:Str) (v:Value):List (Str×Value):=match fs with
 | []=>[(n,v)]
 | p::r=>if p.1=n then (p.1,v)::r else p::jQ r n v
theorem IF {e:DictEntry} {x n:Str} {t:Tok} (h:e.key=.str x t):e.key.isStr n=decide (x=n):=by
 refine sb h ?_; simp only [Value.isStr]
 by_cases hx:x=n
 ·subst hx; exact rfl
 ·exact rfl
theorem SK.get (n:Str):∀ {es:List DictEntry} {fs:List (Str×Value)},SK es fs→getL n es=some (fs.lookup n)
 | [],[],_=>rfl
 | e::es,p::ps,⟨⟨⟨t,hk⟩,hv⟩,hr⟩=>by
  have ih:=SK.get n hr
  unfold getL at ih ⊢
  refine sb List.find?_cons (sb (IF hk) ?_)
  by_cases hx:p.1=n
  ·subst hx
   obtain ⟨x,v⟩:=p
   simp at hv
   simp [hv]
  ·have hx':(n==p.1)=false:=by simpa using fun e=>hx e.symm
   have hrk:e.refKey=false:=by simp [DictEntry.refKey,hk]
   simp only [hx,decide_false,List.any_cons,hrk,Bool.false_or]
   obtain ⟨x,v⟩:=p
   refine sb j5 (sb hx' ?_)
   exact ih
 | [],_::_,h=>h.elim
 | _::_,[],h=>h.elim
theorem SK.put (n:Str) (hsh:Int) (t:Tok) (v:Value):∀ {es:List DictEntry} {fs:List (Str×Value)},SK es fs→SK (putL n hsh (.str n t) v es) (jQ fs n v)
 | [],[],_=>⟨⟨⟨t,rfl⟩,rfl⟩,trivial⟩
 | e::es,p::ps,⟨⟨⟨u,hk⟩,hv⟩,hr⟩=>by
  have ih:=SK.put n hsh t v hr
  unfold putL jQ
  refine sb (IF hk) ?_
  by_cases hx:p.1=n
  ·simp only [hx,decide_true,if_true]
   exact ⟨⟨⟨u,by exact aY hx hk⟩,rfl⟩,hr⟩
  ·simp only [hx,decide_false,if_false]
   exact ⟨⟨⟨u,hk⟩,hv⟩,ih⟩
 | [],_::_,h=>h.elim
 | _::_,[],h=>h.elim
theorem SK.length:∀ {es:List DictEntry} {fs:List (Str×Value)},SK es fs→es.length=fs.length
 | [],[],_=>rfl
 | _::_,_::_,h=>by simp [SK.length h.2]
 | [],_::_,h=>h.elim
 | _::_,[],h=>h.elim
inductive iU:List (Str×Value)→Str→Value→List (Str×Value)→Prop
 | here {n v v' r}:iU ((n,v)::r) n v' ((n,v')::r)
 | there {p r n v' r'}:iU r n v' r'→iU (p::r) n v' (p::r')
theorem iU.names {fs fs':List (Str×Value)} {n:Str} {v:Value} (h:iU fs n v fs'):fs'.map (·.1)=fs.map (·.1):=by
 induction h with
 | here=>rfl
 | there _ ih=>simp [ih]
theorem iU.mem {fs fs':List (Str×Value)} {n:Str} {v:Value} (h:iU fs n v fs'):n∈fs.map (·.1):=by
 induction h with
 | here=>exact c8
 | there _ ih=>exact cL _ ‹_›
theorem iU.put {fs fs':List (Str×Value)} {n:Str} {v:Value} (h:iU fs n v fs') (hn:(fs.map (·.1)).Nodup):jQ fs n v=fs':=by
 induction h with
 | here=>exact if_pos rfl
 | @there p r n v' r' h ih =>
  rw [cK,iH] at hn
  exact aY (ih hn.2) (if_neg fun e:p.1=n=>hn.1 (e▸h.mem))
theorem LC {fs:List (Str×Value)} {n:Str} {v:Value} (h:(fs.all fun p=>!(p.1==n))=true):jQ fs n v=fs++[(n,v)]:=by
 induction fs with
 | nil=>rfl
 | cons p r ih =>
  rw [qM,jD] at h
  refine sb mR (aY (ih h.2) ?_); exact if_neg fun e=>by rw [e,beq_self_eq_true] at h; exact nB h.1
theorem D0 {fs:List (Str×Value)} {n:Str} (h:(fs.all fun p=>!(p.1==n))=true):n∉fs.map (·.1):=by
 intro hm
 refine aV (cP.mp hm) fun p hp zq5=>?_
 subst zq5
 have:=gJ.mp h p hp
 simp at this
theorem ZG {fs:List (Str×Value)} {n:Str} {v:Value} (hn:(fs.map (·.1)).Nodup) (h:(n,v)∈fs):fs.lookup n=some v:=by
 induction fs with
 | nil=>cases h
 | cons p r ih =>
  obtain ⟨x,w⟩:=p
  rw [cK,iH] at hn
  rcases cU.mp h with e | h
  ·cases e; simp
  ·have:(n==x)=false:=by
    simp only [beq_eq_false_iff_ne]; exact fun e=>hn.1 (e▸kR (f:=(·.1)) h)
   exact sb j5 (sb this (ih hn.2 h))
theorem lookup_none {fs:List (Str×Value)} {n:Str} (h:n∉fs.map (·.1)):fs.lookup n=none:=by
 induction fs with
 | nil=>rfl
 | cons p r ih =>
  rw [cK,cU,not_or] at h
  have:(n==p.1)=false:=by simpa using h.1
  obtain ⟨x,w⟩:=p
  exact sb j5 (sb this (ih h.2))
section
variable (prog:Program) (w:World)
noncomputable def GK.At (h:Heap) (a d:Addr):GK→Prop
 | .inst C fs=>h.get? a=some (instObj C d)∧(∃ es n,h.get? d=some (dictOf es n)∧SK es fs)∧(fs.map (·.1)).Nodup∧(∀ p∈fs,handedIn p.2=true)∧fs.length≤100
 | .list xs=>(∃ n,h.get? a=some (listOf xs.toArray n))∧xs.length≤1000000
 | .tup xs=>IsTup h a xs.toArray∧xs.length≤1000000
 | .aZ es=>h.DictOf (strKind prog w) a es∧es.length≤1000000
 | .cR es=>h.DictOf (intKind prog w) a es∧es.length≤1000000
 | .exc C fs=>(∃ vs sl,h.get? a=some {cls:=.ref C,dict:=if fs.isEmpty then none else some d,data:=.fields vs,slots:=sl}∧1<vs.size)∧(fs.isEmpty=false→∃ es n,h.get? d=some (dictOf es n)∧SK es fs) ∧
   (fs.map (·.1)).Nodup∧(∀ p∈fs,handedIn p.2=true)∧fs.length≤100
 | .cS C fs=>(∃ vs sl,h.get? a=some {cls:=.ref C,dict:=if fs.isEmpty then none else some d,data:=.fields vs,slots:=sl}∧1<vs.size∧vs[1]?=some .none)∧(fs.isEmpty=false→∃ es n,h.get? d=some (dictOf es n)∧SK es fs) ∧
   (fs.map (·.1)).Nodup∧(∀ p∈fs,handedIn p.2=true)∧fs.length≤100
 | .lit l i=>h.IsListIter a l i
 | .eT l i=>h.IsRevIter a l i
 | .mH l i=>h.IsTupleIter a l i
 | .eG x n=>IsRangeIter h a x n 1
 | .ns=>∃ mf,h.Ns a mf
end
section
variable {prog:Program} {w:World}
theorem GK.At.keeps {h h':Heap} {a d:Addr} {k:GK} (x:k.At prog w h a d) (ha:∀ o,h.get? a=some o→h'.get? a=some o) (hd:k.dE=true→∀ o,h.get? d=some o→h'.get? d=some o):k.At prog w h' a d:=by
 induction k using GK.casesOn with
 | inst C fs =>
  refine dC x fun h1 zq4 h4=>?_
  obtain ⟨es,n,h2,h3⟩:=zq4
  exact ⟨ha _ h1,⟨es,n,hd rfl _ h2,h3⟩,h4⟩
 | list xs=>obtain ⟨⟨n,ho⟩,h2⟩:=x; exact ⟨⟨n,ha _ ho⟩,h2⟩
 | tup xs=>obtain ⟨⟨o,ho,r⟩,h2⟩:=x; exact ⟨⟨o,ha _ ho,r⟩,h2⟩
 | aZ es=>obtain ⟨⟨o,e,ep,ho,r⟩,h2⟩:=x; exact ⟨⟨o,e,ep,ha _ ho,r⟩,h2⟩
 | cR es=>obtain ⟨⟨o,e,ep,ho,r⟩,h2⟩:=x; exact ⟨⟨o,e,ep,ha _ ho,r⟩,h2⟩
 | exc C fs =>
  refine dC x fun zq3 h3 h4=>?_
  obtain ⟨vs,sl,h1,h2⟩:=zq3
  refine ⟨⟨vs,sl,ha _ h1,h2⟩,fun q=>?_,h4⟩
  refine cN (h3 q) fun es n h5 h6=>?_
  exact ⟨es,n,hd (wI q) _ h5,h6⟩
 | cS C fs =>
  refine dC x fun zq2 h3 h4=>?_
  obtain ⟨vs,sl,h1,h2⟩:=zq2
  refine ⟨⟨vs,sl,ha _ h1,h2⟩,fun q=>?_,h4⟩
  refine cN (h3 q) fun es n h5 h6=>?_
  exact ⟨es,n,hd (wI q) _ h5,h6⟩
 | lit l i=>refine aV x fun o ho r=>?_; exact ⟨o,ha _ ho,r⟩
 | eT l i=>refine aV x fun o ho r=>?_; exact ⟨o,ha _ ho,r⟩
 | mH l i=>refine aV x fun o ho r=>?_; exact ⟨o,ha _ ho,r⟩
 | eG x' n=>exact ha _ x
 | ns=>refine pD x fun mf o es ep ho r=>?_; exact ⟨mf,o,es,ep,ha _ ho,r⟩
theorem GK.At.there {h:Heap} {a d:Addr} {k:GK} (x:k.At prog w h a d):∃ o,h.get? a=some o:=by
 induction k using GK.casesOn with
 | inst C fs=>exact ⟨_,x.1⟩
 | list xs=>obtain ⟨⟨n,ho⟩,h2⟩:=x; exact ⟨_,ho⟩
 | tup xs=>obtain ⟨⟨o,ho,r⟩,h2⟩:=x; exact ⟨o,ho⟩
 | aZ es=>obtain ⟨⟨o,e,ep,ho,r⟩,h2⟩:=x; exact ⟨o,ho⟩
 | cR es=>obtain ⟨⟨o,e,ep,ho,r⟩,h2⟩:=x; exact ⟨o,ho⟩
 | exc C fs=>obtain ⟨⟨vs,sl,h1,h2⟩,_⟩:=x; exact ⟨_,h1⟩
 | cS C fs=>obtain ⟨⟨vs,sl,h1,h2⟩,_⟩:=x; exact ⟨_,h1⟩
 | lit l i=>refine aV x fun o ho r=>?_; exact ⟨o,ho⟩
 | eT l i=>refine aV x fun o ho r=>?_; exact ⟨o,ho⟩
 | mH l i=>refine aV x fun o ho r=>?_; exact ⟨o,ho⟩
 | eG x' n=>exact ⟨_,x⟩
 | ns=>refine pD x fun mf o es ep ho r=>?_; exact ⟨o,ho⟩
theorem GK.At.HK {h:Heap} {a d:Addr} {k:GK} (x:k.At prog w h a d) (hi:k.dE=true):∃ es n,h.get? d=some (dictOf es n):=by
 induction k using GK.casesOn with
 | inst C fs=>(refine dC x fun zz zq1 zz=>?_; obtain ⟨es,n,h2,_⟩:=zq1); exact ⟨_,_,h2⟩
 | exc C fs=>refine dC x fun zz h3 zz=>?_; refine cN (h3 (IB hi)) fun es n h zz=>?_; exact ⟨_,_,h⟩
 | cS C fs=>refine dC x fun zz h3 zz=>?_; refine cN (h3 (IB hi)) fun es n h zz=>?_; exact ⟨_,_,h⟩
 | _=>cases hi
theorem GK.At.qH {h:Heap} {a d:Addr} {k:GK} (x:k.At prog w h a d) (hi:k.dE=true):∃ o,h.get? d=some o:=by
 refine sQ (x.HK hi) fun es n h=>?_; exact ⟨_,h⟩
end
structure cH (prog:Program) (w:World) (g h:Heap) (av:List Addr) (own:Addr→Addr) (G:Gh):Prop where
 keep:∀ b o,g.get? b=some o→h.get? b=some o
 at_:∀ a x,G a=some x→x.k.At prog w h a (own a)
 new:∀ a x,G a=some x→g.get? a=none∧a∉av
 newD:∀ a x,G a=some x→x.k.dE=true→g.get? (own a)=none∧own a∉av∧G (own a)=none
 inj:∀ a b x y,G a=some x→G b=some y→x.k.dE=true→y.k.dE=true→own a=own b→a=b
 sys:∀ a x,G a=some x→a≠sysModules
noncomputable def fp (own:Addr→Addr) (G:Gh) (a:Addr):Prop:=∃ b x,G b=some x∧(a=b∨(x.k.dE=true∧a=own b))
section
variable {prog:Program} {w:World} {g h h':Heap} {av:List Addr} {own:Addr→Addr} {G G':Gh}
theorem cH.forget (S:cH prog w g h av own G) (hs:∀ a x,G' a=some x→G a=some x):cH prog w g h av own G':=by
 refine ⟨S.keep,fun a x e=>S.at_ a x (hs a x e),fun a x e=>S.new a x (hs a x e),fun a x e hi=>?_,fun a b x y e f=>S.inj a b x y (hs a x e) (hs b y f),fun a x e=>S.sys a x (hs a x e)⟩
 refine dC (S.newD a x (hs a x e) hi) fun h1 h2 h3=>?_
 refine ⟨h1,h2,?_⟩
 cases q:G' (own a) with
 | none=>rfl
 | some y=>rw [hs _ _ q] at h3; exact dK h3
theorem cH.grow (S:cH prog w g h av own G) (hk:∀ b o,h.get? b=some o→h'.get? b=some o):cH prog w g h' av own G :=
 ⟨fun b o e=>hk b o (S.keep b o e),fun a x e=>(S.at_ a x e).keeps (fun o=>hk a o) (fun zz o=>hk _ o),S.new,S.newD,S.inj,S.sys⟩
theorem cH.aside (S:cH prog w g h av own G) {c:Addr} (hk:∀ b o,b≠c→h.get? b=some o→h'.get? b=some o) (hg:g.get? c=none) (hc:¬fp own G c):cH prog w g h' av own G:=by
 refine ⟨fun b o e=>hk b o (fun q=>by rw [q,hg] at e; exact bM e) (S.keep b o e),fun a x e=>(S.at_ a x e).keeps (fun o=>hk a o ?_) (fun hi o=>hk _ o ?_),S.new,S.newD,S.inj,S.sys⟩
 ·exact fun q=>hc ⟨a,x,e,.inl q.symm⟩
 ·exact fun q=>hc ⟨a,x,e,.inr ⟨hi,q.symm⟩⟩
theorem cH.aaS (S:cH prog w g h av own G) {c:Addr} (hc:h.get? c=none):¬fp own G c:=by
 rintro ⟨b,x,e,rfl | ⟨hi,rfl⟩⟩
 ·obtain ⟨o,ho⟩:=(S.at_ _ x e).there; rw [hc] at ho; exact bM ho
 ·obtain ⟨o,ho⟩:=(S.at_ _ x e).qH hi; rw [hc] at ho; exact bM ho
theorem cH.uJ (S:cH prog w g h av own G) {c:Addr} (hc:c∈av):¬fp own G c:=by
 rintro ⟨b,x,e,rfl | ⟨hi,rfl⟩⟩
 ·exact (S.new _ x e).2 hc
 ·exact (S.newD _ x e hi).2.1 hc
theorem cH.aaR (S:cH prog w g h av own G) {c:Addr} {o:Obj} (hc:g.get? c=some o):¬fp own G c:=by
 rintro ⟨b,x,e,rfl | ⟨hi,rfl⟩⟩
 ·rw [(S.new _ x e).1] at hc; exact bM hc
 ·rw [(S.newD _ x e hi).1] at hc; exact bM hc
theorem cH.add (S:cH prog w g h av own G) {a:Addr} {x:GO} (hk:∀ b o,h.get? b=some o→h'.get? b=some o) (ha:h.get? a=none) (hx:x.k.dE=false) (hat:x.k.At prog w h' a (own a))
  (hav:a∉av) (hsy:a≠sysModules):cH prog w g h' av own (upd G a x)∧G a=none:=by
 have hGa:G a=none:=by
  cases q:G a with
  | none=>rfl
  | some y=>obtain ⟨o,ho⟩:=(S.at_ a y q).there; rw [ha] at ho; exact bM ho
 have hga:g.get? a=none:=rX S.keep ha
 refine ⟨⟨fun b o e=>hk b o (S.keep b o e),fun b y e=>?_,fun b y e=>?_,fun b y e hi=>?_,fun b c y z e f hy hz q=>?_,fun b y e=>by
  by_cases hb:b=a
  ·subst hb; exact hsy
  ·rw [bF hb] at e; exact S.sys b y e⟩,hGa⟩
 ·by_cases hb:b=a
  ·subst hb; rw [aI] at e; obtain rfl:=bO e; exact hat
  ·rw [bF hb] at e; exact (S.at_ b y e).keeps (fun o=>hk b o) (fun zz o=>hk _ o)
 ·by_cases hb:b=a
  ·subst hb; exact ⟨hga,hav⟩
  ·rw [bF hb] at e; exact S.new b y e
 ·by_cases hb:b=a
  ·subst hb; rw [aI] at e; obtain rfl:=bO e; rw [hx] at hi; exact nB hi
  ·rw [bF hb] at e
   refine dC (S.newD b y e hi) fun h1 h2 h3=>?_
   refine ⟨h1,h2,?_⟩
   rw [bF]
   ·exact h3
   ·intro q; obtain ⟨o,ho⟩:=(S.at_ b y e).qH hi; rw [q,ha] at ho; exact bM ho
 ·have hb:b≠a:=fun q=>by subst q; rw [aI] at e; obtain rfl:=bO e; rw [hx] at hy; exact nB hy
  have hc:c≠a:=fun q=>by subst q; rw [aI] at f; obtain rfl:=bO f; rw [hx] at hz; exact nB hz
  rw [bF hb] at e; rw [bF hc] at f
  exact S.inj b c y z e f hy hz q
theorem cH.zQ (S:cH prog w g h av own G) {a d:Addr} {x:GO} (hk:∀ b o,h.get? b=some o→h'.get? b=some o) (ha:h.get? a=none) (hd:h.get? d=none) (hne:a≠d) (hat:x.k.At prog w h' a d)
  (hav:a∉av) (hdv:d∉av) (hsy:a≠sysModules):cH prog w g h' av (fun b=>if b=a then d else own b) (upd G a x)∧G a=none:=by
 have none_of:∀ c,h.get? c=none→G c=none∧g.get? c=none:=fun c hc=>by
  refine ⟨?_,rX S.keep hc⟩
  cases q:G c with
  | none=>rfl
  | some y=>obtain ⟨o,ho⟩:=(S.at_ c y q).there; rw [hc] at ho; exact bM ho
 refine ⟨⟨fun b o e=>hk b o (S.keep b o e),fun b y e=>?_,fun b y e=>?_,fun b y e hi=>?_,fun b c y z e f hy hz q=>?_,fun b y e=>by
  by_cases hb:b=a
  ·subst hb; exact hsy
  ·rw [bF hb] at e; exact S.sys b y e⟩,(none_of a ha).1⟩
 ·by_cases hb:b=a
  ·subst hb; rw [aI] at e; obtain rfl:=bO e; simpa using hat
  ·rw [bF hb] at e; simp only [hb,if_false]; exact (S.at_ b y e).keeps (fun o=>hk b o) (fun zz o=>hk _ o)
 ·by_cases hb:b=a
  ·subst hb; exact ⟨(none_of _ ha).2,hav⟩
  ·rw [bF hb] at e; exact S.new b y e
 ·by_cases hb:b=a
  ·subst hb; simp only [if_true]; refine ⟨(none_of _ hd).2,hdv,?_⟩; exact sb (bF (Ne.symm hne)) ((none_of _ hd).1)
  ·rw [bF hb] at e; simp only [hb,if_false]
   refine dC (S.newD b y e hi) fun h1 h2 h3=>?_
   refine ⟨h1,h2,?_⟩
   rw [bF]
   ·exact h3
   ·intro q; obtain ⟨o,ho⟩:=(S.at_ b y e).qH hi; rw [q,ha] at ho; exact bM ho
 ·by_cases hb:b=a
  ·by_cases hc:c=a
   ·exact sb hb (sb hc rfl)
   ·exfalso
    rw [bF hc] at f
    simp only [hb,if_true,hc,if_false] at q
    obtain ⟨o,ho⟩:=(S.at_ c z f).qH hz
    rw [←q,hd] at ho; exact bM ho
  ·by_cases hc:c=a
   ·exfalso
    rw [bF hb] at e
    simp only [hb,if_false,hc,if_true] at q
    obtain ⟨o,ho⟩:=(S.at_ b y e).qH hy
    rw [q,hd] at ho; exact bM ho
   ·rw [bF hb] at e; rw [bF hc] at f
    simp only [hb,hc,if_false] at q
    exact S.inj b c y z e f hy hz q
theorem cH.turn (S:cH prog w g h av own G) {a:Addr} {x y:GO} (hG:G a=some x) (hx:x.k.dE=false) (hy:y.k.dE=false) (hk:∀ b o,b≠a→h.get? b=some o→h'.get? b=some o)
  (hat:y.k.At prog w h' a (own a)):cH prog w g h' av own (upd G a y):=by
 obtain ⟨hn,hav⟩:=S.new a x hG
 refine ⟨fun b o e=>hk b o (fun q=>by rw [q,hn] at e; exact bM e) (S.keep b o e),fun b z e=>?_,fun b z e=>?_,fun b z e hi=>?_,fun b c z u e f hz hu q=>?_,fun b z e=>by
  by_cases hb:b=a
  ·subst hb; exact S.sys b _ hG
  ·rw [bF hb] at e; exact S.sys b z e⟩
 ·by_cases hb:b=a
  ·subst hb; rw [aI] at e; obtain rfl:=bO e; exact hat
  ·rw [bF hb] at e
   refine (S.at_ b z e).keeps (fun o=>hk b o hb) (fun hi o=>hk _ o fun q=>?_)
   have:=(S.newD b z e hi).2.2; rw [q,hG] at this; exact dK this
 ·by_cases hb:b=a
  ·subst hb; exact ⟨hn,hav⟩
  ·rw [bF hb] at e; exact S.new b z e
 ·by_cases hb:b=a
  ·subst hb; rw [aI] at e; obtain rfl:=bO e; rw [hy] at hi; exact nB hi
  ·rw [bF hb] at e
   refine dC (S.newD b z e hi) fun h1 h2 h3=>?_
   refine ⟨h1,h2,?_⟩
   rw [bF]
   ·exact h3
   ·intro q; rw [q,hG] at h3; exact dK h3
 ·have hb:b≠a:=fun q=>by subst q; rw [aI] at e; obtain rfl:=bO e; rw [hy] at hz; exact nB hz
  have hc:c≠a:=fun q=>by subst q; rw [aI] at f; obtain rfl:=bO f; rw [hy] at hu; exact nB hu
  rw [bF hb] at e; rw [bF hc] at f
  exact S.inj b c z u e f hz hu q
theorem cH.sJ (S:cH prog w g h av own G) {a:Addr} {x y:GO} (hG:G a=some x) (hx:x.k.dE=true) (hy:y.k.dE=true) (hk:∀ b o,b≠own a→h.get? b=some o→h'.get? b=some o)
  (hat:y.k.At prog w h' a (own a)):cH prog w g h' av own (upd G a y):=by
 obtain ⟨hn,hav⟩:=S.new a x hG
 refine dC (S.newD a x hG hx) fun hnd havd hGd=>?_
 refine ⟨fun b o e=>hk b o (fun q=>by rw [q,hnd] at e; exact bM e) (S.keep b o e),fun b z e=>?_,fun b z e=>?_,fun b z e hi=>?_,fun b c z u e f hz hu q=>?_,fun b z e=>by
  by_cases hb:b=a
  ·subst hb; exact S.sys b _ hG
  ·rw [bF hb] at e; exact S.sys b z e⟩
 ·by_cases hb:b=a
  ·subst hb; rw [aI] at e; obtain rfl:=bO e; exact hat
  ·rw [bF hb] at e
   refine (S.at_ b z e).keeps (fun o=>hk b o fun q=>?_) (fun hi o=>hk _ o fun q=>?_)
   ·rw [q,hGd] at e; exact bM e
   ·exact hb (S.inj b a z x e hG hi hx q)
 ·by_cases hb:b=a
  ·subst hb; exact ⟨hn,hav⟩
  ·rw [bF hb] at e; exact S.new b z e
 ·by_cases hb:b=a
  ·subst hb; refine ⟨hnd,havd,?_⟩
   rw [bF]
   ·exact hGd
   ·intro q; rw [q,hG] at hGd; exact dK hGd
  ·rw [bF hb] at e
   refine dC (S.newD b z e hi) fun h1 h2 h3=>?_
   refine ⟨h1,h2,?_⟩
   rw [bF]
   ·exact h3
   ·intro q; rw [q,hG] at h3; exact dK h3
 ·have key:∀ b z,upd G a y b=some z→z.k.dE=true→∃ z',G b=some z'∧z'.k.dE=true:=fun b z e hz=>by
   by_cases hb:b=a
   ·subst hb; exact ⟨x,hG,hx⟩
   ·rw [bF hb] at e; exact ⟨z,e,hz⟩
  refine aV (key b z e hz) fun z' e' hz'=>?_
  refine aV (key c u f hu) fun u' f' hu'=>?_
  exact S.inj b c z' u' e' f' hz' hu' q
theorem cH.qE (S:cH prog w g h av own G) {a:Addr} {x:GO} {t:Tag} (hG:G a=some x):cH prog w g h av own (upd G a ⟨t,x.k⟩):=by
 have key:∀ b z,upd G a ⟨t,x.k⟩ b=some z→∃ z',G b=some z'∧z'.k=z.k:=fun b z e=>by
  by_cases hb:b=a
  ·subst hb; rw [aI] at e; obtain rfl:=bO e; exact ⟨x,hG,rfl⟩
  ·rw [bF hb] at e; exact ⟨z,e,rfl⟩
 refine ⟨S.keep,fun b z e=>?_,fun b z e=>?_,fun b z e hi=>?_,fun b c z u e f hz hu q=>?_,fun b z e=>by
  refine aV (key b z e) fun z' e' k=>?_; exact S.sys b z' e'⟩
 ·refine aV (key b z e) fun z' e' k=>?_; exact k▸S.at_ b z' e'
 ·refine aV (key b z e) fun z' e' k=>?_; exact S.new b z' e'
 ·refine aV (key b z e) fun z' e' k=>?_
  refine dC (S.newD b z' e' (k▸hi)) fun h1 h2 h3=>?_
  refine ⟨h1,h2,?_⟩
  rw [bF]
  ·exact h3
  ·intro q; rw [q,hG] at h3; exact dK h3
 ·refine aV (key b z e) fun z' e' k=>?_
  refine aV (key c u f) fun u' f' k'=>?_
  exact S.inj b c z' u' e' f' (k▸hz) (k'▸hu) q
end
noncomputable abbrev aA:=List (Str×Option Value)
noncomputable def pS (env:Env) (mf:Str→Option Value) (h:Heap) (x:Str) (ov:Option Value):Prop :=
 (env.kindOf x=some .local∧(∀ v,ov=some v→mf x=some v))∨((env.kindOf x=some .cell∨env.kindOf x=some .free)∧∃ c,env.cells.lookup x=some c∧h.IsCell c ov)
noncomputable def eH (fs:List Addr) (h h':Heap):Prop:=∀ b∈fs,∀ o,h.get? b=some o→∃ sl,h'.get? b=some {o with slots:=sl}
theorem eH.refl (fs:List Addr) (h:Heap):eH fs h h:=fun zz zz o e=>⟨o.slots,e⟩
theorem eH.trans {fs:List Addr} {h h' h'':Heap} (x:eH fs h h') (y:eH fs h' h''):eH fs h h'':=fun b hb o e=>by
 obtain ⟨sl,e'⟩:=x b hb o e
 obtain ⟨sl',e''⟩:=y b hb _ e'
 exact ⟨sl',e''⟩
theorem eH.of {fs:List Addr} {h h' h'':Heap} (x:eH fs h h') (k:∀ b∈fs,∀ o,h'.get? b=some o→h''.get? b=some o):eH fs h h'':=fun b hb o e=>by
 obtain ⟨sl,e'⟩:=x b hb o e
 exact ⟨sl,k b hb _ e'⟩
theorem eH.mono {fs fs':List Addr} {h h':Heap} (x:eH fs h h') (k:∀ b∈fs',b∈fs):eH fs' h h':=fun b hb=>x b (k b hb)
theorem eH.ns {fs:List Addr} {h h':Heap} {L:Addr} {m:Str→Option Value} (x:eH fs h h') (hL:L∈fs) (n:h.Ns L m):h'.Ns L m:=by
 refine mL n fun o es ep ho hd r=>?_
 obtain ⟨sl,e'⟩:=x L hL o ho
 exact ⟨_,es,ep,e',hd,r⟩
noncomputable def frs (l:List Env):List Addr:=l.filterMap (·.frame)
set_option genInjectivity false in
set_option genSizeOf false in
structure Cx where
 A:Around
 base:Heap
 g:Heap
 bK:List Env
 env:Env
 L:Addr
 av:List Addr
 o:Shared
 out:List Addr
 gl:List (Str×Value)
structure bL (p:Program) (loose:List Str) (mean:ExcName→Option Value) (mg mb:Str→Option Value) (K:Frag) (c:Cx):Prop where
 below:∀ h:Heap,(∀ b o,c.base.get? b=some o→h.get? b=some o)→(∃ m,h.Ns c.L m)→eH c.out c.o.heap h→Below c.A c.base c.bK h
 bg:∀ b o,c.base.get? b=some o→c.g.get? b=some o
 WR:∀ b∈frs c.bK,b=c.L∨b∈c.out
 I2:∀ b∈c.out,b∈frs c.bK
 zN:c.L∉c.out
 low:c.base.objs.size≤c.L
 X:K.In c.base
 T:Top p loose mean mg mb c.base
 hh:c.A.handled=none
 loc:c.env.locals=c.L
 C2:c.env.globals=mainGlobals
 GN:c.env.builtins=builtinsNs
 kind:c.env.scope.kind=.function
 dB:c.L∈c.av
 rA:∀ a∈c.av,c.g.get? a=none
 rW:∀ x k,c.env.kindOf x=some k→(x==("__debug__":Str))=false∧(x==("__classdict__":Str))=false
 wC:∀ x v,(x,v)∈c.gl→c.env.kindOf x=some .globalImplicit∧(nsIn K mainGlobals x=some (some v)∨(nsIn K mainGlobals x=some none∧bootBuiltins x=some v∧x≠"__name__"))
structure bB (c:Cx):Prop where
 aaP:∀ x,c.env.kindOf x≠some .free
 QP:∀ x cl,c.env.cells.lookup x=some cl→cl∈c.av
 QS:∀ x y cl,c.env.cells.lookup x=some cl→c.env.cells.lookup y=some cl→x=y
 cout:∀ x cl,c.env.cells.lookup x=some cl→cl∉c.out
 frame:c.env.frame=some c.L
 bK:∃ outer,c.bK=c.env::outer
section
variable {prog:Program} {w:World} {K:Frag} {p:Program} {loose:List Str} {mean:ExcName→Option Value} {mg mb:Str→Option Value}
structure eF (prog:Program) (w:World) (c:Cx) (s:Shared) (m:aA) (G:Gh) (own:Addr→Addr) (mf:Str→Option Value):Prop where
 ga:cH prog w c.g s.heap c.av own G
 ns:s.heap.Ns c.L mf
 vars:∀ x ov,(x,ov)∈m→pS c.env mf s.heap x ov
 nd:(m.map (·.1)).Nodup
 fC:∀ a∈c.av,∃ o,s.heap.get? a=some o
 dB:c.L∈c.av
 gens:s.gens=c.o.gens
 drawn:s.drawn=c.o.drawn
 os:s.os=c.o.os
 fE:eH c.out c.o.heap s.heap
 eQ:∀ b∈c.out,b∈c.av
 lo:sysModules<c.L
inductive aE (prog:Program) (w:World) (c:Cx) (s:Shared) (m:aA) (G:Gh):Prop
 | mk (own:Addr→Addr) (mf:Str→Option Value) (h:eF prog w c s m G own mf):aE prog w c s m G
variable {c:Cx} {s:Shared} {m m':aA} {G G':Gh}
theorem pS.keeps {env:Env} {mf:Str→Option Value} {h h':Heap} {x:Str} {ov:Option Value} (v:pS env mf h x ov) (hk:∀ b o,h.get? b=some o→h'.get? b=some o):pS env mf h' x ov:=by
 rcases v with v | ⟨h1,cl,h2,h3⟩
 ·exact .inl v
 ·exact .inr ⟨h1,cl,h2,h3.keeps hk⟩
theorem pS.aside {env:Env} {mf:Str→Option Value} {h h':Heap} {x:Str} {ov:Option Value} {a:Addr} (v:pS env mf h x ov) (hk:∀ b o,b≠a→h.get? b=some o→h'.get? b=some o)
  (hn:∀ u,¬h.IsCell a u):pS env mf h' x ov:=by
 rcases v with v | ⟨h1,cl,h2,⟨o,ho,hd⟩⟩
 ·exact .inl v
 ·refine .inr ⟨h1,cl,h2,o,hk _ _ (fun e=>?_) ho,hd⟩
  subst e; exact hn ov ⟨o,ho,hd⟩
theorem aE.forget (S:aE prog w c s m G) (hs:∀ a x,G' a=some x→G a=some x):aE prog w c s m G':=by
 obtain ⟨own,mf,S⟩:=S; exact ⟨own,mf,{S with ga:=S.ga.forget hs}⟩
theorem aE.toks (S:aE prog w c s m G) (t:Nat):aE prog w c {s with toks:=t} m G:=by
 obtain ⟨own,mf,S⟩:=S; exact ⟨own,mf,⟨S.ga,S.ns,S.vars,S.nd,S.fC,S.dB,S.gens,S.drawn,S.os,S.fE,S.eQ,S.lo⟩⟩
theorem aE.qE (S:aE prog w c s m G) {a:Addr} {x:GO} (t:Tag) (hG:G a=some x):aE prog w c s m (upd G a ⟨t,x.k⟩):=by
 obtain ⟨own,mf,S⟩:=S; exact ⟨own,mf,{S with ga:=S.ga.qE hG}⟩
theorem aE.grow (S:aE prog w c s m G) {h':Heap} {t:Nat} (hk:∀ b o,s.heap.get? b=some o→h'.get? b=some o):aE prog w c {s with heap:=h',toks:=t} m G:=by
 obtain ⟨own,mf,S⟩:=S
 exact ⟨own,mf,⟨S.ga.grow hk,S.ns.keeps hk,fun x ov hx=>(S.vars x ov hx).keeps hk,S.nd,fun a ha=>(S.fC a ha).imp fun o ho=>hk a o ho,S.dB,S.gens,S.drawn,S.os,S.fE.of fun b zz=>hk b,S.eQ,S.lo⟩⟩
theorem aE.add (S:aE prog w c s m G) {h':Heap} {t:Nat} {a:Addr} (x:GO) (hk:∀ b o,s.heap.get? b=some o→h'.get? b=some o) (ha:s.heap.get? a=none) (hx:x.k.dE=false) (hat:∀ d,x.k.At prog w h' a d) (hge:s.heap.objs.size≤a:=by exact bZ _) :
  aE prog w c {s with heap:=h',toks:=t} m (upd G a x)∧G a=none:=by
 obtain ⟨own,mf,S⟩:=S
 obtain ⟨g1,g2⟩:=S.ga.add hk ha hx (hat _) (fun hm=>by obtain ⟨o,ho⟩:=S.fC a hm; rw [ha] at ho; exact bM ho) (fun e=>absurd (tF (z8 S.lo S.ns.lt) hge) (by exact sb e (FA _)))
 exact ⟨⟨own,mf,⟨g1,S.ns.keeps hk,fun x ov hx=>(S.vars x ov hx).keeps hk,S.nd,fun a ha=>(S.fC a ha).imp fun o ho=>hk a o ho,S.dB,S.gens,S.drawn,S.os,S.fE.of fun b zz=>hk b,S.eQ,S.lo⟩⟩,g2⟩
theorem aE.zQ (S:aE prog w c s m G) {h':Heap} {t:Nat} {a d:Addr} (x:GO) (hk:∀ b o,s.heap.get? b=some o→h'.get? b=some o) (ha:s.heap.get? a=none) (hd:s.heap.get? d=none) (hne:a≠d) (hat:x.k.At prog w h' a d) (hge:s.heap.objs.size≤a:=by exact bZ _) :
  aE prog w c {s with heap:=h',toks:=t} m (upd G a x)∧G a=none:=by
 obtain ⟨own,mf,S⟩:=S
 have nav:∀ b,s.heap.get? b=none→b∉c.av:=fun b hb hm=>by obtain ⟨o,ho⟩:=S.fC b hm; rw [hb] at ho; exact bM ho
 obtain ⟨g1,g2⟩:=S.ga.zQ hk ha hd hne hat (nav a ha) (nav d hd) (fun e=>absurd (tF (z8 S.lo S.ns.lt) hge) (by exact sb e (FA _)))
 exact ⟨⟨_,mf,⟨g1,S.ns.keeps hk,fun x ov hx=>(S.vars x ov hx).keeps hk,S.nd,fun a ha=>(S.fC a ha).imp fun o ho=>hk a o ho,S.dB,S.gens,S.drawn,S.os,S.fE.of fun b zz=>hk b,S.eQ,S.lo⟩⟩,g2⟩
theorem GK.At.uH {k:GK} {h:Heap} {a d:Addr} (x:k.At prog w h a d) (v:Option Value):¬h.IsCell a v:=by
 rintro ⟨o,ho,hd⟩
 induction k using GK.casesOn with
 | inst C fs=>rw [x.1] at ho; obtain rfl:=bO ho; cases hd
 | list xs=>obtain ⟨⟨n,ho'⟩,_⟩:=x; rw [ho'] at ho; obtain rfl:=bO ho; cases hd
 | tup xs=>obtain ⟨⟨o',ho',_,n,hd'⟩,_⟩:=x; rw [ho'] at ho; obtain rfl:=bO ho; rw [hd'] at hd; cases hd
 | aZ es=>obtain ⟨⟨o',e,ep,ho',_,hd',_⟩,_⟩:=x; rw [ho'] at ho; obtain rfl:=bO ho; rw [hd'] at hd; cases hd
 | cR es=>obtain ⟨⟨o',e,ep,ho',_,hd',_⟩,_⟩:=x; rw [ho'] at ho; obtain rfl:=bO ho; rw [hd'] at hd; cases hd
 | exc C fs=>obtain ⟨⟨vs,sl,h1,h2⟩,_⟩:=x; rw [h1] at ho; obtain rfl:=bO ho; cases hd
 | cS C fs=>obtain ⟨⟨vs,sl,h1,h2⟩,_⟩:=x; rw [h1] at ho; obtain rfl:=bO ho; cases hd
 | lit l i=>refine c7 x fun o' ho' zz hd'=>?_; rw [ho'] at ho; obtain rfl:=bO ho; rw [hd'] at hd; cases hd
 | eT l i=>refine c7 x fun o' ho' zz hd'=>?_; rw [ho'] at ho; obtain rfl:=bO ho; rw [hd'] at hd; cases hd
 | mH l i=>refine c7 x fun o' ho' zz hd'=>?_; rw [ho'] at ho; obtain rfl:=bO ho; rw [hd'] at hd; cases hd
 | eG x' n=>have x:h.get? a=some _:=x; rw [x] at ho; obtain rfl:=bO ho; cases hd
 | ns=>refine EK x fun mf o' es ep ho' hd' zz=>?_; rw [ho'] at ho; obtain rfl:=bO ho; rw [hd'] at hd; cases hd
theorem GK.At.CW {k:GK} {h:Heap} {a d:Addr} (x:k.At prog w h a d) (hi:k.dE=true) (v:Option Value):¬h.IsCell d v:=by
 rintro ⟨o,ho,hd⟩
 refine sQ (x.HK hi) fun es n h2=>?_
 rw [h2] at ho; obtain rfl:=bO ho; cases hd
theorem aE.turn (S:aE prog w c s m G) {h':Heap} {t:Nat} {a:Addr} {x y:GO} (hG:G a=some x) (hx:x.k.dE=false) (hy:y.k.dE=false) (hs:sS a s.heap h') (hat:∀ d,y.k.At prog w h' a d) :
  aE prog w c {s with heap:=h',toks:=t} m (upd G a y):=by
 obtain ⟨own,mf,S⟩:=S
 have hk:∀ b o,b≠a→s.heap.get? b=some o→h'.get? b=some o:=fun b o hb e=>(hs.2 b hb).trans e
 have ha:=S.ga.at_ a x hG
 have hn:∀ b∈c.av,b≠a:=fun b hm e=>(S.ga.new a x hG).2 (e▸hm)
 refine ⟨own,mf,⟨S.ga.turn hG hx hy hk (hat _),S.ns.sameBut hs (hn _ S.dB),fun x ov hx=>(S.vars x ov hx).aside hk ha.uH,S.nd,fun b hb=>?_,S.dB,S.gens,S.drawn,S.os,S.fE.of fun b hb o=>hk b o (hn b (S.eQ b hb)),S.eQ,S.lo⟩⟩
 obtain ⟨o,ho⟩:=S.fC b hb
 exact ⟨o,hk b o (hn b hb) ho⟩
noncomputable def era (G:Gh) (a:Addr):Gh:=fun b=>if b=a then none else G b
theorem pX {G:Gh} {a b:Addr} {x:GO} (h:era G a b=some x):b≠a∧G b=some x:=by
 unfold era at h; split at h
 ·exact bM h
 ·exact ⟨by assumption,h⟩
theorem aE.ext (S:aE prog w c s m G) {h':Heap} {t:Nat} {a:Addr} {x:GO} (hG:G a=some x) (hx:x.k.dE=false) (hk:Heap.ExtBut a s.heap h'):aE prog w c {s with heap:=h',toks:=t} m (era G a):=by
 obtain ⟨own,mf,S⟩:=S
 have ha:=S.ga.at_ a x hG
 obtain ⟨n1,n2⟩:=S.ga.new a x hG
 have hn:∀ b∈c.av,b≠a:=fun b hm e=>n2 (e▸hm)
 refine ⟨own,mf,⟨⟨fun b o e=>hk b o (fun q=>by rw [q,n1] at e; exact bM e) (S.ga.keep b o e),fun b y e=>?_,fun b y e=>S.ga.new b y (pX e).2,fun b y e hi=>?_,fun b b' y y' e e'=>S.ga.inj b b' y y' (pX e).2 (pX e').2,fun b y e=>S.ga.sys b y (pX e).2⟩,
  ?_,fun x ov hx=>(S.vars x ov hx).aside hk ha.uH,S.nd,fun b hb=>?_,S.dB,S.gens,S.drawn,S.os,S.fE.of fun b hb o=>hk b o (hn b (S.eQ b hb)),S.eQ,S.lo⟩⟩
 ·obtain ⟨hb,e⟩:=pX e
  refine (S.ga.at_ b y e).keeps (fun o=>hk b o hb) (fun hi o=>hk _ o fun q=>?_)
  have:=(S.ga.newD b y e hi).2.2
  rw [q,hG] at this; exact dK this
 ·refine dC (S.ga.newD b y (pX e).2 hi) fun h1 h2 h3=>?_
  refine ⟨h1,h2,?_⟩
  unfold era; split
  ·rfl
  ·exact h3
 ·refine lI S.ns fun o es ep ho r=>?_
  exact ⟨o,es,ep,hk _ o (hn _ S.dB) ho,r⟩
 ·obtain ⟨o,ho⟩:=S.fC b hb
  exact ⟨o,hk b o (hn b hb) ho⟩
theorem aE.sJ (S:aE prog w c s m G) {a:Addr} {C:Addr} {fs:List (Str×Value)} {tg:Tag} (hG:G a=some ⟨tg,.inst C fs⟩) :
  ∃ d es n,s.heap.get? a=some (instObj C d)∧s.heap.get? d=some (dictOf es n)∧SK es fs∧(fs.map (·.1)).Nodup∧(∀ q∈fs,handedIn q.2=true)∧fs.length≤100 ∧
   ∀ (h':Heap) (t:Nat) (fs':List (Str×Value)) (tg':Tag),sS d s.heap h'→(∃ es' n',h'.get? d=some (dictOf es' n')∧SK es' fs')→(fs'.map (·.1)).Nodup→(∀ q∈fs',handedIn q.2=true)→fs'.length≤100 →
    aE prog w c {s with heap:=h',toks:=t} m (upd G a ⟨tg',.inst C fs'⟩):=by
 obtain ⟨own,mf,S⟩:=S
 have ha:=S.ga.at_ a _ hG
 refine EI (id ha) fun h1 zq1 h4 h5 h6=>?_
 obtain ⟨es,n,h2,h3⟩:=zq1
 refine ⟨own a,es,n,h1,h2,h3,h4,h5,h6,fun h' t fs' tg' hs hes hnd hh hl=>?_⟩
 have hk:∀ b o,b≠own a→s.heap.get? b=some o→h'.get? b=some o:=fun b o hb e=>(hs.2 b hb).trans e
 have hn:∀ b∈c.av,b≠own a:=fun b hm e=>(S.ga.newD a _ hG rfl).2.1 (e▸hm)
 have hne:a≠own a:=fun e=>by have:=(S.ga.newD a _ hG rfl).2.2; rw [←e,hG] at this; exact dK this
 refine ⟨own,mf,⟨S.ga.sJ hG rfl rfl hk ⟨hk a _ hne h1,hes,hnd,hh,hl⟩,S.ns.sameBut hs (hn _ S.dB),fun x ov hx=>(S.vars x ov hx).aside hk (ha.CW rfl),S.nd,fun b hb=>?_,S.dB,S.gens,S.drawn,S.os,S.fE.of fun b hb o=>hk b o (hn b (S.eQ b hb)),S.eQ,S.lo⟩⟩
 obtain ⟨o,ho⟩:=S.fC b hb
 exact ⟨o,hk b o (hn b hb) ho⟩
theorem aE.at_ (S:aE prog w c s m G) {a:Addr} {x:GO} (hG:G a=some x):∃ d,x.k.At prog w s.heap a d:=by
 obtain ⟨own,mf,S⟩:=S; exact ⟨_,S.ga.at_ a x hG⟩
theorem aE.list (S:aE prog w c s m G) {a:Addr} {t:Tag} {xs:List Value} (hG:G a=some ⟨t,.list xs⟩):(∃ n,IsL s.heap a xs.toArray n)∧xs.length≤1000000:=(S.at_ hG).elim fun zz h=>h
theorem aE.tup (S:aE prog w c s m G) {a:Addr} {t:Tag} {xs:List Value} (hG:G a=some ⟨t,.tup xs⟩):IsTup s.heap a xs.toArray∧xs.length≤1000000:=(S.at_ hG).elim fun zz h=>h
theorem aE.aZ (S:aE prog w c s m G) {a:Addr} {t:Tag} {es:List (Str×Value)} (hG:G a=some ⟨t,.aZ es⟩):s.heap.DictOf (strKind prog w) a es∧es.length≤1000000:=(S.at_ hG).elim fun zz h=>h
theorem aE.cR (S:aE prog w c s m G) {a:Addr} {t:Tag} {es:List (Int×Value)} (hG:G a=some ⟨t,.cR es⟩):s.heap.DictOf (intKind prog w) a es∧es.length≤1000000:=(S.at_ hG).elim fun zz h=>h
theorem aE.fresh (S:aE prog w c s m G):s.heap.get? s.heap.objs.size=none:=sV (bZ _)
theorem aE.dN (S:aE prog w c s m G) (ok:bL p loose mean mg mb K c):K.In s.heap:=by
 obtain ⟨own,mf,S⟩:=S; exact ok.X.keeps fun b o e=>S.ga.keep b o (ok.bg b o e)
theorem eF.fr {own:Addr→Addr} {mf:Str→Option Value} (S:eF prog w c s m G own mf) (ok:bL p loose mean mg mb K c):Fr c.base c.L s.heap mf:=⟨S.ns,fun b o e=>S.ga.keep b o (ok.bg b o e),ok.low⟩
theorem aE.fr (S:aE prog w c s m G) (ok:bL p loose mean mg mb K c):∃ mf,Fr c.base c.L s.heap mf:=by
 obtain ⟨own,mf,S⟩:=S; exact ⟨mf,S.fr ok⟩
variable {A:Around} {E:Value→Shared→Prop}
theorem aeP {x:Str} {v:Value} {pos:Pos} {Q:Value→Shared→Prop} (ok:bL p loose mean mg mb K c) (S:aE prog w c s m G) (hx:(x,some v)∈m) (h:Q v s):wpAny (model prog w) A (eval (.Name x pos) c.env) Q E s:=by
 obtain ⟨own,mf,S⟩:=S
 rcases S.vars x _ hx with ⟨hk,hv⟩ | ⟨hk,cl,hc,hv⟩
 ·exact wpAny_Name (wpAny_loadName_local ok.kind hk (ok.loc▸S.ns) (hv v rfl) h) (ok.rW x _ hk).1
 ·rcases hk with hk | hk
  ·exact wpAny_Name (wpAny_loadName_cell ok.kind hk hc hv h) (ok.rW x _ hk).1
  ·exact wpAny_Name (wpAny_loadName_free ok.kind hk hc hv h (ok.rW x _ hk).2) (ok.rW x _ hk).1
theorem xJ {x:Str} {v:Value} {pos:Pos} {Q:Value→Shared→Prop} (ok:bL p loose mean mg mb K c) (S:aE prog w c s m G) (hx:(x,v)∈c.gl) (h:Q v s):wpAny (model prog w) A (eval (.Name x pos) c.env) Q E s:=by
 obtain ⟨own,mf,S⟩:=S
 obtain ⟨hk,hv⟩:=ok.wC x v hx
 have T:=topRead_of ok.T
 have kb:∀ b o,c.base.get? b=some o→s.heap.get? b=some o:=fun b o e=>S.ga.keep b o (ok.bg b o e)
 rcases hv with hv | ⟨hv,hb,hn⟩
 ·exact Name_function_global ok.kind hk (loadGlobal_global (env:=c.env) (by exact sb ok.C2 (T.g.keeps kb)) (mg_of ok.X T.g hv) h) (ok.rW x _ hk).1
 ·exact Name_function_global ok.kind hk (loadGlobal_builtin (env:=c.env) (by exact sb ok.C2 (T.g.keeps kb)) (mg_none_of ok.X T.g hv) (by exact sb ok.GN (T.b.keeps kb)) ((T.builtins x hn).trans hb) h) (ok.rW x _ hk).1
inductive j7:aA→Str→Value→aA→Prop
 | here {x ov v r}:j7 ((x,ov)::r) x v ((x,some v)::r)
 | there {p r x v r'}:j7 r x v r'→j7 (p::r) x v (p::r')
theorem j7.names {m m':aA} {x:Str} {v:Value} (h:j7 m x v m'):m'.map (·.1)=m.map (·.1):=by
 induction h with
 | here=>rfl
 | there _ ih=>simp [ih]
theorem j7.mem {m m':aA} {x:Str} {v:Value} (h:j7 m x v m'):∃ ov,(x,ov)∈m:=by
 induction h with
 | here=>exact ⟨_,.head _⟩
 | there _ ih=>obtain ⟨ov,h⟩:=ih; exact ⟨ov,.tail _ h⟩
theorem j7.back {m m':aA} {x:Str} {v:Value} (h:j7 m x v m') (hn:(m.map (·.1)).Nodup):∀ y ov,(y,ov)∈m'→(y=x∧ov=some v)∨(y≠x∧(y,ov)∈m):=by
 induction h with
 | @here x ov v r =>
  intro y ov' hy
  rw [cK,iH] at hn
  rcases cU.mp hy with e | hy
  ·cases e; exact .inl ⟨rfl,rfl⟩
  ·exact .inr ⟨fun e=>hn.1 (e▸kR (f:=(·.1)) hy),.tail _ hy⟩
 | @there p r x v r' h ih =>
  intro y ov' hy
  rw [cK,iH] at hn
  rcases cU.mp hy with e | hy
  ·refine .inr ⟨fun e'=>hn.1 ?_,e▸.head _⟩
   obtain ⟨ov,hm⟩:=h.mem
   have:p.1=x:=by exact aY e e'
   refine sb this ?_; exact kR (f:=(·.1)) hm
  ·exact (ih hn.2 y ov' hy).imp id fun q=>⟨q.1,.tail _ q.2⟩
theorem DC {x:Str} {v:Value} {Q:Unit→Shared→Prop} (ok:bL p loose mean mg mb K c) (S:aE prog w c s m G) (hk:c.env.kindOf x=some .local) (hx:j7 m x v m') (h:∀ s',aE prog w c s' m' G→Q () s'):wpAny (model prog w) A (storeName c.env x v) Q E s:=by
 obtain ⟨own,mf,S⟩:=S
 have nocellL:∀ u,¬s.heap.IsCell c.L u:=fun u ⟨o,ho,hd⟩=>by
  refine mL S.ns fun o' es ep ho' hd' zz=>?_; rw [ho'] at ho; obtain rfl:=bO ho; rw [hd'] at hd; cases hd
 refine wpAny_storeName_local hk (m:=mf) (ok.loc▸S.ns) (fun h' hn hs=>?_) (by show (c.env.scope.kind==.class||(c.env.scope.kind==.module&&_))=false; rw [ok.kind]; rfl)
 rw [ok.loc] at hn hs
 have hkeep:∀ b o,b≠c.L→s.heap.get? b=some o→h'.get? b=some o:=fun b o hb e=>(hs.2 b hb).trans e
 refine h _ ⟨own,_,⟨S.ga.aside hkeep (ok.rA _ S.dB) (S.ga.uJ S.dB),hn,fun y oy hy=>?_,by rw [hx.names]; exact S.nd,fun b hb=>?_,S.dB,S.gens,S.drawn,S.os,S.fE.of fun b hb o=>hkeep b o (fun e=>ok.zN (e▸hb)),S.eQ,S.lo⟩⟩
 ·rcases hx.back S.nd y oy hy with ⟨rfl,rfl⟩ | ⟨hne,hy⟩
  ·exact .inl ⟨hk,fun u e=>by obtain rfl:=bO e; exact if_pos rfl⟩
  ·rcases (S.vars y oy hy).aside hkeep nocellL with ⟨h1,h2⟩ | h1
   ·exact .inl ⟨h1,fun u e=>by simp only [hne,if_false]; exact h2 u e⟩
   ·exact .inr h1
 ·by_cases e:b=c.L
  ·refine lI hn fun o zz zz ho zz=>?_; exact ⟨o,e▸ho⟩
  ·exact (S.fC b hb).imp fun o ho=>hkeep b o e ho
theorem LV {x:Str} {v:Value} {Q:Unit→Shared→Prop} (ok:bL p loose mean mg mb K c) (oo:bB c) (S:aE prog w c s m G) (hx:j7 m x v m') (h:∀ s',aE prog w c s' m' G→Q () s'):wpAny (model prog w) A (storeName c.env x v) Q E s:=by
 obtain ⟨own,mf,S⟩:=S
 obtain ⟨ov,hm⟩:=hx.mem
 have nocellL:∀ u,¬s.heap.IsCell c.L u:=fun u ⟨o,ho,hd⟩=>by
  refine mL S.ns fun o' es ep ho' hd' zz=>?_; rw [ho'] at ho; obtain rfl:=bO ho; rw [hd'] at hd; cases hd
 rcases S.vars x _ hm with ⟨hk,hv⟩ | ⟨hk,cl,hc,hv⟩
 ·refine wpAny_storeName_local hk (m:=mf) (ok.loc▸S.ns) (fun h' hn hs=>?_) (by show (c.env.scope.kind==.class||(c.env.scope.kind==.module&&_))=false; refine sb ok.kind ?_; rfl)
  rw [ok.loc] at hn hs
  have hkeep:∀ b o,b≠c.L→s.heap.get? b=some o→h'.get? b=some o:=fun b o hb e=>(hs.2 b hb).trans e
  refine h _ ⟨own,_,⟨S.ga.aside hkeep (ok.rA _ S.dB) (S.ga.uJ S.dB),hn,fun y oy hy=>?_,by rw [hx.names]; exact S.nd,fun b hb=>?_,S.dB,S.gens,S.drawn,S.os,S.fE.of fun b hb o=>hkeep b o (fun e=>ok.zN (e▸hb)),S.eQ,S.lo⟩⟩
  ·rcases hx.back S.nd y oy hy with ⟨rfl,rfl⟩ | ⟨hne,hy⟩
   ·exact .inl ⟨hk,fun u e=>by obtain rfl:=bO e; exact if_pos rfl⟩
   ·rcases (S.vars y oy hy).aside hkeep nocellL with ⟨h1,h2⟩ | h1
    ·exact .inl ⟨h1,fun u e=>by simp only [hne,if_false]; exact h2 u e⟩
    ·exact .inr h1
  ·by_cases e:b=c.L
   ·refine lI hn fun o zz zz ho zz=>?_; exact ⟨o,e▸ho⟩
   ·exact (S.fC b hb).imp fun o ho=>hkeep b o e ho
 ·rcases hk with hk | hk
  ·refine wpAny_storeName_cell ok.kind hk hc hv fun h' hv' hs=>?_
   have hcl:=oo.QP x cl hc
   have hkeep:∀ b o,b≠cl→s.heap.get? b=some o→h'.get? b=some o:=fun b o hb e=>(hs.2 b hb).trans e
   have hneL:c.L≠cl:=fun e=>nocellL _ (e▸hv)
   refine h _ ⟨own,mf,⟨S.ga.aside hkeep (ok.rA _ hcl) (S.ga.uJ hcl),S.ns.sameBut hs hneL,fun y oy hy=>?_,by rw [hx.names]; exact S.nd,fun b hb=>?_,S.dB,S.gens,S.drawn,S.os,S.fE.of fun b hb o=>hkeep b o (fun e=>oo.cout x cl hc (e▸hb)),S.eQ,S.lo⟩⟩
   ·rcases hx.back S.nd y oy hy with ⟨rfl,rfl⟩ | ⟨hne,hy⟩
    ·exact .inr ⟨.inl hk,cl,hc,hv'⟩
    ·rcases S.vars y oy hy with h1 | ⟨h1,cl',h2,o,ho,hd⟩
     ·exact .inl h1
     ·exact .inr ⟨h1,cl',h2,o,hkeep _ _ (fun e=>hne (oo.QS y x cl (e▸h2) hc)) ho,hd⟩
   ·by_cases e:b=cl
    ·refine aV hv' fun o ho zz=>?_; exact ⟨o,e▸ho⟩
    ·exact (S.fC b hb).imp fun o ho=>hkeep b o e ho
  ·exact absurd hk (oo.aaP x)
end
section
variable (prog:Program) (w:World) (K:Frag) (p:Program) (loose:List Str) (mean:ExcName→Option Value) (mg mb:Str→Option Value)
noncomputable def tT (g:Heap) (av:List Addr) (own:Addr→Addr) (G:Gh) (e:Addr) (fl:Value) (h:Heap):Prop :=
 ∃ oe vs T oT ts,h.get? e=some oe∧oe.data=.fields vs∧vs[1]?=some (.ref T)∧T≠e∧h.get? T=some oT∧oT.data=.fields ts∧ts[3]?=some fl∧g.get? T=none∧T∉av∧¬fp own G T
noncomputable def oF (g:Heap) (av:List Addr) (own:Addr→Addr) (G:Gh) (e:Addr) (h:Heap):Prop :=
 (∃ oe vs,h.get? e=some oe∧oe.data=.fields vs∧vs[1]?=some .none)∨tT g av own G e .none h
noncomputable def oE (G:Gh) (a:Addr):Prop:=∃ t C fs,G a=some ⟨t,.exc C fs⟩
noncomputable def oA (f:Value) (vs:List Value) (G:Gh) (dn un:Nat) (Q:Value→Gh→Prop) (R:Addr→Gh→Prop):Prop :=
 ∀ (A:Around) (base g:Heap) (bK:List Env) (own:Addr→Addr) (s:Shared) (P PE:Value→Shared→Prop),
  Below A base bK s.heap→(∀ b o,base.get? b=some o→g.get? b=some o)→K.In base→Top p loose mean mg mb base→A.handled=none→A.depth+dn<recursionLimit→A.units+un<cLine→cH prog w g s.heap (frs bK) own G →
  (∀ b∈frs bK,g.get? b=none)→base.objs.size≤s.heap.objs.size →
  (∀ r s' own' G',cH prog w g s'.heap (frs bK) own' G'→eH (frs bK) s.heap s'.heap→s'.gens=s.gens→s'.drawn=s.drawn→s'.os=s.os→Q r G'→P r s') →
  (∀ a s' own' G',cH prog w g s'.heap (frs bK) own' G'→eH (frs bK) s.heap s'.heap→s'.gens=s.gens→s'.drawn=s.drawn→s'.os=s.os→oE G' a→oF g (frs bK) own' G' a s'.heap→R a G'→PE (.ref a) s') →
  codeAny (model prog w) A (.call f ⟨vs,[]⟩) (fun r s'=>match r with | .ok (.ret v)=>P v s' | .ok _=>False | .error e=>PE e s') s
noncomputable def FJ (f:Value) (vs:List Value) (G:Gh) (dn un:Nat) (Q:Value→Gh→Prop):Prop:=oA prog w K p loose mean mg mb f vs G dn un Q fun zz zz=>False
noncomputable def Exc (c:Cx) (R:Addr→aA→Gh→Prop) (e:Value) (s:Shared):Prop:=∃ a m G own mf,e=.ref a∧eF prog w c s m G own mf∧oE G a∧oF c.g c.av own G a s.heap∧R a m G
end
section
variable {prog:Program} {w:World} {K:Frag} {p:Program} {loose:List Str} {mean:ExcName→Option Value} {mg mb:Str→Option Value}
variable {c:Cx} {s:Shared} {m m':aA} {G G':Gh}
theorem eF.below {own:Addr→Addr} {mf:Str→Option Value} (S:eF prog w c s m G own mf) (ok:bL p loose mean mg mb K c):Below c.A c.base c.bK s.heap :=
 ok.below _ (fun b o e=>S.ga.keep b o (ok.bg b o e)) ⟨mf,S.ns⟩ S.fE
theorem bL.I4 (ok:bL p loose mean mg mb K c) (ho:∀ b∈c.out,b∈c.av):∀ b∈frs c.bK,b∈c.av:=fun b hb=>by
 rcases ok.WR b hb with rfl | hb
 ·exact ok.dB
 ·exact ho b hb
theorem eF.down {own:Addr→Addr} {mf:Str→Option Value} (S:eF prog w c s m G own mf) (ok:bL p loose mean mg mb K c) :
  ∃ g',(∀ b o,c.base.get? b=some o→g'.get? b=some o)∧cH prog w g' s.heap (frs c.bK) own G∧(∀ b∈frs c.bK,g'.get? b=none)∧c.base.objs.size≤s.heap.objs.size ∧
   ∀ s' own' G',cH prog w g' s'.heap (frs c.bK) own' G'→eH (frs c.bK) s.heap s'.heap→s'.gens=s.gens→s'.drawn=s.drawn→s'.os=s.os→eF prog w c s' m G' own' mf∧∀ a,oF g' (frs c.bK) own' G' a s'.heap→oF c.g c.av own' G' a s'.heap:=by
 have hfa:=ok.I4 S.eQ
 have gOf:∀ b o,(lX s.heap fun b=>fp own G b∨b∈frs c.bK).get? b=some o→s.heap.get? b=some o∧¬fp own G b∧b∉frs c.bK:=fun b o e=>by
  have:=ad3 e; exact ⟨this.1,fun q=>this.2 (.inl q),fun q=>this.2 (.inr q)⟩
 have kg:∀ b o,c.g.get? b=some o→(lX s.heap fun b=>fp own G b∨b∈frs c.bK).get? b=some o:=fun b o e=>by
  rw [wF]
  ·exact S.ga.keep b o e
  ·rintro (q | q)
   ·exact S.ga.aaR e q
   ·rw [ok.rA b (hfa b q)] at e; exact bM e
 have kav:∀ b∈c.av,b∉frs c.bK→∀ o,s.heap.get? b=some o→(lX s.heap fun b=>fp own G b∨b∈frs c.bK).get? b=some o:=fun b hb hn o e=>by
  rw [wF]
  ·exact e
  ·rintro (q | q)
   ·exact S.ga.uJ hb q
   ·exact hn q
 refine ⟨_,fun b o e=>kg b o (ok.bg b o e),⟨fun b o e=>(gOf b o e).1,S.ga.at_,fun a x e=>⟨wG (.inl ⟨a,x,e,.inl rfl⟩),fun hm=>(S.ga.new a x e).2 (hfa a hm)⟩,
  fun a x e hi=>⟨wG (.inl ⟨a,x,e,.inr ⟨hi,rfl⟩⟩),fun hm=>(S.ga.newD a x e hi).2.1 (hfa _ hm),(S.ga.newD a x e hi).2.2⟩,S.ga.inj,S.ga.sys⟩,fun b hb=>wG (.inr hb),aG ok.low (cZ S.ns.lt),?_⟩
 intro s' own' G' D sl h1 h2 h3
 have gnone:∀ b,(lX s.heap fun b=>fp own G b∨b∈frs c.bK).get? b=none→c.g.get? b=none:=fun b=>rX kg
 have navs:∀ b,(lX s.heap fun b=>fp own G b∨b∈frs c.bK).get? b=none→b∉frs c.bK→b∉c.av:=fun b e hn hm=>by
  obtain ⟨o,ho⟩:=S.fC b hm
  rw [kav b hm hn o ho] at e; exact dK e
 refine ⟨⟨⟨fun b o e=>D.keep b o (kg b o e),D.at_,fun a x e=>⟨gnone a (D.new a x e).1,navs a (D.new a x e).1 (D.new a x e).2⟩,fun a x e hi=>⟨gnone _ (D.newD a x e hi).1,navs _ (D.newD a x e hi).1 (D.newD a x e hi).2.1,(D.newD a x e hi).2.2⟩,D.inj,D.sys⟩,
  ?_,fun x ov hx=>?_,S.nd,fun b hb=>?_,S.dB,h1.trans S.gens,h2.trans S.drawn,h3.trans S.os,S.fE.trans (sl.mono fun b hb=>ok.I2 b hb),S.eQ,S.lo⟩,?_⟩
 ·by_cases hf:c.L∈frs c.bK
  ·exact sl.ns hf S.ns
  ·refine lI S.ns fun o es ep ho r=>?_
   exact ⟨o,es,ep,D.keep _ o (kav c.L S.dB hf o ho),r⟩
 ·rcases S.vars x ov hx with h | ⟨hk,cl,hc,hv⟩
  ·exact .inl h
  ·refine .inr ⟨hk,cl,hc,?_⟩
   refine aV hv fun o ho hd=>?_
   by_cases hf:cl∈frs c.bK
   ·obtain ⟨sl',e⟩:=sl cl hf o ho
    exact ⟨_,e,hd⟩
   ·refine ⟨o,D.keep _ _ ?_,hd⟩
    rw [wF]
    ·exact ho
    ·rintro (⟨b,y,e,rfl | ⟨hi,rfl⟩⟩ | q)
     ·exact (S.ga.at_ _ y e).uH _ ⟨o,ho,hd⟩
     ·exact (S.ga.at_ _ y e).CW hi _ ⟨o,ho,hd⟩
     ·exact hf q
 ·obtain ⟨o,ho⟩:=S.fC b hb
  by_cases hf:b∈frs c.bK
  ·obtain ⟨sl',e⟩:=sl b hf o ho
   exact ⟨_,e⟩
  ·exact ⟨o,D.keep b o (kav b hb hf o ho)⟩
 ·rintro a (⟨oe,vs,x1,x2,x3⟩ | ⟨oe,vs,T,oT,ts,x1,x2,x3,x4,x5,x6,x7,x8,x9,x10⟩)
  ·exact .inl ⟨oe,vs,x1,x2,x3⟩
  ·exact .inr ⟨oe,vs,T,oT,ts,x1,x2,x3,x4,x5,x6,x7,gnone T x8,navs T x8 x9,x10⟩
theorem adO {f:Value} {vs:List Value} {dn un:Nat} {Q:Value→Gh→Prop} {R:Addr→Gh→Prop} {P PE:Value→Shared→Prop} (ok:bL p loose mean mg mb K c) (S:aE prog w c s m G) (C:oA prog w K p loose mean mg mb f vs G dn un Q R)
  (hd:c.A.depth+dn<recursionLimit) (hu:c.A.units+un<cLine) (h:∀ r s' G',aE prog w c s' m G'→Q r G'→P r s') (hE:∀ e s',Exc prog w c (fun a m' G'=>m'=m∧R a G') e s'→PE e s'):wpAny (model prog w) c.A (call f vs) P PE s:=by
 obtain ⟨own,mf,S⟩:=S
 refine v7 (S.down ok) fun g' h1 h4 h5 h6 h7=>?_
 refine wpAny_call ?_
 refine C _ _ _ _ own s P PE (S.below ok) h1 ok.X ok.T ok.hh hd hu h4 h5 h6 (fun r s' own' G' D sl e1 e2 e3 q=>h r s' G' ⟨own',mf,(h7 s' own' G' D sl e1 e2 e3).1⟩ q) fun a s' own' G' D sl e1 e2 e3 he ht q=>?_
 obtain ⟨x,y⟩:=h7 s' own' G' D sl e1 e2 e3
 exact hE _ _ ⟨a,m,G',own',mf,rfl,x,he,y a ht,rfl,q⟩
theorem Exc.no {e:Value} (x:Exc prog w c (fun zz zz zz=>False) e s):False:=by refine yJ x fun zz zz zz zz zz zz zz zz zz h=>?_; exact h
theorem oA.mono {f:Value} {vs:List Value} {dn un dn' un':Nat} {Q Q':Value→Gh→Prop} {R R':Addr→Gh→Prop} (C:oA prog w K p loose mean mg mb f vs G dn un Q R) (hd:dn≤dn') (hu:un≤un') (h:∀ r G',Q r G'→Q' r G') (hR:∀ r G',R r G'→R' r G'):oA prog w K p loose mean mg mb f vs G dn' un' Q' R' :=
 fun A base g bK own s P PE B bg X T hh hd' hu' D ho hlo k kE=>C A base g bK own s P PE B bg X T hh (by exact o5 hd hd') (by exact o5 hu hu') D ho hlo (fun r s' own' G' D' sl e1 e2 e3 q=>k r s' own' G' D' sl e1 e2 e3 (h r G' q)) fun a s' own' G' D' sl e1 e2 e3 he ht q=>kE a s' own' G' D' sl e1 e2 e3 he ht (hR a G' q)
structure Flew (fs X:List Addr) (a:Addr) (h h':Heap):Prop where
 slot:∀ b o,h.get? b=some o→b∉X→b≠a→∃ sl,h'.get? b=some {o with slots:=sl}
 keep:∀ b o,h.get? b=some o→b∉X→b≠a→b∉fs→h'.get? b=some o
 exc:∀ oe vs,h.get? a=some oe→oe.data=.fields vs→∃ vs',vs'.size=vs.size∧h'.get? a=some {oe with data:=.fields vs'}
theorem eF.AJ {own:Addr→Addr} {mf:Str→Option Value} (S:eF prog w c s m G own mf) (ok:bL p loose mean mg mb K c) {X:List Addr} {a:Addr} {h':Heap} (F:Flew (frs c.bK) X a s.heap h') (ha:oE G a)
  (hX:∀ x∈X,c.g.get? x=none∧x∉c.av∧¬fp own G x∧∃ oT ts,s.heap.get? x=some oT∧oT.data=.fields ts):eF prog w c {s with heap:=h'} m G own mf:=by
 refine ajI ha fun t C fs hG=>?_
 have hfa:=ok.I4 S.eQ
 obtain ⟨n1,n2⟩:=S.ga.new a _ hG
 have ava:∀ b∈c.av,b≠a:=fun b hb e=>n2 (e▸hb)
 have avX:∀ b∈c.av,b∉X:=fun b hb hx=>(hX b hx).2.1 hb
 have nfp:∀ x,fp own G x→x∉X:=fun x h1 h2=>(hX x h2).2.2.1 h1
 have fsl:eH (frs c.bK) s.heap h':=fun b hb o e=>F.slot b o e (avX b (hfa b hb)) (ava b (hfa b hb))
 refine ⟨⟨fun b o e=>F.keep b o (S.ga.keep b o e) (fun hx=>by rw [(hX b hx).1] at e; exact bM e) (fun q=>by rw [q,n1] at e; exact bM e) (fun hm=>by rw [ok.rA b (hfa b hm)] at e; exact bM e),fun b x e=>?_,S.ga.new,S.ga.newD,S.ga.inj,S.ga.sys⟩,
  ?_,fun x ov hx=>?_,S.nd,fun b hb=>?_,S.dB,S.gens,S.drawn,S.os,S.fE.trans (fsl.mono fun b hb=>ok.I2 b hb),S.eQ,S.lo⟩
 ·have hd:x.k.dE=true→∀ o,s.heap.get? (own b)=some o→h'.get? (own b)=some o:=fun hi o ho=>by
   refine dC (S.ga.newD b x e hi) fun zz q2 q3=>?_
   exact F.keep _ o ho (nfp _ ⟨b,x,e,.inr ⟨hi,rfl⟩⟩) (fun q=>by rw [q,hG] at q3; exact dK q3) (fun hm=>q2 (hfa _ hm))
  by_cases hb:b=a
  ·subst hb
   rw [hG] at e; obtain rfl:=bO e
   refine dC (S.ga.at_ b _ hG) fun zq8 h3 h4=>?_
   obtain ⟨vs,sl,h1,h2⟩:=zq8
   refine aV (F.exc _ vs h1 rfl) fun vs' hs he=>?_
   refine ⟨⟨vs',sl,he,hs▸h2⟩,fun q=>?_,h4⟩
   refine cN (h3 q) fun es n h5 h6=>?_
   exact ⟨es,n,hd (wI q) _ h5,h6⟩
  ·exact (S.ga.at_ b x e).keeps (fun o ho=>F.keep b o ho (nfp _ ⟨b,x,e,.inl rfl⟩) hb (fun hm=>(S.ga.new b x e).2 (hfa _ hm))) hd
 ·refine mL S.ns fun o es ep ho hd r=>?_
  obtain ⟨sl,e⟩:=F.slot c.L o ho (avX _ S.dB) (ava _ S.dB)
  exact ⟨_,es,ep,e,hd,r⟩
 ·rcases S.vars x ov hx with h | ⟨hk,cl,hc,o,ho,hd⟩
  ·exact .inl h
  ·have hca:cl≠a:=fun q=>by subst q; exact (S.ga.at_ _ _ hG).uH _ ⟨o,ho,hd⟩
   by_cases hx':cl∈X
   ·refine EH (hX cl hx') fun zz zz zz zq7=>?_
    obtain ⟨oT,ts,hT,hdT⟩:=zq7
    rw [ho] at hT; obtain rfl:=bO hT; rw [hd] at hdT; cases hdT
   ·obtain ⟨sl,e⟩:=F.slot cl o ho hx' hca
    exact .inr ⟨hk,cl,hc,_,e,hd⟩
 ·obtain ⟨o,ho⟩:=S.fC b hb
  obtain ⟨sl,e⟩:=F.slot b o ho (avX b hb) (ava b hb)
  exact ⟨_,e⟩
end
section
variable {prog:Program} {w:World} {K:Frag} {p:Program} {loose:List Str} {mean:ExcName→Option Value} {mg mb:Str→Option Value}
variable {c:Cx} {s:Shared} {m m':aA} {G G':Gh}
structure FnAt (K:Frag) (f:Addr) (params:Arguments) (body:List Stmt) (scope:Scope) (dV:Value) (gl:List (Str×Value)):Prop where
 look:∃ name qual kV doc pm an cdv ct oc od osl,K.lookup f=some ⟨oc,od,.func (fnOf name qual params body scope dV kV doc pm an cdv ct),osl⟩∧codeIn K cdv qual=true
 co:scope.isCoroutine=false
 gen:scope.isGenerator=false
 kind:scope.kind=.function
 names:(scope.names.map (·.1)).Nodup
 cn:((cellsFrom 0 scope.names []).map (·.1)).Nodup
 plain:(scope.names.all fun y=>!(y.1==("__debug__":Str))&&!(y.1==("__classdict__":Str))&&!(y.2==NameKind.free))=true
 wC:∀ x v,(x,v)∈gl→scope.names.lookup x=some .globalImplicit∧(nsIn K mainGlobals x=some (some v)∨(nsIn K mainGlobals x=some none∧bootBuiltins x=some v∧x≠"__name__"))
noncomputable def AD (scope:Scope) (binds:List (Str×Value)):aA:=scope.names.filterMap fun y=>match y.2 with
 | .local=>some (y.1,bindL (fun x=>scope.names.lookup x) binds (fun zz=>none) y.1)
 | .cell=>some (y.1,bindC (fun x=>scope.names.lookup x) binds (fun zz=>none) y.1)
 | _=>none
noncomputable def zT (scope:Scope) (binds:List (Str×Value)):Bool:=binds.all fun y=>scope.names.lookup y.1==some .local||scope.names.lookup y.1==some .cell
noncomputable def tY (A:Around) (base g:Heap) (bK:List Env) (qual:Str) (scope:Scope) (L f:Addr) (cdv:Value) (o:Shared) (gl:List (Str×Value)):Cx :=
 {A:=A.deeper (envOfC qual scope L f cdv),base,g,bK:=envOfC qual scope L f cdv::bK,env:=envOfC qual scope L f cdv,L,av:=L::((cellsFrom (L+1) scope.names []).map (·.2)++frs bK),o,out:=frs bK,gl}
noncomputable def lE:Flow→Value
 | .ret v=>v
 | _=>.none
noncomputable def PQ (prog:Program) (w:World) (c:Cx) (Q:Value→Gh→Prop) (fl:Flow) (s:Shared):Prop:=∃ m G,aE prog w c s m G∧Q (lE fl) G
theorem CZ {α:Type}:∀ {l:List (Str×α)} {n:Str} {k:α},(l.map (·.1)).Nodup→(n,k)∈l→l.lookup n=some k
 | (x,v)::r,n,k,hn,h=>by
  rw [cK,iH] at hn
  rcases cU.mp h with e | h
  ·cases e; simp
  ·have:(n==x)=false:=by
    simp only [beq_eq_false_iff_ne]; exact fun e=>hn.1 (e▸kR (f:=(·.1)) h)
   exact sb j5 (sb this (CZ hn.2 h))
section
variable {own:Addr→Addr} {mf:Str→Option Value} {M:Model} {E:Value→Shared→Prop} {a:Addr}
theorem LL {L:Addr} {env:Env} {outer:List Env} {head:Value} {hadNext:Bool} {Q:Unit→Shared→Prop} {oe:Obj} {vs:Array Value} (ok:bL p loose mean mg mb K c) (hs:c.bK=env::outer) (hf:env.frame=some L) (S:eF prog w c s m G own mf) (ha:oE G a)
  (he:s.heap.get? a=some oe) (hd:oe.data=.fields vs) (hsz:1<vs.size)
  (h:∀ h',eF prog w c {s with heap:=h'} m G own mf→tT c.g c.av own G a (rawInt L) h'→Q () {s with heap:=h'}) :
  wpAny M c.A (do let f←frameOf env; let pl←entryPlaceOf L hadNext; let b←OT head f .none (rawInt L) .none pl; setField (.ref a) 1 b) Q E s:=by
 have B:=S.below ok
 have hfr:c.A.frames=some (env::outer):=hs▸B.stack
 have hl:s.heap.FunFrames c.base (env::outer):=hs▸B.frames
 refine wpAny_bind (wpAny_frameOf_fun hfr hl hf fun h₁ hs₁=>?_)
 refine wpAny_bind (wpAny_entryPlaceOf fun pl hpl=>?_)
 unfold OT newFields
 refine wpAny_bind (wpAny_newObj_type ?_ (hpl.sizeOk5 _ _ _ _ _))
 have hane:a∉(env::outer).filterMap (·.frame):=fun hm=>by
  obtain ⟨_,o,ho,hnf⟩:=hl.mem hm
  rw [he] at ho; obtain rfl:=bO ho; exact hnf vs hd
 have he₁:h₁.get? a=some oe:=(hs₁.2.1 a hane).trans he
 have hTa:h₁.objs.size≠a:=Nat.ne_of_gt (v9 he₁)
 have nT:s.heap.get? h₁.objs.size=none:=by
  exact sb hs₁.1 (sV (bZ _))
 have h3T:([head,.ref L,.none,rawInt L,.none]++(if pl.isEmpty then F3 6 Value.none else pl)).toArray[3]?=some (rawInt L):=by
  first | (exact rfl; done) | (rcases hpl with rfl | ⟨_,_,_,_,_,_,_,rfl⟩<;>simp)
 generalize hob:({cls:=.type "traceback",dict:=none,data:=.fields ([head,.ref L,.none,rawInt L,.none]++(if pl.isEmpty then F3 6 Value.none else pl)).toArray}:Obj)=obT
 have hdT:obT.data=.fields ([head,.ref L,.none,rawInt L,.none]++(if pl.isEmpty then F3 6 Value.none else pl)).toArray:=by subst hob; rfl
 have hfT:obT.isFreed=false:=by subst hob; rfl
 have he₂:=d8 (h:=h₁) obT he₁
 have hd₃:=FE hd (·.setIfInBounds 1 (Value.ref h₁.objs.size))
 have he₃:=v8 (pI (·.setIfInBounds 1 (Value.ref h₁.objs.size))) he₂ (P5 hd₃)
 have keep:∀ b o,b≠a→h₁.get? b=some o→((h₁.push obT).update a (pI (·.setIfInBounds 1 (Value.ref h₁.objs.size)))).get? b=some o:=fun b o hb e=>by
  exact sb (sW _ _ (Ne.symm hb)) (d8 _ e)
 have F:Flew (frs c.bK) [] a s.heap ((h₁.push obT).update a (pI (·.setIfInBounds 1 (Value.ref h₁.objs.size)))):=by
  refine ⟨fun b o e zz hb=>?_,fun b o e zz hb hn=>keep b o hb ((hs₁.2.1 b (by rw [hs] at hn; exact hn)).trans e),fun oe' vs' e q=>?_⟩
  ·obtain ⟨sl,hq⟩:=hs₁.2.2 b o e
   exact ⟨sl,keep b _ hb hq⟩
  ·rw [he] at e; obtain rfl:=bO e; rw [hd] at q; cases q
   refine ⟨vs.setIfInBounds 1 (Value.ref h₁.objs.size),by simp,he₃.trans ?_⟩
   obtain ⟨cl,di,da,fE⟩:=oe
   cases hd; rfl
 refine wpAny_setField he₂ hd hsz (h _ (S.AJ ok F ha fun x hx=>by simp at hx) ⟨_,_,h₁.objs.size,obT,_,he₃,hd₃,by simp [hsz],hTa,?_,hdT,h3T,?_,?_,?_⟩)
 ·refine sb (sW _ _ (Ne.symm hTa)) ?_
  exact j4 h₁ hfT
 ·exact rX S.ga.keep nT
 ·intro hm; obtain ⟨o,ho⟩:=S.fC _ hm; rw [nT] at ho; exact bM ho
 ·exact S.ga.aaS nT
theorem LR {L:Addr} {env:Env} {outer:List Env} {Q:Unit→Shared→Prop} (ok:bL p loose mean mg mb K c) (hs:c.bK=env::outer) (hf:env.frame=some L) (S:eF prog w c s m G own mf) (ha:oE G a) (T:oF c.g c.av own G a s.heap)
  (h:∀ h',eF prog w c {s with heap:=h'} m G own mf→tT c.g c.av own G a (rawInt L) h'→Q () {s with heap:=h'}):wpAny M c.A (noteFrame (.ref a) env) Q E s:=by
 unfold noteFrame
 simp only [hf]
 rcases T with ⟨oe,vs,he,hd,h1⟩ | ⟨oe,vs,T,oT,ts,he,hd,h1,hTa,hT,hdT,h3,n1,n2,n3⟩
 ·refine wpAny_bind (wpAny_field he hd h1 ?_)
  refine sb (if_neg (by decide)) ?_
  exact LL ok hs hf S ha he hd (yK.mp h1).1 h
 ·refine wpAny_bind (wpAny_field he hd h1 ?_)
  refine sb (if_pos (show (Value.ref T != Value.none)=true from by exact rfl)) ?_
  refine wpAny_bind (wpAny_field hT hdT h3 ?_)
  refine sb (if_neg (show ¬((Value.none==rawInt L)=true) from by simp [rawInt])) ?_
  refine wpAny_bind (wpAny_setField hT hdT (yK.mp h3).1 ?_)
  have other:∀ b,b≠T→(s.heap.update T (pI (·.setIfInBounds 3 Value.none))).get? b=s.heap.get? b:=fun b hb=>sW _ _ (Ne.symm hb)
  have F:Flew (frs c.bK) [T] a s.heap (s.heap.update T (pI (·.setIfInBounds 3 Value.none))):=by
   refine ⟨fun b o e hb zz=>⟨o.slots,(other b (by simpa using hb)).trans e⟩,fun b o e hb zz zz=>(other b (by simpa using hb)).trans e,fun oe' vs' e q=>⟨vs',rfl,?_⟩⟩
   exact sb (other a (Ne.symm hTa)) (sb e (aY q rfl))
  exact LL (s:={s with heap:=_}) ok hs hf (S.AJ ok F ha fun x hx=>by obtain rfl:=cG.mp hx; exact ⟨n1,n2,n3,oT,ts,hT,hdT⟩) ha ((other a (Ne.symm hTa)).trans he) hd (yK.mp h1).1 h
theorem DB {fl:Value} {Q:Unit→Shared→Prop} {A:Around} (ok:bL p loose mean mg mb K c) (S:eF prog w c s m G own mf) (ha:oE G a) (T:tT c.g c.av own G a fl s.heap)
  (h:∀ h',eF prog w c {s with heap:=h'} m G own mf→tT c.g c.av own G a .none h'→Q () {s with heap:=h'}):wpAny M A (setFlight (.ref a) none) Q E s:=by
 refine ajM T fun oe vs T oT ts he hd h1 hTa hT hdT h3 n1 n2 n3=>?_
 have other:∀ b,b≠T→(s.heap.update T (pI (·.setIfInBounds 3 ((none:Option Addr).elim Value.none fun f=>rawInt f)))).get? b=s.heap.get? b:=fun b hb=>sW _ _ (Ne.symm hb)
 have hsz3:3<ts.size:=(yK.mp h3).1
 unfold setFlight
 refine wpAny_bind (wpAny_field he hd h1 ?_)
 refine sb (if_pos (show (Value.ref T != Value.none)=true from by exact rfl)) ?_
 have F:Flew (frs c.bK) [T] a s.heap (s.heap.update T (pI (·.setIfInBounds 3 ((none:Option Addr).elim Value.none fun f=>rawInt f)))):=by
  refine ⟨fun b o e hb zz=>⟨o.slots,(other b (by simpa using hb)).trans e⟩,fun b o e hb zz zz=>(other b (by simpa using hb)).trans e,fun oe' vs' e q=>⟨vs',rfl,?_⟩⟩
  exact sb (other a (Ne.symm hTa)) (sb e (aY q rfl))
 exact wpAny_setField hT hdT hsz3 (h _ (S.AJ ok F ha fun x hx=>by obtain rfl:=cG.mp hx; exact ⟨n1,n2,n3,oT,ts,hT,hdT⟩)
  ⟨oe,vs,T,_,_,(other a (Ne.symm hTa)).trans he,hd,h1,hTa,v8 _ hT (P5 (FE hdT _)),FE hdT _,by simp [hsz3],n1,n2,n3⟩)
theorem aeE {L:Addr} {env:Env} {outer:List Env} {Q:Unit→Shared→Prop} (ok:bL p loose mean mg mb K c) (hs:c.bK=env::outer) (hf:env.frame=some L) (S:eF prog w c s m G own mf) (ha:oE G a) (T:oF c.g c.av own G a s.heap)
  (h:∀ h',eF prog w c {s with heap:=h'} m G own mf→oF c.g c.av own G a h'→Q () {s with heap:=h'}):wpAny M c.A (leaving env (.ref a)) Q E s:=by
 unfold leaving
 exact wpAny_bind (LR ok hs hf S ha T fun h' S' T'=>DB ok S' ha T' fun h'' S'' T''=>h h'' S'' (.inr T''))
end
theorem AN {base h h':Heap}:∀ {l:List Env},eH (frs l) h h'→h.FunFrames base l→h'.FunFrames base l
 | [],_,_=>trivial
 | env::rest,x,⟨hk,⟨L,o,hf,hn,ho,hd⟩,hr⟩=>by
  have e:frs (env::rest)=L::frs rest:=by unfold frs; exact sb List.filterMap_cons (sb hf rfl)
  rw [e] at x
  obtain ⟨sl,hs⟩:=x L c8 o ho
  exact ⟨hk,⟨L,_,hf,hn,hs,hd⟩,AN (x.mono fun b hb=>cL _ hb) hr⟩
theorem enterX {f:Addr} {params:Arguments} {body:List Stmt} {scope:Scope} {dV:Value} {gl:List (Str×Value)} {vs:List Value} {binds:List (Str×Value)} {dn un:Nat} {Q:Value→Gh→Prop} {R:Addr→Gh→Prop} (F:FnAt K f params body scope dV gl)
  (hbind:∀ (s':Shared) (name qual:Str) (kV doc pm:Value) (an:Option Addr) (cdv ct:Value),K.In s'.heap→BindsTo s' (fnOf name qual params body scope dV kV doc pm an cdv ct) ⟨vs,[]⟩ binds) (hb:zT scope binds=true) (hm:AD scope binds=m) (hdn:1≤dn) (hun:3≤un)
  (h:∀ c s,bL p loose mean mg mb K c→bB c→aE prog w c s m G→c.env.scope=scope→c.gl=gl→c.A.depth+(dn - 1)<recursionLimit→c.A.units+(un - 3)<cLine→wpAny (model prog w) c.A (execs body c.env) (PQ prog w c Q) (Exc prog w c (fun a zz G=>R a G)) s) :
  oA prog w K p loose mean mg mb (.ref f) vs G dn un Q R:=by
 intro A base g bK own s P PE B bg X T hh hd hu D hout hlo k kE
 obtain ⟨name,qual,kV,doc,pm,an,cdv,ct,oc,od,osl,hlook,hcode⟩:=F.look
 have kb:∀ b o,base.get? b=some o→s.heap.get? b=some o:=fun b o e=>D.keep b o (bg b o e)
 have Xs:K.In s.heap:=X.keeps kb
 have hscope:∀ x∈binds,scope.names.lookup x.1=some .local∨scope.names.lookup x.1=some .cell:=fun x hx=>by
  have:=gJ.mp hb x hx
  simpa using this
 refine (codeAny_call_function (fd:=fnOf name qual params body scope dV kV doc pm an cdv ct) (by exact abY hd) (Xs _ _ hlook) rfl F.co F.gen rfl (codeRec_of Xs hcode) (hbind s _ _ _ _ _ _ _ _ Xs _ _ _ _ ?_))
 refine wpAny_newFunctionEnv_cells F.kind (fun x hx=>?_) fun env' he s' x=>?_
 ·rcases hscope x hx with e | e
  ·exact .inl e
  ·exact .inr ⟨e,cellsFrom_some _ _ _ (.inl e)⟩
 subst he
 refine cN x.done fun h₁ tk zq6 hk₁=>?_
 subst zq6
 have hns:=x.toInCall.ns
 refine ⟨(T.nolimit.keeps kb).keeps hk₁,codeAny_func ?_⟩
 have Dh:=D.grow hk₁
 have above:∀ b,s.heap.objs.size≤b→s.heap.get? b=none:=fun b=>sV
 have Lnone:=above _ (bZ _)
 have gnone:∀ b,s.heap.get? b=none→g.get? b=none:=fun b=>rX D.keep
 have outThere:∀ b∈frs bK,∃ o,s.heap.get? b=some o:=fun b hb=>by
  obtain ⟨_,o,ho,_⟩:=B.frames.mem hb; exact ⟨o,ho⟩
 have outLt:∀ b∈frs bK,b<s.heap.objs.size:=fun b hb=>by
  obtain ⟨o,ho⟩:=outThere b hb; exact v9 ho
 have avn:∀ b∈s.heap.objs.size::(cellsFrom (s.heap.objs.size+1) scope.names []).map (·.2),s.heap.objs.size≤b:=fun b hb=>by
  rcases cU.mp hb with rfl | hb
  ·exact bZ _
  ·refine aV (cP.mp hb) fun q hq zq5=>?_
   subst zq5
   exact cZ (x.above q.1 q.2 hq)
 have C0:bL p loose mean mg mb K (tY A base g bK qual scope s.heap.objs.size f cdv s gl):=by
  refine ⟨fun h hg hm sl=>?_,bg,fun b hb=>cU.mp hb,fun b hb=>cL _ hb,fun hb=>absurd (outLt _ hb) (FA _),hlo,X,T,hh,rfl,rfl,rfl,F.kind,c8,fun b hb=>?_,fun x k hx=>?_,fun x v hx=>F.wC x v hx⟩
  ·obtain ⟨mm,hmm⟩:=hm
   refine ⟨Around.frames_deeper B.stack,hg,?_⟩
   exact .cons (by show scope.kind≠_; refine sb F.kind ?_; decide) rfl hmm (rX kb Lnone) (AN sl B.frames)
  ·rcases cU.mp hb with rfl | hb
   ·exact gnone _ Lnone
   ·rcases bW.mp hb with hb | hb
    ·exact gnone b (above b (avn b (cL _ hb)))
    ·exact hout b hb
  ·have:=gJ.mp F.plain (x,k) (mem_of_lookup hx)
   simp only [jD,lJ] at this
   exact this.1
 have O0:bB (tY A base g bK qual scope s.heap.objs.size f cdv s gl):=by
  refine ⟨fun x hx=>?_,fun x cl hx=>cL _ (dD _ (kR (f:=(·.2)) (mem_of_lookup hx))),fun y z cl hy hz=>name_of_addr x.apart (mem_of_lookup hy) (mem_of_lookup hz),fun y cl hy hb=>?_,rfl,_,rfl⟩
  ·have:=gJ.mp F.plain (x,.free) (mem_of_lookup hx)
   simp at this
  ·have:=avn cl (cL _ (kR (f:=(·.2)) (mem_of_lookup hy)))
   exact absurd (outLt _ hb) (mW.mpr this)
 have S0:aE prog w (tY A base g bK qual scope s.heap.objs.size f cdv s gl) {s with heap:=h₁,toks:=tk} m G:=by
  refine ⟨own,_,⟨⟨Dh.keep,Dh.at_,fun a y e=>⟨(Dh.new a y e).1,fun hm=>?_⟩,fun a y e hi=>⟨(Dh.newD a y e hi).1,fun hm=>?_,(Dh.newD a y e hi).2.2⟩,Dh.inj,Dh.sys⟩,hns,fun y ov hy=>?_,?_,fun b hb=>?_,c8,rfl,rfl,rfl,(eH.refl _ _).of fun b zz=>hk₁ b,fun b hb=>cL _ (cW _ hb),tF (modules_low T.nolimit) hlo⟩⟩
  ·rcases bW.mp (show a∈(s.heap.objs.size::(cellsFrom (s.heap.objs.size+1) scope.names []).map (·.2))++frs bK from hm) with hm | hm
   ·obtain ⟨o,ho⟩:=(D.at_ a y e).there
    rw [above a (avn a hm)] at ho; exact bM ho
   ·exact (D.new a y e).2 hm
  ·rcases bW.mp (show own a∈(s.heap.objs.size::(cellsFrom (s.heap.objs.size+1) scope.names []).map (·.2))++frs bK from hm) with hm | hm
   ·obtain ⟨o,ho⟩:=(D.at_ a y e).qH hi
    rw [above _ (avn _ hm)] at ho; exact bM ho
   ·exact (D.newD a y e hi).2.1 hm
  ·rw [←hm] at hy
   refine aV (List.mem_filterMap.mp hy) fun zq4 hq he=>?_
   obtain ⟨n,kd⟩:=zq4
   have hl:=CZ F.names hq
   induction kd using NameKind.casesOn with
   | «local»=>cases he; exact .inl ⟨hl,fun v e=>by cases hv:bindL (fun x=>scope.names.lookup x) binds (fun zz=>none) n with
     | none=>rw [hv] at e; exact bM e
     | some u=>rw [hv] at e; obtain rfl:=bO e; exact hv⟩
   | cell =>
    cases he
    have:=cellsFrom_some (x:=n) scope.names (s.heap.objs.size+1) [] (.inl hl)
    obtain ⟨cl,hcl⟩:=FF.mp this
    exact .inr ⟨.inl hl,cl,hcl,x.cell n cl hcl⟩
   | _=>exact bM he
  ·refine aY hm ?_
   have:∀ l:List (Str×NameKind),(l.map (·.1)).Nodup→((l.filterMap fun y=>match y.2 with
     | .local=>some (y.1,bindL (fun x=>scope.names.lookup x) binds (fun zz=>none) y.1)
     | .cell=>some (y.1,bindC (fun x=>scope.names.lookup x) binds (fun zz=>none) y.1)
     | _=>none).map (·.1)).Nodup∧∀ n,n∈(l.filterMap fun y=>match y.2 with
     | .local=>some (y.1,bindL (fun x=>scope.names.lookup x) binds (fun zz=>none) y.1)
     | .cell=>some (y.1,bindC (fun x=>scope.names.lookup x) binds (fun zz=>none) y.1)
     | _=>none).map (·.1)→n∈l.map (·.1):=by
    intro l
    induction l with
    | nil=>intro _; exact ⟨vL,fun n hn=>hn⟩
    | cons q r ih =>
     intro hn
     rw [cK,iH] at hn
     obtain ⟨i1,i2⟩:=ih hn.2
     obtain ⟨n,kd⟩:=q
     induction kd using NameKind.casesOn<;>simp only [List.filterMap_cons,cK,iH]<;>first
      | exact ⟨i1,fun z hz=>cL _ (i2 z hz)⟩
      | exact ⟨⟨fun hz=>hn.1 (i2 _ hz),i1⟩,fun z hz=>by
        rcases cU.mp hz with rfl | hz
        ·exact c8
        ·exact cL _ (i2 z hz)⟩
   exact (this scope.names F.names).1
  ·rcases cU.mp hb with rfl | hb
   ·refine lI hns fun o zz zz ho zz=>?_; exact ⟨o,ho⟩
   ·rcases bW.mp hb with hb | hb
    rotate_left
    ·obtain ⟨o,ho⟩:=outThere b hb; exact ⟨o,hk₁ b o ho⟩
    refine aV (cP.mp hb) fun q hq zq3=>?_
    subst zq3
    have hnd:((cellsFrom (s.heap.objs.size+1) scope.names []).map (·.1)).Nodup:=cellsFrom_names scope.names 0 (s.heap.objs.size+1) [] [] rfl▸F.cn
    refine aV (x.cell q.1 q.2 (CZ hnd hq)) fun o ho zz=>?_
    exact ⟨o,ho⟩
 have back:∀ {m':aA} {G':Gh} {own':Addr→Addr} {mf':Str→Option Value} {s':Shared},eF prog w (tY A base g bK qual scope s.heap.objs.size f cdv s gl) s' m' G' own' mf' →
   cH prog w g s'.heap (frs bK) own' G':=fun S'=>⟨S'.ga.keep,S'.ga.at_,fun a y e=>⟨(S'.ga.new a y e).1,fun hm=>(S'.ga.new a y e).2 (cL _ (cW _ hm))⟩,
    fun a y e hi=>⟨(S'.ga.newD a y e hi).1,fun hm=>(S'.ga.newD a y e hi).2.1 (cL _ (cW _ hm)),(S'.ga.newD a y e hi).2.2⟩,S'.ga.inj,S'.ga.sys⟩
 refine wpAny_mono (h _ _ C0 O0 S0 rfl rfl (by show A.depth+1+_<_; exact abX hdn hd) (by show A.units+3+_<_; exact abW hun hu)) (fun fl s' hl=>?_) fun e s' y=>?_
 ·refine cN hl fun m' G' zq2 q=>?_
  obtain ⟨own',mf',S'⟩:=zq2
  have fin:P (lE fl) s':=k _ s' own' G' (back S') S'.fE S'.gens S'.drawn S'.os q
  induction fl using Flow.casesOn<;>exact fin
 ·refine yJ y fun a m' G' own' mf' zq1 S' ha T' q=>?_
  subst zq1
  refine aeE (c:=tY A base g bK qual scope s.heap.objs.size f cdv s gl) C0 rfl rfl S' ha T' fun h' S'' T''=>?_
  refine kE a _ own' G' (back S'') S''.fE S'.gens S'.drawn S'.os ha ?_ q
  rcases T'' with x | ⟨oe,vs,T,oT,ts,x1,x2,x3,x4,x5,x6,x7,x8,x9,x10⟩
  ·exact .inl x
  ·exact .inr ⟨oe,vs,T,oT,ts,x1,x2,x3,x4,x5,x6,x7,x8,fun hm=>x9 (cL _ (cW _ hm)),x10⟩
end
structure ClsAt (K:Frag) (C:Addr) (flds:List Str):Prop where
 pg:∀ n,plainGet K C n=true
 kJ:findIn K (.ref C) "__setattr__"=some (some (.builtin "object.__setattr__"))
 hd:hasDictIn K C=true
 po:plainOver K C=true
 fld:∀ n∈flds,findIn K (.ref C) n=some none
structure MethAt (K:Frag) (C:Addr) (n:Str) (f:Addr):Prop where
 hf:findIn K (.ref C) n=some (some (.ref f))
 ht:isFn K (.ref f)=true
section
variable {prog:Program} {w:World} {K:Frag} {p:Program} {loose:List Str} {mean:ExcName→Option Value} {mg mb:Str→Option Value}
variable {c:Cx} {s:Shared} {m m':aA} {G G':Gh} {A:Around} {E:Value→Shared→Prop}
theorem aE.inst (S:aE prog w c s m G) {a C:Addr} {t:Tag} {fs:List (Str×Value)} (hG:G a=some ⟨t,.inst C fs⟩) :
  ∃ d es n,InstAt s.heap a (instObj C d) C (some (dictOf es n))∧SK es fs∧(fs.map (·.1)).Nodup∧(∀ q∈fs,handedIn q.2=true):=by
 refine v7 (S.at_ hG) fun d h1 zq1 h4 h5 h6=>?_
 obtain ⟨es,n,h2,h3⟩:=zq1
 exact ⟨d,es,n,⟨h1,rfl,rfl,h2⟩,h3,h4,h5⟩
theorem iU.all {fs fs':List (Str×Value)} {n:Str} {v:Value} {P:Value→Prop} (h:iU fs n v fs') (hv:P v) (hh:∀ q∈fs,P q.2):∀ q∈fs',P q.2:=by
 induction h with
 | here=>intro q hq; rcases cU.mp hq with rfl | hq; exact hv; exact hh q (.tail _ hq)
 | there _ ih=>intro q hq; rcases cU.mp hq with rfl | hq; exact hh _ (.head _); exact ih hv (fun q hq=>hh q (.tail _ hq)) q hq
theorem adM {a C:Addr} {t:Tag} {fs:List (Str×Value)} {n:Str} {v:Value} {expr:Bool} {flds:List Str} {Q:Value→Shared→Prop} (ok:bL p loose mean mg mb K c) (S:aE prog w c s m G) (CA:ClsAt K C flds)
  (hG:G a=some ⟨t,.inst C fs⟩) (hf:(n,v)∈fs) (hn:n∈flds) (h:∀ s',aE prog w c s' m G→Q v s'):wpAny (model prog w) A (getAttr (.ref a) n expr) Q E s:=by
 refine OL (S.inst hG) fun d es k I hsk hnd hh=>?_
 obtain ⟨mf,F⟩:=S.fr ok
 exact get_own F ok.X I (CA.pg n) CA.hd (CA.fld n hn) rfl (by exact sb (hsk.get _) (sb (ZG hnd hf) rfl)) (hh _ hf) (h _ (S.toks _))
theorem aeN {a C f:Addr} {t:Tag} {fs:List (Str×Value)} {n:Str} {flds:List Str} {pl:Sem Bool} {Q:Value×List Value→Shared→Prop} (ok:bL p loose mean mg mb K c) (S:aE prog w c s m G) (CA:ClsAt K C flds)
  (MA:MethAt K C n f) (hG:G a=some ⟨t,.inst C fs⟩) (hn:(fs.all fun q=>!(q.1==n))=true) (h:Q (.ref f,[.ref a]) s):wpAny (model prog w) A (getMethod (.ref a) n pl) Q E s:=by
 refine OL (S.inst hG) fun d es k I hsk hnd hh=>?_
 obtain ⟨mf,F⟩:=S.fr ok
 exact method_inst F ok.X I (CA.pg n) MA.hf MA.ht (by exact sb (hsk.get _) (sb (lookup_none (D0 hn)) rfl)) h
set_option tactic.hygienic true in
theorem LD (n:Str) (hsh:Int) (k v:Value):∀ l:List DictEntry,(putL n hsh k v l).length≤l.length+1
 | []=>by exact iR _
 | q::r=>by
  have:=LD n hsh k v r
  unfold putL; split<;>simp; exact this
set_option tactic.hygienic true in
theorem I6 {n:Str} {es:List DictEntry} (hl:(getL n es).isSome=true):(!es.toArray.any (·.key.isStr n)&&es.toArray.any (·.refKey))=false:=by
 unfold getL at hl
 refine sb yS (sb yS ?_)
 split at hl
 ·rename_i en he
  refine sb (yR.mpr ⟨en,P0 he,EX he⟩) ?_; rfl
 ·split at hl
  ·cases hl
  ·rename_i z; rw [Bool.not_eq_true] at z; exact sb z (sb (Bool.and_false _) rfl)
theorem D6 {d:Addr} {es:List DictEntry} {k:Nat} {n:Str} {v:Value} {Q:Fin→Shared→Prop} (hd:s.heap.get? d=some (dictOf es k)) (cc:(!es.toArray.any (·.key.isStr n)&&es.toArray.any (·.refKey))=false) (hz:es.length≤1000)
  (h:∀ h',sS d s.heap h'→h'.get? d=some (dictOf (putL n (nZ w.params n) (.str n s.toks) v es) (putN n es k))→Q (.done (.ret .none)) {s with heap:=h',toks:=s.toks+1}) :
  wpAny (model prog w) A (nsSet d n v) (fun zz s'=>wpAny (model prog w) A (do lookBehind d (some (Value.str n 0)); ret Value.none) Q E s') E s:=by
 have e:Obj.putName n (nZ w.params n) (.str n s.toks) v (dictOf es k)=dictOf (putL n (nZ w.params n) (.str n s.toks) v es) (putN n es k):=putName_dict _ _ _ _ _ _
 unfold nsSet
 refine wpAny_bind (wpAny_bind (wpAny_askSetting (wpAny_pure (wpAny_bind (wpAny_mkText (wpAny_bind (wpAny_loadPart hd ?_)))))))
 dsimp only
 refine sb (aRefKeyMayBeTheName_at _ _) (sb cc ?_)
 refine wpAny_updatePart hd ?_
 have D':(s.heap.update d (Obj.putName n (nZ w.params n) (.str n s.toks) v)).get? d=some (dictOf (putL n (nZ w.params n) (.str n s.toks) v es) (putN n es k)):=by
  exact aY e (v8 _ hd (by refine sb e ?_; rfl))
 refine wpAny_bind (wpAny_lookBehind D' (by
  refine pastItsLine_dict ?_
  refine sb gK (sb sizeLine_eq ?_)
  exact aG (LD n (nZ w.params n) (.str n s.toks) v es) (aG (d7 hz) (ble rfl))) ?_)
 exact wpAny_pure (h _ (sU ..) D')
theorem ML {d a C:Addr} {es:List DictEntry} {k:Nat} {n:Str} {v:Value} {flds:List Str} {Q:Unit→Shared→Prop} (CA:ClsAt K C flds) (X:K.In s.heap) (hn:n∈flds)
  (ha:s.heap.get? a=some (instObj C d)) (hd:s.heap.get? d=some (dictOf es k)) (hl:(getL n es).isSome=true) (hz:es.length≤1000)
  (h:∀ h' t,sS d s.heap h'→h'.get? d=some (dictOf (putL n (nZ w.params n) (.str n (s.toks+1)) v es) (putN n es k))→Q () {s with heap:=h',toks:=t}) :
  wpAny (model prog w) A (setAttr (.ref a) n v) Q E s:=by
 have I:InstAt s.heap a (instObj C d) C (some (dictOf es k)):=⟨ha,rfl,rfl,hd⟩
 refine set_plain X I CA.kJ ?_
 have ht:takerIn K C n=some none:=by unfold takerIn; refine sb (CA.fld n hn) ?_; rfl
 refine osa_open (s:={s with toks:=s.toks+1}) X I CA.po ht fun b=>?_
 refine aV (any_some CA.hd) fun cd hc hdd=>?_
 refine wpAny_bind (wpAny_pure (wpAny_bind (wpAny_bind (wpAny_loadPart ha (wpAny_bind (looks_clsIn X hc _ _ _ _ (fun zz zz e=>e) ?_))))))
 refine sb hdd ?_
 refine wpAny_pure (a:=some d) (wpAny_bind (wpAny_pure (wpAny_bind ?_)))
 exact D6 (s:={s with toks:=s.toks+1}) hd (I6 hl) hz fun h' hs hg=>h h' _ hs hg
theorem af7 {a C:Addr} {t t':Tag} {fs fs':List (Str×Value)} {n:Str} {v:Value} {flds:List Str} {Q:Unit→Shared→Prop} (ok:bL p loose mean mg mb K c) (S:aE prog w c s m G) (CA:ClsAt K C flds)
  (hG:G a=some ⟨t,.inst C fs⟩) (hf:iU fs n v fs') (hn:n∈flds) (hv:handedIn v=true) (h:∀ s',aE prog w c s' m (upd G a ⟨t',.inst C fs'⟩)→Q () s'):wpAny (model prog w) A (setAttr (.ref a) n v) Q E s:=by
 refine OM (S.sJ hG) fun d es k h1 h2 h3 h4 h5 h6 h7=>?_
 refine ML CA (S.dN ok) hn h1 h2 (by refine sb (h3.get _) ?_; rfl) (by exact sb h3.length (aG h6 (ble rfl))) fun h' tk hs hd=>h _ (h7 h' tk fs' t' hs ⟨_,_,hd,hf.put h4▸h3.put n _ _ v⟩ (by exact sb hf.names h4) (fun q hq=>?_) ?_)
 ·exact hf.all (P:=fun u=>handedIn u=true) hv h5 q hq
 ·have:=congrArg List.length hf.names
  simp only [cT] at this
  exact aG (b5 this) h6
theorem aeU {a C:Addr} {t t':Tag} {fs:List (Str×Value)} {n:Str} {v:Value} {flds:List Str} {Q:Unit→Shared→Prop} (ok:bL p loose mean mg mb K c) (S:aE prog w c s m G) (CA:ClsAt K C flds)
  (hG:G a=some ⟨t,.inst C fs⟩) (hf:(fs.all fun q=>!(q.1==n))=true) (hl:fs.length<100) (hn:n∈flds) (hv:handedIn v=true) (h:∀ s',aE prog w c s' m (upd G a ⟨t',.inst C (fs++[(n,v)])⟩)→Q () s') :
  wpAny (model prog w) A (setAttr (.ref a) n v) Q E s:=by
 refine OM (S.sJ hG) fun d es k h1 h2 h3 h4 h5 h6 h7=>?_
 refine ML CA (S.dN ok) hn h1 h2 (by refine sb (h3.get _) ?_; rfl) (by exact sb h3.length (aG (cZ hl) (ble rfl))) fun h' tk hs hd=>h _ (h7 h' tk (fs++[(n,v)]) t' hs ⟨_,_,hd,LC hf▸h3.put n _ _ v⟩ ?_ (fun q hq=>?_) (by simp; exact (qW hl)))
 ·(refine sb dR ?_; rw [mU])
  refine ⟨h4,by simp,fun x hx y hy e=>?_⟩
  simp at hy
  subst hy; subst e
  exact D0 hf hx
 ·rcases bW.mp hq with hq | hq
  ·exact h5 q hq
  ·simp at hq; subst hq; exact hv
end
noncomputable def topS (i:Nat):Stmt:=PySem.Challenge.pw_pq0490_01.main.body.getD i (.Pass ⟨0,0,0,0⟩)
noncomputable def sE:Stmt→Arguments×List Stmt×List Stmt×Expr×Scope
 | .FunctionDef _ a b _ _ _ s _ _ _=>(a,b,[],.Constant .none 0 ⟨0,0,0,0⟩,s)
 | .ClassDef _ _ _ b _ _ _ _ _ _ _=>(⟨[],[],none,[],[],none,[]⟩,b,[],.Constant .none 0 ⟨0,0,0,0⟩,default)
 | .For t _ b _ _=>(⟨[],[],none,[],[],none,[]⟩,b,[],t,default)
 | .While _ b _ _=>(⟨[],[],none,[],[],none,[]⟩,b,[],.Constant .none 0 ⟨0,0,0,0⟩,default)
 | .If _ b o _=>(⟨[],[],none,[],[],none,[]⟩,b,o,.Constant .none 0 ⟨0,0,0,0⟩,default)
 | .Try b _ _ _ _=>(⟨[],[],none,[],[],none,[]⟩,b,[],.Constant .none 0 ⟨0,0,0,0⟩,default)
 | _=>(⟨[],[],none,[],[],none,[]⟩,[],[],.Constant .none 0 ⟨0,0,0,0⟩,default)
noncomputable def bodyOf (s:Stmt):List Stmt:=(sE s).2.1
noncomputable def bU (s:Stmt):Arguments:=(sE s).1
noncomputable def aU (s:Stmt):Scope:=(sE s).2.2.2.2
noncomputable def aL (i j:Nat):Stmt:=(bodyOf (topS i)).getD j (.Pass ⟨0,0,0,0⟩)
section
variable {prog:Program} {w:World} {K:Frag} {p:Program} {loose:List Str} {mean:ExcName→Option Value} {mg mb:Str→Option Value}
variable {c:Cx} {s:Shared} {m m':aA} {G G':Gh} {A:Around} {E:Value→Shared→Prop} {env:Env}
theorem adQ {i:Int} {n:Nat} {pos:Pos} {Q:Value→Shared→Prop} (S:aE prog w c s m G) (h:∀ t s',aE prog w c s' m G→Q (.int i t) s'):wpAny (model prog w) A (eval (.Constant (.int i) n pos) env) Q E s :=
 fun zz zz zz=>h _ _ (S.toks _)
theorem DA {x:Str} {n:Nat} {pos:Pos} {Q:Value→Shared→Prop} (S:aE prog w c s m G) (h:∀ t s',aE prog w c s' m G→Q (.str x t) s'):wpAny (model prog w) A (eval (.Constant (.str x) n pos) env) Q E s :=
 fun zz zz zz=>h _ _ (S.toks _)
theorem LJ {n:Nat} {pos:Pos} {Q:Value→Shared→Prop} (h:Q .none s):wpAny (model prog w) A (eval (.Constant .none n pos) env) Q E s:=fun zz zz zz=>h
theorem adP {b:Bool} {n:Nat} {pos:Pos} {Q:Value→Shared→Prop} (h:Q (.bool b) s):wpAny (model prog w) A (eval (.Constant (.bool b) n pos) env) Q E s:=fun zz zz zz=>h
noncomputable def nA:Value→Bool
 | .none=>true
 | _=>false
theorem LN {v:Value} {Q:Value→Shared→Prop} (h:Q (.bool (nA v)) s):wpAny (model prog w) A (compareOp .Is v .none) Q E s:=by
 induction v using Value.casesOn with
 | none=>exact wpAny_is_self (by rfl) h
 | _=>exact is_none_ne (by intro x; cases x) h
theorem aeX {v:Value} {Q:Value→Shared→Prop} (h:Q (.bool (!nA v)) s):wpAny (model prog w) A (compareOp .IsNot v .none) Q E s:=by
 induction v using Value.casesOn with
 | none=>exact wpAny_isNot_self (by rfl) h
 | _=>exact isnot_none_ne (by intro x; cases x) h
theorem LW {b:Bool} {Q:Bool→Shared→Prop} (h:Q b s):wpAny (model prog w) A (truthy (.bool b)) Q E s:=fun zz zz zz=>h
theorem af9 {a:Addr} {t:Tag} {xs:List Value} {Q:Bool→Shared→Prop} (S:aE prog w c s m G) (hG:G a=some ⟨t,.list xs⟩) (h:∀ s',aE prog w c s' m G→Q (!xs.isEmpty) s'):wpAny (model prog w) A (truthy (.ref a)) Q E s:=by
 obtain ⟨⟨n,hl⟩,hz⟩:=S.list hG
 refine wpAny_truthy_list hl.isList (by exact sb gK (xC hz)) ?_
 have:xs.toArray.isEmpty=xs.isEmpty:=by simp
 exact sb this (h _ (S.toks _))
theorem adJ {a b:Int} {t u:Tok} {Q:Value→Shared→Prop} (S:aE prog w c s m G) (h:∀ t s',aE prog w c s' m G→Q (.int (a+b) t) s'):wpAny (model prog w) A (binaryOp .Add (.int a t) (.int b u)) Q E s:=PyProof.Rows.add_int (h _ _ (S.toks _))
theorem af8 {a b:Int} {t u:Tok} {Q:Value→Shared→Prop} (S:aE prog w c s m G) (h:∀ t s',aE prog w c s' m G→Q (.int (a - b) t) s'):wpAny (model prog w) A (binaryOp .Sub (.int a t) (.int b u)) Q E s:=PyProof.Rows.sub_int (h _ _ (S.toks _))
theorem aeO {a b:Int} {t u:Tok} {Q:Value→Shared→Prop} (S:aE prog w c s m G) (hb:b≠0) (h:∀ t s',aE prog w c s' m G→Q (.int (a.fmod b) t) s'):wpAny (model prog w) A (binaryOp .Mod (.int a t) (.int b u)) Q E s:=mod_int' hb (h _ _ (S.toks _))
theorem adL {x y:Str} {t u:Tok} {Q:Value→Shared→Prop} (S:aE prog w c s m G) (hz:x.length+y.length≤10000000) (h:∀ t s',aE prog w c s' m G→Q (.str (x++y) t) s'):wpAny (model prog w) A (binaryOp .Add (.str x t) (.str y u)) Q E s :=
 PyProof.Rows.add_str (fun t' tk=>h _ _ (S.toks _)) (by exact sb sizeLine_eq (aG hz (ble rfl)))
theorem LP {vs:List Value} {Q:Value→Shared→Prop} (S:aE prog w c s m G) (tg:Tag) (hz:vs.length≤1000000) (h:∀ a s',G a=none→aE prog w c s' m (upd G a ⟨tg,.list vs⟩)→Q (.ref a) s'):wpAny (model prog w) A (newList vs) Q E s:=by
 refine wpAny_newObj_type ?_ (by show vs.toArray.size≤sizeLine; exact sb gK (sb sizeLine_eq (aG hz (ble rfl))))
 obtain ⟨S',hn⟩:=S.add (h':=s.heap.push {cls:=.type "list",dict:=none,data:=.seq vs.toArray}) (t:=s.toks) (a:=s.heap.objs.size) ⟨tg,.list vs⟩ (fun b o e=>d8 _ e) S.fresh rfl fun d=>⟨⟨0,j4 _ rfl⟩,hz⟩
 exact h _ _ hn S'
theorem LQ {vs:List Value} {Q:Value→Shared→Prop} (S:aE prog w c s m G) (tg:Tag) (hz:vs.length≤1000000) (h:∀ a s',G a=none→aE prog w c s' m (upd G a ⟨tg,.tup vs⟩)→Q (.ref a) s'):wpAny (model prog w) A (newTuple vs) Q E s:=by
 refine wpAny_newObj_type ?_ (by show vs.toArray.size≤sizeLine; exact sb gK (sb sizeLine_eq (aG hz (ble rfl))))
 obtain ⟨S',hn⟩:=S.add (h':=s.heap.push {cls:=.type "tuple",dict:=none,data:=.seq vs.toArray}) (t:=s.toks) (a:=s.heap.objs.size) ⟨tg,.tup vs⟩ (fun b o e=>d8 _ e) S.fresh rfl fun d=>⟨⟨_,j4 _ rfl,rfl,_,rfl⟩,hz⟩
 exact h _ _ hn S'
theorem wJ {h:Heap} {a:Addr} {xs ys:List Value} {n:Nat} (hl:IsL h a xs.toArray n) (f:Array Value→Array Value) (e:f xs.toArray=ys.toArray):∃ k,IsL (h.update a (Obj.mapSeq f)) a ys.toArray k:=⟨_,e▸hl.update f⟩
theorem LF {a:Addr} {t:Tag} {xs:List Value} {x:Value} {Q:Value→Shared→Prop} (S:aE prog w c s m G) (hG:G a=some ⟨t,.list xs⟩) (hz:xs.length<1000000) (h:∀ s',aE prog w c s' m (upd G a ⟨t,.list (xs++[x])⟩)→Q .none s') :
  wpAny (model prog w) A (call (.builtin "list.append") [.ref a,x]) Q E s:=by
 obtain ⟨⟨n,hl⟩,_⟩:=S.list hG
 refine call_meets PA ⟨_,hl,rfl⟩ PySem.F.entry_list_append (PySem.F.args_list_append_2 _ _) (PySem.list_append a xs.toArray n x (by exact sb gK (sb sizeLine_eq (aG (cZ hz) (ble rfl))))) ⟨hl,h _ (S.turn (t:=s.toks) hG rfl rfl (sU ..) fun d=>⟨wJ hl _ (by simp),by simp; exact (qW hz)⟩)⟩
theorem ae9 {a:Addr} {t:Tag} {xs:List Value} {k:Int} {u:Tok} {x:Value} {Q:Value→Shared→Prop} (S:aE prog w c s m G) (hG:G a=some ⟨t,.list xs⟩) (h0:0≤k) (hx:xs[k.toNat]?=some x) (h:Q x s) :
  wpAny (model prog w) A (getItem (.ref a) (.int k u)) Q E s:=by
 obtain ⟨⟨n,hl⟩,hz⟩:=S.list hG
 have hlt:k.toNat<xs.length:=(cO.mp hx).1
 exact wpAny_getItem_list hl.isList h0 (by exact KS hz hlt) (by simpa using hx) h
theorem af3 {a:Addr} {t:Tag} {xs:List Value} {k:Int} {u:Tok} {v:Value} {Q:Unit→Shared→Prop} (S:aE prog w c s m G) (hG:G a=some ⟨t,.list xs⟩) (h0:0≤k) (hk:k<xs.length)
  (h:∀ s',aE prog w c s' m (upd G a ⟨t,.list (xs.set k.toNat v)⟩)→Q () s'):wpAny (model prog w) A (setItem (.ref a) (.int k u) v) Q E s:=by
 obtain ⟨⟨n,hl⟩,hz⟩:=S.list hG
 refine ki_setAt hl h0 (by exact ac0 hk hz) (by exact sb gK hk) (h _ (S.turn (t:=s.toks) hG rfl rfl (sU ..) fun d=>⟨wJ hl _ (by simp),by simp; exact hz⟩))
theorem aeF {a:Addr} {t:Tag} {xs:List Value} {Q:Value→Shared→Prop} (S:aE prog w c s m G) (hG:G a=some ⟨t,.list xs⟩) (h:∀ u s',aE prog w c s' m G→Q (.int xs.length u) s'):wpAny (model prog w) A (call (.builtin "len") [.ref a]) Q E s:=by
 obtain ⟨⟨n,hl⟩,hz⟩:=S.list hG
 refine call_len_list hl.isList (by exact sb gK (xC hz)) ?_
 exact sb gK (h _ _ (S.toks _))
theorem adY {a b:Addr} {t t2:Tag} {xs ys:List Value} {Q:Value→Shared→Prop} (S:aE prog w c s m G) (hG:G a=some ⟨t,.list xs⟩) (hb:G b=some ⟨t2,.list ys⟩) (hz:xs.length+ys.length≤1000000) (h:∀ s',aE prog w c s' m (upd G a ⟨t,.list (xs++ys)⟩)→Q .none s') :
  wpAny (model prog w) A (call (.builtin "list.extend") [.ref a,.ref b]) Q E s:=by
 obtain ⟨⟨n,hl⟩,_⟩:=S.list hG
 obtain ⟨⟨n2,hl2⟩,_⟩:=S.list hb
 have hs:xs.toArray.size+ys.toArray.size≤sizeLine:=by exact sb gK (sb gK (sb sizeLine_eq (aG hz (ble rfl))))
 refine call_meets PB ⟨_,hl,rfl⟩ PySem.F.entry_list_extend (PySem.F.args_list_extend_2 _ _) (AutoSeq1.list_extend_list_list_0 a xs.toArray n b ys.toArray n2 (extend_door hs) (aG (gX _ _) hs)) ⟨hl,hl2,h _ (S.turn (t:=s.toks) hG rfl rfl (sU ..) fun d=>⟨wJ hl _ (by simp),by simp; exact hz⟩)⟩
theorem aeY {a:Addr} {t:Tag} {xs:List Value} {x:Value} {pos:Pos} {Q:Value→Shared→Prop} (S:aE prog w c s m G) (hG:G a=some ⟨t,.list (xs++[x])⟩) (h:∀ s',aE prog w c s' m (upd G a ⟨t,.list xs⟩)→Q x s') :
  wpAny (model prog w) A (callWith pos (.builtin "list.pop") [.ref a] (backTo pos (starEach [] env)) []) Q E s:=by
 obtain ⟨⟨n,hl⟩,hz⟩:=S.list hG
 have hn:(xs++[x]).toArray.size - 1=xs.length:=by simp
 refine P.pop_list hl (y:=x) (by refine sb hn ?_; simp) (h _ (S.turn (t:=s.toks) hG rfl rfl (sU ..) fun d=>⟨wJ hl _ ?_,by simp at hz; exact aG hz (ble rfl)⟩)) (by exact sb gK (sb sizeLine_eq (aG hz (ble rfl))))
 refine sb hn ?_
 apply Array.toList_inj.mp
 simp [Array.eraseIdxIfInBounds,List.eraseIdx_append_of_length_le]
theorem adK {a b:Addr} {t t2:Tag} {xs ys:List Value} {Q:Value→Shared→Prop} (S:aE prog w c s m G) (tg:Tag) (hG:G a=some ⟨t,.list xs⟩) (hb:G b=some ⟨t2,.list ys⟩) (hz:xs.length+ys.length≤1000000)
  (h:∀ l s',G l=none→aE prog w c s' m (upd G l ⟨tg,.list (xs++ys)⟩)→Q (.ref l) s'):wpAny (model prog w) A (binaryOp .Add (.ref a) (.ref b)) Q E s:=by
 obtain ⟨⟨n,hl⟩,_⟩:=S.list hG
 obtain ⟨⟨n2,hl2⟩,_⟩:=S.list hb
 refine P.add_list hl hl2 ?_ (by exact sb gK (sb gK (sb sizeLine_eq (aG hz (ble rfl)))))
 obtain ⟨S',hn⟩:=S.add (h':=s.heap.push {cls:=.type "list",data:=.seq (xs.toArray++ys.toArray)}) (t:=s.toks) (a:=s.heap.objs.size) ⟨tg,.list (xs++ys)⟩ (fun b o e=>d8 _ e) S.fresh rfl fun d=>⟨⟨0,by
  refine sb (j4 _ rfl) ?_; simp⟩,by simp; exact hz⟩
 exact h _ _ hn S'
theorem adR {a:Addr} {t:Tag} {xs:List Value} {Q:Value→Shared→Prop} (S:aE prog w c s m G) (tg:Tag) (hG:G a=some ⟨t,.list xs⟩) (h:∀ l s',G l=none→aE prog w c s' m (upd G l ⟨tg,.list xs⟩)→Q (.ref l) s') :
  wpAny (model prog w) A (call (.type "list") [.ref a]) Q E s:=by
 obtain ⟨⟨n,hl⟩,hz⟩:=S.list hG
 refine call_list_seq a (.inl rfl) hl rfl rfl (fun h' c' hk hD=>?_) (by exact sb gK (sb sizeLine_eq (aG hz (ble rfl))))
 obtain ⟨S',hn⟩:=S.add (h':=h') (t:=s.toks) (a:=s.heap.objs.size) ⟨tg,.list xs⟩ hk S.fresh rfl fun d=>⟨⟨_,hD⟩,hz⟩
 exact h _ _ hn S'
noncomputable def aX:List Value→List Int→Prop
 | [],[]=>True
 | v::vs,n::ns=>(∃ t,v=.int n t)∧aX vs ns
 | _,_=>False
theorem aX.ind {M:List Value→List Int→Prop} {vs:List Value} {ns:List Int} (h:aX vs ns) (n0:M [] []) (n1:∀ t n vs ns,aX vs ns→M vs ns→M (.int n t::vs) (n::ns)):M vs ns:=by
 induction vs generalizing ns with
 | nil=>induction ns using List.casesOn with
  | nil=>exact n0
  | cons=>exact h.elim
 | cons v vs ih=>induction ns using List.casesOn with
  | nil=>exact h.elim
  | cons n ns =>
   obtain ⟨⟨t,e⟩,h⟩:=h
   exact sb e (n1 t n vs ns h (ih h))
theorem aX.are {vs:List Value} {ns:List Int} (h:aX vs ns):IntsAre vs ns:=h.ind .nil fun zz zz zz zz zz ih=>.cons _ _ ih
theorem aX.length:∀ {vs:List Value} {ns:List Int},aX vs ns→vs.length=ns.length:=fun h=>h.are.length
theorem aX.append {vs us:List Value} {ns ms:List Int} (h:aX vs ns) (k:aX us ms):aX (vs++us) (ns++ms) :=
 h.ind (M:=fun vs ns=>aX (vs++us) (ns++ms)) k fun t zz zz zz zz ih=>⟨⟨t,rfl⟩,ih⟩
theorem aX.get {vs:List Value} {ns:List Int} (h:aX vs ns) {i:Nat} {n:Int} (hn:ns[i]?=some n):∃ t,vs[i]?=some (.int n t) :=
 h.ind (M:=fun vs ns=>∀ i n,ns[i]?=some n→∃ t,vs[i]?=some (.int n t)) (fun i n h=>bM h) (fun t k zz zz zz ih i n h=>by
  induction i using Nat.casesOn with
  | zero=>cases h; exact ⟨t,rfl⟩
  | succ i=>exact ih i n h) i n hn
theorem ae4 {a:Addr} {t:Tag} {xs:List Value} {ns:List Int} {k:Int} {u:Tok} {Q:Value→Shared→Prop} (S:aE prog w c s m G) (hG:G a=some ⟨t,.list xs⟩) (hi:aX xs ns) (h:Q (.bool (ns.contains k)) s) :
  wpAny (model prog w) A (compareOp .In (.int k u) (.ref a)) Q E s:=by
 obtain ⟨⟨n,hl⟩,_⟩:=S.list hG
 refine PySem.SeqAt.in_listAt (isInt k) hl.isList (fun y hy=>(eq_isInt k u hi.are y (by simpa using hy)).at _ _) ?_
 have:xs.toArray.any (isInt k)=ns.contains k:=by
  refine sb yS (sb (any_isInt k hi.are) (sb OW ?_))
  congr 1; funext x; rw [nR,beq_iff_eq,beq_iff_eq]; exact ⟨Eq.symm,Eq.symm⟩
 exact sb this h
theorem aeW {a:Addr} {t:Tag} {xs:List Value} {ns:List Int} {k:Int} {u:Tok} {Q:Value→Shared→Prop} (S:aE prog w c s m G) (hG:G a=some ⟨t,.list xs⟩) (hi:aX xs ns) (h:Q (.bool (!ns.contains k)) s) :
  wpAny (model prog w) A (compareOp .NotIn (.int k u) (.ref a)) Q E s:=by
 obtain ⟨⟨n,hl⟩,_⟩:=S.list hG
 refine PySem.SeqAt.notIn_listAt (isInt k) hl.isList (fun y hy=>(eq_isInt k u hi.are y (by simpa using hy)).at _ _) ?_
 have:xs.toArray.any (isInt k)=ns.contains k:=by
  refine sb yS (sb (any_isInt k hi.are) (sb OW ?_))
  congr 1; funext x; rw [nR,beq_iff_eq,beq_iff_eq]; exact ⟨Eq.symm,Eq.symm⟩
 exact sb this h
theorem ae5 {a:Addr} {t:Tag} {xs:List Value} {ns:List Int} {k:Int} {u:Tok} {Q:Value→Shared→Prop} (S:aE prog w c s m G) (hG:G a=some ⟨t,.list xs⟩) (hi:aX xs ns) (hk:k∈ns) (h:∀ u s',aE prog w c s' m G→Q (.int (ns.idxOf k:Nat) u) s') :
  wpAny (model prog w) A (call (.builtin "list.index") [.ref a,.int k u]) Q E s:=by
 obtain ⟨⟨n,hl⟩,hz⟩:=S.list hG
 have hlen:=hi.length
 have hj:ns.idxOf k<ns.length:=OZ.mpr hk
 refine call_meets PC ⟨_,hl,rfl⟩ PySem.F.entry_list_index (PySem.F.args_list_index_2 _ _)
  (PySem.SeqAt.list_indexAt a xs.toArray n none #[] (.int k u) (isInt k) (ns.idxOf k) (by simpa [hlen] using hj) (by exact abZ hz hlen hj) ?_ ?_) ⟨hl,fun y hy=>(eq_isInt k u hi.are y (by simpa using hy)).at _ _,h _ _ (S.toks _)⟩
 ·show isInt k xs[ns.idxOf k]=true
  refine sb (isInt_at k hi.are _ (by exact aG hj ((b5 hlen.symm))) hj) ?_
  simp
 ·intro j hjs hlt
  show isInt k xs[j]=false
  refine sb (isInt_at k hi.are j (by simpa using hjs) (by exact aG hlt ((cZ hj)))) ?_
  exact ne_of_lt_idxOf hlt _
end
structure zK (K:Frag) (C:Addr):Prop where
 pg:plainGet K C "__class__"=true
 hd:hasDictIn K C=true
 ha:findIn K (.ref C) "__class__"=some (some (.builtin "object.__class__"))
 hn:specialIn K (.builtin "object.__class__") "__get__"=some (some (.builtin "getset_descriptor.__get__"))
 ht:takesIn K (.builtin "object.__class__")=some true
 hm:mroIn K C (.type "object")=some true
section
variable {prog:Program} {w:World} {K:Frag} {p:Program} {loose:List Str} {mean:ExcName→Option Value} {mg mb:Str→Option Value}
variable {c:Cx} {s:Shared} {m m':aA} {G G':Gh} {A:Around} {E:Value→Shared→Prop}
theorem ae7 {a C:Addr} {t:Tag} {fs:List (Str×Value)} {D:Value} {b:Bool} {Q:Value→Shared→Prop} (ok:bL p loose mean mg mb K c) (S:aE prog w c s m G) (I:zK K C) (hG:G a=some ⟨t,.inst C fs⟩) (e:kitOne K (.ref C) D=some b)
  (h:∀ s',aE prog w c s' m G→Q (.bool b) s'):wpAny (model prog w) A (call (.builtin "isinstance") [.ref a,D]) Q E s:=by
 refine lI (S.inst hG) fun d es k J zz=>?_
 exact kia_one (kitx_own I.pg I.hd I.ha I.hn I.ht I.hm) (S.dN ok) J e (by intro q; cases q) fun tk=>h _ (S.toks _)
theorem ae8 {n:Int} {u:Tok} {D:Value} {b:Bool} {Q:Value→Shared→Prop} (ok:bL p loose mean mg mb K c) (S:aE prog w c s m G) (e:kitOne K (.type "int") D=some b) (h:∀ s',aE prog w c s' m G→Q (.bool b) s') :
  wpAny (model prog w) A (call (.builtin "isinstance") [.int n u,D]) Q E s:=kia_one kitx_int (S.dN ok) trivial e (by intro q; cases q) fun tk=>h _ (S.toks _)
theorem ajO {e:Expr} {rest:List Expr} {env:Env} {pos:Pos} {M:Model} {Q:List Value→Shared→Prop} (h:wpAny M A (eval e env) (fun v s₁=>wpAny M A (spliced (backTo pos (starEach rest env))) (fun vs s₂=>Q (v::vs) s₂) E s₁) E s)
  (he:starEach (e::rest) env=(false,eval e env)::starEach rest env:=by rfl):wpAny M A (spliced (backTo pos (starEach (e::rest) env))) Q E s:=by
 exact sb he (spliced_cons h)
theorem ajP {env:Env} {pos:Pos} {M:Model} {Q:List Value→Shared→Prop} (h:Q [] s):wpAny M A (spliced (backTo pos (starEach [] env))) Q E s:=spliced_nil h
end
section
variable {prog:Program} {w:World} {K:Frag} {p:Program} {loose:List Str} {mean:ExcName→Option Value} {mg mb:Str→Option Value}
variable {c:Cx} {s:Shared} {m m':aA} {G G':Gh} {A:Around} {E:Value→Shared→Prop} {gl:List (Str×Value)}
noncomputable def PL (next:Shared→Prop) (Q:Flow→Shared→Prop):Flow→Shared→Prop
 | .next,s=>next s
 | f,s=>Q f s
theorem ON {M:Model} {st:Stmt} {rest:List Stmt} {env:Env} {Q:Flow→Shared→Prop} (h:wpAny M A (exec st env) (PL (fun s'=>wpAny M A (execs rest env) Q E s') Q) E s):wpAny M A (execs (st::rest) env) Q E s :=
 wpAny_execs_cons (wpAny_mono h (fun f s' q=>by induction f using Flow.casesOn<;>exact q) fun zz zz q=>q)
theorem LM {x:Str} {v:Value} {pos:Pos} {Q:Value→Shared→Prop} (ok:bL p loose mean mg mb K c) (S:aE prog w c s m G) (hg:c.gl=gl) (hx:(x,v)∈gl) (h:Q v s):wpAny (model prog w) A (eval (.Name x pos) c.env) Q E s :=
 xJ ok S (hg▸hx) h
theorem ajR {x:Str} {f:Value} {e:Expr} {rest:List Expr} {q pos:Pos} {Q:Value→Shared→Prop} (ok:bL p loose mean mg mb K c) (S:aE prog w c s m G) (hg:c.gl=gl) (hx:(x,f)∈gl) (hk:keepIn K f=true)
  (h:wpAny (model prog w) A (spliced (backTo pos (starEach (e::rest) c.env))) (fun vs s₁=>K.In s₁.heap∧wpAny (model prog w) A (call f vs) Q E s₁) E s)
  (he:starEach (e::rest) c.env=(false,eval e c.env)::starEach rest c.env:=by rfl) (hplain:(backTo pos (starEach rest c.env)).any (·.1)=false:=by rfl) :
  wpAny (model prog w) A (eval (.Call (.Name x q) (e::rest) [] pos) c.env) Q E s :=
 Call_ (xJ ok S (hg▸hx) (callWith_K (first:=[]) (ok.X) hk h he hplain))
theorem ajQ {x:Str} {id:String} {e:Expr} {rest:List Expr} {q pos:Pos} {Q:Value→Shared→Prop} (ok:bL p loose mean mg mb K c) (S:aE prog w c s m G) (hg:c.gl=gl) (hx:(x,.builtin id)∈gl)
  (h:wpAny (model prog w) A (spliced (backTo pos (starEach (e::rest) c.env))) (fun vs s₁=>wpAny (model prog w) A (call (.builtin id) vs) Q E s₁) E s)
  (he:starEach (e::rest) c.env=(false,eval e c.env)::starEach rest c.env:=by rfl) (hplain:(backTo pos (starEach rest c.env)).any (·.1)=false:=by rfl) :
  wpAny (model prog w) A (eval (.Call (.Name x q) (e::rest) [] pos) c.env) Q E s :=
 Call_ (xJ ok S (hg▸hx) (P6 h he hplain))
theorem EM {x:Str} {T:String} {e:Expr} {rest:List Expr} {q pos:Pos} {Q:Value→Shared→Prop} (ok:bL p loose mean mg mb K c) (S:aE prog w c s m G) (hg:c.gl=gl) (hx:(x,.type T)∈gl)
  (h:wpAny (model prog w) A (spliced (backTo pos (starEach (e::rest) c.env))) (fun vs s₁=>wpAny (model prog w) A (call (.type T) vs) Q E s₁) E s)
  (he:starEach (e::rest) c.env=(false,eval e c.env)::starEach rest c.env:=by rfl) (hplain:(backTo pos (starEach rest c.env)).any (·.1)=false:=by rfl) :
  wpAny (model prog w) A (eval (.Call (.Name x q) (e::rest) [] pos) c.env) Q E s :=
 Call_ (xJ ok S (hg▸hx) (PyProof.Rows.callWith_type1 h he hplain))
end
section
variable {M:Model} {A:Around} {E:Value→Shared→Prop} {s:Shared} {env:Env}
end
noncomputable def aD (T:List Nat) (G G':Gh):Prop:=∀ b x,G b=some x→T.contains x.tag.1=false→G' b=some x
theorem aD.refl (T:List Nat) (G:Gh):aD T G G:=fun zz zz h zz=>h
theorem aD.trans {T:List Nat} {G G' G'':Gh} (x:aD T G G') (y:aD T G' G''):aD T G G'':=fun b z h ht=>y b z (x b z h ht) ht
theorem aD.mono {T T':List Nat} {G G':Gh} (x:aD T G G') (h:(T.all fun n=>T'.contains n)=true:=by decide):aD T' G G':=fun b z hb ht=>x b z hb (by
 cases q:T.contains z.tag.1 with
 | false=>rfl
 | true =>
  have:=gJ.mp h z.tag.1 (by simpa using q)
  rw [this] at ht; exact rY ht)
theorem aD.new {T:List Nat} {G₀ G:Gh} {a:Addr} {x:GO} (k:aD T G₀ G) (h:G₀ a=none):aD T G₀ (upd G a x):=fun b z hb ht=>by
 exact sb (bF (fun e=>by rw [e,h] at hb; exact bM hb)) (k b z hb ht)
theorem aD.fresh {T:List Nat} {G₀ G:Gh} {a:Addr} {x:GO} (k:aD T G₀ G) (h:G a=none):aD T G₀ (upd G a x):=fun b z hb ht=>bG (k b z hb ht) h
theorem aD.turn {T:List Nat} {G₀ G:Gh} {a:Addr} {x y:GO} (k:aD T G₀ G) (h:G a=some y) (ht:T.contains y.tag.1=true):aD T G₀ (upd G a x):=fun b z hb hz=>by
 rw [bF]
 ·exact k b z hb hz
 ·intro e; subst e; have:=k _ z hb hz; rw [h] at this; obtain rfl:=bO this; rw [ht] at hz; exact rY hz
theorem aD.era {T:List Nat} {G₀ G:Gh} {a:Addr} (k:aD T G₀ G) (h:G₀ a=none):aD T G₀ (era G a):=fun b z hb ht=>by
 have:b≠a:=fun e=>by rw [e,h] at hb; exact bM hb
 unfold Mine.era; exact sb (if_neg this) (k b z hb ht)
theorem kF {G:Gh} {a b:Addr} {x:GO} (h:G b=some x) (hn:b≠a):era G a b=some x:=by unfold era; exact sb (if_neg hn) h
theorem uG {G:Gh} {a b:Addr} {x:GO} (h:G b=some x) (hn:G a=none):b≠a:=fun e=>by rw [e,hn] at h; exact bM h
theorem aD.none {T:List Nat} {G G':Gh} (x:aD T G G') {a:Addr} (h:G' a=none) (hT:∀ z,G a=some z→T.contains z.tag.1=false):G a=none:=by
 cases q:G a with
 | none=>rfl
 | some z=>rw [x a z q (hT z q)] at h; exact dK h
section
variable {prog:Program} {w:World} {K:Frag} {p:Program} {loose:List Str} {mean:ExcName→Option Value} {mg mb:Str→Option Value}
variable {c:Cx} {s:Shared} {m m':aA} {G G':Gh} {A:Around} {E:Value→Shared→Prop}
noncomputable abbrev fL:Value→Shared→Prop:=fun zz zz=>False
noncomputable def ForIn (prog:Program) (w:World) (A:Around) (env:Env) (target:Expr) (body:List Stmt) (Q:Flow→Shared→Prop) (E:Value→Shared→Prop) (xv:Value) (s:Shared):Prop :=
 wpAny (model prog w) A (pyIter xv) (fun it s₂=>codeAny (model prog w) A (.forLoop target it body [] env) (fun r s'=>match r with | .ok f=>Q f s' | .error e=>cameBackBy (model prog w) A env E e s') s₂) E s
theorem OO {target iter:Expr} {body:List Stmt} {pos:Pos} {env:Env} {Q:Flow→Shared→Prop} (h:wpAny (model prog w) A (eval iter env) (fun xv s₁=>ForIn prog w A env target body Q E xv s₁) E s)
  (hs:∀ x,foldedSetIterable iter env x=pure x:=by intro _; rfl):wpAny (model prog w) A (exec (.For target iter body [] pos) env) Q E s:=wpAny_For h hs
noncomputable def qZ (prog:Program) (w:World) (c:Cx) (J:aA→Gh→Prop) (Q:Flow→Shared→Prop):Flow→Shared→Prop
 | .next,s=>∃ m G,aE prog w c s m G∧J m G
 | .cont,s=>∃ m G,aE prog w c s m G∧J m G
 | .brk,s=>Q .next s
 | .ret v,s=>Q (.ret v) s
inductive PM (prog:Program) (w:World) (c:Cx) (I:Addr) (n:Nat) (It:Nat→GK) (Src:Gh→Prop) (J:Nat→aA→Gh→Prop) (k:Nat) (s':Shared):Prop
 | mk (i:Nat) (m:aA) (G':Gh) (e:k=n - i) (hi:i≤n) (S:aE prog w c s' m G') (hI:G' I=some ⟨(9,0),It i⟩) (hS:Src G') (hJ:J i m G')
theorem AL {target:Expr} {body:List Stmt} {Q:Flow→Shared→Prop} {I:Addr} {n:Nat} (It:Nat→GK) (Src:Gh→Prop) (P:Nat→Value→Prop) (J:Nat→aA→Gh→Prop) (hI:∀ k,(It k).dE=false)
  (hnext:∀ k s' m G' (Q':Option Value→Shared→Prop),k<n→aE prog w c s' m G'→G' I=some ⟨(9,0),It k⟩→Src G'→(∀ v s'',P k v→aE prog w c s'' m (upd G' I ⟨(9,0),It (k+1)⟩)→Q' (some v) s'')→wpAny (model prog w) c.A (pyNext (.ref I)) Q' fL s')
  (hend:∀ s' m G' (Q':Option Value→Shared→Prop),aE prog w c s' m G'→G' I=some ⟨(9,0),It n⟩→Src G'→(∀ s'',aE prog w c s'' m (era G' I)→Q' none s'')→wpAny (model prog w) c.A (pyNext (.ref I)) Q' fL s')
  (S:aE prog w c s m G) (hG:G I=some ⟨(9,0),It 0⟩) (hS:Src G) (h0:J 0 m G)
  (turn:∀ k v s' m G',k<n→P k v→J k m G'→G' I=some ⟨(9,0),It k⟩→Src G'→aE prog w c s' m (upd G' I ⟨(9,0),It (k+1)⟩) →
   wpAny (model prog w) c.A (assign target c.env v) (fun zz s₂=>wpAny (model prog w) c.A (execs body c.env) (qZ prog w c (fun m G=>J (k+1) m G∧G I=some ⟨(9,0),It (k+1)⟩∧Src G) Q) fL s₂) fL s')
  (done:∀ s' m G',J n m G'→G' I=some ⟨(9,0),It n⟩→Src G'→aE prog w c s' m (era G' I)→Q .next s')
  (ht:∀ v,letOwnedTupleGo target (.ref I) v=pure ():=by intro _; rfl) :
  codeAny (model prog w) c.A (.forLoop target (.ref I) body [] c.env) (fun r s'=>match r with | .ok f=>Q f s' | .error e=>cameBackBy (model prog w) c.A c.env E e s') s:=by
 refine codeAny_forLoop_any (PM prog w c I n It Src J) ?_ n ⟨0,m,G,rfl,nY _,S,hG,hS,h0⟩
 rintro k s' ⟨i,m,G',rfl,hi,S',hI',hS',hJ⟩
 by_cases hlt:i<n
 ·refine wpAny_mono (hnext i s' m G' _ hlt S' hI' hS' fun v s'' hP S''=>?_) (fun zz zz h=>h) fun zz zz h=>h.elim
  show wpAny _ _ (letOwnedTupleGo target (.ref I) v) _ _ _
  refine wpAny_of_eq (ht v) ?_
  refine wpAny_mono (turn i v s'' m G' hlt hP hJ hI' hS' S'') (fun zz s₂ h₂=>wpAny_mono h₂ (fun f s₃ h₃=>?_) fun zz zz h=>h.elim) fun zz zz h=>h.elim
  induction f using Flow.casesOn with
  | next=>refine j0 h₃ fun m₃ G₃ S₃ j1 j2 j3=>?_; exact ⟨n - (i+1),by exact vP hlt (lN _),i+1,m₃,G₃,rfl,hlt,S₃,j2,j3,j1⟩
  | cont=>refine j0 h₃ fun m₃ G₃ S₃ j1 j2 j3=>?_; exact ⟨n - (i+1),by exact vP hlt (lN _),i+1,m₃,G₃,rfl,hlt,S₃,j2,j3,j1⟩
  | brk=>exact h₃
  | ret v=>exact h₃
 ·have hi':i=n:=lM hi (mW.mp hlt)
  have hI2:G' I=some ⟨(9,0),It n⟩:=hi'▸hI'
  refine wpAny_mono (hend s' m G' _ S' hI2 hS' fun s'' S''=>?_) (fun zz zz h=>h) fun zz zz h=>h.elim
  exact wpAny_execs_nil (done s'' m G' (hi'▸hJ) hI2 hS' S'')
theorem adZ {target:Expr} {body:List Stmt} {Q:Flow→Shared→Prop} {l:Addr} {t:Tag} {xs:List Value} (J:Nat→aA→Gh→Prop) (ok:bL p loose mean mg mb K c) (S:aE prog w c s m G) (hG:G l=some ⟨t,.list xs⟩)
  (h0:∀ I,G I=none→J 0 m (upd G I ⟨(9,0),.lit l 0⟩))
  (turn:∀ (J':aA→Gh→Prop) I k v s' m G',(∀ m G,J (k+1) m G→G I=some ⟨(9,0),.lit l (k+1)⟩→G l=some ⟨t,.list xs⟩→J' m G)→G I=none→xs[k]?=some v→J k m G'→G' I=some ⟨(9,0),.lit l k⟩→G' l=some ⟨t,.list xs⟩→aE prog w c s' m (upd G' I ⟨(9,0),.lit l (k+1)⟩) →
   wpAny (model prog w) c.A (assign target c.env v) (fun zz s₂=>wpAny (model prog w) c.A (execs body c.env) (qZ prog w c J' Q) fL s₂) fL s')
  (done:∀ I s' m G',G I=none→J xs.length m G'→G' I=some ⟨(9,0),.lit l xs.length⟩→G' l=some ⟨t,.list xs⟩→aE prog w c s' m (era G' I)→Q .next s')
  (ht:∀ i v,letOwnedTupleGo target i v=pure ():=by intro _ _; rfl) :
  ForIn prog w c.A c.env target body Q E (.ref l) s:=by
 obtain ⟨⟨n,hl⟩,hz⟩:=S.list hG
 refine wpAny_pyIter_list hl.isList ?_
 obtain ⟨S',hn⟩:=S.add (h':=s.heap.push {cls:=.type "list_iterator",data:=.fields #[.ref l,.int 0 0]}) (t:=s.toks) (a:=s.heap.objs.size) ⟨(9,0),.lit l 0⟩ (fun b o e=>d8 _ e) S.fresh rfl fun d=>⟨_,j4 _ rfl,rfl,rfl⟩
 have hlI:l≠s.heap.objs.size:=uG hG hn
 refine AL (n:=xs.length) (fun k=>.lit l k) (fun G=>G l=some ⟨t,.list xs⟩) (fun k v=>xs[k]?=some v) J (fun zz=>rfl) (fun k s' m G' Q' hk S' hI hl' hQ=>?_) (fun s' m G' Q' S' hI hl' hQ=>?_) S' (aI _ _ _) (by exact sb (bF hlI) hG) (h0 _ hn)
  (fun k v s' m G' hk hP hJ hI hl' S'=>turn _ _ k v s' m G' (fun m G a b c=>⟨a,b,c⟩) hn hP hJ hI hl' S') (fun s' m G' hJ hI hl' S'=>done _ s' m G' hn hJ hI hl' S') (ht _)
 ·obtain ⟨⟨n',hl2⟩,_⟩:=S'.list hl'
  obtain ⟨d,hit⟩:=S'.at_ hI
  refine wpAny_pyNext_list_item hit hl2.isList (x:=xs[k]) (by simp [hk]) fun h' hit' hs=>hQ _ _ (by simp [hk]) (S'.turn (t:=s'.toks) hI rfl rfl hs fun zz=>hit')
 ·obtain ⟨⟨n',hl2⟩,_⟩:=S'.list hl'
  obtain ⟨d,hit⟩:=S'.at_ hI
  exact wpAny_pyNext_list_end ok.hh hit hl2.isList (by simp) fun h' hs=>hQ _ (S'.ext (t:=s'.toks) hI rfl hs)
theorem af0 {l:Addr} {t:Tag} {xs:List Value} {Q:Value→Shared→Prop} (S:aE prog w c s m G) (hG:G l=some ⟨t,.list xs⟩) (h:∀ I s',G I=none→aE prog w c s' m (upd G I ⟨(9,0),.eT l ((xs.length:Int) - 1)⟩)→Q (.ref I) s') :
  wpAny (model prog w) A (call (.type "reversed") [.ref l]) Q E s:=by
 obtain ⟨⟨n,hl⟩,hz⟩:=S.list hG
 refine call_reversed_list hl.isList ?_
 obtain ⟨S',hn⟩:=S.add (h':=s.heap.push (revObj l ((xs.toArray.size:Int) - 1))) (t:=s.toks) (a:=s.heap.objs.size) ⟨(9,0),.eT l ((xs.length:Int) - 1)⟩ (fun b o e=>d8 _ e) S.fresh rfl fun d=>⟨_,j4 _ rfl,rfl,by exact rfl⟩
 exact h _ _ hn S'
theorem ae0 {target:Expr} {body:List Stmt} {Q:Flow→Shared→Prop} {l I:Addr} {t:Tag} {xs:List Value} (J:Nat→aA→Gh→Prop) (ok:bL p loose mean mg mb K c) (S:aE prog w c s m G) (hI:G I=some ⟨(9,0),.eT l ((xs.length:Int) - 1)⟩) (hG:G l=some ⟨t,.list xs⟩)
  (h0:J 0 m G)
  (turn:∀ (J':aA→Gh→Prop) k v s' m G',(∀ m G,J (k+1) m G→G I=some ⟨(9,0),.eT l ((xs.length:Int) - 1 - ((k+1:Nat):Int))⟩→G l=some ⟨t,.list xs⟩→J' m G)→xs.reverse[k]?=some v→J k m G'→G' I=some ⟨(9,0),.eT l ((xs.length:Int) - 1 - (k:Int))⟩→G' l=some ⟨t,.list xs⟩→aE prog w c s' m (upd G' I ⟨(9,0),.eT l ((xs.length:Int) - 1 - ((k+1:Nat):Int))⟩) →
   wpAny (model prog w) c.A (assign target c.env v) (fun zz s₂=>wpAny (model prog w) c.A (execs body c.env) (qZ prog w c J' Q) fL s₂) fL s')
  (done:∀ s' m G',J xs.length m G'→G' l=some ⟨t,.list xs⟩→aE prog w c s' m (era G' I)→Q .next s')
  (ht:∀ i v,letOwnedTupleGo target i v=pure ():=by intro _ _; rfl) :
  ForIn prog w c.A c.env target body Q E (.ref I) s:=by
 obtain ⟨d,hit⟩:=S.at_ hI
 refine wpAny_pyIter_revIter hit ?_
 refine AL (n:=xs.length) (fun k=>.eT l ((xs.length:Int) - 1 - (k:Int))) (fun G=>G l=some ⟨t,.list xs⟩) (fun k v=>xs.reverse[k]?=some v) J (fun zz=>rfl) (fun k s' m G' Q' hk S' hI hl' hQ=>?_) (fun s' m G' Q' S' hI hl' hQ=>?_) S (by simpa using hI) hG h0
  (fun k v s' m G' hk hP hJ hI hl' S'=>turn _ k v s' m G' (fun m G a b c=>⟨a,b,c⟩) hP hJ hI hl' S') (fun s' m G' hJ hI hl' S'=>done s' m G' hJ hl' S') (ht _)
 ·obtain ⟨⟨n',hl2⟩,_⟩:=S'.list hl'
  obtain ⟨d,hit⟩:=S'.at_ hI
  have e:(xs.length:Int) - 1 - (k:Int)=((xs.length - 1 - k:Nat):Int):=by exact ac6 hk
  have hit:s'.heap.IsRevIter I l ((xs.length:Int) - 1 - (k:Int)):=hit
  rw [e] at hit
  refine wpAny_pyNext_rev_item hit hl2.isList (x:=xs[xs.length - 1 - k]'(by exact ac5 e)) (by simp) fun h' hit' hs=>hQ _ _ (by refine sb (List.getElem?_reverse (by simpa using hk)) ?_; simp) (S'.turn (t:=s'.toks) hI rfl rfl hs fun zz=>?_)
  show h'.IsRevIter I l _
  refine sb (show (xs.length:Int) - 1 - ((k+1:Nat):Int)=((xs.length - 1 - k:Nat):Int) - 1 by exact ac4 e) ?_
  exact hit'
 ·obtain ⟨d,hit⟩:=S'.at_ hI
  have hit:s'.heap.IsRevIter I l ((xs.length:Int) - 1 - (xs.length:Int)):=hit
  rw [show (xs.length:Int) - 1 - (xs.length:Int)=-1 by exact vB (by simp +arith only) (by simp +arith only)] at hit
  exact wpAny_pyNext_rev_end ok.hh hit fun h' hs=>hQ _ (S'.ext (t:=s'.toks) hI rfl hs)
theorem afE {test:Expr} {body:List Stmt} {pos:Pos} {Q:Flow→Shared→Prop} (J:Nat→aA→Gh→Prop) (n:Nat) (S:aE prog w c s m G) (h0:J n m G)
  (turn:∀ (J':Nat→aA→Gh→Prop),(∀ k n m G,k<n→J k m G→J' n m G)→∀ n s' m G',J n m G'→aE prog w c s' m G'→wpAny (model prog w) c.A (isTrue test c.env (eval test c.env)) (fun b s₂=>if b=true then
   wpAny (model prog w) c.A (execs body c.env) (qZ prog w c (J' n) Q) fL s₂ else Q .next s₂) fL s') :
  wpAny (model prog w) c.A (exec (.While test body [] pos) c.env) Q E s:=by
 refine wpAny_While (codeAny_whileLoop (fun n s'=>∃ m G,aE prog w c s' m G∧J n m G) ?_ n ⟨m,G,S,h0⟩)
 rintro n s' ⟨m,G',S',hJ⟩
 refine wpAny_mono (turn (fun n m G=>∃ k,k<n∧J k m G) (fun k n m G h1 h2=>⟨k,h1,h2⟩) n s' m G' hJ S') (fun b s₂ h₂=>?_) fun zz zz h=>h.elim
 induction b using Bool.casesOn with
 | false =>
  rw [if_neg (by decide)] at h₂
  exact wpAny_execs_nil h₂
 | true =>
  rw [if_pos rfl] at h₂
  refine wpAny_mono h₂ (fun f s₃ h₃=>?_) fun zz zz h=>h.elim
  induction f using Flow.casesOn with
  | next=>(refine cN h₃ fun m₃ G₃ S₃ zq2=>?_; obtain ⟨k,hk,j⟩:=zq2); exact ⟨k,hk,m₃,G₃,S₃,j⟩
  | cont=>(refine cN h₃ fun m₃ G₃ S₃ zq1=>?_; obtain ⟨k,hk,j⟩:=zq1); exact ⟨k,hk,m₃,G₃,S₃,j⟩
  | brk=>exact h₃
  | ret v=>exact h₃
end
noncomputable def jM (env:Env) (names:List (Str×NameKind)):List (Str×Addr):=(names.filter fun y=>y.2==.free).reverse.map fun y=>(y.1,(env.cells.lookup y.1).getD 0)
theorem GQ {env:Env}:∀ (names:List (Str×NameKind)) (cs:List (Str×Addr)),(∀ y∈names,y.2=.free→∃ cl,env.cells.lookup y.1=some cl) →
  (forIn names cs fun (y:Str×NameKind) (r:List (Str×Addr))=>if (y.2==.free)=true then do let a←cellOf env y.1; pure (yM ((y.1,a)::r)) else pure (yM r))=(pure (jM env names++cs):Sem (List (Str×Addr)))
 | [],cs,_=>rfl
 | y::r,cs,h=>by
  rw [List.forIn_cons]
  have ih:=fun cs=>GQ r cs fun z hz=>h z (cL _ hz)
  by_cases hy:(y.2==.free)=true
  ·obtain ⟨cl,hc⟩:=h y c8 (by exact of_decide_eq_true ‹_›)
   refine sb (if_pos hy) ?_
   have e:cellOf env y.1=pure cl:=by unfold cellOf; exact sb hc rfl
   refine sb e ?_
   refine (ih ((y.1,cl)::cs)).trans ?_
   congr 1
   unfold jM
   simp [hy,hc]
  ·refine sb (if_neg hy) ?_
   refine (ih cs).trans ?_
   congr 1
   unfold jM
   simp [hy]
theorem QW {env:Env} {scope:Scope} (h:∀ y∈scope.names,y.2=.free→∃ cl,env.cells.lookup y.1=some cl):closureFor scope env=pure (jM env scope.names):=by
 have:=GQ scope.names [] h
 rw [jW] at this
 refine aY this ?_
 unfold closureFor
 simp only [bind_pure]
 first | rfl | (congr 1; done) | skip
theorem JC {β:Type} {f:Str→β} {x:Str}:∀ {l:List Str},x∈l→(l.map fun y=>(y,f y)).lookup x=some (f x)
 | y::r,h=>by
  refine sb cK (sb j5 ?_)
  by_cases e:x=y
  ·subst e; simp
  ·refine sb (beq_false_of_ne e) ?_
   exact JC ((cU.mp h).resolve_left e)
theorem QV {env:Env} {names:List (Str×NameKind)} {x:Str} (h:names.lookup x=some .free):(jM env names).lookup x=some ((env.cells.lookup x).getD 0):=by
 unfold jM
 have:((names.filter fun y=>y.2==.free).reverse.map fun y=>(y.1,(env.cells.lookup y.1).getD 0))=(((names.filter fun y=>y.2==.free).reverse.map (·.1)).map fun y=>(y,(env.cells.lookup y).getD 0)):=by refine sb vI ?_; rfl
 refine sb this ?_
 refine JC (f:=fun y=>(env.cells.lookup y).getD 0) ?_
 exact cP.mpr ⟨(x,.free),F2.mpr (eZ.mpr ⟨mem_of_lookup h,rfl⟩),rfl⟩
theorem afJ {env:Env} {scope:Scope} {x:Str} (h:scope.names.lookup x=some .free):(relabel scope env).names.lookup x=some .cell∨(relabel scope env).names.lookup x=some .free:=by
 unfold relabel
 simp only
 generalize scope.names=names at h
 induction names with
 | nil=>cases h
 | cons y r ih =>
  obtain ⟨n,k⟩:=y
  rw [j5] at h
  refine sb cK ?_
  by_cases e:x=n
  ·subst e
   simp only [beq_self_eq_true] at h
   obtain rfl:=bO h
   simp only
   split
   ·left; simp
   ·right; simp
  ·rw [beq_false_of_ne e] at h
   simp only at h ⊢
   have hb:(x==n)=false:=beq_false_of_ne e
   split<;>(exact sb j5 (sb hb (ih h)))
theorem afK {env:Env} {scope:Scope} {x:Str} (h:scope.names.lookup x=some .globalImplicit):(relabel scope env).names.lookup x=some .globalImplicit:=by
 unfold relabel
 simp only
 generalize scope.names=names at h
 induction names with
 | nil=>cases h
 | cons y r ih =>
  obtain ⟨n,k⟩:=y
  rw [j5] at h
  refine sb cK ?_
  by_cases e:x=n
  ·subst e
   simp only [beq_self_eq_true] at h
   obtain rfl:=bO h
   simp
  ·rw [beq_false_of_ne e] at h
   have hb:(x==n)=false:=beq_false_of_ne e
   split<;>(exact sb j5 (sb hb (ih h)))
theorem afL {env:Env} {scope:Scope} {x:Str} {k:NameKind} (h:(relabel scope env).names.lookup x=some k):∃ k',(x,k')∈scope.names:=by
 have:=mem_of_lookup h
 unfold relabel at this
 refine aV (cP.mp this) fun zq2 hm e=>?_
 obtain ⟨n,k'⟩:=zq2
 refine ⟨k',?_⟩
 simp only at e
 split at e<;>(cases e; exact hm)
inductive kX (m:aA) (osc:Scope) (names:List (Str×NameKind)):aA→Prop
 | nil:kX m osc names []
 | loc {x r} (h:names.lookup x=some .local) (k:kX m osc names r):kX m osc names ((x,none)::r)
 | free {x ov r} (h:names.lookup x=some .free) (ho:osc.names.lookup x=some .cell) (hm:(x,ov)∈m) (k:kX m osc names r):kX m osc names ((x,ov)::r)
section
variable {prog:Program} {w:World} {K:Frag} {p:Program} {loose:List Str} {mean:ExcName→Option Value} {mg mb:Str→Option Value}
variable {c:Cx} {s:Shared} {m m':aA} {G G':Gh} {A:Around} {E:Value→Shared→Prop}
theorem kX.at {osc:Scope} {names:List (Str×NameKind)} (v:kX m osc names m'):∀ y ov,(y,ov)∈m'→(names.lookup y=some .local∧ov=none)∨(names.lookup y=some .free∧osc.names.lookup y=some .cell∧(y,ov)∈m):=by
 induction v with
 | nil=>intro y ov h; cases h
 | loc h _ ih =>
  intro y ov hm
  rcases cU.mp hm with e | hm
  ·cases e; exact .inl ⟨h,rfl⟩
  ·exact ih y ov hm
 | free h ho hm' _ ih =>
  intro y ov hm
  rcases cU.mp hm with e | hm
  ·cases e; exact .inr ⟨h,ho,hm'⟩
  ·exact ih y ov hm
theorem aE.HF {scope:Scope} {C:Addr} {t:Tag} {gl':List (Str×Value)} (ok:bL p loose mean mg mb K c) (oo:bB c) (S:aE prog w c s m G) (hC:G C=some ⟨t,.ns⟩) (hlow:c.base.objs.size≤C) (hk:scope.kind=.function)
  (hpl:(scope.names.all fun y=>!(y.1==("__debug__":Str))&&!(y.1==("__classdict__":Str)))=true) {osc:Scope} (hsc:c.env.scope=osc) (hm:kX m osc scope.names m') (hmn:(m'.map (·.1)).Nodup)
  (aJ:∀ x v,(x,v)∈gl'→scope.names.lookup x=some .globalImplicit∧(x,v)∈c.gl) :
  ∃ c':Cx,bL p loose mean mg mb K c'∧c'.env=compEnvC scope (jM c.env scope.names) C c.env∧c'.A=c.A∧c'.gl=gl'∧aE prog w c' s m' (era G C) ∧
   ∀ s' m'' G',aE prog w c' s' m'' G'→aE prog w c s' m (upd G' C ⟨t,.ns⟩)∧G' C=none:=by
 obtain ⟨own,mf,S⟩:=S
 refine v7 (S.down ok) fun g' h1 h4 h5 h6 h7=>?_
 obtain ⟨mC,hns⟩:=S.ga.at_ C _ hC
 have B:=S.below ok
 have outThere:∀ b∈frs c.bK,∃ o,s.heap.get? b=some o:=fun b hb=>by
  obtain ⟨_,o,ho,_⟩:=B.frames.mem hb; exact ⟨o,ho⟩
 obtain ⟨n1,n2⟩:=h4.new C _ hC
 have gC:∀ a x,era G C a=some x→a≠C∧G a=some x:=fun a x e=>pX e
 refine ⟨{A:=c.A,base:=c.base,g:=g',bK:=c.bK,env:=compEnvC scope (jM c.env scope.names) C c.env,L:=C,av:=C::frs c.bK,o:=s,out:=frs c.bK,gl:=gl'},?_,rfl,rfl,rfl,⟨own,mC,?_⟩,?_⟩
 ·refine ⟨fun h hg zz sl=>⟨B.stack,hg,AN sl B.frames⟩,h1,fun b hb=>.inr hb,fun b hb=>hb,n2,?_,ok.X,ok.T,ok.hh,rfl,ok.C2,ok.GN,hk,c8,fun a ha=>?_,fun x k hx=>?_,fun x v hx=>?_⟩
  ·exact hlow
  ·rcases cU.mp ha with rfl | ha
   ·exact n1
   ·exact h5 a ha
  ·obtain ⟨k',hm'⟩:=afL hx
   have:=gJ.mp hpl (x,k') hm'
   simpa using this
  ·obtain ⟨e1,e2⟩:=aJ x v hx
   exact ⟨afK e1,(ok.wC x v e2).2⟩
 ·have free_cell:∀ y ov,(y,ov)∈m→osc.names.lookup y=some .cell→∃ cl,c.env.cells.lookup y=some cl∧s.heap.IsCell cl ov:=fun y ov hy ho=>by
   rcases S.vars y ov hy with ⟨hk',_⟩ | ⟨_,cl,hc,hv⟩
   ·have:c.env.kindOf y=some .cell:=by unfold yL; refine sb hsc ?_; exact ho
    rw [this] at hk'; cases hk'
   ·exact ⟨cl,hc,hv⟩
  refine ⟨⟨h4.keep,fun a x e=>S.ga.at_ a x (gC a x e).2,fun a x e=>⟨(h4.new a x (gC a x e).2).1,fun hm=>?_⟩,fun a x e hi=>⟨(h4.newD a x (gC a x e).2 hi).1,fun hm=>?_,?_⟩,fun a b x y e e'=>S.ga.inj a b x y (gC a x e).2 (gC b y e').2,fun a x e=>S.ga.sys a x (gC a x e).2⟩,
   hns,fun y ov hy=>?_,hmn,fun b hb=>?_,c8,rfl,rfl,rfl,eH.refl _ _,fun b hb=>cL _ hb,tF (modules_low ok.T.nolimit) hlow⟩
  ·rcases cU.mp hm with e' | hm
   ·exact (gC a x e).1 e'
   ·exact (h4.new a x (gC a x e).2).2 hm
  ·rcases cU.mp hm with e' | hm
   ·have:=(S.ga.newD a x (gC a x e).2 hi).2.2; rw [e',hC] at this; exact dK this
   ·exact (h4.newD a x (gC a x e).2 hi).2.1 hm
  ·unfold era; split
   ·rfl
   ·exact (S.ga.newD a x (gC a x e).2 hi).2.2
  ·rcases hm.at y ov hy with ⟨h,rfl⟩ | ⟨h,ho,hm'⟩
   ·exact .inl ⟨lookup_relabel_local h,fun v e=>by exact bM e⟩
   ·refine aV (free_cell y ov hm' ho) fun cl hc hv=>?_
    refine .inr ⟨afJ h,cl,?_,hv⟩
    show (jM c.env scope.names).lookup y=some cl
    refine sb (QV h) (sb hc ?_); rfl
  ·rcases cU.mp hb with rfl | hb
   ·refine lI hns fun o zz zz ho zz=>?_; exact ⟨o,ho⟩
   ·exact outThere b hb
 ·rintro s' m'' G' ⟨own',mf',S'⟩
  have nC:G' C=none:=by
   cases q:G' C with
   | none=>rfl
   | some x=>exact absurd c8 (S'.ga.new C x q).2
  refine ⟨⟨own',mf,(h7 s' own' (upd G' C ⟨t,.ns⟩) ?_ S'.fE S'.gens S'.drawn S'.os).1⟩,nC⟩
  refine ⟨S'.ga.keep,fun a x e=>?_,fun a x e=>?_,fun a x e hi=>?_,fun a b x y e e' hi hi'=>?_,fun a x e=>?_⟩
  ·by_cases ha:a=C
   ·subst ha; rw [aI] at e; obtain rfl:=bO e; exact ⟨mf',S'.ns⟩
   ·rw [bF ha] at e; exact S'.ga.at_ a x e
  ·by_cases ha:a=C
   ·subst ha; exact ⟨n1,n2⟩
   ·rw [bF ha] at e; exact ⟨(S'.ga.new a x e).1,fun hm=>(S'.ga.new a x e).2 (cL _ hm)⟩
  ·have ha:a≠C:=fun q=>by subst q; rw [aI] at e; obtain rfl:=bO e; cases hi
   rw [bF ha] at e
   refine dC (S'.ga.newD a x e hi) fun k1 k2 k3=>?_
   refine ⟨k1,fun hm=>k2 (cL _ hm),?_⟩
   refine sb (bF (fun q=>k2 (by exact sb q c8))) ?_
   exact k3
  ·have ha:a≠C:=fun q=>by subst q; rw [aI] at e; obtain rfl:=bO e; cases hi
   have hb:b≠C:=fun q=>by subst q; rw [aI] at e'; obtain rfl:=bO e'; cases hi'
   rw [bF ha] at e; rw [bF hb] at e'
   exact S'.ga.inj a b x y e e' hi hi'
  ·by_cases ha:a=C
   ·subst ha; exact S.ga.sys a _ hC
   ·rw [bF ha] at e; exact S'.ga.sys a x e
theorem rL {h:Heap} {a:Addr} {xs:Array Value} (x:IsTup h a xs):h.IsTuple a xs:=by
 refine c7 x fun o ho hc zq1=>?_; obtain ⟨n,hd⟩:=zq1; exact ⟨o,ho,hc,n,hd⟩
structure Iter (prog:Program) (w:World) (K:Frag) (p:Program) (loose:List Str) (mean:ExcName→Option Value) (mg mb:Str→Option Value) (A:Around) (I:Addr) (n:Nat) (It:Nat→GK) (Src:Gh→Prop) (P:Nat→Value→Prop):Prop where
 aaN:∀ k,(It k).dE=false
 next:∀ (c:Cx) k s' m G' (Q':Option Value→Shared→Prop),c.A=A→bL p loose mean mg mb K c→k<n→aE prog w c s' m G'→G' I=some ⟨(9,0),It k⟩→Src G'→(∀ v s'',P k v→aE prog w c s'' m (upd G' I ⟨(9,0),It (k+1)⟩)→Q' (some v) s'')→wpAny (model prog w) A (pyNext (.ref I)) Q' fL s'
 last:∀ (c:Cx) s' m G' (Q':Option Value→Shared→Prop),c.A=A→bL p loose mean mg mb K c→aE prog w c s' m G'→G' I=some ⟨(9,0),It n⟩→Src G'→(∀ s'',aE prog w c s'' m (era G' I)→Q' none s'')→wpAny (model prog w) A (pyNext (.ref I)) Q' fL s'
 self:∀ (c:Cx) k s' m G' (Q' E:Value→Shared→Prop),aE prog w c s' m G'→G' I=some ⟨(9,0),It k⟩→Q' (.ref I) s'→wpAny (model prog w) A (pyIter (.ref I)) Q' E s'
theorem Iter.list {I l:Addr} {t:Tag} {xs:List Value} (hh:A.handled=none):Iter prog w K p loose mean mg mb A I xs.length (fun k=>.lit l k) (fun G=>G l=some ⟨t,.list xs⟩) (fun k v=>xs[k]?=some v):=by
 refine ⟨fun zz=>rfl,fun c k s' m G' Q' hA zz hk S' hI hl' hQ=>?_,fun c s' m G' Q' hA zz S' hI hl' hQ=>?_,fun c k s' m G' Q' E S' hI hQ=>?_⟩
 ·obtain ⟨⟨n',hl2⟩,_⟩:=S'.list hl'
  obtain ⟨d,hit⟩:=S'.at_ hI
  refine wpAny_pyNext_list_item hit hl2.isList (x:=xs[k]) (by simp [hk]) fun h' hit' hs=>hQ _ _ (by simp [hk]) (S'.turn (t:=s'.toks) hI rfl rfl hs fun zz=>hit')
 ·obtain ⟨⟨n',hl2⟩,_⟩:=S'.list hl'
  obtain ⟨d,hit⟩:=S'.at_ hI
  exact wpAny_pyNext_list_end hh hit hl2.isList (by simp) fun h' hs=>hQ _ (S'.ext (t:=s'.toks) hI rfl hs)
 ·obtain ⟨d,hit⟩:=S'.at_ hI
  exact wpAny_pyIter_listiter hit hQ
theorem Iter.range {I:Addr} {a n:Int} (hh:A.handled=none) (hn:0≤n):Iter prog w K p loose mean mg mb A I n.toNat (fun k=>.eG (a+k) (n - k)) (fun zz=>True) (fun k v=>∃ tk,v=.int (a+k) tk):=by
 refine ⟨fun zz=>rfl,fun c k s' m G' Q' hA zz hk S' hI hl' hQ=>?_,fun c s' m G' Q' hA zz S' hI hl' hQ=>?_,fun c k s' m G' Q' E S' hI hQ=>?_⟩
 ·obtain ⟨d,hit⟩:=S'.at_ hI
  refine wpAny_pyNext_range_item hit (by exact KP hk) fun h' hit' hs=>hQ _ _ ⟨_,rfl⟩ (S'.turn (t:=s'.toks+1) hI rfl rfl hs fun zz=>?_)
  show IsRangeIter h' _ _ _ 1
  refine sb (show a+((k+1:Nat):Int)=a+(k:Int)+1 by exact abP) (sb (show n - ((k+1:Nat):Int)=n - k - 1 by exact abO) ?_)
  exact hit'
 ·obtain ⟨d,hit⟩:=S'.at_ hI
  exact wpAny_pyNext_range_end hh hit (by exact KO) fun h' hs=>hQ _ (S'.ext (t:=s'.toks) hI rfl hs)
 ·obtain ⟨d,hit⟩:=S'.at_ hI
  exact wpAny_pyIter_rangeiter hit hQ
noncomputable def jZ (prog:Program) (w:World) (K:Frag) (p:Program) (loose:List Str) (mean:ExcName→Option Value) (mg mb:Str→Option Value) (c:Cx) (xv:Value) (n:Nat) (It:Nat→GK) (Src:Gh→Prop) (P:Nat→Value→Prop) (m:aA) (G:Gh) (s:Shared):Prop :=
 ∀ (Q:Value→Shared→Prop) (E:Value→Shared→Prop),(∀ I s',G I=none→aE prog w c s' m (upd G I ⟨(9,0),It 0⟩)→Iter prog w K p loose mean mg mb c.A I n It Src P→Src (upd G I ⟨(9,0),It 0⟩)→Q (.ref I) s')→wpAny (model prog w) c.A (pyIter xv) Q E s
theorem IK {l:Addr} {t:Tag} {xs:List Value} (ok:bL p loose mean mg mb K c) (S:aE prog w c s m G) (hG:G l=some ⟨t,.list xs⟩):jZ prog w K p loose mean mg mb c (.ref l) xs.length (fun k=>.lit l k) (fun G=>G l=some ⟨t,.list xs⟩) (fun k v=>xs[k]?=some v) m G s:=fun Q E h=>by
 obtain ⟨⟨n,hl⟩,hz⟩:=S.list hG
 refine wpAny_pyIter_list hl.isList ?_
 obtain ⟨S',hn⟩:=S.add (h':=s.heap.push {cls:=.type "list_iterator",data:=.fields #[.ref l,.int 0 0]}) (t:=s.toks) (a:=s.heap.objs.size) ⟨(9,0),.lit l 0⟩ (fun b o e=>d8 _ e) S.fresh rfl fun d=>⟨_,j4 _ rfl,rfl,rfl⟩
 exact h _ _ hn S' (Iter.list ok.hh) (bG hG hn)
theorem XH {a b:Int} {t u:Tok} {Q:Value→Shared→Prop} (ok:bL p loose mean mg mb K c) (S:aE prog w c s m G) (ha:0≤a) (hab:a≤b) (hb:b≤1000)
  (h:∀ xv s',aE prog w c s' m G→jZ prog w K p loose mean mg mb c xv (b - a).toNat (fun k=>.eG (a+k) (b - a - k)) (fun zz=>True) (fun k v=>∃ tk,v=.int (a+k) tk) m G s'→Q xv s'):wpAny (model prog w) c.A (call (.type "range") [.int a t,.int b u]) Q E s:=by
 refine call_range_2 ?_
 have S1:=S.grow (h':=s.heap.push {cls:=.type "range",data:=.fields #[.int a t,.int b u,.int 1 s.toks]}) (t:=s.toks+1) fun b o e=>d8 _ e
 refine h _ _ S1 fun Q E h=>?_
 have hsz:OS a b 1=b - a:=by refine sb (rangeSize_one _ _) ?_; split<;>(first | exact abM | exact abN hab (by assumption))
 refine wpAny_pyIter_range (IsRange.new _ _ _ _ _ _ _) (small_one (by exact KN ha) (by exact abL hab hb) (by exact abK ha hab) (by exact KL hb)) ?_
 refine sb hsz ?_
 obtain ⟨S',hnn⟩:=S1.add (h':=yO _ {cls:=.type "range_iterator",data:=.fields #[rawInt a,rawInt (b - a),rawInt 1]}) (t:=s.toks+1) (a:=(s.heap.push {cls:=.type "range",data:=.fields #[.int a t,.int b u,.int 1 s.toks]}).objs.size) ⟨(9,0),.eG a (b - a)⟩ (fun b o e=>d8 _ e) S1.fresh rfl fun d=>j4 _ rfl
 exact h _ _ hnn (by simpa using S') (Iter.range ok.hh (by exact Int.sub_nonneg_of_le hab)) trivial
theorem Iter.CC {I l:Addr} {xs:List Value} (hh:A.handled=none) (hl:∀ h:Heap,K.In h→IsTup h l xs.toArray):Iter prog w K p loose mean mg mb A I xs.length (fun k=>.mH l k) (fun zz=>True) (fun k v=>xs[k]?=some v):=by
 refine ⟨fun zz=>rfl,fun c k s' m G' Q' hA ok hk S' hI hl' hQ=>?_,fun c s' m G' Q' hA ok S' hI hl' hQ=>?_,fun c k s' m G' Q' E S' hI hQ=>?_⟩
 ·have hl2:=rL (hl _ (S'.dN ok))
  obtain ⟨d,hit⟩:=S'.at_ hI
  refine wpAny_pyNext_tuple_item hit hl2 (x:=xs[k]) (by simp [hk]) fun h' hit' hs=>hQ _ _ (by simp [hk]) (S'.turn (t:=s'.toks) hI rfl rfl hs fun zz=>hit')
 ·have hl2:=rL (hl _ (S'.dN ok))
  obtain ⟨d,hit⟩:=S'.at_ hI
  exact wpAny_pyNext_tuple_end hh hit hl2 (by simp) fun h' hs=>hQ _ (S'.ext (t:=s'.toks) hI rfl hs)
 ·obtain ⟨d,hit⟩:=S'.at_ hI
  exact wpAny_pyIter_tupleiter hit hQ
theorem XG {l:Addr} {xs:List Value} (ok:bL p loose mean mg mb K c) (S:aE prog w c s m G) (hl:∀ h:Heap,K.In h→IsTup h l xs.toArray):jZ prog w K p loose mean mg mb c (.ref l) xs.length (fun k=>.mH l k) (fun zz=>True) (fun k v=>xs[k]?=some v) m G s:=fun Q E h=>by
 refine wpAny_pyIter_tuple (rL (hl _ (S.dN ok))) ?_
 obtain ⟨S',hn⟩:=S.add (h':=s.heap.push {cls:=.type "tuple_iterator",data:=.fields #[.ref l,.int 0 0]}) (t:=s.toks) (a:=s.heap.objs.size) ⟨(9,0),.mH l 0⟩ (fun b o e=>d8 _ e) S.fresh rfl fun d=>⟨_,j4 _ rfl,rfl,rfl⟩
 exact h _ _ hn S' (Iter.CC ok.hh hl) trivial
theorem Iter.tup {I l:Addr} {t:Tag} {xs:List Value} (hh:A.handled=none):Iter prog w K p loose mean mg mb A I xs.length (fun k=>.mH l k) (fun G=>G l=some ⟨t,.tup xs⟩) (fun k v=>xs[k]?=some v):=by
 refine ⟨fun zz=>rfl,fun c k s' m G' Q' hA ok hk S' hI hl' hQ=>?_,fun c s' m G' Q' hA ok S' hI hl' hQ=>?_,fun c k s' m G' Q' E S' hI hQ=>?_⟩
 ·have hl2:=rL (S'.tup hl').1
  obtain ⟨d,hit⟩:=S'.at_ hI
  refine wpAny_pyNext_tuple_item hit hl2 (x:=xs[k]) (by simp [hk]) fun h' hit' hs=>hQ _ _ (by simp [hk]) (S'.turn (t:=s'.toks) hI rfl rfl hs fun zz=>hit')
 ·have hl2:=rL (S'.tup hl').1
  obtain ⟨d,hit⟩:=S'.at_ hI
  exact wpAny_pyNext_tuple_end hh hit hl2 (by simp) fun h' hs=>hQ _ (S'.ext (t:=s'.toks) hI rfl hs)
 ·obtain ⟨d,hit⟩:=S'.at_ hI
  exact wpAny_pyIter_tupleiter hit hQ
theorem XI {l:Addr} {t:Tag} {xs:List Value} (ok:bL p loose mean mg mb K c) (S:aE prog w c s m G) (hG:G l=some ⟨t,.tup xs⟩):jZ prog w K p loose mean mg mb c (.ref l) xs.length (fun k=>.mH l k) (fun G=>G l=some ⟨t,.tup xs⟩) (fun k v=>xs[k]?=some v) m G s:=fun Q E h=>by
 refine wpAny_pyIter_tuple (rL (S.tup hG).1) ?_
 obtain ⟨S',hn⟩:=S.add (h':=s.heap.push {cls:=.type "tuple_iterator",data:=.fields #[.ref l,.int 0 0]}) (t:=s.toks) (a:=s.heap.objs.size) ⟨(9,0),.mH l 0⟩ (fun b o e=>d8 _ e) S.fresh rfl fun d=>⟨_,j4 _ rfl,rfl,rfl⟩
 exact h _ _ hn S' (Iter.tup ok.hh) (bG hG hn)
end
section
variable {prog:Program} {w:World} {K:Frag} {p:Program} {loose:List Str} {mean:ExcName→Option Value} {mg mb:Str→Option Value}
variable {c:Cx} {s:Shared} {m m':aA} {G G':Gh} {A:Around} {E:Value→Shared→Prop}
theorem s8 {α β:Type} {F F':α→β→Prop} (h:∀ a b,F a b→F' a b) {l₁:List α} {l₂:List β} (H:Paired F l₁ l₂):Paired F' l₁ l₂:=by
 induction H with
 | nil=>exact .nil
 | cons x _ ih=>exact .cons (h _ _ x) ih
noncomputable def fJ (G G':Gh):Prop:=∀ b x,G b=some x→x.tag≠(9,0)→G' b=some x
theorem fJ.of {G G':Gh} (k:aD [] G G'):fJ G G':=fun b x h zz=>k b x h rfl
theorem fJ.trans {G G' G'':Gh} (k:fJ G G') (l:fJ G' G''):fJ G G'':=fun b x h n=>l b x (k b x h n) n
theorem fJ.upd {G:Gh} {a:Addr} {x y:GO} (h:G a=some x) (ht:x.tag=(9,0)):fJ G (upd G a y):=fun b z hb n=>by
 rw [bF]
 ·exact hb
 ·intro e; subst e; rw [h] at hb; obtain rfl:=bO hb; exact n ht
theorem fJ.era {G:Gh} {a:Addr} {x:GO} (h:G a=some x) (ht:x.tag=(9,0)):fJ G (era G a):=fun b z hb n=>by
 refine kF hb ?_
 intro e; subst e; rw [h] at hb; obtain rfl:=bO hb; exact n ht
noncomputable def qG (ifs:List Expr) (env:Env):Sem Bool:=forIn ifs true fun t r=>if r=true then do let ok←isTrue t env (eval t env); pure (yM ok) else pure (yM r)
structure zG (prog:Program) (w:World) (K:Frag) (p:Program) (loose:List Str) (mean:ExcName→Option Value) (mg mb:Str→Option Value) (c:Cx) (fr:aA) (gl':List (Str×Value)) (x:Str) (ifs:List Expr) (elt:Expr) (scope:Scope)
  (pr:Value→Bool) (F:Value→Value→Gh→Prop) (n:Nat) (P:Nat→Value→Prop) (T:List Nat) (Inv:Nat→List Value→Gh→Prop) (G₁:Gh):Prop where
 n1:n≤100000
 hT:T.contains 9=false
 mono:∀ v y G G',F v y G→fJ G G'→F v y G'
 wW:∀ v y G G',F v y G→aD T G G'→F v y G'
 inv:∀ i ys G G',Inv i ys G→fJ G G'→Inv i ys G'
 skip:∀ i ys v G,Inv i ys G→P i v→pr v=false→Inv (i+1) ys G
 tests:∀ c' C k v s' G' ys,bL p loose mean mg mb K c'→c'.A=c.A→c'.gl=gl'→c'.env=compEnvC scope (jM c.env scope.names) C c.env→P k v→aD T G₁ G'→Inv k ys G'→aE prog w c' s' ((x,some v)::fr) G' →
  wpAny (model prog w) c.A (qG ifs c'.env) (fun b s₂=>b=pr v∧∃ G₂,aE prog w c' s₂ ((x,some v)::fr) G₂∧aD [] G' G₂) fL s'
 elt:∀ c' C k v s' G' ys,bL p loose mean mg mb K c'→c'.A=c.A→c'.gl=gl'→c'.env=compEnvC scope (jM c.env scope.names) C c.env→P k v→pr v=true→aD T G₁ G'→Inv k ys G'→aE prog w c' s' ((x,some v)::fr) G' →
  wpAny (model prog w) c.A (eval elt c'.env) (fun y s₂=>∃ G₂,aE prog w c' s₂ ((x,some v)::fr) G₂∧aD T G' G₂∧F v y G₂∧Inv (k+1) (ys++[y]) G₂) fL s'
structure jH (c:Cx) (m:aA) (osc:Scope) (fr:aA) (gl':List (Str×Value)) (x:Str) (scope:Scope):Prop where
 hsc:c.env.scope=osc
 hkind:scope.kind=.function
 hpl:(scope.names.all fun y=>!(y.1==("__debug__":Str))&&!(y.1==("__classdict__":Str))&&!(y.2==.cell)&&(!(y.2==.local)||scope.names.lookup y.1==some .local)&&(!(y.2==.free)||(scope.names.lookup y.1==some .free&&fr.any (·.1==y.1))))=true
 hx:scope.names.lookup x=some .local
 hxs:(fr.all fun y=>!(y.1==x))=true
 hfr:kX m osc scope.names fr
 X0:(fr.map (·.1)).Nodup
 aJ:∀ x v,(x,v)∈gl'→scope.names.lookup x=some .globalImplicit∧(x,v)∈c.gl
variable {osc:Scope} {fr:aA} {gl':List (Str×Value)} {x:Str} {scope:Scope}
theorem jH.cv (h:jH c m osc fr gl' x scope):kX m osc scope.names ((x,none)::fr):=.loc h.hx h.hfr
theorem jH.nd (h:jH c m osc fr gl' x scope) (ov:Option Value):(((x,ov)::fr:aA).map (·.1)).Nodup:=by
 (refine sb cK ?_; rw [iH])
 refine ⟨fun hm=>?_,h.X0⟩
 refine aV (cP.mp hm) fun q hq e=>?_
 have:=gJ.mp h.hxs q hq
 simp at this; exact this e
theorem jH.at (h:jH c m osc fr gl' x scope):∀ y∈scope.names,(y.1≠("__debug__":Str)∧y.1≠("__classdict__":Str))∧y.2≠.cell∧(y.2=.local→scope.names.lookup y.1=some .local)∧(y.2=.free→scope.names.lookup y.1=some .free∧∃ ov,(y.1,ov)∈fr):=fun y hy=>by
 have:=gJ.mp h.hpl y hy
 simp only [jD,Bool.or_eq_true,lJ,beq_eq_false_iff_ne,beq_iff_eq,yR] at this
 obtain ⟨⟨⟨⟨h1,h2⟩,h3⟩,h4⟩,h5⟩:=this
 refine ⟨⟨h1,h2⟩,h3,fun e=>h4.resolve_left (fun n=>n e),fun e=>?_⟩
 obtain ⟨h6,⟨n,ov⟩,hq,e'⟩:=h5.resolve_left fun n=>n e
 simp at e'
 exact ⟨h6,ov,e'▸hq⟩
theorem jH.clos (h:jH c m osc fr gl' x scope) (S:aE prog w c s m G):closureFor scope c.env=pure (jM c.env scope.names):=by
 refine QW fun y hy hf=>?_
 refine EH (h.at y hy) fun zz zz zz h4=>?_
 obtain ⟨h5,ov,hm⟩:=h4 hf
 rcases h.hfr.at y.1 ov hm with ⟨h6,_⟩ | ⟨_,h6,h7⟩
 ·rw [h5] at h6; cases h6
 ·obtain ⟨own,mf,S⟩:=S
  rcases S.vars y.1 ov h7 with ⟨hk',_⟩ | ⟨_,cl,hc,hv⟩
  ·have:c.env.kindOf y.1=some .cell:=by unfold yL; refine sb h.hsc ?_; exact h6
   rw [this] at hk'; cases hk'
  ·exact ⟨cl,hc⟩
inductive PK (G:Gh) (I D:Addr) (x y:GO) (E:Gh):Prop
 | mk (a:D≠I) (b:G D=none) (k:aD [] G E) (i:E I=some x) (d:E D=some y)
theorem HQ {G:Gh} {I D C:Addr} {x y z:GO} (hI:G I=none) (hD:upd G I x D=none) (hC:upd (upd G I x) D y C=none):PK G I D x y (era (upd (upd (upd G I x) D y) C z) C):=by
 have hDI:D≠I:=fun e=>by rw [e,aI] at hD; exact dK hD
 have hD1:G D=none:=by rw [bF hDI] at hD; exact hD
 have hCI:I≠C:=fun e=>by rw [←e,bF (Ne.symm hDI),aI] at hC; exact dK hC
 have hCD:D≠C:=fun e=>by rw [←e,aI] at hC; exact dK hC
 have hG1C:G C=none:=by rw [bF (Ne.symm hCD),bF (Ne.symm hCI)] at hC; exact hC
 exact ⟨hDI,hD1,(((aD.refl _ _).new hI |>.new hD1).new hG1C).era hG1C,kF (by exact sb (bF hCI) (sb (bF (Ne.symm hDI)) (sb (aI _ _ _) rfl))) hCI,kF (by exact sb (bF hCD) (sb (aI _ _ _) rfl)) hCD⟩
inductive PH (prog:Program) (w:World) (c:Cx) (x:Str) (fr:aA) (I D:Addr) (It:Nat→GK) (n:Nat) (T:List Nat) (Inv:Nat→List Value→Gh→Prop) (P:Nat→Value→Prop) (F:Value→Value→Gh→Prop) (pr:Value→Bool) (G₁:Gh) (k:Nat) (s:Shared):Prop
 | mk (i:Nat) (vs ys:List Value) (ov:Option Value) (G':Gh) (e:k=n - i) (hi:i≤n) (S:aE prog w c s ((x,ov)::fr) G') (hk:aD T G₁ G') (hv:Inv i ys G') (hI:G' I=some ⟨(9,0),It i⟩) (hD:G' D=some ⟨(9,0),.list ys⟩) (vl:vs.length=i) (yl:ys.length≤i) (hP:∀ j v,vs[j]?=some v→P j v) (hF:Paired (fun v y=>F v y G') (vs.filter pr) ys)
theorem HP {p:Env→Prop} {a b:Env} (h:a=b) (k:p a):p b:=h▸k
set_option tactic.hygienic true in
theorem HD {elt iter:Expr} {px pos:Pos} {ifs:List Expr} {I:Addr} {n:Nat} {It:Nat→GK} {Src:Gh→Prop} {P:Nat→Value→Prop} {pr:Value→Bool} {F:Value→Value→Gh→Prop} {T:List Nat} {Inv:Nat→List Value→Gh→Prop} {RR:Value→Addr→Result→Shared→Prop} {G₁:Gh}
  (ok:bL p loose mean mg mb K c) (oo:bB c) (h:jH c m osc fr gl' x scope) (S:aE prog w c s m (upd G₁ I ⟨(9,0),It 0⟩)) (hI:G₁ I=none) (W:Iter prog w K p loose mean mg mb c.A I n It Src P) (hS:∀ i ys G',aD T G₁ G'→Inv i ys G'→Src G') (h0:Inv 0 [] G₁) (O:zG prog w K p loose mean mg mb c fr gl' x ifs elt scope pr F n P T Inv G₁)
  (hRR:∀ D C s' (vs ys:List Value) G',G₁ D=none→aD T G₁ G'→Inv n ys G'→G' C=none→G' D=some ⟨(9,0),.list ys⟩→vs.length=n→(∀ j v,vs[j]?=some v→P j v)→Paired (fun v y=>F v y G') (vs.filter pr) ys→aE prog w c s' m (upd G' C ⟨(9,0),.ns⟩)→RR (.ref D) C (.ok .next) s') :
  wpAny (model prog w) c.A (newList []) (fun acc s₃=>wpAny (model prog w) c.A (newFunctionEnv scope c.env.globals (jM c.env scope.names) [] c.env.qual none .none (some c.env)) (fun cenv s₄ =>
   codeAny (model prog w) c.A (.compStart (.ListComp elt [⟨.Name x px,iter,ifs,0⟩] scope pos) 0 (.ref I) acc {cenv with scope:=relabel scope c.env}) (RR acc cenv.locals) s₄) E s₃) E s:=by
 refine LP S (9,0) (by simp) fun D s₁ hD S₁=>?_
 refine wpAny_newFunctionEnv (fun y hy=>(h.at y hy).2.1) (by intro y hy; simp at hy) (fun h₁ hns hsb=>?_) h.hkind
 have old:∀ b o,s₁.heap.get? b=some o→h₁.get? b=some o:=fun b o e=>hsb.extBut b o (FD (v9 e)) (d8 _ e)
 have hlow:c.base.objs.size≤s₁.heap.objs.size:=by
  obtain ⟨own,mf,S⟩:=S₁
  exact aG ok.low (cZ S.ns.lt)
 generalize hCe:s₁.heap.objs.size=C at *
 obtain ⟨S₂,hC⟩:=S₁.add (h':=h₁) (t:=s₁.toks+([]:List (Str×Value)).length) (a:=C) ⟨(9,0),.ns⟩ old (hCe▸S₁.fresh) rfl (fun d=>⟨_,hns⟩) (b5 hCe)
 refine OJ (S₂.HF ok oo (aI _ _ _) hlow h.hkind (gJ.mpr fun y hy=>by have:=(h.at y hy).1; simp [this.1,this.2]) h.hsc h.cv (h.nd none) h.aJ) fun c' ok' he hA hg S₃ back=>?_
 obtain ⟨hDI,hD1,k₀0,I₀,D₀⟩:=HQ (z:=⟨(9,0),.ns⟩) hI hD hC
 have i₀:=O.inv _ _ _ _ h0 (.of k₀0)
 have k₀:=k₀0.mono (T':=T) rfl
 have hfin:∀ s' m₂ (vs ys:List Value) G',aD T G₁ G'→Inv n ys G'→G' D=some ⟨(9,0),.list ys⟩→vs.length=n→(∀ j v,vs[j]?=some v→P j v)→Paired (fun v y=>F v y G') (vs.filter pr) ys→aE prog w c' s' m₂ G'→RR (.ref D) C (.ok .next) s':=fun s' m₂ vs ys G' k hInv hD' hl hP hF S'=>by
  obtain ⟨b1,b2⟩:=back s' m₂ G' S'
  exact hRR D C s' vs ys G' hD1 k hInv b2 hD' hl hP hF b1
 have loop:∀ s₀ G₀ ov,aE prog w c' s₀ ((x,ov)::fr) G₀→aD T G₁ G₀→Inv 0 [] G₀→G₀ I=some ⟨(9,0),It 0⟩→G₀ D=some ⟨(9,0),.list []⟩ →
   codeAny (model prog w) c.A (.compLoop (.ListComp elt [⟨.Name x px,iter,ifs,0⟩] scope pos) 0 (.ref I) (.ref D) c'.env) (RR (.ref D) C) s₀:=by
  intro s₀ G₀ ov S₀ hk₀ hi₀ hI₀ hD₀
  refine codeAny_compLoop_tests (PH prog w c' x fr I D It n T Inv P F pr G₁)
   ?_ n ⟨0,[],[],ov,G₀,rfl,nY _,S₀,hk₀,hi₀,hI₀,hD₀,rfl,bZ _,by simp,.nil⟩
  rintro k s' ⟨i,vs,ys,ov,G',rfl,hi,S',hk,hv0,hI',hD',hvl,hyl,hP,hF⟩
  by_cases hlt:i<n
  ·refine wpAny_mono (W.next c' i s' _ G' _ hA ok' hlt S' hI' (hS _ _ _ hk hv0) fun v s'' hPv S''=>?_) (fun zz zz h=>h) fun zz zz h=>h.elim
   have kI:aD T G₁ (upd G' I ⟨(9,0),It (i+1)⟩):=hk.new hI
   have iI:=O.inv _ _ _ _ hv0 (fJ.upd (y:=⟨(9,0),It (i+1)⟩) hI' rfl)
   show wpAny _ _ (assign (.Name x px) c'.env v) _ _ _
   refine wpAny_assign_Name (DC ok' S'' (by show c'.env.kindOf x=_; exact sb he (lookup_relabel_local h.hx)) .here fun s₃ S₃=>?_)
   refine wpAny_mono (O.tests c' C i v s₃ _ ys ok' hA hg he hPv kI iI S₃) (fun b s₄ hb=>?_) fun zz zz h=>h.elim
   obtain ⟨rfl,G₂,S₄,k₂⟩:=hb
   have i₂:=O.inv _ _ _ _ iI (.of k₂)
   have k₂T:=k₂.mono (T':=T) rfl
   have x₂:fJ G' G₂:=(fJ.upd hI' rfl).trans (.of k₂)
   have hI₂:G₂ I=some ⟨(9,0),It (i+1)⟩:=k₂ _ _ (aI _ _ _) rfl
   have hD₂:G₂ D=some ⟨(9,0),.list ys⟩:=k₂ _ _ (by exact sb (bF hDI) hD') rfl
   have hP':∀ j v',(vs++[v])[j]?=some v'→P j v':=fun j v' hj=>by
    rcases Nat.lt_trichotomy j vs.length with hl | hl | hl
    ·rw [OY hl] at hj; exact hP j v' hj
    ·subst hl; simp at hj; subst hj; exact sb hvl hPv
    ·rw [EY (by simp; exact hl)] at hj; exact bM hj
   cases hp:pr v with
   | false =>
    refine sb (if_neg (by decide)) ?_
    refine ⟨n - (i+1),by exact vP hlt (lN _),i+1,vs++[v],ys,some v,G₂,rfl,hlt,S₄,kI.trans k₂T,O.skip _ _ _ _ i₂ hPv hp,hI₂,hD₂,by simp [hvl],by exact aG hyl (gX _ _),hP',?_⟩
    refine sb (qO _ _) (sb (jE (by simp [hp])) (sb yU (sb (jW _) ?_)))
    exact s8 (fun a b hf=>O.mono a b _ _ hf x₂) hF
   | true =>
    refine sb (if_pos rfl) ?_
    refine wpAny_mono (O.elt c' C i v s₄ G₂ ys ok' hA hg he hPv hp (kI.trans k₂T) i₂ S₄) (fun y s₅ hy=>?_) fun zz zz h=>h.elim
    refine EJ hy fun G₃ S₅ k₃ hf i₃=>?_
    have hD₃:=k₃ _ _ hD₂ O.hT
    have hlen:=O.n1
    refine LF S₅ hD₃ (by exact abQ hyl hlt hlen) fun s₆ S₆=>?_
    refine ⟨n - (i+1),by exact vP hlt (lN _),i+1,vs++[v],ys++[y],some v,_,rfl,hlt,S₆,((kI.trans k₂T).trans k₃).new hD1,O.inv _ _ _ _ i₃ (.upd hD₃ rfl),by refine sb (bF (Ne.symm hDI)) ?_; exact k₃ _ _ hI₂ O.hT,aI _ _ _,by simp [hvl],by simp; exact hyl,hP',?_⟩
    refine sb (qO _ _) (sb (gW hp) (sb yU ?_))
    exact (s8 (fun a b hf=>O.mono a b _ _ (O.wW a b _ _ (O.mono a b _ _ hf x₂) k₃) (.upd hD₃ rfl)) hF).snoc (O.mono _ _ _ _ hf (.upd hD₃ rfl))
  ·have hi':i=n:=lM hi (mW.mp hlt)
   have hI2:G' I=some ⟨(9,0),It n⟩:=hi'▸hI'
   refine wpAny_mono (W.last c' s' _ G' _ hA ok' S' hI2 (hS _ _ _ hk hv0) fun s'' S''=>?_) (fun zz zz h=>h) fun zz zz h=>h.elim
   exact hfin s'' _ vs ys _ (hk.era hI) (O.inv _ _ _ _ (hi'▸hv0) (.era hI' rfl)) (kF hD' hDI) (hvl.trans hi') hP (s8 (fun a b hf=>O.mono a b _ _ hf (.era hI' rfl)) hF) S''
 refine HP (p:=fun e=>codeAny (model prog w) c.A (.compStart _ 0 _ _ e) _ _) he (codeAny_compStart_list (loop _ _ none S₃ k₀ i₀ I₀ D₀) ?_)
 exact W.self c' 0 _ _ _ _ _ S₃ I₀ (loop _ _ none S₃ k₀ i₀ I₀ D₀)
inductive tH (prog:Program) (w:World) (K:Frag) (p:Program) (loose:List Str) (mean:ExcName→Option Value) (mg mb:Str→Option Value) (c:Cx) (m:aA) (fr:aA) (gl':List (Str×Value)) (x:Str) (ifs:List Expr) (elt:Expr) (scope:Scope)
  (Q:Addr→aA→Gh→Shared→Prop) (xv:Value) (s:Shared):Prop
 | mk (n:Nat) (It:Nat→GK) (Src:Gh→Prop) (P:Nat→Value→Prop) (pr:Value→Bool) (F:Value→Value→Gh→Prop) (T:List Nat) (Inv:Nat→List Value→Gh→Prop) (G₁:Gh) (S:aE prog w c s m G₁) (W:jZ prog w K p loose mean mg mb c xv n It Src P m G₁ s) (hS:∀ i ys G',aD T G₁ G'→Inv i ys G'→Src G') (h0:Inv 0 [] G₁) (O:zG prog w K p loose mean mg mb c fr gl' x ifs elt scope pr F n P T Inv G₁)
  (h:∀ D s' (vs ys:List Value) G',G₁ D=none→aD T G₁ G'→Inv n ys G'→G' D=some ⟨(9,0),.list ys⟩→vs.length=n→(∀ j v,vs[j]?=some v→P j v)→Paired (fun v y=>F v y G') (vs.filter pr) ys→aE prog w c s' m G'→Q D m G' s')
theorem HB {n:Nat} {It:Nat→GK} {Src:Gh→Prop} {P:Nat→Value→Prop} (pr:Value→Bool) (F:Value→Value→Gh→Prop) (T:List Nat) (Inv:Nat→List Value→Gh→Prop) {G₁:Gh} {ifs:List Expr} {elt:Expr} {Q:Addr→aA→Gh→Shared→Prop} {xv:Value} (S:aE prog w c s m G₁) (W:jZ prog w K p loose mean mg mb c xv n It Src P m G₁ s)
  (hS:∀ i ys G',aD T G₁ G'→Inv i ys G'→Src G') (h0:Inv 0 [] G₁) (O:zG prog w K p loose mean mg mb c fr gl' x ifs elt scope pr F n P T Inv G₁)
  (h:∀ D s' (vs ys:List Value) G',G₁ D=none→aD T G₁ G'→Inv n ys G'→G' D=some ⟨(9,0),.list ys⟩→vs.length=n→(∀ j v,vs[j]?=some v→P j v)→Paired (fun v y=>F v y G') (vs.filter pr) ys→aE prog w c s' m G'→Q D m G' s') :
  tH prog w K p loose mean mg mb c m fr gl' x ifs elt scope Q xv s:=⟨n,It,Src,P,pr,F,T,Inv,G₁,S,W,hS,h0,O,h⟩
theorem A9 {C:Addr} {t:Nat} {h':Heap} {tg:Tag} (S:aE prog w c s m (upd G C ⟨tg,.ns⟩)) (hC:G C=none) (hs:sS C s.heap h'):aE prog w c {s with heap:=h'} m G:=by
 have S':=S.ext (t:=s.toks) (aI _ _ _) rfl hs.extBut
 refine S'.forget fun b x e=>?_
 have hb:b≠C:=uG e hC
 exact kF (by exact sb (bF hb) e) hb
theorem aeG {elt iter:Expr} {px pos:Pos} {ifs:List Expr} {Q:Value→Shared→Prop} (ok:bL p loose mean mg mb K c) (oo:bB c) (S:aE prog w c s m G) (h:jH c m osc fr gl' x scope)
  (hi:wpAny (model prog w) c.A (eval iter c.env) (tH prog w K p loose mean mg mb c m fr gl' x ifs elt scope (fun D m' G' s'=>Q (.ref D) s')) E s)
  (hs:∀ x,foldedSetIterable iter c.env x=pure x:=by intro _; rfl):wpAny (model prog w) c.A (eval (.ListComp elt [⟨.Name x px,iter,ifs,0⟩] scope pos) c.env) Q E s:=by
 rw [eval_ListComp]
 refine wpAny_comprehension_free (use:=none) rfl hs (h.clos S) h.hkind (fun y hy=>(h.at y hy).2.2.1) (wpAny_mono hi (fun xv s₁ h₁=>?_) fun zz zz e=>e)
 obtain ⟨n,It,Src,P,pr,F,T,Inv,G₁,S₁,W,hS,h0,O,hQ⟩:=h₁
 refine W _ _ fun I s₂ hI S₂ W₂ zz=>?_
 refine HD ok oo h S₂ hI W₂ hS h0 O fun D C s₃ vs ys G' hD k hv hC hD' hl hP hF S₃=>?_
 refine sQ (S₃.at_ (aI _ _ _)) fun d mf hns=>?_
 exact ⟨mf,hns,fun h' hs'=>hQ D _ vs ys G' hD k hv hD' hl hP hF (A9 (t:=0) S₃ hC hs')⟩
set_option tactic.hygienic true in
theorem LG {elt iter:Expr} {px py pos spos:Pos} {ifs:List Expr} {y:Str} {Q:Flow→Shared→Prop} (ok:bL p loose mean mg mb K c) (oo:bB c) (S:aE prog w c s m G) (h:jH c m osc fr gl' x scope)
  (hsw:swapsWith (.ListComp elt [⟨.Name x px,iter,ifs,0⟩] scope pos) (some (.Name y py)) spos.line c.env=pure true)
  (hi:wpAny (model prog w) c.A (eval iter c.env) (tH prog w K p loose mean mg mb c m fr gl' x ifs elt scope (fun D m' G' s'=>∃ m₂,j7 m y (.ref D) m₂∧∀ s'',aE prog w c s'' m₂ G'→Q .next s'')) E s)
  (hs:∀ x,foldedSetIterable iter c.env x=pure x:=by intro _; rfl):wpAny (model prog w) c.A (exec (.Assign [.Name y py] (.ListComp elt [⟨.Name x px,iter,ifs,0⟩] scope pos) spos) c.env) Q E s:=by
 refine sb (exec_Assign_Name_used _ _ _ _ hsw) ?_
 refine wpAny_bind (wpAny_standAt (wpAny_bind ?_))
 show wpAny _ c.A (do let _←comprehension (.ListComp elt [⟨.Name x px,iter,ifs,0⟩] scope pos) scope c.env _ (newList []) false (eval iter c.env) (some (assign (.Name y py) c.env))) _ _ s
 refine wpAny_bind (wpAny_mono (wpAny_comprehension_free (use:=some (assign (.Name y py) c.env)) (Q:=fun zz s'=>Q .next s') rfl hs (h.clos S) h.hkind (fun y hy=>(h.at y hy).2.2.1)
  (wpAny_mono hi (fun xv s₁ h₁=>?_) fun zz zz e=>e)) (fun zz s' hq=>wpAny_pure (wpAny_pure hq)) fun zz zz e=>e)
 obtain ⟨n,It,Src,P,pr,F,T,Inv,G₁,S₁,W,hS,h0,O,hQ⟩:=h₁
 refine W _ _ fun I s₂ hI S₂ W₂ zz=>?_
 refine HD (RR:=fun acc C=>compPost (model prog w) c.A E (some (assign (.Name y py) c.env)) (fun zz s'=>Q .next s') acc C) ok oo h S₂ hI W₂ hS h0 O fun D C s₃ vs ys G' hD k hv hC hD' hl hP hF S₃=>?_
 show wpAny _ c.A (assign (.Name y py) c.env (.ref D)) _ _ _
 refine aV (hQ D s₃ vs ys G' hD k hv hD' hl hP hF (S₃.forget fun b z e=>by exact sb (bF (uG e hC)) e)) fun m₂ hset hfin=>?_
 refine wpAny_assign_Name (LV ok oo S₃ hset fun s₄ S₄=>?_)
 refine sQ (S₄.at_ (aI _ _ _)) fun d mf hns=>?_
 exact ⟨mf,hns,fun h' hs'=>hfin _ (A9 (t:=0) S₄ hC hs')⟩
theorem ag9 {env:Env} {Q:Bool→Shared→Prop} (h:Q true s):wpAny (model prog w) A (qG [] env) Q E s:=wpAny_tests_nil h
theorem agA {env:Env} {t:Expr} {Q:Bool→Shared→Prop} (h:wpAny (model prog w) A (isTrue t env (eval t env)) Q E s):wpAny (model prog w) A (qG [t] env) Q E s:=wpAny_tests_one h
end
section
variable {prog:Program} {w:World} {K:Frag} {p:Program} {loose:List Str} {mean:ExcName→Option Value} {mg mb:Str→Option Value}
variable {c:Cx} {s:Shared} {m m':aA} {G G':Gh} {A:Around} {E:Value→Shared→Prop}
theorem aE.sys (S:aE prog w c s m G) {a:Addr} {x:GO} (hG:G a=some x):(a==sysModules)=false:=by
 obtain ⟨own,mf,S⟩:=S
 exact beq_false_of_ne (S.ga.sys a x hG)
theorem adU {d:Addr} {t:Tag} {es:List (Str×Value)} {k:Str} {u:Tok} {v:Value} {Q:Value→Shared→Prop} (S:aE prog w c s m G) (hG:G d=some ⟨t,.aZ es⟩) (hv:valueAt es k=some v) (h:∀ s',aE prog w c s' m G→Q v s') :
  wpAny (model prog w) A (getItem (.ref d) (.str k u)) Q E s:=wpAny_getItem_of (strKind_is _ _ _ _) (S.aZ hG).1.mapOf hv (h _ (S.toks _))
theorem adV {d:Addr} {t:Tag} {es:List (Str×Value)} {k:Str} {u:Tok} {v:Value} {Q:Unit→Shared→Prop} (S:aE prog w c s m G) (hG:G d=some ⟨t,.aZ es⟩) (hz:es.length<1000000) (h:∀ s',aE prog w c s' m (upd G d ⟨t,.aZ (stored es k v)⟩)→Q () s') :
  wpAny (model prog w) A (setItem (.ref d) (.str k u) v) Q E s:=by
 refine wpAny_setItem_pairs (strKind_is _ _ _ _) (S.aZ hG).1 (fun h' hm hs=>h _ (S.turn (t:=s.toks+1) hG rfl rfl hs fun zz=>⟨hm,?_⟩)) (by exact sb sizeLine_eq (aG (cZ hz) (ble rfl)))
 unfold stored; split<;>simp<;>(first | exact KQ hz | exact KR hz)
theorem ae3 {d:Addr} {t:Tag} {es:List (Str×Value)} {k:Str} {u:Tok} {Q:Value→Shared→Prop} (S:aE prog w c s m G) (hG:G d=some ⟨t,.aZ es⟩) (h:∀ s',aE prog w c s' m G→Q (.bool (valueAt es k).isSome) s') :
  wpAny (model prog w) A (compareOp .In (.str k u) (.ref d)) Q E s:=wpAny_in_of (strKind_is _ _ _ _) (S.sys hG) (S.aZ hG).1.mapOf (h _ (S.toks _))
theorem ae1 {d:Addr} {t:Tag} {es:List (Str×Value)} {k:Str} {u:Tok} {Q:Value→Shared→Prop} (S:aE prog w c s m G) (hG:G d=some ⟨t,.aZ es⟩) (h:∀ s',aE prog w c s' m G→Q ((valueAt es k).getD .none) s') :
  wpAny (model prog w) A (call (.builtin "dict.get") [.ref d,.str k u]) Q E s :=
 have hD:=(S.aZ hG).1
 call_meetsIn zC hD.typeIs P8 (PySem.F.args_dict_get_2 _ _) (meets_dict_get _ d (strKind_is _ _ _ _) (S.sys hG)) ⟨_,hD.mapOf,h _ (S.toks _)⟩
theorem aeM {d:Addr} {t:Tag} {es:List (Str×Value)} {pl:Sem Bool} {Q:Value×List Value→Shared→Prop} (S:aE prog w c s m G) (hG:G d=some ⟨t,.aZ es⟩) (h:Q (.builtin "dict.get",[.ref d]) s):wpAny (model prog w) A (getMethod (.ref d) "get" pl) Q E s :=
 have hD:=(S.aZ hG).1
 getMethod_builtin hD.typeIs P9 zC PD hD.mapOf.noDict h
theorem aeT {env:Env} {pos:Pos} {Q:Value→Shared→Prop} (tg:Tag) (S:aE prog w c s m G) (h:∀ d s',G d=none→aE prog w c s' m (upd G d ⟨tg,.aZ []⟩)→Q (.ref d) s'):wpAny (model prog w) A (eval (.Dict [] [] pos) env) Q E s:=by
 refine wpAny_Dict_empty ?_
 obtain ⟨S',hn⟩:=S.add (h':=s.heap.push {cls:=.type "dict",data:=.dict #[]}) (t:=s.toks) (a:=s.heap.objs.size) ⟨tg,.aZ []⟩ (fun b o e=>d8 _ e) S.fresh rfl fun d=>⟨yN (knd:=strKind prog w) s.heap,by simp⟩
 exact h _ _ hn S'
theorem aeS {env:Env} {pos:Pos} {Q:Value→Shared→Prop} (tg:Tag) (S:aE prog w c s m G) (h:∀ d s',G d=none→aE prog w c s' m (upd G d ⟨tg,.cR []⟩)→Q (.ref d) s'):wpAny (model prog w) A (eval (.Dict [] [] pos) env) Q E s:=by
 refine wpAny_Dict_empty ?_
 obtain ⟨S',hn⟩:=S.add (h':=s.heap.push {cls:=.type "dict",data:=.dict #[]}) (t:=s.toks) (a:=s.heap.objs.size) ⟨tg,.cR []⟩ (fun b o e=>d8 _ e) S.fresh rfl fun d=>⟨yN (knd:=intKind prog w) s.heap,by simp⟩
 exact h _ _ hn S'
theorem ae2 {d:Addr} {t:Tag} {es:List (Int×Value)} {k:Int} {u:Tok} {v:Value} {Q:Unit→Shared→Prop} (S:aE prog w c s m G) (hG:G d=some ⟨t,.cR es⟩) (hz:es.length<1000000) (h:∀ s',aE prog w c s' m (upd G d ⟨t,.cR (stored es k v)⟩)→Q () s') :
  wpAny (model prog w) A (setItem (.ref d) (.int k u) v) Q E s:=by
 refine wpAny_setItem_pairs (intKind_is _ _ _ _) (S.cR hG).1 (fun h' hm hs=>h _ (S.turn (t:=s.toks+1) hG rfl rfl hs fun zz=>⟨hm,?_⟩)) (by exact sb sizeLine_eq (aG (cZ hz) (ble rfl)))
 unfold stored; split<;>simp<;>(first | exact KQ hz | exact KR hz)
theorem aeV {d:Addr} {t:Tag} {es:List (Int×Value)} {k:Int} {u:Tok} {Q:Value→Shared→Prop} (S:aE prog w c s m G) (hG:G d=some ⟨t,.cR es⟩) (h:∀ s',aE prog w c s' m G→Q (.bool (!(valueAt es k).isSome)) s') :
  wpAny (model prog w) A (compareOp .NotIn (.int k u) (.ref d)) Q E s:=wpAny_notIn_of (intKind_is _ _ _ _) (S.sys hG) (S.cR hG).1.mapOf (h _ (S.toks _))
theorem adT {env:Env} {keys:List (Option Expr)} {values:List Expr} {pos:Pos} {Q:Value→Shared→Prop} (tg:Tag) (hall:keys.all (·.isSome)=true) (hl:keys.length=values.length) (h0:keys≠[]) (hlen:keys.length≤15) (S:aE prog w c s m G) (ok:bL p loose mean mg mb K c)
  (h:∀ d s',G d=none→aE prog w c s' m (upd G d ⟨tg,.aZ []⟩)→wpAny (model prog w) A (evalPairs (pairTrees keys values env pos)) (fun vs s₁=>∃ m₁ G₁,allStrKeys vs=true∧((strPairs vs).map (·.1)).Nodup∧(strPairs vs).length≤1000000∧aE prog w c s₁ m₁ G₁∧G₁ d=some ⟨tg,.aZ []⟩ ∧
   ∀ s₂,aE prog w c s₂ m₁ (upd G₁ d ⟨tg,.aZ (strPairs vs)⟩)→Q (.ref d) s₂) E s'):wpAny (model prog w) A (eval (.Dict keys values pos) env) Q E s:=by
 obtain ⟨mf,F⟩:=S.fr ok
 refine Dict_made (knd:=strKind prog w) F hall hl h0 hlen fun zz=>?_
 obtain ⟨S',hn⟩:=S.add (h':=s.heap.push {cls:=.type "dict",data:=.dict #[]}) (t:=s.toks) (a:=s.heap.objs.size) ⟨tg,.aZ []⟩ (fun b o e=>d8 _ e) S.fresh rfl fun d=>⟨yN (knd:=strKind prog w) s.heap,by simp⟩
 refine wpAny_mono (h _ _ hn S') (fun vs s₁ h₁=>?_) fun zz zz x=>x
 refine ajH h₁ fun m₁ G₁ hk hnd hz S₁ hd hQ=>?_
 refine display_done_str hk hnd (S₁.aZ hd).1 fun h' hm hs=>hQ _ (S₁.turn (t:=s₁.toks+vs.length) hd rfl rfl hs fun zz=>⟨hm,hz⟩)
end
structure pQ (K:Frag) (C fI:Addr):Prop where
 hm:makesIn K C=true
 hi:findIn K (.ref C) "__init__"=some (some (.ref fI))
 hf:typeIn K (.ref fI)=some (.type "function")
section
variable {prog:Program} {w:World} {K:Frag} {p:Program} {loose:List Str} {mean:ExcName→Option Value} {mg mb:Str→Option Value}
variable {c:Cx} {s:Shared} {m m':aA} {G G':Gh} {A:Around} {E:Value→Shared→Prop}
theorem aeL {C fI:Addr} {vs:List Value} {dn un:Nat} {Q:Addr→Gh→Prop} {P PE:Value→Shared→Prop} (tg:Tag) (ok:bL p loose mean mg mb K c) (S:aE prog w c s m G) (N:pQ K C fI)
  (Cc:∀ x,G x=none→FJ prog w K p loose mean mg mb (.ref fI) (.ref x::vs) (upd G x ⟨tg,.inst C []⟩) dn un (fun r G'=>r=.none∧Q x G'))
  (hd:c.A.depth+(dn+1)<recursionLimit) (hu:c.A.units+(un+1)<cLine) (h:∀ x s' G',G x=none→aE prog w c s' m G'→Q x G'→P (.ref x) s'):wpAny (model prog w) c.A (call (.ref C) vs) P PE s:=by
 obtain ⟨hh,g,d,t,os⟩:=s
 have X:=S.dN ok
 refine wpAny_call (make_core (makes_of X N.hm) (looks_findIn X N.hi) (fun self=>bind_fn X self N.hf) (.inl rfl) ?_)
 obtain ⟨S',hx⟩:=S.zQ (h':=(hh.push emptyDict).push (instObj C hh.objs.size)) (t:=t) (a:=hh.objs.size+1) (d:=hh.objs.size) ⟨tg,.inst C []⟩ (fun b o e=>d8 _ (d8 _ e)) (sV (j6 _)) (sV (bZ _)) (Nat.succ_ne_self _)
  ⟨by heap_get,⟨[],0,d8 _ (j4 _ rfl),trivial⟩,by simp,by simp,by simp⟩ (j6 _)
 obtain ⟨own,mf,S''⟩:=S'
 refine v7 (S''.down ok) fun g' h1 h4 h5 h6 h7=>?_
 have a1:=depth_under_make c.A C vs
 have a2:=units_under_make c.A C vs
 have B:=S''.below ok
 refine codeAny_mono (Cc _ hx _ c.base g' c.bK own _ (fun v s'=>v=.none∧P (.ref (hh.objs.size+1)) s') fL ⟨B.stack,B.stays,B.frames⟩ h1 ok.X ok.T ok.hh (by exact sb a1 (bQ hd (by simp +arith only))) (by exact sb a2 (o1 hu)) h4 h5 h6 (fun r s' own' G' D sl e1 e2 e3 q=>?_) fun zz zz zz zz zz zz zz zz zz zz zz q=>q.elim) fun r s' z=>?_
 ·obtain ⟨rfl,q⟩:=q
  exact ⟨rfl,h _ s' G' hx ⟨own',mf,(h7 s' own' G' D sl e1 e2 e3).1⟩ q⟩
 ·induction r using Except.casesOn with
  | error e=>exact z.elim
  | ok f=>induction f using Flow.casesOn<;>first | exact z | exact z.elim
end
noncomputable def i9 (osc:Scope):Env:={scope:=osc,locals:=0,globals:=0,cells:=[]}
theorem MP {ts:List Expr} {v:Expr} {env:Env} {osc:Scope} (h:env.scope=osc):swappedStores ts v env=swappedStores ts v (i9 osc):=by
 subst h; rfl
theorem xU {v:Expr} {t:Option Expr} {l:Nat} {env:Env} {osc:Scope} (h:env.scope=osc):swapsWith v t l env=swapsWith v t l (i9 osc):=by
 subst h; rfl
theorem MG {v:Expr} {t:List Expr} {l:Nat} {env:Env} {osc:Scope} (h:env.scope=osc):swapsWithSole t v l env=swapsWithSole t v l (i9 osc):=by
 subst h
 induction t using List.casesOn with
 | nil=>rfl
 | cons a r=>induction r using List.casesOn<;>rfl
section
variable {prog:Program} {w:World} {K:Frag} {p:Program} {loose:List Str} {mean:ExcName→Option Value} {mg mb:Str→Option Value}
variable {c:Cx} {s:Shared} {m m':aA} {G G':Gh} {A:Around} {E:Value→Shared→Prop} {osc:Scope} {gl:List (Str×Value)}
theorem ajV {elts:List Expr} {k:Nat} {tpos pos:Pos} {value:Expr} {Q:Flow→Shared→Prop} (hsc:c.env.scope=osc) (h:wpAny (model prog w) A (eval value c.env) (fun v s₁=>wpAny (model prog w) A (assign (.Tuple elts k tpos) c.env v) (fun zz=>Q .next) E s₁) E s)
  (hs:swapsWithSole [.Tuple elts k tpos] value pos.line (i9 osc)=pure false) (hw:swappedStores [.Tuple elts k tpos] value (i9 osc)=pure none):wpAny (model prog w) A (exec (.Assign [.Tuple elts k tpos] value pos) c.env) Q E s :=
 PyProof.Rows.Assign_Tuple h ((MG hsc).trans hs) ((MP hsc).trans hw)
theorem ajW {elts:List Expr} {k:Nat} {tpos pos:Pos} {value:Expr} {names:List Str} {Q:Flow→Shared→Prop} (hsc:c.env.scope=osc) (h:wpAny (model prog w) A (eval value c.env) (fun v s₁=>wpAny (model prog w) A (unpackItems v names.length none) (fun items s₂=>wpAny (model prog w) A (assignInOrder (names.reverse.map fun n=>bindName c.env n) items.reverse) (fun zz=>Q .next) E s₂) E s₁) E s)
  (hs:swapsWithSole [.Tuple elts k tpos] value pos.line (i9 osc)=pure false) (hw:swappedStores [.Tuple elts k tpos] value (i9 osc)=pure (some names)):wpAny (model prog w) A (exec (.Assign [.Tuple elts k tpos] value pos) c.env) Q E s :=
 PyProof.Rows.Assign_Tuple_swapped h ((MG hsc).trans hs) ((MP hsc).trans hw)
theorem aE.JZ (S:aE prog w c s m G) {h':Heap} {t:Nat} (k:Heap.ExtBut s.heap.objs.size s.heap h'):aE prog w c {s with heap:=h',toks:=t} m G:=S.grow fun b o e=>k b o (FD (v9 e)) e
theorem IG {h:Heap} {a:Addr} {xs:Array Value} (x:IsTup h a xs):h.IsTuple a xs:=x
theorem afB {elts:List Expr} {k:Nat} {pos:Pos} {t:Addr} {tg:Tag} {xs:List Value} {env:Env} {Q:Unit→Shared→Prop} (hh:A.handled=none) (S:aE prog w c s m G) (hG:G t=some ⟨tg,.tup xs⟩) (hn:(assignEach elts env).length=xs.length) (hstar:(assignEach elts env).findIdx? (·.1)=none)
  (h:∀ s',aE prog w c s' m G→wpAny (model prog w) A (assignInOrder ((assignEach elts env).map (·.2)) xs) Q E s'):wpAny (model prog w) A (assign (.Tuple elts k pos) env (.ref t)) Q E s :=
 wpAny_assign_Tuple hh (IG (S.tup hG).1) (by exact sb hn rfl) hstar fun h' hk=>h _ (S.JZ (t:=s.toks) hk)
theorem afC {t:Addr} {tg:Tag} {xs:List Value} {Q:List Value→Shared→Prop} {n:Nat} (hh:A.handled=none) (S:aE prog w c s m G) (hG:G t=some ⟨tg,.tup xs⟩) (hn:n=xs.length) (h:∀ s',aE prog w c s' m G→Q xs s'):wpAny (model prog w) A (unpackItems (.ref t) n none) Q E s:=by
 subst hn
 have:=wpAny_unpackItems_tuple (prog:=prog) (w:=w) (A:=A) (E:=E) (Q:=Q) hh (IG (S.tup hG).1) (fun h' hk=>by simpa using h _ (S.JZ (t:=s.toks) hk))
 exact ‹_›
theorem ajT {f:Value→Sem Unit} {fs:List (Value→Sem Unit)} {v:Value} {vs:List Value} {M:Model} {Q:Unit→Shared→Prop} (h:wpAny M A (f v) (fun zz s₁=>wpAny M A (assignInOrder fs vs) Q E s₁) E s):wpAny M A (assignInOrder (f::fs) (v::vs)) Q E s :=
 wpAny_bind (wpAny_holding h)
theorem ajU {M:Model} {Q:Unit→Shared→Prop} (h:Q () s):wpAny M A (assignInOrder [] []) Q E s:=wpAny_pure h
theorem QL {f:Value} {self:Value} {pos:Pos} {e:Expr} {rest:List Expr} {env:Env} {Q:Value→Shared→Prop} (ok:bL p loose mean mg mb K c) (hk:keepIn K f=true)
  (h:wpAny (model prog w) A (spliced (backTo pos (starEach (e::rest) env))) (fun vs s₁=>K.In s₁.heap∧wpAny (model prog w) A (call f (self::vs)) Q E s₁) E s)
  (he:starEach (e::rest) env=(false,eval e env)::starEach rest env:=by rfl) (hplain:(backTo pos (starEach rest env)).any (·.1)=false:=by rfl) :
  wpAny (model prog w) A (callWith pos f [self] (backTo pos (starEach (e::rest) env)) []) Q E s:=callWith_K ok.X hk h he hplain
theorem QM {f:Value} {self:Value} {pos:Pos} {env:Env} {Q:Value→Shared→Prop} (ok:bL p loose mean mg mb K c) (S:aE prog w c s m G) (hk:keepIn K f=true) (h:wpAny (model prog w) A (call f [self]) Q E s) :
  wpAny (model prog w) A (callWith pos f [self] (backTo pos (starEach [] env)) []) Q E s:=callWith_K0 (S.dN ok) hk h
theorem QN {pos:Pos} {id:String} {self:Value} {e:Expr} {rest:List Expr} {env:Env} {Q:Value→Shared→Prop} (h:wpAny (model prog w) A (spliced (backTo pos (starEach (e::rest) env))) (fun vs s₁=>wpAny (model prog w) A (call (.builtin id) (self::vs)) Q E s₁) E s)
  (he:starEach (e::rest) env=(false,eval e env)::starEach rest env:=by rfl) (hplain:(backTo pos (starEach rest env)).any (·.1)=false:=by rfl) :
  wpAny (model prog w) A (callWith pos (.builtin id) [self] (backTo pos (starEach (e::rest) env)) []) Q E s:=by
 rw [he] at h ⊢
 exact callWith_builtin (by show (false||(backTo pos (starEach rest env)).any (·.1))=false; refine sb hplain ?_; rfl) (evalArgs_plain h)
theorem xK {a:Addr} {t:Tag} {xs:List Value} {n:Str} {id:String} {pl:Sem Bool} {Q:Value×List Value→Shared→Prop} (S:aE prog w c s m G) (hG:G a=some ⟨t,.list xs⟩) (slot:Slot "list" n id) (hty:typeOf (.builtin id)=pure (.type "method_descriptor"))
  (h:Q (.builtin id,[.ref a]) s):wpAny (model prog w) A (getMethod (.ref a) n pl) Q E s:=by
 obtain ⟨⟨k,hl⟩,_⟩:=S.list hG
 exact getMethod_builtin ⟨_,hl,rfl⟩ PySem.F.plainAttrs_list slot hty (fun b e=>by cases e; exact ⟨_,hl,rfl⟩) h
theorem LA {xs:List Value} {y:Nat}:slicePick xs.toArray none (some (y:Int)) none=(xs.take y).toArray:=by
 have e:sliceBounds none (some (y:Int)) none xs.toArray.size=(((0:Nat):Int),((min y xs.length:Nat):Int),1):=by
  simp [sliceBounds]; omega
 refine sb (kmk_pick_nat _ e) ?_; simp [kmk_take_min]
theorem pick_from {xs:List Value} {x:Nat}:slicePick xs.toArray (some (x:Int)) none none=(xs.drop x).toArray:=by
 have e:sliceBounds (some (x:Int)) none none xs.toArray.size=(((min x xs.length:Nat):Int),((xs.length:Nat):Int),1):=by
  simp [sliceBounds]; omega
 refine sb (kmk_pick_nat _ e) ?_
 congr 1
 show (xs.drop (min x xs.length)).take (xs.length - min x xs.length)=xs.drop x
 exact sb (kmk_drop_min _ _) (sb (List.take_of_length_le (by exact sb F0 abU)) rfl)
theorem LU {value:Expr} {lower upper:Option Expr} {sp pos:Pos} {env:Env} {Q:Value→Shared→Prop} (tg:Tag)
  (h:wpAny (model prog w) A (eval value env) (fun o s₁=>wpAny (model prog w) A (evalPart lower env) (fun vl s₂=>wpAny (model prog w) A (evalPart upper env) (fun vu s₃=>∃ l t xs ys lo hi m₁ G₁,o=.ref l∧aE prog w c s₃ m₁ G₁∧G₁ l=some ⟨t,.list xs⟩∧IsPart vl lo∧IsPart vu hi ∧
   slicePick xs.toArray lo hi none=z6 ys∧ys.length≤xs.length∧∀ a s',G₁ a=none→aE prog w c s' m₁ (upd G₁ a ⟨tg,.list ys⟩)→Q (.ref a) s') E s₂) E s₁) E s)
  (ht:∀ o r,letTemporaryGo value o r=pure ():=by intro _ _; rfl):wpAny (model prog w) A (eval (.Subscript value (.Slice lower upper none sp) pos) env) Q E s:=by
 refine wpAny_Subscript_list_slice (wpAny_mono h (fun o s₁ h₁=>wpAny_mono h₁ (fun vl s₂ h₂=>wpAny_mono h₂ (fun vu s₃ h₃=>?_) fun zz zz x=>x) fun zz zz x=>x) fun zz zz x=>x) ht
 refine ajN h₃ fun l t xs ys lo hi m₁ G₁ zq1 S hG pl pu e hy hQ=>?_
 subst zq1
 obtain ⟨⟨n,hl⟩,hz⟩:=S.list hG
 refine ⟨l,_,lo,hi,rfl,hl.isList,by rw [gK,sizeLine_eq]; exact aG hz (ble rfl),pl,pu,?_⟩
 refine sb e ?_
 have S1:=S.grow (h':=s₃.heap.push {cls:=.type "slice",data:=.fields #[vl,vu,.none]}) (t:=s₃.toks) fun b o e=>d8 _ e
 obtain ⟨S',hn⟩:=S1.add (h':=yO _ {cls:=.type "list",data:=.seq ys.toArray}) (t:=s₃.toks) (a:=(s₃.heap.push {cls:=.type "slice",data:=.fields #[vl,vu,.none]}).objs.size) ⟨tg,.list ys⟩ (fun b o e=>d8 _ e) S1.fresh rfl fun d=>⟨⟨0,j4 _ rfl⟩,by exact aG hy hz⟩
 have hsz:(s₃.heap.push {cls:=.type "slice",data:=.fields #[vl,vu,.none]}).objs.size=s₃.heap.objs.size+1:=ER ..
 rw [hsz] at S' hn
 exact hQ _ _ hn S'
theorem adW {a b:Addr} {t u:Tag} {xs:List Value} {Q:Value→Shared→Prop} (S:aE prog w c s m G) (hG:G a=some ⟨t,.list xs⟩) (hb:G b=some ⟨u,.list []⟩) (hu:A.units+64<cLine) (h:Q (.bool xs.isEmpty) s):wpAny (model prog w) A (compareOp .Eq (.ref a) (.ref b)) Q E s:=by
 obtain ⟨⟨n,hl⟩,_⟩:=S.list hG
 obtain ⟨⟨n',hl'⟩,_⟩:=S.list hb
 induction xs using List.casesOn with
 | nil=>exact eq_intsK (vs:=[]) (us:=[]) (ns:=[]) (ms:=[]) hl.isList (aX.are trivial) hl'.isList (aX.are trivial) hu h
 | cons x r=>exact PySem.SeqAt.eq_list_lengthsAt hl.isList hl'.isList (by exact rfl) (by exact abT hu) h
theorem aeR {a b:Addr} {t u:Tag} {xs ys:List Value} {ns ms:List Int} {Q:Value→Shared→Prop} (S:aE prog w c s m G) (hG:G a=some ⟨t,.list xs⟩) (hb:G b=some ⟨u,.list ys⟩) (hx:aX xs ns) (hy:aX ys ms) (hu:A.units+64<cLine) (h:Q (.bool (!decide (ns=ms))) s):wpAny (model prog w) A (compareOp .NotEq (.ref a) (.ref b)) Q E s:=by
 obtain ⟨⟨n,hl⟩,_⟩:=S.list hG
 obtain ⟨⟨n',hl'⟩,_⟩:=S.list hb
 exact ne_intsK hl.isList hx.are hl'.isList hy.are hu h
theorem aeA {a:Addr} {t:Tag} {xs:List Value} {k:Int} {u:Tok} {x:Value} {Q:Value→Shared→Prop} (S:aE prog w c s m G) (hG:G a=some ⟨t,.tup xs⟩) (h0:0≤k) (hx:xs[k.toNat]?=some x) (h:Q x s) :
  wpAny (model prog w) A (getItem (.ref a) (.int k u)) Q E s:=by
 obtain ⟨ht,hz⟩:=S.tup hG
 have hlt:k.toNat<xs.length:=(cO.mp hx).1
 exact getItem_tuple (j:=k.toNat) ht (by exact abS h0) (by exact KS hz hlt) (by exact sb gK (seqIndex_of h0 (by exact abR hlt))) (by simpa using hx) h
theorem aeC {value slice:Expr} {a:Addr} {t:Tag} {xs:List Value} {k:Int} {u:Tok} {x:Value} {Q:Value→Shared→Prop} (S:aE prog w c s m G) (hG:G a=some ⟨t,.list xs⟩) (h0:0≤k) (hx:xs[k.toNat]?=some x) (h:Q x s)
  (hs:subscripted slice false (.ref a) (.int k u)=operate [.ref a,.int k u] (getItem (.ref a) (.int k u)):=by with_unfolding_all rfl):wpAny (model prog w) A (subscriptTail value slice (.ref a) (.int k u)) Q E s:=by
 obtain ⟨⟨n,hl⟩,hz⟩:=S.list hG
 exact tail_any ⟨_,hl,rfl⟩ slot_list_getitem.lookup (ae9 S hG h0 hx h) hs
theorem aeD {value slice:Expr} {a:Addr} {t:Tag} {xs:List Value} {k:Int} {u:Tok} {x:Value} {Q:Value→Shared→Prop} (S:aE prog w c s m G) (hG:G a=some ⟨t,.tup xs⟩) (h0:0≤k) (hx:xs[k.toNat]?=some x) (h:Q x s)
  (hs:subscripted slice false (.ref a) (.int k u)=operate [.ref a,.int k u] (getItem (.ref a) (.int k u)):=by with_unfolding_all rfl):wpAny (model prog w) A (subscriptTail value slice (.ref a) (.int k u)) Q E s :=
 tail_any (S.tup hG).1.typeIs slot_tuple_getitem.lookup (aeA S hG h0 hx h) hs
theorem aeB {value slice:Expr} {a:Addr} {t:Tag} {es:List (Str×Value)} {k:Str} {u:Tok} {v:Value} {Q:Value→Shared→Prop} (S:aE prog w c s m G) (hG:G a=some ⟨t,.aZ es⟩) (hv:valueAt es k=some v) (h:∀ s',aE prog w c s' m G→Q v s')
  (hs:subscripted slice false (.ref a) (.str k u)=operate [.ref a,.str k u] (getItem (.ref a) (.str k u)):=by with_unfolding_all rfl):wpAny (model prog w) A (subscriptTail value slice (.ref a) (.str k u)) Q E s :=
 tail_any (S.aZ hG).1.typeIs slot_dict_getitem.lookup (adU S hG hv h) hs
theorem ae6 {a b:Int} {t u:Tok} {Q:Value→Shared→Prop} (S:aE prog w c s m G) (h:∀ t s',aE prog w c s' m G→Q (.int (a+b) t) s'):wpAny (model prog w) A (inplaceOp .Add (.int a t) (.int b u)) Q E s:=PySem.AutoIntOps.iadd_0 (h _ _ (S.toks _))
theorem af1 {a C:Addr} {t:Tag} {fs fs':List (Str×Value)} {n:Str} {v:Value} {flds:List Str} {Q:Unit→Shared→Prop} (ok:bL p loose mean mg mb K c) (S:aE prog w c s m G) (CA:ClsAt K C flds)
  (hG:G a=some ⟨t,.inst C fs⟩) (hf:iU fs n v fs') (hn:n∈flds) (hv:handedIn v=true) (h:∀ s',aE prog w c s' m (upd G a ⟨t,.inst C fs'⟩)→Q () s'):wpAny (model prog w) A (setAttr (.ref a) n v) Q E s:=af7 ok S CA hG hf hn hv h
theorem af4 {a C:Addr} {t:Tag} {fs:List (Str×Value)} {n:Str} {v:Value} {flds:List Str} {Q:Unit→Shared→Prop} (ok:bL p loose mean mg mb K c) (S:aE prog w c s m G) (CA:ClsAt K C flds)
  (hG:G a=some ⟨t,.inst C fs⟩) (hf:(fs.all fun q=>!(q.1==n))=true) (hl:fs.length<100) (hn:n∈flds) (hv:handedIn v=true) (h:∀ s',aE prog w c s' m (upd G a ⟨t,.inst C (fs++[(n,v)])⟩)→Q () s') :
  wpAny (model prog w) A (setAttr (.ref a) n v) Q E s:=aeU ok S CA hG hf hl hn hv h
theorem aeH {a:Addr} {t:Tag} {xs:List Value} {pl:Sem Bool} {Q:Value×List Value→Shared→Prop} (S:aE prog w c s m G) (hG:G a=some ⟨t,.list xs⟩) (h:Q (.builtin "list.append",[.ref a]) s):wpAny (model prog w) A (getMethod (.ref a) "append" pl) Q E s :=
 xK S hG PA PySem.F.type_list_append h
theorem aeI {a:Addr} {t:Tag} {xs:List Value} {pl:Sem Bool} {Q:Value×List Value→Shared→Prop} (S:aE prog w c s m G) (hG:G a=some ⟨t,.list xs⟩) (h:Q (.builtin "list.extend",[.ref a]) s):wpAny (model prog w) A (getMethod (.ref a) "extend" pl) Q E s :=
 xK S hG PB PySem.F.type_list_extend h
theorem aeK {a:Addr} {t:Tag} {xs:List Value} {pl:Sem Bool} {Q:Value×List Value→Shared→Prop} (S:aE prog w c s m G) (hG:G a=some ⟨t,.list xs⟩) (h:Q (.builtin "list.pop",[.ref a]) s):wpAny (model prog w) A (getMethod (.ref a) "pop" pl) Q E s :=
 xK S hG PySem.F.slot_list_pop PySem.F.type_list_pop h
theorem aeJ {a:Addr} {t:Tag} {xs:List Value} {pl:Sem Bool} {Q:Value×List Value→Shared→Prop} (S:aE prog w c s m G) (hG:G a=some ⟨t,.list xs⟩) (h:Q (.builtin "list.index",[.ref a]) s):wpAny (model prog w) A (getMethod (.ref a) "index" pl) Q E s :=
 xK S hG PC PySem.F.type_list_index h
theorem X6 {env:Env} (h:env.scope.kind=.function):interactive env=false:=by
 unfold interactive; simp [h]
theorem ajS {e:Expr} {pos:Pos} {Q:Flow→Shared→Prop} (ok:bL p loose mean mg mb K c) (h:wpAny (model prog w) A (eval e c.env) (fun zz=>Q .next) E s) (hs:swapsWith e none pos.line c.env=pure false:=by rfl):wpAny (model prog w) A (exec (.Expr e pos) c.env) Q E s :=
 wpAny_Expr_any h (X6 ok.kind) hs
end
section
variable {M:Model} {A:Around} {E:Value→Shared→Prop} {s:Shared} {env:Env}
end
section
variable {prog:Program} {w:World} {K:Frag} {p:Program} {loose:List Str} {mean:ExcName→Option Value} {mg mb:Str→Option Value}
variable {c:Cx} {s:Shared} {m m':aA} {G G':Gh} {A:Around} {E:Value→Shared→Prop} {osc:Scope} {fr:aA} {gl':List (Str×Value)} {x:Str} {scope:Scope}
theorem jV {K:Type} [DecidableEq K] (es:List (K×Value)) (k j:K) (v:Value):valueAt (stored es k v) j=if j=k then some v else valueAt es j:=by
 unfold valueAt stored
 by_cases h:es.any (fun kv=>decide (kv.1=k))=true
 ·refine sb (if_pos h) (sb List.find?_map (sb (Option.map_map _ _ _) ?_))
  have e1:((fun kv=>decide (kv.1=j))∘fun kv=>if kv.1=k then (kv.1,v) else kv)=fun kv:K×Value=>decide (kv.1=j):=funext fun kv=>by
   show decide ((if kv.1=k then (kv.1,v) else kv).1=j)=_
   by_cases q:kv.1=k
   ·exact sb (if_pos q) rfl
   ·exact sb (if_neg q) rfl
  refine sb e1 ?_
  cases hq:es.find? fun kv=>decide (kv.1=j) with
  | none =>
   obtain ⟨x,hx,q⟩:=yR.mp h
   exact (if_neg fun hj:j=k=>(List.find?_eq_none.mp hq) x hx (by exact sb hj q)).symm
  | some kv =>
   have hk:kv.1=j:=of_decide_eq_true (EX (p:=fun kv:K×Value=>decide (kv.1=j)) hq)
   show some (if kv.1=k then (kv.1,v) else kv).2=_
   refine sb hk ?_
   by_cases q:j=k
   ·exact sb (if_pos q) (sb (if_pos q) rfl)
   ·refine sb (if_neg q) (sb (if_neg q) ?_); rfl
 ·refine sb (if_neg h) (sb List.find?_append ?_)
  cases hq:es.find? fun kv=>decide (kv.1=j) with
  | none =>
   refine sb Option.none_or ?_
   by_cases q:j=k
   ·refine sb (if_pos q) (sb (List.find?_cons_of_pos (p:=fun kv:K×Value=>decide (kv.1=j)) (decide_eq_true q.symm)) ?_); rfl
   ·refine sb (if_neg q) (sb (List.find?_cons_of_neg (p:=fun kv:K×Value=>decide (kv.1=j)) (fun e=>q (of_decide_eq_true e).symm)) ?_); rfl
  | some kv =>
   have hk:decide (kv.1=j)=true:=EX (p:=fun kv:K×Value=>decide (kv.1=j)) hq
   exact (if_neg fun q:j=k=>h (yR.mpr ⟨kv,P0 hq,by exact aY q hk⟩)).symm
theorem AG (xs:List Value):xs.filter (fun zz=>true)=xs:=by simp
theorem nH {K:Type} [DecidableEq K] (es:List (K×Value)) (k:K) (v:Value):(stored es k v).length≤es.length+1:=by
 unfold stored; split<;>simp
inductive PJ (prog:Program) (w:World) (c:Cx) (x:Str) (fr:aA) (I D l:Addr) (xs:List Value) (fk:Value→Int) (G₁:Gh) (k:Nat) (s:Shared):Prop
 | mk (i:Nat) (es:List (Int×Value)) (ov:Option Value) (G':Gh) (e:k=xs.length - i) (hi:i≤xs.length) (S:aE prog w c s ((x,ov)::fr) G') (hk:aD [] G₁ G') (hI:G' I=some ⟨(9,0),.lit l i⟩) (hD:G' D=some ⟨(9,0),.cR es⟩) (el:es.length≤i) (hes:∀ j,(valueAt es j).isSome=((xs.take i).map fk).contains j)
set_option tactic.hygienic true in
inductive PI (prog:Program) (w:World) (K:Frag) (p:Program) (loose:List Str) (mean:ExcName→Option Value) (mg mb:Str→Option Value) (c:Cx) (m fr:aA) (gl':List (Str×Value)) (x:Str) (kx vx:Expr) (tg:Tag) (fk:Value→Int) (Q:Addr→Gh→Shared→Prop) (xv:Value) (s₁:Shared):Prop
 | mk (l:Addr) (t:Tag) (xs:List Value) (G₁:Gh) (e:xv=.ref l) (S:aE prog w c s₁ m G₁) (hl:G₁ l=some ⟨t,.list xs⟩) (hlen:xs.length≤100000)
   (hel:∀ c' (k:Nat) v s' G',bL p loose mean mg mb K c'→c'.A=c.A→c'.gl=gl'→xs[k]?=some v→aD [] G₁ G'→aE prog w c' s' ((x,some v)::fr) G' →
    wpAny (model prog w) c.A (eval kx c'.env) (fun kv s₂=>wpAny (model prog w) c.A (eval vx c'.env) (fun vv s₃=>∃ u G₂,kv=.int (fk v) u∧aE prog w c' s₃ ((x,some v)::fr) G₂∧aD [] G' G₂) fL s₂) fL s')
   (hQ:∀ D s' es G',G₁ D=none→aD [] G₁ G'→G' D=some ⟨tg,.cR es⟩→(∀ j,(valueAt es j).isSome=(xs.map fk).contains j)→aE prog w c s' m G'→Q D G' s')
theorem adS {kx vx iter:Expr} {px pos:Pos} {Q:Value→Shared→Prop} {QQ:Addr→Gh→Shared→Prop} (tg:Tag) (fk:Value→Int) (ok:bL p loose mean mg mb K c) (oo:bB c) (h:jH c m osc fr gl' x scope)
  (S0:aE prog w c s m G) (hi:wpAny (model prog w) c.A (eval iter c.env) (PI prog w K p loose mean mg mb c m fr gl' x kx vx tg fk QQ) E s) (hq:∀ D G' s',QQ D G' s'→Q (.ref D) s')
  (hs:∀ x,foldedSetIterable iter c.env x=pure x:=by intro _; rfl) :
  wpAny (model prog w) c.A (eval (.DictComp kx vx [⟨.Name x px,iter,[],0⟩] scope pos) c.env) Q E s:=by
 rw [arm_eval_DictComp]
 refine wpAny_comprehension_free (use:=none) rfl hs (h.clos S0) h.hkind (fun y hy=>(h.at y hy).2.2.1) (wpAny_mono hi (fun xv s₁ h₁=>?_) fun zz zz e=>e)
 obtain ⟨l,t,xs,G₁,rfl,S₁,hl,hlen,hel,hQ⟩:=h₁
 refine IK ok S₁ hl _ _ fun I s₂ hI S₂ W₂ hsrc=>?_
 have hS:∀ G',aD [] G₁ G'→G' l=some ⟨t,.list xs⟩:=fun G' k=>k _ _ hl rfl
 refine wpAny_newObj_type ?_
 have S₃:=S₂.add (h':=s₂.heap.push {cls:=.type "dict",dict:=none,data:=.dict #[]}) (t:=s₂.toks) (a:=s₂.heap.objs.size) ⟨(9,0),.cR []⟩ (fun b o e=>d8 _ e) S₂.fresh rfl (fun d=>⟨yN s₂.heap,by simp⟩)
 generalize hDe:s₂.heap.objs.size=D at S₃ ⊢
 generalize hse:({s₂ with heap:=s₂.heap.push {cls:=.type "dict",dict:=none,data:=.dict #[]}}:Shared)=s₃
 have S₃':aE prog w c s₃ m (upd (upd G₁ I ⟨(9,0),.lit l 0⟩) D ⟨(9,0),.cR []⟩):=by exact aY hse S₃.1
 have hD:=S₃.2
 clear S₃
 refine wpAny_newFunctionEnv (fun y hy=>(h.at y hy).2.1) (by intro y hy; simp at hy) (fun h₁ hns hsb=>?_) h.hkind
 have old:∀ b o,s₃.heap.get? b=some o→h₁.get? b=some o:=fun b o e=>hsb.extBut b o (FD (v9 e)) (d8 _ e)
 have hlow:c.base.objs.size≤s₃.heap.objs.size:=by
  obtain ⟨own,mf,S⟩:=S₃'
  exact aG ok.low (cZ S.ns.lt)
 generalize hCe:s₃.heap.objs.size=C at *
 obtain ⟨S₄,hC⟩:=S₃'.add (h':=h₁) (t:=s₃.toks+([]:List (Str×Value)).length) (a:=C) ⟨(9,0),.ns⟩ old (hCe▸S₃'.fresh) rfl (fun d=>⟨_,hns⟩) (b5 hCe)
 refine OJ (S₄.HF ok oo (aI _ _ _) hlow h.hkind (gJ.mpr fun y hy=>by have:=(h.at y hy).1; simp [this.1,this.2]) h.hsc h.cv (h.nd none) h.aJ) fun c' ok' he hA hg S₅ back=>?_
 obtain ⟨hDI,hD1,k₀,I₀,D₀⟩:=HQ (z:=⟨(9,0),.ns⟩) hI hD hC
 have loop:∀ s₀ G₀ ov,aE prog w c' s₀ ((x,ov)::fr) G₀→aD [] G₁ G₀→G₀ I=some ⟨(9,0),.lit l 0⟩→G₀ D=some ⟨(9,0),.cR []⟩ →
   codeAny (model prog w) c.A (.compLoop (.DictComp kx vx [⟨.Name x px,iter,[],0⟩] scope pos) 0 (.ref I) (.ref D) c'.env) (compPost (model prog w) c.A E none Q (.ref D) C) s₀:=by
  intro s₀ G₀ ov S₀ hk₀ hI₀ hD₀
  refine codeAny_compLoop_testsD (PJ prog w c' x fr I D l xs fk G₁)
   ?_ xs.length ⟨0,[],ov,G₀,rfl,nY _,S₀,hk₀,hI₀,hD₀,bZ _,by exact fun zz=>rfl⟩
  rintro k s' ⟨i,es,ov,G',rfl,hi,S',hk,hI',hD',hel',hes⟩
  by_cases hlt:i<xs.length
  ·refine wpAny_mono (W₂.next c' i s' _ G' _ hA ok' hlt S' hI' (hS _ hk) fun v s'' hPv S''=>?_) (fun zz zz h=>h) fun zz zz h=>h.elim
   have kI:aD [] G₁ (upd G' I ⟨(9,0),.lit l ((i+1:Nat))⟩):=hk.new hI
   show wpAny _ _ (assign (.Name x px) c'.env v) _ _ _
   refine wpAny_assign_Name (DC ok' S'' (by show c'.env.kindOf x=_; exact sb he (lookup_relabel_local h.hx)) .here fun s₃ S₃=>?_)
   refine wpAny_pure ?_
   refine sb (if_pos rfl) ?_
   refine wpAny_mono (hel c' i v s₃ _ ok' hA hg hPv kI S₃) (fun kv s₄ hb=>?_) fun zz zz h=>h.elim
   refine wpAny_mono hb (fun vv s₅ hb=>?_) fun zz zz h=>h.elim
   refine kN hb fun u G₂ zq1 S₄ k₂=>?_
   subst zq1
   have hI₂:G₂ I=some ⟨(9,0),.lit l ((i+1:Nat))⟩:=k₂ _ _ (aI _ _ _) rfl
   have hD₂:G₂ D=some ⟨(9,0),.cR es⟩:=k₂ _ _ (by exact sb (bF hDI) hD') rfl
   refine wpAny_dictSet_pairs (intKind_is _ _ _ _) (S₄.cR hD₂).1 (fun h' hm hs=>?_) (by exact sb sizeLine_eq (abV hlen hel' hlt))
   have hsl:=nH es (fk v) vv
   refine ⟨xs.length - (i+1),by exact vP hlt (lN _),i+1,stored es (fk v) vv,some v,_,rfl,hlt,S₄.turn (t:=s₅.toks+1) hD₂ (y:=⟨(9,0),.cR (stored es (fk v) vv)⟩) rfl rfl hs (fun zz=>⟨hm,by exact dQ (cY hlen hel') (cY hlt hsl) (by simp +arith only)⟩),(kI.trans k₂).new hD1,by refine sb (bF (Ne.symm hDI)) ?_; exact hI₂,aI _ _ _,by exact aG hsl ((d7 hel')),fun j=>?_⟩
   (rewrite [jV]; refine sb mV (sb hPv ?_))
   simp only [mY,dR,cK,yY]
   by_cases hj:j=fk v
   ·subst hj; simp
   ·refine sb (if_neg hj) (sb (hes _) ?_); simp [hj]
  ·have hi':i=xs.length:=lM hi (mW.mp hlt)
   have hI2:G' I=some ⟨(9,0),.lit l xs.length⟩:=hi'▸hI'
   refine wpAny_mono (W₂.last c' s' _ G' _ hA ok' S' hI2 (hS _ hk) fun s'' S''=>?_) (fun zz zz h=>h) fun zz zz h=>h.elim
   obtain ⟨b1,b2⟩:=back s'' _ _ S''
   refine sQ (b1.at_ (aI _ _ _)) fun d mf hns=>?_
   refine ⟨mf,hns,fun h' hs'=>hq _ _ _ (hQ D _ es _ hD1 ((hk.era hI).new hD1) (aI _ _ _) (fun j=>by exact sb (hes j) (sb hi' (sb nX rfl))) ((A9 (t:=0) b1 b2 hs').qE tg (kF hD' hDI)))⟩
 refine HP (p:=fun e=>codeAny (model prog w) c.A (.compStart _ 0 _ _ e) _ _) he (codeAny_compStart_dict (loop _ _ none S₅ k₀ I₀ D₀) ?_)
 exact W₂.self c' 0 _ _ _ _ _ S₅ I₀ (loop _ _ none S₅ k₀ I₀ D₀)
end
section
variable {prog:Program} {w:World} {K:Frag} {p:Program} {loose:List Str} {mean:ExcName→Option Value} {mg mb:Str→Option Value}
variable {c:Cx} {s:Shared} {m m':aA} {G G':Gh} {A:Around} {E:Value→Shared→Prop}
theorem lookup_mem {β:Type} {fs:List (Str×β)} {n:Str} {v:β} (h:fs.lookup n=some v):(n,v)∈fs:=by
 induction fs with
 | nil=>cases h
 | cons q r ih =>
  obtain ⟨x,u⟩:=q
  rw [j5] at h
  by_cases e:n=x
  ·subst e; simp at h; subst h; exact c8
  ·have:(n==x)=false:=by exact decide_eq_false ‹_›
   rw [this] at h; exact cL _ (ih h)
theorem afS {n:Str} {v:Value} {fs:List (Str×Value)} (h:(fs.lookup n).isSome=true):iU fs n v (jQ fs n v):=by
 induction fs with
 | nil=>cases h
 | cons q r ih =>
  obtain ⟨x,u⟩:=q
  rw [j5] at h
  show iU _ n v (if x=n then (x,v)::r else (x,u)::jQ r n v)
  by_cases e:x=n
  ·exact sb (if_pos e) (sb e .here)
  ·rw [beq_false_of_ne (Ne.symm e)] at h
   exact sb (if_neg e) (.there (ih h))
theorem LH {a C:Addr} {t:Tag} {fs:List (Str×Value)} {n:Str} {v:Value} {expr:Bool} {flds:List Str} {Q:Value→Shared→Prop} (ok:bL p loose mean mg mb K c) (S:aE prog w c s m G) (CA:ClsAt K C flds)
  (hG:G a=some ⟨t,.inst C fs⟩) (hf:fs.lookup n=some v) (hn:flds.contains n=true) (h:∀ s',aE prog w c s' m G→Q v s'):wpAny (model prog w) A (getAttr (.ref a) n expr) Q E s :=
 adM ok S CA hG (lookup_mem hf) (by simpa using hn) h
theorem af2 {a C:Addr} {t:Tag} {fs:List (Str×Value)} {n:Str} {v:Value} {flds:List Str} {Q:Unit→Shared→Prop} (ok:bL p loose mean mg mb K c) (S:aE prog w c s m G) (CA:ClsAt K C flds)
  (hG:G a=some ⟨t,.inst C fs⟩) (hf:(fs.lookup n).isSome=true) (hn:flds.contains n=true) (hv:handedIn v=true) (h:∀ s',aE prog w c s' m (upd G a ⟨t,.inst C (jQ fs n v)⟩)→Q () s'):wpAny (model prog w) A (setAttr (.ref a) n v) Q E s :=
 af1 ok S CA hG (afS hf) (by simpa using hn) hv h
theorem LO {x:Str} {v:Value} {pos:Pos} {Q:Value→Shared→Prop} (ok:bL p loose mean mg mb K c) (S:aE prog w c s m G) (hx:m.lookup x=some (some v)) (h:Q v s):wpAny (model prog w) A (eval (.Name x pos) c.env) Q E s :=
 aeP ok S (lookup_mem hx) h
noncomputable def kK (m:aA) (x:Str) (v:Value):aA:=match m with
 | []=>[]
 | q::r=>if q.1=x then (q.1,some v)::r else q::kK r x v
theorem xP {x:Str} {v:Value} {m:aA} (h:(m.lookup x).isSome=true):j7 m x v (kK m x v):=by
 induction m with
 | nil=>cases h
 | cons q r ih =>
  obtain ⟨y,u⟩:=q
  rw [j5] at h
  show j7 _ x v (if y=x then (y,some v)::r else (y,u)::kK r x v)
  by_cases e:y=x
  ·exact sb (if_pos e) (sb e .here)
  ·rw [beq_false_of_ne (Ne.symm e)] at h
   exact sb (if_neg e) (.there (ih h))
end
set_option genInjectivity false in
set_option genSizeOf false in
structure Bn where
 prog:Program
 w:World
 K:Frag
 p:Program
 loose:List Str
 mean:ExcName→Option Value
 mg:Str→Option Value
 mb:Str→Option Value
noncomputable abbrev Bn.Ok (B:Bn) (c:Cx):Prop:=bL B.p B.loose B.mean B.mg B.mb B.K c
noncomputable abbrev Bn.St (B:Bn) (c:Cx) (s:Shared) (m:aA) (G:Gh):Prop:=aE B.prog B.w c s m G
structure V (B:Bn) (c:Cx) (R:Addr→aA→Gh→Prop) {α:Type} (x:Sem α) (m:aA) (G:Gh) (Q:α→aA→Gh→Prop):Prop where
 run:B.Ok c→∀ s,B.St c s m G→wpAny (model B.prog B.w) c.A x (fun a s'=>∃ m' G',B.St c s' m' G'∧Q a m' G') (Exc B.prog B.w c R) s
noncomputable def bN (R:Addr→Gh→Prop):Addr→aA→Gh→Prop:=fun a zz G=>R a G
noncomputable def FZ:Addr→Gh→Prop:=fun zz zz=>False
noncomputable abbrev bJ:Addr→aA→Gh→Prop:=bN FZ
noncomputable def bH (B:Bn) (f:Value) (vs:List Value) (G:Gh) (dn un:Nat) (Q:Value→Gh→Prop) (R:Addr→Gh→Prop):Prop:=oA B.prog B.w B.K B.p B.loose B.mean B.mg B.mb f vs G dn un Q R
noncomputable abbrev Call (B:Bn) (f:Value) (vs:List Value) (G:Gh) (dn un:Nat) (Q:Value→Gh→Prop):Prop:=bH B f vs G dn un Q FZ
noncomputable def bD (c:Cx) (d u:Nat):Prop:=c.A.depth+d<recursionLimit∧c.A.units+u<cLine
section
variable {B:Bn} {c:Cx} {R:Addr→aA→Gh→Prop} {m m':aA} {G G':Gh}
theorem V.go {α:Type} {x:Sem α} {Q:α→aA→Gh→Prop} {P:α→Shared→Prop} {s:Shared} (h:V B c R x m G Q) (ok:B.Ok c) (S:B.St c s m G) (k:∀ a s' m' G',B.St c s' m' G'→Q a m' G'→P a s') :
  wpAny (model B.prog B.w) c.A x P (Exc B.prog B.w c R) s:=wpAny_mono (h.run ok s S) (fun a s' ⟨m',G',S',q⟩=>k a s' m' G' S' q) fun zz zz e=>e
theorem V.goN {α:Type} {x:Sem α} {Q:α→aA→Gh→Prop} {P:α→Shared→Prop} {E:Value→Shared→Prop} {s:Shared} (h:V B c bJ x m G Q) (ok:B.Ok c) (S:B.St c s m G) (k:∀ a s' m' G',B.St c s' m' G'→Q a m' G'→P a s') :
  wpAny (model B.prog B.w) c.A x P E s:=wpAny_mono (h.run ok s S) (fun a s' ⟨m',G',S',q⟩=>k a s' m' G' S' q) fun zz zz e=>(Exc.no e).elim
theorem V.mono {α:Type} {x:Sem α} {Q Q':α→aA→Gh→Prop} (h:V B c R x m G Q) (k:∀ a m' G',Q a m' G'→Q' a m' G'):V B c R x m G Q' :=
 ⟨fun ok s S=>h.go ok S fun a s' m' G' S' q=>⟨m',G',S',k a m' G' q⟩⟩
theorem ahP {x:Str} {v:Value} {pos:Pos} {Q:Value→aA→Gh→Prop} (hx:m.lookup x=some (some v)) (h:Q v m G):V B c R (eval (.Name x pos) c.env) m G Q :=
 ⟨fun ok s S=>LO ok S hx ⟨_,_,S,h⟩⟩
theorem ahB {x:Str} {v:Value} {pos:Pos} {gl:List (Str×Value)} {Q:Value→aA→Gh→Prop} (hg:c.gl=gl) (hx:gl.lookup x=some v) (h:Q v m G):V B c R (eval (.Name x pos) c.env) m G Q :=
 ⟨fun ok s S=>LM ok S hg (lookup_mem hx) ⟨_,_,S,h⟩⟩
theorem xX {i:Int} {n:Nat} {pos:Pos} {Q:Value→aA→Gh→Prop} (h:∀ t,Q (.int i t) m G):V B c R (eval (.Constant (.int i) n pos) c.env) m G Q :=
 ⟨fun ok s S=>adQ S fun t s' S'=>⟨_,_,S',h t⟩⟩
theorem xZ {x:Str} {n:Nat} {pos:Pos} {Q:Value→aA→Gh→Prop} (h:∀ t,Q (.str x t) m G):V B c R (eval (.Constant (.str x) n pos) c.env) m G Q :=
 ⟨fun ok s S=>DA S fun t s' S'=>⟨_,_,S',h t⟩⟩
theorem agY {n:Nat} {pos:Pos} {Q:Value→aA→Gh→Prop} (h:Q .none m G):V B c R (eval (.Constant .none n pos) c.env) m G Q:=⟨fun ok s S=>LJ ⟨_,_,S,h⟩⟩
theorem agX {b:Bool} {n:Nat} {pos:Pos} {Q:Value→aA→Gh→Prop} (h:Q (.bool b) m G):V B c R (eval (.Constant (.bool b) n pos) c.env) m G Q:=⟨fun ok s S=>adP ⟨_,_,S,h⟩⟩
theorem agO {value:Expr} {attr:Str} {pos:Pos} {Q:Value→aA→Gh→Prop} (h:V B c R (eval value c.env) m G fun o m G=>V B c R (getAttr o attr true) m G Q)
  (he:eval (.Attribute value attr pos) c.env=(do
   let o←eval value c.env
   standAt pos.atName
   let r←holding [o] (getAttr o attr true)
   letTemporaryGo value o r
   pure r):=by with_unfolding_all rfl):V B c R (eval (.Attribute value attr pos) c.env) m G Q :=
 ⟨fun ok s S=>Attribute_any_ (h.go ok S fun o s' m' G' S' q=>q.run ok s' S') he⟩
theorem bI {a C:Addr} {t:Tag} {fs:List (Str×Value)} {n:Str} {v:Value} {expr:Bool} {flds:List Str} {Q:Value→aA→Gh→Prop} (CA:ClsAt B.K C flds)
  (hG:G a=some ⟨t,.inst C fs⟩) (hf:fs.lookup n=some v) (hn:flds.contains n=true) (h:Q v m G):V B c R (getAttr (.ref a) n expr) m G Q :=
 ⟨fun ok s S=>LH ok S CA hG hf hn fun s' S'=>⟨_,_,S',h⟩⟩
theorem agQ {l r:Expr} {op:Operator} {pos:Pos} {Q:Value→aA→Gh→Prop} (h:V B c R (eval l c.env) m G fun a m G=>V B c R (eval r c.env) m G fun b m G=>V B c R (binaryOp op a b) m G Q):V B c R (eval (.BinOp l op r pos) c.env) m G Q :=
 ⟨fun ok s S=>wpAny_BinOp (h.go ok S fun a s1 m1 G1 S1 h1=>h1.go ok S1 fun b s2 m2 G2 S2 h2=>h2.run ok s2 S2)⟩
theorem DS {l r:Expr} {op:CmpOp} {pos:Pos} {Q:Value→aA→Gh→Prop} (h:V B c R (eval l c.env) m G fun a m G=>V B c R (eval r c.env) m G fun b m G=>V B c R (compareOp op a b) m G Q)
  (hm:behindInMarks op r=false:=by with_unfolding_all rfl):V B c R (eval (.Compare l [op] [r] pos) c.env) m G Q :=
 ⟨fun ok s S=>wpAny_Compare1 (h.go ok S fun a s1 m1 G1 S1 h1=>h1.go ok S1 fun b s2 m2 G2 S2 h2=>h2.run ok s2 S2) hm⟩
noncomputable def iT (b:Bool) (P P':Prop):Prop:=if b=true then P else P'
theorem XF {b:Bool} {P P':Prop} (h:b=true) (k:P):iT b P P':=by unfold iT; rwa [if_pos h]
theorem XE {b:Bool} {P P':Prop} (h:b=false) (k:P'):iT b P P':=by unfold iT; exact sb h k
theorem IJ {b:Bool} {P P':Prop} (h:b=true→P) (k:b=false→P'):iT b P P':=by
 induction b using Bool.casesOn
 ·exact k rfl
 ·exact h rfl
theorem ahF {test body orelse:Expr} {pos:Pos} {Q:Value→aA→Gh→Prop} (h:V B c R (isTrue test c.env (eval test c.env)) m G fun b m G=>iT b (V B c R (eval body c.env) m G Q) (V B c R (eval orelse c.env) m G Q)):V B c R (eval (.IfExp test body orelse pos) c.env) m G Q :=
 ⟨fun ok s S=>wpAny_IfExp (h.go ok S fun b s1 m1 G1 S1 h1=>by
  induction b using Bool.casesOn
  ·exact (show V B c R (eval orelse c.env) m1 G1 Q from h1).run ok s1 S1
  ·exact (show V B c R (eval body c.env) m1 G1 Q from h1).run ok s1 S1)⟩
theorem ai9 {elts:List Expr} {k:Nat} {pos:Pos} {Q:Value→aA→Gh→Prop} (h:V B c R (spliced (backTo pos (starEach elts c.env))) m G fun vs m G=>V B c R (newTuple vs) m G Q):V B c R (eval (.Tuple elts k pos) c.env) m G Q :=
 ⟨fun ok s S=>Tuple_ (h.go ok S fun vs s1 m1 G1 S1 h1=>h1.run ok s1 S1)⟩
theorem ahL {elts:List Expr} {pos:Pos} {Q:Value→aA→Gh→Prop} (h:V B c R (spliced (backTo pos (starEach elts c.env))) m G fun vs m G=>V B c R (newList vs) m G Q):V B c R (eval (.List elts pos) c.env) m G Q :=
 ⟨fun ok s S=>List_ (h.go ok S fun vs s1 m1 G1 S1 h1=>h1.run ok s1 S1)⟩
theorem eS {vs:List Value} {Q:Value→aA→Gh→Prop} (tg:Tag) (hz:vs.length≤1000000) (h:∀ a,G a=none→Q (.ref a) m (upd G a ⟨tg,.list vs⟩)):V B c R (newList vs) m G Q :=
 ⟨fun ok s S=>LP S tg hz fun a s' ha S'=>⟨_,_,S',h a ha⟩⟩
theorem iE {vs:List Value} {Q:Value→aA→Gh→Prop} (tg:Tag) (hz:vs.length≤1000000) (h:∀ a,G a=none→Q (.ref a) m (upd G a ⟨tg,.tup vs⟩)):V B c R (newTuple vs) m G Q :=
 ⟨fun ok s S=>LQ S tg hz fun a s' ha S'=>⟨_,_,S',h a ha⟩⟩
theorem fP {vs:List Value} {Q:Value→aA→Gh→Prop} (tg:Tag) (hz:vs.length≤1000000) (h:∀ a G',aD [] G G'→G a=none→G' a=some ⟨tg,.list vs⟩→Q (.ref a) m G'):V B c R (newList vs) m G Q :=
 eS tg hz fun a ha=>h a _ ((aD.refl [] G).fresh ha) ha (aI _ _ _)
theorem iF {vs:List Value} {Q:Value→aA→Gh→Prop} (tg:Tag) (hz:vs.length≤1000000) (h:∀ a G',aD [] G G'→G a=none→G' a=some ⟨tg,.tup vs⟩→Q (.ref a) m G'):V B c R (newTuple vs) m G Q :=
 iE tg hz fun a ha=>h a _ ((aD.refl [] G).fresh ha) ha (aI _ _ _)
theorem nN {pos:Pos} {Q:Value→aA→Gh→Prop} (tg:Tag) (h:∀ d,G d=none→Q (.ref d) m (upd G d ⟨tg,.aZ []⟩)):V B c R (eval (.Dict [] [] pos) c.env) m G Q :=
 ⟨fun ok s S=>aeT tg S fun d s' hd S'=>⟨_,_,S',h d hd⟩⟩
theorem NL {pos:Pos} {Q:Value→aA→Gh→Prop} (tg:Tag) (h:∀ d,G d=none→Q (.ref d) m (upd G d ⟨tg,.cR []⟩)):V B c R (eval (.Dict [] [] pos) c.env) m G Q :=
 ⟨fun ok s S=>aeS tg S fun d s' hd S'=>⟨_,_,S',h d hd⟩⟩
theorem v_sub {value slice:Expr} {pos:Pos} {Q:Value→aA→Gh→Prop} (h:V B c R (eval value c.env) m G fun o m G=>V B c R (eval slice c.env) m G fun i m G=>V B c R (subscriptTail value slice o i) m G Q):V B c R (eval (.Subscript value slice pos) c.env) m G Q :=
 ⟨fun ok s S=>Subscript_ (h.go ok S fun a s1 m1 G1 S1 h1=>h1.go ok S1 fun b s2 m2 G2 S2 h2=>h2.run ok s2 S2)⟩
theorem N3 {x y:Expr} {pos:Pos} {Q:Value→aA→Gh→Prop} (h:V B c R (eval x c.env) m G fun v m G=>V B c R (truthy v) m G fun t m G=>iT t (V B c R (eval y c.env) m G Q) (Q v m G)):V B c R (eval (.BoolOp .And [x,y] pos) c.env) m G Q :=
 ⟨fun ok s S=>wpAny_And2 (h.go ok S fun v s1 m1 G1 S1 h1=>h1.go ok S1 fun t s2 m2 G2 S2 h2=>by
  induction t using Bool.casesOn
  ·exact ⟨_,_,S2,(show Q v m2 G2 from h2)⟩
  ·exact (show V B c R (eval y c.env) m2 G2 Q from h2).run ok s2 S2)⟩
theorem ahW {x y:Expr} {pos:Pos} {Q:Value→aA→Gh→Prop} (h:V B c R (eval x c.env) m G fun v m G=>V B c R (truthy v) m G fun t m G=>iT t (Q v m G) (V B c R (eval y c.env) m G Q)):V B c R (eval (.BoolOp .Or [x,y] pos) c.env) m G Q :=
 ⟨fun ok s S=>wpAny_Or2 (h.go ok S fun v s1 m1 G1 S1 h1=>h1.go ok S1 fun t s2 m2 G2 S2 h2=>by
  induction t using Bool.casesOn
  ·exact (show V B c R (eval y c.env) m2 G2 Q from h2).run ok s2 S2
  ·exact ⟨_,_,S2,(show Q v m2 G2 from h2)⟩)⟩
theorem NW {x:Expr} {op:UnaryOp} {pos:Pos} {Q:Value→aA→Gh→Prop} (h:V B c R (eval x c.env) m G fun v m G=>V B c R (unaryOp op v) m G Q):V B c R (eval (.UnaryOp op x pos) c.env) m G Q :=
 ⟨fun ok s S=>wpAny_UnaryOp (h.go ok S fun v s1 m1 G1 S1 h1=>h1.run ok s1 S1)⟩
theorem v_not {v:Value} {Q:Value→aA→Gh→Prop} (h:V B c R (truthy v) m G fun b m G=>Q (.bool (!b)) m G):V B c R (unaryOp .Not v) m G Q :=
 ⟨fun ok s S=>not_value (h.go ok S fun b s1 m1 G1 S1 h1=>⟨_,_,S1,h1⟩)⟩
theorem DL {l r:Expr} {op:CmpOp} {pos:Pos} {whole:Sem Value} {Q:Bool→aA→Gh→Prop} (h:V B c R (eval l c.env) m G fun a m G=>V B c R (eval r c.env) m G fun b m G=>V B c R (compareOp op a b) m G fun v m G=>V B c R (truthy v) m G Q)
  (hm:behindInMarks op r=false:=by with_unfolding_all rfl):V B c R (isTrue (.Compare l [op] [r] pos) c.env whole) m G Q :=
 ⟨fun ok s S=>wpAny_isTrue_Compare1 (h.go ok S fun a s1 m1 G1 S1 h1=>h1.go ok S1 fun b s2 m2 G2 S2 h2=>h2.go ok S2 fun v s3 m3 G3 S3 h3=>h3.run ok s3 S3) hm⟩
theorem ag3 {x:Expr} {pos:Pos} {whole:Sem Value} {Q:Bool→aA→Gh→Prop} (h:V B c R (isTrue x c.env (eval x c.env)) m G fun b m G=>Q (!b) m G):V B c R (isTrue (.UnaryOp .Not x pos) c.env whole) m G Q :=
 ⟨fun ok s S=>isTrue_not (h.go ok S fun b s1 m1 G1 S1 h1=>⟨_,_,S1,h1⟩)⟩
theorem ag1 {x:Expr} {rest:List Expr} {pos:Pos} {whole:Sem Value} {Q:Bool→aA→Gh→Prop} (h:V B c R (isTrue x c.env (eval x c.env)) m G fun b m G=>iT b (V B c R (isTrue (.BoolOp .And rest pos) c.env whole) m G Q) (Q false m G)):V B c R (isTrue (.BoolOp .And (x::rest) pos) c.env whole) m G Q :=
 ⟨fun ok s S=>isTrue_and (h.go ok S fun b s1 m1 G1 S1 h1=>by
  induction b using Bool.casesOn
  ·exact ⟨_,_,S1,(show Q false m1 G1 from h1)⟩
  ·exact (show V B c R (isTrue (.BoolOp .And rest pos) c.env whole) m1 G1 Q from h1).run ok s1 S1)⟩
theorem ag2 {pos:Pos} {whole:Sem Value} {Q:Bool→aA→Gh→Prop} (h:Q true m G):V B c R (isTrue (.BoolOp .And [] pos) c.env whole) m G Q:=⟨fun ok s S=>isTrue_and_nil ⟨_,_,S,h⟩⟩
theorem ag4 {x:Expr} {rest:List Expr} {pos:Pos} {whole:Sem Value} {Q:Bool→aA→Gh→Prop} (h:V B c R (isTrue x c.env (eval x c.env)) m G fun b m G=>iT b (Q true m G) (V B c R (isTrue (.BoolOp .Or rest pos) c.env whole) m G Q)):V B c R (isTrue (.BoolOp .Or (x::rest) pos) c.env whole) m G Q :=
 ⟨fun ok s S=>isTrue_or (h.go ok S fun b s1 m1 G1 S1 h1=>by
  induction b using Bool.casesOn
  ·exact (show V B c R (isTrue (.BoolOp .Or rest pos) c.env whole) m1 G1 Q from h1).run ok s1 S1
  ·exact ⟨_,_,S1,(show Q true m1 G1 from h1)⟩)⟩
theorem ag5 {pos:Pos} {whole:Sem Value} {Q:Bool→aA→Gh→Prop} (h:Q false m G):V B c R (isTrue (.BoolOp .Or [] pos) c.env whole) m G Q:=⟨fun ok s S=>isTrue_or_nil ⟨_,_,S,h⟩⟩
theorem ag6 {e:Expr} {whole:Sem Value} {Q:Bool→aA→Gh→Prop} (h:V B c R whole m G fun v m G=>V B c R (truthy v) m G Q)
  (he:isTrue e c.env whole=(do let v←whole; standAt e.pos; holding [v] (truthy v)):=by with_unfolding_all rfl):V B c R (isTrue e c.env whole) m G Q :=
 ⟨fun ok s S=>isTrue_plain (h.go ok S fun v s1 m1 G1 S1 h1=>h1.run ok s1 S1) he⟩
theorem ai7 {b:Bool} {Q:Bool→aA→Gh→Prop} (h:Q b m G):V B c R (truthy (.bool b)) m G Q:=⟨fun ok s S=>LW ⟨_,_,S,h⟩⟩
theorem ai8 {a:Addr} {t:Tag} {xs:List Value} {Q:Bool→aA→Gh→Prop} (hG:G a=some ⟨t,.list xs⟩) (h:Q (!xs.isEmpty) m G):V B c R (truthy (.ref a)) m G Q :=
 ⟨fun ok s S=>af9 S hG fun s' S'=>⟨_,_,S',h⟩⟩
theorem ahG {v:Value} {Q:Value→aA→Gh→Prop} (h:Q (.bool (nA v)) m G):V B c R (compareOp .Is v .none) m G Q:=⟨fun ok s S=>LN ⟨_,_,S,h⟩⟩
theorem ahV {v:Value} {Q:Value→aA→Gh→Prop} (h:Q (.bool (!nA v)) m G):V B c R (compareOp .IsNot v .none) m G Q:=⟨fun ok s S=>aeX ⟨_,_,S,h⟩⟩
theorem ah3 {a b:Int} {t u:Tok} {Q:Value→aA→Gh→Prop} (h:Q (.bool (a==b)) m G):V B c R (compareOp .Eq (.int a t) (.int b u)) m G Q:=⟨fun ok s S=>PyProof.Rows.eq_int ⟨_,_,S,h⟩⟩
theorem ahQ {a b:Int} {t u:Tok} {Q:Value→aA→Gh→Prop} (h:Q (.bool (a != b)) m G):V B c R (compareOp .NotEq (.int a t) (.int b u)) m G Q:=⟨fun ok s S=>PyProof.Rows.ne_int ⟨_,_,S,h⟩⟩
theorem ahN {a b:Int} {t u:Tok} {Q:Value→aA→Gh→Prop} (h:Q (.bool (decide (a<b))) m G):V B c R (compareOp .Lt (.int a t) (.int b u)) m G Q:=⟨fun ok s S=>lt_int ⟨_,_,S,h⟩⟩
theorem ahJ {a b:Int} {t u:Tok} {Q:Value→aA→Gh→Prop} (h:Q (.bool (decide (a≤b))) m G):V B c R (compareOp .LtE (.int a t) (.int b u)) m G Q:=⟨fun ok s S=>le_int ⟨_,_,S,h⟩⟩
theorem ahC {a b:Int} {t u:Tok} {Q:Value→aA→Gh→Prop} (h:Q (.bool (decide (b<a))) m G):V B c R (compareOp .Gt (.int a t) (.int b u)) m G Q:=⟨fun ok s S=>gt_int ⟨_,_,S,h⟩⟩
theorem ah6 {a b:Str} {t u:Tok} {Q:Value→aA→Gh→Prop} (h:Q (.bool (a==b)) m G):V B c R (compareOp .Eq (.str a t) (.str b u)) m G Q:=⟨fun ok s S=>P7 ⟨_,_,S,h⟩⟩
theorem ahR {a b:Str} {t u:Tok} {Q:Value→aA→Gh→Prop} (h:Q (.bool (a != b)) m G):V B c R (compareOp .NotEq (.str a t) (.str b u)) m G Q:=⟨fun ok s S=>PyProof.Rows.ne_str ⟨_,_,S,h⟩⟩
theorem v_add {a b:Int} {t u:Tok} {Q:Value→aA→Gh→Prop} (h:∀ t,Q (.int (a+b) t) m G):V B c R (binaryOp .Add (.int a t) (.int b u)) m G Q:=⟨fun ok s S=>adJ S fun t s' S'=>⟨_,_,S',h t⟩⟩
theorem ai6 {a b:Int} {t u:Tok} {Q:Value→aA→Gh→Prop} (h:∀ t,Q (.int (a - b) t) m G):V B c R (binaryOp .Sub (.int a t) (.int b u)) m G Q:=⟨fun ok s S=>af8 S fun t s' S'=>⟨_,_,S',h t⟩⟩
theorem v_mod {a b:Int} {t u:Tok} {Q:Value→aA→Gh→Prop} (hb:b≠0) (h:∀ t,Q (.int (a.fmod b) t) m G):V B c R (binaryOp .Mod (.int a t) (.int b u)) m G Q:=⟨fun ok s S=>aeO S hb fun t s' S'=>⟨_,_,S',h t⟩⟩
theorem ahD {a b:Int} {t u:Tok} {Q:Value→aA→Gh→Prop} (h:∀ t,Q (.int (a+b) t) m G):V B c R (inplaceOp .Add (.int a t) (.int b u)) m G Q:=⟨fun ok s S=>ae6 S fun t s' S'=>⟨_,_,S',h t⟩⟩
theorem fO {x y:Str} {t u:Tok} {Q:Value→aA→Gh→Prop} (hz:x.length+y.length≤10000000) (h:∀ t,Q (.str (x++y) t) m G):V B c R (binaryOp .Add (.str x t) (.str y u)) m G Q:=⟨fun ok s S=>adL S hz fun t s' S'=>⟨_,_,S',h t⟩⟩
theorem pA {a b:Addr} {t t2:Tag} {xs ys:List Value} {Q:Value→aA→Gh→Prop} (tg:Tag) (hG:G a=some ⟨t,.list xs⟩) (hb:G b=some ⟨t2,.list ys⟩) (hz:xs.length+ys.length≤1000000)
  (h:∀ l,G l=none→Q (.ref l) m (upd G l ⟨tg,.list (xs++ys)⟩)):V B c R (binaryOp .Add (.ref a) (.ref b)) m G Q:=⟨fun ok s S=>adK S tg hG hb hz fun l s' hl S'=>⟨_,_,S',h l hl⟩⟩
theorem NB {a b:Addr} {t u:Tag} {xs:List Value} {d n:Nat} {Q:Value→aA→Gh→Prop} (hG:G a=some ⟨t,.list xs⟩) (hb:G b=some ⟨u,.list []⟩) (hu:bD c d n) (hn:f9 64 n=true) (h:Q (.bool xs.isEmpty) m G):V B c R (compareOp .Eq (.ref a) (.ref b)) m G Q :=
 ⟨fun ok s S=>adW S hG hb (by have:=hu.2; have:=fT hn; omega) ⟨_,_,S,h⟩⟩
theorem uW {d:Addr} {t:Tag} {es:List (Int×Value)} {k:Int} {u:Tok} {Q:Value→aA→Gh→Prop} (hG:G d=some ⟨t,.cR es⟩) (h:Q (.bool (!(valueAt es k).isSome)) m G):V B c R (compareOp .NotIn (.int k u) (.ref d)) m G Q:=⟨fun ok s S=>aeV S hG fun s' S'=>⟨_,_,S',h⟩⟩
theorem y9 {d:Addr} {t:Tag} {es:List (Str×Value)} {k:Str} {u:Tok} {Q:Value→aA→Gh→Prop} (hG:G d=some ⟨t,.aZ es⟩) (h:Q (.bool (valueAt es k).isSome) m G):V B c R (compareOp .In (.str k u) (.ref d)) m G Q:=⟨fun ok s S=>ae3 S hG fun s' S'=>⟨_,_,S',h⟩⟩
theorem DV {a:Addr} {t:Tag} {xs:List Value} {ns:List Int} {k:Int} {u:Tok} {Q:Value→aA→Gh→Prop} (hG:G a=some ⟨t,.list xs⟩) (hi:aX xs ns) (h:Q (.bool (ns.contains k)) m G):V B c R (compareOp .In (.int k u) (.ref a)) m G Q:=⟨fun ok s S=>ae4 S hG hi ⟨_,_,S,h⟩⟩
theorem pC {a:Addr} {t:Tag} {xs:List Value} {ns:List Int} {k:Int} {u:Tok} {Q:Value→aA→Gh→Prop} (hG:G a=some ⟨t,.list xs⟩) (hi:aX xs ns) (h:Q (.bool (!ns.contains k)) m G):V B c R (compareOp .NotIn (.int k u) (.ref a)) m G Q:=⟨fun ok s S=>aeW S hG hi ⟨_,_,S,h⟩⟩
theorem cX {value slice:Expr} {a:Addr} {t:Tag} {xs:List Value} {k:Int} {u:Tok} {x:Value} {Q:Value→aA→Gh→Prop} (hG:G a=some ⟨t,.list xs⟩) (h0:0≤k) (hx:xs[k.toNat]?=some x) (h:Q x m G)
  (hs:subscripted slice false (.ref a) (.int k u)=operate [.ref a,.int k u] (getItem (.ref a) (.int k u)):=by with_unfolding_all rfl):V B c R (subscriptTail value slice (.ref a) (.int k u)) m G Q:=⟨fun ok s S=>aeC S hG h0 hx ⟨_,_,S,h⟩ hs⟩
theorem eB {value slice:Expr} {a:Addr} {t:Tag} {xs:List Value} {k:Int} {u:Tok} {x:Value} {Q:Value→aA→Gh→Prop} (hG:G a=some ⟨t,.tup xs⟩) (h0:0≤k) (hx:xs[k.toNat]?=some x) (h:Q x m G)
  (hs:subscripted slice false (.ref a) (.int k u)=operate [.ref a,.int k u] (getItem (.ref a) (.int k u)):=by with_unfolding_all rfl):V B c R (subscriptTail value slice (.ref a) (.int k u)) m G Q:=⟨fun ok s S=>aeD S hG h0 hx ⟨_,_,S,h⟩ hs⟩
theorem iO {value slice:Expr} {a:Addr} {t:Tag} {es:List (Str×Value)} {k:Str} {u:Tok} {v:Value} {Q:Value→aA→Gh→Prop} (hG:G a=some ⟨t,.aZ es⟩) (hv:valueAt es k=some v) (h:Q v m G)
  (hs:subscripted slice false (.ref a) (.str k u)=operate [.ref a,.str k u] (getItem (.ref a) (.str k u)):=by with_unfolding_all rfl):V B c R (subscriptTail value slice (.ref a) (.str k u)) m G Q:=⟨fun ok s S=>aeB S hG hv (fun s' S'=>⟨_,_,S',h⟩) hs⟩
theorem agL {e:Expr} {rest:List Expr} {pos:Pos} {Q:List Value→aA→Gh→Prop} (h:V B c R (eval e c.env) m G fun v m G=>V B c R (spliced (backTo pos (starEach rest c.env))) m G fun vs m G=>Q (v::vs) m G)
  (he:starEach (e::rest) c.env=(false,eval e c.env)::starEach rest c.env:=by with_unfolding_all rfl):V B c R (spliced (backTo pos (starEach (e::rest) c.env))) m G Q :=
 ⟨fun ok s S=>ajO (h.go ok S fun v s1 m1 G1 S1 h1=>h1.go ok S1 fun vs s2 m2 G2 S2 h2=>⟨_,_,S2,h2⟩) he⟩
theorem agM {pos:Pos} {Q:List Value→aA→Gh→Prop} (h:Q [] m G):V B c R (spliced (backTo pos (starEach [] c.env))) m G Q:=⟨fun ok s S=>ajP ⟨_,_,S,h⟩⟩
theorem agV {x:Str} {f:Value} {e:Expr} {rest:List Expr} {q pos:Pos} {gl:List (Str×Value)} {Q:Value→aA→Gh→Prop} (hg:c.gl=gl) (hx:gl.lookup x=some f) (hk:keepIn B.K f=true)
  (h:V B c R (spliced (backTo pos (starEach (e::rest) c.env))) m G fun vs m G=>V B c R (call f vs) m G Q)
  (he:starEach (e::rest) c.env=(false,eval e c.env)::starEach rest c.env:=by with_unfolding_all rfl) (hplain:(backTo pos (starEach rest c.env)).any (·.1)=false:=by with_unfolding_all rfl):V B c R (eval (.Call (.Name x q) (e::rest) [] pos) c.env) m G Q :=
 ⟨fun ok s S=>ajR ok S hg (lookup_mem hx) hk (h.go ok S fun vs s1 m1 G1 S1 h1=>⟨S1.dN ok,h1.run ok s1 S1⟩) he hplain⟩
theorem agT {x:Str} {id:String} {e:Expr} {rest:List Expr} {q pos:Pos} {gl:List (Str×Value)} {Q:Value→aA→Gh→Prop} (hg:c.gl=gl) (hx:gl.lookup x=some (.builtin id))
  (h:V B c R (spliced (backTo pos (starEach (e::rest) c.env))) m G fun vs m G=>V B c R (call (.builtin id) vs) m G Q)
  (he:starEach (e::rest) c.env=(false,eval e c.env)::starEach rest c.env:=by with_unfolding_all rfl) (hplain:(backTo pos (starEach rest c.env)).any (·.1)=false:=by with_unfolding_all rfl):V B c R (eval (.Call (.Name x q) (e::rest) [] pos) c.env) m G Q :=
 ⟨fun ok s S=>ajQ ok S hg (lookup_mem hx) (h.go ok S fun vs s1 m1 G1 S1 h1=>h1.run ok s1 S1) he hplain⟩
theorem agW {x:Str} {T:String} {e:Expr} {rest:List Expr} {q pos:Pos} {gl:List (Str×Value)} {Q:Value→aA→Gh→Prop} (hg:c.gl=gl) (hx:gl.lookup x=some (.type T))
  (h:V B c R (spliced (backTo pos (starEach (e::rest) c.env))) m G fun vs m G=>V B c R (call (.type T) vs) m G Q)
  (he:starEach (e::rest) c.env=(false,eval e c.env)::starEach rest c.env:=by with_unfolding_all rfl) (hplain:(backTo pos (starEach rest c.env)).any (·.1)=false:=by with_unfolding_all rfl):V B c R (eval (.Call (.Name x q) (e::rest) [] pos) c.env) m G Q :=
 ⟨fun ok s S=>EM ok S hg (lookup_mem hx) (h.go ok S fun vs s1 m1 G1 S1 h1=>h1.run ok s1 S1) he hplain⟩
theorem uU {f:Value} {vs:List Value} {dn un d u:Nat} {Q':Value→Gh→Prop} {Q:Value→aA→Gh→Prop} {R':Addr→Gh→Prop} (hb:bD c d u) (C:bH B f vs G dn un Q' R') (hR:∀ a G',R' a G'→R a m G') (h:∀ r G',Q' r G'→Q r m G')
  (hd:f9 dn d=true:=by with_unfolding_all rfl) (hu:f9 un u=true:=by with_unfolding_all rfl):V B c R (call f vs) m G Q:=⟨fun ok s S=>by
 have h1:=fT hd
 have h2:=fT hu
 obtain ⟨b1,b2⟩:=hb
 exact adO ok S C (by omega) (by omega) (fun r s' G' S' q=>⟨_,_,S',h r G' q⟩) fun e s' q=>yJ q fun a m' G' own mf he S' hx ht hm=>⟨a,m,G',own,mf,he,hm.1▸S',hx,ht,hR a G' hm.2⟩⟩
theorem v_cut {f:Value} {vs:List Value} {dn un d u:Nat} {Q':Value→Gh→Prop} {Q:Value→aA→Gh→Prop} (hb:bD c d u) (C:Call B f vs G dn un Q') (h:∀ r G',Q' r G'→Q r m G')
  (hd:f9 dn d=true:=by with_unfolding_all rfl) (hu:f9 un u=true:=by with_unfolding_all rfl):V B c R (call f vs) m G Q:=uU hb C (fun zz zz h=>h.elim) h hd hu
theorem aQ {f:Value} {vs:List Value} {dn un d u:Nat} {Q:Value→aA→Gh→Prop} (hb:bD c d u) (C:Call B f vs G dn un fun r G'=>Q r m G')
  (hd:f9 dn d=true:=by with_unfolding_all rfl) (hu:f9 un u=true:=by with_unfolding_all rfl):V B c R (call f vs) m G Q:=v_cut hb C (fun zz zz h=>h) hd hu
theorem uV {f:Value} {vs:List Value} {dn un d u:Nat} {Q:Value→aA→Gh→Prop} {R':Addr→Gh→Prop} (hb:bD c d u) (hR:∀ a G',R' a G'→R a m G') (C:bH B f vs G dn un (fun r G'=>Q r m G') R')
  (hd:f9 dn d=true:=by with_unfolding_all rfl) (hu:f9 un u=true:=by with_unfolding_all rfl):V B c R (call f vs) m G Q:=uU hb C hR (fun zz zz h=>h) hd hu
theorem kL {Q:Value→Gh→Prop} {r r':Value} {G:Gh} (h:Q r' G) (e:r=r'):Q r G:=e▸h
theorem NJ {o:Expr} {name:Str} {apos pos:Pos} {args:List Expr} {kws:List Keyword} {pl:Sem Bool} {Q:Value→aA→Gh→Prop}
  (h:V B c R (eval o c.env) m G fun ov m G=>V B c R (getMethod ov name pl) m G fun fx m G=>V B c R (callWith pos fx.1 fx.2 (backTo pos (starEach args c.env)) (backToKw pos (keywordEach kws c.env))) m G Q)
  (he:eval (.Call (.Attribute o name apos) args kws pos) c.env=(do
   let ov←eval o c.env
   standAt apos.atName
   let (f,first)←holding [ov] (getMethod ov name pl)
   callWith pos f first (backTo pos (starEach args c.env)) (backToKw pos (keywordEach kws c.env))):=by with_unfolding_all rfl):V B c R (eval (.Call (.Attribute o name apos) args kws pos) c.env) m G Q :=
 ⟨fun ok s S=>methodCall_KW (h.go ok S fun a s1 m1 G1 S1 h1=>h1.go ok S1 fun b s2 m2 G2 S2 h2=>h2.run ok s2 S2) he⟩
theorem iP {a:Addr} {t:Tag} {xs:List Value} {pl:Sem Bool} {Q:Value×List Value→aA→Gh→Prop} (hG:G a=some ⟨t,.list xs⟩) (h:Q (.builtin "list.append",[.ref a]) m G):V B c R (getMethod (.ref a) "append" pl) m G Q:=⟨fun ok s S=>aeH S hG ⟨_,_,S,h⟩⟩
theorem DX {a:Addr} {t:Tag} {xs:List Value} {pl:Sem Bool} {Q:Value×List Value→aA→Gh→Prop} (hG:G a=some ⟨t,.list xs⟩) (h:Q (.builtin "list.extend",[.ref a]) m G):V B c R (getMethod (.ref a) "extend" pl) m G Q:=⟨fun ok s S=>aeI S hG ⟨_,_,S,h⟩⟩
theorem NI {a:Addr} {t:Tag} {xs:List Value} {pl:Sem Bool} {Q:Value×List Value→aA→Gh→Prop} (hG:G a=some ⟨t,.list xs⟩) (h:Q (.builtin "list.pop",[.ref a]) m G):V B c R (getMethod (.ref a) "pop" pl) m G Q:=⟨fun ok s S=>aeK S hG ⟨_,_,S,h⟩⟩
theorem NH {a:Addr} {t:Tag} {xs:List Value} {pl:Sem Bool} {Q:Value×List Value→aA→Gh→Prop} (hG:G a=some ⟨t,.list xs⟩) (h:Q (.builtin "list.index",[.ref a]) m G):V B c R (getMethod (.ref a) "index" pl) m G Q:=⟨fun ok s S=>aeJ S hG ⟨_,_,S,h⟩⟩
theorem DY {d:Addr} {t:Tag} {es:List (Str×Value)} {pl:Sem Bool} {Q:Value×List Value→aA→Gh→Prop} (hG:G d=some ⟨t,.aZ es⟩) (h:Q (.builtin "dict.get",[.ref d]) m G):V B c R (getMethod (.ref d) "get" pl) m G Q:=⟨fun ok s S=>aeM S hG ⟨_,_,S,h⟩⟩
theorem bS {a C f:Addr} {t:Tag} {fs:List (Str×Value)} {n:Str} {flds:List Str} {pl:Sem Bool} {Q:Value×List Value→aA→Gh→Prop} (CA:ClsAt B.K C flds) (MA:MethAt B.K C n f) (hG:G a=some ⟨t,.inst C fs⟩) (hn:(fs.all fun q=>!(q.1==n))=true) (h:Q (.ref f,[.ref a]) m G) :
  V B c R (getMethod (.ref a) n pl) m G Q:=⟨fun ok s S=>aeN ok S CA MA hG hn ⟨_,_,S,h⟩⟩
theorem aiJ {f self:Value} {pos:Pos} {e:Expr} {rest:List Expr} {kw:List (Option Str×Sem Value)} {Q:Value→aA→Gh→Prop} (hk:keepIn B.K f=true) (hkw:kw=[])
  (h:V B c R (spliced (backTo pos (starEach (e::rest) c.env))) m G fun vs m G=>V B c R (call f (self::vs)) m G Q)
  (he:starEach (e::rest) c.env=(false,eval e c.env)::starEach rest c.env:=by with_unfolding_all rfl) (hplain:(backTo pos (starEach rest c.env)).any (·.1)=false:=by with_unfolding_all rfl):V B c R (callWith pos f [self] (backTo pos (starEach (e::rest) c.env)) kw) m G Q :=
 ⟨fun ok s S=>by subst hkw; exact QL ok hk (h.go ok S fun vs s1 m1 G1 S1 h1=>⟨S1.dN ok,h1.run ok s1 S1⟩) he hplain⟩
theorem nP {f self:Value} {pos:Pos} {kw:List (Option Str×Sem Value)} {Q:Value→aA→Gh→Prop} (hk:keepIn B.K f=true) (hkw:kw=[]) (h:V B c R (call f [self]) m G Q):V B c R (callWith pos f [self] (backTo pos (starEach [] c.env)) kw) m G Q :=
 ⟨fun ok s S=>by subst hkw; exact QM ok S hk (h.run ok s S)⟩
theorem NX {pos:Pos} {id:String} {self:Value} {e:Expr} {rest:List Expr} {kw:List (Option Str×Sem Value)} {Q:Value→aA→Gh→Prop} (hkw:kw=[]) (h:V B c R (spliced (backTo pos (starEach (e::rest) c.env))) m G fun vs m G=>V B c R (call (.builtin id) (self::vs)) m G Q)
  (he:starEach (e::rest) c.env=(false,eval e c.env)::starEach rest c.env:=by with_unfolding_all rfl) (hplain:(backTo pos (starEach rest c.env)).any (·.1)=false:=by with_unfolding_all rfl):V B c R (callWith pos (.builtin id) [self] (backTo pos (starEach (e::rest) c.env)) kw) m G Q :=
 ⟨fun ok s S=>by subst hkw; exact QN (h.go ok S fun vs s1 m1 G1 S1 h1=>h1.run ok s1 S1) he hplain⟩
theorem iD {a:Addr} {t:Tag} {xs:List Value} {x:Value} {Q:Value→aA→Gh→Prop} (hG:G a=some ⟨t,.list xs⟩) (hz:xs.length<1000000) (h:Q .none m (upd G a ⟨t,.list (xs++[x])⟩)):V B c R (call (.builtin "list.append") [.ref a,x]) m G Q:=⟨fun ok s S=>LF S hG hz fun s' S'=>⟨_,_,S',h⟩⟩
theorem DT {a b:Addr} {t t2:Tag} {xs ys:List Value} {Q:Value→aA→Gh→Prop} (hG:G a=some ⟨t,.list xs⟩) (hb:G b=some ⟨t2,.list ys⟩) (hz:xs.length+ys.length≤1000000) (h:Q .none m (upd G a ⟨t,.list (xs++ys)⟩)):V B c R (call (.builtin "list.extend") [.ref a,.ref b]) m G Q:=⟨fun ok s S=>adY S hG hb hz fun s' S'=>⟨_,_,S',h⟩⟩
theorem NP {a:Addr} {t:Tag} {xs:List Value} {x:Value} {pos:Pos} {kw:List (Option Str×Sem Value)} {Q:Value→aA→Gh→Prop} (hkw:kw=[]) (hG:G a=some ⟨t,.list (xs++[x])⟩) (h:Q x m (upd G a ⟨t,.list xs⟩)):V B c R (callWith pos (.builtin "list.pop") [.ref a] (backTo pos (starEach [] c.env)) kw) m G Q :=
 ⟨fun ok s S=>by subst hkw; exact aeY S hG fun s' S'=>⟨_,_,S',h⟩⟩
theorem jU {a:Addr} {t:Tag} {xs:List Value} {Q:Value→aA→Gh→Prop} (hG:G a=some ⟨t,.list xs⟩) (h:∀ u,Q (.int xs.length u) m G):V B c R (call (.builtin "len") [.ref a]) m G Q:=⟨fun ok s S=>aeF S hG fun u s' S'=>⟨_,_,S',h u⟩⟩
theorem ND {a:Addr} {t:Tag} {xs:List Value} {ns:List Int} {k:Int} {u:Tok} {Q:Value→aA→Gh→Prop} (hG:G a=some ⟨t,.list xs⟩) (hi:aX xs ns) (hk:k∈ns) (h:∀ u,Q (.int (ns.idxOf k:Nat) u) m G):V B c R (call (.builtin "list.index") [.ref a,.int k u]) m G Q:=⟨fun ok s S=>ae5 S hG hi hk fun u s' S'=>⟨_,_,S',h u⟩⟩
theorem N9 {a:Addr} {t:Tag} {xs:List Value} {Q:Value→aA→Gh→Prop} (tg:Tag) (hG:G a=some ⟨t,.list xs⟩) (h:∀ l,G l=none→Q (.ref l) m (upd G l ⟨tg,.list xs⟩)):V B c R (call (.type "list") [.ref a]) m G Q:=⟨fun ok s S=>adR S tg hG fun l s' hl S'=>⟨_,_,S',h l hl⟩⟩
theorem DU {d:Addr} {t:Tag} {es:List (Str×Value)} {k:Str} {u:Tok} {Q:Value→aA→Gh→Prop} (hG:G d=some ⟨t,.aZ es⟩) (h:Q ((valueAt es k).getD .none) m G):V B c R (call (.builtin "dict.get") [.ref d,.str k u]) m G Q:=⟨fun ok s S=>ae1 S hG fun s' S'=>⟨_,_,S',h⟩⟩
theorem gD {a C:Addr} {t:Tag} {fs:List (Str×Value)} {D:Value} {b:Bool} {Q:Value→aA→Gh→Prop} (I:zK B.K C) (hG:G a=some ⟨t,.inst C fs⟩) (e:kitOne B.K (.ref C) D=some b) (h:Q (.bool b) m G):V B c R (call (.builtin "isinstance") [.ref a,D]) m G Q:=⟨fun ok s S=>ae7 ok S I hG e fun s' S'=>⟨_,_,S',h⟩⟩
theorem DW {n:Int} {u:Tok} {D:Value} {b:Bool} {Q:Value→aA→Gh→Prop} (e:kitOne B.K (.type "int") D=some b) (h:Q (.bool b) m G):V B c R (call (.builtin "isinstance") [.int n u,D]) m G Q:=⟨fun ok s S=>ae8 ok S e fun s' S'=>⟨_,_,S',h⟩⟩
noncomputable def eE (next:aA→Gh→Prop) (Q:Flow→aA→Gh→Prop):Flow→aA→Gh→Prop
 | .next,m,G=>next m G
 | f,m,G=>Q f m G
theorem iM {next:aA→Gh→Prop} {Q:Flow→aA→Gh→Prop} (h:next m G):eE next Q .next m G:=h
theorem I0 {next:aA→Gh→Prop} {Q:Flow→aA→Gh→Prop} {v:Value} (h:Q (.ret v) m G):eE next Q (.ret v) m G:=h
theorem UO {next:aA→Gh→Prop} {Q:Flow→aA→Gh→Prop} (h:Q .brk m G):eE next Q .brk m G:=h
theorem UP {next:aA→Gh→Prop} {Q:Flow→aA→Gh→Prop} (h:Q .cont m G):eE next Q .cont m G:=h
theorem agZ {st:Stmt} {rest:List Stmt} {Q:Flow→aA→Gh→Prop} (h:V B c R (exec st c.env) m G (eE (fun m G=>V B c R (execs rest c.env) m G Q) Q)):V B c R (execs (st::rest) c.env) m G Q :=
 ⟨fun ok s S=>ON (h.go ok S fun f s1 m1 G1 S1 h1=>by
  induction f using Flow.casesOn with
  | next=>exact (show V B c R (execs rest c.env) m1 G1 Q from h1).run ok s1 S1
  | cont=>exact ⟨_,_,S1,h1⟩
  | brk=>exact ⟨_,_,S1,h1⟩
  | ret v=>exact ⟨_,_,S1,h1⟩)⟩
set_option tactic.hygienic true in
theorem ahT {Q:Flow→aA→Gh→Prop} (h:Q .next m G):V B c R (execs [] c.env) m G Q:=⟨fun ok s S=>wpAny_execs_nil ⟨_,_,S,h⟩⟩
theorem N4 {x:Str} {pos' pos:Pos} {value:Expr} {Q:Flow→aA→Gh→Prop} (h:V B c R (eval value c.env) m G fun v m G=>V B c R (storeName c.env x v) m G fun zz=>Q .next)
  (hs:swapsWith value (some (.Name x pos')) pos.line c.env=pure false:=by with_unfolding_all rfl):V B c R (exec (.Assign [.Name x pos'] value pos) c.env) m G Q :=
 ⟨fun ok s S=>wpAny_Assign_Name (h.go ok S fun a s1 m1 G1 S1 h1=>h1.go ok S1 fun b s2 m2 G2 S2 h2=>⟨_,_,S2,h2⟩) hs⟩
theorem N5 {o value:Expr} {attr:Str} {pos' pos:Pos} {Q:Flow→aA→Gh→Prop} (h:V B c R (eval value c.env) m G fun v m G=>V B c R (eval o c.env) m G fun ov m G=>V B c R (setAttr ov attr v) m G fun zz=>Q .next)
  (hs:swapsWith value (some (.Attribute o attr pos')) pos.line c.env=pure false:=by with_unfolding_all rfl):V B c R (exec (.Assign [.Attribute o attr pos'] value pos) c.env) m G Q :=
 ⟨fun ok s S=>plainObj_wpAny_Assign_Attribute (h.go ok S fun a s1 m1 G1 S1 h1=>h1.go ok S1 fun b s2 m2 G2 S2 h2=>h2.go ok S2 fun zz s3 m3 G3 S3 h3=>⟨_,_,S3,h3⟩) hs⟩
theorem agN {o i value:Expr} {pos' pos:Pos} {Q:Flow→aA→Gh→Prop} (h:V B c R (eval value c.env) m G fun v m G=>V B c R (eval o c.env) m G fun ov m G=>V B c R (eval i c.env) m G fun iv m G=>V B c R (setItem ov iv v) m G fun zz=>Q .next)
  (hs:swapsWith value (some (.Subscript o i pos')) pos.line c.env=pure false:=by with_unfolding_all rfl):V B c R (exec (.Assign [.Subscript o i pos'] value pos) c.env) m G Q :=
 ⟨fun ok s S=>wpAny_Assign_Subscript (h.go ok S fun a s1 m1 G1 S1 h1=>h1.go ok S1 fun b s2 m2 G2 S2 h2=>h2.go ok S2 fun zz s3 m3 G3 S3 h3=>h3.go ok S3 fun zz s4 m4 G4 S4 h4=>⟨_,_,S4,h4⟩) hs⟩
theorem agP {o value:Expr} {attr:Str} {tpos pos:Pos} {op:Operator} {Q:Flow→aA→Gh→Prop} (h:V B c R (eval o c.env) m G fun ov m G=>V B c R (getAttr ov attr true) m G fun old m G=>V B c R (eval value c.env) m G fun v m G=>V B c R (inplaceOp op old v) m G fun new m G=>V B c R (setAttr ov attr new) m G fun zz=>Q .next) :
  V B c R (exec (.AugAssign (.Attribute o attr tpos) op value pos) c.env) m G Q :=
 ⟨fun ok s S=>wpAny_AugAssign_AttributeAny (h.go ok S fun a s1 m1 G1 S1 h1=>h1.go ok S1 fun b s2 m2 G2 S2 h2=>h2.go ok S2 fun zz s3 m3 G3 S3 h3=>h3.go ok S3 fun zz s4 m4 G4 S4 h4=>h4.go ok S4 fun zz s5 m5 G5 S5 h5=>⟨_,_,S5,h5⟩)⟩
theorem ahE {test:Expr} {body orelse:List Stmt} {pos:Pos} {Q:Flow→aA→Gh→Prop} (h:V B c R (isTrue test c.env (eval test c.env)) m G fun b m G=>iT b (V B c R (execs body c.env) m G Q) (V B c R (execs orelse c.env) m G Q)):V B c R (exec (.If test body orelse pos) c.env) m G Q :=
 ⟨fun ok s S=>wpAny_If (h.go ok S fun b s1 m1 G1 S1 h1=>by
  induction b using Bool.casesOn
  ·exact (show V B c R (execs orelse c.env) m1 G1 Q from h1).run ok s1 S1
  ·exact (show V B c R (execs body c.env) m1 G1 Q from h1).run ok s1 S1)⟩
theorem ai0 {e:Expr} {pos:Pos} {Q:Flow→aA→Gh→Prop} (h:V B c R (eval e c.env) m G fun v=>Q (.ret v)):V B c R (exec (.Return (some e) pos) c.env) m G Q :=
 ⟨fun ok s S=>wpAny_Return_some (h.go ok S fun v s1 m1 G1 S1 h1=>⟨_,_,S1,h1⟩)⟩
theorem ai1 {pos:Pos} {Q:Flow→aA→Gh→Prop} (h:Q (.ret .none) m G):V B c R (exec (.Return none pos) c.env) m G Q:=⟨fun ok s S=>wpAny_Return_none ⟨_,_,S,h⟩⟩
theorem ah8 {e:Expr} {pos:Pos} {Q:Flow→aA→Gh→Prop} (h:V B c R (eval e c.env) m G fun zz=>Q .next) (hs:swapsWith e none pos.line c.env=pure false:=by with_unfolding_all rfl):V B c R (exec (.Expr e pos) c.env) m G Q :=
 ⟨fun ok s S=>ajS ok (h.go ok S fun v s1 m1 G1 S1 h1=>⟨_,_,S1,h1⟩) hs⟩
theorem iQ {x:Str} {v:Value} {Q:Unit→aA→Gh→Prop} (oo:bB c) (hx:(m.lookup x).isSome=true) (h:Q () (kK m x v) G):V B c R (storeName c.env x v) m G Q :=
 ⟨fun ok s S=>LV ok oo S (xP hx) fun s' S'=>⟨_,_,S',h⟩⟩
theorem jT {x:Str} {pos:Pos} {v:Value} {Q:Unit→aA→Gh→Prop} (h:V B c R (storeName c.env x v) m G Q):V B c R (assign (.Name x pos) c.env v) m G Q:=⟨fun ok s S=>wpAny_assign_Name (h.run ok s S)⟩
theorem agR {x:Str} {v:Value} {Q:Unit→aA→Gh→Prop} (h:V B c R (storeName c.env x v) m G Q):V B c R (bindName c.env x v) m G Q:=⟨fun ok s S=>wpAny_bindName (h.run ok s S)⟩
theorem fF {a C:Addr} {t:Tag} {fs:List (Str×Value)} {n:Str} {v:Value} {flds:List Str} {Q:Unit→aA→Gh→Prop} (CA:ClsAt B.K C flds) (hG:G a=some ⟨t,.inst C fs⟩) (hf:(fs.lookup n).isSome=true) (hn:flds.contains n=true) (hv:handedIn v=true)
  (h:Q () m (upd G a ⟨t,.inst C (jQ fs n v)⟩)):V B c R (setAttr (.ref a) n v) m G Q:=⟨fun ok s S=>af2 ok S CA hG hf hn hv fun s' S'=>⟨_,_,S',h⟩⟩
theorem qK {a C:Addr} {t:Tag} {fs:List (Str×Value)} {n:Str} {v:Value} {flds:List Str} {Q:Unit→aA→Gh→Prop} (CA:ClsAt B.K C flds) (hG:G a=some ⟨t,.inst C fs⟩) (hf:(fs.all fun q=>!(q.1==n))=true) (hl:qV fs.length 100=true) (hn:flds.contains n=true) (hv:handedIn v=true)
  (h:Q () m (upd G a ⟨t,.inst C (fs++[(n,v)])⟩)):V B c R (setAttr (.ref a) n v) m G Q:=⟨fun ok s S=>af4 ok S CA hG hf (by have:=hl; simp [qV] at this; exact (d7 this)) (by simpa using hn) hv fun s' S'=>⟨_,_,S',h⟩⟩
theorem NR {d:Addr} {t:Tag} {es:List (Int×Value)} {k:Int} {u:Tok} {v:Value} {Q:Unit→aA→Gh→Prop} (hG:G d=some ⟨t,.cR es⟩) (hz:es.length<1000000) (h:Q () m (upd G d ⟨t,.cR (stored es k v)⟩)):V B c R (setItem (.ref d) (.int k u) v) m G Q:=⟨fun ok s S=>ae2 S hG hz fun s' S'=>⟨_,_,S',h⟩⟩
theorem nO {d:Addr} {t:Tag} {es:List (Str×Value)} {k:Str} {u:Tok} {v:Value} {Q:Unit→aA→Gh→Prop} (hG:G d=some ⟨t,.aZ es⟩) (hz:es.length<1000000) (h:Q () m (upd G d ⟨t,.aZ (stored es k v)⟩)):V B c R (setItem (.ref d) (.str k u) v) m G Q:=⟨fun ok s S=>adV S hG hz fun s' S'=>⟨_,_,S',h⟩⟩
theorem NS {a:Addr} {t:Tag} {xs:List Value} {k:Int} {u:Tok} {v:Value} {Q:Unit→aA→Gh→Prop} (hG:G a=some ⟨t,.list xs⟩) (h0:0≤k) (hk:k<xs.length) (h:Q () m (upd G a ⟨t,.list (xs.set k.toNat v)⟩)):V B c R (setItem (.ref a) (.int k u) v) m G Q:=⟨fun ok s S=>af3 S hG h0 hk fun s' S'=>⟨_,_,S',h⟩⟩
theorem aiA {elts:List Expr} {k:Nat} {tpos pos:Pos} {value:Expr} {osc:Scope} {Q:Flow→aA→Gh→Prop} (hsc:c.env.scope=osc) (h:V B c R (eval value c.env) m G fun v m G=>V B c R (assign (.Tuple elts k tpos) c.env v) m G fun zz=>Q .next)
  (hs:swapsWithSole [.Tuple elts k tpos] value pos.line (i9 osc)=pure false) (hw:swappedStores [.Tuple elts k tpos] value (i9 osc)=pure none):V B c R (exec (.Assign [.Tuple elts k tpos] value pos) c.env) m G Q :=
 ⟨fun ok s S=>ajV hsc (h.go ok S fun v s1 m1 G1 S1 h1=>h1.go ok S1 fun zz s2 m2 G2 S2 h2=>⟨_,_,S2,h2⟩) hs hw⟩
theorem aiB {elts:List Expr} {k:Nat} {tpos pos:Pos} {value:Expr} {names:List Str} {osc:Scope} {Q:Flow→aA→Gh→Prop} (hsc:c.env.scope=osc) (h:V B c R (eval value c.env) m G fun v m G=>V B c R (unpackItems v names.length none) m G fun items m G=>V B c R (assignInOrder (names.reverse.map fun n=>bindName c.env n) items.reverse) m G fun zz=>Q .next)
  (hs:swapsWithSole [.Tuple elts k tpos] value pos.line (i9 osc)=pure false) (hw:swappedStores [.Tuple elts k tpos] value (i9 osc)=pure (some names)):V B c R (exec (.Assign [.Tuple elts k tpos] value pos) c.env) m G Q :=
 ⟨fun ok s S=>ajW hsc (h.go ok S fun v s1 m1 G1 S1 h1=>h1.go ok S1 fun vs s2 m2 G2 S2 h2=>h2.go ok S2 fun zz s3 m3 G3 S3 h3=>⟨_,_,S3,h3⟩) hs hw⟩
theorem aiE {t:Addr} {tg:Tag} {xs:List Value} {n:Nat} {Q:List Value→aA→Gh→Prop} (hG:G t=some ⟨tg,.tup xs⟩) (hn:n=xs.length) (h:Q xs m G):V B c R (unpackItems (.ref t) n none) m G Q :=
 ⟨fun ok s S=>afC ok.hh S hG hn fun s' S'=>⟨_,_,S',h⟩⟩
theorem aiD {elts:List Expr} {k:Nat} {pos:Pos} {t:Addr} {tg:Tag} {xs:List Value} {Q:Unit→aA→Gh→Prop} (hG:G t=some ⟨tg,.tup xs⟩) (hn:(assignEach elts c.env).length=xs.length) (hstar:(assignEach elts c.env).findIdx? (·.1)=none)
  (h:V B c R (assignInOrder ((assignEach elts c.env).map (·.2)) xs) m G Q):V B c R (assign (.Tuple elts k pos) c.env (.ref t)) m G Q :=
 ⟨fun ok s S=>afB ok.hh S hG hn hstar fun s' S'=>h.run ok s' S'⟩
theorem NN {f:Value→Sem Unit} {fs:List (Value→Sem Unit)} {v:Value} {vs:List Value} {Q:Unit→aA→Gh→Prop} (h:V B c R (f v) m G fun zz m G=>V B c R (assignInOrder fs vs) m G Q):V B c R (assignInOrder (f::fs) (v::vs)) m G Q :=
 ⟨fun ok s S=>ajT (h.go ok S fun zz s1 m1 G1 S1 h1=>h1.run ok s1 S1)⟩
theorem NO {Q:Unit→aA→Gh→Prop} (h:Q () m G):V B c R (assignInOrder [] []) m G Q:=⟨fun ok s S=>ajU ⟨_,_,S,h⟩⟩
noncomputable def lP (J:aA→Gh→Prop) (Q:Flow→aA→Gh→Prop):Flow→aA→Gh→Prop
 | .next,m,G=>J m G
 | .cont,m,G=>J m G
 | .brk,m,G=>Q .next m G
 | .ret v,m,G=>Q (.ret v) m G
theorem lP.to {J:aA→Gh→Prop} {Q:Flow→aA→Gh→Prop} {f:Flow} {s:Shared} (S:B.St c s m G) (h:lP J Q f m G):qZ B.prog B.w c J (fun f s'=>∃ m' G',B.St c s' m' G'∧Q f m' G') f s:=by
 induction f using Flow.casesOn with
 | next=>exact ⟨_,_,S,h⟩
 | cont=>exact ⟨_,_,S,h⟩
 | brk=>exact ⟨_,_,S,h⟩
 | ret v=>exact ⟨_,_,S,h⟩
theorem sN {test:Expr} {body:List Stmt} {pos:Pos} {Q:Flow→aA→Gh→Prop} (J:Nat→aA→Gh→Prop) (n:Nat) (h0:J n m G)
  (turn:∀ (J':Nat→aA→Gh→Prop),(∀ k n m G,k<n→J k m G→J' n m G)→∀ n m G',J n m G'→V B c bJ (isTrue test c.env (eval test c.env)) m G' (fun b m G=>iT b (V B c bJ (execs body c.env) m G (lP (J' n) Q)) (Q .next m G))) :
  V B c R (exec (.While test body [] pos) c.env) m G Q :=
 ⟨fun ok s S=>afE J n S h0 fun J' hJ n s' m' G' hj S'=>(turn J' hJ n m' G' hj).goN ok S' fun b s1 m1 G1 S1 h1=>by
  induction b using Bool.casesOn
  ·exact ⟨_,_,S1,h1⟩
  ·exact (show V B c bJ (execs body c.env) m1 G1 (lP (J' n) Q) from h1).goN ok S1 fun f s2 m2 G2 S2 h2=>h2.to S2⟩
structure pL (B:Bn) (c:Cx) (R:Addr→aA→Gh→Prop) (target:Expr) (body:List Stmt) (Q:Flow→aA→Gh→Prop) (xv:Value) (m:aA) (G:Gh):Prop where
 run:B.Ok c→∀ s,B.St c s m G→ForIn B.prog B.w c.A c.env target body (fun f s'=>∃ m' G',B.St c s' m' G'∧Q f m' G') (Exc B.prog B.w c R) xv s
theorem ah9 {target iter:Expr} {body:List Stmt} {pos:Pos} {Q:Flow→aA→Gh→Prop} (h:V B c R (eval iter c.env) m G fun xv m G=>pL B c R target body Q xv m G) (hs:∀ x,foldedSetIterable iter c.env x=pure x:=by intro _; with_unfolding_all rfl):V B c R (exec (.For target iter body [] pos) c.env) m G Q :=
 ⟨fun ok s S=>OO (h.go ok S fun xv s1 m1 G1 S1 h1=>h1.run ok s1 S1) hs⟩
theorem nM {target:Expr} {body:List Stmt} {Q:Flow→aA→Gh→Prop} {l:Addr} {t:Tag} {xs:List Value} (J:Nat→aA→Gh→Prop) (hG:G l=some ⟨t,.list xs⟩)
  (h0:∀ I,G I=none→J 0 m (upd G I ⟨(9,0),.lit l 0⟩))
  (turn:∀ (J':aA→Gh→Prop) I k v m G',(∀ m G,J (k+1) m G→G I=some ⟨(9,0),.lit l (k+1)⟩→G l=some ⟨t,.list xs⟩→J' m G)→G I=none→xs[k]?=some v→J k m G'→G' I=some ⟨(9,0),.lit l k⟩→G' l=some ⟨t,.list xs⟩ →
   V B c bJ (assign target c.env v) m (upd G' I ⟨(9,0),.lit l (k+1)⟩) (fun zz m G=>V B c bJ (execs body c.env) m G (lP J' Q)))
  (done:∀ I m G',G I=none→J xs.length m G'→G' I=some ⟨(9,0),.lit l xs.length⟩→G' l=some ⟨t,.list xs⟩→Q .next m (era G' I))
  (ht:∀ i v,letOwnedTupleGo target i v=pure ():=by intro _ _; with_unfolding_all rfl):pL B c R target body Q (.ref l) m G :=
 ⟨fun ok s S=>adZ J ok S hG h0 (fun J' I k v s' m' G' hJ hI hv hj hI' hl' S'=>(turn J' I k v m' G' hJ hI hv hj hI' hl').goN ok S' fun zz s1 m1 G1 S1 h1=>h1.goN ok S1 fun f s2 m2 G2 S2 h2=>h2.to S2)
  (fun I s' m' G' hI hj hI' hl' S'=>⟨_,_,S',done I m' G' hI hj hI' hl'⟩) ht⟩
theorem NQ {l:Addr} {t:Tag} {xs:List Value} {Q:Value→aA→Gh→Prop} (hG:G l=some ⟨t,.list xs⟩) (h:∀ I,G I=none→Q (.ref I) m (upd G I ⟨(9,0),.eT l ((xs.length:Int) - 1)⟩)):V B c R (call (.type "reversed") [.ref l]) m G Q :=
 ⟨fun ok s S=>af0 S hG fun I s' hI S'=>⟨_,_,S',h I hI⟩⟩
theorem NC {target:Expr} {body:List Stmt} {Q:Flow→aA→Gh→Prop} {l I:Addr} {t:Tag} {xs:List Value} (J:Nat→aA→Gh→Prop) (hI:G I=some ⟨(9,0),.eT l ((xs.length:Int) - 1)⟩) (hG:G l=some ⟨t,.list xs⟩) (h0:J 0 m G)
  (turn:∀ (J':aA→Gh→Prop) k v m G',(∀ m G,J (k+1) m G→G I=some ⟨(9,0),.eT l ((xs.length:Int) - 1 - ((k+1:Nat):Int))⟩→G l=some ⟨t,.list xs⟩→J' m G)→xs.reverse[k]?=some v→J k m G'→G' I=some ⟨(9,0),.eT l ((xs.length:Int) - 1 - (k:Int))⟩→G' l=some ⟨t,.list xs⟩ →
   V B c bJ (assign target c.env v) m (upd G' I ⟨(9,0),.eT l ((xs.length:Int) - 1 - ((k+1:Nat):Int))⟩) (fun zz m G=>V B c bJ (execs body c.env) m G (lP J' Q)))
  (done:∀ m G',J xs.length m G'→G' l=some ⟨t,.list xs⟩→Q .next m (era G' I))
  (ht:∀ i v,letOwnedTupleGo target i v=pure ():=by intro _ _; with_unfolding_all rfl):pL B c R target body Q (.ref I) m G :=
 ⟨fun ok s S=>ae0 J ok S hI hG h0 (fun J' k v s' m' G' hJ hv hj hI' hl' S'=>(turn J' k v m' G' hJ hv hj hI' hl').goN ok S' fun zz s1 m1 G1 S1 h1=>h1.goN ok S1 fun f s2 m2 G2 S2 h2=>h2.to S2)
  (fun s' m' G' hj hl' S'=>⟨_,_,S',done m' G' hj hl'⟩) ht⟩
theorem MZ {Q:Bool→aA→Gh→Prop} (h:Q true m G):V B c R (qG [] c.env) m G Q:=⟨fun ok s S=>ag9 ⟨_,_,S,h⟩⟩
theorem agG {t:Expr} {Q:Bool→aA→Gh→Prop} (h:V B c R (isTrue t c.env (eval t c.env)) m G Q):V B c R (qG [t] c.env) m G Q:=⟨fun ok s S=>agA (h.run ok s S)⟩
noncomputable abbrev bA (Q:Value→Gh→Prop):Flow→aA→Gh→Prop:=fun fl zz G'=>Q (lE fl) G'
theorem aiR {R:Addr→Gh→Prop} {f:Addr} {params:Arguments} {body:List Stmt} {scope:Scope} {dV:Value} {gl:List (Str×Value)} {vs:List Value} {binds:List (Str×Value)} {dn un:Nat} {Q:Value→Gh→Prop} (F:FnAt B.K f params body scope dV gl)
  (hbind:∀ (s':Shared) (name qual:Str) (kV doc pm:Value) (an:Option Addr) (cdv ct:Value),B.K.In s'.heap→BindsTo s' (fnOf name qual params body scope dV kV doc pm an cdv ct) ⟨vs,[]⟩ binds) (hb:zT scope binds=true) (hm:AD scope binds=m) (hdn:f9 1 dn=true) (hun:f9 3 un=true)
  (h:∀ c,bB c→c.env.scope=scope→c.gl=gl→bD c (dn - 1) (un - 3)→V B c (bN R) (execs body c.env) m G (bA Q)):bH B (.ref f) vs G dn un Q R :=
 enterX F hbind hb hm (fT hdn) (fT hun) fun c s ok oo S hsc aJ hd hu=>(h c oo hsc aJ ⟨hd,hu⟩).go ok S fun fl s' m' G' S' q=>⟨m',G',S',q⟩
theorem bH.hide {R:Addr→Gh→Prop} {f:Value} {vs:List Value} {dn un:Nat} {Q:Value→Gh→Prop} (h:∀ Q':Value→Gh→Prop,(∀ r G',Q r G'→Q' r G')→bH B f vs G dn un Q' R):bH B f vs G dn un Q R:=h Q fun zz zz h=>h
theorem bH.mono {R:Addr→Gh→Prop} {f:Value} {vs:List Value} {dn un dn' un':Nat} {Q Q':Value→Gh→Prop} {R':Addr→Gh→Prop} (C:bH B f vs G dn un Q R) (hd:dn≤dn') (hu:un≤un') (h:∀ r G',Q r G'→Q' r G') (hR:∀ r G',R r G'→R' r G'):bH B f vs G dn' un' Q' R':=oA.mono C hd hu h hR
end
noncomputable abbrev AP:List (Str×Value):=[(("ValueError":Str),Value.type "ValueError")]
noncomputable abbrev AR:List (Str×Value):=[(("GemError":Str),Value.ref 39)]
noncomputable abbrev AU:List (Str×Value):=[]
noncomputable abbrev AS:List (Str×Value):=[(("Thing":Str),Value.ref 80)]
noncomputable abbrev AO:List (Str×Value):=[(("Thing":Str),Value.ref 80)]
noncomputable abbrev pY:List (Str×Value):=[(("Thing":Str),Value.ref 80)]
noncomputable abbrev AQ:List (Str×Value):=[]
noncomputable abbrev C1:List (Str×Value):=[(("isinstance":Str),Value.builtin "isinstance"),(("bool":Str),Value.type "bool"),(("int":Str),Value.type "int"),(("str":Str),Value.type "str")]
noncomputable abbrev BZ:List (Str×Value):=[(("sort_of":Str),Value.ref 277)]
noncomputable abbrev BC:List (Str×Value):=[(("isinstance":Str),Value.builtin "isinstance"),(("ModuleThing":Str),Value.ref 268)]
noncomputable abbrev BD:List (Str×Value):=[(("same":Str),Value.ref 284)]
noncomputable abbrev BV:List (Str×Value):=[]
noncomputable abbrev BU:List (Str×Value):=[]
noncomputable abbrev rK:List (Str×Value):=[(("numbered":Str),Value.ref 408),(("own_line":Str),Value.ref 403),(("same":Str),Value.ref 284)]
noncomputable abbrev u0:List (Str×Value):=[(("reversed":Str),Value.type "reversed"),(("made_line":Str),Value.ref 413)]
noncomputable abbrev BY:List (Str×Value):=[]
noncomputable abbrev BS:List (Str×Value):=[(("kind_word":Str),Value.ref 462),(("full_name":Str),Value.ref 330),(("isinstance":Str),Value.builtin "isinstance"),(("ModuleThing":Str),Value.ref 268),(("show":Str),Value.ref 391)]
noncomputable abbrev BW:List (Str×Value):=[(("isinstance":Str),Value.builtin "isinstance"),(("bool":Str),Value.type "bool"),(("Thing":Str),Value.ref 80),(("class_above":Str),Value.ref 448),(("reversed":Str),Value.type "reversed"),(("make_own":Str),Value.ref 455)]
noncomputable abbrev BB:List (Str×Value):=[(("isinstance":Str),Value.builtin "isinstance"),(("ModuleThing":Str),Value.ref 268)]
noncomputable abbrev u9:List (Str×Value):=[(("class_above":Str),Value.ref 448),(("isinstance":Str),Value.builtin "isinstance"),(("ModuleThing":Str),Value.ref 268),(("raise_version":Str),Value.ref 427)]
noncomputable abbrev BR:List (Str×Value):=[(("isinstance":Str),Value.builtin "isinstance"),(("ModuleThing":Str),Value.ref 268),(("full_name":Str),Value.ref 330),(("need_unfrozen":Str),Value.ref 434),(("has_thing":Str),Value.ref 398),(("own_line":Str),Value.ref 403)]
noncomputable abbrev BE:List (Str×Value):=[(("need_mixin":Str),Value.ref 469),(("has_thing":Str),Value.ref 398),(("own_line":Str),Value.ref 403),(("raise_version":Str),Value.ref 427)]
noncomputable abbrev BX:List (Str×Value):=[(("need_mixin":Str),Value.ref 469),(("own_line":Str),Value.ref 403),(("numbered":Str),Value.ref 408),(("raise_version":Str),Value.ref 427)]
noncomputable abbrev tZ:List (Str×Value):=[(("Thing":Str),Value.ref 80),(("list":Str),Value.type "list")]
noncomputable abbrev B7:List (Str×Value):=[]
noncomputable abbrev AW:List (Str×Value):=[]
noncomputable abbrev oM:List (Str×Value):=[(("MODULES":Str),Value.ref 482),(("ModuleThing":Str),Value.ref 268),(("BUILTINS":Str),Value.ref 483),(("MIXED":Str),Value.ref 486)]
noncomputable abbrev B5:List (Str×Value):=[(("own_module":Str),Value.ref 441)]
noncomputable abbrev pZ:List (Str×Value):=[(("same":Str),Value.ref 284),(("ModuleThing":Str),Value.ref 268)]
noncomputable abbrev AX:List (Str×Value):=[(("isinstance":Str),Value.builtin "isinstance"),(("bool":Str),Value.type "bool"),(("int":Str),Value.type "int"),(("str":Str),Value.type "str")]
noncomputable abbrev WW:List (Str×Value):=[]
noncomputable abbrev BA:List (Str×Value):=[(("Text":Str),Value.ref 102)]
noncomputable abbrev AZ:List (Str×Value):=[(("ErrorThing":Str),Value.ref 221)]
noncomputable abbrev B0:List (Str×Value):=[(("Raised":Str),Value.ref 59)]
noncomputable abbrev B6:List (Str×Value):=[(("isinstance":Str),Value.builtin "isinstance"),(("Thing":Str),Value.ref 80),(("full_name":Str),Value.ref 330),(("show":Str),Value.ref 391)]
noncomputable abbrev B8:List (Str×Value):=[(("BUILTINS":Str),Value.ref 483)]
noncomputable abbrev w7:List (Str×Value):=[(("same":Str),Value.ref 284),(("len":Str),Value.builtin "len"),(("line_of":Str),Value.ref 420)]
noncomputable abbrev B3:List (Str×Value):=[(("line_of":Str),Value.ref 420),(("same":Str),Value.ref 284)]
noncomputable abbrev AY:List (Str×Value):=[(("isinstance":Str),Value.builtin "isinstance"),(("ModuleThing":Str),Value.ref 268),(("show":Str),Value.ref 391),(("same":Str),Value.ref 284),(("full_name":Str),Value.ref 330)]
noncomputable abbrev B9:List (Str×Value):=[(("isinstance":Str),Value.builtin "isinstance"),(("ModuleThing":Str),Value.ref 268),(("show":Str),Value.ref 391),(("is_around":Str),Value.ref 781),(("same":Str),Value.ref 284)]
noncomputable abbrev BF:List (Str×Value):=[(("same":Str),Value.ref 284)]
noncomputable abbrev BN:List (Str×Value):=[(("len":Str),Value.builtin "len")]
noncomputable abbrev wA:List (Str×Value):=[(("_law_line":Str),Value.ref 793)]
noncomputable abbrev BP:List (Str×Value):=[(("list":Str),Value.type "list")]
noncomputable abbrev BL:List (Str×Value):=[]
noncomputable abbrev rJ:List (Str×Value):=[(("_law_row":Str),Value.ref 807)]
noncomputable abbrev BI:List (Str×Value):=[]
noncomputable abbrev wB:List (Str×Value):=[(("_law_line":Str),Value.ref 793),(("_law_held":Str),Value.ref 821)]
noncomputable abbrev BH:List (Str×Value):=[(("_law_line":Str),Value.ref 793),(("_law_held":Str),Value.ref 821)]
noncomputable abbrev BO:List (Str×Value):=[]
noncomputable abbrev BG:List (Str×Value):=[(("same":Str),Value.ref 284),(("_law_value":Str),Value.ref 840)]
noncomputable abbrev q7:List (Str×Value):=[(("_law_take":Str),Value.ref 788),(("_law_alike":Str),Value.ref 847),(("range":Str),Value.type "range"),(("len":Str),Value.builtin "len"),(("_law_row":Str),Value.ref 807)]
noncomputable abbrev BJ:List (Str×Value):=[(("range":Str),Value.type "range"),(("len":Str),Value.builtin "len"),(("_law_take":Str),Value.ref 788),(("_law_line":Str),Value.ref 793),(("include":Str),Value.ref 476),(("prepend":Str),Value.ref 481),(("Raised":Str),Value.ref 59),(("_law_within":Str),Value.ref 800)]
noncomputable abbrev BK:List (Str×Value):=[(("_law_take":Str),Value.ref 788),(("_law_alike":Str),Value.ref 847),(("_law_seen":Str),Value.ref 826),(("len":Str),Value.builtin "len"),(("_law_asked":Str),Value.ref 833),(("Raised":Str),Value.ref 59),(("same":Str),Value.ref 284),(("_law_value":Str),Value.ref 840)]
noncomputable abbrev eN:List (Str×Value):=[(("list":Str),Value.type "list"),(("World":Str),Value.ref 770),(("_law_begun":Str),Value.ref 814),(("_law_row":Str),Value.ref 807),(("range":Str),Value.type "range"),(("len":Str),Value.builtin "len"),(("_law_take":Str),Value.ref 788),(("_law_opened":Str),Value.ref 852),(("_law_mixed_right":Str),Value.ref 857),(("_law_read_right":Str),Value.ref 862),(("full_name":Str),Value.ref 330),(("own_module":Str),Value.ref 441)]
noncomputable abbrev UM:List Str:=["natives","prelude","read","most","taken","last_number","last_ident","symbol_idents","made","version","const_version","globals","out","here","is_ready","main"]
noncomputable abbrev w5:List Str:=["number","owner","fields","own","frozen","ident"]
noncomputable abbrev UL:List Str:=["number","owner","fields","own","frozen","ident","name","is_class","parent","outer","methods","constants","mixed","ahead","attached","native","kept"]
noncomputable abbrev UN:List Str:=["number","owner","fields","own","frozen","ident","text"]
noncomputable abbrev UK:List Str:=["number","owner","fields","own","frozen","ident","message","cause"]
noncomputable abbrev rP:List Nat:=[36,56,77,99,218,258,265,277,284,330,398,403,408,413,420,427,434,441,448,455,469,476,481,509,530,551,556,563,571,578,606,613,697,704,711,732,739,753,760,767,781,788,793,800,807,814,821,826,833,840,847,852,857,862,867,770,268,80,102,221,59]
structure zF (K:Frag) (C:Addr) (n:Str) (f:Addr):Prop where
 sp:specialIn K (.ref C) "__getattribute__"=some (some (.builtin "type.__getattribute__"))
 rd:readsIn K C (.type "type")=true
 fc:findCls K (.ref C) (.type "type") n=some (.val (.ref f))
structure pK (w:World) (K:Frag) (a:Addr):Prop where
 ex:∃ es n,K.lookup a=some ⟨.type "dict",none,.dict es n,#[]⟩∧KeysLit w.params es.toList
noncomputable abbrev pU:List Value:=[.ref 39,.type "ValueError",.type "Exception",.type "BaseException",.type "object"]
noncomputable abbrev rE:Obj:=excClassObj "Raised" "Raised" 59 58 [.ref 39] pU true [] [] false none none (some (.ref 43)) none (some (.str "Raised" 224)) (some (.str "Raised" 232)) (some (.bool true)) "ValueError.__new__"
theorem HS:(Value.ref 59::pU).contains (.type "ValueError")=true:=by kernel_rfl!
theorem U8:(Value.ref 59::pU).contains (.type "BaseException")=true:=by kernel_rfl!
theorem U9:pU.contains (.type "BaseException")=true:=by kernel_rfl!
structure ExcAt (K:Frag):Prop where
 ex:K.lookup 59=some rE
 call:specialIn K (.ref 59) "__call__"=some (some (.builtin "type.__call__"))
 typ:instIn K (.ref 59) (.type "type")=some true
 self:mroIn K 59 (.ref 59)=some true
 ak9:mroIn K 59 (.type "ValueError")=some true
 init:findIn K (.ref 59) "__init__"=some (some (.ref 56))
 hf:typeIn K (.ref 56)=some (.type "function")
noncomputable def rF:List Value→Bool
 | .ref _::r=>rF r
 | l=>l==[.type "ValueError",.type "Exception",.type "BaseException",.type "object"]
structure oB (K:Frag) (C:Addr) (flds:List Str):Prop where
 kJ:findIn K (.ref C) "__setattr__"=some (some (.builtin "object.__setattr__"))
 hd:hasDictIn K C=true
 po:((clsIn K C).any fun cd=>rF cd.mro)=true
 hga:findIn K (.ref C) "__getattribute__"=some (some (.builtin "BaseException.__getattribute__"))
 aaQ:findIn K (.ref C) "__getattr__"=some none
 fld:∀ n∈flds,findIn K (.ref C) n=some none
structure Txt (w:World) (K:Frag):Prop where
 keeps:∀ f∈rP,keepIn K (.ref f)=true
 UR:FnAt K 36 (bU (aL 2 0)) (bodyOf (aL 2 0)) (aU (aL 2 0)) (.ref 29) AP
 UT:FnAt K 56 (bU (aL 3 0)) (bodyOf (aL 3 0)) (aU (aL 3 0)) .none AR
 UW:FnAt K 77 (bU (aL 10 0)) (bodyOf (aL 10 0)) (aU (aL 10 0)) .none AU
 UU:FnAt K 99 (bU (aL 11 0)) (bodyOf (aL 11 0)) (aU (aL 11 0)) (.ref 92) AS
 UQ:FnAt K 218 (bU (aL 16 0)) (bodyOf (aL 16 0)) (aU (aL 16 0)) (.ref 211) AO
 I1:FnAt K 258 (bU (aL 18 0)) (bodyOf (aL 18 0)) (aU (aL 18 0)) (.ref 251) pY
 US:FnAt K 265 (bU (aL 18 1)) (bodyOf (aL 18 1)) (aU (aL 18 1)) .none AQ
 WN:FnAt K 277 (bU (topS 19)) (bodyOf (topS 19)) (aU (topS 19)) .none C1
 WM:FnAt K 284 (bU (topS 20)) (bodyOf (topS 20)) (aU (topS 20)) .none BZ
 VE:FnAt K 330 (bU (topS 27)) (bodyOf (topS 27)) (aU (topS 27)) .none BC
 VF:FnAt K 398 (bU (topS 38)) (bodyOf (topS 38)) (aU (topS 38)) .none BD
 WD:FnAt K 403 (bU (topS 39)) (bodyOf (topS 39)) (aU (topS 39)) .none BV
 WC:FnAt K 408 (bU (topS 40)) (bodyOf (topS 40)) (aU (topS 40)) .none BU
 VY:FnAt K 413 (bU (topS 41)) (bodyOf (topS 41)) (aU (topS 41)) .none rK
 VX:FnAt K 420 (bU (topS 42)) (bodyOf (topS 42)) (aU (topS 42)) .none u0
 WL:FnAt K 427 (bU (topS 43)) (bodyOf (topS 43)) (aU (topS 43)) .none BY
 WB:FnAt K 434 (bU (topS 44)) (bodyOf (topS 44)) (aU (topS 44)) .none BS
 WG:FnAt K 441 (bU (topS 45)) (bodyOf (topS 45)) (aU (topS 45)) .none BW
 VD:FnAt K 448 (bU (topS 46)) (bodyOf (topS 46)) (aU (topS 46)) .none BB
 VZ:FnAt K 455 (bU (topS 47)) (bodyOf (topS 47)) (aU (topS 47)) .none u9
 WA:FnAt K 469 (bU (topS 49)) (bodyOf (topS 49)) (aU (topS 49)) .none BR
 VG:FnAt K 476 (bU (topS 50)) (bodyOf (topS 50)) (aU (topS 50)) .none BE
 WH:FnAt K 481 (bU (topS 51)) (bodyOf (topS 51)) (aU (topS 51)) .none BX
 V5:FnAt K 509 (bU (aL 57 0)) (bodyOf (aL 57 0)) (aU (aL 57 0)) (.ref 502) tZ
 V8:FnAt K 530 (bU (aL 57 3)) (bodyOf (aL 57 3)) (aU (aL 57 3)) .none B7
 UX:FnAt K 551 (bU (aL 57 6)) (bodyOf (aL 57 6)) (aU (aL 57 6)) .none AW
 V6:FnAt K 556 (bU (aL 57 7)) (bodyOf (aL 57 7)) (aU (aL 57 7)) .none oM
 V4:FnAt K 563 (bU (aL 57 8)) (bodyOf (aL 57 8)) (aU (aL 57 8)) .none B5
 AK:FnAt K 571 (bU (aL 57 9)) (bodyOf (aL 57 9)) (aU (aL 57 9)) (.ref 564) pZ
 UY:FnAt K 578 (bU (aL 57 10)) (bodyOf (aL 57 10)) (aU (aL 57 10)) .none AX
 ak8:FnAt K 606 (bU (aL 57 14)) (bodyOf (aL 57 14)) (aU (aL 57 14)) .none WW
 VC:FnAt K 613 (bU (aL 57 15)) (bodyOf (aL 57 15)) (aU (aL 57 15)) .none BA
 V0:FnAt K 697 (bU (aL 57 27)) (bodyOf (aL 57 27)) (aU (aL 57 27)) .none AZ
 V1:FnAt K 704 (bU (aL 57 28)) (bodyOf (aL 57 28)) (aU (aL 57 28)) .none B0
 V7:FnAt K 711 (bU (aL 57 29)) (bodyOf (aL 57 29)) (aU (aL 57 29)) .none B6
 V9:FnAt K 732 (bU (aL 57 32)) (bodyOf (aL 57 32)) (aU (aL 57 32)) .none B8
 V2:FnAt K 739 (bU (aL 57 33)) (bodyOf (aL 57 33)) (aU (aL 57 33)) .none w7
 V3:FnAt K 753 (bU (aL 57 35)) (bodyOf (aL 57 35)) (aU (aL 57 35)) .none B3
 UZ:FnAt K 760 (bU (aL 57 36)) (bodyOf (aL 57 36)) (aU (aL 57 36)) .none AY
 VB:FnAt K 767 (bU (aL 57 37)) (bodyOf (aL 57 37)) (aU (aL 57 37)) .none B9
 VH:FnAt K 781 (bU (topS 58)) (bodyOf (topS 58)) (aU (topS 58)) .none BF
 VU:FnAt K 788 (bU (topS 60)) (bodyOf (topS 60)) (aU (topS 60)) .none BN
 VN:FnAt K 793 (bU (topS 61)) (bodyOf (topS 61)) (aU (topS 61)) .none wA
 VW:FnAt K 800 (bU (topS 62)) (bodyOf (topS 62)) (aU (topS 62)) .none BP
 VS:FnAt K 807 (bU (topS 63)) (bodyOf (topS 63)) (aU (topS 63)) .none BL
 VL:FnAt K 814 (bU (topS 64)) (bodyOf (topS 64)) (aU (topS 64)) .none rJ
 VM:FnAt K 821 (bU (topS 65)) (bodyOf (topS 65)) (aU (topS 65)) .none BI
 VT:FnAt K 826 (bU (topS 66)) (bodyOf (topS 66)) (aU (topS 66)) .none wB
 VK:FnAt K 833 (bU (topS 67)) (bodyOf (topS 67)) (aU (topS 67)) .none BH
 VV:FnAt K 840 (bU (topS 68)) (bodyOf (topS 68)) (aU (topS 68)) .none BO
 VJ:FnAt K 847 (bU (topS 69)) (bodyOf (topS 69)) (aU (topS 69)) .none BG
 VP:FnAt K 852 (bU (topS 70)) (bodyOf (topS 70)) (aU (topS 70)) .none q7
 VO:FnAt K 857 (bU (topS 71)) (bodyOf (topS 71)) (aU (topS 71)) .none BJ
 VR:FnAt K 862 (bU (topS 72)) (bodyOf (topS 72)) (aU (topS 72)) .none BK
 VI:FnAt K 867 (bU (topS 73)) (bodyOf (topS 73)) (aU (topS 73)) .none eN
 b8:ClsAt K 770 UM
 bC:ClsAt K 268 UL
 R3:ClsAt K 80 w5
 GR:ClsAt K 102 UN
 w0:ClsAt K 221 UK
 Z8:K.lookup 29=some {cls:=Value.type "tuple",data:=mO #[Value.str (iK "") 208]}
 ZF:K.lookup 92=some {cls:=Value.type "tuple",data:=mO #[Value.str (iK "") 366]}
 Z7:K.lookup 211=some {cls:=Value.type "tuple",data:=mO #[Value.none]}
 JA:K.lookup 251=some {cls:=Value.type "tuple",data:=mO #[Value.none,Value.bool false,Value.none,Value.none]}
 ZE:K.lookup 502=some {cls:=Value.type "tuple",data:=mO #[Value.none,Value.none,Value.int 20000 1072]}
 CJ:K.lookup 564=some {cls:=Value.type "tuple",data:=mO #[Value.none,Value.none,Value.none]}
 fZ:zK K 268
 tW:ExcAt K
 EO:oB K 59 ["reason","thing"]
 ajX:mroIn K 59 (.type "BaseException")=some true
 qB:MethAt K 770 "number" 530
 g7:MethAt K 770 "builtin" 551
 ZU:MethAt K 770 "make_builtin" 556
 JK:MethAt K 770 "give_own" 563
 CN:MethAt K 770 "new_module" 571
 ZQ:MethAt K 770 "class_of" 578
 akS:MethAt K 770 "real_class" 606
 ZV:MethAt K 770 "text" 613
 ZS:MethAt K 770 "error" 697
 CL:MethAt K 770 "fail" 704
 CM:MethAt K 770 "need_thawed" 711
 uF:MethAt K 770 "own_constant" 732
 ZT:MethAt K 770 "find_constant" 739
 JJ:MethAt K 770 "find_in" 753
 ZR:MethAt K 770 "constant_in" 760
 wR:MethAt K 770 "set_constant" 767
 JL:MethAt K 268 "is_own" 265
 YQ:kitOne K (.type "int") (.type "bool")=some false
 YR:kitOne K (.type "int") (.type "int")=some true
 akH:kitOne K (.type "int") (.type "str")=some false
 YO:kitOne K (.type "int") (.ref 268)=some false
 akG:kitOne K (.type "int") (.ref 80)=some false
 akP:kitOne K (.type "str") (.type "bool")=some false
 akQ:kitOne K (.type "str") (.type "int")=some false
 akR:kitOne K (.type "str") (.type "str")=some true
 akN:kitOne K (.type "str") (.ref 268)=some false
 akO:kitOne K (.type "str") (.ref 80)=some false
 akD:kitOne K (.type "bool") (.type "bool")=some true
 akE:kitOne K (.type "bool") (.type "int")=some true
 akF:kitOne K (.type "bool") (.type "str")=some false
 akB:kitOne K (.type "bool") (.ref 268)=some false
 akC:kitOne K (.type "bool") (.ref 80)=some false
 akK:kitOne K (.type "NoneType") (.type "bool")=some false
 akL:kitOne K (.type "NoneType") (.type "int")=some false
 akM:kitOne K (.type "NoneType") (.type "str")=some false
 akI:kitOne K (.type "NoneType") (.ref 268)=some false
 akJ:kitOne K (.type "NoneType") (.ref 80)=some false
 CB:kitOne K (.ref 268) (.type "bool")=some false
 J1:kitOne K (.ref 268) (.type "int")=some false
 J2:kitOne K (.ref 268) (.type "str")=some false
 lY:kitOne K (.ref 268) (.ref 268)=some true
 J0:kitOne K (.ref 268) (.ref 80)=some true
 aaI:pQ K 770 509
 wY:pQ K 268 258
 aaH:pQ K 80 77
 aaG:pQ K 102 99
 aaF:pQ K 221 218
 zZ:zF K 80 "__init__" 77
 RB:zF K 39 "__init__" 36
 Z9:K.lookup 482=some {cls:=Value.type "tuple",data:=mO #[Value.str "Kernel" 911,Value.str "Comparable" 912,Value.str "Enumerable" 913]}
 ZA:K.lookup 487=some {cls:=Value.type "tuple",data:=mO #[Value.str "Kernel" 1033]}
 ZC:K.lookup 488=some {cls:=Value.type "tuple",data:=mO #[Value.str "Comparable" 1035]}
 ZD:K.lookup 489=some {cls:=Value.type "tuple",data:=mO #[Value.str "Comparable" 1037]}
 A2:pK w K 483
 A3:pK w K 486
 Q0:nsIn K 483 "BasicObject"=some (some .none)
 ZY:nsIn K 486 "BasicObject"=some none
 QB:nsIn K 483 "Object"=some (some (.str "BasicObject" 918))
 aa7:nsIn K 486 "Object"=some (some (.ref 487))
 Q8:nsIn K 483 "Module"=some (some (.str "Object" 921))
 aa4:nsIn K 486 "Module"=some none
 Q3:nsIn K 483 "Class"=some (some (.str "Module" 924))
 ZZ:nsIn K 486 "Class"=some none
 Q7:nsIn K 483 "Kernel"=some (some .none)
 aa3:nsIn K 486 "Kernel"=some none
 Q4:nsIn K 483 "Comparable"=some (some .none)
 aa0:nsIn K 486 "Comparable"=some none
 QA:nsIn K 483 "Numeric"=some (some (.str "Object" 942))
 aa6:nsIn K 486 "Numeric"=some (some (.ref 488))
 GL:nsIn K 483 "Integer"=some (some (.str "Numeric" 945))
 aa2:nsIn K 486 "Integer"=some none
 QD:nsIn K 483 "String"=some (some (.str "Object" 948))
 aa9:nsIn K 486 "String"=some (some (.ref 489))
 Q6:nsIn K 483 "Exception"=some (some (.str "Object" 969))
 aa1:nsIn K 486 "Exception"=some none
 QC:nsIn K 483 "StandardError"=some (some (.str "Exception" 981))
 aa8:nsIn K 486 "StandardError"=some none
 PY:nsIn K 483 "ArgumentError"=some (some (.str "StandardError" 984))
 ZX:nsIn K 486 "ArgumentError"=some none
 Q9:nsIn K 483 "NameError"=some (some (.str "StandardError" 1005))
 aa5:nsIn K 486 "NameError"=some none
 PX:nsIn K 483 "A"=some none
 PZ:nsIn K 483 "B"=some none
 Q2:nsIn K 483 "C"=some none
 Q5:nsIn K 483 "D"=some none
 QE:nsIn K 483 "X"=some none
 QF:nsIn K 483 "Y"=some none
 ajZ:nsIn K 483 "M"=some none
noncomputable def isStar (e:Expr):Bool:=iJ e.ctorIdx 22
noncomputable def uL (e:Expr):Bool:=iJ e.ctorIdx 23||iJ e.ctorIdx 20||iJ e.ctorIdx 21
noncomputable def C5 (e:Expr):Bool:=iJ e.ctorIdx 26
noncomputable def C4 (e:Expr):Bool:=iJ e.ctorIdx 8||iJ e.ctorIdx 9||iJ e.ctorIdx 10
noncomputable def isSet (e:Expr):Bool:=iJ e.ctorIdx 7
noncomputable def nm (gl:List (Str×Value)) (m:aA) (x:Str):Option Value :=
 match m.lookup x with
 | some (some v)=>some v
 | some none=>none
 | none=>gl.lookup x
noncomputable def YL:Value→Bool
 | .ref k=>rP.contains k
 | .builtin _=>true
 | .type _=>true
 | _=>false
noncomputable def rQ:Value→Bool
 | .ref k=>rP.contains k
 | .builtin _=>true
 | _=>false
noncomputable def bq (b:Bool) (P P':Prop):Prop:=match b with
 | true=>P
 | false=>P'
theorem cV {b:Bool} {P P':Prop} (h:b=true→P) (k:b=false→P'):bq b P P':=by
 induction b using Bool.casesOn
 ·exact k rfl
 ·exact h rfl
section
variable (B:Bn) (c:Cx) (R:Addr→aA→Gh→Prop)
structure vX (v s:Expr) (o:Value) (k:Int) (m:aA) (G:Gh) (Q:Value→aA→Gh→Prop):Prop where
 run:∀ t,V B c R (subscriptTail v s o (.int k t)) m G Q
structure zP (v s:Expr) (o:Value) (k:Str) (m:aA) (G:Gh) (Q:Value→aA→Gh→Prop):Prop where
 run:∀ t,V B c R (subscriptTail v s o (.str k t)) m G Q
noncomputable def GJ (op:Operator) (a b:Value) (Q:Value→aA→Gh→Prop) (m:aA) (G:Gh):Prop :=
 match op,a,b with
 | .Add,.int i _,.int j _=>∀ t,Q (.int (i+j) t) m G
 | .Sub,.int i _,.int j _=>∀ t,Q (.int (i - j) t) m G
 | op,a,b=>V B c R (binaryOp op a b) m G Q
noncomputable def IA (op:Operator) (a b:Value) (Q:Value→aA→Gh→Prop) (m:aA) (G:Gh):Prop :=
 match op,a,b with
 | .Add,.int i _,.int j _=>∀ t,Q (.int (i+j) t) m G
 | op,a,b=>V B c R (inplaceOp op a b) m G Q
noncomputable def zX (op:CmpOp) (i j:Int) (Q:Value→aA→Gh→Prop) (m:aA) (G:Gh):Prop :=
 match op with
 | .Eq=>Q (.bool (i==j)) m G
 | .NotEq=>Q (.bool (i != j)) m G
 | .Lt=>Q (.bool (decide (i<j))) m G
 | .LtE=>Q (.bool (decide (i≤j))) m G
 | .Gt=>Q (.bool (decide (j<i))) m G
 | _=>False
noncomputable def zY (op:CmpOp) (i j:Str) (Q:Value→aA→Gh→Prop) (m:aA) (G:Gh):Prop :=
 match op with
 | .Eq=>Q (.bool (i==j)) m G
 | .NotEq=>Q (.bool (i != j)) m G
 | _=>False
noncomputable def GY (op:CmpOp) (a:Value) (Q:Value→aA→Gh→Prop) (m:aA) (G:Gh):Prop :=
 match op with
 | .Is=>Q (.bool (nA a)) m G
 | .IsNot=>Q (.bool (!nA a)) m G
 | _=>False
noncomputable def H0 (op:CmpOp) (a b:Value) (Q:Value→aA→Gh→Prop) (m:aA) (G:Gh):Prop :=
 match b,a with
 | .none,a=>GY op a Q m G
 | .int j _,.int i _=>zX op i j Q m G
 | .str j _,.str i _=>zY op i j Q m G
 | b,a=>V B c R (compareOp op a b) m G Q
noncomputable def GU (op:CmpOp) (a:Value) (j:Int) (Q:Value→aA→Gh→Prop) (m:aA) (G:Gh):Prop :=
 match a with
 | .int i _=>zX op i j Q m G
 | a=>∀ t,V B c R (compareOp op a (.int j t)) m G Q
noncomputable def GW (op:CmpOp) (a:Value) (j:Str) (Q:Value→aA→Gh→Prop) (m:aA) (G:Gh):Prop :=
 match a with
 | .str i _=>zY op i j Q m G
 | a=>∀ t,V B c R (compareOp op a (.str j t)) m G Q
noncomputable def sI (v:Value) (Q:Bool→aA→Gh→Prop) (m:aA) (G:Gh):Prop :=
 match v with
 | .bool b=>Q b m G
 | v=>V B c R (truthy v) m G Q
noncomputable def MM (v s:Expr) (o i:Value) (Q:Value→aA→Gh→Prop) (m:aA) (G:Gh):Prop :=
 match i with
 | .int k _=>vX B c R v s o k m G Q
 | .str k _=>zP B c R v s o k m G Q
 | i=>V B c R (subscriptTail v s o i) m G Q
set_option genInjectivity false in
set_option genSizeOf false in
inductive Tk where
 | E (e:Expr) (Q:Value→aA→Gh→Prop)
 | L (pos:Pos) (es:List Expr) (Q:List Value→aA→Gh→Prop)
 | T (e:Expr) (Q:Bool→aA→Gh→Prop)
 | A (es:List Expr) (Q:Bool→aA→Gh→Prop)
 | O (es:List Expr) (Q:Bool→aA→Gh→Prop)
noncomputable def ID:Expr→Bool
 | .UnaryOp .Not _ _=>false
 | .BoolOp ..=>false
 | .IfExp ..=>false
 | .Compare ..=>false
 | _=>true
noncomputable def CP (o:Expr) (args:List Expr) (apos pos:Pos):Bool:=uL o&&(apos.endLine==pos.line)&&(args.all fun e=>!isStar e)&&qV args.length 29
noncomputable abbrev VQ:=Value→aA→Gh→Prop
noncomputable abbrev BQ:=Bool→aA→Gh→Prop
noncomputable abbrev WK:=Tk→aA→Gh→Prop
noncomputable abbrev XO (attr:Str) (Q:VQ):VQ:=fun o m G=>V B c R (getAttr o attr true) m G Q
noncomputable abbrev XU (op:Operator) (a:Value) (Q:VQ):VQ:=fun b m G=>GJ B c R op a b Q m G
noncomputable abbrev XT (W:WK) (op:Operator) (r:Expr) (Q:VQ):VQ:=fun a m G=>W (.E r (XU B c R op a Q)) m G
noncomputable abbrev IP (op:CmpOp) (j:Int) (Q:VQ):VQ:=fun a m G=>GU B c R op a j Q m G
noncomputable abbrev IQ (op:CmpOp) (j:Str) (Q:VQ):VQ:=fun a m G=>GW B c R op a j Q m G
noncomputable abbrev XX (op:CmpOp) (a:Value) (Q:VQ):VQ:=fun b m G=>H0 B c R op a b Q m G
noncomputable abbrev wL (W:WK) (op:CmpOp) (r:Expr) (Q:VQ):VQ:=fun a m G=>W (.E r (XX B c R op a Q)) m G
noncomputable abbrev XZ (W:WK) (b o:Expr) (Q:VQ):BQ:=fun x m G=>bq x (W (.E b Q) m G) (W (.E o Q) m G)
noncomputable abbrev YJ (Q:VQ):List Value→aA→Gh→Prop:=fun vs m G=>V B c R (newTuple vs) m G Q
noncomputable abbrev Y4 (Q:VQ):List Value→aA→Gh→Prop:=fun vs m G=>V B c R (newList vs) m G Q
noncomputable abbrev YH (v s:Expr) (k:Int) (Q:VQ):VQ:=fun o m G=>vX B c R v s o k m G Q
noncomputable abbrev IW (v s:Expr) (k:Str) (Q:VQ):VQ:=fun o m G=>zP B c R v s o k m G Q
noncomputable abbrev YG (v s:Expr) (o:Value) (Q:VQ):VQ:=fun i m G=>MM B c R v s o i Q m G
noncomputable abbrev IV (W:WK) (v s:Expr) (Q:VQ):VQ:=fun o m G=>W (.E s (YG B c R v s o Q)) m G
noncomputable abbrev XJ (W:WK) (y:Expr) (v:Value) (Q:VQ):BQ:=fun b m G=>bq b (W (.E y Q) m G) (Q v m G)
noncomputable abbrev IL (W:WK) (y:Expr) (Q:VQ):VQ:=fun v m G=>sI B c R v (XJ W y v Q) m G
noncomputable abbrev YA (W:WK) (y:Expr) (v:Value) (Q:VQ):BQ:=fun b m G=>bq b (Q v m G) (W (.E y Q) m G)
noncomputable abbrev Y9 (W:WK) (y:Expr) (Q:VQ):VQ:=fun v m G=>sI B c R v (YA W y v Q) m G
noncomputable abbrev XM (W:WK) (y z:Expr) (v:Value) (Q:VQ):BQ:=fun b m G=>bq b (W (.E y (IL B c R W z Q)) m G) (Q v m G)
noncomputable abbrev XK (W:WK) (y z:Expr) (Q:VQ):VQ:=fun v m G=>sI B c R v (XM B c R W y z v Q) m G
noncomputable abbrev Y8 (Q:VQ):BQ:=fun b m G=>Q (.bool (!b)) m G
noncomputable abbrev Y7 (Q:VQ):VQ:=fun v m G=>sI B c R v (Y8 Q) m G
noncomputable abbrev YK (op:UnaryOp) (Q:VQ):VQ:=fun v m G=>V B c R (unaryOp op v) m G Q
noncomputable abbrev uA (f:Value) (Q:VQ):List Value→aA→Gh→Prop:=fun vs m G=>V B c R (call f vs) m G Q
noncomputable abbrev IS (f s:Value) (Q:VQ):List Value→aA→Gh→Prop:=fun vs m G=>V B c R (call f (s::vs)) m G Q
noncomputable abbrev Y6 (W:WK) (pos:Pos) (args:List Expr) (Q:VQ):Value×List Value→aA→Gh→Prop:=fun fx m G=>(match args with
 | []=>V B c R (callWith pos fx.1 fx.2 (backTo pos (starEach [] c.env)) (backToKw pos (keywordEach [] c.env))) m G Q
 | a::as=>(match fx with
  | (f,[self])=>(match rQ f with
   | true=>W (.L pos (a::as) (IS B c R f self Q)) m G
   | false=>False)
  | (f,[])=>(match rQ f with
   | true=>W (.L pos (a::as) (uA B c R f Q)) m G
   | false=>False)
  | _=>False))
noncomputable abbrev Y5 (W:WK) (o:Expr) (name:Str) (pos:Pos) (args:List Expr) (Q:VQ):VQ:=fun ov m G=>V B c R (getMethod ov name (do return (←importBound o c.env).getD true)) m G (Y6 B c R W pos args Q)
noncomputable abbrev XW (W:WK) (pos:Pos) (a:Expr) (as:List Expr) (Q:VQ):VQ:=fun fv m G=>(match rQ fv with
 | true=>W (.L pos (a::as) (uA B c R fv Q)) m G
 | false=>False)
noncomputable abbrev Y3 (v:Value) (Q:List Value→aA→Gh→Prop):List Value→aA→Gh→Prop:=fun vs m G=>Q (v::vs) m G
noncomputable abbrev Y0 (W:WK) (pos:Pos) (es:List Expr) (Q:List Value→aA→Gh→Prop):VQ:=fun v m G=>W (.L pos es (Y3 v Q)) m G
noncomputable abbrev YI (Q:BQ):BQ:=fun b m G=>Q (!b) m G
noncomputable abbrev rO (Q:BQ):VQ:=fun v m G=>sI B c R v Q m G
noncomputable abbrev kA (W:WK) (es:List Expr) (Q:BQ):BQ:=fun b m G=>bq b (W (.A es Q) m G) (Q false m G)
noncomputable abbrev kO (W:WK) (es:List Expr) (Q:BQ):BQ:=fun b m G=>bq b (Q true m G) (W (.O es Q) m G)
noncomputable def wk (gl:List (Str×Value)):Nat→Tk→aA→Gh→Prop
 | 0,_,_,_=>False
 | n+1,.E e Q,m,G=>(match e with
  | .Name x _=>(match nm gl m x with
   | some v=>Q v m G
   | none=>False)
  | .Constant k _ _=>(match k with
   | .int i=>∀ t,Q (.int i t) m G
   | .str x=>∀ t,Q (.str x t) m G
   | .none=>Q .none m G
   | .bool b=>Q (.bool b) m G
   | _=>False)
  | .Attribute v attr _=>(match uL v with
   | true=>wk gl n (.E v (XO B c R attr Q)) m G
   | false=>False)
  | .BinOp l op r _=>wk gl n (.E l (XT B c R (wk gl n) op r Q)) m G
  | .Compare l ops rs _=>(match ops,rs with
   | [op],[r]=>(match r with
    | .Constant (.int j) _ _=>wk gl n (.E l (IP B c R op j Q)) m G
    | .Constant (.str j) _ _=>wk gl n (.E l (IQ B c R op j Q)) m G
    | r=>(match behindInMarks op r with
     | false=>wk gl n (.E l (wL B c R (wk gl n) op r Q)) m G
     | true=>False))
   | _,_=>False)
  | .IfExp t b o _=>wk gl n (.T t (XZ (wk gl n) b o Q)) m G
  | .Tuple es _ pos=>wk gl n (.L pos es (YJ B c R Q)) m G
  | .List es pos=>wk gl n (.L pos es (Y4 B c R Q)) m G
  | .Subscript v s _=>(match s with
   | .Slice ..=>V B c R (eval e c.env) m G Q
   | .Constant (.int k) _ _=>wk gl n (.E v (YH B c R v s k Q)) m G
   | .Constant (.str k) _ _=>wk gl n (.E v (IW B c R v s k Q)) m G
   | s=>wk gl n (.E v (IV B c R (wk gl n) v s Q)) m G)
  | .BoolOp op es _=>(match op,es with
   | .And,[x,y]=>wk gl n (.E x (IL B c R (wk gl n) y Q)) m G
   | .Or,[x,y]=>wk gl n (.E x (Y9 B c R (wk gl n) y Q)) m G
   | .And,[x,y,z]=>wk gl n (.E x (XK B c R (wk gl n) y z Q)) m G
   | _,_=>False)
  | .UnaryOp op x _=>(match op with
   | .Not=>wk gl n (.E x (Y7 B c R Q)) m G
   | op=>wk gl n (.E x (YK B c R op Q)) m G)
  | .Call f args kws pos=>(match kws with
   | []=>(match f with
    | .Name x _=>(match args with
     | []=>V B c R (eval e c.env) m G Q
     | a::as=>(match gl.lookup x with
      | some f=>(match YL f with
       | true=>wk gl n (.L pos (a::as) (uA B c R f Q)) m G
       | false=>False)
      | none=>False))
    | .Attribute o name apos=>(match CP o args apos pos with
     | true=>wk gl n (.E o (Y5 B c R (wk gl n) o name pos args Q)) m G
     | false=>V B c R (eval e c.env) m G Q)
    | .Subscript v s _=>(match args with
     | []=>False
     | a::as=>wk gl n (.E f (XW B c R (wk gl n) pos a as Q)) m G)
    | _=>V B c R (eval e c.env) m G Q)
   | _=>V B c R (eval e c.env) m G Q)
  | e=>V B c R (eval e c.env) m G Q)
 | n+1,.L pos es Q,m,G=>(match es.all fun e=>!isStar e with
  | true=>(match es with
   | []=>Q [] m G
   | e::es=>wk gl n (.E e (Y0 (wk gl n) pos es Q)) m G)
  | false=>False)
 | n+1,.T e Q,m,G=>(match e with
  | .UnaryOp .Not x _=>wk gl n (.T x (YI Q)) m G
  | .BoolOp op es _=>(match op with
   | .And=>wk gl n (.A es Q) m G
   | .Or=>wk gl n (.O es Q) m G)
  | .Compare l ops rs _=>(match ops,rs with
   | [op],[r]=>(match r with
    | .Constant (.int j) _ _=>wk gl n (.E l (IP B c R op j (rO B c R Q))) m G
    | .Constant (.str j) _ _=>wk gl n (.E l (IQ B c R op j (rO B c R Q))) m G
    | r=>(match behindInMarks op r with
     | false=>wk gl n (.E l (wL B c R (wk gl n) op r (rO B c R Q))) m G
     | true=>False))
   | _,_=>False)
  | .IfExp ..=>False
  | e=>wk gl n (.E e (rO B c R Q)) m G)
 | n+1,.A es Q,m,G=>(match es with
  | []=>Q true m G
  | e::es=>wk gl n (.T e (kA (wk gl n) es Q)) m G)
 | n+1,.O es Q,m,G=>(match es with
  | []=>Q false m G
  | e::es=>wk gl n (.T e (kO (wk gl n) es Q)) m G)
end
section
variable {B:Bn} {c:Cx} {R:Addr→aA→Gh→Prop} {gl:List (Str×Value)}
theorem C9 (X:Txt B.w B.K) {k:Addr} (h:rP.contains k=true):keepIn B.K (.ref k)=true:=X.keeps k (mS.mp h)
theorem oW {p:Prop} {a b:Bool} (h:a=b) (k:(a != b)=true:=by rfl):p:=by subst h; cases a<;>cases k
theorem nG {e:Expr} {es:List Expr} {env:Env} (h:isStar e=false):starEach (e::es) env=(false,eval e env)::starEach es env:=by
 induction e using Expr.casesOn<;>first | exact oW h | with_unfolding_all rfl
theorem nF {pos:Pos} {env:Env}:∀ {es:List Expr},(es.all fun e=>!isStar e)=true→(backTo pos (starEach es env)).any (·.1)=false
 | [],_=>rfl
 | e::es,h=>by
  simp only [qM,jD,lJ] at h
  refine sb (nG h.1) ?_
  exact nF h.2
theorem GH {v:Expr} {attr:Str} {pos:Pos} {env:Env} (h:uL v=true):eval (.Attribute v attr pos) env=(do
   let o←eval v env
   standAt pos.atName
   let r←holding [o] (getAttr o attr true)
   letTemporaryGo v o r
   pure r):=by
 induction v using Expr.casesOn<;>first | exact oW h | with_unfolding_all rfl
theorem MN {s:Expr} {o i:Value} (h:C5 s=false):subscripted s false o i=operate [o,i] (getItem o i):=by
 induction s using Expr.casesOn<;>first | exact oW h | with_unfolding_all rfl
theorem plainT {e:Expr} {env:Env} {whole:Sem Value} (h:ID e=true):isTrue e env whole=(do let v←whole; standAt e.pos; holding [v] (truthy v)):=by
 induction e using Expr.casesOn with
 | UnaryOp op x pos=>induction op using UnaryOp.casesOn<;>first | exact oW h | with_unfolding_all rfl
 | _=>first | exact oW h | with_unfolding_all rfl
theorem xT {v:Expr} {t:Option Expr} {n:Nat} {env:Env} (h:C4 v=false):swapsWith v t n env=pure false:=by
 induction v using Expr.casesOn<;>first | exact oW h | with_unfolding_all rfl
theorem sA {v:Expr} {env:Env} (h:isSet v=false) (x:Value):foldedSetIterable v env x=pure x:=by
 induction v using Expr.casesOn<;>first | exact oW h | with_unfolding_all rfl
noncomputable def agE (B:Bn) (c:Cx) (R:Addr→aA→Gh→Prop) (m:aA) (G:Gh):Tk→Prop
 | .E e Q=>V B c R (eval e c.env) m G Q
 | .L pos es Q=>(es.all fun e=>!isStar e)=true∧V B c R (spliced (backTo pos (starEach es c.env))) m G Q
 | .T e Q=>V B c R (isTrue e c.env (eval e c.env)) m G Q
 | .A es Q=>∀ pos whole,V B c R (isTrue (.BoolOp .And es pos) c.env whole) m G Q
 | .O es Q=>∀ pos whole,V B c R (isTrue (.BoolOp .Or es pos) c.env whole) m G Q
theorem PW {op:Operator} {a b:Value} {Q:Value→aA→Gh→Prop} {m:aA} {G:Gh} (h:GJ B c R op a b Q m G):V B c R (binaryOp op a b) m G Q:=by
 induction op using Operator.casesOn with
 | Add=>induction a using Value.casesOn with
  | int=>induction b using Value.casesOn with
   | int=>exact v_add h
   | _=>exact h
  | _=>exact h
 | Sub=>induction a using Value.casesOn with
  | int=>induction b using Value.casesOn with
   | int=>exact ai6 h
   | _=>exact h
  | _=>exact h
 | _=>exact h
theorem X7 {op:Operator} {a b:Value} {Q:Value→aA→Gh→Prop} {m:aA} {G:Gh} (h:IA B c R op a b Q m G):V B c R (inplaceOp op a b) m G Q:=by
 induction op using Operator.casesOn with
 | Add=>induction a using Value.casesOn with
  | int=>induction b using Value.casesOn with
   | int=>exact ahD h
   | _=>exact h
  | _=>exact h
 | _=>exact h
theorem GS {op:CmpOp} {i j:Int} {t u:Tok} {Q:Value→aA→Gh→Prop} {m:aA} {G:Gh} (h:zX op i j Q m G):V B c R (compareOp op (.int i t) (.int j u)) m G Q:=by
 induction op using CmpOp.casesOn with
 | Eq=>exact ah3 h
 | NotEq=>exact ahQ h
 | Lt=>exact ahN h
 | LtE=>exact ahJ h
 | Gt=>exact ahC h
 | _=>exact (show False from h).elim
theorem GZ {op:CmpOp} {i j:Str} {t u:Tok} {Q:Value→aA→Gh→Prop} {m:aA} {G:Gh} (h:zY op i j Q m G):V B c R (compareOp op (.str i t) (.str j u)) m G Q:=by
 induction op using CmpOp.casesOn with
 | Eq=>exact ah6 h
 | NotEq=>exact ahR h
 | _=>exact (show False from h).elim
theorem RA {op:CmpOp} {a:Value} {Q:Value→aA→Gh→Prop} {m:aA} {G:Gh} (h:GY op a Q m G):V B c R (compareOp op a .none) m G Q:=by
 induction op using CmpOp.casesOn with
 | Is=>exact ahG h
 | IsNot=>exact ahV h
 | _=>exact (show False from h).elim
theorem HA {op:CmpOp} {a b:Value} {Q:Value→aA→Gh→Prop} {m:aA} {G:Gh} (h:H0 B c R op a b Q m G):V B c R (compareOp op a b) m G Q:=by
 induction b using Value.casesOn with
 | none=>exact RA h
 | int=>induction a using Value.casesOn with
  | int=>exact GS h
  | _=>exact h
 | str=>induction a using Value.casesOn with
  | str=>exact GZ h
  | _=>exact h
 | _=>exact h
theorem GV {op:CmpOp} {a:Value} {j:Int} {t:Tok} {Q:Value→aA→Gh→Prop} {m:aA} {G:Gh} (h:GU B c R op a j Q m G):V B c R (compareOp op a (.int j t)) m G Q:=by
 induction a using Value.casesOn with
 | int=>exact GS h
 | _=>exact (show ∀ t,_ from h) t
theorem GX {op:CmpOp} {a:Value} {j:Str} {t:Tok} {Q:Value→aA→Gh→Prop} {m:aA} {G:Gh} (h:GW B c R op a j Q m G):V B c R (compareOp op a (.str j t)) m G Q:=by
 induction a using Value.casesOn with
 | str=>exact GZ h
 | _=>exact (show ∀ t,_ from h) t
theorem nK {v:Value} {Q:Bool→aA→Gh→Prop} {m:aA} {G:Gh} (h:sI B c R v Q m G):V B c R (truthy v) m G Q:=by
 induction v using Value.casesOn with
 | bool=>exact ai7 h
 | _=>exact h
theorem ag0 {v s:Expr} {o i:Value} {Q:Value→aA→Gh→Prop} {m:aA} {G:Gh} (h:MM B c R v s o i Q m G):V B c R (subscriptTail v s o i) m G Q:=by
 induction i using Value.casesOn with
 | int=>exact (show vX B c R _ _ _ _ _ _ _ from h).run _
 | str=>exact (show zP B c R _ _ _ _ _ _ _ from h).run _
 | _=>exact h
theorem oJ {b:Bool} {P P' P1 P1':Prop} (h:bq b P P') (k:P→P1) (k':P'→P1'):iT b P1 P1':=by
 induction b using Bool.casesOn
 ·exact XE rfl (k' h)
 ·exact XF rfl (k h)
theorem agK {x y z:Expr} {pos:Pos} {m:aA} {G:Gh} {Q:Value→aA→Gh→Prop} (h:V B c R (eval x c.env) m G fun v m G=>V B c R (truthy v) m G fun t m G=>iT t (V B c R (eval (.BoolOp .And [y,z] pos) c.env) m G Q) (Q v m G)):V B c R (eval (.BoolOp .And [x,y,z] pos) c.env) m G Q :=
 ⟨fun ok s S=>by
  show wpAny _ _ (do
   let v←eval x c.env
   standAt pos
   let t←holding [v] (truthy v)
   match BoolOp.And,t with
   | .And,false | .Or,true=>pure v
   | _,_=>eval (.BoolOp .And [y,z] pos) c.env) _ _ s
  refine wpAny_bind (h.go ok S fun v s1 m1 G1 S1 h1=>wpAny_bind (wpAny_standAt (wpAny_bind (wpAny_holding (h1.go ok S1 fun t s2 m2 G2 S2 h2=>?_)))))
  induction t using Bool.casesOn
  ·exact wpAny_pure ⟨_,_,S2,(show Q v m2 G2 from h2)⟩
  ·exact (show V B c R (eval (.BoolOp .And [y,z] pos) c.env) m2 G2 Q from h2).run ok s2 S2⟩
theorem aiK {f:Value} {pos:Pos} {e:Expr} {rest:List Expr} {kw:List (Option Str×Sem Value)} {m:aA} {G:Gh} {Q:Value→aA→Gh→Prop} (hk:keepIn B.K f=true) (hkw:kw=[])
  (h:V B c R (spliced (backTo pos (starEach (e::rest) c.env))) m G fun vs m G=>V B c R (call f vs) m G Q)
  (he:starEach (e::rest) c.env=(false,eval e c.env)::starEach rest c.env) (hplain:(backTo pos (starEach rest c.env)).any (·.1)=false):V B c R (callWith pos f [] (backTo pos (starEach (e::rest) c.env)) kw) m G Q :=
 ⟨fun ok s S=>by subst hkw; exact callWith_K (first:=[]) ok.X hk (h.go ok S fun vs s1 m1 G1 S1 h1=>⟨S1.dN ok,h1.run ok s1 S1⟩) he hplain⟩
theorem aiI {pos:Pos} {id:String} {e:Expr} {rest:List Expr} {kw:List (Option Str×Sem Value)} {m:aA} {G:Gh} {Q:Value→aA→Gh→Prop} (hkw:kw=[]) (h:V B c R (spliced (backTo pos (starEach (e::rest) c.env))) m G fun vs m G=>V B c R (call (.builtin id) vs) m G Q)
  (he:starEach (e::rest) c.env=(false,eval e c.env)::starEach rest c.env) (hplain:(backTo pos (starEach rest c.env)).any (·.1)=false):V B c R (callWith pos (.builtin id) [] (backTo pos (starEach (e::rest) c.env)) kw) m G Q :=
 ⟨fun ok s S=>by subst hkw; exact P6 (h.go ok S fun vs s1 m1 G1 S1 h1=>h1.run ok s1 S1) he hplain⟩
theorem agU {v s:Expr} {spos pos:Pos} {args:List Expr} {m:aA} {G:Gh} {Q:Value→aA→Gh→Prop} (h:V B c R (eval (.Subscript v s spos) c.env) m G fun f m G=>V B c R (callWith pos f [] (backTo pos (starEach args c.env)) []) m G Q):V B c R (eval (.Call (.Subscript v s spos) args [] pos) c.env) m G Q :=
 ⟨fun ok s S=>Call_ (h.go ok S fun f s1 m1 G1 S1 h1=>h1.run ok s1 S1) (by with_unfolding_all rfl)⟩
theorem agS {pos:Pos} {m:aA} {G:Gh} {Q:Flow→aA→Gh→Prop} (h:Q .brk m G):V B c R (exec (.Break pos) c.env) m G Q:=⟨fun ok s S=>wpAny_Break ⟨_,_,S,h⟩⟩
theorem ah0 {pos:Pos} {m:aA} {G:Gh} {Q:Flow→aA→Gh→Prop} (h:Q .cont m G):V B c R (exec (.Continue pos) c.env) m G Q:=⟨fun ok s S=>wpAny_Continue ⟨_,_,S,h⟩⟩
set_option tactic.hygienic true in
theorem ahY {pos:Pos} {m:aA} {G:Gh} {next:aA→Gh→Prop} {Q:Flow→aA→Gh→Prop} (h:next m G):V B c R (exec (.Pass pos) c.env) m G (eE next Q):=⟨fun ok s S=>wpAny_Pass ⟨_,_,S,h⟩⟩
theorem PT {o:Expr} {name:Str} {env:Env} (h1:uL o=true) (w:Sem Value):attributeBase o name env w=w:=by
 induction o using Expr.casesOn<;>first | exact oW h1 | with_unfolding_all rfl
theorem ZW {o:Expr} {name:Str} {apos pos:Pos} {args:List Expr} {env:Env} (h:CP o args apos pos=true):eval (.Call (.Attribute o name apos) args [] pos) env=(do
   let ov←eval o env
   standAt apos.atName
   let (f,first)←holding [ov] (getMethod ov name (do return (←importBound o env).getD true))
   callWith pos f first (backTo pos (starEach args env)) (backToKw pos (keywordEach [] env))):=by
 unfold CP at h
 simp only [jD] at h
 obtain ⟨⟨⟨h1,h2⟩,h3⟩,h4⟩:=h
 have hf:methodCallForm (args.length+[].length (α:=Keyword)) (backTo pos (starEach args env)) (backToKw pos (keywordEach [] env))=true:=by
  have:=nF (pos:=pos) (env:=env) h3
  have h5:((backTo pos (starEach args env)).all fun x=>!x.1)=true:=by
   rw [gJ]; intro x hx
   rw [List.any_eq_false] at this
   simpa using this x hx
  unfold methodCallForm
  have hk:backToKw pos (keywordEach [] env)=[]:=by with_unfolding_all rfl
  refine sb h5 (sb hk ?_)
  exact decide_eq_true (Nat.lt_succ_of_lt (fT h4))
 have e:eval (.Call (.Attribute o name apos) args [] pos) env=(do
   let ov←attributeBase o name env (eval o env)
   standAt apos.atName
   methodCall o name apos pos env ov (args.length+[].length (α:=Keyword)) (backTo pos (starEach args env)) (backToKw pos (keywordEach [] env))):=by with_unfolding_all rfl
 refine sb e ?_
 have e2:∀ w:Sem Value,attributeBase o name env w=w:=PT h1
 refine sb (e2 _) ?_
 refine congrArg _ (funext fun ov=>congrArg _ (funext fun zz=>?_))
 unfold methodCall calleeOf methodCallPos
 refine sb hf (sb h2 ?_)
 exact rfl
theorem QH {α:Type} {b:Bool} {P P':Prop} {e e':Sem α} {m:aA} {G:Gh} {Q:α→aA→Gh→Prop} (h:bq b P P') (k:P→V B c R e m G Q) (k':P'→V B c R e' m G Q):iT b (V B c R e m G Q) (V B c R e' m G Q):=oJ h k k'
theorem lZ {b:Bool} {P:Prop} (h:match b with
  | true=>P
  | false=>False):b=true∧P:=by
 induction b using Bool.casesOn
 ·exact h.elim
 ·exact ⟨rfl,h⟩
theorem uE {b:Bool} {P:Prop} (h:match b with
  | false=>P
  | true=>False):b=false∧P:=by
 induction b using Bool.casesOn
 ·exact ⟨rfl,h⟩
 ·exact h.elim
theorem JF {o:Option Value} {P:Value→Prop} (h:match o with
  | some v=>P v
  | none=>False):∃ v,o=some v∧P v:=by
 induction o using Option.casesOn with
 | none=>exact h.elim
 | some v=>exact ⟨v,rfl,h⟩
theorem aaM {m:aA} {x:Str} {v:Value} (h:nm gl m x=some v):m.lookup x=some (some v)∨gl.lookup x=some v:=by
 unfold nm at h
 cases e:m.lookup x with
 | none=>rw [e] at h; exact .inr h
 | some o =>
  rw [e] at h
  induction o using Option.casesOn with
  | none=>exact bM h
  | some w =>
   have h:some w=some v:=h
   obtain rfl:=bO h
   exact .inl rfl
theorem ZI {b:Bool} {P P':Prop} (h:match b with
  | true=>P
  | false=>P'):(b=true∧P)∨(b=false∧P'):=by
 induction b using Bool.casesOn
 ·exact .inr ⟨rfl,h⟩
 ·exact .inl ⟨rfl,h⟩
theorem JE {b:Bool} {P P':Prop} (h:match b with
  | false=>P
  | true=>P'):(b=false∧P)∨(b=true∧P'):=by
 induction b using Bool.casesOn
 ·exact .inl ⟨rfl,h⟩
 ·exact .inr ⟨rfl,h⟩
theorem OG (X:Txt B.w B.K) {n:Nat} {m:aA} {G:Gh} {Q:Value→aA→Gh→Prop} {pos:Pos} {a:Expr} {as:List Expr} {fv:Value}
  (ihL:∀ {pos:Pos} {es:List Expr} {Q:List Value→aA→Gh→Prop} {m:aA} {G:Gh},wk B c R gl n (.L pos es Q) m G→(es.all fun e=>!isStar e)=true∧V B c R (spliced (backTo pos (starEach es c.env))) m G Q)
  (h:wk B c R gl n (.L pos (a::as) (uA B c R fv Q)) m G) (hk:rQ fv=true):V B c R (callWith pos fv [] (backTo pos (starEach (a::as) c.env)) (backToKw pos (keywordEach [] c.env))) m G Q:=by
 obtain ⟨h1,h2⟩:=ihL h
 rw [qM,jD,lJ] at h1
 induction fv using Value.casesOn with
 | ref k=>exact aiK (C9 X hk) rfl h2 (nG h1.1) (nF h1.2)
 | builtin id=>exact aiI rfl h2 (nG h1.1) (nF h1.2)
 | _=>cases hk
theorem ajF (X:Txt B.w B.K) {n:Nat} {m:aA} {G:Gh} {Q:Value→aA→Gh→Prop} {pos:Pos} {a:Expr} {as:List Expr}
  (ihL:∀ {pos:Pos} {es:List Expr} {Q:List Value→aA→Gh→Prop} {m:aA} {G:Gh},wk B c R gl n (.L pos es Q) m G→(es.all fun e=>!isStar e)=true∧V B c R (spliced (backTo pos (starEach es c.env))) m G Q) (fv:Value):∀ self:List Value,
  (match (fv,self) with
   | (f,[self])=>(match rQ f with
    | true=>wk B c R gl n (.L pos (a::as) (IS B c R f self Q)) m G
    | false=>False)
   | (f,[])=>(match rQ f with
    | true=>wk B c R gl n (.L pos (a::as) (uA B c R f Q)) m G
    | false=>False)
   | _=>False)→V B c R (callWith pos fv self (backTo pos (starEach (a::as) c.env)) (backToKw pos (keywordEach [] c.env))) m G Q
 | [],h=>OG X ihL (lZ h).2 (lZ h).1
 | [self],h=>by
  obtain ⟨hk,h⟩:=lZ h
  obtain ⟨h1,h2⟩:=ihL h
  rw [qM,jD,lJ] at h1
  induction fv using Value.casesOn with
  | ref k=>exact aiJ (C9 X hk) rfl h2 (nG h1.1) (nF h1.2)
  | builtin id=>exact NX rfl h2 (nG h1.1) (nF h1.2)
  | _=>cases hk
 | _::_::_,h=>(show False from h).elim
theorem ajE (X:Txt B.w B.K) (hg:c.gl=gl) {n:Nat} {m:aA} {G:Gh} {Q:Value→aA→Gh→Prop}
  (ihE:∀ {e:Expr} {Q:Value→aA→Gh→Prop} {m:aA} {G:Gh},wk B c R gl n (.E e Q) m G→V B c R (eval e c.env) m G Q)
  (ihL:∀ {pos:Pos} {es:List Expr} {Q:List Value→aA→Gh→Prop} {m:aA} {G:Gh},wk B c R gl n (.L pos es Q) m G→(es.all fun e=>!isStar e)=true∧V B c R (spliced (backTo pos (starEach es c.env))) m G Q)
  (ihT:∀ {e:Expr} {Q:Bool→aA→Gh→Prop} {m:aA} {G:Gh},wk B c R gl n (.T e Q) m G→V B c R (isTrue e c.env (eval e c.env)) m G Q) (e:Expr) (h:wk B c R gl (n+1) (.E e Q) m G):V B c R (eval e c.env) m G Q:=by
 induction e using Expr.casesOn with
 | Name x pos =>
  refine aV (JF h) fun v hv h=>?_
  rcases aaM hv with e | e
  ·exact ahP e h
  ·exact ahB hg e h
 | Constant k i pos =>
  induction k using Const.casesOn with
  | int=>exact xX h
  | str=>exact xZ h
  | none=>exact agY h
  | bool=>exact agX h
  | _=>exact (show False from h).elim
 | Attribute v attr pos=>exact agO (ihE (lZ h).2) (GH (lZ h).1)
 | BinOp l op r pos=>exact agQ ((ihE h).mono fun a m G h=>(ihE h).mono fun b m G h=>PW h)
 | Compare l ops rs pos =>
  have dflt:∀ op r,(match behindInMarks op r with
   | false=>wk B c R gl n (.E l (wL B c R (wk B c R gl n) op r Q)) m G
   | true=>False)→V B c R (eval (.Compare l [op] [r] pos) c.env) m G Q:=fun op r h=>DS ((ihE (uE h).2).mono fun a m G h=>(ihE h).mono fun b m G h=>HA h) (uE h).1
  induction ops using List.casesOn with
  | nil=>exact (show False from h).elim
  | cons op ops=>induction ops using List.casesOn with
   | cons=>exact (show False from h).elim
   | nil=>induction rs using List.casesOn with
    | nil=>exact (show False from h).elim
    | cons r rs=>induction rs using List.casesOn with
     | cons=>exact (show False from h).elim
     | nil=>induction r using Expr.casesOn with
      | Constant k i q=>induction k using Const.casesOn with
       | int j=>exact DS ((ihE h).mono fun a m G h=>xX fun t=>GV h) rfl
       | str j=>exact DS ((ihE h).mono fun a m G h=>xZ fun t=>GX h) rfl
       | _=>exact dflt _ _ h
      | _=>exact dflt _ _ h
 | IfExp t b o pos=>exact ahF ((ihT h).mono fun x m G h=>QH h ihE ihE)
 | Tuple es k pos=>exact ai9 (ihL h).2
 | List es pos=>exact ahL (ihL h).2
 | Subscript v s pos =>
  have dflt:∀ s,wk B c R gl n (.E v (IV B c R (wk B c R gl n) v s Q)) m G→V B c R (eval (.Subscript v s pos) c.env) m G Q:=fun s h=>v_sub ((ihE h).mono fun o m G h=>(ihE h).mono fun i m G h=>ag0 h)
  induction s using Expr.casesOn with
  | Slice=>exact h
  | Constant k i q=>induction k using Const.casesOn with
   | int j=>exact v_sub ((ihE h).mono fun o m G h=>xX fun t=>h.run t)
   | str j=>exact v_sub ((ihE h).mono fun o m G h=>xZ fun t=>h.run t)
   | _=>exact dflt _ h
  | _=>exact dflt _ h
 | BoolOp op es pos=>induction op using BoolOp.casesOn with
  | And=>induction es using List.casesOn with
   | nil=>exact (show False from h).elim
   | cons x es=>induction es using List.casesOn with
    | nil=>exact (show False from h).elim
    | cons y es=>induction es using List.casesOn with
     | nil=>exact N3 ((ihE h).mono fun v m G h=>(nK h).mono fun b m G h=>oJ h ihE id)
     | cons z es=>induction es using List.casesOn with
      | nil=>exact agK ((ihE h).mono fun v m G h=>(nK h).mono fun b m G h=>oJ h (fun h=>N3 ((ihE h).mono fun v m G h=>(nK h).mono fun b m G h=>oJ h ihE id)) id)
      | cons=>exact (show False from h).elim
  | Or=>induction es using List.casesOn with
   | nil=>exact (show False from h).elim
   | cons x es=>induction es using List.casesOn with
    | nil=>exact (show False from h).elim
    | cons y es=>induction es using List.casesOn with
     | nil=>exact ahW ((ihE h).mono fun v m G h=>(nK h).mono fun b m G h=>oJ h id ihE)
     | cons=>exact (show False from h).elim
 | UnaryOp op x pos =>
  induction op using UnaryOp.casesOn with
  | Not=>exact NW ((ihE h).mono fun v m G h=>v_not (nK h))
  | _=>exact NW (ihE h)
 | Call f args kws pos=>induction kws using List.casesOn with
  | cons=>exact h
  | nil=>induction f using Expr.casesOn with
   | Name x q=>induction args using List.casesOn with
    | nil=>exact h
    | cons a as =>
     refine aV (JF h) fun f hf h=>?_
     obtain ⟨hk,h⟩:=lZ h
     obtain ⟨h1,h2⟩:=ihL h
     rw [qM,jD,lJ] at h1
     induction f using Value.casesOn with
     | ref k=>exact agV hg hf (C9 X hk) h2 (nG h1.1) (nF h1.2)
     | builtin id=>exact agT hg hf h2 (nG h1.1) (nF h1.2)
     | type T=>exact agW hg hf h2 (nG h1.1) (nF h1.2)
     | _=>cases hk
   | Attribute o name apos =>
    rcases ZI h with ⟨hm,h⟩ | ⟨hm,h⟩
    ·refine NJ ((ihE h).mono fun ov m G h=>h.mono fun fx m G h=>?_) (ZW hm)
     induction args using List.casesOn with
     | nil=>exact h
     | cons a as=>exact ajF X ihL fx.1 fx.2 h
    ·exact h
   | Subscript v s q=>induction args using List.casesOn with
    | nil=>exact (show False from h).elim
    | cons a as=>exact agU ((ihE h).mono fun fv m G h=>OG X ihL (lZ h).2 (lZ h).1)
   | _=>exact h
 | _=>exact h
theorem gI (X:Txt B.w B.K) (hg:c.gl=gl):∀ (n:Nat) (tk:Tk) (m:aA) (G:Gh),wk B c R gl n tk m G→agE B c R m G tk
 | 0,_,_,_,h=>(show False from h).elim
 | n+1,.E e Q,m,G,h=>by
  have ihE:∀ {e:Expr} {Q:Value→aA→Gh→Prop} {m:aA} {G:Gh},wk B c R gl n (.E e Q) m G→V B c R (eval e c.env) m G Q:=fun h=>gI X hg n _ _ _ h
  have ihL:∀ {pos:Pos} {es:List Expr} {Q:List Value→aA→Gh→Prop} {m:aA} {G:Gh},wk B c R gl n (.L pos es Q) m G→(es.all fun e=>!isStar e)=true∧V B c R (spliced (backTo pos (starEach es c.env))) m G Q:=fun h=>gI X hg n _ _ _ h
  have ihT:∀ {e:Expr} {Q:Bool→aA→Gh→Prop} {m:aA} {G:Gh},wk B c R gl n (.T e Q) m G→V B c R (isTrue e c.env (eval e c.env)) m G Q:=fun h=>gI X hg n _ _ _ h
  exact ajE X hg ihE ihL ihT e h
 | n+1,.L pos es Q,m,G,h=>by
  obtain ⟨hs,h⟩:=lZ h
  refine ⟨hs,?_⟩
  induction es using List.casesOn with
  | nil=>exact agM h
  | cons e es =>
   rw [qM,jD,lJ] at hs
   exact agL ((gI X hg n _ _ _ h:V B c R (eval e c.env) m G _).mono fun v m G h=>(gI X hg n _ _ _ h:_∧V B c R (spliced (backTo pos (starEach es c.env))) m G _).2) (nG hs.1)
 | n+1,.T e Q,m,G,h=>by
  have ihE:∀ {e:Expr} {Q:Value→aA→Gh→Prop} {m:aA} {G:Gh},wk B c R gl n (.E e Q) m G→V B c R (eval e c.env) m G Q:=fun h=>gI X hg n _ _ _ h
  have pl:∀ e',wk B c R gl n (.E e' (rO B c R Q)) m G→ID e'=true→V B c R (isTrue e' c.env (eval e' c.env)) m G Q:=fun e' h hp=>ag6 ((ihE h).mono fun v m G h=>nK h) (plainT hp)
  induction e using Expr.casesOn with
  | UnaryOp op x pos=>induction op using UnaryOp.casesOn with
   | Not=>exact ag3 (gI X hg n _ _ _ h:V B c R (isTrue x c.env (eval x c.env)) m G _)
   | _=>exact pl _ h rfl
  | BoolOp op es pos=>induction op using BoolOp.casesOn with
   | And=>exact gI X hg n _ _ _ h _ _
   | Or=>exact gI X hg n _ _ _ h _ _
  | Compare l ops rs p =>
   have dflt:∀ op r,(match behindInMarks op r with
    | false=>wk B c R gl n (.E l (wL B c R (wk B c R gl n) op r (rO B c R Q))) m G
    | true=>False)→V B c R (isTrue (.Compare l [op] [r] p) c.env (eval (.Compare l [op] [r] p) c.env)) m G Q:=fun op r h=>DL ((ihE (uE h).2).mono fun a m G h=>(ihE h).mono fun b m G h=>(HA h).mono fun v m G h=>nK h) (uE h).1
   induction ops using List.casesOn with
   | nil=>exact (show False from h).elim
   | cons op ops=>induction ops using List.casesOn with
    | cons=>exact (show False from h).elim
    | nil=>induction rs using List.casesOn with
     | nil=>exact (show False from h).elim
     | cons r rs=>induction rs using List.casesOn with
      | cons=>exact (show False from h).elim
      | nil=>induction r using Expr.casesOn with
       | Constant k i q=>induction k using Const.casesOn with
        | int j=>exact DL ((ihE h).mono fun a m G h=>xX fun t=>(GV h).mono fun v m G h=>nK h) rfl
        | str j=>exact DL ((ihE h).mono fun a m G h=>xZ fun t=>(GX h).mono fun v m G h=>nK h) rfl
        | _=>exact dflt _ _ h
       | _=>exact dflt _ _ h
  | IfExp t b o pos=>exact (show False from h).elim
  | _=>exact pl _ h rfl
 | n+1,.A es Q,m,G,h=>fun pos whole=>by
  induction es using List.casesOn with
  | nil=>exact ag2 h
  | cons e es=>exact ag1 ((gI X hg n _ _ _ h:V B c R (isTrue e c.env (eval e c.env)) m G fun b m G=>bq b _ _).mono fun b m G h=>oJ h (fun h=>gI X hg n _ _ _ h _ _) id)
 | n+1,.O es Q,m,G,h=>fun pos whole=>by
  induction es using List.casesOn with
  | nil=>exact ag5 h
  | cons e es=>exact ag4 ((gI X hg n _ _ _ h:V B c R (isTrue e c.env (eval e c.env)) m G fun b m G=>bq b _ _).mono fun b m G h=>oJ h id (fun h=>gI X hg n _ _ _ h _ _))
end
noncomputable def IE:Expr→Bool
 | .Call (.Name x _) [_] [] _=>x==("range":Str)
 | _=>false
section
variable (B:Bn) (c:Cx) (R:Addr→aA→Gh→Prop)
noncomputable abbrev kZ:=aA→Gh→Prop
noncomputable abbrev XY (S:kZ):VQ:=fun zz m G=>S m G
noncomputable abbrev XN (W:List Stmt→(Flow→aA→Gh→Prop)→aA→Gh→Prop) (x:Str) (rest:List Stmt) (Q:Flow→aA→Gh→Prop):VQ:=fun v m G=>(match (m.lookup x).isSome with
 | true=>W rest Q (kK m x v) G
 | false=>False)
noncomputable abbrev kU (S:kZ):Unit→aA→Gh→Prop:=fun zz m G=>S m G
noncomputable abbrev YC (attr:Str) (v:Value) (S:kZ):VQ:=fun ov m G=>V B c R (setAttr ov attr v) m G (kU S)
noncomputable abbrev YB (W:WK) (o:Expr) (attr:Str) (S:kZ):VQ:=fun v m G=>W (.E o (YC B c R attr v S)) m G
noncomputable abbrev YF (v ov:Value) (S:kZ):VQ:=fun iv m G=>V B c R (setItem ov iv v) m G (kU S)
noncomputable abbrev YE (W:WK) (i:Expr) (v:Value) (S:kZ):VQ:=fun ov m G=>W (.E i (YF B c R v ov S)) m G
noncomputable abbrev YD (W:WK) (o i:Expr) (S:kZ):VQ:=fun v m G=>W (.E o (YE B c R W i v S)) m G
noncomputable abbrev XS (ov:Value) (attr:Str) (S:kZ):VQ:=fun new m G=>V B c R (setAttr ov attr new) m G (kU S)
noncomputable abbrev XR (op:Operator) (ov old:Value) (attr:Str) (S:kZ):VQ:=fun v m G=>IA B c R op old v (XS B c R ov attr S) m G
noncomputable abbrev XQ (W:WK) (op:Operator) (v:Expr) (ov:Value) (attr:Str) (S:kZ):VQ:=fun old m G=>W (.E v (XR B c R op ov old attr S)) m G
noncomputable abbrev IM (W:WK) (op:Operator) (v:Expr) (attr:Str) (S:kZ):VQ:=fun ov m G=>V B c R (getAttr ov attr true) m G (XQ B c R W op v ov attr S)
noncomputable abbrev IT (W:List Stmt→(Flow→aA→Gh→Prop)→aA→Gh→Prop) (body orelse rest:List Stmt) (Q:Flow→aA→Gh→Prop):BQ:=fun b m G=>bq b (W body (eE (W rest Q) Q) m G) (W orelse (eE (W rest Q) Q) m G)
noncomputable abbrev IU (Q:Flow→aA→Gh→Prop):VQ:=fun v m G=>Q (.ret v) m G
noncomputable abbrev kFor (target:Expr) (body:List Stmt) (Q:Flow→aA→Gh→Prop):VQ:=fun xv m G=>pL B c R target body Q xv m G
noncomputable def ws (gl:List (Str×Value)):Nat→List Stmt→(Flow→aA→Gh→Prop)→aA→Gh→Prop
 | 0,_,_,_,_=>False
 | n+1,sts,Q,m,G=>(match sts with
  | []=>Q .next m G
  | st::rest=>(match st with
   | .Expr e _=>(match C4 e with
    | false=>wk B c R gl 60 (.E e (XY (ws gl n rest Q))) m G
    | true=>False)
   | .Assign [t] v _=>(match C4 v with
    | false=>(match t with
     | .Name x _=>wk B c R gl 60 (.E v (XN (ws gl n) x rest Q)) m G
     | .Attribute o attr _=>wk B c R gl 60 (.E v (YB B c R (wk B c R gl 60) o attr (ws gl n rest Q))) m G
     | .Subscript o i _=>wk B c R gl 60 (.E v (YD B c R (wk B c R gl 60) o i (ws gl n rest Q))) m G
     | _=>V B c R (exec st c.env) m G (eE (ws gl n rest Q) Q))
    | true=>V B c R (exec st c.env) m G (eE (ws gl n rest Q) Q))
   | .AugAssign (.Attribute o attr _) op v _=>wk B c R gl 60 (.E o (IM B c R (wk B c R gl 60) op v attr (ws gl n rest Q))) m G
   | .If test body orelse _=>wk B c R gl 60 (.T test (IT (ws gl n) body orelse rest Q)) m G
   | .Return (some e) _=>wk B c R gl 60 (.E e (IU Q)) m G
   | .Return none _=>Q (.ret .none) m G
   | .Break _=>Q .brk m G
   | .Continue _=>Q .cont m G
   | .Pass _=>ws gl n rest Q m G
   | .For target iter body [] _=>(match isSet iter||IE iter with
    | false=>wk B c R gl 60 (.E iter (kFor B c R target body (eE (ws gl n rest Q) Q))) m G
    | true=>V B c R (exec st c.env) m G (eE (ws gl n rest Q) Q))
   | st=>V B c R (exec st c.env) m G (eE (ws gl n rest Q) Q)))
end
section
variable {B:Bn} {c:Cx} {R:Addr→aA→Gh→Prop} {gl:List (Str×Value)}
theorem pL.mono {target:Expr} {body:List Stmt} {Q Q':Flow→aA→Gh→Prop} {xv:Value} {m:aA} {G:Gh} (h:pL B c R target body Q xv m G) (k:∀ f m G,Q f m G→Q' f m G):pL B c R target body Q' xv m G :=
 ⟨fun ok s S=>wpAny_mono (h.run ok s S) (fun it s₂ h=>codeAny_mono h fun r s' h=>by
  induction r using Except.casesOn with
  | ok f=>refine cN h fun m' G' S' q=>?_; exact ⟨m',G',S',k f m' G' q⟩
  | error e=>exact h) fun zz zz h=>h⟩
theorem yH (X:Txt B.w B.K) (oo:bB c) (hg:c.gl=gl):∀ (n:Nat) (sts:List Stmt) (Q:Flow→aA→Gh→Prop) (m:aA) (G:Gh),ws B c R gl n sts Q m G→V B c R (execs sts c.env) m G Q
 | 0,_,_,_,_,h=>(show False from h).elim
 | n+1,sts,Q,m,G,h=>by
  have ihS:∀ {sts:List Stmt} {Q:Flow→aA→Gh→Prop} {m:aA} {G:Gh},ws B c R gl n sts Q m G→V B c R (execs sts c.env) m G Q:=fun h=>yH X oo hg n _ _ _ _ h
  have ihE:∀ {e:Expr} {Q:Value→aA→Gh→Prop} {m:aA} {G:Gh},wk B c R gl 60 (.E e Q) m G→V B c R (eval e c.env) m G Q:=fun h=>gI X hg _ _ _ _ h
  have ihT:∀ {e:Expr} {Q:Bool→aA→Gh→Prop} {m:aA} {G:Gh},wk B c R gl 60 (.T e Q) m G→V B c R (isTrue e c.env (eval e c.env)) m G Q:=fun h=>gI X hg _ _ _ _ h
  induction sts using List.casesOn with
  | nil=>exact ahT h
  | cons st rest =>
   have fl:∀ f m G,eE (ws B c R gl n rest Q) Q f m G→eE (fun m G=>V B c R (execs rest c.env) m G Q) Q f m G:=fun f m G h=>by
    induction f using Flow.casesOn
    ·exact ihS h
    all_goals exact h
   refine agZ ?_
   have raw:∀ {st:Stmt},V B c R (exec st c.env) m G (eE (ws B c R gl n rest Q) Q)→V B c R (exec st c.env) m G (eE (fun m G=>V B c R (execs rest c.env) m G Q) Q):=fun h=>h.mono fl
   induction st using Stmt.casesOn with
   | Expr e pos =>
    obtain ⟨hc,h⟩:=uE h
    exact ah8 ((ihE h).mono fun zz m G h=>ihS h) (xT hc)
   | Assign ts v pos=>induction ts using List.casesOn with
    | nil=>exact raw h
    | cons t ts=>induction ts using List.casesOn with
     | cons=>exact raw h
     | nil =>
      rcases JE h with ⟨hc,h⟩ | ⟨hc,h⟩
      ·induction t using Expr.casesOn with
       | Name x q =>
        refine N4 ((ihE h).mono fun v m G h=>?_) (xT hc)
        obtain ⟨hx,h⟩:=lZ h
        exact iQ oo hx (ihS h)
       | Attribute o attr q=>exact N5 ((ihE h).mono fun v m G h=>(ihE h).mono fun ov m G h=>h.mono fun zz m G h=>ihS h) (xT hc)
       | Subscript o i q=>exact agN ((ihE h).mono fun v m G h=>(ihE h).mono fun ov m G h=>(ihE h).mono fun iv m G h=>h.mono fun zz m G h=>ihS h) (xT hc)
       | _=>exact raw h
      ·exact raw h
   | AugAssign t op v pos=>induction t using Expr.casesOn with
    | Attribute o attr q =>
     have h:wk B c R gl 60 (.E o (IM B c R (wk B c R gl 60) op v attr (ws B c R gl n rest Q))) m G:=h
     exact agP ((ihE h).mono fun ov m G h=>h.mono fun old m G h=>(ihE h).mono fun v m G h=>(X7 h).mono fun new m G h=>h.mono fun zz m G h=>ihS h)
    | _=>exact raw h
   | If test body orelse pos =>
    have h:wk B c R gl 60 (.T test (IT (ws B c R gl n) body orelse rest Q)) m G:=h
    exact ahE ((ihT h).mono fun b m G h=>oJ h (fun h=>(ihS h).mono fl) fun h=>(ihS h).mono fl)
   | Return e pos=>induction e using Option.casesOn with
    | none=>exact ai1 (I0 h)
    | some e =>
     have h:wk B c R gl 60 (.E e (IU Q)) m G:=h
     exact ai0 ((ihE h).mono fun v m G h=>I0 h)
   | Break pos=>exact agS (UO h)
   | Continue pos=>exact ah0 (UP h)
   | Pass pos=>exact ahY (ihS h)
   | For target iter body orelse pos=>induction orelse using List.casesOn with
    | cons=>exact raw h
    | nil =>
     have h:(match isSet iter||IE iter with
      | false=>wk B c R gl 60 (.E iter (kFor B c R target body (eE (ws B c R gl n rest Q) Q))) m G
      | true=>V B c R (exec (.For target iter body [] pos) c.env) m G (eE (ws B c R gl n rest Q) Q)):=h
     rcases JE h with ⟨hc,h⟩ | ⟨hc,h⟩
     ·exact ah9 ((ihE h).mono fun xv m G h=>h.mono fl) (sA (by rw [sR] at hc; exact hc.1))
     ·exact raw h
   | _=>exact raw h
theorem bR {R:Addr→Gh→Prop} {G:Gh} {m:aA} (X:Txt B.w B.K) {f:Addr} {params:Arguments} {body:List Stmt} {scope:Scope} {dV:Value} {vs:List Value} {binds:List (Str×Value)} {dn un:Nat} {Q:Value→Gh→Prop} (F:FnAt B.K f params body scope dV gl)
  (hbind:∀ (s':Shared) (name qual:Str) (kV doc pm:Value) (an:Option Addr) (cdv ct:Value),B.K.In s'.heap→BindsTo s' (fnOf name qual params body scope dV kV doc pm an cdv ct) ⟨vs,[]⟩ binds) (hb:zT scope binds=true) (hm:AD scope binds=m) (hdn:f9 1 dn=true) (hun:f9 3 un=true)
  (h:∀ c,bB c→c.env.scope=scope→c.gl=gl→bD c (dn - 1) (un - 3)→ws B c (bN R) gl 60 body (bA Q) m G):bH B (.ref f) vs G dn un Q R :=
 aiR F hbind hb hm hdn hun fun c oo hsc hg hb=>yH X oo hg _ _ _ _ _ (h c oo hsc hg hb)
end
noncomputable def aiS (x0 x1:Option Value):aA:=[("self",x0),("reason",x1)]
noncomputable def aiX (x0 x1:Option Value):aA:=[("self",x0),("thing",x1)]
noncomputable def aj3 (x0 x1 x2:Option Value):aA:=[("self",x0),("number",x1),("owner",x2)]
noncomputable def aj8 (x0 x1 x2 x3:Option Value):aA:=[("self",x0),("number",x1),("owner",x2),("text",x3)]
noncomputable def ajB (x0 x1 x2 x3:Option Value):aA:=[("self",x0),("number",x1),("owner",x2),("message",x3)]
noncomputable def ED (x0 x1 x2 x3 x4 x5 x6:Option Value):aA:=[("self",x0),("number",x1),("owner",x2),("name",x3),("is_class",x4),("parent",x5),("outer",x6)]
noncomputable def ajC (x0 x1 x2:Option Value):aA:=[("one",x0),("other",x1),("sort",x2)]
noncomputable def OB (x0 x1 x2 x3:Option Value):aA:=[("module",x0),("ahead",x1),("behind",x2),("met",x3)]
noncomputable def OC (x0 x1 x2:Option Value):aA:=[("things",x0),("one",x1),("thing",x2)]
noncomputable def O1 (x0 x1 x2 x3 x4 x5:Option Value):aA:=[("module",x0),("found",x1),("known",x2),("waiting",x3),("one",x4),("is_open",x5)]
noncomputable def uX (x0 x1 x2 x3 x4 x5 x6:Option Value):aA:=[("module",x0),("behind",x1),("known",x2),("found",x3),("is_ahead",x4),("one",x5),("moved",x6)]
noncomputable def uY (x0 x1 x2 x3 x4:Option Value):aA:=[("world",x0),("module",x1),("waiting",x2),("line",x3),("one",x4)]
noncomputable def aiT (x0 x1 x2 x3:Option Value):aA:=[("world",x0),("module",x1),("thing",x2),("word",x3)]
noncomputable def E6 (x0 x1 x2 x3:Option Value):aA:=[("world",x0),("value",x1),("waiting",x2),("one",x3)]
noncomputable def EA (x0 x1 x2 x3:Option Value):aA:=[("world",x0),("value",x1),("above",x2),("parent",x3)]
noncomputable def aiU (x0 x1 x2 x3 x4:Option Value):aA:=[("world",x0),("module",x1),("mixin",x2),("word",x3),("told",x4)]
noncomputable def aiV (x0 x1 x2:Option Value):aA:=[("world",x0),("module",x1),("mixin",x2)]
noncomputable def aiW (x0 x1 x2 x3:Option Value):aA:=[("world",x0),("module",x1),("mixin",x2),("line",x3)]
noncomputable def yD (x0 x1 x2 x3 x4 x5:Option Value):aA:=[("self",x0),("natives",x1),("prelude",x2),("read",x3),("most",x4),("name",x5)]
noncomputable def aiY (x0 x1 x2:Option Value):aA:=[("self",x0),("name",x1),("found",x2)]
noncomputable def sO (x0 x1 x2 x3 x4:Option Value):aA:=[("self",x0),("name",x1),("is_class",x2),("found",x3),("parent",x4)]
noncomputable def aiZ (x0 x1:Option Value):aA:=[("self",x0),("name",x1)]
noncomputable def EB (x0 x1 x2 x3 x4 x5 x6 x7 x8:Option Value):aA:=[("self",x0),("name",x1),("is_class",x2),("parent",x3),("outer",x4),("attached",x5),("owner",x6),("stands",x7),("found",x8)]
noncomputable def aj0 (x0 x1:Option Value):aA:=[("self",x0),("value",x1)]
noncomputable def aj1 (x0 x1:Option Value):aA:=[("self",x0),("text",x1)]
noncomputable def O2 (x0 x1 x2:Option Value):aA:=[("self",x0),("name",x1),("message",x2)]
noncomputable def aj2 (x0 x1 x2:Option Value):aA:=[("self",x0),("value",x1),("name",x2)]
noncomputable def EC (x0 x1 x2:Option Value):aA:=[("self",x0),("module",x1),("name",x2)]
noncomputable def yE (x0 x1 x2 x3 x4 x5 x6:Option Value):aA:=[("self",x0),("nesting",x1),("name",x2),("top",x3),("module",x4),("found",x5),("line",x6)]
noncomputable def O3 (x0 x1 x2 x3 x4 x5:Option Value):aA:=[("self",x0),("module",x1),("name",x2),("top",x3),("is_there",x4),("other",x5)]
noncomputable def aj4 (x0 x1 x2 x3 x4 x5:Option Value):aA:=[("self",x0),("module",x1),("name",x2),("is_there",x3),("value",x4),("ahead",x5)]
noncomputable def aj5 (x0 x1 x2 x3 x4:Option Value):aA:=[("self",x0),("module",x1),("name",x2),("value",x3),("is_bare",x4)]
noncomputable def O4 (x0 x1:Option Value):aA:=[("module",x0),("inner",x1)]
noncomputable def aj6 (x0 x1:Option Value):aA:=[("box",x0),("many",x1)]
noncomputable def yF (x0 x1 x2 x3 x4 x5 x6:Option Value):aA:=[("rows",x0),("at",x1),("row",x2),("behind",x3),("line",x4),("one",x5),("some",x6)]
noncomputable def O5 (x0 x1 x2 x3 x4:Option Value):aA:=[("rows",x0),("some",x1),("found",x2),("waiting",x3),("one",x4)]
noncomputable def aj7 (x0 x1 x2 x3:Option Value):aA:=[("thing",x0),("is_class",x1),("parent",x2),("path",x3)]
noncomputable def yG (x0 x1:Option Value):aA:=[("world",x0),("rows",x1)]
noncomputable def O6 (x0 x1 x2 x3:Option Value):aA:=[("rows",x0),("spots",x1),("sign",x2),("at",x3)]
noncomputable def O7 (x0 x1 x2 x3 x4:Option Value):aA:=[("rows",x0),("nesting",x1),("sign",x2),("spots",x3),("line",x4)]
noncomputable def O8 (x0 x1 x2 x3:Option Value):aA:=[("rows",x0),("at",x1),("sign",x2),("line",x3)]
noncomputable def aj9 (x0 x1:Option Value):aA:=[("rows",x0),("held",x1)]
noncomputable def ajA (x0 x1 x2:Option Value):aA:=[("rows",x0),("found",x1),("held",x2)]
noncomputable def uZ (x0 x1 x2 x3 x4 x5 x6 x7 x8 x9 x10 x11 x12:Option Value):aA:=[("box",x0),("world",x1),("rows",x2),("nesting",x3),("spot",x4),("sign",x5),("is_class",x6),("held",x7),("has1",x8),("found",x9),("parent",x10),("some",x11),("made",x12)]
noncomputable def O9 (x0 x1 x2 x3 x4 x5 x6 x7 x8:Option Value):aA:=[("box",x0),("world",x1),("rows",x2),("spot",x3),("some",x4),("one",x5),("way",x6),("ring",x7),("error",x8)]
noncomputable def OA (x0 x1 x2 x3 x4 x5 x6 x7 x8 x9 x10:Option Value):aA:=[("box",x0),("world",x1),("rows",x2),("nesting",x3),("sign",x4),("at",x5),("modules1",x6),("word1",x7),("held",x8),("got",x9),("error",x10)]
noncomputable def sP (x0 x1 x2 x3 x4 x5 x6 x7 x8 x9 x10 x11 x12:Option Value):aA:=[("script",x0),("box",x1),("world",x2),("nesting",x3),("rows",x4),("lap",x5),("deed",x6),("spot",x7),("opened",x8),("sign",x9),("number",x10),("one",x11),("names",x12)]
noncomputable def kB (fd:FuncData) (vs:List Value):{k:Option (Array Value)→Sem (List (Str×Value)) // bindArgs fd ⟨vs,[]⟩=seqItems? fd.defaults>>=k}:=⟨_,rfl⟩
section
variable {B:Bn} {R:Addr→Gh→Prop}
theorem RU (X:Txt B.w B.K) {v0 v1:Value} {G:Gh} {dn un:Nat} {Q:Value→Gh→Prop} (h:∀ c,bB c→c.env.scope=aU (aL 2 0)→c.gl=AP→bD c dn un→ws B c (bN R) AP 60 (bodyOf (aL 2 0)) (bA Q) (aiS (some v0) (some v1)) G):bH B (.ref 36) [v0,v1] G (dn+1) (un+3) Q R :=
 bR X X.UR (binds:=[(("self":Str),v0),(("reason":Str),v1)]) (fun zz zz zz zz zz zz zz zz zz Xs=>binds_K (k:=(kB _ _).1) Xs rfl X.Z8 rfl (kB _ _).2 rfl) (by kernel_rfl!) (by kernel_rfl!) rfl rfl h
theorem RY (X:Txt B.w B.K) {v0 v1:Value} {G:Gh} {dn un:Nat} {Q:Value→Gh→Prop} (h:∀ c,bB c→c.env.scope=aU (aL 3 0)→c.gl=AR→bD c dn un→ws B c (bN R) AR 60 (bodyOf (aL 3 0)) (bA Q) (aiX (some v0) (some v1)) G):bH B (.ref 56) [v0,v1] G (dn+1) (un+3) Q R :=
 bR X X.UT (binds:=[(("self":Str),v0),(("thing":Str),v1)]) (fun zz zz zz zz zz zz zz zz zz Xs=>cC rfl) (by kernel_rfl!) (by kernel_rfl!) rfl rfl h
theorem S9 (X:Txt B.w B.K) {v0 v1 v2:Value} {G:Gh} {dn un:Nat} {Q:Value→Gh→Prop} (h:∀ c,bB c→c.env.scope=aU (aL 10 0)→c.gl=AU→bD c dn un→ws B c (bN R) AU 60 (bodyOf (aL 10 0)) (bA Q) (aj3 (some v0) (some v1) (some v2)) G):bH B (.ref 77) [v0,v1,v2] G (dn+1) (un+3) Q R :=
 bR X X.UW (binds:=[(("self":Str),v0),(("number":Str),v1),(("owner":Str),v2)]) (fun zz zz zz zz zz zz zz zz zz Xs=>cC rfl) (by kernel_rfl!) (by kernel_rfl!) rfl rfl h
theorem RZ (X:Txt B.w B.K) {v0 v1 v2 v3:Value} {G:Gh} {dn un:Nat} {Q:Value→Gh→Prop} (h:∀ c,bB c→c.env.scope=aU (aL 11 0)→c.gl=AS→bD c dn un→ws B c (bN R) AS 60 (bodyOf (aL 11 0)) (bA Q) (aj8 (some v0) (some v1) (some v2) (some v3)) G):bH B (.ref 99) [v0,v1,v2,v3] G (dn+1) (un+3) Q R :=
 bR X X.UU (binds:=[(("self":Str),v0),(("number":Str),v1),(("owner":Str),v2),(("text":Str),v3)]) (fun zz zz zz zz zz zz zz zz zz Xs=>binds_K (k:=(kB _ _).1) Xs rfl X.ZF rfl (kB _ _).2 rfl) (by kernel_rfl!) (by kernel_rfl!) rfl rfl h
theorem RT (X:Txt B.w B.K) {v0 v1 v2 v3:Value} {G:Gh} {dn un:Nat} {Q:Value→Gh→Prop} (h:∀ c,bB c→c.env.scope=aU (aL 16 0)→c.gl=AO→bD c dn un→ws B c (bN R) AO 60 (bodyOf (aL 16 0)) (bA Q) (ajB (some v0) (some v1) (some v2) (some v3)) G):bH B (.ref 218) [v0,v1,v2,v3] G (dn+1) (un+3) Q R :=
 bR X X.UQ (binds:=[(("self":Str),v0),(("number":Str),v1),(("owner":Str),v2),(("message":Str),v3)]) (fun zz zz zz zz zz zz zz zz zz Xs=>binds_K (k:=(kB _ _).1) Xs rfl X.Z7 rfl (kB _ _).2 rfl) (by kernel_rfl!) (by kernel_rfl!) rfl rfl h
theorem RV (X:Txt B.w B.K) {v0 v1 v2 v3 v4:Value} {G:Gh} {dn un:Nat} {Q:Value→Gh→Prop} (h:∀ c,bB c→c.env.scope=aU (aL 18 0)→c.gl=pY→bD c dn un→ws B c (bN R) pY 60 (bodyOf (aL 18 0)) (bA Q) (ED (some v0) (some v1) (some v2) (some v3) (some v4) (some (Value.none)) (some (Value.none))) G):bH B (.ref 258) [v0,v1,v2,v3,v4] G (dn+1) (un+3) Q R :=
 bR X X.I1 (binds:=[(("self":Str),v0),(("number":Str),v1),(("owner":Str),v2),(("name":Str),v3),(("is_class":Str),v4),(("parent":Str),(Value.none)),(("outer":Str),(Value.none))]) (fun zz zz zz zz zz zz zz zz zz Xs=>binds_K (k:=(kB _ _).1) Xs rfl X.JA rfl (kB _ _).2 rfl) (by kernel_rfl!) (by kernel_rfl!) rfl rfl h
theorem RW (X:Txt B.w B.K) {v0 v1 v2 v3 v4 v5 v6:Value} {G:Gh} {dn un:Nat} {Q:Value→Gh→Prop} (h:∀ c,bB c→c.env.scope=aU (aL 18 0)→c.gl=pY→bD c dn un→ws B c (bN R) pY 60 (bodyOf (aL 18 0)) (bA Q) (ED (some v0) (some v1) (some v2) (some v3) (some v4) (some v5) (some v6)) G):bH B (.ref 258) [v0,v1,v2,v3,v4,v5,v6] G (dn+1) (un+3) Q R :=
 bR X X.I1 (binds:=[(("self":Str),v0),(("number":Str),v1),(("owner":Str),v2),(("name":Str),v3),(("is_class":Str),v4),(("parent":Str),v5),(("outer":Str),v6)]) (fun zz zz zz zz zz zz zz zz zz Xs=>binds_K (k:=(kB _ _).1) Xs rfl X.JA rfl (kB _ _).2 rfl) (by kernel_rfl!) (by kernel_rfl!) rfl rfl h
theorem RX (X:Txt B.w B.K) {v0:Value} {G:Gh} {dn un:Nat} {Q:Value→Gh→Prop} (h:∀ c,bB c→c.env.scope=aU (aL 18 1)→c.gl=AQ→bD c dn un→ws B c (bN R) AQ 60 (bodyOf (aL 18 1)) (bA Q) [(("self":Str),some v0)] G):bH B (.ref 265) [v0] G (dn+1) (un+3) Q R :=
 bR X X.US (binds:=[(("self":Str),v0)]) (fun zz zz zz zz zz zz zz zz zz Xs=>cC rfl) (by kernel_rfl!) (by kernel_rfl!) rfl rfl h
theorem U5 (X:Txt B.w B.K) {v0:Value} {G:Gh} {dn un:Nat} {Q:Value→Gh→Prop} (h:∀ c,bB c→c.env.scope=aU (topS 19)→c.gl=C1→bD c dn un→ws B c (bN R) C1 60 (bodyOf (topS 19)) (bA Q) [(("value":Str),some v0)] G):bH B (.ref 277) [v0] G (dn+1) (un+3) Q R :=
 bR X X.WN (binds:=[(("value":Str),v0)]) (fun zz zz zz zz zz zz zz zz zz Xs=>cC rfl) (by kernel_rfl!) (by kernel_rfl!) rfl rfl h
theorem U4 (X:Txt B.w B.K) {v0 v1:Value} {G:Gh} {dn un:Nat} {Q:Value→Gh→Prop} (h:∀ c,bB c→c.env.scope=aU (topS 20)→c.gl=BZ→bD c dn un→ws B c (bN R) BZ 60 (bodyOf (topS 20)) (bA Q) (ajC (some v0) (some v1) none) G):bH B (.ref 284) [v0,v1] G (dn+1) (un+3) Q R :=
 bR X X.WM (binds:=[(("one":Str),v0),(("other":Str),v1)]) (fun zz zz zz zz zz zz zz zz zz Xs=>cC rfl) (by kernel_rfl!) (by kernel_rfl!) rfl rfl h
theorem SY (X:Txt B.w B.K) {v0:Value} {G:Gh} {dn un:Nat} {Q:Value→Gh→Prop} (h:∀ c,bB c→c.env.scope=aU (topS 27)→c.gl=BC→bD c dn un→ws B c (bN R) BC 60 (bodyOf (topS 27)) (bA Q) (OB (some v0) none none none) G):bH B (.ref 330) [v0] G (dn+1) (un+3) Q R :=
 bR X X.VE (binds:=[(("module":Str),v0)]) (fun zz zz zz zz zz zz zz zz zz Xs=>cC rfl) (by kernel_rfl!) (by kernel_rfl!) rfl rfl h
theorem T3 (X:Txt B.w B.K) {v0 v1:Value} {G:Gh} {dn un:Nat} {Q:Value→Gh→Prop} (h:∀ c,bB c→c.env.scope=aU (topS 38)→c.gl=BD→bD c dn un→ws B c (bN R) BD 60 (bodyOf (topS 38)) (bA Q) (OC (some v0) (some v1) none) G):bH B (.ref 398) [v0,v1] G (dn+1) (un+3) Q R :=
 bR X X.VF (binds:=[(("things":Str),v0),(("one":Str),v1)]) (fun zz zz zz zz zz zz zz zz zz Xs=>cC rfl) (by kernel_rfl!) (by kernel_rfl!) rfl rfl h
theorem TZ (X:Txt B.w B.K) {v0:Value} {G:Gh} {dn un:Nat} {Q:Value→Gh→Prop} (h:∀ c,bB c→c.env.scope=aU (topS 39)→c.gl=BV→bD c dn un→ws B c (bN R) BV 60 (bodyOf (topS 39)) (bA Q) (O1 (some v0) none none none none none) G):bH B (.ref 403) [v0] G (dn+1) (un+3) Q R :=
 bR X X.WD (binds:=[(("module":Str),v0)]) (fun zz zz zz zz zz zz zz zz zz Xs=>cC rfl) (by kernel_rfl!) (by kernel_rfl!) rfl rfl h
theorem TY (X:Txt B.w B.K) {v0:Value} {G:Gh} {dn un:Nat} {Q:Value→Gh→Prop} (h:∀ c,bB c→c.env.scope=aU (topS 40)→c.gl=BU→bD c dn un→ws B c (bN R) BU 60 (bodyOf (topS 40)) (bA Q) [(("things":Str),some v0)] G):bH B (.ref 408) [v0] G (dn+1) (un+3) Q R :=
 bR X X.WC (binds:=[(("things":Str),v0)]) (fun zz zz zz zz zz zz zz zz zz Xs=>cC rfl) (by kernel_rfl!) (by kernel_rfl!) rfl rfl h
theorem TS (X:Txt B.w B.K) {v0 v1:Value} {G:Gh} {dn un:Nat} {Q:Value→Gh→Prop} (h:∀ c,bB c→c.env.scope=aU (topS 41)→c.gl=rK→bD c dn un→ws B c (bN R) rK 60 (bodyOf (topS 41)) (bA Q) (uX (some v0) (some v1) none none none none none) G):bH B (.ref 413) [v0,v1] G (dn+1) (un+3) Q R :=
 bR X X.VY (binds:=[(("module":Str),v0),(("behind":Str),v1)]) (fun zz zz zz zz zz zz zz zz zz Xs=>cC rfl) (by kernel_rfl!) (by kernel_rfl!) rfl rfl h
theorem TR (X:Txt B.w B.K) {v0 v1:Value} {G:Gh} {dn un:Nat} {Q:Value→Gh→Prop} (h:∀ c,bB c→c.env.scope=aU (topS 42)→c.gl=u0→bD c dn un→ws B c (bN R) u0 60 (bodyOf (topS 42)) (bA Q) (uY (some v0) (some v1) none none none) G):bH B (.ref 420) [v0,v1] G (dn+1) (un+3) Q R :=
 bR X X.VX (binds:=[(("world":Str),v0),(("module":Str),v1)]) (fun zz zz zz zz zz zz zz zz zz Xs=>cC rfl) (by kernel_rfl!) (by kernel_rfl!) rfl rfl h
theorem U3 (X:Txt B.w B.K) {v0:Value} {G:Gh} {dn un:Nat} {Q:Value→Gh→Prop} (h:∀ c,bB c→c.env.scope=aU (topS 43)→c.gl=BY→bD c dn un→ws B c (bN R) BY 60 (bodyOf (topS 43)) (bA Q) [(("world":Str),some v0)] G):bH B (.ref 427) [v0] G (dn+1) (un+3) Q R :=
 bR X X.WL (binds:=[(("world":Str),v0)]) (fun zz zz zz zz zz zz zz zz zz Xs=>cC rfl) (by kernel_rfl!) (by kernel_rfl!) rfl rfl h
theorem TX (X:Txt B.w B.K) {v0 v1:Value} {G:Gh} {dn un:Nat} {Q:Value→Gh→Prop} (h:∀ c,bB c→c.env.scope=aU (topS 44)→c.gl=BS→bD c dn un→ws B c (bN R) BS 60 (bodyOf (topS 44)) (bA Q) (aiT (some v0) (some v1) none none) G):bH B (.ref 434) [v0,v1] G (dn+1) (un+3) Q R :=
 bR X X.WB (binds:=[(("world":Str),v0),(("module":Str),v1)]) (fun zz zz zz zz zz zz zz zz zz Xs=>cC rfl) (by kernel_rfl!) (by kernel_rfl!) rfl rfl h
theorem U0 (X:Txt B.w B.K) {v0 v1:Value} {G:Gh} {dn un:Nat} {Q:Value→Gh→Prop} (h:∀ c,bB c→c.env.scope=aU (topS 45)→c.gl=BW→bD c dn un→ws B c (bN R) BW 60 (bodyOf (topS 45)) (bA Q) (E6 (some v0) (some v1) none none) G):bH B (.ref 441) [v0,v1] G (dn+1) (un+3) Q R :=
 bR X X.WG (binds:=[(("world":Str),v0),(("value":Str),v1)]) (fun zz zz zz zz zz zz zz zz zz Xs=>cC rfl) (by kernel_rfl!) (by kernel_rfl!) rfl rfl h
theorem SX (X:Txt B.w B.K) {v0:Value} {G:Gh} {dn un:Nat} {Q:Value→Gh→Prop} (h:∀ c,bB c→c.env.scope=aU (topS 46)→c.gl=BB→bD c dn un→ws B c (bN R) BB 60 (bodyOf (topS 46)) (bA Q) [(("value":Str),some v0)] G):bH B (.ref 448) [v0] G (dn+1) (un+3) Q R :=
 bR X X.VD (binds:=[(("value":Str),v0)]) (fun zz zz zz zz zz zz zz zz zz Xs=>cC rfl) (by kernel_rfl!) (by kernel_rfl!) rfl rfl h
theorem TU (X:Txt B.w B.K) {v0 v1:Value} {G:Gh} {dn un:Nat} {Q:Value→Gh→Prop} (h:∀ c,bB c→c.env.scope=aU (topS 47)→c.gl=u9→bD c dn un→ws B c (bN R) u9 60 (bodyOf (topS 47)) (bA Q) (EA (some v0) (some v1) none none) G):bH B (.ref 455) [v0,v1] G (dn+1) (un+3) Q R :=
 bR X X.VZ (binds:=[(("world":Str),v0),(("value":Str),v1)]) (fun zz zz zz zz zz zz zz zz zz Xs=>cC rfl) (by kernel_rfl!) (by kernel_rfl!) rfl rfl h
theorem TV (X:Txt B.w B.K) {v0 v1 v2 v3:Value} {G:Gh} {dn un:Nat} {Q:Value→Gh→Prop} (h:∀ c,bB c→c.env.scope=aU (topS 49)→c.gl=BR→bD c dn un→ws B c (bN R) BR 60 (bodyOf (topS 49)) (bA Q) (aiU (some v0) (some v1) (some v2) (some v3) none) G):bH B (.ref 469) [v0,v1,v2,v3] G (dn+1) (un+3) Q R :=
 bR X X.WA (binds:=[(("world":Str),v0),(("module":Str),v1),(("mixin":Str),v2),(("word":Str),v3)]) (fun zz zz zz zz zz zz zz zz zz Xs=>cC rfl) (by kernel_rfl!) (by kernel_rfl!) rfl rfl h
theorem T4 (X:Txt B.w B.K) {v0 v1 v2:Value} {G:Gh} {dn un:Nat} {Q:Value→Gh→Prop} (h:∀ c,bB c→c.env.scope=aU (topS 50)→c.gl=BE→bD c dn un→ws B c (bN R) BE 60 (bodyOf (topS 50)) (bA Q) (aiV (some v0) (some v1) (some v2)) G):bH B (.ref 476) [v0,v1,v2] G (dn+1) (un+3) Q R :=
 bR X X.VG (binds:=[(("world":Str),v0),(("module":Str),v1),(("mixin":Str),v2)]) (fun zz zz zz zz zz zz zz zz zz Xs=>cC rfl) (by kernel_rfl!) (by kernel_rfl!) rfl rfl h
theorem U1 (X:Txt B.w B.K) {v0 v1 v2:Value} {G:Gh} {dn un:Nat} {Q:Value→Gh→Prop} (h:∀ c,bB c→c.env.scope=aU (topS 51)→c.gl=BX→bD c dn un→ws B c (bN R) BX 60 (bodyOf (topS 51)) (bA Q) (aiW (some v0) (some v1) (some v2) none) G):bH B (.ref 481) [v0,v1,v2] G (dn+1) (un+3) Q R :=
 bR X X.WH (binds:=[(("world":Str),v0),(("module":Str),v1),(("mixin":Str),v2)]) (fun zz zz zz zz zz zz zz zz zz Xs=>cC rfl) (by kernel_rfl!) (by kernel_rfl!) rfl rfl h
theorem SM (X:Txt B.w B.K) {v0 v1:Value} {G:Gh} {dn un:Nat} {Q:Value→Gh→Prop} (h:∀ c,bB c→c.env.scope=aU (aL 57 0)→c.gl=tZ→bD c dn un→ws B c (bN R) tZ 60 (bodyOf (aL 57 0)) (bA Q) (yD (some v0) (some v1) (some (Value.none)) (some (Value.none)) (some (Value.int 20000 1072)) none) G):bH B (.ref 509) [v0,v1] G (dn+1) (un+3) Q R :=
 bR X X.V5 (binds:=[(("self":Str),v0),(("natives":Str),v1),(("prelude":Str),(Value.none)),(("read":Str),(Value.none)),(("most":Str),(Value.int 20000 1072))]) (fun zz zz zz zz zz zz zz zz zz Xs=>binds_K (k:=(kB _ _).1) Xs rfl X.ZE rfl (kB _ _).2 rfl) (by kernel_rfl!) (by kernel_rfl!) rfl rfl h
theorem SS (X:Txt B.w B.K) {v0:Value} {G:Gh} {dn un:Nat} {Q:Value→Gh→Prop} (h:∀ c,bB c→c.env.scope=aU (aL 57 3)→c.gl=B7→bD c dn un→ws B c (bN R) B7 60 (bodyOf (aL 57 3)) (bA Q) [(("self":Str),some v0)] G):bH B (.ref 530) [v0] G (dn+1) (un+3) Q R :=
 bR X X.V8 (binds:=[(("self":Str),v0)]) (fun zz zz zz zz zz zz zz zz zz Xs=>cC rfl) (by kernel_rfl!) (by kernel_rfl!) rfl rfl h
theorem HO (X:Txt B.w B.K) {v0 v1:Value} {G:Gh} {dn un:Nat} {Q:Value→Gh→Prop} (h:∀ c,bB c→c.env.scope=aU (aL 57 6)→c.gl=AW→bD c dn un→ws B c (bN R) AW 60 (bodyOf (aL 57 6)) (bA Q) (aiY (some v0) (some v1) none) G):bH B (.ref 551) [v0,v1] G (dn+1) (un+3) Q R :=
 bR X X.UX (binds:=[(("self":Str),v0),(("name":Str),v1)]) (fun zz zz zz zz zz zz zz zz zz Xs=>cC rfl) (by kernel_rfl!) (by kernel_rfl!) rfl rfl h
theorem SN (X:Txt B.w B.K) {v0 v1:Value} {G:Gh} {dn un:Nat} {Q:Value→Gh→Prop} (h:∀ c,bB c→c.env.scope=aU (aL 57 7)→c.gl=oM→bD c dn un→ws B c (bN R) oM 60 (bodyOf (aL 57 7)) (bA Q) (sO (some v0) (some v1) none none none) G):bH B (.ref 556) [v0,v1] G (dn+1) (un+3) Q R :=
 bR X X.V6 (binds:=[(("self":Str),v0),(("name":Str),v1)]) (fun zz zz zz zz zz zz zz zz zz Xs=>cC rfl) (by kernel_rfl!) (by kernel_rfl!) rfl rfl h
theorem SJ (X:Txt B.w B.K) {v0 v1:Value} {G:Gh} {dn un:Nat} {Q:Value→Gh→Prop} (h:∀ c,bB c→c.env.scope=aU (aL 57 8)→c.gl=B5→bD c dn un→ws B c (bN R) B5 60 (bodyOf (aL 57 8)) (bA Q) (aiZ (some v0) (some v1)) G):bH B (.ref 563) [v0,v1] G (dn+1) (un+3) Q R :=
 bR X X.V4 (binds:=[(("self":Str),v0),(("name":Str),v1)]) (fun zz zz zz zz zz zz zz zz zz Xs=>cC rfl) (by kernel_rfl!) (by kernel_rfl!) rfl rfl h
theorem SP (X:Txt B.w B.K) {v0 v1 v2:Value} {G:Gh} {dn un:Nat} {Q:Value→Gh→Prop} (h:∀ c,bB c→c.env.scope=aU (aL 57 9)→c.gl=pZ→bD c dn un→ws B c (bN R) pZ 60 (bodyOf (aL 57 9)) (bA Q) (EB (some v0) (some v1) (some v2) (some (Value.none)) (some (Value.none)) (some (Value.none)) none none none) G):bH B (.ref 571) [v0,v1,v2] G (dn+1) (un+3) Q R :=
 bR X X.AK (binds:=[(("self":Str),v0),(("name":Str),v1),(("is_class":Str),v2),(("parent":Str),(Value.none)),(("outer":Str),(Value.none)),(("attached":Str),(Value.none))]) (fun zz zz zz zz zz zz zz zz zz Xs=>binds_K (k:=(kB _ _).1) Xs rfl X.CJ rfl (kB _ _).2 rfl) (by kernel_rfl!) (by kernel_rfl!) rfl rfl h
theorem SQ (X:Txt B.w B.K) {v0 v1 v2 v3:Value} {G:Gh} {dn un:Nat} {Q:Value→Gh→Prop} (h:∀ c,bB c→c.env.scope=aU (aL 57 9)→c.gl=pZ→bD c dn un→ws B c (bN R) pZ 60 (bodyOf (aL 57 9)) (bA Q) (EB (some v0) (some v1) (some v2) (some v3) (some (Value.none)) (some (Value.none)) none none none) G):bH B (.ref 571) [v0,v1,v2,v3] G (dn+1) (un+3) Q R :=
 bR X X.AK (binds:=[(("self":Str),v0),(("name":Str),v1),(("is_class":Str),v2),(("parent":Str),v3),(("outer":Str),(Value.none)),(("attached":Str),(Value.none))]) (fun zz zz zz zz zz zz zz zz zz Xs=>binds_K (k:=(kB _ _).1) Xs rfl X.CJ rfl (kB _ _).2 rfl) (by kernel_rfl!) (by kernel_rfl!) rfl rfl h
theorem SR (X:Txt B.w B.K) {v0 v1 v2 v3 v4 v5:Value} {G:Gh} {dn un:Nat} {Q:Value→Gh→Prop} (h:∀ c,bB c→c.env.scope=aU (aL 57 9)→c.gl=pZ→bD c dn un→ws B c (bN R) pZ 60 (bodyOf (aL 57 9)) (bA Q) (EB (some v0) (some v1) (some v2) (some v3) (some v4) (some v5) none none none) G):bH B (.ref 571) [v0,v1,v2,v3,v4,v5] G (dn+1) (un+3) Q R :=
 bR X X.AK (binds:=[(("self":Str),v0),(("name":Str),v1),(("is_class":Str),v2),(("parent":Str),v3),(("outer":Str),v4),(("attached":Str),v5)]) (fun zz zz zz zz zz zz zz zz zz Xs=>binds_K (k:=(kB _ _).1) Xs rfl X.CJ rfl (kB _ _).2 rfl) (by kernel_rfl!) (by kernel_rfl!) rfl rfl h
theorem SA (X:Txt B.w B.K) {v0 v1:Value} {G:Gh} {dn un:Nat} {Q:Value→Gh→Prop} (h:∀ c,bB c→c.env.scope=aU (aL 57 10)→c.gl=AX→bD c dn un→ws B c (bN R) AX 60 (bodyOf (aL 57 10)) (bA Q) (aj0 (some v0) (some v1)) G):bH B (.ref 578) [v0,v1] G (dn+1) (un+3) Q R :=
 bR X X.UY (binds:=[(("self":Str),v0),(("value":Str),v1)]) (fun zz zz zz zz zz zz zz zz zz Xs=>cC rfl) (by kernel_rfl!) (by kernel_rfl!) rfl rfl h
theorem SW (X:Txt B.w B.K) {v0 v1:Value} {G:Gh} {dn un:Nat} {Q:Value→Gh→Prop} (h:∀ c,bB c→c.env.scope=aU (aL 57 15)→c.gl=BA→bD c dn un→ws B c (bN R) BA 60 (bodyOf (aL 57 15)) (bA Q) (aj1 (some v0) (some v1)) G):bH B (.ref 613) [v0,v1] G (dn+1) (un+3) Q R :=
 bR X X.VC (binds:=[(("self":Str),v0),(("text":Str),v1)]) (fun zz zz zz zz zz zz zz zz zz Xs=>cC rfl) (by kernel_rfl!) (by kernel_rfl!) rfl rfl h
theorem SE (X:Txt B.w B.K) {v0 v1 v2:Value} {G:Gh} {dn un:Nat} {Q:Value→Gh→Prop} (h:∀ c,bB c→c.env.scope=aU (aL 57 27)→c.gl=AZ→bD c dn un→ws B c (bN R) AZ 60 (bodyOf (aL 57 27)) (bA Q) (O2 (some v0) (some v1) (some v2)) G):bH B (.ref 697) [v0,v1,v2] G (dn+1) (un+3) Q R :=
 bR X X.V0 (binds:=[(("self":Str),v0),(("name":Str),v1),(("message":Str),v2)]) (fun zz zz zz zz zz zz zz zz zz Xs=>cC rfl) (by kernel_rfl!) (by kernel_rfl!) rfl rfl h
theorem SG (X:Txt B.w B.K) {v0 v1 v2:Value} {G:Gh} {dn un:Nat} {Q:Value→Gh→Prop} (h:∀ c,bB c→c.env.scope=aU (aL 57 28)→c.gl=B0→bD c dn un→ws B c (bN R) B0 60 (bodyOf (aL 57 28)) (bA Q) (O2 (some v0) (some v1) (some v2)) G):bH B (.ref 704) [v0,v1,v2] G (dn+1) (un+3) Q R :=
 bR X X.V1 (binds:=[(("self":Str),v0),(("name":Str),v1),(("message":Str),v2)]) (fun zz zz zz zz zz zz zz zz zz Xs=>cC rfl) (by kernel_rfl!) (by kernel_rfl!) rfl rfl h
theorem SO (X:Txt B.w B.K) {v0 v1:Value} {G:Gh} {dn un:Nat} {Q:Value→Gh→Prop} (h:∀ c,bB c→c.env.scope=aU (aL 57 29)→c.gl=B6→bD c dn un→ws B c (bN R) B6 60 (bodyOf (aL 57 29)) (bA Q) (aj2 (some v0) (some v1) none) G):bH B (.ref 711) [v0,v1] G (dn+1) (un+3) Q R :=
 bR X X.V7 (binds:=[(("self":Str),v0),(("value":Str),v1)]) (fun zz zz zz zz zz zz zz zz zz Xs=>cC rfl) (by kernel_rfl!) (by kernel_rfl!) rfl rfl h
theorem SV (X:Txt B.w B.K) {v0 v1 v2:Value} {G:Gh} {dn un:Nat} {Q:Value→Gh→Prop} (h:∀ c,bB c→c.env.scope=aU (aL 57 32)→c.gl=B8→bD c dn un→ws B c (bN R) B8 60 (bodyOf (aL 57 32)) (bA Q) (EC (some v0) (some v1) (some v2)) G):bH B (.ref 732) [v0,v1,v2] G (dn+1) (un+3) Q R :=
 bR X X.V9 (binds:=[(("self":Str),v0),(("module":Str),v1),(("name":Str),v2)]) (fun zz zz zz zz zz zz zz zz zz Xs=>cC rfl) (by kernel_rfl!) (by kernel_rfl!) rfl rfl h
theorem SH (X:Txt B.w B.K) {v0 v1 v2:Value} {G:Gh} {dn un:Nat} {Q:Value→Gh→Prop} (h:∀ c,bB c→c.env.scope=aU (aL 57 33)→c.gl=w7→bD c dn un→ws B c (bN R) w7 60 (bodyOf (aL 57 33)) (bA Q) (yE (some v0) (some v1) (some v2) none none none none) G):bH B (.ref 739) [v0,v1,v2] G (dn+1) (un+3) Q R :=
 bR X X.V2 (binds:=[(("self":Str),v0),(("nesting":Str),v1),(("name":Str),v2)]) (fun zz zz zz zz zz zz zz zz zz Xs=>cC rfl) (by kernel_rfl!) (by kernel_rfl!) rfl rfl h
theorem SI (X:Txt B.w B.K) {v0 v1 v2:Value} {G:Gh} {dn un:Nat} {Q:Value→Gh→Prop} (h:∀ c,bB c→c.env.scope=aU (aL 57 35)→c.gl=B3→bD c dn un→ws B c (bN R) B3 60 (bodyOf (aL 57 35)) (bA Q) (O3 (some v0) (some v1) (some v2) none none none) G):bH B (.ref 753) [v0,v1,v2] G (dn+1) (un+3) Q R :=
 bR X X.V3 (binds:=[(("self":Str),v0),(("module":Str),v1),(("name":Str),v2)]) (fun zz zz zz zz zz zz zz zz zz Xs=>cC rfl) (by kernel_rfl!) (by kernel_rfl!) rfl rfl h
theorem SD (X:Txt B.w B.K) {v0 v1 v2:Value} {G:Gh} {dn un:Nat} {Q:Value→Gh→Prop} (h:∀ c,bB c→c.env.scope=aU (aL 57 36)→c.gl=AY→bD c dn un→ws B c (bN R) AY 60 (bodyOf (aL 57 36)) (bA Q) (aj4 (some v0) (some v1) (some v2) none none none) G):bH B (.ref 760) [v0,v1,v2] G (dn+1) (un+3) Q R :=
 bR X X.UZ (binds:=[(("self":Str),v0),(("module":Str),v1),(("name":Str),v2)]) (fun zz zz zz zz zz zz zz zz zz Xs=>cC rfl) (by kernel_rfl!) (by kernel_rfl!) rfl rfl h
theorem AB (X:Txt B.w B.K) {v0 v1 v2 v3:Value} {G:Gh} {dn un:Nat} {Q:Value→Gh→Prop} (h:∀ c,bB c→c.env.scope=aU (aL 57 37)→c.gl=B9→bD c dn un→ws B c (bN R) B9 60 (bodyOf (aL 57 37)) (bA Q) (aj5 (some v0) (some v1) (some v2) (some v3) none) G):bH B (.ref 767) [v0,v1,v2,v3] G (dn+1) (un+3) Q R :=
 bR X X.VB (binds:=[(("self":Str),v0),(("module":Str),v1),(("name":Str),v2),(("value":Str),v3)]) (fun zz zz zz zz zz zz zz zz zz Xs=>cC rfl) (by kernel_rfl!) (by kernel_rfl!) rfl rfl h
theorem T5 (X:Txt B.w B.K) {v0 v1:Value} {G:Gh} {dn un:Nat} {Q:Value→Gh→Prop} (h:∀ c,bB c→c.env.scope=aU (topS 58)→c.gl=BF→bD c dn un→ws B c (bN R) BF 60 (bodyOf (topS 58)) (bA Q) (O4 (some v0) (some v1)) G):bH B (.ref 781) [v0,v1] G (dn+1) (un+3) Q R :=
 bR X X.VH (binds:=[(("module":Str),v0),(("inner":Str),v1)]) (fun zz zz zz zz zz zz zz zz zz Xs=>cC rfl) (by kernel_rfl!) (by kernel_rfl!) rfl rfl h
theorem TN (X:Txt B.w B.K) {v0 v1:Value} {G:Gh} {dn un:Nat} {Q:Value→Gh→Prop} (h:∀ c,bB c→c.env.scope=aU (topS 60)→c.gl=BN→bD c dn un→ws B c (bN R) BN 60 (bodyOf (topS 60)) (bA Q) (aj6 (some v0) (some v1)) G):bH B (.ref 788) [v0,v1] G (dn+1) (un+3) Q R :=
 bR X X.VU (binds:=[(("box":Str),v0),(("many":Str),v1)]) (fun zz zz zz zz zz zz zz zz zz Xs=>cC rfl) (by kernel_rfl!) (by kernel_rfl!) rfl rfl h
theorem TF (X:Txt B.w B.K) {v0 v1:Value} {G:Gh} {dn un:Nat} {Q:Value→Gh→Prop} (h:∀ c,bB c→c.env.scope=aU (topS 61)→c.gl=wA→bD c dn un→ws B c (bN R) wA 60 (bodyOf (topS 61)) (bA Q) (yF (some v0) (some v1) none none none none none) G):bH B (.ref 793) [v0,v1] G (dn+1) (un+3) Q R :=
 bR X X.VN (binds:=[(("rows":Str),v0),(("at":Str),v1)]) (fun zz zz zz zz zz zz zz zz zz Xs=>cC rfl) (by kernel_rfl!) (by kernel_rfl!) rfl rfl h
theorem TQ (X:Txt B.w B.K) {v0 v1:Value} {G:Gh} {dn un:Nat} {Q:Value→Gh→Prop} (h:∀ c,bB c→c.env.scope=aU (topS 62)→c.gl=BP→bD c dn un→ws B c (bN R) BP 60 (bodyOf (topS 62)) (bA Q) (O5 (some v0) (some v1) none none none) G):bH B (.ref 800) [v0,v1] G (dn+1) (un+3) Q R :=
 bR X X.VW (binds:=[(("rows":Str),v0),(("some":Str),v1)]) (fun zz zz zz zz zz zz zz zz zz Xs=>cC rfl) (by kernel_rfl!) (by kernel_rfl!) rfl rfl h
theorem TL (X:Txt B.w B.K) {v0 v1 v2 v3:Value} {G:Gh} {dn un:Nat} {Q:Value→Gh→Prop} (h:∀ c,bB c→c.env.scope=aU (topS 63)→c.gl=BL→bD c dn un→ws B c (bN R) BL 60 (bodyOf (topS 63)) (bA Q) (aj7 (some v0) (some v1) (some v2) (some v3)) G):bH B (.ref 807) [v0,v1,v2,v3] G (dn+1) (un+3) Q R :=
 bR X X.VS (binds:=[(("thing":Str),v0),(("is_class":Str),v1),(("parent":Str),v2),(("path":Str),v3)]) (fun zz zz zz zz zz zz zz zz zz Xs=>cC rfl) (by kernel_rfl!) (by kernel_rfl!) rfl rfl h
theorem T9 (X:Txt B.w B.K) {v0:Value} {G:Gh} {dn un:Nat} {Q:Value→Gh→Prop} (h:∀ c,bB c→c.env.scope=aU (topS 64)→c.gl=rJ→bD c dn un→ws B c (bN R) rJ 60 (bodyOf (topS 64)) (bA Q) (yG (some v0) none) G):bH B (.ref 814) [v0] G (dn+1) (un+3) Q R :=
 bR X X.VL (binds:=[(("world":Str),v0)]) (fun zz zz zz zz zz zz zz zz zz Xs=>cC rfl) (by kernel_rfl!) (by kernel_rfl!) rfl rfl h
theorem TA (X:Txt B.w B.K) {v0 v1 v2:Value} {G:Gh} {dn un:Nat} {Q:Value→Gh→Prop} (h:∀ c,bB c→c.env.scope=aU (topS 65)→c.gl=BI→bD c dn un→ws B c (bN R) BI 60 (bodyOf (topS 65)) (bA Q) (O6 (some v0) (some v1) (some v2) none) G):bH B (.ref 821) [v0,v1,v2] G (dn+1) (un+3) Q R :=
 bR X X.VM (binds:=[(("rows":Str),v0),(("spots":Str),v1),(("sign":Str),v2)]) (fun zz zz zz zz zz zz zz zz zz Xs=>cC rfl) (by kernel_rfl!) (by kernel_rfl!) rfl rfl h
theorem TM (X:Txt B.w B.K) {v0 v1 v2:Value} {G:Gh} {dn un:Nat} {Q:Value→Gh→Prop} (h:∀ c,bB c→c.env.scope=aU (topS 66)→c.gl=wB→bD c dn un→ws B c (bN R) wB 60 (bodyOf (topS 66)) (bA Q) (O7 (some v0) (some v1) (some v2) none none) G):bH B (.ref 826) [v0,v1,v2] G (dn+1) (un+3) Q R :=
 bR X X.VT (binds:=[(("rows":Str),v0),(("nesting":Str),v1),(("sign":Str),v2)]) (fun zz zz zz zz zz zz zz zz zz Xs=>cC rfl) (by kernel_rfl!) (by kernel_rfl!) rfl rfl h
theorem T8 (X:Txt B.w B.K) {v0 v1 v2:Value} {G:Gh} {dn un:Nat} {Q:Value→Gh→Prop} (h:∀ c,bB c→c.env.scope=aU (topS 67)→c.gl=BH→bD c dn un→ws B c (bN R) BH 60 (bodyOf (topS 67)) (bA Q) (O8 (some v0) (some v1) (some v2) none) G):bH B (.ref 833) [v0,v1,v2] G (dn+1) (un+3) Q R :=
 bR X X.VK (binds:=[(("rows":Str),v0),(("at":Str),v1),(("sign":Str),v2)]) (fun zz zz zz zz zz zz zz zz zz Xs=>cC rfl) (by kernel_rfl!) (by kernel_rfl!) rfl rfl h
theorem TP (X:Txt B.w B.K) {v0 v1:Value} {G:Gh} {dn un:Nat} {Q:Value→Gh→Prop} (h:∀ c,bB c→c.env.scope=aU (topS 68)→c.gl=BO→bD c dn un→ws B c (bN R) BO 60 (bodyOf (topS 68)) (bA Q) (aj9 (some v0) (some v1)) G):bH B (.ref 840) [v0,v1] G (dn+1) (un+3) Q R :=
 bR X X.VV (binds:=[(("rows":Str),v0),(("held":Str),v1)]) (fun zz zz zz zz zz zz zz zz zz Xs=>cC rfl) (by kernel_rfl!) (by kernel_rfl!) rfl rfl h
theorem T7 (X:Txt B.w B.K) {v0 v1 v2:Value} {G:Gh} {dn un:Nat} {Q:Value→Gh→Prop} (h:∀ c,bB c→c.env.scope=aU (topS 69)→c.gl=BG→bD c dn un→ws B c (bN R) BG 60 (bodyOf (topS 69)) (bA Q) (ajA (some v0) (some v1) (some v2)) G):bH B (.ref 847) [v0,v1,v2] G (dn+1) (un+3) Q R :=
 bR X X.VJ (binds:=[(("rows":Str),v0),(("found":Str),v1),(("held":Str),v2)]) (fun zz zz zz zz zz zz zz zz zz Xs=>cC rfl) (by kernel_rfl!) (by kernel_rfl!) rfl rfl h
theorem TH (X:Txt B.w B.K) {v0 v1 v2 v3:Value} {G:Gh} {dn un:Nat} {Q:Value→Gh→Prop} (h:∀ c,bB c→c.env.scope=aU (topS 70)→c.gl=q7→bD c dn un→ws B c (bN R) q7 60 (bodyOf (topS 70)) (bA Q) (uZ (some v0) (some v1) (some v2) (some v3) none none none none none none none none none) G):bH B (.ref 852) [v0,v1,v2,v3] G (dn+1) (un+3) Q R :=
 bR X X.VP (binds:=[(("box":Str),v0),(("world":Str),v1),(("rows":Str),v2),(("nesting":Str),v3)]) (fun zz zz zz zz zz zz zz zz zz Xs=>cC rfl) (by kernel_rfl!) (by kernel_rfl!) rfl rfl h
theorem TG (X:Txt B.w B.K) {v0 v1 v2 v3:Value} {G:Gh} {dn un:Nat} {Q:Value→Gh→Prop} (h:∀ c,bB c→c.env.scope=aU (topS 71)→c.gl=BJ→bD c dn un→ws B c (bN R) BJ 60 (bodyOf (topS 71)) (bA Q) (O9 (some v0) (some v1) (some v2) (some v3) none none none none none) G):bH B (.ref 857) [v0,v1,v2,v3] G (dn+1) (un+3) Q R :=
 bR X X.VO (binds:=[(("box":Str),v0),(("world":Str),v1),(("rows":Str),v2),(("spot":Str),v3)]) (fun zz zz zz zz zz zz zz zz zz Xs=>cC rfl) (by kernel_rfl!) (by kernel_rfl!) rfl rfl h
theorem TJ (X:Txt B.w B.K) {v0 v1 v2 v3:Value} {G:Gh} {dn un:Nat} {Q:Value→Gh→Prop} (h:∀ c,bB c→c.env.scope=aU (topS 72)→c.gl=BK→bD c dn un→ws B c (bN R) BK 60 (bodyOf (topS 72)) (bA Q) (OA (some v0) (some v1) (some v2) (some v3) none none none none none none none) G):bH B (.ref 862) [v0,v1,v2,v3] G (dn+1) (un+3) Q R :=
 bR X X.VR (binds:=[(("box":Str),v0),(("world":Str),v1),(("rows":Str),v2),(("nesting":Str),v3)]) (fun zz zz zz zz zz zz zz zz zz Xs=>cC rfl) (by kernel_rfl!) (by kernel_rfl!) rfl rfl h
theorem T6 (X:Txt B.w B.K) {v0:Value} {G:Gh} {dn un:Nat} {Q:Value→Gh→Prop} (h:∀ c,bB c→c.env.scope=aU (topS 73)→c.gl=eN→bD c dn un→ws B c (bN R) eN 60 (bodyOf (topS 73)) (bA Q) (sP (some v0) none none none none none none none none none none none none) G):bH B (.ref 867) [v0] G (dn+1) (un+3) Q R :=
 bR X X.VI (binds:=[(("script":Str),v0)]) (fun zz zz zz zz zz zz zz zz zz Xs=>cC rfl) (by kernel_rfl!) (by kernel_rfl!) rfl rfl h
end
theorem q9 {T:List Nat} {G G':Gh} {b:Addr} {x:GO} (k:aD T G G') (h:G b=some x) (ht:T.contains x.tag.1=false):G' b=some x:=k b x h ht
noncomputable def fW (x:Addr) (G G':Gh):Prop:=∀ b y,b≠x→G b=some y→G' b=some y
theorem fW.refl (x:Addr) (G:Gh):fW x G G:=fun zz zz zz h=>h
theorem fW.turn {x:Addr} {G G':Gh} {y:GO} (k:fW x G G'):fW x G (upd G' x y):=fun b z e h=>by exact sb (bF e) (k b z e h)
theorem fW.fresh {x a:Addr} {G G':Gh} {y:GO} (k:fW x G G') (h:G' a=none):fW x G (upd G' a y):=fun b z e hb=>bG (k b z e hb) h
theorem fW.keep {x:Addr} {G G':Gh} {y:GO} (k:fW x (upd G x y) G') (h:G x=none):aD [] G G':=fun b z hb zz=>by
 have e:b≠x:=fun e=>by rw [e,h] at hb; exact bM hb
 exact k b z e (by exact sb (bF e) hb)
theorem nL {G:Gh} {x d:Addr} {y:GO} (h:upd G x y d=none):d≠x∧G d=none:=by
 have n:d≠x:=fun e=>by rw [e,aI] at h; exact dK h
 exact ⟨n,by rwa [bF n] at h⟩
section
variable {B:Bn} {c:Cx} {R:Addr→aA→Gh→Prop} {gl:List (Str×Value)} {m m':aA} {G G':Gh}
theorem bD.of {c':Cx} {d u:Nat} (hA:c'.A=c.A) (h:bD c d u):bD c' d u:=by unfold bD at *; exact sb hA h
theorem fQ (X:Txt B.w B.K) (hg:c.gl=gl) {e:Expr} {Q:Value→aA→Gh→Prop} (h:wk B c R gl 60 (.E e Q) m G):V B c R (eval e c.env) m G Q:=gI X hg _ _ _ _ h
theorem qL (X:Txt B.w B.K) (hg:c.gl=gl) {e:Expr} {Q:Bool→aA→Gh→Prop} (h:wk B c R gl 60 (.T e Q) m G):V B c R (isTrue e c.env (eval e c.env)) m G Q:=gI X hg _ _ _ _ h
theorem gG (X:Txt B.w B.K) (oo:bB c) (hg:c.gl=gl) {b:List Stmt} {Q:Flow→aA→Gh→Prop} (h:ws B c R gl 60 b Q m G):V B c R (execs b c.env) m G Q:=yH X oo hg _ _ _ _ _ h
noncomputable def putAll:aA→List Str→List Value→Option aA
 | m,[],[]=>some m
 | m,x::xs,v::vs=>(match (m.lookup x).isSome with
  | true=>putAll (kK m x v) xs vs
  | false=>none)
 | _,_,_=>none
theorem LB {x:Str} {xs:List Str} {v:Value} {vs:List Value} (h:putAll m (x::xs) (v::vs)=some m'):(m.lookup x).isSome=true∧putAll (kK m x v) xs vs=some m':=by
 have h:(match (m.lookup x).isSome with
  | true=>putAll (kK m x v) xs vs
  | false=>none)=some m':=h
 cases e:(m.lookup x).isSome with
 | true=>rw [e] at h; exact ⟨rfl,h⟩
 | false=>rw [e] at h; exact bM h
theorem N8 {Q:Unit→aA→Gh→Prop} (oo:bB c):∀ {names:List Str} {vs:List Value} {m m':aA},putAll m names vs=some m'→Q () m' G→V B c R (assignInOrder (names.map fun n=>bindName c.env n) vs) m G Q
 | [],[],_,_,h,q=>by cases h; exact NO q
 | x::xs,v::vs,_,_,h,q=>by
  obtain ⟨h1,h2⟩:=LB h
  exact NN (agR (iQ oo h1 (N8 oo h2 q)))
 | [],_::_,_,_,h,_=>by cases h
 | _::_,[],_,_,h,_=>by cases h
noncomputable def namesOf:List Expr→Option (List Str)
 | []=>some []
 | .Name x _::es=>(namesOf es).map (x::·)
 | _=>none
theorem aaD {env:Env} (es:List Expr):∀ {names:List Str},namesOf es=some names→(assignEach es env).length=names.length∧(assignEach es env).findIdx? (·.1)=none∧∀ {Q:Unit→aA→Gh→Prop} {vs:List Value} {m m':aA} {G:Gh},c.env=env→bB c→putAll m names vs=some m'→Q () m' G→V B c R (assignInOrder ((assignEach es env).map (·.2)) vs) m G Q:=by
 induction es with
 | nil =>
  intro names h
  cases h
  refine ⟨rfl,rfl,fun {_} {vs} _ _ _ _ _ hp q=>?_⟩
  induction vs using List.casesOn with
  | nil=>cases hp; exact NO q
  | cons=>cases hp
 | cons e es ih =>
  intro names h
  induction e using Expr.casesOn with
  | Name x p =>
   have h:(namesOf es).map (x::·)=some names:=h
   refine aV (mX.mp h) fun ns hn zq5=>?_
   subst zq5
   refine dC (ih hn) fun h1 h2 h3=>?_
   refine ⟨congrArg (·+1) h1,?_,fun {Q} {vs} {m} {m'} {G} he oo hp q=>?_⟩
   ·show (((false,assign (.Name x p) env):Bool×(Value→Sem Unit))::assignEach es env).findIdx? (·.1)=none
    refine sb List.findIdx?_cons (sb h2 ?_); rfl
   ·induction vs using List.casesOn with
    | nil=>cases hp
    | cons v vs =>
     obtain ⟨p1,p2⟩:=LB hp
     show V B c R (assignInOrder (assign (.Name x p) env::(assignEach es env).map (·.2)) (v::vs)) m G Q
     refine NN ?_
     refine aY he ?_
     refine jT (iQ oo p1 ?_)
     refine sb he ?_
     exact h3 he oo p2 q
  | _=>exact bM h
theorem aiF {elts:List Expr} {k:Nat} {pos:Pos} {t:Addr} {tg:Tag} {xs:List Value} {Q:Unit→aA→Gh→Prop} (oo:bB c) (names:List Str) (hn:namesOf elts=some names) (hG:G t=some ⟨tg,.tup xs⟩) (hl:names.length=xs.length) (hp:putAll m names xs=some m') (h:Q () m' G):V B c R (assign (.Tuple elts k pos) c.env (.ref t)) m G Q:=by
 refine dC (aaD (B:=B) (c:=c) (R:=R) (env:=c.env) elts hn) fun h1 h2 h3=>?_
 exact aiD hG (h1.trans hl) h2 (h3 rfl oo hp h)
inductive gQ (names:List Str) (Q:Flow→aA→Gh→Prop):Value→aA→Gh→Prop
 | mk {t:Addr} {tg:Tag} {xs:List Value} {m m':aA} {G:Gh} (hG:G t=some ⟨tg,.tup xs⟩) (hl:names.length=xs.length) (hp:putAll m names.reverse xs.reverse=some m') (h:Q .next m' G):gQ names Q (.ref t) m G
inductive qY (names:List Str) (Q:Flow→aA→Gh→Prop):Value→aA→Gh→Prop
 | mk {t:Addr} {tg:Tag} {xs:List Value} {m m':aA} {G:Gh} (hG:G t=some ⟨tg,.tup xs⟩) (hl:names.length=xs.length) (hp:putAll m names xs=some m') (h:Q .next m' G):qY names Q (.ref t) m G
theorem iZ {elts:List Expr} {k:Nat} {tpos pos:Pos} {value:Expr} {osc:Scope} {Q:Flow→aA→Gh→Prop} (X:Txt B.w B.K) (oo:bB c) (hg:c.gl=gl) (hsc:c.env.scope=osc) (names:List Str)
  (hs:swapsWithSole [.Tuple elts k tpos] value pos.line (i9 osc)=pure false) (hw:swappedStores [.Tuple elts k tpos] value (i9 osc)=pure (some names))
  (h:wk B c R gl 60 (.E value (gQ names Q)) m G):V B c R (exec (.Assign [.Tuple elts k tpos] value pos) c.env) m G Q :=
 aiB hsc ((fQ X hg h).mono fun v m G h=>by
  cases h with
  | mk h1 h2 h3 h4=>exact aiE h1 h2 (N8 oo h3 h4)) hs hw
theorem EG {elts:List Expr} {k:Nat} {tpos pos:Pos} {value:Expr} {osc:Scope} {Q:Flow→aA→Gh→Prop} (X:Txt B.w B.K) (oo:bB c) (hg:c.gl=gl) (hsc:c.env.scope=osc) (names:List Str)
  (hs:swapsWithSole [.Tuple elts k tpos] value pos.line (i9 osc)=pure false) (hw:swappedStores [.Tuple elts k tpos] value (i9 osc)=pure none) (hn:namesOf elts=some names)
  (h:wk B c R gl 60 (.E value (qY names Q)) m G):V B c R (exec (.Assign [.Tuple elts k tpos] value pos) c.env) m G Q :=
 aiA hsc ((fQ X hg h).mono fun v m G h=>by
  cases h with
  | mk h1 h2 h3 h4=>exact aiF oo names hn h1 h2 h3 h4) hs hw
noncomputable def dX (m:aA) (names:List (Str×NameKind)):aA:=names.filterMap fun y=>if y.2==.free then (m.lookup y.1).map (fun ov=>(y.1,ov)) else none
noncomputable def fY (gl:List (Str×Value)) (names:List (Str×NameKind)):List (Str×Value):=gl.filter fun y=>names.lookup y.1==some .globalImplicit
noncomputable def rC (m:aA) (osc scope:Scope) (x:Str):Bool :=
 scope.kind==.function&&(scope.names.all fun y=>!(y.1==("__debug__":Str))&&!(y.1==("__classdict__":Str))&&!(y.2==.cell)&&(!(y.2==.local)||scope.names.lookup y.1==some .local)&&(!(y.2==.free)||(scope.names.lookup y.1==some .free&&(dX m scope.names).any (·.1==y.1)))) &&
 (scope.names.lookup x==some .local)&&((dX m scope.names).all fun y=>!(y.1==x))&&((dX m scope.names).all fun y=>scope.names.lookup y.1==some .free&&osc.names.lookup y.1==some .cell)&&decide ((dX m scope.names).map (·.1)).Nodup
theorem HC {osc:Scope} {names:List (Str×NameKind)}:∀ {l:aA},(∀ y∈l,y∈m)→(l.all fun y=>names.lookup y.1==some .free&&osc.names.lookup y.1==some .cell)=true→kX m osc names l
 | [],_,_=>.nil
 | (x,ov)::l,hm,h=>by
  rw [qM,jD,jD] at h
  obtain ⟨⟨h1,h2⟩,h3⟩:=h
  exact .free (by simpa using h1) (by simpa using h2) (hm _ c8) (HC (fun y hy=>hm y (cL _ hy)) h3)
theorem w3 {osc scope:Scope} {x:Str} (h:rC m osc scope x=true) (hg:c.gl=gl) (hsc:c.env.scope=osc):jH c m osc (dX m scope.names) (fY gl scope.names) x scope:=by
 unfold rC at h
 simp only [jD] at h
 obtain ⟨⟨⟨⟨⟨h1,h2⟩,h3⟩,h4⟩,h5⟩,h6⟩:=h
 refine ⟨hsc,by exact of_decide_eq_true ‹_›,h2,by simpa using h3,h4,HC (fun y hy=>?_) h5,of_decide_eq_true h6,fun y v hy=>?_⟩
 ·unfold dX at hy
  rw [List.mem_filterMap] at hy
  refine aV hy fun z hz e=>?_
  split at e
  ·cases hl:m.lookup z.1 with
   | none=>rw [hl] at e; cases e
   | some ov=>rw [hl] at e; cases e; exact lookup_mem hl
  ·exact bM e
 ·unfold fY at hy
  rw [eZ] at hy
  exact ⟨by simpa using hy.2,hg▸hy.1⟩
structure pO (B:Bn) (c:Cx) (xv:Value) (n:Nat) (P:Nat→Value→Prop) (T:List Nat) (m:aA) (G:Gh):Prop where
 run:B.Ok c→∀ s,B.St c s m G→∃ It Src,jZ B.prog B.w B.K B.p B.loose B.mean B.mg B.mb c xv n It Src P m G s∧∀ G',aD T G G'→Src G'
theorem pO.list {l:Addr} {t:Tag} {xs:List Value} {T:List Nat} (hG:G l=some ⟨t,.list xs⟩) (ht:T.contains t.1=false):pO B c (.ref l) xs.length (fun k v=>xs[k]?=some v) T m G :=
 ⟨fun ok s S=>⟨_,_,IK ok S hG,fun G' k=>k _ _ hG ht⟩⟩
theorem pO.tup {l:Addr} {t:Tag} {xs:List Value} {T:List Nat} (hG:G l=some ⟨t,.tup xs⟩) (ht:T.contains t.1=false):pO B c (.ref l) xs.length (fun k v=>xs[k]?=some v) T m G :=
 ⟨fun ok s S=>⟨_,_,XI ok S hG,fun G' k=>k _ _ hG ht⟩⟩
theorem pO.CC {l:Addr} {xs:List Value} {T:List Nat} (hl:∀ h:Heap,B.K.In h→IsTup h l xs.toArray):pO B c (.ref l) xs.length (fun k v=>xs[k]?=some v) T m G :=
 ⟨fun ok s S=>⟨_,_,XG ok S hl,fun G' k=>trivial⟩⟩
noncomputable def uT (B:Bn) (c:Cx) (gl:List (Str×Value)) (ifs:List Expr) (Q:Bool→aA→Gh→Prop) (m:aA) (G:Gh):Prop:=match ifs with
 | []=>Q true m G
 | [t]=>wk B c bJ gl 60 (.T t Q) m G
 | _=>False
theorem MX (X:Txt B.w B.K) (hg:c.gl=gl) {ifs:List Expr} {Q:Bool→aA→Gh→Prop} (h:uT B c gl ifs Q m G):V B c bJ (qG ifs c.env) m G Q:=by
 unfold uT at h
 split at h
 ·exact MZ h
 ·exact agG (qL X hg h)
 ·exact h.elim
inductive fV (B:Bn) (c:Cx) (gl:List (Str×Value)) (m:aA) (x:Str) (ifs:List Expr) (elt:Expr) (scope:Scope) (tg:Tag) (xv:Value) (m₁:aA) (G₁:Gh) (Q:Value→Gh→Prop):Prop
 | mk (e:m₁=m) (n:Nat) (P:Nat→Value→Prop) (pr:Value→Bool) (F:Value→Value→Gh→Prop) (T:List Nat) (Inv:Nat→List Value→Gh→Prop) (hn:n≤100000) (hT:T.contains 9=false) (hI:pO B c xv n P T m G₁) (mono:∀ v y G G',F v y G→fJ G G'→F v y G') (wW:∀ v y G G',F v y G→aD T G G'→F v y G')
  (i0:Inv 0 [] G₁) (inv:∀ i ys G G',Inv i ys G→fJ G G'→Inv i ys G') (skip:∀ i ys v G,Inv i ys G→P i v→pr v=false→Inv (i+1) ys G)
  (ht:∀ c' k v G' ys,c'.A=c.A→c'.gl=fY gl scope.names→P k v→aD T G₁ G'→Inv k ys G'→V B c' bJ (qG ifs c'.env) ((x,some v)::dX m scope.names) G' (fun b m₂ G₂=>m₂=(x,some v)::dX m scope.names∧b=pr v∧aD [] G' G₂))
  (he:∀ c' k v G' ys,c'.A=c.A→c'.gl=fY gl scope.names→P k v→pr v=true→aD T G₁ G'→Inv k ys G'→V B c' bJ (eval elt c'.env) ((x,some v)::dX m scope.names) G' fun y m₂ G₂=>m₂=(x,some v)::dX m scope.names∧aD T G' G₂∧F v y G₂∧Inv (k+1) (ys++[y]) G₂)
  (hq:∀ D (vs ys:List Value) G',G₁ D=none→aD T G₁ G'→Inv n ys G'→G' D=some ⟨tg,.list ys⟩→vs.length=n→(∀ j v,vs[j]?=some v→P j v)→Paired (fun v y=>F v y G') (vs.filter pr) ys→Q (.ref D) G')
theorem fV.at {x:Str} {ifs:List Expr} {elt:Expr} {scope:Scope} {tg:Tag} {xv:Value} {m₁:aA} {G₁:Gh} {Q:Value→Gh→Prop} {QQ:Addr→aA→Gh→Shared→Prop} {s:Shared} (h:fV B c gl m x ifs elt scope tg xv m₁ G₁ Q) (ok:B.Ok c) (S:B.St c s m₁ G₁)
  (fin:∀ D s' ys G',G' D=some ⟨(9,0),.list ys⟩→B.St c s' m G'→Q (.ref D) (upd G' D ⟨tg,.list ys⟩)→QQ D m G' s') :
  tH B.prog B.w B.K B.p B.loose B.mean B.mg B.mb c m (dX m scope.names) (fY gl scope.names) x ifs elt scope QQ xv s:=by
 obtain ⟨rfl,n,P,pr,F,T,Inv,hn,hT,hI,mono,wW,i0,inv,skip,ht,he,hq⟩:=h
 refine cN (hI.run ok s S) fun It Src hIt hSrc=>?_
 refine HB pr F T Inv S hIt (fun zz zz G' k zz=>hSrc G' k) i0 ⟨hn,hT,mono,wW,inv,skip,fun c' C k v s' G' ys ok' hA hg he' hv hk hi S'=>?_,fun c' C k v s' G' ys ok' hA hg he' hv hp hk hi S'=>?_⟩ fun D s' vs ys G' hD hk hi hD' hl hP hF S'=>?_
 ·refine aY hA ?_
  refine (ht c' k v G' ys hA hg hv hk hi).goN ok' S' fun b s2 m2 G2 S2 q=>?_
  refine dC q fun zq2 hb hk2=>?_
  subst zq2
  exact ⟨hb,G2,S2,hk2⟩
 ·refine aY hA ?_
  refine (he c' k v G' ys hA hg hv hp hk hi).goN ok' S' fun y s2 m2 G2 S2 q=>?_
  refine dC q fun zq1 hk2 hf=>?_
  subst zq1
  exact ⟨G2,S2,hk2,hf⟩
 ·exact fin D s' ys G' hD' S' (hq D vs ys _ hD (hk.new hD) (inv _ _ _ _ hi (.upd hD' rfl)) (aI _ _ _) hl hP (s8 (fun a b hf=>mono a b _ _ hf (.upd hD' rfl)) hF))
theorem nQ {elt iter:Expr} {px pos:Pos} {ifs:List Expr} {x:Str} {scope osc:Scope} {Q:Value→aA→Gh→Prop} (X:Txt B.w B.K) (oo:bB c) (hg:c.gl=gl) (hsc:c.env.scope=osc) (tg:Tag) (chk:rC m osc scope x=true) (hs:isSet iter=false)
  (h:wk B c R gl 60 (.E iter fun xv m₁ G₁=>fV B c gl m x ifs elt scope tg xv m₁ G₁ fun v G=>Q v m G) m G):V B c R (eval (.ListComp elt [⟨.Name x px,iter,ifs,0⟩] scope pos) c.env) m G Q :=
 ⟨fun ok s S=>aeG ok oo S (w3 chk hg hsc) ((fQ X hg h).go ok S fun xv s1 m1 G1 S1 q=>q.at ok S1 fun D s' ys G' hD' S' q=>⟨_,_,S'.qE tg hD',q⟩) (sA hs)⟩
theorem EF {elt iter:Expr} {px py pos spos:Pos} {ifs:List Expr} {x y:Str} {scope osc:Scope} {Q:Flow→aA→Gh→Prop} (X:Txt B.w B.K) (oo:bB c) (hg:c.gl=gl) (hsc:c.env.scope=osc) (tg:Tag) (chk:rC m osc scope x=true) (hs:isSet iter=false) (hy:(m.lookup y).isSome=true)
  (hsw:swapsWith (.ListComp elt [⟨.Name x px,iter,ifs,0⟩] scope pos) (some (.Name y py)) spos.line (i9 osc)=pure true)
  (h:wk B c R gl 60 (.E iter fun xv m₁ G₁=>fV B c gl m x ifs elt scope tg xv m₁ G₁ fun v G=>Q .next (kK m y v) G) m G):V B c R (exec (.Assign [.Name y py] (.ListComp elt [⟨.Name x px,iter,ifs,0⟩] scope pos) spos) c.env) m G Q :=
 ⟨fun ok s S=>LG ok oo S (w3 chk hg hsc) ((xU hsc).trans hsw) ((fQ X hg h).go ok S fun xv s1 m1 G1 S1 q=>q.at ok S1 fun D s' ys G' hD' S' q =>
  ⟨_,xP hy,fun s'' S''=>⟨_,_,S''.qE tg hD',q⟩⟩) (sA hs)⟩
theorem aaT {vs xs:List Value} (hl:vs.length=xs.length) (hP:∀ (j:Nat) v,vs[j]?=some v→xs[j]?=some v):vs=xs:=by
 refine List.ext_getElem? fun j=>?_
 cases hj:vs[j]? with
 | some v=>exact (hP j v hj).symm
 | none=>rw [List.getElem?_eq_none_iff] at hj; exact (EY (by exact aG (b5 hl.symm) hj)).symm
theorem fV.list {x:Str} {ifs:List Expr} {elt:Expr} {scope:Scope} {tg:Tag} {Q:Value→Gh→Prop} {l:Addr} {t:Tag} {xs:List Value} (X:Txt B.w B.K) (pr:Value→Bool) (F:Value→Value→Gh→Prop) (hG:G l=some ⟨t,.list xs⟩) (hz:xs.length≤100000) (mono:∀ v y G G',F v y G→fJ G G'→F v y G')
  (ht:∀ c' v G',c'.A=c.A→c'.gl=fY gl scope.names→v∈xs→aD [] G G'→uT B c' (fY gl scope.names) ifs (fun b m₂ G₂=>m₂=(x,some v)::dX m scope.names∧b=pr v∧aD [] G' G₂) ((x,some v)::dX m scope.names) G')
  (he:∀ c' v G',c'.A=c.A→c'.gl=fY gl scope.names→v∈xs→pr v=true→aD [] G G'→wk B c' bJ (fY gl scope.names) 60 (.E elt fun y m₂ G₂=>m₂=(x,some v)::dX m scope.names∧aD [] G' G₂∧F v y G₂) ((x,some v)::dX m scope.names) G')
  (hq:∀ D (ys:List Value) G',G D=none→aD [] G G'→G' D=some ⟨tg,.list ys⟩→Paired (fun v y=>F v y G') (xs.filter pr) ys→Q (.ref D) G'):fV B c gl m x ifs elt scope tg (.ref l) m G Q :=
 ⟨rfl,xs.length,_,pr,F,[],fun zz zz zz=>True,hz,rfl,.list hG rfl,mono,fun v y G G' h k=>mono v y G G' h (.of k),trivial,fun zz zz zz zz zz zz=>trivial,fun zz zz zz zz zz zz zz=>trivial,
  fun c' k v G' ys hA hg hv hk zz=>MX X hg (ht c' v G' hA hg (cE hv) hk),fun c' k v G' ys hA hg hv hp hk zz=>(fQ X hg (he c' v G' hA hg (cE hv) hp hk)).mono fun y m' G' h=>⟨h.1,h.2.1,h.2.2,trivial⟩,fun D vs ys G' hD hk zz hD' hl hP hF=>by
  obtain rfl:=aaT hl hP
  exact hq D ys G' hD hk hD' hF⟩
theorem adE {f:Value→Value} {vs ys:List Value} (H:Paired (fun v y=>y=f v) vs ys):ys=vs.map f:=by
 induction H with
 | nil=>rfl
 | cons e _ ih=>refine sb e (sb ih ?_); rfl
theorem fV.pure {x:Str} {ifs:List Expr} {elt:Expr} {scope:Scope} {tg:Tag} {Q:Value→Gh→Prop} {l:Addr} {t:Tag} {xs:List Value} (X:Txt B.w B.K) (pr:Value→Bool) (f:Value→Value) (hG:G l=some ⟨t,.list xs⟩) (hz:xs.length≤100000)
  (ht:∀ c' v G',c'.A=c.A→c'.gl=fY gl scope.names→v∈xs→aD [] G G'→uT B c' (fY gl scope.names) ifs (fun b m₂ G₂=>m₂=(x,some v)::dX m scope.names∧b=pr v∧aD [] G' G₂) ((x,some v)::dX m scope.names) G')
  (he:∀ c' v G',c'.A=c.A→c'.gl=fY gl scope.names→v∈xs→pr v=true→aD [] G G'→wk B c' bJ (fY gl scope.names) 60 (.E elt fun y m₂ G₂=>m₂=(x,some v)::dX m scope.names∧aD [] G' G₂∧y=f v) ((x,some v)::dX m scope.names) G')
  (hq:∀ D G',G D=none→aD [] G G'→G' D=some ⟨tg,.list ((xs.filter pr).map f)⟩→Q (.ref D) G'):fV B c gl m x ifs elt scope tg (.ref l) m G Q :=
 .list X pr (fun v y zz=>y=f v) hG hz (fun zz zz zz zz h zz=>h) ht he fun D ys G' hD hk hD' hp=>by
  rw [adE hp] at hD'; exact hq D G' hD hk hD'
inductive zH (B:Bn) (gl':List (Str×Value)) (A:Around) (x:Str) (kx vx:Expr) (fr m:aA) (tg:Tag) (fk:Value→Int) (Q:Value→aA→Gh→Prop):Value→aA→Gh→Prop
 | mk {l:Addr} {t:Tag} {xs:List Value} {G₁:Gh} (hl:G₁ l=some ⟨t,.list xs⟩) (hlen:xs.length≤100000)
   (he:∀ c' v G',c'.A=A→c'.gl=gl'→v∈xs→aD [] G₁ G'→wk B c' bJ gl' 60 (.E kx fun kv m₂ G₂=>wk B c' bJ gl' 60 (.E vx fun zz m₃ G₃=>m₃=(x,some v)::fr∧(∃ u,kv=.int (fk v) u)∧aD [] G' G₃) m₂ G₂) ((x,some v)::fr) G')
   (hq:∀ D es G',G₁ D=none→aD [] G₁ G'→G' D=some ⟨tg,.cR es⟩→(∀ j,(valueAt es j).isSome=(xs.map fk).contains j)→Q (.ref D) m G'):zH B gl' A x kx vx fr m tg fk Q (.ref l) m G₁
theorem ajD {kx vx iter:Expr} {px pos:Pos} {x:Str} {scope osc:Scope} {Q:Value→aA→Gh→Prop} (X:Txt B.w B.K) (oo:bB c) (hg:c.gl=gl) (hsc:c.env.scope=osc) (tg:Tag) (fk:Value→Int) (chk:rC m osc scope x=true) (hs:isSet iter=false)
  (h:wk B c R gl 60 (.E iter (zH B (fY gl scope.names) c.A x kx vx (dX m scope.names) m tg fk Q)) m G):V B c R (eval (.DictComp kx vx [⟨.Name x px,iter,[],0⟩] scope pos) c.env) m G Q:=⟨fun ok s S=>by
 refine adS (QQ:=fun D G' s'=>B.St c s' m G'∧Q (.ref D) m G') tg fk ok oo (w3 chk hg hsc) S ((fQ X hg h).go ok S fun xv s1 m1 G1 S1 q=>?_) (fun D G' s' h=>⟨_,_,h.1,h.2⟩) (sA hs)
 cases q with
 | @mk l t xs _ hl hlen he hq =>
  refine .mk l t xs _ rfl S1 hl hlen (fun c' k v s' G' ok' hA hg' hv hk S'=>?_) fun D s' es G' hD hk hD' hes S'=>⟨S',hq D es G' hD hk hD' hes⟩
  refine aY hA ?_
  refine (fQ X hg' (he c' v G' hA hg' (cE hv) hk)).goN ok' S' fun kv s2 m2 G2 S2 q=>(fQ X hg' q).goN ok' S2 fun vv s3 m3 G3 S3 q=>?_
  obtain ⟨rfl,⟨u,hu⟩,hk2⟩:=q
  exact ⟨u,G3,hu,S3,hk2⟩⟩
end
section
variable {B:Bn} {c:Cx} {R:Addr→aA→Gh→Prop} {gl:List (Str×Value)} {m m':aA} {G G':Gh}
theorem ai2 {α:Type} {x:Sem α} {Q:α→aA→Gh→Prop} {a:Addr} {t0:Tag} {k:GK} (t:Tag) (hG:G a=some ⟨t0,k⟩) (h:V B c R x m (upd G a ⟨t,k⟩) Q):V B c R x m G Q:=⟨fun ok s S=>h.run ok s (S.qE t hG)⟩
theorem pB {C fI:Addr} {vs:List Value} {dn un d u:Nat} {Q:Value→aA→Gh→Prop} (tg:Tag) (N:pQ B.K C fI) (hb:bD c d u)
  (C':∀ x,G x=none→Call B (.ref fI) (.ref x::vs) (upd G x ⟨tg,.inst C []⟩) dn un (fun r G'=>r=.none∧Q (.ref x) m G'))
  (hd:f9 (dn+1) d=true:=by with_unfolding_all rfl) (hu:f9 (un+1) u=true:=by with_unfolding_all rfl):V B c R (call (.ref C) vs) m G Q:=⟨fun ok s S=>by
 have h1:=fT hd
 have h2:=fT hu
 obtain ⟨b1,b2⟩:=hb
 exact aeL (Q:=fun x G'=>Q (.ref x) m G') tg ok S N C' (by omega) (by omega) fun x s' G' hx S' q=>⟨_,_,S',q⟩⟩
theorem xY {C f:Addr} {n:Str} {pl:Sem Bool} {Q:Value×List Value→aA→Gh→Prop} (M:zF B.K C n f) (h:Q (.ref f,[]) m G):V B c R (getMethod (.ref C) n pl) m G Q :=
 ⟨fun ok s S=>method_cls (S.dN ok) M.sp (cls_value (S.dN ok) M.rd M.fc rfl ⟨_,_,S.toks _,h⟩)⟩
theorem ahH {a:Addr} {value slice:Expr} {x:Str} {t:Tok} {v:Value} {Q:Value→aA→Gh→Prop} (D:pK B.w B.K a) (e:nsIn B.K a x=some (some v)) (h:Q v m G)
  (hs:subscripted slice false (.ref a) (.str x t)=operate [.ref a,.str x t] (getItem (.ref a) (.str x t)):=by with_unfolding_all rfl):V B c R (subscriptTail value slice (.ref a) (.str x t)) m G Q:=⟨fun ok s S=>by
 refine cN D.ex fun es n hl hk=>?_
 have hm:=mapOf_K (prog:=B.prog) (S.dN ok) hl hk
 exact tail_any hm.typeIs slot_dict_getitem.lookup (wpAny_getItem_of (strKind_is B.prog B.w x t) hm (find_K hl e) ⟨_,_,S.toks _,h⟩) hs⟩
theorem NG {a:Addr} {x:Str} {t:Tok} {r:Option Value} {Q:Value→aA→Gh→Prop} (D:pK B.w B.K a) (e:nsIn B.K a x=some r) (h:Q (.bool r.isSome) m G) (lo:(a==sysModules)=false:=by decide):V B c R (compareOp .In (.str x t) (.ref a)) m G Q:=⟨fun ok s S=>by
 refine cN D.ex fun es n hl hk=>?_
 exact wpAny_in_of (strKind_is B.prog B.w x t) lo (mapOf_K (prog:=B.prog) (S.dN ok) hl hk) (by exact sb (find_K hl e) (⟨_,_,S.toks _,h⟩))⟩
theorem ahI {a:Addr} {pl:Sem Bool} {Q:Value×List Value→aA→Gh→Prop} (D:pK B.w B.K a) (h:Q (.builtin "dict.get",[.ref a]) m G):V B c R (getMethod (.ref a) "get" pl) m G Q:=⟨fun ok s S=>by
 refine cN D.ex fun es n hl hk=>?_
 have hm:=mapOf_K (prog:=B.prog) (S.dN ok) hl hk
 exact getMethod_builtin hm.typeIs P9 zC PD hm.noDict ⟨_,_,S,h⟩⟩
theorem NF {a:Addr} {x:Str} {t:Tok} {r:Option Value} {d:Value} {Q:Value→aA→Gh→Prop} (D:pK B.w B.K a) (e:nsIn B.K a x=some r) (h:Q (r.getD d) m G) (lo:(a==sysModules)=false:=by decide):V B c R (call (.builtin "dict.get") [.ref a,.str x t,d]) m G Q:=⟨fun ok s S=>by
 refine cN D.ex fun es n hl hk=>?_
 have hm:=mapOf_K (prog:=B.prog) (S.dN ok) hl hk
 refine call_meetsIn zC hm.typeIs P8 (PySem.F.args_dict_get_3 _ _ _) (meets_dict_get_default _ a (strKind_is B.prog B.w x t) lo d) ⟨_,hm,?_⟩
 refine sb (find_K hl e) ?_
 exact ⟨_,_,S.toks _,h⟩⟩
theorem ahU {a:Addr} {vs:Array Value} {ys:List Str} {x:Str} {t:Tok} {Q:Value→aA→Gh→Prop} (hl:B.K.lookup a=some {cls:=.type "tuple",data:=.seq vs}) (hi:StrsAre vs.toList ys) (h:Q (.bool (!(ys.any (·==x)))) m G) :
  V B c R (compareOp .NotIn (.str x t) (.ref a)) m G Q:=⟨fun ok s S=>notin_tuple_strs ⟨_,(S.dN ok) _ _ hl,rfl,0,rfl⟩ hi ⟨_,_,S,h⟩⟩
theorem N2 (G:Gh) (a:Addr) (x y:GO):upd (upd G a x) a y=upd G a y:=by
 funext b; unfold upd; split<;>rfl
theorem agJ {G:Gh} {a d:Addr} {x y:GO} (h:d≠a):upd (upd G a x) d y=upd (upd G d y) a x:=by
 funext b; unfold upd; by_cases e:b=d
 ·subst e; exact sb (if_pos rfl) (sb (if_neg h) (sb (if_pos rfl) rfl))
 ·exact sb (if_neg e) (sb (if_neg e) rfl)
theorem fG {a C:Addr} {t:Tag} {fs:List (Str×Value)} {n:Str} {v:Value} {flds:List Str} {Q:Unit→aA→Gh→Prop} (CA:ClsAt B.K C flds) (hf:(fs.all fun q=>!(q.1==n))=true) (hl:qV fs.length 100=true) (hn:flds.contains n=true) (hv:handedIn v=true)
  (h:Q () m (upd G a ⟨t,.inst C (fs++[(n,v)])⟩)):V B c R (setAttr (.ref a) n v) m (upd G a ⟨t,.inst C fs⟩) Q:=qK CA (aI _ _ _) hf hl hn hv (by rw [N2]; exact h)
theorem mJ {a d C:Addr} {t:Tag} {fs:List (Str×Value)} {n:Str} {v:Value} {y:GO} {flds:List Str} {Q:Unit→aA→Gh→Prop} (CA:ClsAt B.K C flds) (hd:upd G a ⟨t,.inst C fs⟩ d=none) (hf:(fs.all fun q=>!(q.1==n))=true) (hl:qV fs.length 100=true) (hn:flds.contains n=true) (hv:handedIn v=true)
  (h:G d=none→d≠a→Q () m (upd (upd G d y) a ⟨t,.inst C (fs++[(n,v)])⟩)):V B c R (setAttr (.ref a) n v) m (upd (upd G a ⟨t,.inst C fs⟩) d y) Q:=by
 obtain ⟨h1,h2⟩:=nL hd
 refine sb (agJ h1) ?_
 exact fG CA hf hl hn hv (h h2 h1)
end
theorem GI (a b:Int):(a==b)=decide (a=b):=by by_cases h:a=b<;>exact rfl
set_option genSizeOf false in
inductive AV where
 | num (i:Int)
 | thing (n:Int)
 deriving DecidableEq
inductive jY (G:Gh):Value→AV→Prop
 | num (i:Int) (t:Tok):jY G (.int i t) (.num i)
 | thing (a:Addr) (t:Tag) (fs:List (Str×Value)) (n:Int) (u:Tok) (h:G a=some ⟨t,.inst 268 fs⟩) (hn:fs.lookup ("number":Str)=some (.int n u)):jY G (.ref a) (.thing n)
noncomputable def AV.sort:AV→Str
 | .num _=>"int"
 | .thing _=>"thing"
section
variable {B:Bn} {R:Addr→Gh→Prop}
theorem MH (X:Txt B.w B.K) {G:Gh} {v:Value} {k:AV} (hk:jY G v k) {Q:Value→Gh→Prop} (hQ:∀ t,Q (.str k.sort t) G):Call B (.ref 277) [v] G 1 4 Q:=by
 refine U5 X fun c oo hsc aJ hb=>?_
 cases hk with
 | num =>
  refine DW X.YQ ?_
  refine DW X.YR ?_
  intro t
  exact hQ _
 | thing _ _ _ _ _ h =>
  refine gD X.fZ h X.CB ?_
  refine gD X.fZ h X.J1 ?_
  refine gD X.fZ h X.J2 ?_
  intro t
  exact hQ _
theorem mG (X:Txt B.w B.K) {G:Gh} {v u:Value} {j k:AV} (hj:jY G v j) (hk:jY G u k) {Q:Value→Gh→Prop} (hQ:Q (.bool (decide (j=k))) G):Call B (.ref 284) [v,u] G 2 9 Q:=by
 refine U4 X fun c oo hsc aJ hb=>?_
 refine aQ hb (MH X hj fun t=>?_)
 refine aQ hb (MH X hk fun t'=>?_)
 cases hj<;>cases hk
 ·exact kL hQ (by simp [lE,GI])
 ·exact kL hQ (by exact rfl)
 ·exact kL hQ (by exact rfl)
 ·refine bI X.bC (by assumption) (by assumption) rfl ?_
  refine bI X.bC (by assumption) (by assumption) rfl ?_
  exact kL hQ (by simp [lE,GI])
end
set_option genInjectivity false in
set_option genSizeOf false in
structure Mod where
 num:Int
 uK:Tok
 owner:Value
 aF:Addr
 own:Value
 nameV:Value
 cls:Bool
 parent:Value
 outer:Value
 bE:Addr
 aC:Addr
 aT:Addr
 b7:Addr
 attached:Value
 native:Value
 kept:Value
 consts:List (Str×Value)
 mixed:List Addr
 ahead:List Addr
noncomputable abbrev Mod.fs (m:Mod):List (Str×Value) :=
 [("number",.int m.num m.uK),("owner",m.owner),("fields",.ref m.aF),("own",m.own),("frozen",.bool false),("ident",.none),("name",m.nameV),("is_class",.bool m.cls),("parent",m.parent),("outer",m.outer),("methods",.ref m.bE),
 ("constants",.ref m.aC),("mixed",.ref m.aT),("ahead",.ref m.b7),("attached",m.attached),("native",m.native),("kept",m.kept)]
structure kY (G:Gh) (a:Addr) (m:Mod):Prop where
 obj:G a=some ⟨(1,0),.inst 268 m.fs⟩
 con:G m.aC=some ⟨(2,a),.aZ m.consts⟩
 mix:G m.aT=some ⟨(3,a),.list (m.mixed.map Value.ref)⟩
 bX:G m.b7=some ⟨(4,a),.list (m.ahead.map Value.ref)⟩
set_option genInjectivity false in
set_option genSizeOf false in
structure Wd where
 a:Addr
 eL:Addr
 eX:Addr
 read:Value
 most:Value
 taken:Value
 last:Int
 CD:Tok
 ident:Value
 syms:Value
 dP:Addr
 cD:Int
 iG:Tok
 kD:Int
 A0:Tok
 globals:Value
 out:Value
 here:Value
 ready:Bool
 tail:List (Str×Value)
 made:List (Str×Value)
 dom:List Addr
 md:Addr→Mod
noncomputable abbrev Wd.fs (σ:Wd):List (Str×Value) :=
 ("natives",Value.ref σ.eL)::("prelude",Value.ref σ.eX)::("read",σ.read)::("most",σ.most)::("taken",σ.taken)::("last_number",Value.int σ.last σ.CD)::("last_ident",σ.ident)::("symbol_idents",σ.syms)::("made",Value.ref σ.dP) ::
 ("version",Value.int σ.cD σ.iG)::("const_version",Value.int σ.kD σ.A0)::("globals",σ.globals)::("out",σ.out)::("here",σ.here)::("is_ready",Value.bool σ.ready)::σ.tail
structure WI (G:Gh) (σ:Wd):Prop where
 obj:G σ.a=some ⟨(5,0),.inst 770 σ.fs⟩
 made:G σ.dP=some ⟨(6,0),.aZ σ.made⟩
 nat:G σ.eL=some ⟨(10,0),.aZ []⟩
 pre:G σ.eX=some ⟨(10,0),.aZ []⟩
 mods:∀ a∈σ.dom,kY G a (σ.md a)
 tl:(σ.tail.all fun q=>q.1==("main":Str))=true
noncomputable def OD:List Str:=["natives","prelude","read","most","taken","last_number","last_ident","symbol_idents","made","version","const_version","globals","out","here","is_ready"]
theorem WI.meth {G:Gh} {σ:Wd} (W:WI G σ) {n:Str} (h:((OD++[("main":Str)]).all fun x=>!(x==n))=true:=by rfl):(σ.fs.all fun q=>!(q.1==n))=true:=by
 rw [gJ] at h ⊢
 intro q hq
 refine h q.1 ?_
 rcases bW.mp (show q.1∈OD++σ.tail.map (·.1) from kR (f:=(·.1)) hq) with h1 | h1
 ·exact dD _ h1
 ·refine aV (cP.mp h1) fun y hy e=>?_
  have:=gJ.mp W.tl y hy
  exact cW _ (cG.mpr (e▸beq_iff_eq.mp this))
theorem kY.keep {T:List Nat} {G G':Gh} {a:Addr} {m:Mod} (h:kY G a m) (k:aD T G G') (hT:(T.contains 1||T.contains 2||T.contains 3||T.contains 4)=false:=by rfl):kY G' a m:=by
 simp only [sR] at hT
 obtain ⟨⟨⟨h1,h2⟩,h3⟩,h4⟩:=hT
 exact ⟨k _ _ h.obj h1,k _ _ h.con h2,k _ _ h.mix h3,k _ _ h.bX h4⟩
theorem WI.keep {T:List Nat} {G G':Gh} {σ:Wd} (h:WI G σ) (k:aD T G G') (hT:(T.contains 1||T.contains 2||T.contains 3||T.contains 4)=false:=by rfl) (hT5:(T.contains 5||T.contains 6||T.contains 10)=false:=by rfl):WI G' σ:=by
 have h5:=hT5
 simp only [sR] at h5
 obtain ⟨⟨h1,h2⟩,h3⟩:=h5
 exact ⟨k _ _ h.obj h1,k _ _ h.made h2,k _ _ h.nat h3,k _ _ h.pre h3,fun a ha=>(h.mods a ha).keep k hT,h.tl⟩
theorem WI.sL {G:Gh} {σ σ':Wd} (h:WI G σ) (e:σ'.a=σ.a∧σ'.dP=σ.dP∧σ'.eL=σ.eL∧σ'.eX=σ.eX∧σ'.made=σ.made∧σ'.dom=σ.dom∧σ'.md=σ.md∧σ'.tail=σ.tail):WI (upd G σ.a ⟨(5,0),.inst 770 σ'.fs⟩) σ':=by
 refine yI e fun e1 e2 e3 e4 e5 e6 e7 e8=>?_
 have ne:∀ {b y},G b=some y→y.tag.1≠5→upd G σ.a ⟨(5,0),.inst 770 σ'.fs⟩ b=some y:=fun {b y} hb hy=>b9 hb h.obj (fun q=>hy (by exact sb q rfl))
 refine ⟨by refine sb e1 ?_; exact aI _ _ _,?_,?_,?_,fun a ha=>?_,by exact sb e8 h.tl⟩
 ·exact sb e2 (sb e5 (ne h.made (by simp)))
 ·exact sb e3 (ne h.nat (by simp))
 ·exact sb e4 (ne h.pre (by simp))
 ·rw [e6] at ha; refine sb e7 ?_
  exact ⟨ne (h.mods a ha).obj (by simp),ne (h.mods a ha).con (by simp),ne (h.mods a ha).mix (by simp),ne (h.mods a ha).bX (by simp)⟩
noncomputable def Wd.put (σ:Wd) (a:Addr) (m:Mod):Wd:={σ with md:=fun b=>if b=a then m else σ.md b}
theorem fD {σ:Wd} {a:Addr} {m:Mod}:(σ.put a m).md a=m:=by exact if_pos rfl
theorem dY {σ:Wd} {a b:Addr} {m:Mod} (h:b≠a):(σ.put a m).md b=σ.md b:=by exact if_neg ‹_›
theorem WI.qI {G:Gh} {σ:Wd} (h:WI G σ) {a:Addr} (ha:a∈σ.dom) {m:Mod} (e:m.aC=(σ.md a).aC∧m.aT=(σ.md a).aT∧m.b7=(σ.md a).b7∧m.consts=(σ.md a).consts∧m.mixed=(σ.md a).mixed∧m.ahead=(σ.md a).ahead) :
  WI (upd G a ⟨(1,0),.inst 268 m.fs⟩) (σ.put a m):=by
 refine OH e fun e1 e2 e3 e4 e5 e6=>?_
 have hM:=h.mods a ha
 have ne:∀ {b y},G b=some y→y.tag.1≠1→upd G a ⟨(1,0),.inst 268 m.fs⟩ b=some y:=fun {b y} hb hy=>b9 hb hM.obj (fun q=>hy (by exact sb q rfl))
 refine ⟨ne h.obj (lD rfl),ne h.made (lD rfl),ne h.nat (lD rfl),ne h.pre (lD rfl),fun b hb=>?_,h.tl⟩
 by_cases q:b=a
 ·subst q; refine sb fD ?_
  exact ⟨aI _ _ _,e1▸e4▸ne hM.con (lD rfl),e2▸e5▸ne hM.mix (lD rfl),e3▸e6▸ne hM.bX (lD rfl)⟩
 ·refine sb (dY q) ?_
  have hB:=h.mods b hb
  exact ⟨by rw [bF q]; exact hB.obj,ne hB.con (lD rfl),ne hB.mix (lD rfl),ne hB.bX (lD rfl)⟩
theorem WI.DR {G:Gh} {σ:Wd} (h:WI G σ) {a d:Addr} {m:Mod} {k:GK} {n:Nat} {y:GO} (hd:G d=some y) (hy:y.tag=(n,a)) (h1:iJ 1 n=false) (h5:iJ 5 n=false) (h6:iJ 6 n=false) (h10:iJ 10 n=false) (hM:kY (upd G d ⟨(n,a),k⟩) a m) :
  WI (upd G d ⟨(n,a),k⟩) (σ.put a m):=by
 have ne:∀ {b x},G b=some x→x.tag≠(n,a)→upd G d ⟨(n,a),k⟩ b=some x:=fun hb hx=>b9 hb hd (fun q=>hx (q.trans hy))
 refine ⟨ne h.obj (uR h5),ne h.made (uR h6),ne h.nat (uR h10),ne h.pre (uR h10),fun b hb=>?_,h.tl⟩
 by_cases q:b=a
 ·exact sb q (sb fD hM)
 ·refine sb (dY q) ?_
  have hB:=h.mods b hb
  exact ⟨ne hB.obj (uR h1),ne hB.con fun z=>q (congrArg tG z),ne hB.mix fun z=>q (congrArg tG z),ne hB.bX fun z=>q (congrArg tG z)⟩
theorem WI.add {G G':Gh} {σ:Wd} (h:WI G σ) (k:aD [] G G') {a:Addr} {m:Mod} (hM:kY G' a m) (ha:a∉σ.dom):WI G' {σ with dom:=σ.dom++[a],md:=fun b=>if b=a then m else σ.md b}:=by
 have h':=h.keep k
 refine ⟨h'.obj,h'.made,h'.nat,h'.pre,fun b hb=>?_,h.tl⟩
 rcases bW.mp hb with hb | hb
 ·show kY G' b (if b=a then m else σ.md b)
  exact sb (if_neg fun e:b=a=>ha (e▸hb)) (h'.mods b hb)
 ·show kY G' b (if b=a then m else σ.md b)
  have e:=cG.mp hb
  exact sb (if_pos e) (sb e hM)
noncomputable def gY (σ:Wd):Prop:=∀ a∈σ.dom,∀ b∈σ.dom,(σ.md a).num=(σ.md b).num→a=b
theorem WI.gV {G:Gh} {σ:Wd} (h:WI G σ) {a:Addr} (ha:a∈σ.dom):jY G (.ref a) (.thing (σ.md a).num):=.thing a _ _ _ _ (h.mods a ha).obj rfl
theorem oK {σ:Wd} (h:gY σ) {a b:Addr} (ha:a∈σ.dom) (hb:b∈σ.dom):decide (AV.thing (σ.md a).num=AV.thing (σ.md b).num)=decide (a=b):=by
 by_cases e:a=b
 ·subst e; simp
 ·have:¬(σ.md a).num=(σ.md b).num:=fun q=>e (h a ha b hb q)
  simp [e,this]
section
variable {B:Bn} {R:Addr→Gh→Prop}
noncomputable def Wd.cJ (σ:Wd) (n:Int) (t:Tok):Wd:={σ with last:=n,CD:=t}
noncomputable def Wd.lG (σ:Wd) (n:Int) (t:Tok):Wd:={σ with cD:=n,iG:=t}
theorem qC (X:Txt B.w B.K) {G:Gh} {σ:Wd} (W:WI G σ) {Q:Value→Gh→Prop} (hQ:∀ t G',WI G' (σ.cJ (σ.last+1) t)→aD [5] G G'→Q (.int (σ.last+1) t) G'):Call B (.ref 530) [.ref σ.a] G 1 4 Q:=by
 refine SS X fun c oo hsc aJ hb=>?_
 refine bI X.b8 W.obj rfl rfl ?_
 intro t1 t2
 refine fF X.b8 W.obj rfl rfl rfl ?_
 refine bI X.b8 (aI _ _ _) rfl rfl ?_
 exact hQ _ _ (W.sL (σ':=σ.cJ (σ.last+1) _) ⟨rfl,rfl,rfl,rfl,rfl,rfl,rfl,rfl⟩) ((aD.refl _ _).turn W.obj rfl)
theorem DE (X:Txt B.w B.K) {G:Gh} {σ:Wd} (W:WI G σ) {Q:Value→Gh→Prop} (hQ:∀ t G',WI G' (σ.lG (σ.cD+1) t)→aD [5] G G'→Q .none G'):Call B (.ref 427) [.ref σ.a] G 1 4 Q:=by
 refine U3 X fun c oo hsc aJ hb=>?_
 refine bI X.b8 W.obj rfl rfl ?_
 intro t1 t2
 refine fF X.b8 W.obj rfl rfl rfl ?_
 exact hQ _ _ (W.sL (σ':=σ.lG (σ.cD+1) _) ⟨rfl,rfl,rfl,rfl,rfl,rfl,rfl,rfl⟩) ((aD.refl _ _).turn W.obj rfl)
theorem I7 (X:Txt B.w B.K) {G:Gh} {σ:Wd} (W:WI G σ) (hi:gY σ) {l o:Addr} {t:Tag} {xs:List Addr} (hl:G l=some ⟨t,.list (xs.map Value.ref)⟩) (hx:∀ x∈xs,x∈σ.dom) (ho:o∈σ.dom) {Q:Value→Gh→Prop} (hQ:∀ G',aD [] G G'→Q (.bool (decide (o∈xs))) G') :
  Call B (.ref 398) [.ref l,.ref o] G 3 13 Q:=by
 refine T3 X fun c oo hsc aJ hb=>?_
 refine nM (fun k m G'=>∃ ov,m=(OC (some (.ref l)) (some (.ref o)) ov)∧aD [] G G'∧o∉xs.take k) hl (fun I hI=>⟨_,rfl,(aD.refl _ _).fresh hI,by exact qT⟩) ?_ ?_
 ·rintro J' I k v m G' hJ hI hv ⟨ov,rfl,hk,hno⟩ hI' hl'
  simp only [jF,mX] at hv
  obtain ⟨x,hv,rfl⟩:=hv
  have hxd:=hx x (cE hv)
  have W':WI (upd G' I ⟨(9,0),.lit l (k+1)⟩) σ:=W.keep (hk.new hI)
  refine jT (iQ oo rfl (yH X oo aJ 20 _ _ _ _ ?_))
  refine aQ hb (mG X (W'.gV hxd) (W'.gV ho) ?_)
  refine sb (oK hi hxd ho) ?_
  refine cV (fun h=>?_) (fun h=>?_)
  ·refine kL (hQ _ (hk.new hI)) ?_
   have:x=o:=by exact of_decide_eq_true ‹_›
   subst this
   simp [lE,cE hv]
  ·refine hJ _ _ ⟨_,rfl,hk.new hI,?_⟩ (aI _ _ _) (by exact sb (bF (uG hl hI)) hl')
   have hne:x≠o:=by simpa using h
   refine sb mV (sb hv ?_)
   simp only [mY,bW,cG,not_or]
   exact ⟨hno,fun e=>hne e.symm⟩
 ·rintro I m G' hI ⟨ov,rfl,hk,hno⟩ hI' hl'
  rw [cT,nX] at hno
  exact kL (hQ _ (hk.era hI)) (by simp [lE,hno])
end
noncomputable abbrev Ent:=Addr×Bool
noncomputable def pushed (md:Addr→Mod) (a:Addr) (r:List Ent):List Ent:=((md a).ahead.map fun x=>(x,false)).reverse++(a,true)::(((md a).mixed.map fun x=>(x,false)).reverse++r)
noncomputable def iC (md:Addr→Mod):Nat→List Ent→List Addr→List Addr→List Addr
 | 0,_,_,f=>f
 | _+1,[],_,f=>f
 | n+1,(a,true)::r,k,f=>iC md n r k (f++[a])
 | n+1,(a,false)::r,k,f=>if a∈k then iC md n r k f else iC md n (pushed md a r) (a::k) f
theorem uM {md:Addr→Mod} {n:Nat} {a:Addr} {r:List Ent} {k f:List Addr}:iC md (n+1) ((a,false)::r) k f=if a∈k then iC md n r k f else iC md n (pushed md a r) (a::k) f:=rfl
noncomputable def wt (md:Addr→Mod) (a:Addr):Nat:=2+(md a).mixed.length+(md a).ahead.length
noncomputable def rest (md:Addr→Mod) (dom k:List Addr):Nat:=((dom.filter fun a=>!k.contains a).map (wt md)).sum
inductive fM (G:Gh):List Value→List Ent→Prop
 | nil:fM G [] []
 | cons {ys:List Value} {r:List Ent} {a x:Addr} {b:Bool}:G x=some ⟨(9,1),.tup [.ref a,.bool b]⟩→fM G ys r→fM G (ys++[.ref x]) ((a,b)::r)
theorem fM.mono {G G':Gh} {ys:List Value} {r:List Ent} (h:fM G ys r) (k:∀ x y,G x=some y→y.tag=(9,1)→G' x=some y):fM G' ys r:=by
 induction h with
 | nil=>exact .nil
 | cons hx _ ih=>exact .cons (k _ _ hx rfl) ih
theorem fM.length {G:Gh} {ys:List Value} {r:List Ent} (h:fM G ys r):ys.length=r.length:=by
 induction h with
 | nil=>rfl
 | cons _ _ ih=>simp [ih]
theorem fM.push {G:Gh} {as:List Addr} {zs:List Value} (hp:Paired (fun v y=>∃ x,y=Value.ref x∧G x=some ⟨(9,1),.tup [v,.bool false]⟩) (as.map Value.ref) zs):∀ {ys:List Value} {r:List Ent},fM G ys r→fM G (ys++zs) ((as.map fun x=>(x,false)).reverse++r):=by
 generalize h:as.map Value.ref=vs at hp
 induction hp generalizing as with
 | nil=>intro ys r hs; induction as using List.casesOn with
  | nil=>simpa using hs
  | cons=>cases h
 | @cons v y l₁ l₂ hv _ ih =>
  intro ys r hs
  induction as using List.casesOn with
  | nil=>cases h
  | cons a as' =>
   rw [cK] at h
   obtain ⟨h1,h2⟩:=List.cons.inj h
   refine aV hv fun x zq1 hx=>?_
   subst zq1
   have:=ih h2 (fM.cons (b:=false) (h1▸hx) hs)
   simpa using this
theorem fM.sM {G:Gh} {ys:List Value} {a:Addr} {b:Bool} {r:List Ent} (h:fM G ys ((a,b)::r)):∃ x ys',ys=ys'++[.ref x]∧G x=some ⟨(9,1),.tup [.ref a,.bool b]⟩∧fM G ys' r:=by
 cases h with
 | cons hx hs=>exact ⟨_,_,rfl,hx,hs⟩
theorem fM.empty {G:Gh} {ys:List Value} (h:fM G ys []):ys=[]:=by cases h; rfl
theorem M0 {md:Addr→Mod} {dom k:List Addr} {a:Addr} (hd:dom.Nodup) (ha:a∈dom) (hk:a∉k):rest md dom (a::k)+wt md a=rest md dom k:=by
 unfold rest
 induction dom with
 | nil=>cases ha
 | cons b r ih =>
  rw [iH] at hd
  rcases cU.mp ha with rfl | ha
  ·have e1:(a::r).filter (fun x=>!(a::k).contains x)=r.filter fun x=>!k.contains x:=by
    refine sb (jE (by simp)) ?_
    refine mT fun x hx=>?_
    have:x≠a:=fun e=>hd.1 (e▸hx)
    simp [this]
   have e2:(a::r).filter (fun x=>!k.contains x)=a::r.filter fun x=>!k.contains x:=gW (by simp [hk])
   exact sb e1 (sb e2 (sb cK (sb kT (F8 _ _))))
  ·have hne:b≠a:=fun e=>hd.1 (e▸ha)
   have ih':=ih hd.2 ha
   by_cases hb:b∈k
   ·exact sb (jE (by simp [hb])) (sb (jE (by simp [hb])) ih')
   ·exact sb (gW (by simp [hb,hne])) (sb (gW (by simp [hb])) (sb cK (sb cK (sb kT (sb kT (lM (bQ (b5 ih') (by simp +arith only)) (bQ (b5 ih'.symm) (by simp +arith only))))))))
noncomputable def cB (σ:Wd) (a:Addr):List Addr:=iC σ.md (1+rest σ.md σ.dom []) [(a,false)] [] []
structure WF (σ:Wd):Prop where
 inj:gY σ
 nd:σ.dom.Nodup
 mix:∀ a∈σ.dom,∀ x∈(σ.md a).mixed,x∈σ.dom
 bX:∀ a∈σ.dom,∀ x∈(σ.md a).ahead,x∈σ.dom
 small:rest σ.md σ.dom []≤50000
noncomputable def tK (σ:Wd) (es:List (Int×Value)) (k:List Addr):Prop:=∀ a∈σ.dom,(valueAt es (σ.md a).num).isSome=k.contains a
section
variable {B:Bn} {R:Addr→Gh→Prop}
inductive PO (G:Gh) (σ:Wd) (a lf lk lw:Addr) (n:Nat) (m:aA) (G':Gh):Prop
 | mk (st:List Ent) (kn fd:List Addr) (es:List (Int×Value)) (ys:List Value) (ov1 ov2:Option Value) (e:m=O1 (some (.ref a)) (some (.ref lf)) (some (.ref lk)) (some (.ref lw)) ov1 ov2) (k:aD [] G G') (h1:G' lf=some ⟨(9,2),.list (fd.map Value.ref)⟩) (h2:G' lk=some ⟨(9,3),.cR es⟩) (h3:G' lw=some ⟨(9,4),.list ys⟩)
  (h4:fM G' ys st) (h5:tK σ es kn) (h6:st.length+rest σ.md σ.dom kn≤n) (h7:iC σ.md n st kn fd=cB σ a) (h8:∀ e∈st,e.1∈σ.dom) (h9:fd.length+n≤60000) (h10:es.length+n≤60000)
theorem tK.put {σ:Wd} {es:List (Int×Value)} {kn:List Addr} {b:Addr} (F:WF σ) (hkn:tK σ es kn) (hb:b∈σ.dom) (v:Value):tK σ (stored es (σ.md b).num v) (b::kn):=by
 intro y hy
 rw [jV]
 by_cases q:(σ.md y).num=(σ.md b).num
 ·refine sb (if_pos q) ?_
  have:=F.inj y hy b hb q
  subst this; simp
 ·refine sb (if_neg q) (sb (hkn y hy) ?_)
  have:y≠b:=fun e=>q (by exact sb e rfl)
  simp [this]
theorem D9 {σ:Wd} {b:Addr} {r:List Ent} (F:WF σ) (hb:b∈σ.dom) (h:∀ e∈r,e.1∈σ.dom):∀ e∈pushed σ.md b r,e.1∈σ.dom:=by
 intro e he
 simp only [pushed,bW,F2,cP,cU] at he
 rcases he with ⟨y,hy,rfl⟩ | rfl | ⟨y,hy,rfl⟩ | he
 ·exact F.bX b hb y hy
 ·exact hb
 ·exact F.mix b hb y hy
 ·exact h e he
theorem adH {md:Addr→Mod} {b:Addr} {r:List Ent}:(pushed md b r).length=(md b).ahead.length+(1+((md b).mixed.length+r.length)):=by simp [pushed]; exact F8 _ _
theorem xF (X:Txt B.w B.K) {G:Gh} {σ:Wd} (W:WI G σ) (F:WF σ) {a:Addr} (ha:a∈σ.dom) {Q:Value→Gh→Prop} (hQ:∀ l G',G l=none→G' l=some ⟨(9,2),.list ((cB σ a).map Value.ref)⟩→aD [] G G'→Q (.ref l) G') :
  Call B (.ref 403) [.ref a] G 1 12 Q:=by
 refine TZ X fun c oo hsc aJ hb=>?_
 refine iZ X oo aJ hsc ["found","known","waiting"] (by kernel_rfl!) (by kernel_rfl!) ?_
 refine eS (9,2) (by simp) fun lf hlf=>?_
 refine NL (9,3) fun lk hlk=>?_
 refine iE (9,1) (by exact bY _ _) fun t0 ht0=>?_
 refine eS (9,4) (by exact iR _) fun lw hlw=>?_
 refine iE (9,1) (by exact bY _ _) fun t1 ht1=>?_
 refine gQ.mk (aI _ _ _) rfl rfl ?_
 have nlf:G lf=none:=hlf
 have nlk:G lk=none:=by rw [bF (fun e=>by rw [e,aI] at hlk; exact dK hlk)] at hlk; exact hlk
 have nlw:G lw=none:=by
  cases q:G lw with
  | none=>rfl
  | some z=>rw [(aD.refl [] G).fresh hlf |>.fresh hlk |>.fresh ht0 lw z q rfl] at hlw; exact dK hlw
 refine sN (PO G σ a lf lk lw) (1+rest σ.md σ.dom []) ?_ ?_
 ·have:=F.small
  refine ⟨[(a,false)],[],[],[],[.ref t0],none,none,rfl,?_,show _=some (⟨(9,2),.list []⟩:GO) from (by exact bG (bG (bG (bG (aI _ _ _) ‹_›) ‹_›) ‹_›) ‹_›),by exact bG (bG (bG (aI _ _ _) ‹_›) ‹_›) ‹_›,by exact bG (aI _ _ _) ‹_›,?_,?_,by exact bZ _,rfl,by simpa using ha,by simp; exact KI this,by simp; exact KI this⟩
  ·exact (((((aD.refl _ _).fresh hlf).fresh hlk).fresh ht0).fresh hlw).fresh ht1
  ·exact .cons (ys:=[]) (by exact bG (bG (aI _ _ _) ‹_›) ‹_›) .nil
  ·intro x hx; exact rfl
 ·rintro J' hJ n m G' ⟨st,kn,fd,es,ys,ov1,ov2,rfl,hk,h1,h2,h3,hst,hkn,hm,hrun,hdom,hb1,hb2⟩
  refine qL X aJ ?_
  refine ai8 h3 ?_
  refine IJ (fun hne=>?_) (fun hne=>?_)
  ·obtain _ | ⟨⟨b,io⟩,r⟩:=st
   ·rw [hst.empty] at hne; cases hne
   refine kN hst.sM fun x ys' zq3 hx hst'=>?_
   subst zq3
   have hyl:=hst'.length
   refine gG X oo aJ ?_
   refine EG X oo aJ hsc ["one","is_open"] (by kernel_rfl!) (by kernel_rfl!) rfl ?_
   refine NI h3 ?_
   refine NP rfl h3 ?_
   refine qY.mk (by exact b9 ‹_› h3 (b6 rfl)) rfl rfl ?_
   obtain _ | n:=n
   ·simp at hm
   have hb:b∈σ.dom:=hdom (b,io) c8
   have hlen:r.length+1+rest σ.md σ.dom kn≤n+1:=by simpa using hm
   have hdom':∀ e∈r,e.1∈σ.dom:=fun e he=>hdom e (cL _ he)
   have k1:aD [] G (upd G' lw ⟨(9,4),.list ys'⟩):=hk.new nlw
   refine cV (fun hio=>?_) (fun hio=>?_)
   ·subst hio
    refine iP (by exact b9 h1 h3 (b6 rfl)) ?_
    refine iD (xs:=fd.map Value.ref) (by exact b9 h1 h3 (b6 rfl)) (by simp only [cT]; exact KH hb1) ?_
    refine hJ n _ _ _ (by exact bZ _) ⟨r,kn,fd++[b],es,ys',_,_,rfl,?_,?_,by exact b9 (b9 h2 h3 (b6 rfl)) (b9 h1 h3 (b6 rfl)) (b6 rfl),by exact b9 (aI _ _ _) (b9 h1 h3 (b6 rfl)) (b6 rfl),?_,hkn,by exact bQ hlen (by simp +arith only),?_,hdom',by simp; exact abH hb1,by exact (cZ hb2)⟩
    ·exact k1.new nlf
    ·exact sb dR (aI _ _ _)
    ·exact hst'.mono fun z y hz ht=>by
      exact b9 (b9 hz h3 (kM ht rfl)) (b9 h1 h3 (b6 rfl)) (kM ht rfl)
    ·exact hrun
   ·subst hio
    refine bI X.bC ((W.keep k1).mods b hb).obj rfl rfl ?_
    refine uW (by exact b9 h2 h3 (b6 rfl)) ?_
    refine cV (fun hkb=>?_) (fun hkb=>?_)
    ·have hbk:b∉kn:=by
      rw [hkn b hb] at hkb; simpa using hkb
     have hr:=M0 (md:=σ.md) F.nd hb hbk
     have hw:wt σ.md b=2+(σ.md b).mixed.length+(σ.md b).ahead.length:=rfl
     have k0:aD [] G (upd (upd G' lw ⟨(9,4),.list ys'⟩) lk ⟨(9,3),.cR (stored es (σ.md b).num (Value.bool true))⟩):=k1.new nlk
     have hrun':iC σ.md n (pushed σ.md b r) (b::kn) fd=cB σ a:=by
      exact aY hrun (sb uM (sb (if_neg hbk) rfl))
     refine bI X.bC ((W.keep k1).mods b hb).obj rfl rfl ?_
     refine NR (by exact b9 h2 h3 (b6 rfl)) (by exact KH hb2) ?_
     refine DX (by exact b9 (aI _ _ _) (b9 h2 h3 (b6 rfl)) (b6 rfl)) ?_
     refine nQ X oo aJ hsc (9,5) rfl rfl ?_
     refine bI X.bC ((W.keep k0).mods b hb).obj rfl rfl ?_
     refine fV.list X (fun zz=>true) (fun v y G=>∃ x,y=Value.ref x∧G x=some ⟨(9,1),.tup [v,.bool false]⟩) ((W.keep k0).mods b hb).mix (by simp; exact abG hb2 hlen hr hw) ?_ ?_ ?_ ?_
     ·rintro v y G G' ⟨x,rfl,hx⟩ k; exact ⟨x,rfl,k _ _ hx (by simp)⟩
     ·intro c' v G' hA hg hv k; exact ⟨rfl,rfl,.refl _ _⟩
     ·intro c' v G' hA hg hv _ k
      exact iE (9,1) (by exact bY _ _) fun x hx=>⟨rfl,(aD.refl _ _).fresh hx,x,rfl,aI _ _ _⟩
     intro D ys1 G1 hD k1 hD1 hp
     rw [AG] at hp
     have hyl1:=hp.length
     rw [cT] at hyl1
     have hlw1:G1 lw=some ⟨(9,4),.list ys'⟩:=by exact q9 k1 (b9 (aI _ _ _) (b9 h2 h3 (b6 rfl)) (b6 rfl)) rfl
     have hlk1:G1 lk=some ⟨(9,3),.cR (stored es (σ.md b).num (Value.bool true))⟩:=by exact q9 k1 (aI _ _ _) rfl
     have hlf1:G1 lf=some ⟨(9,2),.list (fd.map Value.ref)⟩:=by exact q9 k1 (b9 (b9 h1 h3 (b6 rfl)) (b9 h2 h3 (b6 rfl)) (b6 rfl)) rfl
     have kG1:=k0.trans k1
     refine DT (xs:=ys') (by assumption) hD1 (by exact abF hyl hb2 hlen hr hw hyl1) ?_
     refine iP (by exact aI _ _ _) ?_
     refine iE (9,1) (by exact bY _ _) fun x2 hx2=>?_
     refine iD (xs:=ys'++ys1) (by exact bG (aI _ _ _) ‹_›) (by simp; exact abE hyl hb2 hlen hr hw hyl1) ?_
     refine DX (by exact aI _ _ _) ?_
     refine nQ X oo aJ hsc (9,5) rfl rfl ?_
     have kG2:aD [] G (upd (upd (upd G1 lw ⟨(9,4),.list (ys'++ys1)⟩) x2 ⟨(9,1),.tup [.ref b,.bool true]⟩) lw ⟨(9,4),.list (ys'++ys1++[.ref x2])⟩):=((kG1.new nlw).fresh hx2).new nlw
     refine bI X.bC ((W.keep kG2).mods b hb).obj rfl rfl ?_
     refine fV.list X (fun zz=>true) (fun v y G=>∃ x,y=Value.ref x∧G x=some ⟨(9,1),.tup [v,.bool false]⟩) ((W.keep kG2).mods b hb).bX (by simp; exact abD hb2 hlen hr hw) ?_ ?_ ?_ ?_
     ·rintro v y G G' ⟨x,rfl,hx⟩ k; exact ⟨x,rfl,k _ _ hx (by simp)⟩
     ·intro c' v G' hA hg hv k; exact ⟨rfl,rfl,.refl _ _⟩
     ·intro c' v G' hA hg hv _ k
      exact iE (9,1) (by exact bY _ _) fun x hx=>⟨rfl,(aD.refl _ _).fresh hx,x,rfl,aI _ _ _⟩
     intro D2 ys2 G2 hD2 k2 hD2' hp2
     rw [AG] at hp2
     have hyl2:=hp2.length
     rw [cT] at hyl2
     have e1:∀ z y,G' z=some y→y.tag=(9,1)→G1 z=some y:=fun z y hz ht=>k1 _ _ (b9 (b9 hz h3 (kM ht rfl)) (b9 h2 h3 (b6 rfl)) (kM ht rfl)) rfl
     have e2:∀ z y,G1 z=some y→y.tag=(9,1)→G2 z=some y:=fun z y hz ht=>k2 _ _ (b9 (bG (b9 hz hlw1 (kM ht rfl)) hx2) (by exact bG (aI _ _ _) ‹_›) (kM ht rfl)) rfl
     have hlw2:G2 lw=some ⟨(9,4),.list (ys'++ys1++[Value.ref x2])⟩:=by exact q9 k2 (aI _ _ _) rfl
     have hx2':G2 x2=some ⟨(9,1),.tup [.ref b,.bool true]⟩:=by exact q9 k2 (b9 (aI _ _ _) (bG (aI _ _ _) hx2) (b6 rfl)) rfl
     have e3:∀ z y,G2 z=some y→y.tag=(9,1)→upd G2 lw ⟨(9,4),.list (ys'++ys1++[Value.ref x2]++ys2)⟩ z=some y:=fun z y hz ht=>b9 hz hlw2 (kM ht rfl)
     have kk:aD [] G (upd G2 lw ⟨(9,4),.list (ys'++ys1++[Value.ref x2]++ys2)⟩):=(kG2.trans k2).new nlw
     refine DT (xs:=ys'++ys1++[Value.ref x2]) hlw2 hD2' (by simp; exact abC hyl hb2 hlen hr hw hyl1 hyl2) ?_
     refine hJ n _ _ _ (by exact bZ _) ⟨pushed σ.md b r,b::kn,fd,stored es (σ.md b).num (Value.bool true),ys'++ys1++[Value.ref x2]++ys2,_,_,rfl,kk,by exact b9 (q9 k2 (b9 (bG (b9 hlf1 hlw1 (b6 rfl)) hx2) (bG (aI _ _ _) hx2) (b6 rfl)) rfl) hlw2 (b6 rfl),by exact b9 (q9 k2 (b9 (bG (b9 hlk1 hlw1 (b6 rfl)) hx2) (bG (aI _ _ _) hx2) (b6 rfl)) rfl) hlw2 (b6 rfl),aI _ _ _,?_,?_,?_,hrun',?_,by exact (cZ hb1),?_⟩
     ·refine fM.push (s8 (fun v y hf=>?_) hp2) (.cons (e3 _ _ hx2' rfl) (fM.push (s8 (fun v y hf=>?_) hp) (hst'.mono fun z y hz ht=>e3 _ _ (e2 _ _ (e1 _ _ hz ht) ht) ht)))
      ·refine aV hf fun x zq2 hx=>?_; subst zq2; exact ⟨x,rfl,e3 _ _ hx rfl⟩
      ·refine aV hf fun x zq1 hx=>?_; subst zq1; exact ⟨x,rfl,e3 _ _ (e2 _ _ hx rfl) rfl⟩
     ·exact hkn.put F hb _
     ·have:=adH (md:=σ.md) (b:=b) (r:=r)
      exact abB hlen hr hw this
     ·exact D9 F hb hdom'
     ·have:=nH es (σ.md b).num (Value.bool true)
      exact abA hb2 this
    ·have hbk:b∈kn:=by
      rw [hkn b hb] at hkb; simpa using hkb
     refine hJ n _ _ _ (by exact ab9) ⟨r,kn,fd,es,ys',_,_,rfl,k1,by exact b9 h1 h3 (b6 rfl),by exact b9 h2 h3 (b6 rfl),by exact aI _ _ _,?_,hkn,by exact ab8 hlen,?_,hdom',by exact KG hb1,by exact KG hb2⟩
     ·exact hst'.mono fun z y hz ht=>b9 hz h3 (kM ht rfl)
     ·exact aY hrun (sb uM (sb (if_pos hbk) rfl))
  ·have he:ys=[]:=by simpa using hne
   obtain _ | ⟨⟨b,io⟩,r⟩:=st
   ·refine hQ lf _ nlf ?_ hk
    have:fd=cB σ a:=by refine aY hrun ?_; induction n using Nat.casesOn<;>rfl
    exact aY this h1
   ·refine cN hst.sM fun x ys' q zz=>?_
    rw [he] at q; simp at q
end
noncomputable def numOf (σ:Wd):Value→Int
 | .ref a=>(σ.md a).num
 | _=>0
section
variable {B:Bn} {R:Addr→Gh→Prop}
theorem D3 (X:Txt B.w B.K) {G:Gh} {σ:Wd} (W:WI G σ) (hi:gY σ) {l:Addr} {t:Tag} {xs:List Addr} (hl:G l=some ⟨t,.list (xs.map Value.ref)⟩) (hx:∀ x∈xs,x∈σ.dom) (hz:xs.length≤100000) {Q:Value→Gh→Prop} (hQ:∀ D es G',G D=none→G' D=some ⟨(9,7),.cR es⟩→tK σ es xs→aD [] G G'→Q (.ref D) G') :
  Call B (.ref 408) [.ref l] G 1 4 Q:=by
 refine TY X fun c oo hsc aJ hb=>?_
 refine ajD X oo aJ hsc (9,7) (numOf σ) rfl rfl ?_
 refine zH.mk hl (aG (b5 (cT _)) hz) ?_ ?_
 ·intro c' v G' hA hg hv k
  refine aV (cP.mp hv) fun x hx' zq1=>?_
  subst zq1
  refine bI X.bC ((W.keep k).mods x (hx x hx')).obj rfl rfl ?_
  exact ⟨rfl,⟨_,rfl⟩,aD.refl _ _⟩
 ·intro D es G' hD k hD' he
  refine hQ D es _ hD hD' ?_ k
  intro a ha
  (refine sb (he _) (sb vI ?_); rw [nR])
  simp only [mS,cP,Function.comp]
  constructor
  ·rintro ⟨b,hb,e⟩
   exact hi b (hx b hb) a ha e▸hb
  ·exact fun h=>⟨a,h,rfl⟩
end
noncomputable def n9 (s:Stmt):List Stmt:=(sE s).2.1
noncomputable def jA (l:List Stmt) (i:Nat):Stmt:=l.getD i (.Pass ⟨0,0,0,0⟩)
theorem ad6 (md:Addr→Mod) (n:Nat):∀ st k f,(iC md n st k f).length≤f.length+n:=by
 induction n with
 | zero=>exact fun zz zz f=>bZ _
 | succ n ih =>
  intro st k f
  induction st using List.casesOn with
  | nil=>exact gX _ _
  | cons e r =>
   obtain ⟨a,b⟩:=e
   induction b using Bool.casesOn with
   | true =>
    have:=ih r k (f++[a])
    rw [fR,pG] at this
    show (iC md n r k (f++[a])).length≤_
    exact bQ this (by simp +arith only)
   | false =>
    refine sb uM ?_
    by_cases h:a∈k
    ·exact sb (if_pos h) (Nat.le_succ_of_le (ih r k f))
    ·exact sb (if_neg h) (Nat.le_succ_of_le (ih (pushed md a r) (a::k) f))
theorem ad5 {σ:Wd} (F:WF σ) (n:Nat):∀ st k f,(∀ e∈st,e.1∈σ.dom)→(∀ x∈f,x∈σ.dom)→∀ x∈iC σ.md n st k f,x∈σ.dom:=by
 induction n with
 | zero=>exact fun zz zz f zz hf=>hf
 | succ n ih =>
  intro st k f hs hf
  induction st using List.casesOn with
  | nil=>exact hf
  | cons e r =>
   obtain ⟨a,b⟩:=e
   have hr:∀ e∈r,e.1∈σ.dom:=fun e he=>hs e (cL _ he)
   induction b using Bool.casesOn with
   | true =>
    refine ih r k (f++[a]) hr fun x hx=>?_
    rcases bW.mp hx with h | h
    ·exact hf x h
    ·exact sb (cG.mp h) (hs _ c8)
   | false =>
    refine sb uM ?_
    by_cases h:a∈k
    ·exact sb (if_pos h) (ih r k f hr hf)
    ·exact sb (if_neg h) (ih _ _ f (D9 F (hs _ c8) hr) hf)
theorem oY {σ:Wd} (F:WF σ) {a:Addr} (ha:a∈σ.dom):∀ x∈cB σ a,x∈σ.dom :=
 ad5 F _ _ _ _ (by simpa using ha) (by exact sZ _)
theorem xD {σ:Wd} (F:WF σ) (a:Addr):(cB σ a).length≤50001:=by
 have:=ad6 σ.md (1+rest σ.md σ.dom []) [(a,false)] [] []
 have:=F.small
 unfold cB; simp at *; exact aG this (aG (fS (by assumption) _) (ble rfl))
noncomputable def split (a:Addr) (known:List Addr):Bool→List Addr→List Addr
 | _,[]=>[]
 | b,x::r=>if (b&&decide (x≠a))||!known.contains x then x::split a known (b&&decide (x≠a)) r else split a known (b&&decide (x≠a)) r
theorem xS {a:Addr} {known:List Addr} {b:Bool} {x:Addr} {r:List Addr}:split a known b (x::r)=if (b&&decide (x≠a))||!known.contains x then x::split a known (b&&decide (x≠a)) r else split a known (b&&decide (x≠a)) r:=rfl
theorem MJ (a:Addr) (known:List Addr) (b:Bool) (l:List Addr):(split a known b l).Sublist l:=by
 induction l generalizing b with
 | nil=>exact .slnil
 | cons x r ih =>
  refine sb xS ?_
  by_cases h:((b&&decide (x≠a))||!known.contains x)=true
  ·exact sb (if_pos h) ((ih _).cons₂ x)
  ·exact sb (if_neg h) ((ih _).cons x)
theorem DJ (a:Addr) (known:List Addr) (b:Bool) (l:List Addr):∀ x∈split a known b l,x∈l:=fun zz h=>(MJ a known b l).subset h
noncomputable def addrOf:Value→Addr
 | .ref a=>a
 | _=>0
theorem UH (p:Addr→Bool) (l:List Addr):(l.map Value.ref).filter (fun v=>p (addrOf v))=(l.filter p).map Value.ref:=by
 induction l with
 | nil=>rfl
 | cons a r ih=>by_cases h:p a<;>simp [h,addrOf] at ih ⊢<;>exact ih
theorem adD {G:Gh} {vs ys:List Value} (h:Paired (fun v y=>y=v) vs ys):ys=vs:=by
 induction h with
 | nil=>rfl
 | cons e _ ih=>exact sb e (sb ih rfl)
noncomputable def dI (σ:Wd) (a:Addr) (behind:List Addr):List Addr :=
 if (σ.md a).ahead=[]∧(σ.md a).mixed=[] then a::behind else
  split a behind true (cB σ a)++behind.filter fun x=>!(split a behind true (cB σ a)).contains x
section
variable {B:Bn} {R:Addr→Gh→Prop}
inductive FT (G:Gh) (σ:Wd) (a lb D lf:Addr) (bs:List Addr) (es:List (Int×Value)):Nat→aA→Gh→Prop
 | mk {k:Nat} {G':Gh} (ov:Option Value) (b:Bool) (fd:List Addr) (kp:aD [] G G') (hf:G' lf=some ⟨(9,8),.list (fd.map Value.ref)⟩) (hD:G' D=some ⟨(9,7),.cR es⟩)
   (hs:fd++split a bs b ((cB σ a).drop k)=split a bs true (cB σ a)) (hl:fd.length≤k) :
   FT G σ a lb D lf bs es k (uX (some (.ref a)) (some (.ref lb)) (some (.ref D)) (some (.ref lf)) (some (.bool b)) ov none) G'
theorem ZL (X:Txt B.w B.K) {G:Gh} {σ:Wd} (W:WI G σ) (F:WF σ) {a lb:Addr} {tb:Tag} {bs:List Addr} (ha:a∈σ.dom) (hb:G lb=some ⟨tb,.list (bs.map Value.ref)⟩) (hbd:∀ x∈bs,x∈σ.dom) (hbz:bs.length≤40000) {Q:Value→Gh→Prop} (hQ:∀ l G',G l=none→G' l=some ⟨(9,5),.list ((dI σ a bs).map Value.ref)⟩→aD [] G G'→Q (.ref l) G') :
  Call B (.ref 413) [.ref a,.ref lb] G 4 80 Q:=by
 refine TS X fun c oo hsc aJ hbu=>?_
 have hM:=(W.mods a ha).obj
 have hMx:=(W.mods a ha).mix
 have hMa:=(W.mods a ha).bX
 have main:∀ G1,aD [] G G1→¬((σ.md a).ahead=[]∧(σ.md a).mixed=[]) →
   ws B c bJ rK 59 ((bodyOf (topS 41)).drop 1) (bA Q) (uX (some (.ref a)) (some (.ref lb)) none none none none none) G1:=by
  intro G1 k1 hne
  refine iZ X oo aJ hsc ["known","found","is_ahead"] (by kernel_rfl!) (by kernel_rfl!) ?_
  have W1:=W.keep k1
  refine aQ hbu (D3 X W1 F.inj (k1 _ _ hb rfl) hbd (by exact aG hbz (ble rfl)) fun D es G2 hD hD2 hes k2=>?_)
  refine eS (9,8) (by simp) fun lf hlf=>?_
  refine iE (9,1) (by exact bY _ _) fun t1 ht1=>?_
  refine gQ.mk (aI _ _ _) rfl rfl ?_
  have k2':aD [] G (upd (upd G2 lf ⟨(9,8),.list []⟩) t1 ⟨(9,1),.tup [.ref D,.ref lf,.bool true]⟩):=((k1.trans k2).fresh hlf).fresh ht1
  refine aQ hbu (xF X (W.keep k2') F ha fun lo G3 hlo hlo3 k3=>?_)
  have hlf3:G3 lf=some ⟨(9,8),.list []⟩:=k3 _ _ (bG (aI _ _ _) ht1) rfl
  have hD3:G3 D=some ⟨(9,7),.cR es⟩:=k3 _ _ (bG (bG hD2 hlf) ht1) rfl
  have k4:=k2'.trans k3
  clear k2'
  have nlf:G lf=none:=(k1.trans k2).none hlf fun zz zz=>rfl
  refine nM (FT G σ a lb D lf bs es) hlo3 (fun I hI=>.mk _ true [] (k4.fresh hI) (bG hlf3 hI) (bG hD3 hI) (by exact z0 _) (by simp)) ?_ ?_
  ·rintro J' I k v _ G' hJ hI hv ⟨ov,b,fd,hk,hlf',hD',hsp,hfd⟩ hI' hl'
   simp only [jF,mX] at hv
   obtain ⟨x,hv,rfl⟩:=hv
   have hxd:=oY F ha x (cE hv)
   have hkl:=(cO.mp hv).1
   have hol:=xD F a
   have nI:G I=none:=k4.none hI fun zz zz=>rfl
   have kI:aD [] G (upd G' I ⟨(9,0),.lit lo (k+1)⟩):=hk.new nI
   have W':=W.keep kI
   have hlf2:upd G' I ⟨(9,0),.lit lo (k+1)⟩ lf=some ⟨(9,8),.list (fd.map Value.ref)⟩:=b9 hlf' hI' (b6 rfl)
   have hD2:upd G' I ⟨(9,0),.lit lo (k+1)⟩ D=some ⟨(9,7),.cR es⟩:=b9 hD' hI' (b6 rfl)
   have hlo2:upd G' I ⟨(9,0),.lit lo (k+1)⟩ lo=some ⟨(9,2),.list ((cB σ a).map Value.ref)⟩:=b9 hl' hI' (b6 rfl)
   have hI2:upd G' I ⟨(9,0),.lit lo (k+1)⟩ I=some ⟨(9,0),.lit lo (k+1)⟩:=aI _ _ _
   generalize upd G' I ⟨(9,0),.lit lo (k+1)⟩=G5 at *
   refine jT (iQ oo rfl (gG X oo aJ ?_))
   have tail:∀ b',b'=(b&&decide (x≠a))→ws B c bJ rK 59 ((n9 (jA (bodyOf (topS 41)) 2)).drop 1) (lP J' (eE (ws B c bJ rK 57 ((bodyOf (topS 41)).drop 3) (bA Q)) (bA Q)))
     (uX (some (.ref a)) (some (.ref lb)) (some (.ref D)) (some (.ref lf)) (some (.bool b')) (some (.ref x)) none) G5:=by
    intro b' hb'
    have hsp':fd++(if b'||!bs.contains x then x::split a bs b' ((cB σ a).drop (k+1)) else split a bs b' ((cB σ a).drop (k+1)))=split a bs true (cB σ a):=by
     (refine aY hsp (sb (qN (cO.mp hv).1) ?_); rw [split])
     exact sb ((cO.mp hv).2) (aY hb' rfl)
    have app:(b'||!bs.contains x)=true→J' (uX (some (.ref a)) (some (.ref lb)) (some (.ref D)) (some (.ref lf)) (some (.bool b')) (some (.ref x)) none) (upd G5 lf ⟨(9,8),.list (fd.map Value.ref++[Value.ref x])⟩):=by
     intro hc
     rw [if_pos hc] at hsp'
     refine hJ _ _ (.mk _ b' (fd++[x]) (kI.new nlf) (by exact sb dR (aI _ _ _)) (b9 hD2 hlf2 (b6 rfl)) (by simpa using hsp') (by simp; exact hfd)) (b9 hI2 hlf2 (b6 rfl)) (b9 hlo2 hlf2 (b6 rfl))
    have hin:=hes x hxd
    refine cV (fun hbt=>?_) (fun hbf=>?_)
    ·refine iP hlf2 (iD hlf2 (by simp; exact KJ hfd hkl hol) ?_)
     exact app (by simp [hbt])
    ·refine bI X.bC (W'.mods x hxd).obj rfl rfl ?_
     refine uW hD2 ?_
     refine cV (fun hkn=>?_) (fun hkn=>?_)
     ·refine iP hlf2 (iD hlf2 (by simp; exact KJ hfd hkl hol) ?_)
      exact app (by exact aY hin (sb hbf hkn))
     ·rw [if_neg (by refine aY hin (sb hbf ?_); simp only [Bool.not_eq_false'] at hkn; simp [hkn])] at hsp'
      exact hJ _ _ (.mk _ b' fd kI hlf2 hD2 hsp' (by exact aG hfd (gX _ _))) hI2 hlo2
   refine cV (fun hbt=>?_) (fun hbf=>?_)
   ·refine aQ hbu (mG X (W'.gV hxd) (W'.gV ha) ?_)
    refine sb (oK F.inj hxd ha) ?_
    refine tail _ ?_
    subst hbt; simp
   ·refine tail _ ?_
    subst hbf; exact rfl
  ·rintro I _ G' hI ⟨ov,b,fd,hk,hlf',hD',hsp,hfd⟩ hI' hl'
   have hol:=xD F a
   rw [cT] at hfd hsp
   rw [EW,split,jW] at hsp
   have nI:G I=none:=k4.none hI fun zz zz=>rfl
   have kE:aD [] G (era G' I):=hk.era nI
   have hlfE:era G' I lf=some ⟨(9,8),.list (fd.map Value.ref)⟩:=kF hlf' (fun e=>by rw [e] at hlf'; rw [hI'] at hlf'; cases hlf')
   have hfdd:∀ x∈fd,x∈σ.dom:=fun x hx=>oY F ha x (DJ a bs true _ x (hsp▸hx))
   generalize era G' I=G6 at *
   refine aQ hbu (D3 X (W.keep kE) F.inj hlfE hfdd (by exact abJ hfd hol) fun D2 es2 G2 hD2 hD2' hes2 k4=>?_)
   have hlf2:G2 lf=some ⟨(9,8),.list (fd.map Value.ref)⟩:=k4 _ _ hlfE rfl
   have k5:=kE.trans k4
   refine nQ X oo aJ hsc (9,6) rfl rfl ?_
   refine fV.pure X (fun v=>!fd.contains (addrOf v)) id (k5 _ _ hb rfl) (by exact sb (cT _) (aG hbz (ble rfl))) ?_ ?_ ?_
   ·intro c' v G' hA hg hv k
    refine aV (cP.mp hv) fun x hx zq1=>?_
    subst zq1
    have hxd:=hbd x hx
    refine bI X.bC ((W.keep (k5.trans k)).mods x hxd).obj rfl rfl ?_
    refine uW (k _ _ hD2' rfl) ⟨rfl,?_,aD.refl _ _⟩
    refine sb (hes2 x hxd) ?_; rfl
   ·intro c' v G' hA hg hv _ k
    exact ⟨rfl,aD.refl _ _,rfl⟩
   ·intro D' G3 hD3 k3 hD3'
    rw [UH (fun x=>!fd.contains x),vH] at hD3'
    have hfl:=nU (fun x=>!fd.contains x) bs
    refine pA (9,5) (k3 _ _ hlf2 rfl) hD3' (by exact sb (cT _) (sb (cT _) (dQ (cY hbz hfd) (cY hol hfl) (by simp +arith only)))) fun l hl=>?_
    have kk:=k5.trans k3
    refine hQ l _ (kk.none hl fun zz zz=>rfl) ?_ (kk.fresh hl)
    refine aY dR ?_
    have:dI σ a bs=fd++bs.filter fun x=>!fd.contains x:=by
     (rewrite [dI]; exact sb (if_neg hne) (aY hsp rfl))
    refine sb this ?_
    exact aI _ _ _
 refine bI X.bC hM rfl rfl ?_
 refine eS (9,6) (by simp) fun l0 hl0=>?_
 refine NB (bG hMa hl0) (aI _ _ _) hbu rfl ?_
 refine cV (fun h1=>?_) (fun h1=>?_)
 ·refine bI X.bC (bG hM hl0) rfl rfl ?_
  refine eS (9,6) (by simp) fun l1 hl1=>?_
  refine NB (bG (bG hMx hl0) hl1) (aI _ _ _) hbu rfl ?_
  have k1:=((aD.refl [] G).fresh (x:=⟨(9,6),.list []⟩) hl0).fresh (x:=⟨(9,6),.list []⟩) hl1
  refine cV (fun h2=>?_) (fun h2=>?_)
  ·refine eS (9,6) (by exact iR _) fun l2 hl2=>?_
   refine pA (9,5) (aI _ _ _) (bG (k1 _ _ hb rfl) hl2) (by refine sb (cT _) ?_; show 1+bs.length≤_; exact abI hbz) fun l hl=>?_
   refine hQ l _ ((k1.fresh hl2).none hl fun zz zz=>rfl) ?_ ((k1.fresh hl2).fresh hl)
   have:dI σ a bs=a::bs:=by
    simp at h1 h2
    simp [dI,h1,h2]
   refine sb this ?_
   exact aI _ _ _
  ·refine main _ k1 ?_
   simp at h1 h2
   simp [h1,h2]
 ·refine main _ ((aD.refl _ _).fresh hl0) ?_
  simp at h1
  simp [h1]
end
noncomputable abbrev Mod.kp (m:Mod) (v:Value):Mod:={m with kept:=v}
theorem uB {T:List Nat} {G:Gh} {I:Addr} {z:GO} (h:G I=some z) (ht:T.contains z.tag.1=true):aD T G (era G I):=fun b y hb hy=>by
 by_cases e:b=I
 ·subst e; rw [h] at hb; obtain rfl:=bO hb; rw [ht] at hy; exact rY hy
 ·exact kF hb e
noncomputable def Wd.kp (σ:Wd) (κ:Addr→Value):Wd:={σ with md:=fun b=>{σ.md b with kept:=κ b}}
theorem YU (σ:Wd) (κ:Addr→Value) (x:Addr) (v:Value):(σ.kp κ).put x ((σ.md x).kp v)=σ.kp fun b=>if b=x then v else κ b:=by
 unfold Wd.kp Wd.put
 congr 1
 funext b
 by_cases h:b=x
 ·exact sb h ((if_pos rfl).trans (congrArg (Mod.kp _) (if_pos rfl).symm))
 ·exact (if_neg h).trans (congrArg (Mod.kp _) (if_neg h).symm)
theorem rS (σ:Wd):σ.kp (fun b=>(σ.md b).kept)=σ:=rfl
theorem xE {md md':Addr→Mod} (h:∀ a,(md' a).mixed=(md a).mixed∧(md' a).ahead=(md a).ahead):∀ n st k f,iC md' n st k f=iC md n st k f
 | 0,_,_,f=>rfl
 | _+1,[],_,f=>rfl
 | n+1,(a,true)::r,k,f=>xE h n r k _
 | n+1,(a,false)::r,k,f=>by
  have e:pushed md' a r=pushed md a r:=by unfold pushed; exact sb ((h a).1) (sb ((h a).2) rfl)
  (rewrite [iC]; rewrite [iC]; exact sb e (sb (xE h n _ _ _) (sb (xE h n _ _ _) ((by rfl)))))
theorem YT (σ:Wd) (κ:Addr→Value) (a:Addr):cB (σ.kp κ) a=cB σ a :=
 xE (md:=σ.md) (md':=(σ.kp κ).md) (fun zz=>⟨rfl,rfl⟩) _ _ _ _
theorem YS (σ:Wd) (κ:Addr→Value) (a:Addr) (b:List Addr):dI (σ.kp κ) a b=dI σ a b:=by
 unfold dI; refine sb (YT _ _ _) ?_; rfl
theorem WF.kp {σ:Wd} (F:WF σ) (κ:Addr→Value):WF (σ.kp κ):=⟨F.inj,F.nd,F.mix,F.bX,F.small⟩
noncomputable def pP (L:Addr→List Addr):Value→List Addr
 | .ref b=>L b
 | _=>[]
structure vU (σ:Wd) (L:Addr→List Addr):Prop where
 eq:∀ a∈σ.dom,L a=dI σ a (pP L (σ.md a).parent)
 dom:∀ a∈σ.dom,∀ x∈L a,x∈σ.dom
 len:∀ a∈σ.dom,(L a).length≤40000
noncomputable def n7 (σ:Wd) (rk:Addr→Nat):Prop:=∀ a∈σ.dom,rk a≤1000∧((σ.md a).parent=.none∨∃ b,(σ.md a).parent=.ref b∧b∈σ.dom∧rk b<rk a)
noncomputable def dM (G:Gh) (σ:Wd) (L:Addr→List Addr) (a:Addr):Prop:=(σ.md a).kept=.none ∨
 ∃ k v u l ln,(σ.md a).kept=.ref k∧G k=some ⟨(7,0),.tup [.int v u,.ref l]⟩∧G l=some ⟨(7,1),.list (yX Value.ref ln)⟩∧v≤σ.cD∧(v=σ.cD→ln=L a)
theorem dM.keep {T:List Nat} {G G':Gh} {σ:Wd} {L:Addr→List Addr} {a:Addr} (h:dM G σ L a) (k:aD T G G') (hT:T.contains 7=false:=by rfl):dM G' σ L a:=by
 rcases h with h | ⟨x,v,u,l,ln,h1,h2,h3,h4⟩
 ·exact .inl h
 ·exact .inr ⟨x,v,u,l,ln,h1,k _ _ h2 hT,k _ _ h3 hT,h4⟩
inductive l7 (σ:Wd) (a:Addr):List Addr→Value→Prop
 | nil:l7 σ a [] (.ref a)
 | cons {x:Addr} {rs:List Addr} {c:Value}:l7 σ a rs (.ref x)→(σ.md x).parent=c→x∈σ.dom→l7 σ a (x::rs) c
theorem l7.last {σ:Wd} {a:Addr} {c:Value} (h:l7 σ a [] c):c=.ref a:=by cases h; rfl
theorem l7.sM {σ:Wd} {a x:Addr} {rs:List Addr} {c:Value} (h:l7 σ a (x::rs) c):l7 σ a rs (.ref x)∧(σ.md x).parent=c∧x∈σ.dom:=by cases h with | cons h1 h2 h3=>exact ⟨h1,h2,h3⟩
noncomputable def Rk (rk:Addr→Nat):Value→Nat
 | .ref b=>rk b+1
 | _=>0
section
variable {B:Bn} {R:Addr→Gh→Prop}
inductive GF (G:Gh) (σ:Wd) (rk:Addr→Nat) (a lw:Addr):Nat→aA→Gh→Prop
 | mk {n:Nat} {G':Gh} (wl:List Addr) (cv:Value) (kp:aD [] G G') (hw:G' lw=some ⟨(9,8),.list (wl.map Value.ref)⟩) (up:l7 σ a wl.reverse cv) (hc:cv=.none∨∃ b,cv=.ref b∧b∈σ.dom) (hn:Rk rk cv=n) (hl:wl.length+n≤1001) :
   GF G σ rk a lw n (uY (some (.ref σ.a)) (some cv) (some (.ref lw)) none none) G'
theorem YM {G G':Gh} {σ:Wd} {κ:Addr→Value} {L:Addr→List Addr} {x kt l2:Addr} (hK:∀ b∈σ.dom,dM G (σ.kp κ) L b) (kf:aD [1] G G') (hkt:G' kt=some ⟨(7,0),.tup [.int σ.cD σ.iG,.ref l2]⟩) (hl2:G' l2=some ⟨(7,1),.list ((L x).map Value.ref)⟩):∀ b∈σ.dom,dM G' (σ.kp fun b=>if b=x then .ref kt else κ b) L b:=fun b hb=>by
 by_cases e:b=x
 ·exact .inr ⟨kt,σ.cD,σ.iG,l2,L b,if_pos e,hkt,e▸hl2,vC _,fun zz=>rfl⟩
 ·rcases (hK b hb).keep kf with h | ⟨k,v,u,l,ln,h1,h2,h3,h4,h5⟩
  ·exact .inl ((if_neg e).trans h)
  ·exact .inr ⟨k,v,u,l,ln,(if_neg e).trans h1,h2,h3,h4,h5⟩
inductive FQ (G:Gh) (σ:Wd) (L:Addr→List Addr) (a lw I:Addr) (wl:List Addr) (cv:Value):Nat→aA→Gh→Prop
 | mk {k:Nat} {G':Gh} (ll:Addr) (ov:Option Value) (t:Tag) (cv':Value) (κ:Addr→Value) (kp:aD [1] G G') (up:l7 σ a (wl.reverse.drop k) cv') (hll:G' ll=some ⟨t,.list ((pP L cv').map Value.ref)⟩) (t9:t≠(9,0)) (t1:t.1≠1) (t7:cv'≠.none→t=(7,1))
   (W:WI G' (σ.kp κ)) (hK:∀ a∈σ.dom,dM G' (σ.kp κ) L a) (hc:cv'=.none∨∃ b,cv'=.ref b∧b∈σ.dom) (hI:∃ z,G' I=some ⟨(9,0),z⟩) :
   FQ G σ L a lw I wl cv k (uY (some (.ref σ.a)) (some cv) (some (.ref lw)) (some (.ref ll)) ov) G'
theorem J9 (X:Txt B.w B.K) {G:Gh} {σ:Wd} (W:WI G σ) (F:WF σ) {L:Addr→List Addr} {rk:Addr→Nat} (hL:vU σ L) (hU:n7 σ rk) (hK:∀ a∈σ.dom,dM G σ L a) {a:Addr} (ha:a∈σ.dom) {Q:Value→Gh→Prop} (hQ:∀ l κ G',G' l=some ⟨(7,1),.list ((L a).map Value.ref)⟩→WI G' (σ.kp κ)→(∀ a∈σ.dom,dM G' (σ.kp κ) L a)→aD [1] G G'→Q (.ref l) G') :
  Call B (.ref 420) [.ref σ.a,.ref a] G 6 100 Q:=by
 refine TR X fun c oo hsc aJ hbu=>?_
 refine eS (9,8) (by simp) fun lw hlw=>?_
 have fin:∀ G1 (wl:List Addr) (cv:Value) (ll:Addr) (ov:Option Value),aD [] G G1→G1 lw=some ⟨(9,8),.list (wl.map Value.ref)⟩→l7 σ a wl.reverse cv →
   (∃ t,G1 ll=some ⟨t,.list ((pP L cv).map Value.ref)⟩∧t≠(9,0)∧t.1≠1∧(cv≠.none→t=(7,1)))→(cv=.none∨∃ b,cv=.ref b∧b∈σ.dom) →
   ws B c bJ u0 57 ((bodyOf (topS 42)).drop 3) (bA Q) (uY (some (.ref σ.a)) (some cv) (some (.ref lw)) (some (.ref ll)) ov) G1:=by
  intro G1 wl cv ll ov k1 hlw1 hup ⟨t0,hll,ht9,ht1,ht0⟩ hcv
  refine NQ hlw1 fun I hI=>?_
  have nI:G I=none:=k1.none hI fun zz zz=>rfl
  refine NC (t:=(9,8)) (xs:=wl.map Value.ref) (l:=lw) (FQ G σ L a lw I wl cv) (aI _ _ _) (bG hlw1 hI) ?_ ?_ ?_
  ·exact .mk ll ov t0 cv (fun b=>(σ.md b).kept) (k1.fresh hI).mono hup (bG hll hI) ht9 ht1 ht0 (rS σ▸W.keep (k1.fresh hI)) (rS σ▸fun a ha=>(hK a ha).keep (k1.fresh hI)) hcv ⟨_,aI _ _ _⟩
  ·rintro J' k v _ G' hJ hv ⟨ll,ov,t,cv',κ,hk,hup',hll',ht9',ht1',ht,W',hK',hcv',hz⟩ hI' hl'
   rw [←vJ] at hv
   simp only [jF,mX] at hv
   obtain ⟨x,hv,rfl⟩:=hv
   obtain ⟨hlt,hx⟩:=cO.mp hv
   rw [qN hlt,hx] at hup'
   refine dC hup'.sM fun hup2 hpar hxd=>?_
   generalize GK.eT lw (((wl.map Value.ref).length:Int) - 1 - ((k+1:Nat):Int))=z at *
   have k9:aD [9] G' (upd G' I ⟨(9,0),z⟩):=(aD.refl _ _).turn hI' rfl
   have hll2:upd G' I ⟨(9,0),z⟩ ll=some ⟨t,.list ((pP L cv').map Value.ref)⟩:=b9 hll' hI' ht9'
   have hlw2:upd G' I ⟨(9,0),z⟩ lw=some ⟨(9,8),.list (wl.map Value.ref)⟩:=b9 hl' hI' (b6 rfl)
   have hI2:=aI G' I ⟨(9,0),z⟩
   have kI:aD [1] G (upd G' I ⟨(9,0),z⟩):=hk.new nI
   have W5:=W'.keep k9
   have hK5:∀ b∈σ.dom,dM (upd G' I ⟨(9,0),z⟩) (σ.kp κ) L b:=fun b hb=>(hK' b hb).keep k9
   generalize upd G' I ⟨(9,0),z⟩=G5 at *
   clear k9
   refine jT (iQ oo rfl (gG X oo aJ ?_))
   refine aQ hbu (ZL X W5 (F.kp κ) hxd (tb:=t) (bs:=pP L cv') hll2 ?_ ?_ fun l2 G2 hl2 hl2' k2=>?_)
   ·rcases hcv' with rfl | ⟨b,rfl,hb⟩
    ·intro y hy; cases hy
    ·exact hL.dom b hb
   ·rcases hcv' with rfl | ⟨b,rfl,hb⟩
    ·exact nY _
    ·exact hL.len b hb
   have hLx:dI (σ.kp κ) x (pP L cv')=L x:=by (rewrite [YS]; exact aY hpar ((hL.eq x hxd).symm))
   rw [hLx] at hl2'
   have hIa:G2 I=some _:=k2 _ _ hI2 rfl
   have hlwa:G2 lw=some _:=k2 _ _ hlw2 rfl
   refine ai2 (7,1) hl2' ?_
   have kb:aD [] G5 (upd G2 l2 ⟨(7,1),.list ((L x).map Value.ref)⟩):=k2.new hl2
   have hIb:upd G2 l2 ⟨(7,1),.list ((L x).map Value.ref)⟩ I=some ⟨(9,0),z⟩:=b9 hIa hl2' (b6 rfl)
   have hlwb:upd G2 l2 ⟨(7,1),.list ((L x).map Value.ref)⟩ lw=some ⟨(9,8),.list (wl.map Value.ref)⟩:=b9 hlwa hl2' (b6 rfl)
   have hl2b:upd G2 l2 ⟨(7,1),.list ((L x).map Value.ref)⟩ l2=some ⟨(7,1),.list ((L x).map Value.ref)⟩:=aI _ _ _
   generalize upd G2 l2 ⟨(7,1),.list ((L x).map Value.ref)⟩=G6 at *
   have W6:=W5.keep kb
   refine bI X.b8 W6.obj rfl rfl ?_
   refine iF (7,0) (bY _ _) fun kt G7 k67 hkt gkt=>?_
   have k7:=kb.trans k67
   have W7:=W5.keep k7
   have hMx:=(W7.mods x hxd).obj
   refine fF X.bC hMx rfl rfl rfl ?_
   have W8:=W7.qI hxd (m:=(σ.md x).kp (.ref kt)) ⟨rfl,rfl,rfl,rfl,rfl,rfl⟩
   rw [YU] at W8
   have hIc:upd G7 x ⟨(1,0),.inst 268 (Mod.fs ((σ.md x).kp (.ref kt)))⟩ I=_:=b9 (k67 _ _ hIb rfl) hMx (b6 rfl)
   have hl2c:upd G7 x ⟨(1,0),.inst 268 (Mod.fs ((σ.md x).kp (.ref kt)))⟩ l2=_:=b9 (k67 _ _ hl2b rfl) hMx (b6 rfl)
   have kf:aD [1] G5 (upd G7 x ⟨(1,0),.inst 268 (Mod.fs ((σ.md x).kp (.ref kt)))⟩):=k7.mono.turn hMx rfl
   exact hJ _ _ (.mk l2 _ (7,1) (.ref x) _ (kI.trans kf) hup2 hl2c (by decide) (by decide) (fun zz=>rfl) W8 (YM hK5 kf (b9 gkt hMx (b6 rfl)) hl2c) (.inr ⟨x,rfl,hxd⟩) ⟨_,hIc⟩) hIc (b9 (k67 _ _ hlwb rfl) hMx (b6 rfl))
  ·rintro _ G' ⟨ll,ov,t,cv',κ,hk,hup',hll',ht9',ht1',ht,W',hK',hcv',z,hz⟩ hl'
   rw [cT,←List.length_reverse,EW] at hup'
   obtain rfl:=hup'.last
   have hte:=ht (by simp)
   subst hte
   exact hQ ll κ _ ((uB (T:=[9]) hz rfl) _ _ hll' rfl) (W'.keep (uB (T:=[9]) hz rfl)) (fun b hb=>(hK' b hb).keep (uB (T:=[9]) hz rfl)) (hk.era nI)
 refine sN (GF G σ rk a lw) (rk a+1) ?_ ?_
 ·exact .mk [] (.ref a) ((aD.refl _ _).fresh hlw) (aI _ _ _) .nil (.inr ⟨a,rfl,ha⟩) rfl (by have:=(hU a ha).1; simp; exact this)
 ·rintro J' hJ n _ G' ⟨wl,cv,hk,hlw',hup,hcv,hn,hwl⟩
  have W':=W.keep hk
  refine qL X aJ ?_
  rcases hcv with rfl | ⟨b,rfl,hb⟩
  ·refine eS (9,6) (by simp) fun l2 hl2=>?_
   exact fin _ wl .none l2 _ (hk.fresh hl2) (bG hlw' hl2) hup ⟨_,aI _ _ _,by decide,by decide,fun h=>absurd rfl h⟩ (.inl rfl)
  ·have hMb:=(W'.mods b hb).obj
   have again:V B c bJ (execs (n9 (jA (bodyOf (topS 42)) 1)) c.env) (uY (some (.ref σ.a)) (some (.ref b)) (some (.ref lw)) none none) G'
     (lP (J' n) (eE (ws B c bJ u0 58 ((bodyOf (topS 42)).drop 2) (bA Q)) (bA Q))):=by
    refine gG X oo aJ ?_
    refine iP hlw' (iD hlw' (by simp; exact bQ hwl (by simp +arith only)) ?_)
    have nlw:G lw=none:=hlw
    have hlb:upd G' lw ⟨(9,8),.list (wl.map Value.ref++[Value.ref b])⟩ b=some _:=b9 hMb hlw' (b6 rfl)
    refine bI X.bC hlb rfl rfl ?_
    obtain ⟨h1,h2⟩:=hU b hb
    have hr:Rk rk (σ.md b).parent<n:=by rcases h2 with h2 | ⟨d,h2,_,h3⟩<;>refine sb h2 ?_<;>simp [Rk] at hn ⊢<;>(first | exact KC hn | exact KD hn h3)
    refine hJ _ _ _ _ hr (.mk (wl++[b]) (σ.md b).parent (hk.new nlw) (by exact sb dR (aI _ _ _)) ?_ ?_ rfl (by simp; exact dQ hwl hr (by simp +arith only)))
    ·exact sb List.reverse_append (.cons hup rfl hb)
    ·exact h2.imp id fun ⟨d,e,hd,_⟩=>⟨d,e,hd⟩
   rcases hK b hb with hkb | ⟨x,v,u,l,ln,h1,h2,h3,h4,h5⟩
   ·have hMb':G' b=some ⟨(1,0),.inst 268 (Mod.fs {σ.md b with kept:=.none})⟩:=by refine aY hkb ?_; exact hMb
    refine bI X.bC hMb' rfl rfl ?_
    exact again
   ·have h2':=hk _ _ h2 rfl
    have h3':=hk _ _ h3 rfl
    have hMb':G' b=some ⟨(1,0),.inst 268 (Mod.fs {σ.md b with kept:=.ref x})⟩:=by exact aY h1 hMb
    refine bI X.bC hMb' rfl rfl ?_
    refine bI X.bC hMb' rfl rfl ?_
    refine ⟨fun zz=>eB h2' (by decide) rfl ?_⟩
    refine bI X.b8 W'.obj rfl rfl ?_
    refine cV (fun hv=>?_) (fun hv=>?_)
    ·exact again
    ·refine bI X.bC hMb' rfl rfl ?_
     refine ⟨fun zz=>eB h2' (by decide) rfl ?_⟩
     refine fin _ wl (.ref b) l _ hk hlw' hup ⟨(7,1),?_,by decide,by decide,fun zz=>rfl⟩ (.inr ⟨b,rfl,hb⟩)
     refine sb (show pP L (.ref b)=ln from (h5 (by simpa using hv)).symm) ?_
     exact h3'
end
section
variable {B:Bn} {R:Addr→Gh→Prop}
noncomputable abbrev DN (n:Int) (tn:Tok) (o:Value) (d:Addr):List (Str×Value):=[("number",.int n tn),("owner",o),("fields",.ref d),("own",.none),("frozen",.bool false),("ident",.none)]
theorem xV (X:Txt B.w B.K) {G:Gh} {x C:Addr} {tg:Tag} {n:Int} {tn:Tok} {o:Value} {fl:List Str} (CA:ClsAt B.K C (w5++fl)) (hG:G x=some ⟨tg,.inst C []⟩) (ho:handedIn o=true) {Q:Value→Gh→Prop} (hQ:∀ d G',G d=none→d≠x→G' d=some ⟨(8,0),.aZ []⟩→G' x=some ⟨tg,.inst C (DN n tn o d)⟩→fW x G G'→Q .none G') :
  Call B (.ref 77) [.ref x,.int n tn,o] G 1 4 Q:=by
 refine S9 X fun c oo hsc aJ hb=>?_
 have hin:∀ n,n∈w5→(w5++fl).contains n=true:=fun n hn=>by rw [mS,bW]; exact .inl hn
 refine qK CA hG rfl rfl (hin _ (by simp)) rfl ?_
 refine fG CA rfl rfl (hin _ (by simp)) ho ?_
 refine nN (8,0) fun d hd=>?_
 refine mJ CA hd rfl rfl (hin _ (by simp)) rfl fun hd hdx=>?_
 refine fG CA rfl rfl (hin _ (by simp)) rfl ?_
 refine fG CA rfl rfl (hin _ (by simp)) rfl ?_
 refine fG CA rfl rfl (hin _ (by simp)) rfl ?_
 exact hQ d _ hd hdx (by exact sb (bF hdx) (aI _ _ _)) (aI _ _ _) (((fW.refl x G).fresh hd).turn)
theorem JR (X:Txt B.w B.K) {G:Gh} {x:Addr} {tg:Tag} {n:Int} {tn:Tok} {o nm pa ou:Value} {cl:Bool} (hG:G x=some ⟨tg,.inst 268 []⟩) (ho:handedIn o=true) (hnm:handedIn nm=true) (hpa:handedIn pa=true) (hou:handedIn ou=true) {Q:Value→Gh→Prop}
  (hQ:∀ aF bE aC aT b7 G',G aC=none→G aT=none→G b7=none →
   G' aC=some ⟨(2,x),.aZ []⟩→G' aT=some ⟨(3,x),.list []⟩→G' b7=some ⟨(4,x),.list []⟩ →
   G' x=some ⟨tg,.inst 268 [("number",.int n tn),("owner",o),("fields",.ref aF),("own",.none),("frozen",.bool false),("ident",.none),("name",nm),("is_class",.bool cl),("parent",pa),("outer",ou),("methods",.ref bE),
 ("constants",.ref aC),("mixed",.ref aT),("ahead",.ref b7),("attached",.none),("native",.none),("kept",.none)]⟩→fW x G G'→Q .none G') (c:Cx) (oo:bB c) (hsc:c.env.scope=aU (aL 18 0)) (aJ:c.gl=pY) (hb:bD c 1 7) :
  ws B c bJ pY 60 (bodyOf (aL 18 0)) (bA Q) (ED (some (.ref x)) (some (.int n tn)) (some o) (some nm) (some (.bool cl)) (some pa) (some ou)) G:=by
 refine xY X.zZ ?_
 refine aQ hb (xV X (fl:=["name","is_class","parent","outer","methods","constants","mixed","ahead","attached","native","kept"]) X.bC hG ho fun d G1 hd hdx hd1 hx1 k1=>?_)
 refine qK X.bC hx1 rfl rfl rfl hnm ?_
 refine fG X.bC rfl rfl rfl rfl ?_
 refine fG X.bC rfl rfl rfl hpa ?_
 refine fG X.bC rfl rfl rfl hou ?_
 refine nN (8,0) fun bE hMeth=>?_
 refine mJ X.bC hMeth rfl rfl rfl rfl fun hMeth nMeth=>?_
 refine nN (2,x) fun aC hC=>?_
 refine mJ X.bC hC rfl rfl rfl rfl fun hC nC=>?_
 refine eS (3,x) (by simp) fun aT hMix=>?_
 refine mJ X.bC hMix rfl rfl rfl rfl fun hMix nMix=>?_
 refine eS (4,x) (by simp) fun b7 hAh=>?_
 refine mJ X.bC hAh rfl rfl rfl rfl fun hAh nAh=>?_
 refine fG X.bC rfl rfl rfl rfl ?_
 refine fG X.bC rfl rfl rfl rfl ?_
 refine fG X.bC rfl rfl rfl rfl ?_
 have z:∀ {b},G1 b=none→b≠x→G b=none:=fun {b} h e=>by
  cases q:G b with
  | none=>rfl
  | some y=>rw [k1 b y e q] at h; exact dK h
 exact hQ d bE aC aT b7 _ (z (nL hC).2 nC) (z (nL (nL hMix).2).2 nMix) (z (nL (nL (nL hAh).2).2).2 nAh)
  (by exact sb (bF nC) (bG (bG (aI _ _ _) hMix) hAh)) (by exact sb (bF nMix) (bG (aI _ _ _) hAh)) (by exact sb (bF nAh) (aI _ _ _)) (aI _ _ _) ((((k1.fresh hMeth).fresh hC).fresh hMix).fresh hAh).turn
theorem CS (X:Txt B.w B.K) {G:Gh} {x:Addr} {tg:Tag} {n:Int} {tn:Tok} {o nm pa ou:Value} {cl:Bool} (hG:G x=some ⟨tg,.inst 268 []⟩) (ho:handedIn o=true) (hnm:handedIn nm=true) (hpa:handedIn pa=true) (hou:handedIn ou=true) {Q:Value→Gh→Prop} (hQ:∀ aF bE aC aT b7 G',G aC=none→G aT=none→G b7=none→G' aC=some ⟨(2,x),.aZ []⟩→G' aT=some ⟨(3,x),.list []⟩→G' b7=some ⟨(4,x),.list []⟩→G' x=some ⟨tg,.inst 268 [("number",.int n tn),("owner",o),("fields",.ref aF),("own",.none),("frozen",.bool false),("ident",.none),("name",nm),("is_class",.bool cl),("parent",pa),("outer",ou),("methods",.ref bE),("constants",.ref aC),("mixed",.ref aT),("ahead",.ref b7),("attached",.none),("native",.none),("kept",.none)]⟩→fW x G G'→Q .none G') :
  Call B (.ref 258) [.ref x,.int n tn,o,nm,.bool cl,pa,ou] G 2 10 Q :=
 RW X fun c oo hsc aJ hb=>JR X hG ho hnm hpa hou hQ c oo hsc aJ hb
theorem aaC (X:Txt B.w B.K) {G:Gh} {x:Addr} {tg:Tag} {n:Int} {tn:Tok} {o nm:Value} {cl:Bool} (hG:G x=some ⟨tg,.inst 268 []⟩) (ho:handedIn o=true) (hnm:handedIn nm=true) {Q:Value→Gh→Prop} (hQ:∀ aF bE aC aT b7 G',G aC=none→G aT=none→G b7=none→G' aC=some ⟨(2,x),.aZ []⟩→G' aT=some ⟨(3,x),.list []⟩→G' b7=some ⟨(4,x),.list []⟩→G' x=some ⟨tg,.inst 268 [("number",.int n tn),("owner",o),("fields",.ref aF),("own",.none),("frozen",.bool false),("ident",.none),("name",nm),("is_class",.bool cl),("parent",.none),("outer",.none),("methods",.ref bE),("constants",.ref aC),("mixed",.ref aT),("ahead",.ref b7),("attached",.none),("native",.none),("kept",.none)]⟩→fW x G G'→Q .none G') :
  Call B (.ref 258) [.ref x,.int n tn,o,nm,.bool cl] G 2 10 Q :=
 RV X fun c oo hsc aJ hb=>JR X hG ho hnm rfl rfl hQ c oo hsc aJ hb
theorem agB (X:Txt B.w B.K) {G:Gh} {x:Addr} {tg:Tag} {n:Int} {tn:Tok} {o tx:Value} (hG:G x=some ⟨tg,.inst 102 []⟩) (ho:handedIn o=true) (ht:handedIn tx=true) {Q:Value→Gh→Prop} (hQ:∀ d G',G' x=some ⟨tg,.inst 102 (DN n tn o d++[(("text":Str),tx)])⟩→fW x G G'→Q .none G') :
  Call B (.ref 99) [.ref x,.int n tn,o,tx] G 2 10 Q:=by
 refine RZ X fun c oo hsc aJ hb=>?_
 refine xY X.zZ ?_
 refine aQ hb (xV X (fl:=["text"]) X.GR hG ho fun d G1 hd hdx hd1 hx1 k1=>?_)
 refine qK X.GR hx1 rfl rfl rfl ht ?_
 exact hQ d _ (aI _ _ _) k1.turn
theorem U6 (X:Txt B.w B.K) {G:Gh} {x:Addr} {tg:Tag} {n:Int} {tn:Tok} {o tx:Value} (hG:G x=some ⟨tg,.inst 221 []⟩) (ho:handedIn o=true) (ht:handedIn tx=true) {Q:Value→Gh→Prop} (hQ:∀ d G',G' x=some ⟨tg,.inst 221 (DN n tn o d++[(("message":Str),tx),(("cause":Str),Value.none)])⟩→fW x G G'→Q .none G') :
  Call B (.ref 218) [.ref x,.int n tn,o,tx] G 2 10 Q:=by
 refine RT X fun c oo hsc aJ hb=>?_
 refine xY X.zZ ?_
 refine aQ hb (xV X (fl:=["message","cause"]) X.w0 hG ho fun d G1 hd hdx hd1 hx1 k1=>?_)
 refine qK X.w0 hx1 rfl rfl rfl ht ?_
 refine fG X.w0 rfl rfl rfl rfl ?_
 exact hQ d _ (aI _ _ _) k1.turn
end
section
variable {B:Bn} {R:Addr→Gh→Prop}
theorem lU (X:Txt B.w B.K) {G:Gh} {σ:Wd} (W:WI G σ) {n:Str} {t:Tok} {a:Addr} (h:valueAt σ.made n=some (.ref a)) {Q:Value→Gh→Prop} (hQ:Q (.ref a) G):Call B (.ref 551) [.ref σ.a,.str n t] G 1 6 Q:=by
 refine HO X fun c oo hsc aJ hb=>?_
 refine bI X.b8 W.obj rfl rfl ?_
 refine DY W.made ?_
 refine DU W.made ?_
 refine sb h ?_
 exact hQ
theorem II (X:Txt B.w B.K) {G:Gh} {σ:Wd} (W:WI G σ) {a:Addr} (ha:a∈σ.dom) {Q:Value→Gh→Prop} (hQ:Q (.bool (!nA (σ.md a).attached)) G):Call B (.ref 265) [.ref a] G 1 6 Q:=by
 refine RX X fun c oo hsc aJ hb=>?_
 refine bI X.bC (W.mods a ha).obj rfl rfl ?_
 exact hQ
theorem QU (X:Txt B.w B.K) {G:Gh} {σ:Wd} (W:WI G σ) {a:Addr} (ha:a∈σ.dom) {Q:Value→Gh→Prop} (hQ:Q ((σ.md a).owner) G):Call B (.ref 578) [.ref σ.a,.ref a] G 1 6 Q:=by
 refine SA X fun c oo hsc aJ hb=>?_
 refine gD X.fZ (W.mods a ha).obj X.CB ?_
 refine gD X.fZ (W.mods a ha).obj X.J1 ?_
 refine gD X.fZ (W.mods a ha).obj X.J2 ?_
 refine bI X.bC (W.mods a ha).obj rfl rfl ?_
 exact hQ
theorem GP (X:Txt B.w B.K) {G:Gh} {σ:Wd} (W:WI G σ) {a:Addr} (ha:a∈σ.dom) {Q:Value→Gh→Prop} (hQ:Q (if (σ.md a).cls then (σ.md a).parent else .none) G):Call B (.ref 448) [.ref a] G 1 6 Q:=by
 refine SX X fun c oo hsc aJ hb=>?_
 refine gD X.fZ (W.mods a ha).obj X.lY ?_
 refine bI X.bC (W.mods a ha).obj rfl rfl ?_
 refine cV (fun h=>?_) (fun h=>?_)
 ·refine bI X.bC (W.mods a ha).obj rfl rfl ?_
  exact kL hQ (by simp [lE,h])
 ·exact kL hQ (by simp [lE,h])
theorem CU (X:Txt B.w B.K) {G:Gh} {σ:Wd} (W:WI G σ) {a:Addr} (ha:a∈σ.dom) {Q:Value→Gh→Prop} (hQ:Q .none G):Call B (.ref 711) [.ref σ.a,.ref a] G 1 6 Q:=by
 refine SO X fun c oo hsc aJ hb=>?_
 refine gD X.fZ (W.mods a ha).obj X.J0 ?_
 refine bI X.bC (W.mods a ha).obj rfl rfl ?_
 exact hQ
theorem aaE (X:Txt B.w B.K) {G:Gh} {σ:Wd} (W:WI G σ) {a:Addr} (ha:a∈σ.dom) (hat:(σ.md a).attached=.none) {Q:Value→Gh→Prop} (hQ:Q .none G):Call B (.ref 434) [.ref σ.a,.ref a] G 1 6 Q:=by
 refine TX X fun c oo hsc aJ hb=>?_
 have h:=(W.mods a ha).obj
 rw [Mod.fs,hat] at h
 refine bI X.bC h rfl rfl ?_
 refine bI X.bC h rfl rfl ?_
 exact hQ
end
section
variable {B:Bn} {R:Addr→Gh→Prop}
inductive FH (G:Gh) (σ:Wd) (a:Addr) (ro:Addr→Nat):Nat→aA→Gh→Prop
 | mk {n:Nat} {G':Gh} (cv:Value) (kp:aD [] G G') (hc:cv=.none∨∃ b,cv=.ref b∧b∈σ.dom∧b≠a) (hn:Rk ro cv=n):FH G σ a ro n (O4 (some (.ref a)) (some cv)) G'
theorem XA (X:Txt B.w B.K) {G:Gh} {σ:Wd} (W:WI G σ) (hi:gY σ) {a b:Addr} {ro:Addr→Nat} (ha:a∈σ.dom) (hb:b∈σ.dom) (hab:b≠a) (hU:∀ x∈σ.dom,x≠a→(σ.md x).outer=.none∨∃ y,(σ.md x).outer=.ref y∧y∈σ.dom∧y≠a∧ro y<ro x) {Q:Value→Gh→Prop} (hQ:∀ G',aD [] G G'→Q (.bool false) G') :
  Call B (.ref 781) [.ref a,.ref b] G 3 13 Q:=by
 refine T5 X fun c oo hsc aJ hbu=>?_
 refine sN (FH G σ a ro) (ro b+1) ?_ ?_
 ·exact .mk (.ref b) (aD.refl _ _) (.inr ⟨b,rfl,hb,hab⟩) rfl
 ·rintro J' hJ n _ G' ⟨cv,hk,hc,hn⟩
  have W':=W.keep hk
  refine qL X aJ ?_
  rcases hc with rfl | ⟨b,rfl,hb,hab⟩
  ·exact hQ _ hk
  ·refine gG X oo aJ ?_
   refine aQ hbu (mG X (W'.gV ha) (W'.gV hb) ?_)
   refine sb (oK hi ha hb) ?_
   have e:decide (a=b)=false:=by simpa using fun e=>hab e.symm
   refine sb e ?_
   refine bI X.bC (W'.mods b hb).obj rfl rfl ?_
   rcases hU b hb hab with h | ⟨y,h,hy,hya,hr⟩
   ·exact hJ 0 _ _ _ (by exact aY hn (iR _)) (.mk _ hk (.inl h) (by refine sb h ?_; rfl))
   ·exact hJ (ro y+1) _ _ _ (by exact aY hn (Nat.succ_lt_succ hr)) (.mk _ hk (.inr ⟨y,h,hy,hya⟩) (by refine sb h ?_; rfl))
end
noncomputable def Wd.add (σ:Wd) (x:Addr) (m:Mod):Wd:={σ with dom:=σ.dom++[x],md:=fun b=>if b=x then m else σ.md b}
theorem r8 {σ:Wd} {a:Addr} {m:Mod}:(σ.add a m).md a=m:=by exact if_pos rfl
theorem r7 {σ:Wd} {a b:Addr} {m:Mod} (h:b≠a):(σ.add a m).md b=σ.md b:=by exact if_neg ‹_›
theorem WI.vY {G G':Gh} {σ:Wd} (h:WI G σ) (k:aD [] G G') {a:Addr} {m:Mod} (hM:kY G' a m) (ha:a∉σ.dom):WI G' (σ.add a m):=h.add k hM ha
theorem WI.iX {G:Gh} {σ:Wd} (W:WI G σ) {x:Addr} (hx:G x=none):x∉σ.dom:=fun h=>by rw [(W.mods x h).obj] at hx; exact dK hx
noncomputable abbrev Mod.fresh (n:Int) (t:Tok) (o:Value) (aF:Addr) (nm:Value) (cl:Bool) (pa ou:Value) (bE aC aT b7:Addr) (at':Value):Mod :=
 {num:=n,uK:=t,owner:=o,aF,own:=.none,nameV:=nm,cls:=cl,parent:=pa,outer:=ou,bE,aC,aT,b7,attached:=at',native:=.none,kept:=.none,consts:=[],mixed:=[],ahead:=[]}
theorem Wd.adI {σ:Wd} {x:Addr} {m m':Mod}:(σ.add x m).put x m'=σ.add x m':=by
 unfold Wd.put Wd.add
 congr 1
 funext b
 by_cases h:b=x
 ·exact (if_pos h).trans (if_pos h).symm
 ·exact (if_neg h).trans ((if_neg h).trans (if_neg h).symm)
theorem wV {G:Gh} {x:Addr} {n:Int} {t:Tok} {o:Value} {aF:Addr} {nm:Value} {cl:Bool} {pa ou:Value} {bE aC aT b7:Addr} {at':Value} (gx:G x=some ⟨(1,0),.inst 268 [("number",.int n t),("owner",o),("fields",.ref aF),("own",.none),("frozen",.bool false),("ident",.none),("name",nm),("is_class",.bool cl),("parent",pa),("outer",ou),("methods",.ref bE),
 ("constants",.ref aC),("mixed",.ref aT),("ahead",.ref b7),("attached",at'),("native",.none),("kept",.none)]⟩) (gC:G aC=some ⟨(2,x),.aZ []⟩) (gMix:G aT=some ⟨(3,x),.list []⟩) (gAh:G b7=some ⟨(4,x),.list []⟩) :
  kY G x (Mod.fresh n t o aF nm cl pa ou bE aC aT b7 at'):=⟨gx,gC,gMix,gAh⟩
theorem WI.zR {G:Gh} {σ:Wd} {x:Addr} {n:Int} {t:Tok} {o:Value} {aF:Addr} {nm:Value} {cl:Bool} {pa ou:Value} {bE aC aT b7:Addr} {at0 at':Value} (W:WI G (σ.add x (Mod.fresh n t o aF nm cl pa ou bE aC aT b7 at0))) :
  WI (upd G x ⟨(1,0),.inst 268 (Mod.fresh n t o aF nm cl pa ou bE aC aT b7 at').fs⟩) (σ.add x (Mod.fresh n t o aF nm cl pa ou bE aC aT b7 at')):=by
 have hx:x∈(σ.add x (Mod.fresh n t o aF nm cl pa ou bE aC aT b7 at0)).dom:=by exact cW _ c8
 have W3:=W.qI (a:=x) (m:=Mod.fresh n t o aF nm cl pa ou bE aC aT b7 at') hx (by exact sb r8 (⟨rfl,rfl,rfl,rfl,rfl,rfl⟩))
 exact Wd.adI (σ:=σ) (x:=x)▸W3
section
variable {B:Bn} {R:Addr→Gh→Prop}
theorem aaK (X:Txt B.w B.K) {G:Gh} {σ:Wd} (W:WI G σ) {cl:Bool} {pa at':Value} {ow:Addr} (hpa:(cl=true∧(∃ p,pa=.ref p)∧valueAt σ.made "Class"=some (.ref ow))∨(cl=false∧pa=.none∧valueAt σ.made "Module"=some (.ref ow))) (hat:handedIn at'=true) {Q:Value→Gh→Prop} (hQ:∀ x t aF bE aC aT b7 G',x∉σ.dom→aD [5] G G'→WI G' ((σ.cJ (σ.last+1) t).add x (Mod.fresh (σ.last+1) t (.ref ow) aF .none cl pa .none bE aC aT b7 at'))→Q (.ref x) G') :
  Call B (.ref 571) [.ref σ.a,.none,.bool cl,pa,.none,at'] G 4 25 Q:=by
 refine SR X fun c oo hsc aJ hb=>?_
 have hp':handedIn pa=true:=by rcases hpa with ⟨_,⟨p,rfl⟩,_⟩ | ⟨_,rfl,_⟩<;>rfl
 rcases hpa with ⟨rfl,⟨p,rfl⟩,how⟩ | ⟨rfl,rfl,how⟩
 all_goals
  refine bS X.b8 X.g7 W.obj W.meth ?_
  intro t1
  refine aQ hb (lU X W how ?_)
  refine bS X.b8 X.qB W.obj W.meth ?_
  refine nP (X.keeps _ (by decide)) rfl ?_
  refine aQ hb (qC X W fun t G1 W1 k1=>?_)
  refine pB (1,0) X.wY hb fun x hx=>CS X (aI _ _ _) rfl rfl hp' rfl fun aF bE aC aT b7 G2 hC hMix hAh gC gMix gAh gx kx=>⟨rfl,?_⟩
  have k2:=kx.keep hx
  have hxd:=W1.iX hx
  have W2:=W1.vY k2 (wV gx gC gMix gAh) hxd
  refine fF X.bC gx rfl rfl hat ?_
  refine hQ x t aF bE aC aT b7 _ hxd (k1.trans ((k2.new hx).mono)) ?_
  exact W2.zR
end
noncomputable def Wd.dJ (σ:Wd) (a:Addr) (n:Str) (v:Value):Wd:=σ.put a {σ.md a with consts:=stored (σ.md a).consts n v}
noncomputable def Wd.jS (σ:Wd) (n:Int) (t:Tok):Wd:={σ with kD:=n,A0:=t}
theorem WI.dJ {G:Gh} {σ:Wd} (W:WI G σ) {a:Addr} (ha:a∈σ.dom) {n:Str} {v:Value}:WI (upd G (σ.md a).aC ⟨(2,a),.aZ (stored (σ.md a).consts n v)⟩) (σ.dJ a n v) :=
 have hM:=W.mods a ha; W.DR (n:=2) hM.con rfl rfl rfl rfl rfl ⟨b9 hM.obj hM.con (b6 rfl),aI _ _ _,b9 hM.mix hM.con (b6 rfl),b9 hM.bX hM.con (b6 rfl)⟩
theorem gY.of {σ σ':Wd} (h:gY σ) (hd:σ'.dom=σ.dom) (hn:∀ a,(σ'.md a).num=(σ.md a).num):gY σ':=fun a ha b hb e=>h a (hd▸ha) b (hd▸hb) (by exact aY (hn a) (aY (hn b) e))
theorem xH {σ:Wd} {a:Addr} {m:Mod} (h:m.num=(σ.md a).num) (b:Addr):((σ.put a m).md b).num=(σ.md b).num:=by
 by_cases e:b=a
 ·subst e; exact sb fD (sb h rfl)
 ·exact sb (dY e) rfl
theorem afR {σ:Wd} {a:Addr} {n:Str} {v:Value} (b:Addr):((σ.dJ a n v).md b).num=(σ.md b).num:=xH (σ:=σ) (m:={σ.md a with consts:=stored (σ.md a).consts n v}) rfl b
section
variable {B:Bn} {R:Addr→Gh→Prop}
theorem afV (X:Txt B.w B.K) {G:Gh} {σ:Wd} (W:WI G σ) {a:Addr} (ha:a∈σ.dom) (hz:(σ.md a).consts.length<1000000) {n:Str} {t u:Tok} {i:Int} {Q:Value→Gh→Prop} (hQ:∀ t r G',WI G' ((σ.dJ a n (.int i u)).jS (σ.kD+1) t)→aD [2,5] G G'→Q r G') :
  Call B (.ref 767) [.ref σ.a,.ref a,.str n t,.int i u] G 3 20 Q:=by
 refine AB X fun c oo hsc aJ hb=>?_
 refine gD X.fZ (W.mods a ha).obj X.lY ?_
 refine bS X.b8 X.CM W.obj W.meth ?_
 refine aQ hb (CU X W ha ?_)
 refine bI X.bC (W.mods a ha).obj rfl rfl ?_
 refine nO (W.mods a ha).con hz ?_
 refine DW X.YO ?_
 have W1:=W.dJ ha (n:=n) (v:=.int i u)
 refine bI X.b8 W1.obj rfl rfl ?_
 intro t1 t2
 refine fF X.b8 W1.obj rfl rfl rfl ?_
 exact hQ t2 _ _ (W1.sL (σ':=(σ.dJ a n (.int i u)).jS (σ.kD+1) t2) ⟨rfl,rfl,rfl,rfl,rfl,rfl,rfl,rfl⟩) (((aD.refl _ _).turn (W.mods a ha).con rfl).turn W1.obj rfl)
theorem afW (X:Txt B.w B.K) {G:Gh} {σ:Wd} (W:WI G σ) {a b:Addr} (ha:a∈σ.dom) (hb':b∈σ.dom) (hz:(σ.md a).consts.length<1000000) {n:Str} {t:Tok} {s:Str} {su:Tok} (hnm:(σ.md b).nameV=.str s su) {Q:Value→Gh→Prop} (hQ:∀ t r G',WI G' ((σ.dJ a n (.ref b)).jS (σ.kD+1) t)→aD [2,5] G G'→Q r G') :
  Call B (.ref 767) [.ref σ.a,.ref a,.str n t,.ref b] G 3 20 Q:=by
 refine AB X fun c oo hsc aJ hb=>?_
 refine gD X.fZ (W.mods a ha).obj X.lY ?_
 refine bS X.b8 X.CM W.obj W.meth ?_
 refine aQ hb (CU X W ha ?_)
 refine bI X.bC (W.mods a ha).obj rfl rfl ?_
 refine nO (W.mods a ha).con hz ?_
 have W1:=W.dJ ha (n:=n) (v:=.ref b)
 have hbn:((σ.dJ a n (.ref b)).md b).nameV=.str s su:=by
  refine aY hnm ?_; unfold Wd.dJ
  by_cases e:b=a
  ·subst e; exact sb fD rfl
  ·exact sb (dY e) rfl
 have hb2:=(W1.mods b hb').obj
 rw [Mod.fs,hbn] at hb2
 refine gD X.fZ hb2 X.lY ?_
 refine bI X.bC hb2 rfl rfl ?_
 refine bI X.b8 W1.obj rfl rfl ?_
 intro t1 t2
 refine fF X.b8 W1.obj rfl rfl rfl ?_
 exact hQ t2 _ _ (W1.sL (σ':=(σ.dJ a n (.ref b)).jS (σ.kD+1) t2) ⟨rfl,rfl,rfl,rfl,rfl,rfl,rfl,rfl⟩) (((aD.refl _ _).turn (W.mods a ha).con rfl).turn W1.obj rfl)
theorem afU (X:Txt B.w B.K) {G:Gh} {σ:Wd} (W:WI G σ) (hi:gY σ) {a b ob:Addr} (ha:a∈σ.dom) (hb':b∈σ.dom) (hba:a≠b) (hz:(σ.md a).consts.length<1000000) {n:Str} {t:Tok} {ro:Addr→Nat} (hnm:(σ.md b).nameV=.none) (hat:(σ.md b).attached=.none)
  (hU:∀ x∈σ.dom,x≠b→(σ.md x).outer=.none∨∃ y,(σ.md x).outer=.ref y∧y∈σ.dom∧y≠b∧ro y<ro x) (hob:valueAt σ.made "Object"=some (.ref ob)) (hod:ob∈σ.dom) {Q:Value→Gh→Prop} (hQ:∀ t' r G',WI G' (((σ.dJ a n (.ref b)).put b {σ.md b with nameV:=.str n t,outer:=if a=ob then .none else .ref a}).jS (σ.kD+1) t')→aD [1,2,5] G G'→Q r G') :
  Call B (.ref 767) [.ref σ.a,.ref a,.str n t,.ref b] G 5 30 Q:=by
 refine AB X fun c oo hsc aJ hb=>?_
 refine gD X.fZ (W.mods a ha).obj X.lY ?_
 refine bS X.b8 X.CM W.obj W.meth ?_
 refine aQ hb (CU X W ha ?_)
 refine bI X.bC (W.mods a ha).obj rfl rfl ?_
 refine nO (W.mods a ha).con hz ?_
 have W1:=W.dJ ha (n:=n) (v:=.ref b)
 have hne:∀ x,x≠a→(σ.dJ a n (.ref b)).md x=σ.md x:=fun x hx=>dY hx
 have out1:∀ x,((σ.dJ a n (.ref b)).md x).outer=(σ.md x).outer:=fun x=>by
  by_cases e:x=a
  ·subst e; unfold Wd.dJ; exact sb fD rfl
  ·exact sb (hne x e) rfl
 have i1:gY (σ.dJ a n (.ref b)):=hi.of rfl afR
 have k1:aD [1,2,5] G (upd G (σ.md a).aC ⟨(2,a),.aZ (stored (σ.md a).consts n (.ref b))⟩):=(aD.refl _ _).turn (W.mods a ha).con rfl
 generalize hσ:σ.dJ a n (.ref b)=σ1 at *
 have ea:σ1.a=σ.a:=by refine aY hσ ?_; rfl
 have ed:σ1.dom=σ.dom:=by refine aY hσ ?_; rfl
 have em:σ1.made=σ.made:=by refine aY hσ ?_; rfl
 have ec:σ1.kD=σ.kD:=by refine aY hσ ?_; rfl
 generalize upd G (σ.md a).aC ⟨(2,a),.aZ (stored (σ.md a).consts n (.ref b))⟩=G1 at *
 refine aY ea ?_
 have hb1:b∈σ1.dom:=ed▸hb'
 have ha1:a∈σ1.dom:=ed▸ha
 have eb:σ1.md b=σ.md b:=hne b hba.symm
 have hb2:=(W1.mods b hb1).obj
 rw [eb,Mod.fs,hnm] at hb2
 refine gD X.fZ hb2 X.lY ?_
 refine bI X.bC hb2 rfl rfl ?_
 refine bS X.bC X.JL hb2 rfl ?_
 refine nP (X.keeps _ (by decide)) rfl ?_
 refine aQ hb (II X W1 hb1 ?_)
 refine sb eb (sb hat ?_)
 refine aQ hb (XA X W1 i1 (ro:=ro) hb1 ha1 hba (by refine sb ed ?_; intro x hx hxb; exact sb (out1 _) (hU x hx hxb)) fun G2 k2=>?_)
 have W2:=W1.keep k2
 have hb3:=k2 _ _ hb2 rfl
 refine fF X.bC hb3 rfl rfl rfl ?_
 have W3:=W2.qI hb1 (m:={σ.md b with nameV:=.str n t}) (by exact sb eb (⟨rfl,rfl,rfl,rfl,rfl,rfl⟩))
 have k3:aD [1,2,5] G (upd G2 b ⟨(1,0),.inst 268 (Mod.fs {σ.md b with nameV:=.str n t})⟩):=(k1.trans k2.mono).turn hb3 rfl
 have hb4:upd G2 b ⟨(1,0),.inst 268 (Mod.fs {σ.md b with nameV:=.str n t})⟩ b=_:=aI _ _ _
 have e3:(σ1.put b {σ.md b with nameV:=.str n t}).a=σ1.a:=rfl
 have i3:gY (σ1.put b {σ.md b with nameV:=.str n t}):=i1.of rfl (xH (by exact sb eb rfl))
 have m3:(σ1.put b {σ.md b with nameV:=.str n t}).made=σ.made:=em
 have d3:(σ1.put b {σ.md b with nameV:=.str n t}).dom=σ.dom:=ed
 have p3:∀ m,(σ1.put b {σ.md b with nameV:=.str n t}).put b m=σ1.put b m:=fun m=>by
  unfold Wd.put; congr 1; funext x; exact if h:x=b then (if_pos h).trans (if_pos h).symm else (if_neg h).trans ((if_neg h).trans (if_neg h).symm)
 have s3:(σ1.put b {σ.md b with nameV:=.str n t}).md b={σ.md b with nameV:=.str n t}:=fD
 refine sb (show upd G2 b ⟨(1,0),.inst 268 (jQ [("number",.int (σ.md b).num (σ.md b).uK),("owner",(σ.md b).owner),("fields",.ref (σ.md b).aF),("own",(σ.md b).own),("frozen",.bool false),("ident",.none),("name",.none),("is_class",.bool (σ.md b).cls),("parent",(σ.md b).parent),("outer",(σ.md b).outer),("methods",.ref (σ.md b).bE),("constants",.ref (σ.md b).aC),("mixed",.ref (σ.md b).aT),("ahead",.ref (σ.md b).b7),("attached",(σ.md b).attached),("native",(σ.md b).native),("kept",(σ.md b).kept)] "name" (.str n t))⟩=upd G2 b ⟨(1,0),.inst 268 (Mod.fs {σ.md b with nameV:=.str n t})⟩ from rfl) ?_
 generalize upd G2 b ⟨(1,0),.inst 268 (Mod.fs {σ.md b with nameV:=.str n t})⟩=G3 at *
 generalize σ1.put b {σ.md b with nameV:=.str n t}=σ3 at *
 refine aY e3 ?_
 refine bS X.b8 X.g7 W3.obj W3.meth ?_
 intro t1
 refine aQ hb (lU X W3 (m3▸hob) ?_)
 refine aQ hb (mG X (W3.gV (d3▸ha)) (W3.gV (d3▸hod)) ?_)
 refine sb (oK i3 (d3▸ha) (d3▸hod)) ?_
 have fin:∀ ov,ov=(if a=ob then Value.none else .ref a)→WI (upd G3 b ⟨(1,0),.inst 268 (Mod.fs {σ.md b with nameV:=.str n t,outer:=ov})⟩) (σ1.put b {σ.md b with nameV:=.str n t,outer:=ov}):=by
  intro ov _
  refine aY (p3 _) ?_
  exact W3.qI (d3▸hb') (by exact sb s3 (⟨rfl,rfl,rfl,rfl,rfl,rfl⟩))
 refine cV (fun h=>?_) (fun h=>?_)
 ·have h':a=ob:=of_decide_eq_true h
  refine sb e3 ?_
  refine fF X.bC hb4 rfl rfl rfl ?_
  have W4:=fin .none (by exact sb (if_pos h') rfl)
  refine bI X.b8 W4.obj rfl rfl ?_
  intro t1 t2
  refine fF X.b8 W4.obj rfl rfl rfl ?_
  refine hQ t2 _ _ ?_ ((k3.turn hb4 rfl).turn W4.obj rfl)
  refine sb (if_pos h') (aY ec ?_)
  exact W4.sL (σ':=(σ1.put b {σ.md b with nameV:=.str n t,outer:=.none}).jS (σ1.kD+1) t2) ⟨rfl,rfl,rfl,rfl,rfl,rfl,rfl,rfl⟩
 ·have h':a≠ob:=of_decide_eq_false h
  refine sb e3 ?_
  refine fF X.bC hb4 rfl rfl rfl ?_
  have W4:=fin (.ref a) (by exact sb (if_neg h') rfl)
  refine bI X.b8 W4.obj rfl rfl ?_
  intro t1 t2
  refine fF X.b8 W4.obj rfl rfl rfl ?_
  refine hQ t2 _ _ ?_ ((k3.turn hb4 rfl).turn W4.obj rfl)
  refine sb (if_neg h') (aY ec ?_)
  exact W4.sL (σ':=(σ1.put b {σ.md b with nameV:=.str n t,outer:=.ref a}).jS (σ1.kD+1) t2) ⟨rfl,rfl,rfl,rfl,rfl,rfl,rfl,rfl⟩
end
noncomputable def cA (σ:Wd) (a:Addr) (n:Str):Option Value:=match valueAt (σ.md a).consts n with
 | some v=>some v
 | none=>match (σ.md a).native with
  | .str s _=>if s=("Object":Str) then valueAt σ.made n else none
  | _=>none
noncomputable def lW:Option Value→List Value
 | some v=>[.bool true,v]
 | none=>[.bool false,.none]
noncomputable def tO (K:Frag) (σ:Wd) (n:Str):Prop:=(nsIn K 483 n=some none∧valueAt σ.made n=none)∨∃ v a,nsIn K 483 n=some (some v)∧valueAt σ.made n=some (.ref a)
noncomputable def strOrNone:Value→Bool
 | .none=>true
 | .str _ _=>true
 | _=>false
section
variable {B:Bn} {c:Cx} {R:Addr→aA→Gh→Prop} {m m':aA} {G G':Gh}
theorem ah5 {a:Str} {t:Tok} {Q:Value→aA→Gh→Prop} (h:Q (.bool false) m G):V B c R (compareOp .Eq .none (.str a t)) m G Q:=⟨fun ok s S=>PySem.EqNone.eq_none_str ⟨_,_,S,h⟩⟩
end
section
variable {B:Bn} {R:Addr→Gh→Prop}
set_option tactic.hygienic true in
theorem uN (X:Txt B.w B.K) {G:Gh} {σ:Wd} (W:WI G σ) {a:Addr} (ha:a∈σ.dom) {n:Str} {t:Tok} (hn:tO B.K σ n) (hnat:strOrNone (σ.md a).native=true) {Q:Value→Gh→Prop} (hQ:∀ x G',G x=none→G' x=some ⟨(9,1),.tup (lW (cA σ a n))⟩→aD [] G G'→Q (.ref x) G') :
  Call B (.ref 732) [.ref σ.a,.ref a,.str n t] G 2 12 Q:=by
 refine SV X fun c oo hsc aJ hb=>?_
 have hM:=W.mods a ha
 have fin:∀ vs,vs=lW (cA σ a n)→V B c bJ (newTuple vs) (EC (some (.ref σ.a)) (some (.ref a)) (some (.str n t))) G (fun v m G'=>Q v G'):=by
  rintro _ rfl
  refine iE (9,1) (by unfold lW; split<;>simp) fun x hx=>?_
  exact hQ x _ hx (aI _ _ _) ((aD.refl _ _).fresh hx)
 refine bI X.bC hM.obj rfl rfl ?_
 refine y9 hM.con ?_
 refine cV (fun h=>?_) (fun h=>?_)
 ·obtain ⟨v,hv⟩:=FF.mp h
  refine bI X.bC hM.obj rfl rfl ?_
  refine ⟨fun t=>iO hM.con hv ?_⟩
  exact fin _ (by simp [cA,hv,lW])
 ·have h0:valueAt (σ.md a).consts n=none:=by simpa using h
  have no:∀ r,nsIn B.K 483 n=some r→(r.isSome=false∨∀ s u,(σ.md a).native=.str s u→s≠"Object")→cA σ a n=none:=by
   intro r hr h2
   unfold cA
   refine sb h0 ?_
   dsimp only
   split
   next s u hs =>
    split
    next e =>
     rcases h2 with h2 | h2
     ·rcases hn with ⟨h3,h4⟩ | ⟨v,b,h3,h4⟩
      ·exact h4
      ·rw [h3] at hr; obtain rfl:=bO hr; cases h2
     ·exact absurd e (h2 s u hs)
    ·rfl
   ·rfl
  have neg:∀ r,nsIn B.K 483 n=some r→(r.isSome=false∨∀ s u,(σ.md a).native=.str s u→s≠"Object")→V B c bJ (newTuple [.bool false,.none]) (EC (some (.ref σ.a)) (some (.ref a)) (some (.str n t))) G (fun v m G'=>Q v G') :=
   fun r hr h2=>fin _ (by refine sb (no r hr h2) ?_; rfl)
  rcases hn with ⟨h3,h4⟩ | ⟨v,b,h3,h4⟩
  ·refine NG X.A2 h3 ?_
   exact neg _ h3 (.inl rfl)
  ·refine NG X.A2 h3 ?_
   refine bI X.bC hM.obj rfl rfl ?_
   cases hnv:(σ.md a).native with
   | none =>
    intro t1
    refine ah5 ?_
    exact neg _ h3 (.inr (by intro s u e; rw [hnv] at e; cases e))
   | str s u =>
    refine cV (fun h=>?_) (fun h=>?_)
    ·have hs:s=("Object":Str):=by exact of_decide_eq_true ‹_›
     refine bS X.b8 X.g7 W.obj W.meth ?_
     refine aQ hb (lU X W h4 ?_)
     exact fin _ (by simp [cA,h0,hnv,hs,h4,lW])
    ·have hs:s≠("Object":Str):=by simpa using h
     exact neg _ h3 (.inr (by intro s' u' e; rw [hnv] at e; cases e; exact hs))
   | _=>rw [hnv] at hnat; cases hnat
end
noncomputable def dW (σ:Wd) (n:Str):List Addr→Option Value
 | []=>none
 | a::r=>match cA σ a n with
  | some v=>some v
  | none=>dW σ n r
theorem tX {σ:Wd} {n:Str} {a:Addr} {r:List Addr} {v:Value} (h:cA σ a n=some v):dW σ n (a::r)=some v:=by
 show (match cA σ a n with | some v=>some v | none=>dW σ n r)=_
 exact sb h rfl
theorem rG {σ:Wd} {n:Str} {a:Addr} {r:List Addr} (h:cA σ a n=none):dW σ n (a::r)=dW σ n r:=by
 show (match cA σ a n with | some v=>some v | none=>dW σ n r)=_
 exact sb h rfl
theorem lA {σ:Wd} {n:Str} {l r:List Addr} (h:dW σ n l=none):dW σ n (l++r)=dW σ n r:=by
 induction l with
 | nil=>rfl
 | cons a l ih =>
  cases e:cA σ a n with
  | some v=>rw [tX e] at h; exact dK h
  | none=>rw [rG e] at h; exact sb mR (sb (rG e) (ih h))
theorem D4 {σ:Wd} {κ:Addr→Value} {a:Addr} {n:Str}:cA (σ.kp κ) a n=cA σ a n:=rfl
noncomputable def oO (L:Addr→List Addr) (top:Addr) (nest:List Addr):List Addr:=(nest.filter fun a=>!decide (a=top))++((match nest with
 | []=>[]
 | a::_=>L a)++[top])
section
variable {B:Bn} {R:Addr→Gh→Prop}
inductive FindJ (G:Gh) (σ:Wd) (n:Str) (t:Tok) (l top:Addr) (nest:List Addr):Nat→aA→Gh→Prop
 | mk {k:Nat} {G':Gh} (o1 o2:Option Value) (kp:aD [] G G') (hn:dW σ n ((nest.take k).filter fun a=>!decide (a=top))=none) :
   FindJ G σ n t l top nest k (yE (some (.ref σ.a)) (some (.ref l)) (some (.str n t)) (some (.ref top)) o1 o2 none) G'
inductive FL (G:Gh) (σ:Wd) (κ:Addr→Value) (n:Str) (t:Tok) (l top ll:Addr) (ln:List Addr):Nat→aA→Gh→Prop
 | mk {k:Nat} {G':Gh} (o1 o2:Option Value) (kp:aD [] G G') (hn:dW σ n (ln.take k)=none) :
   FL G σ κ n t l top ll ln k (yE (some (.ref σ.a)) (some (.ref l)) (some (.str n t)) (some (.ref top)) o1 o2 (some (.ref ll))) G'
structure vV (G:Gh) (σ:Wd) (L:Addr→List Addr):Prop where
 wf:WF σ
 ln:vU σ L
 up:∃ rk,n7 σ rk
 kept:∀ a∈σ.dom,dM G σ L a
 nat:∀ a∈σ.dom,strOrNone (σ.md a).native=true
theorem UI (X:Txt B.w B.K) {G:Gh} {σ:Wd} (W:WI G σ) {L:Addr→List Addr} (H:vV G σ L) {top l:Addr} {tl:Tag} (ht9:tl≠(9,0)) (ht1:tl.1≠1) {nest:List Addr} (hl:G l=some ⟨tl,.list (nest.map Value.ref)⟩) (hnd:∀ x∈nest,x∈σ.dom) (hnz:nest.length≤10000) (htop:valueAt σ.made "Object"=some (.ref top)) (htd:top∈σ.dom)
  {n:Str} {t:Tok} (hn:tO B.K σ n) {Q:Value→Gh→Prop} (hQ:∀ x κ G',G' x=some ⟨(9,1),.tup (lW (dW σ n (oO L top nest)))⟩→WI G' (σ.kp κ)→(∀ a∈σ.dom,dM G' (σ.kp κ) L a)→aD [1] G G'→Q (.ref x) G') :
  Call B (.ref 739) [.ref σ.a,.ref l,.str n t] G 8 120 Q:=by
 refine SH X fun c oo hsc aJ hb=>?_
 refine bS X.b8 X.g7 W.obj W.meth ?_
 intro t1
 refine aQ hb (lU X W htop ?_)
 refine nM (FindJ G σ n t l top nest) hl (fun I hI=>.mk none none ((aD.refl _ _).fresh hI) (by exact rfl)) ?_ ?_
 ·rintro J' I k v m G' hJ hI hv ⟨o1,o2,hk,hno⟩ hI' hl'
  simp only [jF,mX] at hv
  obtain ⟨x,hv,rfl⟩:=hv
  have hxd:=hnd x (cE hv)
  have kI:aD [] G (upd G' I ⟨(9,0),.lit l (k+1)⟩):=hk.new hI
  have W':=W.keep kI
  have hI2:upd G' I ⟨(9,0),.lit l (k+1)⟩ I=some ⟨(9,0),.lit l (k+1)⟩:=aI _ _ _
  have hl2:upd G' I ⟨(9,0),.lit l (k+1)⟩ l=some ⟨tl,.list (nest.map Value.ref)⟩:=b9 hl' hI' ht9
  have hK':∀ a∈σ.dom,dM (upd G' I ⟨(9,0),.lit l (k+1)⟩) σ L a:=fun a ha=>(H.kept a ha).keep kI
  generalize upd G' I ⟨(9,0),.lit l (k+1)⟩=G5 at *
  have tk:(nest.take (k+1)).filter (fun a=>!decide (a=top))=(nest.take k).filter (fun a=>!decide (a=top))++[x].filter fun a=>!decide (a=top):=by
   exact sb mV (sb hv (sb (mY _) (sb (qO _ _) rfl)))
  refine jT (iQ oo rfl (gG X oo aJ ?_))
  refine aQ hb (mG X (W'.gV hxd) (W'.gV htd) ?_)
  refine sb (oK H.wf.inj hxd htd) ?_
  refine cV (fun h=>?_) (fun h=>?_)
  ·have hxt:x≠top:=by simpa using h
   refine bS X.b8 X.uF W'.obj W'.meth ?_
   refine aQ hb (uN X W' hxd hn (H.nat x hxd) fun y G6 hy hy' k6=>?_)
   refine ⟨fun zz=>?_⟩
   cases e:cA σ x n with
   | some v =>
    rw [e] at hy'
    refine eB hy' (by decide) rfl ?_
    refine hQ y _ _ ?_ (rS σ▸W'.keep k6) (rS σ▸fun a ha=>(hK' a ha).keep k6) ((kI.trans k6).mono)
    refine sb hy' ?_
    have e2:nest=nest.take k++x::nest.drop (k+1):=by
     exact aY ((cO.mp hv).2) (aY (qN (cO.mp hv).1) (sb (z5 _ _) rfl))
    unfold oO
    exact sb e2 (sb (qO _ _) (sb (sX _ _ _) (sb (lA hno) (sb (gW (by refine sb (decide_eq_false hxt) ?_; rfl)) (sb mR (sb (tX e) ((by rfl))))))))
   | none =>
    rw [e] at hy'
    refine eB hy' (by decide) rfl ?_
    refine hJ _ _ (.mk _ _ (kI.trans k6) ?_) (k6 _ _ hI2 rfl) (k6 _ _ hl2 rfl)
    refine sb tk (sb (lA hno) ?_)
    refine sb qP ?_
    split<;>first | exact rG e | rfl
  ·have hxt:x=top:=by simpa using h
   refine iE (9,1) (by simp) fun y hy=>?_
   refine ⟨fun zz=>eB (aI _ _ _) (by decide) rfl ?_⟩
   refine hJ _ _ (.mk _ _ (kI.fresh hy) ?_) (bG hI2 hy) (bG hl2 hy)
   refine sb tk (sb (lA hno) (sb (jE (by refine sb hxt (sb (decide_eq_true rfl) ?_); decide)) ?_)); rfl
 ·rintro I m G' hI ⟨o1,o2,hk,hno⟩ hI' hl'
  rw [cT,nX] at hno
  have kE:aD [] G (era G' I):=hk.era hI
  have hlE:era G' I l=some ⟨tl,.list (nest.map Value.ref)⟩:=kF hl' (uG hl hI)
  have WE:=W.keep kE
  have HE:∀ a∈σ.dom,dM (era G' I) σ L a:=fun a ha=>(H.kept a ha).keep kE
  generalize era G' I=G5 at *
  have fin:∀ G6 κ ll tt ln,aD [1] G5 G6→G6 ll=some ⟨tt,.list (ln.map Value.ref)⟩→(∀ x∈ln,x∈σ.dom)→ln.length≤40000→(ln=match (generalizing:=false) nest with | []=>[] | a::_=>L a)→WI G6 (σ.kp κ)→(∀ a∈σ.dom,dM G6 (σ.kp κ) L a) →
    ws B c bJ w7 57 ((bodyOf (aL 57 33)).drop 3) (bA Q) (yE (some (.ref σ.a)) (some (.ref l)) (some (.str n t)) (some (.ref top)) o1 o2 (some (.ref ll))) G6:=by
   intro G6 κ ll tt ln k6 hll hln hlz hlq W6 hK6
   refine eS (9,2) (by exact iR _) fun a1 ha1=>?_
   refine pA (9,3) (bG hll ha1) (aI _ _ _) (by simp; exact aG hlz (ble rfl)) fun a2 ha2=>?_
   have e1:yX Value.ref ln++[Value.ref top]=(ln++[top]).map Value.ref:=by simp
   refine sb e1 ?_
   have hlk:dW σ n (oO L top nest)=dW σ n (ln++[top]):=by
    unfold oO; exact sb (lA hno) (sb hlq rfl)
   have k7:aD [] G6 (upd (upd G6 a1 ⟨(9,2),.list [.ref top]⟩) a2 ⟨(9,3),.list ((ln++[top]).map Value.ref)⟩):=((aD.refl _ _).fresh ha1).fresh ha2
   have ha2':upd (upd G6 a1 ⟨(9,2),.list [.ref top]⟩) a2 ⟨(9,3),.list ((ln++[top]).map Value.ref)⟩ a2=some ⟨(9,3),.list ((ln++[top]).map Value.ref)⟩:=aI _ _ _
   generalize upd (upd G6 a1 ⟨(9,2),.list [.ref top]⟩) a2 ⟨(9,3),.list ((ln++[top]).map Value.ref)⟩=G7 at *
   have W7:=W6.keep k7
   have kG:aD [1] G G7:=(kE.mono).trans (k6.trans k7.mono)
   have hK7:∀ a∈σ.dom,dM G7 (σ.kp κ) L a:=fun a ha=>(hK6 a ha).keep k7
   have hld:∀ x∈ln++[top],x∈σ.dom:=by
    intro x hx
    rcases bW.mp hx with h | h
    ·exact hln x h
    ·exact sb (cG.mp h) htd
   refine nM (FL G7 σ κ n t l top ll (ln++[top])) ha2' (fun I hI=>.mk _ _ ((aD.refl _ _).fresh hI) (by exact rfl)) ?_ ?_
   ·rintro J' I k v m G' hJ hI hv ⟨o1,o2,hk,hno2⟩ hI' hl'
    rw [jF,mX] at hv
    obtain ⟨x,hv,rfl⟩:=hv
    have hxd:=hld x (cE hv)
    have kI:aD [] G7 (upd G' I ⟨(9,0),.lit a2 (k+1)⟩):=hk.new hI
    have W':=W7.keep kI
    have hI2:upd G' I ⟨(9,0),.lit a2 (k+1)⟩ I=some ⟨(9,0),.lit a2 (k+1)⟩:=aI _ _ _
    have hl2:upd G' I ⟨(9,0),.lit a2 (k+1)⟩ a2=some ⟨(9,3),.list ((ln++[top]).map Value.ref)⟩:=b9 hl' hI' (b6 rfl)
    generalize upd G' I ⟨(9,0),.lit a2 (k+1)⟩=G8 at *
    refine jT (iQ oo rfl (gG X oo aJ ?_))
    refine bS X.b8 X.uF W'.obj W'.meth ?_
    refine aQ hb (uN X W' hxd hn (H.nat x hxd) fun y G9 hy hy' k9=>?_)
    rw [D4] at hy'
    refine ⟨fun zz=>?_⟩
    cases e:cA σ x n with
    | some v =>
     rw [e] at hy'
     refine eB hy' (by decide) rfl ?_
     refine hQ y κ _ ?_ (W'.keep k9) (fun a ha=>((hK7 a ha).keep kI).keep k9) (kG.trans ((kI.trans k9).mono))
     refine sb hy' (sb hlk ?_)
     have e2:ln++[top]=(ln++[top]).take k++x::(ln++[top]).drop (k+1):=by
      exact aY ((cO.mp hv).2) (aY (qN (cO.mp hv).1) (sb (z5 _ _) rfl))
     exact sb e2 (sb (lA hno2) (sb (tX e) ((by rfl))))
    | none =>
     rw [e] at hy'
     refine eB hy' (by decide) rfl ?_
     refine hJ _ _ (.mk _ _ (kI.trans k9) ?_) (k9 _ _ hI2 rfl) (k9 _ _ hl2 rfl)
     refine sb mV (sb hv (sb (mY _) (sb (lA hno2) ?_)))
     exact rG e
   ·rintro I m G' hI ⟨o1,o2,hk,hno2⟩ hI' hl'
    rw [cT,nX] at hno2
    refine iE (9,1) (by simp) fun y hy=>?_
    have kE:aD [] G7 (era G' I):=hk.era hI
    refine hQ y κ _ ?_ (W7.keep (kE.fresh hy)) (fun a ha=>(hK7 a ha).keep (kE.fresh hy)) (kG.trans ((kE.fresh hy).mono))
    exact sb hlk (sb hno2 (aI _ _ _))
  refine jU hlE fun u=>?_
  refine cV (fun h=>?_) (fun h=>?_)
  ·obtain _ | ⟨a,nest⟩:=nest
   ·simp at h
   refine ⟨fun zz=>cX hlE (by decide) rfl ?_⟩
   obtain ⟨rk,hU⟩:=H.up
   have had:=hnd a c8
   refine aQ hb (J9 X WE H.wf H.ln hU HE had fun ll κ G6 hll W6 hK6 k6=>?_)
   exact fin G6 κ ll _ (L a) k6 hll (H.ln.dom a had) (H.ln.len a had) rfl W6 hK6
  ·have:nest=[]:=by simpa using h
   subst this
   refine eS (9,2) (by simp) fun ll hll=>?_
   have k6:aD [] G5 (upd G5 ll ⟨(9,2),.list []⟩):=(aD.refl _ _).fresh hll
   exact fin _ _ ll _ [] k6.mono (aI _ _ _) (by simp) (by simp) rfl (rS σ▸WE.keep k6) (rS σ▸fun a ha=>(HE a ha).keep k6)
end
noncomputable def gZ (L:Addr→List Addr) (top a:Addr):List Addr:=if a=top then L a else (L a).takeWhile fun x=>!decide (x=top)
section
variable {B:Bn} {R:Addr→Gh→Prop}
inductive FP (G:Gh) (σ:Wd) (κ:Addr→Value) (n:Str) (t:Tok) (a top:Addr) (ln:List Addr):Nat→aA→Gh→Prop
 | mk {k:Nat} {G':Gh} (o1:Option Value) (y:Addr) (kp:aD [] G G') (hy:G' y=some ⟨(9,1),.tup [.bool false,.none]⟩) (hn:dW σ n (ln.take k)=none) (ht:a=top∨∀ x∈ln.take k,x≠top) :
   FP G σ κ n t a top ln k (O3 (some (.ref σ.a)) (some (.ref a)) (some (.str n t)) (some (.ref top)) (some (.ref y)) o1) G'
theorem uQ {p:Addr→Bool}:∀ {l r:List Addr},(∀ x∈l,p x=true)→(l++r).takeWhile p=l++r.takeWhile p
 | [],_,_=>rfl
 | a::l,r,h=>by refine sb mR (sb (qU (h a c8)) (sb (uQ fun x hx=>h x (cL _ hx)) ?_)); rfl
set_option tactic.hygienic true in
theorem HW (X:Txt B.w B.K) {G:Gh} {σ:Wd} (W:WI G σ) {L:Addr→List Addr} (H:vV G σ L) {top a:Addr} (ha:a∈σ.dom) (htop:valueAt σ.made "Object"=some (.ref top)) (htd:top∈σ.dom)
  {n:Str} {t:Tok} (hn:tO B.K σ n) {Q:Value→Gh→Prop} (hQ:∀ x κ G',G' x=some ⟨(9,1),.tup (lW (dW σ n (gZ L top a)))⟩→WI G' (σ.kp κ)→(∀ a∈σ.dom,dM G' (σ.kp κ) L a)→aD [1] G G'→Q (.ref x) G') :
  Call B (.ref 753) [.ref σ.a,.ref a,.str n t] G 8 120 Q:=by
 refine SI X fun c oo hsc aJ hb=>?_
 refine iZ X oo aJ hsc ["top","is_there"] (by kernel_rfl!) (by kernel_rfl!) ?_
 refine bS X.b8 X.g7 W.obj W.meth ?_
 intro t1
 refine aQ hb (lU X W htop ?_)
 refine iF (9,1) (by simp) fun y Gy ky hy gy=>?_
 refine iF (9,1) (by exact bY _ _) fun y2 G1 ky2 hy2 gy2=>?_
 refine gQ.mk gy2 rfl rfl ?_
 have k0:=ky.trans ky2.mono
 have hy0:=ky2 _ _ gy rfl
 have W1:=W.keep k0
 obtain ⟨rk,hU⟩:=H.up
 refine aQ hb (J9 X W1 H.wf H.ln hU (fun a ha=>(H.kept a ha).keep k0) ha fun ll κ G2 hll W2 hK2 k2=>?_)
 have kG:aD [1] G G2:=k0.mono.trans k2
 refine nM (FP G2 σ κ n t a top (L a)) hll (fun I hI=>.mk none y ((aD.refl _ _).fresh hI) (bG (k2 _ _ hy0 rfl) hI) (by exact rfl) (.inr (by exact sZ _))) ?_ ?_
 ·rintro J' I k v m G' hJ hI hv ⟨o1,y,hk,hy,hno,hnt⟩ hI' hl'
  rw [jF,mX] at hv
  obtain ⟨x,hv,rfl⟩:=hv
  have hxd:=H.ln.dom a ha x (cE hv)
  have kI:aD [] G2 (upd G' I ⟨(9,0),.lit ll (k+1)⟩):=hk.new hI
  have W':=W2.keep kI
  have hI2:upd G' I ⟨(9,0),.lit ll (k+1)⟩ I=some ⟨(9,0),.lit ll (k+1)⟩:=aI _ _ _
  have hl2:upd G' I ⟨(9,0),.lit ll (k+1)⟩ ll=some ⟨(7,1),.list ((L a).map Value.ref)⟩:=b9 hl' hI' (b6 rfl)
  generalize upd G' I ⟨(9,0),.lit ll (k+1)⟩=G5 at *
  have e2:L a=(L a).take k++x::(L a).drop (k+1):=by
   exact aY ((cO.mp hv).2) (aY (qN (cO.mp hv).1) (sb (z5 _ _) rfl))
  have inj':gY (σ.kp κ):=(H.wf.kp κ).inj
  refine jT (iQ oo rfl (gG X oo aJ ?_))
  refine aQ hb (mG X (W'.gV (σ:=σ.kp κ) hxd) (W'.gV (σ:=σ.kp κ) htd) ?_)
  refine sb (oK inj' hxd htd) ?_
  have next:(a=top∨x≠top)→(a=top∨∀ x∈(L a).take (k+1),x≠top):=by
   rintro (h | h)
   ·exact .inl h
   ·rcases hnt with h2 | h2
    ·exact .inl h2
    ·refine .inr fun z hz=>?_
     rw [mV,hv,mY] at hz
     rcases bW.mp hz with h3 | h3
     ·exact h2 z h3
     ·exact sb (cG.mp h3) h
  have pick:∀ v,cA σ x n=some v→(a=top∨x≠top)→dW σ n (gZ L top a)=some v:=by
   intro v e hgo
   unfold gZ
   split
   ·exact sb e2 (sb (lA hno) (sb (tX e) rfl))
   ·next h =>
    have h2:∀ z∈(L a).take k,z≠top:=hnt.resolve_left h
    exact sb e2 (sb (uQ (fun z hz=>by simpa using h2 z hz)) (sb (lA hno) (sb (qU (by simpa using hgo.resolve_left h)) (sb (tX e) ((by rfl))))))
  rcases Decidable.em (x=top) with hx | hx
  ·refine sb (decide_eq_true hx) ?_
   refine aQ hb (mG X (W'.gV (σ:=σ.kp κ) ha) (W'.gV (σ:=σ.kp κ) htd) ?_)
   refine sb (oK inj' ha htd) ?_
   rcases Decidable.em (a=top) with hat | hat
   ·refine sb (decide_eq_true hat) ?_
    have hgo:a=top∨x≠top:=.inl hat
    refine bS X.b8 X.uF W'.obj W'.meth ?_
    refine aQ hb (uN X W' hxd hn (H.nat x hxd) fun y' G6 hy0 hy' k6=>?_)
    rw [D4] at hy'
    refine ⟨fun zz=>?_⟩
    cases e:cA σ x n with
    | some v =>
     rw [e] at hy'
     refine eB hy' (by decide) rfl ?_
     refine hQ y' κ _ ?_ (W'.keep k6) (fun a ha=>((hK2 a ha).keep kI).keep k6) (kG.trans ((kI.trans k6).mono))
     exact sb hy' (sb (pick v e hgo) rfl)
    | none =>
     rw [e] at hy'
     refine eB hy' (by decide) rfl ?_
     refine hJ _ _ (.mk _ y' (kI.trans k6) hy' ?_ (next hgo)) (k6 _ _ hI2 rfl) (k6 _ _ hl2 rfl)
     refine sb mV (sb hv (sb (mY _) (sb (lA hno) ?_)))
     exact rG e
   ·refine sb (decide_eq_false hat) ?_
    refine iE (9,1) (by simp) fun y' hy'=>?_
    refine hQ y' κ _ ?_ (W'.keep ((aD.refl [] _).fresh hy')) (fun a ha=>((hK2 a ha).keep kI).keep ((aD.refl [] _).fresh hy')) (kG.trans ((kI.fresh hy').mono))
    refine sb (aI _ _ _) ?_
    have h2:∀ z∈(L a).take k,z≠top:=hnt.resolve_left hat
    have:dW σ n (gZ L top a)=none:=by
     unfold gZ
     refine sb (if_neg hat) (sb e2 (sb (uQ (fun z hz=>by simpa using h2 z hz)) (sb (lA hno) (sb (tE (by simpa using hx)) ?_))))
     rfl
    refine sb this ?_; rfl
  ·refine sb (decide_eq_false hx) ?_
   have hgo:a=top∨x≠top:=.inr hx
   refine bS X.b8 X.uF W'.obj W'.meth ?_
   refine aQ hb (uN X W' hxd hn (H.nat x hxd) fun y' G6 hy0 hy' k6=>?_)
   rw [D4] at hy'
   refine ⟨fun zz=>?_⟩
   cases e:cA σ x n with
   | some v =>
    rw [e] at hy'
    refine eB hy' (by decide) rfl ?_
    refine hQ y' κ _ ?_ (W'.keep k6) (fun a ha=>((hK2 a ha).keep kI).keep k6) (kG.trans ((kI.trans k6).mono))
    exact sb hy' (sb (pick v e hgo) rfl)
   | none =>
    rw [e] at hy'
    refine eB hy' (by decide) rfl ?_
    refine hJ _ _ (.mk _ y' (kI.trans k6) hy' ?_ (next hgo)) (k6 _ _ hI2 rfl) (k6 _ _ hl2 rfl)
    refine sb mV (sb hv (sb (mY _) (sb (lA hno) ?_)))
    exact rG e
 ·rintro I m G' hI ⟨o1,y,hk,hy,hno,hnt⟩ hI' hl'
  rw [cT,nX] at hno hnt
  have kE:aD [] G2 (era G' I):=hk.era hI
  refine hQ y κ _ ?_ (W2.keep kE) (fun a ha=>(hK2 a ha).keep kE) (kG.trans kE.mono)
  have:dW σ n (gZ L top a)=none:=by
   unfold gZ
   split
   ·exact hno
   ·next h =>
    rcases hnt with e | h2
    ·exact absurd e h
    ·have e:=uQ (p:=fun x=>!decide (x=top)) (l:=L a) (r:=[]) (fun x hx=>by simpa using h2 x hx)
     rw [jW] at e; exact sb e (sb List.takeWhile_nil (sb (jW _) hno))
  refine sb this ?_
  exact kF hy (fun e=>by rw [e,hI'] at hy; simp at hy)
end
theorem fJ.wi {G G':Gh} {σ:Wd} (k:fJ G G') (W:WI G σ):WI G' σ :=
 ⟨k _ _ W.obj (by simp),k _ _ W.made (by simp),k _ _ W.nat (by simp),k _ _ W.pre (by simp),fun a ha=>⟨k _ _ (W.mods a ha).obj (by simp),k _ _ (W.mods a ha).con (by exact b6 rfl),k _ _ (W.mods a ha).mix (by exact b6 rfl),k _ _ (W.mods a ha).bX (by exact b6 rfl)⟩,W.tl⟩
noncomputable def Wd.sC (σ:Wd) (es:List (Str×Value)):Wd:={σ with made:=es}
theorem WI.sC {G:Gh} {σ:Wd} (W:WI G σ) {es:List (Str×Value)}:WI (upd G σ.dP ⟨(6,0),.aZ es⟩) (σ.sC es):=by
 have ne:∀ {b y},G b=some y→y.tag.1≠6→upd G σ.dP ⟨(6,0),.aZ es⟩ b=some y:=fun {b y} hb hy=>b9 hb W.made (fun q=>hy (by exact sb q rfl))
 exact ⟨ne W.obj (by simp),aI _ _ _,ne W.nat (by simp),ne W.pre (by simp),fun a ha=>⟨ne (W.mods a ha).obj (by simp),ne (W.mods a ha).con (by simp),ne (W.mods a ha).mix (by simp),ne (W.mods a ha).bX (by simp)⟩,W.tl⟩
theorem WI.sD {G:Gh} {σ:Wd} (W:WI G σ) {a D:Addr} (ha:a∈σ.dom) {xs:List Addr} (hD:G D=some ⟨(3,a),.list (xs.map Value.ref)⟩) :
  WI (upd G a ⟨(1,0),.inst 268 (Mod.fs {σ.md a with aT:=D,mixed:=xs})⟩) (σ.put a {σ.md a with aT:=D,mixed:=xs}):=by
 have hM:=W.mods a ha
 have ne:∀ {b y},G b=some y→y.tag.1≠1→upd G a ⟨(1,0),.inst 268 (Mod.fs {σ.md a with aT:=D,mixed:=xs})⟩ b=some y:=fun {b y} hb hy=>b9 hb hM.obj (fun q=>hy (by exact sb q rfl))
 refine ⟨ne W.obj (by simp),ne W.made (by simp),ne W.nat (by simp),ne W.pre (by simp),fun b hb=>?_,W.tl⟩
 by_cases q:b=a
 ·subst q; refine sb fD ?_
  exact ⟨aI _ _ _,ne hM.con (by simp),ne hD (by simp),ne hM.bX (by simp)⟩
 ·refine sb (dY q) ?_
  have hB:=W.mods b hb
  exact ⟨by rw [bF q]; exact hB.obj,ne hB.con (by simp),ne hB.mix (by simp),ne hB.bX (by simp)⟩
inductive Tb:Str→Option Str→Option Str→Bool→Prop
 | basic:Tb "BasicObject" none none true
 | object:Tb "Object" (some "BasicObject") (some "Kernel") true
 | module:Tb "Module" (some "Object") none true
 | cls:Tb "Class" (some "Module") none true
 | kernel:Tb "Kernel" none none false
 | RD:Tb "Comparable" none none false
 | numeric:Tb "Numeric" (some "Object") (some "Comparable") true
 | integer:Tb "Integer" (some "Numeric") none true
 | string:Tb "String" (some "Object") (some "Comparable") true
 | exception:Tb "Exception" (some "Object") none true
 | standard:Tb "StandardError" (some "Exception") none true
 | argument:Tb "ArgumentError" (some "StandardError") none true
 | name:Tb "NameError" (some "StandardError") none true
noncomputable def univ:List Str:=["BasicObject","Object","Module","Class","Kernel","Comparable","Numeric","Integer","String","Exception","StandardError","ArgumentError","NameError"]
noncomputable def ag8 (u:Str):Option (Option Str×Option Str×Bool):=([("BasicObject",none,none,true),("Object",some "BasicObject",some "Kernel",true),("Module",some "Object",none,true),("Class",some "Module",none,true),("Kernel",none,none,false),("Comparable",none,none,false),("Numeric",some "Object",some "Comparable",true),("Integer",some "Numeric",none,true),("String",some "Object",some "Comparable",true),("Exception",some "Object",none,true),("StandardError",some "Exception",none,true),("ArgumentError",some "StandardError",none,true),("NameError",some "StandardError",none,true)]:List (Str×Option Str×Option Str×Bool)).lookup u
theorem Tb.fn {n:Str} {p m:Option Str} {c:Bool} (h:Tb n p m c):ag8 n=some (p,m,c):=by cases h<;>rfl
theorem Tb.det {u:Str} {p m p' m':Option Str} {c c':Bool} (h:Tb u p m c) (k:Tb u p' m' c'):p=p'∧m=m'∧c=c':=by
 have e:=h.fn.symm.trans k.fn
 cases e
 exact ⟨rfl,rfl,rfl⟩
theorem Tb.JP {u q:Str} {p p' m':Option Str} {c c':Bool} (h:Tb u p (some q) c) (k:Tb q p' m' c'):c'=false∧m'=none:=by
 have e:some ((none:Option Str),(none:Option Str),false)=some (p',m',c'):=by
  refine aY k.fn ?_; cases h<;>rfl
 cases e
 exact ⟨rfl,rfl⟩
theorem Tb.mem {n:Str} {p m:Option Str} {c:Bool} (h:Tb n p m c):n∈univ:=by cases h<;>decide
theorem Tb.len {n:Str} {p m:Option Str} {c:Bool} (h:Tb n p m c):n.length≤100:=by cases h<;>decide
theorem Tb.up {n q:Str} {m:Option Str} {c:Bool} (h:Tb n (some q) m c):∃ p' m' c',Tb q p' m' c':=by
 cases h<;>first | exact ⟨_,_,_,.basic⟩ | exact ⟨_,_,_,.object⟩ | exact ⟨_,_,_,.module⟩ | exact ⟨_,_,_,.numeric⟩ | exact ⟨_,_,_,.exception⟩ | exact ⟨_,_,_,.standard⟩
theorem Tb.side {n q:Str} {p:Option Str} {c:Bool} (h:Tb n p (some q) c):∃ p' m' c',Tb q p' m' c':=by
 cases h<;>first | exact ⟨_,_,_,.kernel⟩ | exact ⟨_,_,_,.RD⟩
structure PN (K:Frag) (n:Str) (p m:Option Str) (c:Bool):Prop where
 cl:(!((["Kernel","Comparable","Enumerable"]:List Str).any (·==n)))=c
 bi:∃ v,nsIn K 483 n=some (some v)∧((p=none∧v=.none)∨∃ q t,p=some q∧v=.str q t)
 mi:(m=none∧nsIn K 486 n=some none)∨∃ q tu t,m=some q∧nsIn K 486 n=some (some (.ref tu))∧K.lookup tu=some {cls:=.type "tuple",data:=.seq #[.str q t]}
theorem Tb.ent {B:Bn} (X:Txt B.w B.K) {n:Str} {p m:Option Str} {c:Bool} (h:Tb n p m c):PN B.K n p m c:=by
 cases h
 ·exact ⟨by decide,⟨_,X.Q0,.inl ⟨rfl,rfl⟩⟩,.inl ⟨rfl,X.ZY⟩⟩
 ·exact ⟨by decide,⟨_,X.QB,.inr ⟨_,_,rfl,rfl⟩⟩,.inr ⟨_,_,_,rfl,X.aa7,X.ZA⟩⟩
 ·exact ⟨by decide,⟨_,X.Q8,.inr ⟨_,_,rfl,rfl⟩⟩,.inl ⟨rfl,X.aa4⟩⟩
 ·exact ⟨by decide,⟨_,X.Q3,.inr ⟨_,_,rfl,rfl⟩⟩,.inl ⟨rfl,X.ZZ⟩⟩
 ·exact ⟨by decide,⟨_,X.Q7,.inl ⟨rfl,rfl⟩⟩,.inl ⟨rfl,X.aa3⟩⟩
 ·exact ⟨by decide,⟨_,X.Q4,.inl ⟨rfl,rfl⟩⟩,.inl ⟨rfl,X.aa0⟩⟩
 ·exact ⟨by decide,⟨_,X.QA,.inr ⟨_,_,rfl,rfl⟩⟩,.inr ⟨_,_,_,rfl,X.aa6,X.ZC⟩⟩
 ·exact ⟨by decide,⟨_,X.GL,.inr ⟨_,_,rfl,rfl⟩⟩,.inl ⟨rfl,X.aa2⟩⟩
 ·exact ⟨by decide,⟨_,X.QD,.inr ⟨_,_,rfl,rfl⟩⟩,.inr ⟨_,_,_,rfl,X.aa9,X.ZD⟩⟩
 ·exact ⟨by decide,⟨_,X.Q6,.inr ⟨_,_,rfl,rfl⟩⟩,.inl ⟨rfl,X.aa1⟩⟩
 ·exact ⟨by decide,⟨_,X.QC,.inr ⟨_,_,rfl,rfl⟩⟩,.inl ⟨rfl,X.aa8⟩⟩
 ·exact ⟨by decide,⟨_,X.PY,.inr ⟨_,_,rfl,rfl⟩⟩,.inl ⟨rfl,X.ZX⟩⟩
 ·exact ⟨by decide,⟨_,X.Q9,.inr ⟨_,_,rfl,rfl⟩⟩,.inl ⟨rfl,X.aa5⟩⟩
noncomputable abbrev Is (σ:Wd) (u:Str) (x:Addr):Prop:=valueAt σ.made u=some (.ref x)
noncomputable abbrev CO (c:Bool):Str:=if c then "Class" else "Module"
structure Full (σ:Wd) (x:Addr) (u:Str) (p m:Option Str) (c:Bool):Prop where
 rN:Is σ u x
 nm:∃ t,(σ.md x).nameV=.str u t
 nat:∃ t,(σ.md x).native=.str u t
 par:(p=none∧(σ.md x).parent=.none)∨∃ q y,p=some q∧Is σ q y∧(σ.md x).parent=.ref y
 mix:(m=none∧(σ.md x).mixed=[])∨∃ q y,m=some q∧Is σ q y∧(σ.md x).mixed=[y]
 own:∃ y,Is σ (CO c) y∧(σ.md x).owner=.ref y
 cls:(σ.md x).cls=c
 con:(σ.md x).consts=[]
 bX:(σ.md x).ahead=[]
 out:(σ.md x).outer=.none
 i6:(σ.md x).attached=.none
 ow:(σ.md x).own=.none
 kept:(σ.md x).kept=.none
structure dT (σ:Wd):Prop where
 inj:gY σ
 le:∀ a∈σ.dom,(σ.md a).num≤σ.last
 nd:σ.dom.Nodup
noncomputable def missing (σ:Wd):Nat:=(univ.filter fun u=>(valueAt σ.made u).isNone).length
structure cQ (σ:Wd):Prop where
 at_:∀ u v,valueAt σ.made u=some v→∃ x,v=.ref x∧x∈σ.dom∧∃ t,(σ.md x).nameV=.str u t
 len:σ.made.length+missing σ≤1000
noncomputable def tot (σ:Wd):Nat:=(σ.dom.map (wt σ.md)).sum
theorem MW {σ:Wd} {x:Addr} {m:Mod} (hd:σ.dom.Nodup) (hx:x∈σ.dom):tot (σ.put x m)+wt σ.md x=tot σ+(2+m.mixed.length+m.ahead.length):=by
 unfold tot
 show (σ.dom.map (wt (σ.put x m).md)).sum+_=_
 generalize σ.dom=l at *
 induction l with
 | nil=>cases hx
 | cons y r ih =>
  rw [iH] at hd
  refine sb cK (sb cK (sb kT (sb kT ?_)))
  rcases cU.mp hx with rfl | h
  ·have e:r.map (wt (σ.put x m).md)=r.map (wt σ.md):=qR fun z hz=>by
    have hzx:z≠x:=fun e=>hd.1 (by exact aY e hz)
    unfold wt; exact sb (dY hzx) ((by rfl))
   have e2:wt (σ.put x m).md x=2+m.mixed.length+m.ahead.length:=by unfold wt; exact sb fD rfl
   exact sb e (sb e2 (lM (by simp +arith only) (by simp +arith only)))
  ·have hy:y≠x:=fun e=>hd.1 (e▸h)
   have e2:wt (σ.put x m).md y=wt σ.md y:=by unfold wt; exact sb (dY hy) rfl
   have:=ih hd.2 h
   exact sb e2 (o2 this)
structure Ext (σ σ':Wd):Prop where
 a:σ'.a=σ.a
 cD:σ'.cD=σ.cD
 iG:σ'.iG=σ.iG
 ready:σ'.ready=σ.ready
 tail:σ'.tail=σ.tail
 last:σ.last≤σ'.last
 dom:∀ x∈σ.dom,x∈σ'.dom
 md:∀ x∈σ.dom,σ'.md x=σ.md x
 made:∀ u v,valueAt σ.made u=some v→valueAt σ'.made u=some v
 m7:∀ u v,valueAt σ'.made u=some v→valueAt σ.made u=some v∨u∈univ
 num:dT σ→dT σ'∧tot σ'+3 * missing σ'≤tot σ+3 * missing σ
 new:∀ x∈σ'.dom,x∈σ.dom∨∃ u p m c,Tb u p m c∧Full σ' x u p m c
theorem Ext.refl (σ:Wd):Ext σ σ:=⟨rfl,rfl,rfl,rfl,rfl,vC _,fun zz h=>h,fun zz zz=>rfl,fun zz zz h=>h,fun zz zz h=>.inl h,fun h=>⟨h,bZ _⟩,fun zz h=>.inl h⟩
theorem Full.ext {σ σ':Wd} {x:Addr} {u:Str} {p m:Option Str} {c:Bool} (h:Full σ x u p m c) (hx:x∈σ.dom) (e:Ext σ σ'):Full σ' x u p m c:=by
 obtain ⟨h1,h2,h3,h4,h5,h6,h7,h8,h9,h10,h11,h12,h13⟩:=h
 have hm:=e.md x hx
 constructor<;>try refine sb hm ?_
 ·exact e.made _ _ h1
 ·exact h2
 ·exact h3
 ·exact h4.imp id fun ⟨q,y,a,b,c⟩=>⟨q,y,a,e.made _ _ b,c⟩
 ·exact h5.imp id fun ⟨q,y,a,b,c⟩=>⟨q,y,a,e.made _ _ b,c⟩
 ·refine aV h6 fun y a b=>?_; exact ⟨y,e.made _ _ a,b⟩
 all_goals assumption
theorem Ext.trans {σ σ' σ'':Wd} (h:Ext σ σ') (k:Ext σ' σ''):Ext σ σ'' :=
 ⟨k.a.trans h.a,k.cD.trans h.cD,k.iG.trans h.iG,k.ready.trans h.ready,k.tail.trans h.tail,kP h.last k.last,fun x hx=>k.dom x (h.dom x hx),fun x hx=>(k.md x (h.dom x hx)).trans (h.md x hx),fun u v hv=>k.made u v (h.made u v hv),fun u v hv=>(k.m7 u v hv).elim (h.m7 u v) .inr,fun n=>⟨(k.num (h.num n).1).1,aG (k.num (h.num n).1).2 (h.num n).2⟩,fun x hx=>by
  rcases k.new x hx with h1 | h1
  ·rcases h.new x h1 with h2 | ⟨u,p,m,c,t,f⟩
   ·exact .inl h2
   ·exact .inr ⟨u,p,m,c,t,f.ext h1 k⟩
  ·exact .inr h1⟩
theorem Ext.missing {σ σ':Wd} (h:Ext σ σ'):missing σ'≤missing σ:=by
 unfold Mine.missing
 refine aY OX (aY OX ?_)
 refine List.countP_mono_left fun u zz hu=>?_
 cases e:valueAt σ.made u with
 | none=>rfl
 | some v=>rw [h.made u v e] at hu; exact hu
section
variable {B:Bn} {R:Addr→Gh→Prop}
theorem I5 (X:Txt B.w B.K) {G:Gh} {σ:Wd} (W:WI G σ) {n:Str} {t:Tok} (hn:n.length≤100) {Q:Value→Gh→Prop} (hQ:Q .none G):Call B (.ref 563) [.ref σ.a,.str n t] G 1 6 Q:=by
 refine SJ X fun c oo hsc aJ hb=>?_
 intro t1
 refine fO (by
          have:(iK ".").length=1:=by decide
          exact aG (d7 hn) (aG (fS (b5 this) _) (ble rfl))) fun t2=>?_
 refine bI X.b8 W.obj rfl rfl ?_
 refine y9 W.nat ?_
 intro t3
 refine fO (by
          have:(iK ".").length=1:=by decide
          exact aG (d7 hn) (aG (fS (b5 this) _) (ble rfl))) fun t4=>?_
 refine bI X.b8 W.obj rfl rfl ?_
 refine y9 W.pre ?_
 exact hQ
end
theorem bD.le {c:Cx} {d u d' u':Nat} (h:bD c d u) (hd:d'≤d) (hu:u'≤u):bD c d' u':=by
 obtain ⟨h1,h2⟩:=h
 exact ⟨by exact dQ hd h1 (by simp +arith only),by exact o5 hu h2⟩
structure jX (x:Addr) (σ σ':Wd):Prop where
 a:σ'.a=σ.a
 cD:σ'.cD=σ.cD
 iG:σ'.iG=σ.iG
 ready:σ'.ready=σ.ready
 tail:σ'.tail=σ.tail
 last:σ.last≤σ'.last
 xn:x∉σ.dom
 xd:x∈σ'.dom
 dom:∀ y∈σ.dom,y∈σ'.dom
 md:∀ y∈σ.dom,σ'.md y=σ.md y
 made:∀ u v,valueAt σ.made u=some v→valueAt σ'.made u=some v
 m7:∀ u v,valueAt σ'.made u=some v→valueAt σ.made u=some v∨u∈univ
 miss:missing σ'+1≤missing σ
 num:dT σ→dT σ'∧tot σ'+3 * missing σ'+1≤tot σ+3 * missing σ
 new:∀ y∈σ'.dom,y∈σ.dom∨y=x∨∃ u p m c,Tb u p m c∧Full σ' y u p m c
theorem jX.ext {x:Addr} {σ σ' σ'':Wd} (h:jX x σ σ') (k:Ext σ' σ''):jX x σ σ'' :=
 ⟨k.a.trans h.a,k.cD.trans h.cD,k.iG.trans h.iG,k.ready.trans h.ready,k.tail.trans h.tail,kP h.last k.last,h.xn,k.dom x h.xd,fun y hy=>k.dom y (h.dom y hy),fun y hy=>(k.md y (h.dom y hy)).trans (h.md y hy),fun u v hv=>k.made u v (h.made u v hv),fun u v hv=>(k.m7 u v hv).elim (h.m7 u v) .inr,aG (d7 k.missing) h.miss,fun n=>by
  have h1:=h.num n
  have h2:=k.num h1.1
  exact ⟨h2.1,by exact aG (vM h2.2 _) h1.2⟩,fun y hy=>by
  rcases k.new y hy with h1 | h1
  ·rcases h.new y h1 with h2 | h2 | ⟨u,p,m,c,t,f⟩
   ·exact .inl h2
   ·exact .inr (.inl h2)
   ·exact .inr (.inr ⟨u,p,m,c,t,f.ext h1 k⟩)
  ·exact .inr (.inr h1)⟩
theorem Full.put {σ:Wd} {x y:Addr} {mm:Mod} {u:Str} {p m:Option Str} {c:Bool} (h:Full σ y u p m c) (hy:y≠x):Full (σ.put x mm) y u p m c:=by
 obtain ⟨h1,h2,h3,h4,h5,h6,h7,h8,h9,h10,h11,h12,h13⟩:=h
 constructor<;>try refine sb (dY hy) ?_
 all_goals assumption
theorem dT.put {σ:Wd} {x:Addr} {mm:Mod} (h:dT σ) (e:mm.num=(σ.md x).num):dT (σ.put x mm) :=
 ⟨h.inj.of rfl (xH e),fun a ha=>by rw [xH e]; exact h.le a ha,h.nd⟩
theorem jX.put {x:Addr} {σ σ':Wd} (h:jX x σ σ') {mm:Mod} (e:mm.num=(σ'.md x).num) (e2:mm.mixed=(σ'.md x).mixed) (e3:mm.ahead=(σ'.md x).ahead):jX x σ (σ'.put x mm) :=
 ⟨h.a,h.cD,h.iG,h.ready,h.tail,h.last,h.xn,h.xd,h.dom,fun y hy=>by refine sb (dY (fun q:y=x=>h.xn (q▸hy))) ?_; exact h.md y hy,h.made,h.m7,h.miss,fun n=>by
  obtain ⟨h1,h2⟩:=h.num n
  refine ⟨h1.put e,?_⟩
  have h3:=MW (m:=mm) h1.nd h.xd
  rw [e2,e3] at h3
  have h4:missing (σ'.put x mm)=missing σ':=rfl
  have h5:wt σ'.md x=2+(σ'.md x).mixed.length+(σ'.md x).ahead.length:=rfl
  exact o4 h2 h3 h4 h5,fun y hy=>by
  by_cases q:y=x
  ·exact .inr (.inl q)
  ·rcases h.new y hy with h1 | h1 | ⟨u,p,m,c,t,f⟩
   ·exact .inl h1
   ·exact absurd h1 q
   ·exact .inr (.inr ⟨u,p,m,c,t,f.put q⟩)⟩
theorem jX.fin {x:Addr} {σ σ':Wd} (h:jX x σ σ') {mm:Mod} {u:Str} {p m:Option Str} {c:Bool} (t:Tb u p m c) (f:Full (σ'.put x mm) x u p m c) (e:mm.num=(σ'.md x).num) (e2:(σ'.md x).mixed=[]) (e3:mm.ahead=(σ'.md x).ahead) (e4:mm.mixed.length≤1):Ext σ (σ'.put x mm) :=
 ⟨h.a,h.cD,h.iG,h.ready,h.tail,h.last,h.dom,fun y hy=>by refine sb (dY (fun q:y=x=>h.xn (q▸hy))) ?_; exact h.md y hy,h.made,h.m7,fun n=>by
  obtain ⟨h1,h2⟩:=h.num n
  refine ⟨h1.put e,?_⟩
  have h3:=MW (m:=mm) h1.nd h.xd
  rw [e3] at h3
  have h4:missing (σ'.put x mm)=missing σ':=rfl
  have h5:wt σ'.md x=2+(σ'.md x).mixed.length+(σ'.md x).ahead.length:=rfl
  rw [e2] at h5
  simp at h5
  exact o3 e4 h2 h3 h4 h5,fun y hy=>by
  by_cases q:y=x
  ·subst q; exact .inr ⟨u,p,m,c,t,f⟩
  ·rcases h.new y hy with h1 | h1 | ⟨u,p,m,c,t,f⟩
   ·exact .inl h1
   ·exact absurd h1 q
   ·exact .inr ⟨u,p,m,c,t,f.put q⟩⟩
set_option tactic.hygienic true in
theorem jX.start {σ σ1 σ2:Wd} {x:Addr} {n:Str} {p m:Option Str} {c:Bool} {tk:Tok} {mm:Mod} (t:Tb n p m c) (hn:valueAt σ.made n=none) (hx:x∉σ.dom) (e1:σ1=(σ.cJ (σ.last+1) tk).add x mm) (e2:σ2=σ1.sC (stored σ.made n (.ref x))) (hnum:mm.num=σ.last+1) (hm:mm.mixed=[]) (ha:mm.ahead=[]):jX x σ σ2:=by
 have hdom:σ2.dom=σ.dom++[x]:=by subst e1 e2; rfl
 have hmd:∀ y∈σ.dom,σ2.md y=σ.md y:=fun y hy=>by
  subst e1 e2; exact r7 (σ:=σ.cJ (σ.last+1) tk) (fun e:y=x=>hx (e▸hy))
 have hmx:σ2.md x=mm:=by subst e1 e2; exact r8
 have hmade:σ2.made=stored σ.made n (.ref x):=by subst e1 e2; rfl
 have hlast:σ2.last=σ.last+1:=by subst e1 e2; rfl
 have h2:missing σ2+1=missing σ:=by
  unfold missing
  refine sb hmade ?_
  have hnd:univ.Nodup:=by decide
  have hmem:=t.mem
  have:∀ l:List Str,l.Nodup→n∈l→(l.filter fun u=>(valueAt (stored σ.made n (.ref x)) u).isNone).length+1=(l.filter fun u=>(valueAt σ.made u).isNone).length:=by
   intro l
   induction l with
   | nil=>intro _ h; cases h
   | cons y r ih =>
    intro hd hm
    rw [iH] at hd
    rcases cU.mp hm with rfl | hm
    ·have e:(r.filter fun u=>(valueAt (stored σ.made n (.ref x)) u).isNone)=r.filter fun u=>(valueAt σ.made u).isNone:=mT fun z hz=>by
      have hzn:z≠n:=fun e=>hd.1 (by exact aY e hz)
      (rewrite [jV]; exact sb (if_neg hzn) ((by rfl)))
     refine sb (jE (by (rewrite [jV]; refine sb (if_pos rfl) ?_); simp)) (sb (gW (p:=fun u=>(valueAt σ.made u).isNone) (by refine sb hn ?_; rfl)) (sb e ?_)); rfl
    ·have hy:y≠n:=fun e=>hd.1 (by exact sb e hm)
     have e:(valueAt (stored σ.made n (.ref x)) y).isNone=(valueAt σ.made y).isNone:=by (rewrite [jV]; exact sb (if_neg hy) rfl)
     have:=ih hd.2 hm
     by_cases q:(valueAt σ.made y).isNone=true
     ·exact sb (gW (by exact sb e q)) (sb (gW (p:=fun u=>(valueAt σ.made u).isNone) q) (sb qQ (sb qQ (congrArg _ this))))
     ·exact sb (jE (by exact sb e q)) (sb (jE (p:=fun u=>(valueAt σ.made u).isNone) q) this)
  exact this univ hnd hmem
 refine ⟨by subst e1 e2; rfl,by subst e1 e2; rfl,by subst e1 e2; rfl,by subst e1 e2; rfl,by subst e1 e2; rfl,by exact Int.le_of_lt (Int.le_of_eq hlast.symm),hx,by refine sb hdom ?_; exact cW _ c8,fun y hy=>by refine sb hdom ?_; exact dD _ hy,hmd,fun u v hv=>?_,fun u v hv=>?_,by exact (b5 h2),fun h=>⟨⟨?_,?_,?_⟩,?_⟩,fun y hy=>?_⟩
 ·(refine sb hmade ?_; rw [jV])
  split
  next e=>rw [e,hn] at hv; exact bM hv
  ·exact hv
 ·rw [hmade,jV] at hv
  split at hv
  next e=>exact .inr (e▸t.mem)
  ·exact .inl hv
 ·intro a ha' b hb' e
  rw [hdom,bW,cG] at ha' hb'
  rcases ha' with ha2 | rfl<;>rcases hb' with hb2 | rfl
  ·rw [hmd a ha2,hmd b hb2] at e; exact h.inj a ha2 b hb2 e
  ·rw [hmd a ha2,hmx,hnum] at e; have:=h.le a ha2; omega
  ·rw [hmd b hb2,hmx,hnum] at e; have:=h.le b hb2; omega
  ·rfl
 ·intro a ha'
  rw [hdom,bW,cG] at ha'
  refine sb hlast ?_
  rcases ha' with ha2 | rfl
  ·refine sb (hmd a ha2) ?_; have:=h.le a ha2; exact vA this
  ·exact sb hmx (sb hnum (vC _))
 ·(refine sb hdom ?_; rw [mU])
  refine ⟨h.nd,by simp,fun a ha' b hb' e=>?_⟩
  rw [cG] at hb'; exact hx (hb'▸e▸ha')
 ·have h1:tot σ2=tot σ+2:=by
   unfold tot
   refine sb hdom (sb dR (sb List.sum_append ?_))
   have:σ.dom.map (wt σ2.md)=σ.dom.map (wt σ.md):=qR fun z hz=>by
    unfold wt; exact sb (hmd z hz) rfl
   refine sb this ?_
   simp [wt,hmx,hm,ha]
  exact dQ (cY (b5 h2) (b5 h2)) (cY (b5 h2) (b5 h1)) (by simp +arith only)
 ·rw [hdom,bW,cG] at hy
  exact hy.imp id .inl
noncomputable def FI (G:Gh) (σ:Wd) (n:Str) (r:Value) (G':Gh):Prop:=∀ P:Value→Prop,(∀ σ' x,WI G' σ'→Ext σ σ'→Is σ' n x→cQ σ'→aD [5,6] G G'→P (.ref x))→P r
noncomputable abbrev Mod.bi (num:Int) (nt:Tok) (aF:Addr) (nm:Value) (cl:Bool) (bE aC aT b7:Addr) (ow pa na:Value):Mod :=
 {num:=num,uK:=nt,owner:=ow,aF,own:=.none,nameV:=nm,cls:=cl,parent:=pa,outer:=.none,bE,aC,aT,b7,attached:=.none,native:=na,kept:=.none,consts:=[],mixed:=[],ahead:=[]}
theorem cQ.put {σ:Wd} {x:Addr} {mm:Mod} (h:cQ σ) (e:mm.nameV=(σ.md x).nameV):cQ (σ.put x mm):=by
 refine ⟨fun u v hv=>?_,h.len⟩
 refine c7 (h.at_ u v hv) fun y e1 hy zq4=>?_
 obtain ⟨t,ht⟩:=zq4
 refine ⟨y,e1,hy,t,?_⟩
 by_cases q:y=x
 ·subst q; exact sb fD (sb e ht)
 ·exact sb (dY q) ht
noncomputable def pR (σ:Wd) (p:Option Str) (pa:Value):Prop:=(p=none∧pa=.none)∨∃ q y,p=some q∧Is σ q y∧pa=.ref y
noncomputable def tQ (σ:Wd) (cl:Bool) (ow:Value):Prop:=∃ y,Is σ (CO cl) y∧ow=.ref y
theorem pR.ext {σ σ':Wd} {p:Option Str} {pa:Value} (h:pR σ p pa) (E:Ext σ σ'):pR σ' p pa:=h.imp id fun ⟨q,y,a,b,c⟩=>⟨q,y,a,E.made _ _ b,c⟩
theorem tQ.ext {σ σ':Wd} {cl:Bool} {ow:Value} (h:tQ σ cl ow) (E:Ext σ σ'):tQ σ' cl ow:=h.imp fun zz a=>⟨E.made _ _ a.1,a.2⟩
structure jG (σ σ':Wd) (G1 G':Gh) (x:Addr) (n:Str) (mm:Mod):Prop where
 W:WI G' σ'
 E:jX x σ σ'
 M:cQ σ'
 i:Is σ' n x
 m:σ'.md x=mm
 k:aD [5,6] G1 G'
theorem jG.obj {σ σ':Wd} {G1 G':Gh} {x:Addr} {n:Str} {mm:Mod} (S:jG σ σ' G1 G' x n mm):G' x=some ⟨(1,0),.inst 268 mm.fs⟩:=S.m▸(S.W.mods x S.E.xd).obj
theorem jG.ext {σ σ' σ8:Wd} {G1 G' G8:Gh} {x:Addr} {n:Str} {mm:Mod} (S:jG σ σ' G1 G' x n mm) (W:WI G8 σ8) (E:Ext σ' σ8) (M:cQ σ8) (k:aD [5,6] G' G8):jG σ σ8 G1 G8 x n mm :=
 ⟨W,S.E.ext E,M,E.made _ _ S.i,(E.md x S.E.xd).trans S.m,S.k.trans k⟩
theorem jG.turn {σ σ':Wd} {G1 G':Gh} {x:Addr} {n:Str} {mm mm':Mod} (S:jG σ σ' G1 G' x n mm) (hx:G1 x=none) (e:mm'.aC=mm.aC∧mm'.aT=mm.aT∧mm'.b7=mm.b7∧mm'.consts=mm.consts∧mm'.mixed=mm.mixed∧mm'.ahead=mm.ahead) (e1:mm'.num=mm.num) (e2:mm'.nameV=mm.nameV) :
  jG σ (σ'.put x mm') G1 (upd G' x ⟨(1,0),.inst 268 mm'.fs⟩) x n mm':=by
 obtain ⟨W,E,M,i,rfl,k⟩:=S
 exact ⟨W.qI E.xd e,E.put e1 e.2.2.2.2.1 e.2.2.2.2.2,M.put e2,i,fD,k.new hx⟩
theorem QG {σ:Wd} {n:Str} {t tn:Tok} {p m:Option Str} {cl:Bool} {x aF bE aC aT b7:Addr} {G1 G2:Gh} (T:Tb n p m cl) (e:valueAt σ.made n=none) (M:cQ σ) (W1:WI G1 (σ.cJ (σ.last+1) tn)) (hx:G1 x=none) (k2:aD [] G1 G2) (hM:kY G2 x (Mod.fresh (σ.last+1) tn .none aF (.str n t) cl .none .none bE aC aT b7 .none)) :
  ∃ σ4,jG σ σ4 G1 (upd (upd G2 σ.dP ⟨(6,0),.aZ (stored σ.made n (.ref x))⟩) x ⟨(1,0),.inst 268 (Mod.fs (Mod.bi (σ.last+1) tn aF (.str n t) cl bE aC aT b7 .none .none (.str n t)))⟩) x n (Mod.bi (σ.last+1) tn aF (.str n t) cl bE aC aT b7 .none .none (.str n t)):=by
 have hxd:=W1.iX hx
 have W2:=W1.vY k2 hM hxd
 have W3:=W2.sC (es:=stored σ.made n (.ref x))
 have E3:=jX.start (σ1:=(σ.cJ (σ.last+1) tn).add x (Mod.fresh (σ.last+1) tn .none aF (.str n t) cl .none .none bE aC aT b7 .none)) T e hxd rfl rfl rfl rfl rfl
 have m3:(((σ.cJ (σ.last+1) tn).add x (Mod.fresh (σ.last+1) tn .none aF (.str n t) cl .none .none bE aC aT b7 .none)).sC (stored σ.made n (.ref x))).md x=(Mod.fresh (σ.last+1) tn .none aF (.str n t) cl .none .none bE aC aT b7 .none):=r8 (σ:=σ.cJ (σ.last+1) tn)
 refine ⟨_,jG.turn (σ':=((σ.cJ (σ.last+1) tn).add x (Mod.fresh (σ.last+1) tn .none aF (.str n t) cl .none .none bE aC aT b7 .none)).sC (stored σ.made n (.ref x))) (mm:=Mod.fresh (σ.last+1) tn .none aF (.str n t) cl .none .none bE aC aT b7 .none) ⟨W3,E3,⟨fun u v hv=>?_,?_⟩,?_,m3,(k2.mono).turn W2.made rfl⟩ hx ⟨rfl,rfl,rfl,rfl,rfl,rfl⟩ rfl rfl⟩
 ·have hv':(if u=n then some (Value.ref x) else valueAt σ.made u)=some v:=by rw [←jV]; exact hv
  by_cases q:u=n
  ·rw [if_pos q] at hv'
   exact ⟨x,(bO hv').symm,cW _ c8,t,by exact sb m3 (sb q rfl)⟩
  ·rw [if_neg q] at hv'
   refine c7 (M.at_ u v hv') fun y e1 hy zq1=>?_
   obtain ⟨t',ht⟩:=zq1
   refine ⟨y,e1,dD _ hy,t',?_⟩
   refine aY ht ?_
   exact congrArg Mod.nameV (r7 (σ:=σ.cJ (σ.last+1) tn) (fun e:y=x=>hxd (e▸hy)))
 ·have h1:=nH σ.made n (.ref x)
  have h2:=E3.miss
  have h3:=M.len
  show (stored σ.made n (.ref x)).length+_≤1000
  exact fX h1 h2 h3 (by simp +arith only)
 ·show valueAt (stored σ.made n (.ref x)) n=_
  (rewrite [jV]; exact sb (if_pos rfl) rfl)
section
variable {B:Bn} {R:Addr→Gh→Prop}
theorem QI (X:Txt B.w B.K):∀ (k:Nat) (σ:Wd) (G:Gh) (n:Str) (t:Tok) (p m:Option Str) (cl:Bool),missing σ≤k→Tb n p m cl→WI G σ→cQ σ →
  Call B (.ref 551) [.ref σ.a,.str n t] G (2 * k+6) (6 * k+40) (FI G σ n):=by
 intro k
 induction k with
 | zero =>
  intro σ G n t p m cl hk T W M
  cases e:valueAt σ.made n with
  | none =>
   exfalso
   have:0<missing σ:=F1 (a:=n) (eZ.mpr ⟨T.mem,by refine sb e ?_; rfl⟩)
   exact absurd hk (Nat.not_le.mpr this)
  | some v =>
   refine c7 (M.at_ n v e) fun x zq3 hx zz=>?_
   subst zq3
   exact (lU X W e fun P k=>k σ x W (.refl σ) e M (aD.refl _ _)).mono (by exact ble rfl) (by exact ble rfl) (fun zz zz h=>h) (fun zz zz h=>h)
 | succ k ih =>
  intro σ G n t p m cl hk T W M
  cases e:valueAt σ.made n with
  | some v =>
   refine c7 (M.at_ n v e) fun x zq2 hx zz=>?_
   subst zq2
   exact (lU X W e fun P k=>k σ x W (.refl σ) e M (aD.refl _ _)).mono (by exact bY _ _) (by exact bY _ _) (fun zz zz h=>h) (fun zz zz h=>h)
  | none =>
   obtain ⟨E1,⟨pv,hbi,hpv⟩,hmi⟩:=T.ent X
   have make:Call B (.ref 556) [.ref σ.a,.str n t] G (2 * k+7) (6 * k+43) (FI G σ n):=by
    refine bH.hide fun Q hQ=>SN X (dn:=2 * k+6) (un:=6 * k+40) (fun c oo hsc aJ hb=>?_)
    have hb0:bD c 6 40:=hb.le (by exact bY _ _) (by exact bY _ _)
    have hbk:bD c (2 * k+6) (6 * k+40):=hb.le (by exact fS (ble rfl) _) (by exact fS (ble rfl) _)
    have cutk:∀ {c:Cx} {σ:Wd} {G:Gh} {n:Str} {t:Tok} {p m:Option Str} {cl:Bool} {mv:aA} {P:Value→aA→Gh→Prop},bD c (2 * k+6) (6 * k+40)→missing σ≤k→Tb n p m cl→WI G σ→cQ σ→(∀ σ' x G',WI G' σ'→Ext σ σ'→Is σ' n x→cQ σ'→aD [5,6] G G'→P (.ref x) mv G')→V B c bJ (call (.ref 551) [.ref σ.a,.str n t]) mv G P :=
     fun {_ _ _ _ _ _ _ _ mv P} h0 h1 h2 h3 h4 h5=>v_cut h0 (ih _ _ _ _ _ _ _ h1 h2 h3 h4) (fun r G' h=>h (fun r=>P r mv G') fun σ' x a b c d e=>h5 σ' x G' a b c d e) (by simp) (by simp)
    refine ahU X.Z9 (ys:=["Kernel","Comparable","Enumerable"]) (.cons _ _ (.cons _ _ (.cons _ _ .nil))) ?_
    refine sb E1 ?_
    refine bS X.b8 X.qB W.obj W.meth ?_
    refine nP (X.keeps _ (by decide)) rfl ?_
    refine aQ hb0 (qC X W fun tn G1 W1 k1=>?_)
    refine pB (1,0) X.wY hb0 fun x hx=>aaC X (aI _ _ _) rfl rfl fun aF bE aC aT b7 G2 hC hMix hAh gC gMix gAh gx kx=>⟨rfl,?_⟩
    have gx3:=b9 (x:=⟨(6,0),.aZ (stored σ.made n (.ref x))⟩) gx (W1.keep (kx.keep hx)).made (b6 rfl)
    refine bI X.b8 (W1.keep (kx.keep hx)).obj rfl rfl ?_
    refine nO (W1.keep (kx.keep hx)).made (by have:=M.len; show σ.made.length<_; exact bQ this (by simp +arith only)) ?_
    refine fF X.bC gx3 rfl rfl rfl ?_
    obtain ⟨σ4,S4⟩:=QG T e M W1 hx (kx.keep hx) (wV gx gC gMix gAh)
    change ws B c bJ oM 56 ((bodyOf (aL 57 7)).drop 4) (bA Q) (sO (some (.ref σ.a)) (some (.str n t)) (some (.bool cl)) (some (.ref x)) none) (upd (upd G2 σ.dP ⟨(6,0),.aZ (stored σ.made n (.ref x))⟩) x ⟨(1,0),.inst 268 (Mod.fs (Mod.bi (σ.last+1) tn aF (.str n t) cl bE aC aT b7 .none .none (.str n t)))⟩)
    generalize upd (upd G2 σ.dP ⟨(6,0),.aZ (stored σ.made n (.ref x))⟩) x ⟨(1,0),.inst 268 (Mod.fs (Mod.bi (σ.last+1) tn aF (.str n t) cl bE aC aT b7 .none .none (.str n t)))⟩=G4 at S4 ⊢
    clear gx3 gx gC gMix gAh kx W1
    generalize σ.last+1=num at S4
    have stage8:∀ sa σ8 G8 D ys pa ow,sa=σ8.a→jG σ σ8 G1 G8 x n (Mod.bi num tn aF (.str n t) cl bE aC aT b7 ow pa (.str n t))→pR σ8 p pa→tQ σ8 cl ow →
      ((m=none∧ys=[])∨∃ q y,m=some q∧Is σ8 q y∧ys=[y])→G8 D=some ⟨(3,x),.list (ys.map Value.ref)⟩ →
      V B c bJ (setAttr (.ref x) "mixed" (.ref D)) (sO (some (.ref sa)) (some (.str n t)) (some (.bool cl)) (some (.ref x)) (some pv)) G8 (fun zz m G=>ws B c bJ oM 52 ((bodyOf (aL 57 7)).drop 8) (bA Q) m G):=by
     intro sa σ8 G8 D ys pa ow kJ S hpa how hys hD
     subst kJ
     obtain ⟨W8,E8,M8,i8,m8,k8⟩:=S
     have hx8:=(W8.mods x E8.xd).obj
     have W9:=W8.sD E8.xd hD
     rw [m8] at hx8 W9
     refine fF X.bC hx8 rfl rfl rfl ?_
     have F9:Full (σ8.put x {Mod.bi num tn aF (.str n t) cl bE aC aT b7 ow pa (.str n t) with aT:=D,mixed:=ys}) x n p m cl:=by
      constructor<;>try rw [fD]
      ·exact i8
      ·exact ⟨t,rfl⟩
      ·exact ⟨t,rfl⟩
      ·exact hpa
      ·exact hys
      ·exact how
     have E9:=E8.fin T F9 (by exact sb m8 rfl) (by exact sb m8 rfl) (by exact sb m8 rfl) (by rcases hys with ⟨_,h⟩ | ⟨_,_,_,_,h⟩<;>refine sb h ?_<;>exact ble rfl)
     have M9:=M8.put (x:=x) (mm:={Mod.bi num tn aF (.str n t) cl bE aC aT b7 ow pa (.str n t) with aT:=D,mixed:=ys}) (by exact sb m8 rfl)
     have k9:aD [5,6] G _:=(k1.mono).trans (k8.new (x:=⟨(1,0),.inst 268 (Mod.fs {Mod.bi num tn aF (.str n t) cl bE aC aT b7 ow pa (.str n t) with aT:=D,mixed:=ys})⟩) hx)
     have fin:=hQ (.ref x) _ fun P k=>k _ x W9 E9 i8 M9 k9
     refine bI X.b8 W9.obj rfl rfl ?_
     refine cV (fun h=>?_) (fun h=>?_)
     ·refine bS X.b8 X.JK W9.obj W9.meth ?_
      refine aQ hb0 (I5 X W9 T.len ?_)
      exact fin
     ·exact fin
    have stage7:∀ sa σ7 G7 pa ow,sa=σ7.a→jG σ σ7 G1 G7 x n (Mod.bi num tn aF (.str n t) cl bE aC aT b7 ow pa (.str n t))→pR σ7 p pa→tQ σ7 cl ow →
      ws B c bJ oM 53 ((bodyOf (aL 57 7)).drop 7) (bA Q) (sO (some (.ref sa)) (some (.str n t)) (some (.bool cl)) (some (.ref x)) (some pv)) G7:=by
     intro sa σ7 G7 pa ow kJ S7 hpa how
     refine N5 ?_ (by refine sb (xU hsc) ?_; kernel_rfl!)
     refine nQ X oo aJ hsc (3,x) rfl rfl ?_
     refine ahI X.A3 ?_
     refine iE (9,6) (by simp) fun e0 he0=>?_
     have kf:aD [5,6] G7 (upd G7 e0 ⟨(9,6),.tup []⟩):=(aD.refl _ _).fresh he0
     have W7':=S7.W.keep ((aD.refl [] _).fresh (x:=⟨(9,6),.tup []⟩) he0)
     rcases hmi with ⟨hm,hmi⟩ | ⟨q,tu,tq,hm,hmi,hlk⟩
     ·refine NF X.A3 hmi ?_
      refine ⟨rfl,0,_,fun zz=>true,fun zz zz zz=>True,[5,6],fun zz zz G=>WI G σ7,by decide,rfl,.tup (xs:=[]) (aI _ _ _) rfl,fun zz zz zz zz zz zz=>trivial,fun zz zz zz zz zz zz=>trivial,W7',fun zz zz zz zz h k=>k.wi h,fun zz zz zz zz h zz zz=>h,?_,?_,?_⟩
      ·intro c' k v G' ys _ _ hP; cases hP
      ·intro c' k v G' ys _ _ hP; cases hP
      ·intro D vs ys G' hD hk hW hD' hl _ hF
       obtain rfl:vs=[]:=List.eq_nil_of_length_eq_zero hl
       obtain rfl:ys=[]:=by cases hF; rfl
       refine fQ X aJ ?_
       exact stage8 sa σ7 G' D [] pa ow kJ ⟨hW,S7.E,S7.M,S7.i,S7.m,(S7.k.trans kf).trans hk⟩ hpa how (.inl ⟨hm,rfl⟩) hD'
     ·refine NF X.A3 hmi ?_
      refine ⟨rfl,1,_,fun zz=>true,fun zz zz zz=>True,[5,6],fun i ys G=>(i=0∧ys=[]∧WI G σ7)∨(i=1∧∃ y σ8,ys=[Value.ref y]∧WI G σ8∧Ext σ7 σ8∧cQ σ8∧Is σ8 q y),by decide,rfl,.CC (xs:=[.str q tq]) (fun h hI=>⟨_,hI _ _ hlk,rfl,0,rfl⟩),fun zz zz zz zz zz zz=>trivial,fun zz zz zz zz zz zz=>trivial,.inl ⟨rfl,rfl,W7'⟩,
       fun zz zz zz zz h k=>h.imp (fun ⟨a,b,c⟩=>⟨a,b,k.wi c⟩) (fun ⟨a,y,s,b,c,d⟩=>⟨a,y,s,b,k.wi c,d⟩),(fun zz zz zz zz zz zz h=>by exact rY h),?_,?_,?_⟩
      ·intro c' k v G' ys hA hg hP hk hI
       exact MZ ⟨rfl,rfl,aD.refl _ _⟩
      ·intro c' i v G' ys hA hg hP _ hk' hI
       subst kJ
       have hi:i=0:=by
        rcases i with _ | i
        ·rfl
        ·simp at hP
       subst hi
       cases hP
       obtain ⟨_,rfl,Wi⟩:0=0∧ys=[]∧WI G' σ7:=by
        rcases hI with h | ⟨h,_⟩
        ·exact h
        ·cases h
       refine fQ X hg ?_
       refine bS X.b8 X.g7 Wi.obj Wi.meth ?_
       obtain ⟨p',m',c'',T'⟩:=(hm▸T).side
       refine cutk (hbk.of hA) (z7 (aG S7.E.miss hk)) T' Wi S7.M fun σ8 y G8 W8 E8 i8 M8 k8=>?_
       exact ⟨rfl,k8,trivial,.inr ⟨rfl,y,σ8,rfl,W8,E8,M8,i8⟩⟩
      ·intro D vs ys G' hD hk hI hD' hl _ hF
       obtain ⟨y,σ8,rfl,W8,E8,M8,i8⟩:∃ y σ8,ys=[Value.ref y]∧WI G' σ8∧Ext σ7 σ8∧cQ σ8∧Is σ8 q y:=by
        rcases hI with ⟨h,_⟩ | ⟨_,h⟩
        ·cases h
        ·exact h
       refine fQ X aJ ?_
       exact stage8 sa σ8 G' D [y] pa ow (kJ.trans E8.a.symm) ⟨W8,S7.E.ext E8,M8,E8.made _ _ S7.i,(E8.md x S7.E.xd).trans S7.m,(S7.k.trans kf).trans hk⟩ (hpa.ext E8) (how.ext E8) (.inr ⟨q,y,hm,i8,rfl⟩) hD'
    have stage6:∀ sa σ6 G6 pa,sa=σ6.a→jG σ σ6 G1 G6 x n (Mod.bi num tn aF (.str n t) cl bE aC aT b7 .none pa (.str n t))→pR σ6 p pa →
      ws B c bJ oM 54 ((bodyOf (aL 57 7)).drop 6) (bA Q) (sO (some (.ref sa)) (some (.str n t)) (some (.bool cl)) (some (.ref x)) (some pv)) G6:=by
     intro sa σ6 G6 pa kJ S6 hpa
     subst kJ
     have go:∀ σ7 y G7,WI G7 σ7→Ext σ6 σ7→Is σ7 (CO cl) y→cQ σ7→aD [5,6] G6 G7→V B c bJ (setAttr (.ref x) "owner" (.ref y)) (sO (some (.ref σ6.a)) (some (.str n t)) (some (.bool cl)) (some (.ref x)) (some pv)) G7 (fun zz m G=>ws B c bJ oM 53 ((bodyOf (aL 57 7)).drop 7) (bA Q) m G):=by
      intro σ7 y G7 W7 E7 i7 M7 k7
      have S7:=S6.ext W7 E7 M7 k7
      refine fF X.bC S7.obj rfl rfl rfl ?_
      exact stage7 σ6.a (σ7.put x _) _ pa (.ref y) E7.a.symm (S7.turn (mm':=Mod.bi num tn aF (.str n t) cl bE aC aT b7 (.ref y) pa (.str n t)) hx ⟨rfl,rfl,rfl,rfl,rfl,rfl⟩ rfl rfl) (hpa.ext E7:pR σ7 p pa) ⟨y,i7,rfl⟩
     have hk':missing σ6≤k:=z7 (aG S6.E.miss hk)
     induction cl using Bool.casesOn with
     | true =>
      refine bS X.b8 X.g7 S6.W.obj S6.W.meth ?_
      intro t1
      exact cutk hbk hk' Tb.cls S6.W S6.M go
     | false =>
      refine bS X.b8 X.g7 S6.W.obj S6.W.meth ?_
      intro t1
      exact cutk hbk hk' Tb.module S6.W S6.M go
    refine ⟨fun zz=>ahH X.A2 hbi ?_⟩
    rcases hpv with ⟨hp,rfl⟩ | ⟨q,tq,hp,rfl⟩
    ·refine fF X.bC S4.obj rfl rfl rfl ?_
     exact stage6 σ.a (σ4.put x _) _ .none S4.E.a.symm (S4.turn (mm':=Mod.bi num tn aF (.str n t) cl bE aC aT b7 .none .none (.str n t)) hx ⟨rfl,rfl,rfl,rfl,rfl,rfl⟩ rfl rfl) (.inl ⟨hp,rfl⟩)
    ·refine aY S4.E.a ?_
     refine bS X.b8 X.g7 S4.W.obj S4.W.meth ?_
     obtain ⟨p',m',c'',T'⟩:=(hp▸T).up
     refine cutk hbk (z7 (aG S4.E.miss hk)) T' S4.W S4.M fun σ5 y G5 W5 E5 i5 M5 k5=>?_
     have S5:=S4.ext W5 E5 M5 k5
     refine fF X.bC S5.obj rfl rfl rfl ?_
     exact stage6 σ4.a (σ5.put x _) _ (.ref y) E5.a.symm (S5.turn (mm':=Mod.bi num tn aF (.str n t) cl bE aC aT b7 .none (.ref y) (.str n t)) hx ⟨rfl,rfl,rfl,rfl,rfl,rfl⟩ rfl rfl) (.inr ⟨q,y,hp,i5,rfl⟩)
   refine bH.hide fun Q hQ=>HO X (dn:=2 * (k+1)+5) (un:=6 * (k+1)+37) (fun c oo hsc aJ hb=>?_)
   refine bI X.b8 W.obj rfl rfl ?_
   refine DY W.made ?_
   refine DU W.made ?_
   refine sb e ?_
   refine bS X.b8 X.ZU W.obj W.meth ?_
   refine v_cut hb make (fun r G' h=>hQ _ _ h) ?_ ?_
   ·refine sb pH ?_; omega
   ·refine sb pH ?_; omega
theorem pW (X:Txt B.w B.K) {σ:Wd} {G:Gh} {n:Str} {t:Tok} {p m:Option Str} {cl:Bool} (hm:missing σ≤13) (T:Tb n p m cl) (W:WI G σ) (M:cQ σ) {Q:Value→Gh→Prop} (hQ:∀ σ' x G',WI G' σ'→Ext σ σ'→Is σ' n x→cQ σ'→aD [5,6] G G'→Q (.ref x) G') :
  Call B (.ref 551) [.ref σ.a,.str n t] G 32 118 Q :=
 (QI X 13 σ G n t p m cl hm T W M).mono (bZ _) (bZ _) (fun r G' h=>h (fun r=>Q r G') fun σ' x a b c d e=>hQ σ' x G' a b c d e) fun zz zz h=>h
end
section
variable {B:Bn} {c:Cx} {R:Addr→aA→Gh→Prop} {m:aA} {G:Gh}
theorem ahM {d:Addr} {t:Tag} {es:List (Str×Value)} {Q:Value→aA→Gh→Prop} (tg:Tag) (hG:G d=some ⟨t,.aZ es⟩)
  (h:∀ a (vs:List Value),G a=none→vs.length=es.length→(∀ (j:Nat) v,vs[j]?=some v→∃ k x u,es[j]?=some (k,x)∧v=.str k u)→Q (.ref a) m (upd G a ⟨tg,.list vs⟩)):V B c R (call (.type "list") [.ref d]) m G Q:=⟨fun ok s S=>by
 obtain ⟨hD,hz⟩:=S.aZ hG
 obtain ⟨ep,hat⟩:=hD.dictAt
 refine kdl_call (kdl_dict (knd:=strKind B.prog B.w) (kvs:=es) (ep:=ep) (S.sys hG)) ok.hh hat (by exact sb sizeLine_eq (aG hz (ble rfl))) fun h' tk acc' c' hk hS hacc=>?_
 obtain ⟨h1,h2⟩:=hacc
 obtain ⟨S',hn⟩:=S.add (h':=h') (t:=tk) (a:=s.heap.objs.size) ⟨tg,.list acc'.toList⟩ hk S.fresh rfl (fun d=>⟨⟨c',by exact sb Array.toArray_toList hS⟩,by exact sb OQ (sb h1 hz)⟩)
 refine ⟨_,_,S',h _ _ hn (by exact sb OQ h1) fun j v e=>?_⟩
 refine cN (h2 j v (by exact aY Array.getElem?_toList e)) fun k x e1 e2=>?_
 obtain ⟨u,e3⟩:=Value.isStrOf_shape e2
 exact ⟨k,x,u,e1,e3⟩⟩
end
theorem WI.afT {G:Gh} {σ:Wd} (h:WI G σ) {v:Value} (r:Bool):WI (upd G σ.a ⟨(5,0),.inst 770 (Wd.fs {σ with tail:=[("main",v)],ready:=r})⟩) {σ with tail:=[("main",v)],ready:=r}:=by
 have ne:∀ {b y},G b=some y→y.tag.1≠5→upd G σ.a ⟨(5,0),.inst 770 (Wd.fs {σ with tail:=[("main",v)],ready:=r})⟩ b=some y:=fun {b y} hb hy=>b9 hb h.obj (fun q=>hy (by exact sb q rfl))
 exact ⟨aI _ _ _,ne h.made (by simp),ne h.nat (by simp),ne h.pre (by simp),fun a ha=>⟨ne (h.mods a ha).obj (by simp),ne (h.mods a ha).con (by simp),ne (h.mods a ha).mix (by simp),ne (h.mods a ha).bX (by simp)⟩,rfl⟩
structure qX (σ:Wd):Prop where
 all:∀ x∈σ.dom,∃ u p m c,Tb u p m c∧Full σ x u p m c
 num:dT σ
 made:cQ σ
 obj:∃ o,Is σ "Object" o
 tot:tot σ+3 * missing σ≤39
 ready:σ.ready=true
theorem Full.same {σ σ':Wd} {x:Addr} {u:Str} {p m:Option Str} {c:Bool} (h:Full σ x u p m c) (e1:σ'.made=σ.made) (e2:σ'.md=σ.md):Full σ' x u p m c:=by
 obtain ⟨h1,h2,h3,h4,h5,h6,h7,h8,h9,h10,h11,h12,h13⟩:=h
 constructor<;>try refine sb e2 ?_
 all_goals first | assumption | (unfold Is; refine sb e1 ?_; assumption)
noncomputable abbrev lR (x eL eX aSy dP aGl aOut:Addr) (t1 t2 t3 t4 t5:Tok):Wd :=
 {a:=x,eL,eX,read:=.none,most:=.int 20000 1072,taken:=.int 0 t1,last:=0,CD:=t2,ident:=.int 8 t3,syms:=.ref aSy,dP,cD:=0,iG:=t4,kD:=0,A0:=t5,globals:=.ref aGl,out:=.ref aOut,here:=.none,ready:=false,tail:=[],made:=[],dom:=[],
  md:=fun zz=>Mod.fresh 0 0 .none 0 .none false .none .none 0 0 0 0 .none}
theorem qX.aaL {σ:Wd} (B4:qX σ) {k:Nat} {n:Str} {w:Value} (e1:σ.made[k]?=some (n,w)):n.length≤100:=by
 have hm:=cE e1
 have hs:(valueAt σ.made n).isSome=true:=by
  unfold valueAt
  (refine sb Option.isSome_map ?_; rw [List.find?_isSome])
  exact ⟨_,hm,by exact if_pos rfl⟩
 obtain ⟨v,hv⟩:=FF.mp hs
 refine c7 (B4.made.at_ n v hv) fun z zq1 hz zq2=>?_
 subst zq1
 obtain ⟨t1,e2⟩:=zq2
 refine pD (B4.all z hz) fun u' p m c T f=>?_
 obtain ⟨t2,e3⟩:=f.nm
 rw [e2] at e3
 cases e3
 exact T.len
theorem PS {σ0 σ2:Wd} {t:Tok} {o y:Addr} (d0:σ0.dom=[]) (hmiss:missing σ0=13) (E2:Ext (σ0.cJ (σ0.last+1) t) σ2) (M2:cQ σ2) (i2:Is σ2 "Object" o):qX {σ2 with tail:=[("main",.ref y)],ready:=true}:=by
 have h0:dT (σ0.cJ (σ0.last+1) t):=⟨fun a ha=>(by (have:a∈σ0.dom:=ha); rw [d0] at this; cases this),fun a ha=>(by (have:a∈σ0.dom:=ha); rw [d0] at this; cases this),by show σ0.dom.Nodup; exact sb d0 vL⟩
 obtain ⟨h1,h2⟩:=E2.num h0
 refine ⟨fun x hx=>?_,⟨h1.inj,h1.le,h1.nd⟩,⟨M2.at_,M2.len⟩,⟨o,i2⟩,?_,rfl⟩
 ·rcases E2.new x hx with h | ⟨u,p,m,c,T,f⟩
  ·have:x∈σ0.dom:=h
   rw [d0] at this; cases this
  ·exact ⟨u,p,m,c,T,f.same rfl rfl⟩
 ·have e1:tot (σ0.cJ (σ0.last+1) t)=0:=by unfold tot; show (σ0.dom.map _).sum=0; refine sb d0 ?_; rfl
  have e2:missing (σ0.cJ (σ0.last+1) t)=13:=hmiss
  show tot σ2+3 * missing σ2≤39
  exact o6 h2 e1 e2
section
variable {B:Bn} {R:Addr→Gh→Prop}
theorem ajG (X:Txt B.w B.K) {G:Gh} {x eL:Addr} (hG:G x=some ⟨(5,0),.inst 770 []⟩) (hN:G eL=some ⟨(10,0),.aZ []⟩) {Q:Value→Gh→Prop} (hQ:∀ σ G',σ.a=x→WI G' σ→qX σ→(∀ b y,b≠x→G b=some y→y.tag.1≠5→y.tag.1≠6→G' b=some y)→Q .none G') :
  Call B (.ref 509) [.ref x,.ref eL] G 40 150 Q:=by
 refine SM X fun c oo hsc aJ hb=>?_
 refine qK X.b8 hG rfl rfl rfl rfl ?_
 refine nN (10,0) fun eX hPre=>?_
 refine mJ X.b8 hPre rfl rfl rfl rfl fun hPre nPre=>?_
 refine fG X.b8 rfl rfl rfl rfl ?_
 refine fG X.b8 rfl rfl rfl rfl ?_
 intro t1
 refine fG X.b8 rfl rfl rfl rfl ?_
 intro t2
 refine fG X.b8 rfl rfl rfl rfl ?_
 intro t3
 refine fG X.b8 rfl rfl rfl rfl ?_
 refine nN (8,0) fun aSy hSy=>?_
 refine mJ X.b8 hSy rfl rfl rfl rfl fun hSy nSy=>?_
 refine nN (6,0) fun dP hMade=>?_
 refine mJ X.b8 hMade rfl rfl rfl rfl fun hMade nMade=>?_
 intro t4
 refine fG X.b8 rfl rfl rfl rfl ?_
 intro t5
 refine fG X.b8 rfl rfl rfl rfl ?_
 refine nN (8,0) fun aGl hGl=>?_
 refine mJ X.b8 hGl rfl rfl rfl rfl fun hGl nGl=>?_
 refine eS (8,0) (by simp) fun aOut hOut=>?_
 refine mJ X.b8 hOut rfl rfl rfl rfl fun hOut nOut=>?_
 refine fG X.b8 rfl rfl rfl rfl ?_
 refine fG X.b8 rfl rfl rfl rfl ?_
 have hnx:eL≠x:=fun e=>by rw [e,hG] at hN; cases hN
 have old:∀ b y,b≠x→G b=some y→upd (upd (upd (upd (upd (upd G eX ⟨(10,0),.aZ []⟩) aSy ⟨(8,0),.aZ []⟩) dP ⟨(6,0),.aZ []⟩) aGl ⟨(8,0),.aZ []⟩) aOut ⟨(8,0),.list []⟩) x ⟨(5,0),.inst 770 (Wd.fs (lR x eL eX aSy dP aGl aOut t1 t2 t3 t4 t5))⟩ b=some y:=fun b y hb h=>by
  refine sb (bF hb) ?_; exact bG (bG (bG (bG (bG h hPre) hSy) hMade) hGl) hOut
 have W0:WI (upd (upd (upd (upd (upd (upd G eX ⟨(10,0),.aZ []⟩) aSy ⟨(8,0),.aZ []⟩) dP ⟨(6,0),.aZ []⟩) aGl ⟨(8,0),.aZ []⟩) aOut ⟨(8,0),.list []⟩) x ⟨(5,0),.inst 770 (Wd.fs (lR x eL eX aSy dP aGl aOut t1 t2 t3 t4 t5))⟩) (lR x eL eX aSy dP aGl aOut t1 t2 t3 t4 t5) :=
  ⟨aI _ _ _,by show upd _ x _ dP=_; rw [bF nMade]; exact bG (bG (aI _ _ _) hGl) hOut,old _ _ hnx hN,by show upd _ x _ eX=_; rw [bF nPre]; exact bG (bG (bG (bG (aI _ _ _) hSy) hMade) hGl) hOut,fun a ha=>(by cases ha),rfl⟩
 change ws B c bJ tZ 45 ((bodyOf (aL 57 0)).drop 15) (bA Q) (yD (some (.ref x)) (some (.ref eL)) (some .none) (some .none) (some (.int 20000 1072)) none) (upd (upd (upd (upd (upd (upd G eX ⟨(10,0),.aZ []⟩) aSy ⟨(8,0),.aZ []⟩) dP ⟨(6,0),.aZ []⟩) aGl ⟨(8,0),.aZ []⟩) aOut ⟨(8,0),.list []⟩) x ⟨(5,0),.inst 770 (Wd.fs (lR x eL eX aSy dP aGl aOut t1 t2 t3 t4 t5))⟩)
 have e0:(lR x eL eX aSy dP aGl aOut t1 t2 t3 t4 t5).a=x:=rfl
 have d0:(lR x eL eX aSy dP aGl aOut t1 t2 t3 t4 t5).dom=[]:=rfl
 have m0:(lR x eL eX aSy dP aGl aOut t1 t2 t3 t4 t5).made=[]:=rfl
 have tl0:(lR x eL eX aSy dP aGl aOut t1 t2 t3 t4 t5).tail=[]:=rfl
 generalize upd (upd (upd (upd (upd (upd G eX ⟨(10,0),.aZ []⟩) aSy ⟨(8,0),.aZ []⟩) dP ⟨(6,0),.aZ []⟩) aGl ⟨(8,0),.aZ []⟩) aOut ⟨(8,0),.list []⟩) x ⟨(5,0),.inst 770 (Wd.fs (lR x eL eX aSy dP aGl aOut t1 t2 t3 t4 t5))⟩=G0 at *
 generalize lR x eL eX aSy dP aGl aOut t1 t2 t3 t4 t5=σ0 at *
 clear hPre nPre hSy nSy hMade nMade hGl nGl hOut nOut hnx
 subst e0
 have hmiss:missing σ0=13:=by unfold missing; refine sb m0 ?_; decide
 refine bS X.b8 X.qB W0.obj W0.meth ?_
 refine nP (X.keeps _ (by decide)) rfl ?_
 refine aQ hb (qC X W0 fun t G1 W1 k1=>?_)
 refine bS X.b8 X.g7 W1.obj W1.meth ?_
 intro t'
 refine aQ hb (pW X (by show missing σ0≤13; exact (b5 hmiss)) .object W1 ⟨fun u v hv=>(by (have e:(σ0.cJ (σ0.last+1) t).made=[]:=m0); rw [e] at hv; cases hv),by show σ0.made.length+missing σ0≤1000; refine sb m0 (sb hmiss ?_); decide⟩ fun σ2 o G2 W2 E2 i2 M2 k2=>?_)
 have a2:σ2.a=σ0.a:=E2.a
 refine pB (8,0) X.aaH hb fun y hy=>xV X (fl:=[]) X.R3 (aI _ _ _) rfl fun d G3 hd hdx hd1 hy1 k3=>⟨rfl,?_⟩
 have k3':=k3.keep hy
 have W3:=W2.keep k3'
 have o3:=W3.obj
 have tl2:σ2.tail=[]:=E2.tail.trans tl0
 rw [a2,Wd.fs,tl2] at o3
 refine qK X.b8 o3 rfl rfl rfl rfl ?_
 refine fF X.b8 (aI _ _ _) rfl rfl rfl ?_
 rw [N2]
 have W4:=W3.afT (v:=.ref y) true
 have k4:aD [5,6] G0 (upd G3 σ2.a ⟨(5,0),.inst 770 (Wd.fs {σ2 with tail:=[("main",.ref y)],ready:=true})⟩):=((k1.mono).trans (k2.trans (k3'.mono))).turn (by exact sb a2 o3) rfl
 change ws B c bJ tZ 43 ((bodyOf (aL 57 0)).drop 17) (bA Q) (yD (some (.ref σ0.a)) (some (.ref eL)) (some .none) (some .none) (some (.int 20000 1072)) none) (upd G3 σ0.a ⟨(5,0),.inst 770 (Wd.fs {σ2 with tail:=[("main",.ref y)],ready:=true})⟩)
 have a4:({σ2 with tail:=[("main",.ref y)],ready:=true}:Wd).a=σ0.a:=a2
 have B4:qX {σ2 with tail:=[("main",.ref y)],ready:=true}:=PS d0 hmiss E2 M2 i2
 have i4:upd G3 σ2.a ⟨(5,0),.inst 770 (Wd.fs {σ2 with tail:=[("main",.ref y)],ready:=true})⟩=upd G3 σ0.a ⟨(5,0),.inst 770 (Wd.fs {σ2 with tail:=[("main",.ref y)],ready:=true})⟩:=by exact sb a2 rfl
 rw [i4] at W4 k4
 generalize ({σ2 with tail:=[("main",.ref y)],ready:=true}:Wd)=σ4 at *
 generalize upd G3 σ0.a ⟨(5,0),.inst 770 σ4.fs⟩=G4 at *
 refine aY a4 ?_
 refine bI X.b8 W4.obj rfl rfl ?_
 refine ahM (9,4) W4.made fun l vs hl hvl hvs=>?_
 refine nM (fun k m G'=>∃ ov,m=(yD (some (.ref σ4.a)) (some (.ref eL)) (some .none) (some .none) (some (.int 20000 1072)) ov)∧aD [] G4 G') (aI _ _ _) (fun I hI=>⟨none,rfl,((aD.refl _ _).fresh hl).fresh hI⟩) ?_ ?_
 ·rintro J' I k v m G' hJ hI hv ⟨ov,rfl,hk⟩ hI' hl'
  refine lI (hvs k v hv) fun n x u e1 zq3=>?_
  subst zq3
  have nI:G4 I=none:=(nL hI).2
  have kI:aD [] G4 (upd G' I ⟨(9,0),.lit l (k+1)⟩):=hk.new nI
  have W':=W4.keep kI
  have hn:n.length≤100:=B4.aaL e1
  refine jT (iQ oo rfl (gG X oo aJ ?_))
  refine bS X.b8 X.JK W'.obj W'.meth ?_
  refine aQ hb (I5 X W' hn ?_)
  exact hJ _ _ ⟨_,rfl,kI⟩ (aI _ _ _) (b9 hl' hI' (b6 rfl))
 ·rintro I m G' hI ⟨ov,rfl,hk⟩ hI' hl'
  have nI:G4 I=none:=(nL hI).2
  have kE:=hk.era nI
  refine hQ σ4 _ a4 (W4.keep kE) B4 (fun b y hb hy h5 h6=>?_)
  exact kE _ _ (k4 _ _ (old b y hb hy) (by simp [h5,h6])) rfl
end
inductive gP (σ:Wd) (ro:Addr→Nat):Addr→Str→Prop
 | base {a:Addr} {n:Str} {t:Tok} (ha:a∈σ.dom) (h1:(σ.md a).attached=.none) (h2:(σ.md a).nameV=.str n t) (h3:(σ.md a).outer=.none):gP σ ro a n
 | step {a b:Addr} {n p:Str} {t:Tok} (ha:a∈σ.dom) (h1:(σ.md a).attached=.none) (h2:(σ.md a).nameV=.str n t) (h3:(σ.md a).outer=.ref b) (hr:ro b<ro a) (h:gP σ ro b p):gP σ ro a (p++"::"++n)
 | own {a b:Addr} {p:Str} (ha:a∈σ.dom) (h1:(σ.md a).attached=.ref b) (hr:ro b<ro a) (h:gP σ ro b p):gP σ ro a ("#<Class:"++p++">")
theorem gP.dom {σ:Wd} {ro:Addr→Nat} {a:Addr} {p:Str} (h:gP σ ro a p):a∈σ.dom:=by cases h<;>assumption
theorem afY:(iK "")=Str.empty:=by decide
theorem CG:(iK "::").length=2:=by decide
theorem uD:(iK "#<Class:").length=8:=by decide
theorem wQ:(iK ">").length=1:=by decide
section
variable {B:Bn} {R:Addr→Gh→Prop}
inductive FW (G:Gh) (σ:Wd) (ro:Addr→Nat) (lm:Addr) (P:Str):Nat→aA→Gh→Prop
 | mk {G':Gh} (cur:Addr) (A Bh p:Str) (ta tb:Tok) (es:List (Int×Value)) (kp:aD [] G G') (hm:G' lm=some ⟨(9,3),.cR es⟩) (hp:gP σ ro cur p) (he:A++p++Bh=P) (hf:∀ z∈σ.dom,ro z≤ro cur→valueAt es (σ.md z).num=none) (hz:es.length+ro cur≤100000) :
   FW G σ ro lm P (ro cur) (OB (some (.ref cur)) (some (.str A ta)) (some (.str Bh tb)) (some (.ref lm))) G'
set_option tactic.hygienic true in
theorem AM (X:Txt B.w B.K) {G:Gh} {σ:Wd} (W:WI G σ) (hi:gY σ) {ro:Addr→Nat} {a:Addr} {P:Str} (hp:gP σ ro a P) (hz:P.length≤1000000) (hro:ro a≤1000) {Q:Value→Gh→Prop} (hQ:∀ t G',aD [] G G'→Q (.str P t) G') :
  Call B (.ref 330) [.ref a] G 2 12 Q:=by
 refine SY X fun c oo hsc aJ hb=>?_
 refine iZ X oo aJ hsc ["ahead","behind","met"] (by kernel_rfl!) (by kernel_rfl!) ?_
 intro t1 t2
 refine NL (9,3) fun lm hlm=>?_
 refine iE (9,1) (by exact bY _ _) fun x1 hx1=>?_
 refine gQ.mk (aI _ _ _) rfl rfl ?_
 have nlm:G lm=none:=hlm
 refine sN (FW G σ ro lm P) (ro a) ?_ ?_
 ·exact .mk a "" "" P t1 t2 [] (((aD.refl _ _).fresh hlm).fresh hx1) (bG (aI _ _ _) hx1) hp (by rw [afY,Str.empty_append,Str.append_empty]) (fun z zz zz=>rfl) (by simp; exact aG hro (ble rfl))
 ·rintro J' hJ n _ G' ⟨cur,A,Bh,p,ta,tb,es,kp,hm,hp,he,hf,hes⟩
  have W':=W.keep kp
  have hd:=hp.dom
  have hM:=(W'.mods cur hd).obj
  refine qL X aJ ?_
  refine bI X.bC hM rfl rfl ?_
  refine uW hm ?_
  refine sb (hf cur hd (bZ _)) ?_
  refine gG X oo aJ ?_
  refine bI X.bC hM rfl rfl ?_
  refine NR hm (by exact ab4 hes) ?_
  have k2:aD [] G (upd G' lm ⟨(9,3),.cR (stored es (σ.md cur).num (.bool true))⟩):=kp.new nlm
  have hm2:upd G' lm ⟨(9,3),.cR (stored es (σ.md cur).num (.bool true))⟩ lm=_:=aI _ _ _
  have hsl:=nH es (σ.md cur).num (.bool true)
  have fr:∀ b,ro b<ro cur→∀ z∈σ.dom,ro z≤ro b→valueAt (stored es (σ.md cur).num (.bool true)) (σ.md z).num=none:=by
   intro b hbr z hz hzr
   rw [jV]
   split
   next e=>exact absurd (hi z hz cur hd e) (fun e=>by rw [e] at hzr; exact absurd hbr (Nat.not_le.mpr ((d7 hzr))))
   ·exact hf z hz (by exact aG hzr ((cZ hbr)))
  generalize stored es (σ.md cur).num (.bool true)=es2 at *
  generalize upd G' lm ⟨(9,3),.cR es2⟩=G5 at *
  have W5:=W.keep k2
  have hM:=(W5.mods cur hd).obj
  have hl:A.length+p.length+Bh.length≤1000000:=by exact aY (gO _ _) (aY (gO _ _) (sb he hz))
  cases hp with
  | base _ h1 h2 h3 =>
   rw [Mod.fs,h1,h2,h3] at hM
   refine bI X.bC hM rfl rfl ?_
   refine bI X.bC hM rfl rfl ?_
   refine bI X.bC hM rfl rfl ?_
   refine bI X.bC hM rfl rfl ?_
   refine fO (by exact ab3 hl) fun t3=>?_
   refine fO (by exact sb (gO _ _) (aG hl (ble rfl))) fun t4=>?_
   exact kL (hQ t4 _ k2) (by refine aY he ?_; rfl)
  | @step _ b n p t _ h1 h2 h3 hr hp =>
   rw [Mod.fs,h1,h2,h3] at hM
   have hl':=hl
   rw [gO,gO,CG] at hl'
   refine bI X.bC hM rfl rfl ?_
   refine bI X.bC hM rfl rfl ?_
   refine bI X.bC hM rfl rfl ?_
   refine iZ X oo aJ hsc ["behind","module"] (by kernel_rfl!) (by kernel_rfl!) ?_
   intro t3
   refine bI X.bC hM rfl rfl ?_
   refine fO (by exact sb CG (ab2 hl')) fun t4=>?_
   refine fO (by exact sb (gO _ _) (sb CG (aaU hl'))) fun t5=>?_
   refine bI X.bC hM rfl rfl ?_
   refine iE (9,1) (by exact bY _ _) fun x1 hx1=>?_
   refine gQ.mk (aI _ _ _) rfl rfl ?_
   refine hJ (ro b) _ _ _ hr (.mk b A _ p ta t5 es2 (k2.fresh hx1) (bG hm2 hx1) hp ?_ (fr b hr) (by exact o7 hes hsl hr))
   refine aY he ?_; simp only [Str.append_assoc]
  | @own _ b p _ h1 hr hp =>
   rw [Mod.fs,h1] at hM
   have hl':=hl
   rw [gO,gO,uD,wQ] at hl'
   refine bI X.bC hM rfl rfl ?_
   refine iZ X oo aJ hsc ["ahead","behind","module"] (by kernel_rfl!) (by kernel_rfl!) ?_
   intro t3
   refine fO (by exact sb uD (o9 hl)) fun t4=>?_
   intro t5
   refine fO (by exact sb wQ (o8 hl)) fun t6=>?_
   refine bI X.bC hM rfl rfl ?_
   refine iE (9,1) (by exact bY _ _) fun x1 hx1=>?_
   refine gQ.mk (aI _ _ _) rfl rfl ?_
   refine gD X.fZ ((W5.keep ((aD.refl [] _).fresh hx1)).mods b hp.dom).obj X.lY ?_
   refine hJ (ro b) _ _ _ hr (.mk b _ _ p t4 t6 es2 (k2.fresh hx1) (bG hm2 hx1) hp ?_ (fr b hr) (by exact o7 hes hsl hr))
   refine aY he ?_; simp only [Str.append_assoc]
end
section
variable {prog:Program} {w:World} {g h h':Heap} {av:List Addr} {own:Addr→Addr} {G:Gh}
theorem cH.DQ (S:cH prog w g h av own G) {a d:Addr} {x y:GO} (hG:G a=some x) (hx:x.k.dE=false) (hk:∀ b o,b≠a→h.get? b=some o→h'.get? b=some o) (hd:h.get? d=none) (hdv:d∉av)
  (hat:y.k.At prog w h' a d):cH prog w g h' av (fun b=>if b=a then d else own b) (upd G a y):=by
 obtain ⟨hn,hav⟩:=S.new a x hG
 have gd:G d=none:=by
  cases q:G d with
  | none=>rfl
  | some y=>obtain ⟨o,ho⟩:=(S.at_ d y q).there; rw [hd] at ho; exact bM ho
 have gdn:g.get? d=none:=by
  cases q:g.get? d with
  | none=>rfl
  | some o=>have:=S.keep d o q; rw [hd] at this; exact bM this
 have dne:d≠a:=fun e=>by rw [e,hG] at gd; exact dK gd
 have oa:∀ b y,G b=some y→y.k.dE=true→own b≠a:=fun b y e hi q=>by
  refine dC (S.newD b y e hi) fun zz zz h3=>?_; rw [q,hG] at h3; exact dK h3
 have od:∀ b y,G b=some y→y.k.dE=true→own b≠d:=fun b y e hi q=>by
  obtain ⟨o,ho⟩:=(S.at_ b y e).qH hi; rw [q,hd] at ho; exact bM ho
 refine ⟨fun b o e=>hk b o (fun q=>by rw [q,hn] at e; exact bM e) (S.keep b o e),fun b z e=>?_,fun b z e=>?_,fun b z e hi=>?_,fun b c z u e f hz hu q=>?_,fun b z e=>by
  by_cases hb:b=a
  ·subst hb; exact S.sys b _ hG
  ·rw [bF hb] at e; exact S.sys b z e⟩
 ·by_cases hb:b=a
  ·subst hb; rw [aI] at e; obtain rfl:=bO e; simpa using hat
  ·rw [bF hb] at e; simp only [hb,if_false]
   exact (S.at_ b z e).keeps (fun o=>hk b o hb) (fun hi o=>hk _ o (oa b z e hi))
 ·by_cases hb:b=a
  ·subst hb; exact ⟨hn,hav⟩
  ·rw [bF hb] at e; exact S.new b z e
 ·by_cases hb:b=a
  ·subst hb; simp only [if_true]; exact ⟨gdn,hdv,by exact sb (bF dne) gd⟩
  ·rw [bF hb] at e; simp only [hb,if_false]
   refine dC (S.newD b z e hi) fun h1 h2 h3=>?_
   exact ⟨h1,h2,by exact sb (bF (oa b z e hi)) h3⟩
 ·by_cases hb:b=a
  ·by_cases hc:c=a
   ·exact sb hb (sb hc rfl)
   ·exfalso
    rw [bF hc] at f
    simp only [hb,hc,if_true,if_false] at q
    exact od c u f hu q.symm
  ·by_cases hc:c=a
   ·exfalso
    rw [bF hb] at e
    simp only [hb,hc,if_true,if_false] at q
    exact od b z e hz q
   ·rw [bF hb] at e; rw [bF hc] at f
    simp only [hb,hc,if_false] at q
    exact S.inj b c z u e f hz hu q
end
section
variable {prog:Program} {w:World} {K:Frag} {p:Program} {loose:List Str} {mean:ExcName→Option Value} {mg mb:Str→Option Value}
variable {c:Cx} {s:Shared} {m m':aA} {G G':Gh} {A:Around} {E:Value→Shared→Prop}
theorem aE.DQ (S:aE prog w c s m G) {a d C:Addr} {tg:Tag} {h':Heap} {t:Nat} {fs':List (Str×Value)} (hG:G a=some ⟨tg,.cS C []⟩) (hd:s.heap.get? d=none)
  (hk:∀ b o,b≠a→s.heap.get? b=some o→h'.get? b=some o) (hat:(GK.cS C fs').At prog w h' a d):aE prog w c {s with heap:=h',toks:=t} m (upd G a ⟨tg,.cS C fs'⟩):=by
 obtain ⟨own,mf,S⟩:=S
 have ha:=S.ga.at_ a _ hG
 have hn:∀ b∈c.av,b≠a:=fun b hm e=>(S.ga.new a _ hG).2 (e▸hm)
 have nav:d∉c.av:=fun hm=>by obtain ⟨o,ho⟩:=S.fC d hm; rw [hd] at ho; exact bM ho
 have G1:=S.ga.DQ (y:=⟨tg,.cS C fs'⟩) hG rfl hk hd nav hat
 refine ⟨_,mf,⟨G1,?_,fun x ov hx=>(S.vars x ov hx).aside hk (ha.uH),S.nd,fun b hb=>?_,S.dB,S.gens,S.drawn,S.os,S.fE.of fun b hb o=>hk b o (hn b (S.eQ b hb)),S.eQ,S.lo⟩⟩
 ·refine lI S.ns fun o es ep ho r=>?_
  exact ⟨o,es,ep,hk _ _ (hn _ S.dB) ho,r⟩
 ·obtain ⟨o,ho⟩:=S.fC b hb
  exact ⟨o,hk b o (hn b hb) ho⟩
theorem aE.EN (S:aE prog w c s m G) {a C:Addr} {tg:Tag} (hG:G a=some ⟨tg,.cS C []⟩):∃ vs sl,s.heap.get? a=some {cls:=.ref C,dict:=none,data:=.fields vs,slots:=sl}∧1<vs.size∧vs[1]?=some .none:=by
 refine aV (S.at_ hG) fun d zq3 zz=>?_
 obtain ⟨vs,sl,h1,h2,h3⟩:=zq3
 exact ⟨vs,sl,h1,h2,h3⟩
theorem aE.agF (S:aE prog w c s m G) {a:Addr} {C:Addr} {fs:List (Str×Value)} {tg:Tag} (hG:G a=some ⟨tg,.cS C fs⟩) (hfs:fs.isEmpty=false) :
  ∃ d vs sl es n,s.heap.get? a=some {cls:=.ref C,dict:=some d,data:=.fields vs,slots:=sl}∧s.heap.get? d=some (dictOf es n)∧SK es fs∧(fs.map (·.1)).Nodup∧(∀ q∈fs,handedIn q.2=true)∧fs.length≤100 ∧
   ∀ (h':Heap) (t:Nat) (fs':List (Str×Value)),sS d s.heap h'→(∃ es' n',h'.get? d=some (dictOf es' n')∧SK es' fs')→(fs'.map (·.1)).Nodup→(∀ q∈fs',handedIn q.2=true)→fs'.length≤100→fs'.isEmpty=false →
    aE prog w c {s with heap:=h',toks:=t} m (upd G a ⟨tg,.cS C fs'⟩):=by
 obtain ⟨own,mf,S⟩:=S
 have ha:=S.ga.at_ a _ hG
 have hi:(GK.cS C fs).dE=true:=wI hfs
 refine EI (id ha) fun zq2 h2 h4 h5 h6=>?_
 obtain ⟨vs,sl,h1,h1a,h1b⟩:=zq2
 refine cN (h2 hfs) fun es n h2 h3=>?_
 rw [hfs,if_neg (by decide)] at h1
 refine ⟨own a,vs,sl,es,n,h1,h2,h3,h4,h5,h6,fun h' t fs' hs hes hnd hh hl he=>?_⟩
 have hk:∀ b o,b≠own a→s.heap.get? b=some o→h'.get? b=some o:=fun b o hb e=>(hs.2 b hb).trans e
 have hn:∀ b∈c.av,b≠own a:=fun b hm e=>(S.ga.newD a _ hG hi).2.1 (e▸hm)
 have hne:a≠own a:=fun e=>by have:=(S.ga.newD a _ hG hi).2.2; rw [←e,hG] at this; exact dK this
 refine ⟨own,mf,⟨S.ga.sJ (y:=⟨tg,.cS C fs'⟩) hG hi (by simp [GK.dE,he]) hk ⟨⟨vs,sl,by rw [he,if_neg (by decide)]; exact hk a _ hne h1,h1a,h1b⟩,fun zz=>hes,hnd,hh,hl⟩,S.ns.sameBut hs (hn _ S.dB),fun x ov hx=>(S.vars x ov hx).aside hk (ha.CW hi),S.nd,fun b hb=>?_,S.dB,S.gens,S.drawn,S.os,S.fE.of fun b hb o=>hk b o (hn b (S.eQ b hb)),S.eQ,S.lo⟩⟩
 obtain ⟨o,ho⟩:=S.fC b hb
 exact ⟨o,hk b o (hn b hb) ho⟩
theorem eF.ajY {own:Addr→Addr} {mf:Str→Option Value} (S:eF prog w c s m G own mf) {a C:Addr} {tg:Tag} {fs:List (Str×Value)} (hG:G a=some ⟨tg,.cS C fs⟩) :
  eF prog w c s m (upd G a ⟨tg,.exc C fs⟩) own mf∧oE (upd G a ⟨tg,.exc C fs⟩) a∧oF c.g c.av own (upd G a ⟨tg,.exc C fs⟩) a s.heap:=by
 have ha:=S.ga.at_ a _ hG
 refine dC (id ha) fun zq1 h2 h4=>?_
 obtain ⟨vs,sl,h1,h1a,h1b⟩:=zq1
 have hat:(GK.exc C fs).At prog w s.heap a (own a):=⟨⟨vs,sl,h1,h1a⟩,h2,h4⟩
 refine ⟨⟨?_,S.ns,S.vars,S.nd,S.fC,S.dB,S.gens,S.drawn,S.os,S.fE,S.eQ,S.lo⟩,⟨tg,C,fs,aI _ _ _⟩,.inl ⟨_,vs,h1,rfl,h1b⟩⟩
 by_cases hi:fs.isEmpty=true
 ·exact S.ga.turn hG (by simp [GK.dE,hi]) (by simp [GK.dE,hi]) (fun b o zz e=>e) hat
 ·exact S.ga.sJ hG (by simpa [GK.dE] using hi) (by simpa [GK.dE] using hi) (fun b o zz e=>e) hat
end
section
variable {prog:Program} {w:World} {A:Around} {R:Result→Shared→Prop} {h:Heap} {g:Array GenState} {d:Drawn} {t:Nat} {os:OsState}
variable {K:Frag}
noncomputable abbrev lV (t:Addr):Obj:={cls:=.ref 59,data:=.fields #[.ref t,.none,.none,.none,.bool false,.none]}
theorem UA:pU.contains (.type "ValueError")=true:=by kernel_rfl!
theorem RC {rest:List Value} (hC:h.get? 59=some rE)
  (hrest:rest.length≤sizeLine) (hq:R (.ok (.ret (.ref (h.objs.size+1)))) ⟨(h.push {cls:=.type "tuple",data:=.seq rest.toArray}).push (lV h.objs.size),g,d,t,os⟩) :
  codeAny (model prog w) A (.call (.builtin "ValueError.__new__") ⟨.ref 59::rest,[]⟩) R ⟨h,g,d,t,os⟩:=by
 have Fn:=FG
 have hends:=Fn.ends
 refine codeAny_call_builtin_code (Code.quiet_builtin _ Fn.quiet) (PySem.wpAny_check_new_subU Fn UA .base hC ?_)
 refine PySem.codeAny_builtinAt Fn.entry ?_
 unfold Builtin.«BaseException.__new__»
 refine PySem.wpAt_bind ?_
 show PySem.wpAt _ _ _ (stack>>=_) _ _ _
 refine PySem.wpAt_bind (PySem.wpAt_stack fun p below=>PF ?_)
 wp_walk
 refine PF ?_
 refine sb Fn.owner ?_
 repeat (first | with_reducible refine wpAny_madeHere_exc Fn.canon hC ?_ | with_reducible refine wpAny_loadPart_at hC ?_ | (with_reducible refine wpAny_isSubtype_exc hC ?_; first | refine sb HS ?_ | refine sb ak3 ?_ | refine sb ak4 ?_) | wp_step)
 show R _ _
 refine sb (ER _ _) ?_
 exact hq
theorem UB {rest:List Value} {init:Value} (X:K.In h) (hC:h.get? 59=some rE)
  (hcall:specialIn K (.ref 59) "__call__"=some (some (.builtin "type.__call__"))) (htyp:instIn K (.ref 59) (.type "type")=some true) (hself:mroIn K 59 (.ref 59)=some true)
  (hi:findIn K (.ref 59) "__init__"=some (some init)) (hb:∀ self,Looks (model prog w) h (bindSpecial init self) (init,[self])) (hrest:rest.length≤sizeLine)
  (hq:codeAny (model prog w) (A.under (.builtin "type.__call__" ⟨.ref 59::rest,[]⟩)) (.call init ⟨.ref (h.objs.size+1)::rest,[]⟩) (InitBack (h.objs.size+1) R) ⟨(h.push {cls:=.type "tuple",data:=.seq rest.toArray}).push (lV h.objs.size),g,d,t,os⟩) :
  codeAny (model prog w) A (.call (.ref 59) ⟨rest,[]⟩) R ⟨h,g,d,t,os⟩:=by
 have call:Looks (model prog w) h (specialOf (.ref 59) "__call__") (some (.builtin "type.__call__")):=looks_specialIn X hcall
 have typ:Looks (model prog w) h (isInstance (.ref 59) (.type "type")) true:=looks_instIn X htyp
 have self:Looks (model prog w) h (isSubtype (.ref 59) (.ref 59)) true:=looks_mroIn X hself
 have hil:Looks (model prog w) h (typeLookup (.ref 59) "__init__") (some init):=looks_findIn X hi
 have made:Looks (model prog w) h (Bind.madeBy (.ref 59)) (some "ValueError.__new__"):=by
  intro A Q E s k q
  obtain ⟨hp,g,d,tk,os⟩:=s
  exact wpAny_madeBy_exc (k _ _ hC) q
 refine codeAny_of_tree ?_
 show wpAny _ _ (callAny (.ref 59) _) _ _ _
 refine nd_load hC ?_
 show wpAny _ _ (PG (.ref 59) _) _ _ _
 unfold PG
 refine wpAny_bind (call.at ?_)
 dsimp only
 refine sb (tc_bind _) ?_
 refine wpAny_bind (wpAny_pure (wpAny_bind (wpAny_pure ?_)))
 refine wpAny_pure (a:=Fin.again (.call (.builtin "type.__call__") ⟨.ref 59::rest,[]⟩)) (And.intro rfl ?_)
 refine codeAny_call_builtin_at (Code.quiet_builtin _ (by decide +kernel)) entry_typeCall (check_slot tc_kind tc_split typ (tc_args _ _ _) ?_)
 unfold Builtin.«type.__call__»
 have hm:Looks (model prog w) h (mroOf (.ref 59)) (.ref 59::pU):=((Looks.ld (part:=none) hC).andThen .now).andThen .now
 have ne:(Value.ref 59::pU).isEmpty=false:=rfl
 repeat (first | simp only [ne,EP,if_false] | with_reducible refine wpAny_call ?_ | lk)
 refine RC hC hrest ?_
 have k:∀ b o,h.get? b=some o→((h.push {cls:=.type "tuple",data:=.seq rest.toArray}).push (lV h.objs.size)).get? b=some o:=fun b o e=>d8 _ (d8 _ e)
 have hx:((h.push {cls:=.type "tuple",data:=.seq rest.toArray}).push (lV h.objs.size)).get? (h.objs.size+1)=some (lV h.objs.size):=by heap_get
 have t1:Looks (model prog w) ((h.push {cls:=.type "tuple",data:=.seq rest.toArray}).push (lV h.objs.size)) (typeOf (.ref (h.objs.size+1))) (.ref 59):=(Looks.ld hx).andThen .now
 have s1:=self.keeps k
 have i1:=hil.keeps k
 have b1:=(hb (.ref (h.objs.size+1))).keeps k
 unfold isInstance callSpecial? specialOf
 repeat (first | with_reducible refine wpAny_call ?_ | lk)
 refine codeAny_mono hq fun r s' z=>?_
 rcases r with e | (v | _ | _ | _)<;>first | exact z | exact z.elim | skip
 obtain ⟨rfl,z⟩:=z
 exact wpAny_pure (wpAny_pure z)
end
section
variable {prog:Program} {w:World} {K:Frag} {p:Program} {loose:List Str} {mean:ExcName→Option Value} {mg mb:Str→Option Value}
variable {c:Cx} {s:Shared} {m m':aA} {G G':Gh} {A:Around} {E:Value→Shared→Prop}
theorem adX {vs:List Value} {dn un:Nat} {Q:Addr→Gh→Prop} {P PE:Value→Shared→Prop} (tg:Tag) (ok:bL p loose mean mg mb K c) (S:aE prog w c s m G) (N:ExcAt K) (hvs:vs.length≤1000)
  (Cc:∀ x,G x=none→FJ prog w K p loose mean mg mb (.ref 56) (.ref x::vs) (upd G x ⟨tg,.cS 59 []⟩) dn un (fun r G'=>r=.none∧Q x G'))
  (hd:c.A.depth+(dn+1)<recursionLimit) (hu:c.A.units+(un+1)<cLine) (h:∀ x s' G',G x=none→aE prog w c s' m G'→Q x G'→P (.ref x) s'):wpAny (model prog w) c.A (call (.ref 59) vs) P PE s:=by
 obtain ⟨hh,g,d,t,os⟩:=s
 have X:=S.dN ok
 refine wpAny_call (UB X (X _ _ N.ex) N.call N.typ N.self N.init (fun self=>bind_fn X self N.hf) (by exact sb sizeLine_eq (aG hvs (ble rfl))) ?_)
 have hat:∀ d,(GK.cS 59 []).At prog w ((hh.push {cls:=.type "tuple",data:=.seq vs.toArray}).push (lV hh.objs.size)) (hh.objs.size+1) d:=fun d=>by
  have hx:((hh.push {cls:=.type "tuple",data:=.seq vs.toArray}).push (lV hh.objs.size)).get? (hh.objs.size+1)=some (lV hh.objs.size):=by heap_get
  exact ⟨⟨_,_,hx,by exact bY _ _,rfl⟩,(fun h=>by cases h),by simp,by simp,by simp⟩
 obtain ⟨S',hx⟩:=S.add (h':=(hh.push {cls:=.type "tuple",data:=.seq vs.toArray}).push (lV hh.objs.size)) (t:=t) (a:=hh.objs.size+1) ⟨tg,.cS 59 []⟩ (fun b o e=>d8 _ (d8 _ e)) (sV (j6 _)) rfl hat (j6 _)
 obtain ⟨own,mf,S''⟩:=S'
 refine v7 (S''.down ok) fun g' h1 h4 h5 h6 h7=>?_
 have a1:=depth_under_make c.A 59 vs
 have a2:=units_under_make c.A 59 vs
 have B:=S''.below ok
 refine codeAny_mono (Cc _ hx _ c.base g' c.bK own _ (fun v s'=>v=.none∧P (.ref (hh.objs.size+1)) s') fL ⟨B.stack,B.stays,B.frames⟩ h1 ok.X ok.T ok.hh (by exact sb a1 (bQ hd (by simp +arith only))) (by exact sb a2 (o1 hu)) h4 h5 h6 (fun r s' own' G' D sl e1 e2 e3 q=>?_) fun zz zz zz zz zz zz zz zz zz zz zz q=>q.elim) fun r s' z=>?_
 ·obtain ⟨rfl,q⟩:=q
  exact ⟨rfl,h _ s' G' hx ⟨own',mf,(h7 s' own' G' D sl e1 e2 e3).1⟩ q⟩
 ·induction r using Except.casesOn with
  | error e=>exact z.elim
  | ok f=>induction f using Flow.casesOn<;>first | exact z | exact z.elim
end
section
variable {B:Bn} {c:Cx} {R:Addr→aA→Gh→Prop} {m:aA} {G:Gh}
theorem ah7 {vs:List Value} {dn un d u:Nat} {Q:Value→aA→Gh→Prop} (tg:Tag) (N:ExcAt B.K) (hb:bD c d u) (hvs:f9 vs.length 1000=true)
  (C':∀ x,G x=none→Call B (.ref 56) (.ref x::vs) (upd G x ⟨tg,.cS 59 []⟩) dn un (fun r G'=>r=.none∧Q (.ref x) m G'))
  (hd:f9 (dn+1) d=true:=by with_unfolding_all rfl) (hu:f9 (un+1) u=true:=by with_unfolding_all rfl):V B c R (call (.ref 59) vs) m G Q:=⟨fun ok s S=>by
 have h1:=fT hd
 have h2:=fT hu
 obtain ⟨b1,b2⟩:=hb
 exact adX (Q:=fun x G'=>Q (.ref x) m G') tg ok S N (fT hvs) C' (by omega) (by omega) fun x s' G' hx S' q=>⟨_,_,S',q⟩⟩
end
theorem afI (self:Value):refuseLoop self "__setattr__" [.type "ValueError",.type "Exception",.type "BaseException",.type "object"]=pure ():=by kernel_rfl
theorem LY (self:Value):∀ {l:List Value},rF l=true→refuseLoop self "__setattr__" l=pure ()
 | [],h=>by cases h
 | v::r,h=>by
  induction v using Value.casesOn with
  | ref c=>rw [refuseLoop_ref]; exact LY self h
  | _=>exact sb (beq_iff_eq.mp h) (afI self)
theorem HT:∀ {l:List Value},rF l=true→l.contains (.type "object")=true
 | [],h=>by cases h
 | v::r,h=>by
  induction v using Value.casesOn with
  | ref c=>exact sb List.contains_cons (sb (HT (l:=r) h) (sb (Bool.or_true _) rfl))
  | _=>refine sb (beq_iff_eq.mp h) ?_; decide
section
open PySem.Builtin PySem.Builtin.ObjectAttr PySem.Builtin.Getset_descriptor
variable {prog:Program} {w:World} {K:Frag} {p:Program} {loose:List Str} {mean:ExcName→Option Value} {mg mb:Str→Option Value}
variable {c:Cx} {s:Shared} {m m':aA} {G G':Gh} {A:Around} {E:Value→Shared→Prop} {R:Result→Shared→Prop} {x C:Addr}
theorem KY {ox:Obj} {od:Option Obj} {name:Str} {tk:Tok} {v:Value} (X:K.In s.heap) (I:InstAt s.heap x ox C od) (hp:((clsIn K C).any fun cd=>rF cd.mro)=true) (ha:findIn K (.ref C) name=some none)
  (h:∀ b,wpAny (model prog w) A.in1 (storeInOwnDict (.ref x) (.ref C) (.str name tk) name v b)
   (fun fin s'=>match fin with | .done f=>R (.ok f) s' | .again c'=>c'.quiet=true∧codeAny (model prog w) A c' R s') (fun e s'=>R (.error e) s') s) :
  codeAny (model prog w) A (.call (.builtin "object.__setattr__") ⟨[.ref x,.str name tk,v],[]⟩) R s:=by
 have SF:=PySem.F.store_object
 refine aV (any_some hp) fun cd hc ho=>?_
 have ne:cd.mro.isEmpty=false:=by cases q:cd.mro with | nil=>rw [q] at ho; cases ho | cons _ _=>rfl
 have sub:Looks (model prog w) s.heap (isInstance (.ref x) (.type "object")) true:=I.type.andThen (looks_mroIn X (by unfold mroIn; exact sb hc (sb (Option.bind_some _ _) (sb (if_neg (by refine sb ne ?_; decide)) (sb (HT ho) rfl)))))
 refine codeAny_call_builtin SF.slot.plain SF.entry (@check_slot (model prog w) _ _ s "object.__setattr__" "object" "__setattr__" (.ref x) [.str name tk,v] [] _ SF.kind SF.split sub (SF.args (.ref x) (.str name tk) v) ?_)
 have hm:Looks (model prog w) s.heap (mroOf (.ref C)) cd.mro:=(looks_clsIn X hc).andThen .now
 have L3:Looks (model prog w) s.heap (storeTaker? none) none:=.now
 (rewrite [osa_eq]; refine sb (refuse_eq _ _) ?_)
 refine wpAny_bind (wpAny_bind (I.type.here (wpAny_bind (hm.here ?_))))
 refine sb (LY _ ho) ?_
 refine wpAny_pure (wpAny_bind (I.type.here (wpAny_bind ((looks_findIn X ha).here (wpAny_bind (L3.here ?_))))))
 exact h _
set_option tactic.hygienic true in
theorem af5 {a:Addr} {t:Tag} {fs:List (Str×Value)} {n:Str} {v:Value} {flds:List Str} {Q:Unit→Shared→Prop} (ok:bL p loose mean mg mb K c) (S:aE prog w c s m G) (CA:oB K C flds)
  (hG:G a=some ⟨t,.cS C fs⟩) (hfs:fs.isEmpty=false) (hf:(fs.all fun q=>!(q.1==n))=true) (hl:fs.length<100) (hn:n∈flds) (hv:handedIn v=true) (h:∀ s',aE prog w c s' m (upd G a ⟨t,.cS C (fs++[(n,v)])⟩)→Q () s') :
  wpAny (model prog w) A (setAttr (.ref a) n v) Q E s:=by
 obtain ⟨d,vs,sl,es,k,ha,hd,h3,h4,h5,h6,h7⟩:=S.agF hG hfs
 have X:=S.dN ok
 have I:InstAt s.heap a {cls:=.ref C,dict:=some d,data:=.fields vs,slots:=sl} C (some (dictOf es k)):=⟨ha,rfl,rfl,hd⟩
 have hes:es.length≤1000:=by exact sb h3.length (aG (cZ hl) (ble rfl))
 have hlk:(getL n es).isSome=true:=by refine sb (h3.get _) ?_; rfl
 refine set_plain X I CA.kJ ?_
 refine KY (s:={s with toks:=s.toks+1}) X I CA.po (CA.fld n hn) fun b=>?_
 refine aV (any_some CA.hd) fun cd hc hdd=>?_
 refine wpAny_bind (wpAny_pure (wpAny_bind (wpAny_bind (wpAny_loadPart ha (wpAny_bind (looks_clsIn X hc _ _ _ _ (fun zz zz e=>e) ?_))))))
 refine sb hdd ?_
 refine wpAny_pure (a:=some d) (wpAny_bind (wpAny_pure (wpAny_bind ?_)))
 refine D6 (s:={s with toks:=s.toks+1}) hd (I6 hlk) hes fun h' hs D'=>?_
 refine h _ (h7 _ _ (fs++[(n,v)]) hs ⟨_,_,D',LC hf▸h3.put n _ _ v⟩ ?_ (fun q hq=>?_) (by simp; exact (qW hl)) (by simp))
 ·(refine sb dR ?_; rw [mU])
  refine ⟨h4,by simp,fun x hx y hy e5=>?_⟩
  simp at hy
  subst hy; subst e5
  exact D0 hf hx
 ·rcases bW.mp hq with hq | hq
  ·exact h5 q hq
  ·simp at hq; subst hq; exact hv
theorem af6 {a:Addr} {t:Tag} {n:Str} {v:Value} {flds:List Str} {Q:Unit→Shared→Prop} (ok:bL p loose mean mg mb K c) (S:aE prog w c s m G) (CA:oB K C flds)
  (hG:G a=some ⟨t,.cS C []⟩) (hn:n∈flds) (hv:handedIn v=true) (h:∀ s',aE prog w c s' m (upd G a ⟨t,.cS C [(n,v)]⟩)→Q () s') :
  wpAny (model prog w) A (setAttr (.ref a) n v) Q E s:=by
 refine kN (S.EN hG) fun vs sl ha h1 h2=>?_
 have X:=S.dN ok
 have I:InstAt s.heap a {cls:=.ref C,dict:=none,data:=.fields vs,slots:=sl} C none:=⟨ha,rfl,rfl,trivial⟩
 refine set_plain X I CA.kJ ?_
 refine KY (s:={s with toks:=s.toks+1}) X I CA.po (CA.fld n hn) fun b=>?_
 refine aV (any_some CA.hd) fun cd hc hdd=>?_
 refine wpAny_bind (wpAny_pure (wpAny_bind (wpAny_bind (wpAny_loadPart ha (wpAny_bind (looks_clsIn X hc _ _ _ _ (fun zz zz e=>e) ?_))))))
 refine sb hdd ?_
 have hne:s.heap.objs.size≠a:=fun e=>by have:=S.fresh; rw [e,ha] at this; exact dK this
 have ha2:(s.heap.push emptyDict).get? a=some {cls:=.ref C,dict:=none,data:=.fields vs,slots:=sl}:=d8 _ ha
 have hd2:(s.heap.push emptyDict).get? s.heap.objs.size=some (dictOf [] 0):=j4 _ rfl
 have hd3:((s.heap.push emptyDict).update a (fun o=>{o with dict:=some s.heap.objs.size})).get? s.heap.objs.size=some (dictOf [] 0):=by
  exact sb (sW _ _ (Ne.symm hne)) hd2
 have ha3:((s.heap.push emptyDict).update a (fun o=>{o with dict:=some s.heap.objs.size})).get? a=some {cls:=.ref C,dict:=some s.heap.objs.size,data:=.fields vs,slots:=sl}:=v8 _ ha2 rfl
 refine wpAny_bind (wpAny_alloc (wpAny_bind (wpAny_update ha2 ?_)))
 refine wpAny_pure (a:=some s.heap.objs.size) (wpAny_bind (wpAny_pure (wpAny_bind ?_)))
 refine D6 (s:=⟨(s.heap.push emptyDict).update a (fun o=>{o with dict:=some s.heap.objs.size}),s.gens,s.drawn,s.toks+1,s.os⟩) hd3 (by simp) (nY _) fun h' hs D'=>?_
 refine h _ (S.DQ (d:=s.heap.objs.size) hG S.fresh (fun b o hb ho=>?_) ⟨⟨vs,sl,(hs.2 a (Ne.symm hne)).trans ha3,h1,h2⟩,fun zz=>⟨_,_,D',SK.put (es:=[]) (fs:=[]) n _ _ v trivial⟩,by simp,by simpa using hv,by exact iR _⟩)
 have hbd:b≠s.heap.objs.size:=fun q=>by rw [q,S.fresh] at ho; exact bM ho
 refine sb (hs.2 b hbd) (sb (sW _ _ (Ne.symm hb)) ?_)
 exact d8 _ ho
end
theorem UJ (K:Frag):findCls K (.type "ValueError") (.type "type") "__init__"=some (.val (.builtin "ValueError.__init__")):=by kernel_rfl!
theorem afZ:F6 "ValueError"=false:=by decide +kernel
theorem WX:handedIn (.builtin "ValueError.__init__")=true:=by kernel_rfl!
theorem agH:typeOf (.type "ValueError")=pure (.type "type"):=by kernel_rfl
section
variable {prog:Program} {w:World} {K:Frag} {p:Program} {loose:List Str} {mean:ExcName→Option Value} {mg mb:Str→Option Value}
variable {c:Cx} {s:Shared} {m m':aA} {G G':Gh} {A:Around} {E:Value→Shared→Prop}
theorem afA {T:String} {n:Str} {v:Value} {pl:Sem Bool} {Q:Value×List Value→Shared→Prop} (ht:typeOf (.type T)=pure (.type "type")) (hs:F6 T=false) (e:findCls K (.type T) (.type "type") n=some (.val v)) (hh:handedIn v=true) (ok:bL p loose mean mg mb K c) (S:aE prog w c s m G) (h:∀ s',aE prog w c s' m G→Q (v,[]) s'):wpAny (model prog w) A (getMethod (.type T) n pl) Q E s:=by
 obtain ⟨mf,F⟩:=S.fr ok
 exact method_type F ok.X ht hs e hh (h _ (S.toks _))
section
variable {M:Model} {h:Heap} {g:Array GenState} {d:Drawn} {t:Nat} {os:OsState}
theorem QR {e:Addr} {oe:Obj} {rest:List Value} {Q:Unit→Shared→Prop}
  (hC:h.get? 59=some rE) (he:h.get? e=some oe) (hcls:oe.cls=.ref 59) (hq:Q () ⟨h,g,d,t,os⟩) :
  wpAny M A (checkBuiltinCall "ValueError.__init__" ⟨.ref e::rest,[]⟩) Q E ⟨h,g,d,t,os⟩:=by
 have F:=FG
 simp only [checkBuiltinCall,F.initKind,F.initSplit,F.initRow]
 repeat (first | (with_reducible refine wpAny_loadPart_at he ?_; refine sb hcls ?_) | with_reducible refine wpAny_loadPart_at hC ?_ | (with_reducible refine wpAny_isSubtype_exc hC ?_; refine sb HS ?_) | wp_step)
 refine wpAny_onRaise ?_
 rw [show ∀ (a b:String) (n:Nat),Bind.check ⟨.positional,"*","ValueError",.self,[⟨"args",.varPos,false⟩]⟩ a b n (yX (fun x=>x.fst) ({pos:=Value.ref e::rest}:Args).kw)=pure () from
  fun a b n=>check_star_args _ _ _ _ _ _]
 exact wpAny_pure hq
end
theorem aiQ (a v:Value):Builtin.«BaseException.__init__» ⟨[a,v],[]⟩=(do OR a 0 (←newTuple [v]); ret .none):=by kernel_rfl
theorem afD {a:Addr} {t:Tag} {v:Value} {Q:Value→Shared→Prop} (ok:bL p loose mean mg mb K c) (S:aE prog w c s m G) (N:ExcAt K) (hG:G a=some ⟨t,.cS 59 []⟩) (h:∀ s',aE prog w c s' m G→Q .none s') :
  wpAny (model prog w) A (call (.builtin "ValueError.__init__") [.ref a,v]) Q E s:=by
 have F:=FG
 refine kN (S.EN hG) fun vs sl ha h1 h2=>?_
 have X:=S.dN ok
 refine wpAny_call (codeAny_call_builtin F.init.plain F.initEntry (QR (X _ _ N.ex) ha rfl ?_))
 refine sb (aiQ _ _) ?_
 refine wpAny_bind (LQ S (9,1) (by exact iR _) fun a1 s1 hn S1=>?_)
 have S2:aE prog w c s1 m G:=S1.forget fun b x e=>by exact sb (bF (fun q=>by rw [q,hn] at e; exact bM e)) e
 refine kN (S2.EN hG) fun vs sl ha h1 h2=>?_
 have h0:∃ v0,vs[0]?=some v0:=⟨_,Array.getElem?_eq_getElem (by exact aG (ble rfl) h1)⟩
 obtain ⟨v0,h0⟩:=h0
 refine wpAny_bind ?_
 unfold OR
 refine wpAny_bind (wpAny_field ha rfl h0 (wpAny_bind (wpAny_setField ha rfl (by exact aG (ble rfl) h1) ?_)))
 have S3:aE prog w c {s1 with heap:=s1.heap.update a (pI (·.setIfInBounds 0 (.ref a1))),toks:=s1.toks} m (upd G a ⟨t,.cS 59 []⟩):=S2.turn hG rfl rfl (sU ..) fun d =>
  ⟨⟨_,sl,v8 _ ha rfl,by rw [Array.size_setIfInBounds]; exact h1,(Array.getElem?_setIfInBounds_ne (by decide)).trans h2⟩,(fun h=>by cases h),by simp,by simp,by simp⟩
 have e:upd G a ⟨t,.cS 59 []⟩=G:=funext fun b=>if q:b=a then by exact sb q (sb (aI _ _ _) (sb hG rfl)) else bF q
 rw [e] at S3
 induction v0 using Value.casesOn<;>first | exact wpAny_pure (wpAny_pure (h _ S3)) | exact wpAny_letGo (wpAny_pure (h _ S3))
end
section
variable {B:Bn} {c:Cx} {R:Addr→aA→Gh→Prop} {m:aA} {G:Gh}
theorem aiC {T:String} {n:Str} {v:Value} {pl:Sem Bool} {Q:Value×List Value→aA→Gh→Prop} (ht:typeOf (.type T)=pure (.type "type")) (hs:F6 T=false) (e:findCls B.K (.type T) (.type "type") n=some (.val v)) (hh:handedIn v=true) (h:Q (v,[]) m G):V B c R (getMethod (.type T) n pl) m G Q:=⟨fun ok s S=>afA ht hs e hh ok S fun s' S'=>⟨_,_,S',h⟩⟩
theorem aiH {pl:Sem Bool} {Q:Value×List Value→aA→Gh→Prop} (h:Q (.builtin "ValueError.__init__",[]) m G):V B c R (getMethod (.type "ValueError") "__init__" pl) m G Q:=aiC agH afZ (UJ B.K) WX h
theorem aiG {a:Addr} {t:Tag} {v:Value} {Q:Value→aA→Gh→Prop} (N:ExcAt B.K) (hG:G a=some ⟨t,.cS 59 []⟩) (h:Q .none m G):V B c R (call (.builtin "ValueError.__init__") [.ref a,v]) m G Q:=⟨fun ok s S=>afD ok S N hG fun s' S'=>⟨_,_,S',h⟩⟩
theorem ai4 {a C:Addr} {t:Tag} {n:Str} {v:Value} {flds:List Str} {Q:Unit→aA→Gh→Prop} (CA:oB B.K C flds) (hG:G a=some ⟨t,.cS C []⟩) (hn:flds.contains n=true) (hv:handedIn v=true) (h:Q () m (upd G a ⟨t,.cS C [(n,v)]⟩)):V B c R (setAttr (.ref a) n v) m G Q :=
 ⟨fun ok s S=>af6 ok S CA hG (by simpa using hn) hv fun s' S'=>⟨_,_,S',h⟩⟩
theorem ai3 {a C:Addr} {t:Tag} {fs:List (Str×Value)} {n:Str} {v:Value} {flds:List Str} {Q:Unit→aA→Gh→Prop} (CA:oB B.K C flds) (hG:G a=some ⟨t,.cS C fs⟩) (hfs:fs.isEmpty=false) (hf:(fs.all fun q=>!(q.1==n))=true) (hl:qV fs.length 100=true) (hn:flds.contains n=true) (hv:handedIn v=true)
  (h:Q () m (upd G a ⟨t,.cS C (fs++[(n,v)])⟩)):V B c R (setAttr (.ref a) n v) m G Q :=
 ⟨fun ok s S=>af5 ok S CA hG hfs hf (by have:=hl; simp [qV] at this; exact (d7 this)) (by simpa using hn) hv fun s' S'=>⟨_,_,S',h⟩⟩
end
theorem hg {p:Prop} (h:∀ P:Prop,(p→P)→P):p:=h p id
section
variable {prog:Program} {w:World} {K:Frag} {p:Program} {loose:List Str} {mean:ExcName→Option Value} {mg mb:Str→Option Value}
variable {c:Cx} {s:Shared} {m m':aA} {G G':Gh} {A:Around} {E:Value→Shared→Prop}
section
variable {M:Model} {env:Env}
theorem afF {x:Sem Value} {Q:Flow→Shared→Prop} (hh:A.handled=none)
  (h:wpAny M A x (fun v s₁=>∃ e vs sl dx,v=.ref e∧s₁.heap.get? 59=some rE∧s₁.heap.get? e=some {cls:=.ref 59,dict:=dx,data:=.fields vs,slots:=sl}∧vs[1]?=some .none∧E (.ref e) s₁) E s) :
  wpAny M A (raiseStmt env (some x) none) Q E s:=by
 unfold raiseStmt
 refine wpAny_bind (wpAny_mono h (fun v s₁ h₁=>?_) fun zz zz x=>x)
 refine hg fun Pz kz=>?_
 obtain ⟨e,vs,sl,dx,rfl,hC,he,hv1,hE⟩:=h₁
 obtain ⟨hp,g,d,tk,os⟩:=s₁
 refine kz ?_
 clear kz Pz
 repeat (first | with_reducible refine wpAny_loadPart_at he ?_ | with_reducible refine wpAny_loadPart_at hC ?_ | (with_reducible refine wpAny_isSubtype_exc hC ?_; refine sb U8 ?_) | (with_reducible refine wpAny_field he rfl hv1 ?_) | wp_step)
 exact wpAny_raiseNew_none hh hE
end
end
section
variable {B:Bn} {c:Cx} {R:Addr→aA→Gh→Prop} {m:aA} {G:Gh}
theorem ahZ {e:Expr} {pos:Pos} {Q:Flow→aA→Gh→Prop} (N:ExcAt B.K) (h:V B c R (eval e c.env) m G fun v m' G'=>∃ a t fs,v=.ref a∧G' a=some ⟨t,.cS 59 fs⟩∧R a m' (upd G' a ⟨t,.exc 59 fs⟩)) :
  V B c R (exec (.Raise (some e) none pos) c.env) m G Q:=⟨fun ok s S=>by
 rw [arm_exec_Raise]
 refine wpAny_bind (wpAny_standAt ?_)
 show wpAny _ _ (raiseStmt c.env (some (do let v←eval e c.env; standAt pos; pure v)) none) _ _ _
 refine afF ok.hh (wpAny_bind (h.go ok S fun v s1 m1 G1 S1 h1=>wpAny_bind (wpAny_standAt (wpAny_pure ?_))))
 refine hg fun Pz kz=>?_
 refine mL h1 fun a t fs zq1 hG hR=>?_
 subst zq1
 refine kz ?_
 clear kz Pz
 have X:=S1.dN ok
 refine hg fun Pz kz=>?_
 obtain ⟨own,mf,S2⟩:=S1
 refine dC (S2.ajY hG) fun S3 hx ht=>?_
 obtain ⟨⟨vs,sl,h1,h1a,h1b⟩,_⟩:=S2.ga.at_ a _ hG
 refine kz ?_
 clear kz Pz
 exact ⟨a,vs,sl,_,rfl,X _ _ N.ex,h1,h1b,a,m1,_,own,mf,rfl,S3,hx,ht,hR⟩⟩
end
section
variable {B:Bn}
theorem WU (X:Txt B.w B.K) {G:Gh} {x:Addr} {tg:Tag} {v:Value} (hG:G x=some ⟨tg,.cS 59 []⟩) (hv:handedIn v=true) {Q:Value→Gh→Prop} (hQ:∀ G',G'=upd G x ⟨tg,.cS 59 [("reason",v)]⟩→Q .none G'):Call B (.ref 36) [.ref x,v] G 1 8 Q:=by
 refine RU X fun c oo hsc aJ hb=>?_
 refine aiH ?_
 refine aiG X.tW hG ?_
 refine ai4 X.EO hG rfl hv ?_
 exact hQ _ rfl
theorem afG (X:Txt B.w B.K) {G:Gh} {x:Addr} {tg:Tag} {v:Value} (hG:G x=some ⟨tg,.cS 59 []⟩) (hv:handedIn v=true) {Q:Value→Gh→Prop} (hQ:∀ rs G',G' x=some ⟨tg,.cS 59 [("reason",rs),("thing",v)]⟩→fW x G G'→Q .none G'):Call B (.ref 56) [.ref x,v] G 2 12 Q:=by
 refine RY X fun c oo hsc aJ hb=>?_
 refine xY X.RB ?_
 intro t
 refine aQ hb (WU X hG rfl fun G1 hz1=>?_)
 obtain rfl:=hz1
 refine ai3 X.EO (aI _ _ _) rfl rfl rfl rfl hv ?_
 refine hQ _ _ (aI _ _ _) (((fW.refl x G).turn).turn)
end
section
open PySem.Builtin PySem.Builtin.ObjectAttr PySem.Builtin.Getset_descriptor
variable {prog:Program} {w:World} {K:Frag} {p:Program} {loose:List Str} {mean:ExcName→Option Value} {mg mb:Str→Option Value}
variable {c:Cx} {s:Shared} {m m':aA} {G G':Gh} {A:Around} {E:Value→Shared→Prop}
theorem PU:builtinKind "BaseException.__getattribute__"=some .slot:=by decide +kernel
theorem PV:splitId "BaseException.__getattribute__"=some ("BaseException","__getattribute__"):=by decide +kernel
theorem WV {x C:Addr} {ox:Obj} {od:Option Obj} {n:Str} {v:Value} {expr:Bool} {Q:Value→Shared→Prop} (X:K.In s.heap) (I:InstAt s.heap x ox C od) (hga:findIn K (.ref C) "__getattribute__"=some (some (.builtin "BaseException.__getattribute__")))
  (hno:findIn K (.ref C) "__getattr__"=some none) (hb:mroIn K C (.type "BaseException")=some true) (hf:findObj K C od n=some (.value v)) (hh:handedIn v=true) (h:Q v {s with toks:=s.toks+1}):wpAny (model prog w) A (getAttr (.ref x) n expr) Q E s:=by
 have FX:=PySem.F.excAttr_ValueError
 obtain ⟨hp,g,d,t,os⟩:=s
 have L0:Looks (model prog w) hp (typeOf (.ref x)) (.ref C):=I.type (M:=model prog w)
 have L1:=looks_findIn (M:=model prog w) X hga
 have L2:=looks_findIn (M:=model prog w) X hno
 have L3:Looks (model prog w) hp (isInstance (.ref x) (.type "BaseException")) true:=L0.andThen (looks_mroIn X hb)
 have L4:=looks_find (M:=model prog w) X I hf
 have hx0:(expr&&onTheHeap (Value.builtin "BaseException.__getattribute__"))=false:=by induction expr using Bool.casesOn<;>rfl
 have hx2:(Value.builtin "BaseException.__getattribute__"==Value.builtin "object.__getattribute__")=false:=by decide +kernel
 have hx1:(onTheHeap (Value.ref C)&&Value.builtin "BaseException.__getattribute__"==Value.builtin "object.__getattribute__")=false:=by refine sb hx2 ?_; rfl
 unfold getAttr getAttrBy
 refine wpAny_bind (wpAny_mkText (wpAny_holding (wpAny_bind (L0.at (wpAny_bind (L1.at ?_))))))
 dsimp only
 refine sb hx1 ?_
 simp only [EP,if_false]
 unfold getAttrByItsOwn hookBefore
 refine wpAny_bind ?_
 show wpAny _ _ (typeLookup (.ref C) "__getattr__") _ _ _
 refine L2.at (wpAny_bind (wpAny_attempt (wpAny_holding ?_)))
 unfold callGetattribute
 refine sb hx0 ?_
 simp only [EP,if_false]
 unfold boundAndCalled
 refine sb (FX.ga.bind _) ?_
 refine wpAny_bind (wpAny_pure (wpAny_call ?_))
 refine codeAny_call_builtin FX.ga.plain PySem.F.entry_bexc_ga (@check_slot (model prog w) _ _ ⟨hp,g,d,t+1,os⟩ "BaseException.__getattribute__" "BaseException" "__getattribute__" (.ref x) [.str n t] [] _ PU PV L3 (PySem.F.args_bexc_ga _ _) ?_)
 unfold Builtin.«object.__getattribute__»
 refine wpAny_bind (wpAny_pure (wpAny_bind (wpAny_pure (wpAny_bind (L0.at (wpAny_bind (L4.at ?_)))))))
 refine wpAny_pure ?_
 show wpAny _ _ (handedOut v) _ _ _
 exact sb (handedOut_of hh) (wpAny_pure h)
theorem aE.excAt (S:aE prog w c s m G) {a:Addr} {C:Addr} {fs:List (Str×Value)} {tg:Tag} (hG:G a=some ⟨tg,.exc C fs⟩) (hfs:fs.isEmpty=false) :
  ∃ d vs sl es n,s.heap.get? a=some {cls:=.ref C,dict:=some d,data:=.fields vs,slots:=sl}∧s.heap.get? d=some (dictOf es n)∧SK es fs∧(∀ q∈fs,handedIn q.2=true):=by
 obtain ⟨own,mf,S⟩:=S
 refine EI (S.ga.at_ a _ hG) fun zq1 h2 h4 h5 h6=>?_
 obtain ⟨vs,sl,h1,h1a⟩:=zq1
 refine cN (h2 hfs) fun es n h2 h3=>?_
 rw [hfs,if_neg (by decide)] at h1
 exact ⟨own a,vs,sl,es,n,h1,h2,h3,h5⟩
theorem adN {a C fI:Addr} {t:Tag} {fs:List (Str×Value)} {n:Str} {v:Value} {expr:Bool} {flds:List Str} {Q:Value→Shared→Prop} (ok:bL p loose mean mg mb K c) (S:aE prog w c s m G) (CA:oB K C flds) (hb:mroIn K C (.type "BaseException")=some true)
  (hG:G a=some ⟨t,.exc C fs⟩) (hf:fs.lookup n=some v) (hn:n∈flds) (h:∀ s',aE prog w c s' m G→Q v s'):wpAny (model prog w) A (getAttr (.ref a) n expr) Q E s:=by
 have hfs:fs.isEmpty=false:=by induction fs using List.casesOn with
  | nil=>cases hf
  | cons=>rfl
 refine EL (S.excAt hG hfs) fun d vs sl es k ha hd h3 h5=>?_
 have X:=S.dN ok
 have I:InstAt s.heap a {cls:=.ref C,dict:=some d,data:=.fields vs,slots:=sl} C (some (dictOf es k)):=⟨ha,rfl,rfl,hd⟩
 refine WV X I CA.hga CA.aaQ hb (findObj_own CA.hd (CA.fld n hn) rfl (by exact sb (lookIn_dict _ _ _) (sb (h3.get _) (sb hf rfl)))) (h5 _ (lookup_mem hf)) (h _ (S.toks _))
theorem aeQ {n:Str} {pos:Pos} {Q:Unit→Shared→Prop} (ok:bL p loose mean mg mb K c) (S:aE prog w c s m G) (hk:c.env.kindOf n=some .local) (h:∀ s',aE prog w c s' (m.filter fun q=>!(q.1==n)) G→Q () s') :
  wpAny (model prog w) A (do bindName c.env n .none; unbindBehindTheSuite c.env n pos) Q E s:=by
 obtain ⟨own,mf,S⟩:=S
 have nocellL:∀ u,¬s.heap.IsCell c.L u:=fun u ⟨o,ho,hd⟩=>by
  refine mL S.ns fun o' es ep ho' hd' zz=>?_; rw [ho'] at ho; obtain rfl:=bO ho; rw [hd'] at hd; cases hd
 refine wpAny_nameGoes_keeps hk (m:=mf) (ok.loc▸S.ns) (by show (c.env.scope.kind==.class||(c.env.scope.kind==.module&&_))=false; refine sb ok.kind ?_; rfl) (fun h' v hn hs=>?_)
 rw [ok.loc] at hn hs
 have hkeep:∀ b o,b≠c.L→s.heap.get? b=some o→h'.get? b=some o:=fun b o hb e=>(hs.2 b hb).trans e
 refine h _ ⟨own,_,⟨S.ga.aside hkeep (ok.rA _ S.dB) (S.ga.uJ S.dB),hn,fun y oy hy=>?_,S.nd.sublist (List.Sublist.map _ List.filter_sublist),fun b hb=>?_,S.dB,S.gens,S.drawn,S.os,S.fE.of fun b hb o=>hkeep b o (fun e=>ok.zN (e▸hb)),S.eQ,S.lo⟩⟩
 ·obtain ⟨hy,hne⟩:=eZ.mp hy
  have hne:y≠n:=by simpa using hne
  rcases (S.vars y oy hy).aside hkeep nocellL with ⟨h1,h2⟩ | h1
  ·exact .inl ⟨h1,fun u e=>by simp only [hne,if_false]; exact h2 u e⟩
  ·exact .inr h1
 ·by_cases e:b=c.L
  ·refine lI hn fun o zz zz ho zz=>?_; exact ⟨o,e▸ho⟩
  ·exact (S.fC b hb).imp fun o ho=>hkeep b o e ho
end
structure VA (B:Bn) (c:Cx) (A:Around) {α:Type} (x:Sem α) (m:aA) (G:Gh) (Q:α→aA→Gh→Prop):Prop where
 run:B.Ok c→∀ s,B.St c s m G→∀ E,wpAny (model B.prog B.w) A x (fun a s'=>∃ m' G',B.St c s' m' G'∧Q a m' G') E s
section
variable {B:Bn} {c:Cx} {A:Around} {R:Addr→aA→Gh→Prop} {m:aA} {G:Gh}
theorem VA.go {α:Type} {x:Sem α} {Q:α→aA→Gh→Prop} {P:α→Shared→Prop} {E:Value→Shared→Prop} {s:Shared} (h:VA B c A x m G Q) (ok:B.Ok c) (S:B.St c s m G) (k:∀ a s' m' G',B.St c s' m' G'→Q a m' G'→P a s') :
  wpAny (model B.prog B.w) A x P E s:=wpAny_mono (h.run ok s S E) (fun a s' ⟨m',G',S',q⟩=>k a s' m' G' S' q) fun zz zz e=>e
theorem NV {body:List Stmt} {x n:Str} {np hpos pos:Pos} {b₀:Stmt} {suite:List Stmt} {gl:List (Str×Value)} {RR:Addr→aA→Gh→Prop} {Q:Flow→aA→Gh→Prop} (oo:bB c) (N:ExcAt B.K) (hg:c.gl=gl) (hx:gl.lookup x=some (.ref 59)) (hk:c.env.kindOf n=some .local)
  (hb:V B c RR (execs body c.env) m G Q)
  (hh:∀ a m' G',RR a m' G'→∃ t fs,G' a=some ⟨t,.exc 59 fs⟩∧(m'.lookup n).isSome=true∧∀ A',VA B c A' (execs (b₀::suite) c.env) (kK m' n (.ref a)) G' (fun f m'' G''=>Q f (m''.filter fun q=>!(q.1==n)) G'')) :
  V B c R (exec (.Try body [.ExceptHandler (some (.Name x np)) (some n) (b₀::suite) hpos] [] [] pos) c.env) m G Q:=⟨fun ok s S=>by
 rw [arm_exec_Try]
 refine wpAny_bind (wpAny_standAt ?_)
 refine wpAny_tryStmt_except (wpAny_mono (hb.run ok s S) (fun f s1 ⟨m1,G1,S1,q⟩=>?_) fun e s1 hE=>?_)
 ·induction f using Flow.casesOn with
  | next=>exact wpAny_pure ⟨m1,G1,S1,q⟩
  | _=>exact ⟨m1,G1,S1,q⟩
 ·refine yJ hE fun a m1 G1 own mf zq3 S1 hxc ht hR=>?_
  subst zq3
  refine kN (hh a m1 G1 hR) fun t fs hG hn hv=>?_
  obtain ⟨outer,hst⟩:=oo.bK
  refine LR ok hst oo.frame S1 hxc ht fun h2 S2 ht2=>?_
  refine DB ok S2 hxc ht2 fun h3 S3 ht3=>?_
  have X3:B.K.In h3:=aE.dN ⟨own,mf,S3⟩ ok
  obtain ⟨⟨vs,sl,he,_⟩,_⟩:=S3.ga.at_ a _ hG
  refine wpAny_handleBy_cons (codeAny_handlers_test (LM (s:={s1 with heap:=h3}) ok ⟨own,mf,S3⟩ hg (lookup_mem hx) ?_)) (by intro q; cases q)
  refine wpAny_excMatches_sub_self (X3 _ _ N.ex) he rfl U9 (codeAny_handlers_suite_as ?_)
  refine DB ok S3 hxc ht3 fun h4 S4 ht4=>?_
  refine DC (s:={s1 with heap:=h4}) ok ⟨own,mf,S4⟩ hk (xP hn) fun s5 S5=>?_
  exact (hv _).go ok S5 fun f s6 m6 G6 S6 q=>aeQ ok S6 hk fun s7 S7=>⟨_,_,S7,q⟩⟩
end
section
variable {B:Bn} {c:Cx} {A:Around} {m:aA} {G:Gh}
theorem E0 {x:Str} {v:Value} {pos:Pos} {Q:Value→aA→Gh→Prop} (hx:m.lookup x=some (some v)) (h:Q v m G):VA B c A (eval (.Name x pos) c.env) m G Q:=⟨fun ok s S E=>LO ok S hx ⟨_,_,S,h⟩⟩
theorem DZ {value:Expr} {attr:Str} {pos:Pos} {Q:Value→aA→Gh→Prop} (hv:uL value=true) (h:VA B c A (eval value c.env) m G fun o m G=>VA B c A (getAttr o attr true) m G Q):VA B c A (eval (.Attribute value attr pos) c.env) m G Q :=
 ⟨fun ok s S E=>Attribute_any_ (h.go ok S fun o s' m' G' S' q=>q.run ok s' S' E) (GH hv)⟩
theorem NZ {a C:Addr} {t:Tag} {fs:List (Str×Value)} {n:Str} {v:Value} {expr:Bool} {flds:List Str} {Q:Value→aA→Gh→Prop} (CA:ClsAt B.K C flds) (hG:G a=some ⟨t,.inst C fs⟩) (hf:fs.lookup n=some v) (hn:flds.contains n=true) (h:Q v m G):VA B c A (getAttr (.ref a) n expr) m G Q :=
 ⟨fun ok s S E=>LH ok S CA hG hf hn fun s' S'=>⟨_,_,S',h⟩⟩
theorem aiN {a C:Addr} {t:Tag} {fs:List (Str×Value)} {n:Str} {v:Value} {expr:Bool} {flds:List Str} {Q:Value→aA→Gh→Prop} (CA:oB B.K C flds) (hb:mroIn B.K C (.type "BaseException")=some true) (hG:G a=some ⟨t,.exc C fs⟩) (hf:fs.lookup n=some v) (hn:flds.contains n=true) (h:Q v m G):VA B c A (getAttr (.ref a) n expr) m G Q :=
 ⟨fun ok s S E=>adN (fI:=0) ok S CA hb hG hf (by simpa using hn) fun s' S'=>⟨_,_,S',h⟩⟩
theorem aiM {l:Expr} {k:Str} {j:Nat} {p pos:Pos} {Q:Value→aA→Gh→Prop} (h:VA B c A (eval l c.env) m G fun v m G=>∃ s t,v=.str s t∧Q (.bool (s==k)) m G):VA B c A (eval (.Compare l [.Eq] [.Constant (.str k) j p] pos) c.env) m G Q :=
 ⟨fun ok s S E=>wpAny_Compare1 (h.go ok S fun a s1 m1 G1 S1 h1=>DA S1 fun t s2 S2=>by
  refine cN h1 fun s t zq2 q=>?_
  subst zq2
  exact P7 ⟨_,_,S2,q⟩) rfl⟩
theorem aiO {l:Expr} {j:Nat} {p pos:Pos} {Q:Value→aA→Gh→Prop} (h:VA B c A (eval l c.env) m G fun v m G=>Q (.bool (nA v)) m G):VA B c A (eval (.Compare l [.Is] [.Constant .none j p] pos) c.env) m G Q :=
 ⟨fun ok s S E=>wpAny_Compare1 (h.go ok S fun a s1 m1 G1 S1 h1=>LJ (LN ⟨_,_,S1,h1⟩)) rfl⟩
theorem aiL {x y:Expr} {pos:Pos} {Q:Value→aA→Gh→Prop} (h:VA B c A (eval x c.env) m G fun v m G=>∃ b,v=.bool b∧(b=true→VA B c A (eval y c.env) m G Q)∧(b=false→Q (.bool false) m G)):VA B c A (eval (.BoolOp .And [x,y] pos) c.env) m G Q :=
 ⟨fun ok s S E=>wpAny_And2 (h.go ok S fun v s1 m1 G1 S1 h1=>by
  obtain ⟨b,rfl,h1,h2⟩:=h1
  refine LW ?_
  induction b using Bool.casesOn
  ·exact ⟨_,_,S1,h2 rfl⟩
  ·exact (h1 rfl).run ok s1 S1 E)⟩
theorem aiP {e:Expr} {pos:Pos} {Q:Flow→aA→Gh→Prop} (h:VA B c A (eval e c.env) m G fun v=>Q (.ret v)):VA B c A (execs [.Return (some e) pos] c.env) m G Q :=
 ⟨fun ok s S E=>ON (wpAny_Return_some (h.go ok S fun v s1 m1 G1 S1 h1=>⟨_,_,S1,h1⟩))⟩
theorem NY (X:Txt B.w B.K) {x:Expr} {n k:Str} {j:Nat} {p1 p2 p3 p4 p5 p6 p7 p8:Pos} {a e y:Addr} {t t1 t2:Tag} {fs fe fm:List (Str×Value)} {b:Bool} {nm:Str} {u:Tok} {Q:Flow→aA→Gh→Prop}
  (hx:∀ Q':Value→aA→Gh→Prop,Q' (.bool b) m G→VA B c A (eval x c.env) m G Q') (hn:m.lookup n=some (some (.ref a))) (ha:G a=some ⟨t,.exc 59 fs⟩) (hf:fs.lookup ("thing":Str)=some (.ref e)) (he:G e=some ⟨t1,.inst 221 fe⟩) (hfe:fe.lookup ("owner":Str)=some (.ref y))
  (hy:G y=some ⟨t2,.inst 268 fm⟩) (hfm:fm.lookup ("name":Str)=some (.str nm u)) (h:Q (.ret (.bool (b&&(nm==k)))) m G) :
  VA B c A (execs [.Return (some (.BoolOp .And [x,.Compare (.Attribute (.Attribute (.Attribute (.Name n p1) "thing" p2) "owner" p3) "name" p4) [.Eq] [.Constant (.str k) j p5] p6] p7)) p8] c.env) m G Q:=by
 refine aiP (aiL (hx _ ⟨b,rfl,fun hb'=>?_,fun hb'=>?_⟩))
 ·subst hb'
  refine aiM (DZ rfl (DZ rfl (DZ rfl (E0 hn (aiN X.EO X.ajX ha hf rfl (NZ X.w0 he hfe rfl (NZ X.bC hy hfm rfl ?_)))))))
  exact ⟨_,_,rfl,h⟩
 ·subst hb'; exact h
end
section
variable {B:Bn} {c:Cx} {R:Addr→aA→Gh→Prop} {gl:List (Str×Value)} {m:aA} {G:Gh}
theorem NU {value e:Expr} {sp pos:Pos} {Q:Value→aA→Gh→Prop} (tg:Tag) (X:Txt B.w B.K) (hg:c.gl=gl)
  (h:wk B c R gl 60 (.E value fun o m G=>wk B c R gl 60 (.E e fun vu m G=>∃ l t xs,∃ (i:Nat),∃ u,o=.ref l∧G l=some ⟨t,.list xs⟩∧vu=.int i u∧∀ a,G a=none→Q (.ref a) m (upd G a ⟨tg,.list (xs.take i)⟩)) m G) m G)
  (ht:∀ o r,letTemporaryGo value o r=pure ():=by intro _ _; rfl):V B c R (eval (.Subscript value (.Slice none (some e) none sp) pos) c.env) m G Q:=⟨fun ok s S=>by
 refine LU (c:=c) tg ((fQ X hg h).go ok S fun o s1 m1 G1 S1 h1=>wpAny_pure ((fQ X hg h1).go ok S1 fun vu s2 m2 G2 S2 h2=>?_)) ht
 refine EL h2 fun l t xs i u zq3 hG zq4 hQ=>?_
 subst zq3
 subst zq4
 exact ⟨l,t,xs,xs.take i,none,some (i:Int),m2,G2,rfl,S2,hG,.none,.int _ _,LA,by simp [Nat.min_le_right],fun a s' hn S'=>⟨m2,_,S',hQ a hn⟩⟩⟩
theorem NT {value e:Expr} {sp pos:Pos} {Q:Value→aA→Gh→Prop} (tg:Tag) (X:Txt B.w B.K) (hg:c.gl=gl)
  (h:wk B c R gl 60 (.E value fun o m G=>wk B c R gl 60 (.E e fun vu m G=>∃ l t xs,∃ (i:Nat),∃ u,o=.ref l∧G l=some ⟨t,.list xs⟩∧vu=.int i u∧∀ a,G a=none→Q (.ref a) m (upd G a ⟨tg,.list (xs.drop i)⟩)) m G) m G)
  (ht:∀ o r,letTemporaryGo value o r=pure ():=by intro _ _; rfl):V B c R (eval (.Subscript value (.Slice (some e) none none sp) pos) c.env) m G Q:=⟨fun ok s S=>by
 refine LU (c:=c) tg ((fQ X hg h).go ok S fun o s1 m1 G1 S1 h1=>(fQ X hg h1).go ok S1 fun vu s2 m2 G2 S2 h2=>wpAny_pure ?_) ht
 refine EL h2 fun l t xs i u zq1 hG zq2 hQ=>?_
 subst zq1
 subst zq2
 exact ⟨l,t,xs,xs.drop i,some (i:Int),none,m2,G2,rfl,S2,hG,.int _ _,.none,pick_from,by simp,fun a s' hn S'=>⟨m2,_,S',hQ a hn⟩⟩⟩
end
theorem Ext.K0 (σ:Wd) (t:Tok):Ext σ (σ.cJ (σ.last+1) t) :=
 ⟨rfl,rfl,rfl,rfl,rfl,by show σ.last≤σ.last+1; exact by simp +arith only,fun zz h=>h,fun zz zz=>rfl,fun zz zz h=>h,fun zz zz h=>.inl h,fun n=>⟨⟨n.inj,fun a ha=>by have:=n.le a ha; show _≤σ.last+1; exact kP this (by exact by simp +arith only),n.nd⟩,bZ _⟩,fun zz h=>.inl h⟩
theorem rV (σ:Wd):missing σ≤13:=aG (nU _ _) (by decide)
noncomputable def mZ (G:Gh) (σ:Wd) (n:Str) (a:Addr) (G':Gh):Prop:=∃ σ' x y rs fs,G' a=some ⟨(20,0),.exc 59 [("reason",rs),("thing",.ref x)]⟩∧G' x=some ⟨(8,0),.inst 221 fs⟩∧fs.lookup ("owner":Str)=some (.ref y)∧Is σ' n y∧y∈σ'.dom∧WI G' σ'∧Ext σ σ'∧cQ σ'∧aD [5,6] G G'
theorem mZ.of {G G1 G':Gh} {σ:Wd} {n:Str} {a:Addr} (h:mZ G1 σ n a G') (k:aD [] G G1):mZ G σ n a G':=by
 refine ajL h fun σ' x y rs fs h1 h2 h3 h4 h5 h6 h7 h8 h9=>?_
 exact ⟨σ',x,y,rs,fs,h1,h2,h3,h4,h5,h6,h7,h8,k.mono.trans h9⟩
section
variable {B:Bn}
theorem agC (X:Txt B.w B.K) {G:Gh} {σ:Wd} (W:WI G σ) (M:cQ σ) {v:Value} (hv:handedIn v=true) {Q:Value→Gh→Prop} (hQ:∀ σ' x G',WI G' σ'→Ext σ σ'→cQ σ'→aD [5,6] G G'→Q (.ref x) G'):Call B (.ref 613) [.ref σ.a,v] G 34 125 Q:=by
 refine SW X fun c oo hsc aJ hb=>?_
 refine bS X.b8 X.qB W.obj W.meth ?_
 refine nP (X.keeps _ (by decide)) rfl ?_
 refine aQ hb (qC X W fun t G1 W1 k1=>?_)
 refine bS X.b8 X.g7 W1.obj W1.meth ?_
 intro t'
 refine aQ hb (pW X (rV _) .string W1 ⟨M.at_,M.len⟩ fun σ2 o G2 W2 E2 i2 M2 k2=>?_)
 refine pB (8,0) X.aaG hb fun y hy=>agB X (aI _ _ _) rfl hv fun d G3 hy1 k3=>⟨rfl,?_⟩
 have k3':=k3.keep hy
 exact hQ σ2 y _ (W2.keep k3') ((Ext.K0 σ t).trans E2) M2 ((k1.mono).trans (k2.trans k3'.mono))
theorem U7 (X:Txt B.w B.K) {G:Gh} {σ:Wd} (W:WI G σ) (M:cQ σ) {n msg:Str} {tn u:Tok} {p m:Option Str} {cl:Bool} (T:Tb n p m cl) {Q:Value→Gh→Prop} (hQ:∀ σ' x y fs G',G' x=some ⟨(8,0),.inst 221 fs⟩→fs.lookup ("owner":Str)=some (.ref y)→Is σ' n y→y∈σ'.dom→WI G' σ'→Ext σ σ'→cQ σ'→aD [5,6] G G'→Q (.ref x) G') :
  Call B (.ref 697) [.ref σ.a,.str n tn,.str msg u] G 38 135 Q:=by
 refine SE X fun c oo hsc aJ hb=>?_
 refine bS X.b8 X.qB W.obj W.meth ?_
 refine nP (X.keeps _ (by decide)) rfl ?_
 refine aQ hb (qC X W fun t G1 W1 k1=>?_)
 refine bS X.b8 X.g7 W1.obj W1.meth ?_
 refine aQ hb (pW X (rV _) T W1 ⟨M.at_,M.len⟩ fun σ2 o G2 W2 E2 i2 M2 k2=>?_)
 have a2:σ2.a=σ.a:=E2.a
 refine aY a2 ?_
 refine bS X.b8 X.ZV W2.obj W2.meth ?_
 refine aQ hb (agC X W2 M2 rfl fun σ3 xt G3 W3 E3 M3 k3=>?_)
 refine pB (8,0) X.aaF hb fun y hy=>U6 X (aI _ _ _) rfl rfl fun d G4 hy1 k4=>⟨rfl,?_⟩
 have k4':=k4.keep hy
 refine c7 (M2.at_ _ _ i2) fun z hz hzd zz=>?_
 cases hz
 exact hQ σ3 y o _ _ hy1 rfl (E3.made _ _ i2) (E3.dom _ hzd) (W3.keep k4') (((Ext.K0 σ t).trans E2).trans E3) M3 ((k1.mono).trans (k2.trans (k3.trans k4'.mono)))
theorem AE (X:Txt B.w B.K) {G:Gh} {σ:Wd} (W:WI G σ) (M:cQ σ) {n msg:Str} {tn u:Tok} {p m:Option Str} {cl:Bool} (T:Tb n p m cl) :
  bH B (.ref 704) [.ref σ.a,.str n tn,.str msg u] G 40 145 (fun zz zz=>False) (mZ G σ n):=by
 refine SG X fun c oo hsc aJ hb=>?_
 refine ahZ X.tW (fQ X aJ ?_)
 refine bS X.b8 X.ZS W.obj W.meth ?_
 refine aQ hb (U7 X W M T fun σ1 x y fs G1 hx ho i1 hy1 W1 E1 M1 k1=>?_)
 refine ah7 (20,0) X.tW hb rfl fun e he=>afG X (aI _ _ _) rfl fun rs G2 ge ke=>⟨rfl,?_⟩
 have k2:=ke.keep he
 have k3:aD [] G1 (upd G2 e ⟨(20,0),.exc 59 [("reason",rs),("thing",.ref x)]⟩):=k2.new he
 exact ⟨e,(20,0),_,rfl,ge,σ1,x,y,rs,fs,aI _ _ _,k3 _ _ hx rfl,ho,i1,hy1,W1.keep k3,E1,M1,k1.trans k3.mono⟩
end
noncomputable def Wd.oH (σ:Wd) (a b:Addr):Wd:=σ.put a {σ.md a with mixed:=(σ.md a).mixed++[b]}
noncomputable def Wd.oG (σ:Wd) (a b:Addr):Wd:=σ.put a {σ.md a with ahead:=(σ.md a).ahead++[b]}
theorem WI.oH {G:Gh} {σ:Wd} (W:WI G σ) {a b:Addr} (ha:a∈σ.dom):WI (upd G (σ.md a).aT ⟨(3,a),.list ((σ.md a).mixed.map Value.ref++[.ref b])⟩) (σ.oH a b):=by
 have hM:=W.mods a ha
 exact W.DR (n:=3) (m:={σ.md a with mixed:=(σ.md a).mixed++[b]}) hM.mix rfl rfl rfl rfl rfl ⟨b9 hM.obj hM.mix (b6 rfl),b9 hM.con hM.mix (b6 rfl),(by exact sb dR (aI _ _ _)),b9 hM.bX hM.mix (b6 rfl)⟩
theorem WI.oG {G:Gh} {σ:Wd} (W:WI G σ) {a b:Addr} (ha:a∈σ.dom):WI (upd G (σ.md a).b7 ⟨(4,a),.list ((σ.md a).ahead.map Value.ref++[.ref b])⟩) (σ.oG a b):=by
 have hM:=W.mods a ha
 exact W.DR (n:=4) (m:={σ.md a with ahead:=(σ.md a).ahead++[b]}) hM.bX rfl rfl rfl rfl rfl ⟨b9 hM.obj hM.bX (b6 rfl),b9 hM.con hM.bX (b6 rfl),b9 hM.mix hM.bX (b6 rfl),(by exact sb dR (aI _ _ _))⟩
section
variable {B:Bn}
theorem JU (X:Txt B.w B.K) {G:Gh} {σ:Wd} (W:WI G σ) (F:WF σ) (M:cQ σ) {a b:Addr} (ha:a∈σ.dom) (hb':b∈σ.dom) (hat:(σ.md a).attached=.none) (hcl:(σ.md b).cls=false) {w:Str} {t:Tok} (hw:w.length≤100) {Q:Value→Gh→Prop} (hQ:∀ r G',a∉cB σ b→aD [] G G'→Q r G') :
  bH B (.ref 469) [.ref σ.a,.ref a,.ref b,.str w t] G 42 155 Q (fun e G'=>a∈cB σ b∧mZ G σ "ArgumentError" e G'):=by
 refine TV X fun c oo hsc aJ hb=>?_
 have hB:=(W.mods b hb').obj
 rw [Mod.fs,hcl] at hB
 refine gD X.fZ hB X.lY ?_
 refine bI X.bC hB rfl rfl ?_
 refine aQ hb (aaE X W ha hat ?_)
 refine aQ hb (xF X W F hb' fun l G1 hl hl' k1=>?_)
 have W1:=W.keep k1
 refine aQ hb (I7 X W1 F.inj hl' (oY F hb') ha fun G2 k2=>?_)
 have W2:=W1.keep k2
 refine cV (fun h=>?_) (fun h=>?_)
 ·have hin:a∈cB σ b:=of_decide_eq_true h
  refine bS X.b8 X.CL W2.obj W2.meth ?_
  intro t1 t2
  refine fO (by
           have:(iK "cyclic ").length=7:=by decide
           exact aG (fS hw _) (aG (vM (b5 this) _) (ble rfl))) fun t3=>?_
  intro t4
  refine fO (by
           have:(iK "cyclic ").length=7:=by decide
           have:(iK " detected").length=9:=by decide
           refine sb (gO _ _) ?_; omega) fun t5=>?_
  exact uU hb (AE X W2 M .argument) (fun e G' hf=>⟨hin,hf.of (k1.trans k2)⟩) (fun r G' h=>h.elim)
 ·exact hQ _ _ (of_decide_eq_false h) (k1.trans k2)
theorem X5 (X:Txt B.w B.K) {G:Gh} {σ:Wd} (W:WI G σ) (F:WF σ) (M:cQ σ) {a b:Addr} (ha:a∈σ.dom) (hb':b∈σ.dom) (hat:(σ.md a).attached=.none) (hcl:(σ.md b).cls=false) (hz:(σ.md a).mixed.length<1000000) {Q:Value→Gh→Prop} (hQ:∀ r G',a∉cB σ b→((b∈cB σ a∧aD [] G G')∨(b∉cB σ a∧(∃ t,WI G' ((σ.oH a b).lG (σ.cD+1) t))∧aD [3,5] G G'))→Q r G') :
  bH B (.ref 476) [.ref σ.a,.ref a,.ref b] G 44 160 Q
   (fun e G'=>a∈cB σ b∧mZ G σ "ArgumentError" e G'):=by
 refine T4 X fun c oo hsc aJ hb=>?_
 intro t1
 refine uV hb (fun e G' h=>h) (JU X W F M ha hb' hat hcl (by decide) fun r G1 hno k1=>?_)
 have W1:=W.keep k1
 refine aQ hb (xF X W1 F ha fun l G2 hl hl' k2=>?_)
 have W2:=W1.keep k2
 refine aQ hb (I7 X W2 F.inj hl' (oY F ha) hb' fun G3 k3=>?_)
 have W3:=W2.keep k3
 have k03:=(k1.trans k2).trans k3
 refine cV (fun h=>?_) (fun h=>?_)
 ·have hn:b∉cB σ a:=by simpa using h
  refine bI X.bC (W3.mods a ha).obj rfl rfl ?_
  refine iP (W3.mods a ha).mix ?_
  refine iD (W3.mods a ha).mix (by simpa using hz) ?_
  have W4:=W3.oH ha (b:=b)
  refine aQ hb (DE (σ:=σ.oH a b) X W4 fun t G4 W5 k5=>?_)
  exact hQ _ _ hno (.inr ⟨hn,⟨t,W5⟩,((k03.mono).turn (W3.mods a ha).mix rfl).trans k5.mono⟩)
 ·have hn:b∈cB σ a:=by simpa using h
  exact hQ _ _ hno (.inl ⟨hn,k03⟩)
end
noncomputable def jK (σ:Wd) (a:Addr):List Addr:=(cB σ a).takeWhile fun x=>!decide (x=a)
theorem MU {a:Addr}:∀ {l:List Addr},l.take (l.idxOf a)=l.takeWhile fun x=>!decide (x=a)
 | []=>rfl
 | x::r=>by
  by_cases h:x=a
  ·subst h; refine sb yV (sb (tE (by simp)) ?_); rfl
  ·have e:(x::r).idxOf a=r.idxOf a+1:=by refine sb tD (sb (beq_eq_false_iff_ne.mpr h) ?_); rfl
   exact sb e (sb List.take_succ_cons (sb (qU (by simpa using h)) (sb MU ((by rfl)))))
theorem idx_map {f:Addr→Int} {a:Addr}:∀ {l:List Addr},(∀ x∈l,f x=f a→x=a)→(l.map f).idxOf (f a)=l.idxOf a
 | [],_=>rfl
 | x::r,h=>by
  by_cases e:x=a
  ·subst e; exact sb cK (sb yV (sb yV rfl))
  ·have e':f x≠f a:=fun q=>e (h x c8 q)
   have e1:(x::r).idxOf a=r.idxOf a+1:=by refine sb tD (sb (beq_eq_false_iff_ne.mpr e) ?_); rfl
   have e2:(f x::r.map f).idxOf (f a)=(r.map f).idxOf (f a)+1:=by refine sb tD (sb (beq_eq_false_iff_ne.mpr e') ?_); rfl
   exact sb cK (sb e1 (sb e2 (sb (idx_map fun y hy=>h y (cL _ hy)) ((by rfl)))))
noncomputable def KA (σ:Wd):Value→Value
 | .ref a=>.int (σ.md a).num (σ.md a).uK
 | _=>.none
theorem I9 (σ:Wd):∀ l:List Addr,aX ((l.map Value.ref).map (KA σ)) (l.map fun a=>(σ.md a).num)
 | []=>trivial
 | _::r=>⟨⟨_,rfl⟩,I9 σ r⟩
section
variable {B:Bn} {c:Cx} {R:Addr→aA→Gh→Prop} {gl:List (Str×Value)} {m:aA} {G:Gh}
theorem OF (X:Txt B.w B.K) (hg:c.gl=gl) {pos:Pos} {es:List Expr} {Q:List Value→aA→Gh→Prop} (h:wk B c R gl 60 (.L pos es Q) m G):V B c R (spliced (backTo pos (starEach es c.env))) m G Q:=(gI X hg _ _ _ _ h).2
end
section
variable {B:Bn}
theorem adG (X:Txt B.w B.K) {G:Gh} {σ:Wd} (W:WI G σ) (F:WF σ) (M:cQ σ) {a b:Addr} (ha:a∈σ.dom) (hb':b∈σ.dom) (hat:(σ.md a).attached=.none) (hcl:(σ.md b).cls=false) (hz:(σ.md a).ahead.length<1000000) (hself:a∈cB σ a) {Q:Value→Gh→Prop} (hQ:∀ r G',a∉cB σ b→((b∈jK σ a∧aD [] G G')∨(b∉jK σ a∧(∃ t,WI G' ((σ.oG a b).lG (σ.cD+1) t))∧aD [4,5] G G'))→Q r G') :
  bH B (.ref 481) [.ref σ.a,.ref a,.ref b] G 44 160 Q
   (fun e G'=>a∈cB σ b∧mZ G σ "ArgumentError" e G'):=by
 refine U1 X fun c oo hsc aJ hb=>?_
 intro t1
 refine uV hb (fun e G' h=>h) (JU X W F M ha hb' hat hcl (by decide) fun r G1 hno k1=>?_)
 have W1:=W.keep k1
 refine aQ hb (xF X W1 F ha fun l G2 hl hl' k2=>?_)
 have W2:=W1.keep k2
 refine bI X.bC (W2.mods b hb').obj rfl rfl ?_
 refine NU (9,7) X aJ ?_
 refine NJ (nQ X oo aJ hsc (9,5) rfl rfl ?_)
 refine fV.pure X (fun zz=>true) (KA σ) hl' (by refine sb (cT _) ?_; have:=xD F a; exact aG this (ble rfl)) ?_ ?_ ?_
 ·intro c' v G' hA hg hv k; exact ⟨rfl,rfl,.refl _ _⟩
 ·intro c' v G' hA hg hv _ k
  refine aV (cP.mp hv) fun x hx zq1=>?_
  subst zq1
  refine bI X.bC ((W2.keep k).mods x (oY F ha x hx)).obj rfl rfl ?_
  exact ⟨rfl,aD.refl _ _,rfl⟩
 intro D G3 hD k3 hD'
 rw [AG] at hD'
 have W3:=W2.keep k3
 refine NH hD' ?_
 refine NX rfl (OF X aJ ?_)
 refine bI X.bC (W3.mods a ha).obj rfl rfl ?_
 refine ND hD' (I9 σ _) (cP.mpr ⟨a,hself,rfl⟩) fun u=>?_
 have hidx:((cB σ a).map fun a=>(σ.md a).num).idxOf (σ.md a).num=(cB σ a).idxOf a:=idx_map (f:=fun a=>(σ.md a).num) fun x hx e=>F.inj x (oY F ha x hx) a ha e
 refine sb hidx ?_
 refine ⟨l,_,_,_,u,rfl,k3 _ _ hl' rfl,rfl,fun l2 hl2=>?_⟩
 refine aY List.map_take (sb MU (sb (show ((cB σ a).takeWhile fun x=>!decide (x=a))=jK σ a from rfl) ?_))
 have k4:aD [] G2 (upd G3 l2 ⟨(9,7),.list ((jK σ a).map Value.ref)⟩):=k3.fresh hl2
 have hsub:∀ x∈jK σ a,x∈cB σ a:=fun x hx=>(F5 _).mem hx
 have hl3:upd G3 l2 ⟨(9,7),.list ((jK σ a).map Value.ref)⟩ l2=some ⟨(9,7),.list ((jK σ a).map Value.ref)⟩:=aI _ _ _
 generalize upd G3 l2 ⟨(9,7),.list ((jK σ a).map Value.ref)⟩=G4 at *
 have W4:=W2.keep k4
 refine aQ hb (D3 X W4 F.inj hl3 (fun x hx=>oY F ha x (hsub x hx)) (by have h1:=xD F a; have h2:=(F5 (l:=cB σ a) fun x=>!decide (x=a)).length_le; exact aG h2 (aG h1 (by decide))) fun DD es G5 hDD hDD' hes k5=>?_)
 have W5:=W4.keep k5
 have k05:=((k1.trans k2).trans k4).trans k5
 refine uW hDD' ?_
 refine sb (hes b hb') ?_
 refine cV (fun h=>?_) (fun h=>?_)
 ·have hn:b∉jK σ a:=by simpa using h
  refine bI X.bC (W5.mods a ha).obj rfl rfl ?_
  refine iP (W5.mods a ha).bX ?_
  refine iD (W5.mods a ha).bX (by simpa using hz) ?_
  have W6:=W5.oG ha (b:=b)
  refine aQ hb (DE (σ:=σ.oG a b) X W6 fun t G6 W7 k7=>?_)
  exact hQ _ _ hno (.inr ⟨hn,⟨t,W7⟩,((k05.mono).turn (W5.mods a ha).bX rfl).trans k7.mono⟩)
 ·have hn:b∈jK σ a:=by simpa using h
  exact hQ _ _ hno (.inl ⟨hn,k05⟩)
end
noncomputable def gT (σ:Wd) (a:Addr):Value:=if (σ.md a).cls then (σ.md a).parent else .none
structure kC (σ σ':Wd):Prop where
 a:σ'.a=σ.a
 made:σ'.made=σ.made
 dom:∀ x∈σ.dom,x∈σ'.dom
 md:∀ x∈σ.dom,∃ v,σ'.md x={σ.md x with own:=v}
 num:dT σ'
noncomputable def zO (σ:Wd) (x:Addr):Prop:=∃ w,(σ.md x).own=.ref w∧w∈σ.dom∧(σ.md w).attached=.ref x
theorem kC.refl {σ:Wd} (h:dT σ):kC σ σ:=⟨rfl,rfl,fun zz h=>h,fun x zz=>⟨_,rfl⟩,h⟩
theorem kC.trans {σ σ' σ'':Wd} (h:kC σ σ') (k:kC σ' σ''):kC σ σ'' :=
 ⟨k.a.trans h.a,k.made.trans h.made,fun x hx=>k.dom x (h.dom x hx),fun x hx=>by
  obtain ⟨v,e⟩:=h.md x hx
  obtain ⟨u,e'⟩:=k.md x (h.dom x hx)
  exact ⟨u,by exact sb e' (sb e rfl)⟩,k.num⟩
theorem QJ {σ σ':Wd} (h:kC σ σ') {x:Addr} (hx:x∈σ.dom):gT σ' x=gT σ x:=by
 obtain ⟨v,e⟩:=h.md x hx
 unfold gT; exact sb e rfl
theorem adB {σ σ3:Wd} {a x:Addr} (N:dT σ) (hx:x∉σ.dom) (ea:σ3.a=σ.a) (em:σ3.made=σ.made) (el:σ3.last=σ.last+1) (ed:σ3.dom=σ.dom++[x]) (hmo:∀ y∈σ.dom,y≠a→σ3.md y=σ.md y) (hma:σ3.md a={σ.md a with own:=.ref x}) (hmn:(σ3.md x).num=σ.last+1):kC σ σ3:=by
 have md:∀ y∈σ.dom,∃ v,σ3.md y={σ.md y with own:=v}:=fun y hy=>by
  by_cases e:y=a
  ·exact sb e (⟨.ref x,hma⟩)
  ·exact ⟨(σ.md y).own,hmo y hy e⟩
 have nn:∀ y∈σ.dom,(σ3.md y).num=(σ.md y).num:=fun y hy=>by
  obtain ⟨v,e⟩:=md y hy
  exact sb e rfl
 refine ⟨ea,em,fun y hy=>by rw [ed]; exact dD _ hy,md,⟨fun y hy z hz e=>?_,fun y hy=>?_,?_⟩⟩
 ·rw [ed,bW,cG] at hy hz
  rcases hy with hy | hy<;>rcases hz with hz | hz
  ·rw [nn y hy,nn z hz] at e; exact N.inj y hy z hz e
  ·rw [nn y hy,hz,hmn] at e; have:=N.le y hy; omega
  ·rw [nn z hz,hy,hmn] at e; have:=N.le z hz; omega
  ·exact sb hy (sb hz rfl)
 ·refine sb el ?_
  rw [ed,bW,cG] at hy
  rcases hy with hy | hy
  ·exact sb (nn y hy) (vA (N.le y hy))
  ·exact sb hy (sb hmn (vC _))
 ·(refine sb ed ?_; rw [mU])
  refine ⟨N.nd,iH.mpr ⟨qT,vL⟩,fun y hy z hz e=>?_⟩
  rw [cG] at hz; exact hx (hz▸e▸hy)
section
variable {B:Bn}
theorem ZM (X:Txt B.w B.K) {G:Gh} {σ:Wd} (W:WI G σ) (N:dT σ) {a cc:Addr} (ha:a∈σ.dom) (hat:(σ.md a).attached=.none) (hab:(gT σ a=.none∧∃ o,(σ.md a).owner=.ref o)∨∃ y,gT σ a=.ref y∧y∈σ.dom∧zO σ y) (hcl:valueAt σ.made "Class"=some (.ref cc))
  (hnat:(σ.md a).native=.none∨∃ s t,(σ.md a).native=.str s t∧s.length≤100) {Q:Value→Gh→Prop} (hQ:∀ σ' r G',WI G' σ'→kC σ σ'→zO σ' a→(∀ x,x∉σ.dom→x∈σ'.dom→(σ'.md x).attached≠.none)→aD [1,5] G G'→Q r G') :
  Call B (.ref 455) [.ref σ.a,.ref a] G 6 40 Q:=by
 refine TU X fun c oo hsc aJ hb=>?_
 refine aQ hb (GP X W ha ?_)
 have rest:∀ p,ws B c bJ u9 58 ((bodyOf (topS 47)).drop 2) (bA Q) (EA (some (.ref σ.a)) (some (.ref a)) (some (gT σ a)) (some (.ref p))) G:=by
  intro p
  refine bS X.b8 X.CN W.obj W.meth ?_
  refine aQ hb (aaK X W (cl:=true) (at':=.ref a) (.inl ⟨rfl,⟨p,rfl⟩,hcl⟩) rfl fun x t aF bE aC aT b7 G1 hx k1 W1=>?_)
  have hax:a≠x:=fun e=>hx (e▸ha)
  have a1:a∈((σ.cJ (σ.last+1) t).add x (Mod.fresh (σ.last+1) t (.ref cc) aF .none true (.ref p) .none bE aC aT b7 (.ref a))).dom:=dD _ ha
  have m1:((σ.cJ (σ.last+1) t).add x (Mod.fresh (σ.last+1) t (.ref cc) aF .none true (.ref p) .none bE aC aT b7 (.ref a))).md a=σ.md a:=r7 (σ:=σ.cJ (σ.last+1) t) hax
  have W2:=W1.qI a1 (m:={σ.md a with own:=.ref x}) (by exact sb m1 (⟨rfl,rfl,rfl,rfl,rfl,rfl⟩))
  have hM1:=(W1.mods a a1).obj
  rw [m1] at hM1
  have k2:=(k1.mono (T':=[1,5])).turn (x:=⟨(1,0),.inst 268 (Mod.fs {σ.md a with own:=.ref x})⟩) hM1 rfl
  refine fF X.bC hM1 rfl rfl rfl ?_
  have hM2:upd G1 a ⟨(1,0),.inst 268 (Mod.fs {σ.md a with own:=.ref x})⟩ a=_:=aI _ _ _
  have x2:x∈(Wd.put ((σ.cJ (σ.last+1) t).add x (Mod.fresh (σ.last+1) t (.ref cc) aF .none true (.ref p) .none bE aC aT b7 (.ref a))) a {σ.md a with own:=.ref x}).dom:=by exact cW _ c8
  have mx2:(Wd.put ((σ.cJ (σ.last+1) t).add x (Mod.fresh (σ.last+1) t (.ref cc) aF .none true (.ref p) .none bE aC aT b7 (.ref a))) a {σ.md a with own:=.ref x}).md x=Mod.fresh (σ.last+1) t (.ref cc) aF .none true (.ref p) .none bE aC aT b7 (.ref a):=by
   exact sb (dY (Ne.symm hax)) (r8 (σ:=σ.cJ (σ.last+1) t))
  have ma2:(Wd.put ((σ.cJ (σ.last+1) t).add x (Mod.fresh (σ.last+1) t (.ref cc) aF .none true (.ref p) .none bE aC aT b7 (.ref a))) a {σ.md a with own:=.ref x}).md a={σ.md a with own:=.ref x}:=fD
  have mo2:∀ y∈σ.dom,y≠a→(Wd.put ((σ.cJ (σ.last+1) t).add x (Mod.fresh (σ.last+1) t (.ref cc) aF .none true (.ref p) .none bE aC aT b7 (.ref a))) a {σ.md a with own:=.ref x}).md y=σ.md y:=fun y hy hya=>by
   exact sb (dY hya) (r7 (σ:=σ.cJ (σ.last+1) t) (fun e:y=x=>hx (e▸hy)))
  have d2:(Wd.put ((σ.cJ (σ.last+1) t).add x (Mod.fresh (σ.last+1) t (.ref cc) aF .none true (.ref p) .none bE aC aT b7 (.ref a))) a {σ.md a with own:=.ref x}).dom=σ.dom++[x]:=rfl
  have e2:(Wd.put ((σ.cJ (σ.last+1) t).add x (Mod.fresh (σ.last+1) t (.ref cc) aF .none true (.ref p) .none bE aC aT b7 (.ref a))) a {σ.md a with own:=.ref x}).a=σ.a∧(Wd.put ((σ.cJ (σ.last+1) t).add x (Mod.fresh (σ.last+1) t (.ref cc) aF .none true (.ref p) .none bE aC aT b7 (.ref a))) a {σ.md a with own:=.ref x}).made=σ.made∧(Wd.put ((σ.cJ (σ.last+1) t).add x (Mod.fresh (σ.last+1) t (.ref cc) aF .none true (.ref p) .none bE aC aT b7 (.ref a))) a {σ.md a with own:=.ref x}).last=σ.last+1:=⟨rfl,rfl,rfl⟩
  generalize Wd.put ((σ.cJ (σ.last+1) t).add x (Mod.fresh (σ.last+1) t (.ref cc) aF .none true (.ref p) .none bE aC aT b7 (.ref a))) a {σ.md a with own:=.ref x}=σ2 at *
  refine dC e2 fun ea em el=>?_
  have fin:∀ σ3 G3,WI G3 σ3→σ3.a=σ.a→σ3.made=σ.made→σ3.last=σ.last+1→σ3.dom=σ.dom++[x]→(∀ y∈σ.dom,y≠a→σ3.md y=σ.md y)→σ3.md a={σ.md a with own:=.ref x}→(σ3.md x).num=σ.last+1→(σ3.md x).attached=.ref a→aD [1,5] G G3 →
    V B c bJ (call (.ref 427) [.ref σ.a]) (EA (some (.ref σ.a)) (some (.ref a)) (some (gT σ a)) (some (.ref p))) G3 (fun zz m G=>ws B c bJ u9 55 ((bodyOf (topS 47)).drop 5) (bA Q) m G):=by
   intro σ3 G3 W3 ea em el ed hmo hma hmn hmx k3
   refine aY ea ?_
   refine aQ hb (DE X W3 fun t4 G4 W4 k4=>?_)
   refine hQ (σ3.lG (σ3.cD+1) t4) _ _ W4 (adB N hx ea em el ed hmo hma hmn) ⟨x,by show (σ3.md a).own=_; exact sb hma rfl,by show x∈σ3.dom; refine sb ed ?_; exact cW _ c8,hmx⟩ (fun y hy hy'=>?_) (k3.trans k4.mono)
   have hy':y∈σ3.dom:=hy'
   rw [ed,bW,cG] at hy'
   show (σ3.md y).attached≠.none
   refine sb (hy'.resolve_left hy) (sb hmx ?_); exact fun h=>by cases h
  refine gD X.fZ hM2 X.lY ?_
  have q5:jQ (Mod.fs (σ.md a)) "own" (.ref x)=Mod.fs {σ.md a with own:=.ref x,native:=(σ.md a).native}:=rfl
  rcases hnat with hn | ⟨s,tn,hn,hs⟩
  ·have hM2':upd G1 a ⟨(1,0),.inst 268 (jQ (Mod.fs (σ.md a)) "own" (.ref x))⟩ a=some ⟨(1,0),.inst 268 (Mod.fs {σ.md a with own:=.ref x,native:=.none})⟩:=by exact sb (aI _ _ _) (sb q5 (sb hn rfl))
   refine bI X.bC hM2' rfl rfl ?_
   exact fin σ2 _ W2 ea em el d2 mo2 ma2 (by exact sb mx2 rfl) (by exact sb mx2 rfl) k2
  ·have hM2':upd G1 a ⟨(1,0),.inst 268 (jQ (Mod.fs (σ.md a)) "own" (.ref x))⟩ a=some ⟨(1,0),.inst 268 (Mod.fs {σ.md a with own:=.ref x,native:=.str s tn})⟩:=by exact sb (aI _ _ _) (sb q5 (sb hn rfl))
   have ha2:a∈σ2.dom:=by exact sb d2 (dD _ ha)
   refine bI X.bC hM2' rfl rfl ?_
   refine bS X.bC X.JL hM2 rfl ?_
   refine nP (X.keeps _ (by decide)) rfl ?_
   refine aQ hb (II X W2 ha2 ?_)
   have na:({σ.md a with own:=.ref x}:Mod).attached=.none:=hat
   refine sb ma2 (sb na ?_)
   refine bI X.bC hM2' rfl rfl ?_
   intro t5
   refine fO (by
            have:(iK ".").length=1:=by decide
            exact aG (d7 hs) (aG (fS (b5 this) _) (ble rfl))) fun t6=>?_
   refine bI X.bC hM2 rfl rfl ?_
   have xd2:x∈σ2.dom:=by exact sb d2 (cW _ c8)
   have hX2:=(W2.mods x xd2).obj
   rw [mx2] at hX2
   refine fF X.bC hX2 rfl rfl rfl ?_
   have W3:=W2.qI xd2 (m:={Mod.fresh (σ.last+1) t (.ref cc) aF .none true (.ref p) .none bE aC aT b7 (.ref a) with native:=.str (s++".") t6}) (by exact sb mx2 (⟨rfl,rfl,rfl,rfl,rfl,rfl⟩))
   exact fin _ _ W3 ea em el d2 (fun y hy hya=>by exact sb (dY (fun e:y=x=>hx (e▸hy))) (mo2 y hy hya)) (by exact sb (dY hax) ma2) (by exact sb fD rfl) (by exact sb fD rfl) (k2.turn hX2 rfl)
 rcases hab with ⟨h1,o,ho⟩ | ⟨y,h1,hy,w,hw,hwd,hwa⟩
 ·have h1':(if (σ.md a).cls=true then (σ.md a).parent else Value.none)=.none:=h1
  refine sb h1' ?_
  refine bS X.b8 X.ZQ W.obj W.meth ?_
  refine aQ hb (QU X W ha ?_)
  refine sb ho ?_
  have:=rest o
  rw [show gT σ a=.none from h1] at this
  exact this
 ·have h1':(if (σ.md a).cls=true then (σ.md a).parent else Value.none)=.ref y:=h1
  refine sb h1' ?_
  refine bI X.bC (W.mods y hy).obj rfl rfl ?_
  refine sb hw ?_
  have:=rest w
  rw [show gT σ a=.ref y from h1] at this
  exact this
end
inductive lQ (σ:Wd) (a:Addr):List Addr→Value→Prop
 | nil:lQ σ a [] (.ref a)
 | cons {x:Addr} {rs:List Addr} {c:Value}:lQ σ a rs (.ref x)→gT σ x=c→x∈σ.dom→lQ σ a (x::rs) c
theorem lQ.last {σ:Wd} {a:Addr} {c:Value} (h:lQ σ a [] c):c=.ref a:=by cases h; rfl
theorem lQ.sM {σ:Wd} {a x:Addr} {rs:List Addr} {c:Value} (h:lQ σ a (x::rs) c):lQ σ a rs (.ref x)∧gT σ x=c∧x∈σ.dom:=by cases h with | cons h1 h2 h3=>exact ⟨h1,h2,h3⟩
section
variable {B:Bn}
inductive GB (G:Gh) (σ:Wd) (rk:Addr→Nat) (a lw:Addr):Nat→aA→Gh→Prop
 | mk {n:Nat} {G':Gh} (wl:List Addr) (cv:Value) (kp:aD [] G G') (hw:G' lw=some ⟨(9,8),.list (wl.map Value.ref)⟩) (up:lQ σ a wl.reverse cv) (hc:cv=.none∨∃ b,cv=.ref b∧b∈σ.dom) (hn:Rk rk cv=n) (hl:wl.length+n≤1001) :
   GB G σ rk a lw n (E6 (some (.ref σ.a)) (some (.ref a)) (some (.ref lw)) (some cv)) G'
inductive GA (G:Gh) (σ:Wd) (a lw I:Addr) (wl:List Addr):Nat→aA→Gh→Prop
 | mk {k:Nat} {G':Gh} (σ':Wd) (cv cv':Value) (kp:aD [1,5] G G') (up:lQ σ a (wl.reverse.drop k) cv') (W:WI G' σ') (rel:kC σ σ') (hc:cv'=.none∨∃ b,cv'=.ref b∧b∈σ.dom∧zO σ' b) (i6:∀ x,x∉σ.dom→x∈σ'.dom→(σ'.md x).attached≠.none) (hI:∃ z,G' I=some ⟨(9,0),z⟩) :
   GA G σ a lw I wl k (E6 (some (.ref σ.a)) (some (.ref a)) (some (.ref lw)) (some cv)) G'
theorem ad9 (X:Txt B.w B.K) {G:Gh} {σ:Wd} (W:WI G σ) (N:dT σ) {rk:Addr→Nat} (hU:∀ x∈σ.dom,rk x≤1000∧(gT σ x=.none∨∃ b,gT σ x=.ref b∧b∈σ.dom∧rk b<rk x)) (hown:∀ x∈σ.dom,(σ.md x).own=.none) (hat:∀ x∈σ.dom,(σ.md x).attached=.none)
  (how:∀ x∈σ.dom,∃ o,(σ.md x).owner=.ref o) (hnat:∀ x∈σ.dom,(σ.md x).native=.none∨∃ s t,(σ.md x).native=.str s t∧s.length≤100) {cc:Addr} (hcl:valueAt σ.made "Class"=some (.ref cc)) {a:Addr} (ha:a∈σ.dom) {Q:Value→Gh→Prop} (hQ:∀ w σ' G',WI G' σ'→kC σ σ'→w∈σ'.dom→(σ'.md w).attached=.ref a→aD [1,5] G G'→Q (.ref w) G') :
  Call B (.ref 441) [.ref σ.a,.ref a] G 8 50 Q:=by
 refine U0 X fun c oo hsc aJ hb=>?_
 refine gD X.fZ (W.mods a ha).obj X.CB ?_
 refine gD X.fZ (W.mods a ha).obj X.J0 ?_
 refine iZ X oo aJ hsc ["waiting","one"] (by kernel_rfl!) (by kernel_rfl!) ?_
 refine eS (9,8) (by simp) fun lw hlw=>?_
 refine iE (9,1) (by exact bY _ _) fun t0 ht0=>?_
 refine gQ.mk (aI _ _ _) rfl rfl ?_
 have nlw:G lw=none:=hlw
 refine sN (GB G σ rk a lw) (rk a+1) ?_ ?_
 ·exact .mk [] (.ref a) (((aD.refl _ _).fresh hlw).fresh ht0) (bG (aI _ _ _) ht0) .nil (.inr ⟨a,rfl,ha⟩) rfl (by have:=(hU a ha).1; simp; exact this)
 ·rintro J' hJ n _ G' ⟨wl,cv,hk,hlw',hup,hc,hn,hwl⟩
  have W':=W.keep hk
  refine qL X aJ ?_
  rcases hc with rfl | ⟨b,rfl,hb'⟩
  ·
   refine NQ hlw' fun I hI=>?_
   have nI:G I=none:=hk.none hI fun zz zz=>rfl
   refine NC (t:=(9,8)) (xs:=wl.map Value.ref) (l:=lw) (GA G σ a lw I wl) (aI _ _ _) (bG hlw' hI) ?_ ?_ ?_
   ·exact .mk σ .none .none ((hk.fresh hI).mono) hup (W.keep (hk.fresh hI)) (.refl N) (.inl rfl) (fun x h1 h2=>absurd h2 h1) ⟨_,aI _ _ _⟩
   ·rintro J' k v _ G' hJ hv ⟨σ',cv,cv',hk,hup',W',rel,hc',i6,hz⟩ hI' hl'
    rw [←vJ] at hv
    simp only [jF,mX] at hv
    obtain ⟨x,hv,rfl⟩:=hv
    obtain ⟨hlt,hx⟩:=cO.mp hv
    rw [qN hlt,hx] at hup'
    refine dC hup'.sM fun hup2 hcab hxd=>?_
    have k9:aD [9] G' (upd G' I ⟨(9,0),.eT lw (((wl.map Value.ref).length:Int) - 1 - ((k+1:Nat):Int))⟩):=(aD.refl _ _).turn hI' rfl
    have kI:aD [1,5] G (upd G' I ⟨(9,0),.eT lw (((wl.map Value.ref).length:Int) - 1 - ((k+1:Nat):Int))⟩):=hk.new nI
    have hlw2:upd G' I ⟨(9,0),.eT lw (((wl.map Value.ref).length:Int) - 1 - ((k+1:Nat):Int))⟩ lw=some ⟨(9,8),.list (wl.map Value.ref)⟩:=b9 hl' hI' (b6 rfl)
    have hI2:upd G' I ⟨(9,0),.eT lw (((wl.map Value.ref).length:Int) - 1 - ((k+1:Nat):Int))⟩ I=some ⟨(9,0),.eT lw (((wl.map Value.ref).length:Int) - 1 - ((k+1:Nat):Int))⟩:=aI _ _ _
    have W5:=W'.keep k9
    generalize upd G' I ⟨(9,0),.eT lw (((wl.map Value.ref).length:Int) - 1 - ((k+1:Nat):Int))⟩=G5 at *
    have same:∀ y∈σ.dom,(σ'.md y).attached=(σ.md y).attached∧(σ'.md y).owner=(σ.md y).owner∧(σ'.md y).native=(σ.md y).native:=fun y hy=>by
     obtain ⟨v,e⟩:=rel.md y hy; exact sb e (⟨rfl,rfl,rfl⟩)
    refine aY rel.a ?_
    refine jT (iQ oo rfl (gG X oo aJ ?_))
    refine aQ hb (ZM X W5 rel.num (cc:=cc) (rel.dom x hxd) ((same x hxd).1.trans (hat x hxd)) ?_ (by exact sb rel.made hcl) ?_ fun σ6 r6 G6 W6 rel6 ho6 att6 k6=>?_)
    ·refine sb (QJ rel hxd) (sb hcab ?_)
     rcases hc' with rfl | ⟨b,rfl,hb',ho⟩
     ·obtain ⟨o,ho⟩:=how x hxd
      exact .inl ⟨rfl,o,(same x hxd).2.1.trans ho⟩
     ·exact .inr ⟨b,rfl,rel.dom b hb',ho⟩
    ·exact sb ((same x hxd).2.2) (hnat x hxd)
    ·refine sb rel.a ?_
     refine hJ _ _ (.mk σ6 _ (.ref x) (kI.trans k6) hup2 W6 (rel.trans rel6) (.inr ⟨x,rfl,hxd,ho6⟩) (fun y h1 h2=>?_) ⟨_,k6 _ _ hI2 rfl⟩) (k6 _ _ hI2 rfl) (k6 _ _ hlw2 rfl)
     by_cases h3:y∈σ'.dom
     ·obtain ⟨v,e⟩:=rel6.md y h3
      exact sb e (i6 y h1 h3)
     ·exact att6 y h3 h2
   ·rintro _ G' ⟨σ',cv,cv',hk,hup',W',rel,hc',i6,z,hz⟩ hl'
    rw [cT,←List.length_reverse,EW] at hup'
    obtain rfl:=hup'.last
    rcases hc' with h | ⟨b,e,hb',w,hw,hwd,hwa⟩
    ·cases h
    ·cases e
     have kE:=uB (T:=[9]) hz rfl
     have WE:=W'.keep kE
     refine bI X.bC (WE.mods a (rel.dom a ha)).obj rfl rfl ?_
     refine sb hw ?_
     exact hQ w σ' _ WE rel hwd hwa (hk.era nI)
  ·have hMb:=(W'.mods b hb').obj
   have hMb':G' b=some ⟨(1,0),.inst 268 (Mod.fs {σ.md b with own:=.none})⟩:=by exact aY (hown b hb') hMb
   refine bI X.bC hMb' rfl rfl ?_
   refine gG X oo aJ ?_
   refine iP hlw' (iD hlw' (by simp; exact bQ hwl (by simp +arith only)) ?_)
   have W2:=W.keep (hk.new nlw (x:=⟨(9,8),.list (wl.map Value.ref++[.ref b])⟩))
   refine aQ hb (GP X W2 hb' ?_)
   obtain ⟨h1,h2⟩:=hU b hb'
   have hr:Rk rk (gT σ b)<n:=by rcases h2 with h2 | ⟨d,h2,_,h3⟩<;>refine sb h2 ?_<;>simp [Rk] at hn ⊢<;>(first | exact KC hn | exact KD hn h3)
   refine hJ _ _ _ _ hr (.mk (wl++[b]) (gT σ b) (hk.new nlw) (by exact sb dR (aI _ _ _)) ?_ ?_ rfl (by simp; exact dQ hwl hr (by simp +arith only)))
   ·exact sb List.reverse_append (.cons hup rfl hb')
   ·exact h2.imp id fun ⟨d,e,hd,_⟩=>⟨d,e,hd⟩
end
theorem gP.kp {σ:Wd} {κ:Addr→Value} {ro:Addr→Nat} {a:Addr} {p:Str} (h:gP σ ro a p):gP (σ.kp κ) ro a p:=by
 induction h with
 | base ha h1 h2 h3=>exact .base ha h1 h2 h3
 | step ha h1 h2 h3 hr _ ih=>exact .step ha h1 h2 h3 hr ih
 | own ha h1 hr _ ih=>exact .own ha h1 hr ih
noncomputable def zM (G:Gh) (σ:Wd) (L:Addr→List Addr) (e:Addr) (G':Gh):Prop:=∃ κ G1,(∀ a∈σ.dom,dM G1 (σ.kp κ) L a)∧aD [1] G G1∧mZ G1 (σ.kp κ) "NameError" e G'
section
variable {B:Bn}
theorem RE (X:Txt B.w B.K) {G:Gh} {σ:Wd} (W:WI G σ) {L:Addr→List Addr} (H:vV G σ L) (M:cQ σ) {top a:Addr} (ha:a∈σ.dom) (htop:valueAt σ.made "Object"=some (.ref top)) (htd:top∈σ.dom)
  {ro:Addr→Nat} {p:Str} (hp:gP σ ro a p) (hpz:p.length≤100000) (hro:ro a≤1000) {n:Str} {t:Tok} (hn:tO B.K σ n) (hnz:n.length≤100) {Q:Value→Gh→Prop} (hQ:∀ v κ G',dW σ n (gZ L top a)=some v→WI G' (σ.kp κ)→(∀ a∈σ.dom,dM G' (σ.kp κ) L a)→aD [1] G G'→Q v G') :
  bH B (.ref 760) [.ref σ.a,.ref a,.str n t] G 45 170 Q
   (fun e G'=>dW σ n (gZ L top a)=none∧zM G σ L e G'):=by
 refine SD X fun c oo hsc aJ hb=>?_
 refine gD X.fZ (W.mods a ha).obj X.lY ?_
 refine EG X oo aJ hsc ["is_there","value"] (by kernel_rfl!) (by kernel_rfl!) rfl ?_
 refine bS X.b8 X.JJ W.obj W.meth ?_
 refine aQ hb (HW X W H ha htop htd hn fun x κ G1 hx W1 hK1 k1=>?_)
 cases e:dW σ n (gZ L top a) with
 | some v =>
  rw [e] at hx
  refine qY.mk hx rfl rfl ?_
  exact hQ v κ _ e W1 hK1 k1
 | none =>
  rw [e] at hx
  refine qY.mk hx rfl rfl ?_
  have hi1:gY (σ.kp κ):=(H.wf.kp κ).inj
  have M1:cQ (σ.kp κ):=⟨M.at_,M.len⟩
  refine bS X.b8 X.g7 W1.obj W1.meth ?_
  intro t1
  refine aQ hb (lU X W1 htop ?_)
  refine aQ hb (mG X (W1.gV (σ:=σ.kp κ) ha) (W1.gV (σ:=σ.kp κ) htd) ?_)
  have len1:(iK "uninitialized constant ").length=23:=by decide
  have len2:(iK "").length=0:=by decide
  have len3:(iK "::").length=2:=by decide
  refine sb (oK hi1 ha htd) ?_
  refine cV (fun h=>?_) (fun h=>?_)
  ·intro t2
   refine bS X.b8 X.CL W1.obj W1.meth ?_
   intro t3 t4
   refine fO (by exact sb len1 (sb len2 (ble rfl))) fun t5=>?_
   refine fO (by exact sb (gO _ _) (sb len1 (sb len2 (aG (fS hnz _) (ble rfl))))) fun t6=>?_
   exact uU hb (AE X (σ:=σ.kp κ) W1 M1 .name) (fun e' G' hf=>⟨rfl,κ,_,hK1,k1,hf⟩) (fun r G' h=>h.elim)
  ·refine aQ hb (AM X W1 hi1 (hp.kp (κ:=κ)) (by exact aG hpz (ble rfl)) hro fun t2 G2 k2=>?_)
   intro t3
   refine fO (by exact sb len3 (ab7 hpz)) fun t4=>?_
   have W2:=W1.keep k2
   refine bS X.b8 X.CL W2.obj W2.meth ?_
   intro t5 t6
   refine fO (by exact sb (gO _ _) (sb len1 (sb len3 (ab6 hpz)))) fun t7=>?_
   refine fO (by exact sb (gO _ _) (sb (gO _ _) (sb len1 (sb len3 (ab5 hpz hnz))))) fun t8=>?_
   exact uU hb (AE X (σ:=σ.kp κ) W2 M1 .name) (fun e' G' hf=>⟨rfl,κ,_,hK1,k1,hf.of k2⟩) (fun r G' h=>h.elim)
end
structure fU (G:Gh) (aB:Addr):Prop where
 ex:∃ aS ss ns,∃ (i j:Int),∃ t u,G aB=some ⟨(17,0),.list [.ref aS,.int i t,.int j u]⟩∧G aS=some ⟨(18,0),.list ss⟩∧aX ss ns∧0≤i
theorem fU.keep {T:List Nat} {G G':Gh} {aB:Addr} (h:fU G aB) (k:aD T G G') (h1:(T.contains 17||T.contains 18)=false:=by rfl):fU G' aB:=by
 obtain ⟨aS,ss,ns,i,j,t,u,h2,h3,h4⟩:=h.ex
 simp only [sR] at h1
 exact ⟨aS,ss,ns,i,j,t,u,k _ _ h2 h1.1,k _ _ h3 h1.2,h4⟩
section
variable {B:Bn}
theorem jC (X:Txt B.w B.K) {G:Gh} {aB:Addr} (H:fU G aB) {k:Int} {tk:Tok} (hk:0<k) {Q:Value→Gh→Prop} (hQ:∀ i t G',0≤i→i<k→fU G' aB→aD [17] G G'→Q (.int i t) G'):Call B (.ref 788) [.ref aB,.int k tk] G 1 6 Q:=by
 refine TN X fun c oo hsc aJ hb=>?_
 obtain ⟨aS,ss,ns,i,j,t,u,h1,h2,h3,h4⟩:=H.ex
 have hB:∀ x y,(upd G aB ⟨(17,0),.list [.ref aS,x,y]⟩) aS=some ⟨(18,0),.list ss⟩:=fun x y=>b9 h2 h1 (b6 rfl)
 refine ⟨fun zz=>cX h1 (by decide) rfl ?_⟩
 intro t1 t2
 intro t3
 refine NS h1 (by decide) (by exact d9 _) ?_
 have g1:upd G aB ⟨(17,0),.list ([Value.ref aS,.int i t,.int j u].set (pF 1) (.int (i+1) t2))⟩ aB=some ⟨(17,0),.list [Value.ref aS,.int (i+1) t2,.int j u]⟩:=aI _ _ _
 have gS:upd G aB ⟨(17,0),.list ([Value.ref aS,.int i t,.int j u].set (pF 1) (.int (i+1) t2))⟩ aS=some ⟨(18,0),.list ss⟩:=hB _ _
 have k1:aD [17] G (upd G aB ⟨(17,0),.list ([Value.ref aS,.int i t,.int j u].set (pF 1) (.int (i+1) t2))⟩):=(aD.refl _ _).turn h1 rfl
 generalize upd G aB ⟨(17,0),.list ([Value.ref aS,.int i t,.int j u].set (pF 1) (.int (i+1) t2))⟩=G1 at *
 refine ⟨fun zz=>cX g1 (by decide) rfl ?_⟩
 refine ⟨fun zz=>cX g1 (by decide) rfl ?_⟩
 refine jU gS fun u1=>?_
 refine cV (fun h=>?_) (fun h=>?_)
 ·have hle:i+1≤ss.length:=by exact of_decide_eq_true ‹_›
  refine ⟨fun zz=>cX g1 (by decide) rfl ?_⟩
  refine ⟨fun zz=>cX g1 (by decide) rfl ?_⟩
  intro t4 t5
  obtain ⟨z,hz⟩:∃ z,ns[i.toNat]?=some z:=⟨_,lK (by have:=h3.length; exact ac7 h4 hle this)⟩
  obtain ⟨tz,hz'⟩:=h3.get hz
  have e:(i+1 - 1).toNat=i.toNat:=by congr 1; exact Int.add_sub_cancel _ _
  refine ⟨fun zz=>cX gS (by exact HU h4 (by simp +arith only)) (by exact sb e hz') ?_⟩
  refine v_mod (by exact KU hk) fun t6=>?_
  refine hQ _ t6 _ (OU _ hk) (Int.fmod_lt_of_pos _ hk) ⟨aS,ss,ns,i+1,j,_,_,g1,gS,h3,by exact vA h4⟩ k1
 ·refine ⟨fun zz=>cX g1 (by decide) rfl ?_⟩
  intro t4 t5 t6
  refine NS g1 (by decide) (by exact d9 _) ?_
  have g2:upd G1 aB ⟨(17,0),.list ([Value.ref aS,.int (i+1) t2,.int j u].set (pF 2) (.int (j+1) t5))⟩ aB=some ⟨(17,0),.list [Value.ref aS,.int (i+1) t2,.int (j+1) t5]⟩:=aI _ _ _
  have gS2:upd G1 aB ⟨(17,0),.list ([Value.ref aS,.int (i+1) t2,.int j u].set (pF 2) (.int (j+1) t5))⟩ aS=some ⟨(18,0),.list ss⟩:=b9 gS g1 (b6 rfl)
  have k2:=k1.turn (x:=⟨(17,0),.list ([Value.ref aS,.int (i+1) t2,.int j u].set (pF 2) (.int (j+1) t5))⟩) g1 rfl
  generalize upd G1 aB ⟨(17,0),.list ([Value.ref aS,.int (i+1) t2,.int j u].set (pF 2) (.int (j+1) t5))⟩=G2 at *
  refine ⟨fun zz=>cX g2 (by decide) rfl ?_⟩
  intro t7
  refine v_mod (by decide) fun t8=>?_
  refine v_mod (by exact KU hk) fun t9=>?_
  refine hQ _ t9 _ (OU _ hk) (Int.fmod_lt_of_pos _ hk) ⟨aS,ss,ns,i+1,j+1,_,_,g2,gS2,h3,by exact vA h4⟩ k2
end
section
variable {B:Bn} {c:Cx} {R:Addr→aA→Gh→Prop} {gl:List (Str×Value)} {m:aA} {G:Gh}
theorem ahX {pos:Pos} {Q:List (Value×Value)→aA→Gh→Prop} (h:Q [] m G):V B c R (evalPairs (pairTrees [] [] c.env pos)) m G Q:=⟨fun ok s S=>wpAny_pure ⟨_,_,S,h⟩⟩
theorem qJ (X:Txt B.w B.K) (hg:c.gl=gl) {k:Str} {j:Nat} {p pos:Pos} {ks:List (Option Expr)} {v:Expr} {vs:List Expr} {Q:List (Value×Value)→aA→Gh→Prop}
  (h:∀ t,wk B c R gl 60 (.E v fun vv m G=>V B c R (evalPairs (pairTrees ks vs c.env pos)) m G fun ps m G=>Q ((.str k t,vv)::ps) m G) m G) :
  V B c R (evalPairs (pairTrees (some (.Constant (.str k) j p)::ks) (v::vs) c.env pos)) m G Q:=⟨fun ok s S=>by
 show wpAny _ _ (do
  let kv←eval (.Constant (.str k) j p) c.env
  let vv←holding [kv] (do let x←eval v c.env; standAt pos; pure x)
  return (kv,vv)::(←holding [kv,vv] (evalPairs (pairTrees ks vs c.env pos)))) _ _ s
 exact wpAny_bind (DA S fun t s1 S1=>wpAny_bind (wpAny_holding (wpAny_bind ((fQ X hg (h t)).go ok S1 fun vv s2 m2 G2 S2 h2=>wpAny_bind (wpAny_standAt (wpAny_pure (wpAny_bind (wpAny_holding (h2.go ok S2 fun ps s3 m3 G3 S3 h3=>wpAny_pure ⟨_,_,S3,h3⟩)))))))))⟩
theorem ah1 {keys:List (Option Expr)} {values:List Expr} {pos:Pos} {Q:Value→aA→Gh→Prop} (tg:Tag) (hall:keys.all (·.isSome)=true) (hl:keys.length=values.length) (h0:keys≠[]) (hlen:keys.length≤15)
  (h:∀ d,G d=none→V B c R (evalPairs (pairTrees keys values c.env pos)) m (upd G d ⟨tg,.aZ []⟩) fun vs m₁ G₁=>allStrKeys vs=true∧((strPairs vs).map (·.1)).Nodup∧(strPairs vs).length≤1000000∧G₁ d=some ⟨tg,.aZ []⟩∧Q (.ref d) m₁ (upd G₁ d ⟨tg,.aZ (strPairs vs)⟩)) :
  V B c R (eval (.Dict keys values pos) c.env) m G Q:=⟨fun ok s S=>adT tg hall hl h0 hlen S ok fun d s' hn S'=>(h d hn).go ok S' fun vs s1 m1 G1 S1 ⟨a,b,cc,e,q⟩=>⟨m1,G1,a,b,cc,S1,e,fun s2 S2=>⟨_,_,S2,q⟩⟩⟩
end
set_option genSizeOf false in
inductive eV where
 | row (i:Nat)
 | num (z:Int)
 | thing (a:Addr)
set_option genInjectivity false in
set_option genSizeOf false in
structure Row where
 d:Addr
 thing:Addr
 cls:Bool
 par:Value
 pN:Option Nat
 path:Str
 pT:Tok
 aT:Addr
 iB:List Value
 mix:List Nat
 eK:Addr
 iA:List Value
 fr:List Nat
 aH:Addr
 held:List (Str×Value)
 hh:Str→Option eV
noncomputable abbrev Row.es (r:Row):List (Str×Value):=[("thing",.ref r.thing),("class",.bool r.cls),("parent",r.par),("path",.str r.path r.pT),("mixed",.ref r.aT),("front",.ref r.eK),("held",.ref r.aH)]
inductive HeldAt (G:Gh):Value→eV→Prop
 | row {x:Addr} {i:Nat} {t u:Tok} (h:G x=some ⟨(16,0),.tup [.str "row" t,.int i u]⟩):HeldAt G (.ref x) (.row i)
 | num {x:Addr} {z:Int} {t u:Tok} (h:G x=some ⟨(16,0),.tup [.str "number" t,.int z u]⟩):HeldAt G (.ref x) (.num z)
 | thing {x a:Addr} {t:Tok} (h:G x=some ⟨(16,0),.tup [.str "thing" t,.ref a]⟩):HeldAt G (.ref x) (.thing a)
theorem HeldAt.keep {T:List Nat} {G G':Gh} {v:Value} {h:eV} (x:HeldAt G v h) (k:aD T G G') (hT:T.contains 16=false:=by rfl):HeldAt G' v h:=by
 cases x with
 | row h=>exact .row (k _ _ h hT)
 | num h=>exact .num (k _ _ h hT)
 | thing h=>exact .thing (k _ _ h hT)
noncomputable abbrev nats (l:List Nat):List Int:=l.map (fun i:Nat=>(i:Int))
structure dU (G:Gh) (r:Row):Prop where
 dict:G r.d=some ⟨(12,0),.aZ r.es⟩
 mix:G r.aT=some ⟨(13,r.d),.list r.iB⟩
 fr:G r.eK=some ⟨(14,r.d),.list r.iA⟩
 held:G r.aH=some ⟨(15,r.d),.aZ r.held⟩
 mD:aX r.iB (nats r.mix)
 kH:aX r.iA (nats r.fr)
 s9:(r.pN=none∧r.par=.none)∨∃ (p:Nat),∃ t,r.pN=some p∧r.par=.int p t
 q8:∀ n,(valueAt r.held n=none∧r.hh n=none)∨∃ v h,valueAt r.held n=some v∧r.hh n=some h∧HeldAt G v h
 small:r.mix.length≤1000∧r.fr.length≤1000∧r.held.length≤1000
noncomputable def oX (T:List Nat):Bool:=!(T.contains 11||T.contains 12||T.contains 13||T.contains 14||T.contains 15||T.contains 16)
theorem KW {T:List Nat} (h:oX T=true):T.contains 11=false∧T.contains 12=false∧T.contains 13=false∧T.contains 14=false∧T.contains 15=false∧T.contains 16=false:=by
 simp only [oX,lJ,sR] at h
 exact ⟨h.1.1.1.1.1,h.1.1.1.1.2,h.1.1.1.2,h.1.1.2,h.1.2,h.2⟩
theorem dU.keep {T:List Nat} {G G':Gh} {r:Row} (h:dU G r) (k:aD T G G') (hT:oX T=true:=by rfl):dU G' r:=by
 refine OH (KW hT) fun zz h2 h3 h4 h5 h6=>?_
 exact ⟨k _ _ h.dict h2,k _ _ h.mix h3,k _ _ h.fr h4,k _ _ h.held h5,h.mD,h.kH,h.s9,fun n=>(h.q8 n).imp id fun ⟨v,x,a,b,c⟩=>⟨v,x,a,b,c.keep k h6⟩,h.small⟩
structure RI (G:Gh) (aR:Addr) (rows:List Row):Prop where
 list:G aR=some ⟨(11,0),.list (rows.map fun r=>.ref r.d)⟩
 at_:∀ r∈rows,dU G r
 nd:(rows.map (·.d)).Nodup
 small:rows.length≤1000
theorem RI.keep {T:List Nat} {G G':Gh} {aR:Addr} {rows:List Row} (h:RI G aR rows) (k:aD T G G') (hT:oX T=true:=by rfl):RI G' aR rows :=
 ⟨k _ _ h.list (KW hT).1,fun r hr=>(h.at_ r hr).keep k hT,h.nd,h.small⟩
theorem RI.at {G:Gh} {aR:Addr} {rows:List Row} (_:RI G aR rows) {i:Nat} {r:Row} (hi:rows[i]?=some r):(rows.map fun r=>Value.ref r.d)[i]?=some (.ref r.d):=by refine sb jF (sb hi ?_); rfl
theorem dF {B:Bn} {c:Cx} {R:Addr→aA→Gh→Prop} {m:aA} {e1 s1 e2 s2:Expr} {G:Gh} {aR:Addr} {rows:List Row} {k:Int} {r:Row} {col:Str} {w:Value} {Q:Value→aA→Gh→Prop} (H:RI G aR rows) (h0:0≤k) (hr:rows[k.toNat]?=some r) (hv:valueAt r.es col=some w) (q1:C5 s1=false) (q2:C5 s2=false) (h:Q w m G):vX B c R e1 s1 (.ref aR) k m G (IW B c R e2 s2 col Q) :=
 ⟨fun zz=>cX H.list h0 (H.at hr) ⟨fun zz=>iO (H.at_ r (cE hr)).dict hv h (MN q2)⟩ (MN q1)⟩
section
variable {B:Bn}
theorem rT (X:Txt B.w B.K) {G:Gh} {th:Addr} {cl:Bool} {par:Value} {pN:Option Nat} {path:Str} {pT:Tok} (hp:(pN=none∧par=.none)∨∃ (p:Nat),∃ t,pN=some p∧par=.int p t) {Q:Value→Gh→Prop} (hQ:∀ d aT eK aH G',G d=none→dU G' ⟨d,th,cl,par,pN,path,pT,aT,[],[],eK,[],[],aH,[],fun zz=>none⟩→aD [] G G'→Q (.ref d) G') :
  Call B (.ref 807) [.ref th,.bool cl,par,.str path pT] G 1 6 Q:=by
 refine TL X fun c oo hsc aJ hb=>?_
 refine ah1 (12,0) rfl rfl (by simp) (by decide) fun d hd=>?_
 refine qJ X aJ fun t1=>?_
 refine qJ X aJ fun t2=>?_
 refine qJ X aJ fun t3=>?_
 refine qJ X aJ fun t4=>?_
 refine qJ X aJ fun t5=>?_
 refine eS (13,d) (by simp) fun aT hMix=>?_
 refine qJ X aJ fun t6=>?_
 refine eS (14,d) (by simp) fun eK hFr=>?_
 refine qJ X aJ fun t7=>?_
 refine nN (15,d) fun aH hH=>?_
 refine ahX ?_
 have gd:upd (upd (upd (upd G d ⟨(12,0),.aZ []⟩) aT ⟨(13,d),.list []⟩) eK ⟨(14,d),.list []⟩) aH ⟨(15,d),.aZ []⟩ d=some ⟨(12,0),.aZ []⟩:=bG (bG (bG (aI _ _ _) hMix) hFr) hH
 have gM:upd (upd (upd (upd G d ⟨(12,0),.aZ []⟩) aT ⟨(13,d),.list []⟩) eK ⟨(14,d),.list []⟩) aH ⟨(15,d),.aZ []⟩ aT=some ⟨(13,d),.list []⟩:=bG (bG (aI _ _ _) hFr) hH
 have gF:upd (upd (upd (upd G d ⟨(12,0),.aZ []⟩) aT ⟨(13,d),.list []⟩) eK ⟨(14,d),.list []⟩) aH ⟨(15,d),.aZ []⟩ eK=some ⟨(14,d),.list []⟩:=bG (aI _ _ _) hH
 have gH:upd (upd (upd (upd G d ⟨(12,0),.aZ []⟩) aT ⟨(13,d),.list []⟩) eK ⟨(14,d),.list []⟩) aH ⟨(15,d),.aZ []⟩ aH=some ⟨(15,d),.aZ []⟩:=aI _ _ _
 have k:aD [] G (upd (upd (upd (upd G d ⟨(12,0),.aZ []⟩) aT ⟨(13,d),.list []⟩) eK ⟨(14,d),.list []⟩) aH ⟨(15,d),.aZ []⟩):=((((aD.refl _ _).fresh hd).fresh hMix).fresh hFr).fresh hH
 refine ⟨rfl,by simp only [strPairs,yX]; decide,by exact bY _ _,gd,?_⟩
 refine hQ d aT eK aH _ hd ⟨aI _ _ _,b9 gM gd (b6 rfl),b9 gF gd (b6 rfl),b9 gH gd (b6 rfl),trivial,trivial,hp,fun n=>.inl ⟨rfl,rfl⟩,⟨by simp,by simp,by simp⟩⟩ (k.new hd)
end
theorem aX.at {vs:List Value} {ns:List Int} (h:aX vs ns) {k:Nat} {v:Value} (hv:vs[k]?=some v):∃ n t,ns[k]?=some n∧v=.int n t :=
 h.ind (M:=fun vs ns=>∀ k v,vs[k]?=some v→∃ n t,ns[k]?=some n∧v=.int n t) (fun k v h=>bM h) (fun t n zz zz zz ih k v h=>by
  induction k using Nat.casesOn with
  | zero=>cases h; exact ⟨n,t,rfl,rfl⟩
  | succ k=>exact ih k v h) k v hv
theorem aX.nat {vs:List Value} {l:List Nat} (h:aX vs (nats l)) {k:Nat} {v:Value} (hv:vs[k]?=some v):∃ i t,l[k]?=some i∧v=.int (i:Int) t:=by
 refine cN (h.at hv) fun n t h1 h2=>?_
 rw [jF,mX] at h1
 refine aV h1 fun i h3 zq2=>?_
 subst zq2
 exact ⟨i,t,h3,h2⟩
theorem JT (l:List Nat):(nats l).length=l.length:=cT _
noncomputable def lF (rows:List Row) (i:Nat) (n:Str):Option eV:=match rows[i]? with
 | some r=>r.hh n
 | none=>none
noncomputable def iL (rows:List Row) (n:Str):List Nat→Option eV
 | []=>none
 | i::l=>match lF rows i n with
  | some h=>some h
  | none=>iL rows n l
theorem HY {rows:List Row} {n:Str} {i:Nat} {l:List Nat} {h:eV} (e:lF rows i n=some h):iL rows n (i::l)=some h:=by
 show (match lF rows i n with | some h=>some h | none=>iL rows n l)=_
 exact sb e rfl
theorem AH {rows:List Row} {n:Str} {i:Nat} {l:List Nat} (e:lF rows i n=none):iL rows n (i::l)=iL rows n l:=by
 show (match lF rows i n with | some h=>some h | none=>iL rows n l)=_
 exact sb e rfl
theorem HX {rows:List Row} {n:Str} {l r:List Nat} (h:iL rows n l=none):iL rows n (l++r)=iL rows n r:=by
 induction l with
 | nil=>rfl
 | cons i l ih =>
  cases e:lF rows i n with
  | some v=>rw [HY e] at h; exact dK h
  | none=>rw [AH e] at h; exact sb mR (sb (AH e) (ih h))
noncomputable def lO (G:Gh) (v:Value) (o:Option eV):Prop:=(o=none∧v=.none)∨∃ h,o=some h∧HeldAt G v h
section
variable {B:Bn}
inductive FO (G:Gh) (rows:List Row) (aR aS:Addr) (n:Str) (t:Tok) (sp:List Nat):Nat→aA→Gh→Prop
 | mk {k:Nat} {G':Gh} (o:Option Value) (kp:aD [] G G') (hn:iL rows n (sp.take k)=none):FO G rows aR aS n t sp k (O6 (some (.ref aR)) (some (.ref aS)) (some (.str n t)) o) G'
theorem J3 (X:Txt B.w B.K) {G:Gh} {aR aS:Addr} {rows:List Row} (H:RI G aR rows) {ts:Tag} (hts:ts≠(9,0)) {sv:List Value} {sp:List Nat} (hS:G aS=some ⟨ts,.list sv⟩) (hI:aX sv (nats sp)) (hlt:∀ i∈sp,i<rows.length) {n:Str} {t:Tok} {Q:Value→Gh→Prop} (hQ:∀ r G',lO G' r (iL rows n sp)→aD [] G G'→Q r G') :
  Call B (.ref 821) [.ref aR,.ref aS,.str n t] G 1 8 Q:=by
 refine TA X fun c oo hsc aJ hb=>?_
 refine nM (FO G rows aR aS n t sp) hS (fun I hI=>.mk none ((aD.refl _ _).fresh hI) rfl) ?_ ?_
 ·rintro J' I k v m G' hJ hIn hv ⟨o,hk,hno⟩ hI' hl'
  refine cN (hI.nat hv) fun i ti hi zq1=>?_
  subst zq1
  have hil:=hlt i (cE hi)
  obtain ⟨r,hr⟩:∃ r,rows[i]?=some r:=⟨_,lK hil⟩
  have kI:aD [] G (upd G' I ⟨(9,0),.lit aS (k+1)⟩):=hk.new hIn
  have H':=H.keep kI
  have hI2:upd G' I ⟨(9,0),.lit aS (k+1)⟩ I=some ⟨(9,0),.lit aS (k+1)⟩:=aI _ _ _
  have hl2:upd G' I ⟨(9,0),.lit aS (k+1)⟩ aS=some ⟨ts,.list sv⟩:=b9 hl' hI' hts
  generalize upd G' I ⟨(9,0),.lit aS (k+1)⟩=G5 at *
  have hR:=H'.at_ r (cE hr)
  have e2:sp=sp.take k++i::sp.drop (k+1):=by
   exact aY ((cO.mp hi).2) (aY (qN (cO.mp hi).1) (sb (z5 _ _) rfl))
  have rh:lF rows i n=r.hh n:=by unfold lF; exact sb hr rfl
  refine jT (iQ oo rfl (gG X oo aJ ?_))
  refine dF H' (d9 _) hr rfl rfl rfl ?_
  refine y9 hR.held ?_
  rcases hR.q8 n with ⟨h1,h2⟩ | ⟨u,h,h1,h2,h3⟩
  ·refine sb h1 ?_
   refine hJ _ _ (.mk _ kI ?_) hI2 hl2
   refine sb mV (sb hi (sb (mY _) (sb (HX hno) (sb (AH (rh.trans h2)) ?_)))); rfl
  ·refine sb h1 ?_
   refine dF H' (d9 _) hr rfl rfl rfl ?_
   refine ⟨fun zz=>iO hR.held h1 ?_⟩
   refine hQ _ _ (.inr ⟨h,?_,h3⟩) kI
   exact sb e2 (sb (HX hno) (sb (HY (rh.trans h2)) rfl))
 ·rintro I m G' hIn ⟨o,hk,hno⟩ hI' hl'
  rw [hI.length,JT,nX] at hno
  exact hQ _ _ (.inl ⟨hno,rfl⟩) (hk.era hIn)
inductive pM (rows:List Row):eV→Value→Prop
 | row {i:Nat} {r:Row} (h:rows[i]?=some r):pM rows (.row i) (.ref r.thing)
 | num {z:Int} {t:Tok}:pM rows (.num z) (.int z t)
 | thing {a:Addr}:pM rows (.thing a) (.ref a)
theorem J4 (X:Txt B.w B.K) {G:Gh} {aR:Addr} {rows:List Row} (H:RI G aR rows) {v:Value} {h:eV} (hv:HeldAt G v h) (hlt:∀ i,h=.row i→i<rows.length) {Q:Value→Gh→Prop} (hQ:∀ r,pM rows h r→Q r G) :
  Call B (.ref 840) [.ref aR,v] G 1 8 Q:=by
 refine TP X fun c oo hsc aJ hb=>?_
 cases hv with
 | @row x i t u hx =>
  refine ⟨fun zz=>eB hx (by decide) rfl ?_⟩
  obtain ⟨r,hr⟩:∃ r,rows[i]?=some r:=⟨_,lK (hlt i rfl)⟩
  refine ⟨fun zz=>eB hx (by decide) rfl ?_⟩
  refine dF H (d9 _) hr rfl rfl rfl ?_
  exact hQ _ (.row hr)
 | @num x z t u hx =>
  refine ⟨fun zz=>eB hx (by decide) rfl ?_⟩
  refine ⟨fun zz=>eB hx (by decide) rfl ?_⟩
  exact hQ _ .num
 | @thing x a t hx =>
  refine ⟨fun zz=>eB hx (by decide) rfl ?_⟩
  refine ⟨fun zz=>eB hx (by decide) rfl ?_⟩
  exact hQ _ .thing
theorem CE (X:Txt B.w B.K) {G:Gh} {aR x:Addr} {rows:List Row} (H:RI G aR rows) {tx:Tag} {fo:Option Value} (hx:G x=some ⟨tx,.tup (lW fo)⟩) {v:Value} {ho:Option eV} (hv:lO G v ho) (hlt:∀ i,ho=some (.row i)→i<rows.length)
  (hm:match (generalizing:=false) fo,ho with
   | some f,some h=>∀ u,pM rows h u→∃ k,jY G f k∧jY G u k
   | none,none=>True
   | _,_=>False) {Q:Value→Gh→Prop} (hQ:Q (.bool true) G):Call B (.ref 847) [.ref aR,.ref x,v] G 4 15 Q:=by
 refine T7 X fun c oo hsc aJ hb=>?_
 rcases hv with ⟨rfl,rfl⟩ | ⟨h,rfl,hh⟩
 ·induction fo using Option.casesOn with
  | some f=>exact hm.elim
  | none =>
   refine ⟨fun zz=>eB hx (by decide) rfl ?_⟩
   exact hQ
 ·induction fo using Option.casesOn with
  | none=>exact hm.elim
  | some f =>
   cases hh with
   | row hx' | num hx' | thing hx' =>
    refine ⟨fun zz=>eB hx (by decide) rfl ?_⟩
    refine ⟨fun zz=>eB hx (by decide) rfl ?_⟩
    refine aQ hb (J4 X H (by first | exact .row hx' | exact .num hx' | exact .thing hx') (fun i e=>hlt i (by exact sb e rfl)) fun r h2=>?_)
    refine aV (hm _ h2) fun k k1 k2=>?_
    refine aQ hb (mG X k1 k2 ?_)
    exact kL hQ (by simp [lE])
end
noncomputable def wU (at':Nat) (bh line s:List Nat):List Nat:=[at']++s.filter (fun k=>!bh.contains k)++(line.drop 1).filter fun k=>!(s.filter fun k=>!bh.contains k).contains k
noncomputable def I3 (line s:List Nat):List Nat:=s++line.filter fun k=>!s.contains k
noncomputable def j9 (ln:Nat→List Nat) (at':Nat) (bh:List Nat) (l:List Nat):List Nat:=l.foldl (fun line one=>wU at' bh line (ln one)) (at'::bh)
noncomputable def lB (ln:Nat→List Nat) (l0:List Nat) (l:List Nat):List Nat:=l.foldl (fun line one=>I3 line (ln one)) l0
noncomputable def dG (ln:Nat→List Nat):Option Nat→List Nat
 | none=>[]
 | some p=>ln p
noncomputable def aO (rows:List Row):Nat→Nat→List Nat
 | 0,_=>[]
 | f+1,i=>match rows[i]? with
  | none=>[]
  | some r=>lB (aO rows f) (j9 (aO rows f) i (dG (aO rows f) r.pN) r.mix) r.fr
noncomputable def cM (rows:List Row):Nat→Nat→Prop
 | 0,_=>False
 | f+1,i=>∃ r,rows[i]?=some r∧(∀ p,r.pN=some p→cM rows f p)∧(∀ x∈r.mix,cM rows f x)∧∀ x∈r.fr,cM rows f x
structure n6 (rows:List Row):Prop where
 mix:∀ f i r k,rows[i]?=some r→(j9 (aO rows f) i (dG (aO rows f) r.pN) (r.mix.take k)).length≤1000
 fr:∀ f i r k,rows[i]?=some r→(lB (aO rows f) (j9 (aO rows f) i (dG (aO rows f) r.pN) r.mix) (r.fr.take k)).length≤1000
theorem n6.all {rows:List Row} (h:n6 rows):∀ f i,(aO rows f i).length≤1000
 | 0,_=>by simp [aO]
 | f+1,i=>by
  rw [aO]
  cases e:rows[i]? with
  | none=>simp
  | some r=>have:=h.fr f i r r.fr.length e; rwa [nX] at this
noncomputable def outV (ns:List Nat):Value→Bool
 | .int i _=>!(nats ns).contains i
 | _=>true
theorem oV (ns:List Nat) (i:Nat):(nats ns).contains (i:Int)=ns.contains i:=by
 rw [nR,mS,mS,cP]
 constructor
 ·rintro ⟨j,hj,e⟩; exact aY (vE e) hj
 ·exact fun h=>⟨i,h,rfl⟩
theorem aX.wH {M:List Value→List Nat→Prop} {vs:List Value} {l:List Nat} (h:aX vs (nats l)) (n0:M [] []) (n1:∀ t (i:Nat) vs l,aX vs (nats l)→M vs l→M (.int (i:Int) t::vs) (i::l)):M vs l:=by
 induction vs generalizing l with
 | nil=>induction l using List.casesOn with
  | nil=>exact n0
  | cons=>exact h.elim
 | cons v vs ih=>induction l using List.casesOn with
  | nil=>exact h.elim
  | cons i l =>
   obtain ⟨⟨t,e⟩,h⟩:=h
   exact sb e (n1 t i vs l h (ih h))
theorem aX.AF (ns:List Nat) {vs:List Value} {l:List Nat} (h:aX vs (nats l)):aX (vs.filter (outV ns)) (nats (l.filter fun k=>!ns.contains k)) :=
 h.wH (M:=fun vs l=>aX (vs.filter (outV ns)) (nats (l.filter fun k=>!ns.contains k))) trivial fun t i vs l zz ih=>by
  have ho:outV ns (.int (i:Int) t)=!ns.contains i:=by
   show (!(nats ns).contains (i:Int))=_
   exact sb (oV _ _) rfl
  refine sb qP (sb qP (sb ho ?_))
  by_cases q:(!ns.contains i)=true
  ·exact sb (if_pos q) (sb (if_pos q) (⟨⟨t,rfl⟩,ih⟩))
  ·exact sb (if_neg q) (sb (if_neg q) ih)
theorem aX.RQ {vs:List Value} {l:List Int} (h:aX vs l):∀ k,aX (vs.drop k) (l.drop k) :=
 h.ind (M:=fun vs l=>∀ k,aX (vs.drop k) (l.drop k)) (fun k=>by refine sb List.drop_nil (sb List.drop_nil ?_); trivial) fun t n vs l h ih k=>Nat.casesOn k ⟨⟨t,rfl⟩,h⟩ ih
theorem aX.MR {vs:List Value} {l:List Int} (h:aX vs l):∀ k,aX (vs.take k) (l.take k) :=
 h.ind (M:=fun vs l=>∀ k,aX (vs.take k) (l.take k)) (fun k=>by refine sb List.take_nil (sb List.take_nil ?_); trivial) fun t n vs l h ih k=>Nat.casesOn k trivial fun k=>⟨⟨t,rfl⟩,ih k⟩
theorem aX.drop {vs:List Value} {l:List Nat} (k:Nat) (h:aX vs (nats l)):aX (vs.drop k) (nats (l.drop k)):=by
 unfold nats; exact sb List.map_drop (h.RQ k)
theorem aX.take {vs:List Value} {l:List Nat} (k:Nat) (h:aX vs (nats l)):aX (vs.take k) (nats (l.take k)):=by
 unfold nats; exact sb List.map_take (h.MR k)
theorem aX.l8 {vs us:List Value} {l r:List Nat} (h:aX vs (nats l)) (k:aX us (nats r)):aX (vs++us) (nats (l++r)):=by
 unfold nats; exact sb dR (h.append k)
theorem aX.one (i:Nat) (t:Tok):aX [.int (i:Int) t] (nats [i]):=⟨⟨t,rfl⟩,trivial⟩
theorem aX.len {vs:List Value} {l:List Nat} (h:aX vs (nats l)):vs.length=l.length:=by exact sb h.length (sb (JT _) rfl)
section
variable {B:Bn} {c:Cx} {R:Addr→aA→Gh→Prop} {m:aA} {G:Gh}
theorem xW {a b:Addr} {t t2:Tag} {xs ys:List Value} {Q:Value→aA→Gh→Prop} (tg:Tag) (hG:G a=some ⟨t,.list xs⟩) (hb:G b=some ⟨t2,.list ys⟩) (hz:xs.length+ys.length≤1000000)
  (h:∀ l G',aD [] G G'→G' l=some ⟨tg,.list (xs++ys)⟩→Q (.ref l) m G'):V B c R (binaryOp .Add (.ref a) (.ref b)) m G Q :=
 pA tg hG hb hz fun l hl=>h l _ ((aD.refl [] G).fresh hl) (aI _ _ _)
end
section
variable {B:Bn}
inductive FU (G:Gh) (aR aRow lb:Addr) (i:Nat) (ti:Tok) (ln:Nat→List Nat) (bh mix:List Nat):Nat→aA→Gh→Prop
 | mk {k:Nat} {G':Gh} (ll:Addr) (lv:List Value) (o1 o2:Option Value) (kp:aD [] G G') (hl:G' ll=some ⟨(9,3),.list lv⟩) (hI:aX lv (nats (j9 ln i bh (mix.take k)))) :
   FU G aR aRow lb i ti ln bh mix k (yF (some (.ref aR)) (some (.int (i:Int) ti)) (some (.ref aRow)) (some (.ref lb)) (some (.ref ll)) o1 o2) G'
inductive FN (G:Gh) (aR aRow lb:Addr) (i:Nat) (ti:Tok) (ln:Nat→List Nat) (l0 fr:List Nat):Nat→aA→Gh→Prop
 | mk {k:Nat} {G':Gh} (ll:Addr) (lv:List Value) (o1 o2:Option Value) (kp:aD [] G G') (hl:G' ll=some ⟨(9,3),.list lv⟩) (hI:aX lv (nats (lB ln l0 (fr.take k)))) :
   FN G aR aRow lb i ti ln l0 fr k (yF (some (.ref aR)) (some (.int (i:Int) ti)) (some (.ref aRow)) (some (.ref lb)) (some (.ref ll)) o1 o2) G'
theorem aaA {ln:Nat→List Nat} {i:Nat} {bh l:List Nat} {k x:Nat} (h:l[k]?=some x):j9 ln i bh (l.take (k+1))=wU i bh (j9 ln i bh (l.take k)) (ln x):=by
 unfold j9; refine sb mV (sb h (sb (mY _) (sb List.foldl_append ?_))); rfl
theorem WS {ln:Nat→List Nat} {l0 l:List Nat} {k x:Nat} (h:l[k]?=some x):lB ln l0 (l.take (k+1))=I3 (lB ln l0 (l.take k)) (ln x):=by
 unfold lB; refine sb mV (sb h (sb (mY _) (sb List.foldl_append ?_))); rfl
theorem CF (X:Txt B.w B.K) {aR:Addr} {rows:List Row} (Z:n6 rows):∀ (f:Nat) (G:Gh) (i:Nat) (ti:Tok) {Q:Value→Gh→Prop},RI G aR rows→cM rows f i→(∀ l vs G',G' l=some ⟨(9,3),.list vs⟩→aX vs (nats (aO rows f i))→aD [] G G'→Q (.ref l) G') →
  Call B (.ref 793) [.ref aR,.int (i:Int) ti] G (f+2) (3 * f+10) Q:=by
 intro f
 induction f with
 | zero=>intro _ _ _ _ _ h; exact h.elim
 | succ f ih =>
  intro G i ti Q H hg hQ
  refine EJ hg fun r hr hgp hgm hgf=>?_
  refine TF X (dn:=f+1+1) (un:=3 * (f+1)+7) fun c oo hsc aJ hb=>?_
  have hbf:bD c (f+2) (3 * f+10):=hb.le (bZ _) (bZ _)
  have cutf:∀ {G:Gh} {x:Nat} {t:Tok} {mv:aA} {P:Value→aA→Gh→Prop},RI G aR rows→cM rows f x→(∀ l vs G',G' l=some ⟨(9,3),.list vs⟩→aX vs (nats (aO rows f x))→aD [] G G'→P (.ref l) mv G') →
    V B c bJ (call (.ref 793) [.ref aR,.int (x:Int) t]) mv G P:=fun h1 h2 h3=>aQ hbf (ih _ _ _ h1 h2 h3) (by simp) (by simp)
  have hR:=H.at_ r (cE hr)
  have zl:=Z.all f
  have hln:aO rows (f+1) i=lB (aO rows f) (j9 (aO rows f) i (dG (aO rows f) r.pN) r.mix) r.fr:=by (rewrite [aO]; exact sb hr rfl)
  refine ⟨fun zz=>cX H.list (by exact mQ.mpr (bY _ _)) (by exact sb (vF _) (H.at hr)) ?_⟩
  have stage:∀ lb bv G1,aD [] G G1→G1 lb=some ⟨(9,3),.list bv⟩→aX bv (nats (dG (aO rows f) r.pN)) →
    ws B c bJ wA 58 ((bodyOf (topS 61)).drop 2) (bA Q) (yF (some (.ref aR)) (some (.int (i:Int) ti)) (some (.ref r.d)) (some (.ref lb)) none none none) G1:=by
   intro lb bv G1 k1 hlb hbI
   have zb:(dG (aO rows f) r.pN).length≤1000:=by
    induction r.pN using Option.casesOn with
    | none=>simp [dG]
    | some p=>exact zl p
   refine fP (9,4) (by exact iR _) fun l1 Gl kl hl1 gl1=>?_
   refine xW (9,3) gl1 (kl _ _ hlb rfl) (by have:=hbI.len; simp; exact aG (fS (b5 this) _) (aG (fS zb _) (ble rfl))) fun ll G2 ka g2=>?_
   have k2:aD [] G1 G2:=kl.trans ka
   have H2:=H.keep (k1.trans k2)
   have hR2:=H2.at_ r (cE hr)
   have hlb2:=k2 _ _ hlb rfl
   refine ⟨fun zz=>iO hR2.dict rfl ?_⟩
   refine nM (FU G2 aR r.d lb i ti (aO rows f) (dG (aO rows f) r.pN) r.mix) hR2.mix (fun I hI=>.mk ll _ none none ((aD.refl _ _).fresh hI) (bG g2 hI) ((aX.one i ti).l8 hbI)) ?_ ?_
   ·rintro J' I k v m G' hJ hIn hv ⟨ll,lv,o1,o2,hk,hl,hlI⟩ hI' hl'
    refine cN (hR2.mD.nat hv) fun x tx hx zq5=>?_
    subst zq5
    have kI:aD [] G2 (upd G' I ⟨(9,0),.lit r.aT (k+1)⟩):=hk.new hIn
    have H5:=H2.keep kI
    have hI5:upd G' I ⟨(9,0),.lit r.aT (k+1)⟩ I=some ⟨(9,0),.lit r.aT (k+1)⟩:=aI _ _ _
    have hm5:=kI _ _ hR2.mix rfl
    have hlb5:=kI _ _ hlb2 rfl
    have hl5:upd G' I ⟨(9,0),.lit r.aT (k+1)⟩ ll=some ⟨(9,3),.list lv⟩:=b9 hl hI' (b6 rfl)
    generalize upd G' I ⟨(9,0),.lit r.aT (k+1)⟩=G5 at *
    have zm:=Z.mix f i r k hr
    refine jT (iQ oo rfl (gG X oo aJ ?_))
    refine N4 (nQ X oo aJ hsc (9,5) rfl rfl ?_) (by refine sb (xU hsc) ?_; kernel_rfl!)
    refine cutf H5 (hgm x (cE hx)) fun l2 vs2 G6 hl2 hI2 k6=>?_
    have hlb6:=k6 _ _ hlb5 rfl
    refine fV.pure X (outV (dG (aO rows f) r.pN)) id hl2 (by have:=hI2.len; have:=zl x; exact aG (b5 (by assumption)) (aG this (ble rfl))) ?_ ?_ ?_
    ·intro c' v G' hA hg hv k
     obtain ⟨q,hq⟩:=nW.mp hv
     refine cN (hI2.nat hq) fun j tj zz zq4=>?_
     subst zq4
     refine pC (k _ _ hlb6 rfl) hbI ?_
     exact ⟨rfl,rfl,aD.refl _ _⟩
    ·intro c' v G' hA hg hv _ k
     exact ⟨rfl,aD.refl _ _,rfl⟩
    intro D G7 hD k7 hD'
    rw [vH] at hD'
    refine iQ oo rfl ?_
    have hsI:=hI2.AF (dG (aO rows f) r.pN)
    have zs:((aO rows f x).filter fun k=>!(dG (aO rows f) r.pN).contains k).length≤1000:=aG (nU _ _) (zl x)
    have k57:=k6.trans k7
    refine fP (9,4) (by exact iR _) fun l3 Gl kl hl3 gl3=>?_
    refine xW (9,6) gl3 (kl _ _ hD' rfl) (by have:=hsI.len; simp; exact aG (fS (b5 this) _) (aG (fS zs _) (ble rfl))) fun l4 G8 ka g8=>?_
    have k8:aD [] G7 G8:=kl.trans ka
    have hl8:=k8 _ _ (k57 _ _ hl5 rfl) rfl
    refine nQ X oo aJ hsc (9,5) rfl rfl ?_
    refine NT (9,7) X aJ ?_
    intro t9
    refine ⟨ll,_,lv,1,t9,rfl,hl8,rfl,fun l9 hl9=>?_⟩
    have k9:aD [] G8 (upd G8 l9 ⟨(9,7),.list (lv.drop 1)⟩):=(aD.refl _ _).fresh hl9
    have g9:upd G8 l9 ⟨(9,7),.list (lv.drop 1)⟩ l9=some ⟨(9,7),.list (lv.drop 1)⟩:=aI _ _ _
    generalize upd G8 l9 ⟨(9,7),.list (lv.drop 1)⟩=G9 at *
    have hdI:=hlI.drop 1
    have hD9:=k9 _ _ (k8 _ _ hD' rfl) rfl
    refine fV.pure X (outV ((aO rows f x).filter fun k=>!(dG (aO rows f) r.pN).contains k)) id g9 (by have:=hlI.len; exact sb F0 (acJ zm this)) ?_ ?_ ?_
    ·intro c' v G' hA hg hv k
     obtain ⟨q,hq⟩:=nW.mp hv
     refine cN (hdI.nat hq) fun j tj zz zq3=>?_
     subst zq3
     refine pC (k _ _ hD9 rfl) hsI ?_
     exact ⟨rfl,rfl,aD.refl _ _⟩
    ·intro c' v G' hA hg hv _ k
     exact ⟨rfl,aD.refl _ _,rfl⟩
    intro E G10 hE k10 hE'
    rw [vH] at hE'
    have heI:=hdI.AF ((aO rows f x).filter fun k=>!(dG (aO rows f) r.pN).contains k)
    have hl10:=k10 _ _ (k9 _ _ g8 rfl) rfl
    refine xW (9,3) hl10 hE' (by have h1:=hsI.len; have h2:=hlI.len; have h3:=nU (outV ((aO rows f x).filter fun k=>!(dG (aO rows f) r.pN).contains k)) (lv.drop 1); rw [F0] at h3; exact sb fR (sb pG (acI zm zs h1 h2 h3))) fun l11 G11 ka g11=>?_
    have k511:aD [] G5 G11:=(((k57.trans k8).trans k9).trans k10).trans ka
    refine hJ _ _ (.mk l11 _ _ _ (kI.trans k511) g11 ?_) (k511 _ _ hI5 rfl) (k511 _ _ hm5 rfl)
    refine sb (aaA hx) ?_
    exact ((aX.one i ti).l8 hsI).l8 heI
   ·rintro I m G' hIn ⟨ll,lv,o1,o2,hk,hl,hlI⟩ hI' hl'
    rw [hR2.mD.len,nX] at hlI
    have kE:aD [] G2 (era G' I):=hk.era hIn
    have hlE:era G' I ll=some ⟨(9,3),.list lv⟩:=kF hl (fun e=>by rw [e,hI'] at hl; simp at hl)
    generalize era G' I=G3 at *
    have H3:=H2.keep kE
    have hR3:=H3.at_ r (cE hr)
    refine ⟨fun zz=>iO hR3.dict rfl ?_⟩
    refine nM (FN G3 aR r.d lb i ti (aO rows f) (j9 (aO rows f) i (dG (aO rows f) r.pN) r.mix) r.fr) hR3.fr (fun I hI=>.mk ll _ o1 o2 ((aD.refl _ _).fresh hI) (bG hlE hI) hlI) ?_ ?_
    ·rintro J' I k v m G' hJ hIn hv ⟨ll,lv,o1,o2,hk,hl,hlI⟩ hI' hl'
     refine cN (hR3.kH.nat hv) fun x tx hx zq2=>?_
     subst zq2
     have kI:aD [] G3 (upd G' I ⟨(9,0),.lit r.eK (k+1)⟩):=hk.new hIn
     have H5:=H3.keep kI
     have hI5:upd G' I ⟨(9,0),.lit r.eK (k+1)⟩ I=some ⟨(9,0),.lit r.eK (k+1)⟩:=aI _ _ _
     have hm5:=kI _ _ hR3.fr rfl
     have hl5:upd G' I ⟨(9,0),.lit r.eK (k+1)⟩ ll=some ⟨(9,3),.list lv⟩:=b9 hl hI' (b6 rfl)
     generalize upd G' I ⟨(9,0),.lit r.eK (k+1)⟩=G5 at *
     have zm:=Z.fr f i r k hr
     refine jT (iQ oo rfl (gG X oo aJ ?_))
     refine cutf H5 (hgf x (cE hx)) fun l2 vs2 G6 hl2 hI2 k6=>?_
     have hl6:=k6 _ _ hl5 rfl
     refine nQ X oo aJ hsc (9,5) rfl rfl ?_
     refine fV.pure X (outV (aO rows f x)) id hl6 (by have:=hlI.len; exact aG (b5 this) (aG zm (ble rfl))) ?_ ?_ ?_
     ·intro c' v G' hA hg hv k
      obtain ⟨q,hq⟩:=nW.mp hv
      refine cN (hlI.nat hq) fun j tj zz zq1=>?_
      subst zq1
      refine pC (k _ _ hl2 rfl) hI2 ?_
      exact ⟨rfl,rfl,aD.refl _ _⟩
     ·intro c' v G' hA hg hv _ k
      exact ⟨rfl,aD.refl _ _,rfl⟩
     intro E G10 hE k10 hE'
     rw [vH] at hE'
     have heI:=hlI.AF (aO rows f x)
     refine xW (9,3) (k10 _ _ hl2 rfl) hE' (by have h1:=hI2.len; have h2:=hlI.len; have h3:=nU (outV (aO rows f x)) lv; have:=zl x; exact acH zm h1 h2 h3 this) fun l11 G11 ka g11=>?_
     have k511:aD [] G5 G11:=(k6.trans k10).trans ka
     refine hJ _ _ (.mk l11 _ _ _ (kI.trans k511) g11 ?_) (k511 _ _ hI5 rfl) (k511 _ _ hm5 rfl)
     refine sb (WS hx) ?_
     exact hI2.l8 heI
    ·rintro I m G' hIn ⟨ll,lv,o1,o2,hk,hl,hlI⟩ hI' hl'
     rw [hR3.kH.len,nX,←hln] at hlI
     have kE2:aD [] G3 (era G' I):=hk.era hIn
     have hlE:era G' I ll=some ⟨(9,3),.list lv⟩:=kF hl (fun e=>by rw [e,hI'] at hl; simp at hl)
     have kAll:=((k1.trans k2).trans kE).trans kE2
     exact hQ ll lv _ hlE hlI kAll
  rcases hR.s9 with ⟨h1,h2⟩ | ⟨p,tp,h1,h2⟩
  ·refine ⟨fun zz=>iO (v:=.none) hR.dict (by refine aY h2 ?_; rfl) ?_⟩
   refine fP (9,3) (by simp) fun lb Gl kl hlb gl=>?_
   exact stage lb [] _ kl gl (by refine sb h1 ?_; trivial)
  ·refine ⟨fun zz=>iO (v:=.int (p:Int) tp) hR.dict (by refine aY h2 ?_; rfl) ?_⟩
   refine ⟨fun zz=>iO (v:=.int (p:Int) tp) hR.dict (by refine aY h2 ?_; rfl) ?_⟩
   refine cutf H (hgp p h1) fun lb bv G6 hlb hbI k6=>?_
   exact stage lb bv _ k6 hlb (by exact sb h1 hbI)
end
section
variable {B:Bn} {c:Cx} {R:Addr→aA→Gh→Prop} {m:aA} {G:Gh}
theorem yC {a b:Addr} {t u:Tag} {xs ys:List Value} {ns ms:List Int} {d n:Nat} {Q:Value→aA→Gh→Prop} (hG:G a=some ⟨t,.list xs⟩) (hb:G b=some ⟨u,.list ys⟩) (hx:aX xs ns) (hy:aX ys ms) (hu:bD c d n) (hn:f9 64 n=true) (h:Q (.bool (!decide (ns=ms))) m G):V B c R (compareOp .NotEq (.ref a) (.ref b)) m G Q :=
 ⟨fun ok s S=>aeR S hG hb hx hy (by have:=hu.2; have:=fT hn; omega) ⟨_,_,S,h⟩⟩
end
theorem aX.agI {vs:List Value} {l:List Nat} (h:aX vs (nats l)):l≠[]→∃ vs' l' x t,vs=vs'++[.int ((x:Nat):Int) t]∧l=l'++[x]∧aX vs' (nats l') :=
 h.wH (M:=fun vs l=>l≠[]→∃ vs' l' x t,vs=vs'++[.int ((x:Nat):Int) t]∧l=l'++[x]∧aX vs' (nats l')) (fun h=>(h rfl).elim) fun t i vs l h ih zz=>by
  induction l using List.casesOn with
  | nil =>
   have e:vs=[]:=List.length_eq_zero_iff.mp h.length
   exact sb e (⟨[],[],i,t,rfl,rfl,trivial⟩)
  | cons j l =>
   refine EK (ih (List.cons_ne_nil _ _)) fun vs' l' x u h1 h2 h3=>?_
   exact ⟨.int (i:Int) t::vs',i::l',x,u,by refine sb h1 ?_; rfl,by refine sb h2 ?_; rfl,⟨t,rfl⟩,h3⟩
inductive fB (rows:List Row) (sm:List Nat):Nat→Prop
 | base {x:Nat} (h:x∈sm):fB rows sm x
 | step {y x:Nat} {r:Row} (h:fB rows sm y) (hr:rows[y]?=some r) (hx:x∈r.mix++r.fr):fB rows sm x
noncomputable def rD (rows:List Row) (i:Nat):Nat:=match rows[i]? with
 | some r=>1+(r.mix++r.fr).length
 | none=>1
noncomputable def qD (rows:List Row) (f:List Nat):Nat:=(((lL rows.length).filter fun i=>!f.contains i).map (rD rows)).sum
theorem LZ {g:Nat→Nat} {k:List Nat} {a:Nat}:∀ {dom:List Nat},dom.Nodup→a∈dom→a∉k→((dom.filter fun i=>!(k++[a]).contains i).map g).sum+g a=((dom.filter fun i=>!k.contains i).map g).sum
 | [],_,h,_=>by cases h
 | b::r,hd,ha,hk=>by
  rw [iH] at hd
  rcases cU.mp ha with rfl | ha
  ·have e1:(a::r).filter (fun x=>!(k++[a]).contains x)=r.filter fun x=>!k.contains x:=by
    refine sb (jE (by simp)) ?_
    refine mT fun x hx=>?_
    have:x≠a:=fun e=>hd.1 (e▸hx)
    simp [this]
   have e2:(a::r).filter (fun x=>!k.contains x)=a::r.filter fun x=>!k.contains x:=gW (by simp [hk])
   exact sb e1 (sb e2 (sb cK (sb kT (F8 _ _))))
  ·have hne:b≠a:=fun e=>hd.1 (e▸ha)
   have ih:=LZ (g:=g) hd.2 ha hk
   by_cases hb:b∈k
   ·exact sb (jE (by simp [hb])) (sb (jE (by simp [hb])) ih)
   ·exact sb (gW (by simp [hb,hne])) (sb (gW (by simp [hb])) (sb cK (sb cK (sb kT (sb kT (lM (bQ (b5 ih) (by simp +arith only)) (bQ (b5 ih.symm) (by simp +arith only))))))))
theorem afM {rows:List Row} {k:List Nat} {x:Nat} {r:Row} (hr:rows[x]?=some r) (hk:x∉k):qD rows (k++[x])+(1+(r.mix++r.fr).length)=qD rows k:=by
 have h:=LZ (g:=rD rows) (k:=k) (a:=x) (List.nodup_range (n:=rows.length)) (vK.mpr (cO.mp hr).1) hk
 have:rD rows x=1+(r.mix++r.fr).length:=by (rewrite [rD]; exact sb hr rfl)
 rw [this] at h; exact h
noncomputable def zE (rows:List Row):Prop:=∀ r∈rows,∀ x∈r.mix++r.fr,x<rows.length
structure n8 (rows:List Row) (sm f w:List Nat) (n:Nat):Prop where
 le:w.length+qD rows f≤n
 small:f.length+n≤100000
 fr:∀ x∈f,fB rows sm x
 wr:∀ x∈w,fB rows sm x∧x<rows.length
 base:∀ x∈sm,x∈f∨x∈w
 step:∀ y∈f,∀ r,rows[y]?=some r→∀ x∈r.mix++r.fr,x∈f∨x∈w
theorem n8.done {rows:List Row} {sm f:List Nat} {n:Nat} (h:n8 rows sm f [] n) (x:Nat):x∈f↔fB rows sm x:=by
 refine ⟨h.fr x,fun q=>?_⟩
 induction q with
 | base h1=>rcases h.base _ h1 with h | h; exact h; cases h
 | step _ hr hx ih=>rcases h.step _ ih _ hr _ hx with h | h; exact h; cases h
theorem n8.old {rows:List Row} {sm f w:List Nat} {x n:Nat} (h:n8 rows sm f (w++[x]) (n+1)) (hx:x∈f):n8 rows sm f w n:=by
 refine ⟨?_,?_,h.fr,fun y hy=>h.wr y (dD _ hy),?_,?_⟩
 ·have:=h.le; simp at this; exact bQ this (by simp +arith only)
 ·have:=h.small; exact (cZ this)
 ·intro y hy
  rcases h.base y hy with h | h
  ·exact .inl h
  ·rcases bW.mp h with h | h
   ·exact .inr h
   ·exact sb (cG.mp h) (.inl hx)
 ·intro y hy r hr z hz
  rcases h.step y hy r hr z hz with h | h
  ·exact .inl h
  ·rcases bW.mp h with h | h
   ·exact .inr h
   ·exact sb (cG.mp h) (.inl hx)
theorem n8.new {rows:List Row} (C:zE rows) {sm f w:List Nat} {x n:Nat} {r:Row} (h:n8 rows sm f (w++[x]) (n+1)) (hx:x∉f) (hr:rows[x]?=some r):n8 rows sm (f++[x]) (w++(r.mix++r.fr)) n:=by
 have hq:=(h.wr x (by exact cW _ c8)).1
 refine ⟨?_,?_,?_,?_,?_,?_⟩
 ·have:=h.le; have:=afM hr hx; simp at *; exact dQ (by assumption) (b5 this) (by simp +arith only)
 ·have:=h.small; simp; exact acN this
 ·intro y hy
  rcases bW.mp hy with hy | hy
  ·exact h.fr y hy
  ·exact sb (cG.mp hy) hq
 ·intro y hy
  rcases bW.mp hy with hy | hy
  ·exact h.wr y (dD _ hy)
  ·exact ⟨.step hq hr hy,C r (cE hr) y hy⟩
 ·intro y hy
  rcases h.base y hy with h | h
  ·exact .inl (dD _ h)
  ·rcases bW.mp h with h | h
   ·exact .inr (dD _ h)
   ·exact sb (cG.mp h) (.inl (by exact cW _ c8))
 ·intro y hy r' hr' z hz
  rcases bW.mp hy with hy | hy
  ·rcases h.step y hy r' hr' z hz with h | h
   ·exact .inl (dD _ h)
   ·rcases bW.mp h with h | h
    ·exact .inr (dD _ h)
    ·exact sb (cG.mp h) (.inl (by exact cW _ c8))
  ·rw [cG.mp hy,hr] at hr'
   obtain rfl:=bO hr'
   exact .inr (cW _ hz)
section
variable {B:Bn}
inductive GG (G:Gh) (rows:List Row) (aR aS lf lw:Addr) (sm:List Nat):Nat→aA→Gh→Prop
 | mk {n:Nat} {G':Gh} (o:Option Value) (f w:List Nat) (fv wv:List Value) (kp:aD [] G G') (hf:G' lf=some ⟨(9,3),.list fv⟩) (hw:G' lw=some ⟨(9,4),.list wv⟩) (If:aX fv (nats f)) (Iw:aX wv (nats w)) (J:n8 rows sm f w n) :
   GG G rows aR aS lf lw sm n (O5 (some (.ref aR)) (some (.ref aS)) (some (.ref lf)) (some (.ref lw)) o) G'
theorem wO (X:Txt B.w B.K) {G:Gh} {aR aS:Addr} {rows:List Row} (H:RI G aR rows) (C:zE rows) {ts:Tag} {sv:List Value} {sm:List Nat} (hS:G aS=some ⟨ts,.list sv⟩) (hI:aX sv (nats sm)) (hlt:∀ x∈sm,x<rows.length) (hz:sm.length+qD rows []≤100000) {Q:Value→Gh→Prop} (hQ:∀ l vs f G',G' l=some ⟨(9,3),.list vs⟩→aX vs (nats f)→(∀ x,x∈f↔fB rows sm x)→aD [] G G'→Q (.ref l) G') :
  Call B (.ref 800) [.ref aR,.ref aS] G 1 80 Q:=by
 refine TQ X fun c oo hsc aJ hb=>?_
 refine iZ X oo aJ hsc ["found","waiting"] (by kernel_rfl!) (by kernel_rfl!) ?_
 refine eS (9,3) (by simp) fun lf hlf=>?_
 refine N9 (9,4) (bG hS hlf) fun lw hlw=>?_
 refine iE (9,1) (by exact bY _ _) fun t1 ht1=>?_
 refine gQ.mk (aI _ _ _) rfl rfl ?_
 have k1:aD [] G (upd (upd (upd G lf ⟨(9,3),.list []⟩) lw ⟨(9,4),.list sv⟩) t1 ⟨(9,1),.tup [.ref lf,.ref lw]⟩):=(((aD.refl _ _).fresh hlf).fresh hlw).fresh ht1
 have glf:upd (upd (upd G lf ⟨(9,3),.list []⟩) lw ⟨(9,4),.list sv⟩) t1 ⟨(9,1),.tup [.ref lf,.ref lw]⟩ lf=some ⟨(9,3),.list []⟩:=bG (bG (aI _ _ _) hlw) ht1
 have glw:upd (upd (upd G lf ⟨(9,3),.list []⟩) lw ⟨(9,4),.list sv⟩) t1 ⟨(9,1),.tup [.ref lf,.ref lw]⟩ lw=some ⟨(9,4),.list sv⟩:=bG (aI _ _ _) ht1
 have nlf:G lf=none:=hlf
 have nlw:G lw=none:=((aD.refl [] G).fresh hlf).none hlw fun zz zz=>rfl
 generalize upd (upd (upd G lf ⟨(9,3),.list []⟩) lw ⟨(9,4),.list sv⟩) t1 ⟨(9,1),.tup [.ref lf,.ref lw]⟩=G1 at *
 refine sN (GG G rows aR aS lf lw sm) (sm.length+qD rows []) ?_ ?_
 ·exact .mk none [] sm [] sv k1 glf glw trivial hI ⟨by exact bZ _,by simpa using hz,by exact sZ _,fun x hx=>⟨.base hx,hlt x hx⟩,fun x hx=>.inr hx,by exact sZ _⟩
 ·rintro J' hJ n m G' ⟨o,f,w,fv,wv,hk,hf,hw,If,Iw,WJ⟩
  refine qL X aJ ?_
  refine fP (9,5) (by simp) fun l0 G2 kl0 hl0 h02=>?_
  have k2:aD [] G G2:=hk.trans kl0.mono
  have hf2:G2 lf=_:=kl0 _ _ hf rfl
  have hw2:G2 lw=_:=kl0 _ _ hw rfl
  refine yC hw2 h02 Iw (ms:=[]) trivial hb rfl ?_
  refine IJ (fun hne=>?_) (fun hne=>?_)
  ·have hw0:w≠[]:=by rintro rfl; simp [nats] at hne
   refine EK (Iw.agI hw0) fun wv' w' x tx zq1 zq2 Iw'=>?_
   subst zq1
   subst zq2
   obtain _ | n:=n
   ·have:=WJ.le; simp at this
   refine gG X oo aJ ?_
   refine NI hw2 ?_
   refine NP rfl hw2 ?_
   have k3:aD [] G (upd G2 lw ⟨(9,4),.list wv'⟩):=k2.new nlw
   have hw3:upd G2 lw ⟨(9,4),.list wv'⟩ lw=_:=aI _ _ _
   have hf3:upd G2 lw ⟨(9,4),.list wv'⟩ lf=_:=b9 hf2 hw2 (b6 rfl)
   generalize upd G2 lw ⟨(9,4),.list wv'⟩=G3 at *
   refine pC hf3 If ?_
   refine sb (oV _ _) ?_
   refine cV (fun hx=>?_) (fun hx=>?_)
   ·have hxf:x∉f:=by simpa using hx
    have hxl:=(WJ.wr x (by exact cW _ c8)).2
    obtain ⟨r,hr⟩:∃ r,rows[x]?=some r:=⟨_,lK hxl⟩
    have N:=WJ.new C hxf hr
    have z1:=N.small
    have z2:=N.le
    have hlf:=If.len
    have hlw:=Iw'.len
    rw [fR,pG] at z1
    rw [fR,fR] at z2
    refine iP hf3 ?_
    refine iD hf3 (by exact acM z1 hlf) ?_
    have k4:aD [] G (upd G3 lf ⟨(9,3),.list (fv++[.int (x:Int) tx])⟩):=k3.new nlf
    have hf4:upd G3 lf ⟨(9,3),.list (fv++[.int (x:Int) tx])⟩ lf=_:=aI _ _ _
    have hw4:upd G3 lf ⟨(9,3),.list (fv++[.int (x:Int) tx])⟩ lw=_:=b9 hw3 hf3 (b6 rfl)
    generalize upd G3 lf ⟨(9,3),.list (fv++[.int (x:Int) tx])⟩=G4 at *
    have H4:=H.keep k4
    have hR:=H4.at_ r (cE hr)
    refine DX hw4 ?_
    refine dF H4 (d9 _) hr rfl rfl rfl ?_
    refine dF H4 (d9 _) hr rfl rfl rfl ?_
    have l1:=hR.mD.len
    have l2:=hR.kH.len
    refine pA (9,6) hR.mix hR.fr (by have:=hR.small; exact acL z1 z2 l1 l2) fun l5 hl5=>?_
    have k5:aD [] G (upd G4 l5 ⟨(9,6),.list (r.iB++r.iA)⟩):=k4.fresh hl5
    have hf5:upd G4 l5 ⟨(9,6),.list (r.iB++r.iA)⟩ lf=_:=bG hf4 hl5
    have hw5:upd G4 l5 ⟨(9,6),.list (r.iB++r.iA)⟩ lw=_:=bG hw4 hl5
    have h55:=aI G4 l5 ⟨(9,6),.list (r.iB++r.iA)⟩
    generalize upd G4 l5 ⟨(9,6),.list (r.iB++r.iA)⟩=G5 at *
    refine DT hw5 h55 (by exact sb fR (acK z1 z2 hlw l1 l2)) ?_
    refine hJ n _ _ _ (lN n) (.mk _ (f++[x]) _ _ _ (k5.new nlw) (b9 hf5 hw5 (b6 rfl)) (aI _ _ _) (If.l8 (aX.one x tx)) (Iw'.l8 (hR.mD.l8 hR.kH)) N)
   ·have hxf:x∈f:=by simpa using hx
    exact hJ n _ _ _ (lN n) (.mk _ f w' fv wv' k3 hf3 hw3 If Iw' (WJ.old hxf))
  ·have hw0:w=[]:=by
    induction w using List.casesOn with
    | nil=>rfl
    | cons=>simp [nats] at hne
   subst hw0
   exact hQ lf fv f _ hf2 If WJ.done k2
end
section
variable {B:Bn}
noncomputable def outI (j:Int):Value→Bool
 | .int i _=>i != j
 | _=>true
theorem aX.UD (j:Nat) {vs:List Value} {l:List Nat} (h:aX vs (nats l)):aX (vs.filter (outI j)) (nats (l.filter fun k=>!decide (k=j))) :=
 h.wH (M:=fun vs l=>aX (vs.filter (outI j)) (nats (l.filter fun k=>!decide (k=j)))) trivial fun t i vs l zz ih=>by
  have ho:outI j (.int (i:Int) t)=!decide (i=j):=by
   show ((i:Int) != (j:Int))=_
   (rewrite [nR]; rewrite [bne_iff_ne]; refine sb (lJ _) ?_; rw [decide_eq_false_iff_not])
   exact ⟨fun h e=>h (congrArg _ e),fun h e=>h (vE e)⟩
  refine sb qP (sb qP (sb ho ?_))
  by_cases q:(!decide (i=j))=true
  ·exact sb (if_pos q) (sb (if_pos q) (⟨⟨t,rfl⟩,ih⟩))
  ·exact sb (if_neg q) (sb (if_neg q) ih)
noncomputable def wD (ln:Nat→List Nat):List Nat→List Nat
 | []=>[]
 | i::_=>ln i
noncomputable def qF (ln:Nat→List Nat) (nest:List Nat):List Nat:=(nest.filter fun k=>!decide (k=2))++wD ln nest++[2]
theorem Z4 (X:Txt B.w B.K) {G:Gh} {aR aN:Addr} {rows:List Row} (H:RI G aR rows) (Z:n6 rows) {f:Nat} (hf:f≤50) {tn:Tag} (htn:tn≠(9,0)) {nv:List Value} {nest:List Nat} (hN:G aN=some ⟨tn,.list nv⟩) (hI:aX nv (nats nest)) (hz:nest.length≤1000) (hg:∀ i r,nest=i::r→cM rows f i)
  (hlt:∀ x∈qF (aO rows f) nest,x<rows.length) {n:Str} {t:Tok} {Q:Value→Gh→Prop} (hQ:∀ r G',lO G' r (iL rows n (qF (aO rows f) nest))→aD [] G G'→Q r G') :
  Call B (.ref 826) [.ref aR,.ref aN,.str n t] G 60 200 Q:=by
 refine TM X fun c oo hsc aJ hb=>?_
 have goL:∀ {G1:Gh} {sp:Addr} {spv:List Value} {lv:List Value} {ll:Addr} {t2:Tag},aD [] G G1→G1 sp=some ⟨(9,6),.list spv⟩→aX spv (nats (nest.filter fun k=>!decide (k=2)))→G1 ll=some ⟨t2,.list lv⟩→aX lv (nats (wD (aO rows f) nest))→ws B c bJ wB 58 ((bodyOf (topS 66)).drop 2) (bA Q) (O7 (some (.ref aR)) (some (.ref aN)) (some (.str n t)) (some (.ref sp)) (some (.ref ll))) G1:=by
  intro G1 sp spv lv ll t2 k1 hsp hsI hll hlI
  have z1:=hsI.len
  have z2:=hlI.len
  have z3:=nU (fun k=>!decide (k=2)) nest
  have z4:(wD (aO rows f) nest).length≤1000:=by
   induction nest using List.casesOn with
   | nil=>simp [wD]
   | cons i r=>exact Z.all f i
  refine pA (9,7) hsp hll (by exact acP hz z1 z2 z3 z4) fun l1 hl1=>?_
  intro t3
  refine eS (9,4) (by exact iR _) fun l2 hl2=>?_
  refine pA (9,8) (bG (aI _ _ _) hl2) (aI _ _ _) (by exact sb fR (sb pG (acO hz z1 z2 z3 z4))) fun l3 hl3=>?_
  have k4:=((k1.fresh (x:=⟨(9,7),.list (spv++lv)⟩) hl1).fresh (x:=⟨(9,4),.list [.int 2 t3]⟩) hl2).fresh (x:=⟨(9,8),.list (spv++lv++[.int 2 t3])⟩) hl3
  refine aQ hb (J3 X (H.keep k4) (ts:=(9,8)) (by simp) (sp:=qF (aO rows f) nest) (aI _ _ _) ((hsI.l8 hlI).l8 (aX.one 2 t3)) hlt fun r G5 h1 h2=>?_)
  exact hQ _ _ h1 (k4.trans h2)
 refine EF X oo aJ hsc (9,6) rfl rfl rfl (by kernel_rfl!) ?_
 refine fV.pure X (outI 2) id hN (by have:=hI.len; exact aG (b5 this) (aG hz (ble rfl))) ?_ ?_ ?_
 ·intro c' v G' hA hg hv k
  obtain ⟨q,hq⟩:=nW.mp hv
  refine cN (hI.nat hq) fun j tj zz zq1=>?_
  subst zq1
  exact ⟨rfl,rfl,aD.refl _ _⟩
 ·intro c' v G' hA hg hv _ k
  exact ⟨rfl,aD.refl _ _,rfl⟩
 intro sp G1 hsp k1 hsp1
 rw [vH] at hsp1
 have hsI:=hI.UD 2
 refine fP (9,4) (by simp) fun l0 G2 kl0 hl0 h02=>?_
 have k2:aD [] G G2:=k1.trans kl0.mono
 have hN2:=k2 _ _ hN rfl
 have hsp2:G2 sp=_:=kl0 _ _ hsp1 rfl
 refine yC hN2 h02 hI (ms:=[]) trivial hb rfl ?_
 induction nest using List.casesOn with
 | nil =>
  refine eS (9,3) (by simp) fun l1 hl1=>?_
  exact goL (k2.fresh hl1) (bG hsp2 hl1) hsI (aI _ _ _) trivial
 | cons i r =>
  induction nv using List.casesOn with
  | nil=>exact hI.elim
  | cons v vs =>
   obtain ⟨⟨ti,rfl⟩,hI'⟩:=hI
   have e0:(!decide (nats (i::r)=[]))=true:=by exact rfl
   refine sb e0 ?_
   refine ⟨fun zz=>cX hN2 (by decide) rfl ?_⟩
   refine aQ hb (CF X Z f G2 i ti (H.keep k2) (hg i r rfl) fun ll vs2 G3 hll hlI k3=>?_) ?_ ?_
   ·exact goL (k2.trans k3) (k3 _ _ hsp2 rfl) hsI hll hlI
   ·refine sb pH ?_; omega
   ·refine sb pH ?_; omega
noncomputable def sF (l:List Nat):List Nat:=l.takeWhile fun k=>!decide (k=2)
noncomputable def jL (ln:Nat→List Nat) (i:Nat):List Nat:=if i=2 then ln i else sF (ln i)
theorem MV:∀ {l:List Nat},l.take (l.idxOf 2)=sF l
 | []=>rfl
 | x::r=>by
  unfold sF
  by_cases h:x=2
  ·subst h; refine sb yV (sb (tE (by simp)) ?_); rfl
  ·have e:(x::r).idxOf 2=r.idxOf 2+1:=by refine sb tD (sb (beq_eq_false_iff_ne.mpr h) ?_); rfl
   refine sb e (sb List.take_succ_cons (sb (qU (by simpa using h)) (sb MV ?_))); rfl
theorem MS:∀ {l:List Nat},2∉l→sF l=l
 | [],_=>rfl
 | x::r,h=>by
  have h1:x≠2:=fun e=>h (by simp [e])
  unfold sF
  refine sb (qU (by simpa using h1)) ?_
  exact congrArg _ (MS fun q=>h (cL _ q))
theorem I8:∀ {l:List Nat},(nats l).idxOf ((2:Nat):Int)=l.idxOf 2
 | []=>rfl
 | x::r=>by
  unfold nats
  refine sb cK (sb tD (sb tD ?_))
  have ih:=I8 (l:=r)
  unfold nats at ih
  refine sb ih ?_
  by_cases h:x=2
  ·subst h; rfl
  ·have h2:¬(x:Int)=((2:Nat):Int):=fun e=>h (vE e)
   exact sb (beq_eq_false_iff_ne.mpr h) (sb (beq_eq_false_iff_ne.mpr h2) ((by rfl)))
theorem YV (X:Txt B.w B.K) {G:Gh} {aR:Addr} {rows:List Row} (H:RI G aR rows) (Z:n6 rows) {f:Nat} (hf:f≤50) {i:Nat} {ti:Tok} (hg:cM rows f i) (hlt:∀ x∈jL (aO rows f) i,x<rows.length) {n:Str} {t:Tok} {Q:Value→Gh→Prop} (hQ:∀ r G',lO G' r (iL rows n (jL (aO rows f) i))→aD [] G G'→Q r G') :
  Call B (.ref 833) [.ref aR,.int (i:Int) ti,.str n t] G 60 200 Q:=by
 refine T8 X fun c oo hsc aJ hb=>?_
 refine aQ hb (CF X Z f G i ti H hg fun ll vs G1 hll hlI k1=>?_) ?_ ?_
 ·have zl:=Z.all f i
  have zv:=hlI.len
  have fin:∀ {l:Addr} {t2:Tag} {us:List Value} {G2:Gh},t2≠(9,0)→G2 l=some ⟨t2,.list us⟩→aX us (nats (jL (aO rows f) i))→aD [] G G2→V B c bJ (call (.ref 821) [.ref aR,.ref l,.str n t]) (O8 (some (.ref aR)) (some (.int (i:Int) ti)) (some (.str n t)) (some (.ref ll))) G2 fun v zz G=>Q v G:=by
   intro l t2 us G2 h2 hl hI k2
   refine aQ hb (J3 X (H.keep k2) h2 (sp:=jL (aO rows f) i) hl hI hlt fun r G5 h1 h2=>?_)
   exact hQ _ _ h1 (k2.trans h2)
  refine cV (fun h=>?_) (fun h=>?_)
  ·have hi2:i≠2:=by rintro rfl; simp at h
   intro t2
   refine DV hll hlI ?_
   have e2:(nats (aO rows f i)).contains (2:Int)=(aO rows f i).contains 2:=oV _ 2
   refine sb e2 ?_
   refine cV (fun h=>?_) (fun h=>?_)
   ·have hm:2∈aO rows f i:=by simpa using h
    refine NU (9,7) X aJ ?_
    refine NH hll ?_
    intro t3
    refine ND hll hlI (cP.mpr ⟨2,hm,rfl⟩) fun u=>?_
    refine ⟨ll,_,vs,_,u,rfl,hll,rfl,fun l9 hl9=>?_⟩
    have e3:(nats (aO rows f i)).idxOf (2:Int)=(aO rows f i).idxOf 2:=I8
    refine sb e3 ?_
    refine fin (t2:=(9,7)) (by simp) (aI _ _ _) ?_ (k1.fresh hl9)
    have h5:=hlI.take ((aO rows f i).idxOf 2)
    rw [MV] at h5
    unfold jL; exact sb (if_neg hi2) h5
   ·have hm:2∉aO rows f i:=by simpa using h
    refine fin (t2:=(9,3)) (by simp) hll ?_ k1
    unfold jL; exact sb (if_neg hi2) (sb (MS hm) hlI)
  ·have hi2:i=2:=by
    have:(i:Int)=2:=by simpa using h
    exact vE this
   refine fin (t2:=(9,3)) (by simp) hll ?_ k1
   unfold jL; exact sb (if_pos hi2) hlI
 ·refine sb pH ?_; omega
 ·refine sb pH ?_; omega
end
noncomputable def cat (f s:List Nat):List Nat:=f++s.filter fun k=>!f.contains k
theorem dO {f s:List Nat} {x:Nat}:x∈cat f s↔x∈f∨x∈s:=by
 unfold cat
 rw [bW,eZ]
 constructor
 ·rintro (h | h); exact .inl h; exact .inr h.1
 ·rintro (h | h)
  ·exact .inl h
  ·by_cases q:x∈f
   ·exact .inl q
   ·exact .inr ⟨h,by simpa using q⟩
theorem zW {f:List Nat}:cat f []=f:=by exact jW _
theorem wZ {s:List Nat}:cat [] s=s:=by simp [cat]
theorem iX {k:Nat} {l:List Nat}:(!l.contains k)=true↔k∉l:=by (refine sb (lJ _) (aY (Bool.not_eq_true _) ?_); rw [mS])
theorem jP {x:Nat} {l bs:List Nat}:x∈l.filter (fun k=>!bs.contains k)↔x∈l∧x∉bs:=by rw [eZ,iX]
theorem RG {f s:List Nat} {k:Nat}:(!(cat f s).contains k)=(!s.contains k&&!f.contains k):=by
 (rewrite [nR]; refine sb (jD _ _) ?_; rewrite [iX]; rewrite [iX]; rewrite [iX]; rw [dO])
 exact ⟨fun h=>⟨fun q=>h (.inr q),fun q=>h (.inl q)⟩,fun h q=>q.elim h.2 h.1⟩
theorem rB {f s t:List Nat}:cat (cat f s) t=cat f (cat s t):=by
 have h:(fun k=>!(cat f s).contains k)=fun k=>!f.contains k&&!s.contains k:=by
  funext k; exact sb RG (sb (Bool.and_comm _ _) rfl)
 show cat f s++t.filter (fun k=>!(cat f s).contains k)=f++(s++t.filter fun k=>!s.contains k).filter fun k=>!f.contains k
 refine sb h (sb (qO _ _) (sb vG ?_))
 unfold cat
 exact sb (sX _ _ _) rfl
theorem QO {f s:List Nat} (h:∀ x∈s,x∈f):cat f s=f:=by
 unfold cat
 exact sb (List.filter_eq_nil_iff.mpr (fun x hx=>by simpa using h x hx)) (sb (jW _) rfl)
theorem tU {f s:List Nat} (h:∀ x∈s,x∉f):cat f s=f++s:=by
 unfold cat
 exact sb (sY.mpr (fun x hx=>by simpa using h x hx)) rfl
theorem xA {f s:List Nat} (hf:f.Nodup) (hs:s.Nodup):(cat f s).Nodup:=by
 unfold cat
 rw [mU]
 refine ⟨hf,hs.filter _,fun a ha b hb e=>?_⟩
 rw [eZ] at hb
 subst e
 simp [ha] at hb
theorem UG {f s:List Nat} (p:Nat→Bool):(cat f s).filter p=cat (f.filter p) (s.filter p):=by
 unfold cat
 refine sb (qO _ _) (sb vG (sb vG ?_))
 congr 1
 refine mT fun x zz=>?_
 by_cases h:p x
 ·simp [h]
 ·simp [h]
theorem ZN {g:Nat→Nat} {f s:List Nat} (hg:∀ x∈f,∀ y∈s,g x=g y→x=y):(cat f s).map g=cat (f.map g) (s.map g):=by
 unfold cat
 refine sb dR (sb yT ?_)
 congr 2
 refine mT fun x hx=>?_
 rw [nR]
 refine iX.trans (Iff.trans ?_ iX.symm)
 exact ⟨fun h q=>aV (cP.mp q) fun y hy e=>h (hg y hy x hx e▸hy),fun h hx'=>h (kR hx')⟩
noncomputable def bV:List (List Nat)→List Nat
 | []=>[]
 | l::ls=>cat l (bV ls)
theorem oR {x:Nat}:∀ {ls:List (List Nat)},x∈bV ls↔∃ l∈ls,x∈l
 | []=>by simp [bV]
 | l::ls=>by rw [bV,dO,oR]; simp
theorem zV:∀ {l r:List (List Nat)},bV (l++r)=cat (bV l) (bV r)
 | [],_=>by (refine sb (z0 _) ?_; rewrite [bV]; exact sb wZ rfl)
 | a::l,r=>by (refine sb mR ?_; rewrite [bV]; rewrite [bV]; exact sb zV (sb rB rfl))
theorem xB:∀ {ls:List (List Nat)},(∀ l∈ls,l.Nodup)→(bV ls).Nodup
 | [],_=>by simp [bV]
 | l::ls,h=>xA (h l c8) (xB fun x hx=>h x (cL _ hx))
theorem HV (p:Nat→Bool):∀ {ls:List (List Nat)},(bV ls).filter p=bV (ls.map fun l=>l.filter p)
 | []=>rfl
 | l::ls=>by (rewrite [bV]; refine sb (UG _) (sb (HV p) (sb cK ?_)); rw [bV])
theorem JG {g:Nat→Nat}:∀ {ls:List (List Nat)},(∀ l∈ls,∀ x∈l,∀ l'∈ls,∀ y∈l',g x=g y→x=y)→(bV ls).map g=bV (ls.map fun l=>l.map g)
 | [],_=>rfl
 | l::ls,h=>by
  rw [bV,ZN,JG fun a ha x hx b hb y hy=>h a (cL _ ha) x hx b (cL _ hb) y hy,cK,bV]
  intro x hx y hy
  refine aV (oR.mp hy) fun l' h1 h2=>?_
  exact h l c8 x hx l' (cL _ h1) y h2
section
variable (mx ah:Nat→List Nat)
noncomputable def iY:Nat→Nat→List Nat
 | 0,_=>[]
 | f+1,a=>cat (bV ((ah a).reverse.map (iY f))) (cat [a] (bV ((mx a).reverse.map (iY f))))
noncomputable def fH:Nat→Nat→Prop
 | 0,_=>False
 | f+1,a=>(∀ c∈mx a,fH f c)∧∀ c∈ah a,fH f c
variable {mx ah}
theorem ad7 {f a:Nat}:iY mx ah (f+1) a=cat (bV ((ah a).reverse.map (iY mx ah f))) (cat [a] (bV ((mx a).reverse.map (iY mx ah f)))):=rfl
theorem fH.up:∀ {f a:Nat},fH mx ah f a→fH mx ah (f+1) a
 | 0,_,h=>h.elim
 | _+1,_,⟨h1,h2⟩=>⟨fun c hc=>(h1 c hc).up,fun c hc=>(h2 c hc).up⟩
theorem m9 {f a x:Nat}:x∈iY mx ah (f+1) a↔x=a∨∃ c,c∈mx a++ah a∧x∈iY mx ah f c:=by
 (refine sb ad7 ?_; rewrite [dO]; rewrite [dO]; rewrite [oR]; rw [oR])
 simp only [cG,cP,F2,bW]
 constructor
 ·rintro (⟨_,⟨c,hc,rfl⟩,h⟩ | h | ⟨_,⟨c,hc,rfl⟩,h⟩)
  ·exact .inr ⟨c,.inr hc,h⟩
  ·exact .inl h
  ·exact .inr ⟨c,.inl hc,h⟩
 ·rintro (h | ⟨c,hc | hc,h⟩)
  ·exact .inr (.inl h)
  ·exact .inr (.inr ⟨_,⟨c,hc,rfl⟩,h⟩)
  ·exact .inl ⟨_,⟨c,hc,rfl⟩,h⟩
theorem fH.kid {f a c:Nat} (h:fH mx ah (f+1) a) (hc:c∈mx a++ah a):fH mx ah f c:=by
 rcases bW.mp hc with hc | hc
 ·exact h.1 c hc
 ·exact h.2 c hc
theorem fH.desc:∀ {g c x:Nat},x∈iY mx ah g c→∀ {f:Nat},fH mx ah f c→fH mx ah f x
 | 0,_,_,h,_,_=>absurd h qT
 | g+1,c,x,h,f,hf=>by
  rcases m9.mp h with rfl | ⟨d,hd,hx⟩
  ·exact hf
  ·induction f using Nat.casesOn with
   | zero=>exact hf.elim
   | succ f=>exact (fH.desc hx (hf.kid hd)).up
theorem fH.self:∀ {f a c g:Nat},fH mx ah f a→c∈mx a++ah a→a∉iY mx ah g c
 | 0,_,_,_,h,_,_=>h.elim
 | f+1,a,c,g,h,hc,ha=>(fH.desc ha (h.kid hc)).self hc ha
theorem fH.mem:∀ {f a:Nat},fH mx ah f a→a∈iY mx ah f a
 | 0,_,h=>h.elim
 | _+1,_,_=>m9.mpr (.inl rfl)
theorem fH.closed:∀ {f a x y:Nat},fH mx ah f a→x∈iY mx ah f a→y∈mx x++ah x→y∈iY mx ah f a
 | 0,_,_,_,h,_,_=>h.elim
 | f+1,a,x,y,h,hx,hy=>by
  rcases m9.mp hx with rfl | ⟨c,hc,hx⟩
  ·exact m9.mpr (.inr ⟨y,hy,(h.kid hy).mem⟩)
  ·exact m9.mpr (.inr ⟨c,hc,(h.kid hc).closed hx hy⟩)
theorem JY:∀ {f a:Nat},(iY mx ah f a).Nodup
 | 0,_=>vL
 | f+1,a=>by
  have h:∀ l:List Nat,∀ x∈l.map (iY mx ah f),x.Nodup:=fun l x hx=>by
   refine aV (cP.mp hx) fun c zz zq3=>?_
   subst zq3
   exact JY
  exact xA (xB (h _)) (xA (by simp) (xB (h _)))
end
inductive Runs (md:Addr→Mod):List Ent→List Addr→List Addr→List Addr→Prop
 | nil {k f}:Runs md [] k f f
 | xR {a r k f o}:Runs md r k (f++[a]) o→Runs md ((a,true)::r) k f o
 | old {a r k f o}:a∈k→Runs md r k f o→Runs md ((a,false)::r) k f o
 | new {a r k f o}:a∉k→Runs md (pushed md a r) (a::k) f o→Runs md ((a,false)::r) k f o
theorem Runs.det {md:Addr→Mod} {st:List Ent} {k f o:List Addr} (h:Runs md st k f o):∀ {o'},Runs md st k f o'→o'=o:=by
 induction h with
 | nil=>intro o' h; cases h; rfl
 | xR _ ih=>intro o' h; cases h with | xR h=>exact ih h
 | old hk _ ih=>intro o' h; cases h with
  | old _ h=>exact ih h
  | new hn _=>exact absurd hk hn
 | new hn _ ih=>intro o' h; cases h with
  | old hk _=>exact absurd hk hn
  | new _ h=>exact ih h
set_option tactic.hygienic true in
theorem xN {σ:Wd} (F:WF σ):∀ n st k f,(∀ e∈st,e.1∈σ.dom)→st.length+rest σ.md σ.dom k≤n→Runs σ.md st k f (iC σ.md n st k f)
 | 0,[],_,_,_,_=>.nil
 | 0,_::_,_,_,_,h=>by simp at h
 | _+1,[],_,_,_,_=>.nil
 | n+1,(a,true)::r,k,f,hs,h=>.xR (xN F n r k _ (fun e he=>hs e (cL _ he)) (by simp at h; exact bQ h (by simp +arith only)))
 | n+1,(a,false)::r,k,f,hs,h=>by
  have hr:∀ e∈r,e.1∈σ.dom:=fun e he=>hs e (cL _ he)
  have ha:a∈σ.dom:=hs _ c8
  refine sb uM ?_
  split
  next hk=>exact .old hk (xN F n r k f hr (by simp at h; exact bQ h (by simp +arith only)))
  next hk =>
   refine .new hk (xN F n _ _ f (D9 F ha hr) ?_)
   have h2:=M0 (md:=σ.md) F.nd ha hk
   have hw:wt σ.md a=2+(σ.md a).mixed.length+(σ.md a).ahead.length:=rfl
   simp [pushed] at h ⊢
   exact acW h h2 hw
theorem ad4 {σ:Wd} (F:WF σ) {a:Addr} (ha:a∈σ.dom):Runs σ.md [(a,false)] [] [] (cB σ a) :=
 xN F _ _ _ _ (by simpa using ha) (by exact bZ _)
section
variable {md:Addr→Mod}
noncomputable abbrev oU (md:Addr→Mod) (a:Nat):List Nat:=(md a).mixed
noncomputable abbrev lT (md:Addr→Mod) (a:Nat):List Nat:=(md a).ahead
noncomputable abbrev bT (md:Addr→Mod) (f a:Nat):List Nat:=iY (oU md) (lT md) f a
noncomputable abbrev iS (md:Addr→Mod) (f a:Nat):Prop:=fH (oU md) (lT md) f a
noncomputable def zI (md:Addr→Mod) (k f s:List Nat):Prop:=∀ x∈s,x∈k→x∈f∧∀ c∈(md x).mixed++(md x).ahead,c∈f
theorem DG {g:Nat} (one:∀ a,iS md g a→∀ r k f o,zI md k f (bT md g a)→(∀ x∈f,x∈k)→(∀ k',(∀ x,x∈k'↔x∈k∨x∈bT md g a)→Runs md r k' (cat f (bT md g a)) o)→Runs md ((a,false)::r) k f o) :
  ∀ (l:List Nat),(∀ c∈l,iS md g c)→∀ r k f o,zI md k f (bV (l.map (bT md g)))→(∀ x∈f,x∈k)→(∀ k',(∀ x,x∈k'↔x∈k∨x∈bV (l.map (bT md g)))→Runs md r k' (cat f (bV (l.map (bT md g)))) o) →
   Runs md (l.map (fun x=>(x,false))++r) k f o
 | [],_,r,k,f,o,_,_,h=>by
  have:=h k (fun x=>by simp [bV])
  rwa [yY,bV,zW] at this
 | c::l,hl,r,k,f,o,hA,hfk,h=>by
  refine one c (hl c c8) _ k f o (fun x hx=>hA x ?_) hfk fun k' hk'=>?_
  ·(refine sb cK ?_; rewrite [bV]; rw [dO]); exact .inl hx
  ·refine DG one l (fun d hd=>hl d (cL _ hd)) r k' _ o (fun x hx hxk=>?_) (fun x hx=>?_) fun k2 hk2=>?_
   ·rcases (hk' x).mp hxk with h1 | h1
    ·obtain ⟨h2,h3⟩:=hA x (by (refine sb cK ?_; rewrite [bV]; rw [dO]); exact .inr hx) h1
     exact ⟨dO.mpr (.inl h2),fun y hy=>dO.mpr (.inl (h3 y hy))⟩
    ·exact ⟨dO.mpr (.inr h1),fun y hy=>dO.mpr (.inr ((hl c c8).closed h1 hy))⟩
   ·rcases dO.mp hx with h1 | h1
    ·exact (hk' x).mpr (.inl (hfk x h1))
    ·exact (hk' x).mpr (.inr h1)
   ·have:=h k2 fun x=>by (rewrite [hk2]; rewrite [hk']; refine sb cK ?_; rewrite [bV]; rewrite [dO]; rw [or_assoc])
    rwa [cK,bV,←rB] at this
theorem DH:∀ (g a:Nat),iS md g a→∀ r k f o,zI md k f (bT md g a)→(∀ x∈f,x∈k)→(∀ k',(∀ x,x∈k'↔x∈k∨x∈bT md g a)→Runs md r k' (cat f (bT md g a)) o)→Runs md ((a,false)::r) k f o
 | 0,_,h,_,_,_,_,_,_,_=>h.elim
 | g+1,a,hg,r,k,f,o,hA,hfk,h=>by
  by_cases ha:a∈k
  ·have all:∀ (n c:Nat),c∈f→c∈bT md (g+1) a→∀ x∈bT md n c,x∈f:=by
    intro n
    induction n with
    | zero=>intro c _ _ x hx; exact dD _ ‹_›
    | succ n ih =>
     intro c hc hca x hx
     rcases m9.mp hx with rfl | ⟨d,hd,hx⟩
     ·exact hc
     ·exact ih d ((hA c hca (hfk c hc)).2 d hd) (hg.closed hca hd) x hx
   have hs:∀ x∈bT md (g+1) a,x∈f:=all _ a (hA a hg.mem ha).1 hg.mem
   refine .old ha ?_
   have:=h k fun x=>⟨.inl,fun q=>q.elim id fun q=>hfk x (hs x q)⟩
   rwa [QO hs] at this
  ·refine .new ha ?_
   have haf:a∉f:=fun q=>ha (hfk a q)
   have e1:pushed md a r=(lT md a).reverse.map (fun x=>(x,false))++((a,true)::((oU md a).reverse.map (fun x=>(x,false))++r)):=by
    unfold pushed; exact sb vJ (sb vJ rfl)
   refine sb e1 ?_
   have inP:∀ x,x∈bV ((lT md a).reverse.map (bT md g))→∃ c∈lT md a,x∈bT md g c:=fun x hx=>by
    refine aV (oR.mp hx) fun zz h1 h2=>?_
    refine aV (cP.mp h1) fun c hc zq2=>?_
    subst zq2
    exact ⟨c,by simpa using hc,h2⟩
   have inM:∀ x,x∈bV ((oU md a).reverse.map (bT md g))→∃ c∈oU md a,x∈bT md g c:=fun x hx=>by
    refine aV (oR.mp hx) fun zz h1 h2=>?_
    refine aV (cP.mp h1) fun c hc zq1=>?_
    subst zq1
    exact ⟨c,by simpa using hc,h2⟩
   have subP:∀ x∈bV ((lT md a).reverse.map (bT md g)),x∈bT md (g+1) a∧x≠a:=fun x hx=>by
    refine aV (inP x hx) fun c hc h2=>?_
    exact ⟨m9.mpr (.inr ⟨c,cW _ hc,h2⟩),fun e=>hg.self (cW _ hc) (e▸h2)⟩
   have subM:∀ x∈bV ((oU md a).reverse.map (bT md g)),x∈bT md (g+1) a∧x≠a:=fun x hx=>by
    refine aV (inM x hx) fun c hc h2=>?_
    exact ⟨m9.mpr (.inr ⟨c,dD _ hc,h2⟩),fun e=>hg.self (dD _ hc) (e▸h2)⟩
   have kidP:∀ x∈bV ((lT md a).reverse.map (bT md g)),∀ y∈(md x).mixed++(md x).ahead,y∈bV ((lT md a).reverse.map (bT md g)):=fun x hx y hy=>by
    refine aV (inP x hx) fun c hc h2=>?_
    exact oR.mpr ⟨_,cP.mpr ⟨c,by simpa using hc,rfl⟩,(hg.2 c hc).closed h2 hy⟩
   have eO:bT md (g+1) a=cat (bV ((lT md a).reverse.map (bT md g))) (cat [a] (bV ((oU md a).reverse.map (bT md g)))):=rfl
   rw [eO] at h
   refine DG (DH g) _ (fun c hc=>hg.2 c (by simpa using hc)) _ (a::k) f o (fun x hx hxk=>?_) (fun x hx=>cL _ (hfk x hx)) fun k1 hk1=>.xR ?_
   ·rcases cU.mp hxk with e | hxk
    ·exact absurd e (subP x hx).2
    ·exact hA x (subP x hx).1 hxk
   generalize hP:bV ((lT md a).reverse.map (bT md g))=P at *
   have e2:cat f P++[a]=cat (cat f P) [a]:=(tU (fun x hx=>by
    (refine sb (cG.mp hx) ?_; rw [dO])
    exact fun q=>q.elim haf fun q=>(subP a q).2 rfl)).symm
   refine sb e2 ?_
   refine DG (DH g) _ (fun c hc=>hg.1 c (by simpa using hc)) _ k1 _ o (fun x hx hxk=>?_) (fun x hx=>?_) fun k2 hk2=>?_
   ·rcases (hk1 x).mp hxk with h1 | h1
    ·rcases cU.mp h1 with e | h1
     ·exact absurd e (subM x hx).2
     ·obtain ⟨h2,h3⟩:=hA x (subM x hx).1 h1
      exact ⟨dO.mpr (.inl (dO.mpr (.inl h2))),fun y hy=>dO.mpr (.inl (dO.mpr (.inl (h3 y hy))))⟩
    ·exact ⟨dO.mpr (.inl (dO.mpr (.inr h1))),fun y hy=>dO.mpr (.inl (dO.mpr (.inr (kidP x h1 y hy))))⟩
   ·rcases dO.mp hx with h1 | h1
    ·rcases dO.mp h1 with h1 | h1
     ·exact (hk1 x).mpr (.inl (cL _ (hfk x h1)))
     ·exact (hk1 x).mpr (.inr h1)
    ·exact sb (cG.mp h1) ((hk1 a).mpr (.inl c8))
   ·generalize bV ((oU md a).reverse.map (bT md g))=M at *
    have:=h k2 fun x=>by
     rw [hk2,hk1,dO,dO,cU,cG]
     constructor
     ·rintro (((h | h) | h) | h)
      ·exact .inr (.inr (.inl h))
      ·exact .inl h
      ·exact .inr (.inl h)
      ·exact .inr (.inr (.inr h))
     ·rintro (h | h | h | h)
      ·exact .inl (.inl (.inr h))
      ·exact .inl (.inr h)
      ·exact .inl (.inl (.inl h))
      ·exact .inr h
    rwa [←rB,←rB] at this
theorem oZ {σ:Wd} (F:WF σ) {a:Addr} (ha:a∈σ.dom) {g:Nat} (hg:iS σ.md g a):cB σ a=bT σ.md g a :=
 (DH g a hg [] [] [] _ (fun zz zz h=>by cases h) (fun zz h=>h) fun k' zz=>by exact sb wZ .nil).det (ad4 F ha)
end
theorem w6 {ln:Nat→List Nat}:∀ {l:List Nat} {l0:List Nat},lB ln l0 l=cat (bV (l.reverse.map ln)) l0
 | [],l0=>by (refine sb List.reverse_nil (sb yY ?_); rewrite [bV]; refine sb wZ ?_); rfl
 | x::l,l0=>by
  have h:lB ln l0 (x::l)=lB ln (cat (ln x) l0) l:=rfl
  (refine sb h (sb w6 (sb List.reverse_cons (sb dR (sb zV (sb yZ ?_))))); rewrite [bV]; rewrite [bV]; exact sb zW (sb rB ((by rfl))))
theorem CQ {ln:Nat→List Nat} {i:Nat} {bh:List Nat} (l:List Nat):j9 ln i bh l=i::cat ((bV (l.reverse.map ln)).filter fun k=>!bh.contains k) bh:=by
 have h:∀ (l t:List Nat),l.foldl (fun line one=>wU i bh line (ln one)) (i::t)=i::cat (bV (l.reverse.map fun x=>(ln x).filter fun k=>!bh.contains k)) t:=by
  intro l
  induction l with
  | nil=>intro t; (refine sb List.reverse_nil (sb yY ?_); rewrite [bV]; refine sb wZ ?_); rfl
  | cons x l ih =>
   intro t
   have h:wU i bh (i::t) (ln x)=i::cat ((ln x).filter fun k=>!bh.contains k) t:=rfl
   (refine sb List.foldl_cons (sb h (sb (ih _) (sb List.reverse_cons (sb dR (sb zV (sb yZ ?_)))))); rewrite [bV]; rewrite [bV]; exact sb zW (sb rB ((by rfl))))
 unfold j9
 refine sb (h _ _) (sb (HV _) (sb vI ?_)); rfl
noncomputable def iW (P:List Nat) (a:Nat) (M bs:List Nat):List Nat:=P++a::((M.filter fun k=>!bs.contains k).filter (fun k=>!P.contains k)++bs.filter fun k=>!P.contains k)
noncomputable def cF (ln:Nat→List Nat) (l:List Nat):List Nat:=bV (l.reverse.map ln)
theorem gA {ln:Nat→List Nat} {l:List Nat} {x:Nat}:x∈cF ln l↔∃ c∈l,x∈ln c:=by
 unfold cF
 rw [oR]
 constructor
 ·rintro ⟨_,h1,h2⟩
  refine aV (cP.mp h1) fun c hc zq4=>?_
  subst zq4
  exact ⟨c,by simpa using hc,h2⟩
 ·rintro ⟨c,hc,h⟩
  exact ⟨_,cP.mpr ⟨c,by simpa using hc,rfl⟩,h⟩
theorem CX {ln:Nat→List Nat} {l:List Nat} (h:∀ c∈l,(ln c).Nodup):(cF ln l).Nodup:=xB fun x hx=>by
 refine aV (cP.mp hx) fun c hc zq3=>?_
 subst zq3
 exact h c (by simpa using hc)
theorem YZ {ln:Nat→List Nat} {i:Nat} {bh mix fr:List Nat} (h:i∉cF ln fr):lB ln (j9 ln i bh mix) fr=iW (cF ln fr) i (cF ln mix) bh:=by
 refine sb w6 (sb (CQ _) ?_)
 show cat (cF ln fr) (i::cat ((cF ln mix).filter fun k=>!bh.contains k) bh)=_
 rw [tU (f:=(cF ln mix).filter fun k=>!bh.contains k)]
 ·unfold cat iW
  exact sb (gW (by simpa using h)) (sb (qO _ _) rfl)
 ·intro x hx; simp [hx]
theorem MI (a:Nat) (bs:List Nat):∀ l,split a bs false l=l.filter fun k=>!bs.contains k
 | []=>rfl
 | x::r=>by
  refine sb xS (sb (Bool.false_and _) (sb (Bool.false_or _) (sb (MI a bs r) ?_)))
  by_cases h:bs.contains x=true
  ·exact sb (jE (by refine sb h ?_; simp)) (sb (if_neg (by refine sb h ?_; simp)) rfl)
  ·exact sb (gW (by simpa using h)) (sb (if_pos (by simpa using h)) rfl)
theorem MK {a:Nat} {bs:List Nat} (hb:a∉bs) {M:List Nat}:∀ {P:List Nat},a∉P→split a bs true (P++a::M)=P++a::M.filter fun k=>!bs.contains k
 | [],_=>by
  refine sb (z0 _) (sb xS ?_)
  have e:decide (a≠a)=false:=by simp
  refine sb e (sb (Bool.and_false _) (sb (if_pos (by simpa using hb)) (sb (MI _ _ _) ?_))); rfl
 | x::P,h=>by
  have hx:x≠a:=fun e=>h (by simp [e])
  have e:decide (x≠a)=true:=by exact decide_eq_true ‹_›
  refine sb mR (sb xS (sb e (sb (Bool.and_true _) (sb (Bool.true_or _) (sb (if_pos rfl) (sb (MK hb (fun q=>h (cL _ q))) ?_)))))); rfl
set_option tactic.hygienic true in
theorem ZK {σ:Wd} {a:Addr} {bs P M:List Nat} (h:cB σ a=cat P (cat [a] M)) (h0:(σ.md a).ahead=[]→P=[]) (h1:(σ.md a).mixed=[]→M=[]) (hP:a∉P) (hM:a∉M) (hb:a∉bs):dI σ a bs=iW P a M bs:=by
 have e0:cat P (cat [a] M)=P++a::M.filter fun k=>!P.contains k:=by
  refine sb (tU (f:=[a]) (s:=M) (fun x hx=>by rw [cG]; exact fun e=>hM (e▸hx))) ?_
  unfold cat
  exact sb F4 (sb (gW (by simpa using hP)) rfl)
 unfold dI
 split
 next q =>
  refine sb (h0 q.1) (sb (h1 q.2) ?_)
  unfold iW
  simp only [yU,z0,List.contains_nil,Bool.not_false]
  exact sb (sY.mpr fun zz zz=>rfl) ((by rfl))
 next q =>
  refine sb h (sb e0 (sb (MK hb hP) ?_))
  unfold iW
  refine sb (sX _ _ _) (sb mR ?_)
  have e1:(M.filter fun k=>!P.contains k).filter (fun k=>!bs.contains k)=(M.filter fun k=>!bs.contains k).filter fun k=>!P.contains k:=by
   refine sb vG (sb vG ?_)
   refine mT fun x zz=>Bool.and_comm _ _
  refine sb e1 ?_
  congr 3
  refine mT fun x hx=>?_
  have hxa:x≠a:=fun e=>hb (e▸hx)
  rw [nR,iX,iX]
  refine ⟨fun h q=>h (dD _ q),fun h q=>?_⟩
  rcases bW.mp q with q | q
  ·exact h q
  ·rcases cU.mp q with q | q
   ·exact hxa q
   ·exact (jP.mp (jP.mp q).1).2 hx
theorem Z5 {p a m b:Prop}:p∨a∨(m∧¬b)∧¬p∨b∧¬p↔a∨p∨m∨b :=
 ⟨fun h=>h.elim (fun h=>.inr (.inl h)) fun h=>h.elim .inl fun h=>h.elim (fun h=>.inr (.inr (.inl h.1.1))) fun h=>.inr (.inr (.inr h.1)),fun h=>(Classical.em p).elim .inl fun np=>.inr (h.elim .inl fun h=>.inr (h.elim (fun h=>(np h).elim) fun h=>(Classical.em b).elim (fun hb=>.inr ⟨hb,np⟩) fun nb=>.inl ⟨⟨h.elim id fun h=>(nb h).elim,nb⟩,np⟩))⟩
theorem JN {P:List Nat} {a:Nat} {M bs:List Nat} {x:Nat}:x∈iW P a M bs↔x=a∨x∈P∨x∈M∨x∈bs:=by
 unfold iW
 rw [bW,cU,bW,jP,jP,jP]
 exact Z5
theorem aaO {P:List Nat} {a:Nat} {M bs:List Nat} (hP:P.Nodup) (hM:M.Nodup) (hb:bs.Nodup) (aP:a∉P) (aM:a∉M) (ab:a∉bs):(iW P a M bs).Nodup:=by
 unfold iW
 rw [mU]
 refine ⟨hP,iH.mpr ⟨?_,?_⟩,?_⟩
 ·exact fun h=>(bW.mp h).elim (fun h=>aM (jP.mp (jP.mp h).1).1) fun h=>ab (jP.mp h).1
 ·rw [mU]
  exact ⟨(hM.filter _).filter _,hb.filter _,fun x hx y hy e=>(jP.mp (jP.mp hx).1).2 (e▸(jP.mp hy).1)⟩
 ·intro x hx y hy e
  rcases cU.mp hy with h | hy
  ·exact aP (h▸e▸hx)
  ·exact (bW.mp hy).elim (fun h=>(jP.mp h).2 (e▸hx)) fun h=>(jP.mp h).2 (e▸hx)
theorem CK {g:Nat→Nat} {l bs:List Nat} (h:∀ x∈l,∀ y∈bs,g x=g y→x=y):(l.filter fun k=>!bs.contains k).map g=(l.map g).filter fun k=>!(bs.map g).contains k:=by
 refine sb yT ?_
 congr 1
 refine mT fun x hx=>?_
 rw [nR]
 refine iX.trans (Iff.trans ?_ iX.symm)
 exact ⟨fun h' q=>aV (cP.mp q) fun y hy e=>h' (h x hx y hy e.symm▸hy),fun h' hx'=>h' (kR hx')⟩
theorem JH {g:Nat→Nat} {P:List Nat} {a:Nat} {M bs:List Nat} {n:Nat} (hg:∀ x y,x<n→y<n→g x=g y→x=y) (hP:∀ x∈P,x<n) (hM:∀ x∈M,x<n) (hb:∀ x∈bs,x<n):(iW P a M bs).map g=iW (P.map g) (g a) (M.map g) (bs.map g):=by
 unfold iW
 exact sb dR (sb cK (sb dR (sb (CK (fun x hx y hy=>hg x y (hM x (eZ.mp hx).1) (hP y hy))) (sb (CK (fun x hx y hy=>hg x y (hM x hx) (hb y hy))) (sb (CK (fun x hx y hy=>hg x y (hb x hx) (hP y hy))) rfl)))))
theorem ZO {g:Nat→Nat} {ln:Nat→List Nat} {l:List Nat} {n:Nat} (hg:∀ x y,x<n→y<n→g x=g y→x=y) (h:∀ c∈l,∀ x∈ln c,x<n):(cF ln l).map g=bV (l.reverse.map fun c=>(ln c).map g):=by
 unfold cF
 rw [JG,vI]; rfl
 intro a ha x hx b hb y hy e
 refine aV (cP.mp ha) fun c hc zq2=>?_
 subst zq2
 refine aV (cP.mp hb) fun d hd zq1=>?_
 subst zq1
 exact hg x y (h c (by simpa using hc) x hx) (h d (by simpa using hd) y hy) e
theorem CY {d:List Nat}:∀ {l:List Nat},l.Nodup→(∀ x∈l,x∈d)→l.length≤d.length
 | [],_,_=>by simp
 | x::l,h,hs=>by
  rw [iH] at h
  have hx:=hs x c8
  have h1:=CY (d:=d.erase x) h.2 fun y hy=>(List.mem_erase_of_ne (a:=y) (b:=x) (fun e=>h.1 (by exact aY e hy))).mpr (hs y (cL _ hy))
  rw [List.length_erase_of_mem hx] at h1
  have:=F1 hx
  simp only [qQ]; exact acY h1 this
noncomputable def cI (rows:List Row) (i:Nat):List Nat:=match rows[i]? with
 | some r=>r.pN.toList++r.mix++r.fr
 | none=>[]
theorem cM.kids {rows:List Row} {f i c:Nat} (h:cM rows (f+1) i) (hc:c∈cI rows i):cM rows f c:=by
 refine EJ h fun r hr h1 h2 h3=>?_
 unfold cI at hc
 rw [hr] at hc
 simp only [bW,zB] at hc
 rcases hc with (hc | hc) | hc
 ·exact h1 c hc
 ·exact h2 c hc
 ·exact h3 c hc
theorem cM.of {rows:List Row} {f i:Nat} {r:Row} (hr:rows[i]?=some r) (h:∀ c∈cI rows i,cM rows f c):cM rows (f+1) i:=by
 unfold cI at h
 rw [hr] at h
 exact ⟨r,hr,fun p hp=>h p (by simp [hp]),fun x hx=>h x (by simp [hx]),fun x hx=>h x (by exact cW _ ‹_›)⟩
theorem cM.up {rows:List Row}:∀ {f i:Nat},cM rows f i→cM rows (f+1) i
 | 0,_,h=>h.elim
 | f+1,i,h=>by
  refine aV (id h) fun r hr zz=>?_
  exact .of hr fun c hc=>(h.kids hc).up
theorem cM.le {rows:List Row} {f g i:Nat} (h:cM rows f i) (hg:f≤g):cM rows g i:=by
 induction hg with
 | refl=>exact h
 | step _ ih=>exact ih.up
theorem qA {rows:List Row} {f i:Nat} {r:Row} (hr:rows[i]?=some r) (hi:∀ c∈r.fr,i∉aO rows f c):aO rows (f+1) i=iW (cF (aO rows f) r.fr) i (cF (aO rows f) r.mix) (dG (aO rows f) r.pN):=by
 (rewrite [aO]; refine sb hr ?_)
 exact YZ fun h=>by
  refine aV (gA.mp h) fun c hc h=>?_
  exact hi c hc h
theorem rU {ln:Nat→List Nat} {o:Option Nat} {x:Nat}:x∈dG ln o↔∃ p,o=some p∧x∈ln p:=by
 induction o using Option.casesOn with
 | none=>simp [dG]
 | some p=>simp [dG]
theorem JM {rows:List Row} {f i x:Nat} (h:x∈aO rows (f+1) i):∃ r,rows[i]?=some r∧(x=i∨∃ c∈cI rows i,x∈aO rows f c):=by
 rw [aO] at h
 cases hr:rows[i]? with
 | none=>rw [hr] at h; simp at h
 | some r =>
  rw [hr] at h
  refine ⟨r,rfl,?_⟩
  dsimp only at h
  rw [w6,CQ,dO,cU,dO,eZ] at h
  unfold cI
  refine sb hr ?_
  simp only [bW,zB]
  rcases h with h | h | h | h
  ·refine aV (gA.mp h) fun c hc h=>?_
   exact .inr ⟨c,.inr hc,h⟩
  ·exact .inl h
  ·refine aV (gA.mp h.1) fun c hc h=>?_
   exact .inr ⟨c,.inl (.inr hc),h⟩
  ·refine aV (rU.mp h) fun c hc h=>?_
   exact .inr ⟨c,.inl (.inl hc),h⟩
theorem iV {rows:List Row}:∀ {f i x:Nat},x∈aO rows f i→x<rows.length
 | 0,_,_,h=>by simp [aO] at h
 | f+1,i,x,h=>by
  obtain ⟨r,hr,rfl | ⟨c,_,h⟩⟩:=JM h
  ·exact (cO.mp hr).1
  ·exact iV h
theorem cM.desc {rows:List Row}:∀ {g c x:Nat},x∈aO rows g c→∀ {f:Nat},cM rows f c→cM rows f x
 | 0,_,_,h,_,_=>by simp [aO] at h
 | g+1,c,x,h,f,hf=>by
  obtain ⟨r,hr,rfl | ⟨d,hd,hx⟩⟩:=JM h
  ·exact hf
  ·induction f using Nat.casesOn with
   | zero=>exact hf.elim
   | succ f=>exact (cM.desc hx (hf.kids hd)).up
theorem cM.self {rows:List Row}:∀ {f i c g:Nat},cM rows f i→c∈cI rows i→i∉aO rows g c
 | 0,_,_,_,h,_,_=>h.elim
 | f+1,i,c,g,h,hc,hi=>(cM.desc hi (h.kids hc)).self hc hi
theorem cM.mem {rows:List Row} {f i:Nat} (h:cM rows f i):i∈aO rows f i:=by
 induction f using Nat.casesOn with
 | zero=>exact h.elim
 | succ f =>
  refine aV (id h) fun r hr zz=>?_
  (refine sb (qA hr fun c hc=>h.self (by unfold cI; exact sb hr (cW _ ‹_›))) ?_; rw [JN])
  exact .inl rfl
theorem cM.YN {rows:List Row} {f i c x:Nat} (h:cM rows (f+1) i) (hc:c∈cI rows i) (hx:x∈aO rows f c):x∈aO rows (f+1) i:=by
 refine aV (id h) fun r hr zz=>?_
 (refine sb (qA hr fun c hc=>h.self (by unfold cI; exact sb hr (cW _ ‹_›))) ?_; rewrite [JN]; rewrite [gA]; rewrite [gA]; rw [rU])
 unfold cI at hc
 rw [hr] at hc
 simp only [bW,zB] at hc
 rcases hc with (hc | hc) | hc
 ·exact .inr (.inr (.inr ⟨c,hc,hx⟩))
 ·exact .inr (.inr (.inl ⟨c,hc,hx⟩))
 ·exact .inr (.inl ⟨c,hc,hx⟩)
theorem jN {rows:List Row} {i c:Nat} {r:Row} (hr:rows[i]?=some r) (hc:c∈r.fr):c∈cI rows i:=by unfold cI; exact sb hr (cW _ ‹_›)
theorem rR {rows:List Row} {i c:Nat} {r:Row} (hr:rows[i]?=some r) (hc:c∈r.mix):c∈cI rows i:=by unfold cI; refine sb hr ?_; simp [hc]
theorem wN {rows:List Row} {i c:Nat} {r:Row} (hr:rows[i]?=some r) (hc:r.pN=some c):c∈cI rows i:=by unfold cI; refine sb hr ?_; simp [hc]
theorem CI {rows:List Row}:∀ {f i:Nat},cM rows f i→aO rows (f+1) i=aO rows f i
 | 0,_,h=>h.elim
 | f+1,i,h=>by
  refine aV (id h) fun r hr zz=>?_
  have e:∀ l:List Nat,(∀ c∈l,c∈cI rows i)→cF (aO rows (f+1)) l=cF (aO rows f) l:=fun l hl=>by
   unfold cF
   exact sb (qR fun c hc=>CI (h.kids (hl c (by simpa using hc)))) rfl
  have e2:dG (aO rows (f+1)) r.pN=dG (aO rows f) r.pN:=by
   cases q:r.pN with
   | none=>rfl
   | some p=>exact CI (h.kids (wN hr q))
  exact sb (qA hr fun c hc=>h.self (jN hr hc)) (sb (qA hr fun c hc=>h.self (jN hr hc)) (sb (e r.fr fun c hc=>jN hr hc) (sb (e r.mix fun c hc=>rR hr hc) (sb e2 ((by rfl))))))
noncomputable def pJ (rows:List Row) (F:Nat):Prop:=∀ i,i<rows.length→cM rows F i
theorem uI {rows:List Row} {F:Nat} (A:pJ rows F):∀ {f i:Nat},(aO rows f i).Nodup
 | 0,_=>by simp [aO]
 | f+1,i=>by
  cases hr:rows[i]? with
  | none=>(rewrite [aO]; refine sb hr ?_); simp
  | some r =>
   have hi:=A i (cO.mp hr).1
   refine sb (qA hr fun c hc=>hi.self (jN hr hc)) ?_
   refine aaO (CX fun c zz=>uI A) (CX fun c zz=>uI A) ?_ ?_ ?_ ?_
   ·induction r.pN using Option.casesOn with
    | none=>simp [dG]
    | some p=>exact uI A
   ·intro h
    refine aV (gA.mp h) fun c hc h=>?_
    exact hi.self (jN hr hc) h
   ·intro h
    refine aV (gA.mp h) fun c hc h=>?_
    exact hi.self (rR hr hc) h
   ·intro h
    refine aV (rU.mp h) fun c hc h=>?_
    exact hi.self (wN hr hc) h
theorem LX {l:List Nat} {n:Nat} (h:l.Nodup) (hs:∀ x∈l,x<n):l.length≤n:=by
 have:=CY (d:=lL n) h fun x hx=>vK.mpr (hs x hx)
 rwa [yW] at this
theorem n6.of {rows:List Row} {F:Nat} (A:pJ rows F) (hz:rows.length≤100):n6 rows:=by
 have nd:∀ f (l:List Nat),(cF (aO rows f) l).Nodup:=fun f l=>CX fun c zz=>uI A
 have lt:∀ f (l:List Nat),∀ x∈cF (aO rows f) l,x<rows.length:=fun f l x hx=>by
  refine aV (gA.mp hx) fun c zz h=>?_
  exact iV h
 have bhn:∀ f o,(dG (aO rows f) o).Nodup:=fun f o=>by
  induction o using Option.casesOn with
  | none=>simp [dG]
  | some p=>exact uI A
 have bhlt:∀ f o,∀ x∈dG (aO rows f) o,x<rows.length:=fun f o x hx=>by
  refine aV (rU.mp hx) fun c zz h=>?_
  exact iV h
 have mixz:∀ f i o l,(j9 (aO rows f) i (dG (aO rows f) o) l).length≤101:=fun f i o l=>by
  refine sb (CQ _) (sb qQ ?_)
  have:(cat ((cF (aO rows f) l).filter fun k=>!(dG (aO rows f) o).contains k) (dG (aO rows f) o)).length≤rows.length:=LX (xA ((nd f l).filter _) (bhn f o)) fun x hx=>by
   rcases dO.mp hx with h | h
   ·exact lt f l x (eZ.mp h).1
   ·exact bhlt f o x h
  unfold cF at this
  exact aG (d7 this) ((d7 hz))
 refine ⟨fun f i r k zz=>aG (mixz _ _ _ _) (by decide),fun f i r k zz=>?_⟩
 refine sb w6 ?_
 have h1:(cF (aO rows f) (r.fr.take k)).length≤rows.length:=LX (nd _ _) (lt _ _)
 have h2:=nU (fun k'=>!(bV ((r.fr.take k).reverse.map (aO rows f))).contains k') (j9 (aO rows f) i (dG (aO rows f) r.pN) r.mix)
 have h3:=mixz f i r.pN r.mix
 unfold cat
 unfold cF at h1
 refine sb fR ?_
 exact acX hz h1 h2 h3
noncomputable def aK (rows:List Row) (i:Nat):Addr:=match rows[i]? with
 | some r=>r.thing
 | none=>0
theorem dZ {rows:List Row} {i:Nat} {r:Row} (h:rows[i]?=some r):aK rows i=r.thing:=by unfold aK; exact sb h rfl
structure Gr (σ:Wd) (rows:List Row):Prop where
 inj:∀ (i j:Nat),i<rows.length→j<rows.length→aK rows i=aK rows j→i=j
 dom:∀ (i:Nat) (r:Row),rows[i]?=some r→r.thing∈σ.dom
 mix:∀ (i:Nat) (r:Row),rows[i]?=some r→(σ.md r.thing).mixed=r.mix.map (aK rows)
 bX:∀ (i:Nat) (r:Row),rows[i]?=some r→(σ.md r.thing).ahead=r.fr.map (aK rows)
 par:∀ (i:Nat) (r:Row),rows[i]?=some r→(r.pN=none∧(σ.md r.thing).parent=.none)∨∃ p,r.pN=some p∧p<rows.length∧(σ.md r.thing).parent=.ref (aK rows p)
 kid:∀ (i:Nat) (r:Row),rows[i]?=some r→∀ x∈r.mix++r.fr,∃ r':Row,rows[x]?=some r'∧r'.pN=none
theorem jR {rows:List Row} {i:Nat} (h:i<rows.length):∃ r,rows[i]?=some r:=⟨_,lK h⟩
theorem Z6 {P:List Nat} {a:Nat} {M:List Nat} (hP:a∉P) (hM:a∉M):iW P a M []=cat P (cat [a] M):=by
 have e0:cat P (cat [a] M)=P++a::M.filter fun k=>!P.contains k:=by
  refine sb (tU (f:=[a]) (s:=M) (fun x hx=>by rw [cG]; exact fun e=>hM (e▸hx))) ?_
  unfold cat
  exact sb F4 (sb (gW (by simpa using hP)) rfl)
 refine sb e0 ?_
 unfold iW
 simp only [yU,jW,List.contains_nil,Bool.not_false]
 exact sb (sY (l:=M) (p:=fun zz=>true) |>.mpr fun zz zz=>rfl) ((by rfl))
section
variable {σ:Wd} {rows:List Row}
theorem oN (H:Gr σ rows):∀ {f i:Nat} {r:Row},cM rows f i→rows[i]?=some r→iS σ.md f r.thing
 | 0,_,_,h,_=>h.elim
 | f+1,i,r,h,hr=>by
  have one:∀ (l:List Nat) c,c∈l.map (aK rows)→(∀ x∈l,x∈cI rows i∧x∈r.mix++r.fr)→iS σ.md f c:=fun l c hc hl=>by
   refine aV (cP.mp hc) fun x hx zq1=>?_
   subst zq1
   refine aV (H.kid i r hr x (hl x hx).2) fun r' hr' zz=>?_
   refine sb (dZ hr') ?_
   exact oN H (h.kids (hl x hx).1) hr'
  refine ⟨fun c hc=>?_,fun c hc=>?_⟩
  ·have hc:c∈(σ.md r.thing).mixed:=hc
   rw [H.mix i r hr] at hc
   exact one _ c hc fun x hx=>⟨rR hr hx,dD _ hx⟩
  ·have hc:c∈(σ.md r.thing).ahead:=hc
   rw [H.bX i r hr] at hc
   exact one _ c hc fun x hx=>⟨jN hr hx,cW _ hx⟩
theorem WT {ln:Nat→List Nat} {g:Nat→Nat} {l:List Nat}:cF ln (l.map g)=cF (fun c=>ln (g c)) l:=by
 unfold cF; refine aY vJ (sb vI ?_); rfl
theorem parts (H:Gr σ rows) {f:Nat} {l:List Nat} (ih:∀ c∈l,(aO rows f c).map (aK rows)=bT σ.md f (aK rows c)):(cF (aO rows f) l).map (aK rows)=cF (bT σ.md f) (l.map (aK rows)):=by
 refine sb (ZO H.inj fun c zz x hx=>iV hx) (sb WT ?_)
 unfold cF
 exact sb (qR fun c hc=>ih c (by simpa using hc)) rfl
theorem CR (H:Gr σ rows):∀ {f i:Nat} {r:Row},cM rows f i→rows[i]?=some r→r.pN=none→(aO rows f i).map (aK rows)=bT σ.md f (aK rows i)
 | 0,_,_,h,_,_=>h.elim
 | f+1,i,r,h,hr,hp=>by
  have D:=oN H h hr
  refine sb (qA hr fun c hc=>h.self (jN hr hc)) (sb hp ?_)
  refine sb (JH H.inj (fun x hx=>by refine aV (gA.mp hx) fun c zz h=>?_; exact iV h) (fun x hx=>by refine aV (gA.mp hx) fun c zz h=>?_; exact iV h) (by exact sZ _)) ?_
  have one:∀ c,c∈cI rows i→c∈r.mix++r.fr→(aO rows f c).map (aK rows)=bT σ.md f (aK rows c):=fun c h1 h2=>by
   refine aV (H.kid i r hr c h2) fun r' hr' hp'=>?_
   exact CR H (h.kids h1) hr' hp'
  refine sb (parts H fun c hc=>one c (jN hr hc) (cW _ hc)) (sb (parts H fun c hc=>one c (rR hr hc) (dD _ hc)) (aY (H.mix i r hr) (aY (H.bX i r hr) (sb (dZ hr) ?_))))
  refine Z6 (fun q=>?_) (fun q=>?_)
  ·refine aV (gA.mp q) fun c hc q=>?_
   exact D.self (cW _ hc) q
  ·refine aV (gA.mp q) fun c hc q=>?_
   exact D.self (dD _ hc) q
noncomputable def dH (σ:Wd):Nat→Addr→List Addr
 | 0,_=>[]
 | g+1,a=>dI σ a (match (σ.md a).parent with
  | .ref b=>dH σ g b
  | _=>[])
theorem M6 (H:Gr σ rows) (F:WF σ):∀ {f g i:Nat},cM rows f i→f≤g→dH σ g (aK rows i)=(aO rows f i).map (aK rows)
 | 0,_,_,h,_=>h.elim
 | f+1,0,_,_,h=>by exact absurd h (vO _)
 | f+1,g+1,i,h,hg=>by
  refine aV (id h) fun r hr zz=>?_
  have D:=oN H h hr
  refine sb (qA hr fun c hc=>h.self (jN hr hc)) ?_
  refine sb (JH H.inj (fun x hx=>by refine aV (gA.mp hx) fun c zz h=>?_; exact iV h) (fun x hx=>by refine aV (gA.mp hx) fun c zz h=>?_; exact iV h) (fun x hx=>by refine aV (rU.mp hx) fun c zz h=>?_; exact iV h)) ?_
  have one:∀ c,c∈cI rows i→c∈r.mix++r.fr→(aO rows f c).map (aK rows)=bT σ.md f (aK rows c):=fun c h1 h2=>by
   refine aV (H.kid i r hr c h2) fun r' hr' hp'=>?_
   exact CR H (h.kids h1) hr' hp'
  refine sb (parts H fun c hc=>one c (jN hr hc) (cW _ hc)) (sb (parts H fun c hc=>one c (rR hr hc) (dD _ hc)) (aY (H.mix i r hr) (aY (H.bX i r hr) ?_)))
  have eb:(match (σ.md r.thing).parent with
   | .ref b=>dH σ g b
   | _=>[])=(dG (aO rows f) r.pN).map (aK rows):=by
   rcases H.par i r hr with ⟨h1,h2⟩ | ⟨p,h1,h2,h3⟩
   ·refine sb h1 (sb h2 ?_); rfl
   ·refine sb h1 (sb h3 ?_)
    exact M6 H F (h.kids (wN hr h1)) (by exact (qW hg))
  (rewrite [dH]; refine sb (dZ hr) (sb eb ?_))
  refine ZK (oZ F (H.dom i r hr) D) (fun q=>?_) (fun q=>?_) (fun q=>?_) (fun q=>?_) (fun q=>?_)
  ·show cF (bT σ.md f) (σ.md r.thing).ahead=[]
   refine sb q ?_; rfl
  ·show cF (bT σ.md f) (σ.md r.thing).mixed=[]
   refine sb q ?_; rfl
  ·refine aV (gA.mp q) fun c hc q=>?_
   exact D.self (cW _ hc) q
  ·refine aV (gA.mp q) fun c hc q=>?_
   exact D.self (dD _ hc) q
  ·refine aV (cP.mp q) fun x hx e=>?_
   refine aV (rU.mp hx) fun p hp hx'=>?_
   have hi:=(cO.mp hr).1
   have:x=i:=H.inj x i (iV hx') hi (by exact sb e (sb (dZ hr) rfl))
   subst this
   exact h.self (wN hr hp) hx'
theorem JX {a:Addr} {bs:List Addr} (ho:(cB σ a).Nodup) (hb:bs.Nodup) (ha:a∉bs):(dI σ a bs).Nodup:=by
 unfold dI
 split
 ·exact iH.mpr ⟨ha,hb⟩
 ·rw [mU]
  refine ⟨(MJ _ _ _ _).nodup ho,hb.filter _,fun x hx y hy e=>?_⟩
  subst e
  simp [eZ,hx] at hy
theorem ZJ (F:WF σ) {a:Addr} (ha:a∈σ.dom) {bs:List Addr} (hb:∀ x∈bs,x∈σ.dom):∀ x∈dI σ a bs,x∈σ.dom:=by
 intro x hx
 unfold dI at hx
 split at hx
 ·rcases cU.mp hx with rfl | h
  ·exact ha
  ·exact hb x h
 ·rcases bW.mp hx with h | h
  ·exact oY F ha x (DJ _ _ _ _ x h)
  ·exact hb x (eZ.mp h).1
theorem CH (F:WF σ) {rk:Addr→Nat} (U:n7 σ rk):∀ {g:Nat} {a:Addr},a∈σ.dom→∀ x∈dH σ g a,x∈σ.dom
 | 0,_,_,_,h=>by exact dD _ ‹_›
 | g+1,a,ha,x,h=>by
  rw [dH] at h
  refine ZJ F ha (fun y hy=>?_) x h
  rcases (U a ha).2 with e | ⟨b,e,hb,_⟩
  ·rw [e] at hy; exact dD _ ‹_›
  ·rw [e] at hy
   exact CH F U hb y hy
theorem J8 (F:WF σ) {rk:Addr→Nat} (U:n7 σ rk):∀ {g g':Nat} {a:Addr},a∈σ.dom→rk a<g→rk a<g'→dH σ g a=dH σ g' a
 | 0,_,_,_,h,_=>by exact absurd h (vO _)
 | _+1,0,_,_,_,h=>by exact absurd h (vO _)
 | g+1,g'+1,a,ha,h1,h2=>by
  rw [dH,dH]
  rcases (U a ha).2 with e | ⟨b,e,hb,hr⟩
  ·exact sb e rfl
  ·refine sb e ?_
   show dI σ a (dH σ g b)=dI σ a (dH σ g' b)
   exact sb (J8 F U hb (by exact dQ h1 hr (by simp +arith only):rk b<g) (by exact dQ h2 hr (by simp +arith only):rk b<g')) rfl
structure Kinds (σ:Wd):Prop where
 par:∀ a∈σ.dom,(σ.md a).parent≠.none→(σ.md a).cls=true
 mix:∀ a∈σ.dom,∀ x∈(σ.md a).mixed++(σ.md a).ahead,(σ.md x).cls=false
theorem KZ (F:WF σ) (Kd:Kinds σ):∀ {g:Nat} {a x:Addr},a∈σ.dom→x∈bT σ.md g a→x=a∨(σ.md x).cls=false
 | 0,_,_,_,h=>absurd h qT
 | g+1,a,x,ha,h=>by
  rcases m9.mp h with rfl | ⟨c,hc,h⟩
  ·exact .inl rfl
  ·have hcd:c∈σ.dom:=by
    rcases bW.mp hc with h | h
    ·exact F.mix a ha c h
    ·exact F.bX a ha c h
   rcases KZ F Kd hcd h with rfl | h
   ·exact .inr (Kd.mix a ha x hc)
   ·exact .inr h
theorem J7 (F:WF σ) {rk:Addr→Nat} (U:n7 σ rk) (Kd:Kinds σ) (A:∀ a∈σ.dom,∃ g,iS σ.md g a):∀ {g:Nat} {a x:Addr},a∈σ.dom→x∈dH σ g a→(σ.md x).cls=false∨rk x≤rk a
 | 0,_,_,_,h=>by simp [dH] at h
 | g+1,a,x,ha,h=>by
  have up:∀ {bs:List Addr},x∈dI σ a bs→x∈cB σ a∨x=a∨x∈bs:=fun {bs} h=>by
   unfold dI at h
   split at h
   ·rcases cU.mp h with h | h
    ·exact .inr (.inl h)
    ·exact .inr (.inr h)
   ·rcases bW.mp h with h | h
    ·exact .inl (DJ _ _ _ _ x h)
    ·exact .inr (.inr (eZ.mp h).1)
  rw [dH] at h
  rcases up h with h | rfl | h
  ·obtain ⟨n,D⟩:=A a ha
   rw [oZ F ha D] at h
   rcases KZ F Kd ha h with rfl | h
   ·exact .inr (bZ _)
   ·exact .inl h
  ·exact .inr (bZ _)
  ·rcases (U a ha).2 with e | ⟨b,e,hb,hr⟩
   ·rw [e] at h; simp at h
   ·rw [e] at h
    rcases J7 F U Kd A hb h with h | h
    ·exact .inl h
    ·exact .inr (by exact aG h ((cZ hr)))
theorem JW (F:WF σ) {rk:Addr→Nat} (U:n7 σ rk) (Kd:Kinds σ) (A:∀ a∈σ.dom,∃ g,iS σ.md g a):∀ {g:Nat} {a:Addr},a∈σ.dom→(dH σ g a).Nodup
 | 0,_,_=>by simp [dH]
 | g+1,a,ha=>by
  obtain ⟨n,D⟩:=A a ha
  rw [dH]
  have ho:(cB σ a).Nodup:=by exact sb (oZ F ha D) JY
  rcases (U a ha).2 with e | ⟨b,e,hb,hr⟩
  ·exact sb e (JX ho (by simp) (by exact qT))
  ·refine sb e ?_
   refine JX ho (JW F U Kd A hb) fun q=>?_
   rcases J7 F U Kd A hb q with h | h
   ·rw [Kd.par a ha (by refine sb e ?_; simp)] at h; exact rY h
   ·exact absurd hr (Nat.not_le.mpr ((d7 h)))
noncomputable abbrev fK (σ:Wd):Addr→List Addr:=dH σ 1001
theorem X8 (F:WF σ) {rk:Addr→Nat} (U:n7 σ rk) (Kd:Kinds σ) (A:∀ a∈σ.dom,∃ g,iS σ.md g a) (hz:σ.dom.length≤40000):vU σ (fK σ):=by
 refine ⟨fun a ha=>?_,fun a ha=>CH F U ha,fun a ha=>aG (CY (JW F U Kd A ha) (CH F U ha)) hz⟩
 show dH σ 1001 a=_
 rw [dH]
 rcases (U a ha).2 with e | ⟨b,e,hb,hr⟩
 ·refine sb e ?_; rfl
 ·refine sb e ?_
  have:=(U a ha).1
  show dI σ a (dH σ 1000 b)=dI σ a (dH σ 1001 b)
  exact congrArg (dI σ a) (J8 F U hb (by exact aG hr this:rk b<1000) (by exact aG hr (aG this (ble rfl)):rk b<1001))
theorem GC {σ':Wd} (F:WF σ) (e:∀ a∈σ.dom,(σ'.md a).mixed=(σ.md a).mixed∧(σ'.md a).ahead=(σ.md a).ahead):∀ {g:Nat} {a:Addr},a∈σ.dom→bT σ'.md g a=bT σ.md g a
 | 0,_,_=>rfl
 | g+1,a,ha=>by
  show cat (cF (bT σ'.md g) (σ'.md a).ahead) (cat [a] (cF (bT σ'.md g) (σ'.md a).mixed))=cat (cF (bT σ.md g) (σ.md a).ahead) (cat [a] (cF (bT σ.md g) (σ.md a).mixed))
  refine sb ((e a ha).1) (sb ((e a ha).2) ?_)
  have h:∀ l:List Nat,(∀ x∈l,x∈σ.dom)→cF (bT σ'.md g) l=cF (bT σ.md g) l:=fun l hl=>by
   unfold cF
   exact sb (qR fun c hc=>GC F e (hl c (by simpa using hc))) rfl
  exact sb (h _ (F.mix a ha)) (sb (h _ (F.bX a ha)) ((by rfl)))
theorem zJ {σ':Wd} (F:WF σ) (e:∀ a∈σ.dom,(σ'.md a).mixed=(σ.md a).mixed∧(σ'.md a).ahead=(σ.md a).ahead):∀ {g:Nat} {a:Addr},a∈σ.dom→iS σ.md g a→iS σ'.md g a
 | 0,_,_,h=>h
 | g+1,a,ha,h=>by
  refine ⟨fun c hc=>?_,fun c hc=>?_⟩
  ·have hc:c∈(σ'.md a).mixed:=hc
   rw [(e a ha).1] at hc
   exact zJ F e (F.mix a ha c hc) (h.1 c hc)
  ·have hc:c∈(σ'.md a).ahead:=hc
   rw [(e a ha).2] at hc
   exact zJ F e (F.bX a ha c hc) (h.2 c hc)
theorem J6 {σ':Wd} (F:WF σ) (F':WF σ') {rk:Addr→Nat} (U:n7 σ rk) (A:∀ a∈σ.dom,∃ g,iS σ.md g a) (hd:∀ a∈σ.dom,a∈σ'.dom) (e:∀ a∈σ.dom,(σ'.md a).mixed=(σ.md a).mixed∧(σ'.md a).ahead=(σ.md a).ahead) (ep:∀ a∈σ.dom,(σ'.md a).parent=(σ.md a).parent) :
  ∀ {g:Nat} {a:Addr},a∈σ.dom→dH σ' g a=dH σ g a
 | 0,_,_=>rfl
 | g+1,a,ha=>by
  obtain ⟨n,D⟩:=A a ha
  have eo:cB σ' a=cB σ a:=by exact sb (oZ F ha D) (sb (oZ F' (hd a ha) (zJ F e ha D)) (sb (GC F e ha) rfl))
  have em:∀ bs,dI σ' a bs=dI σ a bs:=fun bs=>by
   unfold dI; exact sb eo (sb ((e a ha).1) (sb ((e a ha).2) rfl))
  (rewrite [dH]; rewrite [dH]; refine sb (em _) (sb (ep a ha) ?_))
  rcases (U a ha).2 with h | ⟨b,h,hb,_⟩
  ·exact sb h ((by rfl))
  ·refine sb h ?_
   show dI σ a (dH σ' g b)=dI σ a (dH σ g b)
   exact sb (J6 F F' U A hd e ep hb) rfl
end
inductive eW (rows:List Row):List Nat→Prop
 | nil:eW rows []
 | cons {x:Nat} {T:List Nat} (h:eW rows T) (hx:x<rows.length) (hk:∀ c∈cI rows x,c∈T):eW rows (x::T)
theorem eW.hgt {rows:List Row} {T:List Nat} (h:eW rows T):∀ x∈T,cM rows T.length x:=by
 induction h with
 | nil=>intro x hx; cases hx
 | @cons y T _ hy hk ih =>
  intro x hx
  rcases cU.mp hx with rfl | hx
  ·obtain ⟨r,hr⟩:=jR hy
   exact .of hr fun c hc=>ih c (hk c hc)
  ·exact (ih x hx).up
theorem eW.jJ {rows:List Row} {T:List Nat} (h:eW rows T) (ha:∀ i,i<rows.length→i∈T) {F:Nat} (hF:T.length≤F):pJ rows F:=fun i hi=>(h.hgt i (ha i hi)).le hF
theorem pJ.kid {rows:List Row} {F:Nat} (A:pJ rows F) {x c s:Nat} (hx:x<rows.length) (hc:c∈cI rows x) (h:s∈aO rows F c):s∈aO rows F x:=by
 refine aY (CI (A x hx)) ?_
 exact (A x hx).up.YN hc h
theorem topo_edge {rows rows':List Row} {T:List Nat} {F spot one:Nat} (h:eW rows T) (ha:∀ i,i<rows.length→i∈T) (A:pJ rows F) (h1:one<rows.length) (hs:spot<rows.length) (hno:spot∉aO rows F one) (hl:rows'.length=rows.length)
  (hk:∀ x c,c∈cI rows' x→c∈cI rows x∨(x=spot∧c=one)):∃ T',eW rows' T'∧T'.length=T.length∧∀ i,i<rows'.length→i∈T':=by
 have hB:∀ {T:List Nat},eW rows T→eW rows' (T.filter fun x=>!(aO rows F x).contains spot):=fun {T} h=>by
  induction h with
  | nil=>exact .nil
  | @cons y T _ hy hky ih =>
   by_cases q:spot∈aO rows F y
   ·exact sb (jE (by simp [q])) ih
   ·refine sb (gW (by simpa using q)) ?_
    refine .cons ih (by exact aG hy ((b5 hl.symm))) fun c hc=>?_
    rcases hk y c hc with hc | ⟨rfl,_⟩
    ·refine eZ.mpr ⟨hky c hc,?_⟩
     simpa using fun z=>q (A.kid hy hc z)
    ·exact absurd (A y hy).mem q
 have hA:∀ {U:List Nat},eW rows U→(∀ x∈U,x∈T)→eW rows' (U.filter (fun x=>(aO rows F x).contains spot)++T.filter fun x=>!(aO rows F x).contains spot):=fun {U} hU=>by
  induction hU with
  | nil=>intro _; exact hB h
  | @cons y U _ hy hky ih =>
   intro hsub
   have ih:=ih fun x hx=>hsub x (cL _ hx)
   by_cases q:spot∈aO rows F y
   ·refine sb (gW (by simpa using q)) (sb mR ?_)
    refine .cons ih (by exact aG hy ((b5 hl.symm))) fun c hc=>?_
    rw [bW,eZ,eZ]
    rcases hk y c hc with hc | ⟨_,rfl⟩
    ·by_cases z:spot∈aO rows F c
     ·exact .inl ⟨hky c hc,by simpa using z⟩
     ·exact .inr ⟨hsub c (cL _ (hky c hc)),by simpa using z⟩
    ·exact .inr ⟨ha c h1,by simpa using hno⟩
   ·exact sb (jE (by simpa using q)) ih
 refine ⟨_,hA h fun zz h=>h,?_,fun i hi=>?_⟩
 ·refine sb fR ?_
  have:∀ (p:Nat→Bool) (l:List Nat),(l.filter p).length+(l.filter fun x=>!p x).length=l.length:=fun p l=>by
   induction l with
   | nil=>rfl
   | cons a l ih=>by_cases q:p a<;>simp [q]<;>(first | exact ad1 ih | exact ad2 ih)
  exact this (fun x=>(aO rows F x).contains spot) T
 ·have:=ha i (by exact aG hi ((b5 hl)))
  rw [bW,eZ,eZ]
  by_cases z:(aO rows F i).contains spot=true
  ·exact .inl ⟨this,z⟩
  ·exact .inr ⟨this,by simpa using z⟩
theorem lC {α:Type} {l:List α} {x:α} {i:Nat}:(l++[x])[i]?=if i<l.length then l[i]? else if i=l.length then some x else none:=by
 by_cases h:i<l.length
 ·exact sb (if_pos h) (sb (OY h) rfl)
 ·refine sb (if_neg h) (sb (List.getElem?_append_right (by exact (mW.mp h))) ?_)
  by_cases e:i=l.length
  ·subst e; simp
  ·exact sb (if_neg e) (sb (EY (by simp; exact ad0 h e)) rfl)
theorem topo_row {rows:List Row} {r:Row} {T:List Nat} (h:eW rows T) (ha:∀ i,i<rows.length→i∈T) (hm:r.mix=[]) (hf:r.fr=[]) (hp:∀ p,r.pN=some p→p<rows.length):eW (rows++[r]) (rows.length::T)∧∀ i,i<(rows++[r]).length→i∈rows.length::T:=by
 have hk:∀ x,x<rows.length→cI (rows++[r]) x=cI rows x:=fun x hx=>by
  unfold cI; exact sb lC (sb (if_pos hx) rfl)
 have hT:∀ {T:List Nat},eW rows T→eW (rows++[r]) T:=fun {T} h=>by
  induction h with
  | nil=>exact .nil
  | cons _ hx hkx ih=>exact .cons ih (by exact sb fR (aG hx (gX _ _))) (by exact sb (hk _ hx) hkx)
 refine ⟨.cons (hT h) (by simp) fun c hc=>?_,fun i hi=>?_⟩
 ·unfold cI at hc
  rw [lC,if_neg (by exact mW.mpr (bZ _)),if_pos rfl] at hc
  simp only [hm,hf,jW,zB] at hc
  exact ha c (hp c hc)
 ·rw [fR,pG] at hi
  by_cases e:i=rows.length
  ·simp [e]
  ·exact cL _ (ha i (by exact acZ hi e))
theorem fB.trans {rows:List Row} {sm:List Nat} {y x:Nat} (h:fB rows sm y) (k:fB rows [y] x):fB rows sm x:=by
 induction k with
 | base h1=>exact sb (cG.mp h1) h
 | step _ hr hx ih=>exact .step ih hr hx
theorem afH {rows:List Row} {sm:List Nat} {x:Nat}:fB rows sm x↔∃ y∈sm,fB rows [y] x:=by
 constructor
 ·intro h
  induction h with
  | base h1=>exact ⟨_,h1,.base (by exact c8)⟩
  | step _ hr hx ih=>refine aV ih fun y hy h=>?_; exact ⟨y,hy,.step h hr hx⟩
 ·rintro ⟨y,hy,h⟩; exact (fB.base hy).trans h
section
variable {σ:Wd} {rows:List Row}
theorem Gr.lt (H:Gr σ rows) {i x:Nat} {r:Row} (hr:rows[i]?=some r) (hx:x∈r.mix++r.fr):x<rows.length:=by
 refine aV (H.kid i r hr x hx) fun r' hr' zz=>?_
 exact (cO.mp hr').1
theorem Gr.closed (H:Gr σ rows):zE rows:=fun r hr x hx=>by
 obtain ⟨i,hi⟩:=nW.mp hr
 exact H.lt hi hx
theorem Gr.kids (H:Gr σ rows) {i:Nat} {r:Row} (hr:rows[i]?=some r):(σ.md r.thing).mixed++(σ.md r.thing).ahead=(r.mix++r.fr).map (aK rows):=by
 exact sb (H.mix i r hr) (sb (H.bX i r hr) (sb dR rfl))
theorem DF (H:Gr σ rows):∀ {F i x:Nat},cM rows F i→i<rows.length→x<rows.length→(aK rows x∈bT σ.md F (aK rows i)↔fB rows [i] x):=by
 intro F i x h hi hx
 constructor
 ·intro q
  induction F generalizing i with
  | zero=>exact h.elim
  | succ F ih =>
   obtain ⟨r,hr⟩:=jR hi
   rcases m9.mp q with e | ⟨c,hc,q⟩
   ·exact sb (H.inj x i hx hi e) (.base (by exact c8))
   ·rw [dZ hr] at hc
    have hc:c∈(σ.md r.thing).mixed++(σ.md r.thing).ahead:=hc
    rw [H.kids hr] at hc
    refine aV (cP.mp hc) fun y hy zq2=>?_
    subst zq2
    have hk:y∈cI rows i:=by
     rcases bW.mp hy with z | z
     ·exact rR hr z
     ·exact jN hr z
    exact (fB.step (.base (by exact c8)) hr hy).trans (ih (h.kids hk) (H.lt hr hy) q)
 ·intro q
  obtain ⟨r,hr⟩:=jR hi
  have D:=oN H h hr
  rw [←dZ hr] at D
  have:∀ {x:Nat},fB rows [i] x→aK rows x∈bT σ.md F (aK rows i):=fun {x} q=>by
   induction q with
   | base h1=>exact sb (cG.mp h1) D.mem
   | @step y x ry _ hry hx ih =>
    refine D.closed ih ?_
    show aK rows x∈(σ.md (aK rows y)).mixed++(σ.md (aK rows y)).ahead
    refine sb (dZ hry) (sb (H.kids hry) ?_)
    exact kR hx
  exact this q
theorem L5 (H:Gr σ rows) (F:WF σ) {n i x:Nat} (h:cM rows n i) (hi:i<rows.length) (hx:x<rows.length):aK rows x∈cB σ (aK rows i)↔fB rows [i] x:=by
 obtain ⟨r,hr⟩:=jR hi
 have D:=oN H h hr
 rw [←dZ hr] at D
 refine sb (oZ F (by exact sb (dZ hr) (H.dom i r hr)) D) ?_
 exact DF H h hi hx
theorem ad8 (H:Gr σ rows) (F:WF σ) {n i x:Nat} {r:Row} (h:cM rows n i) (hr:rows[i]?=some r) (hp:r.pN=none) (hx:x<rows.length):aK rows x∈cB σ (aK rows i)↔x∈aO rows n i:=by
 have D:=oN H h hr
 rw [←dZ hr] at D
 (refine sb (oZ F (by exact sb (dZ hr) (H.dom i r hr)) D) (aY (CR H h hr hp) ?_); rw [cP])
 constructor
 ·rintro ⟨y,hy,e⟩
  exact aY (H.inj y x (iV hy) hx e) hy
 ·exact fun q=>⟨x,q,rfl⟩
theorem ag7 {P:List Nat} {a:Nat} {M:List Nat} (h:a∉P):(P++a::M).takeWhile (fun x=>!decide (x=a))=P:=by
 rw [uQ fun x hx=>by
  have:x≠a:=fun e=>h (e▸hx)
  simpa using this]
 exact sb (tE (by simp)) (sb (jW _) rfl)
theorem PR (H:Gr σ rows) (F:WF σ) {n i x:Nat} {r:Row} (h:cM rows n i) (hr:rows[i]?=some r) (hx:x<rows.length):aK rows x∈jK σ (aK rows i)↔fB rows r.fr x:=by
 induction n using Nat.casesOn with
 | zero=>exact h.elim
 | succ n =>
  have D:=oN H h hr
  have aP:r.thing∉cF (bT σ.md n) (σ.md r.thing).ahead:=fun q=>by
   refine aV (gA.mp q) fun c hc q=>?_
   exact D.self (cW _ hc) q
  have aM:r.thing∉cF (bT σ.md n) (σ.md r.thing).mixed:=fun q=>by
   refine aV (gA.mp q) fun c hc q=>?_
   exact D.self (dD _ hc) q
  unfold jK
  refine sb (dZ hr) (sb (oZ F (H.dom i r hr) D) ?_)
  have e:bT σ.md (n+1) r.thing=cF (bT σ.md n) (σ.md r.thing).ahead++r.thing::(cF (bT σ.md n) (σ.md r.thing).mixed).filter fun k=>!(cF (bT σ.md n) (σ.md r.thing).ahead).contains k:=by
   show cat (cF (bT σ.md n) (σ.md r.thing).ahead) (cat [r.thing] (cF (bT σ.md n) (σ.md r.thing).mixed))=_
   refine sb (tU (f:=[r.thing]) (s:=cF (bT σ.md n) (σ.md r.thing).mixed) (fun x hx=>by rw [cG]; exact fun e=>aM (e▸hx))) ?_
   (rewrite [cat]; exact sb F4 (sb (gW (by simpa using aP)) rfl))
  (refine sb e (sb (ag7 aP) ?_); rewrite [gA]; rewrite [afH]; refine sb (H.bX i r hr) ?_)
  constructor
  ·rintro ⟨c,hc,q⟩
   refine aV (cP.mp hc) fun y hy zq1=>?_
   subst zq1
   exact ⟨y,hy,(DF H (h.kids (jN hr hy)) (H.lt hr (cW _ hy)) hx).mp q⟩
  ·rintro ⟨y,hy,q⟩
   exact ⟨_,kR hy,(DF H (h.kids (jN hr hy)) (H.lt hr (cW _ hy)) hx).mpr q⟩
end
noncomputable def signs:List Str:=["A","B","C","D","X","Y","Integer"]
inductive CV (th:Nat→Addr) (N:Nat) (D:List Addr):Option Value→Option eV→Prop
 | no:CV th N D none none
 | row {j:Nat} (h:j<N):CV th N D (some (.ref (th j))) (some (.row j))
 | num {z:Int} {t:Tok}:CV th N D (some (.int z t)) (some (.num z))
 | thing {a:Addr} (h:a∈D):CV th N D (some (.ref a)) (some (.thing a))
noncomputable def iN (rows:List Row) (i:Nat):Str:=match rows[i]? with
 | some r=>r.path
 | none=>""
structure RL (σ:Wd) (th:Nat→Addr) (pa:Nat→Str) (N n i:Nat) (r:Row):Prop where
 dom:r.thing∈σ.dom
 mix:(σ.md r.thing).mixed=r.mix.map th
 bX:(σ.md r.thing).ahead=r.fr.map th
 par:(r.pN=none∧(σ.md r.thing).parent=.none)∨∃ p,r.pN=some p∧p<i∧(σ.md r.thing).parent=.ref (th p)∧r.cls=true
 cls:(σ.md r.thing).cls=r.cls
 kid:∀ x∈r.mix++r.fr,x<N∧(σ.md (th x)).cls=false
 sz:r.mix.length≤n∧r.fr.length≤n∧r.held.length≤n+2∧(σ.md r.thing).consts.length≤n
 con:∀ s∈signs,CV th N σ.dom (cA σ r.thing s) (r.hh s)
 nat:(σ.md r.thing).native=.none∨∃ s t,(σ.md r.thing).native=.str s t∧s.length≤100
 own:∃ o,(σ.md r.thing).owner=.ref o
 nm:∃ s t,(σ.md r.thing).nameV=.str s t∧(3≤i→s∉univ)∧s.length≤20∧(((σ.md r.thing).outer=.none∧r.path=s)∨∃ j,j<i∧(σ.md r.thing).outer=.ref (th j)∧r.path=pa j++"::"++s)
structure Bs (σ:Wd) (x:Addr) (u:Str) (p:Option Str) (c:Bool):Prop where
 rN:Is σ u x
 nm:∃ t,(σ.md x).nameV=.str u t
 nat:∃ t,(σ.md x).native=.str u t
 par:(p=none∧(σ.md x).parent=.none)∨∃ q y,p=some q∧Is σ q y∧(σ.md x).parent=.ref y
 own:∃ o,(σ.md x).owner=.ref o
 cls:(σ.md x).cls=c
 out:(σ.md x).outer=.none
noncomputable def tL (σ:Wd) (x:Addr) (m:Option Str):Prop:=(m=none∧(σ.md x).mixed=[])∨∃ q y,m=some q∧Is σ q y∧(σ.md x).mixed=[y]
theorem Full.bs {σ:Wd} {x:Addr} {u:Str} {p m:Option Str} {c:Bool} (h:Full σ x u p m c):Bs σ x u p c :=
 ⟨h.rN,h.nm,h.nat,h.par,by refine aV h.own fun y zz e=>?_; exact ⟨y,e⟩,h.cls,h.out⟩
structure LK (σ:Wd) (rows:List Row) (n:Nat):Prop where
 row:∀ (i:Nat) (r:Row),rows[i]?=some r→RL σ (aK rows) (iN rows) rows.length n i r
 inj:∀ (i j:Nat),i<rows.length→j<rows.length→aK rows i=aK rows j→i=j
 num:dT σ
 made:cQ σ
 univ:∀ u v,valueAt σ.made u=some v→u∈univ
 jB:∀ x∈σ.dom,(∃ i,3≤i∧i<rows.length∧aK rows i=x)∨∃ u p m c,Tb u p m c∧Bs σ x u p c∧((∃ i,i<3∧aK rows i=x)∨(tL σ x m∧(σ.md x).ahead=[]))
 b0:Is σ "BasicObject" (aK rows 0)
 b1:Is σ "Kernel" (aK rows 1)
 b2:Is σ "Object" (aK rows 2)
 int:∃ x,Is σ "Integer" x
 cc:∃ x,Is σ "Class" x
 cm:∃ x,Is σ "Module" x
 n3:3≤rows.length
 len:rows.length≤20
 sH:∃ T,eW rows T∧T.length=rows.length∧∀ i,i<rows.length→i∈T
 tot:tot σ+3 * missing σ≤39+5 * n
 i6:∀ x∈σ.dom,(σ.md x).attached=.none∧(σ.md x).own=.none
 nz:n≤100
section
variable {σ:Wd} {rows:List Row} {n:Nat}
theorem LK.at_ (H:LK σ rows n) {i:Nat} (h:i<rows.length):∃ r,rows[i]?=some r∧aK rows i=r.thing∧RL σ (aK rows) (iN rows) rows.length n i r:=by
 obtain ⟨r,hr⟩:=jR h
 exact ⟨r,hr,dZ hr,H.row i r hr⟩
theorem LK.lH (H:LK σ rows n) {i:Nat} (h:i<rows.length):aK rows i∈σ.dom:=by
 refine c7 (H.at_ h) fun r zz e R=>?_
 exact sb e R.dom
theorem LK.rM (H:LK σ rows n) {u:Str} {x:Addr} (h:Is σ u x):x∈σ.dom∧∃ t,(σ.md x).nameV=.str u t:=by
 refine c7 (H.made.at_ u _ h) fun y e hy t=>?_
 cases e; exact ⟨hy,t⟩
theorem LK.bs (H:LK σ rows n) {u:Str} {x:Addr} (h:Is σ u x):∃ p m c,Tb u p m c∧Bs σ x u p c∧((∃ i,i<3∧aK rows i=x)∨(tL σ x m∧(σ.md x).ahead=[])):=by
 obtain ⟨hx,t,e⟩:=H.rM h
 rcases H.jB x hx with ⟨i,h3,hi,rfl⟩ | ⟨u',p,m,c,T,b,o⟩
 ·refine c7 (H.at_ hi) fun r zz e2 R=>?_
  refine kN R.nm fun s t2 e3 e4 zz=>?_
  rw [e2,e3] at e
  cases e
  exact absurd (H.univ _ _ h) (e4 h3)
 ·obtain ⟨t2,e3⟩:=b.nm
  rw [e3] at e
  cases e
  exact ⟨p,m,c,T,b,o⟩
theorem LK.QX (H:LK σ rows n) {q:Str} {y:Addr} {u:Str} {p:Option Str} {c:Bool} (h:Is σ q y) (T:Tb u p (some q) c):(σ.md y).cls=false:=by
 refine mL (H.bs h) fun p' m' c' T' b zz=>?_
 refine sb b.cls ?_
 exact (T.JP T').1
theorem LK.gr (H:LK σ rows n):Gr σ rows:=by
 refine ⟨H.inj,fun i r hr=>(H.row i r hr).dom,fun i r hr=>(H.row i r hr).mix,fun i r hr=>(H.row i r hr).bX,fun i r hr=>?_,fun i r hr x hx=>?_⟩
 ·rcases (H.row i r hr).par with h | ⟨p,h1,h2,h3,_⟩
  ·exact .inl h
  ·exact .inr ⟨p,h1,z8 h2 (cO.mp hr).1,h3⟩
 ·obtain ⟨h1,h2⟩:=(H.row i r hr).kid x hx
  refine c7 (H.at_ h1) fun r' hr' e R=>?_
  refine ⟨r',hr',?_⟩
  rcases R.par with h | ⟨p,_,_,_,h⟩
  ·exact h.1
  ·rw [e,R.cls,h] at h2; exact rY h2
theorem LK.jJ (H:LK σ rows n) {F:Nat} (hF:rows.length≤F):pJ rows F:=by
 refine c7 H.sH fun T hT hl ha=>?_
 exact hT.jJ ha (by exact aG (b5 hl) hF)
theorem afN {σ:Wd}:rest σ.md σ.dom []=tot σ:=by
 unfold rest tot
 have:(σ.dom.filter fun a=>!([]:List Nat).contains a)=σ.dom:=sY.mpr fun zz zz=>rfl
 exact sb this ((by rfl))
theorem RO {σ:Wd}:2 * σ.dom.length≤tot σ:=by
 unfold tot
 generalize σ.dom=l
 induction l with
 | nil=>exact bY _ _
 | cons a l ih =>
  have:wt σ.md a=2+(σ.md a).mixed.length+(σ.md a).ahead.length:=rfl
  exact sb cK (sb kT (sb qQ (dQ ih (b5 this.symm) (by simp +arith only))))
theorem LK.wf (H:LK σ rows n):WF σ:=by
 have hrow:∀ (i:Nat) (x:Addr),i<rows.length→x∈(σ.md (aK rows i)).mixed++(σ.md (aK rows i)).ahead→x∈σ.dom:=fun i x hi hx=>by
  refine c7 (H.at_ hi) fun r hr e R=>?_
  rw [e,R.mix,R.bX,←dR] at hx
  refine aV (cP.mp hx) fun j hj zq5=>?_
  subst zq5
  exact H.lH (R.kid j hj).1
 have all:∀ a∈σ.dom,∀ x∈(σ.md a).mixed++(σ.md a).ahead,x∈σ.dom:=fun a ha x hx=>by
  rcases H.jB a ha with ⟨i,_,hi,rfl⟩ | ⟨u,p,m,c,T,b,⟨i,hi,rfl⟩ | ⟨h1,h2⟩⟩
  ·exact hrow i x hi hx
  ·exact hrow i x (by have:=H.n3; exact aG hi this) hx
  ·rw [h2,jW] at hx
   rcases h1 with ⟨_,e⟩ | ⟨q,y,_,hy,e⟩
   ·rw [e] at hx; cases hx
   ·rw [e,cG] at hx; exact sb hx ((H.rM hy).1)
 refine ⟨H.num.inj,H.num.nd,fun a ha x hx=>all a ha x (dD _ hx),fun a ha x hx=>all a ha x (cW _ hx),?_⟩
 refine sb afN ?_
 have:=H.tot
 have:=H.nz
 omega
noncomputable def nD (u:Str):Nat:=if u=("Module":Str) then 3 else if u=("Class":Str) then 4 else if u=("Numeric":Str) then 3 else if u=("Integer":Str) then 4 else if u=("Exception":Str) then 3 else if u=("StandardError":Str) then 4 else if u=("ArgumentError":Str) then 5 else if u=("NameError":Str) then 5 else 3
noncomputable def afP:Value→Nat
 | .str u _=>nD u
 | _=>0
noncomputable def eY (σ:Wd) (rows:List Row) (x:Addr):Nat:=if x∈rows.map (·.thing) then (rows.map (·.thing)).idxOf x else afP (σ.md x).nameV
theorem sG {i:Nat} (h:i<rows.length):aK rows i∈rows.map (·.thing):=by
 obtain ⟨r,hr⟩:=jR h
 exact sb (dZ hr) (kR (cE hr))
theorem JO {x:Addr} (h:x∈rows.map (·.thing)):∃ i,i<rows.length∧aK rows i=x:=by
 refine aV (cP.mp h) fun r hr zq4=>?_
 subst zq4
 obtain ⟨i,hi⟩:=nW.mp hr
 exact ⟨i,(cO.mp hi).1,dZ hi⟩
theorem LK.idx (H:LK σ rows n) {i:Nat} (h:i<rows.length):(rows.map (·.thing)).idxOf (aK rows i)=i:=by
 have h1:=OZ.mpr (sG h)
 have h2:=List.getElem_idxOf h1
 rw [cT] at h1
 refine H.inj _ i h1 h ?_
 rw [EZ] at h2
 refine sb (dZ (lK h1)) ?_
 exact h2
theorem LK.rk (H:LK σ rows n) {i:Nat} (h:i<rows.length):eY σ rows (aK rows i)=i:=by
 unfold eY; exact sb (if_pos (sG h)) (sb (H.idx h) rfl)
theorem afO (u:Str):nD u≤5:=by
 unfold nD; repeat' split
 all_goals decide
theorem Tb.rk {u q:Str} {m p' m':Option Str} {c c':Bool} (h:Tb u (some q) m c) (k:Tb q p' m' c') (hu:u≠"Object") (hq:q≠"Object"∧q≠"BasicObject"):nD q<nD u:=by
 cases h<;>first | decide | exact absurd rfl hu | exact absurd rfl hq.1 | exact absurd rfl hq.2
theorem LK.ups (H:LK σ rows n):n7 σ (eY σ rows):=by
 have h3:=H.n3
 have hz:=H.len
 have hrow:∀ i,i<rows.length→eY σ rows (aK rows i)≤1000∧((σ.md (aK rows i)).parent=.none∨∃ b,(σ.md (aK rows i)).parent=.ref b∧b∈σ.dom∧eY σ rows b<eY σ rows (aK rows i)):=fun i hi=>by
  refine c7 (H.at_ hi) fun r hr e R=>?_
  refine ⟨by rw [H.rk hi]; exact aG (cZ hi) (aG hz (ble rfl)),?_⟩
  rcases R.par with h | ⟨p,_,h2,h4,_⟩
  ·exact .inl (by exact sb e h.2)
  ·exact .inr ⟨aK rows p,by refine sb e ?_; exact h4,H.lH (by exact aG h2 ((cZ hi))),by exact sb (H.rk hi) (sb (H.rk (by exact aG h2 ((cZ hi)):p<rows.length)) h2)⟩
 intro a ha
 by_cases hm:a∈rows.map (·.thing)
 ·refine aV (JO hm) fun i hi zq3=>?_
  subst zq3
  exact hrow i hi
 ·rcases H.jB a ha with ⟨i,_,hi,rfl⟩ | ⟨u,p,m,c,T,b,_⟩
  ·exact absurd (sG hi) hm
  ·obtain ⟨t,en⟩:=b.nm
   have ea:eY σ rows a=nD u:=by unfold eY; refine sb (if_neg hm) (sb en ?_); rfl
   have hu:u≠"Object":=by
    rintro rfl
    have:=b.rN
    unfold Is at this
    rw [H.b2] at this
    cases this
    exact hm (sG (by exact h3))
   refine ⟨by refine sb ea ?_; have:=afO u; exact aG this (ble rfl),?_⟩
   rcases b.par with h | ⟨q,y,rfl,hy,e⟩
   ·exact .inl h.2
   ·refine .inr ⟨y,e,(H.rM hy).1,?_⟩
    refine sb ea ?_
    refine mL (H.bs hy) fun p' m' c' T' b' zz=>?_
    obtain ⟨t',en'⟩:=b'.nm
    by_cases hm':y∈rows.map (·.thing)
    ·refine aV (JO hm') fun i hi zq2=>?_
     subst zq2
     refine sb (H.rk hi) ?_
     have:i<3:=by
      refine Nat.lt_of_not_le fun hle=>?_
      refine c7 (H.at_ hi) fun r zz e2 R=>?_
      refine kN R.nm fun s t2 e3 e4 zz=>?_
      rw [e2,e3] at en'
      cases en'
      exact e4 hle (H.univ _ _ hy)
     have:3≤nD u:=by
      unfold nD; repeat' split
      all_goals decide
     exact aG (by assumption) this
    ·have ey:eY σ rows y=nD q:=by unfold eY; refine sb (if_neg hm') (sb en' ?_); rfl
     refine sb ey ?_
     refine T.rk T' hu ⟨?_,?_⟩<;>rintro rfl
     ·unfold Is at hy; rw [H.b2] at hy; cases hy; exact hm' (sG (by exact h3))
     ·unfold Is at hy; rw [H.b0] at hy; cases hy; exact hm' (sG (by exact aG (ble rfl) h3))
theorem LK.kinds (H:LK σ rows n):Kinds σ:=by
 have h3:=H.n3
 refine ⟨fun a ha hp=>?_,fun a ha x hx=>?_⟩
 ·have hrow:∀ i,i<rows.length→aK rows i=a→(σ.md a).cls=true:=fun i hi e0=>by
   refine c7 (H.at_ hi) fun r hr e R=>?_
   rw [←e0,e] at hp ⊢
   rcases R.par with h | ⟨p,_,_,_,h⟩
   ·exact absurd h.2 hp
   ·exact sb R.cls (sb h rfl)
  rcases H.jB a ha with ⟨i,_,hi,e⟩ | ⟨u,p,m,c,T,b,_⟩
  ·exact hrow i hi e
  ·refine sb b.cls ?_
   rcases b.par with h | ⟨q,y,rfl,_⟩
   ·exact absurd h.2 hp
   ·cases T<;>rfl
 ·have hrow:∀ i,i<rows.length→aK rows i=a→(σ.md x).cls=false:=fun i hi e0=>by
   refine c7 (H.at_ hi) fun r hr e R=>?_
   rw [←e0,e,R.mix,R.bX,←dR] at hx
   refine aV (cP.mp hx) fun j hj zq1=>?_
   subst zq1
   exact (R.kid j hj).2
  rcases H.jB a ha with ⟨i,_,hi,e⟩ | ⟨u,p,m,c,T,b,⟨i,hi,e⟩ | ⟨h1,h2⟩⟩
  ·exact hrow i hi e
  ·exact hrow i (by exact aG hi h3) e
  ·rw [h2,jW] at hx
   rcases h1 with ⟨_,e⟩ | ⟨q,y,rfl,hy,e⟩
   ·rw [e] at hx; cases hx
   ·rw [e,cG] at hx; exact sb hx (H.QX hy T)
theorem LK.hgt (H:LK σ rows n):∀ a∈σ.dom,∃ g,iS σ.md g a:=by
 have h3:=H.n3
 have hrow:∀ i,i<rows.length→∃ g,iS σ.md g (aK rows i):=fun i hi=>by
  refine c7 (H.at_ hi) fun r hr e R=>?_
  exact ⟨_,e▸oN H.gr (H.jJ (bZ _) i hi) hr⟩
 have one:∀ x∈σ.dom,(∀ u p m c,Tb u p m c→Bs σ x u p c→m=none)→∃ g,iS σ.md g x:=fun x hx hm=>by
  rcases H.jB x hx with ⟨i,_,hi,rfl⟩ | ⟨u,p,m,c,T,b,⟨i,hi,rfl⟩ | ⟨h1,h2⟩⟩
  ·exact hrow i hi
  ·exact hrow i (by exact aG hi h3)
  ·have:=hm u p m c T b
   subst this
   rcases h1 with ⟨_,e⟩ | ⟨q,y,h,_⟩
   ·refine ⟨1,fun c hc=>?_,fun c hc=>?_⟩
    ·have hc:c∈(σ.md x).mixed:=hc
     rw [e] at hc; cases hc
    ·have hc:c∈(σ.md x).ahead:=hc
     rw [h2] at hc; cases hc
   ·exact bM h
 intro a ha
 rcases H.jB a ha with ⟨i,_,hi,rfl⟩ | ⟨u,p,m,c,T,b,⟨i,hi,rfl⟩ | ⟨h1,h2⟩⟩
 ·exact hrow i hi
 ·exact hrow i (by exact aG hi h3)
 ·rcases h1 with ⟨_,e⟩ | ⟨q,y,rfl,hy,e⟩
  ·refine ⟨1,fun c hc=>?_,fun c hc=>?_⟩
   ·have hc:c∈(σ.md a).mixed:=hc
    rw [e] at hc; cases hc
   ·have hc:c∈(σ.md a).ahead:=hc
    rw [h2] at hc; cases hc
  ·obtain ⟨g,hg⟩:=one y (H.rM hy).1 fun u' p' m' c' T' b'=>by
    obtain ⟨_,_⟩:=H.rM hy
    have:u'=q:=by
     obtain ⟨t,e1⟩:=b'.nm
     obtain ⟨_,t2,e2⟩:=H.rM hy
     rw [e1] at e2; cases e2; rfl
    subst this
    exact (T.JP T').2
   refine ⟨g+1,fun c hc=>?_,fun c hc=>?_⟩
   ·have hc:c∈(σ.md a).mixed:=hc
    rw [e,cG] at hc; exact sb hc hg
   ·have hc:c∈(σ.md a).ahead:=hc
    rw [h2] at hc; cases hc
theorem LK.RP (H:LK σ rows n):σ.dom.length≤1000:=by
 have:=RO (σ:=σ)
 have:=H.tot
 have:=H.nz
 omega
theorem LK.line (H:LK σ rows n):vU σ (fK σ):=X8 H.wf H.ups H.kinds H.hgt (by have:=H.RP; exact aG this (ble rfl))
theorem LK.JS (H:LK σ rows n):∀ a∈σ.dom,(σ.md a).native=.none∨∃ s t,(σ.md a).native=.str s t∧s.length≤100:=fun a ha=>by
 rcases H.jB a ha with ⟨i,_,hi,rfl⟩ | ⟨u,p,m,c,T,b,_⟩
 ·refine c7 (H.at_ hi) fun r zz e R=>?_
  exact sb e R.nat
 ·obtain ⟨t,e⟩:=b.nat
  exact .inr ⟨u,t,e,T.len⟩
theorem LK.lines (H:LK σ rows n) {G:Gh} (K:∀ a∈σ.dom,dM G σ (fK σ) a):vV G σ (fK σ) :=
 ⟨H.wf,H.line,⟨_,H.ups⟩,K,fun a ha=>by rcases H.JS a ha with e | ⟨s,t,e,_⟩<;>refine sb e ?_<;>rfl⟩
theorem LK.JB (H:LK σ rows n) {i:Nat} (h:i<rows.length) {F:Nat} (hF:rows.length≤F) (hz:F≤1001):fK σ (aK rows i)=(aO rows F i).map (aK rows):=M6 H.gr H.wf (H.jJ hF i h) hz
theorem LK.small (H:LK σ rows n):n6 rows:=n6.of (H.jJ (bZ _)) (by have:=H.len; exact aG this (ble rfl))
end
theorem DK {a b c d n n':Nat} (h:n≤n') (s:a≤n∧b≤n∧c≤n+2∧d≤n):a≤n'∧b≤n'∧c≤n'+2∧d≤n':=⟨aG s.1 h,aG s.2.1 h,aG s.2.2.1 (vM h 2),aG s.2.2.2 h⟩
structure vR (σ σ':Wd):Prop where
 dom:∀ x∈σ.dom,x∈σ'.dom
 md:∀ x∈σ.dom,∃ v,σ'.md x={σ.md x with kept:=v}
 made:∀ u v,valueAt σ.made u=some v→valueAt σ'.made u=some v
 m7:∀ u v,valueAt σ'.made u=some v→valueAt σ.made u=some v∨u∈univ
 num:dT σ'
 ZP:cQ σ'
 tot:tot σ'+3 * missing σ'≤tot σ+3 * missing σ
 new:∀ x∈σ'.dom,x∈σ.dom∨∃ u p m c,Tb u p m c∧Full σ' x u p m c
theorem Ext.k {σ σ':Wd} (E:Ext σ σ') (N:dT σ) (M:cQ σ'):vR σ σ' :=
 ⟨E.dom,fun x hx=>⟨(σ.md x).kept,by exact sb (E.md x hx) rfl⟩,E.made,E.m7,(E.num N).1,M,(E.num N).2,E.new⟩
theorem dT.kp {σ:Wd} (N:dT σ) (κ:Addr→Value):dT (σ.kp κ):=⟨N.inj,N.le,N.nd⟩
theorem vR.kp {σ:Wd} (N:dT σ) (M:cQ σ) (κ:Addr→Value):vR σ (σ.kp κ) :=
 ⟨fun zz h=>h,fun x zz=>⟨κ x,rfl⟩,fun zz zz h=>h,fun zz zz h=>.inl h,N.kp κ,⟨M.at_,M.len⟩,bZ _,fun zz h=>.inl h⟩
theorem CV.mono {th th':Nat→Addr} {N N':Nat} {D D':List Addr} {o:Option Value} {h:Option eV} (x:CV th N D o h) (hN:N≤N') (ht:∀ j,j<N→th' j=th j) (hD:∀ a∈D,a∈D'):CV th' N' D' o h:=by
 cases x with
 | no=>exact .no
 | row h=>exact aY (ht _ h) (.row (by exact aG h hN))
 | num=>exact .num
 | thing h=>exact .thing (hD _ h)
theorem MF {s:Str} (h:s∈signs):s="Integer"∨s∉univ:=by
 simp only [signs,cU,qT,or_false] at h
 rcases h with rfl | rfl | rfl | rfl | rfl | rfl | rfl<;>first | exact .inl rfl | exact .inr (by decide)
section
variable {σ σ':Wd} {rows:List Row} {n:Nat}
theorem LK.sign (H:LK σ rows n) {s:Str} (h:s∈signs) (hm:∀ u v,valueAt σ'.made u=some v→u∈Mine.univ) (hi:∀ u v,valueAt σ.made u=some v→valueAt σ'.made u=some v):valueAt σ'.made s=valueAt σ.made s:=by
 rcases MF h with rfl | hn
 ·obtain ⟨x,hx⟩:=H.int
  exact sb hx (sb (hi _ _ hx) rfl)
 ·have e:∀ τ:Wd,(∀ u v,valueAt τ.made u=some v→u∈Mine.univ)→valueAt τ.made s=none:=fun τ h=>by
   cases q:valueAt τ.made s with
   | none=>rfl
   | some v=>exact absurd (h _ _ q) hn
  exact sb (e σ' hm) (sb (e σ H.univ) ((by rfl)))
theorem LK.ext (H:LK σ rows n) (E:vR σ σ'):LK σ' rows n:=by
 have h3:=H.n3
 have hu:∀ u v,valueAt σ'.made u=some v→u∈Mine.univ:=fun u v h=>(E.m7 u v h).elim (H.univ u v) id
 have is_:∀ {u:Str} {x:Addr},Is σ u x→Is σ' u x:=fun h=>E.made _ _ h
 refine ⟨fun i r hr=>?_,H.inj,E.num,E.ZP,hu,fun x hx=>?_,is_ H.b0,is_ H.b1,is_ H.b2,(by obtain ⟨x,h⟩:=H.int; exact ⟨x,is_ h⟩),(by obtain ⟨x,h⟩:=H.cc; exact ⟨x,is_ h⟩),(by obtain ⟨x,h⟩:=H.cm; exact ⟨x,is_ h⟩),h3,H.len,H.sH,aG E.tot H.tot,fun x hx=>?_,H.nz⟩
 ·have R:=H.row i r hr
  obtain ⟨v,e⟩:=E.md r.thing R.dom
  have ec:∀ s∈signs,cA σ' r.thing s=cA σ r.thing s:=fun s hs=>by
   unfold cA; exact sb e (sb (H.sign hs hu E.made) rfl)
  refine ⟨E.dom _ R.dom,by refine sb e ?_; exact R.mix,by refine sb e ?_; exact R.bX,by refine sb e ?_; exact R.par,by refine sb e ?_; exact R.cls,fun x hx=>?_,by refine sb e ?_; exact R.sz,fun s hs=>?_,by refine sb e ?_; exact R.nat,by refine sb e ?_; exact R.own,by exact sb e R.nm⟩
  ·obtain ⟨h1,h2⟩:=R.kid x hx
   obtain ⟨v',e'⟩:=E.md _ (H.lH h1)
   exact ⟨h1,by exact sb e' h2⟩
  ·exact sb (ec s hs) ((R.con s hs).mono (bZ _) (fun zz zz=>rfl) E.dom)
 ·rcases E.new x hx with h | ⟨u,p,m,c,T,f⟩
  ·obtain ⟨v,e⟩:=E.md x h
   rcases H.jB x h with h | ⟨u,p,m,c,T,b,o⟩
   ·exact .inl h
   ·refine .inr ⟨u,p,m,c,T,⟨is_ b.rN,by refine sb e ?_; exact b.nm,by refine sb e ?_; exact b.nat,?_,by refine sb e ?_; exact b.own,by refine sb e ?_; exact b.cls,by exact sb e b.out⟩,o.imp id fun ⟨h1,h2⟩=>⟨?_,by exact sb e h2⟩⟩
    ·exact sb e (b.par.imp id fun ⟨q,y,h1,h2,h3⟩=>⟨q,y,h1,is_ h2,h3⟩)
    ·unfold tL; exact sb e (h1.imp id fun ⟨q,y,h1,h2,h3⟩=>⟨q,y,h1,is_ h2,h3⟩)
  ·exact .inr ⟨u,p,m,c,T,f.bs,.inr ⟨f.mix,f.bX⟩⟩
 ·rcases E.new x hx with h | ⟨u,p,m,c,T,f⟩
  ·obtain ⟨v,e⟩:=E.md x h
   exact sb e (H.i6 x h)
  ·exact ⟨f.i6,f.ow⟩
theorem agD {i:Nat} {r r':Row} (hr:rows[i]?=some r) (e:r'.thing=r.thing):aK (rows.set i r')=aK rows:=by
 funext j
 unfold aK
 have hi:=(cO.mp hr).1
 by_cases h:i=j
 ·subst h; exact sb (tC hi) (sb hr e)
 ·exact sb (tB h) ((by rfl))
theorem adC {i:Nat} {r r':Row} (hr:rows[i]?=some r) (e:r'.path=r.path):iN (rows.set i r')=iN rows:=by
 funext j
 unfold iN
 have hi:=(cO.mp hr).1
 by_cases h:i=j
 ·subst h; exact sb (tC hi) (sb hr e)
 ·rw [tB h]
theorem LK.MY (H:LK σ rows n) {i:Nat} {r r':Row} {c':List (Str×Value)} {m' h':List Addr} (hr:rows[i]?=some r) (ed:σ'.dom=σ.dom) (em:σ'.made=σ.made) (el:σ'.last=σ.last) (eo:∀ x,x≠r.thing→σ'.md x=σ.md x)
  (ea:σ'.md r.thing={σ.md r.thing with consts:=c',mixed:=m',ahead:=h'}) (er:r'.thing=r.thing∧r'.cls=r.cls∧r'.pN=r.pN∧r'.path=r.path) (hm:m'=r'.mix.map (aK rows)) (hh:h'=r'.fr.map (aK rows)) (hk:∀ x∈r'.mix++r'.fr,x<rows.length∧(σ.md (aK rows x)).cls=false)
  (hs:r'.mix.length≤n+1∧r'.fr.length≤n+1∧r'.held.length≤n+3∧c'.length≤n+1) (hc:∀ s∈signs,CV (aK rows) rows.length σ.dom (cA σ' r.thing s) (r'.hh s)) (ht:∃ T,eW (rows.set i r') T∧T.length=rows.length∧∀ j,j<rows.length→j∈T)
  (hz:m'.length+h'.length≤(σ.md r.thing).mixed.length+(σ.md r.thing).ahead.length+5) (hn:n+1≤100):LK σ' (rows.set i r') (n+1):=by
 have h3:=H.n3
 have hi:=(cO.mp hr).1
 have hd:r.thing∈σ.dom:=(H.row i r hr).dom
 have e1:=agD hr er.1
 have e2:=adC hr er.2.2.2
 have is_:∀ {u:Str} {x:Addr},Is σ u x→Is σ' u x:=fun h=>by unfold Is; exact sb em h
 have par:∀ x,(σ'.md x).parent=(σ.md x).parent∧(σ'.md x).cls=(σ.md x).cls∧(σ'.md x).native=(σ.md x).native∧(σ'.md x).owner=(σ.md x).owner∧(σ'.md x).nameV=(σ.md x).nameV∧(σ'.md x).outer=(σ.md x).outer∧(σ'.md x).num=(σ.md x).num∧(σ'.md x).attached=(σ.md x).attached∧(σ'.md x).own=(σ.md x).own:=fun x=>by
  by_cases h:x=r.thing
  ·exact sb h (sb ea (⟨rfl,rfl,rfl,rfl,rfl,rfl,rfl,rfl,rfl⟩))
  ·exact sb (eo x h) (⟨rfl,rfl,rfl,rfl,rfl,rfl,rfl,rfl,rfl⟩)
 have hnum:dT σ':=⟨H.num.inj.of ed fun a=>(par a).2.2.2.2.2.2.1,fun a ha=>by refine sb ((par a).2.2.2.2.2.2.1) (sb el ?_); exact H.num.le a (ed▸ha),by exact sb ed H.num.nd⟩
 refine ⟨fun j q hq=>?_,?_,hnum,⟨fun u v hv=>?_,?_⟩,fun u v hv=>H.univ u v (em▸hv),fun x hx=>?_,?_,?_,?_,(by obtain ⟨x,h⟩:=H.int; exact ⟨x,is_ h⟩),(by obtain ⟨x,h⟩:=H.cc; exact ⟨x,is_ h⟩),(by obtain ⟨x,h⟩:=H.cm; exact ⟨x,is_ h⟩),by rw [eU]; exact h3,by rw [eU]; exact H.len,by rw [eU]; exact ht,?_,fun x hx=>?_,hn⟩
 ·refine sb e1 (sb e2 (sb eU ?_))
  by_cases h:i=j
  ·subst h
   rw [tC hi] at hq
   obtain rfl:=bO hq
   have R:=H.row i r hr
   refine OI (par r.thing) fun p1 p2 p3 p4 p5 p6 zz=>?_
   rw [er.1.symm] at p1 p2 p3 p4 p5 p6
   refine ⟨by rw [er.1,ed]; exact hd,by rw [er.1,ea]; exact hm,by rw [er.1,ea]; exact hh,?_,?_,fun x hx=>?_,?_,fun s hs=>?_,?_,?_,?_⟩
   ·exact sb p1 (sb er.1 (sb er.2.1 (sb er.2.2.1 R.par)))
   ·exact sb p2 (sb er.1 (sb er.2.1 R.cls))
   ·exact sb ((par _).2.1) (hk x hx)
   ·exact sb er.1 (sb ea hs)
   ·exact sb er.1 (sb ed (hc s hs))
   ·exact sb p3 (sb er.1 R.nat)
   ·exact sb p4 (sb er.1 R.own)
   ·rw [p5,p6,er.1,er.2.2.2]; exact R.nm
  ·rw [tB h] at hq
   have R:=H.row j q hq
   have hne:q.thing≠r.thing:=fun e=>h (H.inj i j hi (cO.mp hq).1 (by exact sb (dZ hr) (sb (dZ hq) (sb e rfl))))
   have e:=eo _ hne
   have ec:∀ s,cA σ' q.thing s=cA σ q.thing s:=fun s=>by unfold cA; exact sb e (sb em rfl)
   refine ⟨by refine sb ed ?_; exact R.dom,by refine sb e ?_; exact R.mix,by refine sb e ?_; exact R.bX,by refine sb e ?_; exact R.par,by refine sb e ?_; exact R.cls,fun x hx=>by refine sb ((par _).2.1) ?_; exact R.kid x hx,?_,fun s hs=>by refine sb (ec _) (sb ed ?_); exact R.con s hs,by refine sb e ?_; exact R.nat,by refine sb e ?_; exact R.own,by exact sb e R.nm⟩
   exact sb e (DK (j6 _) R.sz)
 ·rw [e1,eU]; exact H.inj
 ·rw [em] at hv
  refine c7 (H.made.at_ u v hv) fun x h1 h2 h4=>?_
  exact ⟨x,h1,ed▸h2,by rw [(par x).2.2.2.2.1]; exact h4⟩
 ·have:=H.made.len
  unfold missing at *
  rw [em]; exact this
 ·rw [ed] at hx
  refine sb e1 (sb eU ?_)
  rcases H.jB x hx with h | ⟨u,p,m,c,T,b,o⟩
  ·exact .inl h
  ·refine OI (par x) fun p1 p2 p3 p4 p5 p6 zz=>?_
   refine .inr ⟨u,p,m,c,T,⟨is_ b.rN,by refine sb p5 ?_; exact b.nm,by refine sb p3 ?_; exact b.nat,?_,by refine sb p4 ?_; exact b.own,by refine sb p2 ?_; exact b.cls,by exact sb p6 b.out⟩,?_⟩
   ·exact sb p1 (b.par.imp id fun ⟨q,y,h1,h2,h4⟩=>⟨q,y,h1,is_ h2,h4⟩)
   ·rcases o with h | ⟨h1,h2⟩
    ·exact .inl h
    ·by_cases hx':x=r.thing
     ·left
      refine ⟨i,Nat.lt_of_not_le fun h3i=>?_,by exact sb (dZ hr) (sb hx' rfl)⟩
      refine kN ((H.row i r hr).nm) fun s t e hs3 zz=>?_
      obtain ⟨t',e'⟩:=b.nm
      rw [hx',e] at e'
      cases e'
      exact hs3 h3i T.mem
     ·right
      refine sb (eo x hx') ?_
      refine ⟨?_,h2⟩
      unfold tL; refine sb (eo x hx') ?_
      exact h1.imp id fun ⟨q,y,h1,h2,h4⟩=>⟨q,y,h1,is_ h2,h4⟩
 ·rw [e1]; exact is_ H.b0
 ·rw [e1]; exact is_ H.b1
 ·rw [e1]; exact is_ H.b2
 ·have h1:Mine.tot σ'≤Mine.tot σ+5:=by
   unfold Mine.tot
   refine sb ed ?_
   have:∀ l:List Addr,l.Nodup→(l.map (wt σ'.md)).sum≤(l.map (wt σ.md)).sum+(if r.thing∈l then 5 else 0):=fun l=>by
    induction l with
    | nil=>intro _; exact bZ _
    | cons x l ih =>
     intro hnd
     rw [iH] at hnd
     have ih:=ih hnd.2
     refine sb cK (sb cK (sb kT (sb kT ?_)))
     by_cases hx:x=r.thing
     ·subst hx
      rw [if_neg hnd.1] at ih
      have w1:wt σ'.md r.thing=2+m'.length+h'.length:=by unfold wt; exact sb ea rfl
      have w2:wt σ.md r.thing=2+(σ.md r.thing).mixed.length+(σ.md r.thing).ahead.length:=rfl
      exact sb (if_pos c8) (aaW hz ih w1 w2)
     ·have w1:wt σ'.md x=wt σ.md x:=by unfold wt; exact sb (eo x hx) rfl
      have:(if r.thing∈l then 5 else 0)≤(if r.thing∈x::l then 5 else 0):=by
       by_cases q:r.thing∈l
       ·exact sb (if_pos q) (sb (if_pos (cL _ q)) (bZ _))
       ·exact sb (if_neg q) (nY _)
      exact fX ih (b5 w1) this (by simp +arith only)
   have:=this σ.dom H.num.nd
   rw [if_pos hd] at this
   exact this
  have h2:missing σ'=missing σ:=by unfold missing; rw [em]
  have:=H.tot
  exact aaV h1 h2 this
 ·obtain ⟨_,_,_,_,_,_,_,p8,p9⟩:=par x
  exact sb p8 (sb p9 (H.i6 x (ed▸hx)))
end
theorem RL.mono {σ σ':Wd} {th th':Nat→Addr} {pa pa':Nat→Str} {N N' n n' i:Nat} {r:Row} (R:RL σ th pa N n i r) (hi:i<N) (hN:N≤N') (hn:n≤n') (ht:∀ j,j<N→th' j=th j) (hp:∀ j,j<N→pa' j=pa j) (hd:∀ a∈σ.dom,a∈σ'.dom) (hm:σ'.made=σ.made) (he:∀ a∈σ.dom,σ'.md a=σ.md a) (htd:∀ j,j<N→th j∈σ.dom):RL σ' th' pa' N' n' i r:=by
 have e:=he _ R.dom
 have hmap:∀ l:List Nat,(∀ x∈l,x<N)→l.map th'=l.map th:=fun l h=>qR fun x hx=>ht x (h x hx)
 have ec:∀ s,cA σ' r.thing s=cA σ r.thing s:=fun s=>by unfold cA; exact sb e (sb hm rfl)
 refine ⟨hd _ R.dom,?_,?_,?_,by rw [e]; exact R.cls,fun x hx=>?_,?_,fun s hs=>by rw [ec]; exact (R.con s hs).mono hN ht hd,by rw [e]; exact R.nat,by rw [e]; exact R.own,?_⟩
 ·exact sb e (sb (hmap _ fun x hx=>(R.kid x (dD _ hx)).1) R.mix)
 ·exact sb e (sb (hmap _ fun x hx=>(R.kid x (cW _ hx)).1) R.bX)
 ·refine sb e ?_
  exact R.par.imp id fun ⟨p,h1,h2,h3,h4⟩=>⟨p,h1,h2,by rw [ht p (by exact aG h2 ((cZ hi)))]; exact h3,h4⟩
 ·obtain ⟨h1,h2⟩:=R.kid x hx
  refine ⟨by exact aG h1 hN,?_⟩
  exact sb (ht x h1) (sb (he _ (htd x h1)) h2)
 ·exact sb e (DK (by first | assumption | exact j6 _) R.sz)
 ·refine sb e ?_
  refine j0 R.nm fun s t h1 h2 h3 h4=>?_
  exact ⟨s,t,h1,h2,h3,h4.imp id fun ⟨j,h5,h6,h7⟩=>⟨j,h5,by refine sb (ht j (by exact aG h5 ((cZ hi)))) ?_; exact h6,by exact sb (hp j (by exact aG h5 ((cZ hi)))) h7⟩⟩
section
variable {σ σ':Wd} {rows:List Row} {n:Nat}
theorem nJ {rn:Row} {j:Nat} (h:j<rows.length):aK (rows++[rn]) j=aK rows j:=by
 unfold aK; exact sb lC (sb (if_pos h) rfl)
theorem L6 {rn:Row} {j:Nat} (h:j<rows.length):iN (rows++[rn]) j=iN rows j:=by
 unfold iN; exact sb lC (sb (if_pos h) rfl)
theorem DO {rn:Row}:aK (rows++[rn]) rows.length=rn.thing:=by
 unfold aK; exact sb lC (sb (if_neg (by exact mW.mpr (bZ _))) (sb (if_pos rfl) rfl))
theorem LK.add (H:LK σ rows n) {rn:Row} (hb:rn.thing∉σ.dom) (ed:σ'.dom=σ.dom++[rn.thing]) (em:σ'.made=σ.made) (el:σ'.last=σ.last+1) (eo:∀ x∈σ.dom,σ'.md x=σ.md x)
  (e1:(σ'.md rn.thing).num=σ.last+1) (e2:(σ'.md rn.thing).mixed=[]) (e3:(σ'.md rn.thing).ahead=[]) (e4:(σ'.md rn.thing).consts=[]) (e5:(σ'.md rn.thing).cls=rn.cls) (e6:(σ'.md rn.thing).native=.none) (e7:(σ'.md rn.thing).attached=.none) (e8:(σ'.md rn.thing).own=.none) (e9:∃ o,(σ'.md rn.thing).owner=.ref o)
  (hnm:∃ s t,(σ'.md rn.thing).nameV=.str s t∧s∉Mine.univ∧s.length≤20∧(((σ'.md rn.thing).outer=.none∧rn.path=s)∨∃ j,j<rows.length∧(σ'.md rn.thing).outer=.ref (aK rows j)∧rn.path=iN rows j++"::"++s))
  (hpar:(rn.pN=none∧(σ'.md rn.thing).parent=.none)∨∃ p,rn.pN=some p∧p<rows.length∧(σ'.md rn.thing).parent=.ref (aK rows p)∧rn.cls=true)
  (r1:rn.mix=[]) (r2:rn.fr=[]) (r3:rn.held=[]) (r4:∀ s,rn.hh s=none) (hl:rows.length<20) (hn:n+1≤100):LK σ' (rows++[rn]) (n+1):=by
 have h3:=H.n3
 have hd:∀ a∈σ.dom,a∈σ'.dom:=fun a ha=>by exact sb ed (dD _ ha)
 have hbd:rn.thing∈σ'.dom:=by exact sb ed (cW _ c8)
 have len:(rows++[rn]).length=rows.length+1:=by exact fR
 have is_:∀ {u:Str} {x:Addr},Is σ u x→Is σ' u x:=fun h=>by unfold Is; exact sb em h
 have hdom:∀ x,x∈σ'.dom→x∈σ.dom∨x=rn.thing:=fun x hx=>by
  rw [ed,bW,cG] at hx; exact hx
 have miss:missing σ'=missing σ:=by unfold missing; exact sb em rfl
 refine ⟨fun j q hq=>?_,fun i j hi hj e=>?_,⟨fun a ha b hb' e=>?_,fun a ha=>?_,?_⟩,⟨fun u v hv=>?_,?_⟩,fun u v hv=>H.univ u v (em▸hv),fun x hx=>?_,?_,?_,?_,(by obtain ⟨x,h⟩:=H.int; exact ⟨x,is_ h⟩),(by obtain ⟨x,h⟩:=H.cc; exact ⟨x,is_ h⟩),(by obtain ⟨x,h⟩:=H.cm; exact ⟨x,is_ h⟩),by exact aG h3 ((cZ (b5 len.symm))),by exact aG (b5 len) hl,?_,?_,fun x hx=>?_,hn⟩
 ·rw [lC] at hq
  by_cases hj:j<rows.length
  ·rw [if_pos hj] at hq
   exact (H.row j q hq).mono hj (by exact (cZ (b5 len.symm))) (by exact j6 _) (fun k hk=>nJ hk) (fun k hk=>L6 hk) hd em eo fun k hk=>H.lH hk
  ·rw [if_neg hj] at hq
   by_cases hj2:j=rows.length
   ·rw [if_pos hj2] at hq
    obtain rfl:=bO hq
    subst hj2
    refine ⟨hbd,by refine sb e2 (sb r1 ?_); rfl,by refine sb e3 (sb r2 ?_); rfl,?_,e5,fun x hx=>(by rw [r1,r2] at hx; cases hx),by refine sb r1 (sb r2 (sb r3 (sb e4 ?_))); simp,fun s zz=>?_,.inl e6,e9,?_⟩
    ·exact hpar.imp id fun ⟨p,h1,h2,h4,h5⟩=>⟨p,h1,h2,by rw [nJ h2]; exact h4,h5⟩
    ·have:cA σ' rn.thing s=none:=by unfold cA; refine sb e4 (sb e6 ?_); rfl
     exact sb this (sb (r4 _) .no)
    ·refine j0 hnm fun s t h1 h2 h4 h5=>?_
     exact ⟨s,t,h1,fun zz=>h2,h4,h5.imp id fun ⟨j,h6,h7,h8⟩=>⟨j,h6,by refine sb (nJ h6) ?_; exact h7,by exact sb (L6 h6) h8⟩⟩
   ·rw [if_neg hj2] at hq; exact bM hq
 ·rw [len] at hi hj
  have at_:∀ k,k<rows.length+1→(k<rows.length∧aK (rows++[rn]) k=aK rows k∧aK rows k∈σ.dom)∨(k=rows.length∧aK (rows++[rn]) k=rn.thing):=fun k hk=>by
   by_cases h:k<rows.length
   ·exact .inl ⟨h,nJ h,H.lH h⟩
   ·have:k=rows.length:=by exact lM ((z7 hk)) ((mW.mp h))
    subst this
    exact .inr ⟨rfl,DO⟩
  rcases at_ i hi with ⟨a1,a2,a3⟩ | ⟨a1,a2⟩<;>rcases at_ j hj with ⟨c1,c2,c3⟩ | ⟨c1,c2⟩
  ·rw [a2,c2] at e; exact H.inj i j a1 c1 e
  ·rw [a2,c2] at e; exact absurd (e▸a3) hb
  ·rw [a2,c2] at e; exact absurd (e▸c3) hb
  ·exact lM (aG (b5 a1) ((b5 c1.symm))) (aG (b5 c1) ((b5 a1.symm)))
 ·rcases hdom a ha with ha | rfl<;>rcases hdom b hb' with hb' | rfl
  ·rw [eo a ha,eo b hb'] at e; exact H.num.inj a ha b hb' e
  ·rw [eo a ha,e1] at e; have:=H.num.le a ha; omega
  ·rw [eo b hb',e1] at e; have:=H.num.le b hb'; omega
  ·rfl
 ·refine sb el ?_
  rcases hdom a ha with ha | rfl
  ·refine sb (eo a ha) ?_; have:=H.num.le a ha; exact vA this
  ·exact sb e1 (vC _)
 ·(refine sb ed ?_; rw [mU])
  exact ⟨H.num.nd,by simp,fun a ha b hb' e=>by rw [cG] at hb'; exact hb (by exact aY hb' (aY e ha))⟩
 ·rw [em] at hv
  refine c7 (H.made.at_ u v hv) fun x h1 h2 h4=>?_
  exact ⟨x,h1,hd x h2,by exact sb (eo x h2) h4⟩
 ·exact sb em (sb miss H.made.len)
 ·refine sb len ?_
  rcases hdom x hx with h | rfl
  ·have e:=eo x h
   rcases H.jB x h with ⟨i,h1,h2,h4⟩ | ⟨u,p,m,c,T,b,o⟩
   ·exact .inl ⟨i,h1,by exact aG h2 (gX _ _),by exact sb (nJ h2) h4⟩
   ·refine .inr ⟨u,p,m,c,T,⟨is_ b.rN,by refine sb e ?_; exact b.nm,by refine sb e ?_; exact b.nat,?_,by refine sb e ?_; exact b.own,by refine sb e ?_; exact b.cls,by exact sb e b.out⟩,?_⟩
    ·exact sb e (b.par.imp id fun ⟨q,y,h1,h2,h4⟩=>⟨q,y,h1,is_ h2,h4⟩)
    ·rcases o with ⟨i,h1,h2⟩ | ⟨h1,h2⟩
     ·exact .inl ⟨i,h1,by exact sb (nJ (by exact aG h1 h3)) h2⟩
     ·refine .inr ⟨?_,by exact sb e h2⟩
      unfold tL; refine sb e ?_
      exact h1.imp id fun ⟨q,y,h1,h2,h4⟩=>⟨q,y,h1,is_ h2,h4⟩
  ·exact .inl ⟨rows.length,by exact h3,by exact bZ _,DO⟩
 ·exact sb (nJ (by exact aG (ble rfl) h3)) (is_ H.b0)
 ·exact sb (nJ (by exact aG (ble rfl) h3)) (is_ H.b1)
 ·exact sb (nJ (by exact h3)) (is_ H.b2)
 ·refine c7 H.sH fun T hT hl2 ha=>?_
  obtain ⟨t1,t2⟩:=topo_row (r:=rn) hT ha r1 r2 fun p hp=>by
   rcases hpar with ⟨h,_⟩ | ⟨p',h1,h2,_⟩
   ·rw [h] at hp; exact bM hp
   ·rw [h1] at hp; obtain rfl:=bO hp; exact h2
  exact ⟨_,t1,by rw [qQ,len]; exact congrArg _ hl2,t2⟩
 ·have h1:Mine.tot σ'=Mine.tot σ+2:=by
   unfold Mine.tot
   refine sb ed (sb dR (sb List.sum_append (sb yZ (sb List.sum_singleton ?_))))
   have w:wt σ'.md rn.thing=2:=by unfold wt; refine sb e2 (sb e3 ?_); rfl
   have w2:σ.dom.map (wt σ'.md)=σ.dom.map (wt σ.md):=qR fun x hx=>by unfold wt; exact sb (eo x hx) rfl
   exact sb w (sb w2 ((by rfl)))
  refine sb h1 (sb miss ?_)
  have:=H.tot
  exact bQ this (by simp +arith only)
 ·rcases hdom x hx with h | rfl
  ·exact sb (eo x h) (H.i6 x h)
  ·exact ⟨e7,e8⟩
end
theorem eW.congr {rows rows':List Row} (hk:∀ x,cI rows' x=cI rows x) (hl:rows'.length=rows.length) {T:List Nat} (h:eW rows T):eW rows' T:=by
 induction h with
 | nil=>exact .nil
 | cons _ hx hkx ih=>exact .cons ih (by exact aG hx ((b5 hl.symm))) (by exact sb (hk _) hkx)
theorem IZ {rows:List Row} {i:Nat} {r r':Row} (hr:rows[i]?=some r) (x:Nat):cI (rows.set i r') x=if x=i then r'.pN.toList++r'.mix++r'.fr else cI rows x:=by
 have hi:=(cO.mp hr).1
 unfold cI
 by_cases h:x=i
 ·subst h; exact sb (tC hi) (sb (if_pos rfl) ((by rfl)))
 ·exact sb (tB (Ne.symm h)) (sb (if_neg h) ((by rfl)))
section
variable {σ σ':Wd} {rows:List Row} {n:Nat}
theorem LK.set (H:LK σ rows n) {i:Nat} {r:Row} {s:Str} {v:Value} {h:eV} {hd:List (Str×Value)} (hr:rows[i]?=some r) (ed:σ'.dom=σ.dom) (em:σ'.made=σ.made) (el:σ'.last=σ.last) (eo:∀ x,x≠r.thing→σ'.md x=σ.md x)
  (ea:σ'.md r.thing={σ.md r.thing with consts:=stored (σ.md r.thing).consts s v}) (hv:CV (aK rows) rows.length σ.dom (some v) (some h)) (hz:hd.length≤r.held.length+1) (hn:n+1≤100) :
  LK σ' (rows.set i {r with held:=hd,hh:=fun s'=>if s'=s then some h else r.hh s'}) (n+1):=by
 have R:=H.row i r hr
 have sz:=R.sz
 refine c7 H.sH fun T hT hl ha=>?_
 have hkid:∀ x,cI (rows.set i {r with held:=hd,hh:=fun s'=>if s'=s then some h else r.hh s'}) x=cI rows x:=fun x=>by
  refine sb (IZ hr _) ?_
  by_cases e:x=i
  ·subst e; refine sb (if_pos rfl) ?_; unfold cI; exact sb hr rfl
  ·exact sb (if_neg e) rfl
 refine H.MY hr ed em el eo (m':=(σ.md r.thing).mixed) (h':=(σ.md r.thing).ahead) ea ⟨rfl,rfl,rfl,rfl⟩ R.mix R.bX R.kid ?_ (fun s' hs'=>?_) ⟨T,hT.congr hkid (eU ..),hl,ha⟩ (by exact gX _ _) hn
 ·refine ⟨by show r.mix.length≤_; exact aG sz.1 (gX _ _),by show r.fr.length≤_; exact aG sz.2.1 (gX _ _),by show hd.length≤_; exact aG hz ((d7 sz.2.2.1)),?_⟩
  have:=nH (σ.md r.thing).consts s v
  exact aG this ((d7 sz.2.2.2))
 ·show CV _ _ _ _ (if s'=s then some h else r.hh s')
  by_cases e:s'=s
  ·subst e
   have:cA σ' r.thing s'=some v:=by unfold cA; refine sb ea ?_; dsimp only; (rewrite [jV]; exact sb (if_pos rfl) rfl)
   exact sb (if_pos rfl) (sb this hv)
  ·have:cA σ' r.thing s'=cA σ r.thing s':=by unfold cA; refine sb ea (sb em ?_); dsimp only; (rewrite [jV]; exact sb (if_neg e) rfl)
   exact sb (if_neg e) (sb this (R.con s' hs'))
theorem LK.HL (H:LK σ rows n) {i one:Nat} {r r':Row} {m' h':List Addr} (hr:rows[i]?=some r) (h1:one<rows.length) (hc:(σ.md (aK rows one)).cls=false) (hno:i∉aO rows rows.length one) (ed:σ'.dom=σ.dom) (em:σ'.made=σ.made) (el:σ'.last=σ.last) (eo:∀ x,x≠r.thing→σ'.md x=σ.md x)
  (ea:σ'.md r.thing={σ.md r.thing with mixed:=m',ahead:=h'}) (er:r'.thing=r.thing∧r'.cls=r.cls∧r'.pN=r.pN∧r'.path=r.path∧r'.held=r.held∧r'.hh=r.hh) (hm:m'=r'.mix.map (aK rows)) (hh:h'=r'.fr.map (aK rows))
  (hk:(r'.mix=r.mix++[one]∧r'.fr=r.fr)∨(r'.mix=r.mix∧r'.fr=r.fr++[one])) (hn:n+1≤100):LK σ' (rows.set i r') (n+1):=by
 have R:=H.row i r hr
 have sz:=R.sz
 refine c7 H.sH fun T hT hl ha=>?_
 have hi:=(cO.mp hr).1
 have hmem:∀ x∈r'.mix++r'.fr,x∈r.mix++r.fr∨x=one:=fun x hx=>by
  rcases hk with ⟨a,b⟩ | ⟨a,b⟩<;>rw [a,b] at hx<;>simp only [bW,cG] at hx ⊢
  ·rcases hx with (h | h) | h
   ·exact .inl (.inl h)
   ·exact .inr h
   ·exact .inl (.inr h)
  ·rcases hx with h | h | h
   ·exact .inl (.inl h)
   ·exact .inl (.inr h)
   ·exact .inr h
 have ec:∀ s,cA σ' r.thing s=cA σ r.thing s:=fun s=>by unfold cA; exact sb ea (sb em rfl)
 refine H.MY (c':=(σ.md r.thing).consts) hr ed em el eo ea ⟨er.1,er.2.1,er.2.2.1,er.2.2.2.1⟩ hm hh (fun x hx=>?_) ?_ (fun s hs=>?_) ?_ ?_ hn
 ·rcases hmem x hx with h | rfl
  ·exact R.kid x h
  ·exact ⟨h1,hc⟩
 ·refine sb er.2.2.2.2.1 ?_
  rcases hk with ⟨a,b⟩ | ⟨a,b⟩<;>refine sb a (sb b ?_)<;>simp<;>(first | exact aaZ sz | exact ab0 sz)
 ·exact sb (ec _) (sb er.2.2.2.2.2 (R.con s hs))
 ·obtain ⟨T',a,b,c⟩:=topo_edge (rows':=rows.set i r') hT ha (H.jJ (bZ _)) h1 hi hno (eU ..) fun x c hc=>by
   rw [IZ hr] at hc
   by_cases e:x=i
   ·subst e
    rw [if_pos rfl,er.2.2.1,sX,bW] at hc
    unfold cI
    refine sb hr ?_
    dsimp only
    (refine sb (sX _ _ _) ?_; rw [bW])
    rcases hc with h | h
    ·exact .inl (.inl h)
    ·rcases hmem c h with h | h
     ·exact .inl (.inr h)
     ·exact .inr ⟨rfl,h⟩
   ·rw [if_neg e] at hc; exact .inl hc
  exact ⟨T',a,by exact sb b (sb hl rfl),by rwa [eU] at c⟩
 ·refine sb hm (sb hh (sb R.mix (sb R.bX ?_)))
  rcases hk with ⟨a,b⟩ | ⟨a,b⟩<;>refine sb a (sb b ?_)<;>simp<;>(first | exact aaX | exact aaY)
theorem LK.open_ (H:LK σ rows n) {i:Nat} {r rn:Row} {s:Str} {hd:List (Str×Value)} (hr:rows[i]?=some r) (hb:rn.thing∉σ.dom) (ed:σ'.dom=σ.dom++[rn.thing]) (em:σ'.made=σ.made) (el:σ'.last=σ.last+1) (eo:∀ x∈σ.dom,x≠r.thing→σ'.md x=σ.md x)
  (ea:σ'.md r.thing={σ.md r.thing with consts:=stored (σ.md r.thing).consts s (.ref rn.thing)})
  (e1:(σ'.md rn.thing).num=σ.last+1) (e2:(σ'.md rn.thing).mixed=[]) (e3:(σ'.md rn.thing).ahead=[]) (e4:(σ'.md rn.thing).consts=[]) (e5:(σ'.md rn.thing).cls=rn.cls) (e6:(σ'.md rn.thing).native=.none) (e7:(σ'.md rn.thing).attached=.none) (e8:(σ'.md rn.thing).own=.none) (e9:∃ o,(σ'.md rn.thing).owner=.ref o)
  (hnm:∃ s t,(σ'.md rn.thing).nameV=.str s t∧s∉Mine.univ∧s.length≤20∧(((σ'.md rn.thing).outer=.none∧rn.path=s)∨∃ j,j<rows.length∧(σ'.md rn.thing).outer=.ref (aK rows j)∧rn.path=iN rows j++"::"++s))
  (hpar:(rn.pN=none∧(σ'.md rn.thing).parent=.none)∨∃ p,rn.pN=some p∧p<rows.length∧(σ'.md rn.thing).parent=.ref (aK rows p)∧rn.cls=true)
  (r1:rn.mix=[]) (r2:rn.fr=[]) (r3:rn.held=[]) (r4:∀ s,rn.hh s=none) (hl:rows.length<20) (hz:hd.length≤r.held.length+1) (hn:n+2≤100) :
  LK σ' (rows.set i {r with held:=hd,hh:=fun s'=>if s'=s then some (.row rows.length) else r.hh s'}++[rn]) (n+2):=by
 have R:=H.row i r hr
 have hi:=(cO.mp hr).1
 have hne:rn.thing≠r.thing:=fun e=>hb (by exact sb e R.dom)
 have pb:(σ'.put r.thing (σ.md r.thing)).md rn.thing=σ'.md rn.thing:=dY hne
 have H1:LK (σ'.put r.thing (σ.md r.thing)) (rows++[rn]) (n+1):=by
  refine H.add hb ed em el (fun x hx=>?_) (by exact sb pb e1) (by exact sb pb e2) (by exact sb pb e3) (by exact sb pb e4) (by exact sb pb e5) (by exact sb pb e6) (by exact sb pb e7) (by exact sb pb e8) (by exact sb pb e9) (by exact sb pb hnm) (by exact sb pb hpar) r1 r2 r3 r4 hl (by exact (cZ hn))
  by_cases q:x=r.thing
  ·subst q; exact fD
  ·exact sb (dY q) (eo x hx q)
 have hr1:(rows++[rn])[i]?=some r:=by exact sb lC (sb (if_pos hi) hr)
 have pa:(σ'.put r.thing (σ.md r.thing)).md r.thing=σ.md r.thing:=fD
 have:=H1.set (σ':=σ') (s:=s) (v:=.ref rn.thing) (h:=.row rows.length) (hd:=hd) hr1 rfl rfl rfl (fun x hx=>(dY hx).symm) (by exact sb pa ea)
  (by
    have h:=CV.row (th:=aK (rows++[rn])) (N:=(rows++[rn]).length) (D:=(σ'.put r.thing (σ.md r.thing)).dom) (j:=rows.length) (by simp)
    rw [DO] at h; exact h) hz (by exact hn)
 rw [P4 _ _ hi] at this
 exact this
theorem LK.first (H:LK σ rows n) {s:Str} (hs:s∈signs):∀ {l:List Nat},(∀ x∈l,x<rows.length)→CV (aK rows) rows.length σ.dom (dW σ s (l.map (aK rows))) (iL rows s l)
 | [],_=>.no
 | x::l,hl=>by
  refine c7 (H.at_ (hl x c8)) fun r hr e R=>?_
  have hx:=R.con s hs
  have ih:=H.first hs fun y hy=>hl y (cL _ hy)
  rw [←e] at hx
  have rh:lF rows x s=r.hh s:=by unfold lF; exact sb hr rfl
  refine sb cK ?_
  show CV (aK rows) rows.length σ.dom (match cA σ (aK rows x) s with | some v=>some v | none=>dW σ s (l.map (aK rows))) (match lF rows x s with | some h=>some h | none=>iL rows s l)
  refine sb rh ?_
  generalize cA σ (aK rows x) s=o at *
  generalize r.hh s=h at *
  cases hx with
  | no=>exact ih
  | row h=>exact .row h
  | num=>exact .num
  | thing h=>exact .thing h
noncomputable abbrev zD (σ:Wd):Prop:=∀ x∈σ.dom,∃ u p m c,Tb u p m c∧Full σ x u p m c
theorem Full.JQ {x:Addr} {u:Str} {p:Option Str} {c:Bool} (f:Full σ x u p none c):(σ.md x).mixed=[]:=by
 rcases f.mix with ⟨_,h⟩ | ⟨q,y,h,_⟩
 ·exact h
 ·exact bM h
theorem Full.aaB {x y:Addr} {u q:Str} {p:Option Str} {c:Bool} (f:Full σ x u p (some q) c) (b:Is σ q y):(σ.md x).mixed=[y]:=by
 rcases f.mix with ⟨h,_⟩ | ⟨q,y,h,hy,e⟩
 ·exact dK h
 ·obtain rfl:=bO h; unfold Is at hy b; rw [b] at hy; cases hy; exact e
theorem Full.L8 {x:Addr} {u:Str} {m:Option Str} {c:Bool} (f:Full σ x u none m c):(σ.md x).parent=.none:=by
 rcases f.par with ⟨_,h⟩ | ⟨q,y,h,_⟩
 ·exact h
 ·exact bM h
theorem Full.adF {x y:Addr} {u q:Str} {m:Option Str} {c:Bool} (f:Full σ x u (some q) m c) (b:Is σ q y):(σ.md x).parent=.ref y:=by
 rcases f.par with ⟨h,_⟩ | ⟨q,y,h,hy,e⟩
 ·exact dK h
 ·obtain rfl:=bO h; unfold Is at hy b; rw [b] at hy; cases hy; exact e
theorem C6 (all:zD σ) (M:cQ σ) {u:Str} {x:Addr} (h:Is σ u x):x∈σ.dom∧∃ p m c,Tb u p m c∧Full σ x u p m c:=by
 refine c7 (M.at_ u _ h) fun y e hy zq13=>?_
 obtain ⟨t,hn⟩:=zq13
 cases e
 refine pD (all x hy) fun u' p m c T f=>?_
 obtain ⟨t',e'⟩:=f.nm
 rw [hn] at e'
 cases e'
 exact ⟨hy,p,m,c,T,f⟩
theorem C7 (all:zD σ) (M:cQ σ) {u:Str} {x:Addr} (h:Is σ u x) {p m:Option Str} {c:Bool} (T:Tb u p m c):x∈σ.dom∧Full σ x u p m c:=by
 obtain ⟨d,_,_,_,T',f⟩:=C6 all M h
 obtain ⟨rfl,rfl,rfl⟩:=T'.det T
 exact ⟨d,f⟩
theorem XC (all:zD σ) (M:cQ σ) (u:Str) (v:Value) (h:valueAt σ.made u=some v):u∈Mine.univ:=by
 refine aV (M.at_ u v h) fun x zq12 zz=>?_
 subst zq12
 obtain ⟨_,_,_,_,T,_⟩:=C6 all M h
 exact T.mem
theorem C8 (M:cQ σ) {u u':Str} {x:Addr} (h:Is σ u x) (h':Is σ u' x):u=u':=by
 refine c7 (M.at_ u _ h) fun y e zz zq2=>?_
 obtain ⟨t,hn⟩:=zq2
 refine c7 (M.at_ u' _ h') fun y' e' zz zq1=>?_
 obtain ⟨t',hn'⟩:=zq1
 cases e; cases e'
 rw [hn] at hn'; cases hn'; rfl
theorem Full.D5 {x:Addr} {u:Str} {p m:Option Str} {c:Bool} (f:Full σ x u p m c):∃ o,(σ.md x).owner=.ref o:=aV f.own fun y zz e=>⟨y,e⟩
theorem Full.CT {x:Addr} {u:Str} {p m:Option Str} {c:Bool} (T:Tb u p m c) (f:Full σ x u p m c):(σ.md x).native=.none∨∃ s t,(σ.md x).native=.str s t∧s.length≤100:=by
 obtain ⟨t,e⟩:=f.nat
 exact .inr ⟨_,t,e,T.len⟩
theorem Full.HG {x:Addr} {u:Str} {p m:Option Str} {c:Bool} (f:Full σ x u p m c) (hu:u≠"Object") (s:Str):cA σ x s=none:=by
 obtain ⟨t,e⟩:=f.nat
 unfold cA; refine sb f.con (sb e ?_)
 show (if _=_ then _ else _)=none
 exact sb (if_neg hu) rfl
theorem LK.base {x0 x1 x2 x3:Addr} (all:∀ x∈σ.dom,∃ u p m c,Tb u p m c∧Full σ x u p m c) (N:dT σ) (M:cQ σ) (ht:Mine.tot σ+3 * missing σ≤39) (b0:Is σ "BasicObject" x0) (b1:Is σ "Kernel" x1) (b2:Is σ "Object" x2) (b3:Is σ "Integer" x3)
  {r0 r1 r2:Row} (h0:r0.thing=x0∧r0.cls=true∧r0.pN=none∧r0.path="BasicObject"∧r0.mix=[]∧r0.fr=[]∧r0.held=[]∧∀ s,r0.hh s=none)
  (h1:r1.thing=x1∧r1.cls=false∧r1.pN=none∧r1.path="Kernel"∧r1.mix=[]∧r1.fr=[]∧r1.held=[]∧∀ s,r1.hh s=none)
  (h2:r2.thing=x2∧r2.cls=true∧r2.pN=some 0∧r2.path="Object"∧r2.mix=[1]∧r2.fr=[]∧r2.held.length≤1∧∀ s,r2.hh s=if s="Integer" then some (.thing x3) else none):LK σ [r0,r1,r2] 1:=by
 have un:=XC all M
 obtain ⟨d0,f0⟩:=C7 all M b0 .basic
 obtain ⟨d1,f1⟩:=C7 all M b1 .kernel
 obtain ⟨d2,f2⟩:=C7 all M b2 .object
 have d3:=(C6 all M b3).1
 refine yI h0 fun t0 rc0 rp0 ra0 rm0 rf0 rh0 rhh0=>?_
 refine yI h1 fun t1 rc1 rp1 ra1 rm1 rf1 rh1 rhh1=>?_
 refine yI h2 fun t2 rc2 rp2 ra2 rm2 rf2 rh2 rhh2=>?_
 have th0:aK [r0,r1,r2] 0=x0:=t0
 have th1:aK [r0,r1,r2] 1=x1:=t1
 have th2:aK [r0,r1,r2] 2=x2:=t2
 refine ⟨fun i r hr=>?_,fun i j hi hj e=>?_,N,M,un,fun x hx=>?_,by refine sb th0 ?_; exact b0,by refine sb th1 ?_; exact b1,by refine sb th2 ?_; exact b2,⟨_,b3⟩,(by refine aV f2.own fun y h zz=>?_; exact ⟨y,h⟩),(by refine aV f1.own fun y h zz=>?_; exact ⟨y,h⟩),bZ _,by exact bY _ _,⟨[2,1,0],?_,rfl,?_⟩,by exact aG ht (ble rfl),fun x hx=>?_,by decide⟩
 ·match i,hr with
  | 0,hr =>
   cases hr
   obtain ⟨t,e⟩:=f0.nm
   refine ⟨by rw [t0]; exact d0,by rw [t0,rm0,f0.JQ]; rfl,by rw [t0,rf0,f0.bX]; rfl,.inl ⟨rp0,by rw [t0]; exact f0.L8⟩,by rw [t0,rc0]; exact f0.cls,fun x hx=>(by rw [rm0,rf0] at hx; cases hx),by rw [rm0,rf0,rh0,t0,f0.con]; simp,fun s hs=>?_,by rw [t0]; exact Full.CT .basic f0,by rw [t0]; exact f0.D5,⟨_,t,by rw [t0]; exact e,fun h=>absurd h (by decide),by decide,.inl ⟨by rw [t0]; exact f0.out,ra0⟩⟩⟩
   exact sb t0 (sb (f0.HG (by decide) _) (sb (rhh0 _) .no))
  | 1,hr =>
   cases hr
   obtain ⟨t,e⟩:=f1.nm
   refine ⟨by rw [t1]; exact d1,by rw [t1,rm1,f1.JQ]; rfl,by rw [t1,rf1,f1.bX]; rfl,.inl ⟨rp1,by rw [t1]; exact f1.L8⟩,by rw [t1,rc1]; exact f1.cls,fun x hx=>(by rw [rm1,rf1] at hx; cases hx),by rw [rm1,rf1,rh1,t1,f1.con]; simp,fun s hs=>?_,by rw [t1]; exact Full.CT .kernel f1,by rw [t1]; exact f1.D5,⟨_,t,by rw [t1]; exact e,fun h=>absurd h (by decide),by decide,.inl ⟨by rw [t1]; exact f1.out,ra1⟩⟩⟩
   exact sb t1 (sb (f1.HG (by decide) _) (sb (rhh1 _) .no))
  | 2,hr =>
   cases hr
   obtain ⟨t,e⟩:=f2.nm
   refine ⟨by rw [t2]; exact d2,by rw [t2,rm2,(f2.aaB b1),yZ,th1],by rw [t2,rf2,f2.bX]; rfl,.inr ⟨0,rp2,by decide,by rw [t2,th0]; exact (f2.adF b0),rc2⟩,by rw [t2,rc2]; exact f2.cls,fun x hx=>?_,by rw [rm2,rf2,t2,f2.con]; simp; exact aG h2.2.2.2.2.2.2.1 (ble rfl),fun s hs=>?_,by rw [t2]; exact Full.CT .object f2,by rw [t2]; exact f2.D5,⟨_,t,by rw [t2]; exact e,fun h=>absurd h (by decide),by decide,.inl ⟨by rw [t2]; exact f2.out,ra2⟩⟩⟩
   ·rw [rm2,rf2,jW,cG] at hx
    subst hx
    exact ⟨by exact gX _ _,by exact sb th1 f1.cls⟩
   ·have eo:cA σ r2.thing s=valueAt σ.made s:=by
     obtain ⟨t',e'⟩:=f2.nat
     unfold cA; refine sb t2 (sb f2.con (sb e' ?_))
     show (if _=_ then _ else _)=_
     exact sb (if_pos rfl) rfl
    refine sb eo (sb (rhh2 _) ?_)
    by_cases q:s="Integer"
    ·subst q; exact sb (if_pos rfl) (sb b3 (.thing d3))
    ·refine sb (if_neg q) ?_
     have:valueAt σ.made s=none:=by
      cases z:valueAt σ.made s with
      | none=>rfl
      | some v =>
       rcases MF hs with h | h
       ·exact absurd h q
       ·exact absurd (un _ _ z) h
     exact sb this .no
  | i+3,hr=>simp at hr
 ·have hi:i<3:=hi
  have hj:j<3:=hj
  have d01:x0≠x1:=fun e=>absurd (C8 M b0 (e▸b1)) (by decide)
  have d02:x0≠x2:=fun e=>absurd (C8 M b0 (e▸b2)) (by decide)
  have d12:x1≠x2:=fun e=>absurd (C8 M b1 (e▸b2)) (by decide)
  match i,j,hi,hj,e with
  | 0,0,_,_,_=>rfl
  | 1,1,_,_,_=>rfl
  | 2,2,_,_,_=>rfl
  | 0,1,_,_,e=>rw [th0,th1] at e; exact absurd e d01
  | 1,0,_,_,e=>rw [th0,th1] at e; exact absurd e.symm d01
  | 0,2,_,_,e=>rw [th0,th2] at e; exact absurd e d02
  | 2,0,_,_,e=>rw [th0,th2] at e; exact absurd e.symm d02
  | 1,2,_,_,e=>rw [th1,th2] at e; exact absurd e d12
  | 2,1,_,_,e=>rw [th1,th2] at e; exact absurd e.symm d12
 ·refine pD (all x hx) fun u p m c T f=>?_
  exact .inr ⟨u,p,m,c,T,f.bs,.inr ⟨f.mix,f.bX⟩⟩
 ·have k0:cI [r0,r1,r2] 0=[]:=by show r0.pN.toList++r0.mix++r0.fr=[]; refine sb rp0 (sb rm0 (sb rf0 ?_)); rfl
  have k1:cI [r0,r1,r2] 1=[]:=by show r1.pN.toList++r1.mix++r1.fr=[]; refine sb rp1 (sb rm1 (sb rf1 ?_)); rfl
  have k2:cI [r0,r1,r2] 2=[0,1]:=by show r2.pN.toList++r2.mix++r2.fr=_; refine sb rp2 (sb rm2 (sb rf2 ?_)); rfl
  refine .cons (.cons (.cons .nil (by exact bY _ _) (by refine sb k0 ?_; simp)) (by exact gX _ _) (by refine sb k1 ?_; simp)) (by exact bY _ _) (by refine sb k2 ?_; simp)
 ·intro i hi
  have hi:i<3:=hi
  match i,hi with
  | 0,_=>decide
  | 1,_=>decide
  | 2,_=>decide
 ·refine pD (all x hx) fun u p m c T f=>?_
  exact ⟨f.i6,f.ow⟩
end
theorem HeldAt.imp {G G':Gh} {v:Value} {h:eV} (x:HeldAt G v h) (k:∀ b y,G b=some y→y.tag=(16,0)→G' b=some y):HeldAt G' v h:=by
 cases x with
 | row h=>exact .row (k _ _ h rfl)
 | num h=>exact .num (k _ _ h rfl)
 | thing h=>exact .thing (k _ _ h rfl)
theorem dU.imp {G G':Gh} {r:Row} (h:dU G r) (k:∀ b y,G b=some y→y.tag=(12,0)∨y.tag=(13,r.d)∨y.tag=(14,r.d)∨y.tag=(15,r.d)∨y.tag=(16,0)→G' b=some y):dU G' r :=
 ⟨k _ _ h.dict (.inl rfl),k _ _ h.mix (.inr (.inl rfl)),k _ _ h.fr (.inr (.inr (.inl rfl))),k _ _ h.held (.inr (.inr (.inr (.inl rfl)))),h.mD,h.kH,h.s9,fun n=>(h.q8 n).imp id fun ⟨v,x,a,b,c⟩=>⟨v,x,a,b,c.imp fun b y hy ht=>k b y hy (.inr (.inr (.inr (.inr ht))))⟩,h.small⟩
theorem dU.turn {G:Gh} {r:Row} {a:Addr} {x z:GO} (h:dU G r) (hG:G a=some z) (ht:z.tag≠(12,0)∧z.tag≠(13,r.d)∧z.tag≠(14,r.d)∧z.tag≠(15,r.d)∧z.tag≠(16,0)):dU (upd G a x) r :=
 h.imp fun b y hy hyt=>b9 hy hG fun e=>by
  rw [e] at hyt
  rcases hyt with q | q | q | q | q
  ·exact ht.1 q
  ·exact ht.2.1 q
  ·exact ht.2.2.1 q
  ·exact ht.2.2.2.1 q
  ·exact ht.2.2.2.2 q
theorem dU.sD {G:Gh} {r:Row} (h:dU G r) {i:Nat} {t:Tok} (hz:r.mix.length<1000):dU (upd G r.aT ⟨(13,r.d),.list (r.iB++[.int (i:Int) t])⟩) {r with iB:=r.iB++[.int (i:Int) t],mix:=r.mix++[i]}:=by
 have ne:∀ {b y},G b=some y→y.tag≠(13,r.d)→upd G r.aT ⟨(13,r.d),.list (r.iB++[.int (i:Int) t])⟩ b=some y:=fun hb hy=>b9 hb h.mix hy
 have sm:=h.small
 exact ⟨ne h.dict (b6 rfl),aI _ _ _,ne h.fr (b6 rfl),ne h.held (b6 rfl),h.mD.l8 (aX.one i t),h.kH,h.s9,fun n=>(h.q8 n).imp id fun ⟨v,x,a,b,c⟩=>⟨v,x,a,b,c.imp fun b y hy ht=>ne hy (kM ht rfl)⟩,by
  show (r.mix++[i]).length≤1000∧_
  refine sb fR (sb pG ?_)
  exact ⟨by exact hz,sm.2⟩⟩
theorem dU.DI {G:Gh} {r:Row} (h:dU G r) {i:Nat} {t:Tok} (hz:r.fr.length<1000):dU (upd G r.eK ⟨(14,r.d),.list (r.iA++[.int (i:Int) t])⟩) {r with iA:=r.iA++[.int (i:Int) t],fr:=r.fr++[i]}:=by
 have ne:∀ {b y},G b=some y→y.tag≠(14,r.d)→upd G r.eK ⟨(14,r.d),.list (r.iA++[.int (i:Int) t])⟩ b=some y:=fun hb hy=>b9 hb h.fr hy
 have sm:=h.small
 exact ⟨ne h.dict (b6 rfl),ne h.mix (b6 rfl),aI _ _ _,ne h.held (b6 rfl),h.mD,h.kH.l8 (aX.one i t),h.s9,fun n=>(h.q8 n).imp id fun ⟨v,x,a,b,c⟩=>⟨v,x,a,b,c.imp fun b y hy ht=>ne hy (kM ht rfl)⟩,by
  show r.mix.length≤1000∧(r.fr++[i]).length≤1000∧_
  refine sb fR (sb pG ?_)
  exact ⟨sm.1,by exact hz,sm.2.2⟩⟩
theorem dU.uP {G:Gh} {r:Row} (h:dU G r) {s:Str} {v:Value} {hd:eV} (hv:HeldAt G v hd) (hz:r.held.length<1000):dU (upd G r.aH ⟨(15,r.d),.aZ (stored r.held s v)⟩) {r with held:=stored r.held s v,hh:=fun s'=>if s'=s then some hd else r.hh s'}:=by
 have ne:∀ {b y},G b=some y→y.tag≠(15,r.d)→upd G r.aH ⟨(15,r.d),.aZ (stored r.held s v)⟩ b=some y:=fun hb hy=>b9 hb h.held hy
 have sm:=h.small
 refine ⟨ne h.dict (b6 rfl),ne h.mix (b6 rfl),ne h.fr (b6 rfl),aI _ _ _,h.mD,h.kH,h.s9,fun n=>?_,?_⟩
 ·show (valueAt (stored r.held s v) n=none∧(if n=s then some hd else r.hh n)=none)∨∃ u x,valueAt (stored r.held s v) n=some u∧(if n=s then some hd else r.hh n)=some x∧_
  rw [jV]
  by_cases e:n=s
  ·refine sb (if_pos e) (sb (if_pos e) ?_)
   exact .inr ⟨v,hd,rfl,rfl,hv.imp fun b y hy ht=>ne hy (kM ht rfl)⟩
  ·refine sb (if_neg e) (sb (if_neg e) ?_)
   exact (h.q8 n).imp id fun ⟨v,x,a,b,c⟩=>⟨v,x,a,b,c.imp fun b y hy ht=>ne hy (kM ht rfl)⟩
 ·show r.mix.length≤1000∧r.fr.length≤1000∧(stored r.held s v).length≤1000
  have:=nH r.held s v
  exact ⟨sm.1,sm.2.1,by exact aG this hz⟩
theorem JI {rows:List Row} {i:Nat} {r r':Row} (hr:rows[i]?=some r) {α:Type} {f:Row→α} (e:f r'=f r):(rows.set i r').map f=rows.map f:=by
 refine List.ext_getElem? fun j=>?_
 have hi:=(cO.mp hr).1
 refine sb jF (sb jF ?_)
 by_cases h:i=j
 ·subst h; exact sb (tC hi) (sb hr (sb (zA _ _) (sb (zA _ _) (sb e ((by rfl))))))
 ·exact sb (tB h) ((by rfl))
theorem RI.set {G G':Gh} {aR:Addr} {rows:List Row} (H:RI G aR rows) {i:Nat} {r r':Row} (hr:rows[i]?=some r) (hd:r'.d=r.d) (hR:dU G' r') (hl:G' aR=G aR) (ho:∀ q∈rows,q.d≠r.d→dU G' q):RI G' aR (rows.set i r'):=by
 refine ⟨?_,fun q hq=>?_,?_,by exact sb eU H.small⟩
 ·exact sb hl (sb (JI hr (by exact sb hd rfl)) H.list)
 ·obtain ⟨j,hj⟩:=nW.mp hq
  have hi:=(cO.mp hr).1
  by_cases h:i=j
  ·subst h; rw [tC hi] at hj; obtain rfl:=bO hj; exact hR
  ·rw [tB h] at hj
   refine ho q (cE hj) fun e=>h ?_
   have hj':=(cO.mp hj).1
   refine (List.getElem_inj (h₀:=by exact sb (cT _) hi) (h₁:=by exact sb (cT _) hj') H.nd).mp ?_
   exact sb (EZ _) (sb (EZ _) (sb ((cO.mp hr).2) (sb ((cO.mp hj).2) (sb e rfl))))
 ·exact sb (JI hr hd) H.nd
theorem RI.sD {G:Gh} {aR:Addr} {rows:List Row} (H:RI G aR rows) {i:Nat} {r:Row} (hr:rows[i]?=some r) {j:Nat} {t:Tok} (hz:r.mix.length<1000):RI (upd G r.aT ⟨(13,r.d),.list (r.iB++[.int (j:Int) t])⟩) aR (rows.set i {r with iB:=r.iB++[.int (j:Int) t],mix:=r.mix++[j]}) :=
 have A:=H.at_ r (cE hr)
 H.set hr rfl (A.sD hz) ((b9 H.list A.mix (b6 rfl)).trans H.list.symm) fun q hq hd=>(H.at_ q hq).turn A.mix ⟨b6 rfl,fun e=>hd (congrArg tG e).symm,b6 rfl,b6 rfl,b6 rfl⟩
theorem RI.DI {G:Gh} {aR:Addr} {rows:List Row} (H:RI G aR rows) {i:Nat} {r:Row} (hr:rows[i]?=some r) {j:Nat} {t:Tok} (hz:r.fr.length<1000):RI (upd G r.eK ⟨(14,r.d),.list (r.iA++[.int (j:Int) t])⟩) aR (rows.set i {r with iA:=r.iA++[.int (j:Int) t],fr:=r.fr++[j]}) :=
 have A:=H.at_ r (cE hr)
 H.set hr rfl (A.DI hz) ((b9 H.list A.fr (b6 rfl)).trans H.list.symm) fun q hq hd=>(H.at_ q hq).turn A.fr ⟨b6 rfl,b6 rfl,fun e=>hd (congrArg tG e).symm,b6 rfl,b6 rfl⟩
theorem RI.uP {G:Gh} {aR:Addr} {rows:List Row} (H:RI G aR rows) {i:Nat} {r:Row} (hr:rows[i]?=some r) {s:Str} {v:Value} {hd:eV} (hv:HeldAt G v hd) (hz:r.held.length<1000):RI (upd G r.aH ⟨(15,r.d),.aZ (stored r.held s v)⟩) aR (rows.set i {r with held:=stored r.held s v,hh:=fun s'=>if s'=s then some hd else r.hh s'}) :=
 have A:=H.at_ r (cE hr)
 H.set hr rfl (A.uP hv hz) ((b9 H.list A.held (b6 rfl)).trans H.list.symm) fun q hq hd=>(H.at_ q hq).turn A.held ⟨b6 rfl,b6 rfl,b6 rfl,fun e=>hd (congrArg tG e).symm,b6 rfl⟩
theorem RI.snoc {G:Gh} {aR:Addr} {rows:List Row} (H:RI G aR rows) {r:Row} (hR:dU G r) (hn:∀ q∈rows,q.d≠r.d) (hz:rows.length<1000):RI (upd G aR ⟨(11,0),.list ((rows.map fun r=>.ref r.d)++[.ref r.d])⟩) aR (rows++[r]):=by
 refine ⟨?_,fun q hq=>?_,?_,by simp; exact (qW hz)⟩
 ·refine sb (aI _ _ _) (sb dR ?_); rfl
 ·have t:∀ {q:Row},dU G q→dU (upd G aR ⟨(11,0),.list ((rows.map fun r=>.ref r.d)++[.ref r.d])⟩) q:=fun h=>h.turn H.list ⟨b6 rfl,b6 rfl,b6 rfl,b6 rfl,b6 rfl⟩
  rcases bW.mp hq with h | h
  ·exact t (H.at_ q h)
  ·exact sb (cG.mp h) (t hR)
 ·(refine sb dR ?_; rw [mU])
  refine ⟨H.nd,by simp,fun a ha b hb e=>?_⟩
  refine aV (cP.mp ha) fun q hq zq1=>?_
  subst zq1
  simp at hb
  exact hn q hq (by exact sb e (sb hb rfl))
theorem RI.fresh {G:Gh} {aR:Addr} {rows:List Row} (H:RI G aR rows) {d:Addr} (hd:G d=none):∀ q∈rows,q.d≠d:=fun q hq e=>by
 have:=(H.at_ q hq).dict
 rw [e,hd] at this; exact bM this
structure LI (G:Gh) (aR:Addr) (rows:List Row) (σ:Wd) (n:Nat):Prop where
 W:WI G σ
 R:RI G aR rows
 K:LK σ rows n
 kept:∀ a∈σ.dom,dM G σ (fK σ) a
theorem wM {G G':Gh} {σ σ':Wd} {T:List Nat} (h:∀ a∈σ.dom,dM G σ (fK σ) a) (k:aD T G G') (hT:T.contains 7=false) (hv:σ'.cD=σ.cD) (ho:∀ a∈σ'.dom,(a∈σ.dom∧(σ'.md a).kept=(σ.md a).kept∧fK σ' a=fK σ a)∨(σ'.md a).kept=.none):∀ a∈σ'.dom,dM G' σ' (fK σ') a:=by
 intro a ha
 rcases ho a ha with ⟨h1,h2,h3⟩ | h1
 ·rcases h a h1 with h | ⟨x,v,u,l,ln,h4,h5,h6,h7,h8⟩
  ·exact .inl (by exact sb h2 h)
  ·exact .inr ⟨x,v,u,l,ln,by refine sb h2 ?_; exact h4,k _ _ h5 hT,k _ _ h6 hT,by refine sb hv ?_; exact h7,fun e=>by exact sb h3 (h8 (by exact aY hv e))⟩
 ·exact .inl h1
theorem LK.same {σ σ':Wd} {rows:List Row} {n:Nat} (H:LK σ rows n) {rows':List Row} {n':Nat} (H':LK σ' rows' n') (hd:∀ a∈σ.dom,a∈σ'.dom) (e:∀ a∈σ.dom,(σ'.md a).mixed=(σ.md a).mixed∧(σ'.md a).ahead=(σ.md a).ahead∧(σ'.md a).parent=(σ.md a).parent):∀ a∈σ.dom,fK σ' a=fK σ a :=
 fun zz ha=>J6 H.wf H'.wf H.ups H.hgt hd (fun a ha=>⟨(e a ha).1,(e a ha).2.1⟩) (fun a ha=>(e a ha).2.2) ha
theorem LI.keep {T:List Nat} {G G':Gh} {aR:Addr} {rows:List Row} {σ:Wd} {n:Nat} (H:LI G aR rows σ n) (k:aD T G G') (hT:(T.contains 1||T.contains 2||T.contains 3||T.contains 4)=false:=by rfl) (hT5:(T.contains 5||T.contains 6||T.contains 10)=false:=by rfl) (h7:T.contains 7=false:=by rfl) (ho:oX T=true:=by rfl):LI G' aR rows σ n :=
 ⟨H.W.keep k hT hT5,H.R.keep k ho,H.K,fun a ha=>(H.kept a ha).keep k h7⟩
theorem LI.ext {T:List Nat} {G G':Gh} {aR:Addr} {rows:List Row} {σ σ':Wd} {n:Nat} (H:LI G aR rows σ n) (E:Ext σ σ') (M:cQ σ') (W:WI G' σ') (k:aD T G G') (h7:T.contains 7=false:=by rfl) (ho:oX T=true:=by rfl):LI G' aR rows σ' n:=by
 have K:=H.K.ext (E.k H.K.num M)
 have s:=H.K.same K E.dom fun a ha=>by exact sb (E.md a ha) (⟨rfl,rfl,rfl⟩)
 refine ⟨W,H.R.keep k ho,K,wM H.kept k h7 E.cD fun a ha=>?_⟩
 rcases E.new a ha with h | ⟨u,p,m,c,_,f⟩
 ·exact .inl ⟨h,by exact sb (E.md a h) rfl,s a h⟩
 ·exact .inr f.kept
theorem LI.kp {T:List Nat} {G G':Gh} {aR:Addr} {rows:List Row} {σ:Wd} {κ:Addr→Value} {n:Nat} (H:LI G aR rows σ n) (W:WI G' (σ.kp κ)) (hk:∀ a∈σ.dom,dM G' (σ.kp κ) (fK σ) a) (k:aD T G G') (ho:oX T=true:=by rfl):LI G' aR rows (σ.kp κ) n:=by
 have K:=H.K.ext (.kp H.K.num H.K.made κ)
 have s:=H.K.same K (fun zz h=>h) fun a zz=>⟨rfl,rfl,rfl⟩
 refine ⟨W,H.R.keep k ho,K,fun a ha=>?_⟩
 have:=hk a ha
 unfold dM at this ⊢
 exact sb (s a ha) this
theorem Ext.nm {σ σ':Wd} (E:Ext σ σ') {u:Str} {x:Addr} (h:Is σ u x):Is σ' u x:=E.made _ _ h
noncomputable abbrev gB (d th:Addr) (cl:Bool) (par:Value) (pN:Option Nat) (path:Str) (pT:Tok) (aT eK aH:Addr):Row:=⟨d,th,cl,par,pN,path,pT,aT,[],[],eK,[],[],aH,[],fun zz=>none⟩
section
variable {B:Bn}
theorem YW (X:Txt B.w B.K) {G:Gh} {σ:Wd} (W:WI G σ) (Ba:qX σ) {Q:Value→Gh→Prop} (hQ:∀ aR rows σ' G',LI G' aR rows σ' 1→rows.length=3→σ'.a=σ.a→aD [5,6,11,13,15] G G'→Q (.ref aR) G') :
  Call B (.ref 814) [.ref σ.a] G 34 125 Q:=by
 refine T9 X fun c oo hsc aJ hb=>?_
 have m0:=rV σ
 refine bS X.b8 X.g7 W.obj W.meth ?_
 intro t0
 refine aQ hb (pW X m0 .basic W Ba.made fun σ1 x0 G1 W1 E1 i0 M1 k1=>?_)
 intro t1
 refine aQ hb (rT X (pN:=none) (.inl ⟨rfl,rfl⟩) fun d0 aM0 aF0 aH0 G2 hd0 R0 k2=>?_)
 refine eS (11,0) (by exact iR _) fun aR haR=>?_
 have k3:aD [] G1 (upd G2 aR ⟨(11,0),.list [.ref d0]⟩):=k2.fresh haR
 have R0':=R0.keep ((aD.refl [] G2).fresh (x:=⟨(11,0),.list [.ref d0]⟩) haR)
 have gR:upd G2 aR ⟨(11,0),.list [.ref d0]⟩ aR=some ⟨(11,0),.list [.ref d0]⟩:=aI _ _ _
 generalize upd G2 aR ⟨(11,0),.list [.ref d0]⟩=G3 at *
 have RI1:RI G3 aR [⟨d0,x0,true,.none,none,"BasicObject",t1,aM0,[],[],aF0,[],[],aH0,[],fun zz=>none⟩]:=⟨gR,fun r hr=>by refine sb (cG.mp hr) ?_; exact R0',by simp,by exact iR _⟩
 have W3:=W1.keep k3
 have kk:aD [5,6,11,13,15] G G3:=k1.mono.trans k3.mono
 clear k1 k2 k3 R0 R0' gR
 refine iP RI1.list ?_
 refine aY E1.a ?_
 refine bS X.b8 X.g7 W3.obj W3.meth ?_
 intro t2
 refine aQ hb (pW X (rV σ1) .kernel W3 M1 fun σ2 x1 G1 W1 E2 i1 M2 k1=>?_)
 intro t3
 have RI2:=RI1.keep k1
 refine aQ hb (rT X (pN:=none) (.inl ⟨rfl,rfl⟩) fun d1 aM1 aF1 aH1 G2 hd1 R1 k2=>?_)
 have nd1:=RI2.fresh hd1
 have RI3:=RI2.keep k2
 have W2:=W1.keep k2
 refine iD RI3.list (by exact bY _ _) ?_
 have RI4:=RI3.snoc R1 nd1 (by exact bY _ _)
 have k3:aD [5,6,11,13,15] G (upd G2 aR ⟨(11,0),.list [.ref d0,.ref d1]⟩):=((kk.trans k1.mono).trans k2.mono).turn RI3.list rfl
 have W3:=W2.keep ((aD.refl [11] G2).turn (x:=⟨(11,0),.list [.ref d0,.ref d1]⟩) RI3.list rfl)
 have RI1:RI (upd G2 aR ⟨(11,0),.list [.ref d0,.ref d1]⟩) aR [gB d0 x0 true .none none "BasicObject" t1 aM0 aF0 aH0,gB d1 x1 false .none none "Kernel" t3 aM1 aF1 aH1]:=RI4
 change ws B c bJ rJ 58 ((bodyOf (topS 64)).drop 2) (bA Q) (yG (some (.ref σ1.a)) (some (.ref aR))) (upd G2 aR ⟨(11,0),.list [.ref d0,.ref d1]⟩)
 generalize upd G2 aR ⟨(11,0),.list [.ref d0,.ref d1]⟩=G4 at *
 clear k1 k2 RI2 RI3 RI4 kk R1
 refine iP RI1.list ?_
 refine aY E2.a ?_
 refine bS X.b8 X.g7 W3.obj W3.meth ?_
 intro t4
 refine aQ hb (pW X (rV σ2) .object W3 M2 fun σ3 x2 G5 W5 E3 i2 M3 k5=>?_)
 intro t5 t6
 have RI2:=RI1.keep k5
 refine aQ hb (rT X (pN:=some 0) (.inr ⟨0,t5,rfl,rfl⟩) fun d2 aM2 aF2 aH2 G6 hd2 R2 k6=>?_)
 have nd2:=RI2.fresh hd2
 have RI3:=RI2.keep k6
 have W6:=W5.keep k6
 refine iD RI3.list (by exact bY _ _) ?_
 have RI4:=RI3.snoc R2 nd2 (by exact bY _ _)
 have k7:aD [5,6,11,13,15] G (upd G6 aR ⟨(11,0),.list [.ref d0,.ref d1,.ref d2]⟩):=((k3.trans k5.mono).trans k6.mono).turn RI3.list rfl
 have W7:=W6.keep ((aD.refl [11] G6).turn (x:=⟨(11,0),.list [.ref d0,.ref d1,.ref d2]⟩) RI3.list rfl)
 have RI5:RI (upd G6 aR ⟨(11,0),.list [.ref d0,.ref d1,.ref d2]⟩) aR [gB d0 x0 true .none none "BasicObject" t1 aM0 aF0 aH0,gB d1 x1 false .none none "Kernel" t3 aM1 aF1 aH1,gB d2 x2 true (.int 0 t5) (some 0) "Object" t6 aM2 aF2 aH2]:=RI4
 change ws B c bJ rJ 57 ((bodyOf (topS 64)).drop 3) (bA Q) (yG (some (.ref σ2.a)) (some (.ref aR))) (upd G6 aR ⟨(11,0),.list [.ref d0,.ref d1,.ref d2]⟩)
 generalize upd G6 aR ⟨(11,0),.list [.ref d0,.ref d1,.ref d2]⟩=G7 at *
 clear k5 k6 RI2 RI3 RI4 k3 R2 RI1
 have R2:=RI5.at_ _ (cE (i:=2) rfl)
 refine ⟨fun zz=>cX RI5.list (by decide) rfl ?_⟩
 refine ⟨fun zz=>iO R2.dict rfl ?_⟩
 refine iP R2.mix ?_
 intro t7
 refine iD R2.mix (by simp) ?_
 have RI6:RI (upd G7 aM2 ⟨(13,d2),.list [.int 1 t7]⟩) aR [gB d0 x0 true .none none "BasicObject" t1 aM0 aF0 aH0,gB d1 x1 false .none none "Kernel" t3 aM1 aF1 aH1,⟨d2,x2,true,.int 0 t5,some 0,"Object",t6,aM2,[.int 1 t7],[1],aF2,[],[],aH2,[],fun zz=>none⟩]:=RI5.sD (i:=2) (j:=1) (t:=t7) rfl (ble rfl)
 have k8:=k7.turn (x:=⟨(13,d2),.list [.int 1 t7]⟩) R2.mix rfl
 have W8:=W7.keep ((aD.refl [13] G7).turn (x:=⟨(13,d2),.list [.int 1 t7]⟩) R2.mix rfl)
 change ws B c bJ rJ 56 ((bodyOf (topS 64)).drop 4) (bA Q) (yG (some (.ref σ2.a)) (some (.ref aR))) (upd G7 aM2 ⟨(13,d2),.list [.int 1 t7]⟩)
 generalize upd G7 aM2 ⟨(13,d2),.list [.int 1 t7]⟩=G8 at *
 clear R2 RI5 k7 W7
 intro t8
 refine aY E3.a ?_
 refine bS X.b8 X.g7 W8.obj W8.meth ?_
 intro t9
 refine aQ hb (pW X (rV σ3) .integer W8 M3 fun σ4 x3 G9 W9 E4 i3 M4 k9=>?_)
 have RI7:=RI6.keep k9
 refine iF (16,0) (by exact bY _ _) fun tu G10 kf htu gtu=>?_
 have k10:=(k8.trans k9.mono).trans kf.mono
 have RI8:=RI7.keep kf
 have W10:=W9.keep kf
 have gt:G10 tu=some ⟨(16,0),.tup [.str "thing" t8,.ref x3]⟩:=gtu
 have R2:=RI8.at_ _ (cE (i:=2) rfl)
 refine ⟨fun zz=>cX RI8.list (by decide) rfl ?_⟩
 refine ⟨fun zz=>iO R2.dict rfl ?_⟩
 intro t10
 refine nO R2.held (by simp) ?_
 have RI9:=RI8.uP (i:=2) (s:="Integer") rfl (.thing gt) (ble rfl)
 have k11:=k10.turn (x:=⟨(15,d2),.aZ (stored [] "Integer" (.ref tu))⟩) R2.held rfl
 have W11:=W10.keep ((aD.refl [15] G10).turn (x:=⟨(15,d2),.aZ (stored [] "Integer" (.ref tu))⟩) R2.held rfl)
 have EE:=((E1.trans E2).trans E3).trans E4
 have mono:∀ {u:Str} {x:Addr},Is σ1 u x→Is σ4 u x:=fun h=>E4.nm (E3.nm (E2.nm h))
 have all:∀ x∈σ4.dom,∃ u p m c,Tb u p m c∧Full σ4 x u p m c:=fun x hx=>by
  rcases EE.new x hx with h | h
  ·refine pD (Ba.all x h) fun u p m c T f=>?_
   exact ⟨u,p,m,c,T,f.ext h EE⟩
  ·exact h
 have num:=EE.num Ba.num
 have K:LK σ4 _ 1:=LK.base all num.1 M4 (aG num.2 Ba.tot) (mono i0) (E4.nm (E3.nm i1)) (E4.nm i2) i3 (r0:=gB d0 x0 true .none none "BasicObject" t1 aM0 aF0 aH0) (r1:=gB d1 x1 false .none none "Kernel" t3 aM1 aF1 aH1) (r2:=⟨d2,x2,true,.int 0 t5,some 0,"Object",t6,aM2,[.int 1 t7],[1],aF2,[],[],aH2,stored [] "Integer" (.ref tu),fun s'=>if s'="Integer" then some (.thing x3) else none⟩)
  ⟨rfl,rfl,rfl,rfl,rfl,rfl,rfl,fun zz=>rfl⟩ ⟨rfl,rfl,rfl,rfl,rfl,rfl,rfl,fun zz=>rfl⟩ ⟨rfl,rfl,rfl,rfl,rfl,rfl,by have:=nH ([]:List (Str×Value)) "Integer" (.ref tu); exact iR _,fun zz=>rfl⟩
 refine hQ aR _ σ4 _ ⟨W11,RI9,K,fun a ha=>?_⟩ rfl EE.a k11
 refine pD (all a ha) fun u p m c zz f=>?_
 exact .inl f.kept
end
section
variable {B:Bn}
theorem JV (X:Txt B.w B.K) {G:Gh} {σ:Wd} (W:WI G σ) {cl:Bool} {pa:Value} {ow:Addr} (hpa:(cl=true∧(∃ p,pa=.ref p)∧valueAt σ.made "Class"=some (.ref ow))∨(cl=false∧pa=.none∧valueAt σ.made "Module"=some (.ref ow))) {Q:Value→Gh→Prop} (hQ:∀ x t aF bE aC aT b7 G',x∉σ.dom→aD [5] G G'→WI G' ((σ.cJ (σ.last+1) t).add x (Mod.fresh (σ.last+1) t (.ref ow) aF .none cl pa .none bE aC aT b7 .none))→Q (.ref x) G') :
  Call B (.ref 571) [.ref σ.a,.none,.bool cl,pa] G 4 25 Q:=by
 refine SQ X fun c oo hsc aJ hb=>?_
 have hp':handedIn pa=true:=by rcases hpa with ⟨_,⟨p,rfl⟩,_⟩ | ⟨_,rfl,_⟩<;>rfl
 rcases hpa with ⟨rfl,⟨p,rfl⟩,how⟩ | ⟨rfl,rfl,how⟩
 all_goals
  refine bS X.b8 X.g7 W.obj W.meth ?_
  intro t1
  refine aQ hb (lU X W how ?_)
  refine bS X.b8 X.qB W.obj W.meth ?_
  refine nP (X.keeps _ (by decide)) rfl ?_
  refine aQ hb (qC X W fun t G1 W1 k1=>?_)
  refine pB (1,0) X.wY hb fun x hx=>CS X (aI _ _ _) rfl rfl hp' rfl fun aF bE aC aT b7 G2 hC hMix hAh gC gMix gAh gx kx=>⟨rfl,?_⟩
  have k2:=kx.keep hx
  have hxd:=W1.iX hx
  have W2:=W1.vY k2 (wV gx gC gMix gAh) hxd
  refine fF X.bC gx rfl rfl rfl ?_
  refine hQ x t aF bE aC aT b7 _ hxd (k1.trans ((k2.new hx).mono)) ?_
  exact W2.zR
theorem aaJ (X:Txt B.w B.K) {G:Gh} {σ:Wd} (W:WI G σ) {ow:Addr} (how:valueAt σ.made "Module"=some (.ref ow)) {Q:Value→Gh→Prop} (hQ:∀ x t aF bE aC aT b7 G',x∉σ.dom→aD [5] G G'→WI G' ((σ.cJ (σ.last+1) t).add x (Mod.fresh (σ.last+1) t (.ref ow) aF .none false .none .none bE aC aT b7 .none))→Q (.ref x) G') :
  Call B (.ref 571) [.ref σ.a,.none,.bool false] G 4 25 Q:=by
 refine SP X fun c oo hsc aJ hb=>?_
 refine bS X.b8 X.g7 W.obj W.meth ?_
 intro t1
 refine aQ hb (lU X W how ?_)
 refine bS X.b8 X.qB W.obj W.meth ?_
 refine nP (X.keeps _ (by decide)) rfl ?_
 refine aQ hb (qC X W fun t G1 W1 k1=>?_)
 refine pB (1,0) X.wY hb fun x hx=>CS X (aI _ _ _) rfl rfl rfl rfl fun aF bE aC aT b7 G2 hC hMix hAh gC gMix gAh gx kx=>⟨rfl,?_⟩
 have k2:=kx.keep hx
 have hxd:=W1.iX hx
 have W2:=W1.vY k2 (wV gx gC gMix gAh) hxd
 refine fF X.bC gx rfl rfl rfl ?_
 refine hQ x t aF bE aC aT b7 _ hxd (k1.trans ((k2.new hx).mono)) ?_
 exact W2.zR
end
theorem LK.le {σ:Wd} {rows:List Row} {n n':Nat} (H:LK σ rows n) (h:n≤n') (hn:n'≤100):LK σ rows n' :=
 ⟨fun i r hr=>by
  have R:=H.row i r hr
  exact ⟨R.dom,R.mix,R.bX,R.par,R.cls,R.kid,DK h R.sz,R.con,R.nat,R.own,R.nm⟩,H.inj,H.num,H.made,H.univ,H.jB,H.b0,H.b1,H.b2,H.int,H.cc,H.cm,H.n3,H.len,H.sH,aG H.tot (fS (z9 5 h) 39),H.i6,hn⟩
theorem LI.le {G:Gh} {aR:Addr} {rows:List Row} {σ:Wd} {n n':Nat} (H:LI G aR rows σ n) (h:n≤n') (hn:n'≤100):LI G aR rows σ n':=⟨H.W,H.R,H.K.le h hn,H.kept⟩
structure jI (G:Gh) (aN:Addr) (nest:List Nat):Prop where
 ex:∃ tn nv,tn≠(9,0)∧tn.1=9∧G aN=some ⟨tn,.list nv⟩∧aX nv (nats nest)
theorem jI.keep {T:List Nat} {G G':Gh} {aN:Addr} {nest:List Nat} (h:jI G aN nest) (k:aD T G G') (hT:T.contains 9=false:=by rfl):jI G' aN nest:=by
 refine j0 h.ex fun tn nv h1 h2 h3 h4=>?_
 exact ⟨tn,nv,h1,h2,k _ _ h3 (by exact sb h2 hT),h4⟩
noncomputable def spotOf:List Nat→Nat
 | []=>2
 | i::_=>i
section
variable {B:Bn}
theorem wX (X:Txt B.w B.K) {σ:Wd} {rows:List Row} {n:Nat} (H:LK σ rows n) {s:Str} (hs:s∈signs):tO B.K σ s:=by
 have nu:∀ {s:Str},s∉univ→valueAt σ.made s=none:=fun {s} h=>by
  cases q:valueAt σ.made s with
  | none=>rfl
  | some v=>exact absurd (H.univ _ _ q) h
 simp only [signs,cU,qT,or_false] at hs
 rcases hs with rfl | rfl | rfl | rfl | rfl | rfl | rfl
 ·exact .inl ⟨X.PX,nu (by decide)⟩
 ·exact .inl ⟨X.PZ,nu (by decide)⟩
 ·exact .inl ⟨X.Q2,nu (by decide)⟩
 ·exact .inl ⟨X.Q5,nu (by decide)⟩
 ·exact .inl ⟨X.QE,nu (by decide)⟩
 ·exact .inl ⟨X.QF,nu (by decide)⟩
 ·obtain ⟨x,h⟩:=H.int
  exact .inr ⟨_,x,X.GL,h⟩
theorem tV {G:Gh} {σ:Wd} {rows:List Row} {n:Nat} (W:WI G σ) (H:LK σ rows n) {o:Option Value} {h:Option eV} (c:CV (aK rows) rows.length σ.dom o h):(∀ i,h=some (.row i)→i<rows.length)∧(match (generalizing:=false) o,h with
   | some f,some h=>∀ u,pM rows h u→∃ k,jY G f k∧jY G u k
   | none,none=>True
   | _,_=>False):=by
 cases c with
 | no=>exact ⟨fun i h=>(by exact bM h),trivial⟩
 | @row j hj =>
  refine ⟨fun i h=>(by cases h; exact hj),fun u hu=>?_⟩
  cases hu with
  | @row _ r hr=>refine sb (dZ hr) ?_; have:=W.gV (H.row _ r hr).dom; exact ⟨_,this,this⟩
 | num =>
  refine ⟨fun i h=>(by cases h),fun u hu=>?_⟩
  cases hu with
  | num=>exact ⟨_,.num _ _,.num _ _⟩
 | thing ha =>
  refine ⟨fun i h=>(by cases h),fun u hu=>?_⟩
  cases hu with
  | thing=>have:=W.gV ha; exact ⟨_,this,this⟩
end
theorem aX.of_get {vs:List Value} {ns:List Int} (hl:vs.length=ns.length) (h:∀ (j:Nat) v,vs[j]?=some v→∃ i t,ns[j]?=some i∧v=.int i t):aX vs ns:=by
 induction vs generalizing ns with
 | nil=>induction ns using List.casesOn with
  | nil=>trivial
  | cons=>cases hl
 | cons v vs ih=>induction ns using List.casesOn with
  | nil=>cases hl
  | cons i ns =>
   refine cN (h 0 v rfl) fun i' t e zq4=>?_
   cases e
   exact ⟨⟨t,zq4⟩,ih (Nat.succ.inj hl) fun j u hu=>h (j+1) u hu⟩
theorem aX.UE {p:Int→Bool} {p':Value→Bool} (hp:∀ i t,p' (.int i t)=p i) {vs:List Value} {ns:List Int} (h:aX vs ns):aX (vs.filter p') (ns.filter p) :=
 h.ind (M:=fun vs ns=>aX (vs.filter p') (ns.filter p)) trivial fun t i vs ns zz ih=>by
  refine sb qP (sb qP (sb (hp _ _) ?_))
  by_cases q:p i=true
  ·exact sb (if_pos q) (sb (if_pos q) (⟨⟨t,rfl⟩,ih⟩))
  ·exact sb (if_neg q) (sb (if_neg q) ih)
set_option tactic.hygienic true in
theorem jZ.lt {prog:Program} {w:World} {K:Frag} {p:Program} {loose:List Str} {mean:ExcName→Option Value} {mg mb:Str→Option Value} {c:Cx} {xv:Value} {n:Nat} {It:Nat→GK} {Src:Gh→Prop} {P:Nat→Value→Prop} {m:aA} {G:Gh} {s:Shared} (h:jZ prog w K p loose mean mg mb c xv n It Src P m G s) :
  jZ prog w K p loose mean mg mb c xv n It Src (fun k v=>k<n∧P k v) m G s:=fun Q E k=>h Q E fun I s' hI S' It' hs=>k I s' hI S' ⟨It'.aaN,fun c k s' m G' Q' hA ok hk S' hI hs q=>It'.next c k s' m G' Q' hA ok hk S' hI hs fun v s'' hP=>q v s'' ⟨hk,hP⟩,It'.last,It'.self⟩ hs
section
variable {B:Bn} {c:Cx} {R:Addr→aA→Gh→Prop} {gl:List (Str×Value)} {m:aA} {G:Gh}
structure vQ (B:Bn) (c:Cx) (gl:List (Str×Value)) (m:aA) (x:Str) (ifs:List Expr) (elt:Expr) (scope:Scope) (tg:Tag) (a:Int) (n:Nat) (m₁:aA) (G₁:Gh) (Q:Value→Gh→Prop):Prop where
 go:m₁=m∧∃ (pr:Nat→Bool),
  (∀ c' (k:Nat) tk G',c'.A=c.A→c'.gl=fY gl scope.names→k<n→aD [] G₁ G'→uT B c' (fY gl scope.names) ifs (fun b m₂ G₂=>m₂=(x,some (.int (a+k) tk))::dX m scope.names∧b=pr k∧aD [] G' G₂) ((x,some (.int (a+k) tk))::dX m scope.names) G') ∧
  (∀ c' (k:Nat) tk G',c'.A=c.A→c'.gl=fY gl scope.names→k<n→aD [] G₁ G'→wk B c' bJ (fY gl scope.names) 60 (.E elt fun y m₂ G₂=>m₂=(x,some (.int (a+k) tk))::dX m scope.names∧aD [] G' G₂∧y=.int (a+k) tk) ((x,some (.int (a+k) tk))::dX m scope.names) G') ∧
  ∀ D (ys:List Value) G',G₁ D=none→aD [] G₁ G'→G' D=some ⟨tg,.list ys⟩→aX ys (((lL n).filter pr).map fun k:Nat=>a+(k:Int))→Q (.ref D) G'
theorem vQ.at (X:Txt B.w B.K) {x:Str} {ifs:List Expr} {elt:Expr} {scope:Scope} {tg:Tag} {xv:Value} {a:Int} {n:Nat} {m₁:aA} {G₁:Gh} {Q:Value→Gh→Prop} {QQ:Addr→aA→Gh→Shared→Prop} {s:Shared} (h:vQ B c gl m x ifs elt scope tg a n m₁ G₁ Q) (ok:B.Ok c) (S:B.St c s m₁ G₁) (hn:n≤1000) {It:Nat→GK}
  (hIt:jZ B.prog B.w B.K B.p B.loose B.mean B.mg B.mb c xv n It (fun zz=>True) (fun k v=>∃ tk,v=.int (a+k) tk) m₁ G₁ s)
  (fin:∀ D s' ys G',G' D=some ⟨(9,0),.list ys⟩→B.St c s' m G'→Q (.ref D) (upd G' D ⟨tg,.list ys⟩)→QQ D m G' s') :
  tH B.prog B.w B.K B.p B.loose B.mean B.mg B.mb c m (dX m scope.names) (fY gl scope.names) x ifs elt scope QQ xv s:=by
 obtain ⟨rfl,pr,ht,he,hq⟩:=h.go
 have hpr:∀ (k:Nat) tk,(fun v:Value=>match v with | .int i _=>pr (i - a).toNat | _=>false) (.int (a+k) tk)=pr k:=fun k tk=>by
  show pr (a+k - a).toNat=pr k
  exact sb (show (a+(k:Int) - a)=(k:Int) by exact vB (by simp +arith only) (by simp +arith only)) (sb (vF _) rfl)
 refine HB (fun v:Value=>match v with | .int i _=>pr (i - a).toNat | _=>false) (fun v y zz=>y=v) [] (fun zz zz zz=>True) S hIt.lt (fun zz zz zz zz zz=>trivial) trivial ⟨by exact aG hn (ble rfl),rfl,fun zz zz zz zz h zz=>h,fun zz zz zz zz h zz=>h,fun zz zz zz zz zz zz=>trivial,fun zz zz zz zz zz zz zz=>trivial,?_,?_⟩ fun D s' vs ys G' hD hk hi hD' hl hP hF S'=>?_
 ·rintro c' C k v s' G' ys ok' hA hg he' ⟨hkn,tk,rfl⟩ hk hi S'
  refine aY hA ?_
  refine (MX X hg (ht c' k tk G' hA hg hkn hk)).goN ok' S' fun b s2 m2 G2 S2 q=>?_
  refine dC q fun zq3 hb hk2=>?_
  subst zq3
  exact ⟨by rw [hb]; exact (hpr k tk).symm,G2,S2,hk2⟩
 ·rintro c' C k v s' G' ys ok' hA hg he' ⟨hkn,tk,rfl⟩ hp hk hi S'
  refine aY hA ?_
  refine (fQ X hg (he c' k tk G' hA hg hkn hk)).goN ok' S' fun y s2 m2 G2 S2 q=>?_
  refine dC q fun zq2 hk2 hf=>?_
  subst zq2
  exact ⟨G2,S2,hk2,hf,trivial⟩
 ·have e:ys=vs.filter (fun v:Value=>match v with | .int i _=>pr (i - a).toNat | _=>false):=adD (G:=G') hF
  have h1:aX vs ((lL n).map fun k:Nat=>a+(k:Int)):=.of_get (by exact sb (cT _) (sb yW hl)) fun j v hv=>by
   obtain ⟨hj,tk,rfl⟩:=hP j v hv
   exact ⟨_,tk,by refine sb jF (sb (List.getElem?_range hj) ?_); rfl,rfl⟩
  have h2:=aX.UE (p:=fun i=>pr (i - a).toNat) (p':=fun v:Value=>match v with | .int i _=>pr (i - a).toNat | _=>false) (fun zz zz=>rfl) h1
  have h3:((lL n).map fun k:Nat=>a+(k:Int)).filter (fun i=>pr (i - a).toNat)=((lL n).filter pr).map fun k:Nat=>a+(k:Int):=by
   refine sb yT ?_
   congr 1
   refine mT fun k zz=>?_
   exact hpr k 0
  rw [h3] at h2
  refine fin D s' ys G' hD' S' (hq D ys _ hD (hk.new hD) (aI _ _ _) ?_)
  exact sb e h2
theorem XD {x:Str} {e1 e2:Expr} {q pos:Pos} {P:Value→Shared→Prop} {E:Value→Shared→Prop} (X:Txt B.w B.K) (hg:c.gl=gl) (hx:gl.lookup x=some (.type "range")) {s:Shared} (ok:B.Ok c) (S:B.St c s m G)
  {Z:Int→Nat→aA→Gh→Prop} (h:wk B c R gl 60 (.L pos [e1,e2] fun vs m₁ G₁=>∃ a b t u,vs=[.int a t,.int b u]∧0≤a∧a≤b∧b≤1000∧Z a (b - a).toNat m₁ G₁) m G)
  (k:∀ (a:Int) (n:Nat) m₁ G₁ xv s₁ It,n≤1000→Z a n m₁ G₁→B.St c s₁ m₁ G₁→jZ B.prog B.w B.K B.p B.loose B.mean B.mg B.mb c xv n It (fun zz=>True) (fun k v=>∃ tk,v=.int (a+k) tk) m₁ G₁ s₁→P xv s₁)
  (hE:∀ e s',Exc B.prog B.w c R e s'→E e s')
  (he:starEach (e1::[e2]) c.env=(false,eval e1 c.env)::starEach [e2] c.env:=by with_unfolding_all rfl) (hplain:(backTo pos (starEach [e2] c.env)).any (·.1)=false:=by with_unfolding_all rfl):wpAny (model B.prog B.w) c.A (eval (.Call (.Name x q) [e1,e2] [] pos) c.env) P E s:=by
 refine EM ok S hg (lookup_mem hx) (wpAny_mono (((gI X hg _ _ _ _ h).2).run ok s S) (fun vs s1 h1=>?_) hE) he hplain
 refine cN h1 fun m1 G1 S1 zq1=>?_
 obtain ⟨a,b,t,u,rfl,h1,h2,h3,h4⟩:=zq1
 exact XH ok S1 h1 h2 h3 fun xv s2 S2 hIt=>k a _ m1 G1 xv s2 _ (by exact ab1 h1 h3) h4 S2 hIt
theorem OE {elt:Expr} {px py pos spos q rpos:Pos} {ifs:List Expr} {x y rn:Str} {e1 e2:Expr} {scope osc:Scope} {Q:Flow→aA→Gh→Prop} (X:Txt B.w B.K) (oo:bB c) (hg:c.gl=gl) (hsc:c.env.scope=osc) (tg:Tag) (hrn:gl.lookup rn=some (.type "range")) (chk:rC m osc scope x=true) (hs:isSet (.Call (.Name rn q) [e1,e2] [] rpos)=false) (hy:(m.lookup y).isSome=true)
  (hsw:swapsWith (.ListComp elt [⟨.Name x px,.Call (.Name rn q) [e1,e2] [] rpos,ifs,0⟩] scope pos) (some (.Name y py)) spos.line (i9 osc)=pure true)
  (h:wk B c R gl 60 (.L rpos [e1,e2] fun vs m₁ G₁=>∃ a b t u,vs=[.int a t,.int b u]∧0≤a∧a≤b∧b≤1000∧vQ B c gl m x ifs elt scope tg a (b - a).toNat m₁ G₁ fun v G=>Q .next (kK m y v) G) m G)
  (he:starEach (e1::[e2]) c.env=(false,eval e1 c.env)::starEach [e2] c.env:=by with_unfolding_all rfl) (hplain:(backTo rpos (starEach [e2] c.env)).any (·.1)=false:=by with_unfolding_all rfl) :
  V B c R (exec (.Assign [.Name y py] (.ListComp elt [⟨.Name x px,.Call (.Name rn q) [e1,e2] [] rpos,ifs,0⟩] scope pos) spos) c.env) m G Q :=
 ⟨fun ok s S=>LG ok oo S (w3 chk hg hsc) ((xU hsc).trans hsw) (XD (Z:=fun a n m₁ G₁=>vQ B c gl m x ifs elt scope tg a n m₁ G₁ fun v G=>Q .next (kK m y v) G) X hg hrn ok S h (fun a n m1 G1 xv s1 It hn z S1 hIt=>z.at X ok S1 hn hIt fun D s' ys G' hD' S' q=>⟨_,xP hy,fun s'' S''=>⟨_,_,S''.qE tg hD',q⟩⟩) (fun zz zz e=>e) he hplain) (sA hs)⟩
end
theorem vZ {k i n:Nat} (h:i<((n:Int) - (k:Int)).toNat):k+i<n:=by exact acF h
theorem sub_pos {k n:Nat} (h:k<n):0<((n:Int) - (k:Int)).toNat:=by exact acE h
theorem len_sub {α β:Type} {l:List α} {f:α→β} {k:Nat} (h:k≤l.length):((l.map f).length:Int) - (k:Int)=((l.length - k:Nat):Int):=by exact sb (cT _) ((EU h).symm)
theorem D8 {k n:Nat} (h:k<n):(0:Int)<((n - k:Nat):Int):=kQ.mpr (Nat.sub_pos_of_lt h)
theorem D7 {k n:Nat} {j:Int} (h0:0≤j) (h1:j<((n - k:Nat):Int)):∃ i:Nat,(k:Int)+j=(i:Int)∧i<n:=⟨k+j.toNat,by exact acD h0,by exact acC h0 h1⟩
inductive tR (n:Nat):Bool→Option Nat→Value→Prop
 | no:tR n false none .none
 | yes {p:Nat} {t:Tok} (h:p<n):tR n true (some p) (.int p t)
theorem tR.pr {n:Nat} {cl:Bool} {pN:Option Nat} {pv:Value} (h:tR n cl pN pv):(pN=none∧pv=.none)∨∃ (p:Nat),∃ t,pN=some p∧pv=.int p t:=by
 cases h with
 | no=>exact .inl ⟨rfl,rfl⟩
 | yes _=>exact .inr ⟨_,_,rfl,rfl⟩
noncomputable def j8 (rows:List Row) (i:Nat):Bool:=match rows[i]? with
 | some r=>r.cls
 | none=>false
theorem LK.QZ {σ:Wd} {rows:List Row} {n:Nat} (H:LK σ rows n):j8 rows 2=true:=by
 refine c7 (H.at_ (i:=2) (by have:=H.n3; exact this)) fun r hr e R=>?_
 refine mL (H.bs H.b2) fun p m c T b zz=>?_
 have h:=b.cls
 rw [e,R.cls] at h
 unfold j8; refine sb hr ?_
 show r.cls=true
 refine sb h ?_; cases T; rfl
theorem LK.QY {σ:Wd} {rows:List Row} {n:Nat} (H:LK σ rows n):j8 rows 1=false:=by
 refine c7 (H.at_ (i:=1) (by have:=H.n3; exact aG (ble rfl) this)) fun r hr e R=>?_
 refine mL (H.bs H.b1) fun p m c T b zz=>?_
 have h:=b.cls
 rw [e,R.cls] at h
 unfold j8; refine sb hr ?_
 show r.cls=false
 refine sb h ?_; cases T; rfl
theorem aX.sel {ys:List Value} {a n:Nat} {p:Nat→Bool} (h:aX ys (((lL n).filter p).map fun k:Nat=>(a:Int)+(k:Int))) {k0:Nat} (hk:k0<n) (hp:p k0=true):0<ys.length∧ys.length≤n∧∀ (j:Int),0≤j→j<ys.length→∃ (k:Nat),∃ t,ys[j.toNat]?=some (.int ((a+k:Nat):Int) t)∧k<n∧p k=true:=by
 have hl:=h.length
 rw [cT] at hl
 refine ⟨?_,?_,fun j h0 hj=>?_⟩
 ·exact sb hl (F1 (eZ.mpr ⟨vK.mpr hk,hp⟩))
 ·refine sb hl ?_; have:=nU p (lL n); rwa [yW] at this
 ·have hj':j.toNat<ys.length:=(yQ (by assumption)).mpr (by assumption)
  refine cN (h.at (lK hj')) fun i t h1 h2=>?_
  rw [jF,mX] at h1
  refine aV h1 fun k h3 zq1=>?_
  subst zq1
  have hm:=eZ.mp (cE h3)
  exact ⟨k,t,by refine sb (lK hj') (sb h2 ?_); congr 2,vK.mp hm.1,hm.2⟩
theorem LK.outs {σ:Wd} {rows:List Row} {n:Nat} (H:LK σ rows n):∀ x∈σ.dom,(σ.md x).outer=.none∨∃ y,(σ.md x).outer=.ref y∧y∈σ.dom∧eY σ rows y<eY σ rows x:=fun x hx=>by
 have one:∀ i,i<rows.length→aK rows i=x→(σ.md x).outer=.none∨∃ y,(σ.md x).outer=.ref y∧y∈σ.dom∧eY σ rows y<eY σ rows x:=fun i hi e=>by
  refine c7 (H.at_ hi) fun r hr e1 R=>?_
  subst e
  refine j0 R.nm fun s t zz zz zz h=>?_
  rcases h with ⟨h,_⟩ | ⟨j,hj,h,_⟩
  ·exact .inl (by exact sb e1 h)
  ·exact .inr ⟨aK rows j,by refine sb e1 ?_; exact h,H.lH (by exact aG hj ((cZ hi))),by exact sb (H.rk hi) (sb (H.rk (by exact aG hj ((cZ hi)):j<rows.length)) hj)⟩
 rcases H.jB x hx with ⟨i,_,hi,e⟩ | ⟨u,p,m,c,T,b,_⟩
 ·exact one i hi e
 ·exact .inl b.out
theorem LK.xG {σ:Wd} {rows:List Row} {n:Nat} (H:LK σ rows n) {i:Nat} {r:Row} (hr:rows[i]?=some r):r.path.length≤10000:=by
 have key:∀ (N i:Nat) (r:Row),i<N→rows[i]?=some r→r.path.length≤30 * (i+1):=by
  intro N
  induction N with
  | zero=>intro i r h _; exact absurd h (vO _)
  | succ N ih =>
   intro i r hi hr
   refine j0 ((H.row i r hr).nm) fun s t zz zz hz h=>?_
   rcases h with ⟨_,h⟩ | ⟨j,hj,_,h⟩
   ·exact sb h (aG hz (ble rfl))
   ·have hjl:j<rows.length:=z8 hj (cO.mp hr).1
    obtain ⟨rj,hrj⟩:=jR hjl
    have:=ih j rj (by exact dQ hi hj (by simp +arith only)) hrj
    have e:iN rows j=rj.path:=by unfold iN; exact sb hrj rfl
    have l2:(iK "::").length=2:=by decide
    exact sb h (sb e (sb (gO _ _) (sb (gO _ _) (sb l2 (acB hz hj this)))))
 have h1:=key (i+1) i r (lN i) hr
 have h2:=(cO.mp hr).1
 have:=H.len
 exact acA h1 h2 this
theorem dT.add {σ:Wd} (N:dT σ) {b:Addr} {t:Tok} {mm:Mod} (hb:b∉σ.dom) (hm:mm.num=σ.last+1):gY ((σ.cJ (σ.last+1) t).add b mm):=by
 intro x hx y hy e
 have at_:∀ z,z∈((σ.cJ (σ.last+1) t).add b mm).dom→(z∈σ.dom∧(((σ.cJ (σ.last+1) t).add b mm).md z).num=(σ.md z).num)∨(z=b∧(((σ.cJ (σ.last+1) t).add b mm).md z).num=σ.last+1):=fun z hz=>by
  rcases bW.mp hz with h | h
  ·left; refine ⟨h,?_⟩
   refine sb (r7 (σ:=σ.cJ (σ.last+1) t) (fun e:z=b=>hb (e▸h))) ?_; rfl
  ·refine sb (cG.mp h) ?_; right
   refine ⟨rfl,?_⟩
   exact sb r8 hm
 rcases at_ x hx with ⟨h1,h2⟩ | ⟨h1,h2⟩<;>rcases at_ y hy with ⟨k1,k2⟩ | ⟨k1,k2⟩
 ·rw [h2,k2] at e; exact N.inj x h1 y k1 e
 ·rw [h2,k2] at e; have:=N.le x h1; omega
 ·rw [h2,k2] at e; have:=N.le y k1; omega
 ·exact sb h1 (sb k1 ((by rfl)))
noncomputable def MB (S:List Str) (v:Value):Bool:=match v with
 | .str s _=>S.contains s
 | _=>false
theorem afQ {S:List Str} {v:Value} (h:MB S v=true):∃ s t,v=.str s t∧s∈S:=by
 induction v using Value.casesOn with
 | str s t=>exact ⟨s,t,rfl,mS.mp h⟩
 | _=>exact nB h
theorem uO {S:List Str} {l:List Value} (h:l.all (MB S)=true):∀ v∈l,∃ s t,v=.str s t∧s∈S:=fun v hv=>afQ (gJ.mp h v hv)
theorem pick {xs:List Value} {P:Str→Prop} (h:∀ v∈xs,∃ s t,v=.str s t∧P s) {j:Int} (h0:0≤j) (hj:j<xs.length):∃ s t,xs[j.toNat]?=some (.str s t)∧P s:=by
 have hj':j.toNat<xs.length:=(yQ (by assumption)).mpr (by assumption)
 refine cN (h _ (List.getElem_mem hj')) fun s t e p=>?_
 exact ⟨s,t,by exact sb (lK hj') (sb e rfl),p⟩
section
variable {B:Bn} {c:Cx} {R:Addr→aA→Gh→Prop} {m:aA} {G:Gh}
theorem ah2 {a b:Bool} {Q:Value→aA→Gh→Prop} (h:Q (.bool (a==b)) m G):V B c R (compareOp .Eq (.bool a) (.bool b)) m G Q:=⟨fun ok s S=>PySem.SeqAt.RcAt.bool_bool a b _ _ _ _ ⟨_,_,S,h⟩⟩
end
theorem xQ {s:Str} (hs:s∈(["A","B","C","D"]:List Str)):s∈signs∧s∉univ∧s.length≤20∧s.length=1 :=
 (by decide:∀ s∈(["A","B","C","D"]:List Str),s∈signs∧s∉univ∧s.length≤20∧s.length=1) s hs
theorem WQ (o:Option Value):∃ b v,lW o=[.bool b,v]:=by induction o using Option.casesOn<;>exact ⟨_,_,rfl⟩
theorem J5 {l:List Row} {r:Row}:(((l++[r]).map fun r=>Value.ref r.d).length:Int) - 1=(l.length:Int):=by
 exact sb (cT _) (sb fR (sb pG (sb (Int.natCast_add _ _) (Int.add_sub_cancel _ _))))
structure n5 (σ σ1:Wd) (b ow:Addr) (cl:Bool) (pa:Value):Prop where
 nb:b∉σ.dom
 ea:σ1.a=σ.a
 dom:σ1.dom=σ.dom++[b]
 made:σ1.made=σ.made
 last:σ1.last=σ.last+1
 cD:σ1.cD=σ.cD
 md:∀ x∈σ.dom,σ1.md x=σ.md x
 mb:∃ t aF bE aC aT b7,σ1.md b=Mod.fresh (σ.last+1) t (.ref ow) aF .none cl pa .none bE aC aT b7 .none
 num:dT σ→gY σ1
theorem n5.of {σ:Wd} {b ow aF bE aC aT b7:Addr} {t:Tok} {cl:Bool} {pa:Value} (hb:b∉σ.dom):n5 σ ((σ.cJ (σ.last+1) t).add b (Mod.fresh (σ.last+1) t (.ref ow) aF .none cl pa .none bE aC aT b7 .none)) b ow cl pa :=
 ⟨hb,rfl,rfl,rfl,rfl,rfl,fun x hx=>r7 (σ:=σ.cJ (σ.last+1) t) (fun e:x=b=>hb (e▸hx)),⟨_,_,_,_,_,_,r8 (σ:=σ.cJ (σ.last+1) t)⟩,fun N=>N.add hb rfl⟩
theorem n5.obj {G:Gh} {σ σ1:Wd} {b ow:Addr} {cl:Bool} {pa:Value} (N:n5 σ σ1 b ow cl pa) (W:WI G σ1):G σ.a=some ⟨(5,0),.inst 770 σ1.fs⟩:=N.ea▸W.obj
structure vW (σ σ2:Wd) (a b ob:Addr) (s:Str) (tS:Tok) (cl:Bool) (pa:Value):Prop where
 nb:b∉σ.dom
 ea:σ2.a=σ.a
 dom:σ2.dom=σ.dom++[b]
 made:σ2.made=σ.made
 last:σ2.last=σ.last+1
 cD:σ2.cD=σ.cD
 ma:σ2.md a={σ.md a with consts:=stored (σ.md a).consts s (.ref b)}
 mo:∀ x∈σ.dom,x≠a→σ2.md x=σ.md x
 mb:∃ t ow aF bE aC aT b7,σ2.md b=Mod.fresh (σ.last+1) t (.ref ow) aF (.str s tS) cl pa (if a=ob then .none else .ref a) bE aC aT b7 .none
theorem n5.set {σ σ1:Wd} {a b ow ob:Addr} {s:Str} {tS t:Tok} {cv:Int} {cl:Bool} {pa:Value} (N:n5 σ σ1 b ow cl pa) (ha:a∈σ.dom):vW σ (((σ1.dJ a s (.ref b)).put b {σ1.md b with nameV:=.str s tS,outer:=if a=ob then .none else .ref a}).jS cv t) a b ob s tS cl pa:=by
 have hab:a≠b:=fun e=>N.nb (e▸ha)
 refine ⟨N.nb,N.ea,N.dom,N.made,N.last,N.cD,?_,fun x hx hxa=>?_,?_⟩
 ·show (((σ1.dJ a s (.ref b)).put b _)).md a=_
  (refine sb (dY hab) ?_; rewrite [Wd.dJ]; exact sb fD (sb (N.md a ha) rfl))
 ·show (((σ1.dJ a s (.ref b)).put b _)).md x=_
  (refine sb (dY (fun e:x=b=>N.nb (e▸hx))) ?_; rewrite [Wd.dJ]; exact sb (dY hxa) (sb (N.md x hx) rfl))
 ·obtain ⟨t,aF,bE,aC,aT,b7,e⟩:=N.mb
  refine ⟨t,ow,aF,bE,aC,aT,b7,?_⟩
  show (((σ1.dJ a s (.ref b)).put b _)).md b=_
  exact sb fD (sb e rfl)
section
variable {B:Bn}
theorem MD (X:Txt B.w B.K) {G:Gh} {rows:List Row} {σ σ1:Wd} {n i:Nat} {r0:Row} (K:LK σ rows n) (hr0:rows[i]?=some r0) {b ow:Addr} {s:Str} {tS:Tok} {cl:Bool} {pa:Value} (N:n5 σ σ1 b ow cl pa) (W:WI G σ1) {Q:Value→Gh→Prop} (hQ:∀ σ2 r G',WI G' σ2→vW σ σ2 r0.thing b (aK rows 2) s tS cl pa→aD [1,2,5] G G'→Q r G') :
  Call B (.ref 767) [.ref σ.a,.ref r0.thing,.str s tS,.ref b] G 5 30 Q:=by
 have R0:=K.row i r0 hr0
 obtain ⟨_,_,_,_,_,_,mb⟩:=N.mb
 refine aY N.ea ?_
 refine afU X W (N.num K.num) (by exact sb N.dom (dD _ R0.dom)) (by exact sb N.dom (cW _ c8)) (fun e:r0.thing=b=>N.nb (e▸R0.dom)) ?_ (ro:=eY σ rows) (ob:=aK rows 2) (by exact sb mb rfl) (by exact sb mb rfl) (fun x hx hxb=>?_) (by exact sb N.made K.b2) (by exact sb N.dom (dD _ (K.lH K.n3))) fun t9 r9 G9 W9 k9=>hQ _ _ _ W9 (N.set R0.dom) k9
 ·refine sb (N.md _ R0.dom) ?_
  exact aG (d7 R0.sz.2.2.2) (aG (d7 K.nz) (ble rfl))
 ·rw [N.dom,bW,cG] at hx
  have hx:=hx.resolve_right hxb
  refine sb (N.md x hx) ?_
  exact (K.outs x hx).imp id fun ⟨y,h1,h2,h4⟩=>⟨y,h1,by rw [N.dom]; exact dD _ h2,fun e=>N.nb (e▸h2),h4⟩
end
theorem vW.LI {G G':Gh} {aR tu:Addr} {rows:List Row} {σ σ2:Wd} {n i:Nat} {r0 rn:Row} {s:Str} {tS t t':Tok} {pa:Value} (H:LI G aR rows σ n) (hr0:rows[i]?=some r0) (O:vW σ σ2 r0.thing rn.thing (aK rows 2) s tS rn.cls pa) (hs:s∉univ∧s.length≤20) (hpath:(i=2∧rn.path=s)∨(i≠2∧rn.path=r0.path++"::"++s))
  (hpa:(rn.pN=none∧pa=.none)∨∃ p,rn.pN=some p∧p<rows.length∧pa=.ref (aK rows p)∧rn.cls=true) (m1:rn.mix=[]) (m2:rn.fr=[]) (m3:rn.held=[]) (m4:∀ s,rn.hh s=none) (R:RI G' aR (rows++[rn])) (W:WI G' σ2) (kp:aD [1,2,5,11,15] G G') (gt:G' tu=some ⟨(16,0),.tup [.str "row" t,.int (rows.length:Int) t']⟩) (hl:rows.length<20) (hn:n+2≤100) :
  LI (upd G' r0.aH ⟨(15,r0.d),.aZ (stored r0.held s (.ref tu))⟩) aR (rows.set i {r0 with held:=stored r0.held s (.ref tu),hh:=fun s'=>if s'=s then some (.row rows.length) else r0.hh s'}++[rn]) σ2 (n+2):=by
 have hsp:=(cO.mp hr0).1
 have hr1:(rows++[rn])[i]?=some r0:=by exact sb lC (sb (if_pos hsp) hr0)
 have A:=R.at_ r0 (cE hr1)
 have R0:=H.K.row i r0 hr0
 have e0:r0.thing=aK rows i:=by unfold aK; exact sb hr0 rfl
 have h3:=H.K.n3
 have R13:=R.uP (s:=s) hr1 (HeldAt.row gt) (aG (d7 R0.sz.2.2.1) (aG (d7 hn) (ble rfl)))
 rw [P4 _ _ hsp] at R13
 have kh:aD [15] G' (upd G' r0.aH ⟨(15,r0.d),.aZ (stored r0.held s (.ref tu))⟩):=(aD.refl _ _).turn A.held rfl
 obtain ⟨t,ow,aF,bE,aC,aT,b7,mb⟩:=O.mb
 have hL:=H.K.open_ (σ':=σ2) (r:=r0) (rn:=rn) (s:=s) (hd:=stored r0.held s (.ref tu)) hr0 O.nb O.dom O.made O.last O.mo O.ma (by exact sb mb rfl) (by exact sb mb rfl) (by exact sb mb rfl) (by exact sb mb rfl) (by exact sb mb rfl) (by exact sb mb rfl) (by exact sb mb rfl) (by exact sb mb rfl) (by exact sb mb (⟨ow,rfl⟩))
  (by
   refine ⟨s,tS,by exact sb mb rfl,hs.1,hs.2,?_⟩
   have e22:(r0.thing=aK rows 2)↔i=2:=⟨fun e=>(H.K.inj 2 i h3 hsp (e.symm.trans e0)).symm,fun e=>by exact sb e0 (sb e rfl)⟩
   rcases hpath with ⟨h1,h2⟩ | ⟨h1,h2⟩
   ·exact .inl ⟨by rw [mb]; exact if_pos (e22.mpr h1),h2⟩
   ·refine .inr ⟨i,hsp,?_,?_⟩
    ·exact sb mb (aY e0 (if_neg fun e=>h1 (e22.mp e)))
    ·have e:iN rows i=r0.path:=by unfold iN; exact sb hr0 rfl
     exact sb e h2)
  (by
   rcases hpa with ⟨h1,h2⟩ | ⟨p,h2,h5,h4,h1⟩
   ·exact .inl ⟨h1,by exact sb mb h2⟩
   ·exact .inr ⟨p,h2,h5,by rw [mb]; exact h4,h1⟩)
  m1 m2 m3 m4 hl (nH _ _ _) hn
 have hsm:=H.K.same hL (fun a ha=>by exact sb O.dom (dD _ ha)) fun a ha=>by
  by_cases q:a=r0.thing
  ·exact sb q (sb O.ma (⟨rfl,rfl,rfl⟩))
  ·exact sb (O.mo a ha q) (⟨rfl,rfl,rfl⟩)
 refine ⟨W.keep kh,R13,hL,wM H.kept (kp.trans kh.mono) rfl O.cD fun a ha=>?_⟩
 rw [O.dom,bW,cG] at ha
 rcases ha with ha | ha
 ·refine .inl ⟨ha,?_,hsm a ha⟩
  by_cases q:a=r0.thing
  ·exact sb q (sb O.ma rfl)
  ·exact sb (O.mo a ha q) rfl
 ·exact .inr (by exact sb ha (sb mb rfl))
section
variable {B:Bn}
theorem Z2 (X:Txt B.w B.K) {G:Gh} {aB aR aN:Addr} {rows:List Row} {σ:Wd} {n:Nat} {nest:List Nat} (H:LI G aR rows σ n) (Bx:fU G aB) (Nst:jI G aN nest) (hlt:∀ x∈nest,x<rows.length) (hl:rows.length<12) (hn:n+2≤100) {Q:Value→Gh→Prop} (hQ:∀ rows' σ' r G',LI G' aR rows' σ' (n+2)→fU G' aB→σ'.a=σ.a→rows.length≤rows'.length→rows'.length≤rows.length+1→(r=.none∨∃ (j:Nat),∃ t,r=.int (j:Int) t∧j<rows'.length)→aD [1,2,5,11,15,17] G G'→Q r G') :
  Call B (.ref 852) [.ref aB,.ref σ.a,.ref aR,.ref aN] G 20 100 Q:=by
 refine TH X fun c oo hsc aJ hb=>?_
 have h3:=H.K.n3
 have hsp:spotOf nest<rows.length:=by
  induction nest using List.casesOn with
  | nil=>exact h3
  | cons i r=>exact hlt i c8
 refine c7 (H.K.at_ hsp) fun r0 hr0 e0 R0=>?_
 have main:∀ {G1:Gh} {ts:Tok},aD [] G G1→ws B c bJ q7 59 ((bodyOf (topS 70)).drop 1) (bA Q) (uZ (some (.ref aB)) (some (.ref σ.a)) (some (.ref aR)) (some (.ref aN)) (some (.int (spotOf nest:Nat) ts)) none none none none none none none none) G1:=by
  intro G1 ts k1
  have Bx1:=Bx.keep k1
  generalize spotOf nest=i at *
  refine iZ X oo aJ hsc ["sign","is_class"] (by kernel_rfl!) (by kernel_rfl!) ?_
  intro t1 t2 t3 t4
  refine fP (9,4) (by exact bY _ _) fun l1 Gl1 kf hl1 gl1=>?_
  intro t5
  refine aQ hb (jC X (Bx1.keep kf) (by decide) fun j tj G2 hj0 hj Bx2 k2=>?_)
  refine cN (pick (P:=fun s=>s∈(["A","B","C","D"]:List Str)) (xs:=[.str "A" t1,.str "B" t2,.str "C" t3,.str "D" t4]) (uO (by kernel_rfl!)) hj0 hj) fun s tS hs1 hs=>?_
  have hl1':=k2 _ _ gl1 (by rfl)
  refine ⟨fun zz=>cX hl1' hj0 hs1 ?_⟩
  intro t6
  refine aQ hb (jC X Bx2 (by decide) fun j2 tj2 G3 hj20 hj2 Bx3 k3=>?_)
  have K3:aD [17] G G3:=(((k1.trans kf).mono).trans k2).trans k3
  refine iF (9,1) (by exact bY _ _) fun x1 G4 kx1 hx1 gx1=>?_
  refine gQ.mk gx1 rfl rfl ?_
  generalize decide (j2<2)=cl
  have K4:aD [17] G G4:=K3.trans kx1.mono
  have Bx4:=Bx3.keep kx1
  have H4:=H.keep K4
  have A4:=H4.R.at_ r0 (cE hr0)
  have hsg:=(xQ hs).1
  clear hs1 hl1' k2 k3 kf Bx1 Bx2 Bx3
  refine dF H4.R (d9 _) hr0 rfl rfl rfl ?_
  refine DY A4.held ?_
  refine DU A4.held ?_
  generalize hhv:(valueAt r0.held s).getD .none=hv
  refine EG X oo aJ hsc ["has1","found"] (by kernel_rfl!) (by kernel_rfl!) rfl ?_
  refine bS X.b8 X.uF H4.W.obj H4.W.meth ?_
  refine dF H4.R (d9 _) hr0 rfl rfl rfl ?_
  refine aQ hb (uN X H4.W R0.dom (wX X H4.K hsg) (by rcases R0.nat with e | ⟨u,tu,e,_⟩<;>refine sb e ?_<;>rfl) fun x2 G5 hx2 hx2' k5=>?_)
  refine sQ (WQ (cA σ r0.thing s)) fun b2 v2 e2=>?_
  rw [e2] at hx2'
  refine qY.mk hx2' rfl rfl ?_
  refine iF (9,1) (by exact bY _ _) fun x3 G6 kx3 hx3 gx3=>?_
  have k6:aD [] G4 G6:=k5.trans kx3.mono
  have hx3':G6 x3=some ⟨(9,1),.tup (lW (cA σ r0.thing s))⟩:=by exact sb e2 gx3
  have H6:=H4.keep k6
  have A6:=H6.R.at_ r0 (cE hr0)
  have Bx6:=Bx4.keep k6
  have K6:aD [17] G G6:=K4.trans k6.mono
  have hcv:=R0.con s hsg
  obtain ⟨al1,al2⟩:=tV H6.W H6.K hcv
  have hgh:lO G6 hv (r0.hh s):=by
   refine aY hhv ?_
   rcases A6.q8 s with ⟨h1,h2⟩ | ⟨u,h,h1,h2,h3⟩
   ·exact sb h1 (sb h2 (.inl ⟨rfl,rfl⟩))
   ·exact sb h1 (sb h2 (.inr ⟨h,rfl,h3⟩))
  refine aQ hb (CE X H6.R hx3' hgh al1 al2 ?_)
  clear k5 hx2 hx2' hx3 A4 H4 Bx4 K4
  clear al2 hhv
  rcases hgh with ⟨hh,ehv⟩ | ⟨hd,hh,hx⟩
  ·refine sb ehv ?_
   clear al1 ehv hv
   have stage:∀ {G7:Gh} {pv:Value} {pN:Option Nat} {ov:Option Value},tR rows.length cl pN pv→LI G7 aR rows σ n→fU G7 aB→aD [17] G G7 →
     ws B c bJ q7 52 ((bodyOf (topS 70)).drop 8) (bA Q) (uZ (some (.ref aB)) (some (.ref σ.a)) (some (.ref aR)) (some (.ref aN)) (some (.int (i:Nat) ts)) (some (.str s tS)) (some (.bool cl)) (some .none) (some (.bool b2)) (some v2) (some pv) ov none) G7:=by
    intro G7 pv pN ov hp H7 Bx7 K7
    have A7:=H7.R.at_ r0 (cE hr0)
    have stage2:∀ {G8:Gh} {σ1:Wd} {b ow:Addr} {pa:Value},((pN=none∧pa=.none)∨∃ p,pN=some p∧p<rows.length∧pa=.ref (aK rows p)∧cl=true)→n5 σ σ1 b ow cl pa→aD [5] G7 G8→WI G8 σ1 →
      ws B c bJ q7 51 ((bodyOf (topS 70)).drop 9) (bA Q) (uZ (some (.ref aB)) (some (.ref σ.a)) (some (.ref aR)) (some (.ref aN)) (some (.int (i:Nat) ts)) (some (.str s tS)) (some (.bool cl)) (some .none) (some (.bool b2)) (some v2) (some pv) ov (some (.ref b))) G8:=by
     intro G8 σ1 b ow pa hpa N k8 W8
     have R8:=H7.R.keep k8
     have A8:=A7.keep k8
     refine bS X.b8 X.wR (N.obj W8) W8.meth ?_
     refine dF R8 (d9 _) hr0 rfl rfl rfl ?_
     refine aQ hb (MD X H7.K hr0 N W8 fun σ2 r9 G9 W9 O k9=>?_)
     have R9:=R8.keep k9
     have Bx9:=(Bx7.keep k8).keep k9
     have kp9:aD [1,2,5] G7 G9:=k8.mono.trans k9
     clear R8 A8 k8 k9 W8 N A7
     have hpr:=hp.pr
     have hpathz:r0.path.length≤10000:=H7.K.xG hr0
     have stage4:∀ {G10:Gh} {path:Str} {pT:Tok} {d aM aF' aH:Addr},((i=2∧path=s)∨(i≠2∧path=r0.path++"::"++s))→G9 d=none→dU G10 (gB d b cl pv pN path pT aM aF' aH)→aD [] G9 G10 →
       ws B c bJ q7 49 ((bodyOf (topS 70)).drop 11) (bA Q) (uZ (some (.ref aB)) (some (.ref σ.a)) (some (.ref aR)) (some (.ref aN)) (some (.int (i:Nat) ts)) (some (.str s tS)) (some (.bool cl)) (some .none) (some (.bool b2)) (some v2) (some pv) ov (some (.ref b))) (upd G10 aR ⟨(11,0),.list ((rows.map fun r=>.ref r.d)++[.ref d])⟩):=by
      intro G10 path pT d aM aF' aH hpath hd Rn k10
      have R10:=R9.keep k10
      have R11:RI _ aR (rows++[gB d b cl pv pN path pT aM aF' aH]):=R10.snoc Rn (R9.fresh hd) (aG hl (ble rfl))
      have kl:aD [11] G10 (upd G10 aR ⟨(11,0),.list ((rows.map fun r=>.ref r.d)++[.ref d])⟩):=(aD.refl _ _).turn R10.list rfl
      have W11:=(W9.keep k10).keep kl
      have kp11:aD [1,2,5,11,15] G7 (upd G10 aR ⟨(11,0),.list ((rows.map fun r=>.ref r.d)++[.ref d])⟩):=(kp9.mono.trans k10.mono).trans kl.mono
      have Bx11:=(Bx9.keep k10).keep kl
      generalize upd G10 aR ⟨(11,0),.list ((rows.map fun r=>.ref r.d)++[.ref d])⟩=G11 at R11 W11 kp11 Bx11 ⊢
      clear kl k10 R10 Rn hd W9 kp9 Bx9 R9  hpathz hpr
      have hr1:(rows++[gB d b cl pv pN path pT aM aF' aH])[i]?=some r0:=by exact sb lC (sb (if_pos hsp) hr0)
      intro t13
      refine jU R11.list fun t14=>?_
      intro t15 t16
      refine sb J5 ?_
      refine iF (16,0) (ble rfl) fun tu G12 kf htu gt=>?_
      have R12:=R11.keep kf
      have W12:=W11.keep kf
      have kp12:=kp11.trans kf.mono
      have Bx12:=Bx11.keep kf
      clear kf R11 W11 kp11 Bx11 htu
      have A12:=R12.at_ r0 (cE hr1)
      refine dF R12 (d9 _) hr1 rfl rfl rfl ?_
      refine nO A12.held (aG (d7 R0.sz.2.2.1) (aG (d7 hn) (ble rfl))) ?_
      have L13:=O.LI H7 hr0 (rn:=gB d b cl pv pN path pT aM aF' aH) ⟨(xQ hs).2.1,(xQ hs).2.2.1⟩ hpath hpa rfl rfl rfl (fun zz=>rfl) R12 W12 kp12 gt (aG hl (ble rfl)) hn
      have kh:aD [15] G12 (upd G12 r0.aH ⟨(15,r0.d),.aZ (stored r0.held s (.ref tu))⟩):=(aD.refl _ _).turn A12.held rfl
      have K13:aD [1,2,5,11,15,17] G _:=K7.mono.trans ((kp12.trans kh.mono).mono)
      have Bx13:=Bx12.keep kh
      generalize upd G12 r0.aH ⟨(15,r0.d),.aZ (stored r0.held s (.ref tu))⟩=G13 at L13 K13 Bx13 ⊢
      clear kh A12 R12 W12 kp12 Bx12 gt
      refine jU L13.R.list fun t17=>?_
      intro t18 t19
      refine sb J5 (sb eU ?_)
      exact hQ _ σ2 _ _ L13 Bx13 O.ea (by exact sb fR (sb eU (gX _ _))) (by exact sb fR (sb eU (bZ _))) (.inr ⟨rows.length,t19,rfl,by exact sb fR (sb eU (lN _))⟩) K13
     refine iP R9.list ?_
     refine cV (fun h=>?_) (fun h=>?_)
     ·have hi2:i=2:=by
       have:(i:Int)=2:=by exact of_decide_eq_true ‹_›
       exact vE this
      refine aQ hb (rT X hpr fun d aM aF' aH G10 hd Rn k10=>?_)
      refine iD ((R9.keep k10).list) (by exact sb (cT _) (aG hl (ble rfl))) ?_
      exact stage4 (.inl ⟨hi2,rfl⟩) hd Rn k10
     ·have hi2:i≠2:=fun q=>by rw [q] at h; simp at h
      refine dF R9 (d9 _) hr0 rfl rfl rfl ?_
      intro t10
      have hs1:=(xQ hs).2.2.2
      have l2:(iK "::").length=2:=by decide
      refine fO (by exact sb l2 (ac9 hpathz)) fun t11=>?_
      refine fO (by exact sb (gO _ _) (sb l2 (ac8 hpathz hs1))) fun t12=>?_
      refine aQ hb (rT X hpr fun d aM aF' aH G10 hd Rn k10=>?_)
      refine iD ((R9.keep k10).list) (by exact sb (cT _) (aG hl (ble rfl))) ?_
      exact stage4 (.inr ⟨hi2,rfl⟩) hd Rn k10
    obtain ⟨cc,hcc⟩:=H7.K.cc
    obtain ⟨cm,hcm⟩:=H7.K.cm
    refine bS X.b8 X.CN H7.W.obj H7.W.meth ?_
    cases hp with
    | no =>
     refine aQ hb (JV X H7.W (.inr ⟨rfl,rfl,hcm⟩) fun b tn aF bE aC aT b7 G8 hbd k8 W8=>?_)
     exact stage2 (.inl ⟨rfl,rfl⟩) (.of hbd) k8 W8
    | @yes p tp hpN =>
     refine c7 (H7.K.at_ hpN) fun rp hrp ep Rp=>?_
     refine dF H7.R (d9 _) hrp rfl rfl rfl ?_
     refine aQ hb (JV X H7.W (.inl ⟨rfl,⟨_,rfl⟩,hcc⟩) fun b tn aF bE aC aT b7 G8 hbd k8 W8=>?_)
     exact stage2 (.inr ⟨p,rfl,hpN,by exact sb ep rfl,rfl⟩) (.of hbd) k8 W8
   induction cl using Bool.casesOn with
   | false=>exact stage (pN:=none) .no H6 Bx6 K6
   | true =>
    refine OE X oo aJ hsc (9,6) rfl rfl rfl rfl (by kernel_rfl!) ?_
    intro t7
    refine jU H6.R.list fun u7=>?_
    have hN:((rows.map fun r=>Value.ref r.d).length:Int)=(rows.length:Int):=by exact sb (cT _) rfl
    refine sb hN ?_
    refine ⟨2,_,t7,u7,rfl,by decide,by exact mQ.mpr (aG (ble rfl) h3),by exact mQ.mpr (aG (cZ hl) (ble rfl)),⟨rfl,fun k=>j8 rows (2+k),?_,?_,?_⟩⟩
    ·intro c' k tk G' hA hg hk hkk
     have hkN:2+k<rows.length:=vZ (k:=2) hk
     obtain ⟨rk,hrk⟩:=jR hkN
     have HR:=H6.R.keep hkk
     refine ⟨fun zz=>cX HR.list (by exact d9 _) (by exact sb (show ((2:Int)+(k:Int)).toNat=2+k by exact rfl) (HR.at hrk)) ?_⟩
     refine ⟨fun zz=>iO (HR.at_ rk (cE hrk)).dict rfl ?_⟩
     exact ⟨rfl,(by show rk.cls=j8 rows (2+k); unfold j8; exact sb hrk rfl),aD.refl _ _⟩
    ·intro c' k tk G' hA hg hk hkk
     exact ⟨rfl,aD.refl _ _,rfl⟩
    ·intro D ys G7 hD k7 hD' hI
     refine dC (aX.sel (a:=2) (p:=fun k=>j8 rows (2+k)) hI (k0:=0) (by exact sub_pos (k:=2) h3) H6.K.QZ) fun y1 y2 y3=>?_
     refine jU hD' fun u8=>?_
     refine aQ hb (jC X (Bx6.keep k7) (k:=(ys.length:Int)) (by exact kQ.mpr y1) fun j3 tj3 G8 hj30 hj3 Bx8 k8=>?_)
     refine kN (y3 j3 hj30 hj3) fun k tk h1 h2 h4=>?_
     refine ⟨fun zz=>cX (k8 _ _ hD' rfl) hj30 h1 ?_⟩
     have k68:aD [17] G6 G8:=k7.mono.trans k8
     exact stage (pN:=some (2+k)) (.yes (vZ (k:=2) h2)) (H6.keep k68) Bx8 (K6.trans k68)
  ·have al3:∀ j,hd=.row j→j<rows.length:=fun j e=>al1 j (by exact sb hh (sb e rfl))
   clear al1 hh
   cases hx with
   | @row x j t6 u6 hx =>
    have hj:=al3 j rfl
    refine c7 (H6.K.at_ hj) fun rj hrj ej Rj=>?_
    refine ⟨fun zz=>eB hx (by decide) rfl ?_⟩
    refine ⟨fun zz=>eB hx (by decide) rfl ?_⟩
    refine dF H6.R (d9 _) hrj rfl rfl rfl ?_
    refine ah2 ?_
    refine cV (fun zz=>?_) (fun zz=>?_)
    ·refine ⟨fun zz=>eB hx (by decide) rfl ?_⟩
     exact hQ rows σ _ _ (H6.le (by exact gX _ _) hn) Bx6 rfl (bZ _) (j6 _) (.inr ⟨j,_,rfl,hj⟩) K6.mono
    ·exact hQ rows σ _ _ (H6.le (by exact gX _ _) hn) Bx6 rfl (bZ _) (j6 _) (.inl rfl) K6.mono
   | @num x z t6 u6 hx =>
    refine ⟨fun zz=>eB hx (by decide) rfl ?_⟩
    exact hQ rows σ _ _ (H6.le (by exact gX _ _) hn) Bx6 rfl (bZ _) (j6 _) (.inl rfl) K6.mono
   | @thing x a t6 hx =>
    refine ⟨fun zz=>eB hx (by decide) rfl ?_⟩
    exact hQ rows σ _ _ (H6.le (by exact gX _ _) hn) Bx6 rfl (bZ _) (j6 _) (.inl rfl) K6.mono
 refine j0 Nst.ex fun tn nv hn9 zz hN hI=>?_
 refine fP (9,4) (by simp) fun l0 G2 k2 hl0 h02=>?_
 have hN2:=k2 _ _ hN rfl
 refine yC hN2 h02 hI (ms:=[]) trivial hb rfl ?_
 induction nest using List.casesOn with
 | nil=>exact fun t=>main k2
 | cons i r =>
  induction nv using List.casesOn with
  | nil=>exact hI.elim
  | cons v vs =>
   obtain ⟨⟨ti,rfl⟩,hI'⟩:=hI
   have e1:(!decide (nats (i::r)=[]))=true:=by exact rfl
   refine sb e1 ?_
   refine ⟨fun zz=>cX hN2 (by decide) rfl ?_⟩
   exact main k2
end
theorem HH {f:List Nat} {o:Nat} {p q:Prop} (h:o∈f↔q) (e:p↔q) (hn:¬p):f.contains o=false:=by
 cases z:f.contains o with
 | false=>rfl
 | true=>exact absurd (e.mpr (h.mp (mS.mp z))) hn
theorem N1 {f g:Addr→Mod} {β:Type} {φ:Mod→β} {t:Addr} {v:Mod} (h1:f t=v) (h2:∀ x,x≠t→f x=g x) (e:φ v=φ (g t)) (a:Addr):φ (f a)=φ (g a) :=
 if q:a=t then by exact sb q (sb h1 (sb e rfl)) else by exact sb (h2 a q) rfl
theorem IX {G G':Gh} {σ σ':Wd} {L L':Addr→List Addr} {T:List Nat} (h:∀ a∈σ.dom,dM G σ L a) (k:aD T G G') (hT:T.contains 7=false) (hv:σ'.cD=σ.cD+1) (hd:σ'.dom=σ.dom) (hk:∀ a∈σ.dom,(σ'.md a).kept=(σ.md a).kept):∀ a∈σ'.dom,dM G' σ' L' a:=by
 intro a ha
 rw [hd] at ha
 rcases h a ha with h | ⟨x,v,u,l,ln,h4,h5,h6,h7,_⟩
 ·exact .inl (by exact sb (hk a ha) h)
 ·exact .inr ⟨x,v,u,l,ln,by refine sb (hk a ha) ?_; exact h4,k _ _ h5 hT,k _ _ h6 hT,by exact UC (Int.le_of_eq hv.symm) h7 (by simp +arith only),fun e=>absurd (by rw [e,hv] at h7; exact h7:σ.cD+1≤σ.cD) (Int.not_le.mpr (Int.lt_succ _))⟩
theorem MO {f:Nat→Nat} {c:Nat}:∀ {l:List Nat},(∀ x∈l,f x≤c)→(l.map f).sum≤l.length * c
 | [],_=>by exact nY _
 | x::l,h=>by
  have:=MO (l:=l) fun y hy=>h y (cL _ hy)
  have h1:=h x c8
  exact sb cK (sb kT (sb qQ (sb (Nat.succ_mul _ _) (dQ this h1 (by simp +arith only)))))
theorem LK.xM {σ:Wd} {rows:List Row} {n:Nat} (H:LK σ rows n):qD rows []≤5000:=by
 unfold qD
 have h1:∀ x∈(lL rows.length).filter fun i=>!([]:List Nat).contains i,rD rows x≤201:=fun x hx=>by
  obtain ⟨r,hr⟩:=jR (vK.mp (eZ.mp hx).1)
  have:=(H.row x r hr).sz
  have:=H.nz
  unfold rD
  refine sb hr ?_
  simp only [fR]
  omega
 have h2:=MO h1
 have h3:=nU (fun i=>!([]:List Nat).contains i) (lL rows.length)
 rw [yW] at h3
 have:=H.len
 exact acG h2 h3 this
section
variable {B:Bn}
theorem Z0 (X:Txt B.w B.K) {G:Gh} {aB aR:Addr} {rows:List Row} {σ:Wd} {n i:Nat} {ti:Tok} (H:LI G aR rows σ n) (Bx:fU G aB) (hi:i<rows.length) (hn:n+1≤100) {Q:Value→Gh→Prop} (hQ:∀ rows' σ' G',LI G' aR rows' σ' (n+1)→fU G' aB→σ'.a=σ.a→rows'.length=rows.length→aD [3,4,5,6,13,14,17] G G'→Q (.bool true) G') :
  Call B (.ref 857) [.ref aB,.ref σ.a,.ref aR,.int (i:Int) ti] G 50 205 Q:=by
 refine TG X fun c oo hsc aJ hb=>?_
 have h3:=H.K.n3
 refine c7 (H.K.at_ hi) fun r0 hr0 e0 R0=>?_
 refine OE X oo aJ hsc (9,6) rfl rfl rfl rfl (by kernel_rfl!) ?_
 intro t7
 refine jU H.R.list fun u7=>?_
 have hN:((rows.map fun r=>Value.ref r.d).length:Int)=(rows.length:Int):=by exact sb (cT _) rfl
 refine sb hN ?_
 refine ⟨1,_,t7,u7,rfl,by decide,by exact mQ.mpr (aG (ble rfl) h3),by have:=H.K.len; exact mQ.mpr (aG this (ble rfl)),⟨rfl,fun k=>!j8 rows (1+k),?_,?_,?_⟩⟩
 ·intro c' k tk G' hA hg hk hkk
  have hkN:1+k<rows.length:=vZ (k:=1) hk
  obtain ⟨rk,hrk⟩:=jR hkN
  have HR:=H.R.keep hkk
  refine ⟨fun zz=>cX HR.list (by exact d9 _) (by exact sb (show ((1:Int)+(k:Int)).toNat=1+k by exact rfl) (HR.at hrk)) ?_⟩
  refine ⟨fun zz=>iO (HR.at_ rk (cE hrk)).dict rfl ?_⟩
  exact ⟨rfl,(by show (!rk.cls)=!j8 rows (1+k); unfold j8; exact sb hrk rfl),aD.refl _ _⟩
 ·intro c' k tk G' hA hg hk hkk
  exact ⟨rfl,aD.refl _ _,rfl⟩
 intro D ys G1 hD k1 hD' hI
 refine dC (aX.sel (a:=1) (p:=fun k=>!j8 rows (1+k)) hI (k0:=0) (by exact sub_pos (k:=1) (Nat.lt_of_succ_lt h3)) (by refine sb (show 1+0=1 from rfl) (sb H.K.QY ?_); rfl)) fun y1 y2 y3=>?_
 refine iZ X oo aJ hsc ["one","way"] (by kernel_rfl!) (by kernel_rfl!) ?_
 refine jU hD' fun u8=>?_
 refine aQ hb (jC X (Bx.keep k1) (k:=(ys.length:Int)) (by exact kQ.mpr y1) fun j tj G2 hj0 hj Bx2 k2=>?_)
 refine kN (y3 j hj0 hj) fun k tk h1 h2 h4=>?_
 refine ⟨fun zz=>cX (k2 _ _ hD' rfl) hj0 h1 ?_⟩
 intro t9
 refine aQ hb (jC X Bx2 (by decide) fun w tw G3 hw0 hw Bx3 k3=>?_)
 refine iF (9,1) (by exact bY _ _) fun x1 G4 kx1 hx1 gx1=>?_
 refine gQ.mk gx1 rfl rfl ?_
 have K4:aD [17] G G4:=((k1.mono.trans k2).trans k3).trans kx1.mono
 have Bx4:=Bx3.keep kx1
 have H4:=H.keep K4
 have ho:1+k<rows.length:=vZ (k:=1) h2
 have hoc:j8 rows (1+k)=false:=by simpa using h4
 clear y3 h1 h4 k1 k2 k3 Bx2 Bx3 hD' hI
 generalize 1+k=o at *
 refine c7 (H4.K.at_ ho) fun ro hro eo Ro=>?_
 have hlen:=H4.K.len
 have hcl:ro.cls=false:=by unfold j8 at hoc; rw [hro] at hoc; exact hoc
 have hpo:ro.pN=none:=by
  rcases Ro.par with h | ⟨_,_,_,_,h⟩
  ·exact h.1
  ·rw [hcl] at h; exact nB h
 refine aQ hb (CF X H4.K.small rows.length G4 o tk H4.R (H4.K.jJ (bZ _) o ho) fun ll lv G5 hll hlI k5=>?_) (by exact sb pH (aG (vM hlen 2) (ble rfl))) (by exact sb pH (aG (vM (z9 3 hlen) 10) (ble rfl)))
 refine DV hll hlI ?_
 refine sb (oV _ _) ?_
 have H5:=H4.keep k5
 have K5:aD [17] G G5:=K4.trans k5.mono
 have Bx5:=Bx4.keep k5
 have hring:aK rows i∈cB σ (aK rows o)↔i∈aO rows rows.length o:=ad8 H5.K.gr H5.K.wf (H5.K.jJ (bZ _) o ho) hro hpo hi
 refine NV (RR:=fun e m' G'=>m'=(O9 (some (.ref aB)) (some (.ref σ.a)) (some (.ref aR)) (some (.int (i:Int) ti)) (some (.ref D)) (some (.int (o:Int) tk)) (some (.int w tw)) (some (.bool ((aO rows rows.length o).contains i))) none)∧i∈aO rows rows.length o∧mZ G5 σ "ArgumentError" e G') oo X.tW aJ rfl (by unfold yL; refine sb hsc ?_; kernel_rfl!) (gG X oo aJ ?_) ?_
 ·refine fP (9,4) (by simp) fun l1 G6 kf hl1 hl1'=>?_
  have H6:=H5.keep kf
  have K6:aD [17] G G6:=K5.trans kf.mono
  have Bx6:=Bx5.keep kf
  have hat:=H6.K.i6 r0.thing R0.dom
  have hocl:(σ.md ro.thing).cls=false:=by exact sb Ro.cls (sb hcl rfl)
  have hsz:=H6.K.row i r0 hr0 |>.sz
  have hself:r0.thing∈cB σ r0.thing:=by
   have:=(L5 H6.K.gr H6.K.wf (H6.K.jJ (bZ _) i hi) hi hi).mpr (.base (by exact c8))
   rwa [e0] at this
  have W:w=0∨w=1:=by exact KV hw0 hw
  rcases W with rfl | rfl
  ·refine ⟨fun zz=>cX hl1' (by decide) rfl ?_⟩
   refine dF H6.R (d9 _) hr0 rfl rfl rfl ?_
   refine dF H6.R (d9 _) hro rfl rfl rfl ?_
   refine uV hb (fun e G' h=>⟨rfl,hring.mp (by exact sb e0 (sb eo h.1)),h.2.of kf⟩) (X5 X H6.W H6.K.wf H6.K.made R0.dom Ro.dom hat.1 hocl (by exact sb R0.mix (sb (cT _) (aG (d7 hsz.1) (aG hn (ble rfl))))) fun r G7 hno h=>?_)
   have hnr:i∉aO rows rows.length o:=fun q=>hno (by have:=hring.mpr q; rwa [e0,eo] at this)
   have hrf:(aO rows rows.length o).contains i=false:=by simpa using hnr
   refine sb hrf ?_
   have hmem:ro.thing∈cB σ r0.thing↔fB rows [i] o:=by
    have:=L5 H6.K.gr H6.K.wf (H6.K.jJ (bZ _) i hi) hi ho
    rwa [e0,eo] at this
   rcases h with ⟨hin,k7⟩ | ⟨hin,⟨tv,W7⟩,k7⟩
   ·have H7:=H6.keep k7
    have K7:aD [17] G G7:=K6.trans k7.mono
    have Bx7:=Bx6.keep k7
    refine fP (9,4) (by exact iR _) fun l2 Gl2 kf2 hl2 gl2=>?_
    have H8:=H7.keep kf2
    have K8:=K7.trans kf2.mono
    have Bx8:=Bx7.keep kf2
    refine aQ hb (wO X H8.R H8.K.gr.closed (sm:=[i]) gl2 (aX.one i ti) (by simpa using hi) (by exact aG (fS H8.K.xM 1) (ble rfl)) fun lf fv f G9 hlf hfI hf k9=>?_)
    refine pC hlf hfI ?_
    refine sb (oV _ _) ?_
    refine sb (mS.mpr ((hf o).mpr (hmem.mp hin))) ?_
    exact hQ rows σ _ ((H8.keep k9).le (by exact j6 _) hn) (Bx8.keep k9) rfl rfl ((K8.trans k9.mono).mono)
   ·have R7:=H6.R.keep k7
    have K7:aD [3,5,17] G G7:=K6.mono.trans k7.mono
    have Bx7:=Bx6.keep k7
    refine fP (9,4) (by exact iR _) fun l2 Gl2 kf2 hl2 gl2=>?_
    have R8:=R7.keep kf2
    have K8:=K7.trans kf2.mono
    have Bx8:=Bx7.keep kf2
    refine aQ hb (wO X R8 H6.K.gr.closed (sm:=[i]) gl2 (aX.one i ti) (by simpa using hi) (by exact aG (fS H6.K.xM 1) (ble rfl)) fun lf fv f G9 hlf hfI hf k9=>?_)
    refine pC hlf hfI ?_
    refine sb (oV _ _) ?_
    refine sb (HH (hf o) hmem hin) ?_
    have R9:=R8.keep k9
    have W9:=(W7.keep kf2).keep k9
    have K9:aD [3,5,17] G G9:=K8.trans k9.mono
    have k69:aD [3,5] G6 G9:=(k7.trans kf2.mono).trans k9.mono
    have Bx9:=Bx8.keep k9
    refine ⟨fun zz=>cX R9.list (by exact mQ.mpr (bY _ _)) (by exact sb (vF _) (R9.at hr0)) ?_⟩
    intro t20 t21
    refine fP (9,4) (by exact bY _ _) fun l3 G10 kf3 hl3 hl3'=>?_
    have R10:=R9.keep kf3
    have W10:=W9.keep kf3
    have K10:=K9.trans kf3.mono
    have k610:=k69.trans kf3.mono
    have Bx10:=Bx9.keep kf3
    have A10:=R10.at_ r0 (cE hr0)
    refine ⟨fun zz=>cX hl3' (by decide) rfl ?_⟩
    refine ⟨fun zz=>iO A10.dict rfl ?_⟩
    refine iP A10.mix ?_
    have zm:=A10.mD.len
    refine iD A10.mix (by exact aG (d7 (b5 zm)) (aG (d7 hsz.1) (aG hn (ble rfl)))) ?_
    have R11:=R10.sD (j:=o) (t:=tk) hr0 (aG (d7 hsz.1) (aG hn (ble rfl)))
    have kh:aD [13] G10 (upd G10 r0.aT ⟨(13,r0.d),.list (r0.iB++[.int (o:Int) tk])⟩):=(aD.refl _ _).turn A10.mix rfl
    have W11:=W10.keep kh
    have K11:aD [3,5,13,17] G _:=K10.mono.trans kh.mono
    have k611:aD [3,5,13] G6 _:=k610.mono.trans kh.mono
    have Bx11:=Bx10.keep kh
    have md':∀ x,x≠r0.thing→((σ.oH r0.thing ro.thing).lG (σ.cD+1) tv).md x=σ.md x:=fun x hx=>dY hx
    have ma':((σ.oH r0.thing ro.thing).lG (σ.cD+1) tv).md r0.thing={σ.md r0.thing with mixed:=(σ.md r0.thing).mixed++[ro.thing],ahead:=(σ.md r0.thing).ahead}:=fD
    have hL:=H6.K.HL (σ':=(σ.oH r0.thing ro.thing).lG (σ.cD+1) tv) (r':={r0 with iB:=r0.iB++[.int (o:Int) tk],mix:=r0.mix++[o]}) hr0 ho (by exact sb eo hocl) hnr rfl rfl rfl md' ma' ⟨rfl,rfl,rfl,rfl,rfl,rfl⟩ (by refine sb R0.mix (aY eo (sb dR ?_)); rfl) R0.bX (.inl ⟨rfl,rfl⟩) hn
    refine hQ _ _ _ ⟨W11,R11,hL,IX H6.kept k611 rfl rfl rfl fun a zz=>N1 ma' md' rfl a⟩ Bx11 rfl (by exact eU) K11.mono
  ·refine ⟨fun zz=>cX hl1' (by decide) rfl ?_⟩
   refine dF H6.R (d9 _) hr0 rfl rfl rfl ?_
   refine dF H6.R (d9 _) hro rfl rfl rfl ?_
   refine uV hb (fun e G' h=>⟨rfl,hring.mp (by exact sb e0 (sb eo h.1)),h.2.of kf⟩) (adG X H6.W H6.K.wf H6.K.made R0.dom Ro.dom hat.1 hocl (by exact sb R0.bX (sb (cT _) (aG (d7 hsz.2.1) (aG hn (ble rfl))))) hself fun r G7 hno h=>?_)
   have hnr:i∉aO rows rows.length o:=fun q=>hno (by have:=hring.mpr q; rwa [e0,eo] at this)
   have hrf:(aO rows rows.length o).contains i=false:=by simpa using hnr
   refine sb hrf ?_
   have hmem:ro.thing∈jK σ r0.thing↔fB rows r0.fr o:=by
    have:=PR H6.K.gr H6.K.wf (H6.K.jJ (bZ _) i hi) hr0 ho
    rwa [e0,eo] at this
   have hfl:∀ x∈r0.fr,x<rows.length:=fun x hx=>(R0.kid x (cW _ hx)).1
   rcases h with ⟨hin,k7⟩ | ⟨hin,⟨tv,W7⟩,k7⟩
   ·have H7:=H6.keep k7
    have K7:aD [17] G G7:=K6.trans k7.mono
    have Bx7:=Bx6.keep k7
    have A8:=H7.R.at_ r0 (cE hr0)
    refine dF H7.R (d9 _) hr0 rfl rfl rfl ?_
    refine aQ hb (wO X H7.R H7.K.gr.closed (sm:=r0.fr) A8.fr A8.kH hfl (by exact aG (cY (aG hsz.2.1 (Nat.le_of_succ_le hn)) H7.K.xM) (ble rfl)) fun lf fv f G9 hlf hfI hf k9=>?_)
    refine pC hlf hfI ?_
    refine sb (oV _ _) ?_
    refine sb (mS.mpr ((hf o).mpr (hmem.mp hin))) ?_
    exact hQ rows σ _ ((H7.keep k9).le (by exact j6 _) hn) (Bx7.keep k9) rfl rfl ((K7.trans k9.mono).mono)
   ·have R7:=H6.R.keep k7
    have K7:aD [4,5,17] G G7:=K6.mono.trans k7.mono
    have Bx7:=Bx6.keep k7
    have A8:=R7.at_ r0 (cE hr0)
    refine dF R7 (d9 _) hr0 rfl rfl rfl ?_
    refine aQ hb (wO X R7 H6.K.gr.closed (sm:=r0.fr) A8.fr A8.kH hfl (by exact aG (cY (aG hsz.2.1 (Nat.le_of_succ_le hn)) H6.K.xM) (ble rfl)) fun lf fv f G9 hlf hfI hf k9=>?_)
    refine pC hlf hfI ?_
    refine sb (oV _ _) ?_
    refine sb (HH (hf o) hmem hin) ?_
    have R9:=R7.keep k9
    have W9:=W7.keep k9
    have K9:aD [4,5,17] G G9:=K7.trans k9.mono
    have k69:aD [4,5] G6 G9:=k7.trans k9.mono
    have Bx9:=Bx7.keep k9
    refine ⟨fun zz=>cX R9.list (by exact mQ.mpr (bY _ _)) (by exact sb (vF _) (R9.at hr0)) ?_⟩
    intro t20 t21
    refine fP (9,4) (by exact bY _ _) fun l3 G10 kf3 hl3 hl3'=>?_
    have R10:=R9.keep kf3
    have W10:=W9.keep kf3
    have K10:=K9.trans kf3.mono
    have k610:=k69.trans kf3.mono
    have Bx10:=Bx9.keep kf3
    have A10:=R10.at_ r0 (cE hr0)
    refine ⟨fun zz=>cX hl3' (by decide) rfl ?_⟩
    refine ⟨fun zz=>iO A10.dict rfl ?_⟩
    refine iP A10.fr ?_
    have zm:=A10.kH.len
    refine iD A10.fr (by exact aG (d7 (b5 zm)) (aG (d7 hsz.2.1) (aG hn (ble rfl)))) ?_
    have R11:=R10.DI (j:=o) (t:=tk) hr0 (aG (d7 hsz.2.1) (aG hn (ble rfl)))
    have kh:aD [14] G10 (upd G10 r0.eK ⟨(14,r0.d),.list (r0.iA++[.int (o:Int) tk])⟩):=(aD.refl _ _).turn A10.fr rfl
    have W11:=W10.keep kh
    have K11:aD [4,5,14,17] G _:=K10.mono.trans kh.mono
    have k611:aD [4,5,14] G6 _:=k610.mono.trans kh.mono
    have Bx11:=Bx10.keep kh
    have md':∀ x,x≠r0.thing→((σ.oG r0.thing ro.thing).lG (σ.cD+1) tv).md x=σ.md x:=fun x hx=>dY hx
    have ma':((σ.oG r0.thing ro.thing).lG (σ.cD+1) tv).md r0.thing={σ.md r0.thing with mixed:=(σ.md r0.thing).mixed,ahead:=(σ.md r0.thing).ahead++[ro.thing]}:=fD
    have hL:=H6.K.HL (σ':=(σ.oG r0.thing ro.thing).lG (σ.cD+1) tv) (r':={r0 with iA:=r0.iA++[.int (o:Int) tk],fr:=r0.fr++[o]}) hr0 ho (by exact sb eo hocl) hnr rfl rfl rfl md' ma' ⟨rfl,rfl,rfl,rfl,rfl,rfl⟩ R0.mix (by refine sb R0.bX (aY eo (sb dR ?_)); rfl) (.inr ⟨rfl,rfl⟩) hn
    refine hQ _ _ _ ⟨W11,R11,hL,IX H6.kept k611 rfl rfl rfl fun a zz=>N1 ma' md' rfl a⟩ Bx11 rfl (by exact eU) K11.mono
 ·rintro e m' G6 ⟨rfl,hr,σ',x,y,rs,fs,hG,hx,hfo,hy,hyd,W',E',M',k6⟩
  refine ⟨_,_,hG,rfl,fun A'=>?_⟩
  refine c7 (M'.at_ _ _ hy) fun y' ey zz zq1=>?_
  obtain ⟨tn,hn'⟩:=zq1
  cases ey
  have hM:=(W'.mods y hyd).obj
  refine NY X (b:=(aO rows rows.length o).contains i) (fun Q' h=>E0 (v:=.bool ((aO rows rows.length o).contains i)) rfl h) rfl hG rfl hx hfo hM (nm:="ArgumentError") (u:=tn) (by refine aY hn' ?_; rfl) ?_
  have hc:(aO rows rows.length o).contains i=true:=by simpa using hr
  refine kL (hQ rows σ' _ ((H5.ext E' M' W' k6).le (by exact j6 _) hn) (Bx5.keep k6) E'.a rfl (K5.mono.trans k6.mono)) (by refine sb hc ?_; rfl)
end
theorem afX {s:Str} (h:s∈signs):s.length≤100:=fT (gJ.mp (show (signs.all fun s=>f9 s.length 100)=true by kernel_rfl!) _ h)
theorem HeldAt.isRef {G:Gh} {v:Value} {h:eV} (x:HeldAt G v h):∃ a,v=.ref a:=by cases x<;>exact ⟨_,rfl⟩
theorem WZ {G:Gh} {σ:Wd} {rows:List Row} {n:Nat} (W:WI G σ) (H:LK σ rows n) {r hv:Value} {fh:Option eV} {C:Prop} (c:CV (aK rows) rows.length σ.dom (some r) fh) (g:lO G hv fh)
  (k:∀ hd,HeldAt G hv hd→(∀ i,hd=.row i→i<rows.length)→(∀ u,pM rows hd u→∃ k,jY G r k∧jY G u k)→C):C:=by
 obtain ⟨a1,a2⟩:=tV W H c
 rcases g with ⟨h1,_⟩ | ⟨hd,h1,hx⟩
 ·rw [h1] at c; cases c
 ·subst h1; exact k hd hx (fun i e=>a1 i (by exact sb e rfl)) a2
theorem WY {G:Gh} {th:Nat→Addr} {N:Nat} {D:List Addr} {hv:Value} {fh:Option eV} (c:CV th N D none fh) (g:lO G hv fh):hv=.none:=by
 rcases g with ⟨_,h⟩ | ⟨h,h1,_⟩
 ·exact h
 ·rw [h1] at c; cases c
theorem MT {p q:Nat→Bool}:∀ {l:List Nat},(∀ x∈l,p x=q x)→l.takeWhile p=l.takeWhile q
 | [],_=>rfl
 | x::l,h=>by
  have e:=h x c8
  by_cases z:q x=true
  ·exact sb (qU z) (sb (qU (by exact sb e z)) (sb (MT fun y hy=>h y (cL _ hy)) ((by rfl))))
  ·exact sb (tE z) (sb (tE (by exact sb e z)) ((by rfl)))
section
variable {σ:Wd} {rows:List Row} {n:Nat}
theorem LK.C3 (H:LK σ rows n) {i:Nat} (h:i<rows.length):decide (aK rows i=aK rows 2)=decide (i=2):=by
 by_cases e:i=2
 ·subst e; exact if_pos rfl
 ·have:¬aK rows i=aK rows 2:=fun q=>e (H.inj i 2 h (by have:=H.n3; exact this) q)
  simp [e,this]
theorem LK.oO (H:LK σ rows n) {nest:List Nat} (hlt:∀ x∈nest,x<rows.length):oO (fK σ) (aK rows 2) (nest.map (aK rows))=(qF (aO rows rows.length) nest).map (aK rows):=by
 unfold Mine.oO qF
 refine sb dR (sb dR (sb yT (aY (sX _ _ _) ?_)))
 have e1:nest.filter ((fun a=>!decide (a=aK rows 2))∘aK rows)=nest.filter fun k=>!decide (k=2):=mT fun x hx=>by
  show (!decide (aK rows x=aK rows 2))=_
  exact sb (H.C3 (hlt x hx)) rfl
 refine sb e1 ?_
 congr 1
 congr 1
 induction nest using List.casesOn with
 | nil=>rfl
 | cons i r=>exact H.JB (hlt i c8) (bZ _) (by have:=H.len; exact aG this (ble rfl))
theorem LK.gZ (H:LK σ rows n) {i:Nat} (hi:i<rows.length):gZ (fK σ) (aK rows 2) (aK rows i)=(jL (aO rows rows.length) i).map (aK rows):=by
 have e2:=H.C3 hi
 have el:=H.JB hi (bZ _) (by have:=H.len; exact aG this (ble rfl))
 unfold Mine.gZ jL
 by_cases e:i=2
 ·exact sb (if_pos e) (sb (if_pos (by exact sb e rfl)) (sb el ((by rfl))))
 ·refine sb (if_neg e) (sb (if_neg (fun q=>by simp [q,e] at e2)) (sb el (sb List.takeWhile_map ?_)))
  unfold sF
  congr 1
  refine MT fun x hx=>?_
  show (!decide (aK rows x=aK rows 2))=_
  exact sb (H.C3 (iV hx)) rfl
theorem LK.MC (H:LK σ rows n) {nest:List Nat} (hlt:∀ x∈nest,x<rows.length):∀ x∈qF (aO rows rows.length) nest,x<rows.length:=by
 intro x hx
 unfold qF at hx
 rw [bW,bW,cG] at hx
 rcases hx with (h | h) | h
 ·exact hlt x (eZ.mp h).1
 ·induction nest using List.casesOn with
  | nil=>cases h
  | cons i r=>exact iV h
 ·have:=H.n3; exact aG (d7 (b5 h)) this
theorem LK.zS (H:LK σ rows n) {i:Nat}:∀ x∈jL (aO rows rows.length) i,x<rows.length:=by
 intro x hx
 unfold jL at hx
 split at hx
 ·exact iV hx
 ·exact iV ((F5 _).mem hx)
end
theorem LK.path {σ:Wd} {rows:List Row} {n:Nat} (H:LK σ rows n) {i:Nat} {r:Row} (hr:rows[i]?=some r):gP σ (eY σ rows) r.thing r.path:=by
 have key:∀ (N i:Nat) (r:Row),i<N→rows[i]?=some r→gP σ (eY σ rows) r.thing r.path:=by
  intro N
  induction N with
  | zero=>intro i r h _; exact absurd h (vO _)
  | succ N ih =>
   intro i r hi hr
   have R:=H.row i r hr
   have hil:=(cO.mp hr).1
   refine j0 R.nm fun s t e1 zz zz h=>?_
   rcases h with ⟨h1,h⟩ | ⟨j,hj,h1,h⟩
   ·exact sb h (.base R.dom (H.i6 _ R.dom).1 e1 h1)
   ·have hjl:j<rows.length:=by exact aG hj ((cZ hil))
    obtain ⟨rj,hrj⟩:=jR hjl
    have e:iN rows j=rj.path:=by unfold iN; exact sb hrj rfl
    refine sb h (sb e ?_)
    refine .step R.dom (H.i6 _ R.dom).1 e1 (b:=rj.thing) (by exact sb h1 (sb (dZ hrj) rfl)) ?_ (ih j rj (by exact dQ hi hj (by simp +arith only)) hrj)
    exact aY (dZ hrj) (aY (dZ hr) (sb (H.rk hjl) (sb (H.rk hil) hj)))
 exact key (i+1) i r (lN i) hr
theorem LI.lost {G G':Gh} {aR e:Addr} {rows:List Row} {σ:Wd} {n:Nat} (H:LI G aR rows σ n) (h:zM G σ (fK σ) e G'):∃ σ' x y rs fs,LI G' aR rows σ' n∧σ'.a=σ.a∧aD [1,5,6] G G'∧G' e=some ⟨(20,0),.exc 59 [("reason",rs),("thing",.ref x)]⟩∧G' x=some ⟨(8,0),.inst 221 fs⟩∧fs.lookup ("owner":Str)=some (.ref y)∧y∈σ'.dom∧∃ t,(σ'.md y).nameV=.str "NameError" t:=by
 refine kN h fun κ G1 hk k1 zq5=>?_
 obtain ⟨σ',x,y,rs,fs,hG,hx,hfo,hy,hyd,W',E',M',k6⟩:=zq5
 have K1:=H.K.ext (.kp H.K.num H.K.made κ)
 have s1:=H.K.same K1 (fun zz h=>h) fun a zz=>⟨rfl,rfl,rfl⟩
 have hk1:∀ a∈(σ.kp κ).dom,dM G1 (σ.kp κ) (fK (σ.kp κ)) a:=fun a ha=>by
  have:=hk a ha
  unfold dM at this ⊢
  exact sb (s1 a ha) this
 have K2:=K1.ext (E'.k K1.num M')
 have s2:=K1.same K2 E'.dom fun a ha=>by exact sb (E'.md a ha) (⟨rfl,rfl,rfl⟩)
 have kk:aD [1,5,6] G G':=k1.mono.trans k6.mono
 refine c7 (M'.at_ _ _ hy) fun y' ey zz zq4=>?_
 obtain ⟨tn,hn'⟩:=zq4
 cases ey
 refine ⟨σ',x,y,rs,fs,⟨W',H.R.keep kk,K2,wM hk1 k6 rfl E'.cD fun a ha=>?_⟩,E'.a,kk,hG,hx,hfo,hyd,tn,hn'⟩
 rcases E'.new a ha with h | ⟨u,p,m,c,_,f⟩
 ·exact .inl ⟨h,by exact sb (E'.md a h) rfl,s2 a h⟩
 ·exact .inr f.kept
theorem lO.keep {T:List Nat} {G G':Gh} {v:Value} {o:Option eV} (h:lO G v o) (k:aD T G G') (hT:T.contains 16=false:=by rfl):lO G' v o:=Or.imp id (fun ⟨h,a,b⟩=>⟨h,a,b.keep k hT⟩) h
noncomputable def uS (rows:List Row):Value→Value
 | .int i _=>.ref (aK rows i.toNat)
 | _=>.none
theorem aX.uS {rows:List Row} {vs:List Value} {l:List Nat} (h:aX vs (nats l)):vs.map (Mine.uS rows)=(l.map (aK rows)).map Value.ref :=
 h.wH (M:=fun vs l=>vs.map (Mine.uS rows)=(l.map (aK rows)).map Value.ref) rfl fun t i vs l zz ih=>by
  rw [cK,cK,cK,ih]; rfl
section
variable {B:Bn}
theorem Z3 (X:Txt B.w B.K) {G:Gh} {aB aR aN:Addr} {rows:List Row} {σ:Wd} {n:Nat} {nest:List Nat} (H:LI G aR rows σ n) (Bx:fU G aB) (Nst:jI G aN nest) (hlt:∀ x∈nest,x<rows.length) (hnz:nest.length≤1000) {Q:Value→Gh→Prop} (hQ:∀ σ' G',LI G' aR rows σ' n→fU G' aB→σ'.a=σ.a→aD [1,5,6,17] G G'→Q (.bool true) G') :
  Call B (.ref 862) [.ref aB,.ref σ.a,.ref aR,.ref aN] G 65 210 Q:=by
 refine TJ X fun c oo hsc aJ hb=>?_
 have h3:=H.K.n3
 have hlen:=H.K.len
 intro t1 t2 t3 t4 t5 t6 t7
 refine fP (9,4) (by exact bY _ _) fun l1 Gl1 kf hl1 gl1=>?_
 intro t8
 refine aQ hb (jC X (Bx.keep kf) (by decide) fun j tj G1 hj0 hj Bx1 k1=>?_)
 refine cN (pick (P:=fun s=>s∈signs) (xs:=[.str "A" t1,.str "X" t2,.str "B" t3,.str "C" t4,.str "D" t5,.str "Y" t6,.str "Integer" t7]) (uO (by kernel_rfl!)) hj0 hj) fun s tS hs1 hs=>?_
 have hl1':=k1 _ _ gl1 (by rfl)
 refine ⟨fun zz=>cX hl1' hj0 hs1 ?_⟩
 have K1:aD [17] G G1:=kf.mono.trans k1
 have H1:=H.keep K1
 refine j0 ((Nst.keep K1).ex) fun tn nv hn9 hn1 hN hI=>?_
 clear hl1' hs1 k1 kf
 refine EF X oo aJ hsc (9,6) rfl rfl rfl (by kernel_rfl!) ?_
 refine fV.pure X (fun zz=>true) (uS rows) hN (by have:=hI.len; exact aG (b5 this) (aG hnz (ble rfl))) ?_ ?_ ?_
 ·intro c' v G' hA hg hv k; exact ⟨rfl,rfl,aD.refl _ _⟩
 ·intro c' v G' hA hg hv _ k
  obtain ⟨q,hq⟩:=nW.mp hv
  refine cN (hI.nat hq) fun i ti hi zq3=>?_
  subst zq3
  obtain ⟨r,hr⟩:=jR (hlt i (cE hi))
  have HR:=H1.R.keep k
  refine dF HR (d9 _) hr rfl rfl rfl ?_
  exact ⟨rfl,aD.refl _ _,(by show _=Value.ref (aK rows ((i:Int).toNat)); exact sb (vF _) (sb (dZ hr) rfl))⟩
 intro D G2 hD k2 hD'
 rw [sY.mpr (fun zz zz=>rfl),hI.uS] at hD'
 have H2:=H1.keep k2
 have Bx2:=Bx1.keep k2
 have K2:aD [17] G G2:=K1.trans k2.mono
 have hN2:=k2 _ _ hN (by refine sb hn1 ?_; rfl)
 have hd2:=H2.K.lH (i:=2) (by exact h3)
 refine bS X.b8 X.ZT H2.W.obj H2.W.meth ?_
 refine aQ hb (UI X H2.W (H2.K.lines H2.kept) (tl:=(9,6)) (by simp) (by simp) (nest:=nest.map (aK rows)) hD' (fun x hx=>by (refine aV (cP.mp hx) fun i hi zq2=>?_; subst zq2); exact H2.K.lH (hlt i hi)) (by exact sb (cT _) (aG hnz (ble rfl))) H2.K.b2 hd2 (wX X H2.K hs) fun x3 κ G3 hx3 W3 hk3 k3=>?_)
 rw [H2.K.oO hlt] at hx3
 have H3:=H2.kp W3 hk3 k3
 have Bx3:=Bx2.keep k3
 have hN3:=k3 _ _ hN2 (by refine sb hn1 ?_; rfl)
 have K3:aD [1,17] G G3:=K2.mono.trans k3.mono
 have hcv:=H2.K.first hs (H2.K.MC hlt)
 refine aQ hb (Z4 X H3.R H3.K.small (f:=rows.length) (by exact aG hlen (ble rfl)) hn9 hN3 hI hnz (fun i r e=>H3.K.jJ (bZ _) i (hlt i (by exact sb e c8))) (H3.K.MC hlt) fun r G4 hgh k4=>?_)
 have H4:=H3.keep k4
 have Bx4:=Bx3.keep k4
 have K4:aD [1,17] G G4:=K3.trans k4.mono
 obtain ⟨al1,al2⟩:=tV (σ:=σ.kp κ) H4.W H4.K hcv
 refine aQ hb (CE X H4.R (k4 _ _ hx3 rfl) hgh al1 al2 ?_)
 clear hcv al1 al2 hgh hx3 hD' k2 k3 k4 hk3
 refine iZ X oo aJ hsc ["at","word1"] (by kernel_rfl!) (by kernel_rfl!) ?_
 intro t10
 refine jU H4.R.list fun t11=>?_
 intro t12 t13
 have hlenE:((rows.map fun r=>Value.ref r.d).length:Int) - 2=((rows.length - 2:Nat):Int):=len_sub (k:=2) (cZ h3)
 refine sb hlenE ?_
 refine aQ hb (jC X Bx4 (k:=((rows.length - 2:Nat):Int)) (D8 (k:=2) (by exact h3)) fun j2 tj2 G5 hj20 hj2 Bx5 k5=>?_)
 refine aV (show ∃ i:Nat,2+j2=(i:Int)∧i<rows.length from D7 hj20 hj2) fun at' hat hai=>?_
 intro t14
 refine sb hat ?_
 intro u1 u2 u3 u4 u5
 refine fP (9,4) (by exact bY _ _) fun l6 Gl6 kf hl6 gl6=>?_
 intro u6
 refine aQ hb (jC X (Bx5.keep kf) (by decide) fun j3 tj3 G6 hj30 hj3 Bx6 k6=>?_)
 refine cN (pick (P:=fun s=>s∈signs) (xs:=[.str "X" u1,.str "A" u2,.str "Y" u3,.str "B" u4,.str "Integer" u5]) (uO (by kernel_rfl!)) hj30 hj3) fun s2 tS2 hs1 hs2=>?_
 have hl6':=k6 _ _ gl6 (by rfl)
 refine ⟨fun zz=>cX hl6' hj30 hs1 ?_⟩
 refine iF (9,1) (by exact bY _ _) fun x7 G7 kx7 hx7 gx7=>?_
 refine gQ.mk gx7 rfl rfl ?_
 have k46:aD [17] G4 G7:=((k5.trans kf.mono).trans k6).trans kx7.mono
 have Bx7:=Bx6.keep kx7
 have H7:=H4.keep k46
 have K7:aD [1,17] G G7:=K4.trans k46.mono
 clear hl6' hs1 k5 kf k6 k46 Bx5 Bx6
 refine c7 (H7.K.at_ hai) fun ra hra ea Ra=>?_
 refine aQ hb (YV X H7.R H7.K.small (f:=rows.length) (by exact aG hlen (ble rfl)) (H7.K.jJ (bZ _) at' hai) H7.K.zS fun hv G8 hgh k8=>?_)
 have H8:=H7.keep k8
 have Bx8:=Bx7.keep k8
 have K8:aD [1,17] G G8:=K7.trans k8.mono
 have hcv:=H8.K.first hs2 (H8.K.zS (i:=at'))
 refine bS X.b8 X.JJ H8.W.obj H8.W.meth ?_
 refine dF H8.R (d9 _) hra rfl rfl rfl ?_
 refine aQ hb (HW X H8.W (H8.K.lines H8.kept) Ra.dom H8.K.b2 (H8.K.lH (i:=2) (by exact h3)) (wX X H8.K hs2) fun x9 κ9 G9 hx9 W9 hk9 k9=>?_)
 rw [←ea,H8.K.gZ hai] at hx9
 have H9:=H8.kp W9 hk9 k9
 have Bx9:=Bx8.keep k9
 have K9:aD [1,17] G G9:=K8.trans k9.mono
 have hgh9:=hgh.keep k9
 obtain ⟨al1,al2⟩:=tV (σ:=(σ.kp κ).kp κ9) H9.W H9.K hcv
 refine aQ hb (CE X H9.R hx9 hgh9 al1 al2 ?_)
 have hcv9:=H9.K.first hs2 (H9.K.zS (i:=at'))
 have ea9:(jL (aO rows rows.length) at').map (aK rows)=gZ (fK ((σ.kp κ).kp κ9)) (aK rows 2) ra.thing:=by exact aY ea (sb (H9.K.gZ hai) rfl)
 rw [ea9] at hcv9
 obtain ⟨al1,al2⟩:=tV (σ:=(σ.kp κ).kp κ9) H9.W H9.K hcv9
 clear hcv hx9 hk9 k9 k8
 refine NV (RR:=fun e m' G'=>m'=(OA (some (.ref aB)) (some (.ref σ.a)) (some (.ref aR)) (some (.ref aN)) (some (.str s tS)) (some (.int (at':Int) t14)) (some (.ref D)) (some (.str s2 tS2)) (some hv) none none)∧dW ((σ.kp κ).kp κ9) s2 (gZ (fK ((σ.kp κ).kp κ9)) (aK rows 2) ra.thing)=none∧zM G9 ((σ.kp κ).kp κ9) (fK ((σ.kp κ).kp κ9)) e G') oo X.tW aJ rfl (by unfold yL; refine sb hsc ?_; kernel_rfl!) (gG X oo aJ ?_) ?_
 ·refine bS X.b8 X.ZR H9.W.obj H9.W.meth ?_
  refine dF H9.R (d9 _) hra rfl rfl rfl ?_
  refine uV hb (fun e G' h=>⟨rfl,h.1,h.2⟩) (RE X H9.W (H9.K.lines H9.kept) H9.K.made Ra.dom H9.K.b2 (H9.K.lH (i:=2) (by exact h3)) (H9.K.path hra) (by have:=H9.K.xG hra; exact aG this (ble rfl)) (by exact aY ea (sb (H9.K.rk hai) (aG (cZ hai) (aG hlen (ble rfl))))) (wX X H9.K hs2) (afX hs2) fun r κ10 G10 hfc W10 hk10 k10=>?_)
  rw [hfc] at hcv9 al2
  have H10:=H9.kp W10 hk10 k10
  have Bx10:=Bx9.keep k10
  have K10:aD [1,17] G G10:=K9.trans k10.mono
  have hgh10:=hgh9.keep k10
  have hcv10:CV (aK rows) rows.length (((σ.kp κ).kp κ9).kp κ10).dom (some r) (iL rows s2 (jL (aO rows rows.length) at')):=hcv9
  refine WZ H10.W H10.K hcv10 hgh10 fun hd hx hlt1 al4=>?_
  obtain ⟨a,ea10⟩:=hx.isRef
  rw [ea10] at hx ⊢
  refine aQ hb (J4 X H10.R hx hlt1 fun r' hu=>?_)
  refine aV (al4 _ hu) fun kk q1 q2=>?_
  refine aQ hb (mG X q1 q2 ?_)
  exact kL (hQ _ _ H10 Bx10 rfl K10.mono) (by simp [lE])
 ·rintro e m' G' ⟨rfl,hfc,hl⟩
  refine ajK (H9.lost hl) fun σ' x y rs fs H10 ea' k10 hG hx hfo hyd zq1=>?_
  obtain ⟨tn,hn'⟩:=zq1
  refine ⟨_,_,hG,rfl,fun A'=>?_⟩
  have hM:=(H10.W.mods y hyd).obj
  rw [hfc] at hcv9
  have hnone:nA hv=true:=by refine sb (WY hcv9 hgh9) ?_; rfl
  refine NY X (b:=true) (fun Q' h=>aiO (E0 (v:=hv) rfl (by exact sb hnone h))) rfl hG rfl hx hfo hM (nm:="NameError") (u:=tn) (by refine aY hn' ?_; rfl) ?_
  exact hQ σ' _ H10 (Bx9.keep k10) ea' (K9.mono.trans k10.mono)
end
section
variable {prog:Program} {w:World} {K:Frag} {p:Program} {loose:List Str} {mean:ExcName→Option Value} {mg mb:Str→Option Value}
variable {c:Cx} {s:Shared} {m m':aA} {G G':Gh} {A:Around} {E:Value→Shared→Prop}
theorem aeZ {n:Int} {u:Tok} {target:Expr} {body:List Stmt} {Q:Flow→Shared→Prop} (hn0:0≤n) (hn1:n≤1000) (J:Nat→aA→Gh→Prop) (ok:bL p loose mean mg mb K c) (S:aE prog w c s m G)
  (h0:∀ I,G I=none→J 0 m (upd G I ⟨(9,0),.eG 0 n⟩))
  (turn:∀ (J':aA→Gh→Prop) I (k:Nat) tk s' m G',(∀ m G,J (k+1) m G→G I=some ⟨(9,0),.eG (k+1:Nat) (n - (k+1:Nat))⟩→J' m G)→G I=none→(k:Int)<n→J k m G'→G' I=some ⟨(9,0),.eG k (n - k)⟩→aE prog w c s' m (upd G' I ⟨(9,0),.eG (k+1:Nat) (n - (k+1:Nat))⟩) →
   wpAny (model prog w) c.A (assign target c.env (.int k tk)) (fun zz s₂=>wpAny (model prog w) c.A (execs body c.env) (qZ prog w c J' Q) fL s₂) fL s')
  (done:∀ I s' m G',G I=none→J n.toNat m G'→(∃ y,G' I=some ⟨(9,0),y⟩)→aE prog w c s' m (era G' I)→Q .next s')
  (ht:∀ i v,letOwnedTupleGo target i v=pure ():=by intro _ _; rfl) :
  wpAny (model prog w) c.A (call (.type "range") [.int n u]) (fun xv s₁=>ForIn prog w c.A c.env target body Q E xv s₁) E s:=by
 refine call_range_1 ?_
 have S1:=S.grow (h':=s.heap.push {cls:=.type "range",data:=.fields #[.int 0 s.toks,.int n u,.int 1 (s.toks+1)]}) (t:=s.toks+1+1) fun b o e=>d8 _ e
 have hsz:OS 0 n 1=n:=by
  refine sb (rangeSize_one _ _) ?_; split<;>(first | exact ac2 | exact ac3 hn0 (by assumption))
 refine wpAny_pyIter_range (IsRange.new _ _ _ _ _ _ _) ?_ ?_
 ·exact small_one (by decide) (by decide) (by exact KN hn0) (by exact KL hn1)
 refine sb hsz ?_
 obtain ⟨S',hnn⟩:=S1.add (h':=yO _ {cls:=.type "range_iterator",data:=.fields #[rawInt 0,rawInt n,rawInt 1]}) (t:=s.toks+1+1) (a:=(s.heap.push {cls:=.type "range",data:=.fields #[.int 0 s.toks,.int n u,.int 1 (s.toks+1)]}).objs.size) ⟨(9,0),.eG 0 n⟩ (fun b o e=>d8 _ e) S1.fresh rfl fun d=>j4 _ rfl
 refine AL (n:=n.toNat) (fun k=>.eG k (n - k)) (fun zz=>True) (fun k v=>∃ tk,v=.int k tk) J (fun zz=>rfl) (fun k s' m G' Q' hk S' hI hl' hQ=>?_) (fun s' m G' Q' S' hI hl' hQ=>?_) S' (by simpa using aI _ _ _) trivial (h0 _ hnn)
  (fun k v s' m G' hk hP hJ hI hl' S'=>?_) (fun s' m G' hJ hI hl' S'=>done _ s' m G' hnn hJ ⟨_,hI⟩ S') (ht _)
 ·obtain ⟨d,hit⟩:=S'.at_ hI
  refine wpAny_pyNext_range_item hit (by exact KP hk) fun h' hit' hs=>hQ _ _ ⟨_,rfl⟩ (S'.turn (t:=s'.toks+1) hI rfl rfl hs fun zz=>?_)
  show IsRangeIter h' _ _ _ 1
  refine sb (show ((k+1:Nat):Int)=(k:Int)+1 by exact rfl) (sb (show n - ((k:Int)+1)=n - k - 1 by exact (Int.sub_sub _ _ _).symm) ?_)
  exact hit'
 ·obtain ⟨d,hit⟩:=S'.at_ hI
  exact wpAny_pyNext_range_end ok.hh hit (by exact KO) fun h' hs=>hQ _ (S'.ext (t:=s'.toks) hI rfl hs)
 ·obtain ⟨tk,rfl⟩:=hP
  exact turn _ _ k tk s' m G' (fun m G a b=>⟨a,b,trivial⟩) hnn (by exact ac1 hk) hJ hI S'
end
section
variable {B:Bn} {c:Cx} {R:Addr→aA→Gh→Prop} {gl:List (Str×Value)} {m:aA} {G:Gh}
structure GD (B:Bn) (c:Cx) (target:Expr) (body:List Stmt) (J:Nat→aA→Gh→Prop) (Q:Flow→aA→Gh→Prop) (n:Int) (m₁:aA) (G₁:Gh):Prop where
 lo:0≤n
 hi:n≤1000
 zero:∀ I,G₁ I=none→J 0 m₁ (upd G₁ I ⟨(9,0),.eG 0 n⟩)
 turn:∀ (J':aA→Gh→Prop) I (k:Nat) tk m' G',(∀ m G,J (k+1) m G→G I=some ⟨(9,0),.eG (k+1:Nat) (n - (k+1:Nat))⟩→J' m G)→G₁ I=none→(k:Int)<n→J k m' G'→G' I=some ⟨(9,0),.eG k (n - k)⟩ →
    V B c bJ (assign target c.env (.int k tk)) m' (upd G' I ⟨(9,0),.eG (k+1:Nat) (n - (k+1:Nat))⟩) (fun zz m G=>V B c bJ (execs body c.env) m G (lP J' Q))
 done:∀ I m' G',G₁ I=none→J n.toNat m' G'→(∃ y,G' I=some ⟨(9,0),y⟩)→Q .next m' (era G' I)
theorem ahA {target:Expr} {body:List Stmt} {x:Str} {e:Expr} {q cpos pos:Pos} {Q:Flow→aA→Gh→Prop} (X:Txt B.w B.K) (hg:c.gl=gl) (hx:gl.lookup x=some (.type "range")) (J:Nat→aA→Gh→Prop)
  (h:wk B c R gl 60 (.L cpos [e] fun vs m₁ G₁=>∃ n u,vs=[.int n u]∧GD B c target body J Q n m₁ G₁) m G)
  (ht:∀ i v,letOwnedTupleGo target i v=pure ():=by intro _ _; with_unfolding_all rfl)
  (he:starEach (e::[]) c.env=(false,eval e c.env)::starEach [] c.env:=by with_unfolding_all rfl) (hplain:(backTo cpos (starEach [] c.env)).any (·.1)=false:=by with_unfolding_all rfl):V B c R (exec (.For target (.Call (.Name x q) [e] [] cpos) body [] pos) c.env) m G Q :=
 ⟨fun ok s S=>OO (EM ok S hg (lookup_mem hx) (((OF X hg h).go ok S fun vs s1 m1 G1 S1 h1=>by
  refine cN h1 fun n u zq3 zq4=>?_
  subst zq3
  obtain ⟨h0,hz,hJ,turn,done⟩:=zq4
  exact aeZ h0 hz J ok S1 hJ (fun J' I k tk s' m' G' hJ' hI hk hj hI' S'=>(turn J' I k tk m' G' hJ' hI hk hj hI').goN ok S' fun zz s2 m2 G2 S2 h2=>h2.goN ok S2 fun f s3 m3 G3 S3 h3=>h3.to S3)
   (fun I s' m' G' hI hj hz S'=>⟨_,_,S',done I m' G' hI hj hz⟩) ht)) he hplain) (sA rfl)⟩
theorem ai5 {value e:Expr} {sp pos:Pos} {Q:Value→aA→Gh→Prop} (tg:Tag) (X:Txt B.w B.K) (hg:c.gl=gl)
  (h:wk B c R gl 60 (.E value fun o m G=>wk B c R gl 60 (.E e fun vu m G=>∃ l xs,∃ (i:Nat),∃ u,o=.ref l∧(∀ h,B.K.In h→h.IsList l (z6 xs))∧xs.length≤1000000∧vu=.int i u∧∀ a,G a=none→Q (.ref a) m (upd G a ⟨tg,.list (xs.take i)⟩)) m G) m G)
  (ht:∀ o r,letTemporaryGo value o r=pure ():=by intro _ _; rfl):V B c R (eval (.Subscript value (.Slice none (some e) none sp) pos) c.env) m G Q:=⟨fun ok s S=>by
 refine wpAny_Subscript_list_slice ((fQ X hg h).go ok S fun o s1 m1 G1 S1 h1=>wpAny_pure ((fQ X hg h1).go ok S1 fun vu s₃ m2 G2 S2 h2=>?_)) ht
 refine ajJ h2 fun l xs i u zq1 hl hz zq2 hQ=>?_
 subst zq1
 subst zq2
 refine ⟨l,_,none,some (i:Int),rfl,hl _ (S2.dN ok),by rw [gK,sizeLine_eq]; exact aG hz (ble rfl),.none,.int _ _,?_⟩
 refine sb LA ?_
 have S1:=S2.grow (h':=s₃.heap.push {cls:=.type "slice",data:=.fields #[.none,.int i u,.none]}) (t:=s₃.toks) fun b o e=>d8 _ e
 obtain ⟨S',hn⟩:=S1.add (h':=yO _ {cls:=.type "list",data:=.seq (xs.take i).toArray}) (t:=s₃.toks) (a:=(s₃.heap.push {cls:=.type "slice",data:=.fields #[.none,.int i u,.none]}).objs.size) ⟨tg,.list (xs.take i)⟩ (fun b o e=>d8 _ e) S1.fresh rfl fun d=>⟨⟨0,j4 _ rfl⟩,aG (by exact sb List.length_take acQ) hz⟩
 have hsz:(s₃.heap.push {cls:=.type "slice",data:=.fields #[.none,.int i u,.none]}).objs.size=s₃.heap.objs.size+1:=ER ..
 rw [hsz] at S' hn
 exact ⟨_,_,S',hQ _ hn⟩⟩
theorem ahK {a:Addr} {xs:List Value} {Q:Value→aA→Gh→Prop} (hl:∀ h,B.K.In h→h.IsList a (z6 xs)) (hz:xs.length≤1000000) (h:∀ u,Q (.int xs.length u) m G):V B c R (call (.builtin "len") [.ref a]) m G Q:=⟨fun ok s S=>by
 refine call_len_list (hl _ (S.dN ok)) (by exact sb gK (xC hz)) ?_
 exact sb gK (⟨_,_,S.toks _,h _⟩)⟩
theorem ahS {a b:Addr} {t u:Tag} {xs ys:List Value} {d k:Nat} {Q:Value→aA→Gh→Prop} (hG:G a=some ⟨t,.list xs⟩) (hb:G b=some ⟨u,.list ys⟩) (hl:xs.length=ys.length) (he:∀ (j:Nat) x y,xs[j]?=some x→ys[j]?=some y→∃ s t u,x=.str s t∧y=.str s u) (hu:bD c d k) (hk:f9 1 k=true) (h:Q (.bool false) m G):V B c R (compareOp .NotEq (.ref a) (.ref b)) m G Q :=
 ⟨fun ok s S=>by
  obtain ⟨⟨n,hl1⟩,_⟩:=S.list hG
  obtain ⟨⟨n',hl2⟩,_⟩:=S.list hb
  refine PySem.SeqAt.RcNeAt.lists (e:=fun zz=>true) hl1.isList hl2.isList (by exact hl) (by have:=hu.2; have:=fT hk; omega) (fun j h1 h2=>?_) _ _ _ _ ?_
  ·refine lI (he j xs[j] ys[j] (lK _) (lK _)) fun z t1 t2 e1 e2=>?_
   have g1:xs.toArray[j]=.str z t1:=by exact e1
   have g2:ys.toArray[j]=.str z t2:=by exact e2
   refine sb g1 (sb g2 ?_)
   have:=PySem.SeqAt.EqAt.str_str (A:=c.A.in1) (s:=s) z t1 z t2
   rwa [show (z==z)=true from by exact beq_self_eq_true _] at this
  ·have:(!(lL xs.toArray.size).all fun zz=>true)=false:=by simp
   refine sb this ?_
   exact ⟨_,_,S,h⟩⟩
theorem NK {i:Int} {t:Tok} {Q:Value→aA→Gh→Prop} (h:∀ t,Q (.int (-i) t) m G):V B c R (unaryOp .USub (.int i t)) m G Q:=⟨fun ok s S=>PyProof.Rows.neg_int ⟨_,_,S.toks _,h _⟩⟩
theorem ah4 {i:Int} {t:Tok} {Q:Value→aA→Gh→Prop} (h:Q (.bool false) m G):V B c R (compareOp .Eq .none (.int i t)) m G Q:=⟨fun ok s S=>PySem.EqNone.eq_none_int ⟨_,_,S,h⟩⟩
end
theorem jI.turn {G:Gh} {aN I:Addr} {nest:List Nat} {z:GK} {x:GO} (h:jI G aN nest) (hI:G I=some ⟨(9,0),z⟩):jI (upd G I x) aN nest:=by
 refine j0 h.ex fun tn nv h1 h2 h3 h4=>?_
 exact ⟨tn,nv,h1,h2,b9 h3 hI h1,h4⟩
theorem LI.ME {G G':Gh} {aR tu:Addr} {rows:List Row} {σ:Wd} {n i:Nat} {r0:Row} {s:Str} {v:Value} {h:eV} {cv:Int} {t:Tok} (H:LI G aR rows σ n) (hr0:rows[i]?=some r0)
  (W':WI G' ((σ.dJ r0.thing s v).jS cv t)) (k:aD [2,5] G G') (hx:HeldAt G' (.ref tu) h) (hv:CV (aK rows) rows.length σ.dom (some v) (some h)) (hn:n+1≤100) :
  LI (upd G' r0.aH ⟨(15,r0.d),.aZ (stored r0.held s (.ref tu))⟩) aR (rows.set i {r0 with held:=stored r0.held s (.ref tu),hh:=fun s'=>if s'=s then some h else r0.hh s'}) ((σ.dJ r0.thing s v).jS cv t) (n+1):=by
 have R':=H.R.keep k
 have A':=R'.at_ r0 (cE hr0)
 have R0:=H.K.row i r0 hr0
 have sz:=R0.sz
 have R13:=R'.uP (s:=s) hr0 hx (by exact dQ hn sz.2.2.1 (by simp +arith only))
 have kh:aD [15] G' (upd G' r0.aH ⟨(15,r0.d),.aZ (stored r0.held s (.ref tu))⟩):=(aD.refl _ _).turn A'.held rfl
 have W13:=W'.keep kh
 have kk:aD [2,5,15] G (upd G' r0.aH ⟨(15,r0.d),.aZ (stored r0.held s (.ref tu))⟩):=k.mono.trans kh.mono
 have ma:((σ.dJ r0.thing s v).jS cv t).md r0.thing={σ.md r0.thing with consts:=stored (σ.md r0.thing).consts s v}:=fD
 have mo:∀ x,x≠r0.thing→((σ.dJ r0.thing s v).jS cv t).md x=σ.md x:=fun x hx=>dY hx
 have hL:=H.K.set (σ':=(σ.dJ r0.thing s v).jS cv t) (s:=s) (v:=v) (h:=h) (hd:=stored r0.held s (.ref tu)) hr0 rfl rfl rfl mo ma hv (nH _ _ _) hn
 have hsm:=H.K.same hL (fun zz h=>h) fun a zz=>by
  by_cases q:a=r0.thing
  ·subst q; exact sb ma (⟨rfl,rfl,rfl⟩)
  ·exact sb (mo a q) (⟨rfl,rfl,rfl⟩)
 refine ⟨W13,R13,hL,wM H.kept kk rfl rfl fun a ha=>.inl ⟨ha,?_,hsm a ha⟩⟩
 by_cases q:a=r0.thing
 ·subst q; exact sb ma rfl
 ·exact sb (mo a q) rfl
structure LS (aB aR aW I:Addr) (z:GO) (n:Nat) (G:Gh) (rows:List Row) (σ:Wd) (nest:List Nat) (aN:Addr):Prop where
 H:LI G aR rows σ n
 Bx:fU G aB
 N:jI G aN nest
 hI:G I=some z
 lt:∀ x∈nest,x<rows.length
 nz:nest.length≤4
 r4:4≤rows.length
 mF:rows.length≤10
 ea:σ.a=aW
 zt:z.tag=(9,0)
theorem LS.keep {T:List Nat} {aB aR aW I aN:Addr} {z:GO} {n:Nat} {G G':Gh} {rows:List Row} {σ:Wd} {nest:List Nat} (S:LS aB aR aW I z n G rows σ nest aN) (k:aD T G G') (hT:(T.contains 1||T.contains 2||T.contains 3||T.contains 4)=false:=by rfl) (hT5:(T.contains 5||T.contains 6||T.contains 10)=false:=by rfl) (h7:T.contains 7=false:=by rfl) (ho:oX T=true:=by rfl) (h1:(T.contains 17||T.contains 18)=false:=by rfl) (h9:T.contains 9=false:=by rfl):LS aB aR aW I z n G' rows σ nest aN :=
 ⟨S.H.keep k hT hT5 h7 ho,S.Bx.keep k h1,S.N.keep k h9,k _ _ S.hI (by exact sb S.zt h9),S.lt,S.nz,S.r4,S.mF,S.ea,S.zt⟩
theorem LS.DP {aB aR aW I aN:Addr} {z:GO} {n:Nat} {G G':Gh} {rows:List Row} {σ:Wd} {nest:List Nat} (S:LS aB aR aW I z n G rows σ nest aN) (Bx:fU G' aB) (k:aD [17] G G'):LS aB aR aW I z n G' rows σ nest aN :=
 ⟨S.H.keep k,Bx,S.N.keep k,k _ _ S.hI (by refine sb S.zt ?_; rfl),S.lt,S.nz,S.r4,S.mF,S.ea,S.zt⟩
theorem LS.spot {aB aR aW I aN:Addr} {z:GO} {n:Nat} {G:Gh} {rows:List Row} {σ:Wd} {nest:List Nat} (S:LS aB aR aW I z n G rows σ nest aN):spotOf nest<rows.length:=by
 induction nest using List.casesOn with
 | nil=>have:=S.r4; show 2<_; exact aG (ble rfl) this
 | cons i r=>exact S.lt i c8
noncomputable abbrev jO (aS aB aW aR aN:Addr) (k:Nat) (tk:Tok) (de:Int) (td:Tok) (sp:Nat) (ts:Tok) (o1 o2 o3 o4:Option Value):aA :=
 (sP (some (.ref aS)) (some (.ref aB)) (some (.ref aW)) (some (.ref aN)) (some (.ref aR)) (some (.int k tk)) (some (.int de td)) (some (.int (sp:Nat) ts)) o1 o2 o3 o4 none)
noncomputable def w4 (s:Stmt):List Stmt:=(sE s).2.2.1
noncomputable def WO (s:Stmt):Expr:=(sE s).2.2.2.1
noncomputable abbrev uC:List Stmt:=n9 (jA (bodyOf (topS 73)) 5)
noncomputable abbrev AA:List Stmt:=w4 (jA uC 1)
noncomputable abbrev HM:List Stmt:=w4 (jA AA 0)
noncomputable abbrev HN:List Stmt:=w4 (jA HM 0)
noncomputable abbrev RS:List Stmt:=w4 (jA HN 0)
section
variable {B:Bn} {c:Cx} {aS aB aW aR aN I:Addr} {z:GO} {k:Nat} {tk td ts:Tok} {de:Int} {o1 o2 o3 o4:Option Value} {rws:List Row} {σ:Wd} {nest:List Nat} {G:Gh} {QT:Flow→aA→Gh→Prop}
theorem RK (X:Txt B.w B.K) (oo:bB c) (aJ:c.gl=eN) (hb:bD c 79 297) (S:LS aB aR aW I z (4+3 * k) G rws σ nest aN) (hk:k<11) (h1:nest.length<4) (h2:rws.length<10)
  (hT:∀ {G' rws' σ' nest' aN' q1 q2 q3 q4},LS aB aR aW I z (4+3 * (k+1)) G' rws' σ' nest' aN'→QT .next (jO aS aB aW aR aN' k tk de td (spotOf nest) ts q1 q2 q3 q4) G') :
  ws B c bJ eN 58 (n9 (jA uC 1)) QT (jO aS aB aW aR aN k tk de td (spotOf nest) ts o1 o2 o3 o4) G:=by
 have ea:=S.ea
 subst ea
 refine aQ hb (Z2 X S.H S.Bx S.N S.lt (by exact aG h2 (ble rfl)) (by exact fX hk hk hk (by simp +arith only)) fun rows' σ' r G1 H' Bx' ea hl1 hl2 hr k1=>?_)
 have S':LS aB aR σ.a I z (4+3 * (k+1)) G1 rows' σ' nest aN:=⟨H'.le (by exact j6 _) (by exact fX hk hk hk (by simp +arith only)),Bx',S.N.keep k1,k1 _ _ S.hI (by refine sb S.zt ?_; rfl),fun x hx=>tF (S.lt x hx) hl1,S.nz,by have:=S.r4; exact aG this hl1,by exact aG hl2 h2,ea,S.zt⟩
 rcases hr with rfl | ⟨j,tj,rfl,hj⟩
 ·intro t1
  refine NK fun t2=>?_
  refine ah4 ?_
  exact hT S'
 ·intro t1
  refine NK fun t2=>?_
  refine eS (9,4) (by exact iR _) fun l1 hl1'=>?_
  have kf:aD [] G1 (upd G1 l1 ⟨(9,4),.list [.int (j:Int) tj]⟩):=(aD.refl _ _).fresh hl1'
  have S2:=S'.keep kf
  have gl1:=aI G1 l1 ⟨(9,4),.list [.int (j:Int) tj]⟩
  generalize upd G1 l1 ⟨(9,4),.list [.int (j:Int) tj]⟩=G2 at *
  refine j0 (id S2.N.ex) fun tn nv hn9 hn1 hN hNI=>?_
  have hnl:=hNI.len
  refine pA (9,3) gl1 hN (by simp; exact dQ h1 (b5 hnl) (by simp +arith only)) fun l2 hl2=>?_
  have kf2:aD [] G2 (upd G2 l2 ⟨(9,3),.list ([.int (j:Int) tj]++nv)⟩):=(aD.refl _ _).fresh hl2
  have S3:=S2.keep kf2
  exact hT (nest':=j::nest) ⟨S3.H,S3.Bx,⟨(9,3),_,by simp,rfl,aI _ _ _,⟨⟨tj,rfl⟩,hNI⟩⟩,S3.hI,fun x hx=>(by
   rcases cU.mp hx with rfl | h
   ·exact hj
   ·exact S3.lt x h),by simp; exact (qW h1),S3.r4,S3.mF,S3.ea,S3.zt⟩
theorem RH (X:Txt B.w B.K) (oo:bB c) (aJ:c.gl=eN) (S:LS aB aR aW I z (4+3 * k) G rws σ nest aN) (hk:k<11)
  (hT:∀ {G' rws' σ' nest' aN' q1 q2 q3 q4},LS aB aR aW I z (4+3 * (k+1)) G' rws' σ' nest' aN'→QT .next (jO aS aB aW aR aN' k tk de td (spotOf nest) ts q1 q2 q3 q4) G') :
  ws B c bJ eN 56 (n9 (jA HM 0)) QT (jO aS aB aW aR aN k tk de td (spotOf nest) ts o1 o2 o3 o4) G:=by
 refine j0 (id S.N.ex) fun tn nv hn9 hn1 hN hNI=>?_
 refine NT (9,3) X aJ ?_
 intro t1
 refine ⟨aN,_,nv,1,t1,rfl,hN,rfl,fun l1 hl1=>?_⟩
 have kf:aD [] G (upd G l1 ⟨(9,3),.list (nv.drop 1)⟩):=(aD.refl _ _).fresh hl1
 have S2:=S.keep kf
 refine hT (nest':=nest.drop 1) ⟨S2.H.le (by exact fS (gX _ _) _) (by exact fX hk hk hk (by simp +arith only)),S2.Bx,⟨(9,3),_,by simp,rfl,aI _ _ _,?_⟩,S2.hI,fun x hx=>S2.lt x ((List.drop_sublist 1 nest).mem hx),by have:=S2.nz; simp; exact aG this (ble rfl),S2.r4,S2.mF,S2.ea,S2.zt⟩
 induction nv using List.casesOn with
 | nil =>
  induction nest using List.casesOn with
  | nil=>trivial
  | cons=>exact hNI.elim
 | cons v vs =>
  induction nest using List.casesOn with
  | nil=>exact hNI.elim
  | cons=>exact hNI.2
theorem RJ (X:Txt B.w B.K) (oo:bB c) (aJ:c.gl=eN) (hb:bD c 79 297) (S:LS aB aR aW I z (4+3 * k) G rws σ nest aN) (hk:k<11)
  (hT:∀ {G' rws' σ' nest' aN' q1 q2 q3 q4},LS aB aR aW I z (4+3 * (k+1)) G' rws' σ' nest' aN'→QT .next (jO aS aB aW aR aN' k tk de td (spotOf nest) ts q1 q2 q3 q4) G') :
  ws B c bJ eN 55 RS QT (jO aS aB aW aR aN k tk de td (spotOf nest) ts o1 o2 o3 o4) G:=by
 have ea:=S.ea
 subst ea
 refine cV (fun zz=>?_) (fun zz=>?_)
 ·refine aQ hb (Z0 X S.H S.Bx S.spot (by exact fX hk hk hk (by simp +arith only)) fun rows' σ' G1 H' Bx' ea hl k1=>?_)
  exact hT ⟨H'.le (by exact by simp +arith only) (by exact fX hk hk hk (by simp +arith only)),Bx',S.N.keep k1,k1 _ _ S.hI (by rw [S.zt]; rfl),by rw [hl]; exact S.lt,S.nz,by rw [hl]; exact S.r4,by rw [hl]; exact S.mF,ea,S.zt⟩
 ·exact hT ⟨S.H.le (by exact fS (gX _ _) _) (by exact fX hk hk hk (by simp +arith only)),S.Bx,S.N,S.hI,S.lt,S.nz,S.r4,S.mF,S.ea,S.zt⟩
end
theorem zU {P P':Prop} (h:P'):bq false P P':=h
theorem mK {B:Bn} {c:Cx} {R:Addr→aA→Gh→Prop} {gl:List (Str×Value)} {m:aA} {G:Gh} {n:Nat} {Q:Flow→aA→Gh→Prop} (h:Q .next m G):ws B c R gl (n+1) [] Q m G:=h
section
variable {B:Bn} {c:Cx} {aS aB aW aR aN I:Addr} {z:GO} {k:Nat} {tk td ts:Tok} {de:Int} {o1 o2 o3 o4:Option Value} {rws:List Row} {σ:Wd} {nest:List Nat} {G:Gh} {QT:Flow→aA→Gh→Prop}
theorem HJ (X:Txt B.w B.K) (oo:bB c) (aJ:c.gl=eN) (hsc:c.env.scope=aU (topS 73)) (hb:bD c 79 297) (S:LS aB aR aW I z (4+3 * k) G rws σ nest aN) (hk:k<11)
  (hT:∀ {G' rws' σ' nest' aN' q1 q2 q3 q4},LS aB aR aW I z (4+3 * (k+1)) G' rws' σ' nest' aN'→QT .next (jO aS aB aW aR aN' k tk de td (spotOf nest) ts q1 q2 q3 q4) G') :
  ws B c bJ eN 57 (n9 (jA AA 0)) QT (jO aS aB aW aR aN k tk de td (spotOf nest) ts o1 o2 o3 o4) G:=by
 have ea:=S.ea
 subst ea
 refine iZ X oo aJ hsc ["sign","number"] (by kernel_rfl!) (by kernel_rfl!) ?_
 intro t1 t2 t3
 refine fP (9,4) (by exact bY _ _) fun l1 Gl1 kf hl1 gl1=>?_
 intro t4
 refine aQ hb (jC X (S.Bx.keep kf) (by decide) fun j tj G1 hj0 hj Bx1 k1=>?_)
 refine cN (pick (P:=fun s=>s∈signs) (xs:=[.str "X" t1,.str "Y" t2,.str "A" t3]) (uO (by kernel_rfl!)) hj0 hj) fun s tS hs1 hs=>?_
 have hl1':=k1 _ _ gl1 (by rfl)
 refine ⟨fun zz=>cX hl1' hj0 hs1 ?_⟩
 have S1:=S.DP Bx1 (kf.mono.trans k1)
 intro t5 t6
 refine iF (9,1) (by exact bY _ _) fun x1 G2 kx1 hx1 gx1=>?_
 refine gQ.mk gx1 rfl rfl ?_
 have S2:=S1.keep kx1
 clear hs1 hl1' k1 kf Bx1 S1 S
 have hsp:=S2.spot
 refine c7 (S2.H.K.at_ hsp) fun r0 hr0 e0 R0=>?_
 have sz:=R0.sz
 refine bS X.b8 X.wR S2.H.W.obj S2.H.W.meth ?_
 refine dF S2.H.R (d9 _) hr0 rfl rfl rfl ?_
 refine aQ hb (afV X S2.H.W R0.dom (by exact dQ (cY hk hk) (cY hk sz.2.2.2) (by simp +arith only)) fun t7 r G3 W3 k3=>?_)
 intro t8
 refine iF (16,0) (by exact bY _ _) fun tu G4 kf htu gt=>?_
 have k4:aD [2,5] G2 _:=k3.trans kf.mono
 have W4:=W3.keep kf
 have R4:=S2.H.R.keep k4
 have A4:=R4.at_ r0 (cE hr0)
 refine dF R4 (d9 _) hr0 rfl rfl rfl ?_
 refine nO A4.held (by exact dQ (cY hk hk) (cY hk sz.2.2.1) (by simp +arith only)) ?_
 have H5:=S2.H.ME hr0 W4 k4 (HeldAt.num gt) .num (by exact fX hk hk hk (by simp +arith only))
 have kh:aD [2,5,15] G2 (upd G4 r0.aH ⟨(15,r0.d),.aZ (stored r0.held s (.ref tu))⟩):=k4.mono.trans ((aD.refl [15] _).turn A4.held rfl).mono
 exact hT ⟨H5.le (by exact by simp +arith only) (by exact fX hk hk hk (by simp +arith only)),S2.Bx.keep kh,S2.N.keep kh,kh _ _ S2.hI (by rw [S2.zt]; rfl),by rw [eU]; exact S2.lt,S2.nz,by rw [eU]; exact S2.r4,by rw [eU]; exact S2.mF,rfl,S2.zt⟩
theorem RM (X:Txt B.w B.K) (oo:bB c) (aJ:c.gl=eN) (hsc:c.env.scope=aU (topS 73)) (hb:bD c 79 297) (S:LS aB aR aW I z (4+3 * k) G rws σ nest aN) (hk:k<11)
  (hT:∀ {G' rws' σ' nest' aN' q1 q2 q3 q4},LS aB aR aW I z (4+3 * (k+1)) G' rws' σ' nest' aN'→QT .next (jO aS aB aW aR aN' k tk de td (spotOf nest) ts q1 q2 q3 q4) G') :
  ws B c bJ eN 55 (n9 (jA HN 0)) QT (jO aS aB aW aR aN k tk de td (spotOf nest) ts o1 o2 o3 o4) G:=by
 have ea:=S.ea
 subst ea
 have hr4:=S.r4
 have hr10:=S.mF
 refine iZ X oo aJ hsc ["one","sign"] (by kernel_rfl!) (by kernel_rfl!) ?_
 intro t1
 refine jU S.H.R.list fun u1=>?_
 intro t2 t3
 have hlenE:((rws.map fun r=>Value.ref r.d).length:Int) - 3=((rws.length - 3:Nat):Int):=len_sub (k:=3) (cZ hr4)
 refine sb hlenE ?_
 refine aQ hb (jC X S.Bx (k:=((rws.length - 3:Nat):Int)) (D8 (k:=3) (by exact hr4)) fun j tj G1 hj0 hj Bx1 k1=>?_)
 refine aV (show ∃ i:Nat,3+j=(i:Int)∧i<rws.length from D7 hj0 hj) fun o ho hol=>?_
 intro t4
 refine sb ho ?_
 have S1:=S.DP Bx1 k1
 intro t5 t6 t7
 refine fP (9,4) (by exact bY _ _) fun l1 Gl1 kf hl1 gl1=>?_
 intro t8
 refine aQ hb (jC X (S1.Bx.keep kf) (by decide) fun j2 tj2 G2 hj20 hj2 Bx2 k2=>?_)
 refine cN (pick (P:=fun s=>s∈signs) (xs:=[.str "Y" t5,.str "B" t6,.str "X" t7]) (uO (by kernel_rfl!)) hj20 hj2) fun s tS hs1 hs=>?_
 have hl1':=k2 _ _ gl1 (by rfl)
 refine ⟨fun zz=>cX hl1' hj20 hs1 ?_⟩
 have S2:=S1.DP Bx2 (kf.mono.trans k2)
 refine iF (9,1) (by exact bY _ _) fun x1 G3 kx1 hx1 gx1=>?_
 refine gQ.mk gx1 rfl rfl ?_
 have S3:=S2.keep kx1
 clear hs1 hl1' k1 k2 kf Bx1 Bx2 S1 S2 S
 have hsp:=S3.spot
 refine c7 (S3.H.K.at_ hsp) fun r0 hr0 e0 R0=>?_
 refine c7 (S3.H.K.at_ hol) fun ro hro eo Ro=>?_
 have sz:=R0.sz
 refine cN Ro.nm fun sn tn en zz=>?_
 refine bS X.b8 X.wR S3.H.W.obj S3.H.W.meth ?_
 refine dF S3.H.R (d9 _) hr0 rfl rfl rfl ?_
 refine dF S3.H.R (d9 _) hro rfl rfl rfl ?_
 refine aQ hb (afW X S3.H.W R0.dom Ro.dom (by exact dQ (cY hk hk) (cY hk sz.2.2.2) (by simp +arith only)) en fun t9 r G4 W4 k4=>?_)
 intro t10
 refine iF (16,0) (by exact bY _ _) fun tu G5 kf htu gt=>?_
 have k5:aD [2,5] G3 _:=k4.trans kf.mono
 have W5:=W4.keep kf
 have R5:=S3.H.R.keep k5
 have A5:=R5.at_ r0 (cE hr0)
 refine dF R5 (d9 _) hr0 rfl rfl rfl ?_
 refine nO A5.held (by exact dQ (cY hk hk) (cY hk sz.2.2.1) (by simp +arith only)) ?_
 have hcv:CV (aK rws) rws.length σ.dom (some (.ref ro.thing)) (some (.row o)):=eo▸.row hol
 have H6:=S3.H.ME hr0 W5 k5 (HeldAt.row gt) hcv (by exact fX hk hk hk (by simp +arith only))
 have kh:aD [2,5,15] G3 (upd G5 r0.aH ⟨(15,r0.d),.aZ (stored r0.held s (.ref tu))⟩):=k5.mono.trans ((aD.refl [15] _).turn A5.held rfl).mono
 exact hT ⟨H6.le (by exact by simp +arith only) (by exact fX hk hk hk (by simp +arith only)),S3.Bx.keep kh,S3.N.keep kh,kh _ _ S3.hI (by rw [S3.zt]; rfl),by rw [eU]; exact S3.lt,S3.nz,by rw [eU]; exact S3.r4,by rw [eU]; exact S3.mF,rfl,S3.zt⟩
theorem YX (X:Txt B.w B.K) (oo:bB c) (aJ:c.gl=eN) (hsc:c.env.scope=aU (topS 73)) (hb:bD c 79 297) (S:LS aB aR aW I z (4+3 * k) G rws σ nest aN) (hk:k<11)
  (hT:∀ {G' rws' σ' nest' aN' q1 q2 q3 q4},LS aB aR aW I z (4+3 * (k+1)) G' rws' σ' nest' aN'→ws B c bJ eN 58 (uC.drop 2) QT (jO aS aB aW aR aN' k tk de td (spotOf nest) ts q1 q2 q3 q4) G') :
  ws B c bJ eN 59 (uC.drop 1) QT (jO aS aB aW aR aN k tk de td (spotOf nest) ts o1 o2 o3 o4) G:=by
 have elifs:∀ {G1:Gh},LS aB aR aW I z (4+3 * k) G1 rws σ nest aN→ws B c bJ eN 58 AA (eE (ws B c bJ eN 58 (uC.drop 2) QT) QT) (jO aS aB aW aR aN k tk de td (spotOf nest) ts o1 o2 o3 o4) G1:=by
  intro G1 S1
  refine cV (fun zz=>HJ X oo aJ hsc hb S1 hk fun S'=>iM (mK (iM (hT S')))) (fun zz=>cV (fun zz=>HJ X oo aJ hsc hb S1 hk fun S'=>iM (mK (iM (hT S')))) (fun zz=>?_))
  refine cV (fun zz=>RH X oo aJ S1 hk fun S'=>iM (mK (iM (mK (iM (hT S')))))) (fun zz=>?_)
  refine cV (fun zz=>RM X oo aJ hsc hb S1 hk fun S'=>iM (mK (iM (mK (iM (mK (iM (hT S')))))))) (fun zz=>?_)
  exact RJ X oo aJ hb S1 hk fun S'=>iM (mK (iM (mK (iM (mK (iM (hT S')))))))
 intro w1 w2
 refine fP (9,4) (by exact bY _ _) fun l3 G1 kf hl3 gl3=>?_
 have S1:=S.keep kf
 refine DV gl3 (ns:=[1,0]) ⟨⟨_,rfl⟩,⟨_,rfl⟩,trivial⟩ ?_
 refine cV (fun zz=>?_) (fun zz=>zU (elifs S1))
 refine j0 (id S1.N.ex) fun tn nv hn9 hn1 hN hNI=>?_
 have hnl:=hNI.len
 refine jU hN fun t1=>?_
 refine cV (fun h1=>?_) (fun zz=>zU (elifs S1))
 refine jU S1.H.R.list fun t2=>?_
 refine cV (fun h2=>?_) (fun zz=>zU (elifs S1))
 have h1:=of_decide_eq_true h1
 have h2:=of_decide_eq_true h2
 rw [cT] at h2
 exact RK X oo aJ hb S1 hk (by exact aG (d7 (b5 hnl.symm)) ((kQ.mp h1))) (by exact (kQ.mp h2)) fun S'=>iM (hT S')
end
theorem L7 {P:Value→Value→Prop} {vs ys:List Value} (H:Paired P vs ys):vs.length=ys.length∧∀ (j:Nat) v y,vs[j]?=some v→ys[j]?=some y→P v y:=by
 induction H with
 | nil=>exact ⟨rfl,fun j v y h zz=>bM h⟩
 | cons e _ ih =>
  refine ⟨congrArg Nat.succ ih.1,fun j v y hv hy=>?_⟩
  induction j using Nat.casesOn with
  | zero=>cases hv; cases hy; exact e
  | succ j=>exact ih.2 j v y hv hy
theorem RI.path_eq {G:Gh} {aR:Addr} {rows:List Row} (H:RI G aR rows) {r r':Row} (h:r∈rows) (h':r'∈rows) (e:r.d=r'.d):r.path=r'.path:=by
 have h1:=(H.at_ r h).dict
 rw [e,(H.at_ r' h').dict] at h1
 simp only [Option.some.injEq,GO.mk.injEq,GK.aZ.injEq,OV,Prod.mk.injEq,Value.str.injEq,true_and] at h1
 exact h1.2.2.2.1.1.symm
noncomputable def FY (rows:List Row) (v y:Value):Prop:=∀ r∈rows,v=.ref r.d→∃ t,y=.str r.path t
theorem gP.adA {σ σ':Wd} (rel:kC σ σ') {ro:Addr→Nat} {w:Addr} (hat:∀ x∈σ.dom,(σ.md x).attached=.none) (hw:(σ'.md w).attached≠.none) {k:Nat} {a:Addr} {P:Str} (h:gP σ ro a P):a≠w∧gP σ' (fun x=>if x=w then k else ro x) a P:=by
 have ne:∀ x∈σ.dom,x≠w:=fun x hx e=>by
  obtain ⟨v,e'⟩:=rel.md x hx
  subst e
  rw [e'] at hw
  exact hw (hat x hx)
 refine ⟨ne a h.dom,?_⟩
 induction h with
 | base ha h1 h2 h3 =>
  obtain ⟨v,e⟩:=rel.md _ ha
  exact .base (rel.dom _ ha) (by exact sb e h1) (by exact sb e h2) (by exact sb e h3)
 | step ha h1 h2 h3 hr h ih =>
  obtain ⟨v,e⟩:=rel.md _ ha
  exact .step (rel.dom _ ha) (by exact sb e h1) (by exact sb e h2) (by exact sb e h3) (by exact sb (if_neg (ne _ ha)) (sb (if_neg (ne _ h.dom)) hr)) ih
 | own ha h1 hr h ih=>rw [hat _ ha] at h1; cases h1
section
variable {σ:Wd} {rows:List Row} {n:Nat}
theorem LK.owners (H:LK σ rows n):∀ x∈σ.dom,∃ o,(σ.md x).owner=.ref o:=fun x hx=>by
 rcases H.jB x hx with ⟨i,_,hi,rfl⟩ | ⟨u,p,m,c,T,b,_⟩
 ·refine c7 (H.at_ hi) fun r zz e R=>?_
  exact sb e R.own
 ·exact b.own
theorem LK.QK (H:LK σ rows n):∀ x∈σ.dom,eY σ rows x≤1000∧(gT σ x=.none∨∃ b,gT σ x=.ref b∧b∈σ.dom∧eY σ rows b<eY σ rows x):=fun x hx=>by
 obtain ⟨h1,h2⟩:=H.ups x hx
 refine ⟨h1,?_⟩
 unfold gT
 split
 ·exact h2
 ·exact .inl rfl
end
section
variable {B:Bn} {c:Cx} {aS aB aW aR aN:Addr} {o1 o2 o3 o4 o5 o6 o7:Option Value} {rws:List Row} {σ:Wd} {n:Nat} {G:Gh} {QT:Flow→aA→Gh→Prop}
theorem YY (X:Txt B.w B.K) (oo:bB c) (aJ:c.gl=eN) (hsc:c.env.scope=aU (topS 73)) (hb:bD c 79 297) (H:LI G aR rws σ n) (Bx:fU G aB) (h4:4≤rws.length) (ea:σ.a=aW) (hQ:∀ m G,QT (.ret (.bool true)) m G) :
  ws B c bJ eN 54 ((bodyOf (topS 73)).drop 6) QT (sP (some (.ref aS)) (some (.ref aB)) (some (.ref aW)) (some (.ref aN)) (some (.ref aR)) o1 o2 o3 o4 o5 o6 o7 none) G:=by
 subst ea
 have hlen:=H.K.len
 refine EF X oo aJ hsc (9,6) rfl rfl rfl (by kernel_rfl!) ?_
 refine fV.list X (fun zz=>true) (fun v y zz=>FY rws v y) H.R.list (by exact sb (cT _) (aG hlen (ble rfl))) (fun zz zz zz zz h zz=>h) ?_ ?_ ?_
 ·intro c' v G' hA hg hv k; exact ⟨rfl,rfl,aD.refl _ _⟩
 ·intro c' v G' hA hg hv _ k
  refine aV (cP.mp hv) fun r hr zq2=>?_
  subst zq2
  obtain ⟨i,hi⟩:=nW.mp hr
  have H':=H.keep k
  have hil:=(cO.mp hi).1
  refine ⟨fun zz=>iO (H'.R.at_ r hr).dict rfl ?_⟩
  refine aQ (hb.of hA) (AM X H'.W H'.K.num.inj (H'.K.path hi) (by have:=H'.K.xG hi; exact aG this (ble rfl)) (by exact aY (dZ hi) (sb (H'.K.rk hil) (aG (cZ hil) (aG hlen (ble rfl))))) fun t G2 k2=>?_)
  exact ⟨rfl,k2,fun r' hr' e=>⟨t,by
   have e:r.d=r'.d:=by simpa using e
   exact sb (H.R.path_eq hr hr' e) ((by rfl))⟩⟩
 intro D ys G1 hD k1 hD' hp1
 have H1:=H.keep k1
 have Bx1:=Bx.keep k1
 refine nQ X oo aJ hsc (9,6) rfl (by kernel_rfl!) ?_
 refine fV.list X (fun zz=>true) (fun v y zz=>FY rws v y) H1.R.list (by exact sb (cT _) (aG hlen (ble rfl))) (fun zz zz zz zz h zz=>h) ?_ ?_ ?_
 ·intro c' v G' hA hg hv k; exact ⟨rfl,rfl,aD.refl _ _⟩
 ·intro c' v G' hA hg hv _ k
  refine aV (cP.mp hv) fun r hr zq1=>?_
  subst zq1
  have H':=H1.keep k
  refine ⟨fun zz=>iO (H'.R.at_ r hr).dict rfl ?_⟩
  exact ⟨rfl,aD.refl _ _,fun r' hr' e=>⟨r.pT,by
   have e:r.d=r'.d:=by simpa using e
   exact sb (H.R.path_eq hr hr' e) ((by rfl))⟩⟩
 intro D2 ys2 G2 hD2 k2 hD2' hp2
 have H2:=H1.keep k2
 have Bx2:=Bx1.keep k2
 rw [sY.mpr (fun zz zz=>rfl)] at hp1 hp2
 obtain ⟨l1,p1⟩:=L7 hp1
 obtain ⟨l2,p2⟩:=L7 hp2
 refine ahS (k2 _ _ hD' rfl) hD2' (l1.symm.trans l2) (fun j x y hx hy=>?_) hb rfl ?_
 ·have hj:=(cO.mp hx).1
  rw [←l1,cT] at hj
  obtain ⟨r,hr⟩:=jR hj
  have hm:(rws.map fun r=>Value.ref r.d)[j]?=some (.ref r.d):=by refine sb jF (sb hr ?_); rfl
  obtain ⟨t,e1⟩:=p1 j _ _ hm hx r (cE hr) rfl
  obtain ⟨u,e2⟩:=p2 j _ _ hm hy r (cE hr) rfl
  exact ⟨_,t,u,e1,e2⟩
 clear hp1 hp2 p1 p2 l1 l2 hD' hD2' hD hD2
 intro t1
 refine jU H2.R.list fun u1=>?_
 intro t2 t3
 have hlenE:((rws.map fun r=>Value.ref r.d).length:Int) - 3=((rws.length - 3:Nat):Int):=len_sub (k:=3) (cZ h4)
 refine sb hlenE ?_
 refine aQ hb (jC X Bx2 (k:=((rws.length - 3:Nat):Int)) (D8 (k:=3) (by exact h4)) fun j tj G3 hj0 hj Bx3 k3=>?_)
 refine aV (show ∃ i:Nat,3+j=(i:Int)∧i<rws.length from D7 hj0 hj) fun o ho hol=>?_
 intro t4
 refine sb ho ?_
 have H3:=H2.keep k3
 refine c7 (H3.K.at_ hol) fun ro hro eo Ro=>?_
 obtain ⟨cc,hcc⟩:=H3.K.cc
 refine dF H3.R (d9 _) hro rfl rfl rfl ?_
 refine aQ hb (ad9 X H3.W H3.K.num H3.K.QK (fun x hx=>(H3.K.i6 x hx).2) (fun x hx=>(H3.K.i6 x hx).1) H3.K.owners H3.K.JS hcc Ro.dom fun w σ' G4 W4 rel hwd hwa k4=>?_)
 have hP:=H3.K.path hro
 have hPz:=H3.K.xG hro
 obtain ⟨hne,hP'⟩:=hP.adA rel (k:=eY σ rws ro.thing+1) (fun x hx=>(H3.K.i6 x hx).1) (by refine sb hwa ?_; exact fun h=>by cases h)
 have hrk:eY σ rws ro.thing≤20:=by exact aY eo (sb (H3.K.rk hol) (aG (cZ hol) hlen))
 refine aQ hb (AM X W4 rel.num.inj (.own hwd hwa (by exact sb (if_neg hne) (sb (if_pos rfl) (lN _))) hP') (by exact sb (gO _ _) (sb (gO _ _) (sb uD (sb wQ (acT hPz))))) (by exact sb (if_pos rfl) (aG (d7 hrk) (ble rfl))) fun t5 G5 k5=>?_)
 have R5:=(H3.R.keep k4).keep k5
 intro t6
 refine dF R5 (d9 _) hro rfl rfl rfl ?_
 refine fO (by exact sb uD (acS hPz)) fun t7=>?_
 intro t8
 refine fO (by exact sb (gO _ _) (sb uD (sb wQ (acR hPz)))) fun t9=>?_
 show QT (.ret (.bool (_==_))) _ _
 refine sb (beq_self_eq_true _) ?_
 exact hQ _ _
end
section
variable {B:Bn}
inductive zL (aS aB aW aR:Addr):Nat→aA→Gh→Prop
 | mk {k:Nat} {G':Gh} (rows:List Row) (σ:Wd) (nest:List Nat) (aN:Addr) (o1 o2 o3 o4 o5 o6 o7:Option Value) (H:LI G' aR rows σ (4+3 * k)) (Bx:fU G' aB) (N:jI G' aN nest) (hlt:∀ x∈nest,x<rows.length) (hnz:nest.length≤4) (h4:4≤rows.length) (h10:rows.length≤10) (ea:σ.a=aW) :
   zL aS aB aW aR k (sP (some (.ref aS)) (some (.ref aB)) (some (.ref aW)) (some (.ref aN)) (some (.ref aR)) o1 o2 o3 o4 o5 o6 o7 none) G'
theorem Z1 (X:Txt B.w B.K) {G:Gh} {aS:Addr} {ss:List Value} {ns:List Int} (hS:∀ h,B.K.In h→h.IsList aS (z6 ss)) (hI:aX ss ns) (hz:ss.length≤63) {Q:Value→Gh→Prop} (hQ:∀ G',Q (.bool true) G'):Call B (.ref 867) [.ref aS] G 80 300 Q:=by
 refine T6 X fun c oo hsc aJ hb=>?_
 refine iZ X oo aJ hsc ["box","world","nesting"] (by kernel_rfl!) (by kernel_rfl!) ?_
 refine ai5 (9,6) X aJ ?_
 intro t1
 refine ⟨aS,ss,48,t1,rfl,hS,by exact aG hz (ble rfl),rfl,fun l1 hl1=>?_⟩
 refine N9 (18,0) (aI _ _ _) fun l2 hl2=>?_
 intro t2 t3
 refine eS (17,0) (by exact bY _ _) fun aB haB=>?_
 have Bx:fU (upd (upd (upd G l1 ⟨(9,6),.list (ss.take 48)⟩) l2 ⟨(18,0),.list (ss.take 48)⟩) aB ⟨(17,0),.list [.ref l2,.int 0 t2,.int 0 t3]⟩) aB :=
  ⟨l2,ss.take 48,ns.take 48,0,0,t2,t3,aI _ _ _,bG (aI _ _ _) haB,hI.MR 48,by decide⟩
 generalize upd (upd (upd G l1 ⟨(9,6),.list (ss.take 48)⟩) l2 ⟨(18,0),.list (ss.take 48)⟩) aB ⟨(17,0),.list [.ref l2,.int 0 t2,.int 0 t3]⟩=G1 at *
 refine nN (10,0) fun d hd=>?_
 have kf:aD [] G1 (upd G1 d ⟨(10,0),.aZ []⟩):=(aD.refl _ _).fresh hd
 have Bx2:=Bx.keep kf
 have gd:=aI G1 d ⟨(10,0),.aZ []⟩
 generalize upd G1 d ⟨(10,0),.aZ []⟩=G2 at *
 refine pB (5,0) X.aaI hb fun x hx=>ajG X (aI _ _ _) (bG gd hx) fun σ G3 ea W3 Ba kW=>⟨rfl,?_⟩
 have k3:aD [5,6] G2 G3:=fun b y hb hy=>by
  have h1:y.tag.1≠5∧y.tag.1≠6:=by
   constructor<;>(intro e; rw [e] at hy; exact absurd hy (by decide))
  exact kW b y (fun e=>by rw [e,hx] at hb; exact bM hb) (bG hb hx) h1.1 h1.2
 have Bx3:=Bx2.keep k3
 clear kW Bx Bx2 gd kf
 refine fP (9,3) (by simp) fun aN GaN kaN haN gaN=>?_
 refine iF (9,1) (by exact bY _ _) fun x4 G4 kx4 hx4 gx4=>?_
 refine gQ.mk gx4 rfl rfl ?_
 have kf:aD [] G3 G4:=(kaN).trans kx4.mono
 have W4:=W3.keep kf
 have Bx4:=Bx3.keep kf
 have gN4:G4 aN=some ⟨(9,3),.list []⟩:=kx4 _ _ gaN rfl
 subst ea
 refine aQ hb (YW X W4 Ba fun aR rows σ1 G5 H5 hl5 ea k5=>?_)
 have Bx5:=Bx4.keep k5
 have gN5:=k5 _ _ gN4 rfl
 refine c7 (H5.K.at_ (i:=2) (by exact (b5 hl5.symm))) fun r2 hr2 e2 R2=>?_
 obtain ⟨cm,hcm⟩:=H5.K.cm
 refine iP H5.R.list ?_
 refine aY ea ?_
 refine bS X.b8 X.CN H5.W.obj H5.W.meth ?_
 refine aQ hb (aaJ X H5.W hcm fun b tn aF bE aC aT b7 G6 hbd k6 W6=>?_)
 have N:=n5.of (ow:=cm) (aF:=aF) (bE:=bE) (aC:=aC) (aT:=aT) (b7:=b7) (t:=tn) (cl:=false) (pa:=.none) hbd
 generalize (σ1.cJ (σ1.last+1) tn).add b (Mod.fresh (σ1.last+1) tn (.ref cm) aF .none false .none .none bE aC aT b7 .none)=σ2 at N W6
 intro tM
 have R6:=H5.R.keep k6
 refine aQ hb (rT X (pN:=none) (.inl ⟨rfl,rfl⟩) fun d aM aF' aH G7 hd Rn k7=>?_)
 have R7:=R6.keep k7
 have hz3:rows.length<20:=aG (d7 (b5 hl5)) (ble rfl)
 refine iD R7.list (by exact sb (cT _) (aG hz3 (ble rfl))) ?_
 have R8:RI _ aR (rows++[gB d b false .none none "M" tM aM aF' aH]):=R7.snoc Rn (R6.fresh hd) (aG hz3 (ble rfl))
 have kl:aD [11] G7 (upd G7 aR ⟨(11,0),.list ((rows.map fun r=>.ref r.d)++[.ref d])⟩):=(aD.refl _ _).turn R7.list rfl
 have W8:=(W6.keep k7).keep kl
 have k58:aD [5,11] G5 (upd G7 aR ⟨(11,0),.list ((rows.map fun r=>.ref r.d)++[.ref d])⟩):=(k6.mono.trans k7.mono).trans kl.mono
 generalize upd G7 aR ⟨(11,0),.list ((rows.map fun r=>.ref r.d)++[.ref d])⟩=G8 at R8 W8 k58 ⊢
 clear kl R7 Rn hd R6 W6 k6 k7
 have hr2':(rows++[gB d b false .none none "M" tM aM aF' aH])[2]?=some r2:=by exact sb lC (sb (if_pos (show 2<rows.length from b5 hl5.symm)) hr2)
 have hr3':(rows++[gB d b false .none none "M" tM aM aF' aH])[3]?=some (gB d b false .none none "M" tM aM aF' aH):=by exact sb lC (sb (if_neg (show ¬3<rows.length from mW.mpr (b5 hl5))) (sb (if_pos (show 3=rows.length from hl5.symm)) rfl))
 refine bS X.b8 X.wR (N.obj W8) W8.meth ?_
 refine dF R8 (by decide) hr2' rfl rfl rfl ?_
 intro tM2
 refine dF R8 (by decide) hr3' rfl rfl rfl ?_
 refine aQ hb (MD X H5.K hr2 N W8 fun σ3 r9 G9 W9 O k9=>?_)
 have R9:=R8.keep k9
 have k59:aD [1,2,5,11] G5 G9:=k58.mono.trans k9.mono
 clear N W8 k58 k9 R8
 intro t13 t16
 refine iF (16,0) (ble rfl) fun tu G12 kf htu gtu=>?_
 have R12:=R9.keep kf
 have W12:=W9.keep kf
 have k512:aD [1,2,5,11,15] G5 _:=(k59.trans kf.mono).mono
 have gt:G12 tu=some ⟨(16,0),.tup [.str "row" t13,.int (rows.length:Int) t16]⟩:=by exact sb hl5 gtu
 clear kf htu R9 W9 k59
 have A12:=R12.at_ r2 (cE hr2')
 refine dF R12 (by decide) hr2' rfl rfl rfl ?_
 intro t17
 refine nO A12.held (aG (d7 R2.sz.2.2.1) (ble rfl)) ?_
 have H13:=LI.le (O.LI H5 hr2 (rn:=gB d b false .none none "M" tM aM aF' aH) (by decide) (.inl ⟨rfl,rfl⟩) (.inl ⟨rfl,rfl⟩) rfl rfl rfl (fun zz=>rfl) R12 W12 k512 gt hz3 (by decide)) (n':=4) (by decide) (by decide)
 have kh:aD [15] G12 (upd G12 r2.aH ⟨(15,r2.d),.aZ (stored r2.held "M" (.ref tu))⟩):=(aD.refl _ _).turn A12.held rfl
 have k513:=k512.trans kh.mono
 generalize upd G12 r2.aH ⟨(15,r2.d),.aZ (stored r2.held "M" (.ref tu))⟩=G13 at H13 k513 ⊢
 clear kh A12 R12 W12 k512 gt hr2' hr3'
 have Bx13:=Bx5.keep k513
 have gN13:=k513 _ _ gN5 rfl
 have hb0:σ3.a=σ.a:=O.ea.trans ea
 refine sb ea ?_
 generalize hrows:rows.set 2 _++[gB d b false .none none "M" tM aM aF' aH]=rows1 at H13
 have hlr:rows1.length=4:=by refine aY hrows (sb fR (sb eU (sb hl5 ?_))); rfl
 refine ahA X aJ rfl (zL aS aB σ.a aR) ?_
 have loop:∀ {G14:Gh} {nn:Int},aD [9,17] G13 G14→fU G14 aB→jI G14 aN []→0≤nn→nn≤11 →
   GD B c (WO (jA (bodyOf (topS 73)) 5)) (n9 (jA (bodyOf (topS 73)) 5)) (zL aS aB σ.a aR) (eE (ws B c bJ eN 54 ((bodyOf (topS 73)).drop 6) (bA Q)) (bA Q)) nn (sP (some (.ref aS)) (some (.ref aB)) (some (.ref σ.a)) (some (.ref aN)) (some (.ref aR)) none none none none none none none none) G14:=by
  intro G14 nn k14 Bx14 N14 hn0 hn1
  have H14:=H13.keep k14
  refine ⟨hn0,by exact kP hn1 (by decide),fun I hI=>?_,?_,?_⟩
  ·have kI:aD [] G14 (upd G14 I ⟨(9,0),.eG 0 nn⟩):=(aD.refl _ _).fresh hI
   exact .mk rows1 σ3 [] aN none none none none none none none (H14.keep kI) (Bx14.keep kI) (N14.keep kI) (by exact sZ _) (by simp) (by exact (b5 hlr.symm)) (by exact aG (b5 hlr) (ble rfl)) hb0
  ·rintro J' I k tk m' G' hJ hIn hk ⟨rws,σ',nest,aN',o1,o2,o3,o4,o5,o6,o7,H,Bx,N,hlt,hnz,h4,h10,ea'⟩ hI
   have kI:aD [9] G' (upd G' I ⟨(9,0),.eG (k+1:Nat) (nn - (k+1:Nat))⟩):=(aD.refl _ _).turn hI rfl
   have H5':=H.keep kI
   have Bx5':=Bx.keep kI
   have N5':=N.turn (x:=⟨(9,0),.eG (k+1:Nat) (nn - (k+1:Nat))⟩) hI
   have hI5:upd G' I ⟨(9,0),.eG (k+1:Nat) (nn - (k+1:Nat))⟩ I=some ⟨(9,0),.eG (k+1:Nat) (nn - (k+1:Nat))⟩:=aI _ _ _
   generalize upd G' I ⟨(9,0),.eG (k+1:Nat) (nn - (k+1:Nat))⟩=G5 at *
   refine jT (iQ oo rfl (gG X oo aJ ?_))
   refine iZ X oo aJ hsc ["deed","spot"] (by kernel_rfl!) (by kernel_rfl!) ?_
   intro v1
   refine aQ hb (jC X Bx5' (by decide) fun de td G6 hd0 hd8 Bx6 k6=>?_)
   have H6:=H5'.keep k6
   have N6:=N5'.keep k6
   have hI6:=k6 _ _ hI5 rfl
   have stage:∀ {G7:Gh} {ts:Tok},LI G7 aR rws σ' (4+3 * k)→fU G7 aB→jI G7 aN' nest→G7 I=some ⟨(9,0),.eG (k+1:Nat) (nn - (k+1:Nat))⟩ →
     ws B c bJ eN 59 ((n9 (jA (bodyOf (topS 73)) 5)).drop 1) (lP J' (eE (ws B c bJ eN 54 ((bodyOf (topS 73)).drop 6) (bA Q)) (bA Q))) (sP (some (.ref aS)) (some (.ref aB)) (some (.ref σ.a)) (some (.ref aN')) (some (.ref aR)) (some (.int k tk)) (some (.int de td)) (some (.int (spotOf nest:Nat) ts)) o4 o5 o6 o7 none) G7:=by
    intro G7 ts H7 Bx7 N7 hI7
    refine YX X oo aJ hsc hb ⟨H7,Bx7,N7,hI7,hlt,hnz,h4,h10,ea',rfl⟩ (by exact acV hn1 hk) fun {G8 rws' σ4 nest' aN4 q1 q2 q3 q4} S8=>?_
    refine aY S8.ea ?_
    refine aQ hb (Z3 X S8.H S8.Bx S8.N S8.lt (by have:=S8.nz; exact aG this (ble rfl)) fun σ5 G9 H9 Bx9 ea9 k9=>?_)
    refine sb S8.ea ?_
    exact hJ _ _ (.mk rws' σ5 nest' aN4 _ _ _ _ _ _ _ H9 Bx9 (S8.N.keep k9) S8.lt S8.nz S8.r4 S8.mF (ea9.trans S8.ea)) (k9 _ _ S8.hI rfl)
   refine j0 N6.ex fun tn' nv' hn9 hn1 hN hNI=>?_
   refine fP (9,4) (by simp) fun l0 G7 k7 hl0 h02=>?_
   have hN2:=k7 _ _ hN (by refine sb hn1 ?_; rfl)
   have H7:=H6.keep k7
   have Bx7:=Bx6.keep k7
   have N7:=N6.keep k7
   have hI7:=k7 _ _ hI6 rfl
   refine yC hN2 h02 hNI (ms:=[]) trivial hb rfl ?_
   induction nest using List.casesOn with
   | nil =>
    intro ts
    refine iF (9,1) (by exact bY _ _) fun x8 Gx8 kf hx8 gx8=>?_
    refine gQ.mk gx8 rfl rfl ?_
    exact stage (H7.keep kf) (Bx7.keep kf) (N7.keep kf) (kf _ _ hI7 rfl)
   | cons i r =>
    induction nv' using List.casesOn with
    | nil=>exact hNI.elim
    | cons v vs =>
     obtain ⟨⟨ti,rfl⟩,hNI'⟩:=hNI
     have e1:(!decide (nats (i::r)=[]))=true:=by exact rfl
     refine sb e1 ?_
     refine ⟨fun zz=>cX hN2 (by decide) rfl ?_⟩
     refine iF (9,1) (by exact bY _ _) fun x8 Gx8 kf hx8 gx8=>?_
     refine gQ.mk gx8 rfl rfl ?_
     exact stage (H7.keep kf) (Bx7.keep kf) (N7.keep kf) (kf _ _ hI7 rfl)
  ·rintro I m' G' hIn ⟨rws,σ',nest,aN',o1,o2,o3,o4,o5,o6,o7,H,Bx,N,hlt,hnz,h4,h10,ea'⟩ ⟨y,hy⟩
   have kE:aD [9] G' (era G' I):=uB hy rfl
   exact YY X oo aJ hsc hb (H.keep kE) (Bx.keep kE) h4 ea' fun zz zz=>hQ _
 have Nst13:jI G13 aN []:=⟨(9,3),[],by simp,rfl,gN13,trivial⟩
 refine ahK hS (by exact aG hz (ble rfl)) fun t20=>?_
 refine cV (fun zz=>?_) (fun zz=>?_)
 ·exact fun t21=>⟨5,t21,rfl,loop (aD.refl _ _) Bx13 Nst13 (by decide) (by decide)⟩
 ·intro t21 t22 t23
  refine fP (9,4) (by exact bY _ _) fun l5 Gl5 kf5 hl5' gl5=>?_
  intro t24
  refine aQ hb (jC X (Bx13.keep kf5) (by decide) fun j tj G14 hj0 hj Bx14 k14=>?_)
  have k1314:aD [17] G13 G14:=kf5.mono.trans k14
  have hl14:=k14 _ _ gl5 (by rfl)
  have hj3:j=0∨j=1∨j=2:=by exact acU hj0 hj
  rcases hj3 with rfl | rfl | rfl
  ·exact ⟨fun zz=>cX hl14 (by decide) rfl ⟨6,t21,rfl,loop k1314.mono Bx14 (Nst13.keep k1314) (by decide) (by decide)⟩⟩
  ·exact ⟨fun zz=>cX hl14 (by decide) rfl ⟨8,t22,rfl,loop k1314.mono Bx14 (Nst13.keep k1314) (by decide) (by decide)⟩⟩
  ·exact ⟨fun zz=>cX hl14 (by decide) rfl ⟨11,t23,rfl,loop k1314.mono Bx14 (Nst13.keep k1314) (by decide) (by decide)⟩⟩
end
theorem aX.of {vs:List Value} {ns:List Int} (h:IntsAre vs ns):aX vs ns:=by
 induction h with
 | nil=>trivial
 | cons n t h ih=>exact ⟨⟨t,rfl⟩,ih⟩
theorem cH.none {prog:Program} {w:World} {h:Heap}:cH prog w h h [] id fun zz=>none :=
 ⟨fun zz zz e=>e,fun zz zz e=>(by exact bM e),fun zz zz e=>(by exact bM e),fun zz zz e=>(by exact bM e),fun zz zz zz zz e=>(by exact bM e),fun zz zz e=>(by exact bM e)⟩
theorem JD {K:Frag} {l a:Addr} {o:Obj}:(K++[(l,o)]).lookup a=(match K.lookup a with
  | some x=>some x
  | none=>if a=l then some o else none):=by
 induction K with
 | nil =>
  show List.lookup a [(l,o)]=_
  refine sb j5 ?_
  by_cases e:a=l
  ·simp [e]
  ·have e':(a==l)=false:=by exact decide_eq_false ‹_›
   refine sb e' (sb (if_neg e) ?_); rfl
 | cons p K ih =>
  obtain ⟨b,x⟩:=p
  refine sb mR (sb j5 (sb j5 ?_))
  by_cases e:(a==b)=true
  ·simp [e]
  ·simp [e,ih]
set_option tactic.hygienic true in
theorem X4 {K:Frag} {l:Addr} {o:Obj} {h:Heap} (X:K.In h) (ho:h.get? l=some o):(Frag.In (K++[(l,o)]) h)∧∀ h',Frag.In (K++[(l,o)]) h'→h'.get? l=some o:=by
 constructor
 ·intro a x e
  rw [JD] at e
  split at e
  next y hy=>obtain rfl:=bO e; exact X a _ hy
  ·split at e
   next q=>obtain rfl:=bO e; subst q; exact ho
   ·exact bM e
 ·intro h' X'
  refine X' l o ?_
  refine sb JD ?_
  split
  next y hy=>have:=X l y hy; rw [ho] at this; obtain rfl:=bO this; rfl
  ·exact sb (if_pos rfl) rfl
set_option tactic.hygienic true in
theorem ak0 {prog:Program} {w:World} {K:Frag} {p:Program} {loose:List Str} {mean:ExcName→Option Value} {mg mb:Str→Option Value} {s₁:Shared} {fa l:Addr} {vs:List Value} {ns:List Int} {c:ClaimW} {cl:Str→Option Addr} {mm:ExcName→Option Value} {args:List WData}
  (KX:K.In s₁.heap) (T:Top p loose mean mg mb s₁.heap) (hg:s₁.gens=#[]) (hmg:mg "law"=some (.ref fa)) (hk:nsIn K mainGlobals "law"=some (some (.ref 867))) (hl:s₁.heap.IsList l vs.toArray) (hI:IntsAre vs ns) (hn:¬(63:Int)<(ns.length:Int)) (hX:∀ o,Txt w (K++[(l,o)]))
  (c1:∀ cls,c.raises args cls=false) (c2:∃ d,c.post args d args=true∧∀ h,ReadsW c.records cl h (.bool true) d []) :
  wpAny (model prog w) callerA (call (.ref fa) [.ref l]) (fun v s'=>GoodWG c cl mm args s₁ (.ok (.ret v)) s') (fun e s'=>GoodWG c cl mm args s₁ (.error e) s') s₁:=by
 have e:=mg_of KX T.g hk
 rw [hmg] at e
 cases e
 refine c7 hl fun o ho hcls zq2=>?_
 obtain ⟨n,hd⟩:=zq2
 obtain ⟨X',hK'⟩:=X4 KX ho
 have hlen:=hI.length
 refine aV c2 fun d c3 c4=>?_
 refine enter_call (codeAny_mono (Z1 (B:=⟨prog,w,K++[(l,o)],p,loose,mean,mg,mb⟩) (G:=fun zz=>none) (hX o) (aS:=l) (ss:=vs) (ns:=ns) (fun h Xh=>⟨o,hK' h Xh,hcls,n,hd⟩) (aX.of hI) (by exact aG (b5 hlen) ((mQ.mp (Int.not_lt.mp hn)))) (Q:=fun r zz=>r=.bool true) (fun zz=>rfl) callerA s₁.heap s₁.heap [] id s₁ (fun r s'=>r=.bool true∧(∀ b o,s₁.heap.get? b=some o→s'.heap.get? b=some o)∧s'.os=s₁.os∧s'.gens=s₁.gens) (fun zz zz=>False)
  (below_caller _) (fun zz zz e=>e) X' T rfl (by decide) (by decide) cH.none (fun b hb=>by cases hb) (bZ _) (fun r s' own' G' D zz hgens zz hos hr=>⟨hr,D.keep,hos,hgens⟩) fun zz zz zz zz zz zz zz zz zz zz zz h=>h.elim) fun res s' h=>?_)
 split at h
 next v s' =>
  refine EH h fun zq1 hk hos hgens=>?_
  subst zq1
  exact ⟨.inl ⟨_,d,[],rfl,c1,c4 _,c3,fun zz=>⟨vL,fun a ha=>by cases ha⟩⟩,.of_keep hk,hos,.of_eq (hgens.trans hg)⟩
 ·exact h.elim
 ·exact h.elim
noncomputable def rZ (K:Frag) (f:Addr):Obj:=(K.lookup f).getD {cls:=.none,data:=.freed}
noncomputable def fdOf (K:Frag) (f:Addr):FuncData:=match (rZ K f).data with
 | .func fd=>fd
 | _=>default
noncomputable def A1 (K:Frag) (f:Addr):Array DictEntry:=match (rZ K f).data with
 | .dict es _=>es
 | _=>#[]
noncomputable def RN (K:Frag) (f:Addr):Nat:=match (rZ K f).data with
 | .dict _ n=>n
 | _=>0
noncomputable def xO:Value→Str
 | .str s _=>s
 | _=>""
noncomputable def MQ:Value→Tok
 | .str _ t=>t
 | _=>0
noncomputable def wK:Option (Option Value)→Bool
 | some none=>true
 | _=>false
theorem IC {o:Option (Option Value)} (h:wK o=true):o=some none:=by
 unfold wK at h
 split at h
 ·rfl
 ·cases h
theorem ak7 {K:Frag} {f:Addr} {params:Arguments} {body:List Stmt} {scope:Scope} {dV:Value} {gl:List (Str×Value)}
  (look:K.lookup f=some ⟨(rZ K f).cls,(rZ K f).dict,.func (fnOf (fdOf K f).name (fdOf K f).qualname params body scope dV (fdOf K f).kwdefaults (fdOf K f).doc (fdOf K f).pyModule (fdOf K f).annotations (fdOf K f).code (fdOf K f).closureTuple),(rZ K f).slots⟩) (hc:codeIn K (fdOf K f).code (fdOf K f).qualname=true)
  (a:(scope.isCoroutine||scope.isGenerator||!(scope.kind==.function)||!decide ((scope.names.map (·.1)).Nodup)||!decide ((cellsFrom 0 scope.names []).map (·.1)).Nodup)=false)
  (b:(scope.names.all fun y=>!(y.1==("__debug__":Str))&&!(y.1==("__classdict__":Str))&&!(y.2==NameKind.free))=true)
  (g:(gl.all fun p=>scope.names.lookup p.1==some .globalImplicit&&(nsIn K mainGlobals p.1==some (some p.2)||(nsIn K mainGlobals p.1==some none&&bootBuiltins p.1==some p.2&&!(p.1==("__name__":Str)))))=true) :
  FnAt K f params body scope dV gl:=by
 simp only [sR,Bool.not_eq_false',decide_eq_true_eq,beq_iff_eq] at a
 refine ⟨⟨_,_,_,_,_,_,_,_,_,_,_,look,hc⟩,a.1.1.1.1,a.1.1.1.2,a.1.1.2,a.1.2,a.2,b,fun x v hx=>?_⟩
 have:=gJ.mp g (x,v) hx
 simp only [jD,Bool.or_eq_true,beq_iff_eq,lJ] at this
 refine ⟨this.1,this.2.imp id fun q=>⟨q.1.1,q.1.2,?_⟩⟩
 have h3:=q.2
 intro e; subst e; revert h3; decide
theorem ak1 {K:Frag} {C:Addr} {flds:List Str} (pg:plainGet K C ""=true) (h1:findIn K (.ref C) "__setattr__"=some (some (.builtin "object.__setattr__"))) (h2:hasDictIn K C=true) (h3:plainOver K C=true) (h4:(flds.all fun n=>wK (findIn K (.ref C) n))=true):ClsAt K C flds :=
 ⟨fun zz=>pg,h1,h2,h3,fun n hn=>IC (gJ.mp h4 n hn)⟩
theorem IY {P:Params}:∀ {l:List DictEntry},l.map (fun e=>(e.key,e.hash))=l.map (fun e=>(.str (xO e.key) (MQ e.key),nZ P (xO e.key)))→KeysLit P l
 | [],_=>trivial
 | e::l,h=>by
  rw [cK,cK,OV,Prod.mk.injEq] at h
  exact ⟨⟨_,_,h.1.1,h.1.2⟩,IY h.2⟩
theorem ak2 {w:World} {K:Frag} {a:Addr} (h:K.lookup a=some ⟨.type "dict",none,.dict (A1 K a) (RN K a),#[]⟩) (hk:(A1 K a).toList.map (fun e=>(e.key,e.hash))=(A1 K a).toList.map (fun e=>(.str (xO e.key) (MQ e.key),nZ w.params (xO e.key)))):pK w K a:=⟨_,_,h,IY hk⟩
theorem ak5 {K:Frag} (h:K.lookup 59=some rE) (g1:specialIn K (.ref 59) "__call__"=some (some (.builtin "type.__call__"))) (g2:instIn K (.ref 59) (.type "type")=some true) (g3:mroIn K 59 (.ref 59)=some true) (g4:mroIn K 59 (.type "ValueError")=some true) (g5:findIn K (.ref 59) "__init__"=some (some (.ref 56))) (g6:typeIn K (.ref 56)=some (.type "function")):ExcAt K:=⟨h,g1,g2,g3,g4,g5,g6⟩
theorem ak6 {K:Frag} {C:Addr} {flds:List Str} (h1:findIn K (.ref C) "__setattr__"=some (some (.builtin "object.__setattr__"))) (h2:hasDictIn K C=true) (h3:((clsIn K C).any fun cd=>rF cd.mro)=true) (h4:findIn K (.ref C) "__getattribute__"=some (some (.builtin "BaseException.__getattribute__"))) (h5:findIn K (.ref C) "__getattr__"=some none) (h6:(flds.all fun n=>wK (findIn K (.ref C) n))=true):oB K C flds :=
 ⟨h1,h2,h3,h4,h5,fun n hn=>IC (gJ.mp h6 n hn)⟩
theorem akA {K:Frag} (h:(rP.all fun f=>keepIn K (.ref f))=true):∀ f∈rP,keepIn K (.ref f)=true:=gJ.mp h
end Mine
namespace Mine.top
theorem tw10005945817407372193:0=0:=rfl
theorem tw10008474027749305400:0=0:=rfl
theorem tw10090393231696489298:0=0:=rfl
theorem tw10252623693936335467:0=0:=rfl
theorem tw10276331973627342096:0=0:=rfl
theorem tw10361075674979980167:0=0:=rfl
theorem tw10367675484739944270:0=0:=rfl
theorem tw10399464001100048223:0=0:=rfl
theorem tw10404823597219466188:0=0:=rfl
theorem tw1040915598704419856:0=0:=rfl
theorem tw10512489437642701289:0=0:=rfl
theorem tw1054488965285714247:0=0:=rfl
theorem tw10548783162686979305:0=0:=rfl
theorem tw10574840078274726829:0=0:=rfl
theorem tw10579768621468169598:0=0:=rfl
theorem tw10643057118474118344:0=0:=rfl
theorem tw10657950659306570408:0=0:=rfl
theorem tw1068965626710143233:0=0:=rfl
theorem tw10694878333477680388:0=0:=rfl
theorem tw10768140376307724812:0=0:=rfl
theorem tw10783980745131425670:0=0:=rfl
theorem tw10801874191123338550:0=0:=rfl
theorem tw10836530967397901330:0=0:=rfl
theorem tw10871174231137468428:0=0:=rfl
theorem tw10885322118463539834:0=0:=rfl
theorem tw1088946173253831356:0=0:=rfl
theorem tw10987319290404115282:0=0:=rfl
theorem tw10996937224433265937:0=0:=rfl
theorem tw11045010717311733409:0=0:=rfl
theorem tw11053662475850362967:0=0:=rfl
theorem tw1107088416671253978:0=0:=rfl
theorem tw11072019736110318841:0=0:=rfl
theorem tw11116745826364501430:0=0:=rfl
theorem tw11133666699803404755:0=0:=rfl
theorem tw11145643937294416527:0=0:=rfl
theorem tw11189890337720088615:0=0:=rfl
theorem tw11199532085631943738:0=0:=rfl
theorem tw1123975283337734383:0=0:=rfl
theorem tw11240886729373846589:0=0:=rfl
theorem tw1124271682379634556:0=0:=rfl
theorem tw11263669390164206178:0=0:=rfl
theorem tw11308672355268902897:0=0:=rfl
theorem tw11334415319851112604:0=0:=rfl
theorem tw11377482038585738817:0=0:=rfl
theorem tw11383000496634168614:0=0:=rfl
theorem tw11384800866962632227:0=0:=rfl
theorem tw1139600151236580504:0=0:=rfl
theorem tw1142415686869020238:0=0:=rfl
theorem tw1142465760834251562:0=0:=rfl
theorem tw11430207588045935325:0=0:=rfl
theorem tw11466170419677230873:0=0:=rfl
theorem tw11468358511172941013:0=0:=rfl
theorem tw11470690223818410786:0=0:=rfl
theorem tw1147548669246485465:0=0:=rfl
theorem tw11542710104232473196:0=0:=rfl
theorem tw11546936639936008217:0=0:=rfl
theorem tw11561827921928013385:0=0:=rfl
theorem tw11582926029173025856:0=0:=rfl
theorem tw11592465598724292549:0=0:=rfl
theorem tw11593399256984752444:0=0:=rfl
theorem tw11620634932572840514:0=0:=rfl
theorem tw1169771345039838236:0=0:=rfl
theorem tw11735923915801401282:0=0:=rfl
theorem tw11760055953109336660:0=0:=rfl
theorem tw11765434788231831023:0=0:=rfl
theorem tw11779653239440661071:0=0:=rfl
theorem tw11828478481110319688:0=0:=rfl
theorem tw11842451847925006096:0=0:=rfl
theorem tw11858546649754279707:0=0:=rfl
theorem tw11922380849998532372:0=0:=rfl
theorem tw1195175773429642966:0=0:=rfl
theorem tw11960245374511038805:0=0:=rfl
theorem tw11982747722937265360:0=0:=rfl
theorem tw12080426169559351053:0=0:=rfl
theorem tw12094960947251128927:0=0:=rfl
theorem tw1209819496270969543:0=0:=rfl
theorem tw12117888159696746259:0=0:=rfl
theorem tw12182655422080760471:0=0:=rfl
theorem tw12210559395081530917:0=0:=rfl
theorem tw12256363837256957063:0=0:=rfl
theorem tw12294689066310865016:0=0:=rfl
theorem tw12342655685612074800:0=0:=rfl
theorem tw12376051458212225564:0=0:=rfl
theorem tw12379415707883124570:0=0:=rfl
theorem tw12379513385665665876:0=0:=rfl
theorem tw12385144161495827662:0=0:=rfl
theorem tw12392516345856041104:0=0:=rfl
theorem tw12425085872883035938:0=0:=rfl
theorem tw12483720753089274532:0=0:=rfl
theorem tw12507017104952529904:0=0:=rfl
theorem tw12535971307161669396:0=0:=rfl
theorem tw12540527436937284434:0=0:=rfl
theorem tw12545222027267286695:0=0:=rfl
theorem tw12554540806306477360:0=0:=rfl
theorem tw12564220515667953714:0=0:=rfl
theorem tw12603656398198563500:0=0:=rfl
theorem tw12609604535291364189:0=0:=rfl
theorem tw12622177474791663080:0=0:=rfl
theorem tw12625694945159114441:0=0:=rfl
theorem tw12643491718579748851:0=0:=rfl
theorem tw12643520174271941249:0=0:=rfl
theorem tw12718909917080609646:0=0:=rfl
theorem tw12725264436868645240:0=0:=rfl
theorem tw12756434147638494346:0=0:=rfl
theorem tw1275901062530889299:0=0:=rfl
theorem tw12762922103008790111:0=0:=rfl
theorem tw12777601194060584777:0=0:=rfl
theorem tw12787338502077490372:0=0:=rfl
theorem tw12819366960792805191:0=0:=rfl
theorem tw12831713509287655171:0=0:=rfl
theorem tw1284575025550258836:0=0:=rfl
theorem tw12879618353801967718:0=0:=rfl
theorem tw12894197372075662830:0=0:=rfl
theorem tw1293289543672728842:0=0:=rfl
theorem tw12958502747184954254:0=0:=rfl
theorem tw1297684725254868899:0=0:=rfl
theorem tw13001836021917841797:0=0:=rfl
theorem tw13012589842206080548:0=0:=rfl
theorem tw13074778936371407668:0=0:=rfl
theorem tw13090165191389475591:0=0:=rfl
theorem tw13120753694373217308:0=0:=rfl
theorem tw1312780250039628139:0=0:=rfl
theorem tw13134186033006778460:0=0:=rfl
theorem tw13160728816969591200:0=0:=rfl
theorem tw13177472732611162249:0=0:=rfl
theorem tw13187519465064655849:0=0:=rfl
theorem tw13191473780850816973:0=0:=rfl
theorem tw1321871150748368714:0=0:=rfl
theorem tw13223034962123697568:0=0:=rfl
theorem tw13261893007816960818:0=0:=rfl
theorem tw13272337422414781067:0=0:=rfl
theorem tw13290321428070320777:0=0:=rfl
theorem tw132903981291199154:0=0:=rfl
theorem tw13307591127769906961:0=0:=rfl
theorem tw13326734554550294991:0=0:=rfl
theorem tw13345470168829271861:0=0:=rfl
theorem tw13359135706311490777:0=0:=rfl
theorem tw13369591340354186047:0=0:=rfl
theorem tw13370185576492129568:0=0:=rfl
theorem tw13370750898655102155:0=0:=rfl
theorem tw13385244156195431271:0=0:=rfl
theorem tw13385996262653078937:0=0:=rfl
theorem tw13432635357386499347:0=0:=rfl
theorem tw13500427573557490136:0=0:=rfl
theorem tw13510920462097384806:0=0:=rfl
theorem tw13549259019975226677:0=0:=rfl
theorem tw13710211086531791108:0=0:=rfl
theorem tw13713866747541496747:0=0:=rfl
theorem tw13799840507378627052:0=0:=rfl
theorem tw13830271770371739309:0=0:=rfl
theorem tw13852830345959847167:0=0:=rfl
theorem tw13889309363888878346:0=0:=rfl
theorem tw13890846271309207196:0=0:=rfl
theorem tw13896958669275611876:0=0:=rfl
theorem tw13902025155065610156:0=0:=rfl
theorem tw1394568958698188020:0=0:=rfl
theorem tw13968125046926948103:0=0:=rfl
theorem tw13985988839938425345:0=0:=rfl
theorem tw13994475860397038760:0=0:=rfl
theorem tw14120148312427719287:0=0:=rfl
theorem tw14145802354927516647:0=0:=rfl
theorem tw14235281626263879747:0=0:=rfl
theorem tw14277827659066580250:0=0:=rfl
theorem tw14282377253939248939:0=0:=rfl
theorem tw14371913498598963198:0=0:=rfl
theorem tw14372152842798730730:0=0:=rfl
theorem tw14390669486469195807:0=0:=rfl
theorem tw14450715343900746980:0=0:=rfl
theorem tw14453841093610474573:0=0:=rfl
theorem tw14466935161476858967:0=0:=rfl
theorem tw14537839394382259888:0=0:=rfl
theorem tw14562072457839527476:0=0:=rfl
theorem tw14705559076539443318:0=0:=rfl
theorem tw14707807475535933493:0=0:=rfl
theorem tw14724332232928298890:0=0:=rfl
theorem tw14762295962024373759:0=0:=rfl
theorem tw14789260269991461300:0=0:=rfl
theorem tw14826035006057030972:0=0:=rfl
theorem tw1486479319815781832:0=0:=rfl
theorem tw14901070454687303710:0=0:=rfl
theorem tw14917401599646851644:0=0:=rfl
theorem tw1492452104121835379:0=0:=rfl
theorem tw15003358760713899574:0=0:=rfl
theorem tw15073315481182737699:0=0:=rfl
theorem tw15092371282622821202:0=0:=rfl
theorem tw15151295755643613229:0=0:=rfl
theorem tw15166127791298437107:0=0:=rfl
theorem tw15212760480394562756:0=0:=rfl
theorem tw1522322319653140107:0=0:=rfl
theorem tw15234444972351076034:0=0:=rfl
theorem tw15240379268576122478:0=0:=rfl
theorem tw15262977503361262276:0=0:=rfl
theorem tw15286249088069653756:0=0:=rfl
theorem tw15299407806266782574:0=0:=rfl
theorem tw15344665111329105020:0=0:=rfl
theorem tw15353528756566410042:0=0:=rfl
theorem tw15362295582089109014:0=0:=rfl
theorem tw1536312445118062077:0=0:=rfl
theorem tw15375627381283404121:0=0:=rfl
theorem tw15451780782824253742:0=0:=rfl
theorem tw15506382734810221985:0=0:=rfl
theorem tw15508944514630427714:0=0:=rfl
theorem tw1551491737661789689:0=0:=rfl
theorem tw15542334942015070624:0=0:=rfl
theorem tw15569959144833144457:0=0:=rfl
theorem tw1559226430018442191:0=0:=rfl
theorem tw15638586536077026902:0=0:=rfl
theorem tw15646934709686841381:0=0:=rfl
theorem tw15687709949711836451:0=0:=rfl
theorem tw15690355392615275366:0=0:=rfl
theorem tw15740088241188596515:0=0:=rfl
theorem tw15743347864482560488:0=0:=rfl
theorem tw15744752440731449612:0=0:=rfl
theorem tw15799541711010589177:0=0:=rfl
theorem tw15814973770769717757:0=0:=rfl
theorem tw15823732540823425666:0=0:=rfl
theorem tw15836908640704697380:0=0:=rfl
theorem tw1584292188352093569:0=0:=rfl
theorem tw1585457916280141200:0=0:=rfl
theorem tw15860264024139754761:0=0:=rfl
theorem tw15874363893724204672:0=0:=rfl
theorem tw15918733279669447828:0=0:=rfl
theorem tw1592229195962567352:0=0:=rfl
theorem tw15976228082101565994:0=0:=rfl
theorem tw15985961358823992270:0=0:=rfl
theorem tw16004416686337608138:0=0:=rfl
theorem tw16007503158450755388:0=0:=rfl
theorem tw1601500998369573665:0=0:=rfl
theorem tw16044733080236030384:0=0:=rfl
theorem tw16068562728529669930:0=0:=rfl
theorem tw16104615914030681952:0=0:=rfl
theorem tw16155163154822807229:0=0:=rfl
theorem tw1617357707322924660:0=0:=rfl
theorem tw16174758807025615021:0=0:=rfl
theorem tw16196420915677631385:0=0:=rfl
theorem tw16240068400928781132:0=0:=rfl
theorem tw16258771989139608452:0=0:=rfl
theorem tw16273406610938067001:0=0:=rfl
theorem tw16281582537960229878:0=0:=rfl
theorem tw16283790390274638013:0=0:=rfl
theorem tw16342770487823414484:0=0:=rfl
theorem tw16357309143852133390:0=0:=rfl
theorem tw16414630628198896168:0=0:=rfl
theorem tw16415559393655328363:0=0:=rfl
theorem tw16420938139371093754:0=0:=rfl
theorem tw16439428074185983240:0=0:=rfl
theorem tw16533540343700365917:0=0:=rfl
theorem tw16541100652227675460:0=0:=rfl
theorem tw16542083797698202722:0=0:=rfl
theorem tw16550210197400561554:0=0:=rfl
theorem tw16597617366809209970:0=0:=rfl
theorem tw16598799759364053327:0=0:=rfl
theorem tw16615598289260009181:0=0:=rfl
theorem tw16656781636731879198:0=0:=rfl
theorem tw16659674399394625376:0=0:=rfl
theorem tw16663787254893796032:0=0:=rfl
theorem tw1670607248958778201:0=0:=rfl
theorem tw16713831800681072344:0=0:=rfl
theorem tw16721989186581611170:0=0:=rfl
theorem tw16734371015571099844:0=0:=rfl
theorem tw16736118626332596326:0=0:=rfl
theorem tw16753658254399821694:0=0:=rfl
theorem tw1676862907878916244:0=0:=rfl
theorem tw16782997733028217545:0=0:=rfl
theorem tw16793365374058956912:0=0:=rfl
theorem tw16800595933775061595:0=0:=rfl
theorem tw16809779246217341487:0=0:=rfl
theorem tw16821654228018055803:0=0:=rfl
theorem tw16839680983989633610:0=0:=rfl
theorem tw16844067456194695469:0=0:=rfl
theorem tw16866024460163772082:0=0:=rfl
theorem tw16878204669230926818:0=0:=rfl
theorem tw16896751376397280635:0=0:=rfl
theorem tw16900427199656544559:0=0:=rfl
theorem tw1697544655201012999:0=0:=rfl
theorem tw16975562568813534335:0=0:=rfl
theorem tw16982378080980825192:0=0:=rfl
theorem tw1706793611546318481:0=0:=rfl
theorem tw17089494485692210459:0=0:=rfl
theorem tw17095047744144531442:0=0:=rfl
theorem tw17135812771915316397:0=0:=rfl
theorem tw17148328362384785201:0=0:=rfl
theorem tw17157282023139344501:0=0:=rfl
theorem tw17160434163424456010:0=0:=rfl
theorem tw17176029603704830031:0=0:=rfl
theorem tw1717825165581474212:0=0:=rfl
theorem tw17219337458794519322:0=0:=rfl
theorem tw17240160907184977327:0=0:=rfl
theorem tw17273134470429262220:0=0:=rfl
theorem tw1732150942055357024:0=0:=rfl
theorem tw17336350906216195740:0=0:=rfl
theorem tw17346259052997144950:0=0:=rfl
theorem tw1736530178072539846:0=0:=rfl
theorem tw17391775962083533515:0=0:=rfl
theorem tw17434308400759680031:0=0:=rfl
theorem tw17470836177267949868:0=0:=rfl
theorem tw17474498911051797155:0=0:=rfl
theorem tw17486766287000646611:0=0:=rfl
theorem tw17492772389151264855:0=0:=rfl
theorem tw17494340499879156831:0=0:=rfl
theorem tw17545328352263074274:0=0:=rfl
theorem tw17555251805378815213:0=0:=rfl
theorem tw17576949682797635024:0=0:=rfl
theorem tw17576975557295073227:0=0:=rfl
theorem tw17582957951858275007:0=0:=rfl
theorem tw17586783052614405119:0=0:=rfl
theorem tw17709558473723601244:0=0:=rfl
theorem tw17746469131012936561:0=0:=rfl
theorem tw17774833976778514315:0=0:=rfl
theorem tw17781115878593249900:0=0:=rfl
theorem tw17783859843131274014:0=0:=rfl
theorem tw17785818512168800811:0=0:=rfl
theorem tw17788931634197215145:0=0:=rfl
theorem tw17794366733547915435:0=0:=rfl
theorem tw17795014544551873601:0=0:=rfl
theorem tw17825272241439330880:0=0:=rfl
theorem tw17828378304095215089:0=0:=rfl
theorem tw17921175469725437805:0=0:=rfl
theorem tw17953984050398360512:0=0:=rfl
theorem tw17964300760807480141:0=0:=rfl
theorem tw18016941796951652274:0=0:=rfl
theorem tw1803303928475200142:0=0:=rfl
theorem tw1805163160381243805:0=0:=rfl
theorem tw18062624165398249997:0=0:=rfl
theorem tw18064794426631996164:0=0:=rfl
theorem tw18085063709408624843:0=0:=rfl
theorem tw18086089286151905521:0=0:=rfl
theorem tw1814787853859245837:0=0:=rfl
theorem tw18177719399980262173:0=0:=rfl
theorem tw18186074749648716422:0=0:=rfl
theorem tw18200808041648558556:0=0:=rfl
theorem tw18229784292405043182:0=0:=rfl
theorem tw18236624570336363585:0=0:=rfl
theorem tw18245740138792012028:0=0:=rfl
theorem tw18289109515434150305:0=0:=rfl
theorem tw18326957874037197240:0=0:=rfl
theorem tw18330144715369815205:0=0:=rfl
theorem tw18371284783138465269:0=0:=rfl
theorem tw18394268562011335289:0=0:=rfl
theorem tw1843344800811705456:0=0:=rfl
theorem tw1869187583165140508:0=0:=rfl
theorem tw1880918794155911695:0=0:=rfl
theorem tw1886144042066472794:0=0:=rfl
theorem tw1897025099450329940:0=0:=rfl
theorem tw1950521091445644615:0=0:=rfl
theorem tw196536941598035525:0=0:=rfl
theorem tw1974259917200649262:0=0:=rfl
theorem tw2029088862249889922:0=0:=rfl
theorem tw2047500489365003465:0=0:=rfl
theorem tw2063449620868658059:0=0:=rfl
theorem tw207392147570674490:0=0:=rfl
theorem tw2145171640123136144:0=0:=rfl
theorem tw216529984938456764:0=0:=rfl
theorem tw2218668502564051296:0=0:=rfl
theorem tw2220570432770164149:0=0:=rfl
theorem tw2249866254991847471:0=0:=rfl
theorem tw2287362676942042354:0=0:=rfl
theorem tw23087011456773342:0=0:=rfl
theorem tw2365566498512967660:0=0:=rfl
theorem tw2417791160451022400:0=0:=rfl
theorem tw2422214840401454511:0=0:=rfl
theorem tw243287103678006315:0=0:=rfl
theorem tw2446451932059125521:0=0:=rfl
theorem tw2446586112883488508:0=0:=rfl
theorem tw2464713573024523455:0=0:=rfl
theorem tw2506305409684761478:0=0:=rfl
theorem tw2511388062720753356:0=0:=rfl
theorem tw2544169868661182894:0=0:=rfl
theorem tw2565563351968343141:0=0:=rfl
theorem tw2580922434103091657:0=0:=rfl
theorem tw2581206410525282061:0=0:=rfl
theorem tw2617181576586992344:0=0:=rfl
theorem tw2617719716777270872:0=0:=rfl
theorem tw2619622883677149074:0=0:=rfl
theorem tw2630061898475652689:0=0:=rfl
theorem tw2670627174450433442:0=0:=rfl
theorem tw2675166985342186458:0=0:=rfl
theorem tw2683898200743741643:0=0:=rfl
theorem tw2685745773621513544:0=0:=rfl
theorem tw2707679213066786127:0=0:=rfl
theorem tw2712389131950775728:0=0:=rfl
theorem tw2727672472851901052:0=0:=rfl
theorem tw2731995056826638727:0=0:=rfl
theorem tw2732273902793177162:0=0:=rfl
theorem tw2752453847809088016:0=0:=rfl
theorem tw2758071753971750899:0=0:=rfl
theorem tw2770239361232196585:0=0:=rfl
theorem tw2782073688633401757:0=0:=rfl
theorem tw2809488002615124206:0=0:=rfl
theorem tw2812155379371279736:0=0:=rfl
theorem tw283044589724301:0=0:=rfl
theorem tw2859833716702649255:0=0:=rfl
theorem tw2867133514656366558:0=0:=rfl
theorem tw2878843996050045342:0=0:=rfl
theorem tw2910609919460849807:0=0:=rfl
theorem tw2924597203103170677:0=0:=rfl
theorem tw2965125352208521119:0=0:=rfl
theorem tw2972514686349903234:0=0:=rfl
theorem tw2975709217455756120:0=0:=rfl
theorem tw297971269722091814:0=0:=rfl
theorem tw2988451766255067171:0=0:=rfl
theorem tw3002795768020413707:0=0:=rfl
theorem tw302023382947574297:0=0:=rfl
theorem tw304654302220672320:0=0:=rfl
theorem tw3143785405151724282:0=0:=rfl
theorem tw3254097082911018636:0=0:=rfl
theorem tw3315250197877816394:0=0:=rfl
theorem tw3330193361107606904:0=0:=rfl
theorem tw3331421620988305804:0=0:=rfl
theorem tw3337584539547039419:0=0:=rfl
theorem tw3389129807090800087:0=0:=rfl
theorem tw3422688185749166683:0=0:=rfl
theorem tw342308947776675178:0=0:=rfl
theorem tw3466367673801967747:0=0:=rfl
theorem tw3479634599624807885:0=0:=rfl
theorem tw3486219094355674750:0=0:=rfl
theorem tw350670483859837877:0=0:=rfl
theorem tw3512812017678644602:0=0:=rfl
theorem tw352232786441526191:0=0:=rfl
theorem tw3548060758652744671:0=0:=rfl
theorem tw3561193834555079511:0=0:=rfl
theorem tw3570499242123996262:0=0:=rfl
theorem tw3581848524822189991:0=0:=rfl
theorem tw3644161924160858147:0=0:=rfl
theorem tw3664424711883983056:0=0:=rfl
theorem tw3695669965767098725:0=0:=rfl
theorem tw3696473221133414273:0=0:=rfl
theorem tw3704924817259034979:0=0:=rfl
theorem tw3712731000106771831:0=0:=rfl
theorem tw3715792687998586317:0=0:=rfl
theorem tw3739144386018749749:0=0:=rfl
theorem tw3767615275625035234:0=0:=rfl
theorem tw3776753064480771068:0=0:=rfl
theorem tw3796891538752321733:0=0:=rfl
theorem tw381845443943030031:0=0:=rfl
theorem tw3820434133910038737:0=0:=rfl
theorem tw3831216023754155268:0=0:=rfl
theorem tw3855276242980373810:0=0:=rfl
theorem tw3874152929960365753:0=0:=rfl
theorem tw3901323768455840569:0=0:=rfl
theorem tw390997316461189296:0=0:=rfl
theorem tw4002441696211005659:0=0:=rfl
theorem tw4010397242664982755:0=0:=rfl
theorem tw4046864289407762814:0=0:=rfl
theorem tw4047667213573674445:0=0:=rfl
theorem tw4058662728301269685:0=0:=rfl
theorem tw4076138812419527698:0=0:=rfl
theorem tw4076874860590878102:0=0:=rfl
theorem tw4111001743050654279:0=0:=rfl
theorem tw4131498621145694574:0=0:=rfl
theorem tw4133729456124951355:0=0:=rfl
theorem tw4134505453457115739:0=0:=rfl
theorem tw4158126171336067921:0=0:=rfl
theorem tw4166218997396506358:0=0:=rfl
theorem tw4177254973167742082:0=0:=rfl
theorem tw4181406029030974548:0=0:=rfl
theorem tw4205137553216949640:0=0:=rfl
theorem tw4213018616267185653:0=0:=rfl
theorem tw4232285709927190386:0=0:=rfl
theorem tw4250876409542091131:0=0:=rfl
theorem tw4250950275838387964:0=0:=rfl
theorem tw427269002284569659:0=0:=rfl
theorem tw427420600052151026:0=0:=rfl
theorem tw4292522238394942308:0=0:=rfl
theorem tw4321519831107876412:0=0:=rfl
theorem tw4331257952254489624:0=0:=rfl
theorem tw4347277040485782778:0=0:=rfl
theorem tw4353914297306841546:0=0:=rfl
theorem tw439095664309466517:0=0:=rfl
theorem tw4392038535549328194:0=0:=rfl
theorem tw4468942710605802240:0=0:=rfl
theorem tw4498253355057717688:0=0:=rfl
theorem tw450566749975022562:0=0:=rfl
theorem tw4555866861457887817:0=0:=rfl
theorem tw4566856676736034171:0=0:=rfl
theorem tw4571971715460732019:0=0:=rfl
theorem tw4597200072644226624:0=0:=rfl
theorem tw462939625794472801:0=0:=rfl
theorem tw4655869559712951663:0=0:=rfl
theorem tw4695670854781333657:0=0:=rfl
theorem tw46980244435833615:0=0:=rfl
theorem tw4699463449715708850:0=0:=rfl
theorem tw4736427724481360342:0=0:=rfl
theorem tw4784893810139332661:0=0:=rfl
theorem tw479018264907363369:0=0:=rfl
theorem tw4807692442873511580:0=0:=rfl
theorem tw4828031223510198475:0=0:=rfl
theorem tw4840481374290595910:0=0:=rfl
theorem tw4856909995586565122:0=0:=rfl
theorem tw4859757453598101857:0=0:=rfl
theorem tw4916261283513009128:0=0:=rfl
theorem tw4940147422707163885:0=0:=rfl
theorem tw4951766788466123468:0=0:=rfl
theorem tw4977374598719398275:0=0:=rfl
theorem tw501154541418245514:0=0:=rfl
theorem tw5030852807827033675:0=0:=rfl
theorem tw5058314954733539658:0=0:=rfl
theorem tw5077617475879078156:0=0:=rfl
theorem tw5155950481276406077:0=0:=rfl
theorem tw5163715390036670947:0=0:=rfl
theorem tw517144808224063464:0=0:=rfl
theorem tw5186518429493523239:0=0:=rfl
theorem tw5225153198818245361:0=0:=rfl
theorem tw5225916559131626549:0=0:=rfl
theorem tw5240389563564037448:0=0:=rfl
theorem tw5240762971458559404:0=0:=rfl
theorem tw525707195689243683:0=0:=rfl
theorem tw5278709424875269971:0=0:=rfl
theorem tw5290597957214086601:0=0:=rfl
theorem tw5303079699428457377:0=0:=rfl
theorem tw5341934141677670832:0=0:=rfl
theorem tw5380135791562185454:0=0:=rfl
theorem tw5398424786039705171:0=0:=rfl
theorem tw5434309568573575005:0=0:=rfl
theorem tw5444345374180229054:0=0:=rfl
theorem tw5483185372664623402:0=0:=rfl
theorem tw55135466070179744:0=0:=rfl
theorem tw5535988348211436712:0=0:=rfl
theorem tw5536038536531405202:0=0:=rfl
theorem tw5596365628329696591:0=0:=rfl
theorem tw5597187220613765494:0=0:=rfl
theorem tw5609151216138764652:0=0:=rfl
theorem tw5647976800219259906:0=0:=rfl
theorem tw5667650583090716360:0=0:=rfl
theorem tw5702910450625016506:0=0:=rfl
theorem tw5705847716771211507:0=0:=rfl
theorem tw5728218623943512802:0=0:=rfl
theorem tw5738303106652476479:0=0:=rfl
theorem tw5739275251774677885:0=0:=rfl
theorem tw5766051744304087583:0=0:=rfl
theorem tw5860347150701562758:0=0:=rfl
theorem tw5868845118606482295:0=0:=rfl
theorem tw5889316905344633881:0=0:=rfl
theorem tw5915399644114372684:0=0:=rfl
theorem tw5922324665105752571:0=0:=rfl
theorem tw594810645892935528:0=0:=rfl
theorem tw5958459099580689026:0=0:=rfl
theorem tw5969682004907312646:0=0:=rfl
theorem tw5970215366352900667:0=0:=rfl
theorem tw5983031951866500094:0=0:=rfl
theorem tw602653604445443664:0=0:=rfl
theorem tw6042063481754889096:0=0:=rfl
theorem tw6124053682588569230:0=0:=rfl
theorem tw6143595290313323761:0=0:=rfl
theorem tw6176384092110617959:0=0:=rfl
theorem tw6203543418390704334:0=0:=rfl
theorem tw6211089042160764376:0=0:=rfl
theorem tw6240723676877644813:0=0:=rfl
theorem tw6265701101103706036:0=0:=rfl
theorem tw6286779285267259847:0=0:=rfl
theorem tw6333448901615975916:0=0:=rfl
theorem tw6370870915552960936:0=0:=rfl
theorem tw6381231289166406305:0=0:=rfl
theorem tw6383614241601562808:0=0:=rfl
theorem tw6431110157172167083:0=0:=rfl
theorem tw6438537300738474071:0=0:=rfl
theorem tw6446987485191755631:0=0:=rfl
theorem tw6448850889433096767:0=0:=rfl
theorem tw6451298284966591469:0=0:=rfl
theorem tw6460121766331871944:0=0:=rfl
theorem tw6468107147075657394:0=0:=rfl
theorem tw650146959520709813:0=0:=rfl
theorem tw6503730183909636620:0=0:=rfl
theorem tw6505410396798821541:0=0:=rfl
theorem tw657111498738832265:0=0:=rfl
theorem tw6572447435987645144:0=0:=rfl
theorem tw65929781887070819:0=0:=rfl
theorem tw661290744650703789:0=0:=rfl
theorem tw6623532728838073528:0=0:=rfl
theorem tw6624316729101989866:0=0:=rfl
theorem tw6662652255960138227:0=0:=rfl
theorem tw6664487174759623829:0=0:=rfl
theorem tw6674990990233134667:0=0:=rfl
theorem tw6694047246710070196:0=0:=rfl
theorem tw6699709698940308603:0=0:=rfl
theorem tw6735068310419243818:0=0:=rfl
theorem tw6746510453823603384:0=0:=rfl
theorem tw6754034310392073148:0=0:=rfl
theorem tw6756868429301003459:0=0:=rfl
theorem tw6761616313442571491:0=0:=rfl
theorem tw6812286434817487243:0=0:=rfl
theorem tw681777741448182936:0=0:=rfl
theorem tw6883741973766446791:0=0:=rfl
theorem tw6885214360128481674:0=0:=rfl
theorem tw6906291655842520137:0=0:=rfl
theorem tw6908635100366463001:0=0:=rfl
theorem tw6912233166142098652:0=0:=rfl
theorem tw6916252892733821390:0=0:=rfl
theorem tw6919701780365589675:0=0:=rfl
theorem tw6930518751129746686:0=0:=rfl
theorem tw7008692893051332821:0=0:=rfl
theorem tw705360758644809490:0=0:=rfl
theorem tw7069510175615937415:0=0:=rfl
theorem tw7079599612431449588:0=0:=rfl
theorem tw708234853630380328:0=0:=rfl
theorem tw7108139096449030536:0=0:=rfl
theorem tw7191137982244381804:0=0:=rfl
theorem tw7204493036743257322:0=0:=rfl
theorem tw7204998973626084599:0=0:=rfl
theorem tw7215319984434753242:0=0:=rfl
theorem tw72247145696351765:0=0:=rfl
theorem tw7249705126575804556:0=0:=rfl
theorem tw7281139961889257330:0=0:=rfl
theorem tw7297446738713254254:0=0:=rfl
theorem tw7313339093194340965:0=0:=rfl
theorem tw7314081408670574914:0=0:=rfl
theorem tw7444641836354208208:0=0:=rfl
theorem tw7475746777092488413:0=0:=rfl
theorem tw7527032243904285869:0=0:=rfl
theorem tw7657828476027519975:0=0:=rfl
theorem tw7671549972530922468:0=0:=rfl
theorem tw7673058066778466091:0=0:=rfl
theorem tw7675417749720738473:0=0:=rfl
theorem tw7681529838311687354:0=0:=rfl
theorem tw7717162694582976202:0=0:=rfl
theorem tw7744093853086628109:0=0:=rfl
theorem tw775762912060472103:0=0:=rfl
theorem tw7761843605638006849:0=0:=rfl
theorem tw7799483888651840948:0=0:=rfl
theorem tw7830913209206220567:0=0:=rfl
theorem tw7847650389618582240:0=0:=rfl
theorem tw788273225186049534:0=0:=rfl
theorem tw7913636548009798097:0=0:=rfl
theorem tw795583310449317561:0=0:=rfl
theorem tw7980593446034420393:0=0:=rfl
theorem tw7990429038631628895:0=0:=rfl
theorem tw8025738503920905074:0=0:=rfl
theorem tw8054331753737935190:0=0:=rfl
theorem tw8077755077468877343:0=0:=rfl
theorem tw8107780213005350392:0=0:=rfl
theorem tw8140125068956082859:0=0:=rfl
theorem tw814325599930780420:0=0:=rfl
theorem tw8148004212497801138:0=0:=rfl
theorem tw8150499350492408157:0=0:=rfl
theorem tw81815255157605957:0=0:=rfl
theorem tw8204474986945543665:0=0:=rfl
theorem tw8212240652046128837:0=0:=rfl
theorem tw8263863092937893816:0=0:=rfl
theorem tw8265191368974092141:0=0:=rfl
theorem tw8265311939077410998:0=0:=rfl
theorem tw8281120267493503204:0=0:=rfl
theorem tw8311017846404947139:0=0:=rfl
theorem tw8327351992414209593:0=0:=rfl
theorem tw8345894832289464959:0=0:=rfl
theorem tw8347795973495727564:0=0:=rfl
theorem tw8363718466572441477:0=0:=rfl
theorem tw8369368087495890639:0=0:=rfl
theorem tw8393700709775954928:0=0:=rfl
theorem tw8410488445778877200:0=0:=rfl
theorem tw8420165910927482534:0=0:=rfl
theorem tw8435561252592420358:0=0:=rfl
theorem tw8443935842833279946:0=0:=rfl
theorem tw8455645898260960030:0=0:=rfl
theorem tw8500458220134822360:0=0:=rfl
theorem tw8523463495250067690:0=0:=rfl
theorem tw8529706226740600733:0=0:=rfl
theorem tw8531415777343470585:0=0:=rfl
theorem tw8538268897159353584:0=0:=rfl
theorem tw8541664164027344294:0=0:=rfl
theorem tw8547604310838440241:0=0:=rfl
theorem tw860223938195835975:0=0:=rfl
theorem tw8613191699965854469:0=0:=rfl
theorem tw8620165645458168473:0=0:=rfl
theorem tw8622502720953521162:0=0:=rfl
theorem tw8628236747792435071:0=0:=rfl
theorem tw8640399195822439974:0=0:=rfl
theorem tw8640417174963836015:0=0:=rfl
theorem tw8657480035899644758:0=0:=rfl
theorem tw8679839319945467846:0=0:=rfl
theorem tw8689318265317240412:0=0:=rfl
theorem tw8693662901424576113:0=0:=rfl
theorem tw8694864300669457046:0=0:=rfl
theorem tw8716659796364181309:0=0:=rfl
theorem tw8735323631387419056:0=0:=rfl
theorem tw8746941081350896204:0=0:=rfl
theorem tw8779778587388263019:0=0:=rfl
theorem tw8800459187187324500:0=0:=rfl
theorem tw8810280945414196856:0=0:=rfl
theorem tw8874702517807110003:0=0:=rfl
theorem tw887695700811335699:0=0:=rfl
theorem tw8968299171318014206:0=0:=rfl
theorem tw8985709366574770022:0=0:=rfl
theorem tw8999917154711486175:0=0:=rfl
theorem tw9016798869158615873:0=0:=rfl
theorem tw9038659593494541401:0=0:=rfl
theorem tw9059672392935016618:0=0:=rfl
theorem tw9059832203979395877:0=0:=rfl
theorem tw909434713344708518:0=0:=rfl
theorem tw9108098604805947806:0=0:=rfl
theorem tw9152664641465651067:0=0:=rfl
theorem tw9165953624949470791:0=0:=rfl
theorem tw9178861053002065721:0=0:=rfl
theorem tw9227057690007400460:0=0:=rfl
theorem tw9227541089923242437:0=0:=rfl
theorem tw9229161468869434483:0=0:=rfl
theorem tw9233335307524088747:0=0:=rfl
theorem tw9238823003894178615:0=0:=rfl
theorem tw9250549774821547598:0=0:=rfl
theorem tw9259421805112917234:0=0:=rfl
theorem tw9287724387753133302:0=0:=rfl
theorem tw93012567124736588:0=0:=rfl
theorem tw9305691244287143441:0=0:=rfl
theorem tw9326722878772556681:0=0:=rfl
theorem tw9328819404386307858:0=0:=rfl
theorem tw9332579688445097367:0=0:=rfl
theorem tw9361663168868926718:0=0:=rfl
theorem tw9378254376102152143:0=0:=rfl
theorem tw9382581127745807760:0=0:=rfl
theorem tw9407396174263392564:0=0:=rfl
theorem tw9456006794991739263:0=0:=rfl
theorem tw9486757043174368735:0=0:=rfl
theorem tw9514800995652322822:0=0:=rfl
theorem tw9516688046558066552:0=0:=rfl
theorem tw953821971998124167:0=0:=rfl
theorem tw956942650209027819:0=0:=rfl
theorem tw9576743257966636567:0=0:=rfl
theorem tw9589608677651300831:0=0:=rfl
theorem tw9590619109379692515:0=0:=rfl
theorem tw9590735534726013551:0=0:=rfl
theorem tw9601329371697537090:0=0:=rfl
theorem tw9631074621892390191:0=0:=rfl
theorem tw9666326922614434849:0=0:=rfl
theorem tw9673933992889287130:0=0:=rfl
theorem tw9684699057600944294:0=0:=rfl
theorem tw9739860059890490050:0=0:=rfl
theorem tw9743097575036673082:0=0:=rfl
theorem tw9777375502002234229:0=0:=rfl
theorem tw9800703332001039478:0=0:=rfl
theorem tw9831455883205970180:0=0:=rfl
theorem tw9843447840031818808:0=0:=rfl
theorem tw9851269098105209369:0=0:=rfl
theorem tw9854493187847425173:0=0:=rfl
theorem tw987869383939708018:0=0:=rfl
theorem tw9936536881743500907:0=0:=rfl
theorem tw995497684801637723:0=0:=rfl
theorem tw9961057766049560675:0=0:=rfl
theorem tw9962302188120564619:0=0:=rfl
end Mine.top
set_option Elab.async true
set_option maxRecDepth 100000 in
set_option maxHeartbeats 8000000 in
theorem Mine.top : PySem.Challenge.rw_pq0490_01.Holds := by
  w_on
  o_law
  k_head
  case hw => w_witness2
  intro w s₀ s₁ mg mb G Y fa o pm cd doc dV kV ho hd hcd hD hmg hg args vals as hpre hlay hrd hwl hlo
  have KX := kIn_of Y
  clear hcd hD hd
  refine Ground.open G ?_
  intro T B D TE TW
  clear D
  wrow_args hpre hlay hrd hwl hlo
  refine Mine.ak0 KX T hg hmg (by kernel_rfl!) (by assumption) (by assumption) (by assumption) (fun o => ?_) (fun _ => rfl) ⟨.bool true, by wrow_post, fun h => .bool _⟩
  constructor
  all_goals first
    | kernel_rfl!
    | exact Mine.ak7 (by kernel_rfl!) (by kernel_rfl!) (by decide +kernel) (by decide +kernel) (by kernel_rfl!)
    | exact Mine.ak1 (by kernel_rfl!) (by kernel_rfl!) (by kernel_rfl!) (by kernel_rfl!) (by kernel_rfl!)
    | exact Mine.ak2 (by kernel_rfl!) (by kernel_rfl!)
    | exact Mine.akA (by kernel_rfl!)
    | exact Mine.ak6 (by kernel_rfl!) (by kernel_rfl!) (by kernel_rfl!) (by kernel_rfl!) (by kernel_rfl!) (by kernel_rfl!)
    | exact Mine.ak5 (by kernel_rfl!) (by kernel_rfl!) (by kernel_rfl!) (by kernel_rfl!) (by kernel_rfl!) (by kernel_rfl!) (by kernel_rfl!)
    | exact ⟨by kernel_rfl!, by kernel_rfl!⟩
    | exact ⟨by kernel_rfl!, by kernel_rfl!, by kernel_rfl!⟩
    | exact ⟨by kernel_rfl!, by kernel_rfl!, by kernel_rfl!, by kernel_rfl!, by kernel_rfl!, by kernel_rfl!⟩
theorem PySem.Challenge.cw_pq0490_01_holds : PySem.Challenge.rw_pq0490_01.Holds :=
  Mine.top
